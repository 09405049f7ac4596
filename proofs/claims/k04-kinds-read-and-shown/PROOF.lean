import PyProof.Rows.All
import Wide.All
import OpenK.AllK
import Wide.FinOn
import HandS.ForMost
import HandS.Exc
import HandS.ExcIs
import HandS.ExcField
import KE.KExcSuper
import HandS.Star
import PyProof.DictUpdate
import HandS.Style
import HandS.IsInst
import HandS.TupAny
import HandS.TupMul
import HandS.Flow
import HandS.Wide
import HandS.WideBits
import HandS.Zip
import HandS.Conv
import HandS.Deep
import HandS.Lambda
import HandS.RaiseMore
import PyProof.ReprRoads
import KE.DataMinMax
import HandS.SortKw
import HandS.DictComp
import HandS.ClsMeth
import HandS.WordsExc
import KE.KExcIs
import HandS.More
import HandS.Property
import PyProof.InstNe
import KE.KDictSum
import KE.KNestM
import PySem.Challenge.RW_laterknown_k04_kinds_read_and_shown
set_option Elab.async false
set_option linter.all false
section
set_option maxRecDepth 100000
set_option maxHeartbeats 2000000
/-! an own error over ValueError: def __init__(self, value): super().__init__('..'); self.value = value -/
namespace PySem
namespace XvX
open PySem.W PySem.Calls PyProof.Rows PySem.HandSPX
def iA (p1 p2 : Pos) : Arguments := { posonlyargs := [], args := [{ arg := "self", annotation := none, pos := p1 }, { arg := "value", annotation := none, pos := p2 }], vararg := none, kwonlyargs := [], kw_defaults := [], kwarg := none, defaults := [] }
def iB (msg : Str) (k : Nat) (q1 q2 q3 q4 q5 q6 q7 q8 q9 q10 : Pos) : List Stmt :=
  [.Expr (.Call (.Attribute (.Call (.Name "super" q1) [] [] q2) "__init__" q3) [.Constant (.str msg) k q4] [] q5) q6, .Assign [.Attribute (.Name "self" q7) "value" q8] (.Name "value" q9) q10]
/-- what the written part says of the class at C and of its __init__, at fI -/
structure XvT (prog : Program) (K : Frag) (mg : Str → Option Value) (nm : Str) (C fI : Addr) : Prop where
  gC : mg nm = some (.ref C)
  cls : ∃ n q N bs bm sn sub ab col dd k0 k1 k2 k3 k5, K.lookup C = some (excClassObj n q C N bs bm true sn sub ab col dd k0 k1 k2 k3 k5 "ValueError.__new__") ∧ refsVE bm = true
  sa : findIn K (.ref C) "__setattr__" = some (some (.builtin "object.__setattr__"))
  ga : findIn K (.ref C) "__getattribute__" = some (some (.builtin "BaseException.__getattribute__"))
  gg : findIn K (.ref C) "__getattr__" = some none
  noN : findIn K (.ref C) "value" = some none
  iC : findIn K (.ref C) "__init__" = some (some (.ref fI))
  tC : typeIn K (.ref fI) = some (.type "function")
  kC : keepIn K (.ref C) = true
  exC : subIn K (.ref C) (.type "BaseException") = some true
  veC : subIn K (.ref C) (.type "ValueError") = some true
  tyC : typeIn K (.ref C) = some (.type "type")
  hdC : hasDictIn K C = true
  op : nsIn K cStatics "thirdparty.any" = some none
  sI : ks_superIn K C C "__init__" = some (some (.builtin "ValueError.__init__"))
  sS : mroIn K C (.ref C) = some true
  sup : mg "super" = none
  top : (prog.main.scope.names.lookup ("super" : Str)).isSome = false
  fn : ∃ (oc : Value) (od : Option Addr) (qual msg : Str) (kk : Nat) (sc : Scope) (kV doc pm : Value) (an : Option Addr) (cda : Addr) (ct : Value) (osl : Array (Option Value)) (cc : Addr) (p1 p2 q1 q2 q3 q4 q5 q6 q7 q8 q9 q10 : Pos) (ccl : Value) (cdd : Option Addr) (vs : Array Value) (ccs : Array (Option Value)) (file : Str) (tf : Tok) (cl : Value) (cld : Option Addr) (csl : Array (Option Value)),
    K.lookup fI = some ⟨oc, od, .func (ksFn "__init__" qual (iA p1 p2) (iB msg kk q1 q2 q3 q4 q5 q6 q7 q8 q9 q10) sc .none kV doc pm an (.ref cda) ct cc), osl⟩ ∧ codeIn K (.ref cda) qual = true ∧
    K.lookup cda = some ⟨ccl, cdd, .fields vs, ccs⟩ ∧ vs[2]? = some (.str file tf) ∧ ((prog.main.file : Str) == file) = true ∧ K.lookup cc = some ⟨cl, cld, .cell (some (.ref C)), csl⟩ ∧
    sc.names.lookup ("super" : Str) = some .globalImplicit ∧ sc.names.lookup ("__class__" : Str) = some .free ∧ sc.names.lookup ("self" : Str) = some .local ∧ sc.names.lookup ("value" : Str) = some .local ∧
    sc.kind = .function ∧ sc.isCoroutine = false ∧ sc.isGenerator = false ∧ (∀ x ∈ sc.names, x.2 ≠ .cell) ∧ (q3.endLine == q5.line) = true
theorem one_size (v : Value) : [v].length ≤ sizeLine := by
  rw [sizeLine_eq]
  exact (by decide : 1 ≤ 16777216)
theorem eval_super {env : Env} {msg : Str} {kk : Nat} {q1 q2 q3 q4 q5 : Pos} (hln : (q3.endLine == q5.line) = true) : ∃ pl : Sem Bool, eval (.Call (.Attribute (.Call (.Name "super" q1) [] [] q2) "__init__" q3) [.Constant (.str msg) kk q4] [] q5) env = (do
      let ov ← attributeBase (.Call (.Name "super" q1) [] [] q2) "__init__" env (eval (.Call (.Name "super" q1) [] [] q2) env)
      standAt q3.atName
      let (f, first) ← holding [ov] (getMethod ov "__init__" pl)
      callWith q5 f first (backTo q5 (starEach [.Constant (.str msg) kk q4] env)) []) := by
  have e : eval (.Call (.Attribute (.Call (.Name "super" q1) [] [] q2) "__init__" q3) [.Constant (.str msg) kk q4] [] q5) env = (do
      let ov ← attributeBase (.Call (.Name "super" q1) [] [] q2) "__init__" env (eval (.Call (.Name "super" q1) [] [] q2) env)
      standAt q3.atName
      methodCall (.Call (.Name "super" q1) [] [] q2) "__init__" q3 q5 env ov 1 (backTo q5 (starEach [.Constant (.str msg) kk q4] env)) []) := by first | rfl | (rw [eval]; rfl)
  rw [e]
  unfold methodCall methodCallPos calleeOf
  have f : methodCallForm 1 (backTo q5 (starEach [.Constant (.str msg) kk q4] env)) [] = true := by first | rfl | decide
  simp only [f, hln, Bool.not_true, Bool.false_or, if_true]
  exact ⟨_, rfl⟩
/-- what __init__ leaves of a fresh exception at x -/
structure InitEnd (h h' : Heap) (x C dx : Addr) (v : Value) : Prop where
  keep : ∀ b o, b ≠ x → h.get? b = some o → h'.get? b = some o
  obj : ∃ t1, h'.get? x = some { cls := .ref C, dict := some dx, data := .fields #[.ref t1, .none, .none, .none, .bool false, .none] }
  dbig : h.objs.size ≤ dx
  dne : dx ≠ x
  ns : h'.Ns1 dx (fun y => if y = "value" then some v else none)
section
variable {prog : Program} {w : World} {A : Around} {E : Value → Shared → Prop} {R : Result → Shared → Prop} {s : Shared} {K : Frag} {mg : Str → Option Value} {nm : Str} {C fI : Addr}
theorem xv_init (T : XvT prog K mg nm C fI) {x t0 : Addr} {v : Value} (X : K.In s.heap) (G : s.heap.Ns mainGlobals mg) (Bt : ∃ mb, s.heap.Ns builtinsNs mb ∧ ∀ x : Str, x ≠ "__name__" → mb x = bootBuiltins x) (hlim : s.heap.NoLimit) (hx : s.heap.get? x = some (excO C t0)) (hnx : K.lookup x = none) (hroom : A.depth < recursionLimit)
    (hq : ∀ h' tk dx, InitEnd s.heap h' x C dx v → R (.ok (.ret .none)) { s with heap := h', toks := tk }) :
    codeAny (model prog w) A (.call (.ref fI) ⟨[.ref x, v], []⟩) R s := by
  obtain ⟨oc, od, qual, msg, kk, sc, kV, doc, pm, an, cda, ct, osl, cc, p1, p2, q1, q2, q3, q4, q5, q6, q7, q8, q9, q10, ccl, cdd, vs, ccs, file, tf, cl, cld, csl, ho, hcd, hcode, hvs, hfile, hcell, hks, hkc, hkx, hkv, hk, hco, hgen, hnc, hln⟩ := T.fn
  obtain ⟨n, q, N, bs, bm, sn, sub, ab, col, dd, k0, k1, k2, k3, k5, hC, hbm⟩ := T.cls
  obtain ⟨mb, hB, hboot⟩ := Bt
  have hcl : clsIn K C = some { name := n, bases := bs, mro := .ref C :: bm, ns := N, qualname := q, hasDict := true, slotNames := sn, subclasses := sub, abstract := ab, collection := col, hasDel := false } := by unfold clsIn; rw [hC] <;> rfl
  refine ks_codeAny_call_defAt (binds := [("self", .ref x), ("value", v)]) hroom (X _ _ ho) rfl hlim (codeRec_of X hcd) rfl (BindsTo.of_eq (by first | rfl | with_unfolding_all rfl)) hnc ?_ (fun h₁ hns hk₁ => ?_) hco hgen hk
  · intro y hy
    simp only [List.mem_cons, List.not_mem_nil, or_false] at hy
    rcases hy with rfl | rfl
    · exact hkx
    · exact hkv
  obtain ⟨hp, g, d, t, os⟩ := s
  have X₁ : K.In h₁ := X.keeps hk₁
  have hx₁ : h₁.get? x = some (excO C t0) := hk₁ _ _ hx
  obtain ⟨pl, hev⟩ := eval_super (env := callEnv (ksFn "__init__" qual (iA p1 p2) (iB msg kk q1 q2 q3 q4 q5 q6 q7 q8 q9 q10) sc .none kV doc pm an (.ref cda) ct cc) hp.objs.size fI) (msg := msg) (kk := kk) (q1 := q1) (q2 := q2) (q4 := q4) hln
  refine ks_wpAt_execs_cons (ks_wpAt_Expr_any (ks_wpAt_MethodCall (pl := pl) ?_ hev) ?_ ?_)
  rotate_left
  · show (sc.kind == .module && _) = false
    rw [hk]; rfl
  · rfl
  have hf₁ := X₁ _ _ ho
  have hcode₁ := X₁ _ _ hcode
  have hC₁ := X₁ _ _ hC
  refine ks_wpAt_super_base (f := fI) (cc := cda) hks hkc (by decide) rfl hf₁ rfl rfl rfl hcode₁ rfl hvs hfile T.top ?_
  refine ks_loadName_global hk hks (loadGlobal_builtin (v := .type "super") (G.keeps hk₁) T.sup (hB.keeps hk₁) ((hboot _ (by decide +kernel)).trans (by first | rfl | kernel_rfl)) ⟨rfl, ?_⟩)
  refine wpAny_loadName_free hk hkc rfl ⟨_, X₁ _ _ hcell, rfl⟩ ?_
  refine wpAny_loadName_local (v := .ref x) hk hkx hns (by rfl) ?_
  refine ks_wpAny_isType_cls hC₁ rfl ⟨rfl, ?_⟩
  refine ks_wpAny_call_super hC₁ rfl hx₁ rfl (fun c e => nomatch e) (looks_mroIn X₁ T.sS) (fun h₂ e₂ k₂ => ?_)
  have X₂ : K.In h₂ := X₁.keeps k₂
  have hx₂ : h₂.get? x = some (excO C t0) := k₂ _ _ hx₁
  have I₂ : InstAt h₂ x (excO C t0) C none := ⟨hx₂, rfl, rfl, trivial⟩
  have hI : Looks (model prog w) h₂ (isInstance (.ref x) (.type "ValueError")) true := I₂.type.andThen (looks_subIn X₂ T.veC)
  have hsI := T.sI
  unfold ks_superIn at hsI
  rw [hcl] at hsI
  refine kxs_getMethod kxs_ValueError e₂ (looks_opaque X₂ T.op) (l₀ := .ref C :: bm) (fun A Q E s k q => wpAny_bind ((looks_clsIn X₂ hcl) A _ E s k (wpAny_pure q))) rfl X₂ hsI hI (ks_ne X₂ I₂ hcl) (by decide) ?_
  refine kxs_callWith (i := "ValueError.__init__") (x := x) rfl (evalArgs_plain ?_)
  refine spliced_cons (Calls.Constant_str (x := msg) (k := kk) (pos := q4) (spliced_nil ?_))
  have hu : (h₂.push (kxs_mw "ValueError.__init__" x)).get? h₂.objs.size = some (kxs_mw "ValueError.__init__" x) := Heap.get?_push_at rfl rfl
  refine ⟨hu, ?_⟩
  have k₃ : ∀ b o, h₂.get? b = some o → (h₂.push (kxs_mw "ValueError.__init__" x)).get? b = some o := fun b o e => Heap.get?_push_of_some _ e
  have X₃ := X₂.keeps k₃
  have hx₃ := k₃ _ _ hx₂
  have hC₃ := X₃ _ _ hC
  have FB := F.excBase_ValueError
  refine wpAny_call (codeAny_of_tree ?_)
  show wpAny _ _ (callAny (.ref _) ⟨[Value.str msg _], []⟩) _ _ _
  simp only [callAny]
  refine wpAny_bind (wpAny_load hu ?_)
  simp only [kxs_mw, show (Value.type "method-wrapper" == Value.type "method" || Value.type "method-wrapper" == Value.type "builtin_function_or_method" || Value.type "method-wrapper" == Value.type "method-wrapper") = true by decide, if_true]
  refine KFB.if_so (by decide) ?_
  refine wpAny_bind (check_bound_init FB.toExcCallFacts hC₃ hx₃ rfl ?_)
  refine wpAny_bind (wpAny_pure (wpAny_pure ?_))
  refine ⟨plainId_quiet FB.init.plain _, codeAny_builtin FB.initEntry ?_⟩
  refine exc_init_tree (cls := .ref C) (t0 := t0) (dv := none) (c2 := .none) (c3 := .none) (b4 := .bool false) hx₃ (one_size _) fun h₄ k₄ hx₄ _ => ?_
  have X₄ : K.In h₄ := fun b o e => k₄ b o (fun z => by rw [z, hnx] at e; cases e) (X₃ b o e)
  have hxL : hp.objs.size ≠ x := Nat.ne_of_gt (Heap.lt_size hx)
  have hns₄ : h₄.Ns hp.objs.size (fun y => [(Str.ofString "self", Value.ref x), (Str.ofString "value", v)].reverse.lookup y) := by
    obtain ⟨oL, es, ep, hL, r⟩ := hns
    exact ⟨oL, es, ep, k₄ _ _ hxL (k₃ _ _ (k₂ _ _ hL)), r⟩
  show wpAt _ _ _ (execs _ _) _ _ _
  refine wpAt_of_wpAny (wpAny_execs_cons (plainObj_wpAny_Assign_Attribute ?_))
  refine wpAny_Name (wpAny_loadName_local (v := v) hk hkv hns₄ (by rfl) ?_)
  refine wpAny_Name (wpAny_loadName_local (v := .ref x) hk hkx hns₄ (by rfl) ?_)
  refine set_plain X₄ (od := none) ⟨hx₄, rfl, rfl, trivial⟩ T.sa ?_
  refine exc_osa X₄ hx₄ hcl (show refsVE (.ref C :: bm) = true from hbm) rfl T.noN (fun h₅ tk₅ dx k₅ dn dne hx₅ hn₅ => ?_)
  show wpAny _ _ (execs _ _) _ _ _
  refine wpAny_execs_nil (hq h₅ tk₅ dx ⟨fun b o hb e => k₅ b o hb (k₄ b o hb (k₃ b o (k₂ b o (hk₁ b o e)))), ⟨_, hx₅⟩, ?_, dne, hn₅⟩)
  have z : hp.objs.size < h₄.objs.size := hns₄.lt
  exact Nat.le_of_lt (Nat.lt_of_lt_of_le z dn)
structure OwnMade (h h' : Heap) (e C d : Addr) (v : Value) : Prop where
  keep : ∀ b o, h.get? b = some o → h'.get? b = some o
  new : h.objs.size ≤ e
  obj : ∃ oe vs, h'.get? e = some oe ∧ oe.cls = .ref C ∧ oe.dict = some d ∧ oe.data = .fields vs ∧ vs[1]? = some .none
  dbig : h.objs.size ≤ d
  dne : d ≠ e
  ns : h'.Ns1 d (fun y => if y = "value" then some v else none)
theorem xv_made (T : XvT prog K mg nm C fI) {v : Value} (X : K.In s.heap) (G : s.heap.Ns mainGlobals mg) (Bt : ∃ mb, s.heap.Ns builtinsNs mb ∧ ∀ x : Str, x ≠ "__name__" → mb x = bootBuiltins x) (hlim : s.heap.NoLimit) (hroom : A.depth + 1 < recursionLimit)
    (hq : ∀ h' tk e d, OwnMade s.heap h' e C d v → R (.ok (.ret (.ref e))) { s with heap := h', toks := tk }) :
    codeAny (model prog w) A (.call (.ref C) ⟨[v], []⟩) R s := by
  obtain ⟨n, q, N, bs, bm, sn, sub, ab, col, dd, k0, k1, k2, k3, k5, hC, hbm⟩ := T.cls
  obtain ⟨hp, g, dr, tk, os⟩ := s
  have k : ∀ b o, hp.get? b = some o → ((hp.push (kdv_tup [v])).push (excO C hp.objs.size)).get? b = some o := fun b o e => Heap.get?_push_of_some _ (Heap.get?_push_of_some _ e)
  have hget : ((hp.push (kdv_tup [v])).push (excO C hp.objs.size)).get? (hp.objs.size + 1) = some (excO C hp.objs.size) := by heap_get
  have hnx : K.lookup (hp.objs.size + 1) = none := by
    cases e : K.lookup (hp.objs.size + 1) with
    | none => rfl
    | some o =>
      have z : hp.get? (hp.objs.size + 1) = some o := X _ _ e
      exact absurd (Nat.lt_of_succ_lt (Heap.lt_size z)) (Nat.lt_irrefl _)
  obtain ⟨mb, hB, hboot⟩ := Bt
  refine call_own F.excBase_ValueError (fun X => refsVE_contains X bm hbm) (X _ _ hC) (looks_findIn X T.iC) (fun self => bind_fn X self T.tC) (one_size v) ?_
  refine xv_init (s := ⟨(hp.push (kdv_tup [v])).push (excO C hp.objs.size), g, dr, tk, os⟩) T (X.keeps k) (G.keeps k) ⟨mb, hB.keeps k, hboot⟩ (hlim.keeps k) hget hnx ?_ fun h' tk' dx ⟨k', ⟨t1, hx⟩, dn, dne, hns⟩ => ?_
  · show A.depth + 1 < recursionLimit
    exact hroom
  · have old : ∀ b o, hp.get? b = some o → h'.get? b = some o := fun b o e => k' b o (Nat.ne_of_lt (Nat.lt_succ_of_lt (Heap.lt_size e))) (k b o e)
    have z : hp.objs.size + 1 + 1 ≤ dx := by
      first
        | (simpa only [Heap.size_push] using dn)
        | exact dn
        | (have q := dn; rw [Heap.size_push, Heap.size_push] at q; exact q)
    exact ⟨rfl, hq h' tk' (hp.objs.size + 1) dx ⟨old, Nat.le_succ _, ⟨_, _, hx, rfl, rfl, rfl, rfl⟩, Nat.le_trans (Nat.le_trans (Nat.le_succ _) (Nat.le_succ _)) z, dne, hns⟩⟩
end
end XvX
end PySem
namespace L2
open PySem PySem.Spec PyProof.Rows
theorem relO_val {v : V} {v' : Value} (r : RelV v v') (f : Str) : RelO (List.lookup f [(("value" : Str), v)]) (if f = "value" then some v' else none) := by
  by_cases hw : f = "value"
  · subst hw
    rw [if_pos rfl]
    have q : List.lookup ("value" : Str) [(("value" : Str), v)] = some v := by simp [List.lookup]
    rw [q]
    exact r
  · rw [if_neg hw]
    have qw : (f == ("value" : Str)) = false := by simpa using hw
    have q2 : List.lookup f [(("value" : Str), v)] = none := by simp [List.lookup, qw]
    rw [q2]
    trivial
section
variable {X : Cx} {C fI : Addr} {nm : Str}
def tMkVal (C : Addr) (ta : TA) : St → Hp → XK → Prop := fun σ H Q => ta σ H fun vs H1 => ∃ v, vs = [v] ∧ ∀ d, H1 d = none → Q (.ref C) (some d) (upd H1 d (.xd [(("value" : Str), v)]))
theorem pmk_val {a : Expr} {ta : TA} {p pos : Pos} {k : Nat} (T : PySem.XvX.XvT X.prog X.K X.mg nm C fI) (hr : Room k X.A) (ha : PA X [a] ta) (hg : Gl X nm := by rfl) (hdb : (nm == ("__debug__" : Str)) = false := by decide)
    (he : starEach (a :: []) X.env = (false, eval a X.env) :: starEach [] X.env := by rfl) (hpl : (backTo pos (starEach [] X.env)).any (·.1) = false := by rfl) :
    PMk X (.Call (.Name nm p) [a] [] pos) (tMkVal C ta) := by
  intro pins s σ H Q I h
  refine wpAny_Call_Name_kw (ld_glob I hg T.gC ?_ hdb)
  refine PySem.W.callWith_K (h₀ := X.base) I.ok.mod.kin T.kC (thn (ha.run pos pins s σ H _ I h) fun us s1 hh => ?_) he hpl
  obtain ⟨vs, H1, I1, r1, v, ev, q1⟩ := hh
  subst ev
  refine ⟨I1.kIn, ?_⟩
  cases r1 with
  | cons rv rn =>
    rename_i v' us'
    cases rn
    show wpAny _ _ (call (.ref C) [v']) _ _ _
    have hlim := I1.nolimit
    have hG := I1.ok.mod.glob.keeps I1.bk
    obtain ⟨mb, hB, hboot⟩ := I1.ok.mod.blt
    have hB := hB.keeps I1.bk
    obtain ⟨hp, g, dr, tk, os⟩ := s1
    refine wpAny_call (PySem.XvX.xv_made T I1.kIn hG ⟨mb, hB, hboot⟩ hlim (by have := hr.dp; omega) fun h' tk' e d M => ?_)
    show MkP X pins σ Q (.ref e) ⟨h', g, dr, tk', os⟩
    obtain ⟨oe, fv, hoe, hc, hd, hdat, h1⟩ := M.obj
    have hns := M.ns
    obtain ⟨G', g1, g2⟩ := restrict h' fun b => decide (b ≠ e)
    have gk : ∀ b, b ≠ e → G'.get? b = h'.get? b := fun b hb => g1 b (decide_eq_true hb)
    have ge : G'.get? e = none := g2 e (by simp)
    have old : ∀ b o, hp.get? b = some o → G'.get? b = some o := fun b o q => (gk b (Nat.ne_of_lt (Nat.lt_of_lt_of_le (Heap.lt_size q) M.new))).trans (M.keep b o q)
    have ob : ObjOk X.prog X.w (upd H1 d (.xd [(("value" : Str), v)])) G' d (.xd [(("value" : Str), v)]) :=
      ⟨_, hns.at (fun o q => (gk d M.dne).trans q), fun f => relO_val rv f⟩
    have J : Inv X pins σ (upd H1 d (.xd [(("value" : Str), v)])) ⟨G', g, dr, tk', os⟩ := I1.laid (t' := tk') old M.dbig ob
    refine ⟨e, oe, fv, ⟨G', g, dr, tk', os⟩, _, .ref C, some d, rfl, J, fun b o q => ?_, ge, hoe, ⟨hc, hd⟩, hdat, h1, ?_, rfl, I1.bare, raises_own T.exC T.tyC, q1 d (I1.hok.fresh M.dbig)⟩
    · by_cases hb : b = e
      · have q' : G'.get? b = some o := q
        rw [hb, ge] at q'; cases q'
      · exact (gk b hb).symm.trans q
    · rw [upd_ne (Ne.symm M.dne)]
      exact I1.hok.fresh M.new
end
end L2
end
section
set_option maxRecDepth 100000
set_option maxHeartbeats 2000000
/-! try .. except x as n: suite; the error is held as a value behind the suite -/
namespace L2
open PySem PySem.Spec PyProof.Rows
/-- an error of the class cls, its dict at d -/
def ErV (a : Addr) (cls : Value) (d : Addr) : HO := .ext fun h => ∃ (oe : Obj) (vs : Array Value), h.get? a = some oe ∧ Zc cls (some d) oe ∧ oe.data = .fields vs
section
variable {X : Cx} {pins : List (Addr × Obj)} {σ : St} {H : Hp} {s : Shared}
theorem Inv.track {a d : Addr} {oe : Obj} {vs : Array Value} {cls : Value} (I : Inv X pins σ H s) (ha : s.heap.get? a = some oe) (hd : oe.data = .fields vs) (hz : Zc cls (some d) oe) (na : H a = none) (n0 : X.s_0.heap.get? a = none)
    (nL : a ≠ X.env.locals) (np : ∀ p ∈ X.pn ++ pins, p.1 ≠ a) : Inv X pins σ (upd H a (ErV a cls d)) s := by
  have un : Un X.fs X.ex H (upd H a (ErV a cls d)) s.heap s.heap → True := fun _ => trivial
  have ne : ∀ b o, H b = some o → b ≠ a := fun b o e z => by rw [z, na] at e; cases e
  refine ⟨I.ok, I.os, I.bare, ⟨I.base.keep, I.base.slot, fun b o e n hx => ?_, I.base.there, fun b xs q => ?_, fun b o u q => ?_, fun b ps q => ?_⟩, I.loc, I.cell, ?_, fun x c e => ?_, fun p hp => ?_, fun b u e => ?_, I.len⟩
  · rw [upd_ne (fun z => by rw [z, n0] at e; cases e)]
    exact I.base.free b o e n hx
  · have := I.base.tups b xs q
    rw [upd_ne (ne _ _ this)]; exact this
  · have := I.base.frzs b o u q
    rw [upd_ne (ne _ _ this)]; exact this
  · obtain ⟨m, this⟩ := I.base.tbls b ps q
    exact ⟨m, by rw [upd_ne (ne _ _ this)]; exact this⟩
  · rw [upd_ne (Ne.symm nL)]; exact I.free
  · obtain ⟨v, o, ho, hdc⟩ := I.cell x c e
    have : c ≠ a := fun z => by
      rw [z, ha] at ho
      cases ho
      rw [hd] at hdc; cases hdc
    rw [upd_ne this]; exact I.freeC x c e
  · obtain ⟨e, n, l, f, c⟩ := I.pin p hp
    exact ⟨e, by rw [upd_ne (np p hp)]; exact n, l, f, c⟩
  · by_cases hb : b = a
    · subst hb
      rw [upd_same] at e
      cases e
      exact ⟨⟨oe, vs, ha, hz, hd⟩, ⟨oe, ha⟩, fun h1 h2 ⟨o, v, q, r⟩ k => ⟨o, v, k o q, r⟩⟩
    · rw [upd_ne hb] at e
      exact (I.hok b u e).stay (fun c w _ q => q) (fun c q => by rw [upd_ne (ne _ _ q)]; exact q) fun c xs q => by rw [upd_ne (ne _ _ q)]; exact q
end
/-- what the clause 'except x as n' wishes of an error of the body, the error held behind it -/
def wKeep (K : PySem.W.Frag) (c : Value) (i : Nat) (ts : Addr → Value → Option Addr → TS) (Wout : WX) (D : Ends) : WX := fun cls d σ H =>
  ∃ b, PySem.W.exmOne K cls c = some b ∧ (b = true → ∃ dd, d = some dd ∧ ∀ a, H a = none → ts a cls d { nx := fun σ' H' => D.nx (σ'.set i none) (upd H' a (ErV a cls dd)), rt := fun _ _ => False, bk := fun _ _ => False, ct := fun _ _ => False } (σ.set i (some (.ref a))) H) ∧
    (b = false → Wout cls d σ H)
/-- a caught error: where it stands, and that nothing of ours stood there -/
structure Cgt (X : Cx) (pins : List (Addr × Obj)) (a : Addr) (sI : Shared) : Prop where
  loc : a ≠ X.env.locals
  fs : a ∉ X.fs
  n0 : X.s_0.heap.get? a = none
  pn : ∀ p ∈ X.pn ++ pins, p.1 ≠ a
theorem cgt_of {X : Cx} {pins : List (Addr × Obj)} {a : Addr} {sI : Shared} {σ : St} {H : Hp} {B h : Heap} {o : Obj} {fv : Array Value} (J : Inv X pins σ H sI) (hs : X.stack = X.env :: X.outer) (hf : X.env.frame = some X.env.locals) (hex : X.ex = [])
    (nb : ∀ b u, sI.heap.get? b = some u → b ∉ frs X.stack → B.get? b = some u) (aB : B.get? a = none) (ff : h.FunFrames B (X.env :: X.outer)) (e : h.get? a = some o) (dt : o.data = .fields fv) : Cgt X pins a sI := by
  have away : a ∉ frs (X.env :: X.outer) := fun hm => by
    obtain ⟨_, o2, e2, k⟩ := ff.mem hm
    rw [e] at e2
    cases e2
    exact k _ dt
  have gone : sI.heap.get? a = none := by
    rcases q : sI.heap.get? a with _ | u
    · rfl
    · have z := nb a u q (by rw [hs]; exact away)
      rw [aB] at z
      cases z
  refine ⟨fun z => away ?_, fun hm => away ?_, ?_, fun p hp z => ?_⟩
  · exact List.mem_filterMap.mpr ⟨X.env, List.mem_cons_self, by rw [hf, z]⟩
  · obtain ⟨v, hv, q⟩ := List.mem_filterMap.mp hm
    exact List.mem_filterMap.mpr ⟨v, .tail _ hv, q⟩
  · rcases q : X.s_0.heap.get? a with _ | u
    · rfl
    · obtain ⟨u2, q2⟩ := J.base.there a u q (by rw [hex]; simp)
      rw [gone] at q2
      cases q2
  · have q := (J.pin p hp).1
    rw [z, gone] at q
    cases q
section
variable {X : Cx} {en ev : Str} {ec : Value} {iv : Nat} {blk more : List Stmt} {st1 : Stmt} {ps1 ps2 ps3 : Pos} {rb : WX → TS} {rs : Addr → Value → Option Addr → TS} {Wo : WX}
abbrev clauseX (en : Str) (ev : Str) (ss : List Stmt) (p1 p2 : Pos) : ExceptHandler := .ExceptHandler (some (.Name en p1)) (some ev) ss p2
/-- the clause takes the error: it is bound, the suite runs, the name goes; the error is held from then on -/
theorem clause_takes {pins : List (Addr × Obj)} {σ : St} {H : Hp} {D : Ends} {sI s' : Shared} {B h : Heap} {a dd : Addr} {cls : Value} (nd : X.N.Nodup) (hi : X.N[iv]? = some ev) (hl : X.env.kindOf ev = some .local)
    (su : ∀ a oe cls d pn, Zc cls d oe → (∃ vs, oe.data = .fields vs) → PSs (X.suite a ((a, oe) :: pn)) (st1 :: more) (rs a cls d))
    (J : Inv X pins σ H sI) (G : Cgt X pins a sI) (nb : ∀ b u, sI.heap.get? b = some u → b ∉ frs X.stack → B.get? b = some u) (up : sI.heap.UpToSlots h) (na : H a = none) (os : s'.os = sI.os) (ag : AllBare s'.gens)
    (fl : HandSPX.FlyingZ B (X.env :: X.outer) a (Zc cls (some dd)) h)
    (wi : rs a cls (some dd) { nx := fun σ' H' => D.nx (σ'.set iv none) (upd H' a (ErV a cls dd)), rt := fun _ _ => False, bk := fun _ _ => False, ct := fun _ _ => False } (σ.set iv (some (.ref a))) H) :
    wpAny (model X.prog X.w) (X.A.mark (some (.ref a))) (setFlight (.ref a) none) (fun _ t => wpAny (model X.prog X.w) (X.A.mark (some (.ref a))) (storeName X.env ev (.ref a)) (fun _ t2 =>
      wpAny (model X.prog X.w) (X.A.mark (some (.ref a))) (execs (st1 :: more) X.env) (fun f t3 => wpAny (model X.prog X.w) X.A (do bindName X.env ev .none; unbindBehindTheSuite X.env ev ps2) (fun _ t4 => SP X pins D f t4) X.xe t3) (fun _ _ => False) t2) (fun _ _ => False) t) (fun _ _ => False) { s' with heap := h } := by
  refine HandSPX.lands_againZ fl fun h4 fl4 up4 => ?_
  obtain ⟨oe, fv, e4, z4, d4⟩ := fl4.there
  have J4 : Inv X pins σ H { s' with heap := h4 } := J.landed nb fl4.1 (up.trans up4) os ag
  refine store_ok (X := X.suite a ((a, oe) :: (X.pn ++ pins))) (v := .ref a) (J4.suite e4 d4 na G.loc G.fs) nd hi (.inl hl) rfl (fun s5 S5 => ?_) (.inr hl)
  refine wpAny_mono ((su a oe cls (some dd) (X.pn ++ pins) z4 ⟨_, d4⟩).run [] s5 _ H _ S5 wi) (fun f s6 q => ?_) fun _ _ z => z
  cases f with
  | next =>
    obtain ⟨σ6, H6, S6, q6⟩ := q
    obtain ⟨p1, p2, _⟩ := S6.pin (a, oe) (by simp)
    exact gone_ok ((S6.unsuite J.ok).track p1 d4 z4 p2 G.n0 G.loc G.pn) nd hi hl fun s7 J7 => ⟨_, _, J7, q6⟩
  | brk => obtain ⟨_, _, _, q6⟩ := q; exact q6.elim
  | cont => obtain ⟨_, _, _, q6⟩ := q; exact q6.elim
  | ret u => obtain ⟨_, _, _, _, _, q6⟩ := q; exact q6.elim
/-- no clause takes it: it flies on -/
theorem clause_none {pins : List (Addr × Obj)} {σ : St} {H : Hp} {D : Ends} {sI s' : Shared} {B h : Heap} {a : Addr} {cls : Value} {d : Option Addr} (hs : X.stack = X.env :: X.outer) (hf : X.env.frame = some X.env.locals) (tk : Takes X Wo)
    (J : Inv X pins σ H sI) (nb : ∀ b u, sI.heap.get? b = some u → b ∉ frs X.stack → B.get? b = some u) (up : sI.heap.UpToSlots h) (na : H a = none) (os : s'.os = sI.os) (ag : AllBare s'.gens)
    (fl : HandSPX.FlyingZ B (X.env :: X.outer) a (Zc cls d) h) (wi : Wo cls d σ H) : wpAny (model X.prog X.w) X.A (handleBy (.ref a) X.env []) (SP X pins D) X.xe { s' with heap := h } := by
  refine wpAny_handleBy_nil ?_
  obtain ⟨_, _, _, oe, fv, T, _, _, he, _, hd, h1, _⟩ := id fl
  have fin : wpAny (model X.prog X.w) X.A (setFlight (.ref a) X.env.frame) (fun _ t => wpAny (model X.prog X.w) X.A (throw (.ref a) : Sem Flow) (SP X pins D) X.xe t) X.xe { s' with heap := h } := by
    rw [hf]
    refine HandSPX.setFlight_upZ fl fun h4 held up4 => wpAny_throw (tk _ _ ⟨a, B, sI, pins, σ, H, cls, d, rfl, J, nb, up.trans up4, .inr (.inr (by rw [hs]; exact held)), na, os, ag, wi⟩)
  unfold PySem.passOn
  refine wpAny_bind (wpAny_field he hd h1 ?_)
  rw [if_neg (show ¬ ((Value.ref T == Value.none) = true) from by simp)]
  first
    | exact wpAny_bind (wpAny_pure (wpAny_bind fin))
    | exact wpAny_bind fin
theorem ps_try_keep (hs : X.stack = X.env :: X.outer) (hf : X.env.frame = some X.env.locals) (hex : X.ex = []) (nd : X.N.Nodup) (hi : X.N[iv]? = some ev) (hl : X.env.kindOf ev = some .local) (hc : Names X en ec) (tk : Takes X Wo)
    (bo : ∀ W pn xe, Takes (X.tr pn xe) W → PassesOwn (model X.prog X.w) X.A X.env xe → PSs (X.tr pn xe) blk (rb W))
    (su : ∀ a oe cls d pn, Zc cls d oe → (∃ vs, oe.data = .fields vs) → PSs (X.suite a ((a, oe) :: pn)) (st1 :: more) (rs a cls d)) :
    PS X (.Try blk [clauseX en ev (st1 :: more) ps1 ps2] [] [] ps3) fun D σ H => rb (wKeep X.K ec iv rs Wo D) D σ H := by
  refine ⟨fun pins s σ H D I h => wpAny_Try_except ?_⟩
  have ok := I.ok
  have run := (bo (wKeep X.K ec iv rs Wo D) (X.pn ++ pins) (fun e s1 => wpAny (model X.prog X.w) X.A (noteFrame e X.env) (fun _ s2 => wpAny (model X.prog X.w) X.A (setFlight e none)
    (fun _ s3 => wpAny (model X.prog X.w) X.A (handleBy e X.env [clauseX en ev (st1 :: more) ps1 ps2]) (SP X pins D) X.xe s3) X.xe s2) X.xe s1) ?c PassesOwn.looking).run [] s σ H D (I.toTry _) h
  case c =>
    rintro u s' ⟨a, B, sI, pn2, σ', H', cls, d, rfl, J', nb, up, sky, na, os, ag, b, ask, yes, no⟩
    have J := J'.ofTry (X := X) (pins := pins) ok
    refine Sky.land Zc.steady (by rw [ok.frames, hs]) hf (by rw [← hs]; exact sky) fun h3 fl up3 => ?_
    obtain ⟨oe, fv, e3, z3, d3⟩ := fl.there
    have G := cgt_of J hs hf hex nb fl.2.1 fl.2.2.1 e3 d3
    have J3 : Inv X pins σ' H' { s' with heap := h3 } := J.landed nb fl.1 (up.trans up3) os ag
    have S3 := J3.suite e3 d3 na G.loc G.fs
    have look : PySem.W.Looks (model X.prog X.w) h3 (typeOf (.ref a)) cls := fun _ _ _ _ k q => wpAny_typeOf_ref (k _ _ e3) (by rw [z3.1]; exact q)
    refine wpAny_handleBy_cons (codeAny_handlers_test ?_) nofun
    have named : ∀ {Q E : Value → Shared → Prop}, Q ec { s' with heap := h3 } → wpAny (model X.prog X.w) (X.A.mark (some (.ref a))) (eval (.Name en ps1) X.env) Q E { s' with heap := h3 } := fun q => by
      rcases hc with ⟨hg, hd, hm | ⟨hm, hv, hn⟩⟩
      · exact ld_glob (X := X.suite a ((a, oe) :: (X.pn ++ pins))) S3 hg hm q hd
      · exact ld_blt (X := X.suite a ((a, oe) :: (X.pn ++ pins))) S3 hg hm hv q hn hd
    refine named ((PySem.W.exm_one (M := model X.prog X.w) J3.kIn look ask).here ?_)
    cases b with
    | false => exact clause_none hs hf tk J nb (up.trans up3) na os ag fl (no rfl)
    | true =>
      obtain ⟨dd, rfl, wi⟩ := yes rfl
      refine codeAny_handlers_suite_as (wpAny_mono (clause_takes (ps2 := ps2) (D := D) nd hi hl su J G nb (up.trans up3) na os ag fl (wi a na)) (fun _ t q => ?_) fun _ _ z => z.elim)
      refine wpAny_mono q (fun _ t2 q2 => wpAny_mono q2 (fun f t3 q3 => ?_) fun _ _ z => z.elim) fun _ _ z => z.elim
      cases f <;> exact q3
  refine wpAny_mono run (fun f s1 q => ?_) fun _ _ z => z
  cases f with
  | next => obtain ⟨σ2, H2, J2, q2⟩ := q; exact wpAny_execs_nil ⟨σ2, H2, J2.ofTry ok, q2⟩
  | brk => obtain ⟨σ2, H2, J2, q2⟩ := q; exact ⟨σ2, H2, J2.ofTry ok, q2⟩
  | cont => obtain ⟨σ2, H2, J2, q2⟩ := q; exact ⟨σ2, H2, J2.ofTry ok, q2⟩
  | ret u => obtain ⟨v, σ2, H2, J2, r2, q2⟩ := q; exact ⟨v, σ2, H2, J2.ofTry ok, r2, q2⟩
end
end L2
end
section
set_option maxRecDepth 100000
set_option maxHeartbeats 1000000
namespace Kw
open PySem
section
variable {prog : Program} {w : World} {κ : Type} [DecidableEq κ] {knd : KeyKind prog w κ} {A : Around} {E : Value → Shared → Prop} {s : Shared}
theorem put_pairs {d : Addr} {kvs : List (κ × Value)} {k : κ} {key v : Value} {Q : Unit → Shared → Prop} (hk0 : knd.is k key = true) (hm : s.heap.DictOf knd d kvs) (hz : kvs.length ≤ sizeLine)
    (q : ∀ h', h'.DictOf knd d (stored kvs k v) → Heap.SameBut d s.heap h' → Q () { s with heap := h' }) : wpAny (model prog w) A (dictPut d (knd.hash k) key v) Q E s := by
  obtain ⟨o, es, ep, ho, ed, dat, ko, pr, nd⟩ := hm
  have same : (es.findIdx? fun x => knd.is k x.key) = es.toList.findIdx? fun x => knd.is k x.key := by obtain ⟨l⟩ := es; simp
  have size : es.size ≤ sizeLine := by
    have z := pr.length
    rw [Array.length_toList] at z
    omega
  have atl := pr.findIdx k
  unfold dictPut
  refine wpAny_bind (wpAny_dictFind_of hk0 ho dat ko ?_)
  rw [same]
  cases f : es.toList.findIdx? fun x => knd.is k x.key with
  | none =>
    rw [f] at atl
    have out := not_mem_of_findIdx_none atl.symm
    have st : stored kvs k v = kvs ++ [(k, v)] := by
      refine if_neg fun z => out ?_
      obtain ⟨x, hx, hd⟩ := List.any_eq_true.mp z
      exact List.mem_map.mpr ⟨x, hx, of_decide_eq_true hd⟩
    refine wpAny_updateDictKeys (hz := size) ho dat (q _ ?_ (Heap.SameBut.update ..))
    refine ⟨_, _, ep + 1, Heap.get?_update_self _ ho (Obj.isFreed_of_dict (Obj.data_mapDictKeys dat _)), ed.mapDictKeys _, Obj.data_mapDictKeys dat _, ko.push hk0 _, ?_, ?_⟩
    · rw [st, Array.toList_push]
      exact pr.append hk0 (knd.hash k) v
    · rw [st, List.map_append]
      refine List.nodup_append.mpr ⟨nd, by simp, fun x hx y hy e => out ?_⟩
      have : y = k := by simpa using hy
      rw [← this, ← e]; exact hx
  | some i =>
    rw [f] at atl
    have st : stored kvs k v = kvs.map fun kv => if kv.1 = k then (kv.1, v) else kv := if_pos (any_of_findIdx_some atl.symm)
    refine wpAny_updateDict ho dat (q _ ?_ (Heap.SameBut.update ..))
    refine ⟨_, _, ep, Heap.get?_update_self _ ho (Obj.isFreed_of_dict (Obj.data_mapDict dat _)), ed.mapDict _, Obj.data_mapDict dat _, ko.modify _ _, ?_, ?_⟩
    · rw [st, Array.toList_modify]
      exact pr.modify nd f v
    · rw [st, keys_map_store]
      exact nd
theorem keys_stored {kvs : List (κ × Value)} {k j : κ} {v : Value} (h : j ∈ (stored kvs k v).map (·.1)) : j ∈ kvs.map (·.1) ∨ j = k := by
  unfold stored at h
  split at h
  · rw [keys_map_store] at h
    exact .inl h
  · rw [List.map_append, List.mem_append] at h
    exact h.imp id fun z => by simpa using z
theorem keys_merged {j : κ} : ∀ {more kvs : List (κ × Value)}, j ∈ (merged kvs more).map (·.1) → j ∈ kvs.map (·.1) ∨ j ∈ more.map (·.1)
  | [], _, h => .inl h
  | kv :: r, kvs, h => by
    have h : j ∈ (merged (stored kvs kv.1 kv.2) r).map (·.1) := h
    rcases keys_merged h with h | h
    · rcases keys_stored h with h | h
      · exact .inl h
      · exact .inr (by rw [h]; exact List.mem_cons_self)
    · exact .inr (List.mem_cons_of_mem _ h)
theorem merge_pairs {d a : Addr} {kvs more : List (κ × Value)} {u : Bool} {Q : Unit → Shared → Prop} (hda : d ≠ a) (hS : (a == sysModules) = false) (hd : s.heap.DictOf knd d kvs) (ha : s.heap.DictOf knd a more) (hz : kvs.length + more.length ≤ sizeLine)
    (hu : u = true → ∀ kv ∈ more, kv.1 ∉ kvs.map (·.1))
    (q : ∀ h', h'.DictOf knd d (merged kvs more) → Heap.SameBut d s.heap h' → Q () { s with heap := h' }) : wpAny (model prog w) A (mergeMapping d (.ref a) u) Q E s := by
  obtain ⟨od, esd, epd, hod, hcd, hdd, hkd, hpd, hnd⟩ := id hd
  obtain ⟨oa, esa, epa, hoa, hca, hda', hka, hpa, hna⟩ := id ha
  unfold mergeMapping
  refine wpAny_bind (wpAny_isInstance ha.typeIs isSubtype_dict_dict ?_)
  rw [if_pos rfl]
  refine wpAny_bind (wpAny_specialOf ha.typeIs F.slot_dict_iter.lookup (wpAny_bind (wpAny_pure ?_)))
  simp only [beq_self_eq_true]
  rw [if_neg (by rw [hS]; decide)]
  have lena : more.length = esa.size := by rw [← hpa.length]; simp
  have loop : wpAny (model prog w) A (do
      let l0 ← dictEntries a
      let epoch ← dictEpoch a
      forIn (List.range l0.size) PUnit.unit fun i (_ : PUnit) => (do
        let l1 ← dictEntries a
        match l1[i]? with
          | some e => do
            holding [e.key, e.val]
                (if u = true then do
                  let fnd ← dictFind d e.key e.hash
                  if fnd.isSome = true then do
                      rule "dict.merge.duplicate-key"
                      let x ← newExc (Value.type "KeyError") [e.key]
                      let _ ← (raiseNew x : Sem Unit)
                      dictPut d e.hash e.key e.val
                    else dictPut d e.hash e.key e.val
                else dictPut d e.hash e.key e.val)
            let ep1 ← dictEpoch a
            if (ep1 != epoch) = true then do
                (unsupported "dict.changed-during-merge" : Sem PUnit)
                pure (ForInStep.yield PUnit.unit)
              else pure (ForInStep.yield PUnit.unit)
          | _ => do
            (unsupported "dict.changed-during-merge" : Sem PUnit)
            pure (ForInStep.yield PUnit.unit) : Sem (ForInStep PUnit))
      pure ()) Q E s := by
    refine wpAny_bind (wpAny_dictEntries hoa hda' (wpAny_bind (wpAny_dictEpoch hoa hda' (wpAny_bind ?_))))
    refine wpAny_forIn_list _
      (fun rest _ s' => ∃ hp i, s' = { s with heap := hp } ∧ rest = List.range' i (esa.size - i) ∧ i ≤ esa.size ∧ hp.DictOf knd d (merged kvs (more.take i)) ∧ hp.get? a = some oa ∧ Heap.SameBut d s.heap hp)
      _ ?step ?fin _ _ ⟨s.heap, 0, rfl, by rw [List.range_eq_range', Nat.sub_zero], Nat.zero_le _, by simpa [merged] using hd, hoa, Heap.SameBut.refl _ _⟩
    case step =>
      rintro x rest b s' ⟨hp, i, rfl, hr, hi, hdi, hai, hsb⟩
      have lt : i < esa.size := by
        rcases Nat.lt_or_ge i esa.size with z | z
        · exact z
        · rw [Nat.sub_eq_zero_of_le z] at hr; cases hr
      have split : esa.size - i = (esa.size - (i + 1)) + 1 := by omega
      rw [split, List.range'_succ] at hr
      injection hr with h1 h2
      subst h1
      refine wpAny_bind (wpAny_dictEntries hai hda' ?_)
      rw [Array.getElem?_eq_getElem lt]
      have lt2 : x < more.length := by omega
      have hkv : more[x]? = some (more[x].1, more[x].2) := List.getElem?_eq_getElem lt2
      obtain ⟨hk1, hv1⟩ := hpa.get? (e := esa[x]) (by simp [lt]) hkv
      obtain ⟨k2, hk2, hash⟩ := hka esa[x] (Array.getElem_mem lt)
      have ek : k2 = more[x].1 := knd.inj _ _ _ hk2 hk1
      subst ek
      have tk : merged kvs (more.take (x + 1)) = stored (merged kvs (more.take x)) more[x].1 more[x].2 := merged_take_succ kvs more x _ hkv
      have put : wpAny (model prog w) A (dictPut d esa[x].hash esa[x].key esa[x].val) (fun _ s2 => ∃ hp2, s2 = { s with heap := hp2 } ∧ hp2.DictOf knd d (merged kvs (more.take (x + 1))) ∧ hp2.get? a = some oa ∧ Heap.SameBut d s.heap hp2) E { s with heap := hp } := by
        rw [hash, hv1]
        refine put_pairs hk1 hdi ?_ fun h' hd' hs' => ⟨h', rfl, by rw [tk]; exact hd', ?_, hsb.trans hs'⟩
        · have := merged_length_le kvs (more.take x)
          rw [List.length_take] at this
          omega
        · rw [hs'.2 a (Ne.symm hda)]; exact hai
      refine wpAny_bind (wpAny_holding ?_)
      have after : ∀ (s2 : Shared), (∃ hp2, s2 = { s with heap := hp2 } ∧ hp2.DictOf knd d (merged kvs (more.take (x + 1))) ∧ hp2.get? a = some oa ∧ Heap.SameBut d s.heap hp2) →
          wpAny (model prog w) A (do
            let ep1 ← dictEpoch a
            if (ep1 != epa) = true then do
                (unsupported "dict.changed-during-merge" : Sem PUnit)
                pure (ForInStep.yield PUnit.unit)
              else pure (ForInStep.yield PUnit.unit)) (fun r s' => ∃ b', r = ForInStep.yield b' ∧ ∃ hp i, s' = { s with heap := hp } ∧ rest = List.range' i (esa.size - i) ∧ i ≤ esa.size ∧ hp.DictOf knd d (merged kvs (more.take i)) ∧ hp.get? a = some oa ∧ Heap.SameBut d s.heap hp) E s2 := by
        rintro s2 ⟨hp2, rfl, g1, g2, g3⟩
        refine wpAny_bind (wpAny_dictEpoch g2 hda' ?_)
        rw [if_neg (by simp)]
        exact wpAny_pure ⟨_, rfl, hp2, x + 1, rfl, h2, lt, g1, g2, g3⟩
      cases u with
      | false =>
        rw [if_neg (by decide)]
        refine wpAny_mono put (fun r s2 z => wpAny_mono (after s2 z) (fun r s3 y => ?_) fun _ _ y => y) fun _ _ y => y
        obtain ⟨b', rfl, y⟩ := y
        exact y
      | true =>
        rw [if_pos rfl]
        obtain ⟨o2, es2, ep2, g1, g2, g3, g4, g5, g6⟩ := id hdi
        rw [hash]
        refine wpAny_bind (wpAny_dictFind_of (s := { s with heap := hp }) hk1 g1 g3 g4 ?_)
        have none : (es2.findIdx? fun z => knd.is more[x].1 z.key) = none := by
          have e1 : (es2.findIdx? fun z => knd.is more[x].1 z.key) = es2.toList.findIdx? fun z => knd.is more[x].1 z.key := by obtain ⟨l⟩ := es2; simp
          rw [e1, g5.findIdx]
          refine List.findIdx?_eq_none_iff.mpr fun y hy => ?_
          refine decide_eq_false fun ey => ?_
          have hm : more[x].1 ∈ (merged kvs (more.take x)).map (·.1) := List.mem_map.mpr ⟨y, hy, ey⟩
          rcases keys_merged hm with z | z
          · exact hu rfl _ (List.getElem_mem lt2) z
          · have nd := hna
            rw [← List.take_append_drop x more, List.map_append] at nd
            have := (List.nodup_append.mp nd).2.2 _ z more[x].1 (List.mem_map.mpr ⟨more[x], by rw [List.drop_eq_getElem_cons lt2]; exact List.mem_cons_self, rfl⟩)
            exact this rfl
        rw [none]
        rw [if_neg (by decide), ← hash]
        refine wpAny_mono put (fun r s2 z => wpAny_mono (after s2 z) (fun r s3 y => ?_) fun _ _ y => y) fun _ _ y => y
        obtain ⟨b', rfl, y⟩ := y
        exact y
    case fin =>
      rintro b s' ⟨hp, i, rfl, hr, hi, hdi, hai, hsb⟩
      have e : i = esa.size := by
        rcases Nat.lt_or_ge i esa.size with z | z
        · have split : esa.size - i = (esa.size - (i + 1)) + 1 := by omega
          rw [split, List.range'_succ] at hr; cases hr
        · omega
      subst e
      refine wpAny_pure (q hp ?_ hsb)
      rw [← lena, List.take_length] at hdi
      exact hdi
  refine wpAny_bind (wpAny_dictEntries hod hdd ?_)
  have walk : ∀ (f : DictEntry → PUnit → Sem (ForInStep PUnit)) (Qq : PUnit → Shared → Prop), (∀ x ∈ esa, f x PUnit.unit = pure (ForInStep.yield PUnit.unit)) → Qq PUnit.unit s → wpAny (model prog w) A (forIn esa PUnit.unit f) Qq E s := by
    intro f Qq hf hq
    rw [← Array.forIn_toList]
    refine wpAny_forIn_list _ (fun rest _ s' => s' = s ∧ ∀ x ∈ rest, x ∈ esa) _ ?_ ?_ _ _ ⟨rfl, fun x hx => Array.mem_toList_iff.mp hx⟩
    · rintro x rest b s' ⟨rfl, hr⟩
      rw [hf x (hr x List.mem_cons_self)]
      exact wpAny_pure ⟨rfl, fun y hy => hr y (List.mem_cons_of_mem _ hy)⟩
    · rintro b s' ⟨rfl, _⟩
      exact hq
  split
  · refine wpAny_bind (wpAny_dictEntries hoa hda' (wpAny_bind (walk _ _ (fun x hx => ?_) loop)))
    obtain ⟨k, hk, _⟩ := hka x hx
    have := knd.byValue k _ hk
    cases hkey : x.key with
    | ref b => rw [hkey] at this; cases this
    | _ => rfl
  · exact loop
end
end Kw
end
section
set_option maxRecDepth 100000
set_option maxHeartbeats 1000000
namespace Mi
open PySem PySem.Spec PyProof.Rows L2 StX
/-- room, and nothing is being shown around -/
structure RoomG (k : Nat) (A : Around) : Prop where
  room : Room k A
  gd : A.guards = some []
theorem RoomG.mono {j k : Nat} {A : Around} (r : RoomG k A) (h : j ≤ k) : RoomG j A := ⟨r.room.mono h, r.gd⟩
theorem RoomG.deeper {k : Nat} {A : Around} (r : RoomG (k + 1) A) (env : PySem.Env) : RoomG k (A.deeper env) := ⟨r.room.deeper env, r.gd⟩
theorem RoomG.un {k : Nat} {A : Around} (r : RoomG k A) : A.units + 16 * k + 200 < cLine := r.room.un
theorem RoomG.units {k : Nat} {A : Around} (r : RoomG k A) : A.units + 64 < cLine := by have := r.un; omega
theorem RoomG.make {k : Nat} {A : Around} (r : RoomG (k + 1) A) (C : Addr) (us : List Value) (kw : List (Str × Value)) : RoomG k (A.under (.builtin "type.__call__" ⟨.ref C :: us, kw⟩)) :=
  ⟨r.room.make C us kw, by have h := r.gd; obtain ⟨hd, d, fr, gs, u⟩ := A; simp only at h; subst h; rfl⟩
structure FnG (P : Program) (w : World) (K : PySem.W.Frag) (mg : Str → Option Value) (base : Heap) (CX : CXT) (k : Nat) (f : Addr) (fd : FuncData) (ps : List Str) (sp : Sp) : Prop where
  len : ∀ vs H Q E, sp vs H Q E → vs.length = ps.length
  run : ∀ (A : Around) (outer : List PySem.Env) (s : Shared) (H : Hp) (args : Args) (us : List Value) (vs : List V) (Q : VK) (E : XK), RoomG k A → Env0 P w K mg base A outer s H → BindsTo s fd args (ps.zip us) → Vals vs us → sp vs H Q E →
    codeAny (model P w) A (.call (.ref f) args) (CR CX outer P w H s Q E) s
section
variable {P : Program} {w : World} {K : PySem.W.Frag} {mg : Str → Option Value} {base : Heap} {CX : CXT} {j k : Nat} {f : Addr} {fd : FuncData} {ps : List Str} {sp sp' : Sp}
theorem FnG.mono (F : FnG P w K mg base CX j f fd ps sp) (h : j ≤ k) : FnG P w K mg base CX k f fd ps sp := ⟨F.len, fun A outer s H args us vs Q E hr => F.run A outer s H args us vs Q E (hr.mono h)⟩
theorem FnG.imp (F : FnG P w K mg base CX k f fd ps sp) (h : ∀ vs H Q E, sp' vs H Q E → sp vs H Q E) : FnG P w K mg base CX k f fd ps sp' :=
  ⟨fun vs H Q E q => F.len vs H Q E (h _ _ _ _ q), fun A outer s H args us vs Q E hr e0 hb r q => F.run A outer s H args us vs Q E hr e0 hb r (h _ _ _ _ q)⟩
theorem fn_ofG {name qual : Str} {params : Arguments} {body : List Stmt} {scope : Scope} {dV kV doc pm cdv ct oc : Value} {an od : Option Addr} {osl : Array (Option Value)} {N : List Str} (lk : K.lookup f = some ⟨oc, od, .func (PySem.W.fnOf name qual params body scope dV kV doc pm an cdv ct), osl⟩)
    (hcd : PySem.W.codeIn K cdv qual = true) (S : FnScope N ps scope) (len : ∀ vs H Q E, sp vs H Q E → vs.length = ps.length)
    (hbody : ∀ (A : Around) (outer : List PySem.Env) (s : Shared) (H : Hp) (vs : List V) (Q : VK) (E : XK), RoomG k (A.deeper (envOfC qual scope s.heap.objs.size f cdv)) → sp vs H Q E →
      ∃ t, PSs (cxOf CX P w K mg base N qual scope f cdv A outer s H E) body t ∧ t { nx := fun _ H' => Q .non H', rt := Q } (start N vs) H) :
    FnG P w K mg base CX (k + 1) f (PySem.W.fnOf name qual params body scope dV kV doc pm an cdv ct) ps sp := by
  refine ⟨len, fun A outer s H args us vs Q E hr e0 hb r hsp => ?_⟩
  refine run_bnd lk hcd S hr.room e0 (G := fun xs H2 => xs = vs ∧ H2 = H) (fun A' Ex Q' h => ?_) fun s2 H2 xs ⟨ex, eH⟩ hr' => ?_
  · exact hb _ _ _ _ (h s H vs us e0 (Un.refl ..) rfl (fun _ _ z => z) r (len _ _ _ _ hsp) ⟨rfl, rfl⟩)
  · subst ex eH
    exact hbody A outer s2 _ _ Q E ⟨hr', hr.gd⟩ hsp
theorem fun_okG {x qual : Str} {st : Stmt} {N : List Str} (F : Fun K x qual st f fd) (S : FnScope N ps (defScope st)) (len : ∀ vs H Q E, sp vs H Q E → vs.length = ps.length)
    (hbody : ∀ (cdv : Value) (A : Around) (outer : List PySem.Env) (s : Shared) (H : Hp) (vs : List V) (Q : VK) (E : XK), RoomG k (A.deeper (envOfC qual (defScope st) s.heap.objs.size f cdv)) → sp vs H Q E →
      ∃ t, PSs (cxOf CX0 P w K mg base N qual (defScope st) f cdv A outer s H E).nox (defBody st) t ∧ t { nx := fun _ H' => Q .non H', rt := Q } (start N vs) H) : FnG P w K mg base CX0 (k + 1) f fd ps sp := by
  obtain ⟨oc, od, kV, doc, pm, an, cdv, ct, osl, rfl, lk, hcd⟩ := F.ex
  exact fn_ofG lk hcd S len fun A outer s H vs Q E hr hsp => (hbody cdv A outer s H vs Q E hr hsp).imp fun t h => ⟨h.1.nox, h.2⟩
end
section
variable {X : Cx} {CX : CXT} {k : Nat} {f : Addr} {fd : FuncData} {ps : List Str} {ds : List Value} {dvs : List V} {sp : Sp} {E : XK} {x : Str} {p pos : Pos} {e : Expr} {es : List Expr} {t : TA}
theorem run_fnG {pins : List (Addr × Obj)} {σ : L2.St} {H : Hp} {s : Shared} {Q : VK} {us : List Value} {vs : List V} (F : FnG X.prog X.w X.K X.mg X.base CX k f fd ps sp) (hr : RoomG k X.A) (hb : Binds X.K fd ps ds) (hd : Vals dvs ds) (hx : Passes CX X E)
    (I : Inv X pins σ H s) (r : Vals vs us) (h : sp (vs ++ dvs) H Q E) : wpAny (model X.prog X.w) X.A (call (.ref f) us) (EP X pins σ Q) X.xe s := by
  have rr : Vals (vs ++ dvs) (us ++ ds) := r.append hd
  have hl : (us ++ ds).length = ps.length := rr.length.symm.trans (F.len _ _ _ _ h)
  refine wpAny_call (codeAny_mono (F.run X.A X.stack s H ⟨us, []⟩ _ _ Q E hr I.env0 (hb s us I.kIn hl) rr h) fun res s2 y => ?_)
  cases res with
  | error x => exact hx pins σ H s x s2 I y
  | ok fl =>
    cases fl with
    | ret u => exact I.after y
    | next => exact y.elim
    | brk => exact y.elim
    | cont => exact y.elim
theorem pe_callG (F : FnG X.prog X.w X.K X.mg X.base CX k f fd ps sp) (hr : RoomG k X.A) (hg : Gl X x) (hm : X.mg x = some (.ref f)) (hk : PySem.W.keepIn X.K (.ref f) = true) (hb : Binds X.K fd ps ds) (hd : Vals dvs ds) (hx : Passes CX X E)
    (ha : PA X (e :: es) t) (hdb : (x == ("__debug__" : Str)) = false := by decide) (he : starEach (e :: es) X.env = (false, eval e X.env) :: starEach es X.env := by rfl) (hpl : (backTo pos (starEach es X.env)).any (·.1) = false := by rfl) :
    PE X (.Call (.Name x p) (e :: es) [] pos) (tCall sp dvs E t) := ⟨fun pins s σ H Q I h => wpAny_Call_Name_kw (ld_glob I hg hm (PySem.W.callWith_K (h₀ := X.base) I.ok.mod.kin hk
      (thn (ha.run pos pins s σ H _ I h) fun us s1 ⟨vs, H1, I1, r, q⟩ => ⟨I1.kIn, run_fnG F hr hb hd hx I1 r q⟩) he hpl) hdb)⟩
theorem pe_call0G (F : FnG X.prog X.w X.K X.mg X.base CX k f fd ps sp) (hr : RoomG k X.A) (hg : Gl X x) (hm : X.mg x = some (.ref f)) (hk : PySem.W.keepIn X.K (.ref f) = true) (hb : Binds X.K fd ps ds) (hd : Vals dvs ds) (hx : Passes CX X E)
    (hdb : (x == ("__debug__" : Str)) = false := by decide) : PE X (.Call (.Name x p) [] [] pos) (tCall sp dvs E tNil) :=
  ⟨fun pins s σ H Q I h => wpAny_Call_Name_kw (ld_glob I hg hm (PySem.W.callWith_K0 I.kIn hk (run_fnG (us := []) F hr hb hd hx I .nil h)) hdb)⟩
end
end Mi
end
section
set_option maxRecDepth 100000
set_option maxHeartbeats 1000000
namespace Kw
open PySem L2
section
variable {prog : Program} {w : World} {A : Around} {E : Value → Shared → Prop} {s : Shared}
theorem ns_put {d : Addr} {kvs : List (Key × Value)} {x : Str} {v : Value} {Q : Unit → Shared → Prop} (hm : s.heap.DictOf (mixKind prog w) d kvs)
    (q : ∀ h', h'.DictOf (mixKind prog w) d (stored kvs (.inr x) v) → Heap.SameBut d s.heap h' → Q () { s with heap := h', toks := s.toks + 1 }) : wpAny (model prog w) A (nsSet d x v) Q E s := by
  intro Γ p hΓ
  obtain ⟨o, es, ep, ho, ed, dat, ko, pr, nd⟩ := hm
  have kb : ∀ t : Nat, (mixKind prog w).is (.inr x) (.str x t) = true := fun t => kV_is (k := .inr x) ⟨t, rfl⟩
  have kis : ∀ u : Value, (mixKind prog w).is (.inr x) u = u.isStr x := fun u => (mixKind prog w).strs _ x 0 u (kb 0)
  have noRef : es.any (·.refKey) = false := by
    rw [Array.any_eq_false']
    intro e he
    obtain ⟨k, hk, _⟩ := ko e he
    have bv := (mixKind prog w).byValue k _ hk
    cases hkey : e.key with
    | ref b => rw [hkey] at bv; cases bv
    | _ => simp [DictEntry.refKey, hkey]
  simp only [nsSet, strHash, Sem.wp_bind', Sem.wp_cmd_ask, Sem.wp_pure', Sem.wp_cmd_mkText]
  rw [Sem.wp_loadPart_of _ _ _ _ { s with toks := s.toks + 1 } (o := o) _ ho]
  have hsh : (if x.cps.isEmpty = true then 0 else reduceHash ((model prog w).w.params.strHash x.cps)) = (mixKind prog w).hash (.inr x) := rfl
  rw [hsh]
  simp only [dat, aRefKeyMayBeTheName_eq, aRefKeyMayBeTheNameByArray, noRef, Bool.and_false, Bool.false_eq_true, if_false, Sem.wp_cmd_updatePart]
  refine ⟨by rw [ho]; rfl, q _ ?_ (Heap.SameBut.update ..)⟩
  have same : (es.findIdx? (·.key.isStr x)) = es.toList.findIdx? fun z => (mixKind prog w).is (.inr x) z.key := by
    have : (fun z : DictEntry => (mixKind prog w).is (.inr x) z.key) = fun z => z.key.isStr x := by funext z; exact kis z.key
    rw [this]
    obtain ⟨l⟩ := es
    simp
  have atl := pr.findIdx (.inr x)
  obtain ⟨cl, di, da, sl⟩ := o
  have dat' : da = .dict es ep := dat
  subst dat'
  cases f : es.toList.findIdx? fun z => (mixKind prog w).is (.inr x) z.key with
  | none =>
    rw [f] at atl same
    have out := not_mem_of_findIdx_none atl.symm
    have st : stored kvs (.inr x) v = kvs ++ [(.inr x, v)] := by
      refine if_neg fun z => out ?_
      obtain ⟨y, hy, hd⟩ := List.any_eq_true.mp z
      exact List.mem_map.mpr ⟨y, hy, of_decide_eq_true hd⟩
    have e1 : Obj.putName x ((mixKind prog w).hash (.inr x)) (Value.str x s.toks) v ⟨cl, di, .dict es ep, sl⟩ = ⟨cl, di, .dict (es.push ⟨(mixKind prog w).hash (.inr x), .str x s.toks, v⟩) (ep + 1), sl⟩ := by
      simp only [Obj.putName_eq, Obj.putNameByArray, same]
    refine ⟨_, _, ep + 1, Heap.get?_update_self _ ho (by rw [e1]; rfl), ?_, by rw [e1], ko.push (kb s.toks) v, ?_, ?_⟩
    · rw [e1]; exact ed
    · rw [st, Array.toList_push]
      exact pr.append (kb s.toks) _ v
    · rw [st, List.map_append]
      refine List.nodup_append.mpr ⟨nd, by simp, fun a ha b hb e => out ?_⟩
      have : b = .inr x := by simpa using hb
      rw [← this, ← e]; exact ha
  | some i =>
    rw [f] at atl same
    have st : stored kvs (.inr x) v = kvs.map fun kv => if kv.1 = .inr x then (kv.1, v) else kv := if_pos (any_of_findIdx_some atl.symm)
    have e1 : Obj.putName x ((mixKind prog w).hash (.inr x)) (Value.str x s.toks) v ⟨cl, di, .dict es ep, sl⟩ = ⟨cl, di, .dict (es.modify i fun e => { e with val := v }) ep, sl⟩ := by
      simp only [Obj.putName_eq, Obj.putNameByArray, same]
    refine ⟨_, _, ep, Heap.get?_update_self _ ho (by rw [e1]; rfl), ?_, by rw [e1], ko.modify _ _, ?_, ?_⟩
    · rw [e1]; exact ed
    · rw [st, Array.toList_modify]
      exact pr.modify nd f v
    · rw [st, keys_map_store]
      exact nd
end
end Kw
end
section
set_option maxRecDepth 100000
set_option maxHeartbeats 1000000
namespace Kw
open PySem L2
section
variable {prog : Program} {w : World} {A : Around} {E : Value → Shared → Prop} {s : Shared}
def tabOf (kws : List (Str × Value)) : List (Key × Value) := kws.map fun kv => (.inr kv.1, kv.2)
theorem stored_tab {kws : List (Str × Value)} {k : Str} {v : Value} (h : k ∉ kws.map (·.1)) : stored (tabOf kws) (.inr k) v = tabOf (kws ++ [(k, v)]) := by
  have e : tabOf (kws ++ [(k, v)]) = tabOf kws ++ [(.inr k, v)] := by simp [tabOf]
  rw [e]
  refine if_neg fun z => h ?_
  obtain ⟨y, hy, hd⟩ := List.any_eq_true.mp z
  obtain ⟨kv, hkv, rfl⟩ := List.mem_map.mp hy
  have : (Sum.inr kv.1 : Key) = Sum.inr k := of_decide_eq_true hd
  injection this with this
  exact List.mem_map.mpr ⟨kv, hkv, this⟩
theorem ns_puts {d : Addr} : ∀ {kws acc : List (Str × Value)} {s : Shared} {Q : PUnit → Shared → Prop}, s.heap.DictOf (mixKind prog w) d (tabOf acc) → ((acc ++ kws).map (·.1)).Nodup →
    (∀ h' t', h'.DictOf (mixKind prog w) d (tabOf (acc ++ kws)) → Heap.SameBut d s.heap h' → Q PUnit.unit { s with heap := h', toks := t' }) →
    wpAny (model prog w) A (forIn kws PUnit.unit fun (kv : Str × Value) (_ : PUnit) => do nsSet d kv.1 kv.2; pure (ForInStep.yield PUnit.unit)) Q E s
  | [], acc, s, Q, hd, nd, q => by
    rw [List.forIn_nil]
    exact wpAny_pure (q s.heap s.toks (by simpa using hd) (Heap.SameBut.refl _ _))
  | kv :: r, acc, s, Q, hd, nd, q => by
    rw [List.forIn_cons]
    have out : kv.1 ∉ acc.map (·.1) := fun z => by
      rw [List.map_append, List.map_cons] at nd
      exact (List.nodup_append.mp nd).2.2 _ z _ List.mem_cons_self rfl
    refine wpAny_bind (wpAny_bind (ns_put hd fun h1 g1 g2 => wpAny_pure ?_))
    rw [stored_tab out] at g1
    refine ns_puts (acc := acc ++ [(kv.1, kv.2)]) g1 (by simpa using nd) fun h2 t2 g3 g4 => q h2 t2 (by simpa using g3) (g2.trans g4)
theorem bind_kw1 {name qual : Str} {pa pk : Arg} {params : Arguments} {body : List Stmt} {scope : Scope} {kV doc pm cdv ct : Value} {an : Option Addr} {u : Value} {kws : List (Str × Value)} {Q : List (Str × Value) → Shared → Prop}
    (hp : params = { posonlyargs := [], args := [pa], vararg := none, kwonlyargs := [], kw_defaults := [], kwarg := some pk, defaults := [] })
    (hk : ∀ kv ∈ kws, kv.1 ≠ pa.arg) (nd : (kws.map (·.1)).Nodup) (hz : kws.length ≤ sizeLine)
    (q : ∀ h' t', h'.DictOf (mixKind prog w) s.heap.objs.size (tabOf kws) → Heap.SameBut s.heap.objs.size (s.heap.push { cls := .type "dict", data := .dict #[] }) h' → Q [(pa.arg, u), (pk.arg, .ref s.heap.objs.size)] { s with heap := h', toks := t' }) :
    wpAny (model prog w) A (bindArgs (PySem.W.fnOf name qual params body scope .none kV doc pm an cdv ct) ⟨[u], kws⟩) Q E s := by
  subst hp
  unfold bindArgs
  refine wpAny_bind ?_
  refine wpAny_forIn_list _ (fun rest b s' => s' = s ∧ ∃ done, kws = done ++ rest ∧ b = ([(pa.arg, u)], done)) _ ?step ?fin _ _ ⟨rfl, [], rfl, rfl⟩
  case step =>
    rintro ⟨k, v⟩ rest b s' ⟨rfl, done, e, rfl⟩
    have ne : k ≠ pa.arg := hk (k, v) (by rw [e]; simp)
    have c : ([pa.arg].contains k || ([] : List Str).contains k) = false := by simp [ne]
    show wpAny (model prog w) A (if ([pa.arg].contains k || ([] : List Str).contains k) = true then _ else pure (ForInStep.yield ([(pa.arg, u)], done ++ [(k, v)]))) _ E s'
    rw [c, if_neg (by decide)]
    exact wpAny_pure ⟨rfl, done ++ [(k, v)], by rw [e]; simp, rfl⟩
  case fin =>
    rintro b s' ⟨rfl, done, e, rfl⟩
    rw [List.append_nil] at e
    subst e
    have lk : List.lookup pa.arg [(pa.arg, u)] = some u := by simp
    refine wpAny_bind (wpAny_pure ?_)
    simp only [PySem.W.fnOf, List.map_cons, List.map_nil, List.nil_append, List.length_cons, List.length_nil, Option.getD_none, List.drop_nil, List.take_succ_cons, List.take_nil, Nat.sub_zero, List.take_zero, List.filter_cons, List.filter_nil, lk, Option.isNone_some, Bool.false_eq_true, if_false, List.isEmpty_nil, Bool.not_true, List.zip_nil_right, List.forIn_nil, List.append_nil, List.filterMap_cons, List.filterMap_nil, Option.map_some]
    rw [if_neg (by decide)]
    refine wpAny_bind (wpAny_pure (wpAny_bind (wpAny_pure ?_)))
    rw [if_neg (by simp), if_neg (by omega)]
    refine wpAny_bind (wpAny_alloc (wpAny_bind (ns_puts (acc := []) (Heap.DictOf.new _) (by simpa using nd) fun h' t' g1 g2 => wpAny_pure ?_)))
    simp only [lk, Option.map_some]
    exact q h' t' g1 g2
end
end Kw
end
section
set_option maxRecDepth 100000
set_option maxHeartbeats 1000000
namespace Kw
open PySem PySem.Spec PyProof.Rows L2 StX Mi
abbrev SpK := List V → List (Str × V) → Hp → VK → XK → Prop
def KwV (kvs : List (Str × V)) (kus : List (Str × Value)) : Prop := Paired (fun (p : Str × V) (q : Str × Value) => p.1 = q.1 ∧ RelV p.2 q.2) kvs kus
theorem KwV.keys : ∀ {kvs : List (Str × V)} {kus : List (Str × Value)}, KwV kvs kus → kvs.map (·.1) = kus.map (·.1)
  | _, _, .nil => rfl
  | _, _, .cons r t => by rw [List.map_cons, List.map_cons, r.1, KwV.keys t]
theorem KwV.tab : ∀ {kvs : List (Str × V)} {kus : List (Str × Value)}, KwV kvs kus → KV (kvs.map fun kv => ((.inr kv.1 : Key), kv.2)) (tabOf kus)
  | _, _, .nil => .nil
  | _, _, .cons r t => .cons ⟨congrArg Sum.inr r.1, r.2⟩ (KwV.tab t)
/-- a def called with values and keywords -/
def FnK (P : Program) (w : World) (K : PySem.W.Frag) (mg : Str → Option Value) (base : Heap) (CX : CXT) (k : Nat) (f : Addr) (sp : SpK) : Prop :=
  ∀ (A : Around) (outer : List Env) (s : Shared) (H : Hp) (us : List Value) (vs : List V) (kus : List (Str × Value)) (kvs : List (Str × V)) (Q : VK) (E : XK), RoomG k A → Env0 P w K mg base A outer s H → Vals vs us → KwV kvs kus → sp vs kvs H Q E →
    codeAny (model P w) A (.call (.ref f) ⟨us, kus⟩) (CR CX outer P w H s Q E) s
def keyed (kvs : List (Str × V)) : List (Key × V) := kvs.map fun kv => (.inr kv.1, kv.2)
section
variable {CX : CXT} {P : Program} {w : World} {K : PySem.W.Frag} {mg : Str → Option Value} {base : Heap} {k : Nat} {f : Addr} {name qual : Str} {params : Arguments} {body : List Stmt} {scope : Scope} {kV doc pm cdv ct oc : Value} {an od : Option Addr}
  {osl : Array (Option Value)} {N : List Str} {sp : Sp}
theorem env0_new {A : Around} {outer : List Env} {s : Shared} {H : Hp} {h' : Heap} {t' : Nat} {u : HO} (e0 : Env0 P w K mg base A outer s H) (kp : ∀ b o, s.heap.get? b = some o → h'.get? b = some o) (sz : s.heap.objs.size ≤ h'.objs.size)
    (new : ObjOk P w (upd H s.heap.objs.size u) h' s.heap.objs.size u) : Env0 P w K mg base A outer { s with heap := h', toks := t' } (upd H s.heap.objs.size u) where
  frames := e0.frames
  mod := e0.mod
  bs := fun b o e => by
    have z := e0.bs b o e
    refine ⟨kp b o z.1, ?_⟩
    rw [upd_ne (Nat.ne_of_lt (Heap.lt_size z.1))]
    exact z.2
  bsz := Nat.le_trans e0.bsz sz
  funs := Heap.FunFrames.of_keeps (fun b o e _ => ⟨o, kp b o e, rfl⟩) e0.funs
  frf := fun b hb => by
    obtain ⟨_, o, ho, _⟩ := e0.funs.mem hb
    rw [upd_ne (Nat.ne_of_lt (Heap.lt_size ho))]
    exact e0.frf b hb
  hok := e0.hok.laid kp (Nat.le_refl _) new
  bare := e0.bare
/-- def f(a, **d) -/
theorem fn_kw1 {pa pk : Arg} (lk : K.lookup f = some ⟨oc, od, .func (PySem.W.fnOf name qual params body scope .none kV doc pm an cdv ct), osl⟩) (hcd : PySem.W.codeIn K cdv qual = true) (S : FnScope N [pa.arg, pk.arg] scope) (hCX : CXUp CX)
    (hp : params = { posonlyargs := [], args := [pa], vararg := none, kwonlyargs := [], kw_defaults := [], kwarg := some pk, defaults := [] })
    (hbody : ∀ (A : Around) (outer : List Env) (s : Shared) (H : Hp) (vs : List V) (Q : VK) (E : XK), RoomG k (A.deeper (envOfC qual scope s.heap.objs.size f cdv)) → sp vs H Q E →
      ∃ t, PSs (cxOf CX P w K mg base N qual scope f cdv A outer s H E) body t ∧ t { nx := fun _ H' => Q .non H', rt := Q } (start N vs) H) :
    FnK P w K mg base CX (k + 1) f (fun vs kvs H Q E => ∃ v, vs = [v] ∧ (∀ kv ∈ kvs, kv.1 ≠ pa.arg) ∧ (kvs.map (·.1)).Nodup ∧ kvs.length ≤ sizeLine ∧ ∀ d, H d = none → sp [v, .ref d] (upd H d (.dK (keyed kvs))) Q E) := by
  intro A outer s H us vs kus kvs Q E hr e0 r rk hsp
  obtain ⟨v, rfl, hne, nd, hz, hq⟩ := hsp
  obtain ⟨u, rfl, ru⟩ := Vals.one r
  have hn : H s.heap.objs.size = none := e0.hok.fresh (Nat.le_refl _)
  have lk2 : kvs.length = kus.length := Paired.length rk
  have hne2 : ∀ kv ∈ kus, kv.1 ≠ pa.arg := fun kv hkv z => by
    have : kv.1 ∈ kvs.map (·.1) := by rw [rk.keys]; exact List.mem_map.mpr ⟨kv, hkv, rfl⟩
    obtain ⟨y, hy, e⟩ := List.mem_map.mp this
    exact hne y hy (e.trans z)
  refine run_bnd lk hcd S hr.room e0 (G := fun xs H2 => ∃ d, H d = none ∧ xs = [v, .ref d] ∧ H2 = upd H d (.dK (keyed kvs))) (fun A' Ex Q' h => ?_) fun s2 H2 xs ⟨d, hd, ex, eH⟩ hr' => ?_
  · refine bind_kw1 (prog := P) (w := w) hp hne2 (by rw [← rk.keys]; exact nd) (by omega) fun h' t' g1 g2 => ?_
    have kp : ∀ b o, s.heap.get? b = some o → h'.get? b = some o := fun b o e => by
      rw [g2.2 b (Nat.ne_of_lt (Heap.lt_size e))]
      exact Heap.get?_push_of_some _ e
    have sz : s.heap.objs.size ≤ h'.objs.size := by
      have : s.heap.objs.size < h'.objs.size := by
        obtain ⟨o, _, _, ho, _⟩ := g1
        exact Heap.lt_size ho
      omega
    have new : ObjOk P w (upd H s.heap.objs.size (.dK (keyed kvs))) h' s.heap.objs.size (.dK (keyed kvs)) :=
      dk_new (by rw [keyed, List.length_map]; exact hz) (by
        have := env0_big e0
        exact beq_eq_false_iff_ne.mpr (Nat.ne_of_gt this)) rk.tab g1
    have un : Un (frs outer) [] H (upd H s.heap.objs.size (.dK (keyed kvs))) s.heap h' := Un.laid kp (Nat.le_refl _) hn
    exact h _ _ [v, .ref s.heap.objs.size] [u, .ref s.heap.objs.size] (env0_new e0 kp sz new) un rfl (fun e s' => hCX outer s H _ _ E e s' un kp rfl) (.cons ru (.cons rfl .nil)) rfl ⟨_, hn, rfl, rfl⟩
  · subst ex eH
    exact hbody A outer s2 _ _ Q E ⟨hr', hr.gd⟩ (hq d hd)
end
end Kw
end
section
set_option maxRecDepth 100000
set_option maxHeartbeats 1000000
namespace Kw
open PySem PySem.Spec PyProof.Rows L2 StX
section
variable {prog : Program} {w : World} {A : Around} {E : Value → Shared → Prop} {s : Shared}
theorem kws_in {f : Value} {d : Addr} {kus : List (Str × Value)} {Q : List (Str × Value) → Shared → Prop} (hd : s.heap.DictOf (mixKind prog w) d (tabOf kus)) (q : Q kus s) : wpAny (model prog w) A (keywordsIn f d) Q E s := by
  obtain ⟨o, es, ep, ho, ed, dat, ko, pr, nd⟩ := hd
  unfold keywordsIn
  refine wpAny_bind (wpAny_dictEntries ho dat (wpAny_bind ?_))
  rw [← Array.forIn_toList]
  refine wpAny_forIn_list _ (fun rest b s' => s' = s ∧ ∃ left, Pairs (mixKind prog w) rest (tabOf left) ∧ kus = b ++ left) _ ?step ?fin _ _ ⟨rfl, kus, pr, rfl⟩
  case step =>
    rintro x rest b s' ⟨rfl, left, p, e⟩
    cases left with
    | nil => cases p
    | cons kv left =>
      cases p with
      | cons h1 h2 h3 =>
        obtain ⟨i, t, e1, _⟩ | ⟨y, t, e1, e2⟩ := keyIs_shape (k := .inr kv.1) (v := x.key) h1
        · cases e1
        · have e1 : (Sum.inr kv.1 : Key) = Sum.inr y := e1
          injection e1 with e1
          rw [e2]
          refine wpAny_pure ⟨rfl, left, h3, ?_⟩
          rw [e, ← e1]
          have h2 : x.val = kv.2 := h2
          rw [h2, List.append_assoc]
          rfl
  case fin =>
    rintro b s' ⟨rfl, left, p, e⟩
    cases left with
    | cons kv left => cases p
    | nil =>
      rw [List.append_nil] at e
      subst e
      exact wpAny_pure q
end
def tDD (te : TE) (σ : L2.St) (H : Hp) (Q : List (Str × V) → Hp → Prop) : Prop := ∀ p, H p = none → te σ (upd H p (.dK [])) fun x H1 => H1 p = some (.dK []) ∧ ∃ a kvs, x = .ref a ∧ a ≠ p ∧ Rd H1 a (.dK (keyed kvs)) ∧ ((kvs.map (·.1)).Nodup → Q kvs (upd H1 p (.dK (keyed kvs))))
theorem nodup_keyed {kvs : List (Str × V)} (h : ((keyed kvs).map (·.1)).Nodup) : (kvs.map (·.1)).Nodup := by
  have e : (keyed kvs).map (·.1) = (kvs.map (·.1)).map Sum.inr := by simp [keyed]
  rw [e] at h
  exact List.Pairwise.of_map Sum.inr (fun a b h e => h (by rw [e])) h
theorem kv_tab : ∀ {kvs : List (Str × V)} {vs : List (Key × Value)}, KV (keyed kvs) vs → ∃ kus, vs = tabOf kus ∧ KwV kvs kus
  | [], _, .nil => ⟨[], rfl, .nil⟩
  | kv :: r, _, .cons (b := b) h t => by
    obtain ⟨kus, e, rk⟩ := kv_tab (kvs := r) t
    obtain ⟨b1, b2⟩ := b
    have e1 : (Sum.inr kv.1 : Key) = b1 := h.1
    subst e1
    exact ⟨(kv.1, b2) :: kus, by rw [e]; rfl, .cons ⟨rfl, h.2⟩ rk⟩
section
variable {X : Cx} {pins : List (Addr × Obj)} {σ : L2.St} {H : Hp} {s : Shared} {e : Expr} {te : TE} {pos : Pos} {f : Value}
theorem args_dd {Q : List (Str × V) → Hp → Prop} (he : PE X e te) (I : Inv X pins σ H s) (h : tDD te σ H Q) :
    wpAny (model X.prog X.w) X.A (evalArgs f true [] [(none, (do let v ← eval e X.env; standAt pos; pure v))]) (fun a s' => ∃ kvs H', Inv X pins σ H' s' ∧ a.pos = [] ∧ KwV kvs a.kw ∧ Q kvs H') X.xe s := by
  unfold evalArgs
  refine wpAny_bind (wpAny_of_eq (show spliced [] = pure [] from rfl) (wpAny_bind (wpAny_pure (wpAny_holding ?_))))
  rw [if_neg (by simp)]
  refine wpAny_bind ?_
  unfold mergedKeywords
  refine wpAny_bind (wpAny_alloc (wpAny_bind (wpAny_holding ?_)))
  have hn := I.hok.fresh (Nat.le_refl s.heap.objs.size)
  have I1 := I.laid (a := s.heap.objs.size) (o := .dK []) (h' := s.heap.push { cls := .type "dict", data := .dict #[] }) (t' := s.toks) (fun _ _ q => Heap.get?_push_of_some _ q) (Nat.le_refl _) (dk_empty s.heap I.big)
  refine wpAny_bind ?_
  rw [List.forIn_cons]
  refine wpAny_bind ?_
  refine wpAny_bind (wpAny_pure ?_)
  refine wpAny_bind (wpAny_bind (thn (he.run pins _ σ _ _ I1 (h _ hn)) fun v s2 z => ?_))
  obtain ⟨y, H1, I2, ry, ep, a, kvs, ey, hap, hrd, q⟩ := z
  subst ey
  obtain rfl : v = Value.ref a := ry
  refine wpAny_bind (wpAny_standAt (wpAny_pure ?_))
  obtain ⟨z1, hS1, vs0, r0, dd0⟩ := dk_of I2.hok ep
  cases r0
  obtain ⟨z2, hS2, vs, r2, dd2⟩ := dk_rd I2.hok hrd
  obtain ⟨kus, evs, rk⟩ := kv_tab r2
  subst evs
  have nd2 : ((tabOf kus).map (·.1)).Nodup := by
    obtain ⟨_, _, _, _, _, _, _, _, n⟩ := dd2
    exact n
  have nd : (kvs.map (·.1)).Nodup := nodup_keyed (by rw [KV.keys r2]; exact nd2)
  have lk : (tabOf kus).length ≤ sizeLine := by rw [← KV.length r2]; exact z2
  refine wpAny_bind (wpAny_onRaise (wpAny_holding (wpAny_tryCatch (wpAny_onRaise (merge_pairs (Ne.symm hap) hS2 dd0 dd2 (by simpa using lk) (by simp) fun h' g1 g2 => ?_)))))
  rw [merged_nil_of_nodup _ nd2] at g1
  have I3 : L2.Inv X pins σ (upd H1 s.heap.objs.size (.dK (keyed kvs))) { s2 with heap := h', toks := s2.toks } :=
    d_write I2 (by rw [ep]; exact True.intro) g2 (let ⟨o, _, _, ho, _⟩ := g1; ⟨o, ho⟩) (dk_new z2 hS1 r2 g1)
  refine wpAny_pure ?_
  refine wpAny_of_eq (show _ = pure ([] : List (Str × Sem Value)) from rfl) ?_
  refine wpAny_pure (wpAny_pure (wpAny_bind (wpAny_pure (wpAny_bind (wpAny_holding (kws_in g1 (wpAny_pure ?_)))))))
  exact ⟨kvs, _, I3, rfl, rk, q nd⟩
end
end Kw
end
section
set_option maxRecDepth 100000
set_option maxHeartbeats 1000000
namespace Kw
open PySem PySem.Spec PyProof.Rows L2 StX Mi
section
variable {M : Model} {A : Around} {E : Value → Shared → Prop} {s : Shared}
theorem call_dd {K : PySem.W.Frag} {f : Value} {pos : Pos} {Q : Value → Shared → Prop} {t : Sem Value} (hk : PySem.W.keepIn K f = true)
    (h : wpAny M A (evalArgs f true [] [(none, t)]) (fun a s1 => K.In s1.heap ∧ wpAny M A (call f a.pos a.kw) Q E s1) E s) : wpAny M A (callWith pos f [] [] [(none, t)]) Q E s := by
  unfold callWith
  refine wpAny_bind (wpAny_holding (wpAny_mono h (fun a s1 h1 => wpAny_bind (wpAny_standAt ?_)) fun _ _ z => z))
  obtain ⟨kp, hkp, L⟩ := PySem.W.keeps_K (M := M) hk _ h1.1
  refine wpAny_bind (L.here ?_)
  have back : ∀ {c : Sem Value}, wpAny M A c Q E s1 → wpAny M A (c >>= fun r => holding [r] point >>= fun _ => pure r) Q E s1 := fun hc =>
    wpAny_bind (wpAny_mono hc (fun r s2 hr => wpAny_bind (wpAny_holding (wpAny_point (wpAny_pure hr)))) fun _ _ z => z)
  have mk : ∀ m : Value, wpAny M A (callMarked m f a.pos a.kw) Q E s1 := fun m => by unfold callMarked; exact Calls.wpAny_keep h1.2
  rcases hkp with rfl | rfl | rfl
  · exact back (mk _)
  · exact back (wpAny_operating h1.2)
  · exact back (wpAny_operating h1.2)
end
section
variable {X : Cx} {CX : CXT} {k : Nat} {f C : Addr} {sp : SpK} {E : XK} {x : Str} {p pos kp : Pos} {e fe : Expr} {te tf : TE}
theorem run_makeK {pins : List (Addr × Obj)} {σ : L2.St} {H : Hp} {s : Shared} {Q : VK} {us : List Value} {vs : List V} {kus : List (Str × Value)} {kvs : List (Str × V)} (M : Mk X.K C f) (F : FnK X.prog X.w X.K X.mg X.base CX k f sp) (hr : RoomG (k + 1) X.A)
    (hx : Passes CX X E) (I : L2.Inv X pins σ H s) (r : Vals vs us) (rk : KwV kvs kus)
    (h : ∀ x dx, H x = none → H dx = none → dx ≠ x → sp (.ref x :: vs) kvs (upd (upd H dx (.own x)) x (.ins C dx [])) (fun v H2 => v = .non ∧ Q (.ref x) H2) E) :
    wpAny (model X.prog X.w) X.A (call (.ref C) us kus) (EP X pins σ Q) X.xe s := by
  have I2 := Inv.made (C := C) I
  have z := h (s.heap.objs.size + 1) s.heap.objs.size (I.hok.fresh (Nat.le_succ _)) (I.hok.fresh (Nat.le_refl _)) (Nat.ne_of_lt (Nat.lt_succ_self _))
  have rr : Vals (V.ref (s.heap.objs.size + 1) :: vs) (Value.ref (s.heap.objs.size + 1) :: us) := .cons rfl r
  refine wpAny_call (make_map (f := f) I.kIn M.makes M.init (beq_iff_eq.mp M.fn) (codeAny_mono (F _ X.stack _ _ _ _ kus kvs _ E (hr.make C us kus) (I2.env0.make C us kus) rr rk z) fun res s' y => ?_))
  cases res with
  | error x => exact hx pins σ _ _ x s' I2 y
  | ok fl =>
    cases fl with
    | ret u =>
      obtain ⟨v, H3, I3, rv, ev, q3⟩ := I2.after y
      subst ev
      exact ⟨rv, ⟨V.ref (s.heap.objs.size + 1), H3, I3, rfl, q3⟩⟩
    | next => exact y.elim
    | brk => exact y.elim
    | cont => exact y.elim
/-- C(), by the promise of __init__ with keywords -/
def tMakeK0 (C : Addr) (sp : SpK) (E : XK) : TE := fun σ H Q => ∀ x dx, H x = none → H dx = none → dx ≠ x → sp [.ref x] [] (upd (upd H dx (.own x)) x (.ins C dx [])) (fun v H2 => v = .non ∧ Q (.ref x) H2) E
theorem pe_makeK0 (M : Mk X.K C f) (F : FnK X.prog X.w X.K X.mg X.base CX k f sp) (hr : RoomG (k + 1) X.A) (hg : Gl X x) (hm : X.mg x = some (.ref C)) (hx : Passes CX X E) (hdb : (x == ("__debug__" : Str)) = false := by decide) :
    PE X (.Call (.Name x p) [] [] pos) (tMakeK0 C sp E) := by
  refine ⟨fun pins s σ H Q I h => ?_⟩
  refine wpAny_Call_Name_kw (ld_glob I hg hm ?_ hdb)
  exact PySem.W.callWith_K0 I.kIn M.kp (run_makeK (us := []) (kus := []) M F hr hx I .nil .nil h)
/-- c(**d), c an expression that gives the class C -/
def tMakeDD (C : Addr) (sp : SpK) (E : XK) (tf te : TE) : TE := fun σ H Q => tf σ H fun y H1 => y = .ref C ∧ tDD te σ H1 fun kvs H2 => ∀ x dx, H2 x = none → H2 dx = none → dx ≠ x → sp [.ref x] kvs (upd (upd H2 dx (.own x)) x (.ins C dx [])) (fun v H3 => v = .non ∧ Q (.ref x) H3) E
theorem pe_makeDD (hf : PE X fe tf) (M : Mk X.K C f) (F : FnK X.prog X.w X.K X.mg X.base CX k f sp) (hr : RoomG (k + 1) X.A) (hx : Passes CX X E) (he : PE X e te)
    (ht : eval (.Call fe [] [⟨none, e, kp⟩] pos) X.env = (do callWith pos (← eval fe X.env) [] (backTo pos (starEach [] X.env)) (backToKw pos (keywordEach [⟨none, e, kp⟩] X.env))) := by rfl) :
    PE X (.Call fe [] [⟨none, e, kp⟩] pos) (tMakeDD C sp E tf te) := by
  refine ⟨fun pins s σ H Q I h => ?_⟩
  rw [ht]
  refine wpAny_bind (thn (hf.run pins s σ H _ I h) fun u s1 ⟨y, H1, I1, ry, ey, q⟩ => ?_)
  subst ey
  obtain rfl : u = Value.ref C := ry
  show wpAny _ _ (callWith pos (.ref C) [] [] [(none, (do let v ← eval e X.env; standAt pos; pure v))]) _ _ _
  refine call_dd M.kp (wpAny_mono (args_dd he I1 q) (fun a s2 z => ?_) fun _ _ z => z)
  obtain ⟨kvs, H2, I2, ep, rk, q2⟩ := z
  obtain ⟨ap, ak⟩ := a
  have ep : ap = [] := ep
  subst ep
  exact ⟨I2.kIn, run_makeK (us := []) M F hr hx I2 .nil rk q2⟩
end
end Kw
end
section
set_option maxRecDepth 100000
set_option maxHeartbeats 1000000
namespace Mi
open PySem PySem.Spec PyProof.Rows L2 StX
section
variable {P : Program} {w : World} {K : PySem.W.Frag} {mg mb : Str → Option Value} {k : Nat} {fa a : Addr} {fd : FuncData} {x : Str} {sp : Sp} {t : Shared} {us : List Value} {ns : List Int}
theorem endG (Z : Hp) (hZ : Only Z) (hS : SqL K Z a (ns.map V.int)) (ok : HOk P w Z t.heap) (one : ∀ b, Z b ≠ none → b = a) (out : Z a ≠ none → K.lookup a = none)
    (KX : K.In t.heap) (hns : t.heap.Ns mainGlobals mg) (hb : t.heap.Ns builtinsNs mb) (hbb : ∀ x : Str, x ≠ "__name__" → mb x = bootBuiltins x) (hlim : t.heap.NoLimit) (hg : t.gens = #[]) (ha : t.heap.get? a = some { cls := .type "list", data := .seq us.toArray }) (hr : RoomG k callerA)
    (F : ∀ base : Heap, K.In base → base.Ns mainGlobals mg → FnG P w K mg base CX0 k fa fd [x] sp) (hbind : ∀ (s : Shared) (u : Value), BindsTo s fd ⟨[u], []⟩ [(x, u)])
    (hsp : sp [.ref a] Z (fun v _ => v = .bl true) fun _ _ _ => False) :
    codeAny (model P w) callerA (.call (.ref fa) ⟨[.ref a], []⟩) (fun r s' => r = .ok (.ret (.bool true)) ∧ OldK t.heap s'.heap ∧ s'.os = t.os ∧ AllBare s'.gens) t := by
  have dn : ∀ {b : Addr} {o : Obj} {es : Array DictEntry} {ep : Nat}, t.heap.get? b = some o → o.data = .dict es ep → Z b = none := fun {b o es ep} e d => by
    cases z : Z b with
    | none => rfl
    | some u =>
      have := one b (by rw [z]; simp)
      subst this
      rw [ha] at e
      cases e
      cases d
  have nsB : ∀ {b : Addr} {m : Str → Option Value}, t.heap.Ns b m → (hidT t.heap Z).Ns b m := fun {b m} h => by
    obtain ⟨o, es, ep, e, d, r⟩ := h
    exact ⟨o, es, ep, hidT_get e (dn e d), d, r⟩
  have inB : K.In (hidT t.heap Z) := fun b o e => hidT_get (KX b o e) (by
    cases z : Z b with
    | none => rfl
    | some u =>
      have := one b (by rw [z]; simp)
      subst this
      rw [out (by rw [z]; simp)] at e
      cases e)
  have limB : (hidT t.heap Z).NoLimit := by
    obtain ⟨mc, h1, h2⟩ := hlim
    exact ⟨mc, nsB h1, h2⟩
  have e0 : Env0 P w K mg (hidT t.heap Z) callerA [] t Z :=
    { frames := rfl, mod := ⟨inB, nsB hns, ⟨mb, nsB hb, hbb⟩, limB⟩, bs := fun b o e => of_hidT e, bsz := Nat.le_of_eq (hidT_size _ _), funs := trivial
      frf := fun b h => by cases h
      hok := ok, bare := .of_eq hg }
  refine codeAny_mono ((F _ inB (nsB hns)).run callerA [] t Z ⟨[.ref a], []⟩ [.ref a] [.ref a] _ _ hr e0 (hbind t (.ref a)) (.cons rfl .nil) hsp) fun res s2 y => ?_
  cases res with
  | error e => exact y.elim
  | ok fl =>
    cases fl with
    | next => exact y.elim
    | brk => exact y.elim
    | cont => exact y.elim
    | ret u =>
      obtain ⟨v, Z2, eos, bare, un, ok2, rv, qv⟩ := y
      have qv : v = .bl true := qv
      subst qv
      obtain rfl : u = Value.bool true := rv
      refine ⟨rfl, OldK.of_keep fun b o e => ?_, eos, bare⟩
      cases z : Z b with
      | none => exact un.keep b o e z (fun h => by cases h) (by simp)
      | some u =>
        rcases hZ b with n | ⟨ob, xs, fz⟩
        · rw [z] at n; cases n
        · obtain ⟨g1, _⟩ := ok b _ fz
          obtain ⟨g2, _⟩ := ok2 b _ (un.frzs b ob _ fz)
          rw [e] at g1
          cases g1
          exact g2
theorem law_callG (KX : K.In t.heap) (hns : t.heap.Ns mainGlobals mg) (hb : t.heap.Ns builtinsNs mb) (hbb : ∀ x : Str, x ≠ "__name__" → mb x = bootBuiltins x) (hlim : t.heap.NoLimit) (hg : t.gens = #[]) (ha : t.heap.get? a = some { cls := .type "list", data := .seq us.toArray })
    (hi : IntsAre us ns) (hl : ns.length ≤ sizeLine) (hr : RoomG k callerA)
    (F : ∀ base : Heap, K.In base → base.Ns mainGlobals mg → FnG P w K mg base CX0 k fa fd [x] sp) (hbind : ∀ (s : Shared) (u : Value), BindsTo s fd ⟨[u], []⟩ [(x, u)])
    (hsp : ∀ H : Hp, Only H → SqL K H a (ns.map V.int) → sp [.ref a] H (fun v _ => v = .bl true) fun _ _ _ => False) :
    codeAny (model P w) callerA (.call (.ref fa) ⟨[.ref a], []⟩) (fun r s' => r = .ok (.ret (.bool true)) ∧ OldK t.heap s'.heap ∧ s'.os = t.os ∧ AllBare s'.gens) t := by
  have rv := vals_ints hi
  cases hk : K.lookup a with
  | some o =>
    have e := KX a o hk
    rw [ha] at e
    cases e
    have sq : SqL K (fun _ => none) a (ns.map V.int) := .inr ⟨_, us.toArray, _, hk, rfl, rfl, rfl, by rw [List.size_toArray, hi.length]; exact hl, by simpa using rv⟩
    exact endG (fun _ => none) (fun _ => .inl rfl) sq (fun b u z => by cases z) (fun b z => absurd rfl z) (fun z => absurd rfl z) KX hns hb hbb hlim hg ha hr F hbind (hsp _ (fun _ => .inl rfl) sq)
  | none =>
    have only : Only (fun b => if b = a then some (.frz { cls := .type "list", data := .seq us.toArray } (.lst (ns.map V.int))) else none) := fun b => by
      by_cases e : b = a
      · exact .inr ⟨_, _, if_pos e⟩
      · exact .inl (if_neg e)
    have sq : SqL K (fun b => if b = a then some (.frz { cls := .type "list", data := .seq us.toArray } (.lst (ns.map V.int))) else none) a (ns.map V.int) := .inl (.inr ⟨_, if_pos rfl⟩)
    refine endG _ only sq (fun b u z => ?_) (fun b z => ?_) (fun _ => hk) KX hns hb hbb hlim hg ha hr F hbind (hsp _ only sq)
    · by_cases e : b = a
      · have z := (if_pos e).symm.trans z
        cases z
        subst e
        exact ⟨ha, by rw [List.length_map]; exact hl, us, _, rv, ha⟩
      · have z := (if_neg e).symm.trans z
        cases z
    · by_cases e : b = a
      · exact e
      · exact absurd (if_neg e) z
end
theorem walk_G {l : PySem.W.OpenLaw} {n k : Nat} {q : Program} {loose : List Str} {XP : (Str → Option Value) → Heap → Prop} {YP : World → Heap → Prop} {d : DefRec} {K : Params → PySem.W.Frag} {sp : World → Sp} {x : Str}
    (hn : l.most = some n) (hn2 : n ≤ sizeLine) (hdf : d.params.defaults = []) (hr : RoomG k callerA) (hY : ∀ (w : World) (h : Heap), YP w h → (K w.params).In h)
    (F : ∀ (w : World) (mg : Str → Option Value) (fa : Addr) (h : Heap), (K w.params).In h → h.Ns mainGlobals mg → mg d.name = some (.ref fa) →
      ∃ fd : FuncData, (∀ (s : Shared) (u : Value), BindsTo s fd ⟨[u], []⟩ [(x, u)]) ∧ ∀ base : Heap, (K w.params).In base → base.Ns mainGlobals mg → FnG l.prog w (K w.params) mg base CX0 k fa fd [x] (sp w))
    (hsp : ∀ (w : World) (H : Hp) (a : Addr) (ns : List Int), ns.length ≤ n → Only H → SqL (K w.params) H a (ns.map V.int) → sp w [.ref a] H (fun v _ => v = .bl true) fun _ _ _ => False) :
    PySem.W.WalkO q loose XP YP l.row.toRowW d [] (fun f vs => PySem.call f vs) := by
  refine Att.attach_call hn hdf fun w s0 s1 mg mb fa o pm cd doc a vs ns G Y ho hd hcd hmg hobj hints hlen hg => ?_
  have KX := hY w _ Y
  obtain ⟨fd, hb, hF⟩ := F w mg fa _ KX G.T.g hmg
  exact law_callG KX G.T.g G.T.b G.T.builtins G.T.nolimit hg hobj hints (Nat.le_trans hlen hn2) hr hF hb fun H hO hS => hsp w H a ns hlen hO hS
end Mi
end
section
set_option maxRecDepth 100000
namespace Mi
open PySem L2

/-- a lambda as a def got it: its address, its code object, its qualified name, the maker's names at the making -/
structure Clo where
  a : Addr
  cd : Addr
  q : Str
  σ : L2.St
/-- what a value is in the mirror: scalars, tuples, frozen lists and dicts as trees; a thing that may change by its number -/
inductive D where
  | non | bl (b : Bool) | int (i : Int) | str (x : Str)
  | tup (xs : List D) | lst (xs : List D) | dic (kvs : List (Key × D))
  | ins (c : Str) (fs : List (Str × D))
  | ref (n : Nat)
  /-- the script -/
  | scr (ns : List Int)
  /-- a class of the module -/
  | cls (c : Str)
  /-- an error that was caught -/
  | exc (c : Str) (fs : List (Str × D))
  /-- a lambda that a def got, with what it took along -/
  | fn (k : Clo) (js : List Nat) (ds : List D)
  deriving Inhabited

inductive O where
  | lst (m : Bool) (xs : List D)
  | dic (m : Bool) (kvs : List (Key × D))
  | ins (m : Bool) (c : Str) (fs : List (Str × D))
  | tbl (n : Nat) (x : Str) (q : Str)
def O.mut : O → Bool
  | .lst m _ => m
  | .dic m _ => m
  | .ins m _ _ => m
  | .tbl _ _ _ => true
abbrev Sto := List O
abbrev Env := List (Option D)
structure Xn where
  c : Str
  fs : List (Str × D)

inductive R (α : Type) where
  | ok (a : α) (s : Sto) | ex (x : Xn) (s : Sto) | no
def R.bind {α β : Type} (r : R α) (g : α → Sto → R β) : R β := match r with
  | .ok a s => g a s
  | .ex x s => .ex x s
  | .no => .no
@[simp] theorem bind_ok {α β : Type} (a : α) (s : Sto) (g : α → Sto → R β) : (R.ok a s).bind g = g a s := rfl
@[simp] theorem bind_ex {α β : Type} (x : Xn) (s : Sto) (g : α → Sto → R β) : (R.ex x s : R α).bind g = .ex x s := rfl
@[simp] theorem bind_no {α β : Type} (g : α → Sto → R β) : (R.no : R α).bind g = .no := rfl

abbrev ET := Env → Sto → R D
abbrev BT := Env → Sto → R Bool
abbrev AT := Env → Sto → R (List D)
inductive Fl where
  | nx (e : Env) | rt (d : D) | bk (e : Env) | ct (e : Env)
abbrev ST := Env → Sto → R Fl

/-! ### the relation to the abstract heap -/
structure Wd where
  K : PySem.W.Frag
  mg : Str → Option Value

/-- gs: lists that are being made and that no name knows yet -/
structure Ct where
  p : List Addr
  S : Sto
  gs : List Addr
/-- the addresses that may be written -/
def Lv (c : Ct) (a : Addr) : Prop := (∃ (n : Nat) (o : O), c.p[n]? = some a ∧ c.S[n]? = some o ∧ o.mut = true) ∨ a ∈ c.gs

/-- a dict may be locked and unlocked -/
def unf : HO → HO
  | .frz _ u => u
  | o => o
def isDic : HO → Bool
  | .dK _ => true
  | .dT _ => true
  | _ => false
def Sm (o o' : HO) : Prop := o' = o ∨ (isDic (unf o) = true ∧ unf o' = unf o)
theorem Sm.refl (o : HO) : Sm o o := .inl rfl
theorem Sm.trans {o o1 o2 : HO} (a : Sm o o1) (b : Sm o1 o2) : Sm o o2 := by
  rcases a with rfl | ⟨a1, a2⟩
  · exact b
  · rcases b with rfl | ⟨b1, b2⟩
    · exact .inr ⟨a1, a2⟩
    · exact .inr ⟨a1, b2.trans a2⟩
/-- read, never written: tracked and not writable, or of the written part -/
def FzL (w : Wd) (H : Hp) (c : Ct) (a : Addr) (vs : List V) : Prop := H a = some (.lst vs) ∧ ¬ Lv c a
def FzT (w : Wd) (H : Hp) (c : Ct) (a : Addr) (vs : List V) : Prop := (Rd H a (.tup vs) ∧ ¬ Lv c a) ∨
  ∃ (o : Obj) (its : Array Value) (n : Nat), w.K.lookup a = some o ∧ o.cls = .type "tuple" ∧ o.data = .seq its n ∧ its.size ≤ sizeLine ∧ Vals vs its.toList
/-- the script: read alone -/
def FzS (w : Wd) (H : Hp) (c : Ct) (a : Addr) (vs : List V) : Prop := (Rd H a (.lst vs) ∧ ¬ Lv c a) ∨
  ∃ (o : Obj) (its : Array Value) (n : Nat), w.K.lookup a = some o ∧ o.cls = .type "list" ∧ o.dict = none ∧ o.data = .seq its n ∧ its.size ≤ sizeLine ∧ Vals vs its.toList
theorem FzS.sq {w : Wd} {H : Hp} {c : Ct} {a : Addr} {vs : List V} (h : FzS w H c a vs) : SqL w.K H a vs := h.imp (·.1) id
theorem FzL.sq {w : Wd} {H : Hp} {c : Ct} {a : Addr} {vs : List V} (h : FzL w H c a vs) : SqL w.K H a vs := .inl (.inl h.1)
theorem FzT.sq {w : Wd} {H : Hp} {c : Ct} {a : Addr} {vs : List V} (h : FzT w H c a vs) : SqT w.K H a vs := h.imp (·.1) id
/-- what a lambda took along stands in the maker's names -/
def Held (σ : L2.St) (js : List Nat) (vs : List V) : Prop := ∀ (j i : Nat) (v : V), js[j]? = some i → vs[j]? = some v → σ[i]? = some (some v)
mutual
inductive RelD (w : Wd) (H : Hp) (c : Ct) : D → V → Prop
  | non : RelD w H c .non .non
  | bl (b : Bool) : RelD w H c (.bl b) (.bl b)
  | int (i : Int) : RelD w H c (.int i) (.int i)
  | str (x : Str) : x.length ≤ sizeLine → RelD w H c (.str x) (.str x)
  | tup {a : Addr} {xs : List D} {vs : List V} : FzT w H c a vs → RelDs w H c xs vs → RelD w H c (.tup xs) (.ref a)
  | lst {a : Addr} {xs : List D} {vs : List V} : FzL w H c a vs → RelDs w H c xs vs → RelD w H c (.lst xs) (.ref a)
  | dic {a : Addr} {kvs : List (Key × D)} {vs : List V} : Rd H a (.dK ((kvs.map (·.1)).zip vs)) → ¬ Lv c a → RelDs w H c (kvs.map (·.2)) vs → RelD w H c (.dic kvs) (.ref a)
  | ins {a C dx : Addr} {nm : Str} {fs : List (Str × D)} {vs : List V} : H a = some (.ins C dx ((fs.map (·.1)).zip vs)) → w.mg nm = some (.ref C) → ¬ Lv c a → RelDs w H c (fs.map (·.2)) vs → RelD w H c (.ins nm fs) (.ref a)
  | ref {n : Nat} {a : Addr} : c.p[n]? = some a → RelD w H c (.ref n) (.ref a)
  | scr {a : Addr} {ns : List Int} : FzS w H c a (ns.map V.int) → RelD w H c (.scr ns) (.ref a)
  | cls {C : Addr} {nm : Str} : w.mg nm = some (.ref C) → RelD w H c (.cls nm) (.ref C)
  | exc {a d C : Addr} {nm : Str} {fs : List (Str × D)} {vs : List V} : H a = some (ErV a (.ref C) d) → H d = some (.xd ((fs.map (·.1)).zip vs)) → w.mg nm = some (.ref C) → ¬ Lv c a → ¬ Lv c d → RelDs w H c (fs.map (·.2)) vs → RelD w H c (.exc nm fs) (.ref a)
  | fn {k : Clo} {js : List Nat} {ds : List D} {vs : List V} : H k.cd = some (LamX.CodeO k.cd k.q) → ¬ Lv c k.cd → RelDs w H c ds vs → Held k.σ js vs → RelD w H c (.fn k js ds) (.ref k.a)
inductive RelDs (w : Wd) (H : Hp) (c : Ct) : List D → List V → Prop
  | nil : RelDs w H c [] []
  | cons {d : D} {ds : List D} {v : V} {vs : List V} : RelD w H c d v → RelDs w H c ds vs → RelDs w H c (d :: ds) (v :: vs)
end
/-- what stands at a numbered thing's address -/
inductive RelO (w : Wd) (H : Hp) (c : Ct) : O → HO → Prop
  | lst {m : Bool} {xs : List D} {vs : List V} : RelDs w H c xs vs → RelO w H c (.lst m xs) (.lst vs)
  | dic {m : Bool} {kvs : List (Key × D)} {vs : List V} {ho : HO} : RelDs w H c (kvs.map (·.2)) vs → unf ho = .dK ((kvs.map (·.1)).zip vs) → (m = true → ho = .dK ((kvs.map (·.1)).zip vs)) → RelO w H c (.dic m kvs) ho
  | ins {m : Bool} {C dx : Addr} {nm : Str} {fs : List (Str × D)} {vs : List V} : w.mg nm = some (.ref C) → RelDs w H c (fs.map (·.2)) vs → RelO w H c (.ins m nm fs) (.ins C dx ((fs.map (·.1)).zip vs))
  /- a table of code objects: the thing's own number and address -/
  | tbl {n : Nat} {P : Addr} {x q : Str} {ps : Array Value} : c.p[n]? = some P → (PySem.W.tabIn w.K x).map (·.2) = some P → TriplesOk ps.toList → (∀ (pos : Pos) (cv : Value), codeAmong pos ps.toList = some cv → ∃ c', cv = .ref c' ∧ H c' = some (LamX.CodeO c' q) ∧ ¬ Lv c c') → RelO w H c (.tbl n x q) (.tbl ps)

/-- the dict of modules is tracked, too: nothing new lies at its address -/
def SmOk (H : Hp) (c : Ct) : Prop := ∃ (o : Obj) (u : HO), H sysModules = some (.frz o u) ∧ isDic u = false ∧ ¬ Lv c sysModules
structure Good (w : Wd) (H : Hp) (c : Ct) : Prop where
  len : c.p.length = c.S.length
  inj : ∀ (n m : Nat) (a : Addr), c.p[n]? = some a → c.p[m]? = some a → n = m
  obj : ∀ (n : Nat) (a : Addr) (o : O), c.p[n]? = some a → c.S[n]? = some o → ∃ ho, H a = some ho ∧ RelO w H c o ho
  gst : ∀ a ∈ c.gs, (∃ o, H a = some o) ∧ a ∉ c.p
  sm : SmOk H c

/-- weak: a dict may be locked or unlocked on the way -/
structure Tw (c : Ct) (H : Hp) (c' : Ct) (H' : Hp) : Prop where
  p : ∀ (n : Nat) (a : Addr), c.p[n]? = some a → c'.p[n]? = some a
  lv : ∀ a, Lv c' a → Lv c a ∨ H a = none
  keep : ∀ a o, H a = some o → ¬ Lv c a → ∃ o', H' a = some o' ∧ Sm o o'
structure Tr (c : Ct) (H : Hp) (c' : Ct) (H' : Hp) : Prop where
  p : ∀ (n : Nat) (a : Addr), c.p[n]? = some a → c'.p[n]? = some a
  lv : ∀ a, Lv c' a → Lv c a ∨ H a = none
  keep : ∀ a o, H a = some o → ¬ Lv c a → H' a = some o
theorem Tr.tw {c c' : Ct} {H H' : Hp} (e : Tr c H c' H') : Tw c H c' H' := ⟨e.p, e.lv, fun a o h n => ⟨o, e.keep a o h n, .refl o⟩⟩
structure Ext (c : Ct) (H : Hp) (c' : Ct) (H' : Hp) : Prop extends Tr c H c' H' where
  gs : c'.gs = c.gs
  gk : ∀ a ∈ c.gs, H' a = H a

theorem Tr.trans {c c1 c2 : Ct} {H H1 H2 : Hp} (a : Tr c H c1 H1) (b : Tr c1 H1 c2 H2) : Tr c H c2 H2 := by
  refine ⟨fun n x h => b.p n x (a.p n x h), fun x h => ?_, fun x o h n => ?_⟩
  · rcases b.lv x h with h | h
    · exact a.lv x h
    · by_cases l : Lv c x
      · exact .inl l
      · cases q : H x with
        | none => exact .inr rfl
        | some o =>
          rw [a.keep x o q l] at h
          cases h
  · refine b.keep x o (a.keep x o h n) fun l => ?_
    rcases a.lv x l with l | l
    · exact n l
    · rw [h] at l; cases l
theorem Ext.refl (c : Ct) (H : Hp) : Ext c H c H := ⟨⟨fun _ _ h => h, fun _ h => .inl h, fun _ o h _ => h⟩, rfl, fun _ _ => rfl⟩
theorem Ext.trans {c c1 c2 : Ct} {H H1 H2 : Hp} (a : Ext c H c1 H1) (b : Ext c1 H1 c2 H2) : Ext c H c2 H2 :=
  ⟨a.toTr.trans b.toTr, b.gs.trans a.gs, fun x h => (b.gk x (by rw [a.gs]; exact h)).trans (a.gk x h)⟩
/-- what is not to be written stays so -/
theorem Tw.nlv {c c' : Ct} {H H' : Hp} (e : Tw c H c' H') {a : Addr} {o : HO} (h : H a = some o) (n : ¬ Lv c a) : ¬ Lv c' a := fun l => by
  rcases e.lv a l with l | l
  · exact n l
  · rw [h] at l; cases l
theorem rd_of_unf {H : Hp} {a : Addr} {o u : HO} (h : H a = some o) (e : unf o = u) (hu : unf u = u) : Rd H a u := by
  cases o with
  | frz ob z => exact .inr ⟨ob, by rw [h]; exact congrArg some (congrArg _ e)⟩
  | _ => exact .inl (h.trans (congrArg some e))
theorem Rd.unf {H : Hp} {a : Addr} {u : HO} (h : Rd H a u) (hu : Mi.unf u = u) : ∃ o, H a = some o ∧ Mi.unf o = u := by
  rcases h with h | ⟨ob, h⟩
  · exact ⟨_, h, hu⟩
  · exact ⟨_, h, rfl⟩
theorem Tw.rd {c c' : Ct} {H H' : Hp} (e : Tw c H c' H') {a : Addr} {u : HO} (hu : unf u = u) (h : Rd H a u) (n : ¬ Lv c a) : Rd H' a u ∧ ¬ Lv c' a := by
  obtain ⟨o, h, q⟩ := Rd.unf h hu
  obtain ⟨o', h', m⟩ := e.keep a o h n
  refine ⟨rd_of_unf h' ?_ hu, e.nlv h n⟩
  rcases m with rfl | ⟨_, m⟩
  · exact q
  · exact m.trans q
/-- what is no dict stays to the sign -/
theorem Tw.same {c c' : Ct} {H H' : Hp} (e : Tw c H c' H') {a : Addr} {o : HO} (ho : isDic (unf o) = false) (h : H a = some o) (n : ¬ Lv c a) : H' a = some o := by
  obtain ⟨o', h', m⟩ := e.keep a o h n
  rcases m with rfl | ⟨m, _⟩
  · exact h'
  · rw [ho] at m; cases m
theorem SmOk.tw {c c' : Ct} {H H' : Hp} (e : Tw c H c' H') (h : SmOk H c) : SmOk H' c' := by
  obtain ⟨o, u, h1, hu, h2⟩ := h
  exact ⟨o, u, e.same hu h1 h2, hu, e.nlv h1 h2⟩
theorem SmOk.tr {c c' : Ct} {H H' : Hp} (e : Tr c H c' H') (h : SmOk H c) : SmOk H' c' := h.tw e.tw
theorem FzL.tw {w : Wd} {c c' : Ct} {H H' : Hp} {a : Addr} {vs : List V} (e : Tw c H c' H') (h : FzL w H c a vs) : FzL w H' c' a vs := ⟨e.same rfl h.1 h.2, e.nlv h.1 h.2⟩
theorem FzT.tw {w : Wd} {c c' : Ct} {H H' : Hp} {a : Addr} {vs : List V} (e : Tw c H c' H') (h : FzT w H c a vs) : FzT w H' c' a vs := h.imp (fun z => e.rd rfl z.1 z.2) id
section
variable {w : Wd} {c c' : Ct} {H H' : Hp}
mutual
theorem RelD.tw (e : Tw c H c' H') : ∀ {d : D} {v : V}, RelD w H c d v → RelD w H' c' d v
  | _, _, .non => .non
  | _, _, .bl b => .bl b
  | _, _, .int i => .int i
  | _, _, .str x h => .str x h
  | _, _, .tup h r => .tup (h.tw e) (RelDs.tw e r)
  | _, _, .lst h r => .lst (h.tw e) (RelDs.tw e r)
  | _, _, .dic h n r => .dic (e.rd rfl h n).1 (e.rd rfl h n).2 (RelDs.tw e r)
  | _, _, .ins h m n r => .ins (e.same rfl h n) m (e.nlv h n) (RelDs.tw e r)
  | _, _, .ref h => .ref (e.p _ _ h)
  | _, _, .scr h => .scr (h.imp (fun z => e.rd rfl z.1 z.2) id)
  | _, _, .cls h => .cls h
  | _, _, .exc h1 h2 m n1 n2 r => .exc (e.same rfl h1 n1) (e.same rfl h2 n2) m (e.nlv h1 n1) (e.nlv h2 n2) (RelDs.tw e r)
  | _, _, .fn h n r hh => .fn (e.same rfl h n) (e.nlv h n) (RelDs.tw e r) hh
theorem RelDs.tw (e : Tw c H c' H') : ∀ {ds : List D} {vs : List V}, RelDs w H c ds vs → RelDs w H' c' ds vs
  | _, _, .nil => .nil
  | _, _, .cons r t => .cons (RelD.tw e r) (RelDs.tw e t)
end
theorem RelO.tw (e : Tw c H c' H') {o : O} {ho : HO} (h : RelO w H c o ho) : RelO w H' c' o ho := by
  cases h with
  | lst r => exact .lst (r.tw e)
  | dic r h1 h2 => exact .dic (r.tw e) h1 h2
  | ins m r => exact .ins m (r.tw e)
  | tbl hp hx ht hc =>
    refine .tbl (e.p _ _ hp) hx ht fun pos cv z => ?_
    obtain ⟨c', e1, e2, e3⟩ := hc pos cv z
    exact ⟨c', e1, e.same rfl e2 e3, e.nlv e2 e3⟩
theorem RelD.tr (e : Tr c H c' H') {d : D} {v : V} (h : RelD w H c d v) : RelD w H' c' d v := h.tw e.tw
theorem RelDs.tr (e : Tr c H c' H') {ds : List D} {vs : List V} (h : RelDs w H c ds vs) : RelDs w H' c' ds vs := h.tw e.tw
theorem RelO.tr (e : Tr c H c' H') {o : O} {ho : HO} (h : RelO w H c o ho) : RelO w H' c' o ho := h.tw e.tw
theorem Tr.nlv (e : Tr c H c' H') {a : Addr} {o : HO} (h : H a = some o) (n : ¬ Lv c a) : ¬ Lv c' a := e.tw.nlv h n
theorem Tr.rd (e : Tr c H c' H') {a : Addr} {u : HO} (hu : unf u = u) (h : Rd H a u) (n : ¬ Lv c a) : Rd H' a u ∧ ¬ Lv c' a := e.tw.rd hu h n
theorem FzT.tr {a : Addr} {vs : List V} (e : Tr c H c' H') (h : FzT w H c a vs) : FzT w H' c' a vs := h.tw e.tw
theorem FzL.tr {a : Addr} {vs : List V} (e : Tr c H c' H') (h : FzL w H c a vs) : FzL w H' c' a vs := h.tw e.tw
theorem RelD.ext (e : Ext c H c' H') {d : D} {v : V} (h : RelD w H c d v) : RelD w H' c' d v := h.tr e.toTr
theorem RelDs.ext (e : Ext c H c' H') {d : List D} {v : List V} (h : RelDs w H c d v) : RelDs w H' c' d v := h.tr e.toTr
theorem RelO.ext (e : Ext c H c' H') {o : O} {ho : HO} (h : RelO w H c o ho) : RelO w H' c' o ho := h.tr e.toTr
theorem RelDs.length {ds : List D} {vs : List V} (h : RelDs w H c ds vs) : ds.length = vs.length := by
  induction ds generalizing vs with
  | nil => cases h; rfl
  | cons d ds ih => cases h with | cons r t => simp [ih t]
theorem RelDs.get {ds : List D} {vs : List V} {i : Nat} {d : D} (h : RelDs w H c ds vs) (e : ds[i]? = some d) : ∃ v, vs[i]? = some v ∧ RelD w H c d v := by
  induction ds generalizing vs i with
  | nil => simp at e
  | cons x ds ih =>
    cases h with
    | cons r t =>
      cases i with
      | zero => simp at e; subst e; exact ⟨_, rfl, r⟩
      | succ i =>
        obtain ⟨v, h1, h2⟩ := ih t (i := i) (by simpa using e)
        exact ⟨v, by simpa using h1, h2⟩
theorem RelDs.getV {ds : List D} {vs : List V} {i : Nat} {v : V} (h : RelDs w H c ds vs) (e : vs[i]? = some v) : ∃ d, ds[i]? = some d ∧ RelD w H c d v := by
  induction ds generalizing vs i with
  | nil => cases h; simp at e
  | cons x ds ih =>
    cases h with
    | cons r t =>
      cases i with
      | zero => simp at e; subst e; exact ⟨_, rfl, r⟩
      | succ i =>
        obtain ⟨v, h1, h2⟩ := ih t (i := i) (by simpa using e)
        exact ⟨v, by simpa using h1, h2⟩
theorem RelDs.append {ds es : List D} {vs us : List V} (h : RelDs w H c ds vs) (k : RelDs w H c es us) : RelDs w H c (ds ++ es) (vs ++ us) := by
  induction ds generalizing vs with
  | nil => cases h; exact k
  | cons d ds ih => cases h with | cons r t => exact .cons r (ih t)
theorem RelDs.set {ds : List D} {vs : List V} {i : Nat} {d : D} {v : V} (h : RelDs w H c ds vs) (r : RelD w H c d v) : RelDs w H c (ds.set i d) (vs.set i v) := by
  induction ds generalizing vs i with
  | nil => cases h; exact .nil
  | cons x ds ih =>
    cases h with
    | cons r0 t =>
      cases i with
      | zero => exact .cons r t
      | succ i => exact .cons r0 (ih t)
theorem RelDs.take {ds : List D} {vs : List V} (n : Nat) (h : RelDs w H c ds vs) : RelDs w H c (ds.take n) (vs.take n) := by
  induction ds generalizing vs n with
  | nil => cases h; simp; exact .nil
  | cons d ds ih =>
    cases h with
    | cons r t =>
      cases n with
      | zero => exact .nil
      | succ n => exact .cons r (ih n t)
theorem RelDs.drop {ds : List D} {vs : List V} (n : Nat) (h : RelDs w H c ds vs) : RelDs w H c (ds.drop n) (vs.drop n) := by
  induction ds generalizing vs n with
  | nil => cases h; simp; exact .nil
  | cons d ds ih =>
    cases h with
    | cons r t =>
      cases n with
      | zero => exact .cons r t
      | succ n => exact ih n t
theorem RelDs.reverse {ds : List D} {vs : List V} (h : RelDs w H c ds vs) : RelDs w H c ds.reverse vs.reverse := by
  induction ds generalizing vs with
  | nil => cases h; exact .nil
  | cons d ds ih =>
    cases h with
    | cons r t => simp only [List.reverse_cons]; exact (ih t).append (.cons r .nil)
theorem RelDs.eraseIdx {ds : List D} {vs : List V} (n : Nat) (h : RelDs w H c ds vs) : RelDs w H c (ds.eraseIdx n) (vs.eraseIdx n) := by
  induction ds generalizing vs n with
  | nil => cases h; exact .nil
  | cons d ds ih =>
    cases h with
    | cons r t =>
      cases n with
      | zero => exact t
      | succ n => exact .cons r (ih n t)

/-! ### growing and writing -/
theorem Good.gne {a b : Addr} (g : Good w H c) (h : H a = none) (hb : b ∈ c.gs) : b ≠ a := fun z => by
  subst z
  obtain ⟨⟨o, q⟩, _⟩ := g.gst b hb
  rw [h] at q; cases q
theorem Ext.fresh {a : Addr} {o : HO} (g : Good w H c) (h : H a = none) : Ext c H c (upd H a o) :=
  ⟨⟨fun _ _ h => h, fun _ h => .inl h, fun b u e _ => by rw [upd_ne (ne_of_none e h)]; exact e⟩, rfl, fun b hb => upd_ne (g.gne h hb)⟩
theorem Good.fresh {a : Addr} {o : HO} (g : Good w H c) (h : H a = none) : Good w (upd H a o) c :=
  ⟨g.len, g.inj, fun n b u e1 e2 => by
    obtain ⟨ho, q, r⟩ := g.obj n b u e1 e2
    exact ⟨ho, by rw [upd_ne (ne_of_none q h)]; exact q, r.ext (Ext.fresh g h)⟩, fun b hb => ⟨by rw [upd_ne (g.gne h hb)]; exact (g.gst b hb).1, (g.gst b hb).2⟩, g.sm.tr (Ext.fresh g h).toTr⟩
/-- a new thing that may change -/
def Ct.push (c : Ct) (a : Addr) (o : O) : Ct := ⟨c.p ++ [a], c.S ++ [o], c.gs⟩
theorem Good.lt (g : Good w H c) {n : Nat} {a : Addr} (h : c.p[n]? = some a) : n < c.S.length := by
  rw [← g.len]; exact (List.getElem?_eq_some_iff.mp h).1
theorem Good.ne {a : Addr} (g : Good w H c) (h : H a = none) {n : Nat} {b : Addr} (e : c.p[n]? = some b) : b ≠ a := fun z => by
  subst z
  obtain ⟨ho, q, _⟩ := g.obj n b _ e (List.getElem?_eq_getElem (g.lt e))
  rw [h] at q; cases q
theorem Ext.pushed {a : Addr} {o : O} {ho : HO} (g : Good w H c) (h : H a = none) : Ext c H (c.push a o) (upd H a ho) := by
  refine ⟨⟨fun n b e => ?_, fun b lb => ?_, fun b u e _ => by rw [upd_ne (ne_of_none e h)]; exact e⟩, rfl, fun b hb => upd_ne (g.gne h hb)⟩
  · show (c.p ++ [a])[n]? = some b
    rw [List.getElem?_append_left (List.getElem?_eq_some_iff.mp e).1]; exact e
  · rcases lb with ⟨n, u, e1, e2, e3⟩ | lb
    case inr => exact .inl (.inr lb)
    have e1 : (c.p ++ [a])[n]? = some b := e1
    have e2 : (c.S ++ [o])[n]? = some u := e2
    by_cases l : n < c.p.length
    · rw [List.getElem?_append_left l] at e1
      rw [List.getElem?_append_left (by rw [← g.len]; exact l)] at e2
      exact .inl (.inl ⟨n, u, e1, e2, e3⟩)
    · rw [List.getElem?_append_right (by omega)] at e1
      have z : n - c.p.length = 0 := by
        cases q : n - c.p.length with
        | zero => rfl
        | succ m => rw [q] at e1; simp at e1
      rw [z] at e1
      simp at e1
      subst e1
      exact .inr h
theorem Good.pushed {a : Addr} {o : O} {ho : HO} (g : Good w H c) (h : H a = none) (r : RelO w (upd H a ho) (c.push a o) o ho) : Good w (upd H a ho) (c.push a o) := by
  have ex : Ext c H (c.push a o) (upd H a ho) := Ext.pushed g h
  have dec : ∀ (n : Nat) (b : Addr), (c.p ++ [a])[n]? = some b → c.p[n]? = some b ∨ (n = c.p.length ∧ b = a) := fun n b e => by
    by_cases l : n < c.p.length
    · rw [List.getElem?_append_left l] at e; exact .inl e
    · rw [List.getElem?_append_right (by omega)] at e
      cases q : n - c.p.length with
      | zero => rw [q] at e; simp at e; exact .inr ⟨by omega, e.symm⟩
      | succ m => rw [q] at e; simp at e
  refine ⟨by simp [Ct.push, g.len], fun n m b e1 e2 => ?_, fun n b u e1 e2 => ?_, fun b hb => ⟨by rw [upd_ne (g.gne h hb)]; exact (g.gst b hb).1, fun z => ?_⟩, g.sm.tr ex.toTr⟩
  · rcases dec n b e1 with e1 | ⟨e1, z1⟩
    · rcases dec m b e2 with e2 | ⟨e2, z2⟩
      · exact g.inj n m b e1 e2
      · exact absurd z2 (g.ne h e1)
    · rcases dec m b e2 with e2 | ⟨e2, z2⟩
      · exact absurd z1 (g.ne h e2)
      · rw [e1, e2]
  · have e2 : (c.S ++ [o])[n]? = some u := e2
    rcases dec n b e1 with e1 | ⟨e1, z1⟩
    · rw [List.getElem?_append_left (g.lt e1)] at e2
      obtain ⟨ho', q, r'⟩ := g.obj n b u e1 e2
      exact ⟨ho', by rw [upd_ne (ne_of_none q h)]; exact q, r'.ext ex⟩
    · rw [e1, g.len] at e2
      simp at e2
      subst e2; subst z1
      exact ⟨ho, upd_same, r⟩
  · rcases List.mem_append.mp (show b ∈ c.p ++ [a] from z) with z | z
    · exact (g.gst b hb).2 z
    · exact g.gne h hb (by simpa using z)
/-- a thing is written -/
def Ct.put (c : Ct) (n : Nat) (o : O) : Ct := ⟨c.p, c.S.set n o, c.gs⟩
theorem Ext.wrote {n : Nat} {a : Addr} {o o' : O} {ho : HO} (g : Good w H c) (e : c.p[n]? = some a) (eo : c.S[n]? = some o) (m : o.mut = true) : Ext c H (c.put n o') (upd H a ho) := by
  have la : Lv c a := .inl ⟨n, o, e, eo, m⟩
  refine ⟨⟨fun _ _ h => h, fun b lb => ?_, fun b u q nl => ?_⟩, rfl, fun b hb => upd_ne fun z => (g.gst b hb).2 (by rw [z]; exact List.mem_of_getElem? e)⟩
  · rcases lb with ⟨k, u, e1, e2, e3⟩ | lb
    case inr => exact .inl (.inr lb)
    have e1 : c.p[k]? = some b := e1
    have e2 : (c.S.set n o')[k]? = some u := e2
    by_cases q : k = n
    · subst q
      obtain rfl : a = b := Option.some.inj (e.symm.trans e1)
      exact .inl la
    · rw [List.getElem?_set_ne (Ne.symm q)] at e2
      exact .inl (.inl ⟨k, u, e1, e2, e3⟩)
  · have : b ≠ a := fun z => by subst z; exact nl la
    rw [upd_ne this]; exact q
theorem Good.wrote {n : Nat} {a : Addr} {o o' : O} {ho : HO} (g : Good w H c) (e : c.p[n]? = some a) (eo : c.S[n]? = some o) (m : o.mut = true) (r : RelO w (upd H a ho) (c.put n o') o' ho) : Good w (upd H a ho) (c.put n o') := by
  have ex : Ext c H (c.put n o') (upd H a ho) := Ext.wrote g e eo m
  refine ⟨by simp [Ct.put, g.len], g.inj, fun k b u e1 e2 => ?_, fun b hb => ⟨?_, (g.gst b hb).2⟩, g.sm.tr ex.toTr⟩
  case refine_2 => rw [upd_ne fun z => (g.gst b hb).2 (by rw [z]; exact List.mem_of_getElem? e)]; exact (g.gst b hb).1
  have e1 : c.p[k]? = some b := e1
  have e2 : (c.S.set n o')[k]? = some u := e2
  by_cases q : k = n
  · subst q
    obtain rfl : a = b := Option.some.inj (e.symm.trans e1)
    rw [List.getElem?_set_self (g.lt e)] at e2
    cases e2
    exact ⟨ho, upd_same, r⟩
  · rw [List.getElem?_set_ne (Ne.symm q)] at e2
    obtain ⟨ho', q', r'⟩ := g.obj k b u e1 e2
    have : b ≠ a := fun z => by subst z; exact q (g.inj k n b e1 e)
    exact ⟨ho', by rw [upd_ne this]; exact q', r'.ext ex⟩
end

/-! ### a list that is being made -/
section
variable {w : Wd} {c : Ct} {H : Hp} {a : Addr}
def Ct.gh (c : Ct) (a : Addr) : Ct := ⟨c.p, c.S, a :: c.gs⟩
def Ct.ug (c : Ct) (l : List Addr) : Ct := ⟨c.p, c.S, l⟩
theorem Tr.gh {o : HO} (h : H a = none) : Tr c H (c.gh a) (upd H a o) := by
  refine ⟨fun _ _ h => h, fun b lb => ?_, fun b u e _ => by rw [upd_ne (ne_of_none e h)]; exact e⟩
  rcases lb with lb | lb
  · exact .inl (.inl lb)
  · rcases List.mem_cons.mp (show b ∈ a :: c.gs from lb) with rfl | lb
    · exact .inr h
    · exact .inl (.inr lb)
theorem Good.gh {o : HO} (g : Good w H c) (h : H a = none) : Good w (upd H a o) (c.gh a) := by
  refine ⟨g.len, g.inj, fun n b u e1 e2 => ?_, fun b hb => ?_, g.sm.tr (Tr.gh h)⟩
  · obtain ⟨ho, q, r⟩ := g.obj n b u e1 e2
    exact ⟨ho, by rw [upd_ne (ne_of_none q h)]; exact q, r.tr (Tr.gh h)⟩
  · rcases List.mem_cons.mp (show b ∈ a :: c.gs from hb) with rfl | hb
    · refine ⟨⟨o, upd_same⟩, fun z => ?_⟩
      obtain ⟨n, hn⟩ := List.getElem?_of_mem (show b ∈ c.p from z)
      exact g.ne h hn rfl
    · exact ⟨by rw [upd_ne (g.gne h hb)]; exact (g.gst b hb).1, (g.gst b hb).2⟩
/-- the list that is being made grows -/
theorem Tr.grow {o : HO} (h : a ∈ c.gs) : Tr c H c (upd H a o) := by
  refine ⟨fun _ _ h => h, fun b lb => .inl lb, fun b u e n => ?_⟩
  rw [upd_ne (fun z => n (by rw [z]; exact .inr h))]; exact e
theorem Good.grow {o : HO} (g : Good w H c) (h : a ∈ c.gs) : Good w (upd H a o) c := by
  refine ⟨g.len, g.inj, fun n b u e1 e2 => ?_, fun b hb => ⟨?_, (g.gst b hb).2⟩, g.sm.tr (Tr.grow h)⟩
  · obtain ⟨ho, q, r⟩ := g.obj n b u e1 e2
    refine ⟨ho, ?_, r.tr (Tr.grow h)⟩
    rw [upd_ne (fun z => (g.gst a h).2 (by rw [← z]; exact List.mem_of_getElem? e1))]; exact q
  · by_cases z : b = a
    · rw [z]; exact ⟨o, upd_same⟩
    · rw [upd_ne z]; exact (g.gst b hb).1
/-- .. and is made -/
theorem Tr.ug {l : List Addr} (h : ∀ b ∈ l, b ∈ c.gs) : Tr c H (c.ug l) H :=
  ⟨fun _ _ h => h, fun b lb => .inl (lb.imp id (h b)), fun b u e _ => e⟩
theorem Good.ug {l : List Addr} (g : Good w H c) (h : ∀ b ∈ l, b ∈ c.gs) : Good w H (c.ug l) :=
  ⟨g.len, g.inj, fun n b u e1 e2 => let ⟨ho, q, r⟩ := g.obj n b u e1 e2; ⟨ho, q, r.tr (Tr.ug h)⟩, fun b hb => g.gst b (h b hb), g.sm.tr (Tr.ug h)⟩
end

/-! ### environments -/
structure RelEnv (w : Wd) (H : Hp) (c : Ct) (env : Env) (st : L2.St) : Prop where
  len : env.length = st.length
  get : ∀ (i : Nat) (d : D), env[i]? = some (some d) → ∃ v, st[i]? = some (some v) ∧ RelD w H c d v
section
variable {w : Wd} {c c' : Ct} {H H' : Hp} {env : Env} {st : L2.St}
theorem RelEnv.tr (e : Tr c H c' H') (r : RelEnv w H c env st) : RelEnv w H' c' env st :=
  ⟨r.len, fun i d h => let ⟨v, a, b⟩ := r.get i d h; ⟨v, a, b.tr e⟩⟩
theorem RelEnv.ext (e : Ext c H c' H') (r : RelEnv w H c env st) : RelEnv w H' c' env st := r.tr e.toTr
theorem RelEnv.set {i : Nat} {d : D} {v : V} (r : RelEnv w H c env st) (h : RelD w H c d v) : RelEnv w H c (env.set i (some d)) (st.set i (some v)) := by
  refine ⟨by simp [r.len], fun j x e => ?_⟩
  by_cases q : j = i
  · subst q
    have l : j < env.length := by
      have := (List.getElem?_eq_some_iff.mp e).1
      simpa using this
    rw [List.getElem?_set_self l] at e
    cases e
    exact ⟨v, List.getElem?_set_self (by rw [← r.len]; exact l), h⟩
  · rw [List.getElem?_set_ne (Ne.symm q)] at e ⊢
    exact r.get j x e
end
end Mi
end
section
set_option maxRecDepth 100000
namespace Mi
open PySem L2
/-- what is wanted behind a run -/
def RelX (w : Wd) (H : Hp) (c : Ct) (x : Xn) (cls : Value) (dd : Option Addr) : Prop := ∃ C, cls = .ref C ∧ w.mg x.c = some (.ref C) ∧
  ((x.fs = [] ∧ dd = none) ∨ ∃ d vs, dd = some d ∧ H d = some (.xd ((x.fs.map (·.1)).zip vs)) ∧ ¬ Lv c d ∧ RelDs w H c (x.fs.map (·.2)) vs)
def Fin {α : Type} (w : Wd) (E : XK) (c : Ct) (H : Hp) (r : R α) (k : α → Ct → Hp → Prop) : Prop := match r with
  | .ok a S => ∀ c' H', Ext c H c' H' → Good w H' c' → c'.S = S → k a c' H'
  | .ex x S => ∀ c' H' cls dd, Ext c H c' H' → Good w H' c' → c'.S = S → RelX w H' c' x cls dd → E cls dd H'
  | .no => False
section
variable {α β : Type} {w : Wd} {E : XK} {c : Ct} {H : Hp}
theorem Fin.bind {r : R α} {g : α → Sto → R β} {k : β → Ct → Hp → Prop} (h : Fin w E c H (r.bind g) k) : Fin w E c H r (fun a c1 H1 => Fin w E c1 H1 (g a c1.S) k) := by
  cases r with
  | no => exact h
  | ex x S => exact h
  | ok a S =>
    intro c1 H1 e1 g1 s1
    have h : Fin w E c H (g a S) k := h
    rw [s1]
    cases q : g a S with
    | no => rw [q] at h; exact h
    | ex x S2 =>
      rw [q] at h
      intro c2 H2 cls dd e2 g2 s2 rx
      exact h c2 H2 cls dd (e1.trans e2) g2 s2 rx
    | ok b S2 =>
      rw [q] at h
      intro c2 H2 e2 g2 s2
      exact h c2 H2 (e1.trans e2) g2 s2
theorem Fin.mono {r : R α} {k k' : α → Ct → Hp → Prop} (h : Fin w E c H r k) (i : ∀ a c' H', Ext c H c' H' → Good w H' c' → k a c' H' → k' a c' H') : Fin w E c H r k' := by
  cases r with
  | no => exact h
  | ex x S => exact h
  | ok a S =>
    intro c1 H1 e1 g1 s1
    exact i a c1 H1 e1 g1 (h c1 H1 e1 g1 s1)
theorem Fin.here {a : α} {S : Sto} {k : α → Ct → Hp → Prop} (h : Fin w E c H (.ok a S) k) (g : Good w H c) (e : c.S = S) : k a c H := h c H (Ext.refl c H) g e
theorem Fin.new {a : α} {S : Sto} {k : α → Ct → Hp → Prop} {p : Addr} {o : HO} (h : Fin w E c H (.ok a S) k) (g : Good w H c) (e : c.S = S) (hp : H p = none) : k a c (upd H p o) := h c _ (Ext.fresh g hp) (g.fresh hp) e
end

/-- a statement's end: how it goes on; what it raises is told with the names as they stand -/
inductive SR where
  | fl (f : Fl) (s : Sto) | ex (x : Xn) (e : Env) (s : Sto) | no
abbrev SM := Env → Sto → SR
def R.st (r : R D) (env : Env) (g : D → Sto → SR) : SR := match r with
  | .ok d s => g d s
  | .ex x s => .ex x env s
  | .no => .no
def R.bt (r : R Bool) (env : Env) (g : Bool → Sto → SR) : SR := match r with
  | .ok d s => g d s
  | .ex x s => .ex x env s
  | .no => .no
def R.lt (r : R (List D)) (env : Env) (g : List D → Sto → SR) : SR := match r with
  | .ok d s => g d s
  | .ex x s => .ex x env s
  | .no => .no
def SR.then (r : SR) (g : Env → Sto → SR) : SR := match r with
  | .fl (.nx e) s => g e s
  | r => r
@[simp] theorem st_ok (d : D) (s : Sto) (env : Env) (g : D → Sto → SR) : (R.ok d s).st env g = g d s := rfl
@[simp] theorem st_ex (x : Xn) (s : Sto) (env : Env) (g : D → Sto → SR) : (R.ex x s : R D).st env g = .ex x env s := rfl
@[simp] theorem bt_ok (d : Bool) (s : Sto) (env : Env) (g : Bool → Sto → SR) : (R.ok d s).bt env g = g d s := rfl
@[simp] theorem lt_ok (d : List D) (s : Sto) (env : Env) (g : List D → Sto → SR) : (R.ok d s).lt env g = g d s := rfl
@[simp] theorem then_nx (e : Env) (s : Sto) (g : Env → Sto → SR) : (SR.fl (.nx e) s).then g = g e s := rfl
@[simp] theorem then_rt (d : D) (s : Sto) (g : Env → Sto → SR) : (SR.fl (.rt d) s).then g = .fl (.rt d) s := rfl
@[simp] theorem then_bk (d : Env) (s : Sto) (g : Env → Sto → SR) : (SR.fl (.bk d) s).then g = .fl (.bk d) s := rfl
@[simp] theorem then_ct (d : Env) (s : Sto) (g : Env → Sto → SR) : (SR.fl (.ct d) s).then g = .fl (.ct d) s := rfl
@[simp] theorem then_ex (x : Xn) (e : Env) (s : Sto) (g : Env → Sto → SR) : (SR.ex x e s).then g = .ex x e s := rfl

/-! ### the readings -/
abbrev Wx (X : Cx) : Wd := ⟨X.K, X.mg⟩
def tM (w : Wd) (E : L2.St → XK) (f : ET) : TE := fun st H Q => ∃ c env, Good w H c ∧ RelEnv w H c env st ∧ Fin w (E st) c H (f env c.S) (fun d c' H' => ∀ v, RelD w H' c' d v → Q v H')
def tMB (w : Wd) (E : L2.St → XK) (f : BT) : TT := fun st H Q => ∃ c env, Good w H c ∧ RelEnv w H c env st ∧ Fin w (E st) c H (f env c.S) (fun b _ H' => Q b H')
def tMA (w : Wd) (E : L2.St → XK) (f : AT) : TA := fun st H Q => ∃ c env, Good w H c ∧ RelEnv w H c env st ∧ Fin w (E st) c H (f env c.S) (fun ds c' H' => ∀ vs, RelDs w H' c' ds vs → Q vs H')
def FlK (w : Wd) (En : Ends) (fl : Fl) (c : Ct) (H : Hp) : Prop := match fl with
  | .nx e => ∀ st, RelEnv w H c e st → En.nx st H
  | .bk e => ∀ st, RelEnv w H c e st → En.bk st H
  | .ct e => ∀ st, RelEnv w H c e st → En.ct st H
  | .rt d => ∀ v, RelD w H c d v → En.rt v H
def FinS (w : Wd) (E : L2.St → XK) (c : Ct) (H : Hp) (r : SR) (En : Ends) : Prop := match r with
  | .fl fl S => ∀ c' H', Ext c H c' H' → Good w H' c' → c'.S = S → FlK w En fl c' H'
  | .ex x env S => ∀ c' H' cls dd st, Ext c H c' H' → Good w H' c' → c'.S = S → RelEnv w H' c' env st → RelX w H' c' x cls dd → E st cls dd H'
  | .no => False
def tMS (w : Wd) (E : L2.St → XK) (f : SM) : TS := fun En st H => ∃ c env, Good w H c ∧ RelEnv w H c env st ∧ FinS w E c H (f env c.S) En
section
variable {w : Wd} {E : L2.St → XK} {c : Ct} {H : Hp} {env : Env} {st : L2.St} {En : Ends}
theorem FinS.later {c1 : Ct} {H1 : Hp} {r : SR} (e : Ext c H c1 H1) (h : FinS w E c H r En) : FinS w E c1 H1 r En := by
  cases r with
  | no => exact h
  | fl f S => exact fun c' H' e' g' s' => h c' H' (e.trans e') g' s'
  | ex x v S => exact fun c' H' cls dd st e' g' s' => h c' H' cls dd st (e.trans e') g' s'
theorem FinS.of_st {r : R D} {g : D → Sto → SR} (re : RelEnv w H c env st) (h : FinS w E c H (r.st env g) En) : Fin w (E st) c H r (fun d c1 H1 => FinS w E c1 H1 (g d c1.S) En) := by
  cases r with
  | no => exact h
  | ex x S => exact fun c' H' cls dd e' g' s' rx => h c' H' cls dd st e' g' s' (re.ext e') rx
  | ok d S =>
    intro c1 H1 e1 g1 s1
    rw [s1]
    exact FinS.later e1 (show FinS w E c H (g d S) En from h)
theorem FinS.of_bt {r : R Bool} {g : Bool → Sto → SR} (re : RelEnv w H c env st) (h : FinS w E c H (r.bt env g) En) : Fin w (E st) c H r (fun d c1 H1 => FinS w E c1 H1 (g d c1.S) En) := by
  cases r with
  | no => exact h
  | ex x S => exact fun c' H' cls dd e' g' s' rx => h c' H' cls dd st e' g' s' (re.ext e') rx
  | ok d S =>
    intro c1 H1 e1 g1 s1
    rw [s1]
    exact FinS.later e1 (show FinS w E c H (g d S) En from h)
theorem FinS.of_lt {r : R (List D)} {g : List D → Sto → SR} (re : RelEnv w H c env st) (h : FinS w E c H (r.lt env g) En) : Fin w (E st) c H r (fun d c1 H1 => FinS w E c1 H1 (g d c1.S) En) := by
  cases r with
  | no => exact h
  | ex x S => exact fun c' H' cls dd e' g' s' rx => h c' H' cls dd st e' g' s' (re.ext e') rx
  | ok d S =>
    intro c1 H1 e1 g1 s1
    rw [s1]
    exact FinS.later e1 (show FinS w E c H (g d S) En from h)
end
section
variable {X : Cx} {E : L2.St → XK}
theorem PE.imp {e : Expr} {t t' : TE} (h : PE X e t) (i : ∀ st H Q, t' st H Q → t st H Q) : PE X e t' := ⟨fun pins s st H Q I q => h.run pins s st H Q I (i st H Q q)⟩
theorem PT.imp {e : Expr} {t t' : TT} (h : PT X e t) (i : ∀ st H Q, t' st H Q → t st H Q) : PT X e t' := ⟨fun pins s st H Q I q => h.run pins s st H Q I (i st H Q q)⟩
theorem PW.imp {e : Expr} {t t' : TT} (h : PW X e t) (i : ∀ st H Q, t' st H Q → t st H Q) : PW X e t' := ⟨fun wh pins s st H Q I q => h.run wh pins s st H Q I (i st H Q q)⟩
theorem PA.imp {e : List Expr} {t t' : TA} (h : PA X e t) (i : ∀ st H Q, t' st H Q → t st H Q) : PA X e t' := ⟨fun pos pins s st H Q I q => h.run pos pins s st H Q I (i st H Q q)⟩
theorem PS.imp {e : Stmt} {t t' : TS} (h : PS X e t) (i : ∀ En st H, t' En st H → t En st H) : PS X e t' := ⟨fun pins s st H Q I q => h.run pins s st H Q I (i Q st H q)⟩
theorem PSs.imp {e : List Stmt} {t t' : TS} (h : PSs X e t) (i : ∀ En st H, t' En st H → t En st H) : PSs X e t' := ⟨fun pins s st H Q I q => h.run pins s st H Q I (i Q st H q)⟩
abbrev ME (X : Cx) (E : L2.St → XK) (e : Expr) (f : ET) : Prop := PE X e (tM (Wx X) E f)
abbrev MT (X : Cx) (E : L2.St → XK) (e : Expr) (f : BT) : Prop := PT X e (tMB (Wx X) E f)
abbrev MW (X : Cx) (E : L2.St → XK) (e : Expr) (f : BT) : Prop := PW X e (tMB (Wx X) E f)
abbrev MA (X : Cx) (E : L2.St → XK) (e : List Expr) (f : AT) : Prop := PA X e (tMA (Wx X) E f)
abbrev MS (X : Cx) (E : L2.St → XK) (e : Stmt) (f : SM) : Prop := PS X e (tMS (Wx X) E f)
abbrev MSs (X : Cx) (E : L2.St → XK) (e : List Stmt) (f : SM) : Prop := PSs X e (tMS (Wx X) E f)

/-! ### names and constants -/
def mVar (i : Nat) : ET := fun env s => match env[i]? with
  | some (some d) => .ok d s
  | _ => .no
def mC (d : D) : ET := fun _ s => .ok d s
theorem me_of_var {e : Expr} {i : Nat} (h : PE X e (tVar i)) : ME X E e (mVar i) := PE.imp h fun st H Q ⟨c, env, g, re, q⟩ => by
  unfold mVar at q
  cases e : env[i]? with
  | none => rw [e] at q; exact q.elim
  | some o =>
    cases o with
    | none => rw [e] at q; exact q.elim
    | some d =>
      rw [e] at q
      obtain ⟨v, a, b⟩ := re.get i d e
      exact ⟨v, a, q.here g rfl v b⟩
theorem me_of_const {e : Expr} {d : D} {v : V} (h : PE X e (tC v)) (r : ∀ H c, RelD (Wx X) H c d v) : ME X E e (mC d) := PE.imp h fun st H Q ⟨c, env, g, re, q⟩ => q.here g rfl v (r H c)
theorem me_int {i j pos} : ME X E (.Constant (.int i) j pos) (mC (.int i)) := me_of_const pe_int fun _ _ => .int i
theorem me_bl {i j pos} : ME X E (.Constant (.bool i) j pos) (mC (.bl i)) := me_of_const pe_bl fun _ _ => .bl i
theorem me_non {j pos} : ME X E (.Constant .none j pos) (mC .non) := me_of_const pe_non fun _ _ => .non
theorem me_str {i j pos} (h : i.length ≤ sizeLine := by decide) : ME X E (.Constant (.str i) j pos) (mC (.str i)) := me_of_const pe_str fun _ _ => .str i h
theorem mv (i : Nat) {x : Str} {pos : Pos} (hN : X.N[i]? = some x := by rfl) (hv : Vis X.env.scope x := by first | exact Or.inl rfl | exact Or.inr (Or.inl rfl) | exact Or.inr (Or.inr rfl)) (hd : (x == ("__debug__" : Str)) = false := by decide)
    (hcd : (x == ("__classdict__" : Str)) = false := by decide) : ME X E (.Name x pos) (mVar i) := me_of_var (pe_var hN hv hd hcd)
/-- a module's constant -/
theorem me_glob {x : Str} {d : D} {v : V} {u : Value} {pos : Pos} (hg : Gl X x) (hm : X.mg x = some u) (r : RelV v u) (rd : ∀ H c, RelD (Wx X) H c d v) (hd : (x == ("__debug__" : Str)) = false := by decide) : ME X E (.Name x pos) (mC d) := me_of_const (pe_glob hg hm r hd) rd

/-! ### operators that change nothing -/
abbrev Op2 := Sto → D → D → Option D
def mOp (op : Op2) (fa fb : ET) : ET := fun env s => (fa env s).bind fun d s1 => (fb env s1).bind fun e s2 => match op s2 d e with
  | some z => .ok z s2
  | none => .no
def rO (w : Wd) (op : Op2) : R2 := fun x y H Q => ∃ c d e z, Good w H c ∧ RelD w H c d x ∧ RelD w H c e y ∧ op c.S d e = some z ∧ ∀ H', Ext c H c H' → Good w H' c → ∀ v, RelD w H' c z v → Q v H'
theorem tOp_M {w : Wd} {op : Op2} {fa fb : ET} {st : L2.St} {H : Hp} {Q : VK} (h : tM w E (mOp op fa fb) st H Q) : tOp (rO w op) (tM w E fa) (tM w E fb) st H Q := by
  obtain ⟨c, env, g, re, q⟩ := h
  refine ⟨c, env, g, re, (Fin.bind q).mono fun d c1 H1 e1 g1 q1 v rv => ?_⟩
  refine ⟨c1, env, g1, re.ext e1, (Fin.bind q1).mono fun d2 c2 H2 e2 g2 q2 v2 rv2 => ?_⟩
  cases z : op c2.S d d2 with
  | none => rw [z] at q2; exact q2.elim
  | some y =>
    rw [z] at q2
    exact ⟨c2, d, d2, y, g2, rv.ext e2, rv2, z, fun H' e' g' v' r' => q2 c2 H' e' g' rfl v' r'⟩
abbrev OpM (X : Cx) (f : Value → Value → Sem Value) (op : Op2) : Prop := OpR X f (rO (Wx X) op)
variable {a b c' : Expr} {fa fb fc : ET} {pos : Pos}
theorem me_op {o : Operator} {op : Op2} (ho : OpM X (binaryOp o) op) (ha : ME X E a fa) (hb : ME X E b fb) : ME X E (.BinOp a o b pos) (mOp op fa fb) := PE.imp (pe_op ho ha hb) fun _ _ _ => tOp_M
theorem me_cmp {o : CmpOp} {op : Op2} (ho : OpM X (compareOp o) op) (ha : ME X E a fa) (hb : ME X E b fb) (hm : behindInMarks o b = false) : ME X E (.Compare a [o] [b] pos) (mOp op fa fb) := PE.imp (pe_cmpR ho ha hb hm) fun _ _ _ => tOp_M
/-- a value that is a truth value -/
def mB (f : ET) : BT := fun env s => (f env s).bind fun d s1 => match d with
  | .bl b => .ok b s1
  | _ => .no
theorem tB_M {w : Wd} {f : ET} {st : L2.St} {H : Hp} {Q : Bool → Hp → Prop} (h : tMB w E (mB f) st H Q) : tM w E f st H fun x H' => ∃ k, x = .bl k ∧ Q k H' := by
  obtain ⟨c, env, g, re, q⟩ := h
  refine ⟨c, env, g, re, (Fin.bind q).mono fun d c1 H1 e1 g1 q1 v rv => ?_⟩
  cases d with
  | bl b => cases rv; exact ⟨b, rfl, q1.here g1 rfl⟩
  | _ => exact q1.elim
theorem mt_cmp {o : CmpOp} {op : Op2} (ho : OpM X (compareOp o) op) (ha : ME X E a fa) (hb : ME X E b fb) (hm : behindInMarks o b = false) : MT X E (.Compare a [o] [b] pos) (mB (mOp op fa fb)) :=
  PT.imp (pt_cmpR ho ha hb hm) fun st H Q h => by
    obtain ⟨c, env, g, re, q⟩ := tB_M h
    exact tOp_M ⟨c, env, g, re, q⟩
/-- unary operators -/
def mUn (op : Sto → D → Option D) (fa : ET) : ET := fun env s => (fa env s).bind fun d s1 => match op s1 d with
  | some z => .ok z s1
  | none => .no
def rU1 (w : Wd) (op : Sto → D → Option D) : V → Hp → VK → Prop := fun x H Q => ∃ c d z, Good w H c ∧ RelD w H c d x ∧ op c.S d = some z ∧ ∀ H', Ext c H c H' → Good w H' c → ∀ v, RelD w H' c z v → Q v H'
theorem me_un {o : UnaryOp} {op : Sto → D → Option D} (ho : UnR X (unaryOp o) (rU1 (Wx X) op)) (ha : ME X E a fa) : ME X E (.UnaryOp o a pos) (mUn op fa) := PE.imp (pe_un ho ha) fun st H Q ⟨c, env, g, re, q⟩ => by
  refine ⟨c, env, g, re, (Fin.bind q).mono fun d c1 H1 e1 g1 q1 v rv => ?_⟩
  cases z : op c1.S d with
  | none => rw [z] at q1; exact q1.elim
  | some y =>
    rw [z] at q1
    exact ⟨c1, d, y, g1, rv, z, fun H' e' g' v' r' => q1 c1 H' e' g' rfl v' r'⟩
/-- a chain of two comparisons -/
def mChain (op op' : Op2) (fa fb fc : ET) : ET := fun env s => (fa env s).bind fun d s1 => (fb env s1).bind fun e s2 => match op s2 d e with
  | some (.bl true) => (fc env s2).bind fun k s3 => match op' s3 e k with
    | some z => .ok z s3
    | none => .no
  | some (.bl false) => .ok (.bl false) s2
  | _ => .no
theorem tChain_M {w : Wd} {op op' : Op2} {st : L2.St} {H : Hp} {Q : VK} (h : tM w E (mChain op op' fa fb fc) st H Q) : tChain (rO w op) (rO w op') (tM w E fa) (tM w E fb) (tM w E fc) st H Q := by
  obtain ⟨c, env, g, re, q⟩ := h
  refine ⟨c, env, g, re, (Fin.bind q).mono fun d c1 H1 e1 g1 q1 v rv => ?_⟩
  refine ⟨c1, env, g1, re.ext e1, (Fin.bind q1).mono fun d2 c2 H2 e2 g2 q2 v2 rv2 => ?_⟩
  cases z : op c2.S d d2 with
  | none => rw [z] at q2; exact q2.elim
  | some y =>
    rw [z] at q2
    cases y with
    | bl k =>
      refine ⟨c2, d, d2, .bl k, g2, rv.ext e2, rv2, z, fun H' e' g' v' r' => ?_⟩
      cases r'
      refine ⟨k, rfl, ?_⟩
      cases k with
      | false => simp only [Bool.false_eq_true, if_false]; exact q2 c2 H' e' g' rfl _ (.bl false)
      | true =>
        simp only [if_true]
        have q2 : Fin w (E st) c2 H2 ((fc env c2.S).bind fun k s3 => match op' s3 d2 k with | some z => .ok z s3 | none => .no) (fun d c' H' => ∀ v, RelD w H' c' d v → Q v H') := q2
        have q3 : Fin w (E st) c2 H' (fc env c2.S) (fun a c1 H1 => Fin w (E st) c1 H1 (match op' c1.S d2 a with | some z => .ok z c1.S | none => .no) (fun d c' H' => ∀ v, RelD w H' c' d v → Q v H')) := by
          have := Fin.bind q2
          cases q : fc env c2.S with
          | no => rw [q] at this; exact this
          | ex x S => rw [q] at this; exact fun c3 H3 cls dd e3 g3 s3 => this c3 H3 cls dd (e'.trans e3) g3 s3
          | ok a S => rw [q] at this; exact fun c3 H3 e3 g3 s3 => this c3 H3 (e'.trans e3) g3 s3
        refine ⟨c2, env, g', re.ext ((e1.trans e2).trans e'), q3.mono fun d3 c3 H3 e3 g3 q4 v3 rv3 => ?_⟩
        cases z3 : op' c3.S d2 d3 with
        | none => rw [z3] at q4; exact q4.elim
        | some y3 =>
          rw [z3] at q4
          exact ⟨c3, d2, d3, y3, g3, (rv2.ext e').ext e3, rv3, z3, fun H4 e4 g4 v4 r4 => q4 c3 H4 e4 g4 rfl v4 r4⟩
    | _ => exact q2.elim
theorem me_chain {o o' : CmpOp} {op op' : Op2} (ho : OpM X (compareOp o) op) (ho' : OpM X (compareOp o') op') (ha : ME X E a fa) (hb : ME X E b fb) (hc : ME X E c' fc)
    (hm : lastMarks [o, o'] [b, c'] = false := by with_unfolding_all rfl) : ME X E (.Compare a [o, o'] [b, c'] pos) (mChain op op' fa fb fc) := PE.imp (pe_chain ho ho' ha hb hc hm) fun _ _ _ => tChain_M
theorem mt_chain {o o' : CmpOp} {op op' : Op2} (ho : OpM X (compareOp o) op) (ho' : OpM X (compareOp o') op') (ha : ME X E a fa) (hb : ME X E b fb) (hc : ME X E c' fc)
    (hm : lastMarks [o, o'] [b, c'] = false := by with_unfolding_all rfl) : MT X E (.Compare a [o, o'] [b, c'] pos) (mB (mChain op op' fa fb fc)) := PT.imp (pt_chain ho ho' ha hb hc hm) fun st H Q h => by
    obtain ⟨c, env, g, re, q⟩ := tB_M h
    exact tChain_M ⟨c, env, g, re, q⟩
end
end Mi
end
section
set_option maxRecDepth 100000
namespace Mi
open PySem L2
/-! ### truth -/
def truD (s : Sto) : D → Option Bool
  | .non => some false
  | .bl b => some b
  | .int i => some (i != 0)
  | .str x => some ((x.length : Int) != 0)
  | .tup xs => some (!xs.isEmpty)
  | .lst xs => some (!xs.isEmpty)
  | .ref n => match s[n]? with
    | some (.lst _ xs) => some (!xs.isEmpty)
    | some (.dic true kvs) => some (!kvs.isEmpty)
    | _ => none
  | _ => none
theorem RelDs.empty {w : Wd} {H : Hp} {c : Ct} {ds : List D} {vs : List V} (h : RelDs w H c ds vs) : ds.isEmpty = vs.isEmpty := by
  cases h <;> rfl
theorem zip_empty {α β γ : Type} {kvs : List (α × β)} {vs : List γ} (h : kvs.length = vs.length) : kvs.isEmpty = ((kvs.map (·.1)).zip vs).isEmpty := by
  cases kvs with
  | nil => rfl
  | cons a r => cases vs with
    | nil => simp at h
    | cons b s => rfl
theorem truD_ok {w : Wd} {H : Hp} {c : Ct} {d : D} {v : V} {k : Bool} (g : Good w H c) (r : RelD w H c d v) (h : truD c.S d = some k) : TruV w.K v H k := by
  cases r with
  | non => simp [truD] at h; exact h.symm ▸ rfl
  | bl b => simp [truD] at h; exact h.symm
  | int i => simp [truD] at h; show k = (i != 0); rw [← h]
  | str x hx => simp [truD] at h; exact ⟨hx, h.symm⟩
  | tup hs rs => have h := Option.some.inj h; exact .inr (.inl ⟨_, hs.sq, by rw [← h, rs.empty]⟩)
  | lst hs rs => have h := Option.some.inj h; exact .inl ⟨_, hs.sq, by rw [← h, rs.empty]⟩
  | dic => simp [truD] at h
  | ins => simp [truD] at h
  | scr => simp [truD] at h
  | cls => simp [truD] at h
  | exc => simp [truD] at h
  | fn => simp [truD] at h
  | @ref n a hn =>
    simp only [truD] at h
    cases e : c.S[n]? with
    | none => rw [e] at h; cases h
    | some o =>
      rw [e] at h
      obtain ⟨ho, q, ro⟩ := g.obj n a o hn e
      cases ro with
      | lst rs => have h := Option.some.inj h; exact .inl ⟨_, .inl (.inl q), by rw [← h, rs.empty]⟩
      | @dic m kvs vs _ rs h1 h2 =>
        cases m with
        | false => simp at h
        | true =>
          have h := Option.some.inj h
          rw [h2 rfl] at q
          refine .inr (.inr ⟨_, q, ?_⟩)
          rw [← h, zip_empty (by simpa using rs.length)]
      | ins => simp at h
      | tbl => simp at h
section
variable {X : Cx} {E : L2.St → XK} {a b c' : Expr} {fa fb fc : ET} {ba bb : BT} {pos : Pos} {rest : List Expr}
def mAnd (fa fb : ET) : ET := fun env s => (fa env s).bind fun d s1 => match truD s1 d with
  | some true => fb env s1
  | some false => .ok d s1
  | none => .no
def mOr (fa fb : ET) : ET := fun env s => (fa env s).bind fun d s1 => match truD s1 d with
  | some true => .ok d s1
  | some false => fb env s1
  | none => .no
def mNot (fa : ET) : ET := fun env s => (fa env s).bind fun d s1 => match truD s1 d with
  | some k => .ok (.bl (!k)) s1
  | none => .no
theorem me_one {op} (h : ME X E a fa) : ME X E (.BoolOp op [a] pos) fa := pe_one h
theorem me_and (ha : ME X E a fa) (hb : ME X E (.BoolOp .And (b :: rest) pos) fb) : ME X E (.BoolOp .And (a :: b :: rest) pos) (mAnd fa fb) := PE.imp (pe_andT ha hb) fun st H Q ⟨c, env, g, re, q⟩ => by
  refine ⟨c, env, g, re, (Fin.bind q).mono fun d c1 H1 e1 g1 q1 v rv => ?_⟩
  cases z : truD c1.S d with
  | none => rw [z] at q1; exact q1.elim
  | some k =>
    rw [z] at q1
    refine ⟨k, truD_ok g1 rv z, ?_⟩
    cases k with
    | true => exact iteT ⟨c1, env, g1, re.ext e1, q1⟩
    | false => exact iteF (q1.here g1 rfl v rv)
theorem me_or (ha : ME X E a fa) (hb : ME X E (.BoolOp .Or (b :: rest) pos) fb) : ME X E (.BoolOp .Or (a :: b :: rest) pos) (mOr fa fb) := PE.imp (pe_orT ha hb) fun st H Q ⟨c, env, g, re, q⟩ => by
  refine ⟨c, env, g, re, (Fin.bind q).mono fun d c1 H1 e1 g1 q1 v rv => ?_⟩
  cases z : truD c1.S d with
  | none => rw [z] at q1; exact q1.elim
  | some k =>
    rw [z] at q1
    refine ⟨k, truD_ok g1 rv z, ?_⟩
    cases k with
    | true => exact iteT (q1.here g1 rfl v rv)
    | false => exact iteF ⟨c1, env, g1, re.ext e1, q1⟩
theorem me_not (ha : ME X E a fa) : ME X E (.UnaryOp .Not a pos) (mNot fa) := PE.imp (pe_notT ha) fun st H Q ⟨c, env, g, re, q⟩ => by
  refine ⟨c, env, g, re, (Fin.bind q).mono fun d c1 H1 e1 g1 q1 v rv => ?_⟩
  cases z : truD c1.S d with
  | none => rw [z] at q1; exact q1.elim
  | some k =>
    rw [z] at q1
    exact ⟨k, truD_ok g1 rv z, q1.here g1 rfl _ (.bl _)⟩
/-- tests -/
def mTru (fa : ET) : BT := fun env s => (fa env s).bind fun d s1 => match truD s1 d with
  | some k => .ok k s1
  | none => .no
theorem mt_truth (ha : ME X E a fa) (he : ∀ whole, isTrue a X.env whole = (do let v ← whole; standAt a.pos; holding [v] (truthy v)) := by intro _; rfl) : MT X E a (mTru fa) := PT.imp (pt_truth ha he) fun st H Q ⟨c, env, g, re, q⟩ => by
  refine ⟨c, env, g, re, (Fin.bind q).mono fun d c1 H1 e1 g1 q1 v rv => ?_⟩
  cases z : truD c1.S d with
  | none => rw [z] at q1; exact q1.elim
  | some k =>
    rw [z] at q1
    exact ⟨k, truD_ok g1 rv z, q1.here g1 rfl⟩
def bAnd (fa fb : BT) : BT := fun env s => (fa env s).bind fun d s1 => match d with
  | true => fb env s1
  | false => .ok false s1
def bOr (fa fb : BT) : BT := fun env s => (fa env s).bind fun d s1 => match d with
  | true => .ok true s1
  | false => fb env s1
def bNot (fa : BT) : BT := fun env s => (fa env s).bind fun d s1 => .ok (!d) s1
theorem mw_and1 (ha : MT X E a ba) : MW X E (.BoolOp .And [a] pos) ba := pw_and1 ha
theorem mw_or1 (ha : MT X E a ba) : MW X E (.BoolOp .Or [a] pos) ba := pw_or1 ha
theorem mw_and (ha : MT X E a ba) (hb : MW X E (.BoolOp .And (b :: rest) pos) bb) : MW X E (.BoolOp .And (a :: b :: rest) pos) (bAnd ba bb) := PW.imp (pw_and ha hb) fun st H Q ⟨c, env, g, re, q⟩ => by
  refine ⟨c, env, g, re, (Fin.bind q).mono fun d c1 H1 e1 g1 q1 => ?_⟩
  cases d with
  | true => exact iteT ⟨c1, env, g1, re.ext e1, q1⟩
  | false => exact iteF (q1.here g1 rfl)
theorem mw_or (ha : MT X E a ba) (hb : MW X E (.BoolOp .Or (b :: rest) pos) bb) : MW X E (.BoolOp .Or (a :: b :: rest) pos) (bOr ba bb) := PW.imp (pw_or ha hb) fun st H Q ⟨c, env, g, re, q⟩ => by
  refine ⟨c, env, g, re, (Fin.bind q).mono fun d c1 H1 e1 g1 q1 => ?_⟩
  cases d with
  | true => exact iteT (q1.here g1 rfl)
  | false => exact iteF ⟨c1, env, g1, re.ext e1, q1⟩
theorem mt_w (h : MW X E a ba) : MT X E a ba := PW.pt h
theorem mt_not (ha : MT X E a ba) : MT X E (.UnaryOp .Not a pos) (bNot ba) := PT.imp (pt_not ha) fun st H Q ⟨c, env, g, re, q⟩ =>
  ⟨c, env, g, re, (Fin.bind q).mono fun d c1 H1 e1 g1 q1 => q1.here g1 rfl⟩
/-- a if t else b -/
def mIf (bc : BT) (fa fb : ET) : ET := fun env s => (bc env s).bind fun k s1 => match k with
  | true => fa env s1
  | false => fb env s1
theorem me_if {bc : BT} (hc : MT X E c' bc) (ha : ME X E a fa) (hb : ME X E b fb) : ME X E (.IfExp c' a b pos) (mIf bc fa fb) := PE.imp (pe_ifExp hc ha hb) fun st H Q ⟨c, env, g, re, q⟩ => by
  refine ⟨c, env, g, re, (Fin.bind q).mono fun d c1 H1 e1 g1 q1 => ?_⟩
  cases d with
  | true => exact iteT ⟨c1, env, g1, re.ext e1, q1⟩
  | false => exact iteF ⟨c1, env, g1, re.ext e1, q1⟩
/-! ### arguments, displays -/
def mNil : AT := fun _ s => .ok [] s
def mCons (fa : ET) (r : AT) : AT := fun env s => (fa env s).bind fun d s1 => (r env s1).bind fun ds s2 => .ok (d :: ds) s2
variable {es : List Expr} {fs : AT}
theorem ma_nil : MA X E [] mNil := PA.imp pa_nil fun st H Q ⟨c, env, g, re, q⟩ => q.here g rfl [] .nil
theorem ma_cons (ha : ME X E a fa) (hr : MA X E es fs) (hs : starEach (a :: es) X.env = (false, eval a X.env) :: starEach es X.env := by rfl) : MA X E (a :: es) (mCons fa fs) := PA.imp (pa_cons ha hr hs) fun st H Q ⟨c, env, g, re, q⟩ => by
  refine ⟨c, env, g, re, (Fin.bind q).mono fun d c1 H1 e1 g1 q1 v rv => ?_⟩
  refine ⟨c1, env, g1, re.ext e1, (Fin.bind q1).mono fun ds c2 H2 e2 g2 q2 vs rvs => ?_⟩
  exact q2.here g2 rfl _ (.cons (rv.ext e2) rvs)
def mTup (fs : AT) : ET := fun env s => (fs env s).bind fun ds s1 => if ds.length ≤ sizeLine then .ok (.tup ds) s1 else .no
/-- a list that stays as it is made -/
def mLst (fs : AT) : ET := fun env s => (fs env s).bind fun ds s1 => if ds.length ≤ sizeLine then .ok (.lst ds) s1 else .no
/-- a list that may be changed -/
def mLstR (fs : AT) : ET := fun env s => (fs env s).bind fun ds s1 => if ds.length ≤ sizeLine then .ok (.ref s1.length) (s1 ++ [.lst true ds]) else .no
theorem nlv_of {w : Wd} {H : Hp} {c : Ct} (g : Good w H c) {p : Addr} (h : H p = none) : ¬ Lv c p := fun l => by
  rcases l with ⟨n, o, e, eo, m⟩ | l
  · exact g.ne h e rfl
  · exact g.gne h l rfl
theorem fz_new {w : Wd} {H : Hp} {c : Ct} {ds : List D} {vs : List V} (g : Good w H c) {p : Addr} (h : H p = none) (r : RelDs w H c ds vs) : RelD w (upd H p (.lst vs)) c (.lst ds) (.ref p) :=
  .lst ⟨upd_same, nlv_of g h⟩ (r.ext (Ext.fresh g h))
theorem ft_new {w : Wd} {H : Hp} {c : Ct} {ds : List D} {vs : List V} (g : Good w H c) {p : Addr} (h : H p = none) (r : RelDs w H c ds vs) : RelD w (upd H p (.tup vs)) c (.tup ds) (.ref p) :=
  .tup (.inl ⟨.inl upd_same, nlv_of g h⟩) (r.ext (Ext.fresh g h))
theorem me_tup {x1} (h : MA X E es fs) : ME X E (.Tuple es x1 pos) (mTup fs) := PE.imp (pe_tup h) fun st H Q ⟨c, env, g, re, q⟩ => by
  refine ⟨c, env, g, re, (Fin.bind q).mono fun ds c1 H1 e1 g1 q1 vs rvs => ?_⟩
  by_cases z : ds.length ≤ sizeLine
  · rw [if_pos z] at q1
    exact ⟨by rw [← rvs.length]; exact z, fun p hp => q1.new g1 rfl hp _ (ft_new g1 hp rvs)⟩
  · rw [if_neg z] at q1; exact q1.elim
theorem me_lst (h : MA X E es fs) : ME X E (.List es pos) (mLst fs) := PE.imp (pe_lst h) fun st H Q ⟨c, env, g, re, q⟩ => by
  refine ⟨c, env, g, re, (Fin.bind q).mono fun ds c1 H1 e1 g1 q1 vs rvs => ?_⟩
  by_cases z : ds.length ≤ sizeLine
  · rw [if_pos z] at q1
    exact ⟨by rw [← rvs.length]; exact z, fun p hp => q1.new g1 rfl hp _ (fz_new g1 hp rvs)⟩
  · rw [if_neg z] at q1; exact q1.elim
theorem ref_new {w : Wd} {H : Hp} {c : Ct} (g : Good w H c) {p : Addr} {o : O} {ho : HO} : RelD w (upd H p ho) (c.push p o) (.ref c.S.length) (.ref p) := by
  refine .ref ?_
  show (c.p ++ [p])[c.S.length]? = some p
  rw [← g.len]; simp
theorem me_lstR (h : MA X E es fs) : ME X E (.List es pos) (mLstR fs) := PE.imp (pe_lst h) fun st H Q ⟨c, env, g, re, q⟩ => by
  refine ⟨c, env, g, re, (Fin.bind q).mono fun ds c1 H1 e1 g1 q1 vs rvs => ?_⟩
  by_cases z : ds.length ≤ sizeLine
  · rw [if_pos z] at q1
    refine ⟨by rw [← rvs.length]; exact z, fun p hp => ?_⟩
    exact q1 (c1.push p (.lst true ds)) _ (Ext.pushed g1 hp) (g1.pushed hp (.lst (rvs.ext (Ext.pushed g1 hp)))) rfl _ (ref_new g1)
  · rw [if_neg z] at q1; exact q1.elim
/-! ### calls -/
def R.quiet {α : Type} (r : R α) : R α := match r with
  | .ex _ _ => .no
  | r => r
@[simp] theorem quiet_ok {α : Type} (a : α) (s : Sto) : (R.ok a s).quiet = .ok a s := rfl
theorem Fin.quiet {α : Type} {w : Wd} {E E' : XK} {c : Ct} {H : Hp} {r : R α} {k : α → Ct → Hp → Prop} (h : Fin w E c H r.quiet k) : Fin w E' c H r k := by
  cases r with
  | ok a s => exact h
  | ex x s => exact (show False from h).elim
  | no => exact h
abbrev FT := List D → Sto → R D
/-- a def that raises nothing -/
def spM (w : Wd) (F : FT) : Sp := fun vs H Q _ => ∃ c ds, Good w H c ∧ RelDs w H c ds vs ∧ Fin w E0 c H (F ds c.S) (fun d c' H' => ∀ v, RelD w H' c' d v → Q v H')
def mCall (F : FT) (fs : AT) : ET := fun env s => (fs env s).bind fun ds s1 => (F ds s1).quiet
theorem tCall_M {w : Wd} {F : FT} {st : L2.St} {H : Hp} {Q : VK} (h : tM w E (mCall F fs) st H Q) : tCall (spM w F) [] E0 (tMA w E fs) st H Q := by
  obtain ⟨c, env, g, re, q⟩ := h
  refine ⟨c, env, g, re, (Fin.bind q).mono fun ds c1 H1 e1 g1 q1 vs rvs => ?_⟩
  show spM w F (vs ++ []) H1 Q E0
  rw [List.append_nil]
  exact ⟨c1, ds, g1, rvs, q1.quiet⟩
section
variable {k : Nat} {f : Addr} {fd : FuncData} {ps : List Str} {F : FT} {x : Str} {p : Pos}
theorem me_call (G : FnG X.prog X.w X.K X.mg X.base CX0 k f fd ps (spM (Wx X) F)) (hr : RoomG k X.A) (hg : Gl X x) (hm : X.mg x = some (.ref f)) (hk : PySem.W.keepIn X.K (.ref f) = true) (hb : Binds X.K fd ps [])
    (ha : MA X E (a :: es) fs) (hdb : (x == ("__debug__" : Str)) = false := by decide) (he : starEach (a :: es) X.env = (false, eval a X.env) :: starEach es X.env := by rfl) (hpl : (backTo pos (starEach es X.env)).any (·.1) = false := by rfl) :
    ME X E (.Call (.Name x p) (a :: es) [] pos) (mCall F fs) := PE.imp (pe_callG G hr hg hm hk hb .nil pass0 ha hdb he hpl) fun _ _ _ => tCall_M
theorem me_call0 (G : FnG X.prog X.w X.K X.mg X.base CX0 k f fd ps (spM (Wx X) F)) (hr : RoomG k X.A) (hg : Gl X x) (hm : X.mg x = some (.ref f)) (hk : PySem.W.keepIn X.K (.ref f) = true) (hb : Binds X.K fd ps [])
    (hdb : (x == ("__debug__" : Str)) = false := by decide) : ME X E (.Call (.Name x p) [] [] pos) (mCall F mNil) := PE.imp (pe_call0G G hr hg hm hk hb .nil pass0 hdb) fun st H Q h => by
  obtain ⟨c, env, g, re, q⟩ := h
  have q : Fin (Wx X) (E st) c H ((F [] c.S).quiet) (fun d c' H' => ∀ v, RelD (Wx X) H' c' d v → Q v H') := q
  exact ⟨c, [], g, .nil, q.quiet⟩
end
/-- a built-in that changes nothing -/
abbrev Cb := Sto → List D → Option D
def mCb (cb : Cb) (fs : AT) : ET := fun env s => (fs env s).bind fun ds s1 => match cb s1 ds with
  | some z => .ok z s1
  | none => .no
def rCb (w : Wd) (cb : Cb) : List V → Hp → VK → Prop := fun vs H Q => ∃ c ds z, Good w H c ∧ RelDs w H c ds vs ∧ cb c.S ds = some z ∧ ∀ H', Ext c H c H' → Good w H' c → ∀ v, RelD w H' c z v → Q v H'
theorem tCB_M {w : Wd} {cb : Cb} {st : L2.St} {H : Hp} {Q : VK} (h : tM w E (mCb cb fs) st H Q) : tCB (rCb w cb) (tMA w E fs) st H Q := by
  obtain ⟨c, env, g, re, q⟩ := h
  refine ⟨c, env, g, re, (Fin.bind q).mono fun ds c1 H1 e1 g1 q1 vs rvs => ?_⟩
  cases z : cb c1.S ds with
  | none => rw [z] at q1; exact q1.elim
  | some y =>
    rw [z] at q1
    exact ⟨c1, ds, y, g1, rvs, z, fun H' e' g' v' r' => q1 c1 H' e' g' rfl v' r'⟩
abbrev CbM (X : Cx) (f : Value) (cb : Cb) : Prop := CallR X f (rCb (Wx X) cb)
section
variable {cb : Cb} {x : Str} {p : Pos} {id T : String}
theorem me_callB (hc : CbM X (.builtin id) cb) (hg : Gl X x) (hm : X.mg x = none) (hv : bootBuiltins x = some (.builtin id)) (ha : MA X E (a :: es) fs) (hn : x ≠ "__name__" := by decide) (hdb : (x == ("__debug__" : Str)) = false := by decide)
    (he : starEach (a :: es) X.env = (false, eval a X.env) :: starEach es X.env := by rfl) (hpl : (backTo pos (starEach es X.env)).any (·.1) = false := by rfl) : ME X E (.Call (.Name x p) (a :: es) [] pos) (mCb cb fs) :=
  PE.imp (pe_callB hc hg hm hv ha hn hdb he hpl) fun _ _ _ => tCB_M
theorem me_callTy (hc : CbM X (.type T) cb) (hg : Gl X x) (hm : X.mg x = none) (hv : bootBuiltins x = some (.type T)) (ha : MA X E (a :: es) fs) (hn : x ≠ "__name__" := by decide) (hdb : (x == ("__debug__" : Str)) = false := by decide)
    (he : starEach (a :: es) X.env = (false, eval a X.env) :: starEach es X.env := by rfl) (hpl : (backTo pos (starEach es X.env)).any (·.1) = false := by rfl) : ME X E (.Call (.Name x p) (a :: es) [] pos) (mCb cb fs) :=
  PE.imp (pe_callTy hc hg hm hv ha hn hdb he hpl) fun _ _ _ => tCB_M
/-- a method of a built-in type that changes nothing -/
abbrev Mb := Sto → D → List D → Option D
def mMb (mb : Mb) (fa : ET) (fs : AT) : ET := fun env s => (fa env s).bind fun d s1 => (fs env s1).bind fun ds s2 => match mb s2 d ds with
  | some z => .ok z s2
  | none => .no
def rMb (w : Wd) (mb : Mb) : V → List V → Hp → VK → Prop := fun x vs H Q => ∃ c d ds z, Good w H c ∧ RelD w H c d x ∧ RelDs w H c ds vs ∧ mb c.S d ds = some z ∧ ∀ H', Ext c H c H' → Good w H' c → ∀ v, RelD w H' c z v → Q v H'
abbrev MbM (X : Cx) (id : String) (mb : Mb) : Prop := MtR X id (rMb (Wx X) mb)
/-- the receiver is a text -/
def mStr (fa : ET) : ET := fun env s => (fa env s).bind fun d s1 => match d with
  | .str x => .ok (.str x) s1
  | _ => .no
theorem me_strm {name : Str} {apos : Pos} {mb : Mb} (slot : Slot "str" name id) (hty : typeOf (.builtin id) = pure (.type "method_descriptor")) (hm : MbM X id mb) (ho : ME X E b fa) (ha : MA X E (a :: es) fs)
    (hbase : attributeBase b name X.env (eval b X.env) = eval b X.env := by rfl)
    (hfew : ((backTo pos (starEach (a :: es) X.env)).all (fun x => !x.1) && (backToKw pos (keywordEach [] X.env)).all (fun x => x.1.isSome)
      && decide ((a :: es).length + ([] : List Keyword).length + (if ([] : List Keyword).isEmpty then 0 else 1) < 30)) = true := by rfl)
    (hline : (apos.endLine == pos.line) = true := by rfl) (hs : starEach (a :: es) X.env = (false, eval a X.env) :: starEach es X.env := by rfl) (hplain : (backTo pos (starEach es X.env)).any (·.1) = false := by rfl) :
    ME X E (.Call (.Attribute b name apos) (a :: es) [] pos) (mMb mb (mStr fa) fs) := PE.imp (pe_bm PySem.F.plainAttrs_str slot hty hm ho ha hbase hfew hline hs hplain) fun st H Q ⟨c, env, g, re, q⟩ => by
  have q1 := Fin.bind q
  have q2 := Fin.bind q1
  refine ⟨c, env, g, re, q2.mono fun d c1 H1 e1 g1 q1 v rv => ?_⟩
  cases d with
  | str y =>
    cases rv with
    | str _ hy =>
      refine ⟨rfl, c1, env, g1, re.ext e1, (Fin.bind (q1.here g1 rfl)).mono fun ds c2 H2 e2 g2 q2 vs rvs => ?_⟩
      cases z : mb c2.S (.str y) ds with
      | none => rw [z] at q2; exact q2.elim
      | some z' =>
        rw [z] at q2
        exact ⟨c2, .str y, ds, z', g2, .str y hy, rvs, z, fun H' e' g' v' r' => q2 c2 H' e' g' rfl v' r'⟩
  | _ => exact q1.elim
theorem me_strm0 {name : Str} {apos : Pos} {mb : Mb} (slot : Slot "str" name id) (hty : typeOf (.builtin id) = pure (.type "method_descriptor")) (hm : MbM X id mb) (ho : ME X E b fa)
    (hbase : attributeBase b name X.env (eval b X.env) = eval b X.env := by rfl) (hline : (apos.endLine == pos.line) = true := by rfl) :
    ME X E (.Call (.Attribute b name apos) [] [] pos) (mMb mb (mStr fa) mNil) := PE.imp (pe_bm0 PySem.F.plainAttrs_str slot hty hm ho hbase hline) fun st H Q ⟨c, env, g, re, q⟩ => by
  have q1 := Fin.bind q
  have q2 := Fin.bind q1
  refine ⟨c, env, g, re, q2.mono fun d c1 H1 e1 g1 q1 v rv => ?_⟩
  cases d with
  | str y =>
    cases rv with
    | str _ hy =>
      refine ⟨rfl, ?_⟩
      have q2 := (q1.here g1 rfl)
      have q2 : Fin (Wx X) (E st) c1 H1 (match mb c1.S (.str y) [] with | some z => .ok z c1.S | none => .no) (fun d c' H' => ∀ v, RelD (Wx X) H' c' d v → Q v H') := q2
      cases z : mb c1.S (.str y) [] with
      | none => rw [z] at q2; exact q2.elim
      | some z' =>
        rw [z] at q2
        exact ⟨c1, .str y, [], z', g1, .str y hy, .nil, z, fun H' e' g' v' r' => q2 c1 H' e' g' rfl v' r'⟩
  | _ => exact q1.elim
end
/-! ### subscripts, slices -/
theorem me_ix {op : Op2} (hr : IxR X (rO (Wx X) op)) (ha : ME X E a fa) (hb : ME X E b fb) (hs : PlainIx b) : ME X E (.Subscript a b pos) (mOp op fa fb) := PE.imp (pe_ix hr ha hb hs) fun _ _ _ => tOp_M
/-- a slice's part -/
abbrev PT1 := Env → Sto → R (Option Int)
def mNoPart : PT1 := fun _ s => .ok none s
def mPart (fa : ET) : PT1 := fun env s => (fa env s).bind fun d s1 => match d with
  | .int i => .ok (some i) s1
  | _ => .no
def tMO (w : Wd) (E : L2.St → XK) (f : PT1) : TO := fun st H Q => ∃ c env, Good w H c ∧ RelEnv w H c env st ∧ Fin w (E st) c H (f env c.S) (fun b _ H' => Q b H')
theorem PO.imp {e : Option Expr} {t t' : TO} (h : PO X e t) (i : ∀ st H Q, t' st H Q → t st H Q) : PO X e t' := ⟨fun pins s st H Q I q => h.run pins s st H Q I (i st H Q q)⟩
abbrev MO (X : Cx) (E : L2.St → XK) (e : Option Expr) (f : PT1) : Prop := PO X e (tMO (Wx X) E f)
theorem mo_none : MO X E none mNoPart := PO.imp po_none fun st H Q ⟨c, env, g, re, q⟩ => q.here g rfl
theorem mo_some (h : ME X E a fa) : MO X E (some a) (mPart fa) := PO.imp (po_some h) fun st H Q ⟨c, env, g, re, q⟩ => by
  refine ⟨c, env, g, re, (Fin.bind q).mono fun d c1 H1 e1 g1 q1 v rv => ?_⟩
  cases d with
  | int i => cases rv; exact ⟨i, rfl, q1.here g1 rfl⟩
  | _ => exact q1.elim
def mSl (op : Sto → D → Option Int → Option Int → Option D) (fa : ET) (fl fh : PT1) : ET := fun env s => (fa env s).bind fun d s1 => (fl env s1).bind fun l s2 => (fh env s2).bind fun h s3 => match op s3 d l h with
  | some z => .ok z s3
  | none => .no
def rS1 (w : Wd) (op : Sto → D → Option Int → Option Int → Option D) : V → Option Int → Option Int → Hp → VK → Prop := fun x l h H Q => ∃ c d z, Good w H c ∧ RelD w H c d x ∧ op c.S d l h = some z ∧ ∀ H', Ext c H c H' → Good w H' c → ∀ v, RelD w H' c z v → Q v H'
theorem me_slice {op : Sto → D → Option Int → Option Int → Option D} {lo hi : Option Expr} {fl fh : PT1} {p2 : Pos} (hr : SlR X (rS1 (Wx X) op)) (he : ME X E a fa) (hl : MO X E lo fl) (hu : MO X E hi fh) : ME X E (.Subscript a (.Slice lo hi none p2) pos) (mSl op fa fl fh) :=
  PE.imp (pe_slice hr he hl hu) fun st H Q ⟨c, env, g, re, q⟩ => by
    refine ⟨c, env, g, re, (Fin.bind q).mono fun d c1 H1 e1 g1 q1 v rv => ?_⟩
    refine ⟨c1, env, g1, re.ext e1, (Fin.bind q1).mono fun l c2 H2 e2 g2 q2 => ?_⟩
    refine ⟨c2, env, g2, (re.ext e1).ext e2, (Fin.bind q2).mono fun h c3 H3 e3 g3 q3 => ?_⟩
    cases z : op c3.S d l h with
    | none => rw [z] at q3; exact q3.elim
    | some y =>
      rw [z] at q3
      exact ⟨c3, d, y, g3, (rv.ext e2).ext e3, z, fun H' e' g' v' r' => q3 c3 H' e' g' rfl v' r'⟩
end
end Mi
end
section
set_option maxRecDepth 100000
namespace Mi
open PySem L2
/-! ### targets -/
abbrev Tg := D → Env → Option Env
abbrev Tgs := List D → Env → Option Env
structure Only (js : List Nat) (st st' : L2.St) : Prop where
  len : st'.length = st.length
  at' : ∀ j, j ∉ js → st'[j]? = st[j]?
theorem Only.set {st : L2.St} {i : Nat} {v : Option V} : Only [i] st (st.set i v) := ⟨by simp, fun j h => by rw [List.getElem?_set_ne (by simpa using Ne.symm (by simpa using h))]⟩
theorem Only.trans {a b : List Nat} {s1 s2 s3 : L2.St} (h : Only a s1 s2) (k : Only b s2 s3) : Only (a ++ b) s1 s3 :=
  ⟨k.len.trans h.len, fun j hj => by
    rw [List.mem_append, not_or] at hj
    exact (k.at' j hj.2).trans (h.at' j hj.1)⟩
theorem Only.refl {s : L2.St} : Only [] s s := ⟨rfl, fun _ _ => rfl⟩
theorem wipe_get (st : L2.St) (j : Nat) : ∀ vs : List Nat, (wipe st vs)[j]? = if j ∈ vs then st[j]?.map (fun _ => none) else st[j]?
  | [] => by simp [wipe]
  | v :: vs => by
    unfold wipe
    by_cases h : v = j
    · subst h
      rw [if_pos (by simp), List.getElem?_set]
      simp only [if_true]
      rw [wipe_length]
      by_cases l : v < st.length
      · rw [if_pos l, List.getElem?_eq_getElem l]; rfl
      · rw [if_neg l, List.getElem?_eq_none (by omega)]; rfl
    · rw [List.getElem?_set_ne h, wipe_get st j vs]
      have h' : ¬ j = v := fun e => h e.symm
      simp [h']
theorem wipe_only {st st' : L2.St} {js vs : List Nat} (h : Only js (wipe st vs) st') (hj : ∀ j ∈ js, j ∈ vs) : wipe st' vs = wipe st vs := by
  apply List.ext_getElem?
  intro j
  rw [wipe_get, wipe_get]
  by_cases m : j ∈ vs
  · rw [if_pos m, if_pos m]
    have l : st'.length = st.length := by rw [h.len, wipe_length]
    by_cases q : j < st.length
    · rw [List.getElem?_eq_getElem q, List.getElem?_eq_getElem (by omega)]; rfl
    · rw [List.getElem?_eq_none (by omega), List.getElem?_eq_none (by omega)]
  · rw [if_neg m, if_neg m, h.at' j (fun z => m (hj j z)), wipe_get, if_neg m]
def wipeE (env : Env) : List Nat → Env
  | [] => env
  | v :: vs => (wipeE env vs).set v none
theorem RelEnv.wipe {w : Wd} {H : Hp} {c : Ct} {env : Env} {st : L2.St} (r : RelEnv w H c env st) : ∀ vs : List Nat, RelEnv w H c (wipeE env vs) (L2.wipe st vs)
  | [] => r
  | v :: vs => by
    have ih := RelEnv.wipe r vs
    refine ⟨by simp [wipeE, L2.wipe, ih.len], fun j d e => ?_⟩
    unfold wipeE at e
    unfold L2.wipe
    by_cases h : v = j
    · subst h
      rw [List.getElem?_set] at e
      simp only [if_true] at e
      split at e <;> cases e
    · rw [List.getElem?_set_ne h] at e ⊢
      exact ih.get j d e
def tMG (w : Wd) (js : List Nat) (g : Tg) : TG := fun v st H Q => ∃ c d env env', Good w H c ∧ RelD w H c d v ∧ RelEnv w H c env st ∧ g d env = some env' ∧ ∀ st', Only js st st' → RelEnv w H c env' st' → Q st' H
def tMGs (w : Wd) (js : List Nat) (g : Tgs) : TGs := fun vs st H Q => ∃ c ds env env', Good w H c ∧ RelDs w H c ds vs ∧ RelEnv w H c env st ∧ g ds env = some env' ∧ ∀ st', Only js st st' → RelEnv w H c env' st' → Q st' H
theorem PG.imp {X : Cx} {tg : Expr} {t t' : TG} (h : PG X tg t) (i : ∀ v st H Q, t' v st H Q → t v st H Q) : PG X tg t' := ⟨fun pins s st H v u Q I r q => h.run pins s st H v u Q I r (i v st H Q q)⟩
theorem PGs.imp {X : Cx} {tg : List Expr} {t t' : TGs} (h : PGs X tg t) (i : ∀ v st H Q, t' v st H Q → t v st H Q) : PGs X tg t' := ⟨fun pins s st H v u Q I r q => h.run pins s st H v u Q I r (i v st H Q q)⟩
abbrev MG (X : Cx) (e : Expr) (js : List Nat) (g : Tg) : Prop := PG X e (tMG (Wx X) js g)
abbrev MGs (X : Cx) (e : List Expr) (js : List Nat) (g : Tgs) : Prop := PGs X e (tMGs (Wx X) js g)
def tgN (i : Nat) : Tg := fun d env => some (env.set i (some d))
def tgNil : Tgs := fun ds env => match ds with
  | [] => some env
  | _ => none
def tgCons (g : Tg) (r : Tgs) : Tgs := fun ds env => match ds with
  | d :: ds => match g d env with
    | some env1 => r ds env1
    | none => none
  | [] => none
def tgT (n : Nat) (r : Tgs) : Tg := fun d env => match d with
  | .tup ds => if ds.length = n then r ds env else none
  | _ => none
section
variable {X : Cx} {E : L2.St → XK} {pos : Pos}
theorem mg_name {i : Nat} {x : Str} (hN : X.N.Nodup) (hi : X.N[i]? = some x) (hx : Loc X.env.scope x) (hf : X.fn x = true ∨ X.env.scope.names.lookup x = some .local := by first | exact .inl rfl | exact .inr rfl | assumption) : MG X (.Name x pos) [i] (tgN i) :=
  PG.imp (pg_name hN hi hx hf) fun v st H Q ⟨c, d, env, env', g, r, re, e, q⟩ => by
    cases e
    exact q _ Only.set (re.set r)
theorem mgs_nil : MGs X [] [] tgNil := PGs.imp pgs_nil fun vs st H Q ⟨c, ds, env, env', g, r, re, e, q⟩ => by
  cases r with
  | nil => cases e; exact ⟨rfl, q _ Only.refl re⟩
  | cons _ _ => cases e
theorem mgs_cons {e : Expr} {es : List Expr} {j1 j2 : List Nat} {g : Tg} {r : Tgs} (h1 : MG X e j1 g) (h2 : MGs X es j2 r) (hs : (assignEach (e :: es) X.env).map (·.2) = assign e X.env :: (assignEach es X.env).map (·.2) := by rfl) : MGs X (e :: es) (j1 ++ j2) (tgCons g r) :=
  PGs.imp (pgs_cons h1 h2 hs) fun vs st H Q ⟨c, ds, env, env', gd, rr, re, e, q⟩ => by
    cases rr with
    | nil => cases e
    | @cons d ds v vs rd rs =>
      simp only [tgCons] at e
      cases z : g d env with
      | none => rw [z] at e; cases e
      | some env1 =>
        rw [z] at e
        exact ⟨v, vs, rfl, c, d, env, env1, gd, rd, re, z, fun st1 o1 re1 => ⟨c, ds, env1, env', gd, rs, re1, e, fun st2 o2 re2 => q st2 (o1.trans o2) re2⟩⟩
theorem mg_tup {es : List Expr} {k : Nat} {js : List Nat} {r : Tgs} {n : Nat} (hc : X.calm = true) (h : MGs X es js r) (hn : (assignEach es X.env).length = n := by rfl) (hst : (assignEach es X.env).findIdx? (·.1) = none := by rfl) : MG X (.Tuple es k pos) js (tgT n r) :=
  PG.imp (pg_tup hc h hn hst) fun v st H Q ⟨c, d, env, env', gd, rd, re, e, q⟩ => by
    cases rd with
    | tup hs rs =>
      simp only [tgT] at e
      split at e
      · rename_i hl
        exact ⟨_, _, rfl, hs.sq, by rw [← rs.length]; exact hl, c, _, env, env', gd, rs, re, e, q⟩
      · cases e
    | _ => simp [tgT] at e
/-! ### what is walked -/
abbrev IT := Env → Sto → R (List D × (Sto → Prop))
structure Walks (w : Wd) (c : Ct) (H : Hp) (G : Sto → Prop) (ds : List D) (J : It) : Prop where
  go : ∀ c1 H1, Tr c H c1 H1 → Good w H1 c1 → G c1.S → ∀ i, i < ds.length → J.go i H1
  yld : ∀ c1 H1, Tr c H c1 H1 → Good w H1 c1 → G c1.S → ∀ i d, ds[i]? = some d → ∀ x H2, J.yld i H1 x H2 → Ext c1 H1 c1 H2 ∧ Good w H2 c1 ∧ RelD w H2 c1 d x
  stop : ∀ c1 H1, Tr c H c1 H1 → Good w H1 c1 → G c1.S → J.stop ds.length H1
def tMI (w : Wd) (E : L2.St → XK) (it : IT) : TI := fun st H R => ∃ c env, Good w H c ∧ RelEnv w H c env st ∧ Fin w (E st) c H (it env c.S) (fun p c' H' => ∀ J, Walks w c' H' p.2 p.1 J → R J H')
theorem PI.imp {tg iter : Expr} {t t' : TI} (h : PI X tg iter t) (i : ∀ st H R, t' st H R → t st H R) : PI X tg iter t' := ⟨fun pins s st H R I q => h.run pins s st H R I (i st H R q)⟩
abbrev MI (X : Cx) (E : L2.St → XK) (tg iter : Expr) (it : IT) : Prop := PI X tg iter (tMI (Wx X) E it)
/-- a list as it is read -/
def asL (s : Sto) : D → Option (List D)
  | .lst xs => some xs
  | .ref n => match s[n]? with
    | some (.lst _ xs) => some xs
    | _ => none
  | _ => none
theorem asL_ok {w : Wd} {H : Hp} {c : Ct} {d : D} {v : V} {xs : List D} (g : Good w H c) (r : RelD w H c d v) (h : asL c.S d = some xs) : ∃ a vs, v = .ref a ∧ H a = some (.lst vs) ∧ RelDs w H c xs vs := by
  cases r with
  | lst hs rs => cases h; exact ⟨_, _, rfl, hs.1, rs⟩
  | @ref n a hn =>
    simp only [asL] at h
    cases e : c.S[n]? with
    | none => rw [e] at h; cases h
    | some o =>
      rw [e] at h
      obtain ⟨ho, q, ro⟩ := g.obj n a o hn e
      cases ro with
      | lst rs => cases h; exact ⟨_, _, rfl, q, rs⟩
      | _ => cases h
  | _ => simp [asL] at h
theorem asL_sq {w : Wd} {H : Hp} {c : Ct} {d : D} {v : V} {xs : List D} (g : Good w H c) (r : RelD w H c d v) (h : asL c.S d = some xs) : ∃ a vs, v = .ref a ∧ SqL w.K H a vs ∧ RelDs w H c xs vs :=
  let ⟨a, vs, e, q, rs⟩ := asL_ok g r h
  ⟨a, vs, e, .inl (.inl q), rs⟩
/-- the list that is walked stands as it was -/
def stays (d : D) (xs : List D) : Sto → Prop := fun s => asL s d = some xs
def itL (fa : ET) : IT := fun env s => (fa env s).bind fun d s1 => match asL s1 d with
  | some xs => .ok (xs, stays d xs) s1
  | none => .no
variable {a b : Expr} {fa fb : ET} {tg : Expr} {es : List Expr} {fs : AT}
theorem mi_list (ha : ME X E a fa) : MI X E tg a (itL fa) := PI.imp (pi_list ha) fun st H Rr ⟨c, env, g, re, q⟩ => by
  refine ⟨c, env, g, re, (Fin.bind q).mono fun d c1 H1 e1 g1 q1 v rv => ?_⟩
  cases z : asL c1.S d with
  | none => rw [z] at q1; exact q1.elim
  | some xs =>
    rw [z] at q1
    obtain ⟨p, vs, rfl, hq, rs⟩ := asL_sq g1 rv z
    refine ⟨p, rfl, ⟨vs, hq⟩, q1.here g1 rfl _ ⟨fun c2 H2 t g2 s2 i hi => ?_, fun c2 H2 t g2 s2 i d' hd x H3 y => ?_, fun c2 H2 t g2 s2 => ?_⟩⟩
    · obtain ⟨p', vs', e', hq', rs'⟩ := asL_sq g2 (rv.tr t) s2
      cases e'
      obtain ⟨x, hx, _⟩ := rs'.get (List.getElem?_eq_getElem hi)
      exact ⟨vs', x, hq', hx⟩
    · obtain ⟨rfl, y⟩ := y
      obtain ⟨p', vs', e', hq', rs'⟩ := asL_sq g2 (rv.tr t) s2
      cases e'
      obtain ⟨x', hx, rx⟩ := rs'.get hd
      have := y vs' hq'
      rw [hx] at this
      cases this
      exact ⟨Ext.refl _ _, g2, rx⟩
    · obtain ⟨p', vs', e', hq', rs'⟩ := asL_sq g2 (rv.tr t) s2
      cases e'
      exact ⟨vs', hq', by rw [← rs'.length]; exact Nat.le_refl _⟩
def itT (fa : ET) : IT := fun env s => (fa env s).bind fun d s1 => match d with
  | .tup xs => .ok (xs, fun _ => True) s1
  | _ => .no
theorem tup_ok {w : Wd} {H : Hp} {c : Ct} {xs : List D} {v : V} (r : RelD w H c (.tup xs) v) : ∃ a vs, v = .ref a ∧ SqT w.K H a vs ∧ RelDs w H c xs vs := by
  cases r with
  | tup hs rs => exact ⟨_, _, rfl, hs.sq, rs⟩
theorem mi_tup (ha : ME X E a fa) : MI X E tg a (itT fa) := PI.imp (pi_tup ha) fun st H Rr ⟨c, env, g, re, q⟩ => by
  refine ⟨c, env, g, re, (Fin.bind q).mono fun d c1 H1 e1 g1 q1 v rv => ?_⟩
  cases d with
  | tup xs =>
    obtain ⟨p, vs, rfl, hq, rs⟩ := tup_ok rv
    refine ⟨p, rfl, ⟨vs, hq⟩, q1.here g1 rfl _ ⟨fun c2 H2 t g2 s2 i hi => ?_, fun c2 H2 t g2 s2 i d' hd x H3 y => ?_, fun c2 H2 t g2 s2 => ?_⟩⟩
    · obtain ⟨p', vs', e', hq', rs'⟩ := tup_ok (rv.tr t)
      cases e'
      obtain ⟨x, hx, _⟩ := rs'.get (List.getElem?_eq_getElem hi)
      exact ⟨vs', x, hq', hx⟩
    · obtain ⟨rfl, y⟩ := y
      obtain ⟨p', vs', e', hq', rs'⟩ := tup_ok (rv.tr t)
      cases e'
      obtain ⟨x', hx, rx⟩ := rs'.get hd
      have := y vs' hq'
      rw [hx] at this
      cases this
      exact ⟨Ext.refl _ _, g2, rx⟩
    · obtain ⟨p', vs', e', hq', rs'⟩ := tup_ok (rv.tr t)
      cases e'
      exact ⟨vs', hq', by rw [← rs'.length]; exact Nat.le_refl _⟩
  | _ => exact q1.elim
def signs (x : Str) : List D := x.cps.toList.map fun c => .str ⟨#[c]⟩
def itS (fa : ET) : IT := fun env s => (fa env s).bind fun d s1 => match d with
  | .str x => .ok (signs x, fun _ => True) s1
  | _ => .no
theorem mi_str (ha : ME X E a fa) : MI X E tg a (itS fa) := PI.imp (pi_str ha) fun st H Rr ⟨c, env, g, re, q⟩ => by
  refine ⟨c, env, g, re, (Fin.bind q).mono fun d c1 H1 e1 g1 q1 v rv => ?_⟩
  cases d with
  | str x =>
    cases rv
    refine ⟨x, rfl, q1.here g1 rfl _ ⟨fun c2 H2 t g2 s2 i hi => ?_, fun c2 H2 t g2 s2 i d' hd y H3 yl => ?_, fun c2 H2 t g2 s2 => ?_⟩⟩
    · simpa [signs, Its] using hi
    · obtain ⟨rfl, k, hk, rfl⟩ := yl
      have e : (signs x)[i]? = some (.str ⟨#[k]⟩) := by
        unfold signs
        rw [List.getElem?_map, Array.getElem?_toList, hk]; rfl
      rw [e] at hd
      cases hd
      exact ⟨Ext.refl _ _, g2, .str _ (show 1 ≤ sizeLine by decide)⟩
    · simp [signs, Its]
  | _ => exact q1.elim
def rangeD (lo : Int) (n : Nat) : List D := (List.range n).map fun (i : Nat) => .int (lo + (i : Int))
def itR1 (fs : AT) : IT := fun env s => (fs env s).bind fun ds s1 => match ds with
  | [.int j] => if -(2 ^ 62) ≤ j ∧ j < 2 ^ 62 then .ok (rangeD 0 j.toNat, fun _ => True) s1 else .no
  | _ => .no
theorem walks_range {w : Wd} {H : Hp} {c : Ct} {lo : Int} {n : Nat} : Walks w c H (fun _ => True) (rangeD lo n) (Itr lo n) := by
  refine ⟨fun c2 H2 t g2 s2 i hi => ?_, fun c2 H2 t g2 s2 i d' hd y H3 yl => ?_, fun c2 H2 t g2 s2 => ?_⟩
  · simpa [rangeD, Itr] using hi
  · obtain ⟨rfl, rfl⟩ := yl
    have hi : i < n := by simpa [rangeD] using (List.getElem?_eq_some_iff.mp hd).1
    have e : (rangeD lo n)[i]? = some (.int (lo + (i : Int))) := by simp [rangeD, hi]
    rw [e] at hd
    cases hd
    exact ⟨Ext.refl _ _, g2, .int _⟩
  · simp [rangeD, Itr]
theorem mi_range1 {p : Pos} (hg : Gl X "range") (hm : X.mg "range" = none) (ha : MA X E [a] fs) (hs : starEach [a] X.env = [(false, eval a X.env)] := by rfl) : MI X E tg (.Call (.Name "range" p) [a] [] pos) (itR1 fs) :=
  PI.imp (pi_range1 hg hm ha hs) fun st H Rr ⟨c, env, g, re, q⟩ => by
    refine ⟨c, env, g, re, (Fin.bind q).mono fun ds c1 H1 e1 g1 q1 vs rvs => ?_⟩
    split at q1
    · rename_i j
      cases rvs with
      | cons rv rn =>
        cases rn
        cases rv
        split at q1
        · rename_i hj
          exact ⟨j, rfl, hj.1, hj.2, q1.here g1 rfl _ walks_range⟩
        · exact q1.elim
    · exact q1.elim
/-- zip of two lists, of two tuples -/
def zipD (xs ys : List D) : List D := (xs.zip ys).map fun p => .tup [p.1, p.2]
def itZ (fs : AT) : IT := fun env s => (fs env s).bind fun ds s2 => match ds with
  | [.tup xs, .tup ys] => .ok (zipD xs ys, fun _ => True) s2
  | [d, e] => match asL s2 d, asL s2 e with
    | some xs, some ys => .ok (zipD xs ys, fun s => asL s d = some xs ∧ asL s e = some ys) s2
    | _, _ => .no
  | _ => .no
theorem zipD_get {xs ys : List D} {i : Nat} {d : D} (h : (zipD xs ys)[i]? = some d) : ∃ x y, xs[i]? = some x ∧ ys[i]? = some y ∧ d = .tup [x, y] := by
  unfold zipD at h
  rw [List.getElem?_map] at h
  cases z : (xs.zip ys)[i]? with
  | none => rw [z] at h; cases h
  | some p =>
    rw [z] at h
    cases h
    rw [List.getElem?_zip_eq_some] at z
    exact ⟨p.1, p.2, z.1, z.2, rfl⟩
theorem pair_new {w : Wd} {H : Hp} {c : Ct} {d e : D} {x y : V} {p : Addr} (g : Good w H c) (hp : H p = none) (rx : RelD w H c d x) (ry : RelD w H c e y) : Ext c H c (upd H p (.tup [x, y])) ∧ Good w (upd H p (.tup [x, y])) c ∧ RelD w (upd H p (.tup [x, y])) c (.tup [d, e]) (.ref p) :=
  ⟨Ext.fresh g hp, g.fresh hp, ft_new g hp (.cons rx (.cons ry .nil))⟩
theorem mi_zip {p tpos : Pos} {elts : List Expr} {kk : Nat} (hg : Gl X "zip") (hm : X.mg "zip" = none) (ha : MA X E [a, b] fs) (hs : starEach [a, b] X.env = (false, eval a X.env) :: starEach [b] X.env := by rfl)
    (hpl : (backTo pos (starEach [b] X.env)).any (·.1) = false := by rfl) : MI X E (.Tuple elts kk tpos) (.Call (.Name "zip" p) [a, b] [] pos) (itZ fs) :=
  PI.imp (RZ.pi_zipA hg hm ha hs hpl) fun st H Rr ⟨c, env, g, re, q⟩ => by
    refine ⟨c, env, g, re, (Fin.bind q).mono fun ds c1 H1 e1 g1 q1 vs rvs => ?_⟩
    split at q1
    · cases rvs with
      | cons rd rn =>
        cases rn with
        | cons re' rn =>
          cases rn
          obtain ⟨pa, vs, rfl, hq, rs⟩ := tup_ok rd
          obtain ⟨pb, us, rfl, hq2, rs2⟩ := tup_ok re'
          refine ⟨pa, pb, vs, us, rfl, .inr ⟨hq, hq2, q1.here g1 rfl _ ⟨fun c2 H2 t g2 s2 i hi => ?_, fun c2 H2 t g2 s2 i d' hd x H3 y => ?_, fun c2 H2 t g2 s2 => ?_⟩⟩⟩
          · obtain ⟨_, vs', e', hv, r1⟩ := tup_ok (rd.tr t)
            cases e'
            obtain ⟨_, us', e', hu, r2⟩ := tup_ok (re'.tr t)
            cases e'
            obtain ⟨dx, dy, h1, h2, _⟩ := zipD_get (List.getElem?_eq_getElem hi)
            obtain ⟨x, hx, _⟩ := r1.get h1
            obtain ⟨y, hy, _⟩ := r2.get h2
            exact ⟨vs', us', x, y, hv, hu, hx, hy⟩
          · obtain ⟨T, x1, y1, rfl, hT, rfl, k1, k2⟩ := y
            obtain ⟨_, vs', e', hv, r1⟩ := tup_ok (rd.tr t)
            cases e'
            obtain ⟨_, us', e', hu, r2⟩ := tup_ok (re'.tr t)
            cases e'
            obtain ⟨dx, dy, h1, h2, rfl⟩ := zipD_get hd
            obtain ⟨x, hx, rx⟩ := r1.get h1
            obtain ⟨y, hy, ry⟩ := r2.get h2
            have e1 := k1 vs' hv
            have e2 := k2 us' hu
            rw [hx] at e1; cases e1
            rw [hy] at e2; cases e2
            exact pair_new g2 hT rx ry
          · obtain ⟨_, vs', e', hv, r1⟩ := tup_ok (rd.tr t)
            cases e'
            obtain ⟨_, us', e', hu, r2⟩ := tup_ok (re'.tr t)
            cases e'
            refine ⟨vs', us', hv, hu, ?_⟩
            have l1 := r1.length
            have l2 := r2.length
            simp only [zipD, List.length_map, List.length_zip]
            omega
    · rename_i d e hnot
      cases rvs with
      | cons rd rn =>
        cases rn with
        | cons re' rn =>
          cases rn
          split at q1
          · rename_i xs ys zx zy
            obtain ⟨pa, vs, rfl, hq, rs⟩ := asL_sq g1 rd zx
            obtain ⟨pb, us, rfl, hq2, rs2⟩ := asL_sq g1 re' zy
            refine ⟨pa, pb, vs, us, rfl, .inl ⟨hq, hq2, q1.here g1 rfl _ ⟨fun c2 H2 t g2 s2 i hi => ?_, fun c2 H2 t g2 s2 i d' hd x H3 y => ?_, fun c2 H2 t g2 s2 => ?_⟩⟩⟩
            · obtain ⟨_, vs', e', hv, r1⟩ := asL_sq g2 (rd.tr t) s2.1
              cases e'
              obtain ⟨_, us', e', hu, r2⟩ := asL_sq g2 (re'.tr t) s2.2
              cases e'
              obtain ⟨dx, dy, h1, h2, _⟩ := zipD_get (List.getElem?_eq_getElem hi)
              obtain ⟨x, hx, _⟩ := r1.get h1
              obtain ⟨y, hy, _⟩ := r2.get h2
              exact ⟨vs', us', x, y, hv, hu, hx, hy⟩
            · obtain ⟨T, x1, y1, rfl, hT, rfl, k1, k2⟩ := y
              obtain ⟨_, vs', e', hv, r1⟩ := asL_sq g2 (rd.tr t) s2.1
              cases e'
              obtain ⟨_, us', e', hu, r2⟩ := asL_sq g2 (re'.tr t) s2.2
              cases e'
              obtain ⟨dx, dy, h1, h2, rfl⟩ := zipD_get hd
              obtain ⟨x, hx, rx⟩ := r1.get h1
              obtain ⟨y, hy, ry⟩ := r2.get h2
              have e1 := k1 vs' hv
              have e2 := k2 us' hu
              rw [hx] at e1; cases e1
              rw [hy] at e2; cases e2
              exact pair_new g2 hT rx ry
            · obtain ⟨_, vs', e', hv, r1⟩ := asL_sq g2 (rd.tr t) s2.1
              cases e'
              obtain ⟨_, us', e', hu, r2⟩ := asL_sq g2 (re'.tr t) s2.2
              cases e'
              refine ⟨vs', us', hv, hu, ?_⟩
              have l1 := r1.length
              have l2 := r2.length
              simp only [zipD, List.length_map, List.length_zip]
              omega
          · exact q1.elim
    · exact q1.elim
/-- enumerate of a list -/
def enumD (xs : List D) : List D := (List.range xs.length).zip xs |>.map fun p => .tup [.int (p.1 : Int), p.2]
def itE (fs : AT) : IT := fun env s => (fs env s).bind fun ds s2 => match ds with
  | [d] => match asL s2 d with
    | some xs => .ok (enumD xs, stays d xs) s2
    | none => .no
  | _ => .no
theorem enumD_get {xs : List D} {i : Nat} {d : D} (h : (enumD xs)[i]? = some d) : ∃ x, xs[i]? = some x ∧ d = .tup [.int ((i : Nat) : Int), x] := by
  unfold enumD at h
  rw [List.getElem?_map] at h
  cases z : ((List.range xs.length).zip xs)[i]? with
  | none => rw [z] at h; cases h
  | some p =>
    rw [z] at h
    cases h
    rw [List.getElem?_zip_eq_some] at z
    have hi : i < xs.length := (List.getElem?_eq_some_iff.mp z.2).1
    have e : p.1 = i := by
      have := z.1
      rw [List.getElem?_range hi] at this
      exact (Option.some.inj this).symm
    exact ⟨p.2, z.2, by show D.tup [D.int ((p.1 : Nat) : Int), p.2] = _; rw [e]⟩
theorem mi_enum {p tpos : Pos} {elts : List Expr} {kk : Nat} (hg : Gl X "enumerate") (hm : X.mg "enumerate" = none) (ha : MA X E [a] fs) (hs : starEach [a] X.env = [(false, eval a X.env)] := by rfl) : MI X E (.Tuple elts kk tpos) (.Call (.Name "enumerate" p) [a] [] pos) (itE fs) :=
  PI.imp (pi_enum hg hm ha hs) fun st H Rr ⟨c, env, g, re, q⟩ => by
    refine ⟨c, env, g, re, (Fin.bind q).mono fun ds c1 H1 e1 g1 q1 vs rvs => ?_⟩
    split at q1
    · rename_i d
      cases rvs with
      | cons rd rn =>
        cases rn
        split at q1
        · rename_i xs zx
          obtain ⟨pa, vs, rfl, hq, rs⟩ := asL_sq g1 rd zx
          refine ⟨pa, vs, rfl, hq, q1.here g1 rfl _ ⟨fun c2 H2 t g2 s2 i hi => ?_, fun c2 H2 t g2 s2 i d' hd x H3 y => ?_, fun c2 H2 t g2 s2 => ?_⟩⟩
          · obtain ⟨_, vs', e', hv, r1⟩ := asL_sq g2 (rd.tr t) s2
            cases e'
            obtain ⟨dx, h1, _⟩ := enumD_get (List.getElem?_eq_getElem hi)
            obtain ⟨x, hx, _⟩ := r1.get h1
            exact ⟨vs', x, hv, hx⟩
          · obtain ⟨T, x1, rfl, hT, rfl, k1⟩ := y
            obtain ⟨_, vs', e', hv, r1⟩ := asL_sq g2 (rd.tr t) s2
            cases e'
            obtain ⟨dx, h1, rfl⟩ := enumD_get hd
            obtain ⟨x, hx, rx⟩ := r1.get h1
            have e1 := k1 vs' hv
            rw [hx] at e1; cases e1
            exact pair_new g2 hT (.int _) rx
          · obtain ⟨_, vs', e', hv, r1⟩ := asL_sq g2 (rd.tr t) s2
            cases e'
            refine ⟨vs', hv, ?_⟩
            have l1 := r1.length
            simp only [enumD, List.length_map, List.length_zip, List.length_range]
            omega
        · exact q1.elim
    · exact q1.elim
end
end Mi
end
section
set_option maxRecDepth 100000
namespace Mi
open PySem L2 PyProof.Rows
/-! ### list comprehensions -/
open Classical in
noncomputable def lcGo (G : Sto → Prop) (g : Tg) (bt : BT) (fe : ET) (env : Env) : List D → List D → Sto → R (List D)
  | [], acc, s => if G s then .ok acc s else .no
  | d :: r, acc, s => if G s then (match g d env with
      | some env2 => (bt env2 s).bind fun b s1 => match b with
        | true => (fe env2 s1).bind fun y s2 => if acc.length < sizeLine then lcGo G g bt fe env r (acc ++ [y]) s2 else .no
        | false => lcGo G g bt fe env r acc s1
      | none => .no) else .no
def bYes : BT := fun _ s => .ok true s
noncomputable def mLc (it : IT) (g : Tg) (bt : BT) (fe : ET) (vs : List Nat) : ET := fun env s => (it env s).bind fun p s1 => (lcGo p.2 g bt fe (wipeE env vs) p.1 [] s1).quiet.bind fun ds s2 => .ok (.lst ds) s2
abbrev E00 : L2.St → XK := fun _ => E0
theorem E00_elim {w : Wd} {c : Ct} {H : Hp} {α : Type} {r : R α} {k : α → Ct → Hp → Prop} {a : α} {S : Sto} (e : r = .ok a S) (h : ∀ c' H', Ext c H c' H' → Good w H' c' → c'.S = S → k a c' H') : Fin w E0 c H r k := by rw [e]; exact h
section
variable {X : Cx} {E : L2.St → XK} {pos : Pos} {a b : Expr} {fa fb : ET} {tg : Expr}
abbrev MTs (X : Cx) (E : L2.St → XK) (e : List Expr) (f : BT) : Prop := PTs X e (tMB (Wx X) E f)
theorem PTs.imp {e : List Expr} {t t' : TT} (h : PTs X e t) (i : ∀ st H Q, t' st H Q → t st H Q) : PTs X e t' := ⟨fun pins s st H Q I q => h.run pins s st H Q I (i st H Q q)⟩
theorem mts_nil : MTs X E [] bYes := PTs.imp pts_nil fun st H Q ⟨c, env, g, re, q⟩ => q.here g rfl
theorem mts_one {bt : BT} (h : MT X E a bt) : MTs X E [a] bt := pts_one h
theorem lcGo_cons {G : Sto → Prop} {g : Tg} {bt : BT} {fe : ET} {env : Env} {d : D} {r acc out : List D} {s S : Sto} (h : lcGo G g bt fe env (d :: r) acc s = .ok out S) :
    G s ∧ ∃ env2, g d env = some env2 ∧ ∃ b s1, bt env2 s = .ok b s1 ∧ ((b = false ∧ lcGo G g bt fe env r acc s1 = .ok out S) ∨ (b = true ∧ ∃ y s2, fe env2 s1 = .ok y s2 ∧ acc.length < sizeLine ∧ lcGo G g bt fe env r (acc ++ [y]) s2 = .ok out S)) := by
  rw [lcGo] at h
  split at h
  · rename_i hG
    refine ⟨hG, ?_⟩
    split at h
    · rename_i env2 he
      refine ⟨env2, he, ?_⟩
      cases z : bt env2 s with
      | no => rw [z] at h; cases h
      | ex x S1 => rw [z] at h; cases h
      | ok b s1 =>
        rw [z] at h
        refine ⟨b, s1, rfl, ?_⟩
        cases b with
        | false => exact .inl ⟨rfl, h⟩
        | true =>
          simp only [bind_ok] at h
          cases z2 : fe env2 s1 with
          | no => rw [z2] at h; cases h
          | ex x S1 => rw [z2] at h; cases h
          | ok y s2 =>
            rw [z2] at h
            simp only [bind_ok] at h
            split at h
            · rename_i hl
              exact .inr ⟨rfl, y, s2, rfl, hl, h⟩
            · cases h
    · cases h
  · cases h
theorem lcGo_nil {G : Sto → Prop} {g : Tg} {bt : BT} {fe : ET} {env : Env} {acc out : List D} {s S : Sto} (h : lcGo G g bt fe env [] acc s = .ok out S) : G s ∧ out = acc ∧ S = s := by
  rw [lcGo] at h
  split at h
  · rename_i hG; cases h; exact ⟨hG, rfl, rfl⟩
  · cases h
theorem tLc_M {w : Wd} {it : IT} {g : Tg} {bt : BT} {fe : ET} {js vs : List Nat} {st : L2.St} {H : Hp} {Q : VK} (hj : ∀ j ∈ js, j ∈ vs) (h : tM w E (mLc it g bt fe vs) st H Q) :
    tLc (tMI w E it) (tMG w js g) (tMB w E00 bt) (tM w E00 fe) vs st H Q := by
  obtain ⟨c, env, gd, re, q⟩ := h
  refine ⟨c, env, gd, re, (Fin.bind q).mono fun p c1 H1 e1 g1 q1 J WJ Dd hD => ?_⟩
  -- the whole run of the block
  cases z : lcGo p.2 g bt fe (wipeE env vs) p.1 [] c1.S with
  | no => rw [z] at q1; exact q1.elim
  | ex x S => rw [z] at q1; exact q1.elim
  | ok out S =>
    rw [z] at q1
    have fin : ∀ c' H', Ext c1 H1 c' H' → Good w H' c' → c'.S = S → ∀ v, RelD w H' c' (.lst out) v → Q v H' := q1
    clear q1 q
    refine ⟨fun i m H' => m = p.1.length - i ∧ i ≤ p.1.length ∧ ∃ c' acc vacc, Good w H' c' ∧ Tr c1 H1 c' H' ∧ c'.gs = Dd :: c1.gs ∧ (∀ b ∈ c1.gs, H' b = H1 b) ∧ H' Dd = some (.lst vacc) ∧ RelDs w H' c' acc vacc ∧ lcGo p.2 g bt fe (wipeE env vs) (p.1.drop i) acc c'.S = .ok out S,
      ⟨p.1.length, by simp, Nat.zero_le _, c1.gh Dd, [], [], g1.gh hD, Tr.gh hD, rfl, fun b hb => upd_ne (g1.gne hD hb), upd_same, .nil, z⟩, ?_⟩
    rintro i m H2 ⟨rfl, hi, c2, acc, vacc, g2, t2, gs2, gk2, hD2, ra, run⟩
    have nlD : ∀ (l : List Addr), l = c1.gs → ¬ Lv (c2.ug l) Dd := fun l el lv => by
      rcases lv with ⟨n, o, en, eo, mo⟩ | lv
      · have := (g2.gst Dd (by rw [gs2]; simp)).2
        exact this (List.mem_of_getElem? (show c2.p[n]? = some Dd from en))
      · rw [el] at lv
        exact g1.gne hD (show Dd ∈ c1.gs from lv) rfl
    by_cases hlt : i < p.1.length
    · rw [List.drop_eq_getElem_cons hlt] at run
      obtain ⟨hG, env2, he2, b, s1, hb, alt⟩ := lcGo_cons run
      refine .inr ⟨WJ.go c2 H2 t2 g2 hG i hlt, fun H' => ∃ c' acc vacc, Good w H' c' ∧ Tr c1 H1 c' H' ∧ c'.gs = Dd :: c1.gs ∧ (∀ b ∈ c1.gs, H' b = H1 b) ∧ H' Dd = some (.lst vacc) ∧ RelDs w H' c' acc vacc ∧ lcGo p.2 g bt fe (wipeE env vs) (p.1.drop (i + 1)) acc c'.S = .ok out S,
        fun H' hN => ⟨p.1.length - (i + 1), by omega, rfl, hlt, hN⟩, fun x H3 hy => ?_⟩
      obtain ⟨e3, g3, rx⟩ := WJ.yld c2 H2 t2 g2 hG i _ (List.getElem?_eq_getElem hlt) x H3 hy
      have t3 := t2.trans e3.toTr
      refine ⟨c2, _, wipeE env vs, env2, g3, rx, ((re.tr e1.toTr).tr t3).wipe vs, he2, fun st2 on re2 => ⟨wipe_only on hj, c2, env2, g3, re2, E00_elim hb fun c4 H4 e4 g4 s4 => ?_⟩⟩
      have gk4 : ∀ b ∈ c1.gs, H4 b = H1 b := fun b hb => ((e4.gk b (by rw [gs2]; exact List.mem_cons_of_mem _ hb)).trans (e3.gk b (by rw [gs2]; exact List.mem_cons_of_mem _ hb))).trans (gk2 b hb)
      have hD4 : H4 Dd = some (.lst vacc) := ((e4.gk Dd (by rw [gs2]; simp)).trans (e3.gk Dd (by rw [gs2]; simp))).trans hD2
      have ra4 : RelDs w H4 c4 acc vacc := (ra.ext e3).ext e4
      rcases alt with ⟨rfl, run2⟩ | ⟨rfl, y, s2, hfe, hl, run2⟩
      · exact iteF ⟨c4, acc, vacc, g4, t3.trans e4.toTr, e4.gs.trans gs2, gk4, hD4, ra4, by rw [s4]; exact run2⟩
      · refine iteT ⟨c4, env2, g4, re2.ext e4, E00_elim (by rw [s4]; exact hfe) fun c5 H5 e5 g5 s5 v rv => ?_⟩
        have hD5 : H5 Dd = some (.lst vacc) := (e5.gk Dd (by rw [e4.gs, gs2]; simp)).trans hD4
        have gs5 : c5.gs = Dd :: c1.gs := e5.gs.trans (e4.gs.trans gs2)
        have mem5 : Dd ∈ c5.gs := by rw [gs5]; simp
        refine ⟨vacc, hD5, by rw [← ra4.length]; exact hl, c5, acc ++ [y], vacc ++ [v], g5.grow mem5, ((t3.trans e4.toTr).trans e5.toTr).trans (Tr.grow mem5), gs5, fun b hb => ?_, upd_same, ?_, by rw [s5]; exact run2⟩
        · rw [upd_ne (fun zz => g1.gne hD hb zz)]
          exact (e5.gk b (by rw [e4.gs, gs2]; exact List.mem_cons_of_mem _ hb)).trans (gk4 b hb)
        · exact ((ra4.ext e5).append (.cons rv .nil)).tr (Tr.grow mem5)
    · have hi' : i = p.1.length := by omega
      subst hi'
      rw [List.drop_length] at run
      obtain ⟨hG, rfl, rfl⟩ := lcGo_nil run
      refine .inl ⟨WJ.stop c2 H2 t2 g2 hG, ?_⟩
      have sub : ∀ b ∈ c1.gs, b ∈ c2.gs := fun b hb => by rw [gs2]; exact List.mem_cons_of_mem _ hb
      have tu : Tr c2 H2 (c2.ug c1.gs) H2 := Tr.ug sub
      refine fin (c2.ug c1.gs) H2 ⟨t2.trans tu, rfl, gk2⟩ (g2.ug sub) rfl _ (.lst ⟨hD2, nlD _ rfl⟩ (ra.tr tu))
theorem me_lc {elt iter : Expr} {ifs : List Expr} {scope : Scope} {own : List (Str × Nat)} {it : IT} {g : Tg} {js : List Nat} {bt : BT} {fe : ET} (hc : X.calm = true) (hN : X.N.Nodup) (hi : MI X E tg iter it) (ok : BlkOk X.N X.env.scope scope own)
    (hg : ∀ s H C cl fp, MG (X.blk s H scope (compEnvC scope cl C X.env) fp) tg js g) (ht : ∀ s H C cl fp, MTs (X.blk s H scope (compEnvC scope cl C X.env) fp) E00 ifs bt)
    (he : ∀ s H C cl fp, ME (X.blk s H scope (compEnvC scope cl C X.env) fp) E00 elt fe) (hj : ∀ j ∈ js, j ∈ own.map (·.2) := by decide) (hs : ∀ x, foldedSetIterable iter X.env x = pure x := by intro _; rfl) :
    ME X E (.ListComp elt [⟨tg, iter, ifs, 0⟩] scope pos) (mLc it g bt fe (own.map (·.2))) := PE.imp (pe_lc hc hN hi ok hg ht he hs) fun _ _ _ => tLc_M hj
/-! ### statements -/
variable {st1 : Stmt} {sts : List Stmt} {f1 f2 : SM}
def sNil : SM := fun env s => .fl (.nx env) s
def sSeq (f g : SM) : SM := fun env s => (f env s).then g
theorem mss_nil : MSs X E [] sNil := PSs.imp pss_nil fun En st H ⟨c, env, g, re, q⟩ => q c H (Ext.refl c H) g rfl st re
theorem mss_cons (h1 : MS X E st1 f1) (h2 : MSs X E sts f2) : MSs X E (st1 :: sts) (sSeq f1 f2) := PSs.imp (pss_cons h1 h2) fun En st H ⟨c, env, g, re, q⟩ => by
  refine ⟨c, env, g, re, ?_⟩
  have q : FinS (Wx X) E c H ((f1 env c.S).then f2) En := q
  cases z : f1 env c.S with
  | no => rw [z] at q; exact q
  | ex x e S => rw [z] at q; exact q
  | fl fl S =>
    rw [z] at q
    intro c1 H1 e1 g1 s1
    cases fl with
    | nx env1 =>
      intro st1 re1
      refine ⟨c1, env1, g1, re1, ?_⟩
      rw [s1]
      exact FinS.later e1 q
    | rt d => exact q c1 H1 e1 g1 s1
    | bk e => exact q c1 H1 e1 g1 s1
    | ct e => exact q c1 H1 e1 g1 s1
theorem mss_one (h1 : MS X E st1 f1) : MSs X E [st1] f1 := PSs.imp (pss_one h1) fun _ _ _ h => h
def sIf (bc : BT) (f g : SM) : SM := fun env s => (bc env s).bt env fun k s1 => match k with
  | true => f env s1
  | false => g env s1
theorem ms_if {c' : Expr} {bc : BT} {b1 b2 : List Stmt} (hc : MT X E c' bc) (h1 : MSs X E b1 f1) (h2 : MSs X E b2 f2) : MS X E (.If c' b1 b2 pos) (sIf bc f1 f2) := PS.imp (ps_if hc h1 h2) fun En st H ⟨c, env, g, re, q⟩ => by
  refine ⟨c, env, g, re, (FinS.of_bt re q).mono fun k c1 H1 e1 g1 q1 => ?_⟩
  cases k with
  | true => exact iteT ⟨c1, env, g1, re.ext e1, q1⟩
  | false => exact iteF ⟨c1, env, g1, re.ext e1, q1⟩
def sRet (fa : ET) : SM := fun env s => (fa env s).st env fun d s1 => .fl (.rt d) s1
theorem ms_ret (h : ME X E a fa) : MS X E (.Return (some a) pos) (sRet fa) := PS.imp (ps_ret h) fun En st H ⟨c, env, g, re, q⟩ =>
  ⟨c, env, g, re, (FinS.of_st re q).mono fun d c1 H1 e1 g1 q1 v rv => q1 c1 H1 (Ext.refl _ _) g1 rfl v rv⟩
def sRetN : SM := fun env s => .fl (.rt .non) s
theorem ms_retN : MS X E (.Return none pos) sRetN := PS.imp ps_retN fun En st H ⟨c, env, g, re, q⟩ => q c H (Ext.refl c H) g rfl _ .non
theorem ms_pass : MS X E (.Pass pos) sNil := PS.imp ps_pass fun En st H ⟨c, env, g, re, q⟩ => q c H (Ext.refl c H) g rfl st re
def sBrk : SM := fun env s => .fl (.bk env) s
def sCnt : SM := fun env s => .fl (.ct env) s
theorem ms_break : MS X E (.Break pos) sBrk := PS.imp ps_break fun En st H ⟨c, env, g, re, q⟩ => q c H (Ext.refl c H) g rfl st re
theorem ms_continue : MS X E (.Continue pos) sCnt := PS.imp ps_continue fun En st H ⟨c, env, g, re, q⟩ => q c H (Ext.refl c H) g rfl st re
def sExp (fa : ET) : SM := fun env s => (fa env s).st env fun _ s1 => .fl (.nx env) s1
theorem ms_expr (h : ME X E a fa) (hs : swapsWith a none pos.line X.env = pure false := by rfl) : MS X E (.Expr a pos) (sExp fa) := PS.imp (ps_expr h hs) fun En st H ⟨c, env, g, re, q⟩ =>
  ⟨c, env, g, re, (FinS.of_st re q).mono fun d c1 H1 e1 g1 q1 v rv => q1 c1 H1 (Ext.refl _ _) g1 rfl st (re.ext e1)⟩
def sAsg (fa : ET) (g : Tg) : SM := fun env s => (fa env s).st env fun d s1 => match g d env with
  | some env1 => .fl (.nx env1) s1
  | none => .no
theorem tAsg_M {w : Wd} {js : List Nat} {g : Tg} {En : Ends} {st : L2.St} {H : Hp} (h : tMS w E (sAsg fa g) En st H) : tAsg (tM w E fa) (tMG w js g) En st H := by
  obtain ⟨c, env, gd, re, q⟩ := h
  refine ⟨c, env, gd, re, (FinS.of_st re q).mono fun d c1 H1 e1 g1 q1 v rv => ?_⟩
  cases z : g d env with
  | none => rw [z] at q1; exact q1.elim
  | some env1 =>
    rw [z] at q1
    exact ⟨c1, d, env, env1, g1, rv, re.ext e1, z, fun st' on re' => q1 c1 H1 (Ext.refl _ _) g1 rfl st' re'⟩
theorem ms_asg {js : List Nat} {g : Tg} (he : ME X E a fa) (hg : MG X tg js g) (hs : swapsWithSole [tg] a pos.line X.env = pure false := by rfl) (hw : swappedStores [tg] a X.env = pure none := by rfl)
    (h1 : (assignEach [tg] X.env).map (·.2) = [assign tg X.env] := by rfl) : MS X E (.Assign [tg] a pos) (sAsg fa g) := PS.imp (ps_asg he hg hs hw h1) fun _ _ _ => tAsg_M
theorem ms_set {i : Nat} {x : Str} {pos' : Pos} (hN : X.N.Nodup) (hi : X.N[i]? = some x) (hx : Loc X.env.scope x) (he : ME X E a fa) (hs : swapsWith a (some (.Name x pos')) pos.line X.env = pure false := by rfl) (hf : X.fn x = true ∨ X.env.scope.names.lookup x = some .local := by first | exact .inl rfl | exact .inr rfl | assumption) :
    MS X E (.Assign [.Name x pos'] a pos) (sAsg fa (tgN i)) := PS.imp (ps_set hN hi hx he hs hf) fun En st H ⟨c, env, gd, re, q⟩ => by
  refine ⟨c, env, gd, re, (FinS.of_st re q).mono fun d c1 H1 e1 g1 q1 v rv => ?_⟩
  exact q1 c1 H1 (Ext.refl _ _) g1 rfl _ ((re.ext e1).set rv)
theorem ms_setLc {i : Nat} {y : Str} {py : Pos} {elt iter : Expr} {ifs : List Expr} {scope : Scope} {own : List (Str × Nat)} {lpos : Pos} {it : IT} {g : Tg} {js : List Nat} {bt : BT} {fe : ET} (hc : X.calm = true) (hN : X.N.Nodup) (hy : X.N[i]? = some y) (hyl : X.env.scope.names.lookup y = some .local)
    (hsw : swapsWith (.ListComp elt [⟨tg, iter, ifs, 0⟩] scope lpos) (some (.Name y py)) pos.line X.env = pure true) (hi : MI X E tg iter it) (ok : BlkOk X.N X.env.scope scope own)
    (hg : ∀ s H C cl fp, MG (X.blk s H scope (compEnvC scope cl C X.env) fp) tg js g) (ht : ∀ s H C cl fp, MTs (X.blk s H scope (compEnvC scope cl C X.env) fp) E00 ifs bt)
    (he : ∀ s H C cl fp, ME (X.blk s H scope (compEnvC scope cl C X.env) fp) E00 elt fe) (hj : ∀ j ∈ js, j ∈ own.map (·.2) := by decide) (hs : ∀ x, foldedSetIterable iter X.env x = pure x := by intro _; rfl) :
    MS X E (.Assign [.Name y py] (.ListComp elt [⟨tg, iter, ifs, 0⟩] scope lpos) pos) (sAsg (mLc it g bt fe (own.map (·.2))) (tgN i)) := PS.imp (ps_setLc hc hN hy hyl hsw hi ok hg ht he hs) fun En st H ⟨c, env, gd, re, q⟩ => by
  refine tLc_M hj ⟨c, env, gd, re, (FinS.of_st re q).mono fun d c1 H1 e1 g1 q1 v rv => ?_⟩
  exact q1 c1 H1 (Ext.refl _ _) g1 rfl _ ((re.ext e1).set rv)
/-- a, b = x, y -/
def sPar (i j : Nat) (fs : AT) : SM := fun env s => (fs env s).lt env fun ds s1 => match ds with
  | [d, e] => .fl (.nx ((env.set i (some d)).set j (some e))) s1
  | _ => .no
theorem ms_par {i j : Nat} {x y : Str} {fs : AT} {px py pt : Pos} {kt k2 pt2} (hc : X.calm = true) (hN : X.N.Nodup) (hi : X.N[i]? = some x) (hj : X.N[j]? = some y) (hij : i ≠ j)
    (hx : X.env.scope.names.lookup x = some .local) (hy : X.env.scope.names.lookup y = some .local) (ha : MA X E [a, b] fs) (hw : swappedStores [.Tuple [.Name x px, .Name y py] kt pt] (.Tuple [a, b] k2 pt2) X.env = pure (some [x, y]) := by rfl) :
    MS X E (.Assign [.Tuple [.Name x px, .Name y py] kt pt] (.Tuple [a, b] k2 pt2) pos) (sPar i j fs) := PS.imp (ps_par hc hN hi hj hij hx hy ha hw) fun En st H ⟨c, env, gd, re, q⟩ => by
  refine ⟨c, env, gd, re, (FinS.of_lt re q).mono fun ds c1 H1 e1 g1 q1 vs rvs => ?_⟩
  split at q1
  · cases rvs with
    | cons rd rn =>
      cases rn with
      | cons rd2 rn =>
        cases rn
        exact ⟨_, _, rfl, q1 c1 H1 (Ext.refl _ _) g1 rfl _ (((re.ext e1).set rd).set rd2)⟩
  · exact q1.elim
/-! ### loops -/
open Classical in
noncomputable def forGo (G : Sto → Prop) (g : Tg) (body : SM) : List D → Env → Sto → SR
  | [], env, s => if G s then .fl (.nx env) s else .no
  | d :: r, env, s => if G s then (match g d env with
      | some env1 => match body env1 s with
        | .fl (.nx e) s1 => forGo G g body r e s1
        | .fl (.ct e) s1 => forGo G g body r e s1
        | .fl (.bk e) s1 => .fl (.nx e) s1
        | .fl (.rt v) s1 => .fl (.rt v) s1
        | .ex x e s1 => .ex x e s1
        | .no => .no
      | none => .no) else .no
def R.it (r : R (List D × (Sto → Prop))) (env : Env) (g : List D × (Sto → Prop) → Sto → SR) : SR := match r with
  | .ok d s => g d s
  | .ex x s => .ex x env s
  | .no => .no
@[simp] theorem it_ok (d : List D × (Sto → Prop)) (s : Sto) (env : Env) (g : List D × (Sto → Prop) → Sto → SR) : (R.ok d s).it env g = g d s := rfl
noncomputable def sFor (it : IT) (g : Tg) (body : SM) : SM := fun env s => (it env s).it env fun p s1 => forGo p.2 g body p.1 env s1
theorem ms_for {iter : Expr} {body : List Stmt} {it : IT} {g : Tg} {js : List Nat} {fb : SM} (hp : PassesOwn (model X.prog X.w) X.A X.env X.xe) (hc : X.calm = true) (hi : MI X E tg iter it) (hg : MG X tg js g) (hb : MSs X E body fb)
    (hs : ∀ x, foldedSetIterable iter X.env x = pure x := by intro _; rfl) : MS X E (.For tg iter body [] pos) (sFor it g fb) := PS.imp (ps_for hp hc hi hg hb hs) fun En st H ⟨c, env, gd, re, q⟩ => by
  refine ⟨c, env, gd, re, ?_⟩
  have q : FinS (Wx X) E c H ((it env c.S).it env fun p s1 => forGo p.2 g fb p.1 env s1) En := q
  cases z : it env c.S with
  | no => rw [z] at q; exact q.elim
  | ex x S => rw [z] at q; exact fun c' H' cls dd e' g' s' rx => q c' H' cls dd st e' g' s' (re.ext e') rx
  | ok p S =>
    rw [z] at q
    intro c1 H1 e1 g1 s1 J WJ
    have q0 : FinS (Wx X) E c1 H1 (forGo p.2 g fb (p.1.drop 0) env c1.S) En := by
      rw [s1]
      exact FinS.later e1 q
    refine ⟨fun i m st' H' => m = p.1.length - i ∧ i ≤ p.1.length ∧ ∃ c' env', Good (Wx X) H' c' ∧ RelEnv (Wx X) H' c' env' st' ∧ Tr c1 H1 c' H' ∧ FinS (Wx X) E c' H' (forGo p.2 g fb (p.1.drop i) env' c'.S) En,
      ⟨p.1.length, by simp, Nat.zero_le _, c1, env, g1, re.ext e1, (Ext.refl _ _).toTr, q0⟩, ?_⟩
    rintro i m st2 H2 ⟨rfl, hi', c2, env2, g2, re2, t2, q2⟩
    by_cases hlt : i < p.1.length
    · rw [List.drop_eq_getElem_cons hlt, forGo] at q2
      split at q2
      case isFalse => exact q2.elim
      rename_i hG
      split at q2
      case h_2 => exact q2.elim
      rename_i env3 he3
      refine .inr ⟨WJ.go c2 H2 t2 g2 hG i hlt, fun st' H' => ∃ c' env', Good (Wx X) H' c' ∧ RelEnv (Wx X) H' c' env' st' ∧ Tr c1 H1 c' H' ∧ FinS (Wx X) E c' H' (forGo p.2 g fb (p.1.drop (i + 1)) env' c'.S) En,
        fun st' H' hN => ⟨p.1.length - (i + 1), by omega, rfl, hlt, hN⟩, fun x H3 hy => ?_⟩
      obtain ⟨e3, g3, rx⟩ := WJ.yld c2 H2 t2 g2 hG i _ (List.getElem?_eq_getElem hlt) x H3 hy
      refine ⟨c2, _, env2, env3, g3, rx, re2.ext e3, he3, fun st3 on re3 => ⟨c2, env3, g3, re3, ?_⟩⟩
      cases zb : fb env3 c2.S with
      | no => rw [zb] at q2; exact q2.elim
      | ex x e S3 =>
        rw [zb] at q2
        exact FinS.later (w := Wx X) (r := .ex x e S3) (En := { En with nx := _, ct := _, bk := En.nx }) e3 (show FinS (Wx X) E c2 H2 (.ex x e S3) { En with nx := _, ct := _, bk := En.nx } from q2)
      | fl fl S3 =>
        rw [zb] at q2
        intro c4 H4 e4 g4 s4
        cases fl with
        | nx e => exact fun st4 re4 => ⟨c4, e, g4, re4, t2.trans (e3.trans e4).toTr, by rw [s4]; exact FinS.later (e3.trans e4) q2⟩
        | ct e => exact fun st4 re4 => ⟨c4, e, g4, re4, t2.trans (e3.trans e4).toTr, by rw [s4]; exact FinS.later (e3.trans e4) q2⟩
        | bk e => exact fun st4 re4 => q2 c4 H4 (e3.trans e4) g4 s4 st4 re4
        | rt d => exact fun v rv => q2 c4 H4 (e3.trans e4) g4 s4 v rv
    · have hi2 : i = p.1.length := by omega
      subst hi2
      rw [List.drop_length, forGo] at q2
      split at q2
      case isFalse => exact q2.elim
      rename_i hG
      exact .inl ⟨WJ.stop c2 H2 t2 g2 hG, q2 c2 H2 (Ext.refl _ _) g2 rfl st2 re2⟩
def whGo (bc : BT) (body : SM) : Nat → Env → Sto → SR
  | 0, _, _ => .no
  | n + 1, env, s => (bc env s).bt env fun k s1 => match k with
    | true => match body env s1 with
      | .fl (.nx e) s2 => whGo bc body n e s2
      | .fl (.ct e) s2 => whGo bc body n e s2
      | .fl (.bk e) s2 => .fl (.nx e) s2
      | .fl (.rt v) s2 => .fl (.rt v) s2
      | .ex x e s2 => .ex x e s2
      | .no => .no
    | false => .fl (.nx env) s1
theorem ms_while {c' : Expr} {body : List Stmt} {bc : BT} {fb : SM} (n : Nat) (hp : PassesOwn (model X.prog X.w) X.A X.env X.xe) (hc : MT X E c' bc) (hb : MSs X E body fb) : MS X E (.While c' body [] pos) (whGo bc fb n) := PS.imp (ps_while hp hc hb) fun En st H ⟨c, env, gd, re, q⟩ => by
  refine ⟨fun m st' H' => ∃ c' env', Good (Wx X) H' c' ∧ RelEnv (Wx X) H' c' env' st' ∧ FinS (Wx X) E c' H' (whGo bc fb m env' c'.S) En, ⟨n, c, env, gd, re, q⟩, ?_⟩
  rintro m st1 H1 ⟨c1, env1, g1, re1, q1⟩
  cases m with
  | zero => exact q1.elim
  | succ m =>
    rw [whGo] at q1
    refine ⟨c1, env1, g1, re1, (FinS.of_bt re1 q1).mono fun k c2 H2 e2 g2 q2 => ?_⟩
    cases k with
    | false => exact iteF (q2 c2 H2 (Ext.refl _ _) g2 rfl st1 (re1.ext e2))
    | true =>
      refine iteT ⟨fun st' H' => ∃ c' env', Good (Wx X) H' c' ∧ RelEnv (Wx X) H' c' env' st' ∧ FinS (Wx X) E c' H' (whGo bc fb m env' c'.S) En, fun st' H' hN => ⟨m, Nat.lt_succ_self m, hN⟩, c2, env1, g2, re1.ext e2, ?_⟩
      simp only at q2
      cases zb : fb env1 c2.S with
      | no => rw [zb] at q2; exact q2.elim
      | ex x e S3 => rw [zb] at q2; exact q2
      | fl fl S3 =>
        rw [zb] at q2
        intro c4 H4 e4 g4 s4
        cases fl with
        | nx e => exact fun st4 re4 => ⟨c4, e, g4, re4, by rw [s4]; exact FinS.later e4 q2⟩
        | ct e => exact fun st4 re4 => ⟨c4, e, g4, re4, by rw [s4]; exact FinS.later e4 q2⟩
        | bk e => exact fun st4 re4 => q2 c4 H4 e4 g4 s4 st4 re4
        | rt d => exact fun v rv => q2 c4 H4 e4 g4 s4 v rv
end
/-! ### defs -/
def mFun (N n : Nat) (body : SM) : FT := fun ds s => if ds.length = n then (match body (ds.map some ++ List.replicate (N - n) none) s with
  | .fl (.rt d) s1 => .ok d s1
  | .fl (.nx _) s1 => .ok .non s1
  | .ex x _ s1 => .ex x s1
  | _ => .no) else .no
theorem RelDs.start {w : Wd} {H : Hp} {c : Ct} {ds : List D} {vs : List V} (h : RelDs w H c ds vs) (N : List Str) : RelEnv w H c (ds.map some ++ List.replicate (N.length - ds.length) none) (L2.start N vs) := by
  have l := h.length
  refine ⟨by simp [L2.start, l], fun i d e => ?_⟩
  unfold L2.start
  by_cases hi : i < ds.length
  · rw [List.getElem?_append_left (by simpa using hi), List.getElem?_map] at e
    rw [List.getElem?_append_left (by simp; omega), List.getElem?_map]
    cases z : ds[i]? with
    | none => rw [z] at e; cases e
    | some x =>
      rw [z] at e
      cases e
      obtain ⟨v, hv, r⟩ := h.get z
      exact ⟨v, by rw [hv]; rfl, r⟩
  · rw [List.getElem?_append_right (by simpa using hi), List.getElem?_replicate] at e
    split at e <;> cases e
section
variable {P : Program} {w : World} {K : PySem.W.Frag} {mg : Str → Option Value} {base : Heap}
theorem mfun_len {N n : Nat} {body : SM} {ds : List D} {s : Sto} {d : D} {s' : Sto} (h : ds.length ≠ n) : mFun N n body ds s = .no := if_neg h
/-- a def that raises nothing keeps its mirror -/
theorem fn_mir {x qual : Str} {st : Stmt} {f : Addr} {fd : FuncData} {N ps : List Str} {k : Nat} {body : SM} (F : Fun K x qual st f fd) (S : FnScope N ps (defScope st))
    (hb : ∀ (cdv : Value) (A : Around) (outer : List PySem.Env) (s : Shared) (H : Hp) (E : XK), RoomG k (A.deeper (envOfC qual (defScope st) s.heap.objs.size f cdv)) →
      MSs (cxOf CX0 P w K mg base N qual (defScope st) f cdv A outer s H E).nox E00 (defBody st) body) : FnG P w K mg base CX0 (k + 1) f fd ps (spM ⟨K, mg⟩ (mFun N.length ps.length body)) := by
  refine fun_okG F S (fun vs H Q E h => ?_) (fun cdv A outer s H vs Q E hr h => ⟨_, hb cdv A outer s H E hr, ?_⟩)
  · obtain ⟨c, ds, g, r, q⟩ := h
    rw [← r.length]
    by_cases e : ds.length = ps.length
    · exact e
    · rw [mfun_len e (d := .non) (s' := [])] at q; exact q.elim
  · obtain ⟨c, ds, g, r, q⟩ := h
    by_cases e : ds.length = ps.length
    · refine ⟨c, _, g, r.start N, ?_⟩
      rw [mFun, if_pos e] at q
      rw [← e] at q
      cases z : body (ds.map some ++ List.replicate (N.length - ds.length) none) c.S with
      | no => rw [z] at q; exact q.elim
      | ex x en S1 => rw [z] at q; exact fun c' H' cls dd st' e' g' s' re' rx => q c' H' cls dd e' g' s' rx
      | fl fl S1 =>
        rw [z] at q
        intro c1 H1 e1 g1 s1
        cases fl with
        | nx en => exact fun st' re' => q c1 H1 e1 g1 s1 _ .non
        | rt d => exact fun v rv => q c1 H1 e1 g1 s1 v rv
        | bk en => exact q.elim
        | ct en => exact q.elim
    · rw [mfun_len e (d := .non) (s' := [])] at q; exact q.elim
end
end Mi
end
section
set_option maxRecDepth 100000
set_option maxHeartbeats 1000000
namespace Mi
open PySem L2 PyProof.Rows
section
variable {prog : Program} {w : World} {A : Around} {E : Value → Shared → Prop} {s : Shared}
/-! an empty tuple, any number of times, is itself -/
theorem mul_empty (l : Addr) (n : Nat) (dd : Option Addr) (sl : Array (Option Value)) (x : Int) (u : Tok) (c0 : (decide (x < -(2 ^ 63)) || decide (x ≥ 2 ^ 63)) = false) :
    Meets (Builtin.«tuple.__mul__» ⟨[.ref l, .int x u], []⟩)
      (fun _ R s => s.heap.get? l = some { cls := .type "tuple", dict := dd, data := .seq #[] n, slots := sl } ∧ R (.ok (.ret (Value.ref l))) s) :=
  .of_wp fun prog w A R s h => by
    obtain ⟨hp, g, d, tk, os⟩ := s
    obtain ⟨hl, h⟩ := h
    have f1 := AutoSeq1.idx_int
    wp_walk using wpAny_loadPart' hl
    refine wpAny_ite_false (decide_eq_false (by rw [c0]; exact Bool.false_ne_true)) ?_
    wp_walk using wpAny_loadPart' hl
    exact ⟨_, rfl, h⟩
theorem mul_tup0 {X : Cx} {pins : List (Addr × Obj)} {σ : L2.St} {H : Hp} {s : Shared} {a : Addr} {k : Int} {t : Tok} {Q : VK} (I : Inv X pins σ H s) (ht : SqT X.K H a []) (h1 : -(2 ^ 63) ≤ k) (h2 : k < 2 ^ 63) (q : Q (.ref a) H) :
    wpAny (model X.prog X.w) X.A (binaryOp .Mult (.ref a) (.int k t)) (EP X pins σ Q) X.xe s := by
  obtain ⟨its, r, ⟨⟨cls, dd, data, sl⟩, ho, hc, n, hd⟩, hs⟩ := I.tuple ht
  cases r
  simp only at hc hd
  subst hc hd
  refine wpAny_binaryOp_repeat_ref (T := "tuple") (U := "int") (by decide) ⟨_, ho, rfl⟩
    (fun s' => typeIs_int s' k t) noFill_tuple_mul PySem.F.fills_int_mul PySem.F.slot_int_rmul
    repeat_tuple PySem.F.slot_int_index.lookup ?_
  refine call_meets PySem.F.slot_int_rmul (typeIs_int s k t) PySem.F.entry_int_rmul
    (PySem.F.args_int_rmul_2 _ _) (int_rmul_tuple k t a #[] n dd sl) ⟨ho, rfl, ⟨_, ho, rfl⟩, ?_⟩
  refine call_meets PySem.F.slot_tuple_mul ⟨_, ho, rfl⟩ PySem.F.entry_tuple_mul
    (PySem.F.args_tuple_mul_2 _ _) (mul_empty a n dd sl k t ?_) ⟨ho, ⟨.ref a, H, I, rfl, q⟩⟩
  rw [decide_eq_false (by omega), decide_eq_false (by omega)]
  rfl
/-! t[::-1] of a tuple -/
theorem slice_applied_back {sl : Addr} {vl vu vs : Value} {n : Nat} {Q : Int × Int × Nat → Shared → Prop} (hs : s.heap.IsSliceOf sl vl vu vs) (pl : IsPart vl none) (pu : IsPart vu none) (ps : IsPart vs (some (-1)))
    (h : Q ((n : Int) - 1, -1, n) s) : wpAny (model prog w) A (Builtin.Slice.sliceApplied (.ref sl) (pure (n : Int))) Q E s := by
  obtain ⟨os, hos, hcs, hds⟩ := id hs
  cases pl; cases pu
  unfold Builtin.Slice.sliceApplied Builtin.Slice.sliceFields
  refine wpAny_bind (wpAny_bind (wpAny_field hos hds (x := .none) rfl ?_))
  refine wpAny_bind (wpAny_field hos hds (x := .none) rfl ?_)
  refine wpAny_bind (wpAny_field hos hds (x := vs) rfl (wpAny_pure ?_))
  refine wpAny_bind (HT.slicePart_ ps ?_)
  show wpAny _ _ (if ((-1 : Int) == 0) = true then _ else _) _ _ s
  rw [if_neg (by decide)]
  refine wpAny_bind (HT.slicePart_ .none ?_)
  refine wpAny_bind (HT.slicePart_ .none ?_)
  refine wpAny_bind (wpAny_pure ?_)
  have e : Builtin.Slice.sliceAdjust none none (-1) (n : Int) = ((n : Int) - 1, -1) := by
    unfold Builtin.Slice.sliceAdjust
    simp
  have p : Builtin.Slice.slicePlaces ((n : Int) - 1) (-1) (-1) = n := by
    unfold Builtin.Slice.slicePlaces
    simp
    omega
  show wpAny _ _ (match Builtin.Slice.sliceAdjust none none (-1) (n : Int) with | (lo, hi) => pure (lo, (-1 : Int), Builtin.Slice.slicePlaces lo hi (-1))) _ _ s
  rw [e]
  show wpAny _ _ (pure ((n : Int) - 1, (-1 : Int), Builtin.Slice.slicePlaces ((n : Int) - 1) (-1) (-1))) _ _ s
  rw [p]
  exact wpAny_pure h
theorem pick_back (xs : Array Value) : ((List.range xs.size).filterMap fun (m : Nat) => xs[((xs.size : Int) - 1 + (m : Int) * (-1)).toNat]?).toArray = xs.toList.reverse.toArray := by
  obtain ⟨l⟩ := xs
  simp only [List.size_toArray]
  congr 1
  have key : ∀ (k : List Nat), (∀ m ∈ k, m < l.length) → k.filterMap (fun (m : Nat) => (Array.mk l)[((l.length : Int) - 1 + (m : Int) * (-1)).toNat]?) = k.map (fun (m : Nat) => l.reverse.getD m Value.none) := by
    intro k
    induction k with
    | nil => intro _; rfl
    | cons m k ih =>
      intro h
      have hm : m < l.length := h m List.mem_cons_self
      have e : ((l.length : Int) - 1 + (m : Int) * (-1)).toNat = l.length - 1 - m := by omega
      have hr : m < l.reverse.length := by simpa using hm
      have f : (Array.mk l)[((l.length : Int) - 1 + (m : Int) * (-1)).toNat]? = some (l.reverse.getD m Value.none) := by
        rw [e, List.getD_eq_getElem?_getD, List.getElem?_eq_getElem hr, List.getElem_reverse]
        have : (Array.mk l)[l.length - 1 - m]? = l[l.length - 1 - m]? := by simp
        rw [this, List.getElem?_eq_getElem (by omega)]
        rfl
      rw [List.filterMap_cons, f, List.map_cons, ih fun x hx => h x (List.mem_cons_of_mem _ hx)]
  rw [key _ fun m hm => List.mem_range.mp hm]
  apply List.ext_getElem?
  intro j
  rw [List.getElem?_map]
  by_cases hj : j < l.length
  · have hr : j < l.reverse.length := by simpa using hj
    rw [List.getElem?_range hj, List.getElem?_eq_getElem hr]
    show some (l.reverse.getD j Value.none) = _
    rw [List.getD_eq_getElem?_getD, List.getElem?_eq_getElem hr]
    rfl
  · rw [List.getElem?_eq_none (by simpa using hj), List.getElem?_eq_none (by simpa using hj)]
    rfl
theorem getItem_tuple_back {t sl : Addr} {items : Array Value} {vl vu vs : Value} {Q : Value → Shared → Prop} (ht : IsTup s.heap t items) (hs : s.heap.IsSliceOf sl vl vu vs) (pl : IsPart vl none) (pu : IsPart vu none) (ps : IsPart vs (some (-1)))
    (h : Q (.ref s.heap.objs.size) { s with heap := s.heap.push { cls := .type "tuple", data := .seq items.toList.reverse.toArray } })
    (hsz : items.size ≤ sizeLine) : wpAny (model prog w) A (getItem (.ref t) (.ref sl)) Q E s := by
  have hz : sizeOk (.seq items.toList.reverse.toArray) := by
    show items.toList.reverse.toArray.size ≤ sizeLine
    rw [List.size_toArray, List.length_reverse, Array.length_toList]
    exact hsz
  obtain ⟨os, hos, hcs, hds⟩ := id hs
  have hT : s.TypeIs (.ref sl) "slice" := ⟨os, hos, hcs⟩
  unfold getItem
  with_reducible refine wpAny_holding ?_
  refine wpAny_bind (wpAny_sequenceKey ht.typeIs (by decide) ?_)
  refine wpAny_bind (wpAny_callSpecial?_slot (name := Str.ofString "__getitem__") ht.typeIs slot_tuple_getitem ?_)
  refine wpAny_call_entry slot_tuple_getitem ht.typeIs PyProof.Rows.entry_tuple_getitem ?_ (PyProof.Rows.args_tuple_getitem _ _)
  show wpAny _ _ (Builtin.Tuple.tupleItemsOf (.ref t) >>= _) _ _ s
  refine wpAny_bind (PyProof.Rows.tupleItemsOf_ ht ?_)
  refine wpAny_bind (wpAny_typeOf hT ?_)
  rw [if_pos (by decide)]
  refine wpAny_bind (slice_applied_back hs pl pu ps ?_)
  have hno : ¬ ((((items.size : Int) - 1) == 0 && (-1 : Int) == 1 && items.size == items.size) = true) := by
    intro q
    rw [Bool.and_eq_true, Bool.and_eq_true] at q
    exact absurd q.1.2 (by decide)
  show wpAny _ _ (if (((items.size : Int) - 1) == 0 && (-1 : Int) == 1 && items.size == items.size) = true then _ else _) _ _ s
  rw [if_neg hno, pick_back]
  exact wpAny_bind (m := Builtin.Tuple.tupleExact _) (wpAny_newObj_type (wpAny_pure ⟨_, rfl, wpAny_pure h⟩) hz)
end
section
variable {X : Cx} {E : L2.St → XK} {e : Expr} {fa : ET} {k : Nat} {p1 p2 p3 pos : Pos}
def tRevT (K : PySem.W.Frag) (te : TE) : TE := fun st H Q => te st H fun x H1 => ∃ a xs, x = .ref a ∧ SqT K H1 a xs ∧ ∀ p, H1 p = none → Q (.ref p) (upd H1 p (.tup xs.reverse))
theorem pe_revT {te : TE} (he : PE X e te) : PE X (.Subscript e (.Slice none none (some (.UnaryOp .USub (.Constant (.int 1) k p1) p2)) p3) pos) (tRevT X.K te) := by
  refine ⟨fun pins s σ H Q I h => ?_⟩
  refine Subscript_ (thn (he.run pins s σ H _ I h) fun v s1 ⟨x, H1, I1, r1, q1⟩ => ?_)
  obtain ⟨a, xs, ex, hx, q⟩ := q1
  subst ex
  cases r1
  have hst : PO X (some (.UnaryOp .USub (.Constant (.int 1) k p1) p2)) (tPart (tUn (rU fun i => .int (-i)) (tC (.int 1)))) := po_some (pe_un un_neg pe_int)
  refine wpAny_Slice (thn (po_none.run pins s1 σ H1 (fun o H2 => o = none ∧ H2 = H1) I1 ⟨rfl, rfl⟩) ?_)
  intro vl s2 ⟨l, H2, I2, pl, el, e2⟩
  subst el e2
  refine thn (po_none.run pins s2 σ H2 (fun o H3 => o = none ∧ H3 = H2) I2 ⟨rfl, rfl⟩) ?_
  intro vu s3 ⟨u, H3, I3, pu, eu, e3⟩
  subst eu e3
  refine thn (hst.run pins s3 σ H3 (fun o H4 => o = some (-1) ∧ H4 = H3) I3 ⟨1, rfl, -1, rfl, rfl, rfl⟩) ?_
  intro vs s4 ⟨o, H4, I4, ps, eo, e4⟩
  subst eo e4
  have I5 : Inv X pins σ H4 { s4 with heap := s4.heap.push { cls := .type "slice", data := .fields #[vl, vu, vs] } } :=
    I4.kept (t' := s4.toks) fun b ob q => Heap.get?_push_of_some _ q
  obtain ⟨its, r, ht, hz⟩ := I5.tuple hx
  have hlen := r.length
  show wpAny _ _ (subscriptTail e (.Slice none none (some (.UnaryOp .USub (.Constant (.int 1) k p1) p2)) p3) (.ref a) (.ref s4.heap.objs.size)) _ _ _
  refine tail_any (ops := [.ref a, .ref s4.heap.objs.size]) ht.typeIs slot_tuple_getitem.lookup ?_ (by with_unfolding_all rfl)
  refine getItem_tuple_back ht (Heap.IsSliceOf.new _ vl vu vs) pl pu ps ?_ (by rw [List.size_toArray]; omega)
  refine ⟨.ref _, _, I5.laid (t' := s4.toks) (o := .tup xs.reverse) (fun b ob q => Heap.get?_push_of_some _ q) (Nat.le_refl _) ?_, rfl, q _ (I5.hok.fresh (Nat.le_refl _))⟩
  exact ⟨by rw [List.length_reverse]; exact hz, _, r.reverse, IsTup.new _ _⟩
/-- t[::-1] -/
def mRevT (fa : ET) : ET := fun env s => (fa env s).bind fun d s1 => match d with
  | .tup xs => .ok (.tup xs.reverse) s1
  | _ => .no
theorem me_revT (he : ME X E e fa) : ME X E (.Subscript e (.Slice none none (some (.UnaryOp .USub (.Constant (.int 1) k p1) p2)) p3) pos) (mRevT fa) := PE.imp (pe_revT he) fun st H Q ⟨c, env, g, re, q⟩ => by
  refine ⟨c, env, g, re, (Fin.bind q).mono fun d c1 H1 e1 g1 q1 v rv => ?_⟩
  cases d with
  | tup xs =>
    obtain ⟨a, vs, rfl, hq, rs⟩ := tup_ok rv
    exact ⟨a, vs, rfl, hq, fun p hp => q1.new g1 rfl hp _ (ft_new g1 hp rs.reverse)⟩
  | _ => exact q1.elim
end
end Mi
end
section
set_option maxRecDepth 100000
set_option maxHeartbeats 1000000
namespace Mi
open PySem L2 PyProof.Rows
/-! ### data without refs, as the library reads them -/
mutual
def pyD : D → Option PyData
  | .non => some .none
  | .bl b => some (.bool b)
  | .int i => some (.int i)
  | .str x => some (.str x)
  | .tup xs => match pyDs xs with
    | some ds => some (.tuple ds)
    | none => none
  | .lst xs => match pyDs xs with
    | some ds => some (.list ds)
    | none => none
  | _ => none
def pyDs : List D → Option (List PyData)
  | [] => some []
  | d :: r => match pyD d, pyDs r with
    | some x, some xs => some (x :: xs)
    | _, _ => none
end
section
variable {w : Wd} {H : Hp} {c : Ct}
mutual
theorem pyD_ok : ∀ {d : D} {v : V} {x : PyData}, RelD w H c d v → pyD d = some x → Dp w.K H v x
  | _, _, _, .non, h => by simp [pyD] at h; subst h; exact .non
  | _, _, _, .bl b, h => by simp [pyD] at h; subst h; exact .bl b
  | _, _, _, .int i, h => by simp [pyD] at h; subst h; exact .int i
  | _, _, _, .str x _, h => by simp [pyD] at h; subst h; exact .str x
  | _, _, _, @RelD.tup _ _ _ a xs vs hs rs, h => by
    simp only [pyD] at h
    cases z : pyDs xs with
    | none => rw [z] at h; cases h
    | some ds => rw [z] at h; cases h; exact .tup hs.sq (pyDs_ok rs z)
  | _, _, _, @RelD.lst _ _ _ a xs vs hs rs, h => by
    simp only [pyD] at h
    cases z : pyDs xs with
    | none => rw [z] at h; cases h
    | some ds => rw [z] at h; cases h; exact .lst hs.sq (pyDs_ok rs z)
  | _, _, _, .dic _ _ _, h => by simp [pyD] at h
  | _, _, _, .ins _ _ _ _, h => by simp [pyD] at h
  | _, _, _, .ref _, h => by simp [pyD] at h
  | _, _, _, .scr _, h => by simp [pyD] at h
  | _, _, _, .cls _, h => by simp [pyD] at h
theorem pyDs_ok : ∀ {ds : List D} {vs : List V} {xs : List PyData}, RelDs w H c ds vs → pyDs ds = some xs → DpAll w.K H vs xs
  | _, _, _, .nil, h => by simp [pyDs] at h; subst h; exact .nil
  | _, _, _, @RelDs.cons _ _ _ d ds v vs r t, h => by
    simp only [pyDs] at h
    cases z : pyD d with
    | none => rw [z] at h; cases h
    | some x =>
      cases z2 : pyDs ds with
      | none => rw [z, z2] at h; cases h
      | some xs => rw [z, z2] at h; cases h; exact .cons (pyD_ok r z) (pyDs_ok t z2)
end
/-- a list or tuple, numbered or not, with all its parts data -/
def pyA (s : Sto) (d : D) : Option PyData := match asL s d with
  | some xs => match pyDs xs with
    | some ds => some (.list ds)
    | none => none
  | none => pyD d
theorem pyA_ok {d : D} {v : V} {x : PyData} (g : Good w H c) (r : RelD w H c d v) (h : pyA c.S d = some x) : Dp w.K H v x := by
  unfold pyA at h
  split at h
  · rename_i xs z
    obtain ⟨a, vs, rfl, hq, rs⟩ := asL_sq g r z
    split at h
    · rename_i ds z2
      cases h
      exact .lst hq (pyDs_ok rs z2)
    · cases h
  · exact pyD_ok r h
end
def b2n (b : Bool) : Int := if b then 1 else 0
section
variable {X : Cx}
theorem OpR.or {f : Value → Value → Sem Value} {r r' : R2} (h : OpR X f r) (h' : OpR X f r') : OpR X f (fun x y H Q => r x y H Q ∨ r' x y H Q) := by
  intro pins s σ H x y v u Q I rx ry q
  rcases q with q | q
  · exact h pins s σ H x y v u Q I rx ry q
  · exact h' pins s σ H x y v u Q I rx ry q
/-! ### + -/
def opAdd : Op2 := fun s d e => match d, e with
  | .int i, .int j => some (.int (i + j))
  | .bl b, .int j => some (.int (b2n b + j))
  | .int i, .bl b => some (.int (i + b2n b))
  | .str x, .str y => if x.length + y.length ≤ sizeLine then some (.str (x ++ y)) else none
  | .tup xs, .tup ys => if xs.length + ys.length ≤ sizeLine then some (.tup (xs ++ ys)) else none
  | d, e => match asL s d, asL s e with
    | some xs, some ys => if xs.length + ys.length ≤ sizeLine then some (.lst (xs ++ ys)) else none
    | _, _ => none
theorem str_len_app (x y : Str) : (x ++ y).length = x.length + y.length := by
  show (x.cps ++ y.cps).size = x.cps.size + y.cps.size
  exact Array.size_append
section
variable {pins : List (Addr × Obj)} {s : Shared} {σ : L2.St} {H : Hp} {x y : V} {v u : Value} {Q : VK} {c : Ct}
theorem op_add_M : OpM X (binaryOp .Add) opAdd := by
  intro pins s σ H x y v u Q I rx ry h
  obtain ⟨c, d, e, z, g, rd, re, hz, q⟩ := h
  have here := q H (Ext.refl c H) g
  have lists : ∀ xs ys, asL c.S d = some xs → asL c.S e = some ys → (if xs.length + ys.length ≤ sizeLine then some (D.lst (xs ++ ys)) else none) = some z → wpAny (model X.prog X.w) X.A (binaryOp .Add v u) (EP X pins σ Q) X.xe s := by
    intro xs ys z1 z2 hz
    split at hz
    · rename_i hl
      cases hz
      obtain ⟨a, vs, rfl, ha, r1⟩ := asL_ok g rd z1
      obtain ⟨b, us, rfl, hb, r2⟩ := asL_ok g re z2
      exact op_cat pins s σ H _ _ v u Q I rx ry ⟨a, b, vs, us, rfl, rfl, ha, hb, by rw [← r1.length, ← r2.length]; exact hl, fun p hp => q _ (Ext.fresh g hp) (g.fresh hp) _ (fz_new g hp (r1.append r2))⟩
    · cases hz
  unfold opAdd at hz
  split at hz
  · cases hz; cases rd; cases re
    exact op_add pins s σ H _ _ v u Q I rx ry ⟨_, _, rfl, rfl, here _ (.int _)⟩
  · cases hz; cases rd; cases re
    cases rx; obtain ⟨t, rfl⟩ := ry
    exact PySem.IntBool.add_bool_int ⟨.int _, H, I.tok _, ⟨_, rfl⟩, here _ (.int _)⟩
  · cases hz; cases rd; cases re
    exact op_add_ib pins s σ H _ _ v u Q I rx ry ⟨_, _, rfl, rfl, here _ (.int _)⟩
  · split at hz
    · rename_i hl
      cases hz; cases rd; cases re
      exact op_add_str pins s σ H _ _ v u Q I rx ry ⟨_, _, rfl, rfl, hl, here _ (.str _ (by rw [str_len_app]; exact hl))⟩
    · cases hz
  · split at hz
    · rename_i xs ys hl
      cases hz
      obtain ⟨a, vs, rfl, ha, r1⟩ := tup_ok rd
      obtain ⟨b, us, rfl, hb, r2⟩ := tup_ok re
      refine op_catA pins s σ H _ _ v u Q I rx ry ⟨a, b, vs, us, rfl, rfl, ha, hb, by rw [← r1.length, ← r2.length]; exact hl, fun z => ?_, fun _ z => ?_, fun _ _ p hp => q _ (Ext.fresh g hp) (g.fresh hp) _ (ft_new g hp (r1.append r2))⟩
      · subst z; cases r1; exact here _ re
      · subst z; cases r2; rw [List.append_nil] at here; exact here _ rd
    · cases hz
  · split at hz
    · rename_i xs ys z1 z2
      exact lists xs ys z1 z2 hz
    · cases hz
end
/-! ### -, *, //, %, ** of whole numbers; * of texts, tuples, lists -/
def opSub : Op2 := fun _ d e => match d, e with
  | .int i, .int j => some (.int (i - j))
  | .int i, .bl b => some (.int (i - b2n b))
  | .bl b, .int i => some (.int (b2n b - i))
  | _, _ => none
theorem op_sub_M : OpM X (binaryOp .Sub) opSub := by
  intro pins s σ H x y v u Q I rx ry h
  obtain ⟨c, d, e, z, g, rd, re, hz, q⟩ := h
  have here := q H (Ext.refl c H) g
  unfold opSub at hz
  split at hz
  · cases hz; cases rd; cases re
    exact op_sub pins s σ H _ _ v u Q I rx ry ⟨_, _, rfl, rfl, here _ (.int _)⟩
  · cases hz; cases rd; cases re
    cases ry; obtain ⟨t, rfl⟩ := rx
    exact PySem.IntBool.sub_int_bool ⟨.int _, H, I.tok _, ⟨_, rfl⟩, here _ (.int _)⟩
  · cases hz; cases rd; cases re
    cases rx; obtain ⟨t, rfl⟩ := ry
    exact PySem.IntBool.sub_bool_int ⟨.int _, H, I.tok _, ⟨_, rfl⟩, here _ (.int _)⟩
  · cases hz
def repS (x : Str) (n : Nat) : Str := ⟨(List.replicate n x.cps).foldl (· ++ ·) #[]⟩
def opMul : Op2 := fun s d e => match d, e with
  | .int i, .int j => if (-(2 ^ 64) < i ∧ i < 2 ^ 64) ∨ (-(2 ^ 64) < j ∧ j < 2 ^ 64) then some (.int (i * j)) else none
  | .str x, .int k => if 2 ≤ k ∧ k ≤ 1000 ∧ x.length ≤ 1000 then some (.str (repS x k.toNat)) else none
  | .tup xs, .int k => if xs = [] ∧ 0 ≤ k ∧ k ≤ 1000 then some (.tup []) else if xs ≠ [] ∧ 2 ≤ k ∧ k ≤ 1000 ∧ xs.length ≤ 1000 then some (.tup (List.replicate k.toNat xs).flatten) else none
  | d, .int k => match asL s d with
    | some xs => if 0 ≤ k ∧ k ≤ 1000 ∧ xs.length ≤ 1000 then some (.lst (List.replicate k.toNat xs).flatten) else none
    | none => none
  | _, _ => none
theorem RelDs.rep {w : Wd} {H : Hp} {c : Ct} {ds : List D} {vs : List V} (h : RelDs w H c ds vs) : ∀ n : Nat, RelDs w H c (List.replicate n ds).flatten (List.replicate n vs).flatten
  | 0 => .nil
  | n + 1 => by
    rw [List.replicate_succ, List.replicate_succ, List.flatten_cons, List.flatten_cons]
    exact h.append (RelDs.rep h n)
theorem repS_len (x : Str) (n : Nat) : (repS x n).length = n * x.length := by
  have key : ∀ (n : Nat) (a : Array Nat), ((List.replicate n x.cps).foldl (· ++ ·) a).size = a.size + n * x.cps.size := by
    intro n
    induction n with
    | zero => intro a; simp
    | succ n ih => intro a; rw [List.replicate_succ, List.foldl_cons, ih, Array.size_append, Nat.succ_mul]; omega
  have := key n #[]
  simpa [repS, Str.length] using this
theorem repS_nil (x : Str) (n : Nat) (h : x.length = 0) : repS x n = x := by
  obtain ⟨a⟩ := x
  have e : a = #[] := Array.eq_empty_of_size_eq_zero h
  subst e
  have key : ∀ n : Nat, (List.replicate n (#[] : Array Nat)).foldl (· ++ ·) #[] = #[] := by
    intro n
    induction n with
    | zero => rfl
    | succ n ih => rw [List.replicate_succ, List.foldl_cons]; simpa using ih
  unfold repS
  rw [key]
theorem op_mul_M : OpM X (binaryOp .Mult) opMul := by
  intro pins s σ H x y v u Q I rx ry h
  obtain ⟨c, d, e, z, g, rd, re, hz, q⟩ := h
  have here := q H (Ext.refl c H) g
  unfold opMul at hz
  split at hz
  · split at hz
    · rename_i hl
      cases hz; cases rd; cases re
      exact op_mul pins s σ H _ _ v u Q I rx ry ⟨_, _, rfl, rfl, hl, here _ (.int _)⟩
    · cases hz
  · split at hz
    · rename_i x k hl
      cases hz; cases rd with | str _ hx => ?_
      cases re
      obtain ⟨t, rfl⟩ := rx
      obtain ⟨t', rfl⟩ := ry
      have hs : sizeLine = 16777216 := sizeLine_eq
      have lr := repS_len x k.toNat
      have hle : k.toNat * x.length ≤ 1000 * 1000 := Nat.mul_le_mul (by omega) hl.2.2
      have fin : RelD (Wx X) H c (.str (repS x k.toNat)) (.str (repS x k.toNat)) := .str _ (by omega)
      refine PySem.P.mul_str (by rw [decide_eq_false (by omega), decide_eq_false (by omega)]; rfl) (fun _ _ => ?_) (fun _ _ => ?_) ?_
      · have : (1000 : Int) ≤ (2 ^ 63 - 1) / k := by
          rw [Int.le_ediv_iff_mul_le (by omega)]
          omega
        omega
      · have hc : x.length * k.toNat ≤ 1000000 := by rw [Nat.mul_comm]; omega
        unfold Builtin.Str.tooLong
        simp only [decide_eq_false_iff_not]
        omega
      · rw [if_neg (by omega)]
        split
        · rename_i hc
          have h0 : x.length = 0 := by
            rw [Bool.or_eq_true] at hc
            rcases hc with hc | hc
            · exact absurd (eq_of_beq hc) (by omega)
            · exact eq_of_beq hc
          rw [repS_nil x _ h0] at here fin
          exact ⟨.str x, H, I, ⟨t, rfl⟩, here _ fin⟩
        · exact ⟨by show (repS x k.toNat).length ≤ sizeLine; omega, ⟨.str _, H, I.tok _, ⟨_, rfl⟩, here _ fin⟩⟩
    · cases hz
  · rename_i xs k
    split at hz
    · rename_i he
      obtain ⟨he, hk⟩ := he
      subst he
      cases hz
      obtain ⟨a, vs, rfl, hq, rs⟩ := tup_ok rd
      cases rs
      cases re
      cases rx
      obtain ⟨t', rfl⟩ := ry
      exact mul_tup0 I hq (by omega) (by omega) (here _ rd)
    · split at hz
      · rename_i _ hl
        obtain ⟨hne, hl⟩ := hl
        cases hz
        obtain ⟨a, vs, rfl, hq, rs⟩ := tup_ok rd
        cases re
        have hlen := rs.length
        refine op_repT pins s σ H _ _ v u Q I rx ry ⟨a, k, vs, rfl, rfl, hq, ?_, hl.1, hl.2.1, by omega, fun p hp => q _ (Ext.fresh g hp) (g.fresh hp) _ (ft_new g hp (rs.rep _))⟩
        intro z
        subst z
        cases rs
        exact hne rfl
      · cases hz
  · split at hz
    · rename_i xs z1
      split at hz
      · rename_i hl
        cases hz
        obtain ⟨a, vs, rfl, ha, r1⟩ := asL_ok g rd z1
        cases re
        have hlen := r1.length
        have hs : sizeLine = 16777216 := sizeLine_eq
        refine op_rep pins s σ H _ _ v u Q I rx ry ⟨a, _, vs, rfl, rfl, ha, by omega, by omega, ?_, fun p hp => q _ (Ext.fresh g hp) (g.fresh hp) _ (fz_new g hp (r1.rep _))⟩
        exact Nat.le_trans (Nat.mul_le_mul (show vs.length ≤ 1000 by omega) (show _ ≤ 1000 by omega)) (by omega)
      · cases hz
    · cases hz
  · cases hz
end
end Mi
end
section
set_option maxRecDepth 100000
set_option maxHeartbeats 1000000
namespace Mi
open PySem L2 PyProof.Rows
section
variable {X : Cx} {E : L2.St → XK}
def opDiv : Op2 := fun _ d e => match d, e with
  | .int i, .int j => if 0 < j ∧ j < 1073741824 then some (.int (i / j)) else none
  | _, _ => none
theorem op_div_M : OpM X (binaryOp .FloorDiv) opDiv := by
  intro pins s σ H x y v u Q I rx ry h
  obtain ⟨c, d, e, z, g, rd, re, hz, q⟩ := h
  have here := q H (Ext.refl c H) g
  unfold opDiv at hz
  split at hz
  · split at hz
    · rename_i hl
      cases hz; cases rd; cases re
      exact op_fdiv pins s σ H _ _ v u Q I rx ry ⟨_, _, rfl, rfl, hl, here _ (.int _)⟩
    · cases hz
  · cases hz
def opMod : Op2 := fun _ d e => match d, e with
  | .int i, .int j => if 0 < j then some (.int (i % j)) else none
  | _, _ => none
theorem op_mod_M : OpM X (binaryOp .Mod) opMod := by
  intro pins s σ H x y v u Q I rx ry h
  obtain ⟨c, d, e, z, g, rd, re, hz, q⟩ := h
  have here := q H (Ext.refl c H) g
  unfold opMod at hz
  split at hz
  · split at hz
    · rename_i hl
      cases hz; cases rd; cases re
      exact op_mod pins s σ H _ _ v u Q I rx ry ⟨_, _, rfl, rfl, hl, here _ (.int _)⟩
    · cases hz
  · cases hz
def opPow : Op2 := fun _ d e => match d, e with
  | .int i, .int j => if 0 ≤ j ∧ (Builtin.Int.intBits i : Int) * j ≤ 2 ^ 27 then some (.int (i ^ j.toNat)) else none
  | _, _ => none
theorem op_pow_M : OpM X (binaryOp .Pow) opPow := by
  intro pins s σ H x y v u Q I rx ry h
  obtain ⟨c, d, e, z, g, rd, re, hz, q⟩ := h
  have here := q H (Ext.refl c H) g
  unfold opPow at hz
  split at hz
  · split at hz
    · rename_i hl
      cases hz; cases rd; cases re
      obtain ⟨t, rfl⟩ := rx
      obtain ⟨t', rfl⟩ := ry
      exact pow_int hl.1 hl.2 ⟨.int _, H, I.tok _, ⟨_, rfl⟩, here _ (.int _)⟩
    · cases hz
  · cases hz
/-- comparisons of whole numbers, of texts -/
def cmpI (p : Int → Int → Bool) (pt : List Nat → List Nat → Bool) : Op2 := fun _ d e => match d, e with
  | .int i, .int j => some (.bl (p i j))
  | .str x, .str y => some (.bl (pt x.cps.toList y.cps.toList))
  | _, _ => none
abbrev opLt : Op2 := cmpI (fun i j => decide (i < j)) (fun a b => decide (a < b))
abbrev opLe : Op2 := cmpI (fun i j => decide (i ≤ j)) (fun a b => !decide (b < a))
abbrev opGt : Op2 := cmpI (fun i j => decide (j < i)) (fun a b => decide (b < a))
abbrev opGe : Op2 := cmpI (fun i j => decide (j ≤ i)) (fun a b => !decide (a < b))
theorem cmp_M {f : Value → Value → Sem Value} {p : Int → Int → Bool} {pt : List Nat → List Nat → Bool} (h1 : OpR X f (rI0 fun i j => .bl (p i j))) (h2 : OpR X f (fun x y H Q => ∃ i j, x = .str i ∧ y = .str j ∧ Q (.bl (pt i.cps.toList j.cps.toList)) H)) : OpM X f (cmpI p pt) := by
  intro pins s σ H x y v u Q I rx ry h
  obtain ⟨c, d, e, z, g, rd, re, hz, q⟩ := h
  have here := q H (Ext.refl c H) g
  unfold cmpI at hz
  split at hz
  · cases hz; cases rd; cases re
    exact h1 pins s σ H _ _ v u Q I rx ry ⟨_, _, rfl, rfl, here _ (.bl _)⟩
  · cases hz; cases rd; cases re
    exact h2 pins s σ H _ _ v u Q I rx ry ⟨_, _, rfl, rfl, here _ (.bl _)⟩
  · cases hz
theorem op_lt_M : OpM X (compareOp .Lt) opLt := cmp_M op_lt op_lt_str
theorem op_le_M : OpM X (compareOp .LtE) opLe := cmp_M op_le op_le_str
theorem op_gt_M : OpM X (compareOp .Gt) opGt := cmp_M op_gt op_gt_str
theorem op_ge_M : OpM X (compareOp .GtE) opGe := cmp_M op_ge op_ge_str
/-- == of data; of two texts, whatever their signs -/
def eqS : D → D → Option Bool
  | .str x, .str y => some (x == y)
  | _, _ => none
def opEq : Op2 := fun s d e => match pyA s d, pyA s e with
  | some x, some y => if SeqAt.shaped x = true ∧ SeqAt.shaped y = true then some (.bl (PyData.eqv x y)) else (eqS d e).map .bl
  | _, _ => none
def opNe : Op2 := fun s d e => match pyA s d, pyA s e with
  | some x, some y => if SeqAt.shaped x = true ∧ SeqAt.shaped y = true then some (.bl (!PyData.eqv x y)) else (eqS d e).map fun b => .bl (!b)
  | _, _ => none
theorem eq_strs {s : Sto} {x y : Str} : opEq s (.str x) (.str y) = some (.bl (x == y)) := by
  simp only [opEq, pyA, asL, pyD, eqS, PyData.eqv, Option.map_some, ite_self]
theorem ne_strs {s : Sto} {x y : Str} : opNe s (.str x) (.str y) = some (.bl (!(x == y))) := by
  simp only [opNe, pyA, asL, pyD, eqS, PyData.eqv, Option.map_some, ite_self]
theorem eqS_some {d e : D} {b : Bool} (h : eqS d e = some b) : ∃ x y, d = .str x ∧ e = .str y ∧ b = (x == y) := by
  unfold eqS at h
  split at h
  · exact ⟨_, _, rfl, rfl, (Option.some.inj h).symm⟩
  · cases h
theorem op_eq_M (hu : X.A.units + 64 < cLine) : OpM X (compareOp .Eq) opEq := by
  intro pins s σ H x y v u Q I rx ry h
  obtain ⟨c, d, e, z, g, rd, re, hz, q⟩ := h
  have here := q H (Ext.refl c H) g
  unfold opEq at hz
  split at hz
  · rename_i a b za zb
    split at hz
    · rename_i hs
      cases hz
      exact op_eqD hu pins s σ H _ _ v u Q I rx ry ⟨a, b, pyA_ok g rd za, pyA_ok g re zb, hs.1, hs.2, here _ (.bl _)⟩
    · obtain ⟨b, e1, e2⟩ := Option.map_eq_some_iff.mp hz
      obtain ⟨x, y, rfl, rfl, rfl⟩ := eqS_some e1
      subst e2
      cases rd; cases re
      exact op_eq pins s σ H _ _ v u Q I rx ry ⟨rfl, by rw [dec_str]; exact here _ (.bl _)⟩
  · cases hz
theorem op_ne_M (hu : X.A.units + 64 < cLine) : OpM X (compareOp .NotEq) opNe := by
  intro pins s σ H x y v u Q I rx ry h
  obtain ⟨c, d, e, z, g, rd, re, hz, q⟩ := h
  have here := q H (Ext.refl c H) g
  unfold opNe at hz
  split at hz
  · rename_i a b za zb
    split at hz
    · rename_i hs
      cases hz
      exact op_neD hu pins s σ H _ _ v u Q I rx ry ⟨a, b, pyA_ok g rd za, pyA_ok g re zb, hs.1, hs.2, here _ (.bl _)⟩
    · obtain ⟨b, e1, e2⟩ := Option.map_eq_some_iff.mp hz
      obtain ⟨x, y, rfl, rfl, rfl⟩ := eqS_some e1
      subst e2
      cases rd; cases re
      exact op_ne pins s σ H _ _ v u Q I rx ry ⟨rfl, by rw [dec_str]; exact here _ (.bl _)⟩
  · cases hz
/-- is None -/
def isNonD : D → Bool
  | .non => true
  | _ => false
theorem isNonD_ok {w : Wd} {H : Hp} {c : Ct} {d : D} {v : V} (r : RelD w H c d v) : decide (v = .non) = isNonD d := by
  cases r <;> simp [isNonD]
def opIs : Op2 := fun _ d e => match e with
  | .non => some (.bl (isNonD d))
  | _ => none
def opIsNot : Op2 := fun _ d e => match e with
  | .non => some (.bl (!isNonD d))
  | _ => none
theorem op_is_M : OpM X (compareOp .Is) opIs := by
  intro pins s σ H x y v u Q I rx ry h
  obtain ⟨c, d, e, z, g, rd, re, hz, q⟩ := h
  have here := q H (Ext.refl c H) g
  unfold opIs at hz
  split at hz
  · cases hz; cases re
    exact op_isN pins s σ H _ _ v u Q I rx ry ⟨rfl, by rw [isNonD_ok rd]; exact here _ (.bl _)⟩
  · cases hz
theorem op_isnot_M : OpM X (compareOp .IsNot) opIsNot := by
  intro pins s σ H x y v u Q I rx ry h
  obtain ⟨c, d, e, z, g, rd, re, hz, q⟩ := h
  have here := q H (Ext.refl c H) g
  unfold opIsNot at hz
  split at hz
  · cases hz; cases re
    exact op_notN pins s σ H _ _ v u Q I rx ry ⟨rfl, by rw [isNonD_ok rd]; exact here _ (.bl _)⟩
  · cases hz
/-- flat things: None, truth values, numbers, texts -/
def flD : D → Option V
  | .non => some .non
  | .bl b => some (.bl b)
  | .int i => some (.int i)
  | .str x => some (.str x)
  | _ => none
def flDs : List D → Option (List V)
  | [] => some []
  | d :: r => match flD d, flDs r with
    | some v, some vs => some (v :: vs)
    | _, _ => none
theorem flD_ok {w : Wd} {H : Hp} {c : Ct} {d : D} {u v : V} (r : RelD w H c d u) (h : flD d = some v) : u = v ∧ flatV v = true := by
  cases r with
  | non => cases h; exact ⟨rfl, rfl⟩
  | bl b => cases h; exact ⟨rfl, rfl⟩
  | int i => cases h; exact ⟨rfl, rfl⟩
  | str x _ => cases h; exact ⟨rfl, rfl⟩
  | _ => cases h
theorem flDs_ok {w : Wd} {H : Hp} {c : Ct} : ∀ {ds : List D} {us vs : List V}, RelDs w H c ds us → flDs ds = some vs → us = vs ∧ vs.all flatV = true
  | [], _, _, .nil, h => by cases h; exact ⟨rfl, rfl⟩
  | d :: r, _, _, .cons rd rs, h => by
    simp only [flDs] at h
    split at h
    · rename_i v vs e1 e2
      cases h
      obtain ⟨rfl, f⟩ := flD_ok rd e1
      obtain ⟨rfl, fs⟩ := flDs_ok rs e2
      exact ⟨rfl, by simp [f, fs]⟩
    · cases h
def inF (s : Sto) (d e : D) : Option Bool := match flD d, (match e with | .tup xs => some xs | e => asL s e) with
  | some v, some xs => (flDs xs).map (inV v)
  | _, _ => none
theorem inF_ok {w : Wd} {H : Hp} {c : Ct} {d e : D} {x y : V} {b : Bool} (g : Good w H c) (rd : RelD w H c d x) (re : RelD w H c e y) (h : inF c.S d e = some b) :
    ∃ p xs, y = .ref p ∧ (SqL w.K H p xs ∨ SqT w.K H p xs) ∧ flatV x = true ∧ xs.all flatV = true ∧ b = inV x xs := by
  unfold inF at h
  split at h
  · rename_i v xs e1 e2
    cases z : flDs xs with
    | none => rw [z] at h; cases h
    | some vs =>
      rw [z] at h
      cases h
      obtain ⟨rfl, f⟩ := flD_ok rd e1
      cases re with
      | @tup a ys us hs rs =>
        cases e2
        obtain ⟨rfl, fs⟩ := flDs_ok rs z
        exact ⟨a, _, rfl, .inr hs.sq, f, fs, rfl⟩
      | @lst a ys us hs rs =>
        obtain ⟨a', us', ea, hq, rs'⟩ := asL_sq g (.lst hs rs) e2
        obtain ⟨rfl, fs⟩ := flDs_ok rs' z
        exact ⟨a', _, ea, .inl hq, f, fs, rfl⟩
      | @ref n a hn =>
        obtain ⟨a', us', ea, hq, rs'⟩ := asL_sq g (.ref hn) e2
        obtain ⟨rfl, fs⟩ := flDs_ok rs' z
        exact ⟨a', _, ea, .inl hq, f, fs, rfl⟩
      | @scr a ns hs =>
        obtain ⟨a', us', ea, hq, rs'⟩ := asL_sq g (.scr hs) e2
        obtain ⟨rfl, fs⟩ := flDs_ok rs' z
        exact ⟨a', _, ea, .inl hq, f, fs, rfl⟩
      | _ => cases e2
  · cases h
/-- in: one sign in a text; flat things in a list or a tuple; data in a list -/
def inB (s : Sto) (d e : D) : Option Bool := match d, e with
  | .str x, .str y => match x.cps.toList with
    | [k] => some (decide (k ∈ y.cps.toList))
    | _ => some (!(Builtin.Str.occurrences y x 0 y.length 1).isEmpty)
  | d, e => match inF s d e with
    | some b => some b
    | none => match asL s e with
      | some xs => match pyDs xs, pyD d with
        | some ds, some y => if SeqAt.shaped y = true ∧ SeqAt.shaped (.list ds) = true then some (ds.any fun z => PyData.eqv z y) else none
        | _, _ => none
      | none => none
def opIn : Op2 := fun s d e => (inB s d e).map .bl
def opNotIn : Op2 := fun s d e => (inB s d e).map fun b => .bl (!b)
theorem one_sign {x : Str} {k : Nat} (h : x.cps.toList = [k]) : x = ⟨#[k]⟩ := by
  obtain ⟨a⟩ := x
  congr 1
  apply Array.ext'
  simpa using h
theorem op_in_M (hu : X.A.units + 65 < cLine) : OpM X (compareOp .In) opIn := by
  intro pins s σ H x y v u Q I rx ry h
  obtain ⟨c, d, e, z, g, rd, re, hz, q⟩ := h
  have here := q H (Ext.refl c H) g
  unfold opIn at hz
  cases hb : inB c.S d e with
  | none => rw [hb] at hz; cases hz
  | some b =>
    rw [hb] at hz
    cases hz
    have fin := here _ (.bl b)
    unfold inB at hb
    split at hb
    · cases rd; cases re
      split at hb
      · rename_i x y k hk
        cases hb
        have e := one_sign hk
        subst e
        exact op_in_sign pins s σ H _ _ v u Q I rx ry ⟨k, _, rfl, rfl, fin⟩
      · cases hb
        exact op_in_str pins s σ H _ _ v u Q I rx ry ⟨_, _, rfl, rfl, fin⟩
    · split at hb
      · rename_i b' zf
        cases hb
        obtain ⟨p, xs, rfl, hq, fx, fs, rfl⟩ := inF_ok g rd re zf
        exact op_in_seq pins s σ H _ _ v u Q I rx ry ⟨p, xs, rfl, hq, fx, fs, fin⟩
      split at hb
      · rename_i xs zx
        split at hb
        · rename_i ds yd zd zy
          split at hb
          · rename_i hs
            cases hb
            obtain ⟨a, vs, rfl, ha, r1⟩ := asL_sq g re zx
            exact op_inD hu pins s σ H _ _ v u Q I rx ry ⟨yd, ds, pyD_ok rd zy, .lst ha (pyDs_ok r1 zd), hs.1, hs.2, fin⟩
          · cases hb
        · cases hb
      · cases hb
theorem op_notIn_M (hu : X.A.units + 65 < cLine) : OpM X (compareOp .NotIn) opNotIn := by
  intro pins s σ H x y v u Q I rx ry h
  obtain ⟨c, d, e, z, g, rd, re, hz, q⟩ := h
  have here := q H (Ext.refl c H) g
  unfold opNotIn at hz
  cases hb : inB c.S d e with
  | none => rw [hb] at hz; cases hz
  | some b =>
    rw [hb] at hz
    cases hz
    have fin := here _ (.bl (!b))
    unfold inB at hb
    split at hb
    · cases rd; cases re
      split at hb
      · rename_i x y k hk
        cases hb
        have e := one_sign hk
        subst e
        exact op_notIn_sign pins s σ H _ _ v u Q I rx ry ⟨k, _, rfl, rfl, fin⟩
      · cases hb
        exact op_notIn_str pins s σ H _ _ v u Q I rx ry ⟨_, _, rfl, rfl, fin⟩
    · split at hb
      · rename_i b' zf
        cases hb
        obtain ⟨p, xs, rfl, hq, fx, fs, rfl⟩ := inF_ok g rd re zf
        exact op_notIn_seq pins s σ H _ _ v u Q I rx ry ⟨p, xs, rfl, hq, fx, fs, fin⟩
      split at hb
      · rename_i xs zx
        split at hb
        · rename_i ds yd zd zy
          split at hb
          · rename_i hs
            cases hb
            obtain ⟨a, vs, rfl, ha, r1⟩ := asL_sq g re zx
            exact op_notInD hu pins s σ H _ _ v u Q I rx ry ⟨yd, ds, pyD_ok rd zy, .lst ha (pyDs_ok r1 zd), hs.1, hs.2, fin⟩
          · cases hb
        · cases hb
      · cases hb
/-- -x -/
def unNeg : Sto → D → Option D := fun _ d => match d with
  | .int i => some (.int (-i))
  | .bl b => some (.int (-(b2n b)))
  | _ => none
theorem gives_neg_bool (b : Bool) : Gives (Builtin.«int.__neg__» ⟨[.bool b], []⟩) (.int (-(b2n b))) := by
  cases b <;> exact .of_eq rfl
theorem un_neg_M : UnR X (unaryOp .USub) (rU1 (Wx X) unNeg) := by
  intro pins s σ H x v Q I rx h
  obtain ⟨c, d, z, g, rd, hz, q⟩ := h
  have here := q H (Ext.refl c H) g
  unfold unNeg at hz
  split at hz
  · cases hz; cases rd
    exact un_neg pins s σ H _ v Q I rx ⟨_, rfl, here _ (.int _)⟩
  · rename_i b
    cases hz; cases rd; cases rx
    exact unaryOp_gives (op := .USub) (T := "bool") rfl rfl PySem.F.slot_bool_neg PySem.F.entry_int_neg (PySem.F.args_int_neg_1 _) (gives_neg_bool b) ⟨.int _, H, I.tok _, ⟨_, rfl⟩, here _ (.int _)⟩
  · cases hz
end
end Mi
end
section
set_option maxRecDepth 100000
set_option maxHeartbeats 1000000
namespace Mi
open PySem L2 PyProof.Rows
theorem RelDs.map_int {w : Wd} {H : Hp} {c : Ct} {ns : List Int} {vs : List V} (h : RelDs w H c (ns.map .int) vs) : vs = ns.map V.int := by
  induction ns generalizing vs with
  | nil => cases h; rfl
  | cons n ns ih => cases h with | cons r t => cases r; rw [ih t]; rfl
theorem RelDs.map_bl {w : Wd} {H : Hp} {c : Ct} {ns : List Bool} {vs : List V} (h : RelDs w H c (ns.map .bl) vs) : vs = ns.map V.bl := by
  induction ns generalizing vs with
  | nil => cases h; rfl
  | cons n ns ih => cases h with | cons r t => cases r; rw [ih t]; rfl
theorem RelDs.map_str {w : Wd} {H : Hp} {c : Ct} {ns : List Str} {vs : List V} (h : RelDs w H c (ns.map .str) vs) : vs = ns.map V.str := by
  induction ns generalizing vs with
  | nil => cases h; rfl
  | cons n ns ih => cases h with | cons r t => cases r; rw [ih t]; rfl
def allBl : List D → Option (List Bool)
  | [] => some []
  | .bl b :: r => (allBl r).map (b :: ·)
  | _ :: _ => none
def allInt : List D → Option (List Int)
  | [] => some []
  | .int b :: r => (allInt r).map (b :: ·)
  | _ :: _ => none
def allStr : List D → Option (List Str)
  | [] => some []
  | .str b :: r => (allStr r).map (b :: ·)
  | _ :: _ => none
theorem allBl_eq : ∀ {xs : List D} {bs : List Bool}, allBl xs = some bs → xs = bs.map .bl
  | [], bs, h => by cases h; rfl
  | d :: r, bs, h => by
    cases d with
    | bl b =>
      simp only [allBl] at h
      cases z : allBl r with
      | none => rw [z] at h; cases h
      | some cs => rw [z] at h; cases h; rw [allBl_eq z]; rfl
    | _ => simp [allBl] at h
theorem allInt_eq : ∀ {xs : List D} {bs : List Int}, allInt xs = some bs → xs = bs.map .int
  | [], bs, h => by cases h; rfl
  | d :: r, bs, h => by
    cases d with
    | int b =>
      simp only [allInt] at h
      cases z : allInt r with
      | none => rw [z] at h; cases h
      | some cs => rw [z] at h; cases h; rw [allInt_eq z]; rfl
    | _ => simp [allInt] at h
theorem allStr_eq : ∀ {xs : List D} {bs : List Str}, allStr xs = some bs → xs = bs.map .str
  | [], bs, h => by cases h; rfl
  | d :: r, bs, h => by
    cases d with
    | str b =>
      simp only [allStr] at h
      cases z : allStr r with
      | none => rw [z] at h; cases h
      | some cs => rw [z] at h; cases h; rw [allStr_eq z]; rfl
    | _ => simp [allStr] at h
theorem allBl_map (bs : List Bool) : allBl (bs.map .bl) = some bs := by
  induction bs with
  | nil => rfl
  | cons b r ih => simp [allBl, ih]
theorem allInt_map (bs : List Int) : allInt (bs.map .int) = some bs := by
  induction bs with
  | nil => rfl
  | cons b r ih => simp [allInt, ih]
theorem allStr_map (bs : List Str) : allStr (bs.map .str) = some bs := by
  induction bs with
  | nil => rfl
  | cons b r ih => simp [allStr, ih]
section
variable {X : Cx} {E : L2.St → XK} {pos : Pos} {a b : Expr} {fa fb fv : ET}
/-! ### len -/
def cbLen : Cb := fun s ds => match ds with
  | [.str x] => some (.int x.length)
  | [.tup xs] => some (.int xs.length)
  | [.scr ns] => some (.int ns.length)
  | [d] => (asL s d).map fun xs => .int xs.length
  | _ => none
theorem cb_len : CbM X (.builtin "len") cbLen := by
  intro pins s σ H xs us Q I r h
  obtain ⟨c, ds, z, g, rd, hz, q⟩ := h
  have here := q H (Ext.refl c H) g
  unfold cbLen at hz
  split at hz
  · cases hz
    cases rd with | cons r1 rn => cases rn; cases r1 with | str x hx => exact call_len pins s σ H _ us Q I r ⟨_, _, rfl, ⟨hx, rfl⟩, here _ (.int _)⟩
  · cases hz
    cases rd with
    | cons r1 rn =>
      cases rn
      obtain ⟨a, vs, rfl, hq, rs⟩ := tup_ok r1
      exact call_len pins s σ H _ us Q I r ⟨_, _, rfl, .inr ⟨vs, hq, rs.length⟩, here _ (.int _)⟩
  · cases hz
    cases rd with
    | cons r1 rn =>
      cases rn
      cases r1 with
      | scr hq => exact call_len pins s σ H _ us Q I r ⟨_, _, rfl, .inl ⟨_, hq.sq, by simp⟩, here _ (.int _)⟩
  · rename_i d _ _ _
    cases rd with
    | cons r1 rn =>
      cases rn
      cases z1 : asL c.S d with
      | none => rw [z1] at hz; cases hz
      | some ys =>
        rw [z1] at hz
        cases hz
        obtain ⟨a, vs, rfl, hq, rs⟩ := asL_sq g r1 z1
        exact call_len pins s σ H _ us Q I r ⟨_, _, rfl, .inl ⟨vs, hq, rs.length⟩, here _ (.int _)⟩
  · cases hz
/-! ### all, any -/
def cbAll : Cb := fun s ds => match ds with
  | [d] => ((asL s d).bind allBl).map fun bs => .bl (bs.all id)
  | _ => none
def cbAny : Cb := fun s ds => match ds with
  | [d] => ((asL s d).bind allBl).map fun bs => .bl (bs.any id)
  | _ => none
theorem cb_all (hc : X.calm = true) : CbM X (.builtin "all") cbAll := by
  intro pins s σ H xs us Q I r h
  obtain ⟨c, ds, z, g, rd, hz, q⟩ := h
  have here := q H (Ext.refl c H) g
  unfold cbAll at hz
  split at hz
  · rename_i d
    cases rd with
    | cons r1 rn =>
      cases rn
      cases z1 : asL c.S d with
      | none => rw [z1] at hz; cases hz
      | some ys =>
        rw [z1] at hz
        cases z2 : allBl ys with
        | none => simp [z2] at hz
        | some bs =>
          simp only [Option.bind_some, z2, Option.map_some, Option.some.injEq] at hz
          subst hz
          have e := allBl_eq z2
          subst e
          obtain ⟨a, vs, rfl, hq, rs⟩ := asL_sq g r1 z1
          have e := rs.map_bl
          subst e
          exact cr_all hc pins s σ H _ us Q I r ⟨a, bs, rfl, hq, here _ (.bl _)⟩
  · cases hz
theorem cb_any (hc : X.calm = true) : CbM X (.builtin "any") cbAny := by
  intro pins s σ H xs us Q I r h
  obtain ⟨c, ds, z, g, rd, hz, q⟩ := h
  have here := q H (Ext.refl c H) g
  unfold cbAny at hz
  split at hz
  · rename_i d
    cases rd with
    | cons r1 rn =>
      cases rn
      cases z1 : asL c.S d with
      | none => rw [z1] at hz; cases hz
      | some ys =>
        rw [z1] at hz
        cases z2 : allBl ys with
        | none => simp [z2] at hz
        | some bs =>
          simp only [Option.bind_some, z2, Option.map_some, Option.some.injEq] at hz
          subst hz
          have e := allBl_eq z2
          subst e
          obtain ⟨a, vs, rfl, hq, rs⟩ := asL_sq g r1 z1
          have e := rs.map_bl
          subst e
          exact cr_any hc pins s σ H _ us Q I r ⟨a, bs, rfl, hq, here _ (.bl _)⟩
  · cases hz
/-! ### abs, max, min, int, str, repr -/
def cbAbs : Cb := fun _ ds => match ds with
  | [.int i] => some (.int (if i < 0 then -i else i))
  | _ => none
theorem cb_abs : CbM X (.builtin "abs") cbAbs := by
  intro pins s σ H xs us Q I r h
  obtain ⟨c, ds, z, g, rd, hz, q⟩ := h
  have here := q H (Ext.refl c H) g
  unfold cbAbs at hz
  split at hz
  · cases hz
    cases rd with | cons r1 rn => cases rn; cases r1; exact call_abs pins s σ H _ us Q I r ⟨_, rfl, here _ (.int _)⟩
  · cases hz
def maxI : List Int → Int
  | [] => 0
  | [x] => x
  | x :: r => if maxI r ≤ x then x else maxI r
theorem maxI_max : ∀ (l : List Int), l ≠ [] → maxI l ∈ l ∧ ∀ y ∈ l, y ≤ maxI l
  | [], h => absurd rfl h
  | [x], _ => by simp [maxI]
  | x :: y :: r, _ => by
    obtain ⟨h1, h2⟩ := maxI_max (y :: r) (by simp)
    rw [maxI]
    split
    · rename_i hx
      refine ⟨by simp, fun z hz => ?_⟩
      rcases List.mem_cons.mp hz with rfl | hz
      · exact Int.le_refl _
      · exact Int.le_trans (h2 z hz) hx
    · rename_i hx
      refine ⟨List.mem_cons_of_mem _ h1, fun z hz => ?_⟩
      rcases List.mem_cons.mp hz with rfl | hz
      · omega
      · exact h2 z hz
    all_goals simp
def cbMax : Cb := fun s ds => match ds with
  | [.int i, .int j] => some (.int (if j > i then j else i))
  | [d] => match (asL s d).bind allInt with
    | some (n :: ns) => some (.int (maxI (n :: ns)))
    | _ => none
  | _ => none
theorem cb_max (hc : X.calm = true) : CbM X (.builtin "max") cbMax := by
  intro pins s σ H xs us Q I r h
  obtain ⟨c, ds, z, g, rd, hz, q⟩ := h
  have here := q H (Ext.refl c H) g
  unfold cbMax at hz
  split at hz
  · cases hz
    cases rd with
    | cons r1 rn => cases r1; cases rn with | cons r2 rn => cases r2; cases rn; exact call_max2 hc pins s σ H _ us Q I r ⟨_, _, rfl, here _ (.int _)⟩
  · rename_i d
    cases rd with
    | cons r1 rn =>
      cases rn
      split at hz
      · rename_i n ns zz
        cases hz
        cases z1 : asL c.S d with
        | none => rw [z1] at zz; cases zz
        | some ys =>
          rw [z1] at zz
          have e := allInt_eq (show allInt ys = some (n :: ns) from zz)
          subst e
          obtain ⟨a, vs, rfl, hq, rs⟩ := asL_sq g r1 z1
          have e := rs.map_int
          subst e
          refine cr_max hc pins s σ H _ us Q I r ⟨a, n :: ns, rfl, hq, by simp, fun m hm hle => ?_⟩
          obtain ⟨h1, h2⟩ := maxI_max (n :: ns) (by simp)
          have : m = maxI (n :: ns) := Int.le_antisymm (h2 m hm) (hle _ h1)
          subst this
          exact here _ (.int _)
      · cases hz
  · cases hz
def cbMin : Cb := fun _ ds => match ds with
  | [.int i, .int j] => some (.int (if j < i then j else i))
  | _ => none
theorem cb_min (hc : X.calm = true) : CbM X (.builtin "min") cbMin := by
  intro pins s σ H xs us Q I r h
  obtain ⟨c, ds, z, g, rd, hz, q⟩ := h
  have here := q H (Ext.refl c H) g
  unfold cbMin at hz
  split at hz
  · cases hz
    cases rd with
    | cons r1 rn => cases r1; cases rn with | cons r2 rn => cases r2; cases rn; exact call_min2 hc pins s σ H _ us Q I r ⟨_, _, rfl, here _ (.int _)⟩
  · cases hz
def cbInt : Cb := fun _ ds => match ds with
  | [.int i] => some (.int i)
  | [.bl k] => some (.int (if k then 1 else 0))
  | _ => none
theorem cb_int : CbM X (.type "int") cbInt := by
  intro pins s σ H xs us Q I r h
  obtain ⟨c, ds, z, g, rd, hz, q⟩ := h
  have here := q H (Ext.refl c H) g
  unfold cbInt at hz
  split at hz
  · cases hz
    cases rd with | cons r1 rn => cases rn; cases r1; exact call_int1 pins s σ H _ us Q I r (.inl ⟨_, rfl, here _ (.int _)⟩)
  · cases hz
    cases rd with | cons r1 rn => cases rn; cases r1; exact call_int1 pins s σ H _ us Q I r (.inr ⟨_, rfl, here _ (.int _)⟩)
  · cases hz
def boolStr (b : Bool) : Str := if b then "True" else "False"
def cbStr : Cb := fun _ ds => match ds with
  | [.int i] => if i.natAbs.log2 < 1920 ∧ (toString i : Str).length ≤ sizeLine then some (.str (toString i)) else none
  | [.bl k] => some (.str (boolStr k))
  | _ => none
theorem boolStr_len (k : Bool) : (boolStr k).length ≤ sizeLine := by cases k <;> decide
theorem cb_str : CbM X (.type "str") cbStr := by
  intro pins s σ H xs us Q I r h
  obtain ⟨c, ds, z, g, rd, hz, q⟩ := h
  have here := q H (Ext.refl c H) g
  unfold cbStr at hz
  split at hz
  · split at hz
    · rename_i hl
      cases hz
      cases rd with | cons r1 rn => cases rn; cases r1; exact call_str_int pins s σ H _ us Q I r ⟨_, rfl, hl.1, here _ (.str _ hl.2)⟩
    · cases hz
  · cases hz
    cases rd with
    | cons r1 rn =>
      cases rn; cases r1
      obtain ⟨u, rfl, rv⟩ := Vals.one r
      cases rv
      exact PySem.P.str_of_bool ⟨.str _, H, I.tok _, ⟨_, rfl⟩, here _ (.str _ (boolStr_len _))⟩
  · cases hz
def cbRepr : Cb := fun _ ds => match ds with
  | [.bl k] => some (.str (boolStr k))
  | _ => none
theorem cb_repr : CbM X (.builtin "repr") cbRepr := by
  intro pins s σ H xs us Q I r h
  obtain ⟨c, ds, z, g, rd, hz, q⟩ := h
  have here := q H (Ext.refl c H) g
  unfold cbRepr at hz
  split at hz
  · cases hz
    cases rd with
    | cons r1 rn =>
      cases rn; cases r1
      obtain ⟨u, rfl, rv⟩ := Vals.one r
      cases rv
      exact PySem.P.repr_of_bool ⟨.str _, H, I.tok _, ⟨_, rfl⟩, here _ (.str _ (boolStr_len _))⟩
  · cases hz
/-! ### tuple, list -/
def cbTuple : Cb := fun s ds => match ds with
  | [.tup xs] => some (.tup xs)
  | [d] => (asL s d).map .tup
  | _ => none
theorem cb_tuple : CbM X (.type "tuple") cbTuple := by
  intro pins s σ H xs us Q I r h
  obtain ⟨c, ds, z, g, rd, hz, q⟩ := h
  have here := q H (Ext.refl c H) g
  unfold cbTuple at hz
  split at hz
  · cases hz
    cases rd with
    | cons r1 rn =>
      cases rn
      obtain ⟨a, vs, rfl, hq, rs⟩ := tup_ok r1
      exact call_tuple_of pins s σ H _ us Q I r ⟨a, vs, rfl, .inr ⟨hq, here _ r1⟩⟩
  · rename_i d _
    cases rd with
    | cons r1 rn =>
      cases rn
      cases z1 : asL c.S d with
      | none => rw [z1] at hz; cases hz
      | some ys =>
        rw [z1] at hz
        cases hz
        obtain ⟨a, vs, rfl, hq, rs⟩ := asL_sq g r1 z1
        exact call_tuple_of pins s σ H _ us Q I r ⟨a, vs, rfl, .inl ⟨hq, fun p hp => q _ (Ext.fresh g hp) (g.fresh hp) _ (ft_new g hp rs)⟩⟩
  · cases hz
def cbList : Cb := fun s ds => match ds with
  | [.tup xs] => some (.lst xs)
  | [d] => (asL s d).map .lst
  | _ => none
theorem cb_list : CbM X (.type "list") cbList := by
  intro pins s σ H xs us Q I r h
  obtain ⟨c, ds, z, g, rd, hz, q⟩ := h
  have here := q H (Ext.refl c H) g
  unfold cbList at hz
  split at hz
  · cases hz
    cases rd with
    | cons r1 rn =>
      cases rn
      obtain ⟨a, vs, rfl, hq, rs⟩ := tup_ok r1
      exact call_list_of pins s σ H _ us Q I r ⟨a, vs, rfl, .inr hq, fun p hp => q _ (Ext.fresh g hp) (g.fresh hp) _ (fz_new g hp rs)⟩
  · rename_i d _
    cases rd with
    | cons r1 rn =>
      cases rn
      cases z1 : asL c.S d with
      | none => rw [z1] at hz; cases hz
      | some ys =>
        rw [z1] at hz
        cases hz
        obtain ⟨a, vs, rfl, hq, rs⟩ := asL_sq g r1 z1
        exact call_list_of pins s σ H _ us Q I r ⟨a, vs, rfl, .inl hq, fun p hp => q _ (Ext.fresh g hp) (g.fresh hp) _ (fz_new g hp rs)⟩
  · cases hz
/-! ### isinstance of a built-in class -/
def tyName (s : Sto) : D → Option String
  | .non => some "NoneType"
  | .bl _ => some "bool"
  | .int _ => some "int"
  | .str _ => some "str"
  | .tup _ => some "tuple"
  | .lst _ => some "list"
  | .dic _ => some "dict"
  | .ref n => match s[n]? with
    | some (.lst _ _) => some "list"
    | some (.dic _ _) => some "dict"
    | _ => none
  | _ => none
theorem tyX_rd {K : PySem.W.Frag} {H : Hp} {a : Addr} {kvs : List (Key × V)} (h : Rd H a (.dK kvs)) : TyX K H (.ref a) (.type "dict") := by
  rcases h with h | ⟨o, h⟩
  · exact .base (.dK h)
  · exact .fDict h
theorem tyName_ok {w : Wd} {H : Hp} {c : Ct} {d : D} {v : V} {n : String} (g : Good w H c) (r : RelD w H c d v) (h : tyName c.S d = some n) : TyX w.K H v (.type n) := by
  cases r with
  | non => cases h; exact .base .non
  | bl b => cases h; exact .base (.bl b)
  | int i => cases h; exact .base (.int i)
  | str x _ => cases h; exact .base (.str x)
  | tup hs _ =>
    cases h
    rcases hs with ⟨hs | ⟨o, hs⟩, _⟩ | ⟨o, its, n, hk, hc, _⟩
    · exact .base (.tup hs)
    · exact .fTuple hs
    · exact .kTuple hk hc
  | lst hs _ => cases h; exact .base (.lst hs.1)
  | dic hs _ _ => cases h; exact tyX_rd hs
  | ins => simp [tyName] at h
  | scr => simp [tyName] at h
  | cls => simp [tyName] at h
  | exc => simp [tyName] at h
  | fn => simp [tyName] at h
  | @ref m a hn =>
    simp only [tyName] at h
    cases e : c.S[m]? with
    | none => rw [e] at h; cases h
    | some o =>
      rw [e] at h
      obtain ⟨ho, q, ro⟩ := g.obj m a o hn e
      cases ro with
      | lst rs => cases h; exact .base (.lst q)
      | dic rs h1 h2 =>
        cases h
        exact tyX_rd (rd_of_unf q h1 rfl)
      | ins => cases h
      | tbl => cases h
def isiD (T : String) (s : Sto) (d : D) : Option D := match tyName s d with
  | some n => (kitB n T).map .bl
  | none => none
theorem me_isi {T : String} {x y : Str} {p p2 : Pos} (hg : Gl X x) (hm : X.mg x = none) (hv : bootBuiltins x = some (.builtin "isinstance")) (hg2 : Gl X y) (hm2 : X.mg y = none) (hv2 : bootBuiltins y = some (.type T)) (ha : ME X E a fa)
    (hn : x ≠ "__name__" := by decide) (hdb : (x == ("__debug__" : Str)) = false := by decide) (hn2 : y ≠ "__name__" := by decide) (hdb2 : (y == ("__debug__" : Str)) = false := by decide)
    (he : starEach [a, .Name y p2] X.env = (false, eval a X.env) :: starEach [.Name y p2] X.env := by rfl) (he2 : starEach [.Name y p2] X.env = (false, eval (.Name y p2) X.env) :: starEach [] X.env := by rfl)
    (hpl : (backTo pos (starEach [.Name y p2] X.env)).any (·.1) = false := by rfl) : ME X E (.Call (.Name x p) [a, .Name y p2] [] pos) (mUn (isiD T) fa) := by
  refine PE.imp (pe_callB call_isi hg hm hv (pa_cons ha (pa_cons (pe_bltn (v := .ty T) hg2 hm2 hv2 rfl hn2 hdb2) pa_nil he2) he) hn hdb he hpl) fun st H Q ⟨c, env, g, re, q⟩ => ?_
  refine ⟨c, env, g, re, (Fin.bind q).mono fun d c1 H1 e1 g1 q1 v rv => ?_⟩
  show rIsi X.K [v, .ty T] H1 Q
  cases z : tyName c1.S d with
  | none => simp only [isiD, z] at q1; exact q1.elim
  | some n =>
    cases z2 : kitB n T with
    | none => simp only [isiD, z, z2] at q1; exact q1.elim
    | some b =>
      simp only [isiD, z, z2] at q1
      exact ⟨v, .ty T, .type n, .type T, b, rfl, .ty T, tyName_ok g1 rv z, kit_ty z2, q1.here g1 rfl _ (.bl b)⟩
/-! ### subscripts -/
def opIx : Op2 := fun s d e => match e with
  | .int i => match d with
    | .tup xs => atI xs i
    | .str x => (atI x.cps.toList i).map fun k => .str ⟨#[k]⟩
    | .scr ns => (atI ns i).map .int
    | d => (asL s d).bind fun xs => atI xs i
  | _ => none
theorem RelDs.at {w : Wd} {H : Hp} {c : Ct} {ds : List D} {vs : List V} {i : Int} {d : D} (h : RelDs w H c ds vs) (e : atI ds i = some d) : ∃ v, atI vs i = some v ∧ RelD w H c d v := by
  unfold atI at e ⊢
  rw [← h.length]
  cases z : ixN ds.length i with
  | none => rw [z] at e; cases e
  | some j => rw [z] at e; exact h.get e
theorem ix_M : IxR X (rO (Wx X) opIx) := by
  intro value slice pins s σ H x y v u Q I rx ry h hs
  obtain ⟨c, d, e, z, g, rd, re, hz, q⟩ := h
  have here := q H (Ext.refl c H) g
  unfold opIx at hz
  split at hz
  · cases re
    split at hz
    · obtain ⟨a, vs, rfl, hq, rs⟩ := tup_ok rd
      obtain ⟨v', hv, rv⟩ := rs.at hz
      exact ix_seq value slice pins s σ H _ _ v u Q I rx ry (.inr (.inl ⟨a, vs, _, v', rfl, rfl, hq, hv, here _ rv⟩)) hs
    · rename_i x
      cases rd with
      | str _ hx =>
        cases z1 : atI x.cps.toList _ with
        | none => rw [z1] at hz; cases hz
        | some k =>
          rw [z1] at hz
          cases hz
          exact ix_seq value slice pins s σ H _ _ v u Q I rx ry (.inr (.inr ⟨x, _, k, rfl, rfl, hx, z1, here _ (.str _ (show 1 ≤ sizeLine by decide))⟩)) hs
    · rename_i ns
      cases rd with
      | scr hq =>
        cases z1 : atI ns _ with
        | none => rw [z1] at hz; cases hz
        | some k =>
          rw [z1] at hz
          cases hz
          refine ix_seq value slice pins s σ H _ _ v u Q I rx ry (.inl ⟨_, _, _, .int k, rfl, rfl, hq.sq, ?_, here _ (.int _)⟩) hs
          unfold atI at z1 ⊢
          rw [List.length_map]
          cases z2 : ixN ns.length _ with
          | none => rw [z2] at z1; cases z1
          | some j =>
            rw [z2] at z1
            show (ns.map V.int)[j]? = some (.int k)
            rw [List.getElem?_map, show ns[j]? = some k from z1]; rfl
    · cases z1 : asL c.S d with
      | none => rw [z1] at hz; cases hz
      | some ys =>
        rw [z1] at hz
        obtain ⟨a, vs, rfl, hq, rs⟩ := asL_sq g rd z1
        obtain ⟨v', hv, rv⟩ := rs.at hz
        exact ix_seq value slice pins s σ H _ _ v u Q I rx ry (.inl ⟨a, vs, _, v', rfl, rfl, hq, hv, here _ rv⟩) hs
  · cases hz
/-! ### slices -/
def cutD (xs : List D) (lo hi : Option Int) : List D := (xs.drop (HT.sIx xs.length 0 lo)).take (HT.sIx xs.length xs.length hi - HT.sIx xs.length 0 lo)
def slD (s : Sto) (d : D) (lo hi : Option Int) : Option D := match d with
  | .tup xs => some (.tup (cutD xs lo hi))
  | .str x => some (.str (cutS x lo hi))
  | d => (asL s d).map fun xs => .lst (cutD xs lo hi)
theorem RelDs.cut {w : Wd} {H : Hp} {c : Ct} {ds : List D} {vs : List V} (h : RelDs w H c ds vs) (lo hi : Option Int) : RelDs w H c (cutD ds lo hi) (cutV vs lo hi) := by
  unfold cutD cutV
  rw [h.length]
  exact (h.drop _).take _
theorem cutS_le (x : Str) (lo hi : Option Int) : (cutS x lo hi).length ≤ x.length := cutS_length x lo hi
theorem sl_M : SlR X (rS1 (Wx X) slD) := by
  intro pins s σ H x v vl vu lo hi sl Q I rx hs pl pu h
  obtain ⟨c, d, z, g, rd, hz, q⟩ := h
  have here := q H (Ext.refl c H) g
  unfold slD at hz
  split at hz
  · cases hz
    obtain ⟨a, vs, rfl, hq, rs⟩ := tup_ok rd
    refine sl_tupA pins s σ H _ v vl vu lo hi sl Q I rx hs pl pu ⟨a, vs, rfl, hq, fun hw => ?_, fun _ p hp => q _ (Ext.fresh g hp) (g.fresh hp) _ (ft_new g hp (rs.cut lo hi))⟩
    refine here _ ?_
    rename_i xs
    have e : cutD xs lo hi = xs := by
      unfold cutD
      rw [rs.length, hw.1, hw.2, List.drop_zero, Nat.sub_zero, ← rs.length, List.take_length]
    rw [e]
    exact rd
  · cases hz
    cases rd with
    | str _ hx => exact sl_str pins s σ H _ v vl vu lo hi sl Q I rx hs pl pu ⟨_, rfl, hx, here _ (.str _ (Nat.le_trans (cutS_le _ lo hi) hx))⟩
  · cases z1 : asL c.S d with
    | none => rw [z1] at hz; cases hz
    | some ys =>
      rw [z1] at hz
      cases hz
      obtain ⟨a, vs, rfl, hq, rs⟩ := asL_sq g rd z1
      exact sl_list pins s σ H _ v vl vu lo hi sl Q I rx hs pl pu ⟨a, vs, rfl, hq, fun p hp => q _ (Ext.fresh g hp) (g.fresh hp) _ (fz_new g hp (rs.cut lo hi))⟩
/-! ### xs[i] = e -/
def sSetIx (fv fo fi : ET) : SM := fun env s => (fv env s).st env fun v s1 => (fo env s1).st env fun o s2 => (fi env s2).st env fun i s3 => match o, i with
  | .ref n, .int k => match s3[n]? with
    | some (.lst true xs) => match ixN xs.length k with
      | some j => .fl (.nx env) (s3.set n (.lst true (xs.set j v)))
      | none => .no
    | _ => .no
  | _, _ => .no
theorem ms_setIx {o i e : Expr} {fo fi : ET} {ipos : Pos} (he : ME X E e fv) (ho : ME X E o fo) (hi : ME X E i fi)
    (ha : ∀ v, assign (.Subscript o i ipos) X.env v = (do
      let ov ← holding [v] (eval o X.env)
      let iv ← holding [v, ov] (eval i X.env)
      standAt ipos
      holding [v, ov, iv] (setItem ov iv v)
      release [v, ov, iv] []) := by intro _; rfl)
    (hs : swapsWithSole [.Subscript o i ipos] e pos.line X.env = pure false := by rfl) (hw : swappedStores [.Subscript o i ipos] e X.env = pure none := by rfl)
    (h1 : (assignEach [.Subscript o i ipos] X.env).map (·.2) = [assign (.Subscript o i ipos) X.env] := by rfl) : MS X E (.Assign [.Subscript o i ipos] e pos) (sSetIx fv fo fi) :=
  PS.imp (ps_asg he (pg_sub ho hi set_list ha) hs hw h1) fun En st H ⟨c, env, g, re, q⟩ => by
    refine ⟨c, env, g, re, (FinS.of_st re q).mono fun d c1 H1 e1 g1 q1 v rv => ?_⟩
    refine ⟨c1, env, g1, re.ext e1, (FinS.of_st (re.ext e1) q1).mono fun d2 c2 H2 e2 g2 q2 v2 rv2 => ?_⟩
    refine ⟨c2, env, g2, (re.ext e1).ext e2, (FinS.of_st ((re.ext e1).ext e2) q2).mono fun d3 c3 H3 e3 g3 q3 v3 rv3 => ?_⟩
    split at q3
    · rename_i n k
      split at q3
      · rename_i xs zx
        split at q3
        · rename_i j zj
          cases rv3
          have r2 := rv2.ext e3
          cases r2 with
          | @ref _ a hn =>
            obtain ⟨ho, hq, ro⟩ := g3.obj n a _ hn zx
            cases ro with
            | @lst _ _ vs rs =>
              refine ⟨a, vs, k, j, rfl, rfl, hq, by rw [← rs.length]; exact zj, ?_⟩
              have ex : Ext c3 H3 (c3.put n (.lst true (xs.set j d))) (upd H3 a (.lst (vs.set j v))) := Ext.wrote g3 hn zx rfl
              exact q3 (c3.put n (.lst true (xs.set j d))) _ ex (g3.wrote hn zx rfl (.lst ((rs.set ((rv.ext e2).ext e3)).ext ex))) rfl st ((((re.ext e1).ext e2).ext e3).ext ex)
        · exact q3.elim
      · exact q3.elim
    · exact q3.elim
/-! ### texts' methods -/
def mbUpper : Mb := fun _ d ds => match d, ds with
  | .str x, [] => if x.length ≤ 5592405 ∧ (Txt.upper x).length ≤ sizeLine then some (.str (Txt.upper x)) else none
  | _, _ => none
theorem mb_upper : MbM X "str.upper" mbUpper := by
  intro pins s σ H x xs v us Q I rx rs h
  obtain ⟨c, d, ds, z, g, rd, rds, hz, q⟩ := h
  have here := q H (Ext.refl c H) g
  unfold mbUpper at hz
  split at hz
  · split at hz
    · rename_i hl
      cases hz; cases rd; cases rds
      exact mt_upper pins s σ H _ _ v us Q I rx rs ⟨_, rfl, rfl, hl.1, here _ (.str _ hl.2)⟩
    · cases hz
  · cases hz
def mbJoin : Mb := fun s d ds => match d, ds with
  | .str x, [e] => match (asL s e).bind allStr with
    | some ys => if (ys.map (·.length)).sum + ys.length * x.length ≤ 16777216 ∧ (Txt.join x ys).length ≤ sizeLine then some (.str (Txt.join x ys)) else none
    | none => none
  | _, _ => none
theorem mb_join : MbM X "str.join" mbJoin := by
  intro pins s σ H x xs v us Q I rx rs h
  obtain ⟨c, d, ds, z, g, rd, rds, hz, q⟩ := h
  have here := q H (Ext.refl c H) g
  unfold mbJoin at hz
  split at hz
  · rename_i x e
    split at hz
    · rename_i ys zz
      split at hz
      · rename_i hl
        cases hz; cases rd
        cases rds with
        | cons r1 rn =>
          cases rn
          cases z1 : asL c.S e with
          | none => rw [z1] at zz; cases zz
          | some zs =>
            rw [z1] at zz
            have e := allStr_eq (show allStr zs = some ys from zz)
            subst e
            obtain ⟨a, vs, rfl, hq, rs'⟩ := asL_sq g r1 z1
            have e := rs'.map_str
            subst e
            exact mt_join pins s σ H _ _ v us Q I rx rs ⟨x, a, ys, rfl, rfl, .inl hq, hl.1, here _ (.str _ hl.2)⟩
      · cases hz
    · cases hz
  · cases hz
end
end Mi
end
section
set_option maxRecDepth 100000
set_option maxHeartbeats 1000000
namespace Mi
open PySem L2 PyProof.Rows
theorem hu65 {k : Nat} {A : Around} (r : RoomG k A) : A.units + 65 < cLine := by have := r.un; omega
section
variable {P : Program} {w : World} {K : PySem.W.Frag} {mg : Str → Option Value} {base : Heap} {k : Nat} {f : Addr} {fd : FuncData} {ps : List Str}
theorem fn_none : FnG P w K mg base CX0 k f fd ps (spM ⟨K, mg⟩ (fun _ _ => .no)) :=
  ⟨fun vs H Q E ⟨c, ds, g, r, q⟩ => q.elim, fun A outer s H args us vs Q E _ _ _ _ ⟨c, ds, g, r, q⟩ => q.elim⟩
end
section
variable {X : Cx} {E : L2.St → XK} {pos : Pos}
/-- {} that stays as it is -/
def mDic0 : ET := fun _ s => .ok (.dic []) s
theorem me_dic0 : ME X E (.Dict [] [] pos) mDic0 := PE.imp pe_dnewK fun st H Q ⟨c, env, g, re, q⟩ p hp => q.new g rfl hp _ (.dic (vs := []) (.inl upd_same) (nlv_of g hp) .nil)
/-- a, b, c = x, y, z -/
def sPar3 (i j l : Nat) (fs : AT) : SM := fun env s => (fs env s).lt env fun ds s1 => match ds with
  | [d, e, f] => .fl (.nx (((env.set i (some d)).set j (some e)).set l (some f))) s1
  | _ => .no
theorem ms_par3 {i j l : Nat} {x y z : Str} {a b c' : Expr} {fs : AT} {px py pz pt : Pos} {kt k2 pt2} (hc : X.calm = true) (hN : X.N.Nodup) (hi : X.N[i]? = some x) (hj : X.N[j]? = some y) (hl : X.N[l]? = some z) (hij : i ≠ j) (hil : i ≠ l) (hjl : j ≠ l)
    (hx : X.env.scope.names.lookup x = some .local) (hy : X.env.scope.names.lookup y = some .local) (hz : X.env.scope.names.lookup z = some .local) (ha : MA X E [a, b, c'] fs)
    (hw : swappedStores [.Tuple [.Name x px, .Name y py, .Name z pz] kt pt] (.Tuple [a, b, c'] k2 pt2) X.env = pure (some [x, y, z]) := by rfl) :
    MS X E (.Assign [.Tuple [.Name x px, .Name y py, .Name z pz] kt pt] (.Tuple [a, b, c'] k2 pt2) pos) (sPar3 i j l fs) := PS.imp (ps_par3 hc hN hi hj hl hij hil hjl hx hy hz ha hw) fun En st H ⟨c, env, gd, re, q⟩ => by
  refine ⟨c, env, gd, re, (FinS.of_lt re q).mono fun ds c1 H1 e1 g1 q1 vs rvs => ?_⟩
  split at q1
  · cases rvs with
    | cons rd rn =>
      cases rn with
      | cons rd2 rn =>
        cases rn with
        | cons rd3 rn =>
          cases rn
          exact ⟨_, _, _, rfl, q1 c1 H1 (Ext.refl _ _) g1 rfl _ ((((re.ext e1).set rd).set rd2).set rd3)⟩
  · exact q1.elim
end
end Mi
end
section
set_option maxRecDepth 100000
set_option maxHeartbeats 1000000
namespace Mi
open PySem L2 PyProof.Rows
/-! ### repr of data -/
def keyP : Key → PyData
  | .inl i => .int i
  | .inr x => .str x
/-- scalars -/
def pyF : D → Option PyData
  | .non => some .none
  | .bl b => some (.bool b)
  | .int i => some (.int i)
  | .str x => some (.str x)
  | _ => none
def pyFk : List (Key × D) → Option (List (PyData × PyData))
  | [] => some []
  | kv :: r => match pyF kv.2, pyFk r with
    | some x, some xs => some ((keyP kv.1, x) :: xs)
    | _, _ => none
mutual
/-- data; a dict holds scalars -/
def pyN : D → Option PyData
  | .non => some .none
  | .bl b => some (.bool b)
  | .int i => some (.int i)
  | .str x => some (.str x)
  | .tup xs => match pyNs xs with
    | some ds => some (.tuple ds)
    | none => none
  | .lst xs => match pyNs xs with
    | some ds => some (.list ds)
    | none => none
  | .dic kvs => match pyFk kvs with
    | some ds => some (.dict ds)
    | none => none
  | _ => none
def pyNs : List D → Option (List PyData)
  | [] => some []
  | d :: r => match pyN d, pyNs r with
    | some x, some xs => some (x :: xs)
    | _, _ => none
end
section
variable {X : Cx} {pins : List (Addr × Obj)} {σ : L2.St} {H : Hp} {s : Shared} {c : Ct}
theorem flat_reads {d : D} {v : V} {u : Value} {x : PyData} (r : RelD (Wx X) H c d v) (e : pyF d = some x) (rv : RelV v u) : Reads s.heap u x [] := by
  cases d with
  | non => cases e; cases r; cases rv; exact .none
  | bl b => cases e; cases r; cases rv; exact .bool b
  | int i => cases e; cases r; obtain ⟨t, rfl⟩ := rv; exact .int i t
  | str y => cases e; cases r; obtain ⟨t, rfl⟩ := rv; exact .str y t
  | _ => cases e
theorem key_reads {k : Key} {u : Value} (h : (mixKind X.prog X.w).is k u = true) : Reads s.heap u (keyP k) [] := by
  obtain ⟨i, t, rfl, rfl⟩ | ⟨x, t, rfl, rfl⟩ := keyIs_shape (k := k) (v := u) h
  · exact .int i t
  · exact .str x t
theorem flatK_reads : ∀ {kvs : List (Key × D)} {vs : List V} {ds : List (PyData × PyData)} {us : List (Key × Value)} {es : List DictEntry}, RelDs (Wx X) H c (kvs.map (·.2)) vs → pyFk kvs = some ds → KV ((kvs.map (·.1)).zip vs) us → Pairs (mixKind X.prog X.w) es us →
    ReadsAll s.heap (es.map (·.key)) (ds.map (·.1)) [] ∧ ReadsAll s.heap (es.map (·.val)) (ds.map (·.2)) []
  | [], _, _, _, _, r, e, kv, p => by
    cases r
    cases e
    cases kv
    cases p
    exact ⟨.nil, .nil⟩
  | kv0 :: kvs, _, _, _, _, r, e, kv, p => by
    rw [List.map_cons] at r
    cases r with
    | cons r1 r2 =>
      rw [List.map_cons, List.zip_cons_cons] at kv
      cases kv with
      | cons h1 h2 =>
        cases p with
        | cons p1 p2 p3 =>
          simp only [pyFk] at e
          split at e
          · rename_i x xs e1 e2
            cases e
            obtain ⟨q1, q2⟩ := flatK_reads r2 e2 h2 p3
            have k1 := key_reads (s := s) p1
            rw [← h1.1] at k1
            have v1 := flat_reads (s := s) r1 e1 (by have := h1.2; rw [← p2] at this; exact this)
            exact ⟨.cons (as := []) (bs := []) k1 q1, .cons (as := []) (bs := []) v1 q2⟩
          · cases e
mutual
theorem pyN_reads (I : L2.Inv X pins σ H s) (sm : SmOk H c) : ∀ {d : D} {v : V} {u : Value} {x : PyData}, RelD (Wx X) H c d v → pyN d = some x → RelV v u → ∃ as, Reads s.heap u x as ∧ sysModules ∉ as
  | _, _, _, _, .non, e, rv => by cases e; cases rv; exact ⟨[], .none, by simp⟩
  | _, _, _, _, .bl b, e, rv => by cases e; cases rv; exact ⟨[], .bool b, by simp⟩
  | _, _, _, _, .int i, e, rv => by cases e; obtain ⟨t, rfl⟩ := rv; exact ⟨[], .int i t, by simp⟩
  | _, _, _, _, .str y _, e, rv => by cases e; obtain ⟨t, rfl⟩ := rv; exact ⟨[], .str y t, by simp⟩
  | _, _, _, _, @RelD.tup _ _ _ a xs vs hs rs, e, rv => by
    simp only [pyN] at e
    split at e
    · rename_i ds e1
      cases e
      cases rv
      obtain ⟨its, ri, ⟨o, ho, hc, n, hd⟩, _⟩ := I.tuple (FzT.sq hs)
      obtain ⟨as, hr, hn⟩ := pyNs_reads I sm rs e1 ri
      exact ⟨as, .tuple ho hc hd hr, hn⟩
    · cases e
  | _, _, _, _, @RelD.dic _ _ _ a kvs vs hs nl rs, e, rv => by
    simp only [pyN] at e
    split at e
    · rename_i ds e1
      cases e
      cases rv
      obtain ⟨z, hS, us, kv, o, es, ep, ho, hc, hd, _, pr, _⟩ := dk_rd I.hok hs
      obtain ⟨q1, q2⟩ := flatK_reads (s := s) rs e1 kv pr
      exact ⟨_, .dict ho hc.1 hd q1 q2, by
        have : sysModules ≠ a := fun e => by rw [e] at hS; simp at hS
        simpa using this⟩
    · cases e
  | _, _, _, _, @RelD.lst _ _ _ a xs vs hs rs, e, rv => by
    simp only [pyN] at e
    split at e
    · rename_i ds e1
      cases e
      cases rv
      obtain ⟨its, ri, pl, _⟩ := I.list (FzL.sq hs)
      obtain ⟨o, ho, hc, n, hd⟩ := pl.isList
      obtain ⟨as, hr, hn⟩ := pyNs_reads I sm rs e1 ri
      refine ⟨a :: as, .list ho hc hd hr, fun z => ?_⟩
      rcases List.mem_cons.mp z with z | z
      · obtain ⟨o, P, h1, _⟩ := sm
        rw [z, hs.1] at h1
        cases h1
      · exact hn z
    · cases e
  | _, _, _, _, .ins .., e, _ => by cases e
  | _, _, _, _, .ref _, e, _ => by cases e
  | _, _, _, _, .scr _, e, _ => by cases e
  | _, _, _, _, .cls _, e, _ => by cases e
theorem pyNs_reads (I : L2.Inv X pins σ H s) (sm : SmOk H c) : ∀ {ds : List D} {vs : List V} {us : List Value} {xs : List PyData}, RelDs (Wx X) H c ds vs → pyNs ds = some xs → Vals vs us → ∃ as, ReadsAll s.heap us xs as ∧ sysModules ∉ as
  | _, _, _, _, .nil, e, rv => by cases e; cases rv; exact ⟨[], .nil, by simp⟩
  | _, _, _, _, .cons r1 r2, e, rv => by
    simp only [pyNs] at e
    split at e
    · rename_i x xs e1 e2
      cases e
      cases rv with
      | cons v1 v2 =>
        obtain ⟨as, q1, n1⟩ := pyN_reads I sm r1 e1 v1
        obtain ⟨bs, q2, n2⟩ := pyNs_reads I sm r2 e2 v2
        exact ⟨as ++ bs, .cons q1 q2, fun z => (List.mem_append.mp z).elim n1 n2⟩
    · cases e
end
end
def shD (d : D) : Option PyData := match pyD d with
  | some x => some x
  | none => pyN d
def cbShow : Cb := fun _ ds => match ds with
  | [d] => match shD d with
    | some x => if x.showable = true ∧ x.depth ≤ 60 ∧ x.shown.length ≤ sizeLine then some (.str x.shown) else none
    | none => none
  | _ => none
mutual
theorem dp_nodict {K : PySem.W.Frag} {H : Hp} : ∀ {v : V} {x : PyData}, Dp K H v x → x.hasDict = false
  | _, _, .non => rfl
  | _, _, .bl b => rfl
  | _, _, .int i => rfl
  | _, _, .str x => rfl
  | _, _, .lst _ h => by simp only [PyData.hasDict]; exact dps_nodict h
  | _, _, .tup _ h => by simp only [PyData.hasDict]; exact dps_nodict h
theorem dps_nodict {K : PySem.W.Frag} {H : Hp} : ∀ {vs : List V} {xs : List PyData}, DpAll K H vs xs → PyData.hasDictAll xs = false
  | _, _, .nil => rfl
  | _, _, .cons h t => by simp only [PyData.hasDictAll, dp_nodict h, dps_nodict t, Bool.or_false]
end
theorem shD_reads {X : Cx} {pins : List (Addr × Obj)} {σ : L2.St} {H : Hp} {s : Shared} {c : Ct} (I : L2.Inv X pins σ H s) (sm : SmOk H c) {d : D} {v : V} {u : Value} {x : PyData} (r : RelD (Wx X) H c d v) (e : shD d = some x) (rv : RelV v u) :
    ∃ as, Reads s.heap u x as ∧ (x.hasDict = true → sysModules ∉ as) := by
  unfold shD at e
  split at e
  · rename_i y z
    cases e
    have dp := pyD_ok r z
    obtain ⟨as, h⟩ := Dp.reads I x v u dp rv
    exact ⟨as, h, fun z => by rw [dp_nodict dp] at z; cases z⟩
  · obtain ⟨as, h, n⟩ := pyN_reads I sm r e rv
    exact ⟨as, h, fun _ => n⟩
theorem cb_show {X : Cx} {k : Nat} (hr : RoomG k X.A) : CbM X (.builtin "repr") cbShow := by
  intro pins s σ H xs us Q I r h
  obtain ⟨c, ds, z, g, rd, hz, q⟩ := h
  have here := q H (Ext.refl c H) g
  unfold cbShow at hz
  split at hz
  · rename_i d
    split at hz
    · rename_i x e
      split at hz
      · rename_i cond
        cases hz
        cases rd with
        | cons r1 rn =>
          cases rn
          obtain ⟨u, rfl, rv⟩ := Vals.one r
          have fin := here _ (.str _ cond.2.2)
          obtain ⟨as, rd, hs⟩ := shD_reads I g.sm r1 e rv
          have un := hr.un
          cases u with
          | ref a =>
            refine repr_of_reads' rd cond.1 hs hr.gd (by have := cond.2.1; omega) (fun _ _ y => y) (fun h' u tk hk => ⟨.str _, H, I.kept hk, ⟨u, rfl⟩, fin⟩) cond.2.2
          | none => cases rd; exact PySem.P.repr_of_none ⟨.str _, H, I.tok _, ⟨_, rfl⟩, fin⟩
          | bool b => cases rd; exact PySem.P.repr_of_bool ⟨.str _, H, I.tok _, ⟨_, rfl⟩, fin⟩
          | int i t => cases rd; exact PySem.P.repr_of_int (by simpa [PyData.showable] using cond.1) ⟨.str _, H, I.tok _, ⟨_, rfl⟩, fin⟩
          | str y t => cases rd; exact PySem.P.repr_of_str ⟨.str _, H, I.tok _, ⟨_, rfl⟩, fin⟩ cond.2.2
          | _ => cases rd
      · cases hz
    · cases hz
  · cases hz
end Mi
end
section
set_option maxRecDepth 100000
set_option maxHeartbeats 1000000
namespace Mi
open PySem L2 PyProof.Rows
/-! ### max(xs, default=i) -/
def maxDf (i : Int) (s : Sto) (d : D) : Option D := match (asL s d).bind allInt with
  | some [] => some (.int i)
  | some (n :: ns) => some (.int (maxI (n :: ns)))
  | none => none
theorem foldl_max : ∀ (ns : List Int) (n : Int), (ns.foldl max n ∈ n :: ns) ∧ ∀ y ∈ n :: ns, y ≤ ns.foldl max n
  | [], n => ⟨by simp, by simp⟩
  | m :: r, n => by
    obtain ⟨h1, h2⟩ := foldl_max r (max n m)
    rw [List.foldl_cons]
    refine ⟨?_, fun y hy => ?_⟩
    · rcases List.mem_cons.mp h1 with h | h
      · rw [h]
        rcases Int.le_total n m with z | z
        · rw [Int.max_eq_right z]; simp
        · rw [Int.max_eq_left z]; simp
      · exact List.mem_cons_of_mem _ (List.mem_cons_of_mem _ h)
    · have z := h2 (max n m) List.mem_cons_self
      rcases List.mem_cons.mp hy with rfl | hy
      · exact Int.le_trans (Int.le_max_left _ _) z
      · rcases List.mem_cons.mp hy with rfl | hy
        · exact Int.le_trans (Int.le_max_right _ _) z
        · exact h2 y (List.mem_cons_of_mem _ hy)
theorem foldl_maxI (n : Int) (ns : List Int) : ns.foldl max n = maxI (n :: ns) := by
  obtain ⟨h1, h2⟩ := foldl_max ns n
  obtain ⟨g1, g2⟩ := maxI_max (n :: ns) (by simp)
  exact Int.le_antisymm (g2 _ h1) (h2 _ g1)
def rMx (K : PySem.W.Frag) (i : Int) : List V → List V → Hp → VK → Prop := fun vs zs H Q => ∃ (a : Addr) (ns : List Int), vs = [.ref a] ∧ zs = [.int i] ∧ SqL K H a (ns.map V.int) ∧ Q (.int (match ns with | [] => i | n :: r => maxI (n :: r))) H
theorem ints_reads {h : Heap} : ∀ {ns : List Int} {us : List Value}, Vals (ns.map V.int) us → ReadsAll h us (ns.map PyData.int) []
  | [], _, .nil => .nil
  | n :: ns, _, .cons r t => by
    obtain ⟨tk, rfl⟩ := r
    exact .cons (as := []) (bs := []) (.int n tk) (ints_reads t)
theorem ints_depth : ∀ ns : List Int, PyData.depthAll (ns.map PyData.int) = 0
  | [] => rfl
  | n :: ns => by rw [List.map_cons, PyData.depthAll, ints_depth ns]; rfl
section
variable {X : Cx} {E : L2.St → XK} {pos p cp kp : Pos} {a : Expr} {fa : ET} {i : Int}
theorem cr_maxDf {k : Nat} (hc : X.calm = true) (hr : RoomG k X.A) : CallRK X (.builtin "max") [Str.ofString "default"] (rMx X.K i) := by
  intro pins s σ H vs zs us ws Q I r rz h
  obtain ⟨a, ns, rfl, rfl, hs, q⟩ := h
  obtain rfl := Vals.ref1 r
  obtain ⟨w1, rfl, tk, rfl⟩ := vals1 rz
  obtain ⟨its, rv, hl, _⟩ := I.list hs
  have un := hr.un
  refine PySem.W.max_list_default (I.ok.hd hc) hl.isList (ints_reads rv) ⟨fun x hx y hy => ?_, fun x hx => ?_⟩ (by rw [ints_depth]; omega) (fun e h' t' hk => ?_) fun y ys j v h' t' bs e hj rd hk => ?_
  · obtain ⟨n, _, rfl⟩ := List.mem_map.mp hx
    obtain ⟨m, _, rfl⟩ := List.mem_map.mp hy
    rfl
  · obtain ⟨n, _, rfl⟩ := List.mem_map.mp hx
    simp
  · have : ns = [] := by simpa using e
    subst this
    exact ⟨.int i, H, I.kept hk, ⟨_, rfl⟩, q⟩
  · cases ns with
    | nil => cases e
    | cons n r =>
      rw [List.map_cons] at e
      cases e
      rw [PySem.W.maxD_ints, foldl_maxI] at rd
      cases rd
      exact ⟨.int _, H, I.kept hk, ⟨_, rfl⟩, q⟩
theorem me_maxDf {k : Nat} {x : Str} {j : Nat} (hc : X.calm = true) (hr : RoomG k X.A) (hg : Gl X x) (hm : X.mg x = none) (hv : bootBuiltins x = some (.builtin "max")) (ha : ME X E a fa) (hn : x ≠ "__name__" := by decide) (hdb : (x == ("__debug__" : Str)) = false := by decide)
    (he1 : starEach [a] X.env = (false, eval a X.env) :: starEach [] X.env := by rfl)
    (he : backTo pos (starEach [a] X.env) = (false, eval a X.env) :: backTo pos (starEach [] X.env) := by rfl) (hpl : (backTo pos (starEach [a] X.env)).any (·.1) = false := by rfl)
    (hall : (backToKw pos (keywordEach [⟨some "default", .Constant (.int i) j cp, kp⟩] X.env)).all (·.1.isSome) = true := by rfl) (hnone : (backToKw pos (keywordEach [⟨some "default", .Constant (.int i) j cp, kp⟩] X.env)).any (·.1.isNone) = false := by rfl)
    (hks : (backToKw pos (keywordEach [⟨some "default", .Constant (.int i) j cp, kp⟩] X.env)).filterMap (·.1) = [Str.ofString "default"] := by rfl) :
    ME X E (.Call (.Name x p) [a] [⟨some "default", .Constant (.int i) j cp, kp⟩] pos) (mUn (maxDf i) fa) := by
  refine PE.imp (pe_callBK (cr_maxDf (i := i) hc hr) hg hm hv (pa_cons ha pa_nil he1) (pk_cons pe_int pk_nil) hn hdb he hpl hall hnone hks) fun st H Q ⟨c, env, g, re, q⟩ => ?_
  refine ⟨c, env, g, re, (Fin.bind q).mono fun d c1 H1 e1 g1 q1 v rv => ?_⟩
  show rMx X.K i [v] [.int i] H1 Q
  unfold maxDf at q1
  cases z : asL c1.S d with
  | none => rw [z] at q1; exact q1.elim
  | some xs =>
    rw [z, Option.bind_some] at q1
    cases z2 : allInt xs with
    | none => rw [z2] at q1; exact q1.elim
    | some ns =>
      rw [z2] at q1
      have e := allInt_eq z2
      subst e
      obtain ⟨b, vs, rfl, hq, rs⟩ := asL_sq g1 rv z
      have e := rs.map_int
      subst e
      refine ⟨b, ns, rfl, rfl, hq, ?_⟩
      cases ns with
      | nil => exact q1.here g1 rfl _ (.int _)
      | cons n r => exact q1.here g1 rfl _ (.int _)
end
end Mi
end
section
set_option maxRecDepth 100000
set_option maxHeartbeats 1000000
namespace Mi
open PySem L2 PyProof.Rows
/-! ### a dict locked while it is walked -/
section
variable {w : Wd} {c c' : Ct} {H H' : Hp} {d : Addr} {ks : List (Key × V)} {od : Obj}
theorem Tw.lock (h : H d = some (.dK ks)) : Tw c H c (upd H d (.frz od (.dK ks))) := ⟨fun _ _ h => h, fun _ h => .inl h, fun a o e _ => by
  by_cases z : a = d
  · subst z
    rw [h] at e
    cases e
    exact ⟨_, upd_same, .inr ⟨rfl, rfl⟩⟩
  · exact ⟨o, by rw [upd_ne z]; exact e, .refl o⟩⟩
theorem Tw.unlock (h : H d = some (.frz od (.dK ks))) : Tw c H c (upd H d (.dK ks)) := ⟨fun _ _ h => h, fun _ h => .inl h, fun a o e _ => by
  by_cases z : a = d
  · subst z
    rw [h] at e
    cases e
    exact ⟨_, upd_same, .inr ⟨rfl, rfl⟩⟩
  · exact ⟨o, by rw [upd_ne z]; exact e, .refl o⟩⟩
theorem Good.lock (g : Good w H c) (n : ¬ Lv c d) (h : H d = some (.dK ks)) : Good w (upd H d (.frz od (.dK ks))) c := by
  refine ⟨g.len, g.inj, fun m b o e1 e2 => ?_, fun b hb => ⟨?_, (g.gst b hb).2⟩, g.sm.tw (Tw.lock (od := od) h)⟩
  · obtain ⟨ho, q, r⟩ := g.obj m b o e1 e2
    have r2 := r.tw (Tw.lock (od := od) h)
    by_cases z : b = d
    · subst z
      rw [h] at q
      cases q
      refine ⟨_, upd_same, ?_⟩
      cases r2 with
      | dic rs h1 h2 => exact .dic rs h1 fun mt => absurd (.inl ⟨m, _, e1, e2, mt⟩) n
    · exact ⟨ho, by rw [upd_ne z]; exact q, r2⟩
  · by_cases z : b = d
    · rw [z]; exact ⟨_, upd_same⟩
    · rw [upd_ne z]; exact (g.gst b hb).1
theorem Good.unlock (g : Good w H c) (n : ¬ Lv c d) (h : H d = some (.frz od (.dK ks))) : Good w (upd H d (.dK ks)) c := by
  refine ⟨g.len, g.inj, fun m b o e1 e2 => ?_, fun b hb => ⟨?_, (g.gst b hb).2⟩, g.sm.tw (Tw.unlock h)⟩
  · obtain ⟨ho, q, r⟩ := g.obj m b o e1 e2
    have r2 := r.tw (Tw.unlock h)
    by_cases z : b = d
    · subst z
      rw [h] at q
      cases q
      refine ⟨_, upd_same, ?_⟩
      cases r2 with
      | dic rs h1 h2 => exact .dic rs h1 fun mt => absurd (.inl ⟨m, _, e1, e2, mt⟩) n
    · exact ⟨ho, by rw [upd_ne z]; exact q, r2⟩
  · by_cases z : b = d
    · rw [z]; exact ⟨_, upd_same⟩
    · rw [upd_ne z]; exact (g.gst b hb).1
theorem Ext.unlock (n : ¬ Lv c d) (h : H d = some (.dK ks)) (e : Ext c (upd H d (.frz od (.dK ks))) c' H') : Ext c H c' (upd H' d (.dK ks)) ∧ H' d = some (.frz od (.dK ks)) ∧ ¬ Lv c' d := by
  have ng : d ∉ c.gs := fun z => n (.inr z)
  refine ⟨⟨⟨e.p, fun a l => ?_, fun a o q nl => ?_⟩, e.gs, fun a ha => ?_⟩, e.keep d _ upd_same n, e.toTr.nlv upd_same n⟩
  · rcases e.lv a l with z | z
    · exact .inl z
    · by_cases ad : a = d
      · subst ad; rw [upd_same] at z; cases z
      · rw [upd_ne ad] at z; exact .inr z
  · by_cases ad : a = d
    · subst ad; rw [h] at q; cases q; exact upd_same
    · rw [upd_ne ad]; exact e.keep a o (by rw [upd_ne ad]; exact q) nl
  · have ad : a ≠ d := fun z => ng (by rw [← z]; exact ha)
    rw [upd_ne ad, e.gk a ha, upd_ne ad]
theorem Fin.locked {α : Type} {E : XK} {r : R α} {k : α → Ct → Hp → Prop} (hf : Fin w E c H r k) (hr : ∀ x S, r ≠ .ex x S) (n : ¬ Lv c d) (h : H d = some (.dK ks)) :
    Fin w E c (upd H d (.frz od (.dK ks))) r (fun a c' H' => H' d = some (.frz od (.dK ks)) ∧ Tw c' H' c' (upd H' d (.dK ks)) ∧ k a c' (upd H' d (.dK ks))) := by
  cases r with
  | no => exact hf
  | ex x S => exact absurd rfl (hr x S)
  | ok a S =>
    intro c1 H1 e1 g1 s1
    obtain ⟨e2, hd, nl⟩ := e1.unlock n h
    exact ⟨hd, Tw.unlock hd, hf c1 _ e2 (g1.unlock nl hd) s1⟩
end
/-! ### keys -/
def kD : Key → D
  | .inl i => .int i
  | .inr x => .str x
def keyOk : Key → Bool
  | .inl _ => true
  | .inr x => decide (x.length ≤ sizeLine)
theorem kD_rel {w : Wd} {H : Hp} {c : Ct} {k : Key} (h : keyOk k = true) : RelD w H c (kD k) (kV k) := by
  cases k with
  | inl i => exact .int i
  | inr x => exact .str x (of_decide_eq_true h)
def itK (i : Nat) : IT := fun env s => match env[i]? with
  | some (some (.dic kvs)) => if (kvs.all fun kv => keyOk kv.1) = true then .ok (kvs.map fun kv => kD kv.1, fun _ => True) s else .no
  | _ => .no
section
variable {w : Wd} {E : L2.St → XK} {st : L2.St} {H : Hp} {i : Nat} {d : Addr} {o : Obj} {ks : List (Key × V)}
theorem keys_at {R : It → Hp → Prop} (hst : st[i]? = some (some (.ref d))) (hf : H d = some (.frz o (.dK ks))) (h : tMI w E (itK i) st H R) : iKeys (tVar i) st H R := by
  obtain ⟨c, env, g, re, q⟩ := h
  refine ⟨.ref d, hst, d, o, rfl, .inl ⟨ks, hf, ?_⟩⟩
  unfold itK at q
  split at q
  · rename_i kvs e
    split at q
    · rename_i hk
      obtain ⟨v, hv, rd⟩ := re.get i _ e
      rw [hst] at hv
      cases hv
      cases rd with
      | @dic _ _ vs0 hs nl rs =>
        have ek : ks = (kvs.map (·.1)).zip vs0 := by
          rcases hs with hs | ⟨o2, hs⟩
          · rw [hf] at hs; cases hs
          · rw [hf] at hs; cases hs; rfl
        have len : ks.length = kvs.length := by rw [ek, List.length_zip, List.length_map, ← rs.length]; simp
        refine q c H (Ext.refl c H) g rfl _ ⟨fun c1 H1 t g1 _ j hj => ?_, fun c1 H1 t g1 _ j x hx y H2 hy => ?_, fun c1 H1 t g1 _ => ?_⟩
        · exact ⟨t.keep d _ hf nl, by rw [len]; simpa using hj⟩
        · obtain ⟨rfl, k, v, hkv, rfl⟩ := hy
          refine ⟨Ext.refl _ _, g1, ?_⟩
          rw [List.getElem?_map] at hx
          cases hq : kvs[j]? with
          | none => rw [hq] at hx; cases hx
          | some kv =>
            rw [hq] at hx
            cases hx
            rw [ek] at hkv
            have hk1 : k = kv.1 := by
              obtain ⟨a1, a2⟩ := List.getElem?_zip_eq_some.mp hkv
              rw [List.getElem?_map, hq] at a1
              exact (Option.some.inj a1).symm
            rw [hk1]
            exact kD_rel (List.all_eq_true.mp hk kv (List.mem_of_getElem? hq))
        · exact ⟨t.keep d _ hf nl, by rw [len, List.length_map]; exact Nat.le_refl _⟩
    · exact q.elim
  · exact q.elim
theorem lcK_M {g : Tg} {bt : BT} {fe : ET} {js vs : List Nat} {Q : VK} (hj : ∀ j ∈ js, j ∈ vs) (hst : st[i]? = some (some (.ref d))) (hf : H d = some (.frz o (.dK ks))) (h : tM w E (mLc (itK i) g bt fe vs) st H Q) :
    tLc (iKeys (tVar i)) (tMG w js g) (tMB w E00 bt) (tM w E00 fe) vs st H Q := keys_at hst hf (tLc_M hj h)
end
section
variable {X : Cx} {E : L2.St → XK} {pos p : Pos}
theorem PE.two {e : Expr} {t u : TE} (h : PE X e t) (k : PE X e u) : PE X e (fun st H Q => t st H Q ∨ u st H Q) := ⟨fun pins s σ H Q I q => q.elim (h.run pins s σ H Q I) (k.run pins s σ H Q I)⟩
theorem lc_noex {i : Nat} {g : Tg} {bt : BT} {fe : ET} {vs : List Nat} {env : Env} {s : Sto} (x : Xn) (S : Sto) : mLc (itK i) g bt fe vs env s ≠ .ex x S := fun h => by
  unfold mLc at h
  cases z : itK i env s with
  | no => rw [z] at h; cases h
  | ex x S => unfold itK at z; split at z <;> first | (split at z <;> cases z) | cases z
  | ok p S1 =>
    rw [z] at h
    simp only [bind_ok] at h
    cases z2 : lcGo p.2 g bt fe (wipeE env vs) p.1 [] S1 <;> rw [z2] at h <;> cases h
/-- [elt for x in d if ..], d a name whose dict is not written -/
theorem me_lcK {elt : Expr} {x : Str} {i : Nat} {ifs : List Expr} {scope : Scope} {own : List (Str × Nat)} {tg : Expr} {g : Tg} {js : List Nat} {bt : BT} {fe : ET} (hc : X.calm = true) (hN : X.N.Nodup) (hv : PE X (.Name x p) (tVar i)) (ok : BlkOk X.N X.env.scope scope own)
    (hg : ∀ s H C cl fp, MG (X.blk s H scope (compEnvC scope cl C X.env) fp) tg js g) (ht : ∀ s H C cl fp, MTs (X.blk s H scope (compEnvC scope cl C X.env) fp) E00 ifs bt)
    (he : ∀ s H C cl fp, ME (X.blk s H scope (compEnvC scope cl C X.env) fp) E00 elt fe) (hj : ∀ j ∈ js, j ∈ own.map (·.2) := by decide) (hs : ∀ y, foldedSetIterable (.Name x p) X.env y = pure y := by intro _; rfl) :
    ME X E (.ListComp elt [⟨tg, .Name x p, ifs, 0⟩] scope pos) (mLc (itK i) g bt fe (own.map (·.2))) := by
  have base : PE X (.ListComp elt [⟨tg, .Name x p, ifs, 0⟩] scope pos) (tLc (iKeys (tVar i)) (tMG (Wx X) js g) (tMB (Wx X) E00 bt) (tM (Wx X) E00 fe) (own.map (·.2))) := pe_lc hc hN (pi_keys hv) ok hg ht he hs
  refine PE.imp (PE.two base (pe_lock base)) fun st H Q h => ?_
  obtain ⟨c, env, gd, re, q⟩ := id h
  cases e : env[i]? with
  | none => simp only [mLc, itK, e] at q; exact q.elim
  | some od =>
    cases od with
    | none => simp only [mLc, itK, e] at q; exact q.elim
    | some dd =>
      cases dd with
      | dic kvs =>
        obtain ⟨v, hv2, rd⟩ := re.get i _ e
        cases rd with
        | @dic d _ vs hs2 nl rs =>
          rcases hs2 with hs2 | ⟨o, hs2⟩
          · refine .inr ⟨d, _, hs2, True.intro, fun ob => ?_⟩
            refine lcK_M hj hv2 upd_same ⟨c, env, gd.lock nl hs2, ⟨re.len, fun j x hx => ?_⟩, (q.locked (od := ob) (fun x S => lc_noex x S) nl hs2).mono fun y c1 H1 e1 g1 z v2 rv2 => ⟨z.1, z.2.2 v2 (rv2.tw z.2.1)⟩⟩
            obtain ⟨u, hu, ru⟩ := re.get j x hx
            exact ⟨u, hu, ru.tw (Tw.lock hs2)⟩
          · exact .inl (lcK_M hj hv2 hs2 h)
      | _ => simp only [mLc, itK, e] at q; exact q.elim
end
end Mi
end
section
set_option maxRecDepth 100000
set_option maxHeartbeats 1000000
namespace Mi
open PySem L2 PyProof.Rows
/-! ### tables -/
abbrev KVD (w : Wd) (H : Hp) (c : Ct) : List (Key × D) → List (Key × V) → Prop := Paired fun p q => p.1 = q.1 ∧ RelD w H c p.2 q.2
theorem KVD.of {w : Wd} {H : Hp} {c : Ct} : ∀ {kvs : List (Key × D)} {vs : List V}, RelDs w H c (kvs.map (·.2)) vs → KVD w H c kvs ((kvs.map (·.1)).zip vs)
  | [], _, .nil => .nil
  | kv :: r, _, .cons h t => .cons ⟨rfl, h⟩ (KVD.of t)
theorem KVD.to {w : Wd} {H : Hp} {c : Ct} : ∀ {kvs : List (Key × D)} {ks : List (Key × V)}, KVD w H c kvs ks → ∃ vs, ks = (kvs.map (·.1)).zip vs ∧ RelDs w H c (kvs.map (·.2)) vs
  | [], _, .nil => ⟨[], rfl, .nil⟩
  | kv :: r, _, .cons (b := b) h t => by
    obtain ⟨vs, e, rs⟩ := KVD.to t
    obtain ⟨b1, b2⟩ := b
    have h1 : kv.1 = b1 := h.1
    exact ⟨b2 :: vs, by rw [List.map_cons, List.zip_cons_cons, ← e, h1], .cons h.2 rs⟩
theorem KVD.tw {w : Wd} {H H' : Hp} {c c' : Ct} (e : Tw c H c' H') : ∀ {kvs : List (Key × D)} {ks : List (Key × V)}, KVD w H c kvs ks → KVD w H' c' kvs ks
  | _, _, .nil => .nil
  | _, _, .cons h t => .cons ⟨h.1, h.2.tw e⟩ (KVD.tw e t)
theorem KVD.keys {w : Wd} {H : Hp} {c : Ct} : ∀ {kvs : List (Key × D)} {ks : List (Key × V)}, KVD w H c kvs ks → kvs.map (·.1) = ks.map (·.1)
  | _, _, .nil => rfl
  | _, _, .cons h t => by rw [List.map_cons, List.map_cons, h.1, KVD.keys t]
theorem KVD.length {w : Wd} {H : Hp} {c : Ct} {kvs : List (Key × D)} {ks : List (Key × V)} (h : KVD w H c kvs ks) : kvs.length = ks.length := Paired.length h
def putD (kvs : List (Key × D)) (k : Key) (v : D) : List (Key × D) :=
  if (kvs.any fun kv => decide (kv.1 = k)) = true then kvs.map (fun kv => if kv.1 = k then (kv.1, v) else kv) else kvs ++ [(k, v)]
def valD (kvs : List (Key × D)) (k : Key) : Option D := (kvs.find? fun kv => decide (kv.1 = k)).map (·.2)
theorem KVD.val {w : Wd} {H : Hp} {c : Ct} {k : Key} : ∀ {kvs : List (Key × D)} {ks : List (Key × V)}, KVD w H c kvs ks → (valD kvs k = none ∧ valV ks k = none) ∨ ∃ d v, valD kvs k = some d ∧ valV ks k = some v ∧ RelD w H c d v
  | _, _, .nil => .inl ⟨rfl, rfl⟩
  | _, _, .cons (a := a) (b := b) h t => by
    by_cases e : a.1 = k
    · exact .inr ⟨a.2, b.2, by simp [valD, List.find?_cons, e], valV_pos (by rw [← h.1]; exact e), h.2⟩
    · have e2 : ¬ b.1 = k := by rw [← h.1]; exact e
      have z := KVD.val (k := k) t
      have v1 : ∀ r, valD (a :: r) k = valD r k := fun r => by simp [valD, List.find?_cons, e]
      rw [v1, valV_neg e2]
      exact z
theorem KVD.any {w : Wd} {H : Hp} {c : Ct} {k : Key} : ∀ {kvs : List (Key × D)} {ks : List (Key × V)}, KVD w H c kvs ks → (kvs.any fun kv => decide (kv.1 = k)) = ks.any fun kv => decide (kv.1 = k)
  | _, _, .nil => rfl
  | _, _, .cons h t => by rw [List.any_cons, List.any_cons, h.1, KVD.any t]
theorem KVD.app {w : Wd} {H : Hp} {c : Ct} {k : Key} {d : D} {v : V} (r : RelD w H c d v) : ∀ {kvs : List (Key × D)} {ks : List (Key × V)}, KVD w H c kvs ks → KVD w H c (kvs ++ [(k, d)]) (ks ++ [(k, v)])
  | _, _, .nil => .cons ⟨rfl, r⟩ .nil
  | _, _, .cons h t => .cons h (KVD.app r t)
theorem KVD.repl {w : Wd} {H : Hp} {c : Ct} {k : Key} {d : D} {v : V} (r : RelD w H c d v) : ∀ {kvs : List (Key × D)} {ks : List (Key × V)}, KVD w H c kvs ks →
    KVD w H c (kvs.map fun kv => if kv.1 = k then (kv.1, d) else kv) (ks.map fun kv => if kv.1 = k then (kv.1, v) else kv)
  | _, _, .nil => .nil
  | _, _, .cons (a := a) (b := b) h t => by
    refine .cons ?_ (KVD.repl r t)
    by_cases e : a.1 = k
    · have e2 : b.1 = k := by rw [← h.1]; exact e
      simp only [if_pos e, if_pos e2]
      exact ⟨h.1, r⟩
    · have e2 : ¬ b.1 = k := by rw [← h.1]; exact e
      simp only [if_neg e, if_neg e2]
      exact h
theorem KVD.put {w : Wd} {H : Hp} {c : Ct} {k : Key} {d : D} {v : V} {kvs : List (Key × D)} {ks : List (Key × V)} (h : KVD w H c kvs ks) (r : RelD w H c d v) : KVD w H c (putD kvs k d) (putK ks k v) := by
  unfold putD putK
  rw [← KVD.any h]
  split
  · exact KVD.repl r h
  · exact KVD.app r h
def keyOf : D → Option Key
  | .int i => some (.inl i)
  | .str x => some (.inr x)
  | _ => none
theorem keyOf_ok {w : Wd} {H : Hp} {c : Ct} {d : D} {v : V} {k : Key} (r : RelD w H c d v) (h : keyOf d = some k) : v = kV k := by
  cases d with
  | int i => cases h; cases r; rfl
  | str x => cases h; cases r; rfl
  | _ => cases h
/-! ### {k: v for ..} -/
open Classical in
noncomputable def dcGo (G : Sto → Prop) (g : Tg) (bt : BT) (fk fv : ET) (env : Env) : List D → List (Key × D) → Sto → R (List (Key × D))
  | [], acc, s => if G s then .ok acc s else .no
  | d :: r, acc, s => if G s then (match g d env with
      | some env2 => (bt env2 s).bind fun b s1 => match b with
        | true => (fk env2 s1).bind fun k s2 => (fv env2 s2).bind fun v s3 => match keyOf k with
          | some key => if acc.length < sizeLine then dcGo G g bt fk fv env r (putD acc key v) s3 else .no
          | none => .no
        | false => dcGo G g bt fk fv env r acc s1
      | none => .no) else .no
noncomputable def mDc (it : IT) (g : Tg) (bt : BT) (fk fv : ET) (vs : List Nat) : ET := fun env s => (it env s).bind fun p s1 => (dcGo p.2 g bt fk fv (wipeE env vs) p.1 [] s1).quiet.bind fun ds s2 => .ok (.dic ds) s2
theorem dcGo_nil {G : Sto → Prop} {g : Tg} {bt : BT} {fk fv : ET} {env : Env} {acc out : List (Key × D)} {s S : Sto} (h : dcGo G g bt fk fv env [] acc s = .ok out S) : G s ∧ out = acc ∧ S = s := by
  rw [dcGo] at h
  split at h
  · rename_i hG; cases h; exact ⟨hG, rfl, rfl⟩
  · cases h
theorem dcGo_cons {G : Sto → Prop} {g : Tg} {bt : BT} {fk fv : ET} {env : Env} {d : D} {r : List D} {acc out : List (Key × D)} {s S : Sto} (h : dcGo G g bt fk fv env (d :: r) acc s = .ok out S) :
    G s ∧ ∃ env2, g d env = some env2 ∧ ∃ b s1, bt env2 s = .ok b s1 ∧ ((b = false ∧ dcGo G g bt fk fv env r acc s1 = .ok out S) ∨
      (b = true ∧ ∃ k s2, fk env2 s1 = .ok k s2 ∧ ∃ v s3, fv env2 s2 = .ok v s3 ∧ ∃ key, keyOf k = some key ∧ acc.length < sizeLine ∧ dcGo G g bt fk fv env r (putD acc key v) s3 = .ok out S)) := by
  rw [dcGo] at h
  split at h
  · rename_i hG
    refine ⟨hG, ?_⟩
    split at h
    · rename_i env2 he
      refine ⟨env2, he, ?_⟩
      cases z : bt env2 s with
      | no => rw [z] at h; cases h
      | ex x S1 => rw [z] at h; cases h
      | ok b s1 =>
        rw [z] at h
        refine ⟨b, s1, rfl, ?_⟩
        cases b with
        | false => exact .inl ⟨rfl, h⟩
        | true =>
          simp only [bind_ok] at h
          cases z2 : fk env2 s1 with
          | no => rw [z2] at h; cases h
          | ex x S1 => rw [z2] at h; cases h
          | ok k s2 =>
            rw [z2] at h
            simp only [bind_ok] at h
            cases z3 : fv env2 s2 with
            | no => rw [z3] at h; cases h
            | ex x S1 => rw [z3] at h; cases h
            | ok v s3 =>
              rw [z3] at h
              simp only [bind_ok] at h
              split at h
              · rename_i key hkey
                split at h
                · rename_i hl
                  exact .inr ⟨rfl, k, s2, rfl, v, s3, z3, key, hkey, hl, h⟩
                · cases h
              · cases h
    · cases h
  · cases h
section
variable {X : Cx} {E : L2.St → XK} {pos : Pos} {tg : Expr}
theorem tDc_M {w : Wd} {it : IT} {g : Tg} {bt : BT} {fk fv : ET} {js vs : List Nat} {st : L2.St} {H : Hp} {Q : VK} (hj : ∀ j ∈ js, j ∈ vs) (h : tM w E (mDc it g bt fk fv vs) st H Q) :
    tDc (tMI w E it) (tMG w js g) (tMB w E00 bt) (tM w E00 fk) (tM w E00 fv) vs st H Q := by
  obtain ⟨c, env, gd, re, q⟩ := h
  refine ⟨c, env, gd, re, (Fin.bind q).mono fun p c1 H1 e1 g1 q1 J WJ Dd hD => ?_⟩
  cases z : dcGo p.2 g bt fk fv (wipeE env vs) p.1 [] c1.S with
  | no => rw [z] at q1; exact q1.elim
  | ex x S => rw [z] at q1; exact q1.elim
  | ok out S =>
    rw [z] at q1
    have fin : ∀ c' H', Ext c1 H1 c' H' → Good w H' c' → c'.S = S → ∀ v, RelD w H' c' (.dic out) v → Q v H' := q1
    clear q1 q
    refine ⟨fun i m H' => m = p.1.length - i ∧ i ≤ p.1.length ∧ ∃ c' acc vacc, Good w H' c' ∧ Tr c1 H1 c' H' ∧ c'.gs = Dd :: c1.gs ∧ (∀ b ∈ c1.gs, H' b = H1 b) ∧ H' Dd = some (.dK vacc) ∧ KVD w H' c' acc vacc ∧ dcGo p.2 g bt fk fv (wipeE env vs) (p.1.drop i) acc c'.S = .ok out S,
      ⟨p.1.length, by simp, Nat.zero_le _, c1.gh Dd, [], [], g1.gh hD, Tr.gh hD, rfl, fun b hb => upd_ne (g1.gne hD hb), upd_same, .nil, z⟩, ?_⟩
    rintro i m H2 ⟨rfl, hi, c2, acc, vacc, g2, t2, gs2, gk2, hD2, ra, run⟩
    have nlD : ∀ (l : List Addr), l = c1.gs → ¬ Lv (c2.ug l) Dd := fun l el lv => by
      rcases lv with ⟨n, o, en, eo, mo⟩ | lv
      · have := (g2.gst Dd (by rw [gs2]; simp)).2
        exact this (List.mem_of_getElem? (show c2.p[n]? = some Dd from en))
      · rw [el] at lv
        exact g1.gne hD (show Dd ∈ c1.gs from lv) rfl
    by_cases hlt : i < p.1.length
    · rw [List.drop_eq_getElem_cons hlt] at run
      obtain ⟨hG, env2, he2, b, s1, hb, alt⟩ := dcGo_cons run
      refine .inr ⟨WJ.go c2 H2 t2 g2 hG i hlt, fun H' => ∃ c' acc vacc, Good w H' c' ∧ Tr c1 H1 c' H' ∧ c'.gs = Dd :: c1.gs ∧ (∀ b ∈ c1.gs, H' b = H1 b) ∧ H' Dd = some (.dK vacc) ∧ KVD w H' c' acc vacc ∧ dcGo p.2 g bt fk fv (wipeE env vs) (p.1.drop (i + 1)) acc c'.S = .ok out S,
        fun H' hN => ⟨p.1.length - (i + 1), by omega, rfl, hlt, hN⟩, fun x H3 hy => ?_⟩
      obtain ⟨e3, g3, rx⟩ := WJ.yld c2 H2 t2 g2 hG i _ (List.getElem?_eq_getElem hlt) x H3 hy
      have t3 := t2.trans e3.toTr
      refine ⟨c2, _, wipeE env vs, env2, g3, rx, ((re.tr e1.toTr).tr t3).wipe vs, he2, fun st2 on re2 => ⟨wipe_only on hj, c2, env2, g3, re2, E00_elim hb fun c4 H4 e4 g4 s4 => ?_⟩⟩
      have gk4 : ∀ b ∈ c1.gs, H4 b = H1 b := fun b hb => ((e4.gk b (by rw [gs2]; exact List.mem_cons_of_mem _ hb)).trans (e3.gk b (by rw [gs2]; exact List.mem_cons_of_mem _ hb))).trans (gk2 b hb)
      have hD4 : H4 Dd = some (.dK vacc) := ((e4.gk Dd (by rw [gs2]; simp)).trans (e3.gk Dd (by rw [gs2]; simp))).trans hD2
      have ra4 : KVD w H4 c4 acc vacc := KVD.tw e4.toTr.tw (KVD.tw e3.toTr.tw ra)
      rcases alt with ⟨rfl, run2⟩ | ⟨rfl, k, s2, hfk, v, s3, hfv, key, hkey, hl, run2⟩
      · exact iteF ⟨c4, acc, vacc, g4, t3.trans e4.toTr, e4.gs.trans gs2, gk4, hD4, ra4, by rw [s4]; exact run2⟩
      · refine iteT ⟨c4, env2, g4, re2.ext e4, E00_elim (by rw [s4]; exact hfk) fun c5 H5 e5 g5 s5 kv rk => ?_⟩
        refine ⟨c5, env2, g5, (re2.ext e4).ext e5, E00_elim (by rw [s5]; exact hfv) fun c6 H6 e6 g6 s6 vv rv => ?_⟩
        have hD6 : H6 Dd = some (.dK vacc) := ((e6.gk Dd (by rw [e5.gs, e4.gs, gs2]; simp)).trans (e5.gk Dd (by rw [e4.gs, gs2]; simp))).trans hD4
        have gs6 : c6.gs = Dd :: c1.gs := e6.gs.trans (e5.gs.trans (e4.gs.trans gs2))
        have mem6 : Dd ∈ c6.gs := by rw [gs6]; simp
        have ek := keyOf_ok rk hkey
        refine ⟨vacc, key, ek, hD6, by rw [← KVD.length ra4]; exact hl, c6, putD acc key v, putK vacc key vv, g6.grow mem6, (((t3.trans e4.toTr).trans e5.toTr).trans e6.toTr).trans (Tr.grow mem6), gs6, fun b hb => ?_, upd_same, ?_, by rw [s6]; exact run2⟩
        · rw [upd_ne (fun zz => g1.gne hD hb zz)]
          exact ((e6.gk b (by rw [e5.gs, e4.gs, gs2]; exact List.mem_cons_of_mem _ hb)).trans (e5.gk b (by rw [e4.gs, gs2]; exact List.mem_cons_of_mem _ hb))).trans (gk4 b hb)
        · exact KVD.tw (Tr.grow mem6).tw (KVD.put (KVD.tw e6.toTr.tw (KVD.tw e5.toTr.tw ra4)) rv)
    · have hi' : i = p.1.length := by omega
      subst hi'
      rw [List.drop_length] at run
      obtain ⟨hG, rfl, rfl⟩ := dcGo_nil run
      refine .inl ⟨WJ.stop c2 H2 t2 g2 hG, ?_⟩
      have sub : ∀ b ∈ c1.gs, b ∈ c2.gs := fun b hb => by rw [gs2]; exact List.mem_cons_of_mem _ hb
      have tu : Tr c2 H2 (c2.ug c1.gs) H2 := Tr.ug sub
      obtain ⟨vs2, e2, rs2⟩ := KVD.to (KVD.tw tu.tw ra)
      refine fin (c2.ug c1.gs) H2 ⟨t2.trans tu, rfl, gk2⟩ (g2.ug sub) rfl _ (.dic (.inl (by rw [hD2, e2])) (nlD _ rfl) rs2)
theorem me_dc {kx vx iter : Expr} {ifs : List Expr} {scope : Scope} {own : List (Str × Nat)} {it : IT} {g : Tg} {js : List Nat} {bt : BT} {fk fv : ET} (hc : X.calm = true) (hN : X.N.Nodup) (hi : MI X E tg iter it) (ok : BlkOk X.N X.env.scope scope own)
    (hg : ∀ s H C cl fp, MG (X.blk s H scope (compEnvC scope cl C X.env) fp) tg js g) (ht : ∀ s H C cl fp, MTs (X.blk s H scope (compEnvC scope cl C X.env) fp) E00 ifs bt)
    (hk : ∀ s H C cl fp, ME (X.blk s H scope (compEnvC scope cl C X.env) fp) E00 kx fk) (he : ∀ s H C cl fp, ME (X.blk s H scope (compEnvC scope cl C X.env) fp) E00 vx fv) (hj : ∀ j ∈ js, j ∈ own.map (·.2) := by decide)
    (hs : ∀ x, foldedSetIterable iter X.env x = pure x := by intro _; rfl) :
    ME X E (.DictComp kx vx [⟨tg, iter, ifs, 0⟩] scope pos) (mDc it g bt fk fv (own.map (·.2))) := PE.imp (pe_dc hc hN hi ok hg ht hk he hs) fun _ _ _ => tDc_M hj
end
end Mi
end
section
set_option maxRecDepth 100000
set_option maxHeartbeats 1000000
namespace Mi
open PySem L2 PyProof.Rows
/-! ### texts in order -/
def leS (a b : Str) : Bool := !PySem.Spec.ltCps b.cps.toList a.cps.toList
theorem leS_iff {a b : Str} : leS a b = true ↔ a.cps.toList ≤ b.cps.toList := by
  unfold leS
  rw [ltCps_eq, Bool.not_eq_true', decide_eq_false_iff_not]
  exact Iff.rfl
theorem leS_trans {a b c : Str} (h : leS a b = true) (k : leS b c = true) : leS a c = true := leS_iff.mpr (List.le_trans (leS_iff.mp h) (leS_iff.mp k))
theorem leS_total (a b : Str) : (leS a b || leS b a) = true := by
  rw [Bool.or_eq_true, leS_iff, leS_iff]
  exact List.le_total _ _
theorem leS_anti {a b : Str} (h : leS a b = true) (k : leS b a = true) : a = b := by
  have := List.le_antisymm (leS_iff.mp h) (leS_iff.mp k)
  exact TL.ext_tl this
def srtS (l : List Str) : List Str := l.mergeSort leS
theorem risingS_pair : ∀ {l : List Str} {p : Str}, risingS p l = true → (p :: l).Pairwise (fun a b => leS a b = true)
  | [], p, _ => by simp
  | x :: r, p, h => by
    simp only [risingS, Bool.and_eq_true] at h
    have ih := risingS_pair h.2
    have hx : leS p x = true := h.1
    refine List.pairwise_cons.mpr ⟨fun y hy => ?_, ih⟩
    rcases List.mem_cons.mp hy with rfl | hy
    · exact hx
    · exact leS_trans hx ((List.pairwise_cons.mp ih).1 y hy)
theorem sortedS_pair {l : List Str} (h : sortedS l = true) : l.Pairwise (fun a b => leS a b = true) := by
  cases l with
  | nil => simp
  | cons x r => exact risingS_pair h
theorem sorted_one : ∀ {ys zs : List Str}, ys.Perm zs → ys.Pairwise (fun a b => leS a b = true) → zs.Pairwise (fun a b => leS a b = true) → ys = zs
  | [], zs, h, _, _ => (List.nil_perm.mp h).symm
  | y :: ys, [], h, _, _ => absurd (List.perm_nil.mp h) (by simp)
  | y :: ys, z :: zs, h, hy, hz => by
    have e : y = z := by
      have m1 : y ∈ z :: zs := h.mem_iff.mp List.mem_cons_self
      have m2 : z ∈ y :: ys := h.mem_iff.mpr List.mem_cons_self
      rcases List.mem_cons.mp m1 with e | m1
      · exact e
      · rcases List.mem_cons.mp m2 with e | m2
        · exact e.symm
        · exact leS_anti ((List.pairwise_cons.mp hy).1 z m2) ((List.pairwise_cons.mp hz).1 y m1)
    subst e
    rw [sorted_one (List.perm_cons y |>.mp h) (List.pairwise_cons.mp hy).2 (List.pairwise_cons.mp hz).2]
theorem srtS_eq {ks ys : List Str} (p : ys.Perm ks) (h : sortedS ys = true) : ys = srtS ks :=
  sorted_one (p.trans (List.mergeSort_perm ks leS).symm) (sortedS_pair h) (List.pairwise_mergeSort (le := leS) (fun a b c (h : leS a b = true) (k : leS b c = true) => leS_trans h k) leS_total ks)
def strKeys : List (Key × D) → Option (List Str)
  | [] => some []
  | kv :: r => match kv.1, strKeys r with
    | .inr x, some xs => some (x :: xs)
    | _, _ => none
theorem strKeys_eq : ∀ {kvs : List (Key × D)} {ks : List Str}, strKeys kvs = some ks → kvs.map (·.1) = ks.map Sum.inr
  | [], _, h => by cases h; rfl
  | kv :: r, _, h => by
    simp only [strKeys] at h
    split at h
    · rename_i x xs e1 e2
      cases h
      rw [List.map_cons, List.map_cons, e1, strKeys_eq e2]
    · cases h
/-- sorted(d), len(d) of a dict that is not written -/
def cbSortD : Cb := fun _ ds => match ds with
  | [.dic kvs] => match strKeys kvs with
    | some ks => if ks.length < 64 ∧ ks.all (fun x => decide (x.length ≤ sizeLine)) = true then some (.lst ((srtS ks).map .str)) else none
    | none => none
  | _ => none
def cbLenD : Cb := fun s ds => match ds with
  | [.dic kvs] => some (.int kvs.length)
  | ds => cbLen s ds
section
variable {X : Cx} {E : L2.St → XK} {pos p : Pos}
theorem strs_rel {w : Wd} {H : Hp} {c : Ct} : ∀ {xs : List Str}, (∀ x ∈ xs, x.length ≤ sizeLine) → RelDs w H c (xs.map .str) (xs.map V.str)
  | [], _ => .nil
  | x :: r, h => .cons (.str x (h x List.mem_cons_self)) (strs_rel fun y hy => h y (List.mem_cons_of_mem _ hy))
theorem cb_sortD (hc : X.calm = true) : CbM X (.builtin "sorted") cbSortD := by
  intro pins s σ H xs us Q I r h
  obtain ⟨c, ds, z, g, rd, hz, q⟩ := h
  unfold cbSortD at hz
  split at hz
  · rename_i kvs
    split at hz
    · rename_i ks e
      split at hz
      · rename_i cond
        cases hz
        cases rd with
        | cons r1 rn =>
          cases rn
          cases r1 with
          | @dic a _ vs hs nl rs =>
            have len : (kvs.map (·.1)).length = vs.length := by rw [List.length_map, ← rs.length, List.length_map]
            refine call_sortedD hc pins s σ H _ us Q I r ⟨a, _, ks, rfl, hs, ?_, cond.1, fun ys t pm sr ht => ?_⟩
            · rw [List.map_fst_zip (by omega), strKeys_eq e]
            · have ey := srtS_eq pm sr
              rw [ey]
              have ok : ∀ x ∈ srtS ks, x.length ≤ sizeLine := fun x hx => by
                have : x ∈ ks := pm.mem_iff.mp (by rw [ey]; exact hx)
                exact of_decide_eq_true (List.all_eq_true.mp cond.2 x this)
              exact q _ (Ext.fresh g ht) (g.fresh ht) _ (.lst ⟨upd_same, fun lv => nlv_of (H := H) g ht lv⟩ (strs_rel ok))
      · cases hz
    · cases hz
  · cases hz
theorem cb_lenD : CbM X (.builtin "len") cbLenD := by
  intro pins s σ H xs us Q I r h
  obtain ⟨c, ds, z, g, rd, hz, q⟩ := h
  unfold cbLenD at hz
  split at hz
  · rename_i kvs
    cases hz
    have here := q H (Ext.refl c H) g
    cases rd with
    | cons r1 rn =>
      cases rn
      cases r1 with
      | @dic a _ vs hs nl rs =>
        obtain ⟨u, rfl, rv⟩ := Vals.one r
        obtain rfl : u = Value.ref a := rv
        have len : ((kvs.map (·.1)).zip vs).length = kvs.length := by rw [List.length_zip, List.length_map, ← rs.length, List.length_map, Nat.min_self]
        refine d_len I hs fun t s' I' => ⟨.int _, H, I', ⟨t, rfl⟩, ?_⟩
        rw [len]
        exact here _ (.int _)
  · exact cb_len pins s σ H xs us Q I r ⟨c, ds, z, g, rd, hz, q⟩
/-- d[k], d a dict that is not written -/
def opDget : Op2 := fun _ d e => match d, keyOf e with
  | .dic kvs, some k => valD kvs k
  | _, _ => none
theorem me_dget {o i : Expr} {fo fi : ET} {k : Nat} (hr : RoomG k X.A) (ho : ME X E o fo) (hi : ME X E i fi) (hs : NoSl i) : ME X E (.Subscript o i pos) (mOp opDget fo fi) := by
  refine PE.imp (pe_dget (by have := hr.un; omega) ho hi hs) fun st H Q ⟨c, env, g, re, q⟩ => ?_
  refine ⟨c, env, g, re, (Fin.bind q).mono fun d c1 H1 e1 g1 q1 v rv => ?_⟩
  refine ⟨c1, env, g1, re.ext e1, (Fin.bind q1).mono fun d2 c2 H2 e2 g2 q2 v2 rv2 => ?_⟩
  have r1 := rv.ext e2
  cases z : opDget c2.S d d2 with
  | none => rw [z] at q2; exact q2.elim
  | some y =>
    rw [z] at q2
    unfold opDget at z
    split at z
    · rename_i kvs key ek
      cases r1 with
      | @dic a _ vs hs2 nl rs =>
        rcases KVD.val (k := key) (KVD.of rs) with ⟨n1, _⟩ | ⟨d3, v3, h1, h2, r3⟩
        · rw [n1] at z; cases z
        · rw [h1] at z
          cases z
          refine ⟨a, v3, rfl, .inl ⟨_, key, hs2, keyOf_ok rv2 ek, h2.symm⟩, q2.here g2 rfl _ r3⟩
    · cases z
end
end Mi
end
section
set_option maxRecDepth 100000
set_option maxHeartbeats 1000000
namespace Mi
open PySem PySem.Spec PyProof.Rows L2 StX Kw
theorem Fin.on {α : Type} {w : Wd} {E : XK} {c c1 : Ct} {H H1 : Hp} {r : R α} {k : α → Ct → Hp → Prop} (h : Fin w E c H r k) (e : Ext c H c1 H1) : Fin w E c1 H1 r k := by
  cases r with
  | no => exact h
  | ex x S => exact fun c' H' cls dd e' => h c' H' cls dd (e.trans e')
  | ok a S => exact fun c' H' e' => h c' H' (e.trans e')
theorem upd_upd {H : Hp} {p : Addr} {a b : HO} : upd (upd H p a) p b = upd H p b := by
  funext x
  by_cases e : x = p
  · rw [e, upd_same, upd_same]
  · rw [upd_ne e, upd_ne e, upd_ne e]
theorem keyed_zip {ks : List Str} {vs : List V} : keyed (ks.zip vs) = (ks.map Sum.inr).zip vs := by
  induction ks generalizing vs with
  | nil => rfl
  | cons k r ih =>
    cases vs with
    | nil => rfl
    | cons v t => rw [List.zip_cons_cons, List.map_cons, List.zip_cons_cons, ← ih]; rfl
/-- a new instance of the class nm, its dict of keywords kvs, then __init__'s mirror -/
def mkK (nm pa : Str) (F : FT) (kvs : List (Key × D)) (s : Sto) : R D := match strKeys kvs with
  | some ks => if ks.all (fun k => decide (k ≠ pa)) = true ∧ ks.length ≤ 1000 then (F [.ref s.length, .dic kvs] (s ++ [.ins true nm []])).quiet.bind fun v s2 => match v with
      | .non => .ok (.ref s.length) s2
      | _ => .no
    else .no
  | none => .no
def spK (w : Wd) (pa : Str) (F : FT) : SpK := fun vs kvs H Q E => ∃ v, vs = [v] ∧ (∀ kv ∈ kvs, kv.1 ≠ pa) ∧ (kvs.map (·.1)).Nodup ∧ kvs.length ≤ sizeLine ∧ ∀ d, H d = none → spM w F [v, .ref d] (upd H d (.dK (keyed kvs))) Q E
theorem mkK_spec {w : Wd} {E : XK} {nm pa : Str} {F : FT} {kvs : List (Key × D)} {c : Ct} {H : Hp} {C x dx : Addr} {vs : List V} {ks : List Str} {Q : VK} (g : Good w H c) (hC : w.mg nm = some (.ref C)) (rs : RelDs w H c (kvs.map (·.2)) vs) (ek : strKeys kvs = some ks)
    (q : Fin w E c H (mkK nm pa F kvs c.S) (fun d c' H' => ∀ v, RelD w H' c' d v → Q v H')) (nd : ((ks.zip vs).map (·.1)).Nodup) (hx : H x = none) (hdx : H dx = none) (hne : dx ≠ x) :
    spK w pa F [.ref x] (ks.zip vs) (upd (upd H dx (.own x)) x (.ins C dx [])) (fun v H2 => v = .non ∧ Q (.ref x) H2) E0 := by
  simp only [mkK, ek] at q
  split at q
  · rename_i cond
    have lks : ks.length = vs.length := by
      have := congrArg List.length (strKeys_eq ek)
      rw [List.length_map, List.length_map] at this
      rw [← this, ← rs.length, List.length_map]
    have sl : sizeLine = 16777216 := sizeLine_eq
    refine ⟨.ref x, rfl, fun kv hkv => ?_, nd, by rw [List.length_zip]; omega, fun d hd => ?_⟩
    · exact of_decide_eq_true (List.all_eq_true.mp cond.1 _ (List.of_mem_zip hkv).1)
    have g1 : Good w (upd H dx (.own x)) c := g.fresh hdx
    have e1 : Ext c H c (upd H dx (.own x)) := Ext.fresh g hdx
    have hx1 : upd H dx (.own x) x = none := by rw [upd_ne (Ne.symm hne)]; exact hx
    have e2 : Ext c (upd H dx (.own x)) (c.push x (.ins true nm [])) (upd (upd H dx (.own x)) x (.ins C dx [])) := Ext.pushed g1 hx1
    have g2 : Good w (upd (upd H dx (.own x)) x (.ins C dx [])) (c.push x (.ins true nm [])) := g1.pushed hx1 (.ins (fs := []) (vs := []) hC .nil)
    have e3 : Ext (c.push x (.ins true nm [])) _ (c.push x (.ins true nm [])) (upd (upd (upd H dx (.own x)) x (.ins C dx [])) d (.dK (keyed (ks.zip vs)))) := Ext.fresh g2 hd
    have g3 : Good w (upd (upd (upd H dx (.own x)) x (.ins C dx [])) d (.dK (keyed (ks.zip vs)))) (c.push x (.ins true nm [])) := g2.fresh hd
    have et := (e1.trans e2).trans e3
    refine ⟨c.push x (.ins true nm []), [.ref c.S.length, .dic kvs], g3, ?_, ?_⟩
    · have hp : (c.push x (.ins true nm [])).p[c.S.length]? = some x := by
        show (c.p ++ [x])[c.S.length]? = some x
        rw [← g.len]
        exact List.getElem?_concat_length
      refine .cons (.ref hp) (.cons (.dic (vs := vs) (.inl ?_) (nlv_of g2 hd) (rs.ext et)) .nil)
      rw [upd_same, strKeys_eq ek, keyed_zip]
    · have q2 := (Fin.bind (q.on et)).quiet (E' := E0)
      refine q2.mono fun y c2 H2 e4 g4 z u ru => ?_
      cases y with
      | non =>
        cases ru
        refine ⟨rfl, z.here g4 rfl _ (.ref ?_)⟩
        have hp : (c.push x (.ins true nm [])).p[c.S.length]? = some x := by
          show (c.p ++ [x])[c.S.length]? = some x
          rw [← g.len]
          exact List.getElem?_concat_length
        exact e4.p _ _ hp
      | _ => exact z.elim
  · exact q.elim
section
variable {X : Cx} {E : L2.St → XK} {pos p kp : Pos} {nm pa : Str} {F : FT} {C f : Addr} {k : Nat}
/-- C() -/
def mMk0 (nm pa : Str) (F : FT) : ET := fun _ s => mkK nm pa F [] s
theorem me_mk0 (M : Mk X.K C f) (G : FnK X.prog X.w X.K X.mg X.base CX0 k f (spK (Wx X) pa F)) (hr : RoomG (k + 1) X.A) (hg : Gl X nm) (hm : X.mg nm = some (.ref C)) (hdb : (nm == ("__debug__" : Str)) = false := by decide) :
    ME X E (.Call (.Name nm p) [] [] pos) (mMk0 nm pa F) := PE.imp (pe_makeK0 M G hr hg hm pass0 hdb) fun st H Q ⟨c, env, g, re, q⟩ => by
  intro x dx hx hdx hne
  exact mkK_spec (kvs := []) (ks := []) (vs := []) g hm .nil rfl q (by simp) hx hdx hne
/-- c(**d), c and d names: a class, a dict that is not written -/
def mMkV (nm pa : Str) (F : FT) (j i : Nat) : ET := fun env s => match env[j]?, env[i]? with
  | some (some (.cls nm')), some (some (.dic kvs)) => if nm' = nm then mkK nm pa F kvs s else .no
  | _, _ => .no
theorem me_mkV {x1 x2 : Str} {p1 p2 : Pos} {j i : Nat} (hj : PE X (.Name x1 p1) (tVar j)) (hi : PE X (.Name x2 p2) (tVar i)) (M : Mk X.K C f) (G : FnK X.prog X.w X.K X.mg X.base CX0 k f (spK (Wx X) pa F)) (hr : RoomG (k + 1) X.A) (hm : X.mg nm = some (.ref C))
    (ht : eval (.Call (.Name x1 p1) [] [⟨none, .Name x2 p2, kp⟩] pos) X.env = (do callWith pos (← eval (.Name x1 p1) X.env) [] (backTo pos (starEach [] X.env)) (backToKw pos (keywordEach [⟨none, .Name x2 p2, kp⟩] X.env))) := by rfl) :
    ME X E (.Call (.Name x1 p1) [] [⟨none, .Name x2 p2, kp⟩] pos) (mMkV nm pa F j i) := PE.imp (pe_makeDD hj M G hr pass0 hi ht) fun st H Q ⟨c, env, g, re, q⟩ => by
  unfold mMkV at q
  split at q
  · rename_i nm' kvs h1 h2
    split at q
    · rename_i en
      subst en
      obtain ⟨v1, hv1, r1⟩ := re.get j _ h1
      obtain ⟨v2, hv2, r2⟩ := re.get i _ h2
      cases r1 with
      | cls hC =>
        rw [show (Wx X).mg nm' = X.mg nm' from rfl, hm] at hC
        cases hC
        refine ⟨_, hv1, rfl, fun t ht0 => ⟨_, hv2, upd_same, ?_⟩⟩
        cases r2 with
        | @dic a _ vs hs nl rs =>
          cases ek : strKeys kvs with
          | none => simp only [mkK, ek] at q; exact q.elim
          | some ks =>
            have at' : a ≠ t := fun z => by
              subst z
              rcases hs with hs | ⟨o, hs⟩ <;> (rw [ht0] at hs; cases hs)
            have hrd : Rd (upd H t (.dK [])) a (.dK (keyed (ks.zip vs))) := by
              rw [keyed_zip, ← strKeys_eq ek]
              rcases hs with hs | ⟨o, hs⟩
              · exact .inl (by rw [upd_ne at']; exact hs)
              · exact .inr ⟨o, by rw [upd_ne at']; exact hs⟩
            refine ⟨a, ks.zip vs, rfl, at', hrd, fun nd x dx hx hdx hne => ?_⟩
            rw [upd_upd] at hx hdx ⊢
            exact mkK_spec (g.fresh ht0) hm (rs.ext (Ext.fresh g ht0)) ek (q.on (Ext.fresh g ht0)) nd hx hdx hne
    · exact q.elim
  · exact q.elim
end
end Mi
end
section
set_option maxRecDepth 100000
set_option maxHeartbeats 1000000
namespace Mi
open PySem PySem.Spec PyProof.Rows L2 StX Kw
/-! ### fields -/
abbrev FVD (w : Wd) (H : Hp) (c : Ct) : List (Str × D) → List (Str × V) → Prop := Paired fun p q => p.1 = q.1 ∧ RelD w H c p.2 q.2
theorem FVD.of {w : Wd} {H : Hp} {c : Ct} : ∀ {fs : List (Str × D)} {vs : List V}, RelDs w H c (fs.map (·.2)) vs → FVD w H c fs ((fs.map (·.1)).zip vs)
  | [], _, .nil => .nil
  | kv :: r, _, .cons h t => .cons ⟨rfl, h⟩ (FVD.of t)
theorem FVD.to {w : Wd} {H : Hp} {c : Ct} : ∀ {fs : List (Str × D)} {ks : List (Str × V)}, FVD w H c fs ks → ∃ vs, ks = (fs.map (·.1)).zip vs ∧ RelDs w H c (fs.map (·.2)) vs
  | [], _, .nil => ⟨[], rfl, .nil⟩
  | kv :: r, _, .cons (b := b) h t => by
    obtain ⟨vs, e, rs⟩ := FVD.to t
    obtain ⟨b1, b2⟩ := b
    have h1 : kv.1 = b1 := h.1
    exact ⟨b2 :: vs, by rw [List.map_cons, List.zip_cons_cons, ← e, h1], .cons h.2 rs⟩
theorem FVD.tw {w : Wd} {H H' : Hp} {c c' : Ct} (e : Tw c H c' H') : ∀ {fs : List (Str × D)} {ks : List (Str × V)}, FVD w H c fs ks → FVD w H' c' fs ks
  | _, _, .nil => .nil
  | _, _, .cons h t => .cons ⟨h.1, h.2.tw e⟩ (FVD.tw e t)
def putFD (f : Str) (v : D) : List (Str × D) → List (Str × D)
  | [] => [(f, v)]
  | (g, x) :: r => if g = f then (g, v) :: r else (g, x) :: putFD f v r
theorem FVD.put {w : Wd} {H : Hp} {c : Ct} {f : Str} {d : D} {v : V} (r : RelD w H c d v) : ∀ {fs : List (Str × D)} {ks : List (Str × V)}, FVD w H c fs ks → FVD w H c (putFD f d fs) (putF f v ks)
  | _, _, .nil => .cons ⟨rfl, r⟩ .nil
  | _, _, .cons (a := a) (b := b) h t => by
    obtain ⟨a1, a2⟩ := a
    obtain ⟨b1, b2⟩ := b
    have h1 : a1 = b1 := h.1
    subst h1
    simp only [putFD, putF]
    split
    · exact .cons ⟨rfl, r⟩ t
    · exact .cons h (FVD.put r t)
theorem FVD.get {w : Wd} {H : Hp} {c : Ct} {f : Str} {d : D} : ∀ {fs : List (Str × D)} {ks : List (Str × V)}, FVD w H c fs ks → fs.lookup f = some d → ∃ v, ks.lookup f = some v ∧ RelD w H c d v
  | _, _, .nil, e => by cases e
  | _, _, .cons (a := a) (b := b) h t, e => by
    obtain ⟨a1, a2⟩ := a
    obtain ⟨b1, b2⟩ := b
    have h1 : a1 = b1 := h.1
    subst h1
    rw [List.lookup_cons] at e ⊢
    cases q : f == a1 with
    | true => rw [q] at e; cases e; exact ⟨b2, rfl, h.2⟩
    | false => rw [q] at e; exact FVD.get t e
theorem FVD.length {w : Wd} {H : Hp} {c : Ct} {fs : List (Str × D)} {ks : List (Str × V)} (h : FVD w H c fs ks) : fs.length = ks.length := Paired.length h
/-- o.f = e, o an instance of the class nm that may be written -/
def sSetF (nm f : Str) (fv fo : ET) : SM := fun env s => (fv env s).st env fun v s1 => (fo env s1).st env fun o s2 => match o with
  | .ref n => match s2[n]? with
    | some (.ins true nm' fs) => if nm' = nm ∧ fs.length < 1000 then .fl (.nx env) (s2.set n (.ins true nm (putFD f v fs))) else .no
    | _ => .no
  | _ => .no
/-- o.f, an instance of the class nm -/
def fldD (nm f : Str) (s : Sto) (d : D) : Option D := match d with
  | .ref n => match s[n]? with
    | some (.ins _ nm' fs) => if nm' = nm then fs.lookup f else none
    | _ => none
  | .ins nm' fs => if nm' = nm then fs.lookup f else none
  | _ => none
section
variable {X : Cx} {E : L2.St → XK} {pos p ap : Pos} {nm f : Str} {C : Addr} {fa fv fo : ET} {o e : Expr}
theorem ms_setF (he : ME X E e fv) (ho : ME X E o fo) (hm : X.mg nm = some (.ref C)) (hC : Cls X.K C) (hN : NoAttr X.K C f) (hs : swapsWith e (some (.Attribute o f ap)) pos.line X.env = pure false := by rfl) :
    MS X E (.Assign [.Attribute o f ap] e pos) (sSetF nm f fv fo) := PS.imp (ps_fld ho he hs) fun En st H ⟨c, env, g, re, q⟩ => by
  refine ⟨c, env, g, re, (FinS.of_st re q).mono fun d c1 H1 e1 g1 q1 v rv => ?_⟩
  refine ⟨c1, env, g1, re.ext e1, (FinS.of_st (re.ext e1) q1).mono fun d2 c2 H2 e2 g2 q2 v2 rv2 => ?_⟩
  split at q2
  · rename_i n
    split at q2
    · rename_i nm' fs zx
      split at q2
      · rename_i cond
        obtain ⟨en, hl⟩ := cond
        subst en
        cases rv2 with
        | @ref _ a hn =>
          obtain ⟨ho2, hq, ro⟩ := g2.obj n a _ hn zx
          cases ro with
          | @ins _ C' dx _ _ vs hm' rs =>
            rw [show (Wx X).mg nm' = X.mg nm' from rfl, hm] at hm'
            cases hm'
            have fv0 := FVD.of rs
            refine ⟨a, C, dx, _, rfl, hq, hC, hN, by rw [← FVD.length fv0]; exact hl, ?_⟩
            obtain ⟨vs2, e3, rs3⟩ := FVD.to (FVD.put (f := f) (rv.ext e2) fv0)
            rw [e3]
            have ex : Ext c2 H2 (c2.put n (.ins true nm' (putFD f d fs))) (upd H2 a (.ins C dx (((putFD f d fs).map (·.1)).zip vs2))) := Ext.wrote g2 hn zx rfl
            exact q2 (c2.put n (.ins true nm' (putFD f d fs))) _ ex (g2.wrote hn zx rfl (.ins hm (rs3.ext ex))) rfl st (((re.ext e1).ext e2).ext ex)
      · exact q2.elim
    · exact q2.elim
  · exact q2.elim
theorem me_fld (ho : ME X E o fa) (hm : X.mg nm = some (.ref C)) (hC : Cls X.K C) (hN : NoAttr X.K C f) (hb : attributeBase o f X.env (eval o X.env) = eval o X.env := by rfl) : ME X E (.Attribute o f pos) (mUn (fldD nm f) fa) := by
  refine PE.imp (pe_fld ho hb) fun st H Q ⟨c, env, g, re, q⟩ => ?_
  refine ⟨c, env, g, re, (Fin.bind q).mono fun d c1 H1 e1 g1 q1 v rv => ?_⟩
  cases z : fldD nm f c1.S d with
  | none => rw [z] at q1; exact q1.elim
  | some y =>
    rw [z] at q1
    unfold fldD at z
    split at z
    · rename_i n
      split at z
      · rename_i m nm' fs zx
        split at z
        · rename_i en
          subst en
          cases rv with
          | @ref _ a hn =>
            obtain ⟨ho2, hq, ro⟩ := g1.obj n a _ hn zx
            cases ro with
            | @ins _ C' dx _ _ vs hm' rs =>
              rw [show (Wx X).mg nm' = X.mg nm' from rfl, hm] at hm'
              cases hm'
              obtain ⟨v2, hv2, r2⟩ := FVD.get (FVD.of rs) z
              exact ⟨a, C, dx, _, v2, rfl, hq, hC, hN, hv2, q1.here g1 rfl _ r2⟩
        · cases z
      · cases z
    · rename_i nm' fs
      split at z
      · rename_i en
        subst en
        cases rv with
        | @ins a C' dx _ _ vs hq hm' nl rs =>
          rw [show (Wx X).mg nm' = X.mg nm' from rfl, hm] at hm'
          cases hm'
          obtain ⟨v2, hv2, r2⟩ := FVD.get (FVD.of rs) z
          exact ⟨a, C, dx, _, v2, rfl, hq, hC, hN, hv2, q1.here g1 rfl _ r2⟩
      · cases z
    · cases z
end
/-! ### a def with keywords keeps its mirror -/
section
variable {P : Program} {w : World} {K : PySem.W.Frag} {mg : Str → Option Value} {base : Heap}
theorem body_mir {N : List Str} {n : Nat} {Xc : Cx} {sts : List Stmt} {body : SM} {vs : List V} {H : Hp} {Q : VK} {E : XK} (hX : Xc.K = K) (hm : Xc.mg = mg) (h : spM ⟨K, mg⟩ (mFun N.length n body) vs H Q E) (_hb : MSs Xc E00 sts body) :
    tMS ⟨K, mg⟩ E00 body { nx := fun _ H' => Q .non H', rt := Q } (start N vs) H := by
  obtain ⟨c, ds, g, r, q⟩ := h
  by_cases e : ds.length = n
  · refine ⟨c, _, g, r.start N, ?_⟩
    rw [mFun, if_pos e] at q
    rw [← e] at q
    cases z : body (ds.map some ++ List.replicate (N.length - ds.length) none) c.S with
    | no => rw [z] at q; exact q.elim
    | ex x en S1 => rw [z] at q; exact fun c' H' cls dd st' e' g' s' re' rx => q c' H' cls dd e' g' s' rx
    | fl fl S1 =>
      rw [z] at q
      intro c1 H1 e1 g1 s1
      cases fl with
      | nx en => exact fun st' re' => q c1 H1 e1 g1 s1 _ .non
      | rt d => exact fun v rv => q c1 H1 e1 g1 s1 v rv
      | bk en => exact q.elim
      | ct en => exact q.elim
  · rw [mfun_len e (d := .non) (s' := [])] at q; exact q.elim
theorem fn_mirK {x qual : Str} {st : Stmt} {f : Addr} {oc : Value} {od an : Option Addr} {osl : Array (Option Value)} {kV doc pm cdv ct : Value} {N : List Str} {k : Nat} {body : SM} {pa pk : Arg}
    (lk : K.lookup f = some ⟨oc, od, .func (PySem.W.fnOf x qual (defArgs st) (defBody st) (defScope st) .none kV doc pm an cdv ct), osl⟩) (hcd : PySem.W.codeIn K cdv qual = true) (S : FnScope N [pa.arg, pk.arg] (defScope st))
    (hp : defArgs st = { posonlyargs := [], args := [pa], vararg := none, kwonlyargs := [], kw_defaults := [], kwarg := some pk, defaults := [] })
    (hb : ∀ (A : Around) (outer : List PySem.Env) (s : Shared) (H : Hp) (E : XK), RoomG k (A.deeper (envOfC qual (defScope st) s.heap.objs.size f cdv)) →
      MSs (cxOf CX0 P w K mg base N qual (defScope st) f cdv A outer s H E).nox E00 (defBody st) body) : FnK P w K mg base CX0 (k + 1) f (spK ⟨K, mg⟩ pa.arg (mFun N.length 2 body)) :=
  fn_kw1 (sp := spM ⟨K, mg⟩ (mFun N.length 2 body)) lk hcd S cxUp_none hp fun A outer s H vs Q E hr h => ⟨_, (hb A outer s H E hr).nox, body_mir rfl rfl h (hb A outer s H E hr)⟩
end
end Mi
end
section
set_option maxRecDepth 100000
set_option maxHeartbeats 1000000
namespace Mi
open PySem PySem.Spec PyProof.Rows L2 StX Kw ClX
section
variable {X : Cx} {CX : CXT} {k : Nat} {C p g : Addr} {mc : Value} {sp : Sp} {o e : Expr} {es : List Expr} {m : Str} {pos apos : Pos} {ta : TE} {t : TA} {pl : Sem Bool} {fd : FuncData} {ps : List Str}
theorem code_fnG {E : XK} {pins : List (Addr × Obj)} {σ : L2.St} {H : Hp} {s : Shared} {Q : VK} {us : List Value} {vs : List V} (F : FnG X.prog X.w X.K X.mg X.base CX k g fd ps sp) (hr : RoomG k X.A) (hb : Binds X.K fd ps []) (hx : Passes CX X E)
    (I : Inv X pins σ H s) (r : Vals vs us) (h : sp vs H Q E) :
    codeAny (model X.prog X.w) X.A (.call (.ref g) ⟨us, []⟩) (fun r s' => match r with | .ok (.ret v) => EP X pins σ Q v s' | .ok _ => False | .error e => X.xe e s') s := by
  have hl : (us ++ []).length = ps.length := by rw [List.append_nil]; exact r.length.symm.trans (F.len _ _ _ _ h)
  have hb2 := hb s us I.kIn hl
  rw [List.append_nil] at hb2
  refine codeAny_mono (F.run X.A X.stack s H ⟨us, []⟩ _ _ Q E hr I.env0 hb2 r h) fun res s2 y => ?_
  cases res with
  | error x => exact hx pins σ H s x s2 I y
  | ok fl =>
    cases fl with
    | ret u => exact I.after y
    | next => exact y.elim
    | brk => exact y.elim
    | cont => exact y.elim
theorem pe_cmG {E : XK} (he : PE X o ta) (r : CRead X.K C mc) (c : CMet X.K C mc m p g) (F : FnG X.prog X.w X.K X.mg X.base CX k g fd ps sp) (hr : RoomG k X.A) (hb : Binds X.K fd ps []) (hx : Passes CX X E) (ha : PA X (e :: es) t)
    (hst : starEach (e :: es) X.env = (false, eval e X.env) :: starEach es X.env := by rfl) (hpl : (backTo pos (starEach es X.env)).any (·.1) = false := by rfl)
    (ht : eval (.Call (.Attribute o m apos) (e :: es) [] pos) X.env = (do
      let ov ← eval o X.env
      standAt apos.atName
      let (f, first) ← holding [ov] (getMethod ov m pl)
      callWith pos f first (backTo pos (starEach (e :: es) X.env)) (backToKw pos (keywordEach [] X.env))) := by rfl) :
    PE X (.Call (.Attribute o m apos) (e :: es) [] pos) (tCMeth C sp E ta t) := by
  refine ⟨fun pins s σ H Q I h => PySem.W.methodCall_KW (pl := pl) (thn (he.run pins s σ H _ I h) fun u s1 ⟨x, H1, I1, rx, ex, q⟩ => ?_) ht⟩
  subst ex
  obtain rfl : u = Value.ref C := rx
  refine getmethcm_ok I1 r c fun s2 I2 => callwith_cm I2 (base_none I1 (Nat.le_refl _)) c.fi (thn (ha.run pos _ s2 σ H1 _ I2 q) fun us s3 z => ?_) hst hpl
  obtain ⟨vs, H2, I3, rv, q2⟩ := z
  refine ⟨⟨pin_at I3, I3.kIn⟩, thn (wpAny_call (PySem.W.method_call (pin_at I3) (code_fnG (us := .ref C :: us) (vs := .ref C :: vs) F hr hb hx I3 (.cons rfl rv) q2))) fun _ _ y => unpinE y⟩
end
/-- C.m(..), m a classmethod of the class nm -/
def mCm (nm : Str) (F : FT) (fs : AT) : ET := fun env s => (fs env s).bind fun ds s1 => (F (.cls nm :: ds) s1).quiet
section
variable {X : Cx} {E : L2.St → XK} {k : Nat} {C p g : Addr} {mc : Value} {a e : Expr} {es : List Expr} {m nm : Str} {pos apos p1 : Pos} {pl : Sem Bool} {fd : FuncData} {ps : List Str} {F : FT} {fs : AT} {fa : ET}
theorem me_cm (hg : Gl X nm) (hm : X.mg nm = some (.ref C)) (r : CRead X.K C mc) (c : CMet X.K C mc m p g) (G : FnG X.prog X.w X.K X.mg X.base CX0 k g fd ps (spM (Wx X) F)) (hr : RoomG k X.A) (hb : Binds X.K fd ps []) (ha : MA X E (a :: es) fs)
    (hdb : (nm == ("__debug__" : Str)) = false := by decide)
    (hst : starEach (a :: es) X.env = (false, eval a X.env) :: starEach es X.env := by rfl) (hpl : (backTo pos (starEach es X.env)).any (·.1) = false := by rfl)
    (ht : eval (.Call (.Attribute (.Name nm p1) m apos) (a :: es) [] pos) X.env = (do
      let ov ← eval (.Name nm p1) X.env
      standAt apos.atName
      let (f, first) ← holding [ov] (getMethod ov m pl)
      callWith pos f first (backTo pos (starEach (a :: es) X.env)) (backToKw pos (keywordEach [] X.env))) := by rfl) :
    ME X E (.Call (.Attribute (.Name nm p1) m apos) (a :: es) [] pos) (mCm nm F fs) := by
  refine PE.imp (pe_cmG (pl := pl) (pe_glob (v := .ref C) hg hm rfl hdb) r c G hr hb pass0 ha hst hpl ht) fun st H Q ⟨c, env, g, re, q⟩ => ?_
  refine ⟨rfl, c, env, g, re, (Fin.bind q).mono fun ds c1 H1 e1 g1 q1 vs rvs => ?_⟩
  exact ⟨c1, .cls nm :: ds, g1, .cons (.cls hm) rvs, q1.quiet⟩
end
/-! ### isinstance, of instances too -/
structure ClF (K : PySem.W.Frag) (mg : Str → Option Value) (nm : Str) (C : Addr) : Prop where
  mgx : mg nm = some (.ref C)
  cl : Cls K C
  ca : PySem.W.findIn K (.ref C) "__class__" = some (some (.builtin "object.__class__"))
  cg : PySem.W.specialIn K (.builtin "object.__class__") "__get__" = some (some (.builtin "getset_descriptor.__get__"))
  ct : PySem.W.takesIn K (.builtin "object.__class__") = some true
  cm : PySem.W.mroIn K C (.type "object") = some true
def clsD (s : Sto) : D → Option Str
  | .ref n => match s[n]? with
    | some (.ins _ nm _) => some nm
    | _ => none
  | .ins nm _ => some nm
  | _ => none
def isiX (nm : Str) (T : String) (s : Sto) (d : D) : Option D := match clsD s d with
  | some nm' => if nm' = nm then some (.bl false) else none
  | none => isiD T s d
theorem clsD_ok {w : Wd} {H : Hp} {c : Ct} {d : D} {v : V} {nm : Str} {C : Addr} (g : Good w H c) (r : RelD w H c d v) (h : clsD c.S d = some nm) (F : ClF w.K w.mg nm C) : TyX w.K H v (.ref C) := by
  cases r with
  | @ref n a hn =>
    simp only [clsD] at h
    split at h
    · rename_i m nm' fs e
      cases h
      obtain ⟨ho, q, ro⟩ := g.obj n a _ hn e
      cases ro with
      | ins hm rs =>
        rw [F.mgx] at hm
        cases hm
        exact .base (.ins q F.cl F.ca F.cg F.ct F.cm)
    · cases h
  | ins hq hm nl rs =>
    cases h
    rw [F.mgx] at hm
    cases hm
    exact .base (.ins hq F.cl F.ca F.cg F.ct F.cm)
  | _ => simp [clsD] at h
section
variable {X : Cx} {E : L2.St → XK} {a : Expr} {pos p p2 : Pos} {fa : ET} {nm : Str} {C : Addr} {T : String} {x y : Str}
theorem me_isiX (F : ClF X.K X.mg nm C) (kt : PySem.W.kitOne X.K (.ref C) (.type T) = some false) (hg : Gl X x) (hm : X.mg x = none) (hv : bootBuiltins x = some (.builtin "isinstance")) (hg2 : Gl X y) (hm2 : X.mg y = none) (hv2 : bootBuiltins y = some (.type T)) (ha : ME X E a fa)
    (hn : x ≠ "__name__" := by decide) (hdb : (x == ("__debug__" : Str)) = false := by decide) (hn2 : y ≠ "__name__" := by decide) (hdb2 : (y == ("__debug__" : Str)) = false := by decide)
    (he : starEach [a, .Name y p2] X.env = (false, eval a X.env) :: starEach [.Name y p2] X.env := by rfl) (he2 : starEach [.Name y p2] X.env = (false, eval (.Name y p2) X.env) :: starEach [] X.env := by rfl)
    (hpl : (backTo pos (starEach [.Name y p2] X.env)).any (·.1) = false := by rfl) : ME X E (.Call (.Name x p) [a, .Name y p2] [] pos) (mUn (isiX nm T) fa) := by
  refine PE.imp (pe_callB call_isi hg hm hv (pa_cons ha (pa_cons (pe_bltn (v := .ty T) hg2 hm2 hv2 rfl hn2 hdb2) pa_nil he2) he) hn hdb he hpl) fun st H Q ⟨c, env, g, re, q⟩ => ?_
  refine ⟨c, env, g, re, (Fin.bind q).mono fun d c1 H1 e1 g1 q1 v rv => ?_⟩
  show rIsi X.K [v, .ty T] H1 Q
  cases z0 : clsD c1.S d with
  | some nm' =>
    simp only [isiX, z0] at q1
    by_cases en : nm' = nm
    · subst en
      rw [if_pos rfl] at q1
      exact ⟨v, .ty T, .ref C, .type T, false, rfl, .ty T, clsD_ok g1 rv z0 F, kt, q1.here g1 rfl _ (.bl false)⟩
    · rw [if_neg en] at q1; exact q1.elim
  | none =>
    cases z : tyName c1.S d with
    | none => simp only [isiX, isiD, z0, z] at q1; exact q1.elim
    | some n =>
      cases z2 : kitB n T with
      | none => simp only [isiX, isiD, z0, z, z2] at q1; exact q1.elim
      | some b =>
        simp only [isiX, isiD, z0, z, z2] at q1
        exact ⟨v, .ty T, .type n, .type T, b, rfl, .ty T, tyName_ok g1 rv z, kit_ty z2, q1.here g1 rfl _ (.bl b)⟩
end
/-! ### lists that may be written: a + b as a new one, append -/
def mAddR (fa fb : ET) : ET := fun env s => (fa env s).bind fun d s1 => (fb env s1).bind fun e s2 => match asL s2 d, asL s2 e with
  | some xs, some ys => if xs.length + ys.length ≤ sizeLine then .ok (.ref s2.length) (s2 ++ [.lst true (xs ++ ys)]) else .no
  | _, _ => .no
def mApp (fo fv : ET) : ET := fun env s => (fo env s).bind fun o s1 => match o with
  | .ref n => match s1[n]? with
    | some (.lst true _) => (fv env s1).bind fun v s2 => match s2[n]? with
      | some (.lst true xs) => if xs.length < sizeLine then .ok .non (s2.set n (.lst true (xs ++ [v]))) else .no
      | _ => .no
    | _ => .no
  | _ => .no
section
variable {X : Cx} {E : L2.St → XK} {a b : Expr} {pos apos : Pos} {fa fb : ET}
theorem me_app (ho : ME X E b fa) (ha : ME X E a fb)
    (hbase : attributeBase b "append" X.env (eval b X.env) = eval b X.env := by rfl)
    (hfew : ((backTo pos (starEach [a] X.env)).all (fun x => !x.1) && (backToKw pos (keywordEach [] X.env)).all (fun x => x.1.isSome)
      && decide ([a].length + ([] : List Keyword).length + (if ([] : List Keyword).isEmpty then 0 else 1) < 30)) = true := by rfl)
    (hline : (apos.endLine == pos.line) = true := by rfl) (hs : starEach [a] X.env = (false, eval a X.env) :: starEach [] X.env := by rfl) (hplain : (backTo pos (starEach [] X.env)).any (·.1) = false := by rfl) :
    ME X E (.Call (.Attribute b "append" apos) [a] [] pos) (mApp fa fb) := PE.imp (pe_bm PySem.F.plainAttrs_list PySem.F.slot_list_append PySem.F.type_list_append mt_append ho (pa_cons ha pa_nil hs) hbase hfew hline hs hplain) fun st H Q ⟨c, env, g, re, q⟩ => by
  refine ⟨c, env, g, re, (Fin.bind q).mono fun d c1 H1 e1 g1 q1 v rv => ?_⟩
  split at q1
  · rename_i n
    split at q1
    · rename_i zs z1
      cases rv with
      | @ref _ l hn =>
        obtain ⟨ho1, hq1, ro1⟩ := g1.obj n l _ hn z1
        cases ro1 with
        | @lst _ _ vs1 rs1 =>
          refine ⟨.inl ⟨rfl, vs1, .inl (.inl hq1)⟩, c1, env, g1, re.ext e1, (Fin.bind q1).mono fun y c2 H2 e2 g2 q2 u ru => ?_⟩
          split at q2
          · rename_i xs z2
            split at q2
            · rename_i hl
              have hn2 := e2.p _ _ hn
              obtain ⟨ho2, hq2, ro2⟩ := g2.obj n l _ hn2 z2
              cases ro2 with
              | @lst _ _ vs2 rs2 =>
                refine ⟨l, vs2, u, rfl, rfl, hq2, by rw [← rs2.length]; exact hl, ?_⟩
                have ex : Ext c2 H2 (c2.put n (.lst true (xs ++ [y]))) (upd H2 l (.lst (vs2 ++ [u]))) := Ext.wrote g2 hn2 z2 rfl
                exact q2 (c2.put n (.lst true (xs ++ [y]))) _ ex (g2.wrote hn2 z2 rfl (.lst ((rs2.append (.cons ru .nil)).ext ex))) rfl _ .non
            · exact q2.elim
          · exact q2.elim
    · exact q1.elim
  · exact q1.elim
/-- xs + ys, a new list that may be written -/
theorem me_addR (ha : ME X E a fa) (hb : ME X E b fb) : ME X E (.BinOp a .Add b pos) (mAddR fa fb) := by
  refine PE.imp (pe_op op_cat ha hb) fun st H Q ⟨c, env, g, re, q⟩ => ?_
  refine ⟨c, env, g, re, (Fin.bind q).mono fun d c1 H1 e1 g1 q1 v rv => ?_⟩
  refine ⟨c1, env, g1, re.ext e1, (Fin.bind q1).mono fun y c2 H2 e2 g2 q2 u ru => ?_⟩
  have r1 := rv.ext e2
  split at q2
  · rename_i xs ys z1 z2
    split at q2
    · rename_i hl
      obtain ⟨l, vs, rfl, hq1, rs1⟩ := asL_ok g2 r1 z1
      obtain ⟨l2, us, rfl, hq2, rs2⟩ := asL_ok g2 ru z2
      refine ⟨l, l2, vs, us, rfl, rfl, hq1, hq2, by rw [← rs1.length, ← rs2.length]; exact hl, fun p hp => ?_⟩
      exact q2 (c2.push p (.lst true (xs ++ ys))) _ (Ext.pushed g2 hp) (g2.pushed hp (.lst ((rs1.append rs2).ext (Ext.pushed g2 hp)))) rfl _ (ref_new g2)
    · exact q2.elim
  · exact q2.elim
end
end Mi
end
section
set_option maxRecDepth 100000
set_option maxHeartbeats 1000000
namespace Mi
open PySem PySem.Spec PyProof.Rows L2 StX Kw ClX
/-- {'k': e} -/
def mDic1 (x : Str) (fv : ET) : ET := fun env s => (fv env s).bind fun v s2 => .ok (.dic [(.inr x, v)]) s2
section
variable {X : Cx} {E : L2.St → XK} {e : Expr} {pos cp : Pos} {fv : ET} {x : Str} {j : Nat}
theorem me_dic1 (he : ME X E e fv) (hne : ∀ env s y S, fv env s ≠ .ex y S) : ME X E (.Dict [some (.Constant (.str x) j cp)] [e] pos) (mDic1 x fv) := by
  refine PE.imp (pe_disp (pps_cons pe_str he pps_nil) rfl rfl (by simp) (by simp)) fun st H Q ⟨c, env, g, re, q⟩ => ?_
  intro p hp
  cases zf : fv env c.S with
  | no => simp only [mDic1, zf] at q; exact q.elim
  | ex y S => exact absurd zf (hne env c.S y S)
  | ok d S =>
    simp only [mDic1, zf, bind_ok] at q
    refine ⟨c.gh p, env, g.gh hp, re.tr (Tr.gh hp), ?_⟩
    show Fin _ _ _ _ (fv env c.S) _
    rw [zf]
    intro c1 H1 e1 g1 s1 v rv
    have gs1 : c1.gs = p :: c.gs := e1.gs
    have mem : p ∈ c1.gs := by rw [gs1]; exact List.mem_cons_self
    have sub : ∀ b ∈ c.gs, b ∈ c1.gs := fun b hb => by rw [gs1]; exact List.mem_cons_of_mem _ hb
    refine ⟨by rw [e1.gk p (show p ∈ p :: c.gs from List.mem_cons_self), upd_same], [(.inr x, v)], rfl, by simp, ?_⟩
    have nl : ¬ Lv (c1.ug c.gs) p := by
      rintro (⟨n, o, en, _, _⟩ | h)
      · exact (g1.gst p mem).2 (List.mem_of_getElem? (show c1.p[n]? = some p from en))
      · exact g.gne hp (show p ∈ c.gs from h) rfl
    have sub2 : ∀ b ∈ c.gs, b ∈ c1.gs := sub
    have t2 : Tr c1 H1 (c1.ug c.gs) (upd H1 p (.dK [(.inr x, v)])) := (Tr.grow mem).trans (Tr.ug sub2)
    have ex : Ext c H (c1.ug c.gs) (upd H1 p (.dK [(.inr x, v)])) := ⟨((Tr.gh hp).trans e1.toTr).trans t2, rfl, fun b hb => by
      have bp : b ≠ p := g.gne hp hb
      rw [upd_ne bp, e1.gk b (List.mem_cons_of_mem _ hb), upd_ne bp]⟩
    exact q _ _ ex ((g1.grow mem).ug sub2) s1 _ (.dic (vs := [v]) (.inl upd_same) nl (.cons (rv.tr t2) .nil))
end
end Mi
end
section
set_option maxRecDepth 100000
set_option maxHeartbeats 1000000
namespace Mi
open PySem L2
/-! ### a calculus of what a mirror reaches -/
def Wp {α : Type} (r : R α) (Q : α → Sto → Prop) : Prop := match r with
  | .ok a s => Q a s
  | _ => False
def WpS (r : SR) (Q : Fl → Sto → Prop) : Prop := match r with
  | .fl f s => Q f s
  | _ => False
section
variable {α β : Type} {r : R α} {Q Q' : α → Sto → Prop} {s : Sto} {env : Env}
@[simp] theorem Wp_ok {a : α} : Wp (.ok a s) Q = Q a s := rfl
@[simp] theorem Wp_no : Wp (.no : R α) Q = False := rfl
@[simp] theorem Wp_ex {x : Xn} : Wp (.ex x s : R α) Q = False := rfl
@[simp] theorem Wp_bind {g : α → Sto → R β} {Q : β → Sto → Prop} : Wp (r.bind g) Q = Wp r fun a s => Wp (g a s) Q := by cases r <;> rfl
@[simp] theorem Wp_quiet : Wp r.quiet Q = Wp r Q := by cases r <;> rfl
theorem Wp.mono (h : Wp r Q) (i : ∀ a s, Q a s → Q' a s) : Wp r Q' := by
  cases r with
  | ok a s => exact i a s h
  | ex x s => exact h
  | no => exact h
theorem Wp.out (h : Wp r Q) : ∃ a s, r = .ok a s ∧ Q a s := by
  cases r with
  | ok a s => exact ⟨a, s, rfl, h⟩
  | ex x s => exact h.elim
  | no => exact h.elim
theorem Wp_ite {c : Prop} [Decidable c] {r' : R α} : Wp (if c then r else r') Q = if c then Wp r Q else Wp r' Q := by split <;> rfl
theorem WpS.mono {r : SR} {Q Q' : Fl → Sto → Prop} (h : WpS r Q) (i : ∀ a s, Q a s → Q' a s) : WpS r Q' := by
  cases r with
  | fl a s => exact i a s h
  | ex x e s => exact h
  | no => exact h
@[simp] theorem WpS_fl {f : Fl} {Q : Fl → Sto → Prop} : WpS (.fl f s) Q = Q f s := rfl
@[simp] theorem WpS_no {Q : Fl → Sto → Prop} : WpS .no Q = False := rfl
@[simp] theorem WpS_st {r : R D} {g : D → Sto → SR} {Q : Fl → Sto → Prop} : WpS (r.st env g) Q = Wp r fun d s => WpS (g d s) Q := by cases r <;> rfl
@[simp] theorem WpS_bt {r : R Bool} {g : Bool → Sto → SR} {Q : Fl → Sto → Prop} : WpS (r.bt env g) Q = Wp r fun d s => WpS (g d s) Q := by cases r <;> rfl
@[simp] theorem WpS_lt {r : R (List D)} {g : List D → Sto → SR} {Q : Fl → Sto → Prop} : WpS (r.lt env g) Q = Wp r fun d s => WpS (g d s) Q := by cases r <;> rfl
@[simp] theorem WpS_it {r : R (List D × (Sto → Prop))} {g : List D × (Sto → Prop) → Sto → SR} {Q : Fl → Sto → Prop} : WpS (r.it env g) Q = Wp r fun d s => WpS (g d s) Q := by cases r <;> rfl
/-- behind a statement -/
def Nx (g : Env → Sto → Prop) (Q : Fl → Sto → Prop) : Fl → Sto → Prop := fun f s => match f with
  | .nx e => g e s
  | f => Q f s
@[simp] theorem Nx_nx {g : Env → Sto → Prop} {Q : Fl → Sto → Prop} {e : Env} : Nx g Q (.nx e) s = g e s := rfl
@[simp] theorem Nx_rt {g : Env → Sto → Prop} {Q : Fl → Sto → Prop} {d : D} : Nx g Q (.rt d) s = Q (.rt d) s := rfl
@[simp] theorem Nx_bk {g : Env → Sto → Prop} {Q : Fl → Sto → Prop} {d : Env} : Nx g Q (.bk d) s = Q (.bk d) s := rfl
@[simp] theorem Nx_ct {g : Env → Sto → Prop} {Q : Fl → Sto → Prop} {d : Env} : Nx g Q (.ct d) s = Q (.ct d) s := rfl
@[simp] theorem WpS_then {r : SR} {g : Env → Sto → SR} {Q : Fl → Sto → Prop} : WpS (r.then g) Q = WpS r (Nx (fun e s => WpS (g e s) Q) Q) := by
  cases r with
  | fl f s => cases f <;> rfl
  | ex x e s => rfl
  | no => rfl
end
section
variable {env : Env} {s : Sto} {Q : D → Sto → Prop} {Qb : Bool → Sto → Prop} {Qa : List D → Sto → Prop} {Qs : Fl → Sto → Prop}
@[simp] theorem mVar_ap {i : Nat} : Wp (mVar i env s) Q = ∃ d, env[i]? = some (some d) ∧ Q d s := by
  unfold mVar
  cases h : env[i]? with
  | none => simp
  | some o => cases o <;> simp
@[simp] theorem mC_ap {d : D} : mC d env s = .ok d s := rfl
@[simp] theorem mOp_ap {op : Op2} {fa fb : ET} : Wp (mOp op fa fb env s) Q = Wp (fa env s) fun d s1 => Wp (fb env s1) fun e s2 => ∃ z, op s2 d e = some z ∧ Q z s2 := by
  simp only [mOp, Wp_bind]
  congr; funext d s1; congr; funext e s2
  cases op s2 d e <;> simp
@[simp] theorem mUn_ap {op : Sto → D → Option D} {fa : ET} : Wp (mUn op fa env s) Q = Wp (fa env s) fun d s1 => ∃ z, op s1 d = some z ∧ Q z s1 := by
  simp only [mUn, Wp_bind]
  congr; funext d s1
  cases op s1 d <;> simp
@[simp] theorem mB_ap {fa : ET} : Wp (mB fa env s) Qb = Wp (fa env s) fun d s1 => ∃ b, d = .bl b ∧ Qb b s1 := by
  simp only [mB, Wp_bind]
  congr; funext d s1
  cases d <;> simp
@[simp] theorem mTru_ap {fa : ET} : Wp (mTru fa env s) Qb = Wp (fa env s) fun d s1 => ∃ b, truD s1 d = some b ∧ Qb b s1 := by
  simp only [mTru, Wp_bind]
  congr; funext d s1
  cases truD s1 d <;> simp
@[simp] theorem mAnd_ap {fa fb : ET} : Wp (mAnd fa fb env s) Q = Wp (fa env s) fun d s1 => (truD s1 d = some true ∧ Wp (fb env s1) Q) ∨ (truD s1 d = some false ∧ Q d s1) := by
  simp only [mAnd, Wp_bind]
  congr; funext d s1
  cases truD s1 d with
  | none => simp
  | some b => cases b <;> simp
@[simp] theorem mOr_ap {fa fb : ET} : Wp (mOr fa fb env s) Q = Wp (fa env s) fun d s1 => (truD s1 d = some false ∧ Wp (fb env s1) Q) ∨ (truD s1 d = some true ∧ Q d s1) := by
  simp only [mOr, Wp_bind]
  congr; funext d s1
  cases truD s1 d with
  | none => simp
  | some b => cases b <;> simp
@[simp] theorem mNot_ap {fa : ET} : Wp (mNot fa env s) Q = Wp (fa env s) fun d s1 => ∃ b, truD s1 d = some b ∧ Q (.bl (!b)) s1 := by
  simp only [mNot, Wp_bind]
  congr; funext d s1
  cases truD s1 d <;> simp
@[simp] theorem bAnd_ap {fa fb : BT} : Wp (bAnd fa fb env s) Qb = Wp (fa env s) fun b s1 => if b then Wp (fb env s1) Qb else Qb false s1 := by
  simp only [bAnd, Wp_bind]
  congr; funext b s1
  cases b <;> simp
@[simp] theorem bOr_ap {fa fb : BT} : Wp (bOr fa fb env s) Qb = Wp (fa env s) fun b s1 => if b then Qb true s1 else Wp (fb env s1) Qb := by
  simp only [bOr, Wp_bind]
  congr; funext b s1
  cases b <;> simp
@[simp] theorem bNot_ap {fa : BT} : Wp (bNot fa env s) Qb = Wp (fa env s) fun b s1 => Qb (!b) s1 := by simp [bNot]
@[simp] theorem bYes_ap : bYes env s = .ok true s := rfl
@[simp] theorem mIf_ap {bc : BT} {fa fb : ET} : Wp (mIf bc fa fb env s) Q = Wp (bc env s) fun b s1 => if b then Wp (fa env s1) Q else Wp (fb env s1) Q := by
  simp only [mIf, Wp_bind]
  congr; funext b s1
  cases b <;> simp
@[simp] theorem mNil_ap : mNil env s = .ok [] s := rfl
@[simp] theorem mCons_ap {fa : ET} {fs : AT} : Wp (mCons fa fs env s) Qa = Wp (fa env s) fun d s1 => Wp (fs env s1) fun ds s2 => Qa (d :: ds) s2 := by simp [mCons]
@[simp] theorem mTup_ap {fs : AT} : Wp (mTup fs env s) Q = Wp (fs env s) fun ds s1 => ds.length ≤ sizeLine ∧ Q (.tup ds) s1 := by
  simp only [mTup, Wp_bind]
  congr; funext ds s1
  split
  · rename_i h; simp [h]
  · rename_i h; simp [h]
@[simp] theorem mLst_ap {fs : AT} : Wp (mLst fs env s) Q = Wp (fs env s) fun ds s1 => ds.length ≤ sizeLine ∧ Q (.lst ds) s1 := by
  simp only [mLst, Wp_bind]
  congr; funext ds s1
  split
  · rename_i h; simp [h]
  · rename_i h; simp [h]
@[simp] theorem mLstR_ap {fs : AT} : Wp (mLstR fs env s) Q = Wp (fs env s) fun ds s1 => ds.length ≤ sizeLine ∧ Q (.ref s1.length) (s1 ++ [.lst true ds]) := by
  simp only [mLstR, Wp_bind]
  congr; funext ds s1
  split
  · rename_i h; simp [h]
  · rename_i h; simp [h]
@[simp] theorem mDic0_ap : mDic0 env s = .ok (.dic []) s := rfl
@[simp] theorem mCall_ap {F : FT} {fs : AT} : Wp (mCall F fs env s) Q = Wp (fs env s) fun ds s1 => Wp (F ds s1) Q := by simp [mCall]
@[simp] theorem mCb_ap {cb : Cb} {fs : AT} : Wp (mCb cb fs env s) Q = Wp (fs env s) fun ds s1 => ∃ z, cb s1 ds = some z ∧ Q z s1 := by
  simp only [mCb, Wp_bind]
  congr; funext ds s1
  cases cb s1 ds <;> simp
@[simp] theorem mMb_ap {mb : Mb} {fa : ET} {fs : AT} : Wp (mMb mb fa fs env s) Q = Wp (fa env s) fun d s1 => Wp (fs env s1) fun ds s2 => ∃ z, mb s2 d ds = some z ∧ Q z s2 := by
  simp only [mMb, Wp_bind]
  congr; funext d s1; congr; funext ds s2
  cases mb s2 d ds <;> simp
@[simp] theorem mStr_ap {fa : ET} : Wp (mStr fa env s) Q = Wp (fa env s) fun d s1 => ∃ x, d = .str x ∧ Q (.str x) s1 := by
  simp only [mStr, Wp_bind]
  congr; funext d s1
  cases d <;> simp
@[simp] theorem mRevT_ap {fa : ET} : Wp (mRevT fa env s) Q = Wp (fa env s) fun d s1 => ∃ xs, d = .tup xs ∧ Q (.tup xs.reverse) s1 := by
  simp only [mRevT, Wp_bind]
  congr; funext d s1
  cases d <;> simp
@[simp] theorem mPart_ap {fa : ET} {Qo : Option Int → Sto → Prop} : Wp (mPart fa env s) Qo = Wp (fa env s) fun d s1 => ∃ i, d = .int i ∧ Qo (some i) s1 := by
  simp only [mPart, Wp_bind]
  congr; funext d s1
  cases d <;> simp
@[simp] theorem mNoPart_ap : mNoPart env s = .ok none s := rfl
@[simp] theorem mSl_ap {op : Sto → D → Option Int → Option Int → Option D} {fa : ET} {fl fh : PT1} : Wp (mSl op fa fl fh env s) Q = Wp (fa env s) fun d s1 => Wp (fl env s1) fun l s2 => Wp (fh env s2) fun h s3 => ∃ z, op s3 d l h = some z ∧ Q z s3 := by
  simp only [mSl, Wp_bind]
  congr; funext d s1; congr; funext l s2; congr; funext h s3
  cases op s3 d l h <;> simp
@[simp] theorem mChain_ap {op op' : Op2} {fa fb fc : ET} : Wp (mChain op op' fa fb fc env s) Q = Wp (fa env s) fun d s1 => Wp (fb env s1) fun e s2 =>
    (op s2 d e = some (.bl true) ∧ Wp (fc env s2) fun k s3 => ∃ z, op' s3 e k = some z ∧ Q z s3) ∨ (op s2 d e = some (.bl false) ∧ Q (.bl false) s2) := by
  simp only [mChain, Wp_bind]
  congr; funext d s1; congr; funext e s2
  cases h : op s2 d e with
  | none => simp
  | some z =>
    cases z with
    | bl b =>
      cases b with
      | false => simp
      | true =>
        have : (fun a s => Wp (match op' s e a with | some z => R.ok z s | none => R.no) Q) = fun k s3 => ∃ z, op' s3 e k = some z ∧ Q z s3 := by
          funext k s3
          cases op' s3 e k <;> simp
        simp only [Wp_bind, true_and, Option.some.injEq, D.bl.injEq, Bool.true_eq_false, false_and, or_false]
        exact propext ⟨fun q => q.mono fun k s3 z => by rw [← congrFun (congrFun this k) s3]; exact z, fun q => q.mono fun k s3 z => by rw [← congrFun (congrFun this k) s3] at z; exact z⟩
    | _ => simp
/-! walked things -/
variable {Qi : List D × (Sto → Prop) → Sto → Prop}
@[simp] theorem itL_ap {fa : ET} : Wp (itL fa env s) Qi = Wp (fa env s) fun d s1 => ∃ xs, asL s1 d = some xs ∧ Qi (xs, stays d xs) s1 := by
  simp only [itL, Wp_bind]
  congr; funext d s1
  cases asL s1 d <;> simp
@[simp] theorem itT_ap {fa : ET} : Wp (itT fa env s) Qi = Wp (fa env s) fun d s1 => ∃ xs, d = .tup xs ∧ Qi (xs, fun _ => True) s1 := by
  simp only [itT, Wp_bind]
  congr; funext d s1
  cases d <;> simp
@[simp] theorem itS_ap {fa : ET} : Wp (itS fa env s) Qi = Wp (fa env s) fun d s1 => ∃ x, d = .str x ∧ Qi (signs x, fun _ => True) s1 := by
  simp only [itS, Wp_bind]
  congr; funext d s1
  cases d <;> simp
@[simp] theorem itR1_ap {fs : AT} : Wp (itR1 fs env s) Qi = Wp (fs env s) fun ds s1 => ∃ j, ds = [.int j] ∧ (-(2 ^ 62) ≤ j ∧ j < 2 ^ 62) ∧ Qi (rangeD 0 j.toNat, fun _ => True) s1 := by
  simp only [itR1, Wp_bind]
  congr; funext ds s1
  split
  · rename_i j
    split
    · rename_i h
      refine propext ⟨fun q => ⟨j, rfl, h, q⟩, fun ⟨j', e, h', q⟩ => ?_⟩
      cases e; exact q
    · rename_i h
      refine propext ⟨fun q => q.elim, fun ⟨j', e, h', q⟩ => ?_⟩
      cases e; exact absurd h' h
  · rename_i h
    refine propext ⟨fun q => q.elim, fun ⟨j', e, h', q⟩ => absurd e (h j')⟩
/-! statements -/
@[simp] theorem sNil_ap : sNil env s = .fl (.nx env) s := rfl
@[simp] theorem sSeq_ap {f g : SM} : sSeq f g env s = (f env s).then g := rfl
@[simp] theorem sIf_ap {bc : BT} {f g : SM} : WpS (sIf bc f g env s) Qs = Wp (bc env s) fun b s1 => if b then WpS (f env s1) Qs else WpS (g env s1) Qs := by
  simp only [sIf, WpS_bt]
  congr; funext b s1
  cases b <;> simp
@[simp] theorem sRet_ap {fa : ET} : WpS (sRet fa env s) Qs = Wp (fa env s) fun d s1 => Qs (.rt d) s1 := by simp [sRet]
@[simp] theorem sRetN_ap : sRetN env s = .fl (.rt .non) s := rfl
@[simp] theorem sBrk_ap : sBrk env s = .fl (.bk env) s := rfl
@[simp] theorem sCnt_ap : sCnt env s = .fl (.ct env) s := rfl
@[simp] theorem sExp_ap {fa : ET} : WpS (sExp fa env s) Qs = Wp (fa env s) fun d s1 => Qs (.nx env) s1 := by simp [sExp]
@[simp] theorem sAsg_ap {fa : ET} {g : Tg} : WpS (sAsg fa g env s) Qs = Wp (fa env s) fun d s1 => ∃ e, g d env = some e ∧ Qs (.nx e) s1 := by
  simp only [sAsg, WpS_st]
  congr; funext d s1
  cases g d env <;> simp
@[simp] theorem sPar_ap {i j : Nat} {fs : AT} : WpS (sPar i j fs env s) Qs = Wp (fs env s) fun ds s1 => ∃ d e, ds = [d, e] ∧ Qs (.nx ((env.set i (some d)).set j (some e))) s1 := by
  simp only [sPar, WpS_lt]
  congr; funext ds s1
  split
  · rename_i d e
    refine propext ⟨fun q => ⟨d, e, rfl, q⟩, fun ⟨d', e', z, q⟩ => ?_⟩
    cases z; exact q
  · rename_i h
    refine propext ⟨fun q => q.elim, fun ⟨d', e', z, q⟩ => absurd z (h d' e')⟩
@[simp] theorem sPar3_ap {i j l : Nat} {fs : AT} : WpS (sPar3 i j l fs env s) Qs = Wp (fs env s) fun ds s1 => ∃ d e f, ds = [d, e, f] ∧ Qs (.nx (((env.set i (some d)).set j (some e)).set l (some f))) s1 := by
  simp only [sPar3, WpS_lt]
  congr; funext ds s1
  split
  · rename_i d e f
    refine propext ⟨fun q => ⟨d, e, f, rfl, q⟩, fun ⟨d', e', f', z, q⟩ => ?_⟩
    cases z; exact q
  · rename_i h
    refine propext ⟨fun q => q.elim, fun ⟨d', e', f', z, q⟩ => absurd z (h d' e' f')⟩
@[simp] theorem tgN_ap {i : Nat} {d : D} : tgN i d env = some (env.set i (some d)) := rfl
@[simp] theorem tgNil_ap : tgNil [] env = some env := rfl
@[simp] theorem tgCons_ap {g : Tg} {r : Tgs} {d : D} {ds : List D} : tgCons g r (d :: ds) env = (g d env).bind (r ds) := by
  simp only [tgCons]
  cases g d env <;> rfl
@[simp] theorem tgT_ap {n : Nat} {r : Tgs} {ds : List D} (h : ds.length = n) : tgT n r (.tup ds) env = r ds env := by simp [tgT, h]
@[simp] theorem mFun_ap {N n : Nat} {b : SM} {ds : List D} (h : ds.length = n) : Wp (mFun N n b ds s) Q = WpS (b (ds.map some ++ List.replicate (N - n) none) s) (fun f s1 => match f with | .rt d => Q d s1 | .nx _ => Q .non s1 | _ => False) := by
  simp only [mFun, h, if_true]
  cases b (ds.map some ++ List.replicate (N - n) none) s with
  | fl f s => cases f <;> rfl
  | ex x e s => rfl
  | no => rfl
@[simp] theorem sSetIx_ap {fv fo fi : ET} : WpS (sSetIx fv fo fi env s) Qs = Wp (fv env s) fun v s1 => Wp (fo env s1) fun o s2 => Wp (fi env s2) fun i s3 => ∃ n k xs j, o = .ref n ∧ i = .int k ∧ s3[n]? = some (.lst true xs) ∧ ixN xs.length k = some j ∧ Qs (.nx env) (s3.set n (.lst true (xs.set j v))) := by
  simp only [sSetIx, WpS_st]
  congr; funext v s1; congr; funext o s2; congr; funext i s3
  cases o with
  | ref n =>
    cases i with
    | int k =>
      simp
      cases h : s3[n]? with
      | none => simp
      | some ob =>
        cases ob with
        | lst m xs =>
          cases m with
          | false => simp
          | true =>
            simp
            cases h2 : ixN xs.length k <;> simp
        | _ => simp
    | _ => simp
  | _ => simp
/-! loops, by what holds of what is left -/
theorem Wp_lcGo {G : Sto → Prop} {g : Tg} {bt : BT} {fe : ET} {env : Env} {Q : List D → Sto → Prop} (I : List D → List D → Sto → Prop) (hG : ∀ r acc s, I r acc s → G s)
    (step : ∀ d r acc s, I (d :: r) acc s → ∃ env2, g d env = some env2 ∧ Wp (bt env2 s) fun b s1 => if b then Wp (fe env2 s1) (fun y s2 => acc.length < sizeLine ∧ I r (acc ++ [y]) s2) else I r acc s1)
    (fin : ∀ acc s, I [] acc s → Q acc s) : ∀ (ds acc : List D) (s : Sto), I ds acc s → Wp (lcGo G g bt fe env ds acc s) Q
  | [], acc, s, h => by
    rw [lcGo, if_pos (hG _ _ _ h)]
    exact fin acc s h
  | d :: r, acc, s, h => by
    rw [lcGo, if_pos (hG _ _ _ h)]
    obtain ⟨env2, e, q⟩ := step d r acc s h
    rw [e]
    simp only [Wp_bind]
    refine q.mono fun b s1 q1 => ?_
    cases b with
    | false => exact Wp_lcGo I hG step fin r acc s1 (by simpa using q1)
    | true =>
      simp only [if_true] at q1
      simp only [Wp_bind]
      refine q1.mono fun y s2 q2 => ?_
      rw [if_pos q2.1]
      exact Wp_lcGo I hG step fin r _ s2 q2.2
theorem Wp_mLc {it : IT} {g : Tg} {bt : BT} {fe : ET} {vs : List Nat} {env : Env} {s : Sto} {Q : D → Sto → Prop} : Wp (mLc it g bt fe vs env s) Q = Wp (it env s) fun p s1 => Wp (lcGo p.2 g bt fe (wipeE env vs) p.1 [] s1) fun ds s2 => Q (.lst ds) s2 := by
  simp [mLc]
theorem WpS_forGo {G : Sto → Prop} {g : Tg} {body : SM} {Q : Fl → Sto → Prop} (I : List D → Env → Sto → Prop) (hG : ∀ r e s, I r e s → G s)
    (step : ∀ d r e s, I (d :: r) e s → ∃ env2, g d e = some env2 ∧ WpS (body env2 s) fun f s1 => match f with
      | .nx e => I r e s1
      | .ct e => I r e s1
      | .bk e => Q (.nx e) s1
      | .rt v => Q (.rt v) s1)
    (fin : ∀ e s, I [] e s → Q (.nx e) s) : ∀ (ds : List D) (e : Env) (s : Sto), I ds e s → WpS (forGo G g body ds e s) Q
  | [], e, s, h => by
    rw [forGo, if_pos (hG _ _ _ h)]
    exact fin e s h
  | d :: r, e, s, h => by
    rw [forGo, if_pos (hG _ _ _ h)]
    obtain ⟨env2, eq, q⟩ := step d r e s h
    rw [eq]
    simp only
    cases z : body env2 s with
    | no => rw [z] at q; exact q.elim
    | ex x e s => rw [z] at q; exact q.elim
    | fl f s1 =>
      rw [z] at q
      cases f with
      | nx e => exact WpS_forGo I hG step fin r e s1 q
      | ct e => exact WpS_forGo I hG step fin r e s1 q
      | bk e => exact q
      | rt v => exact q
/-- statement by statement: K holds between -/
theorem seqK {f g : SM} {env : Env} {s : Sto} {Q : Fl → Sto → Prop} (K : Env → Sto → Prop) (h1 : WpS (f env s) (Nx K Q)) (h2 : ∀ e s, K e s → WpS (g e s) Q) : WpS (sSeq f g env s) Q := by
  rw [sSeq_ap, WpS_then]
  exact h1.mono fun fl s1 h => by
    cases fl with
    | nx e => exact h2 e s1 h
    | rt d => exact h
    | bk e => exact h
    | ct e => exact h
@[simp] theorem sFor_ap {it : IT} {g : Tg} {b : SM} : WpS (sFor it g b env s) Qs = Wp (it env s) fun p s1 => WpS (forGo p.2 g b p.1 env s1) Qs := by simp [sFor]
end
end Mi
end
section
set_option maxRecDepth 100000
namespace Mi
open PySem L2
theorem kit_NoneType_bool : kitB "NoneType" "bool" = some false := by decide +kernel
theorem kit_NoneType_int : kitB "NoneType" "int" = some false := by decide +kernel
theorem kit_NoneType_str : kitB "NoneType" "str" = some false := by decide +kernel
theorem kit_NoneType_tuple : kitB "NoneType" "tuple" = some false := by decide +kernel
theorem kit_NoneType_list : kitB "NoneType" "list" = some false := by decide +kernel
theorem kit_NoneType_dict : kitB "NoneType" "dict" = some false := by decide +kernel
theorem kit_bool_bool : kitB "bool" "bool" = some true := by decide +kernel
theorem kit_bool_int : kitB "bool" "int" = some true := by decide +kernel
theorem kit_bool_str : kitB "bool" "str" = some false := by decide +kernel
theorem kit_bool_tuple : kitB "bool" "tuple" = some false := by decide +kernel
theorem kit_bool_list : kitB "bool" "list" = some false := by decide +kernel
theorem kit_bool_dict : kitB "bool" "dict" = some false := by decide +kernel
theorem kit_int_bool : kitB "int" "bool" = some false := by decide +kernel
theorem kit_int_int : kitB "int" "int" = some true := by decide +kernel
theorem kit_int_str : kitB "int" "str" = some false := by decide +kernel
theorem kit_int_tuple : kitB "int" "tuple" = some false := by decide +kernel
theorem kit_int_list : kitB "int" "list" = some false := by decide +kernel
theorem kit_int_dict : kitB "int" "dict" = some false := by decide +kernel
theorem kit_str_bool : kitB "str" "bool" = some false := by decide +kernel
theorem kit_str_int : kitB "str" "int" = some false := by decide +kernel
theorem kit_str_str : kitB "str" "str" = some true := by decide +kernel
theorem kit_str_tuple : kitB "str" "tuple" = some false := by decide +kernel
theorem kit_str_list : kitB "str" "list" = some false := by decide +kernel
theorem kit_str_dict : kitB "str" "dict" = some false := by decide +kernel
theorem kit_tuple_bool : kitB "tuple" "bool" = some false := by decide +kernel
theorem kit_tuple_int : kitB "tuple" "int" = some false := by decide +kernel
theorem kit_tuple_str : kitB "tuple" "str" = some false := by decide +kernel
theorem kit_tuple_tuple : kitB "tuple" "tuple" = some true := by decide +kernel
theorem kit_tuple_list : kitB "tuple" "list" = some false := by decide +kernel
theorem kit_tuple_dict : kitB "tuple" "dict" = some false := by decide +kernel
theorem kit_list_bool : kitB "list" "bool" = some false := by decide +kernel
theorem kit_list_int : kitB "list" "int" = some false := by decide +kernel
theorem kit_list_str : kitB "list" "str" = some false := by decide +kernel
theorem kit_list_tuple : kitB "list" "tuple" = some false := by decide +kernel
theorem kit_list_list : kitB "list" "list" = some true := by decide +kernel
theorem kit_list_dict : kitB "list" "dict" = some false := by decide +kernel
theorem kit_dict_bool : kitB "dict" "bool" = some false := by decide +kernel
theorem kit_dict_int : kitB "dict" "int" = some false := by decide +kernel
theorem kit_dict_str : kitB "dict" "str" = some false := by decide +kernel
theorem kit_dict_tuple : kitB "dict" "tuple" = some false := by decide +kernel
theorem kit_dict_list : kitB "dict" "list" = some false := by decide +kernel
theorem kit_dict_dict : kitB "dict" "dict" = some true := by decide +kernel
@[simp] theorem isi_NoneType_bool {s : Sto} : isiD "bool" s (.non) = some (.bl false) := by simp only [isiD, tyName, kit_NoneType_bool]; rfl
@[simp] theorem isi_NoneType_int {s : Sto} : isiD "int" s (.non) = some (.bl false) := by simp only [isiD, tyName, kit_NoneType_int]; rfl
@[simp] theorem isi_NoneType_str {s : Sto} : isiD "str" s (.non) = some (.bl false) := by simp only [isiD, tyName, kit_NoneType_str]; rfl
@[simp] theorem isi_NoneType_tuple {s : Sto} : isiD "tuple" s (.non) = some (.bl false) := by simp only [isiD, tyName, kit_NoneType_tuple]; rfl
@[simp] theorem isi_NoneType_list {s : Sto} : isiD "list" s (.non) = some (.bl false) := by simp only [isiD, tyName, kit_NoneType_list]; rfl
@[simp] theorem isi_NoneType_dict {s : Sto} : isiD "dict" s (.non) = some (.bl false) := by simp only [isiD, tyName, kit_NoneType_dict]; rfl
@[simp] theorem isi_bool_bool {s : Sto} {b : Bool} : isiD "bool" s (.bl b) = some (.bl true) := by simp only [isiD, tyName, kit_bool_bool]; rfl
@[simp] theorem isi_bool_int {s : Sto} {b : Bool} : isiD "int" s (.bl b) = some (.bl true) := by simp only [isiD, tyName, kit_bool_int]; rfl
@[simp] theorem isi_bool_str {s : Sto} {b : Bool} : isiD "str" s (.bl b) = some (.bl false) := by simp only [isiD, tyName, kit_bool_str]; rfl
@[simp] theorem isi_bool_tuple {s : Sto} {b : Bool} : isiD "tuple" s (.bl b) = some (.bl false) := by simp only [isiD, tyName, kit_bool_tuple]; rfl
@[simp] theorem isi_bool_list {s : Sto} {b : Bool} : isiD "list" s (.bl b) = some (.bl false) := by simp only [isiD, tyName, kit_bool_list]; rfl
@[simp] theorem isi_bool_dict {s : Sto} {b : Bool} : isiD "dict" s (.bl b) = some (.bl false) := by simp only [isiD, tyName, kit_bool_dict]; rfl
@[simp] theorem isi_int_bool {s : Sto} {i : Int} : isiD "bool" s (.int i) = some (.bl false) := by simp only [isiD, tyName, kit_int_bool]; rfl
@[simp] theorem isi_int_int {s : Sto} {i : Int} : isiD "int" s (.int i) = some (.bl true) := by simp only [isiD, tyName, kit_int_int]; rfl
@[simp] theorem isi_int_str {s : Sto} {i : Int} : isiD "str" s (.int i) = some (.bl false) := by simp only [isiD, tyName, kit_int_str]; rfl
@[simp] theorem isi_int_tuple {s : Sto} {i : Int} : isiD "tuple" s (.int i) = some (.bl false) := by simp only [isiD, tyName, kit_int_tuple]; rfl
@[simp] theorem isi_int_list {s : Sto} {i : Int} : isiD "list" s (.int i) = some (.bl false) := by simp only [isiD, tyName, kit_int_list]; rfl
@[simp] theorem isi_int_dict {s : Sto} {i : Int} : isiD "dict" s (.int i) = some (.bl false) := by simp only [isiD, tyName, kit_int_dict]; rfl
@[simp] theorem isi_str_bool {s : Sto} {x : Str} : isiD "bool" s (.str x) = some (.bl false) := by simp only [isiD, tyName, kit_str_bool]; rfl
@[simp] theorem isi_str_int {s : Sto} {x : Str} : isiD "int" s (.str x) = some (.bl false) := by simp only [isiD, tyName, kit_str_int]; rfl
@[simp] theorem isi_str_str {s : Sto} {x : Str} : isiD "str" s (.str x) = some (.bl true) := by simp only [isiD, tyName, kit_str_str]; rfl
@[simp] theorem isi_str_tuple {s : Sto} {x : Str} : isiD "tuple" s (.str x) = some (.bl false) := by simp only [isiD, tyName, kit_str_tuple]; rfl
@[simp] theorem isi_str_list {s : Sto} {x : Str} : isiD "list" s (.str x) = some (.bl false) := by simp only [isiD, tyName, kit_str_list]; rfl
@[simp] theorem isi_str_dict {s : Sto} {x : Str} : isiD "dict" s (.str x) = some (.bl false) := by simp only [isiD, tyName, kit_str_dict]; rfl
@[simp] theorem isi_tuple_bool {s : Sto} {xs : List D} : isiD "bool" s (.tup xs) = some (.bl false) := by simp only [isiD, tyName, kit_tuple_bool]; rfl
@[simp] theorem isi_tuple_int {s : Sto} {xs : List D} : isiD "int" s (.tup xs) = some (.bl false) := by simp only [isiD, tyName, kit_tuple_int]; rfl
@[simp] theorem isi_tuple_str {s : Sto} {xs : List D} : isiD "str" s (.tup xs) = some (.bl false) := by simp only [isiD, tyName, kit_tuple_str]; rfl
@[simp] theorem isi_tuple_tuple {s : Sto} {xs : List D} : isiD "tuple" s (.tup xs) = some (.bl true) := by simp only [isiD, tyName, kit_tuple_tuple]; rfl
@[simp] theorem isi_tuple_list {s : Sto} {xs : List D} : isiD "list" s (.tup xs) = some (.bl false) := by simp only [isiD, tyName, kit_tuple_list]; rfl
@[simp] theorem isi_tuple_dict {s : Sto} {xs : List D} : isiD "dict" s (.tup xs) = some (.bl false) := by simp only [isiD, tyName, kit_tuple_dict]; rfl
@[simp] theorem isi_list_bool {s : Sto} {xs : List D} : isiD "bool" s (.lst xs) = some (.bl false) := by simp only [isiD, tyName, kit_list_bool]; rfl
@[simp] theorem isi_list_int {s : Sto} {xs : List D} : isiD "int" s (.lst xs) = some (.bl false) := by simp only [isiD, tyName, kit_list_int]; rfl
@[simp] theorem isi_list_str {s : Sto} {xs : List D} : isiD "str" s (.lst xs) = some (.bl false) := by simp only [isiD, tyName, kit_list_str]; rfl
@[simp] theorem isi_list_tuple {s : Sto} {xs : List D} : isiD "tuple" s (.lst xs) = some (.bl false) := by simp only [isiD, tyName, kit_list_tuple]; rfl
@[simp] theorem isi_list_list {s : Sto} {xs : List D} : isiD "list" s (.lst xs) = some (.bl true) := by simp only [isiD, tyName, kit_list_list]; rfl
@[simp] theorem isi_list_dict {s : Sto} {xs : List D} : isiD "dict" s (.lst xs) = some (.bl false) := by simp only [isiD, tyName, kit_list_dict]; rfl
@[simp] theorem isi_dict_bool {s : Sto} {kvs : List (Key × D)} : isiD "bool" s (.dic kvs) = some (.bl false) := by simp only [isiD, tyName, kit_dict_bool]; rfl
@[simp] theorem isi_dict_int {s : Sto} {kvs : List (Key × D)} : isiD "int" s (.dic kvs) = some (.bl false) := by simp only [isiD, tyName, kit_dict_int]; rfl
@[simp] theorem isi_dict_str {s : Sto} {kvs : List (Key × D)} : isiD "str" s (.dic kvs) = some (.bl false) := by simp only [isiD, tyName, kit_dict_str]; rfl
@[simp] theorem isi_dict_tuple {s : Sto} {kvs : List (Key × D)} : isiD "tuple" s (.dic kvs) = some (.bl false) := by simp only [isiD, tyName, kit_dict_tuple]; rfl
@[simp] theorem isi_dict_list {s : Sto} {kvs : List (Key × D)} : isiD "list" s (.dic kvs) = some (.bl false) := by simp only [isiD, tyName, kit_dict_list]; rfl
@[simp] theorem isi_dict_dict {s : Sto} {kvs : List (Key × D)} : isiD "dict" s (.dic kvs) = some (.bl true) := by simp only [isiD, tyName, kit_dict_dict]; rfl
@[simp] theorem tru_bl {s : Sto} {b : Bool} : truD s (.bl b) = some b := rfl
@[simp] theorem tru_non {s : Sto} : truD s .non = some false := rfl
end Mi
end
section
set_option maxRecDepth 100000
set_option maxHeartbeats 1000000
namespace Mi
open PySem PySem.Spec PyProof.Rows L2 StX Kw ClX
/-- what is not reached -/
def sNo : SM := fun _ _ => .no
theorem ms_no {X : Cx} {E : L2.St → XK} {st : Stmt} : MS X E st sNo := PS.imp ps_never fun En st H ⟨c, env, g, re, q⟩ => q
theorem mC_noex {d : D} {env : Env} {s : Sto} {y : Xn} {S : Sto} : mC d env s ≠ .ex y S := fun h => by cases h
theorem mk_noex {nm pa : Str} {F : FT} {env : Env} {s : Sto} {y : Xn} {S : Sto} : mMk0 nm pa F env s ≠ .ex y S := fun h => by
  simp only [mMk0, mkK, strKeys] at h
  split at h
  · cases z : F [.ref s.length, .dic []] (s ++ [.ins true nm []]) with
    | no => rw [z] at h; cases h
    | ex x S1 => rw [z] at h; cases h
    | ok v S1 =>
      rw [z] at h
      simp only [quiet_ok, bind_ok] at h
      split at h <;> cases h
  · cases h
end Mi
end
section
set_option maxRecDepth 100000
set_option maxHeartbeats 1000000
namespace Mi
open PySem PySem.Spec PyProof.Rows L2 StX Kw ClX
section
variable {X : Cx}
theorem ps_setDc {i : Nat} {y : Str} {py : Pos} {kx vx tg iter : Expr} {ifs : List Expr} {scope : Scope} {own : List (Str × Nat)} {pos spos : Pos} {wi : TI} {g : TG} {tt : TT} {tk tv : TE} (hc : X.calm = true) (hN : X.N.Nodup) (hy : X.N[i]? = some y) (hyl : X.env.scope.names.lookup y = some .local)
    (hsw : swapsWith (.DictComp kx vx [⟨tg, iter, ifs, 0⟩] scope pos) (some (.Name y py)) spos.line X.env = pure true) (hi : PI X tg iter wi) (ok : BlkOk X.N X.env.scope scope own)
    (hg : ∀ (s : Shared) (H : Hp) (C : Addr) (cl : List (Str × Addr)) (fp : List Addr), PG (X.blk s H scope (compEnvC scope cl C X.env) fp) tg g) (ht : ∀ (s : Shared) (H : Hp) (C : Addr) (cl : List (Str × Addr)) (fp : List Addr), PTs (X.blk s H scope (compEnvC scope cl C X.env) fp) ifs tt)
    (hk : ∀ (s : Shared) (H : Hp) (C : Addr) (cl : List (Str × Addr)) (fp : List Addr), PE (X.blk s H scope (compEnvC scope cl C X.env) fp) kx tk)
    (he : ∀ (s : Shared) (H : Hp) (C : Addr) (cl : List (Str × Addr)) (fp : List Addr), PE (X.blk s H scope (compEnvC scope cl C X.env) fp) vx tv) (hs : ∀ x, foldedSetIterable iter X.env x = pure x := by intro _; rfl) :
    PS X (.Assign [.Name y py] (.DictComp kx vx [⟨tg, iter, ifs, 0⟩] scope pos) spos) (tAsg (tDc wi g tt tk tv (own.map (·.2))) (gName i)) := by
  refine ⟨fun pins s σ H D I h => ?_⟩
  rw [exec_Assign_Name_used _ _ _ _ hsw]
  refine wpAny_bind (wpAny_standAt (wpAny_bind ?_))
  show wpAny _ X.A (do let _ ← comprehension (.DictComp kx vx [⟨tg, iter, ifs, 0⟩] scope pos) scope X.env (firstIterPos [⟨tg, iter, ifs, 0⟩] pos) newDict false (eval iter X.env) (some (assign (.Name y py) X.env))) _ _ s
  have h2 : tDc wi g tt tk tv (own.map (·.2)) σ H (fun x H1 => gName i x σ H1 D.nx) := h
  refine wpAny_bind (thn (dc_core (Qf := fun _ s' => SP X pins D .next s') hc hN I hi ok hg ht hk he hs h2 fun L C s' m H' J q hn f => ?_) fun _ s' hq => wpAny_pure (wpAny_pure hq))
  show wpAny _ _ (assign (.Name y py) X.env (.ref L)) _ _ _
  refine wpAny_assign_Name (store_ok2 (v := V.ref L) J hN hy (.inl hyl) rfl (fun s2 J2 z => ?_) (.inr hyl))
  obtain ⟨b, sb, hb⟩ := z
  obtain ⟨f0, f1, f2, f3, f4, f5⟩ := f
  have ne : C ≠ b := by
    rcases hb with hb | hb
    · rw [hb]; exact f1
    · exact fun e => f4 y b hb e.symm
  exact ⟨m, hn.sameBut sb ne, fun h3 sb3 => ⟨_, H', J2.turned (t' := s2.toks) (fun b o hb e => (sb3.2 b hb).trans e) f0 f1 f3 f4 f5, q⟩⟩
theorem swD_true {kx vx : Expr} {gs : List Comprehension} {scope : Scope} {pos py : Pos} {y : Str} {l : Nat} {env : PySem.Env} (hk : env.scope.kind = .function) (hy : env.scope.names.lookup y = some .local) (hl : (py.line == pos.line) = true)
    (ha : (scope.names.any fun (n, k) => n == y && (k == .local || k == .cell)) = false) : swapsWith (.DictComp kx vx gs scope pos) (some (.Name y py)) l env = pure true := by
  have k1 : env.kindOf y = some .local := hy
  have k2 : env.blockKind = .function := by unfold Env.blockKind; rw [hk]; rfl
  unfold swapsWith
  simp only [k1, k2, ha, Expr.pos, hl]
  rfl
end
section
variable {X : Cx} {E : L2.St → XK} {pos lpos : Pos} {tg : Expr}
theorem ms_setDc {i : Nat} {y : Str} {py : Pos} {kx vx iter : Expr} {ifs : List Expr} {scope : Scope} {own : List (Str × Nat)} {it : IT} {g : Tg} {js : List Nat} {bt : BT} {fk fv : ET} (hc : X.calm = true) (hN : X.N.Nodup) (hy : X.N[i]? = some y) (hyl : X.env.scope.names.lookup y = some .local)
    (hsw : swapsWith (.DictComp kx vx [⟨tg, iter, ifs, 0⟩] scope lpos) (some (.Name y py)) pos.line X.env = pure true) (hi : MI X E tg iter it) (ok : BlkOk X.N X.env.scope scope own)
    (hg : ∀ s H C cl fp, MG (X.blk s H scope (compEnvC scope cl C X.env) fp) tg js g) (ht : ∀ s H C cl fp, MTs (X.blk s H scope (compEnvC scope cl C X.env) fp) E00 ifs bt)
    (hk : ∀ s H C cl fp, ME (X.blk s H scope (compEnvC scope cl C X.env) fp) E00 kx fk) (he : ∀ s H C cl fp, ME (X.blk s H scope (compEnvC scope cl C X.env) fp) E00 vx fv) (hj : ∀ j ∈ js, j ∈ own.map (·.2) := by decide)
    (hs : ∀ x, foldedSetIterable iter X.env x = pure x := by intro _; rfl) :
    MS X E (.Assign [.Name y py] (.DictComp kx vx [⟨tg, iter, ifs, 0⟩] scope lpos) pos) (sAsg (mDc it g bt fk fv (own.map (·.2))) (tgN i)) := PS.imp (ps_setDc hc hN hy hyl hsw hi ok hg ht hk he hs) fun En st H ⟨c, env, gd, re, q⟩ => by
  refine tDc_M hj ⟨c, env, gd, re, (FinS.of_st re q).mono fun d c1 H1 e1 g1 q1 v rv => ?_⟩
  exact q1 c1 H1 (Ext.refl _ _) g1 rfl _ ((re.ext e1).set rv)
end
end Mi
end
section
namespace Mi
open PySem
theorem kit_own {K : PySem.W.Frag} {C : Addr} {T : String} (hm : PySem.W.kitMeta T = true) (h : PySem.W.mroIn K C (.type T) = some false) : PySem.W.kitOne K (.ref C) (.type T) = some false := by
  unfold PySem.W.kitOne
  rw [if_neg (by intro z; cases (beq_iff_eq.mp z))]
  show (if PySem.W.kitMeta T = true then PySem.W.subIn K (.ref C) (.type T) else none) = some false
  rw [if_pos hm]
  exact h
theorem km_int : PySem.W.kitMeta "int" = true := by decide +kernel
theorem km_bool : PySem.W.kitMeta "bool" = true := by decide +kernel
theorem km_str : PySem.W.kitMeta "str" = true := by decide +kernel
theorem km_tuple : PySem.W.kitMeta "tuple" = true := by decide +kernel
theorem km_list : PySem.W.kitMeta "list" = true := by decide +kernel
theorem km_dict : PySem.W.kitMeta "dict" = true := by decide +kernel
end Mi
end
section
set_option maxRecDepth 100000
set_option maxHeartbeats 1000000
namespace Mi
open PySem L2
/-! ### the calculus for what came later -/
section
variable {env : Env} {s : Sto} {Q : D → Sto → Prop} {Qs : Fl → Sto → Prop}
theorem mAddR_ap {fa fb : ET} : Wp (mAddR fa fb env s) Q = Wp (fa env s) fun d s1 => Wp (fb env s1) fun e s2 => ∃ xs ys, asL s2 d = some xs ∧ asL s2 e = some ys ∧ xs.length + ys.length ≤ sizeLine ∧ Q (.ref s2.length) (s2 ++ [.lst true (xs ++ ys)]) := by
  simp only [mAddR, Wp_bind]
  congr; funext d s1; congr; funext e s2
  cases asL s2 d <;> cases asL s2 e <;> simp
  rename_i xs ys
  split
  · rename_i h; simp [h]
  · rename_i h; simp [h]
theorem mApp_ap {fo fv : ET} : Wp (mApp fo fv env s) Q = Wp (fo env s) fun o s1 => ∃ n zs, o = .ref n ∧ s1[n]? = some (.lst true zs) ∧ Wp (fv env s1) fun v s2 => ∃ xs, s2[n]? = some (.lst true xs) ∧ xs.length < sizeLine ∧ Q .non (s2.set n (.lst true (xs ++ [v]))) := by
  simp only [mApp, Wp_bind]
  congr; funext o s1
  cases o with
  | ref n =>
    simp
    cases h : s1[n]? with
    | none => simp
    | some ob =>
      cases ob with
      | lst m xs =>
        cases m with
        | false => simp
        | true =>
          simp
          apply iff_of_eq
          congr; funext v s2
          cases h2 : s2[n]? with
          | none => simp
          | some ob =>
            cases ob with
            | lst m xs =>
              cases m with
              | false => simp
              | true =>
                simp
                split
                · rename_i h; simp [h]
                · rename_i h; simp [h]
            | _ => simp
      | _ => simp
  | _ => simp
theorem mDic1_ap {x : Str} {fv : ET} : Wp (mDic1 x fv env s) Q = Wp (fv env s) fun v s2 => Q (.dic [(.inr x, v)]) s2 := by simp [mDic1]
theorem mCm_ap {nm : Str} {F : FT} {fs : AT} : Wp (mCm nm F fs env s) Q = Wp (fs env s) fun ds s1 => Wp (F (.cls nm :: ds) s1) Q := by simp [mCm]
theorem mkK_ap {nm pa : Str} {F : FT} {kvs : List (Key × D)} : Wp (mkK nm pa F kvs s) Q = ∃ ks, strKeys kvs = some ks ∧ (ks.all (fun k => decide (k ≠ pa)) = true ∧ ks.length ≤ 1000) ∧ Wp (F [.ref s.length, .dic kvs] (s ++ [.ins true nm []])) fun v s2 => v = .non ∧ Q (.ref s.length) s2 := by
  simp only [mkK]
  cases strKeys kvs with
  | none => simp
  | some ks =>
    simp only [Option.some.injEq, exists_eq_left']
    split
    · rename_i h
      simp only [Wp_bind, Wp_quiet, h, and_self, true_and]
      congr; funext v s2
      cases v <;> simp
    · rename_i h
      simp only [Wp_no, h, false_and]
theorem mMk0_ap {nm pa : Str} {F : FT} : Wp (mMk0 nm pa F env s) Q = Wp (mkK nm pa F [] s) Q := rfl
theorem mMkV_ap {nm pa : Str} {F : FT} {j i : Nat} : Wp (mMkV nm pa F j i env s) Q = ∃ kvs, env[j]? = some (some (.cls nm)) ∧ env[i]? = some (some (.dic kvs)) ∧ Wp (mkK nm pa F kvs s) Q := by
  unfold mMkV
  split
  · rename_i nm' kvs h1 h2
    rw [h1, h2]
    simp only [Option.some.injEq, D.cls.injEq, D.dic.injEq]
    split
    · rename_i e; subst e; simp
    · rename_i e; simp [e]
  · rename_i h
    refine propext ⟨fun q => q.elim, fun ⟨kvs, a, b, _⟩ => (h _ _ a b).elim⟩
theorem sSetF_ap {nm f : Str} {fv fo : ET} : WpS (sSetF nm f fv fo env s) Qs = Wp (fv env s) fun v s1 => Wp (fo env s1) fun o s2 => ∃ n fs, o = .ref n ∧ s2[n]? = some (.ins true nm fs) ∧ fs.length < 1000 ∧ Qs (.nx env) (s2.set n (.ins true nm (putFD f v fs))) := by
  simp only [sSetF, WpS_st]
  congr; funext v s1; congr; funext o s2
  cases o with
  | ref n =>
    simp
    cases h : s2[n]? with
    | none => simp
    | some ob =>
      cases ob with
      | ins m nm' fs =>
        cases m with
        | false => simp
        | true =>
          simp
          by_cases e : nm' = nm
          · subst e
            by_cases l : fs.length < 1000 <;> simp [l]
          · simp [e]
      | _ => simp
  | _ => simp
theorem itK_ap {i : Nat} {Qi : List D × (Sto → Prop) → Sto → Prop} : Wp (itK i env s) Qi = ∃ kvs, env[i]? = some (some (.dic kvs)) ∧ (kvs.all fun kv => keyOk kv.1) = true ∧ Qi (kvs.map fun kv => kD kv.1, fun _ => True) s := by
  unfold itK
  split
  · rename_i kvs h
    rw [h]
    split
    · rename_i e; simp only [Wp_ok]
      refine propext ⟨fun q => ⟨kvs, rfl, e, q⟩, fun ⟨k, a, b, c⟩ => ?_⟩
      cases a; exact c
    · rename_i e
      refine propext ⟨fun q => q.elim, fun ⟨k, a, b, c⟩ => ?_⟩
      cases a; exact absurd b e
  · rename_i h
    refine propext ⟨fun q => q.elim, fun ⟨kvs, a, _⟩ => (h _ a).elim⟩
theorem Wp_mDc {it : IT} {g : Tg} {bt : BT} {fk fv : ET} {vs : List Nat} : Wp (mDc it g bt fk fv vs env s) Q = Wp (it env s) fun p s1 => Wp (dcGo p.2 g bt fk fv (wipeE env vs) p.1 [] s1) fun ds s2 => Q (.dic ds) s2 := by
  simp [mDc]
theorem Wp_dcGo {G : Sto → Prop} {g : Tg} {bt : BT} {fk fv : ET} {Q : List (Key × D) → Sto → Prop} (I : List D → List (Key × D) → Sto → Prop) (hG : ∀ r acc s, I r acc s → G s)
    (step : ∀ d r acc s, I (d :: r) acc s → ∃ env2, g d env = some env2 ∧ Wp (bt env2 s) fun b s1 => if b then Wp (fk env2 s1) (fun k s2 => Wp (fv env2 s2) fun v s3 => ∃ key, keyOf k = some key ∧ acc.length < sizeLine ∧ I r (putD acc key v) s3) else I r acc s1)
    (fin : ∀ acc s, I [] acc s → Q acc s) : ∀ (ds : List D) (acc : List (Key × D)) (s : Sto), I ds acc s → Wp (dcGo G g bt fk fv env ds acc s) Q
  | [], acc, s, h => by
    rw [dcGo, if_pos (hG _ _ _ h)]
    exact fin acc s h
  | d :: r, acc, s, h => by
    rw [dcGo, if_pos (hG _ _ _ h)]
    obtain ⟨env2, e, q⟩ := step d r acc s h
    rw [e]
    simp only [Wp_bind]
    refine q.mono fun b s1 q1 => ?_
    cases b with
    | false => exact Wp_dcGo I hG step fin r acc s1 (by simpa using q1)
    | true =>
      simp only [if_true] at q1
      simp only [Wp_bind]
      refine q1.mono fun k s2 q2 => q2.mono fun v s3 ⟨key, ek, hl, q3⟩ => ?_
      rw [ek]
      simp only
      rw [if_pos hl]
      exact Wp_dcGo I hG step fin r _ s3 q3
end
end Mi
end
section
set_option maxRecDepth 100000
set_option maxHeartbeats 1000000
namespace Mi
open PySem PySem.Spec PyProof.Rows L2
/-! ### defs that may raise -/
abbrev TkM (X : Cx) (E : L2.St → XK) : Prop := Takes X fun cls d σ H => E σ cls d H
abbrev PsM (X : Cx) : Prop := PassesOwn (model X.prog X.w) X.A X.env X.xe
def spX (w : Wd) (F : FT) : Sp := fun vs H Q E => ∃ c ds, Good w H c ∧ RelDs w H c ds vs ∧ Fin w E c H (F ds c.S) (fun d c' H' => ∀ v, RelD w H' c' d v → Q v H')
def mCallX (F : FT) (fs : AT) : ET := fun env s => (fs env s).bind fun ds s1 => F ds s1
section
variable {X : Cx} {E : L2.St → XK} {k : Nat} {f : Addr} {fd : FuncData} {ps : List Str} {F : FT} {x : Str} {p pos : Pos} {a : Expr} {es : List Expr} {fs : AT} {t : TA}
theorem run_fnX {pins : List (Addr × Obj)} {σ : L2.St} {H : Hp} {s : Shared} {Q : VK} {us : List Value} {vs : List V} {sp : Sp} (tk : TkM X E) (G : FnG X.prog X.w X.K X.mg X.base (L2.CX X.prog X.w) k f fd ps sp) (hr : RoomG k X.A) (hb : Binds X.K fd ps [])
    (I : Inv X pins σ H s) (r : Vals vs us) (h : sp vs H Q (E σ)) : wpAny (model X.prog X.w) X.A (call (.ref f) us) (EP X pins σ Q) X.xe s := by
  have hl : (us ++ []).length = ps.length := by rw [List.append_nil]; exact r.length.symm.trans (G.len _ _ _ _ h)
  have hb2 := hb s us I.kIn hl
  rw [List.append_nil] at hb2
  refine wpAny_call (codeAny_mono (G.run X.A X.stack s H ⟨us, []⟩ _ _ Q (E σ) hr I.env0 hb2 r h) fun res s2 y => ?_)
  cases res with
  | error x => exact tk _ _ (XE.of_call (W := fun cls d σ H => E σ cls d H) I (fun _ _ _ z => z) y)
  | ok fl =>
    cases fl with
    | ret u => exact I.after y
    | next => exact y.elim
    | brk => exact y.elim
    | cont => exact y.elim
def tCallX (sp : Sp) (E : L2.St → XK) (t : TA) : TE := fun σ H Q => t σ H fun vs H1 => sp vs H1 Q (E σ)
theorem pe_callX {sp : Sp} (tk : TkM X E) (G : FnG X.prog X.w X.K X.mg X.base (L2.CX X.prog X.w) k f fd ps sp) (hr : RoomG k X.A) (hg : Gl X x) (hm : X.mg x = some (.ref f)) (hk : PySem.W.keepIn X.K (.ref f) = true) (hb : Binds X.K fd ps [])
    (ha : PA X (a :: es) t) (hdb : (x == ("__debug__" : Str)) = false := by decide) (he : starEach (a :: es) X.env = (false, eval a X.env) :: starEach es X.env := by rfl) (hpl : (backTo pos (starEach es X.env)).any (·.1) = false := by rfl) :
    PE X (.Call (.Name x p) (a :: es) [] pos) (tCallX sp E t) := ⟨fun pins s σ H Q I h => wpAny_Call_Name_kw (ld_glob I hg hm (PySem.W.callWith_K (h₀ := X.base) I.ok.mod.kin hk
      (thn (ha.run pos pins s σ H _ I h) fun us s1 ⟨vs, H1, I1, r, q⟩ => ⟨I1.kIn, run_fnX tk G hr hb I1 r q⟩) he hpl) hdb)⟩
/-- f(..), what f raises goes on -/
theorem me_callX (tk : TkM X E) (G : FnG X.prog X.w X.K X.mg X.base (L2.CX X.prog X.w) k f fd ps (spX (Wx X) F)) (hr : RoomG k X.A) (hg : Gl X x) (hm : X.mg x = some (.ref f)) (hk : PySem.W.keepIn X.K (.ref f) = true) (hb : Binds X.K fd ps [])
    (ha : MA X E (a :: es) fs) (hdb : (x == ("__debug__" : Str)) = false := by decide) (he : starEach (a :: es) X.env = (false, eval a X.env) :: starEach es X.env := by rfl) (hpl : (backTo pos (starEach es X.env)).any (·.1) = false := by rfl) :
    ME X E (.Call (.Name x p) (a :: es) [] pos) (mCallX F fs) := PE.imp (pe_callX tk G hr hg hm hk hb ha hdb he hpl) fun st H Q ⟨c, env, g, re, q⟩ => by
  refine ⟨c, env, g, re, (Fin.bind q).mono fun ds c1 H1 e1 g1 q1 vs rvs => ?_⟩
  exact ⟨c1, ds, g1, rvs, q1⟩
/-- f(..), f raises nothing here -/
theorem me_callQ (G : FnG X.prog X.w X.K X.mg X.base (L2.CX X.prog X.w) k f fd ps (spX (Wx X) F)) (hr : RoomG k X.A) (hg : Gl X x) (hm : X.mg x = some (.ref f)) (hk : PySem.W.keepIn X.K (.ref f) = true) (hb : Binds X.K fd ps [])
    (ha : MA X E (a :: es) fs) (hdb : (x == ("__debug__" : Str)) = false := by decide) (he : starEach (a :: es) X.env = (false, eval a X.env) :: starEach es X.env := by rfl) (hpl : (backTo pos (starEach es X.env)).any (·.1) = false := by rfl) :
    ME X E (.Call (.Name x p) (a :: es) [] pos) (mCall F fs) := PE.imp (pe_callG G hr hg hm hk hb .nil passL ha hdb he hpl) fun st H Q ⟨c, env, g, re, q⟩ => by
  refine ⟨c, env, g, re, (Fin.bind q).mono fun ds c1 H1 e1 g1 q1 vs rvs => ?_⟩
  show spX (Wx X) F (vs ++ []) H1 Q E0
  rw [List.append_nil]
  exact ⟨c1, ds, g1, rvs, q1.quiet⟩
end
section
variable {P : Program} {w : World} {K : PySem.W.Frag} {mg : Str → Option Value} {base : Heap}
/-- a def that may raise keeps its mirror -/
theorem fn_mirX {x qual : Str} {st : Stmt} {f : Addr} {fd : FuncData} {N ps : List Str} {k : Nat} {body : SM} (F : Fun K x qual st f fd) (S : FnScope N ps (defScope st))
    (hb : ∀ (cdv : Value) (A : Around) (outer : List PySem.Env) (s : Shared) (H : Hp) (E : XK), RoomG k (A.deeper (envOfC qual (defScope st) s.heap.objs.size f cdv)) →
      TkM (cxOf (L2.CX P w) P w K mg base N qual (defScope st) f cdv A outer s H E) (fun _ => E) → PsM (cxOf (L2.CX P w) P w K mg base N qual (defScope st) f cdv A outer s H E) →
      MSs (cxOf (L2.CX P w) P w K mg base N qual (defScope st) f cdv A outer s H E) (fun _ => E) (defBody st) body) : FnG P w K mg base (L2.CX P w) (k + 1) f fd ps (spX ⟨K, mg⟩ (mFun N.length ps.length body)) := by
  obtain ⟨oc, od, kV, doc, pm, an, cdv, ct, osl, rfl, lk, hcd⟩ := F.ex
  refine fn_ofG lk hcd S (fun vs H Q E h => ?_) (fun A outer s H vs Q E hr h => ⟨_, hb cdv A outer s H E hr (takes_of rfl rfl rfl rfl) (passes_of rfl), ?_⟩)
  · obtain ⟨c, ds, g, r, q⟩ := h
    rw [← r.length]
    by_cases e : ds.length = ps.length
    · exact e
    · rw [mfun_len e (d := .non) (s' := [])] at q; exact q.elim
  · obtain ⟨c, ds, g, r, q⟩ := h
    by_cases e : ds.length = ps.length
    · refine ⟨c, _, g, r.start N, ?_⟩
      rw [mFun, if_pos e] at q
      rw [← e] at q
      cases z : body (ds.map some ++ List.replicate (N.length - ds.length) none) c.S with
      | no => rw [z] at q; exact q.elim
      | ex x en S1 => rw [z] at q; exact fun c' H' cls dd st' e' g' s' re' rx => q c' H' cls dd e' g' s' rx
      | fl fl S1 =>
        rw [z] at q
        intro c1 H1 e1 g1 s1
        cases fl with
        | nx en => exact fun st' re' => q c1 H1 e1 g1 s1 _ .non
        | rt d => exact fun v rv => q c1 H1 e1 g1 s1 v rv
        | bk en => exact q.elim
        | ct en => exact q.elim
    · rw [mfun_len e (d := .non) (s' := [])] at q; exact q.elim
end
/-! ### raise C(e) -/
def sRaise (nm : Str) (fa : ET) : SM := fun env s => (fa env s).st env fun d s1 => .ex ⟨nm, [("value", d)]⟩ env s1
section
variable {X : Cx} {E : L2.St → XK} {C fI : Addr} {nm : Str} {a : Expr} {fa : ET} {p pos pos2 : Pos} {k : Nat}
theorem ms_raise (tk : TkM X E) (hc : X.calm = true) (T : PySem.XvX.XvT X.prog X.K X.mg nm C fI) (hr : RoomG k X.A) (ha : ME X E a fa) (hg : Gl X nm := by rfl) (hdb : (nm == ("__debug__" : Str)) = false := by decide)
    (he : starEach (a :: []) X.env = (false, eval a X.env) :: starEach [] X.env := by rfl) (hpl : (backTo pos (starEach [] X.env)).any (·.1) = false := by rfl) :
    MS X E (.Raise (some (.Call (.Name nm p) [a] [] pos)) none pos2) (sRaise nm fa) := by
  refine PS.imp (ps_raise hc tk (pmk_val T hr.room (pa_cons ha pa_nil he) hg hdb he hpl)) fun En st H ⟨c, env, g, re, q⟩ => ?_
  refine ⟨c, env, g, re, (FinS.of_st re q).mono fun d c1 H1 e1 g1 q1 v rv => ?_⟩
  refine ⟨v, rfl, fun dd hd => ?_⟩
  exact q1 c1 _ (.ref C) (some dd) st (Ext.fresh g1 hd) (g1.fresh hd) rfl ((re.ext e1).ext (Ext.fresh g1 hd)) ⟨C, rfl, T.gC, .inr ⟨dd, [v], rfl, upd_same, nlv_of g1 hd, .cons (rv.ext (Ext.fresh g1 hd)) .nil⟩⟩
end
end Mi
end
section
set_option maxRecDepth 100000
set_option maxHeartbeats 1000000
namespace Mi
open PySem PySem.Spec PyProof.Rows L2
/-! ### try: .. except C as n: y = n -/
def tblB (l : List (Str × Bool)) (x : Str) : Option Bool := l.lookup x
def sTryK (cs : List (Str × Bool)) (i j : Nat) (fb : SM) : SM := fun env s => match fb env s with
  | .ex x e s1 => match x.fs, tblB cs x.c with
    | _ :: _, some true => if i < e.length then .fl (.nx ((e.set j (some (.exc x.c x.fs))).set i none)) s1 else .no
    | _ :: _, some false => .ex x e s1
    | _, _ => .no
  | r => r
theorem RelEnv.unset {w : Wd} {H : Hp} {c : Ct} {env : Env} {st : L2.St} {i : Nat} (r : RelEnv w H c env st) : RelEnv w H c (env.set i none) (st.set i none) := by
  refine ⟨by simp [r.len], fun j x e => ?_⟩
  by_cases q : j = i
  · subst q
    by_cases l : j < env.length
    · rw [List.getElem?_set_self l] at e; cases e
    · rw [List.getElem?_eq_none (by simpa using l)] at e; cases e
  · rw [List.getElem?_set_ne (Ne.symm q)] at e ⊢
    exact r.get j x e
/-- what is said of the classes that may arrive -/
def ExmT (K : PySem.W.Frag) (mg : Str → Option Value) (ec : Value) (cs : List (Str × Bool)) : Prop := ∀ nm b C, tblB cs nm = some b → mg nm = some (.ref C) → PySem.W.exmOne K (.ref C) ec = some b
section
variable {X : Cx} {E : L2.St → XK} {en ev y : Str} {ec : Value} {i j : Nat} {blk : List Stmt} {fb : SM} {cs : List (Str × Bool)} {p1 p2 p3 p4 p5 p6 : Pos}
theorem ms_try (tk : TkM X E) (hs : X.stack = X.env :: X.outer) (hf : X.env.frame = some X.env.locals) (hex : X.ex = []) (nd : X.N.Nodup) (hi : X.N[i]? = some ev) (hl : X.env.kindOf ev = some .local) (hc : Names X en ec) (ex : ExmT X.K X.mg ec cs)
    (hj : X.N[j]? = some y) (hy : Loc X.env.scope y) (hij : i ≠ j)
    (bo : ∀ (E' : L2.St → XK) (pn : List (Addr × Obj)) (xe : Value → Shared → Prop), TkM (X.tr pn xe) E' → PsM (X.tr pn xe) → MSs (X.tr pn xe) E' blk fb)
    (hv : Vis X.env.scope ev := by first | exact Or.inl rfl | exact Or.inr (Or.inl rfl) | exact Or.inr (Or.inr rfl)) (hdb : (ev == ("__debug__" : Str)) = false := by decide) (hdc : (ev == ("__classdict__" : Str)) = false := by decide)
    (hsw : swapsWith (.Name ev p2) (some (.Name y p1)) p3.line X.env = pure false := by rfl) (hfn : X.fn y = true ∨ X.env.scope.names.lookup y = some .local := by first | exact .inl rfl | exact .inr rfl) :
    MS X E (.Try blk [.ExceptHandler (some (.Name en p4)) (some ev) [.Assign [.Name y p1] (.Name ev p2) p3] p5] [] [] p6) (sTryK cs i j fb) := by
  refine PS.imp (ps_try_keep (ec := ec) (iv := i) (rb := fun W => tMS (Wx X) (fun σ cls d H => W cls d σ H) fb) (rs := fun a cls d => tAsg (tVar i) (gName j)) (Wo := fun cls d σ H => E σ cls d H) hs hf hex nd hi hl hc tk
    (fun W pn xe t p => bo (fun σ cls d H => W cls d σ H) pn xe t p) fun a oe cls d pn hz hf => pss_one (ps_set nd hj hy (pe_var hi hv hdb hdc) hsw hfn)) fun En st H ⟨c, env, g, re, q⟩ => ?_
  refine ⟨c, env, g, re, ?_⟩
  show FinS (Wx X) (fun σ cls d H => wKeep X.K ec i (fun a cls d => tAsg (tVar i) (gName j)) (fun cls d σ H => E σ cls d H) En cls d σ H) c H (fb env c.S) En
  have q : FinS (Wx X) E c H (sTryK cs i j fb env c.S) En := q
  unfold sTryK at q
  cases z : fb env c.S with
  | no => rw [z] at q; exact q
  | fl f S => rw [z] at q; exact q
  | ex x e S =>
    rw [z] at q
    simp only at q
    intro c1 H1 cls dd st1 e1 g1 s1 re1 rx
    obtain ⟨C, rfl, hC, alt⟩ := rx
    cases xf : x.fs with
    | nil => rw [xf] at q; exact q.elim
    | cons f0 fr =>
      rw [xf] at q
      cases tb : tblB cs x.c with
      | none => rw [tb] at q; exact q.elim
      | some b =>
        rw [tb] at q
        refine ⟨b, ex x.c b C tb hC, fun hb => ?_, fun hb => ?_⟩
        · subst hb
          rcases alt with ⟨z0, _⟩ | ⟨d, vs, rfl, hd, nl, rs⟩
          · rw [xf] at z0; cases z0
          refine ⟨d, rfl, fun a na => ?_⟩
          by_cases len0 : i < e.length
          case neg => simp only [len0, if_false] at q; exact q.elim
          simp only [len0, if_true] at q
          have len1 : i < st1.length := by rw [← re1.len]; exact len0
          refine ⟨.ref a, List.getElem?_set_self len1, ?_⟩
          show En.nx (((st1.set i (some (.ref a))).set j (some (.ref a))).set i none) (upd H1 a (ErV a (.ref C) d))
          have ext : Ext c1 H1 c1 (upd H1 a (ErV a (.ref C) d)) := Ext.fresh g1 na
          have g2 : Good (Wx X) (upd H1 a (ErV a (.ref C) d)) c1 := g1.fresh na
          have da : d ≠ a := ne_of_none hd na
          refine q c1 _ (e1.trans ext) g2 s1 _ ?_
          have rd : RelD (Wx X) (upd H1 a (ErV a (.ref C) d)) c1 (.exc x.c (f0 :: fr)) (.ref a) := by
            rw [← xf]
            exact .exc upd_same (by rw [upd_ne da]; exact hd) hC (nlv_of g1 na) nl (rs.ext ext)
          have e2 : ((st1.set i (some (.ref a))).set j (some (.ref a))).set i none = (st1.set j (some (.ref a))).set i none := by
            rw [List.set_comm _ _ (Ne.symm hij).symm, List.set_set]
          rw [e2]
          exact ((re1.ext ext).set rd).unset
        · subst hb
          exact q c1 H1 (.ref C) dd st1 e1 g1 s1 re1 ⟨C, rfl, hC, alt⟩
end
end Mi
end
section
set_option maxRecDepth 100000
set_option maxHeartbeats 1000000
namespace Mi
open PySem PySem.Spec PyProof.Rows L2
/-! ### isinstance of anything, own classes and errors too -/
structure XcF (K : PySem.W.Frag) (mg : Str → Option Value) (nm : Str) (C : Addr) : Prop where
  gC : mg nm = some (.ref C)
  ga : PySem.W.findIn K (.ref C) "__getattribute__" = some (some (.builtin "BaseException.__getattribute__"))
  gg : PySem.W.findIn K (.ref C) "__getattr__" = some none
  exC : PySem.W.subIn K (.ref C) (.type "BaseException") = some true
  hdC : PySem.W.hasDictIn K C = true
  ha : PySem.W.findIn K (.ref C) "__class__" = some (some (.builtin "object.__class__"))
  hn : PySem.W.specialIn K (.builtin "object.__class__") "__get__" = some (some (.builtin "getset_descriptor.__get__"))
  ht : PySem.W.takesIn K (.builtin "object.__class__") = some true
  hm : PySem.W.mroIn K C (.type "object") = some true
theorem XcF.isC {K : PySem.W.Frag} {mg : Str → Option Value} {nm : Str} {C : Addr} (F : XcF K mg nm C) : (PySem.W.clsIn K C).isSome = true := by
  obtain ⟨cd, hc, _⟩ := PySem.W.any_some F.hdC
  rw [hc]; rfl
/-- the type of what a mirror's value stands for -/
inductive TyV (w : Wd) (H : Hp) : V → Value → Prop
  | std {x : V} {t : Value} : TyX w.K H x t → TyV w H x t
  | exc {a d C : Addr} {nm : Str} {fs : List (Str × V)} : H a = some (ErV a (.ref C) d) → H d = some (.xd fs) → XcF w.K w.mg nm C → TyV w H (.ref a) (.ref C)
theorem inst_exc {X : Cx} {pins : List (Addr × Obj)} {σ : L2.St} {H : Hp} {s : Shared} {a d C : Addr} {fs : List (Str × V)} (I : Inv X pins σ H s) (h1 : H a = some (ErV a (.ref C) d)) (h2 : H d = some (.xd fs)) :
    ∃ (oe od : Obj) (mA : Str → Option Value), PySem.W.InstAt s.heap a oe C (some od) ∧ (∀ f, PySem.W.lookIn f od = some (mA f)) ∧ ∀ f, L2.RelO (fs.lookup f) (mA f) := by
  obtain ⟨⟨oe, vs, e, z, dt⟩, _⟩ := I.hok a _ h1
  obtain ⟨mA, hns, hr⟩ := (show ObjOk X.prog X.w H s.heap d (.xd fs) from I.hok d _ h2)
  obtain ⟨od, ho, hl⟩ := lookIn_ns hns
  exact ⟨oe, od, mA, ⟨e, z.1, by unfold PySem.W.notCls; rw [dt] <;> rfl, by rw [z.2]; exact ho⟩, hl, hr⟩
theorem kit_V {X : Cx} {pins : List (Addr × Obj)} {σ : L2.St} {H : Hp} {s : Shared} {x : V} {u t : Value} (I : Inv X pins σ H s) (rx : RelV x u) (ty : TyV (Wx X) H x t) :
    ∃ P : Heap → Prop, PySem.W.KitX X.K u t P ∧ P s.heap ∧ u ≠ .builtin "__main__.__loader__#opaque" := by
  cases ty with
  | std h => exact kit_of I rx h
  | @exc a d C nm fs h1 h2 F =>
    cases (show u = Value.ref a from rx)
    obtain ⟨oe, od, mA, J, _, _⟩ := inst_exc I h1 h2
    exact ⟨_, PySem.W.kitx_exc F.isC F.ga F.gg F.exC F.ha F.hn F.ht F.hm, J, fun z => nomatch z⟩
def rIs1 (w : Wd) : List V → Hp → VK → Prop := fun xs H Q => ∃ (x c : V) (t u : Value) (b : Bool), xs = [x, c] ∧ ClsV c u ∧ TyV w H x t ∧ PySem.W.kitOne w.K t u = some b ∧ Q (.bl b) H
def rIsN (w : Wd) : List V → Hp → VK → Prop := fun xs H Q => ∃ (x : V) (tp : Addr) (cs : List V) (t : Value) (us : List Value) (b : Bool), xs = [x, .ref tp] ∧ H tp = some (.tup cs) ∧ Paired ClsV cs us ∧ TyV w H x t ∧ PySem.W.kitAny w.K t us = some b ∧ Q (.bl b) H
section
variable {X : Cx}
theorem call_is1 : CallR X (.builtin "isinstance") (rIs1 (Wx X)) := by
  intro pins s σ H xs us Q I r h
  obtain ⟨x, c, t, u, b, rfl, k, ty, e, q⟩ := h
  obtain ⟨u1, u2, rfl, r1, r2⟩ := vals2 r
  obtain rfl := k.eq r2
  obtain ⟨P, Z, p, hx⟩ := kit_V I r1 ty
  exact PySem.W.kia_one Z I.kIn p e hx fun tk => ⟨.bl b, H, I.tok tk, rfl, q⟩
theorem call_isN : CallR X (.builtin "isinstance") (rIsN (Wx X)) := by
  intro pins s σ H xs us Q I r h
  obtain ⟨x, tp, cs, t, ws, b, rfl, hT, k, ty, e, q⟩ := h
  obtain ⟨u1, u2, rfl, r1, r2⟩ := vals2 r
  cases (show u2 = Value.ref tp from r2)
  obtain ⟨P, Z, p, hx⟩ := kit_V I r1 ty
  obtain ⟨_, its, rv, ⟨oc, od, dt, sl⟩, h1, h2, n, h3⟩ := (show ObjOk X.prog X.w H s.heap tp (.tup cs) from I.hok tp _ hT)
  obtain rfl := ClsV.all k rv
  cases (show oc = _ from h2)
  cases (show dt = _ from h3)
  exact PySem.W.kia_tup Z I.kIn p h1 e hx fun tk => ⟨.bl b, H, I.tok tk, rfl, q⟩
end
/-- isinstance by tables: errors, own instances, built-in types -/
def isiV (tE tI : List (Str × Bool)) (tN : List (String × Bool)) (s : Sto) (d : D) : Option D := match d with
  | .exc c _ => (tblB tE c).map .bl
  | d => match clsD s d with
    | some c => (tblB tI c).map .bl
    | none => match tyName s d with
      | some n => (tN.lookup n).map .bl
      | none => none
def IsE (w : Wd) (kit : Value → Option Bool) (tE : List (Str × Bool)) : Prop := ∀ nm b, tblB tE nm = some b → ∃ C, XcF w.K w.mg nm C ∧ kit (.ref C) = some b
def IsI (w : Wd) (kit : Value → Option Bool) (tI : List (Str × Bool)) : Prop := ∀ nm b, tblB tI nm = some b → ∃ C, ClF w.K w.mg nm C ∧ kit (.ref C) = some b
def IsN (kit : Value → Option Bool) (tN : List (String × Bool)) : Prop := ∀ n b, tN.lookup n = some b → kit (.type n) = some b
structure IsT (w : Wd) (kit : Value → Option Bool) (tE tI : List (Str × Bool)) (tN : List (String × Bool)) : Prop where
  e : IsE w kit tE
  i : IsI w kit tI
  n : IsN kit tN
theorem isiV_ok {w : Wd} {H : Hp} {c : Ct} {d z : D} {v : V} {kit : Value → Option Bool} {tE tI : List (Str × Bool)} {tN : List (String × Bool)} (g : Good w H c) (r : RelD w H c d v) (T : IsT w kit tE tI tN) (h : isiV tE tI tN c.S d = some z) :
    ∃ t b, TyV w H v t ∧ kit t = some b ∧ z = .bl b := by
  have rest : ∀ (d : D) (r : RelD w H c d v), (match clsD c.S d with
    | some c => (tblB tI c).map D.bl
    | none => match tyName c.S d with
      | some n => (tN.lookup n).map D.bl
      | none => none) = some z → ∃ t b, TyV w H v t ∧ kit t = some b ∧ z = .bl b := by
    intro d r h
    cases z0 : clsD c.S d with
    | some nm =>
      rw [z0] at h
      cases z1 : tblB tI nm with
      | none => simp only [z1] at h; cases h
      | some b =>
        simp only [z1] at h
        cases h
        obtain ⟨C, F, k⟩ := T.i nm b z1
        exact ⟨_, b, .std (clsD_ok g r z0 F), k, rfl⟩
    | none =>
      rw [z0] at h
      cases z1 : tyName c.S d with
      | none => rw [z1] at h; cases h
      | some n =>
        rw [z1] at h
        cases z2 : tN.lookup n with
        | none => simp only [z2] at h; cases h
        | some b =>
          simp only [z2] at h
          cases h
          exact ⟨_, b, .std (tyName_ok g r z1), T.n n b z2, rfl⟩
  cases r with
  | @exc a d C nm fs vs h1 h2 hm n1 n2 rs =>
    simp only [isiV] at h
    cases z1 : tblB tE nm with
    | none => rw [z1] at h; cases h
    | some b =>
      rw [z1] at h
      cases h
      obtain ⟨C', F, k⟩ := T.e nm b z1
      have : C' = C := by
        have q := F.gC.symm.trans hm
        cases q; rfl
      subst this
      exact ⟨_, b, .exc h1 h2 F, k, rfl⟩
  | non => exact rest _ .non h
  | bl b => exact rest _ (.bl b) h
  | int i => exact rest _ (.int i) h
  | str x hx => exact rest _ (.str x hx) h
  | tup a b => exact rest _ (.tup a b) h
  | lst a b => exact rest _ (.lst a b) h
  | dic a b e => exact rest _ (.dic a b e) h
  | ins a b e f => exact rest _ (.ins a b e f) h
  | ref a => exact rest _ (.ref a) h
  | scr a => exact rest _ (.scr a) h
  | cls a => exact rest _ (.cls a) h
  | fn h1 h2 h3 h4 => exact rest _ (.fn h1 h2 h3 h4) h
section
variable {X : Cx} {E : L2.St → XK} {a e2 : Expr} {pos p : Pos} {fa : ET} {tE tI : List (Str × Bool)} {tN : List (String × Bool)} {x : Str} {cv : V} {u : Value}
theorem me_is1 (T : IsT (Wx X) (fun t => PySem.W.kitOne X.K t u) tE tI tN) (hg : Gl X x) (hm : X.mg x = none) (hv : bootBuiltins x = some (.builtin "isinstance")) (h2 : PE X e2 (tC cv)) (hc : ClsV cv u) (ha : ME X E a fa)
    (hn : x ≠ "__name__" := by decide) (hdb : (x == ("__debug__" : Str)) = false := by decide)
    (he : starEach [a, e2] X.env = (false, eval a X.env) :: starEach [e2] X.env := by rfl) (he2 : starEach [e2] X.env = (false, eval e2 X.env) :: starEach [] X.env := by rfl)
    (hpl : (backTo pos (starEach [e2] X.env)).any (·.1) = false := by rfl) : ME X E (.Call (.Name x p) [a, e2] [] pos) (mUn (isiV tE tI tN) fa) := by
  refine PE.imp (pe_callB call_is1 hg hm hv (pa_cons ha (pa_cons h2 pa_nil he2) he) hn hdb he hpl) fun st H Q ⟨c, env, g, re, q⟩ => ?_
  refine ⟨c, env, g, re, (Fin.bind q).mono fun d c1 H1 e1 g1 q1 v rv => ?_⟩
  show rIs1 (Wx X) [v, cv] H1 Q
  cases z : isiV tE tI tN c1.S d with
  | none => rw [z] at q1; exact q1.elim
  | some y =>
    rw [z] at q1
    obtain ⟨t, b, ty, k, rfl⟩ := isiV_ok g1 rv T z
    exact ⟨v, cv, t, u, b, rfl, hc, ty, k, q1.here g1 rfl _ (.bl b)⟩
def tCs (cs : List V) : TA := fun _ H Q => Q cs H
theorem pc_nil : PA X [] (tCs []) := pa_nil
theorem pc_cons {es : List Expr} {c : V} {cs : List V} (h : PE X a (tC c)) (t : PA X es (tCs cs)) (hs : starEach (a :: es) X.env = (false, eval a X.env) :: starEach es X.env := by rfl) : PA X (a :: es) (tCs (c :: cs)) := pa_cons h t hs
theorem me_isN {es : List Expr} {k0} {p2 : Pos} {cs : List V} {us : List Value} (T : IsT (Wx X) (fun t => PySem.W.kitAny X.K t us) tE tI tN) (hg : Gl X x) (hm : X.mg x = none) (hv : bootBuiltins x = some (.builtin "isinstance")) (h2 : PA X es (tCs cs)) (hc : Paired ClsV cs us) (hl : cs.length ≤ sizeLine) (ha : ME X E a fa)
    (hn : x ≠ "__name__" := by decide) (hdb : (x == ("__debug__" : Str)) = false := by decide)
    (he : starEach [a, .Tuple es k0 p2] X.env = (false, eval a X.env) :: starEach [.Tuple es k0 p2] X.env := by rfl) (he2 : starEach [.Tuple es k0 p2] X.env = (false, eval (.Tuple es k0 p2) X.env) :: starEach [] X.env := by rfl)
    (hpl : (backTo pos (starEach [.Tuple es k0 p2] X.env)).any (·.1) = false := by rfl) : ME X E (.Call (.Name x p) [a, .Tuple es k0 p2] [] pos) (mUn (isiV tE tI tN) fa) := by
  refine PE.imp (pe_callB call_isN hg hm hv (pa_cons ha (pa_cons (pe_tup h2) pa_nil he2) he) hn hdb he hpl) fun st H Q ⟨c, env, g, re, q⟩ => ?_
  refine ⟨c, env, g, re, (Fin.bind q).mono fun d c1 H1 e1 g1 q1 v rv => ⟨hl, fun p hp => ?_⟩⟩
  show rIsN (Wx X) [v, .ref p] (upd H1 p (.tup cs)) Q
  have ext : Ext c1 H1 c1 (upd H1 p (.tup cs)) := Ext.fresh g1 hp
  cases z : isiV tE tI tN c1.S d with
  | none => rw [z] at q1; exact q1.elim
  | some y =>
    rw [z] at q1
    obtain ⟨t, b, ty, k, rfl⟩ := isiV_ok (g1.fresh hp) (rv.ext ext) T z
    exact ⟨v, p, cs, t, us, b, rfl, upd_same, hc, ty, k, q1 c1 _ ext (g1.fresh hp) rfl _ (.bl b)⟩
/-! ### e.value of an error -/
def fldX (f : Str) (s : Sto) (d : D) : Option D := match d with
  | .exc _ fs => fs.lookup f
  | _ => none
theorem lookup_zip {w : Wd} {H : Hp} {c : Ct} {f : Str} {d : D} : ∀ {fs : List (Str × D)} {vs : List V}, RelDs w H c (fs.map (·.2)) vs → fs.lookup f = some d → ∃ v, ((fs.map (·.1)).zip vs).lookup f = some v ∧ RelD w H c d v
  | [], _, _, h => by cases h
  | (k, x) :: r, _, .cons (v := v) rd rs, h => by
    simp only [List.map_cons, List.zip_cons_cons, List.lookup_cons] at h ⊢
    cases e : f == k with
    | true => rw [e] at h; cases h; exact ⟨v, rfl, rd⟩
    | false => rw [e] at h; exact lookup_zip rs h
def tXv (X : Cx) (f : Str) (te : TE) : TE := fun σ H Q => te σ H fun x H1 => ∃ (a C d : Addr) (nm : Str) (fs : List (Str × V)) (v : V), x = .ref a ∧ H1 a = some (ErV a (.ref C) d) ∧ H1 d = some (.xd fs) ∧ XcF X.K X.mg nm C ∧ PySem.W.findIn X.K (.ref C) f = some none ∧ fs.lookup f = some v ∧ Q v H1
theorem pe_xv {f : Str} {te : TE} (he : PE X a te) (hb : attributeBase a f X.env (eval a X.env) = eval a X.env := by rfl) : PE X (.Attribute a f pos) (tXv X f te) := by
  refine ⟨fun pins s σ H Q I h => attr_of hb (thn (he.run pins s σ H _ I h) fun u s1 hh => ?_)⟩
  obtain ⟨x, H1, I1, rx, b, C, d, nm, fs, v, rfl, h1, h2, F, hno, l, q⟩ := hh
  obtain rfl : u = Value.ref b := rx
  obtain ⟨oe, od, mA, J, hl, hr⟩ := inst_exc I1 h1 h2
  obtain ⟨u, hu, ru⟩ := RelO.some_of (v := v) (o := mA f) (by rw [← l]; exact hr f)
  exact HandSPX.exc_get I1.kIn J F.ga F.gg F.exC (PySem.W.findObj_own F.hdC hno rfl (by rw [hl, hu])) (handed_of ru) ⟨v, H1, I1.tok _, ru, q⟩
/-- of which classes the field may be read -/
def XvF (w : Wd) (f : Str) (ns : List Str) : Prop := ∀ nm, nm ∈ ns → ∃ C, XcF w.K w.mg nm C ∧ PySem.W.findIn w.K (.ref C) f = some none
def fldXn (f : Str) (ns : List Str) (s : Sto) (d : D) : Option D := match d with
  | .exc c fs => if c ∈ ns then fs.lookup f else none
  | _ => none
theorem me_xv {f : Str} {ns : List Str} (T : XvF (Wx X) f ns) (ha : ME X E a fa) (hb : attributeBase a f X.env (eval a X.env) = eval a X.env := by rfl) : ME X E (.Attribute a f pos) (mUn (fldXn f ns) fa) := by
  refine PE.imp (pe_xv ha hb) fun st H Q ⟨c, env, g, re, q⟩ => ?_
  refine ⟨c, env, g, re, (Fin.bind q).mono fun d c1 H1 e1 g1 q1 v rv => ?_⟩
  cases d with
  | exc nm fs =>
    simp only [fldXn] at q1
    split at q1
    · rename_i y z
      split at z
      · rename_i hm
        cases rv with
        | @exc a d C _ _ vs h1 h2 hm2 n1 n2 rs =>
          obtain ⟨C', F, hno⟩ := T nm hm
          have : C' = C := by
            have q := F.gC.symm.trans hm2
            cases q; rfl
          subst this
          obtain ⟨v, hl, rd⟩ := lookup_zip rs z
          exact ⟨a, C', d, nm, _, v, rfl, h1, h2, F, hno, hl, q1.here g1 rfl _ rd⟩
      · cases z
    · exact q1.elim
  | _ => exact q1.elim
end
end Mi
end
section
set_option maxRecDepth 100000
set_option maxHeartbeats 1000000
namespace Mi
open PySem PySem.Spec PyProof.Rows L2 Kw
/-! ### own methods, own instances made by position -/
def insD (s : Sto) : D → Option (Str × List (Str × D))
  | .ref n => match s[n]? with
    | some (.ins _ nm fs) => some (nm, fs)
    | _ => none
  | .ins nm fs => some (nm, fs)
  | _ => none
theorem insD_ok {w : Wd} {H : Hp} {c : Ct} {d : D} {v : V} {nm : Str} {fs : List (Str × D)} (g : Good w H c) (r : RelD w H c d v) (h : insD c.S d = some (nm, fs)) :
    ∃ a C dx vs, v = .ref a ∧ H a = some (.ins C dx ((fs.map (·.1)).zip vs)) ∧ w.mg nm = some (.ref C) ∧ RelDs w H c (fs.map (·.2)) vs := by
  cases r with
  | @ref n a hn =>
    simp only [insD] at h
    split at h
    · rename_i m nm' fs' e
      cases h
      obtain ⟨ho, q, ro⟩ := g.obj n a _ hn e
      cases ro with
      | ins hm rs => exact ⟨a, _, _, _, rfl, q, hm, rs⟩
    · cases h
  | ins hq hm nl rs => cases h; exact ⟨_, _, _, _, rfl, hq, hm, rs⟩
  | _ => simp [insD] at h
theorem lookup_none {m : Str} : ∀ {fs : List (Str × D)} {vs : List V}, fs.lookup m = none → ((fs.map (·.1)).zip vs).lookup m = none
  | [], _, _ => by simp
  | (k, x) :: r, [], _ => by simp
  | (k, x) :: r, v :: vs, h => by
    simp only [List.map_cons, List.zip_cons_cons, List.lookup_cons] at h ⊢
    cases e : m == k with
    | true => rw [e] at h; cases h
    | false => rw [e] at h; exact lookup_none h
/-- an own method's def as the class C hands it out -/
def Pass1 (CX : CXT) (X : Cx) (σ : L2.St) (E : XK) : Prop := ∀ (pins : List (Addr × Obj)) (H : Hp) (s : Shared) (e : Value) (s' : Shared), Inv X pins σ H s → CX X.stack H s E e s' → X.xe e s'
theorem pass1_0 {X : Cx} {σ : L2.St} {E : XK} : Pass1 CX0 X σ E := fun pins H s e s' I y => pass0 pins σ H s e s' I y
theorem pass1_L {X : Cx} {σ : L2.St} : Pass1 (L2.CX X.prog X.w) X σ E0 := fun pins H s e s' I y => passL pins σ H s e s' I y
theorem pass1_X {X : Cx} {E : L2.St → XK} {σ : L2.St} (tk : TkM X E) : Pass1 (L2.CX X.prog X.w) X σ (E σ) := fun pins H s e s' I y => tk _ _ (XE.of_call (W := fun cls d σ H => E σ cls d H) I (fun _ _ _ z => z) y)
section
variable {X : Cx} {CX : CXT} {k : Nat} {f C : Addr} {fd : FuncData} {ps : List Str} {sp : Sp} {m x : Str} {p pos apos : Pos} {e o : Expr} {es : List Expr} {ta : TE} {t : TA} {Ex : L2.St → XK}
theorem run_G1 {pins : List (Addr × Obj)} {σ : L2.St} {H : Hp} {s : Shared} {Q : VK} {us : List Value} {vs : List V} (G : FnG X.prog X.w X.K X.mg X.base CX k f fd ps sp) (hr : RoomG k X.A) (hb : Binds X.K fd ps []) (hx : Pass1 CX X σ (Ex σ))
    (I : Inv X pins σ H s) (r : Vals vs us) (h : sp vs H Q (Ex σ)) : wpAny (model X.prog X.w) X.A (call (.ref f) us) (EP X pins σ Q) X.xe s := by
  have hl : (us ++ []).length = ps.length := by rw [List.append_nil]; exact r.length.symm.trans (G.len _ _ _ _ h)
  have hb2 := hb s us I.kIn hl
  rw [List.append_nil] at hb2
  refine wpAny_call (codeAny_mono (G.run X.A X.stack s H ⟨us, []⟩ _ _ Q (Ex σ) hr I.env0 hb2 r h) fun res s2 y => ?_)
  cases res with
  | error x => exact hx pins H s x s2 I y
  | ok fl =>
    cases fl with
    | ret u => exact I.after y
    | next => exact y.elim
    | brk => exact y.elim
    | cont => exact y.elim
def tMethG (C : Addr) (m : Str) (sp : Sp) (Ex : L2.St → XK) (ta : TE) (t : TA) : TE := fun σ H Q => ta σ H fun v H1 => ∃ (a dx : Addr) (fs : List (Str × V)), v = .ref a ∧ H1 a = some (.ins C dx fs) ∧ fs.lookup m = none ∧ t σ H1 fun vs H2 => sp (.ref a :: vs) H2 Q (Ex σ)
theorem pe_methG {pl : Sem Bool} (he : PE X o ta) (c : Cls X.K C) (hm : Meth X.K C m f) (G : FnG X.prog X.w X.K X.mg X.base CX k f fd ps sp) (hr : RoomG k X.A) (hb : Binds X.K fd ps []) (hx : ∀ σ, Pass1 CX X σ (Ex σ)) (ha : PA X (e :: es) t)
    (hst : starEach (e :: es) X.env = (false, eval e X.env) :: starEach es X.env := by rfl) (hpl : (backTo pos (starEach es X.env)).any (·.1) = false := by rfl)
    (ht : eval (.Call (.Attribute o m apos) (e :: es) [] pos) X.env = (do let ov ← eval o X.env; standAt apos.atName; let (f, first) ← holding [ov] (getMethod ov m pl); callWith pos f first (backTo pos (starEach (e :: es) X.env)) (backToKw pos (keywordEach [] X.env))) := by rfl) :
    PE X (.Call (.Attribute o m apos) (e :: es) [] pos) (tMethG C m sp Ex ta t) := by
  refine ⟨fun pins s σ H Q I h => PySem.W.methodCall_KW (pl := pl) (thn (he.run pins s σ H _ I h) fun u s1 z => ?_) ht⟩
  obtain ⟨y, H1, I1, ry, a, dx, fs, rfl, ea, l, q⟩ := z
  obtain rfl : u = Value.ref a := ry
  refine getmeth_ok I1 ea c hm l (PySem.W.callWith_K (first := [.ref a]) (h₀ := X.base) I.ok.mod.kin hm.kp (thn (ha.run pos pins s1 σ H1 _ I1 q) fun us s2 z2 => ?_) hst hpl)
  obtain ⟨vs, H2, I2, r, q2⟩ := z2
  exact ⟨I2.kIn, run_G1 (us := .ref a :: us) (vs := .ref a :: vs) G hr hb (hx σ) I2 (.cons rfl r) q2⟩
theorem pe_meth0G {pl : Sem Bool} (he : PE X o ta) (c : Cls X.K C) (hm : Meth X.K C m f) (G : FnG X.prog X.w X.K X.mg X.base CX k f fd ps sp) (hr : RoomG k X.A) (hb : Binds X.K fd ps []) (hx : ∀ σ, Pass1 CX X σ (Ex σ))
    (ht : eval (.Call (.Attribute o m apos) [] [] pos) X.env = (do let ov ← eval o X.env; standAt apos.atName; let (f, first) ← holding [ov] (getMethod ov m pl); callWith pos f first (backTo pos (starEach [] X.env)) (backToKw pos (keywordEach [] X.env))) := by rfl) :
    PE X (.Call (.Attribute o m apos) [] [] pos) (tMethG C m sp Ex ta tNil) := by
  refine ⟨fun pins s σ H Q I h => PySem.W.methodCall_KW (pl := pl) (thn (he.run pins s σ H _ I h) fun u s1 z => ?_) ht⟩
  obtain ⟨y, H1, I1, ry, a, dx, fs, rfl, ea, l, q⟩ := z
  obtain rfl : u = Value.ref a := ry
  exact getmeth_ok I1 ea c hm l (PySem.W.callWith_K0 (first := [.ref a]) I1.kIn hm.kp (run_G1 (us := [.ref a]) (vs := [.ref a]) G hr hb (hx σ) I1 (.cons rfl .nil) q))
theorem run_mkG {pins : List (Addr × Obj)} {σ : L2.St} {H : Hp} {s : Shared} {Q : VK} {us : List Value} {vs : List V} (M : Mk X.K C f) (G : FnG X.prog X.w X.K X.mg X.base CX k f fd ps sp) (hr : RoomG (k + 1) X.A) (hb : Binds X.K fd ps [])
    (hx : Pass1 CX X σ (Ex σ)) (I : Inv X pins σ H s) (r : Vals vs us)
    (h : ∀ x dx, H x = none → H dx = none → dx ≠ x → sp (.ref x :: vs) (upd (upd H dx (.own x)) x (.ins C dx [])) (fun v H2 => v = .non ∧ Q (.ref x) H2) (Ex σ)) :
    wpAny (model X.prog X.w) X.A (call (.ref C) us) (EP X pins σ Q) X.xe s := by
  have J := Inv.made (C := C) I
  have z := h (s.heap.objs.size + 1) s.heap.objs.size (I.hok.fresh (Nat.le_succ _)) (I.hok.fresh (Nat.le_refl _)) (Nat.ne_of_lt (Nat.lt_succ_self _))
  have rr : Vals (V.ref (s.heap.objs.size + 1) :: vs) (Value.ref (s.heap.objs.size + 1) :: us) := .cons rfl r
  have hl : (Value.ref (s.heap.objs.size + 1) :: us ++ []).length = ps.length := by rw [List.append_nil]; exact rr.length.symm.trans (G.len _ _ _ _ z)
  have hb2 := hb _ (Value.ref (s.heap.objs.size + 1) :: us) J.kIn hl
  rw [List.append_nil] at hb2
  refine wpAny_call (make_map (f := f) I.kIn M.makes M.init (beq_iff_eq.mp M.fn) (codeAny_mono (G.run _ X.stack _ _ ⟨Value.ref (s.heap.objs.size + 1) :: us, []⟩ _ _ _ (Ex σ) (hr.make C us []) (J.env0.make C us []) hb2 rr z) fun res s' y => ?_))
  cases res with
  | error x => exact hx pins _ _ x s' J y
  | ok fl =>
    cases fl with
    | ret u =>
      obtain ⟨v, H3, I3, rv, rfl, q3⟩ := J.after y
      exact ⟨rv, ⟨V.ref (s.heap.objs.size + 1), H3, I3, rfl, q3⟩⟩
    | next => exact y.elim
    | brk => exact y.elim
    | cont => exact y.elim
def tMkG (C : Addr) (sp : Sp) (Ex : L2.St → XK) (t : TA) : TE := fun σ H Q => t σ H fun vs H1 => ∀ x dx, H1 x = none → H1 dx = none → dx ≠ x → sp (.ref x :: vs) (upd (upd H1 dx (.own x)) x (.ins C dx [])) (fun v H2 => v = .non ∧ Q (.ref x) H2) (Ex σ)
theorem pe_mkG (M : Mk X.K C f) (G : FnG X.prog X.w X.K X.mg X.base CX k f fd ps sp) (hr : RoomG (k + 1) X.A) (hg : Gl X x) (hm : X.mg x = some (.ref C)) (hb : Binds X.K fd ps []) (hx : ∀ σ, Pass1 CX X σ (Ex σ))
    (ha : PA X (e :: es) t) (hdb : (x == ("__debug__" : Str)) = false := by decide) (he : starEach (e :: es) X.env = (false, eval e X.env) :: starEach es X.env := by rfl) (hpl : (backTo pos (starEach es X.env)).any (·.1) = false := by rfl) :
    PE X (.Call (.Name x p) (e :: es) [] pos) (tMkG C sp Ex t) :=
  ⟨fun pins s σ H Q I h => wpAny_Call_Name_kw (ld_glob I hg hm (PySem.W.callWith_K (h₀ := X.base) I.ok.mod.kin M.kp
    (thn (ha.run pos pins s σ H _ I h) fun us s1 ⟨vs, H1, I1, r, q⟩ => ⟨I1.kIn, run_mkG M G hr hb (hx σ) I1 r q⟩) he hpl) hdb)⟩
end
/-- o.m(..), o an instance of the class nm -/
def mMethX (nm m : Str) (F : FT) (fo : ET) (fs : AT) : ET := fun env s => (fo env s).bind fun o s1 => match insD s1 o with
  | some (nm', fl) => if nm' = nm ∧ fl.lookup m = none then (fs env s1).bind fun ds s2 => F (o :: ds) s2 else .no
  | none => .no
def qF (F : FT) : FT := fun ds s => (F ds s).quiet
/-- C(..) -/
def mkP (nm : Str) (F : FT) (ds : List D) (s : Sto) : R D := (F (.ref s.length :: ds) (s ++ [.ins true nm []])).bind fun v s2 => match v with
  | .non => .ok (.ref s.length) s2
  | _ => .no
def mMkP (nm : Str) (F : FT) (fs : AT) : ET := fun env s => (fs env s).bind fun ds s1 => mkP nm F ds s1
section
variable {X : Cx} {CX : CXT} {E Ex : L2.St → XK} {k : Nat} {f C : Addr} {fd : FuncData} {ps : List Str} {nm m x : Str} {p pos apos : Pos} {a b o : Expr} {es : List Expr} {F F' : FT} {fo : ET} {fs : AT} {sp : Sp}
/-- how a promise speaks for a mirror -/
def SpOf (w : Wd) (sp : Sp) (F : FT) (E Ex : L2.St → XK) : Prop := ∀ (c : Ct) (H : Hp) (ds : List D) (vs : List V) (Q : VK) (σ : L2.St), Good w H c → RelDs w H c ds vs → Fin w (E σ) c H (F ds c.S) (fun d c' H' => ∀ v, RelD w H' c' d v → Q v H') → sp vs H Q (Ex σ)
theorem spOf_X {w : Wd} : SpOf w (spX w F) F E E := fun c H ds vs Q σ g r q => ⟨c, ds, g, r, q⟩
theorem spOf_Q {w : Wd} : SpOf w (spX w F) (qF F) E (fun _ => E0) := fun c H ds vs Q σ g r q => ⟨c, ds, g, r, Fin.quiet q⟩
theorem spOf_M {w : Wd} : SpOf w (spM w F) (qF F) E (fun _ => E0) := fun c H ds vs Q σ g r q => ⟨c, ds, g, r, Fin.quiet q⟩
theorem me_methG {pl : Sem Bool} (S : SpOf (Wx X) sp F E Ex) (ho : ME X E o fo) (hC : X.mg nm = some (.ref C)) (c : Cls X.K C) (hm : Meth X.K C m f) (G : FnG X.prog X.w X.K X.mg X.base CX k f fd ps sp) (hr : RoomG k X.A) (hb : Binds X.K fd ps [])
    (hx : ∀ σ, Pass1 CX X σ (Ex σ)) (ha : MA X E (a :: es) fs)
    (hst : starEach (a :: es) X.env = (false, eval a X.env) :: starEach es X.env := by rfl) (hpl : (backTo pos (starEach es X.env)).any (·.1) = false := by rfl)
    (ht : eval (.Call (.Attribute o m apos) (a :: es) [] pos) X.env = (do let ov ← eval o X.env; standAt apos.atName; let (f, first) ← holding [ov] (getMethod ov m pl); callWith pos f first (backTo pos (starEach (a :: es) X.env)) (backToKw pos (keywordEach [] X.env))) := by rfl) :
    ME X E (.Call (.Attribute o m apos) (a :: es) [] pos) (mMethX nm m F fo fs) := by
  refine PE.imp (pe_methG (pl := pl) ho c hm G hr hb hx ha hst hpl ht) fun st H Q ⟨c, env, g, re, q⟩ => ?_
  refine ⟨c, env, g, re, (Fin.bind q).mono fun d c1 H1 e1 g1 q1 v rv => ?_⟩
  split at q1
  · rename_i nm' fl z
    split at q1
    · rename_i cond
      obtain ⟨rfl, hl⟩ := cond
      obtain ⟨a, C', dx, vs, rfl, ha, hm', rs⟩ := insD_ok g1 rv z
      rw [show (Wx X).mg nm' = X.mg nm' from rfl, hC] at hm'
      cases hm'
      refine ⟨a, dx, _, rfl, ha, lookup_none hl, c1, env, g1, re.ext e1, (Fin.bind q1).mono fun ds c2 H2 e2 g2 q2 vs rvs => ?_⟩
      exact S c2 H2 (d :: ds) (.ref a :: vs) Q st g2 (.cons (rv.ext e2) rvs) q2
    · exact q1.elim
  · exact q1.elim
theorem me_meth0G {pl : Sem Bool} (S : SpOf (Wx X) sp F E Ex) (ho : ME X E o fo) (hC : X.mg nm = some (.ref C)) (c : Cls X.K C) (hm : Meth X.K C m f) (G : FnG X.prog X.w X.K X.mg X.base CX k f fd ps sp) (hr : RoomG k X.A) (hb : Binds X.K fd ps [])
    (hx : ∀ σ, Pass1 CX X σ (Ex σ))
    (ht : eval (.Call (.Attribute o m apos) [] [] pos) X.env = (do let ov ← eval o X.env; standAt apos.atName; let (f, first) ← holding [ov] (getMethod ov m pl); callWith pos f first (backTo pos (starEach [] X.env)) (backToKw pos (keywordEach [] X.env))) := by rfl) :
    ME X E (.Call (.Attribute o m apos) [] [] pos) (mMethX nm m F fo mNil) := by
  refine PE.imp (pe_meth0G (pl := pl) ho c hm G hr hb hx ht) fun st H Q ⟨c, env, g, re, q⟩ => ?_
  refine ⟨c, env, g, re, (Fin.bind q).mono fun d c1 H1 e1 g1 q1 v rv => ?_⟩
  split at q1
  · rename_i nm' fl z
    split at q1
    · rename_i cond
      obtain ⟨rfl, hl⟩ := cond
      obtain ⟨a, C', dx, vs, rfl, ha, hm', rs⟩ := insD_ok g1 rv z
      rw [show (Wx X).mg nm' = X.mg nm' from rfl, hC] at hm'
      cases hm'
      exact ⟨a, dx, _, rfl, ha, lookup_none hl, S c1 H1 [d] [.ref a] Q st g1 (.cons rv .nil) q1⟩
    · exact q1.elim
  · exact q1.elim
theorem me_mkP (S : SpOf (Wx X) sp F E Ex) (M : Mk X.K C f) (G : FnG X.prog X.w X.K X.mg X.base CX k f fd ps sp) (hr : RoomG (k + 1) X.A) (hg : Gl X x) (hm : X.mg x = some (.ref C)) (hb : Binds X.K fd ps []) (hx : ∀ σ, Pass1 CX X σ (Ex σ))
    (ha : MA X E (a :: es) fs) (hdb : (x == ("__debug__" : Str)) = false := by decide) (he : starEach (a :: es) X.env = (false, eval a X.env) :: starEach es X.env := by rfl) (hpl : (backTo pos (starEach es X.env)).any (·.1) = false := by rfl) :
    ME X E (.Call (.Name x p) (a :: es) [] pos) (mMkP x F fs) := by
  refine PE.imp (pe_mkG M G hr hg hm hb hx ha hdb he hpl) fun st H Q ⟨c, env, g, re, q⟩ => ?_
  refine ⟨c, env, g, re, (Fin.bind q).mono fun ds c1 H1 e1 g1 q1 vs rvs => fun y dx hy hdx hne => ?_⟩
  have g2 : Good (Wx X) (upd H1 dx (.own y)) c1 := g1.fresh hdx
  have e2 : Ext c1 H1 c1 (upd H1 dx (.own y)) := Ext.fresh g1 hdx
  have hy2 : upd H1 dx (.own y) y = none := by rw [upd_ne (Ne.symm hne)]; exact hy
  have e3 : Ext c1 (upd H1 dx (.own y)) (c1.push y (.ins true x [])) (upd (upd H1 dx (.own y)) y (.ins C dx [])) := Ext.pushed g2 hy2
  have g3 : Good (Wx X) (upd (upd H1 dx (.own y)) y (.ins C dx [])) (c1.push y (.ins true x [])) := g2.pushed hy2 (.ins (fs := []) (vs := []) hm .nil)
  have et := e2.trans e3
  have hp : (c1.push y (.ins true x [])).p[c1.S.length]? = some y := by
    show (c1.p ++ [y])[c1.S.length]? = some y
    rw [← g1.len]
    exact List.getElem?_concat_length
  have q2 : Fin (Wx X) (E st) c1 H1 ((F (.ref c1.S.length :: ds) (c1.S ++ [.ins true x []])).bind fun v s2 => match v with | .non => .ok (.ref c1.S.length) s2 | _ => .no) (fun d c' H' => ∀ v, RelD (Wx X) H' c' d v → Q v H') := q1
  have q3 := Fin.bind (q2.on et)
  refine S (c1.push y (.ins true x [])) _ (.ref c1.S.length :: ds) (.ref y :: vs) _ st g3 (.cons (.ref hp) (rvs.ext et)) (q3.mono fun d c4 H4 e4 g4 q4 v rv => ?_)
  cases d with
  | non =>
    cases rv
    exact ⟨rfl, q4.here g4 rfl _ (.ref (e4.p _ _ hp))⟩
  | _ => exact q4.elim
end
end Mi
end
section
set_option maxRecDepth 100000
set_option maxHeartbeats 1000000
namespace Mi
open PySem PySem.Spec PyProof.Rows L2
/-! ### dicts, those that may change too -/
def dicD (s : Sto) : D → Option (List (Key × D))
  | .dic kvs => some kvs
  | .ref n => match s[n]? with
    | some (.dic _ kvs) => some kvs
    | _ => none
  | _ => none
theorem dicD_ok {w : Wd} {H : Hp} {c : Ct} {d : D} {v : V} {kvs : List (Key × D)} (g : Good w H c) (r : RelD w H c d v) (h : dicD c.S d = some kvs) :
    ∃ a vs, v = .ref a ∧ Rd H a (.dK ((kvs.map (·.1)).zip vs)) ∧ RelDs w H c (kvs.map (·.2)) vs := by
  cases r with
  | dic hs nl rs => cases h; exact ⟨_, _, rfl, hs, rs⟩
  | @ref n a hn =>
    simp only [dicD] at h
    split at h
    · rename_i m kvs' e
      cases h
      obtain ⟨ho, q, ro⟩ := g.obj n a _ hn e
      cases ro with
      | dic rs h1 h2 => exact ⟨a, _, rfl, rd_of_unf q h1 rfl, rs⟩
    · cases h
  | _ => simp [dicD] at h
def opGetR : Op2 := fun s d e => match dicD s d, keyOf e with
  | some kvs, some k => valD kvs k
  | _, _ => none
def opInR : Op2 := fun s e d => match dicD s d, keyOf e with
  | some kvs, some k => some (.bl (valD kvs k).isSome)
  | _, _ => none
def opNotInR : Op2 := fun s e d => match dicD s d, keyOf e with
  | some kvs, some k => some (.bl (!(valD kvs k).isSome))
  | _, _ => none
section
variable {X : Cx} {E : L2.St → XK} {pos p : Pos} {o i : Expr} {fo fi fv : ET} {k : Nat}
theorem me_getR (hr : RoomG k X.A) (ho : ME X E o fo) (hi : ME X E i fi) (hs : NoSl i) : ME X E (.Subscript o i pos) (mOp opGetR fo fi) := by
  refine PE.imp (pe_dget (by have := hr.un; omega) ho hi hs) fun st H Q ⟨c, env, g, re, q⟩ => ?_
  refine ⟨c, env, g, re, (Fin.bind q).mono fun d c1 H1 e1 g1 q1 v rv => ?_⟩
  refine ⟨c1, env, g1, re.ext e1, (Fin.bind q1).mono fun d2 c2 H2 e2 g2 q2 v2 rv2 => ?_⟩
  have r1 := rv.ext e2
  cases z : opGetR c2.S d d2 with
  | none => rw [z] at q2; exact q2.elim
  | some y =>
    rw [z] at q2
    unfold opGetR at z
    split at z
    · rename_i kvs key ed ek
      obtain ⟨a, vs, rfl, hs2, rs⟩ := dicD_ok g2 r1 ed
      rcases KVD.val (k := key) (KVD.of rs) with ⟨n1, _⟩ | ⟨d3, v3, h1, h2, r3⟩
      · rw [n1] at z; cases z
      · rw [h1] at z
        cases z
        exact ⟨a, v3, rfl, .inl ⟨_, key, hs2, keyOf_ok rv2 ek, h2.symm⟩, q2.here g2 rfl _ r3⟩
    · cases z
theorem tDIn_M {w : Wd} {st : L2.St} {H : Hp} {Q : VK} (h : tM w E (mOp opInR fi fo) st H Q) : tDIn (tM w E fi) (tM w E fo) st H Q := by
  obtain ⟨c, env, g, re, q⟩ := h
  refine ⟨c, env, g, re, (Fin.bind q).mono fun d c1 H1 e1 g1 q1 v rv => ?_⟩
  refine ⟨c1, env, g1, re.ext e1, (Fin.bind q1).mono fun d2 c2 H2 e2 g2 q2 v2 rv2 => ?_⟩
  have r1 := rv.ext e2
  cases z : opInR c2.S d d2 with
  | none => rw [z] at q2; exact q2.elim
  | some y =>
    rw [z] at q2
    unfold opInR at z
    split at z
    · rename_i kvs key ed ek
      cases z
      obtain ⟨a, vs, rfl, hs2, rs⟩ := dicD_ok g2 rv2 ed
      rcases KVD.val (k := key) (KVD.of rs) with ⟨n1, n2⟩ | ⟨d3, v3, h1, h2, r3⟩
      · refine ⟨a, _, rfl, .inl ⟨_, key, hs2, keyOf_ok r1 ek, n2.symm⟩, ?_⟩
        rw [n1] at q2
        exact q2.here g2 rfl _ (.bl _)
      · refine ⟨a, _, rfl, .inl ⟨_, key, hs2, keyOf_ok r1 ek, h2.symm⟩, ?_⟩
        rw [h1] at q2
        exact q2.here g2 rfl _ (.bl _)
    · cases z
theorem tDNotIn_M {w : Wd} {st : L2.St} {H : Hp} {Q : VK} (h : tM w E (mOp opNotInR fi fo) st H Q) : tDNotIn (tM w E fi) (tM w E fo) st H Q := by
  obtain ⟨c, env, g, re, q⟩ := h
  refine ⟨c, env, g, re, (Fin.bind q).mono fun d c1 H1 e1 g1 q1 v rv => ?_⟩
  refine ⟨c1, env, g1, re.ext e1, (Fin.bind q1).mono fun d2 c2 H2 e2 g2 q2 v2 rv2 => ?_⟩
  have r1 := rv.ext e2
  cases z : opNotInR c2.S d d2 with
  | none => rw [z] at q2; exact q2.elim
  | some y =>
    rw [z] at q2
    unfold opNotInR at z
    split at z
    · rename_i kvs key ed ek
      cases z
      obtain ⟨a, vs, rfl, hs2, rs⟩ := dicD_ok g2 rv2 ed
      rcases KVD.val (k := key) (KVD.of rs) with ⟨n1, n2⟩ | ⟨d3, v3, h1, h2, r3⟩
      · refine ⟨a, _, rfl, .inl ⟨_, key, hs2, keyOf_ok r1 ek, n2.symm⟩, ?_⟩
        rw [n1] at q2
        exact q2.here g2 rfl _ (.bl _)
      · refine ⟨a, _, rfl, .inl ⟨_, key, hs2, keyOf_ok r1 ek, h2.symm⟩, ?_⟩
        rw [h1] at q2
        exact q2.here g2 rfl _ (.bl _)
    · cases z
theorem me_inR (hr : RoomG k X.A) (hi : ME X E i fi) (ho : ME X E o fo) (hm : behindInMarks .In o = false := by rfl) : ME X E (.Compare i [.In] [o] pos) (mOp opInR fi fo) := PE.imp (pe_cmp (pc_din (by have := hr.un; omega) hi ho) hm) fun _ _ _ => tDIn_M
theorem me_notInR (hr : RoomG k X.A) (hi : ME X E i fi) (ho : ME X E o fo) (hm : behindInMarks .NotIn o = false := by rfl) : ME X E (.Compare i [.NotIn] [o] pos) (mOp opNotInR fi fo) := PE.imp (pe_cmp (pc_dnotin (by have := hr.un; omega) hi ho) hm) fun _ _ _ => tDNotIn_M
theorem mt_inR (hr : RoomG k X.A) (hi : ME X E i fi) (ho : ME X E o fo) (hm : behindInMarks .In o = false := by rfl) : MT X E (.Compare i [.In] [o] pos) (mB (mOp opInR fi fo)) := PT.imp (pt_cmp (pc_din (by have := hr.un; omega) hi ho) hm) fun st H Q h => by
  obtain ⟨c, env, g, re, q⟩ := tB_M h
  exact tDIn_M ⟨c, env, g, re, q⟩
theorem mt_notInR (hr : RoomG k X.A) (hi : ME X E i fi) (ho : ME X E o fo) (hm : behindInMarks .NotIn o = false := by rfl) : MT X E (.Compare i [.NotIn] [o] pos) (mB (mOp opNotInR fi fo)) := PT.imp (pt_cmp (pc_dnotin (by have := hr.un; omega) hi ho) hm) fun st H Q h => by
  obtain ⟨c, env, g, re, q⟩ := tB_M h
  exact tDNotIn_M ⟨c, env, g, re, q⟩
/-- len of anything, dicts too -/
def cbLenR : Cb := fun s ds => match ds with
  | [d] => match dicD s d with
    | some kvs => some (.int kvs.length)
    | none => cbLen s [d]
  | _ => none
theorem cb_lenR : CbM X (.builtin "len") cbLenR := by
  intro pins s σ H xs us Q I r h
  obtain ⟨c, ds, z, g, rd, hz, q⟩ := h
  unfold cbLenR at hz
  split at hz
  · rename_i d
    split at hz
    · rename_i kvs ed
      cases hz
      have here := q H (Ext.refl c H) g
      cases rd with
      | cons r1 rn =>
        cases rn
        obtain ⟨a, vs, rfl, hs, rs⟩ := dicD_ok g r1 ed
        obtain ⟨u, rfl, rv⟩ := Vals.one r
        obtain rfl : u = Value.ref a := rv
        have len : ((kvs.map (·.1)).zip vs).length = kvs.length := by rw [List.length_zip, List.length_map, ← rs.length, List.length_map, Nat.min_self]
        refine d_len I hs fun t s' I' => ⟨.int _, H, I', ⟨t, rfl⟩, ?_⟩
        rw [len]
        exact here _ (.int _)
    · exact cb_len pins s σ H xs us Q I r ⟨c, _, z, g, rd, hz, q⟩
  · cases hz
/-- d[k] = v -/
def sPutR (fv fo fi : ET) : SM := fun env s => (fv env s).st env fun v s1 => (fo env s1).st env fun o s2 => (fi env s2).st env fun i s3 => match o, keyOf i with
  | .ref n, some k => match s3[n]? with
    | some (.dic true kvs) => if kvs.length < sizeLine then .fl (.nx env) (s3.set n (.dic true (putD kvs k v))) else .no
    | _ => .no
  | _, _ => .no
/-- list(d): its keys -/
def cbListR : Cb := fun s ds => match ds with
  | [.ref n] => match s[n]? with
    | some (.dic true kvs) => if (kvs.all fun kv => keyOk kv.1) = true then some (.lst (kvs.map fun kv => kD kv.1)) else none
    | _ => cbList s ds
  | _ => cbList s ds
theorem ms_putR {e : Expr} {ipos : Pos} (hr : RoomG k X.A) (he : ME X E e fv) (ho : ME X E o fo) (hi : ME X E i fi) (hs : swapsWith e (some (.Subscript o i ipos)) pos.line X.env = pure false := by rfl) :
    MS X E (.Assign [.Subscript o i ipos] e pos) (sPutR fv fo fi) := PS.imp (ps_dput (by have := hr.un; omega) ho hi he hs) fun En st H ⟨c, env, g, re, q⟩ => by
  refine ⟨c, env, g, re, (FinS.of_st re q).mono fun d c1 H1 e1 g1 q1 v rv => ?_⟩
  refine ⟨c1, env, g1, re.ext e1, (FinS.of_st (re.ext e1) q1).mono fun d2 c2 H2 e2 g2 q2 v2 rv2 => ?_⟩
  refine ⟨c2, env, g2, (re.ext e1).ext e2, (FinS.of_st ((re.ext e1).ext e2) q2).mono fun d3 c3 H3 e3 g3 q3 v3 rv3 => ?_⟩
  split at q3
  · rename_i n key ek
    split at q3
    · rename_i kvs zx
      split at q3
      · rename_i hl
        cases rv2.ext e3 with
        | @ref _ a hn =>
          obtain ⟨ho2, hq, ro⟩ := g3.obj n a _ hn zx
          cases ro with
          | @dic _ _ vs _ rs h1 h2 =>
            have hq2 := h2 rfl
            rw [hq2] at hq
            have kv0 := KVD.of rs
            have rd := (rv.ext e2).ext e3
            obtain ⟨vs2, e4, rs4⟩ := KVD.to (KVD.put (k := key) kv0 rd)
            have ex : Ext c3 H3 (c3.put n (.dic true (putD kvs key d))) (upd H3 a (.dK (((putD kvs key d).map (·.1)).zip vs2))) := Ext.wrote g3 hn zx rfl
            refine ⟨a, _, rfl, .inl ⟨_, key, hq, keyOf_ok rv3 ek, by rw [← KVD.length kv0]; exact hl, rfl⟩, ?_⟩
            rw [e4]
            exact q3 (c3.put n (.dic true (putD kvs key d))) _ ex (g3.wrote hn zx rfl (.dic (rs4.ext ex) rfl fun _ => rfl)) rfl st ((((re.ext e1).ext e2).ext e3).ext ex)
      · exact q3.elim
    · exact q3.elim
  · exact q3.elim
theorem kDs_rel {w : Wd} {H : Hp} {c : Ct} : ∀ {ks : List Key}, (∀ k ∈ ks, keyOk k = true) → RelDs w H c (ks.map kD) (ks.map kV)
  | [], _ => .nil
  | k :: r, h => .cons (kD_rel (h k List.mem_cons_self)) (kDs_rel fun x hx => h x (List.mem_cons_of_mem _ hx))
theorem cb_listR (hc : X.calm = true) : CbM X (.type "list") cbListR := by
  intro pins s σ H xs us Q I r h
  obtain ⟨c, ds, z, g, rd, hz, q⟩ := h
  unfold cbListR at hz
  split at hz
  · rename_i n
    split at hz
    · rename_i kvs e
      split at hz
      · rename_i ok
        cases hz
        cases rd with
        | cons r1 rn =>
          cases rn
          cases r1 with
          | @ref _ a hn =>
            obtain ⟨ho2, hq, ro⟩ := g.obj n a _ hn e
            cases ro with
            | @dic _ _ vs _ rs h1 h2 =>
              have hq2 := h2 rfl
              rw [hq2] at hq
              refine call_list_dK hc pins s σ H _ us Q I r ⟨a, _, rfl, hq, fun p hp => ?_⟩
              have keys : ((kvs.map (·.1)).zip vs).map (fun kv => kV kv.1) = (kvs.map (·.1)).map kV := by
                have kk := KVD.keys (KVD.of rs)
                have := congrArg (List.map kV) kk
                rw [this, List.map_map]
                rfl
              rw [keys]
              have dd : kvs.map (fun kv => kD kv.1) = (kvs.map (·.1)).map kD := by rw [List.map_map]; rfl
              refine q _ (Ext.fresh g hp) (g.fresh hp) _ ?_
              rw [dd]
              refine .lst ⟨upd_same, nlv_of g hp⟩ (kDs_rel fun k hk => ?_)
              obtain ⟨kv, hkv, rfl⟩ := List.mem_map.mp hk
              exact List.all_eq_true.mp ok kv hkv
      · cases hz
    · exact cb_list pins s σ H xs us Q I r ⟨c, _, z, g, rd, hz, q⟩
  · exact cb_list pins s σ H xs us Q I r ⟨c, _, z, g, rd, hz, q⟩
/-- {} that may change -/
def mDicR : ET := fun _ s => .ok (.ref s.length) (s ++ [.dic true []])
theorem me_dicR : ME X E (.Dict [] [] pos) mDicR := PE.imp pe_dnewK fun st H Q ⟨c, env, g, re, q⟩ p hp => by
  have ex : Ext c H (c.push p (.dic true [])) (upd H p (.dK [])) := Ext.pushed g hp
  exact q (c.push p (.dic true [])) _ ex (g.pushed hp (.dic (vs := []) .nil rfl fun _ => rfl)) rfl _ (ref_new g)
/-- d == {} -/
def dicM (s : Sto) : D → Option (List (Key × D))
  | .ref n => match s[n]? with
    | some (.dic true kvs) => some kvs
    | _ => none
  | .dic kvs => none
  | _ => none
def opEqE : Op2 := fun s d e => match dicM s d, e with
  | some kvs, .dic [] => some (.bl kvs.isEmpty)
  | _, _ => none
theorem dicM_ok {w : Wd} {H : Hp} {c : Ct} {d : D} {v : V} {kvs : List (Key × D)} (g : Good w H c) (r : RelD w H c d v) (h : dicM c.S d = some kvs) :
    ∃ a vs, v = .ref a ∧ H a = some (.dK ((kvs.map (·.1)).zip vs)) ∧ RelDs w H c (kvs.map (·.2)) vs := by
  cases r with
  | @ref n a hn =>
    simp only [dicM] at h
    split at h
    · rename_i kvs' e
      cases h
      obtain ⟨ho, q, ro⟩ := g.obj n a _ hn e
      cases ro with
      | dic rs h1 h2 =>
        rw [h2 rfl] at q
        exact ⟨a, _, rfl, q, rs⟩
    · cases h
  | _ => simp [dicM] at h
/-- a dict beside one that holds nothing -/
theorem op_eqE0 (hu : X.A.units < cLine) : OpR X (compareOp .Eq) (fun x y H Q => ∃ a b ks, x = .ref a ∧ y = .ref b ∧ H a = some (.dK ks) ∧ Rd H b (.dK []) ∧ Q (.bl ks.isEmpty) H) := by
  intro pins s σ H x y v u Q I rx ry h
  obtain ⟨a, b, ks, rfl, rfl, ea, eb, q⟩ := h
  obtain rfl : v = Value.ref a := rx
  obtain rfl : u = Value.ref b := ry
  obtain ⟨_, ya, va, ra, da⟩ := (show ObjOk X.prog X.w H s.heap a (.dK ks) from I.hok a _ ea)
  obtain ⟨_, yb, vb, rb, db⟩ := (show ObjOk X.prog X.w H s.heap b (.dK []) from eb.ok I.hok)
  cases rb
  have hl := ra.length
  refine PySem.W.keq_eq (knd := mixKind X.prog X.w) (r := true) ya yb da db hu (fun z => ?_) (fin_bl I q ?_)
  · cases va with
    | nil => cases ra; exact hits_all (kvs := []) (ks := []) .nil .nil (by simp)
    | cons a b => simp at z
  · cases ks with
    | nil => cases ra; rfl
    | cons a b => cases ra; rfl
theorem op_eqE (hu : X.A.units < cLine) : OpM X (compareOp .Eq) opEqE := by
  intro pins s σ H x y v u Q I rx ry h
  obtain ⟨c, d, e, z, g, rd, re, hz, q⟩ := h
  unfold opEqE at hz
  split at hz
  · rename_i kvs ed
    cases hz
    obtain ⟨a, vs, rfl, ha, rs⟩ := dicM_ok g rd ed
    cases re with
    | @dic b _ vs2 hb nl rs2 =>
      cases rs2
      have here := q H (Ext.refl c H) g _ (.bl _)
      refine op_eqE0 hu pins s σ H _ _ v u Q I rx ry ⟨a, b, _, rfl, rfl, ha, hb, ?_⟩
      have : ((kvs.map (·.1)).zip vs).isEmpty = kvs.isEmpty := (zip_empty (by simpa using rs.length)).symm
      rw [this]
      exact here
  · cases hz
end
end Mi
end
section
set_option maxRecDepth 100000
set_option maxHeartbeats 1000000
namespace Mi
open PySem PySem.Spec PyProof.Rows L2
/-! ### methods that write a list -/
abbrev LmT := Sto → List D → List D → Option (D × List D)
def mLm (op : LmT) (fo : ET) (fs : AT) : ET := fun env s => (fo env s).bind fun o s1 => match o with
  | .ref n => match s1[n]? with
    | some (.lst true _) => (fs env s1).bind fun ds s2 => match s2[n]? with
      | some (.lst true xs) => match op s2 xs ds with
        | some (y, xs') => .ok y (s2.set n (.lst true xs'))
        | none => .no
      | _ => .no
    | _ => .no
  | _ => .no
/-- what the rule of such a method must bear -/
def LmM (X : Cx) (id : String) (op : LmT) : Prop := ∃ r : V → List V → Hp → VK → Prop, MtR X id r ∧ ∀ (c : Ct) (H : Hp) (n : Nat) (l : Addr) (xs xs' : List D) (vs : List V) (ds : List D) (us : List V) (y : D) (Q : VK),
  Good (Wx X) H c → c.p[n]? = some l → c.S[n]? = some (.lst true xs) → H l = some (.lst vs) → RelDs (Wx X) H c xs vs → RelDs (Wx X) H c ds us → op c.S xs ds = some (y, xs') →
  (∀ vs' v, RelDs (Wx X) H c xs' vs' → RelD (Wx X) H c y v → Q v (upd H l (.lst vs'))) → r (.ref l) us H Q
section
variable {X : Cx} {E : L2.St → XK} {a b : Expr} {es : List Expr} {pos apos : Pos} {fo : ET} {fs : AT} {id : String} {name : Str} {op : LmT}
theorem me_lm (slot : Slot "list" name id) (hty : typeOf (.builtin id) = pure (.type "method_descriptor")) (hm : LmM X id op) (ho : ME X E b fo) (ha : MA X E (a :: es) fs)
    (hbase : attributeBase b name X.env (eval b X.env) = eval b X.env := by rfl)
    (hfew : ((backTo pos (starEach (a :: es) X.env)).all (fun x => !x.1) && (backToKw pos (keywordEach [] X.env)).all (fun x => x.1.isSome)
      && decide ((a :: es).length + ([] : List Keyword).length + (if ([] : List Keyword).isEmpty then 0 else 1) < 30)) = true := by rfl)
    (hline : (apos.endLine == pos.line) = true := by rfl) (hs : starEach (a :: es) X.env = (false, eval a X.env) :: starEach es X.env := by rfl) (hplain : (backTo pos (starEach es X.env)).any (·.1) = false := by rfl) :
    ME X E (.Call (.Attribute b name apos) (a :: es) [] pos) (mLm op fo fs) := by
  obtain ⟨r, mt, sound⟩ := hm
  refine PE.imp (pe_bm PySem.F.plainAttrs_list slot hty mt ho ha hbase hfew hline hs hplain) fun st H Q ⟨c, env, g, re, q⟩ => ?_
  refine ⟨c, env, g, re, (Fin.bind q).mono fun d c1 H1 e1 g1 q1 v rv => ?_⟩
  split at q1
  · rename_i n
    split at q1
    · rename_i zs z1
      cases rv with
      | @ref _ l hn =>
        obtain ⟨ho1, hq1, ro1⟩ := g1.obj n l _ hn z1
        cases ro1 with
        | @lst _ _ vs1 rs1 =>
          refine ⟨.inl ⟨rfl, vs1, .inl (.inl hq1)⟩, c1, env, g1, re.ext e1, (Fin.bind q1).mono fun ds c2 H2 e2 g2 q2 us ru => ?_⟩
          split at q2
          · rename_i xs z2
            split at q2
            · rename_i y xs' z3
              have hn2 := e2.p _ _ hn
              obtain ⟨ho2, hq2, ro2⟩ := g2.obj n l _ hn2 z2
              cases ro2 with
              | @lst _ _ vs2 rs2 =>
                refine sound c2 H2 n l xs xs' vs2 ds us y Q g2 hn2 z2 hq2 rs2 ru z3 fun vs' v rvs rv => ?_
                have ex : Ext c2 H2 (c2.put n (.lst true xs')) (upd H2 l (.lst vs')) := Ext.wrote g2 hn2 z2 rfl
                exact q2 (c2.put n (.lst true xs')) _ ex (g2.wrote hn2 z2 rfl (.lst (rvs.ext ex))) rfl _ (rv.ext ex)
            · exact q2.elim
          · exact q2.elim
    · exact q1.elim
  · exact q1.elim
def lmPop : LmT := fun _ xs ds => match ds with
  | [.int i] => if -(2 ^ 63) ≤ i ∧ i < 2 ^ 63 then (match ixN xs.length i with
      | some k => match xs[k]? with
        | some y => some (y, xs.eraseIdx k)
        | none => none
      | none => none) else none
  | _ => none
def lmInsert : LmT := fun _ xs ds => match ds with
  | [.int i, y] => if xs.length < sizeLine ∧ 0 ≤ i ∧ i < 2 ^ 63 then some (.non, xs.take i.toNat ++ [y] ++ xs.drop i.toNat) else none
  | _ => none
def lmExtend : LmT := fun s xs ds => match ds with
  | [.lst zs] => if xs.length + zs.length ≤ sizeLine then some (.non, xs ++ zs) else none
  | _ => none
def lmAppend : LmT := fun _ xs ds => match ds with
  | [y] => if xs.length < sizeLine then some (.non, xs ++ [y]) else none
  | _ => none
theorem lm_pop : LmM X "list.pop" lmPop := by
  refine ⟨_, mt_popAt, fun c H n l xs xs' vs ds us y Q g hn hS hH rx ru hop k => ?_⟩
  unfold lmPop at hop
  split at hop
  · rename_i i
    split at hop
    · rename_i hi
      split at hop
      · rename_i j ej
        split at hop
        · rename_i y' ey
          cases hop
          cases ru with
          | cons r1 rn =>
            cases rn; cases r1
            obtain ⟨v, hv, rv⟩ := rx.get ey
            refine ⟨l, vs, i, j, v, rfl, rfl, hH, hi.1, hi.2, ?_, hv, k _ v (rx.eraseIdx j) rv⟩
            rw [rx.length] at ej
            exact (ixN_seq ej).1
        · cases hop
      · cases hop
    · cases hop
  · cases hop
theorem lm_insert : LmM X "list.insert" lmInsert := by
  refine ⟨_, mt_insert, fun c H n l xs xs' vs ds us y Q g hn hS hH rx ru hop k => ?_⟩
  unfold lmInsert at hop
  split at hop
  · rename_i i y'
    split at hop
    · rename_i hi
      cases hop
      cases ru with
      | cons r1 rn =>
        cases rn with
        | @cons _ _ v _ r2 rn =>
          cases rn; cases r1
          refine ⟨l, vs, i, v, rfl, rfl, hH, by rw [← rx.length]; exact hi.1, hi.2.1, hi.2.2, k _ _ (((rx.take _).append (.cons r2 .nil)).append (rx.drop _)) .non⟩
    · cases hop
  · cases hop
theorem lm_extend : LmM X "list.extend" lmExtend := by
  refine ⟨_, mt_extend, fun c H n l xs xs' vs ds us y Q g hn hS hH rx ru hop k => ?_⟩
  unfold lmExtend at hop
  split at hop
  · rename_i zs
    split at hop
    · rename_i hl
      cases hop
      cases ru with
      | cons r1 rn =>
        cases rn
        cases r1 with
        | @lst b _ us hb rs =>
          exact ⟨l, b, vs, us, rfl, rfl, hH, hb.1, by rw [← rx.length, ← rs.length]; exact hl, k _ _ (rx.append rs) .non⟩
    · cases hop
  · cases hop
theorem lm_append : LmM X "list.append" lmAppend := by
  refine ⟨_, mt_append, fun c H n l xs xs' vs ds us y Q g hn hS hH rx ru hop k => ?_⟩
  unfold lmAppend at hop
  split at hop
  · rename_i y'
    split at hop
    · rename_i hl
      cases hop
      cases ru with
      | @cons _ _ v _ r1 rn =>
        cases rn
        exact ⟨l, vs, v, rfl, rfl, hH, by rw [← rx.length]; exact hl, k _ _ (rx.append (.cons r1 .nil)) .non⟩
    · cases hop
  · cases hop
/-! ### methods of texts -/
def mbStarts : Mb := fun _ d ds => match d, ds with
  | .str x, [.str y] => some (.bl (Txt.startswith x y))
  | _, _ => none
theorem mb_starts : MbM X "str.startswith" mbStarts := by
  intro pins s σ H x xs v us Q I rx rs h
  obtain ⟨c, d, ds, z, g, rd, rds, hz, q⟩ := h
  have here := q H (Ext.refl c H) g
  unfold mbStarts at hz
  split at hz
  · cases hz
    cases rd
    cases rds with
    | cons r1 rn =>
      cases rn; cases r1
      exact mt_startswith pins s σ H _ _ v us Q I rx rs ⟨_, _, rfl, rfl, here _ (.bl _)⟩
  · cases hz
def mbSplit : Mb := fun _ d ds => match d, ds with
  | .str x, [.str y] => if (y.length == 0) = false ∧ x.length + 2 ≤ sizeLine ∧ ((Txt.split x y).all fun z => decide (z.length ≤ sizeLine)) = true then some (.lst ((Txt.split x y).map .str)) else none
  | _, _ => none
theorem mb_split : MbM X "str.split" mbSplit := by
  intro pins s σ H x xs v us Q I rx rs h
  obtain ⟨c, d, ds, z, g, rd, rds, hz, q⟩ := h
  unfold mbSplit at hz
  split at hz
  · split at hz
    · rename_i hl
      cases hz
      cases rd
      cases rds with
      | cons r1 rn =>
        cases rn; cases r1
        refine mt_split pins s σ H _ _ v us Q I rx rs ⟨_, _, rfl, rfl, hl.1, hl.2.1, fun p hp => ?_⟩
        refine q _ (Ext.fresh g hp) (g.fresh hp) _ (.lst ⟨upd_same, nlv_of g hp⟩ (strs_rel fun z hz => ?_))
        exact of_decide_eq_true (List.all_eq_true.mp hl.2.2 z hz)
    · cases hz
  · cases hz
/-- s.split(t): a list that may change -/
def mSplR (fa : ET) (fs : AT) : ET := fun env s => ((mStr fa) env s).bind fun d s1 => (fs env s1).bind fun ds s2 => match mbSplit s2 d ds with
  | some (.lst ys) => .ok (.ref s2.length) (s2 ++ [.lst true ys])
  | _ => .no
theorem me_splR (ho : ME X E b fo) (ha : MA X E (a :: es) fs) (hbase : attributeBase b "split" X.env (eval b X.env) = eval b X.env := by rfl)
    (hfew : ((backTo pos (starEach (a :: es) X.env)).all (fun x => !x.1) && (backToKw pos (keywordEach [] X.env)).all (fun x => x.1.isSome)
      && decide ((a :: es).length + ([] : List Keyword).length + (if ([] : List Keyword).isEmpty then 0 else 1) < 30)) = true := by rfl)
    (hline : (apos.endLine == pos.line) = true := by rfl) (hs : starEach (a :: es) X.env = (false, eval a X.env) :: starEach es X.env := by rfl) (hplain : (backTo pos (starEach es X.env)).any (·.1) = false := by rfl) :
    ME X E (.Call (.Attribute b "split" apos) (a :: es) [] pos) (mSplR fo fs) := PE.imp (pe_bm PySem.F.plainAttrs_str PySem.F.slot_str_split PySem.F.type_str_split mt_split ho ha hbase hfew hline hs hplain) fun st H Q ⟨c, env, g, re, q⟩ => by
  have q1 := Fin.bind q
  have q2 := Fin.bind q1
  refine ⟨c, env, g, re, q2.mono fun d c1 H1 e1 g1 q1 v rv => ?_⟩
  cases d with
  | str y =>
    cases rv with
    | str _ hy =>
      refine ⟨rfl, c1, env, g1, re.ext e1, (Fin.bind (q1.here g1 rfl)).mono fun ds c2 H2 e2 g2 q2 vs rvs => ?_⟩
      split at q2
      · rename_i ys z
        unfold mbSplit at z
        split at z
        · rename_i x0 y0 e0
          cases e0
          split at z
          · rename_i hl
            cases z
            cases rvs with
            | cons r1 rn =>
              cases rn; cases r1
              refine ⟨_, _, rfl, rfl, hl.1, hl.2.1, fun p hp => ?_⟩
              have ex : Ext c2 H2 (c2.push p (.lst true ((Txt.split y y0).map .str))) (upd H2 p (.lst ((Txt.split y y0).map V.str))) := Ext.pushed g2 hp
              exact q2 (c2.push p (.lst true ((Txt.split y y0).map .str))) _ ex (g2.pushed hp (.lst (strs_rel fun z hz => of_decide_eq_true (List.all_eq_true.mp hl.2.2 z hz)))) rfl _ (ref_new g2)
          · cases z
        · cases z
      · exact q2.elim
  | _ => exact q1.elim
/-- join of lists and of tuples -/
def mbJoin2 : Mb := fun s d ds => match d, ds with
  | .str x, [.tup zs] => match allStr zs with
    | some ys => if (ys.map (·.length)).sum + ys.length * x.length ≤ 16777216 ∧ (Txt.join x ys).length ≤ sizeLine then some (.str (Txt.join x ys)) else none
    | none => none
  | d, ds => mbJoin s d ds
theorem mb_join2 : MbM X "str.join" mbJoin2 := by
  intro pins s σ H x xs v us Q I rx rs h
  obtain ⟨c, d, ds, z, g, rd, rds, hz, q⟩ := h
  have here := q H (Ext.refl c H) g
  unfold mbJoin2 at hz
  split at hz
  · rename_i x zs
    split at hz
    · rename_i ys zz
      split at hz
      · rename_i hl
        cases hz; cases rd
        cases rds with
        | cons r1 rn =>
          cases rn
          obtain rfl := allStr_eq zz
          cases r1 with
          | @tup a _ vs hq rs' =>
            obtain rfl := rs'.map_str
            exact mt_join pins s σ H _ _ v us Q I rx rs ⟨x, a, ys, rfl, rfl, .inr hq.sq, hl.1, here _ (.str _ hl.2)⟩
      · cases hz
    · cases hz
  · exact mb_join pins s σ H x xs v us Q I rx rs ⟨c, _, _, z, g, rd, rds, hz, q⟩
/-- o1[i1], o2[i2] = e1, e2 -/
def put1 (v : D) (fo fi : ET) (env : Env) (s : Sto) (k : Sto → SR) : SR := (fo env s).st env fun o s2 => (fi env s2).st env fun i s3 => match o, i with
  | .ref n, .int j => match s3[n]? with
    | some (.lst true xs) => match ixN xs.length j with
      | some m => k (s3.set n (.lst true (xs.set m v)))
      | none => .no
    | _ => .no
  | _, _ => .no
def sSwp (f1 f2 fo fi go gi : ET) : SM := fun env s => (f1 env s).st env fun d s1 => (f2 env s1).st env fun e s2 => put1 d fo fi env s2 fun s3 => put1 e go gi env s3 fun s4 => .fl (.nx env) s4
theorem put1_ok {w : Wd} {v : D} {u : V} {fo' fi' : ET} {c : Ct} {H : Hp} {env : Env} {st : L2.St} {En : Ends} {kk : Sto → SR} {R : Hp → Prop} (re : RelEnv w H c env st) (g : Good w H c) (rv : RelD w H c v u)
    (q : FinS w E c H (put1 v fo' fi' env c.S kk) En) (after : ∀ c2 H2, Ext c H c2 H2 → Good w H2 c2 → FinS w E c2 H2 (kk c2.S) En → R H2) :
    tM w E fo' st H fun o H1 => tM w E fi' st H1 fun i H2 => rSetL o i u H2 R := by
  refine ⟨c, env, g, re, (FinS.of_st re q).mono fun d2 c2 H2 e2 g2 q2 v2 rv2 => ?_⟩
  refine ⟨c2, env, g2, re.ext e2, (FinS.of_st (re.ext e2) q2).mono fun d3 c3 H3 e3 g3 q3 v3 rv3 => ?_⟩
  split at q3
  · rename_i n j
    split at q3
    · rename_i xs zx
      split at q3
      · rename_i m zm
        cases rv3
        cases rv2.ext e3 with
        | @ref _ a hn =>
          obtain ⟨ho, hq, ro⟩ := g3.obj n a _ hn zx
          cases ro with
          | @lst _ _ vs rs =>
            have ru := (rv.ext e2).ext e3
            have ex : Ext c3 H3 (c3.put n (.lst true (xs.set m v))) (upd H3 a (.lst (vs.set m u))) := Ext.wrote g3 hn zx rfl
            refine ⟨a, vs, j, m, rfl, rfl, hq, by rw [← rs.length]; exact zm, ?_⟩
            exact after (c3.put n (.lst true (xs.set m v))) _ ((e2.trans e3).trans ex) (g3.wrote hn zx rfl (.lst ((rs.set ru).ext ex))) (FinS.later ex q3)
      · exact q3.elim
    · exact q3.elim
  · exact q3.elim
theorem ms_swp {e1 e2 o1 i1 o2 i2 : Expr} {f1 f2 fo1 fi1 fo2 fi2 : ET} {p1 p2 p3 p4 : Pos} {k1 k2} (hc : X.calm = true) (h1 : ME X E e1 f1) (h2 : ME X E e2 f2) (ho1 : ME X E o1 fo1) (hi1 : ME X E i1 fi1) (ho2 : ME X E o2 fo2) (hi2 : ME X E i2 fi2)
    (ha1 : ∀ v, assign (.Subscript o1 i1 p1) X.env v = (do let ov ← holding [v] (eval o1 X.env); let iv ← holding [v, ov] (eval i1 X.env); standAt p1; holding [v, ov, iv] (setItem ov iv v); release [v, ov, iv] []) := by intro _; rfl)
    (ha2 : ∀ v, assign (.Subscript o2 i2 p2) X.env v = (do let ov ← holding [v] (eval o2 X.env); let iv ← holding [v, ov] (eval i2 X.env); standAt p2; holding [v, ov, iv] (setItem ov iv v); release [v, ov, iv] []) := by intro _; rfl)
    (s1 : starEach [e1, e2] X.env = (false, eval e1 X.env) :: starEach [e2] X.env := by rfl) (s2 : starEach [e2] X.env = (false, eval e2 X.env) :: starEach [] X.env := by rfl)
    (hs : swapsWithSole [.Tuple [.Subscript o1 i1 p1, .Subscript o2 i2 p2] k1 p3] (.Tuple [e1, e2] k2 p4) pos.line X.env = pure false := by rfl) (hw : swappedStores [.Tuple [.Subscript o1 i1 p1, .Subscript o2 i2 p2] k1 p3] (.Tuple [e1, e2] k2 p4) X.env = pure none := by rfl)
    (hh : (assignEach [.Tuple [.Subscript o1 i1 p1, .Subscript o2 i2 p2] k1 p3] X.env).map (·.2) = [assign (.Tuple [.Subscript o1 i1 p1, .Subscript o2 i2 p2] k1 p3) X.env] := by rfl)
    (hn : (assignEach [.Subscript o1 i1 p1, .Subscript o2 i2 p2] X.env).length = 2 := by rfl) (hst : (assignEach [.Subscript o1 i1 p1, .Subscript o2 i2 p2] X.env).findIdx? (·.1) = none := by rfl)
    (g1 : (assignEach [.Subscript o1 i1 p1, .Subscript o2 i2 p2] X.env).map (·.2) = assign (.Subscript o1 i1 p1) X.env :: (assignEach [.Subscript o2 i2 p2] X.env).map (·.2) := by rfl)
    (g2 : (assignEach [.Subscript o2 i2 p2] X.env).map (·.2) = assign (.Subscript o2 i2 p2) X.env :: (assignEach [] X.env).map (·.2) := by rfl) :
    MS X E (.Assign [.Tuple [.Subscript o1 i1 p1, .Subscript o2 i2 p2] k1 p3] (.Tuple [e1, e2] k2 p4) pos) (sSwp f1 f2 fo1 fi1 fo2 fi2) := by
  refine PS.imp (ps_asg (pe_tup (pa_cons h1 (pa_cons h2 pa_nil s2) s1)) (pg_tup hc (pgs_cons (pg_sub ho1 hi1 set_list ha1) (pgs_cons (pg_sub ho2 hi2 set_list ha2) pgs_nil g2) g1) hn hst) hs hw hh) fun En st H ⟨c, env, g, re, q⟩ => ?_
  refine ⟨c, env, g, re, (FinS.of_st re q).mono fun d c1 H1 e1 g1 q1 v rv => ?_⟩
  refine ⟨c1, env, g1, re.ext e1, (FinS.of_st (re.ext e1) q1).mono fun d2 c2 H2 e2 g2 q2 v2 rv2 => ?_⟩
  refine ⟨by show 2 ≤ sizeLine; rw [sizeLine_eq]; decide, fun p hp => ⟨p, [v, v2], rfl, .inl (.inl upd_same), rfl, ?_⟩⟩
  have ex : Ext c2 H2 c2 (upd H2 p (.tup [v, v2])) := Ext.fresh g2 hp
  have re2 := ((re.ext e1).ext e2).ext ex
  refine ⟨v, [v2], rfl, put1_ok re2 (g2.fresh hp) ((rv.ext e2).ext ex) (FinS.later ex q2) fun c3 H3 e3 g3 q3 => ?_⟩
  refine ⟨v2, [], rfl, put1_ok (re2.ext e3) g3 ((rv2.ext ex).ext e3) q3 fun c4 H4 e4 g4 q4 => ?_⟩
  exact ⟨rfl, q4 c4 H4 (Ext.refl _ _) g4 rfl st ((re2.ext e3).ext e4)⟩
end
end Mi
end
section
set_option maxRecDepth 100000
set_option maxHeartbeats 1000000
namespace Mi
open PySem PySem.Spec PyProof.Rows L2
/-! ### a tuple of texts of the module -/
def TupC (K : PySem.W.Frag) (a : Addr) (xs : List Str) : Prop := ∃ (o : Obj) (its : Array Value) (n : Nat), K.lookup a = some o ∧ o.cls = .type "tuple" ∧ o.data = .seq its n ∧ its.size ≤ sizeLine ∧ Vals (xs.map V.str) its.toList
theorem me_globT {X : Cx} {E : L2.St → XK} {x : Str} {a : Addr} {xs : List Str} {pos : Pos} (hg : Gl X x) (hm : X.mg x = some (.ref a)) (hk : TupC X.K a xs) (hx : (xs.all fun z => decide (z.length ≤ sizeLine)) = true) (hd : (x == ("__debug__" : Str)) = false := by decide) :
    ME X E (.Name x pos) (mC (.tup (xs.map .str))) := by
  obtain ⟨o, its, n, h1, h2, h3, h4, h5⟩ := hk
  refine me_glob (v := .ref a) hg hm rfl (fun H c => .tup (.inr ⟨o, its, n, h1, h2, h3, h4, h5⟩) ?_) hd
  exact strs_rel fun z hz => of_decide_eq_true (List.all_eq_true.mp hx z hz)
theorem hu1 {k : Nat} {A : Around} (r : RoomG k A) : A.units < cLine := by have := r.un; omega
/-! ### tables of facts -/
theorem exmT_nil {K : PySem.W.Frag} {mg : Str → Option Value} {ec : Value} : ExmT K mg ec [] := fun nm b C h => by cases h
theorem exmT_cons {K : PySem.W.Frag} {mg : Str → Option Value} {ec : Value} {nm : Str} {b : Bool} {C : Addr} {r : List (Str × Bool)} (hg : mg nm = some (.ref C)) (h : PySem.W.exmOne K (.ref C) ec = some b) (t : ExmT K mg ec r) : ExmT K mg ec ((nm, b) :: r) := fun nm' b' C' e g => by
  simp only [tblB, List.lookup_cons] at e
  cases z : nm' == nm with
  | true =>
    rw [z] at e
    cases e
    rw [eq_of_beq z, hg] at g
    cases g
    exact h
  | false => rw [z] at e; exact t nm' b' C' e g
section
variable {w : Wd} {kit : Value → Option Bool} {nm : Str} {b : Bool} {C : Addr} {r : List (Str × Bool)}
theorem isE_nil : IsE w kit [] := fun nm b h => by cases h
theorem isE_cons (F : XcF w.K w.mg nm C) (k : kit (.ref C) = some b) (t : IsE w kit r) : IsE w kit ((nm, b) :: r) := fun nm' b' e => by
  simp only [tblB, List.lookup_cons] at e
  cases z : nm' == nm with
  | true => rw [z] at e; cases e; rw [eq_of_beq z]; exact ⟨C, F, k⟩
  | false => rw [z] at e; exact t nm' b' e
theorem isI_nil : IsI w kit [] := fun nm b h => by cases h
theorem isI_cons (F : ClF w.K w.mg nm C) (k : kit (.ref C) = some b) (t : IsI w kit r) : IsI w kit ((nm, b) :: r) := fun nm' b' e => by
  simp only [tblB, List.lookup_cons] at e
  cases z : nm' == nm with
  | true => rw [z] at e; cases e; rw [eq_of_beq z]; exact ⟨C, F, k⟩
  | false => rw [z] at e; exact t nm' b' e
theorem isN_nil : IsN kit [] := fun nm b h => by cases h
theorem isN_cons {n : String} {r : List (String × Bool)} (k : kit (.type n) = some b) (t : IsN kit r) : IsN kit ((n, b) :: r) := fun n' b' e => by
  simp only [List.lookup_cons] at e
  cases z : n' == n with
  | true => rw [z] at e; cases e; rw [eq_of_beq z]; exact k
  | false => rw [z] at e; exact t n' b' e
theorem xvF_nil {f : Str} : XvF w f [] := fun nm h => by cases h
theorem xvF_cons {f : Str} {ns : List Str} (F : XcF w.K w.mg nm C) (h : PySem.W.findIn w.K (.ref C) f = some none) (t : XvF w f ns) : XvF w f (nm :: ns) := fun n hn => by
  rcases List.mem_cons.mp hn with rfl | hn
  · exact ⟨C, F, h⟩
  · exact t n hn
end
end Mi
end
section
set_option maxRecDepth 100000
set_option maxHeartbeats 1000000
namespace Mi
open PySem PySem.Spec PyProof.Rows L2 PySem.W PySem.HandSPX PySem.XvX
/-- what the written part says of an error class of our own, and of its __init__ -/
structure XvK (prog : Program) (K : Frag) (C fI : Addr) : Prop where
  cls : ∃ n q N bs bm sn sub ab col dd k0 k1 k2 k3 k5, K.lookup C = some (excClassObj n q C N bs bm true sn sub ab col dd k0 k1 k2 k3 k5 "ValueError.__new__") ∧ refsVE bm = true
  sa : findIn K (.ref C) "__setattr__" = some (some (.builtin "object.__setattr__"))
  ga : findIn K (.ref C) "__getattribute__" = some (some (.builtin "BaseException.__getattribute__"))
  gg : findIn K (.ref C) "__getattr__" = some none
  noN : findIn K (.ref C) "value" = some none
  iC : findIn K (.ref C) "__init__" = some (some (.ref fI))
  tC : typeIn K (.ref fI) = some (.type "function")
  kC : keepIn K (.ref C) = true
  exC : subIn K (.ref C) (.type "BaseException") = some true
  veC : subIn K (.ref C) (.type "ValueError") = some true
  tyC : typeIn K (.ref C) = some (.type "type")
  hdC : hasDictIn K C = true
  op : nsIn K cStatics "thirdparty.any" = some none
  sI : ks_superIn K C C "__init__" = some (some (.builtin "ValueError.__init__"))
  sS : mroIn K C (.ref C) = some true
  top : (prog.main.scope.names.lookup ("super" : Str)).isSome = false
  fn : ∃ (oc : Value) (od : Option Addr) (qual msg : Str) (kk : Nat) (sc : Scope) (kV doc pm : Value) (an : Option Addr) (cda : Addr) (ct : Value) (osl : Array (Option Value)) (cc : Addr) (p1 p2 q1 q2 q3 q4 q5 q6 q7 q8 q9 q10 : Pos) (ccl : Value) (cdd : Option Addr) (vs : Array Value) (ccs : Array (Option Value)) (file : Str) (tf : Tok) (cl : Value) (cld : Option Addr) (csl : Array (Option Value)),
    K.lookup fI = some ⟨oc, od, .func (ksFn "__init__" qual (iA p1 p2) (iB msg kk q1 q2 q3 q4 q5 q6 q7 q8 q9 q10) sc .none kV doc pm an (.ref cda) ct cc), osl⟩ ∧ codeIn K (.ref cda) qual = true ∧
    K.lookup cda = some ⟨ccl, cdd, .fields vs, ccs⟩ ∧ vs[2]? = some (.str file tf) ∧ ((prog.main.file : Str) == file) = true ∧ K.lookup cc = some ⟨cl, cld, .cell (some (.ref C)), csl⟩ ∧
    sc.names.lookup ("super" : Str) = some .globalImplicit ∧ sc.names.lookup ("__class__" : Str) = some .free ∧ sc.names.lookup ("self" : Str) = some .local ∧ sc.names.lookup ("value" : Str) = some .local ∧
    sc.kind = .function ∧ sc.isCoroutine = false ∧ sc.isGenerator = false ∧ (∀ x ∈ sc.names, x.2 ≠ .cell) ∧ (q3.endLine == q5.line) = true
theorem XvK.to {prog : Program} {K : Frag} {mg : Str → Option Value} {nm : Str} {C fI : Addr} (x : XvK prog K C fI) (g : mg nm = some (.ref C)) (s : mg "super" = none) : XvT prog K mg nm C fI :=
  ⟨g, x.cls, x.sa, x.ga, x.gg, x.noN, x.iC, x.tC, x.kC, x.exC, x.veC, x.tyC, x.hdC, x.op, x.sI, x.sS, s, x.top, x.fn⟩
theorem xvk {prog : Program} {K : Frag} {C fI : Addr} {n q : Str} {N : Addr} {bs bm : List Value} {sn : List Str} {sub : List Value} {ab : Bool} {col : Option Bool} {dd : Option Addr} {k0 k1 k2 k3 k5 : Option Value}
    {oc : Value} {od : Option Addr} {qual msg : Str} {kk : Nat} {sc : Scope} {kV doc pm : Value} {an : Option Addr} {cda : Addr} {ct : Value} {osl : Array (Option Value)} {cc : Addr} {p1 p2 q1 q2 q3 q4 q5 q6 q7 q8 q9 q10 : Pos} {ccl : Value} {cdd : Option Addr} {vs : Array Value} {ccs : Array (Option Value)} {file : Str} {tf : Tok} {cl : Value} {cld : Option Addr} {csl : Array (Option Value)}
    (c1 : K.lookup C = some (excClassObj n q C N bs bm true sn sub ab col dd k0 k1 k2 k3 k5 "ValueError.__new__")) (c2 : findIn K (.ref C) "__setattr__" = some (some (.builtin "object.__setattr__"))) (c3 : findIn K (.ref C) "__getattribute__" = some (some (.builtin "BaseException.__getattribute__")))
    (c4 : findIn K (.ref C) "__getattr__" = some none) (c5 : findIn K (.ref C) "value" = some none) (c6 : findIn K (.ref C) "__init__" = some (some (.ref fI))) (c7 : typeIn K (.ref fI) = some (.type "function")) (c8 : keepIn K (.ref C) = true)
    (c9 : subIn K (.ref C) (.type "BaseException") = some true) (c10 : subIn K (.ref C) (.type "ValueError") = some true) (c11 : typeIn K (.ref C) = some (.type "type")) (c12 : hasDictIn K C = true) (c13 : nsIn K cStatics "thirdparty.any" = some none)
    (c14 : ks_superIn K C C "__init__" = some (some (.builtin "ValueError.__init__"))) (c15 : mroIn K C (.ref C) = some true)
    (c16 : K.lookup fI = some ⟨oc, od, .func (ksFn "__init__" qual (iA p1 p2) (iB msg kk q1 q2 q3 q4 q5 q6 q7 q8 q9 q10) sc .none kV doc pm an (.ref cda) ct cc), osl⟩) (c17 : codeIn K (.ref cda) qual = true) (c18 : K.lookup cda = some ⟨ccl, cdd, .fields vs, ccs⟩)
    (c19 : K.lookup cc = some ⟨cl, cld, .cell (some (.ref C)), csl⟩) (d1 : refsVE bm = true) (d2 : vs[2]? = some (.str file tf)) (d3 : ((prog.main.file : Str) == file) = true) (d4 : (prog.main.scope.names.lookup ("super" : Str)).isSome = false)
    (d5 : sc.names.lookup ("super" : Str) = some .globalImplicit ∧ sc.names.lookup ("__class__" : Str) = some .free ∧ sc.names.lookup ("self" : Str) = some .local ∧ sc.names.lookup ("value" : Str) = some .local ∧ sc.kind = .function ∧ sc.isCoroutine = false ∧ sc.isGenerator = false ∧ (∀ x ∈ sc.names, x.2 ≠ .cell))
    (d6 : (q3.endLine == q5.line) = true) : XvK prog K C fI :=
  ⟨⟨n, q, N, bs, bm, sn, sub, ab, col, dd, k0, k1, k2, k3, k5, c1, d1⟩, c2, c3, c4, c5, c6, c7, c8, c9, c10, c11, c12, c13, c14, c15, d4,
    ⟨oc, od, qual, msg, kk, sc, kV, doc, pm, an, cda, ct, osl, cc, p1, p2, q1, q2, q3, q4, q5, q6, q7, q8, q9, q10, ccl, cdd, vs, ccs, file, tf, cl, cld, csl, c16, c17, c18, d2, d3, c19, d5.1, d5.2.1, d5.2.2.1, d5.2.2.2.1, d5.2.2.2.2.1, d5.2.2.2.2.2.1, d5.2.2.2.2.2.2.1, d5.2.2.2.2.2.2.2, d6⟩⟩
theorem tupC_of {K : Frag} {a : Addr} {xs : List Str} {dd : Option Addr} {its : Array Value} {n : Nat} {sl : Array (Option Value)} (h : K.lookup a = some ⟨.type "tuple", dd, .seq its n, sl⟩) (hl : its.size ≤ sizeLine) (hv : Vals (xs.map V.str) its.toList) : TupC K a xs :=
  ⟨_, its, n, h, rfl, rfl, hl, hv⟩
/-- isinstance of an own class by the classes above it -/
theorem kitc_ref {K : Frag} {t : Value} {C : Addr} {b : Bool} (hd : hasDictIn K C = true) (ht : typeIn K (.ref C) = some (.type "type")) (hs : subIn K t (.ref C) = some b) : kitCls K t (.ref C) = some b := by
  obtain ⟨cd, hc, _⟩ := any_some hd
  have e2 : ((clsIn K C).isSome && typeIn K (.ref C) == some (.type "type")) = true := by rw [hc, ht] <;> rfl
  show (if ((clsIn K C).isSome && typeIn K (.ref C) == some (.type "type")) = true then subIn K t (.ref C) else none) = some b
  rw [if_pos e2]
  exact hs
theorem kit_self {K : Frag} {t : Value} : kitOne K t t = some true := by
  unfold kitOne
  rw [if_pos (by simp)]
theorem kit_ref {K : Frag} {t : Value} {C : Addr} {b : Bool} (hne : t ≠ .ref C) (hd : hasDictIn K C = true) (ht : typeIn K (.ref C) = some (.type "type")) (hs : subIn K t (.ref C) = some b) : kitOne K t (.ref C) = some b := by
  unfold kitOne
  rw [if_neg (by simpa using hne)]
  exact kitc_ref hd ht hs
theorem kit_typ {K : Frag} {t : Value} {T : String} {b : Bool} (hm : kitMeta T = true) (hne : t ≠ .type T) (hs : subIn K t (.type T) = some b) : kitOne K t (.type T) = some b := by
  unfold kitOne
  rw [if_neg (by simpa using hne)]
  show (if kitMeta T = true then subIn K t (.type T) else none) = some b
  rw [if_pos hm]
  exact hs
end Mi
end
section
set_option maxRecDepth 100000
set_option maxHeartbeats 1000000
namespace Mi
open PySem PySem.Spec PyProof.Rows L2 Kw
/-! ### properties and operators of own instances -/
theorem RoomG.one {k : Nat} {A : Around} (r : RoomG (k + 1) A) : RoomG k A.in1 := ⟨r.room.in1, r.gd⟩
section
variable {X : Cx} {CX : CXT} {k : Nat} {f C p g : Addr} {fd : FuncData} {ps : List Str} {sp : Sp} {m x : Str} {pos apos : Pos} {e o : Expr} {es : List Expr} {ta : TE} {t : TA} {Ex : L2.St → XK}
/-- the def is called somewhere within -/
theorem run_GA {A : Around} {pins : List (Addr × Obj)} {σ : L2.St} {H : Hp} {s : Shared} {Q : VK} {us : List Value} {vs : List V} (G : FnG X.prog X.w X.K X.mg X.base CX k f fd ps sp) (hr : RoomG k A) (e0 : Env0 X.prog X.w X.K X.mg X.base A X.stack s H)
    (hb : Binds X.K fd ps []) (hx : Pass1 CX X σ (Ex σ)) (I : Inv X pins σ H s) (r : Vals vs us) (h : sp vs H Q (Ex σ)) : wpAny (model X.prog X.w) A (call (.ref f) us) (EP X pins σ Q) X.xe s := by
  have hl : (us ++ []).length = ps.length := by rw [List.append_nil]; exact r.length.symm.trans (G.len _ _ _ _ h)
  have hb2 := hb s us I.kIn hl
  rw [List.append_nil] at hb2
  refine wpAny_call (codeAny_mono (G.run A X.stack s H ⟨us, []⟩ _ _ Q (Ex σ) hr e0 hb2 r h) fun res s2 y => ?_)
  cases res with
  | error x => exact hx pins H s x s2 I y
  | ok fl =>
    cases fl with
    | ret u => exact I.after y
    | next => exact y.elim
    | brk => exact y.elim
    | cont => exact y.elim
def tPropG (C : Addr) (sp : Sp) (Ex : L2.St → XK) (ta : TE) : TE := fun σ H Q => ta σ H fun v H1 => ∃ (a dx : Addr) (fs : List (Str × V)), v = .ref a ∧ H1 a = some (.ins C dx fs) ∧ sp [.ref a] H1 Q (Ex σ)
theorem pe_propG (he : PE X o ta) (c : Cls X.K C) (hp : PropOf X.K C m p f) (G : FnG X.prog X.w X.K X.mg X.base CX k f fd ps sp) (hr : RoomG (k + 1) X.A) (hb : Binds X.K fd ps []) (hx : Passes CX X.nox E0)
    (hab : attributeBase o m X.env (eval o X.env) = eval o X.env := by rfl) : PE X (.Attribute o m pos) (tPropG C sp (fun _ => E0) ta) := by
  refine ⟨fun pins s σ H Q I h => attr_of hab (thn (he.run pins s σ H _ I h) fun u s1 z => ?_)⟩
  obtain ⟨y, H1, I1, ry, a, dx, fs, rfl, ea, q⟩ := z
  obtain rfl : u = Value.ref a := ry
  obtain ⟨_, oo, _⟩ := ins_get I1.hok ea
  obtain ⟨od, jj, _⟩ := oo.look
  obtain ⟨rest, rc⟩ := hp.rec_
  have J := I1.tok (s1.toks + 1)
  have isC : (PySem.W.clsIn X.K C).isSome = true := by
    obtain ⟨cd, z, _⟩ := PySem.W.any_some c.hd
    rw [z]; rfl
  have pg := PySem.W.plainGet_of (c.get m)
  refine PySem.W.get_bind I1.kIn jj pg.1 (PySem.W.findObj_data isC hp.at_ hp.get hp.tak) pg.2 (wpAny_call (PySem.W.prop_get (s := { s1 with toks := s1.toks + 1 }) I1.kIn rc ?_))
  have hl : ([Value.ref a] ++ []).length = ps.length := (G.len _ _ _ _ q).symm ▸ rfl
  have b2 := hb _ [.ref a] J.kIn hl
  refine codeAny_mono (G.run X.A.in1 X.stack _ H1 ⟨[.ref a], []⟩ [.ref a] [.ref a] Q E0 hr.one J.env0.in1 b2 (.cons rfl .nil) q) fun res s2 y => ?_
  cases res with
  | error x => exact (hx pins σ H1 _ x s2 (J.wish _) y).elim
  | ok fl =>
    cases fl with
    | ret u =>
      obtain ⟨v, H3, I3, rv, q3⟩ := J.after y
      show wpAny _ _ (handedOut u) _ _ _
      rw [PySem.W.handedOut_of (handed_of rv)]
      exact wpAny_pure ⟨v, H3, I3, rv, q3⟩
    | next => exact y.elim
    | brk => exact y.elim
    | cont => exact y.elim
end
/-- o.m, a property of the class nm -/
def mProp (nm : Str) (F : FT) (fo : ET) : ET := fun env s => (fo env s).bind fun o s1 => match insD s1 o with
  | some (nm', _) => if nm' = nm then F [o] s1 else .no
  | none => .no
section
variable {X : Cx} {CX : CXT} {E Ex : L2.St → XK} {k : Nat} {f C p : Addr} {fd : FuncData} {ps : List Str} {nm m : Str} {pos : Pos} {o : Expr} {F : FT} {fo : ET} {sp : Sp}
theorem me_prop (S : SpOf (Wx X) sp F E fun _ => E0) (ho : ME X E o fo) (hC : X.mg nm = some (.ref C)) (c : Cls X.K C) (hp : PropOf X.K C m p f) (G : FnG X.prog X.w X.K X.mg X.base CX k f fd ps sp) (hr : RoomG (k + 1) X.A) (hb : Binds X.K fd ps [])
    (hx : Passes CX X.nox E0) (hab : attributeBase o m X.env (eval o X.env) = eval o X.env := by rfl) : ME X E (.Attribute o m pos) (mProp nm F fo) := by
  refine PE.imp (pe_propG ho c hp G hr hb hx hab) fun st H Q ⟨c, env, g, re, q⟩ => ?_
  refine ⟨c, env, g, re, (Fin.bind q).mono fun d c1 H1 e1 g1 q1 v rv => ?_⟩
  split at q1
  · rename_i nm' fl z
    split at q1
    · rename_i cond
      subst cond
      obtain ⟨a, C', dx, vs, rfl, ha, hm', rs⟩ := insD_ok g1 rv z
      rw [show (Wx X).mg nm' = X.mg nm' from rfl, hC] at hm'
      cases hm'
      exact ⟨a, dx, _, rfl, ha, S c1 H1 [d] [.ref a] Q st g1 (.cons rv .nil) q1⟩
    · exact q1.elim
  · exact q1.elim
end
end Mi
end
section
set_option maxRecDepth 100000
set_option maxHeartbeats 1000000
namespace Mi
open PySem PySem.Spec PyProof.Rows L2 Kw
/-! ### in, not in, len of own instances -/
section
variable {X : Cx} {CX : CXT} {k : Nat} {f C : Addr} {fd : FuncData} {ps : List Str} {sp : Sp}
def rInX (C : Addr) (sp : Sp) (neg : Bool) : R2 := fun x y H Q => ∃ (a dx : Addr) (fs : List (Str × V)), y = .ref a ∧ H a = some (.ins C dx fs) ∧ sp [.ref a, x] H (fun v H' => ∃ t, v = .bl t ∧ Q (.bl (neg != t)) H') E0
theorem op_inX (hs : PySem.W.findIn X.K (.ref C) "__contains__" = some (some (.ref f))) (hf : PySem.W.isFn X.K (.ref f) = true) (G : FnG X.prog X.w X.K X.mg X.base CX k f fd ps sp) (hr : RoomG k X.A) (hb : Binds X.K fd ps [])
    (hx : ∀ σ, Pass1 CX X σ E0) : OpR X (compareOp .In) (rInX C sp false) := by
  intro pins s σ H x y v u Q I rx ry ⟨a, dx, fs, e, ea, h⟩
  subst e
  obtain rfl : u = Value.ref a := ry
  obtain ⟨_, oo, _⟩ := ins_get I.hok ea
  obtain ⟨od, jj, _⟩ := oo.look
  obtain ⟨m, hF⟩ := I.fr
  refine PySem.W.in_K hF I.ok.mod.kin jj hs hf (wpAny_mono (run_GA (vs := [.ref a, x]) (Ex := fun _ => E0) G hr I.env0 hb (hx σ) I (.cons rfl (.cons rx .nil)) h) (fun r s' z => ?_) fun _ _ z => z)
  obtain ⟨v', H', I', rv, t, rfl, q⟩ := z
  cases rv
  exact wpAny_truthy_bool ⟨V.bl (false != t), H', I', by cases t <;> rfl, q⟩
theorem op_niX (hs : PySem.W.findIn X.K (.ref C) "__contains__" = some (some (.ref f))) (hf : PySem.W.isFn X.K (.ref f) = true) (G : FnG X.prog X.w X.K X.mg X.base CX k f fd ps sp) (hr : RoomG k X.A) (hb : Binds X.K fd ps [])
    (hx : ∀ σ, Pass1 CX X σ E0) : OpR X (compareOp .NotIn) (rInX C sp true) := by
  intro pins s σ H x y v u Q I rx ry ⟨a, dx, fs, e, ea, h⟩
  subst e
  obtain rfl : u = Value.ref a := ry
  obtain ⟨_, oo, _⟩ := ins_get I.hok ea
  obtain ⟨od, jj, _⟩ := oo.look
  obtain ⟨m, hF⟩ := I.fr
  refine PySem.W.notIn_K hF I.ok.mod.kin jj hs hf (wpAny_mono (run_GA (vs := [.ref a, x]) (Ex := fun _ => E0) G hr I.env0 hb (hx σ) I (.cons rfl (.cons rx .nil)) h) (fun r s' z => ?_) fun _ _ z => z)
  obtain ⟨v', H', I', rv, t, rfl, q⟩ := z
  cases rv
  exact wpAny_truthy_bool ⟨V.bl (true != t), H', I', by cases t <;> rfl, q⟩
def rLenX (C : Addr) (sp : Sp) : List V → Hp → VK → Prop := fun vs H Q => ∃ (a dx : Addr) (fs : List (Str × V)), vs = [.ref a] ∧ H a = some (.ins C dx fs) ∧ sp [.ref a] H (fun v H' => ∃ i : Int, v = .int i ∧ (0 ≤ i ∧ i < 2 ^ 63) ∧ Q (.int i) H') E0
theorem call_lenX (hs : PySem.W.findIn X.K (.ref C) "__len__" = some (some (.ref f))) (hf : PySem.W.isFn X.K (.ref f) = true) (G : FnG X.prog X.w X.K X.mg X.base CX k f fd ps sp) (hr : RoomG (k + 1) X.A) (hb : Binds X.K fd ps [])
    (hx : ∀ σ, Pass1 CX X σ E0) : CallR X (.builtin "len") (rLenX C sp) := by
  intro pins s σ H xs us Q I r ⟨a, dx, fs, e, ea, h⟩
  subst e
  cases r with
  | cons r1 r2 =>
    cases r2
    rename_i u
    obtain rfl : u = Value.ref a := r1
    obtain ⟨_, oo, _⟩ := ins_get I.hok ea
    obtain ⟨od, jj, _⟩ := oo.look
    obtain ⟨m, hF⟩ := I.fr
    refine PySem.W.len_K hF I.ok.mod.kin jj hs hf (wpAny_mono (run_GA (A := X.A.in1) (vs := [.ref a]) (Ex := fun _ => E0) G hr.one I.env0.in1 hb (hx σ) I (.cons rfl .nil) h) (fun r s' z => ?_) fun _ _ z => z)
    obtain ⟨v', H', I', rv, i, rfl, hi, q⟩ := z
    obtain ⟨t, rfl⟩ := rv
    exact ⟨hi, V.int i, H', I'.tok _, ⟨_, rfl⟩, q⟩
end
/-- a in b, b an instance of the class nm -/
def mInX (nm : Str) (F : FT) (neg : Bool) (fa fb : ET) : ET := fun env s => (fa env s).bind fun a s1 => (fb env s1).bind fun b s2 => match insD s2 b with
  | some (nm', _) => if nm' = nm then (F [b, a] s2).bind fun r s3 => match r with
    | .bl t => .ok (.bl (neg != t)) s3
    | _ => .no else .no
  | none => .no
/-- len(a), a an instance of the class nm -/
def mLenX (nm : Str) (F : FT) (fs : AT) : ET := fun env s => (fs env s).bind fun ds s1 => match ds with
  | [a] => match insD s1 a with
    | some (nm', _) => if nm' = nm then (F [a] s1).bind fun r s2 => match r with
      | .int i => if 0 ≤ i ∧ i < 2 ^ 63 then .ok (.int i) s2 else .no
      | _ => .no else .no
    | none => .no
  | _ => .no
section
variable {X : Cx} {CX : CXT} {E : L2.St → XK} {k : Nat} {f C : Addr} {fd : FuncData} {ps : List Str} {nm x : Str} {p pos : Pos} {a b : Expr} {es : List Expr} {F : FT} {fa fb : ET} {fs : AT} {sp : Sp} {neg : Bool} {o : CmpOp}
theorem tinX_M (S : SpOf (Wx X) sp F E fun _ => E0) (hC : X.mg nm = some (.ref C)) {st : L2.St} {H : Hp} {Q : VK} (h : tM (Wx X) E (mInX nm F neg fa fb) st H Q) : tOp (rInX C sp neg) (tM (Wx X) E fa) (tM (Wx X) E fb) st H Q := by
  obtain ⟨c, env, g, re, q⟩ := h
  refine ⟨c, env, g, re, (Fin.bind q).mono fun d c1 H1 e1 g1 q1 v rv => ?_⟩
  refine ⟨c1, env, g1, re.ext e1, (Fin.bind q1).mono fun d2 c2 H2 e2 g2 q2 v2 rv2 => ?_⟩
  split at q2
  · rename_i nm' fl z
    split at q2
    · rename_i cond
      subst cond
      obtain ⟨a, C', dx, vs, rfl, ha, hm', rs⟩ := insD_ok g2 rv2 z
      rw [show (Wx X).mg nm' = X.mg nm' from rfl, hC] at hm'
      cases hm'
      refine ⟨a, dx, _, rfl, ha, S c2 H2 [d2, d] [.ref a, v] _ st g2 (.cons rv2 (.cons (rv.ext e2) .nil)) ((Fin.bind q2).mono fun d3 c3 H3 e3 g3 q3 v3 rv3 => ?_)⟩
      cases d3 with
      | bl t =>
        cases rv3
        exact ⟨t, rfl, q3.here g3 rfl _ (.bl _)⟩
      | _ => exact q3.elim
    · exact q2.elim
  · exact q2.elim
theorem me_inX (S : SpOf (Wx X) sp F E fun _ => E0) (hC : X.mg nm = some (.ref C)) (ho : OpR X (compareOp o) (rInX C sp neg)) (ha : ME X E a fa) (hb : ME X E b fb) (hm : behindInMarks o b = false) : ME X E (.Compare a [o] [b] pos) (mInX nm F neg fa fb) :=  PE.imp (pe_cmpR ho ha hb hm) fun _ _ _ => tinX_M S hC
theorem mt_inX (S : SpOf (Wx X) sp F E fun _ => E0) (hC : X.mg nm = some (.ref C)) (ho : OpR X (compareOp o) (rInX C sp neg)) (ha : ME X E a fa) (hb : ME X E b fb) (hm : behindInMarks o b = false) : MT X E (.Compare a [o] [b] pos) (mB (mInX nm F neg fa fb)) := PT.imp (pt_cmpR ho ha hb hm) fun st H Q h => by
  obtain ⟨c, env, g, re, q⟩ := tB_M h
  exact tinX_M S hC ⟨c, env, g, re, q⟩
theorem me_lenX (S : SpOf (Wx X) sp F E fun _ => E0) (hC : X.mg nm = some (.ref C)) (ho : CallR X (.builtin "len") (rLenX C sp)) (hg : Gl X x) (hm : X.mg x = none) (hv : bootBuiltins x = some (.builtin "len")) (ha : MA X E (a :: es) fs) (hn : x ≠ "__name__" := by decide)
    (hdb : (x == ("__debug__" : Str)) = false := by decide) (he : starEach (a :: es) X.env = (false, eval a X.env) :: starEach es X.env := by rfl) (hpl : (backTo pos (starEach es X.env)).any (·.1) = false := by rfl) : ME X E (.Call (.Name x p) (a :: es) [] pos) (mLenX nm F fs) := by
  refine PE.imp (pe_callB ho hg hm hv ha hn hdb he hpl) fun st H Q ⟨c, env, g, re, q⟩ => ?_
  refine ⟨c, env, g, re, (Fin.bind q).mono fun ds c1 H1 e1 g1 q1 vs rvs => ?_⟩
  split at q1
  · rename_i d
    split at q1
    · rename_i nm' fl z
      split at q1
      · rename_i cond
        subst cond
        cases rvs with
        | cons rv rn =>
          cases rn
          obtain ⟨a, C', dx, vs, rfl, ha, hm', rs⟩ := insD_ok g1 rv z
          rw [show (Wx X).mg nm' = X.mg nm' from rfl, hC] at hm'
          cases hm'
          refine ⟨a, dx, _, rfl, ha, S c1 H1 [d] [.ref a] _ st g1 (.cons rv .nil) ((Fin.bind q1).mono fun d3 c3 H3 e3 g3 q3 v3 rv3 => ?_)⟩
          cases d3 with
          | int i =>
            cases rv3
            simp only at q3
            split at q3
            · rename_i hi
              exact ⟨i, rfl, hi, q3.here g3 rfl _ (.int _)⟩
            · exact q3.elim
          | _ => exact q3.elim
      · exact q1.elim
    · exact q1.elim
  · exact q1.elim
end
end Mi
end
section
set_option maxRecDepth 100000
set_option maxHeartbeats 1000000
namespace Mi
open PySem PySem.Spec PyProof.Rows L2 Kw
/-! ### o[i] of own instances, which may raise -/
def Plain2 (b : Expr) : Prop := ∀ o i, subscripted b true o i = runValue (.builtin "lifetime.subscript" ⟨[o, i], []⟩)
def rSubX (C : Addr) (sp : Sp) (E : XK) : R2 := fun x y H Q => ∃ (a dx : Addr) (fs : List (Str × V)), x = .ref a ∧ H a = some (.ins C dx fs) ∧ sp [.ref a, y] H Q E
section
variable {X : Cx} {CX : CXT} {k : Nat} {f C : Addr} {fd : FuncData} {ps : List Str} {sp : Sp} {Ex : L2.St → XK} {a b : Expr} {ta tb : TE} {pos : Pos}
theorem pe_subX (hs : PySem.W.findIn X.K (.ref C) "__getitem__" = some (some (.ref f))) (hi : PySem.W.fnIn X.K f = true) (hf : PySem.W.isFn X.K (.ref f) = true) (G : FnG X.prog X.w X.K X.mg X.base CX k f fd ps sp) (hr : RoomG (k + 1) X.A)
    (hb : Binds X.K fd ps []) (hx : ∀ σ, Pass1 CX X σ (Ex σ)) (pa : PE X a ta) (pb : PE X b tb) (h2 : Plain2 b) : PE X (.Subscript a b pos) (fun σ H Q => tOp (rSubX C sp (Ex σ)) ta tb σ H Q) := by
  refine ⟨fun pins s σ H Q I h => Subscript_ (binT pa pb I h fun v u s2 x y H2 I2 rx ry q => ?_)⟩
  obtain ⟨a', dx, fs, e, ea, z⟩ := q
  subst e
  obtain rfl : v = Value.ref a' := rx
  obtain ⟨_, oo, _⟩ := ins_get I2.hok ea
  obtain ⟨od, jj, _⟩ := oo.look
  obtain ⟨m, hF⟩ := I2.fr
  exact PySem.W.sub_K hF I2.ok.mod.kin jj hs hi hf (run_GA (A := X.A.in1) (vs := [.ref a', y]) G hr.one I2.env0.in1 hb (hx σ) I2 (.cons rfl (.cons ry .nil)) z) (h2 _ _)
end
/-- a[b], a an instance of the class nm -/
def mSubX (nm : Str) (F : FT) (fa fb : ET) : ET := fun env s => (fa env s).bind fun a s1 => (fb env s1).bind fun b s2 => match insD s2 a with
  | some (nm', _) => if nm' = nm then F [a, b] s2 else .no
  | none => .no
section
variable {X : Cx} {CX : CXT} {E Ex : L2.St → XK} {k : Nat} {f C : Addr} {fd : FuncData} {ps : List Str} {nm : Str} {pos : Pos} {a b : Expr} {F : FT} {fa fb : ET} {sp : Sp}
theorem me_subX (S : SpOf (Wx X) sp F E Ex) (hC : X.mg nm = some (.ref C)) (hs : PySem.W.findIn X.K (.ref C) "__getitem__" = some (some (.ref f))) (hi : PySem.W.fnIn X.K f = true) (hf : PySem.W.isFn X.K (.ref f) = true)
    (G : FnG X.prog X.w X.K X.mg X.base CX k f fd ps sp) (hr : RoomG (k + 1) X.A) (hb : Binds X.K fd ps []) (hx : ∀ σ, Pass1 CX X σ (Ex σ)) (pa : ME X E a fa) (pb : ME X E b fb) (h2 : Plain2 b := by intros _ _; with_unfolding_all rfl) :
    ME X E (.Subscript a b pos) (mSubX nm F fa fb) := by
  refine PE.imp (pe_subX hs hi hf G hr hb hx pa pb h2) fun st H Q ⟨c, env, g, re, q⟩ => ?_
  refine ⟨c, env, g, re, (Fin.bind q).mono fun d c1 H1 e1 g1 q1 v rv => ?_⟩
  refine ⟨c1, env, g1, re.ext e1, (Fin.bind q1).mono fun d2 c2 H2 e2 g2 q2 v2 rv2 => ?_⟩
  split at q2
  · rename_i nm' fl z
    split at q2
    · rename_i cond
      subst cond
      obtain ⟨a, C', dx, vs, rfl, ha, hm', rs⟩ := insD_ok g2 (rv.ext e2) z
      rw [show (Wx X).mg nm' = X.mg nm' from rfl, hC] at hm'
      cases hm'
      exact ⟨a, dx, _, rfl, ha, S c2 H2 [d, d2] [.ref a, v2] _ st g2 (.cons (rv.ext e2) (.cons rv2 .nil)) q2⟩
    · exact q2.elim
  · exact q2.elim
/-- the form of the subscript that the program's text has -/
theorem plain2_name {x : Str} {p : Pos} : Plain2 (.Name x p) := fun _ _ => by with_unfolding_all rfl
theorem plain2_str {x : Str} {j : Nat} {p : Pos} : Plain2 (.Constant (.str x) j p) := fun _ _ => by with_unfolding_all rfl
end
end Mi
end
section
set_option maxRecDepth 100000
set_option maxHeartbeats 1000000
namespace Mi
open PySem PySem.Spec PyProof.Rows L2 Kw
/-! ### == by an own __eq__ of the left thing -/
def rEqX (K : PySem.W.Frag) (C : Addr) (sp : Sp) (tns : List String) : R2 := fun x y H Q => ∃ (a dx : Addr) (fs : List (Str × V)), x = .ref a ∧ H a = some (.ins C dx fs) ∧
  ((∃ (b dy : Addr) (gs : List (Str × V)), y = .ref b ∧ H b = some (.ins C dy gs)) ∨ ∃ n ∈ tns, TyX K H y (.type n)) ∧ sp [.ref a, y] H (fun v H' => ∃ t, v = .bl t ∧ Q (.bl t) H') E0
section
variable {X : Cx} {CX : CXT} {k : Nat} {f C : Addr} {fd : FuncData} {ps : List Str} {sp : Sp} {tns : List String}
theorem op_eqX (hs : PySem.W.findIn X.K (.ref C) "__eq__" = some (some (.ref f))) (hf : PySem.W.isFn X.K (.ref f) = true) (hN : ∀ n ∈ tns, PySem.W.notFirst X.K C (.type n) = true) (G : FnG X.prog X.w X.K X.mg X.base CX k f fd ps sp) (hr : RoomG k X.A)
    (hb : Binds X.K fd ps []) (hx : ∀ σ, Pass1 CX X σ E0) : OpR X (compareOp .Eq) (rEqX X.K C sp tns) := by
  intro pins s σ H x y v u Q I rx ry ⟨a, dx, fs, e, ea, ty, h⟩
  subst e
  obtain rfl : v = Value.ref a := rx
  obtain ⟨_, oo, _⟩ := ins_get I.hok ea
  obtain ⟨od, jj, _⟩ := oo.look
  obtain ⟨m, hF⟩ := I.fr
  have lk : ∃ tb, PySem.W.Looks (model X.prog X.w) s.heap (typeOf u) tb ∧ PySem.W.notFirst X.K C tb = true := by
    rcases ty with ⟨b, dy, gs, e, eb⟩ | ⟨n, hn, t⟩
    · subst e
      obtain rfl : u = Value.ref b := ry
      obtain ⟨_, o2, _⟩ := ins_get I.hok eb
      obtain ⟨_, j2, _⟩ := o2.look
      exact ⟨.ref C, j2.type, by simp [PySem.W.notFirst]⟩
    · obtain ⟨P, kx, hP, _⟩ := kit_of I ry t
      exact ⟨_, kx.ty _ _ I.kIn hP, hN n hn⟩
  obtain ⟨tb, l1, l2⟩ := lk
  show wpAny (model X.prog X.w) X.A (richCompare .Eq (.ref a) u) (EP X pins σ Q) X.xe s
  refine PySem.W.cmp_K (op := .Eq) (by have := hr.units; omega) hF I.ok.mod.kin jj l1 l2 hs hf (wpAny_mono (run_GA (vs := [.ref a, y]) (Ex := fun _ => E0) G hr I.env0 hb (hx σ) I (.cons rfl (.cons ry .nil)) h) (fun r s' z => ?_) fun _ _ z => z)
  obtain ⟨v', H', I', rv, t, rfl, q⟩ := z
  cases rv
  exact ⟨V.bl t, H', I', rfl, q⟩
end
/-- a == b, a an instance of the class nm, b one too or of a built-in type of tns -/
def mEqX (nm : Str) (F : FT) (tns : List String) (fa fb : ET) : ET := fun env s => (fa env s).bind fun a s1 => (fb env s1).bind fun b s2 => match insD s2 a with
  | some (nm', _) => if nm' = nm ∧ ((insD s2 b).map (·.1) = some nm ∨ ∃ n ∈ tns, tyName s2 b = some n) then (F [a, b] s2).bind fun r s3 => match r with
    | .bl t => .ok (.bl t) s3
    | _ => .no else .no
  | none => .no
section
variable {X : Cx} {CX : CXT} {E : L2.St → XK} {k : Nat} {f C : Addr} {fd : FuncData} {ps : List Str} {nm : Str} {pos : Pos} {a b : Expr} {F : FT} {fa fb : ET} {sp : Sp} {tns : List String}
theorem teqX_M (S : SpOf (Wx X) sp F E fun _ => E0) (hC : X.mg nm = some (.ref C)) {st : L2.St} {H : Hp} {Q : VK} (h : tM (Wx X) E (mEqX nm F tns fa fb) st H Q) : tOp (rEqX X.K C sp tns) (tM (Wx X) E fa) (tM (Wx X) E fb) st H Q := by
  obtain ⟨c, env, g, re, q⟩ := h
  refine ⟨c, env, g, re, (Fin.bind q).mono fun d c1 H1 e1 g1 q1 v rv => ?_⟩
  refine ⟨c1, env, g1, re.ext e1, (Fin.bind q1).mono fun d2 c2 H2 e2 g2 q2 v2 rv2 => ?_⟩
  split at q2
  · rename_i nm' fl z
    split at q2
    · rename_i cond
      obtain ⟨e, ty⟩ := cond
      subst e
      obtain ⟨a, C', dx, vs, rfl, ha, hm', rs⟩ := insD_ok g2 (rv.ext e2) z
      rw [show (Wx X).mg nm' = X.mg nm' from rfl, hC] at hm'
      cases hm'
      refine ⟨a, dx, _, rfl, ha, ?_, S c2 H2 [d, d2] [.ref a, v2] _ st g2 (.cons (rv.ext e2) (.cons rv2 .nil)) ((Fin.bind q2).mono fun d3 c3 H3 e3 g3 q3 v3 rv3 => ?_)⟩
      · rcases ty with ty | ⟨n, hn, ty⟩
        · cases z2 : insD c2.S d2 with
          | none => rw [z2] at ty; cases ty
          | some p =>
            obtain ⟨n2, fl2⟩ := p
            rw [z2] at ty
            obtain rfl : n2 = nm' := by simpa using ty
            obtain ⟨b, C2, dy, vs2, rfl, hb2, hm2, _⟩ := insD_ok g2 rv2 z2
            rw [show (Wx X).mg n2 = X.mg n2 from rfl, hC] at hm2
            cases hm2
            exact .inl ⟨b, dy, _, rfl, hb2⟩
        · exact .inr ⟨n, hn, tyName_ok g2 rv2 ty⟩
      · cases d3 with
        | bl t =>
          cases rv3
          exact ⟨t, rfl, q3.here g3 rfl _ (.bl _)⟩
        | _ => exact q3.elim
    · exact q2.elim
  · exact q2.elim
theorem me_eqX (S : SpOf (Wx X) sp F E fun _ => E0) (hC : X.mg nm = some (.ref C)) (ho : OpR X (compareOp .Eq) (rEqX X.K C sp tns)) (ha : ME X E a fa) (hb : ME X E b fb) (hm : behindInMarks .Eq b = false) : ME X E (.Compare a [.Eq] [b] pos) (mEqX nm F tns fa fb) :=  PE.imp (pe_cmpR ho ha hb hm) fun _ _ _ => teqX_M S hC
theorem mt_eqX (S : SpOf (Wx X) sp F E fun _ => E0) (hC : X.mg nm = some (.ref C)) (ho : OpR X (compareOp .Eq) (rEqX X.K C sp tns)) (ha : ME X E a fa) (hb : ME X E b fb) (hm : behindInMarks .Eq b = false) : MT X E (.Compare a [.Eq] [b] pos) (mB (mEqX nm F tns fa fb)) := PT.imp (pt_cmpR ho ha hb hm) fun st H Q h => by
  obtain ⟨c, env, g, re, q⟩ := tB_M h
  exact teqX_M S hC ⟨c, env, g, re, q⟩
end
end Mi
end
section
set_option maxRecDepth 100000
set_option maxHeartbeats 1000000
namespace Mi
open PySem PySem.Spec PyProof.Rows L2 Kw
/-! ### != where the class has an own __eq__ and no own __ne__ -/
section
variable {prog : Program} {w : World} {A : Around} {E : Value → Shared → Prop} {s : Shared} {K : PySem.W.Frag} {x C f : Addr} {ox : Obj} {od : Option Obj} {b tb : Value}
theorem ne_entry {Q : PySem.Fin → Shared → Prop} (X : K.In s.heap) (I : PySem.W.InstAt s.heap x ox C od) (hs : PySem.W.findIn K (.ref C) "__eq__" = some (some (.ref f))) (hf : PySem.W.isFn K (.ref f) = true) (hu : A.units < cLine)
    (h : wpAny (model prog w) A (call (.ref f) [.ref x, b]) (fun v s' => ∃ t, v = .bool t ∧ Q (.done (.ret (.bool (!t)))) s') E s) : wpAny (model prog w) A (Builtin.«object.__ne__» ⟨[.ref x, b], []⟩) Q E s := by
  unfold Builtin.«object.__ne__»
  repeat (first
    | with_reducible refine wpAny_cRoomFor hu ?_
    | (refine wpAny_bind (m := callSpecialIfBound? (.ref x) (Str.ofString "__eq__") [b]) (PySem.W.ifBound_K X I hs hf (wpAny_mono h (fun r s' z => by
          obtain ⟨t, rfl, q⟩ := z
          repeat (first | exact q | exact wpAny_pure q | exact wpAny_truthy_bool q | (refine wpAny_bind (m := truthy (.bool _)) (wpAny_truthy_bool ?_)) | wp_step)) fun _ _ e => e)))
    | wp_step)
theorem ne_bound {M : Model} {args : List Value} {Q : Option Value → Shared → Prop} (X : K.In s.heap) (I : PySem.W.InstAt s.heap x ox C od) (hs : PySem.W.findIn K (.ref C) "__ne__" = some (some (.builtin "object.__ne__")))
    (h : wpAny M A (call (.builtin "object.__ne__") (.ref x :: args)) (fun v => Q (some v)) E s) : wpAny M A (callSpecialIfBound? (.ref x) "__ne__" args) Q E s := by
  simp only [callSpecialIfBound?, bindSpecialIfBound?]
  refine wpAny_holding (wpAny_bind (wpAny_bind (wpAny_bind (I.type.here ((PySem.W.looks_findIn X hs).here ?_)))))
  refine wpAny_bind (wpAny_askSetting (wpAny_ite ?_))
  have last : wpAny M A (call (.builtin "object.__ne__") ([.ref x] ++ args) >>= fun v => pure (some v)) Q E s := wpAny_bind (wpAny_mono h (fun v s' z => wpAny_pure z) fun _ _ z => z)
  have way := F.cmp_object.ne.bind (.ref x)
  split
  · exact wpAny_bind (wpAny_of_eq way (wpAny_pure (by exact last)))
  · exact wpAny_tryCatch (wpAny_bind (wpAny_of_eq way (wpAny_pure (by exact last))))
theorem ne_K {Q : Value → Shared → Prop} (hu : A.units + 64 < cLine) (X : K.In s.heap) (I : PySem.W.InstAt s.heap x ox C od) (lb : PySem.W.Looks (model prog w) s.heap (typeOf b) tb) (hn : PySem.W.notFirst K C tb = true)
    (hm : PySem.W.mroIn K C (.type "object") = some true) (hs : PySem.W.findIn K (.ref C) "__eq__" = some (some (.ref f))) (hs2 : PySem.W.findIn K (.ref C) "__ne__" = some (some (.builtin "object.__ne__"))) (hf : PySem.W.isFn K (.ref f) = true)
    (h : wpAny (model prog w) A.in1 (call (.ref f) [.ref x, b]) (fun v s' => ∃ t, v = .bool t ∧ Q (.bool (!t)) s') E s) : wpAny (model prog w) A (richCompare .NotEq (.ref x) b) Q E s := by
  have one : wpAny (model prog w) A (tryCompare (.ref x) "__ne__" b) (fun r s' => ∃ v, r = some v ∧ Q v s') E s := by
    unfold tryCompare
    refine wpAny_bind (ne_bound X I hs2 (wpAny_call (codeAny_call_builtin F.cmp_object.ne.plain F.cmpEntry_ne (PySem.W.check_slot F.cmpKind_ne F.cmpSplit_ne (I.type.andThen (PySem.W.looks_mroIn X hm)) (F.cmpArgs_ne _ _) ?_))))
    refine ne_entry (A := A.in1) X I hs hf (by show A.units + 1 < cLine; omega) (wpAny_mono h (fun v s' z => ?_) fun _ _ e => e)
    obtain ⟨t, rfl, q⟩ := z
    exact ⟨t, rfl, wpAny_pure ⟨_, rfl, q⟩⟩
  unfold richCompare
  simp only [oneThing_ref]
  refine wpAny_holding (wpAny_bind (wpAny_cRoomFor (by omega) ?_))
  rw [cmpInfo_NotEq]
  refine wpAny_bind (I.type.here (wpAny_bind (lb.here ?_)))
  split
  · rename_i q
    have e : PySem.W.subIn K tb (.ref C) = some false := by
      rcases Bool.or_eq_true_iff.mp hn with e | e
      · rw [beq_iff_eq.mp e] at q; simp at q
      · exact beq_iff_eq.mp e
    refine wpAny_bind ((PySem.W.looks_subIn X e).here ?_)
    simp only [Bool.false_eq_true, if_false]
    refine wpAny_bind (wpAny_mono one (fun r s' z => ?_) fun _ _ e => e)
    obtain ⟨v, rfl, q⟩ := z
    exact wpAny_pure q
  · refine wpAny_bind (wpAny_pure ?_)
    simp only [Bool.false_eq_true, if_false]
    refine wpAny_bind (wpAny_mono one (fun r s' z => ?_) fun _ _ e => e)
    obtain ⟨v, rfl, q⟩ := z
    exact wpAny_pure q
end
def rNeX (K : PySem.W.Frag) (C : Addr) (sp : Sp) (tns : List String) : R2 := fun x y H Q => ∃ (a dx : Addr) (fs : List (Str × V)), x = .ref a ∧ H a = some (.ins C dx fs) ∧
  ((∃ (b dy : Addr) (gs : List (Str × V)), y = .ref b ∧ H b = some (.ins C dy gs)) ∨ ∃ n ∈ tns, TyX K H y (.type n)) ∧ sp [.ref a, y] H (fun v H' => ∃ t, v = .bl t ∧ Q (.bl (!t)) H') E0
section
variable {X : Cx} {CX : CXT} {k : Nat} {f C : Addr} {fd : FuncData} {ps : List Str} {sp : Sp} {tns : List String}
theorem op_neX (hs : PySem.W.findIn X.K (.ref C) "__eq__" = some (some (.ref f))) (hs2 : PySem.W.findIn X.K (.ref C) "__ne__" = some (some (.builtin "object.__ne__"))) (hm : PySem.W.mroIn X.K C (.type "object") = some true)
    (hf : PySem.W.isFn X.K (.ref f) = true) (hN : ∀ n ∈ tns, PySem.W.notFirst X.K C (.type n) = true) (G : FnG X.prog X.w X.K X.mg X.base CX k f fd ps sp) (hr : RoomG (k + 1) X.A)
    (hb : Binds X.K fd ps []) (hx : ∀ σ, Pass1 CX X σ E0) : OpR X (compareOp .NotEq) (rNeX X.K C sp tns) := by
  intro pins s σ H x y v u Q I rx ry ⟨a, dx, fs, e, ea, ty, h⟩
  subst e
  obtain rfl : v = Value.ref a := rx
  obtain ⟨_, oo, _⟩ := ins_get I.hok ea
  obtain ⟨od, jj, _⟩ := oo.look
  have lk : ∃ tb, PySem.W.Looks (model X.prog X.w) s.heap (typeOf u) tb ∧ PySem.W.notFirst X.K C tb = true := by
    rcases ty with ⟨b, dy, gs, e, eb⟩ | ⟨n, hn, t⟩
    · subst e
      obtain rfl : u = Value.ref b := ry
      obtain ⟨_, o2, _⟩ := ins_get I.hok eb
      obtain ⟨_, j2, _⟩ := o2.look
      exact ⟨.ref C, j2.type, by simp [PySem.W.notFirst]⟩
    · obtain ⟨P, kx, hP, _⟩ := kit_of I ry t
      exact ⟨_, kx.ty _ _ I.kIn hP, hN n hn⟩
  obtain ⟨tb, l1, l2⟩ := lk
  show wpAny (model X.prog X.w) X.A (richCompare .NotEq (.ref a) u) (EP X pins σ Q) X.xe s
  refine ne_K hr.units I.kIn jj l1 l2 hm hs hs2 hf (wpAny_mono (run_GA (A := X.A.in1) (vs := [.ref a, y]) (Ex := fun _ => E0) G hr.one I.env0.in1 hb (hx σ) I (.cons rfl (.cons ry .nil)) h) (fun r s' z => ?_) fun _ _ z => z)
  obtain ⟨v', H', I', rv, t, rfl, q⟩ := z
  cases rv
  exact ⟨t, rfl, V.bl (!t), H', I', rfl, q⟩
end
/-- a != b, a an instance of the class nm with an own __eq__ -/
def mNeX (nm : Str) (F : FT) (tns : List String) (fa fb : ET) : ET := fun env s => (fa env s).bind fun a s1 => (fb env s1).bind fun b s2 => match insD s2 a with
  | some (nm', _) => if nm' = nm ∧ ((insD s2 b).map (·.1) = some nm ∨ ∃ n ∈ tns, tyName s2 b = some n) then (F [a, b] s2).bind fun r s3 => match r with
    | .bl t => .ok (.bl (!t)) s3
    | _ => .no else .no
  | none => .no
section
variable {X : Cx} {CX : CXT} {E : L2.St → XK} {k : Nat} {f C : Addr} {fd : FuncData} {ps : List Str} {nm : Str} {pos : Pos} {a b : Expr} {F : FT} {fa fb : ET} {sp : Sp} {tns : List String}
theorem tneX_M (S : SpOf (Wx X) sp F E fun _ => E0) (hC : X.mg nm = some (.ref C)) {st : L2.St} {H : Hp} {Q : VK} (h : tM (Wx X) E (mNeX nm F tns fa fb) st H Q) : tOp (rNeX X.K C sp tns) (tM (Wx X) E fa) (tM (Wx X) E fb) st H Q := by
  obtain ⟨c, env, g, re, q⟩ := h
  refine ⟨c, env, g, re, (Fin.bind q).mono fun d c1 H1 e1 g1 q1 v rv => ?_⟩
  refine ⟨c1, env, g1, re.ext e1, (Fin.bind q1).mono fun d2 c2 H2 e2 g2 q2 v2 rv2 => ?_⟩
  split at q2
  · rename_i nm' fl z
    split at q2
    · rename_i cond
      obtain ⟨e, ty⟩ := cond
      subst e
      obtain ⟨a, C', dx, vs, rfl, ha, hm', rs⟩ := insD_ok g2 (rv.ext e2) z
      rw [show (Wx X).mg nm' = X.mg nm' from rfl, hC] at hm'
      cases hm'
      refine ⟨a, dx, _, rfl, ha, ?_, S c2 H2 [d, d2] [.ref a, v2] _ st g2 (.cons (rv.ext e2) (.cons rv2 .nil)) ((Fin.bind q2).mono fun d3 c3 H3 e3 g3 q3 v3 rv3 => ?_)⟩
      · rcases ty with ty | ⟨n, hn, ty⟩
        · cases z2 : insD c2.S d2 with
          | none => rw [z2] at ty; cases ty
          | some p =>
            obtain ⟨n2, fl2⟩ := p
            rw [z2] at ty
            obtain rfl : n2 = nm' := by simpa using ty
            obtain ⟨b, C2, dy, vs2, rfl, hb2, hm2, _⟩ := insD_ok g2 rv2 z2
            rw [show (Wx X).mg n2 = X.mg n2 from rfl, hC] at hm2
            cases hm2
            exact .inl ⟨b, dy, _, rfl, hb2⟩
        · exact .inr ⟨n, hn, tyName_ok g2 rv2 ty⟩
      · cases d3 with
        | bl t =>
          cases rv3
          exact ⟨t, rfl, q3.here g3 rfl _ (.bl _)⟩
        | _ => exact q3.elim
    · exact q2.elim
  · exact q2.elim
theorem me_neX (S : SpOf (Wx X) sp F E fun _ => E0) (hC : X.mg nm = some (.ref C)) (ho : OpR X (compareOp .NotEq) (rNeX X.K C sp tns)) (ha : ME X E a fa) (hb : ME X E b fb) (hm : behindInMarks .NotEq b = false) : ME X E (.Compare a [.NotEq] [b] pos) (mNeX nm F tns fa fb) :=  PE.imp (pe_cmpR ho ha hb hm) fun _ _ _ => tneX_M S hC
theorem mt_neX (S : SpOf (Wx X) sp F E fun _ => E0) (hC : X.mg nm = some (.ref C)) (ho : OpR X (compareOp .NotEq) (rNeX X.K C sp tns)) (ha : ME X E a fa) (hb : ME X E b fb) (hm : behindInMarks .NotEq b = false) : MT X E (.Compare a [.NotEq] [b] pos) (mB (mNeX nm F tns fa fb)) := PT.imp (pt_cmpR ho ha hb hm) fun st H Q h => by
  obtain ⟨c, env, g, re, q⟩ := tB_M h
  exact tneX_M S hC ⟨c, env, g, re, q⟩
end
end Mi
end
section
set_option maxRecDepth 100000
set_option maxHeartbeats 2000000
namespace Mi
open PySem PySem.Spec PyProof.Rows L2 Kw LamX
/-! ### a lambda is made: what is written is told exactly -/
section
variable {X : Cx} {pins : List (Addr × Obj)} {σ : L2.St} {H : Hp} {s : Shared}
theorem lam_made {c P : Addr} {q : Str} {ps : Array Value} {params : Arguments} {body : Expr} {scope : Scope} {pos : Pos} {E : Value → Shared → Prop} {Q : Value → Shared → Prop} (I : Inv X pins σ H s) (TB : TabB X.base X.mg c P)
    (hcode : X.env.code = .ref c) (hq : q = X.env.qual ++ "<lambda>") (hP : H P = some (.tbl ps)) (ht : TriplesOk ps.toList) (ha : ∀ (p : Pos) (cv : Value), codeAmong p ps.toList = some cv → ∃ c0, cv = .ref c0 ∧ H c0 = some (CodeO c0 q))
    (hdef : defaultsOf params X.env = ([], [])) (hfree : ∀ y ∈ scope.names, y.2 = .free → ∃ c, X.env.cells.lookup y.1 = some c)
    (h : ∀ (f c' : Addr) (pm ctv : Value) (H1 : Hp) (s' : Shared) (qs : Array Value), Inv X pins σ H1 s' → (∀ b o, b ≠ P → H b = some o → H1 b = some o) → H1 P = some (.tbl qs) → TriplesOk qs.toList → (H c' = none ∨ ∃ p : Pos, codeAmong p ps.toList = some (.ref c')) →
      (∀ (p : Pos) (cv : Value), codeAmong p qs.toList = some cv → codeAmong p ps.toList = some cv ∨ (cv = .ref c' ∧ H c' = none)) →
      s'.heap.get? f = some (PySem.W.kla_obj "<lambda>" q params body scope (cloFrom X.env.cells scope.names []) pm c' ctv) → H1 f = none → f ∉ frs X.stack → H1 c' = some (CodeO c' q) → Q (.ref f) s') :
    wpAny (model X.prog X.w) X.A (eval (.Lambda params body scope pos) X.env) Q E s := by
  subst hq
  refine PySem.W.kla_eval hdef ?_
  have hb : s.heap.BuiltinsAt X.mg P := TB.bm.keeps I.bk
  have ho : s.heap.get? P = some { cls := .none, data := .fields ps } := I.hok P _ hP
  have out : ∀ f, s.heap.objs.size ≤ f → f ∉ frs X.stack := fun f hf z => by
    rcases List.mem_cons.mp (I.stkSub _ z) with e | e
    · have lt := I.lt
      rw [← e] at lt
      exact absurd (Nat.lt_of_lt_of_le lt hf) (Nat.lt_irrefl _)
    · exact I.nofs hf e
  cases hc : codeAmong pos ps.toList with
  | some cv =>
    obtain ⟨c', e, hco⟩ := ha pos cv hc
    subst e
    refine PySem.W.kla_makeFunctionHit (mg := X.mg) (c := c) (P := P) (ps := ps) (closure_ok hfree) I.ok.glob (I.mod.glob.keeps I.bk) hcode (TB.code.keeps I.bk) ho ht hc hb fun ctv h' tk hx hsz => ?_
    exact h h'.objs.size c' ((X.mg "__name__").getD .none) ctv H _ ps (I.kept fun b o e => Heap.get?_push_of_some _ (hx b o e)) (fun _ _ _ e => e) hP ht (.inr ⟨pos, hc⟩) (fun _ _ z => .inl z) (Heap.get?_push_size _ rfl) (I.hok.fresh hsz) (out _ hsz) hco
  | none =>
    refine PySem.W.kla_makeFunction (mg := X.mg) (c := c) (P := P) (ps := ps) (closure_ok hfree) I.ok.glob (I.mod.glob.keeps I.bk) hcode (TB.code.keeps I.bk) ho ht hc TB.gP hb fun c' ctv h' tk hx hge hlt hrec htb => ?_
    obtain ⟨c2, oc, vs, t, e2, hoc, hd, hv⟩ := hrec
    cases e2
    have hsz : s.heap.objs.size ≤ h'.objs.size := by omega
    have nC : H c' = none := I.hok.fresh hge
    have cP : P ≠ c' := fun z => by rw [z, nC] at hP; cases hP
    have lst : (ps ++ #[rawInt pos.line, rawInt pos.col, .ref c']).toList = ps.toList ++ [rawInt pos.line, rawInt pos.col, .ref c'] := by simp
    have n1 : h'.objs.size ≠ c' := by omega
    have n2 : h'.objs.size ≠ P := fun z => absurd (Nat.lt_of_lt_of_le (Heap.lt_size ho) hsz) (by rw [z]; exact Nat.lt_irrefl _)
    refine h h'.objs.size c' ((X.mg "__name__").getD .none) ctv _ _ (ps ++ #[rawInt pos.line, rawInt pos.col, .ref c'])
      (inv_table (t' := tk) (more := #[rawInt pos.line, rawInt pos.col, .ref c']) I hP (fun b o z e => Heap.get?_push_of_some _ (hx b o z e)) (Heap.get?_push_of_some _ htb) hge ⟨oc, vs, t, Heap.get?_push_of_some _ hoc, hd, hv⟩)
      (fun b o z e => by rw [upd_ne (ne_of_none e nC), upd_ne z]; exact e) (by rw [upd_ne cP, upd_same]) (by rw [lst]; exact PySem.TriplesOk_snoc _ _ _ _ ht) (.inl nC) (fun p cv z => ?_) (Heap.get?_push_size _ rfl) ?_ (out _ hsz) upd_same
    · rw [lst] at z
      rcases among_app _ ht z with z | z
      · exact .inl z
      · exact .inr ⟨z, nC⟩
    · rw [upd_ne n1, upd_ne n2]
      exact I.hok.fresh hsz
end
end Mi
end
section
set_option maxRecDepth 100000
set_option maxHeartbeats 2000000
namespace Mi
open PySem PySem.Spec PyProof.Rows L2 Kw LamX
/-! ### the lambda is called in the def that got it: RoomG -/
abbrev lamO (X : Cx) (params : Arguments) (body : Expr) (scope : Scope) (pm : Value) (c' : Addr) (ctv : Value) : Obj := PySem.W.kla_obj "<lambda>" (X.env.qual ++ "<lambda>") params body scope (cloFrom X.env.cells scope.names []) pm c' ctv
section
variable {X : Cx} {pins : List (Addr × Obj)} {σ : L2.St} {H : Hp} {s : Shared}
theorem pe_actG {CXg : CXT} {Eg : XK} {Ng : List Str} {qg : Str} {sg : Scope} {g f c' : Addr} {cdg pm ctv : Value} {params : Arguments} {body : Expr} {scope : Scope} {k i : Nat} {a : Str} {pn : List (Addr × Obj)} {xe : Value → Shared → Prop} {E' : L2.St → XK} {tb : XK → TE}
    {p1 p2 : Pos} (I : Inv X pins σ H s) (L : LamS X.env.scope scope) (hf : s.heap.get? f = some (lamO X params body scope pm c' ctv)) (hfn : H f = none) (hfr : f ∉ frs X.stack)
    (hbind : bindArgs (PySem.W.kla_fn "<lambda>" (X.env.qual ++ "<lambda>") params body scope (cloFrom X.env.cells scope.names []) pm (.ref c') ctv) ⟨[], []⟩ = pure [])
    (tk : TkM ((cxOf CXg X.prog X.w X.K X.mg X.base Ng qg sg g cdg X.A X.stack s H Eg).tr pn xe) E') (hr : RoomG (k + 1) (X.A.deeper (envOfC qg sg s.heap.objs.size g cdg)))
    (hbody : ∀ (A : Around) (outer : List PySem.Env) (s : Shared) (H : Hp) (E : XK), RoomG k (A.deeper (lamEnv X scope s.heap.objs.size f c')) → PE (lamCx X A outer s H E scope f c') body (tb E))
    (hN : Ng[i]? = some a) (hv : Vis sg a) (hd : (a == ("__debug__" : Str)) = false := by decide) (hcd : (a == ("__classdict__" : Str)) = false := by decide) :
    PE ((cxOf CXg X.prog X.w X.K X.mg X.base Ng qg sg g cdg X.A X.stack s H Eg).tr pn xe) (.Call (.Name a p1) [] [] p2)
      (fun σZ HZ Q => σZ[i]? = some (some (.ref f)) ∧ HZ c' = some (CodeO c' (X.env.qual ++ "<lambda>")) ∧ tb (E' σZ) σ HZ Q) := by
  refine ⟨fun pinsZ sZ σZ HZ Q IZ ⟨hs, hc, hb⟩ => ?_⟩
  have rd := (pe_var (pos := p1) (i := i) hN hv hd hcd).run pinsZ sZ σZ HZ (fun v H1 => v = .ref f ∧ H1 = HZ) IZ ⟨.ref f, hs, rfl, rfl⟩
  refine wpAny_Call_Name_kw (thn rd fun u s1 z => ?_)
  obtain ⟨v, H1, I1, r1, e1, e2⟩ := z
  subst e1
  rw [e2] at I1
  obtain rfl : u = Value.ref f := r1
  have o1 : s1.heap.get? f = some (lamO X params body scope pm c' ctv) := I1.base.keep f _ hf hfn hfr (fun z => nomatch (show f ∈ ([] : List Addr) from z))
  obtain ⟨⟨oc, vs, t, hoc, hdc, hvc⟩, _, _⟩ := I1.hok c' _ hc
  have run : codeAny (model X.prog X.w) (X.A.deeper (envOfC qg sg s.heap.objs.size g cdg)) (.call (.ref f) ⟨[], []⟩) (CR (L2.CX X.prog X.w) (envOfC qg sg s.heap.objs.size g cdg :: X.stack) X.prog X.w HZ s1 Q (E' σZ)) s1 := by
    refine PySem.W.kla_callFunE hr.room.depth o1 rfl L.co L.gen rfl ⟨c', oc, vs, t, rfl, hoc, hdc, hvc⟩ ?_
    rw [hbind]
    refine wpAny_pure (wpAny_newFunctionEnv (fun y hy => (L.own y hy).2) (fun y hy => absurd hy (by simp)) (fun h₁ hns hsb => ⟨I1.nolimit.fresh _ hsb, ?_⟩) L.kind)
    have kp : ∀ b o, s1.heap.get? b = some o → h₁.get? b = some o := fun b o e => hsb.extBut b o (Nat.ne_of_lt (Heap.lt_size e)) (Heap.get?_push_of_some _ e)
    have J := lam_start2 (f := f) (c' := c') (E := E' σZ) (tk := s1.toks + ([] : List (Str × Value)).length) I L I1.env0 hr.room.hd (show Un (frs X.stack) [] H HZ s.heap s1.heap from I1.base) hns kp
    refine PySem.W.kla_codeExpr (wpAny_mono ((hbody _ _ s1 HZ _ (hr.deeper _)).run [] _ _ HZ Q J hb) (fun v s' z => ?_) fun e s' z => z)
    obtain ⟨w', H', J', rv, q⟩ := z
    exact ⟨w', H', J'.os, J'.bare, J'.base, J'.hok, rv, q⟩
  refine PySem.W.callWith_F0 ⟨_, _, _, _, o1⟩ (wpAny_call (codeAny_mono run fun r s' z => ?_))
  cases r with
  | error e => exact tk _ _ (XE.of_call (W := fun cls d σ H => E' σ cls d H) I1 (fun _ _ _ z => z) z)
  | ok fl =>
    cases fl with
    | ret u => exact I1.after z
    | next => exact z.elim
    | brk => exact z.elim
    | cont => exact z.elim
end
end Mi
end
section
set_option maxRecDepth 100000
set_option maxHeartbeats 2000000
namespace Mi
open PySem PySem.Spec PyProof.Rows L2 Kw LamX
/-! ### x(lambda: body) -/
/-- what the making of the lambda leaves, and what the def then needs -/
def tLamG (P : Addr) (q : Str) (TG : L2.St → Addr → Addr → Hp → VK → Prop) : TE := fun σ H Q => ∃ ps : Array Value, H P = some (.tbl ps) ∧ TriplesOk ps.toList ∧ (∀ (p : Pos) (cv : Value), codeAmong p ps.toList = some cv → ∃ c0, cv = .ref c0 ∧ H c0 = some (CodeO c0 q)) ∧
  ∀ (f c' : Addr) (H1 : Hp) (qs : Array Value), (∀ b o, b ≠ P → H b = some o → H1 b = some o) → H1 P = some (.tbl qs) → TriplesOk qs.toList → (H c' = none ∨ ∃ p : Pos, codeAmong p ps.toList = some (.ref c')) → (∀ (p : Pos) (cv : Value), codeAmong p qs.toList = some cv → codeAmong p ps.toList = some cv ∨ (cv = .ref c' ∧ H c' = none)) →
    H1 f = none → H1 c' = some (CodeO c' q) → TG σ f c' H1 Q
section
variable {X : Cx}
abbrev gCx (X : Cx) (Ng : List Str) (x : Str) (sg : Scope) (g : Addr) (cdg : Value) (s : Shared) (H : Hp) : Cx := cxOf CX0 X.prog X.w X.K X.mg X.base Ng x sg g cdg X.A X.stack s H E0
def GetsG (X : Cx) (Ng : List Str) (x : Str) (sg : Scope) (g : Addr) (cdg : Value) (bg : List Stmt) (a q : Str) (k : Nat) (t : XK → TE) (TG : L2.St → Addr → Addr → Hp → VK → Prop) : Prop :=
  ∀ (f c' : Addr) (s : Shared) (H : Hp) (σ : L2.St) (Q : VK),
    (∀ (E' : L2.St → XK) (pn : List (Addr × Obj)) (xe : Value → Shared → Prop) (p1 p2 : Pos), TkM ((gCx X Ng x sg g cdg s H).tr pn xe) E' →
      PE ((gCx X Ng x sg g cdg s H).tr pn xe) (.Call (.Name a p1) [] [] p2) (fun σZ HZ Q => σZ[0]? = some (some (.ref f)) ∧ HZ c' = some (CodeO c' q) ∧ t (E' σZ) σ HZ Q)) →
    RoomG k (X.A.deeper (envOfC x sg s.heap.objs.size g cdg)) → TG σ f c' H Q →
    ∃ tt, PSs (gCx X Ng x sg g cdg s H).nox bg tt ∧ tt { nx := fun _ H' => Q .non H', rt := Q } (L2.start Ng [.ref f]) H
theorem pe_lamG {x a q : Str} {g c P : Addr} {k : Nat} {pg : Arguments} {bg : List Stmt} {sg : Scope} {dV kV doc pm cdv ct oc : Value} {an od : Option Addr} {osl : Array (Option Value)} {Ng : List Str} {params : Arguments} {body : Expr} {scope : Scope} {t : XK → TE} {p lpos pos : Pos}
    {TG : L2.St → Addr → Addr → Hp → VK → Prop} (hg : Gl X x) (hm : X.mg x = some (.ref g)) (hk : PySem.W.keepIn X.K (.ref g) = true) (lk : X.K.lookup g = some ⟨oc, od, .func (PySem.W.fnOf x x pg bg sg dV kV doc pm an cdv ct), osl⟩) (hcg : PySem.W.codeIn X.K cdv x = true)
    (hb : L2.Binds X.K (PySem.W.fnOf x x pg bg sg dV kV doc pm an cdv ct) [a] []) (Sg : FnScope Ng [a] sg) (hNg : Ng[0]? = some a) (hva : Vis sg a) (hq : q = X.env.qual ++ "<lambda>") (hG : GetsG X Ng x sg g cdv bg a q (k + 1) t TG)
    (TB : TabB X.base X.mg c P) (hcode : X.env.code = .ref c) (hr : RoomG (k + 2) X.A) (L : LamS X.env.scope scope) (hdef : defaultsOf params X.env = ([], []))
    (hbind : ∀ (q : Str) (cl : List (Str × Addr)) (pm cv ctv : Value), bindArgs (PySem.W.kla_fn "<lambda>" q params body scope cl pm cv ctv) ⟨[], []⟩ = pure [])
    (hbody : ∀ (A : Around) (outer : List PySem.Env) (s : Shared) (H : Hp) (E : XK) (f c' : Addr), RoomG k (A.deeper (lamEnv X scope s.heap.objs.size f c')) → PE (lamCx X A outer s H E scope f c') body (t E))
    (hdb : (x == ("__debug__" : Str)) = false := by decide) (hd : (a == ("__debug__" : Str)) = false := by decide) (hcd : (a == ("__classdict__" : Str)) = false := by decide) :
    PE X (.Call (.Name x p) [.Lambda params body scope lpos] [] pos) (tLamG P q TG) := by
  subst hq
  refine ⟨fun pins s σ H Q I ⟨ps, hP, ht, ha, h⟩ => wpAny_Call_Name_kw (ld_glob I hg hm ?_ hdb)⟩
  refine PySem.W.callWith_K (h₀ := X.base) I.ok.mod.kin hk ?_ (by rfl) (by rfl)
  show wpAny _ _ (spliced ((false, eval (.Lambda params body scope lpos) X.env) :: backTo pos (starEach [] X.env))) _ _ s
  refine Calls.spliced_cons (lam_made I TB hcode rfl hP ht ha hdef (L.has I.ok) fun f c' pm' ctv H1 s' qs I1 keep h1 h2 hcc h3 hf hfn hfr hco => Calls.spliced_nil ⟨I1.kIn, ?_⟩)
  have rc : codeAny (model X.prog X.w) X.A (.call (.ref g) ⟨[.ref f], []⟩) (CR CX0 X.stack X.prog X.w H1 s' Q E0) s' := by
    refine run_ofS (N := Ng) (ps := [a]) (us := [.ref f]) (vs := [.ref f]) lk hcg Sg hr.room I1.env0 (hb s' [.ref f] I1.kIn rfl) (.cons rfl .nil) rfl fun hr' => ?_
    have hrG : RoomG (k + 1) (X.A.deeper (envOfC x sg s'.heap.objs.size g cdv)) := ⟨hr', hr.gd⟩
    obtain ⟨tt, w1, w2⟩ := hG f c' s' H1 σ Q (fun E' pn xe p1 p2 tk => pe_actG (i := 0) I1 L hf hfn hfr (hbind _ _ _ _ _) tk hrG (fun A outer s H E hr2 => hbody A outer s H E f c' hr2) hNg hva hd hcd) hrG (h f c' H1 qs keep h1 h2 hcc h3 hfn hco)
    exact ⟨tt, w1.nox, w2⟩
  refine wpAny_call (codeAny_mono rc fun r s2 z => ?_)
  cases r with
  | error e => exact (show False from z).elim
  | ok fl =>
    cases fl with
    | ret u => exact I1.after z
    | next => exact z.elim
    | brk => exact z.elim
    | cont => exact z.elim
end
end Mi
end
section
set_option maxRecDepth 100000
set_option maxHeartbeats 2000000
namespace Mi
open PySem PySem.Spec PyProof.Rows L2 Kw LamX
/-! ### the mirror of x(lambda: body) -/
/-- the names that a lambda sees -/
def envAt (n : Nat) : List Nat → List D → Env
  | j :: js, d :: ds => (envAt n js ds).set j (some d)
  | _, _ => List.replicate n none
theorem RelEnv.put {w : Wd} {H : Hp} {c : Ct} {env : Env} {st : L2.St} {i : Nat} {d : D} {v : V} (r : RelEnv w H c env st) (e : st[i]? = some (some v)) (h : RelD w H c d v) : RelEnv w H c (env.set i (some d)) st := by
  refine ⟨by simp [r.len], fun j x z => ?_⟩
  by_cases q : j = i
  · subst q
    have l : j < env.length := by rw [r.len]; exact (List.getElem?_eq_some_iff.mp e).1
    rw [List.getElem?_set_self l] at z
    cases z
    exact ⟨v, e, h⟩
  · rw [List.getElem?_set_ne (Ne.symm q)] at z
    exact r.get j x z
theorem envAt_rel {w : Wd} {H : Hp} {c : Ct} {σ : L2.St} : ∀ {js : List Nat} {ds : List D} {vs : List V}, RelDs w H c ds vs → Held σ js vs → RelEnv w H c (envAt σ.length js ds) σ
  | [], _, _, _, _ => ⟨by simp [envAt], fun i d z => by
      simp only [envAt] at z
      rw [List.getElem?_replicate] at z
      split at z <;> cases z⟩
  | _ :: _, [], _, _, _ => ⟨by simp [envAt], fun i d z => by
      simp only [envAt] at z
      rw [List.getElem?_replicate] at z
      split at z <;> cases z⟩
  | j :: js, d :: ds, _, .cons r t, h => (envAt_rel t fun a i v e1 e2 => h (a + 1) i v e1 e2).put (h 0 j _ rfl rfl) r
open Classical in
/-- a(), in the def that got the lambda k with the body fe -/
noncomputable def mAct (fe : Mi.ET) (k : Clo) : Mi.ET := fun (env : Mi.Env) s => match (env[0]? : Option (Option D)) with
  | some (some (.fn k' js ds)) => if k' = k then fe (envAt k.σ.length js ds) s else .no
  | _ => .no
def capt (env : Env) : List Nat → Option (List D)
  | [] => some []
  | j :: js => match env[j]?, capt env js with
    | some (some d), some ds => some (d :: ds)
    | _, _ => none
theorem capt_rel {w : Wd} {H : Hp} {c : Ct} {env : Env} {st : L2.St} (re : RelEnv w H c env st) : ∀ {js : List Nat} {ds : List D}, capt env js = some ds → ∃ vs, RelDs w H c ds vs ∧ Held st js vs
  | [], ds, h => by
    cases h
    exact ⟨[], .nil, fun j i v e _ => by simp at e⟩
  | j :: js, ds, h => by
    simp only [capt] at h
    split at h
    · rename_i d ds' e1 e2
      cases h
      obtain ⟨v, hv, rv⟩ := re.get j d e1
      obtain ⟨vs, rs, hs⟩ := capt_rel re e2
      refine ⟨v :: vs, .cons rv rs, fun a i u z1 z2 => ?_⟩
      cases a with
      | zero =>
        have z1 : j = i := by simpa using z1
        have z2 : v = u := by simpa using z2
        rw [← z1, ← z2]; exact hv
      | succ a => exact hs a i u (by simpa using z1) (by simpa using z2)
    · cases h
open Classical in
/-- what does not hang on where the lambda lies -/
noncomputable def same (P : Clo → Prop) (r : Clo → R D) : R D := if h : ∃ x, ∀ k, P k → r k = x then h.choose else .no
theorem same_eq {P : Clo → Prop} {r : Clo → R D} {x : R D} (h : ∀ k, P k → r k = x) (k0 : Clo) (h0 : P k0) : same P r = x := by
  have e : ∃ x, ∀ k, P k → r k = x := ⟨x, h⟩
  rw [same, dif_pos e, ← e.choose_spec k0 h0]
  exact h k0 h0
def OfLam (q : Str) (n : Nat) (k : Clo) : Prop := k.q = q ∧ k.σ.length = n
noncomputable def mLam (Fg : Clo → FT) (n0 n : Nat) (x q : Str) (js : List Nat) : ET := fun env s => match s[n0]?, capt env js with
  | some (.tbl m x' q'), some ds => if m = n0 ∧ x' = x ∧ q' = q ∧ env.length = n then (same (OfLam q n) fun k => Fg k [.fn k js ds] s).quiet else .no
  | _, _ => .no
def TGm (w : Wd) (q : Str) (js : List Nat) (Fg : Clo → FT) : L2.St → Addr → Addr → Hp → VK → Prop := fun σ f c' H Q =>
  ∃ c ds, Good w H c ∧ RelD w H c (.fn ⟨f, c', q, σ⟩ js ds) (.ref f) ∧ Fin w E0 c H (Fg ⟨f, c', q, σ⟩ [.fn ⟨f, c', q, σ⟩ js ds] c.S) (fun d c' H' => ∀ v, RelD w H' c' d v → Q v H')
section
variable {X : Cx} {E : L2.St → XK}
theorem me_act {Z : Cx} {E' : L2.St → XK} {a : Str} {p1 p2 : Pos} {fe : ET} {k : Clo} (act : PE Z (.Call (.Name a p1) [] [] p2) (fun σZ HZ Q => σZ[0]? = some (some (.ref k.a)) ∧ HZ k.cd = some (CodeO k.cd k.q) ∧ tM (Wx Z) (fun _ => E' σZ) fe k.σ HZ Q)) :
    ME Z E' (.Call (.Name a p1) [] [] p2) (mAct fe k) := PE.imp act fun st H Q ⟨c, env, g, re, q⟩ => by
  unfold mAct at q
  split at q
  · rename_i k' js ds e
    obtain ⟨v, hv, rv⟩ := re.get 0 _ e
    split at q
    · rename_i z
      subst z
      cases rv with
      | fn h1 h2 h3 h4 => exact ⟨hv, h1, c, _, g, envAt_rel h3 h4, q⟩
    · exact q.elim
  · exact q.elim
theorem gets_mir {x a q : Str} {Ng : List Str} {sg : Scope} {g : Addr} {cdg : Value} {bg : List Stmt} {kk : Nat} {fe : ET} {js : List Nat} {Fb : Clo → SM} {Fg : Clo → FT} (hF : ∀ k, Fg k = mFun Ng.length 1 (Fb k))
    (hG : ∀ (k : Clo) (s : Shared) (H : Hp), RoomG kk (X.A.deeper (envOfC x sg s.heap.objs.size g cdg)) →
      (∀ (E' : L2.St → XK) (pn : List (Addr × Obj)) (xe : Value → Shared → Prop) (p1 p2 : Pos), TkM ((gCx X Ng x sg g cdg s H).tr pn xe) E' → ME ((gCx X Ng x sg g cdg s H).tr pn xe) E' (.Call (.Name a p1) [] [] p2) (mAct fe k)) →
      MSs (gCx X Ng x sg g cdg s H).nox E00 bg (Fb k)) :
    GetsG X Ng x sg g cdg bg a q kk (fun E => tM (Wx X) (fun _ => E) fe) (TGm (Wx X) q js Fg) := by
  intro f c' s H σ Q act hr ⟨c, ds, gd, rd, q⟩
  have ms := hG ⟨f, c', _, σ⟩ s H hr fun E' pn xe p1 p2 tk => me_act (act E' pn xe p1 p2 tk)
  rw [hF] at q
  exact ⟨_, ms, body_mir (N := Ng) (n := 1) (E := E0) rfl rfl ⟨c, _, gd, .cons rd .nil, q⟩ ms⟩
/-- the table grows, all else stays -/
theorem tab_grows {w : Wd} {H H1 : Hp} {c : Ct} {n0 : Nat} {x q : Str} {P c' : Addr} {ps qs : Array Value} (g : Good w H c) (e : c.S[n0]? = some (.tbl n0 x q)) (hp : c.p[n0]? = some P) (hx : (PySem.W.tabIn w.K x).map (·.2) = some P)
    (hc : ∀ (pos : Pos) (cv : Value), codeAmong pos ps.toList = some cv → ∃ c', cv = .ref c' ∧ H c' = some (CodeO c' q) ∧ ¬ Lv c c') (hP : H P = some (.tbl ps))
    (keep : ∀ b o, b ≠ P → H b = some o → H1 b = some o) (h1 : H1 P = some (.tbl qs)) (h2 : TriplesOk qs.toList) (hcc : H c' = none ∨ ∃ p : Pos, codeAmong p ps.toList = some (.ref c')) (h3 : ∀ (p : Pos) (cv : Value), codeAmong p qs.toList = some cv → codeAmong p ps.toList = some cv ∨ (cv = .ref c' ∧ H c' = none))
    (hco : H1 c' = some (CodeO c' q)) : Ext c H c H1 ∧ Good w H1 c ∧ ¬ Lv c c' := by
  have lP : Lv c P := .inl ⟨n0, _, hp, e, rfl⟩
  have mP : P ∈ c.p := List.mem_of_getElem? hp
  have nl : ¬ Lv c c' := by
    rcases hcc with z | ⟨p, z⟩
    · exact nlv_of g z
    · obtain ⟨c0, e0, _, n0⟩ := hc p _ z
      cases e0
      exact n0
  have ex : Ext c H c H1 := by
    refine ⟨⟨fun _ _ z => z, fun a l => .inl l, fun a o z n => keep a o (fun y => n (by rw [y]; exact lP)) z⟩, rfl, fun a ha => ?_⟩
    obtain ⟨⟨o, ho⟩, np⟩ := g.gst a ha
    rw [ho]
    exact keep a o (fun y => np (by rw [y]; exact mP)) ho
  refine ⟨ex, ⟨g.len, g.inj, fun n b u e1 e2 => ?_, fun b hb => ?_, g.sm.tr ex.toTr⟩, nl⟩
  · by_cases z : b = P
    · subst z
      obtain rfl := g.inj n n0 b e1 hp
      rw [e] at e2
      cases e2
      refine ⟨_, h1, .tbl hp hx h2 fun pos cv y => ?_⟩
      rcases h3 pos cv y with y | ⟨y, _⟩
      · obtain ⟨c0, e0, k0, n0⟩ := hc pos cv y
        refine ⟨c0, e0, keep c0 _ (fun y => ?_) k0, n0⟩
        rw [y, hP] at k0
        exact codeO_ne ps (Option.some.inj k0).symm
      · exact ⟨c', y, hco, nl⟩
    · obtain ⟨ho, k, r⟩ := g.obj n b u e1 e2
      exact ⟨ho, keep b ho z k, r.ext ex⟩
  · obtain ⟨⟨o, ho⟩, np⟩ := g.gst b hb
    exact ⟨⟨o, keep b o (fun y => np (by rw [y]; exact mP)) ho⟩, np⟩
theorem me_lam {x a q mk : Str} {g c P : Addr} {k : Nat} {st : Stmt} {fd : FuncData} {Ng : List Str} {params : Arguments} {body : Expr} {scope : Scope} {fe : ET} {Fb : Clo → SM} {Fg : Clo → FT} {js : List Nat} {n0 n : Nat} {p lpos pos : Pos}
    (hF : ∀ k, Fg k = mFun Ng.length 1 (Fb k)) (F : Fun X.K x x st g fd) (bd : Binds X.K fd [a] []) (hg : Gl X x) (hm : X.mg x = some (.ref g)) (Sg : FnScope Ng [a] (defScope st)) (hNg : Ng[0]? = some a) (hva : Vis (defScope st) a)
    (TB : TabB X.base X.mg c P) (ti : (PySem.W.tabIn X.K mk).map (·.2) = some P) (hcode : X.env.code = .ref c) (hr : RoomG (k + 2) X.A) (L : LamS X.env.scope scope)
    (hG : ∀ (cdv : Value) (kc : Clo) (s : Shared) (H : Hp), RoomG (k + 1) (X.A.deeper (envOfC x (defScope st) s.heap.objs.size g cdv)) →
      (∀ (E' : L2.St → XK) (pn : List (Addr × Obj)) (xe : Value → Shared → Prop) (p1 p2 : Pos), TkM ((gCx X Ng x (defScope st) g cdv s H).tr pn xe) E' → ME ((gCx X Ng x (defScope st) g cdv s H).tr pn xe) E' (.Call (.Name a p1) [] [] p2) (mAct fe kc)) →
      MSs (gCx X Ng x (defScope st) g cdv s H).nox E00 (defBody st) (Fb kc))
    (hbody : ∀ (A : Around) (outer : List PySem.Env) (s : Shared) (H : Hp) (E : XK) (f c' : Addr), RoomG k (A.deeper (lamEnv X scope s.heap.objs.size f c')) → TkM (lamCx X A outer s H E scope f c') (fun _ => E) → PsM (lamCx X A outer s H E scope f c') →
      ME (lamCx X A outer s H E scope f c') (fun _ => E) body fe)
    (hq : q = X.env.qual ++ "<lambda>") (hdef : defaultsOf params X.env = ([], []) := by rfl)
    (hbind : ∀ (q : Str) (cl : List (Str × Addr)) (pm cv ctv : Value), bindArgs (PySem.W.kla_fn "<lambda>" q params body scope cl pm cv ctv) ⟨[], []⟩ = pure [] := by intros; rfl)
    (hdb : (x == ("__debug__" : Str)) = false := by decide) (hd : (a == ("__debug__" : Str)) = false := by decide) (hcd : (a == ("__classdict__" : Str)) = false := by decide) :
    ME X E (.Call (.Name x p) [.Lambda params body scope lpos] [] pos) (mLam Fg n0 n mk q js) := by
  obtain ⟨oc, od, kV, doc, pm, an, cdv, ct, osl, rfl, lk, hcg⟩ := F.ex
  refine PE.imp (pe_lamG (TG := TGm (Wx X) q js Fg) (t := fun E => tM (Wx X) (fun _ => E) fe) hg hm F.kp lk hcg bd Sg hNg hva hq (gets_mir hF (hG cdv)) TB hcode hr L hdef hbind
    (fun A outer s H E f c' hr2 => hbody A outer s H E f c' hr2 (takes_of rfl rfl rfl rfl) (passes_of rfl)) hdb hd hcd) fun st H Q ⟨c0, env, gd, re, z⟩ => ?_
  unfold mLam at z
  split at z
  · rename_i m x' q' ds e1 e2
    split at z
    · rename_i cond
      obtain ⟨rfl, rfl, rfl, hn⟩ := cond
      obtain ⟨a0, ha0⟩ : ∃ a0, c0.p[m]? = some a0 := by
        have : m < c0.p.length := by rw [gd.len]; exact (List.getElem?_eq_some_iff.mp e1).1
        exact ⟨_, List.getElem?_eq_getElem this⟩
      obtain ⟨ho, hH, ro⟩ := gd.obj m a0 _ ha0 e1
      cases ro with
      | @tbl _ P1 _ _ ps hp hx ht hc =>
        have eP : P1 = P := Option.some.inj (hx.symm.trans ti)
        subst eP
        obtain rfl : a0 = P1 := Option.some.inj (ha0.symm.trans hp)
        refine ⟨ps, hH, ht, fun pp cv y => ?_, fun f c' H1 qs keep h1 h2 hcc h3 hfn hco => ?_⟩
        · obtain ⟨c1, y1, y2, _⟩ := hc pp cv y
          exact ⟨c1, y1, y2⟩
        obtain ⟨ex, g1, nl⟩ := tab_grows gd e1 hp hx hc hH keep h1 h2 hcc h3 hco
        obtain ⟨vs, rs, hh⟩ := capt_rel re e2
        refine ⟨c0, ds, g1, .fn (k := ⟨f, c', _, st⟩) hco nl (rs.ext ex) hh, ?_⟩
        have z2 := (Fin.quiet (E' := E0) z).on ex
        unfold same at z2
        split at z2
        · rename_i hs
          have := hs.choose_spec ⟨f, c', _, st⟩ ⟨rfl, by rw [← hn]; exact re.len.symm⟩
          rw [← this] at z2
          exact z2
        · exact z2.elim
    · exact z.elim
  · exact z.elim
end
end Mi
end
section
set_option maxRecDepth 100000
set_option maxHeartbeats 2000000
namespace Mi
open PySem PySem.Spec PyProof.Rows L2 Kw
/-! ### tuple(d): a dict's keys -/
section
variable {prog : Program} {w : World} {A : Around} {E : Value → Shared → Prop} {s : Shared} {T : String} {r d : Addr} {n : Nat} {P : Nat → Value → Prop} {OK : Heap → Prop}
theorem new_tup_src {R : Value → Shared → Prop} (K : PySem.W.KdlSrc prog w T r d n P OK) (hh : A.handled = none) (ok : OK s.heap) (hn : n ≤ sizeLine)
    (q : ∀ (h' : Heap) (tk : Nat) (acc : Array Value), (∀ b o, s.heap.get? b = some o → h'.get? b = some o) → ItemsOf P acc n → R (.ref h'.objs.size) { s with heap := h'.push { cls := .type "tuple", data := .seq acc }, toks := tk }) :
    codeAny (model prog w) A (.call (.builtin "tuple.__new__") ⟨[.type "tuple", .ref r], []⟩) (wants R E) s := by
  refine codeAny_of_tree ?_
  refine wpAny_bind (wpAny_of_eq (F.newCall_tuple_1 (.ref r)) (wpAny_pure ⟨plainId_quiet F.plain_tuple_new _, ?_⟩))
  refine codeAny_builtin F.entry_tuple_new ?_
  rw [Around.under_plainId F.plain_tuple_new (⟨[.type "tuple", .ref r], []⟩ : Args)]
  have t1 := K.type s ok
  have k1 := K.notTuple
  have a1 := sub_tuple_self
  have a2 := init_tuple_lookup
  have a3 := madeHere_tuple
  have h1 : A.in1.handled = none := hh
  wp_walk using wpAny_typeOf t1, PySem.W.kdu_collect (A := A.in1) K h1 ok hn
  intro h' tk acc hk hi
  have e : acc.toList.toArray = acc := by simp
  show wpAny _ _ (do let v ← Builtin.Tuple.tupleExact acc.toList.toArray; ret v) _ _ _
  unfold Builtin.Tuple.tupleExact
  refine wpAny_bind (wpAny_newObj_type (wpAny_pure ?_) ?_)
  · rw [e]
    exact q h' tk acc hk hi
  · show acc.toList.toArray.size ≤ sizeLine
    rw [e, hi.1]
    exact hn
theorem call_tup_src {R : Value → Shared → Prop} (K : PySem.W.KdlSrc prog w T r d n P OK) (hh : A.handled = none) (ok : OK s.heap) (hn : n ≤ sizeLine)
    (q : ∀ (h' : Heap) (tk : Nat) (acc : Array Value), (∀ b o, s.heap.get? b = some o → h'.get? b = some o) → ItemsOf P acc n → R (.ref h'.objs.size) { s with heap := h'.push { cls := .type "tuple", data := .seq acc }, toks := tk }) :
    wpAny (model prog w) A (call (.type "tuple") [.ref r]) R E s := by
  refine callType_codes (Q₁ := fun o s2 => s2.TypeIs o "tuple" ∧ R o s2) F.called_tuple (F.typeCall_tuple_1 (.ref r)) F.entry_object_init (new_tup_src (A := A.in1) K hh ok hn fun h' tk acc hk hi => ⟨⟨_, Heap.get?_push_size _ rfl, rfl⟩, q h' tk acc hk hi⟩) fun o s2 z => ?_
  refine ⟨z.1, F.args_object_init_2 o _, ?_⟩
  exact object_init_meets F.called_tuple.init.lookup F.called_tuple.made (by decide) prog w A.in1 _ s2 ⟨z.1, rfl, z.2⟩
end
section
variable {X : Cx}
theorem call_tup_dK (hc : X.calm = true) : CallR X (.type "tuple") (fun xs H Q => ∃ p kvs, xs = [.ref p] ∧ H p = some (.dK kvs) ∧ ∀ q, H q = none → Q (.ref q) (upd H q (.tup (kvs.map fun kv => kV kv.1)))) := by
  intro pins s σ H xs us Q I r ⟨p, kvs, e, hk, q⟩
  subst e
  cases r with
  | cons r1 r2 =>
    cases r2
    rename_i u
    obtain rfl : u = Value.ref p := r1
    obtain ⟨z, lo, vs, rk, hd⟩ := (show ObjOk X.prog X.w H s.heap p (.dK kvs) from I.hok p _ hk)
    obtain ⟨ep, ha⟩ := hd.dictAt
    have lv : kvs.length = vs.length := Paired.length rk
    refine call_tup_src (PySem.W.kdl_dict (knd := mixKind X.prog X.w) (kvs := vs) (ep := ep) lo) (I.ok.hd hc) ha (by omega) fun h' tk acc keep hi => ?_
    have J : Inv X pins σ H { s with heap := h', toks := tk } := I.kept keep
    have J2 : Inv X pins σ (upd H h'.objs.size (.tup (kvs.map fun kv => kV kv.1))) { s with heap := h'.push { cls := .type "tuple", data := .seq acc }, toks := tk } := by
      refine J.laid (t' := tk) (fun b o y => Heap.get?_push_of_some _ y) (Nat.le_refl _) (show ObjOk X.prog X.w _ _ _ (.tup (kvs.map fun kv => kV kv.1)) from ⟨by rw [List.length_map]; exact z, acc.toList, ?_, ?_⟩)
      · refine vals_of_at (by rw [List.length_map, lv, ← hi.1]; simp) fun j x w h1 h2 => ?_
        rw [Array.getElem?_toList] at h2
        obtain ⟨k, y, hy, ky⟩ := hi.2 j w h2
        rw [List.getElem?_map] at h1
        have ks : (kvs.map (·.1))[j]? = some k := by rw [KV.keys rk, List.getElem?_map, hy]; rfl
        rw [List.getElem?_map] at ks
        cases kj : kvs[j]? with
        | none => rw [kj] at ks; cases ks
        | some kv =>
          rw [kj] at ks h1
          cases ks
          cases h1
          exact keyIs_rel ky
      · rw [Array.toArray_toList]
        exact IsTup.new _ _
    exact ⟨.ref h'.objs.size, _, J2, rfl, q _ (J.hok.fresh (Nat.le_refl _))⟩
def cbTupleR : Cb := fun s ds => match ds with
  | [.ref n] => match s[n]? with
    | some (.dic true kvs) => if (kvs.all fun kv => keyOk kv.1) = true then some (.tup (kvs.map fun kv => kD kv.1)) else none
    | _ => cbTuple s ds
  | _ => cbTuple s ds
theorem cb_tupleR (hc : X.calm = true) : CbM X (.type "tuple") cbTupleR := by
  intro pins s σ H xs us Q I r ⟨c, ds, z, g, rd, hz, q⟩
  unfold cbTupleR at hz
  split at hz
  · rename_i n
    split at hz
    · rename_i kvs e
      split at hz
      · rename_i ok
        cases hz
        cases rd with
        | cons r1 rn =>
          cases rn
          cases r1 with
          | @ref _ a hn =>
            obtain ⟨ho2, hq, ro⟩ := g.obj n a _ hn e
            cases ro with
            | @dic _ _ vs _ rs h1 h2 =>
              rw [h2 rfl] at hq
              refine call_tup_dK hc pins s σ H _ us Q I r ⟨a, _, rfl, hq, fun p hp => ?_⟩
              have keys : ((kvs.map (·.1)).zip vs).map (fun kv => kV kv.1) = (kvs.map (·.1)).map kV := by
                have := congrArg (List.map kV) (KVD.keys (KVD.of rs))
                rw [this, List.map_map]; rfl
              have dd : kvs.map (fun kv => kD kv.1) = (kvs.map (·.1)).map kD := by rw [List.map_map]; rfl
              rw [keys]
              refine q _ (Ext.fresh g hp) (g.fresh hp) _ ?_
              rw [dd]
              refine .tup (.inl ⟨.inl upd_same, nlv_of g hp⟩) (kDs_rel fun k hk => ?_)
              obtain ⟨kv, hkv, rfl⟩ := List.mem_map.mp hk
              exact List.all_eq_true.mp ok kv hkv
      · cases hz
    · exact cb_tuple pins s σ H xs us Q I r ⟨c, _, z, g, rd, hz, q⟩
  · exact cb_tuple pins s σ H xs us Q I r ⟨c, _, z, g, rd, hz, q⟩
end
end Mi
end
section
set_option maxRecDepth 100000
set_option maxHeartbeats 2000000
namespace Mi
open PySem PySem.Spec PyProof.Rows L2 StX LamX
/-! ### a def that makes lambdas -/
/-- the code object of the def at f lies at c -/
def CodeAt (K : PySem.W.Frag) (f c : Addr) : Prop := ∀ (o : Obj) (fd : FuncData), K.lookup f = some o → o.data = .func fd → fd.code = .ref c
theorem CodeAt.of {K : PySem.W.Frag} {f c : Addr} {o : Obj} {fd : FuncData} (h : K.lookup f = some o) (e : o.data = .func fd) (z : fd.code = .ref c) : CodeAt K f c := fun o' fd' h' e' => by
  rw [h] at h'
  cases h'
  rw [e] at e'
  cases e'
  exact z
section
variable {P : Program} {w : World} {K : PySem.W.Frag} {mg : Str → Option Value} {base : Heap}
theorem fn_mirC {x qual : Str} {st : Stmt} {f c : Addr} {fd : FuncData} {N ps : List Str} {k : Nat} {body : SM} (F : Fun K x qual st f fd) (hc : CodeAt K f c) (S : FnScope N ps (defScope st))
    (hb : ∀ (cdv : Value), cdv = .ref c → ∀ (A : Around) (outer : List PySem.Env) (s : Shared) (H : Hp) (E : XK), RoomG k (A.deeper (envOfC qual (defScope st) s.heap.objs.size f cdv)) →
      MSs (cxOf CX0 P w K mg base N qual (defScope st) f cdv A outer s H E).nox E00 (defBody st) body) : FnG P w K mg base CX0 (k + 1) f fd ps (spM ⟨K, mg⟩ (mFun N.length ps.length body)) := by
  obtain ⟨oc, od, kV, doc, pm, an, cdv, ct, osl, rfl, lk, hcd⟩ := F.ex
  have e : cdv = .ref c := hc _ _ lk rfl
  refine fn_ofG lk hcd S (fun vs H Q E h => ?_) fun A outer s H vs Q E hr h => ⟨_, (hb cdv e A outer s H E hr).nox, body_mir rfl rfl h (hb cdv e A outer s H E hr)⟩
  obtain ⟨c, ds, g, r, q⟩ := h
  rw [← r.length]
  by_cases e : ds.length = ps.length
  · exact e
  · rw [mfun_len e (d := .non) (s' := [])] at q; exact q.elim
end
/-! ### the end, with tables -/
section
variable {P : Program} {w : World} {K : PySem.W.Frag} {mg mb : Str → Option Value} {k : Nat} {fa a : Addr} {fd : FuncData} {x : Str} {sp : Sp} {t : Shared} {us : List Value} {ns : List Int} {cs : List (Addr × Addr)}
/-- the module __builtins__ as it stands in h -/
def BMod (mg : Str → Option Value) (h : Heap) : Prop := ∃ (bm : Addr) (ob : Obj), mg "__builtins__" = some (.ref bm) ∧ bm ≠ builtinsNs ∧ h.get? bm = some ob ∧ ob.cls = .type "module" ∧ ob.dict = some builtinsNs ∧ ob.data = .plain ∧ bm ≠ sysModules
def tabs (cs : List (Addr × Addr)) : List Addr := cs.map (·.2)
theorem mem_tabs {p : Addr × Addr} (h : p ∈ cs) : p.2 ∈ tabs cs := List.mem_map.mpr ⟨p, h, rfl⟩
theorem endT (Z : Hp) (hZ : ∀ b, Z b = none ∨ b ∈ tabs cs ∨ ∃ o u, Z b = some (.frz o u)) (hZT : ∀ p ∈ cs, Z p.2 = some (.tbl #[])) (hS : SqL K Z a (ns.map V.int)) (ok : HOk P w Z t.heap) (one : ∀ b, Z b ≠ none → b = a ∨ b ∈ tabs cs ∨ b = sysModules) (out : Z a ≠ none → K.lookup a = none) (nS : K.lookup sysModules = none) (cK : ∀ p ∈ cs, p.1 ≠ sysModules)
    (hT : ∀ p ∈ cs, t.heap.get? p.2 = some (PySem.W.tabObj #[])) (nT : ∀ p ∈ cs, K.lookup p.2 = none) (hC : ∀ p ∈ cs, PySem.W.CodeHd t.heap p.1 p.2) (hB : BMod mg t.heap)
    (KX : K.In t.heap) (hns : t.heap.Ns mainGlobals mg) (hb : t.heap.Ns builtinsNs mb) (hbb : ∀ x : Str, x ≠ "__name__" → mb x = bootBuiltins x) (hlim : t.heap.NoLimit) (hg : t.gens = #[]) (ha : t.heap.get? a = some { cls := .type "list", data := .seq us.toArray }) (hr : RoomG k callerA)
    (F : ∀ base : Heap, K.In base → base.Ns mainGlobals mg → (∀ p ∈ cs, TabB base mg p.1 p.2) → FnG P w K mg base CX0 k fa fd [x] sp) (hbind : ∀ (s : Shared) (u : Value), BindsTo s fd ⟨[u], []⟩ [(x, u)])
    (hsp : sp [.ref a] Z (fun v _ => v = .bl true) fun _ _ _ => False) :
    codeAny (model P w) callerA (.call (.ref fa) ⟨[.ref a], []⟩) (fun r s' => r = .ok (.ret (.bool true)) ∧ OldK t.heap s'.heap ∧ s'.os = t.os ∧ AllBare s'.gens) t := by
  have atT : ∀ b ∈ tabs cs, t.heap.get? b = some (PySem.W.tabObj #[]) := fun b h => by
    obtain ⟨p, hp, e⟩ := List.mem_map.mp h
    rw [← e]; exact hT p hp
  -- what is neither a list nor an empty table is not tracked
  have un0 : ∀ {b : Addr} {o : Obj}, t.heap.get? b = some o → (∀ v n, o.data = .seq v n → False) → (o.data = .fields #[] → False) → b ≠ sysModules → Z b = none := fun {b o} e h1 h2 h3 => by
    cases z : Z b with
    | none => rfl
    | some u =>
      rcases one b (by rw [z]; simp) with y | y | y
      · rw [y, ha] at e; cases e; exact (h1 _ _ rfl).elim
      · rw [atT b y] at e; cases e; exact (h2 rfl).elim
      · exact (h3 y).elim
  have nsB : ∀ {b : Addr} {m : Str → Option Value}, b ≠ sysModules → t.heap.Ns b m → (hidT t.heap Z).Ns b m := fun {b m} hb h => by
    obtain ⟨o, es, ep, e, d, r⟩ := h
    exact ⟨o, es, ep, hidT_get e (un0 e (fun v n y => by rw [d] at y; cases y) (fun y => by rw [d] at y; cases y) hb), d, r⟩
  have inB : K.In (hidT t.heap Z) := fun b o e => hidT_get (KX b o e) (by
    cases z : Z b with
    | none => rfl
    | some u =>
      rcases one b (by rw [z]; simp) with y | y | y
      · subst y; rw [out (by rw [z]; simp)] at e; cases e
      · obtain ⟨p, hp, ep⟩ := List.mem_map.mp y
        rw [← ep, nT p hp] at e; cases e
      · rw [y, nS] at e; cases e)
  have limB : (hidT t.heap Z).NoLimit := by
    obtain ⟨mc, h1, h2⟩ := hlim
    exact ⟨mc, nsB (by decide) h1, h2⟩
  have TB : ∀ p ∈ cs, TabB (hidT t.heap Z) mg p.1 p.2 := fun p hp => by
    have e0 := hT p hp
    refine ⟨?_, ?_, fun y => ?_⟩
    · obtain ⟨o, vs, r⟩ := hC p hp
      obtain ⟨file, tf, flags, tg, inF, text, tt, e1, c1, d1, i1, r⟩ := r
      refine ⟨o, vs, file, tf, flags, tg, inF, text, tt, hidT_get e1 (un0 e1 (fun v n y => by rw [d1] at y; cases y) (fun y => ?_) (cK p hp)), c1, d1, i1, r⟩
      rw [d1] at y
      cases y
      simp at i1
    · obtain ⟨bm, ob, b1, b2, b3, b4, b5, b6, b7⟩ := hB
      have nG : bm ≠ mainGlobals := fun y => by
        obtain ⟨o, es, ep, e, d, _⟩ := hns
        rw [y, e] at b3
        cases b3
        rw [d] at b6; cases b6
      have nP : bm ≠ p.2 := fun y => by
        rw [y, e0] at b3
        cases b3; cases b6
      exact ⟨bm, ob, b1, b2, nG, nP, hidT_get b3 (un0 b3 (fun v n y => by rw [b6] at y; cases y) (fun y => by rw [b6] at y; cases y) b7), b4, b5, b6⟩
    · obtain ⟨o, es, ep, e, d, _⟩ := hns
      rw [y, e0] at e
      cases e; cases d
  have e0 : Env0 P w K mg (hidT t.heap Z) callerA [] t Z :=
    { frames := rfl, mod := ⟨inB, nsB (by decide) hns, ⟨mb, nsB (by decide) hb, hbb⟩, limB⟩, bs := fun b o e => of_hidT e, bsz := Nat.le_of_eq (hidT_size _ _), funs := trivial
      frf := fun b h => by cases h
      hok := ok, bare := .of_eq hg }
  refine codeAny_mono ((F _ inB (nsB (by decide) hns) TB).run callerA [] t Z ⟨[.ref a], []⟩ [.ref a] [.ref a] _ _ hr e0 (hbind t (.ref a)) (.cons rfl .nil) hsp) fun res s2 y => ?_
  cases res with
  | error e => exact y.elim
  | ok fl =>
    cases fl with
    | next => exact y.elim
    | brk => exact y.elim
    | cont => exact y.elim
    | ret u =>
      obtain ⟨v, Z2, eos, bare, un, ok2, rv, qv⟩ := y
      have qv : v = .bl true := qv
      subst qv
      obtain rfl : u = Value.bool true := rv
      have kept : ∀ b o, b ∉ tabs cs → t.heap.get? b = some o → s2.heap.get? b = some o := fun b o nb e => by
        cases z : Z b with
        | none => exact un.keep b o e z (fun h => by cases h) (by simp)
        | some u =>
          rcases hZ b with n | n | ⟨ob, xs, fz⟩
          · rw [z] at n; cases n
          · exact (nb n).elim
          · obtain ⟨g1, _⟩ := ok b _ fz
            obtain ⟨g2, _⟩ := ok2 b _ (un.frzs b ob _ fz)
            rw [e] at g1
            cases g1
            exact g2
      have more : ∀ p ∈ cs, ∃ m : Array Value, s2.heap.get? p.2 = some { cls := .none, data := .fields m } := fun p hp => by
        obtain ⟨m, y⟩ := un.tbls p.2 #[] (hZT p hp)
        exact ⟨_, ok2 p.2 _ y⟩
      refine ⟨rfl, ⟨fun b o e => ?_, fun b o e => ?_⟩, eos, bare⟩
      · by_cases hb : b ∈ tabs cs
        · obtain ⟨p, hp, rfl⟩ := List.mem_map.mp hb
          obtain ⟨m, hm⟩ := more p hp
          rw [hT p hp] at e
          cases e
          exact .inr (.inl ⟨((hC p hp).tab (hT p hp)).isCodeTable, rfl, #[], m, rfl, by rw [Array.empty_append]; exact hm⟩)
        · exact .inl (kept b o hb e)
      · by_cases hb : b ∈ tabs cs
        · obtain ⟨p, hp, rfl⟩ := List.mem_map.mp hb
          obtain ⟨m, hm⟩ := more p hp
          exact ⟨_, hm⟩
        · exact ⟨o, kept b o hb e⟩
/-- the tracked part at the law's call -/
def firstH (cs : List (Addr × Addr)) (a : Addr) (o : Option HO) (om : Obj) : Hp := fun b => if b ∈ tabs cs then some (.tbl #[]) else if b = a then o else if b = sysModules then some (.frz om (.ext fun h => h.get? sysModules = some om)) else none
def SmH (H : Hp) : Prop := ∃ (o : Obj) (u : HO), H sysModules = some (.frz o u) ∧ isDic u = false
theorem law_callT (hT : ∀ p ∈ cs, t.heap.get? p.2 = some (PySem.W.tabObj #[])) (nT : ∀ p ∈ cs, K.lookup p.2 = none ∧ p.2 ≠ sysModules) (hC : ∀ p ∈ cs, PySem.W.CodeHd t.heap p.1 p.2) (hB : BMod mg t.heap) (nS : K.lookup sysModules = none) (cK : ∀ p ∈ cs, p.1 ≠ sysModules) (hSM : ∃ om, t.heap.get? sysModules = some om)
    (KX : K.In t.heap) (hns : t.heap.Ns mainGlobals mg) (hb : t.heap.Ns builtinsNs mb) (hbb : ∀ x : Str, x ≠ "__name__" → mb x = bootBuiltins x) (hlim : t.heap.NoLimit) (hg : t.gens = #[]) (ha : t.heap.get? a = some { cls := .type "list", data := .seq us.toArray })
    (hi : IntsAre us ns) (hl : ns.length ≤ sizeLine) (hr : RoomG k callerA)
    (F : ∀ base : Heap, K.In base → base.Ns mainGlobals mg → (∀ p ∈ cs, TabB base mg p.1 p.2) → FnG P w K mg base CX0 k fa fd [x] sp) (hbind : ∀ (s : Shared) (u : Value), BindsTo s fd ⟨[u], []⟩ [(x, u)])
    (hsp : ∀ H : Hp, (∀ p ∈ cs, H p.2 = some (.tbl #[])) → SqL K H a (ns.map V.int) → a ∉ tabs cs → SmH H → sp [.ref a] H (fun v _ => v = .bl true) fun _ _ _ => False) :
    codeAny (model P w) callerA (.call (.ref fa) ⟨[.ref a], []⟩) (fun r s' => r = .ok (.ret (.bool true)) ∧ OldK t.heap s'.heap ∧ s'.os = t.os ∧ AllBare s'.gens) t := by
  have rv := vals_ints hi
  obtain ⟨om, hm⟩ := hSM
  have na : a ∉ tabs cs := fun y => by
    obtain ⟨p, hp, e⟩ := List.mem_map.mp y
    have e2 := hT p hp
    rw [show p.2 = a from e, ha] at e2
    have e3 := congrArg Obj.data (Option.some.inj e2)
    cases e3
  have nm : sysModules ∉ tabs cs := fun y => by
    obtain ⟨p, hp, e⟩ := List.mem_map.mp y
    exact (nT p hp).2 e
  have tT : ∀ (o : Option HO), ∀ p ∈ cs, firstH cs a o om p.2 = some (.tbl #[]) := fun o p hp => if_pos (mem_tabs hp)
  have tA : ∀ (o : Option HO), firstH cs a o om a = o := fun o => (if_neg na).trans (if_pos rfl)
  have tM : ∀ (o : Option HO), a ≠ sysModules → firstH cs a o om sysModules = some (.frz om (.ext fun h => h.get? sysModules = some om)) := fun o aS => (if_neg nm).trans ((if_neg (Ne.symm aS)).trans (if_pos rfl))
  have dec : ∀ (o : Option HO) b u, firstH cs a o om b = some u → (b ∈ tabs cs ∧ u = .tbl #[]) ∨ (b = a ∧ o = some u) ∨ (b = sysModules ∧ u = .frz om (.ext fun h => h.get? sysModules = some om)) := fun o b u h => by
    by_cases h1 : b ∈ tabs cs
    · exact .inl ⟨h1, (Option.some.inj ((if_pos h1).symm.trans h)).symm⟩
    · by_cases h2 : b = a
      · subst h2; exact .inr (.inl ⟨rfl, (tA o).symm.trans h⟩)
      · by_cases h3 : b = sysModules
        · subst h3; exact .inr (.inr ⟨rfl, (Option.some.inj ((tM o (Ne.symm h2)).symm.trans h)).symm⟩)
        · have e : firstH cs a o om b = none := (if_neg h1).trans ((if_neg h2).trans (if_neg h3))
          rw [e] at h; cases h
  have okS : ∀ H : Hp, ObjOk P w H t.heap sysModules (.frz om (.ext fun h => h.get? sysModules = some om)) := fun H => ⟨hm, hm, ⟨om, hm⟩, fun h1 h2 e st => st _ e⟩
  have oneZ : ∀ (o : Option HO) b, firstH cs a o om b ≠ none → b = a ∨ b ∈ tabs cs ∨ b = sysModules := fun o b z => by
    cases y : firstH cs a o om b with
    | none => exact absurd y z
    | some u =>
      rcases dec _ _ _ y with h | h | h
      · exact .inr (.inl h.1)
      · exact .inl h.1
      · exact .inr (.inr h.1)
  cases hk : K.lookup a with
  | some o =>
    have e := KX a o hk
    rw [ha] at e
    cases e
    have aS : a ≠ sysModules := fun y => by rw [y, nS] at hk; cases hk
    have sq : ∀ H, SqL K H a (ns.map V.int) := fun H => .inr ⟨_, us.toArray, _, hk, rfl, rfl, rfl, by rw [List.size_toArray, hi.length]; exact hl, by simpa using rv⟩
    refine endT (firstH cs a none om) (fun b => ?_) (tT none) (sq _) (fun b u z => ?_) (oneZ none) (fun z => absurd (tA none) z) nS cK hT (fun p hp => (nT p hp).1) hC hB KX hns hb hbb hlim hg ha hr F hbind (hsp _ (tT none) (sq _) na ⟨_, _, tM none aS, rfl⟩)
    · cases z : firstH cs a none om b with
      | none => exact .inl rfl
      | some u =>
        rcases dec _ _ _ z with ⟨y, _⟩ | ⟨_, y⟩ | ⟨_, y⟩
        · exact .inr (.inl y)
        · cases y
        · exact .inr (.inr ⟨_, _, congrArg some y⟩)
    · rcases dec _ _ _ z with ⟨y, rfl⟩ | ⟨_, y⟩ | ⟨rfl, rfl⟩
      · obtain ⟨p, hp, rfl⟩ := List.mem_map.mp y
        exact hT p hp
      · cases y
      · exact okS _
  | none =>
    have sq : SqL K (firstH cs a (some (.frz { cls := .type "list", data := .seq us.toArray } (.lst (ns.map V.int)))) om) a (ns.map V.int) := .inl (.inr ⟨_, tA _⟩)
    have sm : SmH (firstH cs a (some (.frz { cls := .type "list", data := .seq us.toArray } (.lst (ns.map V.int)))) om) := by
      by_cases aS : a = sysModules
      · have := tA (some (.frz { cls := .type "list", data := .seq us.toArray } (.lst (ns.map V.int))))
        exact ⟨_, _, by rw [← aS]; exact this, rfl⟩
      · exact ⟨_, _, tM _ aS, rfl⟩
    refine endT _ (fun b => ?_) (tT _) sq (fun b u z => ?_) (oneZ _) (fun _ => hk) nS cK hT (fun p hp => (nT p hp).1) hC hB KX hns hb hbb hlim hg ha hr F hbind (hsp _ (tT _) sq na sm)
    · cases z : firstH cs a (some (.frz { cls := .type "list", data := .seq us.toArray } (.lst (ns.map V.int)))) om b with
      | none => exact .inl rfl
      | some u =>
        rcases dec _ _ _ z with ⟨y, _⟩ | ⟨_, y⟩ | ⟨_, y⟩
        · exact .inr (.inl y)
        · cases y; exact .inr (.inr ⟨_, _, rfl⟩)
        · exact .inr (.inr ⟨_, _, congrArg some y⟩)
    · rcases dec _ _ _ z with ⟨y, rfl⟩ | ⟨rfl, y⟩ | ⟨rfl, rfl⟩
      · obtain ⟨p, hp, rfl⟩ := List.mem_map.mp y
        exact hT p hp
      · cases y
        exact ⟨ha, by rw [List.length_map]; exact hl, us, _, rv, ha⟩
      · exact okS _
end
theorem walk_T {l : PySem.W.OpenLaw} {n k : Nat} {q : Program} {loose : List Str} {XP : (Str → Option Value) → Heap → Prop} {YP : World → Heap → Prop} {d : DefRec} {K : Params → PySem.W.Frag} {sp : World → Sp} {x : Str} {cs : List (Addr × Addr)} {bm : Addr}
    (hn : l.most = some n) (hn2 : n ≤ sizeLine) (hdf : d.params.defaults = []) (hq : PyProof.Rows.importsNone q = true) (hr : RoomG k callerA) (hY : ∀ (w : World) (h : Heap), YP w h → (K w.params).In h) (hYT : ∀ (w : World) (h : Heap), YP w h → ∀ p ∈ cs, h.get? p.2 = some (PySem.W.tabObj #[]))
    (nT : ∀ (w : World), ∀ p ∈ cs, (K w.params).lookup p.2 = none ∧ p.2 ≠ sysModules) (hC : ∀ (w : World), ∀ p ∈ cs, PySem.W.codeHdIn (K w.params) p.1 p.2 = true) (nS : ∀ w : World, (K w.params).lookup sysModules = none) (cK : ∀ p ∈ cs, p.1 ≠ sysModules)
    (hB : ∀ w : World, PySem.W.nsIn (K w.params) mainGlobals "__builtins__" = some (some (.ref bm))) (hB2 : bm ≠ sysModules)
    (F : ∀ (w : World) (mg : Str → Option Value) (fa : Addr) (h : Heap), (K w.params).In h → h.Ns mainGlobals mg → mg d.name = some (.ref fa) →
      ∃ fd : FuncData, (∀ (s : Shared) (u : Value), BindsTo s fd ⟨[u], []⟩ [(x, u)]) ∧ ∀ base : Heap, (K w.params).In base → base.Ns mainGlobals mg → (∀ p ∈ cs, TabB base mg p.1 p.2) → FnG l.prog w (K w.params) mg base CX0 k fa fd [x] (sp w))
    (hsp : ∀ (w : World) (H : Hp) (a : Addr) (ns : List Int), ns.length ≤ n → (∀ p ∈ cs, H p.2 = some (.tbl #[])) → SqL (K w.params) H a (ns.map V.int) → a ∉ tabs cs → SmH H → sp w [.ref a] H (fun v _ => v = .bl true) fun _ _ _ => False) :
    PySem.W.WalkO q loose XP YP l.row.toRowW d [] (fun f vs => PySem.call f vs) := by
  refine Att.attach_call hn hdf fun w s0 s1 mg mb fa o pm cd doc a vs ns G Y ho hd hcd hmg hobj hints hlen hg => ?_
  have KX := hY w _ Y
  obtain ⟨fd, hb, hF⟩ := F w mg fa _ KX G.T.g hmg
  have bmd : BMod mg s1.heap := by
    obtain ⟨b, ob, b1, b2, b3, b4, b5, b6⟩ := G.T.bmain
    have e := PySem.W.mg_of KX G.T.g (hB w)
    rw [b1] at e
    cases e
    exact ⟨_, ob, b1, b2, b3, b4, b5, b6, hB2⟩
  have sme : ∃ om, s1.heap.get? sysModules = some om := by
    obtain ⟨mm, ⟨o, _, _, e, _⟩, _⟩ := (G.T.seer hq).mods
    exact ⟨o, e⟩
  exact law_callT (hYT w _ Y) (nT w) (fun p hp => PySem.W.codeHd_of_K KX (hC w p hp)) bmd (nS w) cK sme KX G.T.g G.T.b G.T.builtins G.T.nolimit hg hobj hints (Nat.le_trans hlen hn2) hr hF hb fun H hH hS na sm => hsp w H a ns hlen hH hS na sm
end Mi
end
section
set_option maxRecDepth 100000
set_option maxHeartbeats 2000000
namespace Mi
open PySem PySem.Spec PyProof.Rows L2 StX LamX
/-! ### the law's first store: its tables -/
def sto0 : Nat → List (Str × Str) → Sto
  | _, [] => []
  | i, t :: r => .tbl i t.1 t.2 :: sto0 (i + 1) r
def TabsOf (K : PySem.W.Frag) (ts : List (Str × Str)) (Ps : List Addr) : Prop := Paired (fun t P => (PySem.W.tabIn K t.1).map (·.2) = some P) ts Ps
theorem sto0_len : ∀ (i : Nat) (ts : List (Str × Str)), (sto0 i ts).length = ts.length
  | _, [] => rfl
  | i, _ :: r => by simp [sto0, sto0_len (i + 1) r]
theorem sto0_at {K : PySem.W.Frag} : ∀ {ts : List (Str × Str)} {Ps : List Addr} {i n : Nat} {o : O} {a : Addr}, TabsOf K ts Ps → (sto0 i ts)[n]? = some o → Ps[n]? = some a → ∃ t : Str × Str, o = .tbl (i + n) t.1 t.2 ∧ (PySem.W.tabIn K t.1).map (·.2) = some a
  | [], _, _, n, _, _, _, e, _ => by simp [sto0] at e
  | t :: r, _, i, n, o, a, .cons h hr, e, ea => by
    cases n with
    | zero =>
      simp [sto0] at e ea
      subst e; subst ea
      exact ⟨t, rfl, h⟩
    | succ n =>
      simp only [sto0, List.getElem?_cons_succ] at e ea
      obtain ⟨t', e', h'⟩ := sto0_at hr e ea
      exact ⟨t', by rw [e']; congr 1; omega, h'⟩
theorem good0 {w : Wd} {H : Hp} {ts : List (Str × Str)} {Ps : List Addr} (h : TabsOf w.K ts Ps) (nd : Ps.Nodup) (hH : ∀ P ∈ Ps, H P = some (.tbl #[])) (sm : SmH H) (ns : sysModules ∉ Ps) : Good w H ⟨Ps, sto0 0 ts, []⟩ := by
  have inj : ∀ (n m : Nat) (a : Addr), Ps[n]? = some a → Ps[m]? = some a → n = m := fun n m a e1 e2 => by
    have l1 := (List.getElem?_eq_some_iff.mp e1).1
    exact (List.getElem?_inj l1 nd).mp (e1.trans e2.symm)
  refine ⟨by show Ps.length = (sto0 0 ts).length; rw [sto0_len]; exact (Paired.length h).symm, inj, fun n a o e1 e2 => ?_, fun a ha => by simp at ha, ?_⟩
  · obtain ⟨t, e, ht⟩ := sto0_at h e2 e1
    subst e
    refine ⟨_, hH a (List.mem_of_getElem? e1), .tbl (by rw [Nat.zero_add]; exact e1) ht True.intro fun pos cv z => ?_⟩
    have z : codeAmong pos [] = some cv := z
    simp [codeAmong] at z
  · obtain ⟨o, u, e, hu⟩ := sm
    refine ⟨o, u, e, hu, ?_⟩
    rintro (⟨n, o, e1, _⟩ | e1)
    · exact ns (List.mem_of_getElem? e1)
    · simp at e1
def spT (K : PySem.W.Frag) (Ps : List Addr) : Sp := fun vs H Q _ => ∃ (a : Addr) (ns : List Int), vs = [.ref a] ∧ SqL K H a (ns.map V.int) ∧ a ∉ Ps ∧ (∀ P ∈ Ps, H P = some (.tbl #[])) ∧ SmH H ∧ ∀ H', Q (.bl true) H'
theorem spec_T {K : PySem.W.Frag} {mg : Str → Option Value} {ts : List (Str × Str)} {Ps : List Addr} {F : FT} (hF : ∀ ns, Wp (F [.scr ns] (sto0 0 ts)) fun v _ => v = .bl true) (h : TabsOf K ts Ps) (nd : Ps.Nodup) (nS : sysModules ∉ Ps)
    {vs : List V} {H : Hp} {Q : VK} {E : XK} (q : spT K Ps vs H Q E) : spM ⟨K, mg⟩ F vs H Q E := by
  obtain ⟨a, ns, rfl, hS, na, hP, sm, q⟩ := q
  have nl : ¬ Lv ⟨Ps, sto0 0 ts, []⟩ a := by
    rintro (⟨n, o, e1, _⟩ | e1)
    · exact na (List.mem_of_getElem? e1)
    · simp at e1
  refine ⟨⟨Ps, sto0 0 ts, []⟩, [.scr ns], good0 h nd hP sm nS, .cons (.scr (hS.imp (fun z => ⟨z, nl⟩) id)) .nil, ?_⟩
  have z := hF ns
  show Fin _ _ _ _ (F [.scr ns] (sto0 0 ts)) _
  cases e : F [.scr ns] (sto0 0 ts) with
  | no => rw [e] at z; exact z.elim
  | ex x s => rw [e] at z; exact z.elim
  | ok d s =>
    rw [e] at z
    have z : d = .bl true := z
    subst z
    intro c1 H1 _ _ _ v r
    cases r
    exact q H1
theorem tabs_all {cs : List (Addr × Addr)} {H : Hp} {o : Option HO} (h : ∀ p ∈ cs, H p.2 = o) : ∀ P ∈ tabs cs, H P = o := fun P hP => by
  obtain ⟨p, hp, rfl⟩ := List.mem_map.mp hP
  exact h p hp
/-- where a def's table lies -/
theorem tabIn_of {K : PySem.W.Frag} {x : Str} {f c P : Addr} {o : Obj} {fd : FuncData} {e : Value} {dd : Option Addr} {vs : Array Value} {sl : Array (Option Value)} (h1 : PySem.W.nsIn K mainGlobals x = some (some (.ref f))) (h2 : K.lookup f = some o) (h3 : o.data = .func fd) (h4 : fd.code = .ref c)
    (h5 : K.lookup c = some ⟨e, dd, .fields vs, sl⟩) (h6 : vs[11]? = some (.ref P)) : (PySem.W.tabIn K x).map (·.2) = some P := by
  obtain ⟨oc, od, da, os⟩ := o
  have h3 : da = .func fd := h3
  subst h3
  unfold PySem.W.tabIn
  simp only [h1, h2, h4, h5]
  rw [h6]
  rfl
theorem walk_TT {l : PySem.W.OpenLaw} {n k : Nat} {q : Program} {loose : List Str} {XP : (Str → Option Value) → Heap → Prop} {YP : World → Heap → Prop} {d : DefRec} {K : Params → PySem.W.Frag} {x : Str} {cs : List (Addr × Addr)} {bm : Addr}
    (hn : l.most = some n) (hn2 : n ≤ sizeLine) (hdf : d.params.defaults = []) (hq : PyProof.Rows.importsNone q = true) (hr : RoomG k callerA) (hY : ∀ (w : World) (h : Heap), YP w h → (K w.params).In h) (hYT : ∀ (w : World) (h : Heap), YP w h → ∀ p ∈ cs, h.get? p.2 = some (PySem.W.tabObj #[]))
    (nT : ∀ (w : World), ∀ p ∈ cs, (K w.params).lookup p.2 = none ∧ p.2 ≠ sysModules) (hC : ∀ (w : World), ∀ p ∈ cs, PySem.W.codeHdIn (K w.params) p.1 p.2 = true) (nS : ∀ w : World, (K w.params).lookup sysModules = none) (cK : ∀ p ∈ cs, p.1 ≠ sysModules)
    (hB : ∀ w : World, PySem.W.nsIn (K w.params) mainGlobals "__builtins__" = some (some (.ref bm))) (hB2 : bm ≠ sysModules)
    (F : ∀ (w : World) (mg : Str → Option Value) (fa : Addr) (h : Heap), (K w.params).In h → h.Ns mainGlobals mg → mg d.name = some (.ref fa) →
      ∃ fd : FuncData, (∀ (s : Shared) (u : Value), BindsTo s fd ⟨[u], []⟩ [(x, u)]) ∧ ∀ base : Heap, (K w.params).In base → base.Ns mainGlobals mg → (∀ p ∈ cs, TabB base mg p.1 p.2) → FnG l.prog w (K w.params) mg base CX0 k fa fd [x] (spT (K w.params) (tabs cs))) :
    PySem.W.WalkO q loose XP YP l.row.toRowW d [] (fun f vs => PySem.call f vs) :=
  walk_T (sp := fun w => spT (K w.params) (tabs cs)) hn hn2 hdf hq hr hY hYT nT hC nS cK hB hB2 F fun w H a ns _ hT hS na sm => ⟨a, ns, rfl, hS, na, tabs_all hT, sm, fun _ => rfl⟩
end Mi
end
section
set_option maxRecDepth 100000
set_option maxHeartbeats 1000000
namespace Mi
open PySem L2
/-! ### the calculus for methods, dicts, lists that change -/
section
variable {env : Env} {s : Sto} {Q : D → Sto → Prop} {Qs : Fl → Sto → Prop}
theorem qF_ap {F : FT} {ds : List D} : Wp (qF F ds s) Q = Wp (F ds s) Q := by simp [qF]
theorem mMethX_ap {nm m : Str} {F : FT} {fo : ET} {fs : AT} : Wp (mMethX nm m F fo fs env s) Q = Wp (fo env s) fun o s1 => ∃ fl, insD s1 o = some (nm, fl) ∧ fl.lookup m = none ∧ Wp (fs env s1) fun ds s2 => Wp (F (o :: ds) s2) Q := by
  simp only [mMethX, Wp_bind]
  congr; funext o s1
  cases e : insD s1 o with
  | none => simp
  | some p =>
    obtain ⟨nm', fl⟩ := p
    simp only [Option.some.injEq, Prod.mk.injEq]
    split
    · rename_i h; obtain ⟨rfl, h⟩ := h
      simp only [Wp_bind]
      exact propext ⟨fun q => ⟨fl, by simp, h, q⟩, fun ⟨fl', _, _, q⟩ => q⟩
    · rename_i h
      refine propext ⟨fun q => q.elim, fun ⟨fl', ⟨e1, e2⟩, h2, _⟩ => h ⟨e1, by rw [e2]; exact h2⟩⟩
theorem mkP_ap {nm : Str} {F : FT} {ds : List D} : Wp (mkP nm F ds s) Q = Wp (F (.ref s.length :: ds) (s ++ [.ins true nm []])) fun v s2 => v = .non ∧ Q (.ref s.length) s2 := by
  simp only [mkP, Wp_bind]
  congr; funext v s2
  cases v <;> simp
theorem mMkP_ap {nm : Str} {F : FT} {fs : AT} : Wp (mMkP nm F fs env s) Q = Wp (fs env s) fun ds s1 => Wp (F (.ref s1.length :: ds) (s1 ++ [.ins true nm []])) fun v s2 => v = .non ∧ Q (.ref s1.length) s2 := by
  simp only [mMkP, Wp_bind, mkP_ap]
theorem mLm_ap {op : LmT} {fo : ET} {fs : AT} : Wp (mLm op fo fs env s) Q = Wp (fo env s) fun o s1 => ∃ n zs, o = .ref n ∧ s1[n]? = some (.lst true zs) ∧ Wp (fs env s1) fun ds s2 => ∃ xs y xs', s2[n]? = some (.lst true xs) ∧ op s2 xs ds = some (y, xs') ∧ Q y (s2.set n (.lst true xs')) := by
  simp only [mLm, Wp_bind]
  congr; funext o s1
  cases o with
  | ref n =>
    simp
    cases h : s1[n]? with
    | none => simp
    | some ob =>
      cases ob with
      | lst m zs =>
        cases m with
        | false => simp
        | true =>
          simp
          refine iff_of_eq ?_
          congr; funext ds s2
          cases h2 : s2[n]? with
          | none => simp
          | some ob2 =>
            cases ob2 with
            | lst m2 xs =>
              cases m2 with
              | false => simp
              | true =>
                simp
                cases h3 : op s2 xs ds with
                | none => simp
                | some p =>
                  obtain ⟨y, xs'⟩ := p
                  simp
                  exact ⟨fun q => ⟨y, xs', ⟨rfl, rfl⟩, q⟩, fun ⟨_, _, ⟨e1, e2⟩, q⟩ => by rw [e1, e2]; exact q⟩
            | _ => simp
      | _ => simp
  | _ => simp
theorem mDicR_ap : mDicR env s = .ok (.ref s.length) (s ++ [.dic true []]) := rfl
theorem sPutR_ap {fv fo fi : ET} : WpS (sPutR fv fo fi env s) Qs = Wp (fv env s) fun v s1 => Wp (fo env s1) fun o s2 => Wp (fi env s2) fun i s3 => ∃ n k kvs, o = .ref n ∧ keyOf i = some k ∧ s3[n]? = some (.dic true kvs) ∧ kvs.length < sizeLine ∧ Qs (.nx env) (s3.set n (.dic true (putD kvs k v))) := by
  simp only [sPutR, WpS_st]
  congr; funext v s1; congr; funext o s2; congr; funext i s3
  cases o with
  | ref n =>
    cases hk : keyOf i with
    | none => simp
    | some k =>
      simp
      cases h : s3[n]? with
      | none => simp
      | some ob =>
        cases ob with
        | dic m kvs =>
          cases m with
          | false => simp
          | true =>
            simp
            by_cases l : kvs.length < sizeLine <;> simp [l]
        | _ => simp
  | _ => simp
theorem mSplR_ap {fa : ET} {fs : AT} : Wp (mSplR fa fs env s) Q = Wp (fa env s) fun d s1 => ∃ x, d = .str x ∧ Wp (fs env s1) fun ds s2 => ∃ ys, mbSplit s2 (.str x) ds = some (.lst ys) ∧ Q (.ref s2.length) (s2 ++ [.lst true ys]) := by
  simp only [mSplR, Wp_bind, mStr_ap]
  congr; funext d s1
  congr; funext x
  congr 1
  congr; funext ds s2
  split
  · rename_i ys e; simp [e]
  · rename_i h
    refine propext ⟨fun q => q.elim, fun ⟨ys, e, _⟩ => h ys e⟩
theorem put1_ap {v : D} {fo fi : ET} {kk : Sto → SR} : WpS (put1 v fo fi env s kk) Qs = Wp (fo env s) fun o s2 => Wp (fi env s2) fun i s3 => ∃ n j xs m, o = .ref n ∧ i = .int j ∧ s3[n]? = some (.lst true xs) ∧ ixN xs.length j = some m ∧ WpS (kk (s3.set n (.lst true (xs.set m v)))) Qs := by
  simp only [put1, WpS_st]
  congr; funext o s2; congr; funext i s3
  cases o with
  | ref n =>
    cases i with
    | int j =>
      simp
      cases h : s3[n]? with
      | none => simp
      | some ob =>
        cases ob with
        | lst m xs =>
          cases m with
          | false => simp
          | true =>
            simp
            cases h2 : ixN xs.length j <;> simp
        | _ => simp
    | _ => simp
  | _ => simp
theorem sSwp_ap {f1 f2 fo fi go gi : ET} : WpS (sSwp f1 f2 fo fi go gi env s) Qs = Wp (f1 env s) fun d s1 => Wp (f2 env s1) fun e s2 => WpS (put1 d fo fi env s2 fun s3 => put1 e go gi env s3 fun s4 => .fl (.nx env) s4) Qs := by
  simp only [sSwp, WpS_st]
theorem itE_ap {fs : AT} {Qi : List D × (Sto → Prop) → Sto → Prop} : Wp (itE fs env s) Qi = Wp (fs env s) fun ds s1 => ∃ d xs, ds = [d] ∧ asL s1 d = some xs ∧ Qi (enumD xs, stays d xs) s1 := by
  simp only [itE, Wp_bind]
  congr; funext ds s1
  split
  · rename_i d
    split
    · rename_i xs e
      exact propext ⟨fun q => ⟨d, xs, rfl, e, q⟩, fun ⟨d', xs', e1, e2, q⟩ => by cases e1; rw [e] at e2; cases e2; exact q⟩
    · rename_i e
      refine propext ⟨fun q => q.elim, fun ⟨d', xs', e1, e2, q⟩ => ?_⟩
      cases e1; rw [e] at e2; cases e2
  · rename_i h
    exact propext ⟨fun q => q.elim, fun ⟨d', xs', e1, _⟩ => h d' e1⟩
end
/-! ### what may raise -/
def WpX {α : Type} (r : R α) (Q : α → Sto → Prop) (X : Xn → Sto → Prop) : Prop := match r with
  | .ok a s => Q a s
  | .ex x s => X x s
  | .no => False
def WpSX (r : SR) (Q : Fl → Sto → Prop) (X : Xn → Env → Sto → Prop) : Prop := match r with
  | .fl f s => Q f s
  | .ex x e s => X x e s
  | .no => False
section
variable {α β : Type} {r : R α} {Q Q' : α → Sto → Prop} {X X' : Xn → Sto → Prop} {s : Sto} {env : Env} {Qs Qs' : Fl → Sto → Prop} {Xs Xs' : Xn → Env → Sto → Prop}
theorem Wp.x (h : Wp r Q) : WpX r Q X := by cases r <;> first | exact h | exact h.elim
theorem WpS.x {r : SR} (h : WpS r Qs) : WpSX r Qs Xs := by cases r <;> first | exact h | exact h.elim
theorem WpX.mono (h : WpX r Q X) (i : ∀ a s, Q a s → Q' a s) (j : ∀ x s, X x s → X' x s) : WpX r Q' X' := by
  cases r with
  | ok a s => exact i a s h
  | ex x s => exact j x s h
  | no => exact h
theorem WpSX.mono {r : SR} (h : WpSX r Qs Xs) (i : ∀ a s, Qs a s → Qs' a s) (j : ∀ x e s, Xs x e s → Xs' x e s) : WpSX r Qs' Xs' := by
  cases r with
  | fl a s => exact i a s h
  | ex x e s => exact j x e s h
  | no => exact h
theorem seqX {f g : SM} (K : Env → Sto → Prop) (h1 : WpSX (f env s) (Nx K Qs) Xs) (h2 : ∀ e s, K e s → WpSX (g e s) Qs Xs) : WpSX (sSeq f g env s) Qs Xs := by
  show WpSX ((f env s).then g) Qs Xs
  cases e : f env s with
  | no => rw [e] at h1; exact h1
  | ex x v s1 => rw [e] at h1; exact h1
  | fl fl s1 =>
    rw [e] at h1
    cases fl with
    | nx v => exact h2 v s1 h1
    | rt d => exact h1
    | bk v => exact h1
    | ct v => exact h1
theorem sIf_x {bc : BT} {f g : SM} (h : Wp (bc env s) fun b s1 => if b then WpSX (f env s1) Qs Xs else WpSX (g env s1) Qs Xs) : WpSX (sIf bc f g env s) Qs Xs := by
  obtain ⟨b, s1, e, q⟩ := h.out
  simp only [sIf, e, bt_ok]
  cases b <;> simpa using q
theorem sRaise_x {nm : Str} {fa : ET} (h : Wp (fa env s) fun d s1 => Xs ⟨nm, [("value", d)]⟩ env s1) : WpSX (sRaise nm fa env s) Qs Xs := by
  obtain ⟨d, s1, e, q⟩ := h.out
  simp only [sRaise, e, st_ok]
  exact q
theorem mFun_x {N n : Nat} {b : SM} {ds : List D} {Q : D → Sto → Prop} (hl : ds.length = n) (h : WpSX (b (ds.map some ++ List.replicate (N - n) none) s) (fun f s1 => match f with | .rt d => Q d s1 | .nx _ => Q .non s1 | _ => False) (fun x _ s1 => X x s1)) : WpX (mFun N n b ds s) Q X := by
  simp only [mFun, hl, if_true]
  cases e : b (ds.map some ++ List.replicate (N - n) none) s with
  | no => rw [e] at h; exact h
  | ex x v s1 => rw [e] at h; exact h
  | fl f s1 =>
    rw [e] at h
    cases f <;> exact h
theorem sAsgX_x {F : FT} {fs : AT} {g : Tg} (h : Wp (fs env s) fun ds s1 => WpX (F ds s1) (fun d s2 => ∃ e, g d env = some e ∧ Qs (.nx e) s2) (fun x s2 => Xs x env s2)) : WpSX (sAsg (mCallX F fs) g env s) Qs Xs := by
  obtain ⟨ds, s1, e, q⟩ := h.out
  simp only [sAsg, mCallX, e, bind_ok]
  cases e2 : F ds s1 with
  | no => rw [e2] at q; exact q
  | ex x s2 => rw [e2] at q; exact q
  | ok d s2 =>
    rw [e2] at q
    obtain ⟨v, e3, q⟩ := q
    simp only [st_ok, e3]
    exact q
theorem sTryK_ap {cs : List (Str × Bool)} {i j : Nat} {fb : SM} (h : WpSX (fb env s) Qs (fun x e s1 => ∃ f r, x.fs = f :: r ∧ tblB cs x.c = some true ∧ i < e.length ∧ Qs (.nx ((e.set j (some (.exc x.c x.fs))).set i none)) s1)) : WpS (sTryK cs i j fb env s) Qs := by
  unfold sTryK
  cases e : fb env s with
  | no => rw [e] at h; exact h
  | fl f s1 => rw [e] at h; exact h
  | ex x v s1 =>
    rw [e] at h
    obtain ⟨f, r, h1, h2, h3, h4⟩ := h
    simp only [h1, h2, h3, if_true]
    rw [h1] at h4
    exact h4
theorem forGo_x {G : Sto → Prop} {g : Tg} {b : SM} (I : List D → Env → Sto → Prop) (hG : ∀ r e s, I r e s → G s)
    (step : ∀ d r e s, I (d :: r) e s → ∃ e2, g d e = some e2 ∧ WpSX (b e2 s) (fun f s1 => match f with | .nx e3 => I r e3 s1 | .ct e3 => I r e3 s1 | .bk e3 => Qs (.nx e3) s1 | .rt d => Qs (.rt d) s1) Xs)
    (fin : ∀ e s, I [] e s → Qs (.nx e) s) : ∀ (ds : List D) (e : Env) (s : Sto), I ds e s → WpSX (forGo G g b ds e s) Qs Xs
  | [], e, s, h => by
    rw [forGo, if_pos (hG _ _ _ h)]
    exact fin e s h
  | d :: r, e, s, h => by
    rw [forGo, if_pos (hG _ _ _ h)]
    obtain ⟨e2, he, q⟩ := step d r e s h
    rw [he]
    simp only
    cases z : b e2 s with
    | no => rw [z] at q; exact q
    | ex x v s1 => rw [z] at q; exact q
    | fl f s1 =>
      rw [z] at q
      cases f with
      | nx e3 => exact forGo_x I hG step fin r e3 s1 q
      | ct e3 => exact forGo_x I hG step fin r e3 s1 q
      | bk e3 => exact q
      | rt d => exact q
theorem sFor_x {it : IT} {g : Tg} {b : SM} (h : Wp (it env s) fun p s1 => WpSX (forGo p.2 g b p.1 env s1) Qs Xs) : WpSX (sFor it g b env s) Qs Xs := by
  obtain ⟨p, s1, e, q⟩ := h.out
  simp only [sFor, e, it_ok]
  exact q
end
end Mi
end
section
set_option maxRecDepth 100000
set_option maxHeartbeats 4000000
namespace K04
open PySem L2 PyProof.Rows Mi
def inCls (st : Stmt) (j : Nat) : Stmt := match st with
  | .ClassDef _ _ _ body _ _ _ _ _ _ _ => body.getD j (.Pass ⟨0, 0, 0, 0⟩)
  | st => st
def top (i : Nat) : Stmt := PySem.Challenge.pw_laterknown_k04_kinds_read_and_shown.main.body.getD i (.Pass ⟨0, 0, 0, 0⟩)
abbrev s_is_name : Stmt := top 9
abbrev N_is_name : List Str := ["value", "sign"]
abbrev s_is_free_name : Stmt := top 26
abbrev N_is_free_name : List Str := ["value"]
abbrev s_Kind___init__ : Stmt := inCls (top 27) 0
abbrev N_Kind___init__ : List Str := ["self", "name"]
abbrev s_Kind_named : Stmt := inCls (top 27) 1
abbrev N_Kind_named : List Str := ["self", "word", "some", "name"]
abbrev s_Kind_has_mark : Stmt := inCls (top 27) 2
abbrev N_Kind_has_mark : List Str := ["self", "word"]
abbrev s_Kind_all_names : Stmt := inCls (top 27) 3
abbrev N_Kind_all_names : List Str := ["self", "word", "name"]
abbrev s_Kind_takes : Stmt := inCls (top 27) 6
abbrev N_Kind_takes : List Str := ["self", "word", "name"]
abbrev s_Kind_has_room : Stmt := inCls (top 27) 7
abbrev N_Kind_has_room : List Str := ["self", "word", "group", "most", "some", "name"]
abbrev s_Kind_name : Stmt := inCls (top 27) 8
abbrev N_Kind_name : List Str := ["self"]
abbrev s_Kind_set_fields : Stmt := inCls (top 27) 9
abbrev N_Kind_set_fields : List Str := ["self"]
abbrev s_Kind_fixed_fields : Stmt := inCls (top 27) 10
abbrev N_Kind_fixed_fields : List Str := ["self"]
abbrev s_Kind_fresh_answers : Stmt := inCls (top 27) 11
abbrev N_Kind_fresh_answers : List Str := ["self"]
abbrev s_Kind_free_answers : Stmt := inCls (top 27) 12
abbrev N_Kind_free_answers : List Str := ["self"]
abbrev s_Kind_unique_fields : Stmt := inCls (top 27) 13
abbrev N_Kind_unique_fields : List Str := ["self"]
abbrev s_Kind_held : Stmt := inCls (top 27) 14
abbrev N_Kind_held : List Str := ["self"]
abbrev s_Kind_single : Stmt := inCls (top 27) 15
abbrev N_Kind_single : List Str := ["self"]
abbrev s_Kind_token : Stmt := inCls (top 27) 16
abbrev N_Kind_token : List Str := ["self"]
abbrev s_Kind_guarded : Stmt := inCls (top 27) 17
abbrev N_Kind_guarded : List Str := ["self"]
abbrev s_Kinds___init__ : Stmt := inCls (top 28) 0
abbrev N_Kinds___init__ : List Str := ["self", "text", "found"]
abbrev s_Kinds_names : Stmt := inCls (top 28) 1
abbrev N_Kinds_names : List Str := ["self"]
abbrev s_Kinds___getitem__ : Stmt := inCls (top 28) 2
abbrev N_Kinds___getitem__ : List Str := ["self", "name"]
abbrev s_Kinds___contains__ : Stmt := inCls (top 28) 4
abbrev N_Kinds___contains__ : List Str := ["self", "name"]
abbrev s_Kinds___len__ : Stmt := inCls (top 28) 5
abbrev N_Kinds___len__ : List Str := ["self"]
abbrev s_Kinds___eq__ : Stmt := inCls (top 28) 6
abbrev N_Kinds___eq__ : List Str := ["self", "other"]
abbrev s_part_in : Stmt := top 29
abbrev N_part_in : List Str := ["line", "words"]
abbrev s_kind_in : Stmt := top 30
abbrev N_kind_in : List Str := ["line", "words", "is_right"]
abbrev s_takes_line : Stmt := top 31
abbrev N_takes_line : List Str := ["found", "line", "name", "part", "last"]
abbrev s_read_kinds : Stmt := top 32
abbrev N_read_kinds : List Str := ["text", "found", "index", "line"]
abbrev s_show_kinds : Stmt := top 33
abbrev N_show_kinds : List Str := ["kinds"]
abbrev s__law_pot : Stmt := top 35
abbrev N__law_pot : List Str := ["_law_script", "_law_k", "_law_cell", "_law_great"]
abbrev s__law_take : Stmt := top 36
abbrev N__law_take : List Str := ["_law_pot_here", "_law_size", "_law_prime", "_law_mixed", "_law_digit"]
abbrev s__law_pick : Stmt := top 37
abbrev N__law_pick : List Str := ["_law_pot_here", "_law_some"]
abbrev s__law_kind_lines : Stmt := top 38
abbrev N__law_kind_lines : List Str := ["_law_pot_here", "_law_name", "_law_left", "_law_found", "_law_fields_here", "_law_turn", "_law_more", "_law_line"]
abbrev s__law_kinds_lines : Stmt := top 39
abbrev N__law_kinds_lines : List Str := ["_law_pot_here", "_law_left", "_law_found", "_law_turn"]
abbrev s__law_kinds_text : Stmt := top 40
abbrev N__law_kinds_text : List Str := ["_law_lines", "_law_line"]
abbrev s__law_unknown : Stmt := top 41
abbrev N__law_unknown : List Str := ["_law_call", "_law_caught", "_law_is_alone", "error"]
abbrev s__law_named : Stmt := top 42
abbrev N__law_named : List Str := ["_law_lines", "_law_word", "_law_line"]
abbrev s__law_is_kind : Stmt := top 43
abbrev N__law_is_kind : List Str := ["_law_one", "_law_lines", "_law_marks", "_law_word"]
abbrev s__law_is_right : Stmt := top 44
abbrev N__law_is_right : List Str := ["_law_made", "_law_lines", "_law_begins", "_law_due", "_law_at", "_law_to", "_law_thing", "_law_name", "_law_line"]
abbrev s__law_right : Stmt := top 45
abbrev N__law_right : List Str := ["_law_pot_here", "_law_some", "_law_turn", "_law_one", "_law_text", "_law_lines", "_law_made", "_law_other", "_law_its", "_law_thing"]
abbrev s__law_document : Stmt := top 46
abbrev N__law_document : List Str := ["_law_lines"]
abbrev s_law : Stmt := top 47
abbrev N_law : List Str := ["_law_script", "_law_k"]
/-- a def of the text as it stands behind the top -/
structure Fn (K : PySem.W.Frag) (mg : Str → Option Value) (x : Str) (st : Stmt) (ps : List Str) where
  f : Addr
  fd : FuncData
  fu : Fun K x x st f fd
  mgx : mg x = some (.ref f)
  bd : Binds K fd ps []
structure FnM (K : PySem.W.Frag) (x qual : Str) (st : Stmt) (ps : List Str) where
  f : Addr
  fd : FuncData
  fu : Fun K x qual st f fd
  bd : Binds K fd ps []
structure FnW (K : PySem.W.Frag) (x qual : Str) (st : Stmt) where
  f : Addr
  oc : Value
  od : Option Addr
  kV : Value
  doc : Value
  pm : Value
  an : Option Addr
  cdv : Value
  ct : Value
  osl : Array (Option Value)
  lk : K.lookup f = some ⟨oc, od, .func (PySem.W.fnOf x qual (defArgs st) (defBody st) (defScope st) .none kV doc pm an cdv ct), osl⟩
  cd : PySem.W.codeIn K cdv qual = true
structure Tx (P : Program) (K : PySem.W.Frag) (mg : Str → Option Value) (base : Heap) where
  C_LaterError : Addr
  g_LaterError : mg "LaterError" = some (.ref C_LaterError)
  C_NoField : Addr
  g_NoField : mg "NoField" = some (.ref C_NoField)
  C_BadKinds : Addr
  g_BadKinds : mg "BadKinds" = some (.ref C_BadKinds)
  C_NoKind : Addr
  g_NoKind : mg "NoKind" = some (.ref C_NoKind)
  fi_BadKinds : Addr
  xv_BadKinds : PySem.XvX.XvT P K mg "BadKinds" C_BadKinds fi_BadKinds
  fi_NoKind : Addr
  xv_NoKind : PySem.XvX.XvT P K mg "NoKind" C_NoKind fi_NoKind
  xc_NoKind : XcF K mg "NoKind" C_NoKind
  nx_NoKind_value : PySem.W.findIn K (.ref C_NoKind) "value" = some none
  C_Kind : Addr
  g_Kind : mg "Kind" = some (.ref C_Kind)
  cf_Kind : ClF K mg "Kind" C_Kind
  na_Kind_held_name : NoAttr K C_Kind "held_name"
  na_Kind_held_parts : NoAttr K C_Kind "held_parts"
  C_Kinds : Addr
  g_Kinds : mg "Kinds" = some (.ref C_Kinds)
  cf_Kinds : ClF K mg "Kinds" C_Kinds
  na_Kinds_held_kinds : NoAttr K C_Kinds "held_kinds"
  na_Kinds_own_text : NoAttr K C_Kinds "own_text"
  em_LaterError_NoKind : PySem.W.exmOne K (.ref C_NoKind) (.ref C_LaterError) = some true
  kt_Kinds_Kinds : PySem.W.kitOne K (.ref C_Kinds) (.ref C_Kinds) = some true
  kt_Kinds_bool : PySem.W.kitOne K (.type "bool") (.ref C_Kinds) = some false
  kt_Kinds_int : PySem.W.kitOne K (.type "int") (.ref C_Kinds) = some false
  kt_Kinds_NoneType : PySem.W.kitOne K (.type "NoneType") (.ref C_Kinds) = some false
  kt_Kinds_tuple : PySem.W.kitOne K (.type "tuple") (.ref C_Kinds) = some false
  kt_Kinds_str : PySem.W.kitOne K (.type "str") (.ref C_Kinds) = some false
  kt_NoKind_NoKind : PySem.W.kitOne K (.ref C_NoKind) (.ref C_NoKind) = some true
  kt_BadKinds_NoField_NoKind : PySem.W.kitAny K (.ref C_NoKind) [.ref C_BadKinds, .ref C_NoField] = some false
  is_name : Fn K mg "is_name" s_is_name ["value"]
  is_free_name : Fn K mg "is_free_name" s_is_free_name ["value"]
  Kind___init__ : FnM K "__init__" "Kind.__init__" s_Kind___init__ ["self", "name"]
  mk_Kind : Mk K C_Kind Kind___init__.f
  Kind_named : FnM K "named" "Kind.named" s_Kind_named ["self", "word"]
  me_Kind_named : Meth K C_Kind "named" Kind_named.f
  Kind_has_mark : FnM K "has_mark" "Kind.has_mark" s_Kind_has_mark ["self", "word"]
  me_Kind_has_mark : Meth K C_Kind "has_mark" Kind_has_mark.f
  Kind_all_names : FnM K "all_names" "Kind.all_names" s_Kind_all_names ["self"]
  me_Kind_all_names : Meth K C_Kind "all_names" Kind_all_names.f
  Kind_takes : FnM K "takes" "Kind.takes" s_Kind_takes ["self", "word", "name"]
  me_Kind_takes : Meth K C_Kind "takes" Kind_takes.f
  Kind_has_room : FnM K "has_room" "Kind.has_room" s_Kind_has_room ["self", "word"]
  me_Kind_has_room : Meth K C_Kind "has_room" Kind_has_room.f
  Kind_name : FnM K "name" "Kind.name" s_Kind_name ["self"]
  pp_Kind_name : Addr
  po_Kind_name : PropOf K C_Kind "name" pp_Kind_name Kind_name.f
  Kind_set_fields : FnM K "set_fields" "Kind.set_fields" s_Kind_set_fields ["self"]
  pp_Kind_set_fields : Addr
  po_Kind_set_fields : PropOf K C_Kind "set_fields" pp_Kind_set_fields Kind_set_fields.f
  Kind_fixed_fields : FnM K "fixed_fields" "Kind.fixed_fields" s_Kind_fixed_fields ["self"]
  pp_Kind_fixed_fields : Addr
  po_Kind_fixed_fields : PropOf K C_Kind "fixed_fields" pp_Kind_fixed_fields Kind_fixed_fields.f
  Kind_fresh_answers : FnM K "fresh_answers" "Kind.fresh_answers" s_Kind_fresh_answers ["self"]
  pp_Kind_fresh_answers : Addr
  po_Kind_fresh_answers : PropOf K C_Kind "fresh_answers" pp_Kind_fresh_answers Kind_fresh_answers.f
  Kind_free_answers : FnM K "free_answers" "Kind.free_answers" s_Kind_free_answers ["self"]
  pp_Kind_free_answers : Addr
  po_Kind_free_answers : PropOf K C_Kind "free_answers" pp_Kind_free_answers Kind_free_answers.f
  Kind_unique_fields : FnM K "unique_fields" "Kind.unique_fields" s_Kind_unique_fields ["self"]
  pp_Kind_unique_fields : Addr
  po_Kind_unique_fields : PropOf K C_Kind "unique_fields" pp_Kind_unique_fields Kind_unique_fields.f
  Kind_held : FnM K "held" "Kind.held" s_Kind_held ["self"]
  pp_Kind_held : Addr
  po_Kind_held : PropOf K C_Kind "held" pp_Kind_held Kind_held.f
  Kind_single : FnM K "single" "Kind.single" s_Kind_single ["self"]
  pp_Kind_single : Addr
  po_Kind_single : PropOf K C_Kind "single" pp_Kind_single Kind_single.f
  Kind_token : FnM K "token" "Kind.token" s_Kind_token ["self"]
  pp_Kind_token : Addr
  po_Kind_token : PropOf K C_Kind "token" pp_Kind_token Kind_token.f
  Kind_guarded : FnM K "guarded" "Kind.guarded" s_Kind_guarded ["self"]
  pp_Kind_guarded : Addr
  po_Kind_guarded : PropOf K C_Kind "guarded" pp_Kind_guarded Kind_guarded.f
  Kinds___init__ : FnM K "__init__" "Kinds.__init__" s_Kinds___init__ ["self", "text", "found"]
  mk_Kinds : Mk K C_Kinds Kinds___init__.f
  Kinds_names : FnM K "names" "Kinds.names" s_Kinds_names ["self"]
  pp_Kinds_names : Addr
  po_Kinds_names : PropOf K C_Kinds "names" pp_Kinds_names Kinds_names.f
  Kinds___getitem__ : FnM K "__getitem__" "Kinds.__getitem__" s_Kinds___getitem__ ["self", "name"]
  me_Kinds___getitem__ : Meth K C_Kinds "__getitem__" Kinds___getitem__.f
  fn_Kinds___getitem__ : PySem.W.fnIn K Kinds___getitem__.f = true
  Kinds___contains__ : FnM K "__contains__" "Kinds.__contains__" s_Kinds___contains__ ["self", "name"]
  me_Kinds___contains__ : Meth K C_Kinds "__contains__" Kinds___contains__.f
  Kinds___len__ : FnM K "__len__" "Kinds.__len__" s_Kinds___len__ ["self"]
  me_Kinds___len__ : Meth K C_Kinds "__len__" Kinds___len__.f
  Kinds___eq__ : FnM K "__eq__" "Kinds.__eq__" s_Kinds___eq__ ["self", "other"]
  me_Kinds___eq__ : Meth K C_Kinds "__eq__" Kinds___eq__.f
  nf_Kinds___eq__ : ∀ n ∈ (["str", "tuple", "NoneType", "int", "bool"] : List String), PySem.W.notFirst K C_Kinds (.type n) = true
  ne_Kinds : PySem.W.findIn K (.ref C_Kinds) "__ne__" = some (some (.builtin "object.__ne__"))
  mr_Kinds : PySem.W.mroIn K C_Kinds (.type "object") = some true
  part_in : Fn K mg "part_in" s_part_in ["line"]
  kind_in : Fn K mg "kind_in" s_kind_in ["line"]
  takes_line : Fn K mg "takes_line" s_takes_line ["found", "line"]
  read_kinds : Fn K mg "read_kinds" s_read_kinds ["text"]
  show_kinds : Fn K mg "show_kinds" s_show_kinds ["kinds"]
  _law_pot : Fn K mg "_law_pot" s__law_pot ["_law_script", "_law_k"]
  _law_take : Fn K mg "_law_take" s__law_take ["_law_pot_here", "_law_size"]
  _law_pick : Fn K mg "_law_pick" s__law_pick ["_law_pot_here", "_law_some"]
  _law_kind_lines : Fn K mg "_law_kind_lines" s__law_kind_lines ["_law_pot_here", "_law_name"]
  _law_kinds_lines : Fn K mg "_law_kinds_lines" s__law_kinds_lines ["_law_pot_here"]
  _law_kinds_text : Fn K mg "_law_kinds_text" s__law_kinds_text ["_law_lines"]
  _law_unknown : Fn K mg "_law_unknown" s__law_unknown ["_law_call"]
  _law_named : Fn K mg "_law_named" s__law_named ["_law_lines", "_law_word"]
  _law_is_kind : Fn K mg "_law_is_kind" s__law_is_kind ["_law_one", "_law_lines"]
  _law_is_right : Fn K mg "_law_is_right" s__law_is_right ["_law_made", "_law_lines"]
  cc__law_is_right : Addr
  P__law_is_right : Addr
  co__law_is_right : CodeAt K _law_is_right.f cc__law_is_right
  tb__law_is_right : LamX.TabB base mg cc__law_is_right P__law_is_right
  ti__law_is_right : (PySem.W.tabIn K "_law_is_right").map (·.2) = some P__law_is_right
  _law_right : Fn K mg "_law_right" s__law_right ["_law_pot_here"]
  _law_document : Fn K mg "_law_document" s__law_document []
  law : Fn K mg "law" s_law ["_law_script"]
  a_ANSWERS : Addr
  c_ANSWERS : mg "ANSWERS" = some (.ref a_ANSWERS)
  k_ANSWERS : TupC K a_ANSWERS ["fresh", "free"]
  a_FIELDS : Addr
  c_FIELDS : mg "FIELDS" = some (.ref a_FIELDS)
  k_FIELDS : TupC K a_FIELDS ["set", "fixed"]
  t_FIXED : Tok
  c_FIXED : mg "FIXED" = some (.str "fixed" t_FIXED)
  t_FREE : Tok
  c_FREE : mg "FREE" = some (.str "free" t_FREE)
  t_FRESH : Tok
  c_FRESH : mg "FRESH" = some (.str "fresh" t_FRESH)
  t_INDENT : Tok
  c_INDENT : mg "INDENT" = some (.str "  " t_INDENT)
  t_KIND : Tok
  c_KIND : mg "KIND" = some (.str "kind" t_KIND)
  t_LETTERS : Tok
  c_LETTERS : mg "LETTERS" = some (.str "abcdefghijklmnopqrstuvwxyz" t_LETTERS)
  a_MARKS : Addr
  c_MARKS : mg "MARKS" = some (.ref a_MARKS)
  k_MARKS : TupC K a_MARKS ["held", "single", "token", "guarded"]
  t_MOST_ANSWERS : Tok
  c_MOST_ANSWERS : mg "MOST_ANSWERS" = some (.int 2 t_MOST_ANSWERS)
  t_MOST_FIELDS : Tok
  c_MOST_FIELDS : mg "MOST_FIELDS" = some (.int 6 t_MOST_FIELDS)
  t_MOST_KINDS : Tok
  c_MOST_KINDS : mg "MOST_KINDS" = some (.int 8 t_MOST_KINDS)
  t_MOST_NAME : Tok
  c_MOST_NAME : mg "MOST_NAME" = some (.int 12 t_MOST_NAME)
  t_PAIR : Tok
  c_PAIR : mg "PAIR" = some (.int 2 t_PAIR)
  a_RESERVED : Addr
  c_RESERVED : mg "RESERVED" = some (.ref a_RESERVED)
  k_RESERVED : TupC K a_RESERVED ["if", "then", "else", "and", "or", "not", "in", "len", "true", "false", "index", "each", "own", "count", "use", "module", "input", "output", "let", "resource", "deny", "kind", "answers", "left", "row", "self"]
  t_SET : Tok
  c_SET : mg "SET" = some (.str "set" t_SET)
  t_UNIQUE : Tok
  c_UNIQUE : mg "UNIQUE" = some (.str "unique" t_UNIQUE)
  z_abs : mg "abs" = none
  z_all : mg "all" = none
  z_any : mg "any" = none
  z_enumerate : mg "enumerate" = none
  z_isinstance : mg "isinstance" = none
  z_len : mg "len" = none
  z_list : mg "list" = none
  z_max : mg "max" = none
  z_min : mg "min" = none
  z_property : mg "property" = none
  z_range : mg "range" = none
  z_repr : mg "repr" = none
  z_str : mg "str" = none
  z_tuple : mg "tuple" = none
  z_zip : mg "zip" = none
noncomputable def b_is_name : SM := (sRet (mAnd (mUn (isiD "str") (mVar 0)) (mAnd (mChain opLe opLe (mC (.int 1)) (mCb cbLen (mCons (mVar 0) mNil)) (mC (.int 12))) (mCb cbAll (mCons (mLc (itS (mVar 0)) (tgN 1) bYes (mOp opIn (mVar 1) (mC (.str "abcdefghijklmnopqrstuvwxyz"))) [1]) mNil)))))
noncomputable def F_is_name : FT := mFun 2 1 b_is_name
noncomputable def b_is_free_name : SM := (sRet (mAnd (mCall F_is_name (mCons (mVar 0) mNil)) (mOp opNotIn (mVar 0) (mC (.tup ((["if", "then", "else", "and", "or", "not", "in", "len", "true", "false", "index", "each", "own", "count", "use", "module", "input", "output", "let", "resource", "deny", "kind", "answers", "left", "row", "self"] : List Str).map .str))))))
noncomputable def F_is_free_name : FT := mFun 1 1 b_is_free_name
noncomputable def b_Kind___init__ : SM := (sSeq (sSetF "Kind" "held_name" (mVar 1) (mVar 0))
    (sSetF "Kind" "held_parts" (mLstR mNil) (mVar 0)))
noncomputable def F_Kind___init__ : FT := mFun 2 2 b_Kind___init__
noncomputable def b_Kind_named : SM := (sRet (mCb cbTuple (mCons (mLc (itL (mUn (fldD "Kind" "held_parts") (mVar 0))) (tgT 2 (tgCons (tgN 2) (tgCons (tgN 3) tgNil))) (mB (mOp opEq (mVar 2) (mVar 1))) (mVar 3) [2, 3]) mNil)))
noncomputable def F_Kind_named : FT := mFun 4 2 b_Kind_named
noncomputable def b_Kind_has_mark : SM := (sRet (mOp opIn (mTup (mCons (mVar 1) (mCons (mC .non) mNil))) (mUn (fldD "Kind" "held_parts") (mVar 0))))
noncomputable def F_Kind_has_mark : FT := mFun 2 2 b_Kind_has_mark
noncomputable def b_Kind_all_names : SM := (sRet (mLc (itL (mUn (fldD "Kind" "held_parts") (mVar 0))) (tgT 2 (tgCons (tgN 1) (tgCons (tgN 2) tgNil))) (mB (mOp opIn (mVar 1) (mOp opAdd (mC (.tup ((["set", "fixed"] : List Str).map .str))) (mC (.tup ((["fresh", "free"] : List Str).map .str)))))) (mVar 2) [1, 2]))
noncomputable def F_Kind_all_names : FT := mFun 3 1 b_Kind_all_names
noncomputable def b_Kind_has_room : SM := (sSeq (sAsg (mIf (mB (mOp opIn (mVar 1) (mC (.tup ((["set", "fixed"] : List Str).map .str))))) (mTup (mCons (mC (.tup ((["set", "fixed"] : List Str).map .str))) (mCons (mC (.int 6)) mNil))) (mTup (mCons (mC (.tup ((["fresh", "free"] : List Str).map .str))) (mCons (mC (.int 2)) mNil)))) (tgT 2 (tgCons (tgN 2) (tgCons (tgN 3) tgNil))))
    (sRet (mOp opLt (mCb cbLen (mCons (mLc (itL (mUn (fldD "Kind" "held_parts") (mVar 0))) (tgT 2 (tgCons (tgN 4) (tgCons (tgN 5) tgNil))) (mB (mOp opIn (mVar 4) (mVar 2))) (mVar 4) [4, 5]) mNil)) (mVar 3))))
noncomputable def F_Kind_has_room : FT := mFun 6 2 b_Kind_has_room
noncomputable def b_Kind_takes : SM := (sSeq (sIf (mB (mOp opIn (mTup (mCons (mVar 1) (mCons (mVar 2) mNil))) (mUn (fldD "Kind" "held_parts") (mVar 0)))) (sRet (mC (.bl false))) sNil)
    (sSeq (sIf (bAnd (mB (mOp opEq (mVar 1) (mC (.str "unique")))) (bAnd (mB (mOp opNotIn (mTup (mCons (mC (.str "set")) (mCons (mVar 2) mNil))) (mUn (fldD "Kind" "held_parts") (mVar 0)))) (mB (mOp opNotIn (mTup (mCons (mC (.str "fixed")) (mCons (mVar 2) mNil))) (mUn (fldD "Kind" "held_parts") (mVar 0)))))) (sRet (mC (.bl false))) sNil)
    (sSeq (sIf (bAnd (mB (mOp opIn (mVar 1) (mOp opAdd (mC (.tup ((["set", "fixed"] : List Str).map .str))) (mC (.tup ((["fresh", "free"] : List Str).map .str)))))) (bOr (mB (mOp opIn (mVar 2) (mMethX "Kind" "all_names" (qF F_Kind_all_names) (mVar 0) mNil))) (bNot (mTru (mMethX "Kind" "has_room" (qF F_Kind_has_room) (mVar 0) (mCons (mVar 1) mNil)))))) (sRet (mC (.bl false))) sNil)
    (sSeq (sExp (mLm lmAppend (mUn (fldD "Kind" "held_parts") (mVar 0)) (mCons (mTup (mCons (mVar 1) (mCons (mVar 2) mNil))) mNil)))
    (sRet (mC (.bl true)))))))
noncomputable def F_Kind_takes : FT := mFun 3 3 b_Kind_takes
noncomputable def b_Kind_name : SM := (sRet (mUn (fldD "Kind" "held_name") (mVar 0)))
noncomputable def F_Kind_name : FT := mFun 1 1 b_Kind_name
noncomputable def b_Kind_set_fields : SM := (sRet (mMethX "Kind" "named" (qF F_Kind_named) (mVar 0) (mCons (mC (.str "set")) mNil)))
noncomputable def F_Kind_set_fields : FT := mFun 1 1 b_Kind_set_fields
noncomputable def b_Kind_fixed_fields : SM := (sRet (mMethX "Kind" "named" (qF F_Kind_named) (mVar 0) (mCons (mC (.str "fixed")) mNil)))
noncomputable def F_Kind_fixed_fields : FT := mFun 1 1 b_Kind_fixed_fields
noncomputable def b_Kind_fresh_answers : SM := (sRet (mMethX "Kind" "named" (qF F_Kind_named) (mVar 0) (mCons (mC (.str "fresh")) mNil)))
noncomputable def F_Kind_fresh_answers : FT := mFun 1 1 b_Kind_fresh_answers
noncomputable def b_Kind_free_answers : SM := (sRet (mMethX "Kind" "named" (qF F_Kind_named) (mVar 0) (mCons (mC (.str "free")) mNil)))
noncomputable def F_Kind_free_answers : FT := mFun 1 1 b_Kind_free_answers
noncomputable def b_Kind_unique_fields : SM := (sRet (mMethX "Kind" "named" (qF F_Kind_named) (mVar 0) (mCons (mC (.str "unique")) mNil)))
noncomputable def F_Kind_unique_fields : FT := mFun 1 1 b_Kind_unique_fields
noncomputable def b_Kind_held : SM := (sRet (mMethX "Kind" "has_mark" (qF F_Kind_has_mark) (mVar 0) (mCons (mC (.str "held")) mNil)))
noncomputable def F_Kind_held : FT := mFun 1 1 b_Kind_held
noncomputable def b_Kind_single : SM := (sRet (mMethX "Kind" "has_mark" (qF F_Kind_has_mark) (mVar 0) (mCons (mC (.str "single")) mNil)))
noncomputable def F_Kind_single : FT := mFun 1 1 b_Kind_single
noncomputable def b_Kind_token : SM := (sRet (mMethX "Kind" "has_mark" (qF F_Kind_has_mark) (mVar 0) (mCons (mC (.str "token")) mNil)))
noncomputable def F_Kind_token : FT := mFun 1 1 b_Kind_token
noncomputable def b_Kind_guarded : SM := (sRet (mMethX "Kind" "has_mark" (qF F_Kind_has_mark) (mVar 0) (mCons (mC (.str "guarded")) mNil)))
noncomputable def F_Kind_guarded : FT := mFun 1 1 b_Kind_guarded
noncomputable def b_Kinds___init__ : SM := (sSeq (sSetF "Kinds" "own_text" (mVar 1) (mVar 0))
    (sSetF "Kinds" "held_kinds" (mVar 2) (mVar 0)))
noncomputable def F_Kinds___init__ : FT := mFun 3 3 b_Kinds___init__
noncomputable def b_Kinds_names : SM := (sRet (mCb cbTupleR (mCons (mUn (fldD "Kinds" "held_kinds") (mVar 0)) mNil)))
noncomputable def F_Kinds_names : FT := mFun 1 1 b_Kinds_names
noncomputable def b_Kinds___getitem__ : SM := (sSeq (sIf (bOr (bNot (mTru (mUn (isiD "str") (mVar 1)))) (mB (mOp opNotInR (mVar 1) (mUn (fldD "Kinds" "held_kinds") (mVar 0))))) (sRaise "NoKind" (mVar 1)) sNil)
    (sRet (mOp opGetR (mUn (fldD "Kinds" "held_kinds") (mVar 0)) (mVar 1))))
noncomputable def F_Kinds___getitem__ : FT := mFun 2 2 b_Kinds___getitem__
noncomputable def b_Kinds___contains__ : SM := (sRet (mAnd (mUn (isiD "str") (mVar 1)) (mOp opInR (mVar 1) (mUn (fldD "Kinds" "held_kinds") (mVar 0)))))
noncomputable def F_Kinds___contains__ : FT := mFun 2 2 b_Kinds___contains__
noncomputable def b_Kinds___len__ : SM := (sRet (mCb cbLenR (mCons (mUn (fldD "Kinds" "held_kinds") (mVar 0)) mNil)))
noncomputable def F_Kinds___len__ : FT := mFun 1 1 b_Kinds___len__
noncomputable def b_Kinds___eq__ : SM := (sRet (mAnd (mUn (isiV [] [("Kinds", true)] [("str", false), ("tuple", false), ("NoneType", false), ("int", false), ("bool", false)]) (mVar 1)) (mOp opEq (mUn (fldD "Kinds" "own_text") (mVar 0)) (mUn (fldD "Kinds" "own_text") (mVar 1)))))
noncomputable def F_Kinds___eq__ : FT := mFun 2 2 b_Kinds___eq__
noncomputable def b_part_in : SM := (sSeq (sIf (bNot (mTru (mMb mbStarts (mStr (mVar 0)) (mCons (mC (.str "  ")) mNil)))) (sRet (mC .non)) sNil)
    (sSeq (sAsg (mMb mbSplit (mStr (mSl slD (mVar 0) (mPart (mCb cbLen (mCons (mC (.str "  ")) mNil))) mNoPart)) (mCons (mC (.str " ")) mNil)) (tgN 1))
    (sSeq (sIf (bAnd (mB (mOp opEq (mCb cbLen (mCons (mVar 1) mNil)) (mC (.int 1)))) (mB (mOp opIn (mOp opIx (mVar 1) (mC (.int 0))) (mC (.tup ((["held", "single", "token", "guarded"] : List Str).map .str)))))) (sRet (mTup (mCons (mOp opIx (mVar 1) (mC (.int 0))) (mCons (mC .non) mNil)))) sNil)
    (sSeq (sIf (bAnd (mB (mOp opEq (mCb cbLen (mCons (mVar 1) mNil)) (mC (.int 2)))) (bAnd (mB (mOp opIn (mOp opIx (mVar 1) (mC (.int 0))) (mOp opAdd (mOp opAdd (mC (.tup ((["set", "fixed"] : List Str).map .str))) (mC (.tup ((["fresh", "free"] : List Str).map .str)))) (mTup (mCons (mC (.str "unique")) mNil))))) (mTru (mCall F_is_free_name (mCons (mOp opIx (mVar 1) (mC (.int 1))) mNil))))) (sRet (mTup (mCons (mOp opIx (mVar 1) (mC (.int 0))) (mCons (mOp opIx (mVar 1) (mC (.int 1))) mNil)))) sNil)
    (sRet (mC .non))))))
noncomputable def F_part_in : FT := mFun 2 1 b_part_in
noncomputable def b_kind_in : SM := (sSeq (sAsg (mMb mbSplit (mStr (mVar 0)) (mCons (mC (.str " ")) mNil)) (tgN 1))
    (sSeq (sAsg (mAnd (mOp opEq (mCb cbLen (mCons (mVar 1) mNil)) (mC (.int 2))) (mAnd (mOp opEq (mOp opIx (mVar 1) (mC (.int 0))) (mC (.str "kind"))) (mCall F_is_free_name (mCons (mOp opIx (mVar 1) (mC (.int 1))) mNil)))) (tgN 2))
    (sRet (mIf (mTru (mVar 2)) (mOp opIx (mVar 1) (mC (.int 1))) (mC .non)))))
noncomputable def F_kind_in : FT := mFun 3 1 b_kind_in
noncomputable def b_takes_line : SM := (sSeq (sPar 2 3 (mCons (mCall F_kind_in (mCons (mVar 1) mNil)) (mCons (mCall F_part_in (mCons (mVar 1) mNil)) mNil)))
    (sSeq (sIf (mB (mOp opIsNot (mVar 2) (mC .non))) (sSeq (sIf (bOr (mB (mOp opInR (mVar 2) (mVar 0))) (mB (mOp opEq (mCb cbLenR (mCons (mVar 0) mNil)) (mC (.int 8))))) (sRet (mC (.bl false))) sNil)
    (sSeq (sPutR (mMkP "Kind" (qF F_Kind___init__) (mCons (mVar 2) mNil)) (mVar 0) (mVar 2))
    (sRet (mC (.bl true))))) sNil)
    (sSeq (sIf (bOr (mB (mOp opIs (mVar 3) (mC .non))) (mB (mOp opEqE (mVar 0) mDic0))) (sRet (mC (.bl false))) sNil)
    (sSeq (sAsg (mOp opIx (mCb cbListR (mCons (mVar 0) mNil)) (mUn unNeg (mC (.int 1)))) (tgN 4))
    (sRet (mMethX "Kind" "takes" (qF F_Kind_takes) (mOp opGetR (mVar 0) (mVar 4)) (mCons (mOp opIx (mVar 3) (mC (.int 0))) (mCons (mOp opIx (mVar 3) (mC (.int 1))) mNil))))))))
noncomputable def F_takes_line : FT := mFun 5 2 b_takes_line
noncomputable def b_read_kinds : SM := (sSeq (sIf (bNot (mTru (mUn (isiD "str") (mVar 0)))) (sRaise "BadKinds" (mC (.int 0))) sNil)
    (sSeq (sAsg mDicR (tgN 1))
    (sSeq (sFor (itE (mCons (mMb mbSplit (mStr (mVar 0)) (mCons (mC (.str "\n")) mNil)) mNil)) (tgT 2 (tgCons (tgN 2) (tgCons (tgN 3) tgNil))) (sIf (bNot (mTru (mCall F_takes_line (mCons (mVar 1) (mCons (mVar 3) mNil))))) (sRaise "BadKinds" (mVar 2)) sNil))
    (sRet (mMkP "Kinds" (qF F_Kinds___init__) (mCons (mVar 0) (mCons (mVar 1) mNil)))))))
noncomputable def F_read_kinds : FT := mFun 4 1 b_read_kinds
noncomputable def b_show_kinds : SM := (sRet (mUn (fldD "Kinds" "own_text") (mVar 0)))
noncomputable def F_show_kinds : FT := mFun 1 1 b_show_kinds
noncomputable def b__law_pot : SM := (sSeq (sAsg (mIf (mB (mOp opLt (mVar 1) (mCb cbLen (mCons (mVar 0) mNil)))) (mOp opIx (mVar 0) (mVar 1)) (mOp opAdd (mOp opMul (mC (.int 17)) (mVar 1)) (mC (.int 3)))) (tgN 2))
    (sSeq (sAsg (mIf (mB (mOp opGe (mCb cbAbs (mCons (mVar 2) mNil)) (mOp opPow (mC (.int 10)) (mC (.int 18))))) (mOp opMod (mCb cbAbs (mCons (mVar 2) mNil)) (mOp opPow (mOp opPow (mC (.int 10)) (mC (.int 60))) (mC (.int 3)))) (mC (.int 0))) (tgN 3))
    (sRet (mLstR (mCons (mVar 3) (mCons (mOp opMod (mOp opAdd (mOp opAdd (mOp opMul (mOp opMod (mVar 2) (mC (.int 2305843009213693951))) (mC (.int 69621))) (mOp opMul (mOp opMul (mC (.int 104729)) (mVar 1)) (mVar 1))) (mC (.int 71))) (mC (.int 2305843009213693921))) (mCons (mC (.int 0)) mNil)))))))
noncomputable def F__law_pot : FT := mFun 4 2 b__law_pot
noncomputable def b__law_take : SM := (sSeq (sIf (mB (mOp opGt (mOp opIx (mVar 0) (mC (.int 0))) (mC (.int 0)))) (sSeq (sAsg (mOp opMod (mOp opIx (mVar 0) (mC (.int 0))) (mVar 1)) (tgN 4))
    (sSeq (sSetIx (mOp opDiv (mOp opIx (mVar 0) (mC (.int 0))) (mVar 1)) (mVar 0) (mC (.int 0)))
    (sRet (mVar 4)))) sNil)
    (sSeq (sSetIx (mOp opAdd (mOp opIx (mVar 0) (mC (.int 2))) (mC (.int 1))) (mVar 0) (mC (.int 2)))
    (sSeq (sAsg (mOp opIx (mLst (mCons (mC (.int 2147483647)) (mCons (mC (.int 2147483629)) (mCons (mC (.int 2147483587)) (mCons (mC (.int 2147483579)) (mCons (mC (.int 2147483563)) mNil)))))) (mOp opMod (mOp opIx (mVar 0) (mC (.int 2))) (mC (.int 5)))) (tgN 2))
    (sSeq (sAsg (mOp opMod (mOp opPow (mOp opAdd (mOp opAdd (mOp opIx (mVar 0) (mC (.int 1))) (mOp opMul (mOp opMul (mC (.int 40009)) (mOp opIx (mVar 0) (mC (.int 2)))) (mOp opIx (mVar 0) (mC (.int 2))))) (mC (.int 31))) (mC (.int 3))) (mVar 2)) (tgN 3))
    (sRet (mOp opMod (mOp opDiv (mOp opMod (mOp opMul (mVar 3) (mOp opAdd (mOp opMod (mVar 3) (mC (.int 10009))) (mOp opMul (mC (.int 89)) (mOp opIx (mVar 0) (mC (.int 2)))))) (mC (.int 2305843009213693907))) (mC (.int 89))) (mVar 1)))))))
noncomputable def F__law_take : FT := mFun 5 2 b__law_take
noncomputable def b__law_pick : SM := (sRet (mOp opIx (mVar 1) (mCall F__law_take (mCons (mVar 0) (mCons (mCb cbLen (mCons (mVar 1) mNil)) mNil)))))
noncomputable def F__law_pick : FT := mFun 2 2 b__law_pick
noncomputable def b__law_kind_lines : SM := (sSeq (sAsg (mLstR (mCons (mC (.str "a")) (mCons (mC (.str "b")) (mCons (mC (.str "size")) (mCons (mC (.str "net")) (mCons (mC (.str "label")) (mCons (mC (.str "zone")) (mCons (mC (.str "id")) (mCons (mC (.str "range")) (mCons (mC (.str "abcdefghijkl")) (mCons (mC (.str "x")) mNil))))))))))) (tgN 2))
    (sSeq (sPar 3 4 (mCons (mLstR mNil) (mCons (mLstR mNil) mNil)))
    (sSeq (sFor (itR1 (mCons (mCall F__law_take (mCons (mVar 0) (mCons (mC (.int 7)) mNil))) mNil)) (tgN 5) (sSeq (sExp (mLm lmAppend (mVar 4) (mCons (mLm lmPop (mVar 2) (mCons (mCall F__law_take (mCons (mVar 0) (mCons (mCb cbLen (mCons (mVar 2) mNil)) mNil))) mNil)) mNil)))
    (sSeq (sExp (mLm lmAppend (mVar 3) (mCons (mTup (mCons (mCall F__law_pick (mCons (mVar 0) (mCons (mLst (mCons (mC (.str "set")) (mCons (mC (.str "set")) (mCons (mC (.str "fixed")) mNil)))) mNil))) (mCons (mOp opIx (mVar 4) (mUn unNeg (mC (.int 1)))) mNil))) mNil)))
    (sSeq (sAsg (mTup (mCons (mC (.str "unique")) (mCons (mCall F__law_pick (mCons (mVar 0) (mCons (mVar 4) mNil))) mNil))) (tgN 7))
    (sIf (bAnd (mB (mOp opEq (mCall F__law_take (mCons (mVar 0) (mCons (mC (.int 3)) mNil))) (mC (.int 0)))) (mB (mOp opNotIn (mVar 7) (mVar 3)))) (sExp (mLm lmAppend (mVar 3) (mCons (mVar 7) mNil))) sNil)))))
    (sSeq (sAsg (mLstR mNil) (tgN 6))
    (sSeq (sFor (itR1 (mCons (mCall F__law_take (mCons (mVar 0) (mCons (mC (.int 3)) mNil))) mNil)) (tgN 5) (sExp (mLm lmAppend (mVar 6) (mCons (mTup (mCons (mCall F__law_pick (mCons (mVar 0) (mCons (mLst (mCons (mC (.str "fresh")) (mCons (mC (.str "free")) mNil))) mNil))) (mCons (mLm lmPop (mVar 2) (mCons (mCall F__law_take (mCons (mVar 0) (mCons (mCb cbLen (mCons (mVar 2) mNil)) mNil))) mNil)) mNil))) mNil))))
    (sSeq (sFor (itL (mOp opAdd (mVar 6) (mLst (mCons (mTup (mCons (mC (.str "held")) mNil)) (mCons (mTup (mCons (mC (.str "single")) mNil)) (mCons (mTup (mCons (mC (.str "token")) mNil)) (mCons (mTup (mCons (mC (.str "guarded")) mNil)) mNil))))))) (tgN 7) (sIf (bOr (mB (mOp opEq (mCb cbLen (mCons (mVar 7) mNil)) (mC (.int 2)))) (mB (mOp opEq (mCall F__law_take (mCons (mVar 0) (mCons (mC (.int 3)) mNil))) (mC (.int 0))))) (sExp (mLm lmInsert (mVar 3) (mCons (mCall F__law_take (mCons (mVar 0) (mCons (mOp opAdd (mCb cbLen (mCons (mVar 3) mNil)) (mC (.int 1))) mNil))) (mCons (mVar 7) mNil)))) sNil))
    (sRet (mOp opAdd (mLst (mCons (mTup (mCons (mC (.str "kind")) (mCons (mVar 1) mNil))) mNil)) (mVar 3)))))))))
noncomputable def F__law_kind_lines : FT := mFun 8 2 b__law_kind_lines
noncomputable def b__law_kinds_lines : SM := (sSeq (sPar 1 2 (mCons (mLstR (mCons (mC (.str "net")) (mCons (mC (.str "box")) (mCons (mC (.str "a")) (mCons (mC (.str "lid")) (mCons (mC (.str "abcdefghijkl")) (mCons (mC (.str "size")) (mCons (mC (.str "disk")) (mCons (mC (.str "zone")) mNil))))))))) (mCons (mLstR mNil) mNil)))
    (sSeq (sFor (itR1 (mCons (mCall F__law_pick (mCons (mVar 0) (mCons (mLst (mCons (mC (.int 1)) (mCons (mC (.int 2)) (mCons (mC (.int 2)) (mCons (mC (.int 3)) (mCons (mC (.int 8)) mNil)))))) mNil))) mNil)) (tgN 3) (sExp (mLm lmExtend (mVar 2) (mCons (mCall F__law_kind_lines (mCons (mVar 0) (mCons (mLm lmPop (mVar 1) (mCons (mCall F__law_take (mCons (mVar 0) (mCons (mCb cbLen (mCons (mVar 1) mNil)) mNil))) mNil)) mNil))) mNil))))
    (sRet (mVar 2))))
noncomputable def F__law_kinds_lines : FT := mFun 4 1 b__law_kinds_lines
noncomputable def b__law_kinds_text : SM := (sRet (mMb mbJoin2 (mStr (mC (.str "\n"))) (mCons (mLc (itL (mVar 0)) (tgN 1) bYes (mOp opAdd (mIf (mB (mOp opEq (mOp opIx (mVar 1) (mC (.int 0))) (mC (.str "kind")))) (mC (.str "")) (mC (.str "  "))) (mMb mbJoin2 (mStr (mC (.str " "))) (mCons (mVar 1) mNil))) [1]) mNil)))
noncomputable def F__law_kinds_text : FT := mFun 2 1 b__law_kinds_text
noncomputable def b__law_unknown (fe : ET) (kc : Clo) : SM := (sSeq (sAsg (mC .non) (tgN 1))
    (sSeq (sTryK [("NoKind", true)] 3 1 (sExp (mAct fe kc)))
    (sSeq (sIf (mB (mOp opIs (mVar 1) (mC .non))) (sRet (mLst mNil)) sNil)
    (sSeq (sAsg (mAnd (mUn (isiV [("NoKind", true)] [] []) (mVar 1)) (mNot (mUn (isiV [("NoKind", false)] [] []) (mVar 1)))) (tgN 2))
    (sRet (mIf (mTru (mVar 2)) (mLst (mCons (mUn (fldXn "value" ["NoKind"]) (mVar 1)) mNil)) (mC .non)))))))
noncomputable def F__law_unknown (fe : ET) (kc : Clo) : FT := mFun 4 1 (b__law_unknown fe kc)
noncomputable def b__law_named : SM := (sRet (mCb cbTuple (mCons (mLc (itL (mVar 0)) (tgN 2) (mB (mOp opEq (mOp opIx (mVar 2) (mC (.int 0))) (mVar 1))) (mOp opIx (mVar 2) (mC (.int 1))) [2]) mNil)))
noncomputable def F__law_named : FT := mFun 3 2 b__law_named
noncomputable def b__law_is_kind : SM := (sSeq (sIf (bOr (mB (mOp opNe (mProp "Kind" (qF F_Kind_name) (mVar 0)) (mOp opIx (mOp opIx (mVar 1) (mC (.int 0))) (mC (.int 1))))) (mB (mOp opNe (mProp "Kind" (qF F_Kind_set_fields) (mVar 0)) (mCall F__law_named (mCons (mVar 1) (mCons (mC (.str "set")) mNil)))))) (sRet (mC (.bl false))) sNil)
    (sSeq (sIf (bOr (mB (mOp opNe (mProp "Kind" (qF F_Kind_fixed_fields) (mVar 0)) (mCall F__law_named (mCons (mVar 1) (mCons (mC (.str "fixed")) mNil))))) (mB (mOp opNe (mProp "Kind" (qF F_Kind_fresh_answers) (mVar 0)) (mCall F__law_named (mCons (mVar 1) (mCons (mC (.str "fresh")) mNil)))))) (sRet (mC (.bl false))) sNil)
    (sSeq (sIf (bOr (mB (mOp opNe (mProp "Kind" (qF F_Kind_free_answers) (mVar 0)) (mCall F__law_named (mCons (mVar 1) (mCons (mC (.str "free")) mNil))))) (mB (mOp opNe (mProp "Kind" (qF F_Kind_unique_fields) (mVar 0)) (mCall F__law_named (mCons (mVar 1) (mCons (mC (.str "unique")) mNil)))))) (sRet (mC (.bl false))) sNil)
    (sSeq (sAsg (mCb cbShow (mCons (mLst (mCons (mProp "Kind" (qF F_Kind_held) (mVar 0)) (mCons (mProp "Kind" (qF F_Kind_single) (mVar 0)) (mCons (mProp "Kind" (qF F_Kind_token) (mVar 0)) (mCons (mProp "Kind" (qF F_Kind_guarded) (mVar 0)) mNil))))) mNil)) (tgN 2))
    (sRet (mOp opEq (mVar 2) (mCb cbShow (mCons (mLc (itT (mTup (mCons (mC (.str "held")) (mCons (mC (.str "single")) (mCons (mC (.str "token")) (mCons (mC (.str "guarded")) mNil)))))) (tgN 3) bYes (mOp opIn (mTup (mCons (mVar 3) mNil)) (mVar 1)) [3]) mNil))))))))
noncomputable def F__law_is_kind : FT := mFun 4 2 b__law_is_kind
noncomputable def b__law_is_right : SM := (sSeq (sAsg (mOp opAdd (mLc (itE (mCons (mVar 1) mNil)) (tgT 2 (tgCons (tgN 4) (tgCons (tgN 8) tgNil))) (mB (mOp opEq (mOp opIx (mVar 8) (mC (.int 0))) (mC (.str "kind")))) (mVar 4) [4, 8]) (mLst (mCons (mCb cbLen (mCons (mVar 1) mNil)) mNil))) (tgN 2))
    (sSeq (sAsg (mLc (itL (mSl slD (mVar 2) mNoPart (mPart (mUn unNeg (mC (.int 1)))))) (tgN 4) bYes (mOp opIx (mVar 1) (mVar 4)) [4]) (tgN 3))
    (sSeq (sIf (bOr (mB (mOp opNe (mProp "Kinds" (qF F_Kinds_names) (mVar 0)) (mCb cbTuple (mCons (mLc (itL (mVar 3)) (tgN 8) bYes (mOp opIx (mVar 8) (mC (.int 1))) [8]) mNil)))) (mB (mOp opNe (mLenX "Kinds" (qF F_Kinds___len__) (mCons (mVar 0) mNil)) (mCb cbLen (mCons (mVar 3) mNil))))) (sRet (mC (.bl false))) sNil)
    (sSeq (sFor (itZ (mCons (mVar 2) (mCons (mSl slD (mVar 2) (mPart (mC (.int 1))) mNoPart) mNil))) (tgT 2 (tgCons (tgN 4) (tgCons (tgN 5) tgNil))) (sSeq (sAsg (mOp opIx (mOp opIx (mVar 1) (mVar 4)) (mC (.int 1))) (tgN 7))
    (sIf (bOr (mB (mInX "Kinds" (qF F_Kinds___contains__) true (mVar 7) (mVar 0))) (bNot (mTru (mCall F__law_is_kind (mCons (mSubX "Kinds" (qF F_Kinds___getitem__) (mVar 0) (mVar 7)) (mCons (mSl slD (mVar 1) (mPart (mVar 4)) (mPart (mVar 5))) mNil)))))) (sRet (mC (.bl false))) sNil)))
    (sSeq (sFor (itL (mLst (mCons (mC (.str "c")) (mCons (mC (.str "Net")) (mCons (mC (.str "")) (mCons (mC .non) (mCons (mC (.bl true)) (mCons (mC (.int 0)) (mCons (mTup mNil) (mCons (mTup (mCons (mC (.str "net")) mNil)) (mCons (mLst (mCons (mC (.str "net")) mNil)) (mCons mDic0 (mCons (mC (.str "kind")) (mCons (mC (.str "net ")) mNil)))))))))))))) (tgN 6) (sIf (bOr (mB (mInX "Kinds" (qF F_Kinds___contains__) false (mVar 6) (mVar 0))) (mB (mOp opNe (mCb cbShow (mCons (mLam (F__law_unknown (mSubX "Kinds" F_Kinds___getitem__ (mVar 0) (mVar 6))) 0 9 "_law_is_right" "_law_is_right.<locals>.<lambda>" [0, 6]) mNil)) (mCb cbShow (mCons (mLst (mCons (mVar 6) mNil)) mNil))))) (sRet (mC (.bl false))) sNil))
    (sRet (mC (.bl true))))))))
noncomputable def F__law_is_right : FT := mFun 9 2 b__law_is_right
noncomputable def b__law_right : SM := (sSeq (sAsg (mLstR mNil) (tgN 1))
    (sSeq (sFor (itR1 (mCons (mC (.int 6)) mNil)) (tgN 2) (sSeq (sAsg (mCall F__law_kinds_lines (mCons (mVar 0) mNil)) (tgN 5))
    (sSeq (sAsg (mCall F__law_kinds_text (mCons (mVar 5) mNil)) (tgN 4))
    (sSeq (sAsg (mCall F_read_kinds (mCons (mVar 4) mNil)) (tgN 6))
    (sSeq (sIf (bOr (bNot (mTru (mCall F__law_is_right (mCons (mVar 6) (mCons (mVar 5) mNil))))) (bOr (mB (mOp opNe (mCall F_show_kinds (mCons (mVar 6) mNil)) (mVar 4))) (mB (mNeX "Kinds" (qF F_Kinds___eq__) ["str", "tuple", "NoneType", "int", "bool"] (mCall F_read_kinds (mCons (mVar 4) mNil)) (mVar 6))))) (sRet (mC (.bl false))) sNil)
    (sExp (mLm lmAppend (mVar 1) (mCons (mTup (mCons (mVar 6) (mCons (mVar 4) mNil))) mNil))))))))
    (sSeq (sFor (itL (mVar 1)) (tgT 2 (tgCons (tgN 3) (tgCons (tgN 4) tgNil))) (sSeq (sFor (itL (mVar 1)) (tgT 2 (tgCons (tgN 7) (tgCons (tgN 8) tgNil))) (sIf (mB (mOp opNe (mCb cbShow (mCons (mEqX "Kinds" (qF F_Kinds___eq__) ["str", "tuple", "NoneType", "int", "bool"] (mVar 3) (mVar 7)) mNil)) (mCb cbShow (mCons (mOp opEq (mVar 4) (mVar 8)) mNil)))) (sRet (mC (.bl false))) sNil))
    (sIf (mTru (mCb cbAny (mCons (mLc (itT (mTup (mCons (mVar 4) (mCons (mProp "Kinds" (qF F_Kinds_names) (mVar 3)) (mCons (mC .non) (mCons (mC (.int 0)) (mCons (mC (.bl true)) mNil))))))) (tgN 9) bYes (mEqX "Kinds" (qF F_Kinds___eq__) ["str", "tuple", "NoneType", "int", "bool"] (mVar 3) (mVar 9)) [9]) mNil))) (sRet (mC (.bl false))) sNil)))
    (sRet (mC (.bl true))))))
noncomputable def F__law_right : FT := mFun 10 1 b__law_right
noncomputable def b__law_document : SM := (sSeq (sAsg (mLst (mCons (mTup (mCons (mC (.str "kind")) (mCons (mC (.str "net")) mNil))) (mCons (mTup (mCons (mC (.str "fixed")) (mCons (mC (.str "range")) mNil))) (mCons (mTup (mCons (mC (.str "fresh")) (mCons (mC (.str "id")) mNil))) (mCons (mTup (mCons (mC (.str "free")) (mCons (mC (.str "zone")) mNil))) (mCons (mTup (mCons (mC (.str "held")) mNil)) mNil)))))) (tgN 0))
    (sSeq (sAsg (mOp opAdd (mVar 0) (mLst (mCons (mTup (mCons (mC (.str "kind")) (mCons (mC (.str "box")) mNil))) (mCons (mTup (mCons (mC (.str "set")) (mCons (mC (.str "size")) mNil))) (mCons (mTup (mCons (mC (.str "set")) (mCons (mC (.str "net")) mNil))) (mCons (mTup (mCons (mC (.str "set")) (mCons (mC (.str "label")) mNil))) (mCons (mTup (mCons (mC (.str "fresh")) (mCons (mC (.str "id")) mNil))) mNil))))))) (tgN 0))
    (sSeq (sAsg (mOp opAdd (mVar 0) (mLst (mCons (mTup (mCons (mC (.str "unique")) (mCons (mC (.str "label")) mNil))) (mCons (mTup (mCons (mC (.str "token")) mNil)) mNil)))) (tgN 0))
    (sRet (mCall F__law_is_right (mCons (mCall F_read_kinds (mCons (mCall F__law_kinds_text (mCons (mVar 0) mNil)) mNil)) (mCons (mVar 0) mNil)))))))
noncomputable def F__law_document : FT := mFun 1 0 b__law_document
noncomputable def b_law : SM := (sSeq (sIf (bOr (bNot (mTru (mCall F__law_document mNil))) (bOr (mB (mOp opNe (mLenX "Kinds" (qF F_Kinds___len__) (mCons (mCall F_read_kinds (mCons (mC (.str "kind a")) mNil)) mNil)) (mC (.int 1)))) (mB (mOp opNe (mProp "Kind" (qF F_Kind_set_fields) (mSubX "Kinds" (qF F_Kinds___getitem__) (mCall F_read_kinds (mCons (mC (.str "kind a")) mNil)) (mC (.str "a")))) (mTup mNil))))) (sRet (mC (.bl false))) sNil)
    (sRet (mCb cbAll (mCons (mLc (itR1 (mCons (mCb cbMax (mCons (mC (.int 1)) (mCons (mCb cbMin (mCons (mC (.int 3)) (mCons (mCb cbLen (mCons (mVar 0) mNil)) mNil))) mNil))) mNil)) (tgN 1) bYes (mCall F__law_right (mCons (mCall F__law_pot (mCons (mVar 0) (mCons (mVar 1) mNil))) mNil)) [1]) mNil))))
noncomputable def F_law : FT := mFun 2 1 b_law
section
variable {P : Program} {w : World} {K : PySem.W.Frag} {mg : Str → Option Value} {base : Heap}
theorem sc_is_name : FnScope N_is_name ["value"] (defScope s_is_name) := ⟨rfl, rfl, rfl, by decide +kernel, rfl, by decide +kernel, by decide +kernel⟩
theorem ok_is_name (T : Tx P K mg base) : FnG P w K mg base CX0 1 T.is_name.f T.is_name.fd ["value"] (spM ⟨K, mg⟩ F_is_name) :=
  fn_mir (k := 0) T.is_name.fu sc_is_name fun cdv A outer s H E hr => (mss_one (ms_ret (me_and (me_isi rfl T.z_isinstance (by decide +kernel) rfl T.z_str (by decide +kernel) (mv 0)) (me_and (me_chain op_le_M op_le_M me_int (me_callB cb_len rfl T.z_len (by decide +kernel) (ma_cons (mv 0) ma_nil)) (me_glob (d := .int 12) (v := .int 12) rfl T.c_MOST_NAME ⟨_, rfl⟩ fun _ _ => .int _)) (me_one (me_callB (cb_all rfl) rfl T.z_all (by decide +kernel) (ma_cons (me_lc (own := [("sign", 1)]) rfl sc_is_name.nd (mi_str (mv 0)) (blkOk_by (own := [("sign", 1)]) (N := N_is_name) (sc := defScope s_is_name) (by decide +kernel)) (fun _ _ _ _ _ => (mg_name (i := 1) sc_is_name.nd rfl (by first | exact Or.inl rfl | exact Or.inr rfl))) (fun _ _ _ _ _ => mts_nil) (fun _ _ _ _ _ => (me_cmp (op_in_M (hu65 hr)) (mv 1) (me_glob (d := .str "abcdefghijklmnopqrstuvwxyz") (v := .str "abcdefghijklmnopqrstuvwxyz") rfl T.c_LETTERS ⟨_, rfl⟩ fun _ _ => .str _ (by decide)) (by rfl)))) ma_nil)))))))
theorem sc_is_free_name : FnScope N_is_free_name ["value"] (defScope s_is_free_name) := ⟨rfl, rfl, rfl, by decide +kernel, rfl, by decide +kernel, by decide +kernel⟩
theorem ok_is_free_name (T : Tx P K mg base) : FnG P w K mg base CX0 2 T.is_free_name.f T.is_free_name.fd ["value"] (spM ⟨K, mg⟩ F_is_free_name) :=
  fn_mir (k := 1) T.is_free_name.fu sc_is_free_name fun cdv A outer s H E hr => (mss_one (ms_ret (me_and (me_call (ok_is_name T) (hr.mono (by omega)) rfl T.is_name.mgx T.is_name.fu.kp T.is_name.bd (ma_cons (mv 0) ma_nil)) (me_one (me_cmp (op_notIn_M (hu65 hr)) (mv 0) (me_globT rfl T.c_RESERVED T.k_RESERVED (by decide +kernel)) (by rfl))))))
theorem sc_Kind___init__ : FnScope N_Kind___init__ ["self", "name"] (defScope s_Kind___init__) := ⟨rfl, rfl, rfl, by decide +kernel, rfl, by decide +kernel, by decide +kernel⟩
theorem ok_Kind___init__ (T : Tx P K mg base) : FnG P w K mg base CX0 1 T.Kind___init__.f T.Kind___init__.fd ["self", "name"] (spM ⟨K, mg⟩ F_Kind___init__) :=
  fn_mir (k := 0) T.Kind___init__.fu sc_Kind___init__ fun cdv A outer s H E hr => (mss_cons (ms_setF (mv 1) (mv 0) T.g_Kind T.cf_Kind.cl T.na_Kind_held_name)
    (mss_one (ms_setF (me_lstR ma_nil) (mv 0) T.g_Kind T.cf_Kind.cl T.na_Kind_held_parts)))
theorem sc_Kind_named : FnScope N_Kind_named ["self", "word"] (defScope s_Kind_named) := ⟨rfl, rfl, rfl, by decide +kernel, rfl, by decide +kernel, by decide +kernel⟩
theorem ok_Kind_named (T : Tx P K mg base) : FnG P w K mg base CX0 1 T.Kind_named.f T.Kind_named.fd ["self", "word"] (spM ⟨K, mg⟩ F_Kind_named) :=
  fn_mir (k := 0) T.Kind_named.fu sc_Kind_named fun cdv A outer s H E hr => (mss_one (ms_ret (me_callTy cb_tuple rfl T.z_tuple (by decide +kernel) (ma_cons (me_lc (own := [("some", 2), ("name", 3)]) rfl sc_Kind_named.nd (mi_list (me_fld (mv 0) T.g_Kind T.cf_Kind.cl T.na_Kind_held_parts)) (blkOk_by (own := [("some", 2), ("name", 3)]) (N := N_Kind_named) (sc := defScope s_Kind_named) (by decide +kernel)) (fun _ _ _ _ _ => (mg_tup rfl (mgs_cons (mg_name (i := 2) sc_Kind_named.nd rfl (by first | exact Or.inl rfl | exact Or.inr rfl)) (mgs_cons (mg_name (i := 3) sc_Kind_named.nd rfl (by first | exact Or.inl rfl | exact Or.inr rfl)) mgs_nil)))) (fun _ _ _ _ _ => (mts_one (mt_cmp (op_eq_M hr.units) (mv 2) (mv 1) (nomark _)))) (fun _ _ _ _ _ => (mv 3))) ma_nil))))
theorem sc_Kind_has_mark : FnScope N_Kind_has_mark ["self", "word"] (defScope s_Kind_has_mark) := ⟨rfl, rfl, rfl, by decide +kernel, rfl, by decide +kernel, by decide +kernel⟩
theorem ok_Kind_has_mark (T : Tx P K mg base) : FnG P w K mg base CX0 1 T.Kind_has_mark.f T.Kind_has_mark.fd ["self", "word"] (spM ⟨K, mg⟩ F_Kind_has_mark) :=
  fn_mir (k := 0) T.Kind_has_mark.fu sc_Kind_has_mark fun cdv A outer s H E hr => (mss_one (ms_ret (me_cmp (op_in_M (hu65 hr)) (me_tup (ma_cons (mv 1) (ma_cons me_non ma_nil))) (me_fld (mv 0) T.g_Kind T.cf_Kind.cl T.na_Kind_held_parts) (by rfl))))
theorem sc_Kind_all_names : FnScope N_Kind_all_names ["self"] (defScope s_Kind_all_names) := ⟨rfl, rfl, rfl, by decide +kernel, rfl, by decide +kernel, by decide +kernel⟩
theorem ok_Kind_all_names (T : Tx P K mg base) : FnG P w K mg base CX0 1 T.Kind_all_names.f T.Kind_all_names.fd ["self"] (spM ⟨K, mg⟩ F_Kind_all_names) :=
  fn_mir (k := 0) T.Kind_all_names.fu sc_Kind_all_names fun cdv A outer s H E hr => (mss_one (ms_ret (me_lc (own := [("word", 1), ("name", 2)]) rfl sc_Kind_all_names.nd (mi_list (me_fld (mv 0) T.g_Kind T.cf_Kind.cl T.na_Kind_held_parts)) (blkOk_by (own := [("word", 1), ("name", 2)]) (N := N_Kind_all_names) (sc := defScope s_Kind_all_names) (by decide +kernel)) (fun _ _ _ _ _ => (mg_tup rfl (mgs_cons (mg_name (i := 1) sc_Kind_all_names.nd rfl (by first | exact Or.inl rfl | exact Or.inr rfl)) (mgs_cons (mg_name (i := 2) sc_Kind_all_names.nd rfl (by first | exact Or.inl rfl | exact Or.inr rfl)) mgs_nil)))) (fun _ _ _ _ _ => (mts_one (mt_cmp (op_in_M (hu65 hr)) (mv 1) (me_op op_add_M (me_globT rfl T.c_FIELDS T.k_FIELDS (by decide +kernel)) (me_globT rfl T.c_ANSWERS T.k_ANSWERS (by decide +kernel))) (by rfl)))) (fun _ _ _ _ _ => (mv 2)))))
theorem sc_Kind_has_room : FnScope N_Kind_has_room ["self", "word"] (defScope s_Kind_has_room) := ⟨rfl, rfl, rfl, by decide +kernel, rfl, by decide +kernel, by decide +kernel⟩
theorem ok_Kind_has_room (T : Tx P K mg base) : FnG P w K mg base CX0 1 T.Kind_has_room.f T.Kind_has_room.fd ["self", "word"] (spM ⟨K, mg⟩ F_Kind_has_room) :=
  fn_mir (k := 0) T.Kind_has_room.fu sc_Kind_has_room fun cdv A outer s H E hr => (mss_cons (ms_asg (me_if (mt_cmp (op_in_M (hu65 hr)) (mv 1) (me_globT rfl T.c_FIELDS T.k_FIELDS (by decide +kernel)) (by rfl)) (me_tup (ma_cons (me_globT rfl T.c_FIELDS T.k_FIELDS (by decide +kernel)) (ma_cons (me_glob (d := .int 6) (v := .int 6) rfl T.c_MOST_FIELDS ⟨_, rfl⟩ fun _ _ => .int _) ma_nil))) (me_tup (ma_cons (me_globT rfl T.c_ANSWERS T.k_ANSWERS (by decide +kernel)) (ma_cons (me_glob (d := .int 2) (v := .int 2) rfl T.c_MOST_ANSWERS ⟨_, rfl⟩ fun _ _ => .int _) ma_nil)))) (mg_tup rfl (mgs_cons (mg_name (i := 2) sc_Kind_has_room.nd rfl (by first | exact Or.inl rfl | exact Or.inr rfl)) (mgs_cons (mg_name (i := 3) sc_Kind_has_room.nd rfl (by first | exact Or.inl rfl | exact Or.inr rfl)) mgs_nil))))
    (mss_one (ms_ret (me_cmp op_lt_M (me_callB cb_len rfl T.z_len (by decide +kernel) (ma_cons (me_lc (own := [("some", 4), ("name", 5)]) rfl sc_Kind_has_room.nd (mi_list (me_fld (mv 0) T.g_Kind T.cf_Kind.cl T.na_Kind_held_parts)) (blkOk_by (own := [("some", 4), ("name", 5)]) (N := N_Kind_has_room) (sc := defScope s_Kind_has_room) (by decide +kernel)) (fun _ _ _ _ _ => (mg_tup rfl (mgs_cons (mg_name (i := 4) sc_Kind_has_room.nd rfl (by first | exact Or.inl rfl | exact Or.inr rfl)) (mgs_cons (mg_name (i := 5) sc_Kind_has_room.nd rfl (by first | exact Or.inl rfl | exact Or.inr rfl)) mgs_nil)))) (fun _ _ _ _ _ => (mts_one (mt_cmp (op_in_M (hu65 hr)) (mv 4) (mv 2) (by rfl)))) (fun _ _ _ _ _ => (mv 4))) ma_nil)) (mv 3) (nomark _)))))
theorem sc_Kind_takes : FnScope N_Kind_takes ["self", "word", "name"] (defScope s_Kind_takes) := ⟨rfl, rfl, rfl, by decide +kernel, rfl, by decide +kernel, by decide +kernel⟩
theorem ok_Kind_takes (T : Tx P K mg base) : FnG P w K mg base CX0 2 T.Kind_takes.f T.Kind_takes.fd ["self", "word", "name"] (spM ⟨K, mg⟩ F_Kind_takes) :=
  fn_mir (k := 1) T.Kind_takes.fu sc_Kind_takes fun cdv A outer s H E hr => (mss_cons (ms_if (mt_cmp (op_in_M (hu65 hr)) (me_tup (ma_cons (mv 1) (ma_cons (mv 2) ma_nil))) (me_fld (mv 0) T.g_Kind T.cf_Kind.cl T.na_Kind_held_parts) (by rfl)) (mss_one (ms_ret me_bl)) mss_nil)
    (mss_cons (ms_if (mt_w (mw_and (mt_cmp (op_eq_M hr.units) (mv 1) (me_glob (d := .str "unique") (v := .str "unique") rfl T.c_UNIQUE ⟨_, rfl⟩ fun _ _ => .str _ (by decide)) (nomark _)) (mw_and (mt_cmp (op_notIn_M (hu65 hr)) (me_tup (ma_cons (me_glob (d := .str "set") (v := .str "set") rfl T.c_SET ⟨_, rfl⟩ fun _ _ => .str _ (by decide)) (ma_cons (mv 2) ma_nil))) (me_fld (mv 0) T.g_Kind T.cf_Kind.cl T.na_Kind_held_parts) (by rfl)) (mw_and1 (mt_cmp (op_notIn_M (hu65 hr)) (me_tup (ma_cons (me_glob (d := .str "fixed") (v := .str "fixed") rfl T.c_FIXED ⟨_, rfl⟩ fun _ _ => .str _ (by decide)) (ma_cons (mv 2) ma_nil))) (me_fld (mv 0) T.g_Kind T.cf_Kind.cl T.na_Kind_held_parts) (by rfl)))))) (mss_one (ms_ret me_bl)) mss_nil)
    (mss_cons (ms_if (mt_w (mw_and (mt_cmp (op_in_M (hu65 hr)) (mv 1) (me_op op_add_M (me_globT rfl T.c_FIELDS T.k_FIELDS (by decide +kernel)) (me_globT rfl T.c_ANSWERS T.k_ANSWERS (by decide +kernel))) (by rfl)) (mw_and1 (mt_w (mw_or (mt_cmp (op_in_M (hu65 hr)) (mv 2) (me_meth0G spOf_M (mv 0) T.g_Kind T.cf_Kind.cl T.me_Kind_all_names (ok_Kind_all_names T) (hr.mono (by omega)) T.Kind_all_names.bd (fun _ => pass1_0)) (by rfl)) (mw_or1 (mt_not (mt_truth (me_methG spOf_M (mv 0) T.g_Kind T.cf_Kind.cl T.me_Kind_has_room (ok_Kind_has_room T) (hr.mono (by omega)) T.Kind_has_room.bd (fun _ => pass1_0) (ma_cons (mv 1) ma_nil)))))))))) (mss_one (ms_ret me_bl)) mss_nil)
    (mss_cons (ms_expr (me_lm PySem.F.slot_list_append PySem.F.type_list_append lm_append (me_fld (mv 0) T.g_Kind T.cf_Kind.cl T.na_Kind_held_parts) (ma_cons (me_tup (ma_cons (mv 1) (ma_cons (mv 2) ma_nil))) ma_nil)))
    (mss_one (ms_ret me_bl))))))
theorem sc_Kind_name : FnScope N_Kind_name ["self"] (defScope s_Kind_name) := ⟨rfl, rfl, rfl, by decide +kernel, rfl, by decide +kernel, by decide +kernel⟩
theorem ok_Kind_name (T : Tx P K mg base) : FnG P w K mg base CX0 1 T.Kind_name.f T.Kind_name.fd ["self"] (spM ⟨K, mg⟩ F_Kind_name) :=
  fn_mir (k := 0) T.Kind_name.fu sc_Kind_name fun cdv A outer s H E hr => (mss_one (ms_ret (me_fld (mv 0) T.g_Kind T.cf_Kind.cl T.na_Kind_held_name)))
theorem sc_Kind_set_fields : FnScope N_Kind_set_fields ["self"] (defScope s_Kind_set_fields) := ⟨rfl, rfl, rfl, by decide +kernel, rfl, by decide +kernel, by decide +kernel⟩
theorem ok_Kind_set_fields (T : Tx P K mg base) : FnG P w K mg base CX0 2 T.Kind_set_fields.f T.Kind_set_fields.fd ["self"] (spM ⟨K, mg⟩ F_Kind_set_fields) :=
  fn_mir (k := 1) T.Kind_set_fields.fu sc_Kind_set_fields fun cdv A outer s H E hr => (mss_one (ms_ret (me_methG spOf_M (mv 0) T.g_Kind T.cf_Kind.cl T.me_Kind_named (ok_Kind_named T) (hr.mono (by omega)) T.Kind_named.bd (fun _ => pass1_0) (ma_cons (me_glob (d := .str "set") (v := .str "set") rfl T.c_SET ⟨_, rfl⟩ fun _ _ => .str _ (by decide)) ma_nil))))
theorem sc_Kind_fixed_fields : FnScope N_Kind_fixed_fields ["self"] (defScope s_Kind_fixed_fields) := ⟨rfl, rfl, rfl, by decide +kernel, rfl, by decide +kernel, by decide +kernel⟩
theorem ok_Kind_fixed_fields (T : Tx P K mg base) : FnG P w K mg base CX0 2 T.Kind_fixed_fields.f T.Kind_fixed_fields.fd ["self"] (spM ⟨K, mg⟩ F_Kind_fixed_fields) :=
  fn_mir (k := 1) T.Kind_fixed_fields.fu sc_Kind_fixed_fields fun cdv A outer s H E hr => (mss_one (ms_ret (me_methG spOf_M (mv 0) T.g_Kind T.cf_Kind.cl T.me_Kind_named (ok_Kind_named T) (hr.mono (by omega)) T.Kind_named.bd (fun _ => pass1_0) (ma_cons (me_glob (d := .str "fixed") (v := .str "fixed") rfl T.c_FIXED ⟨_, rfl⟩ fun _ _ => .str _ (by decide)) ma_nil))))
theorem sc_Kind_fresh_answers : FnScope N_Kind_fresh_answers ["self"] (defScope s_Kind_fresh_answers) := ⟨rfl, rfl, rfl, by decide +kernel, rfl, by decide +kernel, by decide +kernel⟩
theorem ok_Kind_fresh_answers (T : Tx P K mg base) : FnG P w K mg base CX0 2 T.Kind_fresh_answers.f T.Kind_fresh_answers.fd ["self"] (spM ⟨K, mg⟩ F_Kind_fresh_answers) :=
  fn_mir (k := 1) T.Kind_fresh_answers.fu sc_Kind_fresh_answers fun cdv A outer s H E hr => (mss_one (ms_ret (me_methG spOf_M (mv 0) T.g_Kind T.cf_Kind.cl T.me_Kind_named (ok_Kind_named T) (hr.mono (by omega)) T.Kind_named.bd (fun _ => pass1_0) (ma_cons (me_glob (d := .str "fresh") (v := .str "fresh") rfl T.c_FRESH ⟨_, rfl⟩ fun _ _ => .str _ (by decide)) ma_nil))))
theorem sc_Kind_free_answers : FnScope N_Kind_free_answers ["self"] (defScope s_Kind_free_answers) := ⟨rfl, rfl, rfl, by decide +kernel, rfl, by decide +kernel, by decide +kernel⟩
theorem ok_Kind_free_answers (T : Tx P K mg base) : FnG P w K mg base CX0 2 T.Kind_free_answers.f T.Kind_free_answers.fd ["self"] (spM ⟨K, mg⟩ F_Kind_free_answers) :=
  fn_mir (k := 1) T.Kind_free_answers.fu sc_Kind_free_answers fun cdv A outer s H E hr => (mss_one (ms_ret (me_methG spOf_M (mv 0) T.g_Kind T.cf_Kind.cl T.me_Kind_named (ok_Kind_named T) (hr.mono (by omega)) T.Kind_named.bd (fun _ => pass1_0) (ma_cons (me_glob (d := .str "free") (v := .str "free") rfl T.c_FREE ⟨_, rfl⟩ fun _ _ => .str _ (by decide)) ma_nil))))
theorem sc_Kind_unique_fields : FnScope N_Kind_unique_fields ["self"] (defScope s_Kind_unique_fields) := ⟨rfl, rfl, rfl, by decide +kernel, rfl, by decide +kernel, by decide +kernel⟩
theorem ok_Kind_unique_fields (T : Tx P K mg base) : FnG P w K mg base CX0 2 T.Kind_unique_fields.f T.Kind_unique_fields.fd ["self"] (spM ⟨K, mg⟩ F_Kind_unique_fields) :=
  fn_mir (k := 1) T.Kind_unique_fields.fu sc_Kind_unique_fields fun cdv A outer s H E hr => (mss_one (ms_ret (me_methG spOf_M (mv 0) T.g_Kind T.cf_Kind.cl T.me_Kind_named (ok_Kind_named T) (hr.mono (by omega)) T.Kind_named.bd (fun _ => pass1_0) (ma_cons (me_glob (d := .str "unique") (v := .str "unique") rfl T.c_UNIQUE ⟨_, rfl⟩ fun _ _ => .str _ (by decide)) ma_nil))))
theorem sc_Kind_held : FnScope N_Kind_held ["self"] (defScope s_Kind_held) := ⟨rfl, rfl, rfl, by decide +kernel, rfl, by decide +kernel, by decide +kernel⟩
theorem ok_Kind_held (T : Tx P K mg base) : FnG P w K mg base CX0 2 T.Kind_held.f T.Kind_held.fd ["self"] (spM ⟨K, mg⟩ F_Kind_held) :=
  fn_mir (k := 1) T.Kind_held.fu sc_Kind_held fun cdv A outer s H E hr => (mss_one (ms_ret (me_methG spOf_M (mv 0) T.g_Kind T.cf_Kind.cl T.me_Kind_has_mark (ok_Kind_has_mark T) (hr.mono (by omega)) T.Kind_has_mark.bd (fun _ => pass1_0) (ma_cons me_str ma_nil))))
theorem sc_Kind_single : FnScope N_Kind_single ["self"] (defScope s_Kind_single) := ⟨rfl, rfl, rfl, by decide +kernel, rfl, by decide +kernel, by decide +kernel⟩
theorem ok_Kind_single (T : Tx P K mg base) : FnG P w K mg base CX0 2 T.Kind_single.f T.Kind_single.fd ["self"] (spM ⟨K, mg⟩ F_Kind_single) :=
  fn_mir (k := 1) T.Kind_single.fu sc_Kind_single fun cdv A outer s H E hr => (mss_one (ms_ret (me_methG spOf_M (mv 0) T.g_Kind T.cf_Kind.cl T.me_Kind_has_mark (ok_Kind_has_mark T) (hr.mono (by omega)) T.Kind_has_mark.bd (fun _ => pass1_0) (ma_cons me_str ma_nil))))
theorem sc_Kind_token : FnScope N_Kind_token ["self"] (defScope s_Kind_token) := ⟨rfl, rfl, rfl, by decide +kernel, rfl, by decide +kernel, by decide +kernel⟩
theorem ok_Kind_token (T : Tx P K mg base) : FnG P w K mg base CX0 2 T.Kind_token.f T.Kind_token.fd ["self"] (spM ⟨K, mg⟩ F_Kind_token) :=
  fn_mir (k := 1) T.Kind_token.fu sc_Kind_token fun cdv A outer s H E hr => (mss_one (ms_ret (me_methG spOf_M (mv 0) T.g_Kind T.cf_Kind.cl T.me_Kind_has_mark (ok_Kind_has_mark T) (hr.mono (by omega)) T.Kind_has_mark.bd (fun _ => pass1_0) (ma_cons me_str ma_nil))))
theorem sc_Kind_guarded : FnScope N_Kind_guarded ["self"] (defScope s_Kind_guarded) := ⟨rfl, rfl, rfl, by decide +kernel, rfl, by decide +kernel, by decide +kernel⟩
theorem ok_Kind_guarded (T : Tx P K mg base) : FnG P w K mg base CX0 2 T.Kind_guarded.f T.Kind_guarded.fd ["self"] (spM ⟨K, mg⟩ F_Kind_guarded) :=
  fn_mir (k := 1) T.Kind_guarded.fu sc_Kind_guarded fun cdv A outer s H E hr => (mss_one (ms_ret (me_methG spOf_M (mv 0) T.g_Kind T.cf_Kind.cl T.me_Kind_has_mark (ok_Kind_has_mark T) (hr.mono (by omega)) T.Kind_has_mark.bd (fun _ => pass1_0) (ma_cons me_str ma_nil))))
theorem sc_Kinds___init__ : FnScope N_Kinds___init__ ["self", "text", "found"] (defScope s_Kinds___init__) := ⟨rfl, rfl, rfl, by decide +kernel, rfl, by decide +kernel, by decide +kernel⟩
theorem ok_Kinds___init__ (T : Tx P K mg base) : FnG P w K mg base CX0 1 T.Kinds___init__.f T.Kinds___init__.fd ["self", "text", "found"] (spM ⟨K, mg⟩ F_Kinds___init__) :=
  fn_mir (k := 0) T.Kinds___init__.fu sc_Kinds___init__ fun cdv A outer s H E hr => (mss_cons (ms_setF (mv 1) (mv 0) T.g_Kinds T.cf_Kinds.cl T.na_Kinds_own_text)
    (mss_one (ms_setF (mv 2) (mv 0) T.g_Kinds T.cf_Kinds.cl T.na_Kinds_held_kinds)))
theorem sc_Kinds_names : FnScope N_Kinds_names ["self"] (defScope s_Kinds_names) := ⟨rfl, rfl, rfl, by decide +kernel, rfl, by decide +kernel, by decide +kernel⟩
theorem ok_Kinds_names (T : Tx P K mg base) : FnG P w K mg base CX0 1 T.Kinds_names.f T.Kinds_names.fd ["self"] (spM ⟨K, mg⟩ F_Kinds_names) :=
  fn_mir (k := 0) T.Kinds_names.fu sc_Kinds_names fun cdv A outer s H E hr => (mss_one (ms_ret (me_callTy (cb_tupleR rfl) rfl T.z_tuple (by decide +kernel) (ma_cons (me_fld (mv 0) T.g_Kinds T.cf_Kinds.cl T.na_Kinds_held_kinds) ma_nil))))
theorem sc_Kinds___getitem__ : FnScope N_Kinds___getitem__ ["self", "name"] (defScope s_Kinds___getitem__) := ⟨rfl, rfl, rfl, by decide +kernel, rfl, by decide +kernel, by decide +kernel⟩
theorem ok_Kinds___getitem__ (T : Tx P K mg base) : FnG P w K mg base (L2.CX P w) 1 T.Kinds___getitem__.f T.Kinds___getitem__.fd ["self", "name"] (spX ⟨K, mg⟩ F_Kinds___getitem__) :=
  fn_mirX (k := 0) T.Kinds___getitem__.fu sc_Kinds___getitem__ fun cdv A outer s H E hr tk ps => (mss_cons (ms_if (mt_w (mw_or (mt_not (mt_truth (me_isi rfl T.z_isinstance (by decide +kernel) rfl T.z_str (by decide +kernel) (mv 1)))) (mw_or1 (mt_notInR hr (mv 1) (me_fld (mv 0) T.g_Kinds T.cf_Kinds.cl T.na_Kinds_held_kinds))))) (mss_one (ms_raise tk rfl T.xv_NoKind hr (mv 1))) mss_nil)
    (mss_one (ms_ret (me_getR hr (me_fld (mv 0) T.g_Kinds T.cf_Kinds.cl T.na_Kinds_held_kinds) (mv 1) (fun _ _ => rfl)))))
theorem sc_Kinds___contains__ : FnScope N_Kinds___contains__ ["self", "name"] (defScope s_Kinds___contains__) := ⟨rfl, rfl, rfl, by decide +kernel, rfl, by decide +kernel, by decide +kernel⟩
theorem ok_Kinds___contains__ (T : Tx P K mg base) : FnG P w K mg base CX0 1 T.Kinds___contains__.f T.Kinds___contains__.fd ["self", "name"] (spM ⟨K, mg⟩ F_Kinds___contains__) :=
  fn_mir (k := 0) T.Kinds___contains__.fu sc_Kinds___contains__ fun cdv A outer s H E hr => (mss_one (ms_ret (me_and (me_isi rfl T.z_isinstance (by decide +kernel) rfl T.z_str (by decide +kernel) (mv 1)) (me_one (me_inR hr (mv 1) (me_fld (mv 0) T.g_Kinds T.cf_Kinds.cl T.na_Kinds_held_kinds))))))
theorem sc_Kinds___len__ : FnScope N_Kinds___len__ ["self"] (defScope s_Kinds___len__) := ⟨rfl, rfl, rfl, by decide +kernel, rfl, by decide +kernel, by decide +kernel⟩
theorem ok_Kinds___len__ (T : Tx P K mg base) : FnG P w K mg base CX0 1 T.Kinds___len__.f T.Kinds___len__.fd ["self"] (spM ⟨K, mg⟩ F_Kinds___len__) :=
  fn_mir (k := 0) T.Kinds___len__.fu sc_Kinds___len__ fun cdv A outer s H E hr => (mss_one (ms_ret (me_callB cb_lenR rfl T.z_len (by decide +kernel) (ma_cons (me_fld (mv 0) T.g_Kinds T.cf_Kinds.cl T.na_Kinds_held_kinds) ma_nil))))
theorem sc_Kinds___eq__ : FnScope N_Kinds___eq__ ["self", "other"] (defScope s_Kinds___eq__) := ⟨rfl, rfl, rfl, by decide +kernel, rfl, by decide +kernel, by decide +kernel⟩
theorem ok_Kinds___eq__ (T : Tx P K mg base) : FnG P w K mg base CX0 1 T.Kinds___eq__.f T.Kinds___eq__.fd ["self", "other"] (spM ⟨K, mg⟩ F_Kinds___eq__) :=
  fn_mir (k := 0) T.Kinds___eq__.fu sc_Kinds___eq__ fun cdv A outer s H E hr => (mss_one (ms_ret (me_and (me_is1 (u := .ref T.C_Kinds) ⟨isE_nil, (isI_cons T.cf_Kinds T.kt_Kinds_Kinds isI_nil), (isN_cons T.kt_Kinds_str (isN_cons T.kt_Kinds_tuple (isN_cons T.kt_Kinds_NoneType (isN_cons T.kt_Kinds_int (isN_cons T.kt_Kinds_bool isN_nil)))))⟩ rfl T.z_isinstance (by decide +kernel) (pe_glob (v := .ref T.C_Kinds) rfl T.g_Kinds rfl (by decide)) (.own _) (mv 1)) (me_one (me_cmp (op_eq_M hr.units) (me_fld (mv 0) T.g_Kinds T.cf_Kinds.cl T.na_Kinds_own_text) (me_fld (mv 1) T.g_Kinds T.cf_Kinds.cl T.na_Kinds_own_text) (nomark _))))))
theorem sc_part_in : FnScope N_part_in ["line"] (defScope s_part_in) := ⟨rfl, rfl, rfl, by decide +kernel, rfl, by decide +kernel, by decide +kernel⟩
theorem ok_part_in (T : Tx P K mg base) : FnG P w K mg base CX0 3 T.part_in.f T.part_in.fd ["line"] (spM ⟨K, mg⟩ F_part_in) :=
  fn_mir (k := 2) T.part_in.fu sc_part_in fun cdv A outer s H E hr => (mss_cons (ms_if (mt_not (mt_truth (me_strm PySem.F.slot_str_startswith PySem.F.type_str_startswith mb_starts (mv 0) (ma_cons (me_glob (d := .str "  ") (v := .str "  ") rfl T.c_INDENT ⟨_, rfl⟩ fun _ _ => .str _ (by decide)) ma_nil)))) (mss_one (ms_ret me_non)) mss_nil)
    (mss_cons (ms_set (i := 1) sc_part_in.nd rfl (by first | exact Or.inl rfl | exact Or.inr rfl) (me_strm PySem.F.slot_str_split PySem.F.type_str_split mb_split (me_slice sl_M (mv 0) (mo_some (me_callB cb_len rfl T.z_len (by decide +kernel) (ma_cons (me_glob (d := .str "  ") (v := .str "  ") rfl T.c_INDENT ⟨_, rfl⟩ fun _ _ => .str _ (by decide)) ma_nil))) mo_none) (ma_cons me_str ma_nil)))
    (mss_cons (ms_if (mt_w (mw_and (mt_cmp (op_eq_M hr.units) (me_callB cb_len rfl T.z_len (by decide +kernel) (ma_cons (mv 1) ma_nil)) me_int (nomark _)) (mw_and1 (mt_cmp (op_in_M (hu65 hr)) (me_ix ix_M (mv 1) me_int (fun _ _ => rfl)) (me_globT rfl T.c_MARKS T.k_MARKS (by decide +kernel)) (by rfl))))) (mss_one (ms_ret (me_tup (ma_cons (me_ix ix_M (mv 1) me_int (fun _ _ => rfl)) (ma_cons me_non ma_nil))))) mss_nil)
    (mss_cons (ms_if (mt_w (mw_and (mt_cmp (op_eq_M hr.units) (me_callB cb_len rfl T.z_len (by decide +kernel) (ma_cons (mv 1) ma_nil)) (me_glob (d := .int 2) (v := .int 2) rfl T.c_PAIR ⟨_, rfl⟩ fun _ _ => .int _) (nomark _)) (mw_and (mt_cmp (op_in_M (hu65 hr)) (me_ix ix_M (mv 1) me_int (fun _ _ => rfl)) (me_op op_add_M (me_op op_add_M (me_globT rfl T.c_FIELDS T.k_FIELDS (by decide +kernel)) (me_globT rfl T.c_ANSWERS T.k_ANSWERS (by decide +kernel))) (me_tup (ma_cons (me_glob (d := .str "unique") (v := .str "unique") rfl T.c_UNIQUE ⟨_, rfl⟩ fun _ _ => .str _ (by decide)) ma_nil))) (by rfl)) (mw_and1 (mt_truth (me_call (ok_is_free_name T) (hr.mono (by omega)) rfl T.is_free_name.mgx T.is_free_name.fu.kp T.is_free_name.bd (ma_cons (me_ix ix_M (mv 1) me_int (fun _ _ => rfl)) ma_nil))))))) (mss_one (ms_ret (me_tup (ma_cons (me_ix ix_M (mv 1) me_int (fun _ _ => rfl)) (ma_cons (me_ix ix_M (mv 1) me_int (fun _ _ => rfl)) ma_nil))))) mss_nil)
    (mss_one (ms_ret me_non))))))
theorem sc_kind_in : FnScope N_kind_in ["line"] (defScope s_kind_in) := ⟨rfl, rfl, rfl, by decide +kernel, rfl, by decide +kernel, by decide +kernel⟩
theorem ok_kind_in (T : Tx P K mg base) : FnG P w K mg base CX0 3 T.kind_in.f T.kind_in.fd ["line"] (spM ⟨K, mg⟩ F_kind_in) :=
  fn_mir (k := 2) T.kind_in.fu sc_kind_in fun cdv A outer s H E hr => (mss_cons (ms_set (i := 1) sc_kind_in.nd rfl (by first | exact Or.inl rfl | exact Or.inr rfl) (me_strm PySem.F.slot_str_split PySem.F.type_str_split mb_split (mv 0) (ma_cons me_str ma_nil)))
    (mss_cons (ms_set (i := 2) sc_kind_in.nd rfl (by first | exact Or.inl rfl | exact Or.inr rfl) (me_and (me_cmp (op_eq_M hr.units) (me_callB cb_len rfl T.z_len (by decide +kernel) (ma_cons (mv 1) ma_nil)) (me_glob (d := .int 2) (v := .int 2) rfl T.c_PAIR ⟨_, rfl⟩ fun _ _ => .int _) (nomark _)) (me_and (me_cmp (op_eq_M hr.units) (me_ix ix_M (mv 1) me_int (fun _ _ => rfl)) (me_glob (d := .str "kind") (v := .str "kind") rfl T.c_KIND ⟨_, rfl⟩ fun _ _ => .str _ (by decide)) (nomark _)) (me_one (me_call (ok_is_free_name T) (hr.mono (by omega)) rfl T.is_free_name.mgx T.is_free_name.fu.kp T.is_free_name.bd (ma_cons (me_ix ix_M (mv 1) me_int (fun _ _ => rfl)) ma_nil))))))
    (mss_one (ms_ret (me_if (mt_truth (mv 2)) (me_ix ix_M (mv 1) me_int (fun _ _ => rfl)) me_non)))))
theorem sc_takes_line : FnScope N_takes_line ["found", "line"] (defScope s_takes_line) := ⟨rfl, rfl, rfl, by decide +kernel, rfl, by decide +kernel, by decide +kernel⟩
theorem ok_takes_line (T : Tx P K mg base) : FnG P w K mg base CX0 4 T.takes_line.f T.takes_line.fd ["found", "line"] (spM ⟨K, mg⟩ F_takes_line) :=
  fn_mir (k := 3) T.takes_line.fu sc_takes_line fun cdv A outer s H E hr => (mss_cons (ms_par (i := 2) (j := 3) rfl sc_takes_line.nd rfl rfl (by decide) rfl rfl (ma_cons (me_call (ok_kind_in T) (hr.mono (by omega)) rfl T.kind_in.mgx T.kind_in.fu.kp T.kind_in.bd (ma_cons (mv 1) ma_nil)) (ma_cons (me_call (ok_part_in T) (hr.mono (by omega)) rfl T.part_in.mgx T.part_in.fu.kp T.part_in.bd (ma_cons (mv 1) ma_nil)) ma_nil)))
    (mss_cons (ms_if (mt_cmp op_isnot_M (mv 2) me_non (nomark _)) (mss_cons (ms_if (mt_w (mw_or (mt_inR hr (mv 2) (mv 0)) (mw_or1 (mt_cmp (op_eq_M hr.units) (me_callB cb_lenR rfl T.z_len (by decide +kernel) (ma_cons (mv 0) ma_nil)) (me_glob (d := .int 8) (v := .int 8) rfl T.c_MOST_KINDS ⟨_, rfl⟩ fun _ _ => .int _) (nomark _))))) (mss_one (ms_ret me_bl)) mss_nil)
    (mss_cons (ms_putR hr (me_mkP spOf_M T.mk_Kind (ok_Kind___init__ T) (hr.mono (by omega)) rfl T.g_Kind T.Kind___init__.bd (fun _ => pass1_0) (ma_cons (mv 2) ma_nil)) (mv 0) (mv 2))
    (mss_one (ms_ret me_bl)))) mss_nil)
    (mss_cons (ms_if (mt_w (mw_or (mt_cmp op_is_M (mv 3) me_non (nomark _)) (mw_or1 (mt_cmp (op_eqE (hu1 hr)) (mv 0) me_dic0 (nomark _))))) (mss_one (ms_ret me_bl)) mss_nil)
    (mss_cons (ms_set (i := 4) sc_takes_line.nd rfl (by first | exact Or.inl rfl | exact Or.inr rfl) (me_ix ix_M (me_callTy (cb_listR rfl) rfl T.z_list (by decide +kernel) (ma_cons (mv 0) ma_nil)) (me_un un_neg_M me_int) (fun _ _ => rfl)))
    (mss_one (ms_ret (me_methG spOf_M (me_getR hr (mv 0) (mv 4) (fun _ _ => rfl)) T.g_Kind T.cf_Kind.cl T.me_Kind_takes (ok_Kind_takes T) (hr.mono (by omega)) T.Kind_takes.bd (fun _ => pass1_0) (ma_cons (me_ix ix_M (mv 3) me_int (fun _ _ => rfl)) (ma_cons (me_ix ix_M (mv 3) me_int (fun _ _ => rfl)) ma_nil)))))))))
theorem sc_read_kinds : FnScope N_read_kinds ["text"] (defScope s_read_kinds) := ⟨rfl, rfl, rfl, by decide +kernel, rfl, by decide +kernel, by decide +kernel⟩
theorem ok_read_kinds (T : Tx P K mg base) : FnG P w K mg base (L2.CX P w) 5 T.read_kinds.f T.read_kinds.fd ["text"] (spX ⟨K, mg⟩ F_read_kinds) :=
  fn_mirX (k := 4) T.read_kinds.fu sc_read_kinds fun cdv A outer s H E hr tk ps => (mss_cons (ms_if (mt_not (mt_truth (me_isi rfl T.z_isinstance (by decide +kernel) rfl T.z_str (by decide +kernel) (mv 0)))) (mss_one (ms_raise tk rfl T.xv_BadKinds hr me_int)) mss_nil)
    (mss_cons (ms_set (i := 1) sc_read_kinds.nd rfl (by first | exact Or.inl rfl | exact Or.inr rfl) me_dicR)
    (mss_cons (ms_for ps rfl (mi_enum rfl T.z_enumerate (ma_cons (me_strm PySem.F.slot_str_split PySem.F.type_str_split mb_split (mv 0) (ma_cons me_str ma_nil)) ma_nil)) (mg_tup rfl (mgs_cons (mg_name (i := 2) sc_read_kinds.nd rfl (by first | exact Or.inl rfl | exact Or.inr rfl)) (mgs_cons (mg_name (i := 3) sc_read_kinds.nd rfl (by first | exact Or.inl rfl | exact Or.inr rfl)) mgs_nil))) (mss_one (ms_if (mt_not (mt_truth (me_call (ok_takes_line T) (hr.mono (by omega)) rfl T.takes_line.mgx T.takes_line.fu.kp T.takes_line.bd (ma_cons (mv 1) (ma_cons (mv 3) ma_nil))))) (mss_one (ms_raise tk rfl T.xv_BadKinds hr (mv 2))) mss_nil)))
    (mss_one (ms_ret (me_mkP spOf_M T.mk_Kinds (ok_Kinds___init__ T) (hr.mono (by omega)) rfl T.g_Kinds T.Kinds___init__.bd (fun _ => pass1_0) (ma_cons (mv 0) (ma_cons (mv 1) ma_nil))))))))
theorem sc_show_kinds : FnScope N_show_kinds ["kinds"] (defScope s_show_kinds) := ⟨rfl, rfl, rfl, by decide +kernel, rfl, by decide +kernel, by decide +kernel⟩
theorem ok_show_kinds (T : Tx P K mg base) : FnG P w K mg base CX0 1 T.show_kinds.f T.show_kinds.fd ["kinds"] (spM ⟨K, mg⟩ F_show_kinds) :=
  fn_mir (k := 0) T.show_kinds.fu sc_show_kinds fun cdv A outer s H E hr => (mss_one (ms_ret (me_fld (mv 0) T.g_Kinds T.cf_Kinds.cl T.na_Kinds_own_text)))
theorem sc__law_pot : FnScope N__law_pot ["_law_script", "_law_k"] (defScope s__law_pot) := ⟨rfl, rfl, rfl, by decide +kernel, rfl, by decide +kernel, by decide +kernel⟩
theorem ok__law_pot (T : Tx P K mg base) : FnG P w K mg base CX0 1 T._law_pot.f T._law_pot.fd ["_law_script", "_law_k"] (spM ⟨K, mg⟩ F__law_pot) :=
  fn_mir (k := 0) T._law_pot.fu sc__law_pot fun cdv A outer s H E hr => (mss_cons (ms_set (i := 2) sc__law_pot.nd rfl (by first | exact Or.inl rfl | exact Or.inr rfl) (me_if (mt_cmp op_lt_M (mv 1) (me_callB cb_len rfl T.z_len (by decide +kernel) (ma_cons (mv 0) ma_nil)) (nomark _)) (me_ix ix_M (mv 0) (mv 1) (fun _ _ => rfl)) (me_op op_add_M (me_op op_mul_M me_int (mv 1)) me_int)))
    (mss_cons (ms_set (i := 3) sc__law_pot.nd rfl (by first | exact Or.inl rfl | exact Or.inr rfl) (me_if (mt_cmp op_ge_M (me_callB cb_abs rfl T.z_abs (by decide +kernel) (ma_cons (mv 2) ma_nil)) (me_op op_pow_M me_int me_int) (nomark _)) (me_op op_mod_M (me_callB cb_abs rfl T.z_abs (by decide +kernel) (ma_cons (mv 2) ma_nil)) (me_op op_pow_M (me_op op_pow_M me_int me_int) me_int)) me_int))
    (mss_one (ms_ret (me_lstR (ma_cons (mv 3) (ma_cons (me_op op_mod_M (me_op op_add_M (me_op op_add_M (me_op op_mul_M (me_op op_mod_M (mv 2) me_int) me_int) (me_op op_mul_M (me_op op_mul_M me_int (mv 1)) (mv 1))) me_int) me_int) (ma_cons me_int ma_nil))))))))
theorem sc__law_take : FnScope N__law_take ["_law_pot_here", "_law_size"] (defScope s__law_take) := ⟨rfl, rfl, rfl, by decide +kernel, rfl, by decide +kernel, by decide +kernel⟩
theorem ok__law_take (T : Tx P K mg base) : FnG P w K mg base CX0 1 T._law_take.f T._law_take.fd ["_law_pot_here", "_law_size"] (spM ⟨K, mg⟩ F__law_take) :=
  fn_mir (k := 0) T._law_take.fu sc__law_take fun cdv A outer s H E hr => (mss_cons (ms_if (mt_cmp op_gt_M (me_ix ix_M (mv 0) me_int (fun _ _ => rfl)) me_int (nomark _)) (mss_cons (ms_set (i := 4) sc__law_take.nd rfl (by first | exact Or.inl rfl | exact Or.inr rfl) (me_op op_mod_M (me_ix ix_M (mv 0) me_int (fun _ _ => rfl)) (mv 1)))
    (mss_cons (ms_setIx (me_op op_div_M (me_ix ix_M (mv 0) me_int (fun _ _ => rfl)) (mv 1)) (mv 0) me_int)
    (mss_one (ms_ret (mv 4))))) mss_nil)
    (mss_cons (ms_setIx (me_op op_add_M (me_ix ix_M (mv 0) me_int (fun _ _ => rfl)) me_int) (mv 0) me_int)
    (mss_cons (ms_set (i := 2) sc__law_take.nd rfl (by first | exact Or.inl rfl | exact Or.inr rfl) (me_ix ix_M (me_lst (ma_cons me_int (ma_cons me_int (ma_cons me_int (ma_cons me_int (ma_cons me_int ma_nil)))))) (me_op op_mod_M (me_ix ix_M (mv 0) me_int (fun _ _ => rfl)) me_int) (fun _ _ => rfl)))
    (mss_cons (ms_set (i := 3) sc__law_take.nd rfl (by first | exact Or.inl rfl | exact Or.inr rfl) (me_op op_mod_M (me_op op_pow_M (me_op op_add_M (me_op op_add_M (me_ix ix_M (mv 0) me_int (fun _ _ => rfl)) (me_op op_mul_M (me_op op_mul_M me_int (me_ix ix_M (mv 0) me_int (fun _ _ => rfl))) (me_ix ix_M (mv 0) me_int (fun _ _ => rfl)))) me_int) me_int) (mv 2)))
    (mss_one (ms_ret (me_op op_mod_M (me_op op_div_M (me_op op_mod_M (me_op op_mul_M (mv 3) (me_op op_add_M (me_op op_mod_M (mv 3) me_int) (me_op op_mul_M me_int (me_ix ix_M (mv 0) me_int (fun _ _ => rfl))))) me_int) me_int) (mv 1))))))))
theorem sc__law_pick : FnScope N__law_pick ["_law_pot_here", "_law_some"] (defScope s__law_pick) := ⟨rfl, rfl, rfl, by decide +kernel, rfl, by decide +kernel, by decide +kernel⟩
theorem ok__law_pick (T : Tx P K mg base) : FnG P w K mg base CX0 2 T._law_pick.f T._law_pick.fd ["_law_pot_here", "_law_some"] (spM ⟨K, mg⟩ F__law_pick) :=
  fn_mir (k := 1) T._law_pick.fu sc__law_pick fun cdv A outer s H E hr => (mss_one (ms_ret (me_ix ix_M (mv 1) (me_call (ok__law_take T) (hr.mono (by omega)) rfl T._law_take.mgx T._law_take.fu.kp T._law_take.bd (ma_cons (mv 0) (ma_cons (me_callB cb_len rfl T.z_len (by decide +kernel) (ma_cons (mv 1) ma_nil)) ma_nil))) (fun _ _ => rfl))))
theorem sc__law_kind_lines : FnScope N__law_kind_lines ["_law_pot_here", "_law_name"] (defScope s__law_kind_lines) := ⟨rfl, rfl, rfl, by decide +kernel, rfl, by decide +kernel, by decide +kernel⟩
theorem ok__law_kind_lines (T : Tx P K mg base) : FnG P w K mg base CX0 3 T._law_kind_lines.f T._law_kind_lines.fd ["_law_pot_here", "_law_name"] (spM ⟨K, mg⟩ F__law_kind_lines) :=
  fn_mir (k := 2) T._law_kind_lines.fu sc__law_kind_lines fun cdv A outer s H E hr => (mss_cons (ms_set (i := 2) sc__law_kind_lines.nd rfl (by first | exact Or.inl rfl | exact Or.inr rfl) (me_lstR (ma_cons me_str (ma_cons me_str (ma_cons me_str (ma_cons me_str (ma_cons me_str (ma_cons me_str (ma_cons me_str (ma_cons me_str (ma_cons me_str (ma_cons me_str ma_nil))))))))))))
    (mss_cons (ms_par (i := 3) (j := 4) rfl sc__law_kind_lines.nd rfl rfl (by decide) rfl rfl (ma_cons (me_lstR ma_nil) (ma_cons (me_lstR ma_nil) ma_nil)))
    (mss_cons (ms_for PassesOwn.never rfl (mi_range1 rfl T.z_range (ma_cons (me_call (ok__law_take T) (hr.mono (by omega)) rfl T._law_take.mgx T._law_take.fu.kp T._law_take.bd (ma_cons (mv 0) (ma_cons me_int ma_nil))) ma_nil)) (mg_name (i := 5) sc__law_kind_lines.nd rfl (by first | exact Or.inl rfl | exact Or.inr rfl)) (mss_cons (ms_expr (me_lm PySem.F.slot_list_append PySem.F.type_list_append lm_append (mv 4) (ma_cons (me_lm PySem.F.slot_list_pop PySem.F.type_list_pop lm_pop (mv 2) (ma_cons (me_call (ok__law_take T) (hr.mono (by omega)) rfl T._law_take.mgx T._law_take.fu.kp T._law_take.bd (ma_cons (mv 0) (ma_cons (me_callB cb_len rfl T.z_len (by decide +kernel) (ma_cons (mv 2) ma_nil)) ma_nil))) ma_nil)) ma_nil)))
    (mss_cons (ms_expr (me_lm PySem.F.slot_list_append PySem.F.type_list_append lm_append (mv 3) (ma_cons (me_tup (ma_cons (me_call (ok__law_pick T) (hr.mono (by omega)) rfl T._law_pick.mgx T._law_pick.fu.kp T._law_pick.bd (ma_cons (mv 0) (ma_cons (me_lst (ma_cons me_str (ma_cons me_str (ma_cons me_str ma_nil)))) ma_nil))) (ma_cons (me_ix ix_M (mv 4) (me_un un_neg_M me_int) (fun _ _ => rfl)) ma_nil))) ma_nil)))
    (mss_cons (ms_set (i := 7) sc__law_kind_lines.nd rfl (by first | exact Or.inl rfl | exact Or.inr rfl) (me_tup (ma_cons me_str (ma_cons (me_call (ok__law_pick T) (hr.mono (by omega)) rfl T._law_pick.mgx T._law_pick.fu.kp T._law_pick.bd (ma_cons (mv 0) (ma_cons (mv 4) ma_nil))) ma_nil))))
    (mss_one (ms_if (mt_w (mw_and (mt_cmp (op_eq_M hr.units) (me_call (ok__law_take T) (hr.mono (by omega)) rfl T._law_take.mgx T._law_take.fu.kp T._law_take.bd (ma_cons (mv 0) (ma_cons me_int ma_nil))) me_int (nomark _)) (mw_and1 (mt_cmp (op_notIn_M (hu65 hr)) (mv 7) (mv 3) (by rfl))))) (mss_one (ms_expr (me_lm PySem.F.slot_list_append PySem.F.type_list_append lm_append (mv 3) (ma_cons (mv 7) ma_nil)))) mss_nil))))))
    (mss_cons (ms_set (i := 6) sc__law_kind_lines.nd rfl (by first | exact Or.inl rfl | exact Or.inr rfl) (me_lstR ma_nil))
    (mss_cons (ms_for PassesOwn.never rfl (mi_range1 rfl T.z_range (ma_cons (me_call (ok__law_take T) (hr.mono (by omega)) rfl T._law_take.mgx T._law_take.fu.kp T._law_take.bd (ma_cons (mv 0) (ma_cons me_int ma_nil))) ma_nil)) (mg_name (i := 5) sc__law_kind_lines.nd rfl (by first | exact Or.inl rfl | exact Or.inr rfl)) (mss_one (ms_expr (me_lm PySem.F.slot_list_append PySem.F.type_list_append lm_append (mv 6) (ma_cons (me_tup (ma_cons (me_call (ok__law_pick T) (hr.mono (by omega)) rfl T._law_pick.mgx T._law_pick.fu.kp T._law_pick.bd (ma_cons (mv 0) (ma_cons (me_lst (ma_cons me_str (ma_cons me_str ma_nil))) ma_nil))) (ma_cons (me_lm PySem.F.slot_list_pop PySem.F.type_list_pop lm_pop (mv 2) (ma_cons (me_call (ok__law_take T) (hr.mono (by omega)) rfl T._law_take.mgx T._law_take.fu.kp T._law_take.bd (ma_cons (mv 0) (ma_cons (me_callB cb_len rfl T.z_len (by decide +kernel) (ma_cons (mv 2) ma_nil)) ma_nil))) ma_nil)) ma_nil))) ma_nil)))))
    (mss_cons (ms_for PassesOwn.never rfl (mi_list (me_op op_add_M (mv 6) (me_lst (ma_cons (me_tup (ma_cons me_str ma_nil)) (ma_cons (me_tup (ma_cons me_str ma_nil)) (ma_cons (me_tup (ma_cons me_str ma_nil)) (ma_cons (me_tup (ma_cons me_str ma_nil)) ma_nil))))))) (mg_name (i := 7) sc__law_kind_lines.nd rfl (by first | exact Or.inl rfl | exact Or.inr rfl)) (mss_one (ms_if (mt_w (mw_or (mt_cmp (op_eq_M hr.units) (me_callB cb_len rfl T.z_len (by decide +kernel) (ma_cons (mv 7) ma_nil)) me_int (nomark _)) (mw_or1 (mt_cmp (op_eq_M hr.units) (me_call (ok__law_take T) (hr.mono (by omega)) rfl T._law_take.mgx T._law_take.fu.kp T._law_take.bd (ma_cons (mv 0) (ma_cons me_int ma_nil))) me_int (nomark _))))) (mss_one (ms_expr (me_lm PySem.F.slot_list_insert PySem.F.type_list_insert lm_insert (mv 3) (ma_cons (me_call (ok__law_take T) (hr.mono (by omega)) rfl T._law_take.mgx T._law_take.fu.kp T._law_take.bd (ma_cons (mv 0) (ma_cons (me_op op_add_M (me_callB cb_len rfl T.z_len (by decide +kernel) (ma_cons (mv 3) ma_nil)) me_int) ma_nil))) (ma_cons (mv 7) ma_nil))))) mss_nil)))
    (mss_one (ms_ret (me_op op_add_M (me_lst (ma_cons (me_tup (ma_cons me_str (ma_cons (mv 1) ma_nil))) ma_nil)) (mv 3))))))))))
theorem sc__law_kinds_lines : FnScope N__law_kinds_lines ["_law_pot_here"] (defScope s__law_kinds_lines) := ⟨rfl, rfl, rfl, by decide +kernel, rfl, by decide +kernel, by decide +kernel⟩
theorem ok__law_kinds_lines (T : Tx P K mg base) : FnG P w K mg base CX0 4 T._law_kinds_lines.f T._law_kinds_lines.fd ["_law_pot_here"] (spM ⟨K, mg⟩ F__law_kinds_lines) :=
  fn_mir (k := 3) T._law_kinds_lines.fu sc__law_kinds_lines fun cdv A outer s H E hr => (mss_cons (ms_par (i := 1) (j := 2) rfl sc__law_kinds_lines.nd rfl rfl (by decide) rfl rfl (ma_cons (me_lstR (ma_cons me_str (ma_cons me_str (ma_cons me_str (ma_cons me_str (ma_cons me_str (ma_cons me_str (ma_cons me_str (ma_cons me_str ma_nil))))))))) (ma_cons (me_lstR ma_nil) ma_nil)))
    (mss_cons (ms_for PassesOwn.never rfl (mi_range1 rfl T.z_range (ma_cons (me_call (ok__law_pick T) (hr.mono (by omega)) rfl T._law_pick.mgx T._law_pick.fu.kp T._law_pick.bd (ma_cons (mv 0) (ma_cons (me_lst (ma_cons me_int (ma_cons me_int (ma_cons me_int (ma_cons me_int (ma_cons me_int ma_nil)))))) ma_nil))) ma_nil)) (mg_name (i := 3) sc__law_kinds_lines.nd rfl (by first | exact Or.inl rfl | exact Or.inr rfl)) (mss_one (ms_expr (me_lm PySem.F.slot_list_extend PySem.F.type_list_extend lm_extend (mv 2) (ma_cons (me_call (ok__law_kind_lines T) (hr.mono (by omega)) rfl T._law_kind_lines.mgx T._law_kind_lines.fu.kp T._law_kind_lines.bd (ma_cons (mv 0) (ma_cons (me_lm PySem.F.slot_list_pop PySem.F.type_list_pop lm_pop (mv 1) (ma_cons (me_call (ok__law_take T) (hr.mono (by omega)) rfl T._law_take.mgx T._law_take.fu.kp T._law_take.bd (ma_cons (mv 0) (ma_cons (me_callB cb_len rfl T.z_len (by decide +kernel) (ma_cons (mv 1) ma_nil)) ma_nil))) ma_nil)) ma_nil))) ma_nil)))))
    (mss_one (ms_ret (mv 2)))))
theorem sc__law_kinds_text : FnScope N__law_kinds_text ["_law_lines"] (defScope s__law_kinds_text) := ⟨rfl, rfl, rfl, by decide +kernel, rfl, by decide +kernel, by decide +kernel⟩
theorem ok__law_kinds_text (T : Tx P K mg base) : FnG P w K mg base CX0 1 T._law_kinds_text.f T._law_kinds_text.fd ["_law_lines"] (spM ⟨K, mg⟩ F__law_kinds_text) :=
  fn_mir (k := 0) T._law_kinds_text.fu sc__law_kinds_text fun cdv A outer s H E hr => (mss_one (ms_ret (me_strm PySem.F.slot_str_join PySem.F.type_str_join mb_join2 me_str (ma_cons (me_lc (own := [("_law_line", 1)]) rfl sc__law_kinds_text.nd (mi_list (mv 0)) (blkOk_by (own := [("_law_line", 1)]) (N := N__law_kinds_text) (sc := defScope s__law_kinds_text) (by decide +kernel)) (fun _ _ _ _ _ => (mg_name (i := 1) sc__law_kinds_text.nd rfl (by first | exact Or.inl rfl | exact Or.inr rfl))) (fun _ _ _ _ _ => mts_nil) (fun _ _ _ _ _ => (me_op op_add_M (me_if (mt_cmp (op_eq_M hr.units) (me_ix ix_M (mv 1) me_int (fun _ _ => rfl)) me_str (nomark _)) me_str me_str) (me_strm PySem.F.slot_str_join PySem.F.type_str_join mb_join2 me_str (ma_cons (mv 1) ma_nil))))) ma_nil))))
theorem sc__law_unknown : FnScope N__law_unknown ["_law_call"] (defScope s__law_unknown) := ⟨rfl, rfl, rfl, by decide +kernel, rfl, by decide +kernel, by decide +kernel⟩
theorem ok__law_unknown (T : Tx P K mg base) {A : Around} {outer : List PySem.Env} {s : Shared} {H : Hp} {cdv : Value} {fe : ET} {kc : Clo} (hr : RoomG 0 (A.deeper (envOfC "_law_unknown" (defScope s__law_unknown) s.heap.objs.size T._law_unknown.f cdv)))
    (act : ∀ (E' : L2.St → XK) (pn : List (Addr × Obj)) (xe : Value → Shared → Prop) (p1 p2 : Pos), TkM ((cxOf CX0 P w K mg base N__law_unknown "_law_unknown" (defScope s__law_unknown) T._law_unknown.f cdv A outer s H E0).tr pn xe) E' → ME ((cxOf CX0 P w K mg base N__law_unknown "_law_unknown" (defScope s__law_unknown) T._law_unknown.f cdv A outer s H E0).tr pn xe) E' (.Call (.Name "_law_call" p1) [] [] p2) (mAct fe kc)) :
    MSs (cxOf CX0 P w K mg base N__law_unknown "_law_unknown" (defScope s__law_unknown) T._law_unknown.f cdv A outer s H E0).nox E00 (defBody s__law_unknown) (b__law_unknown fe kc) := (mss_cons (ms_set (i := 1) sc__law_unknown.nd rfl (by first | exact Or.inl rfl | exact Or.inr rfl) me_non)
    (mss_cons (ms_try (ec := .ref T.C_LaterError) (i := 3) (j := 1) (cs := [("NoKind", true)]) takes0 rfl rfl rfl sc__law_unknown.nd rfl rfl ⟨rfl, by decide, .inl T.g_LaterError⟩ (exmT_cons T.g_NoKind T.em_LaterError_NoKind exmT_nil) rfl (by first | exact Or.inl rfl | exact Or.inr rfl) (by decide) (fun E' pn xe tk ps => (mss_one (ms_expr (act _ _ _ _ _ tk)))))
    (mss_cons (ms_if (mt_cmp op_is_M (mv 1) me_non (nomark _)) (mss_one (ms_ret (me_lst ma_nil))) mss_nil)
    (mss_cons (ms_set (i := 2) sc__law_unknown.nd rfl (by first | exact Or.inl rfl | exact Or.inr rfl) (me_and (me_is1 (u := .ref T.C_NoKind) ⟨(isE_cons T.xc_NoKind T.kt_NoKind_NoKind isE_nil), isI_nil, isN_nil⟩ rfl T.z_isinstance (by decide +kernel) (pe_glob (v := .ref T.C_NoKind) rfl T.g_NoKind rfl (by decide)) (.own _) (mv 1)) (me_one (me_not (me_isN (us := [.ref T.C_BadKinds, .ref T.C_NoField]) ⟨(isE_cons T.xc_NoKind T.kt_BadKinds_NoField_NoKind isE_nil), isI_nil, isN_nil⟩ rfl T.z_isinstance (by decide +kernel) (pc_cons (pe_glob (v := .ref T.C_BadKinds) rfl T.g_BadKinds rfl (by decide)) (pc_cons (pe_glob (v := .ref T.C_NoField) rfl T.g_NoField rfl (by decide)) pc_nil)) (.cons (.own _) (.cons (.own _) .nil)) (by rw [sizeLine_eq]; exact (by decide : 2 ≤ 16777216)) (mv 1))))))
    (mss_one (ms_ret (me_if (mt_truth (mv 2)) (me_lst (ma_cons (me_xv (xvF_cons T.xc_NoKind T.nx_NoKind_value xvF_nil) (mv 1)) ma_nil)) me_non)))))))
theorem sc__law_named : FnScope N__law_named ["_law_lines", "_law_word"] (defScope s__law_named) := ⟨rfl, rfl, rfl, by decide +kernel, rfl, by decide +kernel, by decide +kernel⟩
theorem ok__law_named (T : Tx P K mg base) : FnG P w K mg base CX0 1 T._law_named.f T._law_named.fd ["_law_lines", "_law_word"] (spM ⟨K, mg⟩ F__law_named) :=
  fn_mir (k := 0) T._law_named.fu sc__law_named fun cdv A outer s H E hr => (mss_one (ms_ret (me_callTy cb_tuple rfl T.z_tuple (by decide +kernel) (ma_cons (me_lc (own := [("_law_line", 2)]) rfl sc__law_named.nd (mi_list (mv 0)) (blkOk_by (own := [("_law_line", 2)]) (N := N__law_named) (sc := defScope s__law_named) (by decide +kernel)) (fun _ _ _ _ _ => (mg_name (i := 2) sc__law_named.nd rfl (by first | exact Or.inl rfl | exact Or.inr rfl))) (fun _ _ _ _ _ => (mts_one (mt_cmp (op_eq_M hr.units) (me_ix ix_M (mv 2) me_int (fun _ _ => rfl)) (mv 1) (nomark _)))) (fun _ _ _ _ _ => (me_ix ix_M (mv 2) me_int (fun _ _ => rfl)))) ma_nil))))
theorem sc__law_is_kind : FnScope N__law_is_kind ["_law_one", "_law_lines"] (defScope s__law_is_kind) := ⟨rfl, rfl, rfl, by decide +kernel, rfl, by decide +kernel, by decide +kernel⟩
theorem ok__law_is_kind (T : Tx P K mg base) : FnG P w K mg base CX0 4 T._law_is_kind.f T._law_is_kind.fd ["_law_one", "_law_lines"] (spM ⟨K, mg⟩ F__law_is_kind) :=
  fn_mir (k := 3) T._law_is_kind.fu sc__law_is_kind fun cdv A outer s H E hr => (mss_cons (ms_if (mt_w (mw_or (mt_cmp (op_ne_M hr.units) (me_prop spOf_M (mv 0) T.g_Kind T.cf_Kind.cl T.po_Kind_name (ok_Kind_name T) (hr.mono (by omega)) T.Kind_name.bd pass0) (me_ix ix_M (me_ix ix_M (mv 1) me_int (fun _ _ => rfl)) me_int (fun _ _ => rfl)) (nomark _)) (mw_or1 (mt_cmp (op_ne_M hr.units) (me_prop spOf_M (mv 0) T.g_Kind T.cf_Kind.cl T.po_Kind_set_fields (ok_Kind_set_fields T) (hr.mono (by omega)) T.Kind_set_fields.bd pass0) (me_call (ok__law_named T) (hr.mono (by omega)) rfl T._law_named.mgx T._law_named.fu.kp T._law_named.bd (ma_cons (mv 1) (ma_cons me_str ma_nil))) (nomark _))))) (mss_one (ms_ret me_bl)) mss_nil)
    (mss_cons (ms_if (mt_w (mw_or (mt_cmp (op_ne_M hr.units) (me_prop spOf_M (mv 0) T.g_Kind T.cf_Kind.cl T.po_Kind_fixed_fields (ok_Kind_fixed_fields T) (hr.mono (by omega)) T.Kind_fixed_fields.bd pass0) (me_call (ok__law_named T) (hr.mono (by omega)) rfl T._law_named.mgx T._law_named.fu.kp T._law_named.bd (ma_cons (mv 1) (ma_cons me_str ma_nil))) (nomark _)) (mw_or1 (mt_cmp (op_ne_M hr.units) (me_prop spOf_M (mv 0) T.g_Kind T.cf_Kind.cl T.po_Kind_fresh_answers (ok_Kind_fresh_answers T) (hr.mono (by omega)) T.Kind_fresh_answers.bd pass0) (me_call (ok__law_named T) (hr.mono (by omega)) rfl T._law_named.mgx T._law_named.fu.kp T._law_named.bd (ma_cons (mv 1) (ma_cons me_str ma_nil))) (nomark _))))) (mss_one (ms_ret me_bl)) mss_nil)
    (mss_cons (ms_if (mt_w (mw_or (mt_cmp (op_ne_M hr.units) (me_prop spOf_M (mv 0) T.g_Kind T.cf_Kind.cl T.po_Kind_free_answers (ok_Kind_free_answers T) (hr.mono (by omega)) T.Kind_free_answers.bd pass0) (me_call (ok__law_named T) (hr.mono (by omega)) rfl T._law_named.mgx T._law_named.fu.kp T._law_named.bd (ma_cons (mv 1) (ma_cons me_str ma_nil))) (nomark _)) (mw_or1 (mt_cmp (op_ne_M hr.units) (me_prop spOf_M (mv 0) T.g_Kind T.cf_Kind.cl T.po_Kind_unique_fields (ok_Kind_unique_fields T) (hr.mono (by omega)) T.Kind_unique_fields.bd pass0) (me_call (ok__law_named T) (hr.mono (by omega)) rfl T._law_named.mgx T._law_named.fu.kp T._law_named.bd (ma_cons (mv 1) (ma_cons me_str ma_nil))) (nomark _))))) (mss_one (ms_ret me_bl)) mss_nil)
    (mss_cons (ms_set (i := 2) sc__law_is_kind.nd rfl (by first | exact Or.inl rfl | exact Or.inr rfl) (me_callB (cb_show hr) rfl T.z_repr (by decide +kernel) (ma_cons (me_lst (ma_cons (me_prop spOf_M (mv 0) T.g_Kind T.cf_Kind.cl T.po_Kind_held (ok_Kind_held T) (hr.mono (by omega)) T.Kind_held.bd pass0) (ma_cons (me_prop spOf_M (mv 0) T.g_Kind T.cf_Kind.cl T.po_Kind_single (ok_Kind_single T) (hr.mono (by omega)) T.Kind_single.bd pass0) (ma_cons (me_prop spOf_M (mv 0) T.g_Kind T.cf_Kind.cl T.po_Kind_token (ok_Kind_token T) (hr.mono (by omega)) T.Kind_token.bd pass0) (ma_cons (me_prop spOf_M (mv 0) T.g_Kind T.cf_Kind.cl T.po_Kind_guarded (ok_Kind_guarded T) (hr.mono (by omega)) T.Kind_guarded.bd pass0) ma_nil))))) ma_nil)))
    (mss_one (ms_ret (me_cmp (op_eq_M hr.units) (mv 2) (me_callB (cb_show hr) rfl T.z_repr (by decide +kernel) (ma_cons (me_lc (own := [("_law_word", 3)]) rfl sc__law_is_kind.nd (mi_tup (me_tup (ma_cons me_str (ma_cons me_str (ma_cons me_str (ma_cons me_str ma_nil)))))) (blkOk_by (own := [("_law_word", 3)]) (N := N__law_is_kind) (sc := defScope s__law_is_kind) (by decide +kernel)) (fun _ _ _ _ _ => (mg_name (i := 3) sc__law_is_kind.nd rfl (by first | exact Or.inl rfl | exact Or.inr rfl))) (fun _ _ _ _ _ => mts_nil) (fun _ _ _ _ _ => (me_cmp (op_in_M (hu65 hr)) (me_tup (ma_cons (mv 3) ma_nil)) (mv 1) (by rfl)))) ma_nil)) (nomark _))))))))
theorem sc__law_is_right : FnScope N__law_is_right ["_law_made", "_law_lines"] (defScope s__law_is_right) := ⟨rfl, rfl, rfl, by decide +kernel, rfl, by decide +kernel, by decide +kernel⟩
theorem ok__law_is_right (T : Tx P K mg base) : FnG P w K mg base CX0 5 T._law_is_right.f T._law_is_right.fd ["_law_made", "_law_lines"] (spM ⟨K, mg⟩ F__law_is_right) :=
  fn_mirC (k := 4) T._law_is_right.fu T.co__law_is_right sc__law_is_right fun cdv hc A outer s H E hr => (mss_cons (ms_set (i := 2) sc__law_is_right.nd rfl (by first | exact Or.inl rfl | exact Or.inr rfl) (me_op op_add_M (me_lc (own := [("_law_at", 4), ("_law_line", 8)]) rfl sc__law_is_right.nd (mi_enum rfl T.z_enumerate (ma_cons (mv 1) ma_nil)) (blkOk_by (own := [("_law_at", 4), ("_law_line", 8)]) (N := N__law_is_right) (sc := defScope s__law_is_right) (by decide +kernel)) (fun _ _ _ _ _ => (mg_tup rfl (mgs_cons (mg_name (i := 4) sc__law_is_right.nd rfl (by first | exact Or.inl rfl | exact Or.inr rfl)) (mgs_cons (mg_name (i := 8) sc__law_is_right.nd rfl (by first | exact Or.inl rfl | exact Or.inr rfl)) mgs_nil)))) (fun _ _ _ _ _ => (mts_one (mt_cmp (op_eq_M hr.units) (me_ix ix_M (mv 8) me_int (fun _ _ => rfl)) me_str (nomark _)))) (fun _ _ _ _ _ => (mv 4))) (me_lst (ma_cons (me_callB cb_len rfl T.z_len (by decide +kernel) (ma_cons (mv 1) ma_nil)) ma_nil))))
    (mss_cons (ms_setLc (i := 3) (own := [("_law_at", 4)]) rfl sc__law_is_right.nd rfl rfl (sw_true rfl rfl rfl (by decide +kernel)) (mi_list (me_slice sl_M (mv 2) mo_none (mo_some (me_un un_neg_M me_int)))) (blkOk_by (own := [("_law_at", 4)]) (N := N__law_is_right) (sc := defScope s__law_is_right) (by decide +kernel)) (fun _ _ _ _ _ => (mg_name (i := 4) sc__law_is_right.nd rfl (by first | exact Or.inl rfl | exact Or.inr rfl))) (fun _ _ _ _ _ => mts_nil) (fun _ _ _ _ _ => (me_ix ix_M (mv 1) (mv 4) (fun _ _ => rfl))))
    (mss_cons (ms_if (mt_w (mw_or (mt_cmp (op_ne_M hr.units) (me_prop spOf_M (mv 0) T.g_Kinds T.cf_Kinds.cl T.po_Kinds_names (ok_Kinds_names T) (hr.mono (by omega)) T.Kinds_names.bd pass0) (me_callTy cb_tuple rfl T.z_tuple (by decide +kernel) (ma_cons (me_lc (own := [("_law_line", 8)]) rfl sc__law_is_right.nd (mi_list (mv 3)) (blkOk_by (own := [("_law_line", 8)]) (N := N__law_is_right) (sc := defScope s__law_is_right) (by decide +kernel)) (fun _ _ _ _ _ => (mg_name (i := 8) sc__law_is_right.nd rfl (by first | exact Or.inl rfl | exact Or.inr rfl))) (fun _ _ _ _ _ => mts_nil) (fun _ _ _ _ _ => (me_ix ix_M (mv 8) me_int (fun _ _ => rfl)))) ma_nil)) (nomark _)) (mw_or1 (mt_cmp (op_ne_M hr.units) (me_lenX spOf_M T.g_Kinds (call_lenX T.me_Kinds___len__.at_ T.me_Kinds___len__.fn (ok_Kinds___len__ T) (hr.mono (by omega)) T.Kinds___len__.bd (fun _ => pass1_0)) rfl T.z_len (by decide +kernel) (ma_cons (mv 0) ma_nil)) (me_callB cb_len rfl T.z_len (by decide +kernel) (ma_cons (mv 3) ma_nil)) (nomark _))))) (mss_one (ms_ret me_bl)) mss_nil)
    (mss_cons (ms_for PassesOwn.never rfl (mi_zip rfl T.z_zip (ma_cons (mv 2) (ma_cons (me_slice sl_M (mv 2) (mo_some me_int) mo_none) ma_nil))) (mg_tup rfl (mgs_cons (mg_name (i := 4) sc__law_is_right.nd rfl (by first | exact Or.inl rfl | exact Or.inr rfl)) (mgs_cons (mg_name (i := 5) sc__law_is_right.nd rfl (by first | exact Or.inl rfl | exact Or.inr rfl)) mgs_nil))) (mss_cons (ms_set (i := 7) sc__law_is_right.nd rfl (by first | exact Or.inl rfl | exact Or.inr rfl) (me_ix ix_M (me_ix ix_M (mv 1) (mv 4) (fun _ _ => rfl)) me_int (fun _ _ => rfl)))
    (mss_one (ms_if (mt_w (mw_or (mt_inX spOf_M T.g_Kinds (op_niX T.me_Kinds___contains__.at_ T.me_Kinds___contains__.fn (ok_Kinds___contains__ T) (hr.mono (by omega)) T.Kinds___contains__.bd (fun _ => pass1_0)) (mv 7) (mv 0) (by rfl)) (mw_or1 (mt_not (mt_truth (me_call (ok__law_is_kind T) (hr.mono (by omega)) rfl T._law_is_kind.mgx T._law_is_kind.fu.kp T._law_is_kind.bd (ma_cons (me_subX spOf_Q T.g_Kinds T.me_Kinds___getitem__.at_ T.fn_Kinds___getitem__ T.me_Kinds___getitem__.fn (ok_Kinds___getitem__ T) (hr.mono (by omega)) T.Kinds___getitem__.bd (fun _ => pass1_L) (mv 0) (mv 7) plain2_name) (ma_cons (me_slice sl_M (mv 1) (mo_some (mv 4)) (mo_some (mv 5))) ma_nil)))))))) (mss_one (ms_ret me_bl)) mss_nil))))
    (mss_cons (ms_for PassesOwn.never rfl (mi_list (me_lst (ma_cons me_str (ma_cons me_str (ma_cons me_str (ma_cons me_non (ma_cons me_bl (ma_cons me_int (ma_cons (me_tup ma_nil) (ma_cons (me_tup (ma_cons me_str ma_nil)) (ma_cons (me_lst (ma_cons me_str ma_nil)) (ma_cons me_dic0 (ma_cons me_str (ma_cons me_str ma_nil)))))))))))))) (mg_name (i := 6) sc__law_is_right.nd rfl (by first | exact Or.inl rfl | exact Or.inr rfl)) (mss_one (ms_if (mt_w (mw_or (mt_inX spOf_M T.g_Kinds (op_inX T.me_Kinds___contains__.at_ T.me_Kinds___contains__.fn (ok_Kinds___contains__ T) (hr.mono (by omega)) T.Kinds___contains__.bd (fun _ => pass1_0)) (mv 6) (mv 0) (by rfl)) (mw_or1 (mt_cmp (op_ne_M hr.units) (me_callB (cb_show hr) rfl T.z_repr (by decide +kernel) (ma_cons (me_lam (k := 2) (js := [0, 6]) (n0 := 0) (n := 9) (Fg := (F__law_unknown (mSubX "Kinds" F_Kinds___getitem__ (mVar 0) (mVar 6)))) (Fb := fun kc => b__law_unknown (mSubX "Kinds" F_Kinds___getitem__ (mVar 0) (mVar 6)) kc) (fun _ => rfl) T._law_unknown.fu T._law_unknown.bd rfl T._law_unknown.mgx sc__law_unknown rfl (by first | exact Or.inl rfl | exact Or.inr (Or.inl rfl) | exact Or.inr (Or.inr rfl)) T.tb__law_is_right T.ti__law_is_right hc (hr.mono (by omega)) (LamX.lamS_by (sc := defScope s__law_is_right) (by decide +kernel)) (fun cdv kc s H hr act => ok__law_unknown T (hr.mono (by omega)) act) (fun A outer s H E f c' hr tk ps => (me_subX spOf_X T.g_Kinds T.me_Kinds___getitem__.at_ T.fn_Kinds___getitem__ T.me_Kinds___getitem__.fn (ok_Kinds___getitem__ T) (hr.mono (by omega)) T.Kinds___getitem__.bd (fun _ => pass1_X tk) (mv 0) (mv 6) plain2_name)) rfl) ma_nil)) (me_callB (cb_show hr) rfl T.z_repr (by decide +kernel) (ma_cons (me_lst (ma_cons (mv 6) ma_nil)) ma_nil)) (nomark _))))) (mss_one (ms_ret me_bl)) mss_nil)))
    (mss_one (ms_ret me_bl)))))))
theorem sc__law_right : FnScope N__law_right ["_law_pot_here"] (defScope s__law_right) := ⟨rfl, rfl, rfl, by decide +kernel, rfl, by decide +kernel, by decide +kernel⟩
theorem ok__law_right (T : Tx P K mg base) : FnG P w K mg base CX0 6 T._law_right.f T._law_right.fd ["_law_pot_here"] (spM ⟨K, mg⟩ F__law_right) :=
  fn_mir (k := 5) T._law_right.fu sc__law_right fun cdv A outer s H E hr => (mss_cons (ms_set (i := 1) sc__law_right.nd rfl (by first | exact Or.inl rfl | exact Or.inr rfl) (me_lstR ma_nil))
    (mss_cons (ms_for PassesOwn.never rfl (mi_range1 rfl T.z_range (ma_cons me_int ma_nil)) (mg_name (i := 2) sc__law_right.nd rfl (by first | exact Or.inl rfl | exact Or.inr rfl)) (mss_cons (ms_set (i := 5) sc__law_right.nd rfl (by first | exact Or.inl rfl | exact Or.inr rfl) (me_call (ok__law_kinds_lines T) (hr.mono (by omega)) rfl T._law_kinds_lines.mgx T._law_kinds_lines.fu.kp T._law_kinds_lines.bd (ma_cons (mv 0) ma_nil)))
    (mss_cons (ms_set (i := 4) sc__law_right.nd rfl (by first | exact Or.inl rfl | exact Or.inr rfl) (me_call (ok__law_kinds_text T) (hr.mono (by omega)) rfl T._law_kinds_text.mgx T._law_kinds_text.fu.kp T._law_kinds_text.bd (ma_cons (mv 5) ma_nil)))
    (mss_cons (ms_set (i := 6) sc__law_right.nd rfl (by first | exact Or.inl rfl | exact Or.inr rfl) (me_callQ (ok_read_kinds T) (hr.mono (by omega)) rfl T.read_kinds.mgx T.read_kinds.fu.kp T.read_kinds.bd (ma_cons (mv 4) ma_nil)))
    (mss_cons (ms_if (mt_w (mw_or (mt_not (mt_truth (me_call (ok__law_is_right T) (hr.mono (by omega)) rfl T._law_is_right.mgx T._law_is_right.fu.kp T._law_is_right.bd (ma_cons (mv 6) (ma_cons (mv 5) ma_nil))))) (mw_or (mt_cmp (op_ne_M hr.units) (me_call (ok_show_kinds T) (hr.mono (by omega)) rfl T.show_kinds.mgx T.show_kinds.fu.kp T.show_kinds.bd (ma_cons (mv 6) ma_nil)) (mv 4) (nomark _)) (mw_or1 (mt_neX spOf_M T.g_Kinds (op_neX T.me_Kinds___eq__.at_ T.ne_Kinds T.mr_Kinds T.me_Kinds___eq__.fn T.nf_Kinds___eq__ (ok_Kinds___eq__ T) (hr.mono (by omega)) T.Kinds___eq__.bd (fun _ => pass1_0)) (me_callQ (ok_read_kinds T) (hr.mono (by omega)) rfl T.read_kinds.mgx T.read_kinds.fu.kp T.read_kinds.bd (ma_cons (mv 4) ma_nil)) (mv 6) (nomark _)))))) (mss_one (ms_ret me_bl)) mss_nil)
    (mss_one (ms_expr (me_lm PySem.F.slot_list_append PySem.F.type_list_append lm_append (mv 1) (ma_cons (me_tup (ma_cons (mv 6) (ma_cons (mv 4) ma_nil))) ma_nil)))))))))
    (mss_cons (ms_for PassesOwn.never rfl (mi_list (mv 1)) (mg_tup rfl (mgs_cons (mg_name (i := 3) sc__law_right.nd rfl (by first | exact Or.inl rfl | exact Or.inr rfl)) (mgs_cons (mg_name (i := 4) sc__law_right.nd rfl (by first | exact Or.inl rfl | exact Or.inr rfl)) mgs_nil))) (mss_cons (ms_for PassesOwn.never rfl (mi_list (mv 1)) (mg_tup rfl (mgs_cons (mg_name (i := 7) sc__law_right.nd rfl (by first | exact Or.inl rfl | exact Or.inr rfl)) (mgs_cons (mg_name (i := 8) sc__law_right.nd rfl (by first | exact Or.inl rfl | exact Or.inr rfl)) mgs_nil))) (mss_one (ms_if (mt_cmp (op_ne_M hr.units) (me_callB (cb_show hr) rfl T.z_repr (by decide +kernel) (ma_cons (me_eqX spOf_M T.g_Kinds (op_eqX T.me_Kinds___eq__.at_ T.me_Kinds___eq__.fn T.nf_Kinds___eq__ (ok_Kinds___eq__ T) (hr.mono (by omega)) T.Kinds___eq__.bd (fun _ => pass1_0)) (mv 3) (mv 7) (nomark _)) ma_nil)) (me_callB (cb_show hr) rfl T.z_repr (by decide +kernel) (ma_cons (me_cmp (op_eq_M hr.units) (mv 4) (mv 8) (nomark _)) ma_nil)) (nomark _)) (mss_one (ms_ret me_bl)) mss_nil)))
    (mss_one (ms_if (mt_truth (me_callB (cb_any rfl) rfl T.z_any (by decide +kernel) (ma_cons (me_lc (own := [("_law_thing", 9)]) rfl sc__law_right.nd (mi_tup (me_tup (ma_cons (mv 4) (ma_cons (me_prop spOf_M (mv 3) T.g_Kinds T.cf_Kinds.cl T.po_Kinds_names (ok_Kinds_names T) (hr.mono (by omega)) T.Kinds_names.bd pass0) (ma_cons me_non (ma_cons me_int (ma_cons me_bl ma_nil))))))) (blkOk_by (own := [("_law_thing", 9)]) (N := N__law_right) (sc := defScope s__law_right) (by decide +kernel)) (fun _ _ _ _ _ => (mg_name (i := 9) sc__law_right.nd rfl (by first | exact Or.inl rfl | exact Or.inr rfl))) (fun _ _ _ _ _ => mts_nil) (fun _ _ _ _ _ => (me_eqX spOf_M T.g_Kinds (op_eqX T.me_Kinds___eq__.at_ T.me_Kinds___eq__.fn T.nf_Kinds___eq__ (ok_Kinds___eq__ T) (hr.mono (by omega)) T.Kinds___eq__.bd (fun _ => pass1_0)) (mv 3) (mv 9) (nomark _)))) ma_nil))) (mss_one (ms_ret me_bl)) mss_nil))))
    (mss_one (ms_ret me_bl)))))
theorem sc__law_document : FnScope N__law_document [] (defScope s__law_document) := ⟨rfl, rfl, rfl, by decide +kernel, rfl, by decide +kernel, by decide +kernel⟩
theorem ok__law_document (T : Tx P K mg base) : FnG P w K mg base CX0 6 T._law_document.f T._law_document.fd [] (spM ⟨K, mg⟩ F__law_document) :=
  fn_mir (k := 5) T._law_document.fu sc__law_document fun cdv A outer s H E hr => (mss_cons (ms_set (i := 0) sc__law_document.nd rfl (by first | exact Or.inl rfl | exact Or.inr rfl) (me_lst (ma_cons (me_tup (ma_cons me_str (ma_cons me_str ma_nil))) (ma_cons (me_tup (ma_cons me_str (ma_cons me_str ma_nil))) (ma_cons (me_tup (ma_cons me_str (ma_cons me_str ma_nil))) (ma_cons (me_tup (ma_cons me_str (ma_cons me_str ma_nil))) (ma_cons (me_tup (ma_cons me_str ma_nil)) ma_nil)))))))
    (mss_cons (ms_set (i := 0) sc__law_document.nd rfl (by first | exact Or.inl rfl | exact Or.inr rfl) (me_op op_add_M (mv 0) (me_lst (ma_cons (me_tup (ma_cons me_str (ma_cons me_str ma_nil))) (ma_cons (me_tup (ma_cons me_str (ma_cons me_str ma_nil))) (ma_cons (me_tup (ma_cons me_str (ma_cons me_str ma_nil))) (ma_cons (me_tup (ma_cons me_str (ma_cons me_str ma_nil))) (ma_cons (me_tup (ma_cons me_str (ma_cons me_str ma_nil))) ma_nil))))))))
    (mss_cons (ms_set (i := 0) sc__law_document.nd rfl (by first | exact Or.inl rfl | exact Or.inr rfl) (me_op op_add_M (mv 0) (me_lst (ma_cons (me_tup (ma_cons me_str (ma_cons me_str ma_nil))) (ma_cons (me_tup (ma_cons me_str ma_nil)) ma_nil)))))
    (mss_one (ms_ret (me_call (ok__law_is_right T) (hr.mono (by omega)) rfl T._law_is_right.mgx T._law_is_right.fu.kp T._law_is_right.bd (ma_cons (me_callQ (ok_read_kinds T) (hr.mono (by omega)) rfl T.read_kinds.mgx T.read_kinds.fu.kp T.read_kinds.bd (ma_cons (me_call (ok__law_kinds_text T) (hr.mono (by omega)) rfl T._law_kinds_text.mgx T._law_kinds_text.fu.kp T._law_kinds_text.bd (ma_cons (mv 0) ma_nil)) ma_nil)) (ma_cons (mv 0) ma_nil))))))))
theorem sc_law : FnScope N_law ["_law_script"] (defScope s_law) := ⟨rfl, rfl, rfl, by decide +kernel, rfl, by decide +kernel, by decide +kernel⟩
theorem ok_law (T : Tx P K mg base) : FnG P w K mg base CX0 7 T.law.f T.law.fd ["_law_script"] (spM ⟨K, mg⟩ F_law) :=
  fn_mir (k := 6) T.law.fu sc_law fun cdv A outer s H E hr => (mss_cons (ms_if (mt_w (mw_or (mt_not (mt_truth (me_call0 (ok__law_document T) (hr.mono (by omega)) rfl T._law_document.mgx T._law_document.fu.kp T._law_document.bd))) (mw_or (mt_cmp (op_ne_M hr.units) (me_lenX spOf_M T.g_Kinds (call_lenX T.me_Kinds___len__.at_ T.me_Kinds___len__.fn (ok_Kinds___len__ T) (hr.mono (by omega)) T.Kinds___len__.bd (fun _ => pass1_0)) rfl T.z_len (by decide +kernel) (ma_cons (me_callQ (ok_read_kinds T) (hr.mono (by omega)) rfl T.read_kinds.mgx T.read_kinds.fu.kp T.read_kinds.bd (ma_cons me_str ma_nil)) ma_nil)) me_int (nomark _)) (mw_or1 (mt_cmp (op_ne_M hr.units) (me_prop spOf_M (me_subX spOf_Q T.g_Kinds T.me_Kinds___getitem__.at_ T.fn_Kinds___getitem__ T.me_Kinds___getitem__.fn (ok_Kinds___getitem__ T) (hr.mono (by omega)) T.Kinds___getitem__.bd (fun _ => pass1_L) (me_callQ (ok_read_kinds T) (hr.mono (by omega)) rfl T.read_kinds.mgx T.read_kinds.fu.kp T.read_kinds.bd (ma_cons me_str ma_nil)) me_str plain2_str) T.g_Kind T.cf_Kind.cl T.po_Kind_set_fields (ok_Kind_set_fields T) (hr.mono (by omega)) T.Kind_set_fields.bd pass0) (me_tup ma_nil) (nomark _)))))) (mss_one (ms_ret me_bl)) mss_nil)
    (mss_one (ms_ret (me_callB (cb_all rfl) rfl T.z_all (by decide +kernel) (ma_cons (me_lc (own := [("_law_k", 1)]) rfl sc_law.nd (mi_range1 rfl T.z_range (ma_cons (me_callB (cb_max rfl) rfl T.z_max (by decide +kernel) (ma_cons me_int (ma_cons (me_callB (cb_min rfl) rfl T.z_min (by decide +kernel) (ma_cons me_int (ma_cons (me_callB cb_len rfl T.z_len (by decide +kernel) (ma_cons (mv 0) ma_nil)) ma_nil))) ma_nil))) ma_nil)) (blkOk_by (own := [("_law_k", 1)]) (N := N_law) (sc := defScope s_law) (by decide +kernel)) (fun _ _ _ _ _ => (mg_name (i := 1) sc_law.nd rfl (by first | exact Or.inl rfl | exact Or.inr rfl))) (fun _ _ _ _ _ => mts_nil) (fun _ _ _ _ _ => (me_call (ok__law_right T) (hr.mono (by omega)) rfl T._law_right.mgx T._law_right.fu.kp T._law_right.bd (ma_cons (me_call (ok__law_pot T) (hr.mono (by omega)) rfl T._law_pot.mgx T._law_pot.fu.kp T._law_pot.bd (ma_cons (mv 0) (ma_cons (mv 1) ma_nil))) ma_nil)))) ma_nil)))))
end
end K04
end
section
set_option maxRecDepth 100000
set_option maxHeartbeats 1000000
namespace K04
open PySem L2 Mi
local macro_rules | `(tactic| walk_at "ev") => `(tactic| simp only [mMethX_ap, mMkP_ap, qF_ap, mLm_ap, mDicR_ap, sPutR_ap, mSplR_ap, sSwp_ap, put1_ap, itE_ap, Wp_ok, Wp_bind, Wp_quiet, WpS_fl, WpS_then, Nx_nx, Nx_rt, Nx_bk, Nx_ct, mVar_ap, mC_ap, mOp_ap, mUn_ap, mB_ap, mTru_ap, mAnd_ap, mOr_ap, mNot_ap,
  bAnd_ap, bOr_ap, bNot_ap, bYes_ap, mIf_ap, mNil_ap, mCons_ap, mTup_ap, mLst_ap, mLstR_ap, mDic0_ap, mCall_ap, mCb_ap, mMb_ap, mStr_ap, mRevT_ap, mPart_ap, mNoPart_ap, mSl_ap, mChain_ap, itL_ap, itT_ap, itS_ap, itR1_ap,
  sNil_ap, sSeq_ap, sIf_ap, sRet_ap, sRetN_ap, sBrk_ap, sCnt_ap, sExp_ap, sAsg_ap, sPar_ap, sPar3_ap, tgN_ap, tgNil_ap, tgCons_ap, sSetIx_ap, sFor_ap, Wp_mLc,
  List.map_cons, List.map_nil, List.cons_append, List.nil_append, List.replicate_succ, List.replicate_zero, List.getElem?_cons_zero, List.getElem?_cons_succ, List.set_cons_zero, List.set_cons_succ, List.length_cons, List.length_nil,
  Option.some.injEq, Option.bind_some, exists_eq_left, exists_eq_left', true_and, and_true, D.bl.injEq, D.int.injEq, D.str.injEq, D.ref.injEq, D.tup.injEq, D.lst.injEq, List.cons.injEq, if_true, if_false, Bool.false_eq_true, reduceCtorEq, false_and, and_false, or_false, false_or, exists_false])
structure Upd (n : Nat) (s s' : Sto) : Prop where
  len : s'.length = s.length
  at' : ∀ k, k ≠ n → s'[k]? = s[k]?
theorem Upd.refl {n : Nat} {s : Sto} : Upd n s s := ⟨rfl, fun _ _ => rfl⟩
theorem Upd.trans {n : Nat} {s s1 s2 : Sto} (a : Upd n s s1) (b : Upd n s1 s2) : Upd n s s2 := ⟨b.len.trans a.len, fun k h => (b.at' k h).trans (a.at' k h)⟩
theorem Upd.set {n : Nat} {s : Sto} {o : O} : Upd n s (s.set n o) := ⟨by simp, fun k h => List.getElem?_set_ne (Ne.symm h)⟩
def PotAt (s : Sto) (n : Nat) (T : Nat) : Prop := ∃ g m t : Int, s[n]? = some (.lst true [.int g, .int m, .int t]) ∧ 0 ≤ g ∧ 0 ≤ m ∧ m < 2 ^ 61 ∧ 0 ≤ t ∧ t ≤ T
theorem PotAt.mono {s : Sto} {n T T' : Nat} (h : PotAt s n T) (i : T ≤ T') : PotAt s n T' := by
  obtain ⟨g, m, t, e, a, b, c, d, f⟩ := h
  exact ⟨g, m, t, e, a, b, c, d, by omega⟩
theorem set_at {s : Sto} {n : Nat} {o o' : O} (h : s[n]? = some o) : (s.set n o')[n]? = some o' := List.getElem?_set_self (List.getElem?_eq_some_iff.mp h).1
theorem ix_ref {s : Sto} {n : Nat} {m : Bool} {xs : List D} {i : Nat} {d : D} (e : s[n]? = some (.lst m xs)) (h : xs[i]? = some d) : opIx s (.ref n) (.int (i : Int)) = some d := by
  simp only [opIx, asL, e, Option.bind_some]
  exact atI_nat h
theorem ix_lst {s : Sto} {xs : List D} {i : Nat} {d : D} (h : xs[i]? = some d) : opIx s (.lst xs) (.int (i : Int)) = some d := by
  simp only [opIx, asL, Option.bind_some]
  exact atI_nat h
theorem ix_tup {s : Sto} {xs : List D} {i : Nat} {d : D} (h : xs[i]? = some d) : opIx s (.tup xs) (.int (i : Int)) = some d := atI_nat h
theorem ix_str {s : Sto} {x : Str} {i : Nat} {k : Nat} (h : x.cps.toList[i]? = some k) : opIx s (.str x) (.int (i : Int)) = some (.str ⟨#[k]⟩) := by
  show (atI x.cps.toList (i : Int)).map _ = _
  rw [atI_nat h]; rfl
theorem mod_pos {s : Sto} {i j : Int} (h : 0 < j) : opMod s (.int i) (.int j) = some (.int (i % j)) := if_pos h
theorem div_pos {s : Sto} {i j : Int} (h : 0 < j) (h2 : j < 1073741824) : opDiv s (.int i) (.int j) = some (.int (i / j)) := if_pos ⟨h, h2⟩
theorem mul_l {s : Sto} {i j : Int} (h : -(2 ^ 64) < i) (h2 : i < 2 ^ 64) : opMul s (.int i) (.int j) = some (.int (i * j)) := if_pos (.inl ⟨h, h2⟩)
theorem mul_r {s : Sto} {i j : Int} (h : -(2 ^ 64) < j) (h2 : j < 2 ^ 64) : opMul s (.int i) (.int j) = some (.int (i * j)) := if_pos (.inr ⟨h, h2⟩)
theorem intBits_le_of {i : Int} {k : Nat} (h0 : 0 ≤ i) (h : i < 2 ^ k) : Builtin.Int.intBits i ≤ k := by
  refine PyProof.Rows.intBits_le ?_
  have : ((i.natAbs : Nat) : Int) < ((2 ^ k : Nat) : Int) := by
    rw [Int.natCast_pow]
    have : (i.natAbs : Int) = i := Int.natAbs_of_nonneg h0
    rw [this]; exact h
  exact Int.ofNat_lt.mp this
theorem pow_nn {s : Sto} {i : Int} {j k : Nat} (h0 : 0 ≤ i) (h : i < 2 ^ k) (hk : k * j ≤ 2 ^ 27) : opPow s (.int i) (.int (j : Int)) = some (.int (i ^ j)) := by
  have b := intBits_le_of h0 h
  refine if_pos ⟨Int.natCast_nonneg j, ?_⟩
  have : Builtin.Int.intBits i * j ≤ k * j := Nat.mul_le_mul_right j b
  omega
def Dr (s : Sto) (n T : Nat) (P : D → Prop) : D → Sto → Prop := fun d s' => P d ∧ PotAt s' n T ∧ Upd n s s'
theorem Dr.mono {s s0 : Sto} {n T T' : Nat} {P P' : D → Prop} {d : D} {s' : Sto} (h : Dr s n T P d s') (u : Upd n s0 s) (hT : T ≤ T') (hp : P d → P' d) : Dr s0 n T' P' d s' := ⟨hp h.1, h.2.1.mono hT, u.trans h.2.2⟩
theorem take_ok {s : Sto} {n T : Nat} {z : Int} (h : PotAt s n T) (hT : T ≤ 2 ^ 40) (hz : 0 < z) (hz2 : z < 1073741824) :
    Wp (F__law_take [.ref n, .int z] s) (Dr s n (T + 1) fun d => ∃ r, d = .int r ∧ 0 ≤ r ∧ r < z) := by
  unfold Dr
  obtain ⟨g, m, t, e, hg, hm, hm2, ht, hT2⟩ := h
  rw [F__law_take, mFun_ap (n := 2) rfl, b__law_take]
  walk_at "ev"
  refine ⟨_, ix_ref (i := 0) e rfl, _, rfl, _, rfl, ?_⟩
  by_cases c : (0 : Int) < g
  · rw [if_pos (decide_eq_true c)]
    refine ⟨_, ix_ref (i := 0) e rfl, _, mod_pos hz, _, ix_ref (i := 0) e rfl, _, div_pos hz hz2, n, 0, _, 0, rfl, rfl, e, rfl, ⟨_, rfl, Int.emod_nonneg _ (by omega), Int.emod_lt_of_pos _ hz⟩, ?_, Upd.set⟩
    exact ⟨g / z, m, t, set_at e, Int.ediv_nonneg hg (by omega), hm, hm2, ht, by omega⟩
  · rw [if_neg (by simpa using c)]
    have e2 : (s.set n (.lst true [.int g, .int m, .int (t + 1)]))[n]? = some (.lst true [.int g, .int m, .int (t + 1)]) := set_at e
    have b5 := Int.emod_lt_of_pos (t + 1) (show (0 : Int) < 5 by omega)
    have c5 := Int.emod_nonneg (t + 1) (show (5 : Int) ≠ 0 by omega)
    have pr : ∃ (p : Int), opIx (s.set n (.lst true [.int g, .int m, .int (t + 1)])) (.lst [.int 2147483647, .int 2147483629, .int 2147483587, .int 2147483579, .int 2147483563]) (.int ((t + 1) % 5)) = some (.int p) ∧ 0 < p ∧ p ≤ 2147483647 := by
      have : (t + 1) % 5 = 0 ∨ (t + 1) % 5 = 1 ∨ (t + 1) % 5 = 2 ∨ (t + 1) % 5 = 3 ∨ (t + 1) % 5 = 4 := by omega
      rcases this with h | h | h | h | h <;> rw [h]
      · exact ⟨_, ix_lst (i := 0) rfl, by omega, by omega⟩
      · exact ⟨_, ix_lst (i := 1) rfl, by omega, by omega⟩
      · exact ⟨_, ix_lst (i := 2) rfl, by omega, by omega⟩
      · exact ⟨_, ix_lst (i := 3) rfl, by omega, by omega⟩
      · exact ⟨_, ix_lst (i := 4) rfl, by omega, by omega⟩
    obtain ⟨p, hp, hp0, hp1⟩ := pr
    refine ⟨_, ix_ref (i := 2) e rfl, _, rfl, n, 2, _, 2, rfl, rfl, e, rfl, by decide, _, ix_ref (i := 2) e2 rfl, _, mod_pos (by omega), _, hp, ?_⟩
    have hT3 : (T : Int) ≤ 2 ^ 40 := by exact_mod_cast hT
    refine ⟨_, ix_ref (i := 1) e2 rfl, _, ix_ref (i := 2) e2 rfl, _, mul_l (by omega) (by omega), _, ix_ref (i := 2) e2 rfl, _, mul_r (by omega) (by omega), _, rfl, _, rfl, ?_⟩
    have q1 : 0 ≤ 40009 * (t + 1) * (t + 1) := Int.mul_nonneg (by omega) (by omega)
    have q2 : 40009 * (t + 1) * (t + 1) ≤ 40009 * (2 ^ 41) * (2 ^ 41) := Int.mul_le_mul (by omega) (by omega) (by omega) (by omega)
    refine ⟨_, pow_nn (j := 3) (k := 100) (by omega) (by omega) (by decide), _, mod_pos hp0, ?_⟩
    generalize hx : (m + 40009 * (t + 1) * (t + 1) + 31) ^ 3 % p = x
    have x0 : 0 ≤ x := by rw [← hx]; exact Int.emod_nonneg _ (by omega)
    have x1 : x < 2147483647 := by rw [← hx]; have := Int.emod_lt_of_pos ((m + 40009 * (t + 1) * (t + 1) + 31) ^ 3) hp0; omega
    refine ⟨_, mod_pos (by omega), _, ix_ref (i := 2) e2 rfl, _, mul_l (by omega) (by omega), _, rfl, _, mul_l (by omega) (by omega), _, mod_pos (by omega), _, div_pos (by omega) (by omega), _, mod_pos hz, ?_⟩
    refine ⟨⟨_, rfl, Int.emod_nonneg _ (by omega), Int.emod_lt_of_pos _ hz⟩, ⟨g, m, t + 1, e2, hg, hm, hm2, by omega, by omega⟩, Upd.set⟩
theorem at_lt {α : Type} {xs : List α} {r : Int} (h0 : 0 ≤ r) (h : r < xs.length) : ∃ x, atI xs r = some x ∧ x ∈ xs := by
  have hk : r.toNat < xs.length := by omega
  have e : r = ((r.toNat : Nat) : Int) := by omega
  refine ⟨xs[r.toNat], ?_, List.getElem_mem hk⟩
  have z : atI xs ((r.toNat : Nat) : Int) = some xs[r.toNat] := atI_nat (List.getElem?_eq_getElem hk)
  rw [← e] at z
  exact z
theorem pick_lst {s : Sto} {n T : Nat} {xs : List D} (h : PotAt s n T) (hT : T ≤ 2 ^ 40) (hx : xs ≠ []) (hl : xs.length ≤ 1000) : Wp (F__law_pick [.ref n, .lst xs] s) (Dr s n (T + 1) (· ∈ xs)) := by
  rw [F__law_pick, mFun_ap (n := 2) rfl, b__law_pick]
  walk_at "ev"
  have l0 : 0 < xs.length := List.length_pos_iff.mpr hx
  refine ⟨_, rfl, (take_ok h hT (by show (0 : Int) < (xs.length : Int); omega) (by show (xs.length : Int) < 1073741824; omega)).mono fun d s1 ⟨⟨r, e, h0, h1⟩, p1, u1⟩ => ?_⟩
  subst e
  obtain ⟨x, hx, hm⟩ := at_lt h0 h1
  exact ⟨x, hx, hm, p1, u1⟩
theorem pick_str {s : Sto} {n T : Nat} {x : Str} (h : PotAt s n T) (hT : T ≤ 2 ^ 40) (hx : x.cps.toList ≠ []) (hl : x.cps.toList.length ≤ 1000) : Wp (F__law_pick [.ref n, .str x] s) (Dr s n (T + 1) fun d => ∃ k ∈ x.cps.toList, d = .str ⟨#[k]⟩) := by
  rw [F__law_pick, mFun_ap (n := 2) rfl, b__law_pick]
  walk_at "ev"
  have l0 : 0 < x.cps.toList.length := List.length_pos_iff.mpr hx
  have le : (x.length : Int) = (x.cps.toList.length : Int) := by rw [TL.len_tl]
  refine ⟨_, rfl, (take_ok h hT (by show (0 : Int) < (x.length : Int); omega) (by show (x.length : Int) < 1073741824; omega)).mono fun d s1 ⟨⟨r, e, h0, h1⟩, p1, u1⟩ => ?_⟩
  subst e
  obtain ⟨k, hk, hm⟩ := at_lt h0 (show r < (x.cps.toList.length : Int) by omega)
  exact ⟨.str ⟨#[k]⟩, by show (atI x.cps.toList r).map _ = _; rw [hk]; rfl, ⟨k, hm, rfl⟩, p1, u1⟩
/-! a list of draws -/
theorem lc_draw {g : Tg} {fe : ET} {env : Mi.Env} {n c B : Nat} {P : D → Prop} (hg : ∀ d, ∃ e2, g d env = some e2 ∧ ∀ s T, PotAt s n T → T + c ≤ B → Wp (fe e2 s) (Dr s n (T + c) P)) :
    ∀ (ds acc : List D) (s : Sto) (T : Nat), acc.length + ds.length ≤ 1000000 → (∀ x ∈ acc, P x) → PotAt s n T → T + ds.length * c ≤ B →
      Wp (lcGo (fun _ => True) g bYes fe env ds acc s) fun out s' => out.length = acc.length + ds.length ∧ (∀ x ∈ out, P x) ∧ PotAt s' n (T + ds.length * c) ∧ Upd n s s'
  | [], acc, s, T, hl, hp, h, hB => by
    rw [lcGo, if_pos True.intro]
    exact ⟨by simp, hp, h.mono (by simp), Upd.refl⟩
  | d :: r, acc, s, T, hl, hp, h, hB => by
    obtain ⟨e2, he, hw⟩ := hg d
    rw [List.length_cons] at hl hB ⊢
    rw [lcGo, if_pos True.intro, he]
    walk_at "ev"
    rw [Nat.succ_mul] at hB ⊢
    refine (hw s T h (by omega)).mono fun y s1 ⟨hy, p1, u1⟩ => ?_
    rw [if_pos (Nat.lt_of_lt_of_le (show acc.length < 1000001 by omega) (by decide))]
    refine (lc_draw hg r (acc ++ [y]) s1 (T + c) (by simp; omega) (fun x hx => ?_) p1 (by omega)).mono fun out s2 ⟨h1, h2, h3, h4⟩ => ⟨by rw [h1]; simp; omega, h2, h3.mono (by omega), u1.trans h4⟩
    rcases List.mem_append.mp hx with hx | hx
    · exact hp x hx
    · rw [List.mem_singleton.mp hx]; exact hy
theorem add_lst {s : Sto} {xs ys : List D} (h : xs.length + ys.length ≤ sizeLine) : opAdd s (.lst xs) (.lst ys) = some (.lst (xs ++ ys)) := by simp [opAdd, asL, h]
theorem add_tup {s : Sto} {xs ys : List D} (h : xs.length + ys.length ≤ sizeLine) : opAdd s (.tup xs) (.tup ys) = some (.tup (xs ++ ys)) := by simp [opAdd, h]
theorem add_str {s : Sto} {x y : Str} (h : x.length + y.length ≤ sizeLine) : opAdd s (.str x) (.str y) = some (.str (x ++ y)) := by simp [opAdd, h]
theorem add_refL {s : Sto} {n : Nat} {m : Bool} {xs ys : List D} (h : s[n]? = some (.lst m xs)) (hl : xs.length + ys.length ≤ sizeLine) : opAdd s (.ref n) (.lst ys) = some (.lst (xs ++ ys)) := by simp [opAdd, asL, h, hl]
theorem add_lstR {s : Sto} {n : Nat} {m : Bool} {xs ys : List D} (h : s[n]? = some (.lst m ys)) (hl : xs.length + ys.length ≤ sizeLine) : opAdd s (.lst xs) (.ref n) = some (.lst (xs ++ ys)) := by simp [opAdd, asL, h, hl]
theorem lc_pair {G : Sto → Prop} {g : Tg} {fe : ET} {env : Mi.Env} {s : Sto} {Rr : D → D → Prop} (hG : G s) :
    ∀ (ds acc : List D), (∀ d ∈ ds, ∃ e2, g d env = some e2 ∧ Wp (fe e2 s) fun y s' => s' = s ∧ Rr d y) → acc.length + ds.length ≤ 1000000 →
      Wp (lcGo G g bYes fe env ds acc s) fun out s' => s' = s ∧ ∃ ys, out = acc ++ ys ∧ Paired Rr ds ys
  | [], acc, _, _ => by
    rw [lcGo, if_pos hG]
    exact ⟨rfl, [], by simp, .nil⟩
  | d :: r, acc, h, hl => by
    obtain ⟨e2, he, hw⟩ := h d List.mem_cons_self
    rw [lcGo, if_pos hG, he]
    rw [List.length_cons] at hl
    walk_at "ev"
    refine hw.mono fun y s1 ⟨e, hy⟩ => ?_
    subst e
    rw [if_pos (Nat.lt_of_lt_of_le (show acc.length < 1000001 by omega) (by decide))]
    refine (lc_pair hG r (acc ++ [y]) (fun x hx => h x (List.mem_cons_of_mem _ hx)) (by simp; omega)).mono fun out s2 ⟨e2, ys, e3, p⟩ => ⟨e2, y :: ys, by rw [e3]; simp, .cons hy p⟩
theorem all_bls {ds : List D} {bs : List Bool} (h : ds = bs.map .bl) {s : Sto} : cbAll s [.lst ds] = some (.bl (bs.all id)) := by
  subst h
  simp [cbAll, asL, allBl_map]
theorem in_sign {s : Sto} {k : Nat} {y : Str} : opIn s (.str ⟨#[k]⟩) (.str y) = some (.bl (decide (k ∈ y.cps.toList))) := rfl
theorem lc_map {G : Sto → Prop} {g : Tg} {fe : ET} {env : Mi.Env} {s : Sto} {f : D → D} (hG : G s) :
    ∀ (ds acc : List D), (∀ d ∈ ds, ∃ e2, g d env = some e2 ∧ Wp (fe e2 s) fun y s' => s' = s ∧ y = f d) → acc.length + ds.length ≤ 1000000 →
      Wp (lcGo G g bYes fe env ds acc s) fun out s' => s' = s ∧ out = acc ++ ds.map f
  | [], acc, _, _ => by
    rw [lcGo, if_pos hG]
    exact ⟨rfl, by simp⟩
  | d :: r, acc, h, hl => by
    obtain ⟨e2, he, hw⟩ := h d List.mem_cons_self
    rw [lcGo, if_pos hG, he]
    rw [List.length_cons] at hl
    walk_at "ev"
    refine hw.mono fun y s1 ⟨e, hy⟩ => ?_
    subst e
    rw [if_pos (Nat.lt_of_lt_of_le (show acc.length < 1000001 by omega) (by decide))]
    refine (lc_map hG r (acc ++ [y]) (fun x hx => h x (List.mem_cons_of_mem _ hx)) (by simp; omega)).mono fun out s2 ⟨e2, e3⟩ => ⟨e2, by rw [e3, hy]; simp⟩
theorem all_true {ds : List D} (h : ∀ d ∈ ds, d = .bl true) {s : Sto} : cbAll s [.lst ds] = some (.bl true) := by
  have e : ds = (List.replicate ds.length true).map .bl := by
    induction ds with
    | nil => rfl
    | cons d r ih =>
      rw [List.length_cons, List.replicate_succ, List.map_cons, ← ih fun x hx => h x (List.mem_cons_of_mem _ hx), h d List.mem_cons_self]
  rw [all_bls e]
  simp
theorem lc_any {g : Tg} {fe : ET} {env : Mi.Env} {P : D → Prop} : ∀ (ds acc : List D) (s : Sto), (∀ d ∈ ds, ∃ e2, g d env = some e2 ∧ ∀ s, Wp (fe e2 s) fun y _ => P y) → acc.length + ds.length ≤ 1000000 → (∀ x ∈ acc, P x) →
      Wp (lcGo (fun _ => True) g bYes fe env ds acc s) fun out _ => ∀ x ∈ out, P x
  | [], acc, s, _, _, ha => by
    rw [lcGo, if_pos True.intro]
    exact ha
  | d :: r, acc, s, h, hl, ha => by
    obtain ⟨e2, he, hw⟩ := h d List.mem_cons_self
    rw [lcGo, if_pos True.intro, he]
    rw [List.length_cons] at hl
    walk_at "ev"
    refine (hw s).mono fun y s1 hy => ?_
    rw [if_pos (Nat.lt_of_lt_of_le (show acc.length < 1000001 by omega) (by decide))]
    refine lc_any r (acc ++ [y]) s1 (fun x hx => h x (List.mem_cons_of_mem _ hx)) (by simp; omega) fun x hx => ?_
    rcases List.mem_append.mp hx with hx | hx
    · exact ha x hx
    · rw [List.mem_singleton.mp hx]; exact hy
theorem ite_both {b : Bool} {P Q : Prop} (hp : P) (hq : Q) : if b = true then P else Q := by
  cases b
  · exact hq
  · exact hp
theorem pot_ok {s : Sto} {ns : List Int} {k : Int} (h0 : 0 ≤ k) (h3 : k < 3) : Wp (F__law_pot [.scr ns, .int k] s) fun v s' => ∃ n, v = .ref n ∧ PotAt s' n 0 := by
  rw [F__law_pot, mFun_ap (n := 2) rfl, b__law_pot]
  simp only [List.map_cons, List.map_nil, List.cons_append, List.nil_append, List.replicate_succ, List.replicate_zero]
  refine seqK (fun e s' => ∃ c, e = [some (.scr ns), some (.int k), some (.int c), none]) ?_ ?_
  · walk_at "ev"
    refine ⟨_, rfl, _, rfl, _, rfl, ?_⟩
    by_cases c : k < (ns.length : Int)
    · rw [if_pos (decide_eq_true c)]
      obtain ⟨x, hx, _⟩ := at_lt h0 c
      exact ⟨.int x, by show (atI ns k).map _ = _; rw [hx]; rfl, x, rfl⟩
    · rw [if_neg (by simpa using c)]
      exact ⟨_, mul_l (by decide) (by decide), _, rfl, _, rfl⟩
  rintro _ s ⟨c, rfl⟩
  refine seqK (fun e s' => ∃ g : Int, e = [some (.scr ns), some (.int k), some (.int c), some (.int g)] ∧ 0 ≤ g) ?_ ?_
  · walk_at "ev"
    refine ⟨_, rfl, _, pow_nn (j := 18) (k := 4) (by decide) (by decide) (by decide), _, rfl, _, rfl, ?_⟩
    refine ite_both ?_ (by decide)
    refine ⟨_, rfl, _, pow_nn (j := 60) (k := 4) (by decide) (by decide) (by decide), _, pow_nn (j := 3) (k := 200) (by decide) (by decide) (by decide), _, mod_pos (by decide), _, rfl, Int.emod_nonneg _ (by decide)⟩
  rintro _ s ⟨g, rfl, hg⟩
  walk_at "ev"
  have b1 := Int.emod_nonneg c (show (2305843009213693951 : Int) ≠ 0 by decide)
  have b2 := Int.emod_lt_of_pos c (show (0 : Int) < 2305843009213693951 by decide)
  refine ⟨_, mod_pos (by decide), _, mul_r (by decide) (by decide), _, mul_l (by decide) (by decide), _, mul_r (by omega) (by omega), _, rfl, _, rfl, _, mod_pos (by decide), by decide, g, _, 0, List.getElem?_concat_length, hg, ?_, ?_, by decide, by decide⟩
  · exact Int.emod_nonneg _ (by decide)
  · exact Int.lt_trans (Int.emod_lt_of_pos _ (by decide)) (by decide)
end K04
end
section
set_option maxRecDepth 100000
set_option maxHeartbeats 1000000
namespace K04
open PySem L2 Mi
local macro_rules | `(tactic| walk_at "ev") => `(tactic| simp only [mMethX_ap, mMkP_ap, qF_ap, mLm_ap, mDicR_ap, sPutR_ap, mSplR_ap, sSwp_ap, put1_ap, itE_ap, Wp_ok, Wp_bind, Wp_quiet, WpS_fl, WpS_then, Nx_nx, Nx_rt, Nx_bk, Nx_ct, mVar_ap, mC_ap, mOp_ap, mUn_ap, mB_ap, mTru_ap, mAnd_ap, mOr_ap, mNot_ap,
  bAnd_ap, bOr_ap, bNot_ap, bYes_ap, mIf_ap, mNil_ap, mCons_ap, mTup_ap, mLst_ap, mLstR_ap, mDic0_ap, mCall_ap, mCb_ap, mMb_ap, mStr_ap, mRevT_ap, mPart_ap, mNoPart_ap, mSl_ap, mChain_ap, itL_ap, itT_ap, itS_ap, itR1_ap,
  sNil_ap, sSeq_ap, sIf_ap, sRet_ap, sRetN_ap, sBrk_ap, sCnt_ap, sExp_ap, sAsg_ap, sPar_ap, sPar3_ap, tgN_ap, tgNil_ap, tgCons_ap, sSetIx_ap, sFor_ap, Wp_mLc,
  List.map_cons, List.map_nil, List.cons_append, List.nil_append, List.replicate_succ, List.replicate_zero, List.getElem?_cons_zero, List.getElem?_cons_succ, List.set_cons_zero, List.set_cons_succ, List.length_cons, List.length_nil,
  Option.some.injEq, Option.bind_some, exists_eq_left, exists_eq_left', true_and, and_true, D.bl.injEq, D.int.injEq, D.str.injEq, D.ref.injEq, D.tup.injEq, D.lst.injEq, List.cons.injEq, if_true, if_false, Bool.false_eq_true, reduceCtorEq, false_and, and_false, or_false, false_or, exists_false])

/-! ### texts that are looked at -/
def Tx0 (N : Nat) (x : Str) : Prop := x.length ≤ N ∧ ∀ c ∈ x.cps.toList, c < 128
abbrev LET : Str := "abcdefghijklmnopqrstuvwxyz"
def RES : List Str := ["if", "then", "else", "and", "or", "not", "in", "len", "true", "false", "index", "each", "own", "count", "use", "module", "input", "output", "let", "resource", "deny", "kind", "answers", "left", "row", "self"]
def nameB (x : Str) : Bool := (decide ((1 : Int) ≤ x.length) && decide ((x.length : Int) ≤ 12)) && x.cps.toList.all fun c => decide (c ∈ LET.cps.toList)
def freeB (x : Str) : Bool := nameB x && !decide (x ∈ RES)
theorem flDs_strs : ∀ ys : List Str, flDs (ys.map .str) = some (ys.map V.str)
  | [] => rfl
  | y :: r => by simp [flDs, flD, flDs_strs r]
theorem inV_strs (x : Str) : ∀ ys : List Str, inV (.str x) (ys.map V.str) = decide (x ∈ ys)
  | [] => by simp [inV]
  | y :: r => by
    have ih := inV_strs x r
    simp only [inV, List.map_cons, List.any_cons, eqV] at ih ⊢
    rw [ih]
    by_cases e : y = x
    · subst e; simp
    · have : (y == x) = false := by simpa using e
      simp [this, Ne.symm e]
theorem inB_tup {s : Sto} {x : Str} {ys : List Str} : inB s (.str x) (.tup (ys.map .str)) = some (decide (x ∈ ys)) := by
  simp only [inB, inF, flD, flDs_strs, Option.map_some, inV_strs]
theorem inB_lst {s : Sto} {x : Str} {ys : List Str} : inB s (.str x) (.lst (ys.map .str)) = some (decide (x ∈ ys)) := by
  simp only [inB, inF, flD, asL, flDs_strs, Option.map_some, inV_strs]
theorem inB_ref {s : Sto} {n : Nat} {m : Bool} {x : Str} {ys : List Str} (h : s[n]? = some (.lst m (ys.map .str))) : inB s (.str x) (.ref n) = some (decide (x ∈ ys)) := by
  simp only [inB, inF, flD, asL, h, flDs_strs, Option.map_some, inV_strs]
theorem in_tup {s : Sto} {x : Str} {ys : List Str} : opIn s (.str x) (.tup (ys.map .str)) = some (.bl (decide (x ∈ ys))) := by simp only [opIn, inB_tup, Option.map_some]
theorem ni_tup {s : Sto} {x : Str} {ys : List Str} : opNotIn s (.str x) (.tup (ys.map .str)) = some (.bl (!decide (x ∈ ys))) := by simp only [opNotIn, inB_tup, Option.map_some]
theorem in_lst {s : Sto} {x : Str} {ys : List Str} : opIn s (.str x) (.lst (ys.map .str)) = some (.bl (decide (x ∈ ys))) := by simp only [opIn, inB_lst, Option.map_some]
theorem ni_lst {s : Sto} {x : Str} {ys : List Str} : opNotIn s (.str x) (.lst (ys.map .str)) = some (.bl (!decide (x ∈ ys))) := by simp only [opNotIn, inB_lst, Option.map_some]
theorem ni_ref {s : Sto} {n : Nat} {m : Bool} {x : Str} {ys : List Str} (h : s[n]? = some (.lst m (ys.map .str))) : opNotIn s (.str x) (.ref n) = some (.bl (!decide (x ∈ ys))) := by simp only [opNotIn, inB_ref h, Option.map_some]
theorem lc_signsC {env : Mi.Env} {s : Sto} {i : Nat} {t sg : Str} (hi : i < env.length) (hl : t.length ≤ 900000) :
    Wp (lcGo (fun _ => True) (tgN i) bYes (mOp opIn (mVar i) (mC (.str sg))) env (signs t) [] s) fun out s' => s' = s ∧ out = (t.cps.toList.map fun c => decide (c ∈ sg.cps.toList)).map .bl := by
  have ls : (signs t).length = t.length := by simp [signs, TL.len_tl]
  refine Wp.mono (lc_map (f := fun d => match d with | .str x => .bl (decide (x.cps.toList.headD 0 ∈ sg.cps.toList)) | d => d) True.intro (signs t) [] ?h (by rw [ls]; simp; omega)) ?k
  case h =>
    intro d hd
    obtain ⟨c, hc, rfl⟩ := List.mem_map.mp hd
    refine ⟨_, rfl, ?_⟩
    walk_at "ev"
    exact ⟨_, List.getElem?_set_self hi, _, in_sign, rfl⟩
  case k =>
    intro out s' ⟨e, e2⟩
    refine ⟨e, ?_⟩
    rw [e2]
    simp [signs]
    intro a _
    rfl
theorem all_in {t : List Nat} {A : List Nat} : ((t.map fun c => decide (c ∈ A)).all id) = t.all fun c => decide (c ∈ A) := by
  induction t with
  | nil => rfl
  | cons c r ih => simp [ih]
theorem le_int {s : Sto} {i j : Int} {b : Bool} (h : decide (i ≤ j) = b) : opLe s (.int i) (.int j) = some (.bl b) := by subst h; rfl
theorem name_ok {s : Sto} {x : Str} (h : x.length ≤ 900000) : Wp (F_is_name [.str x] s) fun v s' => s' = s ∧ v = .bl (nameB x) := by
  rw [F_is_name, mFun_ap (n := 1) rfl, b_is_name]
  walk_at "ev"
  refine ⟨_, isi_str_str .., .inl ⟨rfl, _, rfl, ?_⟩⟩
  unfold nameB
  by_cases c1 : (1 : Int) ≤ x.length
  · refine .inl ⟨le_int (decide_eq_true c1), ?_⟩
    by_cases c2 : (x.length : Int) ≤ 12
    · refine ⟨_, le_int (decide_eq_true c2), .inl ⟨rfl, ?_⟩⟩
      refine (lc_signsC (by show 1 < 2; decide) h).mono fun out s1 ⟨e1, e2⟩ => ?_
      subst e1
      refine ⟨_, all_bls e2, ?_⟩
      rw [all_in]; simp [c1, c2]
    · refine ⟨_, le_int (decide_eq_false c2), .inr ⟨rfl, ?_⟩⟩
      simp [c2]
  · refine .inr ⟨le_int (decide_eq_false c1), .inr ⟨rfl, ?_⟩⟩
    simp [c1]
theorem free_ok {s : Sto} {x : Str} (h : x.length ≤ 900000) : Wp (F_is_free_name [.str x] s) fun v s' => s' = s ∧ v = .bl (freeB x) := by
  rw [F_is_free_name, mFun_ap (n := 1) rfl, b_is_free_name]
  walk_at "ev"
  refine (name_ok h).mono fun v s1 ⟨e1, e2⟩ => ?_
  subst e1; subst e2
  unfold freeB
  cases nameB x with
  | true => exact .inl ⟨rfl, _, ni_tup (ys := RES), by simp⟩
  | false => exact .inr ⟨rfl, by simp⟩
end K04
end
section
set_option maxRecDepth 100000
set_option maxHeartbeats 1000000
namespace K04
open PySem L2 Mi
local macro_rules | `(tactic| walk_at "ev") => `(tactic| simp only [mMethX_ap, mMkP_ap, qF_ap, mLm_ap, mDicR_ap, sPutR_ap, mSplR_ap, sSwp_ap, put1_ap, itE_ap, Wp_ok, Wp_bind, Wp_quiet, WpS_fl, WpS_then, Nx_nx, Nx_rt, Nx_bk, Nx_ct, mVar_ap, mC_ap, mOp_ap, mUn_ap, mB_ap, mTru_ap, mAnd_ap, mOr_ap, mNot_ap,
  bAnd_ap, bOr_ap, bNot_ap, bYes_ap, mIf_ap, mNil_ap, mCons_ap, mTup_ap, mLst_ap, mLstR_ap, mDic0_ap, mCall_ap, mCb_ap, mMb_ap, mStr_ap, mRevT_ap, mPart_ap, mNoPart_ap, mSl_ap, mChain_ap, itL_ap, itT_ap, itS_ap, itR1_ap,
  sNil_ap, sSeq_ap, sIf_ap, sRet_ap, sRetN_ap, sBrk_ap, sCnt_ap, sExp_ap, sAsg_ap, sPar_ap, sPar3_ap, tgN_ap, tgNil_ap, tgCons_ap, sSetIx_ap, sFor_ap, Wp_mLc,
  List.map_cons, List.map_nil, List.cons_append, List.nil_append, List.replicate_succ, List.replicate_zero, List.getElem?_cons_zero, List.getElem?_cons_succ, List.set_cons_zero, List.set_cons_succ, List.length_cons, List.length_nil,
  Option.some.injEq, Option.bind_some, exists_eq_left, exists_eq_left', true_and, and_true, D.bl.injEq, D.int.injEq, D.str.injEq, D.ref.injEq, D.tup.injEq, D.lst.injEq, List.cons.injEq, if_true, if_false, Bool.false_eq_true, reduceCtorEq, false_and, and_false, or_false, false_or, exists_false])
def W (x : Str) : List Str := Txt.split x " "
def LN (x : Str) : List Str := Txt.split x "\n"
theorem split_sp {s : Sto} {x : Str} (h : x.length ≤ 900000) : mbSplit s (.str x) [.str " "] = some (.lst ((W x).map .str)) := by
  have sl : sizeLine = 16777216 := sizeLine_eq
  unfold mbSplit
  refine if_pos ⟨rfl, by omega, ?_⟩
  refine List.all_eq_true.mpr fun z hz => decide_eq_true ?_
  have := PyProof.Rows.part_short hz
  omega
theorem split_nl {s : Sto} {x : Str} (h : x.length ≤ 900000) : mbSplit s (.str x) [.str "\n"] = some (.lst ((LN x).map .str)) := by
  have sl : sizeLine = 16777216 := sizeLine_eq
  unfold mbSplit
  refine if_pos ⟨rfl, by omega, ?_⟩
  refine List.all_eq_true.mpr fun z hz => decide_eq_true ?_
  have := PyProof.Rows.part_short hz
  omega
theorem res_split : W "if then else and or not in len true false index each own count use module input output let resource deny kind answers left row self" = RES := by decide +kernel
def kindIn (x : Str) : Option Str := match W x with
  | [a, b] => if (a == "kind" && freeB b) = true then some b else none
  | _ => none
def oD : Option Str → D
  | some n => .str n
  | none => .non
theorem W_short {x z : Str} (h : z ∈ W x) : z.length ≤ x.length := PyProof.Rows.part_short h
theorem eq_int {s : Sto} {i j : Int} : opEq s (.int i) (.int j) = some (.bl (i == j)) := rfl
theorem ne_int {s : Sto} {i j : Int} : opNe s (.int i) (.int j) = some (.bl (!(i == j))) := rfl
theorem len_lst {s : Sto} {xs : List D} : cbLen s [.lst xs] = some (.int xs.length) := rfl
theorem kind_in_ok {s : Sto} {x : Str} (h : x.length ≤ 900000) : Wp (F_kind_in [.str x] s) fun v s' => s' = s ∧ v = oD (kindIn x) := by
  rw [F_kind_in, mFun_ap (n := 1) rfl, b_kind_in]
  simp only [List.map_cons, List.map_nil, List.cons_append, List.nil_append, List.replicate_succ, List.replicate_zero]
  refine seqK (fun e s' => e = [some (.str x), some (.lst ((W x).map .str)), none] ∧ s' = s) ?_ ?_
  · walk_at "ev"
    exact ⟨_, split_sp h, rfl⟩
  rintro _ s ⟨rfl, rfl⟩
  have sh : ∀ z ∈ W x, z.length ≤ 900000 := fun z hz => Nat.le_trans (W_short hz) h
  unfold kindIn
  generalize W x = ws at sh ⊢
  refine seqK (fun e s' => ∃ b, e = [some (.str x), some (.lst (ws.map .str)), some (.bl b)] ∧ s' = s ∧ (b = true → ∃ a n, ws = [a, n] ∧ (a == "kind" && freeB n) = true) ∧ (b = false → ∀ a n, ws = [a, n] → (a == "kind" && freeB n) = false)) ?_ ?_
  · walk_at "ev"
    refine ⟨_, len_lst, _, eq_int, ?_⟩
    by_cases c : ws.length = 2
    · refine .inl ⟨by simp [c], ?_⟩
      match ws, c, sh with
      | [a, n], _, sh =>
        refine ⟨_, ix_lst (i := 0) rfl, _, eq_strs, ?_⟩
        cases e1 : a == "kind" with
        | true =>
          refine .inl ⟨rfl, _, ix_lst (i := 1) rfl, (free_ok (sh n (by simp))).mono fun v s1 ⟨z1, z2⟩ => ?_⟩
          subst z1; subst z2
          exact ⟨_, rfl, rfl, fun z => ⟨a, n, rfl, by rw [e1, z]; rfl⟩, fun z a' n' e => by cases e; rw [e1, z]; rfl⟩
        | false => exact .inr ⟨rfl, _, rfl, fun z => by simp at z, fun z a' n' e => by cases e; rw [e1]; rfl⟩
      | [], c, _ => simp at c
      | [a], c, _ => simp at c
      | a :: b :: d :: r, c, _ => simp at c
    · have c2 : (((ws.map D.str).length : Int) == 2) = false := by simp; omega
      refine .inr ⟨by rw [c2]; rfl, _, rfl, fun z => (by rw [c2] at z; cases z), fun _ a n e => ?_⟩
      subst e; simp at c
  rintro _ s ⟨b, rfl, rfl, h1, h2⟩
  walk_at "ev"
  refine ⟨b, rfl, ?_⟩
  cases b with
  | true =>
    obtain ⟨a, n, rfl, e⟩ := h1 rfl
    simp only [e, if_true]
    exact ⟨_, ix_lst (i := 1) rfl, rfl⟩
  | false =>
    have h2 := h2 rfl
    match ws, h2 with
    | [a, n], h2 => simp [h2 a n rfl, oD]
    | [], _ => simp [oD]
    | [a], _ => simp [oD]
    | a :: b :: d :: r, _ => simp [oD]
end K04
end
section
set_option maxRecDepth 100000
set_option maxHeartbeats 1000000
namespace K04
open PySem L2 Mi
local macro_rules | `(tactic| walk_at "ev") => `(tactic| simp only [mMethX_ap, mMkP_ap, qF_ap, mLm_ap, mDicR_ap, sPutR_ap, mSplR_ap, sSwp_ap, put1_ap, itE_ap, Wp_ok, Wp_bind, Wp_quiet, WpS_fl, WpS_then, Nx_nx, Nx_rt, Nx_bk, Nx_ct, mVar_ap, mC_ap, mOp_ap, mUn_ap, mB_ap, mTru_ap, mAnd_ap, mOr_ap, mNot_ap,
  bAnd_ap, bOr_ap, bNot_ap, bYes_ap, mIf_ap, mNil_ap, mCons_ap, mTup_ap, mLst_ap, mLstR_ap, mDic0_ap, mCall_ap, mCb_ap, mMb_ap, mStr_ap, mRevT_ap, mPart_ap, mNoPart_ap, mSl_ap, mChain_ap, itL_ap, itT_ap, itS_ap, itR1_ap,
  sNil_ap, sSeq_ap, sIf_ap, sRet_ap, sRetN_ap, sBrk_ap, sCnt_ap, sExp_ap, sAsg_ap, sPar_ap, sPar3_ap, tgN_ap, tgNil_ap, tgCons_ap, sSetIx_ap, sFor_ap, Wp_mLc,
  List.map_cons, List.map_nil, List.cons_append, List.nil_append, List.replicate_succ, List.replicate_zero, List.getElem?_cons_zero, List.getElem?_cons_succ, List.set_cons_zero, List.set_cons_succ, List.length_cons, List.length_nil,
  Option.some.injEq, Option.bind_some, exists_eq_left, exists_eq_left', true_and, and_true, D.bl.injEq, D.int.injEq, D.str.injEq, D.ref.injEq, D.tup.injEq, D.lst.injEq, List.cons.injEq, if_true, if_false, Bool.false_eq_true, reduceCtorEq, false_and, and_false, or_false, false_or, exists_false])
abbrev Part := Str × Option Str
def marks : List Str := ["held", "single", "token", "guarded"]
def flds : List Str := ["set", "fixed"]
def anss : List Str := ["fresh", "free"]
def w5 : List Str := ["set", "fixed", "fresh", "free", "unique"]
def cut2 (x : Str) : Str := cutS x (some 2) none
def st2 (x : Str) : Bool := Txt.startswith x "  "
def partW (ws : List Str) : Option Part := match ws with
  | [a] => if a ∈ marks then some (a, none) else none
  | [a, b] => if (decide (a ∈ w5) && freeB b) = true then some (a, some b) else none
  | _ => none
def partIn (x : Str) : Option Part := if st2 x = true then partW (W (cut2 x)) else none
def pD (p : Part) : D := .tup [.str p.1, oD p.2]
def oP : Option Part → D
  | some p => pD p
  | none => .non
theorem len_short {x : Str} : (cut2 x).length ≤ x.length := cutS_le x _ _
theorem starts_ok {s : Sto} {x y : Str} : mbStarts s (.str x) [.str y] = some (.bl (Txt.startswith x y)) := rfl
theorem part_in_ok {s : Sto} {x : Str} (h : x.length ≤ 900000) : Wp (F_part_in [.str x] s) fun v s' => s' = s ∧ v = oP (partIn x) := by
  rw [F_part_in, mFun_ap (n := 1) rfl, b_part_in]
  simp only [List.map_cons, List.map_nil, List.cons_append, List.nil_append, List.replicate_succ, List.replicate_zero]
  unfold partIn
  cases e0 : st2 x with
  | false =>
    refine seqK (fun _ _ => False) ?_ (fun _ _ h => h.elim)
    walk_at "ev"
    refine ⟨_, starts_ok, _, rfl, ?_⟩
    have : Txt.startswith x "  " = false := e0
    simp [this, oP]
  | true =>
  refine seqK (fun e s' => e = [some (.str x), none] ∧ s' = s) ?_ ?_
  · walk_at "ev"
    refine ⟨_, starts_ok, _, rfl, ?_⟩
    have : Txt.startswith x "  " = true := e0
    simp [this]
  rintro _ s ⟨rfl, rfl⟩
  have h2 : (cut2 x).length ≤ 900000 := Nat.le_trans len_short h
  refine seqK (fun e s' => e = [some (.str x), some (.lst ((W (cut2 x)).map .str))] ∧ s' = s) ?_ ?_
  · walk_at "ev"
    exact ⟨_, rfl, _, rfl, _, rfl, _, rfl, _, split_sp h2, rfl⟩
  rintro _ s ⟨rfl, rfl⟩
  have sh : ∀ z ∈ W (cut2 x), z.length ≤ 900000 := fun z hz => Nat.le_trans (W_short hz) h2
  generalize W (cut2 x) = ws at sh ⊢
  simp only [if_true]
  match ws, sh with
  | [], sh =>
    refine seqK (fun e s' => e = [some (.str x), some (.lst [])] ∧ s' = s) ?_ ?_
    · walk_at "ev"
      refine ⟨_, len_lst, _, eq_int, _, rfl, ?_⟩
      rw [if_neg (by simp)]
      trivial
    rintro _ s ⟨rfl, rfl⟩
    refine seqK (fun e s' => e = [some (.str x), some (.lst [])] ∧ s' = s) ?_ ?_
    · walk_at "ev"
      refine ⟨_, len_lst, _, eq_int, _, rfl, ?_⟩
      rw [if_neg (by simp)]
      trivial
    rintro _ s ⟨rfl, rfl⟩
    walk_at "ev"
    rfl
  | [a], sh =>
    have key : partW [a] = if a ∈ marks then some (a, none) else none := rfl
    rw [key]
    by_cases c : a ∈ marks
    · refine seqK (fun _ _ => False) ?_ (fun _ _ h => h.elim)
      walk_at "ev"
      refine ⟨_, len_lst, _, eq_int, _, rfl, ?_⟩
      rw [if_pos (by simp)]
      refine ⟨_, ix_lst (i := 0) rfl, _, in_tup (ys := marks), _, rfl, ?_⟩
      rw [if_pos (decide_eq_true c)]
      refine ⟨_, ix_lst (i := 0) rfl, by rw [sizeLine_eq]; decide, ?_⟩
      rw [if_pos c]; rfl
    · refine seqK (fun e s' => e = [some (.str x), some (.lst [.str a])] ∧ s' = s) ?_ ?_
      · walk_at "ev"
        refine ⟨_, len_lst, _, eq_int, _, rfl, ?_⟩
        rw [if_pos (by simp)]
        refine ⟨_, ix_lst (i := 0) rfl, _, in_tup (ys := marks), _, rfl, ?_⟩
        rw [if_neg (by simpa using c)]
        trivial
      rintro _ s ⟨rfl, rfl⟩
      refine seqK (fun e s' => e = [some (.str x), some (.lst [.str a])] ∧ s' = s) ?_ ?_
      · walk_at "ev"
        refine ⟨_, len_lst, _, eq_int, _, rfl, ?_⟩
        rw [if_neg (by simp)]
        trivial
      rintro _ s ⟨rfl, rfl⟩
      walk_at "ev"
      rw [if_neg c]; rfl
  | [a, b], sh =>
    have key : partW [a, b] = if (decide (a ∈ w5) && freeB b) = true then some (a, some b) else none := rfl
    rw [key]
    refine seqK (fun e s' => e = [some (.str x), some (.lst [.str a, .str b])] ∧ s' = s) ?_ ?_
    · walk_at "ev"
      refine ⟨_, len_lst, _, eq_int, _, rfl, ?_⟩
      rw [if_neg (by simp)]
      trivial
    rintro _ s ⟨rfl, rfl⟩
    have tail : WpS (sRet (mC .non) [some (.str x), some (.lst [.str a, .str b])] s) (fun f s1 => match f with | .rt d => s1 = s ∧ d = .non | .nx _ => s1 = s ∧ D.non = .non | _ => False) := by
      walk_at "ev"
    refine seqK (fun e s' => e = [some (.str x), some (.lst [.str a, .str b])] ∧ s' = s ∧ (decide (a ∈ w5) && freeB b) = false) ?_ ?_
    · walk_at "ev"
      refine ⟨_, len_lst, _, eq_int, _, rfl, ?_⟩
      rw [if_pos (by simp)]
      refine ⟨_, ix_lst (i := 0) rfl, _, add_tup (by rw [sizeLine_eq]; decide), by rw [sizeLine_eq]; decide, _, add_tup (by rw [sizeLine_eq]; decide), _, in_tup (ys := w5), _, rfl, ?_⟩
      by_cases c : a ∈ w5
      · rw [if_pos (decide_eq_true c)]
        refine ⟨_, ix_lst (i := 1) rfl, (free_ok (sh b (by simp))).mono fun v s1 ⟨z1, z2⟩ => ?_⟩
        subst z1; subst z2
        refine ⟨_, rfl, ?_⟩
        cases f : freeB b with
        | true =>
          rw [if_pos rfl]
          refine ⟨_, ix_lst (i := 0) rfl, _, ix_lst (i := 1) rfl, by rw [sizeLine_eq]; decide, ?_⟩
          simp [c, oP, pD, oD]
        | false => simp
      · rw [if_neg (by simpa using c)]
        simp [c]
    rintro _ s ⟨rfl, rfl, e⟩
    walk_at "ev"
    simp [e, oP]
  | a :: b :: d :: r, sh =>
    have key : partW (a :: b :: d :: r) = none := rfl
    rw [key]
    have l1 : ((((a :: b :: d :: r).map D.str).length : Int) == 1) = false := by simp; omega
    have l2 : ((((a :: b :: d :: r).map D.str).length : Int) == 2) = false := by simp; omega
    generalize (a :: b :: d :: r).map D.str = ds at l1 l2
    refine seqK (fun e s' => e = [some (.str x), some (.lst ds)] ∧ s' = s) ?_ ?_
    · walk_at "ev"
      refine ⟨_, len_lst, _, eq_int, _, rfl, ?_⟩
      rw [if_neg (by rw [l1]; decide)]
      trivial
    rintro _ s ⟨rfl, rfl⟩
    refine seqK (fun e s' => e = [some (.str x), some (.lst ds)] ∧ s' = s) ?_ ?_
    · walk_at "ev"
      refine ⟨_, len_lst, _, eq_int, _, rfl, ?_⟩
      rw [if_neg (by rw [l2]; decide)]
      trivial
    rintro _ s ⟨rfl, rfl⟩
    walk_at "ev"
    rfl
end K04
end
section
set_option maxRecDepth 100000
set_option maxHeartbeats 1000000
namespace K04
open PySem L2 Mi
local macro_rules | `(tactic| walk_at "ev") => `(tactic| simp only [mMethX_ap, mMkP_ap, qF_ap, mLm_ap, mDicR_ap, sPutR_ap, mSplR_ap, sSwp_ap, put1_ap, itE_ap, Wp_ok, Wp_bind, Wp_quiet, WpS_fl, WpS_then, Nx_nx, Nx_rt, Nx_bk, Nx_ct, mVar_ap, mC_ap, mOp_ap, mUn_ap, mB_ap, mTru_ap, mAnd_ap, mOr_ap, mNot_ap,
  bAnd_ap, bOr_ap, bNot_ap, bYes_ap, mIf_ap, mNil_ap, mCons_ap, mTup_ap, mLst_ap, mLstR_ap, mDic0_ap, mCall_ap, mCb_ap, mMb_ap, mStr_ap, mRevT_ap, mPart_ap, mNoPart_ap, mSl_ap, mChain_ap, itL_ap, itT_ap, itS_ap, itR1_ap,
  sNil_ap, sSeq_ap, sIf_ap, sRet_ap, sRetN_ap, sBrk_ap, sCnt_ap, sExp_ap, sAsg_ap, sPar_ap, sPar3_ap, tgN_ap, tgNil_ap, tgCons_ap, sSetIx_ap, sFor_ap, Wp_mLc,
  List.map_cons, List.map_nil, List.cons_append, List.nil_append, List.replicate_succ, List.replicate_zero, List.getElem?_cons_zero, List.getElem?_cons_succ, List.set_cons_zero, List.set_cons_succ, List.length_cons, List.length_nil,
  Option.some.injEq, Option.bind_some, exists_eq_left, exists_eq_left', true_and, and_true, D.bl.injEq, D.int.injEq, D.str.injEq, D.ref.injEq, D.tup.injEq, D.lst.injEq, List.cons.injEq, if_true, if_false, Bool.false_eq_true, reduceCtorEq, false_and, and_false, or_false, false_or, exists_false])
/-! ### parts in lists -/
def asc (x : Str) : Prop := ∀ c ∈ x.cps.toList, c < 128
def ascO : Option Str → Prop
  | some x => asc x
  | none => True
def ascP (p : Part) : Prop := asc p.1 ∧ ascO p.2
def pyO : Option Str → PyData
  | some n => .str n
  | none => .none
def pyP (p : Part) : PyData := .tuple [.str p.1, pyO p.2]
theorem strOk_of {x : Str} (h : asc x) : PySem.PyData.strOk x = true := by
  unfold PyData.strOk
  rw [← Array.all_toList, List.all_eq_true]
  exact fun c hc => decide_eq_true (Nat.lt_trans (h c hc) (by decide))
theorem pyD_oD (o : Option Str) : pyD (oD o) = some (pyO o) := by cases o <;> rfl
theorem pyD_pD (p : Part) : pyD (pD p) = some (pyP p) := by
  obtain ⟨w, o⟩ := p
  simp only [pD, pyD, pyDs, pyD_oD, pyP]
theorem pyDs_pD : ∀ ps : List Part, pyDs (ps.map pD) = some (ps.map pyP)
  | [] => rfl
  | p :: r => by simp only [List.map_cons, pyDs, pyD_pD, pyDs_pD r]
theorem can_O {o : Option Str} (h : ascO o) : PyData.canLay0 (pyO o) = true := by
  cases o with
  | none => rfl
  | some n => simp only [pyO, PyData.canLay0]; exact strOk_of h
theorem can_P {p : Part} (h : ascP p) : PyData.canLay0 (pyP p) = true := by
  simp only [pyP, PyData.canLay0, PyData.canLayAll0, Bool.and_eq_true, and_true]
  exact ⟨strOk_of h.1, can_O h.2⟩
theorem dep_O (o : Option Str) : PyData.depth (pyO o) = 0 := by cases o <;> simp [pyO, PyData.depth]
theorem dep_P (p : Part) : PyData.depth (pyP p) = 1 := by simp [pyP, PyData.depth, PyData.depthAll, dep_O]
theorem can_Ps : ∀ {ps : List Part}, (∀ p ∈ ps, ascP p) → PyData.canLayAll0 (ps.map pyP) = true
  | [], _ => rfl
  | p :: r, h => by
    simp only [List.map_cons, PyData.canLayAll0, Bool.and_eq_true]
    exact ⟨can_P (h p List.mem_cons_self), can_Ps fun x hx => h x (List.mem_cons_of_mem _ hx)⟩
theorem dep_Ps : ∀ ps : List Part, PyData.depthAll (ps.map pyP) ≤ 1
  | [] => by simp [PyData.depthAll]
  | p :: r => by
    simp only [List.map_cons, PyData.depthAll, dep_P]
    have := dep_Ps r
    omega
theorem eqv_O (a b : Option Str) : PyData.eqv (pyO a) (pyO b) = decide (a = b) := by
  cases a <;> cases b <;> simp [pyO, PyData.eqv]
  rename_i x y
  by_cases e : x = y
  · subst e; simp
  · simp [e]
theorem eqv_P (a b : Part) : PyData.eqv (pyP a) (pyP b) = decide (a = b) := by
  obtain ⟨a1, a2⟩ := a
  obtain ⟨b1, b2⟩ := b
  simp only [pyP, PyData.eqv, PyData.eqvAll, eqv_O, Bool.and_true]
  by_cases e : a1 = b1
  · subst e; simp
  · have : (a1 == b1) = false := by simpa using e
    simp [this, e]
theorem inB_parts {s : Sto} {n : Nat} {m : Bool} {p : Part} {ps : List Part} (h : s[n]? = some (.lst m (ps.map pD))) (hp : ascP p) (hs : ∀ p ∈ ps, ascP p) : inB s (pD p) (.ref n) = some (decide (p ∈ ps)) := by
  have f : flD (pD p) = none := rfl
  have q : inB s (pD p) (.ref n) = (match inF s (pD p) (.ref n) with
    | some b => some b
    | none => match asL s (.ref n) with
      | some xs => match pyDs xs, pyD (pD p) with
        | some ds, some y => if SeqAt.shaped y = true ∧ SeqAt.shaped (.list ds) = true then some (ds.any fun z => PyData.eqv z y) else none
        | _, _ => none
      | none => none) := rfl
  rw [q]
  have f2 : inF s (pD p) (.ref n) = none := by simp only [inF, f]
  simp only [f2, asL, h, pyDs_pD, pyD_pD]
  have s1 : SeqAt.shaped (pyP p) = true := by
    unfold SeqAt.shaped
    rw [Bool.and_eq_true]
    exact ⟨can_P hp, decide_eq_true (by rw [dep_P]; decide)⟩
  have s2 : SeqAt.shaped (.list (ps.map pyP)) = true := by
    unfold SeqAt.shaped
    rw [Bool.and_eq_true]
    exact ⟨by simp only [PyData.canLay0]; exact can_Ps hs, decide_eq_true (by simp only [PyData.depth]; have := dep_Ps ps; omega)⟩
  rw [if_pos ⟨s1, s2⟩]
  congr 1
  clear h hs s2 f2 q
  induction ps with
  | nil => simp
  | cons a r ih =>
    simp only [List.map_cons, List.any_cons, eqv_P, ih, List.mem_cons]
    by_cases e : a = p
    · subst e; simp
    · have e2 : ¬ p = a := fun z => e z.symm
      simp [e, e2]
theorem in_parts {s : Sto} {n : Nat} {m : Bool} {p : Part} {ps : List Part} (h : s[n]? = some (.lst m (ps.map pD))) (hp : ascP p) (hs : ∀ p ∈ ps, ascP p) : opIn s (.tup [.str p.1, oD p.2]) (.ref n) = some (.bl (decide (p ∈ ps))) := by
  simp only [opIn]
  rw [show D.tup [.str p.1, oD p.2] = pD p from rfl, inB_parts h hp hs]; rfl
theorem ni_parts {s : Sto} {n : Nat} {m : Bool} {p : Part} {ps : List Part} (h : s[n]? = some (.lst m (ps.map pD))) (hp : ascP p) (hs : ∀ p ∈ ps, ascP p) : opNotIn s (.tup [.str p.1, oD p.2]) (.ref n) = some (.bl (!decide (p ∈ ps))) := by
  simp only [opNotIn]
  rw [show D.tup [.str p.1, oD p.2] = pD p from rfl, inB_parts h hp hs]; rfl
/-- a list comprehension with a test that changes nothing -/
theorem lc_filt {G : Sto → Prop} {g : Tg} {bt : BT} {fe : ET} {env : Mi.Env} {s : Sto} {p : D → Bool} {f : D → D} (hG : G s) :
    ∀ (ds acc : List D), (∀ d ∈ ds, ∃ e2, g d env = some e2 ∧ Wp (bt e2 s) (fun b s' => s' = s ∧ b = p d) ∧ (p d = true → Wp (fe e2 s) fun y s' => s' = s ∧ y = f d)) → acc.length + ds.length ≤ 1000000 →
      Wp (lcGo G g bt fe env ds acc s) fun out s' => s' = s ∧ out = acc ++ (ds.filter p).map f
  | [], acc, _, _ => by
    rw [lcGo, if_pos hG]
    exact ⟨rfl, by simp⟩
  | d :: r, acc, h, hl => by
    obtain ⟨e2, he, hb, hw⟩ := h d List.mem_cons_self
    rw [lcGo, if_pos hG, he]
    rw [List.length_cons] at hl
    simp only [Wp_bind]
    refine hb.mono fun b s1 ⟨e1, hb2⟩ => ?_
    subst e1; subst hb2
    cases hp : p d with
    | true =>
      simp only [Wp_bind]
      refine (hw hp).mono fun y s2 ⟨e3, hy⟩ => ?_
      subst e3; subst hy
      rw [if_pos (Nat.lt_of_lt_of_le (show acc.length < 1000001 by omega) (by decide))]
      refine (lc_filt hG r (acc ++ [f d]) (fun x hx => h x (List.mem_cons_of_mem _ hx)) (by simp; omega)).mono fun out s2 ⟨e2, e3⟩ => ⟨e2, by rw [e3]; simp [List.filter_cons, hp]⟩
    | false =>
      refine (lc_filt hG r acc (fun x hx => h x (List.mem_cons_of_mem _ hx)) (by omega)).mono fun out s2 ⟨e2, e3⟩ => ⟨e2, by rw [e3]; simp [List.filter_cons, hp]⟩
def allNm (ps : List Part) : List (Option Str) := (ps.filter fun p => decide (p.1 ∈ flds ++ anss)).map (·.2)
def room (ps : List Part) (w : Str) : Bool := if w ∈ flds then decide ((ps.filter fun p => decide (p.1 ∈ flds)).length < 6) else decide ((ps.filter fun p => decide (p.1 ∈ anss)).length < 2)
def takesB (ps : List Part) (p : Part) : Bool := !decide (p ∈ ps) && !(decide (p.1 = "unique") && (!decide (((("set" : Str), p.2) : Part) ∈ ps) && !decide (((("fixed" : Str), p.2) : Part) ∈ ps))) && !(decide (p.1 ∈ flds ++ anss) && (decide (p.2 ∈ allNm ps) || !room ps p.1))
def kFs (nm : Str) (l : Nat) : List (Str × D) := [("held_name", .str nm), ("held_parts", .ref l)]
structure KindAt (s : Sto) (q l : Nat) (ps : List Part) : Prop where
  ins : ∃ nm, s[q]? = some (.ins true "Kind" (kFs nm l))
  lst : s[l]? = some (.lst true (ps.map pD))
  asc : ∀ p ∈ ps, ascP p
  len : ps.length ≤ 100000
theorem fld_parts {s : Sto} {q l : Nat} {ps : List Part} (h : KindAt s q l ps) : fldD "Kind" "held_parts" s (.ref q) = some (.ref l) := by
  obtain ⟨nm, e⟩ := h.ins
  simp only [fldD, e, if_true]
  rfl
theorem all_names_ok {s : Sto} {q l : Nat} {ps : List Part} (h : KindAt s q l ps) : Wp (F_Kind_all_names [.ref q] s) fun v s' => s' = s ∧ v = .lst ((allNm ps).map oD) := by
  rw [F_Kind_all_names, mFun_ap (n := 1) rfl, b_Kind_all_names]
  walk_at "ev"
  have ea : asL s (.ref l) = some (ps.map pD) := by simp only [asL, h.lst]
  refine ⟨_, fld_parts h, _, ea, ?_⟩
  refine Wp.mono (lc_filt (p := fun d => match d with | .tup (.str w :: _) => decide (w ∈ flds ++ anss) | _ => false) (f := fun d => match d with | .tup [_, o] => o | _ => .non) (show stays (.ref l) (ps.map pD) s from ea) (ps.map pD) [] ?h (by have := h.len; simp; omega)) ?k
  case h =>
    intro d hd
    obtain ⟨⟨w, o⟩, hp, rfl⟩ := List.mem_map.mp hd
    refine ⟨_, rfl, ?_, fun _ => ?_⟩
    · walk_at "ev"
      exact ⟨_, rfl, _, add_tup (by rw [sizeLine_eq]; decide), _, in_tup (ys := flds ++ anss), _, rfl, rfl⟩
    · walk_at "ev"
      exact ⟨_, rfl, rfl⟩
  case k =>
    intro out s1 ⟨e1, e2⟩
    refine ⟨e1, ?_⟩
    rw [e2, List.nil_append]
    unfold allNm
    clear h ea e2
    induction ps with
    | nil => rfl
    | cons p r ih =>
      obtain ⟨w, o⟩ := p
      simp only [List.map_cons, List.filter_cons, pD] at ih ⊢
      by_cases c : w ∈ flds ++ anss
      · simp only [c, decide_true, if_true, List.map_cons]
        rw [← ih]
      · simp only [c, decide_false, Bool.false_eq_true, if_false]
        exact ih
theorem len_filt {ps : List Part} {A : List Str} : ((ps.map pD).filter fun d => match d with | .tup (.str w :: _) => decide (w ∈ A) | _ => false).length = (ps.filter fun p => decide (p.1 ∈ A)).length := by
  induction ps with
  | nil => rfl
  | cons p r ih =>
    obtain ⟨w, o⟩ := p
    simp only [List.map_cons, List.filter_cons, pD] at ih ⊢
    by_cases c : w ∈ A
    · simp only [c, decide_true, if_true, List.length_cons]
      rw [← ih]
    · simp only [c, decide_false, Bool.false_eq_true, if_false]
      exact ih
theorem lt_int {s : Sto} {i j : Int} : opLt s (.int i) (.int j) = some (.bl (decide (i < j))) := rfl
theorem has_room_ok {s : Sto} {q l : Nat} {ps : List Part} {w : Str} (h : KindAt s q l ps) : Wp (F_Kind_has_room [.ref q, .str w] s) fun v s' => s' = s ∧ v = .bl (room ps w) := by
  rw [F_Kind_has_room, mFun_ap (n := 2) rfl, b_Kind_has_room]
  simp only [List.map_cons, List.map_nil, List.cons_append, List.nil_append, List.replicate_succ, List.replicate_zero]
  have ea : asL s (.ref l) = some (ps.map pD) := by simp only [asL, h.lst]
  refine seqK (fun e s' => ∃ (A : List Str) (k : Nat), e = [some (.ref q), some (.str w), some (.tup (A.map .str)), some (.int (k : Int)), none, none] ∧ s' = s ∧ room ps w = decide ((ps.filter fun p => decide (p.1 ∈ A)).length < k)) ?_ ?_
  · walk_at "ev"
    refine ⟨_, in_tup (ys := flds), _, rfl, ?_⟩
    unfold room
    by_cases c : w ∈ flds
    · rw [if_pos (decide_eq_true c)]
      refine ⟨by rw [sizeLine_eq]; decide, _, rfl, flds, 6, rfl, ?_⟩
      rw [if_pos c]
    · rw [if_neg (by simpa using c)]
      refine ⟨by rw [sizeLine_eq]; decide, _, rfl, anss, 2, rfl, ?_⟩
      rw [if_neg c]
  rintro _ s ⟨A, k, rfl, rfl, er⟩
  walk_at "ev"
  refine ⟨_, fld_parts h, _, ea, ?_⟩
  refine Wp.mono (lc_filt (p := fun d => match d with | .tup (.str w :: _) => decide (w ∈ A) | _ => false) (f := fun d => match d with | .tup [w, o] => w | _ => .non) (show stays (.ref l) (ps.map pD) s from ea) (ps.map pD) [] ?h (by have := h.len; simp; omega)) ?k
  case h =>
    intro d hd
    obtain ⟨⟨w', o⟩, hp, rfl⟩ := List.mem_map.mp hd
    refine ⟨_, rfl, ?_, fun _ => ?_⟩
    · walk_at "ev"
      exact ⟨_, rfl, _, rfl, _, in_tup (ys := A), _, rfl, rfl⟩
    · walk_at "ev"
      exact ⟨_, rfl, rfl⟩
  case k =>
    intro out s1 ⟨e1, e2⟩
    subst e1
    refine ⟨_, len_lst, _, lt_int, ?_⟩
    rw [er, e2, List.nil_append, List.length_map, len_filt]
    simp
theorem inV_oD (o : Option Str) : ∀ os : List (Option Str), flDs (os.map oD) = some (os.map fun o => match o with | some n => V.str n | none => .non) ∧ (os.map fun o => match o with | some n => V.str n | none => V.non).any (fun y => eqV y (match o with | some n => V.str n | none => .non)) = decide (o ∈ os)
  | [] => ⟨rfl, by simp⟩
  | a :: r => by
    obtain ⟨i1, i2⟩ := inV_oD o r
    refine ⟨?_, ?_⟩
    · cases a <;> simp only [List.map_cons, flDs, oD, flD, i1]
    · simp only [List.map_cons, List.any_cons, i2, List.mem_cons]
      cases a with
      | none =>
        cases o with
        | none => simp [eqV]
        | some n => simp [eqV]
      | some m =>
        cases o with
        | none => simp [eqV]
        | some n =>
          by_cases e : m = n
          · subst e; simp [eqV]
          · have e2 : ¬ n = m := fun z => e z.symm
            simp [eqV, e, e2]
theorem in_oD {s : Sto} {o : Option Str} {os : List (Option Str)} : opIn s (oD o) (.lst (os.map oD)) = some (.bl (decide (o ∈ os))) := by
  obtain ⟨i1, i2⟩ := inV_oD o os
  cases o with
  | none => simp only [opIn, inB, oD, inF, flD, asL, i1, Option.map_some, inV]; simp only at i2; rw [i2]
  | some n => simp only [opIn, inB, oD, inF, flD, asL, i1, Option.map_some, inV]; simp only at i2; rw [i2]
theorem app_ok {s : Sto} {xs : List D} {y : D} (h : xs.length ≤ 100000) : lmAppend s xs [y] = some (.non, xs ++ [y]) := if_pos (Nat.lt_of_le_of_lt h (by rw [sizeLine_eq]; decide))
theorem insD_kind {s : Sto} {q l : Nat} {ps : List Part} (h : KindAt s q l ps) : ∃ nm, insD s (.ref q) = some (("Kind" : Str), kFs nm l) := by
  obtain ⟨nm, e⟩ := h.ins
  exact ⟨nm, by simp only [insD, e]⟩
theorem takes_ok {s : Sto} {q l : Nat} {ps : List Part} {p : Part} (h : KindAt s q l ps) (hp : ascP p) : Wp (F_Kind_takes [.ref q, .str p.1, oD p.2] s) fun v s' => v = .bl (takesB ps p) ∧ s' = if takesB ps p = true then s.set l (.lst true ((ps ++ [p]).map pD)) else s := by
  rw [F_Kind_takes, mFun_ap (n := 3) rfl, b_Kind_takes]
  simp only [List.map_cons, List.map_nil, List.cons_append, List.nil_append, List.replicate_succ, List.replicate_zero]
  have hset : ascP ("set", p.2) := ⟨show asc "set" by unfold asc; decide, hp.2⟩
  have hfix : ascP ("fixed", p.2) := ⟨show asc "fixed" by unfold asc; decide, hp.2⟩
  have sl : (2 : Nat) ≤ sizeLine := by rw [sizeLine_eq]; decide
  by_cases c1 : p ∈ ps
  · refine seqK (fun _ _ => False) ?_ (fun _ _ h => h.elim)
    walk_at "ev"
    refine ⟨sl, _, fld_parts h, _, in_parts h.lst hp h.asc, _, rfl, ?_⟩
    rw [if_pos (decide_eq_true c1)]
    simp [takesB, c1]
  refine seqK (fun e s' => e = [some (.ref q), some (.str p.1), some (oD p.2)] ∧ s' = s) ?_ ?_
  · walk_at "ev"
    refine ⟨sl, _, fld_parts h, _, in_parts h.lst hp h.asc, _, rfl, ?_⟩
    rw [if_neg (by simpa using c1)]
    trivial
  rintro _ s ⟨rfl, rfl⟩
  by_cases c2 : (decide (p.1 = "unique") && (!decide (((("set" : Str), p.2) : Part) ∈ ps) && !decide (((("fixed" : Str), p.2) : Part) ∈ ps))) = true
  · refine seqK (fun _ _ => False) ?_ (fun _ _ h => h.elim)
    simp only [Bool.and_eq_true, decide_eq_true_eq] at c2
    obtain ⟨u1, u2, u3⟩ := c2
    walk_at "ev"
    refine ⟨_, eq_strs, _, rfl, ?_⟩
    rw [if_pos (by rw [u1]; rfl)]
    refine ⟨sl, _, fld_parts h, _, ni_parts h.lst hset h.asc, _, rfl, ?_⟩
    rw [if_pos u2]
    refine ⟨sl, _, fld_parts h, _, ni_parts h.lst hfix h.asc, _, rfl, ?_⟩
    rw [if_pos u3]
    simp [takesB, c1, u1, u2, u3]
  refine seqK (fun e s' => e = [some (.ref q), some (.str p.1), some (oD p.2)] ∧ s' = s) ?_ ?_
  · walk_at "ev"
    refine ⟨_, eq_strs, _, rfl, ?_⟩
    by_cases u1 : p.1 = "unique"
    · rw [if_pos (by rw [u1]; rfl)]
      refine ⟨sl, _, fld_parts h, _, ni_parts h.lst hset h.asc, _, rfl, ?_⟩
      by_cases u2 : (!decide (((("set" : Str), p.2) : Part) ∈ ps)) = true
      · rw [if_pos u2]
        refine ⟨sl, _, fld_parts h, _, ni_parts h.lst hfix h.asc, _, rfl, ?_⟩
        rw [if_neg (by intro u3; apply c2; rw [u2, u3, decide_eq_true u1]; rfl)]
        trivial
      · rw [if_neg u2]
        trivial
    · rw [if_neg (by simpa using u1)]
      trivial
  rintro _ s ⟨rfl, rfl⟩
  by_cases c3 : (decide (p.1 ∈ flds ++ anss) && (decide (p.2 ∈ allNm ps) || !room ps p.1)) = true
  · refine seqK (fun _ _ => False) ?_ (fun _ _ h => h.elim)
    obtain ⟨nm, hi⟩ := insD_kind h
    simp only [Bool.and_eq_true, decide_eq_true_eq, Bool.or_eq_true] at c3
    obtain ⟨u1, u2⟩ := c3
    walk_at "ev"
    refine ⟨_, add_tup (by rw [sizeLine_eq]; decide), _, in_tup (ys := flds ++ anss), _, rfl, ?_⟩
    rw [if_pos (decide_eq_true u1)]
    refine ⟨kFs nm l, hi, rfl, (all_names_ok h).mono fun v s1 ⟨z1, z2⟩ => ?_⟩
    subst z1; subst z2
    refine ⟨_, in_oD, _, rfl, ?_⟩
    by_cases u3 : p.2 ∈ allNm ps
    · rw [if_pos (decide_eq_true u3)]
      simp only [takesB, c1, u1, u3, decide_true, decide_false, Bool.true_or, Bool.and_self, Bool.not_true, Bool.not_false, Bool.and_false, Bool.false_eq_true, if_false, and_self]
    · rw [if_neg (by simpa using u3)]
      refine ⟨kFs nm l, hi, rfl, (has_room_ok h).mono fun v s1 ⟨z1, z2⟩ => ?_⟩
      subst z1; subst z2
      refine ⟨_, rfl, ?_⟩
      have u4 : room ps p.1 = false := by
        rcases u2 with u2 | u2
        · exact absurd u2 u3
        · simpa using u2
      rw [u4]
      simp [takesB, u1, u4]
  refine seqK (fun e s' => e = [some (.ref q), some (.str p.1), some (oD p.2)] ∧ s' = s) ?_ ?_
  · obtain ⟨nm, hi⟩ := insD_kind h
    walk_at "ev"
    refine ⟨_, add_tup (by rw [sizeLine_eq]; decide), _, in_tup (ys := flds ++ anss), _, rfl, ?_⟩
    by_cases u1 : p.1 ∈ flds ++ anss
    · rw [if_pos (decide_eq_true u1)]
      refine ⟨kFs nm l, hi, rfl, (all_names_ok h).mono fun v s1 ⟨z1, z2⟩ => ?_⟩
      subst z1; subst z2
      refine ⟨_, in_oD, _, rfl, ?_⟩
      have u3 : ¬ p.2 ∈ allNm ps := fun u3 => c3 (by simp only [u1, u3, decide_true, Bool.true_or, Bool.and_self])
      rw [if_neg (by simpa using u3)]
      refine ⟨kFs nm l, hi, rfl, (has_room_ok h).mono fun v s1 ⟨z1, z2⟩ => ?_⟩
      subst z1; subst z2
      refine ⟨_, rfl, ?_⟩
      have u4 : room ps p.1 = true := by
        cases u4 : room ps p.1 with
        | true => rfl
        | false => exact absurd (by simp only [u1, u4, decide_true, Bool.not_false, Bool.or_true, Bool.and_self]) c3
      rw [u4]
      simp
    · rw [if_neg (by simpa using u1)]
      trivial
  rintro _ s ⟨rfl, rfl⟩
  have good : takesB ps p = true := by
    have n2 := Bool.eq_false_iff.mpr c2
    have n3 := Bool.eq_false_iff.mpr c3
    simp only [takesB, n2, n3, c1, decide_false, Bool.not_false, Bool.and_self]
  rw [good]
  refine seqK (fun e s' => e = [some (.ref q), some (.str p.1), some (oD p.2)] ∧ s' = s.set l (.lst true ((ps ++ [p]).map pD))) ?_ ?_
  · walk_at "ev"
    refine ⟨_, fld_parts h, _, _, rfl, h.lst, sl, _, _, _, h.lst, app_ok (by simpa using h.len), ?_⟩
    simp [pD]
  rintro _ _ ⟨rfl, rfl⟩
  walk_at "ev"
end K04
end
section
set_option maxRecDepth 100000
set_option maxHeartbeats 1000000
namespace K04
open PySem L2 Mi
local macro_rules | `(tactic| walk_at "ev") => `(tactic| simp only [mMethX_ap, mMkP_ap, qF_ap, mLm_ap, mDicR_ap, sPutR_ap, mSplR_ap, sSwp_ap, put1_ap, itE_ap, Wp_ok, Wp_bind, Wp_quiet, WpS_fl, WpS_then, Nx_nx, Nx_rt, Nx_bk, Nx_ct, mVar_ap, mC_ap, mOp_ap, mUn_ap, mB_ap, mTru_ap, mAnd_ap, mOr_ap, mNot_ap,
  bAnd_ap, bOr_ap, bNot_ap, bYes_ap, mIf_ap, mNil_ap, mCons_ap, mTup_ap, mLst_ap, mLstR_ap, mDic0_ap, mCall_ap, mCb_ap, mMb_ap, mStr_ap, mRevT_ap, mPart_ap, mNoPart_ap, mSl_ap, mChain_ap, itL_ap, itT_ap, itS_ap, itR1_ap,
  sNil_ap, sSeq_ap, sIf_ap, sRet_ap, sRetN_ap, sBrk_ap, sCnt_ap, sExp_ap, sAsg_ap, sPar_ap, sPar3_ap, tgN_ap, tgNil_ap, tgCons_ap, sSetIx_ap, sFor_ap, Wp_mLc,
  List.map_cons, List.map_nil, List.cons_append, List.nil_append, List.replicate_succ, List.replicate_zero, List.getElem?_cons_zero, List.getElem?_cons_succ, List.set_cons_zero, List.set_cons_succ, List.length_cons, List.length_nil,
  Option.some.injEq, Option.bind_some, exists_eq_left, exists_eq_left', true_and, and_true, D.bl.injEq, D.int.injEq, D.str.injEq, D.ref.injEq, D.tup.injEq, D.lst.injEq, List.cons.injEq, if_true, if_false, Bool.false_eq_true, reduceCtorEq, false_and, and_false, or_false, false_or, exists_false])
/-! ### parts in lists -/
/-! ### slices and starts -/
theorem cut_to (x : Str) (k : Nat) : (cutS x none (some (k : Int))).cps.toList = x.cps.toList.take k := by
  unfold cutS
  simp only [HT.sIx_nat, HT.sIx_none, List.drop_zero, Nat.sub_zero]
  have : x.length = x.cps.toList.length := by rw [TL.len_tl]
  show (List.toArray _).toList = _
  rw [List.toList_toArray, this]
  rw [← List.take_take, List.take_length]
theorem cut_from (x : Str) (k : Nat) : (cutS x (some (k : Int)) none).cps.toList = x.cps.toList.drop k := by
  unfold cutS
  simp only [HT.sIx_nat, HT.sIx_none]
  have : x.length = x.cps.toList.length := by rw [TL.len_tl]
  show (List.toArray _).toList = _
  rw [List.toList_toArray, this]
  by_cases h : k ≤ x.cps.toList.length
  · rw [Nat.min_eq_left h]
    exact List.take_of_length_le (by simp)
  · rw [Nat.min_eq_right (by omega), List.drop_length, List.drop_eq_nil_of_le (by omega)]
    simp
theorem str_ext {x y : Str} (h : x.cps.toList = y.cps.toList) : x = y := TL.ext_tl h
theorem st2_eq (x : Str) : st2 x = (cutS x none (some 2) == "  ") := by
  have e1 : st2 x = (decide (0 + ("  " : Str).length ≤ x.length) && Builtin.Str.subAt x "  " 0) := rfl
  have e2 : (cutS x none (some 2)).cps.toList = x.cps.toList.take 2 := cut_to x 2
  have e3 : Builtin.Str.subAt x "  " 0 = (x.cps.toList.take 2 == [32, 32]) := by
    rw [StrLaws.subAt_eq, List.drop_zero]; rfl
  have l : x.length = x.cps.toList.length := by rw [TL.len_tl]
  rw [e1, e3]
  by_cases c : x.cps.toList.take 2 = [32, 32]
  · have : cutS x none (some 2) = "  " := str_ext (by rw [e2, c]; rfl)
    rw [this, c]
    have hl : 2 ≤ x.length := by
      rw [l]
      have := congrArg List.length c
      rw [List.length_take] at this
      simp only [List.length_cons, List.length_nil] at this
      omega
    have : decide (0 + ("  " : Str).length ≤ x.length) = true := decide_eq_true (by show 0 + 2 ≤ _; omega)
    rw [this]; rfl
  · have h1 : (x.cps.toList.take 2 == [32, 32]) = false := by simpa using c
    have h2 : (cutS x none (some 2) == "  ") = false := by
      have : ¬ cutS x none (some 2) = "  " := fun z => c (by rw [← e2, z]; rfl)
      simpa using this
    rw [h1, h2, Bool.and_false]
theorem tl_app (u v : Str) : (u ++ v).cps.toList = u.cps.toList ++ v.cps.toList := by
  show (u.cps ++ v.cps).toList = _
  simp
def tot (ys : List Str) : Nat := (ys.map fun y => y.length + 1).sum
theorem tot_cons (y : Str) (r : List Str) : tot (y :: r) = y.length + 1 + tot r := by simp [tot]
theorem tot_app (a b : List Str) : tot (a ++ b) = tot a + tot b := by simp [tot]
theorem tot_sub {a b : List Str} (h : a.Sublist b) : tot a ≤ tot b := by
  induction h with
  | slnil => exact Nat.le_refl _
  | cons x _ ih => rw [tot_cons]; omega
  | cons_cons x _ ih => rw [tot_cons, tot_cons]; omega
def TxL (M : Nat) (ds : List D) : Prop := ∃ ys : List Str, ds = ys.map .str ∧ (∀ y ∈ ys, asc y) ∧ tot ys ≤ M
theorem TxL.mono {M N : Nat} {ds : List D} (h : TxL M ds) (i : M ≤ N) : TxL N ds := by
  obtain ⟨ys, e, a, b⟩ := h
  exact ⟨ys, e, a, by omega⟩
theorem TxL.nil : TxL 0 [] := ⟨[], rfl, by simp, by simp [tot]⟩
theorem TxL.one {x : Str} (h : asc x) : TxL (x.length + 1) [.str x] := ⟨[x], rfl, by simpa using h, by simp [tot]⟩
theorem TxL.app {M N : Nat} {a b : List D} (h : TxL M a) (k : TxL N b) : TxL (M + N) (a ++ b) := by
  obtain ⟨ys, e, a1, b1⟩ := h
  obtain ⟨zs, e2, a2, b2⟩ := k
  subst e; subst e2
  refine ⟨ys ++ zs, by simp, fun y hy => ?_, by rw [tot_app]; omega⟩
  rcases List.mem_append.mp hy with hy | hy
  · exact a1 y hy
  · exact a2 y hy
theorem TxL.sub {M : Nat} {a b : List D} (h : TxL M b) (k : a.Sublist b) : TxL M a := by
  obtain ⟨ys, e, a1, b1⟩ := h
  subst e
  obtain ⟨zs, k1, k2⟩ := List.sublist_map_iff.mp k
  exact ⟨zs, k2, fun y hy => a1 y (k1.subset hy), Nat.le_trans (tot_sub k1) b1⟩
theorem cut_sub (xs : List D) (lo hi : Option Int) : (cutD xs lo hi).Sublist xs := (List.take_sublist _ _).trans (List.drop_sublist _ _)
theorem TxL.cut {M : Nat} {a : List D} (h : TxL M a) (lo hi : Option Int) : TxL M (cutD a lo hi) := h.sub (cut_sub _ _ _)
theorem TxL.mem {M : Nat} {a : List D} {d : D} (h : TxL M a) (k : d ∈ a) : ∃ y, d = .str y ∧ asc y ∧ y.length + 1 ≤ M := by
  obtain ⟨ys, e, a1, b1⟩ := h
  subst e
  obtain ⟨y, hy, rfl⟩ := List.mem_map.mp k
  refine ⟨y, rfl, a1 y hy, ?_⟩
  have := tot_sub (List.singleton_sublist.mpr hy)
  rw [tot_cons] at this
  omega
theorem TxL.len {M : Nat} {a : List D} (h : TxL M a) : a.length ≤ M := by
  obtain ⟨ys, e, a1, b1⟩ := h
  subst e
  rw [List.length_map]
  refine Nat.le_trans ?_ b1
  clear a1 b1
  induction ys with
  | nil => simp
  | cons y r ih => rw [tot_cons, List.length_cons]; omega
theorem join_tot (sep : Str) (hs : sep.length ≤ 1) : ∀ ys : List Str, (Str.join sep ys).length ≤ tot ys
  | [] => Nat.zero_le _
  | [a] => by show a.length ≤ _; rw [tot_cons]; omega
  | a :: b :: r => by
    show (a ++ sep ++ Str.join sep (b :: r)).length ≤ _
    rw [strLen_append, strLen_append, tot_cons]
    have := join_tot sep hs (b :: r)
    omega
theorem join_eq (sep : Str) (hs : sep.length = 1) : ∀ ys : List Str, ys ≠ [] → (Str.join sep ys).length + 1 = tot ys
  | [], h => absurd rfl h
  | [a], _ => by show a.length + 1 = _; rw [tot_cons]; rfl
  | a :: b :: r, _ => by
    show (a ++ sep ++ Str.join sep (b :: r)).length + 1 = _
    rw [strLen_append, strLen_append, tot_cons]
    have := join_eq sep hs (b :: r) (by simp)
    omega
theorem asc_app {x y : Str} (a : asc x) (b : asc y) : asc (x ++ y) := by
  intro c hc
  rw [tl_app] at hc
  rcases List.mem_append.mp hc with hc | hc
  · exact a c hc
  · exact b c hc
theorem join_asc (sep : Str) (hs : asc sep) : ∀ ys : List Str, (∀ y ∈ ys, asc y) → asc (Str.join sep ys)
  | [], _ => by intro c hc; cases hc
  | [a], h => h a (by simp)
  | a :: b :: r, h => asc_app (asc_app (h a (by simp)) hs) (join_asc sep hs (b :: r) fun y hy => h y (List.mem_cons_of_mem _ hy))
theorem allStr_map : ∀ ys : List Str, allStr (ys.map .str) = some ys
  | [] => rfl
  | y :: r => by simp only [List.map_cons, allStr, allStr_map r, Option.map_some]
theorem sum_le (ys : List Str) (k : Nat) (hk : k ≤ 1) : (ys.map (·.length)).sum + ys.length * k ≤ tot ys := by
  induction ys with
  | nil => simp
  | cons y r ih =>
    rw [tot_cons]
    simp only [List.map_cons, List.sum_cons, List.length_cons, Nat.succ_mul]
    omega
theorem join_any {s : Sto} {sep : Str} {d : D} {ds : List D} {M : Nat} (hd : asL s d = some ds) (hn : ∀ x, d ≠ .tup x) (h : TxL M ds) (hM : M ≤ 1000000) (hs : sep.length ≤ 1) (ha : asc sep) : ∃ x, mbJoin2 s (.str sep) [d] = some (.str x) ∧ x.length ≤ M ∧ asc x := by
  obtain ⟨ys, e, a1, b1⟩ := h
  subst e
  have l1 := join_tot sep hs ys
  have l2 := sum_le ys sep.length hs
  refine ⟨Str.join sep ys, ?_, Nat.le_trans l1 b1, join_asc sep ha ys a1⟩
  have e : mbJoin2 s (.str sep) [d] = mbJoin s (.str sep) [d] := by
    unfold mbJoin2
    split
    · rename_i z _ h2
      cases h2
      exact absurd rfl (hn _)
    · rfl
  rw [e]
  simp only [mbJoin, hd, Option.bind_some, allStr_map, TL.join_eq]
  rw [if_pos]
  exact ⟨by omega, by rw [sizeLine_eq]; exact Nat.le_trans l1 (by omega)⟩
theorem join_lst {s : Sto} {sep : Str} {ds : List D} {M : Nat} (h : TxL M ds) (hM : M ≤ 1000000) (hs : sep.length ≤ 1) (ha : asc sep) : ∃ x, mbJoin2 s (.str sep) [.lst ds] = some (.str x) ∧ x.length ≤ M ∧ asc x := join_any rfl (fun _ h => by cases h) h hM hs ha
theorem join_ref {s : Sto} {n : Nat} {m : Bool} {sep : Str} {ds : List D} {M : Nat} (e : s[n]? = some (.lst m ds)) (h : TxL M ds) (hM : M ≤ 1000000) (hs : sep.length ≤ 1) (ha : asc sep) : ∃ x, mbJoin2 s (.str sep) [.ref n] = some (.str x) ∧ x.length ≤ M ∧ asc x := join_any (by simp only [asL, e]) (fun _ h => by cases h) h hM hs ha
theorem join_tup {s : Sto} {sep : Str} {ds : List D} {M : Nat} (h : TxL M ds) (hM : M ≤ 1000000) (hs : sep.length ≤ 1) (ha : asc sep) : ∃ x, mbJoin2 s (.str sep) [.tup ds] = some (.str x) ∧ x.length ≤ M ∧ asc x := by
  obtain ⟨ys, e, a1, b1⟩ := h
  subst e
  have l1 := join_tot sep hs ys
  have l2 := sum_le ys sep.length hs
  refine ⟨Str.join sep ys, ?_, Nat.le_trans l1 b1, join_asc sep ha ys a1⟩
  simp only [mbJoin2, allStr_map, TL.join_eq]
  rw [if_pos]
  exact ⟨by omega, by rw [sizeLine_eq]; exact Nat.le_trans l1 (by omega)⟩

/-! ### lines and their texts -/
def ws (p : Part) : List Str := match p.2 with
  | none => [p.1]
  | some n => [p.1, n]
def cD (p : Part) : D := .tup ((ws p).map .str)
def jn (p : Part) : Str := Str.join " " (ws p)
def txt (p : Part) : Str := (if p.1 = "kind" then "" else "  ") ++ jn p
def PartOk (p : Part) : Prop := (p.1 ∈ w5 ∧ ∃ n, p.2 = some n ∧ freeB n = true) ∨ (p.1 ∈ marks ∧ p.2 = none)
theorem let_low : ∀ c ∈ LET.cps.toList, 97 ≤ c ∧ c ≤ 122 := by decide +kernel
theorem free_low {n : Str} (h : freeB n = true) : (∀ c ∈ n.cps.toList, 97 ≤ c ∧ c ≤ 122) ∧ n.length ≤ 12 := by
  simp only [freeB, nameB, Bool.and_eq_true, decide_eq_true_eq, List.all_eq_true] at h
  refine ⟨fun c hc => let_low c (h.1.2 c hc), by have := h.1.1.2; omega⟩
theorem free_asc {n : Str} (h : freeB n = true) : asc n := fun c hc => by have := (free_low h).1 c hc; omega
def wordB (w : Str) : Bool := (w.cps.toList.all fun c => decide (97 ≤ c) && decide (c ≤ 122)) && decide (w.length ≤ 7) && !decide (w = "kind")
theorem word_all : (w5 ++ marks).all wordB = true := by decide +kernel
theorem word_ok {w : Str} (h : w ∈ w5 ∨ w ∈ marks) : (∀ c ∈ w.cps.toList, 97 ≤ c ∧ c ≤ 122) ∧ w.length ≤ 7 ∧ w ≠ "kind" := by
  have := List.all_eq_true.mp word_all w (List.mem_append.mpr h)
  simp only [wordB, Bool.and_eq_true, List.all_eq_true, decide_eq_true_eq, Bool.not_eq_true', decide_eq_false_iff_not] at this
  exact ⟨fun c hc => this.1.1 c hc, this.1.2, this.2⟩
theorem PartOk.word {p : Part} (h : PartOk p) : p.1 ∈ w5 ∨ p.1 ∈ marks := h.imp (·.1) (·.1)
theorem PartOk.low {p : Part} (h : PartOk p) : ∀ z ∈ ws p, (∀ c ∈ z.cps.toList, 97 ≤ c ∧ c ≤ 122) ∧ z.length ≤ 12 := by
  obtain ⟨w, o⟩ := p
  have hw := word_ok h.word
  rcases h with ⟨_, n, e, hn⟩ | ⟨_, e⟩
  · cases e
    intro z hz
    simp only [ws, List.mem_cons, List.not_mem_nil, or_false] at hz
    rcases hz with rfl | rfl
    · exact ⟨hw.1, Nat.le_trans hw.2.1 (by decide)⟩
    · exact free_low hn
  · cases e
    intro z hz
    simp only [ws, List.mem_cons, List.not_mem_nil, or_false] at hz
    subst hz
    exact ⟨hw.1, Nat.le_trans hw.2.1 (by decide)⟩
theorem W_join {ps : List Str} (hne : ps ≠ []) (h : ∀ p ∈ ps, 32 ∉ p.cps.toList) : W (Str.join " " ps) = ps := by
  unfold W
  rw [← TL.join_eq]
  exact TL.split_join (s := 32) (S := []) rfl (by decide +kernel) hne h
theorem LN_join {ps : List Str} (hne : ps ≠ []) (h : ∀ p ∈ ps, 10 ∉ p.cps.toList) : LN (Str.join "\n" ps) = ps := by
  unfold LN
  rw [← TL.join_eq]
  exact TL.split_join (s := 10) (S := []) rfl (by decide +kernel) hne h
theorem ws_ne (p : Part) : ws p ≠ [] := by
  obtain ⟨w, o⟩ := p
  cases o <;> simp [ws]
theorem nil_app (x : Str) : ("" : Str) ++ x = x := str_ext (by rw [tl_app]; rfl)
theorem txt_kind (n : Str) : txt ("kind", some n) = Str.join " " ["kind", n] := by
  unfold txt
  rw [if_pos rfl, nil_app]
  rfl
theorem txt_part {p : Part} (h : p.1 ≠ "kind") : txt p = Str.join " " ("" :: "" :: ws p) := by
  unfold txt
  rw [if_neg h]
  refine str_ext ?_
  rw [tl_app]
  obtain ⟨w, o⟩ := p
  cases o
  · show _ = (TL.tl (Str.join " " ["", "", w]))
    rw [TL.tl_join]
    show _ ++ TL.tl (Str.join " " [w]) = _
    rw [TL.tl_join]
    rfl
  · rename_i n
    show _ = (TL.tl (Str.join " " ["", "", w, n]))
    rw [TL.tl_join]
    show _ ++ TL.tl (Str.join " " [w, n]) = _
    rw [TL.tl_join]
    rfl
theorem kindIn_kind {n : Str} (h : freeB n = true) : kindIn (txt ("kind", some n)) = some n := by
  unfold kindIn
  rw [txt_kind, W_join (by simp) ?_]
  · simp [h]
  · intro p hp
    simp only [List.mem_cons, List.not_mem_nil, or_false] at hp
    rcases hp with rfl | rfl
    · decide
    · intro z; have := (free_low h).1 32 z; omega
theorem W_txt {p : Part} (h : PartOk p) : W (txt p) = ("" : Str) :: ("" : Str) :: ws p := by
  rw [txt_part (word_ok h.word).2.2, W_join (by simp) ?_]
  intro z hz
  simp only [List.mem_cons] at hz
  rcases hz with rfl | rfl | hz
  · decide
  · decide
  · intro y; have := (h.low z hz).1 32 y; omega
theorem kindIn_part {p : Part} (h : PartOk p) : kindIn (txt p) = none := by
  unfold kindIn
  rw [W_txt h]
  obtain ⟨w, o⟩ := p
  cases o <;> rfl
theorem partIn_part {p : Part} (h : PartOk p) : partIn (txt p) = some p := by
  have nk := (word_ok h.word).2.2
  have e : txt p = "  " ++ jn p := by unfold txt; rw [if_neg nk]
  have s1 : st2 (txt p) = true := by
    rw [st2_eq]
    have : cutS (txt p) none (some 2) = "  " := str_ext (by rw [show (some (2 : Int)) = some ((2 : Nat) : Int) from rfl, cut_to, e, tl_app]; rfl)
    rw [this]; rfl
  have s2 : cut2 (txt p) = jn p := by
    unfold cut2
    refine str_ext ?_
    rw [show (some (2 : Int)) = some ((2 : Nat) : Int) from rfl, cut_from, e, tl_app]
    rfl
  unfold partIn
  rw [if_pos s1, s2]
  unfold jn
  rw [W_join (ws_ne p) fun z hz y => by have := (h.low z hz).1 32 y; omega]
  obtain ⟨w, o⟩ := p
  rcases h with ⟨h1, n, h2, h3⟩ | ⟨h1, h2⟩
  · cases h2
    simp only [ws, partW]
    rw [if_pos (by simp only [h3, Bool.and_true]; exact decide_eq_true h1)]
  · cases h2
    simp only [ws, partW]
    rw [if_pos h1]
/-- a line: a kind's, or a part's -/
def LineOk (p : Part) : Prop := (p.1 = "kind" ∧ ∃ n, p.2 = some n ∧ freeB n = true) ∨ PartOk p
theorem LineOk.low {p : Part} (h : LineOk p) : ∀ z ∈ ws p, (∀ c ∈ z.cps.toList, 97 ≤ c ∧ c ≤ 122) ∧ z.length ≤ 12 := by
  rcases h with ⟨e, n, e2, hn⟩ | h
  · obtain ⟨w, o⟩ := p
    cases e; cases e2
    intro z hz
    simp only [ws, List.mem_cons, List.not_mem_nil, or_false] at hz
    rcases hz with rfl | rfl
    · exact ⟨by decide, by decide⟩
    · exact free_low hn
  · exact h.low
theorem tot_ws {p : Part} (h : LineOk p) : tot (ws p) ≤ 26 := by
  have l := h.low
  obtain ⟨w, o⟩ := p
  cases o with
  | none =>
    have := (l w (by simp [ws])).2
    simp only [ws, tot, List.map_cons, List.map_nil, List.sum_cons, List.sum_nil]
    omega
  | some n =>
    have := (l w (by simp [ws])).2
    have := (l n (by simp [ws])).2
    simp only [ws, tot, List.map_cons, List.map_nil, List.sum_cons, List.sum_nil]
    omega
theorem txt_ok {p : Part} (h : LineOk p) : asc (txt p) ∧ (txt p).length ≤ 28 ∧ 10 ∉ (txt p).cps.toList := by
  have cs : ∀ c ∈ (jn p).cps.toList, c = 32 ∨ (97 ≤ c ∧ c ≤ 122) := by
    intro c hc
    have l := h.low
    have hc : c ∈ TL.tl (Str.join " " (ws p)) := hc
    rw [TL.tl_join] at hc
    obtain ⟨w, o⟩ := p
    cases o with
    | none => exact .inr ((l w (by simp [ws])).1 c hc)
    | some n =>
      have hc : c ∈ w.cps.toList ++ ([32] ++ n.cps.toList) := hc
      rcases List.mem_append.mp hc with hc | hc
      · exact .inr ((l w (by simp [ws])).1 c hc)
      · rcases List.mem_append.mp hc with hc | hc
        · exact .inl (by simpa using hc)
        · exact .inr ((l n (by simp [ws])).1 c hc)
  have ct : ∀ c ∈ (txt p).cps.toList, c = 32 ∨ (97 ≤ c ∧ c ≤ 122) := by
    intro c hc
    unfold txt at hc
    rw [tl_app] at hc
    rcases List.mem_append.mp hc with hc | hc
    · split at hc
      · cases hc
      · have hc : c ∈ [32, 32] := hc
        exact .inl (by simpa using hc)
    · exact cs c hc
  refine ⟨fun c hc => by have := ct c hc; omega, ?_, fun z => by have := ct 10 z; omega⟩
  have j := join_tot " " (by decide) (ws p)
  have t := tot_ws h
  unfold txt
  rw [strLen_append]
  have : (jn p).length ≤ 26 := Nat.le_trans j t
  have m0 : ("" : Str).length = 0 := rfl
  have m2 : ("  " : Str).length = 2 := rfl
  split
  · rw [m0]; omega
  · rw [m2]; omega
end K04
end
section
set_option maxRecDepth 100000
set_option maxHeartbeats 1000000
namespace K04
open PySem L2 Mi
local macro_rules | `(tactic| walk_at "ev") => `(tactic| simp only [mMethX_ap, mMkP_ap, qF_ap, mLm_ap, mDicR_ap, sPutR_ap, mSplR_ap, sSwp_ap, put1_ap, itE_ap, Wp_ok, Wp_bind, Wp_quiet, WpS_fl, WpS_then, Nx_nx, Nx_rt, Nx_bk, Nx_ct, mVar_ap, mC_ap, mOp_ap, mUn_ap, mB_ap, mTru_ap, mAnd_ap, mOr_ap, mNot_ap,
  bAnd_ap, bOr_ap, bNot_ap, bYes_ap, mIf_ap, mNil_ap, mCons_ap, mTup_ap, mLst_ap, mLstR_ap, mDic0_ap, mCall_ap, mCb_ap, mMb_ap, mStr_ap, mRevT_ap, mPart_ap, mNoPart_ap, mSl_ap, mChain_ap, itL_ap, itT_ap, itS_ap, itR1_ap,
  sNil_ap, sSeq_ap, sIf_ap, sRet_ap, sRetN_ap, sBrk_ap, sCnt_ap, sExp_ap, sAsg_ap, sPar_ap, sPar3_ap, tgN_ap, tgNil_ap, tgCons_ap, sSetIx_ap, sFor_ap, Wp_mLc,
  List.map_cons, List.map_nil, List.cons_append, List.nil_append, List.replicate_succ, List.replicate_zero, List.getElem?_cons_zero, List.getElem?_cons_succ, List.set_cons_zero, List.set_cons_succ, List.length_cons, List.length_nil,
  Option.some.injEq, Option.bind_some, exists_eq_left, exists_eq_left', true_and, and_true, D.bl.injEq, D.int.injEq, D.str.injEq, D.ref.injEq, D.tup.injEq, D.lst.injEq, List.cons.injEq, if_true, if_false, Bool.false_eq_true, reduceCtorEq, false_and, and_false, or_false, false_or, exists_false])
/-! ### parts in lists -/
theorem init_ok {s : Sto} {n : Nat} {nm : Str} (h : s[n]? = some (.ins true "Kind" [])) :
    Wp (F_Kind___init__ [.ref n, .str nm] s) fun v s' => v = .non ∧ s' = (s ++ [O.lst true []]).set n (.ins true "Kind" (kFs nm s.length)) := by
  rw [F_Kind___init__, mFun_ap (n := 2) rfl, b_Kind___init__]
  simp only [List.map_cons, List.map_nil, List.cons_append, List.nil_append, List.replicate_succ, List.replicate_zero, Nat.sub_self]
  have ln : n < s.length := (List.getElem?_eq_some_iff.mp h).1
  refine seqK (fun e s' => e = [some (.ref n), some (.str nm)] ∧ s' = s.set n (.ins true "Kind" [("held_name", .str nm)])) ?_ ?_
  · simp only [sSetF_ap]
    walk_at "ev"
    exact ⟨_, _, rfl, h, by simp, rfl⟩
  rintro _ _ ⟨rfl, rfl⟩
  simp only [sSetF_ap]
  walk_at "ev"
  refine ⟨by rw [sizeLine_eq]; decide, n, [("held_name", .str nm)], rfl, ?_, ?_, ?_⟩
  · rw [List.getElem?_append_left (by simpa using ln), List.getElem?_set_self ln]
  · simp
  · simp only [List.length_set]
    rw [List.set_append_left _ _ (by simpa using ln), List.set_append_left _ _ ln, List.set_set]
    rfl
def Kp (B : Nat) (s s' : Sto) : Prop := s.length ≤ s'.length ∧ ∀ k, k < B → s'[k]? = s[k]?
theorem Kp.refl {B : Nat} {s : Sto} : Kp B s s := ⟨Nat.le_refl _, fun _ _ => rfl⟩
theorem Kp.trans {B : Nat} {s s1 s2 : Sto} (a : Kp B s s1) (b : Kp B s1 s2) : Kp B s s2 := ⟨Nat.le_trans a.1 b.1, fun k h => (b.2 k h).trans (a.2 k h)⟩
theorem Kp.set {B : Nat} {s : Sto} {n : Nat} {o : O} (h : B ≤ n) : Kp B s (s.set n o) := ⟨by simp, fun k hk => List.getElem?_set_ne (by omega)⟩
theorem Kp.app {B : Nat} {s t : Sto} (h : B ≤ s.length) : Kp B s (s ++ t) := ⟨by simp, fun k hk => List.getElem?_append_left (by omega)⟩
theorem keys_find {kvs : List (Key × D)} {names : List Str} (h : kvs.map (·.1) = names.map Sum.inr) (x : Str) : (valD kvs (.inr x)).isSome = decide (x ∈ names) := by
  induction kvs generalizing names with
  | nil =>
    cases names with
    | nil => simp [valD]
    | cons a r => simp at h
  | cons kv r ih =>
    cases names with
    | nil => simp at h
    | cons a t =>
      simp only [List.map_cons, List.cons.injEq] at h
      have ih := ih h.2
      simp only [valD, List.find?_cons, h.1] at ih ⊢
      by_cases e : a = x
      · subst e; simp
      · have e2 : ¬ x = a := fun z => e z.symm
        have e3 : (decide ((Sum.inr a : Key) = Sum.inr x)) = false := by simp [e]
        simp only [e3, List.mem_cons, e2, false_or]
        exact ih
theorem put_new {kvs : List (Key × D)} {x : Str} {d : D} (h : valD kvs (.inr x) = none) : putD kvs (.inr x) d = kvs ++ [(.inr x, d)] ∧ valD (kvs ++ [(.inr x, d)]) (.inr x) = some d := by
  have f : kvs.find? (fun kv => decide (kv.1 = .inr x)) = none := by
    cases e : kvs.find? (fun kv => decide (kv.1 = .inr x)) with
    | none => rfl
    | some kv => simp [valD, e] at h
  constructor
  · unfold putD
    rw [if_neg]
    intro c
    obtain ⟨kv, hm, hk⟩ := List.any_eq_true.mp c
    exact (List.find?_eq_none.mp f kv hm) hk
  · unfold valD
    rw [List.find?_append, f]
    simp
theorem eqE_ok {s : Sto} {n : Nat} {kvs : List (Key × D)} (h : s[n]? = some (.dic true kvs)) : opEqE s (.ref n) (.dic []) = some (.bl kvs.isEmpty) := by simp only [opEqE, dicM, h]
theorem inR_ok {s : Sto} {n : Nat} {m : Bool} {kvs : List (Key × D)} {x : Str} (h : s[n]? = some (.dic m kvs)) : opInR s (.str x) (.ref n) = some (.bl (valD kvs (.inr x)).isSome) := by simp only [opInR, dicD, h, keyOf]
theorem getR_ok {s : Sto} {n : Nat} {m : Bool} {kvs : List (Key × D)} {x : Str} {d : D} (h : s[n]? = some (.dic m kvs)) (e : valD kvs (.inr x) = some d) : opGetR s (.ref n) (.str x) = some d := by simp only [opGetR, dicD, h, keyOf, e]
theorem lenR_ok {s : Sto} {n : Nat} {m : Bool} {kvs : List (Key × D)} (h : s[n]? = some (.dic m kvs)) : cbLenR s [.ref n] = some (.int kvs.length) := by simp only [cbLenR, dicD, h]
theorem listR_ok {s : Sto} {n : Nat} {kvs : List (Key × D)} (h : s[n]? = some (.dic true kvs)) (hk : (kvs.all fun kv => keyOk kv.1) = true) : cbListR s [.ref n] = some (.lst (kvs.map fun kv => kD kv.1)) := by simp only [cbListR, h, hk, if_true]
theorem keys_len {kvs : List (Key × D)} {names : List Str} (h : kvs.map (·.1) = names.map Sum.inr) : kvs.length = names.length := by
  have := congrArg List.length h
  simpa using this
def eD : Nat → List Str → List D
  | _, [] => []
  | k, x :: r => .tup [.int (k : Int), .str x] :: eD (k + 1) r
theorem eD_get : ∀ (xs : List Str) (k i : Nat), (eD k xs)[i]? = (xs[i]?).map fun x => .tup [.int ((k + i : Nat) : Int), .str x]
  | [], k, i => by simp [eD]
  | x :: r, k, 0 => by simp [eD]
  | x :: r, k, i + 1 => by
    simp only [eD, List.getElem?_cons_succ, eD_get r (k + 1) i]
    congr 1; funext y; congr 4; omega
theorem enum_eq (xs : List Str) : enumD (xs.map .str) = eD 0 xs := by
  apply List.ext_getElem?
  intro i
  rw [eD_get]
  unfold enumD
  simp only [List.getElem?_map, List.getElem?_zip_eq_some, List.length_map]
  cases h : xs[i]? with
  | none =>
    have : xs.length ≤ i := List.getElem?_eq_none_iff.mp h
    rw [List.getElem?_eq_none (by simp; omega)]; rfl
  | some x =>
    have hl : i < xs.length := (List.getElem?_eq_some_iff.mp h).1
    have : ((List.range xs.length).zip (xs.map D.str))[i]? = some (i, .str x) := by
      rw [List.getElem?_zip_eq_some]
      exact ⟨by simp [hl], by simp [h]⟩
    rw [this]
    simp
theorem kinds_init {s : Sto} {n : Nat} {a b : D} (h : s[n]? = some (.ins true "Kinds" [])) :
    Wp (F_Kinds___init__ [.ref n, a, b] s) fun v s' => v = .non ∧ s' = s.set n (.ins true "Kinds" [("own_text", a), ("held_kinds", b)]) := by
  rw [F_Kinds___init__, mFun_ap (n := 3) rfl, b_Kinds___init__]
  simp only [List.map_cons, List.map_nil, List.cons_append, List.nil_append, List.replicate_succ, List.replicate_zero, Nat.sub_self]
  have ln : n < s.length := (List.getElem?_eq_some_iff.mp h).1
  refine seqK (fun e s' => e = [some (.ref n), some a, some b] ∧ s' = s.set n (.ins true "Kinds" [("own_text", a)])) ?_ ?_
  · simp only [sSetF_ap]
    walk_at "ev"
    exact ⟨_, _, rfl, h, by simp, rfl⟩
  rintro _ _ ⟨rfl, rfl⟩
  simp only [sSetF_ap]
  walk_at "ev"
  refine ⟨n, [("own_text", a)], rfl, List.getElem?_set_self ln, by simp, ?_⟩
  rw [List.set_set]
  rfl

/-! ### kinds as they stand in a store -/
abbrev KP := Str × List Part
/-- the kinds' things lie in [lo, hi), one behind the other -/
def KsAt (s : Sto) : Nat → List KP → List (Key × D) → Nat → Prop
  | lo, [], [], hi => lo ≤ hi
  | lo, k :: r, kv :: kr, hi => ∃ q l, lo ≤ q ∧ q < l ∧ kv = (.inr k.1, .ref q) ∧ s[q]? = some (.ins true "Kind" (kFs k.1 l)) ∧ s[l]? = some (.lst true (k.2.map pD)) ∧ KsAt s (l + 1) r kr hi
  | _, _, _, _ => False
theorem KsAt.le {s : Sto} : ∀ {lo : Nat} {K : List KP} {kvs : List (Key × D)} {hi : Nat}, KsAt s lo K kvs hi → lo ≤ hi
  | _, [], [], _, h => h
  | _, _ :: _, _ :: _, _, ⟨q, l, h1, h2, _, _, _, h⟩ => by have := KsAt.le h; omega
  | _, [], _ :: _, _, h => h.elim
  | _, _ :: _, [], _, h => h.elim
theorem KsAt.keep {s s' : Sto} : ∀ {lo : Nat} {K : List KP} {kvs : List (Key × D)} {hi : Nat}, KsAt s lo K kvs hi → (∀ k, lo ≤ k → k < hi → s'[k]? = s[k]?) → KsAt s' lo K kvs hi
  | _, [], [], _, h, _ => h
  | _, _ :: _, _ :: _, hi, ⟨q, l, h1, h2, h3, h4, h5, h⟩, e => by
    have := KsAt.le h
    exact ⟨q, l, h1, h2, h3, by rw [e q h1 (by omega)]; exact h4, by rw [e l (by omega) (by omega)]; exact h5, KsAt.keep h fun k a b => e k (by omega) b⟩
  | _, [], _ :: _, _, h, _ => h.elim
  | _, _ :: _, [], _, h, _ => h.elim
theorem KsAt.up {s : Sto} : ∀ {lo : Nat} {K : List KP} {kvs : List (Key × D)} {hi hi' : Nat}, KsAt s lo K kvs hi → hi ≤ hi' → KsAt s lo K kvs hi'
  | _, [], [], _, _, h, i => Nat.le_trans h i
  | _, _ :: _, _ :: _, _, _, ⟨q, l, h1, h2, h3, h4, h5, h⟩, i => ⟨q, l, h1, h2, h3, h4, h5, KsAt.up h i⟩
  | _, [], _ :: _, _, _, h, _ => h.elim
  | _, _ :: _, [], _, _, h, _ => h.elim
theorem KsAt.keys {s : Sto} : ∀ {lo : Nat} {K : List KP} {kvs : List (Key × D)} {hi : Nat}, KsAt s lo K kvs hi → kvs.map (·.1) = (K.map (·.1)).map Sum.inr
  | _, [], [], _, _ => rfl
  | _, k :: r, kv :: kr, _, ⟨q, l, _, _, h3, _, _, h⟩ => by
    rw [List.map_cons, List.map_cons, List.map_cons, KsAt.keys h, h3]
  | _, [], _ :: _, _, h => h.elim
  | _, _ :: _, [], _, h => h.elim
theorem KsAt.snoc {s : Sto} : ∀ {lo : Nat} {K : List KP} {kvs : List (Key × D)} {hi hi' q l : Nat} {k : KP}, KsAt s lo K kvs hi → hi ≤ q → q < l → l < hi' → s[q]? = some (.ins true "Kind" (kFs k.1 l)) → s[l]? = some (.lst true (k.2.map pD)) → KsAt s lo (K ++ [k]) (kvs ++ [(.inr k.1, .ref q)]) hi'
  | _, [], [], _, _, q, l, _, h, h1, h2, h3, h4, h5 => ⟨q, l, Nat.le_trans h h1, h2, rfl, h4, h5, h3⟩
  | _, _ :: _, _ :: _, _, _, _, _, _, ⟨q, l, g1, g2, g3, g4, g5, g⟩, h1, h2, h3, h4, h5 => ⟨q, l, g1, g2, g3, g4, g5, KsAt.snoc g h1 h2 h3 h4 h5⟩
  | _, [], _ :: _, _, _, _, _, _, h, _, _, _, _, _ => h.elim
  | _, _ :: _, [], _, _, _, _, _, h, _, _, _, _, _ => h.elim
theorem KsAt.last {s : Sto} : ∀ {lo : Nat} {K : List KP} {kvs : List (Key × D)} {hi : Nat} {k : KP}, KsAt s lo (K ++ [k]) kvs hi → ∃ kv0 q l, kvs = kv0 ++ [(.inr k.1, .ref q)] ∧ KsAt s lo K kv0 q ∧ q < l ∧ l < hi ∧ s[q]? = some (.ins true "Kind" (kFs k.1 l)) ∧ s[l]? = some (.lst true (k.2.map pD))
  | lo, [], [kv], hi, k, ⟨q, l, h1, h2, h3, h4, h5, h⟩ => ⟨[], q, l, by rw [h3]; rfl, h1, h2, h, h4, h5⟩
  | _, [], [], _, _, h => h.elim
  | _, [], _ :: _ :: _, _, _, ⟨_, _, _, _, _, _, _, h⟩ => h.elim
  | _, a :: r, kv :: kr, _, k, ⟨q, l, g1, g2, g3, g4, g5, g⟩ => by
    obtain ⟨kv0, q', l', e, h1, h2, h3, h4, h5⟩ := KsAt.last (K := r) g
    exact ⟨kv :: kv0, q', l', by rw [e]; rfl, ⟨q, l, g1, g2, g3, g4, g5, h1⟩, h2, h3, h4, h5⟩
  | _, _ :: _, [], _, _, h => h.elim
theorem KsAt.find {s : Sto} : ∀ {lo : Nat} {K : List KP} {kvs : List (Key × D)} {hi : Nat} {k : KP}, KsAt s lo K kvs hi → (K.map (·.1)).Nodup → k ∈ K → ∃ q l, valD kvs (.inr k.1) = some (.ref q) ∧ s[q]? = some (.ins true "Kind" (kFs k.1 l)) ∧ s[l]? = some (.lst true (k.2.map pD))
  | _, a :: r, kv :: kr, _, k, ⟨q, l, g1, g2, g3, g4, g5, g⟩, nd, hk => by
    rw [List.map_cons, List.nodup_cons] at nd
    subst g3
    rcases List.mem_cons.mp hk with rfl | hk
    · exact ⟨q, l, by simp [valD], g4, g5⟩
    · obtain ⟨q', l', e, h1, h2⟩ := KsAt.find g nd.2 hk
      refine ⟨q', l', ?_, h1, h2⟩
      have ne : ¬ a.1 = k.1 := fun z => nd.1 (by rw [z]; exact List.mem_map_of_mem hk)
      simp only [valD, List.find?_cons] at e ⊢
      have : (decide ((Sum.inr a.1 : Key) = Sum.inr k.1)) = false := by simp [ne]
      rw [this]; exact e
  | _, [], _, _, _, _, _, hk => by cases hk
  | _, _ :: _, [], _, _, h, _, _ => h.elim
theorem PartOk.asc {p : Part} (h : PartOk p) : ascP p := by
  have l := h.low
  obtain ⟨w, o⟩ := p
  refine ⟨fun c hc => by have := (l w (by cases o <;> simp [ws])).1 c hc; omega, ?_⟩
  cases o with
  | none => trivial
  | some n => exact fun c hc => by have := (l n (by simp [ws])).1 c hc; omega
/-! ### a kind's line, a part's line -/
theorem tl_kind {s : Sto} {n hi : Nat} {K : List KP} {kvs : List (Key × D)} {nm : Str} (hd : s[n]? = some (.dic true kvs)) (h : KsAt s (n + 1) K kvs hi) (hh : hi ≤ s.length) (nn : nm ∉ K.map (·.1)) (l8 : K.length < 8) (fr : freeB nm = true) :
    Wp (F_takes_line [.ref n, .str (txt ("kind", some nm))] s) fun v s' => v = .bl true ∧ Kp n s s' ∧ ∃ kvs', s'[n]? = some (.dic true kvs') ∧ KsAt s' (n + 1) (K ++ [(nm, [])]) kvs' s'.length := by
  have lo : LineOk ("kind", some nm) := .inl ⟨rfl, nm, rfl, fr⟩
  have hl : (txt ("kind", some nm)).length ≤ 900000 := Nat.le_trans (txt_ok lo).2.1 (by decide)
  have hk := h.keys
  have kl := keys_len hk
  rw [List.length_map] at kl
  generalize ht : txt ("kind", some nm) = line at hl
  rw [F_takes_line, mFun_ap (n := 2) rfl, b_takes_line]
  simp only [List.map_cons, List.map_nil, List.cons_append, List.nil_append, List.replicate_succ, List.replicate_zero]
  refine seqK (fun e s' => ∃ q, e = [some (.ref n), some (.str line), some (.str nm), some q, none] ∧ s' = s) ?_ ?_
  · walk_at "ev"
    refine (kind_in_ok hl).mono fun v s1 ⟨e1, e2⟩ => ?_
    subst e1; subst e2
    refine (part_in_ok hl).mono fun v s2 ⟨e1, e2⟩ => ?_
    subst e1; subst e2
    have e3 : kindIn line = some nm := by rw [← ht]; exact kindIn_kind fr
    rw [e3]
    exact ⟨_, _, ⟨rfl, rfl⟩, _, ⟨rfl, rfl⟩, rfl⟩
  rintro _ s ⟨pq, rfl, rfl⟩
  refine seqK (fun _ _ => False) ?_ (fun _ _ h => h.elim)
  walk_at "ev"
  refine ⟨_, rfl, _, rfl, ?_⟩
  rw [if_pos (by rfl)]
  refine ⟨_, inR_ok hd, _, rfl, ?_⟩
  rw [keys_find hk, if_neg (by simpa using nn)]
  refine ⟨_, lenR_ok hd, _, eq_int, _, rfl, ?_⟩
  rw [if_neg (by rw [kl]; simp; omega)]
  refine (init_ok (n := s.length) List.getElem?_concat_length).mono fun v s1 ⟨e1, e2⟩ => ⟨e1, ?_⟩
  subst e2
  have ln : n < s.length := (List.getElem?_eq_some_iff.mp hd).1
  have en : ((s ++ [O.ins true "Kind" []] ++ [O.lst true []]).set s.length (.ins true "Kind" (kFs nm (s ++ [O.ins true "Kind" []]).length)))[n]? = some (.dic true kvs) := by
    rw [List.getElem?_set_ne (by omega), List.getElem?_append_left (by simp; omega), List.getElem?_append_left ln]; exact hd
  refine ⟨n, .inr nm, kvs, rfl, rfl, en, by rw [sizeLine_eq, kl]; omega, ?_⟩
  have vn : valD kvs (.inr nm) = none := by
    have := keys_find hk nm
    cases z : valD kvs (.inr nm) with
    | none => rfl
    | some d => rw [z] at this; simp at this; simp at nn; exact absurd this (by simpa using nn)
  obtain ⟨p1, p2⟩ := put_new (d := .ref s.length) vn
  rw [p1]
  have hle := h.le
  refine ⟨?_, _, List.getElem?_set_self (by simp; omega), ?_⟩
  · exact ((Kp.app (t := [O.ins true "Kind" []]) (by omega)).trans (Kp.app (by simp; omega))).trans ((Kp.set (by omega)).trans (Kp.set (Nat.le_refl _)))
  · refine KsAt.snoc (k := (nm, [])) (hi := s.length) (l := s.length + 1) ((h.up hh).keep fun k a b => ?_) (Nat.le_refl _) (by omega) (by simp) ?_ ?_
    · rw [List.getElem?_set_ne (by omega), List.getElem?_set_ne (by omega), List.getElem?_append_left (by simp; omega), List.getElem?_append_left (by omega)]
    · rw [List.getElem?_set_ne (by omega), List.getElem?_set_self (by simp)]
      simp
    · rw [List.getElem?_set_ne (by omega), List.getElem?_set_ne (by omega)]
      simp
theorem tl_part {s : Sto} {n hi : Nat} {K : List KP} {kvs : List (Key × D)} {nm : Str} {ps : List Part} {p : Part} (hd : s[n]? = some (.dic true kvs)) (h : KsAt s (n + 1) (K ++ [(nm, ps)]) kvs hi) (hh : hi ≤ s.length) (nd : ((K ++ [(nm, ps)]).map (·.1)).Nodup) (hlen : ∀ k ∈ K ++ [(nm, ps)], k.1.length ≤ 900000)
    (hp : PartOk p) (hps : ∀ p ∈ ps, PartOk p) (pl : ps.length ≤ 1000) (tb : takesB ps p = true) :
    Wp (F_takes_line [.ref n, .str (txt p)] s) fun v s' => v = .bl true ∧ Kp n s s' ∧ s'.length = s.length ∧ s'[n]? = some (.dic true kvs) ∧ KsAt s' (n + 1) (K ++ [(nm, ps ++ [p])]) kvs s'.length := by
  have hl : (txt p).length ≤ 900000 := Nat.le_trans (txt_ok (.inr hp)).2.1 (by decide)
  have hk := h.keys
  have kl := keys_len hk
  rw [List.length_map] at kl
  obtain ⟨kv0, q, l, ekv, hK0, ql, lhi, hq, hls⟩ := h.last
  have hv : valD kvs (.inr nm) = some (.ref q) := by
    obtain ⟨q', l', e, e1, e2⟩ := h.find nd (k := (nm, ps)) (by simp)
    have : kvs.find? (fun kv => decide (kv.1 = .inr nm)) = some (.inr nm, .ref q) := by
      rw [ekv, List.find?_append]
      have : kv0.find? (fun kv => decide (kv.1 = .inr nm)) = none := by
        refine List.find?_eq_none.mpr fun kv hkv z => ?_
        have z : kv.1 = .inr nm := by simpa using z
        have k0 := hK0.keys
        have : (Sum.inr nm : Key) ∈ (K.map (·.1)).map Sum.inr := by rw [← k0, ← z]; exact List.mem_map_of_mem hkv
        obtain ⟨y, hy, ey⟩ := List.mem_map.mp this
        cases ey
        rw [List.map_append, List.nodup_append] at nd
        exact nd.2.2 nm hy nm (by simp) rfl
      rw [this]; simp
    simp [valD, this]
  have hKind : KindAt s q l ps := ⟨⟨nm, hq⟩, hls, fun p hp => (hps p hp).asc, by omega⟩
  generalize ht : txt p = line at hl
  rw [F_takes_line, mFun_ap (n := 2) rfl, b_takes_line]
  simp only [List.map_cons, List.map_nil, List.cons_append, List.nil_append, List.replicate_succ, List.replicate_zero]
  refine seqK (fun e s' => e = [some (.ref n), some (.str line), some .non, some (pD p), none] ∧ s' = s) ?_ ?_
  · walk_at "ev"
    refine (kind_in_ok hl).mono fun v s1 ⟨e1, e2⟩ => ?_
    subst e1; subst e2
    refine (part_in_ok hl).mono fun v s2 ⟨e1, e2⟩ => ?_
    subst e1; subst e2
    have e3 : kindIn line = none := by rw [← ht]; exact kindIn_part hp
    have e4 : partIn line = some p := by rw [← ht]; exact partIn_part hp
    rw [e3, e4]
    exact ⟨_, _, ⟨rfl, rfl⟩, ⟨rfl, rfl⟩, rfl⟩
  rintro _ s ⟨rfl, rfl⟩
  refine seqK (fun e s' => e = [some (.ref n), some (.str line), some .non, some (pD p), none] ∧ s' = s) ?_ ?_
  · walk_at "ev"
    refine ⟨_, rfl, _, rfl, ?_⟩
    rw [if_neg (by simp [isNonD])]
    trivial
  rintro _ s ⟨rfl, rfl⟩
  refine seqK (fun e s' => e = [some (.ref n), some (.str line), some .non, some (pD p), none] ∧ s' = s) ?_ ?_
  · walk_at "ev"
    refine ⟨_, rfl, _, rfl, ?_⟩
    rw [if_neg (by simp [pD, isNonD])]
    refine ⟨_, eqE_ok hd, _, rfl, ?_⟩
    have ke : kvs.isEmpty = false := by rw [ekv]; simp
    rw [if_neg (by rw [ke]; decide)]
    trivial
  rintro _ s ⟨rfl, rfl⟩
  refine seqK (fun e s' => e = [some (.ref n), some (.str line), some .non, some (pD p), some (.str nm)] ∧ s' = s) ?_ ?_
  · walk_at "ev"
    have ok : (kvs.all fun kv => keyOk kv.1) = true := by
      refine List.all_eq_true.mpr fun kv hkv => ?_
      have : kv.1 ∈ ((K ++ [(nm, ps)]).map (·.1)).map (Sum.inr : Str → Key) := by rw [← hk]; exact List.mem_map_of_mem hkv
      obtain ⟨x, hx, e⟩ := List.mem_map.mp this
      obtain ⟨k, hk, rfl⟩ := List.mem_map.mp hx
      rw [← e]
      have := hlen k hk
      exact decide_eq_true (by rw [sizeLine_eq]; omega)
    refine ⟨_, listR_ok hd ok, _, rfl, ?_⟩
    have ekD : kvs.map (fun kv => kD kv.1) = kv0.map (fun kv => kD kv.1) ++ [.str nm] := by rw [ekv]; simp [kD]
    rw [ekD]
    exact ⟨_, atI_last _ _, rfl⟩
  rintro _ s ⟨rfl, rfl⟩
  obtain ⟨nm', hi'⟩ := insD_kind hKind
  simp only [pD]
  walk_at "ev"
  refine ⟨_, getR_ok hd hv, kFs nm' l, hi', rfl, _, ix_tup (i := 0) rfl, _, ix_tup (i := 1) rfl, ?_⟩
  refine (takes_ok hKind hp.asc).mono fun v s1 ⟨e1, e2⟩ => ?_
  subst e1; subst e2
  rw [tb, if_pos rfl]
  have hle := hK0.le
  refine ⟨rfl, Kp.set (by omega), by simp, by rw [List.getElem?_set_ne (by omega)]; exact hd, ?_⟩
  rw [ekv]
  refine KsAt.snoc (k := (nm, ps ++ [p])) (hi := q) (l := l) (hK0.keep fun k a b => ?_) (Nat.le_refl _) ql (by simp; omega) ?_ ?_
  · rw [List.getElem?_set_ne (by omega)]
  · rw [List.getElem?_set_ne (by omega)]; exact hq
  · exact List.getElem?_set_self (by omega)
end K04
end
section
set_option maxRecDepth 100000
set_option maxHeartbeats 1000000
namespace K04
open PySem L2 Mi
local macro_rules | `(tactic| walk_at "ev") => `(tactic| simp only [mMethX_ap, mMkP_ap, qF_ap, mLm_ap, mDicR_ap, sPutR_ap, mSplR_ap, sSwp_ap, put1_ap, itE_ap, Wp_ok, Wp_bind, Wp_quiet, WpS_fl, WpS_then, Nx_nx, Nx_rt, Nx_bk, Nx_ct, mVar_ap, mC_ap, mOp_ap, mUn_ap, mB_ap, mTru_ap, mAnd_ap, mOr_ap, mNot_ap,
  bAnd_ap, bOr_ap, bNot_ap, bYes_ap, mIf_ap, mNil_ap, mCons_ap, mTup_ap, mLst_ap, mLstR_ap, mDic0_ap, mCall_ap, mCb_ap, mMb_ap, mStr_ap, mRevT_ap, mPart_ap, mNoPart_ap, mSl_ap, mChain_ap, itL_ap, itT_ap, itS_ap, itR1_ap,
  sNil_ap, sSeq_ap, sIf_ap, sRet_ap, sRetN_ap, sBrk_ap, sCnt_ap, sExp_ap, sAsg_ap, sPar_ap, sPar3_ap, tgN_ap, tgNil_ap, tgCons_ap, sSetIx_ap, sFor_ap, Wp_mLc,
  List.map_cons, List.map_nil, List.cons_append, List.nil_append, List.replicate_succ, List.replicate_zero, List.getElem?_cons_zero, List.getElem?_cons_succ, List.set_cons_zero, List.set_cons_succ, List.length_cons, List.length_nil,
  Option.some.injEq, Option.bind_some, exists_eq_left, exists_eq_left', true_and, and_true, D.bl.injEq, D.int.injEq, D.str.injEq, D.ref.injEq, D.tup.injEq, D.lst.injEq, List.cons.injEq, if_true, if_false, Bool.false_eq_true, reduceCtorEq, false_and, and_false, or_false, false_or, exists_false])
/-! ### parts in lists -/
/-! ### reading right lines -/
inductive Rd : List KP → List Part → List KP → Prop
  | nil {K : List KP} : Rd K [] K
  | kind {K K' : List KP} {n : Str} {r : List Part} : n ∉ K.map (·.1) → K.length < 8 → freeB n = true → Rd (K ++ [(n, [])]) r K' → Rd K (("kind", some n) :: r) K'
  | part {K K' : List KP} {nm : Str} {ps : List Part} {p : Part} {r : List Part} : PartOk p → takesB ps p = true → Rd (K ++ [(nm, ps ++ [p])]) r K' → Rd (K ++ [(nm, ps)]) (p :: r) K'
/-- what the kinds that were read so far keep -/
structure KOk (K : List KP) : Prop where
  nd : (K.map (·.1)).Nodup
  fr : ∀ k ∈ K, freeB k.1 = true
  ps : ∀ k ∈ K, ∀ p ∈ k.2, PartOk p
theorem KOk.nil : KOk [] := ⟨by simp, by simp, by simp⟩
theorem KOk.kind {K : List KP} {n : Str} (h : KOk K) (nn : n ∉ K.map (·.1)) (f : freeB n = true) : KOk (K ++ [(n, [])]) := by
  refine ⟨?_, fun k hk => ?_, fun k hk => ?_⟩
  · rw [List.map_append, List.nodup_append]
    refine ⟨h.nd, by simp, fun a ha b hb e => ?_⟩
    have : b = n := by simpa using hb
    rw [e, this] at ha
    exact nn ha
  · rcases List.mem_append.mp hk with hk | hk
    · exact h.fr k hk
    · rw [List.mem_singleton.mp hk]; exact f
  · rcases List.mem_append.mp hk with hk | hk
    · exact h.ps k hk
    · rw [List.mem_singleton.mp hk]; simp
theorem KOk.part {K : List KP} {nm : Str} {ps : List Part} {p : Part} (h : KOk (K ++ [(nm, ps)])) (hp : PartOk p) : KOk (K ++ [(nm, ps ++ [p])]) := by
  refine ⟨by simpa using h.nd, fun k hk => ?_, fun k hk => ?_⟩
  · rcases List.mem_append.mp hk with hk | hk
    · exact h.fr k (List.mem_append_left _ hk)
    · rw [List.mem_singleton.mp hk]; exact h.fr (nm, ps) (by simp)
  · rcases List.mem_append.mp hk with hk | hk
    · exact h.ps k (List.mem_append_left _ hk)
    · rw [List.mem_singleton.mp hk]
      intro q hq
      rcases List.mem_append.mp hq with hq | hq
      · exact h.ps (nm, ps) (by simp) q hq
      · rw [List.mem_singleton.mp hq]; exact hp
theorem Rd.ok {K K' : List KP} {ls : List Part} (h : Rd K ls K') (k : KOk K) : KOk K' ∧ ∀ p ∈ ls, LineOk p := by
  induction h with
  | nil => exact ⟨k, by simp⟩
  | kind a b c r ih =>
    obtain ⟨h1, h2⟩ := ih (k.kind a c)
    refine ⟨h1, fun p hp => ?_⟩
    rcases List.mem_cons.mp hp with rfl | hp
    · exact .inl ⟨rfl, _, rfl, c⟩
    · exact h2 p hp
  | part a b r ih =>
    obtain ⟨h1, h2⟩ := ih (k.part a)
    refine ⟨h1, fun p hp => ?_⟩
    rcases List.mem_cons.mp hp with rfl | hp
    · exact .inr a
    · exact h2 p hp
def textOf (ls : List Part) : Str := Str.join "\n" (ls.map txt)
theorem text_tot {ls : List Part} (h : ∀ p ∈ ls, LineOk p) : tot (ls.map txt) ≤ 29 * ls.length ∧ ∀ y ∈ ls.map txt, asc y := by
  refine ⟨?_, fun y hy => ?_⟩
  · induction ls with
    | nil => simp [tot]
    | cons p r ih =>
      have := (txt_ok (h p List.mem_cons_self)).2.1
      have := ih fun q hq => h q (List.mem_cons_of_mem _ hq)
      rw [List.map_cons, tot_cons, List.length_cons]
      omega
  · obtain ⟨p, hp, rfl⟩ := List.mem_map.mp hy
    exact (txt_ok (h p hp)).1
theorem text_len {ls : List Part} (h : ∀ p ∈ ls, LineOk p) : (textOf ls).length ≤ 29 * ls.length := Nat.le_trans (join_tot "\n" (by decide) _) (text_tot h).1
theorem text_LN {ls : List Part} (h : ∀ p ∈ ls, LineOk p) (hne : ls ≠ []) : LN (textOf ls) = ls.map txt := by
  refine LN_join (by simpa using hne) fun y hy => ?_
  obtain ⟨p, hp, rfl⟩ := List.mem_map.mp hy
  exact (txt_ok (h p hp)).2.2
/-- kinds that were read, in the store -/
structure KindsAt (s : Sto) (B m : Nat) (x : Str) (K : List KP) : Prop where
  at' : ∃ d kvs, s[m]? = some (.ins true "Kinds" [("own_text", .str x), ("held_kinds", .ref d)]) ∧ s[d]? = some (.dic true kvs) ∧ KsAt s (d + 1) K kvs m ∧ B ≤ d
  ok : KOk K
theorem KindsAt.keep {s s' : Sto} {B m : Nat} {x : Str} {K : List KP} (h : KindsAt s B m x K) (e : ∀ k, B ≤ k → k ≤ m → s'[k]? = s[k]?) : KindsAt s' B m x K := by
  obtain ⟨d, kvs, h1, h2, h3, h4⟩ := h.at'
  have := h3.le
  exact ⟨⟨d, kvs, by rw [e m (by omega) (Nat.le_refl _)]; exact h1, by rw [e d h4 (by omega)]; exact h2, h3.keep fun k a b => e k (by omega) (by omega), h4⟩, h.ok⟩
theorem isi_str {s : Sto} {x : Str} : isiD "str" s (.str x) = some (.bl true) := rfl
theorem read_ok {s : Sto} {ls : List Part} {K : List KP} (h : Rd [] ls K) (hne : ls ≠ []) (hl : ls.length ≤ 1000) :
    Wp (F_read_kinds [.str (textOf ls)] s) fun v s' => ∃ m, v = .ref m ∧ KindsAt s' s.length m (textOf ls) K ∧ Kp s.length s s' ∧ m < s'.length ∧ s.length ≤ m := by
  obtain ⟨kok, lok⟩ := h.ok KOk.nil
  have tl := text_len lok
  have en := text_LN lok hne
  generalize ht : textOf ls = x at tl en
  rw [F_read_kinds, mFun_ap (n := 1) rfl, b_read_kinds]
  simp only [List.map_cons, List.map_nil, List.cons_append, List.nil_append, List.replicate_succ, List.replicate_zero]
  refine seqK (fun e s' => e = [some (.str x), none, none, none] ∧ s' = s) ?_ ?_
  · rw [sIf_ap]
    walk_at "ev"
    refine ⟨_, isi_str, _, rfl, ?_⟩
    simp only [Bool.not_true, Bool.false_eq_true, if_false]
  rintro _ s ⟨rfl, rfl⟩
  refine seqK (fun e s' => e = [some (.str x), some (.ref s.length), none, none] ∧ s' = s ++ [.dic true []]) ?_ ?_
  · walk_at "ev"
  rintro _ _ ⟨rfl, rfl⟩
  refine seqK (fun e s' => (∃ a b, e = [some (.str x), some (.ref s.length), a, b]) ∧ Kp s.length s s' ∧ ∃ kvs, s'[s.length]? = some (.dic true kvs) ∧ KsAt s' (s.length + 1) K kvs s'.length) ?_ ?_
  · rw [sFor_ap]
    walk_at "ev"
    refine ⟨_, split_nl (by omega), _, _, rfl, rfl, ?_⟩
    rw [en, enum_eq]
    refine WpS_forGo (fun r e s' => (∃ a b, e = [some (.str x), some (.ref s.length), a, b]) ∧ ∃ i rest K1 kvs, r = eD i (rest.map txt) ∧ Rd K1 rest K ∧ KOk K1 ∧ Kp s.length s s' ∧ s'[s.length]? = some (.dic true kvs) ∧ KsAt s' (s.length + 1) K1 kvs s'.length ∧ (∀ k ∈ K1, k.2.length + rest.length ≤ 1000) ∧ rest.length ≤ 1000) (fun _ _ _ _ => rfl) ?step ?fin _ _ _
      ⟨⟨_, _, rfl⟩, 0, ls, [], [], rfl, h, KOk.nil, Kp.app (Nat.le_refl _), List.getElem?_concat_length, by simp [KsAt], by simp, hl⟩
    case fin =>
      rintro _ s1 ⟨⟨a, b, rfl⟩, i, rest, K1, kvs, er, rd, k1, kp, hd, ks, _⟩
      cases rest with
      | nil =>
        cases rd
        exact ⟨⟨_, _, rfl⟩, kp, kvs, hd, ks⟩
      | cons l r => cases er
    case step =>
      rintro d r _ s1 ⟨⟨a, b, rfl⟩, i, rest, K1, kvs, er, rd, k1, kp, hd, ks, cnt, rl⟩
      cases rest with
      | nil => cases er
      | cons p rest =>
        cases er
        refine ⟨_, rfl, ?_⟩
        rw [sIf_ap]
        walk_at "ev"
        simp only [List.length_cons] at cnt rl
        cases rd with
        | @kind _ _ n _ nn l8 fr rd =>
          refine (tl_kind hd ks (Nat.le_refl _) nn l8 fr).mono fun v s2 ⟨e1, k2, kvs2, hd2, ks2⟩ => ?_
          subst e1
          refine ⟨_, rfl, ?_⟩
          simp only [Bool.not_true, Bool.false_eq_true, if_false]
          refine ⟨⟨_, _, rfl, rfl⟩, i + 1, rest, _, kvs2, rfl, rd, k1.kind nn fr, kp.trans k2, hd2, ks2, fun k hk => ?_, by omega⟩
          rcases List.mem_append.mp hk with hk | hk
          · have := cnt k hk; omega
          · rw [List.mem_singleton.mp hk]; simp; omega
        | @part K0 _ nm ps _ _ hp tb rd =>
          have c0 := cnt (nm, ps) (by simp)
          refine (tl_part hd ks (Nat.le_refl _) k1.nd (fun k hk => by have := (free_low (k1.fr k hk)).2; omega) hp (k1.ps (nm, ps) (by simp)) (by simp at c0; omega) tb).mono fun v s2 ⟨e1, k2, _, hd2, ks2⟩ => ?_
          subst e1
          refine ⟨_, rfl, ?_⟩
          simp only [Bool.not_true, Bool.false_eq_true, if_false]
          refine ⟨⟨_, _, rfl, rfl⟩, i + 1, rest, _, kvs, rfl, rd, k1.part hp, kp.trans k2, hd2, ks2, fun k hk => ?_, by omega⟩
          rcases List.mem_append.mp hk with hk | hk
          · have := cnt k (List.mem_append_left _ hk); omega
          · rw [List.mem_singleton.mp hk]; simp at c0 ⊢; omega
  rintro _ s1 ⟨⟨a, b, rfl⟩, kp, kvs, hd, ks⟩
  walk_at "ev"
  refine (kinds_init List.getElem?_concat_length).mono fun v s2 ⟨e1, e2⟩ => ⟨e1, ?_⟩
  subst e2
  have l1 := kp.1
  have ld := (List.getElem?_eq_some_iff.mp hd).1
  refine ⟨⟨⟨s.length, kvs, List.getElem?_set_self (by simp), ?_, ks.keep fun k a b => ?_, Nat.le_refl _⟩, kok⟩, (kp.trans (Kp.app l1)).trans (Kp.set l1), by simp, l1⟩
  · rw [List.getElem?_set_ne (by omega), List.getElem?_append_left ld]; exact hd
  · rw [List.getElem?_set_ne (by omega), List.getElem?_append_left b]
end K04
end
section
set_option maxRecDepth 100000
set_option maxHeartbeats 1000000
namespace Mi
open PySem L2
/-! ### the calculus for own operators and lambdas -/
section
variable {env : Env} {s : Sto} {Q : D → Sto → Prop} {Qs : Fl → Sto → Prop} {X : Xn → Sto → Prop} {Xs : Xn → Env → Sto → Prop}
theorem insD_case {o : D} {nm : Str} {F : List (Str × D) → R D} {Q : D → Sto → Prop} : Wp (match insD s o with | some (nm', fl) => if nm' = nm then F fl else .no | none => .no) Q = ∃ fl, insD s o = some (nm, fl) ∧ Wp (F fl) Q := by
  cases e : insD s o with
  | none => exact propext ⟨fun q => q.elim, fun ⟨_, z, _⟩ => nomatch z⟩
  | some p =>
    obtain ⟨nm', fl⟩ := p
    simp only
    by_cases c : nm' = nm
    · subst c
      rw [if_pos rfl]
      exact propext ⟨fun q => ⟨fl, rfl, q⟩, fun ⟨_, z, q⟩ => by cases z; exact q⟩
    · rw [if_neg c]
      exact propext ⟨fun q => q.elim, fun ⟨_, z, _⟩ => by cases z; exact absurd rfl c⟩
theorem mProp_ap {nm : Str} {F : FT} {fo : ET} : Wp (mProp nm F fo env s) Q = Wp (fo env s) fun o s1 => ∃ fl, insD s1 o = some (nm, fl) ∧ Wp (F [o] s1) Q := by
  simp only [mProp, Wp_bind]
  congr; funext o s1
  exact insD_case (F := fun _ => F [o] s1)
theorem bl_case {r : R D} {f : Bool → D} : Wp (r.bind fun v s3 => match v with | .bl t => .ok (f t) s3 | _ => .no) Q = Wp r fun v s3 => ∃ t, v = .bl t ∧ Q (f t) s3 := by
  rw [Wp_bind]
  congr; funext v s3
  cases v <;> simp
theorem mInX_ap {nm : Str} {F : FT} {neg : Bool} {fa fb : ET} : Wp (mInX nm F neg fa fb env s) Q = Wp (fa env s) fun a s1 => Wp (fb env s1) fun b s2 => ∃ fl, insD s2 b = some (nm, fl) ∧ Wp (F [b, a] s2) fun r s3 => ∃ t, r = .bl t ∧ Q (.bl (neg != t)) s3 := by
  simp only [mInX, Wp_bind]
  congr; funext a s1; congr; funext b s2
  refine (insD_case (F := fun _ => (F [b, a] s2).bind fun r s3 => match r with | .bl t => .ok (.bl (neg != t)) s3 | _ => .no)).trans ?_
  simp only [bl_case (f := fun t => .bl (neg != t))]
theorem mSubX_ap {nm : Str} {F : FT} {fa fb : ET} : Wp (mSubX nm F fa fb env s) Q = Wp (fa env s) fun a s1 => Wp (fb env s1) fun b s2 => ∃ fl, insD s2 a = some (nm, fl) ∧ Wp (F [a, b] s2) Q := by
  simp only [mSubX, Wp_bind]
  congr; funext a s1; congr; funext b s2
  exact insD_case (F := fun _ => F [a, b] s2)
theorem mSubX_x {nm : Str} {F : FT} {fa fb : ET} (h : Wp (fa env s) fun a s1 => Wp (fb env s1) fun b s2 => ∃ fl, insD s2 a = some (nm, fl) ∧ WpX (F [a, b] s2) Q X) : WpX (mSubX nm F fa fb env s) Q X := by
  obtain ⟨a, s1, e1, h⟩ := h.out
  obtain ⟨b, s2, e2, fl, e3, h⟩ := h.out
  simp only [mSubX, e1, bind_ok, e2, e3, if_true]
  exact h
theorem mLenX_ap {nm : Str} {F : FT} {fs : AT} : Wp (mLenX nm F fs env s) Q = Wp (fs env s) fun ds s1 => ∃ a, ds = [a] ∧ ∃ fl, insD s1 a = some (nm, fl) ∧ Wp (F [a] s1) fun r s2 => ∃ i : Int, r = .int i ∧ (0 ≤ i ∧ i < 2 ^ 63) ∧ Q (.int i) s2 := by
  simp only [mLenX, Wp_bind]
  congr; funext ds s1
  split
  · rename_i a
    refine (insD_case (F := fun _ => (F [a] s1).bind fun r s2 => match r with | .int i => if 0 ≤ i ∧ i < 2 ^ 63 then .ok (.int i) s2 else .no | _ => .no)).trans ?_
    simp only [Wp_bind]
    refine propext ⟨fun ⟨fl, e, h⟩ => ⟨a, rfl, fl, e, h.mono fun v s2 h => ?_⟩, fun ⟨a', e1, fl, e, h⟩ => ?_⟩
    · cases v with
      | int i =>
        simp only at h
        split at h
        · rename_i c; exact ⟨i, rfl, c, h⟩
        · exact h.elim
      | _ => exact h.elim
    · cases e1
      refine ⟨fl, e, h.mono fun v s2 ⟨i, e2, c, q⟩ => ?_⟩
      subst e2
      simp only
      rw [if_pos c]
      exact q
  · rename_i h
    exact propext ⟨fun q => q.elim, fun ⟨a, e, _⟩ => absurd e (h a)⟩
theorem insD_eq {a b : D} {nm : Str} {tns : List String} {F : R D} : Wp (match insD s a with | some (nm', _) => if nm' = nm ∧ ((insD s b).map (·.1) = some nm ∨ ∃ n ∈ tns, tyName s b = some n) then F else .no | none => .no) Q
    = ((∃ fl, insD s a = some (nm, fl)) ∧ ((insD s b).map (·.1) = some nm ∨ ∃ n ∈ tns, tyName s b = some n) ∧ Wp F Q) := by
  cases e : insD s a with
  | none => exact propext ⟨fun q => q.elim, fun ⟨⟨_, z⟩, _⟩ => nomatch z⟩
  | some p =>
    obtain ⟨nm', fl⟩ := p
    simp only
    by_cases c : nm' = nm ∧ ((insD s b).map (·.1) = some nm ∨ ∃ n ∈ tns, tyName s b = some n)
    · rw [if_pos c]
      obtain ⟨rfl, c⟩ := c
      exact propext ⟨fun q => ⟨⟨fl, rfl⟩, c, q⟩, fun ⟨_, _, q⟩ => q⟩
    · rw [if_neg c]
      exact propext ⟨fun q => q.elim, fun ⟨⟨_, z⟩, d, _⟩ => by cases z; exact absurd ⟨rfl, d⟩ c⟩
theorem mEqX_ap {nm : Str} {F : FT} {tns : List String} {fa fb : ET} : Wp (mEqX nm F tns fa fb env s) Q = Wp (fa env s) fun a s1 => Wp (fb env s1) fun b s2 => (∃ fl, insD s2 a = some (nm, fl)) ∧ ((insD s2 b).map (·.1) = some nm ∨ ∃ n ∈ tns, tyName s2 b = some n) ∧ Wp (F [a, b] s2) fun r s3 => ∃ t, r = .bl t ∧ Q (.bl t) s3 := by
  simp only [mEqX, Wp_bind]
  congr; funext a s1; congr; funext b s2
  refine (insD_eq (F := (F [a, b] s2).bind fun r s3 => match r with | .bl t => .ok (.bl t) s3 | _ => .no)).trans ?_
  rw [bl_case (f := fun t => .bl t)]
theorem mNeX_ap {nm : Str} {F : FT} {tns : List String} {fa fb : ET} : Wp (mNeX nm F tns fa fb env s) Q = Wp (fa env s) fun a s1 => Wp (fb env s1) fun b s2 => (∃ fl, insD s2 a = some (nm, fl)) ∧ ((insD s2 b).map (·.1) = some nm ∨ ∃ n ∈ tns, tyName s2 b = some n) ∧ Wp (F [a, b] s2) fun r s3 => ∃ t, r = .bl t ∧ Q (.bl (!t)) s3 := by
  simp only [mNeX, Wp_bind]
  congr; funext a s1; congr; funext b s2
  refine (insD_eq (F := (F [a, b] s2).bind fun r s3 => match r with | .bl t => .ok (.bl (!t)) s3 | _ => .no)).trans ?_
  rw [bl_case (f := fun t => .bl (!t))]
theorem mLam_ok {Fg : Clo → FT} {n0 n : Nat} {x q : Str} {js : List Nat} {ds : List D} {d : D} {s1 : Sto} (h0 : s[n0]? = some (.tbl n0 x q)) (hc : capt env js = some ds) (hn : env.length = n)
    (h : ∀ k, OfLam q n k → Wp (Fg k [.fn k js ds] s) fun v s' => v = d ∧ s' = s1) (hQ : Q d s1) : Wp (mLam Fg n0 n x q js env s) Q := by
  have e : same (OfLam q n) (fun k => Fg k [.fn k js ds] s) = .ok d s1 := by
    refine same_eq (fun k hk => ?_) ⟨0, 0, q, List.replicate n none⟩ ⟨rfl, by simp⟩
    obtain ⟨v, s', e, rfl, rfl⟩ := (h k hk).out
    exact e
  simp only [mLam, h0, hc, hn, and_self, if_true, e, quiet_ok]
  exact hQ
theorem mAct_eq {fe : ET} {k : Clo} {js : List Nat} {ds : List D} (h : env[0]? = some (some (.fn k js ds))) : mAct fe k env s = fe (envAt k.σ.length js ds) s := by
  unfold mAct
  rw [h]
  simp
theorem sExp_x {fa : ET} (h : WpX (fa env s) (fun _ s1 => Qs (.nx env) s1) (fun x s1 => Xs x env s1)) : WpSX (sExp fa env s) Qs Xs := by
  unfold sExp
  cases e : fa env s with
  | no => rw [e] at h; exact h
  | ok d s1 => rw [e] at h; exact h
  | ex x s1 => rw [e] at h; exact h
end
end Mi
end
section
set_option maxRecDepth 100000
set_option maxHeartbeats 1000000
namespace K04
open PySem L2 Mi
local macro_rules | `(tactic| walk_at "ev") => `(tactic| simp only [mProp_ap, mInX_ap, mLenX_ap, mSubX_ap, mEqX_ap, mNeX_ap, mMethX_ap, mMkP_ap, qF_ap, mLm_ap, mDicR_ap, sPutR_ap, mSplR_ap, sSwp_ap, put1_ap, itE_ap, Wp_ok, Wp_bind, Wp_quiet, WpS_fl, WpS_then, Nx_nx, Nx_rt, Nx_bk, Nx_ct, mVar_ap, mC_ap, mOp_ap, mUn_ap, mB_ap, mTru_ap, mAnd_ap, mOr_ap, mNot_ap,
  bAnd_ap, bOr_ap, bNot_ap, bYes_ap, mIf_ap, mNil_ap, mCons_ap, mTup_ap, mLst_ap, mLstR_ap, mDic0_ap, mCall_ap, mCb_ap, mMb_ap, mStr_ap, mRevT_ap, mPart_ap, mNoPart_ap, mSl_ap, mChain_ap, itL_ap, itT_ap, itS_ap, itR1_ap,
  sNil_ap, sSeq_ap, sIf_ap, sRet_ap, sRetN_ap, sBrk_ap, sCnt_ap, sExp_ap, sAsg_ap, sPar_ap, sPar3_ap, tgN_ap, tgNil_ap, tgCons_ap, sSetIx_ap, sFor_ap, Wp_mLc,
  List.map_cons, List.map_nil, List.cons_append, List.nil_append, List.replicate_succ, List.replicate_zero, List.getElem?_cons_zero, List.getElem?_cons_succ, List.set_cons_zero, List.set_cons_succ, List.length_cons, List.length_nil,
  Option.some.injEq, Option.bind_some, exists_eq_left, exists_eq_left', true_and, and_true, D.bl.injEq, D.int.injEq, D.str.injEq, D.ref.injEq, D.tup.injEq, D.lst.injEq, List.cons.injEq, if_true, if_false, Bool.false_eq_true, reduceCtorEq, false_and, and_false, or_false, false_or, exists_false])
/-! ### parts in lists -/
/-! ### tuples of texts -/
def tS (xs : List Str) : D := .tup (xs.map .str)
theorem pyDs_strs : ∀ xs : List Str, pyDs (xs.map .str) = some (xs.map .str)
  | [] => rfl
  | x :: r => by simp only [List.map_cons, pyDs, pyD, pyDs_strs r]
theorem pyD_tS (xs : List Str) : pyD (tS xs) = some (.tuple (xs.map .str)) := by simp only [tS, pyD, pyDs_strs]
theorem can_strs : ∀ {xs : List Str}, (∀ x ∈ xs, asc x) → PyData.canLayAll0 (xs.map .str) = true
  | [], _ => rfl
  | x :: r, h => by
    simp only [List.map_cons, PyData.canLayAll0, PyData.canLay0, strOk_of (h x List.mem_cons_self), can_strs fun y hy => h y (List.mem_cons_of_mem _ hy), Bool.and_self]
theorem dep_strs : ∀ xs : List Str, PyData.depthAll (xs.map .str) = 0
  | [] => rfl
  | x :: r => by simp [PyData.depthAll, PyData.depth, dep_strs r]
theorem shaped_tS {xs : List Str} (h : ∀ x ∈ xs, asc x) : SeqAt.shaped (.tuple (xs.map .str)) = true := by
  unfold SeqAt.shaped
  rw [Bool.and_eq_true]
  exact ⟨by simp only [PyData.canLay0]; exact can_strs h, decide_eq_true (by simp only [PyData.depth, dep_strs]; decide)⟩
theorem eqvs_strs : ∀ (xs ys : List Str), PyData.eqvAll (xs.map .str) (ys.map .str) = decide (xs = ys)
  | [], [] => by simp [PyData.eqvAll]
  | [], y :: r => by simp [PyData.eqvAll]
  | x :: r, [] => by simp [PyData.eqvAll]
  | x :: r, y :: t => by
    simp only [List.map_cons, PyData.eqvAll, PyData.eqv, eqvs_strs r t, List.cons.injEq]
    by_cases e : x = y
    · subst e; simp
    · simp [e]
theorem eqv_tS (xs ys : List Str) : PyData.eqv (.tuple (xs.map .str)) (.tuple (ys.map .str)) = decide (xs = ys) := by
  simp only [PyData.eqv]
  exact eqvs_strs xs ys
theorem ne_tS {s : Sto} {xs ys : List Str} (h : ∀ x ∈ xs, asc x) (k : ∀ x ∈ ys, asc x) : opNe s (tS xs) (tS ys) = some (.bl (!decide (xs = ys))) := by
  have e : ∀ zs, pyA s (tS zs) = pyD (tS zs) := fun zs => rfl
  simp only [opNe, e, pyD_tS, shaped_tS h, shaped_tS k, and_self, if_true, eqv_tS]
theorem inB_tS {s : Sto} {d : D} {x : List Str} {L : List (List Str)} (hd : asL s d = some (L.map tS)) (hn : ∀ y, d ≠ .str y) (hf : inF s (tS x) d = none) (h : ∀ z ∈ x, asc z) (k : ∀ y ∈ L, ∀ z ∈ y, asc z) : inB s (tS x) d = some (decide (x ∈ L)) := by
  have q : inB s (tS x) d = (match inF s (tS x) d with
    | some b => some b
    | none => match asL s d with
      | some xs => match pyDs xs, pyD (tS x) with
        | some ds, some y => if SeqAt.shaped y = true ∧ SeqAt.shaped (.list ds) = true then some (ds.any fun z => PyData.eqv z y) else none
        | _, _ => none
      | none => none) := by
    cases d <;> first | rfl | exact absurd rfl (hn _)
  have e1 : ∀ L : List (List Str), pyDs (L.map tS) = some (L.map fun y => .tuple (y.map .str)) := by
    intro L
    induction L with
    | nil => rfl
    | cons y r ih => simp only [List.map_cons, pyDs, pyD_tS, ih]
  rw [q, hf]
  simp only [hd, e1, pyD_tS]
  have s2 : SeqAt.shaped (.list (L.map fun y => PyData.tuple (y.map .str))) = true := by
    have a : ∀ L : List (List Str), (∀ y ∈ L, ∀ z ∈ y, asc z) → PyData.canLayAll0 (L.map fun y => PyData.tuple (y.map .str)) = true := by
      intro L
      induction L with
      | nil => exact fun _ => rfl
      | cons y r ih =>
        intro k
        simp only [List.map_cons, PyData.canLayAll0, PyData.canLay0, can_strs (k y List.mem_cons_self), ih fun z hz => k z (List.mem_cons_of_mem _ hz), Bool.and_self]
    have b : ∀ L : List (List Str), PyData.depthAll (L.map fun y => PyData.tuple (y.map .str)) ≤ 1 := by
      intro L
      induction L with
      | nil => simp [PyData.depthAll]
      | cons y r ih =>
        simp only [List.map_cons, PyData.depthAll, PyData.depth, dep_strs]
        omega
    unfold SeqAt.shaped
    rw [Bool.and_eq_true]
    exact ⟨by simp only [PyData.canLay0]; exact a L k, decide_eq_true (by simp only [PyData.depth]; have := b L; omega)⟩
  rw [if_pos ⟨shaped_tS h, s2⟩]
  congr 1
  clear s2 hd k q hf
  induction L with
  | nil => simp
  | cons y r ih =>
    simp only [List.map_cons, List.any_cons, eqv_tS, ih, List.mem_cons]
    by_cases e : y = x
    · subst e; simp
    · have e2 : ¬ x = y := fun z => e z.symm
      simp [e, e2]
theorem inF_tS {s : Sto} {x : List Str} {d : D} : inF s (tS x) d = none := by
  simp only [inF, show flD (tS x) = none from rfl]
theorem ws_inj {p q : Part} (h : ws p = ws q) : p = q := by
  obtain ⟨a, b⟩ := p
  obtain ⟨c, d⟩ := q
  cases b <;> cases d <;> simp [ws] at h
  · rw [h]
  · rw [h.1, h.2]
theorem cD_map (ls : List Part) : ls.map cD = (ls.map ws).map tS := by
  rw [List.map_map]; rfl
theorem LineOk.ascs {p : Part} (h : LineOk p) : ∀ z ∈ ws p, asc z := fun z hz c hc => by have := (h.low z hz).1 c hc; omega
theorem mem_ws {p : Part} {ls : List Part} : ws p ∈ ls.map ws ↔ p ∈ ls := by
  constructor
  · intro h
    obtain ⟨q, hq, e⟩ := List.mem_map.mp h
    rw [← ws_inj e]; exact hq
  · exact fun h => List.mem_map_of_mem h
theorem ni_cD {s : Sto} {n : Nat} {m : Bool} {p : Part} {ls : List Part} (h : s[n]? = some (.lst m (ls.map cD))) (hp : LineOk p) (hs : ∀ p ∈ ls, LineOk p) : opNotIn s (cD p) (.ref n) = some (.bl (!decide (p ∈ ls))) := by
  have e : asL s (.ref n) = some ((ls.map ws).map tS) := by simp only [asL, h, cD_map]
  have := inB_tS (x := ws p) e (fun y z => by cases z) inF_tS hp.ascs (fun y hy => by obtain ⟨q, hq, rfl⟩ := List.mem_map.mp hy; exact (hs q hq).ascs)
  simp only [opNotIn, show cD p = tS (ws p) from rfl, this, Option.map_some, mem_ws]
theorem in_cD {s : Sto} {p : Part} {ls : List Part} (hp : ∀ z ∈ ws p, asc z) (hs : ∀ p ∈ ls, LineOk p) : opIn s (cD p) (.lst (ls.map cD)) = some (.bl (decide (p ∈ ls))) := by
  have e : asL s (.lst (ls.map cD)) = some ((ls.map ws).map tS) := by simp only [asL, cD_map]
  have := inB_tS (x := ws p) e (fun y z => by cases z) inF_tS hp (fun y hy => by obtain ⟨q, hq, rfl⟩ := List.mem_map.mp hy; exact (hs q hq).ascs)
  simp only [opIn, show cD p = tS (ws p) from rfl, this, Option.map_some, mem_ws]
/-! ### a kind's properties -/
/-- the names behind a word -/
def nmd (ps : List Part) (w : Str) : List (Option Str) := (ps.filter fun p => decide (p.1 = w)).map (·.2)
theorem nmd_strs {ps : List Part} {w : Str} (h : ∀ p ∈ ps, LineOk p) (hw : w ∈ w5) : ∃ ns : List Str, (nmd ps w).map oD = ns.map .str ∧ ∀ n ∈ ns, asc n := by
  induction ps with
  | nil => exact ⟨[], rfl, by simp⟩
  | cons p r ih =>
    obtain ⟨ns, e, a⟩ := ih fun q hq => h q (List.mem_cons_of_mem _ hq)
    unfold nmd at e ⊢
    by_cases c : p.1 = w
    · rw [List.filter_cons_of_pos (by simpa using c)]
      have hp := h p List.mem_cons_self
      have : ∃ n, p.2 = some n ∧ asc n := by
        rcases hp with ⟨e1, n, e2, f⟩ | ⟨_, n, e2, f⟩ | ⟨e1, e2⟩
        · exact ⟨n, e2, free_asc f⟩
        · exact ⟨n, e2, free_asc f⟩
        · rw [c] at e1
          have : ∀ w ∈ w5, w ∉ marks := by decide +kernel
          exact absurd e1 (this w hw)
      obtain ⟨n, e2, an⟩ := this
      refine ⟨n :: ns, ?_, ?_⟩
      · rw [List.map_cons, List.map_cons, e, e2]; rfl
      · intro z hz
        rcases List.mem_cons.mp hz with rfl | hz
        · exact an
        · exact a z hz
    · rw [List.filter_cons_of_neg (by simpa using c)]
      exact ⟨ns, e, a⟩
theorem named_ok {s : Sto} {q l : Nat} {ps : List Part} {w : Str} (h : KindAt s q l ps) : Wp (F_Kind_named [.ref q, .str w] s) fun v s' => s' = s ∧ v = .tup ((nmd ps w).map oD) := by
  rw [F_Kind_named, mFun_ap (n := 2) rfl, b_Kind_named]
  walk_at "ev"
  have ea : asL s (.ref l) = some (ps.map pD) := by simp only [asL, h.lst]
  refine ⟨_, fld_parts h, _, ea, ?_⟩
  refine Wp.mono (lc_filt (p := fun d => match d with | .tup (.str u :: _) => u == w | _ => false) (f := fun d => match d with | .tup [_, o] => o | _ => .non) (show stays (.ref l) (ps.map pD) s from ea) (ps.map pD) [] ?h (by have := h.len; simp; omega)) ?k
  case h =>
    intro d hd
    obtain ⟨⟨u, o⟩, hp, rfl⟩ := List.mem_map.mp hd
    refine ⟨_, rfl, ?_, fun _ => ?_⟩
    · walk_at "ev"
      exact ⟨_, rfl, _, rfl, _, eq_strs, _, rfl, rfl⟩
    · walk_at "ev"
      exact ⟨_, rfl, rfl⟩
  case k =>
    intro out s1 ⟨e1, e2⟩
    rw [List.nil_append] at e2
    have e3 : out = (nmd ps w).map oD := by
      rw [e2]
      unfold nmd
      clear h ea e2
      induction ps with
      | nil => rfl
      | cons p r ih =>
        obtain ⟨u, o⟩ := p
        simp only [List.map_cons, List.filter_cons, pD] at ih ⊢
        by_cases c : u = w
        · subst c
          simp only [BEq.rfl, decide_true, if_true, List.map_cons]
          rw [← ih]
        · have c2 : (u == w) = false := by simpa using c
          simp only [c2, c, decide_false, Bool.false_eq_true, if_false]
          exact ih
    rw [e3]
    exact ⟨_, rfl, e1, rfl⟩
theorem mark_ok {s : Sto} {q l : Nat} {ps : List Part} {w : Str} (h : KindAt s q l ps) (hw : asc w) : Wp (F_Kind_has_mark [.ref q, .str w] s) fun v s' => s' = s ∧ v = .bl (decide (((w, none) : Part) ∈ ps)) := by
  rw [F_Kind_has_mark, mFun_ap (n := 2) rfl, b_Kind_has_mark]
  walk_at "ev"
  refine ⟨by rw [sizeLine_eq]; decide, _, fld_parts h, _, in_parts (p := (w, none)) h.lst ⟨hw, trivial⟩ h.asc, rfl⟩
section
variable {s : Sto} {q l : Nat} {ps : List Part}
theorem insK (h : KindAt s q l ps) : ∃ fl, insD s (.ref q) = some (("Kind" : Str), fl) ∧ fl.lookup ("named" : Str) = none ∧ fl.lookup ("has_mark" : Str) = none := by
  obtain ⟨nm, e⟩ := insD_kind h
  exact ⟨_, e, rfl, rfl⟩
theorem kname_ok {nm : Str} (h : s[q]? = some (.ins true "Kind" (kFs nm l))) : Wp (F_Kind_name [.ref q] s) fun v s' => s' = s ∧ v = .str nm := by
  rw [F_Kind_name, mFun_ap (n := 1) rfl, b_Kind_name]
  walk_at "ev"
  exact ⟨_, by simp only [fldD, h, if_true]; rfl, rfl⟩
theorem set_fields_ok (h : KindAt s q l ps) : Wp (F_Kind_set_fields [.ref q] s) fun v s' => s' = s ∧ v = .tup ((nmd ps "set").map oD) := by
  rw [F_Kind_set_fields, mFun_ap (n := 1) rfl, b_Kind_set_fields]
  walk_at "ev"
  obtain ⟨fl, e1, e2, e3⟩ := insK h
  exact ⟨fl, e1, e2, named_ok h⟩
theorem fixed_fields_ok (h : KindAt s q l ps) : Wp (F_Kind_fixed_fields [.ref q] s) fun v s' => s' = s ∧ v = .tup ((nmd ps "fixed").map oD) := by
  rw [F_Kind_fixed_fields, mFun_ap (n := 1) rfl, b_Kind_fixed_fields]
  walk_at "ev"
  obtain ⟨fl, e1, e2, e3⟩ := insK h
  exact ⟨fl, e1, e2, named_ok h⟩
theorem fresh_answers_ok (h : KindAt s q l ps) : Wp (F_Kind_fresh_answers [.ref q] s) fun v s' => s' = s ∧ v = .tup ((nmd ps "fresh").map oD) := by
  rw [F_Kind_fresh_answers, mFun_ap (n := 1) rfl, b_Kind_fresh_answers]
  walk_at "ev"
  obtain ⟨fl, e1, e2, e3⟩ := insK h
  exact ⟨fl, e1, e2, named_ok h⟩
theorem free_answers_ok (h : KindAt s q l ps) : Wp (F_Kind_free_answers [.ref q] s) fun v s' => s' = s ∧ v = .tup ((nmd ps "free").map oD) := by
  rw [F_Kind_free_answers, mFun_ap (n := 1) rfl, b_Kind_free_answers]
  walk_at "ev"
  obtain ⟨fl, e1, e2, e3⟩ := insK h
  exact ⟨fl, e1, e2, named_ok h⟩
theorem unique_fields_ok (h : KindAt s q l ps) : Wp (F_Kind_unique_fields [.ref q] s) fun v s' => s' = s ∧ v = .tup ((nmd ps "unique").map oD) := by
  rw [F_Kind_unique_fields, mFun_ap (n := 1) rfl, b_Kind_unique_fields]
  walk_at "ev"
  obtain ⟨fl, e1, e2, e3⟩ := insK h
  exact ⟨fl, e1, e2, named_ok h⟩
theorem held_ok (h : KindAt s q l ps) : Wp (F_Kind_held [.ref q] s) fun v s' => s' = s ∧ v = .bl (decide ((("held", none) : Part) ∈ ps)) := by
  rw [F_Kind_held, mFun_ap (n := 1) rfl, b_Kind_held]
  walk_at "ev"
  obtain ⟨fl, e1, e2, e3⟩ := insK h
  exact ⟨fl, e1, e3, mark_ok h (by unfold asc; decide)⟩
theorem single_ok (h : KindAt s q l ps) : Wp (F_Kind_single [.ref q] s) fun v s' => s' = s ∧ v = .bl (decide ((("single", none) : Part) ∈ ps)) := by
  rw [F_Kind_single, mFun_ap (n := 1) rfl, b_Kind_single]
  walk_at "ev"
  obtain ⟨fl, e1, e2, e3⟩ := insK h
  exact ⟨fl, e1, e3, mark_ok h (by unfold asc; decide)⟩
theorem token_ok (h : KindAt s q l ps) : Wp (F_Kind_token [.ref q] s) fun v s' => s' = s ∧ v = .bl (decide ((("token", none) : Part) ∈ ps)) := by
  rw [F_Kind_token, mFun_ap (n := 1) rfl, b_Kind_token]
  walk_at "ev"
  obtain ⟨fl, e1, e2, e3⟩ := insK h
  exact ⟨fl, e1, e3, mark_ok h (by unfold asc; decide)⟩
theorem guarded_ok (h : KindAt s q l ps) : Wp (F_Kind_guarded [.ref q] s) fun v s' => s' = s ∧ v = .bl (decide ((("guarded", none) : Part) ∈ ps)) := by
  rw [F_Kind_guarded, mFun_ap (n := 1) rfl, b_Kind_guarded]
  walk_at "ev"
  obtain ⟨fl, e1, e2, e3⟩ := insK h
  exact ⟨fl, e1, e3, mark_ok h (by unfold asc; decide)⟩
end
end K04
end
section
set_option maxRecDepth 100000
set_option maxHeartbeats 1000000
namespace K04
open PySem L2 Mi
local macro_rules | `(tactic| walk_at "ev") => `(tactic| simp only [mProp_ap, mInX_ap, mLenX_ap, mSubX_ap, mEqX_ap, mNeX_ap, mMethX_ap, mMkP_ap, qF_ap, mLm_ap, mDicR_ap, sPutR_ap, mSplR_ap, sSwp_ap, put1_ap, itE_ap, Wp_ok, Wp_bind, Wp_quiet, WpS_fl, WpS_then, Nx_nx, Nx_rt, Nx_bk, Nx_ct, mVar_ap, mC_ap, mOp_ap, mUn_ap, mB_ap, mTru_ap, mAnd_ap, mOr_ap, mNot_ap,
  bAnd_ap, bOr_ap, bNot_ap, bYes_ap, mIf_ap, mNil_ap, mCons_ap, mTup_ap, mLst_ap, mLstR_ap, mDic0_ap, mCall_ap, mCb_ap, mMb_ap, mStr_ap, mRevT_ap, mPart_ap, mNoPart_ap, mSl_ap, mChain_ap, itL_ap, itT_ap, itS_ap, itR1_ap,
  sNil_ap, sSeq_ap, sIf_ap, sRet_ap, sRetN_ap, sBrk_ap, sCnt_ap, sExp_ap, sAsg_ap, sPar_ap, sPar3_ap, tgN_ap, tgNil_ap, tgCons_ap, sSetIx_ap, sFor_ap, Wp_mLc,
  List.map_cons, List.map_nil, List.cons_append, List.nil_append, List.replicate_succ, List.replicate_zero, List.getElem?_cons_zero, List.getElem?_cons_succ, List.set_cons_zero, List.set_cons_succ, List.length_cons, List.length_nil,
  Option.some.injEq, Option.bind_some, exists_eq_left, exists_eq_left', true_and, and_true, D.bl.injEq, D.int.injEq, D.str.injEq, D.ref.injEq, D.tup.injEq, D.lst.injEq, List.cons.injEq, if_true, if_false, Bool.false_eq_true, reduceCtorEq, false_and, and_false, or_false, false_or, exists_false])
/-! ### parts in lists -/
/-! ### what kinds answer -/
theorem niR_ok {s : Sto} {n : Nat} {m : Bool} {kvs : List (Key × D)} {x : Str} (h : s[n]? = some (.dic m kvs)) : opNotInR s (.str x) (.ref n) = some (.bl (!(valD kvs (.inr x)).isSome)) := by simp only [opNotInR, dicD, h, keyOf]
section
variable {s : Sto} {B m : Nat} {x : Str} {K : List KP}
theorem KindsAt.fld (h : KindsAt s B m x K) : ∃ d kvs fl, fldD "Kinds" "held_kinds" s (.ref m) = some (.ref d) ∧ fldD "Kinds" "own_text" s (.ref m) = some (.str x) ∧ s[d]? = some (.dic true kvs) ∧ KsAt s (d + 1) K kvs m ∧ insD s (.ref m) = some (("Kinds" : Str), fl) := by
  obtain ⟨d, kvs, h1, h2, h3, h4⟩ := h.at'
  exact ⟨d, kvs, _, by simp only [fldD, h1, if_true]; rfl, by simp only [fldD, h1, if_true]; rfl, h2, h3, by simp only [insD, h1]; rfl⟩
theorem knames_ok (h : KindsAt s B m x K) : Wp (F_Kinds_names [.ref m] s) fun v s' => s' = s ∧ v = tS (K.map (·.1)) := by
  obtain ⟨d, kvs, fl, f1, f2, hd, ks, hi⟩ := h.fld
  have hk := ks.keys
  rw [F_Kinds_names, mFun_ap (n := 1) rfl, b_Kinds_names]
  walk_at "ev"
  have ok : (kvs.all fun kv => keyOk kv.1) = true := by
    refine List.all_eq_true.mpr fun kv hkv => ?_
    have : kv.1 ∈ (K.map (·.1)).map (Sum.inr : Str → Key) := by rw [← hk]; exact List.mem_map_of_mem hkv
    obtain ⟨y, hy, e⟩ := List.mem_map.mp this
    obtain ⟨k, hk2, rfl⟩ := List.mem_map.mp hy
    rw [← e]
    have := (free_low (h.ok.fr k hk2)).2
    exact decide_eq_true (by rw [sizeLine_eq]; omega)
  have e : kvs.map (fun kv => kD kv.1) = (K.map (·.1)).map .str := by
    have : kvs.map (fun kv => kD kv.1) = (kvs.map (·.1)).map kD := by rw [List.map_map]; rfl
    rw [this, hk, List.map_map]
    rfl
  refine ⟨_, f1, _, ?_, rfl⟩
  simp only [cbTupleR, hd, ok, if_true]
  rw [e]
  rfl
theorem klen_ok (h : KindsAt s B m x K) : Wp (F_Kinds___len__ [.ref m] s) fun v s' => s' = s ∧ v = .int (K.length : Int) := by
  obtain ⟨d, kvs, fl, f1, f2, hd, ks, hi⟩ := h.fld
  have kl := keys_len ks.keys
  rw [List.length_map] at kl
  rw [F_Kinds___len__, mFun_ap (n := 1) rfl, b_Kinds___len__]
  walk_at "ev"
  exact ⟨_, f1, _, lenR_ok hd, by rw [kl]⟩
/-- a thing that is no name of these kinds -/
def NoNm (s : Sto) (K : List KP) (d : D) : Prop := (∃ y, d = .str y ∧ y ∉ K.map (·.1)) ∨ isiD "str" s d = some (.bl false)
theorem khas_str {y : Str} (h : KindsAt s B m x K) : Wp (F_Kinds___contains__ [.ref m, .str y] s) fun v s' => s' = s ∧ v = .bl (decide (y ∈ K.map (·.1))) := by
  obtain ⟨d, kvs, fl, f1, f2, hd, ks, hi⟩ := h.fld
  rw [F_Kinds___contains__, mFun_ap (n := 2) rfl, b_Kinds___contains__]
  walk_at "ev"
  refine ⟨_, isi_str, .inl ⟨rfl, _, f1, _, inR_ok hd, ?_⟩⟩
  rw [keys_find ks.keys]
theorem khas_no {d : D} (h : KindsAt s B m x K) (hn : NoNm s K d) : Wp (F_Kinds___contains__ [.ref m, d] s) fun v s' => s' = s ∧ v = .bl false := by
  rcases hn with ⟨y, rfl, hy⟩ | hn
  · refine (khas_str h).mono fun v s' ⟨e1, e2⟩ => ⟨e1, ?_⟩
    rw [e2, decide_eq_false hy]
  · rw [F_Kinds___contains__, mFun_ap (n := 2) rfl, b_Kinds___contains__]
    walk_at "ev"
    exact ⟨_, hn, .inr ⟨rfl, rfl⟩⟩
theorem kget_ok {k : KP} (h : KindsAt s B m x K) (hk : k ∈ K) (hl : k.2.length ≤ 1000) : Wp (F_Kinds___getitem__ [.ref m, .str k.1] s) fun v s' => s' = s ∧ ∃ q l, v = .ref q ∧ s[q]? = some (.ins true "Kind" (kFs k.1 l)) ∧ KindAt s q l k.2 := by
  obtain ⟨d, kvs, fl, f1, f2, hd, ks, hi⟩ := h.fld
  obtain ⟨q, l, hv, e1, e2⟩ := ks.find h.ok.nd hk
  rw [F_Kinds___getitem__, mFun_ap (n := 2) rfl, b_Kinds___getitem__]
  simp only [List.map_cons, List.map_nil, List.cons_append, List.nil_append, List.replicate_succ, List.replicate_zero, Nat.sub_self]
  refine seqK (fun e s' => e = [some (.ref m), some (.str k.1)] ∧ s' = s) ?_ ?_
  · rw [sIf_ap]
    walk_at "ev"
    refine ⟨_, isi_str, _, rfl, ?_⟩
    simp only [Bool.not_true, Bool.false_eq_true, if_false]
    refine ⟨_, f1, _, niR_ok hd, _, rfl, ?_⟩
    rw [hv]
    simp
  rintro _ s ⟨rfl, rfl⟩
  walk_at "ev"
  exact ⟨_, f1, _, getR_ok hd hv, q, l, rfl, e1, ⟨⟨_, e1⟩, e2, fun p hp => (h.ok.ps k hk p hp).asc, by omega⟩⟩
theorem kget_no {d : D} (h : KindsAt s B m x K) (hn : NoNm s K d) : WpX (F_Kinds___getitem__ [.ref m, d] s) (fun _ _ => False) (fun e s' => s' = s ∧ e = ⟨"NoKind", [("value", d)]⟩) := by
  obtain ⟨n, kvs, fl, f1, f2, hd, ks, hi⟩ := h.fld
  rw [F_Kinds___getitem__]
  refine mFun_x rfl ?_
  rw [b_Kinds___getitem__]
  simp only [List.map_cons, List.map_nil, List.cons_append, List.nil_append, List.replicate_succ, List.replicate_zero, Nat.sub_self]
  refine seqX (fun _ _ => False) ?_ (fun _ _ h => h.elim)
  refine sIf_x ?_
  rcases hn with ⟨y, rfl, hy⟩ | hn
  · walk_at "ev"
    refine ⟨_, isi_str, _, rfl, ?_⟩
    simp only [Bool.not_true, Bool.false_eq_true, if_false]
    refine ⟨_, f1, _, niR_ok hd, _, rfl, ?_⟩
    rw [keys_find ks.keys, decide_eq_false hy]
    simp only [Bool.not_false, if_true]
    refine sRaise_x ?_
    walk_at "ev"
  · walk_at "ev"
    refine ⟨_, hn, _, rfl, ?_⟩
    simp only [Bool.not_false, if_true]
    refine sRaise_x ?_
    walk_at "ev"
theorem keq_ok {B' m' : Nat} {x' : Str} {K' : List KP} (h : KindsAt s B m x K) (h' : KindsAt s B' m' x' K') : Wp (F_Kinds___eq__ [.ref m, .ref m'] s) fun v s' => s' = s ∧ v = .bl (x == x') := by
  obtain ⟨d, kvs, fl, f1, f2, hd, ks, hi⟩ := h.fld
  obtain ⟨d', kvs', fl', f1', f2', hd', ks', hi'⟩ := h'.fld
  rw [F_Kinds___eq__, mFun_ap (n := 2) rfl, b_Kinds___eq__]
  walk_at "ev"
  obtain ⟨_, _, e1, _⟩ := h'.at'
  have i1 : isiV [] [("Kinds", true)] [("str", false), ("tuple", false), ("NoneType", false), ("int", false), ("bool", false)] s (.ref m') = some (.bl true) := by
    simp only [isiV, clsD, e1]
    rfl
  exact ⟨_, i1, .inl ⟨rfl, _, f2, _, f2', _, eq_strs, rfl⟩⟩
theorem keq_no {d : D} {n : String} (h : KindsAt s B m x K) (hc : clsD s d = none) (hx : ∀ c fs, d ≠ .exc c fs) (ht : tyName s d = some n) (hm : n ∈ ["str", "tuple", "NoneType", "int", "bool"]) : Wp (F_Kinds___eq__ [.ref m, d] s) fun v s' => s' = s ∧ v = .bl false := by
  rw [F_Kinds___eq__, mFun_ap (n := 2) rfl, b_Kinds___eq__]
  walk_at "ev"
  have i1 : isiV [] [("Kinds", true)] [("str", false), ("tuple", false), ("NoneType", false), ("int", false), ("bool", false)] s d = some (.bl false) := by
    have : isiV [] [("Kinds", true)] [("str", false), ("tuple", false), ("NoneType", false), ("int", false), ("bool", false)] s d = (match clsD s d with | some c => (tblB [("Kinds", true)] c).map .bl | none => match tyName s d with | some n => (([("str", false), ("tuple", false), ("NoneType", false), ("int", false), ("bool", false)] : List (String × Bool)).lookup n).map .bl | none => none) := by
      cases d <;> first | rfl | exact absurd rfl (hx _ _)
    rw [this, hc, ht]
    have : ∀ n ∈ ["str", "tuple", "NoneType", "int", "bool"], ([("str", false), ("tuple", false), ("NoneType", false), ("int", false), ("bool", false)] : List (String × Bool)).lookup n = some false := by decide
    simp only [this n hm]
    rfl
  exact ⟨_, i1, .inr ⟨rfl, rfl⟩⟩
theorem show_ok (h : KindsAt s B m x K) : Wp (F_show_kinds [.ref m] s) fun v s' => s' = s ∧ v = .str x := by
  obtain ⟨d, kvs, fl, f1, f2, hd, ks, hi⟩ := h.fld
  rw [F_show_kinds, mFun_ap (n := 1) rfl, b_show_kinds]
  walk_at "ev"
  exact ⟨_, f2, rfl⟩
/-! ### the lambda -/
theorem unknown_ok {d : D} {k : Clo} (h : KindsAt s B m x K) (hn : NoNm s K d) (hk : OfLam "_law_is_right.<locals>.<lambda>" 9 k) :
    Wp (F__law_unknown (mSubX "Kinds" F_Kinds___getitem__ (mVar 0) (mVar 6)) k [.fn k [0, 6] [.ref m, d]] s) fun v s' => v = .lst [d] ∧ s' = s := by
  rw [F__law_unknown, mFun_ap (n := 1) rfl, b__law_unknown]
  simp only [List.map_cons, List.map_nil, List.cons_append, List.nil_append, List.replicate_succ, List.replicate_zero]
  refine seqK (fun e s' => e = [some (.fn k [0, 6] [.ref m, d]), some .non, none, none] ∧ s' = s) ?_ ?_
  · walk_at "ev"
  rintro _ s ⟨rfl, rfl⟩
  refine seqK (fun e s' => e = [some (.fn k [0, 6] [.ref m, d]), some (.exc "NoKind" [("value", d)]), none, none] ∧ s' = s) ?_ ?_
  · refine sTryK_ap (sExp_x ?_)
    rw [mAct_eq (k := k) (js := [0, 6]) (ds := [.ref m, d]) rfl, hk.2]
    refine WpX.mono (mSubX_x (X := fun e s' => s' = s ∧ e = ⟨"NoKind", [("value", d)]⟩) (Q := fun _ _ => False) ?_) (fun _ _ h => h.elim) ?_
    · obtain ⟨_, _, fl, _, _, _, _, hi⟩ := h.fld
      walk_at "ev"
      exact ⟨_, rfl, _, rfl, fl, hi, kget_no h hn⟩
    · rintro e s' ⟨rfl, rfl⟩
      exact ⟨_, _, rfl, rfl, by simp, rfl, rfl⟩
  rintro _ s ⟨rfl, rfl⟩
  refine seqK (fun e s' => e = [some (.fn k [0, 6] [.ref m, d]), some (.exc "NoKind" [("value", d)]), none, none] ∧ s' = s) ?_ ?_
  · rw [sIf_ap]
    walk_at "ev"
    refine ⟨_, rfl, _, rfl, ?_⟩
    rw [if_neg (by simp [isNonD])]
    trivial
  rintro _ s ⟨rfl, rfl⟩
  refine seqK (fun e s' => e = [some (.fn k [0, 6] [.ref m, d]), some (.exc "NoKind" [("value", d)]), some (.bl true), none] ∧ s' = s) ?_ ?_
  · walk_at "ev"
    exact ⟨_, rfl, .inl ⟨rfl, _, rfl, _, rfl, rfl⟩⟩
  rintro _ s ⟨rfl, rfl⟩
  walk_at "ev"
  refine ⟨_, rfl, ?_⟩
  simp only [if_true]
  exact ⟨_, rfl, by rw [sizeLine_eq]; decide, rfl⟩
end
end K04
end
section
set_option maxRecDepth 100000
set_option maxHeartbeats 1000000
namespace K04
open PySem L2 Mi
local macro_rules | `(tactic| walk_at "ev") => `(tactic| simp only [mProp_ap, mInX_ap, mLenX_ap, mSubX_ap, mEqX_ap, mNeX_ap, mMethX_ap, mMkP_ap, qF_ap, mLm_ap, mDicR_ap, sPutR_ap, mSplR_ap, sSwp_ap, put1_ap, itE_ap, Wp_ok, Wp_bind, Wp_quiet, WpS_fl, WpS_then, Nx_nx, Nx_rt, Nx_bk, Nx_ct, mVar_ap, mC_ap, mOp_ap, mUn_ap, mB_ap, mTru_ap, mAnd_ap, mOr_ap, mNot_ap,
  bAnd_ap, bOr_ap, bNot_ap, bYes_ap, mIf_ap, mNil_ap, mCons_ap, mTup_ap, mLst_ap, mLstR_ap, mDic0_ap, mCall_ap, mCb_ap, mMb_ap, mStr_ap, mRevT_ap, mPart_ap, mNoPart_ap, mSl_ap, mChain_ap, itL_ap, itT_ap, itS_ap, itR1_ap,
  sNil_ap, sSeq_ap, sIf_ap, sRet_ap, sRetN_ap, sBrk_ap, sCnt_ap, sExp_ap, sAsg_ap, sPar_ap, sPar3_ap, tgN_ap, tgNil_ap, tgCons_ap, sSetIx_ap, sFor_ap, Wp_mLc,
  List.map_cons, List.map_nil, List.cons_append, List.nil_append, List.replicate_succ, List.replicate_zero, List.getElem?_cons_zero, List.getElem?_cons_succ, List.set_cons_zero, List.set_cons_succ, List.length_cons, List.length_nil,
  Option.some.injEq, Option.bind_some, exists_eq_left, exists_eq_left', true_and, and_true, D.bl.injEq, D.int.injEq, D.str.injEq, D.ref.injEq, D.tup.injEq, D.lst.injEq, List.cons.injEq, if_true, if_false, Bool.false_eq_true, reduceCtorEq, false_and, and_false, or_false, false_or, exists_false])
/-! ### parts in lists -/
/-! ### a kind beside its lines -/
abbrev kLn (nm : Str) : Part := ("kind", some nm)
theorem lnamed_ok {s : Sto} {ls : List Part} {w : Str} (hs : ∀ p ∈ ls, LineOk p) (hw : w ∈ w5) (hl : ls.length ≤ 1000) : Wp (F__law_named [.lst (ls.map cD), .str w] s) fun v s' => s' = s ∧ v = .tup ((nmd ls w).map oD) := by
  rw [F__law_named, mFun_ap (n := 2) rfl, b__law_named]
  walk_at "ev"
  have ea : asL s (.lst (ls.map cD)) = some (ls.map cD) := rfl
  have i0 : ∀ p : Part, opIx s (cD p) (.int 0) = some (.str p.1) := fun p => by
    obtain ⟨u, o⟩ := p
    cases o <;> exact ix_tup (i := 0) rfl
  refine ⟨_, ea, ?_⟩
  refine Wp.mono (lc_filt (p := fun d => match d with | .tup (.str u :: _) => u == w | _ => false) (f := fun d => match d with | .tup [_, o] => o | _ => .non) (show stays (.lst (ls.map cD)) (ls.map cD) s from ea) (ls.map cD) [] ?h (by simp; omega)) ?k
  case h =>
    intro d hd
    obtain ⟨p, hp, rfl⟩ := List.mem_map.mp hd
    have pf : (match cD p with | .tup (.str u :: _) => u == w | _ => false) = (p.1 == w) := by
      obtain ⟨u, o⟩ := p
      cases o <;> rfl
    refine ⟨_, rfl, ?_, fun c => ?_⟩
    · walk_at "ev"
      exact ⟨_, rfl, _, i0 p, _, rfl, _, eq_strs, _, rfl, pf.symm⟩
    · rw [pf] at c
      have c : p.1 = w := by simpa using c
      have : ∃ n, p.2 = some n := by
        rcases hs p hp with ⟨_, n, e, _⟩ | ⟨_, n, e, _⟩ | ⟨e1, e2⟩
        · exact ⟨n, e⟩
        · exact ⟨n, e⟩
        · rw [c] at e1
          have : ∀ w ∈ w5, w ∉ marks := by decide +kernel
          exact absurd e1 (this w hw)
      obtain ⟨n, e⟩ := this
      obtain ⟨u, o⟩ := p
      cases e
      walk_at "ev"
      exact ⟨_, rfl, _, ix_tup (i := 1) rfl, rfl⟩
  case k =>
    intro out s1 ⟨e1, e2⟩
    rw [List.nil_append] at e2
    have e3 : out = (nmd ls w).map oD := by
      rw [e2]
      unfold nmd
      clear ea e2 hl
      induction ls with
      | nil => rfl
      | cons p r ih =>
        have ih := ih fun q hq => hs q (List.mem_cons_of_mem _ hq)
        have hp := hs p List.mem_cons_self
        have pf : (match cD p with | .tup (.str u :: _) => u == w | _ => false) = (p.1 == w) := by
          obtain ⟨u, o⟩ := p
          cases o <;> rfl
        rw [List.map_cons]
        by_cases c : p.1 = w
        · rw [List.filter_cons_of_pos (by rw [pf]; simpa using c), List.filter_cons_of_pos (by simpa using c), List.map_cons, List.map_cons, List.map_cons, ih]
          congr 1
          obtain ⟨u, o⟩ := p
          cases o with
          | none =>
            rcases hp with ⟨_, n, e, _⟩ | ⟨_, n, e, _⟩ | ⟨e1, e2⟩
            · cases e
            · cases e
            · rw [c] at e1
              have : ∀ w ∈ w5, w ∉ marks := by decide +kernel
              exact absurd e1 (this w hw)
          | some n => rfl
        · rw [List.filter_cons_of_neg (by rw [pf]; simpa using c), List.filter_cons_of_neg (by simpa using c), ih]
    rw [e3]
    exact ⟨_, rfl, e1, rfl⟩
theorem nmd_kind {ps : List Part} {nm w : Str} (hw : w ∈ w5) : nmd (kLn nm :: ps) w = nmd ps w := by
  have : ¬ ("kind" : Str) = w := fun z => by
    have : ("kind" : Str) ∉ w5 := by decide +kernel
    exact this (by rw [z]; exact hw)
  unfold nmd
  rw [List.filter_cons_of_neg (by simpa using this)]
theorem ne_nmd {s : Sto} {ps : List Part} {nm w : Str} (hs : ∀ p ∈ ps, PartOk p) (hw : w ∈ w5) : opNe s (.tup ((nmd ps w).map oD)) (.tup ((nmd (kLn nm :: ps) w).map oD)) = some (.bl false) := by
  rw [nmd_kind hw]
  obtain ⟨ns, e, a⟩ := nmd_strs (w := w) (fun p hp => .inr (hs p hp)) hw
  rw [e]
  have := ne_tS (s := s) a a
  simpa [tS] using this
theorem sh_bls {s : Sto} (a b c d : Bool) : ∃ x, cbShow s [.lst [.bl a, .bl b, .bl c, .bl d]] = some (.str x) := by
  refine ⟨_, if_pos ⟨?_, ?_, ?_⟩⟩
  · rfl
  · cases a <;> cases b <;> cases c <;> cases d <;> decide +kernel
  · rw [sizeLine_eq]
    cases a <;> cases b <;> cases c <;> cases d <;> decide +kernel
theorem is_kind_ok {s : Sto} {q l : Nat} {nm : Str} {ps : List Part} (h : KindAt s q l ps) (hq : s[q]? = some (.ins true "Kind" (kFs nm l))) (hs : ∀ p ∈ ps, PartOk p) (hn : freeB nm = true) (hl : ps.length ≤ 900) :
    Wp (F__law_is_kind [.ref q, .lst ((kLn nm :: ps).map cD)] s) fun v s' => s' = s ∧ v = .bl true := by
  have ls : ∀ p ∈ (kLn nm :: ps), LineOk p := fun p hp => by
    rcases List.mem_cons.mp hp with rfl | hp
    · exact .inl ⟨rfl, nm, rfl, hn⟩
    · exact .inr (hs p hp)
  have ll : (kLn nm :: ps).length ≤ 1000 := by simp; omega
  obtain ⟨fl, hi, _⟩ := insK h
  rw [F__law_is_kind, mFun_ap (n := 2) rfl, b__law_is_kind]
  simp only [List.map_nil, List.cons_append, List.nil_append, List.replicate_succ, List.replicate_zero]
  rw [show List.map some [D.ref q, .lst ((kLn nm :: ps).map cD)] ++ [none, none] = [some (.ref q), some (.lst ((kLn nm :: ps).map cD)), none, none] from rfl]
  have i0 : opIx s (.lst ((kLn nm :: ps).map cD)) (.int 0) = some (cD (kLn nm)) := ix_lst (i := 0) rfl
  have i1 : opIx s (cD (kLn nm)) (.int 1) = some (.str nm) := ix_tup (i := 1) rfl
  generalize hL : D.lst ((kLn nm :: ps).map cD) = L at i0
  have nok : ∀ w ∈ w5, Wp (F__law_named [L, .str w] s) fun v s' => s' = s ∧ v = .tup ((nmd (kLn nm :: ps) w).map oD) := fun w hw => by rw [← hL]; exact lnamed_ok ls hw ll
  refine seqK (fun e s' => e = [some (.ref q), some L, none, none] ∧ s' = s) ?_ ?_
  · rw [sIf_ap]
    walk_at "ev"
    refine ⟨fl, hi, (kname_ok hq).mono fun v s1 ⟨e1, e2⟩ => ?_⟩
    subst e1; subst e2
    refine ⟨_, i0, _, i1, _, ne_strs, _, rfl, ?_⟩
    rw [if_neg (by simp)]
    refine ⟨fl, hi, (set_fields_ok h).mono fun v s1 ⟨e1, e2⟩ => ?_⟩
    subst e1; subst e2
    refine (nok "set" (by decide)).mono fun v s1 ⟨e1, e2⟩ => ?_
    subst e1; subst e2
    refine ⟨_, ne_nmd hs (by decide), _, rfl, ?_⟩
    simp
  rintro _ s ⟨rfl, rfl⟩
  refine seqK (fun e s' => e = [some (.ref q), some L, none, none] ∧ s' = s) ?_ ?_
  · rw [sIf_ap]
    walk_at "ev"
    refine ⟨fl, hi, (fixed_fields_ok h).mono fun v s1 ⟨e1, e2⟩ => ?_⟩
    subst e1; subst e2
    refine (nok "fixed" (by decide)).mono fun v s1 ⟨e1, e2⟩ => ?_
    subst e1; subst e2
    refine ⟨_, ne_nmd hs (by decide), _, rfl, ?_⟩
    rw [if_neg (by simp)]
    refine ⟨fl, hi, (fresh_answers_ok h).mono fun v s1 ⟨e1, e2⟩ => ?_⟩
    subst e1; subst e2
    refine (nok "fresh" (by decide)).mono fun v s1 ⟨e1, e2⟩ => ?_
    subst e1; subst e2
    refine ⟨_, ne_nmd hs (by decide), _, rfl, ?_⟩
    simp
  rintro _ s ⟨rfl, rfl⟩
  refine seqK (fun e s' => e = [some (.ref q), some L, none, none] ∧ s' = s) ?_ ?_
  · rw [sIf_ap]
    walk_at "ev"
    refine ⟨fl, hi, (free_answers_ok h).mono fun v s1 ⟨e1, e2⟩ => ?_⟩
    subst e1; subst e2
    refine (nok "free" (by decide)).mono fun v s1 ⟨e1, e2⟩ => ?_
    subst e1; subst e2
    refine ⟨_, ne_nmd hs (by decide), _, rfl, ?_⟩
    rw [if_neg (by simp)]
    refine ⟨fl, hi, (unique_fields_ok h).mono fun v s1 ⟨e1, e2⟩ => ?_⟩
    subst e1; subst e2
    refine (nok "unique" (by decide)).mono fun v s1 ⟨e1, e2⟩ => ?_
    subst e1; subst e2
    refine ⟨_, ne_nmd hs (by decide), _, rfl, ?_⟩
    simp
  rintro _ s ⟨rfl, rfl⟩
  have mk : ∀ w : Str, decide (((w, none) : Part) ∈ (kLn nm :: ps)) = decide (((w, none) : Part) ∈ ps) := fun w => by simp
  obtain ⟨z, hz⟩ := sh_bls (s := s) (decide ((("held", none) : Part) ∈ ps)) (decide ((("single", none) : Part) ∈ ps)) (decide ((("token", none) : Part) ∈ ps)) (decide ((("guarded", none) : Part) ∈ ps))
  refine seqK (fun e s' => e = [some (.ref q), some L, some (.str z), none] ∧ s' = s) ?_ ?_
  · walk_at "ev"
    refine ⟨fl, hi, (held_ok h).mono fun v s1 ⟨e1, e2⟩ => ?_⟩
    subst e1; subst e2
    refine ⟨fl, hi, (single_ok h).mono fun v s1 ⟨e1, e2⟩ => ?_⟩
    subst e1; subst e2
    refine ⟨fl, hi, (token_ok h).mono fun v s1 ⟨e1, e2⟩ => ?_⟩
    subst e1; subst e2
    refine ⟨fl, hi, (guarded_ok h).mono fun v s1 ⟨e1, e2⟩ => ?_⟩
    subst e1; subst e2
    exact ⟨by rw [sizeLine_eq]; decide, _, hz, rfl, rfl⟩
  rintro _ s ⟨rfl, rfl⟩
  walk_at "ev"
  refine ⟨by rw [sizeLine_eq]; decide, ?_⟩
  refine Wp.mono (lc_map (f := fun d => match d with | .str w => .bl (decide (((w, none) : Part) ∈ ps)) | d => d) (G := fun _ => True) trivial [.str "held", .str "single", .str "token", .str "guarded"] [] ?h (by simp)) ?k
  case h =>
    intro d hd
    have hd2 : ∃ w ∈ marks, d = .str w := by
      simp only [List.mem_cons, List.not_mem_nil, or_false] at hd
      rcases hd with rfl | rfl | rfl | rfl
      · exact ⟨"held", by decide, rfl⟩
      · exact ⟨"single", by decide, rfl⟩
      · exact ⟨"token", by decide, rfl⟩
      · exact ⟨"guarded", by decide, rfl⟩
    obtain ⟨w, hw, rfl⟩ := hd2
    refine ⟨_, rfl, ?_⟩
    simp only [wipeE]
    walk_at "ev"
    refine ⟨by rw [sizeLine_eq]; decide, ?_⟩
    have := in_cD (s := s) (p := (w, none)) (ls := kLn nm :: ps) (fun y hy => (LineOk.ascs (.inr (.inr ⟨hw, rfl⟩))) y hy) ls
    rw [hL, mk] at this
    exact ⟨_, this, rfl⟩
  case k =>
    rintro out s1 ⟨e1, e2⟩
    subst e1; subst e2
    exact ⟨_, hz, _, eq_strs, by simp⟩
end K04
end
section
set_option maxRecDepth 100000
set_option maxHeartbeats 1000000
namespace K04
open PySem L2 Mi
local macro_rules | `(tactic| walk_at "ev") => `(tactic| simp only [mProp_ap, mInX_ap, mLenX_ap, mSubX_ap, mEqX_ap, mNeX_ap, mMethX_ap, mMkP_ap, qF_ap, mLm_ap, mDicR_ap, sPutR_ap, mSplR_ap, sSwp_ap, put1_ap, itE_ap, Wp_ok, Wp_bind, Wp_quiet, WpS_fl, WpS_then, Nx_nx, Nx_rt, Nx_bk, Nx_ct, mVar_ap, mC_ap, mOp_ap, mUn_ap, mB_ap, mTru_ap, mAnd_ap, mOr_ap, mNot_ap,
  bAnd_ap, bOr_ap, bNot_ap, bYes_ap, mIf_ap, mNil_ap, mCons_ap, mTup_ap, mLst_ap, mLstR_ap, mDic0_ap, mCall_ap, mCb_ap, mMb_ap, mStr_ap, mRevT_ap, mPart_ap, mNoPart_ap, mSl_ap, mChain_ap, itL_ap, itT_ap, itS_ap, itR1_ap,
  sNil_ap, sSeq_ap, sIf_ap, sRet_ap, sRetN_ap, sBrk_ap, sCnt_ap, sExp_ap, sAsg_ap, sPar_ap, sPar3_ap, tgN_ap, tgNil_ap, tgCons_ap, sSetIx_ap, sFor_ap, Wp_mLc,
  List.map_cons, List.map_nil, List.cons_append, List.nil_append, List.replicate_succ, List.replicate_zero, List.getElem?_cons_zero, List.getElem?_cons_succ, List.set_cons_zero, List.set_cons_succ, List.length_cons, List.length_nil,
  Option.some.injEq, Option.bind_some, exists_eq_left, exists_eq_left', true_and, and_true, D.bl.injEq, D.int.injEq, D.str.injEq, D.ref.injEq, D.tup.injEq, D.lst.injEq, List.cons.injEq, if_true, if_false, Bool.false_eq_true, reduceCtorEq, false_and, and_false, or_false, false_or, exists_false])
/-! ### parts in lists -/
/-! ### kinds beside their lines -/
def lines (K : List KP) : List Part := K.flatMap fun k => kLn k.1 :: k.2
theorem lines_cons (k : KP) (r : List KP) : lines (k :: r) = kLn k.1 :: (k.2 ++ lines r) := by simp [lines]
theorem lines_app (a b : List KP) : lines (a ++ b) = lines a ++ lines b := by simp [lines]
/-- a list that stands at L -/
structure LsAt (s : Sto) (L : D) (xs : List D) : Prop where
  asl : asL s L = some xs
  len : cbLen s [L] = some (.int xs.length)
  ix : ∀ (i : Nat) (d : D), xs[i]? = some d → opIx s L (.int (i : Int)) = some d
  sl : ∀ lo hi, slD s L lo hi = some (.lst (cutD xs lo hi))
theorem LsAt.lst {s : Sto} {xs : List D} : LsAt s (.lst xs) xs := ⟨rfl, rfl, fun i d h => ix_lst h, fun _ _ => rfl⟩
theorem LsAt.ref {s : Sto} {n : Nat} {m : Bool} {xs : List D} (h : s[n]? = some (.lst m xs)) : LsAt s (.ref n) xs :=
  ⟨by simp only [asL, h], by simp only [cbLen, asL, h, Option.map_some], fun i d e => ix_ref h e, fun lo hi => by simp only [slD, asL, h, Option.map_some]⟩
abbrev iD (n : Nat) : D := .int (n : Int)
def eG : Nat → List D → List D
  | _, [] => []
  | k, x :: r => .tup [iD k, x] :: eG (k + 1) r
theorem eG_get : ∀ (xs : List D) (k i : Nat), (eG k xs)[i]? = (xs[i]?).map fun x => .tup [iD (k + i), x]
  | [], k, i => by simp [eG]
  | x :: r, k, 0 => by simp [eG]
  | x :: r, k, i + 1 => by
    rw [eG, List.getElem?_cons_succ, List.getElem?_cons_succ, eG_get r (k + 1) i, show k + 1 + i = k + (i + 1) by omega]
theorem enum_all (xs : List D) : enumD xs = eG 0 xs := by
  apply List.ext_getElem?
  intro i
  rw [eG_get]
  unfold enumD
  simp only [List.getElem?_map]
  cases h : xs[i]? with
  | none =>
    have : xs.length ≤ i := List.getElem?_eq_none_iff.mp h
    rw [List.getElem?_eq_none (by simp; omega)]; rfl
  | some x =>
    have hl : i < xs.length := (List.getElem?_eq_some_iff.mp h).1
    have : ((List.range xs.length).zip xs)[i]? = some (i, x) := by
      rw [List.getElem?_zip_eq_some]
      exact ⟨by simp [hl], h⟩
    rw [this]
    simp
def offs : Nat → List KP → List Nat
  | _, [] => []
  | k, x :: r => k :: offs (k + 1 + x.2.length) r
def isK (d : D) : Bool := match d with
  | .tup [_, .tup (.str w :: _)] => w == "kind"
  | _ => false
def fst2 (d : D) : D := match d with
  | .tup [i, _] => i
  | d => d
theorem isK_c (i : D) (p : Part) : isK (.tup [i, cD p]) = (p.1 == "kind") := by
  obtain ⟨u, o⟩ := p
  cases o <;> rfl
theorem part_nk {p : Part} (h : PartOk p) : (p.1 == "kind") = false := by simpa using (word_ok h.word).2.2
theorem filt_parts : ∀ {ps : List Part} {k : Nat} {r : List D}, (∀ p ∈ ps, PartOk p) → (eG k (ps.map cD ++ r)).filter isK = (eG (k + ps.length) r).filter isK
  | [], k, r, _ => rfl
  | p :: ps, k, r, h => by
    rw [List.map_cons, List.cons_append, eG, List.filter_cons_of_neg (by rw [isK_c, part_nk (h p List.mem_cons_self)]; simp), filt_parts fun q hq => h q (List.mem_cons_of_mem _ hq), List.length_cons]
    congr 2; omega
theorem filt_lines : ∀ {K : List KP} {k : Nat}, (∀ x ∈ K, ∀ p ∈ x.2, PartOk p) → ((eG k ((lines K).map cD)).filter isK).map fst2 = (offs k K).map iD
  | [], k, _ => rfl
  | x :: r, k, h => by
    rw [lines_cons, List.map_cons, eG, List.filter_cons_of_pos (by rw [isK_c]; rfl), List.map_cons, List.map_append, filt_parts (h x List.mem_cons_self), filt_lines fun y hy => h y (List.mem_cons_of_mem _ hy)]
    rfl
theorem offs_at : ∀ {K : List KP} {k : Nat} {pre : List Part}, pre.length = k → (∀ i ∈ offs k K, ∃ n, ((pre ++ lines K).map cD)[i]? = some (cD (kLn n))) ∧ (offs k K).map (fun i => (((pre ++ lines K).map cD)[i]?).getD .non) = K.map fun x => cD (kLn x.1)
  | [], k, pre, _ => ⟨by simp [offs], rfl⟩
  | x :: r, k, pre, h => by
    have e : pre ++ lines (x :: r) = (pre ++ (kLn x.1 :: x.2)) ++ lines r := by rw [lines_cons]; simp
    have h0 : ((pre ++ lines (x :: r)).map cD)[k]? = some (cD (kLn x.1)) := by
      rw [lines_cons, List.map_append, List.getElem?_append_right (by simp; omega)]
      simp [h]
    obtain ⟨a, b⟩ := offs_at (K := r) (k := k + 1 + x.2.length) (pre := pre ++ (kLn x.1 :: x.2)) (by simp; omega)
    rw [← e] at a b
    refine ⟨fun i hi => ?_, ?_⟩
    · rcases List.mem_cons.mp hi with rfl | hi
      · exact ⟨_, h0⟩
      · exact a i hi
    · rw [offs, List.map_cons, List.map_cons, b, h0]
      rfl
theorem offs_len : ∀ (K : List KP) (k : Nat), (offs k K).length = K.length
  | [], _ => rfl
  | x :: r, k => by simp [offs, offs_len r]
theorem cut_init (xs : List D) (y : D) : cutD (xs ++ [y]) none (some (-1)) = xs := by
  unfold cutD
  simp only [HT.sIx_none, List.drop_zero, Nat.sub_zero]
  have : HT.sIx (xs ++ [y]).length (xs ++ [y]).length (some (-1)) = xs.length := by
    show (if (-1 : Int) < 0 then ((-1 : Int) + ((xs ++ [y]).length : Int)).toNat else min (-1 : Int).toNat (xs ++ [y]).length) = _
    rw [if_pos (by decide)]
    simp
    omega
  rw [this]
  simp
theorem cut_tail (x : D) (xs : List D) : cutD (x :: xs) (some 1) none = xs := by
  unfold cutD
  have : HT.sIx (x :: xs).length 0 (some ((1 : Nat) : Int)) = 1 := by rw [HT.sIx_nat]; simp
  rw [show (some (1 : Int)) = some ((1 : Nat) : Int) from rfl, this]
  simp [HT.sIx_none]
theorem cut_mid (xs : List D) (a b : Nat) (h : a ≤ xs.length) (k : b ≤ xs.length) : cutD xs (some (a : Int)) (some (b : Int)) = (xs.drop a).take (b - a) := by
  unfold cutD
  rw [HT.sIx_nat, HT.sIx_nat, Nat.min_eq_left h, Nat.min_eq_left k]
def bgs (k : Nat) (K : List KP) : List D := (offs k K).map iD ++ [iD (k + (lines K).length)]
def zp : Nat → List KP → List D
  | _, [] => []
  | k, x :: r => .tup [iD k, iD (k + 1 + x.2.length)] :: zp (k + 1 + x.2.length) r
theorem bgs_cons (k : Nat) (x : KP) (r : List KP) : bgs k (x :: r) = iD k :: bgs (k + 1 + x.2.length) r := by
  unfold bgs
  rw [offs, List.map_cons, List.cons_append, lines_cons]
  congr 4
  simp
  omega
theorem bgs_head (k : Nat) (K : List KP) : ∃ t, bgs k K = iD k :: t := by
  cases K with
  | nil => exact ⟨[], by simp [bgs, offs, lines]⟩
  | cons x r => exact ⟨_, bgs_cons k x r⟩
theorem zip_bgs : ∀ (K : List KP) (k : Nat) (t : List D), bgs k K = iD k :: t → zipD (iD k :: t) t = zp k K
  | [], k, t, h => by
    have : t = [] := by simpa [bgs, offs, lines] using h.symm
    subst this
    rfl
  | x :: r, k, t, h => by
    rw [bgs_cons] at h
    have ht : t = bgs (k + 1 + x.2.length) r := (List.cons.inj h).2.symm
    obtain ⟨u, hu⟩ := bgs_head (k + 1 + x.2.length) r
    have ih := zip_bgs r (k + 1 + x.2.length) u hu
    rw [ht, hu]
    rw [zp, ← ih]
    rfl
def nmsK : List Str := ["net", "box", "a", "lid", "abcdefghijkl", "size", "disk", "zone"]
def things : List D := [.str "c", .str "Net", .str "", .non, .bl true, .int 0, .tup [], .tup [.str "net"], .lst [.str "net"], .dic [], .str "kind", .str "net "]
theorem things_ok {s : Sto} {K : List KP} (hK : ∀ k ∈ K, k.1 ∈ nmsK) : ∀ d ∈ things, NoNm s K d ∧ ∃ x, cbShow s [.lst [d]] = some (.str x) := by
  have nn : ∀ y : Str, y ∉ nmsK → NoNm s K (.str y) := fun y hy => .inl ⟨y, rfl, fun z => by
    obtain ⟨k, hk, rfl⟩ := List.mem_map.mp z
    exact hy (hK k hk)⟩
  have sh : ∀ d x, shD d = some x → (decide (x.showable = true) && decide (x.depth ≤ 60) && decide (x.shown.length ≤ 1000)) = true → ∃ z, cbShow s [d] = some (.str z) := fun d x e h => by
    simp only [Bool.and_eq_true, decide_eq_true_eq] at h
    refine ⟨x.shown, ?_⟩
    simp only [cbShow, e]
    rw [if_pos ⟨h.1.1, h.1.2, by rw [sizeLine_eq]; omega⟩]
  intro d hd
  simp only [things, List.mem_cons, List.not_mem_nil, or_false] at hd
  rcases hd with rfl | rfl | rfl | rfl | rfl | rfl | rfl | rfl | rfl | rfl | rfl | rfl
  · exact ⟨nn _ (by decide +kernel), sh _ _ rfl (by decide +kernel)⟩
  · exact ⟨nn _ (by decide +kernel), sh _ _ rfl (by decide +kernel)⟩
  · exact ⟨nn _ (by decide +kernel), sh _ _ rfl (by decide +kernel)⟩
  · exact ⟨.inr rfl, sh _ _ rfl (by decide +kernel)⟩
  · exact ⟨.inr rfl, sh _ _ rfl (by decide +kernel)⟩
  · exact ⟨.inr rfl, sh _ _ rfl (by decide +kernel)⟩
  · exact ⟨.inr rfl, sh _ _ rfl (by decide +kernel)⟩
  · exact ⟨.inr rfl, sh _ _ rfl (by decide +kernel)⟩
  · exact ⟨.inr rfl, sh _ _ rfl (by decide +kernel)⟩
  · exact ⟨.inr rfl, sh _ _ rfl (by decide +kernel)⟩
  · exact ⟨nn _ (by decide +kernel), sh _ _ rfl (by decide +kernel)⟩
  · exact ⟨nn _ (by decide +kernel), sh _ _ rfl (by decide +kernel)⟩
theorem itZ_lst {fs : AT} {env : Mi.Env} {s : Sto} {Qi : List D × (Sto → Prop) → Sto → Prop} (h : Wp (fs env s) fun ds s1 => ∃ xs ys, ds = [.lst xs, .lst ys] ∧ Qi (zipD xs ys, fun s => asL s (.lst xs) = some xs ∧ asL s (.lst ys) = some ys) s1) : Wp (itZ fs env s) Qi := by
  obtain ⟨ds, s1, e, xs, ys, rfl, q⟩ := h.out
  simp only [itZ, e, bind_ok]
  exact q
abbrev TBL : O := .tbl 0 "_law_is_right" "_law_is_right.<locals>.<lambda>"
theorem is_right_ok {s : Sto} {B m : Nat} {x : Str} {K : List KP} {L : D} (h : KindsAt s B m x K) (hL : LsAt s L ((lines K).map cD)) (h0 : s[0]? = some TBL) (hK : ∀ k ∈ K, k.1 ∈ nmsK) (hl : (lines K).length ≤ 800) (hp : ∀ k ∈ K, k.2.length ≤ 800) :
    Wp (F__law_is_right [.ref m, L] s) fun v s' => s' = s ∧ v = .bl true := by
  obtain ⟨_, _, fl, _, _, _, _, hi⟩ := h.fld
  have lok : ∀ p ∈ lines K, LineOk p := fun p hp => by
    obtain ⟨k, hk, hp⟩ := List.mem_flatMap.mp hp
    rcases List.mem_cons.mp hp with rfl | hp
    · exact .inl ⟨rfl, k.1, rfl, h.ok.fr k hk⟩
    · exact .inr (h.ok.ps k hk p hp)
  have i0 : ∀ (s : Sto) (p : Part), opIx s (cD p) (.int 0) = some (.str p.1) := fun s p => by
    obtain ⟨u, o⟩ := p
    cases o <;> exact ix_tup (i := 0) rfl
  have kl : K.length ≤ 800 := by
    have : ∀ K : List KP, K.length ≤ (lines K).length := by
      intro K
      induction K with
      | nil => simp
      | cons x r ih => rw [lines_cons]; simp; omega
    have := this K
    omega
  rw [F__law_is_right, mFun_ap (n := 2) rfl, b__law_is_right]
  simp only [List.map_cons, List.map_nil, List.cons_append, List.nil_append, List.replicate_succ, List.replicate_zero]
  refine seqK (fun e s' => e = [some (.ref m), some L, some (.lst (bgs 0 K)), none, none, none, none, none, none] ∧ s' = s) ?_ ?_
  · walk_at "ev"
    refine ⟨_, _, rfl, hL.asl, ?_⟩
    rw [enum_all]
    refine Wp.mono (lc_filt (p := isK) (f := fst2) (show stays L ((lines K).map cD) s from hL.asl) (eG 0 ((lines K).map cD)) [] ?h1 ?hl1) ?k1
    case hl1 =>
      have : ∀ (xs : List D) (k : Nat), (eG k xs).length = xs.length := by
        intro xs
        induction xs with
        | nil => intro k; rfl
        | cons a r ih => intro k; simp [eG, ih]
      rw [this]; simp; omega
    case h1 =>
      intro d hd
      obtain ⟨i, hi⟩ := List.getElem?_of_mem hd
      rw [eG_get, List.getElem?_map] at hi
      cases hp : (lines K)[i]? with
      | none => rw [hp] at hi; cases hi
      | some p =>
        rw [hp] at hi
        simp only [Option.map_some, Option.some.injEq] at hi
        subst hi
        refine ⟨_, rfl, ?_, fun _ => ?_⟩
        · simp only [wipeE]
          walk_at "ev"
          exact ⟨_, i0 _ p, _, eq_strs, _, rfl, (isK_c _ p).symm⟩
        · simp only [wipeE]
          walk_at "ev"
          rfl
    case k1 =>
      rintro out s1 ⟨e1, e2⟩
      subst e1
      rw [List.nil_append, filt_lines h.ok.ps] at e2
      subst e2
      refine ⟨_, hL.len, by rw [sizeLine_eq]; decide, _, add_lst (by rw [sizeLine_eq]; simp [offs_len]; omega), ?_⟩
      simp [bgs]
  rintro _ s ⟨rfl, rfl⟩
  obtain ⟨oa, ob⟩ := offs_at (K := K) (k := 0) (pre := []) rfl
  rw [List.nil_append] at oa ob
  refine seqK (fun e s' => e = [some (.ref m), some L, some (.lst (bgs 0 K)), some (.lst (K.map fun x => cD (kLn x.1))), none, none, none, none, none] ∧ s' = s) ?_ ?_
  · walk_at "ev"
    refine ⟨_, rfl, _, rfl, _, rfl, _, rfl, ?_⟩
    rw [show bgs 0 K = (offs 0 K).map iD ++ [iD (0 + (lines K).length)] from rfl, cut_init]
    refine Wp.mono (lc_map (f := fun d => match d with | .int i => (((lines K).map cD)[i.toNat]?).getD .non | d => d) ?g2 ((offs 0 K).map iD) [] ?h2 (by simp [offs_len]; omega)) ?k2
    case g2 =>
      show asL s (.lst (cutD ((offs 0 K).map iD ++ [iD (0 + (lines K).length)]) none (some (-1)))) = some ((offs 0 K).map iD)
      rw [cut_init]; rfl
    case h2 =>
      intro d hd
      obtain ⟨i, hi, rfl⟩ := List.mem_map.mp hd
      obtain ⟨n, hn⟩ := oa i hi
      refine ⟨_, rfl, ?_⟩
      simp only [wipeE]
      walk_at "ev"
      refine ⟨_, hL.ix i _ hn, ?_⟩
      show cD (kLn n) = (((lines K).map cD)[((i : Nat) : Int).toNat]?).getD .non
      rw [Int.toNat_natCast, hn]
      rfl
    case k2 =>
      rintro out s1 ⟨e1, e2⟩
      subst e1
      rw [List.nil_append, List.map_map] at e2
      have e3 : out = K.map fun x => cD (kLn x.1) := by
        rw [e2, ← ob]
        apply List.map_congr_left
        intro i _
        show (((lines K).map cD)[((i : Nat) : Int).toNat]?).getD .non = _
        rw [Int.toNat_natCast]
      rw [e3]
      trivial
  rintro _ s ⟨rfl, rfl⟩
  have ascn : ∀ n ∈ K.map (·.1), asc n := fun n hn => by
    obtain ⟨k, hk, rfl⟩ := List.mem_map.mp hn
    exact free_asc (h.ok.fr k hk)
  refine seqK (fun e s' => e = [some (.ref m), some L, some (.lst (bgs 0 K)), some (.lst (K.map fun x => cD (kLn x.1))), none, none, none, none, none] ∧ s' = s) ?_ ?_
  · rw [sIf_ap]
    walk_at "ev"
    refine ⟨fl, hi, (knames_ok h).mono fun v s1 ⟨e1, e2⟩ => ?_⟩
    subst e1; subst e2
    refine ⟨_, rfl, ?_⟩
    refine Wp.mono (lc_map (f := fun d => match d with | .tup [_, y] => y | d => d) (show stays (.lst (K.map fun x => cD (kLn x.1))) (K.map fun x => cD (kLn x.1)) s1 from rfl) (K.map fun x => cD (kLn x.1)) [] ?h3 (by simp; omega)) ?k3
    case h3 =>
      intro d hd
      obtain ⟨k, hk, rfl⟩ := List.mem_map.mp hd
      refine ⟨_, rfl, ?_⟩
      simp only [wipeE]
      walk_at "ev"
      exact ⟨_, ix_tup (i := 1) rfl, rfl⟩
    case k3 =>
      rintro out s2 ⟨e1, e2⟩
      subst e1
      rw [List.nil_append, List.map_map] at e2
      have e3 : out = (K.map (·.1)).map .str := by rw [e2, List.map_map]; rfl
      rw [e3]
      have nt := ne_tS (s := s2) ascn ascn
      refine ⟨_, rfl, _, nt, _, rfl, ?_⟩
      rw [if_neg (by simp)]
      refine ⟨fl, hi, (klen_ok h).mono fun v s3 ⟨e1, e2⟩ => ?_⟩
      subst e1; subst e2
      refine ⟨_, rfl, ⟨by omega, by omega⟩, _, rfl, _, ne_int, _, rfl, ?_⟩
      simp
  rintro _ s ⟨rfl, rfl⟩
  refine seqK (fun e s' => (∃ a b c, e = [some (.ref m), some L, some (.lst (bgs 0 K)), some (.lst (K.map fun x => cD (kLn x.1))), a, b, none, c, none]) ∧ s' = s) ?_ ?_
  · rw [sFor_ap]
    refine itZ_lst ?_
    walk_at "ev"
    obtain ⟨tl, htl⟩ := bgs_head 0 K
    refine ⟨_, rfl, _, _, ⟨rfl, rfl⟩, ?_⟩
    rw [htl, cut_tail, zip_bgs K 0 tl htl]
    refine WpS_forGo (fun r e s' => (∃ a b c, e = [some (.ref m), some L, some (.lst (iD 0 :: tl)), some (.lst (K.map fun x => cD (kLn x.1))), a, b, none, c, none]) ∧ s' = s ∧ ∃ pre K' k, r = zp k K' ∧ lines K = pre ++ lines K' ∧ pre.length = k ∧ ∀ y ∈ K', y ∈ K) (fun _ _ _ _ => ⟨rfl, rfl⟩) ?step ?fin _ _ _
      ⟨⟨_, _, _, rfl⟩, rfl, [], K, 0, rfl, rfl, rfl, fun _ h => h⟩
    case fin =>
      rintro _ s1 ⟨⟨a, b, c, rfl⟩, rfl, _⟩
      exact ⟨⟨_, _, _, rfl⟩, rfl⟩
    case step =>
      rintro d r _ s1 ⟨⟨a, b, c, rfl⟩, rfl, pre, K', k, er, ln, pk, sub⟩
      cases K' with
      | nil => cases er
      | cons y K' =>
        cases er
        have hy := sub y List.mem_cons_self
        refine ⟨_, rfl, ?_⟩
        have tot : (lines K).length = k + 1 + y.2.length + (lines K').length := by rw [ln, lines_cons]; simp; omega
        have atk : ((lines K).map cD)[k]? = some (cD (kLn y.1)) := by
          rw [ln, lines_cons, List.map_append, List.getElem?_append_right (by simp; omega)]
          simp [pk]
        have sl : cutD ((lines K).map cD) (some (k : Int)) (some ((k + 1 + y.2.length : Nat) : Int)) = (kLn y.1 :: y.2).map cD := by
          rw [cut_mid _ _ _ (by simp; omega) (by simp; omega), ln, lines_cons, List.map_append, List.drop_append_of_le_length (by simp; omega), List.drop_of_length_le (by simp; omega), List.nil_append]
          rw [show k + 1 + y.2.length - k = ((kLn y.1 :: y.2).map cD).length by simp; omega, ← List.cons_append, List.map_append]
          exact List.take_left
        refine seqK (fun e s' => e = [some (.ref m), some L, some (.lst (iD 0 :: tl)), some (.lst (K.map fun x => cD (kLn x.1))), some (iD k), some (iD (k + 1 + y.2.length)), none, some (.str y.1), none] ∧ s' = s1) ?_ ?_
        · walk_at "ev"
          exact ⟨_, hL.ix k _ atk, _, ix_tup (i := 1) rfl, rfl⟩
        rintro _ s2 ⟨rfl, rfl⟩
        rw [sIf_ap]
        walk_at "ev"
        refine ⟨fl, hi, (khas_str h).mono fun v s3 ⟨e1, e2⟩ => ?_⟩
        subst e1; subst e2
        rw [decide_eq_true (List.mem_map_of_mem hy)]
        refine ⟨_, rfl, ?_⟩
        rw [if_neg (by decide)]
        refine ⟨fl, hi, (kget_ok h hy (by have := hp y hy; omega)).mono fun v s4 ⟨e1, q, l, e2, hq, hk⟩ => ?_⟩
        subst e1; subst e2
        refine ⟨_, hL.sl _ _, ?_⟩
        rw [sl]
        refine (is_kind_ok hk hq (h.ok.ps y hy) (h.ok.fr y hy) (by have := hp y hy; omega)).mono fun v s5 ⟨e1, e2⟩ => ?_
        subst e1; subst e2
        refine ⟨_, rfl, ?_⟩
        simp only [Bool.not_true, Bool.false_eq_true, if_false]
        refine ⟨⟨_, _, _, rfl, rfl, rfl⟩, trivial, pre ++ (kLn y.1 :: y.2), K', _, rfl, by rw [ln, lines_cons]; simp, by simp; omega, fun z hz => sub z (List.mem_cons_of_mem _ hz)⟩
  rintro _ s ⟨⟨a, b, c, rfl⟩, rfl⟩
  refine seqK (fun e s' => s' = s) ?_ ?_
  · rw [sFor_ap]
    walk_at "ev"
    refine ⟨by rw [sizeLine_eq]; decide, by rw [sizeLine_eq]; decide, by rw [sizeLine_eq]; decide, by rw [sizeLine_eq]; decide, _, rfl, ?_⟩
    refine WpS_forGo (fun r e s' => (∃ a6, e = [some (.ref m), some L, some (.lst (bgs 0 K)), some (.lst (K.map fun x => cD (kLn x.1))), a, b, a6, c, none]) ∧ s' = s ∧ ∀ d ∈ r, d ∈ things) (fun _ _ _ _ => rfl) ?step2 ?fin2 _ _ _
      ⟨⟨_, rfl⟩, rfl, fun d hd => hd⟩
    case fin2 =>
      rintro _ s1 ⟨_, rfl, _⟩
      rfl
    case step2 =>
      rintro d r _ s1 ⟨⟨a6, rfl⟩, rfl, sub⟩
      obtain ⟨nn, z, hz⟩ := things_ok (s := s1) hK d (sub d List.mem_cons_self)
      refine ⟨_, rfl, ?_⟩
      rw [sIf_ap]
      walk_at "ev"
      refine ⟨fl, hi, (khas_no h nn).mono fun v s3 ⟨e1, e2⟩ => ?_⟩
      subst e1; subst e2
      refine ⟨_, rfl, ?_⟩
      rw [if_neg (by decide)]
      refine mLam_ok h0 rfl rfl (fun k hk => unknown_ok h nn hk) ?_
      refine ⟨_, hz, by rw [sizeLine_eq]; decide, _, hz, _, ne_strs, _, rfl, ?_⟩
      rw [if_neg (by simp)]
      exact ⟨⟨_, rfl⟩, rfl, fun d hd => sub d (List.mem_cons_of_mem _ hd)⟩
  rintro e s rfl
  walk_at "ev"
end K04
end
section
set_option maxRecDepth 100000
set_option maxHeartbeats 1000000
namespace K04
open PySem L2 Mi
local macro_rules | `(tactic| walk_at "ev") => `(tactic| simp only [mProp_ap, mInX_ap, mLenX_ap, mSubX_ap, mEqX_ap, mNeX_ap, mMethX_ap, mMkP_ap, qF_ap, mLm_ap, mDicR_ap, sPutR_ap, mSplR_ap, sSwp_ap, put1_ap, itE_ap, Wp_ok, Wp_bind, Wp_quiet, WpS_fl, WpS_then, Nx_nx, Nx_rt, Nx_bk, Nx_ct, mVar_ap, mC_ap, mOp_ap, mUn_ap, mB_ap, mTru_ap, mAnd_ap, mOr_ap, mNot_ap,
  bAnd_ap, bOr_ap, bNot_ap, bYes_ap, mIf_ap, mNil_ap, mCons_ap, mTup_ap, mLst_ap, mLstR_ap, mDic0_ap, mCall_ap, mCb_ap, mMb_ap, mStr_ap, mRevT_ap, mPart_ap, mNoPart_ap, mSl_ap, mChain_ap, itL_ap, itT_ap, itS_ap, itR1_ap,
  sNil_ap, sSeq_ap, sIf_ap, sRet_ap, sRetN_ap, sBrk_ap, sCnt_ap, sExp_ap, sAsg_ap, sPar_ap, sPar3_ap, tgN_ap, tgNil_ap, tgCons_ap, sSetIx_ap, sFor_ap, Wp_mLc,
  List.map_cons, List.map_nil, List.cons_append, List.nil_append, List.replicate_succ, List.replicate_zero, List.getElem?_cons_zero, List.getElem?_cons_succ, List.set_cons_zero, List.set_cons_succ, List.length_cons, List.length_nil,
  Option.some.injEq, Option.bind_some, exists_eq_left, exists_eq_left', true_and, and_true, D.bl.injEq, D.int.injEq, D.str.injEq, D.ref.injEq, D.tup.injEq, D.lst.injEq, List.cons.injEq, if_true, if_false, Bool.false_eq_true, reduceCtorEq, false_and, and_false, or_false, false_or, exists_false])
/-! ### parts in lists -/
/-! ### right parts, one behind the other -/
def TA : List Part → List Part → Prop
  | _, [] => True
  | pre, p :: r => takesB pre p = true ∧ TA (pre ++ [p]) r
def nF (ps : List Part) : Nat := (ps.filter fun p => decide (p.1 ∈ flds)).length
def nA (ps : List Part) : Nat := (ps.filter fun p => decide (p.1 ∈ anss)).length
theorem nF_app (a b : List Part) : nF (a ++ b) = nF a + nF b := by simp [nF]
theorem nA_app (a b : List Part) : nA (a ++ b) = nA a + nA b := by simp [nA]
theorem allNm_app (a b : List Part) : allNm (a ++ b) = allNm a ++ allNm b := by simp [allNm]
theorem mem_allNm {p : Part} {ps : List Part} (h : p ∈ ps) (w : p.1 ∈ flds ++ anss) : p.2 ∈ allNm ps := List.mem_map_of_mem (List.mem_filter.mpr ⟨h, by simpa using w⟩)
theorem takes_iff {ps : List Part} {p : Part} : takesB ps p = true ↔ p ∉ ps ∧ (p.1 = "unique" → ((("set" : Str), p.2) : Part) ∈ ps ∨ ((("fixed" : Str), p.2) : Part) ∈ ps) ∧ (p.1 ∈ flds ++ anss → p.2 ∉ allNm ps ∧ room ps p.1 = true) := by
  unfold takesB
  simp only [Bool.and_eq_true, Bool.not_eq_true', decide_eq_false_iff_not, Bool.and_eq_false_iff, Bool.or_eq_false_iff, Bool.not_eq_false', decide_eq_true_eq]
  constructor
  · rintro ⟨⟨h1, h2⟩, h3⟩
    refine ⟨h1, fun e => ?_, fun e => ?_⟩
    · rcases h2 with h2 | h2 | h2
      · exact absurd e h2
      · exact .inl h2
      · exact .inr h2
    · rcases h3 with h3 | h3
      · exact absurd e h3
      · exact h3
  · rintro ⟨h1, h2, h3⟩
    refine ⟨⟨h1, ?_⟩, ?_⟩
    · by_cases e : p.1 = "unique"
      · rcases h2 e with z | z
        · exact .inr (.inl z)
        · exact .inr (.inr z)
      · exact .inl e
    · by_cases e : p.1 ∈ flds ++ anss
      · exact .inr (h3 e)
      · exact .inl e
theorem TA.snoc : ∀ {ps pre : List Part} {p : Part}, TA pre ps → takesB (pre ++ ps) p = true → TA pre (ps ++ [p])
  | [], pre, p, _, h => ⟨by rwa [List.append_nil] at h, trivial⟩
  | q :: r, pre, p, ⟨h1, h2⟩, h => ⟨h1, TA.snoc h2 (by rw [List.append_assoc]; exact h)⟩
theorem room_f {ps : List Part} {w : Str} (h : w ∈ flds) : room ps w = decide (nF ps < 6) := if_pos h
theorem room_a {ps : List Part} {w : Str} (h : w ∉ flds) : room ps w = decide (nA ps < 2) := if_neg h
theorem anss_nf : ∀ w ∈ anss, w ∉ flds := by decide +kernel
theorem marks_n : ∀ w ∈ marks, w ∉ flds ++ anss ∧ w ∉ anss ∧ w ∉ flds ∧ w ≠ "unique" := by decide +kernel
theorem anss_nu : ∀ w ∈ anss, w ≠ "unique" ∧ w ∈ flds ++ anss := by decide +kernel
theorem flds_nu : ∀ w ∈ flds, w ≠ "unique" ∧ w ∈ flds ++ anss ∧ w ∉ anss := by decide +kernel
/-- an answer or a mark that may be put anywhere -/
structure New (ps : List Part) (x : Part) : Prop where
  out : x ∉ ps
  w : x.1 ∈ anss ∨ x.1 ∈ marks
  an : x.1 ∈ anss → x.2 ∉ allNm ps ∧ nA ps + 1 ≤ 2
theorem New.nf {ps : List Part} {x : Part} (h : New ps x) : x.1 ∉ flds := by
  rcases h.w with z | z
  · exact anss_nf _ z
  · exact (marks_n _ z).2.2.1
theorem New.takes {a b : List Part} {x : Part} (h : New (a ++ b) x) : takesB a x = true := by
  refine takes_iff.mpr ⟨fun z => h.out (List.mem_append_left _ z), fun e => ?_, fun e => ?_⟩
  · rcases h.w with z | z
    · exact absurd e (anss_nu _ z).1
    · exact absurd e (marks_n _ z).2.2.2
  · rcases h.w with z | z
    · obtain ⟨h1, h2⟩ := h.an z
      rw [allNm_app] at h1
      rw [nA_app] at h2
      refine ⟨fun y => h1 (List.mem_append_left _ y), ?_⟩
      rw [room_a (anss_nf _ z)]
      exact decide_eq_true (by omega)
    · exact absurd e (marks_n _ z).1
theorem takes_more {u v r : List Part} {x p : Part} (h : New (u ++ v ++ p :: r) x) (t : takesB (u ++ v) p = true) : takesB (u ++ x :: v) p = true := by
  obtain ⟨t1, t2, t3⟩ := takes_iff.mp t
  have mem : ∀ {y : Part}, y ∈ u ++ v → y ∈ u ++ x :: v := fun {y} hy => by
    rcases List.mem_append.mp hy with hy | hy
    · exact List.mem_append_left _ hy
    · exact List.mem_append_right _ (List.mem_cons_of_mem _ hy)
  have px : p ≠ x := fun z => h.out (by rw [← z]; simp)
  refine takes_iff.mpr ⟨fun z => ?_, fun e => (t2 e).imp mem mem, fun e => ?_⟩
  · rcases List.mem_append.mp z with z | z
    · exact t1 (List.mem_append_left _ z)
    · rcases List.mem_cons.mp z with z | z
      · exact px z
      · exact t1 (List.mem_append_right _ z)
  · obtain ⟨h1, h2⟩ := t3 e
    have hx : x.1 ∈ anss → p.2 ≠ x.2 := fun a z => (h.an a).1 (by rw [← z]; exact mem_allNm (by simp) e)
    refine ⟨fun z => ?_, ?_⟩
    · rw [allNm_app] at z h1
      rcases List.mem_append.mp z with z | z
      · exact h1 (List.mem_append_left _ z)
      · unfold allNm at z
        rw [List.filter_cons] at z
        split at z
        · rename_i c
          rcases List.mem_cons.mp z with z | z
          · have c : x.1 ∈ flds ++ anss := by simpa using c
            rcases h.w with y | y
            · exact hx y z
            · exact absurd c (marks_n _ y).1
          · exact h1 (List.mem_append_right _ z)
        · exact h1 (List.mem_append_right _ z)
    · by_cases f : p.1 ∈ flds
      · rw [room_f f] at h2 ⊢
        have h2 : nF (u ++ v) < 6 := by simpa using h2
        refine decide_eq_true ?_
        rw [nF_app] at h2 ⊢
        have : nF (x :: v) = nF v := by unfold nF; rw [List.filter_cons_of_neg (by simpa using h.nf)]
        omega
      · rw [room_a f] at h2 ⊢
        have h2 : nA (u ++ v) < 2 := by simpa using h2
        refine decide_eq_true ?_
        rw [nA_app] at h2 ⊢
        have pa : p.1 ∈ anss := (List.mem_append.mp e).resolve_left f
        rcases h.w with y | y
        · have h3 := (h.an y).2
          rw [nA_app, nA_app] at h3
          have e1 : nA (p :: r) = nA r + 1 := by unfold nA; rw [List.filter_cons_of_pos (by simpa using pa)]; simp
          have e2 : nA (x :: v) = nA v + 1 := by unfold nA; rw [List.filter_cons_of_pos (by simpa using y)]; simp
          omega
        · have e2 : nA (x :: v) = nA v := by unfold nA; rw [List.filter_cons_of_neg (by simpa using (marks_n _ y).2.1)]
          omega
theorem TA.wider : ∀ {b u v : List Part} {x : Part}, TA (u ++ v) b → New (u ++ v ++ b) x → TA (u ++ x :: v) b
  | [], _, _, _, _, _ => trivial
  | p :: r, u, v, x, ⟨h1, h2⟩, n => by
    refine ⟨takes_more n h1, ?_⟩
    have e : u ++ (v ++ [p]) ++ r = u ++ v ++ p :: r := by simp
    have n2 : New (u ++ (v ++ [p]) ++ r) x := by rw [e]; exact n
    have := TA.wider (b := r) (u := u) (v := v ++ [p]) (x := x) (by rw [← List.append_assoc]; exact h2) n2
    rw [show u ++ x :: v ++ [p] = u ++ x :: (v ++ [p]) by simp]
    exact this
theorem TA.put : ∀ {a b pre : List Part} {x : Part}, TA pre (a ++ b) → New (pre ++ (a ++ b)) x → TA pre (a ++ x :: b)
  | [], b, pre, x, h, n => by
    refine ⟨New.takes (b := b) n, ?_⟩
    have := TA.wider (b := b) (u := pre) (v := []) (x := x) (by rw [List.append_nil]; exact h) (by rw [List.append_nil]; exact n)
    exact this
  | p :: a, b, pre, x, ⟨h1, h2⟩, n => by
    have e : pre ++ [p] ++ (a ++ b) = pre ++ (p :: a ++ b) := by simp
    have n2 : New (pre ++ [p] ++ (a ++ b)) x := by rw [e]; exact n
    exact ⟨h1, TA.put h2 n2⟩
/-! ### what is put in -/
structure Ins (ps rs : List Part) : Prop where
  ta : TA [] ps
  ok : ∀ p ∈ ps, PartOk p
  ro : ∀ x ∈ rs, PartOk x ∧ (x.1 ∈ anss ∨ x.1 ∈ marks)
  nd : rs.Nodup
  out : ∀ x ∈ rs, x ∉ ps
  an : ∀ x ∈ rs, x.1 ∈ anss → x.2 ∉ allNm ps
  nn : (allNm rs).Nodup
  cnt : nA ps + nA rs ≤ 2
theorem nA_cons (x : Part) (r : List Part) : nA r ≤ nA (x :: r) := by
  unfold nA
  rw [List.filter_cons]
  split <;> simp
theorem nA_ans {x : Part} {r : List Part} (h : x.1 ∈ anss) : nA (x :: r) = nA r + 1 := by unfold nA; rw [List.filter_cons_of_pos (by simpa using h)]; simp
theorem nA_mark {x : Part} {r : List Part} (h : x.1 ∈ marks) : nA (x :: r) = nA r := by unfold nA; rw [List.filter_cons_of_neg (by simpa using (marks_n _ h).2.1)]
theorem allNm_ans {x : Part} {r : List Part} (h : x.1 ∈ anss) : allNm (x :: r) = x.2 :: allNm r := by unfold allNm; rw [List.filter_cons_of_pos (by simpa using (anss_nu _ h).2)]; rfl
theorem allNm_mark {x : Part} {r : List Part} (h : x.1 ∈ marks) : allNm (x :: r) = allNm r := by unfold allNm; rw [List.filter_cons_of_neg (by simpa using (marks_n _ h).1)]
theorem Ins.skip {ps r : List Part} {x : Part} (h : Ins ps (x :: r)) : Ins ps r := by
  refine ⟨h.ta, h.ok, fun y hy => h.ro y (List.mem_cons_of_mem _ hy), (List.nodup_cons.mp h.nd).2, fun y hy => h.out y (List.mem_cons_of_mem _ hy), fun y hy => h.an y (List.mem_cons_of_mem _ hy), ?_, ?_⟩
  · have := h.nn
    rcases (h.ro x List.mem_cons_self).2 with z | z
    · rw [allNm_ans z] at this; exact (List.nodup_cons.mp this).2
    · rw [allNm_mark z] at this; exact this
  · have := nA_cons x r
    have := h.cnt
    omega
theorem Ins.put {a b r : List Part} {x : Part} (h : Ins (a ++ b) (x :: r)) : Ins (a ++ x :: b) r := by
  have hx := h.ro x List.mem_cons_self
  have nw : New (a ++ b) x := by
    refine ⟨h.out x List.mem_cons_self, hx.2, fun z => ⟨h.an x List.mem_cons_self z, ?_⟩⟩
    have := h.cnt
    rw [nA_ans z] at this
    omega
  have s := h.skip
  have memx : ∀ {y : Part}, y ∈ a ++ x :: b → y = x ∨ y ∈ a ++ b := fun {y} hy => by
    rcases List.mem_append.mp hy with hy | hy
    · exact .inr (List.mem_append_left _ hy)
    · rcases List.mem_cons.mp hy with hy | hy
      · exact .inl hy
      · exact .inr (List.mem_append_right _ hy)
  refine ⟨TA.put h.ta nw, fun p hp => ?_, s.ro, s.nd, fun y hy z => ?_, fun y hy w z => ?_, s.nn, ?_⟩
  · rcases memx hp with rfl | hp
    · exact hx.1
    · exact h.ok p hp
  · rcases memx z with rfl | z
    · exact (List.nodup_cons.mp h.nd).1 hy
    · exact s.out y hy z
  · have o := s.an y hy w
    rw [allNm_app] at z o
    rcases List.mem_append.mp z with z | z
    · exact o (List.mem_append_left _ z)
    · rcases hx.2 with v | v
      · rw [allNm_ans v] at z
        rcases List.mem_cons.mp z with z | z
        · have := h.nn
          rw [allNm_ans v] at this
          exact (List.nodup_cons.mp this).1 (by rw [← z]; exact mem_allNm hy (anss_nu _ w).2)
        · exact o (List.mem_append_right _ z)
      · rw [allNm_mark v] at z
        exact o (List.mem_append_right _ z)
  · have c := h.cnt
    rw [nA_app] at c ⊢
    rcases hx.2 with v | v
    · rw [nA_ans v] at c ⊢; omega
    · rw [nA_mark v] at c ⊢; omega
/-! ### the fields -/
structure P1 (ys gs : List Str) (ps : List Part) : Prop where
  ta : TA [] ps
  ok : ∀ p ∈ ps, PartOk p
  nd : ys.Nodup
  fr : ∀ y ∈ ys, freeB y = true
  new : ∀ y ∈ ys, some y ∉ allNm ps
  has : ∀ g ∈ gs, (((("set" : Str), some g) : Part) ∈ ps ∨ ((("fixed" : Str), some g) : Part) ∈ ps) ∧ freeB g = true
  nF : nF ps = gs.length
  wd : ∀ p ∈ ps, p.1 ∉ anss ∧ p.1 ∉ marks
theorem P1.nA0 {ys gs : List Str} {ps : List Part} (h : P1 ys gs ps) : nA ps = 0 := by
  unfold nA
  rw [List.length_eq_zero_iff, List.filter_eq_nil_iff]
  exact fun p hp => by simpa using (h.wd p hp).1
theorem P1.pop {ys gs : List Str} {ps : List Part} {i : Nat} {y : Str} (h : P1 ys gs ps) (e : ys[i]? = some y) : P1 (ys.eraseIdx i) gs ps ∧ y ∉ ys.eraseIdx i ∧ some y ∉ allNm ps ∧ freeB y = true := by
  have my := List.mem_of_getElem? e
  refine ⟨⟨h.ta, h.ok, h.nd.sublist (List.eraseIdx_sublist _ _), fun z hz => h.fr z (List.mem_of_mem_eraseIdx hz), fun z hz => h.new z (List.mem_of_mem_eraseIdx hz), h.has, h.nF, h.wd⟩, ?_, h.new y my, h.fr y my⟩
  intro z
  obtain ⟨j, hj⟩ := List.mem_eraseIdx_iff_getElem?.mp z
  have l1 := (List.getElem?_eq_some_iff.mp e).1
  exact hj.1 ((List.getElem?_inj l1 h.nd).mp (e.trans hj.2.symm)).symm
theorem P1.field {ys gs : List Str} {ps : List Part} {y w : Str} (h : P1 ys gs ps) (hy : y ∉ ys) (hn : some y ∉ allNm ps) (hf : freeB y = true) (hw : w ∈ flds) (l : gs.length < 6) : P1 ys (gs ++ [y]) (ps ++ [(w, some y)]) := by
  have fw := flds_nu w hw
  have w55 : ∀ w ∈ flds, w ∈ w5 := by decide +kernel
  have pk : PartOk (w, some y) := .inl ⟨w55 w hw, y, rfl, hf⟩
  have an : allNm (ps ++ [(w, some y)]) = allNm ps ++ [some y] := by
    rw [allNm_app]
    congr 1
    unfold allNm
    rw [List.filter_cons_of_pos (by simpa using fw.2.1)]; rfl
  refine ⟨TA.snoc h.ta (takes_iff.mpr ⟨fun z => hn (mem_allNm z fw.2.1), fun e => absurd e fw.1, fun _ => ⟨hn, ?_⟩⟩), fun p hp => ?_, h.nd, h.fr, fun z hz => ?_, fun g hg => ?_, ?_, fun p hp => ?_⟩
  · rw [room_f hw]
    exact decide_eq_true (by rw [List.nil_append, h.nF]; exact l)
  · rcases List.mem_append.mp hp with hp | hp
    · exact h.ok p hp
    · rw [List.mem_singleton.mp hp]; exact pk
  · rw [an]
    intro c
    rcases List.mem_append.mp c with c | c
    · exact h.new z hz c
    · have : z = y := by simpa using c
      exact hy (by rw [← this]; exact hz)
  · rcases List.mem_append.mp hg with hg | hg
    · exact ⟨(h.has g hg).1.imp (List.mem_append_left _) (List.mem_append_left _), (h.has g hg).2⟩
    · have : g = y := by simpa using hg
      subst this
      refine ⟨?_, hf⟩
      have : w = "set" ∨ w = "fixed" := by simpa [flds] using hw
      rcases this with rfl | rfl
      · exact .inl (by simp)
      · exact .inr (by simp)
  · rw [nF_app, h.nF]
    have : K04.nF [(w, some y)] = 1 := by unfold K04.nF; rw [List.filter_cons_of_pos (by simpa using hw)]; rfl
    rw [this]; simp
  · rcases List.mem_append.mp hp with hp | hp
    · exact h.wd p hp
    · rw [List.mem_singleton.mp hp]
      have : ∀ w ∈ flds, w ∉ anss ∧ w ∉ marks := by decide +kernel
      exact this w hw
abbrev uLn (g : Str) : Part := ("unique", some g)
theorem P1.uniq {ys gs : List Str} {ps : List Part} {g : Str} (h : P1 ys gs ps) (hg : g ∈ gs) (hu : ((("unique" : Str), some g) : Part) ∉ ps) : P1 ys gs (ps ++ [uLn g]) := by
  obtain ⟨hs, hf⟩ := h.has g hg
  have nu : ("unique" : Str) ∉ flds ++ anss ∧ ("unique" : Str) ∉ flds ∧ ("unique" : Str) ∉ anss ∧ ("unique" : Str) ∉ marks ∧ ("unique" : Str) ∈ w5 := by decide +kernel
  have an : allNm (ps ++ [uLn g]) = allNm ps := by
    rw [allNm_app]
    have : allNm [uLn g] = [] := by unfold allNm; rw [List.filter_cons_of_neg (by simpa using nu.1)]; rfl
    rw [this, List.append_nil]
  refine ⟨TA.snoc h.ta (takes_iff.mpr ⟨hu, fun _ => hs, fun e => absurd e nu.1⟩), fun p hp => ?_, h.nd, h.fr, fun z hz => by rw [an]; exact h.new z hz, fun z hz => ⟨(h.has z hz).1.imp (List.mem_append_left _) (List.mem_append_left _), (h.has z hz).2⟩, ?_, fun p hp => ?_⟩
  · rcases List.mem_append.mp hp with hp | hp
    · exact h.ok p hp
    · rw [List.mem_singleton.mp hp]; exact .inl ⟨nu.2.2.2.2, g, rfl, hf⟩
  · rw [nF_app, h.nF]
    have : K04.nF [uLn g] = 0 := by unfold K04.nF; rw [List.filter_cons_of_neg (by simpa using nu.2.1)]; rfl
    rw [this]; rfl
  · rcases List.mem_append.mp hp with hp | hp
    · exact h.wd p hp
    · rw [List.mem_singleton.mp hp]; exact ⟨nu.2.2.1, nu.2.2.2.1⟩
/-! ### the answers -/
structure P2 (ys : List Str) (ps qs : List Part) : Prop where
  p1 : ∃ gs, P1 ys gs ps
  qo : ∀ x ∈ qs, x.1 ∈ anss ∧ ∃ n, x.2 = some n ∧ freeB n = true
  nd : (qs.map (·.2)).Nodup
  out : ∀ x ∈ qs, x.2 ∉ allNm ps
  ys : ∀ y ∈ ys, some y ∉ qs.map (·.2)
  len : qs.length ≤ 2
theorem P2.add {ys : List Str} {ps qs : List Part} {i : Nat} {y w : Str} (h : P2 ys ps qs) (e : ys[i]? = some y) (hw : w ∈ anss) (l : qs.length < 2) : P2 (ys.eraseIdx i) ps (qs ++ [(w, some y)]) := by
  obtain ⟨gs, p1⟩ := h.p1
  obtain ⟨p1', h1, h2, h3⟩ := p1.pop e
  have my := List.mem_of_getElem? e
  refine ⟨⟨gs, p1'⟩, fun x hx => ?_, ?_, fun x hx => ?_, fun z hz => ?_, by simp; omega⟩
  · rcases List.mem_append.mp hx with hx | hx
    · exact h.qo x hx
    · rw [List.mem_singleton.mp hx]; exact ⟨hw, y, rfl, h3⟩
  · rw [List.map_append, List.nodup_append]
    refine ⟨h.nd, by simp, fun a ha b hb z => ?_⟩
    have : b = some y := by simpa using hb
    rw [z, this] at ha
    exact h.ys y my ha
  · rcases List.mem_append.mp hx with hx | hx
    · exact h.out x hx
    · rw [List.mem_singleton.mp hx]; exact h2
  · rw [List.map_append]
    intro c
    rcases List.mem_append.mp c with c | c
    · exact h.ys z (List.mem_of_mem_eraseIdx hz) c
    · have : z = y := by simpa using c
      exact h1 (by rw [← this]; exact hz)
def mks : List Part := [("held", none), ("single", none), ("token", none), ("guarded", none)]
theorem P2.ins {ys : List Str} {ps qs : List Part} (h : P2 ys ps qs) : Ins ps (qs ++ mks) := by
  obtain ⟨gs, p1⟩ := h.p1
  have mo : ∀ x ∈ mks, x.1 ∈ marks ∧ x.2 = none := by decide +kernel
  have qa : ∀ x ∈ qs, PartOk x := fun x hx => by
    obtain ⟨a, n, e, f⟩ := h.qo x hx
    have : ∀ w ∈ anss, w ∈ w5 := by decide +kernel
    exact .inl ⟨this _ a, n, e, f⟩
  have am : allNm mks = [] := by decide +kernel
  have nm0 : nA mks = 0 := by decide +kernel
  have aq : allNm qs = qs.map (·.2) := by
    unfold allNm
    rw [List.filter_eq_self.mpr fun x hx => by simpa using (anss_nu _ (h.qo x hx).1).2]
  refine ⟨p1.ta, p1.ok, fun x hx => ?_, ?_, fun x hx z => ?_, fun x hx w => ?_, ?_, ?_⟩
  · rcases List.mem_append.mp hx with hx | hx
    · exact ⟨qa x hx, .inl (h.qo x hx).1⟩
    · exact ⟨.inr (mo x hx), .inr (mo x hx).1⟩
  · rw [List.nodup_append]
    refine ⟨?_, by decide +kernel, fun a ha b hb z => ?_⟩
    · exact (List.pairwise_map.mp h.nd).imp fun hne z => hne (by rw [z])
    · obtain ⟨_, n, e, _⟩ := h.qo a ha
      have := (mo b hb).2
      rw [← z, e] at this
      cases this
  · rcases List.mem_append.mp hx with hx | hx
    · exact (p1.wd x z).1 (h.qo x hx).1
    · exact (p1.wd x z).2 (mo x hx).1
  · rcases List.mem_append.mp hx with hx | hx
    · exact h.out x hx
    · exact absurd w (marks_n _ (mo x hx).1).2.1
  · rw [allNm_app, am, List.append_nil, aq]; exact h.nd
  · rw [p1.nA0, nA_app, nm0]
    have : nA qs ≤ qs.length := List.length_filter_le _ _
    have := h.len
    omega
/-! ### right kinds are read -/
structure KsOk (K : List KP) : Prop where
  nd : (K.map (·.1)).Nodup
  fr : ∀ k ∈ K, freeB k.1 = true
  ta : ∀ k ∈ K, TA [] k.2 ∧ ∀ p ∈ k.2, PartOk p
  len : K.length ≤ 8
theorem rd_parts : ∀ {ps pre : List Part} {K K' : List KP} {nm : Str} {r : List Part}, TA pre ps → (∀ p ∈ ps, PartOk p) → Rd (K ++ [(nm, pre ++ ps)]) r K' → Rd (K ++ [(nm, pre)]) (ps ++ r) K'
  | [], pre, K, K', nm, r, _, _, h => by rwa [List.append_nil] at h
  | p :: ps, pre, K, K', nm, r, ⟨h1, h2⟩, ok, h => by
    refine .part (ok p List.mem_cons_self) h1 (rd_parts h2 (fun q hq => ok q (List.mem_cons_of_mem _ hq)) ?_)
    rw [List.append_assoc]
    exact h
theorem rd_lines : ∀ {K pre : List KP}, KsOk (pre ++ K) → Rd pre (lines K) (pre ++ K)
  | [], pre, _ => by rw [List.append_nil]; exact .nil
  | k :: r, pre, h => by
    have hk : k ∈ pre ++ k :: r := by simp
    obtain ⟨t, ok⟩ := h.ta k hk
    have nd := h.nd
    rw [List.map_append, List.nodup_append] at nd
    have l := h.len
    rw [lines_cons]
    refine .kind (fun z => nd.2.2 _ z k.1 (by simp) rfl) (by simp at l; omega) (h.fr k hk) ?_
    have e : pre ++ k :: r = (pre ++ [(k.1, [] ++ k.2)]) ++ r := by simp
    refine rd_parts t ok ?_
    have ih := rd_lines (K := r) (pre := pre ++ [(k.1, [] ++ k.2)]) (by rw [← e]; exact h)
    rw [e]
    exact ih
theorem KsOk.rd {K : List KP} (h : KsOk K) : Rd [] (lines K) K := rd_lines (K := K) (pre := []) h
end K04
end
section
set_option maxRecDepth 100000
set_option maxHeartbeats 1000000
namespace K04
open PySem L2 Mi
local macro_rules | `(tactic| walk_at "ev") => `(tactic| simp only [mProp_ap, mInX_ap, mLenX_ap, mSubX_ap, mEqX_ap, mNeX_ap, mMethX_ap, mMkP_ap, qF_ap, mLm_ap, mDicR_ap, sPutR_ap, mSplR_ap, sSwp_ap, put1_ap, itE_ap, Wp_ok, Wp_bind, Wp_quiet, WpS_fl, WpS_then, Nx_nx, Nx_rt, Nx_bk, Nx_ct, mVar_ap, mC_ap, mOp_ap, mUn_ap, mB_ap, mTru_ap, mAnd_ap, mOr_ap, mNot_ap,
  bAnd_ap, bOr_ap, bNot_ap, bYes_ap, mIf_ap, mNil_ap, mCons_ap, mTup_ap, mLst_ap, mLstR_ap, mDic0_ap, mCall_ap, mCb_ap, mMb_ap, mStr_ap, mRevT_ap, mPart_ap, mNoPart_ap, mSl_ap, mChain_ap, itL_ap, itT_ap, itS_ap, itR1_ap,
  sNil_ap, sSeq_ap, sIf_ap, sRet_ap, sRetN_ap, sBrk_ap, sCnt_ap, sExp_ap, sAsg_ap, sPar_ap, sPar3_ap, tgN_ap, tgNil_ap, tgCons_ap, sSetIx_ap, sFor_ap, Wp_mLc,
  List.map_cons, List.map_nil, List.cons_append, List.nil_append, List.replicate_succ, List.replicate_zero, List.getElem?_cons_zero, List.getElem?_cons_succ, List.set_cons_zero, List.set_cons_succ, List.length_cons, List.length_nil,
  Option.some.injEq, Option.bind_some, exists_eq_left, exists_eq_left', true_and, and_true, D.bl.injEq, D.int.injEq, D.str.injEq, D.ref.injEq, D.tup.injEq, D.lst.injEq, List.cons.injEq, if_true, if_false, Bool.false_eq_true, reduceCtorEq, false_and, and_false, or_false, false_or, exists_false])
/-! ### parts in lists -/
theorem len_ref {s : Sto} {n : Nat} {m : Bool} {xs : List D} (h : s[n]? = some (.lst m xs)) : cbLen s [.ref n] = some (.int xs.length) := by simp only [cbLen, asL, h, Option.map_some]
theorem era_map {α β : Type} (f : α → β) : ∀ (xs : List α) (i : Nat), (xs.map f).eraseIdx i = (xs.eraseIdx i).map f
  | [], i => by simp
  | x :: r, 0 => rfl
  | x :: r, i + 1 => by simp [era_map f r i]
def Fr (n : Nat) (s s' : Sto) : Prop := s.length ≤ s'.length ∧ ∀ k, k ≠ n → k < s.length → s'[k]? = s[k]?
theorem Fr.refl {n : Nat} {s : Sto} : Fr n s s := ⟨Nat.le_refl _, fun _ _ _ => rfl⟩
theorem Fr.trans {n : Nat} {s s1 s2 : Sto} (a : Fr n s s1) (b : Fr n s1 s2) : Fr n s s2 := ⟨Nat.le_trans a.1 b.1, fun k h1 h2 => (b.2 k h1 (Nat.lt_of_lt_of_le h2 a.1)).trans (a.2 k h1 h2)⟩
theorem Upd.fr {n : Nat} {s s' : Sto} (h : Upd n s s') : Fr n s s' := ⟨Nat.le_of_eq h.len.symm, fun k h1 _ => h.at' k h1⟩
theorem Kp.fr {n : Nat} {s s' : Sto} (h : Kp s.length s s') : Fr n s s' := ⟨h.1, fun k _ h2 => h.2 k h2⟩
theorem Fr.app {n : Nat} {s t : Sto} : Fr n s (s ++ t) := ⟨by simp, fun k _ h => List.getElem?_append_left h⟩
theorem PotAt.lt {s : Sto} {n T : Nat} (h : PotAt s n T) : n < s.length := by
  obtain ⟨g, m, t, e, _⟩ := h
  exact (List.getElem?_eq_some_iff.mp e).1
theorem PotAt.app {s t : Sto} {n T : Nat} (h : PotAt s n T) : PotAt (s ++ t) n T := by
  have l := h.lt
  obtain ⟨g, m, t', e, r⟩ := h
  exact ⟨g, m, t', by rw [List.getElem?_append_left l]; exact e, r⟩
theorem PotAt.set {s : Sto} {n T k : Nat} {o : O} (h : PotAt s n T) (hk : k ≠ n) : PotAt (s.set k o) n T := by
  obtain ⟨g, m, t', e, r⟩ := h
  exact ⟨g, m, t', by rw [List.getElem?_set_ne hk]; exact e, r⟩
theorem PotAt.keep {s s' : Sto} {n T : Nat} (h : PotAt s n T) (k : Kp s.length s s') : PotAt s' n T := by
  have l := h.lt
  obtain ⟨g, m, t', e, r⟩ := h
  exact ⟨g, m, t', by rw [k.2 n l]; exact e, r⟩
theorem pick_ref {s : Sto} {n T k : Nat} {m : Bool} {xs : List D} (h : PotAt s n T) (e : s[k]? = some (.lst m xs)) (kn : k ≠ n) (hT : T ≤ 2 ^ 40) (hx : xs ≠ []) (hl : xs.length ≤ 1000) : Wp (F__law_pick [.ref n, .ref k] s) (Dr s n (T + 1) (· ∈ xs)) := by
  rw [F__law_pick, mFun_ap (n := 2) rfl, b__law_pick]
  walk_at "ev"
  have l0 : 0 < xs.length := List.length_pos_iff.mpr hx
  refine ⟨_, len_ref e, (take_ok h hT (by show (0 : Int) < (xs.length : Int); omega) (by show (xs.length : Int) < 1073741824; omega)).mono fun d s1 ⟨⟨r, e1, h0, h1⟩, p1, u1⟩ => ?_⟩
  subst e1
  obtain ⟨x, hx, hm⟩ := at_lt h0 h1
  refine ⟨x, ?_, hm, p1, u1⟩
  have e2 : s1[k]? = some (.lst m xs) := by rw [u1.at' k kn]; exact e
  have q : ((r.toNat : Nat) : Int) = r := by omega
  have l : r.toNat < xs.length := by omega
  have e3 : atI xs ((r.toNat : Nat) : Int) = some xs[r.toNat] := atI_nat (List.getElem?_eq_getElem l)
  rw [q, hx] at e3
  cases e3
  have := ix_ref (s := s1) (i := r.toNat) e2 (List.getElem?_eq_getElem l)
  rw [q] at this
  exact this
theorem ix_in {n : Nat} {i : Int} (h0 : 0 ≤ i) (h : i < n) : ixN n i = some i.toNat := by
  unfold ixN
  rw [if_pos h0, if_pos h]
theorem Fr.set {n : Nat} {s s1 : Sto} {k : Nat} {o : O} (h : Fr n s s1) (hk : s.length ≤ k) : Fr n s (s1.set k o) := ⟨by simpa using h.1, fun j h1 h2 => by rw [List.getElem?_set_ne (by omega)]; exact h.2 j h1 h2⟩
theorem Fr.at {n : Nat} {s s1 : Sto} {k : Nat} {o : O} (h : Fr n s s1) (hk : k ≠ n) (e : s[k]? = some o) : s1[k]? = some o := by rw [h.2 k hk (List.getElem?_eq_some_iff.mp e).1]; exact e
theorem pop_at {s : Sto} {ys : List Str} {i : Int} (h0 : 0 ≤ i) (h : i < ys.length) (hl : ys.length ≤ 1000) : ∃ y, ys[i.toNat]? = some y ∧ lmPop s (ys.map .str) [.int i] = some (.str y, (ys.eraseIdx i.toNat).map .str) := by
  have l : i.toNat < ys.length := by omega
  refine ⟨ys[i.toNat], List.getElem?_eq_getElem l, ?_⟩
  have l2 : i < ((ys.map D.str).length : Nat) := by simpa using h
  simp only [lmPop]
  rw [if_pos ⟨by simp; omega, by simp; omega⟩, ix_in h0 l2]
  simp only [List.getElem?_map, List.getElem?_eq_getElem l, Option.map_some]
  rw [era_map]
theorem last_str {s : Sto} {n : Nat} {m : Bool} {gs : List Str} {y : Str} (e : s[n]? = some (.lst m ((gs ++ [y]).map .str))) : opIx s (.ref n) (.int (-1)) = some (.str y) := by
  simp only [opIx, asL, e, Option.bind_some, atI]
  have : ixN ((gs ++ [y]).map D.str).length (-1) = some gs.length := by
    unfold ixN
    rw [if_neg (by decide), if_pos (by simp; omega)]
    congr 1
    simp
    omega
  rw [this]
  simp
theorem rng_len (j : Int) : (rangeD 0 j.toNat).length = j.toNat := by simp [rangeD]
def leftL : List Str := ["a", "b", "size", "net", "label", "zone", "id", "range", "abcdefghijkl", "x"]
theorem left_ok : leftL.Nodup ∧ ∀ y ∈ leftL, freeB y = true := by decide +kernel
/-- the three lists of one kind: the names left, the lines found, the fields -/
structure L3 (s : Sto) (n T : Nat) (ys : List Str) (ps : List Part) (gs : List Str) (s' : Sto) : Prop where
  lt : s'[s.length]? = some (.lst true (ys.map .str))
  fd : s'[s.length + 1]? = some (.lst true (ps.map cD))
  gd : s'[s.length + 2]? = some (.lst true (gs.map .str))
  ll : ys.length ≤ 10
  lg : gs.length ≤ 20
  pot : PotAt s' n T
  fr : Fr n s s'
theorem L3.upd {s : Sto} {n T T' : Nat} {ys gs : List Str} {ps : List Part} {s1 s2 : Sto} (h : L3 s n T ys ps gs s1) (hn : n < s.length) (p : PotAt s2 n T') (u : Upd n s1 s2) : L3 s n T' ys ps gs s2 :=
  ⟨by rw [u.at' _ (by omega)]; exact h.lt, by rw [u.at' _ (by omega)]; exact h.fd, by rw [u.at' _ (by omega)]; exact h.gd, h.ll, h.lg, p, h.fr.trans u.fr⟩
theorem L3.mono {s : Sto} {n T T' : Nat} {ys gs : List Str} {ps : List Part} {s1 : Sto} (h : L3 s n T ys ps gs s1) (i : T ≤ T') : L3 s n T' ys ps gs s1 := ⟨h.lt, h.fd, h.gd, h.ll, h.lg, h.pot.mono i, h.fr⟩
theorem L3.len {s : Sto} {n T : Nat} {ys gs : List Str} {ps : List Part} {s1 : Sto} (h : L3 s n T ys ps gs s1) : s.length + 2 < s1.length := (List.getElem?_eq_some_iff.mp h.gd).1
theorem L3.setF {s : Sto} {n T : Nat} {ys gs : List Str} {ps qs : List Part} {s1 : Sto} (h : L3 s n T ys ps gs s1) (hn : n < s.length) : L3 s n T ys qs gs (s1.set (s.length + 1) (.lst true (qs.map cD))) := by
  have l := h.len
  exact ⟨by rw [List.getElem?_set_ne (by omega)]; exact h.lt, List.getElem?_set_self (by omega), by rw [List.getElem?_set_ne (by omega)]; exact h.gd, h.ll, h.lg, h.pot.set (by omega), h.fr.set (by omega)⟩
theorem kind_lines_ok {s : Sto} {n T : Nat} {nm : Str} (h : PotAt s n T) (hT : T ≤ 2 ^ 39) :
    Wp (F__law_kind_lines [.ref n, .str nm] s) fun v s' => (∃ ps, v = .lst ((kLn nm :: ps).map cD) ∧ TA [] ps ∧ (∀ p ∈ ps, PartOk p) ∧ ps.length ≤ 18) ∧ PotAt s' n (T + 60) ∧ Fr n s s' := by
  rw [F__law_kind_lines, mFun_ap (n := 2) rfl, b__law_kind_lines]
  simp only [List.map_cons, List.map_nil, List.cons_append, List.nil_append, List.replicate_succ, List.replicate_zero]
  have ln := h.lt
  refine seqK (fun e s' => e = [some (.ref n), some (.str nm), some (.ref s.length), none, none, none, none, none] ∧ s' = s ++ [.lst true (leftL.map .str)]) ?_ ?_
  · walk_at "ev"
    exact ⟨by rw [sizeLine_eq]; decide, rfl⟩
  rintro _ _ ⟨rfl, rfl⟩
  refine seqK (fun e s' => e = [some (.ref n), some (.str nm), some (.ref s.length), some (.ref (s.length + 1)), some (.ref (s.length + 2)), none, none, none] ∧ L3 s n T leftL [] [] s') ?_ ?_
  · walk_at "ev"
    refine ⟨by rw [sizeLine_eq]; decide, by rw [sizeLine_eq]; decide, _, _, ⟨rfl, rfl⟩, ⟨by simp, by simp⟩, ?_⟩
    refine ⟨?_, ?_, ?_, by decide, by decide, h.app.app.app, (Fr.app.trans Fr.app).trans Fr.app⟩
    · simp
    · simp
    · simp
  rintro _ s1 ⟨rfl, l3⟩
  have p10 : P1 leftL [] [] := ⟨trivial, by simp, left_ok.1, left_ok.2, by simp [allNm], by simp, by simp [nF], by simp⟩
  refine seqK (fun e s' => (∃ a b, e = [some (.ref n), some (.str nm), some (.ref s.length), some (.ref (s.length + 1)), some (.ref (s.length + 2)), a, none, b]) ∧ ∃ ys ps gs, L3 s n (T + 31) ys ps gs s' ∧ P1 ys gs ps ∧ 4 ≤ ys.length ∧ ps.length ≤ 12) ?_ ?_
  · simp only [sFor_ap]
    walk_at "ev"
    refine (take_ok l3.pot (by omega) (by decide) (by decide)).mono fun d s2 ⟨⟨j, e, j0, j7⟩, p2, u2⟩ => ?_
    subst e
    refine ⟨_, rfl, ⟨by omega, by omega⟩, ?_⟩
    have rl := rng_len j
    refine WpS_forGo (fun r e s' => (∃ a b, e = [some (.ref n), some (.str nm), some (.ref s.length), some (.ref (s.length + 1)), some (.ref (s.length + 2)), a, none, b]) ∧ ∃ ys ps gs T', L3 s n T' ys ps gs s' ∧ P1 ys gs ps ∧ T' + r.length * 5 ≤ T + 31 ∧ 4 + r.length ≤ ys.length ∧ ps.length + 2 * r.length ≤ 12 ∧ gs.length + r.length ≤ 6) (fun _ _ _ _ => trivial) ?step ?fin _ _ _
      ⟨⟨_, _, rfl⟩, _, _, _, T + 1, l3.upd ln p2 u2, p10, by omega, by rw [rl]; show _ ≤ 10; omega, by rw [rl]; simp; omega, by rw [rl]; simp; omega⟩
    case fin =>
      rintro _ s3 ⟨⟨a, b, rfl⟩, ys, ps, gs, T', l3, p1, hT', h4, hk, hg⟩
      exact ⟨⟨_, _, rfl⟩, ys, ps, gs, l3.mono (by simpa using hT'), p1, by simpa using h4, by simpa using hk⟩
    case step =>
      rintro d r _ s3 ⟨⟨a, b, rfl⟩, ys, ps, gs, T', l3, p1, hT', h4, hk, hg⟩
      simp only [List.length_cons] at hT' h4 hk hg
      have ll := l3.ll
      have len3 := l3.len
      refine ⟨_, rfl, ?_⟩
      refine seqK (fun e s' => e = [some (.ref n), some (.str nm), some (.ref s.length), some (.ref (s.length + 1)), some (.ref (s.length + 2)), some d, none, b] ∧ ∃ i y, ys[i]? = some y ∧ L3 s n (T' + 1) (ys.eraseIdx i) ps (gs ++ [y]) s' ∧ i < ys.length) ?_ ?_
      · walk_at "ev"
        refine ⟨_, _, rfl, l3.gd, _, _, rfl, l3.lt, _, len_ref l3.lt, ?_⟩
        refine (take_ok l3.pot (by omega) (by simp; omega) (by simp; omega)).mono fun d s4 ⟨⟨i, e, i0, i1⟩, p4, u4⟩ => ?_
        subst e
        have i1 : i < ys.length := by simpa using i1
        obtain ⟨y, hy, ey⟩ := pop_at (s := s4) i0 i1 (by omega)
        have lt4 : s4[s.length]? = some (.lst true (ys.map .str)) := by rw [u4.at' _ (by omega)]; exact l3.lt
        have gd4 : (s4.set s.length (.lst true ((ys.eraseIdx i.toNat).map .str)))[s.length + 2]? = some (.lst true (gs.map .str)) := by rw [List.getElem?_set_ne (by omega), u4.at' _ (by omega)]; exact l3.gd
        refine ⟨_, _, _, lt4, ey, _, _, _, gd4, app_ok (by simp; omega), ?_⟩
        have ule := u4.len
        refine ⟨i.toNat, y, hy, ⟨?_, ?_, ?_, ?_, ?_, ?_, ?_⟩, by omega⟩
        · rw [List.getElem?_set_ne (by omega), List.getElem?_set_self (by omega)]
        · rw [List.getElem?_set_ne (by omega), List.getElem?_set_ne (by omega), u4.at' _ (by omega)]; exact l3.fd
        · rw [List.getElem?_set_self (by simp; omega)]; simp
        · rw [List.length_eraseIdx]; split <;> omega
        · simp; omega
        · exact (p4.set (by omega)).set (by omega)
        · exact ((l3.fr.trans u4.fr).set (by omega)).set (by omega)
      rintro _ s4 ⟨rfl, i, y, hy, l4, il⟩
      obtain ⟨p1', y1, y2, y3⟩ := p1.pop hy
      have yl : (ys.eraseIdx i).length = ys.length - 1 := by rw [List.length_eraseIdx, if_pos il]
      generalize ys.eraseIdx i = ys' at l4 p1' y1 yl
      refine seqK (fun e s' => e = [some (.ref n), some (.str nm), some (.ref s.length), some (.ref (s.length + 1)), some (.ref (s.length + 2)), some d, none, b] ∧ ∃ w ∈ flds, L3 s n (T' + 2) ys' (ps ++ [(w, some y)]) (gs ++ [y]) s') ?_ ?_
      · walk_at "ev"
        refine ⟨_, _, rfl, l4.fd, by rw [sizeLine_eq]; decide, ?_⟩
        refine (pick_lst (xs := (["set", "set", "fixed"] : List Str).map .str) l4.pot (by omega) (by decide) (by decide)).mono fun d s5 ⟨hd, p5, u5⟩ => ?_
        obtain ⟨w, hw, rfl⟩ := List.mem_map.mp hd
        have hw2 : w ∈ flds := by
          have : ∀ w ∈ (["set", "set", "fixed"] : List Str), w ∈ flds := by decide +kernel
          exact this w hw
        have l5 := l4.upd ln p5 u5
        refine ⟨_, rfl, _, last_str l5.gd, by rw [sizeLine_eq]; decide, _, _, _, l5.fd, app_ok (by simp; omega), w, hw2, ?_⟩
        have := l5.setF (qs := ps ++ [(w, some y)]) ln
        rw [List.map_append] at this
        exact this.mono (by omega)
      rintro _ s5 ⟨rfl, w, hw, l5⟩
      have p15 := p1'.field y1 y2 y3 hw (by omega)
      generalize hps' : ps ++ [(w, some y)] = ps' at l5 p15
      have psl : ps'.length = ps.length + 1 := by rw [← hps']; simp
      refine seqK (fun e s' => ∃ g ∈ gs ++ [y], e = [some (.ref n), some (.str nm), some (.ref s.length), some (.ref (s.length + 1)), some (.ref (s.length + 2)), some d, none, some (cD (uLn g))] ∧ L3 s n (T' + 3) ys' ps' (gs ++ [y]) s') ?_ ?_
      · walk_at "ev"
        refine (pick_ref l5.pot l5.gd (by omega) (by omega) (by simp) (by simp; omega)).mono fun d s6 ⟨hd, p6, u6⟩ => ?_
        obtain ⟨g, hg, rfl⟩ := List.mem_map.mp hd
        exact ⟨by rw [sizeLine_eq]; decide, g, hg, rfl, l5.upd ln p6 u6⟩
      rintro _ s6 ⟨g, hgm, rfl, l6⟩
      rw [sIf_ap]
      walk_at "ev"
      refine (take_ok l6.pot (by omega) (by decide) (by decide)).mono fun d2 s7 ⟨⟨i, e, i0, i1⟩, p7, u7⟩ => ?_
      subst e
      have l7 := l6.upd ln p7 u7
      refine ⟨_, eq_int, _, rfl, ?_⟩
      have stay : (∃ a b', some d = a ∧ some (cD (uLn g)) = b') ∧ ∃ ys ps gs T2, L3 s n T2 ys ps gs s7 ∧ P1 ys gs ps ∧ T2 + r.length * 5 ≤ T + 31 ∧ 4 + r.length ≤ ys.length ∧ ps.length + 2 * r.length ≤ 12 ∧ gs.length + r.length ≤ 6 :=
        ⟨⟨_, _, rfl, rfl⟩, ys', ps', gs ++ [y], T' + 4, l7, p15, by omega, by omega, by omega, by simp; omega⟩
      have fg : freeB g = true := (p15.has g hgm).2
      have lu : LineOk (uLn g) := .inr (.inl ⟨by show ("unique" : Str) ∈ w5; decide +kernel, g, rfl, fg⟩)
      refine ite_both ?_ ?_
      · refine ⟨_, ni_cD l7.fd lu (fun q hq => .inr (p15.ok q hq)), _, rfl, ?_⟩
        by_cases c : uLn g ∈ ps'
        · rw [if_neg (by simp [c])]
          exact stay
        · rw [if_pos (by simp [c])]
          refine ⟨_, _, rfl, l7.fd, _, _, _, l7.fd, app_ok (by simp; omega), ⟨_, _, rfl, rfl⟩, ys', ps' ++ [uLn g], gs ++ [y], T' + 4, ?_, p15.uniq hgm c, by omega, by omega, by simp; omega, by simp; omega⟩
          have := l7.setF (qs := ps' ++ [uLn g]) ln
          rw [List.map_append] at this
          exact this
      · exact stay
  rintro _ s2 ⟨⟨a, b, rfl⟩, ys, ps, gs, l3, p1, h4, pl⟩
  have len2 := l3.len
  refine seqK (fun e s' => e = [some (.ref n), some (.str nm), some (.ref s.length), some (.ref (s.length + 1)), some (.ref (s.length + 2)), a, some (.ref s2.length), b] ∧ L3 s n (T + 31) ys ps gs s' ∧ s'[s2.length]? = some (.lst true [])) ?_ ?_
  · walk_at "ev"
    refine ⟨by rw [sizeLine_eq]; decide, ⟨?_, ?_, ?_, l3.ll, l3.lg, l3.pot.app, l3.fr.trans Fr.app⟩, List.getElem?_concat_length⟩
    · rw [List.getElem?_append_left (by omega)]; exact l3.lt
    · rw [List.getElem?_append_left (by omega)]; exact l3.fd
    · rw [List.getElem?_append_left (by omega)]; exact l3.gd
  generalize s2.length = H at len2 ⊢
  rintro _ s3 ⟨rfl, l3, hH⟩
  have p20 : P2 ys ps [] := ⟨⟨gs, p1⟩, by simp, by simp, by simp, by simp, by simp⟩
  refine seqK (fun e s' => (∃ a, e = [some (.ref n), some (.str nm), some (.ref s.length), some (.ref (s.length + 1)), some (.ref (s.length + 2)), a, some (.ref H), b]) ∧ ∃ ys qs, L3 s n (T + 37) ys ps gs s' ∧ s'[H]? = some (.lst true (qs.map cD)) ∧ P2 ys ps qs) ?_ ?_
  · simp only [sFor_ap]
    walk_at "ev"
    refine (take_ok l3.pot (by omega) (by decide) (by decide)).mono fun d s4 ⟨⟨j, e, j0, j7⟩, p4, u4⟩ => ?_
    subst e
    refine ⟨_, rfl, ⟨by omega, by omega⟩, ?_⟩
    have rl := rng_len j
    refine WpS_forGo (fun r e s' => (∃ a, e = [some (.ref n), some (.str nm), some (.ref s.length), some (.ref (s.length + 1)), some (.ref (s.length + 2)), a, some (.ref H), b]) ∧ ∃ ys qs T', L3 s n T' ys ps gs s' ∧ s'[H]? = some (.lst true (qs.map cD)) ∧ P2 ys ps qs ∧ T' + r.length * 2 ≤ T + 37 ∧ 1 + r.length ≤ ys.length ∧ qs.length + r.length ≤ 2) (fun _ _ _ _ => trivial) ?step2 ?fin2 _ _ _
      ⟨⟨_, rfl⟩, ys, [], T + 32, l3.upd ln p4 u4, by rw [u4.at' _ (by omega)]; exact hH, p20, by omega, by omega, by rw [rl]; simp; omega⟩
    case fin2 =>
      rintro _ s5 ⟨⟨a, rfl⟩, ys, qs, T', l5, h5, p2, hT', h4, hk⟩
      exact ⟨⟨_, rfl⟩, ys, qs, l5.mono (by simpa using hT'), h5, p2⟩
    case step2 =>
      rintro d r _ s5 ⟨⟨a, rfl⟩, ys, qs, T', l5, h5, p2, hT', h4, hk⟩
      simp only [List.length_cons] at hT' h4 hk
      have ll5 := l5.ll
      have len5 : H < s5.length := (List.getElem?_eq_some_iff.mp h5).1
      refine ⟨_, rfl, ?_⟩
      walk_at "ev"
      refine ⟨_, _, rfl, h5, by rw [sizeLine_eq]; decide, ?_⟩
      refine (pick_lst (xs := (["fresh", "free"] : List Str).map .str) l5.pot (by omega) (by decide) (by decide)).mono fun d2 s6 ⟨hd, p6, u6⟩ => ?_
      obtain ⟨w, hw, rfl⟩ := List.mem_map.mp hd
      have hw2 : w ∈ anss := hw
      have l6 := l5.upd ln p6 u6
      refine ⟨_, _, rfl, l6.lt, _, len_ref l6.lt, ?_⟩
      refine (take_ok p6 (by omega) (by simp; omega) (by simp; omega)).mono fun d3 s7 ⟨⟨i, e, i0, i1⟩, p7, u7⟩ => ?_
      subst e
      have i1 : i < ys.length := by simpa using i1
      obtain ⟨y, hy, ey⟩ := pop_at (s := s7) i0 i1 (by omega)
      have l7 := l6.upd ln p7 u7
      have len7 := l7.len
      have h7 : s7[H]? = some (.lst true (qs.map cD)) := by rw [u7.at' _ (by omega), u6.at' _ (by omega)]; exact h5
      have h8 : (s7.set s.length (.lst true ((ys.eraseIdx i.toNat).map .str)))[H]? = some (.lst true (qs.map cD)) := by rw [List.getElem?_set_ne (by omega)]; exact h7
      have ule := u7.len
      have ule6 := u6.len
      refine ⟨_, _, _, l7.lt, ey, by rw [sizeLine_eq]; decide, _, _, _, h8, app_ok (by simp; omega), ⟨_, rfl⟩, ys.eraseIdx i.toNat, qs ++ [(w, some y)], T' + 2, ⟨?_, ?_, ?_, ?_, l5.lg, ?_, ?_⟩, ?_, p2.add hy hw2 (by omega), by omega, ?_, by simp; omega⟩
      · rw [List.getElem?_set_ne (by omega), List.getElem?_set_self (by omega)]
      · rw [List.getElem?_set_ne (by omega), List.getElem?_set_ne (by omega)]; exact l7.fd
      · rw [List.getElem?_set_ne (by omega), List.getElem?_set_ne (by omega)]; exact l7.gd
      · rw [List.length_eraseIdx]; split <;> omega
      · exact (p7.set (by omega)).set (by omega)
      · exact (l7.fr.set (by omega)).set (by omega)
      · rw [List.getElem?_set_self (by simp; omega), List.map_append]; rfl
      · rw [List.length_eraseIdx, if_pos (by omega)]; omega
  rintro _ s4 ⟨⟨a, rfl⟩, ys, qs, l4, h4, p2⟩
  have ql := p2.len
  refine seqK (fun e s' => (∃ b, e = [some (.ref n), some (.str nm), some (.ref s.length), some (.ref (s.length + 1)), some (.ref (s.length + 2)), a, some (.ref H), b]) ∧ ∃ ps, L3 s n (T + 60) ys ps gs s' ∧ TA [] ps ∧ (∀ p ∈ ps, PartOk p) ∧ ps.length ≤ 18) ?_ ?_
  · simp only [sFor_ap]
    walk_at "ev"
    refine ⟨by rw [sizeLine_eq]; decide, by rw [sizeLine_eq]; decide, by rw [sizeLine_eq]; decide, by rw [sizeLine_eq]; decide, by rw [sizeLine_eq]; decide, _, add_refL h4 (by rw [sizeLine_eq]; simp; omega), _, rfl, ?_⟩
    have eas : qs.map cD ++ [.tup [.str "held"], .tup [.str "single"], .tup [.str "token"], .tup [.str "guarded"]] = (qs ++ mks).map cD := by rw [List.map_append]; rfl
    rw [eas]
    have ml : (qs ++ mks).length ≤ 6 := by rw [List.length_append]; show _ + 4 ≤ 6; omega
    refine WpS_forGo (fun r e s' => (∃ b, e = [some (.ref n), some (.str nm), some (.ref s.length), some (.ref (s.length + 1)), some (.ref (s.length + 2)), a, some (.ref H), b]) ∧ ∃ rs ps T', r = rs.map cD ∧ L3 s n T' ys ps gs s' ∧ Ins ps rs ∧ T' + rs.length * 2 ≤ T + 60 ∧ ps.length + rs.length ≤ 18) (fun _ _ _ _ => rfl) ?step3 ?fin3 _ _ _
      ⟨⟨_, rfl⟩, qs ++ mks, ps, T + 37, rfl, l4, p2.ins, by omega, by omega⟩
    case fin3 =>
      rintro _ s5 ⟨⟨b, rfl⟩, rs, ps, T', er, l5, ip, hT', hk⟩
      exact ⟨⟨_, rfl⟩, ps, l5.mono (by omega), ip.ta, ip.ok, by omega⟩
    case step3 =>
      rintro d r _ s5 ⟨⟨b, rfl⟩, rs, ps, T', er, l5, ip, hT', hk⟩
      cases rs with
      | nil => cases er
      | cons p rs =>
        cases er
        simp only [List.length_cons] at hT' hk
        refine ⟨_, rfl, ?_⟩
        have lc : ∀ s, cbLen s [cD p] = some (.int ((ws p).map D.str).length) := fun s => rfl
        have len5 := l5.len
        have ins : ∀ s6 T6, L3 s n T6 ys ps gs s6 → T6 + 1 + rs.length * 2 ≤ T + 60 → Wp (F__law_take [.ref n, .int ((ps.map cD).length + 1)] s6) fun d s1 => ∃ xs y xs', s1[s.length + 1]? = some (.lst true xs) ∧ lmInsert s1 xs [d, cD p] = some (y, xs') ∧ (∃ (rs' : List Part) (ps' : List Part) (T' : Nat), rs.map cD = rs'.map cD ∧ L3 s n T' ys ps' gs (s1.set (s.length + 1) (.lst true xs')) ∧ Ins ps' rs' ∧ T' + rs'.length * 2 ≤ T + 60 ∧ ps'.length + rs'.length ≤ 18) := by
          intro s6 T6 l6 hT6
          refine (take_ok l6.pot (by omega) (by omega) (by simp; omega)).mono fun d s7 ⟨⟨i, e, i0, i1⟩, p7, u7⟩ => ?_
          subst e
          have l7 := l6.upd ln p7 u7
          have i2 : i < (ps.length : Int) + 1 := by simpa using i1
          refine ⟨ps.map cD, .non, _, l7.fd, if_pos ⟨by rw [sizeLine_eq]; simp; omega, i0, by simp; omega⟩, rs, ps.take i.toNat ++ p :: ps.drop i.toNat, T6 + 1, rfl, ?_, ?_, by omega, by simp; omega⟩
          · have := l7.setF (qs := ps.take i.toNat ++ p :: ps.drop i.toNat) ln
            simpa using this
          · refine Ins.put ?_
            rw [List.take_append_drop]
            exact ip
        rw [sIf_ap]
        walk_at "ev"
        refine ⟨_, lc _, _, eq_int, _, rfl, ?_⟩
        refine ite_both ?_ ?_
        · refine ⟨_, _, rfl, l5.fd, _, len_ref l5.fd, _, rfl, (ins s5 T' l5 (by omega)).mono fun d s1 ⟨xs, y, xs', g1, g2, g3⟩ => ?_⟩
          exact ⟨xs, y, xs', g1, g2, ⟨_, rfl⟩, g3⟩
        · refine (take_ok l5.pot (by omega) (by decide) (by decide)).mono fun d s6 ⟨⟨i, e, i0, i1⟩, p6, u6⟩ => ?_
          subst e
          have l6 := l5.upd ln p6 u6
          refine ⟨_, eq_int, _, rfl, ?_⟩
          refine ite_both ?_ ?_
          · refine ⟨_, _, rfl, l6.fd, _, len_ref l6.fd, _, rfl, (ins s6 (T' + 1) l6 (by omega)).mono fun d s1 ⟨xs, y, xs', g1, g2, g3⟩ => ?_⟩
            exact ⟨xs, y, xs', g1, g2, ⟨_, rfl⟩, g3⟩
          · exact ⟨⟨_, rfl⟩, rs, ps, T' + 1, rfl, l6, ip.skip, by omega, by omega⟩
  rintro _ s5 ⟨⟨b, rfl⟩, ps, l5, ta, ok, pl⟩
  walk_at "ev"
  exact ⟨by rw [sizeLine_eq]; decide, by rw [sizeLine_eq]; decide, _, add_lstR l5.fd (by rw [sizeLine_eq]; simp; omega), ⟨ps, rfl, ta, ok, pl⟩, l5.pot, l5.fr⟩
end K04
end
section
set_option maxRecDepth 100000
set_option maxHeartbeats 1000000
namespace K04
open PySem L2 Mi
local macro_rules | `(tactic| walk_at "ev") => `(tactic| simp only [mProp_ap, mInX_ap, mLenX_ap, mSubX_ap, mEqX_ap, mNeX_ap, mMethX_ap, mMkP_ap, qF_ap, mLm_ap, mDicR_ap, sPutR_ap, mSplR_ap, sSwp_ap, put1_ap, itE_ap, Wp_ok, Wp_bind, Wp_quiet, WpS_fl, WpS_then, Nx_nx, Nx_rt, Nx_bk, Nx_ct, mVar_ap, mC_ap, mOp_ap, mUn_ap, mB_ap, mTru_ap, mAnd_ap, mOr_ap, mNot_ap,
  bAnd_ap, bOr_ap, bNot_ap, bYes_ap, mIf_ap, mNil_ap, mCons_ap, mTup_ap, mLst_ap, mLstR_ap, mDic0_ap, mCall_ap, mCb_ap, mMb_ap, mStr_ap, mRevT_ap, mPart_ap, mNoPart_ap, mSl_ap, mChain_ap, itL_ap, itT_ap, itS_ap, itR1_ap,
  sNil_ap, sSeq_ap, sIf_ap, sRet_ap, sRetN_ap, sBrk_ap, sCnt_ap, sExp_ap, sAsg_ap, sPar_ap, sPar3_ap, tgN_ap, tgNil_ap, tgCons_ap, sSetIx_ap, sFor_ap, Wp_mLc,
  List.map_cons, List.map_nil, List.cons_append, List.nil_append, List.replicate_succ, List.replicate_zero, List.getElem?_cons_zero, List.getElem?_cons_succ, List.set_cons_zero, List.set_cons_succ, List.length_cons, List.length_nil,
  Option.some.injEq, Option.bind_some, exists_eq_left, exists_eq_left', true_and, and_true, D.bl.injEq, D.int.injEq, D.str.injEq, D.ref.injEq, D.tup.injEq, D.lst.injEq, List.cons.injEq, if_true, if_false, Bool.false_eq_true, reduceCtorEq, false_and, and_false, or_false, false_or, exists_false])
/-! ### parts in lists -/
/-! ### the lines of all kinds -/
theorem nms_ok : nmsK.Nodup ∧ ∀ y ∈ nmsK, freeB y = true := by decide +kernel
structure KsL (ys : List Str) (K : List KP) : Prop where
  ok : KsOk K
  nm : ∀ k ∈ K, k.1 ∈ nmsK
  ln : ∀ k ∈ K, k.2.length ≤ 18
  yn : ys.Nodup
  yk : ∀ y ∈ ys, y ∈ nmsK
  dis : ∀ y ∈ ys, y ∉ K.map (·.1)
theorem lines_len {K : List KP} (h : ∀ k ∈ K, k.2.length ≤ 18) : (lines K).length ≤ 19 * K.length := by
  induction K with
  | nil => simp [lines]
  | cons k r ih =>
    have := h k List.mem_cons_self
    have := ih fun x hx => h x (List.mem_cons_of_mem _ hx)
    rw [lines_cons]
    simp
    omega
theorem KsL.add {ys : List Str} {K : List KP} {i : Nat} {y : Str} {ps : List Part} (h : KsL ys K) (e : ys[i]? = some y) (ta : TA [] ps) (ok : ∀ p ∈ ps, PartOk p) (pl : ps.length ≤ 18) (kl : K.length < 8) : KsL (ys.eraseIdx i) (K ++ [(y, ps)]) := by
  have my := List.mem_of_getElem? e
  have l1 := (List.getElem?_eq_some_iff.mp e).1
  have ny : y ∉ ys.eraseIdx i := fun z => by
    obtain ⟨j, hj⟩ := List.mem_eraseIdx_iff_getElem?.mp z
    exact hj.1 ((List.getElem?_inj l1 h.yn).mp (e.trans hj.2.symm)).symm
  have both : ∀ {P : KP → Prop}, (∀ k ∈ K, P k) → P (y, ps) → ∀ k ∈ K ++ [(y, ps)], P k := fun {P} a b k hk => by
    rcases List.mem_append.mp hk with hk | hk
    · exact a k hk
    · rw [List.mem_singleton.mp hk]; exact b
  refine ⟨⟨?_, both h.ok.fr (nms_ok.2 y (h.yk y my)), both h.ok.ta ⟨ta, ok⟩, by simp; omega⟩, both h.nm (h.yk y my), both h.ln pl, h.yn.sublist (List.eraseIdx_sublist _ _), fun z hz => h.yk z (List.mem_of_mem_eraseIdx hz), fun z hz c => ?_⟩
  · rw [List.map_append, List.nodup_append]
    refine ⟨h.ok.nd, by simp, fun a ha b hb z => ?_⟩
    have : b = y := by simpa using hb
    rw [z, this] at ha
    exact h.dis y my ha
  · rw [List.map_append] at c
    rcases List.mem_append.mp c with c | c
    · exact h.dis z (List.mem_of_mem_eraseIdx hz) c
    · have : z = y := by simpa using c
      exact ny (by rw [← this]; exact hz)
theorem kinds_lines_ok {s : Sto} {n T : Nat} (h : PotAt s n T) (hT : T ≤ 2 ^ 38) :
    Wp (F__law_kinds_lines [.ref n] s) fun v s' => (∃ k K, v = .ref k ∧ s.length ≤ k ∧ s'[k]? = some (.lst true ((lines K).map cD)) ∧ KsOk K ∧ (∀ x ∈ K, x.1 ∈ nmsK) ∧ (∀ x ∈ K, x.2.length ≤ 18) ∧ K ≠ []) ∧ PotAt s' n (T + 500) ∧ Fr n s s' := by
  rw [F__law_kinds_lines, mFun_ap (n := 1) rfl, b__law_kinds_lines]
  simp only [List.map_cons, List.map_nil, List.cons_append, List.nil_append, List.replicate_succ, List.replicate_zero]
  have ln := h.lt
  refine seqK (fun e s' => e = [some (.ref n), some (.ref s.length), some (.ref (s.length + 1)), none] ∧ s' = s ++ [.lst true (nmsK.map .str)] ++ [.lst true []]) ?_ ?_
  · walk_at "ev"
    exact ⟨by rw [sizeLine_eq]; decide, by rw [sizeLine_eq]; decide, _, _, ⟨rfl, rfl⟩, ⟨rfl, by simp⟩, rfl⟩
  rintro _ _ ⟨rfl, rfl⟩
  have i1 : (s ++ [O.lst true (nmsK.map .str)] ++ [.lst true []])[s.length]? = some (.lst true (nmsK.map .str)) := by simp
  have i2 : (s ++ [O.lst true (nmsK.map .str)] ++ [.lst true []])[s.length + 1]? = some (.lst true []) := by simp
  have f0 : Fr n s (s ++ [O.lst true (nmsK.map .str)] ++ [.lst true []]) := Fr.app.trans Fr.app
  have p0 : PotAt (s ++ [O.lst true (nmsK.map .str)] ++ [.lst true []]) n T := h.app.app
  generalize s ++ [O.lst true (nmsK.map .str)] ++ [.lst true []] = s1 at i1 i2 f0 p0 ⊢
  have k0 : KsL nmsK [] := ⟨⟨by simp, by simp, by simp, by simp⟩, by simp, by simp, nms_ok.1, fun _ h => h, by simp⟩
  refine seqK (fun e s' => (∃ a, e = [some (.ref n), some (.ref s.length), some (.ref (s.length + 1)), a]) ∧ ∃ ys K, s'[s.length + 1]? = some (.lst true ((lines K).map cD)) ∧ KsL ys K ∧ K ≠ [] ∧ PotAt s' n (T + 500) ∧ Fr n s s') ?_ ?_
  · simp only [sFor_ap]
    walk_at "ev"
    refine ⟨by rw [sizeLine_eq]; decide, ?_⟩
    refine (pick_lst (xs := ([1, 2, 2, 3, 8] : List Int).map .int) p0 (by omega) (by decide) (by decide)).mono fun d s2 ⟨hd, p2, u2⟩ => ?_
    obtain ⟨j, hj, rfl⟩ := List.mem_map.mp hd
    have hj2 : 1 ≤ j ∧ j ≤ 8 := by
      have : ∀ j ∈ ([1, 2, 2, 3, 8] : List Int), 1 ≤ j ∧ j ≤ 8 := by decide
      exact this j hj
    refine ⟨_, rfl, ⟨by omega, by omega⟩, ?_⟩
    have rl := rng_len j
    refine WpS_forGo (fun r e s' => (∃ a, e = [some (.ref n), some (.ref s.length), some (.ref (s.length + 1)), a]) ∧ ∃ ys K T', s'[s.length]? = some (.lst true (ys.map .str)) ∧ s'[s.length + 1]? = some (.lst true ((lines K).map cD)) ∧ KsL ys K ∧ r.length ≤ ys.length ∧ ys.length ≤ 8 ∧ K.length + r.length = j.toNat ∧ PotAt s' n T' ∧ T' + 61 * r.length ≤ T + 500 ∧ Fr n s s') (fun _ _ _ _ => trivial) ?step ?fin _ _ _
      ⟨⟨_, rfl⟩, nmsK, [], T + 1, by rw [u2.at' _ (by omega)]; exact i1, by rw [u2.at' _ (by omega)]; exact i2, k0, by rw [rl]; show _ ≤ 8; omega, by decide, by rw [rl]; simp, p2, by omega, f0.trans u2.fr⟩
    case fin =>
      rintro _ s3 ⟨⟨a, rfl⟩, ys, K, T', h1, h2, h3, h4, h5, h6, h7, h8, h9⟩
      refine ⟨⟨_, rfl⟩, ys, K, h2, h3, fun z => ?_, h7.mono (by simpa using h8), h9⟩
      rw [z] at h6
      simp at h6
      omega
    case step =>
      rintro d r _ s3 ⟨⟨a, rfl⟩, ys, K, T', h1, h2, h3, h4, h5, h6, h7, h8, h9⟩
      simp only [List.length_cons] at h4 h6 h8
      refine ⟨_, rfl, ?_⟩
      walk_at "ev"
      refine ⟨_, _, rfl, h2, _, _, rfl, h1, _, len_ref h1, ?_⟩
      refine (take_ok h7 (by omega) (by simp; omega) (by simp; omega)).mono fun d3 s4 ⟨⟨i, e, i0, i1⟩, p4, u4⟩ => ?_
      subst e
      have i1 : i < ys.length := by simpa using i1
      obtain ⟨y, hy, ey⟩ := pop_at (s := s4) i0 i1 (by omega)
      have l3 : s.length + 1 < s3.length := (List.getElem?_eq_some_iff.mp h2).1
      have ule := u4.len
      have lt4 : s4[s.length]? = some (.lst true (ys.map .str)) := by rw [u4.at' _ (by omega)]; exact h1
      refine ⟨_, _, _, lt4, ey, ?_⟩
      refine (kind_lines_ok (p4.set (by omega)) (by omega)).mono fun v s5 ⟨⟨ps, e, ta, ok, pl⟩, p5, f5⟩ => ?_
      subst e
      have fd5 : s5[s.length + 1]? = some (.lst true ((lines K).map cD)) := f5.at (by omega) (by rw [List.getElem?_set_ne (by omega), u4.at' _ (by omega)]; exact h2)
      have lt5 : s5[s.length]? = some (.lst true ((ys.eraseIdx i.toNat).map .str)) := f5.at (by omega) (List.getElem?_set_self (by omega))
      have l5 : s.length + 1 < s5.length := (List.getElem?_eq_some_iff.mp fd5).1
      have kl : K.length < 8 := by omega
      have ll := lines_len h3.ln
      have yl : (ys.eraseIdx i.toNat).length = ys.length - 1 := by rw [List.length_eraseIdx, if_pos (by omega)]
      refine ⟨_, _, _, fd5, if_pos (by rw [sizeLine_eq]; simp; omega), ⟨_, rfl⟩, ys.eraseIdx i.toNat, K ++ [(y, ps)], T' + 1 + 60, ?_, ?_, h3.add hy ta ok pl kl, by omega, by omega, by simp; omega, p5.set (by omega), by omega, (((h9.trans u4.fr).set (by omega)).trans f5).set (by omega)⟩
      · rw [List.getElem?_set_ne (by omega)]; exact lt5
      · rw [List.getElem?_set_self l5, lines_app]
        simp [lines]
  rintro _ s2 ⟨⟨a, rfl⟩, ys, K, h1, h2, h3, h4, h5⟩
  walk_at "ev"
  exact ⟨⟨_, K, rfl, by omega, h1, h2.ok, h2.nm, h2.ln, h3⟩, h4, h5⟩
/-! ### their text -/
theorem join_tS {s : Sto} {sep : Str} {ys : List Str} (hs : sep.length ≤ 1) (h : tot ys ≤ 1000000) : mbJoin2 s (.str sep) [tS ys] = some (.str (Str.join sep ys)) := by
  have l1 := join_tot sep hs ys
  have l2 := sum_le ys sep.length hs
  simp only [tS, mbJoin2, allStr_map, TL.join_eq]
  rw [if_pos]
  exact ⟨by omega, by rw [sizeLine_eq]; exact Nat.le_trans l1 (by omega)⟩
theorem join_lS {s : Sto} {sep : Str} {ys : List Str} (hs : sep.length ≤ 1) (h : tot ys ≤ 1000000) : mbJoin2 s (.str sep) [.lst (ys.map .str)] = some (.str (Str.join sep ys)) := by
  have l1 := join_tot sep hs ys
  have l2 := sum_le ys sep.length hs
  have e : mbJoin2 s (.str sep) [.lst (ys.map .str)] = mbJoin s (.str sep) [.lst (ys.map .str)] := rfl
  rw [e]
  simp only [mbJoin, asL, Option.bind_some, allStr_map, TL.join_eq]
  rw [if_pos]
  exact ⟨by omega, by rw [sizeLine_eq]; exact Nat.le_trans l1 (by omega)⟩
def txD (d : D) : D := match d with
  | .tup [.str w] => .str (txt (w, none))
  | .tup [.str w, .str n] => .str (txt (w, some n))
  | d => d
theorem txD_c (p : Part) : txD (cD p) = .str (txt p) := by
  obtain ⟨w, o⟩ := p
  cases o <;> rfl
theorem kinds_text_ok {s : Sto} {L : D} {ls : List Part} (h : LsAt s L (ls.map cD)) (hs : ∀ p ∈ ls, LineOk p) (hl : ls.length ≤ 1000) : Wp (F__law_kinds_text [L] s) fun v s' => s' = s ∧ v = .str (textOf ls) := by
  rw [F__law_kinds_text, mFun_ap (n := 1) rfl, b__law_kinds_text]
  simp only [List.map_cons, List.map_nil, List.cons_append, List.nil_append, List.replicate_succ, List.replicate_zero]
  walk_at "ev"
  refine ⟨_, h.asl, ?_⟩
  refine Wp.mono (lc_map (f := txD) (show stays L (ls.map cD) s from h.asl) (ls.map cD) [] ?hh (by simp; omega)) ?kk
  case hh =>
    intro d hd
    obtain ⟨p, hp, rfl⟩ := List.mem_map.mp hd
    refine ⟨_, rfl, ?_⟩
    simp only [wipeE]
    walk_at "ev"
    have i0 : opIx s (cD p) (.int 0) = some (.str p.1) := by
      obtain ⟨u, o⟩ := p
      cases o <;> exact ix_tup (i := 0) rfl
    have tw := tot_ws (hs p hp)
    have hj : mbJoin2 s (.str " ") [cD p] = some (.str (jn p)) := join_tS (by decide) (by omega)
    have jl : (jn p).length ≤ 26 := Nat.le_trans (join_tot " " (by decide) (ws p)) tw
    have m0 : ("" : Str).length = 0 := rfl
    have m2 : ("  " : Str).length = 2 := rfl
    refine ⟨_, i0, _, eq_strs, _, rfl, ?_⟩
    rw [txD_c]
    by_cases c : p.1 = "kind"
    · rw [if_pos (by simpa using c)]
      refine ⟨_, hj, _, add_str (by rw [sizeLine_eq]; omega), ?_⟩
      unfold txt
      rw [if_pos c]
    · rw [if_neg (by simpa using c)]
      refine ⟨_, hj, _, add_str (by rw [sizeLine_eq]; omega), ?_⟩
      unfold txt
      rw [if_neg c]
  case kk =>
    rintro out s1 ⟨e1, e2⟩
    subst e1
    rw [List.nil_append, List.map_map] at e2
    have e3 : out = (ls.map txt).map .str := by
      rw [e2, List.map_map]
      apply List.map_congr_left
      intro p _
      exact txD_c p
    rw [e3]
    have tt := text_tot hs
    exact ⟨_, join_lS (by decide) (by have := tt.1; omega), rfl, rfl⟩
end K04
end
section
set_option maxRecDepth 100000
set_option maxHeartbeats 1000000
namespace K04
open PySem L2 Mi
local macro_rules | `(tactic| walk_at "ev") => `(tactic| simp only [mProp_ap, mInX_ap, mLenX_ap, mSubX_ap, mEqX_ap, mNeX_ap, mMethX_ap, mMkP_ap, qF_ap, mLm_ap, mDicR_ap, sPutR_ap, mSplR_ap, sSwp_ap, put1_ap, itE_ap, Wp_ok, Wp_bind, Wp_quiet, WpS_fl, WpS_then, Nx_nx, Nx_rt, Nx_bk, Nx_ct, mVar_ap, mC_ap, mOp_ap, mUn_ap, mB_ap, mTru_ap, mAnd_ap, mOr_ap, mNot_ap,
  bAnd_ap, bOr_ap, bNot_ap, bYes_ap, mIf_ap, mNil_ap, mCons_ap, mTup_ap, mLst_ap, mLstR_ap, mDic0_ap, mCall_ap, mCb_ap, mMb_ap, mStr_ap, mRevT_ap, mPart_ap, mNoPart_ap, mSl_ap, mChain_ap, itL_ap, itT_ap, itS_ap, itR1_ap,
  sNil_ap, sSeq_ap, sIf_ap, sRet_ap, sRetN_ap, sBrk_ap, sCnt_ap, sExp_ap, sAsg_ap, sPar_ap, sPar3_ap, tgN_ap, tgNil_ap, tgCons_ap, sSetIx_ap, sFor_ap, Wp_mLc,
  List.map_cons, List.map_nil, List.cons_append, List.nil_append, List.replicate_succ, List.replicate_zero, List.getElem?_cons_zero, List.getElem?_cons_succ, List.set_cons_zero, List.set_cons_succ, List.length_cons, List.length_nil,
  Option.some.injEq, Option.bind_some, exists_eq_left, exists_eq_left', true_and, and_true, D.bl.injEq, D.int.injEq, D.str.injEq, D.ref.injEq, D.tup.injEq, D.lst.injEq, List.cons.injEq, if_true, if_false, Bool.false_eq_true, reduceCtorEq, false_and, and_false, or_false, false_or, exists_false])
/-! ### parts in lists -/
/-! ### the law's turns -/
/-- one thing of the list: kinds that were read, their text -/
def Ent (s : Sto) (n q : Nat) (d : D) : Prop := ∃ m x K B, d = .tup [.ref m, .str x] ∧ KindsAt s B m x K ∧ q < B ∧ n < B ∧ m < s.length
theorem Ent.keep {s s' : Sto} {n q : Nat} {d : D} (h : Ent s n q d) (f : ∀ k, k ≠ n → k ≠ q → k < s.length → s'[k]? = s[k]?) (l : s.length ≤ s'.length) : Ent s' n q d := by
  obtain ⟨m, x, K, B, e, h1, h2, h3, h4⟩ := h
  exact ⟨m, x, K, B, e, h1.keep fun k a b => f k (by omega) (by omega) (by omega), h2, h3, by omega⟩
theorem KindsAt.nm {s : Sto} {B m : Nat} {x : Str} {K : List KP} (h : KindsAt s B m x K) : ∃ fl, insD s (.ref m) = some (("Kinds" : Str), fl) := by
  obtain ⟨_, _, fl, _, _, _, _, hi⟩ := h.fld
  exact ⟨fl, hi⟩
theorem KindsAt.nm1 {s : Sto} {B m : Nat} {x : Str} {K : List KP} (h : KindsAt s B m x K) : (insD s (.ref m)).map (·.1) = some ("Kinds" : Str) := by
  obtain ⟨fl, hi⟩ := h.nm
  rw [hi]; rfl
theorem lok_of {K : List KP} (h : KsOk K) : ∀ p ∈ lines K, LineOk p := fun p hp => by
  obtain ⟨k, hk, hp⟩ := List.mem_flatMap.mp hp
  rcases List.mem_cons.mp hp with rfl | hp
  · exact .inl ⟨rfl, k.1, rfl, h.fr k hk⟩
  · exact .inr ((h.ta k hk).2 p hp)
theorem sh_bl {s : Sto} (b : Bool) : ∃ x, cbShow s [.bl b] = some (.str x) := by
  refine ⟨_, if_pos ⟨rfl, ?_, ?_⟩⟩
  · cases b <;> decide +kernel
  · rw [sizeLine_eq]
    cases b <;> decide +kernel
theorem any_no {s : Sto} {ds : List D} (h : ∀ d ∈ ds, d = .bl false) : cbAny s [.lst ds] = some (.bl false) := by
  have e : ds = (List.replicate ds.length false).map .bl := by
    induction ds with
    | nil => rfl
    | cons d r ih => rw [List.length_cons, List.replicate_succ, List.map_cons, ← ih fun x hx => h x (List.mem_cons_of_mem _ hx), h d List.mem_cons_self]
  rw [e]
  simp only [cbAny, asL, Option.bind_some, allBl_map, Option.map_some]
  congr 2
  rw [List.any_eq_false]
  intro x hx
  rw [List.eq_of_mem_replicate hx]; simp
theorem right_ok {s : Sto} {n : Nat} (h : PotAt s n 0) (h0 : s[0]? = some TBL) : Wp (F__law_right [.ref n] s) fun v s' => v = .bl true ∧ s'[0]? = some TBL := by
  rw [F__law_right, mFun_ap (n := 1) rfl, b__law_right]
  simp only [List.map_cons, List.map_nil, List.cons_append, List.nil_append, List.replicate_succ, List.replicate_zero]
  have ln := h.lt
  have n0 : n ≠ 0 := fun z => by
    obtain ⟨_, _, _, e, _⟩ := h
    rw [z, h0] at e
    cases e
  refine seqK (fun e s' => e = [some (.ref n), some (.ref s.length), none, none, none, none, none, none, none, none] ∧ s' = s ++ [.lst true []]) ?_ ?_
  · walk_at "ev"
    rw [sizeLine_eq]; decide
  rintro _ _ ⟨rfl, rfl⟩
  have a1 : (s ++ [O.lst true []])[0]? = some TBL := by rw [List.getElem?_append_left (by omega)]; exact h0
  have a2 : (s ++ [O.lst true []])[s.length]? = some (.lst true []) := List.getElem?_concat_length
  have a3 : PotAt (s ++ [O.lst true []]) n 0 := h.app
  generalize s ++ [O.lst true []] = s0 at a1 a2 a3 ⊢
  generalize hq : s.length = q at ln a2 ⊢
  refine seqK (fun e s' => (∃ a2 a4 a5 a6, e = [some (.ref n), some (.ref q), a2, none, a4, a5, a6, none, none, none]) ∧ s'[0]? = some TBL ∧ ∃ es, s'[q]? = some (.lst true es) ∧ es.length ≤ 6 ∧ ∀ d ∈ es, Ent s' n q d) ?_ ?_
  · simp only [sFor_ap]
    walk_at "ev"
    refine ⟨by decide, ?_⟩
    refine WpS_forGo (fun r e s' => (∃ a2 a4 a5 a6, e = [some (.ref n), some (.ref q), a2, none, a4, a5, a6, none, none, none]) ∧ s'[0]? = some TBL ∧ ∃ es T, s'[q]? = some (.lst true es) ∧ es.length + r.length ≤ 6 ∧ (∀ d ∈ es, Ent s' n q d) ∧ PotAt s' n T ∧ T + 500 * r.length ≤ 3000) (fun _ _ _ _ => trivial) ?step ?fin _ _ _
      ⟨⟨_, _, _, _, rfl⟩, a1, [], 0, a2, by have : (rangeD 0 (6 : Int).toNat).length = 6 := rfl; rw [this]; decide, by simp, a3, by have : (rangeD 0 (6 : Int).toNat).length = 6 := rfl; omega⟩
    case fin =>
      rintro _ s1 ⟨⟨b2, b4, b5, b6, rfl⟩, t0, es, T, h1, h2, h3, h4, h5⟩
      exact ⟨⟨_, _, _, _, rfl⟩, t0, es, h1, by simpa using h2, h3⟩
    case step =>
      rintro d r _ s1 ⟨⟨b2, b4, b5, b6, rfl⟩, t0, es, T, h1, h2, h3, h4, h5⟩
      simp only [List.length_cons] at h2 h5
      refine ⟨_, rfl, ?_⟩
      have lq : q < s1.length := (List.getElem?_eq_some_iff.mp h1).1
      have q0 : q ≠ 0 := by omega
      -- the lines
      refine seqK (fun e s' => ∃ k K, e = [some (.ref n), some (.ref q), some d, none, b4, some (.ref k), b6, none, none, none] ∧ s1.length ≤ k ∧ s'[k]? = some (.lst true ((lines K).map cD)) ∧ KsOk K ∧ (∀ x ∈ K, x.1 ∈ nmsK) ∧ (∀ x ∈ K, x.2.length ≤ 18) ∧ K ≠ [] ∧ PotAt s' n (T + 500) ∧ Fr n s1 s') ?_ ?_
      · walk_at "ev"
        refine (kinds_lines_ok h4 (by omega)).mono fun v s2 ⟨⟨k, K, e, g1, g2, g3, g4, g5, g6⟩, p2, f2⟩ => ?_
        subst e
        exact ⟨k, K, rfl, g1, g2, g3, g4, g5, g6, p2, f2⟩
      rintro _ s2 ⟨k, K, rfl, k1, hk, ko, kn, kl, kne, p2, f2⟩
      have lok := lok_of ko
      have ll := lines_len kl
      have k8 := ko.len
      have lne : lines K ≠ [] := by
        cases K with
        | nil => exact absurd rfl kne
        | cons x r => rw [lines_cons]; simp
      have l2 := f2.1
      -- their text
      refine seqK (fun e s' => e = [some (.ref n), some (.ref q), some d, none, some (.str (textOf (lines K))), some (.ref k), b6, none, none, none] ∧ s' = s2) ?_ ?_
      · walk_at "ev"
        refine (kinds_text_ok (LsAt.ref hk) lok (by omega)).mono fun v s3 ⟨e1, e2⟩ => ?_
        subst e1; subst e2
        exact ⟨rfl, rfl⟩
      rintro _ s2 ⟨rfl, rfl⟩
      have rd := ko.rd
      generalize hx : textOf (lines K) = x
      have rok : ∀ s, Wp (F_read_kinds [.str x] s) fun v s' => ∃ m, v = .ref m ∧ KindsAt s' s.length m x K ∧ Kp s.length s s' ∧ m < s'.length ∧ s.length ≤ m := fun s => by
        have := read_ok (s := s) rd lne (by omega)
        rw [hx] at this
        exact this
      refine seqK (fun e s' => ∃ m, e = [some (.ref n), some (.ref q), some d, none, some (.str x), some (.ref k), some (.ref m), none, none, none] ∧ KindsAt s' s2.length m x K ∧ Kp s2.length s2 s' ∧ m < s'.length ∧ s2.length ≤ m) ?_ ?_
      · walk_at "ev"
        refine (rok s2).mono fun v s3 ⟨m, e, g⟩ => ?_
        subst e
        exact ⟨m, rfl, g⟩
      rintro _ s3 ⟨m, rfl, ka, kp, ml, mg⟩
      have t3 : s3[0]? = some TBL := by rw [kp.2 0 (by omega), f2.2 0 (Ne.symm n0) (by omega)]; exact t0
      have lk : k < s2.length := (List.getElem?_eq_some_iff.mp hk).1
      have hk3 : s3[k]? = some (.lst true ((lines K).map cD)) := by rw [kp.2 k lk]; exact hk
      -- what is asked
      refine seqK (fun e s' => e = [some (.ref n), some (.ref q), some d, none, some (.str x), some (.ref k), some (.ref m), none, none, none] ∧ Kp s3.length s3 s') ?_ ?_
      · rw [sIf_ap]
        walk_at "ev"
        refine (is_right_ok ka (LsAt.ref hk3) t3 kn (by omega) (fun y hy => by have := kl y hy; omega)).mono fun v s4 ⟨e1, e2⟩ => ?_
        subst e1; subst e2
        refine ⟨_, rfl, ?_⟩
        simp only [Bool.not_true, Bool.false_eq_true, if_false]
        refine (show_ok ka).mono fun v s4 ⟨e1, e2⟩ => ?_
        subst e1; subst e2
        refine ⟨_, ne_strs, _, rfl, ?_⟩
        rw [if_neg (by simp)]
        refine (rok s4).mono fun v s5 ⟨m', e, ka', kp', _, _⟩ => ?_
        subst e
        have ka5 : KindsAt s5 s2.length m x K := ka.keep fun j a b => kp'.2 j (by omega)
        refine ⟨ka'.nm, .inl ka5.nm1, (keq_ok ka' ka5).mono fun v s6 ⟨e1, e2⟩ => ?_⟩
        subst e1; subst e2
        refine ⟨_, rfl, ?_⟩
        simp
        exact kp'
      rintro _ s4 ⟨rfl, kp4⟩
      walk_at "ev"
      have l3 := kp.1
      have l4 := kp4.1
      have keep4 : ∀ j, j ≠ n → j < s1.length → s4[j]? = s1[j]? := fun j a b => by rw [kp4.2 j (by omega), kp.2 j (by omega), f2.2 j a b]
      have h4q : s4[q]? = some (.lst true es) := by rw [keep4 q (by omega) lq]; exact h1
      refine ⟨_, _, rfl, h4q, by rw [sizeLine_eq]; decide, _, _, _, h4q, app_ok (by omega), ⟨_, _, _, _, rfl, rfl, rfl, rfl⟩, ?_, es ++ [.tup [.ref m, .str x]], T + 500, List.getElem?_set_self (by omega), by simp; omega, fun d hd => ?_, ?_, by omega⟩
      · rw [List.getElem?_set_ne (by omega), kp4.2 0 (by omega)]; exact t3
      · rcases List.mem_append.mp hd with hd | hd
        · exact (h3 d hd).keep (fun j a b c => by rw [List.getElem?_set_ne (by omega)]; exact keep4 j a c) (by simp; omega)
        · rw [List.mem_singleton.mp hd]
          exact ⟨m, x, K, s2.length, rfl, ka.keep fun j a b => by rw [List.getElem?_set_ne (by omega), kp4.2 j (by omega)], by omega, by omega, by simp; omega⟩
      · have := (p2.keep kp).keep kp4
        exact this.set (by omega)
  rintro _ s1 ⟨⟨b2, b4, b5, b6, rfl⟩, t0, es, h1, h2, h3⟩
  have ea : asL s1 (.ref q) = some es := by simp only [asL, h1]
  refine seqK (fun e s' => s' = s1) ?_ ?_
  · simp only [sFor_ap]
    walk_at "ev"
    refine ⟨_, ea, ?_⟩
    refine WpS_forGo (fun r e s' => (∃ a2 a3 a4 a5 a6 a7 a8, e = [some (.ref n), some (.ref q), a2, a3, a4, a5, a6, a7, a8, none]) ∧ s' = s1 ∧ ∀ d ∈ r, d ∈ es) (fun _ _ _ h => by rw [h.2.1]; exact ea) ?step2 ?fin2 _ _ _
      ⟨⟨_, _, _, _, _, _, _, rfl⟩, rfl, fun _ h => h⟩
    case fin2 =>
      rintro _ s2 ⟨_, rfl, _⟩
      rfl
    case step2 =>
      rintro d r _ s2 ⟨⟨c2, c3, c4, c5, c6, c7, c8, rfl⟩, rfl, sub⟩
      obtain ⟨m, x, K, B, rfl, ka, _, _, _⟩ := h3 d (sub d List.mem_cons_self)
      refine ⟨_, rfl, ?_⟩
      refine seqK (fun e s' => (∃ a7 a8, e = [some (.ref n), some (.ref q), c2, some (.ref m), some (.str x), c5, c6, a7, a8, none]) ∧ s' = s2) ?_ ?_
      · simp only [sFor_ap]
        walk_at "ev"
        refine ⟨_, ea, ?_⟩
        refine WpS_forGo (fun r e s' => (∃ a7 a8, e = [some (.ref n), some (.ref q), c2, some (.ref m), some (.str x), c5, c6, a7, a8, none]) ∧ s' = s2 ∧ ∀ d ∈ r, d ∈ es) (fun _ _ _ h => by rw [h.2.1]; exact ea) ?step3 ?fin3 _ _ _
          ⟨⟨_, _, rfl⟩, rfl, fun _ h => h⟩
        case fin3 =>
          rintro _ s3 ⟨⟨a7, a8, rfl⟩, rfl, _⟩
          exact ⟨⟨_, _, rfl⟩, rfl⟩
        case step3 =>
          rintro d' r' _ s3 ⟨⟨a7, a8, rfl⟩, rfl, sub'⟩
          obtain ⟨m', x', K', B', rfl, ka', _, _, _⟩ := h3 d' (sub' d' List.mem_cons_self)
          refine ⟨_, rfl, ?_⟩
          rw [sIf_ap]
          walk_at "ev"
          refine ⟨ka.nm, .inl ka'.nm1, (keq_ok ka ka').mono fun v s4 ⟨e1, e2⟩ => ?_⟩
          subst e1; subst e2
          obtain ⟨z, hz⟩ := sh_bl (s := s4) (x == x')
          refine ⟨_, rfl, _, hz, _, eq_strs, _, hz, _, ne_strs, _, rfl, ?_⟩
          rw [if_neg (by simp)]
          exact ⟨⟨_, _, rfl, rfl⟩, rfl, fun d hd => sub' d (List.mem_cons_of_mem _ hd)⟩
      rintro _ s3 ⟨⟨a7, a8, rfl⟩, rfl⟩
      rw [sIf_ap]
      walk_at "ev"
      obtain ⟨fl, hi⟩ := ka.nm
      refine ⟨fl, hi, (knames_ok ka).mono fun v s4 ⟨e1, e2⟩ => ?_⟩
      subst e1; subst e2
      refine ⟨by rw [sizeLine_eq]; decide, ?_⟩
      refine Wp.mono (lc_map (G := fun _ => True) (f := fun _ => .bl false) trivial [.str x, tS (K.map (·.1)), .non, .int 0, .bl true] [] ?h4 (by simp)) ?k4
      case h4 =>
        intro d hd
        refine ⟨_, rfl, ?_⟩
        simp only [wipeE]
        walk_at "ev"
        have : clsD s4 d = none ∧ (∀ c fs, d ≠ .exc c fs) ∧ ∃ n, tyName s4 d = some n ∧ n ∈ ["str", "tuple", "NoneType", "int", "bool"] := by
          simp only [List.mem_cons, List.not_mem_nil, or_false] at hd
          rcases hd with rfl | rfl | rfl | rfl | rfl
          · exact ⟨rfl, (fun c fs => by intro z; cases z), "str", rfl, by decide⟩
          · exact ⟨rfl, (fun c fs => by intro z; cases z), "tuple", rfl, by decide⟩
          · exact ⟨rfl, (fun c fs => by intro z; cases z), "NoneType", rfl, by decide⟩
          · exact ⟨rfl, (fun c fs => by intro z; cases z), "int", rfl, by decide⟩
          · exact ⟨rfl, (fun c fs => by intro z; cases z), "bool", rfl, by decide⟩
        obtain ⟨d1, d2, nn, d3, d4⟩ := this
        refine ⟨⟨fl, hi⟩, .inr ⟨nn, d4, d3⟩, (keq_no ka d1 d2 d3 d4).mono fun v s5 ⟨e1, e2⟩ => ?_⟩
        subst e1; subst e2
        exact ⟨_, rfl, rfl, rfl⟩
      case k4 =>
        rintro out s5 ⟨e1, e2⟩
        subst e1; subst e2
        refine ⟨_, any_no (by simp), _, rfl, ?_⟩
        simp only [Bool.false_eq_true, if_false]
        exact ⟨⟨_, _, _, _, _, _, _, rfl, rfl, rfl, rfl, rfl, rfl, rfl⟩, trivial, fun d hd => sub d (List.mem_cons_of_mem _ hd)⟩
  rintro e s2 rfl
  walk_at "ev"
  exact t0
/-! ### by hand -/
def docK : List KP := [("net", [("fixed", some "range"), ("fresh", some "id"), ("free", some "zone"), ("held", none)]), ("box", [("set", some "size"), ("set", some "net"), ("set", some "label"), ("fresh", some "id"), ("unique", some "label"), ("token", none)])]
def taB : List Part → List Part → Bool
  | _, [] => true
  | a, p :: r => takesB a p && taB (a ++ [p]) r
theorem ta_of : ∀ {b a : List Part}, taB a b = true → TA a b
  | [], _, _ => trivial
  | p :: r, a, h => by
    simp only [taB, Bool.and_eq_true] at h
    exact ⟨h.1, ta_of h.2⟩
def partB (p : Part) : Bool := match p.2 with
  | some n => decide (p.1 ∈ w5) && freeB n
  | none => decide (p.1 ∈ marks)
theorem part_of {p : Part} (h : partB p = true) : PartOk p := by
  obtain ⟨w, o⟩ := p
  cases o with
  | none => exact .inr ⟨by simpa [partB] using h, rfl⟩
  | some n =>
    simp only [partB, Bool.and_eq_true, decide_eq_true_eq] at h
    exact .inl ⟨h.1, n, rfl, h.2⟩
def ksB (K : List KP) : Bool := decide ((K.map (·.1)).Nodup) && K.all (fun k => freeB k.1 && taB [] k.2 && k.2.all partB && decide (k.1 ∈ nmsK)) && decide (K.length ≤ 8)
theorem ks_of {K : List KP} (h : ksB K = true) : KsOk K ∧ ∀ k ∈ K, k.1 ∈ nmsK := by
  simp only [ksB, Bool.and_eq_true, decide_eq_true_eq, List.all_eq_true] at h
  obtain ⟨⟨h1, h2⟩, h3⟩ := h
  exact ⟨⟨h1, fun k hk => (h2 k hk).1.1.1, fun k hk => ⟨ta_of (h2 k hk).1.1.2, fun p hp => part_of ((h2 k hk).1.2 p hp)⟩, h3⟩, fun k hk => (h2 k hk).2⟩
theorem document_ok {s : Sto} (h0 : s[0]? = some TBL) : Wp (F__law_document [] s) fun v s' => v = .bl true ∧ s'[0]? = some TBL := by
  obtain ⟨ko, kn⟩ := ks_of (K := docK) (by decide +kernel)
  have l0 : 0 < s.length := (List.getElem?_eq_some_iff.mp h0).1
  rw [F__law_document, mFun_ap (n := 0) rfl, b__law_document]
  simp only [List.map_nil, List.cons_append, List.nil_append, List.replicate_succ, List.replicate_zero]
  have sz : ∀ k, k ≤ 100 → k ≤ sizeLine := fun k h => by rw [sizeLine_eq]; omega
  refine seqK (fun e s' => e = [some (.lst (((lines docK).take 5).map cD))] ∧ s' = s) ?_ ?_
  · walk_at "ev"
    exact ⟨sz _ (by decide), sz _ (by decide), sz _ (by decide), sz _ (by decide), sz _ (by decide), sz _ (by decide), rfl⟩
  rintro _ s ⟨rfl, rfl⟩
  refine seqK (fun e s' => e = [some (.lst (((lines docK).take 10).map cD))] ∧ s' = s) ?_ ?_
  · walk_at "ev"
    exact ⟨sz _ (by decide), sz _ (by decide), sz _ (by decide), sz _ (by decide), sz _ (by decide), sz _ (by decide), _, add_lst (sz _ (by decide)), rfl⟩
  rintro _ s ⟨rfl, rfl⟩
  refine seqK (fun e s' => e = [some (.lst ((lines docK).map cD))] ∧ s' = s) ?_ ?_
  · walk_at "ev"
    exact ⟨sz _ (by decide), sz _ (by decide), sz _ (by decide), _, add_lst (sz _ (by decide)), rfl⟩
  rintro _ s ⟨rfl, rfl⟩
  walk_at "ev"
  refine (kinds_text_ok LsAt.lst (lok_of ko) (by decide)).mono fun v s1 ⟨e1, e2⟩ => ?_
  subst e1; subst e2
  refine (read_ok ko.rd (by decide) (by decide)).mono fun v s2 ⟨m, e, ka, kp, _, _⟩ => ?_
  subst e
  have t2 : s2[0]? = some TBL := by rw [kp.2 0 l0]; exact h0
  refine (is_right_ok ka LsAt.lst t2 kn (by decide) (by decide)).mono fun v s3 ⟨e1, e2⟩ => ?_
  subst e1; subst e2
  exact ⟨rfl, t2⟩
theorem lc_inv {J : Sto → Prop} {g : Tg} {fe : ET} {env : Mi.Env} : ∀ (ds acc : List D) (s : Sto), J s → (∀ d ∈ ds, ∃ e2, g d env = some e2 ∧ ∀ s, J s → Wp (fe e2 s) fun y s' => y = .bl true ∧ J s') → acc.length + ds.length ≤ 1000000 → (∀ x ∈ acc, x = .bl true) →
      Wp (lcGo (fun _ => True) g bYes fe env ds acc s) fun out _ => ∀ x ∈ out, x = .bl true
  | [], acc, s, _, _, _, ha => by
    rw [lcGo, if_pos True.intro]
    exact ha
  | d :: r, acc, s, hJ, h, hl, ha => by
    obtain ⟨e2, he, hw⟩ := h d List.mem_cons_self
    rw [lcGo, if_pos True.intro, he]
    rw [List.length_cons] at hl
    walk_at "ev"
    refine (hw s hJ).mono fun y s1 ⟨hy, j1⟩ => ?_
    rw [if_pos (Nat.lt_of_lt_of_le (show acc.length < 1000001 by omega) (by decide))]
    refine lc_inv r (acc ++ [y]) s1 j1 (fun x hx => h x (List.mem_cons_of_mem _ hx)) (by simp; omega) fun x hx => ?_
    rcases List.mem_append.mp hx with hx | hx
    · exact ha x hx
    · rw [List.mem_singleton.mp hx]; exact hy
theorem pot_T {s : Sto} {ns : List Int} {k : Int} (h0 : 0 ≤ k) (h3 : k < 3) (t : s[0]? = some TBL) : Wp (F__law_pot [.scr ns, .int k] s) fun v s' => ∃ n, v = .ref n ∧ PotAt s' n 0 ∧ s'[0]? = some TBL := by
  have l0 : 0 < s.length := (List.getElem?_eq_some_iff.mp t).1
  rw [F__law_pot, mFun_ap (n := 2) rfl, b__law_pot]
  simp only [List.map_cons, List.map_nil, List.cons_append, List.nil_append, List.replicate_succ, List.replicate_zero]
  refine seqK (fun e s' => (∃ c, e = [some (.scr ns), some (.int k), some (.int c), none]) ∧ s' = s) ?_ ?_
  · walk_at "ev"
    refine ⟨_, rfl, _, rfl, _, rfl, ?_⟩
    by_cases c : k < (ns.length : Int)
    · rw [if_pos (decide_eq_true c)]
      obtain ⟨x, hx, _⟩ := at_lt h0 c
      exact ⟨.int x, by show (atI ns k).map _ = _; rw [hx]; rfl, x, rfl⟩
    · rw [if_neg (by simpa using c)]
      exact ⟨_, mul_l (by decide) (by decide), _, rfl, _, rfl⟩
  rintro _ s ⟨⟨c, rfl⟩, rfl⟩
  refine seqK (fun e s' => (∃ g : Int, e = [some (.scr ns), some (.int k), some (.int c), some (.int g)] ∧ 0 ≤ g) ∧ s' = s) ?_ ?_
  · walk_at "ev"
    refine ⟨_, rfl, _, pow_nn (j := 18) (k := 4) (by decide) (by decide) (by decide), _, rfl, _, rfl, ?_⟩
    refine ite_both ?_ (by decide)
    refine ⟨_, rfl, _, pow_nn (j := 60) (k := 4) (by decide) (by decide) (by decide), _, pow_nn (j := 3) (k := 200) (by decide) (by decide) (by decide), _, mod_pos (by decide), _, rfl, Int.emod_nonneg _ (by decide)⟩
  rintro _ s ⟨⟨g, rfl, hg⟩, rfl⟩
  walk_at "ev"
  have b1 := Int.emod_nonneg c (show (2305843009213693951 : Int) ≠ 0 by decide)
  have b2 := Int.emod_lt_of_pos c (show (0 : Int) < 2305843009213693951 by decide)
  refine ⟨_, mod_pos (by decide), _, mul_r (by decide) (by decide), _, mul_l (by decide) (by decide), _, mul_r (by omega) (by omega), _, rfl, _, rfl, _, mod_pos (by decide), by decide, ⟨g, _, 0, List.getElem?_concat_length, hg, ?_, ?_, by decide, by decide⟩, by rw [List.getElem?_append_left l0]; exact t⟩
  · exact Int.emod_nonneg _ (by decide)
  · exact Int.lt_trans (Int.emod_lt_of_pos _ (by decide)) (by decide)
def oneK : List KP := [("a", [])]
theorem one_txt : textOf (lines oneK) = "kind a" := by decide +kernel
theorem law_mir (ns : List Int) : Wp (F_law [.scr ns] (sto0 0 [("_law_is_right", "_law_is_right.<locals>.<lambda>")])) fun v _ => v = .bl true := by
  have t0 : (sto0 0 [("_law_is_right", "_law_is_right.<locals>.<lambda>")])[0]? = some TBL := rfl
  generalize sto0 0 [("_law_is_right", "_law_is_right.<locals>.<lambda>")] = s at t0
  obtain ⟨ko, kn⟩ := ks_of (K := oneK) (by decide +kernel)
  have rok : ∀ s, s[0]? = some TBL → Wp (F_read_kinds [.str "kind a"] s) fun v s' => ∃ m, v = .ref m ∧ KindsAt s' s.length m "kind a" oneK ∧ s'[0]? = some TBL := fun s t => by
    have l0 : 0 < s.length := (List.getElem?_eq_some_iff.mp t).1
    have := read_ok (s := s) ko.rd (by decide) (by decide)
    rw [one_txt] at this
    exact this.mono fun v s' ⟨m, e, ka, kp, _, _⟩ => ⟨m, e, ka, by rw [kp.2 0 l0]; exact t⟩
  rw [F_law, mFun_ap (n := 1) rfl, b_law]
  simp only [List.map_cons, List.map_nil, List.cons_append, List.nil_append, List.replicate_succ, List.replicate_zero]
  refine seqK (fun e s' => e = [some (.scr ns), none] ∧ s'[0]? = some TBL) ?_ ?_
  · rw [sIf_ap]
    walk_at "ev"
    refine (document_ok t0).mono fun v s1 ⟨e1, t1⟩ => ?_
    subst e1
    refine ⟨_, rfl, ?_⟩
    simp only [Bool.not_true, Bool.false_eq_true, if_false]
    refine (rok s1 t1).mono fun v s2 ⟨m, e, ka, t2⟩ => ?_
    subst e
    obtain ⟨fl, hi⟩ := ka.nm
    refine ⟨fl, hi, (klen_ok ka).mono fun v s3 ⟨e1, e2⟩ => ?_⟩
    subst e1; subst e2
    refine ⟨_, rfl, ⟨by decide, by decide⟩, _, ne_int, _, rfl, ?_⟩
    rw [if_neg (by decide)]
    refine (rok s3 t2).mono fun v s4 ⟨m2, e, ka4, t4⟩ => ?_
    subst e
    obtain ⟨fl4, hi4⟩ := ka4.nm
    refine ⟨fl4, hi4, (kget_ok (k := ("a", [])) ka4 (by decide) (by decide)).mono fun v s5 ⟨e1, q, l, e2, hq, hk⟩ => ?_⟩
    subst e1; subst e2
    obtain ⟨fl5, hi5, _⟩ := insK hk
    refine ⟨fl5, hi5, (set_fields_ok hk).mono fun v s6 ⟨e1, e2⟩ => ?_⟩
    subst e1; subst e2
    have nt := ne_tS (s := s6) (xs := []) (ys := []) (by simp) (by simp)
    refine ⟨by rw [sizeLine_eq]; decide, _, nt, _, rfl, ?_⟩
    rw [if_neg (by decide)]
    exact t4
  rintro _ s ⟨rfl, t⟩
  walk_at "ev"
  have mx : ∃ j : Int, cbMax s [.int 1, .int (if (ns.length : Int) < 3 then (ns.length : Int) else 3)] = some (.int j) ∧ 0 ≤ j ∧ j ≤ 3 := by
    refine ⟨_, rfl, ?_⟩
    split <;> split <;> omega
  obtain ⟨j, ej, j0, j3⟩ := mx
  refine ⟨_, rfl, _, rfl, _, ej, j, rfl, ⟨by omega, by omega⟩, ?_⟩
  refine Wp.mono (lc_inv (J := fun s => s[0]? = some TBL) (rangeD 0 j.toNat) [] s t ?h2 (by simp [rangeD]; omega) (by simp)) ?_
  case h2 =>
    intro d hd
    obtain ⟨i, i0, i1, rfl⟩ : ∃ i : Int, 0 ≤ i ∧ i < 3 ∧ d = .int i := by
      unfold rangeD at hd
      obtain ⟨i, hi, rfl⟩ := List.mem_map.mp hd
      have := List.mem_range.mp hi
      exact ⟨_, by omega, by omega, rfl⟩
    refine ⟨_, rfl, fun s hs => ?_⟩
    simp only [wipeE]
    walk_at "ev"
    refine (pot_T i0 i1 hs).mono fun v s1 ⟨n, e, p, t1⟩ => ?_
    subst e
    exact right_ok p t1
  intro out s1 ho
  exact ⟨_, all_true ho, rfl⟩
end K04
end
section
set_option maxRecDepth 100000
set_option maxHeartbeats 4000000
namespace K04
open PySem L2 Mi
theorem all_mk {l : PySem.W.OpenLaw} {w : World} {K : PySem.W.Frag} {h : Heap} {mg : Str → Option Value} {fa C_LaterError C_NoField C_BadKinds C_NoKind fi_BadKinds fi_NoKind C_Kind C_Kinds f1 f2 f3 f4 f5 f6 f7 f8 f9 pp_Kind_name f10 pp_Kind_set_fields f11 pp_Kind_fixed_fields f12 pp_Kind_fresh_answers f13 pp_Kind_free_answers f14 pp_Kind_unique_fields f15 pp_Kind_held f16 pp_Kind_single f17 pp_Kind_token f18 pp_Kind_guarded f19 f20 pp_Kinds_names f21 f22 f23 f24 f25 f26 f27 f28 f29 f30 f31 f32 f33 f34 f35 f36 f37 f38 f39 cc39 PP39 f40 f41 f42 ad_ANSWERS ad_FIELDS ad_MARKS ad_RESERVED : Addr} (X : K.In h) (G : h.Ns mainGlobals mg) (hfa : mg "law" = some (.ref fa))
    {od1 an1 od2 an2 od3 an3 od4 an4 od5 an5 od6 an6 od7 an7 od8 an8 od9 an9 od10 an10 od11 an11 od12 an12 od13 an13 od14 an14 od15 an15 od16 an16 od17 an17 od18 an18 od19 an19 od20 an20 od21 an21 od22 an22 od23 an23 od24 an24 od25 an25 od26 an26 od27 an27 od28 an28 od29 an29 od30 an30 od31 an31 od32 an32 od33 an33 od34 an34 od35 an35 od36 an36 od37 an37 od38 an38 od39 an39 wd39 od40 an40 od41 an41 od42 an42 : Option Addr} {sl1 sl2 sl3 sl4 sl5 sl6 sl7 sl8 sl9 sl10 sl11 sl12 sl13 sl14 sl15 sl16 sl17 sl18 sl19 sl20 sl21 sl22 sl23 sl24 sl25 sl26 sl27 sl28 sl29 sl30 sl31 sl32 sl33 sl34 sl35 sl36 sl37 sl38 sl39 ws39 sl40 sl41 sl42 : Array (Option Value)} {oc1 kV1 dc1 pm1 ct1 cd1 oc2 kV2 dc2 pm2 ct2 cd2 oc3 kV3 dc3 pm3 ct3 cd3 oc4 kV4 dc4 pm4 ct4 cd4 oc5 kV5 dc5 pm5 ct5 cd5 oc6 kV6 dc6 pm6 ct6 cd6 oc7 kV7 dc7 pm7 ct7 cd7 oc8 kV8 dc8 pm8 ct8 cd8 oc9 kV9 dc9 pm9 ct9 cd9 oc10 kV10 dc10 pm10 ct10 cd10 oc11 kV11 dc11 pm11 ct11 cd11 oc12 kV12 dc12 pm12 ct12 cd12 oc13 kV13 dc13 pm13 ct13 cd13 oc14 kV14 dc14 pm14 ct14 cd14 oc15 kV15 dc15 pm15 ct15 cd15 oc16 kV16 dc16 pm16 ct16 cd16 oc17 kV17 dc17 pm17 ct17 cd17 oc18 kV18 dc18 pm18 ct18 cd18 oc19 kV19 dc19 pm19 ct19 cd19 oc20 kV20 dc20 pm20 ct20 cd20 oc21 kV21 dc21 pm21 ct21 cd21 oc22 kV22 dc22 pm22 ct22 cd22 oc23 kV23 dc23 pm23 ct23 cd23 oc24 kV24 dc24 pm24 ct24 cd24 oc25 kV25 dc25 pm25 ct25 cd25 oc26 kV26 dc26 pm26 ct26 cd26 oc27 kV27 dc27 pm27 ct27 cd27 oc28 kV28 dc28 pm28 ct28 cd28 oc29 kV29 dc29 pm29 ct29 cd29 oc30 kV30 dc30 pm30 ct30 cd30 oc31 kV31 dc31 pm31 ct31 cd31 oc32 kV32 dc32 pm32 ct32 cd32 oc33 kV33 dc33 pm33 ct33 cd33 oc34 kV34 dc34 pm34 ct34 cd34 oc35 kV35 dc35 pm35 ct35 cd35 oc36 kV36 dc36 pm36 ct36 cd36 oc37 kV37 dc37 pm37 ct37 cd37 oc38 kV38 dc38 pm38 ct38 cd38 oc39 kV39 dc39 pm39 ct39 we39 oc40 kV40 dc40 pm40 ct40 cd40 oc41 kV41 dc41 pm41 ct41 cd41 oc42 kV42 dc42 pm42 ct42 cd42 : Value} {wv39 : Array Value} {uANSWERS0 uANSWERS1 uFIELDS0 uFIELDS1 t_FIXED t_FREE t_FRESH t_INDENT t_KIND t_LETTERS uMARKS0 uMARKS1 uMARKS2 uMARKS3 t_MOST_ANSWERS t_MOST_FIELDS t_MOST_KINDS t_MOST_NAME t_PAIR uRESERVED0 uRESERVED1 uRESERVED2 uRESERVED3 uRESERVED4 uRESERVED5 uRESERVED6 uRESERVED7 uRESERVED8 uRESERVED9 uRESERVED10 uRESERVED11 uRESERVED12 uRESERVED13 uRESERVED14 uRESERVED15 uRESERVED16 uRESERVED17 uRESERVED18 uRESERVED19 uRESERVED20 uRESERVED21 uRESERVED22 uRESERVED23 uRESERVED24 uRESERVED25 t_SET t_UNIQUE : Tok} {rs_Kind_name rs_Kind_set_fields rs_Kind_fixed_fields rs_Kind_fresh_answers rs_Kind_free_answers rs_Kind_unique_fields rs_Kind_held rs_Kind_single rs_Kind_token rs_Kind_guarded rs_Kinds_names : List Value} {du_ANSWERS : Option Addr} {nu_ANSWERS : Nat} {su_ANSWERS : Array (Option Value)} {du_FIELDS : Option Addr} {nu_FIELDS : Nat} {su_FIELDS : Array (Option Value)} {du_MARKS : Option Addr} {nu_MARKS : Nat} {su_MARKS : Array (Option Value)} {du_RESERVED : Option Addr} {nu_RESERVED : Nat} {su_RESERVED : Array (Option Value)}
    (aC_LaterError : PySem.W.nsIn K mainGlobals "LaterError" = some (some (.ref C_LaterError)))
    (aC_NoField : PySem.W.nsIn K mainGlobals "NoField" = some (some (.ref C_NoField)))
    (aC_BadKinds : PySem.W.nsIn K mainGlobals "BadKinds" = some (some (.ref C_BadKinds)))
    (aC_NoKind : PySem.W.nsIn K mainGlobals "NoKind" = some (some (.ref C_NoKind)))
    (xk_BadKinds : XvK l.prog K C_BadKinds fi_BadKinds)
    (qsup : PySem.W.nsIn K mainGlobals "super" = some none)
    (xk_NoKind : XvK l.prog K C_NoKind fi_NoKind)
    (xga_NoKind : PySem.W.findIn K (.ref C_NoKind) "__getattribute__" = some (some (.builtin "BaseException.__getattribute__")))
    (xgg_NoKind : PySem.W.findIn K (.ref C_NoKind) "__getattr__" = some none)
    (xsb_NoKind : PySem.W.subIn K (.ref C_NoKind) (.type "BaseException") = some true)
    (xhd_NoKind : PySem.W.hasDictIn K C_NoKind = true)
    (xca_NoKind : PySem.W.findIn K (.ref C_NoKind) "__class__" = some (some (.builtin "object.__class__")))
    (xcg_NoKind : PySem.W.specialIn K (.builtin "object.__class__") "__get__" = some (some (.builtin "getset_descriptor.__get__")))
    (xck_NoKind : PySem.W.takesIn K (.builtin "object.__class__") = some true)
    (xcm_NoKind : PySem.W.mroIn K C_NoKind (.type "object") = some true)
    (nx_NoKind_value : PySem.W.findIn K (.ref C_NoKind) "value" = some none)
    (aC_Kind : PySem.W.nsIn K mainGlobals "Kind" = some (some (.ref C_Kind)))
    (pg_Kind : PySem.W.plainGet K C_Kind Str.empty = true)
    (hd_Kind : PySem.W.hasDictIn K C_Kind = true)
    (po_Kind : PySem.W.plainOver K C_Kind = true)
    (sa_Kind : PySem.W.findIn K (.ref C_Kind) "__setattr__" = some (some (.builtin "object.__setattr__")))
    (ca_Kind : PySem.W.findIn K (.ref C_Kind) "__class__" = some (some (.builtin "object.__class__")))
    (cg_Kind : PySem.W.specialIn K (.builtin "object.__class__") "__get__" = some (some (.builtin "getset_descriptor.__get__")))
    (ck_Kind : PySem.W.takesIn K (.builtin "object.__class__") = some true)
    (cm_Kind : PySem.W.mroIn K C_Kind (.type "object") = some true)
    (na_Kind_held_name : PySem.W.findIn K (.ref C_Kind) "held_name" = some none)
    (na_Kind_held_parts : PySem.W.findIn K (.ref C_Kind) "held_parts" = some none)
    (aC_Kinds : PySem.W.nsIn K mainGlobals "Kinds" = some (some (.ref C_Kinds)))
    (pg_Kinds : PySem.W.plainGet K C_Kinds Str.empty = true)
    (hd_Kinds : PySem.W.hasDictIn K C_Kinds = true)
    (po_Kinds : PySem.W.plainOver K C_Kinds = true)
    (sa_Kinds : PySem.W.findIn K (.ref C_Kinds) "__setattr__" = some (some (.builtin "object.__setattr__")))
    (ca_Kinds : PySem.W.findIn K (.ref C_Kinds) "__class__" = some (some (.builtin "object.__class__")))
    (cg_Kinds : PySem.W.specialIn K (.builtin "object.__class__") "__get__" = some (some (.builtin "getset_descriptor.__get__")))
    (ck_Kinds : PySem.W.takesIn K (.builtin "object.__class__") = some true)
    (cm_Kinds : PySem.W.mroIn K C_Kinds (.type "object") = some true)
    (na_Kinds_held_kinds : PySem.W.findIn K (.ref C_Kinds) "held_kinds" = some none)
    (na_Kinds_own_text : PySem.W.findIn K (.ref C_Kinds) "own_text" = some none)
    (em1_LaterError : PySem.W.subIn K (.ref C_LaterError) (.type "BaseException") = some true)
    (em2_LaterError : PySem.W.hasDictIn K C_LaterError = true)
    (em3_LaterError : PySem.W.typeIn K (.ref C_LaterError) = some (.type "type"))
    (em4_LaterError_NoKind : PySem.W.subIn K (.ref C_NoKind) (.ref C_LaterError) = some true)
    (kt_Kinds_Kinds : PySem.W.kitOne K (.ref C_Kinds) (.ref C_Kinds) = some true)
    (kt_Kinds_bool : PySem.W.kitOne K (.type "bool") (.ref C_Kinds) = some false)
    (kt_Kinds_int : PySem.W.kitOne K (.type "int") (.ref C_Kinds) = some false)
    (kt_Kinds_NoneType : PySem.W.kitOne K (.type "NoneType") (.ref C_Kinds) = some false)
    (kt_Kinds_tuple : PySem.W.kitOne K (.type "tuple") (.ref C_Kinds) = some false)
    (kt_Kinds_str : PySem.W.kitOne K (.type "str") (.ref C_Kinds) = some false)
    (kt_NoKind_NoKind : PySem.W.kitOne K (.ref C_NoKind) (.ref C_NoKind) = some true)
    (kt_BadKinds_NoField_NoKind : PySem.W.kitAny K (.ref C_NoKind) [.ref C_BadKinds, .ref C_NoField] = some false)
    (a1 : PySem.W.nsIn K mainGlobals "is_name" = some (some (.ref f1)))
    (l1 : K.lookup f1 = some ⟨oc1, od1, .func (PySem.W.fnOf "is_name" "is_name" (defArgs s_is_name) (defBody s_is_name) (defScope s_is_name) .none kV1 dc1 pm1 an1 cd1 ct1), sl1⟩)
    (c1 : PySem.W.codeIn K cd1 "is_name" = true)
    (k1 : PySem.W.keepIn K (.ref f1) = true)
    (a2 : PySem.W.nsIn K mainGlobals "is_free_name" = some (some (.ref f2)))
    (l2 : K.lookup f2 = some ⟨oc2, od2, .func (PySem.W.fnOf "is_free_name" "is_free_name" (defArgs s_is_free_name) (defBody s_is_free_name) (defScope s_is_free_name) .none kV2 dc2 pm2 an2 cd2 ct2), sl2⟩)
    (c2 : PySem.W.codeIn K cd2 "is_free_name" = true)
    (k2 : PySem.W.keepIn K (.ref f2) = true)
    (l3 : K.lookup f3 = some ⟨oc3, od3, .func (PySem.W.fnOf "__init__" "Kind.__init__" (defArgs s_Kind___init__) (defBody s_Kind___init__) (defScope s_Kind___init__) .none kV3 dc3 pm3 an3 cd3 ct3), sl3⟩)
    (c3 : PySem.W.codeIn K cd3 "Kind.__init__" = true)
    (k3 : PySem.W.keepIn K (.ref f3) = true)
    (mi_Kind : PySem.W.findIn K (.ref C_Kind) "__init__" = some (some (.ref f3)))
    (mm_Kind : PySem.W.makesIn K C_Kind = true)
    (mf_Kind : PySem.W.isFn K (.ref f3) = true)
    (mk_Kind : PySem.W.keepIn K (.ref C_Kind) = true)
    (l4 : K.lookup f4 = some ⟨oc4, od4, .func (PySem.W.fnOf "named" "Kind.named" (defArgs s_Kind_named) (defBody s_Kind_named) (defScope s_Kind_named) .none kV4 dc4 pm4 an4 cd4 ct4), sl4⟩)
    (c4 : PySem.W.codeIn K cd4 "Kind.named" = true)
    (k4 : PySem.W.keepIn K (.ref f4) = true)
    (ma_Kind_named : PySem.W.findIn K (.ref C_Kind) "named" = some (some (.ref f4)))
    (mb_Kind_named : PySem.W.isFn K (.ref f4) = true)
    (mc_Kind_named : PySem.W.keepIn K (.ref f4) = true)
    (l5 : K.lookup f5 = some ⟨oc5, od5, .func (PySem.W.fnOf "has_mark" "Kind.has_mark" (defArgs s_Kind_has_mark) (defBody s_Kind_has_mark) (defScope s_Kind_has_mark) .none kV5 dc5 pm5 an5 cd5 ct5), sl5⟩)
    (c5 : PySem.W.codeIn K cd5 "Kind.has_mark" = true)
    (k5 : PySem.W.keepIn K (.ref f5) = true)
    (ma_Kind_has_mark : PySem.W.findIn K (.ref C_Kind) "has_mark" = some (some (.ref f5)))
    (mb_Kind_has_mark : PySem.W.isFn K (.ref f5) = true)
    (mc_Kind_has_mark : PySem.W.keepIn K (.ref f5) = true)
    (l6 : K.lookup f6 = some ⟨oc6, od6, .func (PySem.W.fnOf "all_names" "Kind.all_names" (defArgs s_Kind_all_names) (defBody s_Kind_all_names) (defScope s_Kind_all_names) .none kV6 dc6 pm6 an6 cd6 ct6), sl6⟩)
    (c6 : PySem.W.codeIn K cd6 "Kind.all_names" = true)
    (k6 : PySem.W.keepIn K (.ref f6) = true)
    (ma_Kind_all_names : PySem.W.findIn K (.ref C_Kind) "all_names" = some (some (.ref f6)))
    (mb_Kind_all_names : PySem.W.isFn K (.ref f6) = true)
    (mc_Kind_all_names : PySem.W.keepIn K (.ref f6) = true)
    (l7 : K.lookup f7 = some ⟨oc7, od7, .func (PySem.W.fnOf "takes" "Kind.takes" (defArgs s_Kind_takes) (defBody s_Kind_takes) (defScope s_Kind_takes) .none kV7 dc7 pm7 an7 cd7 ct7), sl7⟩)
    (c7 : PySem.W.codeIn K cd7 "Kind.takes" = true)
    (k7 : PySem.W.keepIn K (.ref f7) = true)
    (ma_Kind_takes : PySem.W.findIn K (.ref C_Kind) "takes" = some (some (.ref f7)))
    (mb_Kind_takes : PySem.W.isFn K (.ref f7) = true)
    (mc_Kind_takes : PySem.W.keepIn K (.ref f7) = true)
    (l8 : K.lookup f8 = some ⟨oc8, od8, .func (PySem.W.fnOf "has_room" "Kind.has_room" (defArgs s_Kind_has_room) (defBody s_Kind_has_room) (defScope s_Kind_has_room) .none kV8 dc8 pm8 an8 cd8 ct8), sl8⟩)
    (c8 : PySem.W.codeIn K cd8 "Kind.has_room" = true)
    (k8 : PySem.W.keepIn K (.ref f8) = true)
    (ma_Kind_has_room : PySem.W.findIn K (.ref C_Kind) "has_room" = some (some (.ref f8)))
    (mb_Kind_has_room : PySem.W.isFn K (.ref f8) = true)
    (mc_Kind_has_room : PySem.W.keepIn K (.ref f8) = true)
    (l9 : K.lookup f9 = some ⟨oc9, od9, .func (PySem.W.fnOf "name" "Kind.name" (defArgs s_Kind_name) (defBody s_Kind_name) (defScope s_Kind_name) .none kV9 dc9 pm9 an9 cd9 ct9), sl9⟩)
    (c9 : PySem.W.codeIn K cd9 "Kind.name" = true)
    (k9 : PySem.W.keepIn K (.ref f9) = true)
    (pa_Kind_name : PySem.W.findIn K (.ref C_Kind) "name" = some (some (.ref pp_Kind_name)))
    (pd_Kind_name : PySem.W.recIn K pp_Kind_name "property" = some (.ref f9 :: rs_Kind_name))
    (pb_Kind_name : PySem.W.specialIn K (.ref pp_Kind_name) "__get__" = some (some (.builtin "property.__get__")))
    (pc_Kind_name : PySem.W.takesIn K (.ref pp_Kind_name) = some true)
    (l10 : K.lookup f10 = some ⟨oc10, od10, .func (PySem.W.fnOf "set_fields" "Kind.set_fields" (defArgs s_Kind_set_fields) (defBody s_Kind_set_fields) (defScope s_Kind_set_fields) .none kV10 dc10 pm10 an10 cd10 ct10), sl10⟩)
    (c10 : PySem.W.codeIn K cd10 "Kind.set_fields" = true)
    (k10 : PySem.W.keepIn K (.ref f10) = true)
    (pa_Kind_set_fields : PySem.W.findIn K (.ref C_Kind) "set_fields" = some (some (.ref pp_Kind_set_fields)))
    (pd_Kind_set_fields : PySem.W.recIn K pp_Kind_set_fields "property" = some (.ref f10 :: rs_Kind_set_fields))
    (pb_Kind_set_fields : PySem.W.specialIn K (.ref pp_Kind_set_fields) "__get__" = some (some (.builtin "property.__get__")))
    (pc_Kind_set_fields : PySem.W.takesIn K (.ref pp_Kind_set_fields) = some true)
    (l11 : K.lookup f11 = some ⟨oc11, od11, .func (PySem.W.fnOf "fixed_fields" "Kind.fixed_fields" (defArgs s_Kind_fixed_fields) (defBody s_Kind_fixed_fields) (defScope s_Kind_fixed_fields) .none kV11 dc11 pm11 an11 cd11 ct11), sl11⟩)
    (c11 : PySem.W.codeIn K cd11 "Kind.fixed_fields" = true)
    (k11 : PySem.W.keepIn K (.ref f11) = true)
    (pa_Kind_fixed_fields : PySem.W.findIn K (.ref C_Kind) "fixed_fields" = some (some (.ref pp_Kind_fixed_fields)))
    (pd_Kind_fixed_fields : PySem.W.recIn K pp_Kind_fixed_fields "property" = some (.ref f11 :: rs_Kind_fixed_fields))
    (pb_Kind_fixed_fields : PySem.W.specialIn K (.ref pp_Kind_fixed_fields) "__get__" = some (some (.builtin "property.__get__")))
    (pc_Kind_fixed_fields : PySem.W.takesIn K (.ref pp_Kind_fixed_fields) = some true)
    (l12 : K.lookup f12 = some ⟨oc12, od12, .func (PySem.W.fnOf "fresh_answers" "Kind.fresh_answers" (defArgs s_Kind_fresh_answers) (defBody s_Kind_fresh_answers) (defScope s_Kind_fresh_answers) .none kV12 dc12 pm12 an12 cd12 ct12), sl12⟩)
    (c12 : PySem.W.codeIn K cd12 "Kind.fresh_answers" = true)
    (k12 : PySem.W.keepIn K (.ref f12) = true)
    (pa_Kind_fresh_answers : PySem.W.findIn K (.ref C_Kind) "fresh_answers" = some (some (.ref pp_Kind_fresh_answers)))
    (pd_Kind_fresh_answers : PySem.W.recIn K pp_Kind_fresh_answers "property" = some (.ref f12 :: rs_Kind_fresh_answers))
    (pb_Kind_fresh_answers : PySem.W.specialIn K (.ref pp_Kind_fresh_answers) "__get__" = some (some (.builtin "property.__get__")))
    (pc_Kind_fresh_answers : PySem.W.takesIn K (.ref pp_Kind_fresh_answers) = some true)
    (l13 : K.lookup f13 = some ⟨oc13, od13, .func (PySem.W.fnOf "free_answers" "Kind.free_answers" (defArgs s_Kind_free_answers) (defBody s_Kind_free_answers) (defScope s_Kind_free_answers) .none kV13 dc13 pm13 an13 cd13 ct13), sl13⟩)
    (c13 : PySem.W.codeIn K cd13 "Kind.free_answers" = true)
    (k13 : PySem.W.keepIn K (.ref f13) = true)
    (pa_Kind_free_answers : PySem.W.findIn K (.ref C_Kind) "free_answers" = some (some (.ref pp_Kind_free_answers)))
    (pd_Kind_free_answers : PySem.W.recIn K pp_Kind_free_answers "property" = some (.ref f13 :: rs_Kind_free_answers))
    (pb_Kind_free_answers : PySem.W.specialIn K (.ref pp_Kind_free_answers) "__get__" = some (some (.builtin "property.__get__")))
    (pc_Kind_free_answers : PySem.W.takesIn K (.ref pp_Kind_free_answers) = some true)
    (l14 : K.lookup f14 = some ⟨oc14, od14, .func (PySem.W.fnOf "unique_fields" "Kind.unique_fields" (defArgs s_Kind_unique_fields) (defBody s_Kind_unique_fields) (defScope s_Kind_unique_fields) .none kV14 dc14 pm14 an14 cd14 ct14), sl14⟩)
    (c14 : PySem.W.codeIn K cd14 "Kind.unique_fields" = true)
    (k14 : PySem.W.keepIn K (.ref f14) = true)
    (pa_Kind_unique_fields : PySem.W.findIn K (.ref C_Kind) "unique_fields" = some (some (.ref pp_Kind_unique_fields)))
    (pd_Kind_unique_fields : PySem.W.recIn K pp_Kind_unique_fields "property" = some (.ref f14 :: rs_Kind_unique_fields))
    (pb_Kind_unique_fields : PySem.W.specialIn K (.ref pp_Kind_unique_fields) "__get__" = some (some (.builtin "property.__get__")))
    (pc_Kind_unique_fields : PySem.W.takesIn K (.ref pp_Kind_unique_fields) = some true)
    (l15 : K.lookup f15 = some ⟨oc15, od15, .func (PySem.W.fnOf "held" "Kind.held" (defArgs s_Kind_held) (defBody s_Kind_held) (defScope s_Kind_held) .none kV15 dc15 pm15 an15 cd15 ct15), sl15⟩)
    (c15 : PySem.W.codeIn K cd15 "Kind.held" = true)
    (k15 : PySem.W.keepIn K (.ref f15) = true)
    (pa_Kind_held : PySem.W.findIn K (.ref C_Kind) "held" = some (some (.ref pp_Kind_held)))
    (pd_Kind_held : PySem.W.recIn K pp_Kind_held "property" = some (.ref f15 :: rs_Kind_held))
    (pb_Kind_held : PySem.W.specialIn K (.ref pp_Kind_held) "__get__" = some (some (.builtin "property.__get__")))
    (pc_Kind_held : PySem.W.takesIn K (.ref pp_Kind_held) = some true)
    (l16 : K.lookup f16 = some ⟨oc16, od16, .func (PySem.W.fnOf "single" "Kind.single" (defArgs s_Kind_single) (defBody s_Kind_single) (defScope s_Kind_single) .none kV16 dc16 pm16 an16 cd16 ct16), sl16⟩)
    (c16 : PySem.W.codeIn K cd16 "Kind.single" = true)
    (k16 : PySem.W.keepIn K (.ref f16) = true)
    (pa_Kind_single : PySem.W.findIn K (.ref C_Kind) "single" = some (some (.ref pp_Kind_single)))
    (pd_Kind_single : PySem.W.recIn K pp_Kind_single "property" = some (.ref f16 :: rs_Kind_single))
    (pb_Kind_single : PySem.W.specialIn K (.ref pp_Kind_single) "__get__" = some (some (.builtin "property.__get__")))
    (pc_Kind_single : PySem.W.takesIn K (.ref pp_Kind_single) = some true)
    (l17 : K.lookup f17 = some ⟨oc17, od17, .func (PySem.W.fnOf "token" "Kind.token" (defArgs s_Kind_token) (defBody s_Kind_token) (defScope s_Kind_token) .none kV17 dc17 pm17 an17 cd17 ct17), sl17⟩)
    (c17 : PySem.W.codeIn K cd17 "Kind.token" = true)
    (k17 : PySem.W.keepIn K (.ref f17) = true)
    (pa_Kind_token : PySem.W.findIn K (.ref C_Kind) "token" = some (some (.ref pp_Kind_token)))
    (pd_Kind_token : PySem.W.recIn K pp_Kind_token "property" = some (.ref f17 :: rs_Kind_token))
    (pb_Kind_token : PySem.W.specialIn K (.ref pp_Kind_token) "__get__" = some (some (.builtin "property.__get__")))
    (pc_Kind_token : PySem.W.takesIn K (.ref pp_Kind_token) = some true)
    (l18 : K.lookup f18 = some ⟨oc18, od18, .func (PySem.W.fnOf "guarded" "Kind.guarded" (defArgs s_Kind_guarded) (defBody s_Kind_guarded) (defScope s_Kind_guarded) .none kV18 dc18 pm18 an18 cd18 ct18), sl18⟩)
    (c18 : PySem.W.codeIn K cd18 "Kind.guarded" = true)
    (k18 : PySem.W.keepIn K (.ref f18) = true)
    (pa_Kind_guarded : PySem.W.findIn K (.ref C_Kind) "guarded" = some (some (.ref pp_Kind_guarded)))
    (pd_Kind_guarded : PySem.W.recIn K pp_Kind_guarded "property" = some (.ref f18 :: rs_Kind_guarded))
    (pb_Kind_guarded : PySem.W.specialIn K (.ref pp_Kind_guarded) "__get__" = some (some (.builtin "property.__get__")))
    (pc_Kind_guarded : PySem.W.takesIn K (.ref pp_Kind_guarded) = some true)
    (l19 : K.lookup f19 = some ⟨oc19, od19, .func (PySem.W.fnOf "__init__" "Kinds.__init__" (defArgs s_Kinds___init__) (defBody s_Kinds___init__) (defScope s_Kinds___init__) .none kV19 dc19 pm19 an19 cd19 ct19), sl19⟩)
    (c19 : PySem.W.codeIn K cd19 "Kinds.__init__" = true)
    (k19 : PySem.W.keepIn K (.ref f19) = true)
    (mi_Kinds : PySem.W.findIn K (.ref C_Kinds) "__init__" = some (some (.ref f19)))
    (mm_Kinds : PySem.W.makesIn K C_Kinds = true)
    (mf_Kinds : PySem.W.isFn K (.ref f19) = true)
    (mk_Kinds : PySem.W.keepIn K (.ref C_Kinds) = true)
    (l20 : K.lookup f20 = some ⟨oc20, od20, .func (PySem.W.fnOf "names" "Kinds.names" (defArgs s_Kinds_names) (defBody s_Kinds_names) (defScope s_Kinds_names) .none kV20 dc20 pm20 an20 cd20 ct20), sl20⟩)
    (c20 : PySem.W.codeIn K cd20 "Kinds.names" = true)
    (k20 : PySem.W.keepIn K (.ref f20) = true)
    (pa_Kinds_names : PySem.W.findIn K (.ref C_Kinds) "names" = some (some (.ref pp_Kinds_names)))
    (pd_Kinds_names : PySem.W.recIn K pp_Kinds_names "property" = some (.ref f20 :: rs_Kinds_names))
    (pb_Kinds_names : PySem.W.specialIn K (.ref pp_Kinds_names) "__get__" = some (some (.builtin "property.__get__")))
    (pc_Kinds_names : PySem.W.takesIn K (.ref pp_Kinds_names) = some true)
    (l21 : K.lookup f21 = some ⟨oc21, od21, .func (PySem.W.fnOf "__getitem__" "Kinds.__getitem__" (defArgs s_Kinds___getitem__) (defBody s_Kinds___getitem__) (defScope s_Kinds___getitem__) .none kV21 dc21 pm21 an21 cd21 ct21), sl21⟩)
    (c21 : PySem.W.codeIn K cd21 "Kinds.__getitem__" = true)
    (k21 : PySem.W.keepIn K (.ref f21) = true)
    (ma_Kinds___getitem__ : PySem.W.findIn K (.ref C_Kinds) "__getitem__" = some (some (.ref f21)))
    (mb_Kinds___getitem__ : PySem.W.isFn K (.ref f21) = true)
    (mc_Kinds___getitem__ : PySem.W.keepIn K (.ref f21) = true)
    (fn_Kinds___getitem__ : PySem.W.fnIn K f21 = true)
    (l22 : K.lookup f22 = some ⟨oc22, od22, .func (PySem.W.fnOf "__contains__" "Kinds.__contains__" (defArgs s_Kinds___contains__) (defBody s_Kinds___contains__) (defScope s_Kinds___contains__) .none kV22 dc22 pm22 an22 cd22 ct22), sl22⟩)
    (c22 : PySem.W.codeIn K cd22 "Kinds.__contains__" = true)
    (k22 : PySem.W.keepIn K (.ref f22) = true)
    (ma_Kinds___contains__ : PySem.W.findIn K (.ref C_Kinds) "__contains__" = some (some (.ref f22)))
    (mb_Kinds___contains__ : PySem.W.isFn K (.ref f22) = true)
    (mc_Kinds___contains__ : PySem.W.keepIn K (.ref f22) = true)
    (l23 : K.lookup f23 = some ⟨oc23, od23, .func (PySem.W.fnOf "__len__" "Kinds.__len__" (defArgs s_Kinds___len__) (defBody s_Kinds___len__) (defScope s_Kinds___len__) .none kV23 dc23 pm23 an23 cd23 ct23), sl23⟩)
    (c23 : PySem.W.codeIn K cd23 "Kinds.__len__" = true)
    (k23 : PySem.W.keepIn K (.ref f23) = true)
    (ma_Kinds___len__ : PySem.W.findIn K (.ref C_Kinds) "__len__" = some (some (.ref f23)))
    (mb_Kinds___len__ : PySem.W.isFn K (.ref f23) = true)
    (mc_Kinds___len__ : PySem.W.keepIn K (.ref f23) = true)
    (l24 : K.lookup f24 = some ⟨oc24, od24, .func (PySem.W.fnOf "__eq__" "Kinds.__eq__" (defArgs s_Kinds___eq__) (defBody s_Kinds___eq__) (defScope s_Kinds___eq__) .none kV24 dc24 pm24 an24 cd24 ct24), sl24⟩)
    (c24 : PySem.W.codeIn K cd24 "Kinds.__eq__" = true)
    (k24 : PySem.W.keepIn K (.ref f24) = true)
    (ma_Kinds___eq__ : PySem.W.findIn K (.ref C_Kinds) "__eq__" = some (some (.ref f24)))
    (mb_Kinds___eq__ : PySem.W.isFn K (.ref f24) = true)
    (mc_Kinds___eq__ : PySem.W.keepIn K (.ref f24) = true)
    (nf0_Kinds___eq__ : PySem.W.notFirst K C_Kinds (.type "str") = true)
    (nf1_Kinds___eq__ : PySem.W.notFirst K C_Kinds (.type "tuple") = true)
    (nf2_Kinds___eq__ : PySem.W.notFirst K C_Kinds (.type "NoneType") = true)
    (nf3_Kinds___eq__ : PySem.W.notFirst K C_Kinds (.type "int") = true)
    (nf4_Kinds___eq__ : PySem.W.notFirst K C_Kinds (.type "bool") = true)
    (ne_Kinds : PySem.W.findIn K (.ref C_Kinds) "__ne__" = some (some (.builtin "object.__ne__")))
    (mr_Kinds : PySem.W.mroIn K C_Kinds (.type "object") = some true)
    (a25 : PySem.W.nsIn K mainGlobals "part_in" = some (some (.ref f25)))
    (l25 : K.lookup f25 = some ⟨oc25, od25, .func (PySem.W.fnOf "part_in" "part_in" (defArgs s_part_in) (defBody s_part_in) (defScope s_part_in) .none kV25 dc25 pm25 an25 cd25 ct25), sl25⟩)
    (c25 : PySem.W.codeIn K cd25 "part_in" = true)
    (k25 : PySem.W.keepIn K (.ref f25) = true)
    (a26 : PySem.W.nsIn K mainGlobals "kind_in" = some (some (.ref f26)))
    (l26 : K.lookup f26 = some ⟨oc26, od26, .func (PySem.W.fnOf "kind_in" "kind_in" (defArgs s_kind_in) (defBody s_kind_in) (defScope s_kind_in) .none kV26 dc26 pm26 an26 cd26 ct26), sl26⟩)
    (c26 : PySem.W.codeIn K cd26 "kind_in" = true)
    (k26 : PySem.W.keepIn K (.ref f26) = true)
    (a27 : PySem.W.nsIn K mainGlobals "takes_line" = some (some (.ref f27)))
    (l27 : K.lookup f27 = some ⟨oc27, od27, .func (PySem.W.fnOf "takes_line" "takes_line" (defArgs s_takes_line) (defBody s_takes_line) (defScope s_takes_line) .none kV27 dc27 pm27 an27 cd27 ct27), sl27⟩)
    (c27 : PySem.W.codeIn K cd27 "takes_line" = true)
    (k27 : PySem.W.keepIn K (.ref f27) = true)
    (a28 : PySem.W.nsIn K mainGlobals "read_kinds" = some (some (.ref f28)))
    (l28 : K.lookup f28 = some ⟨oc28, od28, .func (PySem.W.fnOf "read_kinds" "read_kinds" (defArgs s_read_kinds) (defBody s_read_kinds) (defScope s_read_kinds) .none kV28 dc28 pm28 an28 cd28 ct28), sl28⟩)
    (c28 : PySem.W.codeIn K cd28 "read_kinds" = true)
    (k28 : PySem.W.keepIn K (.ref f28) = true)
    (a29 : PySem.W.nsIn K mainGlobals "show_kinds" = some (some (.ref f29)))
    (l29 : K.lookup f29 = some ⟨oc29, od29, .func (PySem.W.fnOf "show_kinds" "show_kinds" (defArgs s_show_kinds) (defBody s_show_kinds) (defScope s_show_kinds) .none kV29 dc29 pm29 an29 cd29 ct29), sl29⟩)
    (c29 : PySem.W.codeIn K cd29 "show_kinds" = true)
    (k29 : PySem.W.keepIn K (.ref f29) = true)
    (a30 : PySem.W.nsIn K mainGlobals "_law_pot" = some (some (.ref f30)))
    (l30 : K.lookup f30 = some ⟨oc30, od30, .func (PySem.W.fnOf "_law_pot" "_law_pot" (defArgs s__law_pot) (defBody s__law_pot) (defScope s__law_pot) .none kV30 dc30 pm30 an30 cd30 ct30), sl30⟩)
    (c30 : PySem.W.codeIn K cd30 "_law_pot" = true)
    (k30 : PySem.W.keepIn K (.ref f30) = true)
    (a31 : PySem.W.nsIn K mainGlobals "_law_take" = some (some (.ref f31)))
    (l31 : K.lookup f31 = some ⟨oc31, od31, .func (PySem.W.fnOf "_law_take" "_law_take" (defArgs s__law_take) (defBody s__law_take) (defScope s__law_take) .none kV31 dc31 pm31 an31 cd31 ct31), sl31⟩)
    (c31 : PySem.W.codeIn K cd31 "_law_take" = true)
    (k31 : PySem.W.keepIn K (.ref f31) = true)
    (a32 : PySem.W.nsIn K mainGlobals "_law_pick" = some (some (.ref f32)))
    (l32 : K.lookup f32 = some ⟨oc32, od32, .func (PySem.W.fnOf "_law_pick" "_law_pick" (defArgs s__law_pick) (defBody s__law_pick) (defScope s__law_pick) .none kV32 dc32 pm32 an32 cd32 ct32), sl32⟩)
    (c32 : PySem.W.codeIn K cd32 "_law_pick" = true)
    (k32 : PySem.W.keepIn K (.ref f32) = true)
    (a33 : PySem.W.nsIn K mainGlobals "_law_kind_lines" = some (some (.ref f33)))
    (l33 : K.lookup f33 = some ⟨oc33, od33, .func (PySem.W.fnOf "_law_kind_lines" "_law_kind_lines" (defArgs s__law_kind_lines) (defBody s__law_kind_lines) (defScope s__law_kind_lines) .none kV33 dc33 pm33 an33 cd33 ct33), sl33⟩)
    (c33 : PySem.W.codeIn K cd33 "_law_kind_lines" = true)
    (k33 : PySem.W.keepIn K (.ref f33) = true)
    (a34 : PySem.W.nsIn K mainGlobals "_law_kinds_lines" = some (some (.ref f34)))
    (l34 : K.lookup f34 = some ⟨oc34, od34, .func (PySem.W.fnOf "_law_kinds_lines" "_law_kinds_lines" (defArgs s__law_kinds_lines) (defBody s__law_kinds_lines) (defScope s__law_kinds_lines) .none kV34 dc34 pm34 an34 cd34 ct34), sl34⟩)
    (c34 : PySem.W.codeIn K cd34 "_law_kinds_lines" = true)
    (k34 : PySem.W.keepIn K (.ref f34) = true)
    (a35 : PySem.W.nsIn K mainGlobals "_law_kinds_text" = some (some (.ref f35)))
    (l35 : K.lookup f35 = some ⟨oc35, od35, .func (PySem.W.fnOf "_law_kinds_text" "_law_kinds_text" (defArgs s__law_kinds_text) (defBody s__law_kinds_text) (defScope s__law_kinds_text) .none kV35 dc35 pm35 an35 cd35 ct35), sl35⟩)
    (c35 : PySem.W.codeIn K cd35 "_law_kinds_text" = true)
    (k35 : PySem.W.keepIn K (.ref f35) = true)
    (a36 : PySem.W.nsIn K mainGlobals "_law_unknown" = some (some (.ref f36)))
    (l36 : K.lookup f36 = some ⟨oc36, od36, .func (PySem.W.fnOf "_law_unknown" "_law_unknown" (defArgs s__law_unknown) (defBody s__law_unknown) (defScope s__law_unknown) .none kV36 dc36 pm36 an36 cd36 ct36), sl36⟩)
    (c36 : PySem.W.codeIn K cd36 "_law_unknown" = true)
    (k36 : PySem.W.keepIn K (.ref f36) = true)
    (a37 : PySem.W.nsIn K mainGlobals "_law_named" = some (some (.ref f37)))
    (l37 : K.lookup f37 = some ⟨oc37, od37, .func (PySem.W.fnOf "_law_named" "_law_named" (defArgs s__law_named) (defBody s__law_named) (defScope s__law_named) .none kV37 dc37 pm37 an37 cd37 ct37), sl37⟩)
    (c37 : PySem.W.codeIn K cd37 "_law_named" = true)
    (k37 : PySem.W.keepIn K (.ref f37) = true)
    (a38 : PySem.W.nsIn K mainGlobals "_law_is_kind" = some (some (.ref f38)))
    (l38 : K.lookup f38 = some ⟨oc38, od38, .func (PySem.W.fnOf "_law_is_kind" "_law_is_kind" (defArgs s__law_is_kind) (defBody s__law_is_kind) (defScope s__law_is_kind) .none kV38 dc38 pm38 an38 cd38 ct38), sl38⟩)
    (c38 : PySem.W.codeIn K cd38 "_law_is_kind" = true)
    (k38 : PySem.W.keepIn K (.ref f38) = true)
    (a39 : PySem.W.nsIn K mainGlobals "_law_is_right" = some (some (.ref f39)))
    (l39 : K.lookup f39 = some ⟨oc39, od39, .func (PySem.W.fnOf "_law_is_right" "_law_is_right" (defArgs s__law_is_right) (defBody s__law_is_right) (defScope s__law_is_right) .none kV39 dc39 pm39 an39 (.ref cc39) ct39), sl39⟩)
    (c39 : PySem.W.codeIn K (.ref cc39) "_law_is_right" = true)
    (w39 : K.lookup cc39 = some ⟨we39, wd39, .fields wv39, ws39⟩)
    (wx39 : wv39[11]? = some (.ref PP39))
    (k39 : PySem.W.keepIn K (.ref f39) = true)
    (a40 : PySem.W.nsIn K mainGlobals "_law_right" = some (some (.ref f40)))
    (l40 : K.lookup f40 = some ⟨oc40, od40, .func (PySem.W.fnOf "_law_right" "_law_right" (defArgs s__law_right) (defBody s__law_right) (defScope s__law_right) .none kV40 dc40 pm40 an40 cd40 ct40), sl40⟩)
    (c40 : PySem.W.codeIn K cd40 "_law_right" = true)
    (k40 : PySem.W.keepIn K (.ref f40) = true)
    (a41 : PySem.W.nsIn K mainGlobals "_law_document" = some (some (.ref f41)))
    (l41 : K.lookup f41 = some ⟨oc41, od41, .func (PySem.W.fnOf "_law_document" "_law_document" (defArgs s__law_document) (defBody s__law_document) (defScope s__law_document) .none kV41 dc41 pm41 an41 cd41 ct41), sl41⟩)
    (c41 : PySem.W.codeIn K cd41 "_law_document" = true)
    (k41 : PySem.W.keepIn K (.ref f41) = true)
    (a42 : PySem.W.nsIn K mainGlobals "law" = some (some (.ref f42)))
    (l42 : K.lookup f42 = some ⟨oc42, od42, .func (PySem.W.fnOf "law" "law" (defArgs s_law) (defBody s_law) (defScope s_law) .none kV42 dc42 pm42 an42 cd42 ct42), sl42⟩)
    (c42 : PySem.W.codeIn K cd42 "law" = true)
    (k42 : PySem.W.keepIn K (.ref f42) = true)
    (q_ANSWERS : PySem.W.nsIn K mainGlobals "ANSWERS" = some (some (.ref ad_ANSWERS)))
    (lk_ANSWERS : K.lookup ad_ANSWERS = some ⟨.type "tuple", du_ANSWERS, .seq #[.str "fresh" uANSWERS0, .str "free" uANSWERS1] nu_ANSWERS, su_ANSWERS⟩)
    (q_FIELDS : PySem.W.nsIn K mainGlobals "FIELDS" = some (some (.ref ad_FIELDS)))
    (lk_FIELDS : K.lookup ad_FIELDS = some ⟨.type "tuple", du_FIELDS, .seq #[.str "set" uFIELDS0, .str "fixed" uFIELDS1] nu_FIELDS, su_FIELDS⟩)
    (q_FIXED : PySem.W.nsIn K mainGlobals "FIXED" = some (some (.str "fixed" t_FIXED)))
    (q_FREE : PySem.W.nsIn K mainGlobals "FREE" = some (some (.str "free" t_FREE)))
    (q_FRESH : PySem.W.nsIn K mainGlobals "FRESH" = some (some (.str "fresh" t_FRESH)))
    (q_INDENT : PySem.W.nsIn K mainGlobals "INDENT" = some (some (.str "  " t_INDENT)))
    (q_KIND : PySem.W.nsIn K mainGlobals "KIND" = some (some (.str "kind" t_KIND)))
    (q_LETTERS : PySem.W.nsIn K mainGlobals "LETTERS" = some (some (.str "abcdefghijklmnopqrstuvwxyz" t_LETTERS)))
    (q_MARKS : PySem.W.nsIn K mainGlobals "MARKS" = some (some (.ref ad_MARKS)))
    (lk_MARKS : K.lookup ad_MARKS = some ⟨.type "tuple", du_MARKS, .seq #[.str "held" uMARKS0, .str "single" uMARKS1, .str "token" uMARKS2, .str "guarded" uMARKS3] nu_MARKS, su_MARKS⟩)
    (q_MOST_ANSWERS : PySem.W.nsIn K mainGlobals "MOST_ANSWERS" = some (some (.int 2 t_MOST_ANSWERS)))
    (q_MOST_FIELDS : PySem.W.nsIn K mainGlobals "MOST_FIELDS" = some (some (.int 6 t_MOST_FIELDS)))
    (q_MOST_KINDS : PySem.W.nsIn K mainGlobals "MOST_KINDS" = some (some (.int 8 t_MOST_KINDS)))
    (q_MOST_NAME : PySem.W.nsIn K mainGlobals "MOST_NAME" = some (some (.int 12 t_MOST_NAME)))
    (q_PAIR : PySem.W.nsIn K mainGlobals "PAIR" = some (some (.int 2 t_PAIR)))
    (q_RESERVED : PySem.W.nsIn K mainGlobals "RESERVED" = some (some (.ref ad_RESERVED)))
    (lk_RESERVED : K.lookup ad_RESERVED = some ⟨.type "tuple", du_RESERVED, .seq #[.str "if" uRESERVED0, .str "then" uRESERVED1, .str "else" uRESERVED2, .str "and" uRESERVED3, .str "or" uRESERVED4, .str "not" uRESERVED5, .str "in" uRESERVED6, .str "len" uRESERVED7, .str "true" uRESERVED8, .str "false" uRESERVED9, .str "index" uRESERVED10, .str "each" uRESERVED11, .str "own" uRESERVED12, .str "count" uRESERVED13, .str "use" uRESERVED14, .str "module" uRESERVED15, .str "input" uRESERVED16, .str "output" uRESERVED17, .str "let" uRESERVED18, .str "resource" uRESERVED19, .str "deny" uRESERVED20, .str "kind" uRESERVED21, .str "answers" uRESERVED22, .str "left" uRESERVED23, .str "row" uRESERVED24, .str "self" uRESERVED25] nu_RESERVED, su_RESERVED⟩)
    (q_SET : PySem.W.nsIn K mainGlobals "SET" = some (some (.str "set" t_SET)))
    (q_UNIQUE : PySem.W.nsIn K mainGlobals "UNIQUE" = some (some (.str "unique" t_UNIQUE)))
    (z_abs : PySem.W.nsIn K mainGlobals "abs" = some none)
    (z_all : PySem.W.nsIn K mainGlobals "all" = some none)
    (z_any : PySem.W.nsIn K mainGlobals "any" = some none)
    (z_enumerate : PySem.W.nsIn K mainGlobals "enumerate" = some none)
    (z_isinstance : PySem.W.nsIn K mainGlobals "isinstance" = some none)
    (z_len : PySem.W.nsIn K mainGlobals "len" = some none)
    (z_list : PySem.W.nsIn K mainGlobals "list" = some none)
    (z_max : PySem.W.nsIn K mainGlobals "max" = some none)
    (z_min : PySem.W.nsIn K mainGlobals "min" = some none)
    (z_property : PySem.W.nsIn K mainGlobals "property" = some none)
    (z_range : PySem.W.nsIn K mainGlobals "range" = some none)
    (z_repr : PySem.W.nsIn K mainGlobals "repr" = some none)
    (z_str : PySem.W.nsIn K mainGlobals "str" = some none)
    (z_tuple : PySem.W.nsIn K mainGlobals "tuple" = some none)
    (z_zip : PySem.W.nsIn K mainGlobals "zip" = some none)
    (ndT : (tabs [(cc39, PP39)]).Nodup)
    (nsT : sysModules ∉ tabs [(cc39, PP39)]) :
    ∃ fd : FuncData, (∀ (s : Shared) (v : Value), BindsTo s fd ⟨[v], []⟩ [("_law_script", v)]) ∧ ∀ base : Heap, K.In base → base.Ns mainGlobals mg → (∀ p ∈ ([(cc39, PP39)] : List (Addr × Addr)), LamX.TabB base mg p.1 p.2) → FnG l.prog w K mg base CX0 7 fa fd ["_law_script"] (spT K (tabs [(cc39, PP39)])) := by
  have e := hfa.symm.trans (PySem.W.mg_of X G a42)
  cases e
  have F1 := fun_mk (st := s_is_name) l1 c1 k1
  have b1 := F1.binds (ps := ["value"]) fun _ _ _ _ _ _ us hl => match us, hl with | [_], _ => rfl
  have F2 := fun_mk (st := s_is_free_name) l2 c2 k2
  have b2 := F2.binds (ps := ["value"]) fun _ _ _ _ _ _ us hl => match us, hl with | [_], _ => rfl
  have F3 := fun_mk (st := s_Kind___init__) l3 c3 k3
  have b3 := F3.binds (ps := ["self", "name"]) fun _ _ _ _ _ _ us hl => match us, hl with | [_, _], _ => rfl
  have F4 := fun_mk (st := s_Kind_named) l4 c4 k4
  have b4 := F4.binds (ps := ["self", "word"]) fun _ _ _ _ _ _ us hl => match us, hl with | [_, _], _ => rfl
  have F5 := fun_mk (st := s_Kind_has_mark) l5 c5 k5
  have b5 := F5.binds (ps := ["self", "word"]) fun _ _ _ _ _ _ us hl => match us, hl with | [_, _], _ => rfl
  have F6 := fun_mk (st := s_Kind_all_names) l6 c6 k6
  have b6 := F6.binds (ps := ["self"]) fun _ _ _ _ _ _ us hl => match us, hl with | [_], _ => rfl
  have F7 := fun_mk (st := s_Kind_takes) l7 c7 k7
  have b7 := F7.binds (ps := ["self", "word", "name"]) fun _ _ _ _ _ _ us hl => match us, hl with | [_, _, _], _ => rfl
  have F8 := fun_mk (st := s_Kind_has_room) l8 c8 k8
  have b8 := F8.binds (ps := ["self", "word"]) fun _ _ _ _ _ _ us hl => match us, hl with | [_, _], _ => rfl
  have F9 := fun_mk (st := s_Kind_name) l9 c9 k9
  have b9 := F9.binds (ps := ["self"]) fun _ _ _ _ _ _ us hl => match us, hl with | [_], _ => rfl
  have F10 := fun_mk (st := s_Kind_set_fields) l10 c10 k10
  have b10 := F10.binds (ps := ["self"]) fun _ _ _ _ _ _ us hl => match us, hl with | [_], _ => rfl
  have F11 := fun_mk (st := s_Kind_fixed_fields) l11 c11 k11
  have b11 := F11.binds (ps := ["self"]) fun _ _ _ _ _ _ us hl => match us, hl with | [_], _ => rfl
  have F12 := fun_mk (st := s_Kind_fresh_answers) l12 c12 k12
  have b12 := F12.binds (ps := ["self"]) fun _ _ _ _ _ _ us hl => match us, hl with | [_], _ => rfl
  have F13 := fun_mk (st := s_Kind_free_answers) l13 c13 k13
  have b13 := F13.binds (ps := ["self"]) fun _ _ _ _ _ _ us hl => match us, hl with | [_], _ => rfl
  have F14 := fun_mk (st := s_Kind_unique_fields) l14 c14 k14
  have b14 := F14.binds (ps := ["self"]) fun _ _ _ _ _ _ us hl => match us, hl with | [_], _ => rfl
  have F15 := fun_mk (st := s_Kind_held) l15 c15 k15
  have b15 := F15.binds (ps := ["self"]) fun _ _ _ _ _ _ us hl => match us, hl with | [_], _ => rfl
  have F16 := fun_mk (st := s_Kind_single) l16 c16 k16
  have b16 := F16.binds (ps := ["self"]) fun _ _ _ _ _ _ us hl => match us, hl with | [_], _ => rfl
  have F17 := fun_mk (st := s_Kind_token) l17 c17 k17
  have b17 := F17.binds (ps := ["self"]) fun _ _ _ _ _ _ us hl => match us, hl with | [_], _ => rfl
  have F18 := fun_mk (st := s_Kind_guarded) l18 c18 k18
  have b18 := F18.binds (ps := ["self"]) fun _ _ _ _ _ _ us hl => match us, hl with | [_], _ => rfl
  have F19 := fun_mk (st := s_Kinds___init__) l19 c19 k19
  have b19 := F19.binds (ps := ["self", "text", "found"]) fun _ _ _ _ _ _ us hl => match us, hl with | [_, _, _], _ => rfl
  have F20 := fun_mk (st := s_Kinds_names) l20 c20 k20
  have b20 := F20.binds (ps := ["self"]) fun _ _ _ _ _ _ us hl => match us, hl with | [_], _ => rfl
  have F21 := fun_mk (st := s_Kinds___getitem__) l21 c21 k21
  have b21 := F21.binds (ps := ["self", "name"]) fun _ _ _ _ _ _ us hl => match us, hl with | [_, _], _ => rfl
  have F22 := fun_mk (st := s_Kinds___contains__) l22 c22 k22
  have b22 := F22.binds (ps := ["self", "name"]) fun _ _ _ _ _ _ us hl => match us, hl with | [_, _], _ => rfl
  have F23 := fun_mk (st := s_Kinds___len__) l23 c23 k23
  have b23 := F23.binds (ps := ["self"]) fun _ _ _ _ _ _ us hl => match us, hl with | [_], _ => rfl
  have F24 := fun_mk (st := s_Kinds___eq__) l24 c24 k24
  have b24 := F24.binds (ps := ["self", "other"]) fun _ _ _ _ _ _ us hl => match us, hl with | [_, _], _ => rfl
  have F25 := fun_mk (st := s_part_in) l25 c25 k25
  have b25 := F25.binds (ps := ["line"]) fun _ _ _ _ _ _ us hl => match us, hl with | [_], _ => rfl
  have F26 := fun_mk (st := s_kind_in) l26 c26 k26
  have b26 := F26.binds (ps := ["line"]) fun _ _ _ _ _ _ us hl => match us, hl with | [_], _ => rfl
  have F27 := fun_mk (st := s_takes_line) l27 c27 k27
  have b27 := F27.binds (ps := ["found", "line"]) fun _ _ _ _ _ _ us hl => match us, hl with | [_, _], _ => rfl
  have F28 := fun_mk (st := s_read_kinds) l28 c28 k28
  have b28 := F28.binds (ps := ["text"]) fun _ _ _ _ _ _ us hl => match us, hl with | [_], _ => rfl
  have F29 := fun_mk (st := s_show_kinds) l29 c29 k29
  have b29 := F29.binds (ps := ["kinds"]) fun _ _ _ _ _ _ us hl => match us, hl with | [_], _ => rfl
  have F30 := fun_mk (st := s__law_pot) l30 c30 k30
  have b30 := F30.binds (ps := ["_law_script", "_law_k"]) fun _ _ _ _ _ _ us hl => match us, hl with | [_, _], _ => rfl
  have F31 := fun_mk (st := s__law_take) l31 c31 k31
  have b31 := F31.binds (ps := ["_law_pot_here", "_law_size"]) fun _ _ _ _ _ _ us hl => match us, hl with | [_, _], _ => rfl
  have F32 := fun_mk (st := s__law_pick) l32 c32 k32
  have b32 := F32.binds (ps := ["_law_pot_here", "_law_some"]) fun _ _ _ _ _ _ us hl => match us, hl with | [_, _], _ => rfl
  have F33 := fun_mk (st := s__law_kind_lines) l33 c33 k33
  have b33 := F33.binds (ps := ["_law_pot_here", "_law_name"]) fun _ _ _ _ _ _ us hl => match us, hl with | [_, _], _ => rfl
  have F34 := fun_mk (st := s__law_kinds_lines) l34 c34 k34
  have b34 := F34.binds (ps := ["_law_pot_here"]) fun _ _ _ _ _ _ us hl => match us, hl with | [_], _ => rfl
  have F35 := fun_mk (st := s__law_kinds_text) l35 c35 k35
  have b35 := F35.binds (ps := ["_law_lines"]) fun _ _ _ _ _ _ us hl => match us, hl with | [_], _ => rfl
  have F36 := fun_mk (st := s__law_unknown) l36 c36 k36
  have b36 := F36.binds (ps := ["_law_call"]) fun _ _ _ _ _ _ us hl => match us, hl with | [_], _ => rfl
  have F37 := fun_mk (st := s__law_named) l37 c37 k37
  have b37 := F37.binds (ps := ["_law_lines", "_law_word"]) fun _ _ _ _ _ _ us hl => match us, hl with | [_, _], _ => rfl
  have F38 := fun_mk (st := s__law_is_kind) l38 c38 k38
  have b38 := F38.binds (ps := ["_law_one", "_law_lines"]) fun _ _ _ _ _ _ us hl => match us, hl with | [_, _], _ => rfl
  have F39 := fun_mk (st := s__law_is_right) l39 c39 k39
  have b39 := F39.binds (ps := ["_law_made", "_law_lines"]) fun _ _ _ _ _ _ us hl => match us, hl with | [_, _], _ => rfl
  have ti39 := tabIn_of (x := "_law_is_right") a39 l39 rfl rfl w39 wx39
  have F40 := fun_mk (st := s__law_right) l40 c40 k40
  have b40 := F40.binds (ps := ["_law_pot_here"]) fun _ _ _ _ _ _ us hl => match us, hl with | [_], _ => rfl
  have F41 := fun_mk (st := s__law_document) l41 c41 k41
  have b41 := F41.binds (ps := []) fun _ _ _ _ _ _ us hl => match us, hl with | [], _ => rfl
  have F42 := fun_mk (st := s_law) l42 c42 k42
  have b42 := F42.binds (ps := ["_law_script"]) fun _ _ _ _ _ _ us hl => match us, hl with | [_], _ => rfl
  refine ⟨PySem.W.fnOf "law" "law" (defArgs s_law) (defBody s_law) (defScope s_law) .none kV42 dc42 pm42 an42 cd42 ct42, fun s v => .of_eq rfl, fun base _ _ hTB => ?_⟩
  let T : Tx l.prog K mg base := {
    C_LaterError := C_LaterError
    g_LaterError := PySem.W.mg_of X G aC_LaterError
    C_NoField := C_NoField
    g_NoField := PySem.W.mg_of X G aC_NoField
    C_BadKinds := C_BadKinds
    g_BadKinds := PySem.W.mg_of X G aC_BadKinds
    C_NoKind := C_NoKind
    g_NoKind := PySem.W.mg_of X G aC_NoKind
    fi_BadKinds := fi_BadKinds
    xv_BadKinds := xk_BadKinds.to (PySem.W.mg_of X G aC_BadKinds) (PySem.W.mg_none_of X G qsup)
    fi_NoKind := fi_NoKind
    xv_NoKind := xk_NoKind.to (PySem.W.mg_of X G aC_NoKind) (PySem.W.mg_none_of X G qsup)
    xc_NoKind := ⟨PySem.W.mg_of X G aC_NoKind, xga_NoKind, xgg_NoKind, xsb_NoKind, xhd_NoKind, xca_NoKind, xcg_NoKind, xck_NoKind, xcm_NoKind⟩
    nx_NoKind_value := nx_NoKind_value
    C_Kind := C_Kind
    g_Kind := PySem.W.mg_of X G aC_Kind
    cf_Kind := ⟨PySem.W.mg_of X G aC_Kind, ⟨pg_Kind, hd_Kind, po_Kind, sa_Kind⟩, ca_Kind, cg_Kind, ck_Kind, cm_Kind⟩
    na_Kind_held_name := na_Kind_held_name
    na_Kind_held_parts := na_Kind_held_parts
    C_Kinds := C_Kinds
    g_Kinds := PySem.W.mg_of X G aC_Kinds
    cf_Kinds := ⟨PySem.W.mg_of X G aC_Kinds, ⟨pg_Kinds, hd_Kinds, po_Kinds, sa_Kinds⟩, ca_Kinds, cg_Kinds, ck_Kinds, cm_Kinds⟩
    na_Kinds_held_kinds := na_Kinds_held_kinds
    na_Kinds_own_text := na_Kinds_own_text
    em_LaterError_NoKind := PySem.W.exm_ref em1_LaterError em2_LaterError em3_LaterError em4_LaterError_NoKind
    kt_Kinds_Kinds := kt_Kinds_Kinds
    kt_Kinds_bool := kt_Kinds_bool
    kt_Kinds_int := kt_Kinds_int
    kt_Kinds_NoneType := kt_Kinds_NoneType
    kt_Kinds_tuple := kt_Kinds_tuple
    kt_Kinds_str := kt_Kinds_str
    kt_NoKind_NoKind := kt_NoKind_NoKind
    kt_BadKinds_NoField_NoKind := kt_BadKinds_NoField_NoKind
    is_name := ⟨_, _, F1, PySem.W.mg_of X G a1, b1⟩
    is_free_name := ⟨_, _, F2, PySem.W.mg_of X G a2, b2⟩
    Kind___init__ := ⟨_, _, F3, b3⟩
    mk_Kind := ⟨mm_Kind, mi_Kind, mf_Kind, mk_Kind⟩
    Kind_named := ⟨_, _, F4, b4⟩
    me_Kind_named := ⟨ma_Kind_named, mb_Kind_named, mc_Kind_named⟩
    Kind_has_mark := ⟨_, _, F5, b5⟩
    me_Kind_has_mark := ⟨ma_Kind_has_mark, mb_Kind_has_mark, mc_Kind_has_mark⟩
    Kind_all_names := ⟨_, _, F6, b6⟩
    me_Kind_all_names := ⟨ma_Kind_all_names, mb_Kind_all_names, mc_Kind_all_names⟩
    Kind_takes := ⟨_, _, F7, b7⟩
    me_Kind_takes := ⟨ma_Kind_takes, mb_Kind_takes, mc_Kind_takes⟩
    Kind_has_room := ⟨_, _, F8, b8⟩
    me_Kind_has_room := ⟨ma_Kind_has_room, mb_Kind_has_room, mc_Kind_has_room⟩
    Kind_name := ⟨_, _, F9, b9⟩
    pp_Kind_name := pp_Kind_name
    po_Kind_name := ⟨pa_Kind_name, pb_Kind_name, pc_Kind_name, _, pd_Kind_name⟩
    Kind_set_fields := ⟨_, _, F10, b10⟩
    pp_Kind_set_fields := pp_Kind_set_fields
    po_Kind_set_fields := ⟨pa_Kind_set_fields, pb_Kind_set_fields, pc_Kind_set_fields, _, pd_Kind_set_fields⟩
    Kind_fixed_fields := ⟨_, _, F11, b11⟩
    pp_Kind_fixed_fields := pp_Kind_fixed_fields
    po_Kind_fixed_fields := ⟨pa_Kind_fixed_fields, pb_Kind_fixed_fields, pc_Kind_fixed_fields, _, pd_Kind_fixed_fields⟩
    Kind_fresh_answers := ⟨_, _, F12, b12⟩
    pp_Kind_fresh_answers := pp_Kind_fresh_answers
    po_Kind_fresh_answers := ⟨pa_Kind_fresh_answers, pb_Kind_fresh_answers, pc_Kind_fresh_answers, _, pd_Kind_fresh_answers⟩
    Kind_free_answers := ⟨_, _, F13, b13⟩
    pp_Kind_free_answers := pp_Kind_free_answers
    po_Kind_free_answers := ⟨pa_Kind_free_answers, pb_Kind_free_answers, pc_Kind_free_answers, _, pd_Kind_free_answers⟩
    Kind_unique_fields := ⟨_, _, F14, b14⟩
    pp_Kind_unique_fields := pp_Kind_unique_fields
    po_Kind_unique_fields := ⟨pa_Kind_unique_fields, pb_Kind_unique_fields, pc_Kind_unique_fields, _, pd_Kind_unique_fields⟩
    Kind_held := ⟨_, _, F15, b15⟩
    pp_Kind_held := pp_Kind_held
    po_Kind_held := ⟨pa_Kind_held, pb_Kind_held, pc_Kind_held, _, pd_Kind_held⟩
    Kind_single := ⟨_, _, F16, b16⟩
    pp_Kind_single := pp_Kind_single
    po_Kind_single := ⟨pa_Kind_single, pb_Kind_single, pc_Kind_single, _, pd_Kind_single⟩
    Kind_token := ⟨_, _, F17, b17⟩
    pp_Kind_token := pp_Kind_token
    po_Kind_token := ⟨pa_Kind_token, pb_Kind_token, pc_Kind_token, _, pd_Kind_token⟩
    Kind_guarded := ⟨_, _, F18, b18⟩
    pp_Kind_guarded := pp_Kind_guarded
    po_Kind_guarded := ⟨pa_Kind_guarded, pb_Kind_guarded, pc_Kind_guarded, _, pd_Kind_guarded⟩
    Kinds___init__ := ⟨_, _, F19, b19⟩
    mk_Kinds := ⟨mm_Kinds, mi_Kinds, mf_Kinds, mk_Kinds⟩
    Kinds_names := ⟨_, _, F20, b20⟩
    pp_Kinds_names := pp_Kinds_names
    po_Kinds_names := ⟨pa_Kinds_names, pb_Kinds_names, pc_Kinds_names, _, pd_Kinds_names⟩
    Kinds___getitem__ := ⟨_, _, F21, b21⟩
    me_Kinds___getitem__ := ⟨ma_Kinds___getitem__, mb_Kinds___getitem__, mc_Kinds___getitem__⟩
    fn_Kinds___getitem__ := fn_Kinds___getitem__
    Kinds___contains__ := ⟨_, _, F22, b22⟩
    me_Kinds___contains__ := ⟨ma_Kinds___contains__, mb_Kinds___contains__, mc_Kinds___contains__⟩
    Kinds___len__ := ⟨_, _, F23, b23⟩
    me_Kinds___len__ := ⟨ma_Kinds___len__, mb_Kinds___len__, mc_Kinds___len__⟩
    Kinds___eq__ := ⟨_, _, F24, b24⟩
    me_Kinds___eq__ := ⟨ma_Kinds___eq__, mb_Kinds___eq__, mc_Kinds___eq__⟩
    nf_Kinds___eq__ := List.forall_mem_cons.mpr ⟨nf0_Kinds___eq__, List.forall_mem_cons.mpr ⟨nf1_Kinds___eq__, List.forall_mem_cons.mpr ⟨nf2_Kinds___eq__, List.forall_mem_cons.mpr ⟨nf3_Kinds___eq__, List.forall_mem_cons.mpr ⟨nf4_Kinds___eq__, List.forall_mem_nil _⟩⟩⟩⟩⟩
    ne_Kinds := ne_Kinds
    mr_Kinds := mr_Kinds
    part_in := ⟨_, _, F25, PySem.W.mg_of X G a25, b25⟩
    kind_in := ⟨_, _, F26, PySem.W.mg_of X G a26, b26⟩
    takes_line := ⟨_, _, F27, PySem.W.mg_of X G a27, b27⟩
    read_kinds := ⟨_, _, F28, PySem.W.mg_of X G a28, b28⟩
    show_kinds := ⟨_, _, F29, PySem.W.mg_of X G a29, b29⟩
    _law_pot := ⟨_, _, F30, PySem.W.mg_of X G a30, b30⟩
    _law_take := ⟨_, _, F31, PySem.W.mg_of X G a31, b31⟩
    _law_pick := ⟨_, _, F32, PySem.W.mg_of X G a32, b32⟩
    _law_kind_lines := ⟨_, _, F33, PySem.W.mg_of X G a33, b33⟩
    _law_kinds_lines := ⟨_, _, F34, PySem.W.mg_of X G a34, b34⟩
    _law_kinds_text := ⟨_, _, F35, PySem.W.mg_of X G a35, b35⟩
    _law_unknown := ⟨_, _, F36, PySem.W.mg_of X G a36, b36⟩
    _law_named := ⟨_, _, F37, PySem.W.mg_of X G a37, b37⟩
    _law_is_kind := ⟨_, _, F38, PySem.W.mg_of X G a38, b38⟩
    _law_is_right := ⟨_, _, F39, PySem.W.mg_of X G a39, b39⟩
    cc__law_is_right := cc39
    P__law_is_right := PP39
    co__law_is_right := CodeAt.of l39 rfl rfl
    tb__law_is_right := hTB (cc39, PP39) List.mem_cons_self
    ti__law_is_right := ti39
    _law_right := ⟨_, _, F40, PySem.W.mg_of X G a40, b40⟩
    _law_document := ⟨_, _, F41, PySem.W.mg_of X G a41, b41⟩
    law := ⟨_, _, F42, PySem.W.mg_of X G a42, b42⟩
    a_ANSWERS := ad_ANSWERS
    c_ANSWERS := PySem.W.mg_of X G q_ANSWERS
    k_ANSWERS := tupC_of lk_ANSWERS (by rw [sizeLine_eq]; exact (by decide : 2 ≤ 16777216)) (.cons ⟨_, rfl⟩ (.cons ⟨_, rfl⟩ .nil))
    a_FIELDS := ad_FIELDS
    c_FIELDS := PySem.W.mg_of X G q_FIELDS
    k_FIELDS := tupC_of lk_FIELDS (by rw [sizeLine_eq]; exact (by decide : 2 ≤ 16777216)) (.cons ⟨_, rfl⟩ (.cons ⟨_, rfl⟩ .nil))
    t_FIXED := t_FIXED
    c_FIXED := PySem.W.mg_of X G q_FIXED
    t_FREE := t_FREE
    c_FREE := PySem.W.mg_of X G q_FREE
    t_FRESH := t_FRESH
    c_FRESH := PySem.W.mg_of X G q_FRESH
    t_INDENT := t_INDENT
    c_INDENT := PySem.W.mg_of X G q_INDENT
    t_KIND := t_KIND
    c_KIND := PySem.W.mg_of X G q_KIND
    t_LETTERS := t_LETTERS
    c_LETTERS := PySem.W.mg_of X G q_LETTERS
    a_MARKS := ad_MARKS
    c_MARKS := PySem.W.mg_of X G q_MARKS
    k_MARKS := tupC_of lk_MARKS (by rw [sizeLine_eq]; exact (by decide : 4 ≤ 16777216)) (.cons ⟨_, rfl⟩ (.cons ⟨_, rfl⟩ (.cons ⟨_, rfl⟩ (.cons ⟨_, rfl⟩ .nil))))
    t_MOST_ANSWERS := t_MOST_ANSWERS
    c_MOST_ANSWERS := PySem.W.mg_of X G q_MOST_ANSWERS
    t_MOST_FIELDS := t_MOST_FIELDS
    c_MOST_FIELDS := PySem.W.mg_of X G q_MOST_FIELDS
    t_MOST_KINDS := t_MOST_KINDS
    c_MOST_KINDS := PySem.W.mg_of X G q_MOST_KINDS
    t_MOST_NAME := t_MOST_NAME
    c_MOST_NAME := PySem.W.mg_of X G q_MOST_NAME
    t_PAIR := t_PAIR
    c_PAIR := PySem.W.mg_of X G q_PAIR
    a_RESERVED := ad_RESERVED
    c_RESERVED := PySem.W.mg_of X G q_RESERVED
    k_RESERVED := tupC_of lk_RESERVED (by rw [sizeLine_eq]; exact (by decide : 26 ≤ 16777216)) (.cons ⟨_, rfl⟩ (.cons ⟨_, rfl⟩ (.cons ⟨_, rfl⟩ (.cons ⟨_, rfl⟩ (.cons ⟨_, rfl⟩ (.cons ⟨_, rfl⟩ (.cons ⟨_, rfl⟩ (.cons ⟨_, rfl⟩ (.cons ⟨_, rfl⟩ (.cons ⟨_, rfl⟩ (.cons ⟨_, rfl⟩ (.cons ⟨_, rfl⟩ (.cons ⟨_, rfl⟩ (.cons ⟨_, rfl⟩ (.cons ⟨_, rfl⟩ (.cons ⟨_, rfl⟩ (.cons ⟨_, rfl⟩ (.cons ⟨_, rfl⟩ (.cons ⟨_, rfl⟩ (.cons ⟨_, rfl⟩ (.cons ⟨_, rfl⟩ (.cons ⟨_, rfl⟩ (.cons ⟨_, rfl⟩ (.cons ⟨_, rfl⟩ (.cons ⟨_, rfl⟩ (.cons ⟨_, rfl⟩ .nil))))))))))))))))))))))))))
    t_SET := t_SET
    c_SET := PySem.W.mg_of X G q_SET
    t_UNIQUE := t_UNIQUE
    c_UNIQUE := PySem.W.mg_of X G q_UNIQUE
    z_abs := PySem.W.mg_none_of X G z_abs
    z_all := PySem.W.mg_none_of X G z_all
    z_any := PySem.W.mg_none_of X G z_any
    z_enumerate := PySem.W.mg_none_of X G z_enumerate
    z_isinstance := PySem.W.mg_none_of X G z_isinstance
    z_len := PySem.W.mg_none_of X G z_len
    z_list := PySem.W.mg_none_of X G z_list
    z_max := PySem.W.mg_none_of X G z_max
    z_min := PySem.W.mg_none_of X G z_min
    z_property := PySem.W.mg_none_of X G z_property
    z_range := PySem.W.mg_none_of X G z_range
    z_repr := PySem.W.mg_none_of X G z_repr
    z_str := PySem.W.mg_none_of X G z_str
    z_tuple := PySem.W.mg_none_of X G z_tuple
    z_zip := PySem.W.mg_none_of X G z_zip }
  exact (ok_law (P := l.prog) (w := w) (base := base) T).imp fun vs H Q E h => spec_T (ts := [("_law_is_right", "_law_is_right.<locals>.<lambda>")]) law_mir (.cons ti39 .nil) ndT nsT h
abbrev wk {l : PySem.W.OpenLaw} {n k : Nat} {q : Program} {loose : List Str} {XP : (Str → Option Value) → Heap → Prop} {YP : World → Heap → Prop} {d : DefRec} {K : Params → PySem.W.Frag} {x : Str} {bm : Addr} {c0 p0 : Addr} := @Mi.walk_TT l n k q loose XP YP d K x [(c0, p0)] bm
end K04
open PySem PySem.W PyProof.Rows
set_option maxRecDepth 100000 in
set_option maxHeartbeats 0 in
theorem PySem.Challenge.cw_laterknown_k04_kinds_read_and_shown_holds : PySem.Challenge.rw_laterknown_k04_kinds_read_and_shown.Holds := by
  w_on; o_law; k_head; (case hw => w_witness2)
  k_fill
  refine' K04.wk (l := PySem.Challenge.rw_laterknown_k04_kinds_read_and_shown) (n := 63) (k := 7) (x := "_law_script") rfl (by decide) rfl ?Q ⟨⟨rfl, by decide, by decide⟩, rfl⟩ (fun w h Y => PySem.W.km_in_of Y) ?YT ?NT ?HC ?NS ?CK ?HB ?HB2 ?F
  case F =>
    intro w mg fa h KX G hmg
    refine' K04.all_mk KX G hmg ?aC_LaterError ?aC_NoField ?aC_BadKinds ?aC_NoKind ?xk_BadKinds ?qsup ?xk_NoKind ?xga_NoKind ?xgg_NoKind ?xsb_NoKind ?xhd_NoKind ?xca_NoKind ?xcg_NoKind ?xck_NoKind ?xcm_NoKind ?nx_NoKind_value ?aC_Kind ?pg_Kind ?hd_Kind ?po_Kind ?sa_Kind ?ca_Kind ?cg_Kind ?ck_Kind ?cm_Kind ?na_Kind_held_name ?na_Kind_held_parts ?aC_Kinds ?pg_Kinds ?hd_Kinds ?po_Kinds ?sa_Kinds ?ca_Kinds ?cg_Kinds ?ck_Kinds ?cm_Kinds ?na_Kinds_held_kinds ?na_Kinds_own_text ?em1_LaterError ?em2_LaterError ?em3_LaterError ?em4_LaterError_NoKind ?kt_Kinds_Kinds ?kt_Kinds_bool ?kt_Kinds_int ?kt_Kinds_NoneType ?kt_Kinds_tuple ?kt_Kinds_str ?kt_NoKind_NoKind ?kt_BadKinds_NoField_NoKind ?a1 ?l1 ?c1 ?k1 ?a2 ?l2 ?c2 ?k2 ?l3 ?c3 ?k3 ?mi_Kind ?mm_Kind ?mf_Kind ?mk_Kind ?l4 ?c4 ?k4 ?ma_Kind_named ?mb_Kind_named ?mc_Kind_named ?l5 ?c5 ?k5 ?ma_Kind_has_mark ?mb_Kind_has_mark ?mc_Kind_has_mark ?l6 ?c6 ?k6 ?ma_Kind_all_names ?mb_Kind_all_names ?mc_Kind_all_names ?l7 ?c7 ?k7 ?ma_Kind_takes ?mb_Kind_takes ?mc_Kind_takes ?l8 ?c8 ?k8 ?ma_Kind_has_room ?mb_Kind_has_room ?mc_Kind_has_room ?l9 ?c9 ?k9 ?pa_Kind_name ?pd_Kind_name ?pb_Kind_name ?pc_Kind_name ?l10 ?c10 ?k10 ?pa_Kind_set_fields ?pd_Kind_set_fields ?pb_Kind_set_fields ?pc_Kind_set_fields ?l11 ?c11 ?k11 ?pa_Kind_fixed_fields ?pd_Kind_fixed_fields ?pb_Kind_fixed_fields ?pc_Kind_fixed_fields ?l12 ?c12 ?k12 ?pa_Kind_fresh_answers ?pd_Kind_fresh_answers ?pb_Kind_fresh_answers ?pc_Kind_fresh_answers ?l13 ?c13 ?k13 ?pa_Kind_free_answers ?pd_Kind_free_answers ?pb_Kind_free_answers ?pc_Kind_free_answers ?l14 ?c14 ?k14 ?pa_Kind_unique_fields ?pd_Kind_unique_fields ?pb_Kind_unique_fields ?pc_Kind_unique_fields ?l15 ?c15 ?k15 ?pa_Kind_held ?pd_Kind_held ?pb_Kind_held ?pc_Kind_held ?l16 ?c16 ?k16 ?pa_Kind_single ?pd_Kind_single ?pb_Kind_single ?pc_Kind_single ?l17 ?c17 ?k17 ?pa_Kind_token ?pd_Kind_token ?pb_Kind_token ?pc_Kind_token ?l18 ?c18 ?k18 ?pa_Kind_guarded ?pd_Kind_guarded ?pb_Kind_guarded ?pc_Kind_guarded ?l19 ?c19 ?k19 ?mi_Kinds ?mm_Kinds ?mf_Kinds ?mk_Kinds ?l20 ?c20 ?k20 ?pa_Kinds_names ?pd_Kinds_names ?pb_Kinds_names ?pc_Kinds_names ?l21 ?c21 ?k21 ?ma_Kinds___getitem__ ?mb_Kinds___getitem__ ?mc_Kinds___getitem__ ?fn_Kinds___getitem__ ?l22 ?c22 ?k22 ?ma_Kinds___contains__ ?mb_Kinds___contains__ ?mc_Kinds___contains__ ?l23 ?c23 ?k23 ?ma_Kinds___len__ ?mb_Kinds___len__ ?mc_Kinds___len__ ?l24 ?c24 ?k24 ?ma_Kinds___eq__ ?mb_Kinds___eq__ ?mc_Kinds___eq__ ?nf0_Kinds___eq__ ?nf1_Kinds___eq__ ?nf2_Kinds___eq__ ?nf3_Kinds___eq__ ?nf4_Kinds___eq__ ?ne_Kinds ?mr_Kinds ?a25 ?l25 ?c25 ?k25 ?a26 ?l26 ?c26 ?k26 ?a27 ?l27 ?c27 ?k27 ?a28 ?l28 ?c28 ?k28 ?a29 ?l29 ?c29 ?k29 ?a30 ?l30 ?c30 ?k30 ?a31 ?l31 ?c31 ?k31 ?a32 ?l32 ?c32 ?k32 ?a33 ?l33 ?c33 ?k33 ?a34 ?l34 ?c34 ?k34 ?a35 ?l35 ?c35 ?k35 ?a36 ?l36 ?c36 ?k36 ?a37 ?l37 ?c37 ?k37 ?a38 ?l38 ?c38 ?k38 ?a39 ?l39 ?c39 ?w39 ?wx39 ?k39 ?a40 ?l40 ?c40 ?k40 ?a41 ?l41 ?c41 ?k41 ?a42 ?l42 ?c42 ?k42 ?q_ANSWERS ?lk_ANSWERS ?q_FIELDS ?lk_FIELDS ?q_FIXED ?q_FREE ?q_FRESH ?q_INDENT ?q_KIND ?q_LETTERS ?q_MARKS ?lk_MARKS ?q_MOST_ANSWERS ?q_MOST_FIELDS ?q_MOST_KINDS ?q_MOST_NAME ?q_PAIR ?q_RESERVED ?lk_RESERVED ?q_SET ?q_UNIQUE ?z_abs ?z_all ?z_any ?z_enumerate ?z_isinstance ?z_len ?z_list ?z_max ?z_min ?z_property ?z_range ?z_repr ?z_str ?z_tuple ?z_zip ?ndT ?nsT
    (case aC_LaterError => k_is)
    (case aC_NoField => k_is)
    (case aC_BadKinds => k_is)
    (case aC_NoKind => k_is)
    (case aC_Kind => k_is)
    (case aC_Kinds => k_is)
    (case mi_Kind => k_is)
    (case ma_Kind_named => k_is)
    (case ma_Kind_has_mark => k_is)
    (case ma_Kind_all_names => k_is)
    (case ma_Kind_takes => k_is)
    (case ma_Kind_has_room => k_is)
    (case pa_Kind_name => k_is)
    (case pd_Kind_name => k_is)
    (case pa_Kind_set_fields => k_is)
    (case pd_Kind_set_fields => k_is)
    (case pa_Kind_fixed_fields => k_is)
    (case pd_Kind_fixed_fields => k_is)
    (case pa_Kind_fresh_answers => k_is)
    (case pd_Kind_fresh_answers => k_is)
    (case pa_Kind_free_answers => k_is)
    (case pd_Kind_free_answers => k_is)
    (case pa_Kind_unique_fields => k_is)
    (case pd_Kind_unique_fields => k_is)
    (case pa_Kind_held => k_is)
    (case pd_Kind_held => k_is)
    (case pa_Kind_single => k_is)
    (case pd_Kind_single => k_is)
    (case pa_Kind_token => k_is)
    (case pd_Kind_token => k_is)
    (case pa_Kind_guarded => k_is)
    (case pd_Kind_guarded => k_is)
    (case mi_Kinds => k_is)
    (case pa_Kinds_names => k_is)
    (case pd_Kinds_names => k_is)
    (case ma_Kinds___getitem__ => k_is)
    (case ma_Kinds___contains__ => k_is)
    (case ma_Kinds___len__ => k_is)
    (case ma_Kinds___eq__ => k_is)
    (case q_ANSWERS => k_is)
    (case q_FIELDS => k_is)
    (case q_FIXED => k_is)
    (case q_FREE => k_is)
    (case q_FRESH => k_is)
    (case q_INDENT => k_is)
    (case q_KIND => k_is)
    (case q_LETTERS => k_is)
    (case q_MARKS => k_is)
    (case q_MOST_ANSWERS => k_is)
    (case q_MOST_FIELDS => k_is)
    (case q_MOST_KINDS => k_is)
    (case q_MOST_NAME => k_is)
    (case q_PAIR => k_is)
    (case q_RESERVED => k_is)
    (case q_SET => k_is)
    (case q_UNIQUE => k_is)
    (case xk_BadKinds => refine' Mi.xvk ?xa1 ?xa2 ?xa3 ?xa4 ?xa5 ?xa6 ?xa7 ?xa8 ?xa9 ?xa10 ?xa11 ?xa12 ?xa13 ?xa14 ?xa15 ?xa16 ?xa17 ?xa18 ?xa19 ?xd1 ?xd2 ?xd3 ?xd4 ?xd5 ?xd6; (case xa1 => k_is); (case xa2 => k_is); (case xa3 => k_is); (case xa4 => k_is); (case xa5 => k_is); (case xa6 => k_is); (case xa7 => k_is); (case xa8 => k_is); (case xa9 => k_is); (case xa10 => k_is); (case xa11 => k_is); (case xa12 => k_is); (case xa13 => k_is); (case xa15 => k_is); (case xa16 => k_is); (case xa17 => k_is); (case xa18 => k_is); (case xa19 => k_is); (case xa14 => ks_is); (case xd1 => decide +kernel); (case xd2 => rfl); (case xd3 => decide +kernel); (case xd4 => decide +kernel); (case xd5 => exact ⟨rfl, rfl, rfl, rfl, rfl, rfl, rfl, by decide +kernel⟩); (case xd6 => rfl))
    (case qsup => k_is)
    (case xk_NoKind => refine' Mi.xvk ?xa1 ?xa2 ?xa3 ?xa4 ?xa5 ?xa6 ?xa7 ?xa8 ?xa9 ?xa10 ?xa11 ?xa12 ?xa13 ?xa14 ?xa15 ?xa16 ?xa17 ?xa18 ?xa19 ?xd1 ?xd2 ?xd3 ?xd4 ?xd5 ?xd6; (case xa1 => k_is); (case xa2 => k_is); (case xa3 => k_is); (case xa4 => k_is); (case xa5 => k_is); (case xa6 => k_is); (case xa7 => k_is); (case xa8 => k_is); (case xa9 => k_is); (case xa10 => k_is); (case xa11 => k_is); (case xa12 => k_is); (case xa13 => k_is); (case xa15 => k_is); (case xa16 => k_is); (case xa17 => k_is); (case xa18 => k_is); (case xa19 => k_is); (case xa14 => ks_is); (case xd1 => decide +kernel); (case xd2 => rfl); (case xd3 => decide +kernel); (case xd4 => decide +kernel); (case xd5 => exact ⟨rfl, rfl, rfl, rfl, rfl, rfl, rfl, by decide +kernel⟩); (case xd6 => rfl))
    (case xga_NoKind => k_is)
    (case xgg_NoKind => k_is)
    (case xsb_NoKind => k_is)
    (case xhd_NoKind => k_is)
    (case xca_NoKind => k_is)
    (case xcg_NoKind => k_is)
    (case xck_NoKind => k_is)
    (case xcm_NoKind => k_is)
    (case nx_NoKind_value => k_is)
    (case pg_Kind => k_is)
    (case hd_Kind => k_is)
    (case po_Kind => k_is)
    (case sa_Kind => k_is)
    (case ca_Kind => k_is)
    (case cg_Kind => k_is)
    (case ck_Kind => k_is)
    (case cm_Kind => k_is)
    (case na_Kind_held_name => k_is)
    (case na_Kind_held_parts => k_is)
    (case pg_Kinds => k_is)
    (case hd_Kinds => k_is)
    (case po_Kinds => k_is)
    (case sa_Kinds => k_is)
    (case ca_Kinds => k_is)
    (case cg_Kinds => k_is)
    (case ck_Kinds => k_is)
    (case cm_Kinds => k_is)
    (case na_Kinds_held_kinds => k_is)
    (case na_Kinds_own_text => k_is)
    (case em1_LaterError => k_is)
    (case em2_LaterError => k_is)
    (case em3_LaterError => k_is)
    (case em4_LaterError_NoKind => k_is)
    (case kt_Kinds_Kinds => kit_is)
    (case kt_Kinds_bool => kit_is)
    (case kt_Kinds_int => kit_is)
    (case kt_Kinds_NoneType => kit_is)
    (case kt_Kinds_tuple => kit_is)
    (case kt_Kinds_str => kit_is)
    (case kt_NoKind_NoKind => kit_is)
    (case kt_BadKinds_NoField_NoKind => kit_is)
    (case a1 => k_is)
    (case l1 => k_is)
    (case c1 => k_is)
    (case k1 => k_is)
    (case a2 => k_is)
    (case l2 => k_is)
    (case c2 => k_is)
    (case k2 => k_is)
    (case l3 => k_is)
    (case c3 => k_is)
    (case k3 => k_is)
    (case mm_Kind => k_is)
    (case mf_Kind => k_is)
    (case mk_Kind => k_is)
    (case l4 => k_is)
    (case c4 => k_is)
    (case k4 => k_is)
    (case mb_Kind_named => k_is)
    (case mc_Kind_named => k_is)
    (case l5 => k_is)
    (case c5 => k_is)
    (case k5 => k_is)
    (case mb_Kind_has_mark => k_is)
    (case mc_Kind_has_mark => k_is)
    (case l6 => k_is)
    (case c6 => k_is)
    (case k6 => k_is)
    (case mb_Kind_all_names => k_is)
    (case mc_Kind_all_names => k_is)
    (case l7 => k_is)
    (case c7 => k_is)
    (case k7 => k_is)
    (case mb_Kind_takes => k_is)
    (case mc_Kind_takes => k_is)
    (case l8 => k_is)
    (case c8 => k_is)
    (case k8 => k_is)
    (case mb_Kind_has_room => k_is)
    (case mc_Kind_has_room => k_is)
    (case l9 => k_is)
    (case c9 => k_is)
    (case k9 => k_is)
    (case pb_Kind_name => k_is)
    (case pc_Kind_name => k_is)
    (case l10 => k_is)
    (case c10 => k_is)
    (case k10 => k_is)
    (case pb_Kind_set_fields => k_is)
    (case pc_Kind_set_fields => k_is)
    (case l11 => k_is)
    (case c11 => k_is)
    (case k11 => k_is)
    (case pb_Kind_fixed_fields => k_is)
    (case pc_Kind_fixed_fields => k_is)
    (case l12 => k_is)
    (case c12 => k_is)
    (case k12 => k_is)
    (case pb_Kind_fresh_answers => k_is)
    (case pc_Kind_fresh_answers => k_is)
    (case l13 => k_is)
    (case c13 => k_is)
    (case k13 => k_is)
    (case pb_Kind_free_answers => k_is)
    (case pc_Kind_free_answers => k_is)
    (case l14 => k_is)
    (case c14 => k_is)
    (case k14 => k_is)
    (case pb_Kind_unique_fields => k_is)
    (case pc_Kind_unique_fields => k_is)
    (case l15 => k_is)
    (case c15 => k_is)
    (case k15 => k_is)
    (case pb_Kind_held => k_is)
    (case pc_Kind_held => k_is)
    (case l16 => k_is)
    (case c16 => k_is)
    (case k16 => k_is)
    (case pb_Kind_single => k_is)
    (case pc_Kind_single => k_is)
    (case l17 => k_is)
    (case c17 => k_is)
    (case k17 => k_is)
    (case pb_Kind_token => k_is)
    (case pc_Kind_token => k_is)
    (case l18 => k_is)
    (case c18 => k_is)
    (case k18 => k_is)
    (case pb_Kind_guarded => k_is)
    (case pc_Kind_guarded => k_is)
    (case l19 => k_is)
    (case c19 => k_is)
    (case k19 => k_is)
    (case mm_Kinds => k_is)
    (case mf_Kinds => k_is)
    (case mk_Kinds => k_is)
    (case l20 => k_is)
    (case c20 => k_is)
    (case k20 => k_is)
    (case pb_Kinds_names => k_is)
    (case pc_Kinds_names => k_is)
    (case l21 => k_is)
    (case c21 => k_is)
    (case k21 => k_is)
    (case mb_Kinds___getitem__ => k_is)
    (case mc_Kinds___getitem__ => k_is)
    (case fn_Kinds___getitem__ => k_is)
    (case l22 => k_is)
    (case c22 => k_is)
    (case k22 => k_is)
    (case mb_Kinds___contains__ => k_is)
    (case mc_Kinds___contains__ => k_is)
    (case l23 => k_is)
    (case c23 => k_is)
    (case k23 => k_is)
    (case mb_Kinds___len__ => k_is)
    (case mc_Kinds___len__ => k_is)
    (case l24 => k_is)
    (case c24 => k_is)
    (case k24 => k_is)
    (case mb_Kinds___eq__ => k_is)
    (case mc_Kinds___eq__ => k_is)
    (case nf0_Kinds___eq__ => k_is)
    (case nf1_Kinds___eq__ => k_is)
    (case nf2_Kinds___eq__ => k_is)
    (case nf3_Kinds___eq__ => k_is)
    (case nf4_Kinds___eq__ => k_is)
    (case ne_Kinds => k_is)
    (case mr_Kinds => k_is)
    (case a25 => k_is)
    (case l25 => k_is)
    (case c25 => k_is)
    (case k25 => k_is)
    (case a26 => k_is)
    (case l26 => k_is)
    (case c26 => k_is)
    (case k26 => k_is)
    (case a27 => k_is)
    (case l27 => k_is)
    (case c27 => k_is)
    (case k27 => k_is)
    (case a28 => k_is)
    (case l28 => k_is)
    (case c28 => k_is)
    (case k28 => k_is)
    (case a29 => k_is)
    (case l29 => k_is)
    (case c29 => k_is)
    (case k29 => k_is)
    (case a30 => k_is)
    (case l30 => k_is)
    (case c30 => k_is)
    (case k30 => k_is)
    (case a31 => k_is)
    (case l31 => k_is)
    (case c31 => k_is)
    (case k31 => k_is)
    (case a32 => k_is)
    (case l32 => k_is)
    (case c32 => k_is)
    (case k32 => k_is)
    (case a33 => k_is)
    (case l33 => k_is)
    (case c33 => k_is)
    (case k33 => k_is)
    (case a34 => k_is)
    (case l34 => k_is)
    (case c34 => k_is)
    (case k34 => k_is)
    (case a35 => k_is)
    (case l35 => k_is)
    (case c35 => k_is)
    (case k35 => k_is)
    (case a36 => k_is)
    (case l36 => k_is)
    (case c36 => k_is)
    (case k36 => k_is)
    (case a37 => k_is)
    (case l37 => k_is)
    (case c37 => k_is)
    (case k37 => k_is)
    (case a38 => k_is)
    (case l38 => k_is)
    (case c38 => k_is)
    (case k38 => k_is)
    (case a39 => k_is)
    (case l39 => k_is)
    (case c39 => k_is)
    (case w39 => k_is)
    (case wx39 => exact rfl)
    (case k39 => k_is)
    (case a40 => k_is)
    (case l40 => k_is)
    (case c40 => k_is)
    (case k40 => k_is)
    (case a41 => k_is)
    (case l41 => k_is)
    (case c41 => k_is)
    (case k41 => k_is)
    (case a42 => k_is)
    (case l42 => k_is)
    (case c42 => k_is)
    (case k42 => k_is)
    (case lk_ANSWERS => k_is)
    (case lk_FIELDS => k_is)
    (case lk_MARKS => k_is)
    (case lk_RESERVED => k_is)
    (case z_abs => k_is)
    (case z_all => k_is)
    (case z_any => k_is)
    (case z_enumerate => k_is)
    (case z_isinstance => k_is)
    (case z_len => k_is)
    (case z_list => k_is)
    (case z_max => k_is)
    (case z_min => k_is)
    (case z_property => k_is)
    (case z_range => k_is)
    (case z_repr => k_is)
    (case z_str => k_is)
    (case z_tuple => k_is)
    (case z_zip => k_is)
    (case ndT => decide)
    (case nsT => decide)
  (case YT => intro w h Y; exact (List.forall_mem_cons.mpr ⟨PySem.W.km_tabs_of Y _ (by simp), (fun _ h => nomatch h)⟩))
  (case NT => intro w; exact (List.forall_mem_cons.mpr ⟨⟨by kernel_rfl, by decide⟩, (fun _ h => nomatch h)⟩))
  (case HC => intro w; exact (List.forall_mem_cons.mpr ⟨by kernel_rfl, (fun _ h => nomatch h)⟩))
  (case NS => intro w; kernel_rfl)
  (case CK => exact (List.forall_mem_cons.mpr ⟨by decide, (fun _ h => nomatch h)⟩))
  (case HB => intro w; k_is)
  (case HB2 => decide)
  (case Q => decide +kernel)
end
