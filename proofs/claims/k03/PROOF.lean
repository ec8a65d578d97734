import PyProof.Rows.All
import Wide.All
import OpenK.AllK
import Wide.FinOn
import KE.KExcSuper
import KE.KExcIs
import HandS.ForMost
import HandS.Exc
import HandS.TryOnly
import HandS.ExcInit
import HandS.ExcField
import HandS.ExcIs
import HandS.WordsExc
import KE.KStateDown
import HandS.Defaults
import HandS.Ends
import HandS.Head0
import HandS.Head1
import HandS.Head2
import HandS.HeadEnd
import HandS.HeadHook1
import HandS.HeadHook2
import HandS.Codes
import HandS.Conv
import HandS.IsInst
import HandS.TupAny
import HandS.TupMul
import HandS.Zip
import HandS.Evl
import HandS.ExcOwn
import HandS.DictComp
import HandS.HotCalls
import HandS.TryMany
import PyProof.ReprRoads
import PySem.Challenge.RW_hangstogether_k03_errors_and_limits
set_option Elab.async false
set_option linter.all false
set_option maxRecDepth 100000
set_option maxHeartbeats 2000000
/-! own error classes over ValueError whose inherited __init__ says super().__init__(reason); self.reason = reason -/
namespace HX
open PySem PySem.W PySem.Calls PyProof.Rows PySem.HandSPX
/-! the text of ReasonError.__init__ -/
def rA (p1 p2 : Pos) : Arguments := { posonlyargs := [], args := [{ arg := "self", annotation := none, pos := p1 }, { arg := "reason", annotation := none, pos := p2 }], vararg := none, kwonlyargs := [], kw_defaults := [], kwarg := none, defaults := [] }
def rB (q1 q2 q3 q4 q5 q6 q7 q8 q9 q10 : Pos) : List Stmt :=
  [.Expr (.Call (.Attribute (.Call (.Name "super" q1) [] [] q2) "__init__" q3) [.Name "reason" q4] [] q5) q6,
   .Assign [.Attribute (.Name "self" q7) "reason" q8] (.Name "reason" q9) q10]
def rS : Scope := { kind := .function, names := [(PySem.Str.ofString "self", .local), (PySem.Str.ofString "reason", .local), (PySem.Str.ofString "__class__", .free), (PySem.Str.ofString "super", .globalImplicit)], isGenerator := false, isCoroutine := false, more := [] }
/-- what the written part says of an error class at C that has its __init__ from the class at D (fI, its class cell at cc) -/
structure RsTxt (P : Program) (K : Frag) (mg : Str → Option Value) (C D fI cc : Addr) : Prop where
  cls : ∃ nm q N bs bm sn sub ab col dd k0 k1 k2 k3 k5, K.lookup C = some (excClassObj nm q C N bs bm true sn sub ab col dd k0 k1 k2 k3 k5 "ValueError.__new__") ∧ refsVE bm = true
  sa : findIn K (.ref C) "__setattr__" = some (some (.builtin "object.__setattr__"))
  noN : findIn K (.ref C) "reason" = some none
  iC : findIn K (.ref C) "__init__" = some (some (.ref fI))
  tI : typeIn K (.ref fI) = some (.type "function")
  kC : keepIn K (.ref C) = true
  exC : subIn K (.ref C) (.type "BaseException") = some true
  veC : subIn K (.ref C) (.type "ValueError") = some true
  tyC : typeIn K (.ref C) = some (.type "type")
  hD : (clsIn K D).isSome = true
  sub : mroIn K C (.ref D) = some true
  up : ks_superIn K C D "__init__" = some (some (.builtin "ValueError.__init__"))
  sup : mg "super" = none
  third : nsIn K cStatics "thirdparty.any" = some none
  top : (P.main.scope.names.lookup ("super" : Str)).isSome = false
  cell : ∃ cl cld csl, K.lookup cc = some ⟨cl, cld, .cell (some (.ref D)), csl⟩
  fn : ∃ (oc : Value) (od : Option Addr) (doc pm : Value) (an : Option Addr) (cda : Addr) (ct : Value) (osl : Array (Option Value)) (p1 p2 q1 q2 q3 q4 q5 q6 q7 q8 q9 q10 : Pos) (ccl : Value) (cdd : Option Addr) (vs : Array Value) (ccs : Array (Option Value)) (file : Str) (tf : Tok),
    K.lookup fI = some ⟨oc, od, .func (ksFn "__init__" "ReasonError.__init__" (rA p1 p2) (rB q1 q2 q3 q4 q5 q6 q7 q8 q9 q10) rS .none .none doc pm an (.ref cda) ct cc), osl⟩ ∧ codeIn K (.ref cda) "ReasonError.__init__" = true ∧
    K.lookup cda = some ⟨ccl, cdd, .fields vs, ccs⟩ ∧ vs[2]? = some (.str file tf) ∧ ((P.main.file : Str) == file) = true ∧ (q3.endLine == q5.line) = true
/-- what __init__ leaves of a fresh error at x -/
structure InitEnd (h h' : Heap) (x C dx t1 : Addr) (v : Value) : Prop where
  keep : ∀ b o, b ≠ x → h.get? b = some o → h'.get? b = some o
  obj : h'.get? x = some { cls := .ref C, dict := some dx, data := .fields #[.ref t1, .none, .none, .none, .bool false, .none] }
  dbig : h.objs.size ≤ dx
  dne : dx ≠ x
  ns : h'.Ns1 dx (fun y => if y = "reason" then some v else none)
theorem one_ok (v : Value) : [v].length ≤ sizeLine := by
  rw [sizeLine_eq]
  exact (by decide : 1 ≤ 16777216)
def plnOf (o : Expr) (env : Env) : Sem Bool := do return (← importBound o env).getD true
theorem mc_one {o a : Expr} {m : Str} {apos pos : Pos} {env : Env} (hl : (apos.endLine == pos.line) = true) (ha : starEach [a] env = [(false, eval a env)]) :
    eval (.Call (.Attribute o m apos) [a] [] pos) env = (do
      let ov ← attributeBase o m env (eval o env)
      standAt apos.atName
      let (f, first) ← holding [ov] (getMethod ov m (plnOf o env))
      callWith pos f first (backTo pos (starEach [a] env)) []) := by
  have e : ∀ ov, methodCall o m apos pos env ov ([a].length + ([] : List Keyword).length) (backTo pos (starEach [a] env)) (backToKw pos (keywordEach [] env)) = (do
      let (f, first) ← holding [ov] (getMethod ov m (plnOf o env))
      callWith pos f first (backTo pos (starEach [a] env)) []) := fun ov => by
    have e1 : methodCallForm ([a].length + ([] : List Keyword).length) (backTo pos (starEach [a] env)) (backToKw pos (keywordEach [] env)) = true := by rw [ha]; rfl
    unfold methodCall
    rw [e1]
    have e2 : methodCallPos true o env apos pos = pure pos := by
      unfold methodCallPos
      rw [hl]
      rfl
    have e3 : calleeOf true o env ov m = getMethod ov m (plnOf o env) := rfl
    rw [e2, e3]
    rfl
  show (do
    let ov ← attributeBase o m env (eval o env)
    standAt apos.atName
    methodCall o m apos pos env ov ([a].length + ([] : List Keyword).length) (backTo pos (starEach [a] env)) (backToKw pos (keywordEach [] env))) = _
  simp only [e]
section
variable {prog : Program} {w : World} {A : Around} {E : Value → Shared → Prop} {R : Result → Shared → Prop} {s : Shared} {K : Frag} {mg : Str → Option Value} {C D fI cc : Addr}
/-- the built-in __init__ bound to a fresh error, called: the args are laid anew -/
theorem bound_init {h : Heap} {g : Array GenState} {d : Drawn} {t : Nat} {os : OsState} {u e t0 : Addr} {rest : List Value} {Q : Value → Shared → Prop}
    {nm q : Str} {N : Addr} {bs bm : List Value} {sn : List Str} {sub : List Value} {ab : Bool} {col : Option Bool} {dd : Option Addr} {k0 k1 k2 k3 k5 : Option Value}
    (hC : h.get? C = some (excClassObj nm q C N bs bm true sn sub ab col dd k0 k1 k2 k3 k5 "ValueError.__new__")) (he : h.get? e = some (excO C t0)) (hu : h.get? u = some (kxs_mw "ValueError.__init__" e)) (hr : rest.length ≤ sizeLine)
    (hq : ∀ h' t1, (∀ b o, b ≠ e → h.get? b = some o → h'.get? b = some o) → h'.get? e = some (excO C t1) → h.objs.size ≤ h'.objs.size → Q .none ⟨h', g, d, t, os⟩) :
    wpAny (model prog w) A (call (.ref u) rest) Q E ⟨h, g, d, t, os⟩ := by
  have FB := F.excBase_ValueError
  refine wpAny_call (codeAny_of_tree ?_)
  show wpAny _ A.in1 (callAny (.ref u) ⟨rest, []⟩) _ _ _
  simp only [callAny]
  refine wpAny_bind (wpAny_load hu ?_)
  simp only [kxs_mw, show (Value.type "method-wrapper" == Value.type "method" || Value.type "method-wrapper" == Value.type "builtin_function_or_method" || Value.type "method-wrapper" == Value.type "method-wrapper") = true by decide, if_true]
  refine KFB.if_so (by decide) ?_
  refine wpAny_bind (check_bound_init FB.toExcCallFacts hC he rfl ?_)
  refine wpAny_bind (wpAny_pure (wpAny_pure ?_))
  refine ⟨plainId_quiet FB.init.plain _, codeAny_builtin FB.initEntry ?_⟩
  refine exc_init_tree (cls := .ref C) (t0 := t0) (dv := none) (c2 := .none) (c3 := .none) (b4 := .bool false) he hr fun h' k e' t' => ?_
  exact hq h' _ k e' (Nat.le_of_lt (Heap.lt_size t'))
theorem reason_init (T : RsTxt prog K mg C D fI cc) {x t0 : Addr} {v : Value} (X : K.In s.heap) (G : s.heap.Ns mainGlobals mg) (B : ∃ mb, s.heap.Ns builtinsNs mb ∧ ∀ y : Str, y ≠ "__name__" → mb y = bootBuiltins y)
    (hlim : s.heap.NoLimit) (hx : s.heap.get? x = some (excO C t0)) (hnx : K.lookup x = none) (hroom : A.depth < recursionLimit)
    (hq : ∀ h' tk dx t1, InitEnd s.heap h' x C dx t1 v → R (.ok (.ret .none)) { s with heap := h', toks := tk }) :
    codeAny (model prog w) A (.call (.ref fI) ⟨[.ref x, v], []⟩) R s := by
  obtain ⟨oc, od, doc, pm, an, cda, ct, osl, p1, p2, q1, q2, q3, q4, q5, q6, q7, q8, q9, q10, ccl, cdd, vs, ccs, file, tf, ho, hcd, hcode, hvs, hfile, hline⟩ := T.fn
  obtain ⟨nm, q, N, bs, bm, sn, sub, ab, col, dd, k0, k1, k2, k3, k5, hC, hbm⟩ := T.cls
  obtain ⟨cl, cld, csl, hcell⟩ := T.cell
  obtain ⟨mb, hB, hmb⟩ := B
  have hcl : clsIn K C = some { name := nm, bases := bs, mro := .ref C :: bm, ns := N, qualname := q, hasDict := true, slotNames := sn, subclasses := sub, abstract := ab, collection := col, hasDel := false } := by unfold clsIn; rw [hC] <;> rfl
  have hxC : x ≠ C := fun z => by rw [z, hC] at hnx; cases hnx
  refine ks_codeAny_call_defAt (fd := ksFn "__init__" "ReasonError.__init__" (rA p1 p2) (rB q1 q2 q3 q4 q5 q6 q7 q8 q9 q10) rS .none .none doc pm an (.ref cda) ct cc) (binds := [("self", .ref x), ("reason", v)]) hroom (X _ _ ho) rfl hlim (codeRec_of X hcd) rfl
    (BindsTo.of_eq (by first | rfl | with_unfolding_all rfl)) (fun y hy => (show ∀ y ∈ rS.names, y.2 ≠ .cell by decide) y hy) (by
      intro y hy
      rcases List.mem_cons.mp hy with rfl | hy
      · rfl
      · rcases List.mem_cons.mp hy with rfl | hy
        · rfl
        · cases hy) (fun h₀ hns kp => ?_)
  have X₀ : K.In h₀ := X.keeps kp
  have hx₀ := kp _ _ hx
  refine ks_wpAt_execs_cons (ks_wpAt_Expr_any (ks_wpAt_MethodCall ?_ (mc_one hline rfl)))
  refine ks_wpAt_super_base (ar := { arg := "self", annotation := none, pos := p1 }) (by rfl) (by rfl) (by decide) rfl (X₀ _ _ ho) rfl rfl rfl (X₀ _ _ hcode) rfl hvs hfile T.top ?_
  refine ks_loadName_global (by rfl) (by rfl) (loadGlobal_builtin (G.keeps kp) T.sup (hB.keeps kp) ((hmb _ (by decide)).trans (by first | boot_by_name | rfl | kernel_rfl)) ⟨rfl, ?_⟩)
  refine wpAny_loadName_free (by rfl) (by rfl) rfl ⟨_, X₀ _ _ hcell, rfl⟩ ?_
  refine wpAny_loadName_local (by rfl) (by rfl) hns (by first | rfl | decide) ?_
  obtain ⟨cdD, hcD⟩ := Option.isSome_iff_exists.mp T.hD
  obtain ⟨oD, hD1, hD2⟩ : ∃ oD, h₀.get? D = some oD ∧ oD.data = .cls cdD := by
    unfold clsIn at hcD
    split at hcD
    · rename_i c' d' cd' sl' ho'
      cases hcD
      exact ⟨_, X₀ _ _ ho', rfl⟩
    · cases hcD
  refine ks_wpAny_isType_cls hD1 hD2 ⟨rfl, ?_⟩
  refine ks_wpAny_call_super hD1 hD2 hx₀ rfl (fun c e => by cases e) (looks_mroIn X₀ T.sub) (fun h₁ hso k₁ => ?_)
  have X₁ : K.In h₁ := X₀.keeps k₁
  have hx₁ := k₁ _ _ hx₀
  have I₁ : InstAt h₁ x (excO C t0) C none := ⟨hx₁, rfl, rfl, trivial⟩
  have hve : Looks (model prog w) h₁ (isInstance (.ref x) (.type "ValueError")) true := I₁.type.andThen (looks_subIn X₁ T.veC)
  have hup : alongIn K "__init__" (((Value.ref C :: bm).dropWhile (· != .ref D)).drop 1) = some (some (.builtin "ValueError.__init__")) := by
    have z := T.up
    unfold ks_superIn at z
    rw [hcl] at z
    exact z
  refine kxs_getMethod kxs_ValueError hso (looks_opaque X₁ T.third) (l₀ := Value.ref C :: bm) ((looks_clsIn X₁ hcl).andThen .now) rfl X₁ hup hve hxC (by decide) ?_
  have hx₂ : (h₁.push (kxs_mw "ValueError.__init__" x)).get? x = some (excO C t0) := Heap.get?_push_of_some _ hx₁
  have hu₂ : (h₁.push (kxs_mw "ValueError.__init__" x)).get? h₁.objs.size = some (kxs_mw "ValueError.__init__" x) := Heap.get?_push_size _ rfl
  have k₂ : ∀ b o, h₀.get? b = some o → (h₁.push (kxs_mw "ValueError.__init__" x)).get? b = some o := fun b o e => Heap.get?_push_of_some _ (k₁ b o e)
  have X₂ := X₀.keeps k₂
  refine kxs_callWith (i := "ValueError.__init__") (x := x) rfl ?_
  refine evalArgs_plain ?_
  have hn₂ := hns.keeps k₂
  refine Calls.spliced_cons ?_
  refine wpAny_Name (wpAny_loadName_local (by rfl) (by rfl) hn₂ (v := v) (by first | rfl | decide) ?_) (by decide)
  refine Calls.spliced_nil ⟨hu₂, ?_⟩
  refine bound_init (t0 := t0) (X₂ _ _ hC) hx₂ hu₂ (one_ok v) (fun h₃ t1 k₃ hx₃ hz₃ => ?_)
  have kn : ∀ b o, b ≠ x → h₀.get? b = some o → h₃.get? b = some o := fun b o hb e => k₃ b o hb (k₂ b o e)
  have X₃ : K.In h₃ := fun b o e => kn b o (fun z => by rw [z, hnx] at e; cases e) (X₀ b o e)
  have xL : s.heap.objs.size ≠ x := Nat.ne_of_gt (Heap.lt_size hx)
  have hn₃ : h₃.Ns s.heap.objs.size fun y => List.lookup y [(Str.ofString "self", Value.ref x), (Str.ofString "reason", v)].reverse := by
    obtain ⟨oL, es, ep, hL, r⟩ := hns
    exact ⟨oL, es, ep, kn _ _ xL hL, r⟩
  show _root_.PySem.wpAt _ _ _ (execs _ _) _ _ _
  refine ks_wpAt_execs_cons (ks_wpAt_Assign_Attr ?_)
  refine wpAt_of_wpAny (wpAny_Name (wpAny_loadName_local (by rfl) (by rfl) hn₃ (v := v) (by first | rfl | decide) ?_) (by decide))
  refine wpAny_Name (wpAny_loadName_local (by rfl) (by rfl) hn₃ (v := .ref x) (by first | rfl | decide) ?_) (by decide)
  refine set_plain X₃ (ox := excO C t1) (od := none) ⟨hx₃, rfl, rfl, trivial⟩ T.sa ?_
  refine exc_osa X₃ hx₃ hcl (show refsVE (.ref C :: bm) = true from hbm) rfl T.noN (fun h₄ tk₄ dx k₄ dn dne hx₄ hn₄ => ?_)
  refine wpAt_of_wpAny (wpAny_execs_nil ?_)
  exact hq h₄ tk₄ dx t1 ⟨fun b o hb e => k₄ b o hb (kn b o hb (kp b o e)), hx₄, Nat.le_of_lt (Nat.lt_of_lt_of_le hn₃.lt dn), dne, hn₄⟩
/-- a made error -/
structure Made (h h' : Heap) (e C d : Addr) (v : Value) : Prop where
  keep : ∀ b o, h.get? b = some o → h'.get? b = some o
  new : h.objs.size ≤ e
  obj : ∃ oe vs, h'.get? e = some oe ∧ oe.cls = .ref C ∧ oe.dict = some d ∧ oe.data = .fields vs ∧ vs[1]? = some .none
  dbig : h.objs.size ≤ d
  dne : d ≠ e
  ns : h'.Ns1 d (fun y => if y = "reason" then some v else none)
theorem reason_made (T : RsTxt prog K mg C D fI cc) {v : Value} (X : K.In s.heap) (G : s.heap.Ns mainGlobals mg) (B : ∃ mb, s.heap.Ns builtinsNs mb ∧ ∀ y : Str, y ≠ "__name__" → mb y = bootBuiltins y)
    (hlim : s.heap.NoLimit) (hroom : A.depth + 1 < recursionLimit)
    (hq : ∀ h' tk e d, Made s.heap h' e C d v → R (.ok (.ret (.ref e))) { s with heap := h', toks := tk }) :
    codeAny (model prog w) A (.call (.ref C) ⟨[v], []⟩) R s := by
  obtain ⟨nm, q, N, bs, bm, sn, sub, ab, col, dd, k0, k1, k2, k3, k5, hC, hbm⟩ := T.cls
  obtain ⟨hp, g, dr, tk, os⟩ := s
  have k : ∀ b o, hp.get? b = some o → ((hp.push (kdv_tup [v])).push (excO C hp.objs.size)).get? b = some o := fun b o e => Heap.get?_push_of_some _ (Heap.get?_push_of_some _ e)
  have hget : ((hp.push (kdv_tup [v])).push (excO C hp.objs.size)).get? (hp.objs.size + 1) = some (excO C hp.objs.size) := by heap_get
  have hnx : K.lookup (hp.objs.size + 1) = none := by
    cases e : K.lookup (hp.objs.size + 1) with
    | none => rfl
    | some o =>
      have z : hp.get? (hp.objs.size + 1) = some o := X _ _ e
      exact absurd (Nat.lt_of_succ_lt (Heap.lt_size z)) (Nat.lt_irrefl _)
  refine call_own F.excBase_ValueError (fun X => refsVE_contains X bm hbm) (X _ _ hC) (looks_findIn X T.iC) (fun self => bind_fn X self T.tI) (one_ok v) ?_
  obtain ⟨mb, hB, hmb⟩ := B
  refine reason_init (s := ⟨(hp.push (kdv_tup [v])).push (excO C hp.objs.size), g, dr, tk, os⟩) T (X.keeps k) (G.keeps k) ⟨mb, hB.keeps k, hmb⟩ (hlim.keeps k) hget hnx ?_ fun h' tk' dx t1 ⟨k', hx, dn, dne, hns⟩ => ?_
  · show A.depth + 1 < recursionLimit
    exact hroom
  · have old : ∀ b o, hp.get? b = some o → h'.get? b = some o := fun b o e => k' b o (Nat.ne_of_lt (Nat.lt_succ_of_lt (Heap.lt_size e))) (k b o e)
    have z : hp.objs.size + 1 + 1 ≤ dx := by
      first
        | (simpa only [Heap.size_push] using dn)
        | exact dn
        | (have q := dn; rw [Heap.size_push, Heap.size_push] at q; exact q)
    exact ⟨rfl, hq h' tk' (hp.objs.size + 1) dx ⟨old, Nat.le_succ _, ⟨_, _, hx, rfl, rfl, rfl, rfl⟩, Nat.le_trans (Nat.le_trans (Nat.le_succ _) (Nat.le_succ _)) z, dne, hns⟩⟩
end
end HX
namespace HX
open PySem PySem.Spec PyProof.Rows L2
theorem relO_rs {v : V} {v' : Value} (r : RelV v v') (f : Str) : RelO (List.lookup f [(("reason" : Str), v)]) (if f = "reason" then some v' else none) := by
  by_cases hw : f = "reason"
  · subst hw
    rw [if_pos rfl]
    have q : List.lookup ("reason" : Str) [(("reason" : Str), v)] = some v := by simp [List.lookup]
    rw [q]
    exact r
  · rw [if_neg hw]
    have qw : (f == ("reason" : Str)) = false := by simpa using hw
    have q2 : List.lookup f [(("reason" : Str), v)] = none := by simp [List.lookup, qw]
    rw [q2]
    trivial
section
variable {X : Cx} {C D fI cc : Addr} {x : Str}
/-- C(e): its own dict is new and holds the reason -/
def tMkR (C : Addr) (ta : TA) : L2.St → Hp → XK → Prop := fun σ H Q => ta σ H fun vs H1 => ∃ v, vs = [v] ∧ ∀ d, H1 d = none → Q (.ref C) (some d) (upd H1 d (.xd [(("reason" : Str), v)]))
theorem pmk_rs {a : Expr} {ta : TA} {p pos : Pos} {k : Nat} (T : RsTxt X.prog X.K X.mg C D fI cc) (hr : Room k X.A) (ha : PA X [a] ta) (hm : X.mg x = some (.ref C)) (hg : Gl X x := by rfl)
    (hdb : (x == ("__debug__" : Str)) = false := by decide)
    (he : starEach (a :: []) X.env = (false, eval a X.env) :: starEach [] X.env := by rfl) (hpl : (backTo pos (starEach [] X.env)).any (·.1) = false := by rfl) :
    PMk X (.Call (.Name x p) [a] [] pos) (tMkR C ta) := by
  intro pins s σ H Q I h
  refine wpAny_Call_Name_kw (ld_glob I hg hm ?_ hdb)
  refine PySem.W.callWith_K (h₀ := X.base) I.ok.mod.kin T.kC (thn (ha.run pos pins s σ H _ I h) fun us s1 hh => ?_) he hpl
  obtain ⟨vs, H1, I1, r1, v, ev, q1⟩ := hh
  subst ev
  refine ⟨I1.kIn, ?_⟩
  cases r1 with
  | cons rv rn =>
    rename_i v' us'
    cases rn
    show wpAny _ _ (call (.ref C) [v']) _ _ _
    have hlim := I1.nolimit
    have hG : s1.heap.Ns mainGlobals X.mg := I1.ok.mod.glob.keeps I1.bk
    have hB : ∃ mb, s1.heap.Ns builtinsNs mb ∧ ∀ y : Str, y ≠ "__name__" → mb y = bootBuiltins y := by
      obtain ⟨mb, hb, hm⟩ := I1.ok.mod.blt
      exact ⟨mb, hb.keeps I1.bk, hm⟩
    obtain ⟨hp, g, dr, tk, os⟩ := s1
    refine wpAny_call (reason_made T I1.kIn hG hB hlim (by have := hr.dp; omega) fun h' tk' e d M => ?_)
    show MkP X pins σ Q (.ref e) ⟨h', g, dr, tk', os⟩
    obtain ⟨oe, fv, hoe, hc, hd, hdat, h1⟩ := M.obj
    have hns := M.ns
    obtain ⟨G', g1, g2⟩ := restrict h' fun b => decide (b ≠ e)
    have gk : ∀ b, b ≠ e → G'.get? b = h'.get? b := fun b hb => g1 b (decide_eq_true hb)
    have ge : G'.get? e = none := g2 e (by simp)
    have old : ∀ b o, hp.get? b = some o → G'.get? b = some o := fun b o q => (gk b (Nat.ne_of_lt (Nat.lt_of_lt_of_le (Heap.lt_size q) M.new))).trans (M.keep b o q)
    have ob : ObjOk X.prog X.w (upd H1 d (.xd [(("reason" : Str), v)])) G' d (.xd [(("reason" : Str), v)]) :=
      ⟨_, hns.at (fun o q => (gk d M.dne).trans q), fun f => relO_rs rv f⟩
    have J : Inv X pins σ (upd H1 d (.xd [(("reason" : Str), v)])) ⟨G', g, dr, tk', os⟩ := I1.laid (t' := tk') old M.dbig ob
    refine ⟨e, oe, fv, ⟨G', g, dr, tk', os⟩, _, .ref C, some d, rfl, J, fun b o q => ?_, ge, hoe, ⟨hc, hd⟩, hdat, h1, ?_, rfl, I1.bare, raises_own T.exC T.tyC, q1 d (I1.hok.fresh M.dbig)⟩
    · by_cases hb : b = e
      · have q' : G'.get? b = some o := q
        rw [hb, ge] at q'; cases q'
      · exact (gk b hb).symm.trans q
    · rw [upd_ne (Ne.symm M.dne)]
      exact I1.hok.fresh M.new
/-- raise C(e) -/
def tRaiseR (C : Addr) (W : WX) (ta : TA) : TS := fun _ σ H => tMkR C ta σ H fun cls d H' => W cls d σ H'
theorem ps_raiseR {a : Expr} {ta : TA} {W : WX} {p pos pos2 : Pos} {k : Nat} (hc : X.calm = true) (T : RsTxt X.prog X.K X.mg C D fI cc) (hr : Room k X.A) (tk : Takes X W) (ha : PA X [a] ta) (hm : X.mg x = some (.ref C)) (hg : Gl X x := by rfl)
    (hdb : (x == ("__debug__" : Str)) = false := by decide)
    (he : starEach (a :: []) X.env = (false, eval a X.env) :: starEach [] X.env := by rfl) (hpl : (backTo pos (starEach [] X.env)).any (·.1) = false := by rfl) :
    PS X (.Raise (some (.Call (.Name x p) [a] [] pos)) none pos2) (tRaiseR C W ta) := ps_raise hc tk (pmk_rs T hr ha hm hg hdb he hpl)
end
end HX

namespace HX
open PySem PySem.Spec PyProof.Rows L2
/-- isinstance(e, c) in a suite, e the error that it holds (at a, class cls, own dict d) -/
def rIsX (K : PySem.W.Frag) (a : Addr) (cls : Value) (d : Option Addr) : List V → Hp → VK → Prop := fun xs H Q => ∃ (D dd : Addr) (fs : List (Str × V)) (c : V) (cv : Value) (b : Bool),
  cls = .ref D ∧ d = some dd ∧ L2.ExcC K D ∧ H dd = some (.xd fs) ∧ xs = [.ref a, c] ∧ (∀ u, RelV c u → u = cv) ∧ PySem.W.kitOne K (.ref D) cv = some b ∧ Q (.bl b) H
theorem call_isX {X : Cx} {a : Addr} {oe : Obj} {cls : Value} {d : Option Addr} {pn : List (Addr × Obj)} (hz : Zc cls d oe) (hf : ∃ vs, oe.data = .fields vs) : CallR (X.suite a ((a, oe) :: pn)) (.builtin "isinstance") (rIsX X.K a cls d) := by
  intro pins s σ H xs us Q I r h
  obtain ⟨D, dd, fs, c, cv, b, rfl, rfl, C, hdd, rfl, hcv, e, q⟩ := h
  cases r with
  | cons rx rr =>
    cases rr with
    | cons rt rr =>
      cases rr
      cases rx
      have ec := hcv _ rt
      subst ec
      obtain ⟨hget, _⟩ := I.pin (a, oe) (List.mem_append.mpr (.inl List.mem_cons_self))
      obtain ⟨vs, hv⟩ := hf
      have hxd : ObjOk X.prog X.w H s.heap dd (.xd fs) := I.hok dd _ hdd
      obtain ⟨mA, hns, hr⟩ := hxd
      obtain ⟨od, ho, hl⟩ := lookIn_ns hns
      have J : PySem.W.InstAt s.heap a oe D (some od) := ⟨hget, hz.1, by unfold PySem.W.notCls; rw [hv] <;> rfl, by rw [hz.2]; exact ho⟩
      have hcl : (PySem.W.clsIn X.K D).isSome = true := by
        have q := C.hd
        unfold PySem.W.hasDictIn at q
        cases z : PySem.W.clsIn X.K D with
        | none => rw [z] at q; cases q
        | some _ => rfl
      exact PySem.W.kia_one (PySem.W.kitx_exc hcl C.hg C.hk C.hs C.ha C.hn C.ht C.hm) I.kIn J e (fun z => nomatch z) fun tk => ⟨.bl b, H, I.kept (t' := tk) fun _ _ z => z, rfl, q⟩
end HX

set_option Elab.async false
set_option linter.all false
set_option maxRecDepth 100000
set_option maxHeartbeats 2000000
/-! the head's facts: defs by name, and the error classes -/
namespace HX
open PySem PySem.Spec PyProof.Rows L2 He
/-- an error class over ValueError -/
def excB (K : PySem.W.Frag) (C : Addr) : Bool := match K.lookup C with
  | some ⟨.type "type", _, .cls cd, sl⟩ => (match cd.mro, sl.toList with
    | .ref C' :: bm, [_, _, _, _, some (.builtin n), _] => decide (C' = C) && (decide (n = "ValueError.__new__") && (!cd.hasDel && (cd.hasDict && PySem.HandSPX.refsVE bm)))
    | _, _ => false)
  | _ => false
theorem excB_ok {K : PySem.W.Frag} {C : Addr} (h : excB K C = true) : ∃ nm q N bs bm sn sub ab col dd k0 k1 k2 k3 k5, K.lookup C = some (excClassObj nm q C N bs bm true sn sub ab col dd k0 k1 k2 k3 k5 "ValueError.__new__") ∧ PySem.HandSPX.refsVE bm = true := by
  unfold excB at h
  split at h
  · rename_i dd cd sl ho
    split at h
    · rename_i C' bm k0 k1 k2 k3 n k5 hm hs
      obtain ⟨h1, h⟩ := ba h
      obtain ⟨h2, h⟩ := ba h
      obtain ⟨h3, h⟩ := ba h
      obtain ⟨h4, h5⟩ := ba h
      have e1 : C' = C := of_decide_eq_true h1
      have e2 : n = "ValueError.__new__" := of_decide_eq_true h2
      subst e1 e2
      obtain ⟨nm, bs, mro, ns, qn, hd, sn, sub, ab, col, del⟩ := cd
      dsimp only at hm h3 h4
      subst hm
      have h3' : del = false := by cases del <;> first | rfl | cases h3
      subst h3' h4
      refine ⟨nm, qn, ns, bs, bm, sn, sub, ab, col, dd, k0, k1, k2, k3, k5, ?_, h5⟩
      rw [ho]
      have es : sl = #[k0, k1, k2, k3, some (.builtin "ValueError.__new__"), k5] := by
        obtain ⟨l⟩ := sl
        have hs' : l = [k0, k1, k2, k3, some (.builtin "ValueError.__new__"), k5] := hs
        rw [hs']
      rw [es]
    · cases h
  · cases h
/-- the cell of the class that the def at f closes over -/
def ccOf (K : PySem.W.Frag) (f : Addr) : Addr := match K.lookup f with
  | some ⟨_, _, .func fd, _⟩ => (match fd.closure with
    | (_, c) :: _ => c
    | [] => 0)
  | _ => 0
/-- what is looked at of such a class at C, its __init__ from the class at D -/
def rsB (P : Program) (K : PySem.W.Frag) (C D : Addr) : Bool :=
  excB K C && (eqO (PySem.W.findIn K (.ref C) "__setattr__") (some (some (.builtin "object.__setattr__"))) && (eqO (PySem.W.findIn K (.ref C) "reason") (some none) &&
  (eqO (PySem.W.findIn K (.ref C) "__init__") (some (some (.ref (ma K C "__init__")))) && (decide (PySem.W.typeIn K (.ref (ma K C "__init__")) = some (.type "function")) && (PySem.W.keepIn K (.ref C) &&
  (decide (PySem.W.subIn K (.ref C) (.type "BaseException") = some true) && (decide (PySem.W.subIn K (.ref C) (.type "ValueError") = some true) && (decide (PySem.W.typeIn K (.ref C) = some (.type "type")) &&
  ((PySem.W.clsIn K D).isSome && (decide (PySem.W.mroIn K C (.ref D) = some true) && (eqO (PySem.W.ks_superIn K C D "__init__") (some (some (.builtin "ValueError.__init__"))) &&
  (eqO (PySem.W.nsIn K mainGlobals "super") (some none) && (eqO (PySem.W.nsIn K cStatics "thirdparty.any") (some none) && (!(P.main.scope.names.lookup ("super" : Str)).isSome &&
  (match K.lookup (ccOf K (ma K C "__init__")) with
    | some ⟨_, _, .cell (some (.ref D')), _⟩ => decide (D' = D)
    | _ => false)))))))))))))))
abbrev InV : Type := Option (Str × Str × Arguments × FuncBody × Scope × Addr × Bool × Bool × Addr)
/-- its __init__ as it stands -/
def inObs (P : Program) (K : PySem.W.Frag) (f : Addr) : InV := match K.lookup f with
  | some ⟨_, _, .func fd, _⟩ => some (fd.name, fd.qualname, fd.params, fd.body, fd.scope, fd.globals,
      (match fd.closure with
      | [(x, _)] => decide (x = ("__class__" : Str))
      | _ => false) && ((match fd.defaults with | .none => true | _ => false) && (match fd.kwdefaults with | .none => true | _ => false)),
      (match fd.code with
      | .ref cda => PySem.W.codeIn K (.ref cda) "ReasonError.__init__" && (match K.lookup cda with
        | some ⟨_, _, .fields vs, _⟩ => (match (vs[2]? : Option Value) with
          | some (.str file _) => ((P.main.file : Str) == file)
          | _ => false)
        | _ => false)
      | _ => false), fd.builtins)
  | _ => none
/-- the positions of __init__'s text -/
structure InPos where
  p1 : Pos
  p2 : Pos
  q : List Pos
def InPos.val (i : InPos) : InV := some ("__init__", "ReasonError.__init__", rA i.p1 i.p2, .stmts (rB (i.q.getD 0 ⟨0, 0, 0, 0⟩) (i.q.getD 1 ⟨0, 0, 0, 0⟩) (i.q.getD 2 ⟨0, 0, 0, 0⟩) (i.q.getD 3 ⟨0, 0, 0, 0⟩) (i.q.getD 4 ⟨0, 0, 0, 0⟩)
  (i.q.getD 5 ⟨0, 0, 0, 0⟩) (i.q.getD 6 ⟨0, 0, 0, 0⟩) (i.q.getD 7 ⟨0, 0, 0, 0⟩) (i.q.getD 8 ⟨0, 0, 0, 0⟩) (i.q.getD 9 ⟨0, 0, 0, 0⟩)), rS, mainGlobals, true, true, builtinsNs)
theorem rs_ok {P : Program} {K : PySem.W.Frag} {h : Heap} {mg : Str → Option Value} {C D : Addr} {i : InPos} (X : K.In h) (G : h.Ns mainGlobals mg) (hb : rsB P K C D = true) (hi : inObs P K (ma K C "__init__") = i.val)
    (hl : ((i.q.getD 2 ⟨0, 0, 0, 0⟩).endLine == (i.q.getD 4 ⟨0, 0, 0, 0⟩).line) = true) : RsTxt P K mg C D (ma K C "__init__") (ccOf K (ma K C "__init__")) := by
  obtain ⟨b1, hb⟩ := ba hb
  obtain ⟨b2, hb⟩ := ba hb
  obtain ⟨b3, hb⟩ := ba hb
  obtain ⟨b4, hb⟩ := ba hb
  obtain ⟨b5, hb⟩ := ba hb
  obtain ⟨b6, hb⟩ := ba hb
  obtain ⟨b7, hb⟩ := ba hb
  obtain ⟨b8, hb⟩ := ba hb
  obtain ⟨b9, hb⟩ := ba hb
  obtain ⟨b10, hb⟩ := ba hb
  obtain ⟨b11, hb⟩ := ba hb
  obtain ⟨b12, hb⟩ := ba hb
  obtain ⟨b13, hb⟩ := ba hb
  obtain ⟨b14, hb⟩ := ba hb
  obtain ⟨b15, b16⟩ := ba hb
  refine ⟨excB_ok b1, eqO_ok b2, eqO_ok b3, eqO_ok b4, of_decide_eq_true b5, b6, of_decide_eq_true b7, of_decide_eq_true b8, of_decide_eq_true b9, b10, of_decide_eq_true b11, eqO_ok b12, PySem.W.mg_none_of X G (eqO_ok b13), eqO_ok b14, by simpa using b15, ?_, ?_⟩
  · split at b16
    · rename_i cl cld D' csl ho
      have e : D' = D := of_decide_eq_true b16
      subst e
      exact ⟨_, _, _, ho⟩
    · cases b16
  · unfold inObs at hi
    split at hi
    · rename_i oc od fd osl ho
      obtain ⟨n1, n2, n3, n4, n5, n6, n7, n8, n9, n10, n11, n12, n13, n14, n15⟩ := fd
      have hi2 := Option.some.inj hi
      simp only [Prod.mk.injEq] at hi2
      obtain ⟨rfl, rfl, rfl, rfl, rfl, rfl, h7, h8, rfl⟩ := hi2
      obtain ⟨c1, c2⟩ := ba h7
      obtain ⟨c2, c3⟩ := ba c2
      have ecc : ∃ c, n7 = [(("__class__" : Str), c)] := by
        split at c1
        · rename_i x c
          have : x = ("__class__" : Str) := of_decide_eq_true c1
          subst this
          exact ⟨c, rfl⟩
        · cases c1
      obtain ⟨c, rfl⟩ := ecc
      have e8 : n8 = .none := by split at c2 <;> first | rfl | cases c2
      have e9 : n9 = .none := by split at c3 <;> first | rfl | cases c3
      subst e8 e9
      have hcc : ccOf K (ma K C "__init__") = c := by
        unfold ccOf
        rw [ho]
      rw [hcc]
      split at h8
      · rename_i cda
        obtain ⟨d1, d2⟩ := ba h8
        split at d2
        · rename_i ccl cdd vs ccs hoc
          split at d2
          · rename_i file tf hv
            exact ⟨oc, od, n10, n11, n12, cda, n14, osl, i.p1, i.p2, _, _, _, _, _, _, _, _, _, _, ccl, cdd, vs, ccs, file, tf, ho, d1, hoc, hv, d2, hl⟩
          · cases d2
        · cases d2
      · cases h8
    · cases hi
end HX

set_option Elab.async false
set_option linter.all false
set_option maxRecDepth 100000
set_option maxHeartbeats 2000000
/-! the Hook, the end of a head whose looks are split -/
namespace HX
open PySem PySem.Spec PyProof.Rows L2 He
/-- what isinstance asks of an error class -/
def excCB (K : PySem.W.Frag) (D : Addr) : Bool :=
  eqO (PySem.W.findIn K (.ref D) "__getattribute__") (some (some (.builtin "BaseException.__getattribute__"))) && (eqO (PySem.W.findIn K (.ref D) "__getattr__") (some none) && (decide (PySem.W.subIn K (.ref D) (.type "BaseException") = some true) &&
  (PySem.W.hasDictIn K D && (eqO (PySem.W.findIn K (.ref D) "__class__") (some (some (.builtin "object.__class__"))) && (eqO (PySem.W.specialIn K (.builtin "object.__class__") "__get__") (some (some (.builtin "getset_descriptor.__get__"))) &&
  (decide (PySem.W.takesIn K (.builtin "object.__class__") = some true) && decide (PySem.W.mroIn K D (.type "object") = some true)))))))
theorem excCB_ok {K : PySem.W.Frag} {D : Addr} (h : excCB K D = true) : L2.ExcC K D := by
  obtain ⟨b1, h⟩ := ba h
  obtain ⟨b2, h⟩ := ba h
  obtain ⟨b3, h⟩ := ba h
  obtain ⟨b4, h⟩ := ba h
  obtain ⟨b5, h⟩ := ba h
  obtain ⟨b6, h⟩ := ba h
  obtain ⟨b7, b8⟩ := ba h
  exact ⟨eqO_ok b1, eqO_ok b2, of_decide_eq_true b3, b4, eqO_ok b5, eqO_ok b6, of_decide_eq_true b7, of_decide_eq_true b8⟩
/-- a class as a second argument of isinstance: a built-in's name, or a class of the top -/
abbrev Ck := Sum String Str
def Ck.v (K : PySem.W.Frag) : Ck → Value
  | .inl n => .type n
  | .inr x => .ref (ga K x)
def kitsB (K : PySem.W.Frag) (l : List (Str × Ck × Bool)) : Bool := l.all fun q => decide (PySem.W.kitOne K (.ref (ga K q.1)) (q.2.1.v K) = some q.2.2)
/-- the places of the heap that are told: the defs fs with their code, the classes cs with what they reach -/
def addrs (g : Addr → Option Obj) (fs cs : List Str) : List Addr :=
  let G := frG g [mainGlobals]
  let a1 := fs.map fun x => ga G x
  let c0 := cs.map fun x => ga G x
  [mainGlobals, cStatics] ++ (a1 ++ a1.flatMap fun a => match g a with
    | some o => refsO o
    | none => []) ++ growD g (growD g (growD g (growD g c0)))
structure HkD where
  P : Program
  fs : List Str
  cs : List Str
  fa : List Fa
  fn : List DefD
  es : List Str
  base : Str
  kits : List (Str × Ck × Bool)
  ip : InPos
abbrev AlX : Type := AlD × Bool × List InV
def HkD.obsK (k : HkD) (K : PySem.W.Frag) : AlX :=
  (obsD k.fa k.fn K, ((k.es.all fun x => rsB k.P K (ga K x) (ga K k.base)) && ((k.es.all fun x => excCB K (ga K x) && xfB K (ga K x)) && kitsB K k.kits)), k.es.map fun x => inObs k.P K (ma K (ga K x) "__init__"))
def HkD.val (k : HkD) : AlX := (valD k.fn, true, k.es.map fun _ => k.ip.val)
def HkD.Says (k : HkD) (K : PySem.W.Frag) : Prop := k.obsK K = k.val
def HkD.obsG (k : HkD) (g : Addr → Option Obj) : AlX := k.obsK (frG g (addrs g k.fs k.cs))
def HkD.hook (k : HkD) : PySem.W.Hook where
  α := AlX
  obs := fun s => k.obsG s.heap.get?
  val := fun _ => k.val
  says := fun _ h => ∃ K : PySem.W.Frag, K.In h ∧ k.Says K
  of := fun _ _ e => ⟨_, frG_in, e⟩
  keeps := fun _ _ _ ⟨K, hK, c⟩ q => ⟨K, PySem.W.Frag.In.keeps hK q, c⟩
theorem HkD.obsG_eq (k : HkD) {g : Addr → Option Obj} {s : Shared} (h : ∀ a, g a = s.heap.get? a) : k.obsG g = k.hook.obs s := by
  have e : g = s.heap.get? := funext h
  rw [e]
  rfl
section
variable {k : HkD} {K : PySem.W.Frag}
theorem HkD.Says.d (c : k.Says K) : SaysD k.fa k.fn K := congrArg (fun z : AlX => z.1) c
theorem HkD.Says.b (c : k.Says K) : ((k.es.all fun x => rsB k.P K (ga K x) (ga K k.base)) && ((k.es.all fun x => excCB K (ga K x) && xfB K (ga K x)) && kitsB K k.kits)) = true := congrArg (fun z : AlX => z.2.1) c
theorem HkD.Says.i (c : k.Says K) : (k.es.map fun x => inObs k.P K (ma K (ga K x) "__init__")) = k.es.map fun _ => k.ip.val := congrArg (fun z : AlX => z.2.2) c
theorem HkD.Says.rs (c : k.Says K) {h : Heap} {mg : Str → Option Value} (X : K.In h) (G : h.Ns mainGlobals mg) {x : Str} (hx : x ∈ k.es) (hl : ((k.ip.q.getD 2 ⟨0, 0, 0, 0⟩).endLine == (k.ip.q.getD 4 ⟨0, 0, 0, 0⟩).line) = true) :
    RsTxt k.P K mg (ga K x) (ga K k.base) (ma K (ga K x) "__init__") (ccOf K (ma K (ga K x) "__init__")) := by
  have b1 := List.all_eq_true.mp (ba c.b).1 x hx
  have e : ∀ l : List Str, (l.map fun x => inObs k.P K (ma K (ga K x) "__init__")) = (l.map fun _ => k.ip.val) → x ∈ l → inObs k.P K (ma K (ga K x) "__init__") = k.ip.val := by
    intro l
    induction l with
    | nil => intro _ h; cases h
    | cons y l ih =>
      intro e h
      rw [List.map_cons, List.map_cons] at e
      obtain ⟨e1, e2⟩ := List.cons.inj e
      rcases List.mem_cons.mp h with rfl | h
      · exact e1
      · exact ih e2 h
  exact rs_ok X G b1 (e _ c.i hx) hl
theorem HkD.Says.exc (c : k.Says K) {x : Str} (hx : x ∈ k.es) : L2.ExcC K (ga K x) ∧ XfC K (ga K x) := by
  have b1 := List.all_eq_true.mp (ba (ba c.b).2).1 x hx
  exact ⟨excCB_ok (ba b1).1, xfB_ok (ba b1).2⟩
theorem HkD.Says.kit (c : k.Says K) {q : Str × Ck × Bool} (hq : q ∈ k.kits) : PySem.W.kitOne K (.ref (ga K q.1)) (q.2.1.v K) = some q.2.2 :=
  of_decide_eq_true (List.all_eq_true.mp (ba (ba c.b).2).2 q hq)
end
/-- three looks at one run -/
theorem three {α β γ δ : Type} {x : Option α} {f : α → β} {g : α → γ} {h : α → δ} {a : β} {b : γ} {c : δ} (h1 : x.map f = some a) (h2 : x.map g = some b) (h3 : x.map h = some c) : x.map (fun s => (f s, g s, h s)) = some (a, b, c) := by
  cases x with
  | none => cases h1
  | some s =>
    rw [Option.map_some] at h1 h2 h3 ⊢
    rw [Option.some.inj h1, Option.some.inj h2, Option.some.inj h3]
end HX

set_option Elab.async false
set_option linter.all false
set_option maxRecDepth 100000
set_option maxHeartbeats 2000000
/-! smaller looks at one run, joined -/
namespace HX
open PySem PySem.Spec PyProof.Rows L2 He PySem.W HandSHeadRun
abbrev kG (k : HkD) (s : SharedT) : PySem.W.Frag := frG (getT s) (addrs (getT s) k.fs k.cs)
theorem join1 {p : Program} {h0 : Heap} {ks : List Str} {x : Option SharedT} (a : x.map (fun s => staticsOk (importedModules p.main.body) h0 s.abs.heap && gensDone s.abs && laidKept h0 s.abs.heap) = some true)
    (b : x.map (fun s => (s.abs.heap.isNs mainGlobals, s.abs.heap.nsKeys mainGlobals)) = some (true, ks)) (c : (ks.all fun k => startupNames.contains k || p.boundNames.contains k) = true) : x.map (fun s => looksF p h0 s.abs) = some true := by
  cases x with
  | none => cases a
  | some s =>
    rw [Option.map_some] at a b ⊢
    have a := Option.some.inj a
    have b := Option.some.inj b
    obtain ⟨b1, b2⟩ := Prod.mk.inj b
    obtain ⟨a12, a3⟩ := ba a
    obtain ⟨a1, a2⟩ := ba a12
    have nb : namesBound p s.abs.heap = true := by
      unfold namesBound
      rw [b1, b2, c]
      rfl
    unfold looksF
    rw [a1, nb, a2, a3]
    rfl
theorem join3 {k : HkD} {x : Option SharedT} (n : Nat) (c : x.map (fun s => (fun K => k.fa.all fun f => f.ok K) (kG k s)) = some true)
    (h1 : x.map (fun s => (fun K => (((k.fn.take n).all fun d => d.ok K), (k.fn.take n).map fun d => fnW K d.at_)) (kG k s)) = some (true, (k.fn.take n).map DefD.val))
    (h2 : x.map (fun s => (fun K => (((k.fn.drop n).all fun d => d.ok K), (k.fn.drop n).map fun d => fnW K d.at_)) (kG k s)) = some (true, (k.fn.drop n).map DefD.val))
    (b : x.map (fun s => (k.obsG (getT s)).2) = some k.val.2) : x.map (fun s => k.obsG (getT s)) = some k.val := by
  cases x with
  | none => cases c
  | some s =>
    rw [Option.map_some] at c h1 h2 b ⊢
    have c := Option.some.inj c
    obtain ⟨p1, p2⟩ := Prod.mk.inj (Option.some.inj h1)
    obtain ⟨q1, q2⟩ := Prod.mk.inj (Option.some.inj h2)
    have b := Option.some.inj b
    refine congrArg some (Prod.ext (Prod.ext ?_ ?_) b)
    · show ((k.fa.all fun f => f.ok (kG k s)) && k.fn.all fun d => d.ok (kG k s)) = true
      have e : (k.fn.all fun d => d.ok (kG k s)) = true := by
        rw [← List.take_append_drop n k.fn, List.all_append]
        exact Bool.and_eq_true_iff.mpr ⟨p1, q1⟩
      exact Bool.and_eq_true_iff.mpr ⟨c, e⟩
    · show k.fn.map (fun d => fnW (kG k s) d.at_) = k.fn.map DefD.val
      rw [← List.take_append_drop n k.fn, List.map_append, List.map_append]
      exact congr (congrArg _ p2) q2
end HX

set_option Elab.async false
set_option linter.all false
set_option maxRecDepth 100000
set_option maxHeartbeats 4000000
/-! own error classes whose __init__ calls super's with all its arguments and keeps them as fields (printed by genexc.py) -/
namespace EX
open PySem PySem.W PySem.Calls PyProof.Rows PySem.HandSPX
theorem two_ok (v u : Value) : [v, u].length ≤ sizeLine := by
  rw [sizeLine_eq]
  exact (by decide : 2 ≤ 16777216)
theorem mc_two {o a b : Expr} {m : Str} {apos pos : Pos} {env : Env} (hl : (apos.endLine == pos.line) = true) (ha : starEach [a, b] env = [(false, eval a env), (false, eval b env)]) :
    eval (.Call (.Attribute o m apos) [a, b] [] pos) env = (do
      let ov ← attributeBase o m env (eval o env)
      standAt apos.atName
      let (f, first) ← holding [ov] (getMethod ov m (HX.plnOf o env))
      callWith pos f first (backTo pos (starEach [a, b] env)) []) := by
  have e : ∀ ov, methodCall o m apos pos env ov ([a, b].length + ([] : List Keyword).length) (backTo pos (starEach [a, b] env)) (backToKw pos (keywordEach [] env)) = (do
      let (f, first) ← holding [ov] (getMethod ov m (HX.plnOf o env))
      callWith pos f first (backTo pos (starEach [a, b] env)) []) := fun ov => by
    have e1 : methodCallForm ([a, b].length + ([] : List Keyword).length) (backTo pos (starEach [a, b] env)) (backToKw pos (keywordEach [] env)) = true := by rw [ha]; rfl
    unfold methodCall
    rw [e1]
    have e2 : methodCallPos true o env apos pos = pure pos := by
      unfold methodCallPos
      rw [hl]
      rfl
    have e3 : calleeOf true o env ov m = getMethod ov m (HX.plnOf o env) := rfl
    rw [e2, e3]
    rfl
  show (do
    let ov ← attributeBase o m env (eval o env)
    standAt apos.atName
    methodCall o m apos pos env ov ([a, b].length + ([] : List Keyword).length) (backTo pos (starEach [a, b] env)) (backToKw pos (keywordEach [] env))) = _
  simp only [e]
end EX
namespace EXr
open PySem PySem.W PySem.Calls PyProof.Rows PySem.HandSPX
def rA (p0 p1 : Pos) : Arguments := { posonlyargs := [], args := [{ arg := "self", annotation := none, pos := p0 }, { arg := "reason", annotation := none, pos := p1 }], vararg := none, kwonlyargs := [], kw_defaults := [], kwarg := none, defaults := [] }
def rB (q1 q2 q3 q4 q5 q6 q7 q8 q9 q10 : Pos) : List Stmt :=
  [.Expr (.Call (.Attribute (.Call (.Name "super" q1) [] [] q2) "__init__" q3) [.Name "reason" q4] [] q5) q6,
   .Assign [.Attribute (.Name "self" q7) "reason" q8] (.Name "reason" q9) q10]
def rS : Scope := { kind := .function, names := [(PySem.Str.ofString "self", .local), (PySem.Str.ofString "reason", .local), (PySem.Str.ofString "__class__", .free), (PySem.Str.ofString "super", .globalImplicit)], isGenerator := false, isCoroutine := false, more := [] }
/-- what the written part says of an error class at C that has its __init__ from the class at D (fI, its class cell at cc) -/
structure RsTxt (P : Program) (K : Frag) (mg : Str → Option Value) (C D fI cc : Addr) : Prop where
  cls : ∃ nm q N bs bm sn sub ab col dd k0 k1 k2 k3 k5, K.lookup C = some (excClassObj nm q C N bs bm true sn sub ab col dd k0 k1 k2 k3 k5 "ValueError.__new__") ∧ refsVE bm = true
  sa : findIn K (.ref C) "__setattr__" = some (some (.builtin "object.__setattr__"))
  noN1 : findIn K (.ref C) "reason" = some none
  iC : findIn K (.ref C) "__init__" = some (some (.ref fI))
  tI : typeIn K (.ref fI) = some (.type "function")
  kC : keepIn K (.ref C) = true
  exC : subIn K (.ref C) (.type "BaseException") = some true
  veC : subIn K (.ref C) (.type "ValueError") = some true
  tyC : typeIn K (.ref C) = some (.type "type")
  hD : (clsIn K D).isSome = true
  sub : mroIn K C (.ref D) = some true
  up : ks_superIn K C D "__init__" = some (some (.builtin "ValueError.__init__"))
  sup : mg "super" = none
  third : nsIn K cStatics "thirdparty.any" = some none
  top : (P.main.scope.names.lookup ("super" : Str)).isSome = false
  cell : ∃ cl cld csl, K.lookup cc = some ⟨cl, cld, .cell (some (.ref D)), csl⟩
  fn : ∃ (oc : Value) (od : Option Addr) (doc pm : Value) (an : Option Addr) (cda : Addr) (ct : Value) (osl : Array (Option Value)) (p0 p1 q1 q2 q3 q4 q5 q6 q7 q8 q9 q10 : Pos) (ccl : Value) (cdd : Option Addr) (vs : Array Value) (ccs : Array (Option Value)) (file : Str) (tf : Tok),
    K.lookup fI = some ⟨oc, od, .func (ksFn "__init__" "ReasonError.__init__" (rA p0 p1) (rB q1 q2 q3 q4 q5 q6 q7 q8 q9 q10) rS .none .none doc pm an (.ref cda) ct cc), osl⟩ ∧ codeIn K (.ref cda) "ReasonError.__init__" = true ∧
    K.lookup cda = some ⟨ccl, cdd, .fields vs, ccs⟩ ∧ vs[2]? = some (.str file tf) ∧ ((P.main.file : Str) == file) = true ∧ (q3.endLine == q5.line) = true
/-- what __init__ leaves of a fresh error at x -/
structure InitEnd (h h' : Heap) (x C dx t1 : Addr) (v : Value) : Prop where
  keep : ∀ b o, b ≠ x → h.get? b = some o → h'.get? b = some o
  obj : h'.get? x = some { cls := .ref C, dict := some dx, data := .fields #[.ref t1, .none, .none, .none, .bool false, .none] }
  dbig : h.objs.size ≤ dx
  dne : dx ≠ x
  ns : h'.Ns1 dx (fun y => if y = "reason" then some v else none)
section
variable {prog : Program} {w : World} {A : Around} {E : Value → Shared → Prop} {R : Result → Shared → Prop} {s : Shared} {K : Frag} {mg : Str → Option Value} {C D fI cc : Addr}
theorem reason_init (T : RsTxt prog K mg C D fI cc) {x t0 : Addr} {v : Value} (X : K.In s.heap) (G : s.heap.Ns mainGlobals mg) (B : ∃ mb, s.heap.Ns builtinsNs mb ∧ ∀ y : Str, y ≠ "__name__" → mb y = bootBuiltins y)
    (hlim : s.heap.NoLimit) (hx : s.heap.get? x = some (excO C t0)) (hnx : K.lookup x = none) (hroom : A.depth < recursionLimit)
    (hq : ∀ h' tk dx t1, InitEnd s.heap h' x C dx t1 v → R (.ok (.ret .none)) { s with heap := h', toks := tk }) :
    codeAny (model prog w) A (.call (.ref fI) ⟨[.ref x, v], []⟩) R s := by
  obtain ⟨oc, od, doc, pm, an, cda, ct, osl, p0, p1, q1, q2, q3, q4, q5, q6, q7, q8, q9, q10, ccl, cdd, vs, ccs, file, tf, ho, hcd, hcode, hvs, hfile, hline⟩ := T.fn
  obtain ⟨nm, q, N, bs, bm, sn, sub, ab, col, dd, k0, k1, k2, k3, k5, hC, hbm⟩ := T.cls
  obtain ⟨cl, cld, csl, hcell⟩ := T.cell
  obtain ⟨mb, hB, hmb⟩ := B
  have hcl : clsIn K C = some { name := nm, bases := bs, mro := .ref C :: bm, ns := N, qualname := q, hasDict := true, slotNames := sn, subclasses := sub, abstract := ab, collection := col, hasDel := false } := by unfold clsIn; rw [hC] <;> rfl
  have hxC : x ≠ C := fun z => by rw [z, hC] at hnx; cases hnx
  refine ks_codeAny_call_defAt (fd := ksFn "__init__" "ReasonError.__init__" (rA p0 p1) (rB q1 q2 q3 q4 q5 q6 q7 q8 q9 q10) rS .none .none doc pm an (.ref cda) ct cc) (binds := [("self", .ref x), ("reason", v)]) hroom (X _ _ ho) rfl hlim (codeRec_of X hcd) rfl
    (BindsTo.of_eq (by first | rfl | with_unfolding_all rfl)) (fun y hy => (show ∀ y ∈ rS.names, y.2 ≠ .cell by decide) y hy) (by
      intro y hy
      simp only [List.mem_cons, List.not_mem_nil, or_false] at hy
      rcases hy with rfl | rfl <;> rfl) (fun h₀ hns kp => ?_)
  have X₀ : K.In h₀ := X.keeps kp
  have hx₀ := kp _ _ hx
  refine ks_wpAt_execs_cons (ks_wpAt_Expr_any (ks_wpAt_MethodCall ?_ (HX.mc_one hline rfl)))
  refine ks_wpAt_super_base (ar := { arg := "self", annotation := none, pos := p0 }) (by rfl) (by rfl) (by decide) rfl (X₀ _ _ ho) rfl rfl rfl (X₀ _ _ hcode) rfl hvs hfile T.top ?_
  refine ks_loadName_global (by rfl) (by rfl) (loadGlobal_builtin (G.keeps kp) T.sup (hB.keeps kp) ((hmb _ (by decide)).trans (by first | boot_by_name | rfl | kernel_rfl)) ⟨rfl, ?_⟩)
  refine wpAny_loadName_free (by rfl) (by rfl) rfl ⟨_, X₀ _ _ hcell, rfl⟩ ?_
  refine wpAny_loadName_local (by rfl) (by rfl) hns (by first | rfl | decide) ?_
  obtain ⟨cdD, hcD⟩ := Option.isSome_iff_exists.mp T.hD
  obtain ⟨oD, hD1, hD2⟩ : ∃ oD, h₀.get? D = some oD ∧ oD.data = .cls cdD := by
    unfold clsIn at hcD
    split at hcD
    · rename_i c' d' cd' sl' ho'
      cases hcD
      exact ⟨_, X₀ _ _ ho', rfl⟩
    · cases hcD
  refine ks_wpAny_isType_cls hD1 hD2 ⟨rfl, ?_⟩
  refine ks_wpAny_call_super hD1 hD2 hx₀ rfl (fun c e => by cases e) (looks_mroIn X₀ T.sub) (fun h₁ hso k₁ => ?_)
  have X₁ : K.In h₁ := X₀.keeps k₁
  have hx₁ := k₁ _ _ hx₀
  have I₁ : InstAt h₁ x (excO C t0) C none := ⟨hx₁, rfl, rfl, trivial⟩
  have hve : Looks (model prog w) h₁ (isInstance (.ref x) (.type "ValueError")) true := I₁.type.andThen (looks_subIn X₁ T.veC)
  have hup : alongIn K "__init__" (((Value.ref C :: bm).dropWhile (· != .ref D)).drop 1) = some (some (.builtin "ValueError.__init__")) := by
    have z := T.up
    unfold ks_superIn at z
    rw [hcl] at z
    exact z
  refine kxs_getMethod kxs_ValueError hso (looks_opaque X₁ T.third) (l₀ := Value.ref C :: bm) ((looks_clsIn X₁ hcl).andThen .now) rfl X₁ hup hve hxC (by decide) ?_
  have hx₂ : (h₁.push (kxs_mw "ValueError.__init__" x)).get? x = some (excO C t0) := Heap.get?_push_of_some _ hx₁
  have hu₂ : (h₁.push (kxs_mw "ValueError.__init__" x)).get? h₁.objs.size = some (kxs_mw "ValueError.__init__" x) := Heap.get?_push_size _ rfl
  have k₂ : ∀ b o, h₀.get? b = some o → (h₁.push (kxs_mw "ValueError.__init__" x)).get? b = some o := fun b o e => Heap.get?_push_of_some _ (k₁ b o e)
  have X₂ := X₀.keeps k₂
  refine kxs_callWith (i := "ValueError.__init__") (x := x) rfl ?_
  refine evalArgs_plain ?_
  have hn₂ := hns.keeps k₂
  refine Calls.spliced_cons ?_
  refine wpAny_Name (wpAny_loadName_local (by rfl) (by rfl) hn₂ (v := v) (by first | rfl | decide) ?_) (by decide)
  refine Calls.spliced_nil ⟨hu₂, ?_⟩
  refine HX.bound_init (t0 := t0) (X₂ _ _ hC) hx₂ hu₂ (HX.one_ok v) (fun h₃ t1 k₃ hx₃ hz₃ => ?_)
  have kn : ∀ b o, b ≠ x → h₀.get? b = some o → h₃.get? b = some o := fun b o hb e => k₃ b o hb (k₂ b o e)
  have X₃ : K.In h₃ := fun b o e => kn b o (fun z => by rw [z, hnx] at e; cases e) (X₀ b o e)
  have xL : s.heap.objs.size ≠ x := Nat.ne_of_gt (Heap.lt_size hx)
  have hn₃ : h₃.Ns s.heap.objs.size fun y => List.lookup y [(Str.ofString "self", Value.ref x), (Str.ofString "reason", v)].reverse := by
    obtain ⟨oL, es, ep, hL, r⟩ := hns
    exact ⟨oL, es, ep, kn _ _ xL hL, r⟩
  show _root_.PySem.wpAt _ _ _ (execs _ _) _ _ _
  refine ks_wpAt_execs_cons (ks_wpAt_Assign_Attr ?_)
  refine wpAt_of_wpAny (wpAny_Name (wpAny_loadName_local (by rfl) (by rfl) hn₃ (v := v) (by first | rfl | decide) ?_) (by decide))
  refine wpAny_Name (wpAny_loadName_local (by rfl) (by rfl) hn₃ (v := .ref x) (by first | rfl | decide) ?_) (by decide)
  refine set_plain X₃ (ox := excO C t1) (od := none) ⟨hx₃, rfl, rfl, trivial⟩ T.sa ?_
  refine exc_osa X₃ hx₃ hcl (show refsVE (.ref C :: bm) = true from hbm) rfl T.noN1 (fun h₄ tk₄ dx k₄ dn dne hx₄ hn₄ => ?_)
  refine wpAt_of_wpAny (wpAny_execs_nil ?_)
  exact hq h₄ tk₄ dx t1 ⟨fun b o hb e => k₄ b o hb (kn b o hb (kp b o e)), hx₄, Nat.le_of_lt (Nat.lt_of_lt_of_le hn₃.lt dn), dne, hn₄⟩
/-- a made error -/
structure Made (h h' : Heap) (e C d : Addr) (v : Value) : Prop where
  keep : ∀ b o, h.get? b = some o → h'.get? b = some o
  new : h.objs.size ≤ e
  obj : ∃ oe vs, h'.get? e = some oe ∧ oe.cls = .ref C ∧ oe.dict = some d ∧ oe.data = .fields vs ∧ vs[1]? = some .none
  dbig : h.objs.size ≤ d
  dne : d ≠ e
  ns : h'.Ns1 d (fun y => if y = "reason" then some v else none)
theorem reason_made (T : RsTxt prog K mg C D fI cc) {v : Value} (X : K.In s.heap) (G : s.heap.Ns mainGlobals mg) (B : ∃ mb, s.heap.Ns builtinsNs mb ∧ ∀ y : Str, y ≠ "__name__" → mb y = bootBuiltins y)
    (hlim : s.heap.NoLimit) (hroom : A.depth + 1 < recursionLimit)
    (hq : ∀ h' tk e d, Made s.heap h' e C d v → R (.ok (.ret (.ref e))) { s with heap := h', toks := tk }) :
    codeAny (model prog w) A (.call (.ref C) ⟨[v], []⟩) R s := by
  obtain ⟨nm, q, N, bs, bm, sn, sub, ab, col, dd, k0, k1, k2, k3, k5, hC, hbm⟩ := T.cls
  obtain ⟨hp, g, dr, tk, os⟩ := s
  have k : ∀ b o, hp.get? b = some o → ((hp.push (kdv_tup [v])).push (excO C hp.objs.size)).get? b = some o := fun b o e => Heap.get?_push_of_some _ (Heap.get?_push_of_some _ e)
  have hget : ((hp.push (kdv_tup [v])).push (excO C hp.objs.size)).get? (hp.objs.size + 1) = some (excO C hp.objs.size) := by heap_get
  have hnx : K.lookup (hp.objs.size + 1) = none := by
    cases e : K.lookup (hp.objs.size + 1) with
    | none => rfl
    | some o =>
      have z : hp.get? (hp.objs.size + 1) = some o := X _ _ e
      exact absurd (Nat.lt_of_succ_lt (Heap.lt_size z)) (Nat.lt_irrefl _)
  refine call_own F.excBase_ValueError (fun X => refsVE_contains X bm hbm) (X _ _ hC) (looks_findIn X T.iC) (fun self => bind_fn X self T.tI) (HX.one_ok v) ?_
  obtain ⟨mb, hB, hmb⟩ := B
  refine reason_init (s := ⟨(hp.push (kdv_tup [v])).push (excO C hp.objs.size), g, dr, tk, os⟩) T (X.keeps k) (G.keeps k) ⟨mb, hB.keeps k, hmb⟩ (hlim.keeps k) hget hnx ?_ fun h' tk' dx t1 ⟨k', hx, dn, dne, hns⟩ => ?_
  · show A.depth + 1 < recursionLimit
    exact hroom
  · have old : ∀ b o, hp.get? b = some o → h'.get? b = some o := fun b o e => k' b o (Nat.ne_of_lt (Nat.lt_succ_of_lt (Heap.lt_size e))) (k b o e)
    have z : hp.objs.size + 1 + 1 ≤ dx := by
      first
        | (simpa only [Heap.size_push] using dn)
        | exact dn
        | (have q := dn; rw [Heap.size_push, Heap.size_push] at q; exact q)
    exact ⟨rfl, hq h' tk' (hp.objs.size + 1) dx ⟨old, Nat.le_succ _, ⟨_, _, hx, rfl, rfl, rfl, rfl⟩, Nat.le_trans (Nat.le_trans (Nat.le_succ _) (Nat.le_succ _)) z, dne, hns⟩⟩
end
end EXr
namespace EXr
open PySem PySem.Spec PyProof.Rows L2
theorem relO_rs {v : V} {v' : Value} (r : RelV v v') (f : Str) : RelO (List.lookup f [("reason", v)]) (if f = "reason" then some v' else none) := by
  by_cases hw : f = "reason"
  · subst hw
    rw [if_pos rfl]
    have q : List.lookup ("reason" : Str) [(("reason" : Str), v)] = some v := by simp [List.lookup]
    rw [q]
    exact r
  · rw [if_neg hw]
    have qw : (f == ("reason" : Str)) = false := by simpa using hw
    have q2 : List.lookup f [(("reason" : Str), v)] = none := by simp [List.lookup, qw]
    rw [q2]
    trivial
section
variable {X : Cx} {C D fI cc : Addr} {x : Str}
/-- C(e, ..): its own dict is new and holds the fields -/
def tMkR (C : Addr) (ta : TA) : L2.St → Hp → XK → Prop := fun σ H Q => ta σ H fun vs H1 => ∃ v, vs = [v] ∧ ∀ d, H1 d = none → Q (.ref C) (some d) (upd H1 d (.xd [(("reason" : Str), v)]))
theorem pmk_rs {a : Expr} {ta : TA} {p pos : Pos} {k : Nat} (T : RsTxt X.prog X.K X.mg C D fI cc) (hr : Room k X.A) (ha : PA X [a] ta) (hm : X.mg x = some (.ref C)) (hg : Gl X x := by rfl)
    (hdb : (x == ("__debug__" : Str)) = false := by decide)
    (he : starEach (a :: []) X.env = (false, eval a X.env) :: starEach [] X.env := by rfl) (hpl : (backTo pos (starEach [] X.env)).any (·.1) = false := by rfl) :
    PMk X (.Call (.Name x p) [a] [] pos) (tMkR C ta) := by
  intro pins s σ H Q I h
  refine wpAny_Call_Name_kw (ld_glob I hg hm ?_ hdb)
  refine PySem.W.callWith_K (h₀ := X.base) I.ok.mod.kin T.kC (thn (ha.run pos pins s σ H _ I h) fun us s1 hh => ?_) he hpl
  obtain ⟨vs, H1, I1, r1, v, ev, q1⟩ := hh
  subst ev
  refine ⟨I1.kIn, ?_⟩
  cases r1 with
  | cons rv rn =>
    rename_i v' us'
    cases rn
    show wpAny _ _ (call (.ref C) [v']) _ _ _
    have hlim := I1.nolimit
    have hG : s1.heap.Ns mainGlobals X.mg := I1.ok.mod.glob.keeps I1.bk
    have hB : ∃ mb, s1.heap.Ns builtinsNs mb ∧ ∀ y : Str, y ≠ "__name__" → mb y = bootBuiltins y := by
      obtain ⟨mb, hb, hm⟩ := I1.ok.mod.blt
      exact ⟨mb, hb.keeps I1.bk, hm⟩
    obtain ⟨hp, g, dr, tk, os⟩ := s1
    refine wpAny_call (reason_made T I1.kIn hG hB hlim (by have := hr.dp; omega) fun h' tk' e d M => ?_)
    show MkP X pins σ Q (.ref e) ⟨h', g, dr, tk', os⟩
    obtain ⟨oe, fv, hoe, hc, hd, hdat, h1⟩ := M.obj
    have hns := M.ns
    obtain ⟨G', g1, g2⟩ := restrict h' fun b => decide (b ≠ e)
    have gk : ∀ b, b ≠ e → G'.get? b = h'.get? b := fun b hb => g1 b (decide_eq_true hb)
    have ge : G'.get? e = none := g2 e (by simp)
    have old : ∀ b o, hp.get? b = some o → G'.get? b = some o := fun b o q => (gk b (Nat.ne_of_lt (Nat.lt_of_lt_of_le (Heap.lt_size q) M.new))).trans (M.keep b o q)
    have ob : ObjOk X.prog X.w (upd H1 d (.xd [(("reason" : Str), v)])) G' d (.xd [(("reason" : Str), v)]) :=
      ⟨_, hns.at (fun o q => (gk d M.dne).trans q), fun f => relO_rs rv f⟩
    have J : Inv X pins σ (upd H1 d (.xd [(("reason" : Str), v)])) ⟨G', g, dr, tk', os⟩ := I1.laid (t' := tk') old M.dbig ob
    refine ⟨e, oe, fv, ⟨G', g, dr, tk', os⟩, _, .ref C, some d, rfl, J, fun b o q => ?_, ge, hoe, ⟨hc, hd⟩, hdat, h1, ?_, rfl, I1.bare, raises_own T.exC T.tyC, q1 d (I1.hok.fresh M.dbig)⟩
    · by_cases hb : b = e
      · have q' : G'.get? b = some o := q
        rw [hb, ge] at q'; cases q'
      · exact (gk b hb).symm.trans q
    · rw [upd_ne (Ne.symm M.dne)]
      exact I1.hok.fresh M.new
/-- raise C(e, ..) -/
def tRaiseR (C : Addr) (W : WX) (ta : TA) : TS := fun _ σ H => tMkR C ta σ H fun cls d H' => W cls d σ H'
theorem ps_raiseR {a : Expr} {ta : TA} {W : WX} {p pos pos2 : Pos} {k : Nat} (hc : X.calm = true) (T : RsTxt X.prog X.K X.mg C D fI cc) (hr : Room k X.A) (tk : Takes X W) (ha : PA X [a] ta) (hm : X.mg x = some (.ref C)) (hg : Gl X x := by rfl)
    (hdb : (x == ("__debug__" : Str)) = false := by decide)
    (he : starEach (a :: []) X.env = (false, eval a X.env) :: starEach [] X.env := by rfl) (hpl : (backTo pos (starEach [] X.env)).any (·.1) = false := by rfl) :
    PS X (.Raise (some (.Call (.Name x p) [a] [] pos)) none pos2) (tRaiseR C W ta) := ps_raise hc tk (pmk_rs T hr ha hm hg hdb he hpl)
end
end EXr
namespace EXr
open PySem PySem.Spec PyProof.Rows L2 He HX
/-- what is looked at of such a class at C, its __init__ from the class at D -/
def rsB (P : Program) (K : PySem.W.Frag) (C D : Addr) : Bool :=
  excB K C && (eqO (PySem.W.findIn K (.ref C) "__setattr__") (some (some (.builtin "object.__setattr__"))) && (eqO (PySem.W.findIn K (.ref C) "reason") (some none) &&
  (eqO (PySem.W.findIn K (.ref C) "__init__") (some (some (.ref (ma K C "__init__")))) && (decide (PySem.W.typeIn K (.ref (ma K C "__init__")) = some (.type "function")) && (PySem.W.keepIn K (.ref C) &&
  (decide (PySem.W.subIn K (.ref C) (.type "BaseException") = some true) && (decide (PySem.W.subIn K (.ref C) (.type "ValueError") = some true) && (decide (PySem.W.typeIn K (.ref C) = some (.type "type")) &&
  ((PySem.W.clsIn K D).isSome && (decide (PySem.W.mroIn K C (.ref D) = some true) && (eqO (PySem.W.ks_superIn K C D "__init__") (some (some (.builtin "ValueError.__init__"))) &&
  (eqO (PySem.W.nsIn K mainGlobals "super") (some none) && (eqO (PySem.W.nsIn K cStatics "thirdparty.any") (some none) && (!(P.main.scope.names.lookup ("super" : Str)).isSome &&
  (match K.lookup (ccOf K (ma K C "__init__")) with
    | some ⟨_, _, .cell (some (.ref D')), _⟩ => decide (D' = D)
    | _ => false)))))))))))))))
/-- its __init__ as it stands -/
def inObs (P : Program) (K : PySem.W.Frag) (f : Addr) : InV := match K.lookup f with
  | some ⟨_, _, .func fd, _⟩ => some (fd.name, fd.qualname, fd.params, fd.body, fd.scope, fd.globals,
      (match fd.closure with
      | [(x, _)] => decide (x = ("__class__" : Str))
      | _ => false) && ((match fd.defaults with | .none => true | _ => false) && (match fd.kwdefaults with | .none => true | _ => false)),
      (match fd.code with
      | .ref cda => PySem.W.codeIn K (.ref cda) "ReasonError.__init__" && (match K.lookup cda with
        | some ⟨_, _, .fields vs, _⟩ => (match (vs[2]? : Option Value) with
          | some (.str file _) => ((P.main.file : Str) == file)
          | _ => false)
        | _ => false)
      | _ => false), fd.builtins)
  | _ => none
/-- the positions of __init__'s text: i.q the body's, then the parameters' -/
def valI (i : InPos) : InV := some ("__init__", "ReasonError.__init__", rA (i.q.getD 10 ⟨0, 0, 0, 0⟩) (i.q.getD 11 ⟨0, 0, 0, 0⟩), .stmts (rB (i.q.getD 0 ⟨0, 0, 0, 0⟩) (i.q.getD 1 ⟨0, 0, 0, 0⟩) (i.q.getD 2 ⟨0, 0, 0, 0⟩) (i.q.getD 3 ⟨0, 0, 0, 0⟩) (i.q.getD 4 ⟨0, 0, 0, 0⟩) (i.q.getD 5 ⟨0, 0, 0, 0⟩) (i.q.getD 6 ⟨0, 0, 0, 0⟩) (i.q.getD 7 ⟨0, 0, 0, 0⟩) (i.q.getD 8 ⟨0, 0, 0, 0⟩) (i.q.getD 9 ⟨0, 0, 0, 0⟩)), rS, mainGlobals, true, true, builtinsNs)
theorem rs_ok {P : Program} {K : PySem.W.Frag} {h : Heap} {mg : Str → Option Value} {C D : Addr} {i : InPos} (X : K.In h) (G : h.Ns mainGlobals mg) (hb : rsB P K C D = true) (hi : inObs P K (ma K C "__init__") = valI i)
    (hl : ((i.q.getD 2 ⟨0, 0, 0, 0⟩).endLine == (i.q.getD 4 ⟨0, 0, 0, 0⟩).line) = true) : RsTxt P K mg C D (ma K C "__init__") (ccOf K (ma K C "__init__")) := by
  obtain ⟨b1, hb⟩ := ba hb
  obtain ⟨b2, hb⟩ := ba hb
  obtain ⟨b3, hb⟩ := ba hb
  obtain ⟨b4, hb⟩ := ba hb
  obtain ⟨b5, hb⟩ := ba hb
  obtain ⟨b6, hb⟩ := ba hb
  obtain ⟨b7, hb⟩ := ba hb
  obtain ⟨b8, hb⟩ := ba hb
  obtain ⟨b9, hb⟩ := ba hb
  obtain ⟨b10, hb⟩ := ba hb
  obtain ⟨b11, hb⟩ := ba hb
  obtain ⟨b12, hb⟩ := ba hb
  obtain ⟨b13, hb⟩ := ba hb
  obtain ⟨b14, hb⟩ := ba hb
  obtain ⟨b15, b16⟩ := ba hb
  refine ⟨excB_ok b1, eqO_ok b2, eqO_ok b3, eqO_ok b4, of_decide_eq_true b5, b6, of_decide_eq_true b7, of_decide_eq_true b8, of_decide_eq_true b9, b10, of_decide_eq_true b11, eqO_ok b12, PySem.W.mg_none_of X G (eqO_ok b13), eqO_ok b14, by simpa using b15, ?_, ?_⟩
  · split at b16
    · rename_i cl cld D' csl ho
      have e : D' = D := of_decide_eq_true b16
      subst e
      exact ⟨_, _, _, ho⟩
    · cases b16
  · unfold inObs at hi
    split at hi
    · rename_i oc od fd osl ho
      obtain ⟨n1, n2, n3, n4, n5, n6, n7, n8, n9, n10, n11, n12, n13, n14, n15⟩ := fd
      have hi2 := Option.some.inj hi
      simp only [Prod.mk.injEq] at hi2
      obtain ⟨rfl, rfl, rfl, rfl, rfl, rfl, h7, h8, rfl⟩ := hi2
      obtain ⟨c1, c2⟩ := ba h7
      obtain ⟨c2, c3⟩ := ba c2
      have ecc : ∃ c, n7 = [(("__class__" : Str), c)] := by
        split at c1
        · rename_i x c
          have : x = ("__class__" : Str) := of_decide_eq_true c1
          subst this
          exact ⟨c, rfl⟩
        · cases c1
      obtain ⟨c, rfl⟩ := ecc
      have e8 : n8 = .none := by split at c2 <;> first | rfl | cases c2
      have e9 : n9 = .none := by split at c3 <;> first | rfl | cases c3
      subst e8 e9
      have hcc : ccOf K (ma K C "__init__") = c := by
        unfold ccOf
        rw [ho]
      rw [hcc]
      split at h8
      · rename_i cda
        obtain ⟨d1, d2⟩ := ba h8
        split at d2
        · rename_i ccl cdd vs ccs hoc
          split at d2
          · rename_i file tf hv
            exact ⟨oc, od, n10, n11, n12, cda, n14, osl, _, _, _, _, _, _, _, _, _, _, _, _, ccl, cdd, vs, ccs, file, tf, ho, d1, hoc, hv, d2, hl⟩
          · cases d2
        · cases d2
      · cases h8
    · cases hi
end EXr
namespace EXa
open PySem PySem.W PySem.Calls PyProof.Rows PySem.HandSPX
def rA (p0 p1 : Pos) : Arguments := { posonlyargs := [], args := [{ arg := "self", annotation := none, pos := p0 }, { arg := "at", annotation := none, pos := p1 }], vararg := none, kwonlyargs := [], kw_defaults := [], kwarg := none, defaults := [] }
def rB (q1 q2 q3 q4 q5 q6 q7 q8 q9 q10 : Pos) : List Stmt :=
  [.Expr (.Call (.Attribute (.Call (.Name "super" q1) [] [] q2) "__init__" q3) [.Name "at" q4] [] q5) q6,
   .Assign [.Attribute (.Name "self" q7) "at" q8] (.Name "at" q9) q10]
def rS : Scope := { kind := .function, names := [(PySem.Str.ofString "self", .local), (PySem.Str.ofString "at", .local), (PySem.Str.ofString "__class__", .free), (PySem.Str.ofString "super", .globalImplicit)], isGenerator := false, isCoroutine := false, more := [] }
/-- what the written part says of an error class at C that has its __init__ from the class at D (fI, its class cell at cc) -/
structure RsTxt (P : Program) (K : Frag) (mg : Str → Option Value) (C D fI cc : Addr) : Prop where
  cls : ∃ nm q N bs bm sn sub ab col dd k0 k1 k2 k3 k5, K.lookup C = some (excClassObj nm q C N bs bm true sn sub ab col dd k0 k1 k2 k3 k5 "ValueError.__new__") ∧ refsVE bm = true
  sa : findIn K (.ref C) "__setattr__" = some (some (.builtin "object.__setattr__"))
  noN1 : findIn K (.ref C) "at" = some none
  iC : findIn K (.ref C) "__init__" = some (some (.ref fI))
  tI : typeIn K (.ref fI) = some (.type "function")
  kC : keepIn K (.ref C) = true
  exC : subIn K (.ref C) (.type "BaseException") = some true
  veC : subIn K (.ref C) (.type "ValueError") = some true
  tyC : typeIn K (.ref C) = some (.type "type")
  hD : (clsIn K D).isSome = true
  sub : mroIn K C (.ref D) = some true
  up : ks_superIn K C D "__init__" = some (some (.builtin "ValueError.__init__"))
  sup : mg "super" = none
  third : nsIn K cStatics "thirdparty.any" = some none
  top : (P.main.scope.names.lookup ("super" : Str)).isSome = false
  cell : ∃ cl cld csl, K.lookup cc = some ⟨cl, cld, .cell (some (.ref D)), csl⟩
  fn : ∃ (oc : Value) (od : Option Addr) (doc pm : Value) (an : Option Addr) (cda : Addr) (ct : Value) (osl : Array (Option Value)) (p0 p1 q1 q2 q3 q4 q5 q6 q7 q8 q9 q10 : Pos) (ccl : Value) (cdd : Option Addr) (vs : Array Value) (ccs : Array (Option Value)) (file : Str) (tf : Tok),
    K.lookup fI = some ⟨oc, od, .func (ksFn "__init__" "TextError.__init__" (rA p0 p1) (rB q1 q2 q3 q4 q5 q6 q7 q8 q9 q10) rS .none .none doc pm an (.ref cda) ct cc), osl⟩ ∧ codeIn K (.ref cda) "TextError.__init__" = true ∧
    K.lookup cda = some ⟨ccl, cdd, .fields vs, ccs⟩ ∧ vs[2]? = some (.str file tf) ∧ ((P.main.file : Str) == file) = true ∧ (q3.endLine == q5.line) = true
/-- what __init__ leaves of a fresh error at x -/
structure InitEnd (h h' : Heap) (x C dx t1 : Addr) (v : Value) : Prop where
  keep : ∀ b o, b ≠ x → h.get? b = some o → h'.get? b = some o
  obj : h'.get? x = some { cls := .ref C, dict := some dx, data := .fields #[.ref t1, .none, .none, .none, .bool false, .none] }
  dbig : h.objs.size ≤ dx
  dne : dx ≠ x
  ns : h'.Ns1 dx (fun y => if y = "at" then some v else none)
section
variable {prog : Program} {w : World} {A : Around} {E : Value → Shared → Prop} {R : Result → Shared → Prop} {s : Shared} {K : Frag} {mg : Str → Option Value} {C D fI cc : Addr}
theorem reason_init (T : RsTxt prog K mg C D fI cc) {x t0 : Addr} {v : Value} (X : K.In s.heap) (G : s.heap.Ns mainGlobals mg) (B : ∃ mb, s.heap.Ns builtinsNs mb ∧ ∀ y : Str, y ≠ "__name__" → mb y = bootBuiltins y)
    (hlim : s.heap.NoLimit) (hx : s.heap.get? x = some (excO C t0)) (hnx : K.lookup x = none) (hroom : A.depth < recursionLimit)
    (hq : ∀ h' tk dx t1, InitEnd s.heap h' x C dx t1 v → R (.ok (.ret .none)) { s with heap := h', toks := tk }) :
    codeAny (model prog w) A (.call (.ref fI) ⟨[.ref x, v], []⟩) R s := by
  obtain ⟨oc, od, doc, pm, an, cda, ct, osl, p0, p1, q1, q2, q3, q4, q5, q6, q7, q8, q9, q10, ccl, cdd, vs, ccs, file, tf, ho, hcd, hcode, hvs, hfile, hline⟩ := T.fn
  obtain ⟨nm, q, N, bs, bm, sn, sub, ab, col, dd, k0, k1, k2, k3, k5, hC, hbm⟩ := T.cls
  obtain ⟨cl, cld, csl, hcell⟩ := T.cell
  obtain ⟨mb, hB, hmb⟩ := B
  have hcl : clsIn K C = some { name := nm, bases := bs, mro := .ref C :: bm, ns := N, qualname := q, hasDict := true, slotNames := sn, subclasses := sub, abstract := ab, collection := col, hasDel := false } := by unfold clsIn; rw [hC] <;> rfl
  have hxC : x ≠ C := fun z => by rw [z, hC] at hnx; cases hnx
  refine ks_codeAny_call_defAt (fd := ksFn "__init__" "TextError.__init__" (rA p0 p1) (rB q1 q2 q3 q4 q5 q6 q7 q8 q9 q10) rS .none .none doc pm an (.ref cda) ct cc) (binds := [("self", .ref x), ("at", v)]) hroom (X _ _ ho) rfl hlim (codeRec_of X hcd) rfl
    (BindsTo.of_eq (by first | rfl | with_unfolding_all rfl)) (fun y hy => (show ∀ y ∈ rS.names, y.2 ≠ .cell by decide) y hy) (by
      intro y hy
      simp only [List.mem_cons, List.not_mem_nil, or_false] at hy
      rcases hy with rfl | rfl <;> rfl) (fun h₀ hns kp => ?_)
  have X₀ : K.In h₀ := X.keeps kp
  have hx₀ := kp _ _ hx
  refine ks_wpAt_execs_cons (ks_wpAt_Expr_any (ks_wpAt_MethodCall ?_ (HX.mc_one hline rfl)))
  refine ks_wpAt_super_base (ar := { arg := "self", annotation := none, pos := p0 }) (by rfl) (by rfl) (by decide) rfl (X₀ _ _ ho) rfl rfl rfl (X₀ _ _ hcode) rfl hvs hfile T.top ?_
  refine ks_loadName_global (by rfl) (by rfl) (loadGlobal_builtin (G.keeps kp) T.sup (hB.keeps kp) ((hmb _ (by decide)).trans (by first | boot_by_name | rfl | kernel_rfl)) ⟨rfl, ?_⟩)
  refine wpAny_loadName_free (by rfl) (by rfl) rfl ⟨_, X₀ _ _ hcell, rfl⟩ ?_
  refine wpAny_loadName_local (by rfl) (by rfl) hns (by first | rfl | decide) ?_
  obtain ⟨cdD, hcD⟩ := Option.isSome_iff_exists.mp T.hD
  obtain ⟨oD, hD1, hD2⟩ : ∃ oD, h₀.get? D = some oD ∧ oD.data = .cls cdD := by
    unfold clsIn at hcD
    split at hcD
    · rename_i c' d' cd' sl' ho'
      cases hcD
      exact ⟨_, X₀ _ _ ho', rfl⟩
    · cases hcD
  refine ks_wpAny_isType_cls hD1 hD2 ⟨rfl, ?_⟩
  refine ks_wpAny_call_super hD1 hD2 hx₀ rfl (fun c e => by cases e) (looks_mroIn X₀ T.sub) (fun h₁ hso k₁ => ?_)
  have X₁ : K.In h₁ := X₀.keeps k₁
  have hx₁ := k₁ _ _ hx₀
  have I₁ : InstAt h₁ x (excO C t0) C none := ⟨hx₁, rfl, rfl, trivial⟩
  have hve : Looks (model prog w) h₁ (isInstance (.ref x) (.type "ValueError")) true := I₁.type.andThen (looks_subIn X₁ T.veC)
  have hup : alongIn K "__init__" (((Value.ref C :: bm).dropWhile (· != .ref D)).drop 1) = some (some (.builtin "ValueError.__init__")) := by
    have z := T.up
    unfold ks_superIn at z
    rw [hcl] at z
    exact z
  refine kxs_getMethod kxs_ValueError hso (looks_opaque X₁ T.third) (l₀ := Value.ref C :: bm) ((looks_clsIn X₁ hcl).andThen .now) rfl X₁ hup hve hxC (by decide) ?_
  have hx₂ : (h₁.push (kxs_mw "ValueError.__init__" x)).get? x = some (excO C t0) := Heap.get?_push_of_some _ hx₁
  have hu₂ : (h₁.push (kxs_mw "ValueError.__init__" x)).get? h₁.objs.size = some (kxs_mw "ValueError.__init__" x) := Heap.get?_push_size _ rfl
  have k₂ : ∀ b o, h₀.get? b = some o → (h₁.push (kxs_mw "ValueError.__init__" x)).get? b = some o := fun b o e => Heap.get?_push_of_some _ (k₁ b o e)
  have X₂ := X₀.keeps k₂
  refine kxs_callWith (i := "ValueError.__init__") (x := x) rfl ?_
  refine evalArgs_plain ?_
  have hn₂ := hns.keeps k₂
  refine Calls.spliced_cons ?_
  refine wpAny_Name (wpAny_loadName_local (by rfl) (by rfl) hn₂ (v := v) (by first | rfl | decide) ?_) (by decide)
  refine Calls.spliced_nil ⟨hu₂, ?_⟩
  refine HX.bound_init (t0 := t0) (X₂ _ _ hC) hx₂ hu₂ (HX.one_ok v) (fun h₃ t1 k₃ hx₃ hz₃ => ?_)
  have kn : ∀ b o, b ≠ x → h₀.get? b = some o → h₃.get? b = some o := fun b o hb e => k₃ b o hb (k₂ b o e)
  have X₃ : K.In h₃ := fun b o e => kn b o (fun z => by rw [z, hnx] at e; cases e) (X₀ b o e)
  have xL : s.heap.objs.size ≠ x := Nat.ne_of_gt (Heap.lt_size hx)
  have hn₃ : h₃.Ns s.heap.objs.size fun y => List.lookup y [(Str.ofString "self", Value.ref x), (Str.ofString "at", v)].reverse := by
    obtain ⟨oL, es, ep, hL, r⟩ := hns
    exact ⟨oL, es, ep, kn _ _ xL hL, r⟩
  show _root_.PySem.wpAt _ _ _ (execs _ _) _ _ _
  refine ks_wpAt_execs_cons (ks_wpAt_Assign_Attr ?_)
  refine wpAt_of_wpAny (wpAny_Name (wpAny_loadName_local (by rfl) (by rfl) hn₃ (v := v) (by first | rfl | decide) ?_) (by decide))
  refine wpAny_Name (wpAny_loadName_local (by rfl) (by rfl) hn₃ (v := .ref x) (by first | rfl | decide) ?_) (by decide)
  refine set_plain X₃ (ox := excO C t1) (od := none) ⟨hx₃, rfl, rfl, trivial⟩ T.sa ?_
  refine exc_osa X₃ hx₃ hcl (show refsVE (.ref C :: bm) = true from hbm) rfl T.noN1 (fun h₄ tk₄ dx k₄ dn dne hx₄ hn₄ => ?_)
  refine wpAt_of_wpAny (wpAny_execs_nil ?_)
  exact hq h₄ tk₄ dx t1 ⟨fun b o hb e => k₄ b o hb (kn b o hb (kp b o e)), hx₄, Nat.le_of_lt (Nat.lt_of_lt_of_le hn₃.lt dn), dne, hn₄⟩
/-- a made error -/
structure Made (h h' : Heap) (e C d : Addr) (v : Value) : Prop where
  keep : ∀ b o, h.get? b = some o → h'.get? b = some o
  new : h.objs.size ≤ e
  obj : ∃ oe vs, h'.get? e = some oe ∧ oe.cls = .ref C ∧ oe.dict = some d ∧ oe.data = .fields vs ∧ vs[1]? = some .none
  dbig : h.objs.size ≤ d
  dne : d ≠ e
  ns : h'.Ns1 d (fun y => if y = "at" then some v else none)
theorem reason_made (T : RsTxt prog K mg C D fI cc) {v : Value} (X : K.In s.heap) (G : s.heap.Ns mainGlobals mg) (B : ∃ mb, s.heap.Ns builtinsNs mb ∧ ∀ y : Str, y ≠ "__name__" → mb y = bootBuiltins y)
    (hlim : s.heap.NoLimit) (hroom : A.depth + 1 < recursionLimit)
    (hq : ∀ h' tk e d, Made s.heap h' e C d v → R (.ok (.ret (.ref e))) { s with heap := h', toks := tk }) :
    codeAny (model prog w) A (.call (.ref C) ⟨[v], []⟩) R s := by
  obtain ⟨nm, q, N, bs, bm, sn, sub, ab, col, dd, k0, k1, k2, k3, k5, hC, hbm⟩ := T.cls
  obtain ⟨hp, g, dr, tk, os⟩ := s
  have k : ∀ b o, hp.get? b = some o → ((hp.push (kdv_tup [v])).push (excO C hp.objs.size)).get? b = some o := fun b o e => Heap.get?_push_of_some _ (Heap.get?_push_of_some _ e)
  have hget : ((hp.push (kdv_tup [v])).push (excO C hp.objs.size)).get? (hp.objs.size + 1) = some (excO C hp.objs.size) := by heap_get
  have hnx : K.lookup (hp.objs.size + 1) = none := by
    cases e : K.lookup (hp.objs.size + 1) with
    | none => rfl
    | some o =>
      have z : hp.get? (hp.objs.size + 1) = some o := X _ _ e
      exact absurd (Nat.lt_of_succ_lt (Heap.lt_size z)) (Nat.lt_irrefl _)
  refine call_own F.excBase_ValueError (fun X => refsVE_contains X bm hbm) (X _ _ hC) (looks_findIn X T.iC) (fun self => bind_fn X self T.tI) (HX.one_ok v) ?_
  obtain ⟨mb, hB, hmb⟩ := B
  refine reason_init (s := ⟨(hp.push (kdv_tup [v])).push (excO C hp.objs.size), g, dr, tk, os⟩) T (X.keeps k) (G.keeps k) ⟨mb, hB.keeps k, hmb⟩ (hlim.keeps k) hget hnx ?_ fun h' tk' dx t1 ⟨k', hx, dn, dne, hns⟩ => ?_
  · show A.depth + 1 < recursionLimit
    exact hroom
  · have old : ∀ b o, hp.get? b = some o → h'.get? b = some o := fun b o e => k' b o (Nat.ne_of_lt (Nat.lt_succ_of_lt (Heap.lt_size e))) (k b o e)
    have z : hp.objs.size + 1 + 1 ≤ dx := by
      first
        | (simpa only [Heap.size_push] using dn)
        | exact dn
        | (have q := dn; rw [Heap.size_push, Heap.size_push] at q; exact q)
    exact ⟨rfl, hq h' tk' (hp.objs.size + 1) dx ⟨old, Nat.le_succ _, ⟨_, _, hx, rfl, rfl, rfl, rfl⟩, Nat.le_trans (Nat.le_trans (Nat.le_succ _) (Nat.le_succ _)) z, dne, hns⟩⟩
end
end EXa
namespace EXa
open PySem PySem.Spec PyProof.Rows L2
theorem relO_rs {v : V} {v' : Value} (r : RelV v v') (f : Str) : RelO (List.lookup f [("at", v)]) (if f = "at" then some v' else none) := by
  by_cases hw : f = "at"
  · subst hw
    rw [if_pos rfl]
    have q : List.lookup ("at" : Str) [(("at" : Str), v)] = some v := by simp [List.lookup]
    rw [q]
    exact r
  · rw [if_neg hw]
    have qw : (f == ("at" : Str)) = false := by simpa using hw
    have q2 : List.lookup f [(("at" : Str), v)] = none := by simp [List.lookup, qw]
    rw [q2]
    trivial
section
variable {X : Cx} {C D fI cc : Addr} {x : Str}
/-- C(e, ..): its own dict is new and holds the fields -/
def tMkR (C : Addr) (ta : TA) : L2.St → Hp → XK → Prop := fun σ H Q => ta σ H fun vs H1 => ∃ v, vs = [v] ∧ ∀ d, H1 d = none → Q (.ref C) (some d) (upd H1 d (.xd [(("at" : Str), v)]))
theorem pmk_rs {a : Expr} {ta : TA} {p pos : Pos} {k : Nat} (T : RsTxt X.prog X.K X.mg C D fI cc) (hr : Room k X.A) (ha : PA X [a] ta) (hm : X.mg x = some (.ref C)) (hg : Gl X x := by rfl)
    (hdb : (x == ("__debug__" : Str)) = false := by decide)
    (he : starEach (a :: []) X.env = (false, eval a X.env) :: starEach [] X.env := by rfl) (hpl : (backTo pos (starEach [] X.env)).any (·.1) = false := by rfl) :
    PMk X (.Call (.Name x p) [a] [] pos) (tMkR C ta) := by
  intro pins s σ H Q I h
  refine wpAny_Call_Name_kw (ld_glob I hg hm ?_ hdb)
  refine PySem.W.callWith_K (h₀ := X.base) I.ok.mod.kin T.kC (thn (ha.run pos pins s σ H _ I h) fun us s1 hh => ?_) he hpl
  obtain ⟨vs, H1, I1, r1, v, ev, q1⟩ := hh
  subst ev
  refine ⟨I1.kIn, ?_⟩
  cases r1 with
  | cons rv rn =>
    rename_i v' us'
    cases rn
    show wpAny _ _ (call (.ref C) [v']) _ _ _
    have hlim := I1.nolimit
    have hG : s1.heap.Ns mainGlobals X.mg := I1.ok.mod.glob.keeps I1.bk
    have hB : ∃ mb, s1.heap.Ns builtinsNs mb ∧ ∀ y : Str, y ≠ "__name__" → mb y = bootBuiltins y := by
      obtain ⟨mb, hb, hm⟩ := I1.ok.mod.blt
      exact ⟨mb, hb.keeps I1.bk, hm⟩
    obtain ⟨hp, g, dr, tk, os⟩ := s1
    refine wpAny_call (reason_made T I1.kIn hG hB hlim (by have := hr.dp; omega) fun h' tk' e d M => ?_)
    show MkP X pins σ Q (.ref e) ⟨h', g, dr, tk', os⟩
    obtain ⟨oe, fv, hoe, hc, hd, hdat, h1⟩ := M.obj
    have hns := M.ns
    obtain ⟨G', g1, g2⟩ := restrict h' fun b => decide (b ≠ e)
    have gk : ∀ b, b ≠ e → G'.get? b = h'.get? b := fun b hb => g1 b (decide_eq_true hb)
    have ge : G'.get? e = none := g2 e (by simp)
    have old : ∀ b o, hp.get? b = some o → G'.get? b = some o := fun b o q => (gk b (Nat.ne_of_lt (Nat.lt_of_lt_of_le (Heap.lt_size q) M.new))).trans (M.keep b o q)
    have ob : ObjOk X.prog X.w (upd H1 d (.xd [(("at" : Str), v)])) G' d (.xd [(("at" : Str), v)]) :=
      ⟨_, hns.at (fun o q => (gk d M.dne).trans q), fun f => relO_rs rv f⟩
    have J : Inv X pins σ (upd H1 d (.xd [(("at" : Str), v)])) ⟨G', g, dr, tk', os⟩ := I1.laid (t' := tk') old M.dbig ob
    refine ⟨e, oe, fv, ⟨G', g, dr, tk', os⟩, _, .ref C, some d, rfl, J, fun b o q => ?_, ge, hoe, ⟨hc, hd⟩, hdat, h1, ?_, rfl, I1.bare, raises_own T.exC T.tyC, q1 d (I1.hok.fresh M.dbig)⟩
    · by_cases hb : b = e
      · have q' : G'.get? b = some o := q
        rw [hb, ge] at q'; cases q'
      · exact (gk b hb).symm.trans q
    · rw [upd_ne (Ne.symm M.dne)]
      exact I1.hok.fresh M.new
/-- raise C(e, ..) -/
def tRaiseR (C : Addr) (W : WX) (ta : TA) : TS := fun _ σ H => tMkR C ta σ H fun cls d H' => W cls d σ H'
theorem ps_raiseR {a : Expr} {ta : TA} {W : WX} {p pos pos2 : Pos} {k : Nat} (hc : X.calm = true) (T : RsTxt X.prog X.K X.mg C D fI cc) (hr : Room k X.A) (tk : Takes X W) (ha : PA X [a] ta) (hm : X.mg x = some (.ref C)) (hg : Gl X x := by rfl)
    (hdb : (x == ("__debug__" : Str)) = false := by decide)
    (he : starEach (a :: []) X.env = (false, eval a X.env) :: starEach [] X.env := by rfl) (hpl : (backTo pos (starEach [] X.env)).any (·.1) = false := by rfl) :
    PS X (.Raise (some (.Call (.Name x p) [a] [] pos)) none pos2) (tRaiseR C W ta) := ps_raise hc tk (pmk_rs T hr ha hm hg hdb he hpl)
end
end EXa
namespace EXa
open PySem PySem.Spec PyProof.Rows L2 He HX
/-- what is looked at of such a class at C, its __init__ from the class at D -/
def rsB (P : Program) (K : PySem.W.Frag) (C D : Addr) : Bool :=
  excB K C && (eqO (PySem.W.findIn K (.ref C) "__setattr__") (some (some (.builtin "object.__setattr__"))) && (eqO (PySem.W.findIn K (.ref C) "at") (some none) &&
  (eqO (PySem.W.findIn K (.ref C) "__init__") (some (some (.ref (ma K C "__init__")))) && (decide (PySem.W.typeIn K (.ref (ma K C "__init__")) = some (.type "function")) && (PySem.W.keepIn K (.ref C) &&
  (decide (PySem.W.subIn K (.ref C) (.type "BaseException") = some true) && (decide (PySem.W.subIn K (.ref C) (.type "ValueError") = some true) && (decide (PySem.W.typeIn K (.ref C) = some (.type "type")) &&
  ((PySem.W.clsIn K D).isSome && (decide (PySem.W.mroIn K C (.ref D) = some true) && (eqO (PySem.W.ks_superIn K C D "__init__") (some (some (.builtin "ValueError.__init__"))) &&
  (eqO (PySem.W.nsIn K mainGlobals "super") (some none) && (eqO (PySem.W.nsIn K cStatics "thirdparty.any") (some none) && (!(P.main.scope.names.lookup ("super" : Str)).isSome &&
  (match K.lookup (ccOf K (ma K C "__init__")) with
    | some ⟨_, _, .cell (some (.ref D')), _⟩ => decide (D' = D)
    | _ => false)))))))))))))))
/-- its __init__ as it stands -/
def inObs (P : Program) (K : PySem.W.Frag) (f : Addr) : InV := match K.lookup f with
  | some ⟨_, _, .func fd, _⟩ => some (fd.name, fd.qualname, fd.params, fd.body, fd.scope, fd.globals,
      (match fd.closure with
      | [(x, _)] => decide (x = ("__class__" : Str))
      | _ => false) && ((match fd.defaults with | .none => true | _ => false) && (match fd.kwdefaults with | .none => true | _ => false)),
      (match fd.code with
      | .ref cda => PySem.W.codeIn K (.ref cda) "TextError.__init__" && (match K.lookup cda with
        | some ⟨_, _, .fields vs, _⟩ => (match (vs[2]? : Option Value) with
          | some (.str file _) => ((P.main.file : Str) == file)
          | _ => false)
        | _ => false)
      | _ => false), fd.builtins)
  | _ => none
/-- the positions of __init__'s text: i.q the body's, then the parameters' -/
def valI (i : InPos) : InV := some ("__init__", "TextError.__init__", rA (i.q.getD 10 ⟨0, 0, 0, 0⟩) (i.q.getD 11 ⟨0, 0, 0, 0⟩), .stmts (rB (i.q.getD 0 ⟨0, 0, 0, 0⟩) (i.q.getD 1 ⟨0, 0, 0, 0⟩) (i.q.getD 2 ⟨0, 0, 0, 0⟩) (i.q.getD 3 ⟨0, 0, 0, 0⟩) (i.q.getD 4 ⟨0, 0, 0, 0⟩) (i.q.getD 5 ⟨0, 0, 0, 0⟩) (i.q.getD 6 ⟨0, 0, 0, 0⟩) (i.q.getD 7 ⟨0, 0, 0, 0⟩) (i.q.getD 8 ⟨0, 0, 0, 0⟩) (i.q.getD 9 ⟨0, 0, 0, 0⟩)), rS, mainGlobals, true, true, builtinsNs)
theorem rs_ok {P : Program} {K : PySem.W.Frag} {h : Heap} {mg : Str → Option Value} {C D : Addr} {i : InPos} (X : K.In h) (G : h.Ns mainGlobals mg) (hb : rsB P K C D = true) (hi : inObs P K (ma K C "__init__") = valI i)
    (hl : ((i.q.getD 2 ⟨0, 0, 0, 0⟩).endLine == (i.q.getD 4 ⟨0, 0, 0, 0⟩).line) = true) : RsTxt P K mg C D (ma K C "__init__") (ccOf K (ma K C "__init__")) := by
  obtain ⟨b1, hb⟩ := ba hb
  obtain ⟨b2, hb⟩ := ba hb
  obtain ⟨b3, hb⟩ := ba hb
  obtain ⟨b4, hb⟩ := ba hb
  obtain ⟨b5, hb⟩ := ba hb
  obtain ⟨b6, hb⟩ := ba hb
  obtain ⟨b7, hb⟩ := ba hb
  obtain ⟨b8, hb⟩ := ba hb
  obtain ⟨b9, hb⟩ := ba hb
  obtain ⟨b10, hb⟩ := ba hb
  obtain ⟨b11, hb⟩ := ba hb
  obtain ⟨b12, hb⟩ := ba hb
  obtain ⟨b13, hb⟩ := ba hb
  obtain ⟨b14, hb⟩ := ba hb
  obtain ⟨b15, b16⟩ := ba hb
  refine ⟨excB_ok b1, eqO_ok b2, eqO_ok b3, eqO_ok b4, of_decide_eq_true b5, b6, of_decide_eq_true b7, of_decide_eq_true b8, of_decide_eq_true b9, b10, of_decide_eq_true b11, eqO_ok b12, PySem.W.mg_none_of X G (eqO_ok b13), eqO_ok b14, by simpa using b15, ?_, ?_⟩
  · split at b16
    · rename_i cl cld D' csl ho
      have e : D' = D := of_decide_eq_true b16
      subst e
      exact ⟨_, _, _, ho⟩
    · cases b16
  · unfold inObs at hi
    split at hi
    · rename_i oc od fd osl ho
      obtain ⟨n1, n2, n3, n4, n5, n6, n7, n8, n9, n10, n11, n12, n13, n14, n15⟩ := fd
      have hi2 := Option.some.inj hi
      simp only [Prod.mk.injEq] at hi2
      obtain ⟨rfl, rfl, rfl, rfl, rfl, rfl, h7, h8, rfl⟩ := hi2
      obtain ⟨c1, c2⟩ := ba h7
      obtain ⟨c2, c3⟩ := ba c2
      have ecc : ∃ c, n7 = [(("__class__" : Str), c)] := by
        split at c1
        · rename_i x c
          have : x = ("__class__" : Str) := of_decide_eq_true c1
          subst this
          exact ⟨c, rfl⟩
        · cases c1
      obtain ⟨c, rfl⟩ := ecc
      have e8 : n8 = .none := by split at c2 <;> first | rfl | cases c2
      have e9 : n9 = .none := by split at c3 <;> first | rfl | cases c3
      subst e8 e9
      have hcc : ccOf K (ma K C "__init__") = c := by
        unfold ccOf
        rw [ho]
      rw [hcc]
      split at h8
      · rename_i cda
        obtain ⟨d1, d2⟩ := ba h8
        split at d2
        · rename_i ccl cdd vs ccs hoc
          split at d2
          · rename_i file tf hv
            exact ⟨oc, od, n10, n11, n12, cda, n14, osl, _, _, _, _, _, _, _, _, _, _, _, _, ccl, cdd, vs, ccs, file, tf, ho, d1, hoc, hv, d2, hl⟩
          · cases d2
        · cases d2
      · cases h8
    · cases hi
end EXa
namespace EXl
open PySem PySem.W PySem.Calls PyProof.Rows PySem.HandSPX
def rA (p0 p1 : Pos) : Arguments := { posonlyargs := [], args := [{ arg := "self", annotation := none, pos := p0 }, { arg := "line", annotation := none, pos := p1 }], vararg := none, kwonlyargs := [], kw_defaults := [], kwarg := none, defaults := [] }
def rB (q1 q2 q3 q4 q5 q6 q7 q8 q9 q10 : Pos) : List Stmt :=
  [.Expr (.Call (.Attribute (.Call (.Name "super" q1) [] [] q2) "__init__" q3) [.Name "line" q4] [] q5) q6,
   .Assign [.Attribute (.Name "self" q7) "line" q8] (.Name "line" q9) q10]
def rS : Scope := { kind := .function, names := [(PySem.Str.ofString "self", .local), (PySem.Str.ofString "line", .local), (PySem.Str.ofString "__class__", .free), (PySem.Str.ofString "super", .globalImplicit)], isGenerator := false, isCoroutine := false, more := [] }
/-- what the written part says of an error class at C that has its __init__ from the class at D (fI, its class cell at cc) -/
structure RsTxt (P : Program) (K : Frag) (mg : Str → Option Value) (C D fI cc : Addr) : Prop where
  cls : ∃ nm q N bs bm sn sub ab col dd k0 k1 k2 k3 k5, K.lookup C = some (excClassObj nm q C N bs bm true sn sub ab col dd k0 k1 k2 k3 k5 "ValueError.__new__") ∧ refsVE bm = true
  sa : findIn K (.ref C) "__setattr__" = some (some (.builtin "object.__setattr__"))
  noN1 : findIn K (.ref C) "line" = some none
  iC : findIn K (.ref C) "__init__" = some (some (.ref fI))
  tI : typeIn K (.ref fI) = some (.type "function")
  kC : keepIn K (.ref C) = true
  exC : subIn K (.ref C) (.type "BaseException") = some true
  veC : subIn K (.ref C) (.type "ValueError") = some true
  tyC : typeIn K (.ref C) = some (.type "type")
  hD : (clsIn K D).isSome = true
  sub : mroIn K C (.ref D) = some true
  up : ks_superIn K C D "__init__" = some (some (.builtin "ValueError.__init__"))
  sup : mg "super" = none
  third : nsIn K cStatics "thirdparty.any" = some none
  top : (P.main.scope.names.lookup ("super" : Str)).isSome = false
  cell : ∃ cl cld csl, K.lookup cc = some ⟨cl, cld, .cell (some (.ref D)), csl⟩
  fn : ∃ (oc : Value) (od : Option Addr) (doc pm : Value) (an : Option Addr) (cda : Addr) (ct : Value) (osl : Array (Option Value)) (p0 p1 q1 q2 q3 q4 q5 q6 q7 q8 q9 q10 : Pos) (ccl : Value) (cdd : Option Addr) (vs : Array Value) (ccs : Array (Option Value)) (file : Str) (tf : Tok),
    K.lookup fI = some ⟨oc, od, .func (ksFn "__init__" "CommandError.__init__" (rA p0 p1) (rB q1 q2 q3 q4 q5 q6 q7 q8 q9 q10) rS .none .none doc pm an (.ref cda) ct cc), osl⟩ ∧ codeIn K (.ref cda) "CommandError.__init__" = true ∧
    K.lookup cda = some ⟨ccl, cdd, .fields vs, ccs⟩ ∧ vs[2]? = some (.str file tf) ∧ ((P.main.file : Str) == file) = true ∧ (q3.endLine == q5.line) = true
/-- what __init__ leaves of a fresh error at x -/
structure InitEnd (h h' : Heap) (x C dx t1 : Addr) (v : Value) : Prop where
  keep : ∀ b o, b ≠ x → h.get? b = some o → h'.get? b = some o
  obj : h'.get? x = some { cls := .ref C, dict := some dx, data := .fields #[.ref t1, .none, .none, .none, .bool false, .none] }
  dbig : h.objs.size ≤ dx
  dne : dx ≠ x
  ns : h'.Ns1 dx (fun y => if y = "line" then some v else none)
section
variable {prog : Program} {w : World} {A : Around} {E : Value → Shared → Prop} {R : Result → Shared → Prop} {s : Shared} {K : Frag} {mg : Str → Option Value} {C D fI cc : Addr}
theorem reason_init (T : RsTxt prog K mg C D fI cc) {x t0 : Addr} {v : Value} (X : K.In s.heap) (G : s.heap.Ns mainGlobals mg) (B : ∃ mb, s.heap.Ns builtinsNs mb ∧ ∀ y : Str, y ≠ "__name__" → mb y = bootBuiltins y)
    (hlim : s.heap.NoLimit) (hx : s.heap.get? x = some (excO C t0)) (hnx : K.lookup x = none) (hroom : A.depth < recursionLimit)
    (hq : ∀ h' tk dx t1, InitEnd s.heap h' x C dx t1 v → R (.ok (.ret .none)) { s with heap := h', toks := tk }) :
    codeAny (model prog w) A (.call (.ref fI) ⟨[.ref x, v], []⟩) R s := by
  obtain ⟨oc, od, doc, pm, an, cda, ct, osl, p0, p1, q1, q2, q3, q4, q5, q6, q7, q8, q9, q10, ccl, cdd, vs, ccs, file, tf, ho, hcd, hcode, hvs, hfile, hline⟩ := T.fn
  obtain ⟨nm, q, N, bs, bm, sn, sub, ab, col, dd, k0, k1, k2, k3, k5, hC, hbm⟩ := T.cls
  obtain ⟨cl, cld, csl, hcell⟩ := T.cell
  obtain ⟨mb, hB, hmb⟩ := B
  have hcl : clsIn K C = some { name := nm, bases := bs, mro := .ref C :: bm, ns := N, qualname := q, hasDict := true, slotNames := sn, subclasses := sub, abstract := ab, collection := col, hasDel := false } := by unfold clsIn; rw [hC] <;> rfl
  have hxC : x ≠ C := fun z => by rw [z, hC] at hnx; cases hnx
  refine ks_codeAny_call_defAt (fd := ksFn "__init__" "CommandError.__init__" (rA p0 p1) (rB q1 q2 q3 q4 q5 q6 q7 q8 q9 q10) rS .none .none doc pm an (.ref cda) ct cc) (binds := [("self", .ref x), ("line", v)]) hroom (X _ _ ho) rfl hlim (codeRec_of X hcd) rfl
    (BindsTo.of_eq (by first | rfl | with_unfolding_all rfl)) (fun y hy => (show ∀ y ∈ rS.names, y.2 ≠ .cell by decide) y hy) (by
      intro y hy
      simp only [List.mem_cons, List.not_mem_nil, or_false] at hy
      rcases hy with rfl | rfl <;> rfl) (fun h₀ hns kp => ?_)
  have X₀ : K.In h₀ := X.keeps kp
  have hx₀ := kp _ _ hx
  refine ks_wpAt_execs_cons (ks_wpAt_Expr_any (ks_wpAt_MethodCall ?_ (HX.mc_one hline rfl)))
  refine ks_wpAt_super_base (ar := { arg := "self", annotation := none, pos := p0 }) (by rfl) (by rfl) (by decide) rfl (X₀ _ _ ho) rfl rfl rfl (X₀ _ _ hcode) rfl hvs hfile T.top ?_
  refine ks_loadName_global (by rfl) (by rfl) (loadGlobal_builtin (G.keeps kp) T.sup (hB.keeps kp) ((hmb _ (by decide)).trans (by first | boot_by_name | rfl | kernel_rfl)) ⟨rfl, ?_⟩)
  refine wpAny_loadName_free (by rfl) (by rfl) rfl ⟨_, X₀ _ _ hcell, rfl⟩ ?_
  refine wpAny_loadName_local (by rfl) (by rfl) hns (by first | rfl | decide) ?_
  obtain ⟨cdD, hcD⟩ := Option.isSome_iff_exists.mp T.hD
  obtain ⟨oD, hD1, hD2⟩ : ∃ oD, h₀.get? D = some oD ∧ oD.data = .cls cdD := by
    unfold clsIn at hcD
    split at hcD
    · rename_i c' d' cd' sl' ho'
      cases hcD
      exact ⟨_, X₀ _ _ ho', rfl⟩
    · cases hcD
  refine ks_wpAny_isType_cls hD1 hD2 ⟨rfl, ?_⟩
  refine ks_wpAny_call_super hD1 hD2 hx₀ rfl (fun c e => by cases e) (looks_mroIn X₀ T.sub) (fun h₁ hso k₁ => ?_)
  have X₁ : K.In h₁ := X₀.keeps k₁
  have hx₁ := k₁ _ _ hx₀
  have I₁ : InstAt h₁ x (excO C t0) C none := ⟨hx₁, rfl, rfl, trivial⟩
  have hve : Looks (model prog w) h₁ (isInstance (.ref x) (.type "ValueError")) true := I₁.type.andThen (looks_subIn X₁ T.veC)
  have hup : alongIn K "__init__" (((Value.ref C :: bm).dropWhile (· != .ref D)).drop 1) = some (some (.builtin "ValueError.__init__")) := by
    have z := T.up
    unfold ks_superIn at z
    rw [hcl] at z
    exact z
  refine kxs_getMethod kxs_ValueError hso (looks_opaque X₁ T.third) (l₀ := Value.ref C :: bm) ((looks_clsIn X₁ hcl).andThen .now) rfl X₁ hup hve hxC (by decide) ?_
  have hx₂ : (h₁.push (kxs_mw "ValueError.__init__" x)).get? x = some (excO C t0) := Heap.get?_push_of_some _ hx₁
  have hu₂ : (h₁.push (kxs_mw "ValueError.__init__" x)).get? h₁.objs.size = some (kxs_mw "ValueError.__init__" x) := Heap.get?_push_size _ rfl
  have k₂ : ∀ b o, h₀.get? b = some o → (h₁.push (kxs_mw "ValueError.__init__" x)).get? b = some o := fun b o e => Heap.get?_push_of_some _ (k₁ b o e)
  have X₂ := X₀.keeps k₂
  refine kxs_callWith (i := "ValueError.__init__") (x := x) rfl ?_
  refine evalArgs_plain ?_
  have hn₂ := hns.keeps k₂
  refine Calls.spliced_cons ?_
  refine wpAny_Name (wpAny_loadName_local (by rfl) (by rfl) hn₂ (v := v) (by first | rfl | decide) ?_) (by decide)
  refine Calls.spliced_nil ⟨hu₂, ?_⟩
  refine HX.bound_init (t0 := t0) (X₂ _ _ hC) hx₂ hu₂ (HX.one_ok v) (fun h₃ t1 k₃ hx₃ hz₃ => ?_)
  have kn : ∀ b o, b ≠ x → h₀.get? b = some o → h₃.get? b = some o := fun b o hb e => k₃ b o hb (k₂ b o e)
  have X₃ : K.In h₃ := fun b o e => kn b o (fun z => by rw [z, hnx] at e; cases e) (X₀ b o e)
  have xL : s.heap.objs.size ≠ x := Nat.ne_of_gt (Heap.lt_size hx)
  have hn₃ : h₃.Ns s.heap.objs.size fun y => List.lookup y [(Str.ofString "self", Value.ref x), (Str.ofString "line", v)].reverse := by
    obtain ⟨oL, es, ep, hL, r⟩ := hns
    exact ⟨oL, es, ep, kn _ _ xL hL, r⟩
  show _root_.PySem.wpAt _ _ _ (execs _ _) _ _ _
  refine ks_wpAt_execs_cons (ks_wpAt_Assign_Attr ?_)
  refine wpAt_of_wpAny (wpAny_Name (wpAny_loadName_local (by rfl) (by rfl) hn₃ (v := v) (by first | rfl | decide) ?_) (by decide))
  refine wpAny_Name (wpAny_loadName_local (by rfl) (by rfl) hn₃ (v := .ref x) (by first | rfl | decide) ?_) (by decide)
  refine set_plain X₃ (ox := excO C t1) (od := none) ⟨hx₃, rfl, rfl, trivial⟩ T.sa ?_
  refine exc_osa X₃ hx₃ hcl (show refsVE (.ref C :: bm) = true from hbm) rfl T.noN1 (fun h₄ tk₄ dx k₄ dn dne hx₄ hn₄ => ?_)
  refine wpAt_of_wpAny (wpAny_execs_nil ?_)
  exact hq h₄ tk₄ dx t1 ⟨fun b o hb e => k₄ b o hb (kn b o hb (kp b o e)), hx₄, Nat.le_of_lt (Nat.lt_of_lt_of_le hn₃.lt dn), dne, hn₄⟩
/-- a made error -/
structure Made (h h' : Heap) (e C d : Addr) (v : Value) : Prop where
  keep : ∀ b o, h.get? b = some o → h'.get? b = some o
  new : h.objs.size ≤ e
  obj : ∃ oe vs, h'.get? e = some oe ∧ oe.cls = .ref C ∧ oe.dict = some d ∧ oe.data = .fields vs ∧ vs[1]? = some .none
  dbig : h.objs.size ≤ d
  dne : d ≠ e
  ns : h'.Ns1 d (fun y => if y = "line" then some v else none)
theorem reason_made (T : RsTxt prog K mg C D fI cc) {v : Value} (X : K.In s.heap) (G : s.heap.Ns mainGlobals mg) (B : ∃ mb, s.heap.Ns builtinsNs mb ∧ ∀ y : Str, y ≠ "__name__" → mb y = bootBuiltins y)
    (hlim : s.heap.NoLimit) (hroom : A.depth + 1 < recursionLimit)
    (hq : ∀ h' tk e d, Made s.heap h' e C d v → R (.ok (.ret (.ref e))) { s with heap := h', toks := tk }) :
    codeAny (model prog w) A (.call (.ref C) ⟨[v], []⟩) R s := by
  obtain ⟨nm, q, N, bs, bm, sn, sub, ab, col, dd, k0, k1, k2, k3, k5, hC, hbm⟩ := T.cls
  obtain ⟨hp, g, dr, tk, os⟩ := s
  have k : ∀ b o, hp.get? b = some o → ((hp.push (kdv_tup [v])).push (excO C hp.objs.size)).get? b = some o := fun b o e => Heap.get?_push_of_some _ (Heap.get?_push_of_some _ e)
  have hget : ((hp.push (kdv_tup [v])).push (excO C hp.objs.size)).get? (hp.objs.size + 1) = some (excO C hp.objs.size) := by heap_get
  have hnx : K.lookup (hp.objs.size + 1) = none := by
    cases e : K.lookup (hp.objs.size + 1) with
    | none => rfl
    | some o =>
      have z : hp.get? (hp.objs.size + 1) = some o := X _ _ e
      exact absurd (Nat.lt_of_succ_lt (Heap.lt_size z)) (Nat.lt_irrefl _)
  refine call_own F.excBase_ValueError (fun X => refsVE_contains X bm hbm) (X _ _ hC) (looks_findIn X T.iC) (fun self => bind_fn X self T.tI) (HX.one_ok v) ?_
  obtain ⟨mb, hB, hmb⟩ := B
  refine reason_init (s := ⟨(hp.push (kdv_tup [v])).push (excO C hp.objs.size), g, dr, tk, os⟩) T (X.keeps k) (G.keeps k) ⟨mb, hB.keeps k, hmb⟩ (hlim.keeps k) hget hnx ?_ fun h' tk' dx t1 ⟨k', hx, dn, dne, hns⟩ => ?_
  · show A.depth + 1 < recursionLimit
    exact hroom
  · have old : ∀ b o, hp.get? b = some o → h'.get? b = some o := fun b o e => k' b o (Nat.ne_of_lt (Nat.lt_succ_of_lt (Heap.lt_size e))) (k b o e)
    have z : hp.objs.size + 1 + 1 ≤ dx := by
      first
        | (simpa only [Heap.size_push] using dn)
        | exact dn
        | (have q := dn; rw [Heap.size_push, Heap.size_push] at q; exact q)
    exact ⟨rfl, hq h' tk' (hp.objs.size + 1) dx ⟨old, Nat.le_succ _, ⟨_, _, hx, rfl, rfl, rfl, rfl⟩, Nat.le_trans (Nat.le_trans (Nat.le_succ _) (Nat.le_succ _)) z, dne, hns⟩⟩
end
end EXl
namespace EXl
open PySem PySem.Spec PyProof.Rows L2
theorem relO_rs {v : V} {v' : Value} (r : RelV v v') (f : Str) : RelO (List.lookup f [("line", v)]) (if f = "line" then some v' else none) := by
  by_cases hw : f = "line"
  · subst hw
    rw [if_pos rfl]
    have q : List.lookup ("line" : Str) [(("line" : Str), v)] = some v := by simp [List.lookup]
    rw [q]
    exact r
  · rw [if_neg hw]
    have qw : (f == ("line" : Str)) = false := by simpa using hw
    have q2 : List.lookup f [(("line" : Str), v)] = none := by simp [List.lookup, qw]
    rw [q2]
    trivial
section
variable {X : Cx} {C D fI cc : Addr} {x : Str}
/-- C(e, ..): its own dict is new and holds the fields -/
def tMkR (C : Addr) (ta : TA) : L2.St → Hp → XK → Prop := fun σ H Q => ta σ H fun vs H1 => ∃ v, vs = [v] ∧ ∀ d, H1 d = none → Q (.ref C) (some d) (upd H1 d (.xd [(("line" : Str), v)]))
theorem pmk_rs {a : Expr} {ta : TA} {p pos : Pos} {k : Nat} (T : RsTxt X.prog X.K X.mg C D fI cc) (hr : Room k X.A) (ha : PA X [a] ta) (hm : X.mg x = some (.ref C)) (hg : Gl X x := by rfl)
    (hdb : (x == ("__debug__" : Str)) = false := by decide)
    (he : starEach (a :: []) X.env = (false, eval a X.env) :: starEach [] X.env := by rfl) (hpl : (backTo pos (starEach [] X.env)).any (·.1) = false := by rfl) :
    PMk X (.Call (.Name x p) [a] [] pos) (tMkR C ta) := by
  intro pins s σ H Q I h
  refine wpAny_Call_Name_kw (ld_glob I hg hm ?_ hdb)
  refine PySem.W.callWith_K (h₀ := X.base) I.ok.mod.kin T.kC (thn (ha.run pos pins s σ H _ I h) fun us s1 hh => ?_) he hpl
  obtain ⟨vs, H1, I1, r1, v, ev, q1⟩ := hh
  subst ev
  refine ⟨I1.kIn, ?_⟩
  cases r1 with
  | cons rv rn =>
    rename_i v' us'
    cases rn
    show wpAny _ _ (call (.ref C) [v']) _ _ _
    have hlim := I1.nolimit
    have hG : s1.heap.Ns mainGlobals X.mg := I1.ok.mod.glob.keeps I1.bk
    have hB : ∃ mb, s1.heap.Ns builtinsNs mb ∧ ∀ y : Str, y ≠ "__name__" → mb y = bootBuiltins y := by
      obtain ⟨mb, hb, hm⟩ := I1.ok.mod.blt
      exact ⟨mb, hb.keeps I1.bk, hm⟩
    obtain ⟨hp, g, dr, tk, os⟩ := s1
    refine wpAny_call (reason_made T I1.kIn hG hB hlim (by have := hr.dp; omega) fun h' tk' e d M => ?_)
    show MkP X pins σ Q (.ref e) ⟨h', g, dr, tk', os⟩
    obtain ⟨oe, fv, hoe, hc, hd, hdat, h1⟩ := M.obj
    have hns := M.ns
    obtain ⟨G', g1, g2⟩ := restrict h' fun b => decide (b ≠ e)
    have gk : ∀ b, b ≠ e → G'.get? b = h'.get? b := fun b hb => g1 b (decide_eq_true hb)
    have ge : G'.get? e = none := g2 e (by simp)
    have old : ∀ b o, hp.get? b = some o → G'.get? b = some o := fun b o q => (gk b (Nat.ne_of_lt (Nat.lt_of_lt_of_le (Heap.lt_size q) M.new))).trans (M.keep b o q)
    have ob : ObjOk X.prog X.w (upd H1 d (.xd [(("line" : Str), v)])) G' d (.xd [(("line" : Str), v)]) :=
      ⟨_, hns.at (fun o q => (gk d M.dne).trans q), fun f => relO_rs rv f⟩
    have J : Inv X pins σ (upd H1 d (.xd [(("line" : Str), v)])) ⟨G', g, dr, tk', os⟩ := I1.laid (t' := tk') old M.dbig ob
    refine ⟨e, oe, fv, ⟨G', g, dr, tk', os⟩, _, .ref C, some d, rfl, J, fun b o q => ?_, ge, hoe, ⟨hc, hd⟩, hdat, h1, ?_, rfl, I1.bare, raises_own T.exC T.tyC, q1 d (I1.hok.fresh M.dbig)⟩
    · by_cases hb : b = e
      · have q' : G'.get? b = some o := q
        rw [hb, ge] at q'; cases q'
      · exact (gk b hb).symm.trans q
    · rw [upd_ne (Ne.symm M.dne)]
      exact I1.hok.fresh M.new
/-- raise C(e, ..) -/
def tRaiseR (C : Addr) (W : WX) (ta : TA) : TS := fun _ σ H => tMkR C ta σ H fun cls d H' => W cls d σ H'
theorem ps_raiseR {a : Expr} {ta : TA} {W : WX} {p pos pos2 : Pos} {k : Nat} (hc : X.calm = true) (T : RsTxt X.prog X.K X.mg C D fI cc) (hr : Room k X.A) (tk : Takes X W) (ha : PA X [a] ta) (hm : X.mg x = some (.ref C)) (hg : Gl X x := by rfl)
    (hdb : (x == ("__debug__" : Str)) = false := by decide)
    (he : starEach (a :: []) X.env = (false, eval a X.env) :: starEach [] X.env := by rfl) (hpl : (backTo pos (starEach [] X.env)).any (·.1) = false := by rfl) :
    PS X (.Raise (some (.Call (.Name x p) [a] [] pos)) none pos2) (tRaiseR C W ta) := ps_raise hc tk (pmk_rs T hr ha hm hg hdb he hpl)
end
end EXl
namespace EXl
open PySem PySem.Spec PyProof.Rows L2 He HX
/-- what is looked at of such a class at C, its __init__ from the class at D -/
def rsB (P : Program) (K : PySem.W.Frag) (C D : Addr) : Bool :=
  excB K C && (eqO (PySem.W.findIn K (.ref C) "__setattr__") (some (some (.builtin "object.__setattr__"))) && (eqO (PySem.W.findIn K (.ref C) "line") (some none) &&
  (eqO (PySem.W.findIn K (.ref C) "__init__") (some (some (.ref (ma K C "__init__")))) && (decide (PySem.W.typeIn K (.ref (ma K C "__init__")) = some (.type "function")) && (PySem.W.keepIn K (.ref C) &&
  (decide (PySem.W.subIn K (.ref C) (.type "BaseException") = some true) && (decide (PySem.W.subIn K (.ref C) (.type "ValueError") = some true) && (decide (PySem.W.typeIn K (.ref C) = some (.type "type")) &&
  ((PySem.W.clsIn K D).isSome && (decide (PySem.W.mroIn K C (.ref D) = some true) && (eqO (PySem.W.ks_superIn K C D "__init__") (some (some (.builtin "ValueError.__init__"))) &&
  (eqO (PySem.W.nsIn K mainGlobals "super") (some none) && (eqO (PySem.W.nsIn K cStatics "thirdparty.any") (some none) && (!(P.main.scope.names.lookup ("super" : Str)).isSome &&
  (match K.lookup (ccOf K (ma K C "__init__")) with
    | some ⟨_, _, .cell (some (.ref D')), _⟩ => decide (D' = D)
    | _ => false)))))))))))))))
/-- its __init__ as it stands -/
def inObs (P : Program) (K : PySem.W.Frag) (f : Addr) : InV := match K.lookup f with
  | some ⟨_, _, .func fd, _⟩ => some (fd.name, fd.qualname, fd.params, fd.body, fd.scope, fd.globals,
      (match fd.closure with
      | [(x, _)] => decide (x = ("__class__" : Str))
      | _ => false) && ((match fd.defaults with | .none => true | _ => false) && (match fd.kwdefaults with | .none => true | _ => false)),
      (match fd.code with
      | .ref cda => PySem.W.codeIn K (.ref cda) "CommandError.__init__" && (match K.lookup cda with
        | some ⟨_, _, .fields vs, _⟩ => (match (vs[2]? : Option Value) with
          | some (.str file _) => ((P.main.file : Str) == file)
          | _ => false)
        | _ => false)
      | _ => false), fd.builtins)
  | _ => none
/-- the positions of __init__'s text: i.q the body's, then the parameters' -/
def valI (i : InPos) : InV := some ("__init__", "CommandError.__init__", rA (i.q.getD 10 ⟨0, 0, 0, 0⟩) (i.q.getD 11 ⟨0, 0, 0, 0⟩), .stmts (rB (i.q.getD 0 ⟨0, 0, 0, 0⟩) (i.q.getD 1 ⟨0, 0, 0, 0⟩) (i.q.getD 2 ⟨0, 0, 0, 0⟩) (i.q.getD 3 ⟨0, 0, 0, 0⟩) (i.q.getD 4 ⟨0, 0, 0, 0⟩) (i.q.getD 5 ⟨0, 0, 0, 0⟩) (i.q.getD 6 ⟨0, 0, 0, 0⟩) (i.q.getD 7 ⟨0, 0, 0, 0⟩) (i.q.getD 8 ⟨0, 0, 0, 0⟩) (i.q.getD 9 ⟨0, 0, 0, 0⟩)), rS, mainGlobals, true, true, builtinsNs)
theorem rs_ok {P : Program} {K : PySem.W.Frag} {h : Heap} {mg : Str → Option Value} {C D : Addr} {i : InPos} (X : K.In h) (G : h.Ns mainGlobals mg) (hb : rsB P K C D = true) (hi : inObs P K (ma K C "__init__") = valI i)
    (hl : ((i.q.getD 2 ⟨0, 0, 0, 0⟩).endLine == (i.q.getD 4 ⟨0, 0, 0, 0⟩).line) = true) : RsTxt P K mg C D (ma K C "__init__") (ccOf K (ma K C "__init__")) := by
  obtain ⟨b1, hb⟩ := ba hb
  obtain ⟨b2, hb⟩ := ba hb
  obtain ⟨b3, hb⟩ := ba hb
  obtain ⟨b4, hb⟩ := ba hb
  obtain ⟨b5, hb⟩ := ba hb
  obtain ⟨b6, hb⟩ := ba hb
  obtain ⟨b7, hb⟩ := ba hb
  obtain ⟨b8, hb⟩ := ba hb
  obtain ⟨b9, hb⟩ := ba hb
  obtain ⟨b10, hb⟩ := ba hb
  obtain ⟨b11, hb⟩ := ba hb
  obtain ⟨b12, hb⟩ := ba hb
  obtain ⟨b13, hb⟩ := ba hb
  obtain ⟨b14, hb⟩ := ba hb
  obtain ⟨b15, b16⟩ := ba hb
  refine ⟨excB_ok b1, eqO_ok b2, eqO_ok b3, eqO_ok b4, of_decide_eq_true b5, b6, of_decide_eq_true b7, of_decide_eq_true b8, of_decide_eq_true b9, b10, of_decide_eq_true b11, eqO_ok b12, PySem.W.mg_none_of X G (eqO_ok b13), eqO_ok b14, by simpa using b15, ?_, ?_⟩
  · split at b16
    · rename_i cl cld D' csl ho
      have e : D' = D := of_decide_eq_true b16
      subst e
      exact ⟨_, _, _, ho⟩
    · cases b16
  · unfold inObs at hi
    split at hi
    · rename_i oc od fd osl ho
      obtain ⟨n1, n2, n3, n4, n5, n6, n7, n8, n9, n10, n11, n12, n13, n14, n15⟩ := fd
      have hi2 := Option.some.inj hi
      simp only [Prod.mk.injEq] at hi2
      obtain ⟨rfl, rfl, rfl, rfl, rfl, rfl, h7, h8, rfl⟩ := hi2
      obtain ⟨c1, c2⟩ := ba h7
      obtain ⟨c2, c3⟩ := ba c2
      have ecc : ∃ c, n7 = [(("__class__" : Str), c)] := by
        split at c1
        · rename_i x c
          have : x = ("__class__" : Str) := of_decide_eq_true c1
          subst this
          exact ⟨c, rfl⟩
        · cases c1
      obtain ⟨c, rfl⟩ := ecc
      have e8 : n8 = .none := by split at c2 <;> first | rfl | cases c2
      have e9 : n9 = .none := by split at c3 <;> first | rfl | cases c3
      subst e8 e9
      have hcc : ccOf K (ma K C "__init__") = c := by
        unfold ccOf
        rw [ho]
      rw [hcc]
      split at h8
      · rename_i cda
        obtain ⟨d1, d2⟩ := ba h8
        split at d2
        · rename_i ccl cdd vs ccs hoc
          split at d2
          · rename_i file tf hv
            exact ⟨oc, od, n10, n11, n12, cda, n14, osl, _, _, _, _, _, _, _, _, _, _, _, _, ccl, cdd, vs, ccs, file, tf, ho, d1, hoc, hv, d2, hl⟩
          · cases d2
        · cases d2
      · cases h8
    · cases hi
end EXl
namespace EXn
open PySem PySem.W PySem.Calls PyProof.Rows PySem.HandSPX
def rA (p0 p1 p2 : Pos) : Arguments := { posonlyargs := [], args := [{ arg := "self", annotation := none, pos := p0 }, { arg := "number", annotation := none, pos := p1 }, { arg := "reason", annotation := none, pos := p2 }], vararg := none, kwonlyargs := [], kw_defaults := [], kwarg := none, defaults := [] }
def rB (q1 q2 q3 q4 q5 q6 q7 q8 q9 q10 q11 q12 q13 q14 q15 : Pos) : List Stmt :=
  [.Expr (.Call (.Attribute (.Call (.Name "super" q1) [] [] q2) "__init__" q3) [.Name "number" q4, .Name "reason" q5] [] q6) q7,
   .Assign [.Attribute (.Name "self" q8) "number" q9] (.Name "number" q10) q11,
   .Assign [.Attribute (.Name "self" q12) "reason" q13] (.Name "reason" q14) q15]
def rS : Scope := { kind := .function, names := [(PySem.Str.ofString "self", .local), (PySem.Str.ofString "number", .local), (PySem.Str.ofString "reason", .local), (PySem.Str.ofString "__class__", .free), (PySem.Str.ofString "super", .globalImplicit)], isGenerator := false, isCoroutine := false, more := [] }
/-- what the written part says of an error class at C that has its __init__ from the class at D (fI, its class cell at cc) -/
structure RsTxt (P : Program) (K : Frag) (mg : Str → Option Value) (C D fI cc : Addr) : Prop where
  cls : ∃ nm q N bs bm sn sub ab col dd k0 k1 k2 k3 k5, K.lookup C = some (excClassObj nm q C N bs bm true sn sub ab col dd k0 k1 k2 k3 k5 "ValueError.__new__") ∧ refsVE bm = true
  sa : findIn K (.ref C) "__setattr__" = some (some (.builtin "object.__setattr__"))
  noN1 : findIn K (.ref C) "number" = some none
  noN2 : findIn K (.ref C) "reason" = some none
  iC : findIn K (.ref C) "__init__" = some (some (.ref fI))
  tI : typeIn K (.ref fI) = some (.type "function")
  kC : keepIn K (.ref C) = true
  exC : subIn K (.ref C) (.type "BaseException") = some true
  veC : subIn K (.ref C) (.type "ValueError") = some true
  tyC : typeIn K (.ref C) = some (.type "type")
  hD : (clsIn K D).isSome = true
  sub : mroIn K C (.ref D) = some true
  up : ks_superIn K C D "__init__" = some (some (.builtin "ValueError.__init__"))
  sup : mg "super" = none
  third : nsIn K cStatics "thirdparty.any" = some none
  top : (P.main.scope.names.lookup ("super" : Str)).isSome = false
  cell : ∃ cl cld csl, K.lookup cc = some ⟨cl, cld, .cell (some (.ref D)), csl⟩
  fn : ∃ (oc : Value) (od : Option Addr) (doc pm : Value) (an : Option Addr) (cda : Addr) (ct : Value) (osl : Array (Option Value)) (p0 p1 p2 q1 q2 q3 q4 q5 q6 q7 q8 q9 q10 q11 q12 q13 q14 q15 : Pos) (ccl : Value) (cdd : Option Addr) (vs : Array Value) (ccs : Array (Option Value)) (file : Str) (tf : Tok),
    K.lookup fI = some ⟨oc, od, .func (ksFn "__init__" "LogError.__init__" (rA p0 p1 p2) (rB q1 q2 q3 q4 q5 q6 q7 q8 q9 q10 q11 q12 q13 q14 q15) rS .none .none doc pm an (.ref cda) ct cc), osl⟩ ∧ codeIn K (.ref cda) "LogError.__init__" = true ∧
    K.lookup cda = some ⟨ccl, cdd, .fields vs, ccs⟩ ∧ vs[2]? = some (.str file tf) ∧ ((P.main.file : Str) == file) = true ∧ (q3.endLine == q6.line) = true
/-- what __init__ leaves of a fresh error at x -/
structure InitEnd (h h' : Heap) (x C dx t1 : Addr) (v u : Value) : Prop where
  keep : ∀ b o, b ≠ x → h.get? b = some o → h'.get? b = some o
  obj : h'.get? x = some { cls := .ref C, dict := some dx, data := .fields #[.ref t1, .none, .none, .none, .bool false, .none] }
  dbig : h.objs.size ≤ dx
  dne : dx ≠ x
  ns : h'.Ns1 dx (fun y => if y = "reason" then some u else if y = "number" then some v else none)
section
variable {prog : Program} {w : World} {A : Around} {E : Value → Shared → Prop} {R : Result → Shared → Prop} {s : Shared} {K : Frag} {mg : Str → Option Value} {C D fI cc : Addr}
theorem reason_init (T : RsTxt prog K mg C D fI cc) {x t0 : Addr} {v u : Value} (X : K.In s.heap) (G : s.heap.Ns mainGlobals mg) (B : ∃ mb, s.heap.Ns builtinsNs mb ∧ ∀ y : Str, y ≠ "__name__" → mb y = bootBuiltins y)
    (hlim : s.heap.NoLimit) (hx : s.heap.get? x = some (excO C t0)) (hnx : K.lookup x = none) (hroom : A.depth < recursionLimit)
    (hq : ∀ h' tk dx t1, InitEnd s.heap h' x C dx t1 v u → R (.ok (.ret .none)) { s with heap := h', toks := tk }) :
    codeAny (model prog w) A (.call (.ref fI) ⟨[.ref x, v, u], []⟩) R s := by
  obtain ⟨oc, od, doc, pm, an, cda, ct, osl, p0, p1, p2, q1, q2, q3, q4, q5, q6, q7, q8, q9, q10, q11, q12, q13, q14, q15, ccl, cdd, vs, ccs, file, tf, ho, hcd, hcode, hvs, hfile, hline⟩ := T.fn
  obtain ⟨nm, q, N, bs, bm, sn, sub, ab, col, dd, k0, k1, k2, k3, k5, hC, hbm⟩ := T.cls
  obtain ⟨cl, cld, csl, hcell⟩ := T.cell
  obtain ⟨mb, hB, hmb⟩ := B
  have hcl : clsIn K C = some { name := nm, bases := bs, mro := .ref C :: bm, ns := N, qualname := q, hasDict := true, slotNames := sn, subclasses := sub, abstract := ab, collection := col, hasDel := false } := by unfold clsIn; rw [hC] <;> rfl
  have hxC : x ≠ C := fun z => by rw [z, hC] at hnx; cases hnx
  refine ks_codeAny_call_defAt (fd := ksFn "__init__" "LogError.__init__" (rA p0 p1 p2) (rB q1 q2 q3 q4 q5 q6 q7 q8 q9 q10 q11 q12 q13 q14 q15) rS .none .none doc pm an (.ref cda) ct cc) (binds := [("self", .ref x), ("number", v), ("reason", u)]) hroom (X _ _ ho) rfl hlim (codeRec_of X hcd) rfl
    (BindsTo.of_eq (by first | rfl | with_unfolding_all rfl)) (fun y hy => (show ∀ y ∈ rS.names, y.2 ≠ .cell by decide) y hy) (by
      intro y hy
      simp only [List.mem_cons, List.not_mem_nil, or_false] at hy
      rcases hy with rfl | rfl | rfl <;> rfl) (fun h₀ hns kp => ?_)
  have X₀ : K.In h₀ := X.keeps kp
  have hx₀ := kp _ _ hx
  refine ks_wpAt_execs_cons (ks_wpAt_Expr_any (ks_wpAt_MethodCall ?_ (EX.mc_two hline rfl)))
  refine ks_wpAt_super_base (ar := { arg := "self", annotation := none, pos := p0 }) (by rfl) (by rfl) (by decide) rfl (X₀ _ _ ho) rfl rfl rfl (X₀ _ _ hcode) rfl hvs hfile T.top ?_
  refine ks_loadName_global (by rfl) (by rfl) (loadGlobal_builtin (G.keeps kp) T.sup (hB.keeps kp) ((hmb _ (by decide)).trans (by first | boot_by_name | rfl | kernel_rfl)) ⟨rfl, ?_⟩)
  refine wpAny_loadName_free (by rfl) (by rfl) rfl ⟨_, X₀ _ _ hcell, rfl⟩ ?_
  refine wpAny_loadName_local (by rfl) (by rfl) hns (by first | rfl | decide) ?_
  obtain ⟨cdD, hcD⟩ := Option.isSome_iff_exists.mp T.hD
  obtain ⟨oD, hD1, hD2⟩ : ∃ oD, h₀.get? D = some oD ∧ oD.data = .cls cdD := by
    unfold clsIn at hcD
    split at hcD
    · rename_i c' d' cd' sl' ho'
      cases hcD
      exact ⟨_, X₀ _ _ ho', rfl⟩
    · cases hcD
  refine ks_wpAny_isType_cls hD1 hD2 ⟨rfl, ?_⟩
  refine ks_wpAny_call_super hD1 hD2 hx₀ rfl (fun c e => by cases e) (looks_mroIn X₀ T.sub) (fun h₁ hso k₁ => ?_)
  have X₁ : K.In h₁ := X₀.keeps k₁
  have hx₁ := k₁ _ _ hx₀
  have I₁ : InstAt h₁ x (excO C t0) C none := ⟨hx₁, rfl, rfl, trivial⟩
  have hve : Looks (model prog w) h₁ (isInstance (.ref x) (.type "ValueError")) true := I₁.type.andThen (looks_subIn X₁ T.veC)
  have hup : alongIn K "__init__" (((Value.ref C :: bm).dropWhile (· != .ref D)).drop 1) = some (some (.builtin "ValueError.__init__")) := by
    have z := T.up
    unfold ks_superIn at z
    rw [hcl] at z
    exact z
  refine kxs_getMethod kxs_ValueError hso (looks_opaque X₁ T.third) (l₀ := Value.ref C :: bm) ((looks_clsIn X₁ hcl).andThen .now) rfl X₁ hup hve hxC (by decide) ?_
  have hx₂ : (h₁.push (kxs_mw "ValueError.__init__" x)).get? x = some (excO C t0) := Heap.get?_push_of_some _ hx₁
  have hu₂ : (h₁.push (kxs_mw "ValueError.__init__" x)).get? h₁.objs.size = some (kxs_mw "ValueError.__init__" x) := Heap.get?_push_size _ rfl
  have k₂ : ∀ b o, h₀.get? b = some o → (h₁.push (kxs_mw "ValueError.__init__" x)).get? b = some o := fun b o e => Heap.get?_push_of_some _ (k₁ b o e)
  have X₂ := X₀.keeps k₂
  refine kxs_callWith (i := "ValueError.__init__") (x := x) rfl ?_
  refine evalArgs_plain ?_
  have hn₂ := hns.keeps k₂
  refine Calls.spliced_cons ?_
  refine wpAny_Name (wpAny_loadName_local (by rfl) (by rfl) hn₂ (v := v) (by first | rfl | decide) ?_) (by decide)
  refine Calls.spliced_cons ?_
  refine wpAny_Name (wpAny_loadName_local (by rfl) (by rfl) hn₂ (v := u) (by first | rfl | decide) ?_) (by decide)
  refine Calls.spliced_nil ⟨hu₂, ?_⟩
  refine HX.bound_init (t0 := t0) (X₂ _ _ hC) hx₂ hu₂ (EX.two_ok v u) (fun h₃ t1 k₃ hx₃ hz₃ => ?_)
  have kn : ∀ b o, b ≠ x → h₀.get? b = some o → h₃.get? b = some o := fun b o hb e => k₃ b o hb (k₂ b o e)
  have X₃ : K.In h₃ := fun b o e => kn b o (fun z => by rw [z, hnx] at e; cases e) (X₀ b o e)
  have xL : s.heap.objs.size ≠ x := Nat.ne_of_gt (Heap.lt_size hx)
  have hn₃ : h₃.Ns s.heap.objs.size fun y => List.lookup y [(Str.ofString "self", Value.ref x), (Str.ofString "number", v), (Str.ofString "reason", u)].reverse := by
    obtain ⟨oL, es, ep, hL, r⟩ := hns
    exact ⟨oL, es, ep, kn _ _ xL hL, r⟩
  show _root_.PySem.wpAt _ _ _ (execs _ _) _ _ _
  refine ks_wpAt_execs_cons (ks_wpAt_Assign_Attr ?_)
  refine wpAt_of_wpAny (wpAny_Name (wpAny_loadName_local (by rfl) (by rfl) hn₃ (v := v) (by first | rfl | decide) ?_) (by decide))
  refine wpAny_Name (wpAny_loadName_local (by rfl) (by rfl) hn₃ (v := .ref x) (by first | rfl | decide) ?_) (by decide)
  refine set_plain X₃ (ox := excO C t1) (od := none) ⟨hx₃, rfl, rfl, trivial⟩ T.sa ?_
  refine exc_osa X₃ hx₃ hcl (show refsVE (.ref C :: bm) = true from hbm) rfl T.noN1 (fun h₄ tk₄ dx k₄ dn dne hx₄ hn₄ => ?_)
  have X₄ : K.In h₄ := fun b o e => k₄ b o (fun z => by rw [z, hnx] at e; cases e) (X₃ b o e)
  have hn₄' : h₄.Ns s.heap.objs.size fun y => List.lookup y [(Str.ofString "self", Value.ref x), (Str.ofString "number", v), (Str.ofString "reason", u)].reverse := by
    obtain ⟨oL, es, ep, hL, r⟩ := hn₃
    exact ⟨oL, es, ep, k₄ _ _ xL hL, r⟩
  have dbig : s.heap.objs.size < dx := Nat.lt_of_lt_of_le hn₃.lt dn
  obtain ⟨oD, esD, epD, hoD, hdD, _⟩ := hn₄.count (Within.cons "number" v Within.nil)
  refine ks_wpAt_execs_cons (ks_wpAt_Assign_Attr ?_)
  refine wpAt_of_wpAny (wpAny_Name (wpAny_loadName_local (by rfl) (by rfl) hn₄' (v := u) (by first | rfl | decide) ?_) (by decide))
  refine wpAny_Name (wpAny_loadName_local (by rfl) (by rfl) hn₄' (v := .ref x) (by first | rfl | decide) ?_) (by decide)
  refine set_plain X₄ (ox := { cls := .ref C, dict := some dx, data := .fields #[.ref t1, .none, .none, .none, .bool false, .none] }) (od := some oD) ⟨hx₄, rfl, rfl, hoD⟩ T.sa ?_
  refine OEX.osa_old X₄ hx₄ hn₄ (Within.cons "number" v Within.nil) (by decide) hcl (show refsVE (.ref C :: bm) = true from hbm) rfl T.noN2 (fun h₅ tk₅ k₅ hn₅ => ?_)
  refine wpAt_of_wpAny (wpAny_execs_nil ?_)
  exact hq h₅ tk₅ dx t1 ⟨fun b o hb e => k₅ b o (Nat.ne_of_lt (Nat.lt_trans (Heap.lt_size e) dbig)) (k₄ b o hb (kn b o hb (kp b o e))), k₅ _ _ (Ne.symm dne) hx₄, Nat.le_of_lt dbig, dne, hn₅⟩
/-- a made error -/
structure Made (h h' : Heap) (e C d : Addr) (v u : Value) : Prop where
  keep : ∀ b o, h.get? b = some o → h'.get? b = some o
  new : h.objs.size ≤ e
  obj : ∃ oe vs, h'.get? e = some oe ∧ oe.cls = .ref C ∧ oe.dict = some d ∧ oe.data = .fields vs ∧ vs[1]? = some .none
  dbig : h.objs.size ≤ d
  dne : d ≠ e
  ns : h'.Ns1 d (fun y => if y = "reason" then some u else if y = "number" then some v else none)
theorem reason_made (T : RsTxt prog K mg C D fI cc) {v u : Value} (X : K.In s.heap) (G : s.heap.Ns mainGlobals mg) (B : ∃ mb, s.heap.Ns builtinsNs mb ∧ ∀ y : Str, y ≠ "__name__" → mb y = bootBuiltins y)
    (hlim : s.heap.NoLimit) (hroom : A.depth + 1 < recursionLimit)
    (hq : ∀ h' tk e d, Made s.heap h' e C d v u → R (.ok (.ret (.ref e))) { s with heap := h', toks := tk }) :
    codeAny (model prog w) A (.call (.ref C) ⟨[v, u], []⟩) R s := by
  obtain ⟨nm, q, N, bs, bm, sn, sub, ab, col, dd, k0, k1, k2, k3, k5, hC, hbm⟩ := T.cls
  obtain ⟨hp, g, dr, tk, os⟩ := s
  have k : ∀ b o, hp.get? b = some o → ((hp.push (kdv_tup [v, u])).push (excO C hp.objs.size)).get? b = some o := fun b o e => Heap.get?_push_of_some _ (Heap.get?_push_of_some _ e)
  have hget : ((hp.push (kdv_tup [v, u])).push (excO C hp.objs.size)).get? (hp.objs.size + 1) = some (excO C hp.objs.size) := by heap_get
  have hnx : K.lookup (hp.objs.size + 1) = none := by
    cases e : K.lookup (hp.objs.size + 1) with
    | none => rfl
    | some o =>
      have z : hp.get? (hp.objs.size + 1) = some o := X _ _ e
      exact absurd (Nat.lt_of_succ_lt (Heap.lt_size z)) (Nat.lt_irrefl _)
  refine call_own F.excBase_ValueError (fun X => refsVE_contains X bm hbm) (X _ _ hC) (looks_findIn X T.iC) (fun self => bind_fn X self T.tI) (EX.two_ok v u) ?_
  obtain ⟨mb, hB, hmb⟩ := B
  refine reason_init (s := ⟨(hp.push (kdv_tup [v, u])).push (excO C hp.objs.size), g, dr, tk, os⟩) T (X.keeps k) (G.keeps k) ⟨mb, hB.keeps k, hmb⟩ (hlim.keeps k) hget hnx ?_ fun h' tk' dx t1 ⟨k', hx, dn, dne, hns⟩ => ?_
  · show A.depth + 1 < recursionLimit
    exact hroom
  · have old : ∀ b o, hp.get? b = some o → h'.get? b = some o := fun b o e => k' b o (Nat.ne_of_lt (Nat.lt_succ_of_lt (Heap.lt_size e))) (k b o e)
    have z : hp.objs.size + 1 + 1 ≤ dx := by
      first
        | (simpa only [Heap.size_push] using dn)
        | exact dn
        | (have q := dn; rw [Heap.size_push, Heap.size_push] at q; exact q)
    exact ⟨rfl, hq h' tk' (hp.objs.size + 1) dx ⟨old, Nat.le_succ _, ⟨_, _, hx, rfl, rfl, rfl, rfl⟩, Nat.le_trans (Nat.le_trans (Nat.le_succ _) (Nat.le_succ _)) z, dne, hns⟩⟩
end
end EXn
namespace EXn
open PySem PySem.Spec PyProof.Rows L2
theorem relO_rs {v u : V} {v' u' : Value} (r : RelV v v') (r2 : RelV u u') (f : Str) : RelO (List.lookup f [(("number" : Str), v), (("reason" : Str), u)]) (if f = "reason" then some u' else if f = "number" then some v' else none) := by
  by_cases hw : f = "reason"
  · subst hw
    rw [if_pos rfl]
    have q : List.lookup ("reason" : Str) [(("number" : Str), v), (("reason" : Str), u)] = some u := by rfl
    rw [q]
    exact r2
  · rw [if_neg hw]
    by_cases hw2 : f = "number"
    · subst hw2
      rw [if_pos rfl]
      have q : List.lookup ("number" : Str) [(("number" : Str), v), (("reason" : Str), u)] = some v := by rfl
      rw [q]
      exact r
    · rw [if_neg hw2]
      have qw : (f == ("number" : Str)) = false := by simpa using hw2
      have qw2 : (f == ("reason" : Str)) = false := by simpa using hw
      have q2 : List.lookup f [(("number" : Str), v), (("reason" : Str), u)] = none := by simp [List.lookup, qw, qw2]
      rw [q2]
      trivial
section
variable {X : Cx} {C D fI cc : Addr} {x : Str}
/-- C(e, ..): its own dict is new and holds the fields -/
def tMkR (C : Addr) (ta : TA) : L2.St → Hp → XK → Prop := fun σ H Q => ta σ H fun vs H1 => ∃ v u, vs = [v, u] ∧ ∀ d, H1 d = none → Q (.ref C) (some d) (upd H1 d (.xd [(("number" : Str), v), (("reason" : Str), u)]))
theorem pmk_rs {a b : Expr} {ta : TA} {p pos : Pos} {k : Nat} (T : RsTxt X.prog X.K X.mg C D fI cc) (hr : Room k X.A) (ha : PA X [a, b] ta) (hm : X.mg x = some (.ref C)) (hg : Gl X x := by rfl)
    (hdb : (x == ("__debug__" : Str)) = false := by decide)
    (he : starEach (a :: [b]) X.env = (false, eval a X.env) :: starEach [b] X.env := by rfl) (hpl : (backTo pos (starEach [b] X.env)).any (·.1) = false := by rfl) :
    PMk X (.Call (.Name x p) [a, b] [] pos) (tMkR C ta) := by
  intro pins s σ H Q I h
  refine wpAny_Call_Name_kw (ld_glob I hg hm ?_ hdb)
  refine PySem.W.callWith_K (h₀ := X.base) I.ok.mod.kin T.kC (thn (ha.run pos pins s σ H _ I h) fun us s1 hh => ?_) he hpl
  obtain ⟨vs, H1, I1, r1, v, u, ev, q1⟩ := hh
  subst ev
  refine ⟨I1.kIn, ?_⟩
  cases r1 with
  | cons rv rn =>
    rename_i v' us'
    cases rn with
    | cons rv2 rn =>
    rename_i u' us'
    cases rn
    show wpAny _ _ (call (.ref C) [v', u']) _ _ _
    have hlim := I1.nolimit
    have hG : s1.heap.Ns mainGlobals X.mg := I1.ok.mod.glob.keeps I1.bk
    have hB : ∃ mb, s1.heap.Ns builtinsNs mb ∧ ∀ y : Str, y ≠ "__name__" → mb y = bootBuiltins y := by
      obtain ⟨mb, hb, hm⟩ := I1.ok.mod.blt
      exact ⟨mb, hb.keeps I1.bk, hm⟩
    obtain ⟨hp, g, dr, tk, os⟩ := s1
    refine wpAny_call (reason_made T I1.kIn hG hB hlim (by have := hr.dp; omega) fun h' tk' e d M => ?_)
    show MkP X pins σ Q (.ref e) ⟨h', g, dr, tk', os⟩
    obtain ⟨oe, fv, hoe, hc, hd, hdat, h1⟩ := M.obj
    have hns := M.ns
    obtain ⟨G', g1, g2⟩ := restrict h' fun b => decide (b ≠ e)
    have gk : ∀ b, b ≠ e → G'.get? b = h'.get? b := fun b hb => g1 b (decide_eq_true hb)
    have ge : G'.get? e = none := g2 e (by simp)
    have old : ∀ b o, hp.get? b = some o → G'.get? b = some o := fun b o q => (gk b (Nat.ne_of_lt (Nat.lt_of_lt_of_le (Heap.lt_size q) M.new))).trans (M.keep b o q)
    have ob : ObjOk X.prog X.w (upd H1 d (.xd [(("number" : Str), v), (("reason" : Str), u)])) G' d (.xd [(("number" : Str), v), (("reason" : Str), u)]) :=
      ⟨_, hns.at (fun o q => (gk d M.dne).trans q), fun f => relO_rs rv rv2 f⟩
    have J : Inv X pins σ (upd H1 d (.xd [(("number" : Str), v), (("reason" : Str), u)])) ⟨G', g, dr, tk', os⟩ := I1.laid (t' := tk') old M.dbig ob
    refine ⟨e, oe, fv, ⟨G', g, dr, tk', os⟩, _, .ref C, some d, rfl, J, fun b o q => ?_, ge, hoe, ⟨hc, hd⟩, hdat, h1, ?_, rfl, I1.bare, raises_own T.exC T.tyC, q1 d (I1.hok.fresh M.dbig)⟩
    · by_cases hb : b = e
      · have q' : G'.get? b = some o := q
        rw [hb, ge] at q'; cases q'
      · exact (gk b hb).symm.trans q
    · rw [upd_ne (Ne.symm M.dne)]
      exact I1.hok.fresh M.new
/-- raise C(e, ..) -/
def tRaiseR (C : Addr) (W : WX) (ta : TA) : TS := fun _ σ H => tMkR C ta σ H fun cls d H' => W cls d σ H'
theorem ps_raiseR {a b : Expr} {ta : TA} {W : WX} {p pos pos2 : Pos} {k : Nat} (hc : X.calm = true) (T : RsTxt X.prog X.K X.mg C D fI cc) (hr : Room k X.A) (tk : Takes X W) (ha : PA X [a, b] ta) (hm : X.mg x = some (.ref C)) (hg : Gl X x := by rfl)
    (hdb : (x == ("__debug__" : Str)) = false := by decide)
    (he : starEach (a :: [b]) X.env = (false, eval a X.env) :: starEach [b] X.env := by rfl) (hpl : (backTo pos (starEach [b] X.env)).any (·.1) = false := by rfl) :
    PS X (.Raise (some (.Call (.Name x p) [a, b] [] pos)) none pos2) (tRaiseR C W ta) := ps_raise hc tk (pmk_rs T hr ha hm hg hdb he hpl)
end
end EXn
namespace EXn
open PySem PySem.Spec PyProof.Rows L2 He HX
/-- what is looked at of such a class at C, its __init__ from the class at D -/
def rsB (P : Program) (K : PySem.W.Frag) (C D : Addr) : Bool :=
  excB K C && (eqO (PySem.W.findIn K (.ref C) "__setattr__") (some (some (.builtin "object.__setattr__"))) && (eqO (PySem.W.findIn K (.ref C) "number") (some none) && (eqO (PySem.W.findIn K (.ref C) "reason") (some none) &&
  (eqO (PySem.W.findIn K (.ref C) "__init__") (some (some (.ref (ma K C "__init__")))) && (decide (PySem.W.typeIn K (.ref (ma K C "__init__")) = some (.type "function")) && (PySem.W.keepIn K (.ref C) &&
  (decide (PySem.W.subIn K (.ref C) (.type "BaseException") = some true) && (decide (PySem.W.subIn K (.ref C) (.type "ValueError") = some true) && (decide (PySem.W.typeIn K (.ref C) = some (.type "type")) &&
  ((PySem.W.clsIn K D).isSome && (decide (PySem.W.mroIn K C (.ref D) = some true) && (eqO (PySem.W.ks_superIn K C D "__init__") (some (some (.builtin "ValueError.__init__"))) &&
  (eqO (PySem.W.nsIn K mainGlobals "super") (some none) && (eqO (PySem.W.nsIn K cStatics "thirdparty.any") (some none) && (!(P.main.scope.names.lookup ("super" : Str)).isSome &&
  (match K.lookup (ccOf K (ma K C "__init__")) with
    | some ⟨_, _, .cell (some (.ref D')), _⟩ => decide (D' = D)
    | _ => false))))))))))))))))
/-- its __init__ as it stands -/
def inObs (P : Program) (K : PySem.W.Frag) (f : Addr) : InV := match K.lookup f with
  | some ⟨_, _, .func fd, _⟩ => some (fd.name, fd.qualname, fd.params, fd.body, fd.scope, fd.globals,
      (match fd.closure with
      | [(x, _)] => decide (x = ("__class__" : Str))
      | _ => false) && ((match fd.defaults with | .none => true | _ => false) && (match fd.kwdefaults with | .none => true | _ => false)),
      (match fd.code with
      | .ref cda => PySem.W.codeIn K (.ref cda) "LogError.__init__" && (match K.lookup cda with
        | some ⟨_, _, .fields vs, _⟩ => (match (vs[2]? : Option Value) with
          | some (.str file _) => ((P.main.file : Str) == file)
          | _ => false)
        | _ => false)
      | _ => false), fd.builtins)
  | _ => none
/-- the positions of __init__'s text: i.q the body's, then the parameters' -/
def valI (i : InPos) : InV := some ("__init__", "LogError.__init__", rA (i.q.getD 15 ⟨0, 0, 0, 0⟩) (i.q.getD 16 ⟨0, 0, 0, 0⟩) (i.q.getD 17 ⟨0, 0, 0, 0⟩), .stmts (rB (i.q.getD 0 ⟨0, 0, 0, 0⟩) (i.q.getD 1 ⟨0, 0, 0, 0⟩) (i.q.getD 2 ⟨0, 0, 0, 0⟩) (i.q.getD 3 ⟨0, 0, 0, 0⟩) (i.q.getD 4 ⟨0, 0, 0, 0⟩) (i.q.getD 5 ⟨0, 0, 0, 0⟩) (i.q.getD 6 ⟨0, 0, 0, 0⟩) (i.q.getD 7 ⟨0, 0, 0, 0⟩) (i.q.getD 8 ⟨0, 0, 0, 0⟩) (i.q.getD 9 ⟨0, 0, 0, 0⟩) (i.q.getD 10 ⟨0, 0, 0, 0⟩) (i.q.getD 11 ⟨0, 0, 0, 0⟩) (i.q.getD 12 ⟨0, 0, 0, 0⟩) (i.q.getD 13 ⟨0, 0, 0, 0⟩) (i.q.getD 14 ⟨0, 0, 0, 0⟩)), rS, mainGlobals, true, true, builtinsNs)
theorem rs_ok {P : Program} {K : PySem.W.Frag} {h : Heap} {mg : Str → Option Value} {C D : Addr} {i : InPos} (X : K.In h) (G : h.Ns mainGlobals mg) (hb : rsB P K C D = true) (hi : inObs P K (ma K C "__init__") = valI i)
    (hl : ((i.q.getD 2 ⟨0, 0, 0, 0⟩).endLine == (i.q.getD 5 ⟨0, 0, 0, 0⟩).line) = true) : RsTxt P K mg C D (ma K C "__init__") (ccOf K (ma K C "__init__")) := by
  obtain ⟨b1, hb⟩ := ba hb
  obtain ⟨b2, hb⟩ := ba hb
  obtain ⟨b3, hb⟩ := ba hb
  obtain ⟨b4, hb⟩ := ba hb
  obtain ⟨b5, hb⟩ := ba hb
  obtain ⟨b6, hb⟩ := ba hb
  obtain ⟨b7, hb⟩ := ba hb
  obtain ⟨b8, hb⟩ := ba hb
  obtain ⟨b9, hb⟩ := ba hb
  obtain ⟨b10, hb⟩ := ba hb
  obtain ⟨b11, hb⟩ := ba hb
  obtain ⟨b12, hb⟩ := ba hb
  obtain ⟨b13, hb⟩ := ba hb
  obtain ⟨b14, hb⟩ := ba hb
  obtain ⟨b15, hb⟩ := ba hb
  obtain ⟨b16, b17⟩ := ba hb
  refine ⟨excB_ok b1, eqO_ok b2, eqO_ok b3, eqO_ok b4, eqO_ok b5, of_decide_eq_true b6, b7, of_decide_eq_true b8, of_decide_eq_true b9, of_decide_eq_true b10, b11, of_decide_eq_true b12, eqO_ok b13, PySem.W.mg_none_of X G (eqO_ok b14), eqO_ok b15, by simpa using b16, ?_, ?_⟩
  · split at b17
    · rename_i cl cld D' csl ho
      have e : D' = D := of_decide_eq_true b17
      subst e
      exact ⟨_, _, _, ho⟩
    · cases b17
  · unfold inObs at hi
    split at hi
    · rename_i oc od fd osl ho
      obtain ⟨n1, n2, n3, n4, n5, n6, n7, n8, n9, n10, n11, n12, n13, n14, n15⟩ := fd
      have hi2 := Option.some.inj hi
      simp only [Prod.mk.injEq] at hi2
      obtain ⟨rfl, rfl, rfl, rfl, rfl, rfl, h7, h8, rfl⟩ := hi2
      obtain ⟨c1, c2⟩ := ba h7
      obtain ⟨c2, c3⟩ := ba c2
      have ecc : ∃ c, n7 = [(("__class__" : Str), c)] := by
        split at c1
        · rename_i x c
          have : x = ("__class__" : Str) := of_decide_eq_true c1
          subst this
          exact ⟨c, rfl⟩
        · cases c1
      obtain ⟨c, rfl⟩ := ecc
      have e8 : n8 = .none := by split at c2 <;> first | rfl | cases c2
      have e9 : n9 = .none := by split at c3 <;> first | rfl | cases c3
      subst e8 e9
      have hcc : ccOf K (ma K C "__init__") = c := by
        unfold ccOf
        rw [ho]
      rw [hcc]
      split at h8
      · rename_i cda
        obtain ⟨d1, d2⟩ := ba h8
        split at d2
        · rename_i ccl cdd vs ccs hoc
          split at d2
          · rename_i file tf hv
            exact ⟨oc, od, n10, n11, n12, cda, n14, osl, _, _, _, _, _, _, _, _, _, _, _, _, _, _, _, _, _, _, ccl, cdd, vs, ccs, file, tf, ho, d1, hoc, hv, d2, hl⟩
          · cases d2
        · cases d2
      · cases h8
    · cases hi
end EXn

set_option Elab.async false
set_option linter.all false
set_option maxRecDepth 100000
set_option maxHeartbeats 4000000
/-! the Hook for a top with error classes of four shapes -/
namespace HX
open PySem PySem.Spec PyProof.Rows L2 He
structure HkE where
  P : Program
  fs : List Str
  cs : List Str
  fa : List Fa
  fn : List DefD
  er : List Str
  base : Str
  ea : Str
  el : Str
  en : Str
  root : Str
  ipr : InPos
  ipa : InPos
  ipl : InPos
  ipn : InPos
abbrev HkE.es (k : HkE) : List Str := k.er ++ [k.ea, k.en, k.el]
/-- isinstance and except between the classes xs; all of them over root and ValueError -/
def pairsB (K : PySem.W.Frag) (xs : List Str) (root : Str) : Bool :=
  (xs.all fun x => (xs.all fun y => decide (PySem.W.kitOne K (.ref (ga K x)) (.ref (ga K y)) = some (decide (x = y))) && decide (PySem.W.exmOne K (.ref (ga K x)) (.ref (ga K y)) = some (decide (x = y)))) &&
    (decide (PySem.W.kitOne K (.ref (ga K x)) (.type "ValueError") = some true) && decide (PySem.W.exmOne K (.ref (ga K x)) (.ref (ga K root)) = some true)))
abbrev AlE : Type := AlD × (Bool × Bool × Bool) × List InV
def HkE.bs (k : HkE) (K : PySem.W.Frag) : Bool × Bool × Bool :=
  ((k.er.all fun x => EXr.rsB k.P K (ga K x) (ga K k.base)) && (EXa.rsB k.P K (ga K k.ea) (ga K k.ea) && (EXn.rsB k.P K (ga K k.en) (ga K k.en) && EXl.rsB k.P K (ga K k.el) (ga K k.el))),
   k.es.all fun x => excCB K (ga K x) && xfB K (ga K x), pairsB K k.es k.root)
def HkE.ins (k : HkE) (K : PySem.W.Frag) : List InV :=
  [EXa.inObs k.P K (ma K (ga K k.ea) "__init__"), EXn.inObs k.P K (ma K (ga K k.en) "__init__"), EXl.inObs k.P K (ma K (ga K k.el) "__init__")] ++ k.er.map fun x => EXr.inObs k.P K (ma K (ga K x) "__init__")
def HkE.obsK (k : HkE) (K : PySem.W.Frag) : AlE := (obsD k.fa k.fn K, k.bs K, k.ins K)
def HkE.val (k : HkE) : AlE := (valD k.fn, (true, true, true), [EXa.valI k.ipa, EXn.valI k.ipn, EXl.valI k.ipl] ++ k.er.map fun _ => EXr.valI k.ipr)
def HkE.Says (k : HkE) (K : PySem.W.Frag) : Prop := k.obsK K = k.val
abbrev HkE.G (k : HkE) (g : Addr → Option Obj) : PySem.W.Frag := frG g (addrs g k.fs k.cs)
def HkE.obsG (k : HkE) (g : Addr → Option Obj) : AlE := k.obsK (k.G g)
def HkE.hook (k : HkE) : PySem.W.Hook where
  α := AlE
  obs := fun s => k.obsG s.heap.get?
  val := fun _ => k.val
  says := fun _ h => ∃ K : PySem.W.Frag, K.In h ∧ k.Says K
  of := fun _ _ e => ⟨_, frG_in, e⟩
  keeps := fun _ _ _ ⟨K, hK, c⟩ q => ⟨K, PySem.W.Frag.In.keeps hK q, c⟩
theorem HkE.obsG_eq (k : HkE) {g : Addr → Option Obj} {s : Shared} (h : ∀ a, g a = s.heap.get? a) : k.obsG g = k.hook.obs s := by
  have e : g = s.heap.get? := funext h
  rw [e]
  rfl
section
variable {k : HkE} {K : PySem.W.Frag}
theorem HkE.Says.d (c : k.Says K) : SaysD k.fa k.fn K := congrArg (fun z : AlE => z.1) c
theorem HkE.Says.b (c : k.Says K) : k.bs K = (true, true, true) := congrArg (fun z : AlE => z.2.1) c
theorem HkE.Says.i (c : k.Says K) : k.ins K = [EXa.valI k.ipa, EXn.valI k.ipn, EXl.valI k.ipl] ++ k.er.map fun _ => EXr.valI k.ipr := congrArg (fun z : AlE => z.2.2) c
theorem HkE.Says.b1 (c : k.Says K) : ((k.er.all fun x => EXr.rsB k.P K (ga K x) (ga K k.base)) && (EXa.rsB k.P K (ga K k.ea) (ga K k.ea) && (EXn.rsB k.P K (ga K k.en) (ga K k.en) && EXl.rsB k.P K (ga K k.el) (ga K k.el)))) = true := congrArg (fun z : Bool × Bool × Bool => z.1) c.b
theorem HkE.Says.b2 (c : k.Says K) : (k.es.all fun x => excCB K (ga K x) && xfB K (ga K x)) = true := congrArg (fun z : Bool × Bool × Bool => z.2.1) c.b
theorem HkE.Says.b3 (c : k.Says K) : pairsB K k.es k.root = true := congrArg (fun z : Bool × Bool × Bool => z.2.2) c.b
theorem HkE.Says.rs (c : k.Says K) {h : Heap} {mg : Str → Option Value} (X : K.In h) (G : h.Ns mainGlobals mg) {x : Str} (hx : x ∈ k.er) (hl : ((k.ipr.q.getD 2 ⟨0, 0, 0, 0⟩).endLine == (k.ipr.q.getD 4 ⟨0, 0, 0, 0⟩).line) = true) :
    EXr.RsTxt k.P K mg (ga K x) (ga K k.base) (ma K (ga K x) "__init__") (ccOf K (ma K (ga K x) "__init__")) := by
  have e : ∀ l : List Str, (l.map fun x => EXr.inObs k.P K (ma K (ga K x) "__init__")) = (l.map fun _ => EXr.valI k.ipr) → x ∈ l → EXr.inObs k.P K (ma K (ga K x) "__init__") = EXr.valI k.ipr := by
    intro l
    induction l with
    | nil => intro _ h; cases h
    | cons y l ih =>
      intro e h
      rw [List.map_cons, List.map_cons] at e
      obtain ⟨e1, e2⟩ := List.cons.inj e
      rcases List.mem_cons.mp h with rfl | h
      · exact e1
      · exact ih e2 h
  have ci := c.i
  unfold HkE.ins at ci
  have q := (List.append_inj ci rfl).2
  exact EXr.rs_ok X G (List.all_eq_true.mp (ba c.b1).1 x hx) (e _ q hx) hl
theorem HkE.Says.ra (c : k.Says K) {h : Heap} {mg : Str → Option Value} (X : K.In h) (G : h.Ns mainGlobals mg) (hl : ((k.ipa.q.getD 2 ⟨0, 0, 0, 0⟩).endLine == (k.ipa.q.getD 4 ⟨0, 0, 0, 0⟩).line) = true) :
    EXa.RsTxt k.P K mg (ga K k.ea) (ga K k.ea) (ma K (ga K k.ea) "__init__") (ccOf K (ma K (ga K k.ea) "__init__")) := by
  have ci := c.i
  unfold HkE.ins at ci
  exact EXa.rs_ok X G (ba (ba c.b1).2).1 (List.cons.inj (List.append_inj ci rfl).1).1 hl
theorem HkE.Says.rn (c : k.Says K) {h : Heap} {mg : Str → Option Value} (X : K.In h) (G : h.Ns mainGlobals mg) (hl : ((k.ipn.q.getD 2 ⟨0, 0, 0, 0⟩).endLine == (k.ipn.q.getD 5 ⟨0, 0, 0, 0⟩).line) = true) :
    EXn.RsTxt k.P K mg (ga K k.en) (ga K k.en) (ma K (ga K k.en) "__init__") (ccOf K (ma K (ga K k.en) "__init__")) := by
  have ci := c.i
  unfold HkE.ins at ci
  exact EXn.rs_ok X G (ba (ba (ba c.b1).2).2).1 (List.cons.inj (List.cons.inj (List.append_inj ci rfl).1).2).1 hl
theorem HkE.Says.rl (c : k.Says K) {h : Heap} {mg : Str → Option Value} (X : K.In h) (G : h.Ns mainGlobals mg) (hl : ((k.ipl.q.getD 2 ⟨0, 0, 0, 0⟩).endLine == (k.ipl.q.getD 4 ⟨0, 0, 0, 0⟩).line) = true) :
    EXl.RsTxt k.P K mg (ga K k.el) (ga K k.el) (ma K (ga K k.el) "__init__") (ccOf K (ma K (ga K k.el) "__init__")) := by
  have ci := c.i
  unfold HkE.ins at ci
  exact EXl.rs_ok X G (ba (ba (ba c.b1).2).2).2 (List.cons.inj (List.cons.inj (List.cons.inj (List.append_inj ci rfl).1).2).2).1 hl
theorem HkE.Says.exc (c : k.Says K) {x : Str} (hx : x ∈ k.es) : L2.ExcC K (ga K x) ∧ XfC K (ga K x) := by
  have b1 := List.all_eq_true.mp c.b2 x hx
  exact ⟨excCB_ok (ba b1).1, xfB_ok (ba b1).2⟩
theorem HkE.Says.pair (c : k.Says K) {x y : Str} (hx : x ∈ k.es) (hy : y ∈ k.es) : PySem.W.kitOne K (.ref (ga K x)) (.ref (ga K y)) = some (decide (x = y)) ∧ PySem.W.exmOne K (.ref (ga K x)) (.ref (ga K y)) = some (decide (x = y)) := by
  have b := List.all_eq_true.mp (ba (List.all_eq_true.mp c.b3 x hx)).1 y hy
  exact ⟨of_decide_eq_true (ba b).1, of_decide_eq_true (ba b).2⟩
theorem HkE.Says.one (c : k.Says K) {x : Str} (hx : x ∈ k.es) : PySem.W.kitOne K (.ref (ga K x)) (.type "ValueError") = some true ∧ PySem.W.exmOne K (.ref (ga K x)) (.ref (ga K k.root)) = some true := by
  have b := ba (List.all_eq_true.mp c.b3 x hx)
  exact ⟨of_decide_eq_true (ba b.2).1, of_decide_eq_true (ba b.2).2⟩
end
open PySem.W HandSHeadRun in
theorem join4 {k : HkE} {x : Option SharedT} (c : x.map (fun s => k.fa.all fun f => f.ok (k.G (getT s))) = some true)
    (h1 : x.map (fun s => ((k.fn.all fun d => d.ok (k.G (getT s))), k.fn.map fun d => fnW (k.G (getT s)) d.at_)) = some (true, k.fn.map DefD.val))
    (b1 : x.map (fun s => (k.bs (k.G (getT s))).1) = some true) (b2 : x.map (fun s => (k.bs (k.G (getT s))).2.1) = some true) (b3 : x.map (fun s => (k.bs (k.G (getT s))).2.2) = some true)
    (b4 : x.map (fun s => k.ins (k.G (getT s))) = some k.val.2.2) : x.map (fun s => k.obsG (getT s)) = some k.val := by
  cases x with
  | none => cases c
  | some s =>
    rw [Option.map_some] at c h1 b1 b2 b3 b4 ⊢
    have c := Option.some.inj c
    obtain ⟨p1, p2⟩ := Prod.mk.inj (Option.some.inj h1)
    refine congrArg some (Prod.ext (Prod.ext ?_ p2) (Prod.ext (Prod.ext (Option.some.inj b1) (Prod.ext (Option.some.inj b2) (Option.some.inj b3))) (Option.some.inj b4)))
    exact Bool.and_eq_true_iff.mpr ⟨c, p1⟩
end HX

set_option Elab.async false
set_option linter.all false
set_option maxRecDepth 100000
set_option maxHeartbeats 0
/-! the defs of the top by name, what the head tells of them -/
namespace K3
open PySem PySem.Spec PyProof.Rows L2 He HX
def topS (i : Nat) : Stmt := PySem.Challenge.pw_hangstogether_k03_errors_and_limits.main.body.getD i (.Pass ⟨0, 0, 0, 0⟩)
abbrev st__law_value : Stmt := topS 48
abbrev st__law_sorts : Stmt := topS 49
abbrev st__law_raise : Stmt := topS 50
abbrev st__law_caught : Stmt := topS 51
abbrev st__law_fields : Stmt := topS 52
abbrev st__law_limits_right : Stmt := topS 53
abbrev st_law : Stmt := topS 54
def dd__law_value : DefD := ⟨("_law_value", none), "_law_value", "_law_value", defArgs st__law_value, defBody st__law_value, defScope st__law_value, [], []⟩
def dd__law_sorts : DefD := ⟨("_law_sorts", none), "_law_sorts", "_law_sorts", defArgs st__law_sorts, defBody st__law_sorts, defScope st__law_sorts, [], []⟩
def dd__law_raise : DefD := ⟨("_law_raise", none), "_law_raise", "_law_raise", defArgs st__law_raise, defBody st__law_raise, defScope st__law_raise, [], []⟩
def dd__law_caught : DefD := ⟨("_law_caught", none), "_law_caught", "_law_caught", defArgs st__law_caught, defBody st__law_caught, defScope st__law_caught, [], []⟩
def dd__law_fields : DefD := ⟨("_law_fields", none), "_law_fields", "_law_fields", defArgs st__law_fields, defBody st__law_fields, defScope st__law_fields, [], []⟩
def dd__law_limits_right : DefD := ⟨("_law_limits_right", none), "_law_limits_right", "_law_limits_right", defArgs st__law_limits_right, defBody st__law_limits_right, defScope st__law_limits_right, [], []⟩
def dd_law : DefD := ⟨("law", none), "law", "law", defArgs st_law, defBody st_law, defScope st_law, [], []⟩
def fnL : List DefD := ([dd__law_value, dd__law_sorts, dd__law_raise, dd__law_caught, dd__law_fields, dd__law_limits_right, dd_law] : List DefD)
def faL : List Fa := ([.glo "_law_value", .glo "_law_sorts", .glo "_law_raise", .glo "_law_caught", .glo "_law_fields", .glo "_law_limits_right", .glo "law", .glo "WeaveError", .glo "ClothError", .glo "DraftError", .glo "ArgumentError", .glo "PaperError", .glo "LoomError", .glo "TooMany", .glo "TextError"] : List Fa) ++ ([.glo "LogError", .glo "CommandError", .free "isinstance", .free "len", .free "range", .free "int", .free "abs", .free "repr", .free "ValueError", .int "MAX_ENDS" 24, .int "MAX_PICKS" 24, .int "MAX_SHAFTS" 16, .int "MAX_TREADLES" 16, .int "MAX_NAME" 12, .int "MAX_TEXT" 8000] : List Fa) ++ ([.int "MAX_PAPER" 80000, .int "MAX_CHOICES" 400, .int "MAX_TIES" 200, .int "MAX_PIECE" 8, .int "MAX_PAIRS" 40, .int "MAX_JOBS" 9, .int "MAX_DEEP" 8, .int "MAX_UNITS" 8, .int "MAX_STACK" 4, .int "MAX_ROWS" 12, .int "MAX_COUNTED" 4, .int "MAX_FLOAT" 3, .int "MAX_LOG" 200, .int "MAX_WOVEN" 200, .int "MAX_FAULTS" 3] : List Fa) ++ ([.int "MAX_GAP" 1000, .int "MAX_REPEATS" 100, .int "MAX_COIN" 1000000, .int "MAX_LENGTHS" 8, .int "MAX_CONES" 8, .int "MAX_NEAR" 7, .int "MAX_CARDS" 16, .int "MAX_STITCHES" 3, .int "MAX_STITCHED" 4, .int "MAX_HELD" 6, .int "MAX_BOXES" 3, .int "MAX_SHUTTLES" 3, .int "MAX_WEFTS" 6, .int "MAX_GREY" 255] : List Fa)
def hk : HkE := { P := PySem.Challenge.pw_hangstogether_k03_errors_and_limits, fs := (["_law_value", "_law_sorts", "_law_raise", "_law_caught", "_law_fields", "_law_limits_right", "law"] : List Str), cs := (["WeaveError", "ReasonError", "ClothError", "DraftError", "ArgumentError", "PaperError", "LoomError", "TooMany", "TextError", "LogError", "CommandError"] : List Str), fa := faL, fn := fnL, er := (["ClothError", "DraftError", "ArgumentError", "PaperError", "LoomError", "TooMany"] : List Str), base := "ReasonError", ea := "TextError", el := "CommandError", en := "LogError", root := "WeaveError", ipr := ⟨⟨6, 17, 6, 21⟩, ⟨6, 23, 6, 29⟩, [⟨7, 8, 7, 13⟩, ⟨7, 8, 7, 15⟩, ⟨7, 8, 7, 24⟩, ⟨7, 25, 7, 31⟩, ⟨7, 8, 7, 32⟩, ⟨7, 8, 7, 32⟩, ⟨8, 8, 8, 12⟩, ⟨8, 8, 8, 19⟩, ⟨8, 22, 8, 28⟩, ⟨8, 8, 8, 28⟩, ⟨6, 17, 6, 21⟩, ⟨6, 23, 6, 29⟩]⟩, ipa := ⟨⟨23, 17, 23, 21⟩, ⟨23, 23, 23, 25⟩, [⟨24, 8, 24, 13⟩, ⟨24, 8, 24, 15⟩, ⟨24, 8, 24, 24⟩, ⟨24, 25, 24, 27⟩, ⟨24, 8, 24, 28⟩, ⟨24, 8, 24, 28⟩, ⟨25, 8, 25, 12⟩, ⟨25, 8, 25, 15⟩, ⟨25, 18, 25, 20⟩, ⟨25, 8, 25, 20⟩, ⟨23, 17, 23, 21⟩, ⟨23, 23, 23, 25⟩]⟩, ipl := ⟨⟨34, 17, 34, 21⟩, ⟨34, 23, 34, 27⟩, [⟨35, 8, 35, 13⟩, ⟨35, 8, 35, 15⟩, ⟨35, 8, 35, 24⟩, ⟨35, 25, 35, 29⟩, ⟨35, 8, 35, 30⟩, ⟨35, 8, 35, 30⟩, ⟨36, 8, 36, 12⟩, ⟨36, 8, 36, 17⟩, ⟨36, 20, 36, 24⟩, ⟨36, 8, 36, 24⟩, ⟨34, 17, 34, 21⟩, ⟨34, 23, 34, 27⟩]⟩, ipn := ⟨⟨28, 17, 28, 21⟩, ⟨28, 23, 28, 29⟩, [⟨29, 8, 29, 13⟩, ⟨29, 8, 29, 15⟩, ⟨29, 8, 29, 24⟩, ⟨29, 25, 29, 31⟩, ⟨29, 33, 29, 39⟩, ⟨29, 8, 29, 40⟩, ⟨29, 8, 29, 40⟩, ⟨30, 8, 30, 12⟩, ⟨30, 8, 30, 19⟩, ⟨30, 22, 30, 28⟩, ⟨30, 8, 30, 28⟩, ⟨31, 8, 31, 12⟩, ⟨31, 8, 31, 19⟩, ⟨31, 22, 31, 28⟩, ⟨31, 8, 31, 28⟩, ⟨28, 17, 28, 21⟩, ⟨28, 23, 28, 29⟩, ⟨28, 31, 28, 37⟩]⟩ }
abbrev R : PySem.W.OpenRow := PySem.W.OpenLaw.row PySem.Challenge.rw_hangstogether_k03_errors_and_limits
abbrev qv : Program := PySem.W.view R.prog [54]
def names : List Str := (["WeaveError", "ReasonError", "ClothError", "DraftError", "ArgumentError", "PaperError", "LoomError", "TooMany", "TextError", "LogError", "CommandError", "MAX_ENDS", "MAX_PICKS", "MAX_SHAFTS", "MAX_TREADLES"] : List Str) ++ (["MAX_NAME", "MAX_TEXT", "MAX_PAPER", "MAX_CHOICES", "MAX_TIES", "MAX_PIECE", "MAX_PAIRS", "MAX_JOBS", "MAX_DEEP", "MAX_UNITS", "MAX_STACK", "MAX_ROWS", "MAX_COUNTED", "MAX_FLOAT", "MAX_LOG"] : List Str) ++ (["MAX_WOVEN", "MAX_FAULTS", "MAX_GAP", "MAX_REPEATS", "MAX_COIN", "MAX_LENGTHS", "MAX_CONES", "MAX_NEAR", "MAX_CARDS", "MAX_STITCHES", "MAX_STITCHED", "MAX_HELD", "MAX_BOXES", "MAX_SHUTTLES", "MAX_WEFTS"] : List Str) ++ (["MAX_GREY", "_law_value", "_law_sorts", "_law_raise", "_law_caught", "_law_fields", "_law_limits_right"] : List Str)
end K3
/-! the facts by name -/
namespace K3
open PySem PySem.Spec PyProof.Rows L2 He HX
def fdOf (K : PySem.W.Frag) (a : Addr) : FuncData := match K.lookup a with
  | some ⟨_, _, .func fd, _⟩ => fd
  | _ => default
abbrev fdx (K : PySem.W.Frag) (x : Str) : FuncData := fdOf K (ga K x)
abbrev FnX (K : PySem.W.Frag) (x : Str) (st : Stmt) (f : Addr) (fd : FuncData) : Prop := FunD K x x (defArgs st) (defBody st) (defScope st) [] [] f fd
/-- what the head has left -/
structure Tx (K : PySem.W.Frag) (mg : Str → Option Value) : Prop where
  says : hk.Says K
  heap : ∃ h : Heap, K.In h ∧ h.Ns mainGlobals mg
section
variable {K : PySem.W.Frag} {mg : Str → Option Value}
theorem fn_of_d {d : DefD} (i : Nat) (T : Tx K mg) (h : fnL[i]? = some d) (h2 : fAd K d.at_ = ga K d.name) (h3 : d.dfl = []) (h4 : d.kwd = []) (h5 : d.qual = d.name) : FunD K d.name d.name d.params d.body d.scope [] [] (ga K d.name) (fdx K d.name) := by
  obtain ⟨fd, F⟩ := T.says.d.def_ i (d := d) h
  rw [h2, h5] at F
  have e1 : d.dvs K = [] := by unfold DefD.dvs; rw [h3]; rfl
  have e2 : d.kws K = [] := by unfold DefD.kws; rw [h4]; rfl
  rw [e1, e2] at F
  obtain ⟨oc, od, dV, kV, doc, pm, an, cdv, ct, osl, e, lk, r⟩ := F.ex
  have e3 : fdx K d.name = fd := by
    show fdOf K (ga K d.name) = fd
    unfold fdOf
    rw [lk]
  rw [e3]
  exact F
theorem gl_of {x : Str} (i : Nat) (T : Tx K mg) (h : faL[i]? = some (.glo x)) : mg x = some (.ref (ga K x)) := by
  obtain ⟨hp, X, G⟩ := T.heap
  exact glo_ok X G (T.says.d.fact i h)
theorem fr_of {x : Str} (i : Nat) (T : Tx K mg) (h : faL[i]? = some (.free x)) : mg x = none := by
  obtain ⟨hp, X, G⟩ := T.heap
  exact free_ok X G (T.says.d.fact i h)
theorem in_of {x : Str} {n : Int} (i : Nat) (T : Tx K mg) (h : faL[i]? = some (.int x n)) : ∃ t, mg x = some (.int n t) := by
  obtain ⟨hp, X, G⟩ := T.heap
  exact int_ok X G (T.says.d.fact i h)
theorem g__law_value (T : Tx K mg) : mg "_law_value" = some (.ref (ga K "_law_value")) := gl_of 0 T rfl
theorem g__law_sorts (T : Tx K mg) : mg "_law_sorts" = some (.ref (ga K "_law_sorts")) := gl_of 1 T rfl
theorem g__law_raise (T : Tx K mg) : mg "_law_raise" = some (.ref (ga K "_law_raise")) := gl_of 2 T rfl
theorem g__law_caught (T : Tx K mg) : mg "_law_caught" = some (.ref (ga K "_law_caught")) := gl_of 3 T rfl
theorem g__law_fields (T : Tx K mg) : mg "_law_fields" = some (.ref (ga K "_law_fields")) := gl_of 4 T rfl
theorem g__law_limits_right (T : Tx K mg) : mg "_law_limits_right" = some (.ref (ga K "_law_limits_right")) := gl_of 5 T rfl
theorem g_law (T : Tx K mg) : mg "law" = some (.ref (ga K "law")) := gl_of 6 T rfl
theorem g_WeaveError (T : Tx K mg) : mg "WeaveError" = some (.ref (ga K "WeaveError")) := gl_of 7 T rfl
theorem g_ClothError (T : Tx K mg) : mg "ClothError" = some (.ref (ga K "ClothError")) := gl_of 8 T rfl
theorem g_DraftError (T : Tx K mg) : mg "DraftError" = some (.ref (ga K "DraftError")) := gl_of 9 T rfl
theorem g_ArgumentError (T : Tx K mg) : mg "ArgumentError" = some (.ref (ga K "ArgumentError")) := gl_of 10 T rfl
theorem g_PaperError (T : Tx K mg) : mg "PaperError" = some (.ref (ga K "PaperError")) := gl_of 11 T rfl
theorem g_LoomError (T : Tx K mg) : mg "LoomError" = some (.ref (ga K "LoomError")) := gl_of 12 T rfl
theorem g_TooMany (T : Tx K mg) : mg "TooMany" = some (.ref (ga K "TooMany")) := gl_of 13 T rfl
theorem g_TextError (T : Tx K mg) : mg "TextError" = some (.ref (ga K "TextError")) := gl_of 14 T rfl
theorem g_LogError (T : Tx K mg) : mg "LogError" = some (.ref (ga K "LogError")) := gl_of 15 T rfl
theorem g_CommandError (T : Tx K mg) : mg "CommandError" = some (.ref (ga K "CommandError")) := gl_of 16 T rfl
theorem n_isinstance (T : Tx K mg) : mg "isinstance" = none := fr_of 17 T rfl
theorem n_len (T : Tx K mg) : mg "len" = none := fr_of 18 T rfl
theorem n_range (T : Tx K mg) : mg "range" = none := fr_of 19 T rfl
theorem n_int (T : Tx K mg) : mg "int" = none := fr_of 20 T rfl
theorem n_abs (T : Tx K mg) : mg "abs" = none := fr_of 21 T rfl
theorem n_repr (T : Tx K mg) : mg "repr" = none := fr_of 22 T rfl
theorem n_ValueError (T : Tx K mg) : mg "ValueError" = none := fr_of 23 T rfl
theorem i_MAX_ENDS (T : Tx K mg) : ∃ t, mg "MAX_ENDS" = some (.int 24 t) := in_of 24 T rfl
theorem i_MAX_PICKS (T : Tx K mg) : ∃ t, mg "MAX_PICKS" = some (.int 24 t) := in_of 25 T rfl
theorem i_MAX_SHAFTS (T : Tx K mg) : ∃ t, mg "MAX_SHAFTS" = some (.int 16 t) := in_of 26 T rfl
theorem i_MAX_TREADLES (T : Tx K mg) : ∃ t, mg "MAX_TREADLES" = some (.int 16 t) := in_of 27 T rfl
theorem i_MAX_NAME (T : Tx K mg) : ∃ t, mg "MAX_NAME" = some (.int 12 t) := in_of 28 T rfl
theorem i_MAX_TEXT (T : Tx K mg) : ∃ t, mg "MAX_TEXT" = some (.int 8000 t) := in_of 29 T rfl
theorem i_MAX_PAPER (T : Tx K mg) : ∃ t, mg "MAX_PAPER" = some (.int 80000 t) := in_of 30 T rfl
theorem i_MAX_CHOICES (T : Tx K mg) : ∃ t, mg "MAX_CHOICES" = some (.int 400 t) := in_of 31 T rfl
theorem i_MAX_TIES (T : Tx K mg) : ∃ t, mg "MAX_TIES" = some (.int 200 t) := in_of 32 T rfl
theorem i_MAX_PIECE (T : Tx K mg) : ∃ t, mg "MAX_PIECE" = some (.int 8 t) := in_of 33 T rfl
theorem i_MAX_PAIRS (T : Tx K mg) : ∃ t, mg "MAX_PAIRS" = some (.int 40 t) := in_of 34 T rfl
theorem i_MAX_JOBS (T : Tx K mg) : ∃ t, mg "MAX_JOBS" = some (.int 9 t) := in_of 35 T rfl
theorem i_MAX_DEEP (T : Tx K mg) : ∃ t, mg "MAX_DEEP" = some (.int 8 t) := in_of 36 T rfl
theorem i_MAX_UNITS (T : Tx K mg) : ∃ t, mg "MAX_UNITS" = some (.int 8 t) := in_of 37 T rfl
theorem i_MAX_STACK (T : Tx K mg) : ∃ t, mg "MAX_STACK" = some (.int 4 t) := in_of 38 T rfl
theorem i_MAX_ROWS (T : Tx K mg) : ∃ t, mg "MAX_ROWS" = some (.int 12 t) := in_of 39 T rfl
theorem i_MAX_COUNTED (T : Tx K mg) : ∃ t, mg "MAX_COUNTED" = some (.int 4 t) := in_of 40 T rfl
theorem i_MAX_FLOAT (T : Tx K mg) : ∃ t, mg "MAX_FLOAT" = some (.int 3 t) := in_of 41 T rfl
theorem i_MAX_LOG (T : Tx K mg) : ∃ t, mg "MAX_LOG" = some (.int 200 t) := in_of 42 T rfl
theorem i_MAX_WOVEN (T : Tx K mg) : ∃ t, mg "MAX_WOVEN" = some (.int 200 t) := in_of 43 T rfl
theorem i_MAX_FAULTS (T : Tx K mg) : ∃ t, mg "MAX_FAULTS" = some (.int 3 t) := in_of 44 T rfl
theorem i_MAX_GAP (T : Tx K mg) : ∃ t, mg "MAX_GAP" = some (.int 1000 t) := in_of 45 T rfl
theorem i_MAX_REPEATS (T : Tx K mg) : ∃ t, mg "MAX_REPEATS" = some (.int 100 t) := in_of 46 T rfl
theorem i_MAX_COIN (T : Tx K mg) : ∃ t, mg "MAX_COIN" = some (.int 1000000 t) := in_of 47 T rfl
theorem i_MAX_LENGTHS (T : Tx K mg) : ∃ t, mg "MAX_LENGTHS" = some (.int 8 t) := in_of 48 T rfl
theorem i_MAX_CONES (T : Tx K mg) : ∃ t, mg "MAX_CONES" = some (.int 8 t) := in_of 49 T rfl
theorem i_MAX_NEAR (T : Tx K mg) : ∃ t, mg "MAX_NEAR" = some (.int 7 t) := in_of 50 T rfl
theorem i_MAX_CARDS (T : Tx K mg) : ∃ t, mg "MAX_CARDS" = some (.int 16 t) := in_of 51 T rfl
theorem i_MAX_STITCHES (T : Tx K mg) : ∃ t, mg "MAX_STITCHES" = some (.int 3 t) := in_of 52 T rfl
theorem i_MAX_STITCHED (T : Tx K mg) : ∃ t, mg "MAX_STITCHED" = some (.int 4 t) := in_of 53 T rfl
theorem i_MAX_HELD (T : Tx K mg) : ∃ t, mg "MAX_HELD" = some (.int 6 t) := in_of 54 T rfl
theorem i_MAX_BOXES (T : Tx K mg) : ∃ t, mg "MAX_BOXES" = some (.int 3 t) := in_of 55 T rfl
theorem i_MAX_SHUTTLES (T : Tx K mg) : ∃ t, mg "MAX_SHUTTLES" = some (.int 3 t) := in_of 56 T rfl
theorem i_MAX_WEFTS (T : Tx K mg) : ∃ t, mg "MAX_WEFTS" = some (.int 6 t) := in_of 57 T rfl
theorem i_MAX_GREY (T : Tx K mg) : ∃ t, mg "MAX_GREY" = some (.int 255 t) := in_of 58 T rfl
theorem F__law_value (T : Tx K mg) : FnX K "_law_value" st__law_value (ga K "_law_value") (fdx K "_law_value") := fn_of_d (d := dd__law_value) 0 T rfl rfl rfl rfl rfl
theorem bd__law_value (T : Tx K mg) : Binds K (fdx K "_law_value") ["script", "place"] [] := (F__law_value T).bindsN fun _ _ _ _ _ _ us hl => match us, hl with | [_, _], _ => rfl
theorem sc__law_value : FnScope ["script", "place", "rows", "cell"] ["script", "place"] (defScope st__law_value) := ⟨rfl, rfl, rfl, by decide +kernel, rfl, by decide +kernel, by decide +kernel⟩
theorem F__law_sorts (T : Tx K mg) : FnX K "_law_sorts" st__law_sorts (ga K "_law_sorts") (fdx K "_law_sorts") := fn_of_d (d := dd__law_sorts) 1 T rfl rfl rfl rfl rfl
theorem bd__law_sorts (T : Tx K mg) : Binds K (fdx K "_law_sorts") ["error"] [] := (F__law_sorts T).bindsN fun _ _ _ _ _ _ us hl => match us, hl with | [_], _ => rfl
theorem sc__law_sorts : FnScope ["error"] ["error"] (defScope st__law_sorts) := ⟨rfl, rfl, rfl, by decide +kernel, rfl, by decide +kernel, by decide +kernel⟩
theorem F__law_raise (T : Tx K mg) : FnX K "_law_raise" st__law_raise (ga K "_law_raise") (fdx K "_law_raise") := fn_of_d (d := dd__law_raise) 2 T rfl rfl rfl rfl rfl
theorem bd__law_raise (T : Tx K mg) : Binds K (fdx K "_law_raise") ["k", "one", "other"] [] := (F__law_raise T).bindsN fun _ _ _ _ _ _ us hl => match us, hl with | [_, _, _], _ => rfl
theorem sc__law_raise : FnScope ["k", "one", "other"] ["k", "one", "other"] (defScope st__law_raise) := ⟨rfl, rfl, rfl, by decide +kernel, rfl, by decide +kernel, by decide +kernel⟩
theorem F__law_caught (T : Tx K mg) : FnX K "_law_caught" st__law_caught (ga K "_law_caught") (fdx K "_law_caught") := fn_of_d (d := dd__law_caught) 3 T rfl rfl rfl rfl rfl
theorem bd__law_caught (T : Tx K mg) : Binds K (fdx K "_law_caught") ["k", "one", "other"] [] := (F__law_caught T).bindsN fun _ _ _ _ _ _ us hl => match us, hl with | [_, _, _], _ => rfl
theorem sc__law_caught : FnScope ["k", "one", "other", "e"] ["k", "one", "other"] (defScope st__law_caught) := ⟨rfl, rfl, rfl, by decide +kernel, rfl, by decide +kernel, by decide +kernel⟩
theorem F__law_fields (T : Tx K mg) : FnX K "_law_fields" st__law_fields (ga K "_law_fields") (fdx K "_law_fields") := fn_of_d (d := dd__law_fields) 4 T rfl rfl rfl rfl rfl
theorem bd__law_fields (T : Tx K mg) : Binds K (fdx K "_law_fields") ["k", "one", "other"] [] := (F__law_fields T).bindsN fun _ _ _ _ _ _ us hl => match us, hl with | [_, _, _], _ => rfl
theorem sc__law_fields : FnScope ["k", "one", "other", "e"] ["k", "one", "other"] (defScope st__law_fields) := ⟨rfl, rfl, rfl, by decide +kernel, rfl, by decide +kernel, by decide +kernel⟩
theorem F__law_limits_right (T : Tx K mg) : FnX K "_law_limits_right" st__law_limits_right (ga K "_law_limits_right") (fdx K "_law_limits_right") := fn_of_d (d := dd__law_limits_right) 5 T rfl rfl rfl rfl rfl
theorem bd__law_limits_right (T : Tx K mg) : Binds K (fdx K "_law_limits_right") [] [] := (F__law_limits_right T).bindsN fun _ _ _ _ _ _ us hl => match us, hl with | [], _ => rfl
theorem sc__law_limits_right : FnScope ["told", "due"] [] (defScope st__law_limits_right) := ⟨rfl, rfl, rfl, by decide +kernel, rfl, by decide +kernel, by decide +kernel⟩
theorem F_law (T : Tx K mg) : FnX K "law" st_law (ga K "law") (fdx K "law") := fn_of_d (d := dd_law) 6 T rfl rfl rfl rfl rfl
theorem bd_law (T : Tx K mg) : Binds K (fdx K "law") ["script"] [] := (F_law T).bindsN fun _ _ _ _ _ _ us hl => match us, hl with | [_], _ => rfl
theorem sc_law : FnScope ["script", "k", "one", "other", "j", "due"] ["script"] (defScope st_law) := ⟨rfl, rfl, rfl, by decide +kernel, rfl, by decide +kernel, by decide +kernel⟩
theorem rs_ClothError (T : Tx K mg) : EXr.RsTxt PySem.Challenge.pw_hangstogether_k03_errors_and_limits K mg (ga K "ClothError") (ga K "ReasonError") (ma K (ga K "ClothError") "__init__") (ccOf K (ma K (ga K "ClothError") "__init__")) := by
  obtain ⟨hp, X, G⟩ := T.heap
  exact T.says.rs X G (x := "ClothError") (by simp [hk]) rfl
theorem rs_DraftError (T : Tx K mg) : EXr.RsTxt PySem.Challenge.pw_hangstogether_k03_errors_and_limits K mg (ga K "DraftError") (ga K "ReasonError") (ma K (ga K "DraftError") "__init__") (ccOf K (ma K (ga K "DraftError") "__init__")) := by
  obtain ⟨hp, X, G⟩ := T.heap
  exact T.says.rs X G (x := "DraftError") (by simp [hk]) rfl
theorem rs_ArgumentError (T : Tx K mg) : EXr.RsTxt PySem.Challenge.pw_hangstogether_k03_errors_and_limits K mg (ga K "ArgumentError") (ga K "ReasonError") (ma K (ga K "ArgumentError") "__init__") (ccOf K (ma K (ga K "ArgumentError") "__init__")) := by
  obtain ⟨hp, X, G⟩ := T.heap
  exact T.says.rs X G (x := "ArgumentError") (by simp [hk]) rfl
theorem rs_PaperError (T : Tx K mg) : EXr.RsTxt PySem.Challenge.pw_hangstogether_k03_errors_and_limits K mg (ga K "PaperError") (ga K "ReasonError") (ma K (ga K "PaperError") "__init__") (ccOf K (ma K (ga K "PaperError") "__init__")) := by
  obtain ⟨hp, X, G⟩ := T.heap
  exact T.says.rs X G (x := "PaperError") (by simp [hk]) rfl
theorem rs_LoomError (T : Tx K mg) : EXr.RsTxt PySem.Challenge.pw_hangstogether_k03_errors_and_limits K mg (ga K "LoomError") (ga K "ReasonError") (ma K (ga K "LoomError") "__init__") (ccOf K (ma K (ga K "LoomError") "__init__")) := by
  obtain ⟨hp, X, G⟩ := T.heap
  exact T.says.rs X G (x := "LoomError") (by simp [hk]) rfl
theorem rs_TooMany (T : Tx K mg) : EXr.RsTxt PySem.Challenge.pw_hangstogether_k03_errors_and_limits K mg (ga K "TooMany") (ga K "ReasonError") (ma K (ga K "TooMany") "__init__") (ccOf K (ma K (ga K "TooMany") "__init__")) := by
  obtain ⟨hp, X, G⟩ := T.heap
  exact T.says.rs X G (x := "TooMany") (by simp [hk]) rfl
theorem rs_TextError (T : Tx K mg) : EXa.RsTxt PySem.Challenge.pw_hangstogether_k03_errors_and_limits K mg (ga K "TextError") (ga K "TextError") (ma K (ga K "TextError") "__init__") (ccOf K (ma K (ga K "TextError") "__init__")) := by
  obtain ⟨hp, X, G⟩ := T.heap
  exact T.says.ra X G rfl
theorem rs_LogError (T : Tx K mg) : EXn.RsTxt PySem.Challenge.pw_hangstogether_k03_errors_and_limits K mg (ga K "LogError") (ga K "LogError") (ma K (ga K "LogError") "__init__") (ccOf K (ma K (ga K "LogError") "__init__")) := by
  obtain ⟨hp, X, G⟩ := T.heap
  exact T.says.rn X G rfl
theorem rs_CommandError (T : Tx K mg) : EXl.RsTxt PySem.Challenge.pw_hangstogether_k03_errors_and_limits K mg (ga K "CommandError") (ga K "CommandError") (ma K (ga K "CommandError") "__init__") (ccOf K (ma K (ga K "CommandError") "__init__")) := by
  obtain ⟨hp, X, G⟩ := T.heap
  exact T.says.rl X G rfl
end
end K3

set_option Elab.async false
set_option linter.all false
set_option maxRecDepth 100000
set_option maxHeartbeats 0
/-! the run, small looks -/
namespace K3
open PySem PySem.Spec PyProof.Rows L2 He HX PySem.W HandSHeadRun
theorem runA (w : World) (os : OsState) : (endF (stepQ (denQ tabQ) R.prog w) 4000 R.prog w os).map (fun s => staticsOk (importedModules R.prog.main.body) (boot_heap w.params) s.abs.heap && gensDone s.abs && laidKept (boot_heap w.params) s.abs.heap) = some true := by
  kernel_rfl
theorem runB (w : World) (os : OsState) : (endF (stepQ (denQ tabQ) R.prog w) 4000 R.prog w os).map (fun s => (s.abs.heap.isNs mainGlobals, s.abs.heap.nsKeys mainGlobals)) = some (true, (boot_heap w.params).nsKeys mainGlobals ++ (names ++ (["law"] : List PySem.Str))) := by
  kernel_rfl
theorem keysB (w : World) : (((boot_heap w.params).nsKeys mainGlobals ++ (names ++ (["law"] : List PySem.Str))).all fun k => startupNames.contains k || R.prog.boundNames.contains k) = true := by
  kernel_rfl
theorem runC (w : World) (os : OsState) : (endF (stepQ (denQ tabQ) R.prog w) 4000 R.prog w os).map (fun s => hk.fa.all fun f => f.ok (hk.G (getT s))) = some true := by
  kernel_rfl
theorem runD (w : World) (os : OsState) : (endF (stepQ (denQ tabQ) R.prog w) 4000 R.prog w os).map (fun s => ((hk.fn.all fun d => d.ok (hk.G (getT s))), hk.fn.map fun d => fnW (hk.G (getT s)) d.at_)) = some (true, hk.fn.map DefD.val) := by
  kernel_rfl
theorem runE1 (w : World) (os : OsState) : (endF (stepQ (denQ tabQ) R.prog w) 4000 R.prog w os).map (fun s => (hk.bs (hk.G (getT s))).1) = some true := by
  kernel_rfl
theorem runE2 (w : World) (os : OsState) : (endF (stepQ (denQ tabQ) R.prog w) 4000 R.prog w os).map (fun s => (hk.bs (hk.G (getT s))).2.1) = some true := by
  kernel_rfl
theorem runE3 (w : World) (os : OsState) : (endF (stepQ (denQ tabQ) R.prog w) 4000 R.prog w os).map (fun s => (hk.bs (hk.G (getT s))).2.2) = some true := by
  kernel_rfl
theorem runF (w : World) (os : OsState) : (endF (stepQ (denQ tabQ) R.prog w) 4000 R.prog w os).map (fun s => hk.ins (hk.G (getT s))) = some hk.val.2.2 := by
  kernel_rfl
theorem runG (w : World) (os : OsState) : (endF (stepQ (denQ tabQ) R.prog w) 4000 R.prog w os).map (fun s => seenQ qv names (importedModules R.prog.main.body) (fun s => xlAt qv [] s && recOk R.toRowW.records s) s.abs) = some (openGood qv names) := by
  kernel_rfl
theorem run (w : World) : RunEq R qv hk.hook (fun s => hk.obsG (getT s)) 4000 names w := fun os => three (join1 (runA w os) (runB w os) (keysB w)) (runG w os) (join4 (runC w os) (runD w os) (runE1 w os) (runE2 w os) (runE3 w os) (runF w os))
end K3

set_option Elab.async false
set_option linter.all false
set_option maxRecDepth 100000
set_option maxHeartbeats 2000000
/-! values as data (no lists within), what a reading gives as data -/
namespace DX
open PySem PySem.Spec PyProof.Rows L2
mutual
inductive Td (K : PySem.W.Frag) (H : Hp) : V → PyData → Prop
  | non : Td K H .non .none
  | bl (b : Bool) : Td K H (.bl b) (.bool b)
  | int (i : Int) : Td K H (.int i) (.int i)
  | str (x : Str) : Td K H (.str x) (.str x)
  | tup {a : Addr} {xs : List V} {ds : List PyData} : SqT K H a xs → TdAll K H xs ds → Td K H (.ref a) (.tuple ds)
inductive TdAll (K : PySem.W.Frag) (H : Hp) : List V → List PyData → Prop
  | nil : TdAll K H [] []
  | cons {v : V} {vs : List V} {d : PyData} {ds : List PyData} : Td K H v d → TdAll K H vs ds → TdAll K H (v :: vs) (d :: ds)
end
/-- how the heap may go on -/
structure HR (K : PySem.W.Frag) where
  R : Hp → Hp → Prop
  good : Hp → Prop
  ok : Addr → Prop
  refl : ∀ {H}, good H → R H H
  trans : ∀ {H H1 H2}, R H H1 → R H1 H2 → R H H2
  g2 : ∀ {H H'}, R H H' → good H'
  keep : ∀ {H H' p o}, R H H' → ok p → H p = some o → H' p = some o
  fresh : ∀ {H p}, good H → H p = none → ok p
  mu : ∀ {H H' p o}, R H H' → H p = none → R H (upd H' p o)
  tup : ∀ {H H' a xs}, R H H' → SqT K H a xs → SqT K H' a xs
  back : ∀ {H H' p}, R H H' → H' p = none → H p = none
/-- all that is tracked stays -/
def hrE (K : PySem.W.Frag) : HR K where
  R := Evl.Ex
  good := fun _ => True
  ok := fun _ => True
  refl := fun _ => Evl.Ex.refl _
  trans := Evl.Ex.trans
  g2 := fun _ => trivial
  keep := fun e _ h => e _ _ h
  fresh := fun _ _ => trivial
  mu := Evl.Ex.mut
  tup := Evl.ex_t
  back := Evl.fresh_back
/-- the counter at a goes on -/
def Cnt (a : Addr) (H : Hp) : Prop := ∃ n : Nat, H a = some (.lst [.int (n : Int)])
def hrG (K : PySem.W.Frag) (a : Addr) : HR K where
  R := fun H H' => Cnt a H ∧ Cnt a H' ∧ ∀ p o, p ≠ a → H p = some o → H' p = some o
  good := Cnt a
  ok := fun p => p ≠ a
  refl := fun g => ⟨g, g, fun _ _ _ h => h⟩
  trans := fun x y => ⟨x.1, y.2.1, fun p o n h => y.2.2 p o n (x.2.2 p o n h)⟩
  g2 := fun x => x.2.1
  keep := fun x n h => x.2.2 _ _ n h
  fresh := fun ⟨n, g⟩ h e => by rw [e, g] at h; cases h
  mu := fun {H H' p o} x h => by
    obtain ⟨g1, ⟨n, g2⟩, k⟩ := x
    have hp : p ≠ a := fun e => by
      obtain ⟨m, g⟩ := g1
      rw [e, g] at h
      cases h
    refine ⟨g1, ⟨n, by rw [upd_ne (Ne.symm hp)]; exact g2⟩, fun q u hq e => ?_⟩
    rw [upd_ne (ne_of_none e h)]
    exact k q u hq e
  tup := fun {H H' b xs} x h => by
    obtain ⟨⟨n, g⟩, _, k⟩ := x
    have nb : ∀ u, H b = some u → (∀ xs, u ≠ .lst xs) → b ≠ a := fun u e hu z => by
      rw [z, g] at e
      exact hu _ (Option.some.inj e).symm
    rcases h with (h | ⟨o, h⟩) | h
    · exact .inl (.inl (k _ _ (nb _ h (fun _ z => by cases z)) h))
    · exact .inl (.inr ⟨o, k _ _ (nb _ h (fun _ z => by cases z)) h⟩)
    · exact .inr h
  back := fun {H H' p} x h => by
    cases e : H p with
    | none => rfl
    | some o =>
      by_cases hp : p = a
      · obtain ⟨_, ⟨n, g⟩, _⟩ := x
        rw [hp, g] at h
        cases h
      · rw [x.2.2 p o hp e] at h
        cases h
section
variable {K : PySem.W.Frag}
mutual
theorem Td.monoT {H H' : Hp} (k : ∀ a xs, SqT K H a xs → SqT K H' a xs) : ∀ (d : PyData) {v : V}, Td K H v d → Td K H' v d
  | .none, _, h => by cases h; exact .non
  | .bool b, _, h => by cases h; exact .bl b
  | .int i, _, h => by cases h; exact .int i
  | .str x, _, h => by cases h; exact .str x
  | .list ds, _, h => by cases h
  | .tuple ds, _, h => by
    cases h with
    | tup hs ha => exact .tup (k _ _ hs) (TdAll.monoT k ds ha)
  | .dict _, _, h => by cases h
theorem TdAll.monoT {H H' : Hp} (k : ∀ a xs, SqT K H a xs → SqT K H' a xs) : ∀ (ds : List PyData) {vs : List V}, TdAll K H vs ds → TdAll K H' vs ds
  | [], _, h => by cases h; exact .nil
  | d :: ds, _, h => by
    cases h with
    | cons h1 h2 => exact .cons (Td.monoT k d h1) (TdAll.monoT k ds h2)
end
theorem Td.mono (ρ : HR K) {H H' : Hp} (e : ρ.R H H') (d : PyData) {v : V} (h : Td K H v d) : Td K H' v d := Td.monoT (fun _ _ z => ρ.tup e z) d h
theorem TdAll.mono (ρ : HR K) {H H' : Hp} (e : ρ.R H H') (ds : List PyData) {vs : List V} (h : TdAll K H vs ds) : TdAll K H' vs ds := TdAll.monoT (fun _ _ z => ρ.tup e z) ds h
theorem sqT_updL {H : Hp} {D : Addr} {u w : List V} (hD : H D = some (.lst u)) (a : Addr) (xs : List V) (h : SqT K H a xs) : SqT K (upd H D (.lst w)) a xs := by
  have nb : ∀ z, H a = some z → (∀ l, z ≠ .lst l) → a ≠ D := fun z e hz q => by
    rw [q, hD] at e
    exact hz _ (Option.some.inj e).symm
  rcases h with (h | ⟨o, h⟩) | h
  · exact .inl (.inl ((upd_ne (nb _ h (fun _ z => by cases z))).trans h))
  · exact .inl (.inr ⟨o, (upd_ne (nb _ h (fun _ z => by cases z))).trans h⟩)
  · exact .inr h
mutual
theorem Td.dp {H : Hp} : ∀ (d : PyData) {v : V}, Td K H v d → Dp K H v d
  | .none, _, h => by cases h; exact .non
  | .bool b, _, h => by cases h; exact .bl b
  | .int i, _, h => by cases h; exact .int i
  | .str x, _, h => by cases h; exact .str x
  | .list ds, _, h => by cases h
  | .tuple ds, _, h => by
    cases h with
    | tup hs ha => exact .tup hs (TdAll.dp ds ha)
  | .dict _, _, h => by cases h
theorem TdAll.dp {H : Hp} : ∀ (ds : List PyData) {vs : List V}, TdAll K H vs ds → DpAll K H vs ds
  | [], _, h => by cases h; exact .nil
  | d :: ds, _, h => by
    cases h with
    | cons h1 h2 => exact .cons (Td.dp d h1) (TdAll.dp ds h2)
end
theorem TdAll.len {H : Hp} : ∀ {ds : List PyData} {vs : List V}, TdAll K H vs ds → vs.length = ds.length
  | [], _, h => by cases h; rfl
  | _ :: _, _, h => by
    cases h with
    | cons _ h2 => simp [TdAll.len h2]
theorem TdAll.get {H : Hp} : ∀ {ds : List PyData} {vs : List V} {i : Nat} {v : V}, TdAll K H vs ds → vs[i]? = some v → ∃ d, ds[i]? = some d ∧ Td K H v d
  | [], _, _, _, h, e => by cases h; simp at e
  | d :: ds, _, 0, _, h, e => by
    cases h with
    | cons h1 h2 => simp at e; subst e; exact ⟨d, rfl, h1⟩
  | d :: ds, _, i + 1, _, h, e => by
    cases h with
    | cons h1 h2 => exact TdAll.get (i := i) h2 (by simpa using e)
theorem TdAll.getD {H : Hp} : ∀ {ds : List PyData} {vs : List V} {i : Nat} {d : PyData}, TdAll K H vs ds → ds[i]? = some d → ∃ v, vs[i]? = some v ∧ Td K H v d
  | [], _, _, _, h, e => by simp at e
  | d :: ds, _, 0, _, h, e => by
    cases h with
    | cons h1 h2 => simp at e; subst e; exact ⟨_, rfl, h1⟩
  | d :: ds, _, i + 1, _, h, e => by
    cases h with
    | cons h1 h2 => exact TdAll.getD (i := i) h2 (by simpa using e)
theorem TdAll.app {H : Hp} : ∀ {ds es : List PyData} {vs ws : List V}, TdAll K H vs ds → TdAll K H ws es → TdAll K H (vs ++ ws) (ds ++ es)
  | [], _, _, _, h, k => by cases h; exact k
  | _ :: _, _, _, _, h, k => by
    cases h with
    | cons h1 h2 => exact .cons h1 (TdAll.app h2 k)
theorem TdAll.drop {H : Hp} : ∀ (n : Nat) {ds : List PyData} {vs : List V}, TdAll K H vs ds → TdAll K H (vs.drop n) (ds.drop n)
  | 0, _, _, h => h
  | n + 1, [], _, h => by cases h; exact .nil
  | n + 1, _ :: _, _, h => by
    cases h with
    | cons h1 h2 => exact TdAll.drop n h2
theorem TdAll.take {H : Hp} : ∀ (n : Nat) {ds : List PyData} {vs : List V}, TdAll K H vs ds → TdAll K H (vs.take n) (ds.take n)
  | 0, _, _, _ => .nil
  | n + 1, [], _, h => by cases h; exact .nil
  | n + 1, _ :: _, _, h => by
    cases h with
    | cons h1 h2 => exact .cons h1 (TdAll.take n h2)
theorem TdAll.rep {H : Hp} {ds : List PyData} {vs : List V} (h : TdAll K H vs ds) : ∀ n : Nat, TdAll K H (List.replicate n vs).flatten (List.replicate n ds).flatten
  | 0 => .nil
  | n + 1 => by
    rw [List.replicate_succ, List.replicate_succ, List.flatten_cons, List.flatten_cons]
    exact h.app (TdAll.rep h n)
theorem TdAll.nil_iff {H : Hp} {ds : List PyData} {vs : List V} (h : TdAll K H vs ds) : vs = [] ↔ ds = [] := by
  cases h <;> simp
theorem TdAll.ints {H : Hp} : ∀ (is : List Int), TdAll K H (is.map V.int) (is.map PyData.int)
  | [] => .nil
  | i :: is => .cons (.int i) (TdAll.ints is)
theorem TdAll.bls {H : Hp} : ∀ {bs : List Bool} {vs : List V}, TdAll K H vs (bs.map PyData.bool) → vs = bs.map V.bl
  | [], _, h => by cases h; rfl
  | b :: bs, _, h => by
    cases h with
    | cons h1 h2 => cases h1; rw [TdAll.bls h2]; rfl
/-! what a reading gives -/
variable (ρ : HR K)
def EvD (te : TE) (σ : L2.St) (H : Hp) (d : PyData) : Prop := ∀ H1, ρ.R H H1 → ∀ Q : VK, (∀ v H2, ρ.R H1 H2 → Td K H2 v d → Q v H2) → te σ H1 Q
/-- it gives some data of which P holds -/
def EvP (te : TE) (σ : L2.St) (H : Hp) (P : PyData → Prop) : Prop := ∀ H1, ρ.R H H1 → ∀ Q : VK, (∀ v d H2, ρ.R H1 H2 → Td K H2 v d → P d → Q v H2) → te σ H1 Q
def EvDs (ta : TA) (σ : L2.St) (H : Hp) (ds : List PyData) : Prop := ∀ H1, ρ.R H H1 → ∀ Q : List V → Hp → Prop, (∀ vs H2, ρ.R H1 H2 → TdAll K H2 vs ds → Q vs H2) → ta σ H1 Q
def EvB (tt : TT) (σ : L2.St) (H : Hp) (b : Bool) : Prop := ∀ H1, ρ.R H H1 → ∀ Q : Bool → Hp → Prop, (∀ H2, ρ.R H1 H2 → Q b H2) → tt σ H1 Q
/-- a new list of data -/
def EvL (te : TE) (σ : L2.St) (H : Hp) (ds : List PyData) : Prop := ∀ H1, ρ.R H H1 → ∀ Q : VK, (∀ p xs H2, H1 p = none → ρ.R H1 H2 → H2 p = some (.lst xs) → TdAll K H2 xs ds → Q (.ref p) H2) → te σ H1 Q
def EvO (to : TO) (σ : L2.St) (H : Hp) (o : Option Int) : Prop := ∀ H1, ρ.R H H1 → ∀ Q : Option Int → Hp → Prop, (∀ H2, ρ.R H1 H2 → Q o H2) → to σ H1 Q
variable {ρ} {te ta tb : TE} {tt tu : TT} {σ : L2.St} {H H' : Hp} {d x y z : PyData} {ds es : List PyData} {tsa : TA}
theorem EvD.mono (h : EvD ρ te σ H d) (e : ρ.R H H') : EvD ρ te σ H' d := fun H1 a => h H1 (ρ.trans e a)
theorem EvB.mono {b : Bool} (h : EvB ρ tt σ H b) (e : ρ.R H H') : EvB ρ tt σ H' b := fun H1 a => h H1 (ρ.trans e a)
theorem EvDs.mono (h : EvDs ρ tsa σ H ds) (e : ρ.R H H') : EvDs ρ tsa σ H' ds := fun H1 a => h H1 (ρ.trans e a)
theorem EvL.mono (h : EvL ρ te σ H ds) (e : ρ.R H H') : EvL ρ te σ H' ds := fun H1 a => h H1 (ρ.trans e a)
theorem ed_var {i : Nat} {v : V} (h : σ[i]? = some (some v)) (t : Td K H v d) : EvD ρ (tVar i) σ H d := fun H1 a Q q => ⟨v, h, q v H1 (ρ.refl (ρ.g2 a)) (Td.mono ρ a d t)⟩
theorem ed_int {i : Int} : EvD ρ (tC (.int i)) σ H (.int i) := fun H1 a Q q => q _ H1 (ρ.refl (ρ.g2 a)) (.int i)
theorem ed_str {s : Str} : EvD ρ (tC (.str s)) σ H (.str s) := fun H1 a Q q => q _ H1 (ρ.refl (ρ.g2 a)) (.str s)
theorem ed_bl {b : Bool} : EvD ρ (tC (.bl b)) σ H (.bool b) := fun H1 a Q q => q _ H1 (ρ.refl (ρ.g2 a)) (.bl b)
theorem ed_non : EvD ρ (tC .non) σ H .none := fun H1 a Q q => q _ H1 (ρ.refl (ρ.g2 a)) .non
theorem es_nil : EvDs ρ tNil σ H [] := fun H1 a Q q => q _ H1 (ρ.refl (ρ.g2 a)) .nil
theorem es_cons (h : EvD ρ te σ H d) (k : EvDs ρ tsa σ H ds) : EvDs ρ (tCons te tsa) σ H (d :: ds) := fun H1 a Q q =>
  h H1 a _ fun v H2 e2 t => k H2 (ρ.trans a e2) _ fun vs H3 e3 ts => q _ H3 (ρ.trans e2 e3) (.cons (Td.mono ρ e3 d t) ts)
theorem ed_tup (h : EvDs ρ tsa σ H ds) (hl : ds.length ≤ 100000) : EvD ρ (tTup tsa) σ H (.tuple ds) := fun H1 a Q q =>
  h H1 a _ fun vs H2 e2 ts => ⟨by rw [ts.len]; exact Evl.sz_of hl, fun p hp => by
    have e3 : ρ.R H2 (upd H2 p (.tup vs)) := ρ.mu (ρ.refl (ρ.g2 e2)) hp
    exact q _ _ (ρ.trans e2 e3) (.tup (Evl.st_of upd_same) (TdAll.mono ρ e3 ds ts))⟩
theorem el_lst (h : EvDs ρ tsa σ H ds) (hl : ds.length ≤ 100000) : EvL ρ (tLst tsa) σ H ds := fun H1 a Q q =>
  h H1 a _ fun vs H2 e2 ts => ⟨by rw [ts.len]; exact Evl.sz_of hl, fun p hp => by
    have e3 : ρ.R H2 (upd H2 p (.lst vs)) := ρ.mu (ρ.refl (ρ.g2 e2)) hp
    exact q p vs _ (ρ.back e2 hp) (ρ.trans e2 e3) upd_same (TdAll.mono ρ e3 ds ts)⟩
theorem ed_op {r : R2} (ha : EvD ρ ta σ H x) (hb : EvD ρ tb σ H y)
    (hr : ∀ v w H1 (Q : VK), ρ.good H1 → Td K H1 v x → Td K H1 w y → (∀ u H2, ρ.R H1 H2 → Td K H2 u z → Q u H2) → r v w H1 Q) : EvD ρ (tOp r ta tb) σ H z := fun H1 a Q q =>
  ha H1 a _ fun v H2 e2 tv => hb H2 (ρ.trans a e2) _ fun w H3 e3 tw => hr v w H3 Q (ρ.g2 e3) (Td.mono ρ e3 x tv) tw fun u H4 e4 tu => q u H4 (ρ.trans e2 (ρ.trans e3 e4)) tu
theorem ed_cat (ha : EvD ρ ta σ H (.tuple ds)) (hb : EvD ρ tb σ H (.tuple es)) (hl : ds.length + es.length ≤ 100000) : EvD ρ (tOp (rCatA K) ta tb) σ H (.tuple (ds ++ es)) :=
  ed_op ha hb fun v w H1 Q g tv tw q => by
    cases tv with
    | tup hs hd =>
      cases tw with
      | tup ht he =>
        refine ⟨_, _, _, _, rfl, rfl, hs, ht, by rw [hd.len, he.len]; exact Evl.sz_of hl, fun z => ?_, fun z1 z2 => ?_, fun z1 z2 p hp => ?_⟩
        · have : ds = [] := hd.nil_iff.mp z
          subst this
          exact q _ _ (ρ.refl g) (.tup ht he)
        · have : es = [] := he.nil_iff.mp z2
          subst this
          rw [List.append_nil] at q
          exact q _ _ (ρ.refl g) (.tup hs hd)
        · have e3 := fun o => ρ.mu (o := o) (ρ.refl g) hp
          exact q _ _ (e3 _) (.tup (Evl.st_of upd_same) (TdAll.mono ρ (e3 _) _ (hd.app he)))
theorem ed_rep {k : Int} (ha : EvD ρ ta σ H (.tuple ds)) (hb : EvD ρ tb σ H (.int k)) (h0 : ds ≠ []) (hk : 2 ≤ k ∧ k ≤ 1000) (hl : ds.length ≤ 1000) : EvD ρ (tOp (rRepT K) ta tb) σ H (.tuple (List.replicate k.toNat ds).flatten) :=
  ed_op ha hb fun v w H1 Q g tv tw q => by
    cases tv with
    | tup hs hd =>
      cases tw
      refine ⟨_, _, _, rfl, rfl, hs, fun z => h0 (hd.nil_iff.mp z), hk.1, hk.2, by rw [hd.len]; exact hl, fun p hp => ?_⟩
      have e3 := fun o => ρ.mu (o := o) (ρ.refl g) hp
      exact q _ _ (e3 _) (.tup (Evl.st_of upd_same) (TdAll.mono ρ (e3 _) _ (hd.rep _)))
theorem eo_none : EvO ρ tNoPart σ H none := fun H1 a _ q => q H1 (ρ.refl (ρ.g2 a))
theorem eo_some {i : Int} (h : EvD ρ te σ H (.int i)) : EvO ρ (tPart te) σ H (some i) := fun H1 a _ q => h H1 a _ fun v H2 e2 t => by
  cases t
  exact ⟨i, rfl, q H2 e2⟩
/-- a slice of a list -/
def cutD (xs : List PyData) (lo hi : Option Int) : List PyData := (xs.drop (HT.sIx xs.length 0 lo)).take (HT.sIx xs.length xs.length hi - HT.sIx xs.length 0 lo)
theorem ed_sl {tl th : TO} {lo hi : Option Int} (h : EvD ρ te σ H (.tuple ds)) (h1 : EvO ρ tl σ H lo) (h2 : EvO ρ th σ H hi) : EvD ρ (tSl (rSlA K) te tl th) σ H (.tuple (cutD ds lo hi)) := fun H1 a Q q =>
  h H1 a _ fun v H2 e2 t => h1 H2 (ρ.trans a e2) _ fun H3 e3 => h2 H3 (ρ.trans a (ρ.trans e2 e3)) _ fun H4 e4 => by
    have e24 := ρ.trans e3 e4
    have t4 := Td.mono ρ e24 _ t
    have e14 := ρ.trans e2 e24
    cases t4 with
    | tup hs hd =>
      have ln := hd.len
      refine ⟨_, _, rfl, hs, fun z => ?_, fun z p hp => ?_⟩
      · have : cutD ds lo hi = ds := by
          unfold cutD
          rw [← ln, z.1, z.2]
          simp [ln]
        rw [this] at q
        exact q _ _ e14 (.tup hs hd)
      · have e5 := fun o => ρ.mu (o := o) (ρ.refl (ρ.g2 e4)) hp
        refine q _ _ (ρ.trans e14 (e5 _)) (.tup (Evl.st_of upd_same) ?_)
        rename_i aa xx
        have hc := TdAll.take (HT.sIx ds.length ds.length hi - HT.sIx ds.length 0 lo) (TdAll.drop (HT.sIx ds.length 0 lo) hd)
        have : cutV xx lo hi = (List.drop (HT.sIx ds.length 0 lo) xx).take (HT.sIx ds.length ds.length hi - HT.sIx ds.length 0 lo) := by
          unfold cutV
          rw [ln]
        rw [this]
        exact TdAll.mono ρ (e5 _) _ hc
theorem ed_ix {i : Int} (ha : EvD ρ ta σ H (.tuple ds)) (hb : EvD ρ tb σ H (.int i)) (hi : atI ds i = some d) : EvD ρ (tOp (rIxT K) ta tb) σ H d :=
  ed_op ha hb fun v w H1 Q g tv tw q => by
    cases tv with
    | @tup a xs _ hs hd =>
      cases tw
      unfold atI at hi
      rw [← hd.len] at hi
      cases e : ixN xs.length i with
      | none => rw [e] at hi; cases hi
      | some j =>
        rw [e] at hi
        obtain ⟨u, hu, tu⟩ := hd.getD (i := j) hi
        refine ⟨_, _, _, u, rfl, rfl, hs, ?_, q u H1 (ρ.refl g) tu⟩
        unfold atI
        rw [e]
        exact hu
end
end DX

set_option Elab.async false
set_option linter.all false
set_option maxRecDepth 100000
set_option maxHeartbeats 2000000
/-! what readings give as data: tests, built-ins, comprehensions -/
namespace DX
open PySem PySem.Spec PyProof.Rows L2
section
variable {K : PySem.W.Frag} {ρ : HR K} {te ta tb tc : TE} {tt tu : TT} {σ : L2.St} {H H' : Hp} {d x y z : PyData} {ds es : List PyData} {tsa : TA}
def tyN : PyData → String
  | .none => "NoneType"
  | .bool _ => "bool"
  | .int _ => "int"
  | .str _ => "str"
  | .list _ => "list"
  | .tuple _ => "tuple"
  | .dict _ => "dict"
theorem Td.ty {v : V} (t : Td K H v d) : TyX K H v (.type (tyN d)) := by
  cases t with
  | non => exact .base .non
  | bl b => exact .base (.bl b)
  | int i => exact .base (.int i)
  | str s => exact .base (.str s)
  | tup hs ha =>
    rcases hs with (h | ⟨o, h⟩) | ⟨o, its, n, hl, hc, hd, hz, hv⟩
    · exact .base (.tup h)
    · exact .fTuple h
    · exact .kTuple hl hc
theorem ed_isi {T : String} {b : Bool} (h : EvD ρ te σ H d) (hk : kitB (tyN d) T = some b) : EvD ρ (tCB (rIsi K) (tCons te (tCons (tC (.ty T)) tNil))) σ H (.bool b) := fun H1 a Q q =>
  h H1 a _ fun v H2 e2 t => ⟨v, .ty T, _, _, b, rfl, .ty T, t.ty, kit_ty hk, q _ H2 e2 (.bl b)⟩
/-- len's reading -/
abbrev rLen2 (K : PySem.W.Frag) : List V → Hp → VK → Prop := fun xs H Q => ∃ p ys, xs = [.ref p] ∧ (SqL K H p ys ∨ SqT K H p ys) ∧ Q (.int ys.length) H
theorem ed_len (h : EvD ρ te σ H (.tuple ds)) : EvD ρ (tCB (rLen2 K) (tCons te tNil)) σ H (.int ds.length) := fun H1 a Q q =>
  h H1 a _ fun v H2 e2 t => by
    cases t with
    | tup hs hd => exact ⟨_, _, rfl, .inr hs, by rw [hd.len]; exact q _ H2 e2 (.int _)⟩
theorem eb_val {b : Bool} (h : EvD ρ te σ H (.bool b)) : EvB ρ (tB te) σ H b := fun H1 a Q q => h H1 a _ fun v H2 e2 t => by
  cases t
  exact ⟨b, rfl, q H2 e2⟩
theorem eb_test {b : Bool} (h : EvD ρ te σ H (.bool b)) : EvB ρ (tTest te) σ H b := fun H1 a Q q => h H1 a _ fun v H2 e2 t => by
  cases t
  exact ⟨b, rfl, q H2 e2⟩
theorem eb_yes : EvB ρ tYes σ H true := fun H1 a Q q => q H1 (ρ.refl (ρ.g2 a))
theorem eb_not {b : Bool} (h : EvB ρ tt σ H b) : EvB ρ (tNot tt) σ H (!b) := fun H1 a Q q => h H1 a _ fun H2 e2 => q H2 e2
theorem eb_or {a b : Bool} (h : EvB ρ tt σ H a) (k : a = false → EvB ρ tu σ H b) : EvB ρ (tOr tt tu) σ H (a || b) := fun H1 e Q q => h H1 e _ fun H2 e2 => by
  cases a with
  | true => exact iteT (q H2 e2)
  | false => exact iteF (k rfl H2 (ρ.trans e e2) _ fun H3 e3 => q H3 (ρ.trans e2 e3))
theorem eb_and {a b : Bool} (h : EvB ρ tt σ H a) (k : a = true → EvB ρ tu σ H b) : EvB ρ (tAnd tt tu) σ H (a && b) := fun H1 e Q q => h H1 e _ fun H2 e2 => by
  cases a with
  | false => exact iteF (q H2 e2)
  | true => exact iteT (k rfl H2 (ρ.trans e e2) _ fun H3 e3 => q H3 (ρ.trans e2 e3))
theorem ed_and {a b : Bool} (h : EvD ρ ta σ H (.bool a)) (k : a = true → EvD ρ tb σ H (.bool b)) : EvD ρ (tAndV ta tb) σ H (.bool (a && b)) := fun H1 e Q q => h H1 e _ fun v H2 e2 t => by
  cases t
  refine ⟨a, rfl, ?_⟩
  cases a with
  | false => exact iteF (q _ H2 e2 (.bl false))
  | true => exact iteT (k rfl H2 (ρ.trans e e2) _ fun v H3 e3 t3 => q v H3 (ρ.trans e2 e3) t3)
theorem ed_notV {a : Bool} (h : EvD ρ ta σ H (.bool a)) : EvD ρ (tNotV ta) σ H (.bool (!a)) := fun H1 e Q q => h H1 e _ fun v H2 e2 t => by
  cases t
  exact ⟨a, rfl, q _ H2 e2 (.bl _)⟩
theorem ed_ifx {b : Bool} (h : EvB ρ tt σ H b) (h1 : b = true → EvD ρ ta σ H d) (h2 : b = false → EvD ρ tb σ H d) : EvD ρ (tIf tt ta tb) σ H d := fun H1 e Q q => h H1 e _ fun H2 e2 => by
  cases b with
  | true => exact iteT (h1 rfl H2 (ρ.trans e e2) _ fun v H3 e3 t => q v H3 (ρ.trans e2 e3) t)
  | false => exact iteF (h2 rfl H2 (ρ.trans e e2) _ fun v H3 e3 t => q v H3 (ρ.trans e2 e3) t)
theorem ed_cmp {p : Int → Int → Bool} {i j : Int} (ha : EvD ρ ta σ H (.int i)) (hb : EvD ρ tb σ H (.int j)) : EvD ρ (tOp (rI0 fun i j => .bl (p i j)) ta tb) σ H (.bool (p i j)) :=
  ed_op ha hb fun v w H1 Q g tv tw q => by
    cases tv
    cases tw
    exact ⟨i, j, rfl, rfl, q _ H1 (ρ.refl g) (.bl _)⟩
theorem ed_ari {p : Int → Int → Int} {i j : Int} (ha : EvD ρ ta σ H (.int i)) (hb : EvD ρ tb σ H (.int j)) : EvD ρ (tOp (rI0 fun i j => .int (p i j)) ta tb) σ H (.int (p i j)) :=
  ed_op ha hb fun v w H1 Q g tv tw q => by
    cases tv
    cases tw
    exact ⟨i, j, rfl, rfl, q _ H1 (ρ.refl g) (.int _)⟩
theorem ed_ariC {C : Int → Int → Prop} {p : Int → Int → Int} {i j : Int} (ha : EvD ρ ta σ H (.int i)) (hb : EvD ρ tb σ H (.int j)) (hc : C i j) : EvD ρ (tOp (rI C fun i j => .int (p i j)) ta tb) σ H (.int (p i j)) :=
  ed_op ha hb fun v w H1 Q g tv tw q => by
    cases tv
    cases tw
    exact ⟨i, j, rfl, rfl, hc, q _ H1 (ρ.refl g) (.int _)⟩
theorem ed_eqI {i j : Int} (ha : EvD ρ ta σ H (.int i)) (hb : EvD ρ tb σ H (.int j)) : EvD ρ (tOp rEq ta tb) σ H (.bool (decide (i = j))) :=
  ed_op ha hb fun v w H1 Q g tv tw q => by
    cases tv
    cases tw
    refine ⟨rfl, ?_⟩
    rw [show decide ((V.int i) = V.int j) = decide (i = j) from by simp]
    exact q _ H1 (ρ.refl g) (.bl _)
theorem ed_neI {i j : Int} (ha : EvD ρ ta σ H (.int i)) (hb : EvD ρ tb σ H (.int j)) : EvD ρ (tOp rNe ta tb) σ H (.bool (!decide (i = j))) :=
  ed_op ha hb fun v w H1 Q g tv tw q => by
    cases tv
    cases tw
    refine ⟨rfl, ?_⟩
    rw [show decide ((V.int i) = V.int j) = decide (i = j) from by simp]
    exact q _ H1 (ρ.refl g) (.bl _)
theorem ed_chain {p q : Int → Int → Bool} {i j k : Int} (ha : EvD ρ ta σ H (.int i)) (hb : EvD ρ tb σ H (.int j)) (hc : EvD ρ tc σ H (.int k)) :
    EvD ρ (tChain (rI0 fun i j => .bl (p i j)) (rI0 fun i j => .bl (q i j)) ta tb tc) σ H (.bool (p i j && q j k)) := fun H1 e Q w => ha H1 e _ fun v H2 e2 t => hb H2 (ρ.trans e e2) _ fun v2 H3 e3 t3 => by
  cases t
  cases t3
  refine ⟨i, j, rfl, rfl, _, rfl, ?_⟩
  have e13 := ρ.trans e2 e3
  cases hp : p i j with
  | false => exact iteF (w _ H3 e13 (by rw [hp]; exact .bl false))
  | true => exact iteT (hc H3 (ρ.trans e e13) _ fun v4 H4 e4 t4 => by
      cases t4
      exact ⟨j, k, rfl, rfl, w _ H4 (ρ.trans e13 e4) (by rw [hp]; exact .bl _)⟩)
theorem ed_all {bs : List Bool} (h : EvL ρ te σ H (bs.map PyData.bool)) : EvD ρ (tCB (rAll K) (tCons te tNil)) σ H (.bool (bs.all id)) := fun H1 a Q q => h H1 a _ fun p xs H2 hp e2 hx ht => by
  have e := ht.bls
  subst e
  exact ⟨p, bs, rfl, Evl.sq_of hx, q _ H2 e2 (.bl _)⟩
theorem ed_tupL (h : EvL ρ te σ H ds) : EvD ρ (tThen te (kTup K)) σ H (.tuple ds) := fun H1 a Q q => h H1 a _ fun p xs H2 hp e2 hx ht => .inl ⟨p, xs, rfl, Evl.sq_of hx, fun r hr => by
  have e3 := fun o => ρ.mu (o := o) (ρ.refl (ρ.g2 e2)) hr
  exact q _ _ (ρ.trans e2 (e3 _)) (.tup (Evl.st_of upd_same) (TdAll.mono ρ (e3 _) _ ht))⟩
/-- one more item of a list that is being made -/
theorem more_item {H0 H4 : Hp} {D : Addr} {acc : List V} {v : V} (e4 : ρ.R H0 H4) (hD : H0 D = none) (h4 : H4 D = some (.lst acc)) (ta : TdAll K H4 acc ds) (tv : Td K H4 v d) :
    ρ.R H0 (upd H4 D (.lst (acc ++ [v]))) ∧ upd H4 D (.lst (acc ++ [v])) D = some (.lst (acc ++ [v])) ∧ TdAll K (upd H4 D (.lst (acc ++ [v]))) (acc ++ [v]) (ds ++ [d]) :=
  ⟨ρ.mu e4 hD, upd_same, TdAll.monoT (sqT_updL h4) _ (ta.app (.cons tv .nil))⟩
theorem take_one {α : Type} {l : List α} {i : Nat} {a : α} (h : l[i]? = some a) : l.take (i + 1) = l.take i ++ [a] := by
  rw [List.take_succ, h]
  rfl
/-- [e for x in t if ..], t a tuple of data -/
theorem el_lcT {tl : TE} {j : Nat} {vs : List Nat} (t : PyData → Bool) (e : PyData → PyData) (h : EvD ρ tl σ H (.tuple ds)) (hz : ds.length ≤ 40000) (hw : ∀ x, wipe ((wipe σ vs).set j (some x)) vs = wipe σ vs)
    (ht : ∀ d ∈ ds, ∀ v H1, ρ.R H H1 → Td K H1 v d → EvB ρ tt ((wipe σ vs).set j (some v)) H1 (t d))
    (he : ∀ d ∈ ds, t d = true → ∀ v H1, ρ.R H H1 → Td K H1 v d → EvD ρ te ((wipe σ vs).set j (some v)) H1 (e d)) :
    EvL ρ (tLc (iTup K tl) (gName j) tt te vs) σ H ((ds.filter t).map e) := fun H1 a Q q => h H1 a _ fun v H2 e2 td => by
  cases td with
  | @tup ad xs _ hs hd =>
    refine ⟨ad, rfl, ⟨xs, hs⟩, fun D hD => ?_⟩
    refine lc_tup (K := K) (a := ad) (xs := xs) (fun i H' => ∃ acc, ρ.R H2 H' ∧ H' D = some (.lst acc) ∧ TdAll K H' acc (((ds.take i).filter t).map e)) ⟨[], ρ.mu (ρ.refl (ρ.g2 e2)) hD, upd_same, .nil⟩ (fun i H' _ ⟨_, r, _⟩ => ρ.tup r hs) ?_ ?_
    · rintro i x H' hx ⟨acc, r, hl, ta⟩
      obtain ⟨d, hdi, tx⟩ := hd.get hx
      have mem : d ∈ ds := List.mem_of_getElem? hdi
      have r1 := ρ.trans a (ρ.trans e2 r)
      have tx' := Td.mono ρ r d tx
      refine ⟨hw x, ht d mem x H' r1 tx' H' (ρ.refl (ρ.g2 r)) _ fun H3 e3 => ?_⟩
      have okD := ρ.fresh (ρ.g2 e2) hD
      have hlen : acc.length < 50000 := by
        rw [ta.len, List.length_map]
        refine Nat.lt_of_le_of_lt (List.length_filter_le _ _) ?_
        rw [List.length_take]
        omega
      cases htd : t d with
      | false =>
        refine iteF ⟨acc, ρ.trans r e3, ρ.keep e3 okD hl, ?_⟩
        rw [take_one hdi, List.filter_append, show [d].filter t = [] by simp [htd], List.append_nil]
        exact TdAll.mono ρ e3 _ ta
      | true =>
        refine iteT (he d mem htd x H3 (ρ.trans r1 e3) (Td.mono ρ e3 d tx') H3 (ρ.refl (ρ.g2 e3)) _ fun y H4 e4 ty => ?_)
        have e34 := ρ.trans e3 e4
        have h4 := ρ.keep e34 okD hl
        refine ⟨acc, h4, Evl.sz_lt (by omega), ?_⟩
        obtain ⟨m1, m2, m3⟩ := more_item (ρ.trans r e34) hD h4 (TdAll.mono ρ e34 _ ta) ty
        refine ⟨acc ++ [y], m1, m2, ?_⟩
        rw [take_one hdi, List.filter_append, show [d].filter t = [d] by simp [htd], List.map_append]
        exact m3
    · rintro H' ⟨acc, r, hl, ta⟩
      rw [show ds.take xs.length = ds by rw [hd.len, List.take_length]] at ta
      exact q D acc H' (ρ.back e2 hD) (ρ.trans e2 r) hl ta
theorem el_lcT0 {tl : TE} {j : Nat} {vs : List Nat} (e : PyData → PyData) (h : EvD ρ tl σ H (.tuple ds)) (hz : ds.length ≤ 40000) (hw : ∀ x, wipe ((wipe σ vs).set j (some x)) vs = wipe σ vs)
    (he : ∀ d ∈ ds, ∀ v H1, ρ.R H H1 → Td K H1 v d → EvD ρ te ((wipe σ vs).set j (some v)) H1 (e d)) :
    EvL ρ (tLc (iTup K tl) (gName j) tYes te vs) σ H (ds.map e) := by
  have z := el_lcT (tt := tYes) (fun _ => true) e h hz hw (fun _ _ _ _ _ _ => eb_yes) (fun d hd _ => he d hd)
  rw [List.filter_eq_self.mpr (fun _ _ => rfl)] at z
  exact z
theorem EvL.is {es : List PyData} (h : EvL ρ te σ H ds) (e : ds = es) : EvL ρ te σ H es := e ▸ h
theorem EvD.is {e : PyData} (h : EvD ρ te σ H d) (q : d = e) : EvD ρ te σ H e := q ▸ h
theorem EvB.is {a b : Bool} (h : EvB ρ tt σ H a) (q : a = b) : EvB ρ tt σ H b := q ▸ h
/-- the items of a row -/
def rowOf : PyData → List PyData
  | .tuple ds => ds
  | _ => []
/-- [e for r in t for x in r], t a tuple of rows -/
theorem el_lc2T {tl tl1 : TE} {j j1 : Nat} {vs vs1 : List Nat} (e : PyData → PyData) (h : EvD ρ tl σ H (.tuple ds)) (hz : ds.length ≤ 1000) (hrow : ∀ d ∈ ds, ∃ rs, d = .tuple rs ∧ rs.length ≤ 1000)
    (hw : ∀ x, wipe ((wipe σ vs).set j (some x)) vs = wipe σ vs) (hw1 : ∀ x y, wipe ((wipe ((wipe σ vs).set j (some x)) vs1).set j1 (some y)) vs1 = wipe ((wipe σ vs).set j (some x)) vs1)
    (h1 : ∀ d ∈ ds, ∀ v H1, ρ.R H H1 → Td K H1 v d → EvD ρ tl1 ((wipe σ vs).set j (some v)) H1 d)
    (he : ∀ d ∈ ds, ∀ x ∈ rowOf d, ∀ v u H1, ρ.R H H1 → Td K H1 v d → Td K H1 u x → EvD ρ te ((wipe ((wipe σ vs).set j (some v)) vs1).set j1 (some u)) H1 (e x)) :
    EvL ρ (tLc2 (iTup K tl) (gName j) tYes (iTup K tl1) (gName j1) tYes te vs vs1) σ H ((ds.flatMap rowOf).map e) := fun H1 a Q q => h H1 a _ fun v H2 e2 td => by
  cases td with
  | @tup ad xs _ hs hd =>
    refine ⟨ad, rfl, ⟨xs, hs⟩, fun D hD => ?_⟩
    have okD := ρ.fresh (ρ.g2 e2) hD
    have cut : ∀ i, (ds.take i).length ≤ 1000 := fun i => by rw [List.length_take]; omega
    have small : ∀ l : List PyData, l.length ≤ 1000 → (∀ d ∈ l, d ∈ ds) → (l.flatMap rowOf).length ≤ l.length * 1000 := by
      intro l
      induction l with
      | nil => intro _ _; simp
      | cons d l ih =>
        intro hl hm
        rw [List.flatMap_cons, List.length_append, List.length_cons]
        have := ih (by simp at hl; omega) (fun d hd => hm d (List.mem_cons_of_mem _ hd))
        obtain ⟨rs, er, hr⟩ := hrow d (hm d List.mem_cons_self)
        have : (rowOf d).length ≤ 1000 := by rw [er]; exact hr
        omega
    have lenA : ∀ (i j : Nat) (acc : List V) (H' : Hp) (rs : List PyData), rs.length ≤ 1000 → TdAll K H' acc ((((ds.take i).flatMap rowOf) ++ rs.take j).map e) → acc.length < 2000000 := fun i j acc H' rs hr ta => by
      rw [ta.len, List.length_map, List.length_append, List.length_take]
      have := small (ds.take i) (cut i) (fun d hd => List.mem_of_mem_take hd)
      have := cut i
      have : (ds.take i).length * 1000 ≤ 1000 * 1000 := Nat.mul_le_mul_right _ (cut i)
      omega
    refine ⟨fun i m H' => m = xs.length - i ∧ i ≤ xs.length ∧ ∃ acc, ρ.R H2 H' ∧ H' D = some (.lst acc) ∧ TdAll K H' acc (((ds.take i).flatMap rowOf).map e),
      ⟨xs.length, by simp, Nat.zero_le _, [], ρ.mu (ρ.refl (ρ.g2 e2)) hD, upd_same, .nil⟩, ?_⟩
    rintro i m H' ⟨rfl, hi, acc, r, hl, ta⟩
    have hs' := ρ.tup r hs
    by_cases hlt : i < xs.length
    · refine .inr ⟨⟨xs, xs[i], hs', by simp [hlt]⟩, fun H' => ∃ acc, ρ.R H2 H' ∧ H' D = some (.lst acc) ∧ TdAll K H' acc (((ds.take (i + 1)).flatMap rowOf).map e),
        fun H' p' => ⟨xs.length - (i + 1), by omega, rfl, hlt, p'⟩, fun x H3 y => ?_⟩
      obtain ⟨y1, y2⟩ := y
      subst y1
      have hx := y2 xs hs'
      obtain ⟨d, hdi, tx⟩ := hd.get hx
      have mem : d ∈ ds := List.mem_of_getElem? hdi
      obtain ⟨rs, rfl, hr⟩ := hrow d mem
      have r1 := ρ.trans a (ρ.trans e2 r)
      have tx' := Td.mono ρ r _ tx
      refine ⟨hw x, ?_⟩
      dsimp only [tYes]
      rw [if_pos rfl]
      refine h1 _ mem x _ r1 tx' _ (ρ.refl (ρ.g2 r)) _ fun w H4 e4 tw => ?_
      cases tw with
      | @tup ar ys _ hys hyd =>
        refine ⟨ar, rfl, ⟨ys, hys⟩, ?_⟩
        have e4' := ρ.trans r e4
        refine ⟨fun k m H' => m = ys.length - k ∧ k ≤ ys.length ∧ ∃ acc, (∀ a xs, SqT K H4 a xs → SqT K H' a xs) ∧ ρ.R H2 H' ∧ H' D = some (.lst acc) ∧ TdAll K H' acc ((((ds.take i).flatMap rowOf) ++ rs.take k).map e), ⟨ys.length, by simp, Nat.zero_le _, acc, fun _ _ z => z, e4', ρ.keep e4 okD hl, by rw [List.take_zero, List.append_nil]; exact TdAll.mono ρ e4 _ ta⟩, ?_⟩
        rintro k m H5 ⟨rfl, hk, acc5, r45, r25, hl5, ta5⟩
        have hys5 := r45 _ _ hys
        have nextI : (ds.take (i + 1)).flatMap rowOf = (ds.take i).flatMap rowOf ++ rs := by
          rw [take_one hdi, List.flatMap_append]
          simp [rowOf]
        by_cases hlk : k < ys.length
        · refine .inr ⟨⟨ys, ys[k], hys5, by simp [hlk]⟩, fun H' => ∃ acc, (∀ a xs, SqT K H4 a xs → SqT K H' a xs) ∧ ρ.R H2 H' ∧ H' D = some (.lst acc) ∧ TdAll K H' acc ((((ds.take i).flatMap rowOf) ++ rs.take (k + 1)).map e),
            fun H' p' => ⟨ys.length - (k + 1), by omega, rfl, hlk, p'⟩, fun u H6 y => ?_⟩
          obtain ⟨y1, y2⟩ := y
          subst y1
          have hu := y2 ys hys5
          obtain ⟨du, hdu, tu⟩ := hyd.get hu
          have memu : du ∈ rowOf (.tuple rs) := List.mem_of_getElem? hdu
          refine ⟨hw1 x u, ?_⟩
          dsimp only [tYes]
          rw [if_pos rfl]
          refine he _ mem du memu x u _ (ρ.trans a (ρ.trans e2 r25)) (Td.mono ρ r25 _ tx) (Td.monoT r45 _ tu) _ (ρ.refl (ρ.g2 r25)) _ fun v7 H7 e7 t7 => ?_
          have h7 := ρ.keep e7 okD hl5
          have len5 := lenA i k acc5 _ rs hr ta5
          refine ⟨acc5, h7, Nat.lt_of_lt_of_le len5 (by rw [sizeLine_eq]; omega), ?_⟩
          obtain ⟨m1, m2, m3⟩ := more_item (ρ.trans r25 e7) hD h7 (TdAll.mono ρ e7 _ ta5) t7
          refine ⟨acc5 ++ [v7], fun a xs z => sqT_updL h7 a xs (ρ.tup e7 (r45 a xs z)), m1, m2, ?_⟩
          rw [take_one hdu, ← List.append_assoc, List.map_append]
          exact m3
        · have ek : k = ys.length := by omega
          subst ek
          refine .inl ⟨⟨ys, hys5, Nat.le_refl _⟩, acc5, r25, hl5, ?_⟩
          rw [show rs.take ys.length = rs by rw [hyd.len, List.take_length]] at ta5
          rw [nextI]
          exact ta5
    · have e : i = xs.length := by omega
      subst e
      rw [show ds.take xs.length = ds by rw [hd.len, List.take_length]] at ta
      exact .inl ⟨⟨xs, hs', Nat.le_refl _⟩, q D acc H' (ρ.back e2 hD) (ρ.trans e2 r) hl ta⟩
end
end DX

set_option Elab.async false
set_option linter.all false
set_option maxRecDepth 100000
set_option maxHeartbeats 2000000
/-! zip of two tuples in a comprehension; calls of defs over data -/
namespace DX
open PySem PySem.Spec PyProof.Rows L2
section
variable {K : PySem.W.Frag} {ρ : HR K} {te ta tb tc : TE} {tt tu : TT} {σ : L2.St} {H H' : Hp} {d x y z : PyData} {ds es : List PyData} {tsa : TA}
/-- [e for x, y in zip(t, u)], t and u tuples of data -/
theorem el_lcZ {j1 j2 : Nat} {vs : List Nat} (e : PyData → PyData → PyData) (h : EvDs ρ tsa σ H [.tuple ds, .tuple es]) (hz : ds.length ≤ 40000) (hw : ∀ x y, wipe (((wipe σ vs).set j1 (some x)).set j2 (some y)) vs = wipe σ vs)
    (he : ∀ p ∈ ds.zip es, ∀ v u H1, ρ.R H H1 → Td K H1 v p.1 → Td K H1 u p.2 → EvD ρ te (((wipe σ vs).set j1 (some v)).set j2 (some u)) H1 (e p.1 p.2)) :
    EvL ρ (tLc (RZ.iZipA K tsa) (gTup K 2 (gCons (gName j1) (gCons (gName j2) gNil))) tYes te vs) σ H ((ds.zip es).map fun p => e p.1 p.2) := fun H1 a Q q => h H1 a _ fun us H2 e2 tds => by
  cases tds with
  | cons t1 t2 =>
    cases t2 with
    | cons t2 t3 =>
      cases t3
      cases t1 with
      | @tup a1 xs _ hs1 hd1 =>
        cases t2 with
        | @tup a2 ys _ hs2 hd2 =>
          refine ⟨a1, a2, xs, ys, rfl, .inr ⟨hs1, hs2, fun D hD => ?_⟩⟩
          have okD := ρ.fresh (ρ.g2 e2) hD
          have lz : (ds.zip es).length = min xs.length ys.length := by rw [List.length_zip, hd1.len, hd2.len]
          have l1 := hd1.len
          have l2 := hd2.len
          refine ⟨fun i m H' => m = min xs.length ys.length - i ∧ i ≤ min xs.length ys.length ∧ ∃ acc, ρ.R H2 H' ∧ H' D = some (.lst acc) ∧ TdAll K H' acc (((ds.zip es).take i).map fun p => e p.1 p.2),
            ⟨min xs.length ys.length, by simp, Nat.zero_le _, [], ρ.mu (ρ.refl (ρ.g2 e2)) hD, upd_same, .nil⟩, ?_⟩
          rintro i m H' ⟨rfl, hi, acc, r, hl, ta⟩
          have k1 := ρ.tup r hs1
          have k2 := ρ.tup r hs2
          by_cases hlt : i < min xs.length ys.length
          · have b1 : i < xs.length := by omega
            have b2 : i < ys.length := by omega
            refine .inr ⟨⟨xs, ys, xs[i], ys[i], k1, k2, by simp [b1], by simp [b2]⟩, fun H' => ∃ acc, ρ.R H2 H' ∧ H' D = some (.lst acc) ∧ TdAll K H' acc (((ds.zip es).take (i + 1)).map fun p => e p.1 p.2),
              fun H' p' => ⟨min xs.length ys.length - (i + 1), by omega, rfl, hlt, p'⟩, fun v H3 yy => ?_⟩
            obtain ⟨T, x, y, rfl, hT, rfl, y1, y2⟩ := yy
            have x1 := y1 _ k1
            have x2 := y2 _ k2
            obtain ⟨dx, g1, tx⟩ := hd1.get x1
            obtain ⟨dy, g2, ty⟩ := hd2.get x2
            have gz : (ds.zip es)[i]? = some (dx, dy) := by
              rw [List.getElem?_zip_eq_some]
              exact ⟨g1, g2⟩
            have mem : (dx, dy) ∈ ds.zip es := List.mem_of_getElem? gz
            have e3 := ρ.mu (o := .tup [x, y]) (ρ.refl (ρ.g2 r)) hT
            have r3 := ρ.trans r e3
            have hl3 := ρ.keep e3 okD hl
            refine ⟨T, [x, y], rfl, Evl.st_of upd_same, rfl, x, [y], rfl, y, [], rfl, rfl, hw x y, ?_⟩
            dsimp only [tYes]
            rw [if_pos rfl]
            refine he _ mem x y _ (ρ.trans a (ρ.trans e2 r3)) (Td.mono ρ r3 _ tx) (Td.mono ρ r3 _ ty) _ (ρ.refl (ρ.g2 r3)) _ fun v4 H4 e4 t4 => ?_
            have h4 := ρ.keep e4 okD hl3
            have lacc : acc.length < 50000 := by
              rw [ta.len, List.length_map, List.length_take]
              omega
            refine ⟨acc, h4, Evl.sz_lt (by omega), ?_⟩
            obtain ⟨m1, m2, m3⟩ := more_item (ρ.trans r3 e4) hD h4 (TdAll.mono ρ (ρ.trans e3 e4) _ ta) t4
            refine ⟨acc ++ [v4], m1, m2, ?_⟩
            rw [take_one gz, List.map_append]
            exact m3
          · have ei : i = min xs.length ys.length := by omega
            subst ei
            refine .inl ⟨⟨xs, ys, k1, k2, by omega⟩, q D acc H' (ρ.back e2 hD) (ρ.trans e2 r) hl ?_⟩
            rw [← lz, List.take_length] at ta
            exact ta
/-- a def over data: f its answer -/
def SpD (K : PySem.W.Frag) (n : Nat) (f : List PyData → Option PyData) : Sp := fun vs H Q _ => ∃ ds d, TdAll K H vs ds ∧ vs.length = n ∧ f ds = some d ∧ ∀ v H', Evl.Ex H H' → Td K H' v d → Q v H'
/-- a reading that gives data whatever else goes on: what keeps all that is tracked is as good as ρ -/
theorem HR.ofEx (ρ : HR K) (hx : ∀ {H H'}, ρ.good H → Evl.Ex H H' → ρ.R H H') {H H' : Hp} (g : ρ.good H) (e : Evl.Ex H H') : ρ.R H H' := hx g e
theorem goEx {a : Addr} {H H' : Hp} (g : (hrG K a).good H) (e : Evl.Ex H H') : (hrG K a).R H H' := by
  obtain ⟨n, h⟩ := g
  exact ⟨⟨n, h⟩, ⟨n, e _ _ h⟩, fun p o _ z => e _ _ z⟩
theorem exEx {H H' : Hp} (_ : (hrE K).good H) (e : Evl.Ex H H') : (hrE K).R H H' := e
theorem ed_call (hx : ∀ {H H'}, ρ.good H → Evl.Ex H H' → ρ.R H H') {n : Nat} {f : List PyData → Option PyData} {E : XK} (h : EvDs ρ tsa σ H ds) (hl : ds.length = n) (hf : f ds = some d) : EvD ρ (tCall (SpD K n f) [] E tsa) σ H d := fun H1 a Q q =>
  h H1 a _ fun vs H2 e2 ts => by
    refine ⟨ds, d, by rw [List.append_nil]; exact ts, by rw [List.append_nil, ts.len, hl], hf, fun v H' e t => ?_⟩
    have e3 := hx (ρ.g2 e2) e
    exact q v H' (ρ.trans e2 e3) t
def isIB : PyData → Bool
  | .bool _ => true
  | .int _ => true
  | _ => false
def isBB : PyData → Bool
  | .bool _ => true
  | _ => false
def isTT : PyData → Bool
  | .tuple _ => true
  | _ => false
def isI : PyData → Bool
  | .int _ => true
  | _ => false
theorem kit_int : ∀ d : PyData, kitB (tyN d) "int" = some (isIB d)
  | .none => (by decide +kernel : kitB "NoneType" "int" = some false)
  | .bool _ => (by decide +kernel : kitB "bool" "int" = some true)
  | .int _ => (by decide +kernel : kitB "int" "int" = some true)
  | .str _ => (by decide +kernel : kitB "str" "int" = some false)
  | .list _ => (by decide +kernel : kitB "list" "int" = some false)
  | .tuple _ => (by decide +kernel : kitB "tuple" "int" = some false)
  | .dict _ => (by decide +kernel : kitB "dict" "int" = some false)
theorem kit_bool : ∀ d : PyData, kitB (tyN d) "bool" = some (isBB d)
  | .none => (by decide +kernel : kitB "NoneType" "bool" = some false)
  | .bool _ => (by decide +kernel : kitB "bool" "bool" = some true)
  | .int _ => (by decide +kernel : kitB "int" "bool" = some false)
  | .str _ => (by decide +kernel : kitB "str" "bool" = some false)
  | .list _ => (by decide +kernel : kitB "list" "bool" = some false)
  | .tuple _ => (by decide +kernel : kitB "tuple" "bool" = some false)
  | .dict _ => (by decide +kernel : kitB "dict" "bool" = some false)
theorem kit_tuple : ∀ d : PyData, kitB (tyN d) "tuple" = some (isTT d)
  | .none => (by decide +kernel : kitB "NoneType" "tuple" = some false)
  | .bool _ => (by decide +kernel : kitB "bool" "tuple" = some false)
  | .int _ => (by decide +kernel : kitB "int" "tuple" = some false)
  | .str _ => (by decide +kernel : kitB "str" "tuple" = some false)
  | .list _ => (by decide +kernel : kitB "list" "tuple" = some false)
  | .tuple _ => (by decide +kernel : kitB "tuple" "tuple" = some true)
  | .dict _ => (by decide +kernel : kitB "dict" "tuple" = some false)
theorem ed_isInt (h : EvD ρ te σ H d) : EvD ρ (tCB (rIsi K) (tCons te (tCons (tC (.ty "int")) tNil))) σ H (.bool (isIB d)) := ed_isi h (kit_int d)
theorem ed_isBool (h : EvD ρ te σ H d) : EvD ρ (tCB (rIsi K) (tCons te (tCons (tC (.ty "bool")) tNil))) σ H (.bool (isBB d)) := ed_isi h (kit_bool d)
theorem ed_isTup (h : EvD ρ te σ H d) : EvD ρ (tCB (rIsi K) (tCons te (tCons (tC (.ty "tuple")) tNil))) σ H (.bool (isTT d)) := ed_isi h (kit_tuple d)
theorem isI_eq : ∀ d : PyData, (isIB d && !isBB d) = isI d
  | .none => rfl
  | .bool _ => rfl
  | .int _ => rfl
  | .str _ => rfl
  | .list _ => rfl
  | .tuple _ => rfl
  | .dict _ => rfl
def inR (lo hi : Int) : PyData → Bool
  | .int i => decide (lo ≤ i) && decide (i ≤ hi)
  | _ => false
theorem isI_of : ∀ {d : PyData}, isI d = true → ∃ i, d = .int i
  | .int i, _ => ⟨i, rfl⟩
theorem isTT_of : ∀ {d : PyData}, isTT d = true → ∃ ds, d = .tuple ds
  | .tuple ds, _ => ⟨ds, rfl⟩
def f_is : List PyData → Option PyData
  | [d] => some (.bool (isI d))
  | _ => none
def f_in : List PyData → Option PyData
  | [d, .int lo, .int hi] => some (.bool (inR lo hi d))
  | _ => none
/-- each smaller than the next -/
def ups : List PyData → Bool
  | .int i :: .int j :: r => decide (i < j) && ups (.int j :: r)
  | _ => true
def ascR (lo hi : Int) : PyData → Bool
  | .tuple ds => ds.all (inR lo hi) && ups ds
  | _ => false
def f_asc : List PyData → Option PyData
  | [d, .int lo, .int hi] => some (.bool (ascR lo hi d))
  | _ => none
theorem sp_len {n : Nat} {f : List PyData → Option PyData} {ps : List Str} (hn : n = ps.length) : ∀ vs H Q E, SpD K n f vs H Q E → vs.length = ps.length := fun vs H Q E h => by
  obtain ⟨_, _, _, e, _⟩ := h
  rw [e, hn]
theorem ret_d {D : Ends} (g : ρ.good H) (h : EvD ρ te σ H d) (k : ∀ v H', ρ.R H H' → Td K H' v d → D.rt v H') : tRet te D σ H := h H (ρ.refl g) _ k
theorem ret_D {D : Ends} {e : PyData} (g : ρ.good H) (h : EvD ρ te σ H d) (k : ∀ v H', ρ.R H H' → Td K H' v e → D.rt v H') (q : d = e) : tRet te D σ H := h H (ρ.refl g) _ (q ▸ k)
/-- an argument list of one, two, three data -/
theorem td1 {vs : List V} {ds : List PyData} (h : TdAll K H vs ds) (hl : vs.length = 1) : ∃ v d, vs = [v] ∧ ds = [d] ∧ Td K H v d := by
  cases h with
  | nil => cases hl
  | cons h1 h2 =>
    cases h2 with
    | nil => exact ⟨_, _, rfl, rfl, h1⟩
    | cons _ _ => simp at hl
theorem td3 {vs : List V} {ds : List PyData} (h : TdAll K H vs ds) (hl : vs.length = 3) : ∃ v d v2 d2 v3 d3, vs = [v, v2, v3] ∧ ds = [d, d2, d3] ∧ Td K H v d ∧ Td K H v2 d2 ∧ Td K H v3 d3 := by
  cases h with
  | nil => cases hl
  | cons h1 h2 =>
    cases h2 with
    | nil => simp at hl
    | cons h3 h4 =>
      cases h4 with
      | nil => simp at hl
      | cons h5 h6 =>
        cases h6 with
        | nil => exact ⟨_, _, _, _, _, _, rfl, rfl, h1, h3, h5⟩
        | cons _ _ => simp at hl
theorem f3 {f : PyData → Int → Int → Bool} {d d2 d3 e : PyData} (h : (match [d, d2, d3] with | [d, .int lo, .int hi] => some (PyData.bool (f d lo hi)) | _ => none) = some e) : ∃ lo hi, d2 = .int lo ∧ d3 = .int hi ∧ e = .bool (f d lo hi) := by
  cases d2 <;> first | (cases h; done) | skip
  cases d3 <;> first | (cases h; done) | skip
  exact ⟨_, _, rfl, rfl, (Option.some.inj h).symm⟩
end
end DX

set_option Elab.async false
set_option linter.all false
set_option maxRecDepth 100000
set_option maxHeartbeats 2000000
/-! the checks' mirrors; statements over data -/
namespace DX
open PySem PySem.Spec PyProof.Rows L2 HX
/-- check_cloth's answer -/
def ckC : PyData → Option Str
  | .tuple rows => if rows.all isTT = false then some "form" else if (decide ((1 : Int) ≤ rows.length) && decide ((rows.length : Int) ≤ 24)) = false then some "picks"
    else if ((decide ((1 : Int) ≤ (rowOf (rows.headD .none)).length) && decide (((rowOf (rows.headD .none)).length : Int) ≤ 24)) && rows.all fun r => decide ((((rowOf r).length : Nat) : Int) = ((rowOf (rows.headD .none)).length : Nat))) = false then some "ends"
    else if (rows.flatMap rowOf).all (inR 0 1) = false then some "crossing" else none
  | _ => some "form"
/-- check_draft's answer -/
def ckD : PyData → Option Str
  | .tuple [.tuple th, .tuple ti, .tuple tr] => if ((decide ((1 : Int) ≤ th.length) && decide ((th.length : Int) ≤ 24)) && th.all (inR 0 15)) = false then some "threading"
    else if (decide ((ti.length : Int) ≤ 16) && ti.all (ascR 0 15)) = false then some "tieup"
    else if (decide ((1 : Int) ≤ tr.length) && decide ((tr.length : Int) ≤ 24)) = false then some "treadling"
    else if tr.all (ascR 0 ((ti.length : Int) - 1)) = false then some "treadling" else none
  | _ => some "form"
/-- no more than a thousand items in a row -/
def small : PyData → Prop
  | .tuple ds => ds.length ≤ 1000
  | _ => True
def smallAll (d : PyData) : Prop := small d ∧ ∀ x ∈ rowOf d, small x ∧ ∀ y ∈ rowOf x, small y
/-- what such a check promises -/
def spCk (K : PySem.W.Frag) (C : Addr) (ck : PyData → Option Str) : Sp := fun vs H Q E => ∃ v d, vs = [v] ∧ Td K H v d ∧ smallAll d ∧ (ck d = none → ∀ H', Evl.Ex H H' → Q .non H') ∧
  (∀ r, ck d = some r → ∀ H' dd, Evl.Ex H H' → H' dd = some (.xd [(("reason" : Str), .str r)]) → E (.ref C) (some dd) H')
theorem spCk_len {K : PySem.W.Frag} {C : Addr} {ck : PyData → Option Str} {ps : List Str} (hn : 1 = ps.length) : ∀ vs H Q E, spCk K C ck vs H Q E → vs.length = ps.length := fun vs H Q E h => by
  obtain ⟨_, _, rfl, _⟩ := h
  exact hn
section
variable {K : PySem.W.Frag} {ρ : HR K} {te ta tb tc : TE} {tt tu : TT} {σ : L2.St} {H H' : Hp} {d x y z : PyData} {ds es : List PyData} {tsa : TA} {D : Ends}
theorem ed_neg {i : Int} (h : EvD ρ te σ H (.int i)) : EvD ρ (tUn (rU fun i => .int (-i)) te) σ H (.int (-i)) := fun H1 a Q q => h H1 a _ fun v H2 e2 t => by
  cases t
  exact ⟨i, rfl, q _ H2 e2 (.int _)⟩
theorem if_d {c : TT} {t u : TS} {b : Bool} (g : ρ.good H) (h : EvB ρ c σ H b) (h1 : b = true → ∀ H1, ρ.R H H1 → t D σ H1) (h2 : b = false → ∀ H1, ρ.R H H1 → u D σ H1) : tIfS c t u D σ H := h H (ρ.refl g) _ fun H1 e => by
  cases b with
  | true => exact iteT (h1 rfl H1 e)
  | false => exact iteF (h2 rfl H1 e)
theorem raise_d {C : Addr} {W : WX} {s : Str} (g : ρ.good H) (h : EvD ρ te σ H (.str s)) (k : ∀ H' dd, ρ.R H H' → H' dd = some (.xd [(("reason" : Str), .str s)]) → W (.ref C) (some dd) σ H') : tRaiseR C W (tCons te tNil) D σ H :=
  h H (ρ.refl g) _ fun v H1 e t => by
    cases t
    exact ⟨_, rfl, fun dd hd => k _ dd (ρ.trans e (ρ.mu (ρ.refl (ρ.g2 e)) hd)) upd_same⟩
theorem atI_zero {α : Type} {x : α} {l : List α} : atI (x :: l) 0 = some x := by
  unfold atI ixN
  simp
theorem cut_init (ds : List PyData) : cutD ds none (some (-1)) = ds.dropLast := by
  have e : HT.sIx ds.length ds.length (some (-1)) = ds.length - 1 := by
    show (if (-1 : Int) < 0 then ((-1 : Int) + (ds.length : Int)).toNat else min (-1 : Int).toNat ds.length) = _
    rw [if_pos (by decide)]
    omega
  unfold cutD
  rw [e, HT.sIx_none, List.dropLast_eq_take]
  simp
theorem cut_tail (ds : List PyData) : cutD ds (some 1) none = ds.drop 1 := by
  have e : HT.sIx ds.length 0 (some 1) = min 1 ds.length := by
    show (if (1 : Int) < 0 then ((1 : Int) + (ds.length : Int)).toNat else min (1 : Int).toNat ds.length) = _
    rw [if_neg (by decide)]
    rfl
  unfold cutD
  rw [e, HT.sIx_none]
  cases ds with
  | nil => rfl
  | cons x l =>
    rw [show min 1 (x :: l).length = 1 by simp]
    simp
def ltD : PyData → PyData → Bool
  | .int i, .int j => decide (i < j)
  | _, _ => false
theorem ups_zip : ∀ {ds : List PyData}, ds.all isI = true → ((ds.dropLast.zip (ds.drop 1)).all fun p => ltD p.1 p.2) = ups ds
  | [], _ => rfl
  | [x], _ => by cases x <;> rfl
  | x :: y :: r, h => by
    rw [List.all_cons, List.all_cons] at h
    obtain ⟨hx, h2⟩ := Bool.and_eq_true_iff.mp h
    obtain ⟨hy, hr⟩ := Bool.and_eq_true_iff.mp h2
    clear h
    obtain ⟨i, rfl⟩ := isI_of hx
    obtain ⟨j, rfl⟩ := isI_of hy
    have ih := ups_zip (ds := .int j :: r) (by rw [List.all_cons]; exact h2)
    show (((PyData.int i :: (PyData.int j :: r).dropLast).zip (PyData.int j :: r)).all fun p => ltD p.1 p.2) = (decide (i < j) && ups (.int j :: r))
    rw [← ih]
    rfl
theorem inR_isI {lo hi : Int} {d : PyData} (h : inR lo hi d = true) : isI d = true := by
  cases d <;> first | rfl | cases h
theorem all_map_bool {f : PyData → Bool} (l : List PyData) : l.map (fun d => PyData.bool (f d)) = (l.map f).map PyData.bool := by
  rw [List.map_map]
  rfl
theorem all_id {f : PyData → Bool} (l : List PyData) : (l.map f).all id = l.all f := by
  rw [List.all_map]
  rfl
/-- all([e for ..]) -/
theorem ed_allM {te : TE} {f : PyData → Bool} (h : EvL ρ te σ H (ds.map fun d => .bool (f d))) : EvD ρ (tCB (rAll K) (tCons te tNil)) σ H (.bool (ds.all f)) := by
  rw [all_map_bool] at h
  exact (ed_all h).is (by rw [all_id])
end
end DX

set_option Elab.async false
set_option linter.all false
set_option maxRecDepth 100000
set_option maxHeartbeats 2000000
/-! short words for built-ins -/
namespace DX
open PySem PySem.Spec PyProof.Rows L2 HX
section
variable {X : Cx} {e : Expr} {te : TE} {p q pos : Pos}
theorem pLen (hm : X.mg "len" = none) (he : PE X e te) (hg : Gl X "len" := by rfl) (h1 : starEach (e :: []) X.env = (false, eval e X.env) :: starEach [] X.env := by rfl) (h2 : (backTo pos (starEach [] X.env)).any (·.1) = false := by rfl)
    (h3 : starEach [e] X.env = (false, eval e X.env) :: starEach [] X.env := by rfl) :
    PE X (.Call (.Name "len" p) [e] [] pos) (tCB (fun xs H Q => ∃ p ys, xs = [.ref p] ∧ (SqL X.K H p ys ∨ SqT X.K H p ys) ∧ Q (.int ys.length) H) (tCons te tNil)) :=
  pe_callB call_len_seq hg hm Boot.«len» (pa_cons he pa_nil h3) (by decide) (by decide) h1 h2
theorem pAll (hc : X.calm = true) (hm : X.mg "all" = none) (he : PE X e te) (hg : Gl X "all" := by rfl) (h1 : starEach (e :: []) X.env = (false, eval e X.env) :: starEach [] X.env := by rfl) (h2 : (backTo pos (starEach [] X.env)).any (·.1) = false := by rfl)
    (h3 : starEach [e] X.env = (false, eval e X.env) :: starEach [] X.env := by rfl) :
    PE X (.Call (.Name "all" p) [e] [] pos) (tCB (rAll X.K) (tCons te tNil)) := pe_callB (cr_all hc) hg hm Boot.«all» (pa_cons he pa_nil h3) (by decide) (by decide) h1 h2
theorem pIsTup (hm : X.mg "isinstance" = none) (ht : X.mg "tuple" = none) (he : PE X e te) (hg : Gl X "isinstance" := by rfl) (hgt : Gl X "tuple" := by rfl)
    (h1 : starEach (e :: [.Name "tuple" q]) X.env = (false, eval e X.env) :: starEach [.Name "tuple" q] X.env := by rfl) (h2 : (backTo pos (starEach [.Name "tuple" q] X.env)).any (·.1) = false := by rfl)
    (h4 : starEach [Expr.Name "tuple" q] X.env = (false, eval (.Name "tuple" q) X.env) :: starEach [] X.env := by rfl) :
    PE X (.Call (.Name "isinstance" p) [e, .Name "tuple" q] [] pos) (tCB (rIsi X.K) (tCons te (tCons (tC (.ty "tuple")) tNil))) :=
  pe_callB call_isi hg hm Boot.«isinstance» (pa_cons he (pa_cons (pe_bltn (v := .ty "tuple") hgt ht Boot.«tuple» rfl) pa_nil h4) h1) (by decide) (by decide) h1 h2
end
section
variable {K : PySem.W.Frag} {ρ : HR K} {te ta tb tc : TE} {tt tu : TT} {σ : L2.St} {H H' : Hp} {d x y z : PyData} {ds es : List PyData} {tsa : TA} {D : Ends}
theorem seq_if {c : TT} {t u v : TS} {b : Bool} (g : ρ.good H) (h : EvB ρ c σ H b) (h1 : b = true → ∀ H1, ρ.R H H1 → t { D with nx := v D } σ H1) (h2 : b = false → ∀ H1, ρ.R H H1 → u { D with nx := v D } σ H1) : tSeq (tIfS c t u) v D σ H := if_d (D := { D with nx := v D }) g h h1 h2
/-- a def over data of which pre holds -/
def SpP (K : PySem.W.Frag) (n : Nat) (pre : List PyData → Prop) (f : List PyData → Option PyData) : Sp := fun vs H Q _ => ∃ ds d, TdAll K H vs ds ∧ vs.length = n ∧ pre ds ∧ f ds = some d ∧ ∀ v H', Evl.Ex H H' → Td K H' v d → Q v H'
theorem spP_len {n : Nat} {pre : List PyData → Prop} {f : List PyData → Option PyData} {ps : List Str} (hn : n = ps.length) : ∀ vs H Q E, SpP K n pre f vs H Q E → vs.length = ps.length := fun vs H Q E h => by
  obtain ⟨_, _, _, e, _⟩ := h
  rw [e, hn]
theorem ed_callP (hx : ∀ {H H'}, ρ.good H → Evl.Ex H H' → ρ.R H H') {n : Nat} {pre : List PyData → Prop} {f : List PyData → Option PyData} {E : XK} (h : EvDs ρ tsa σ H ds) (hl : ds.length = n) (hp : pre ds) (hf : f ds = some d) : EvD ρ (tCall (SpP K n pre f) [] E tsa) σ H d := fun H1 a Q q =>
  h H1 a _ fun vs H2 e2 ts => by
    refine ⟨ds, d, by rw [List.append_nil]; exact ts, by rw [List.append_nil, ts.len, hl], hp, hf, fun v H' e t => ?_⟩
    have e3 := hx (ρ.g2 e2) e
    exact q v H' (ρ.trans e2 e3) t
theorem seq_ifN {c : TT} {t v : TS} {b : Bool} (g : ρ.good H) (h : EvB ρ c σ H b) (h1 : b = true → ∀ H1, ρ.R H H1 → t { D with nx := v D } σ H1) (h2 : b = false → ∀ H1, ρ.R H H1 → v D σ H1) : tSeq (tIfS c t tNext) v D σ H := if_d (D := { D with nx := v D }) g h h1 h2
theorem if_dN {c : TT} {t : TS} {b : Bool} (g : ρ.good H) (h : EvB ρ c σ H b) (h1 : b = true → ∀ H1, ρ.R H H1 → t D σ H1) (h2 : b = false → ∀ H1, ρ.R H H1 → D.nx σ H1) : tIfS c t tNext D σ H := if_d g h h1 h2
theorem ckC_form {rows : List PyData} (h : rows.all isTT = false) : ckC (.tuple rows) = some ("form" : Str) := by
  show (if rows.all isTT = false then some ("form" : Str) else _) = _
  rw [if_pos h]
theorem ckC_other {d : PyData} (h : isTT d = false) : ckC d = some ("form" : Str) := by
  cases d <;> first | rfl | cases h
theorem ckD_form {d : PyData} (h : ∀ th ti tr, d ≠ .tuple [.tuple th, .tuple ti, .tuple tr]) : ckD d = some ("form" : Str) := by
  unfold ckD
  split
  · exact absurd rfl (h _ _ _)
  · rfl
theorem td_three {v : V} {x y z : PyData} (t : Td K H v (.tuple [x, y, z])) : ∃ a v1 v2 v3, v = .ref a ∧ SqT K H a [v1, v2, v3] ∧ Td K H v1 x ∧ Td K H v2 y ∧ Td K H v3 z := by
  cases t with
  | tup hs hd =>
    cases hd with
    | cons t1 hd =>
      cases hd with
      | cons t2 hd =>
        cases hd with
        | cons t3 hd =>
          cases hd
          exact ⟨_, _, _, _, rfl, hs, t1, t2, t3⟩
theorem td_two {v : V} {x y : PyData} (t : Td K H v (.tuple [x, y])) : ∃ a v1 v2, v = .ref a ∧ SqT K H a [v1, v2] ∧ Td K H v1 x ∧ Td K H v2 y := by
  cases t with
  | tup hs hd =>
    cases hd with
    | cons t1 hd =>
      cases hd with
      | cons t2 hd =>
        cases hd
        exact ⟨_, _, _, rfl, hs, t1, t2⟩
theorem gt_not_le {n : Int} {m : Int} : (!decide (n ≤ m)) = decide (m < n) := by
  by_cases h : n ≤ m
  · rw [decide_eq_true h, decide_eq_false (by omega)]
    rfl
  · rw [decide_eq_false h, decide_eq_true (by omega)]
    rfl
end
end DX

set_option Elab.async false
set_option linter.all false
set_option maxRecDepth 100000
set_option maxHeartbeats 2000000
/-! what is never reached; defs whose first argument is wrong -/
namespace DX
open PySem PySem.Spec PyProof.Rows L2 HX
section
variable {X : Cx}
theorem jSs {st : List Stmt} : PSs X st (fun _ _ _ => False) := ⟨fun _ _ _ _ _ _ h => h.elim⟩
theorem jE {e : Expr} : PE X e (fun _ _ _ => False) := ⟨fun _ _ _ _ _ _ h => h.elim⟩
theorem jG {e : Expr} : PG X e (fun _ _ _ _ => False) := ⟨fun _ _ _ _ _ _ _ _ _ h => h.elim⟩
theorem jT {es : List Expr} : PTs X es (fun _ _ _ => False) := ⟨fun _ _ _ _ _ _ h => h.elim⟩
theorem jA {es : List Expr} : PA X es (fun _ _ _ => False) := ⟨fun _ _ _ _ _ _ _ h => h.elim⟩
end
/-- a wrong first argument: the check's error leaves -/
def spBad (K : PySem.W.Frag) (C : Addr) (ck : PyData → Option Str) (n : Nat) : Sp := fun vs H Q E => ∃ v rest d r, vs = v :: rest ∧ vs.length = n ∧ Td K H v d ∧ smallAll d ∧ ck d = some r ∧
  ∀ H' dd, Evl.Ex H H' → H' dd = some (.xd [(("reason" : Str), .str r)]) → E (.ref C) (some dd) H'
theorem spBad_len {K : PySem.W.Frag} {C : Addr} {ck : PyData → Option Str} {n : Nat} {ps : List Str} (hn : n = ps.length) : ∀ vs H Q E, spBad K C ck n vs H Q E → vs.length = ps.length := fun vs H Q E h => by
  obtain ⟨_, _, _, _, _, e, _⟩ := h
  rw [e, hn]
/-- a wrong first argument, or a right first and a wrong second -/
def spBad2 (K : PySem.W.Frag) (C : Addr) (ck : PyData → Option Str) (n : Nat) : Sp := fun vs H Q E => ∃ v v2 rest d r, vs = v :: v2 :: rest ∧ vs.length = n ∧ Td K H v d ∧ smallAll d ∧
  (ck d = some r ∨ (ck d = none ∧ ∃ d2, Td K H v2 d2 ∧ smallAll d2 ∧ ck d2 = some r)) ∧
  ∀ H' dd, Evl.Ex H H' → H' dd = some (.xd [(("reason" : Str), .str r)]) → E (.ref C) (some dd) H'
theorem spBad2_len {K : PySem.W.Frag} {C : Addr} {ck : PyData → Option Str} {n : Nat} {ps : List Str} (hn : n = ps.length) : ∀ vs H Q E, spBad2 K C ck n vs H Q E → vs.length = ps.length := fun vs H Q E h => by
  obtain ⟨_, _, _, _, _, _, e, _⟩ := h
  rw [e, hn]
section
variable {K : PySem.W.Frag} {C : Addr} {ck : PyData → Option Str} {v : V} {d : PyData} {r : Str} {H : Hp} {Q : VK} {E : XK}
/-- the check is asked with a wrong value -/
theorem ck_bad (t : Td K H v d) (s : smallAll d) (c : ck d = some r) (k : ∀ H' dd, Evl.Ex H H' → H' dd = some (.xd [(("reason" : Str), .str r)]) → E (.ref C) (some dd) H') : spCk K C ck [v] H Q E :=
  ⟨v, d, rfl, t, s, (fun z => by rw [c] at z; cases z), fun r' z H' dd e h => by
    rw [c] at z
    cases z
    exact k H' dd e h⟩
theorem ck_good (t : Td K H v d) (s : smallAll d) (c : ck d = none) (k : ∀ H', Evl.Ex H H' → Q .non H') : spCk K C ck [v] H Q E :=
  ⟨v, d, rfl, t, s, (fun _ => k), fun r' z => by rw [c] at z; cases z⟩
end
end DX

set_option Elab.async false
set_option linter.all false
set_option maxRecDepth 100000
set_option maxHeartbeats 2000000
/-! exact values, some data of a kind, effects by a counter -/
namespace DX
open PySem PySem.Spec PyProof.Rows L2 HX
section
variable {K : PySem.W.Frag} {ρ : HR K} {te ta tb tc tn : TE} {tt tu : TT} {σ : L2.St} {H H' : Hp} {d x y z : PyData} {ds es : List PyData} {tsa : TA} {D : Ends} {v : V}
def EvV (ρ : HR K) (te : TE) (σ : L2.St) (H : Hp) (v : V) : Prop := ∀ H1, ρ.R H H1 → ∀ Q : VK, (∀ H2, ρ.R H1 H2 → Q v H2) → te σ H1 Q
/-- a new list of data of which P holds -/
def EvLP (ρ : HR K) (te : TE) (σ : L2.St) (H : Hp) (P : List PyData → Prop) : Prop := ∀ H1, ρ.R H H1 → ∀ Q : VK, (∀ p xs ds H2, H1 p = none → ρ.R H1 H2 → H2 p = some (.lst xs) → TdAll K H2 xs ds → P ds → Q (.ref p) H2) → te σ H1 Q
theorem ev_var {i : Nat} (h : σ[i]? = some (some v)) : EvV ρ (tVar i) σ H v := fun H1 a Q q => ⟨v, h, q H1 (ρ.refl (ρ.g2 a))⟩
theorem EvP.mono {P : PyData → Prop} (h : EvP ρ te σ H P) (e : ρ.R H H') : EvP ρ te σ H' P := fun H1 a => h H1 (ρ.trans e a)
theorem EvD.p {P : PyData → Prop} (h : EvD ρ te σ H d) (p : P d) : EvP ρ te σ H P := fun H1 a Q q => h H1 a _ fun v H2 e t => q v d H2 e t p
theorem EvP.imp {P P' : PyData → Prop} (h : EvP ρ te σ H P) (k : ∀ d, P d → P' d) : EvP ρ te σ H P' := fun H1 a Q q => h H1 a _ fun v d H2 e t p => q v d H2 e t (k d p)
theorem EvD.i {i : Int} (h : EvD ρ te σ H (.int i)) : EvV ρ te σ H (.int i) := fun H1 a Q q => h H1 a _ fun v H2 e t => by
  cases t
  exact q H2 e
theorem EvV.i {i : Int} (h : EvV ρ te σ H (.int i)) : EvD ρ te σ H (.int i) := fun H1 a Q q => h H1 a _ fun H2 e => q _ H2 e (.int i)
theorem ed_lenL {b : Addr} {xs : List V} (h : EvV ρ te σ H (.ref b)) (s : ∀ H1, ρ.R H H1 → SqL K H1 b xs) : EvD ρ (tCB (rLen2 K) (tCons te tNil)) σ H (.int xs.length) := fun H1 a Q q =>
  h H1 a _ fun H2 e2 => ⟨b, xs, rfl, .inl (s H2 (ρ.trans a e2)), q _ H2 e2 (.int _)⟩
theorem ed_ixL {b : Addr} {xs : List V} {i : Int} (h : EvV ρ ta σ H (.ref b)) (k : EvD ρ tb σ H (.int i)) (s : ∀ H1, ρ.R H H1 → SqL K H1 b xs) (hi : atI xs i = some v) (hd : ∀ H1, ρ.R H H1 → Td K H1 v d) : EvD ρ (tOp (rIxL K) ta tb) σ H d := fun H1 a Q q =>
  h H1 a _ fun H2 e2 => k H2 (ρ.trans a e2) _ fun w H3 e3 t => by
    cases t
    exact ⟨b, xs, i, v, rfl, rfl, s H3 (ρ.trans a (ρ.trans e2 e3)), hi, q v H3 (ρ.trans e2 e3) (hd H3 (ρ.trans a (ρ.trans e2 e3)))⟩
theorem ed_int1 {i : Int} (h : EvD ρ te σ H (.int i)) : EvD ρ (tCB (fun xs H Q => (∃ i, xs = [V.int i] ∧ Q (.int i) H) ∨ ∃ k, xs = [V.bl k] ∧ Q (.int (if k then 1 else 0)) H) (tCons te tNil)) σ H (.int i) := fun H1 a Q q => h H1 a _ fun v H2 e2 t => by
  cases t
  exact .inl ⟨i, rfl, q _ H2 e2 (.int i)⟩
theorem ed_abs {i : Int} (h : EvD ρ te σ H (.int i)) : EvD ρ (tCB (fun xs H Q => ∃ i, xs = [V.int i] ∧ Q (.int (if i < 0 then -i else i)) H) (tCons te tNil)) σ H (.int (if i < 0 then -i else i)) := fun H1 a Q q => h H1 a _ fun v H2 e2 t => by
  cases t
  exact ⟨i, rfl, q _ H2 e2 (.int _)⟩
theorem ep_int1 {P : Int → Prop} (h : EvP ρ te σ H (fun d => ∃ i, d = .int i ∧ P i)) : EvP ρ (tCB (fun xs H Q => (∃ i, xs = [V.int i] ∧ Q (.int i) H) ∨ ∃ k, xs = [V.bl k] ∧ Q (.int (if k then 1 else 0)) H) (tCons te tNil)) σ H (fun d => ∃ i, d = .int i ∧ P i) := fun H1 a Q q => h H1 a _ fun v d H2 e2 t p => by
  obtain ⟨i, rfl, p⟩ := p
  cases t
  exact .inl ⟨i, rfl, q _ _ H2 e2 (.int i) ⟨i, rfl, p⟩⟩
/-- an operator on some data -/
theorem ep_op {r : R2} {P P2 P3 : PyData → Prop} (ha : EvP ρ ta σ H P) (hb : EvP ρ tb σ H P2)
    (hr : ∀ v w d e H1 (Q : VK), ρ.R H H1 → Td K H1 v d → Td K H1 w e → P d → P2 e → (∀ u z H2, ρ.R H1 H2 → Td K H2 u z → P3 z → Q u H2) → r v w H1 Q) : EvP ρ (tOp r ta tb) σ H P3 := fun H1 a Q q =>
  ha H1 a _ fun v d H2 e2 tv p => hb H2 (ρ.trans a e2) _ fun w e H3 e3 tw p2 => hr v w d e H3 Q (ρ.trans a (ρ.trans e2 e3)) (Td.mono ρ e3 d tv) tw p p2 fun u z H4 e4 tu p3 => q u z H4 (ρ.trans e2 (ρ.trans e3 e4)) tu p3
abbrev isN (P : Int → Prop) : PyData → Prop := fun d => ∃ i, d = .int i ∧ P i
theorem ep_ari {p : Int → Int → Int} {P P2 P3 : Int → Prop} (ha : EvP ρ ta σ H (isN P)) (hb : EvP ρ tb σ H (isN P2)) (h : ∀ i j, P i → P2 j → P3 (p i j)) : EvP ρ (tOp (rI0 fun i j => .int (p i j)) ta tb) σ H (isN P3) :=
  ep_op ha hb fun v w d e H1 Q g tv tw p1 p2 q => by
    obtain ⟨i, rfl, p1⟩ := p1
    obtain ⟨j, rfl, p2⟩ := p2
    cases tv
    cases tw
    exact ⟨i, j, rfl, rfl, q _ _ H1 (ρ.refl (ρ.g2 g)) (.int _) ⟨_, rfl, h i j p1 p2⟩⟩
theorem ep_ariC {C : Int → Int → Prop} {p : Int → Int → Int} {P P2 P3 : Int → Prop} (ha : EvP ρ ta σ H (isN P)) (hb : EvP ρ tb σ H (isN P2)) (h : ∀ i j, P i → P2 j → C i j ∧ P3 (p i j)) : EvP ρ (tOp (rI C fun i j => .int (p i j)) ta tb) σ H (isN P3) :=
  ep_op ha hb fun v w d e H1 Q g tv tw p1 p2 q => by
    obtain ⟨i, rfl, p1⟩ := p1
    obtain ⟨j, rfl, p2⟩ := p2
    cases tv
    cases tw
    obtain ⟨c, p3⟩ := h i j p1 p2
    exact ⟨i, j, rfl, rfl, c, q _ _ H1 (ρ.refl (ρ.g2 g)) (.int _) ⟨_, rfl, p3⟩⟩
theorem ep_if {P : PyData → Prop} {b : Bool} (h : EvB ρ tt σ H b) (h1 : b = true → EvP ρ ta σ H P) (h2 : b = false → EvP ρ tb σ H P) : EvP ρ (tIf tt ta tb) σ H P := fun H1 e Q q => h H1 e _ fun H2 e2 => by
  cases b with
  | true => exact iteT (h1 rfl H2 (ρ.trans e e2) _ fun v d H3 e3 t => q v d H3 (ρ.trans e2 e3) t)
  | false => exact iteF (h2 rfl H2 (ρ.trans e e2) _ fun v d H3 e3 t => q v d H3 (ρ.trans e2 e3) t)
/-- a test with an answer that is not told -/
def EvB2 (ρ : HR K) (tt : TT) (σ : L2.St) (H : Hp) : Prop := ∀ H1, ρ.R H H1 → ∀ Q : Bool → Hp → Prop, (∀ b H2, ρ.R H1 H2 → Q b H2) → tt σ H1 Q
theorem ep_if2 {P : PyData → Prop} (h : EvB2 ρ tt σ H) (h1 : EvP ρ ta σ H P) (h2 : EvP ρ tb σ H P) : EvP ρ (tIf tt ta tb) σ H P := fun H1 e Q q => h H1 e _ fun b H2 e2 => by
  cases b with
  | true => exact iteT (h1 H2 (ρ.trans e e2) _ fun v d H3 e3 t => q v d H3 (ρ.trans e2 e3) t)
  | false => exact iteF (h2 H2 (ρ.trans e e2) _ fun v d H3 e3 t => q v d H3 (ρ.trans e2 e3) t)
theorem eb2_eqI {P P2 : Int → Prop} (ha : EvP ρ ta σ H (isN P)) (hb : EvP ρ tb σ H (isN P2)) : EvB2 ρ (tTest (tOp rEq ta tb)) σ H := fun H1 a Q q =>
  ha H1 a _ fun v d H2 e2 tv p => hb H2 (ρ.trans a e2) _ fun w e H3 e3 tw p2 => by
    obtain ⟨i, rfl, p⟩ := p
    obtain ⟨j, rfl, p2⟩ := p2
    cases tv
    cases tw
    exact ⟨rfl, _, rfl, q _ H3 (ρ.trans e2 e3)⟩
theorem eb2_neI {P P2 : Int → Prop} (ha : EvP ρ ta σ H (isN P)) (hb : EvP ρ tb σ H (isN P2)) : EvB2 ρ (tTest (tOp rNe ta tb)) σ H := fun H1 a Q q =>
  ha H1 a _ fun v d H2 e2 tv p => hb H2 (ρ.trans a e2) _ fun w e H3 e3 tw p2 => by
    obtain ⟨i, rfl, p⟩ := p
    obtain ⟨j, rfl, p2⟩ := p2
    cases tv
    cases tw
    exact ⟨rfl, _, rfl, q _ H3 (ρ.trans e2 e3)⟩
/-! statements -/
theorem q_set {i : Nat} {tz : TS} (g : ρ.good H) (h : EvD ρ te σ H d) (k : ∀ v H1, ρ.R H H1 → Td K H1 v d → tz D (σ.set i (some v)) H1) : tSeq (tAsg te (gName i)) tz D σ H := h H (ρ.refl g) _ fun v H1 e t => k v H1 e t
theorem q_setP {i : Nat} {tz : TS} {P : PyData → Prop} (g : ρ.good H) (h : EvP ρ te σ H P) (k : ∀ v d H1, ρ.R H H1 → Td K H1 v d → P d → tz D (σ.set i (some v)) H1) : tSeq (tAsg te (gName i)) tz D σ H := h H (ρ.refl g) _ fun v d H1 e t p => k v d H1 e t p
theorem q_setL {i : Nat} {tz : TS} (g : ρ.good H) (h : EvL ρ te σ H ds) (k : ∀ p xs H1, H p = none → ρ.R H H1 → H1 p = some (.lst xs) → TdAll K H1 xs ds → tz D (σ.set i (some (.ref p))) H1) : tSeq (tAsg te (gName i)) tz D σ H := h H (ρ.refl g) _ fun p xs H1 hp e hx t => k p xs H1 hp e hx t
theorem q_setLP {i : Nat} {tz : TS} {P : List PyData → Prop} (g : ρ.good H) (h : EvLP ρ te σ H P) (k : ∀ p xs ds H1, H p = none → ρ.R H H1 → H1 p = some (.lst xs) → TdAll K H1 xs ds → P ds → tz D (σ.set i (some (.ref p))) H1) : tSeq (tAsg te (gName i)) tz D σ H := h H (ρ.refl g) _ fun p xs ds H1 hp e hx t pd => k p xs ds H1 hp e hx t pd
theorem s_set {i : Nat} (g : ρ.good H) (h : EvD ρ te σ H d) (k : ∀ v H1, ρ.R H H1 → Td K H1 v d → D.nx (σ.set i (some v)) H1) : tAsg te (gName i) D σ H := h H (ρ.refl g) _ fun v H1 e t => k v H1 e t
theorem s_setP {i : Nat} {P : PyData → Prop} (g : ρ.good H) (h : EvP ρ te σ H P) (k : ∀ v d H1, ρ.R H H1 → Td K H1 v d → P d → D.nx (σ.set i (some v)) H1) : tAsg te (gName i) D σ H := h H (ρ.refl g) _ fun v d H1 e t p => k v d H1 e t p
theorem ret_p {P : PyData → Prop} (g : ρ.good H) (h : EvP ρ te σ H P) (k : ∀ v d H', ρ.R H H' → Td K H' v d → P d → D.rt v H') : tRet te D σ H := h H (ρ.refl g) _ k
/-! comprehensions over a range -/
theorem elp_lcR {j : Nat} {vs : List Nat} {N : Nat → Prop} {P : PyData → Prop} (h : EvP ρ tn σ H (fun d => ∃ n : Nat, d = .int n ∧ n ≤ 1000 ∧ N n)) (hw : ∀ x, wipe ((wipe σ vs).set j (some x)) vs = wipe σ vs)
    (he : ∀ n i : Nat, N n → i < n → ∀ H1, ρ.R H H1 → EvP ρ te ((wipe σ vs).set j (some (.int (i : Int)))) H1 P) : EvLP ρ (tLc (iRng1 (tCons tn tNil)) (gName j) tYes te vs) σ H (fun ds => N ds.length ∧ ∀ d ∈ ds, P d) := fun H1 a Q q => h H1 a _ fun v d H2 e2 td p => by
  obtain ⟨n, rfl, hn, hN⟩ := p
  cases td
  refine ⟨(n : Int), rfl, by omega, by omega, fun D hD => ?_⟩
  have okD := ρ.fresh (ρ.g2 e2) hD
  refine lc_range (lo := 0) (n := (n : Int).toNat) (fun i H' => ∃ acc ds, ρ.R H2 H' ∧ H' D = some (.lst acc) ∧ TdAll K H' acc ds ∧ ds.length = i ∧ ∀ d ∈ ds, P d) ⟨[], [], ρ.mu (ρ.refl (ρ.g2 e2)) hD, upd_same, .nil, rfl, fun _ z => nomatch z⟩ ?_ ?_
  · rintro i H' hi ⟨acc, ds, r, hl, ta, hlen, hall⟩
    have hi' : i < n := by omega
    rw [show (0 : Int) + (i : Int) = (i : Int) by omega]
    refine ⟨hw _, ?_⟩
    dsimp only [tYes]
    rw [if_pos rfl]
    refine he n i hN hi' H' (ρ.trans a (ρ.trans e2 r)) H' (ρ.refl (ρ.g2 r)) _ fun y dy H4 e4 ty py => ?_
    have h4 := ρ.keep e4 okD hl
    refine ⟨acc, h4, Evl.sz_lt (by rw [ta.len]; omega), ?_⟩
    obtain ⟨m1, m2, m3⟩ := more_item (ρ.trans r e4) hD h4 (TdAll.mono ρ e4 _ ta) ty
    refine ⟨acc ++ [y], ds ++ [dy], m1, m2, m3, by simp [hlen], fun d hd => ?_⟩
    rcases List.mem_append.mp hd with z | z
    · exact hall d z
    · rw [List.mem_singleton.mp z]
      exact py
  · rintro H' ⟨acc, ds, r, hl, ta, hlen, hall⟩
    exact q D acc ds H' (ρ.back e2 hD) (ρ.trans e2 r) hl ta ⟨by rw [hlen]; simpa using hN, hall⟩
theorem ep_tupL {P : List PyData → Prop} (h : EvLP ρ te σ H P) : EvP ρ (tThen te (kTup K)) σ H (fun d => ∃ ds, d = .tuple ds ∧ P ds) := fun H1 a Q q => h H1 a _ fun p xs ds H2 hp e2 hx ht pd => .inl ⟨p, xs, rfl, Evl.sq_of hx, fun r hr => by
  have e3 := fun o => ρ.mu (o := o) (ρ.refl (ρ.g2 e2)) hr
  exact q _ _ _ (ρ.trans e2 (e3 _)) (.tup (Evl.st_of upd_same) (TdAll.mono ρ (e3 _) _ ht)) ⟨ds, rfl, pd⟩⟩
/-- [k for k in range(n) if ..], the test's answers not told -/
theorem elp_lcRs {j : Nat} {vs : List Nat} {n : Int} (h : EvD ρ tn σ H (.int n)) (h0 : 0 ≤ n ∧ n ≤ 1000) (hw : ∀ x, wipe ((wipe σ vs).set j (some x)) vs = wipe σ vs)
    (ht : ∀ i : Nat, i < n.toNat → ∀ H1, ρ.R H H1 → EvB2 ρ tt ((wipe σ vs).set j (some (.int (i : Int)))) H1) (he : ∀ i : Nat, i < n.toNat → ∀ H1, ρ.R H H1 → EvD ρ te ((wipe σ vs).set j (some (.int (i : Int)))) H1 (.int (i : Int))) :
    EvLP ρ (tLc (iRng1 (tCons tn tNil)) (gName j) tt te vs) σ H (fun ds => ds.Sublist ((List.range n.toNat).map fun (i : Nat) => PyData.int (i : Int))) := fun H1 a Q q => h H1 a _ fun v H2 e2 td => by
  cases td
  refine ⟨n, rfl, by omega, by omega, fun D hD => ?_⟩
  have okD := ρ.fresh (ρ.g2 e2) hD
  refine lc_range (lo := 0) (n := n.toNat) (fun i H' => ∃ acc ds, ρ.R H2 H' ∧ H' D = some (.lst acc) ∧ TdAll K H' acc ds ∧ ds.length ≤ i ∧ ds.Sublist ((List.range i).map fun (i : Nat) => PyData.int (i : Int))) ⟨[], [], ρ.mu (ρ.refl (ρ.g2 e2)) hD, upd_same, .nil, Nat.le_refl _, List.nil_sublist _⟩ ?_ ?_
  · rintro i H' hi ⟨acc, ds, r, hl, ta, hlen, hsub⟩
    rw [show (0 : Int) + (i : Int) = (i : Int) by omega]
    refine ⟨hw _, ?_⟩
    have r1 := ρ.trans a (ρ.trans e2 r)
    have step : (List.range (i + 1)).map (fun (i : Nat) => PyData.int (i : Int)) = (List.range i).map (fun (i : Nat) => PyData.int (i : Int)) ++ [.int (i : Int)] := by
      rw [List.range_succ, List.map_append]
      rfl
    refine ht i hi H' r1 H' (ρ.refl (ρ.g2 r)) _ fun b H3 e3 => ?_
    cases b with
    | false =>
      refine iteF ⟨acc, ds, ρ.trans r e3, ρ.keep e3 okD hl, TdAll.mono ρ e3 _ ta, by omega, ?_⟩
      rw [step]
      exact hsub.trans (List.sublist_append_left _ _)
    | true =>
      refine iteT (he i hi H3 (ρ.trans r1 e3) H3 (ρ.refl (ρ.g2 e3)) _ fun y H4 e4 ty => ?_)
      have e34 := ρ.trans e3 e4
      have h4 := ρ.keep e34 okD hl
      refine ⟨acc, h4, Evl.sz_lt (by rw [ta.len]; omega), ?_⟩
      obtain ⟨m1, m2, m3⟩ := more_item (ρ.trans r e34) hD h4 (TdAll.mono ρ e34 _ ta) ty
      refine ⟨acc ++ [y], _, m1, m2, m3, by simp; omega, ?_⟩
      rw [step]
      exact hsub.append (List.Sublist.refl _)
  · rintro H' ⟨acc, ds, r, hl, ta, hlen, hsub⟩
    exact q D acc ds H' (ρ.back e2 hD) (ρ.trans e2 r) hl ta hsub
end
end DX

set_option Elab.async false
set_option linter.all false
set_option maxRecDepth 100000
set_option maxHeartbeats 2000000
/-! lists of lists, lists made anew, some data within -/
namespace DX
open PySem PySem.Spec PyProof.Rows L2 HX
section
variable {K : PySem.W.Frag} {ρ : HR K} {te ta tb tc tn tl : TE} {tt tu : TT} {σ : L2.St} {H H' : Hp} {d x y z : PyData} {ds es : List PyData} {tsa : TA} {D : Ends} {v : V}
theorem TdAll.set {xs : List V} (h : TdAll K H xs ds) (t : Td K H v d) : ∀ j : Nat, TdAll K H (xs.set j v) (ds.set j d) := by
  intro j
  induction ds generalizing xs j with
  | nil => cases h; exact .nil
  | cons d0 ds ih =>
    cases h with
    | cons h1 h2 =>
      cases j with
      | zero => exact .cons t h2
      | succ j => exact .cons h1 (ih h2 j)
theorem mem_set_or {α : Type} {l : List α} {x u : α} : ∀ {j : Nat}, u ∈ l.set j x → u ∈ l ∨ u = x := by
  induction l with
  | nil => intro j h; simp at h
  | cons b l ih =>
    intro j h
    cases j with
    | zero =>
      rw [List.set_cons_zero] at h
      rcases List.mem_cons.mp h with h | h
      · exact .inr h
      · exact .inl (List.mem_cons_of_mem _ h)
    | succ j =>
      rw [List.set_cons_succ] at h
      rcases List.mem_cons.mp h with h | h
      · exact .inl (h ▸ List.mem_cons_self)
      · rcases ih h with h | h
        · exact .inl (List.mem_cons_of_mem _ h)
        · exact .inr h
/-- list(t) -/
theorem elp_listT {P : List PyData → Prop} (h : EvP ρ te σ H (fun d => ∃ ds, d = .tuple ds ∧ P ds)) :
    EvLP ρ (tCB (fun xs H Q => ∃ p ys, xs = [.ref p] ∧ (SqL K H p ys ∨ SqT K H p ys) ∧ ∀ l, H l = none → Q (.ref l) (upd H l (.lst ys))) (tCons te tNil)) σ H P := fun H1 a Q q => h H1 a _ fun v d H2 e2 t p => by
  obtain ⟨ds, rfl, p⟩ := p
  cases t with
  | tup hs hd => exact ⟨_, _, rfl, .inr hs, fun l hl => by
      have e3 := fun o => ρ.mu (o := o) (ρ.refl (ρ.g2 e2)) hl
      exact q l _ ds _ (ρ.back e2 hl) (ρ.trans e2 (e3 _)) upd_same (TdAll.mono ρ (e3 _) _ hd) p⟩
/-- t[i], the place not told -/
theorem ep_ixT {P : PyData → Prop} (ha : EvD ρ ta σ H (.tuple ds)) (hb : EvP ρ tb σ H (isN fun r => 0 ≤ r ∧ r < (ds.length : Int))) (hd : ∀ d ∈ ds, P d) : EvP ρ (tOp (rIxT K) ta tb) σ H P :=
  ep_op (P := fun d => d = .tuple ds) (ha.p rfl) hb fun v w d e H1 Q g tv tw p1 p2 q => by
    subst p1
    obtain ⟨r, rfl, r0, r1⟩ := p2
    cases tw
    cases tv with
    | @tup ad xs _ hs hx =>
      have hr : r.toNat < xs.length := by rw [hx.len]; omega
      obtain ⟨u, hu, tu⟩ := hx.get (i := r.toNat) (v := xs[r.toNat]) (by simp [hr])
      refine ⟨ad, xs, r, xs[r.toNat], rfl, rfl, hs, ?_, q _ u H1 (ρ.refl (ρ.g2 g)) tu (hd u (List.mem_of_getElem? hu))⟩
      unfold atI ixN
      rw [if_pos r0, if_pos (by rw [hx.len]; exact r1)]
      show xs[r.toNat]? = _
      simp [hr]
/-- xs[i], a new list, the place not told -/
theorem ep_ixN {P : PyData → Prop} (ha : EvL ρ ta σ H ds) (hb : ∀ H1, ρ.R H H1 → EvP ρ tb σ H1 (isN fun r => 0 ≤ r ∧ r < (ds.length : Int))) (hd : ∀ d ∈ ds, P d) : EvP ρ (tOp (rIxL K) ta tb) σ H P := fun H1 a Q q =>
  ha H1 a _ fun p xs H2 hp e2 hx ht => hb H2 (ρ.trans a e2) H2 (ρ.refl (ρ.g2 e2)) _ fun w d H3 e3 tw pr => by
    obtain ⟨r, rfl, r0, r1⟩ := pr
    cases tw
    have okp := ρ.fresh (ρ.g2 a) hp
    have hx3 := ρ.keep e3 okp hx
    have hr : r.toNat < xs.length := by rw [ht.len]; omega
    have t3 := TdAll.mono ρ e3 _ ht
    obtain ⟨u, hu, tu⟩ := t3.get (i := r.toNat) (v := xs[r.toNat]) (by simp [hr])
    refine ⟨p, xs, r, xs[r.toNat], rfl, rfl, Evl.sq_of hx3, ?_, q _ u H3 (ρ.trans e2 e3) tu (hd u (List.mem_of_getElem? hu))⟩
    unfold atI ixN
    rw [if_pos r0, if_pos (by rw [ht.len]; exact r1)]
    show xs[r.toNat]? = _
    simp [hr]
/-- xs[i], the place not told -/
theorem ep_ixV {P : PyData → Prop} {b : Addr} {xs : List V} (ha : EvV ρ ta σ H (.ref b)) (hx : H b = some (.lst xs)) (ok : ρ.ok b) (ht : TdAll K H xs ds) (hb : EvP ρ tb σ H (isN fun r => 0 ≤ r ∧ r < (ds.length : Int))) (hd : ∀ d ∈ ds, P d) : EvP ρ (tOp (rIxL K) ta tb) σ H P := fun H1 a Q q =>
  ha H1 a _ fun H2 e2 => hb H2 (ρ.trans a e2) _ fun w d H3 e3 tw pr => by
    obtain ⟨r, rfl, r0, r1⟩ := pr
    cases tw
    have e := ρ.trans a (ρ.trans e2 e3)
    have hx3 := ρ.keep e ok hx
    have hr : r.toNat < xs.length := by rw [ht.len]; omega
    have t3 := TdAll.mono ρ e _ ht
    obtain ⟨u, hu, tu⟩ := t3.get (i := r.toNat) (v := xs[r.toNat]) (by simp [hr])
    refine ⟨b, xs, r, xs[r.toNat], rfl, rfl, Evl.sq_of hx3, ?_, q _ u H3 (ρ.trans e2 e3) tu (hd u (List.mem_of_getElem? hu))⟩
    unfold atI ixN
    rw [if_pos r0, if_pos (by rw [ht.len]; exact r1)]
    show xs[r.toNat]? = _
    simp [hr]
/-- (e,) -/
theorem ep_tup1 {P : PyData → Prop} (h : EvP ρ te σ H P) : EvP ρ (tTup (tCons te tNil)) σ H (fun d => ∃ x, d = .tuple [x] ∧ P x) := fun H1 a Q q => h H1 a _ fun v d H2 e2 t p => ⟨Evl.sz_of (by simp), fun r hr => by
  have e3 := fun o => ρ.mu (o := o) (ρ.refl (ρ.g2 e2)) hr
  exact q _ _ _ (ρ.trans e2 (e3 _)) (.tup (Evl.st_of upd_same) (.cons (Td.mono ρ (e3 _) _ t) .nil)) ⟨d, rfl, p⟩⟩
/-- a list of lists of data -/
def LL (K : PySem.W.Frag) (ρ : HR K) (H : Hp) (P : List PyData → Prop) (xs : List V) : Prop := ∀ x ∈ xs, ∃ p ys ds, x = .ref p ∧ ρ.ok p ∧ H p = some (.lst ys) ∧ TdAll K H ys ds ∧ P ds
theorem LL.mono {P : List PyData → Prop} {xs : List V} (h : LL K ρ H P xs) (e : ρ.R H H') : LL K ρ H' P xs := fun x hx => by
  obtain ⟨p, ys, ds, e1, ok, h1, h2, h3⟩ := h x hx
  exact ⟨p, ys, ds, e1, ok, ρ.keep e ok h1, TdAll.mono ρ e _ h2, h3⟩
def EvLL (ρ : HR K) (te : TE) (σ : L2.St) (H : Hp) (n : Nat) (P : List PyData → Prop) : Prop := ∀ H1, ρ.R H H1 → ∀ Q : VK, (∀ p xs H2, H1 p = none → ρ.R H1 H2 → H2 p = some (.lst xs) → xs.length = n → LL K ρ H2 P xs → Q (.ref p) H2) → te σ H1 Q
theorem ell_lcR {j : Nat} {vs : List Nat} {n : Nat} {P : List PyData → Prop} (h : EvD ρ tn σ H (.int (n : Int))) (hn : n ≤ 1000) (hw : ∀ x, wipe ((wipe σ vs).set j (some x)) vs = wipe σ vs)
    (he : ∀ i : Nat, i < n → ∀ H1, ρ.R H H1 → EvLP ρ te ((wipe σ vs).set j (some (.int (i : Int)))) H1 P) : EvLL ρ (tLc (iRng1 (tCons tn tNil)) (gName j) tYes te vs) σ H n P := fun H1 a Q q => h H1 a _ fun v H2 e2 td => by
  cases td
  refine ⟨(n : Int), rfl, by omega, by omega, fun Dl hD => ?_⟩
  have okD := ρ.fresh (ρ.g2 e2) hD
  refine lc_range (lo := 0) (n := (n : Int).toNat) (fun i H' => ∃ acc, ρ.R H2 H' ∧ H' Dl = some (.lst acc) ∧ acc.length = i ∧ ∀ x ∈ acc, ∃ p ys ds, x = .ref p ∧ p ≠ Dl ∧ ρ.ok p ∧ H' p = some (.lst ys) ∧ TdAll K H' ys ds ∧ P ds) ⟨[], ρ.mu (ρ.refl (ρ.g2 e2)) hD, upd_same, rfl, fun _ z => nomatch z⟩ ?_ ?_
  · rintro i H' hi ⟨acc, r, hl, hlen, hall⟩
    have hi' : i < n := by omega
    rw [show (0 : Int) + (i : Int) = (i : Int) by omega]
    refine ⟨hw _, ?_⟩
    dsimp only [tYes]
    rw [if_pos rfl]
    refine he i hi' H' (ρ.trans a (ρ.trans e2 r)) H' (ρ.refl (ρ.g2 r)) _ fun p ys dp H4 hp e4 hy ty py => ?_
    have h4 := ρ.keep e4 okD hl
    have npD : p ≠ Dl := fun z => by rw [z, hl] at hp; cases hp
    refine ⟨acc, h4, Evl.sz_lt (by omega), acc ++ [.ref p], ρ.mu (ρ.trans r e4) hD, upd_same, by simp [hlen], fun x hx => ?_⟩
    rcases List.mem_append.mp hx with z | z
    · obtain ⟨p', ys', ds', e1, n1, ok1, h1, t1, p1⟩ := hall x z
      exact ⟨p', ys', ds', e1, n1, ok1, by rw [upd_ne n1]; exact ρ.keep e4 ok1 h1, TdAll.monoT (sqT_updL h4) _ (TdAll.mono ρ e4 _ t1), p1⟩
    · rw [List.mem_singleton.mp z]
      exact ⟨p, ys, dp, rfl, npD, ρ.fresh (ρ.g2 r) hp, by rw [upd_ne npD]; exact hy, TdAll.monoT (sqT_updL h4) _ ty, py⟩
  · rintro H' ⟨acc, r, hl, hlen, hall⟩
    refine q Dl acc H' (ρ.back e2 hD) (ρ.trans e2 r) hl (by omega) fun x hx => ?_
    obtain ⟨p', ys', ds', e1, n1, ok1, h1, t1, p1⟩ := hall x hx
    exact ⟨p', ys', ds', e1, ok1, h1, t1, p1⟩
theorem q_setLL {i n : Nat} {tz : TS} {P : List PyData → Prop} (g : ρ.good H) (h : EvLL ρ te σ H n P) (k : ∀ p xs H1, H p = none → ρ.R H H1 → H1 p = some (.lst xs) → xs.length = n → LL K ρ H1 P xs → tz D (σ.set i (some (.ref p))) H1) : tSeq (tAsg te (gName i)) tz D σ H := h H (ρ.refl g) _ fun p xs H1 hp e hx hl hL => k p xs H1 hp e hx hl hL
/-- [tuple(x) for x in xs], xs a list of lists -/
theorem elp_lcLL {j : Nat} {vs : List Nat} {b : Addr} {xs : List V} {P : List PyData → Prop} (h : EvV ρ tl σ H (.ref b)) (hx : H b = some (.lst xs)) (ok : ρ.ok b) (hz : xs.length ≤ 40000) (hL : LL K ρ H P xs) (hw : ∀ x, wipe ((wipe σ vs).set j (some x)) vs = wipe σ vs) (hj : ∀ x, ((wipe σ vs).set j (some x))[j]? = some (some x)) :
    EvLP ρ (tLc (iList K tl) (gName j) tYes (tThen (tVar j) (kTup K)) vs) σ H (fun ds => ds.length = xs.length ∧ ∀ d ∈ ds, ∃ es, d = .tuple es ∧ P es) := fun H1 a Q q => h H1 a _ fun H2 e2 => by
  have hx2 := ρ.keep (ρ.trans a e2) ok hx
  refine ⟨b, rfl, ⟨xs, Evl.sq_of hx2⟩, fun Dl hD => ?_⟩
  have okD := ρ.fresh (ρ.g2 e2) hD
  refine lc_list (K := K) (a := b) (xs := xs) (fun i H' => ∃ acc ds, ρ.R H2 H' ∧ H' Dl = some (.lst acc) ∧ TdAll K H' acc ds ∧ ds.length = i ∧ i ≤ xs.length ∧ ∀ d ∈ ds, ∃ es, d = .tuple es ∧ P es) ⟨[], [], ρ.mu (ρ.refl (ρ.g2 e2)) hD, upd_same, .nil, rfl, Nat.zero_le _, fun _ z => nomatch z⟩ (fun i H' _ ⟨_, _, r, _⟩ => Evl.sq_of (ρ.keep r ok hx2)) ?_ ?_
  · rintro i x H' hxi ⟨acc, ds, r, hl, ta, hlen, hle, hall⟩
    obtain ⟨p, ys, es, rfl, okp, h1, t1, p1⟩ := hL x (List.mem_of_getElem? hxi)
    have e := ρ.trans a (ρ.trans e2 r)
    have hp := ρ.keep e okp h1
    have ilt : i < xs.length := (List.getElem?_eq_some_iff.mp hxi).1
    refine ⟨hw _, ?_⟩
    dsimp only [tYes]
    rw [if_pos rfl]
    refine ⟨.ref p, hj _, .inl ⟨p, ys, rfl, Evl.sq_of hp, fun q' hq' => ?_⟩⟩
    have e4 := fun o => ρ.mu (o := o) (ρ.refl (ρ.g2 r)) hq'
    have h4 := ρ.keep (e4 (.tup ys)) okD hl
    refine ⟨acc, h4, Evl.sz_lt (by rw [ta.len]; omega), ?_⟩
    obtain ⟨m1, m2, m3⟩ := more_item (ρ.trans r (e4 _)) hD h4 (TdAll.mono ρ (e4 _) _ ta) (.tup (Evl.st_of upd_same) (TdAll.mono ρ (ρ.trans e (e4 _)) _ t1))
    refine ⟨acc ++ [.ref q'], ds ++ [.tuple es], m1, m2, m3, by simp [hlen], by omega, fun d hd => ?_⟩
    rcases List.mem_append.mp hd with z | z
    · exact hall d z
    · rw [List.mem_singleton.mp z]
      exact ⟨es, rfl, p1⟩
  · rintro H' ⟨acc, ds, r, hl, ta, hlen, _, hall⟩
    exact q Dl acc ds H' (ρ.back e2 hD) (ρ.trans e2 r) hl ta ⟨hlen, hall⟩
/-- tuple(xs), xs a list that stands -/
theorem ed_tupV {b : Addr} {xs : List V} (h : EvV ρ te σ H (.ref b)) (hx : H b = some (.lst xs)) (ok : ρ.ok b) (ht : TdAll K H xs ds) : EvD ρ (tThen te (kTup K)) σ H (.tuple ds) := fun H1 a Q q => h H1 a _ fun H2 e2 => .inl ⟨b, xs, rfl, Evl.sq_of (ρ.keep (ρ.trans a e2) ok hx), fun r hr => by
  have e3 := fun o => ρ.mu (o := o) (ρ.refl (ρ.g2 e2)) hr
  exact q _ _ (ρ.trans e2 (e3 _)) (.tup (Evl.st_of upd_same) (TdAll.mono ρ (ρ.trans a (ρ.trans e2 (e3 _))) _ ht))⟩
/-- xs + [..] -/
theorem el_cat {b : Addr} {xs : List V} (h : EvV ρ ta σ H (.ref b)) (hx : H b = some (.lst xs)) (ok : ρ.ok b) (ht : TdAll K H xs ds) (k : EvL ρ tb σ H es) (hl : ds.length + es.length ≤ 100000) : EvL ρ (tOp rCat ta tb) σ H (ds ++ es) := fun H1 a Q q =>
  h H1 a _ fun H2 e2 => k H2 (ρ.trans a e2) _ fun p zs H3 hp e3 hz tz => by
    have e := ρ.trans a (ρ.trans e2 e3)
    refine ⟨b, p, xs, zs, rfl, rfl, ρ.keep e ok hx, hz, by rw [ht.len, tz.len]; exact Evl.sz_of hl, fun r hr => ?_⟩
    have e4 := fun o => ρ.mu (o := o) (ρ.refl (ρ.g2 e3)) hr
    exact q r _ _ (ρ.back (ρ.trans e2 e3) hr) (ρ.trans e2 (ρ.trans e3 (e4 _))) upd_same ((TdAll.mono ρ (ρ.trans e (e4 _)) _ ht).app (TdAll.mono ρ (e4 _) _ tz))
theorem EvLP.imp {P P' : List PyData → Prop} (h : EvLP ρ te σ H P) (k : ∀ ds, P ds → P' ds) : EvLP ρ te σ H P' := fun H1 a Q q => h H1 a _ fun p xs ds H2 hp e hx t pd => q p xs ds H2 hp e hx t (k ds pd)
theorem ep_nat {P : Int → Prop} {N : Nat → Prop} (h : EvP ρ te σ H (isN P)) (k : ∀ i, P i → 0 ≤ i ∧ i ≤ 1000 ∧ N i.toNat) : EvP ρ te σ H (fun d => ∃ n : Nat, d = .int n ∧ n ≤ 1000 ∧ N n) := h.imp fun d ⟨i, e, p⟩ => by
  obtain ⟨k1, k2, k3⟩ := k i p
  exact ⟨i.toNat, by rw [e, Int.toNat_of_nonneg k1], by omega, k3⟩
theorem EvD.n {i : Int} (h : EvD ρ te σ H (.int i)) : EvP ρ te σ H (isN fun j => j = i) := h.p ⟨i, rfl, rfl⟩
end
/-- an inner comprehension's block -/
theorem blkIn {N : List Str} {scope0 scope : Scope} {own : List (Str × Nat)} {cl : List (Str × Addr)} {C : Addr} {env : Env} {sc : Scope} (hsc : env.scope = sc)
    (h : ∀ e : Env, e.scope = sc → blkC N (compEnvC scope0 cl C e).scope scope own = true) : BlkOk N (compEnvC scope0 cl C env).scope scope own := blkOk_by (h env hsc)
end DX

set_option Elab.async false
set_option linter.all false
set_option maxRecDepth 100000
set_option maxHeartbeats 4000000
/-! defs whose caller's guards are known (repr); defs called in a suite with the caught error; several clauses «except X as n» -/
namespace HG
open PySem PySem.Spec PyProof.Rows L2
/-! ### a def called where no repr is under way -/
structure FnG (P : Program) (w : World) (K : PySem.W.Frag) (mg : Str → Option Value) (base : Heap) (CX : CXT) (k : Nat) (f : Addr) (fd : FuncData) (ps : List Str) (sp : Sp) : Prop where
  len : ∀ vs H Q E, sp vs H Q E → vs.length = ps.length
  run : ∀ (A : Around) (outer : List Env) (s : Shared) (H : Hp) (args : Args) (us : List Value) (vs : List V) (Q : VK) (E : XK), A.guards = some [] → Room k A → Env0 P w K mg base A outer s H → BindsTo s fd args (ps.zip us) → Vals vs us → sp vs H Q E →
    codeAny (model P w) A (.call (.ref f) args) (CR CX outer P w H s Q E) s
/-! ### a def called with what is pinned -/
structure FnP (P : Program) (w : World) (K : PySem.W.Frag) (mg : Str → Option Value) (base : Heap) (CX : CXT) (k : Nat) (f : Addr) (fd : FuncData) (ps : List Str) (sp : Addr × Obj → Sp) : Prop where
  len : ∀ p vs H Q E, sp p vs H Q E → vs.length = ps.length
  run : ∀ (A : Around) (outer : List Env) (s : Shared) (H : Hp) (args : Args) (us : List Value) (vs : List V) (Q : VK) (E : XK) (p : Addr × Obj), L2H.RoomH k A → L2H.PinOk outer H s p → Env0 P w K mg base A outer s H → BindsTo s fd args (ps.zip us) → Vals vs us → sp p vs H Q E →
    codeAny (model P w) A (.call (.ref f) args) (CR CX outer P w H s Q E) s
section
variable {CX : CXT} {P : Program} {w : World} {K : PySem.W.Frag} {mg : Str → Option Value} {base : Heap} {k : Nat} {f : Addr} {name qual : Str} {params : Arguments} {body : List Stmt} {scope : Scope} {N ps : List Str} {fd : FuncData} {dvs : List V} {kws : List (Str × V)}
/-- what a body's end is to the call -/
theorem body_end {X : Cx} {Q : VK} {σ0 : L2.St} {H : Hp} {s s1 : Shared} {outer : List Env} {t : TS}
    (hfin : ∀ {σ' : L2.St} {H' : Hp} {v : V} {u : Value} {s' : Shared}, Inv X [] σ' H' s' → RelV v u → Q v H' → CE outer P w H s Q u s') (ht : PSs X body t) (I : Inv X [] σ0 H s1) (hq : t { nx := fun _ H' => Q .non H', rt := Q } σ0 H)
    {R : Flow → Shared → Prop} (hret : ∀ u s', CE outer P w H s Q u s' → R (.ret u) s') (hnx : ∀ s', CE outer P w H s Q .none s' → R .next s') :
    wpAny (model X.prog X.w) X.A (execs body X.env) R X.xe s1 := by
  refine wpAny_mono (ht.run [] s1 σ0 H _ I hq) (fun fl s' hs => ?_) fun e s' hs => hs
  cases fl with
  | ret u =>
    obtain ⟨v, σ', H', J, rv, q⟩ := hs
    exact hret u s' (hfin J rv q)
  | next =>
    obtain ⟨σ', H', J, q⟩ := hs
    exact hnx s' (hfin (v := V.non) (u := Value.none) J rfl q)
  | brk =>
    obtain ⟨_, _, _, q⟩ := hs
    exact False.elim q
  | cont =>
    obtain ⟨_, _, _, q⟩ := hs
    exact False.elim q
theorem okG {sp : Sp} (F : FunD K name qual params body scope dvs kws f fd) (S : FnScope N ps scope) (len : ∀ vs H Q E, sp vs H Q E → vs.length = ps.length)
    (hbody : ∀ (cdv : Value) (A : Around) (outer : List Env) (s : Shared) (H : Hp) (vs : List V) (Q : VK) (E : XK), A.guards = some [] → Room k (A.deeper (envOfC qual scope s.heap.objs.size f cdv)) → sp vs H Q E →
      ∃ t, PSs (cxOf CX P w K mg base N qual scope f cdv A outer s H E) body t ∧ t { nx := fun _ H' => Q .non H', rt := Q } (L2.start N vs) H) : FnG P w K mg base CX (k + 1) f fd ps sp := by
  obtain ⟨oc, od, dV, kV, doc, pm, an, cdv, ct, osl, rfl, lk, hcd, _, _⟩ := F.ex
  refine ⟨len, fun A outer s H args us vs Q E hg hr e0 hb r hsp => ?_⟩
  have hl := len _ _ _ _ hsp
  have old : ∀ b o, base.get? b = some o → s.heap.get? b = some o := fun b o e => (e0.bs b o e).1
  have hkind : ∀ y ∈ ps.zip us, scope.names.lookup y.1 = some .local ∨ (scope.names.lookup y.1 = some .cell ∧ ((cellsFrom (s.heap.objs.size + 1) scope.names []).lookup y.1).isSome = true) := fun y hy =>
    (S.par y.1 (List.of_mem_zip (a := y.1) (b := y.2) hy).1).imp (fun q => q) fun q => ⟨q, PySem.W.cellsFrom_some _ _ _ (.inl q)⟩
  refine codeAny_call_function hr.depth (e0.mod.kin.keeps old _ _ lk) rfl S.co S.gen rfl (PySem.W.codeRec_of (e0.mod.kin.keeps old) hcd) (hb _ _ _ _ ?_)
  refine wpAny_newFunctionEnv_cells S.kind hkind fun env he s1 x => ?_
  subst he
  refine ⟨(e0.mod.nolimit.keeps old).keeps x.toInCall.keep, codeAny_func ?_⟩
  obtain ⟨t, ht, hq⟩ := hbody cdv A outer s H vs Q E hg (hr.deeper _) hsp
  exact body_end (X := cxOf CX P w K mg base N qual scope f cdv A outer s H E) (fun J rv q => ⟨_, _, J.os, J.bare, J.base, J.hok, rv, q⟩) ht (inv_start S hr.hd e0 hl r x) hq (fun u s' c => c) (fun s' c => c)
theorem okP {sp : Addr × Obj → Sp} (F : FunD K name qual params body scope dvs kws f fd) (S : FnScope N ps scope) (len : ∀ p vs H Q E, sp p vs H Q E → vs.length = ps.length)
    (hbody : ∀ (cdv : Value) (A : Around) (outer : List Env) (s : Shared) (H : Hp) (vs : List V) (Q : VK) (E : XK) (p : Addr × Obj), L2H.RoomH k (A.deeper (envOfC qual scope s.heap.objs.size f cdv)) → sp p vs H Q E →
      ∃ t, PSs (L2H.cxH CX P w K mg base N qual scope f cdv A outer s H E p) body t ∧ t { nx := fun _ H' => Q .non H', rt := Q } (L2.start N vs) H) : FnP P w K mg base CX (k + 1) f fd ps sp := by
  obtain ⟨oc, od, dV, kV, doc, pm, an, cdv, ct, osl, rfl, lk, hcd, _, _⟩ := F.ex
  refine ⟨len, fun A outer s H args us vs Q E p hr hpin e0 hb r hsp => ?_⟩
  have hl := len _ _ _ _ _ hsp
  have old : ∀ b o, base.get? b = some o → s.heap.get? b = some o := fun b o e => (e0.bs b o e).1
  have hkind : ∀ y ∈ ps.zip us, scope.names.lookup y.1 = some .local ∨ (scope.names.lookup y.1 = some .cell ∧ ((cellsFrom (s.heap.objs.size + 1) scope.names []).lookup y.1).isSome = true) := fun y hy =>
    (S.par y.1 (List.of_mem_zip (a := y.1) (b := y.2) hy).1).imp (fun q => q) fun q => ⟨q, PySem.W.cellsFrom_some _ _ _ (.inl q)⟩
  refine codeAny_call_function hr.depth (e0.mod.kin.keeps old _ _ lk) rfl S.co S.gen rfl (PySem.W.codeRec_of (e0.mod.kin.keeps old) hcd) (hb _ _ _ _ ?_)
  refine wpAny_newFunctionEnv_cells S.kind hkind fun env he s1 x => ?_
  subst he
  refine ⟨(e0.mod.nolimit.keeps old).keeps x.toInCall.keep, codeAny_func ?_⟩
  obtain ⟨t, ht, hq⟩ := hbody cdv A outer s H vs Q E p (hr.deeper _) hsp
  exact body_end (X := L2H.cxH CX P w K mg base N qual scope f cdv A outer s H E p) (fun J rv q => ⟨_, _, J.os, J.bare, J.base, J.hok, rv, q⟩) ht (L2H.inv_startH S hpin e0 hl r x) hq (fun u s' c => c) (fun s' c => c)
end
section
variable {X : Cx} {CX : CXT} {k : Nat} {f C : Addr} {fd : FuncData} {ps : List Str} {E : XK} {x m : Str} {q pos : Pos} {e : Expr} {es : List Expr} {t : TA}
theorem ends_of {pins : List (Addr × Obj)} {σ : L2.St} {H : Hp} {s : Shared} {Q : VK} (I : Inv X pins σ H s) (hx : Passes CX X E) : ∀ r s', CR CX X.stack X.prog X.w H s Q E r s' → match r with | .ok (.ret u) => EP X pins σ Q u s' | .ok _ => False | .error e => X.xe e s' := fun r s' hq => by
  cases r with
  | error e => exact hx pins σ H s e s' I hq
  | ok fl =>
    cases fl with
    | ret u => exact I.after hq
    | next => exact False.elim hq
    | brk => exact False.elim hq
    | cont => exact False.elim hq
/-- f(..) where the guards are known -/
theorem pe_callG {sp : Sp} (F : FnG X.prog X.w X.K X.mg X.base CX k f fd ps sp) (hA : X.A.guards = some []) (hr : Room k X.A) (hg : Gl X x) (hm : X.mg x = some (.ref f)) (hk : PySem.W.keepIn X.K (.ref f) = true) (hb : Binds X.K fd ps []) (hx : Passes CX X E)
    (ha : PA X (e :: es) t) (hdb : (x == ("__debug__" : Str)) = false := by decide) (he : starEach (e :: es) X.env = (false, eval e X.env) :: starEach es X.env := by rfl) (hpl : (backTo pos (starEach es X.env)).any (·.1) = false := by rfl) :
    PE X (.Call (.Name x q) (e :: es) [] pos) (tCall sp [] E t) := by
  refine ⟨fun pins s σ H Q I h => ?_⟩
  refine wpAny_Call_Name_kw (ld_glob I hg hm ?_ hdb)
  refine PySem.W.callWith_K (h₀ := X.base) I.ok.mod.kin hk (thn (ha.run pos pins s σ H _ I h) fun us s1 ⟨vs, H1, I1, r, q⟩ => ⟨I1.kIn, ?_⟩) he hpl
  have q : sp (vs ++ []) H1 Q E := q
  rw [List.append_nil] at q
  have hl : us.length = ps.length := by rw [← r.length]; exact F.len _ _ _ _ q
  have b := hb s1 us I1.kIn (by rw [List.append_nil]; exact hl)
  rw [List.append_nil] at b
  refine wpAny_call (codeAny_mono (F.run X.A X.stack s1 H1 ⟨us, []⟩ us vs Q E hA hr I1.env0 b r q) fun r s' hq => ?_)
  have z := ends_of I1 hx r s' hq
  cases r with
  | error e => exact z
  | ok fl => cases fl <;> exact z
theorem pe_callG0 {sp : Sp} (F : FnG X.prog X.w X.K X.mg X.base CX k f fd ps sp) (hA : X.A.guards = some []) (hr : Room k X.A) (hg : Gl X x) (hm : X.mg x = some (.ref f)) (hk : PySem.W.keepIn X.K (.ref f) = true) (hb : Binds X.K fd ps []) (hx : Passes CX X E)
    (hdb : (x == ("__debug__" : Str)) = false := by decide) :
    PE X (.Call (.Name x q) [] [] pos) (tCall sp [] E tNil) := by
  refine ⟨fun pins s σ H Q I h => ?_⟩
  refine wpAny_Call_Name_kw (ld_glob I hg hm ?_ hdb)
  refine PySem.W.callWith_K0 I.kIn hk ?_
  have q : sp [] H Q E := h
  have hl : ([] : List Value).length = ps.length := F.len _ _ _ _ q
  have b := hb s [] I.kIn (by rw [List.append_nil]; exact hl)
  rw [List.append_nil] at b
  refine wpAny_call (codeAny_mono (F.run X.A X.stack s H ⟨[], []⟩ [] [] Q E hA hr I.env0 b .nil q) fun r s' hq => ?_)
  have z := ends_of I hx r s' hq
  cases r with
  | error e => exact z
  | ok fl => cases fl <;> exact z
/-- f(..) in a context that bears the pin p -/
theorem pe_callP {p : Addr × Obj} {sp : Addr × Obj → Sp} (F : FnP X.prog X.w X.K X.mg X.base CX k f fd ps sp) (hp : p ∈ X.pn) (hr : L2H.RoomH k X.A) (hg : Gl X x) (hm : X.mg x = some (.ref f)) (hk : PySem.W.keepIn X.K (.ref f) = true) (hb : Binds X.K fd ps []) (hx : Passes CX X E)
    (ha : PA X (e :: es) t) (hdb : (x == ("__debug__" : Str)) = false := by decide) (he : starEach (e :: es) X.env = (false, eval e X.env) :: starEach es X.env := by rfl) (hpl : (backTo pos (starEach es X.env)).any (·.1) = false := by rfl) :
    PE X (.Call (.Name x q) (e :: es) [] pos) (tCall (sp p) [] E t) := by
  refine ⟨fun pins s σ H Q I h => ?_⟩
  refine wpAny_Call_Name_kw (ld_glob I hg hm ?_ hdb)
  refine PySem.W.callWith_K (h₀ := X.base) I.ok.mod.kin hk (thn (ha.run pos pins s σ H _ I h) fun us s1 ⟨vs, H1, I1, r, q⟩ => ⟨I1.kIn, ?_⟩) he hpl
  have q : sp p (vs ++ []) H1 Q E := q
  rw [List.append_nil] at q
  have hl : us.length = ps.length := by rw [← r.length]; exact F.len _ _ _ _ _ q
  have b := hb s1 us I1.kIn (by rw [List.append_nil]; exact hl)
  rw [List.append_nil] at b
  have P1 := I1.pin p (List.mem_append_left _ hp)
  have hpin : L2H.PinOk X.stack H1 s1 p := ⟨P1.1, P1.2.1, fun hm => (List.mem_cons.mp (I1.stkSub p.1 hm)).elim P1.2.2.1 P1.2.2.2.1, P1.2.2.2.2⟩
  refine wpAny_call (codeAny_mono (F.run X.A X.stack s1 H1 ⟨us, []⟩ us vs Q E p hr hpin I1.env0 b r q) fun r s' hq => ?_)
  have z := ends_of I1 hx r s' hq
  cases r with
  | error e => exact z
  | ok fl => cases fl <;> exact z
end
/-! ### isinstance of what is pinned -/
theorem call_isP {X : Cx} {a : Addr} {oe : Obj} {cls : Value} {d : Option Addr} (hp : (a, oe) ∈ X.pn) (hz : Zc cls d oe) (hf : ∃ vs, oe.data = .fields vs) : CallR X (.builtin "isinstance") (HX.rIsX X.K a cls d) := by
  intro pins s σ H xs us Q I r h
  obtain ⟨D, dd, fs, c, cv, b, rfl, rfl, C, hdd, rfl, hcv, e, q⟩ := h
  cases r with
  | cons rx rr =>
    cases rr with
    | cons rt rr =>
      cases rr
      cases rx
      have ec := hcv _ rt
      subst ec
      obtain ⟨hget, _⟩ := I.pin (a, oe) (List.mem_append.mpr (.inl hp))
      obtain ⟨vs, hv⟩ := hf
      have hxd : ObjOk X.prog X.w H s.heap dd (.xd fs) := I.hok dd _ hdd
      obtain ⟨mA, hns, hr⟩ := hxd
      obtain ⟨od, ho, hl⟩ := lookIn_ns hns
      have J : PySem.W.InstAt s.heap a oe D (some od) := ⟨hget, hz.1, by unfold PySem.W.notCls; rw [hv] <;> rfl, by rw [hz.2]; exact ho⟩
      have hcl : (PySem.W.clsIn X.K D).isSome = true := by
        have q := C.hd
        unfold PySem.W.hasDictIn at q
        cases z : PySem.W.clsIn X.K D with
        | none => rw [z] at q; cases q
        | some _ => rfl
      exact PySem.W.kia_one (PySem.W.kitx_exc hcl C.hg C.hk C.hs C.ha C.hn C.ht C.hm) I.kIn J e (fun z => nomatch z) fun tk => ⟨.bl b, H, I.kept (t' := tk) fun _ _ z => z, rfl, q⟩
end HG

set_option Elab.async false
set_option linter.all false
set_option maxRecDepth 100000
set_option maxHeartbeats 4000000
/-! several clauses «except X as n», n the same name throughout -/
namespace HG
open PySem PySem.Spec PyProof.Rows L2
abbrev Cl : Type := Value × (Addr → Value → Option Addr → TS)
/-- the ends behind a suite that held its error at slot i -/
def offI (i : Nat) (D : Ends) : Ends := { nx := fun σ' H' => D.nx (σ'.set i none) H', rt := D.rt, bk := fun σ' H' => D.bk (σ'.set i none) H', ct := fun σ' H' => D.ct (σ'.set i none) H' }
def wManyA (K : PySem.W.Frag) (i : Nat) (Wout : WX) (D : Ends) : List Cl → WX
  | [] => Wout
  | c :: r => fun cls d σ H => ∃ b, PySem.W.exmOne K cls c.1 = some b ∧ (b = true → ∀ a, H a = none → c.2 a cls d (offI i D) (σ.set i (some (.ref a))) H) ∧ (b = false → wManyA K i Wout D r cls d σ H)
inductive HdsA (X : Cx) (n : Str) : List ExceptHandler → List Cl → Prop
  | nil : HdsA X n [] []
  | cons {x : Str} {c : Value} {ts : Addr → Value → Option Addr → TS} {b₀ : Stmt} {suite : List Stmt} {np pos' : Pos} {hds : List ExceptHandler} {l : List Cl} (hc : Names X x c)
      (hsu : ∀ (a : Addr) (oe : Obj) (cls : Value) (d : Option Addr) (pn : List (Addr × Obj)), Zc cls d oe → (∃ vs, oe.data = .fields vs) → PSs (X.suite a ((a, oe) :: pn)) (b₀ :: suite) (ts a cls d)) (r : HdsA X n hds l) :
      HdsA X n (.ExceptHandler (some (.Name x np)) (some n) (b₀ :: suite) pos' :: hds) ((c, ts) :: l)
section
variable {X : Cx} {n : Str} {i : Nat} {body : List Stmt} {h₀ : ExceptHandler} {hds : List ExceptHandler} {l : List Cl} {pos : Pos} {tb : WX → TS} {Wout : WX}
/-- behind a body that ran to its end -/
theorem try_ran {pins : List (Addr × Obj)} {pn : List (Addr × Obj)} {xe : Value → Shared → Prop} {D : Ends} (ok : X.Ok) {f : Flow} {s1 : Shared} (J : SP (X.tr (X.pn ++ pins) xe) [] D f s1) (he : ∀ {σ' H'}, Inv (X.tr (X.pn ++ pins) xe) [] σ' H' s1 → Inv X pins σ' H' s1) : SP X pins D f s1 := by
  cases f with
  | next =>
    obtain ⟨σ', H', J', q⟩ := J
    exact ⟨σ', H', he J', q⟩
  | brk =>
    obtain ⟨σ', H', J', q⟩ := J
    exact ⟨σ', H', he J', q⟩
  | cont =>
    obtain ⟨σ', H', J', q⟩ := J
    exact ⟨σ', H', he J', q⟩
  | ret u =>
    obtain ⟨v, σ', H', J', r, q⟩ := J
    exact ⟨v, σ', H', he J', r, q⟩
theorem ps_try_manyA (hs : X.stack = X.env :: X.outer) (hf : X.env.frame = some X.env.locals) (hN : X.N.Nodup) (hi : X.N[i]? = some n) (hln : X.env.kindOf n = some .local) (tk : Takes X Wout)
    (hb : ∀ (W : WX) (pn : List (Addr × Obj)) (xe : Value → Shared → Prop), Takes (X.tr pn xe) W → PassesOwn (model X.prog X.w) X.A X.env xe → PSs (X.tr pn xe) body (tb W))
    (hh : HdsA X n (h₀ :: hds) l) : PS X (.Try body (h₀ :: hds) [] [] pos) (fun D σ H => tb (wManyA X.K i Wout D l) D σ H) := by
  refine ⟨fun pins s σ H D I h => ?_⟩
  have ok := I.ok
  have hfr : X.A.frames = some (X.env :: X.outer) := by rw [ok.frames, hs]
  refine wpAny_Try_except ?_
  refine wpAny_mono ((hb (wManyA X.K i Wout D l) (X.pn ++ pins) (fun e s₁ => wpAny (model X.prog X.w) X.A (noteFrame e X.env) (fun _ s₂ => wpAny (model X.prog X.w) X.A (setFlight e none) (fun _ s₃ =>
    wpAny (model X.prog X.w) X.A (handleBy e X.env (h₀ :: hds)) (SP X pins D) X.xe s₃) X.xe s₂) X.xe s₁) (fun u s' xx => ?_) PassesOwn.looking).run [] s σ H D (I.toTry _) h) (fun f s1 hsp => ?_) (fun e s1 he => he)
  · obtain ⟨a, B, sI, pins', σ', H', cls, d, rfl, J', nb, up, sky, na, os, ag, wm⟩ := xx
    have J : Inv X pins σ' H' sI := J'.ofTry ok
    have sky' : Sky B (X.env :: X.outer) a (Zc cls d) X.env.locals s'.heap := by rw [← hs]; exact sky
    show wpAny (model X.prog X.w) X.A (noteFrame (.ref a) X.env) _ _ _
    refine Sky.land Zc.steady hfr hf sky' fun h3 fl3 up3 => ?_
    have J3 : Inv X pins σ' H' { s' with heap := h3 } := J.landed nb fl3.1 (up.trans up3) os ag
    obtain ⟨oe3, vs3, he3, hz3, hd3⟩ := fl3.there
    have nfr : a ∉ frs (X.env :: X.outer) := fun hm => by
      obtain ⟨_, o', e', hnf⟩ := fl3.2.2.1.mem hm
      rw [he3] at e'; cases e'
      exact hnf _ hd3
    have nL : a ≠ X.env.locals := fun z => nfr (List.mem_filterMap.mpr ⟨X.env, List.mem_cons_self, by rw [hf, z]⟩)
    have nF : a ∉ X.fs := fun hm => by
      obtain ⟨e, he, q⟩ := List.mem_filterMap.mp hm
      exact nfr (List.mem_filterMap.mpr ⟨e, List.mem_cons_of_mem _ he, q⟩)
    have S3 := J3.suite he3 hd3 na nL nF
    have go : ∀ {hds' : List ExceptHandler} {l' : List Cl}, HdsA X n hds' l' → wManyA X.K i Wout D l' cls d σ' H' →
        wpAny (model X.prog X.w) X.A (handleBy (.ref a) X.env hds') (SP X pins D) X.xe { s' with heap := h3 } := by
      intro hds' l' hk
      induction hk with
      | nil =>
        intro wo
        refine wpAny_handleBy_nil ?_
        obtain ⟨k1, k2, k3, oe, vs, T, oT, ts', he, hz, hd, h1, hr⟩ := id fl3
        have fin : wpAny (model X.prog X.w) X.A (setFlight (.ref a) X.env.frame) (fun _ s4 => wpAny (model X.prog X.w) X.A (throw (.ref a) : Sem Flow) (SP X pins D) X.xe s4) X.xe { s' with heap := h3 } := by
          rw [hf]
          refine HandSPX.setFlight_upZ fl3 fun h4 hh4 up4 => wpAny_throw (tk _ _ ?_)
          exact ⟨a, B, sI, pins, σ', H', cls, d, rfl, J, nb, (up.trans up3).trans up4, .inr (.inr (by rw [hs]; exact hh4)), na, os, ag, wo⟩
        unfold PySem.passOn
        refine wpAny_bind (wpAny_field he hd h1 ?_)
        rw [if_neg (show ¬ ((Value.ref T == Value.none) = true) from by simp)]
        first
          | exact wpAny_bind (wpAny_pure (wpAny_bind fin))
          | exact wpAny_bind fin
      | @cons x c ts b₀ suite np pos' hds2 l2 hc hsu r ih =>
        intro w'
        obtain ⟨b, hb1, hyes, hno⟩ := w'
        refine wpAny_handleBy_cons (codeAny_handlers_test ?_) (by intro q; cases q)
        have LM := PySem.W.exm_one (M := model X.prog X.w) (J3.kIn) (fun A Q E s k q => wpAny_typeOf_ref (k _ _ he3) (by rw [hz3.1]; exact q)) hb1
        have test : ∀ {Q : Value → Shared → Prop} {E : Value → Shared → Prop}, Q c { s' with heap := h3 } → wpAny (model X.prog X.w) (X.A.mark (some (.ref a))) (eval (.Name x np) X.env) Q E { s' with heap := h3 } := fun {Q E} q => by
          obtain ⟨hg, hdbg, hm | ⟨hm, hv, hnn⟩⟩ := hc
          · exact ld_glob (X := X.suite a ((a, oe3) :: (X.pn ++ pins))) S3 hg hm q hdbg
          · exact ld_blt (X := X.suite a ((a, oe3) :: (X.pn ++ pins))) S3 hg hm hv q hnn hdbg
        refine test (LM.here ?_)
        cases b with
        | false => exact ih (hno rfl)
        | true =>
          refine codeAny_handlers_suite_as ?_
          refine HandSPX.lands_againZ fl3 fun h4 fl4 up4 => ?_
          have J4 : Inv X pins σ' H' { s' with heap := h4 } := J.landed nb fl4.1 ((up.trans up3).trans up4) os ag
          obtain ⟨oe4, vs4, he4, hz4, hd4⟩ := fl4.there
          refine store_ok (X := X.suite a ((a, oe4) :: (X.pn ++ pins))) (v := .ref a) (J4.suite he4 hd4 na nL nF) hN hi (.inl hln) rfl (fun s5 S5 => ?_) (.inr hln)
          refine wpAny_mono ((hsu a oe4 cls d (X.pn ++ pins) hz4 ⟨_, hd4⟩).run [] s5 _ H' _ S5 (hyes rfl a na)) (fun f s6 hsp => ?_) (fun _ _ z => False.elim z)
          have end_ : ∀ {σ6 : L2.St} {H6 : Hp} {Q : Shared → Prop}, Inv (X.suite a ((a, oe4) :: (X.pn ++ pins))) [] σ6 H6 s6 → (∀ s7, Inv X pins (σ6.set i none) H6 s7 → Q s7) →
              wpAny (model X.prog X.w) X.A (do bindName X.env n .none; unbindBehindTheSuite X.env n pos') (fun _ s7 => Q s7) X.xe s6 := fun {σ6 H6 Q} S6 hq => gone_ok (S6.unsuite ok) hN hi hln hq
          cases f with
          | next =>
            obtain ⟨σ6, H6, S6, q6⟩ := hsp
            exact end_ S6 fun s7 J7 => ⟨_, _, J7, q6⟩
          | brk =>
            obtain ⟨σ6, H6, S6, q6⟩ := hsp
            exact end_ S6 fun s7 J7 => ⟨_, _, J7, q6⟩
          | cont =>
            obtain ⟨σ6, H6, S6, q6⟩ := hsp
            exact end_ S6 fun s7 J7 => ⟨_, _, J7, q6⟩
          | ret u =>
            obtain ⟨v6, σ6, H6, S6, r6, q6⟩ := hsp
            exact end_ S6 fun s7 J7 => ⟨_, _, _, J7, r6, q6⟩
    exact go hh wm
  · have z := try_ran (pn := X.pn ++ pins) ok hsp (fun J' => J'.ofTry ok)
    cases f with
    | next => exact wpAny_execs_nil z
    | brk => exact z
    | cont => exact z
    | ret u => exact z
end
end HG

set_option Elab.async false
set_option linter.all false
set_option maxRecDepth 100000
set_option maxHeartbeats 4000000
/-! repr of data where no repr is under way -/
namespace HG
open PySem PySem.Spec PyProof.Rows L2 DX
section
variable {X : Cx} {pins : List (Addr × Obj)} {σ : L2.St} {H : Hp} {s : Shared}
mutual
theorem td_reads (I : L2.Inv X pins σ H s) : ∀ (d : PyData) {v : V} {u : Value}, Td X.K H v d → RelV v u → ∃ as, Reads s.heap u d as ∧ d.hasDict = false
  | .none, _, _, .non, r => by cases r; exact ⟨_, .none, rfl⟩
  | .bool b, _, _, .bl _, r => by cases r; exact ⟨_, .bool b, rfl⟩
  | .int i, _, _, .int _, r => by obtain ⟨t, rfl⟩ := r; exact ⟨_, .int i t, rfl⟩
  | .str x, _, _, .str _, r => by obtain ⟨t, rfl⟩ := r; exact ⟨_, .str x t, rfl⟩
  | .tuple ds, _, _, .tup hq ht, r => by
    cases r
    obtain ⟨its, rv, ⟨o, ho, hc, n, hd⟩, _⟩ := I.tuple hq
    obtain ⟨as, ra, hn⟩ := tds_reads I ds ht rv
    exact ⟨as, .tuple ho hc hd (by simpa using ra), by simpa [PyData.hasDict] using hn⟩
theorem tds_reads (I : L2.Inv X pins σ H s) : ∀ (ds : List PyData) {vs : List V} {us : List Value}, TdAll X.K H vs ds → Vals vs us → ∃ as, ReadsAll s.heap us ds as ∧ PyData.hasDictAll ds = false
  | [], _, _, .nil, .nil => ⟨_, .nil, rfl⟩
  | d :: ds, _, _, .cons h t, .cons r rr => by
    obtain ⟨as, ra, n1⟩ := td_reads I d h r
    obtain ⟨bs, rb, n2⟩ := tds_reads I ds t rr
    exact ⟨_, .cons ra rb, by simp [PyData.hasDictAll, n1, n2]⟩
end
end
def rRepG (K : PySem.W.Frag) : List V → Hp → VK → Prop := fun xs H Q => ∃ v d, xs = [v] ∧ ((Td K H v d ∧ ∃ ds, d = .tuple ds) ∨ ∃ a ys ds, v = .ref a ∧ d = .list ds ∧ H a = some (.lst ys) ∧ TdAll K H ys ds) ∧
  d.showable = true ∧ d.shown.length ≤ sizeLine ∧ d.depth ≤ 100 ∧ Q (.str d.shown) H
theorem call_reprG {X : Cx} (hA : X.A.guards = some []) (hu : X.A.units + 150 < cLine) : CallR X (.builtin "repr") (rRepG X.K) := by
  intro pins s σ H xs us Q I r h
  obtain ⟨v, d, rfl, hv, hs, hz, hdp, q⟩ := h
  cases r with
  | cons rx rr =>
    rename_i u us'
    cases rr
    have fin : ∀ {as : List Addr} {a : Addr}, u = .ref a → Reads s.heap u d as → d.hasDict = false → wpAny (model X.prog X.w) X.A (call (.builtin "repr") [u]) (EP X pins σ Q) X.xe s := fun {as a} e ra hn => by
      subst e
      exact repr_of_reads' ra hs (fun z => by rw [hn] at z; cases z) hA (by omega) (fun _ _ z => z) (fun h' u tk hk => ⟨.str d.shown, H, I.kept (t' := tk) hk, ⟨_, rfl⟩, q⟩) hz
    rcases hv with ⟨t, ds, rfl⟩ | ⟨a, ys, ds, rfl, rfl, ha, ht⟩
    · obtain ⟨as, ra, hn⟩ := td_reads I _ t rx
      cases t
      exact fin rx ra hn
    · cases rx
      obtain ⟨hzz, its, n, rv, ho⟩ := I.hok a _ ha
      obtain ⟨as, ra, hn⟩ := tds_reads I ds ht rv
      exact fin rfl (.list ho rfl rfl (by simpa using ra)) (by simpa [PyData.hasDict] using hn)
/-- repr of a tuple, of a list of data -/
theorem ed_repT {K : PySem.W.Frag} {ρ : HR K} {te : TE} {σ : L2.St} {H : Hp} {ds : List PyData} (h : EvD ρ te σ H (.tuple ds)) (hs : (PyData.tuple ds).showable = true) (hz : (PyData.tuple ds).shown.length ≤ sizeLine) (hd : (PyData.tuple ds).depth ≤ 100) :
    EvD ρ (tCB (rRepG K) (tCons te tNil)) σ H (.str (PyData.tuple ds).shown) := fun H1 a Q q => h H1 a _ fun v H2 e2 t => ⟨v, _, rfl, .inl ⟨t, _, rfl⟩, hs, hz, hd, q _ H2 e2 (.str _)⟩
theorem ed_repL {K : PySem.W.Frag} {ρ : HR K} {te : TE} {σ : L2.St} {H : Hp} {ds : List PyData} (h : EvL ρ te σ H ds) (hs : (PyData.list ds).showable = true) (hz : (PyData.list ds).shown.length ≤ sizeLine) (hd : (PyData.list ds).depth ≤ 100) :
    EvD ρ (tCB (rRepG K) (tCons te tNil)) σ H (.str (PyData.list ds).shown) := fun H1 a Q q => h H1 a _ fun p xs H2 hp e2 hx t => ⟨.ref p, _, rfl, .inr ⟨p, xs, ds, rfl, rfl, hx, t⟩, hs, hz, hd, q _ H2 e2 (.str _)⟩
end HG

set_option Elab.async false
set_option linter.all false
set_option maxRecDepth 100000
set_option maxHeartbeats 4000000
/-! a law whose def asks for known guards: the call by the claim's caller -/
namespace HG
open PySem PySem.Spec PyProof.Rows L2
/-- what is tracked at the law's call: the script at most -/
def trk (H : Hp) (a : Addr) : Prop := ∀ b, H b ≠ none → b = a
theorem call_at {P : Program} {w : World} {K : PySem.W.Frag} {mg mb : Str → Option Value} {CX : CXT} {k : Nat} {fa a : Addr} {fd : FuncData} {x : Str} {sp : Sp} {s₁ : Shared} {l : List Value} {xs : List V} {H : Hp}
    (KX : K.In s₁.heap) (hns : s₁.heap.Ns mainGlobals mg) (hb : s₁.heap.Ns builtinsNs mb) (hbb : ∀ x : Str, x ≠ "__name__" → mb x = bootBuiltins x) (hlim : s₁.heap.NoLimit) (hg : s₁.gens = #[])
    (ha : s₁.heap.get? a = some { cls := .type "list", data := .seq l.toArray }) (hr : Room k callerA)
    (F : ∀ base : Heap, K.In base → base.Ns mainGlobals mg → FnG P w K mg base CX k fa fd [x] sp) (hbind : ∀ (s : Shared) (u : Value), BindsTo s fd ⟨[u], []⟩ [(x, u)])
    (hsp : sp [.ref a] H (fun v _ => v = .bl true) fun _ _ _ => False) (hCX : ∀ H e s', CX [] H s₁ (fun _ _ _ => False) e s' → False)
    (hO : Only H) (hok : HOk P w H s₁.heap) (hA : trk H a) (hK : H a ≠ none → K.lookup a = none) :
    codeAny (model P w) callerA (.call (.ref fa) ⟨[.ref a], []⟩) (fun r s' => r = .ok (.ret (.bool true)) ∧ OldK s₁.heap s'.heap ∧ s'.os = s₁.os ∧ AllBare s'.gens) s₁ := by
  have free : ∀ {b : Addr} {o : Obj}, s₁.heap.get? b = some o → (b = a → False) → (hidT s₁.heap H).get? b = some o := fun {b o} e n => hidT_get e (by
    cases q : H b with
    | none => rfl
    | some u => exact (n (hA b (by rw [q]; simp))).elim)
  have nsK : ∀ {b : Addr} {m : Str → Option Value}, s₁.heap.Ns b m → (hidT s₁.heap H).Ns b m := fun {b m} ⟨o, es, ep, e, d, r⟩ => ⟨o, es, ep, free e (fun z => by
    subst z
    rw [ha] at e
    cases e
    cases d), d, r⟩
  have hKb : K.In (hidT s₁.heap H) := fun b o e => hidT_get (KX b o e) (by
    cases q : H b with
    | none => rfl
    | some u =>
      have z := hA b (by rw [q]; simp)
      subst z
      rw [hK (by rw [q]; simp)] at e
      cases e)
  have e0 : Env0 P w K mg (hidT s₁.heap H) callerA [] s₁ H :=
    ⟨rfl, ⟨hKb, nsK hns, ⟨mb, nsK hb, hbb⟩, hlim.elim fun mc q => ⟨mc, nsK q.1, q.2⟩⟩, fun b o e => of_hidT e, Nat.le_of_eq (hidT_size _ _), trivial, (fun b hb => by cases hb), hok, .of_eq hg⟩
  refine codeAny_mono ((F _ hKb (nsK hns)).run callerA [] s₁ H ⟨[.ref a], []⟩ [.ref a] [.ref a] _ _ rfl hr e0 (hbind s₁ (.ref a)) (.cons rfl .nil) hsp) fun r s' h => ?_
  match r, h with
  | .error e, h => exact (hCX H e s' h).elim
  | .ok .next, h => exact False.elim h
  | .ok .brk, h => exact False.elim h
  | .ok .cont, h => exact False.elim h
  | .ok (.ret u), ⟨v, H', os, bare, un, hok', r', q⟩ =>
    have q' : v = .bl true := q
    subst q'
    obtain rfl : u = Value.bool true := r'
    refine ⟨rfl, OldK.of_keep fun b o e => ?_, os, bare⟩
    rcases hO b with z | ⟨ob, ys, z⟩
    · exact un.keep b o e z (by intro y; cases y) (by simp)
    · obtain ⟨e1, _⟩ := hok b _ z
      obtain ⟨e2, _⟩ := hok' b _ (un.frzs b ob _ z)
      rw [e] at e1
      cases e1
      exact e2
theorem law_callG {P : Program} {w : World} {K : PySem.W.Frag} {mg mb : Str → Option Value} {CX : CXT} {k : Nat} {fa a : Addr} {fd : FuncData} {x : Str} {sp : Sp} {s₁ : Shared} {vs : List Value} {ns : List Int}
    (KX : K.In s₁.heap) (hns : s₁.heap.Ns mainGlobals mg) (hb : s₁.heap.Ns builtinsNs mb) (hbb : ∀ x : Str, x ≠ "__name__" → mb x = bootBuiltins x) (hlim : s₁.heap.NoLimit) (hg : s₁.gens = #[])
    (ha : s₁.heap.get? a = some { cls := .type "list", data := .seq vs.toArray }) (hi : IntsAre vs ns) (hl : ns.length ≤ sizeLine) (hr : Room k callerA)
    (F : ∀ base : Heap, K.In base → base.Ns mainGlobals mg → FnG P w K mg base CX k fa fd [x] sp) (hbind : ∀ (s : Shared) (u : Value), BindsTo s fd ⟨[u], []⟩ [(x, u)])
    (hsp : ∀ H : Hp, Only H → SqL K H a (ns.map V.int) → sp [.ref a] H (fun v _ => v = .bl true) fun _ _ _ => False) (hCX : ∀ H e s', CX [] H s₁ (fun _ _ _ => False) e s' → False) :
    codeAny (model P w) callerA (.call (.ref fa) ⟨[.ref a], []⟩) (fun r s' => r = .ok (.ret (.bool true)) ∧ OldK s₁.heap s'.heap ∧ s'.os = s₁.os ∧ AllBare s'.gens) s₁ := by
  have rv := vals_ints hi
  have lenV := hi.length
  have go := fun H hO hS => call_at (H := H) (xs := ns.map V.int) KX hns hb hbb hlim hg ha hr F hbind (hsp H hO hS) hCX hO
  cases hk : K.lookup a with
  | some o =>
    have e := KX a o hk
    rw [ha] at e
    cases e
    exact go (fun _ => none) (fun _ => .inl rfl) (.inr ⟨_, vs.toArray, _, hk, rfl, rfl, rfl, by rw [List.size_toArray, lenV]; exact hl, by simpa using rv⟩) (fun b u z => nomatch (show (none : Option HO) = some u from z)) (fun b z => absurd rfl z) (fun z => absurd rfl z)
  | none =>
    have at_ : ∀ {b : Addr} {u : HO}, (if b = a then some (HO.frz { cls := .type "list", data := .seq vs.toArray } (.lst (ns.map V.int))) else none) = some u → b = a ∧ u = .frz { cls := .type "list", data := .seq vs.toArray } (.lst (ns.map V.int)) := fun {b u} z => by
      by_cases q : b = a
      · rw [if_pos q] at z
        exact ⟨q, (Option.some.inj z).symm⟩
      · rw [if_neg q] at z
        cases z
    refine go (fun b => if b = a then some (.frz { cls := .type "list", data := .seq vs.toArray } (.lst (ns.map V.int))) else none) (fun b => ?_) (.inl (.inr ⟨{ cls := .type "list", data := .seq vs.toArray }, if_pos rfl⟩)) (fun b u z => ?_) (fun b z => ?_) fun _ => hk
    · by_cases q : b = a
      · exact .inr ⟨_, _, if_pos q⟩
      · exact .inl (if_neg q)
    · obtain ⟨e1, e2⟩ := at_ z
      subst e1 e2
      exact ⟨ha, by rw [List.length_map]; exact hl, vs, _, rv, ha⟩
    · by_cases q : b = a
      · exact q
      · exact absurd (if_neg q) z
theorem walk_ofG {l : PySem.W.OpenLaw} {n k : Nat} {q : Program} {loose : List Str} {XP : (Str → Option Value) → Heap → Prop} {YP : World → Heap → Prop} {d : DefRec} {CX : CXT} {x : Str}
    (hn : l.most = some n) (hn2 : n ≤ sizeLine) (hdf : d.params.defaults = []) (hr : Room k callerA)
    (F : ∀ (w : World) (mg : Str → Option Value) (fa : Addr) (h : Heap), YP w h → h.Ns mainGlobals mg → mg d.name = some (.ref fa) →
      ∃ (K : PySem.W.Frag) (fd : FuncData) (sp : Sp), K.In h ∧ (∀ (s : Shared) (u : Value), BindsTo s fd ⟨[u], []⟩ [(x, u)]) ∧
        (∀ (H : Hp) (a : Addr) (ns : List Int), ns.length ≤ n → Only H → SqL K H a (ns.map V.int) → sp [.ref a] H (fun v _ => v = .bl true) fun _ _ _ => False) ∧
        ∀ base : Heap, K.In base → base.Ns mainGlobals mg → FnG l.prog w K mg base CX k fa fd [x] sp)
    (hCX : ∀ (H : Hp) (s : Shared) (e : Value) (s' : Shared), CX [] H s (fun _ _ _ => False) e s' → False) :
    PySem.W.WalkO q loose XP YP l.row.toRowW d [] (fun f vs => PySem.call f vs) := by
  refine Att.attach_call hn hdf fun w s₀ s₁ mg mb fa o pm cd doc a vs ns G Y ho hd hcd hmg hobj hints hlen hg => ?_
  obtain ⟨K, fd, sp, KX, hb, hsp, hF⟩ := F w mg fa _ Y G.T.g hmg
  exact law_callG KX G.T.g G.T.b G.T.builtins G.T.nolimit hg hobj hints (Nat.le_trans hlen hn2) hr hF hb (fun H hO hS => hsp H a ns hlen hO hS) fun H e s' => hCX H s₁ e s'
end HG

set_option Elab.async false
set_option linter.all false
set_option maxRecDepth 100000
set_option maxHeartbeats 8000000
namespace K3
open PySem PySem.Spec PyProof.Rows L2 He HX DX HG
abbrev PP : Program := PySem.Challenge.pw_hangstogether_k03_errors_and_limits
section
variable {w : World} {K : PySem.W.Frag} {mg : Str → Option Value} {base : Heap}
/-! the nine classes, the nine values -/
def cN : Nat → Str
  | 0 => "ClothError"
  | 1 => "DraftError"
  | 2 => "ArgumentError"
  | 3 => "PaperError"
  | 4 => "LoomError"
  | 5 => "TooMany"
  | 6 => "TextError"
  | 7 => "LogError"
  | _ => "CommandError"
abbrev cA (K : PySem.W.Frag) (i : Nat) : Addr := ga K (cN i)
theorem cN_mem : ∀ i : Nat, cN i ∈ hk.es
  | 0 => by decide
  | 1 => by decide
  | 2 => by decide
  | 3 => by decide
  | 4 => by decide
  | 5 => by decide
  | 6 => by decide
  | 7 => by decide
  | _ + 8 => show ("CommandError" : Str) ∈ hk.es by decide
theorem cN_inj : ∀ i < 9, ∀ j < 9, decide (cN i = cN j) = decide (i = j) := by decide +kernel
def nine : List PyData := [.str "", .str "reason", .int 0, .int (-1), .int 17, .tuple [.int 3, .int 1], .tuple [], .tuple [.str "a", .int 5], .int 1000000000000]
theorem nine_ok : ∀ d ∈ nine, (∃ b, d.showable = b ∧ b = true) ∧ d.shown.length ≤ 30 ∧ d.depth ≤ 3 := by
  intro d h
  simp only [nine, List.mem_cons, List.not_mem_nil, or_false] at h
  rcases h with rfl | rfl | rfl | rfl | rfl | rfl | rfl | rfl | rfl <;> exact ⟨⟨_, rfl, by decide +kernel⟩, by decide +kernel, by decide +kernel⟩
theorem atI_some {α : Type} {xs : List α} {r : Int} (h0 : 0 ≤ r) (h1 : r < xs.length) : ∃ v, atI xs r = some v ∧ v ∈ xs := by
  have hr : r.toNat < xs.length := by omega
  refine ⟨xs[r.toNat], ?_, List.getElem_mem hr⟩
  unfold atI ixN
  rw [if_pos h0, if_pos h1]
  show xs[r.toNat]? = _
  simp [hr]
theorem fmod_in {i m : Int} (h : 0 < m) : 0 ≤ i.fmod m ∧ i.fmod m < m := ⟨Int.fmod_nonneg_of_pos i h, Int.fmod_lt_of_pos i h⟩
/-! _law_value -/
def spVal (K : PySem.W.Frag) : Sp := fun vs H Q _ => ∃ (a : Addr) (ns : List Int) (p : Int), vs = [.ref a, .int p] ∧ SqL K H a (ns.map V.int) ∧ 0 ≤ p ∧ p ≤ 100 ∧ ∀ v d H', Evl.Ex H H' → Td K H' v d → d ∈ nine → Q v H'
theorem ok_law_value (T : Tx K mg) : FnOk PP w K mg base CX0 1 (ga K "_law_value") (fdx K "_law_value") ["script", "place"] (spVal K) := by
  refine (F__law_value T).ok sc__law_value (fun vs H Q E h => by obtain ⟨_, _, _, rfl, _⟩ := h; rfl) (fun cdv A outer s H vs Q E hr h => ?_)
  obtain ⟨a, ns, p, rfl, hs, p0, p1, k⟩ := h
  refine ⟨_, PSs.nox (pss_cons (ps_set (i := 2) sc__law_value.nd rfl (Or.inl rfl) (pe_lst (pa_cons pe_str (pa_cons pe_str (pa_cons pe_int (pa_cons (pe_un un_neg pe_int) (pa_cons pe_int (pa_cons (pe_tup (pa_cons pe_int (pa_cons pe_int pa_nil))) (pa_cons (pe_tup pa_nil) (pa_cons (pe_tup (pa_cons pe_str (pa_cons pe_int pa_nil))) (pa_cons (pe_op op_pow pe_int pe_int) pa_nil)))))))))))
    (pss_cons (ps_set (i := 3) sc__law_value.nd rfl (Or.inl rfl) (pe_ifExp (pt_cmpR op_gt (pe_callB (r := rLen2 K) call_len_seq (by rfl) (n_len T) Boot.«len» (pa_cons (pv 0) pa_nil)) pe_int (nomark _)) (pe_ix (r := rIxL K) ix_list (pv 0) (pe_op op_modN (pe_callTy call_int1 (by rfl) (n_int T) Boot.«int» (pa_cons (pv 1) pa_nil)) (pe_callB (r := rLen2 K) call_len_seq (by rfl) (n_len T) Boot.«len» (pa_cons (pv 0) pa_nil))) (fun _ _ => rfl)) pe_int))
    (pss_one (ps_ret (pe_ix (r := rIxL K) ix_list (pv 2) (pe_op op_modN (pe_callTy call_int1 (by rfl) (n_int T) Boot.«int» (pa_cons (pe_op op_fdiv (pe_callB call_abs (by rfl) (n_abs T) Boot.«abs» (pa_cons (pv 3) pa_nil)) (pe_op op_add pe_int (pv 1))) pa_nil)) pe_int) (fun _ _ => rfl)))))), ?_⟩
  have lit : (12 : Int).toNat = 12 := rfl
  refine q_setL (ρ := hrE K) trivial (ds := nine) (EvL.is (el_lst (es_cons ed_str (es_cons ed_str (es_cons ed_int (es_cons (ed_neg ed_int) (es_cons ed_int (es_cons (ed_tup (es_cons ed_int (es_cons ed_int es_nil)) (by simp)) (es_cons (ed_tup es_nil (by simp)) (es_cons (ed_tup (es_cons ed_str (es_cons ed_int es_nil)) (by simp)) (es_cons (ed_ariC ed_int ed_int ⟨by decide, by decide, by decide⟩) es_nil))))))))) (by simp)) (by rfl)) (fun pR rs H1 hR0 e1 hR tR => ?_)
  have hs1 : ∀ H2, Evl.Ex H1 H2 → SqL K H2 a (ns.map V.int) := fun H2 e => Evl.ex_l (Evl.Ex.trans e1 e) hs
  have cell : EvP (hrE K) (tIf (tTest (tOp (rI0 fun i j => .bl (decide (i > j))) (tCB (rLen2 K) (tCons (tVar 0) tNil)) (tC (.int 0)))) (tOp (rIxL K) (tVar 0) (tOp (rI (fun _ j => j ≠ 0) fun i j => .int (i.fmod j)) (tCB (fun xs H Q => (∃ i, xs = [V.int i] ∧ Q (.int i) H) ∨ ∃ k, xs = [V.bl k] ∧ Q (.int (if k then 1 else 0)) H) (tCons (tVar 1) tNil)) (tCB (rLen2 K) (tCons (tVar 0) tNil)))) (tC (.int 5)))
      [some (.ref a), some (.int p), some (.ref pR), none] H1 (isN fun _ => True) := by
    have ln : EvD (hrE K) (tCB (rLen2 K) (tCons (tVar 0) tNil)) [some (.ref a), some (.int p), some (.ref pR), none] H1 (.int ((ns.map V.int).length : Nat)) := ed_lenL (ev_var rfl) (fun H2 e => hs1 H2 e)
    refine ep_if (b := decide ((((ns.map V.int).length : Nat) : Int) > 0)) (eb_test (ed_cmp ln ed_int)) (fun z => ?_) (fun _ => ed_int.p ⟨_, rfl, trivial⟩)
    have z' : (((ns.map V.int).length : Nat) : Int) > 0 := of_decide_eq_true z
    obtain ⟨f0, f1⟩ := fmod_in (i := p) z'
    obtain ⟨v, hv, hm⟩ := atI_some f0 f1
    obtain ⟨n, -, rfl⟩ := List.mem_map.mp hm
    exact EvD.p (ed_ixL (d := .int n) (ev_var rfl) (ed_ariC (ed_int1 (ed_var (i := 1) rfl (.int p))) ln (by omega)) (fun H2 e => hs1 H2 e) hv (fun H2 _ => .int n)) ⟨_, rfl, trivial⟩
  refine q_setP (ρ := hrE K) trivial cell (fun v d H2 e2 t pd => ?_)
  obtain ⟨c, rfl, -⟩ := pd
  cases t
  have e12 := Evl.Ex.trans e1 e2
  have pos : (0 : Int) < 1 + p := by omega
  obtain ⟨f0, f1⟩ := fmod_in (i := (if c < 0 then -c else c) / (1 + p)) (m := 9) (by decide)
  have hlR : rs.length = 9 := tR.len
  obtain ⟨u, hu, hm⟩ := atI_some (xs := rs) f0 (by rw [hlR]; exact f1)
  obtain ⟨j, hj⟩ := List.mem_iff_getElem?.mp hm
  obtain ⟨d, hd, td⟩ := tR.get hj
  exact ret_d (ρ := hrE K) trivial (ed_ixL (ev_var rfl) (ed_ariC (ed_int1 (ed_ariC (ed_abs (ed_var rfl (.int c))) (ed_ari ed_int (ed_var rfl (.int p))) ⟨pos, by omega⟩)) ed_int (by decide)) (fun H3 e3 => Evl.sq_of (e3 _ _ (e2 _ _ hR))) hu (fun H3 e3 => Td.mono (hrE K) (Evl.Ex.trans e2 e3) _ td)) (fun v H3 e3 t => k v d H3 (Evl.Ex.trans e12 e3) t (List.mem_of_getElem? hd))
end
end K3

set_option Elab.async false
set_option linter.all false
set_option maxRecDepth 100000
set_option maxHeartbeats 8000000
namespace K3
open PySem PySem.Spec PyProof.Rows L2 He HX DX HG
theorem pe_imp {X : Cx} {e : Expr} {t t' : TE} (h : PE X e t) (k : ∀ σ H Q, t' σ H Q → t σ H Q) : PE X e t' := ⟨fun pins s σ H Q I q => h.run pins s σ H Q I (k σ H Q q)⟩
section
variable {w : World} {K : PySem.W.Frag} {mg : Str → Option Value} {base : Heap}
/-! _law_sorts -/
def flags (n : Nat) : List PyData := ((List.range 9).map fun j => decide (j = n)).map PyData.bool
def spS (K : PySem.W.Frag) (a : Addr) (cls : Value) (d : Option Addr) : Sp := fun vs H Q _ => ∃ (n : Nat) (dd : Addr) (fs : List (Str × V)), n < 9 ∧ cls = .ref (cA K n) ∧ d = some dd ∧ vs = [.ref a] ∧ H dd = some (.xd fs) ∧
  ∀ p xs H', H p = none → Evl.Ex H H' → H' p = some (.lst xs) → TdAll K H' xs (flags n) → Q (.ref p) H'
def spSorts (K : PySem.W.Frag) : Addr × Obj → Sp := fun p vs H Q E => ∃ cls d, Zc cls d p.2 ∧ (∃ vs, p.2.data = .fields vs) ∧ spS K p.1 cls d vs H Q E
theorem ed_isx {a D C dd : Addr} {fs : List (Str × V)} {σ : L2.St} {H : Hp} {i : Nat} {b : Bool} (hs : σ[i]? = some (some (.ref a))) (c : L2.ExcC K D) (hd : H dd = some (.xd fs)) (hk : PySem.W.kitOne K (.ref D) (.ref C) = some b) :
    EvD (hrE K) (tCB (rIsX K a (.ref D) (some dd)) (tCons (tVar i) (tCons (tC (.ref C)) tNil))) σ H (.bool b) := fun H1 e Q q =>
  ⟨.ref a, hs, D, dd, fs, .ref C, .ref C, b, rfl, rfl, c, e _ _ hd, rfl, (fun u h => h), hk, q (.bl b) H1 (Evl.Ex.refl H1) (.bl b)⟩
theorem kit_ij (T : Tx K mg) {i j : Nat} (hi : i < 9) (hj : j < 9) : PySem.W.kitOne K (.ref (cA K i)) (.ref (cA K j)) = some (decide (j = i)) := by
  rw [(T.says.pair (cN_mem i) (cN_mem j)).1, cN_inj i hi j hj]
  congr 1
  exact decide_eq_decide.mpr ⟨Eq.symm, Eq.symm⟩
theorem exm_ij (T : Tx K mg) {i j : Nat} (hi : i < 9) (hj : j < 9) : PySem.W.exmOne K (.ref (cA K i)) (.ref (cA K j)) = some (decide (i = j)) := by
  rw [(T.says.pair (cN_mem i) (cN_mem j)).2, cN_inj i hi j hj]
theorem ok_law_sorts (T : Tx K mg) : FnP PP w K mg base CX0 1 (ga K "_law_sorts") (fdx K "_law_sorts") ["error"] (spSorts K) := by
  refine okP (F__law_sorts T) sc__law_sorts (fun p vs H Q E h => by obtain ⟨_, _, _, _, _, _, _, _, _, _, rfl, _⟩ := h; rfl) (fun cdv A outer s H vs Q E p hr h => ?_)
  obtain ⟨cls, d, hz, hf, n, dd, fs, hn, rfl, rfl, rfl, hd, k⟩ := h
  obtain ⟨a, oe⟩ := p
  refine ⟨tRet (tLst (tCons (tCB (rIsX K a (.ref (cA K n)) (some dd)) (tCons (tVar 0) (tCons (tC (.ref (cA K 0))) tNil))) (tCons (tCB (rIsX K a (.ref (cA K n)) (some dd)) (tCons (tVar 0) (tCons (tC (.ref (cA K 1))) tNil))) (tCons (tCB (rIsX K a (.ref (cA K n)) (some dd)) (tCons (tVar 0) (tCons (tC (.ref (cA K 2))) tNil))) (tCons (tCB (rIsX K a (.ref (cA K n)) (some dd)) (tCons (tVar 0) (tCons (tC (.ref (cA K 3))) tNil))) (tCons (tCB (rIsX K a (.ref (cA K n)) (some dd)) (tCons (tVar 0) (tCons (tC (.ref (cA K 4))) tNil))) (tCons (tCB (rIsX K a (.ref (cA K n)) (some dd)) (tCons (tVar 0) (tCons (tC (.ref (cA K 5))) tNil))) (tCons (tCB (rIsX K a (.ref (cA K n)) (some dd)) (tCons (tVar 0) (tCons (tC (.ref (cA K 6))) tNil))) (tCons (tCB (rIsX K a (.ref (cA K n)) (some dd)) (tCons (tVar 0) (tCons (tC (.ref (cA K 7))) tNil))) (tCons (tCB (rIsX K a (.ref (cA K n)) (some dd)) (tCons (tVar 0) (tCons (tC (.ref (cA K 8))) tNil))) tNil)))))))))), pss_one (ps_ret (pe_lst (pa_cons (pe_callB (r := rIsX K a (.ref (cA K n)) (some dd)) (call_isP (oe := oe) List.mem_cons_self hz hf) (by rfl) (n_isinstance T) Boot.«isinstance» (pa_cons (pv 0) (pa_cons (pe_glob (v := .ref (cA K 0)) rfl (g_ClothError T) rfl) pa_nil))) (pa_cons (pe_callB (r := rIsX K a (.ref (cA K n)) (some dd)) (call_isP (oe := oe) List.mem_cons_self hz hf) (by rfl) (n_isinstance T) Boot.«isinstance» (pa_cons (pv 0) (pa_cons (pe_glob (v := .ref (cA K 1)) rfl (g_DraftError T) rfl) pa_nil))) (pa_cons (pe_callB (r := rIsX K a (.ref (cA K n)) (some dd)) (call_isP (oe := oe) List.mem_cons_self hz hf) (by rfl) (n_isinstance T) Boot.«isinstance» (pa_cons (pv 0) (pa_cons (pe_glob (v := .ref (cA K 2)) rfl (g_ArgumentError T) rfl) pa_nil))) (pa_cons (pe_callB (r := rIsX K a (.ref (cA K n)) (some dd)) (call_isP (oe := oe) List.mem_cons_self hz hf) (by rfl) (n_isinstance T) Boot.«isinstance» (pa_cons (pv 0) (pa_cons (pe_glob (v := .ref (cA K 3)) rfl (g_PaperError T) rfl) pa_nil))) (pa_cons (pe_callB (r := rIsX K a (.ref (cA K n)) (some dd)) (call_isP (oe := oe) List.mem_cons_self hz hf) (by rfl) (n_isinstance T) Boot.«isinstance» (pa_cons (pv 0) (pa_cons (pe_glob (v := .ref (cA K 4)) rfl (g_LoomError T) rfl) pa_nil))) (pa_cons (pe_callB (r := rIsX K a (.ref (cA K n)) (some dd)) (call_isP (oe := oe) List.mem_cons_self hz hf) (by rfl) (n_isinstance T) Boot.«isinstance» (pa_cons (pv 0) (pa_cons (pe_glob (v := .ref (cA K 5)) rfl (g_TooMany T) rfl) pa_nil))) (pa_cons (pe_callB (r := rIsX K a (.ref (cA K n)) (some dd)) (call_isP (oe := oe) List.mem_cons_self hz hf) (by rfl) (n_isinstance T) Boot.«isinstance» (pa_cons (pv 0) (pa_cons (pe_glob (v := .ref (cA K 6)) rfl (g_TextError T) rfl) pa_nil))) (pa_cons (pe_callB (r := rIsX K a (.ref (cA K n)) (some dd)) (call_isP (oe := oe) List.mem_cons_self hz hf) (by rfl) (n_isinstance T) Boot.«isinstance» (pa_cons (pv 0) (pa_cons (pe_glob (v := .ref (cA K 7)) rfl (g_LogError T) rfl) pa_nil))) (pa_cons (pe_callB (r := rIsX K a (.ref (cA K n)) (some dd)) (call_isP (oe := oe) List.mem_cons_self hz hf) (by rfl) (n_isinstance T) Boot.«isinstance» (pa_cons (pv 0) (pa_cons (pe_glob (v := .ref (cA K 8)) rfl (g_CommandError T) rfl) pa_nil))) pa_nil))))))))))), ?_⟩
  have c := (T.says.exc (cN_mem n)).1
  have one : ∀ j, j < 9 → EvD (hrE K) (tCB (rIsX K a (.ref (cA K n)) (some dd)) (tCons (tVar 0) (tCons (tC (.ref (cA K j))) tNil))) (start ["error"] [.ref a]) H (.bool (decide (j = n))) := fun j hj => ed_isx rfl c hd (kit_ij T hn hj)
  refine el_lst (ρ := hrE K) (ds := flags n) (es_cons (one 0 (by decide)) (es_cons (one 1 (by decide)) (es_cons (one 2 (by decide)) (es_cons (one 3 (by decide)) (es_cons (one 4 (by decide)) (es_cons (one 5 (by decide)) (es_cons (one 6 (by decide)) (es_cons (one 7 (by decide)) (es_cons (one 8 (by decide)) es_nil))))))))) (by simp [flags]) H (Evl.Ex.refl H) _ (fun p xs H2 hp e2 hx ht => k p xs H2 hp e2 hx ht)
/-! _law_raise -/
def xFs (n : Nat) (v u : V) : List (Str × V) := match n with
  | 6 => [("at", v)]
  | 7 => [("number", v), ("reason", u)]
  | 8 => [("line", v)]
  | _ => [("reason", v)]
def spRaise (K : PySem.W.Frag) : Sp := fun vs H _ E => ∃ (n : Nat) (v u : V), n < 9 ∧ vs = [.int (n : Int), v, u] ∧ ∀ H' dd, Evl.Ex H H' → H' dd = some (.xd (xFs n v u)) → E (.ref (cA K n)) (some dd) H'
theorem ok_law_raise (T : Tx K mg) : FnOk PP w K mg base (L2.CX PP w) 1 (ga K "_law_raise") (fdx K "_law_raise") ["k", "one", "other"] (spRaise K) := by
  refine (F__law_raise T).ok sc__law_raise (fun vs H Q E h => by obtain ⟨_, _, _, _, rfl, _⟩ := h; rfl) (fun cdv A outer s H vs Q E hr h => ?_)
  obtain ⟨n, v, u, hn, rfl, kE⟩ := h
  refine ⟨_, pss_cons (ps_if (pt_cmpR op_eq (pv 0) pe_int (nomark _)) (pss_one (EXr.ps_raiseR rfl (rs_ClothError T) hr (takes_of rfl rfl rfl rfl) (pa_cons (pv 1) pa_nil) (g_ClothError T))) pss_nil)
    (pss_cons (ps_if (pt_cmpR op_eq (pv 0) pe_int (nomark _)) (pss_one (EXr.ps_raiseR rfl (rs_DraftError T) hr (takes_of rfl rfl rfl rfl) (pa_cons (pv 1) pa_nil) (g_DraftError T))) pss_nil)
    (pss_cons (ps_if (pt_cmpR op_eq (pv 0) pe_int (nomark _)) (pss_one (EXr.ps_raiseR rfl (rs_ArgumentError T) hr (takes_of rfl rfl rfl rfl) (pa_cons (pv 1) pa_nil) (g_ArgumentError T))) pss_nil)
    (pss_cons (ps_if (pt_cmpR op_eq (pv 0) pe_int (nomark _)) (pss_one (EXr.ps_raiseR rfl (rs_PaperError T) hr (takes_of rfl rfl rfl rfl) (pa_cons (pv 1) pa_nil) (g_PaperError T))) pss_nil)
    (pss_cons (ps_if (pt_cmpR op_eq (pv 0) pe_int (nomark _)) (pss_one (EXr.ps_raiseR rfl (rs_LoomError T) hr (takes_of rfl rfl rfl rfl) (pa_cons (pv 1) pa_nil) (g_LoomError T))) pss_nil)
    (pss_cons (ps_if (pt_cmpR op_eq (pv 0) pe_int (nomark _)) (pss_one (EXr.ps_raiseR rfl (rs_TooMany T) hr (takes_of rfl rfl rfl rfl) (pa_cons (pv 1) pa_nil) (g_TooMany T))) pss_nil)
    (pss_cons (ps_if (pt_cmpR op_eq (pv 0) pe_int (nomark _)) (pss_one (EXa.ps_raiseR rfl (rs_TextError T) hr (takes_of rfl rfl rfl rfl) (pa_cons (pv 1) pa_nil) (g_TextError T))) pss_nil)
    (pss_cons (ps_if (pt_cmpR op_eq (pv 0) pe_int (nomark _)) (pss_one (EXn.ps_raiseR rfl (rs_LogError T) hr (takes_of rfl rfl rfl rfl) (pa_cons (pv 1) (pa_cons (pv 2) pa_nil)) (g_LogError T))) pss_nil)
    (pss_one (EXl.ps_raiseR rfl (rs_CommandError T) hr (takes_of rfl rfl rfl rfl) (pa_cons (pv 1) pa_nil) (g_CommandError T)))))))))), ?_⟩
  have e0 := Evl.Ex.refl H
  refine seq_ifN (ρ := hrE K) (b := decide ((n : Int) = 0)) trivial (eb_test (ed_eqI (ed_var rfl (.int n)) ed_int)) (fun z H1 h1 => ?_) (fun z0 G0 g0 => ?_)
  · have hz : n = 0 := by have := of_decide_eq_true z; omega
    subst hz
    exact ⟨v, rfl, v, rfl, fun dd hd => kE _ dd (Evl.Ex.mut (Evl.Ex.trans e0 h1) (Evl.fresh_back (Evl.Ex.trans e0 h1) hd)) upd_same⟩
  have e1 := Evl.Ex.trans e0 g0
  have y0 := of_decide_eq_false z0
  refine seq_ifN (ρ := hrE K) (b := decide ((n : Int) = 1)) trivial (eb_test (ed_eqI (ed_var rfl (.int n)) ed_int)) (fun z H1 h1 => ?_) (fun z1 G1 g1 => ?_)
  · have hz : n = 1 := by have := of_decide_eq_true z; omega
    subst hz
    exact ⟨v, rfl, v, rfl, fun dd hd => kE _ dd (Evl.Ex.mut (Evl.Ex.trans e1 h1) (Evl.fresh_back (Evl.Ex.trans e1 h1) hd)) upd_same⟩
  have e2 := Evl.Ex.trans e1 g1
  have y1 := of_decide_eq_false z1
  refine seq_ifN (ρ := hrE K) (b := decide ((n : Int) = 2)) trivial (eb_test (ed_eqI (ed_var rfl (.int n)) ed_int)) (fun z H1 h1 => ?_) (fun z2 G2 g2 => ?_)
  · have hz : n = 2 := by have := of_decide_eq_true z; omega
    subst hz
    exact ⟨v, rfl, v, rfl, fun dd hd => kE _ dd (Evl.Ex.mut (Evl.Ex.trans e2 h1) (Evl.fresh_back (Evl.Ex.trans e2 h1) hd)) upd_same⟩
  have e3 := Evl.Ex.trans e2 g2
  have y2 := of_decide_eq_false z2
  refine seq_ifN (ρ := hrE K) (b := decide ((n : Int) = 3)) trivial (eb_test (ed_eqI (ed_var rfl (.int n)) ed_int)) (fun z H1 h1 => ?_) (fun z3 G3 g3 => ?_)
  · have hz : n = 3 := by have := of_decide_eq_true z; omega
    subst hz
    exact ⟨v, rfl, v, rfl, fun dd hd => kE _ dd (Evl.Ex.mut (Evl.Ex.trans e3 h1) (Evl.fresh_back (Evl.Ex.trans e3 h1) hd)) upd_same⟩
  have e4 := Evl.Ex.trans e3 g3
  have y3 := of_decide_eq_false z3
  refine seq_ifN (ρ := hrE K) (b := decide ((n : Int) = 4)) trivial (eb_test (ed_eqI (ed_var rfl (.int n)) ed_int)) (fun z H1 h1 => ?_) (fun z4 G4 g4 => ?_)
  · have hz : n = 4 := by have := of_decide_eq_true z; omega
    subst hz
    exact ⟨v, rfl, v, rfl, fun dd hd => kE _ dd (Evl.Ex.mut (Evl.Ex.trans e4 h1) (Evl.fresh_back (Evl.Ex.trans e4 h1) hd)) upd_same⟩
  have e5 := Evl.Ex.trans e4 g4
  have y4 := of_decide_eq_false z4
  refine seq_ifN (ρ := hrE K) (b := decide ((n : Int) = 5)) trivial (eb_test (ed_eqI (ed_var rfl (.int n)) ed_int)) (fun z H1 h1 => ?_) (fun z5 G5 g5 => ?_)
  · have hz : n = 5 := by have := of_decide_eq_true z; omega
    subst hz
    exact ⟨v, rfl, v, rfl, fun dd hd => kE _ dd (Evl.Ex.mut (Evl.Ex.trans e5 h1) (Evl.fresh_back (Evl.Ex.trans e5 h1) hd)) upd_same⟩
  have e6 := Evl.Ex.trans e5 g5
  have y5 := of_decide_eq_false z5
  refine seq_ifN (ρ := hrE K) (b := decide ((n : Int) = 6)) trivial (eb_test (ed_eqI (ed_var rfl (.int n)) ed_int)) (fun z H1 h1 => ?_) (fun z6 G6 g6 => ?_)
  · have hz : n = 6 := by have := of_decide_eq_true z; omega
    subst hz
    exact ⟨v, rfl, v, rfl, fun dd hd => kE _ dd (Evl.Ex.mut (Evl.Ex.trans e6 h1) (Evl.fresh_back (Evl.Ex.trans e6 h1) hd)) upd_same⟩
  have e7 := Evl.Ex.trans e6 g6
  have y6 := of_decide_eq_false z6
  refine seq_ifN (ρ := hrE K) (b := decide ((n : Int) = 7)) trivial (eb_test (ed_eqI (ed_var rfl (.int n)) ed_int)) (fun z H1 h1 => ?_) (fun z7 G7 g7 => ?_)
  · have hz : n = 7 := by have := of_decide_eq_true z; omega
    subst hz
    exact ⟨v, rfl, u, rfl, v, u, rfl, fun dd hd => kE _ dd (Evl.Ex.mut (Evl.Ex.trans e7 h1) (Evl.fresh_back (Evl.Ex.trans e7 h1) hd)) upd_same⟩
  have e8 := Evl.Ex.trans e7 g7
  have y7 := of_decide_eq_false z7
  have hz : n = 8 := by omega
  subst hz
  exact ⟨v, rfl, v, rfl, fun dd hd => kE _ dd (Evl.Ex.mut e8 (Evl.fresh_back e8 hd)) upd_same⟩
/-! _law_caught -/
def spCaught (K : PySem.W.Frag) : Sp := fun vs H Q _ => ∃ (n : Nat) (v u : V), n < 9 ∧ vs = [.int (n : Int), v, u] ∧ ∀ p xs H', H p = none → Evl.Ex H H' → H' p = some (.lst xs) → TdAll K H' xs (flags n) → Q (.ref p) H'
def tbC (K : PySem.W.Frag) (W : WX) : TS := tDrop (tCallS (spRaise K) (WE W) (tCons (tVar 0) (tCons (tVar 1) (tCons (tVar 2) tNil))))
def tsC (K : PySem.W.Frag) (a : Addr) (cls : Value) (d : Option Addr) : TS :=
  tRet (tIf (tB (tCB (rIsX K a cls d) (tCons (tVar 3) (tCons (tC (.ty "ValueError")) tNil)))) (tCall (spS K a cls d) [] E0 (tCons (tVar 3) tNil)) (tLst tNil))
theorem ok_law_caught (T : Tx K mg) : FnOk PP w K mg base CX0 2 (ga K "_law_caught") (fdx K "_law_caught") ["k", "one", "other"] (spCaught K) := by
  refine (F__law_caught T).ok sc__law_caught (fun vs H Q E h => by obtain ⟨_, _, _, _, rfl, _⟩ := h; rfl) (fun cdv A outer s H vs Q E hr h => ?_)
  obtain ⟨n, v, u, hn, rfl, k⟩ := h
  refine ⟨tSeq (fun D σ H => tbC K (wAs K (.ref (ga K "WeaveError")) 3 (tsC K) (fun _ _ _ _ => False) D) D σ H) (tRet (tLst tNil)),
    pss_cons (ps_try_as (i := 3) (tb := tbC K) (ts := tsC K) (Wout := fun _ _ _ _ => False) rfl rfl sc__law_caught.nd rfl rfl ⟨rfl, by decide, Or.inl (g_WeaveError T)⟩ takes0
      (fun W pn xe tk _ => pss_one (ps_expr (pe_callS (ok_law_raise T) hr rfl (g__law_raise T) (F__law_raise T).kp (bd__law_raise T) (fun σ => passAt tk σ) (pa_cons (pv 0) (pa_cons (pv 1) (pa_cons (pv 2) pa_nil))))))
      (fun a oe cls d pn hz hf => pss_one (ps_ret (pe_ifExp (pt_val (pe_callB (r := rIsX K a cls d) (call_isX hz hf) (by rfl) (n_isinstance T) Boot.«isinstance» (pa_cons (pv 3) (pa_cons (pe_bltn (v := .ty "ValueError") (by rfl) (n_ValueError T) Boot.«ValueError» rfl) pa_nil))))
        (pe_imp (pe_callP (p := (a, oe)) (sp := spSorts K) (E := E0) (ok_law_sorts T) List.mem_cons_self ⟨hr.dp, hr.un⟩ rfl (g__law_sorts T) (F__law_sorts T).kp (bd__law_sorts T) pass0 (pa_cons (pv 3) pa_nil)) (fun σ H Q q => by
          obtain ⟨x, hx, hq⟩ := q
          refine ⟨x, hx, cls, d, hz, hf, ?_⟩
          exact hq)) (pe_lst pa_nil)))))
    (pss_one (ps_ret (pe_lst pa_nil))), ?_⟩
  refine ⟨_, rfl, _, rfl, _, rfl, n, v, u, hn, rfl, fun H1 dd e1 hd => ⟨true, (T.says.one (cN_mem n)).2, fun _ a ha => ?_, fun q => Bool.noConfusion q⟩⟩
  have c := (T.says.exc (cN_mem n)).1
  refine ⟨.ref a, rfl, cA K n, dd, _, .ty "ValueError", .type "ValueError", true, rfl, rfl, c, hd, rfl, (fun u h => h), (T.says.one (cN_mem n)).1, true, rfl, ?_⟩
  refine iteT ⟨.ref a, rfl, n, dd, _, hn, rfl, rfl, rfl, hd, fun p xs H' hp e hx ht => ?_⟩
  exact k p xs H' (Evl.fresh_back e1 hp) (Evl.Ex.trans e1 e) hx ht
/-! _law_fields -/
def dFs (n : Nat) (d e : PyData) : List PyData := match n with
  | 7 => [d, e]
  | _ => [d]
def spFields (K : PySem.W.Frag) : Sp := fun vs H Q _ => ∃ (n : Nat) (v u : V) (d e : PyData), n < 9 ∧ vs = [.int (n : Int), v, u] ∧ Td K H v d ∧ Td K H u e ∧ ∀ v' H', Evl.Ex H H' → Td K H' v' (.tuple (dFs n d e)) → Q v' H'
abbrev ts1 (K : PySem.W.Frag) (j : Nat) (f : Str) (a : Addr) (cls : Value) (d : Option Addr) : TS := tRet (tTup (tCons (tXf a cls d (cA K j) f (tVar 3)) tNil))
abbrev ts2 (K : PySem.W.Frag) (j : Nat) (f g : Str) (a : Addr) (cls : Value) (d : Option Addr) : TS := tRet (tTup (tCons (tXf a cls d (cA K j) f (tVar 3)) (tCons (tXf a cls d (cA K j) g (tVar 3)) tNil)))
def clsL (K : PySem.W.Frag) : List Cl := [(.ref (cA K 0), ts1 K 0 "reason"), (.ref (cA K 1), ts1 K 1 "reason"), (.ref (cA K 2), ts1 K 2 "reason"), (.ref (cA K 3), ts1 K 3 "reason"), (.ref (cA K 4), ts1 K 4 "reason"), (.ref (cA K 5), ts1 K 5 "reason"), (.ref (cA K 6), ts1 K 6 "at"), (.ref (cA K 7), ts2 K 7 "number" "reason"), (.ref (cA K 8), ts1 K 8 "line")]
theorem ed_xf {a C dd : Addr} {fs : List (Str × V)} {σ : L2.St} {H : Hp} {i : Nat} {f : Str} {v : V} {d : PyData} (hs : σ[i]? = some (some (.ref a))) (hd : H dd = some (.xd fs)) (hl : fs.lookup f = some v) (t : Td K H v d) :
    EvD (hrE K) (tXf a (.ref C) (some dd) C f (tVar i)) σ H d := fun H1 e Q q =>
  ⟨.ref a, hs, rfl, rfl, dd, _, v, rfl, e _ _ hd, hl, q _ H1 (Evl.Ex.refl H1) (Td.mono (hrE K) e _ t)⟩
theorem xf_of (T : Tx K mg) (j : Nat) : XfC K (cA K j) := (T.says.exc (cN_mem j)).2
theorem ok_law_fields (T : Tx K mg) : FnOk PP w K mg base CX0 2 (ga K "_law_fields") (fdx K "_law_fields") ["k", "one", "other"] (spFields K) := by
  refine (F__law_fields T).ok sc__law_fields (fun vs H Q E h => by obtain ⟨_, _, _, _, _, _, rfl, _⟩ := h; rfl) (fun cdv A outer s H vs Q E hr h => ?_)
  obtain ⟨n, v, u, d, e, hn, rfl, td, te, k⟩ := h
  refine ⟨tSeq (fun D σ H => tbC K (wManyA K 3 (fun _ _ _ _ => False) D (clsL K)) D σ H) (tRet (tC .non)),
    pss_cons (ps_try_manyA (i := 3) (tb := tbC K) (l := clsL K) (Wout := fun _ _ _ _ => False) rfl rfl sc__law_fields.nd rfl rfl takes0
      (fun W pn xe tk _ => pss_one (ps_expr (pe_callS (ok_law_raise T) hr rfl (g__law_raise T) (F__law_raise T).kp (bd__law_raise T) (fun σ => passAt tk σ) (pa_cons (pv 0) (pa_cons (pv 1) (pa_cons (pv 2) pa_nil))))))
      (.cons ⟨rfl, by decide, Or.inl (g_ClothError T)⟩ (fun a oe cls d pn hz hf => pss_one (ps_ret (pe_tup (pa_cons (pe_xf (xf_of T 0) (rs_ClothError T).noN1 hz hf (pv 3)) pa_nil))))
      (.cons ⟨rfl, by decide, Or.inl (g_DraftError T)⟩ (fun a oe cls d pn hz hf => pss_one (ps_ret (pe_tup (pa_cons (pe_xf (xf_of T 1) (rs_DraftError T).noN1 hz hf (pv 3)) pa_nil))))
      (.cons ⟨rfl, by decide, Or.inl (g_ArgumentError T)⟩ (fun a oe cls d pn hz hf => pss_one (ps_ret (pe_tup (pa_cons (pe_xf (xf_of T 2) (rs_ArgumentError T).noN1 hz hf (pv 3)) pa_nil))))
      (.cons ⟨rfl, by decide, Or.inl (g_PaperError T)⟩ (fun a oe cls d pn hz hf => pss_one (ps_ret (pe_tup (pa_cons (pe_xf (xf_of T 3) (rs_PaperError T).noN1 hz hf (pv 3)) pa_nil))))
      (.cons ⟨rfl, by decide, Or.inl (g_LoomError T)⟩ (fun a oe cls d pn hz hf => pss_one (ps_ret (pe_tup (pa_cons (pe_xf (xf_of T 4) (rs_LoomError T).noN1 hz hf (pv 3)) pa_nil))))
      (.cons ⟨rfl, by decide, Or.inl (g_TooMany T)⟩ (fun a oe cls d pn hz hf => pss_one (ps_ret (pe_tup (pa_cons (pe_xf (xf_of T 5) (rs_TooMany T).noN1 hz hf (pv 3)) pa_nil))))
      (.cons ⟨rfl, by decide, Or.inl (g_TextError T)⟩ (fun a oe cls d pn hz hf => pss_one (ps_ret (pe_tup (pa_cons (pe_xf (xf_of T 6) (rs_TextError T).noN1 hz hf (pv 3)) pa_nil))))
      (.cons ⟨rfl, by decide, Or.inl (g_LogError T)⟩ (fun a oe cls d pn hz hf => pss_one (ps_ret (pe_tup (pa_cons (pe_xf (xf_of T 7) (rs_LogError T).noN1 hz hf (pv 3)) (pa_cons (pe_xf (xf_of T 7) (rs_LogError T).noN2 hz hf (pv 3)) pa_nil)))))
      (.cons ⟨rfl, by decide, Or.inl (g_CommandError T)⟩ (fun a oe cls d pn hz hf => pss_one (ps_ret (pe_tup (pa_cons (pe_xf (xf_of T 8) (rs_CommandError T).noN1 hz hf (pv 3)) pa_nil))))
      (.nil)))))))))))
    (pss_one (ps_ret pe_non)), ?_⟩
  refine ⟨_, rfl, _, rfl, _, rfl, n, v, u, hn, rfl, fun H1 dd e1 hd => ?_⟩
  have tv := Td.mono (hrE K) e1 _ td
  have tu := Td.mono (hrE K) e1 _ te
  have fin : ∀ {ts : TA} {D : Ends} {σ : L2.St} (ds : List PyData), D.rt = Q → ds.length ≤ 2 → EvDs (hrE K) ts σ H1 ds → ds = dFs n d e → tRet (tTup ts) D σ H1 := fun {ts D σ} ds eD hl h q => by
    subst q
    exact ret_d (ρ := hrE K) trivial (ed_tup h (Nat.le_trans hl (by decide))) fun v' H' e' t => by
      rw [eD]
      exact k v' H' (Evl.Ex.trans e1 e') t
  have no : ∀ {j : Nat} {P : Prop}, (decide (n = j)) = true → j < n → P := fun {j P} z h => by
    have := of_decide_eq_true z
    omega
  match n, hn with
  | 0, _ => exact ⟨_, exm_ij T (by decide) (by decide : 0 < 9), fun _ a ha => fin _ rfl (by simp) (es_cons (ed_xf rfl hd (by rfl) tv) es_nil) rfl, fun z => Bool.noConfusion z⟩
  | 1, _ => exact ⟨_, exm_ij T (by decide) (by decide : 0 < 9), fun z => Bool.noConfusion z, fun _ => ⟨_, exm_ij T (by decide) (by decide : 1 < 9), fun _ a ha => fin _ rfl (by simp) (es_cons (ed_xf rfl hd (by rfl) tv) es_nil) rfl, fun z => Bool.noConfusion z⟩⟩
  | 2, _ => exact ⟨_, exm_ij T (by decide) (by decide : 0 < 9), fun z => Bool.noConfusion z, fun _ => ⟨_, exm_ij T (by decide) (by decide : 1 < 9), fun z => Bool.noConfusion z, fun _ => ⟨_, exm_ij T (by decide) (by decide : 2 < 9), fun _ a ha => fin _ rfl (by simp) (es_cons (ed_xf rfl hd (by rfl) tv) es_nil) rfl, fun z => Bool.noConfusion z⟩⟩⟩
  | 3, _ => exact ⟨_, exm_ij T (by decide) (by decide : 0 < 9), fun z => Bool.noConfusion z, fun _ => ⟨_, exm_ij T (by decide) (by decide : 1 < 9), fun z => Bool.noConfusion z, fun _ => ⟨_, exm_ij T (by decide) (by decide : 2 < 9), fun z => Bool.noConfusion z, fun _ => ⟨_, exm_ij T (by decide) (by decide : 3 < 9), fun _ a ha => fin _ rfl (by simp) (es_cons (ed_xf rfl hd (by rfl) tv) es_nil) rfl, fun z => Bool.noConfusion z⟩⟩⟩⟩
  | 4, _ => exact ⟨_, exm_ij T (by decide) (by decide : 0 < 9), fun z => Bool.noConfusion z, fun _ => ⟨_, exm_ij T (by decide) (by decide : 1 < 9), fun z => Bool.noConfusion z, fun _ => ⟨_, exm_ij T (by decide) (by decide : 2 < 9), fun z => Bool.noConfusion z, fun _ => ⟨_, exm_ij T (by decide) (by decide : 3 < 9), fun z => Bool.noConfusion z, fun _ => ⟨_, exm_ij T (by decide) (by decide : 4 < 9), fun _ a ha => fin _ rfl (by simp) (es_cons (ed_xf rfl hd (by rfl) tv) es_nil) rfl, fun z => Bool.noConfusion z⟩⟩⟩⟩⟩
  | 5, _ => exact ⟨_, exm_ij T (by decide) (by decide : 0 < 9), fun z => Bool.noConfusion z, fun _ => ⟨_, exm_ij T (by decide) (by decide : 1 < 9), fun z => Bool.noConfusion z, fun _ => ⟨_, exm_ij T (by decide) (by decide : 2 < 9), fun z => Bool.noConfusion z, fun _ => ⟨_, exm_ij T (by decide) (by decide : 3 < 9), fun z => Bool.noConfusion z, fun _ => ⟨_, exm_ij T (by decide) (by decide : 4 < 9), fun z => Bool.noConfusion z, fun _ => ⟨_, exm_ij T (by decide) (by decide : 5 < 9), fun _ a ha => fin _ rfl (by simp) (es_cons (ed_xf rfl hd (by rfl) tv) es_nil) rfl, fun z => Bool.noConfusion z⟩⟩⟩⟩⟩⟩
  | 6, _ => exact ⟨_, exm_ij T (by decide) (by decide : 0 < 9), fun z => Bool.noConfusion z, fun _ => ⟨_, exm_ij T (by decide) (by decide : 1 < 9), fun z => Bool.noConfusion z, fun _ => ⟨_, exm_ij T (by decide) (by decide : 2 < 9), fun z => Bool.noConfusion z, fun _ => ⟨_, exm_ij T (by decide) (by decide : 3 < 9), fun z => Bool.noConfusion z, fun _ => ⟨_, exm_ij T (by decide) (by decide : 4 < 9), fun z => Bool.noConfusion z, fun _ => ⟨_, exm_ij T (by decide) (by decide : 5 < 9), fun z => Bool.noConfusion z, fun _ => ⟨_, exm_ij T (by decide) (by decide : 6 < 9), fun _ a ha => fin _ rfl (by simp) (es_cons (ed_xf rfl hd (by rfl) tv) es_nil) rfl, fun z => Bool.noConfusion z⟩⟩⟩⟩⟩⟩⟩
  | 7, _ => exact ⟨_, exm_ij T (by decide) (by decide : 0 < 9), fun z => Bool.noConfusion z, fun _ => ⟨_, exm_ij T (by decide) (by decide : 1 < 9), fun z => Bool.noConfusion z, fun _ => ⟨_, exm_ij T (by decide) (by decide : 2 < 9), fun z => Bool.noConfusion z, fun _ => ⟨_, exm_ij T (by decide) (by decide : 3 < 9), fun z => Bool.noConfusion z, fun _ => ⟨_, exm_ij T (by decide) (by decide : 4 < 9), fun z => Bool.noConfusion z, fun _ => ⟨_, exm_ij T (by decide) (by decide : 5 < 9), fun z => Bool.noConfusion z, fun _ => ⟨_, exm_ij T (by decide) (by decide : 6 < 9), fun z => Bool.noConfusion z, fun _ => ⟨_, exm_ij T (by decide) (by decide : 7 < 9), fun _ a ha => fin _ rfl (by simp) (es_cons (ed_xf rfl hd (by rfl) tv) (es_cons (ed_xf rfl hd (by rfl) tu) es_nil)) rfl, fun z => Bool.noConfusion z⟩⟩⟩⟩⟩⟩⟩⟩
  | 8, _ => exact ⟨_, exm_ij T (by decide) (by decide : 0 < 9), fun z => Bool.noConfusion z, fun _ => ⟨_, exm_ij T (by decide) (by decide : 1 < 9), fun z => Bool.noConfusion z, fun _ => ⟨_, exm_ij T (by decide) (by decide : 2 < 9), fun z => Bool.noConfusion z, fun _ => ⟨_, exm_ij T (by decide) (by decide : 3 < 9), fun z => Bool.noConfusion z, fun _ => ⟨_, exm_ij T (by decide) (by decide : 4 < 9), fun z => Bool.noConfusion z, fun _ => ⟨_, exm_ij T (by decide) (by decide : 5 < 9), fun z => Bool.noConfusion z, fun _ => ⟨_, exm_ij T (by decide) (by decide : 6 < 9), fun z => Bool.noConfusion z, fun _ => ⟨_, exm_ij T (by decide) (by decide : 7 < 9), fun z => Bool.noConfusion z, fun _ => ⟨_, exm_ij T (by decide) (by decide : 8 < 9), fun _ a ha => fin _ rfl (by simp) (es_cons (ed_xf rfl hd (by rfl) tv) es_nil) rfl, fun z => Bool.noConfusion z⟩⟩⟩⟩⟩⟩⟩⟩⟩
end
end K3

set_option Elab.async false
set_option linter.all false
set_option maxRecDepth 100000
set_option maxHeartbeats 8000000
namespace K3
open PySem PySem.Spec PyProof.Rows L2 He HX DX HG
section
variable {w : World} {K : PySem.W.Frag} {mg : Str → Option Value} {base : Heap} {ρ : HR K}
/-! readings over data -/
theorem ed_repV {te : TE} {σ : L2.St} {H : Hp} {b : Addr} {xs : List V} {ds : List PyData} (h : EvV ρ te σ H (.ref b)) (hx : H b = some (.lst xs)) (ok : ρ.ok b) (ht : TdAll K H xs ds) (hs : (PyData.list ds).showable = true) (hz : (PyData.list ds).shown.length ≤ sizeLine) (hd : (PyData.list ds).depth ≤ 100) :
    EvD ρ (tCB (rRepG K) (tCons te tNil)) σ H (.str (PyData.list ds).shown) := fun H1 a Q q => h H1 a _ fun H2 e2 => ⟨.ref b, _, rfl, .inr ⟨b, xs, ds, rfl, rfl, ρ.keep (ρ.trans a e2) ok hx, TdAll.mono ρ (ρ.trans a e2) _ ht⟩, hs, hz, hd, q _ H2 e2 (.str _)⟩
theorem ed_eqStr {ta tb : TE} {σ : L2.St} {H : Hp} {r : Str} (ha : EvD ρ ta σ H (.str r)) (hb : EvD ρ tb σ H (.str r)) : EvD ρ (tOp rEq ta tb) σ H (.bool true) := fun H1 a Q q => ha H1 a _ fun v H2 e2 t2 => hb H2 (ρ.trans a e2) _ fun v3 H3 e3 t3 => by
  cases t2
  cases t3
  refine ⟨rfl, ?_⟩
  simpa using q (.bl true) H3 (ρ.trans e2 e3) (.bl true)
theorem eb_neStr {ta tb : TE} {σ : L2.St} {H : Hp} {r : Str} (ha : EvD ρ ta σ H (.str r)) (hb : EvD ρ tb σ H (.str r)) : EvB ρ (tTest (tOp rNe ta tb)) σ H false := fun H1 a Q q => ha H1 a _ fun v H2 e2 t2 => hb H2 (ρ.trans a e2) _ fun v3 H3 e3 t3 => by
  cases t2
  cases t3
  exact ⟨rfl, false, by simp, q H3 (ρ.trans e2 e3)⟩
/-- two new lists of the same data are not unlike -/
theorem eb_neL {ta tb : TE} {σ : L2.St} {H : Hp} {ds : List PyData} (hs : SeqAt.shaped (.list ds) = true) (ha : EvL ρ ta σ H ds) (hb : EvL ρ tb σ H ds) : EvB ρ (tTest (tOp (rNeD K) ta tb)) σ H false := fun H1 a Q q => ha H1 a _ fun p xs H2 hp e2 hx tx => hb H2 (ρ.trans a e2) _ fun p3 xs3 H3 hp3 e3 hx3 tx3 =>
  ⟨.list ds, .list ds, .lst (Evl.sq_of (ρ.keep e3 (ρ.fresh (ρ.g2 a) hp) hx)) (TdAll.dp _ (TdAll.mono ρ e3 _ tx)), .lst (Evl.sq_of hx3) (TdAll.dp _ tx3), hs, hs, false, by rw [SeqAt.eqv_refl _ (SeqAt.canLay_of_shaped hs)]; rfl, q H3 (ρ.trans e2 e3)⟩
/-- [e for i in range(n)], each item told -/
theorem el_lcRD {tn te : TE} {σ : L2.St} {H : Hp} {j : Nat} {vs : List Nat} {n : Nat} (f : Nat → PyData) (h : EvD ρ tn σ H (.int (n : Int))) (hn : n ≤ 1000) (hw : ∀ x, wipe ((wipe σ vs).set j (some x)) vs = wipe σ vs)
    (he : ∀ i : Nat, i < n → ∀ H1, ρ.R H H1 → EvD ρ te ((wipe σ vs).set j (some (.int (i : Int)))) H1 (f i)) : EvL ρ (tLc (iRng1 (tCons tn tNil)) (gName j) tYes te vs) σ H ((List.range n).map f) := fun H1 a Q q => h H1 a _ fun v H2 e2 td => by
  cases td
  refine ⟨(n : Int), rfl, by omega, by omega, fun D hD => ?_⟩
  have okD := ρ.fresh (ρ.g2 e2) hD
  refine lc_range (lo := 0) (n := (n : Int).toNat) (fun i H' => ∃ acc, ρ.R H2 H' ∧ H' D = some (.lst acc) ∧ TdAll K H' acc ((List.range i).map f)) ⟨[], ρ.mu (ρ.refl (ρ.g2 e2)) hD, upd_same, .nil⟩ ?_ ?_
  · rintro i H' hi ⟨acc, r, hl, ta⟩
    have hi' : i < n := by omega
    rw [show (0 : Int) + (i : Int) = (i : Int) by omega]
    refine ⟨hw _, ?_⟩
    dsimp only [tYes]
    rw [if_pos rfl]
    refine he i hi' H' (ρ.trans a (ρ.trans e2 r)) H' (ρ.refl (ρ.g2 r)) _ fun y H4 e4 ty => ?_
    have h4 := ρ.keep e4 okD hl
    refine ⟨acc, h4, Evl.sz_lt (by rw [ta.len]; simp; omega), ?_⟩
    obtain ⟨m1, m2, m3⟩ := more_item (ρ.trans r e4) hD h4 (TdAll.mono ρ e4 _ ta) ty
    refine ⟨acc ++ [y], m1, m2, ?_⟩
    rw [List.range_succ, List.map_append]
    exact m3
  · rintro H' ⟨acc, r, hl, ta⟩
    exact q D acc H' (ρ.back e2 hD) (ρ.trans e2 r) hl ta
end
section
variable {w : World} {K : PySem.W.Frag} {mg : Str → Option Value} {base : Heap}
def spLim : Sp := fun vs H Q _ => vs = [] ∧ ∀ H', Evl.Ex H H' → Q (.bl true) H'
theorem ok_law_limits_right (T : Tx K mg) : FnG PP w K mg base CX0 1 (ga K "_law_limits_right") (fdx K "_law_limits_right") [] spLim := by
  obtain ⟨t_MAX_ENDS, m_MAX_ENDS⟩ := i_MAX_ENDS T
  obtain ⟨t_MAX_PICKS, m_MAX_PICKS⟩ := i_MAX_PICKS T
  obtain ⟨t_MAX_SHAFTS, m_MAX_SHAFTS⟩ := i_MAX_SHAFTS T
  obtain ⟨t_MAX_TREADLES, m_MAX_TREADLES⟩ := i_MAX_TREADLES T
  obtain ⟨t_MAX_NAME, m_MAX_NAME⟩ := i_MAX_NAME T
  obtain ⟨t_MAX_TEXT, m_MAX_TEXT⟩ := i_MAX_TEXT T
  obtain ⟨t_MAX_CHOICES, m_MAX_CHOICES⟩ := i_MAX_CHOICES T
  obtain ⟨t_MAX_TIES, m_MAX_TIES⟩ := i_MAX_TIES T
  obtain ⟨t_MAX_PIECE, m_MAX_PIECE⟩ := i_MAX_PIECE T
  obtain ⟨t_MAX_PAIRS, m_MAX_PAIRS⟩ := i_MAX_PAIRS T
  obtain ⟨t_MAX_PAPER, m_MAX_PAPER⟩ := i_MAX_PAPER T
  obtain ⟨t_MAX_JOBS, m_MAX_JOBS⟩ := i_MAX_JOBS T
  obtain ⟨t_MAX_DEEP, m_MAX_DEEP⟩ := i_MAX_DEEP T
  obtain ⟨t_MAX_UNITS, m_MAX_UNITS⟩ := i_MAX_UNITS T
  obtain ⟨t_MAX_STACK, m_MAX_STACK⟩ := i_MAX_STACK T
  obtain ⟨t_MAX_ROWS, m_MAX_ROWS⟩ := i_MAX_ROWS T
  obtain ⟨t_MAX_COUNTED, m_MAX_COUNTED⟩ := i_MAX_COUNTED T
  obtain ⟨t_MAX_FLOAT, m_MAX_FLOAT⟩ := i_MAX_FLOAT T
  obtain ⟨t_MAX_LOG, m_MAX_LOG⟩ := i_MAX_LOG T
  obtain ⟨t_MAX_WOVEN, m_MAX_WOVEN⟩ := i_MAX_WOVEN T
  obtain ⟨t_MAX_FAULTS, m_MAX_FAULTS⟩ := i_MAX_FAULTS T
  obtain ⟨t_MAX_GAP, m_MAX_GAP⟩ := i_MAX_GAP T
  obtain ⟨t_MAX_REPEATS, m_MAX_REPEATS⟩ := i_MAX_REPEATS T
  obtain ⟨t_MAX_COIN, m_MAX_COIN⟩ := i_MAX_COIN T
  obtain ⟨t_MAX_LENGTHS, m_MAX_LENGTHS⟩ := i_MAX_LENGTHS T
  obtain ⟨t_MAX_CONES, m_MAX_CONES⟩ := i_MAX_CONES T
  obtain ⟨t_MAX_NEAR, m_MAX_NEAR⟩ := i_MAX_NEAR T
  obtain ⟨t_MAX_CARDS, m_MAX_CARDS⟩ := i_MAX_CARDS T
  obtain ⟨t_MAX_STITCHES, m_MAX_STITCHES⟩ := i_MAX_STITCHES T
  obtain ⟨t_MAX_STITCHED, m_MAX_STITCHED⟩ := i_MAX_STITCHED T
  obtain ⟨t_MAX_HELD, m_MAX_HELD⟩ := i_MAX_HELD T
  obtain ⟨t_MAX_BOXES, m_MAX_BOXES⟩ := i_MAX_BOXES T
  obtain ⟨t_MAX_SHUTTLES, m_MAX_SHUTTLES⟩ := i_MAX_SHUTTLES T
  obtain ⟨t_MAX_WEFTS, m_MAX_WEFTS⟩ := i_MAX_WEFTS T
  obtain ⟨t_MAX_GREY, m_MAX_GREY⟩ := i_MAX_GREY T
  refine okG (F__law_limits_right T) sc__law_limits_right (fun vs H Q E h => by obtain ⟨rfl, _⟩ := h; rfl) (fun cdv A outer s H vs Q E hG hr h => ?_)
  obtain ⟨rfl, k⟩ := h
  have hG' : (A.deeper (envOfC "_law_limits_right" (defScope st__law_limits_right) s.heap.objs.size (ga K "_law_limits_right") cdv)).guards = some [] := hG
  have hu1 : (A.deeper (envOfC "_law_limits_right" (defScope st__law_limits_right) s.heap.objs.size (ga K "_law_limits_right") cdv)).units + 150 < cLine := by have := hr.un; omega
  refine ⟨_, PSs.nox (pss_cons (ps_set (i := 0) sc__law_limits_right.nd rfl (Or.inl rfl) (pe_lst (pa_cons (pe_glob (v := .int 24) rfl m_MAX_ENDS ⟨_, rfl⟩) (pa_cons (pe_glob (v := .int 24) rfl m_MAX_PICKS ⟨_, rfl⟩) (pa_cons (pe_glob (v := .int 16) rfl m_MAX_SHAFTS ⟨_, rfl⟩) (pa_cons (pe_glob (v := .int 16) rfl m_MAX_TREADLES ⟨_, rfl⟩) (pa_cons (pe_glob (v := .int 12) rfl m_MAX_NAME ⟨_, rfl⟩) (pa_cons (pe_glob (v := .int 8000) rfl m_MAX_TEXT ⟨_, rfl⟩) (pa_cons (pe_glob (v := .int 400) rfl m_MAX_CHOICES ⟨_, rfl⟩) (pa_cons (pe_glob (v := .int 200) rfl m_MAX_TIES ⟨_, rfl⟩) (pa_cons (pe_glob (v := .int 8) rfl m_MAX_PIECE ⟨_, rfl⟩) (pa_cons (pe_glob (v := .int 40) rfl m_MAX_PAIRS ⟨_, rfl⟩) (pa_cons (pe_glob (v := .int 80000) rfl m_MAX_PAPER ⟨_, rfl⟩) pa_nil)))))))))))))
    (pss_cons (ps_set (i := 0) sc__law_limits_right.nd rfl (Or.inl rfl) (pe_op op_cat (pv 0) (pe_lst (pa_cons (pe_glob (v := .int 9) rfl m_MAX_JOBS ⟨_, rfl⟩) (pa_cons (pe_glob (v := .int 8) rfl m_MAX_DEEP ⟨_, rfl⟩) (pa_cons (pe_glob (v := .int 8) rfl m_MAX_UNITS ⟨_, rfl⟩) (pa_cons (pe_glob (v := .int 4) rfl m_MAX_STACK ⟨_, rfl⟩) (pa_cons (pe_glob (v := .int 12) rfl m_MAX_ROWS ⟨_, rfl⟩) (pa_cons (pe_glob (v := .int 4) rfl m_MAX_COUNTED ⟨_, rfl⟩) (pa_cons (pe_glob (v := .int 3) rfl m_MAX_FLOAT ⟨_, rfl⟩) (pa_cons (pe_glob (v := .int 200) rfl m_MAX_LOG ⟨_, rfl⟩) (pa_cons (pe_glob (v := .int 200) rfl m_MAX_WOVEN ⟨_, rfl⟩) (pa_cons (pe_glob (v := .int 3) rfl m_MAX_FAULTS ⟨_, rfl⟩) pa_nil)))))))))))))
    (pss_cons (ps_set (i := 0) sc__law_limits_right.nd rfl (Or.inl rfl) (pe_op op_cat (pv 0) (pe_lst (pa_cons (pe_glob (v := .int 1000) rfl m_MAX_GAP ⟨_, rfl⟩) (pa_cons (pe_glob (v := .int 100) rfl m_MAX_REPEATS ⟨_, rfl⟩) (pa_cons (pe_glob (v := .int 1000000) rfl m_MAX_COIN ⟨_, rfl⟩) (pa_cons (pe_glob (v := .int 8) rfl m_MAX_LENGTHS ⟨_, rfl⟩) (pa_cons (pe_glob (v := .int 8) rfl m_MAX_CONES ⟨_, rfl⟩) (pa_cons (pe_glob (v := .int 7) rfl m_MAX_NEAR ⟨_, rfl⟩) (pa_cons (pe_glob (v := .int 16) rfl m_MAX_CARDS ⟨_, rfl⟩) (pa_cons (pe_glob (v := .int 3) rfl m_MAX_STITCHES ⟨_, rfl⟩) (pa_cons (pe_glob (v := .int 4) rfl m_MAX_STITCHED ⟨_, rfl⟩) (pa_cons (pe_glob (v := .int 6) rfl m_MAX_HELD ⟨_, rfl⟩) pa_nil)))))))))))))
    (pss_cons (ps_set (i := 0) sc__law_limits_right.nd rfl (Or.inl rfl) (pe_op op_cat (pv 0) (pe_lst (pa_cons (pe_glob (v := .int 3) rfl m_MAX_BOXES ⟨_, rfl⟩) (pa_cons (pe_glob (v := .int 3) rfl m_MAX_SHUTTLES ⟨_, rfl⟩) (pa_cons (pe_glob (v := .int 6) rfl m_MAX_WEFTS ⟨_, rfl⟩) (pa_cons (pe_glob (v := .int 255) rfl m_MAX_GREY ⟨_, rfl⟩) pa_nil)))))))
    (pss_cons (ps_set (i := 1) sc__law_limits_right.nd rfl (Or.inl rfl) (pe_lst (pa_cons pe_int (pa_cons pe_int (pa_cons pe_int (pa_cons pe_int (pa_cons pe_int (pa_cons pe_int (pa_cons pe_int (pa_cons pe_int (pa_cons pe_int (pa_cons pe_int (pa_cons pe_int (pa_cons pe_int (pa_cons pe_int (pa_cons pe_int (pa_cons pe_int (pa_cons pe_int (pa_cons pe_int (pa_cons pe_int (pa_cons pe_int (pa_cons pe_int (pa_cons pe_int pa_nil)))))))))))))))))))))))
    (pss_one (ps_ret (pe_cmpR op_eq (pe_callB (r := rRepG K) (call_reprG hG' hu1) (by rfl) (n_repr T) Boot.«repr» (pa_cons (pv 0) pa_nil)) (pe_callB (r := rRepG K) (call_reprG hG' hu1) (by rfl) (n_repr T) Boot.«repr» (pa_cons (pe_op op_cat (pv 1) (pe_lst (pa_cons pe_int (pa_cons pe_int (pa_cons pe_int (pa_cons pe_int (pa_cons pe_int (pa_cons pe_int (pa_cons pe_int (pa_cons pe_int (pa_cons pe_int (pa_cons pe_int (pa_cons pe_int (pa_cons pe_int (pa_cons pe_int (pa_cons pe_int pa_nil)))))))))))))))) pa_nil)) (nomark _))))))))), ?_⟩
  refine q_setL (ρ := hrE K) trivial (ds := [.int 24, .int 24, .int 16, .int 16, .int 12, .int 8000, .int 400, .int 200, .int 8, .int 40, .int 80000]) (el_lst (es_cons ed_int (es_cons ed_int (es_cons ed_int (es_cons ed_int (es_cons ed_int (es_cons ed_int (es_cons ed_int (es_cons ed_int (es_cons ed_int (es_cons ed_int (es_cons ed_int es_nil))))))))))) (by simp)) (fun p0 x0 H0 n0 e0 h0 t0 => ?_)
  refine q_setL (ρ := hrE K) trivial (ds := [.int 24, .int 24, .int 16, .int 16, .int 12, .int 8000, .int 400, .int 200, .int 8, .int 40, .int 80000, .int 9, .int 8, .int 8, .int 4, .int 12, .int 4, .int 3, .int 200, .int 200, .int 3]) (el_cat (ev_var rfl) h0 trivial t0 (el_lst (es_cons ed_int (es_cons ed_int (es_cons ed_int (es_cons ed_int (es_cons ed_int (es_cons ed_int (es_cons ed_int (es_cons ed_int (es_cons ed_int (es_cons ed_int es_nil)))))))))) (by simp)) (by simp)) (fun p1 x1 H1 n1 g1 h1 t1 => ?_)
  have e1 := Evl.Ex.trans e0 g1
  refine q_setL (ρ := hrE K) trivial (ds := [.int 24, .int 24, .int 16, .int 16, .int 12, .int 8000, .int 400, .int 200, .int 8, .int 40, .int 80000, .int 9, .int 8, .int 8, .int 4, .int 12, .int 4, .int 3, .int 200, .int 200, .int 3, .int 1000, .int 100, .int 1000000, .int 8, .int 8, .int 7, .int 16, .int 3, .int 4, .int 6]) (el_cat (ev_var rfl) h1 trivial t1 (el_lst (es_cons ed_int (es_cons ed_int (es_cons ed_int (es_cons ed_int (es_cons ed_int (es_cons ed_int (es_cons ed_int (es_cons ed_int (es_cons ed_int (es_cons ed_int es_nil)))))))))) (by simp)) (by simp)) (fun p2 x2 H2 n2 g2 h2 t2 => ?_)
  have e2 := Evl.Ex.trans e1 g2
  refine q_setL (ρ := hrE K) trivial (ds := [.int 24, .int 24, .int 16, .int 16, .int 12, .int 8000, .int 400, .int 200, .int 8, .int 40, .int 80000, .int 9, .int 8, .int 8, .int 4, .int 12, .int 4, .int 3, .int 200, .int 200, .int 3, .int 1000, .int 100, .int 1000000, .int 8, .int 8, .int 7, .int 16, .int 3, .int 4, .int 6, .int 3, .int 3, .int 6, .int 255]) (el_cat (ev_var rfl) h2 trivial t2 (el_lst (es_cons ed_int (es_cons ed_int (es_cons ed_int (es_cons ed_int es_nil)))) (by simp)) (by simp)) (fun p3 x3 H3 n3 g3 h3 t3 => ?_)
  have e3 := Evl.Ex.trans e2 g3
  refine q_setL (ρ := hrE K) trivial (ds := [.int 24, .int 24, .int 16, .int 16, .int 12, .int 8000, .int 400, .int 200, .int 8, .int 40, .int 80000, .int 9, .int 8, .int 8, .int 4, .int 12, .int 4, .int 3, .int 200, .int 200, .int 3]) (el_lst (es_cons ed_int (es_cons ed_int (es_cons ed_int (es_cons ed_int (es_cons ed_int (es_cons ed_int (es_cons ed_int (es_cons ed_int (es_cons ed_int (es_cons ed_int (es_cons ed_int (es_cons ed_int (es_cons ed_int (es_cons ed_int (es_cons ed_int (es_cons ed_int (es_cons ed_int (es_cons ed_int (es_cons ed_int (es_cons ed_int (es_cons ed_int es_nil))))))))))))))))))))) (by simp)) (fun p4 x4 H4 n4 g4 h4 t4 => ?_)
  have e4 := Evl.Ex.trans e3 g4
  refine ret_d (ρ := hrE K) trivial (ed_eqStr (r := (PyData.list [.int 24, .int 24, .int 16, .int 16, .int 12, .int 8000, .int 400, .int 200, .int 8, .int 40, .int 80000, .int 9, .int 8, .int 8, .int 4, .int 12, .int 4, .int 3, .int 200, .int 200, .int 3, .int 1000, .int 100, .int 1000000, .int 8, .int 8, .int 7, .int 16, .int 3, .int 4, .int 6, .int 3, .int 3, .int 6, .int 255]).shown) (ed_repV (ev_var rfl) (g4 _ _ h3) trivial (TdAll.mono (hrE K) g4 _ t3) (by decide +kernel) (by decide +kernel) (by decide +kernel))
    (ed_repL (EvL.is (el_cat (ev_var rfl) h4 trivial t4 (el_lst (es_cons ed_int (es_cons ed_int (es_cons ed_int (es_cons ed_int (es_cons ed_int (es_cons ed_int (es_cons ed_int (es_cons ed_int (es_cons ed_int (es_cons ed_int (es_cons ed_int (es_cons ed_int (es_cons ed_int (es_cons ed_int es_nil)))))))))))))) (by simp)) (by simp)) (by rfl)) (by decide +kernel) (by decide +kernel) (by decide +kernel))) (fun v H5 e5 t5 => ?_)
  cases t5
  exact k H5 (Evl.Ex.trans e4 e5)
/-! law -/
theorem ed_val {E : XK} {σ : L2.St} {H : Hp} {i : Nat} {a : Addr} {ns : List Int} {p : Int} {tp : TE} (h0 : σ[i]? = some (some (.ref a))) (hs : ∀ H1, Evl.Ex H H1 → SqL K H1 a (ns.map V.int)) (h : EvD (hrE K) tp σ H (.int p)) (p0 : 0 ≤ p) (p1 : p ≤ 100) :
    EvP (hrE K) (tCall (spVal K) [] E (tCons (tVar i) (tCons tp tNil))) σ H (fun d => d ∈ nine) := fun H1 e Q q =>
  ⟨.ref a, h0, h H1 e _ fun v H2 e2 t => by
    cases t
    exact ⟨a, ns, p, rfl, hs H2 (Evl.Ex.trans e e2), p0, p1, fun v d H3 e3 t3 hd => q v d H3 (Evl.Ex.trans e2 e3) t3 hd⟩⟩
theorem el_caught {E : XK} {σ : L2.St} {H : Hp} {n : Nat} {v u : V} (hn : n < 9) (h1 : σ[1]? = some (some (.int (n : Int)))) (h2 : σ[2]? = some (some v)) (h3 : σ[3]? = some (some u)) : EvL (hrE K) (tCall (spCaught K) [] E (tCons (tVar 1) (tCons (tVar 2) (tCons (tVar 3) tNil)))) σ H (flags n) := fun H1 e Q q =>
  ⟨_, h1, _, h2, _, h3, n, v, u, hn, rfl, fun p xs H' hp e' hx ht => q p xs H' hp e' hx ht⟩
theorem ed_fields {E : XK} {σ : L2.St} {H : Hp} {n : Nat} {v u : V} {d e : PyData} (hn : n < 9) (h1 : σ[1]? = some (some (.int (n : Int)))) (h2 : σ[2]? = some (some v)) (h3 : σ[3]? = some (some u)) (td : Td K H v d) (te : Td K H u e) :
    EvD (hrE K) (tCall (spFields K) [] E (tCons (tVar 1) (tCons (tVar 2) (tCons (tVar 3) tNil)))) σ H (.tuple (dFs n d e)) := fun H1 f Q q =>
  ⟨_, h1, _, h2, _, h3, n, v, u, d, e, hn, rfl, Td.mono (hrE K) f _ td, Td.mono (hrE K) f _ te, fun v' H' e' t => q v' H' e' t⟩
theorem flags_shaped : ∀ n < 9, SeqAt.shaped (.list (flags n)) = true := by decide +kernel
theorem show_ok : ∀ d ∈ nine, ∀ e ∈ nine, ∀ n, (PyData.tuple (dFs n d e)).showable = true ∧ (PyData.tuple (dFs n d e)).shown.length ≤ 100 ∧ (PyData.tuple (dFs n d e)).depth ≤ 100 := by
  have a : nine.all (fun d => decide ((PyData.tuple [d]).showable = true) && (decide ((PyData.tuple [d]).shown.length ≤ 100) && decide ((PyData.tuple [d]).depth ≤ 100))) = true := by decide +kernel
  have b : nine.all (fun d => nine.all fun e => decide ((PyData.tuple [d, e]).showable = true) && (decide ((PyData.tuple [d, e]).shown.length ≤ 100) && decide ((PyData.tuple [d, e]).depth ≤ 100))) = true := by decide +kernel
  intro d hd e he n
  have a' := List.all_eq_true.mp a d hd
  have b' := List.all_eq_true.mp (List.all_eq_true.mp b d hd) e he
  obtain ⟨a1, a2⟩ := ba a'
  obtain ⟨a2, a3⟩ := ba a2
  obtain ⟨b1, b2⟩ := ba b'
  obtain ⟨b2, b3⟩ := ba b2
  have one : dFs n d e = [d] ∨ dFs n d e = [d, e] := by
    unfold dFs
    split
    · exact .inr rfl
    · exact .inl rfl
  rcases one with z | z <;> rw [z]
  · exact ⟨of_decide_eq_true a1, of_decide_eq_true a2, of_decide_eq_true a3⟩
  · exact ⟨of_decide_eq_true b1, of_decide_eq_true b2, of_decide_eq_true b3⟩
def spLaw (K : PySem.W.Frag) : Sp := fun vs H Q _ => ∃ (a : Addr) (ns : List Int), vs = [.ref a] ∧ SqL K H a (ns.map V.int) ∧ ∀ H', Q (.bl true) H'
theorem ok_law (T : Tx K mg) : FnG PP w K mg base CX0 3 (ga K "law") (fdx K "law") ["script"] (spLaw K) := by
  have GV : FnOk PP w K mg base CX0 1 _ _ _ _ := ok_law_value T
  have GC : FnOk PP w K mg base CX0 2 _ _ _ _ := ok_law_caught T
  have GF : FnOk PP w K mg base CX0 2 _ _ _ _ := ok_law_fields T
  refine okG (F_law T) sc_law (fun vs H Q E h => by obtain ⟨_, _, rfl, _⟩ := h; rfl) (fun cdv A outer s H vs Q E hG hr h => ?_)
  obtain ⟨a, ns, rfl, hs, k⟩ := h
  have hr1 : Room 1 _ := hr.mono (by decide)
  have hG' : (A.deeper (envOfC "law" (defScope st_law) s.heap.objs.size (ga K "law") cdv)).guards = some [] := hG
  have hu1 : (A.deeper (envOfC "law" (defScope st_law) s.heap.objs.size (ga K "law") cdv)).units + 150 < cLine := by have := hr.un; omega
  have hu6 : (A.deeper (envOfC "law" (defScope st_law) s.heap.objs.size (ga K "law") cdv)).units + 64 < cLine := by omega
  refine ⟨_, PSs.nox (pss_cons (ps_if (pt_not (pt_val (pe_callG0 (ok_law_limits_right T) hG' hr1 rfl (g__law_limits_right T) (F__law_limits_right T).kp (bd__law_limits_right T) pass0))) (pss_one (ps_ret pe_bl)) pss_nil)
    (pss_cons (ps_for PassesOwn.never rfl (pi_range1 (by rfl) (n_range T) (pa_cons pe_int pa_nil)) (pg_name (i := 1) sc_law.nd rfl (Or.inr rfl))
      (pss_cons (ps_set (i := 2) sc_law.nd rfl (Or.inl rfl) (pe_call GV hr1 rfl (g__law_value T) (F__law_value T).kp (bd__law_value T) .nil pass0 (pa_cons (pv 0) (pa_cons (pv 1) pa_nil))))
      (pss_cons (ps_set (i := 3) sc_law.nd rfl (Or.inl rfl) (pe_call GV hr1 rfl (g__law_value T) (F__law_value T).kp (bd__law_value T) .nil pass0 (pa_cons (pv 0) (pa_cons (pe_op op_add (pv 1) pe_int) pa_nil))))
      (pss_cons (ps_if (pt_cmpR (op_neD hu6) (pe_call GC hr rfl (g__law_caught T) (F__law_caught T).kp (bd__law_caught T) .nil pass0 (pa_cons (pv 1) (pa_cons (pv 2) (pa_cons (pv 3) pa_nil))))
          (pe_lc (own := [("j", 4)]) (g := gName 4) (tt := tYes) rfl sc_law.nd (pi_range1 (by rfl) (n_range T) (pa_cons pe_int pa_nil)) (blkOk_by (N := ["script", "k", "one", "other", "j", "due"]) (sc := defScope st_law) (by decide +kernel))
            (fun _ _ _ _ _ => pg_name (i := 4) sc_law.nd rfl (Or.inl rfl)) (fun _ _ _ _ _ => pts_nil)
            (fun _ _ _ _ _ => pe_cmpR op_eq (pv 4) (pv 1) (nomark _))) (nomark _)) (pss_one (ps_ret pe_bl)) pss_nil)
      (pss_cons (ps_set (i := 5) sc_law.nd rfl (Or.inl rfl) (pe_ifExp (pt_cmpR op_eq (pv 1) pe_int (nomark _)) (pe_tup (pa_cons (pv 2) (pa_cons (pv 3) pa_nil))) (pe_tup (pa_cons (pv 2) pa_nil))))
      (pss_one (ps_if (pt_cmpR op_ne (pe_callB (r := rRepG K) (call_reprG hG' hu1) (by rfl) (n_repr T) Boot.«repr» (pa_cons (pe_call GF hr rfl (g__law_fields T) (F__law_fields T).kp (bd__law_fields T) .nil pass0 (pa_cons (pv 1) (pa_cons (pv 2) (pa_cons (pv 3) pa_nil)))) pa_nil))
        (pe_callB (r := rRepG K) (call_reprG hG' hu1) (by rfl) (n_repr T) Boot.«repr» (pa_cons (pv 5) pa_nil)) (nomark _)) (pss_one (ps_ret pe_bl)) pss_nil)))))))
    (pss_one (ps_ret pe_bl)))), ?_⟩
  have lim : EvD (hrE K) (tCall spLim [] E0 tNil) (start ["script", "k", "one", "other", "j", "due"] [.ref a]) H (.bool true) := fun H1 e Q q => ⟨rfl, fun H' e' => q (.bl true) H' e' (.bl true)⟩
  refine seq_ifN (ρ := hrE K) (b := !true) trivial (eb_not (eb_val lim)) (fun z => by cases z) (fun _ H1 e1 => ?_)
  refine ⟨9, rfl, by decide, by decide, for_range (n := 9) (fun j σ H' => Evl.Ex H H' ∧ ∃ (o1 o2 o3 o4 o5 : Option V), σ = [some (.ref a), o1, o2, o3, o4, o5]) ⟨e1, _, _, _, _, _, rfl⟩ ?_ ?_⟩
  · rintro j σ H2 hj ⟨e2, o1, o2, o3, o4, o5, rfl⟩
    rw [show (0 : Int) + (j : Int) = (j : Int) by omega]
    refine q_setP (ρ := hrE K) trivial (ed_val rfl (fun H3 e3 => Evl.ex_l (Evl.Ex.trans e2 e3) hs) (ed_var rfl (.int (j : Int))) (by omega) (by omega)) (fun v d H3 e3 td hd => ?_)
    refine q_setP (ρ := hrE K) trivial (ed_val rfl (fun H4 e4 => Evl.ex_l (Evl.Ex.trans e2 (Evl.Ex.trans e3 e4)) hs) (ed_ari (ed_var rfl (.int (j : Int))) ed_int) (by omega) (by omega)) (fun u e H4 e4 te he => ?_)
    refine seq_ifN (ρ := hrE K) (b := false) trivial (eb_neL (flags_shaped j hj) (el_caught hj rfl rfl rfl) (EvL.is (el_lcRD (n := 9) (fun i => .bool (decide ((i : Int) = (j : Int)))) ed_int (by decide) (fun _ => rfl) (fun i hi H5 e5 => ed_eqI (ed_var rfl (.int (i : Int))) (ed_var rfl (.int (j : Int))))) (by
      unfold flags
      rw [List.map_map]
      refine List.map_congr_left fun i hi => ?_
      show PyData.bool _ = PyData.bool _
      congr 1
      exact decide_eq_decide.mpr Int.ofNat_inj))) (fun z => by cases z) (fun _ H5 e5 => ?_)
    have td5 := Td.mono (hrE K) (Evl.Ex.trans e4 e5) _ td
    have te5 := Td.mono (hrE K) e5 _ te
    have due : EvD (hrE K) (tIf (tTest (tOp rEq (tVar 1) (tC (.int 7)))) (tTup (tCons (tVar 2) (tCons (tVar 3) tNil))) (tTup (tCons (tVar 2) tNil))) [some (.ref a), some (.int (j : Int)), some v, some u, o4, o5] H5 (.tuple (dFs j d e)) := by
      refine ed_ifx (b := decide ((j : Int) = 7)) (eb_test (ed_eqI (ed_var rfl (.int (j : Int))) ed_int)) (fun z => ?_) (fun z => ?_)
      · have q : j = 7 := by have := of_decide_eq_true z; omega
        subst q
        exact ed_tup (es_cons (ed_var rfl td5) (es_cons (ed_var rfl te5) es_nil)) (show 2 ≤ 100000 by decide)
      · have q : j ≠ 7 := fun q => by have := of_decide_eq_false z; omega
        have w : dFs j d e = [d] := by
          unfold dFs
          split
          · exact absurd rfl q
          · rfl
        rw [w]
        exact ed_tup (es_cons (ed_var rfl td5) es_nil) (by simp)
    refine q_set (ρ := hrE K) trivial due (fun t H6 e6 tt => ?_)
    obtain ⟨s1, s2, s3⟩ := show_ok d hd e he j
    have s2' := Nat.le_trans s2 (by decide : 100 ≤ sizeLine)
    refine if_dN (ρ := hrE K) (b := false) trivial (eb_neStr (ed_repT (ed_fields hj rfl rfl rfl (Td.mono (hrE K) e6 _ td5) (Td.mono (hrE K) e6 _ te5)) s1 s2' s3) (ed_repT (ed_var rfl tt) s1 s2' s3)) (fun z => by cases z) (fun _ H7 e7 => ?_)
    exact ⟨Evl.Ex.trans e2 (Evl.Ex.trans e3 (Evl.Ex.trans e4 (Evl.Ex.trans e5 (Evl.Ex.trans e6 e7)))), _, _, _, _, _, rfl⟩
  · rintro σ H2 ⟨e2, o1, o2, o3, o4, o5, rfl⟩
    exact k H2
end
end K3

set_option Elab.async false
set_option linter.all false
set_option maxRecDepth 100000
set_option maxHeartbeats 8000000
namespace K3
open PySem PySem.Spec PyProof.Rows L2 He HX DX PySem.W HandSHeadRun PySem.Calls HG
theorem the_law : PySem.Challenge.rw_hangstogether_k03_errors_and_limits.Holds := by
  w_on; o_law
  refine head_any (r := OpenLaw.row PySem.Challenge.rw_hangstogether_k03_errors_and_limits) (q := K3.qv) (H := K3.hk.hook) (ob := fun s => K3.hk.obsG (getT s)) (M := 4000) (loose := K3.names) (d := topDef (OpenLaw.row PySem.Challenge.rw_hangstogether_k03_errors_and_limits).prog 54) (kwd := []) (fun s => K3.hk.obsG_eq (getT_eq s))
    (by kernel_rfl) (fun s => by kernel_rfl) K3.run (by kernel_rfl) (by kernel_rfl) (by kernel_rfl) (by rfl) (by first | assumption | decide +kernel) (by decide +kernel) ⟨rfl, rfl, rfl, rfl, rfl, by decide +kernel⟩ ?hw ?hc
  case hw => w_witness2
  case hc =>
    refine HG.walk_ofG (l := PySem.Challenge.rw_hangstogether_k03_errors_and_limits) (n := 63) (k := 3) (x := "script") (CX := L2.CX0) rfl (by decide) (by kernel_rfl) ⟨rfl, by decide, by decide⟩ ?F (fun _ _ _ _ z => z)
    intro w mg fa h Y G hmg0
    obtain ⟨K, KX, c⟩ := Y
    have hmg : mg ("law" : PySem.Str) = some (.ref fa) := by
      have e : (topDef (OpenLaw.row PySem.Challenge.rw_hangstogether_k03_errors_and_limits).prog 54).name = ("law" : PySem.Str) := by kernel_rfl
      rw [← e]
      exact hmg0
    have T : Tx K mg := ⟨c, h, KX, G⟩
    have ef : fa = ga K "law" := Value.ref.inj (Option.some.inj (hmg.symm.trans (g_law T)))
    subst ef
    exact ⟨K, fdx K "law", spLaw K, KX, fun s u => (F_law T).bindsA (ps := ["script"]) (fun _ _ _ _ _ _ us hl => match us, hl with | [_], _ => rfl) s [u] rfl, fun H a ns hl ho hS => ⟨a, ns, rfl, hS, fun _ => rfl⟩, fun base hb hn => ok_law T⟩
end K3
theorem PySem.Challenge.cw_hangstogether_k03_errors_and_limits_holds : PySem.Challenge.rw_hangstogether_k03_errors_and_limits.Holds :=
  K3.the_law

