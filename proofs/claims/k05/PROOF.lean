import PyProof.Rows.All
import Wide.All
import OpenK.AllK
import Wide.FinOn
import KE.KExcSuper
import KE.KExcIs
import HandS.ForMost
import HandS.Exc
import HandS.TryOnly
import HandS.ExcInit
import HandS.ExcField
import HandS.ExcIs
import HandS.WordsExc
import KE.KStateDown
import HandS.Defaults
import HandS.Ends
import HandS.Head0
import HandS.Head1
import HandS.Head2
import HandS.HeadEnd
import HandS.HeadHook1
import HandS.HeadHook2
import HandS.Conv
import HandS.IsInst
import HandS.TupAny
import HandS.TupMul
import HandS.Zip
import HandS.Evl
import HandS.ExcOwn
import HandS.DictComp
import PySem.Challenge.RW_hangstogether_k05_wrong_cloths_ahead_of
set_option Elab.async false
set_option linter.all false
set_option maxRecDepth 100000
set_option maxHeartbeats 2000000
/-! own error classes over ValueError whose inherited __init__ says super().__init__(reason); self.reason = reason -/
namespace HX
open PySem PySem.W PySem.Calls PyProof.Rows PySem.HandSPX
/-! the text of ReasonError.__init__ -/
def rA (p1 p2 : Pos) : Arguments := { posonlyargs := [], args := [{ arg := "self", annotation := none, pos := p1 }, { arg := "reason", annotation := none, pos := p2 }], vararg := none, kwonlyargs := [], kw_defaults := [], kwarg := none, defaults := [] }
def rB (q1 q2 q3 q4 q5 q6 q7 q8 q9 q10 : Pos) : List Stmt :=
  [.Expr (.Call (.Attribute (.Call (.Name "super" q1) [] [] q2) "__init__" q3) [.Name "reason" q4] [] q5) q6,
   .Assign [.Attribute (.Name "self" q7) "reason" q8] (.Name "reason" q9) q10]
def rS : Scope := { kind := .function, names := [(PySem.Str.ofString "self", .local), (PySem.Str.ofString "reason", .local), (PySem.Str.ofString "__class__", .free), (PySem.Str.ofString "super", .globalImplicit)], isGenerator := false, isCoroutine := false, more := [] }
/-- what the written part says of an error class at C that has its __init__ from the class at D (fI, its class cell at cc) -/
structure RsTxt (P : Program) (K : Frag) (mg : Str → Option Value) (C D fI cc : Addr) : Prop where
  cls : ∃ nm q N bs bm sn sub ab col dd k0 k1 k2 k3 k5, K.lookup C = some (excClassObj nm q C N bs bm true sn sub ab col dd k0 k1 k2 k3 k5 "ValueError.__new__") ∧ refsVE bm = true
  sa : findIn K (.ref C) "__setattr__" = some (some (.builtin "object.__setattr__"))
  noN : findIn K (.ref C) "reason" = some none
  iC : findIn K (.ref C) "__init__" = some (some (.ref fI))
  tI : typeIn K (.ref fI) = some (.type "function")
  kC : keepIn K (.ref C) = true
  exC : subIn K (.ref C) (.type "BaseException") = some true
  veC : subIn K (.ref C) (.type "ValueError") = some true
  tyC : typeIn K (.ref C) = some (.type "type")
  hD : (clsIn K D).isSome = true
  sub : mroIn K C (.ref D) = some true
  up : ks_superIn K C D "__init__" = some (some (.builtin "ValueError.__init__"))
  sup : mg "super" = none
  third : nsIn K cStatics "thirdparty.any" = some none
  top : (P.main.scope.names.lookup ("super" : Str)).isSome = false
  cell : ∃ cl cld csl, K.lookup cc = some ⟨cl, cld, .cell (some (.ref D)), csl⟩
  fn : ∃ (oc : Value) (od : Option Addr) (doc pm : Value) (an : Option Addr) (cda : Addr) (ct : Value) (osl : Array (Option Value)) (p1 p2 q1 q2 q3 q4 q5 q6 q7 q8 q9 q10 : Pos) (ccl : Value) (cdd : Option Addr) (vs : Array Value) (ccs : Array (Option Value)) (file : Str) (tf : Tok),
    K.lookup fI = some ⟨oc, od, .func (ksFn "__init__" "ReasonError.__init__" (rA p1 p2) (rB q1 q2 q3 q4 q5 q6 q7 q8 q9 q10) rS .none .none doc pm an (.ref cda) ct cc), osl⟩ ∧ codeIn K (.ref cda) "ReasonError.__init__" = true ∧
    K.lookup cda = some ⟨ccl, cdd, .fields vs, ccs⟩ ∧ vs[2]? = some (.str file tf) ∧ ((P.main.file : Str) == file) = true ∧ (q3.endLine == q5.line) = true
/-- what __init__ leaves of a fresh error at x -/
structure InitEnd (h h' : Heap) (x C dx t1 : Addr) (v : Value) : Prop where
  keep : ∀ b o, b ≠ x → h.get? b = some o → h'.get? b = some o
  obj : h'.get? x = some { cls := .ref C, dict := some dx, data := .fields #[.ref t1, .none, .none, .none, .bool false, .none] }
  dbig : h.objs.size ≤ dx
  dne : dx ≠ x
  ns : h'.Ns1 dx (fun y => if y = "reason" then some v else none)
theorem one_ok (v : Value) : [v].length ≤ sizeLine := by
  rw [sizeLine_eq]
  exact (by decide : 1 ≤ 16777216)
def plnOf (o : Expr) (env : Env) : Sem Bool := do return (← importBound o env).getD true
theorem mc_one {o a : Expr} {m : Str} {apos pos : Pos} {env : Env} (hl : (apos.endLine == pos.line) = true) (ha : starEach [a] env = [(false, eval a env)]) :
    eval (.Call (.Attribute o m apos) [a] [] pos) env = (do
      let ov ← attributeBase o m env (eval o env)
      standAt apos.atName
      let (f, first) ← holding [ov] (getMethod ov m (plnOf o env))
      callWith pos f first (backTo pos (starEach [a] env)) []) := by
  have e : ∀ ov, methodCall o m apos pos env ov ([a].length + ([] : List Keyword).length) (backTo pos (starEach [a] env)) (backToKw pos (keywordEach [] env)) = (do
      let (f, first) ← holding [ov] (getMethod ov m (plnOf o env))
      callWith pos f first (backTo pos (starEach [a] env)) []) := fun ov => by
    have e1 : methodCallForm ([a].length + ([] : List Keyword).length) (backTo pos (starEach [a] env)) (backToKw pos (keywordEach [] env)) = true := by rw [ha]; rfl
    unfold methodCall
    rw [e1]
    have e2 : methodCallPos true o env apos pos = pure pos := by
      unfold methodCallPos
      rw [hl]
      rfl
    have e3 : calleeOf true o env ov m = getMethod ov m (plnOf o env) := rfl
    rw [e2, e3]
    rfl
  show (do
    let ov ← attributeBase o m env (eval o env)
    standAt apos.atName
    methodCall o m apos pos env ov ([a].length + ([] : List Keyword).length) (backTo pos (starEach [a] env)) (backToKw pos (keywordEach [] env))) = _
  simp only [e]
section
variable {prog : Program} {w : World} {A : Around} {E : Value → Shared → Prop} {R : Result → Shared → Prop} {s : Shared} {K : Frag} {mg : Str → Option Value} {C D fI cc : Addr}
/-- the built-in __init__ bound to a fresh error, called: the args are laid anew -/
theorem bound_init {h : Heap} {g : Array GenState} {d : Drawn} {t : Nat} {os : OsState} {u e t0 : Addr} {rest : List Value} {Q : Value → Shared → Prop}
    {nm q : Str} {N : Addr} {bs bm : List Value} {sn : List Str} {sub : List Value} {ab : Bool} {col : Option Bool} {dd : Option Addr} {k0 k1 k2 k3 k5 : Option Value}
    (hC : h.get? C = some (excClassObj nm q C N bs bm true sn sub ab col dd k0 k1 k2 k3 k5 "ValueError.__new__")) (he : h.get? e = some (excO C t0)) (hu : h.get? u = some (kxs_mw "ValueError.__init__" e)) (hr : rest.length ≤ sizeLine)
    (hq : ∀ h' t1, (∀ b o, b ≠ e → h.get? b = some o → h'.get? b = some o) → h'.get? e = some (excO C t1) → h.objs.size ≤ h'.objs.size → Q .none ⟨h', g, d, t, os⟩) :
    wpAny (model prog w) A (call (.ref u) rest) Q E ⟨h, g, d, t, os⟩ := by
  have FB := F.excBase_ValueError
  refine wpAny_call (codeAny_of_tree ?_)
  show wpAny _ A.in1 (callAny (.ref u) ⟨rest, []⟩) _ _ _
  simp only [callAny]
  refine wpAny_bind (wpAny_load hu ?_)
  simp only [kxs_mw, show (Value.type "method-wrapper" == Value.type "method" || Value.type "method-wrapper" == Value.type "builtin_function_or_method" || Value.type "method-wrapper" == Value.type "method-wrapper") = true by decide, if_true]
  refine KFB.if_so (by decide) ?_
  refine wpAny_bind (check_bound_init FB.toExcCallFacts hC he rfl ?_)
  refine wpAny_bind (wpAny_pure (wpAny_pure ?_))
  refine ⟨plainId_quiet FB.init.plain _, codeAny_builtin FB.initEntry ?_⟩
  refine exc_init_tree (cls := .ref C) (t0 := t0) (dv := none) (c2 := .none) (c3 := .none) (b4 := .bool false) he hr fun h' k e' t' => ?_
  exact hq h' _ k e' (Nat.le_of_lt (Heap.lt_size t'))
theorem reason_init (T : RsTxt prog K mg C D fI cc) {x t0 : Addr} {v : Value} (X : K.In s.heap) (G : s.heap.Ns mainGlobals mg) (B : ∃ mb, s.heap.Ns builtinsNs mb ∧ ∀ y : Str, y ≠ "__name__" → mb y = bootBuiltins y)
    (hlim : s.heap.NoLimit) (hx : s.heap.get? x = some (excO C t0)) (hnx : K.lookup x = none) (hroom : A.depth < recursionLimit)
    (hq : ∀ h' tk dx t1, InitEnd s.heap h' x C dx t1 v → R (.ok (.ret .none)) { s with heap := h', toks := tk }) :
    codeAny (model prog w) A (.call (.ref fI) ⟨[.ref x, v], []⟩) R s := by
  obtain ⟨oc, od, doc, pm, an, cda, ct, osl, p1, p2, q1, q2, q3, q4, q5, q6, q7, q8, q9, q10, ccl, cdd, vs, ccs, file, tf, ho, hcd, hcode, hvs, hfile, hline⟩ := T.fn
  obtain ⟨nm, q, N, bs, bm, sn, sub, ab, col, dd, k0, k1, k2, k3, k5, hC, hbm⟩ := T.cls
  obtain ⟨cl, cld, csl, hcell⟩ := T.cell
  obtain ⟨mb, hB, hmb⟩ := B
  have hcl : clsIn K C = some { name := nm, bases := bs, mro := .ref C :: bm, ns := N, qualname := q, hasDict := true, slotNames := sn, subclasses := sub, abstract := ab, collection := col, hasDel := false } := by unfold clsIn; rw [hC] <;> rfl
  have hxC : x ≠ C := fun z => by rw [z, hC] at hnx; cases hnx
  refine ks_codeAny_call_defAt (fd := ksFn "__init__" "ReasonError.__init__" (rA p1 p2) (rB q1 q2 q3 q4 q5 q6 q7 q8 q9 q10) rS .none .none doc pm an (.ref cda) ct cc) (binds := [("self", .ref x), ("reason", v)]) hroom (X _ _ ho) rfl hlim (codeRec_of X hcd) rfl
    (BindsTo.of_eq (by first | rfl | with_unfolding_all rfl)) (fun y hy => (show ∀ y ∈ rS.names, y.2 ≠ .cell by decide) y hy) (by
      intro y hy
      rcases List.mem_cons.mp hy with rfl | hy
      · rfl
      · rcases List.mem_cons.mp hy with rfl | hy
        · rfl
        · cases hy) (fun h₀ hns kp => ?_)
  have X₀ : K.In h₀ := X.keeps kp
  have hx₀ := kp _ _ hx
  refine ks_wpAt_execs_cons (ks_wpAt_Expr_any (ks_wpAt_MethodCall ?_ (mc_one hline rfl)))
  refine ks_wpAt_super_base (ar := { arg := "self", annotation := none, pos := p1 }) (by rfl) (by rfl) (by decide) rfl (X₀ _ _ ho) rfl rfl rfl (X₀ _ _ hcode) rfl hvs hfile T.top ?_
  refine ks_loadName_global (by rfl) (by rfl) (loadGlobal_builtin (G.keeps kp) T.sup (hB.keeps kp) ((hmb _ (by decide)).trans (by first | boot_by_name | rfl | kernel_rfl)) ⟨rfl, ?_⟩)
  refine wpAny_loadName_free (by rfl) (by rfl) rfl ⟨_, X₀ _ _ hcell, rfl⟩ ?_
  refine wpAny_loadName_local (by rfl) (by rfl) hns (by first | rfl | decide) ?_
  obtain ⟨cdD, hcD⟩ := Option.isSome_iff_exists.mp T.hD
  obtain ⟨oD, hD1, hD2⟩ : ∃ oD, h₀.get? D = some oD ∧ oD.data = .cls cdD := by
    unfold clsIn at hcD
    split at hcD
    · rename_i c' d' cd' sl' ho'
      cases hcD
      exact ⟨_, X₀ _ _ ho', rfl⟩
    · cases hcD
  refine ks_wpAny_isType_cls hD1 hD2 ⟨rfl, ?_⟩
  refine ks_wpAny_call_super hD1 hD2 hx₀ rfl (fun c e => by cases e) (looks_mroIn X₀ T.sub) (fun h₁ hso k₁ => ?_)
  have X₁ : K.In h₁ := X₀.keeps k₁
  have hx₁ := k₁ _ _ hx₀
  have I₁ : InstAt h₁ x (excO C t0) C none := ⟨hx₁, rfl, rfl, trivial⟩
  have hve : Looks (model prog w) h₁ (isInstance (.ref x) (.type "ValueError")) true := I₁.type.andThen (looks_subIn X₁ T.veC)
  have hup : alongIn K "__init__" (((Value.ref C :: bm).dropWhile (· != .ref D)).drop 1) = some (some (.builtin "ValueError.__init__")) := by
    have z := T.up
    unfold ks_superIn at z
    rw [hcl] at z
    exact z
  refine kxs_getMethod kxs_ValueError hso (looks_opaque X₁ T.third) (l₀ := Value.ref C :: bm) ((looks_clsIn X₁ hcl).andThen .now) rfl X₁ hup hve hxC (by decide) ?_
  have hx₂ : (h₁.push (kxs_mw "ValueError.__init__" x)).get? x = some (excO C t0) := Heap.get?_push_of_some _ hx₁
  have hu₂ : (h₁.push (kxs_mw "ValueError.__init__" x)).get? h₁.objs.size = some (kxs_mw "ValueError.__init__" x) := Heap.get?_push_size _ rfl
  have k₂ : ∀ b o, h₀.get? b = some o → (h₁.push (kxs_mw "ValueError.__init__" x)).get? b = some o := fun b o e => Heap.get?_push_of_some _ (k₁ b o e)
  have X₂ := X₀.keeps k₂
  refine kxs_callWith (i := "ValueError.__init__") (x := x) rfl ?_
  refine evalArgs_plain ?_
  have hn₂ := hns.keeps k₂
  refine Calls.spliced_cons ?_
  refine wpAny_Name (wpAny_loadName_local (by rfl) (by rfl) hn₂ (v := v) (by first | rfl | decide) ?_) (by decide)
  refine Calls.spliced_nil ⟨hu₂, ?_⟩
  refine bound_init (t0 := t0) (X₂ _ _ hC) hx₂ hu₂ (one_ok v) (fun h₃ t1 k₃ hx₃ hz₃ => ?_)
  have kn : ∀ b o, b ≠ x → h₀.get? b = some o → h₃.get? b = some o := fun b o hb e => k₃ b o hb (k₂ b o e)
  have X₃ : K.In h₃ := fun b o e => kn b o (fun z => by rw [z, hnx] at e; cases e) (X₀ b o e)
  have xL : s.heap.objs.size ≠ x := Nat.ne_of_gt (Heap.lt_size hx)
  have hn₃ : h₃.Ns s.heap.objs.size fun y => List.lookup y [(Str.ofString "self", Value.ref x), (Str.ofString "reason", v)].reverse := by
    obtain ⟨oL, es, ep, hL, r⟩ := hns
    exact ⟨oL, es, ep, kn _ _ xL hL, r⟩
  show _root_.PySem.wpAt _ _ _ (execs _ _) _ _ _
  refine ks_wpAt_execs_cons (ks_wpAt_Assign_Attr ?_)
  refine wpAt_of_wpAny (wpAny_Name (wpAny_loadName_local (by rfl) (by rfl) hn₃ (v := v) (by first | rfl | decide) ?_) (by decide))
  refine wpAny_Name (wpAny_loadName_local (by rfl) (by rfl) hn₃ (v := .ref x) (by first | rfl | decide) ?_) (by decide)
  refine set_plain X₃ (ox := excO C t1) (od := none) ⟨hx₃, rfl, rfl, trivial⟩ T.sa ?_
  refine exc_osa X₃ hx₃ hcl (show refsVE (.ref C :: bm) = true from hbm) rfl T.noN (fun h₄ tk₄ dx k₄ dn dne hx₄ hn₄ => ?_)
  refine wpAt_of_wpAny (wpAny_execs_nil ?_)
  exact hq h₄ tk₄ dx t1 ⟨fun b o hb e => k₄ b o hb (kn b o hb (kp b o e)), hx₄, Nat.le_of_lt (Nat.lt_of_lt_of_le hn₃.lt dn), dne, hn₄⟩
/-- a made error -/
structure Made (h h' : Heap) (e C d : Addr) (v : Value) : Prop where
  keep : ∀ b o, h.get? b = some o → h'.get? b = some o
  new : h.objs.size ≤ e
  obj : ∃ oe vs, h'.get? e = some oe ∧ oe.cls = .ref C ∧ oe.dict = some d ∧ oe.data = .fields vs ∧ vs[1]? = some .none
  dbig : h.objs.size ≤ d
  dne : d ≠ e
  ns : h'.Ns1 d (fun y => if y = "reason" then some v else none)
theorem reason_made (T : RsTxt prog K mg C D fI cc) {v : Value} (X : K.In s.heap) (G : s.heap.Ns mainGlobals mg) (B : ∃ mb, s.heap.Ns builtinsNs mb ∧ ∀ y : Str, y ≠ "__name__" → mb y = bootBuiltins y)
    (hlim : s.heap.NoLimit) (hroom : A.depth + 1 < recursionLimit)
    (hq : ∀ h' tk e d, Made s.heap h' e C d v → R (.ok (.ret (.ref e))) { s with heap := h', toks := tk }) :
    codeAny (model prog w) A (.call (.ref C) ⟨[v], []⟩) R s := by
  obtain ⟨nm, q, N, bs, bm, sn, sub, ab, col, dd, k0, k1, k2, k3, k5, hC, hbm⟩ := T.cls
  obtain ⟨hp, g, dr, tk, os⟩ := s
  have k : ∀ b o, hp.get? b = some o → ((hp.push (kdv_tup [v])).push (excO C hp.objs.size)).get? b = some o := fun b o e => Heap.get?_push_of_some _ (Heap.get?_push_of_some _ e)
  have hget : ((hp.push (kdv_tup [v])).push (excO C hp.objs.size)).get? (hp.objs.size + 1) = some (excO C hp.objs.size) := by heap_get
  have hnx : K.lookup (hp.objs.size + 1) = none := by
    cases e : K.lookup (hp.objs.size + 1) with
    | none => rfl
    | some o =>
      have z : hp.get? (hp.objs.size + 1) = some o := X _ _ e
      exact absurd (Nat.lt_of_succ_lt (Heap.lt_size z)) (Nat.lt_irrefl _)
  refine call_own F.excBase_ValueError (fun X => refsVE_contains X bm hbm) (X _ _ hC) (looks_findIn X T.iC) (fun self => bind_fn X self T.tI) (one_ok v) ?_
  obtain ⟨mb, hB, hmb⟩ := B
  refine reason_init (s := ⟨(hp.push (kdv_tup [v])).push (excO C hp.objs.size), g, dr, tk, os⟩) T (X.keeps k) (G.keeps k) ⟨mb, hB.keeps k, hmb⟩ (hlim.keeps k) hget hnx ?_ fun h' tk' dx t1 ⟨k', hx, dn, dne, hns⟩ => ?_
  · show A.depth + 1 < recursionLimit
    exact hroom
  · have old : ∀ b o, hp.get? b = some o → h'.get? b = some o := fun b o e => k' b o (Nat.ne_of_lt (Nat.lt_succ_of_lt (Heap.lt_size e))) (k b o e)
    have z : hp.objs.size + 1 + 1 ≤ dx := by
      first
        | (simpa only [Heap.size_push] using dn)
        | exact dn
        | (have q := dn; rw [Heap.size_push, Heap.size_push] at q; exact q)
    exact ⟨rfl, hq h' tk' (hp.objs.size + 1) dx ⟨old, Nat.le_succ _, ⟨_, _, hx, rfl, rfl, rfl, rfl⟩, Nat.le_trans (Nat.le_trans (Nat.le_succ _) (Nat.le_succ _)) z, dne, hns⟩⟩
end
end HX
namespace HX
open PySem PySem.Spec PyProof.Rows L2
theorem relO_rs {v : V} {v' : Value} (r : RelV v v') (f : Str) : RelO (List.lookup f [(("reason" : Str), v)]) (if f = "reason" then some v' else none) := by
  by_cases hw : f = "reason"
  · subst hw
    rw [if_pos rfl]
    have q : List.lookup ("reason" : Str) [(("reason" : Str), v)] = some v := by simp [List.lookup]
    rw [q]
    exact r
  · rw [if_neg hw]
    have qw : (f == ("reason" : Str)) = false := by simpa using hw
    have q2 : List.lookup f [(("reason" : Str), v)] = none := by simp [List.lookup, qw]
    rw [q2]
    trivial
section
variable {X : Cx} {C D fI cc : Addr} {x : Str}
/-- C(e): its own dict is new and holds the reason -/
def tMkR (C : Addr) (ta : TA) : L2.St → Hp → XK → Prop := fun σ H Q => ta σ H fun vs H1 => ∃ v, vs = [v] ∧ ∀ d, H1 d = none → Q (.ref C) (some d) (upd H1 d (.xd [(("reason" : Str), v)]))
theorem pmk_rs {a : Expr} {ta : TA} {p pos : Pos} {k : Nat} (T : RsTxt X.prog X.K X.mg C D fI cc) (hr : Room k X.A) (ha : PA X [a] ta) (hm : X.mg x = some (.ref C)) (hg : Gl X x := by rfl)
    (hdb : (x == ("__debug__" : Str)) = false := by decide)
    (he : starEach (a :: []) X.env = (false, eval a X.env) :: starEach [] X.env := by rfl) (hpl : (backTo pos (starEach [] X.env)).any (·.1) = false := by rfl) :
    PMk X (.Call (.Name x p) [a] [] pos) (tMkR C ta) := by
  intro pins s σ H Q I h
  refine wpAny_Call_Name_kw (ld_glob I hg hm ?_ hdb)
  refine PySem.W.callWith_K (h₀ := X.base) I.ok.mod.kin T.kC (thn (ha.run pos pins s σ H _ I h) fun us s1 hh => ?_) he hpl
  obtain ⟨vs, H1, I1, r1, v, ev, q1⟩ := hh
  subst ev
  refine ⟨I1.kIn, ?_⟩
  cases r1 with
  | cons rv rn =>
    rename_i v' us'
    cases rn
    show wpAny _ _ (call (.ref C) [v']) _ _ _
    have hlim := I1.nolimit
    have hG : s1.heap.Ns mainGlobals X.mg := I1.ok.mod.glob.keeps I1.bk
    have hB : ∃ mb, s1.heap.Ns builtinsNs mb ∧ ∀ y : Str, y ≠ "__name__" → mb y = bootBuiltins y := by
      obtain ⟨mb, hb, hm⟩ := I1.ok.mod.blt
      exact ⟨mb, hb.keeps I1.bk, hm⟩
    obtain ⟨hp, g, dr, tk, os⟩ := s1
    refine wpAny_call (reason_made T I1.kIn hG hB hlim (by have := hr.dp; omega) fun h' tk' e d M => ?_)
    show MkP X pins σ Q (.ref e) ⟨h', g, dr, tk', os⟩
    obtain ⟨oe, fv, hoe, hc, hd, hdat, h1⟩ := M.obj
    have hns := M.ns
    obtain ⟨G', g1, g2⟩ := restrict h' fun b => decide (b ≠ e)
    have gk : ∀ b, b ≠ e → G'.get? b = h'.get? b := fun b hb => g1 b (decide_eq_true hb)
    have ge : G'.get? e = none := g2 e (by simp)
    have old : ∀ b o, hp.get? b = some o → G'.get? b = some o := fun b o q => (gk b (Nat.ne_of_lt (Nat.lt_of_lt_of_le (Heap.lt_size q) M.new))).trans (M.keep b o q)
    have ob : ObjOk X.prog X.w (upd H1 d (.xd [(("reason" : Str), v)])) G' d (.xd [(("reason" : Str), v)]) :=
      ⟨_, hns.at (fun o q => (gk d M.dne).trans q), fun f => relO_rs rv f⟩
    have J : Inv X pins σ (upd H1 d (.xd [(("reason" : Str), v)])) ⟨G', g, dr, tk', os⟩ := I1.laid (t' := tk') old M.dbig ob
    refine ⟨e, oe, fv, ⟨G', g, dr, tk', os⟩, _, .ref C, some d, rfl, J, fun b o q => ?_, ge, hoe, ⟨hc, hd⟩, hdat, h1, ?_, rfl, I1.bare, raises_own T.exC T.tyC, q1 d (I1.hok.fresh M.dbig)⟩
    · by_cases hb : b = e
      · have q' : G'.get? b = some o := q
        rw [hb, ge] at q'; cases q'
      · exact (gk b hb).symm.trans q
    · rw [upd_ne (Ne.symm M.dne)]
      exact I1.hok.fresh M.new
/-- raise C(e) -/
def tRaiseR (C : Addr) (W : WX) (ta : TA) : TS := fun _ σ H => tMkR C ta σ H fun cls d H' => W cls d σ H'
theorem ps_raiseR {a : Expr} {ta : TA} {W : WX} {p pos pos2 : Pos} {k : Nat} (hc : X.calm = true) (T : RsTxt X.prog X.K X.mg C D fI cc) (hr : Room k X.A) (tk : Takes X W) (ha : PA X [a] ta) (hm : X.mg x = some (.ref C)) (hg : Gl X x := by rfl)
    (hdb : (x == ("__debug__" : Str)) = false := by decide)
    (he : starEach (a :: []) X.env = (false, eval a X.env) :: starEach [] X.env := by rfl) (hpl : (backTo pos (starEach [] X.env)).any (·.1) = false := by rfl) :
    PS X (.Raise (some (.Call (.Name x p) [a] [] pos)) none pos2) (tRaiseR C W ta) := ps_raise hc tk (pmk_rs T hr ha hm hg hdb he hpl)
end
end HX

namespace HX
open PySem PySem.Spec PyProof.Rows L2
/-- isinstance(e, c) in a suite, e the error that it holds (at a, class cls, own dict d) -/
def rIsX (K : PySem.W.Frag) (a : Addr) (cls : Value) (d : Option Addr) : List V → Hp → VK → Prop := fun xs H Q => ∃ (D dd : Addr) (fs : List (Str × V)) (c : V) (cv : Value) (b : Bool),
  cls = .ref D ∧ d = some dd ∧ L2.ExcC K D ∧ H dd = some (.xd fs) ∧ xs = [.ref a, c] ∧ (∀ u, RelV c u → u = cv) ∧ PySem.W.kitOne K (.ref D) cv = some b ∧ Q (.bl b) H
theorem call_isX {X : Cx} {a : Addr} {oe : Obj} {cls : Value} {d : Option Addr} {pn : List (Addr × Obj)} (hz : Zc cls d oe) (hf : ∃ vs, oe.data = .fields vs) : CallR (X.suite a ((a, oe) :: pn)) (.builtin "isinstance") (rIsX X.K a cls d) := by
  intro pins s σ H xs us Q I r h
  obtain ⟨D, dd, fs, c, cv, b, rfl, rfl, C, hdd, rfl, hcv, e, q⟩ := h
  cases r with
  | cons rx rr =>
    cases rr with
    | cons rt rr =>
      cases rr
      cases rx
      have ec := hcv _ rt
      subst ec
      obtain ⟨hget, _⟩ := I.pin (a, oe) (List.mem_append.mpr (.inl List.mem_cons_self))
      obtain ⟨vs, hv⟩ := hf
      have hxd : ObjOk X.prog X.w H s.heap dd (.xd fs) := I.hok dd _ hdd
      obtain ⟨mA, hns, hr⟩ := hxd
      obtain ⟨od, ho, hl⟩ := lookIn_ns hns
      have J : PySem.W.InstAt s.heap a oe D (some od) := ⟨hget, hz.1, by unfold PySem.W.notCls; rw [hv] <;> rfl, by rw [hz.2]; exact ho⟩
      have hcl : (PySem.W.clsIn X.K D).isSome = true := by
        have q := C.hd
        unfold PySem.W.hasDictIn at q
        cases z : PySem.W.clsIn X.K D with
        | none => rw [z] at q; cases q
        | some _ => rfl
      exact PySem.W.kia_one (PySem.W.kitx_exc hcl C.hg C.hk C.hs C.ha C.hn C.ht C.hm) I.kIn J e (fun z => nomatch z) fun tk => ⟨.bl b, H, I.kept (t' := tk) fun _ _ z => z, rfl, q⟩
end HX

set_option Elab.async false
set_option linter.all false
set_option maxRecDepth 100000
set_option maxHeartbeats 2000000
/-! the head's facts: defs by name, and the error classes -/
namespace HX
open PySem PySem.Spec PyProof.Rows L2 He
/-- an error class over ValueError -/
def excB (K : PySem.W.Frag) (C : Addr) : Bool := match K.lookup C with
  | some ⟨.type "type", _, .cls cd, sl⟩ => (match cd.mro, sl.toList with
    | .ref C' :: bm, [_, _, _, _, some (.builtin n), _] => decide (C' = C) && (decide (n = "ValueError.__new__") && (!cd.hasDel && (cd.hasDict && PySem.HandSPX.refsVE bm)))
    | _, _ => false)
  | _ => false
theorem excB_ok {K : PySem.W.Frag} {C : Addr} (h : excB K C = true) : ∃ nm q N bs bm sn sub ab col dd k0 k1 k2 k3 k5, K.lookup C = some (excClassObj nm q C N bs bm true sn sub ab col dd k0 k1 k2 k3 k5 "ValueError.__new__") ∧ PySem.HandSPX.refsVE bm = true := by
  unfold excB at h
  split at h
  · rename_i dd cd sl ho
    split at h
    · rename_i C' bm k0 k1 k2 k3 n k5 hm hs
      obtain ⟨h1, h⟩ := ba h
      obtain ⟨h2, h⟩ := ba h
      obtain ⟨h3, h⟩ := ba h
      obtain ⟨h4, h5⟩ := ba h
      have e1 : C' = C := of_decide_eq_true h1
      have e2 : n = "ValueError.__new__" := of_decide_eq_true h2
      subst e1 e2
      obtain ⟨nm, bs, mro, ns, qn, hd, sn, sub, ab, col, del⟩ := cd
      dsimp only at hm h3 h4
      subst hm
      have h3' : del = false := by cases del <;> first | rfl | cases h3
      subst h3' h4
      refine ⟨nm, qn, ns, bs, bm, sn, sub, ab, col, dd, k0, k1, k2, k3, k5, ?_, h5⟩
      rw [ho]
      have es : sl = #[k0, k1, k2, k3, some (.builtin "ValueError.__new__"), k5] := by
        obtain ⟨l⟩ := sl
        have hs' : l = [k0, k1, k2, k3, some (.builtin "ValueError.__new__"), k5] := hs
        rw [hs']
      rw [es]
    · cases h
  · cases h
/-- the cell of the class that the def at f closes over -/
def ccOf (K : PySem.W.Frag) (f : Addr) : Addr := match K.lookup f with
  | some ⟨_, _, .func fd, _⟩ => (match fd.closure with
    | (_, c) :: _ => c
    | [] => 0)
  | _ => 0
/-- what is looked at of such a class at C, its __init__ from the class at D -/
def rsB (P : Program) (K : PySem.W.Frag) (C D : Addr) : Bool :=
  excB K C && (eqO (PySem.W.findIn K (.ref C) "__setattr__") (some (some (.builtin "object.__setattr__"))) && (eqO (PySem.W.findIn K (.ref C) "reason") (some none) &&
  (eqO (PySem.W.findIn K (.ref C) "__init__") (some (some (.ref (ma K C "__init__")))) && (decide (PySem.W.typeIn K (.ref (ma K C "__init__")) = some (.type "function")) && (PySem.W.keepIn K (.ref C) &&
  (decide (PySem.W.subIn K (.ref C) (.type "BaseException") = some true) && (decide (PySem.W.subIn K (.ref C) (.type "ValueError") = some true) && (decide (PySem.W.typeIn K (.ref C) = some (.type "type")) &&
  ((PySem.W.clsIn K D).isSome && (decide (PySem.W.mroIn K C (.ref D) = some true) && (eqO (PySem.W.ks_superIn K C D "__init__") (some (some (.builtin "ValueError.__init__"))) &&
  (eqO (PySem.W.nsIn K mainGlobals "super") (some none) && (eqO (PySem.W.nsIn K cStatics "thirdparty.any") (some none) && (!(P.main.scope.names.lookup ("super" : Str)).isSome &&
  (match K.lookup (ccOf K (ma K C "__init__")) with
    | some ⟨_, _, .cell (some (.ref D')), _⟩ => decide (D' = D)
    | _ => false)))))))))))))))
abbrev InV : Type := Option (Str × Str × Arguments × FuncBody × Scope × Addr × Bool × Bool × Addr)
/-- its __init__ as it stands -/
def inObs (P : Program) (K : PySem.W.Frag) (f : Addr) : InV := match K.lookup f with
  | some ⟨_, _, .func fd, _⟩ => some (fd.name, fd.qualname, fd.params, fd.body, fd.scope, fd.globals,
      (match fd.closure with
      | [(x, _)] => decide (x = ("__class__" : Str))
      | _ => false) && ((match fd.defaults with | .none => true | _ => false) && (match fd.kwdefaults with | .none => true | _ => false)),
      (match fd.code with
      | .ref cda => PySem.W.codeIn K (.ref cda) "ReasonError.__init__" && (match K.lookup cda with
        | some ⟨_, _, .fields vs, _⟩ => (match (vs[2]? : Option Value) with
          | some (.str file _) => ((P.main.file : Str) == file)
          | _ => false)
        | _ => false)
      | _ => false), fd.builtins)
  | _ => none
/-- the positions of __init__'s text -/
structure InPos where
  p1 : Pos
  p2 : Pos
  q : List Pos
def InPos.val (i : InPos) : InV := some ("__init__", "ReasonError.__init__", rA i.p1 i.p2, .stmts (rB (i.q.getD 0 ⟨0, 0, 0, 0⟩) (i.q.getD 1 ⟨0, 0, 0, 0⟩) (i.q.getD 2 ⟨0, 0, 0, 0⟩) (i.q.getD 3 ⟨0, 0, 0, 0⟩) (i.q.getD 4 ⟨0, 0, 0, 0⟩)
  (i.q.getD 5 ⟨0, 0, 0, 0⟩) (i.q.getD 6 ⟨0, 0, 0, 0⟩) (i.q.getD 7 ⟨0, 0, 0, 0⟩) (i.q.getD 8 ⟨0, 0, 0, 0⟩) (i.q.getD 9 ⟨0, 0, 0, 0⟩)), rS, mainGlobals, true, true, builtinsNs)
theorem rs_ok {P : Program} {K : PySem.W.Frag} {h : Heap} {mg : Str → Option Value} {C D : Addr} {i : InPos} (X : K.In h) (G : h.Ns mainGlobals mg) (hb : rsB P K C D = true) (hi : inObs P K (ma K C "__init__") = i.val)
    (hl : ((i.q.getD 2 ⟨0, 0, 0, 0⟩).endLine == (i.q.getD 4 ⟨0, 0, 0, 0⟩).line) = true) : RsTxt P K mg C D (ma K C "__init__") (ccOf K (ma K C "__init__")) := by
  obtain ⟨b1, hb⟩ := ba hb
  obtain ⟨b2, hb⟩ := ba hb
  obtain ⟨b3, hb⟩ := ba hb
  obtain ⟨b4, hb⟩ := ba hb
  obtain ⟨b5, hb⟩ := ba hb
  obtain ⟨b6, hb⟩ := ba hb
  obtain ⟨b7, hb⟩ := ba hb
  obtain ⟨b8, hb⟩ := ba hb
  obtain ⟨b9, hb⟩ := ba hb
  obtain ⟨b10, hb⟩ := ba hb
  obtain ⟨b11, hb⟩ := ba hb
  obtain ⟨b12, hb⟩ := ba hb
  obtain ⟨b13, hb⟩ := ba hb
  obtain ⟨b14, hb⟩ := ba hb
  obtain ⟨b15, b16⟩ := ba hb
  refine ⟨excB_ok b1, eqO_ok b2, eqO_ok b3, eqO_ok b4, of_decide_eq_true b5, b6, of_decide_eq_true b7, of_decide_eq_true b8, of_decide_eq_true b9, b10, of_decide_eq_true b11, eqO_ok b12, PySem.W.mg_none_of X G (eqO_ok b13), eqO_ok b14, by simpa using b15, ?_, ?_⟩
  · split at b16
    · rename_i cl cld D' csl ho
      have e : D' = D := of_decide_eq_true b16
      subst e
      exact ⟨_, _, _, ho⟩
    · cases b16
  · unfold inObs at hi
    split at hi
    · rename_i oc od fd osl ho
      obtain ⟨n1, n2, n3, n4, n5, n6, n7, n8, n9, n10, n11, n12, n13, n14, n15⟩ := fd
      have hi2 := Option.some.inj hi
      simp only [Prod.mk.injEq] at hi2
      obtain ⟨rfl, rfl, rfl, rfl, rfl, rfl, h7, h8, rfl⟩ := hi2
      obtain ⟨c1, c2⟩ := ba h7
      obtain ⟨c2, c3⟩ := ba c2
      have ecc : ∃ c, n7 = [(("__class__" : Str), c)] := by
        split at c1
        · rename_i x c
          have : x = ("__class__" : Str) := of_decide_eq_true c1
          subst this
          exact ⟨c, rfl⟩
        · cases c1
      obtain ⟨c, rfl⟩ := ecc
      have e8 : n8 = .none := by split at c2 <;> first | rfl | cases c2
      have e9 : n9 = .none := by split at c3 <;> first | rfl | cases c3
      subst e8 e9
      have hcc : ccOf K (ma K C "__init__") = c := by
        unfold ccOf
        rw [ho]
      rw [hcc]
      split at h8
      · rename_i cda
        obtain ⟨d1, d2⟩ := ba h8
        split at d2
        · rename_i ccl cdd vs ccs hoc
          split at d2
          · rename_i file tf hv
            exact ⟨oc, od, n10, n11, n12, cda, n14, osl, i.p1, i.p2, _, _, _, _, _, _, _, _, _, _, ccl, cdd, vs, ccs, file, tf, ho, d1, hoc, hv, d2, hl⟩
          · cases d2
        · cases d2
      · cases h8
    · cases hi
end HX

set_option Elab.async false
set_option linter.all false
set_option maxRecDepth 100000
set_option maxHeartbeats 2000000
/-! the Hook, the end of a head whose looks are split -/
namespace HX
open PySem PySem.Spec PyProof.Rows L2 He
/-- what isinstance asks of an error class -/
def excCB (K : PySem.W.Frag) (D : Addr) : Bool :=
  eqO (PySem.W.findIn K (.ref D) "__getattribute__") (some (some (.builtin "BaseException.__getattribute__"))) && (eqO (PySem.W.findIn K (.ref D) "__getattr__") (some none) && (decide (PySem.W.subIn K (.ref D) (.type "BaseException") = some true) &&
  (PySem.W.hasDictIn K D && (eqO (PySem.W.findIn K (.ref D) "__class__") (some (some (.builtin "object.__class__"))) && (eqO (PySem.W.specialIn K (.builtin "object.__class__") "__get__") (some (some (.builtin "getset_descriptor.__get__"))) &&
  (decide (PySem.W.takesIn K (.builtin "object.__class__") = some true) && decide (PySem.W.mroIn K D (.type "object") = some true)))))))
theorem excCB_ok {K : PySem.W.Frag} {D : Addr} (h : excCB K D = true) : L2.ExcC K D := by
  obtain ⟨b1, h⟩ := ba h
  obtain ⟨b2, h⟩ := ba h
  obtain ⟨b3, h⟩ := ba h
  obtain ⟨b4, h⟩ := ba h
  obtain ⟨b5, h⟩ := ba h
  obtain ⟨b6, h⟩ := ba h
  obtain ⟨b7, b8⟩ := ba h
  exact ⟨eqO_ok b1, eqO_ok b2, of_decide_eq_true b3, b4, eqO_ok b5, eqO_ok b6, of_decide_eq_true b7, of_decide_eq_true b8⟩
/-- a class as a second argument of isinstance: a built-in's name, or a class of the top -/
abbrev Ck := Sum String Str
def Ck.v (K : PySem.W.Frag) : Ck → Value
  | .inl n => .type n
  | .inr x => .ref (ga K x)
def kitsB (K : PySem.W.Frag) (l : List (Str × Ck × Bool)) : Bool := l.all fun q => decide (PySem.W.kitOne K (.ref (ga K q.1)) (q.2.1.v K) = some q.2.2)
/-- the places of the heap that are told: the defs fs with their code, the classes cs with what they reach -/
def addrs (g : Addr → Option Obj) (fs cs : List Str) : List Addr :=
  let G := frG g [mainGlobals]
  let a1 := fs.map fun x => ga G x
  let c0 := cs.map fun x => ga G x
  [mainGlobals, cStatics] ++ (a1 ++ a1.flatMap fun a => match g a with
    | some o => refsO o
    | none => []) ++ growD g (growD g (growD g (growD g c0)))
structure HkD where
  P : Program
  fs : List Str
  cs : List Str
  fa : List Fa
  fn : List DefD
  es : List Str
  base : Str
  kits : List (Str × Ck × Bool)
  ip : InPos
abbrev AlX : Type := AlD × Bool × List InV
def HkD.obsK (k : HkD) (K : PySem.W.Frag) : AlX :=
  (obsD k.fa k.fn K, ((k.es.all fun x => rsB k.P K (ga K x) (ga K k.base)) && ((k.es.all fun x => excCB K (ga K x) && xfB K (ga K x)) && kitsB K k.kits)), k.es.map fun x => inObs k.P K (ma K (ga K x) "__init__"))
def HkD.val (k : HkD) : AlX := (valD k.fn, true, k.es.map fun _ => k.ip.val)
def HkD.Says (k : HkD) (K : PySem.W.Frag) : Prop := k.obsK K = k.val
def HkD.obsG (k : HkD) (g : Addr → Option Obj) : AlX := k.obsK (frG g (addrs g k.fs k.cs))
def HkD.hook (k : HkD) : PySem.W.Hook where
  α := AlX
  obs := fun s => k.obsG s.heap.get?
  val := fun _ => k.val
  says := fun _ h => ∃ K : PySem.W.Frag, K.In h ∧ k.Says K
  of := fun _ _ e => ⟨_, frG_in, e⟩
  keeps := fun _ _ _ ⟨K, hK, c⟩ q => ⟨K, PySem.W.Frag.In.keeps hK q, c⟩
theorem HkD.obsG_eq (k : HkD) {g : Addr → Option Obj} {s : Shared} (h : ∀ a, g a = s.heap.get? a) : k.obsG g = k.hook.obs s := by
  have e : g = s.heap.get? := funext h
  rw [e]
  rfl
section
variable {k : HkD} {K : PySem.W.Frag}
theorem HkD.Says.d (c : k.Says K) : SaysD k.fa k.fn K := congrArg (fun z : AlX => z.1) c
theorem HkD.Says.b (c : k.Says K) : ((k.es.all fun x => rsB k.P K (ga K x) (ga K k.base)) && ((k.es.all fun x => excCB K (ga K x) && xfB K (ga K x)) && kitsB K k.kits)) = true := congrArg (fun z : AlX => z.2.1) c
theorem HkD.Says.i (c : k.Says K) : (k.es.map fun x => inObs k.P K (ma K (ga K x) "__init__")) = k.es.map fun _ => k.ip.val := congrArg (fun z : AlX => z.2.2) c
theorem HkD.Says.rs (c : k.Says K) {h : Heap} {mg : Str → Option Value} (X : K.In h) (G : h.Ns mainGlobals mg) {x : Str} (hx : x ∈ k.es) (hl : ((k.ip.q.getD 2 ⟨0, 0, 0, 0⟩).endLine == (k.ip.q.getD 4 ⟨0, 0, 0, 0⟩).line) = true) :
    RsTxt k.P K mg (ga K x) (ga K k.base) (ma K (ga K x) "__init__") (ccOf K (ma K (ga K x) "__init__")) := by
  have b1 := List.all_eq_true.mp (ba c.b).1 x hx
  have e : ∀ l : List Str, (l.map fun x => inObs k.P K (ma K (ga K x) "__init__")) = (l.map fun _ => k.ip.val) → x ∈ l → inObs k.P K (ma K (ga K x) "__init__") = k.ip.val := by
    intro l
    induction l with
    | nil => intro _ h; cases h
    | cons y l ih =>
      intro e h
      rw [List.map_cons, List.map_cons] at e
      obtain ⟨e1, e2⟩ := List.cons.inj e
      rcases List.mem_cons.mp h with rfl | h
      · exact e1
      · exact ih e2 h
  exact rs_ok X G b1 (e _ c.i hx) hl
theorem HkD.Says.exc (c : k.Says K) {x : Str} (hx : x ∈ k.es) : L2.ExcC K (ga K x) ∧ XfC K (ga K x) := by
  have b1 := List.all_eq_true.mp (ba (ba c.b).2).1 x hx
  exact ⟨excCB_ok (ba b1).1, xfB_ok (ba b1).2⟩
theorem HkD.Says.kit (c : k.Says K) {q : Str × Ck × Bool} (hq : q ∈ k.kits) : PySem.W.kitOne K (.ref (ga K q.1)) (q.2.1.v K) = some q.2.2 :=
  of_decide_eq_true (List.all_eq_true.mp (ba (ba c.b).2).2 q hq)
end
/-- three looks at one run -/
theorem three {α β γ δ : Type} {x : Option α} {f : α → β} {g : α → γ} {h : α → δ} {a : β} {b : γ} {c : δ} (h1 : x.map f = some a) (h2 : x.map g = some b) (h3 : x.map h = some c) : x.map (fun s => (f s, g s, h s)) = some (a, b, c) := by
  cases x with
  | none => cases h1
  | some s =>
    rw [Option.map_some] at h1 h2 h3 ⊢
    rw [Option.some.inj h1, Option.some.inj h2, Option.some.inj h3]
end HX

set_option Elab.async false
set_option linter.all false
set_option maxRecDepth 100000
set_option maxHeartbeats 2000000
/-! smaller looks at one run, joined -/
namespace HX
open PySem PySem.Spec PyProof.Rows L2 He PySem.W HandSHeadRun
abbrev kG (k : HkD) (s : SharedT) : PySem.W.Frag := frG (getT s) (addrs (getT s) k.fs k.cs)
theorem join1 {p : Program} {h0 : Heap} {ks : List Str} {x : Option SharedT} (a : x.map (fun s => staticsOk (importedModules p.main.body) h0 s.abs.heap && gensDone s.abs && laidKept h0 s.abs.heap) = some true)
    (b : x.map (fun s => (s.abs.heap.isNs mainGlobals, s.abs.heap.nsKeys mainGlobals)) = some (true, ks)) (c : (ks.all fun k => startupNames.contains k || p.boundNames.contains k) = true) : x.map (fun s => looksF p h0 s.abs) = some true := by
  cases x with
  | none => cases a
  | some s =>
    rw [Option.map_some] at a b ⊢
    have a := Option.some.inj a
    have b := Option.some.inj b
    obtain ⟨b1, b2⟩ := Prod.mk.inj b
    obtain ⟨a12, a3⟩ := ba a
    obtain ⟨a1, a2⟩ := ba a12
    have nb : namesBound p s.abs.heap = true := by
      unfold namesBound
      rw [b1, b2, c]
      rfl
    unfold looksF
    rw [a1, nb, a2, a3]
    rfl
theorem join3 {k : HkD} {x : Option SharedT} (n : Nat) (c : x.map (fun s => (fun K => k.fa.all fun f => f.ok K) (kG k s)) = some true)
    (h1 : x.map (fun s => (fun K => (((k.fn.take n).all fun d => d.ok K), (k.fn.take n).map fun d => fnW K d.at_)) (kG k s)) = some (true, (k.fn.take n).map DefD.val))
    (h2 : x.map (fun s => (fun K => (((k.fn.drop n).all fun d => d.ok K), (k.fn.drop n).map fun d => fnW K d.at_)) (kG k s)) = some (true, (k.fn.drop n).map DefD.val))
    (b : x.map (fun s => (k.obsG (getT s)).2) = some k.val.2) : x.map (fun s => k.obsG (getT s)) = some k.val := by
  cases x with
  | none => cases c
  | some s =>
    rw [Option.map_some] at c h1 h2 b ⊢
    have c := Option.some.inj c
    obtain ⟨p1, p2⟩ := Prod.mk.inj (Option.some.inj h1)
    obtain ⟨q1, q2⟩ := Prod.mk.inj (Option.some.inj h2)
    have b := Option.some.inj b
    refine congrArg some (Prod.ext (Prod.ext ?_ ?_) b)
    · show ((k.fa.all fun f => f.ok (kG k s)) && k.fn.all fun d => d.ok (kG k s)) = true
      have e : (k.fn.all fun d => d.ok (kG k s)) = true := by
        rw [← List.take_append_drop n k.fn, List.all_append]
        exact Bool.and_eq_true_iff.mpr ⟨p1, q1⟩
      exact Bool.and_eq_true_iff.mpr ⟨c, e⟩
    · show k.fn.map (fun d => fnW (kG k s) d.at_) = k.fn.map DefD.val
      rw [← List.take_append_drop n k.fn, List.map_append, List.map_append]
      exact congr (congrArg _ p2) q2
end HX

set_option Elab.async false
set_option linter.all false
set_option maxRecDepth 100000
set_option maxHeartbeats 0
/-! the defs of the top by name, what the head tells of them -/
namespace K5
open PySem PySem.Spec PyProof.Rows L2 He HX
def topS (i : Nat) : Stmt := PySem.Challenge.pw_hangstogether_k05_wrong_cloths_ahead_of.main.body.getD i (.Pass ⟨0, 0, 0, 0⟩)
abbrev st_is_integer : Stmt := topS 1
abbrev st_in_range : Stmt := topS 2
abbrev st_is_ascending : Stmt := topS 4
abbrev st_check_cloth : Stmt := topS 28
abbrev st_check_draft : Stmt := topS 29
abbrev st_needs : Stmt := topS 138
abbrev st_drawn : Stmt := topS 140
abbrev st_fewest_treadles : Stmt := topS 172
abbrev st_accept_treadles : Stmt := topS 173
abbrev st_lifted_with : Stmt := topS 100
abbrev st_can_be_lifted : Stmt := topS 101
abbrev st_layers : Stmt := topS 102
abbrev st_parted : Stmt := topS 108
abbrev st_hangs_together : Stmt := topS 105
abbrev st_falls_by_sums : Stmt := topS 109
abbrev st_accept_together : Stmt := topS 106
abbrev st_demand_piece : Stmt := topS 111
abbrev st_apart_without : Stmt := topS 114
abbrev st_weak_threads : Stmt := topS 115
abbrev st_most_chains : Stmt := topS 119
abbrev st_accept_chains : Stmt := topS 121
abbrev st_strength : Stmt := topS 124
abbrev st_accept_strength : Stmt := topS 125
abbrev st_floats : Stmt := topS 157
abbrev st_longest : Stmt := topS 158
abbrev st_face_of : Stmt := topS 160
abbrev st_interlacings : Stmt := topS 161
abbrev st_too_long : Stmt := topS 159
abbrev st_picture : Stmt := topS 63
abbrev st_picture_behind : Stmt := topS 64
abbrev st_plan_of : Stmt := topS 70
abbrev st_tallies : Stmt := topS 75
abbrev st_nearest : Stmt := topS 77
abbrev st_accept_plan_of : Stmt := topS 73
abbrev st_accept_nearest : Stmt := topS 78
abbrev st_fewest_colours : Stmt := topS 88
abbrev st_accept_colours : Stmt := topS 90
abbrev st_reduced : Stmt := topS 35
abbrev st_normal : Stmt := topS 45
abbrev st_symmetries : Stmt := topS 49
abbrev st_classes : Stmt := topS 51
abbrev st_is_even : Stmt := topS 52
abbrev st_turned : Stmt := topS 43
abbrev st_compare : Stmt := topS 46
abbrev st_accept_compare : Stmt := topS 47
abbrev st_unstacked : Stmt := topS 131
abbrev st_loosest : Stmt := topS 132
abbrev st_folded : Stmt := topS 133
abbrev st_twill_step : Stmt := topS 150
abbrev st_accept_twill_step : Stmt := topS 151
abbrev st_family : Stmt := topS 153
abbrev st_bends : Stmt := topS 190
abbrev st_lengths : Stmt := topS 192
abbrev st_amounts : Stmt := topS 193
abbrev st_woven : Stmt := topS 137
abbrev st_tidy : Stmt := topS 144
abbrev st_turned_draft : Stmt := topS 141
abbrev st_reordered : Stmt := topS 143
abbrev st_fewest_steps : Stmt := topS 182
abbrev st_step_table : Stmt := topS 180
abbrev st_accept_step_table : Stmt := topS 181
abbrev st_steps_of : Stmt := topS 183
abbrev st__law_draws : Stmt := topS 195
abbrev st__law_more : Stmt := topS 196
abbrev st__law_take : Stmt := topS 197
abbrev st__law_one : Stmt := topS 198
abbrev st__law_row : Stmt := topS 199
abbrev st__law_planted : Stmt := topS 200
abbrev st__law_sized : Stmt := topS 201
abbrev st__law_cloth : Stmt := topS 202
abbrev st__law_called_0 : Stmt := topS 203
abbrev st__law_called_1 : Stmt := topS 204
abbrev st__law_called_5 : Stmt := topS 205
abbrev st__law_told : Stmt := topS 206
abbrev st__law_second : Stmt := topS 207
abbrev st__law_wrong_cloth : Stmt := topS 208
abbrev st__law_draft : Stmt := topS 209
abbrev st__law_wrong_draft : Stmt := topS 210
abbrev st_law : Stmt := topS 211
def dd_is_integer : DefD := ⟨("is_integer", none), "is_integer", "is_integer", defArgs st_is_integer, defBody st_is_integer, defScope st_is_integer, [], []⟩
def dd_in_range : DefD := ⟨("in_range", none), "in_range", "in_range", defArgs st_in_range, defBody st_in_range, defScope st_in_range, [], []⟩
def dd_is_ascending : DefD := ⟨("is_ascending", none), "is_ascending", "is_ascending", defArgs st_is_ascending, defBody st_is_ascending, defScope st_is_ascending, [], []⟩
def dd_check_cloth : DefD := ⟨("check_cloth", none), "check_cloth", "check_cloth", defArgs st_check_cloth, defBody st_check_cloth, defScope st_check_cloth, [], []⟩
def dd_check_draft : DefD := ⟨("check_draft", none), "check_draft", "check_draft", defArgs st_check_draft, defBody st_check_draft, defScope st_check_draft, [], []⟩
def dd_needs : DefD := ⟨("needs", none), "needs", "needs", defArgs st_needs, defBody st_needs, defScope st_needs, [], []⟩
def dd_drawn : DefD := ⟨("drawn", none), "drawn", "drawn", defArgs st_drawn, defBody st_drawn, defScope st_drawn, [], []⟩
def dd_fewest_treadles : DefD := ⟨("fewest_treadles", none), "fewest_treadles", "fewest_treadles", defArgs st_fewest_treadles, defBody st_fewest_treadles, defScope st_fewest_treadles, [], []⟩
def dd_accept_treadles : DefD := ⟨("accept_treadles", none), "accept_treadles", "accept_treadles", defArgs st_accept_treadles, defBody st_accept_treadles, defScope st_accept_treadles, [], []⟩
def dd_lifted_with : DefD := ⟨("lifted_with", none), "lifted_with", "lifted_with", defArgs st_lifted_with, defBody st_lifted_with, defScope st_lifted_with, [], []⟩
def dd_can_be_lifted : DefD := ⟨("can_be_lifted", none), "can_be_lifted", "can_be_lifted", defArgs st_can_be_lifted, defBody st_can_be_lifted, defScope st_can_be_lifted, [], []⟩
def dd_layers : DefD := ⟨("layers", none), "layers", "layers", defArgs st_layers, defBody st_layers, defScope st_layers, [], []⟩
def dd_parted : DefD := ⟨("parted", none), "parted", "parted", defArgs st_parted, defBody st_parted, defScope st_parted, [], []⟩
def dd_hangs_together : DefD := ⟨("hangs_together", none), "hangs_together", "hangs_together", defArgs st_hangs_together, defBody st_hangs_together, defScope st_hangs_together, [], []⟩
def dd_falls_by_sums : DefD := ⟨("falls_by_sums", none), "falls_by_sums", "falls_by_sums", defArgs st_falls_by_sums, defBody st_falls_by_sums, defScope st_falls_by_sums, [], []⟩
def dd_accept_together : DefD := ⟨("accept_together", none), "accept_together", "accept_together", defArgs st_accept_together, defBody st_accept_together, defScope st_accept_together, [], []⟩
def dd_demand_piece : DefD := ⟨("demand_piece", none), "demand_piece", "demand_piece", defArgs st_demand_piece, defBody st_demand_piece, defScope st_demand_piece, [], []⟩
def dd_apart_without : DefD := ⟨("apart_without", none), "apart_without", "apart_without", defArgs st_apart_without, defBody st_apart_without, defScope st_apart_without, [], []⟩
def dd_weak_threads : DefD := ⟨("weak_threads", none), "weak_threads", "weak_threads", defArgs st_weak_threads, defBody st_weak_threads, defScope st_weak_threads, [], []⟩
def dd_most_chains : DefD := ⟨("most_chains", none), "most_chains", "most_chains", defArgs st_most_chains, defBody st_most_chains, defScope st_most_chains, [], []⟩
def dd_accept_chains : DefD := ⟨("accept_chains", none), "accept_chains", "accept_chains", defArgs st_accept_chains, defBody st_accept_chains, defScope st_accept_chains, [], []⟩
def dd_strength : DefD := ⟨("strength", none), "strength", "strength", defArgs st_strength, defBody st_strength, defScope st_strength, [], []⟩
def dd_accept_strength : DefD := ⟨("accept_strength", none), "accept_strength", "accept_strength", defArgs st_accept_strength, defBody st_accept_strength, defScope st_accept_strength, [], []⟩
def dd_floats : DefD := ⟨("floats", none), "floats", "floats", defArgs st_floats, defBody st_floats, defScope st_floats, [], []⟩
def dd_longest : DefD := ⟨("longest", none), "longest", "longest", defArgs st_longest, defBody st_longest, defScope st_longest, [], []⟩
def dd_face_of : DefD := ⟨("face_of", none), "face_of", "face_of", defArgs st_face_of, defBody st_face_of, defScope st_face_of, [], []⟩
def dd_interlacings : DefD := ⟨("interlacings", none), "interlacings", "interlacings", defArgs st_interlacings, defBody st_interlacings, defScope st_interlacings, [], []⟩
def dd_too_long : DefD := ⟨("too_long", none), "too_long", "too_long", defArgs st_too_long, defBody st_too_long, defScope st_too_long, [], []⟩
def dd_picture : DefD := ⟨("picture", none), "picture", "picture", defArgs st_picture, defBody st_picture, defScope st_picture, [], []⟩
def dd_picture_behind : DefD := ⟨("picture_behind", none), "picture_behind", "picture_behind", defArgs st_picture_behind, defBody st_picture_behind, defScope st_picture_behind, [], []⟩
def dd_plan_of : DefD := ⟨("plan_of", none), "plan_of", "plan_of", defArgs st_plan_of, defBody st_plan_of, defScope st_plan_of, [], []⟩
def dd_tallies : DefD := ⟨("tallies", none), "tallies", "tallies", defArgs st_tallies, defBody st_tallies, defScope st_tallies, [], []⟩
def dd_nearest : DefD := ⟨("nearest", none), "nearest", "nearest", defArgs st_nearest, defBody st_nearest, defScope st_nearest, [], []⟩
def dd_accept_plan_of : DefD := ⟨("accept_plan_of", none), "accept_plan_of", "accept_plan_of", defArgs st_accept_plan_of, defBody st_accept_plan_of, defScope st_accept_plan_of, [], []⟩
def dd_accept_nearest : DefD := ⟨("accept_nearest", none), "accept_nearest", "accept_nearest", defArgs st_accept_nearest, defBody st_accept_nearest, defScope st_accept_nearest, [], []⟩
def dd_fewest_colours : DefD := ⟨("fewest_colours", none), "fewest_colours", "fewest_colours", defArgs st_fewest_colours, defBody st_fewest_colours, defScope st_fewest_colours, [], []⟩
def dd_accept_colours : DefD := ⟨("accept_colours", none), "accept_colours", "accept_colours", defArgs st_accept_colours, defBody st_accept_colours, defScope st_accept_colours, [], []⟩
def dd_reduced : DefD := ⟨("reduced", none), "reduced", "reduced", defArgs st_reduced, defBody st_reduced, defScope st_reduced, [], []⟩
def dd_normal : DefD := ⟨("normal", none), "normal", "normal", defArgs st_normal, defBody st_normal, defScope st_normal, [], []⟩
def dd_symmetries : DefD := ⟨("symmetries", none), "symmetries", "symmetries", defArgs st_symmetries, defBody st_symmetries, defScope st_symmetries, [], []⟩
def dd_classes : DefD := ⟨("classes", none), "classes", "classes", defArgs st_classes, defBody st_classes, defScope st_classes, [], []⟩
def dd_is_even : DefD := ⟨("is_even", none), "is_even", "is_even", defArgs st_is_even, defBody st_is_even, defScope st_is_even, [], []⟩
def dd_turned : DefD := ⟨("turned", none), "turned", "turned", defArgs st_turned, defBody st_turned, defScope st_turned, [], []⟩
def dd_compare : DefD := ⟨("compare", none), "compare", "compare", defArgs st_compare, defBody st_compare, defScope st_compare, [], []⟩
def dd_accept_compare : DefD := ⟨("accept_compare", none), "accept_compare", "accept_compare", defArgs st_accept_compare, defBody st_accept_compare, defScope st_accept_compare, [], []⟩
def dd_unstacked : DefD := ⟨("unstacked", none), "unstacked", "unstacked", defArgs st_unstacked, defBody st_unstacked, defScope st_unstacked, [], []⟩
def dd_loosest : DefD := ⟨("loosest", none), "loosest", "loosest", defArgs st_loosest, defBody st_loosest, defScope st_loosest, [], []⟩
def dd_folded : DefD := ⟨("folded", none), "folded", "folded", defArgs st_folded, defBody st_folded, defScope st_folded, [], []⟩
def dd_twill_step : DefD := ⟨("twill_step", none), "twill_step", "twill_step", defArgs st_twill_step, defBody st_twill_step, defScope st_twill_step, [], []⟩
def dd_accept_twill_step : DefD := ⟨("accept_twill_step", none), "accept_twill_step", "accept_twill_step", defArgs st_accept_twill_step, defBody st_accept_twill_step, defScope st_accept_twill_step, [], []⟩
def dd_family : DefD := ⟨("family", none), "family", "family", defArgs st_family, defBody st_family, defScope st_family, [], []⟩
def dd_bends : DefD := ⟨("bends", none), "bends", "bends", defArgs st_bends, defBody st_bends, defScope st_bends, [], []⟩
def dd_lengths : DefD := ⟨("lengths", none), "lengths", "lengths", defArgs st_lengths, defBody st_lengths, defScope st_lengths, [], []⟩
def dd_amounts : DefD := ⟨("amounts", none), "amounts", "amounts", defArgs st_amounts, defBody st_amounts, defScope st_amounts, [], []⟩
def dd_woven : DefD := ⟨("woven", none), "woven", "woven", defArgs st_woven, defBody st_woven, defScope st_woven, [], []⟩
def dd_tidy : DefD := ⟨("tidy", none), "tidy", "tidy", defArgs st_tidy, defBody st_tidy, defScope st_tidy, [], []⟩
def dd_turned_draft : DefD := ⟨("turned_draft", none), "turned_draft", "turned_draft", defArgs st_turned_draft, defBody st_turned_draft, defScope st_turned_draft, [], []⟩
def dd_reordered : DefD := ⟨("reordered", none), "reordered", "reordered", defArgs st_reordered, defBody st_reordered, defScope st_reordered, [], []⟩
def dd_fewest_steps : DefD := ⟨("fewest_steps", none), "fewest_steps", "fewest_steps", defArgs st_fewest_steps, defBody st_fewest_steps, defScope st_fewest_steps, [], []⟩
def dd_step_table : DefD := ⟨("step_table", none), "step_table", "step_table", defArgs st_step_table, defBody st_step_table, defScope st_step_table, [], []⟩
def dd_accept_step_table : DefD := ⟨("accept_step_table", none), "accept_step_table", "accept_step_table", defArgs st_accept_step_table, defBody st_accept_step_table, defScope st_accept_step_table, [], []⟩
def dd_steps_of : DefD := ⟨("steps_of", none), "steps_of", "steps_of", defArgs st_steps_of, defBody st_steps_of, defScope st_steps_of, [], []⟩
def dd__law_draws : DefD := ⟨("_law_draws", none), "_law_draws", "_law_draws", defArgs st__law_draws, defBody st__law_draws, defScope st__law_draws, [], []⟩
def dd__law_more : DefD := ⟨("_law_more", none), "_law_more", "_law_more", defArgs st__law_more, defBody st__law_more, defScope st__law_more, [], []⟩
def dd__law_take : DefD := ⟨("_law_take", none), "_law_take", "_law_take", defArgs st__law_take, defBody st__law_take, defScope st__law_take, [], []⟩
def dd__law_one : DefD := ⟨("_law_one", none), "_law_one", "_law_one", defArgs st__law_one, defBody st__law_one, defScope st__law_one, [], []⟩
def dd__law_row : DefD := ⟨("_law_row", none), "_law_row", "_law_row", defArgs st__law_row, defBody st__law_row, defScope st__law_row, [], []⟩
def dd__law_planted : DefD := ⟨("_law_planted", none), "_law_planted", "_law_planted", defArgs st__law_planted, defBody st__law_planted, defScope st__law_planted, [], []⟩
def dd__law_sized : DefD := ⟨("_law_sized", none), "_law_sized", "_law_sized", defArgs st__law_sized, defBody st__law_sized, defScope st__law_sized, [], []⟩
def dd__law_cloth : DefD := ⟨("_law_cloth", none), "_law_cloth", "_law_cloth", defArgs st__law_cloth, defBody st__law_cloth, defScope st__law_cloth, [], []⟩
def dd__law_called_0 : DefD := ⟨("_law_called_0", none), "_law_called_0", "_law_called_0", defArgs st__law_called_0, defBody st__law_called_0, defScope st__law_called_0, [], []⟩
def dd__law_called_1 : DefD := ⟨("_law_called_1", none), "_law_called_1", "_law_called_1", defArgs st__law_called_1, defBody st__law_called_1, defScope st__law_called_1, [], []⟩
def dd__law_called_5 : DefD := ⟨("_law_called_5", none), "_law_called_5", "_law_called_5", defArgs st__law_called_5, defBody st__law_called_5, defScope st__law_called_5, [], []⟩
def dd__law_told : DefD := ⟨("_law_told", none), "_law_told", "_law_told", defArgs st__law_told, defBody st__law_told, defScope st__law_told, [], []⟩
def dd__law_second : DefD := ⟨("_law_second", none), "_law_second", "_law_second", defArgs st__law_second, defBody st__law_second, defScope st__law_second, [], []⟩
def dd__law_wrong_cloth : DefD := ⟨("_law_wrong_cloth", none), "_law_wrong_cloth", "_law_wrong_cloth", defArgs st__law_wrong_cloth, defBody st__law_wrong_cloth, defScope st__law_wrong_cloth, [], []⟩
def dd__law_draft : DefD := ⟨("_law_draft", none), "_law_draft", "_law_draft", defArgs st__law_draft, defBody st__law_draft, defScope st__law_draft, [], []⟩
def dd__law_wrong_draft : DefD := ⟨("_law_wrong_draft", none), "_law_wrong_draft", "_law_wrong_draft", defArgs st__law_wrong_draft, defBody st__law_wrong_draft, defScope st__law_wrong_draft, [], []⟩
def dd_law : DefD := ⟨("law", none), "law", "law", defArgs st_law, defBody st_law, defScope st_law, [], []⟩
def fnL : List DefD := ([dd_is_integer, dd_in_range, dd_is_ascending, dd_check_cloth, dd_check_draft, dd_needs, dd_drawn, dd_fewest_treadles, dd_accept_treadles, dd_lifted_with, dd_can_be_lifted, dd_layers, dd_parted, dd_hangs_together, dd_falls_by_sums] : List DefD) ++ ([dd_accept_together, dd_demand_piece, dd_apart_without, dd_weak_threads, dd_most_chains, dd_accept_chains, dd_strength, dd_accept_strength, dd_floats, dd_longest, dd_face_of, dd_interlacings, dd_too_long, dd_picture, dd_picture_behind] : List DefD) ++ ([dd_plan_of, dd_tallies, dd_nearest, dd_accept_plan_of, dd_accept_nearest, dd_fewest_colours, dd_accept_colours, dd_reduced, dd_normal, dd_symmetries, dd_classes, dd_is_even, dd_turned, dd_compare, dd_accept_compare] : List DefD) ++ ([dd_unstacked, dd_loosest, dd_folded, dd_twill_step, dd_accept_twill_step, dd_family, dd_bends, dd_lengths, dd_amounts, dd_woven, dd_tidy, dd_turned_draft, dd_reordered, dd_fewest_steps, dd_step_table] : List DefD) ++ ([dd_accept_step_table, dd_steps_of, dd__law_draws, dd__law_more, dd__law_take, dd__law_one, dd__law_row, dd__law_planted, dd__law_sized, dd__law_cloth, dd__law_called_0, dd__law_called_1, dd__law_called_5, dd__law_told, dd__law_second] : List DefD) ++ ([dd__law_wrong_cloth, dd__law_draft, dd__law_wrong_draft, dd_law] : List DefD)
def faL : List Fa := ([.glo "is_integer", .glo "in_range", .glo "is_ascending", .glo "check_cloth", .glo "check_draft", .glo "needs", .glo "drawn", .glo "fewest_treadles", .glo "accept_treadles", .glo "lifted_with", .glo "can_be_lifted", .glo "layers", .glo "parted", .glo "hangs_together", .glo "falls_by_sums"] : List Fa) ++ ([.glo "accept_together", .glo "demand_piece", .glo "apart_without", .glo "weak_threads", .glo "most_chains", .glo "accept_chains", .glo "strength", .glo "accept_strength", .glo "floats", .glo "longest", .glo "face_of", .glo "interlacings", .glo "too_long", .glo "picture", .glo "picture_behind"] : List Fa) ++ ([.glo "plan_of", .glo "tallies", .glo "nearest", .glo "accept_plan_of", .glo "accept_nearest", .glo "fewest_colours", .glo "accept_colours", .glo "reduced", .glo "normal", .glo "symmetries", .glo "classes", .glo "is_even", .glo "turned", .glo "compare", .glo "accept_compare"] : List Fa) ++ ([.glo "unstacked", .glo "loosest", .glo "folded", .glo "twill_step", .glo "accept_twill_step", .glo "family", .glo "bends", .glo "lengths", .glo "amounts", .glo "woven", .glo "tidy", .glo "turned_draft", .glo "reordered", .glo "fewest_steps", .glo "step_table"] : List Fa) ++ ([.glo "accept_step_table", .glo "steps_of", .glo "_law_draws", .glo "_law_more", .glo "_law_take", .glo "_law_one", .glo "_law_row", .glo "_law_planted", .glo "_law_sized", .glo "_law_cloth", .glo "_law_called_0", .glo "_law_called_1", .glo "_law_called_5", .glo "_law_told", .glo "_law_second"] : List Fa) ++ ([.glo "_law_wrong_cloth", .glo "_law_draft", .glo "_law_wrong_draft", .glo "law", .glo "ClothError", .glo "DraftError", .glo "WeaveError", .free "isinstance", .free "len", .free "tuple", .free "all", .free "zip", .free "range", .free "int", .free "abs"] : List Fa) ++ ([.free "list", .free "str", .free "bool", .free "ValueError", .int "MAX_ENDS" 24, .int "MAX_PICKS" 24, .int "MAX_SHAFTS" 16, .int "MAX_TREADLES" 16, .exm "ClothError" "WeaveError" true, .exm "DraftError" "WeaveError" true, .exm "ClothError" "ClothError" true] : List Fa)
def ipos : InPos := ⟨⟨29, 17, 29, 21⟩, ⟨29, 23, 29, 29⟩, [⟨30, 8, 30, 13⟩, ⟨30, 8, 30, 15⟩, ⟨30, 8, 30, 24⟩, ⟨30, 25, 30, 31⟩, ⟨30, 8, 30, 32⟩, ⟨30, 8, 30, 32⟩, ⟨31, 8, 31, 12⟩, ⟨31, 8, 31, 19⟩, ⟨31, 22, 31, 28⟩, ⟨31, 8, 31, 28⟩]⟩
def hk : HkD := { P := PySem.Challenge.pw_hangstogether_k05_wrong_cloths_ahead_of, fs := (["is_integer", "in_range", "is_ascending", "check_cloth", "check_draft", "needs", "drawn", "fewest_treadles", "accept_treadles", "lifted_with", "can_be_lifted", "layers", "parted", "hangs_together", "falls_by_sums"] : List Str) ++ (["accept_together", "demand_piece", "apart_without", "weak_threads", "most_chains", "accept_chains", "strength", "accept_strength", "floats", "longest", "face_of", "interlacings", "too_long", "picture", "picture_behind"] : List Str) ++ (["plan_of", "tallies", "nearest", "accept_plan_of", "accept_nearest", "fewest_colours", "accept_colours", "reduced", "normal", "symmetries", "classes", "is_even", "turned", "compare", "accept_compare"] : List Str) ++ (["unstacked", "loosest", "folded", "twill_step", "accept_twill_step", "family", "bends", "lengths", "amounts", "woven", "tidy", "turned_draft", "reordered", "fewest_steps", "step_table"] : List Str) ++ (["accept_step_table", "steps_of", "_law_draws", "_law_more", "_law_take", "_law_one", "_law_row", "_law_planted", "_law_sized", "_law_cloth", "_law_called_0", "_law_called_1", "_law_called_5", "_law_told", "_law_second"] : List Str) ++ (["_law_wrong_cloth", "_law_draft", "_law_wrong_draft", "law"] : List Str), cs := (["WeaveError", "ReasonError", "ClothError", "DraftError"] : List Str), fa := faL, fn := fnL, es := ["ClothError", "DraftError"], base := "ReasonError", kits := [("ClothError", .inr "ClothError", true), ("ClothError", .inl "ValueError", true), ("DraftError", .inr "ClothError", false), ("DraftError", .inr "DraftError", true)], ip := ipos }
abbrev R : PySem.W.OpenRow := PySem.W.OpenLaw.row PySem.Challenge.rw_hangstogether_k05_wrong_cloths_ahead_of
abbrev qv : Program := PySem.W.view R.prog [211]
def names : List Str := (["is_integer", "in_range", "same_value", "is_ascending", "columns_of", "first_places", "WeaveError", "ReasonError", "ClothError", "DraftError", "ArgumentError", "PaperError", "TooMany", "MAX_ENDS", "MAX_PICKS"] : List Str) ++ (["MAX_SHAFTS", "MAX_TREADLES", "MAX_NAME", "MAX_CHOICES", "MAX_TIES", "MAX_PIECE", "MAX_PAIRS", "MAX_STACK", "MAX_GAP", "MAX_REPEATS", "check_cloth", "check_draft", "rest_of", "is_period", "least_period"] : List Str) ++ (["reduced_of", "reduced", "complement", "by_way", "moved", "all_ways", "by_turn", "turns_of", "is_turn", "turned", "least_form", "normal", "compare", "accept_compare", "symmetries_of"] : List Str) ++ (["symmetries", "carried_to", "classes", "is_even", "is_colour", "are_colours", "demand_plan", "is_picture", "demand_picture", "shown", "colour_of", "picture_of", "other_side", "picture", "picture_behind"] : List Str) ++ (["threads_of", "threads_of_colours", "places_of", "colours_at", "plan_from", "plan_of", "is_place", "clashes", "accept_plan_of", "tally", "tallies", "wrong_in", "nearest", "accept_nearest", "demand_pairs"] : List Str) ++ (["Unlike", "Search", "proof", "proof_contrast", "closes", "closes_contrast", "numbered", "fewest_colours", "is_numbered", "accept_colours", "threads_of_layers", "is_thread", "lies_above", "above_of", "lifted_from"] : List Str) ++ (["in_order", "demand_threads", "lifted_with", "can_be_lifted", "layers", "way_up", "closed_chain", "hangs_together", "accept_together", "part_of", "parted", "falls_by_sums", "demand_piece", "lifted_without", "first_lifted"] : List Str) ++ (["apart_without", "weak_threads", "Flow", "demand_pair", "flow_of", "most_chains", "are_chains", "accept_chains", "is_cut", "pairs_of", "strength", "accept_strength", "size_of", "crossing", "stacked_of"] : List Str) ++ (["unstacked", "loosest", "folded", "lifted", "woven_of", "woven", "needs", "drawn_of", "drawn", "turned_draft", "is_order", "reordered", "tidy", "moved_row", "divisor"] : List Str) ++ (["satin_steps", "steps_between", "twill_step", "accept_twill_step", "lengths_of", "family", "runs_of", "floats_of", "floats", "longest", "too_long", "face_of", "interlacings", "Needs", "cover"] : List Str) ++ (["looked_at", "proof_pressing", "closes_pressing", "least_cover", "draft_of", "fewest_treadles", "accept_treadles", "FEET", "sets_for", "cost_of", "rows_of", "due_entry", "step_table", "accept_step_table", "fewest_steps"] : List Str) ++ (["steps_of", "fraction", "plus", "times", "demand_measures", "bends_of", "bends", "length_of", "lengths", "amounts", "_law_draws", "_law_more", "_law_take", "_law_one", "_law_row"] : List Str) ++ (["_law_planted", "_law_sized", "_law_cloth", "_law_called_0", "_law_called_1", "_law_called_5", "_law_told", "_law_second", "_law_wrong_cloth", "_law_draft", "_law_wrong_draft"] : List Str)
end K5

set_option Elab.async false
set_option linter.all false
set_option maxRecDepth 100000
set_option maxHeartbeats 0
/-! the run, small looks -/
namespace K5
open PySem PySem.Spec PyProof.Rows L2 He HX PySem.W HandSHeadRun
theorem apart3 {α β γ δ : Type} {x : Option α} {f : α → β} {g : α → γ} {h : α → δ} {a : β} {b : γ} {c : δ} (q : x.map (fun s => (f s, g s, h s)) = some (a, b, c)) : x.map f = some a ∧ x.map g = some b ∧ x.map h = some c := by
  cases x with
  | none => cases q
  | some s =>
    obtain ⟨q1, q2⟩ := Prod.mk.inj (Option.some.inj q)
    obtain ⟨q2, q3⟩ := Prod.mk.inj q2
    exact ⟨congrArg some q1, congrArg some q2, congrArg some q3⟩
theorem apart2 {α β γ : Type} {x : Option α} {f : α → β} {g : α → γ} {a : β} {b : γ} (q : x.map (fun s => (f s, g s)) = some (a, b)) : x.map f = some a ∧ x.map g = some b := by
  cases x with
  | none => cases q
  | some s =>
    obtain ⟨q1, q2⟩ := Prod.mk.inj (Option.some.inj q)
    exact ⟨congrArg some q1, congrArg some q2⟩
theorem runABG (w : World) (os : OsState) : (endF (stepQ (denQ tabQ) R.prog w) 8000 R.prog w os).map (fun s => (staticsOk (importedModules R.prog.main.body) (boot_heap w.params) s.abs.heap && gensDone s.abs && laidKept (boot_heap w.params) s.abs.heap, (s.abs.heap.isNs mainGlobals, s.abs.heap.nsKeys mainGlobals), seenQ qv names (importedModules R.prog.main.body) (fun s => xlAt qv [] s && recOk R.toRowW.records s) s.abs)) = some (true, (true, (boot_heap w.params).nsKeys mainGlobals ++ (names ++ (["law"] : List PySem.Str))), (openGood qv names)) := by
  kernel_rfl
theorem runCF (w : World) (os : OsState) : (endF (stepQ (denQ tabQ) R.prog w) 8000 R.prog w os).map (fun s => ((fun K => hk.fa.all fun f => f.ok K) (kG hk s), (hk.obsG (getT s)).2)) = some (true, hk.val.2) := by
  kernel_rfl
theorem runD (w : World) (os : OsState) : (endF (stepQ (denQ tabQ) R.prog w) 8000 R.prog w os).map (fun s => (fun K => (((hk.fn.take 39).all fun d => d.ok K), (hk.fn.take 39).map fun d => fnW K d.at_)) (kG hk s)) = some (true, (hk.fn.take 39).map DefD.val) := by
  kernel_rfl
theorem runE (w : World) (os : OsState) : (endF (stepQ (denQ tabQ) R.prog w) 8000 R.prog w os).map (fun s => (fun K => (((hk.fn.drop 39).all fun d => d.ok K), (hk.fn.drop 39).map fun d => fnW K d.at_)) (kG hk s)) = some (true, (hk.fn.drop 39).map DefD.val) := by
  kernel_rfl
theorem keysB (w : World) : (((boot_heap w.params).nsKeys mainGlobals ++ (names ++ (["law"] : List PySem.Str))).all fun k => startupNames.contains k || R.prog.boundNames.contains k) = true := by
  kernel_rfl
theorem run (w : World) : RunEq R qv hk.hook (fun s => hk.obsG (getT s)) 8000 names w := fun os =>
  let q := apart3 (runABG w os)
  let p := apart2 (runCF w os)
  three (join1 q.1 q.2.1 (keysB w)) q.2.2 (join3 39 p.1 (runD w os) (runE w os) p.2)
end K5
/-! the end: a law from its def's promise -/
namespace K5
open PySem PySem.Spec PyProof.Rows L2 He HX PySem.W HandSHeadRun PySem.Calls
theorem by_law {k : Nat} {sp : PySem.W.Frag → Sp} (hr : Room k callerA)
    (hsp : ∀ (K : PySem.W.Frag) (H : Hp) (a : Addr) (ns : List Int), ns.length ≤ 63 → Only H → SqL K H a (ns.map V.int) → sp K [.ref a] H (fun v _ => v = .bl true) fun _ _ _ => False)
    (F : ∀ (w : World) (K : PySem.W.Frag) (mg : Str → Option Value) (h : Heap), K.In h → h.Ns mainGlobals mg → hk.Says K → mg ("law" : Str) = some (.ref (ga K "law")) →
      ∃ fd : FuncData, (∀ (s : Shared) (u : Value), BindsTo s fd ⟨[u], []⟩ [("script", u)]) ∧
        ∀ base : Heap, K.In base → base.Ns mainGlobals mg → FnOk PySem.Challenge.pw_hangstogether_k05_wrong_cloths_ahead_of w K mg base CX0 k (ga K "law") fd ["script"] (sp K)) :
    PySem.Challenge.rw_hangstogether_k05_wrong_cloths_ahead_of.Holds := by
  w_on; o_law
  refine head_any (r := OpenLaw.row PySem.Challenge.rw_hangstogether_k05_wrong_cloths_ahead_of) (q := K5.qv) (H := K5.hk.hook) (ob := fun s => K5.hk.obsG (getT s)) (M := 8000) (loose := K5.names) (d := topDef (OpenLaw.row PySem.Challenge.rw_hangstogether_k05_wrong_cloths_ahead_of).prog 211) (kwd := []) (fun s => K5.hk.obsG_eq (getT_eq s))
    (by kernel_rfl) (fun s => by kernel_rfl) K5.run (by kernel_rfl) (by kernel_rfl) (by kernel_rfl) (by rfl) (by first | assumption | decide +kernel) (by decide +kernel) ⟨rfl, rfl, rfl, rfl, rfl, by decide +kernel⟩ ?hw ?hc
  case hw => w_witness2
  case hc =>
    refine L2.walk_ofE (l := PySem.Challenge.rw_hangstogether_k05_wrong_cloths_ahead_of) (n := 63) (k := k) (x := "script") (CX := L2.CX0) rfl (by decide) (by kernel_rfl) hr ?F (fun _ _ _ _ z => z)
    intro w mg fa h Y G hmg0
    obtain ⟨K, KX, c⟩ := Y
    have hmg : mg ("law" : PySem.Str) = some (.ref fa) := by
      have e : (topDef (OpenLaw.row PySem.Challenge.rw_hangstogether_k05_wrong_cloths_ahead_of).prog 211).name = ("law" : PySem.Str) := by kernel_rfl
      rw [← e]
      exact hmg0
    have hga : mg ("law" : PySem.Str) = some (.ref (ga K "law")) := glo_ok KX G (c.d.fact 78 (f := .glo "law") rfl)
    have ef : fa = ga K "law" := Value.ref.inj (Option.some.inj (hmg.symm.trans hga))
    subst ef
    obtain ⟨fd, hb, hF⟩ := F w K mg h KX G c hga
    exact ⟨K, fd, sp K, KX, hb, fun H a ns hl ho hS => hsp K H a ns hl ho hS, hF⟩
end K5

set_option Elab.async false
set_option linter.all false
set_option maxRecDepth 100000
set_option maxHeartbeats 2000000
/-! values as data (no lists within), what a reading gives as data -/
namespace DX
open PySem PySem.Spec PyProof.Rows L2
mutual
inductive Td (K : PySem.W.Frag) (H : Hp) : V → PyData → Prop
  | non : Td K H .non .none
  | bl (b : Bool) : Td K H (.bl b) (.bool b)
  | int (i : Int) : Td K H (.int i) (.int i)
  | str (x : Str) : Td K H (.str x) (.str x)
  | tup {a : Addr} {xs : List V} {ds : List PyData} : SqT K H a xs → TdAll K H xs ds → Td K H (.ref a) (.tuple ds)
inductive TdAll (K : PySem.W.Frag) (H : Hp) : List V → List PyData → Prop
  | nil : TdAll K H [] []
  | cons {v : V} {vs : List V} {d : PyData} {ds : List PyData} : Td K H v d → TdAll K H vs ds → TdAll K H (v :: vs) (d :: ds)
end
/-- how the heap may go on -/
structure HR (K : PySem.W.Frag) where
  R : Hp → Hp → Prop
  good : Hp → Prop
  ok : Addr → Prop
  refl : ∀ {H}, good H → R H H
  trans : ∀ {H H1 H2}, R H H1 → R H1 H2 → R H H2
  g2 : ∀ {H H'}, R H H' → good H'
  keep : ∀ {H H' p o}, R H H' → ok p → H p = some o → H' p = some o
  fresh : ∀ {H p}, good H → H p = none → ok p
  mu : ∀ {H H' p o}, R H H' → H p = none → R H (upd H' p o)
  tup : ∀ {H H' a xs}, R H H' → SqT K H a xs → SqT K H' a xs
  back : ∀ {H H' p}, R H H' → H' p = none → H p = none
/-- all that is tracked stays -/
def hrE (K : PySem.W.Frag) : HR K where
  R := Evl.Ex
  good := fun _ => True
  ok := fun _ => True
  refl := fun _ => Evl.Ex.refl _
  trans := Evl.Ex.trans
  g2 := fun _ => trivial
  keep := fun e _ h => e _ _ h
  fresh := fun _ _ => trivial
  mu := Evl.Ex.mut
  tup := Evl.ex_t
  back := Evl.fresh_back
/-- the counter at a goes on -/
def Cnt (a : Addr) (H : Hp) : Prop := ∃ n : Nat, H a = some (.lst [.int (n : Int)])
def hrG (K : PySem.W.Frag) (a : Addr) : HR K where
  R := fun H H' => Cnt a H ∧ Cnt a H' ∧ ∀ p o, p ≠ a → H p = some o → H' p = some o
  good := Cnt a
  ok := fun p => p ≠ a
  refl := fun g => ⟨g, g, fun _ _ _ h => h⟩
  trans := fun x y => ⟨x.1, y.2.1, fun p o n h => y.2.2 p o n (x.2.2 p o n h)⟩
  g2 := fun x => x.2.1
  keep := fun x n h => x.2.2 _ _ n h
  fresh := fun ⟨n, g⟩ h e => by rw [e, g] at h; cases h
  mu := fun {H H' p o} x h => by
    obtain ⟨g1, ⟨n, g2⟩, k⟩ := x
    have hp : p ≠ a := fun e => by
      obtain ⟨m, g⟩ := g1
      rw [e, g] at h
      cases h
    refine ⟨g1, ⟨n, by rw [upd_ne (Ne.symm hp)]; exact g2⟩, fun q u hq e => ?_⟩
    rw [upd_ne (ne_of_none e h)]
    exact k q u hq e
  tup := fun {H H' b xs} x h => by
    obtain ⟨⟨n, g⟩, _, k⟩ := x
    have nb : ∀ u, H b = some u → (∀ xs, u ≠ .lst xs) → b ≠ a := fun u e hu z => by
      rw [z, g] at e
      exact hu _ (Option.some.inj e).symm
    rcases h with (h | ⟨o, h⟩) | h
    · exact .inl (.inl (k _ _ (nb _ h (fun _ z => by cases z)) h))
    · exact .inl (.inr ⟨o, k _ _ (nb _ h (fun _ z => by cases z)) h⟩)
    · exact .inr h
  back := fun {H H' p} x h => by
    cases e : H p with
    | none => rfl
    | some o =>
      by_cases hp : p = a
      · obtain ⟨_, ⟨n, g⟩, _⟩ := x
        rw [hp, g] at h
        cases h
      · rw [x.2.2 p o hp e] at h
        cases h
section
variable {K : PySem.W.Frag}
mutual
theorem Td.monoT {H H' : Hp} (k : ∀ a xs, SqT K H a xs → SqT K H' a xs) : ∀ (d : PyData) {v : V}, Td K H v d → Td K H' v d
  | .none, _, h => by cases h; exact .non
  | .bool b, _, h => by cases h; exact .bl b
  | .int i, _, h => by cases h; exact .int i
  | .str x, _, h => by cases h; exact .str x
  | .list ds, _, h => by cases h
  | .tuple ds, _, h => by
    cases h with
    | tup hs ha => exact .tup (k _ _ hs) (TdAll.monoT k ds ha)
  | .dict _, _, h => by cases h
theorem TdAll.monoT {H H' : Hp} (k : ∀ a xs, SqT K H a xs → SqT K H' a xs) : ∀ (ds : List PyData) {vs : List V}, TdAll K H vs ds → TdAll K H' vs ds
  | [], _, h => by cases h; exact .nil
  | d :: ds, _, h => by
    cases h with
    | cons h1 h2 => exact .cons (Td.monoT k d h1) (TdAll.monoT k ds h2)
end
theorem Td.mono (ρ : HR K) {H H' : Hp} (e : ρ.R H H') (d : PyData) {v : V} (h : Td K H v d) : Td K H' v d := Td.monoT (fun _ _ z => ρ.tup e z) d h
theorem TdAll.mono (ρ : HR K) {H H' : Hp} (e : ρ.R H H') (ds : List PyData) {vs : List V} (h : TdAll K H vs ds) : TdAll K H' vs ds := TdAll.monoT (fun _ _ z => ρ.tup e z) ds h
theorem sqT_updL {H : Hp} {D : Addr} {u w : List V} (hD : H D = some (.lst u)) (a : Addr) (xs : List V) (h : SqT K H a xs) : SqT K (upd H D (.lst w)) a xs := by
  have nb : ∀ z, H a = some z → (∀ l, z ≠ .lst l) → a ≠ D := fun z e hz q => by
    rw [q, hD] at e
    exact hz _ (Option.some.inj e).symm
  rcases h with (h | ⟨o, h⟩) | h
  · exact .inl (.inl ((upd_ne (nb _ h (fun _ z => by cases z))).trans h))
  · exact .inl (.inr ⟨o, (upd_ne (nb _ h (fun _ z => by cases z))).trans h⟩)
  · exact .inr h
mutual
theorem Td.dp {H : Hp} : ∀ (d : PyData) {v : V}, Td K H v d → Dp K H v d
  | .none, _, h => by cases h; exact .non
  | .bool b, _, h => by cases h; exact .bl b
  | .int i, _, h => by cases h; exact .int i
  | .str x, _, h => by cases h; exact .str x
  | .list ds, _, h => by cases h
  | .tuple ds, _, h => by
    cases h with
    | tup hs ha => exact .tup hs (TdAll.dp ds ha)
  | .dict _, _, h => by cases h
theorem TdAll.dp {H : Hp} : ∀ (ds : List PyData) {vs : List V}, TdAll K H vs ds → DpAll K H vs ds
  | [], _, h => by cases h; exact .nil
  | d :: ds, _, h => by
    cases h with
    | cons h1 h2 => exact .cons (Td.dp d h1) (TdAll.dp ds h2)
end
theorem TdAll.len {H : Hp} : ∀ {ds : List PyData} {vs : List V}, TdAll K H vs ds → vs.length = ds.length
  | [], _, h => by cases h; rfl
  | _ :: _, _, h => by
    cases h with
    | cons _ h2 => simp [TdAll.len h2]
theorem TdAll.get {H : Hp} : ∀ {ds : List PyData} {vs : List V} {i : Nat} {v : V}, TdAll K H vs ds → vs[i]? = some v → ∃ d, ds[i]? = some d ∧ Td K H v d
  | [], _, _, _, h, e => by cases h; simp at e
  | d :: ds, _, 0, _, h, e => by
    cases h with
    | cons h1 h2 => simp at e; subst e; exact ⟨d, rfl, h1⟩
  | d :: ds, _, i + 1, _, h, e => by
    cases h with
    | cons h1 h2 => exact TdAll.get (i := i) h2 (by simpa using e)
theorem TdAll.getD {H : Hp} : ∀ {ds : List PyData} {vs : List V} {i : Nat} {d : PyData}, TdAll K H vs ds → ds[i]? = some d → ∃ v, vs[i]? = some v ∧ Td K H v d
  | [], _, _, _, h, e => by simp at e
  | d :: ds, _, 0, _, h, e => by
    cases h with
    | cons h1 h2 => simp at e; subst e; exact ⟨_, rfl, h1⟩
  | d :: ds, _, i + 1, _, h, e => by
    cases h with
    | cons h1 h2 => exact TdAll.getD (i := i) h2 (by simpa using e)
theorem TdAll.app {H : Hp} : ∀ {ds es : List PyData} {vs ws : List V}, TdAll K H vs ds → TdAll K H ws es → TdAll K H (vs ++ ws) (ds ++ es)
  | [], _, _, _, h, k => by cases h; exact k
  | _ :: _, _, _, _, h, k => by
    cases h with
    | cons h1 h2 => exact .cons h1 (TdAll.app h2 k)
theorem TdAll.drop {H : Hp} : ∀ (n : Nat) {ds : List PyData} {vs : List V}, TdAll K H vs ds → TdAll K H (vs.drop n) (ds.drop n)
  | 0, _, _, h => h
  | n + 1, [], _, h => by cases h; exact .nil
  | n + 1, _ :: _, _, h => by
    cases h with
    | cons h1 h2 => exact TdAll.drop n h2
theorem TdAll.take {H : Hp} : ∀ (n : Nat) {ds : List PyData} {vs : List V}, TdAll K H vs ds → TdAll K H (vs.take n) (ds.take n)
  | 0, _, _, _ => .nil
  | n + 1, [], _, h => by cases h; exact .nil
  | n + 1, _ :: _, _, h => by
    cases h with
    | cons h1 h2 => exact .cons h1 (TdAll.take n h2)
theorem TdAll.rep {H : Hp} {ds : List PyData} {vs : List V} (h : TdAll K H vs ds) : ∀ n : Nat, TdAll K H (List.replicate n vs).flatten (List.replicate n ds).flatten
  | 0 => .nil
  | n + 1 => by
    rw [List.replicate_succ, List.replicate_succ, List.flatten_cons, List.flatten_cons]
    exact h.app (TdAll.rep h n)
theorem TdAll.nil_iff {H : Hp} {ds : List PyData} {vs : List V} (h : TdAll K H vs ds) : vs = [] ↔ ds = [] := by
  cases h <;> simp
theorem TdAll.ints {H : Hp} : ∀ (is : List Int), TdAll K H (is.map V.int) (is.map PyData.int)
  | [] => .nil
  | i :: is => .cons (.int i) (TdAll.ints is)
theorem TdAll.bls {H : Hp} : ∀ {bs : List Bool} {vs : List V}, TdAll K H vs (bs.map PyData.bool) → vs = bs.map V.bl
  | [], _, h => by cases h; rfl
  | b :: bs, _, h => by
    cases h with
    | cons h1 h2 => cases h1; rw [TdAll.bls h2]; rfl
/-! what a reading gives -/
variable (ρ : HR K)
def EvD (te : TE) (σ : L2.St) (H : Hp) (d : PyData) : Prop := ∀ H1, ρ.R H H1 → ∀ Q : VK, (∀ v H2, ρ.R H1 H2 → Td K H2 v d → Q v H2) → te σ H1 Q
/-- it gives some data of which P holds -/
def EvP (te : TE) (σ : L2.St) (H : Hp) (P : PyData → Prop) : Prop := ∀ H1, ρ.R H H1 → ∀ Q : VK, (∀ v d H2, ρ.R H1 H2 → Td K H2 v d → P d → Q v H2) → te σ H1 Q
def EvDs (ta : TA) (σ : L2.St) (H : Hp) (ds : List PyData) : Prop := ∀ H1, ρ.R H H1 → ∀ Q : List V → Hp → Prop, (∀ vs H2, ρ.R H1 H2 → TdAll K H2 vs ds → Q vs H2) → ta σ H1 Q
def EvB (tt : TT) (σ : L2.St) (H : Hp) (b : Bool) : Prop := ∀ H1, ρ.R H H1 → ∀ Q : Bool → Hp → Prop, (∀ H2, ρ.R H1 H2 → Q b H2) → tt σ H1 Q
/-- a new list of data -/
def EvL (te : TE) (σ : L2.St) (H : Hp) (ds : List PyData) : Prop := ∀ H1, ρ.R H H1 → ∀ Q : VK, (∀ p xs H2, H1 p = none → ρ.R H1 H2 → H2 p = some (.lst xs) → TdAll K H2 xs ds → Q (.ref p) H2) → te σ H1 Q
def EvO (to : TO) (σ : L2.St) (H : Hp) (o : Option Int) : Prop := ∀ H1, ρ.R H H1 → ∀ Q : Option Int → Hp → Prop, (∀ H2, ρ.R H1 H2 → Q o H2) → to σ H1 Q
variable {ρ} {te ta tb : TE} {tt tu : TT} {σ : L2.St} {H H' : Hp} {d x y z : PyData} {ds es : List PyData} {tsa : TA}
theorem EvD.mono (h : EvD ρ te σ H d) (e : ρ.R H H') : EvD ρ te σ H' d := fun H1 a => h H1 (ρ.trans e a)
theorem EvB.mono {b : Bool} (h : EvB ρ tt σ H b) (e : ρ.R H H') : EvB ρ tt σ H' b := fun H1 a => h H1 (ρ.trans e a)
theorem EvDs.mono (h : EvDs ρ tsa σ H ds) (e : ρ.R H H') : EvDs ρ tsa σ H' ds := fun H1 a => h H1 (ρ.trans e a)
theorem EvL.mono (h : EvL ρ te σ H ds) (e : ρ.R H H') : EvL ρ te σ H' ds := fun H1 a => h H1 (ρ.trans e a)
theorem ed_var {i : Nat} {v : V} (h : σ[i]? = some (some v)) (t : Td K H v d) : EvD ρ (tVar i) σ H d := fun H1 a Q q => ⟨v, h, q v H1 (ρ.refl (ρ.g2 a)) (Td.mono ρ a d t)⟩
theorem ed_int {i : Int} : EvD ρ (tC (.int i)) σ H (.int i) := fun H1 a Q q => q _ H1 (ρ.refl (ρ.g2 a)) (.int i)
theorem ed_str {s : Str} : EvD ρ (tC (.str s)) σ H (.str s) := fun H1 a Q q => q _ H1 (ρ.refl (ρ.g2 a)) (.str s)
theorem ed_bl {b : Bool} : EvD ρ (tC (.bl b)) σ H (.bool b) := fun H1 a Q q => q _ H1 (ρ.refl (ρ.g2 a)) (.bl b)
theorem ed_non : EvD ρ (tC .non) σ H .none := fun H1 a Q q => q _ H1 (ρ.refl (ρ.g2 a)) .non
theorem es_nil : EvDs ρ tNil σ H [] := fun H1 a Q q => q _ H1 (ρ.refl (ρ.g2 a)) .nil
theorem es_cons (h : EvD ρ te σ H d) (k : EvDs ρ tsa σ H ds) : EvDs ρ (tCons te tsa) σ H (d :: ds) := fun H1 a Q q =>
  h H1 a _ fun v H2 e2 t => k H2 (ρ.trans a e2) _ fun vs H3 e3 ts => q _ H3 (ρ.trans e2 e3) (.cons (Td.mono ρ e3 d t) ts)
theorem ed_tup (h : EvDs ρ tsa σ H ds) (hl : ds.length ≤ 100000) : EvD ρ (tTup tsa) σ H (.tuple ds) := fun H1 a Q q =>
  h H1 a _ fun vs H2 e2 ts => ⟨by rw [ts.len]; exact Evl.sz_of hl, fun p hp => by
    have e3 : ρ.R H2 (upd H2 p (.tup vs)) := ρ.mu (ρ.refl (ρ.g2 e2)) hp
    exact q _ _ (ρ.trans e2 e3) (.tup (Evl.st_of upd_same) (TdAll.mono ρ e3 ds ts))⟩
theorem el_lst (h : EvDs ρ tsa σ H ds) (hl : ds.length ≤ 100000) : EvL ρ (tLst tsa) σ H ds := fun H1 a Q q =>
  h H1 a _ fun vs H2 e2 ts => ⟨by rw [ts.len]; exact Evl.sz_of hl, fun p hp => by
    have e3 : ρ.R H2 (upd H2 p (.lst vs)) := ρ.mu (ρ.refl (ρ.g2 e2)) hp
    exact q p vs _ (ρ.back e2 hp) (ρ.trans e2 e3) upd_same (TdAll.mono ρ e3 ds ts)⟩
theorem ed_op {r : R2} (ha : EvD ρ ta σ H x) (hb : EvD ρ tb σ H y)
    (hr : ∀ v w H1 (Q : VK), ρ.good H1 → Td K H1 v x → Td K H1 w y → (∀ u H2, ρ.R H1 H2 → Td K H2 u z → Q u H2) → r v w H1 Q) : EvD ρ (tOp r ta tb) σ H z := fun H1 a Q q =>
  ha H1 a _ fun v H2 e2 tv => hb H2 (ρ.trans a e2) _ fun w H3 e3 tw => hr v w H3 Q (ρ.g2 e3) (Td.mono ρ e3 x tv) tw fun u H4 e4 tu => q u H4 (ρ.trans e2 (ρ.trans e3 e4)) tu
theorem ed_cat (ha : EvD ρ ta σ H (.tuple ds)) (hb : EvD ρ tb σ H (.tuple es)) (hl : ds.length + es.length ≤ 100000) : EvD ρ (tOp (rCatA K) ta tb) σ H (.tuple (ds ++ es)) :=
  ed_op ha hb fun v w H1 Q g tv tw q => by
    cases tv with
    | tup hs hd =>
      cases tw with
      | tup ht he =>
        refine ⟨_, _, _, _, rfl, rfl, hs, ht, by rw [hd.len, he.len]; exact Evl.sz_of hl, fun z => ?_, fun z1 z2 => ?_, fun z1 z2 p hp => ?_⟩
        · have : ds = [] := hd.nil_iff.mp z
          subst this
          exact q _ _ (ρ.refl g) (.tup ht he)
        · have : es = [] := he.nil_iff.mp z2
          subst this
          rw [List.append_nil] at q
          exact q _ _ (ρ.refl g) (.tup hs hd)
        · have e3 := fun o => ρ.mu (o := o) (ρ.refl g) hp
          exact q _ _ (e3 _) (.tup (Evl.st_of upd_same) (TdAll.mono ρ (e3 _) _ (hd.app he)))
theorem ed_rep {k : Int} (ha : EvD ρ ta σ H (.tuple ds)) (hb : EvD ρ tb σ H (.int k)) (h0 : ds ≠ []) (hk : 2 ≤ k ∧ k ≤ 1000) (hl : ds.length ≤ 1000) : EvD ρ (tOp (rRepT K) ta tb) σ H (.tuple (List.replicate k.toNat ds).flatten) :=
  ed_op ha hb fun v w H1 Q g tv tw q => by
    cases tv with
    | tup hs hd =>
      cases tw
      refine ⟨_, _, _, rfl, rfl, hs, fun z => h0 (hd.nil_iff.mp z), hk.1, hk.2, by rw [hd.len]; exact hl, fun p hp => ?_⟩
      have e3 := fun o => ρ.mu (o := o) (ρ.refl g) hp
      exact q _ _ (e3 _) (.tup (Evl.st_of upd_same) (TdAll.mono ρ (e3 _) _ (hd.rep _)))
theorem eo_none : EvO ρ tNoPart σ H none := fun H1 a _ q => q H1 (ρ.refl (ρ.g2 a))
theorem eo_some {i : Int} (h : EvD ρ te σ H (.int i)) : EvO ρ (tPart te) σ H (some i) := fun H1 a _ q => h H1 a _ fun v H2 e2 t => by
  cases t
  exact ⟨i, rfl, q H2 e2⟩
/-- a slice of a list -/
def cutD (xs : List PyData) (lo hi : Option Int) : List PyData := (xs.drop (HT.sIx xs.length 0 lo)).take (HT.sIx xs.length xs.length hi - HT.sIx xs.length 0 lo)
theorem ed_sl {tl th : TO} {lo hi : Option Int} (h : EvD ρ te σ H (.tuple ds)) (h1 : EvO ρ tl σ H lo) (h2 : EvO ρ th σ H hi) : EvD ρ (tSl (rSlA K) te tl th) σ H (.tuple (cutD ds lo hi)) := fun H1 a Q q =>
  h H1 a _ fun v H2 e2 t => h1 H2 (ρ.trans a e2) _ fun H3 e3 => h2 H3 (ρ.trans a (ρ.trans e2 e3)) _ fun H4 e4 => by
    have e24 := ρ.trans e3 e4
    have t4 := Td.mono ρ e24 _ t
    have e14 := ρ.trans e2 e24
    cases t4 with
    | tup hs hd =>
      have ln := hd.len
      refine ⟨_, _, rfl, hs, fun z => ?_, fun z p hp => ?_⟩
      · have : cutD ds lo hi = ds := by
          unfold cutD
          rw [← ln, z.1, z.2]
          simp [ln]
        rw [this] at q
        exact q _ _ e14 (.tup hs hd)
      · have e5 := fun o => ρ.mu (o := o) (ρ.refl (ρ.g2 e4)) hp
        refine q _ _ (ρ.trans e14 (e5 _)) (.tup (Evl.st_of upd_same) ?_)
        rename_i aa xx
        have hc := TdAll.take (HT.sIx ds.length ds.length hi - HT.sIx ds.length 0 lo) (TdAll.drop (HT.sIx ds.length 0 lo) hd)
        have : cutV xx lo hi = (List.drop (HT.sIx ds.length 0 lo) xx).take (HT.sIx ds.length ds.length hi - HT.sIx ds.length 0 lo) := by
          unfold cutV
          rw [ln]
        rw [this]
        exact TdAll.mono ρ (e5 _) _ hc
theorem ed_ix {i : Int} (ha : EvD ρ ta σ H (.tuple ds)) (hb : EvD ρ tb σ H (.int i)) (hi : atI ds i = some d) : EvD ρ (tOp (rIxT K) ta tb) σ H d :=
  ed_op ha hb fun v w H1 Q g tv tw q => by
    cases tv with
    | @tup a xs _ hs hd =>
      cases tw
      unfold atI at hi
      rw [← hd.len] at hi
      cases e : ixN xs.length i with
      | none => rw [e] at hi; cases hi
      | some j =>
        rw [e] at hi
        obtain ⟨u, hu, tu⟩ := hd.getD (i := j) hi
        refine ⟨_, _, _, u, rfl, rfl, hs, ?_, q u H1 (ρ.refl g) tu⟩
        unfold atI
        rw [e]
        exact hu
end
end DX

set_option Elab.async false
set_option linter.all false
set_option maxRecDepth 100000
set_option maxHeartbeats 2000000
/-! what readings give as data: tests, built-ins, comprehensions -/
namespace DX
open PySem PySem.Spec PyProof.Rows L2
section
variable {K : PySem.W.Frag} {ρ : HR K} {te ta tb tc : TE} {tt tu : TT} {σ : L2.St} {H H' : Hp} {d x y z : PyData} {ds es : List PyData} {tsa : TA}
def tyN : PyData → String
  | .none => "NoneType"
  | .bool _ => "bool"
  | .int _ => "int"
  | .str _ => "str"
  | .list _ => "list"
  | .tuple _ => "tuple"
  | .dict _ => "dict"
theorem Td.ty {v : V} (t : Td K H v d) : TyX K H v (.type (tyN d)) := by
  cases t with
  | non => exact .base .non
  | bl b => exact .base (.bl b)
  | int i => exact .base (.int i)
  | str s => exact .base (.str s)
  | tup hs ha =>
    rcases hs with (h | ⟨o, h⟩) | ⟨o, its, n, hl, hc, hd, hz, hv⟩
    · exact .base (.tup h)
    · exact .fTuple h
    · exact .kTuple hl hc
theorem ed_isi {T : String} {b : Bool} (h : EvD ρ te σ H d) (hk : kitB (tyN d) T = some b) : EvD ρ (tCB (rIsi K) (tCons te (tCons (tC (.ty T)) tNil))) σ H (.bool b) := fun H1 a Q q =>
  h H1 a _ fun v H2 e2 t => ⟨v, .ty T, _, _, b, rfl, .ty T, t.ty, kit_ty hk, q _ H2 e2 (.bl b)⟩
/-- len's reading -/
abbrev rLen2 (K : PySem.W.Frag) : List V → Hp → VK → Prop := fun xs H Q => ∃ p ys, xs = [.ref p] ∧ (SqL K H p ys ∨ SqT K H p ys) ∧ Q (.int ys.length) H
theorem ed_len (h : EvD ρ te σ H (.tuple ds)) : EvD ρ (tCB (rLen2 K) (tCons te tNil)) σ H (.int ds.length) := fun H1 a Q q =>
  h H1 a _ fun v H2 e2 t => by
    cases t with
    | tup hs hd => exact ⟨_, _, rfl, .inr hs, by rw [hd.len]; exact q _ H2 e2 (.int _)⟩
theorem eb_val {b : Bool} (h : EvD ρ te σ H (.bool b)) : EvB ρ (tB te) σ H b := fun H1 a Q q => h H1 a _ fun v H2 e2 t => by
  cases t
  exact ⟨b, rfl, q H2 e2⟩
theorem eb_test {b : Bool} (h : EvD ρ te σ H (.bool b)) : EvB ρ (tTest te) σ H b := fun H1 a Q q => h H1 a _ fun v H2 e2 t => by
  cases t
  exact ⟨b, rfl, q H2 e2⟩
theorem eb_yes : EvB ρ tYes σ H true := fun H1 a Q q => q H1 (ρ.refl (ρ.g2 a))
theorem eb_not {b : Bool} (h : EvB ρ tt σ H b) : EvB ρ (tNot tt) σ H (!b) := fun H1 a Q q => h H1 a _ fun H2 e2 => q H2 e2
theorem eb_or {a b : Bool} (h : EvB ρ tt σ H a) (k : a = false → EvB ρ tu σ H b) : EvB ρ (tOr tt tu) σ H (a || b) := fun H1 e Q q => h H1 e _ fun H2 e2 => by
  cases a with
  | true => exact iteT (q H2 e2)
  | false => exact iteF (k rfl H2 (ρ.trans e e2) _ fun H3 e3 => q H3 (ρ.trans e2 e3))
theorem eb_and {a b : Bool} (h : EvB ρ tt σ H a) (k : a = true → EvB ρ tu σ H b) : EvB ρ (tAnd tt tu) σ H (a && b) := fun H1 e Q q => h H1 e _ fun H2 e2 => by
  cases a with
  | false => exact iteF (q H2 e2)
  | true => exact iteT (k rfl H2 (ρ.trans e e2) _ fun H3 e3 => q H3 (ρ.trans e2 e3))
theorem ed_and {a b : Bool} (h : EvD ρ ta σ H (.bool a)) (k : a = true → EvD ρ tb σ H (.bool b)) : EvD ρ (tAndV ta tb) σ H (.bool (a && b)) := fun H1 e Q q => h H1 e _ fun v H2 e2 t => by
  cases t
  refine ⟨a, rfl, ?_⟩
  cases a with
  | false => exact iteF (q _ H2 e2 (.bl false))
  | true => exact iteT (k rfl H2 (ρ.trans e e2) _ fun v H3 e3 t3 => q v H3 (ρ.trans e2 e3) t3)
theorem ed_notV {a : Bool} (h : EvD ρ ta σ H (.bool a)) : EvD ρ (tNotV ta) σ H (.bool (!a)) := fun H1 e Q q => h H1 e _ fun v H2 e2 t => by
  cases t
  exact ⟨a, rfl, q _ H2 e2 (.bl _)⟩
theorem ed_ifx {b : Bool} (h : EvB ρ tt σ H b) (h1 : b = true → EvD ρ ta σ H d) (h2 : b = false → EvD ρ tb σ H d) : EvD ρ (tIf tt ta tb) σ H d := fun H1 e Q q => h H1 e _ fun H2 e2 => by
  cases b with
  | true => exact iteT (h1 rfl H2 (ρ.trans e e2) _ fun v H3 e3 t => q v H3 (ρ.trans e2 e3) t)
  | false => exact iteF (h2 rfl H2 (ρ.trans e e2) _ fun v H3 e3 t => q v H3 (ρ.trans e2 e3) t)
theorem ed_cmp {p : Int → Int → Bool} {i j : Int} (ha : EvD ρ ta σ H (.int i)) (hb : EvD ρ tb σ H (.int j)) : EvD ρ (tOp (rI0 fun i j => .bl (p i j)) ta tb) σ H (.bool (p i j)) :=
  ed_op ha hb fun v w H1 Q g tv tw q => by
    cases tv
    cases tw
    exact ⟨i, j, rfl, rfl, q _ H1 (ρ.refl g) (.bl _)⟩
theorem ed_ari {p : Int → Int → Int} {i j : Int} (ha : EvD ρ ta σ H (.int i)) (hb : EvD ρ tb σ H (.int j)) : EvD ρ (tOp (rI0 fun i j => .int (p i j)) ta tb) σ H (.int (p i j)) :=
  ed_op ha hb fun v w H1 Q g tv tw q => by
    cases tv
    cases tw
    exact ⟨i, j, rfl, rfl, q _ H1 (ρ.refl g) (.int _)⟩
theorem ed_ariC {C : Int → Int → Prop} {p : Int → Int → Int} {i j : Int} (ha : EvD ρ ta σ H (.int i)) (hb : EvD ρ tb σ H (.int j)) (hc : C i j) : EvD ρ (tOp (rI C fun i j => .int (p i j)) ta tb) σ H (.int (p i j)) :=
  ed_op ha hb fun v w H1 Q g tv tw q => by
    cases tv
    cases tw
    exact ⟨i, j, rfl, rfl, hc, q _ H1 (ρ.refl g) (.int _)⟩
theorem ed_eqI {i j : Int} (ha : EvD ρ ta σ H (.int i)) (hb : EvD ρ tb σ H (.int j)) : EvD ρ (tOp rEq ta tb) σ H (.bool (decide (i = j))) :=
  ed_op ha hb fun v w H1 Q g tv tw q => by
    cases tv
    cases tw
    refine ⟨rfl, ?_⟩
    rw [show decide ((V.int i) = V.int j) = decide (i = j) from by simp]
    exact q _ H1 (ρ.refl g) (.bl _)
theorem ed_neI {i j : Int} (ha : EvD ρ ta σ H (.int i)) (hb : EvD ρ tb σ H (.int j)) : EvD ρ (tOp rNe ta tb) σ H (.bool (!decide (i = j))) :=
  ed_op ha hb fun v w H1 Q g tv tw q => by
    cases tv
    cases tw
    refine ⟨rfl, ?_⟩
    rw [show decide ((V.int i) = V.int j) = decide (i = j) from by simp]
    exact q _ H1 (ρ.refl g) (.bl _)
theorem ed_chain {p q : Int → Int → Bool} {i j k : Int} (ha : EvD ρ ta σ H (.int i)) (hb : EvD ρ tb σ H (.int j)) (hc : EvD ρ tc σ H (.int k)) :
    EvD ρ (tChain (rI0 fun i j => .bl (p i j)) (rI0 fun i j => .bl (q i j)) ta tb tc) σ H (.bool (p i j && q j k)) := fun H1 e Q w => ha H1 e _ fun v H2 e2 t => hb H2 (ρ.trans e e2) _ fun v2 H3 e3 t3 => by
  cases t
  cases t3
  refine ⟨i, j, rfl, rfl, _, rfl, ?_⟩
  have e13 := ρ.trans e2 e3
  cases hp : p i j with
  | false => exact iteF (w _ H3 e13 (by rw [hp]; exact .bl false))
  | true => exact iteT (hc H3 (ρ.trans e e13) _ fun v4 H4 e4 t4 => by
      cases t4
      exact ⟨j, k, rfl, rfl, w _ H4 (ρ.trans e13 e4) (by rw [hp]; exact .bl _)⟩)
theorem ed_all {bs : List Bool} (h : EvL ρ te σ H (bs.map PyData.bool)) : EvD ρ (tCB (rAll K) (tCons te tNil)) σ H (.bool (bs.all id)) := fun H1 a Q q => h H1 a _ fun p xs H2 hp e2 hx ht => by
  have e := ht.bls
  subst e
  exact ⟨p, bs, rfl, Evl.sq_of hx, q _ H2 e2 (.bl _)⟩
theorem ed_tupL (h : EvL ρ te σ H ds) : EvD ρ (tThen te (kTup K)) σ H (.tuple ds) := fun H1 a Q q => h H1 a _ fun p xs H2 hp e2 hx ht => .inl ⟨p, xs, rfl, Evl.sq_of hx, fun r hr => by
  have e3 := fun o => ρ.mu (o := o) (ρ.refl (ρ.g2 e2)) hr
  exact q _ _ (ρ.trans e2 (e3 _)) (.tup (Evl.st_of upd_same) (TdAll.mono ρ (e3 _) _ ht))⟩
/-- one more item of a list that is being made -/
theorem more_item {H0 H4 : Hp} {D : Addr} {acc : List V} {v : V} (e4 : ρ.R H0 H4) (hD : H0 D = none) (h4 : H4 D = some (.lst acc)) (ta : TdAll K H4 acc ds) (tv : Td K H4 v d) :
    ρ.R H0 (upd H4 D (.lst (acc ++ [v]))) ∧ upd H4 D (.lst (acc ++ [v])) D = some (.lst (acc ++ [v])) ∧ TdAll K (upd H4 D (.lst (acc ++ [v]))) (acc ++ [v]) (ds ++ [d]) :=
  ⟨ρ.mu e4 hD, upd_same, TdAll.monoT (sqT_updL h4) _ (ta.app (.cons tv .nil))⟩
theorem take_one {α : Type} {l : List α} {i : Nat} {a : α} (h : l[i]? = some a) : l.take (i + 1) = l.take i ++ [a] := by
  rw [List.take_succ, h]
  rfl
/-- [e for x in t if ..], t a tuple of data -/
theorem el_lcT {tl : TE} {j : Nat} {vs : List Nat} (t : PyData → Bool) (e : PyData → PyData) (h : EvD ρ tl σ H (.tuple ds)) (hz : ds.length ≤ 40000) (hw : ∀ x, wipe ((wipe σ vs).set j (some x)) vs = wipe σ vs)
    (ht : ∀ d ∈ ds, ∀ v H1, ρ.R H H1 → Td K H1 v d → EvB ρ tt ((wipe σ vs).set j (some v)) H1 (t d))
    (he : ∀ d ∈ ds, t d = true → ∀ v H1, ρ.R H H1 → Td K H1 v d → EvD ρ te ((wipe σ vs).set j (some v)) H1 (e d)) :
    EvL ρ (tLc (iTup K tl) (gName j) tt te vs) σ H ((ds.filter t).map e) := fun H1 a Q q => h H1 a _ fun v H2 e2 td => by
  cases td with
  | @tup ad xs _ hs hd =>
    refine ⟨ad, rfl, ⟨xs, hs⟩, fun D hD => ?_⟩
    refine lc_tup (K := K) (a := ad) (xs := xs) (fun i H' => ∃ acc, ρ.R H2 H' ∧ H' D = some (.lst acc) ∧ TdAll K H' acc (((ds.take i).filter t).map e)) ⟨[], ρ.mu (ρ.refl (ρ.g2 e2)) hD, upd_same, .nil⟩ (fun i H' _ ⟨_, r, _⟩ => ρ.tup r hs) ?_ ?_
    · rintro i x H' hx ⟨acc, r, hl, ta⟩
      obtain ⟨d, hdi, tx⟩ := hd.get hx
      have mem : d ∈ ds := List.mem_of_getElem? hdi
      have r1 := ρ.trans a (ρ.trans e2 r)
      have tx' := Td.mono ρ r d tx
      refine ⟨hw x, ht d mem x H' r1 tx' H' (ρ.refl (ρ.g2 r)) _ fun H3 e3 => ?_⟩
      have okD := ρ.fresh (ρ.g2 e2) hD
      have hlen : acc.length < 50000 := by
        rw [ta.len, List.length_map]
        refine Nat.lt_of_le_of_lt (List.length_filter_le _ _) ?_
        rw [List.length_take]
        omega
      cases htd : t d with
      | false =>
        refine iteF ⟨acc, ρ.trans r e3, ρ.keep e3 okD hl, ?_⟩
        rw [take_one hdi, List.filter_append, show [d].filter t = [] by simp [htd], List.append_nil]
        exact TdAll.mono ρ e3 _ ta
      | true =>
        refine iteT (he d mem htd x H3 (ρ.trans r1 e3) (Td.mono ρ e3 d tx') H3 (ρ.refl (ρ.g2 e3)) _ fun y H4 e4 ty => ?_)
        have e34 := ρ.trans e3 e4
        have h4 := ρ.keep e34 okD hl
        refine ⟨acc, h4, Evl.sz_lt (by omega), ?_⟩
        obtain ⟨m1, m2, m3⟩ := more_item (ρ.trans r e34) hD h4 (TdAll.mono ρ e34 _ ta) ty
        refine ⟨acc ++ [y], m1, m2, ?_⟩
        rw [take_one hdi, List.filter_append, show [d].filter t = [d] by simp [htd], List.map_append]
        exact m3
    · rintro H' ⟨acc, r, hl, ta⟩
      rw [show ds.take xs.length = ds by rw [hd.len, List.take_length]] at ta
      exact q D acc H' (ρ.back e2 hD) (ρ.trans e2 r) hl ta
theorem el_lcT0 {tl : TE} {j : Nat} {vs : List Nat} (e : PyData → PyData) (h : EvD ρ tl σ H (.tuple ds)) (hz : ds.length ≤ 40000) (hw : ∀ x, wipe ((wipe σ vs).set j (some x)) vs = wipe σ vs)
    (he : ∀ d ∈ ds, ∀ v H1, ρ.R H H1 → Td K H1 v d → EvD ρ te ((wipe σ vs).set j (some v)) H1 (e d)) :
    EvL ρ (tLc (iTup K tl) (gName j) tYes te vs) σ H (ds.map e) := by
  have z := el_lcT (tt := tYes) (fun _ => true) e h hz hw (fun _ _ _ _ _ _ => eb_yes) (fun d hd _ => he d hd)
  rw [List.filter_eq_self.mpr (fun _ _ => rfl)] at z
  exact z
theorem EvL.is {es : List PyData} (h : EvL ρ te σ H ds) (e : ds = es) : EvL ρ te σ H es := e ▸ h
theorem EvD.is {e : PyData} (h : EvD ρ te σ H d) (q : d = e) : EvD ρ te σ H e := q ▸ h
theorem EvB.is {a b : Bool} (h : EvB ρ tt σ H a) (q : a = b) : EvB ρ tt σ H b := q ▸ h
/-- the items of a row -/
def rowOf : PyData → List PyData
  | .tuple ds => ds
  | _ => []
/-- [e for r in t for x in r], t a tuple of rows -/
theorem el_lc2T {tl tl1 : TE} {j j1 : Nat} {vs vs1 : List Nat} (e : PyData → PyData) (h : EvD ρ tl σ H (.tuple ds)) (hz : ds.length ≤ 1000) (hrow : ∀ d ∈ ds, ∃ rs, d = .tuple rs ∧ rs.length ≤ 1000)
    (hw : ∀ x, wipe ((wipe σ vs).set j (some x)) vs = wipe σ vs) (hw1 : ∀ x y, wipe ((wipe ((wipe σ vs).set j (some x)) vs1).set j1 (some y)) vs1 = wipe ((wipe σ vs).set j (some x)) vs1)
    (h1 : ∀ d ∈ ds, ∀ v H1, ρ.R H H1 → Td K H1 v d → EvD ρ tl1 ((wipe σ vs).set j (some v)) H1 d)
    (he : ∀ d ∈ ds, ∀ x ∈ rowOf d, ∀ v u H1, ρ.R H H1 → Td K H1 v d → Td K H1 u x → EvD ρ te ((wipe ((wipe σ vs).set j (some v)) vs1).set j1 (some u)) H1 (e x)) :
    EvL ρ (tLc2 (iTup K tl) (gName j) tYes (iTup K tl1) (gName j1) tYes te vs vs1) σ H ((ds.flatMap rowOf).map e) := fun H1 a Q q => h H1 a _ fun v H2 e2 td => by
  cases td with
  | @tup ad xs _ hs hd =>
    refine ⟨ad, rfl, ⟨xs, hs⟩, fun D hD => ?_⟩
    have okD := ρ.fresh (ρ.g2 e2) hD
    have cut : ∀ i, (ds.take i).length ≤ 1000 := fun i => by rw [List.length_take]; omega
    have small : ∀ l : List PyData, l.length ≤ 1000 → (∀ d ∈ l, d ∈ ds) → (l.flatMap rowOf).length ≤ l.length * 1000 := by
      intro l
      induction l with
      | nil => intro _ _; simp
      | cons d l ih =>
        intro hl hm
        rw [List.flatMap_cons, List.length_append, List.length_cons]
        have := ih (by simp at hl; omega) (fun d hd => hm d (List.mem_cons_of_mem _ hd))
        obtain ⟨rs, er, hr⟩ := hrow d (hm d List.mem_cons_self)
        have : (rowOf d).length ≤ 1000 := by rw [er]; exact hr
        omega
    have lenA : ∀ (i j : Nat) (acc : List V) (H' : Hp) (rs : List PyData), rs.length ≤ 1000 → TdAll K H' acc ((((ds.take i).flatMap rowOf) ++ rs.take j).map e) → acc.length < 2000000 := fun i j acc H' rs hr ta => by
      rw [ta.len, List.length_map, List.length_append, List.length_take]
      have := small (ds.take i) (cut i) (fun d hd => List.mem_of_mem_take hd)
      have := cut i
      have : (ds.take i).length * 1000 ≤ 1000 * 1000 := Nat.mul_le_mul_right _ (cut i)
      omega
    refine ⟨fun i m H' => m = xs.length - i ∧ i ≤ xs.length ∧ ∃ acc, ρ.R H2 H' ∧ H' D = some (.lst acc) ∧ TdAll K H' acc (((ds.take i).flatMap rowOf).map e),
      ⟨xs.length, by simp, Nat.zero_le _, [], ρ.mu (ρ.refl (ρ.g2 e2)) hD, upd_same, .nil⟩, ?_⟩
    rintro i m H' ⟨rfl, hi, acc, r, hl, ta⟩
    have hs' := ρ.tup r hs
    by_cases hlt : i < xs.length
    · refine .inr ⟨⟨xs, xs[i], hs', by simp [hlt]⟩, fun H' => ∃ acc, ρ.R H2 H' ∧ H' D = some (.lst acc) ∧ TdAll K H' acc (((ds.take (i + 1)).flatMap rowOf).map e),
        fun H' p' => ⟨xs.length - (i + 1), by omega, rfl, hlt, p'⟩, fun x H3 y => ?_⟩
      obtain ⟨y1, y2⟩ := y
      subst y1
      have hx := y2 xs hs'
      obtain ⟨d, hdi, tx⟩ := hd.get hx
      have mem : d ∈ ds := List.mem_of_getElem? hdi
      obtain ⟨rs, rfl, hr⟩ := hrow d mem
      have r1 := ρ.trans a (ρ.trans e2 r)
      have tx' := Td.mono ρ r _ tx
      refine ⟨hw x, ?_⟩
      dsimp only [tYes]
      rw [if_pos rfl]
      refine h1 _ mem x _ r1 tx' _ (ρ.refl (ρ.g2 r)) _ fun w H4 e4 tw => ?_
      cases tw with
      | @tup ar ys _ hys hyd =>
        refine ⟨ar, rfl, ⟨ys, hys⟩, ?_⟩
        have e4' := ρ.trans r e4
        refine ⟨fun k m H' => m = ys.length - k ∧ k ≤ ys.length ∧ ∃ acc, (∀ a xs, SqT K H4 a xs → SqT K H' a xs) ∧ ρ.R H2 H' ∧ H' D = some (.lst acc) ∧ TdAll K H' acc ((((ds.take i).flatMap rowOf) ++ rs.take k).map e), ⟨ys.length, by simp, Nat.zero_le _, acc, fun _ _ z => z, e4', ρ.keep e4 okD hl, by rw [List.take_zero, List.append_nil]; exact TdAll.mono ρ e4 _ ta⟩, ?_⟩
        rintro k m H5 ⟨rfl, hk, acc5, r45, r25, hl5, ta5⟩
        have hys5 := r45 _ _ hys
        have nextI : (ds.take (i + 1)).flatMap rowOf = (ds.take i).flatMap rowOf ++ rs := by
          rw [take_one hdi, List.flatMap_append]
          simp [rowOf]
        by_cases hlk : k < ys.length
        · refine .inr ⟨⟨ys, ys[k], hys5, by simp [hlk]⟩, fun H' => ∃ acc, (∀ a xs, SqT K H4 a xs → SqT K H' a xs) ∧ ρ.R H2 H' ∧ H' D = some (.lst acc) ∧ TdAll K H' acc ((((ds.take i).flatMap rowOf) ++ rs.take (k + 1)).map e),
            fun H' p' => ⟨ys.length - (k + 1), by omega, rfl, hlk, p'⟩, fun u H6 y => ?_⟩
          obtain ⟨y1, y2⟩ := y
          subst y1
          have hu := y2 ys hys5
          obtain ⟨du, hdu, tu⟩ := hyd.get hu
          have memu : du ∈ rowOf (.tuple rs) := List.mem_of_getElem? hdu
          refine ⟨hw1 x u, ?_⟩
          dsimp only [tYes]
          rw [if_pos rfl]
          refine he _ mem du memu x u _ (ρ.trans a (ρ.trans e2 r25)) (Td.mono ρ r25 _ tx) (Td.monoT r45 _ tu) _ (ρ.refl (ρ.g2 r25)) _ fun v7 H7 e7 t7 => ?_
          have h7 := ρ.keep e7 okD hl5
          have len5 := lenA i k acc5 _ rs hr ta5
          refine ⟨acc5, h7, Nat.lt_of_lt_of_le len5 (by rw [sizeLine_eq]; omega), ?_⟩
          obtain ⟨m1, m2, m3⟩ := more_item (ρ.trans r25 e7) hD h7 (TdAll.mono ρ e7 _ ta5) t7
          refine ⟨acc5 ++ [v7], fun a xs z => sqT_updL h7 a xs (ρ.tup e7 (r45 a xs z)), m1, m2, ?_⟩
          rw [take_one hdu, ← List.append_assoc, List.map_append]
          exact m3
        · have ek : k = ys.length := by omega
          subst ek
          refine .inl ⟨⟨ys, hys5, Nat.le_refl _⟩, acc5, r25, hl5, ?_⟩
          rw [show rs.take ys.length = rs by rw [hyd.len, List.take_length]] at ta5
          rw [nextI]
          exact ta5
    · have e : i = xs.length := by omega
      subst e
      rw [show ds.take xs.length = ds by rw [hd.len, List.take_length]] at ta
      exact .inl ⟨⟨xs, hs', Nat.le_refl _⟩, q D acc H' (ρ.back e2 hD) (ρ.trans e2 r) hl ta⟩
end
end DX

set_option Elab.async false
set_option linter.all false
set_option maxRecDepth 100000
set_option maxHeartbeats 2000000
/-! zip of two tuples in a comprehension; calls of defs over data -/
namespace DX
open PySem PySem.Spec PyProof.Rows L2
section
variable {K : PySem.W.Frag} {ρ : HR K} {te ta tb tc : TE} {tt tu : TT} {σ : L2.St} {H H' : Hp} {d x y z : PyData} {ds es : List PyData} {tsa : TA}
/-- [e for x, y in zip(t, u)], t and u tuples of data -/
theorem el_lcZ {j1 j2 : Nat} {vs : List Nat} (e : PyData → PyData → PyData) (h : EvDs ρ tsa σ H [.tuple ds, .tuple es]) (hz : ds.length ≤ 40000) (hw : ∀ x y, wipe (((wipe σ vs).set j1 (some x)).set j2 (some y)) vs = wipe σ vs)
    (he : ∀ p ∈ ds.zip es, ∀ v u H1, ρ.R H H1 → Td K H1 v p.1 → Td K H1 u p.2 → EvD ρ te (((wipe σ vs).set j1 (some v)).set j2 (some u)) H1 (e p.1 p.2)) :
    EvL ρ (tLc (RZ.iZipA K tsa) (gTup K 2 (gCons (gName j1) (gCons (gName j2) gNil))) tYes te vs) σ H ((ds.zip es).map fun p => e p.1 p.2) := fun H1 a Q q => h H1 a _ fun us H2 e2 tds => by
  cases tds with
  | cons t1 t2 =>
    cases t2 with
    | cons t2 t3 =>
      cases t3
      cases t1 with
      | @tup a1 xs _ hs1 hd1 =>
        cases t2 with
        | @tup a2 ys _ hs2 hd2 =>
          refine ⟨a1, a2, xs, ys, rfl, .inr ⟨hs1, hs2, fun D hD => ?_⟩⟩
          have okD := ρ.fresh (ρ.g2 e2) hD
          have lz : (ds.zip es).length = min xs.length ys.length := by rw [List.length_zip, hd1.len, hd2.len]
          have l1 := hd1.len
          have l2 := hd2.len
          refine ⟨fun i m H' => m = min xs.length ys.length - i ∧ i ≤ min xs.length ys.length ∧ ∃ acc, ρ.R H2 H' ∧ H' D = some (.lst acc) ∧ TdAll K H' acc (((ds.zip es).take i).map fun p => e p.1 p.2),
            ⟨min xs.length ys.length, by simp, Nat.zero_le _, [], ρ.mu (ρ.refl (ρ.g2 e2)) hD, upd_same, .nil⟩, ?_⟩
          rintro i m H' ⟨rfl, hi, acc, r, hl, ta⟩
          have k1 := ρ.tup r hs1
          have k2 := ρ.tup r hs2
          by_cases hlt : i < min xs.length ys.length
          · have b1 : i < xs.length := by omega
            have b2 : i < ys.length := by omega
            refine .inr ⟨⟨xs, ys, xs[i], ys[i], k1, k2, by simp [b1], by simp [b2]⟩, fun H' => ∃ acc, ρ.R H2 H' ∧ H' D = some (.lst acc) ∧ TdAll K H' acc (((ds.zip es).take (i + 1)).map fun p => e p.1 p.2),
              fun H' p' => ⟨min xs.length ys.length - (i + 1), by omega, rfl, hlt, p'⟩, fun v H3 yy => ?_⟩
            obtain ⟨T, x, y, rfl, hT, rfl, y1, y2⟩ := yy
            have x1 := y1 _ k1
            have x2 := y2 _ k2
            obtain ⟨dx, g1, tx⟩ := hd1.get x1
            obtain ⟨dy, g2, ty⟩ := hd2.get x2
            have gz : (ds.zip es)[i]? = some (dx, dy) := by
              rw [List.getElem?_zip_eq_some]
              exact ⟨g1, g2⟩
            have mem : (dx, dy) ∈ ds.zip es := List.mem_of_getElem? gz
            have e3 := ρ.mu (o := .tup [x, y]) (ρ.refl (ρ.g2 r)) hT
            have r3 := ρ.trans r e3
            have hl3 := ρ.keep e3 okD hl
            refine ⟨T, [x, y], rfl, Evl.st_of upd_same, rfl, x, [y], rfl, y, [], rfl, rfl, hw x y, ?_⟩
            dsimp only [tYes]
            rw [if_pos rfl]
            refine he _ mem x y _ (ρ.trans a (ρ.trans e2 r3)) (Td.mono ρ r3 _ tx) (Td.mono ρ r3 _ ty) _ (ρ.refl (ρ.g2 r3)) _ fun v4 H4 e4 t4 => ?_
            have h4 := ρ.keep e4 okD hl3
            have lacc : acc.length < 50000 := by
              rw [ta.len, List.length_map, List.length_take]
              omega
            refine ⟨acc, h4, Evl.sz_lt (by omega), ?_⟩
            obtain ⟨m1, m2, m3⟩ := more_item (ρ.trans r3 e4) hD h4 (TdAll.mono ρ (ρ.trans e3 e4) _ ta) t4
            refine ⟨acc ++ [v4], m1, m2, ?_⟩
            rw [take_one gz, List.map_append]
            exact m3
          · have ei : i = min xs.length ys.length := by omega
            subst ei
            refine .inl ⟨⟨xs, ys, k1, k2, by omega⟩, q D acc H' (ρ.back e2 hD) (ρ.trans e2 r) hl ?_⟩
            rw [← lz, List.take_length] at ta
            exact ta
/-- a def over data: f its answer -/
def SpD (K : PySem.W.Frag) (n : Nat) (f : List PyData → Option PyData) : Sp := fun vs H Q _ => ∃ ds d, TdAll K H vs ds ∧ vs.length = n ∧ f ds = some d ∧ ∀ v H', Evl.Ex H H' → Td K H' v d → Q v H'
/-- a reading that gives data whatever else goes on: what keeps all that is tracked is as good as ρ -/
theorem HR.ofEx (ρ : HR K) (hx : ∀ {H H'}, ρ.good H → Evl.Ex H H' → ρ.R H H') {H H' : Hp} (g : ρ.good H) (e : Evl.Ex H H') : ρ.R H H' := hx g e
theorem goEx {a : Addr} {H H' : Hp} (g : (hrG K a).good H) (e : Evl.Ex H H') : (hrG K a).R H H' := by
  obtain ⟨n, h⟩ := g
  exact ⟨⟨n, h⟩, ⟨n, e _ _ h⟩, fun p o _ z => e _ _ z⟩
theorem exEx {H H' : Hp} (_ : (hrE K).good H) (e : Evl.Ex H H') : (hrE K).R H H' := e
theorem ed_call (hx : ∀ {H H'}, ρ.good H → Evl.Ex H H' → ρ.R H H') {n : Nat} {f : List PyData → Option PyData} {E : XK} (h : EvDs ρ tsa σ H ds) (hl : ds.length = n) (hf : f ds = some d) : EvD ρ (tCall (SpD K n f) [] E tsa) σ H d := fun H1 a Q q =>
  h H1 a _ fun vs H2 e2 ts => by
    refine ⟨ds, d, by rw [List.append_nil]; exact ts, by rw [List.append_nil, ts.len, hl], hf, fun v H' e t => ?_⟩
    have e3 := hx (ρ.g2 e2) e
    exact q v H' (ρ.trans e2 e3) t
def isIB : PyData → Bool
  | .bool _ => true
  | .int _ => true
  | _ => false
def isBB : PyData → Bool
  | .bool _ => true
  | _ => false
def isTT : PyData → Bool
  | .tuple _ => true
  | _ => false
def isI : PyData → Bool
  | .int _ => true
  | _ => false
theorem kit_int : ∀ d : PyData, kitB (tyN d) "int" = some (isIB d)
  | .none => (by decide +kernel : kitB "NoneType" "int" = some false)
  | .bool _ => (by decide +kernel : kitB "bool" "int" = some true)
  | .int _ => (by decide +kernel : kitB "int" "int" = some true)
  | .str _ => (by decide +kernel : kitB "str" "int" = some false)
  | .list _ => (by decide +kernel : kitB "list" "int" = some false)
  | .tuple _ => (by decide +kernel : kitB "tuple" "int" = some false)
  | .dict _ => (by decide +kernel : kitB "dict" "int" = some false)
theorem kit_bool : ∀ d : PyData, kitB (tyN d) "bool" = some (isBB d)
  | .none => (by decide +kernel : kitB "NoneType" "bool" = some false)
  | .bool _ => (by decide +kernel : kitB "bool" "bool" = some true)
  | .int _ => (by decide +kernel : kitB "int" "bool" = some false)
  | .str _ => (by decide +kernel : kitB "str" "bool" = some false)
  | .list _ => (by decide +kernel : kitB "list" "bool" = some false)
  | .tuple _ => (by decide +kernel : kitB "tuple" "bool" = some false)
  | .dict _ => (by decide +kernel : kitB "dict" "bool" = some false)
theorem kit_tuple : ∀ d : PyData, kitB (tyN d) "tuple" = some (isTT d)
  | .none => (by decide +kernel : kitB "NoneType" "tuple" = some false)
  | .bool _ => (by decide +kernel : kitB "bool" "tuple" = some false)
  | .int _ => (by decide +kernel : kitB "int" "tuple" = some false)
  | .str _ => (by decide +kernel : kitB "str" "tuple" = some false)
  | .list _ => (by decide +kernel : kitB "list" "tuple" = some false)
  | .tuple _ => (by decide +kernel : kitB "tuple" "tuple" = some true)
  | .dict _ => (by decide +kernel : kitB "dict" "tuple" = some false)
theorem ed_isInt (h : EvD ρ te σ H d) : EvD ρ (tCB (rIsi K) (tCons te (tCons (tC (.ty "int")) tNil))) σ H (.bool (isIB d)) := ed_isi h (kit_int d)
theorem ed_isBool (h : EvD ρ te σ H d) : EvD ρ (tCB (rIsi K) (tCons te (tCons (tC (.ty "bool")) tNil))) σ H (.bool (isBB d)) := ed_isi h (kit_bool d)
theorem ed_isTup (h : EvD ρ te σ H d) : EvD ρ (tCB (rIsi K) (tCons te (tCons (tC (.ty "tuple")) tNil))) σ H (.bool (isTT d)) := ed_isi h (kit_tuple d)
theorem isI_eq : ∀ d : PyData, (isIB d && !isBB d) = isI d
  | .none => rfl
  | .bool _ => rfl
  | .int _ => rfl
  | .str _ => rfl
  | .list _ => rfl
  | .tuple _ => rfl
  | .dict _ => rfl
def inR (lo hi : Int) : PyData → Bool
  | .int i => decide (lo ≤ i) && decide (i ≤ hi)
  | _ => false
theorem isI_of : ∀ {d : PyData}, isI d = true → ∃ i, d = .int i
  | .int i, _ => ⟨i, rfl⟩
theorem isTT_of : ∀ {d : PyData}, isTT d = true → ∃ ds, d = .tuple ds
  | .tuple ds, _ => ⟨ds, rfl⟩
def f_is : List PyData → Option PyData
  | [d] => some (.bool (isI d))
  | _ => none
def f_in : List PyData → Option PyData
  | [d, .int lo, .int hi] => some (.bool (inR lo hi d))
  | _ => none
/-- each smaller than the next -/
def ups : List PyData → Bool
  | .int i :: .int j :: r => decide (i < j) && ups (.int j :: r)
  | _ => true
def ascR (lo hi : Int) : PyData → Bool
  | .tuple ds => ds.all (inR lo hi) && ups ds
  | _ => false
def f_asc : List PyData → Option PyData
  | [d, .int lo, .int hi] => some (.bool (ascR lo hi d))
  | _ => none
theorem sp_len {n : Nat} {f : List PyData → Option PyData} {ps : List Str} (hn : n = ps.length) : ∀ vs H Q E, SpD K n f vs H Q E → vs.length = ps.length := fun vs H Q E h => by
  obtain ⟨_, _, _, e, _⟩ := h
  rw [e, hn]
theorem ret_d {D : Ends} (g : ρ.good H) (h : EvD ρ te σ H d) (k : ∀ v H', ρ.R H H' → Td K H' v d → D.rt v H') : tRet te D σ H := h H (ρ.refl g) _ k
theorem ret_D {D : Ends} {e : PyData} (g : ρ.good H) (h : EvD ρ te σ H d) (k : ∀ v H', ρ.R H H' → Td K H' v e → D.rt v H') (q : d = e) : tRet te D σ H := h H (ρ.refl g) _ (q ▸ k)
/-- an argument list of one, two, three data -/
theorem td1 {vs : List V} {ds : List PyData} (h : TdAll K H vs ds) (hl : vs.length = 1) : ∃ v d, vs = [v] ∧ ds = [d] ∧ Td K H v d := by
  cases h with
  | nil => cases hl
  | cons h1 h2 =>
    cases h2 with
    | nil => exact ⟨_, _, rfl, rfl, h1⟩
    | cons _ _ => simp at hl
theorem td3 {vs : List V} {ds : List PyData} (h : TdAll K H vs ds) (hl : vs.length = 3) : ∃ v d v2 d2 v3 d3, vs = [v, v2, v3] ∧ ds = [d, d2, d3] ∧ Td K H v d ∧ Td K H v2 d2 ∧ Td K H v3 d3 := by
  cases h with
  | nil => cases hl
  | cons h1 h2 =>
    cases h2 with
    | nil => simp at hl
    | cons h3 h4 =>
      cases h4 with
      | nil => simp at hl
      | cons h5 h6 =>
        cases h6 with
        | nil => exact ⟨_, _, _, _, _, _, rfl, rfl, h1, h3, h5⟩
        | cons _ _ => simp at hl
theorem f3 {f : PyData → Int → Int → Bool} {d d2 d3 e : PyData} (h : (match [d, d2, d3] with | [d, .int lo, .int hi] => some (PyData.bool (f d lo hi)) | _ => none) = some e) : ∃ lo hi, d2 = .int lo ∧ d3 = .int hi ∧ e = .bool (f d lo hi) := by
  cases d2 <;> first | (cases h; done) | skip
  cases d3 <;> first | (cases h; done) | skip
  exact ⟨_, _, rfl, rfl, (Option.some.inj h).symm⟩
end
end DX

set_option Elab.async false
set_option linter.all false
set_option maxRecDepth 100000
set_option maxHeartbeats 2000000
/-! the checks' mirrors; statements over data -/
namespace DX
open PySem PySem.Spec PyProof.Rows L2 HX
/-- check_cloth's answer -/
def ckC : PyData → Option Str
  | .tuple rows => if rows.all isTT = false then some "form" else if (decide ((1 : Int) ≤ rows.length) && decide ((rows.length : Int) ≤ 24)) = false then some "picks"
    else if ((decide ((1 : Int) ≤ (rowOf (rows.headD .none)).length) && decide (((rowOf (rows.headD .none)).length : Int) ≤ 24)) && rows.all fun r => decide ((((rowOf r).length : Nat) : Int) = ((rowOf (rows.headD .none)).length : Nat))) = false then some "ends"
    else if (rows.flatMap rowOf).all (inR 0 1) = false then some "crossing" else none
  | _ => some "form"
/-- check_draft's answer -/
def ckD : PyData → Option Str
  | .tuple [.tuple th, .tuple ti, .tuple tr] => if ((decide ((1 : Int) ≤ th.length) && decide ((th.length : Int) ≤ 24)) && th.all (inR 0 15)) = false then some "threading"
    else if (decide ((ti.length : Int) ≤ 16) && ti.all (ascR 0 15)) = false then some "tieup"
    else if (decide ((1 : Int) ≤ tr.length) && decide ((tr.length : Int) ≤ 24)) = false then some "treadling"
    else if tr.all (ascR 0 ((ti.length : Int) - 1)) = false then some "treadling" else none
  | _ => some "form"
/-- no more than a thousand items in a row -/
def small : PyData → Prop
  | .tuple ds => ds.length ≤ 1000
  | _ => True
def smallAll (d : PyData) : Prop := small d ∧ ∀ x ∈ rowOf d, small x ∧ ∀ y ∈ rowOf x, small y
/-- what such a check promises -/
def spCk (K : PySem.W.Frag) (C : Addr) (ck : PyData → Option Str) : Sp := fun vs H Q E => ∃ v d, vs = [v] ∧ Td K H v d ∧ smallAll d ∧ (ck d = none → ∀ H', Evl.Ex H H' → Q .non H') ∧
  (∀ r, ck d = some r → ∀ H' dd, Evl.Ex H H' → H' dd = some (.xd [(("reason" : Str), .str r)]) → E (.ref C) (some dd) H')
theorem spCk_len {K : PySem.W.Frag} {C : Addr} {ck : PyData → Option Str} {ps : List Str} (hn : 1 = ps.length) : ∀ vs H Q E, spCk K C ck vs H Q E → vs.length = ps.length := fun vs H Q E h => by
  obtain ⟨_, _, rfl, _⟩ := h
  exact hn
section
variable {K : PySem.W.Frag} {ρ : HR K} {te ta tb tc : TE} {tt tu : TT} {σ : L2.St} {H H' : Hp} {d x y z : PyData} {ds es : List PyData} {tsa : TA} {D : Ends}
theorem ed_neg {i : Int} (h : EvD ρ te σ H (.int i)) : EvD ρ (tUn (rU fun i => .int (-i)) te) σ H (.int (-i)) := fun H1 a Q q => h H1 a _ fun v H2 e2 t => by
  cases t
  exact ⟨i, rfl, q _ H2 e2 (.int _)⟩
theorem if_d {c : TT} {t u : TS} {b : Bool} (g : ρ.good H) (h : EvB ρ c σ H b) (h1 : b = true → ∀ H1, ρ.R H H1 → t D σ H1) (h2 : b = false → ∀ H1, ρ.R H H1 → u D σ H1) : tIfS c t u D σ H := h H (ρ.refl g) _ fun H1 e => by
  cases b with
  | true => exact iteT (h1 rfl H1 e)
  | false => exact iteF (h2 rfl H1 e)
theorem raise_d {C : Addr} {W : WX} {s : Str} (g : ρ.good H) (h : EvD ρ te σ H (.str s)) (k : ∀ H' dd, ρ.R H H' → H' dd = some (.xd [(("reason" : Str), .str s)]) → W (.ref C) (some dd) σ H') : tRaiseR C W (tCons te tNil) D σ H :=
  h H (ρ.refl g) _ fun v H1 e t => by
    cases t
    exact ⟨_, rfl, fun dd hd => k _ dd (ρ.trans e (ρ.mu (ρ.refl (ρ.g2 e)) hd)) upd_same⟩
theorem atI_zero {α : Type} {x : α} {l : List α} : atI (x :: l) 0 = some x := by
  unfold atI ixN
  simp
theorem cut_init (ds : List PyData) : cutD ds none (some (-1)) = ds.dropLast := by
  have e : HT.sIx ds.length ds.length (some (-1)) = ds.length - 1 := by
    show (if (-1 : Int) < 0 then ((-1 : Int) + (ds.length : Int)).toNat else min (-1 : Int).toNat ds.length) = _
    rw [if_pos (by decide)]
    omega
  unfold cutD
  rw [e, HT.sIx_none, List.dropLast_eq_take]
  simp
theorem cut_tail (ds : List PyData) : cutD ds (some 1) none = ds.drop 1 := by
  have e : HT.sIx ds.length 0 (some 1) = min 1 ds.length := by
    show (if (1 : Int) < 0 then ((1 : Int) + (ds.length : Int)).toNat else min (1 : Int).toNat ds.length) = _
    rw [if_neg (by decide)]
    rfl
  unfold cutD
  rw [e, HT.sIx_none]
  cases ds with
  | nil => rfl
  | cons x l =>
    rw [show min 1 (x :: l).length = 1 by simp]
    simp
def ltD : PyData → PyData → Bool
  | .int i, .int j => decide (i < j)
  | _, _ => false
theorem ups_zip : ∀ {ds : List PyData}, ds.all isI = true → ((ds.dropLast.zip (ds.drop 1)).all fun p => ltD p.1 p.2) = ups ds
  | [], _ => rfl
  | [x], _ => by cases x <;> rfl
  | x :: y :: r, h => by
    rw [List.all_cons, List.all_cons] at h
    obtain ⟨hx, h2⟩ := Bool.and_eq_true_iff.mp h
    obtain ⟨hy, hr⟩ := Bool.and_eq_true_iff.mp h2
    clear h
    obtain ⟨i, rfl⟩ := isI_of hx
    obtain ⟨j, rfl⟩ := isI_of hy
    have ih := ups_zip (ds := .int j :: r) (by rw [List.all_cons]; exact h2)
    show (((PyData.int i :: (PyData.int j :: r).dropLast).zip (PyData.int j :: r)).all fun p => ltD p.1 p.2) = (decide (i < j) && ups (.int j :: r))
    rw [← ih]
    rfl
theorem inR_isI {lo hi : Int} {d : PyData} (h : inR lo hi d = true) : isI d = true := by
  cases d <;> first | rfl | cases h
theorem all_map_bool {f : PyData → Bool} (l : List PyData) : l.map (fun d => PyData.bool (f d)) = (l.map f).map PyData.bool := by
  rw [List.map_map]
  rfl
theorem all_id {f : PyData → Bool} (l : List PyData) : (l.map f).all id = l.all f := by
  rw [List.all_map]
  rfl
/-- all([e for ..]) -/
theorem ed_allM {te : TE} {f : PyData → Bool} (h : EvL ρ te σ H (ds.map fun d => .bool (f d))) : EvD ρ (tCB (rAll K) (tCons te tNil)) σ H (.bool (ds.all f)) := by
  rw [all_map_bool] at h
  exact (ed_all h).is (by rw [all_id])
end
end DX

set_option Elab.async false
set_option linter.all false
set_option maxRecDepth 100000
set_option maxHeartbeats 2000000
/-! short words for built-ins -/
namespace DX
open PySem PySem.Spec PyProof.Rows L2 HX
section
variable {X : Cx} {e : Expr} {te : TE} {p q pos : Pos}
theorem pLen (hm : X.mg "len" = none) (he : PE X e te) (hg : Gl X "len" := by rfl) (h1 : starEach (e :: []) X.env = (false, eval e X.env) :: starEach [] X.env := by rfl) (h2 : (backTo pos (starEach [] X.env)).any (·.1) = false := by rfl)
    (h3 : starEach [e] X.env = (false, eval e X.env) :: starEach [] X.env := by rfl) :
    PE X (.Call (.Name "len" p) [e] [] pos) (tCB (fun xs H Q => ∃ p ys, xs = [.ref p] ∧ (SqL X.K H p ys ∨ SqT X.K H p ys) ∧ Q (.int ys.length) H) (tCons te tNil)) :=
  pe_callB call_len_seq hg hm Boot.«len» (pa_cons he pa_nil h3) (by decide) (by decide) h1 h2
theorem pAll (hc : X.calm = true) (hm : X.mg "all" = none) (he : PE X e te) (hg : Gl X "all" := by rfl) (h1 : starEach (e :: []) X.env = (false, eval e X.env) :: starEach [] X.env := by rfl) (h2 : (backTo pos (starEach [] X.env)).any (·.1) = false := by rfl)
    (h3 : starEach [e] X.env = (false, eval e X.env) :: starEach [] X.env := by rfl) :
    PE X (.Call (.Name "all" p) [e] [] pos) (tCB (rAll X.K) (tCons te tNil)) := pe_callB (cr_all hc) hg hm Boot.«all» (pa_cons he pa_nil h3) (by decide) (by decide) h1 h2
theorem pIsTup (hm : X.mg "isinstance" = none) (ht : X.mg "tuple" = none) (he : PE X e te) (hg : Gl X "isinstance" := by rfl) (hgt : Gl X "tuple" := by rfl)
    (h1 : starEach (e :: [.Name "tuple" q]) X.env = (false, eval e X.env) :: starEach [.Name "tuple" q] X.env := by rfl) (h2 : (backTo pos (starEach [.Name "tuple" q] X.env)).any (·.1) = false := by rfl)
    (h4 : starEach [Expr.Name "tuple" q] X.env = (false, eval (.Name "tuple" q) X.env) :: starEach [] X.env := by rfl) :
    PE X (.Call (.Name "isinstance" p) [e, .Name "tuple" q] [] pos) (tCB (rIsi X.K) (tCons te (tCons (tC (.ty "tuple")) tNil))) :=
  pe_callB call_isi hg hm Boot.«isinstance» (pa_cons he (pa_cons (pe_bltn (v := .ty "tuple") hgt ht Boot.«tuple» rfl) pa_nil h4) h1) (by decide) (by decide) h1 h2
end
section
variable {K : PySem.W.Frag} {ρ : HR K} {te ta tb tc : TE} {tt tu : TT} {σ : L2.St} {H H' : Hp} {d x y z : PyData} {ds es : List PyData} {tsa : TA} {D : Ends}
theorem seq_if {c : TT} {t u v : TS} {b : Bool} (g : ρ.good H) (h : EvB ρ c σ H b) (h1 : b = true → ∀ H1, ρ.R H H1 → t { D with nx := v D } σ H1) (h2 : b = false → ∀ H1, ρ.R H H1 → u { D with nx := v D } σ H1) : tSeq (tIfS c t u) v D σ H := if_d (D := { D with nx := v D }) g h h1 h2
/-- a def over data of which pre holds -/
def SpP (K : PySem.W.Frag) (n : Nat) (pre : List PyData → Prop) (f : List PyData → Option PyData) : Sp := fun vs H Q _ => ∃ ds d, TdAll K H vs ds ∧ vs.length = n ∧ pre ds ∧ f ds = some d ∧ ∀ v H', Evl.Ex H H' → Td K H' v d → Q v H'
theorem spP_len {n : Nat} {pre : List PyData → Prop} {f : List PyData → Option PyData} {ps : List Str} (hn : n = ps.length) : ∀ vs H Q E, SpP K n pre f vs H Q E → vs.length = ps.length := fun vs H Q E h => by
  obtain ⟨_, _, _, e, _⟩ := h
  rw [e, hn]
theorem ed_callP (hx : ∀ {H H'}, ρ.good H → Evl.Ex H H' → ρ.R H H') {n : Nat} {pre : List PyData → Prop} {f : List PyData → Option PyData} {E : XK} (h : EvDs ρ tsa σ H ds) (hl : ds.length = n) (hp : pre ds) (hf : f ds = some d) : EvD ρ (tCall (SpP K n pre f) [] E tsa) σ H d := fun H1 a Q q =>
  h H1 a _ fun vs H2 e2 ts => by
    refine ⟨ds, d, by rw [List.append_nil]; exact ts, by rw [List.append_nil, ts.len, hl], hp, hf, fun v H' e t => ?_⟩
    have e3 := hx (ρ.g2 e2) e
    exact q v H' (ρ.trans e2 e3) t
theorem seq_ifN {c : TT} {t v : TS} {b : Bool} (g : ρ.good H) (h : EvB ρ c σ H b) (h1 : b = true → ∀ H1, ρ.R H H1 → t { D with nx := v D } σ H1) (h2 : b = false → ∀ H1, ρ.R H H1 → v D σ H1) : tSeq (tIfS c t tNext) v D σ H := if_d (D := { D with nx := v D }) g h h1 h2
theorem if_dN {c : TT} {t : TS} {b : Bool} (g : ρ.good H) (h : EvB ρ c σ H b) (h1 : b = true → ∀ H1, ρ.R H H1 → t D σ H1) (h2 : b = false → ∀ H1, ρ.R H H1 → D.nx σ H1) : tIfS c t tNext D σ H := if_d g h h1 h2
theorem ckC_form {rows : List PyData} (h : rows.all isTT = false) : ckC (.tuple rows) = some ("form" : Str) := by
  show (if rows.all isTT = false then some ("form" : Str) else _) = _
  rw [if_pos h]
theorem ckC_other {d : PyData} (h : isTT d = false) : ckC d = some ("form" : Str) := by
  cases d <;> first | rfl | cases h
theorem ckD_form {d : PyData} (h : ∀ th ti tr, d ≠ .tuple [.tuple th, .tuple ti, .tuple tr]) : ckD d = some ("form" : Str) := by
  unfold ckD
  split
  · exact absurd rfl (h _ _ _)
  · rfl
theorem td_three {v : V} {x y z : PyData} (t : Td K H v (.tuple [x, y, z])) : ∃ a v1 v2 v3, v = .ref a ∧ SqT K H a [v1, v2, v3] ∧ Td K H v1 x ∧ Td K H v2 y ∧ Td K H v3 z := by
  cases t with
  | tup hs hd =>
    cases hd with
    | cons t1 hd =>
      cases hd with
      | cons t2 hd =>
        cases hd with
        | cons t3 hd =>
          cases hd
          exact ⟨_, _, _, _, rfl, hs, t1, t2, t3⟩
theorem td_two {v : V} {x y : PyData} (t : Td K H v (.tuple [x, y])) : ∃ a v1 v2, v = .ref a ∧ SqT K H a [v1, v2] ∧ Td K H v1 x ∧ Td K H v2 y := by
  cases t with
  | tup hs hd =>
    cases hd with
    | cons t1 hd =>
      cases hd with
      | cons t2 hd =>
        cases hd
        exact ⟨_, _, _, rfl, hs, t1, t2⟩
theorem gt_not_le {n : Int} {m : Int} : (!decide (n ≤ m)) = decide (m < n) := by
  by_cases h : n ≤ m
  · rw [decide_eq_true h, decide_eq_false (by omega)]
    rfl
  · rw [decide_eq_false h, decide_eq_true (by omega)]
    rfl
end
end DX

set_option Elab.async false
set_option linter.all false
set_option maxRecDepth 100000
set_option maxHeartbeats 2000000
/-! what is never reached; defs whose first argument is wrong -/
namespace DX
open PySem PySem.Spec PyProof.Rows L2 HX
section
variable {X : Cx}
theorem jSs {st : List Stmt} : PSs X st (fun _ _ _ => False) := ⟨fun _ _ _ _ _ _ h => h.elim⟩
theorem jE {e : Expr} : PE X e (fun _ _ _ => False) := ⟨fun _ _ _ _ _ _ h => h.elim⟩
theorem jG {e : Expr} : PG X e (fun _ _ _ _ => False) := ⟨fun _ _ _ _ _ _ _ _ _ h => h.elim⟩
theorem jT {es : List Expr} : PTs X es (fun _ _ _ => False) := ⟨fun _ _ _ _ _ _ h => h.elim⟩
theorem jA {es : List Expr} : PA X es (fun _ _ _ => False) := ⟨fun _ _ _ _ _ _ _ h => h.elim⟩
end
/-- a wrong first argument: the check's error leaves -/
def spBad (K : PySem.W.Frag) (C : Addr) (ck : PyData → Option Str) (n : Nat) : Sp := fun vs H Q E => ∃ v rest d r, vs = v :: rest ∧ vs.length = n ∧ Td K H v d ∧ smallAll d ∧ ck d = some r ∧
  ∀ H' dd, Evl.Ex H H' → H' dd = some (.xd [(("reason" : Str), .str r)]) → E (.ref C) (some dd) H'
theorem spBad_len {K : PySem.W.Frag} {C : Addr} {ck : PyData → Option Str} {n : Nat} {ps : List Str} (hn : n = ps.length) : ∀ vs H Q E, spBad K C ck n vs H Q E → vs.length = ps.length := fun vs H Q E h => by
  obtain ⟨_, _, _, _, _, e, _⟩ := h
  rw [e, hn]
/-- a wrong first argument, or a right first and a wrong second -/
def spBad2 (K : PySem.W.Frag) (C : Addr) (ck : PyData → Option Str) (n : Nat) : Sp := fun vs H Q E => ∃ v v2 rest d r, vs = v :: v2 :: rest ∧ vs.length = n ∧ Td K H v d ∧ smallAll d ∧
  (ck d = some r ∨ (ck d = none ∧ ∃ d2, Td K H v2 d2 ∧ smallAll d2 ∧ ck d2 = some r)) ∧
  ∀ H' dd, Evl.Ex H H' → H' dd = some (.xd [(("reason" : Str), .str r)]) → E (.ref C) (some dd) H'
theorem spBad2_len {K : PySem.W.Frag} {C : Addr} {ck : PyData → Option Str} {n : Nat} {ps : List Str} (hn : n = ps.length) : ∀ vs H Q E, spBad2 K C ck n vs H Q E → vs.length = ps.length := fun vs H Q E h => by
  obtain ⟨_, _, _, _, _, _, e, _⟩ := h
  rw [e, hn]
section
variable {K : PySem.W.Frag} {C : Addr} {ck : PyData → Option Str} {v : V} {d : PyData} {r : Str} {H : Hp} {Q : VK} {E : XK}
/-- the check is asked with a wrong value -/
theorem ck_bad (t : Td K H v d) (s : smallAll d) (c : ck d = some r) (k : ∀ H' dd, Evl.Ex H H' → H' dd = some (.xd [(("reason" : Str), .str r)]) → E (.ref C) (some dd) H') : spCk K C ck [v] H Q E :=
  ⟨v, d, rfl, t, s, (fun z => by rw [c] at z; cases z), fun r' z H' dd e h => by
    rw [c] at z
    cases z
    exact k H' dd e h⟩
theorem ck_good (t : Td K H v d) (s : smallAll d) (c : ck d = none) (k : ∀ H', Evl.Ex H H' → Q .non H') : spCk K C ck [v] H Q E :=
  ⟨v, d, rfl, t, s, (fun _ => k), fun r' z => by rw [c] at z; cases z⟩
end
end DX

set_option Elab.async false
set_option linter.all false
set_option maxRecDepth 100000
set_option maxHeartbeats 2000000
/-! exact values, some data of a kind, effects by a counter -/
namespace DX
open PySem PySem.Spec PyProof.Rows L2 HX
section
variable {K : PySem.W.Frag} {ρ : HR K} {te ta tb tc tn : TE} {tt tu : TT} {σ : L2.St} {H H' : Hp} {d x y z : PyData} {ds es : List PyData} {tsa : TA} {D : Ends} {v : V}
def EvV (ρ : HR K) (te : TE) (σ : L2.St) (H : Hp) (v : V) : Prop := ∀ H1, ρ.R H H1 → ∀ Q : VK, (∀ H2, ρ.R H1 H2 → Q v H2) → te σ H1 Q
/-- a new list of data of which P holds -/
def EvLP (ρ : HR K) (te : TE) (σ : L2.St) (H : Hp) (P : List PyData → Prop) : Prop := ∀ H1, ρ.R H H1 → ∀ Q : VK, (∀ p xs ds H2, H1 p = none → ρ.R H1 H2 → H2 p = some (.lst xs) → TdAll K H2 xs ds → P ds → Q (.ref p) H2) → te σ H1 Q
theorem ev_var {i : Nat} (h : σ[i]? = some (some v)) : EvV ρ (tVar i) σ H v := fun H1 a Q q => ⟨v, h, q H1 (ρ.refl (ρ.g2 a))⟩
theorem EvP.mono {P : PyData → Prop} (h : EvP ρ te σ H P) (e : ρ.R H H') : EvP ρ te σ H' P := fun H1 a => h H1 (ρ.trans e a)
theorem EvD.p {P : PyData → Prop} (h : EvD ρ te σ H d) (p : P d) : EvP ρ te σ H P := fun H1 a Q q => h H1 a _ fun v H2 e t => q v d H2 e t p
theorem EvP.imp {P P' : PyData → Prop} (h : EvP ρ te σ H P) (k : ∀ d, P d → P' d) : EvP ρ te σ H P' := fun H1 a Q q => h H1 a _ fun v d H2 e t p => q v d H2 e t (k d p)
theorem EvD.i {i : Int} (h : EvD ρ te σ H (.int i)) : EvV ρ te σ H (.int i) := fun H1 a Q q => h H1 a _ fun v H2 e t => by
  cases t
  exact q H2 e
theorem EvV.i {i : Int} (h : EvV ρ te σ H (.int i)) : EvD ρ te σ H (.int i) := fun H1 a Q q => h H1 a _ fun H2 e => q _ H2 e (.int i)
theorem ed_lenL {b : Addr} {xs : List V} (h : EvV ρ te σ H (.ref b)) (s : ∀ H1, ρ.R H H1 → SqL K H1 b xs) : EvD ρ (tCB (rLen2 K) (tCons te tNil)) σ H (.int xs.length) := fun H1 a Q q =>
  h H1 a _ fun H2 e2 => ⟨b, xs, rfl, .inl (s H2 (ρ.trans a e2)), q _ H2 e2 (.int _)⟩
theorem ed_ixL {b : Addr} {xs : List V} {i : Int} (h : EvV ρ ta σ H (.ref b)) (k : EvD ρ tb σ H (.int i)) (s : ∀ H1, ρ.R H H1 → SqL K H1 b xs) (hi : atI xs i = some v) (hd : ∀ H1, ρ.R H H1 → Td K H1 v d) : EvD ρ (tOp (rIxL K) ta tb) σ H d := fun H1 a Q q =>
  h H1 a _ fun H2 e2 => k H2 (ρ.trans a e2) _ fun w H3 e3 t => by
    cases t
    exact ⟨b, xs, i, v, rfl, rfl, s H3 (ρ.trans a (ρ.trans e2 e3)), hi, q v H3 (ρ.trans e2 e3) (hd H3 (ρ.trans a (ρ.trans e2 e3)))⟩
theorem ed_int1 {i : Int} (h : EvD ρ te σ H (.int i)) : EvD ρ (tCB (fun xs H Q => (∃ i, xs = [V.int i] ∧ Q (.int i) H) ∨ ∃ k, xs = [V.bl k] ∧ Q (.int (if k then 1 else 0)) H) (tCons te tNil)) σ H (.int i) := fun H1 a Q q => h H1 a _ fun v H2 e2 t => by
  cases t
  exact .inl ⟨i, rfl, q _ H2 e2 (.int i)⟩
theorem ed_abs {i : Int} (h : EvD ρ te σ H (.int i)) : EvD ρ (tCB (fun xs H Q => ∃ i, xs = [V.int i] ∧ Q (.int (if i < 0 then -i else i)) H) (tCons te tNil)) σ H (.int (if i < 0 then -i else i)) := fun H1 a Q q => h H1 a _ fun v H2 e2 t => by
  cases t
  exact ⟨i, rfl, q _ H2 e2 (.int _)⟩
theorem ep_int1 {P : Int → Prop} (h : EvP ρ te σ H (fun d => ∃ i, d = .int i ∧ P i)) : EvP ρ (tCB (fun xs H Q => (∃ i, xs = [V.int i] ∧ Q (.int i) H) ∨ ∃ k, xs = [V.bl k] ∧ Q (.int (if k then 1 else 0)) H) (tCons te tNil)) σ H (fun d => ∃ i, d = .int i ∧ P i) := fun H1 a Q q => h H1 a _ fun v d H2 e2 t p => by
  obtain ⟨i, rfl, p⟩ := p
  cases t
  exact .inl ⟨i, rfl, q _ _ H2 e2 (.int i) ⟨i, rfl, p⟩⟩
/-- an operator on some data -/
theorem ep_op {r : R2} {P P2 P3 : PyData → Prop} (ha : EvP ρ ta σ H P) (hb : EvP ρ tb σ H P2)
    (hr : ∀ v w d e H1 (Q : VK), ρ.R H H1 → Td K H1 v d → Td K H1 w e → P d → P2 e → (∀ u z H2, ρ.R H1 H2 → Td K H2 u z → P3 z → Q u H2) → r v w H1 Q) : EvP ρ (tOp r ta tb) σ H P3 := fun H1 a Q q =>
  ha H1 a _ fun v d H2 e2 tv p => hb H2 (ρ.trans a e2) _ fun w e H3 e3 tw p2 => hr v w d e H3 Q (ρ.trans a (ρ.trans e2 e3)) (Td.mono ρ e3 d tv) tw p p2 fun u z H4 e4 tu p3 => q u z H4 (ρ.trans e2 (ρ.trans e3 e4)) tu p3
abbrev isN (P : Int → Prop) : PyData → Prop := fun d => ∃ i, d = .int i ∧ P i
theorem ep_ari {p : Int → Int → Int} {P P2 P3 : Int → Prop} (ha : EvP ρ ta σ H (isN P)) (hb : EvP ρ tb σ H (isN P2)) (h : ∀ i j, P i → P2 j → P3 (p i j)) : EvP ρ (tOp (rI0 fun i j => .int (p i j)) ta tb) σ H (isN P3) :=
  ep_op ha hb fun v w d e H1 Q g tv tw p1 p2 q => by
    obtain ⟨i, rfl, p1⟩ := p1
    obtain ⟨j, rfl, p2⟩ := p2
    cases tv
    cases tw
    exact ⟨i, j, rfl, rfl, q _ _ H1 (ρ.refl (ρ.g2 g)) (.int _) ⟨_, rfl, h i j p1 p2⟩⟩
theorem ep_ariC {C : Int → Int → Prop} {p : Int → Int → Int} {P P2 P3 : Int → Prop} (ha : EvP ρ ta σ H (isN P)) (hb : EvP ρ tb σ H (isN P2)) (h : ∀ i j, P i → P2 j → C i j ∧ P3 (p i j)) : EvP ρ (tOp (rI C fun i j => .int (p i j)) ta tb) σ H (isN P3) :=
  ep_op ha hb fun v w d e H1 Q g tv tw p1 p2 q => by
    obtain ⟨i, rfl, p1⟩ := p1
    obtain ⟨j, rfl, p2⟩ := p2
    cases tv
    cases tw
    obtain ⟨c, p3⟩ := h i j p1 p2
    exact ⟨i, j, rfl, rfl, c, q _ _ H1 (ρ.refl (ρ.g2 g)) (.int _) ⟨_, rfl, p3⟩⟩
theorem ep_if {P : PyData → Prop} {b : Bool} (h : EvB ρ tt σ H b) (h1 : b = true → EvP ρ ta σ H P) (h2 : b = false → EvP ρ tb σ H P) : EvP ρ (tIf tt ta tb) σ H P := fun H1 e Q q => h H1 e _ fun H2 e2 => by
  cases b with
  | true => exact iteT (h1 rfl H2 (ρ.trans e e2) _ fun v d H3 e3 t => q v d H3 (ρ.trans e2 e3) t)
  | false => exact iteF (h2 rfl H2 (ρ.trans e e2) _ fun v d H3 e3 t => q v d H3 (ρ.trans e2 e3) t)
/-- a test with an answer that is not told -/
def EvB2 (ρ : HR K) (tt : TT) (σ : L2.St) (H : Hp) : Prop := ∀ H1, ρ.R H H1 → ∀ Q : Bool → Hp → Prop, (∀ b H2, ρ.R H1 H2 → Q b H2) → tt σ H1 Q
theorem ep_if2 {P : PyData → Prop} (h : EvB2 ρ tt σ H) (h1 : EvP ρ ta σ H P) (h2 : EvP ρ tb σ H P) : EvP ρ (tIf tt ta tb) σ H P := fun H1 e Q q => h H1 e _ fun b H2 e2 => by
  cases b with
  | true => exact iteT (h1 H2 (ρ.trans e e2) _ fun v d H3 e3 t => q v d H3 (ρ.trans e2 e3) t)
  | false => exact iteF (h2 H2 (ρ.trans e e2) _ fun v d H3 e3 t => q v d H3 (ρ.trans e2 e3) t)
theorem eb2_eqI {P P2 : Int → Prop} (ha : EvP ρ ta σ H (isN P)) (hb : EvP ρ tb σ H (isN P2)) : EvB2 ρ (tTest (tOp rEq ta tb)) σ H := fun H1 a Q q =>
  ha H1 a _ fun v d H2 e2 tv p => hb H2 (ρ.trans a e2) _ fun w e H3 e3 tw p2 => by
    obtain ⟨i, rfl, p⟩ := p
    obtain ⟨j, rfl, p2⟩ := p2
    cases tv
    cases tw
    exact ⟨rfl, _, rfl, q _ H3 (ρ.trans e2 e3)⟩
theorem eb2_neI {P P2 : Int → Prop} (ha : EvP ρ ta σ H (isN P)) (hb : EvP ρ tb σ H (isN P2)) : EvB2 ρ (tTest (tOp rNe ta tb)) σ H := fun H1 a Q q =>
  ha H1 a _ fun v d H2 e2 tv p => hb H2 (ρ.trans a e2) _ fun w e H3 e3 tw p2 => by
    obtain ⟨i, rfl, p⟩ := p
    obtain ⟨j, rfl, p2⟩ := p2
    cases tv
    cases tw
    exact ⟨rfl, _, rfl, q _ H3 (ρ.trans e2 e3)⟩
/-! statements -/
theorem q_set {i : Nat} {tz : TS} (g : ρ.good H) (h : EvD ρ te σ H d) (k : ∀ v H1, ρ.R H H1 → Td K H1 v d → tz D (σ.set i (some v)) H1) : tSeq (tAsg te (gName i)) tz D σ H := h H (ρ.refl g) _ fun v H1 e t => k v H1 e t
theorem q_setP {i : Nat} {tz : TS} {P : PyData → Prop} (g : ρ.good H) (h : EvP ρ te σ H P) (k : ∀ v d H1, ρ.R H H1 → Td K H1 v d → P d → tz D (σ.set i (some v)) H1) : tSeq (tAsg te (gName i)) tz D σ H := h H (ρ.refl g) _ fun v d H1 e t p => k v d H1 e t p
theorem q_setL {i : Nat} {tz : TS} (g : ρ.good H) (h : EvL ρ te σ H ds) (k : ∀ p xs H1, H p = none → ρ.R H H1 → H1 p = some (.lst xs) → TdAll K H1 xs ds → tz D (σ.set i (some (.ref p))) H1) : tSeq (tAsg te (gName i)) tz D σ H := h H (ρ.refl g) _ fun p xs H1 hp e hx t => k p xs H1 hp e hx t
theorem q_setLP {i : Nat} {tz : TS} {P : List PyData → Prop} (g : ρ.good H) (h : EvLP ρ te σ H P) (k : ∀ p xs ds H1, H p = none → ρ.R H H1 → H1 p = some (.lst xs) → TdAll K H1 xs ds → P ds → tz D (σ.set i (some (.ref p))) H1) : tSeq (tAsg te (gName i)) tz D σ H := h H (ρ.refl g) _ fun p xs ds H1 hp e hx t pd => k p xs ds H1 hp e hx t pd
theorem s_set {i : Nat} (g : ρ.good H) (h : EvD ρ te σ H d) (k : ∀ v H1, ρ.R H H1 → Td K H1 v d → D.nx (σ.set i (some v)) H1) : tAsg te (gName i) D σ H := h H (ρ.refl g) _ fun v H1 e t => k v H1 e t
theorem s_setP {i : Nat} {P : PyData → Prop} (g : ρ.good H) (h : EvP ρ te σ H P) (k : ∀ v d H1, ρ.R H H1 → Td K H1 v d → P d → D.nx (σ.set i (some v)) H1) : tAsg te (gName i) D σ H := h H (ρ.refl g) _ fun v d H1 e t p => k v d H1 e t p
theorem ret_p {P : PyData → Prop} (g : ρ.good H) (h : EvP ρ te σ H P) (k : ∀ v d H', ρ.R H H' → Td K H' v d → P d → D.rt v H') : tRet te D σ H := h H (ρ.refl g) _ k
/-! comprehensions over a range -/
theorem elp_lcR {j : Nat} {vs : List Nat} {N : Nat → Prop} {P : PyData → Prop} (h : EvP ρ tn σ H (fun d => ∃ n : Nat, d = .int n ∧ n ≤ 1000 ∧ N n)) (hw : ∀ x, wipe ((wipe σ vs).set j (some x)) vs = wipe σ vs)
    (he : ∀ n i : Nat, N n → i < n → ∀ H1, ρ.R H H1 → EvP ρ te ((wipe σ vs).set j (some (.int (i : Int)))) H1 P) : EvLP ρ (tLc (iRng1 (tCons tn tNil)) (gName j) tYes te vs) σ H (fun ds => N ds.length ∧ ∀ d ∈ ds, P d) := fun H1 a Q q => h H1 a _ fun v d H2 e2 td p => by
  obtain ⟨n, rfl, hn, hN⟩ := p
  cases td
  refine ⟨(n : Int), rfl, by omega, by omega, fun D hD => ?_⟩
  have okD := ρ.fresh (ρ.g2 e2) hD
  refine lc_range (lo := 0) (n := (n : Int).toNat) (fun i H' => ∃ acc ds, ρ.R H2 H' ∧ H' D = some (.lst acc) ∧ TdAll K H' acc ds ∧ ds.length = i ∧ ∀ d ∈ ds, P d) ⟨[], [], ρ.mu (ρ.refl (ρ.g2 e2)) hD, upd_same, .nil, rfl, fun _ z => nomatch z⟩ ?_ ?_
  · rintro i H' hi ⟨acc, ds, r, hl, ta, hlen, hall⟩
    have hi' : i < n := by omega
    rw [show (0 : Int) + (i : Int) = (i : Int) by omega]
    refine ⟨hw _, ?_⟩
    dsimp only [tYes]
    rw [if_pos rfl]
    refine he n i hN hi' H' (ρ.trans a (ρ.trans e2 r)) H' (ρ.refl (ρ.g2 r)) _ fun y dy H4 e4 ty py => ?_
    have h4 := ρ.keep e4 okD hl
    refine ⟨acc, h4, Evl.sz_lt (by rw [ta.len]; omega), ?_⟩
    obtain ⟨m1, m2, m3⟩ := more_item (ρ.trans r e4) hD h4 (TdAll.mono ρ e4 _ ta) ty
    refine ⟨acc ++ [y], ds ++ [dy], m1, m2, m3, by simp [hlen], fun d hd => ?_⟩
    rcases List.mem_append.mp hd with z | z
    · exact hall d z
    · rw [List.mem_singleton.mp z]
      exact py
  · rintro H' ⟨acc, ds, r, hl, ta, hlen, hall⟩
    exact q D acc ds H' (ρ.back e2 hD) (ρ.trans e2 r) hl ta ⟨by rw [hlen]; simpa using hN, hall⟩
theorem ep_tupL {P : List PyData → Prop} (h : EvLP ρ te σ H P) : EvP ρ (tThen te (kTup K)) σ H (fun d => ∃ ds, d = .tuple ds ∧ P ds) := fun H1 a Q q => h H1 a _ fun p xs ds H2 hp e2 hx ht pd => .inl ⟨p, xs, rfl, Evl.sq_of hx, fun r hr => by
  have e3 := fun o => ρ.mu (o := o) (ρ.refl (ρ.g2 e2)) hr
  exact q _ _ _ (ρ.trans e2 (e3 _)) (.tup (Evl.st_of upd_same) (TdAll.mono ρ (e3 _) _ ht)) ⟨ds, rfl, pd⟩⟩
/-- [k for k in range(n) if ..], the test's answers not told -/
theorem elp_lcRs {j : Nat} {vs : List Nat} {n : Int} (h : EvD ρ tn σ H (.int n)) (h0 : 0 ≤ n ∧ n ≤ 1000) (hw : ∀ x, wipe ((wipe σ vs).set j (some x)) vs = wipe σ vs)
    (ht : ∀ i : Nat, i < n.toNat → ∀ H1, ρ.R H H1 → EvB2 ρ tt ((wipe σ vs).set j (some (.int (i : Int)))) H1) (he : ∀ i : Nat, i < n.toNat → ∀ H1, ρ.R H H1 → EvD ρ te ((wipe σ vs).set j (some (.int (i : Int)))) H1 (.int (i : Int))) :
    EvLP ρ (tLc (iRng1 (tCons tn tNil)) (gName j) tt te vs) σ H (fun ds => ds.Sublist ((List.range n.toNat).map fun (i : Nat) => PyData.int (i : Int))) := fun H1 a Q q => h H1 a _ fun v H2 e2 td => by
  cases td
  refine ⟨n, rfl, by omega, by omega, fun D hD => ?_⟩
  have okD := ρ.fresh (ρ.g2 e2) hD
  refine lc_range (lo := 0) (n := n.toNat) (fun i H' => ∃ acc ds, ρ.R H2 H' ∧ H' D = some (.lst acc) ∧ TdAll K H' acc ds ∧ ds.length ≤ i ∧ ds.Sublist ((List.range i).map fun (i : Nat) => PyData.int (i : Int))) ⟨[], [], ρ.mu (ρ.refl (ρ.g2 e2)) hD, upd_same, .nil, Nat.le_refl _, List.nil_sublist _⟩ ?_ ?_
  · rintro i H' hi ⟨acc, ds, r, hl, ta, hlen, hsub⟩
    rw [show (0 : Int) + (i : Int) = (i : Int) by omega]
    refine ⟨hw _, ?_⟩
    have r1 := ρ.trans a (ρ.trans e2 r)
    have step : (List.range (i + 1)).map (fun (i : Nat) => PyData.int (i : Int)) = (List.range i).map (fun (i : Nat) => PyData.int (i : Int)) ++ [.int (i : Int)] := by
      rw [List.range_succ, List.map_append]
      rfl
    refine ht i hi H' r1 H' (ρ.refl (ρ.g2 r)) _ fun b H3 e3 => ?_
    cases b with
    | false =>
      refine iteF ⟨acc, ds, ρ.trans r e3, ρ.keep e3 okD hl, TdAll.mono ρ e3 _ ta, by omega, ?_⟩
      rw [step]
      exact hsub.trans (List.sublist_append_left _ _)
    | true =>
      refine iteT (he i hi H3 (ρ.trans r1 e3) H3 (ρ.refl (ρ.g2 e3)) _ fun y H4 e4 ty => ?_)
      have e34 := ρ.trans e3 e4
      have h4 := ρ.keep e34 okD hl
      refine ⟨acc, h4, Evl.sz_lt (by rw [ta.len]; omega), ?_⟩
      obtain ⟨m1, m2, m3⟩ := more_item (ρ.trans r e34) hD h4 (TdAll.mono ρ e34 _ ta) ty
      refine ⟨acc ++ [y], _, m1, m2, m3, by simp; omega, ?_⟩
      rw [step]
      exact hsub.append (List.Sublist.refl _)
  · rintro H' ⟨acc, ds, r, hl, ta, hlen, hsub⟩
    exact q D acc ds H' (ρ.back e2 hD) (ρ.trans e2 r) hl ta hsub
end
end DX

set_option Elab.async false
set_option linter.all false
set_option maxRecDepth 100000
set_option maxHeartbeats 2000000
/-! lists of lists, lists made anew, some data within -/
namespace DX
open PySem PySem.Spec PyProof.Rows L2 HX
section
variable {K : PySem.W.Frag} {ρ : HR K} {te ta tb tc tn tl : TE} {tt tu : TT} {σ : L2.St} {H H' : Hp} {d x y z : PyData} {ds es : List PyData} {tsa : TA} {D : Ends} {v : V}
theorem TdAll.set {xs : List V} (h : TdAll K H xs ds) (t : Td K H v d) : ∀ j : Nat, TdAll K H (xs.set j v) (ds.set j d) := by
  intro j
  induction ds generalizing xs j with
  | nil => cases h; exact .nil
  | cons d0 ds ih =>
    cases h with
    | cons h1 h2 =>
      cases j with
      | zero => exact .cons t h2
      | succ j => exact .cons h1 (ih h2 j)
theorem mem_set_or {α : Type} {l : List α} {x u : α} : ∀ {j : Nat}, u ∈ l.set j x → u ∈ l ∨ u = x := by
  induction l with
  | nil => intro j h; simp at h
  | cons b l ih =>
    intro j h
    cases j with
    | zero =>
      rw [List.set_cons_zero] at h
      rcases List.mem_cons.mp h with h | h
      · exact .inr h
      · exact .inl (List.mem_cons_of_mem _ h)
    | succ j =>
      rw [List.set_cons_succ] at h
      rcases List.mem_cons.mp h with h | h
      · exact .inl (h ▸ List.mem_cons_self)
      · rcases ih h with h | h
        · exact .inl (List.mem_cons_of_mem _ h)
        · exact .inr h
/-- list(t) -/
theorem elp_listT {P : List PyData → Prop} (h : EvP ρ te σ H (fun d => ∃ ds, d = .tuple ds ∧ P ds)) :
    EvLP ρ (tCB (fun xs H Q => ∃ p ys, xs = [.ref p] ∧ (SqL K H p ys ∨ SqT K H p ys) ∧ ∀ l, H l = none → Q (.ref l) (upd H l (.lst ys))) (tCons te tNil)) σ H P := fun H1 a Q q => h H1 a _ fun v d H2 e2 t p => by
  obtain ⟨ds, rfl, p⟩ := p
  cases t with
  | tup hs hd => exact ⟨_, _, rfl, .inr hs, fun l hl => by
      have e3 := fun o => ρ.mu (o := o) (ρ.refl (ρ.g2 e2)) hl
      exact q l _ ds _ (ρ.back e2 hl) (ρ.trans e2 (e3 _)) upd_same (TdAll.mono ρ (e3 _) _ hd) p⟩
/-- t[i], the place not told -/
theorem ep_ixT {P : PyData → Prop} (ha : EvD ρ ta σ H (.tuple ds)) (hb : EvP ρ tb σ H (isN fun r => 0 ≤ r ∧ r < (ds.length : Int))) (hd : ∀ d ∈ ds, P d) : EvP ρ (tOp (rIxT K) ta tb) σ H P :=
  ep_op (P := fun d => d = .tuple ds) (ha.p rfl) hb fun v w d e H1 Q g tv tw p1 p2 q => by
    subst p1
    obtain ⟨r, rfl, r0, r1⟩ := p2
    cases tw
    cases tv with
    | @tup ad xs _ hs hx =>
      have hr : r.toNat < xs.length := by rw [hx.len]; omega
      obtain ⟨u, hu, tu⟩ := hx.get (i := r.toNat) (v := xs[r.toNat]) (by simp [hr])
      refine ⟨ad, xs, r, xs[r.toNat], rfl, rfl, hs, ?_, q _ u H1 (ρ.refl (ρ.g2 g)) tu (hd u (List.mem_of_getElem? hu))⟩
      unfold atI ixN
      rw [if_pos r0, if_pos (by rw [hx.len]; exact r1)]
      show xs[r.toNat]? = _
      simp [hr]
/-- xs[i], a new list, the place not told -/
theorem ep_ixN {P : PyData → Prop} (ha : EvL ρ ta σ H ds) (hb : ∀ H1, ρ.R H H1 → EvP ρ tb σ H1 (isN fun r => 0 ≤ r ∧ r < (ds.length : Int))) (hd : ∀ d ∈ ds, P d) : EvP ρ (tOp (rIxL K) ta tb) σ H P := fun H1 a Q q =>
  ha H1 a _ fun p xs H2 hp e2 hx ht => hb H2 (ρ.trans a e2) H2 (ρ.refl (ρ.g2 e2)) _ fun w d H3 e3 tw pr => by
    obtain ⟨r, rfl, r0, r1⟩ := pr
    cases tw
    have okp := ρ.fresh (ρ.g2 a) hp
    have hx3 := ρ.keep e3 okp hx
    have hr : r.toNat < xs.length := by rw [ht.len]; omega
    have t3 := TdAll.mono ρ e3 _ ht
    obtain ⟨u, hu, tu⟩ := t3.get (i := r.toNat) (v := xs[r.toNat]) (by simp [hr])
    refine ⟨p, xs, r, xs[r.toNat], rfl, rfl, Evl.sq_of hx3, ?_, q _ u H3 (ρ.trans e2 e3) tu (hd u (List.mem_of_getElem? hu))⟩
    unfold atI ixN
    rw [if_pos r0, if_pos (by rw [ht.len]; exact r1)]
    show xs[r.toNat]? = _
    simp [hr]
/-- xs[i], the place not told -/
theorem ep_ixV {P : PyData → Prop} {b : Addr} {xs : List V} (ha : EvV ρ ta σ H (.ref b)) (hx : H b = some (.lst xs)) (ok : ρ.ok b) (ht : TdAll K H xs ds) (hb : EvP ρ tb σ H (isN fun r => 0 ≤ r ∧ r < (ds.length : Int))) (hd : ∀ d ∈ ds, P d) : EvP ρ (tOp (rIxL K) ta tb) σ H P := fun H1 a Q q =>
  ha H1 a _ fun H2 e2 => hb H2 (ρ.trans a e2) _ fun w d H3 e3 tw pr => by
    obtain ⟨r, rfl, r0, r1⟩ := pr
    cases tw
    have e := ρ.trans a (ρ.trans e2 e3)
    have hx3 := ρ.keep e ok hx
    have hr : r.toNat < xs.length := by rw [ht.len]; omega
    have t3 := TdAll.mono ρ e _ ht
    obtain ⟨u, hu, tu⟩ := t3.get (i := r.toNat) (v := xs[r.toNat]) (by simp [hr])
    refine ⟨b, xs, r, xs[r.toNat], rfl, rfl, Evl.sq_of hx3, ?_, q _ u H3 (ρ.trans e2 e3) tu (hd u (List.mem_of_getElem? hu))⟩
    unfold atI ixN
    rw [if_pos r0, if_pos (by rw [ht.len]; exact r1)]
    show xs[r.toNat]? = _
    simp [hr]
/-- (e,) -/
theorem ep_tup1 {P : PyData → Prop} (h : EvP ρ te σ H P) : EvP ρ (tTup (tCons te tNil)) σ H (fun d => ∃ x, d = .tuple [x] ∧ P x) := fun H1 a Q q => h H1 a _ fun v d H2 e2 t p => ⟨Evl.sz_of (by simp), fun r hr => by
  have e3 := fun o => ρ.mu (o := o) (ρ.refl (ρ.g2 e2)) hr
  exact q _ _ _ (ρ.trans e2 (e3 _)) (.tup (Evl.st_of upd_same) (.cons (Td.mono ρ (e3 _) _ t) .nil)) ⟨d, rfl, p⟩⟩
/-- a list of lists of data -/
def LL (K : PySem.W.Frag) (ρ : HR K) (H : Hp) (P : List PyData → Prop) (xs : List V) : Prop := ∀ x ∈ xs, ∃ p ys ds, x = .ref p ∧ ρ.ok p ∧ H p = some (.lst ys) ∧ TdAll K H ys ds ∧ P ds
theorem LL.mono {P : List PyData → Prop} {xs : List V} (h : LL K ρ H P xs) (e : ρ.R H H') : LL K ρ H' P xs := fun x hx => by
  obtain ⟨p, ys, ds, e1, ok, h1, h2, h3⟩ := h x hx
  exact ⟨p, ys, ds, e1, ok, ρ.keep e ok h1, TdAll.mono ρ e _ h2, h3⟩
def EvLL (ρ : HR K) (te : TE) (σ : L2.St) (H : Hp) (n : Nat) (P : List PyData → Prop) : Prop := ∀ H1, ρ.R H H1 → ∀ Q : VK, (∀ p xs H2, H1 p = none → ρ.R H1 H2 → H2 p = some (.lst xs) → xs.length = n → LL K ρ H2 P xs → Q (.ref p) H2) → te σ H1 Q
theorem ell_lcR {j : Nat} {vs : List Nat} {n : Nat} {P : List PyData → Prop} (h : EvD ρ tn σ H (.int (n : Int))) (hn : n ≤ 1000) (hw : ∀ x, wipe ((wipe σ vs).set j (some x)) vs = wipe σ vs)
    (he : ∀ i : Nat, i < n → ∀ H1, ρ.R H H1 → EvLP ρ te ((wipe σ vs).set j (some (.int (i : Int)))) H1 P) : EvLL ρ (tLc (iRng1 (tCons tn tNil)) (gName j) tYes te vs) σ H n P := fun H1 a Q q => h H1 a _ fun v H2 e2 td => by
  cases td
  refine ⟨(n : Int), rfl, by omega, by omega, fun Dl hD => ?_⟩
  have okD := ρ.fresh (ρ.g2 e2) hD
  refine lc_range (lo := 0) (n := (n : Int).toNat) (fun i H' => ∃ acc, ρ.R H2 H' ∧ H' Dl = some (.lst acc) ∧ acc.length = i ∧ ∀ x ∈ acc, ∃ p ys ds, x = .ref p ∧ p ≠ Dl ∧ ρ.ok p ∧ H' p = some (.lst ys) ∧ TdAll K H' ys ds ∧ P ds) ⟨[], ρ.mu (ρ.refl (ρ.g2 e2)) hD, upd_same, rfl, fun _ z => nomatch z⟩ ?_ ?_
  · rintro i H' hi ⟨acc, r, hl, hlen, hall⟩
    have hi' : i < n := by omega
    rw [show (0 : Int) + (i : Int) = (i : Int) by omega]
    refine ⟨hw _, ?_⟩
    dsimp only [tYes]
    rw [if_pos rfl]
    refine he i hi' H' (ρ.trans a (ρ.trans e2 r)) H' (ρ.refl (ρ.g2 r)) _ fun p ys dp H4 hp e4 hy ty py => ?_
    have h4 := ρ.keep e4 okD hl
    have npD : p ≠ Dl := fun z => by rw [z, hl] at hp; cases hp
    refine ⟨acc, h4, Evl.sz_lt (by omega), acc ++ [.ref p], ρ.mu (ρ.trans r e4) hD, upd_same, by simp [hlen], fun x hx => ?_⟩
    rcases List.mem_append.mp hx with z | z
    · obtain ⟨p', ys', ds', e1, n1, ok1, h1, t1, p1⟩ := hall x z
      exact ⟨p', ys', ds', e1, n1, ok1, by rw [upd_ne n1]; exact ρ.keep e4 ok1 h1, TdAll.monoT (sqT_updL h4) _ (TdAll.mono ρ e4 _ t1), p1⟩
    · rw [List.mem_singleton.mp z]
      exact ⟨p, ys, dp, rfl, npD, ρ.fresh (ρ.g2 r) hp, by rw [upd_ne npD]; exact hy, TdAll.monoT (sqT_updL h4) _ ty, py⟩
  · rintro H' ⟨acc, r, hl, hlen, hall⟩
    refine q Dl acc H' (ρ.back e2 hD) (ρ.trans e2 r) hl (by omega) fun x hx => ?_
    obtain ⟨p', ys', ds', e1, n1, ok1, h1, t1, p1⟩ := hall x hx
    exact ⟨p', ys', ds', e1, ok1, h1, t1, p1⟩
theorem q_setLL {i n : Nat} {tz : TS} {P : List PyData → Prop} (g : ρ.good H) (h : EvLL ρ te σ H n P) (k : ∀ p xs H1, H p = none → ρ.R H H1 → H1 p = some (.lst xs) → xs.length = n → LL K ρ H1 P xs → tz D (σ.set i (some (.ref p))) H1) : tSeq (tAsg te (gName i)) tz D σ H := h H (ρ.refl g) _ fun p xs H1 hp e hx hl hL => k p xs H1 hp e hx hl hL
/-- [tuple(x) for x in xs], xs a list of lists -/
theorem elp_lcLL {j : Nat} {vs : List Nat} {b : Addr} {xs : List V} {P : List PyData → Prop} (h : EvV ρ tl σ H (.ref b)) (hx : H b = some (.lst xs)) (ok : ρ.ok b) (hz : xs.length ≤ 40000) (hL : LL K ρ H P xs) (hw : ∀ x, wipe ((wipe σ vs).set j (some x)) vs = wipe σ vs) (hj : ∀ x, ((wipe σ vs).set j (some x))[j]? = some (some x)) :
    EvLP ρ (tLc (iList K tl) (gName j) tYes (tThen (tVar j) (kTup K)) vs) σ H (fun ds => ds.length = xs.length ∧ ∀ d ∈ ds, ∃ es, d = .tuple es ∧ P es) := fun H1 a Q q => h H1 a _ fun H2 e2 => by
  have hx2 := ρ.keep (ρ.trans a e2) ok hx
  refine ⟨b, rfl, ⟨xs, Evl.sq_of hx2⟩, fun Dl hD => ?_⟩
  have okD := ρ.fresh (ρ.g2 e2) hD
  refine lc_list (K := K) (a := b) (xs := xs) (fun i H' => ∃ acc ds, ρ.R H2 H' ∧ H' Dl = some (.lst acc) ∧ TdAll K H' acc ds ∧ ds.length = i ∧ i ≤ xs.length ∧ ∀ d ∈ ds, ∃ es, d = .tuple es ∧ P es) ⟨[], [], ρ.mu (ρ.refl (ρ.g2 e2)) hD, upd_same, .nil, rfl, Nat.zero_le _, fun _ z => nomatch z⟩ (fun i H' _ ⟨_, _, r, _⟩ => Evl.sq_of (ρ.keep r ok hx2)) ?_ ?_
  · rintro i x H' hxi ⟨acc, ds, r, hl, ta, hlen, hle, hall⟩
    obtain ⟨p, ys, es, rfl, okp, h1, t1, p1⟩ := hL x (List.mem_of_getElem? hxi)
    have e := ρ.trans a (ρ.trans e2 r)
    have hp := ρ.keep e okp h1
    have ilt : i < xs.length := (List.getElem?_eq_some_iff.mp hxi).1
    refine ⟨hw _, ?_⟩
    dsimp only [tYes]
    rw [if_pos rfl]
    refine ⟨.ref p, hj _, .inl ⟨p, ys, rfl, Evl.sq_of hp, fun q' hq' => ?_⟩⟩
    have e4 := fun o => ρ.mu (o := o) (ρ.refl (ρ.g2 r)) hq'
    have h4 := ρ.keep (e4 (.tup ys)) okD hl
    refine ⟨acc, h4, Evl.sz_lt (by rw [ta.len]; omega), ?_⟩
    obtain ⟨m1, m2, m3⟩ := more_item (ρ.trans r (e4 _)) hD h4 (TdAll.mono ρ (e4 _) _ ta) (.tup (Evl.st_of upd_same) (TdAll.mono ρ (ρ.trans e (e4 _)) _ t1))
    refine ⟨acc ++ [.ref q'], ds ++ [.tuple es], m1, m2, m3, by simp [hlen], by omega, fun d hd => ?_⟩
    rcases List.mem_append.mp hd with z | z
    · exact hall d z
    · rw [List.mem_singleton.mp z]
      exact ⟨es, rfl, p1⟩
  · rintro H' ⟨acc, ds, r, hl, ta, hlen, _, hall⟩
    exact q Dl acc ds H' (ρ.back e2 hD) (ρ.trans e2 r) hl ta ⟨hlen, hall⟩
/-- tuple(xs), xs a list that stands -/
theorem ed_tupV {b : Addr} {xs : List V} (h : EvV ρ te σ H (.ref b)) (hx : H b = some (.lst xs)) (ok : ρ.ok b) (ht : TdAll K H xs ds) : EvD ρ (tThen te (kTup K)) σ H (.tuple ds) := fun H1 a Q q => h H1 a _ fun H2 e2 => .inl ⟨b, xs, rfl, Evl.sq_of (ρ.keep (ρ.trans a e2) ok hx), fun r hr => by
  have e3 := fun o => ρ.mu (o := o) (ρ.refl (ρ.g2 e2)) hr
  exact q _ _ (ρ.trans e2 (e3 _)) (.tup (Evl.st_of upd_same) (TdAll.mono ρ (ρ.trans a (ρ.trans e2 (e3 _))) _ ht))⟩
/-- xs + [..] -/
theorem el_cat {b : Addr} {xs : List V} (h : EvV ρ ta σ H (.ref b)) (hx : H b = some (.lst xs)) (ok : ρ.ok b) (ht : TdAll K H xs ds) (k : EvL ρ tb σ H es) (hl : ds.length + es.length ≤ 100000) : EvL ρ (tOp rCat ta tb) σ H (ds ++ es) := fun H1 a Q q =>
  h H1 a _ fun H2 e2 => k H2 (ρ.trans a e2) _ fun p zs H3 hp e3 hz tz => by
    have e := ρ.trans a (ρ.trans e2 e3)
    refine ⟨b, p, xs, zs, rfl, rfl, ρ.keep e ok hx, hz, by rw [ht.len, tz.len]; exact Evl.sz_of hl, fun r hr => ?_⟩
    have e4 := fun o => ρ.mu (o := o) (ρ.refl (ρ.g2 e3)) hr
    exact q r _ _ (ρ.back (ρ.trans e2 e3) hr) (ρ.trans e2 (ρ.trans e3 (e4 _))) upd_same ((TdAll.mono ρ (ρ.trans e (e4 _)) _ ht).app (TdAll.mono ρ (e4 _) _ tz))
theorem EvLP.imp {P P' : List PyData → Prop} (h : EvLP ρ te σ H P) (k : ∀ ds, P ds → P' ds) : EvLP ρ te σ H P' := fun H1 a Q q => h H1 a _ fun p xs ds H2 hp e hx t pd => q p xs ds H2 hp e hx t (k ds pd)
theorem ep_nat {P : Int → Prop} {N : Nat → Prop} (h : EvP ρ te σ H (isN P)) (k : ∀ i, P i → 0 ≤ i ∧ i ≤ 1000 ∧ N i.toNat) : EvP ρ te σ H (fun d => ∃ n : Nat, d = .int n ∧ n ≤ 1000 ∧ N n) := h.imp fun d ⟨i, e, p⟩ => by
  obtain ⟨k1, k2, k3⟩ := k i p
  exact ⟨i.toNat, by rw [e, Int.toNat_of_nonneg k1], by omega, k3⟩
theorem EvD.n {i : Int} (h : EvD ρ te σ H (.int i)) : EvP ρ te σ H (isN fun j => j = i) := h.p ⟨i, rfl, rfl⟩
end
/-- an inner comprehension's block -/
theorem blkIn {N : List Str} {scope0 scope : Scope} {own : List (Str × Nat)} {cl : List (Str × Addr)} {C : Addr} {env : Env} {sc : Scope} (hsc : env.scope = sc)
    (h : ∀ e : Env, e.scope = sc → blkC N (compEnvC scope0 cl C e).scope scope own = true) : BlkOk N (compEnvC scope0 cl C env).scope scope own := blkOk_by (h env hsc)
end DX

set_option Elab.async false
set_option linter.all false
set_option maxRecDepth 100000
set_option maxHeartbeats 2000000
/-! right cloths and drafts; values that are none, and the reasons -/
namespace DX
open PySem PySem.Spec PyProof.Rows L2 HX
/-- a row of noughts and ones -/
def bits (n : Nat) (d : PyData) : Prop := ∃ ds, d = .tuple ds ∧ ds.length = n ∧ ∀ x ∈ ds, inR 0 1 x = true
/-- a cloth of a size -/
def cloth (p e : Nat) (d : PyData) : Prop := ∃ rows, d = .tuple rows ∧ rows.length = p ∧ ∀ r ∈ rows, bits e r
/-- a right cloth -/
def rightC (d : PyData) : Prop := ∃ p e, 1 ≤ p ∧ p ≤ 24 ∧ 1 ≤ e ∧ e ≤ 24 ∧ cloth p e d
/-- a right draft of the law -/
def rightD (d : PyData) : Prop := ∃ th ti tr, d = .tuple [.tuple th, .tuple ti, .tuple tr] ∧ 1 ≤ th.length ∧ th.length ≤ 6 ∧ (∀ x ∈ th, inR 0 2 x = true) ∧ 1 ≤ ti.length ∧ ti.length ≤ 3 ∧
  (∀ t ∈ ti, ∃ ds, t = .tuple ds ∧ ds.Sublist [.int 0, .int 1, .int 2]) ∧ 1 ≤ tr.length ∧ tr.length ≤ 6 ∧ ∀ t ∈ tr, ∃ j : Int, t = .tuple [.int j] ∧ 0 ≤ j ∧ j < (ti.length : Int)
/-- a pair of a wrong value and the reason -/
def WP (ck : PyData → Option Str) (d : PyData) : Prop := ∃ w r, d = .tuple [w, .str r] ∧ smallAll w ∧ ck w = some r
theorem wp {ck : PyData → Option Str} {w : PyData} {r : Str} (s : smallAll w) (c : ck w = some r) : WP ck (.tuple [w, .str r]) := ⟨w, r, rfl, s, c⟩
theorem fm0 {P : PyData → Prop} : ∀ d ∈ ([] : List PyData), P d := fun _ z => nomatch z
theorem fm {P : PyData → Prop} {x : PyData} {l : List PyData} (h : P x) (k : ∀ d ∈ l, P d) : ∀ d ∈ x :: l, P d := List.forall_mem_cons.mpr ⟨h, k⟩
theorem fma {P : PyData → Prop} {l m : List PyData} (h : ∀ d ∈ l, P d) (k : ∀ d ∈ m, P d) : ∀ d ∈ l ++ m, P d := fun d hd => (List.mem_append.mp hd).elim (h d) (k d)
theorem sa {l : List PyData} (h : l.length ≤ 1000) (k : ∀ x ∈ l, small x ∧ ∀ y ∈ rowOf x, small y) : smallAll (.tuple l) := ⟨h, k⟩
theorem sa_row {l : List PyData} (h : l.length ≤ 1000) (k : ∀ y ∈ l, small y) : small (.tuple l) ∧ ∀ y ∈ rowOf (.tuple l), small y := ⟨h, k⟩
theorem inR_small {lo hi : Int} {d : PyData} (h : inR lo hi d = true) : small d := by
  cases d <;> first | trivial | cases h
theorem inR_flat {lo hi : Int} {d : PyData} (h : inR lo hi d = true) : small d ∧ ∀ y ∈ rowOf d, small y := by
  refine ⟨inR_small h, ?_⟩
  cases d <;> first | exact fm0 | cases h
section
variable {rows : List PyData} {n : Nat}
theorem ckC_eq : ckC (.tuple rows) = (if rows.all isTT = false then some ("form" : Str) else if (decide ((1 : Int) ≤ rows.length) && decide ((rows.length : Int) ≤ 24)) = false then some ("picks" : Str)
    else if ((decide ((1 : Int) ≤ (rowOf (rows.headD .none)).length) && decide (((rowOf (rows.headD .none)).length : Int) ≤ 24)) && rows.all fun r => decide ((((rowOf r).length : Nat) : Int) = ((rowOf (rows.headD .none)).length : Nat))) = false then some ("ends" : Str)
    else if (rows.flatMap rowOf).all (inR 0 1) = false then some ("crossing" : Str) else none) := rfl
theorem all_tt (h : ∀ r ∈ rows, isTT r = true) : ¬ rows.all isTT = false := by
  rw [Bool.not_eq_false, List.all_eq_true]
  exact h
theorem c_picks (h : ∀ r ∈ rows, isTT r = true) (k : rows.length = 0 ∨ 24 < rows.length) : ckC (.tuple rows) = some ("picks" : Str) := by
  rw [ckC_eq, if_neg (all_tt h), if_pos]
  rcases k with k | k
  · rw [decide_eq_false (p := (1 : Int) ≤ rows.length) (by omega)]
    rfl
  · rw [decide_eq_false (p := (rows.length : Int) ≤ 24) (by omega), Bool.and_false]
theorem len_ok (h1 : 1 ≤ rows.length) (h2 : rows.length ≤ 24) : ¬ (decide ((1 : Int) ≤ rows.length) && decide ((rows.length : Int) ≤ 24)) = false := by
  rw [decide_eq_true (by omega), decide_eq_true (by omega)]
  decide
theorem c_ends (h : ∀ r ∈ rows, isTT r = true) (h1 : 1 ≤ rows.length) (h2 : rows.length ≤ 24) (k : (rowOf (rows.headD .none)).length = 0 ∨ ∃ r ∈ rows, (rowOf r).length ≠ (rowOf (rows.headD .none)).length) : ckC (.tuple rows) = some ("ends" : Str) := by
  rw [ckC_eq, if_neg (all_tt h), if_neg (len_ok h1 h2), if_pos]
  rcases k with k | ⟨r, hr, hn⟩
  · rw [decide_eq_false (p := (1 : Int) ≤ (rowOf (rows.headD .none)).length) (by omega)]
    rfl
  · have : (rows.all fun r => decide ((((rowOf r).length : Nat) : Int) = ((rowOf (rows.headD .none)).length : Nat))) = false := by
      rw [List.all_eq_false]
      exact ⟨r, hr, by rw [decide_eq_false (by omega)]; decide⟩
    rw [this, Bool.and_false]
theorem head_of {e : Nat} (h1 : 1 ≤ rows.length) (k : ∀ r ∈ rows, (rowOf r).length = e) : (rowOf (rows.headD .none)).length = e := by
  cases rows with
  | nil => cases h1
  | cons r l => exact k r List.mem_cons_self
theorem ends_ok {e : Nat} (h1 : 1 ≤ rows.length) (he : 1 ≤ e ∧ e ≤ 24) (k : ∀ r ∈ rows, (rowOf r).length = e) :
    ¬ ((decide ((1 : Int) ≤ (rowOf (rows.headD .none)).length) && decide (((rowOf (rows.headD .none)).length : Int) ≤ 24)) && rows.all fun r => decide ((((rowOf r).length : Nat) : Int) = ((rowOf (rows.headD .none)).length : Nat))) = false := by
  rw [head_of h1 k, decide_eq_true (by omega), decide_eq_true (by omega), Bool.true_and, Bool.true_and, Bool.not_eq_false, List.all_eq_true]
  intro r hr
  rw [k r hr]
  exact decide_eq_true rfl
theorem c_cross {e : Nat} (h : ∀ r ∈ rows, isTT r = true) (h1 : 1 ≤ rows.length) (h2 : rows.length ≤ 24) (he : 1 ≤ e ∧ e ≤ 24) (k : ∀ r ∈ rows, (rowOf r).length = e) (x : ∃ r ∈ rows, ∃ y ∈ rowOf r, inR 0 1 y = false) : ckC (.tuple rows) = some ("crossing" : Str) := by
  rw [ckC_eq, if_neg (all_tt h), if_neg (len_ok h1 h2), if_neg (ends_ok h1 he k), if_pos]
  obtain ⟨r, hr, y, hy, hn⟩ := x
  rw [List.all_eq_false]
  exact ⟨y, List.mem_flatMap.mpr ⟨r, hr, hy⟩, by rw [hn]; decide⟩
theorem c_none {e : Nat} (h : ∀ r ∈ rows, isTT r = true) (h1 : 1 ≤ rows.length) (h2 : rows.length ≤ 24) (he : 1 ≤ e ∧ e ≤ 24) (k : ∀ r ∈ rows, (rowOf r).length = e) (x : ∀ r ∈ rows, ∀ y ∈ rowOf r, inR 0 1 y = true) : ckC (.tuple rows) = none := by
  rw [ckC_eq, if_neg (all_tt h), if_neg (len_ok h1 h2), if_neg (ends_ok h1 he k), if_neg]
  rw [Bool.not_eq_false, List.all_eq_true]
  intro y hy
  obtain ⟨r, hr, hy⟩ := List.mem_flatMap.mp hy
  exact x r hr y hy
/-! of rows of noughts and ones -/
theorem bits_tt {e : Nat} {r : PyData} (h : bits e r) : isTT r = true := by
  obtain ⟨ds, rfl, _⟩ := h
  rfl
theorem bits_len {e : Nat} {r : PyData} (h : bits e r) : (rowOf r).length = e := by
  obtain ⟨ds, rfl, hl, _⟩ := h
  exact hl
theorem bits_in {e : Nat} {r : PyData} (h : bits e r) : ∀ y ∈ rowOf r, inR 0 1 y = true := by
  obtain ⟨ds, rfl, _, hb⟩ := h
  exact hb
theorem bits_sm {e : Nat} {r : PyData} (he : e ≤ 24) (h : bits e r) : small r ∧ ∀ y ∈ rowOf r, small y := by
  obtain ⟨ds, rfl, hl, hb⟩ := h
  exact sa_row (by omega) fun y hy => inR_small (hb y hy)
theorem right_none {d : PyData} (h : rightC d) : ckC d = none := by
  obtain ⟨p, e, p1, p2, e1, e2, rows, rfl, hl, hr⟩ := h
  exact c_none (fun r h => bits_tt (hr r h)) (by omega) (by omega) ⟨e1, e2⟩ (fun r h => bits_len (hr r h)) (fun r h => bits_in (hr r h))
theorem right_small {d : PyData} (h : rightC d) : smallAll d := by
  obtain ⟨p, e, p1, p2, e1, e2, rows, rfl, hl, hr⟩ := h
  exact sa (by omega) fun x hx => bits_sm e2 (hr x hx)
end
theorem mem_init {α : Type} {l : List α} {x : α} (h : x ∈ l.dropLast) : x ∈ l := (List.dropLast_sublist l).subset h
theorem flat_mem {α : Type} {l : List α} {n : Nat} {x : α} (h : x ∈ (List.replicate n l).flatten) : x ∈ l := by
  obtain ⟨m, hm, hx⟩ := List.mem_flatten.mp h
  rw [List.eq_of_mem_replicate hm] at hx
  exact hx
theorem flat_len {α : Type} {l : List α} (n : Nat) : (List.replicate n l).flatten.length = n * l.length := by
  induction n with
  | zero => simp
  | succ n ih => rw [List.replicate_succ, List.flatten_cons, List.length_append, ih, Nat.succ_mul, Nat.add_comm]
/-- what stands for a wrong part -/
def oddB (d : PyData) : Prop := inR 0 1 d = false ∧ small d
section
variable {rows f g rest : List PyData} {p e : Nat} {odd : PyData}
theorem w_rows0 (hl : rows.length = p) (p2 : p ≤ 24) (e2 : e ≤ 24) (hr : ∀ r ∈ rows, bits e r) (hf : bits e (.tuple f)) : ∀ d ∈ [PyData.tuple [.none, .str "form"], .tuple [.int 5, .str "form"], .tuple [.str "cloth", .str "form"], .tuple [.tuple (rows ++ [.int 5]), .str "form"], .tuple [.tuple [.tuple f, .none], .str "form"], .tuple [.tuple [.str "01", .tuple f], .str "form"]], WP ckC d :=
  fm (wp ⟨trivial, fm0⟩ rfl) <| fm (wp ⟨trivial, fm0⟩ rfl) <| fm (wp ⟨trivial, fm0⟩ rfl) <| fm (wp (sa (by simp; omega) (fma (fun x hx => bits_sm e2 (hr x hx)) (fm ⟨trivial, fm0⟩ fm0))) (ckC_form (by simp [isTT])))
    <| fm (wp (sa (by simp) (fm (bits_sm e2 hf) (fm ⟨trivial, fm0⟩ fm0))) rfl) <| fm (wp (sa (by simp) (fm ⟨trivial, fm0⟩ (fm (bits_sm e2 hf) fm0))) rfl) fm0
theorem w_rows1 (hl : rows.length = p) (p1 : 1 ≤ p) (p2 : p ≤ 24) (e2 : e ≤ 24) (hr : ∀ r ∈ rows, bits e r) (hf : bits e (.tuple f)) : ∀ d ∈ [PyData.tuple [.tuple [], .str "picks"], .tuple [.tuple (List.replicate (25 : Int).toNat rows).flatten, .str "picks"], .tuple [.tuple (List.replicate (25 : Int).toNat [PyData.tuple f]).flatten, .str "picks"],
    .tuple [.tuple [.tuple []], .str "ends"], .tuple [.tuple [.tuple (List.replicate (25 : Int).toNat [PyData.int 0]).flatten], .str "ends"], .tuple [.tuple [.tuple [], .tuple f], .str "ends"]], WP ckC d := by
  have l1 : (List.replicate (25 : Int).toNat rows).flatten.length = 25 * rows.length := flat_len 25
  refine fm (wp (sa (by simp) fm0) rfl) <| fm (wp (sa (by rw [l1]; omega) fun x hx => bits_sm e2 (hr x (flat_mem hx))) (c_picks (fun r h => bits_tt (hr r (flat_mem h))) (.inr (by rw [l1]; omega))))
    <| fm (wp (sa (by rw [flat_len]; exact (by decide : 25 * 1 ≤ 1000)) fun x hx => ?_) (c_picks (fun r h => ?_) (.inr (by rw [flat_len]; exact (by decide : 24 < 25 * 1)))))
    <| fm (wp (sa (by simp) (fm (sa_row (by simp) fm0) fm0)) rfl) <| fm (wp (sa (by simp) (fm (sa_row (by rw [flat_len]; decide) fun y hy => ?_) fm0)) rfl) <| fm (wp (sa (by simp) (fm (sa_row (by simp) fm0) (fm (bits_sm e2 hf) fm0))) (c_ends (fm rfl (fm rfl fm0)) (by simp) (by simp) (.inl rfl))) fm0
  · rw [List.mem_singleton.mp (flat_mem hx)]
    exact bits_sm e2 hf
  · rw [List.mem_singleton.mp (flat_mem h)]
    rfl
  · rw [List.mem_singleton.mp (flat_mem hy)]
    trivial
theorem w_rows2 (hl : rows.length = p) (p1 : 1 ≤ p) (p2 : p ≤ 24) (e1 : 1 ≤ e) (e2 : e ≤ 24) (hr : ∀ r ∈ rows, bits e r) (hf : bits e (.tuple f)) : ∀ d ∈ [PyData.tuple [.tuple (rows ++ [.tuple (f ++ [.int 0])]), .str (if (rows.length : Int) < 24 then "ends" else "picks")], .tuple [.tuple [.tuple f, .tuple (f.drop 1)], .str "ends"], .tuple [.tuple [.tuple [], .tuple []], .str "ends"]], WP ckC d := by
  obtain ⟨f', ef, lf, bf⟩ := hf
  cases ef
  have hf : bits e (.tuple f) := ⟨f, rfl, lf, bf⟩
  have sf : ∀ y ∈ f ++ [.int 0], small y := fma (fun y hy => inR_small (bf y hy)) (fm trivial fm0)
  have tts : ∀ r ∈ rows ++ [.tuple (f ++ [.int 0])], isTT r = true := fma (fun r h => bits_tt (hr r h)) (fm rfl fm0)
  refine fm (wp (sa (by simp; omega) (fma (fun x hx => bits_sm e2 (hr x hx)) (fm (sa_row (by simp; omega) sf) fm0))) ?_)
    <| fm (wp (sa (by simp) (fm (bits_sm e2 hf) (fm (sa_row (by simp; omega) fun y hy => inR_small (bf y (List.mem_of_mem_drop hy))) fm0))) (c_ends (fm rfl (fm rfl fm0)) (by simp) (by simp) (.inr ⟨.tuple (f.drop 1), by simp, ?_⟩)))
    <| fm (wp (sa (by simp) (fm (sa_row (by simp) fm0) (fm (sa_row (by simp) fm0) fm0))) rfl) fm0
  · by_cases h : (rows.length : Int) < 24
    · rw [if_pos h]
      refine c_ends tts (by simp) (by simp; omega) (.inr ⟨.tuple (f ++ [.int 0]), by simp, ?_⟩)
      cases rows with
      | nil => simp at hl; omega
      | cons r l =>
        have := bits_len (hr r List.mem_cons_self)
        show (f ++ [PyData.int 0]).length ≠ (rowOf r).length
        rw [this]
        simp
        omega
    · rw [if_neg h]
      exact c_picks tts (.inr (by simp; omega))
  · show (f.drop 1).length ≠ f.length
    simp
    omega
theorem w_rows3 (hl : rows.length = p) (p1 : 1 ≤ p) (p2 : p ≤ 24) (e1 : 1 ≤ e) (e2 : e ≤ 24) (hr : ∀ r ∈ rows, bits e r) (hf : bits e (.tuple f)) (hg : bits e (.tuple g)) (ho : oddB odd) :
    ∀ d ∈ [PyData.tuple [.tuple (rows.dropLast ++ [.tuple (g.dropLast ++ [odd])]), .str "crossing"], .tuple [.tuple ([.tuple ([odd] ++ f.drop 1)] ++ rows.drop 1), .str "crossing"], .tuple [.tuple [.tuple [.int 1, odd, .int 0]], .str "crossing"]], WP ckC d := by
  have lf : f.length = e := bits_len hf
  have lg : g.length = e := bits_len hg
  have bf : ∀ y ∈ f, inR 0 1 y = true := bits_in hf
  have bg : ∀ y ∈ g, inR 0 1 y = true := bits_in hg
  have r1 : ∀ r ∈ rows.dropLast, bits e r := fun r h => hr r (mem_init h)
  have r2 : ∀ r ∈ rows.drop 1, bits e r := fun r h => hr r (List.mem_of_mem_drop h)
  have L1 : (g.dropLast ++ [odd]).length = e := by simp; omega
  have L2 : ([odd] ++ f.drop 1).length = e := by simp; omega
  have s1 : ∀ y ∈ g.dropLast ++ [odd], small y := fma (fun y hy => inR_small (bg y (mem_init hy))) (fm ho.2 fm0)
  have s2 : ∀ y ∈ [odd] ++ f.drop 1, small y := fma (fm ho.2 fm0) (fun y hy => inR_small (bf y (List.mem_of_mem_drop hy)))
  refine fm (wp (sa (by simp; omega) (fma (fun x hx => bits_sm e2 (r1 x hx)) (fm (sa_row (by omega) s1) fm0))) ?_) <| fm (wp (sa (by simp; omega) (fma (fm (sa_row (by omega) s2) fm0) (fun x hx => bits_sm e2 (r2 x hx)))) ?_) <| fm (wp (sa (by simp) (fm (sa_row (by simp) (fm trivial (fm ho.2 (fm trivial fm0)))) fm0)) ?_) fm0
  · exact c_cross (fma (fun r h => bits_tt (r1 r h)) (fm rfl fm0)) (by simp) (by simp; omega) ⟨e1, e2⟩ (fma (fun r h => bits_len (r1 r h)) (fm L1 fm0)) ⟨.tuple (g.dropLast ++ [odd]), by simp, odd, by simp [rowOf], ho.1⟩
  · exact c_cross (fma (fm rfl fm0) (fun r h => bits_tt (r2 r h))) (by simp) (by simp; omega) ⟨e1, e2⟩ (fma (fm L2 fm0) (fun r h => bits_len (r2 r h))) ⟨.tuple ([odd] ++ f.drop 1), by simp, odd, by simp [rowOf], ho.1⟩
  · exact c_cross (e := 3) (fm rfl fm0) (by simp) (by simp) ⟨by decide, by decide⟩ (fm rfl fm0) ⟨.tuple [.int 1, odd, .int 0], by simp, odd, by simp [rowOf], ho.1⟩
theorem w_odds : ∀ d ∈ [PyData.int 2, .int (-1), .bool true, .bool false, .none, .str "1", .tuple [.int 0]], oddB d :=
  fm ⟨by decide, trivial⟩ <| fm ⟨by decide, trivial⟩ <| fm ⟨by decide, trivial⟩ <| fm ⟨by decide, trivial⟩ <| fm ⟨by decide, trivial⟩ <| fm ⟨by decide, trivial⟩ <| fm ⟨by decide, (by simp [small])⟩ fm0
end
end DX

set_option Elab.async false
set_option linter.all false
set_option maxRecDepth 100000
set_option maxHeartbeats 2000000
/-! drafts that are none -/
namespace DX
open PySem PySem.Spec PyProof.Rows L2 HX
section
variable {th ti tr : List PyData}
theorem ckD_eq : ckD (.tuple [.tuple th, .tuple ti, .tuple tr]) = (if ((decide ((1 : Int) ≤ th.length) && decide ((th.length : Int) ≤ 24)) && th.all (inR 0 15)) = false then (some ("threading" : Str) : Option Str)
    else if (decide ((ti.length : Int) ≤ 16) && ti.all (ascR 0 15)) = false then some ("tieup" : Str)
    else if (decide ((1 : Int) ≤ tr.length) && decide ((tr.length : Int) ≤ 24)) = false then some ("treadling" : Str)
    else if tr.all (ascR 0 ((ti.length : Int) - 1)) = false then some ("treadling" : Str) else none) := rfl
theorem range_bad {l : List PyData} (h : l.length = 0 ∨ 24 < l.length) : (decide ((1 : Int) ≤ l.length) && decide ((l.length : Int) ≤ 24)) = false := by
  rcases h with h | h
  · rw [decide_eq_false (p := (1 : Int) ≤ l.length) (by omega)]
    rfl
  · rw [decide_eq_false (p := (l.length : Int) ≤ 24) (by omega), Bool.and_false]
theorem range_good {l : List PyData} (h1 : 1 ≤ l.length) (h2 : l.length ≤ 24) : (decide ((1 : Int) ≤ l.length) && decide ((l.length : Int) ≤ 24)) = true := by
  rw [decide_eq_true (by omega), decide_eq_true (by omega)]
  rfl
theorem all_bad {f : PyData → Bool} {l : List PyData} (h : ∃ x ∈ l, f x = false) : l.all f = false := by
  obtain ⟨x, hx, e⟩ := h
  rw [List.all_eq_false]
  exact ⟨x, hx, by rw [e]; decide⟩
def oddT (o : PyData) : Prop := ∃ l, o = .tuple l ∧ l.length ≤ 1000 ∧ (∀ y ∈ l, small y) ∧ (l.length = 0 ∨ 24 < l.length ∨ ∃ x ∈ l, inR 0 15 x = false)
def oddI (o : PyData) : Prop := ∃ l, o = .tuple l ∧ l.length ≤ 1000 ∧ (∀ y ∈ l, small y) ∧ (16 < l.length ∨ ∃ x ∈ l, ascR 0 15 x = false)
def oddR (n : Nat) (o : PyData) : Prop := ∃ l, o = .tuple l ∧ l.length ≤ 1000 ∧ (∀ y ∈ l, small y) ∧ (l.length = 0 ∨ 24 < l.length ∨ ∃ x ∈ l, ascR 0 ((n : Int) - 1) x = false)
/-- what is known of a right draft's parts -/
structure Parts (th ti tr : List PyData) : Prop where
  t1 : 1 ≤ th.length
  t2 : th.length ≤ 6
  t3 : ∀ x ∈ th, inR 0 2 x = true
  i1 : 1 ≤ ti.length
  i2 : ti.length ≤ 3
  i3 : ∀ t ∈ ti, ∃ ds, t = .tuple ds ∧ ds.Sublist [.int 0, .int 1, .int 2]
  r1 : 1 ≤ tr.length
  r2 : tr.length ≤ 6
  r3 : ∀ t ∈ tr, ∃ j : Int, t = .tuple [.int j] ∧ 0 ≤ j ∧ j < (ti.length : Int)
theorem rightD_parts {d : PyData} (h : rightD d) : ∃ th ti tr, d = .tuple [.tuple th, .tuple ti, .tuple tr] ∧ Parts th ti tr := by
  obtain ⟨th, ti, tr, e, a, b, c, f, g, h, i, j, k⟩ := h
  exact ⟨th, ti, tr, e, a, b, c, f, g, h, i, j, k⟩
theorem inR_mono {d : PyData} (h : inR 0 2 d = true) : inR 0 15 d = true := by
  cases d with
  | int i =>
    have h : (decide (0 ≤ i) && decide (i ≤ 2)) = true := h
    rw [Bool.and_eq_true, decide_eq_true_eq, decide_eq_true_eq] at h
    show (decide (0 ≤ i) && decide (i ≤ 15)) = true
    rw [decide_eq_true h.1, decide_eq_true (by omega)]
    rfl
  | _ => cases h
theorem sub3 {ds : List PyData} (h : ds.Sublist [.int 0, .int 1, .int 2]) : ascR 0 15 (.tuple ds) = true ∧ ds.length ≤ 3 ∧ ∀ y ∈ ds, small y := by
  refine ⟨?_, h.length_le, fun y hy => fm trivial (fm trivial (fm trivial fm0)) y (h.subset hy)⟩
  cases h with
  | cons _ h =>
    cases h with
    | cons _ h =>
      cases h with
      | cons _ h => cases h; decide
      | cons_cons _ h => cases h; decide
    | cons_cons _ h =>
      cases h with
      | cons _ h => cases h; decide
      | cons_cons _ h => cases h; decide
  | cons_cons _ h =>
    cases h with
    | cons _ h =>
      cases h with
      | cons _ h => cases h; decide
      | cons_cons _ h => cases h; decide
    | cons_cons _ h =>
      cases h with
      | cons _ h => cases h; decide
      | cons_cons _ h => cases h; decide
variable (P : Parts th ti tr)
include P
theorem Parts.th_ok : ¬ ((decide ((1 : Int) ≤ th.length) && decide ((th.length : Int) ≤ 24)) && th.all (inR 0 15)) = false := by
  rw [range_good P.t1 (by have := P.t2; omega), Bool.true_and, Bool.not_eq_false, List.all_eq_true]
  exact fun x hx => inR_mono (P.t3 x hx)
theorem Parts.ti_ok : ¬ (decide ((ti.length : Int) ≤ 16) && ti.all (ascR 0 15)) = false := by
  have := P.i2
  rw [decide_eq_true (by omega), Bool.true_and, Bool.not_eq_false, List.all_eq_true]
  intro x hx
  obtain ⟨ds, rfl, h⟩ := P.i3 x hx
  exact (sub3 h).1
theorem Parts.sT : small (.tuple th) ∧ ∀ y ∈ rowOf (.tuple th), small y := sa_row (by have := P.t2; omega) fun y hy => inR_small (P.t3 y hy)
theorem Parts.sI : small (.tuple ti) ∧ ∀ y ∈ rowOf (.tuple ti), small y := sa_row (by have := P.i2; omega) fun y hy => by
  obtain ⟨ds, rfl, h⟩ := P.i3 y hy
  have := (sub3 h).2.1
  show ds.length ≤ 1000
  omega
theorem tr_small : ∀ y ∈ tr, small y := fun y hy => by
  obtain ⟨j, rfl, _⟩ := P.r3 y hy
  show [PyData.int j].length ≤ 1000
  simp
theorem Parts.sR : small (.tuple tr) ∧ ∀ y ∈ rowOf (.tuple tr), small y := sa_row (by have := P.r2; omega) (tr_small P)
theorem Parts.sA : smallAll (.tuple [.tuple th, .tuple ti, .tuple tr]) := sa (by simp) (fm P.sT (fm P.sI (fm P.sR fm0)))
theorem Parts.none : ckD (.tuple [.tuple th, .tuple ti, .tuple tr]) = none := by
  rw [ckD_eq, if_neg P.th_ok, if_neg P.ti_ok, if_neg, if_neg]
  · rw [Bool.not_eq_false, List.all_eq_true]
    intro x hx
    obtain ⟨j, rfl, h0, h1⟩ := P.r3 x hx
    show ([PyData.int j].all (inR 0 ((ti.length : Int) - 1)) && true) = true
    rw [List.all_cons, List.all_nil]
    show (((decide (0 ≤ j) && decide (j ≤ (ti.length : Int) - 1)) && true) && true) = true
    rw [decide_eq_true h0, decide_eq_true (by omega)]
    rfl
  · rw [range_good P.r1 (by have := P.r2; omega)]
    decide
theorem d_thr {o : PyData} (h : oddT o) : WP ckD (.tuple [.tuple ([o] ++ [.tuple ti, .tuple tr]), .str "threading"]) := by
  obtain ⟨l, rfl, hl, hs, hb⟩ := h
  refine wp (sa (by simp) (fm (sa_row hl hs) (fm P.sI (fm P.sR fm0)))) ?_
  show ckD (.tuple [.tuple l, .tuple ti, .tuple tr]) = _
  rw [ckD_eq, if_pos]
  rcases hb with hb | hb | hb
  · rw [range_bad (.inl hb)]; rfl
  · rw [range_bad (.inr hb)]; rfl
  · rw [all_bad hb, Bool.and_false]
theorem d_tie {o : PyData} (h : oddI o) : WP ckD (.tuple [.tuple [.tuple th, o, .tuple tr], .str "tieup"]) := by
  obtain ⟨l, rfl, hl, hs, hb⟩ := h
  refine wp (sa (by simp) (fm P.sT (fm (sa_row hl hs) (fm P.sR fm0)))) ?_
  rw [ckD_eq, if_neg P.th_ok, if_pos]
  rcases hb with hb | hb
  · rw [decide_eq_false (by omega)]; rfl
  · rw [all_bad hb, Bool.and_false]
theorem d_tre {o : PyData} (h : oddR ti.length o) : WP ckD (.tuple [.tuple [.tuple th, .tuple ti, o], .str "treadling"]) := by
  obtain ⟨l, rfl, hl, hs, hb⟩ := h
  refine wp (sa (by simp) (fm P.sT (fm P.sI (fm (sa_row hl hs) fm0)))) ?_
  rw [ckD_eq, if_neg P.th_ok, if_neg P.ti_ok]
  rcases hb with hb | hb | hb
  · rw [if_pos (range_bad (.inl hb))]
  · rw [if_pos (range_bad (.inr hb))]
  · by_cases z : (decide ((1 : Int) ≤ l.length) && decide ((l.length : Int) ≤ 24)) = false
    · rw [if_pos z]
    · rw [if_neg z, if_pos (all_bad hb)]
theorem w_drows : ∀ d ∈ [PyData.tuple [.none, .str "form"], .tuple [.tuple [.tuple th, .tuple ti], .str "form"], .tuple [.tuple ([.tuple th, .tuple ti, .tuple tr] ++ [.tuple []]), .str "form"], .tuple [.tuple ([.int 5] ++ [.tuple ti, .tuple tr]), .str "form"], .tuple [.tuple ([.tuple th, .tuple ti] ++ [.str "0"]), .str "form"]], WP ckD d :=
  fm (wp ⟨trivial, fm0⟩ rfl) <| fm (wp (sa (by simp) (fm P.sT (fm P.sI fm0))) rfl) <| fm (wp (sa (by simp) (fm P.sT (fm P.sI (fm P.sR (fm (sa_row (by simp) fm0) fm0))))) rfl) <| fm (wp (sa (by simp) (fm ⟨trivial, fm0⟩ (fm P.sI (fm P.sR fm0)))) rfl) <| fm (wp (sa (by simp) (fm P.sT (fm P.sI (fm ⟨trivial, fm0⟩ fm0)))) rfl) fm0
theorem w_thr : ∀ o ∈ [PyData.tuple [], .tuple (List.replicate (25 : Int).toNat [PyData.int 0]).flatten, .tuple (th.drop 1 ++ [.int 16]), .tuple (th.drop 1 ++ [.int (-1)]), .tuple (th.drop 1 ++ [.bool true]), .tuple (th.drop 1 ++ [.none])], oddT o := by
  have a : ∀ x, inR 0 15 x = false → small x → oddT (.tuple (th.drop 1 ++ [x])) := fun x hx sx => ⟨_, rfl, by have := P.t2; simp; omega, fma (fun y hy => inR_small (P.t3 y (List.mem_of_mem_drop hy))) (fm sx fm0), .inr (.inr ⟨x, by simp, hx⟩)⟩
  refine fm ⟨_, rfl, by simp, fm0, .inl rfl⟩ <| fm ⟨_, rfl, by rw [flat_len]; decide, fun y hy => ?_, .inr (.inl (by rw [flat_len]; decide))⟩ <| fm (a _ (by decide) trivial) <| fm (a _ (by decide) trivial) <| fm (a _ (by decide) trivial) <| fm (a _ (by decide) trivial) fm0
  rw [List.mem_singleton.mp (flat_mem hy)]
  trivial
theorem w_tie : ∀ o ∈ [PyData.tuple (List.replicate (17 : Int).toNat [PyData.tuple [.int 0]]).flatten, .tuple (ti ++ [.tuple [.int 1, .int 0]]), .tuple (ti ++ [.tuple [.int 0, .int 0]]), .tuple (ti ++ [.tuple [.int 16]]), .tuple (ti ++ [.int 5]), .tuple (ti ++ [.tuple [.bool false]]), .tuple (ti ++ [.tuple [.int (-1), .int 0]])], oddI o := by
  have a : ∀ x, ascR 0 15 x = false → small x → oddI (.tuple (ti ++ [x])) := fun x hx sx => ⟨_, rfl, by have := P.i2; simp; omega, fma P.sI.2 (fm sx fm0), .inr ⟨x, by simp, hx⟩⟩
  refine fm ⟨_, rfl, by rw [flat_len]; decide, fun y hy => ?_, .inl (by rw [flat_len]; decide)⟩ <| fm (a _ (by decide) (by simp [small])) <| fm (a _ (by decide) (by simp [small])) <| fm (a _ (by decide) (by simp [small])) <| fm (a _ (by decide) trivial) <| fm (a _ (by decide) (by simp [small])) <| fm (a _ (by decide) (by simp [small])) fm0
  rw [List.mem_singleton.mp (flat_mem hy)]
  simp [small]
theorem w_tre : ∀ o ∈ [PyData.tuple [], .tuple (List.replicate (25 : Int).toNat [PyData.tuple [.int 0]]).flatten, .tuple (tr.dropLast ++ [.tuple [.int (ti.length : Int)]]), .tuple (tr.dropLast ++ [.tuple [.int (-1)]]), .tuple (tr.dropLast ++ [.tuple [.bool false]]), .tuple (tr.dropLast ++ [.none]), .tuple (tr.dropLast ++ [.tuple [.int 0, .int 0]]), .tuple (tr.dropLast ++ [.int 0])], oddR ti.length o := by
  have a : ∀ x, ascR 0 ((ti.length : Int) - 1) x = false → small x → oddR ti.length (.tuple (tr.dropLast ++ [x])) := fun x hx sx => ⟨_, rfl, by have := P.r2; simp; omega, fma (fun y hy => tr_small P y (mem_init hy)) (fm sx fm0), .inr (.inr ⟨x, by simp, hx⟩)⟩
  refine fm ⟨_, rfl, by simp, fm0, .inl rfl⟩ <| fm ⟨_, rfl, by rw [flat_len]; decide, fun y hy => ?_, .inr (.inl (by rw [flat_len]; decide))⟩ <| fm (a _ ?_ (by simp [small])) <| fm (a _ ?_ (by simp [small])) <| fm (a _ rfl (by simp [small])) <| fm (a _ rfl trivial) <| fm (a _ ?_ (by simp [small])) <| fm (a _ rfl trivial) fm0
  · rw [List.mem_singleton.mp (flat_mem hy)]
    simp [small]
  · simp [ascR, inR]
    omega
  · simp [ascR, inR]
  · simp [ascR, inR, ups]
end
end DX

set_option Elab.async false
set_option linter.all false
set_option maxRecDepth 100000
set_option maxHeartbeats 2000000
/-! for x in [..]: rows.append(..) -/
namespace DX
open PySem PySem.Spec PyProof.Rows L2 HX
section
variable {K : PySem.W.Frag}
/-- the list at a: n data of which W holds -/
def LstW (K : PySem.W.Frag) (a : Addr) (W : PyData → Prop) (n : Nat) (H : Hp) : Prop := ∃ xs ds, H a = some (.lst xs) ∧ TdAll K H xs ds ∧ xs.length = n ∧ ∀ d ∈ ds, W d
theorem LstW.mono {a : Addr} {W : PyData → Prop} {n : Nat} {H H' : Hp} (e : Evl.Ex H H') (h : LstW K a W n H) : LstW K a W n H' := by
  obtain ⟨xs, ds, h1, h2, h3, h4⟩ := h
  exact ⟨xs, ds, e _ _ h1, TdAll.mono (hrE K) e _ h2, h3, h4⟩
theorem for_app {P W : PyData → Prop} {a : Addr} {n i j : Nat} {ds : List PyData} {tl te : TE} {D : Ends} {σ : L2.St} {H0 H : Hp} (e0 : Evl.Ex H0 H) (n0 : H0 a = none) (h6 : ∀ o, (σ.set j o)[i]? = some (some (.ref a))) (h7 : ∃ o, σ.set j o = σ)
    (hl : EvL (hrE K) tl σ H ds) (hp : ∀ d ∈ ds, P d) (st : LstW K a W n H) (hn : n + ds.length ≤ 1000)
    (he : ∀ d, P d → ∀ v H1, (∀ b xs, SqT K H b xs → SqT K H1 b xs) → Td K H1 v d → EvP (hrE K) te (σ.set j (some v)) H1 W)
    (k : ∀ o H1, Evl.Ex H0 H1 → (∀ b xs, SqT K H b xs → SqT K H1 b xs) → LstW K a W (n + ds.length) H1 → D.nx (σ.set j o) H1) :
    tFor (iList K tl) (gName j) (tDrop (tBM K "list" rAppend (tVar i) (tCons te tNil))) D σ H := hl H (Evl.Ex.refl H) _ fun p ys H1 np e1 hy ty => by
  have nap : a ≠ p := fun z => by
    obtain ⟨xs, _, h, _⟩ := st
    rw [z, np] at h
    cases h
  have ly := ty.len
  refine ⟨p, rfl, ⟨ys, Evl.sq_of hy⟩, for_list (xs := ys) (fun m σ' H' => Evl.Ex H0 H' ∧ ∃ o, σ' = σ.set j o ∧ (∀ b xs, SqT K H b xs → SqT K H' b xs) ∧ H' p = some (.lst ys) ∧ TdAll K H' ys ds ∧ LstW K a W (n + m) H') ?_ (fun m σ' H' _ ⟨_, _, _, _, h, _⟩ => Evl.sq_of h) ?_ ?_⟩
  · obtain ⟨o, ho⟩ := h7
    exact ⟨Evl.Ex.trans e0 e1, o, ho.symm, fun b xs h => (hrE K).tup e1 h, hy, ty, LstW.mono e1 st⟩
  · rintro m x σ' H2 hx ⟨e2, o, rfl, K2, hy2, ty2, xs, rs, h1, h2, h3, h4⟩
    obtain ⟨d, hd, tx⟩ := ty2.get hx
    have hm : m < ys.length := (List.getElem?_eq_some_iff.mp hx).1
    show tDrop _ _ ((σ.set j o).set j (some x)) H2
    rw [List.set_set]
    refine ⟨.ref a, h6 _, Or.inl ⟨rfl, xs, Evl.sq_of h1⟩, he d (hp d (List.mem_of_getElem? hd)) x H2 K2 tx H2 (Evl.Ex.refl _) _ fun v dv H3 e3 t3 w3 => ?_⟩
    have h13 := e3 _ _ h1
    refine ⟨a, xs, v, rfl, rfl, h13, Evl.sz_lt (by omega), ?_⟩
    have up := fun w => sqT_updL (K := K) (w := w) h13
    refine ⟨Evl.Ex.mut (Evl.Ex.trans e2 e3) n0, _, rfl, fun b zs h => up _ b zs ((hrE K).tup e3 (K2 b zs h)), by rw [upd_ne (Ne.symm nap)]; exact e3 _ _ hy2, TdAll.monoT (up _) _ (TdAll.mono (hrE K) e3 _ ty2),
      xs ++ [v], rs ++ [dv], upd_same, TdAll.monoT (up _) _ ((TdAll.mono (hrE K) e3 _ h2).app (.cons t3 .nil)), by rw [List.length_append, h3]; rfl, fma h4 (fm w3 fm0)⟩
  · rintro σ' H2 ⟨e2, o, rfl, K2, hy2, ty2, st2⟩
    rw [ly] at st2
    exact k o H2 e2 K2 st2
end
end DX

set_option Elab.async false
set_option linter.all false
set_option maxRecDepth 100000
set_option maxHeartbeats 0
/-! the facts by name -/
namespace K5
open PySem PySem.Spec PyProof.Rows L2 He HX
def fdOf (K : PySem.W.Frag) (a : Addr) : FuncData := match K.lookup a with
  | some ⟨_, _, .func fd, _⟩ => fd
  | _ => default
abbrev fdx (K : PySem.W.Frag) (x : Str) : FuncData := fdOf K (ga K x)
abbrev FnP (K : PySem.W.Frag) (x : Str) (st : Stmt) (f : Addr) (fd : FuncData) : Prop := FunD K x x (defArgs st) (defBody st) (defScope st) [] [] f fd
/-- what the head has left -/
structure Tx (K : PySem.W.Frag) (mg : Str → Option Value) : Prop where
  says : hk.Says K
  heap : ∃ h : Heap, K.In h ∧ h.Ns mainGlobals mg
section
variable {K : PySem.W.Frag} {mg : Str → Option Value}
theorem fn_of_d {d : DefD} (i : Nat) (T : Tx K mg) (h : fnL[i]? = some d) (h2 : fAd K d.at_ = ga K d.name) (h3 : d.dfl = []) (h4 : d.kwd = []) (h5 : d.qual = d.name) : FunD K d.name d.name d.params d.body d.scope [] [] (ga K d.name) (fdx K d.name) := by
  obtain ⟨fd, F⟩ := T.says.d.def_ i (d := d) h
  rw [h2, h5] at F
  have e1 : d.dvs K = [] := by unfold DefD.dvs; rw [h3]; rfl
  have e2 : d.kws K = [] := by unfold DefD.kws; rw [h4]; rfl
  rw [e1, e2] at F
  obtain ⟨oc, od, dV, kV, doc, pm, an, cdv, ct, osl, e, lk, r⟩ := F.ex
  have e3 : fdx K d.name = fd := by
    show fdOf K (ga K d.name) = fd
    unfold fdOf
    rw [lk]
  rw [e3]
  exact F
theorem gl_of {x : Str} (i : Nat) (T : Tx K mg) (h : faL[i]? = some (.glo x)) : mg x = some (.ref (ga K x)) := by
  obtain ⟨hp, X, G⟩ := T.heap
  exact glo_ok X G (T.says.d.fact i h)
theorem fr_of {x : Str} (i : Nat) (T : Tx K mg) (h : faL[i]? = some (.free x)) : mg x = none := by
  obtain ⟨hp, X, G⟩ := T.heap
  exact free_ok X G (T.says.d.fact i h)
theorem in_of {x : Str} {n : Int} (i : Nat) (T : Tx K mg) (h : faL[i]? = some (.int x n)) : ∃ t, mg x = some (.int n t) := by
  obtain ⟨hp, X, G⟩ := T.heap
  exact int_ok X G (T.says.d.fact i h)
theorem g_is_integer (T : Tx K mg) : mg "is_integer" = some (.ref (ga K "is_integer")) := gl_of 0 T rfl
theorem g_in_range (T : Tx K mg) : mg "in_range" = some (.ref (ga K "in_range")) := gl_of 1 T rfl
theorem g_is_ascending (T : Tx K mg) : mg "is_ascending" = some (.ref (ga K "is_ascending")) := gl_of 2 T rfl
theorem g_check_cloth (T : Tx K mg) : mg "check_cloth" = some (.ref (ga K "check_cloth")) := gl_of 3 T rfl
theorem g_check_draft (T : Tx K mg) : mg "check_draft" = some (.ref (ga K "check_draft")) := gl_of 4 T rfl
theorem g_needs (T : Tx K mg) : mg "needs" = some (.ref (ga K "needs")) := gl_of 5 T rfl
theorem g_drawn (T : Tx K mg) : mg "drawn" = some (.ref (ga K "drawn")) := gl_of 6 T rfl
theorem g_fewest_treadles (T : Tx K mg) : mg "fewest_treadles" = some (.ref (ga K "fewest_treadles")) := gl_of 7 T rfl
theorem g_accept_treadles (T : Tx K mg) : mg "accept_treadles" = some (.ref (ga K "accept_treadles")) := gl_of 8 T rfl
theorem g_lifted_with (T : Tx K mg) : mg "lifted_with" = some (.ref (ga K "lifted_with")) := gl_of 9 T rfl
theorem g_can_be_lifted (T : Tx K mg) : mg "can_be_lifted" = some (.ref (ga K "can_be_lifted")) := gl_of 10 T rfl
theorem g_layers (T : Tx K mg) : mg "layers" = some (.ref (ga K "layers")) := gl_of 11 T rfl
theorem g_parted (T : Tx K mg) : mg "parted" = some (.ref (ga K "parted")) := gl_of 12 T rfl
theorem g_hangs_together (T : Tx K mg) : mg "hangs_together" = some (.ref (ga K "hangs_together")) := gl_of 13 T rfl
theorem g_falls_by_sums (T : Tx K mg) : mg "falls_by_sums" = some (.ref (ga K "falls_by_sums")) := gl_of 14 T rfl
theorem g_accept_together (T : Tx K mg) : mg "accept_together" = some (.ref (ga K "accept_together")) := gl_of 15 T rfl
theorem g_demand_piece (T : Tx K mg) : mg "demand_piece" = some (.ref (ga K "demand_piece")) := gl_of 16 T rfl
theorem g_apart_without (T : Tx K mg) : mg "apart_without" = some (.ref (ga K "apart_without")) := gl_of 17 T rfl
theorem g_weak_threads (T : Tx K mg) : mg "weak_threads" = some (.ref (ga K "weak_threads")) := gl_of 18 T rfl
theorem g_most_chains (T : Tx K mg) : mg "most_chains" = some (.ref (ga K "most_chains")) := gl_of 19 T rfl
theorem g_accept_chains (T : Tx K mg) : mg "accept_chains" = some (.ref (ga K "accept_chains")) := gl_of 20 T rfl
theorem g_strength (T : Tx K mg) : mg "strength" = some (.ref (ga K "strength")) := gl_of 21 T rfl
theorem g_accept_strength (T : Tx K mg) : mg "accept_strength" = some (.ref (ga K "accept_strength")) := gl_of 22 T rfl
theorem g_floats (T : Tx K mg) : mg "floats" = some (.ref (ga K "floats")) := gl_of 23 T rfl
theorem g_longest (T : Tx K mg) : mg "longest" = some (.ref (ga K "longest")) := gl_of 24 T rfl
theorem g_face_of (T : Tx K mg) : mg "face_of" = some (.ref (ga K "face_of")) := gl_of 25 T rfl
theorem g_interlacings (T : Tx K mg) : mg "interlacings" = some (.ref (ga K "interlacings")) := gl_of 26 T rfl
theorem g_too_long (T : Tx K mg) : mg "too_long" = some (.ref (ga K "too_long")) := gl_of 27 T rfl
theorem g_picture (T : Tx K mg) : mg "picture" = some (.ref (ga K "picture")) := gl_of 28 T rfl
theorem g_picture_behind (T : Tx K mg) : mg "picture_behind" = some (.ref (ga K "picture_behind")) := gl_of 29 T rfl
theorem g_plan_of (T : Tx K mg) : mg "plan_of" = some (.ref (ga K "plan_of")) := gl_of 30 T rfl
theorem g_tallies (T : Tx K mg) : mg "tallies" = some (.ref (ga K "tallies")) := gl_of 31 T rfl
theorem g_nearest (T : Tx K mg) : mg "nearest" = some (.ref (ga K "nearest")) := gl_of 32 T rfl
theorem g_accept_plan_of (T : Tx K mg) : mg "accept_plan_of" = some (.ref (ga K "accept_plan_of")) := gl_of 33 T rfl
theorem g_accept_nearest (T : Tx K mg) : mg "accept_nearest" = some (.ref (ga K "accept_nearest")) := gl_of 34 T rfl
theorem g_fewest_colours (T : Tx K mg) : mg "fewest_colours" = some (.ref (ga K "fewest_colours")) := gl_of 35 T rfl
theorem g_accept_colours (T : Tx K mg) : mg "accept_colours" = some (.ref (ga K "accept_colours")) := gl_of 36 T rfl
theorem g_reduced (T : Tx K mg) : mg "reduced" = some (.ref (ga K "reduced")) := gl_of 37 T rfl
theorem g_normal (T : Tx K mg) : mg "normal" = some (.ref (ga K "normal")) := gl_of 38 T rfl
theorem g_symmetries (T : Tx K mg) : mg "symmetries" = some (.ref (ga K "symmetries")) := gl_of 39 T rfl
theorem g_classes (T : Tx K mg) : mg "classes" = some (.ref (ga K "classes")) := gl_of 40 T rfl
theorem g_is_even (T : Tx K mg) : mg "is_even" = some (.ref (ga K "is_even")) := gl_of 41 T rfl
theorem g_turned (T : Tx K mg) : mg "turned" = some (.ref (ga K "turned")) := gl_of 42 T rfl
theorem g_compare (T : Tx K mg) : mg "compare" = some (.ref (ga K "compare")) := gl_of 43 T rfl
theorem g_accept_compare (T : Tx K mg) : mg "accept_compare" = some (.ref (ga K "accept_compare")) := gl_of 44 T rfl
theorem g_unstacked (T : Tx K mg) : mg "unstacked" = some (.ref (ga K "unstacked")) := gl_of 45 T rfl
theorem g_loosest (T : Tx K mg) : mg "loosest" = some (.ref (ga K "loosest")) := gl_of 46 T rfl
theorem g_folded (T : Tx K mg) : mg "folded" = some (.ref (ga K "folded")) := gl_of 47 T rfl
theorem g_twill_step (T : Tx K mg) : mg "twill_step" = some (.ref (ga K "twill_step")) := gl_of 48 T rfl
theorem g_accept_twill_step (T : Tx K mg) : mg "accept_twill_step" = some (.ref (ga K "accept_twill_step")) := gl_of 49 T rfl
theorem g_family (T : Tx K mg) : mg "family" = some (.ref (ga K "family")) := gl_of 50 T rfl
theorem g_bends (T : Tx K mg) : mg "bends" = some (.ref (ga K "bends")) := gl_of 51 T rfl
theorem g_lengths (T : Tx K mg) : mg "lengths" = some (.ref (ga K "lengths")) := gl_of 52 T rfl
theorem g_amounts (T : Tx K mg) : mg "amounts" = some (.ref (ga K "amounts")) := gl_of 53 T rfl
theorem g_woven (T : Tx K mg) : mg "woven" = some (.ref (ga K "woven")) := gl_of 54 T rfl
theorem g_tidy (T : Tx K mg) : mg "tidy" = some (.ref (ga K "tidy")) := gl_of 55 T rfl
theorem g_turned_draft (T : Tx K mg) : mg "turned_draft" = some (.ref (ga K "turned_draft")) := gl_of 56 T rfl
theorem g_reordered (T : Tx K mg) : mg "reordered" = some (.ref (ga K "reordered")) := gl_of 57 T rfl
theorem g_fewest_steps (T : Tx K mg) : mg "fewest_steps" = some (.ref (ga K "fewest_steps")) := gl_of 58 T rfl
theorem g_step_table (T : Tx K mg) : mg "step_table" = some (.ref (ga K "step_table")) := gl_of 59 T rfl
theorem g_accept_step_table (T : Tx K mg) : mg "accept_step_table" = some (.ref (ga K "accept_step_table")) := gl_of 60 T rfl
theorem g_steps_of (T : Tx K mg) : mg "steps_of" = some (.ref (ga K "steps_of")) := gl_of 61 T rfl
theorem g__law_draws (T : Tx K mg) : mg "_law_draws" = some (.ref (ga K "_law_draws")) := gl_of 62 T rfl
theorem g__law_more (T : Tx K mg) : mg "_law_more" = some (.ref (ga K "_law_more")) := gl_of 63 T rfl
theorem g__law_take (T : Tx K mg) : mg "_law_take" = some (.ref (ga K "_law_take")) := gl_of 64 T rfl
theorem g__law_one (T : Tx K mg) : mg "_law_one" = some (.ref (ga K "_law_one")) := gl_of 65 T rfl
theorem g__law_row (T : Tx K mg) : mg "_law_row" = some (.ref (ga K "_law_row")) := gl_of 66 T rfl
theorem g__law_planted (T : Tx K mg) : mg "_law_planted" = some (.ref (ga K "_law_planted")) := gl_of 67 T rfl
theorem g__law_sized (T : Tx K mg) : mg "_law_sized" = some (.ref (ga K "_law_sized")) := gl_of 68 T rfl
theorem g__law_cloth (T : Tx K mg) : mg "_law_cloth" = some (.ref (ga K "_law_cloth")) := gl_of 69 T rfl
theorem g__law_called_0 (T : Tx K mg) : mg "_law_called_0" = some (.ref (ga K "_law_called_0")) := gl_of 70 T rfl
theorem g__law_called_1 (T : Tx K mg) : mg "_law_called_1" = some (.ref (ga K "_law_called_1")) := gl_of 71 T rfl
theorem g__law_called_5 (T : Tx K mg) : mg "_law_called_5" = some (.ref (ga K "_law_called_5")) := gl_of 72 T rfl
theorem g__law_told (T : Tx K mg) : mg "_law_told" = some (.ref (ga K "_law_told")) := gl_of 73 T rfl
theorem g__law_second (T : Tx K mg) : mg "_law_second" = some (.ref (ga K "_law_second")) := gl_of 74 T rfl
theorem g__law_wrong_cloth (T : Tx K mg) : mg "_law_wrong_cloth" = some (.ref (ga K "_law_wrong_cloth")) := gl_of 75 T rfl
theorem g__law_draft (T : Tx K mg) : mg "_law_draft" = some (.ref (ga K "_law_draft")) := gl_of 76 T rfl
theorem g__law_wrong_draft (T : Tx K mg) : mg "_law_wrong_draft" = some (.ref (ga K "_law_wrong_draft")) := gl_of 77 T rfl
theorem g_law (T : Tx K mg) : mg "law" = some (.ref (ga K "law")) := gl_of 78 T rfl
theorem g_ClothError (T : Tx K mg) : mg "ClothError" = some (.ref (ga K "ClothError")) := gl_of 79 T rfl
theorem g_DraftError (T : Tx K mg) : mg "DraftError" = some (.ref (ga K "DraftError")) := gl_of 80 T rfl
theorem g_WeaveError (T : Tx K mg) : mg "WeaveError" = some (.ref (ga K "WeaveError")) := gl_of 81 T rfl
theorem n_isinstance (T : Tx K mg) : mg "isinstance" = none := fr_of 82 T rfl
theorem n_len (T : Tx K mg) : mg "len" = none := fr_of 83 T rfl
theorem n_tuple (T : Tx K mg) : mg "tuple" = none := fr_of 84 T rfl
theorem n_all (T : Tx K mg) : mg "all" = none := fr_of 85 T rfl
theorem n_zip (T : Tx K mg) : mg "zip" = none := fr_of 86 T rfl
theorem n_range (T : Tx K mg) : mg "range" = none := fr_of 87 T rfl
theorem n_int (T : Tx K mg) : mg "int" = none := fr_of 88 T rfl
theorem n_abs (T : Tx K mg) : mg "abs" = none := fr_of 89 T rfl
theorem n_list (T : Tx K mg) : mg "list" = none := fr_of 90 T rfl
theorem n_str (T : Tx K mg) : mg "str" = none := fr_of 91 T rfl
theorem n_bool (T : Tx K mg) : mg "bool" = none := fr_of 92 T rfl
theorem n_ValueError (T : Tx K mg) : mg "ValueError" = none := fr_of 93 T rfl
theorem i_MAX_ENDS (T : Tx K mg) : ∃ t, mg "MAX_ENDS" = some (.int 24 t) := in_of 94 T rfl
theorem i_MAX_PICKS (T : Tx K mg) : ∃ t, mg "MAX_PICKS" = some (.int 24 t) := in_of 95 T rfl
theorem i_MAX_SHAFTS (T : Tx K mg) : ∃ t, mg "MAX_SHAFTS" = some (.int 16 t) := in_of 96 T rfl
theorem i_MAX_TREADLES (T : Tx K mg) : ∃ t, mg "MAX_TREADLES" = some (.int 16 t) := in_of 97 T rfl
theorem x_ClothError_WeaveError (T : Tx K mg) : PySem.W.exmOne K (.ref (ga K "ClothError")) (.ref (ga K "WeaveError")) = some true := exm_ok (T.says.d.fact 98 rfl)
theorem x_DraftError_WeaveError (T : Tx K mg) : PySem.W.exmOne K (.ref (ga K "DraftError")) (.ref (ga K "WeaveError")) = some true := exm_ok (T.says.d.fact 99 rfl)
theorem x_ClothError_ClothError (T : Tx K mg) : PySem.W.exmOne K (.ref (ga K "ClothError")) (.ref (ga K "ClothError")) = some true := exm_ok (T.says.d.fact 100 rfl)
theorem F_is_integer (T : Tx K mg) : FnP K "is_integer" st_is_integer (ga K "is_integer") (fdx K "is_integer") := fn_of_d (d := dd_is_integer) 0 T rfl rfl rfl rfl rfl
theorem bd_is_integer (T : Tx K mg) : Binds K (fdx K "is_integer") ["value"] [] := (F_is_integer T).bindsN fun _ _ _ _ _ _ us hl => match us, hl with | [_], _ => rfl
theorem sc_is_integer : FnScope ["value"] ["value"] (defScope st_is_integer) := ⟨rfl, rfl, rfl, by decide +kernel, rfl, by decide +kernel, by decide +kernel⟩
theorem F_in_range (T : Tx K mg) : FnP K "in_range" st_in_range (ga K "in_range") (fdx K "in_range") := fn_of_d (d := dd_in_range) 1 T rfl rfl rfl rfl rfl
theorem bd_in_range (T : Tx K mg) : Binds K (fdx K "in_range") ["value", "least", "most"] [] := (F_in_range T).bindsN fun _ _ _ _ _ _ us hl => match us, hl with | [_, _, _], _ => rfl
theorem sc_in_range : FnScope ["value", "least", "most"] ["value", "least", "most"] (defScope st_in_range) := ⟨rfl, rfl, rfl, by decide +kernel, rfl, by decide +kernel, by decide +kernel⟩
theorem F_is_ascending (T : Tx K mg) : FnP K "is_ascending" st_is_ascending (ga K "is_ascending") (fdx K "is_ascending") := fn_of_d (d := dd_is_ascending) 2 T rfl rfl rfl rfl rfl
theorem bd_is_ascending (T : Tx K mg) : Binds K (fdx K "is_ascending") ["value", "least", "most"] [] := (F_is_ascending T).bindsN fun _ _ _ _ _ _ us hl => match us, hl with | [_, _, _], _ => rfl
theorem sc_is_ascending : FnScope ["value", "least", "most", "part", "first", "second"] ["value", "least", "most"] (defScope st_is_ascending) := ⟨rfl, rfl, rfl, by decide +kernel, rfl, by decide +kernel, by decide +kernel⟩
theorem F_check_cloth (T : Tx K mg) : FnP K "check_cloth" st_check_cloth (ga K "check_cloth") (fdx K "check_cloth") := fn_of_d (d := dd_check_cloth) 3 T rfl rfl rfl rfl rfl
theorem bd_check_cloth (T : Tx K mg) : Binds K (fdx K "check_cloth") ["cloth"] [] := (F_check_cloth T).bindsN fun _ _ _ _ _ _ us hl => match us, hl with | [_], _ => rfl
theorem sc_check_cloth : FnScope ["cloth", "row", "part"] ["cloth"] (defScope st_check_cloth) := ⟨rfl, rfl, rfl, by decide +kernel, rfl, by decide +kernel, by decide +kernel⟩
theorem F_check_draft (T : Tx K mg) : FnP K "check_draft" st_check_draft (ga K "check_draft") (fdx K "check_draft") := fn_of_d (d := dd_check_draft) 4 T rfl rfl rfl rfl rfl
theorem bd_check_draft (T : Tx K mg) : Binds K (fdx K "check_draft") ["draft"] [] := (F_check_draft T).bindsN fun _ _ _ _ _ _ us hl => match us, hl with | [_], _ => rfl
theorem sc_check_draft : FnScope ["draft", "part", "threading", "tieup", "treadling", "shaft", "ties", "pressed"] ["draft"] (defScope st_check_draft) := ⟨rfl, rfl, rfl, by decide +kernel, rfl, by decide +kernel, by decide +kernel⟩
theorem F_needs (T : Tx K mg) : FnP K "needs" st_needs (ga K "needs") (fdx K "needs") := fn_of_d (d := dd_needs) 5 T rfl rfl rfl rfl rfl
theorem bd_needs (T : Tx K mg) : Binds K (fdx K "needs") ["cloth"] [] := (F_needs T).bindsN fun _ _ _ _ _ _ us hl => match us, hl with | [_], _ => rfl
theorem sc_needs : FnScope ["cloth"] ["cloth"] (defScope st_needs) := ⟨rfl, rfl, rfl, by decide +kernel, rfl, by decide +kernel, by decide +kernel⟩
theorem F_drawn (T : Tx K mg) : FnP K "drawn" st_drawn (ga K "drawn") (fdx K "drawn") := fn_of_d (d := dd_drawn) 6 T rfl rfl rfl rfl rfl
theorem bd_drawn (T : Tx K mg) : Binds K (fdx K "drawn") ["cloth"] [] := (F_drawn T).bindsN fun _ _ _ _ _ _ us hl => match us, hl with | [_], _ => rfl
theorem sc_drawn : FnScope ["cloth"] ["cloth"] (defScope st_drawn) := ⟨rfl, rfl, rfl, by decide +kernel, rfl, by decide +kernel, by decide +kernel⟩
theorem F_fewest_treadles (T : Tx K mg) : FnP K "fewest_treadles" st_fewest_treadles (ga K "fewest_treadles") (fdx K "fewest_treadles") := fn_of_d (d := dd_fewest_treadles) 7 T rfl rfl rfl rfl rfl
theorem bd_fewest_treadles (T : Tx K mg) : Binds K (fdx K "fewest_treadles") ["cloth"] [] := (F_fewest_treadles T).bindsN fun _ _ _ _ _ _ us hl => match us, hl with | [_], _ => rfl
theorem sc_fewest_treadles : FnScope ["cloth"] ["cloth"] (defScope st_fewest_treadles) := ⟨rfl, rfl, rfl, by decide +kernel, rfl, by decide +kernel, by decide +kernel⟩
theorem F_accept_treadles (T : Tx K mg) : FnP K "accept_treadles" st_accept_treadles (ga K "accept_treadles") (fdx K "accept_treadles") := fn_of_d (d := dd_accept_treadles) 8 T rfl rfl rfl rfl rfl
theorem bd_accept_treadles (T : Tx K mg) : Binds K (fdx K "accept_treadles") ["cloth", "told"] [] := (F_accept_treadles T).bindsN fun _ _ _ _ _ _ us hl => match us, hl with | [_, _], _ => rfl
theorem sc_accept_treadles : FnScope ["cloth", "told"] ["cloth", "told"] (defScope st_accept_treadles) := ⟨rfl, rfl, rfl, by decide +kernel, rfl, by decide +kernel, by decide +kernel⟩
theorem F_lifted_with (T : Tx K mg) : FnP K "lifted_with" st_lifted_with (ga K "lifted_with") (fdx K "lifted_with") := fn_of_d (d := dd_lifted_with) 9 T rfl rfl rfl rfl rfl
theorem bd_lifted_with (T : Tx K mg) : Binds K (fdx K "lifted_with") ["cloth", "threads"] [] := (F_lifted_with T).bindsN fun _ _ _ _ _ _ us hl => match us, hl with | [_, _], _ => rfl
theorem sc_lifted_with : FnScope ["cloth", "threads"] ["cloth", "threads"] (defScope st_lifted_with) := ⟨rfl, rfl, rfl, by decide +kernel, rfl, by decide +kernel, by decide +kernel⟩
theorem F_can_be_lifted (T : Tx K mg) : FnP K "can_be_lifted" st_can_be_lifted (ga K "can_be_lifted") (fdx K "can_be_lifted") := fn_of_d (d := dd_can_be_lifted) 10 T rfl rfl rfl rfl rfl
theorem bd_can_be_lifted (T : Tx K mg) : Binds K (fdx K "can_be_lifted") ["cloth", "threads"] [] := (F_can_be_lifted T).bindsN fun _ _ _ _ _ _ us hl => match us, hl with | [_, _], _ => rfl
theorem sc_can_be_lifted : FnScope ["cloth", "threads"] ["cloth", "threads"] (defScope st_can_be_lifted) := ⟨rfl, rfl, rfl, by decide +kernel, rfl, by decide +kernel, by decide +kernel⟩
theorem F_layers (T : Tx K mg) : FnP K "layers" st_layers (ga K "layers") (fdx K "layers") := fn_of_d (d := dd_layers) 11 T rfl rfl rfl rfl rfl
theorem bd_layers (T : Tx K mg) : Binds K (fdx K "layers") ["cloth"] [] := (F_layers T).bindsN fun _ _ _ _ _ _ us hl => match us, hl with | [_], _ => rfl
theorem sc_layers : FnScope ["cloth"] ["cloth"] (defScope st_layers) := ⟨rfl, rfl, rfl, by decide +kernel, rfl, by decide +kernel, by decide +kernel⟩
theorem F_parted (T : Tx K mg) : FnP K "parted" st_parted (ga K "parted") (fdx K "parted") := fn_of_d (d := dd_parted) 12 T rfl rfl rfl rfl rfl
theorem bd_parted (T : Tx K mg) : Binds K (fdx K "parted") ["cloth"] [] := (F_parted T).bindsN fun _ _ _ _ _ _ us hl => match us, hl with | [_], _ => rfl
theorem sc_parted : FnScope ["cloth", "row"] ["cloth"] (defScope st_parted) := ⟨rfl, rfl, rfl, by decide +kernel, rfl, by decide +kernel, by decide +kernel⟩
theorem F_hangs_together (T : Tx K mg) : FnP K "hangs_together" st_hangs_together (ga K "hangs_together") (fdx K "hangs_together") := fn_of_d (d := dd_hangs_together) 13 T rfl rfl rfl rfl rfl
theorem bd_hangs_together (T : Tx K mg) : Binds K (fdx K "hangs_together") ["cloth"] [] := (F_hangs_together T).bindsN fun _ _ _ _ _ _ us hl => match us, hl with | [_], _ => rfl
theorem sc_hangs_together : FnScope ["cloth"] ["cloth"] (defScope st_hangs_together) := ⟨rfl, rfl, rfl, by decide +kernel, rfl, by decide +kernel, by decide +kernel⟩
theorem F_falls_by_sums (T : Tx K mg) : FnP K "falls_by_sums" st_falls_by_sums (ga K "falls_by_sums") (fdx K "falls_by_sums") := fn_of_d (d := dd_falls_by_sums) 14 T rfl rfl rfl rfl rfl
theorem bd_falls_by_sums (T : Tx K mg) : Binds K (fdx K "falls_by_sums") ["cloth"] [] := (F_falls_by_sums T).bindsN fun _ _ _ _ _ _ us hl => match us, hl with | [_], _ => rfl
theorem sc_falls_by_sums : FnScope ["cloth"] ["cloth"] (defScope st_falls_by_sums) := ⟨rfl, rfl, rfl, by decide +kernel, rfl, by decide +kernel, by decide +kernel⟩
theorem F_accept_together (T : Tx K mg) : FnP K "accept_together" st_accept_together (ga K "accept_together") (fdx K "accept_together") := fn_of_d (d := dd_accept_together) 15 T rfl rfl rfl rfl rfl
theorem bd_accept_together (T : Tx K mg) : Binds K (fdx K "accept_together") ["cloth", "told"] [] := (F_accept_together T).bindsN fun _ _ _ _ _ _ us hl => match us, hl with | [_, _], _ => rfl
theorem sc_accept_together : FnScope ["cloth", "told"] ["cloth", "told"] (defScope st_accept_together) := ⟨rfl, rfl, rfl, by decide +kernel, rfl, by decide +kernel, by decide +kernel⟩
theorem F_demand_piece (T : Tx K mg) : FnP K "demand_piece" st_demand_piece (ga K "demand_piece") (fdx K "demand_piece") := fn_of_d (d := dd_demand_piece) 16 T rfl rfl rfl rfl rfl
theorem bd_demand_piece (T : Tx K mg) : Binds K (fdx K "demand_piece") ["cloth"] [] := (F_demand_piece T).bindsN fun _ _ _ _ _ _ us hl => match us, hl with | [_], _ => rfl
theorem sc_demand_piece : FnScope ["cloth"] ["cloth"] (defScope st_demand_piece) := ⟨rfl, rfl, rfl, by decide +kernel, rfl, by decide +kernel, by decide +kernel⟩
theorem F_apart_without (T : Tx K mg) : FnP K "apart_without" st_apart_without (ga K "apart_without") (fdx K "apart_without") := fn_of_d (d := dd_apart_without) 17 T rfl rfl rfl rfl rfl
theorem bd_apart_without (T : Tx K mg) : Binds K (fdx K "apart_without") ["cloth", "gone"] [] := (F_apart_without T).bindsN fun _ _ _ _ _ _ us hl => match us, hl with | [_, _], _ => rfl
theorem sc_apart_without : FnScope ["cloth", "gone"] ["cloth", "gone"] (defScope st_apart_without) := ⟨rfl, rfl, rfl, by decide +kernel, rfl, by decide +kernel, by decide +kernel⟩
theorem F_weak_threads (T : Tx K mg) : FnP K "weak_threads" st_weak_threads (ga K "weak_threads") (fdx K "weak_threads") := fn_of_d (d := dd_weak_threads) 18 T rfl rfl rfl rfl rfl
theorem bd_weak_threads (T : Tx K mg) : Binds K (fdx K "weak_threads") ["cloth"] [] := (F_weak_threads T).bindsN fun _ _ _ _ _ _ us hl => match us, hl with | [_], _ => rfl
theorem sc_weak_threads : FnScope ["cloth"] ["cloth"] (defScope st_weak_threads) := ⟨rfl, rfl, rfl, by decide +kernel, rfl, by decide +kernel, by decide +kernel⟩
theorem F_most_chains (T : Tx K mg) : FnP K "most_chains" st_most_chains (ga K "most_chains") (fdx K "most_chains") := fn_of_d (d := dd_most_chains) 19 T rfl rfl rfl rfl rfl
theorem bd_most_chains (T : Tx K mg) : Binds K (fdx K "most_chains") ["cloth", "start", "end"] [] := (F_most_chains T).bindsN fun _ _ _ _ _ _ us hl => match us, hl with | [_, _, _], _ => rfl
theorem sc_most_chains : FnScope ["cloth", "start", "end"] ["cloth", "start", "end"] (defScope st_most_chains) := ⟨rfl, rfl, rfl, by decide +kernel, rfl, by decide +kernel, by decide +kernel⟩
theorem F_accept_chains (T : Tx K mg) : FnP K "accept_chains" st_accept_chains (ga K "accept_chains") (fdx K "accept_chains") := fn_of_d (d := dd_accept_chains) 20 T rfl rfl rfl rfl rfl
theorem bd_accept_chains (T : Tx K mg) : Binds K (fdx K "accept_chains") ["cloth", "start", "end", "told"] [] := (F_accept_chains T).bindsN fun _ _ _ _ _ _ us hl => match us, hl with | [_, _, _, _], _ => rfl
theorem sc_accept_chains : FnScope ["cloth", "start", "end", "told"] ["cloth", "start", "end", "told"] (defScope st_accept_chains) := ⟨rfl, rfl, rfl, by decide +kernel, rfl, by decide +kernel, by decide +kernel⟩
theorem F_strength (T : Tx K mg) : FnP K "strength" st_strength (ga K "strength") (fdx K "strength") := fn_of_d (d := dd_strength) 21 T rfl rfl rfl rfl rfl
theorem bd_strength (T : Tx K mg) : Binds K (fdx K "strength") ["cloth"] [] := (F_strength T).bindsN fun _ _ _ _ _ _ us hl => match us, hl with | [_], _ => rfl
theorem sc_strength : FnScope ["cloth"] ["cloth"] (defScope st_strength) := ⟨rfl, rfl, rfl, by decide +kernel, rfl, by decide +kernel, by decide +kernel⟩
theorem F_accept_strength (T : Tx K mg) : FnP K "accept_strength" st_accept_strength (ga K "accept_strength") (fdx K "accept_strength") := fn_of_d (d := dd_accept_strength) 22 T rfl rfl rfl rfl rfl
theorem bd_accept_strength (T : Tx K mg) : Binds K (fdx K "accept_strength") ["cloth", "told"] [] := (F_accept_strength T).bindsN fun _ _ _ _ _ _ us hl => match us, hl with | [_, _], _ => rfl
theorem sc_accept_strength : FnScope ["cloth", "told"] ["cloth", "told"] (defScope st_accept_strength) := ⟨rfl, rfl, rfl, by decide +kernel, rfl, by decide +kernel, by decide +kernel⟩
theorem F_floats (T : Tx K mg) : FnP K "floats" st_floats (ga K "floats") (fdx K "floats") := fn_of_d (d := dd_floats) 23 T rfl rfl rfl rfl rfl
theorem bd_floats (T : Tx K mg) : Binds K (fdx K "floats") ["cloth"] [] := (F_floats T).bindsN fun _ _ _ _ _ _ us hl => match us, hl with | [_], _ => rfl
theorem sc_floats : FnScope ["cloth"] ["cloth"] (defScope st_floats) := ⟨rfl, rfl, rfl, by decide +kernel, rfl, by decide +kernel, by decide +kernel⟩
theorem F_longest (T : Tx K mg) : FnP K "longest" st_longest (ga K "longest") (fdx K "longest") := fn_of_d (d := dd_longest) 24 T rfl rfl rfl rfl rfl
theorem bd_longest (T : Tx K mg) : Binds K (fdx K "longest") ["cloth"] [] := (F_longest T).bindsN fun _ _ _ _ _ _ us hl => match us, hl with | [_], _ => rfl
theorem sc_longest : FnScope ["cloth"] ["cloth"] (defScope st_longest) := ⟨rfl, rfl, rfl, by decide +kernel, rfl, by decide +kernel, by decide +kernel⟩
theorem F_face_of (T : Tx K mg) : FnP K "face_of" st_face_of (ga K "face_of") (fdx K "face_of") := fn_of_d (d := dd_face_of) 25 T rfl rfl rfl rfl rfl
theorem bd_face_of (T : Tx K mg) : Binds K (fdx K "face_of") ["cloth"] [] := (F_face_of T).bindsN fun _ _ _ _ _ _ us hl => match us, hl with | [_], _ => rfl
theorem sc_face_of : FnScope ["cloth"] ["cloth"] (defScope st_face_of) := ⟨rfl, rfl, rfl, by decide +kernel, rfl, by decide +kernel, by decide +kernel⟩
theorem F_interlacings (T : Tx K mg) : FnP K "interlacings" st_interlacings (ga K "interlacings") (fdx K "interlacings") := fn_of_d (d := dd_interlacings) 26 T rfl rfl rfl rfl rfl
theorem bd_interlacings (T : Tx K mg) : Binds K (fdx K "interlacings") ["cloth"] [] := (F_interlacings T).bindsN fun _ _ _ _ _ _ us hl => match us, hl with | [_], _ => rfl
theorem sc_interlacings : FnScope ["cloth"] ["cloth"] (defScope st_interlacings) := ⟨rfl, rfl, rfl, by decide +kernel, rfl, by decide +kernel, by decide +kernel⟩
theorem F_too_long (T : Tx K mg) : FnP K "too_long" st_too_long (ga K "too_long") (fdx K "too_long") := fn_of_d (d := dd_too_long) 27 T rfl rfl rfl rfl rfl
theorem bd_too_long (T : Tx K mg) : Binds K (fdx K "too_long") ["cloth", "most"] [] := (F_too_long T).bindsN fun _ _ _ _ _ _ us hl => match us, hl with | [_, _], _ => rfl
theorem sc_too_long : FnScope ["cloth", "most"] ["cloth", "most"] (defScope st_too_long) := ⟨rfl, rfl, rfl, by decide +kernel, rfl, by decide +kernel, by decide +kernel⟩
theorem F_picture (T : Tx K mg) : FnP K "picture" st_picture (ga K "picture") (fdx K "picture") := fn_of_d (d := dd_picture) 28 T rfl rfl rfl rfl rfl
theorem bd_picture (T : Tx K mg) : Binds K (fdx K "picture") ["cloth", "plan"] [] := (F_picture T).bindsN fun _ _ _ _ _ _ us hl => match us, hl with | [_, _], _ => rfl
theorem sc_picture : FnScope ["cloth", "plan"] ["cloth", "plan"] (defScope st_picture) := ⟨rfl, rfl, rfl, by decide +kernel, rfl, by decide +kernel, by decide +kernel⟩
theorem F_picture_behind (T : Tx K mg) : FnP K "picture_behind" st_picture_behind (ga K "picture_behind") (fdx K "picture_behind") := fn_of_d (d := dd_picture_behind) 29 T rfl rfl rfl rfl rfl
theorem bd_picture_behind (T : Tx K mg) : Binds K (fdx K "picture_behind") ["cloth", "plan"] [] := (F_picture_behind T).bindsN fun _ _ _ _ _ _ us hl => match us, hl with | [_, _], _ => rfl
theorem sc_picture_behind : FnScope ["cloth", "plan"] ["cloth", "plan"] (defScope st_picture_behind) := ⟨rfl, rfl, rfl, by decide +kernel, rfl, by decide +kernel, by decide +kernel⟩
theorem F_plan_of (T : Tx K mg) : FnP K "plan_of" st_plan_of (ga K "plan_of") (fdx K "plan_of") := fn_of_d (d := dd_plan_of) 30 T rfl rfl rfl rfl rfl
theorem bd_plan_of (T : Tx K mg) : Binds K (fdx K "plan_of") ["cloth", "rows"] [] := (F_plan_of T).bindsN fun _ _ _ _ _ _ us hl => match us, hl with | [_, _], _ => rfl
theorem sc_plan_of : FnScope ["cloth", "rows"] ["cloth", "rows"] (defScope st_plan_of) := ⟨rfl, rfl, rfl, by decide +kernel, rfl, by decide +kernel, by decide +kernel⟩
theorem F_tallies (T : Tx K mg) : FnP K "tallies" st_tallies (ga K "tallies") (fdx K "tallies") := fn_of_d (d := dd_tallies) 31 T rfl rfl rfl rfl rfl
theorem bd_tallies (T : Tx K mg) : Binds K (fdx K "tallies") ["cloth", "rows"] [] := (F_tallies T).bindsN fun _ _ _ _ _ _ us hl => match us, hl with | [_, _], _ => rfl
theorem sc_tallies : FnScope ["cloth", "rows"] ["cloth", "rows"] (defScope st_tallies) := ⟨rfl, rfl, rfl, by decide +kernel, rfl, by decide +kernel, by decide +kernel⟩
theorem F_nearest (T : Tx K mg) : FnP K "nearest" st_nearest (ga K "nearest") (fdx K "nearest") := fn_of_d (d := dd_nearest) 32 T rfl rfl rfl rfl rfl
theorem bd_nearest (T : Tx K mg) : Binds K (fdx K "nearest") ["cloth", "rows"] [] := (F_nearest T).bindsN fun _ _ _ _ _ _ us hl => match us, hl with | [_, _], _ => rfl
theorem sc_nearest : FnScope ["cloth", "rows"] ["cloth", "rows"] (defScope st_nearest) := ⟨rfl, rfl, rfl, by decide +kernel, rfl, by decide +kernel, by decide +kernel⟩
theorem F_accept_plan_of (T : Tx K mg) : FnP K "accept_plan_of" st_accept_plan_of (ga K "accept_plan_of") (fdx K "accept_plan_of") := fn_of_d (d := dd_accept_plan_of) 33 T rfl rfl rfl rfl rfl
theorem bd_accept_plan_of (T : Tx K mg) : Binds K (fdx K "accept_plan_of") ["cloth", "rows", "told"] [] := (F_accept_plan_of T).bindsN fun _ _ _ _ _ _ us hl => match us, hl with | [_, _, _], _ => rfl
theorem sc_accept_plan_of : FnScope ["cloth", "rows", "told", "right"] ["cloth", "rows", "told"] (defScope st_accept_plan_of) := ⟨rfl, rfl, rfl, by decide +kernel, rfl, by decide +kernel, by decide +kernel⟩
theorem F_accept_nearest (T : Tx K mg) : FnP K "accept_nearest" st_accept_nearest (ga K "accept_nearest") (fdx K "accept_nearest") := fn_of_d (d := dd_accept_nearest) 34 T rfl rfl rfl rfl rfl
theorem bd_accept_nearest (T : Tx K mg) : Binds K (fdx K "accept_nearest") ["cloth", "rows", "told"] [] := (F_accept_nearest T).bindsN fun _ _ _ _ _ _ us hl => match us, hl with | [_, _, _], _ => rfl
theorem sc_accept_nearest : FnScope ["cloth", "rows", "told"] ["cloth", "rows", "told"] (defScope st_accept_nearest) := ⟨rfl, rfl, rfl, by decide +kernel, rfl, by decide +kernel, by decide +kernel⟩
theorem F_fewest_colours (T : Tx K mg) : FnP K "fewest_colours" st_fewest_colours (ga K "fewest_colours") (fdx K "fewest_colours") := fn_of_d (d := dd_fewest_colours) 35 T rfl rfl rfl rfl rfl
theorem bd_fewest_colours (T : Tx K mg) : Binds K (fdx K "fewest_colours") ["cloth", "pairs"] [] := (F_fewest_colours T).bindsN fun _ _ _ _ _ _ us hl => match us, hl with | [_, _], _ => rfl
theorem sc_fewest_colours : FnScope ["cloth", "pairs"] ["cloth", "pairs"] (defScope st_fewest_colours) := ⟨rfl, rfl, rfl, by decide +kernel, rfl, by decide +kernel, by decide +kernel⟩
theorem F_accept_colours (T : Tx K mg) : FnP K "accept_colours" st_accept_colours (ga K "accept_colours") (fdx K "accept_colours") := fn_of_d (d := dd_accept_colours) 36 T rfl rfl rfl rfl rfl
theorem bd_accept_colours (T : Tx K mg) : Binds K (fdx K "accept_colours") ["cloth", "pairs", "told"] [] := (F_accept_colours T).bindsN fun _ _ _ _ _ _ us hl => match us, hl with | [_, _, _], _ => rfl
theorem sc_accept_colours : FnScope ["cloth", "pairs", "told"] ["cloth", "pairs", "told"] (defScope st_accept_colours) := ⟨rfl, rfl, rfl, by decide +kernel, rfl, by decide +kernel, by decide +kernel⟩
theorem F_reduced (T : Tx K mg) : FnP K "reduced" st_reduced (ga K "reduced") (fdx K "reduced") := fn_of_d (d := dd_reduced) 37 T rfl rfl rfl rfl rfl
theorem bd_reduced (T : Tx K mg) : Binds K (fdx K "reduced") ["cloth"] [] := (F_reduced T).bindsN fun _ _ _ _ _ _ us hl => match us, hl with | [_], _ => rfl
theorem sc_reduced : FnScope ["cloth"] ["cloth"] (defScope st_reduced) := ⟨rfl, rfl, rfl, by decide +kernel, rfl, by decide +kernel, by decide +kernel⟩
theorem F_normal (T : Tx K mg) : FnP K "normal" st_normal (ga K "normal") (fdx K "normal") := fn_of_d (d := dd_normal) 38 T rfl rfl rfl rfl rfl
theorem bd_normal (T : Tx K mg) : Binds K (fdx K "normal") ["cloth"] [] := (F_normal T).bindsN fun _ _ _ _ _ _ us hl => match us, hl with | [_], _ => rfl
theorem sc_normal : FnScope ["cloth"] ["cloth"] (defScope st_normal) := ⟨rfl, rfl, rfl, by decide +kernel, rfl, by decide +kernel, by decide +kernel⟩
theorem F_symmetries (T : Tx K mg) : FnP K "symmetries" st_symmetries (ga K "symmetries") (fdx K "symmetries") := fn_of_d (d := dd_symmetries) 39 T rfl rfl rfl rfl rfl
theorem bd_symmetries (T : Tx K mg) : Binds K (fdx K "symmetries") ["cloth"] [] := (F_symmetries T).bindsN fun _ _ _ _ _ _ us hl => match us, hl with | [_], _ => rfl
theorem sc_symmetries : FnScope ["cloth"] ["cloth"] (defScope st_symmetries) := ⟨rfl, rfl, rfl, by decide +kernel, rfl, by decide +kernel, by decide +kernel⟩
theorem F_classes (T : Tx K mg) : FnP K "classes" st_classes (ga K "classes") (fdx K "classes") := fn_of_d (d := dd_classes) 40 T rfl rfl rfl rfl rfl
theorem bd_classes (T : Tx K mg) : Binds K (fdx K "classes") ["cloth"] [] := (F_classes T).bindsN fun _ _ _ _ _ _ us hl => match us, hl with | [_], _ => rfl
theorem sc_classes : FnScope ["cloth"] ["cloth"] (defScope st_classes) := ⟨rfl, rfl, rfl, by decide +kernel, rfl, by decide +kernel, by decide +kernel⟩
theorem F_is_even (T : Tx K mg) : FnP K "is_even" st_is_even (ga K "is_even") (fdx K "is_even") := fn_of_d (d := dd_is_even) 41 T rfl rfl rfl rfl rfl
theorem bd_is_even (T : Tx K mg) : Binds K (fdx K "is_even") ["cloth"] [] := (F_is_even T).bindsN fun _ _ _ _ _ _ us hl => match us, hl with | [_], _ => rfl
theorem sc_is_even : FnScope ["cloth", "first", "turn"] ["cloth"] (defScope st_is_even) := ⟨rfl, rfl, rfl, by decide +kernel, rfl, by decide +kernel, by decide +kernel⟩
theorem F_turned (T : Tx K mg) : FnP K "turned" st_turned (ga K "turned") (fdx K "turned") := fn_of_d (d := dd_turned) 42 T rfl rfl rfl rfl rfl
theorem bd_turned (T : Tx K mg) : Binds K (fdx K "turned") ["cloth", "turn"] [] := (F_turned T).bindsN fun _ _ _ _ _ _ us hl => match us, hl with | [_, _], _ => rfl
theorem sc_turned : FnScope ["cloth", "turn"] ["cloth", "turn"] (defScope st_turned) := ⟨rfl, rfl, rfl, by decide +kernel, rfl, by decide +kernel, by decide +kernel⟩
theorem F_compare (T : Tx K mg) : FnP K "compare" st_compare (ga K "compare") (fdx K "compare") := fn_of_d (d := dd_compare) 43 T rfl rfl rfl rfl rfl
theorem bd_compare (T : Tx K mg) : Binds K (fdx K "compare") ["first", "second"] [] := (F_compare T).bindsN fun _ _ _ _ _ _ us hl => match us, hl with | [_, _], _ => rfl
theorem sc_compare : FnScope ["first", "second"] ["first", "second"] (defScope st_compare) := ⟨rfl, rfl, rfl, by decide +kernel, rfl, by decide +kernel, by decide +kernel⟩
theorem F_accept_compare (T : Tx K mg) : FnP K "accept_compare" st_accept_compare (ga K "accept_compare") (fdx K "accept_compare") := fn_of_d (d := dd_accept_compare) 44 T rfl rfl rfl rfl rfl
theorem bd_accept_compare (T : Tx K mg) : Binds K (fdx K "accept_compare") ["first", "second", "told"] [] := (F_accept_compare T).bindsN fun _ _ _ _ _ _ us hl => match us, hl with | [_, _, _], _ => rfl
theorem sc_accept_compare : FnScope ["first", "second", "told"] ["first", "second", "told"] (defScope st_accept_compare) := ⟨rfl, rfl, rfl, by decide +kernel, rfl, by decide +kernel, by decide +kernel⟩
theorem F_unstacked (T : Tx K mg) : FnP K "unstacked" st_unstacked (ga K "unstacked") (fdx K "unstacked") := fn_of_d (d := dd_unstacked) 45 T rfl rfl rfl rfl rfl
theorem bd_unstacked (T : Tx K mg) : Binds K (fdx K "unstacked") ["cloth", "count"] [] := (F_unstacked T).bindsN fun _ _ _ _ _ _ us hl => match us, hl with | [_, _], _ => rfl
theorem sc_unstacked : FnScope ["cloth", "count"] ["cloth", "count"] (defScope st_unstacked) := ⟨rfl, rfl, rfl, by decide +kernel, rfl, by decide +kernel, by decide +kernel⟩
theorem F_loosest (T : Tx K mg) : FnP K "loosest" st_loosest (ga K "loosest") (fdx K "loosest") := fn_of_d (d := dd_loosest) 46 T rfl rfl rfl rfl rfl
theorem bd_loosest (T : Tx K mg) : Binds K (fdx K "loosest") ["cloth"] [] := (F_loosest T).bindsN fun _ _ _ _ _ _ us hl => match us, hl with | [_], _ => rfl
theorem sc_loosest : FnScope ["cloth"] ["cloth"] (defScope st_loosest) := ⟨rfl, rfl, rfl, by decide +kernel, rfl, by decide +kernel, by decide +kernel⟩
theorem F_folded (T : Tx K mg) : FnP K "folded" st_folded (ga K "folded") (fdx K "folded") := fn_of_d (d := dd_folded) 47 T rfl rfl rfl rfl rfl
theorem bd_folded (T : Tx K mg) : Binds K (fdx K "folded") ["cloth"] [] := (F_folded T).bindsN fun _ _ _ _ _ _ us hl => match us, hl with | [_], _ => rfl
theorem sc_folded : FnScope ["cloth"] ["cloth"] (defScope st_folded) := ⟨rfl, rfl, rfl, by decide +kernel, rfl, by decide +kernel, by decide +kernel⟩
theorem F_twill_step (T : Tx K mg) : FnP K "twill_step" st_twill_step (ga K "twill_step") (fdx K "twill_step") := fn_of_d (d := dd_twill_step) 48 T rfl rfl rfl rfl rfl
theorem bd_twill_step (T : Tx K mg) : Binds K (fdx K "twill_step") ["cloth"] [] := (F_twill_step T).bindsN fun _ _ _ _ _ _ us hl => match us, hl with | [_], _ => rfl
theorem sc_twill_step : FnScope ["cloth"] ["cloth"] (defScope st_twill_step) := ⟨rfl, rfl, rfl, by decide +kernel, rfl, by decide +kernel, by decide +kernel⟩
theorem F_accept_twill_step (T : Tx K mg) : FnP K "accept_twill_step" st_accept_twill_step (ga K "accept_twill_step") (fdx K "accept_twill_step") := fn_of_d (d := dd_accept_twill_step) 49 T rfl rfl rfl rfl rfl
theorem bd_accept_twill_step (T : Tx K mg) : Binds K (fdx K "accept_twill_step") ["cloth", "told"] [] := (F_accept_twill_step T).bindsN fun _ _ _ _ _ _ us hl => match us, hl with | [_, _], _ => rfl
theorem sc_accept_twill_step : FnScope ["cloth", "told"] ["cloth", "told"] (defScope st_accept_twill_step) := ⟨rfl, rfl, rfl, by decide +kernel, rfl, by decide +kernel, by decide +kernel⟩
theorem F_family (T : Tx K mg) : FnP K "family" st_family (ga K "family") (fdx K "family") := fn_of_d (d := dd_family) 50 T rfl rfl rfl rfl rfl
theorem bd_family (T : Tx K mg) : Binds K (fdx K "family") ["cloth"] [] := (F_family T).bindsN fun _ _ _ _ _ _ us hl => match us, hl with | [_], _ => rfl
theorem sc_family : FnScope ["cloth"] ["cloth"] (defScope st_family) := ⟨rfl, rfl, rfl, by decide +kernel, rfl, by decide +kernel, by decide +kernel⟩
theorem F_bends (T : Tx K mg) : FnP K "bends" st_bends (ga K "bends") (fdx K "bends") := fn_of_d (d := dd_bends) 51 T rfl rfl rfl rfl rfl
theorem bd_bends (T : Tx K mg) : Binds K (fdx K "bends") ["cloth"] [] := (F_bends T).bindsN fun _ _ _ _ _ _ us hl => match us, hl with | [_], _ => rfl
theorem sc_bends : FnScope ["cloth"] ["cloth"] (defScope st_bends) := ⟨rfl, rfl, rfl, by decide +kernel, rfl, by decide +kernel, by decide +kernel⟩
theorem F_lengths (T : Tx K mg) : FnP K "lengths" st_lengths (ga K "lengths") (fdx K "lengths") := fn_of_d (d := dd_lengths) 52 T rfl rfl rfl rfl rfl
theorem bd_lengths (T : Tx K mg) : Binds K (fdx K "lengths") ["cloth", "measures"] [] := (F_lengths T).bindsN fun _ _ _ _ _ _ us hl => match us, hl with | [_, _], _ => rfl
theorem sc_lengths : FnScope ["cloth", "measures"] ["cloth", "measures"] (defScope st_lengths) := ⟨rfl, rfl, rfl, by decide +kernel, rfl, by decide +kernel, by decide +kernel⟩
theorem F_amounts (T : Tx K mg) : FnP K "amounts" st_amounts (ga K "amounts") (fdx K "amounts") := fn_of_d (d := dd_amounts) 53 T rfl rfl rfl rfl rfl
theorem bd_amounts (T : Tx K mg) : Binds K (fdx K "amounts") ["cloth", "plan", "measures", "repeats"] [] := (F_amounts T).bindsN fun _ _ _ _ _ _ us hl => match us, hl with | [_, _, _, _], _ => rfl
theorem sc_amounts : FnScope ["cloth", "plan", "measures", "repeats"] ["cloth", "plan", "measures", "repeats"] (defScope st_amounts) := ⟨rfl, rfl, rfl, by decide +kernel, rfl, by decide +kernel, by decide +kernel⟩
theorem F_woven (T : Tx K mg) : FnP K "woven" st_woven (ga K "woven") (fdx K "woven") := fn_of_d (d := dd_woven) 54 T rfl rfl rfl rfl rfl
theorem bd_woven (T : Tx K mg) : Binds K (fdx K "woven") ["draft"] [] := (F_woven T).bindsN fun _ _ _ _ _ _ us hl => match us, hl with | [_], _ => rfl
theorem sc_woven : FnScope ["draft"] ["draft"] (defScope st_woven) := ⟨rfl, rfl, rfl, by decide +kernel, rfl, by decide +kernel, by decide +kernel⟩
theorem F_tidy (T : Tx K mg) : FnP K "tidy" st_tidy (ga K "tidy") (fdx K "tidy") := fn_of_d (d := dd_tidy) 55 T rfl rfl rfl rfl rfl
theorem bd_tidy (T : Tx K mg) : Binds K (fdx K "tidy") ["draft"] [] := (F_tidy T).bindsN fun _ _ _ _ _ _ us hl => match us, hl with | [_], _ => rfl
theorem sc_tidy : FnScope ["draft"] ["draft"] (defScope st_tidy) := ⟨rfl, rfl, rfl, by decide +kernel, rfl, by decide +kernel, by decide +kernel⟩
theorem F_turned_draft (T : Tx K mg) : FnP K "turned_draft" st_turned_draft (ga K "turned_draft") (fdx K "turned_draft") := fn_of_d (d := dd_turned_draft) 56 T rfl rfl rfl rfl rfl
theorem bd_turned_draft (T : Tx K mg) : Binds K (fdx K "turned_draft") ["draft"] [] := (F_turned_draft T).bindsN fun _ _ _ _ _ _ us hl => match us, hl with | [_], _ => rfl
theorem sc_turned_draft : FnScope ["draft"] ["draft"] (defScope st_turned_draft) := ⟨rfl, rfl, rfl, by decide +kernel, rfl, by decide +kernel, by decide +kernel⟩
theorem F_reordered (T : Tx K mg) : FnP K "reordered" st_reordered (ga K "reordered") (fdx K "reordered") := fn_of_d (d := dd_reordered) 57 T rfl rfl rfl rfl rfl
theorem bd_reordered (T : Tx K mg) : Binds K (fdx K "reordered") ["draft", "shafts", "treadles"] [] := (F_reordered T).bindsN fun _ _ _ _ _ _ us hl => match us, hl with | [_, _, _], _ => rfl
theorem sc_reordered : FnScope ["draft", "shafts", "treadles"] ["draft", "shafts", "treadles"] (defScope st_reordered) := ⟨rfl, rfl, rfl, by decide +kernel, rfl, by decide +kernel, by decide +kernel⟩
theorem F_fewest_steps (T : Tx K mg) : FnP K "fewest_steps" st_fewest_steps (ga K "fewest_steps") (fdx K "fewest_steps") := fn_of_d (d := dd_fewest_steps) 58 T rfl rfl rfl rfl rfl
theorem bd_fewest_steps (T : Tx K mg) : Binds K (fdx K "fewest_steps") ["draft"] [] := (F_fewest_steps T).bindsN fun _ _ _ _ _ _ us hl => match us, hl with | [_], _ => rfl
theorem sc_fewest_steps : FnScope ["draft", "table", "rows", "stand", "told", "total", "place", "ways", "costs", "at", "way"] ["draft"] (defScope st_fewest_steps) := ⟨rfl, rfl, rfl, by decide +kernel, rfl, by decide +kernel, by decide +kernel⟩
theorem F_step_table (T : Tx K mg) : FnP K "step_table" st_step_table (ga K "step_table") (fdx K "step_table") := fn_of_d (d := dd_step_table) 59 T rfl rfl rfl rfl rfl
theorem bd_step_table (T : Tx K mg) : Binds K (fdx K "step_table") ["draft"] [] := (F_step_table T).bindsN fun _ _ _ _ _ _ us hl => match us, hl with | [_], _ => rfl
theorem sc_step_table : FnScope ["draft"] ["draft"] (defScope st_step_table) := ⟨rfl, rfl, rfl, by decide +kernel, rfl, by decide +kernel, by decide +kernel⟩
theorem F_accept_step_table (T : Tx K mg) : FnP K "accept_step_table" st_accept_step_table (ga K "accept_step_table") (fdx K "accept_step_table") := fn_of_d (d := dd_accept_step_table) 60 T rfl rfl rfl rfl rfl
theorem bd_accept_step_table (T : Tx K mg) : Binds K (fdx K "accept_step_table") ["draft", "table"] [] := (F_accept_step_table T).bindsN fun _ _ _ _ _ _ us hl => match us, hl with | [_, _], _ => rfl
theorem sc_accept_step_table : FnScope ["draft", "table"] ["draft", "table"] (defScope st_accept_step_table) := ⟨rfl, rfl, rfl, by decide +kernel, rfl, by decide +kernel, by decide +kernel⟩
theorem F_steps_of (T : Tx K mg) : FnP K "steps_of" st_steps_of (ga K "steps_of") (fdx K "steps_of") := fn_of_d (d := dd_steps_of) 61 T rfl rfl rfl rfl rfl
theorem bd_steps_of (T : Tx K mg) : Binds K (fdx K "steps_of") ["draft", "ways"] [] := (F_steps_of T).bindsN fun _ _ _ _ _ _ us hl => match us, hl with | [_, _], _ => rfl
theorem sc_steps_of : FnScope ["draft", "ways"] ["draft", "ways"] (defScope st_steps_of) := ⟨rfl, rfl, rfl, by decide +kernel, rfl, by decide +kernel, by decide +kernel⟩
theorem F__law_draws (T : Tx K mg) : FnP K "_law_draws" st__law_draws (ga K "_law_draws") (fdx K "_law_draws") := fn_of_d (d := dd__law_draws) 62 T rfl rfl rfl rfl rfl
theorem bd__law_draws (T : Tx K mg) : Binds K (fdx K "_law_draws") ["script"] [] := (F__law_draws T).bindsN fun _ _ _ _ _ _ us hl => match us, hl with | [_], _ => rfl
theorem sc__law_draws : FnScope ["script", "draws", "cell", "rest", "k", "mixed"] ["script"] (defScope st__law_draws) := ⟨rfl, rfl, rfl, by decide +kernel, rfl, by decide +kernel, by decide +kernel⟩
theorem F__law_more (T : Tx K mg) : FnP K "_law_more" st__law_more (ga K "_law_more") (fdx K "_law_more") := fn_of_d (d := dd__law_more) 63 T rfl rfl rfl rfl rfl
theorem bd__law_more (T : Tx K mg) : Binds K (fdx K "_law_more") ["draws", "place"] [] := (F__law_more T).bindsN fun _ _ _ _ _ _ us hl => match us, hl with | [_, _], _ => rfl
theorem sc__law_more : FnScope ["draws", "place", "mixed", "k"] ["draws", "place"] (defScope st__law_more) := ⟨rfl, rfl, rfl, by decide +kernel, rfl, by decide +kernel, by decide +kernel⟩
theorem F__law_take (T : Tx K mg) : FnP K "_law_take" st__law_take (ga K "_law_take") (fdx K "_law_take") := fn_of_d (d := dd__law_take) 64 T rfl rfl rfl rfl rfl
theorem bd__law_take (T : Tx K mg) : Binds K (fdx K "_law_take") ["draws", "at", "many"] [] := (F__law_take T).bindsN fun _ _ _ _ _ _ us hl => match us, hl with | [_, _, _], _ => rfl
theorem sc__law_take : FnScope ["draws", "at", "many", "place"] ["draws", "at", "many"] (defScope st__law_take) := ⟨rfl, rfl, rfl, by decide +kernel, rfl, by decide +kernel, by decide +kernel⟩
theorem F__law_one (T : Tx K mg) : FnP K "_law_one" st__law_one (ga K "_law_one") (fdx K "_law_one") := fn_of_d (d := dd__law_one) 65 T rfl rfl rfl rfl rfl
theorem bd__law_one (T : Tx K mg) : Binds K (fdx K "_law_one") ["rows", "draws", "at"] [] := (F__law_one T).bindsN fun _ _ _ _ _ _ us hl => match us, hl with | [_, _, _], _ => rfl
theorem sc__law_one : FnScope ["rows", "draws", "at"] ["rows", "draws", "at"] (defScope st__law_one) := ⟨rfl, rfl, rfl, by decide +kernel, rfl, by decide +kernel, by decide +kernel⟩
theorem F__law_row (T : Tx K mg) : FnP K "_law_row" st__law_row (ga K "_law_row") (fdx K "_law_row") := fn_of_d (d := dd__law_row) 66 T rfl rfl rfl rfl rfl
theorem bd__law_row (T : Tx K mg) : Binds K (fdx K "_law_row") ["many", "draws", "at"] [] := (F__law_row T).bindsN fun _ _ _ _ _ _ us hl => match us, hl with | [_, _, _], _ => rfl
theorem sc__law_row : FnScope ["many", "draws", "at", "k"] ["many", "draws", "at"] (defScope st__law_row) := ⟨rfl, rfl, rfl, by decide +kernel, rfl, by decide +kernel, by decide +kernel⟩
theorem F__law_planted (T : Tx K mg) : FnP K "_law_planted" st__law_planted (ga K "_law_planted") (fdx K "_law_planted") := fn_of_d (d := dd__law_planted) 67 T rfl rfl rfl rfl rfl
theorem bd__law_planted (T : Tx K mg) : Binds K (fdx K "_law_planted") ["picks", "ends", "draws", "at"] [] := (F__law_planted T).bindsN fun _ _ _ _ _ _ us hl => match us, hl with | [_, _, _, _], _ => rfl
theorem sc__law_planted : FnScope ["picks", "ends", "draws", "at", "above", "k", "under", "cloth", "pick", "row", "end"] ["picks", "ends", "draws", "at"] (defScope st__law_planted) := ⟨rfl, rfl, rfl, by decide +kernel, rfl, by decide +kernel, by decide +kernel⟩
theorem F__law_sized (T : Tx K mg) : FnP K "_law_sized" st__law_sized (ga K "_law_sized") (fdx K "_law_sized") := fn_of_d (d := dd__law_sized) 68 T rfl rfl rfl rfl rfl
theorem bd__law_sized (T : Tx K mg) : Binds K (fdx K "_law_sized") ["picks", "ends", "draws", "at"] [] := (F__law_sized T).bindsN fun _ _ _ _ _ _ us hl => match us, hl with | [_, _, _, _], _ => rfl
theorem sc__law_sized : FnScope ["picks", "ends", "draws", "at", "choice", "row", "step", "end", "pick", "rows", "k", "rare"] ["picks", "ends", "draws", "at"] (defScope st__law_sized) := ⟨rfl, rfl, rfl, by decide +kernel, rfl, by decide +kernel, by decide +kernel⟩
theorem F__law_cloth (T : Tx K mg) : FnP K "_law_cloth" st__law_cloth (ga K "_law_cloth") (fdx K "_law_cloth") := fn_of_d (d := dd__law_cloth) 69 T rfl rfl rfl rfl rfl
theorem bd__law_cloth (T : Tx K mg) : Binds K (fdx K "_law_cloth") ["most", "draws", "at"] [] := (F__law_cloth T).bindsN fun _ _ _ _ _ _ us hl => match us, hl with | [_, _, _], _ => rfl
theorem sc__law_cloth : FnScope ["most", "draws", "at"] ["most", "draws", "at"] (defScope st__law_cloth) := ⟨rfl, rfl, rfl, by decide +kernel, rfl, by decide +kernel, by decide +kernel⟩
theorem F__law_called_0 (T : Tx K mg) : FnP K "_law_called_0" st__law_called_0 (ga K "_law_called_0") (fdx K "_law_called_0") := fn_of_d (d := dd__law_called_0) 70 T rfl rfl rfl rfl rfl
theorem bd__law_called_0 (T : Tx K mg) : Binds K (fdx K "_law_called_0") ["which", "cloth"] [] := (F__law_called_0 T).bindsN fun _ _ _ _ _ _ us hl => match us, hl with | [_, _], _ => rfl
theorem sc__law_called_0 : FnScope ["which", "cloth"] ["which", "cloth"] (defScope st__law_called_0) := ⟨rfl, rfl, rfl, by decide +kernel, rfl, by decide +kernel, by decide +kernel⟩
theorem F__law_called_1 (T : Tx K mg) : FnP K "_law_called_1" st__law_called_1 (ga K "_law_called_1") (fdx K "_law_called_1") := fn_of_d (d := dd__law_called_1) 71 T rfl rfl rfl rfl rfl
theorem bd__law_called_1 (T : Tx K mg) : Binds K (fdx K "_law_called_1") ["which", "cloth"] [] := (F__law_called_1 T).bindsN fun _ _ _ _ _ _ us hl => match us, hl with | [_, _], _ => rfl
theorem sc__law_called_1 : FnScope ["which", "cloth"] ["which", "cloth"] (defScope st__law_called_1) := ⟨rfl, rfl, rfl, by decide +kernel, rfl, by decide +kernel, by decide +kernel⟩
theorem F__law_called_5 (T : Tx K mg) : FnP K "_law_called_5" st__law_called_5 (ga K "_law_called_5") (fdx K "_law_called_5") := fn_of_d (d := dd__law_called_5) 72 T rfl rfl rfl rfl rfl
theorem bd__law_called_5 (T : Tx K mg) : Binds K (fdx K "_law_called_5") ["which", "draft"] [] := (F__law_called_5 T).bindsN fun _ _ _ _ _ _ us hl => match us, hl with | [_, _], _ => rfl
theorem sc__law_called_5 : FnScope ["which", "draft"] ["which", "draft"] (defScope st__law_called_5) := ⟨rfl, rfl, rfl, by decide +kernel, rfl, by decide +kernel, by decide +kernel⟩
theorem F__law_told (T : Tx K mg) : FnP K "_law_told" st__law_told (ga K "_law_told") (fdx K "_law_told") := fn_of_d (d := dd__law_told) 73 T rfl rfl rfl rfl rfl
theorem bd__law_told (T : Tx K mg) : Binds K (fdx K "_law_told") ["which", "value"] [] := (F__law_told T).bindsN fun _ _ _ _ _ _ us hl => match us, hl with | [_, _], _ => rfl
theorem sc__law_told : FnScope ["which", "value", "e"] ["which", "value"] (defScope st__law_told) := ⟨rfl, rfl, rfl, by decide +kernel, rfl, by decide +kernel, by decide +kernel⟩
theorem F__law_second (T : Tx K mg) : FnP K "_law_second" st__law_second (ga K "_law_second") (fdx K "_law_second") := fn_of_d (d := dd__law_second) 74 T rfl rfl rfl rfl rfl
theorem bd__law_second (T : Tx K mg) : Binds K (fdx K "_law_second") ["call", "cloth", "wrong"] [] := (F__law_second T).bindsN fun _ _ _ _ _ _ us hl => match us, hl with | [_, _, _], _ => rfl
theorem sc__law_second : FnScope ["call", "cloth", "wrong", "e"] ["call", "cloth", "wrong"] (defScope st__law_second) := ⟨rfl, rfl, rfl, by decide +kernel, rfl, by decide +kernel, by decide +kernel⟩
theorem F__law_wrong_cloth (T : Tx K mg) : FnP K "_law_wrong_cloth" st__law_wrong_cloth (ga K "_law_wrong_cloth") (fdx K "_law_wrong_cloth") := fn_of_d (d := dd__law_wrong_cloth) 75 T rfl rfl rfl rfl rfl
theorem bd__law_wrong_cloth (T : Tx K mg) : Binds K (fdx K "_law_wrong_cloth") ["cloth", "pick"] [] := (F__law_wrong_cloth T).bindsN fun _ _ _ _ _ _ us hl => match us, hl with | [_, _], _ => rfl
theorem sc__law_wrong_cloth : FnScope ["cloth", "pick", "first", "rows", "odd"] ["cloth", "pick"] (defScope st__law_wrong_cloth) := ⟨rfl, rfl, rfl, by decide +kernel, rfl, by decide +kernel, by decide +kernel⟩
theorem F__law_draft (T : Tx K mg) : FnP K "_law_draft" st__law_draft (ga K "_law_draft") (fdx K "_law_draft") := fn_of_d (d := dd__law_draft) 76 T rfl rfl rfl rfl rfl
theorem bd__law_draft (T : Tx K mg) : Binds K (fdx K "_law_draft") ["draws", "at"] [] := (F__law_draft T).bindsN fun _ _ _ _ _ _ us hl => match us, hl with | [_, _], _ => rfl
theorem sc__law_draft : FnScope ["draws", "at", "threading", "end", "tieup", "shaft", "treadle", "treadling", "pick"] ["draws", "at"] (defScope st__law_draft) := ⟨rfl, rfl, rfl, by decide +kernel, rfl, by decide +kernel, by decide +kernel⟩
theorem F__law_wrong_draft (T : Tx K mg) : FnP K "_law_wrong_draft" st__law_wrong_draft (ga K "_law_wrong_draft") (fdx K "_law_wrong_draft") := fn_of_d (d := dd__law_wrong_draft) 77 T rfl rfl rfl rfl rfl
theorem bd__law_wrong_draft (T : Tx K mg) : Binds K (fdx K "_law_wrong_draft") ["draft", "pick"] [] := (F__law_wrong_draft T).bindsN fun _ _ _ _ _ _ us hl => match us, hl with | [_, _], _ => rfl
theorem sc__law_wrong_draft : FnScope ["draft", "pick", "threading", "tieup", "treadling", "rest", "rows", "odd", "last"] ["draft", "pick"] (defScope st__law_wrong_draft) := ⟨rfl, rfl, rfl, by decide +kernel, rfl, by decide +kernel, by decide +kernel⟩
theorem F_law (T : Tx K mg) : FnP K "law" st_law (ga K "law") (fdx K "law") := fn_of_d (d := dd_law) 78 T rfl rfl rfl rfl rfl
theorem bd_law (T : Tx K mg) : Binds K (fdx K "law") ["script"] [] := (F_law T).bindsN fun _ _ _ _ _ _ us hl => match us, hl with | [_], _ => rfl
theorem sc_law : FnScope ["script", "draws", "at", "cloth", "draft", "turn", "wrong", "due", "which", "other", "reason", "call"] ["script"] (defScope st_law) := ⟨rfl, rfl, rfl, by decide +kernel, rfl, by decide +kernel, by decide +kernel⟩
theorem rs_Cloth (T : Tx K mg) : RsTxt PySem.Challenge.pw_hangstogether_k05_wrong_cloths_ahead_of K mg (ga K "ClothError") (ga K "ReasonError") (ma K (ga K "ClothError") "__init__") (ccOf K (ma K (ga K "ClothError") "__init__")) := by
  obtain ⟨hp, X, G⟩ := T.heap
  exact T.says.rs X G (x := "ClothError") List.mem_cons_self rfl
theorem rs_Draft (T : Tx K mg) : RsTxt PySem.Challenge.pw_hangstogether_k05_wrong_cloths_ahead_of K mg (ga K "DraftError") (ga K "ReasonError") (ma K (ga K "DraftError") "__init__") (ccOf K (ma K (ga K "DraftError") "__init__")) := by
  obtain ⟨hp, X, G⟩ := T.heap
  exact T.says.rs X G (x := "DraftError") (List.mem_cons_of_mem _ List.mem_cons_self) rfl
end
end K5

set_option Elab.async false
set_option linter.all false
set_option maxRecDepth 100000
set_option maxHeartbeats 4000000
namespace K5
open PySem PySem.Spec PyProof.Rows L2 He HX DX
section
variable {P : Program} {w : World} {K : PySem.W.Frag} {mg : Str → Option Value} {base : Heap}
theorem ok_is_integer (T : Tx K mg) : FnOk P w K mg base CX0 1 (ga K "is_integer") (fdx K "is_integer") ["value"] (SpD K 1 f_is) := by
  refine (F_is_integer T).ok sc_is_integer (sp_len rfl) (fun cdv A outer s H vs Q E hr h => ?_)
  obtain ⟨ds, d, hd, hl, hf, q⟩ := h
  refine ⟨_, PSs.nox (pss_one (ps_ret (pe_and (pe_callB call_isi (by rfl) (n_isinstance T) Boot.«isinstance» (pa_cons (pv 0) (pa_cons (pe_bltn (v := .ty "int") (by rfl) (n_int T) Boot.«int» rfl) pa_nil)))
    (pe_one (pe_not (pe_callB call_isi (by rfl) (n_isinstance T) Boot.«isinstance» (pa_cons (pv 0) (pa_cons (pe_bltn (v := .ty "bool") (by rfl) (n_bool T) Boot.«bool» rfl) pa_nil)))))))), ?_⟩
  obtain ⟨v, x, rfl, rfl, h1⟩ := td1 hd hl
  cases hf
  have hv : EvD (hrE K) (tVar 0) (start ["value"] [v]) H x := ed_var rfl h1
  exact ret_D (ρ := hrE K) trivial (ed_and (ed_isInt hv) (fun _ => ed_notV (ed_isBool hv))) q (by rw [isI_eq])
theorem ok_in_range (T : Tx K mg) : FnOk P w K mg base CX0 2 (ga K "in_range") (fdx K "in_range") ["value", "least", "most"] (SpD K 3 f_in) := by
  have G1 : FnOk P w K mg base CX0 1 _ _ _ _ := ok_is_integer T
  refine (F_in_range T).ok sc_in_range (sp_len rfl) (fun cdv A outer s H vs Q E hr h => ?_)
  obtain ⟨ds, d, hd, hl, hf, q⟩ := h
  refine ⟨_, PSs.nox (pss_one (ps_ret (pe_and (pe_call G1 hr rfl (g_is_integer T) (F_is_integer T).kp (bd_is_integer T) .nil pass0 (pa_cons (pv 0) pa_nil))
    (pe_one (pe_chain op_le op_le (pv 1) (pv 0) (pv 2)))))), ?_⟩
  obtain ⟨v, x, v2, x2, v3, x3, rfl, rfl, h1, h2, h3⟩ := td3 hd hl
  obtain ⟨lo, hi, rfl, rfl, rfl⟩ := f3 (f := fun d lo hi => inR lo hi d) hf
  have hv : EvD (hrE K) (tVar 0) (start ["value", "least", "most"] [v, v2, v3]) H x := ed_var rfl h1
  have hv2 : EvD (hrE K) (tVar 1) (start ["value", "least", "most"] [v, v2, v3]) H (.int lo) := ed_var rfl h2
  have hv3 : EvD (hrE K) (tVar 2) (start ["value", "least", "most"] [v, v2, v3]) H (.int hi) := ed_var rfl h3
  have hc : EvD (hrE K) (tCall (SpD K 1 f_is) [] E0 (tCons (tVar 0) tNil)) (start ["value", "least", "most"] [v, v2, v3]) H (.bool (isI x)) := ed_call exEx (es_cons hv es_nil) rfl rfl
  cases x with
  | int i => exact ret_D (ρ := hrE K) trivial (ed_and hc (fun _ => ed_chain hv2 hv hv3)) q rfl
  | none => exact ret_D (ρ := hrE K) trivial (ed_and (b := true) hc (fun z => by cases z)) q rfl
  | bool b => exact ret_D (ρ := hrE K) trivial (ed_and (b := true) hc (fun z => by cases z)) q rfl
  | str b => exact ret_D (ρ := hrE K) trivial (ed_and (b := true) hc (fun z => by cases z)) q rfl
  | tuple b => exact ret_D (ρ := hrE K) trivial (ed_and (b := true) hc (fun z => by cases z)) q rfl
  | list b => cases h1
  | dict b => cases h1
/-- a call of in_range -/
theorem ed_inr {ρ : HR K} (hx : ∀ {H H'}, ρ.good H → Evl.Ex H H' → ρ.R H H') {E : XK} {ta tb tc : TE} {σ : L2.St} {H : Hp} {d : PyData} {lo hi : Int} (h : EvD ρ ta σ H d) (h1 : EvD ρ tb σ H (.int lo)) (h2 : EvD ρ tc σ H (.int hi)) :
    EvD ρ (tCall (SpD K 3 f_in) [] E (tCons ta (tCons tb (tCons tc tNil)))) σ H (.bool (inR lo hi d)) := ed_call hx (es_cons h (es_cons h1 (es_cons h2 es_nil))) rfl rfl
theorem ok_is_ascending (T : Tx K mg) : FnOk P w K mg base CX0 3 (ga K "is_ascending") (fdx K "is_ascending") ["value", "least", "most"] (SpP K 3 (fun ds => ∀ x ∈ ds.head?, small x) f_asc) := by
  have G2 : FnOk P w K mg base CX0 2 _ _ _ _ := ok_in_range T
  refine (F_is_ascending T).ok sc_is_ascending (spP_len rfl) (fun cdv A outer s H vs Q E hr h => ?_)
  obtain ⟨ds, d, hd, hl, hsm, hf, q⟩ := h
  refine ⟨_, PSs.nox (pss_cons (ps_if (PW.pt (pw_or (pt_not (pt_val (pe_callB call_isi (by rfl) (n_isinstance T) Boot.«isinstance» (pa_cons (pv 0) (pa_cons (pe_bltn (v := .ty "tuple") (by rfl) (n_tuple T) Boot.«tuple» rfl) pa_nil)))))
      (pw_or1 (pt_not (pt_val (pe_callB (cr_all rfl) (by rfl) (n_all T) Boot.«all» (pa_cons (pe_lc (own := [("part", 3)]) (g := gName 3) (tt := tYes) rfl sc_is_ascending.nd (pi_tup (pv 0)) (blkOk_by (N := ["value", "least", "most", "part", "first", "second"]) (sc := defScope st_is_ascending) (by decide +kernel))
        (fun _ _ _ _ _ => pg_name (i := 3) sc_is_ascending.nd rfl (Or.inl rfl)) (fun _ _ _ _ _ => pts_nil)
        (fun _ _ _ _ _ => pe_call G2 hr rfl (g_in_range T) (F_in_range T).kp (bd_in_range T) .nil pass0 (pa_cons (pv 3) (pa_cons (pv 1) (pa_cons (pv 2) pa_nil))))) pa_nil)))))))
      (pss_one (ps_ret pe_bl)) pss_nil)
    (pss_one (ps_ret (pe_callB (cr_all rfl) (by rfl) (n_all T) Boot.«all» (pa_cons (pe_lc (own := [("first", 4), ("second", 5)]) (g := gTup K 2 (gCons (gName 4) (gCons (gName 5) gNil))) (tt := tYes) rfl sc_is_ascending.nd
        (RZ.pi_zipA (by rfl) (n_zip T) (pa_cons (pe_slice sl_tupA (pv 0) po_none (po_some (pe_un un_neg pe_int))) (pa_cons (pe_slice sl_tupA (pv 0) (po_some pe_int) po_none) pa_nil))) (blkOk_by (N := ["value", "least", "most", "part", "first", "second"]) (sc := defScope st_is_ascending) (by decide +kernel))
        (fun _ _ _ _ _ => pg_tup (by rfl) (pgs_cons (pg_name (i := 4) sc_is_ascending.nd rfl (Or.inl rfl)) (pgs_cons (pg_name (i := 5) sc_is_ascending.nd rfl (Or.inl rfl)) pgs_nil))) (fun _ _ _ _ _ => pts_nil)
        (fun _ _ _ _ _ => pe_cmpR op_lt (pv 4) (pv 5) (nomark _))) pa_nil))))), ?_⟩
  obtain ⟨v, x, v2, x2, v3, x3, rfl, rfl, h1, h2, h3⟩ := td3 hd hl
  obtain ⟨lo, hi, rfl, rfl, rfl⟩ := f3 (f := fun d lo hi => ascR lo hi d) hf
  have sm : small x := hsm x rfl
  have g : (hrE K).good H := trivial
  have hv : ∀ {H1}, Evl.Ex H H1 → ∀ {σ : L2.St}, σ[0]? = some (some v) → EvD (hrE K) (tVar 0) σ H1 x := fun e _ e2 => ed_var e2 (Td.mono (hrE K) e _ h1)
  have h2' : ∀ {H1}, Evl.Ex H H1 → ∀ {σ : L2.St}, σ[1]? = some (some v2) → EvD (hrE K) (tVar 1) σ H1 (.int lo) := fun e _ e2 => ed_var e2 (Td.mono (hrE K) e _ h2)
  have h3' : ∀ {H1}, Evl.Ex H H1 → ∀ {σ : L2.St}, σ[2]? = some (some v3) → EvD (hrE K) (tVar 2) σ H1 (.int hi) := fun e _ e2 => ed_var e2 (Td.mono (hrE K) e _ h3)
  have r := Evl.Ex.refl H
  refine if_d (ρ := hrE K) (b := !isTT x || !(rowOf x).all (inR lo hi)) g (eb_or (eb_not (eb_val (ed_isTup (hv r rfl)))) (fun z => ?_)) (fun z H1 e => ?_) (fun z H1 e => ?_)
  · obtain ⟨rs, rfl⟩ := isTT_of (by simpa using z)
    exact eb_not (eb_val (ed_allM (el_lcT0 (fun d => .bool (inR lo hi d)) (hv r rfl) (Nat.le_trans sm (by decide)) (fun _ => rfl) (fun d _ u H1 e t => ed_inr exEx (ed_var rfl t) (h2' e rfl) (h3' e rfl)))))
  · refine ret_D (ρ := hrE K) trivial (d := .bool false) ed_bl (fun v H2 e2 t => q v H2 (Evl.Ex.trans e e2) t) ?_
    cases x with
    | tuple rs =>
      show PyData.bool false = .bool (rs.all (inR lo hi) && ups rs)
      have z' : rs.all (inR lo hi) = false := by simpa [isTT, rowOf] using z
      rw [z']
      rfl
    | _ => rfl
  · cases x with
    | tuple rs =>
      have z' : rs.all (inR lo hi) = true := by
        have : (!rs.all (inR lo hi)) = false := by simpa [isTT, rowOf] using z
        simpa using this
      have allI : ∀ d ∈ rs, isI d = true := fun d hd => inR_isI (List.all_eq_true.mp z' d hd)
      have hs := el_lcZ (ρ := hrE K) (te := tOp (rI0 fun i j => .bl (decide (i < j))) (tVar 4) (tVar 5)) (σ := start ["value", "least", "most", "part", "first", "second"] [v, v2, v3]) (H := H1) (vs := [4, 5]) (j1 := 4) (j2 := 5) (fun a b => .bool (ltD a b))
        (es_cons (ed_sl (hv e rfl) eo_none (eo_some (ed_neg ed_int))) (es_cons (ed_sl (hv e rfl) (eo_some ed_int) eo_none) es_nil))
        (by rw [cut_init, List.length_dropLast]; exact Nat.le_trans (Nat.sub_le _ _) (Nat.le_trans sm (by decide))) (fun _ _ => rfl) (fun p hp u w H2 e2 t1 t2 => by
          rw [cut_init, cut_tail] at hp
          obtain ⟨i, ei⟩ := isI_of (allI p.1 ((List.dropLast_sublist _).subset (List.of_mem_zip hp).1))
          obtain ⟨j, ej⟩ := isI_of (allI p.2 (List.mem_of_mem_drop (List.of_mem_zip hp).2))
          rw [ei] at t1 ⊢
          rw [ej] at t2 ⊢
          exact ed_cmp (ed_var rfl t1) (ed_var rfl t2))
      rw [cut_init, cut_tail] at hs
      refine ret_D (ρ := hrE K) trivial (ed_all (bs := (rs.dropLast.zip (rs.drop 1)).map fun p => ltD p.1 p.2) (hs.is (by rw [List.map_map]; rfl))) (fun v H2 e2 t => q v H2 (Evl.Ex.trans e e2) t) ?_
      show _ = PyData.bool (rs.all (inR lo hi) && ups rs)
      rw [z', ← ups_zip (List.all_eq_true.mpr allI), List.all_map]
      rfl
    | _ => exact absurd z (by simp [isTT])
abbrev PP : Program := PySem.Challenge.pw_hangstogether_k05_wrong_cloths_ahead_of
abbrev CC (K : PySem.W.Frag) : Addr := ga K "ClothError"
abbrev CD (K : PySem.W.Frag) : Addr := ga K "DraftError"
theorem ok_check_cloth (T : Tx K mg) : FnOk PP w K mg base (L2.CX PP w) 3 (ga K "check_cloth") (fdx K "check_cloth") ["cloth"] (spCk K (CC K) ckC) := by
  have G2 : FnOk PP w K mg base CX0 2 _ _ _ _ := ok_in_range T
  obtain ⟨t1, m1⟩ := i_MAX_PICKS T
  obtain ⟨t2, m2⟩ := i_MAX_ENDS T
  refine (F_check_cloth T).ok sc_check_cloth (spCk_len rfl) (fun cdv A outer s H vs Q E hr h => ?_)
  obtain ⟨v, d, rfl, h1, sm, kN, kS⟩ := h
  refine ⟨_, pss_cons (ps_if (PW.pt (pw_or (pt_not (pt_val (pe_callB (r := rIsi K) call_isi (by rfl) (n_isinstance T) Boot.«isinstance» (pa_cons (pv 0) (pa_cons (pe_bltn (v := .ty "tuple") (by rfl) (n_tuple T) Boot.«tuple» rfl) pa_nil))))) (pw_or1 (pt_not (pt_val (pe_callB (r := rAll K) (cr_all rfl) (by rfl) (n_all T) Boot.«all» (pa_cons (pe_lc (own := [("row", 1)]) (g := gName 1) (tt := tYes) rfl sc_check_cloth.nd (pi_tup (pv 0)) (blkOk_by (N := ["cloth", "row", "part"]) (sc := defScope st_check_cloth) (by decide +kernel))
          (fun _ _ _ _ _ => pg_name (i := 1) sc_check_cloth.nd rfl (Or.inl rfl)) (fun _ _ _ _ _ => pts_nil)
          (fun _ _ _ _ _ => (pe_callB (r := rIsi K) call_isi (by rfl) (n_isinstance T) Boot.«isinstance» (pa_cons (pv 1) (pa_cons (pe_bltn (v := .ty "tuple") (by rfl) (n_tuple T) Boot.«tuple» rfl) pa_nil))))) pa_nil)))))))
      (pss_one (ps_raiseR rfl (rs_Cloth T) hr (takes_of rfl rfl rfl rfl) (pa_cons pe_str pa_nil) (g_ClothError T))) pss_nil)
    (pss_cons (ps_if (pt_not (pt_chain op_le op_le pe_int (pe_callB (r := rLen2 K) call_len_seq (by rfl) (n_len T) Boot.«len» (pa_cons (pv 0) pa_nil)) (pe_glob (v := .int 24) rfl m1 ⟨_, rfl⟩)))
      (pss_one (ps_raiseR rfl (rs_Cloth T) hr (takes_of rfl rfl rfl rfl) (pa_cons pe_str pa_nil) (g_ClothError T))) pss_nil)
    (pss_cons (ps_if (PW.pt (pw_or (pt_not (pt_chain op_le op_le pe_int (pe_callB (r := rLen2 K) call_len_seq (by rfl) (n_len T) Boot.«len» (pa_cons (pe_ix ix_tup (pv 0) pe_int (fun _ _ => rfl)) pa_nil)) (pe_glob (v := .int 24) rfl m2 ⟨_, rfl⟩))) (pw_or1 (pt_not (pt_val (pe_callB (r := rAll K) (cr_all rfl) (by rfl) (n_all T) Boot.«all» (pa_cons (pe_lc (own := [("row", 1)]) (g := gName 1) (tt := tYes) rfl sc_check_cloth.nd (pi_tup (pv 0)) (blkOk_by (N := ["cloth", "row", "part"]) (sc := defScope st_check_cloth) (by decide +kernel))
          (fun _ _ _ _ _ => pg_name (i := 1) sc_check_cloth.nd rfl (Or.inl rfl)) (fun _ _ _ _ _ => pts_nil)
          (fun _ _ _ _ _ => pe_cmpR op_eq (pe_callB (r := rLen2 K) call_len_seq (by rfl) (n_len T) Boot.«len» (pa_cons (pv 1) pa_nil)) (pe_callB (r := rLen2 K) call_len_seq (by rfl) (n_len T) Boot.«len» (pa_cons (pe_ix (r := rIxT K) ix_tup (pv 0) pe_int (fun _ _ => rfl)) pa_nil)) (nomark _))) pa_nil)))))))
      (pss_one (ps_raiseR rfl (rs_Cloth T) hr (takes_of rfl rfl rfl rfl) (pa_cons pe_str pa_nil) (g_ClothError T))) pss_nil)
    (pss_one (ps_if (pt_not (pt_val (pe_callB (r := rAll K) (cr_all rfl) (by rfl) (n_all T) Boot.«all» (pa_cons (pe_lc2 (own := [("row", 1), ("part", 2)]) (vs1 := [2]) (wi1 := iTup K (tVar 1)) (g := gName 1) (tt := tYes) (g1 := gName 2) (tt1 := tYes) rfl sc_check_cloth.nd (pi_tup (pv 0)) (blkOk_by (N := ["cloth", "row", "part"]) (sc := defScope st_check_cloth) (by decide +kernel)) (by decide)
          (fun _ _ _ _ _ => pg_name (i := 1) sc_check_cloth.nd rfl (Or.inl rfl)) (fun _ _ _ _ _ => pts_nil)
          (fun _ _ _ _ _ => pi_tup (pv 1)) (fun _ _ _ _ _ => pg_name (i := 2) sc_check_cloth.nd rfl (Or.inl rfl)) (fun _ _ _ _ _ => pts_nil)
          (fun _ _ _ _ _ => pe_call G2 hr rfl (g_in_range T) (F_in_range T).kp (bd_in_range T) .nil pass0 (pa_cons (pv 2) (pa_cons pe_int (pa_cons pe_int pa_nil))))) pa_nil))))
      (pss_one (ps_raiseR rfl (rs_Cloth T) hr (takes_of rfl rfl rfl rfl) (pa_cons pe_str pa_nil) (g_ClothError T))) pss_nil)))), ?_⟩
  have g : (hrE K).good H := trivial
  have r := Evl.Ex.refl H
  have hv : ∀ {H1}, Evl.Ex H H1 → ∀ {σ : L2.St}, σ[0]? = some (some v) → EvD (hrE K) (tVar 0) σ H1 d := fun e _ e2 => ed_var e2 (Td.mono (hrE K) e _ h1)
  refine seq_ifN (ρ := hrE K) (b := !isTT d || !(rowOf d).all isTT) g (eb_or (eb_not (eb_val (ed_isTup (hv r rfl)))) (fun z => ?_)) (fun z H1 e => ?_) (fun z H1 e => ?_)
  · obtain ⟨rs, rfl⟩ := isTT_of (by simpa using z)
    exact eb_not (eb_val (ed_allM (el_lcT0 (fun d => .bool (isTT d)) (hv r rfl) (Nat.le_trans sm.1 (by decide)) (fun _ => rfl) (fun d _ u H1 e t => ed_isTup (ed_var rfl t)))))
  · refine raise_d (ρ := hrE K) trivial ed_str (fun H' dd e2 hd => kS "form" ?_ H' dd (Evl.Ex.trans e e2) hd)
    cases ht : isTT d with
    | false => exact ckC_other ht
    | true =>
      obtain ⟨rs, rfl⟩ := isTT_of ht
      exact ckC_form (by simpa [isTT, rowOf] using z)
  have z1 : isTT d = true ∧ (rowOf d).all isTT = true := by simpa using z
  obtain ⟨ht, hall⟩ := z1
  obtain ⟨rows, rfl⟩ := isTT_of ht
  have hall' : rows.all isTT = true := hall
  clear z hall ht
  refine seq_ifN (ρ := hrE K) (b := !(decide ((1 : Int) ≤ rows.length) && decide ((rows.length : Int) ≤ 24))) trivial ?_ (fun z H2 e2 => ?_) (fun z H2 e2 => ?_)
  · exact eb_not (eb_test (ed_chain ed_int (ed_len (hv e rfl)) ed_int))
  · refine raise_d (ρ := hrE K) trivial ed_str (fun H' dd e3 hd => kS "picks" ?_ H' dd (Evl.Ex.trans e (Evl.Ex.trans e2 e3)) hd)
    show (if rows.all isTT = false then (some ("form" : Str) : Option Str) else if (decide ((1 : Int) ≤ rows.length) && decide ((rows.length : Int) ≤ 24)) = false then some ("picks" : Str) else _) = _
    rw [if_neg (by rw [hall']; decide), if_pos ((Bool.not_eq_true' _).mp z)]
  have z2 : (decide ((1 : Int) ≤ rows.length) && decide ((rows.length : Int) ≤ 24)) = true := by simpa using z
  have z2' : 1 ≤ rows.length ∧ rows.length ≤ 24 := by
    obtain ⟨a, b⟩ := Bool.and_eq_true_iff.mp z2
    have a' := of_decide_eq_true a
    have b' := of_decide_eq_true b
    omega
  obtain ⟨r0, rest, hrows⟩ : ∃ r0 rest, rows = r0 :: rest := by
    cases rows with
    | nil => simp at z2'
    | cons a b => exact ⟨a, b, rfl⟩
  have hr0 : isTT r0 = true := List.all_eq_true.mp hall' r0 (by rw [hrows]; exact List.mem_cons_self)
  obtain ⟨r0s, e0⟩ := isTT_of hr0
  have hx0 : ∀ {H1}, Evl.Ex H H1 → ∀ {σ : L2.St}, σ[0]? = some (some v) → EvD (hrE K) (tOp (rIxT K) (tVar 0) (tC (.int 0))) σ H1 (.tuple r0s) := fun e _ e2 => ed_ix (hv e e2) ed_int (by rw [hrows, e0]; exact atI_zero)
  have hd0 : rowOf (rows.headD .none) = r0s := by rw [hrows, e0]; rfl
  have e12 := Evl.Ex.trans e e2
  clear z
  refine seq_ifN (ρ := hrE K) (b := !(decide ((1 : Int) ≤ r0s.length) && decide ((r0s.length : Int) ≤ 24)) || !(rows.all fun r => decide ((((rowOf r).length : Nat) : Int) = (r0s.length : Nat)))) trivial ?_ (fun z H3 e3 => ?_) (fun z H3 e3 => ?_)
  · refine eb_or (eb_not (eb_test (ed_chain ed_int (ed_len (hx0 e12 rfl)) ed_int))) (fun _ => eb_not (eb_val (ed_allM (el_lcT0 (fun r => .bool (decide ((((rowOf r).length : Nat) : Int) = (r0s.length : Nat)))) (hv e12 rfl) (Nat.le_trans sm.1 (by decide)) (fun _ => rfl) (fun d hd u H1 e3 t => ?_)))))
    obtain ⟨ds, rfl⟩ := isTT_of (List.all_eq_true.mp hall' d hd)
    exact ed_eqI (ed_len (ed_var rfl t)) (ed_len (hx0 (Evl.Ex.trans e12 e3) rfl))
  · refine raise_d (ρ := hrE K) trivial ed_str (fun H' dd e4 hd => kS "ends" ?_ H' dd (Evl.Ex.trans e12 (Evl.Ex.trans e3 e4)) hd)
    show (if rows.all isTT = false then (some ("form" : Str) : Option Str) else if (decide ((1 : Int) ≤ rows.length) && decide ((rows.length : Int) ≤ 24)) = false then some ("picks" : Str)
      else if ((decide ((1 : Int) ≤ (rowOf (rows.headD .none)).length) && decide (((rowOf (rows.headD .none)).length : Int) ≤ 24)) && rows.all fun r => decide ((((rowOf r).length : Nat) : Int) = ((rowOf (rows.headD .none)).length : Nat))) = false then some ("ends" : Str) else _) = _
    rw [if_neg (by rw [hall']; decide), if_neg (by rw [z2]; decide), hd0, if_pos ((Bool.not_eq_true' _).mp (by rw [Bool.not_and]; exact z))]
  have z3 : ((decide ((1 : Int) ≤ r0s.length) && decide ((r0s.length : Int) ≤ 24)) && rows.all fun r => decide ((((rowOf r).length : Nat) : Int) = (r0s.length : Nat))) = true := by
    rw [← Bool.not_and] at z
    simpa using z
  have e13 := Evl.Ex.trans e12 e3
  clear z
  refine if_dN (ρ := hrE K) (b := !(rows.flatMap rowOf).all (inR 0 1)) trivial ?_ (fun z H4 e4 => ?_) (fun z H4 e4 => ?_)
  · refine eb_not (eb_val (ed_allM (el_lc2T (fun x => .bool (inR 0 1 x)) (hv e13 rfl) sm.1 (fun d hd => ?_) (fun _ => rfl) (fun _ _ => rfl) (fun d hd u H1 e4 t => ed_var rfl t)
      (fun d hd x hx u w H1 e4 t1 t2 => ed_inr exEx (ed_var rfl t2) ed_int ed_int))))
    obtain ⟨ds, rfl⟩ := isTT_of (List.all_eq_true.mp hall' d hd)
    exact ⟨ds, rfl, (sm.2 _ hd).1⟩
  · refine raise_d (ρ := hrE K) trivial ed_str (fun H' dd e5 hd => kS "crossing" ?_ H' dd (Evl.Ex.trans e13 (Evl.Ex.trans e4 e5)) hd)
    show (if rows.all isTT = false then (some ("form" : Str) : Option Str) else if (decide ((1 : Int) ≤ rows.length) && decide ((rows.length : Int) ≤ 24)) = false then some ("picks" : Str)
      else if ((decide ((1 : Int) ≤ (rowOf (rows.headD .none)).length) && decide (((rowOf (rows.headD .none)).length : Int) ≤ 24)) && rows.all fun r => decide ((((rowOf r).length : Nat) : Int) = ((rowOf (rows.headD .none)).length : Nat))) = false then some ("ends" : Str)
      else if (rows.flatMap rowOf).all (inR 0 1) = false then some ("crossing" : Str) else none) = _
    rw [if_neg (by rw [hall']; decide), if_neg (by rw [z2]; decide), hd0, if_neg (by rw [z3]; decide), if_pos (by simpa using z)]
  · refine kN ?_ H4 (Evl.Ex.trans e13 e4)
    show (if rows.all isTT = false then (some ("form" : Str) : Option Str) else if (decide ((1 : Int) ≤ rows.length) && decide ((rows.length : Int) ≤ 24)) = false then some ("picks" : Str)
      else if ((decide ((1 : Int) ≤ (rowOf (rows.headD .none)).length) && decide (((rowOf (rows.headD .none)).length : Int) ≤ 24)) && rows.all fun r => decide ((((rowOf r).length : Nat) : Int) = ((rowOf (rows.headD .none)).length : Nat))) = false then some ("ends" : Str)
      else if (rows.flatMap rowOf).all (inR 0 1) = false then some ("crossing" : Str) else none) = _
    have z4 : (rows.flatMap rowOf).all (inR 0 1) = true := by simpa using z
    rw [if_neg (by rw [hall']; decide), if_neg (by rw [z2]; decide), hd0, if_neg (by rw [z3]; decide), if_neg (by rw [z4]; decide)]
theorem ed_ascC {ρ : HR K} (hx : ∀ {H H'}, ρ.good H → Evl.Ex H H' → ρ.R H H') {E : XK} {ta tb tc : TE} {σ : L2.St} {H : Hp} {d : PyData} {lo hi : Int} (sm : small d) (h : EvD ρ ta σ H d) (h1 : EvD ρ tb σ H (.int lo)) (h2 : EvD ρ tc σ H (.int hi)) :
    EvD ρ (tCall (SpP K 3 (fun ds => ∀ x ∈ ds.head?, small x) f_asc) [] E (tCons ta (tCons tb (tCons tc tNil)))) σ H (.bool (ascR lo hi d)) :=
  ed_callP hx (es_cons h (es_cons h1 (es_cons h2 es_nil))) rfl (fun x hx => by cases hx; exact sm) rfl
theorem ok_check_draft (T : Tx K mg) : FnOk PP w K mg base (L2.CX PP w) 4 (ga K "check_draft") (fdx K "check_draft") ["draft"] (spCk K (CD K) ckD) := by
  have G2 : FnOk PP w K mg base CX0 2 _ _ _ _ := ok_in_range T
  have G3 : FnOk PP w K mg base CX0 3 _ _ _ _ := ok_is_ascending T
  obtain ⟨t1, m1⟩ := i_MAX_PICKS T
  obtain ⟨t2, m2⟩ := i_MAX_ENDS T
  obtain ⟨t3, m3⟩ := i_MAX_SHAFTS T
  obtain ⟨t4, m4⟩ := i_MAX_TREADLES T
  refine (F_check_draft T).ok sc_check_draft (spCk_len rfl) (fun cdv A outer s H vs Q E hr h => ?_)
  obtain ⟨v, d, rfl, h1, sm, kN, kS⟩ := h
  have hr2 : Room 2 _ := hr.mono (by decide)
  refine ⟨_, pss_cons (ps_if (PW.pt (pw_or (pt_not (pt_val (pe_callB (r := rIsi K) call_isi (by rfl) (n_isinstance T) Boot.«isinstance» (pa_cons (pv 0) (pa_cons (pe_bltn (v := .ty "tuple") (by rfl) (n_tuple T) Boot.«tuple» rfl) pa_nil))))) (pw_or (pt_cmpR op_ne (pe_callB (r := rLen2 K) call_len_seq (by rfl) (n_len T) Boot.«len» (pa_cons (pv 0) pa_nil)) pe_int (nomark _)) (pw_or1 (pt_not (pt_val (pe_callB (r := rAll K) (cr_all rfl) (by rfl) (n_all T) Boot.«all» (pa_cons         (pe_lc (own := [("part", 1)]) (g := gName 1) (tt := tYes) rfl sc_check_draft.nd (pi_tup (pv 0)) (blkOk_by (N := ["draft", "part", "threading", "tieup", "treadling", "shaft", "ties", "pressed"]) (sc := defScope st_check_draft) (by decide +kernel))
          (fun _ _ _ _ _ => pg_name (i := 1) sc_check_draft.nd rfl (Or.inl rfl)) (fun _ _ _ _ _ => pts_nil)
          (fun _ _ _ _ _ => (pe_callB (r := rIsi K) call_isi (by rfl) (n_isinstance T) Boot.«isinstance» (pa_cons (pv 1) (pa_cons (pe_bltn (v := .ty "tuple") (by rfl) (n_tuple T) Boot.«tuple» rfl) pa_nil))))) pa_nil))))))))
      (pss_one (ps_raiseR rfl (rs_Draft T) hr (takes_of rfl rfl rfl rfl) (pa_cons pe_str pa_nil) (g_DraftError T))) pss_nil)
    (pss_cons (ps_asg (pv 0) (pg_tup (by rfl) (pgs_cons (pg_name (i := 2) sc_check_draft.nd rfl (Or.inl rfl)) (pgs_cons (pg_name (i := 3) sc_check_draft.nd rfl (Or.inr rfl)) (pgs_cons (pg_name (i := 4) sc_check_draft.nd rfl (Or.inl rfl)) pgs_nil)))))
    (pss_cons (ps_if (PW.pt (pw_or (pt_not (pt_chain op_le op_le pe_int (pe_callB (r := rLen2 K) call_len_seq (by rfl) (n_len T) Boot.«len» (pa_cons (pv 2) pa_nil)) (pe_glob (v := .int 24) rfl m2 ⟨_, rfl⟩))) (pw_or1 (pt_not (pt_val (pe_callB (r := rAll K) (cr_all rfl) (by rfl) (n_all T) Boot.«all» (pa_cons         (pe_lc (own := [("shaft", 5)]) (g := gName 5) (tt := tYes) rfl sc_check_draft.nd (pi_tup (pv 2)) (blkOk_by (N := ["draft", "part", "threading", "tieup", "treadling", "shaft", "ties", "pressed"]) (sc := defScope st_check_draft) (by decide +kernel))
          (fun _ _ _ _ _ => pg_name (i := 5) sc_check_draft.nd rfl (Or.inl rfl)) (fun _ _ _ _ _ => pts_nil)
          (fun _ _ _ _ _ => pe_call G2 hr2 rfl (g_in_range T) (F_in_range T).kp (bd_in_range T) .nil pass0 (pa_cons (pv 5) (pa_cons pe_int (pa_cons (pe_op op_sub (pe_glob (v := .int 16) rfl m3 ⟨_, rfl⟩) pe_int) pa_nil))))) pa_nil)))))))
      (pss_one (ps_raiseR rfl (rs_Draft T) hr (takes_of rfl rfl rfl rfl) (pa_cons pe_str pa_nil) (g_DraftError T))) pss_nil)
    (pss_cons (ps_if (PW.pt (pw_or (pt_cmpR op_gt (pe_callB (r := rLen2 K) call_len_seq (by rfl) (n_len T) Boot.«len» (pa_cons (pv 3) pa_nil)) (pe_glob (v := .int 16) rfl m4 ⟨_, rfl⟩) (nomark _)) (pw_or1 (pt_not (pt_val (pe_callB (r := rAll K) (cr_all rfl) (by rfl) (n_all T) Boot.«all» (pa_cons         (pe_lc (own := [("ties", 6)]) (g := gName 6) (tt := tYes) rfl sc_check_draft.nd (pi_tup (pv 3)) (blkOk_by (N := ["draft", "part", "threading", "tieup", "treadling", "shaft", "ties", "pressed"]) (sc := defScope st_check_draft) (by decide +kernel))
          (fun _ _ _ _ _ => pg_name (i := 6) sc_check_draft.nd rfl (Or.inl rfl)) (fun _ _ _ _ _ => pts_nil)
          (fun _ _ _ _ _ => pe_call G3 hr rfl (g_is_ascending T) (F_is_ascending T).kp (bd_is_ascending T) .nil pass0 (pa_cons (pv 6) (pa_cons pe_int (pa_cons (pe_op op_sub (pe_glob (v := .int 16) rfl m3 ⟨_, rfl⟩) pe_int) pa_nil))))) pa_nil)))))))
      (pss_one (ps_raiseR rfl (rs_Draft T) hr (takes_of rfl rfl rfl rfl) (pa_cons pe_str pa_nil) (g_DraftError T))) pss_nil)
    (pss_cons (ps_if (pt_not (pt_chain op_le op_le pe_int (pe_callB (r := rLen2 K) call_len_seq (by rfl) (n_len T) Boot.«len» (pa_cons (pv 4) pa_nil)) (pe_glob (v := .int 24) rfl m1 ⟨_, rfl⟩)))
      (pss_one (ps_raiseR rfl (rs_Draft T) hr (takes_of rfl rfl rfl rfl) (pa_cons pe_str pa_nil) (g_DraftError T))) pss_nil)
    (pss_one (ps_if (pt_not (pt_val (pe_callB (r := rAll K) (cr_all rfl) (by rfl) (n_all T) Boot.«all» (pa_cons         (pe_lc (own := [("pressed", 7)]) (g := gName 7) (tt := tYes) rfl sc_check_draft.nd (pi_tup (pv 4)) (blkOk_by (N := ["draft", "part", "threading", "tieup", "treadling", "shaft", "ties", "pressed"]) (sc := defScope st_check_draft) (by decide +kernel))
          (fun _ _ _ _ _ => pg_name (i := 7) sc_check_draft.nd rfl (Or.inl rfl)) (fun _ _ _ _ _ => pts_nil)
          (fun _ _ _ _ _ => pe_call G3 hr rfl (g_is_ascending T) (F_is_ascending T).kp (bd_is_ascending T) .nil pass0 (pa_cons (pv 7) (pa_cons pe_int (pa_cons (pe_op op_sub (pe_callB (r := rLen2 K) call_len_seq (by rfl) (n_len T) Boot.«len» (pa_cons (pv 3) pa_nil)) pe_int) pa_nil))))) pa_nil))))
      (pss_one (ps_raiseR rfl (rs_Draft T) hr (takes_of rfl rfl rfl rfl) (pa_cons pe_str pa_nil) (g_DraftError T))) pss_nil)))))), ?_⟩
  have g : (hrE K).good H := trivial
  have r := Evl.Ex.refl H
  have hv : ∀ {H1}, Evl.Ex H H1 → ∀ {σ : L2.St}, σ[0]? = some (some v) → EvD (hrE K) (tVar 0) σ H1 d := fun e _ e2 => ed_var e2 (Td.mono (hrE K) e _ h1)
  refine seq_ifN (ρ := hrE K) (b := !isTT d || ((!decide ((((rowOf d).length : Nat) : Int) = 3)) || !(rowOf d).all isTT)) g ?_ (fun z H1 e => ?_) (fun z H1 e => ?_)
  · refine eb_or (eb_not (eb_val (ed_isTup (hv r rfl)))) (fun z => ?_)
    obtain ⟨rs, rfl⟩ := isTT_of (by simpa using z)
    exact eb_or (eb_test (ed_neI (ed_len (hv r rfl)) ed_int)) (fun _ => eb_not (eb_val (ed_allM (el_lcT0 (fun d => .bool (isTT d)) (hv r rfl) (Nat.le_trans sm.1 (by decide)) (fun _ => rfl) (fun d _ u H1 e t => ed_isTup (ed_var rfl t))))))
  · refine raise_d (ρ := hrE K) trivial ed_str (fun H' dd e2 hd => kS "form" (ckD_form fun th ti tr ed => ?_) H' dd (Evl.Ex.trans e e2) hd)
    subst ed
    simp [isTT, rowOf] at z
  obtain ⟨th, ti, tr, rfl⟩ : ∃ th ti tr, d = .tuple [.tuple th, .tuple ti, .tuple tr] := by
    have z1 : isTT d = true ∧ (((rowOf d).length : Nat) : Int) = 3 ∧ (rowOf d).all isTT = true := by simpa using z
    obtain ⟨a1, a2, a3⟩ := z1
    obtain ⟨rs, rfl⟩ := isTT_of a1
    have a2' : rs.length = 3 := by
      have : ((rs.length : Nat) : Int) = 3 := a2
      omega
    have a3' : rs.all isTT = true := a3
    match rs, a2' with
    | [x, y, w], _ =>
      simp only [List.all_cons, List.all_nil, Bool.and_true, Bool.and_eq_true] at a3'
      obtain ⟨b1, b2, b3⟩ := a3'
      obtain ⟨_, rfl⟩ := isTT_of b1
      obtain ⟨_, rfl⟩ := isTT_of b2
      obtain ⟨_, rfl⟩ := isTT_of b3
      exact ⟨_, _, _, rfl⟩
  clear z hv
  have t1' := Td.mono (hrE K) e _ h1
  obtain ⟨a, v1, v2, v3, rfl, hsq, T1, T2, T3⟩ := td_three t1'
  have sm1 : small (.tuple th) := (sm.2 _ (by simp [rowOf])).1
  have sm2 : small (.tuple ti) := (sm.2 _ (by simp [rowOf])).1
  have sm3 : small (.tuple tr) := (sm.2 _ (by simp [rowOf])).1
  have sm2' : ∀ y ∈ ti, small y := (sm.2 (.tuple ti) (by simp [rowOf])).2
  have sm3' : ∀ y ∈ tr, small y := (sm.2 (.tuple tr) (by simp [rowOf])).2
  refine ⟨.ref a, rfl, a, _, rfl, hsq, rfl, v1, _, rfl, v2, _, rfl, v3, _, rfl, rfl, ?_⟩
  have k1 : ∀ {H2}, Evl.Ex H1 H2 → ∀ {σ : L2.St}, σ[2]? = some (some v1) → EvD (hrE K) (tVar 2) σ H2 (.tuple th) := fun e _ e2 => ed_var e2 (Td.mono (hrE K) e _ T1)
  have k2 : ∀ {H2}, Evl.Ex H1 H2 → ∀ {σ : L2.St}, σ[3]? = some (some v2) → EvD (hrE K) (tVar 3) σ H2 (.tuple ti) := fun e _ e2 => ed_var e2 (Td.mono (hrE K) e _ T2)
  have k3 : ∀ {H2}, Evl.Ex H1 H2 → ∀ {σ : L2.St}, σ[4]? = some (some v3) → EvD (hrE K) (tVar 4) σ H2 (.tuple tr) := fun e _ e2 => ed_var e2 (Td.mono (hrE K) e _ T3)
  have r1 := Evl.Ex.refl H1
  have un : ∀ o, ckD (.tuple [.tuple th, .tuple ti, .tuple tr]) = o ↔ (if ((decide ((1 : Int) ≤ th.length) && decide ((th.length : Int) ≤ 24)) && th.all (inR 0 15)) = false then (some ("threading" : Str) : Option Str)
    else if (decide ((ti.length : Int) ≤ 16) && ti.all (ascR 0 15)) = false then some ("tieup" : Str)
    else if (decide ((1 : Int) ≤ tr.length) && decide ((tr.length : Int) ≤ 24)) = false then some ("treadling" : Str)
    else if tr.all (ascR 0 ((ti.length : Int) - 1)) = false then some ("treadling" : Str) else none) = o := fun o => Iff.rfl
  dsimp only [gName]
  refine seq_ifN (ρ := hrE K) (b := !(decide ((1 : Int) ≤ th.length) && decide ((th.length : Int) ≤ 24)) || !(th.all (inR 0 15))) trivial ?_ (fun z H2 e2 => ?_) (fun z H2 e2 => ?_)
  · exact eb_or (eb_not (eb_test (ed_chain ed_int (ed_len (k1 r1 rfl)) ed_int))) (fun _ => eb_not (eb_val (ed_allM (el_lcT0 (fun d => .bool (inR 0 15 d)) (k1 r1 rfl) (Nat.le_trans sm1 (by decide)) (fun _ => rfl)
      (fun d _ u H2 e2 t => ed_inr exEx (ed_var rfl t) ed_int (ed_ari ed_int ed_int))))))
  · refine raise_d (ρ := hrE K) trivial ed_str (fun H' dd e3 hd => kS "threading" ((un _).mpr ?_) H' dd (Evl.Ex.trans e (Evl.Ex.trans e2 e3)) hd)
    rw [if_pos ((Bool.not_eq_true' _).mp (by rw [Bool.not_and]; exact z))]
  have z1 : ((decide ((1 : Int) ≤ th.length) && decide ((th.length : Int) ≤ 24)) && th.all (inR 0 15)) = true := by
    rw [← Bool.not_and] at z
    simpa using z
  clear z
  refine seq_ifN (ρ := hrE K) (b := decide ((16 : Int) < ti.length) || !(ti.all (ascR 0 15))) trivial ?_ (fun z H3 e3 => ?_) (fun z H3 e3 => ?_)
  · exact eb_or (eb_test (ed_cmp (ed_len (k2 e2 rfl)) ed_int)) (fun _ => eb_not (eb_val (ed_allM (el_lcT0 (fun d => .bool (ascR 0 15 d)) (k2 e2 rfl) (Nat.le_trans sm2 (by decide)) (fun _ => rfl)
      (fun d hd u H2 e2 t => ed_ascC exEx (sm2' d hd) (ed_var rfl t) ed_int (ed_ari ed_int ed_int))))))
  · refine raise_d (ρ := hrE K) trivial ed_str (fun H' dd e4 hd => kS "tieup" ((un _).mpr ?_) H' dd (Evl.Ex.trans e (Evl.Ex.trans e2 (Evl.Ex.trans e3 e4))) hd)
    rw [if_neg (by rw [z1]; decide), if_pos ((Bool.not_eq_true' _).mp (by rw [Bool.not_and, gt_not_le]; exact z))]
  have z2 : (decide ((ti.length : Int) ≤ 16) && ti.all (ascR 0 15)) = true := by
    rw [← gt_not_le, ← Bool.not_and] at z
    simpa using z
  clear z
  have e23 := Evl.Ex.trans e2 e3
  refine seq_ifN (ρ := hrE K) (b := !(decide ((1 : Int) ≤ tr.length) && decide ((tr.length : Int) ≤ 24))) trivial ?_ (fun z H4 e4 => ?_) (fun z H4 e4 => ?_)
  · exact eb_not (eb_test (ed_chain ed_int (ed_len (k3 e23 rfl)) ed_int))
  · refine raise_d (ρ := hrE K) trivial ed_str (fun H' dd e5 hd => kS "treadling" ((un _).mpr ?_) H' dd (Evl.Ex.trans e (Evl.Ex.trans e23 (Evl.Ex.trans e4 e5))) hd)
    rw [if_neg (by rw [z1]; decide), if_neg (by rw [z2]; decide), if_pos ((Bool.not_eq_true' _).mp z)]
  have z3 : (decide ((1 : Int) ≤ tr.length) && decide ((tr.length : Int) ≤ 24)) = true := by simpa using z
  clear z
  have e24 := Evl.Ex.trans e23 e4
  refine if_dN (ρ := hrE K) (b := !(tr.all (ascR 0 ((ti.length : Int) - 1)))) trivial ?_ (fun z H5 e5 => ?_) (fun z H5 e5 => ?_)
  · exact eb_not (eb_val (ed_allM (el_lcT0 (fun d => .bool (ascR 0 ((ti.length : Int) - 1) d)) (k3 e24 rfl) (Nat.le_trans sm3 (by decide)) (fun _ => rfl)
      (fun d hd u H6 e6 t => ed_ascC exEx (sm3' d hd) (ed_var rfl t) ed_int (ed_ari (ed_len (k2 (Evl.Ex.trans e24 e6) rfl)) ed_int)))))
  · refine raise_d (ρ := hrE K) trivial ed_str (fun H' dd e6 hd => kS "treadling" ((un _).mpr ?_) H' dd (Evl.Ex.trans e (Evl.Ex.trans e24 (Evl.Ex.trans e5 e6))) hd)
    rw [if_neg (by rw [z1]; decide), if_neg (by rw [z2]; decide), if_neg (by rw [z3]; decide), if_pos ((Bool.not_eq_true' _).mp z)]
  · refine kN ((un _).mpr ?_) H5 (Evl.Ex.trans e (Evl.Ex.trans e24 e5))
    have z4 : tr.all (ascR 0 ((ti.length : Int) - 1)) = true := by simpa using z
    rw [if_neg (by rw [z1]; decide), if_neg (by rw [z2]; decide), if_neg (by rw [z3]; decide), if_neg (by rw [z4]; decide)]
end
end K5

set_option Elab.async false
set_option linter.all false
set_option maxRecDepth 100000
set_option maxHeartbeats 4000000
/-! the thin defs: a wrong first argument is told by the check -/
namespace K5
open PySem PySem.Spec PyProof.Rows L2 He HX DX
section
variable {w : World} {K : PySem.W.Frag} {mg : Str → Option Value} {base : Heap}
theorem ok_demand_piece (T : Tx K mg) : FnOk PP w K mg base (L2.CX PP w) 4 (ga K "demand_piece") (fdx K "demand_piece") ["cloth"] (spBad K (CC K) ckC 1) := by
  refine (F_demand_piece T).ok sc_demand_piece (spBad_len rfl) (fun cdv A outer s H vs Q E hr h => ?_)
  obtain ⟨v, rest, d, r, rfl, hl, td, sm, c, k⟩ := h
  refine ⟨_, pss_cons (ps_expr (pe_callS (ok_check_cloth T) hr rfl (g_check_cloth T) (F_check_cloth T).kp (bd_check_cloth T) (fun σ => passAt (takes_of rfl rfl rfl rfl) σ) (pa_cons (pv 0) pa_nil))) jSs, ?_⟩
  refine ⟨v, rfl, ?_⟩
  dsimp only [tNil]
  exact ck_bad td sm c k
theorem ok_needs (T : Tx K mg) : FnOk PP w K mg base (L2.CX PP w) 4 (ga K "needs") (fdx K "needs") ["cloth"] (spBad K (CC K) ckC 1) := by
  refine (F_needs T).ok sc_needs (spBad_len rfl) (fun cdv A outer s H vs Q E hr h => ?_)
  obtain ⟨v, rest, d, r, rfl, hl, td, sm, c, k⟩ := h
  refine ⟨_, pss_cons (ps_expr (pe_callS (ok_check_cloth T) hr rfl (g_check_cloth T) (F_check_cloth T).kp (bd_check_cloth T) (fun σ => passAt (takes_of rfl rfl rfl rfl) σ) (pa_cons (pv 0) pa_nil))) jSs, ?_⟩
  refine ⟨v, rfl, ?_⟩
  dsimp only [tNil]
  exact ck_bad td sm c k
theorem ok_drawn (T : Tx K mg) : FnOk PP w K mg base (L2.CX PP w) 4 (ga K "drawn") (fdx K "drawn") ["cloth"] (spBad K (CC K) ckC 1) := by
  refine (F_drawn T).ok sc_drawn (spBad_len rfl) (fun cdv A outer s H vs Q E hr h => ?_)
  obtain ⟨v, rest, d, r, rfl, hl, td, sm, c, k⟩ := h
  refine ⟨_, pss_cons (ps_expr (pe_callS (ok_check_cloth T) hr rfl (g_check_cloth T) (F_check_cloth T).kp (bd_check_cloth T) (fun σ => passAt (takes_of rfl rfl rfl rfl) σ) (pa_cons (pv 0) pa_nil))) jSs, ?_⟩
  refine ⟨v, rfl, ?_⟩
  dsimp only [tNil]
  exact ck_bad td sm c k
theorem ok_fewest_treadles (T : Tx K mg) : FnOk PP w K mg base (L2.CX PP w) 4 (ga K "fewest_treadles") (fdx K "fewest_treadles") ["cloth"] (spBad K (CC K) ckC 1) := by
  refine (F_fewest_treadles T).ok sc_fewest_treadles (spBad_len rfl) (fun cdv A outer s H vs Q E hr h => ?_)
  obtain ⟨v, rest, d, r, rfl, hl, td, sm, c, k⟩ := h
  refine ⟨_, pss_cons (ps_expr (pe_callS (ok_check_cloth T) hr rfl (g_check_cloth T) (F_check_cloth T).kp (bd_check_cloth T) (fun σ => passAt (takes_of rfl rfl rfl rfl) σ) (pa_cons (pv 0) pa_nil))) jSs, ?_⟩
  refine ⟨v, rfl, ?_⟩
  dsimp only [tNil]
  exact ck_bad td sm c k
theorem ok_accept_treadles (T : Tx K mg) : FnOk PP w K mg base (L2.CX PP w) 4 (ga K "accept_treadles") (fdx K "accept_treadles") ["cloth", "told"] (spBad K (CC K) ckC 2) := by
  refine (F_accept_treadles T).ok sc_accept_treadles (spBad_len rfl) (fun cdv A outer s H vs Q E hr h => ?_)
  obtain ⟨v, rest, d, r, rfl, hl, td, sm, c, k⟩ := h
  refine ⟨_, pss_cons (ps_expr (pe_callS (ok_check_cloth T) hr rfl (g_check_cloth T) (F_check_cloth T).kp (bd_check_cloth T) (fun σ => passAt (takes_of rfl rfl rfl rfl) σ) (pa_cons (pv 0) pa_nil))) jSs, ?_⟩
  refine ⟨v, rfl, ?_⟩
  dsimp only [tNil]
  exact ck_bad td sm c k
theorem ok_lifted_with (T : Tx K mg) : FnOk PP w K mg base (L2.CX PP w) 4 (ga K "lifted_with") (fdx K "lifted_with") ["cloth", "threads"] (spBad K (CC K) ckC 2) := by
  refine (F_lifted_with T).ok sc_lifted_with (spBad_len rfl) (fun cdv A outer s H vs Q E hr h => ?_)
  obtain ⟨v, rest, d, r, rfl, hl, td, sm, c, k⟩ := h
  refine ⟨_, pss_cons (ps_expr (pe_callS (ok_check_cloth T) hr rfl (g_check_cloth T) (F_check_cloth T).kp (bd_check_cloth T) (fun σ => passAt (takes_of rfl rfl rfl rfl) σ) (pa_cons (pv 0) pa_nil))) jSs, ?_⟩
  refine ⟨v, rfl, ?_⟩
  dsimp only [tNil]
  exact ck_bad td sm c k
theorem ok_can_be_lifted (T : Tx K mg) : FnOk PP w K mg base (L2.CX PP w) 4 (ga K "can_be_lifted") (fdx K "can_be_lifted") ["cloth", "threads"] (spBad K (CC K) ckC 2) := by
  refine (F_can_be_lifted T).ok sc_can_be_lifted (spBad_len rfl) (fun cdv A outer s H vs Q E hr h => ?_)
  obtain ⟨v, rest, d, r, rfl, hl, td, sm, c, k⟩ := h
  refine ⟨_, pss_cons (ps_expr (pe_callS (ok_check_cloth T) hr rfl (g_check_cloth T) (F_check_cloth T).kp (bd_check_cloth T) (fun σ => passAt (takes_of rfl rfl rfl rfl) σ) (pa_cons (pv 0) pa_nil))) jSs, ?_⟩
  refine ⟨v, rfl, ?_⟩
  dsimp only [tNil]
  exact ck_bad td sm c k
theorem ok_layers (T : Tx K mg) : FnOk PP w K mg base (L2.CX PP w) 4 (ga K "layers") (fdx K "layers") ["cloth"] (spBad K (CC K) ckC 1) := by
  refine (F_layers T).ok sc_layers (spBad_len rfl) (fun cdv A outer s H vs Q E hr h => ?_)
  obtain ⟨v, rest, d, r, rfl, hl, td, sm, c, k⟩ := h
  refine ⟨_, pss_cons (ps_expr (pe_callS (ok_check_cloth T) hr rfl (g_check_cloth T) (F_check_cloth T).kp (bd_check_cloth T) (fun σ => passAt (takes_of rfl rfl rfl rfl) σ) (pa_cons (pv 0) pa_nil))) jSs, ?_⟩
  refine ⟨v, rfl, ?_⟩
  dsimp only [tNil]
  exact ck_bad td sm c k
theorem ok_parted (T : Tx K mg) : FnOk PP w K mg base (L2.CX PP w) 5 (ga K "parted") (fdx K "parted") ["cloth"] (spBad K (CC K) ckC 1) := by
  refine (F_parted T).ok sc_parted (spBad_len rfl) (fun cdv A outer s H vs Q E hr h => ?_)
  obtain ⟨v, rest, d, r, rfl, hl, td, sm, c, k⟩ := h
  refine ⟨_, pss_one (ps_ret (pe_tupleOf (by rfl) (n_tuple T) (pe_lc (own := [("row", 1)]) rfl sc_parted.nd
    (pi_list (pe_callS (ok_layers T) hr rfl (g_layers T) (F_layers T).kp (bd_layers T) (fun σ => passAt (takes_of rfl rfl rfl rfl) σ) (pa_cons (pv 0) pa_nil))) (blkOk_by (N := ["cloth", "row"]) (sc := defScope st_parted) (by decide +kernel))
    (fun _ _ _ _ _ => jG) (fun _ _ _ _ _ => pts_nil) (fun _ _ _ _ _ => jE)))), ?_⟩
  refine ⟨v, rfl, ?_⟩
  dsimp only [tNil]
  exact ⟨v, [], d, r, rfl, rfl, td, sm, c, k⟩
theorem ok_hangs_together (T : Tx K mg) : FnOk PP w K mg base (L2.CX PP w) 4 (ga K "hangs_together") (fdx K "hangs_together") ["cloth"] (spBad K (CC K) ckC 1) := by
  refine (F_hangs_together T).ok sc_hangs_together (spBad_len rfl) (fun cdv A outer s H vs Q E hr h => ?_)
  obtain ⟨v, rest, d, r, rfl, hl, td, sm, c, k⟩ := h
  refine ⟨_, pss_cons (ps_expr (pe_callS (ok_check_cloth T) hr rfl (g_check_cloth T) (F_check_cloth T).kp (bd_check_cloth T) (fun σ => passAt (takes_of rfl rfl rfl rfl) σ) (pa_cons (pv 0) pa_nil))) jSs, ?_⟩
  refine ⟨v, rfl, ?_⟩
  dsimp only [tNil]
  exact ck_bad td sm c k
theorem ok_falls_by_sums (T : Tx K mg) : FnOk PP w K mg base (L2.CX PP w) 4 (ga K "falls_by_sums") (fdx K "falls_by_sums") ["cloth"] (spBad K (CC K) ckC 1) := by
  refine (F_falls_by_sums T).ok sc_falls_by_sums (spBad_len rfl) (fun cdv A outer s H vs Q E hr h => ?_)
  obtain ⟨v, rest, d, r, rfl, hl, td, sm, c, k⟩ := h
  refine ⟨_, pss_cons (ps_expr (pe_callS (ok_check_cloth T) hr rfl (g_check_cloth T) (F_check_cloth T).kp (bd_check_cloth T) (fun σ => passAt (takes_of rfl rfl rfl rfl) σ) (pa_cons (pv 0) pa_nil))) jSs, ?_⟩
  refine ⟨v, rfl, ?_⟩
  dsimp only [tNil]
  exact ck_bad td sm c k
theorem ok_accept_together (T : Tx K mg) : FnOk PP w K mg base (L2.CX PP w) 4 (ga K "accept_together") (fdx K "accept_together") ["cloth", "told"] (spBad K (CC K) ckC 2) := by
  refine (F_accept_together T).ok sc_accept_together (spBad_len rfl) (fun cdv A outer s H vs Q E hr h => ?_)
  obtain ⟨v, rest, d, r, rfl, hl, td, sm, c, k⟩ := h
  refine ⟨_, pss_cons (ps_expr (pe_callS (ok_check_cloth T) hr rfl (g_check_cloth T) (F_check_cloth T).kp (bd_check_cloth T) (fun σ => passAt (takes_of rfl rfl rfl rfl) σ) (pa_cons (pv 0) pa_nil))) jSs, ?_⟩
  refine ⟨v, rfl, ?_⟩
  dsimp only [tNil]
  exact ck_bad td sm c k
theorem ok_apart_without (T : Tx K mg) : FnOk PP w K mg base (L2.CX PP w) 5 (ga K "apart_without") (fdx K "apart_without") ["cloth", "gone"] (spBad K (CC K) ckC 2) := by
  refine (F_apart_without T).ok sc_apart_without (spBad_len rfl) (fun cdv A outer s H vs Q E hr h => ?_)
  obtain ⟨v, rest, d, r, rfl, hl, td, sm, c, k⟩ := h
  refine ⟨_, pss_cons (ps_expr (pe_callS (ok_demand_piece T) hr rfl (g_demand_piece T) (F_demand_piece T).kp (bd_demand_piece T) (fun σ => passAt (takes_of rfl rfl rfl rfl) σ) (pa_cons (pv 0) pa_nil))) jSs, ?_⟩
  refine ⟨v, rfl, ?_⟩
  dsimp only [tNil]
  exact ⟨v, [], d, r, rfl, rfl, td, sm, c, k⟩
theorem ok_weak_threads (T : Tx K mg) : FnOk PP w K mg base (L2.CX PP w) 5 (ga K "weak_threads") (fdx K "weak_threads") ["cloth"] (spBad K (CC K) ckC 1) := by
  refine (F_weak_threads T).ok sc_weak_threads (spBad_len rfl) (fun cdv A outer s H vs Q E hr h => ?_)
  obtain ⟨v, rest, d, r, rfl, hl, td, sm, c, k⟩ := h
  refine ⟨_, pss_cons (ps_expr (pe_callS (ok_demand_piece T) hr rfl (g_demand_piece T) (F_demand_piece T).kp (bd_demand_piece T) (fun σ => passAt (takes_of rfl rfl rfl rfl) σ) (pa_cons (pv 0) pa_nil))) jSs, ?_⟩
  refine ⟨v, rfl, ?_⟩
  dsimp only [tNil]
  exact ⟨v, [], d, r, rfl, rfl, td, sm, c, k⟩
theorem ok_most_chains (T : Tx K mg) : FnOk PP w K mg base (L2.CX PP w) 5 (ga K "most_chains") (fdx K "most_chains") ["cloth", "start", "end"] (spBad K (CC K) ckC 3) := by
  refine (F_most_chains T).ok sc_most_chains (spBad_len rfl) (fun cdv A outer s H vs Q E hr h => ?_)
  obtain ⟨v, rest, d, r, rfl, hl, td, sm, c, k⟩ := h
  refine ⟨_, pss_cons (ps_expr (pe_callS (ok_demand_piece T) hr rfl (g_demand_piece T) (F_demand_piece T).kp (bd_demand_piece T) (fun σ => passAt (takes_of rfl rfl rfl rfl) σ) (pa_cons (pv 0) pa_nil))) jSs, ?_⟩
  refine ⟨v, rfl, ?_⟩
  dsimp only [tNil]
  exact ⟨v, [], d, r, rfl, rfl, td, sm, c, k⟩
theorem ok_accept_chains (T : Tx K mg) : FnOk PP w K mg base (L2.CX PP w) 5 (ga K "accept_chains") (fdx K "accept_chains") ["cloth", "start", "end", "told"] (spBad K (CC K) ckC 4) := by
  refine (F_accept_chains T).ok sc_accept_chains (spBad_len rfl) (fun cdv A outer s H vs Q E hr h => ?_)
  obtain ⟨v, rest, d, r, rfl, hl, td, sm, c, k⟩ := h
  refine ⟨_, pss_cons (ps_expr (pe_callS (ok_demand_piece T) hr rfl (g_demand_piece T) (F_demand_piece T).kp (bd_demand_piece T) (fun σ => passAt (takes_of rfl rfl rfl rfl) σ) (pa_cons (pv 0) pa_nil))) jSs, ?_⟩
  refine ⟨v, rfl, ?_⟩
  dsimp only [tNil]
  exact ⟨v, [], d, r, rfl, rfl, td, sm, c, k⟩
theorem ok_strength (T : Tx K mg) : FnOk PP w K mg base (L2.CX PP w) 5 (ga K "strength") (fdx K "strength") ["cloth"] (spBad K (CC K) ckC 1) := by
  refine (F_strength T).ok sc_strength (spBad_len rfl) (fun cdv A outer s H vs Q E hr h => ?_)
  obtain ⟨v, rest, d, r, rfl, hl, td, sm, c, k⟩ := h
  refine ⟨_, pss_cons (ps_expr (pe_callS (ok_demand_piece T) hr rfl (g_demand_piece T) (F_demand_piece T).kp (bd_demand_piece T) (fun σ => passAt (takes_of rfl rfl rfl rfl) σ) (pa_cons (pv 0) pa_nil))) jSs, ?_⟩
  refine ⟨v, rfl, ?_⟩
  dsimp only [tNil]
  exact ⟨v, [], d, r, rfl, rfl, td, sm, c, k⟩
theorem ok_accept_strength (T : Tx K mg) : FnOk PP w K mg base (L2.CX PP w) 5 (ga K "accept_strength") (fdx K "accept_strength") ["cloth", "told"] (spBad K (CC K) ckC 2) := by
  refine (F_accept_strength T).ok sc_accept_strength (spBad_len rfl) (fun cdv A outer s H vs Q E hr h => ?_)
  obtain ⟨v, rest, d, r, rfl, hl, td, sm, c, k⟩ := h
  refine ⟨_, pss_cons (ps_expr (pe_callS (ok_demand_piece T) hr rfl (g_demand_piece T) (F_demand_piece T).kp (bd_demand_piece T) (fun σ => passAt (takes_of rfl rfl rfl rfl) σ) (pa_cons (pv 0) pa_nil))) jSs, ?_⟩
  refine ⟨v, rfl, ?_⟩
  dsimp only [tNil]
  exact ⟨v, [], d, r, rfl, rfl, td, sm, c, k⟩
theorem ok_floats (T : Tx K mg) : FnOk PP w K mg base (L2.CX PP w) 4 (ga K "floats") (fdx K "floats") ["cloth"] (spBad K (CC K) ckC 1) := by
  refine (F_floats T).ok sc_floats (spBad_len rfl) (fun cdv A outer s H vs Q E hr h => ?_)
  obtain ⟨v, rest, d, r, rfl, hl, td, sm, c, k⟩ := h
  refine ⟨_, pss_cons (ps_expr (pe_callS (ok_check_cloth T) hr rfl (g_check_cloth T) (F_check_cloth T).kp (bd_check_cloth T) (fun σ => passAt (takes_of rfl rfl rfl rfl) σ) (pa_cons (pv 0) pa_nil))) jSs, ?_⟩
  refine ⟨v, rfl, ?_⟩
  dsimp only [tNil]
  exact ck_bad td sm c k
theorem ok_longest (T : Tx K mg) : FnOk PP w K mg base (L2.CX PP w) 4 (ga K "longest") (fdx K "longest") ["cloth"] (spBad K (CC K) ckC 1) := by
  refine (F_longest T).ok sc_longest (spBad_len rfl) (fun cdv A outer s H vs Q E hr h => ?_)
  obtain ⟨v, rest, d, r, rfl, hl, td, sm, c, k⟩ := h
  refine ⟨_, pss_cons (ps_expr (pe_callS (ok_check_cloth T) hr rfl (g_check_cloth T) (F_check_cloth T).kp (bd_check_cloth T) (fun σ => passAt (takes_of rfl rfl rfl rfl) σ) (pa_cons (pv 0) pa_nil))) jSs, ?_⟩
  refine ⟨v, rfl, ?_⟩
  dsimp only [tNil]
  exact ck_bad td sm c k
theorem ok_face_of (T : Tx K mg) : FnOk PP w K mg base (L2.CX PP w) 4 (ga K "face_of") (fdx K "face_of") ["cloth"] (spBad K (CC K) ckC 1) := by
  refine (F_face_of T).ok sc_face_of (spBad_len rfl) (fun cdv A outer s H vs Q E hr h => ?_)
  obtain ⟨v, rest, d, r, rfl, hl, td, sm, c, k⟩ := h
  refine ⟨_, pss_cons (ps_expr (pe_callS (ok_check_cloth T) hr rfl (g_check_cloth T) (F_check_cloth T).kp (bd_check_cloth T) (fun σ => passAt (takes_of rfl rfl rfl rfl) σ) (pa_cons (pv 0) pa_nil))) jSs, ?_⟩
  refine ⟨v, rfl, ?_⟩
  dsimp only [tNil]
  exact ck_bad td sm c k
theorem ok_interlacings (T : Tx K mg) : FnOk PP w K mg base (L2.CX PP w) 4 (ga K "interlacings") (fdx K "interlacings") ["cloth"] (spBad K (CC K) ckC 1) := by
  refine (F_interlacings T).ok sc_interlacings (spBad_len rfl) (fun cdv A outer s H vs Q E hr h => ?_)
  obtain ⟨v, rest, d, r, rfl, hl, td, sm, c, k⟩ := h
  refine ⟨_, pss_cons (ps_expr (pe_callS (ok_check_cloth T) hr rfl (g_check_cloth T) (F_check_cloth T).kp (bd_check_cloth T) (fun σ => passAt (takes_of rfl rfl rfl rfl) σ) (pa_cons (pv 0) pa_nil))) jSs, ?_⟩
  refine ⟨v, rfl, ?_⟩
  dsimp only [tNil]
  exact ck_bad td sm c k
theorem ok_too_long (T : Tx K mg) : FnOk PP w K mg base (L2.CX PP w) 4 (ga K "too_long") (fdx K "too_long") ["cloth", "most"] (spBad K (CC K) ckC 2) := by
  refine (F_too_long T).ok sc_too_long (spBad_len rfl) (fun cdv A outer s H vs Q E hr h => ?_)
  obtain ⟨v, rest, d, r, rfl, hl, td, sm, c, k⟩ := h
  refine ⟨_, pss_cons (ps_expr (pe_callS (ok_check_cloth T) hr rfl (g_check_cloth T) (F_check_cloth T).kp (bd_check_cloth T) (fun σ => passAt (takes_of rfl rfl rfl rfl) σ) (pa_cons (pv 0) pa_nil))) jSs, ?_⟩
  refine ⟨v, rfl, ?_⟩
  dsimp only [tNil]
  exact ck_bad td sm c k
theorem ok_picture (T : Tx K mg) : FnOk PP w K mg base (L2.CX PP w) 4 (ga K "picture") (fdx K "picture") ["cloth", "plan"] (spBad K (CC K) ckC 2) := by
  refine (F_picture T).ok sc_picture (spBad_len rfl) (fun cdv A outer s H vs Q E hr h => ?_)
  obtain ⟨v, rest, d, r, rfl, hl, td, sm, c, k⟩ := h
  refine ⟨_, pss_cons (ps_expr (pe_callS (ok_check_cloth T) hr rfl (g_check_cloth T) (F_check_cloth T).kp (bd_check_cloth T) (fun σ => passAt (takes_of rfl rfl rfl rfl) σ) (pa_cons (pv 0) pa_nil))) jSs, ?_⟩
  refine ⟨v, rfl, ?_⟩
  dsimp only [tNil]
  exact ck_bad td sm c k
theorem ok_picture_behind (T : Tx K mg) : FnOk PP w K mg base (L2.CX PP w) 4 (ga K "picture_behind") (fdx K "picture_behind") ["cloth", "plan"] (spBad K (CC K) ckC 2) := by
  refine (F_picture_behind T).ok sc_picture_behind (spBad_len rfl) (fun cdv A outer s H vs Q E hr h => ?_)
  obtain ⟨v, rest, d, r, rfl, hl, td, sm, c, k⟩ := h
  refine ⟨_, pss_cons (ps_expr (pe_callS (ok_check_cloth T) hr rfl (g_check_cloth T) (F_check_cloth T).kp (bd_check_cloth T) (fun σ => passAt (takes_of rfl rfl rfl rfl) σ) (pa_cons (pv 0) pa_nil))) jSs, ?_⟩
  refine ⟨v, rfl, ?_⟩
  dsimp only [tNil]
  exact ck_bad td sm c k
theorem ok_plan_of (T : Tx K mg) : FnOk PP w K mg base (L2.CX PP w) 4 (ga K "plan_of") (fdx K "plan_of") ["cloth", "rows"] (spBad K (CC K) ckC 2) := by
  refine (F_plan_of T).ok sc_plan_of (spBad_len rfl) (fun cdv A outer s H vs Q E hr h => ?_)
  obtain ⟨v, rest, d, r, rfl, hl, td, sm, c, k⟩ := h
  refine ⟨_, pss_cons (ps_expr (pe_callS (ok_check_cloth T) hr rfl (g_check_cloth T) (F_check_cloth T).kp (bd_check_cloth T) (fun σ => passAt (takes_of rfl rfl rfl rfl) σ) (pa_cons (pv 0) pa_nil))) jSs, ?_⟩
  refine ⟨v, rfl, ?_⟩
  dsimp only [tNil]
  exact ck_bad td sm c k
theorem ok_tallies (T : Tx K mg) : FnOk PP w K mg base (L2.CX PP w) 4 (ga K "tallies") (fdx K "tallies") ["cloth", "rows"] (spBad K (CC K) ckC 2) := by
  refine (F_tallies T).ok sc_tallies (spBad_len rfl) (fun cdv A outer s H vs Q E hr h => ?_)
  obtain ⟨v, rest, d, r, rfl, hl, td, sm, c, k⟩ := h
  refine ⟨_, pss_cons (ps_expr (pe_callS (ok_check_cloth T) hr rfl (g_check_cloth T) (F_check_cloth T).kp (bd_check_cloth T) (fun σ => passAt (takes_of rfl rfl rfl rfl) σ) (pa_cons (pv 0) pa_nil))) jSs, ?_⟩
  refine ⟨v, rfl, ?_⟩
  dsimp only [tNil]
  exact ck_bad td sm c k
theorem ok_nearest (T : Tx K mg) : FnOk PP w K mg base (L2.CX PP w) 4 (ga K "nearest") (fdx K "nearest") ["cloth", "rows"] (spBad K (CC K) ckC 2) := by
  refine (F_nearest T).ok sc_nearest (spBad_len rfl) (fun cdv A outer s H vs Q E hr h => ?_)
  obtain ⟨v, rest, d, r, rfl, hl, td, sm, c, k⟩ := h
  refine ⟨_, pss_cons (ps_expr (pe_callS (ok_check_cloth T) hr rfl (g_check_cloth T) (F_check_cloth T).kp (bd_check_cloth T) (fun σ => passAt (takes_of rfl rfl rfl rfl) σ) (pa_cons (pv 0) pa_nil))) jSs, ?_⟩
  refine ⟨v, rfl, ?_⟩
  dsimp only [tNil]
  exact ck_bad td sm c k
theorem ok_accept_plan_of (T : Tx K mg) : FnOk PP w K mg base (L2.CX PP w) 5 (ga K "accept_plan_of") (fdx K "accept_plan_of") ["cloth", "rows", "told"] (spBad K (CC K) ckC 3) := by
  refine (F_accept_plan_of T).ok sc_accept_plan_of (spBad_len rfl) (fun cdv A outer s H vs Q E hr h => ?_)
  obtain ⟨v, rest, d, r, rfl, hl, td, sm, c, k⟩ := h
  refine ⟨_, pss_cons (ps_set (i := 3) sc_accept_plan_of.nd rfl (by first | exact Or.inl rfl | exact Or.inr rfl) (pe_callS (ok_plan_of T) hr rfl (g_plan_of T) (F_plan_of T).kp (bd_plan_of T) (fun σ => passAt (takes_of rfl rfl rfl rfl) σ) (pa_cons (pv 0) (pa_cons (pv 1) pa_nil)))) jSs, ?_⟩
  match rest, hl with
  | [v2, v3], _ =>
    refine ⟨v, rfl, v2, rfl, ?_⟩
    dsimp only [tNil]
    exact ⟨v, [v2], d, r, rfl, rfl, td, sm, c, k⟩
theorem ok_accept_nearest (T : Tx K mg) : FnOk PP w K mg base (L2.CX PP w) 4 (ga K "accept_nearest") (fdx K "accept_nearest") ["cloth", "rows", "told"] (spBad K (CC K) ckC 3) := by
  refine (F_accept_nearest T).ok sc_accept_nearest (spBad_len rfl) (fun cdv A outer s H vs Q E hr h => ?_)
  obtain ⟨v, rest, d, r, rfl, hl, td, sm, c, k⟩ := h
  refine ⟨_, pss_cons (ps_expr (pe_callS (ok_check_cloth T) hr rfl (g_check_cloth T) (F_check_cloth T).kp (bd_check_cloth T) (fun σ => passAt (takes_of rfl rfl rfl rfl) σ) (pa_cons (pv 0) pa_nil))) jSs, ?_⟩
  refine ⟨v, rfl, ?_⟩
  dsimp only [tNil]
  exact ck_bad td sm c k
theorem ok_fewest_colours (T : Tx K mg) : FnOk PP w K mg base (L2.CX PP w) 4 (ga K "fewest_colours") (fdx K "fewest_colours") ["cloth", "pairs"] (spBad K (CC K) ckC 2) := by
  refine (F_fewest_colours T).ok sc_fewest_colours (spBad_len rfl) (fun cdv A outer s H vs Q E hr h => ?_)
  obtain ⟨v, rest, d, r, rfl, hl, td, sm, c, k⟩ := h
  refine ⟨_, pss_cons (ps_expr (pe_callS (ok_check_cloth T) hr rfl (g_check_cloth T) (F_check_cloth T).kp (bd_check_cloth T) (fun σ => passAt (takes_of rfl rfl rfl rfl) σ) (pa_cons (pv 0) pa_nil))) jSs, ?_⟩
  refine ⟨v, rfl, ?_⟩
  dsimp only [tNil]
  exact ck_bad td sm c k
theorem ok_accept_colours (T : Tx K mg) : FnOk PP w K mg base (L2.CX PP w) 4 (ga K "accept_colours") (fdx K "accept_colours") ["cloth", "pairs", "told"] (spBad K (CC K) ckC 3) := by
  refine (F_accept_colours T).ok sc_accept_colours (spBad_len rfl) (fun cdv A outer s H vs Q E hr h => ?_)
  obtain ⟨v, rest, d, r, rfl, hl, td, sm, c, k⟩ := h
  refine ⟨_, pss_cons (ps_expr (pe_callS (ok_check_cloth T) hr rfl (g_check_cloth T) (F_check_cloth T).kp (bd_check_cloth T) (fun σ => passAt (takes_of rfl rfl rfl rfl) σ) (pa_cons (pv 0) pa_nil))) jSs, ?_⟩
  refine ⟨v, rfl, ?_⟩
  dsimp only [tNil]
  exact ck_bad td sm c k
theorem ok_reduced (T : Tx K mg) : FnOk PP w K mg base (L2.CX PP w) 4 (ga K "reduced") (fdx K "reduced") ["cloth"] (spBad K (CC K) ckC 1) := by
  refine (F_reduced T).ok sc_reduced (spBad_len rfl) (fun cdv A outer s H vs Q E hr h => ?_)
  obtain ⟨v, rest, d, r, rfl, hl, td, sm, c, k⟩ := h
  refine ⟨_, pss_cons (ps_expr (pe_callS (ok_check_cloth T) hr rfl (g_check_cloth T) (F_check_cloth T).kp (bd_check_cloth T) (fun σ => passAt (takes_of rfl rfl rfl rfl) σ) (pa_cons (pv 0) pa_nil))) jSs, ?_⟩
  refine ⟨v, rfl, ?_⟩
  dsimp only [tNil]
  exact ck_bad td sm c k
theorem ok_normal (T : Tx K mg) : FnOk PP w K mg base (L2.CX PP w) 4 (ga K "normal") (fdx K "normal") ["cloth"] (spBad K (CC K) ckC 1) := by
  refine (F_normal T).ok sc_normal (spBad_len rfl) (fun cdv A outer s H vs Q E hr h => ?_)
  obtain ⟨v, rest, d, r, rfl, hl, td, sm, c, k⟩ := h
  refine ⟨_, pss_cons (ps_expr (pe_callS (ok_check_cloth T) hr rfl (g_check_cloth T) (F_check_cloth T).kp (bd_check_cloth T) (fun σ => passAt (takes_of rfl rfl rfl rfl) σ) (pa_cons (pv 0) pa_nil))) jSs, ?_⟩
  refine ⟨v, rfl, ?_⟩
  dsimp only [tNil]
  exact ck_bad td sm c k
theorem ok_symmetries (T : Tx K mg) : FnOk PP w K mg base (L2.CX PP w) 4 (ga K "symmetries") (fdx K "symmetries") ["cloth"] (spBad K (CC K) ckC 1) := by
  refine (F_symmetries T).ok sc_symmetries (spBad_len rfl) (fun cdv A outer s H vs Q E hr h => ?_)
  obtain ⟨v, rest, d, r, rfl, hl, td, sm, c, k⟩ := h
  refine ⟨_, pss_cons (ps_expr (pe_callS (ok_check_cloth T) hr rfl (g_check_cloth T) (F_check_cloth T).kp (bd_check_cloth T) (fun σ => passAt (takes_of rfl rfl rfl rfl) σ) (pa_cons (pv 0) pa_nil))) jSs, ?_⟩
  refine ⟨v, rfl, ?_⟩
  dsimp only [tNil]
  exact ck_bad td sm c k
theorem ok_classes (T : Tx K mg) : FnOk PP w K mg base (L2.CX PP w) 4 (ga K "classes") (fdx K "classes") ["cloth"] (spBad K (CC K) ckC 1) := by
  refine (F_classes T).ok sc_classes (spBad_len rfl) (fun cdv A outer s H vs Q E hr h => ?_)
  obtain ⟨v, rest, d, r, rfl, hl, td, sm, c, k⟩ := h
  refine ⟨_, pss_cons (ps_expr (pe_callS (ok_check_cloth T) hr rfl (g_check_cloth T) (F_check_cloth T).kp (bd_check_cloth T) (fun σ => passAt (takes_of rfl rfl rfl rfl) σ) (pa_cons (pv 0) pa_nil))) jSs, ?_⟩
  refine ⟨v, rfl, ?_⟩
  dsimp only [tNil]
  exact ck_bad td sm c k
theorem ok_is_even (T : Tx K mg) : FnOk PP w K mg base (L2.CX PP w) 5 (ga K "is_even") (fdx K "is_even") ["cloth"] (spBad K (CC K) ckC 1) := by
  refine (F_is_even T).ok sc_is_even (spBad_len rfl) (fun cdv A outer s H vs Q E hr h => ?_)
  obtain ⟨v, rest, d, r, rfl, hl, td, sm, c, k⟩ := h
  refine ⟨_, pss_one (ps_ret (pe_cmpR op_eq (pe_callB (r := rLen2 K) call_len_seq (by rfl) (n_len T) Boot.«len» (pa_cons (pe_dc (own := [("first", 1), ("turn", 2)]) rfl sc_is_even.nd
    (pi_list (pe_callS (ok_classes T) hr rfl (g_classes T) (F_classes T).kp (bd_classes T) (fun σ => passAt (takes_of rfl rfl rfl rfl) σ) (pa_cons (pv 0) pa_nil))) (blkOk_by (N := ["cloth", "first", "turn"]) (sc := defScope st_is_even) (by decide +kernel))
    (fun _ _ _ _ _ => jG) (fun _ _ _ _ _ => pts_nil) (fun _ _ _ _ _ => jE) (fun _ _ _ _ _ => jE)) pa_nil)) pe_int (nomark _))), ?_⟩
  refine ⟨v, rfl, ?_⟩
  dsimp only [tNil]
  exact ⟨v, [], d, r, rfl, rfl, td, sm, c, k⟩
theorem ok_turned (T : Tx K mg) : FnOk PP w K mg base (L2.CX PP w) 4 (ga K "turned") (fdx K "turned") ["cloth", "turn"] (spBad K (CC K) ckC 2) := by
  refine (F_turned T).ok sc_turned (spBad_len rfl) (fun cdv A outer s H vs Q E hr h => ?_)
  obtain ⟨v, rest, d, r, rfl, hl, td, sm, c, k⟩ := h
  refine ⟨_, pss_cons (ps_expr (pe_callS (ok_check_cloth T) hr rfl (g_check_cloth T) (F_check_cloth T).kp (bd_check_cloth T) (fun σ => passAt (takes_of rfl rfl rfl rfl) σ) (pa_cons (pv 0) pa_nil))) jSs, ?_⟩
  refine ⟨v, rfl, ?_⟩
  dsimp only [tNil]
  exact ck_bad td sm c k
theorem ok_compare (T : Tx K mg) : FnOk PP w K mg base (L2.CX PP w) 4 (ga K "compare") (fdx K "compare") ["first", "second"] (spBad2 K (CC K) ckC 2) := by
  refine (F_compare T).ok sc_compare (spBad2_len rfl) (fun cdv A outer s H vs Q E hr h => ?_)
  obtain ⟨v, v2, rest, d, r, rfl, hl, td, sm, c, k⟩ := h
  refine ⟨_, pss_cons (ps_expr (pe_callS (ok_check_cloth T) hr rfl (g_check_cloth T) (F_check_cloth T).kp (bd_check_cloth T) (fun σ => passAt (takes_of rfl rfl rfl rfl) σ) (pa_cons (pv 0) pa_nil))) (pss_cons (ps_expr (pe_callS (ok_check_cloth T) hr rfl (g_check_cloth T) (F_check_cloth T).kp (bd_check_cloth T) (fun σ => passAt (takes_of rfl rfl rfl rfl) σ) (pa_cons (pv 1) pa_nil))) jSs), ?_⟩
  rcases c with c | ⟨c, d2, td2, sm2, c2⟩
  · refine ⟨v, rfl, ?_⟩
    dsimp only [tNil]
    exact ck_bad td sm c k
  · refine ⟨v, rfl, ?_⟩
    dsimp only [tNil]
    refine ck_good td sm c fun H1 e1 => ?_
    refine ⟨v2, rfl, ?_⟩
    dsimp only [tNil]
    exact ck_bad (Td.mono (hrE K) e1 _ td2) sm2 c2 fun H' dd e h => k H' dd (Evl.Ex.trans e1 e) h
theorem ok_accept_compare (T : Tx K mg) : FnOk PP w K mg base (L2.CX PP w) 4 (ga K "accept_compare") (fdx K "accept_compare") ["first", "second", "told"] (spBad2 K (CC K) ckC 3) := by
  refine (F_accept_compare T).ok sc_accept_compare (spBad2_len rfl) (fun cdv A outer s H vs Q E hr h => ?_)
  obtain ⟨v, v2, rest, d, r, rfl, hl, td, sm, c, k⟩ := h
  refine ⟨_, pss_cons (ps_expr (pe_callS (ok_check_cloth T) hr rfl (g_check_cloth T) (F_check_cloth T).kp (bd_check_cloth T) (fun σ => passAt (takes_of rfl rfl rfl rfl) σ) (pa_cons (pv 0) pa_nil))) (pss_cons (ps_expr (pe_callS (ok_check_cloth T) hr rfl (g_check_cloth T) (F_check_cloth T).kp (bd_check_cloth T) (fun σ => passAt (takes_of rfl rfl rfl rfl) σ) (pa_cons (pv 1) pa_nil))) jSs), ?_⟩
  rcases c with c | ⟨c, d2, td2, sm2, c2⟩
  · refine ⟨v, rfl, ?_⟩
    dsimp only [tNil]
    exact ck_bad td sm c k
  · refine ⟨v, rfl, ?_⟩
    dsimp only [tNil]
    refine ck_good td sm c fun H1 e1 => ?_
    refine ⟨v2, rfl, ?_⟩
    dsimp only [tNil]
    exact ck_bad (Td.mono (hrE K) e1 _ td2) sm2 c2 fun H' dd e h => k H' dd (Evl.Ex.trans e1 e) h
theorem ok_unstacked (T : Tx K mg) : FnOk PP w K mg base (L2.CX PP w) 4 (ga K "unstacked") (fdx K "unstacked") ["cloth", "count"] (spBad K (CC K) ckC 2) := by
  refine (F_unstacked T).ok sc_unstacked (spBad_len rfl) (fun cdv A outer s H vs Q E hr h => ?_)
  obtain ⟨v, rest, d, r, rfl, hl, td, sm, c, k⟩ := h
  refine ⟨_, pss_cons (ps_expr (pe_callS (ok_check_cloth T) hr rfl (g_check_cloth T) (F_check_cloth T).kp (bd_check_cloth T) (fun σ => passAt (takes_of rfl rfl rfl rfl) σ) (pa_cons (pv 0) pa_nil))) jSs, ?_⟩
  refine ⟨v, rfl, ?_⟩
  dsimp only [tNil]
  exact ck_bad td sm c k
theorem ok_loosest (T : Tx K mg) : FnOk PP w K mg base (L2.CX PP w) 4 (ga K "loosest") (fdx K "loosest") ["cloth"] (spBad K (CC K) ckC 1) := by
  refine (F_loosest T).ok sc_loosest (spBad_len rfl) (fun cdv A outer s H vs Q E hr h => ?_)
  obtain ⟨v, rest, d, r, rfl, hl, td, sm, c, k⟩ := h
  refine ⟨_, pss_cons (ps_expr (pe_callS (ok_check_cloth T) hr rfl (g_check_cloth T) (F_check_cloth T).kp (bd_check_cloth T) (fun σ => passAt (takes_of rfl rfl rfl rfl) σ) (pa_cons (pv 0) pa_nil))) jSs, ?_⟩
  refine ⟨v, rfl, ?_⟩
  dsimp only [tNil]
  exact ck_bad td sm c k
theorem ok_folded (T : Tx K mg) : FnOk PP w K mg base (L2.CX PP w) 4 (ga K "folded") (fdx K "folded") ["cloth"] (spBad K (CC K) ckC 1) := by
  refine (F_folded T).ok sc_folded (spBad_len rfl) (fun cdv A outer s H vs Q E hr h => ?_)
  obtain ⟨v, rest, d, r, rfl, hl, td, sm, c, k⟩ := h
  refine ⟨_, pss_cons (ps_expr (pe_callS (ok_check_cloth T) hr rfl (g_check_cloth T) (F_check_cloth T).kp (bd_check_cloth T) (fun σ => passAt (takes_of rfl rfl rfl rfl) σ) (pa_cons (pv 0) pa_nil))) jSs, ?_⟩
  refine ⟨v, rfl, ?_⟩
  dsimp only [tNil]
  exact ck_bad td sm c k
theorem ok_twill_step (T : Tx K mg) : FnOk PP w K mg base (L2.CX PP w) 4 (ga K "twill_step") (fdx K "twill_step") ["cloth"] (spBad K (CC K) ckC 1) := by
  refine (F_twill_step T).ok sc_twill_step (spBad_len rfl) (fun cdv A outer s H vs Q E hr h => ?_)
  obtain ⟨v, rest, d, r, rfl, hl, td, sm, c, k⟩ := h
  refine ⟨_, pss_cons (ps_expr (pe_callS (ok_check_cloth T) hr rfl (g_check_cloth T) (F_check_cloth T).kp (bd_check_cloth T) (fun σ => passAt (takes_of rfl rfl rfl rfl) σ) (pa_cons (pv 0) pa_nil))) jSs, ?_⟩
  refine ⟨v, rfl, ?_⟩
  dsimp only [tNil]
  exact ck_bad td sm c k
theorem ok_accept_twill_step (T : Tx K mg) : FnOk PP w K mg base (L2.CX PP w) 4 (ga K "accept_twill_step") (fdx K "accept_twill_step") ["cloth", "told"] (spBad K (CC K) ckC 2) := by
  refine (F_accept_twill_step T).ok sc_accept_twill_step (spBad_len rfl) (fun cdv A outer s H vs Q E hr h => ?_)
  obtain ⟨v, rest, d, r, rfl, hl, td, sm, c, k⟩ := h
  refine ⟨_, pss_cons (ps_expr (pe_callS (ok_check_cloth T) hr rfl (g_check_cloth T) (F_check_cloth T).kp (bd_check_cloth T) (fun σ => passAt (takes_of rfl rfl rfl rfl) σ) (pa_cons (pv 0) pa_nil))) jSs, ?_⟩
  refine ⟨v, rfl, ?_⟩
  dsimp only [tNil]
  exact ck_bad td sm c k
theorem ok_family (T : Tx K mg) : FnOk PP w K mg base (L2.CX PP w) 4 (ga K "family") (fdx K "family") ["cloth"] (spBad K (CC K) ckC 1) := by
  refine (F_family T).ok sc_family (spBad_len rfl) (fun cdv A outer s H vs Q E hr h => ?_)
  obtain ⟨v, rest, d, r, rfl, hl, td, sm, c, k⟩ := h
  refine ⟨_, pss_cons (ps_expr (pe_callS (ok_check_cloth T) hr rfl (g_check_cloth T) (F_check_cloth T).kp (bd_check_cloth T) (fun σ => passAt (takes_of rfl rfl rfl rfl) σ) (pa_cons (pv 0) pa_nil))) jSs, ?_⟩
  refine ⟨v, rfl, ?_⟩
  dsimp only [tNil]
  exact ck_bad td sm c k
theorem ok_bends (T : Tx K mg) : FnOk PP w K mg base (L2.CX PP w) 4 (ga K "bends") (fdx K "bends") ["cloth"] (spBad K (CC K) ckC 1) := by
  refine (F_bends T).ok sc_bends (spBad_len rfl) (fun cdv A outer s H vs Q E hr h => ?_)
  obtain ⟨v, rest, d, r, rfl, hl, td, sm, c, k⟩ := h
  refine ⟨_, pss_cons (ps_expr (pe_callS (ok_check_cloth T) hr rfl (g_check_cloth T) (F_check_cloth T).kp (bd_check_cloth T) (fun σ => passAt (takes_of rfl rfl rfl rfl) σ) (pa_cons (pv 0) pa_nil))) jSs, ?_⟩
  refine ⟨v, rfl, ?_⟩
  dsimp only [tNil]
  exact ck_bad td sm c k
theorem ok_lengths (T : Tx K mg) : FnOk PP w K mg base (L2.CX PP w) 4 (ga K "lengths") (fdx K "lengths") ["cloth", "measures"] (spBad K (CC K) ckC 2) := by
  refine (F_lengths T).ok sc_lengths (spBad_len rfl) (fun cdv A outer s H vs Q E hr h => ?_)
  obtain ⟨v, rest, d, r, rfl, hl, td, sm, c, k⟩ := h
  refine ⟨_, pss_cons (ps_expr (pe_callS (ok_check_cloth T) hr rfl (g_check_cloth T) (F_check_cloth T).kp (bd_check_cloth T) (fun σ => passAt (takes_of rfl rfl rfl rfl) σ) (pa_cons (pv 0) pa_nil))) jSs, ?_⟩
  refine ⟨v, rfl, ?_⟩
  dsimp only [tNil]
  exact ck_bad td sm c k
theorem ok_amounts (T : Tx K mg) : FnOk PP w K mg base (L2.CX PP w) 4 (ga K "amounts") (fdx K "amounts") ["cloth", "plan", "measures", "repeats"] (spBad K (CC K) ckC 4) := by
  refine (F_amounts T).ok sc_amounts (spBad_len rfl) (fun cdv A outer s H vs Q E hr h => ?_)
  obtain ⟨v, rest, d, r, rfl, hl, td, sm, c, k⟩ := h
  refine ⟨_, pss_cons (ps_expr (pe_callS (ok_check_cloth T) hr rfl (g_check_cloth T) (F_check_cloth T).kp (bd_check_cloth T) (fun σ => passAt (takes_of rfl rfl rfl rfl) σ) (pa_cons (pv 0) pa_nil))) jSs, ?_⟩
  refine ⟨v, rfl, ?_⟩
  dsimp only [tNil]
  exact ck_bad td sm c k
theorem ok_woven (T : Tx K mg) : FnOk PP w K mg base (L2.CX PP w) 5 (ga K "woven") (fdx K "woven") ["draft"] (spBad K (CD K) ckD 1) := by
  refine (F_woven T).ok sc_woven (spBad_len rfl) (fun cdv A outer s H vs Q E hr h => ?_)
  obtain ⟨v, rest, d, r, rfl, hl, td, sm, c, k⟩ := h
  refine ⟨_, pss_cons (ps_expr (pe_callS (ok_check_draft T) hr rfl (g_check_draft T) (F_check_draft T).kp (bd_check_draft T) (fun σ => passAt (takes_of rfl rfl rfl rfl) σ) (pa_cons (pv 0) pa_nil))) jSs, ?_⟩
  refine ⟨v, rfl, ?_⟩
  dsimp only [tNil]
  exact ck_bad td sm c k
theorem ok_tidy (T : Tx K mg) : FnOk PP w K mg base (L2.CX PP w) 5 (ga K "tidy") (fdx K "tidy") ["draft"] (spBad K (CD K) ckD 1) := by
  refine (F_tidy T).ok sc_tidy (spBad_len rfl) (fun cdv A outer s H vs Q E hr h => ?_)
  obtain ⟨v, rest, d, r, rfl, hl, td, sm, c, k⟩ := h
  refine ⟨_, pss_cons (ps_expr (pe_callS (ok_check_draft T) hr rfl (g_check_draft T) (F_check_draft T).kp (bd_check_draft T) (fun σ => passAt (takes_of rfl rfl rfl rfl) σ) (pa_cons (pv 0) pa_nil))) jSs, ?_⟩
  refine ⟨v, rfl, ?_⟩
  dsimp only [tNil]
  exact ck_bad td sm c k
theorem ok_turned_draft (T : Tx K mg) : FnOk PP w K mg base (L2.CX PP w) 5 (ga K "turned_draft") (fdx K "turned_draft") ["draft"] (spBad K (CD K) ckD 1) := by
  refine (F_turned_draft T).ok sc_turned_draft (spBad_len rfl) (fun cdv A outer s H vs Q E hr h => ?_)
  obtain ⟨v, rest, d, r, rfl, hl, td, sm, c, k⟩ := h
  refine ⟨_, pss_cons (ps_expr (pe_callS (ok_check_draft T) hr rfl (g_check_draft T) (F_check_draft T).kp (bd_check_draft T) (fun σ => passAt (takes_of rfl rfl rfl rfl) σ) (pa_cons (pv 0) pa_nil))) jSs, ?_⟩
  refine ⟨v, rfl, ?_⟩
  dsimp only [tNil]
  exact ck_bad td sm c k
theorem ok_reordered (T : Tx K mg) : FnOk PP w K mg base (L2.CX PP w) 5 (ga K "reordered") (fdx K "reordered") ["draft", "shafts", "treadles"] (spBad K (CD K) ckD 3) := by
  refine (F_reordered T).ok sc_reordered (spBad_len rfl) (fun cdv A outer s H vs Q E hr h => ?_)
  obtain ⟨v, rest, d, r, rfl, hl, td, sm, c, k⟩ := h
  refine ⟨_, pss_cons (ps_expr (pe_callS (ok_check_draft T) hr rfl (g_check_draft T) (F_check_draft T).kp (bd_check_draft T) (fun σ => passAt (takes_of rfl rfl rfl rfl) σ) (pa_cons (pv 0) pa_nil))) jSs, ?_⟩
  refine ⟨v, rfl, ?_⟩
  dsimp only [tNil]
  exact ck_bad td sm c k
theorem ok_step_table (T : Tx K mg) : FnOk PP w K mg base (L2.CX PP w) 5 (ga K "step_table") (fdx K "step_table") ["draft"] (spBad K (CD K) ckD 1) := by
  refine (F_step_table T).ok sc_step_table (spBad_len rfl) (fun cdv A outer s H vs Q E hr h => ?_)
  obtain ⟨v, rest, d, r, rfl, hl, td, sm, c, k⟩ := h
  refine ⟨_, pss_cons (ps_expr (pe_callS (ok_check_draft T) hr rfl (g_check_draft T) (F_check_draft T).kp (bd_check_draft T) (fun σ => passAt (takes_of rfl rfl rfl rfl) σ) (pa_cons (pv 0) pa_nil))) jSs, ?_⟩
  refine ⟨v, rfl, ?_⟩
  dsimp only [tNil]
  exact ck_bad td sm c k
theorem ok_fewest_steps (T : Tx K mg) : FnOk PP w K mg base (L2.CX PP w) 6 (ga K "fewest_steps") (fdx K "fewest_steps") ["draft"] (spBad K (CD K) ckD 1) := by
  refine (F_fewest_steps T).ok sc_fewest_steps (spBad_len rfl) (fun cdv A outer s H vs Q E hr h => ?_)
  obtain ⟨v, rest, d, r, rfl, hl, td, sm, c, k⟩ := h
  refine ⟨_, pss_cons (ps_set (i := 1) sc_fewest_steps.nd rfl (by first | exact Or.inl rfl | exact Or.inr rfl) (pe_callS (ok_step_table T) hr rfl (g_step_table T) (F_step_table T).kp (bd_step_table T) (fun σ => passAt (takes_of rfl rfl rfl rfl) σ) (pa_cons (pv 0) pa_nil))) jSs, ?_⟩
  refine ⟨v, rfl, ?_⟩
  dsimp only [tNil]
  exact ⟨v, [], d, r, rfl, rfl, td, sm, c, k⟩
theorem ok_accept_step_table (T : Tx K mg) : FnOk PP w K mg base (L2.CX PP w) 5 (ga K "accept_step_table") (fdx K "accept_step_table") ["draft", "table"] (spBad K (CD K) ckD 2) := by
  refine (F_accept_step_table T).ok sc_accept_step_table (spBad_len rfl) (fun cdv A outer s H vs Q E hr h => ?_)
  obtain ⟨v, rest, d, r, rfl, hl, td, sm, c, k⟩ := h
  refine ⟨_, pss_cons (ps_expr (pe_callS (ok_check_draft T) hr rfl (g_check_draft T) (F_check_draft T).kp (bd_check_draft T) (fun σ => passAt (takes_of rfl rfl rfl rfl) σ) (pa_cons (pv 0) pa_nil))) jSs, ?_⟩
  refine ⟨v, rfl, ?_⟩
  dsimp only [tNil]
  exact ck_bad td sm c k
theorem ok_steps_of (T : Tx K mg) : FnOk PP w K mg base (L2.CX PP w) 5 (ga K "steps_of") (fdx K "steps_of") ["draft", "ways"] (spBad K (CD K) ckD 2) := by
  refine (F_steps_of T).ok sc_steps_of (spBad_len rfl) (fun cdv A outer s H vs Q E hr h => ?_)
  obtain ⟨v, rest, d, r, rfl, hl, td, sm, c, k⟩ := h
  refine ⟨_, pss_cons (ps_expr (pe_callS (ok_check_draft T) hr rfl (g_check_draft T) (F_check_draft T).kp (bd_check_draft T) (fun σ => passAt (takes_of rfl rfl rfl rfl) σ) (pa_cons (pv 0) pa_nil))) jSs, ?_⟩
  refine ⟨v, rfl, ?_⟩
  dsimp only [tNil]
  exact ck_bad td sm c k
end
end K5

set_option Elab.async false
set_option linter.all false
set_option maxRecDepth 100000
set_option maxHeartbeats 8000000
/-! the law's tables of calls -/
namespace K5
open PySem PySem.Spec PyProof.Rows L2 He HX DX
section
variable {w : World} {K : PySem.W.Frag} {mg : Str → Option Value} {base : Heap}
/-- a call by its number, the argument wrong -/
def spCalled (K : PySem.W.Frag) (C : Addr) (ck : PyData → Option Str) : Sp := fun vs H Q E => ∃ (n : Int) (v : V) (d : PyData) (r : Str), vs = [.int n, v] ∧ Td K H v d ∧ smallAll d ∧ ck d = some r ∧
  ∀ H' dd, Evl.Ex H H' → H' dd = some (.xd [(("reason" : Str), .str r)]) → E (.ref C) (some dd) H'
theorem spCalled_len {K : PySem.W.Frag} {C : Addr} {ck : PyData → Option Str} {ps : List Str} (hn : 2 = ps.length) : ∀ vs H Q E, spCalled K C ck vs H Q E → vs.length = ps.length := fun vs H Q E h => by
  obtain ⟨_, _, _, _, rfl, _⟩ := h
  exact hn
theorem ok__law_called_0 (T : Tx K mg) : FnOk PP w K mg base (L2.CX PP w) 6 (ga K "_law_called_0") (fdx K "_law_called_0") ["which", "cloth"] (spCalled K (CC K) ckC) := by
  refine (F__law_called_0 T).ok sc__law_called_0 (spCalled_len rfl) (fun cdv A outer s H vs Q E hr h => ?_)
  obtain ⟨n, v, d, r, rfl, td, sm, c, k⟩ := h
  refine ⟨_, (pss_cons (ps_if (pt_cmpR op_eq (pv 0) pe_int (nomark _)) (pss_one (ps_ret (pe_callS (ok_needs T) (hr.mono (by decide)) rfl (g_needs T) (F_needs T).kp (bd_needs T) (fun σ => passAt (takes_of rfl rfl rfl rfl) σ) (pa_cons (pv 1) pa_nil)))) pss_nil)
    (pss_cons (ps_if (pt_cmpR op_eq (pv 0) pe_int (nomark _)) (pss_one (ps_ret (pe_callS (ok_drawn T) (hr.mono (by decide)) rfl (g_drawn T) (F_drawn T).kp (bd_drawn T) (fun σ => passAt (takes_of rfl rfl rfl rfl) σ) (pa_cons (pv 1) pa_nil)))) pss_nil)
    (pss_cons (ps_if (pt_cmpR op_eq (pv 0) pe_int (nomark _)) (pss_one (ps_ret (pe_callS (ok_fewest_treadles T) (hr.mono (by decide)) rfl (g_fewest_treadles T) (F_fewest_treadles T).kp (bd_fewest_treadles T) (fun σ => passAt (takes_of rfl rfl rfl rfl) σ) (pa_cons (pv 1) pa_nil)))) pss_nil)
    (pss_cons (ps_if (pt_cmpR op_eq (pv 0) pe_int (nomark _)) (pss_one (ps_ret (pe_callS (ok_accept_treadles T) (hr.mono (by decide)) rfl (g_accept_treadles T) (F_accept_treadles T).kp (bd_accept_treadles T) (fun σ => passAt (takes_of rfl rfl rfl rfl) σ) (pa_cons (pv 1) (pa_cons pe_non pa_nil))))) pss_nil)
    (pss_cons (ps_if (pt_cmpR op_eq (pv 0) pe_int (nomark _)) (pss_one (ps_ret (pe_callS (ok_lifted_with T) (hr.mono (by decide)) rfl (g_lifted_with T) (F_lifted_with T).kp (bd_lifted_with T) (fun σ => passAt (takes_of rfl rfl rfl rfl) σ) (pa_cons (pv 1) (pa_cons pe_non pa_nil))))) pss_nil)
    (pss_cons (ps_if (pt_cmpR op_eq (pv 0) pe_int (nomark _)) (pss_one (ps_ret (pe_callS (ok_can_be_lifted T) (hr.mono (by decide)) rfl (g_can_be_lifted T) (F_can_be_lifted T).kp (bd_can_be_lifted T) (fun σ => passAt (takes_of rfl rfl rfl rfl) σ) (pa_cons (pv 1) (pa_cons pe_non pa_nil))))) pss_nil)
    (pss_cons (ps_if (pt_cmpR op_eq (pv 0) pe_int (nomark _)) (pss_one (ps_ret (pe_callS (ok_layers T) (hr.mono (by decide)) rfl (g_layers T) (F_layers T).kp (bd_layers T) (fun σ => passAt (takes_of rfl rfl rfl rfl) σ) (pa_cons (pv 1) pa_nil)))) pss_nil)
    (pss_cons (ps_if (pt_cmpR op_eq (pv 0) pe_int (nomark _)) (pss_one (ps_ret (pe_callS (ok_parted T) (hr.mono (by decide)) rfl (g_parted T) (F_parted T).kp (bd_parted T) (fun σ => passAt (takes_of rfl rfl rfl rfl) σ) (pa_cons (pv 1) pa_nil)))) pss_nil)
    (pss_cons (ps_if (pt_cmpR op_eq (pv 0) pe_int (nomark _)) (pss_one (ps_ret (pe_callS (ok_hangs_together T) (hr.mono (by decide)) rfl (g_hangs_together T) (F_hangs_together T).kp (bd_hangs_together T) (fun σ => passAt (takes_of rfl rfl rfl rfl) σ) (pa_cons (pv 1) pa_nil)))) pss_nil)
    (pss_cons (ps_if (pt_cmpR op_eq (pv 0) pe_int (nomark _)) (pss_one (ps_ret (pe_callS (ok_falls_by_sums T) (hr.mono (by decide)) rfl (g_falls_by_sums T) (F_falls_by_sums T).kp (bd_falls_by_sums T) (fun σ => passAt (takes_of rfl rfl rfl rfl) σ) (pa_cons (pv 1) pa_nil)))) pss_nil)
    (pss_cons (ps_if (pt_cmpR op_eq (pv 0) pe_int (nomark _)) (pss_one (ps_ret (pe_callS (ok_accept_together T) (hr.mono (by decide)) rfl (g_accept_together T) (F_accept_together T).kp (bd_accept_together T) (fun σ => passAt (takes_of rfl rfl rfl rfl) σ) (pa_cons (pv 1) (pa_cons pe_non pa_nil))))) pss_nil)
    (pss_cons (ps_if (pt_cmpR op_eq (pv 0) pe_int (nomark _)) (pss_one (ps_ret (pe_callS (ok_apart_without T) (hr.mono (by decide)) rfl (g_apart_without T) (F_apart_without T).kp (bd_apart_without T) (fun σ => passAt (takes_of rfl rfl rfl rfl) σ) (pa_cons (pv 1) (pa_cons pe_non pa_nil))))) pss_nil)
    (pss_cons (ps_if (pt_cmpR op_eq (pv 0) pe_int (nomark _)) (pss_one (ps_ret (pe_callS (ok_weak_threads T) (hr.mono (by decide)) rfl (g_weak_threads T) (F_weak_threads T).kp (bd_weak_threads T) (fun σ => passAt (takes_of rfl rfl rfl rfl) σ) (pa_cons (pv 1) pa_nil)))) pss_nil)
    (pss_cons (ps_if (pt_cmpR op_eq (pv 0) pe_int (nomark _)) (pss_one (ps_ret (pe_callS (ok_most_chains T) (hr.mono (by decide)) rfl (g_most_chains T) (F_most_chains T).kp (bd_most_chains T) (fun σ => passAt (takes_of rfl rfl rfl rfl) σ) (pa_cons (pv 1) (pa_cons pe_non (pa_cons pe_non pa_nil)))))) pss_nil)
    (pss_cons (ps_if (pt_cmpR op_eq (pv 0) pe_int (nomark _)) (pss_one (ps_ret (pe_callS (ok_accept_chains T) (hr.mono (by decide)) rfl (g_accept_chains T) (F_accept_chains T).kp (bd_accept_chains T) (fun σ => passAt (takes_of rfl rfl rfl rfl) σ) (pa_cons (pv 1) (pa_cons pe_non (pa_cons pe_non (pa_cons pe_non pa_nil))))))) pss_nil)
    (pss_cons (ps_if (pt_cmpR op_eq (pv 0) pe_int (nomark _)) (pss_one (ps_ret (pe_callS (ok_strength T) (hr.mono (by decide)) rfl (g_strength T) (F_strength T).kp (bd_strength T) (fun σ => passAt (takes_of rfl rfl rfl rfl) σ) (pa_cons (pv 1) pa_nil)))) pss_nil)
    (pss_cons (ps_if (pt_cmpR op_eq (pv 0) pe_int (nomark _)) (pss_one (ps_ret (pe_callS (ok_accept_strength T) (hr.mono (by decide)) rfl (g_accept_strength T) (F_accept_strength T).kp (bd_accept_strength T) (fun σ => passAt (takes_of rfl rfl rfl rfl) σ) (pa_cons (pv 1) (pa_cons pe_non pa_nil))))) pss_nil)
    (pss_cons (ps_if (pt_cmpR op_eq (pv 0) pe_int (nomark _)) (pss_one (ps_ret (pe_callS (ok_floats T) (hr.mono (by decide)) rfl (g_floats T) (F_floats T).kp (bd_floats T) (fun σ => passAt (takes_of rfl rfl rfl rfl) σ) (pa_cons (pv 1) pa_nil)))) pss_nil)
    (pss_cons (ps_if (pt_cmpR op_eq (pv 0) pe_int (nomark _)) (pss_one (ps_ret (pe_callS (ok_longest T) (hr.mono (by decide)) rfl (g_longest T) (F_longest T).kp (bd_longest T) (fun σ => passAt (takes_of rfl rfl rfl rfl) σ) (pa_cons (pv 1) pa_nil)))) pss_nil)
    (pss_cons (ps_if (pt_cmpR op_eq (pv 0) pe_int (nomark _)) (pss_one (ps_ret (pe_callS (ok_face_of T) (hr.mono (by decide)) rfl (g_face_of T) (F_face_of T).kp (bd_face_of T) (fun σ => passAt (takes_of rfl rfl rfl rfl) σ) (pa_cons (pv 1) pa_nil)))) pss_nil)
    (pss_cons (ps_if (pt_cmpR op_eq (pv 0) pe_int (nomark _)) (pss_one (ps_ret (pe_callS (ok_interlacings T) (hr.mono (by decide)) rfl (g_interlacings T) (F_interlacings T).kp (bd_interlacings T) (fun σ => passAt (takes_of rfl rfl rfl rfl) σ) (pa_cons (pv 1) pa_nil)))) pss_nil)
    (pss_cons (ps_if (pt_cmpR op_eq (pv 0) pe_int (nomark _)) (pss_one (ps_ret (pe_callS (ok_too_long T) (hr.mono (by decide)) rfl (g_too_long T) (F_too_long T).kp (bd_too_long T) (fun σ => passAt (takes_of rfl rfl rfl rfl) σ) (pa_cons (pv 1) (pa_cons pe_non pa_nil))))) pss_nil)
    (pss_cons (ps_if (pt_cmpR op_eq (pv 0) pe_int (nomark _)) (pss_one (ps_ret (pe_callS (ok_picture T) (hr.mono (by decide)) rfl (g_picture T) (F_picture T).kp (bd_picture T) (fun σ => passAt (takes_of rfl rfl rfl rfl) σ) (pa_cons (pv 1) (pa_cons pe_non pa_nil))))) pss_nil)
    (pss_one (ps_ret (pe_callS (ok_picture_behind T) (hr.mono (by decide)) rfl (g_picture_behind T) (F_picture_behind T).kp (bd_picture_behind T) (fun σ => passAt (takes_of rfl rfl rfl rfl) σ) (pa_cons (pv 1) (pa_cons pe_non pa_nil)))))))))))))))))))))))))))), ?_⟩
  have hn : ∀ H1, EvD (hrE K) (tVar 0) (start ["which", "cloth"] [.int n, v]) H1 (.int n) := fun H1 => ed_var rfl (.int n)
  have e0 : Evl.Ex H H := Evl.Ex.refl H
  refine seq_ifN (ρ := hrE K) trivial (eb_test (ed_eqI (hn H) ed_int)) (fun z H1 e1 => ?_) (fun z H2_ e2_ => ?_)
  · have e1' := Evl.Ex.trans e0 e1
    refine ⟨v, rfl, ?_⟩
    dsimp only [tNil, tCons, tC]
    exact ⟨v, [], d, r, rfl, rfl, Td.mono (hrE K) e1' _ td, sm, c, fun H' dd e h => k H' dd (Evl.Ex.trans e1' e) h⟩
  have f2_ := Evl.Ex.trans e0 e2_
  refine seq_ifN (ρ := hrE K) trivial (eb_test (ed_eqI (hn H2_) ed_int)) (fun z H1 e1 => ?_) (fun z H3_ e3_ => ?_)
  · have e1' := Evl.Ex.trans f2_ e1
    refine ⟨v, rfl, ?_⟩
    dsimp only [tNil, tCons, tC]
    exact ⟨v, [], d, r, rfl, rfl, Td.mono (hrE K) e1' _ td, sm, c, fun H' dd e h => k H' dd (Evl.Ex.trans e1' e) h⟩
  have f3_ := Evl.Ex.trans f2_ e3_
  refine seq_ifN (ρ := hrE K) trivial (eb_test (ed_eqI (hn H3_) ed_int)) (fun z H1 e1 => ?_) (fun z H4_ e4_ => ?_)
  · have e1' := Evl.Ex.trans f3_ e1
    refine ⟨v, rfl, ?_⟩
    dsimp only [tNil, tCons, tC]
    exact ⟨v, [], d, r, rfl, rfl, Td.mono (hrE K) e1' _ td, sm, c, fun H' dd e h => k H' dd (Evl.Ex.trans e1' e) h⟩
  have f4_ := Evl.Ex.trans f3_ e4_
  refine seq_ifN (ρ := hrE K) trivial (eb_test (ed_eqI (hn H4_) ed_int)) (fun z H1 e1 => ?_) (fun z H5_ e5_ => ?_)
  · have e1' := Evl.Ex.trans f4_ e1
    refine ⟨v, rfl, ?_⟩
    dsimp only [tNil, tCons, tC]
    exact ⟨v, [.non], d, r, rfl, rfl, Td.mono (hrE K) e1' _ td, sm, c, fun H' dd e h => k H' dd (Evl.Ex.trans e1' e) h⟩
  have f5_ := Evl.Ex.trans f4_ e5_
  refine seq_ifN (ρ := hrE K) trivial (eb_test (ed_eqI (hn H5_) ed_int)) (fun z H1 e1 => ?_) (fun z H6_ e6_ => ?_)
  · have e1' := Evl.Ex.trans f5_ e1
    refine ⟨v, rfl, ?_⟩
    dsimp only [tNil, tCons, tC]
    exact ⟨v, [.non], d, r, rfl, rfl, Td.mono (hrE K) e1' _ td, sm, c, fun H' dd e h => k H' dd (Evl.Ex.trans e1' e) h⟩
  have f6_ := Evl.Ex.trans f5_ e6_
  refine seq_ifN (ρ := hrE K) trivial (eb_test (ed_eqI (hn H6_) ed_int)) (fun z H1 e1 => ?_) (fun z H7_ e7_ => ?_)
  · have e1' := Evl.Ex.trans f6_ e1
    refine ⟨v, rfl, ?_⟩
    dsimp only [tNil, tCons, tC]
    exact ⟨v, [.non], d, r, rfl, rfl, Td.mono (hrE K) e1' _ td, sm, c, fun H' dd e h => k H' dd (Evl.Ex.trans e1' e) h⟩
  have f7_ := Evl.Ex.trans f6_ e7_
  refine seq_ifN (ρ := hrE K) trivial (eb_test (ed_eqI (hn H7_) ed_int)) (fun z H1 e1 => ?_) (fun z H8_ e8_ => ?_)
  · have e1' := Evl.Ex.trans f7_ e1
    refine ⟨v, rfl, ?_⟩
    dsimp only [tNil, tCons, tC]
    exact ⟨v, [], d, r, rfl, rfl, Td.mono (hrE K) e1' _ td, sm, c, fun H' dd e h => k H' dd (Evl.Ex.trans e1' e) h⟩
  have f8_ := Evl.Ex.trans f7_ e8_
  refine seq_ifN (ρ := hrE K) trivial (eb_test (ed_eqI (hn H8_) ed_int)) (fun z H1 e1 => ?_) (fun z H9_ e9_ => ?_)
  · have e1' := Evl.Ex.trans f8_ e1
    refine ⟨v, rfl, ?_⟩
    dsimp only [tNil, tCons, tC]
    exact ⟨v, [], d, r, rfl, rfl, Td.mono (hrE K) e1' _ td, sm, c, fun H' dd e h => k H' dd (Evl.Ex.trans e1' e) h⟩
  have f9_ := Evl.Ex.trans f8_ e9_
  refine seq_ifN (ρ := hrE K) trivial (eb_test (ed_eqI (hn H9_) ed_int)) (fun z H1 e1 => ?_) (fun z H10_ e10_ => ?_)
  · have e1' := Evl.Ex.trans f9_ e1
    refine ⟨v, rfl, ?_⟩
    dsimp only [tNil, tCons, tC]
    exact ⟨v, [], d, r, rfl, rfl, Td.mono (hrE K) e1' _ td, sm, c, fun H' dd e h => k H' dd (Evl.Ex.trans e1' e) h⟩
  have f10_ := Evl.Ex.trans f9_ e10_
  refine seq_ifN (ρ := hrE K) trivial (eb_test (ed_eqI (hn H10_) ed_int)) (fun z H1 e1 => ?_) (fun z H11_ e11_ => ?_)
  · have e1' := Evl.Ex.trans f10_ e1
    refine ⟨v, rfl, ?_⟩
    dsimp only [tNil, tCons, tC]
    exact ⟨v, [], d, r, rfl, rfl, Td.mono (hrE K) e1' _ td, sm, c, fun H' dd e h => k H' dd (Evl.Ex.trans e1' e) h⟩
  have f11_ := Evl.Ex.trans f10_ e11_
  refine seq_ifN (ρ := hrE K) trivial (eb_test (ed_eqI (hn H11_) ed_int)) (fun z H1 e1 => ?_) (fun z H12_ e12_ => ?_)
  · have e1' := Evl.Ex.trans f11_ e1
    refine ⟨v, rfl, ?_⟩
    dsimp only [tNil, tCons, tC]
    exact ⟨v, [.non], d, r, rfl, rfl, Td.mono (hrE K) e1' _ td, sm, c, fun H' dd e h => k H' dd (Evl.Ex.trans e1' e) h⟩
  have f12_ := Evl.Ex.trans f11_ e12_
  refine seq_ifN (ρ := hrE K) trivial (eb_test (ed_eqI (hn H12_) ed_int)) (fun z H1 e1 => ?_) (fun z H13_ e13_ => ?_)
  · have e1' := Evl.Ex.trans f12_ e1
    refine ⟨v, rfl, ?_⟩
    dsimp only [tNil, tCons, tC]
    exact ⟨v, [.non], d, r, rfl, rfl, Td.mono (hrE K) e1' _ td, sm, c, fun H' dd e h => k H' dd (Evl.Ex.trans e1' e) h⟩
  have f13_ := Evl.Ex.trans f12_ e13_
  refine seq_ifN (ρ := hrE K) trivial (eb_test (ed_eqI (hn H13_) ed_int)) (fun z H1 e1 => ?_) (fun z H14_ e14_ => ?_)
  · have e1' := Evl.Ex.trans f13_ e1
    refine ⟨v, rfl, ?_⟩
    dsimp only [tNil, tCons, tC]
    exact ⟨v, [], d, r, rfl, rfl, Td.mono (hrE K) e1' _ td, sm, c, fun H' dd e h => k H' dd (Evl.Ex.trans e1' e) h⟩
  have f14_ := Evl.Ex.trans f13_ e14_
  refine seq_ifN (ρ := hrE K) trivial (eb_test (ed_eqI (hn H14_) ed_int)) (fun z H1 e1 => ?_) (fun z H15_ e15_ => ?_)
  · have e1' := Evl.Ex.trans f14_ e1
    refine ⟨v, rfl, ?_⟩
    dsimp only [tNil, tCons, tC]
    exact ⟨v, [.non, .non], d, r, rfl, rfl, Td.mono (hrE K) e1' _ td, sm, c, fun H' dd e h => k H' dd (Evl.Ex.trans e1' e) h⟩
  have f15_ := Evl.Ex.trans f14_ e15_
  refine seq_ifN (ρ := hrE K) trivial (eb_test (ed_eqI (hn H15_) ed_int)) (fun z H1 e1 => ?_) (fun z H16_ e16_ => ?_)
  · have e1' := Evl.Ex.trans f15_ e1
    refine ⟨v, rfl, ?_⟩
    dsimp only [tNil, tCons, tC]
    exact ⟨v, [.non, .non, .non], d, r, rfl, rfl, Td.mono (hrE K) e1' _ td, sm, c, fun H' dd e h => k H' dd (Evl.Ex.trans e1' e) h⟩
  have f16_ := Evl.Ex.trans f15_ e16_
  refine seq_ifN (ρ := hrE K) trivial (eb_test (ed_eqI (hn H16_) ed_int)) (fun z H1 e1 => ?_) (fun z H17_ e17_ => ?_)
  · have e1' := Evl.Ex.trans f16_ e1
    refine ⟨v, rfl, ?_⟩
    dsimp only [tNil, tCons, tC]
    exact ⟨v, [], d, r, rfl, rfl, Td.mono (hrE K) e1' _ td, sm, c, fun H' dd e h => k H' dd (Evl.Ex.trans e1' e) h⟩
  have f17_ := Evl.Ex.trans f16_ e17_
  refine seq_ifN (ρ := hrE K) trivial (eb_test (ed_eqI (hn H17_) ed_int)) (fun z H1 e1 => ?_) (fun z H18_ e18_ => ?_)
  · have e1' := Evl.Ex.trans f17_ e1
    refine ⟨v, rfl, ?_⟩
    dsimp only [tNil, tCons, tC]
    exact ⟨v, [.non], d, r, rfl, rfl, Td.mono (hrE K) e1' _ td, sm, c, fun H' dd e h => k H' dd (Evl.Ex.trans e1' e) h⟩
  have f18_ := Evl.Ex.trans f17_ e18_
  refine seq_ifN (ρ := hrE K) trivial (eb_test (ed_eqI (hn H18_) ed_int)) (fun z H1 e1 => ?_) (fun z H19_ e19_ => ?_)
  · have e1' := Evl.Ex.trans f18_ e1
    refine ⟨v, rfl, ?_⟩
    dsimp only [tNil, tCons, tC]
    exact ⟨v, [], d, r, rfl, rfl, Td.mono (hrE K) e1' _ td, sm, c, fun H' dd e h => k H' dd (Evl.Ex.trans e1' e) h⟩
  have f19_ := Evl.Ex.trans f18_ e19_
  refine seq_ifN (ρ := hrE K) trivial (eb_test (ed_eqI (hn H19_) ed_int)) (fun z H1 e1 => ?_) (fun z H20_ e20_ => ?_)
  · have e1' := Evl.Ex.trans f19_ e1
    refine ⟨v, rfl, ?_⟩
    dsimp only [tNil, tCons, tC]
    exact ⟨v, [], d, r, rfl, rfl, Td.mono (hrE K) e1' _ td, sm, c, fun H' dd e h => k H' dd (Evl.Ex.trans e1' e) h⟩
  have f20_ := Evl.Ex.trans f19_ e20_
  refine seq_ifN (ρ := hrE K) trivial (eb_test (ed_eqI (hn H20_) ed_int)) (fun z H1 e1 => ?_) (fun z H21_ e21_ => ?_)
  · have e1' := Evl.Ex.trans f20_ e1
    refine ⟨v, rfl, ?_⟩
    dsimp only [tNil, tCons, tC]
    exact ⟨v, [], d, r, rfl, rfl, Td.mono (hrE K) e1' _ td, sm, c, fun H' dd e h => k H' dd (Evl.Ex.trans e1' e) h⟩
  have f21_ := Evl.Ex.trans f20_ e21_
  refine seq_ifN (ρ := hrE K) trivial (eb_test (ed_eqI (hn H21_) ed_int)) (fun z H1 e1 => ?_) (fun z H22_ e22_ => ?_)
  · have e1' := Evl.Ex.trans f21_ e1
    refine ⟨v, rfl, ?_⟩
    dsimp only [tNil, tCons, tC]
    exact ⟨v, [], d, r, rfl, rfl, Td.mono (hrE K) e1' _ td, sm, c, fun H' dd e h => k H' dd (Evl.Ex.trans e1' e) h⟩
  have f22_ := Evl.Ex.trans f21_ e22_
  refine seq_ifN (ρ := hrE K) trivial (eb_test (ed_eqI (hn H22_) ed_int)) (fun z H1 e1 => ?_) (fun z H23_ e23_ => ?_)
  · have e1' := Evl.Ex.trans f22_ e1
    refine ⟨v, rfl, ?_⟩
    dsimp only [tNil, tCons, tC]
    exact ⟨v, [.non], d, r, rfl, rfl, Td.mono (hrE K) e1' _ td, sm, c, fun H' dd e h => k H' dd (Evl.Ex.trans e1' e) h⟩
  have f23_ := Evl.Ex.trans f22_ e23_
  refine seq_ifN (ρ := hrE K) trivial (eb_test (ed_eqI (hn H23_) ed_int)) (fun z H1 e1 => ?_) (fun z H24_ e24_ => ?_)
  · have e1' := Evl.Ex.trans f23_ e1
    refine ⟨v, rfl, ?_⟩
    dsimp only [tNil, tCons, tC]
    exact ⟨v, [.non], d, r, rfl, rfl, Td.mono (hrE K) e1' _ td, sm, c, fun H' dd e h => k H' dd (Evl.Ex.trans e1' e) h⟩
  have f24_ := Evl.Ex.trans f23_ e24_
  refine ⟨v, rfl, ?_⟩
  dsimp only [tNil, tCons, tC]
  exact ⟨v, [.non], d, r, rfl, rfl, Td.mono (hrE K) f24_ _ td, sm, c, fun H' dd e h => k H' dd (Evl.Ex.trans f24_ e) h⟩
theorem ok__law_called_1 (T : Tx K mg) : FnOk PP w K mg base (L2.CX PP w) 6 (ga K "_law_called_1") (fdx K "_law_called_1") ["which", "cloth"] (spCalled K (CC K) ckC) := by
  refine (F__law_called_1 T).ok sc__law_called_1 (spCalled_len rfl) (fun cdv A outer s H vs Q E hr h => ?_)
  obtain ⟨n, v, d, r, rfl, td, sm, c, k⟩ := h
  refine ⟨_, (pss_cons (ps_if (pt_cmpR op_eq (pv 0) pe_int (nomark _)) (pss_one (ps_ret (pe_callS (ok_plan_of T) (hr.mono (by decide)) rfl (g_plan_of T) (F_plan_of T).kp (bd_plan_of T) (fun σ => passAt (takes_of rfl rfl rfl rfl) σ) (pa_cons (pv 1) (pa_cons pe_non pa_nil))))) pss_nil)
    (pss_cons (ps_if (pt_cmpR op_eq (pv 0) pe_int (nomark _)) (pss_one (ps_ret (pe_callS (ok_tallies T) (hr.mono (by decide)) rfl (g_tallies T) (F_tallies T).kp (bd_tallies T) (fun σ => passAt (takes_of rfl rfl rfl rfl) σ) (pa_cons (pv 1) (pa_cons pe_non pa_nil))))) pss_nil)
    (pss_cons (ps_if (pt_cmpR op_eq (pv 0) pe_int (nomark _)) (pss_one (ps_ret (pe_callS (ok_nearest T) (hr.mono (by decide)) rfl (g_nearest T) (F_nearest T).kp (bd_nearest T) (fun σ => passAt (takes_of rfl rfl rfl rfl) σ) (pa_cons (pv 1) (pa_cons pe_non pa_nil))))) pss_nil)
    (pss_cons (ps_if (pt_cmpR op_eq (pv 0) pe_int (nomark _)) (pss_one (ps_ret (pe_callS (ok_accept_plan_of T) (hr.mono (by decide)) rfl (g_accept_plan_of T) (F_accept_plan_of T).kp (bd_accept_plan_of T) (fun σ => passAt (takes_of rfl rfl rfl rfl) σ) (pa_cons (pv 1) (pa_cons pe_non (pa_cons pe_non pa_nil)))))) pss_nil)
    (pss_cons (ps_if (pt_cmpR op_eq (pv 0) pe_int (nomark _)) (pss_one (ps_ret (pe_callS (ok_accept_nearest T) (hr.mono (by decide)) rfl (g_accept_nearest T) (F_accept_nearest T).kp (bd_accept_nearest T) (fun σ => passAt (takes_of rfl rfl rfl rfl) σ) (pa_cons (pv 1) (pa_cons pe_non (pa_cons pe_non pa_nil)))))) pss_nil)
    (pss_cons (ps_if (pt_cmpR op_eq (pv 0) pe_int (nomark _)) (pss_one (ps_ret (pe_callS (ok_fewest_colours T) (hr.mono (by decide)) rfl (g_fewest_colours T) (F_fewest_colours T).kp (bd_fewest_colours T) (fun σ => passAt (takes_of rfl rfl rfl rfl) σ) (pa_cons (pv 1) (pa_cons pe_non pa_nil))))) pss_nil)
    (pss_cons (ps_if (pt_cmpR op_eq (pv 0) pe_int (nomark _)) (pss_one (ps_ret (pe_callS (ok_accept_colours T) (hr.mono (by decide)) rfl (g_accept_colours T) (F_accept_colours T).kp (bd_accept_colours T) (fun σ => passAt (takes_of rfl rfl rfl rfl) σ) (pa_cons (pv 1) (pa_cons pe_non (pa_cons pe_non pa_nil)))))) pss_nil)
    (pss_cons (ps_if (pt_cmpR op_eq (pv 0) pe_int (nomark _)) (pss_one (ps_ret (pe_callS (ok_reduced T) (hr.mono (by decide)) rfl (g_reduced T) (F_reduced T).kp (bd_reduced T) (fun σ => passAt (takes_of rfl rfl rfl rfl) σ) (pa_cons (pv 1) pa_nil)))) pss_nil)
    (pss_cons (ps_if (pt_cmpR op_eq (pv 0) pe_int (nomark _)) (pss_one (ps_ret (pe_callS (ok_normal T) (hr.mono (by decide)) rfl (g_normal T) (F_normal T).kp (bd_normal T) (fun σ => passAt (takes_of rfl rfl rfl rfl) σ) (pa_cons (pv 1) pa_nil)))) pss_nil)
    (pss_cons (ps_if (pt_cmpR op_eq (pv 0) pe_int (nomark _)) (pss_one (ps_ret (pe_callS (ok_symmetries T) (hr.mono (by decide)) rfl (g_symmetries T) (F_symmetries T).kp (bd_symmetries T) (fun σ => passAt (takes_of rfl rfl rfl rfl) σ) (pa_cons (pv 1) pa_nil)))) pss_nil)
    (pss_cons (ps_if (pt_cmpR op_eq (pv 0) pe_int (nomark _)) (pss_one (ps_ret (pe_callS (ok_classes T) (hr.mono (by decide)) rfl (g_classes T) (F_classes T).kp (bd_classes T) (fun σ => passAt (takes_of rfl rfl rfl rfl) σ) (pa_cons (pv 1) pa_nil)))) pss_nil)
    (pss_cons (ps_if (pt_cmpR op_eq (pv 0) pe_int (nomark _)) (pss_one (ps_ret (pe_callS (ok_is_even T) (hr.mono (by decide)) rfl (g_is_even T) (F_is_even T).kp (bd_is_even T) (fun σ => passAt (takes_of rfl rfl rfl rfl) σ) (pa_cons (pv 1) pa_nil)))) pss_nil)
    (pss_cons (ps_if (pt_cmpR op_eq (pv 0) pe_int (nomark _)) (pss_one (ps_ret (pe_callS (ok_turned T) (hr.mono (by decide)) rfl (g_turned T) (F_turned T).kp (bd_turned T) (fun σ => passAt (takes_of rfl rfl rfl rfl) σ) (pa_cons (pv 1) (pa_cons pe_non pa_nil))))) pss_nil)
    (pss_cons (ps_if (pt_cmpR op_eq (pv 0) pe_int (nomark _)) (pss_one (ps_ret (pe_callS (ok_compare T) (hr.mono (by decide)) rfl (g_compare T) (F_compare T).kp (bd_compare T) (fun σ => passAt (takes_of rfl rfl rfl rfl) σ) (pa_cons (pv 1) (pa_cons pe_non pa_nil))))) pss_nil)
    (pss_cons (ps_if (pt_cmpR op_eq (pv 0) pe_int (nomark _)) (pss_one (ps_ret (pe_callS (ok_accept_compare T) (hr.mono (by decide)) rfl (g_accept_compare T) (F_accept_compare T).kp (bd_accept_compare T) (fun σ => passAt (takes_of rfl rfl rfl rfl) σ) (pa_cons (pv 1) (pa_cons pe_non (pa_cons pe_non pa_nil)))))) pss_nil)
    (pss_cons (ps_if (pt_cmpR op_eq (pv 0) pe_int (nomark _)) (pss_one (ps_ret (pe_callS (ok_unstacked T) (hr.mono (by decide)) rfl (g_unstacked T) (F_unstacked T).kp (bd_unstacked T) (fun σ => passAt (takes_of rfl rfl rfl rfl) σ) (pa_cons (pv 1) (pa_cons pe_non pa_nil))))) pss_nil)
    (pss_cons (ps_if (pt_cmpR op_eq (pv 0) pe_int (nomark _)) (pss_one (ps_ret (pe_callS (ok_loosest T) (hr.mono (by decide)) rfl (g_loosest T) (F_loosest T).kp (bd_loosest T) (fun σ => passAt (takes_of rfl rfl rfl rfl) σ) (pa_cons (pv 1) pa_nil)))) pss_nil)
    (pss_cons (ps_if (pt_cmpR op_eq (pv 0) pe_int (nomark _)) (pss_one (ps_ret (pe_callS (ok_folded T) (hr.mono (by decide)) rfl (g_folded T) (F_folded T).kp (bd_folded T) (fun σ => passAt (takes_of rfl rfl rfl rfl) σ) (pa_cons (pv 1) pa_nil)))) pss_nil)
    (pss_cons (ps_if (pt_cmpR op_eq (pv 0) pe_int (nomark _)) (pss_one (ps_ret (pe_callS (ok_twill_step T) (hr.mono (by decide)) rfl (g_twill_step T) (F_twill_step T).kp (bd_twill_step T) (fun σ => passAt (takes_of rfl rfl rfl rfl) σ) (pa_cons (pv 1) pa_nil)))) pss_nil)
    (pss_cons (ps_if (pt_cmpR op_eq (pv 0) pe_int (nomark _)) (pss_one (ps_ret (pe_callS (ok_accept_twill_step T) (hr.mono (by decide)) rfl (g_accept_twill_step T) (F_accept_twill_step T).kp (bd_accept_twill_step T) (fun σ => passAt (takes_of rfl rfl rfl rfl) σ) (pa_cons (pv 1) (pa_cons pe_non pa_nil))))) pss_nil)
    (pss_cons (ps_if (pt_cmpR op_eq (pv 0) pe_int (nomark _)) (pss_one (ps_ret (pe_callS (ok_family T) (hr.mono (by decide)) rfl (g_family T) (F_family T).kp (bd_family T) (fun σ => passAt (takes_of rfl rfl rfl rfl) σ) (pa_cons (pv 1) pa_nil)))) pss_nil)
    (pss_cons (ps_if (pt_cmpR op_eq (pv 0) pe_int (nomark _)) (pss_one (ps_ret (pe_callS (ok_bends T) (hr.mono (by decide)) rfl (g_bends T) (F_bends T).kp (bd_bends T) (fun σ => passAt (takes_of rfl rfl rfl rfl) σ) (pa_cons (pv 1) pa_nil)))) pss_nil)
    (pss_cons (ps_if (pt_cmpR op_eq (pv 0) pe_int (nomark _)) (pss_one (ps_ret (pe_callS (ok_lengths T) (hr.mono (by decide)) rfl (g_lengths T) (F_lengths T).kp (bd_lengths T) (fun σ => passAt (takes_of rfl rfl rfl rfl) σ) (pa_cons (pv 1) (pa_cons pe_non pa_nil))))) pss_nil)
    (pss_one (ps_ret (pe_callS (ok_amounts T) (hr.mono (by decide)) rfl (g_amounts T) (F_amounts T).kp (bd_amounts T) (fun σ => passAt (takes_of rfl rfl rfl rfl) σ) (pa_cons (pv 1) (pa_cons pe_non (pa_cons pe_non (pa_cons pe_non pa_nil)))))))))))))))))))))))))))))), ?_⟩
  have hn : ∀ H1, EvD (hrE K) (tVar 0) (start ["which", "cloth"] [.int n, v]) H1 (.int n) := fun H1 => ed_var rfl (.int n)
  have e0 : Evl.Ex H H := Evl.Ex.refl H
  refine seq_ifN (ρ := hrE K) trivial (eb_test (ed_eqI (hn H) ed_int)) (fun z H1 e1 => ?_) (fun z H2_ e2_ => ?_)
  · have e1' := Evl.Ex.trans e0 e1
    refine ⟨v, rfl, ?_⟩
    dsimp only [tNil, tCons, tC]
    exact ⟨v, [.non], d, r, rfl, rfl, Td.mono (hrE K) e1' _ td, sm, c, fun H' dd e h => k H' dd (Evl.Ex.trans e1' e) h⟩
  have f2_ := Evl.Ex.trans e0 e2_
  refine seq_ifN (ρ := hrE K) trivial (eb_test (ed_eqI (hn H2_) ed_int)) (fun z H1 e1 => ?_) (fun z H3_ e3_ => ?_)
  · have e1' := Evl.Ex.trans f2_ e1
    refine ⟨v, rfl, ?_⟩
    dsimp only [tNil, tCons, tC]
    exact ⟨v, [.non], d, r, rfl, rfl, Td.mono (hrE K) e1' _ td, sm, c, fun H' dd e h => k H' dd (Evl.Ex.trans e1' e) h⟩
  have f3_ := Evl.Ex.trans f2_ e3_
  refine seq_ifN (ρ := hrE K) trivial (eb_test (ed_eqI (hn H3_) ed_int)) (fun z H1 e1 => ?_) (fun z H4_ e4_ => ?_)
  · have e1' := Evl.Ex.trans f3_ e1
    refine ⟨v, rfl, ?_⟩
    dsimp only [tNil, tCons, tC]
    exact ⟨v, [.non], d, r, rfl, rfl, Td.mono (hrE K) e1' _ td, sm, c, fun H' dd e h => k H' dd (Evl.Ex.trans e1' e) h⟩
  have f4_ := Evl.Ex.trans f3_ e4_
  refine seq_ifN (ρ := hrE K) trivial (eb_test (ed_eqI (hn H4_) ed_int)) (fun z H1 e1 => ?_) (fun z H5_ e5_ => ?_)
  · have e1' := Evl.Ex.trans f4_ e1
    refine ⟨v, rfl, ?_⟩
    dsimp only [tNil, tCons, tC]
    exact ⟨v, [.non, .non], d, r, rfl, rfl, Td.mono (hrE K) e1' _ td, sm, c, fun H' dd e h => k H' dd (Evl.Ex.trans e1' e) h⟩
  have f5_ := Evl.Ex.trans f4_ e5_
  refine seq_ifN (ρ := hrE K) trivial (eb_test (ed_eqI (hn H5_) ed_int)) (fun z H1 e1 => ?_) (fun z H6_ e6_ => ?_)
  · have e1' := Evl.Ex.trans f5_ e1
    refine ⟨v, rfl, ?_⟩
    dsimp only [tNil, tCons, tC]
    exact ⟨v, [.non, .non], d, r, rfl, rfl, Td.mono (hrE K) e1' _ td, sm, c, fun H' dd e h => k H' dd (Evl.Ex.trans e1' e) h⟩
  have f6_ := Evl.Ex.trans f5_ e6_
  refine seq_ifN (ρ := hrE K) trivial (eb_test (ed_eqI (hn H6_) ed_int)) (fun z H1 e1 => ?_) (fun z H7_ e7_ => ?_)
  · have e1' := Evl.Ex.trans f6_ e1
    refine ⟨v, rfl, ?_⟩
    dsimp only [tNil, tCons, tC]
    exact ⟨v, [.non], d, r, rfl, rfl, Td.mono (hrE K) e1' _ td, sm, c, fun H' dd e h => k H' dd (Evl.Ex.trans e1' e) h⟩
  have f7_ := Evl.Ex.trans f6_ e7_
  refine seq_ifN (ρ := hrE K) trivial (eb_test (ed_eqI (hn H7_) ed_int)) (fun z H1 e1 => ?_) (fun z H8_ e8_ => ?_)
  · have e1' := Evl.Ex.trans f7_ e1
    refine ⟨v, rfl, ?_⟩
    dsimp only [tNil, tCons, tC]
    exact ⟨v, [.non, .non], d, r, rfl, rfl, Td.mono (hrE K) e1' _ td, sm, c, fun H' dd e h => k H' dd (Evl.Ex.trans e1' e) h⟩
  have f8_ := Evl.Ex.trans f7_ e8_
  refine seq_ifN (ρ := hrE K) trivial (eb_test (ed_eqI (hn H8_) ed_int)) (fun z H1 e1 => ?_) (fun z H9_ e9_ => ?_)
  · have e1' := Evl.Ex.trans f8_ e1
    refine ⟨v, rfl, ?_⟩
    dsimp only [tNil, tCons, tC]
    exact ⟨v, [], d, r, rfl, rfl, Td.mono (hrE K) e1' _ td, sm, c, fun H' dd e h => k H' dd (Evl.Ex.trans e1' e) h⟩
  have f9_ := Evl.Ex.trans f8_ e9_
  refine seq_ifN (ρ := hrE K) trivial (eb_test (ed_eqI (hn H9_) ed_int)) (fun z H1 e1 => ?_) (fun z H10_ e10_ => ?_)
  · have e1' := Evl.Ex.trans f9_ e1
    refine ⟨v, rfl, ?_⟩
    dsimp only [tNil, tCons, tC]
    exact ⟨v, [], d, r, rfl, rfl, Td.mono (hrE K) e1' _ td, sm, c, fun H' dd e h => k H' dd (Evl.Ex.trans e1' e) h⟩
  have f10_ := Evl.Ex.trans f9_ e10_
  refine seq_ifN (ρ := hrE K) trivial (eb_test (ed_eqI (hn H10_) ed_int)) (fun z H1 e1 => ?_) (fun z H11_ e11_ => ?_)
  · have e1' := Evl.Ex.trans f10_ e1
    refine ⟨v, rfl, ?_⟩
    dsimp only [tNil, tCons, tC]
    exact ⟨v, [], d, r, rfl, rfl, Td.mono (hrE K) e1' _ td, sm, c, fun H' dd e h => k H' dd (Evl.Ex.trans e1' e) h⟩
  have f11_ := Evl.Ex.trans f10_ e11_
  refine seq_ifN (ρ := hrE K) trivial (eb_test (ed_eqI (hn H11_) ed_int)) (fun z H1 e1 => ?_) (fun z H12_ e12_ => ?_)
  · have e1' := Evl.Ex.trans f11_ e1
    refine ⟨v, rfl, ?_⟩
    dsimp only [tNil, tCons, tC]
    exact ⟨v, [], d, r, rfl, rfl, Td.mono (hrE K) e1' _ td, sm, c, fun H' dd e h => k H' dd (Evl.Ex.trans e1' e) h⟩
  have f12_ := Evl.Ex.trans f11_ e12_
  refine seq_ifN (ρ := hrE K) trivial (eb_test (ed_eqI (hn H12_) ed_int)) (fun z H1 e1 => ?_) (fun z H13_ e13_ => ?_)
  · have e1' := Evl.Ex.trans f12_ e1
    refine ⟨v, rfl, ?_⟩
    dsimp only [tNil, tCons, tC]
    exact ⟨v, [], d, r, rfl, rfl, Td.mono (hrE K) e1' _ td, sm, c, fun H' dd e h => k H' dd (Evl.Ex.trans e1' e) h⟩
  have f13_ := Evl.Ex.trans f12_ e13_
  refine seq_ifN (ρ := hrE K) trivial (eb_test (ed_eqI (hn H13_) ed_int)) (fun z H1 e1 => ?_) (fun z H14_ e14_ => ?_)
  · have e1' := Evl.Ex.trans f13_ e1
    refine ⟨v, rfl, ?_⟩
    dsimp only [tNil, tCons, tC]
    exact ⟨v, [.non], d, r, rfl, rfl, Td.mono (hrE K) e1' _ td, sm, c, fun H' dd e h => k H' dd (Evl.Ex.trans e1' e) h⟩
  have f14_ := Evl.Ex.trans f13_ e14_
  refine seq_ifN (ρ := hrE K) trivial (eb_test (ed_eqI (hn H14_) ed_int)) (fun z H1 e1 => ?_) (fun z H15_ e15_ => ?_)
  · have e1' := Evl.Ex.trans f14_ e1
    refine ⟨v, rfl, ?_⟩
    dsimp only [tNil, tCons, tC]
    exact ⟨v, .non, [], d, r, rfl, rfl, Td.mono (hrE K) e1' _ td, sm, .inl c, fun H' dd e h => k H' dd (Evl.Ex.trans e1' e) h⟩
  have f15_ := Evl.Ex.trans f14_ e15_
  refine seq_ifN (ρ := hrE K) trivial (eb_test (ed_eqI (hn H15_) ed_int)) (fun z H1 e1 => ?_) (fun z H16_ e16_ => ?_)
  · have e1' := Evl.Ex.trans f15_ e1
    refine ⟨v, rfl, ?_⟩
    dsimp only [tNil, tCons, tC]
    exact ⟨v, .non, [.non], d, r, rfl, rfl, Td.mono (hrE K) e1' _ td, sm, .inl c, fun H' dd e h => k H' dd (Evl.Ex.trans e1' e) h⟩
  have f16_ := Evl.Ex.trans f15_ e16_
  refine seq_ifN (ρ := hrE K) trivial (eb_test (ed_eqI (hn H16_) ed_int)) (fun z H1 e1 => ?_) (fun z H17_ e17_ => ?_)
  · have e1' := Evl.Ex.trans f16_ e1
    refine ⟨v, rfl, ?_⟩
    dsimp only [tNil, tCons, tC]
    exact ⟨v, [.non], d, r, rfl, rfl, Td.mono (hrE K) e1' _ td, sm, c, fun H' dd e h => k H' dd (Evl.Ex.trans e1' e) h⟩
  have f17_ := Evl.Ex.trans f16_ e17_
  refine seq_ifN (ρ := hrE K) trivial (eb_test (ed_eqI (hn H17_) ed_int)) (fun z H1 e1 => ?_) (fun z H18_ e18_ => ?_)
  · have e1' := Evl.Ex.trans f17_ e1
    refine ⟨v, rfl, ?_⟩
    dsimp only [tNil, tCons, tC]
    exact ⟨v, [], d, r, rfl, rfl, Td.mono (hrE K) e1' _ td, sm, c, fun H' dd e h => k H' dd (Evl.Ex.trans e1' e) h⟩
  have f18_ := Evl.Ex.trans f17_ e18_
  refine seq_ifN (ρ := hrE K) trivial (eb_test (ed_eqI (hn H18_) ed_int)) (fun z H1 e1 => ?_) (fun z H19_ e19_ => ?_)
  · have e1' := Evl.Ex.trans f18_ e1
    refine ⟨v, rfl, ?_⟩
    dsimp only [tNil, tCons, tC]
    exact ⟨v, [], d, r, rfl, rfl, Td.mono (hrE K) e1' _ td, sm, c, fun H' dd e h => k H' dd (Evl.Ex.trans e1' e) h⟩
  have f19_ := Evl.Ex.trans f18_ e19_
  refine seq_ifN (ρ := hrE K) trivial (eb_test (ed_eqI (hn H19_) ed_int)) (fun z H1 e1 => ?_) (fun z H20_ e20_ => ?_)
  · have e1' := Evl.Ex.trans f19_ e1
    refine ⟨v, rfl, ?_⟩
    dsimp only [tNil, tCons, tC]
    exact ⟨v, [], d, r, rfl, rfl, Td.mono (hrE K) e1' _ td, sm, c, fun H' dd e h => k H' dd (Evl.Ex.trans e1' e) h⟩
  have f20_ := Evl.Ex.trans f19_ e20_
  refine seq_ifN (ρ := hrE K) trivial (eb_test (ed_eqI (hn H20_) ed_int)) (fun z H1 e1 => ?_) (fun z H21_ e21_ => ?_)
  · have e1' := Evl.Ex.trans f20_ e1
    refine ⟨v, rfl, ?_⟩
    dsimp only [tNil, tCons, tC]
    exact ⟨v, [.non], d, r, rfl, rfl, Td.mono (hrE K) e1' _ td, sm, c, fun H' dd e h => k H' dd (Evl.Ex.trans e1' e) h⟩
  have f21_ := Evl.Ex.trans f20_ e21_
  refine seq_ifN (ρ := hrE K) trivial (eb_test (ed_eqI (hn H21_) ed_int)) (fun z H1 e1 => ?_) (fun z H22_ e22_ => ?_)
  · have e1' := Evl.Ex.trans f21_ e1
    refine ⟨v, rfl, ?_⟩
    dsimp only [tNil, tCons, tC]
    exact ⟨v, [], d, r, rfl, rfl, Td.mono (hrE K) e1' _ td, sm, c, fun H' dd e h => k H' dd (Evl.Ex.trans e1' e) h⟩
  have f22_ := Evl.Ex.trans f21_ e22_
  refine seq_ifN (ρ := hrE K) trivial (eb_test (ed_eqI (hn H22_) ed_int)) (fun z H1 e1 => ?_) (fun z H23_ e23_ => ?_)
  · have e1' := Evl.Ex.trans f22_ e1
    refine ⟨v, rfl, ?_⟩
    dsimp only [tNil, tCons, tC]
    exact ⟨v, [], d, r, rfl, rfl, Td.mono (hrE K) e1' _ td, sm, c, fun H' dd e h => k H' dd (Evl.Ex.trans e1' e) h⟩
  have f23_ := Evl.Ex.trans f22_ e23_
  refine seq_ifN (ρ := hrE K) trivial (eb_test (ed_eqI (hn H23_) ed_int)) (fun z H1 e1 => ?_) (fun z H24_ e24_ => ?_)
  · have e1' := Evl.Ex.trans f23_ e1
    refine ⟨v, rfl, ?_⟩
    dsimp only [tNil, tCons, tC]
    exact ⟨v, [.non], d, r, rfl, rfl, Td.mono (hrE K) e1' _ td, sm, c, fun H' dd e h => k H' dd (Evl.Ex.trans e1' e) h⟩
  have f24_ := Evl.Ex.trans f23_ e24_
  refine ⟨v, rfl, ?_⟩
  dsimp only [tNil, tCons, tC]
  exact ⟨v, [.non, .non, .non], d, r, rfl, rfl, Td.mono (hrE K) f24_ _ td, sm, c, fun H' dd e h => k H' dd (Evl.Ex.trans f24_ e) h⟩
theorem ok__law_called_5 (T : Tx K mg) : FnOk PP w K mg base (L2.CX PP w) 7 (ga K "_law_called_5") (fdx K "_law_called_5") ["which", "draft"] (spCalled K (CD K) ckD) := by
  refine (F__law_called_5 T).ok sc__law_called_5 (spCalled_len rfl) (fun cdv A outer s H vs Q E hr h => ?_)
  obtain ⟨n, v, d, r, rfl, td, sm, c, k⟩ := h
  refine ⟨_, (pss_cons (ps_if (pt_cmpR op_eq (pv 0) pe_int (nomark _)) (pss_one (ps_ret (pe_callS (ok_woven T) (hr.mono (by decide)) rfl (g_woven T) (F_woven T).kp (bd_woven T) (fun σ => passAt (takes_of rfl rfl rfl rfl) σ) (pa_cons (pv 1) pa_nil)))) pss_nil)
    (pss_cons (ps_if (pt_cmpR op_eq (pv 0) pe_int (nomark _)) (pss_one (ps_ret (pe_callS (ok_tidy T) (hr.mono (by decide)) rfl (g_tidy T) (F_tidy T).kp (bd_tidy T) (fun σ => passAt (takes_of rfl rfl rfl rfl) σ) (pa_cons (pv 1) pa_nil)))) pss_nil)
    (pss_cons (ps_if (pt_cmpR op_eq (pv 0) pe_int (nomark _)) (pss_one (ps_ret (pe_callS (ok_turned_draft T) (hr.mono (by decide)) rfl (g_turned_draft T) (F_turned_draft T).kp (bd_turned_draft T) (fun σ => passAt (takes_of rfl rfl rfl rfl) σ) (pa_cons (pv 1) pa_nil)))) pss_nil)
    (pss_cons (ps_if (pt_cmpR op_eq (pv 0) pe_int (nomark _)) (pss_one (ps_ret (pe_callS (ok_reordered T) (hr.mono (by decide)) rfl (g_reordered T) (F_reordered T).kp (bd_reordered T) (fun σ => passAt (takes_of rfl rfl rfl rfl) σ) (pa_cons (pv 1) (pa_cons pe_non (pa_cons pe_non pa_nil)))))) pss_nil)
    (pss_cons (ps_if (pt_cmpR op_eq (pv 0) pe_int (nomark _)) (pss_one (ps_ret (pe_callS (ok_fewest_steps T) (hr.mono (by decide)) rfl (g_fewest_steps T) (F_fewest_steps T).kp (bd_fewest_steps T) (fun σ => passAt (takes_of rfl rfl rfl rfl) σ) (pa_cons (pv 1) pa_nil)))) pss_nil)
    (pss_cons (ps_if (pt_cmpR op_eq (pv 0) pe_int (nomark _)) (pss_one (ps_ret (pe_callS (ok_step_table T) (hr.mono (by decide)) rfl (g_step_table T) (F_step_table T).kp (bd_step_table T) (fun σ => passAt (takes_of rfl rfl rfl rfl) σ) (pa_cons (pv 1) pa_nil)))) pss_nil)
    (pss_cons (ps_if (pt_cmpR op_eq (pv 0) pe_int (nomark _)) (pss_one (ps_ret (pe_callS (ok_accept_step_table T) (hr.mono (by decide)) rfl (g_accept_step_table T) (F_accept_step_table T).kp (bd_accept_step_table T) (fun σ => passAt (takes_of rfl rfl rfl rfl) σ) (pa_cons (pv 1) (pa_cons pe_non pa_nil))))) pss_nil)
    (pss_one (ps_ret (pe_callS (ok_steps_of T) (hr.mono (by decide)) rfl (g_steps_of T) (F_steps_of T).kp (bd_steps_of T) (fun σ => passAt (takes_of rfl rfl rfl rfl) σ) (pa_cons (pv 1) (pa_cons pe_non pa_nil)))))))))))), ?_⟩
  have hn : ∀ H1, EvD (hrE K) (tVar 0) (start ["which", "draft"] [.int n, v]) H1 (.int n) := fun H1 => ed_var rfl (.int n)
  have e0 : Evl.Ex H H := Evl.Ex.refl H
  refine seq_ifN (ρ := hrE K) trivial (eb_test (ed_eqI (hn H) ed_int)) (fun z H1 e1 => ?_) (fun z H2_ e2_ => ?_)
  · have e1' := Evl.Ex.trans e0 e1
    refine ⟨v, rfl, ?_⟩
    dsimp only [tNil, tCons, tC]
    exact ⟨v, [], d, r, rfl, rfl, Td.mono (hrE K) e1' _ td, sm, c, fun H' dd e h => k H' dd (Evl.Ex.trans e1' e) h⟩
  have f2_ := Evl.Ex.trans e0 e2_
  refine seq_ifN (ρ := hrE K) trivial (eb_test (ed_eqI (hn H2_) ed_int)) (fun z H1 e1 => ?_) (fun z H3_ e3_ => ?_)
  · have e1' := Evl.Ex.trans f2_ e1
    refine ⟨v, rfl, ?_⟩
    dsimp only [tNil, tCons, tC]
    exact ⟨v, [], d, r, rfl, rfl, Td.mono (hrE K) e1' _ td, sm, c, fun H' dd e h => k H' dd (Evl.Ex.trans e1' e) h⟩
  have f3_ := Evl.Ex.trans f2_ e3_
  refine seq_ifN (ρ := hrE K) trivial (eb_test (ed_eqI (hn H3_) ed_int)) (fun z H1 e1 => ?_) (fun z H4_ e4_ => ?_)
  · have e1' := Evl.Ex.trans f3_ e1
    refine ⟨v, rfl, ?_⟩
    dsimp only [tNil, tCons, tC]
    exact ⟨v, [], d, r, rfl, rfl, Td.mono (hrE K) e1' _ td, sm, c, fun H' dd e h => k H' dd (Evl.Ex.trans e1' e) h⟩
  have f4_ := Evl.Ex.trans f3_ e4_
  refine seq_ifN (ρ := hrE K) trivial (eb_test (ed_eqI (hn H4_) ed_int)) (fun z H1 e1 => ?_) (fun z H5_ e5_ => ?_)
  · have e1' := Evl.Ex.trans f4_ e1
    refine ⟨v, rfl, ?_⟩
    dsimp only [tNil, tCons, tC]
    exact ⟨v, [.non, .non], d, r, rfl, rfl, Td.mono (hrE K) e1' _ td, sm, c, fun H' dd e h => k H' dd (Evl.Ex.trans e1' e) h⟩
  have f5_ := Evl.Ex.trans f4_ e5_
  refine seq_ifN (ρ := hrE K) trivial (eb_test (ed_eqI (hn H5_) ed_int)) (fun z H1 e1 => ?_) (fun z H6_ e6_ => ?_)
  · have e1' := Evl.Ex.trans f5_ e1
    refine ⟨v, rfl, ?_⟩
    dsimp only [tNil, tCons, tC]
    exact ⟨v, [], d, r, rfl, rfl, Td.mono (hrE K) e1' _ td, sm, c, fun H' dd e h => k H' dd (Evl.Ex.trans e1' e) h⟩
  have f6_ := Evl.Ex.trans f5_ e6_
  refine seq_ifN (ρ := hrE K) trivial (eb_test (ed_eqI (hn H6_) ed_int)) (fun z H1 e1 => ?_) (fun z H7_ e7_ => ?_)
  · have e1' := Evl.Ex.trans f6_ e1
    refine ⟨v, rfl, ?_⟩
    dsimp only [tNil, tCons, tC]
    exact ⟨v, [], d, r, rfl, rfl, Td.mono (hrE K) e1' _ td, sm, c, fun H' dd e h => k H' dd (Evl.Ex.trans e1' e) h⟩
  have f7_ := Evl.Ex.trans f6_ e7_
  refine seq_ifN (ρ := hrE K) trivial (eb_test (ed_eqI (hn H7_) ed_int)) (fun z H1 e1 => ?_) (fun z H8_ e8_ => ?_)
  · have e1' := Evl.Ex.trans f7_ e1
    refine ⟨v, rfl, ?_⟩
    dsimp only [tNil, tCons, tC]
    exact ⟨v, [.non], d, r, rfl, rfl, Td.mono (hrE K) e1' _ td, sm, c, fun H' dd e h => k H' dd (Evl.Ex.trans e1' e) h⟩
  have f8_ := Evl.Ex.trans f7_ e8_
  refine ⟨v, rfl, ?_⟩
  dsimp only [tNil, tCons, tC]
  exact ⟨v, [.non], d, r, rfl, rfl, Td.mono (hrE K) f8_ _ td, sm, c, fun H' dd e h => k H' dd (Evl.Ex.trans f8_ e) h⟩
end
end K5

set_option Elab.async false
set_option linter.all false
set_option maxRecDepth 100000
set_option maxHeartbeats 8000000
namespace K5
open PySem PySem.Spec PyProof.Rows L2 He HX DX
section
variable {w : World} {K : PySem.W.Frag} {mg : Str → Option Value} {base : Heap}
abbrev rLtI : R2 := rI0 fun i j => .bl (decide (i < j))
/-- what is told of a wrong value -/
def spTold (K : PySem.W.Frag) : Sp := fun vs H Q _ => ∃ (n : Int) (v : V) (d : PyData) (r wd : Str), vs = [.int n, v] ∧ Td K H v d ∧ smallAll d ∧ ((n < 48 ∧ ckC d = some r ∧ wd = "cloth") ∨ (48 ≤ n ∧ ckD d = some r ∧ wd = "draft")) ∧
  ∀ v' H', Evl.Ex H H' → Td K H' v' (.tuple [.str wd, .str r]) → Q v' H'
def tbTold (K : PySem.W.Frag) (W : WX) : TS :=
  tIfS (tTest (tOp rLtI (tVar 0) (tC (.int 24)))) (tDrop (tCallS (spCalled K (CC K) ckC) (WE W) (tCons (tVar 0) (tCons (tVar 1) tNil))))
    (tIfS (tTest (tOp rLtI (tVar 0) (tC (.int 48)))) (tDrop (tCallS (spCalled K (CC K) ckC) (WE W) (tCons (tVar 0) (tCons (tVar 1) tNil))))
      (tDrop (tCallS (spCalled K (CD K) ckD) (WE W) (tCons (tOp (rI0 fun i j => .int (i - j)) (tVar 0) (tC (.int 48))) (tCons (tVar 1) tNil)))))
def tsTold (K : PySem.W.Frag) (a : Addr) (cls : Value) (d : Option Addr) : TS :=
  tSeq (tIfS (tAnd (tB (tCB (rIsX K a cls d) (tCons (tVar 2) (tCons (tC (.ref (CC K))) tNil)))) (tB (tCB (rIsX K a cls d) (tCons (tVar 2) (tCons (tC (.ty "ValueError")) tNil)))))
      (tRet (tTup (tCons (tC (.str "cloth")) (tCons (tXf a cls d (CC K) "reason" (tVar 2)) tNil)))) tNext)
    (tRet (tIf (tB (tCB (rIsX K a cls d) (tCons (tVar 2) (tCons (tC (.ref (CD K))) tNil)))) (tTup (tCons (tC (.str "draft")) (tCons (tXf a cls d (CD K) "reason" (tVar 2)) tNil))) (tTup (tCons (tC (.str "another")) (tCons (tC (.str "")) tNil)))))
theorem xf_Cloth (T : Tx K mg) : XfC K (CC K) := (T.says.exc (x := "ClothError") List.mem_cons_self).2
theorem xf_Draft (T : Tx K mg) : XfC K (CD K) := (T.says.exc (x := "DraftError") (List.mem_cons_of_mem _ List.mem_cons_self)).2
theorem isx {K : PySem.W.Frag} {a D dd : Addr} {fs : List (Str × V)} {σ : L2.St} {H : Hp} {i : Nat} {c : V} {cv : Value} {b : Bool} (hs : σ[i]? = some (some (.ref a))) (C : L2.ExcC K D) (hd : H dd = some (.xd fs)) (hc : ∀ u, RelV c u → u = cv) (hk : PySem.W.kitOne K (.ref D) cv = some b) :
    EvB (hrE K) (tB (tCB (rIsX K a (.ref D) (some dd)) (tCons (tVar i) (tCons (tC c) tNil)))) σ H b := fun H1 e Q q =>
  ⟨.ref a, hs, D, dd, fs, c, cv, b, rfl, rfl, C, e _ _ hd, rfl, hc, hk, b, rfl, q H1 (Evl.Ex.refl H1)⟩
theorem ed_xf {K : PySem.W.Frag} {a C dd : Addr} {σ : L2.St} {H : Hp} {i : Nat} {r : Str} (hs : σ[i]? = some (some (.ref a))) (hd : H dd = some (.xd [(("reason" : Str), .str r)])) :
    EvD (hrE K) (tXf a (.ref C) (some dd) C "reason" (tVar i)) σ H (.str r) := fun H1 e Q q =>
  ⟨.ref a, hs, rfl, rfl, dd, _, .str r, rfl, e _ _ hd, by simp [List.lookup], q _ H1 (Evl.Ex.refl H1) (.str r)⟩
theorem suite_cloth (T : Tx K mg) {a dd : Addr} {σ : L2.St} {H : Hp} {r : Str} {D : Ends} (hs : σ[2]? = some (some (.ref a))) (hd : H dd = some (.xd [(("reason" : Str), .str r)])) (k : ∀ v' H', Evl.Ex H H' → Td K H' v' (.tuple [.str "cloth", .str r]) → D.rt v' H') :
    tsTold K a (.ref (CC K)) (some dd) D σ H := by
  have C := (T.says.exc (x := "ClothError") List.mem_cons_self).1
  refine seq_ifN (ρ := hrE K) (b := true && true) trivial ?_ (fun _ H2 e2 => ?_) (fun z => by cases z)
  · exact eb_and (isx hs C hd (fun u h => h) (T.says.kit (q := ("ClothError", .inr "ClothError", true)) (by simp [hk]))) (fun _ => isx hs C hd (fun u h => h) (T.says.kit (q := ("ClothError", .inl "ValueError", true)) (by simp [hk])))
  · exact ret_d (ρ := hrE K) trivial (ed_tup (es_cons ed_str (es_cons (ed_xf hs (e2 _ _ hd)) es_nil)) (by simp)) fun v H3 e3 t => k v H3 (Evl.Ex.trans e2 e3) t
theorem suite_draft (T : Tx K mg) {a dd : Addr} {σ : L2.St} {H : Hp} {r : Str} {D : Ends} (hs : σ[2]? = some (some (.ref a))) (hd : H dd = some (.xd [(("reason" : Str), .str r)])) (k : ∀ v' H', Evl.Ex H H' → Td K H' v' (.tuple [.str "draft", .str r]) → D.rt v' H') :
    tsTold K a (.ref (CD K)) (some dd) D σ H := by
  have C := (T.says.exc (x := "DraftError") (List.mem_cons_of_mem _ List.mem_cons_self)).1
  refine seq_ifN (ρ := hrE K) (b := false && true) trivial ?_ (fun z => by cases z) (fun _ H2 e2 => ?_)
  · exact eb_and (isx hs C hd (fun u h => h) (T.says.kit (q := ("DraftError", .inr "ClothError", false)) (by simp [hk]))) (fun z => by cases z)
  · exact ret_d (ρ := hrE K) trivial (ed_ifx (b := true) (isx hs C (e2 _ _ hd) (fun u h => h) (T.says.kit (q := ("DraftError", .inr "DraftError", true)) (by simp [hk]))) (fun _ => ed_tup (es_cons ed_str (es_cons (ed_xf hs (e2 _ _ hd)) es_nil)) (by simp)) (fun z => by cases z)) fun v H3 e3 t => k v H3 (Evl.Ex.trans e2 e3) t
theorem ok_law_told (T : Tx K mg) : FnOk PP w K mg base CX0 8 (ga K "_law_told") (fdx K "_law_told") ["which", "value"] (spTold K) := by
  refine (F__law_told T).ok sc__law_told (fun vs H Q E h => by obtain ⟨_, _, _, _, _, rfl, _⟩ := h; rfl) (fun cdv A outer s H vs Q E hr h => ?_)
  obtain ⟨n, v, d, r, wd, rfl, td, sm, c, k⟩ := h
  have hr6 : Room 6 _ := hr.mono (by decide)
  refine ⟨tSeq (fun D σ H => tbTold K (wAs K (.ref (ga K "WeaveError")) 2 (tsTold K) (fun _ _ _ _ => False) D) D σ H) (tRet (tTup (tCons (tC (.str "none")) (tCons (tC (.str "")) tNil)))),
    pss_cons (ps_try_as (i := 2) (tb := tbTold K) (ts := tsTold K) (Wout := fun _ _ _ _ => False) rfl rfl sc__law_told.nd rfl rfl ⟨rfl, by decide, Or.inl (g_WeaveError T)⟩ takes0
      (fun W pn xe tk _ => pss_one (ps_if (pt_cmpR op_lt (pv 0) pe_int (nomark _)) (pss_one (ps_expr (pe_callS (ok__law_called_0 T) hr6 rfl (g__law_called_0 T) (F__law_called_0 T).kp (bd__law_called_0 T) (fun σ => passAt tk σ) (pa_cons (pv 0) (pa_cons (pv 1) pa_nil)))))
        (pss_one (ps_if (pt_cmpR op_lt (pv 0) pe_int (nomark _)) (pss_one (ps_expr (pe_callS (ok__law_called_1 T) hr6 rfl (g__law_called_1 T) (F__law_called_1 T).kp (bd__law_called_1 T) (fun σ => passAt tk σ) (pa_cons (pv 0) (pa_cons (pv 1) pa_nil)))))
          (pss_one (ps_expr (pe_callS (ok__law_called_5 T) hr rfl (g__law_called_5 T) (F__law_called_5 T).kp (bd__law_called_5 T) (fun σ => passAt tk σ) (pa_cons (pe_op op_sub (pv 0) pe_int) (pa_cons (pv 1) pa_nil)))))))))
      (fun a oe cls d pn hz hf => pss_cons (ps_if (PW.pt (pw_and (pt_val (pe_callB (r := rIsX K a cls d) (call_isX hz hf) (by rfl) (n_isinstance T) Boot.«isinstance» (pa_cons (pv 2) (pa_cons (pe_glob (v := .ref (CC K)) rfl (g_ClothError T) rfl) pa_nil))))
          (pw_and1 (pt_val (pe_callB (r := rIsX K a cls d) (call_isX hz hf) (by rfl) (n_isinstance T) Boot.«isinstance» (pa_cons (pv 2) (pa_cons (pe_bltn (v := .ty "ValueError") (by rfl) (n_ValueError T) Boot.«ValueError» rfl) pa_nil)))))))
          (pss_one (ps_ret (pe_tup (pa_cons pe_str (pa_cons (pe_xf (xf_Cloth T) (rs_Cloth T).noN hz hf (pv 2)) pa_nil))))) pss_nil)
        (pss_one (ps_ret (pe_ifExp (pt_val (pe_callB (r := rIsX K a cls d) (call_isX hz hf) (by rfl) (n_isinstance T) Boot.«isinstance» (pa_cons (pv 2) (pa_cons (pe_glob (v := .ref (CD K)) rfl (g_DraftError T) rfl) pa_nil))))
          (pe_tup (pa_cons pe_str (pa_cons (pe_xf (xf_Draft T) (rs_Draft T).noN hz hf (pv 2)) pa_nil))) (pe_tup (pa_cons pe_str (pa_cons pe_str pa_nil))))))))
    (pss_one (ps_ret (pe_tup (pa_cons pe_str (pa_cons pe_str pa_nil))))), ?_⟩
  have hn : ∀ H1, EvD (hrE K) (tVar 0) (start ["which", "value", "e"] [.int n, v]) H1 (.int n) := fun H1 => ed_var rfl (.int n)
  have clo : ∀ {D : Ends}, D.rt = Q → ∀ {H1}, Evl.Ex H H1 → wd = "cloth" → ∀ H' dd, Evl.Ex H1 H' → H' dd = some (.xd [(("reason" : Str), .str r)]) →
      wAs K (.ref (ga K "WeaveError")) 2 (tsTold K) (fun _ _ _ _ => False) D (.ref (CC K)) (some dd) (start ["which", "value", "e"] [.int n, v]) H' := fun {D} eD {H1} e1 ew H' dd e h =>
    ⟨true, x_ClothError_WeaveError T, fun _ a ha => suite_cloth T rfl h fun v' H2 e2 t => by
      subst ew eD
      exact k v' H2 (Evl.Ex.trans e1 (Evl.Ex.trans e e2)) t, fun q => Bool.noConfusion q⟩
  have dra : ∀ {D : Ends}, D.rt = Q → ∀ {H1}, Evl.Ex H H1 → wd = "draft" → ∀ H' dd, Evl.Ex H1 H' → H' dd = some (.xd [(("reason" : Str), .str r)]) →
      wAs K (.ref (ga K "WeaveError")) 2 (tsTold K) (fun _ _ _ _ => False) D (.ref (CD K)) (some dd) (start ["which", "value", "e"] [.int n, v]) H' := fun {D} eD {H1} e1 ew H' dd e h =>
    ⟨true, x_DraftError_WeaveError T, fun _ a ha => suite_draft T rfl h fun v' H2 e2 t => by
      subst ew eD
      exact k v' H2 (Evl.Ex.trans e1 (Evl.Ex.trans e e2)) t, fun q => Bool.noConfusion q⟩
  show tbTold K _ _ _ _
  refine if_d (ρ := hrE K) (b := decide (n < 24)) trivial (eb_test (ed_cmp (hn H) ed_int)) (fun z H1 e1 => ?_) (fun z H1 e1 => ?_)
  · have z' := of_decide_eq_true z
    rcases c with ⟨c1, c2, c3⟩ | ⟨c1, _, _⟩
    · refine ⟨.int n, rfl, v, rfl, ?_⟩
      dsimp only [tNil, tCons]
      exact ⟨n, v, d, r, rfl, Td.mono (hrE K) e1 _ td, sm, c2, clo rfl e1 c3⟩
    · omega
  · refine if_d (ρ := hrE K) (b := decide (n < 48)) trivial (eb_test (ed_cmp (hn H1) ed_int)) (fun z2 H2 e2 => ?_) (fun z2 H2 e2 => ?_)
    · have z' := of_decide_eq_true z2
      have e12 := Evl.Ex.trans e1 e2
      rcases c with ⟨c1, c2, c3⟩ | ⟨c1, _, _⟩
      · refine ⟨.int n, rfl, v, rfl, ?_⟩
        dsimp only [tNil, tCons]
        exact ⟨n, v, d, r, rfl, Td.mono (hrE K) e12 _ td, sm, c2, clo rfl e12 c3⟩
      · omega
    · have z' := of_decide_eq_false z2
      have e12 := Evl.Ex.trans e1 e2
      rcases c with ⟨c1, _, _⟩ | ⟨c1, c2, c3⟩
      · omega
      · refine ⟨.int n, rfl, n, 48, rfl, rfl, v, rfl, ?_⟩
        dsimp only [tNil, tCons]
        exact ⟨n - 48, v, d, r, rfl, Td.mono (hrE K) e12 _ td, sm, c2, dra rfl e12 c3⟩
/-- what is told of a right first and a wrong second -/
def spSecond (K : PySem.W.Frag) : Sp := fun vs H Q _ => ∃ (n : Int) (v v2 : V) (d d2 : PyData) (r : Str), vs = [.int n, v, v2] ∧ Td K H v d ∧ smallAll d ∧ ckC d = none ∧ Td K H v2 d2 ∧ smallAll d2 ∧ ckC d2 = some r ∧
  ∀ v' H', Evl.Ex H H' → Td K H' v' (.str r) → Q v' H'
def tbSec (K : PySem.W.Frag) (W : WX) : TS :=
  tIfS (tTest (tOp rEq (tVar 0) (tC (.int 0)))) (tDrop (tCallS (spBad2 K (CC K) ckC 2) (WE W) (tCons (tVar 1) (tCons (tVar 2) tNil))))
    (tDrop (tCallS (spBad2 K (CC K) ckC 3) (WE W) (tCons (tVar 1) (tCons (tVar 2) (tCons (tC .non) tNil)))))
def tsSec (K : PySem.W.Frag) (a : Addr) (cls : Value) (d : Option Addr) : TS := tRet (tXf a cls d (CC K) "reason" (tVar 3))
theorem ok_law_second (T : Tx K mg) : FnOk PP w K mg base CX0 6 (ga K "_law_second") (fdx K "_law_second") ["call", "cloth", "wrong"] (spSecond K) := by
  refine (F__law_second T).ok sc__law_second (fun vs H Q E h => by obtain ⟨_, _, _, _, _, _, rfl, _⟩ := h; rfl) (fun cdv A outer s H vs Q E hr h => ?_)
  obtain ⟨n, v, v2, d, d2, r, rfl, td, sm, c, td2, sm2, c2, k⟩ := h
  have hr4 : Room 4 _ := hr.mono (by decide)
  refine ⟨tSeq (fun D σ H => tbSec K (wAs K (.ref (ga K "ClothError")) 3 (tsSec K) (fun _ _ _ _ => False) D) D σ H) (tRet (tC (.str ""))),
    pss_cons (ps_try_as (i := 3) (tb := tbSec K) (ts := tsSec K) (Wout := fun _ _ _ _ => False) rfl rfl sc__law_second.nd rfl rfl ⟨rfl, by decide, Or.inl (g_ClothError T)⟩ takes0
      (fun W pn xe tk _ => pss_one (ps_if (pt_cmpR op_eq (pv 0) pe_int (nomark _)) (pss_one (ps_expr (pe_callS (ok_compare T) hr4 rfl (g_compare T) (F_compare T).kp (bd_compare T) (fun σ => passAt tk σ) (pa_cons (pv 1) (pa_cons (pv 2) pa_nil)))))
        (pss_one (ps_expr (pe_callS (ok_accept_compare T) hr4 rfl (g_accept_compare T) (F_accept_compare T).kp (bd_accept_compare T) (fun σ => passAt tk σ) (pa_cons (pv 1) (pa_cons (pv 2) (pa_cons pe_non pa_nil))))))))
      (fun a oe cls d pn hz hf => pss_one (ps_ret (pe_xf (xf_Cloth T) (rs_Cloth T).noN hz hf (pv 3)))))
    (pss_one (ps_ret pe_str)), ?_⟩
  have clo : ∀ {D : Ends}, D.rt = Q → ∀ {H1}, Evl.Ex H H1 → ∀ H' dd, Evl.Ex H1 H' → H' dd = some (.xd [(("reason" : Str), .str r)]) →
      wAs K (.ref (ga K "ClothError")) 3 (tsSec K) (fun _ _ _ _ => False) D (.ref (CC K)) (some dd) (start ["call", "cloth", "wrong", "e"] [.int n, v, v2]) H' := fun {D} eD {H1} e1 H' dd e h =>
    ⟨true, x_ClothError_ClothError T, fun _ a ha => ret_d (ρ := hrE K) trivial (ed_xf rfl h) fun v' H2 e2 t => by
      subst eD
      exact k v' H2 (Evl.Ex.trans e1 (Evl.Ex.trans e e2)) t, fun q => Bool.noConfusion q⟩
  show tbSec K _ _ _ _
  refine if_d (ρ := hrE K) trivial (eb_test (ed_eqI (ed_var rfl (.int n)) ed_int)) (fun z H1 e1 => ?_) (fun z H1 e1 => ?_)
  · refine ⟨v, rfl, v2, rfl, ?_⟩
    dsimp only [tNil, tCons]
    exact ⟨v, v2, [], d, r, rfl, rfl, Td.mono (hrE K) e1 _ td, sm, .inr ⟨c, d2, Td.mono (hrE K) e1 _ td2, sm2, c2⟩, clo rfl e1⟩
  · refine ⟨v, rfl, v2, rfl, ?_⟩
    dsimp only [tNil, tCons, tC]
    exact ⟨v, v2, [.non], d, r, rfl, rfl, Td.mono (hrE K) e1 _ td, sm, .inr ⟨c, d2, Td.mono (hrE K) e1 _ td2, sm2, c2⟩, clo rfl e1⟩
end
end K5

set_option Elab.async false
set_option linter.all false
set_option maxRecDepth 100000
set_option maxHeartbeats 8000000
namespace K5
open PySem PySem.Spec PyProof.Rows L2 He HX DX
section
variable {w : World} {K : PySem.W.Frag} {mg : Str → Option Value} {base : Heap}
/-- the draws at b -/
def DrS (b : Addr) (H : Hp) : Prop := ∃ ns : List Int, H b = some (.lst (ns.map V.int)) ∧ ns.length ≤ 5000
theorem DrS.mono {a b : Addr} {H H' : Hp} (h : DrS b H) (hb : b ≠ a) (e : (hrG K a).R H H') : DrS b H' := by
  obtain ⟨ns, h1, h2⟩ := h
  exact ⟨ns, e.2.2 _ _ hb h1, h2⟩
def spMore : Sp := fun vs H Q _ => ∃ (b : Addr) (p : Int), vs = [.ref b, .int p] ∧ DrS b H ∧ ∀ i H', Evl.Ex H H' → Q (.int i) H'
theorem at_mod {xs : List V} {ns : List Int} (e : xs = ns.map V.int) (h0 : ns.length ≠ 0) (i : Int) : ∃ j, atI xs (Int.fmod i (xs.length : Int)) = some (V.int j) := by
  subst e
  have hl : (ns.map V.int).length = ns.length := List.length_map _
  have h1 : 0 ≤ Int.fmod i ((ns.map V.int).length : Int) := by
    rw [Int.fmod_eq_emod_of_nonneg i (by omega)]
    exact Int.emod_nonneg i (by omega)
  have h2 : Int.fmod i ((ns.map V.int).length : Int) < ((ns.map V.int).length : Int) := by
    rw [Int.fmod_eq_emod_of_nonneg i (by omega)]
    exact Int.emod_lt_of_pos i (by omega)
  generalize Int.fmod i ((ns.map V.int).length : Int) = q at h1 h2
  have e : atI (ns.map V.int) q = (ns.map V.int)[q.toNat]? := by
    unfold atI ixN
    rw [if_pos h1, if_pos h2]
    rfl
  rw [e, List.getElem?_map, List.getElem?_eq_getElem (by omega)]
  exact ⟨_, rfl⟩
theorem ok_law_more (T : Tx K mg) : FnOk PP w K mg base CX0 1 (ga K "_law_more") (fdx K "_law_more") ["draws", "place"] spMore := by
  refine (F__law_more T).ok sc__law_more (fun vs H Q E h => by obtain ⟨_, _, rfl, _⟩ := h; rfl) (fun cdv A outer s H vs Q E hr h => ?_)
  obtain ⟨b, p, rfl, ⟨ns, hb, hlen⟩, k⟩ := h
  refine ⟨_, PSs.nox (pss_cons (ps_set (i := 2) sc__law_more.nd rfl (Or.inl rfl) (pe_op op_modN (pe_callTy call_int1 (by rfl) (n_int T) Boot.«int» (pa_cons (pe_op op_add (pe_op op_add (pe_op op_mul (pv 1) pe_int) (pe_callB (r := rLen2 K) call_len_seq (by rfl) (n_len T) Boot.«len» (pa_cons (pv 0) pa_nil))) pe_int) pa_nil)) pe_int))
    (pss_cons (ps_for PassesOwn.never rfl (pi_range1 (by rfl) (n_range T) (pa_cons pe_int pa_nil)) (pg_name (i := 3) sc__law_more.nd rfl (Or.inl rfl))
      (Evl.pss_cut (ps_if (pt_truth (pv 0) (by intro _; rfl)) (pss_one (ps_set (i := 2) sc__law_more.nd rfl (Or.inl rfl) (pe_op op_add (pv 2) (pe_ix (r := rIxL K) ix_list (pv 0) (pe_op op_modN (pe_callTy call_int1 (by rfl) (n_int T) Boot.«int» (pa_cons (pe_op op_add (pe_op op_mul (pv 1) (pe_op op_add (pv 3) pe_int)) (pv 3)) pa_nil)) (pe_callB (r := rLen2 K) call_len_seq (by rfl) (n_len T) Boot.«len» (pa_cons (pv 0) pa_nil))) (fun _ _ => rfl))))) pss_nil)
        (pss_one (ps_set (i := 2) sc__law_more.nd rfl (Or.inl rfl) (pe_op op_modN (pe_callTy call_int1 (by rfl) (n_int T) Boot.«int» (pa_cons (pe_op op_add (pe_op op_add (pe_op op_mul (pv 2) pe_int) (pe_op op_mul pe_int (pv 3))) pe_int) pa_nil)) pe_int)))))
    (pss_one (ps_ret (pe_op op_fdiv (pv 2) pe_int))))), ?_⟩
  have g : (hrE K).good H := trivial
  have sq : ∀ H1, Evl.Ex H H1 → SqL K H1 b (ns.map V.int) := fun H1 e => Evl.sq_of (e _ _ hb)
  have small : ∀ {i j : Int}, -(2 ^ 64) < j ∧ j < 2 ^ 64 → CMul i j := fun h => .inr h
  have small' : ∀ {i j : Int}, -(2 ^ 64) < i ∧ i < 2 ^ 64 → CMul i j := fun h => .inl h
  refine q_set (ρ := hrE K) g (ed_ariC (ed_int1 (ed_ari (ed_ari (ed_ariC (ed_var rfl (.int p)) ed_int (small (by decide))) (ed_lenL (ev_var rfl) sq)) ed_int)) ed_int (by decide)) (fun v H1 e1 t1 => ?_)
  cases t1
  refine ⟨3, rfl, by decide, by decide, for_range (n := 3) (fun i σ H' => Evl.Ex H H' ∧ ∃ (m : Int) (o : Option V), σ = [some (.ref b), some (.int p), some (.int m), o]) ⟨e1, _, _, rfl⟩ ?_ ?_⟩
  · rintro i σ H2 hi ⟨e2, m, o, rfl⟩
    rw [show (0 : Int) + (i : Int) = (i : Int) by omega]
    have sq2 : ∀ H1, Evl.Ex H2 H1 → SqL K H1 b (ns.map V.int) := fun H1 e => sq H1 (Evl.Ex.trans e2 e)
    refine ⟨fun σ H' => Evl.Ex H H' ∧ ∃ (m : Int), σ = [some (.ref b), some (.int p), some (.int m), some (.int (i : Int))], ?_, ?_⟩
    · refine ⟨.ref b, rfl, !(ns.map V.int).isEmpty, .inl ⟨_, sq H2 e2, rfl⟩, ?_⟩
      cases hne : (ns.map V.int).isEmpty with
      | true => exact iteF ⟨e2, m, rfl⟩
      | false =>
        have h0 : ns.length ≠ 0 := by
          intro z
          have : ns = [] := List.length_eq_zero_iff.mp z
          subst this
          cases hne
        refine iteT ?_
        obtain ⟨j, hj⟩ := at_mod rfl h0 (p * ((i : Int) + 5) + (i : Int))
        refine s_set (ρ := hrE K) trivial (ed_ari (ed_var rfl (.int m)) (ed_ixL (ev_var rfl) (ed_ariC (ed_int1 (ed_ari (ed_ariC (ed_var rfl (.int p)) (ed_ari (ed_var rfl (.int (i : Int))) ed_int) (small (by constructor <;> omega))) (ed_var rfl (.int (i : Int))))) (ed_lenL (ev_var rfl) sq2) (by rw [List.length_map]; omega)) sq2 hj (fun _ _ => .int j))) (fun v H4 e4 t4 => ?_)
        cases t4
        exact ⟨Evl.Ex.trans e2 e4, _, rfl⟩
    · rintro σ H3 ⟨e3, m, rfl⟩
      exact s_set (ρ := hrE K) trivial (ed_ariC (ed_int1 (ed_ari (ed_ari (ed_ariC (ed_var rfl (.int m)) ed_int (small (by decide))) (ed_ariC ed_int (ed_var rfl (.int (i : Int))) (small' (by decide)))) ed_int)) ed_int (by decide)) (fun v H4 e4 t4 => by
        cases t4
        exact ⟨Evl.Ex.trans e3 e4, _, _, rfl⟩)
  · rintro σ H2 ⟨e2, m, o, rfl⟩
    exact ret_d (ρ := hrE K) trivial (ed_ariC (ed_var rfl (.int m)) ed_int ⟨by decide, by decide⟩) (fun v H3 e3 t3 => by
      cases t3
      exact k _ H3 (Evl.Ex.trans e2 e3))
/-- a draw below m -/
def spTake (K : PySem.W.Frag) : Sp := fun vs H Q _ => ∃ (b a : Addr) (m : Int), vs = [.ref b, .ref a, .int m] ∧ b ≠ a ∧ Cnt a H ∧ DrS b H ∧ 1 ≤ m ∧ ∀ r H', (hrG K a).R H H' → 0 ≤ r → r < m → Q (.int r) H'
theorem fmod_lt {i m : Int} (h : 1 ≤ m) : 0 ≤ Int.fmod i m ∧ Int.fmod i m < m := by
  rw [Int.fmod_eq_emod_of_nonneg i (by omega)]
  exact ⟨Int.emod_nonneg i (by omega), Int.emod_lt_of_pos i (by omega)⟩
theorem ok_law_take (T : Tx K mg) : FnOk PP w K mg base CX0 2 (ga K "_law_take") (fdx K "_law_take") ["draws", "at", "many"] (spTake K) := by
  have GM : FnOk PP w K mg base CX0 1 _ _ _ _ := ok_law_more T
  refine (F__law_take T).ok sc__law_take (fun vs H Q E h => by obtain ⟨_, _, _, rfl, _⟩ := h; rfl) (fun cdv A outer s H vs Q E hr h => ?_)
  obtain ⟨b, a, m, rfl, hba, ⟨n, hn⟩, ⟨ns, hb, hlen⟩, hm, k⟩ := h
  refine ⟨_, PSs.nox (pss_cons (ps_set (i := 3) sc__law_take.nd rfl (Or.inl rfl) (pe_ix (r := rIxL K) ix_list (pv 1) pe_int (fun _ _ => rfl)))
    (pss_cons (ps_asg (pe_op op_add (pv 3) pe_int) (pg_sub (pv 1) pe_int set_list))
    (pss_one (ps_ret (pe_op op_modN (pe_callTy call_int1 (by rfl) (n_int T) Boot.«int» (pa_cons (pe_ifExp (pt_cmpR op_lt (pv 3) (pe_callB (r := rLen2 K) call_len_seq (by rfl) (n_len T) Boot.«len» (pa_cons (pv 0) pa_nil)) (nomark _)) (pe_ix (r := rIxL K) ix_list (pv 0) (pv 3) (fun _ _ => rfl)) (pe_call GM hr rfl (g__law_more T) (F__law_more T).kp (bd__law_more T) .nil pass0 (pa_cons (pv 0) (pa_cons (pv 3) pa_nil)))) pa_nil)) (pv 2)))))), ?_⟩
  refine ⟨.ref a, rfl, a, _, 0, .int (n : Int), rfl, rfl, Evl.sq_of hn, rfl, ?_⟩
  refine ⟨.int (n : Int), rfl, (n : Int), 1, rfl, rfl, .ref a, rfl, a, _, 0, 0, rfl, rfl, hn, rfl, ?_⟩
  have hb2 : upd H a (.lst [.int ((n : Int) + 1)]) b = some (.lst (ns.map V.int)) := by rw [upd_ne hba]; exact hb
  have R2 : (hrG K a).R H (upd H a (.lst [.int ((n : Int) + 1)])) := ⟨⟨n, hn⟩, ⟨n + 1, by rw [upd_same]; rfl⟩, fun p o hp e => by rw [upd_ne hp]; exact e⟩
  dsimp only [List.set]
  generalize upd H a (.lst [.int ((n : Int) + 1)]) = H2 at hb2 R2
  have sq : ∀ H1, Evl.Ex H2 H1 → SqL K H1 b (ns.map V.int) := fun H1 e => Evl.sq_of (e _ _ hb2)
  refine ret_p (ρ := hrE K) (P := isN (fun r => 0 ≤ r ∧ r < m)) trivial ?_ (fun v d H' e t p => ?_)
  · refine ep_ariC (P := fun _ => True) (P2 := fun j => j = m) (ep_int1 (ep_if (ed_cmp (ed_var rfl (.int (n : Int))) (ed_lenL (ev_var rfl) sq) |> eb_test) (fun z => ?_) (fun _ => ?_))) ((ed_var rfl (.int m)).p ⟨m, rfl, rfl⟩) (fun i j _ hj => by subst hj; exact ⟨by omega, fmod_lt hm⟩)
    · have hz : (n : Int) < ((ns.map V.int).length : Int) := of_decide_eq_true z
      have hz' : n < ns.length := by rw [List.length_map] at hz; omega
      refine (ed_ixL (d := .int (ns[n]'hz')) (v := .int (ns[n]'hz')) (ev_var rfl) (ed_var rfl (.int (n : Int))) sq ?_ (fun _ _ => .int _)).p ⟨_, rfl, trivial⟩
      unfold atI ixN
      rw [if_pos (by omega), if_pos hz]
      show (ns.map V.int)[n]? = _
      rw [List.getElem?_map, List.getElem?_eq_getElem hz']
      rfl
    · exact fun H1 e Q' q => ⟨.ref b, rfl, .int (n : Int), rfl, b, (n : Int), rfl, ⟨ns, e _ _ hb2, hlen⟩, fun i H' e' => q _ _ H' e' (.int i) ⟨i, rfl, trivial⟩⟩
  · obtain ⟨r, rfl, p1, p2⟩ := p
    cases t
    exact k r H' ((hrG K a).trans R2 (goEx R2.2.1 e)) p1 p2
/-- a call of it, the counter going on -/
theorem ep_take {b a : Addr} {m : Int} {E : XK} {tm : TE} {σ : L2.St} {H : Hp} {i j : Nat} (hba : b ≠ a) (hd : DrS b H) (h1 : σ[i]? = some (some (.ref b))) (h2 : σ[j]? = some (some (.ref a))) (hm : EvD (hrG K a) tm σ H (.int m)) (h0 : 1 ≤ m) :
    EvP (hrG K a) (tCall (spTake K) [] E (tCons (tVar i) (tCons (tVar j) (tCons tm tNil)))) σ H (isN fun r => 0 ≤ r ∧ r < m) := fun H1 e Q q =>
  ⟨.ref b, h1, .ref a, h2, hm H1 e _ fun v H2 e2 t => by
    cases t
    exact ⟨b, a, m, rfl, hba, e2.2.1, hd.mono hba ((hrG K a).trans e e2), h0, fun r H' e3 p1 p2 => q _ _ H' ((hrG K a).trans e2 e3) (.int r) ⟨r, rfl, p1, p2⟩⟩⟩
/-- one item of a list of data -/
def spOne (K : PySem.W.Frag) : Sp := fun vs H Q _ => ∃ (c b a : Addr) (xs : List V) (ds : List PyData), vs = [.ref c, .ref b, .ref a] ∧ b ≠ a ∧ c ≠ a ∧ Cnt a H ∧ DrS b H ∧ H c = some (.lst xs) ∧ TdAll K H xs ds ∧ 1 ≤ ds.length ∧
  ∀ v d H', (hrG K a).R H H' → Td K H' v d → d ∈ ds → Q v H'
theorem ok_law_one (T : Tx K mg) : FnOk PP w K mg base CX0 3 (ga K "_law_one") (fdx K "_law_one") ["rows", "draws", "at"] (spOne K) := by
  have GT : FnOk PP w K mg base CX0 2 _ _ _ _ := ok_law_take T
  refine (F__law_one T).ok sc__law_one (fun vs H Q E h => by obtain ⟨_, _, _, _, _, rfl, _⟩ := h; rfl) (fun cdv A outer s H vs Q E hr h => ?_)
  obtain ⟨c, b, a, xs, ds, rfl, hba, hca, hc, hd, hx, ht, hl, k⟩ := h
  refine ⟨_, PSs.nox (pss_one (ps_ret (pe_ix (r := rIxL K) ix_list (pv 0) (pe_call GT hr rfl (g__law_take T) (F__law_take T).kp (bd__law_take T) .nil pass0 (pa_cons (pv 1) (pa_cons (pv 2) (pa_cons (pe_callB (r := rLen2 K) call_len_seq (by rfl) (n_len T) Boot.«len» (pa_cons (pv 0) pa_nil)) pa_nil)))) (fun _ _ => rfl)))), ?_⟩
  have sq : ∀ H1, (hrG K a).R H H1 → SqL K H1 c xs := fun H1 e => Evl.sq_of (e.2.2 _ _ hca hx)
  refine ⟨.ref c, rfl, ?_⟩
  refine ep_take (K := K) (m := (xs.length : Int)) hba hd rfl rfl (ed_lenL (ev_var rfl) sq) (by rw [ht.len]; omega) H ((hrG K a).refl hc) _ fun v d H1 e t p => ?_
  obtain ⟨r, rfl, p1, p2⟩ := p
  cases t
  have hr' : r.toNat < xs.length := by omega
  obtain ⟨d, hd1, td⟩ := ht.get (i := r.toNat) (v := xs[r.toNat]) (by simp [hr'])
  refine ⟨c, xs, r, xs[r.toNat], rfl, rfl, sq H1 e, ?_, k _ d H1 e (Td.mono _ e _ td) (List.mem_of_getElem? hd1)⟩
  unfold atI ixN
  rw [if_pos p1, if_pos p2]
  show xs[r.toNat]? = _
  simp [hr']
def spRow (K : PySem.W.Frag) : Sp := fun vs H Q _ => ∃ (n : Nat) (b a : Addr), vs = [.int (n : Int), .ref b, .ref a] ∧ n ≤ 1000 ∧ b ≠ a ∧ Cnt a H ∧ DrS b H ∧ ∀ v d H', (hrG K a).R H H' → Td K H' v d → bits n d → Q v H'
theorem isN_bit {d : PyData} (h : isN (fun r => 0 ≤ r ∧ r < 2) d) : inR 0 1 d = true := by
  obtain ⟨i, rfl, h1, h2⟩ := h
  show (decide (0 ≤ i) && decide (i ≤ 1)) = true
  rw [decide_eq_true h1, decide_eq_true (by omega)]
  rfl
theorem ok_law_row (T : Tx K mg) : FnOk PP w K mg base CX0 3 (ga K "_law_row") (fdx K "_law_row") ["many", "draws", "at"] (spRow K) := by
  have GT : FnOk PP w K mg base CX0 2 _ _ _ _ := ok_law_take T
  refine (F__law_row T).ok sc__law_row (fun vs H Q E h => by obtain ⟨_, _, _, rfl, _⟩ := h; rfl) (fun cdv A outer s H vs Q E hr h => ?_)
  obtain ⟨n, b, a, rfl, hn, hba, hc, hd, k⟩ := h
  refine ⟨_, PSs.nox (pss_one (ps_ret (pe_tupleOf (by rfl) (n_tuple T) (pe_lc (own := [("k", 3)]) (g := gName 3) (tt := tYes) rfl sc__law_row.nd (pi_range1 (by rfl) (n_range T) (pa_cons (pv 0) pa_nil)) (blkOk_by (N := ["many", "draws", "at", "k"]) (sc := defScope st__law_row) (by decide +kernel))
    (fun _ _ _ _ _ => pg_name (i := 3) sc__law_row.nd rfl (Or.inl rfl)) (fun _ _ _ _ _ => pts_nil)
    (fun _ _ _ _ _ => pe_call GT hr rfl (g__law_take T) (F__law_take T).kp (bd__law_take T) .nil pass0 (pa_cons (pv 1) (pa_cons (pv 2) (pa_cons pe_int pa_nil)))))))), ?_⟩
  refine ret_p (ρ := hrG K a) hc (ep_tupL (elp_lcR (N := fun j => j = n) (P := fun d => inR 0 1 d = true) ((ed_var rfl (.int (n : Int))).p ⟨n, rfl, hn, rfl⟩) (fun _ => rfl) (fun j i _ _ H1 e => (ep_take hba (hd.mono hba e) rfl rfl ed_int (by decide)).imp fun d p => isN_bit p))) (fun v d H' e t p => ?_)
  obtain ⟨ds, rfl, p1, p2⟩ := p
  exact k v _ H' e t ⟨ds, rfl, p1, p2⟩
end
end K5

set_option Elab.async false
set_option linter.all false
set_option maxRecDepth 100000
set_option maxHeartbeats 8000000
namespace K5
open PySem PySem.Spec PyProof.Rows L2 He HX DX
section
variable {w : World} {K : PySem.W.Frag} {mg : Str → Option Value} {base : Heap}
/-- a call of _law_row -/
theorem ep_row {n : Nat} {b a : Addr} {E : XK} {tm : TE} {σ : L2.St} {H : Hp} {i j : Nat} (hba : b ≠ a) (hd : DrS b H) (h1 : σ[i]? = some (some (.ref b))) (h2 : σ[j]? = some (some (.ref a))) (hm : EvD (hrG K a) tm σ H (.int (n : Int))) (hn : n ≤ 1000) :
    EvP (hrG K a) (tCall (spRow K) [] E (tCons tm (tCons (tVar i) (tCons (tVar j) tNil)))) σ H (bits n) := fun H1 e Q q =>
  hm H1 e _ fun v H2 e2 t => by
    cases t
    exact ⟨.ref b, h1, .ref a, h2, n, b, a, rfl, hn, hba, e2.2.1, hd.mono hba ((hrG K a).trans e e2), fun v d H' e3 t3 p => q v d H' ((hrG K a).trans e2 e3) t3 p⟩
def spSized (K : PySem.W.Frag) : Sp := fun vs H Q _ => ∃ (p e : Nat) (b a : Addr), vs = [.int (p : Int), .int (e : Int), .ref b, .ref a] ∧ 1 ≤ p ∧ p ≤ 24 ∧ 1 ≤ e ∧ e ≤ 24 ∧ b ≠ a ∧ Cnt a H ∧ DrS b H ∧ ∀ v d H', (hrG K a).R H H' → Td K H' v d → cloth p e d → Q v H'
theorem bit_int {d : PyData} (h : inR 0 1 d = true) : ∃ i : Int, d = .int i := by
  cases d <;> first | exact ⟨_, rfl⟩ | cases h
theorem ok_law_planted (T : Tx K mg) : FnOk PP w K mg base CX0 4 (ga K "_law_planted") (fdx K "_law_planted") ["picks", "ends", "draws", "at"] (spSized K) := by
  have GT : FnOk PP w K mg base CX0 2 _ _ _ _ := ok_law_take T
  have GR : FnOk PP w K mg base CX0 3 _ _ _ _ := ok_law_row T
  refine (F__law_planted T).ok sc__law_planted (fun vs H Q E h => by obtain ⟨_, _, _, _, rfl, _⟩ := h; rfl) (fun cdv A outer s H vs Q E hr h => ?_)
  have hr2 : Room 2 _ := hr.mono (by decide)
  obtain ⟨p, e, b, a, rfl, p1, p2, e1, e2, hba, hc, hd, k⟩ := h
  refine ⟨_, PSs.nox (pss_cons (ps_setLc (i := 4) (own := [("k", 5)]) (g := gName 5) (tt := tYes) (by rfl) sc__law_planted.nd rfl rfl (sw_true rfl rfl rfl (by decide +kernel)) (pi_range1 (by rfl) (n_range T) (pa_cons (pv 1) pa_nil)) (blkOk_by (N := ["picks", "ends", "draws", "at", "above", "k", "under", "cloth", "pick", "row", "end"]) (sc := defScope st__law_planted) (by decide +kernel))
      (fun _ _ _ _ _ => pg_name (i := 5) sc__law_planted.nd rfl (Or.inl rfl)) (fun _ _ _ _ _ => pts_nil)
      (fun _ _ _ _ _ => pe_call GT hr2 rfl (g__law_take T) (F__law_take T).kp (bd__law_take T) .nil pass0 (pa_cons (pv 2) (pa_cons (pv 3) (pa_cons pe_int pa_nil)))))
    (pss_cons (ps_setLc (i := 6) (own := [("k", 5)]) (g := gName 5) (tt := tYes) (by rfl) sc__law_planted.nd rfl rfl (sw_true rfl rfl rfl (by decide +kernel)) (pi_range1 (by rfl) (n_range T) (pa_cons (pv 0) pa_nil)) (blkOk_by (N := ["picks", "ends", "draws", "at", "above", "k", "under", "cloth", "pick", "row", "end"]) (sc := defScope st__law_planted) (by decide +kernel))
      (fun _ _ _ _ _ => pg_name (i := 5) sc__law_planted.nd rfl (Or.inl rfl)) (fun _ _ _ _ _ => pts_nil)
      (fun _ _ _ _ _ => pe_call GT hr2 rfl (g__law_take T) (F__law_take T).kp (bd__law_take T) .nil pass0 (pa_cons (pv 2) (pa_cons (pv 3) (pa_cons pe_int pa_nil)))))
    (pss_cons (ps_set (i := 7) sc__law_planted.nd rfl (Or.inl rfl) (pe_lst pa_nil))
    (pss_cons (ps_for PassesOwn.never rfl (pi_range1 (by rfl) (n_range T) (pa_cons (pv 0) pa_nil)) (pg_name (i := 8) sc__law_planted.nd rfl (Or.inl rfl))
      (pss_cons (ps_set (i := 9) sc__law_planted.nd rfl (Or.inl rfl) (pe_callTy call_list_of (by rfl) (n_list T) Boot.«list» (pa_cons (pe_call GR hr rfl (g__law_row T) (F__law_row T).kp (bd__law_row T) .nil pass0 (pa_cons (pv 1) (pa_cons (pv 2) (pa_cons (pv 3) pa_nil)))) pa_nil)))
      (pss_cons (ps_for PassesOwn.never rfl (pi_range1 (by rfl) (n_range T) (pa_cons (pv 1) pa_nil)) (pg_name (i := 10) sc__law_planted.nd rfl (Or.inl rfl))
        (pss_one (ps_if (pt_cmpR op_ne (pe_ix (r := rIxL K) ix_list (pv 4) (pv 10) (fun _ _ => rfl)) (pe_ix (r := rIxL K) ix_list (pv 6) (pv 8) (fun _ _ => rfl)) (nomark _))
          (pss_one (ps_asg (pe_ix (r := rIxL K) ix_list (pv 4) (pv 10) (fun _ _ => rfl)) (pg_sub (pv 9) (pv 10) set_list))) pss_nil)))
      (pss_one (ps_expr (pe_bm PySem.F.plainAttrs_list PySem.F.slot_list_append PySem.F.type_list_append mt_append (pv 7) (pa_cons (pe_tupleOf (by rfl) (n_tuple T) (pv 9)) pa_nil)))))))
    (pss_one (ps_ret (pe_tupleOf (by rfl) (n_tuple T) (pv 7)))))))), ?_⟩
  have takeBit : ∀ {σ : L2.St} {H1 : Hp} {E : XK}, (hrG K a).R H H1 → σ[2]? = some (some (.ref b)) → σ[3]? = some (some (.ref a)) → EvP (hrG K a) (tCall (spTake K) [] E (tCons (tVar 2) (tCons (tVar 3) (tCons (tC (.int 2)) tNil)))) σ H1 (fun d => inR 0 1 d = true) := fun R h1 h2 =>
    (ep_take hba (hd.mono hba R) h1 h2 ed_int (by decide)).imp fun d p => isN_bit p
  refine q_setLP (ρ := hrG K a) hc (elp_lcR (N := fun j => j = e) (P := fun d => inR 0 1 d = true) ((ed_var rfl (.int (e : Int))).p ⟨e, rfl, by omega, rfl⟩) (fun _ => rfl) (fun j i _ _ H1 e => takeBit e rfl rfl)) (fun pA as dA H1 hA0 R1 hA tA qA => ?_)
  obtain ⟨lA, bA⟩ := qA
  refine q_setLP (ρ := hrG K a) R1.2.1 (elp_lcR (N := fun j => j = p) (P := fun d => inR 0 1 d = true) ((ed_var rfl (.int (p : Int))).p ⟨p, rfl, by omega, rfl⟩) (fun _ => rfl) (fun j i _ _ H2 e => takeBit ((hrG K a).trans R1 e) rfl rfl)) (fun pU us dU H2 hU0 R12 hU tU qU => ?_)
  obtain ⟨lU, bU⟩ := qU
  have okA := (hrG K a).fresh hc hA0
  have okU := (hrG K a).fresh R1.2.1 hU0
  have R2 := (hrG K a).trans R1 R12
  refine q_setL (ρ := hrG K a) R2.2.1 (el_lst es_nil (by simp)) (fun pL xs H3 hL0 R23 hL tL => ?_)
  cases tL
  have okL := (hrG K a).fresh R2.2.1 hL0
  have R3 := (hrG K a).trans R2 R23
  have hA3 : H3 pA = some (.lst as) := (hrG K a).keep ((hrG K a).trans R12 R23) okA hA
  have hU3 : H3 pU = some (.lst us) := (hrG K a).keep R23 okU hU
  have tA3 := TdAll.mono (hrG K a) ((hrG K a).trans R12 R23) _ tA
  have tU3 := TdAll.mono (hrG K a) R23 _ tU
  have nL0 : H pL = none := (hrG K a).back R2 hL0
  have neAL : pA ≠ pL := fun z => by rw [← z, (hrG K a).keep R12 okA hA] at hL0; cases hL0
  have neUL : pU ≠ pL := fun z => by rw [← z, hU] at hL0; cases hL0
  clear hA hU hL0
  refine ⟨.int (p : Int), rfl, (p : Int), rfl, by omega, by omega, for_range (n := p) (fun i σ H' => (hrG K a).R H H' ∧ ∃ (acc : List V) (ds : List PyData) (o1 o2 o3 : Option V),
    σ = [some (.int (p : Int)), some (.int (e : Int)), some (.ref b), some (.ref a), some (.ref pA), none, some (.ref pU), some (.ref pL), o1, o2, o3] ∧ H' pA = some (.lst as) ∧ H' pU = some (.lst us) ∧ TdAll K H' as dA ∧ TdAll K H' us dU ∧
    H' pL = some (.lst acc) ∧ TdAll K H' acc ds ∧ ds.length = i ∧ ∀ d ∈ ds, bits e d) ⟨R3, [], [], none, none, none, rfl, hA3, hU3, tA3, tU3, hL, .nil, rfl, fun _ z => nomatch z⟩ ?_ ?_⟩
  · rintro i σ H4 hi ⟨R4, acc, ds, o1, o2, o3, rfl, hA4, hU4, tA4, tU4, hL4, tL4, hlen, hall⟩
    rw [show (0 : Int) + (i : Int) = (i : Int) by omega]
    refine q_setLP (ρ := hrG K a) R4.2.1 (elp_listT (P := fun ds => ds.length = e ∧ ∀ x ∈ ds, inR 0 1 x = true) ((ep_row hba (hd.mono hba R4) rfl rfl (ed_var rfl (.int (e : Int))) (by omega)).imp fun d p => p)) (fun pW ws dW H5 hW0 R45 hW tW qW => ?_)
    obtain ⟨lW, bW⟩ := qW
    have R5 := (hrG K a).trans R4 R45
    have hA5 := (hrG K a).keep R45 okA hA4
    have hU5 := (hrG K a).keep R45 okU hU4
    have hL5 := (hrG K a).keep R45 okL hL4
    have tA5 := TdAll.mono (hrG K a) R45 _ tA4
    have tU5 := TdAll.mono (hrG K a) R45 _ tU4
    have tL5 := TdAll.mono (hrG K a) R45 _ tL4
    have nW0 : H pW = none := (hrG K a).back R4 hW0
    have okW := (hrG K a).fresh R4.2.1 hW0
    have neA : pA ≠ pW := fun z => by rw [← z, hA4] at hW0; cases hW0
    have neU : pU ≠ pW := fun z => by rw [← z, hU4] at hW0; cases hW0
    have neL : pL ≠ pW := fun z => by rw [← z, hL4] at hW0; cases hW0
    refine ⟨.int (e : Int), rfl, (e : Int), rfl, by omega, by omega, for_range (n := e) (fun j σ H' => (hrG K a).R H H' ∧ ∃ (ws : List V) (dW : List PyData) (o3 : Option V),
      σ = [some (.int (p : Int)), some (.int (e : Int)), some (.ref b), some (.ref a), some (.ref pA), none, some (.ref pU), some (.ref pL), some (.int (i : Int)), some (.ref pW), o3] ∧ H' pA = some (.lst as) ∧ H' pU = some (.lst us) ∧ TdAll K H' as dA ∧ TdAll K H' us dU ∧
      H' pL = some (.lst acc) ∧ TdAll K H' acc ds ∧ H' pW = some (.lst ws) ∧ TdAll K H' ws dW ∧ dW.length = e ∧ ∀ d ∈ dW, inR 0 1 d = true) ⟨R5, ws, dW, _, rfl, hA5, hU5, tA5, tU5, hL5, tL5, hW, tW, lW, bW⟩ ?_ ?_⟩
    · clear hA3 hU3 hA4 hU4 hL4 tA3 tU3 tA4 tU4 tL4 hA5 hU5 tA5 tU5 hL5 tL5 hW tW bW lW hL
      rintro j σ H6 hj ⟨R6, ws, dW, o3, rfl, hA6, hU6, tA6, tU6, hL6, tL6, hW6, tW6, lW, bW⟩
      rw [show (0 : Int) + (j : Int) = (j : Int) by omega]
      have ja : j < as.length := by rw [tA6.len, lA]; exact hj
      have iu : i < us.length := by rw [tU6.len, lU]; exact hi
      obtain ⟨dx, dx1, dx2⟩ := tA6.get (i := j) (v := as[j]) (by simp [ja])
      obtain ⟨dy, dy1, dy2⟩ := tU6.get (i := i) (v := us[i]) (by simp [iu])
      obtain ⟨x, rfl⟩ := bit_int (bA dx (List.mem_of_getElem? dx1))
      obtain ⟨y, rfl⟩ := bit_int (bU dy (List.mem_of_getElem? dy1))
      have atn : ∀ {l : List V} {i : Nat} (h : i < l.length), atI l (i : Int) = some l[i] := fun {l i} h => by
        unfold atI
        rw [Evl.ixN_nat h]
        show l[i]? = _
        simp [h]
      have rA : ∀ {σ : L2.St} {H7 : Hp}, Evl.Ex H6 H7 → σ[4]? = some (some (.ref pA)) → σ[10]? = some (some (.int (j : Int))) → EvD (hrE K) (tOp (rIxL K) (tVar 4) (tVar 10)) σ H7 (.int x) := fun e7 h1 h2 =>
        ed_ixL (ev_var h1) (ed_var h2 (.int (j : Int))) (fun H8 e8 => Evl.sq_of (e8 _ _ (e7 _ _ hA6))) (atn ja) (fun H8 e8 => Td.mono (hrE K) (Evl.Ex.trans e7 e8) _ dx2)
      refine if_dN (ρ := hrE K) trivial (eb_test (ed_neI (rA (Evl.Ex.refl _) rfl rfl) (ed_ixL (ev_var rfl) (ed_var rfl (.int (i : Int))) (fun H8 e8 => Evl.sq_of (e8 _ _ hU6)) (atn iu) (fun H8 e8 => Td.mono (hrE K) e8 _ dy2)))) (fun _ H7 e7 => ?_) (fun _ H7 e7 => ?_)
      · refine rA e7 rfl rfl H7 (Evl.Ex.refl _) _ fun v H8 e8 t8 => ?_
        have e68 := Evl.Ex.trans e7 e8
        have R68 := goEx (K := K) R6.2.1 e68
        have hW8 := e68 _ _ hW6
        have up := fun xs => sqT_updL (K := K) (w := xs) hW8
        refine ⟨.ref pW, rfl, .int (j : Int), rfl, pW, ws, (j : Int), j, rfl, rfl, hW8, Evl.ixN_nat (by rw [tW6.len, lW]; exact hj), ?_⟩
        refine ⟨(hrG K a).mu ((hrG K a).trans R6 R68) nW0, ws.set j v, dW.set j (.int x), _, rfl, by rw [upd_ne neA]; exact e68 _ _ hA6, by rw [upd_ne neU]; exact e68 _ _ hU6, TdAll.monoT (up _) _ (TdAll.mono (hrE K) e68 _ tA6), TdAll.monoT (up _) _ (TdAll.mono (hrE K) e68 _ tU6), by rw [upd_ne neL]; exact e68 _ _ hL6,
          TdAll.monoT (up _) _ (TdAll.mono (hrE K) e68 _ tL6), upd_same, TdAll.monoT (up _) _ ((TdAll.mono (hrE K) e68 _ tW6).set t8 j), by rw [List.length_set]; exact lW, fun d hd => ?_⟩
        rcases mem_set_or hd with z | z
        · exact bW d z
        · rw [z]
          exact bA _ (List.mem_of_getElem? dx1)
      · exact ⟨(hrG K a).trans R6 (goEx (K := K) R6.2.1 e7), ws, dW, _, rfl, e7 _ _ hA6, e7 _ _ hU6, TdAll.mono (hrE K) e7 _ tA6, TdAll.mono (hrE K) e7 _ tU6, e7 _ _ hL6, TdAll.mono (hrE K) e7 _ tL6, e7 _ _ hW6, TdAll.mono (hrE K) e7 _ tW6, lW, bW⟩
    · clear hA3 hU3 hA4 hU4 hL4 tA3 tU3 tA4 tU4 tL4 hA5 hU5 tA5 tU5 hL5 tL5 hW tW bW lW hL
      rintro σ H6 ⟨R6, ws, dW, o3, rfl, hA6, hU6, tA6, tU6, hL6, tL6, hW6, tW6, lW, bW⟩
      refine ⟨.ref pL, rfl, Or.inl ⟨rfl, acc, Evl.sq_of hL6⟩, .ref pW, rfl, .inl ⟨pW, ws, rfl, Evl.sq_of hW6, fun r hr => ?_⟩⟩
      have e7 : Evl.Ex H6 (upd H6 r (.tup ws)) := Evl.Ex.new hr
      have hL7 := e7 _ _ hL6
      refine ⟨pL, acc, .ref r, rfl, rfl, hL7, Evl.sz_lt (by rw [tL6.len]; omega), ?_⟩
      obtain ⟨m1, m2, m3⟩ := more_item (ρ := hrG K a) (v := .ref r) (d := .tuple dW) ((hrG K a).trans R6 (goEx (K := K) R6.2.1 e7)) nL0 hL7 (TdAll.mono (hrE K) e7 _ tL6) (.tup (Evl.st_of upd_same) (TdAll.mono (hrE K) e7 _ tW6))
      have up := fun xs => sqT_updL (K := K) (w := xs) hL7
      refine ⟨m1, acc ++ [.ref r], ds ++ [.tuple dW], _, _, _, rfl, by rw [upd_ne neAL]; exact e7 _ _ hA6, by rw [upd_ne neUL]; exact e7 _ _ hU6, TdAll.monoT (up _) _ (TdAll.mono (hrE K) e7 _ tA6), TdAll.monoT (up _) _ (TdAll.mono (hrE K) e7 _ tU6), m2, m3, by simp [hlen], fun d hd => ?_⟩
      rcases List.mem_append.mp hd with z | z
      · exact hall d z
      · rw [List.mem_singleton.mp z]
        exact ⟨dW, rfl, lW, bW⟩
  · rintro σ H4 ⟨R4, acc, ds, o1, o2, o3, rfl, hA4, hU4, tA4, tU4, hL4, tL4, hlen, hall⟩
    exact ret_d (ρ := hrG K a) R4.2.1 (ed_tupV (ev_var rfl) hL4 okL tL4) fun v H5 e5 t5 => k v _ H5 ((hrG K a).trans R4 e5) t5 ⟨ds, rfl, hlen, hall⟩
end
end K5

set_option Elab.async false
set_option linter.all false
set_option maxRecDepth 100000
set_option maxHeartbeats 8000000
namespace K5
open PySem PySem.Spec PyProof.Rows L2 He HX DX
section
variable {w : World} {K : PySem.W.Frag} {mg : Str → Option Value} {base : Heap}
/-- a call of _law_one -/
theorem ep_one {c b a : Addr} {E : XK} {σ : L2.St} {H : Hp} {i j l : Nat} {xs : List V} {ds : List PyData} {P : PyData → Prop} (hba : b ≠ a) (hca : c ≠ a) (hd : DrS b H) (h0 : σ[i]? = some (some (.ref c))) (h1 : σ[j]? = some (some (.ref b))) (h2 : σ[l]? = some (some (.ref a)))
    (hx : H c = some (.lst xs)) (ht : TdAll K H xs ds) (hl : 1 ≤ ds.length) (hp : ∀ d ∈ ds, P d) : EvP (hrG K a) (tCall (spOne K) [] E (tCons (tVar i) (tCons (tVar j) (tCons (tVar l) tNil)))) σ H P := fun H1 e Q q =>
  ⟨.ref c, h0, .ref b, h1, .ref a, h2, c, b, a, xs, ds, rfl, hba, hca, e.2.1, hd.mono hba e, e.2.2 _ _ hca hx, TdAll.mono (hrG K a) e _ ht, hl, fun v d H' e3 t3 p => q v d H' e3 t3 (hp d p)⟩
theorem ok_law_sized (T : Tx K mg) : FnOk PP w K mg base CX0 5 (ga K "_law_sized") (fdx K "_law_sized") ["picks", "ends", "draws", "at"] (spSized K) := by
  have GT : FnOk PP w K mg base CX0 2 _ _ _ _ := ok_law_take T
  have GR : FnOk PP w K mg base CX0 3 _ _ _ _ := ok_law_row T
  have GO : FnOk PP w K mg base CX0 3 _ _ _ _ := ok_law_one T
  have GP : FnOk PP w K mg base CX0 4 _ _ _ _ := ok_law_planted T
  refine (F__law_sized T).ok sc__law_sized (fun vs H Q E h => by obtain ⟨_, _, _, _, rfl, _⟩ := h; rfl) (fun cdv A outer s H vs Q E hr h => ?_)
  have hr2 : Room 2 _ := hr.mono (by decide)
  have hr3 : Room 3 _ := hr.mono (by decide)
  obtain ⟨p, e, b, a, rfl, p1, p2, e1, e2, hba, hc, hd, k⟩ := h
  refine ⟨_, PSs.nox (pss_cons (ps_set (i := 4) sc__law_sized.nd rfl (Or.inl rfl) (pe_call GT hr2 rfl (g__law_take T) (F__law_take T).kp (bd__law_take T) .nil pass0 (pa_cons (pv 2) (pa_cons (pv 3) (pa_cons pe_int pa_nil)))))
    (pss_cons (ps_if (pt_cmpR op_eq (pv 4) pe_int (nomark _))
      (pss_cons (ps_set (i := 5) sc__law_sized.nd rfl (Or.inr rfl) (pe_call GR hr3 rfl (g__law_row T) (F__law_row T).kp (bd__law_row T) .nil pass0 (pa_cons (pv 1) (pa_cons (pv 2) (pa_cons (pv 3) pa_nil)))))
      (pss_cons (ps_set (i := 6) sc__law_sized.nd rfl (Or.inr rfl) (pe_call GT hr2 rfl (g__law_take T) (F__law_take T).kp (bd__law_take T) .nil pass0 (pa_cons (pv 2) (pa_cons (pv 3) (pa_cons (pv 1) pa_nil)))))
      (pss_one (ps_ret (pe_tupleOf (by rfl) (n_tuple T) (pe_lc (own := [("pick", 8)]) (g := gName 8) (tt := tYes) (te := tThen (tLc (iRng1 (tCons (tVar 1) tNil)) (gName 7) tYes _ [7]) (kTup K)) rfl sc__law_sized.nd (pi_range1 (by rfl) (n_range T) (pa_cons (pv 0) pa_nil)) (blkOk_by (N := ["picks", "ends", "draws", "at", "choice", "row", "step", "end", "pick", "rows", "k", "rare"]) (sc := defScope st__law_sized) (by decide +kernel))
        (fun _ _ _ _ _ => pg_name (i := 8) sc__law_sized.nd rfl (Or.inr rfl)) (fun _ _ _ _ _ => pts_nil)
        (fun _ _ _ _ _ => (pe_tupleOf (by rfl) (n_tuple T) (pe_lc (own := [("end", 7)]) (g := gName 7) (tt := tYes) (wi := iRng1 (tCons (tVar 1) tNil)) rfl sc__law_sized.nd (pi_range1 (by rfl) (n_range T) (pa_cons (pv 1) pa_nil)) (blkIn (N := ["picks", "ends", "draws", "at", "choice", "row", "step", "end", "pick", "rows", "k", "rare"]) (sc := defScope st__law_sized) rfl (fun e he => by simp only [compEnvC, relabel, Env.kindOf, he]; decide +kernel))
          (fun _ _ _ _ _ => pg_name (i := 7) sc__law_sized.nd rfl (Or.inl rfl)) (fun _ _ _ _ _ => pts_nil)
          (fun _ _ _ _ _ => pe_ix (r := rIxT K) ix_tup (pv 5) (pe_op op_modN (pe_callTy call_int1 (by rfl) (n_int T) Boot.«int» (pa_cons (pe_op op_add (pv 7) (pe_op op_mul (pv 6) (pv 8))) pa_nil)) (pv 1)) (fun _ _ => rfl))))))))))) pss_nil)
    (pss_cons (ps_if (pt_cmpR op_eq (pv 4) pe_int (nomark _))
      (pss_cons (ps_set (i := 9) sc__law_sized.nd rfl (Or.inr rfl) (pe_lc (own := [("k", 10)]) (g := gName 10) (tt := tYes) rfl sc__law_sized.nd (pi_range1 (by rfl) (n_range T) (pa_cons (pe_op op_add pe_int (pe_call GT hr2 rfl (g__law_take T) (F__law_take T).kp (bd__law_take T) .nil pass0 (pa_cons (pv 2) (pa_cons (pv 3) (pa_cons pe_int pa_nil))))) pa_nil)) (blkOk_by (N := ["picks", "ends", "draws", "at", "choice", "row", "step", "end", "pick", "rows", "k", "rare"]) (sc := defScope st__law_sized) (by decide +kernel))
        (fun _ _ _ _ _ => pg_name (i := 10) sc__law_sized.nd rfl (Or.inl rfl)) (fun _ _ _ _ _ => pts_nil)
        (fun _ _ _ _ _ => pe_call GR hr3 rfl (g__law_row T) (F__law_row T).kp (bd__law_row T) .nil pass0 (pa_cons (pv 1) (pa_cons (pv 2) (pa_cons (pv 3) pa_nil))))))
      (pss_one (ps_ret (pe_tupleOf (by rfl) (n_tuple T) (pe_lc (own := [("pick", 8)]) (g := gName 8) (tt := tYes) rfl sc__law_sized.nd (pi_range1 (by rfl) (n_range T) (pa_cons (pv 0) pa_nil)) (blkOk_by (N := ["picks", "ends", "draws", "at", "choice", "row", "step", "end", "pick", "rows", "k", "rare"]) (sc := defScope st__law_sized) (by decide +kernel))
        (fun _ _ _ _ _ => pg_name (i := 8) sc__law_sized.nd rfl (Or.inl rfl)) (fun _ _ _ _ _ => pts_nil)
        (fun _ _ _ _ _ => pe_call GO hr3 rfl (g__law_one T) (F__law_one T).kp (bd__law_one T) .nil pass0 (pa_cons (pv 9) (pa_cons (pv 2) (pa_cons (pv 3) pa_nil))))))))) pss_nil)
    (pss_cons (ps_if (pt_cmpR op_eq (pv 4) pe_int (nomark _))
      (pss_one (ps_ret (pe_call GP hr rfl (g__law_planted T) (F__law_planted T).kp (bd__law_planted T) .nil pass0 (pa_cons (pv 0) (pa_cons (pv 1) (pa_cons (pv 2) (pa_cons (pv 3) pa_nil))))))) pss_nil)
    (pss_cons (ps_if (pt_cmpR op_eq (pv 4) pe_int (nomark _))
      (pss_cons (ps_set (i := 11) sc__law_sized.nd rfl (Or.inr rfl) (pe_call GT hr2 rfl (g__law_take T) (F__law_take T).kp (bd__law_take T) .nil pass0 (pa_cons (pv 2) (pa_cons (pv 3) (pa_cons pe_int pa_nil)))))
      (pss_cons (ps_set (i := 9) sc__law_sized.nd rfl (Or.inr rfl) (pe_lc (own := [("pick", 8)]) (g := gName 8) (tt := tYes) rfl sc__law_sized.nd (pi_range1 (by rfl) (n_range T) (pa_cons (pv 0) pa_nil)) (blkOk_by (N := ["picks", "ends", "draws", "at", "choice", "row", "step", "end", "pick", "rows", "k", "rare"]) (sc := defScope st__law_sized) (by decide +kernel))
        (fun _ _ _ _ _ => pg_name (i := 8) sc__law_sized.nd rfl (Or.inl rfl)) (fun _ _ _ _ _ => pts_nil)
        (fun _ _ _ _ _ => pe_lc (own := [("end", 7)]) (g := gName 7) (tt := tYes) (wi := iRng1 (tCons (tVar 1) tNil)) rfl sc__law_sized.nd (pi_range1 (by rfl) (n_range T) (pa_cons (pv 1) pa_nil)) (blkIn (N := ["picks", "ends", "draws", "at", "choice", "row", "step", "end", "pick", "rows", "k", "rare"]) (sc := defScope st__law_sized) rfl (fun e he => by simp only [compEnvC, relabel, Env.kindOf, he]; decide +kernel))
          (fun _ _ _ _ _ => pg_name (i := 7) sc__law_sized.nd rfl (Or.inl rfl)) (fun _ _ _ _ _ => pts_nil)
          (fun _ _ _ _ _ => pe_ifExp (pt_cmpR op_eq (pe_call GT hr2 rfl (g__law_take T) (F__law_take T).kp (bd__law_take T) .nil pass0 (pa_cons (pv 2) (pa_cons (pv 3) (pa_cons pe_int pa_nil)))) pe_int (nomark _)) (pv 11) (pe_op op_sub pe_int (pv 11))))))
      (pss_one (ps_ret (pe_tupleOf (by rfl) (n_tuple T) (pe_lc (own := [("row", 5)]) (g := gName 5) (tt := tYes) (te := tThen (tVar 5) (kTup K)) rfl sc__law_sized.nd (pi_list (pv 9)) (blkOk_by (N := ["picks", "ends", "draws", "at", "choice", "row", "step", "end", "pick", "rows", "k", "rare"]) (sc := defScope st__law_sized) (by decide +kernel))
        (fun _ _ _ _ _ => pg_name (i := 5) sc__law_sized.nd rfl (Or.inl rfl)) (fun _ _ _ _ _ => pts_nil)
        (fun _ _ _ _ _ => (pe_tupleOf (by rfl) (n_tuple T) (pv 5))))))))) pss_nil)
    (pss_one (ps_ret (pe_tupleOf (by rfl) (n_tuple T) (pe_lc (own := [("pick", 8)]) (g := gName 8) (tt := tYes) rfl sc__law_sized.nd (pi_range1 (by rfl) (n_range T) (pa_cons (pv 0) pa_nil)) (blkOk_by (N := ["picks", "ends", "draws", "at", "choice", "row", "step", "end", "pick", "rows", "k", "rare"]) (sc := defScope st__law_sized) (by decide +kernel))
        (fun _ _ _ _ _ => pg_name (i := 8) sc__law_sized.nd rfl (Or.inl rfl)) (fun _ _ _ _ _ => pts_nil)
        (fun _ _ _ _ _ => pe_call GR hr3 rfl (g__law_row T) (F__law_row T).kp (bd__law_row T) .nil pass0 (pa_cons (pv 1) (pa_cons (pv 2) (pa_cons (pv 3) pa_nil))))))))))))), ?_⟩
  have R0 := (hrG K a).refl hc
  have vE : ∀ {σ : L2.St} {H1 : Hp}, σ[1]? = some (some (.int (e : Int))) → EvD (hrG K a) (tVar 1) σ H1 (.int (e : Int)) := fun h => ed_var h (.int _)
  have vP : ∀ {σ : L2.St} {H1 : Hp}, σ[0]? = some (some (.int (p : Int))) → EvD (hrG K a) (tVar 0) σ H1 (.int (p : Int)) := fun h => ed_var h (.int _)
  have nP : ∀ {σ : L2.St} {H1 : Hp}, σ[0]? = some (some (.int (p : Int))) → EvP (hrG K a) (tVar 0) σ H1 (fun d => ∃ n : Nat, d = .int n ∧ n ≤ 1000 ∧ n = p) := fun h => (vP h).p ⟨p, rfl, by omega, rfl⟩
  have nE : ∀ {σ : L2.St} {H1 : Hp}, σ[1]? = some (some (.int (e : Int))) → EvP (hrG K a) (tVar 1) σ H1 (fun d => ∃ n : Nat, d = .int n ∧ n ≤ 1000 ∧ n = e) := fun h => (vE h).p ⟨e, rfl, by omega, rfl⟩
  have take : ∀ {m : Int} {tm : TE} {σ : L2.St} {H1 : Hp} {E : XK}, (hrG K a).R H H1 → σ[2]? = some (some (.ref b)) → σ[3]? = some (some (.ref a)) → EvD (hrG K a) tm σ H1 (.int m) → 1 ≤ m → EvP (hrG K a) (tCall (spTake K) [] E (tCons (tVar 2) (tCons (tVar 3) (tCons tm tNil)))) σ H1 (isN fun r => 0 ≤ r ∧ r < m) := fun R h1 h2 hm h => ep_take hba (hd.mono hba R) h1 h2 hm h
  have row : ∀ {σ : L2.St} {H1 : Hp} {E : XK}, (hrG K a).R H H1 → σ[1]? = some (some (.int (e : Int))) → σ[2]? = some (some (.ref b)) → σ[3]? = some (some (.ref a)) → EvP (hrG K a) (tCall (spRow K) [] E (tCons (tVar 1) (tCons (tVar 2) (tCons (tVar 3) tNil)))) σ H1 (bits e) := fun R h0 h1 h2 => ep_row hba (hd.mono hba R) h1 h2 (vE h0) (by omega)
  refine q_setP (ρ := hrG K a) hc (take R0 rfl rfl ed_int (by decide)) (fun v d H1 R1 t pc => ?_)
  obtain ⟨c, rfl, c0, c1⟩ := pc
  cases t
  refine seq_ifN (ρ := hrG K a) R1.2.1 (eb_test (ed_eqI (ed_var rfl (.int c)) ed_int)) (fun _ H2 R12 => ?_) (fun _ H2 R12 => ?_)
  · have R2 := (hrG K a).trans R1 R12
    refine q_setP (ρ := hrG K a) R2.2.1 (row R2 rfl rfl rfl) (fun vr dr H3 R23 tr pr => ?_)
    obtain ⟨rs, rfl, lr, br⟩ := pr
    have R3 := (hrG K a).trans R2 R23
    refine q_setP (ρ := hrG K a) R3.2.1 (take R3 rfl rfl (vE rfl) (by omega)) (fun vs ds H4 R34 ts ps => ?_)
    obtain ⟨st, rfl, s0, s1⟩ := ps
    cases ts
    have R4 := (hrG K a).trans R3 R34
    refine ret_p (ρ := hrG K a) R4.2.1 (ep_tupL (elp_lcR (N := fun j => j = p) (P := bits e) (nP rfl) (fun _ => rfl) (fun j i _ _ H5 R45 => ep_tupL (elp_lcR (N := fun j => j = e) (P := fun d => inR 0 1 d = true) (nE rfl) (fun _ => rfl) (fun j2 i2 _ _ H6 R56 =>
      ep_ixT (ed_var rfl (Td.mono (hrG K a) ((hrG K a).trans R34 ((hrG K a).trans R45 R56)) _ tr)) (ep_ariC (P := fun _ => True) (P2 := fun j => j = (e : Int)) (ep_int1 ((ed_ari (ed_var rfl (.int (i2 : Int))) (ed_ariC (ed_var rfl (.int st)) (ed_var rfl (.int (i : Int))) (.inl ⟨by omega, by omega⟩))).p ⟨_, rfl, trivial⟩)) (vE rfl).n (fun i j _ hj => by subst hj; exact ⟨by omega, by rw [lr]; exact fmod_lt (by omega)⟩)) br))))) (fun v d H5 R45 t pd => ?_)
    obtain ⟨ds, rfl, q1, q2⟩ := pd
    exact k v _ H5 ((hrG K a).trans R4 R45) t ⟨ds, rfl, q1, q2⟩
  have R2 := (hrG K a).trans R1 R12
  clear R12
  refine seq_ifN (ρ := hrG K a) R2.2.1 (eb_test (ed_eqI (ed_var rfl (.int c)) ed_int)) (fun _ H3 R23 => ?_) (fun _ H3 R23 => ?_)
  · have R3 := (hrG K a).trans R2 R23
    refine q_setLP (ρ := hrG K a) R3.2.1 (elp_lcR (N := fun j => 1 ≤ j ∧ j ≤ 3) (P := bits e) (ep_nat (ep_ari (P3 := fun i => 1 ≤ i ∧ i < 4) ed_int.n (take R3 rfl rfl ed_int (by decide)) (fun i j hi hj => by omega)) (fun i hi => by omega)) (fun _ => rfl) (fun j i _ _ H5 R45 => row ((hrG K a).trans R3 R45) rfl rfl rfl)) (fun pR rs ds H4 hR0 R34 hR tR pR2 => ?_)
    obtain ⟨⟨l1, _⟩, bR⟩ := pR2
    have R4 := (hrG K a).trans R3 R34
    have okR := (hrG K a).fresh R3.2.1 hR0
    refine ret_p (ρ := hrG K a) R4.2.1 (ep_tupL (elp_lcR (N := fun j => j = p) (P := bits e) (nP rfl) (fun _ => rfl) (fun j i _ _ H5 R45 => ep_one hba okR (hd.mono hba ((hrG K a).trans R4 R45)) rfl rfl rfl ((hrG K a).keep R45 okR hR) (TdAll.mono (hrG K a) R45 _ tR) l1 bR))) (fun v d H5 R45 t pd => ?_)
    obtain ⟨ds, rfl, q1, q2⟩ := pd
    exact k v _ H5 ((hrG K a).trans R4 R45) t ⟨ds, rfl, q1, q2⟩
  have R3 := (hrG K a).trans R2 R23
  clear R23
  refine seq_ifN (ρ := hrG K a) R3.2.1 (eb_test (ed_eqI (ed_var rfl (.int c)) ed_int)) (fun _ H4 R34 => ?_) (fun _ H4 R34 => ?_)
  · have R4 := (hrG K a).trans R3 R34
    exact ⟨.int (p : Int), rfl, .int (e : Int), rfl, .ref b, rfl, .ref a, rfl, p, e, b, a, rfl, p1, p2, e1, e2, hba, R4.2.1, hd.mono hba R4, fun v d H' R t q => k v d H' ((hrG K a).trans R4 R) t q⟩
  have R4 := (hrG K a).trans R3 R34
  clear R34
  refine seq_ifN (ρ := hrG K a) R4.2.1 (eb_test (ed_eqI (ed_var rfl (.int c)) ed_int)) (fun _ H5 R45 => ?_) (fun _ H5 R45 => ?_)
  · have R5 := (hrG K a).trans R4 R45
    refine q_setP (ρ := hrG K a) R5.2.1 (take R5 rfl rfl ed_int (by decide)) (fun v d H6 R56 t pc => ?_)
    obtain ⟨ra, rfl, r0, r1⟩ := pc
    cases t
    have R6 := (hrG K a).trans R5 R56
    have bi : ∀ i : Int, 0 ≤ i → i < 2 → inR 0 1 (.int i) = true := fun i h0 h1 => isN_bit ⟨i, rfl, h0, h1⟩
    refine q_setLL (ρ := hrG K a) R6.2.1 (ell_lcR (n := p) (P := fun ds => ds.length = e ∧ ∀ x ∈ ds, inR 0 1 x = true) (vP rfl) (by omega) (fun _ => rfl) (fun i _ H7 R67 => elp_lcR (N := fun j => j = e) (P := fun d => inR 0 1 d = true) (nE rfl) (fun _ => rfl) (fun j2 i2 _ _ H8 R78 =>
      ep_if2 (eb2_eqI (take ((hrG K a).trans R6 ((hrG K a).trans R67 R78)) rfl rfl ed_int (by decide)) ed_int.n) ((ed_var rfl (.int ra)).p (bi ra r0 r1)) ((ed_ari ed_int (ed_var rfl (.int ra))).p (bi _ (by omega) (by omega)))))) (fun pR rs H7 hR0 R67 hR lR LR => ?_)
    have R7 := (hrG K a).trans R6 R67
    have okR := (hrG K a).fresh R6.2.1 hR0
    refine ret_p (ρ := hrG K a) R7.2.1 (ep_tupL (elp_lcLL (ev_var rfl) hR okR (by omega) LR (fun _ => rfl) (fun _ => rfl))) (fun v d H8 R78 t pd => ?_)
    obtain ⟨ds, rfl, q1, q2⟩ := pd
    exact k v _ H8 ((hrG K a).trans R7 R78) t ⟨ds, rfl, by rw [q1, lR], q2⟩
  have R5 := (hrG K a).trans R4 R45
  refine ret_p (ρ := hrG K a) R5.2.1 (ep_tupL (elp_lcR (N := fun j => j = p) (P := bits e) (nP rfl) (fun _ => rfl) (fun j i _ _ H6 R56 => row ((hrG K a).trans R5 R56) rfl rfl rfl))) (fun v d H6 R56 t pd => ?_)
  obtain ⟨ds, rfl, q1, q2⟩ := pd
  exact k v _ H6 ((hrG K a).trans R5 R56) t ⟨ds, rfl, q1, q2⟩
def spCloth (K : PySem.W.Frag) : Sp := fun vs H Q _ => ∃ (m : Int) (b a : Addr), vs = [.int m, .ref b, .ref a] ∧ 1 ≤ m ∧ m ≤ 24 ∧ b ≠ a ∧ Cnt a H ∧ DrS b H ∧ ∀ v d H', (hrG K a).R H H' → Td K H' v d → rightC d → Q v H'
theorem ok_law_cloth (T : Tx K mg) : FnOk PP w K mg base CX0 6 (ga K "_law_cloth") (fdx K "_law_cloth") ["most", "draws", "at"] (spCloth K) := by
  have GT : FnOk PP w K mg base CX0 2 _ _ _ _ := ok_law_take T
  have GS : FnOk PP w K mg base CX0 5 _ _ _ _ := ok_law_sized T
  refine (F__law_cloth T).ok sc__law_cloth (fun vs H Q E h => by obtain ⟨_, _, _, rfl, _⟩ := h; rfl) (fun cdv A outer s H vs Q E hr h => ?_)
  have hr2 : Room 2 _ := hr.mono (by decide)
  obtain ⟨m, b, a, rfl, m1, m2, hba, hc, hd, k⟩ := h
  refine ⟨_, PSs.nox (pss_one (ps_ret (pe_call GS hr rfl (g__law_sized T) (F__law_sized T).kp (bd__law_sized T) .nil pass0
    (pa_cons (pe_op op_add pe_int (pe_call GT hr2 rfl (g__law_take T) (F__law_take T).kp (bd__law_take T) .nil pass0 (pa_cons (pv 1) (pa_cons (pv 2) (pa_cons (pv 0) pa_nil)))))
    (pa_cons (pe_op op_add pe_int (pe_call GT hr2 rfl (g__law_take T) (F__law_take T).kp (bd__law_take T) .nil pass0 (pa_cons (pv 1) (pa_cons (pv 2) (pa_cons (pv 0) pa_nil)))))
    (pa_cons (pv 1) (pa_cons (pv 2) pa_nil))))))), ?_⟩
  have take : ∀ {H1 : Hp} {E : XK}, (hrG K a).R H H1 → EvP (hrG K a) (tOp (rI0 fun i j => .int (i + j)) (tC (.int 1)) (tCall (spTake K) [] E (tCons (tVar 1) (tCons (tVar 2) (tCons (tVar 0) tNil))))) (start ["most", "draws", "at"] [.int m, .ref b, .ref a]) H1 (isN fun r => 1 ≤ r ∧ r ≤ m) := fun R =>
    ep_ari ed_int.n (ep_take hba (hd.mono hba R) rfl rfl (ed_var rfl (.int m)) m1) (fun i j hi hj => by omega)
  refine take ((hrG K a).refl hc) H ((hrG K a).refl hc) _ fun v1 d1 H1 R1 t1 q1 => take R1 H1 ((hrG K a).refl R1.2.1) _ fun v2 d2 H2 R12 t2 q2 => ?_
  obtain ⟨x, rfl, x1, x2⟩ := q1
  obtain ⟨y, rfl, y1, y2⟩ := q2
  cases t1
  cases t2
  have R2 := (hrG K a).trans R1 R12
  have ex : ((x.toNat : Nat) : Int) = x := Int.toNat_of_nonneg (by omega)
  have ey : ((y.toNat : Nat) : Int) = y := Int.toNat_of_nonneg (by omega)
  refine ⟨.ref b, rfl, .ref a, rfl, x.toNat, y.toNat, b, a, ?_, by omega, by omega, by omega, by omega, hba, R2.2.1, hd.mono hba R2, fun v d H' R t q => k v d H' ((hrG K a).trans R2 R) t ⟨_, _, by omega, by omega, by omega, by omega, q⟩⟩
  rw [ex, ey]
  rfl
end
end K5

set_option Elab.async false
set_option linter.all false
set_option maxRecDepth 100000
set_option maxHeartbeats 8000000
namespace K5
open PySem PySem.Spec PyProof.Rows L2 He HX DX
section
variable {w : World} {K : PySem.W.Frag} {mg : Str → Option Value} {base : Heap}
def spDraft (K : PySem.W.Frag) : Sp := fun vs H Q _ => ∃ (b a : Addr), vs = [.ref b, .ref a] ∧ b ≠ a ∧ Cnt a H ∧ DrS b H ∧ ∀ v d H', (hrG K a).R H H' → Td K H' v d → rightD d → Q v H'
theorem inR3 {d : PyData} (h : isN (fun r => 0 ≤ r ∧ r < 3) d) : inR 0 2 d = true := by
  obtain ⟨i, rfl, h1, h2⟩ := h
  show (decide (0 ≤ i) && decide (i ≤ 2)) = true
  rw [decide_eq_true h1, decide_eq_true (by omega)]
  rfl
theorem ok_law_draft (T : Tx K mg) : FnOk PP w K mg base CX0 3 (ga K "_law_draft") (fdx K "_law_draft") ["draws", "at"] (spDraft K) := by
  have GT : FnOk PP w K mg base CX0 2 _ _ _ _ := ok_law_take T
  refine (F__law_draft T).ok sc__law_draft (fun vs H Q E h => by obtain ⟨_, _, rfl, _⟩ := h; rfl) (fun cdv A outer s H vs Q E hr h => ?_)
  obtain ⟨b, a, rfl, hba, hc, hd, k⟩ := h
  refine ⟨_, PSs.nox (pss_cons (ps_set (i := 2) sc__law_draft.nd rfl (Or.inl rfl) (pe_tupleOf (by rfl) (n_tuple T) (pe_lc (own := [("end", 3)]) (g := gName 3) (tt := tYes) rfl sc__law_draft.nd (pi_range1 (by rfl) (n_range T) (pa_cons (pe_op op_add pe_int (pe_call GT hr rfl (g__law_take T) (F__law_take T).kp (bd__law_take T) .nil pass0 (pa_cons (pv 0) (pa_cons (pv 1) (pa_cons pe_int pa_nil))))) pa_nil)) (blkOk_by (N := ["draws", "at", "threading", "end", "tieup", "shaft", "treadle", "treadling", "pick"]) (sc := defScope st__law_draft) (by decide +kernel))
        (fun _ _ _ _ _ => pg_name (i := 3) sc__law_draft.nd rfl (Or.inl rfl)) (fun _ _ _ _ _ => pts_nil)
        (fun _ _ _ _ _ => pe_call GT hr rfl (g__law_take T) (F__law_take T).kp (bd__law_take T) .nil pass0 (pa_cons (pv 0) (pa_cons (pv 1) (pa_cons pe_int pa_nil)))))))
    (pss_cons (ps_set (i := 4) sc__law_draft.nd rfl (Or.inr rfl) (pe_tupleOf (by rfl) (n_tuple T) (pe_lc (own := [("treadle", 6)]) (g := gName 6) (tt := tYes) (te := tThen (tLc (iRng1 (tCons (tC (.int 3)) tNil)) (gName 5) (tTest _) _ [5]) (kTup K)) rfl sc__law_draft.nd (pi_range1 (by rfl) (n_range T) (pa_cons (pe_op op_add pe_int (pe_call GT hr rfl (g__law_take T) (F__law_take T).kp (bd__law_take T) .nil pass0 (pa_cons (pv 0) (pa_cons (pv 1) (pa_cons pe_int pa_nil))))) pa_nil)) (blkOk_by (N := ["draws", "at", "threading", "end", "tieup", "shaft", "treadle", "treadling", "pick"]) (sc := defScope st__law_draft) (by decide +kernel))
        (fun _ _ _ _ _ => pg_name (i := 6) sc__law_draft.nd rfl (Or.inl rfl)) (fun _ _ _ _ _ => pts_nil)
        (fun _ _ _ _ _ => (pe_tupleOf (by rfl) (n_tuple T) (pe_lc (own := [("shaft", 5)]) (g := gName 5) (wi := iRng1 (tCons (tC (.int 3)) tNil)) rfl sc__law_draft.nd (pi_range1 (by rfl) (n_range T) (pa_cons pe_int pa_nil)) (blkIn (N := ["draws", "at", "threading", "end", "tieup", "shaft", "treadle", "treadling", "pick"]) (sc := defScope st__law_draft) rfl (fun e he => by simp only [compEnvC, relabel, Env.kindOf, he]; decide +kernel))
          (fun _ _ _ _ _ => pg_name (i := 5) sc__law_draft.nd rfl (Or.inl rfl)) (fun _ _ _ _ _ => pts_one (pt_cmpR op_eq (pe_call GT hr rfl (g__law_take T) (F__law_take T).kp (bd__law_take T) .nil pass0 (pa_cons (pv 0) (pa_cons (pv 1) (pa_cons pe_int pa_nil)))) pe_int (nomark _)))
          (fun _ _ _ _ _ => pv 5)))))))
    (pss_cons (ps_set (i := 7) sc__law_draft.nd rfl (Or.inl rfl) (pe_tupleOf (by rfl) (n_tuple T) (pe_lc (own := [("pick", 8)]) (g := gName 8) (tt := tYes) rfl sc__law_draft.nd (pi_range1 (by rfl) (n_range T) (pa_cons (pe_op op_add pe_int (pe_call GT hr rfl (g__law_take T) (F__law_take T).kp (bd__law_take T) .nil pass0 (pa_cons (pv 0) (pa_cons (pv 1) (pa_cons pe_int pa_nil))))) pa_nil)) (blkOk_by (N := ["draws", "at", "threading", "end", "tieup", "shaft", "treadle", "treadling", "pick"]) (sc := defScope st__law_draft) (by decide +kernel))
        (fun _ _ _ _ _ => pg_name (i := 8) sc__law_draft.nd rfl (Or.inl rfl)) (fun _ _ _ _ _ => pts_nil)
        (fun _ _ _ _ _ => pe_tup (pa_cons (pe_call GT hr rfl (g__law_take T) (F__law_take T).kp (bd__law_take T) .nil pass0 (pa_cons (pv 0) (pa_cons (pv 1) (pa_cons (pe_callB (r := rLen2 K) call_len_seq (by rfl) (n_len T) Boot.«len» (pa_cons (pv 4) pa_nil)) pa_nil)))) pa_nil)))))
    (pss_one (ps_ret (pe_tup (pa_cons (pv 2) (pa_cons (pv 4) (pa_cons (pv 7) pa_nil))))))))), ?_⟩
  have take : ∀ {m : Int} {tm : TE} {σ : L2.St} {H1 : Hp} {E : XK}, (hrG K a).R H H1 → σ[0]? = some (some (.ref b)) → σ[1]? = some (some (.ref a)) → EvD (hrG K a) tm σ H1 (.int m) → 1 ≤ m → EvP (hrG K a) (tCall (spTake K) [] E (tCons (tVar 0) (tCons (tVar 1) (tCons tm tNil)))) σ H1 (isN fun r => 0 ≤ r ∧ r < m) := fun R h1 h2 hm h => ep_take hba (hd.mono hba R) h1 h2 hm h
  have R0 := (hrG K a).refl hc
  refine q_setP (ρ := hrG K a) hc (ep_tupL (elp_lcR (N := fun n => 1 ≤ n ∧ n ≤ 6) (P := fun d => inR 0 2 d = true) (ep_nat (ep_ari (P3 := fun i => 1 ≤ i ∧ i < 7) ed_int.n (take R0 rfl rfl ed_int (by decide)) (fun i j hi hj => by omega)) (fun i hi => by omega)) (fun _ => rfl)
    (fun j i _ _ H1 e => (take e rfl rfl ed_int (by decide)).imp fun d p => inR3 p))) (fun v1 d1 H1 R1 t1 q1 => ?_)
  obtain ⟨th, rfl, ⟨l1, l2⟩, b1⟩ := q1
  refine q_setP (ρ := hrG K a) R1.2.1 (ep_tupL (elp_lcR (N := fun n => 1 ≤ n ∧ n ≤ 3) (P := fun t => ∃ ds, t = .tuple ds ∧ ds.Sublist [.int 0, .int 1, .int 2]) (ep_nat (ep_ari (P3 := fun i => 1 ≤ i ∧ i < 4) ed_int.n (take R1 rfl rfl ed_int (by decide)) (fun i j hi hj => by omega)) (fun i hi => by omega)) (fun _ => rfl)
    (fun j i _ _ H2 e => ep_tupL (elp_lcRs (n := 3) ed_int ⟨by decide, by decide⟩ (fun _ => rfl) (fun i2 _ H3 e3 => eb2_eqI (take ((hrG K a).trans R1 ((hrG K a).trans e e3)) rfl rfl ed_int (by decide)) ed_int.n) (fun i2 _ H3 e3 => ed_var rfl (.int (i2 : Int))))))) (fun v2 d2 H2 R12 t2 q2 => ?_)
  obtain ⟨ti, rfl, ⟨l3, l4⟩, b2⟩ := q2
  have R2 := (hrG K a).trans R1 R12
  refine q_setP (ρ := hrG K a) R2.2.1 (ep_tupL (elp_lcR (N := fun n => 1 ≤ n ∧ n ≤ 6) (P := fun t => ∃ j : Int, t = .tuple [.int j] ∧ 0 ≤ j ∧ j < (ti.length : Int)) (ep_nat (ep_ari (P3 := fun i => 1 ≤ i ∧ i < 7) ed_int.n (take R2 rfl rfl ed_int (by decide)) (fun i j hi hj => by omega)) (fun i hi => by omega)) (fun _ => rfl)
    (fun j i _ _ H3 e => (ep_tup1 (take ((hrG K a).trans R2 e) rfl rfl (ed_len (ed_var rfl (Td.mono (hrG K a) e _ t2))) (by omega))).imp fun d ⟨x, ed, j, ex, h0, h1⟩ => ⟨j, by rw [ed, ex], h0, h1⟩))) (fun v3 d3 H3 R23 t3 q3 => ?_)
  obtain ⟨tr, rfl, ⟨l5, l6⟩, b3⟩ := q3
  have R3 := (hrG K a).trans R2 R23
  exact ret_d (ρ := hrG K a) R3.2.1 (ed_tup (es_cons (ed_var rfl (Td.mono (hrG K a) ((hrG K a).trans R12 R23) _ t1)) (es_cons (ed_var rfl (Td.mono (hrG K a) R23 _ t2)) (es_cons (ed_var rfl t3) es_nil))) (by simp)) (fun v H4 R34 t => k v _ H4 ((hrG K a).trans R3 R34) t ⟨th, ti, tr, rfl, l1, l2, b1, l3, l4, b2, l5, l6, b3⟩)
/-- xs.append(e) -/
theorem s_appD {l : Addr} {xs : List V} {i : Nat} {d : PyData} {te : TE} {σ : L2.St} {H : Hp} {D : Ends} (hl : H l = some (.lst xs)) (hv : σ[i]? = some (some (.ref l))) (h : EvD (hrE K) te σ H d) (hz : xs.length < 100000) (k : ∀ v H1, Evl.Ex H H1 → Td K H1 v d → D.nx σ (upd H1 l (.lst (xs ++ [v])))) :
    tDrop (tBM K "list" rAppend (tVar i) (tCons te tNil)) D σ H := ⟨.ref l, hv, Or.inl ⟨rfl, xs, Evl.sq_of hl⟩, h H (Evl.Ex.refl H) _ fun v H1 e t => ⟨l, xs, v, rfl, rfl, e _ _ hl, Evl.sz_lt hz, k v H1 e t⟩⟩
def spDraws (K : PySem.W.Frag) : Sp := fun vs H Q _ => ∃ (s : Addr) (is : List Int), vs = [.ref s] ∧ is.length ≤ 63 ∧ SqL K H s (is.map V.int) ∧ ∀ (b : Addr) (ns : List Int) (H' : Hp), Evl.Ex H H' → H b = none → H' b = some (.lst (ns.map V.int)) → ns.length ≤ 5000 → Q (.ref b) H'
theorem cut_int {is : List Int} {lo hi : Option Int} {i : Nat} {x : V} (h : (cutV (is.map V.int) lo hi)[i]? = some x) : ∃ n : Int, x = .int n := by
  have hm := List.mem_of_getElem? h
  unfold cutV at hm
  obtain ⟨n, _, e⟩ := List.mem_map.mp (List.mem_of_mem_drop (List.mem_of_mem_take hm))
  exact ⟨n, e.symm⟩
theorem cut_le (xs : List V) (lo hi : Option Int) : (cutV xs lo hi).length ≤ xs.length := by
  unfold cutV
  rw [List.length_take, List.length_drop]
  omega
theorem ok_law_draws (T : Tx K mg) : FnOk PP w K mg base CX0 1 (ga K "_law_draws") (fdx K "_law_draws") ["script"] (spDraws K) := by
  refine (F__law_draws T).ok sc__law_draws (fun vs H Q E h => by obtain ⟨_, _, rfl, _⟩ := h; rfl) (fun cdv A outer s H vs Q E hr h => ?_)
  obtain ⟨s, is, rfl, his, hs, k⟩ := h
  refine ⟨_, PSs.nox (pss_cons (ps_set (i := 1) sc__law_draws.nd rfl (Or.inl rfl) (pe_lst pa_nil))
    (pss_cons (ps_for PassesOwn.never rfl (pi_list (pe_slice sl_list (pv 0) po_none (po_some pe_int))) (pg_name (i := 2) sc__law_draws.nd rfl (Or.inl rfl))
      (pss_cons (ps_set (i := 3) sc__law_draws.nd rfl (Or.inl rfl) (pe_callB call_abs (by rfl) (n_abs T) Boot.«abs» (pa_cons (pv 2) pa_nil)))
      (pss_one (ps_if (pt_cmpR op_ge (pv 3) (pe_op op_pow pe_int pe_int) (nomark _))
        (pss_one (ps_for PassesOwn.never rfl (pi_range1 (by rfl) (n_range T) (pa_cons pe_int pa_nil)) (pg_name (i := 4) sc__law_draws.nd rfl (Or.inl rfl))
          (pss_one (ps_if (pt_cmpR op_gt (pv 3) pe_int (nomark _))
            (pss_cons (ps_expr (pe_bm PySem.F.plainAttrs_list PySem.F.slot_list_append PySem.F.type_list_append mt_append (pv 1) (pa_cons (pe_op op_modN (pe_callTy call_int1 (by rfl) (n_int T) Boot.«int» (pa_cons (pv 3) pa_nil)) pe_int) pa_nil)))
            (pss_one (ps_set (i := 3) sc__law_draws.nd rfl (Or.inl rfl) (pe_op op_fdiv (pv 3) pe_int)))) pss_nil))))
        (pss_cons (ps_set (i := 5) sc__law_draws.nd rfl (Or.inl rfl) (pe_op op_modN (pe_callTy call_int1 (by rfl) (n_int T) Boot.«int» (pa_cons (pe_op op_add (pe_op op_mul (pv 3) pe_int) pe_int) pa_nil)) pe_int))
        (pss_one (ps_for PassesOwn.never rfl (pi_range1 (by rfl) (n_range T) (pa_cons pe_int pa_nil)) (pg_name (i := 4) sc__law_draws.nd rfl (Or.inl rfl))
          (pss_cons (ps_set (i := 5) sc__law_draws.nd rfl (Or.inl rfl) (pe_op op_modN (pe_callTy call_int1 (by rfl) (n_int T) Boot.«int» (pa_cons (pe_op op_add (pe_op op_add (pe_op op_mul (pv 5) pe_int) (pe_op op_mul pe_int (pv 4))) pe_int) pa_nil)) pe_int))
          (pss_one (ps_expr (pe_bm PySem.F.plainAttrs_list PySem.F.slot_list_append PySem.F.type_list_append mt_append (pv 1) (pa_cons (pe_op op_fdiv (pv 5) pe_int) pa_nil))))))))))))
    (pss_one (ps_ret (pv 1))))), ?_⟩
  refine q_setL (ρ := hrE K) trivial (el_lst es_nil (by simp)) (fun pD xs H1 hD0 e1 hD tD => ?_)
  cases tD
  refine ⟨.ref s, rfl, 63, rfl, s, is.map V.int, rfl, Evl.ex_l e1 hs, fun pS hS0 => ?_⟩
  have nDS : pD ≠ pS := fun z => by rw [z, hS0] at hD; cases hD
  have eS := Evl.Ex.new (o := .lst (cutV (is.map V.int) none (some 63))) hS0
  have hx63 : (cutV (is.map V.int) none (some 63)).length ≤ 63 := Nat.le_trans (cut_le _ _ _) (by rw [List.length_map]; exact his)
  have cI : ∀ {i : Nat} {x : V}, (cutV (is.map V.int) none (some 63))[i]? = some x → ∃ n : Int, x = .int n := fun h => cut_int h
  refine ⟨pS, rfl, ⟨_, Evl.sq_of upd_same⟩, for_list (xs := cutV (is.map V.int) none (some 63)) (fun i σ H' => Evl.Ex H H' ∧ ∃ (ns : List Int) (o2 o3 o4 o5 : Option V),
    σ = [some (.ref s), some (.ref pD), o2, o3, o4, o5] ∧ H' pD = some (.lst (ns.map V.int)) ∧ ns.length ≤ 60 * i ∧ H' pS = some (.lst (cutV (is.map V.int) none (some 63)))) ⟨Evl.Ex.trans e1 eS, [], none, none, none, none, rfl, eS _ _ hD, Nat.zero_le _, upd_same⟩ (fun i σ H' _ ⟨_, _, _, _, _, _, _, _, _, h⟩ => Evl.sq_of h) ?_ ?_⟩
  · generalize cutV (is.map V.int) none (some 63) = xs at *
    rintro i x σ H3 hx ⟨e3, ns, o2, o3, o4, o5, rfl, hD3, hl, hS3⟩
    obtain ⟨n, rfl⟩ := cI hx
    have hi : i < xs.length := (List.getElem?_eq_some_iff.mp hx).1
    have app : ∀ {ns : List Int} {q : Int} {H' : Hp}, upd H' pD (.lst (ns.map V.int ++ [V.int q])) pD = some (.lst ((ns ++ [q]).map V.int)) := fun {ns q H'} => by
      rw [upd_same, List.map_append]
      rfl
    refine q_set (ρ := hrE K) trivial (ed_abs (ed_var rfl (.int n))) (fun v H4 e4 t => ?_)
    cases t
    generalize (if n < 0 then -n else n) = r
    have small : ∀ {i j : Int}, -(2 ^ 64) < j ∧ j < 2 ^ 64 → CMul i j := fun h => .inr h
    have small' : ∀ {i j : Int}, -(2 ^ 64) < i ∧ i < 2 ^ 64 → CMul i j := fun h => .inl h
    refine if_d (ρ := hrE K) trivial (eb_test (ed_cmp (ed_var rfl (.int r)) (ed_ariC ed_int ed_int ⟨by decide, by decide, by decide⟩))) (fun z H5 e5 => ?_) (fun z H5 e5 => ?_)
    · have e35 := Evl.Ex.trans e4 e5
      refine ⟨60, rfl, by decide, by decide, for_range (n := 60) (fun j σ H' => Evl.Ex H H' ∧ ∃ (ns : List Int) (r : Int) (o4 o5 : Option V),
        σ = [some (.ref s), some (.ref pD), some (.int n), some (.int r), o4, o5] ∧ H' pD = some (.lst (ns.map V.int)) ∧ ns.length ≤ 60 * i + j ∧ H' pS = some (.lst xs)) ⟨Evl.Ex.trans e3 e35, ns, r, _, _, rfl, e35 _ _ hD3, hl, e35 _ _ hS3⟩ ?_ ?_⟩
      · rintro j σ H6 hj ⟨e6, ns, r, o4, o5, rfl, hD6, hl6, hS6⟩
        refine if_dN (ρ := hrE K) trivial (eb_test (ed_cmp (ed_var rfl (.int r)) ed_int)) (fun _ H7 e7 => ?_) (fun _ H7 e7 => ?_)
        · refine s_appD (e7 _ _ hD6) rfl (ed_ariC (ed_int1 (ed_var rfl (.int r))) ed_int (by decide)) (by rw [List.length_map]; omega) (fun v H8 e8 t => ?_)
          cases t
          refine s_set (ρ := hrE K) trivial (ed_ariC (ed_var rfl (.int r)) ed_int ⟨by decide, by decide⟩) (fun v H9 e9 t => ?_)
          cases t
          exact ⟨Evl.Ex.trans (Evl.Ex.mut (Evl.Ex.trans e6 (Evl.Ex.trans e7 e8)) hD0) e9, _, _, _, _, rfl, e9 _ _ app, by rw [List.length_append]; simp; omega, e9 _ _ (by rw [upd_ne (Ne.symm nDS)]; exact e8 _ _ (e7 _ _ hS6))⟩
        · exact ⟨Evl.Ex.trans e6 e7, ns, r, _, _, rfl, e7 _ _ hD6, by omega, e7 _ _ hS6⟩
      · rintro σ H6 ⟨e6, ns, r, o4, o5, rfl, hD6, hl6, hS6⟩
        exact ⟨e6, ns, _, _, _, _, rfl, hD6, by omega, hS6⟩
    · refine q_set (ρ := hrE K) trivial (ed_ariC (ed_int1 (ed_ari (ed_ariC (ed_var rfl (.int r)) ed_int (small (by decide))) ed_int)) ed_int (by decide)) (fun v H6 e6 t => ?_)
      cases t
      have e35 := Evl.Ex.trans e4 (Evl.Ex.trans e5 e6)
      refine ⟨12, rfl, by decide, by decide, for_range (n := 12) (fun j σ H' => Evl.Ex H H' ∧ ∃ (ns : List Int) (q : Int) (o4 : Option V),
        σ = [some (.ref s), some (.ref pD), some (.int n), some (.int r), o4, some (.int q)] ∧ H' pD = some (.lst (ns.map V.int)) ∧ ns.length ≤ 60 * i + j ∧ H' pS = some (.lst xs)) ⟨Evl.Ex.trans e3 e35, ns, _, _, rfl, e35 _ _ hD3, hl, e35 _ _ hS3⟩ ?_ ?_⟩
      · rintro j σ H7 hj ⟨e7, ns, q, o4, rfl, hD7, hl7, hS7⟩
        rw [show (0 : Int) + (j : Int) = (j : Int) by omega]
        refine q_set (ρ := hrE K) trivial (ed_ariC (ed_int1 (ed_ari (ed_ari (ed_ariC (ed_var rfl (.int q)) ed_int (small (by decide))) (ed_ariC ed_int (ed_var rfl (.int (j : Int))) (small' (by decide)))) ed_int)) ed_int (by decide)) (fun v H8 e8 t => ?_)
        cases t
        refine s_appD (e8 _ _ hD7) rfl (ed_ariC (ed_var rfl (.int _)) ed_int ⟨by decide, by decide⟩) (by rw [List.length_map]; omega) (fun v H9 e9 t => ?_)
        cases t
        exact ⟨Evl.Ex.mut (Evl.Ex.trans e7 (Evl.Ex.trans e8 e9)) hD0, _, _, _, rfl, app, by rw [List.length_append]; simp; omega, by rw [upd_ne (Ne.symm nDS)]; exact e9 _ _ (e8 _ _ hS7)⟩
      · rintro σ H7 ⟨e7, ns, q, o4, rfl, hD7, hl7, hS7⟩
        exact ⟨e7, ns, _, _, _, _, rfl, hD7, by omega, hS7⟩
  · rintro σ H3 ⟨e3, ns, o2, o3, o4, o5, rfl, hD3, hl, hS3⟩
    exact ⟨.ref pD, rfl, k pD ns H3 e3 hD0 hD3 (by omega)⟩
end
end K5

set_option Elab.async false
set_option linter.all false
set_option maxRecDepth 100000
set_option maxHeartbeats 8000000
namespace K5
open PySem PySem.Spec PyProof.Rows L2 He HX DX
section
variable {w : World} {K : PySem.W.Frag} {mg : Str → Option Value} {base : Heap}
theorem ed_init {te : TE} {σ : L2.St} {H : Hp} {ds : List PyData} (h : EvD (hrE K) te σ H (.tuple ds)) : EvD (hrE K) (tSl (rSlA K) te tNoPart (tPart (tUn (rU fun i => .int (-i)) (tC (.int 1))))) σ H (.tuple ds.dropLast) := (ed_sl h eo_none (eo_some (ed_neg ed_int))).is (by rw [cut_init])
theorem ed_tail {te : TE} {σ : L2.St} {H : Hp} {ds : List PyData} (h : EvD (hrE K) te σ H (.tuple ds)) : EvD (hrE K) (tSl (rSlA K) te (tPart (tC (.int 1))) tNoPart) σ H (.tuple (ds.drop 1)) := (ed_sl h (eo_some ed_int) eo_none).is (by rw [cut_tail])
theorem ed_two {te : TE} {σ : L2.St} {H : Hp} {x y z : PyData} (h : EvD (hrE K) te σ H (.tuple [x, y, z])) : EvD (hrE K) (tSl (rSlA K) te tNoPart (tPart (tC (.int 2)))) σ H (.tuple [x, y]) := (ed_sl h eo_none (eo_some ed_int)).is rfl
theorem at_last {l : List PyData} {x : PyData} : atI (l ++ [x]) (-1) = some x := by
  unfold atI ixN
  rw [if_neg (by decide), if_pos (by simp; omega)]
  show (l ++ [x])[((-1 : Int) + ((l ++ [x]).length : Int)).toNat]? = _
  rw [show ((-1 : Int) + ((l ++ [x]).length : Int)).toNat = l.length by simp; omega]
  simp
/-- a wrong value of a kind, and the reason -/
def spWrong (K : PySem.W.Frag) (right : PyData → Prop) (ck : PyData → Option Str) : Sp := fun vs H Q _ => ∃ (v : V) (n : Int) (d : PyData), vs = [v, .int n] ∧ Td K H v d ∧ right d ∧ ∀ v' d' H', Evl.Ex H H' → Td K H' v' d' → WP ck d' → Q v' H'
theorem ok_law_wrong_cloth (T : Tx K mg) : FnOk PP w K mg base CX0 1 (ga K "_law_wrong_cloth") (fdx K "_law_wrong_cloth") ["cloth", "pick"] (spWrong K rightC ckC) := by
  refine (F__law_wrong_cloth T).ok sc__law_wrong_cloth (fun vs H Q E h => by obtain ⟨_, _, _, rfl, _⟩ := h; rfl) (fun cdv A outer s H vs Q E hr h => ?_)
  obtain ⟨v, n, d, rfl, td, ⟨p, e, p1, p2, e1, e2, rows, rfl, hl, hr⟩, k⟩ := h
  refine ⟨_, PSs.nox (pss_cons (ps_set (i := 2) sc__law_wrong_cloth.nd rfl (Or.inl rfl) (pe_ix (r := rIxT K) ix_tup (pv 0) pe_int (fun _ _ => rfl)))
    (pss_cons (ps_set (i := 3) sc__law_wrong_cloth.nd rfl (Or.inl rfl) (pe_lst (pa_cons (pe_tup (pa_cons pe_non (pa_cons pe_str pa_nil))) (pa_cons (pe_tup (pa_cons pe_int (pa_cons pe_str pa_nil))) (pa_cons (pe_tup (pa_cons pe_str (pa_cons pe_str pa_nil))) (pa_cons (pe_tup (pa_cons (pe_op op_catA (pv 0) (pe_tup (pa_cons pe_int pa_nil))) (pa_cons pe_str pa_nil))) (pa_cons (pe_tup (pa_cons (pe_tup (pa_cons (pv 2) (pa_cons pe_non pa_nil))) (pa_cons pe_str pa_nil))) (pa_cons (pe_tup (pa_cons (pe_tup (pa_cons pe_str (pa_cons (pv 2) pa_nil))) (pa_cons pe_str pa_nil))) pa_nil))))))))
    (pss_cons (ps_set (i := 3) sc__law_wrong_cloth.nd rfl (Or.inl rfl) (pe_op op_cat (pv 3) (pe_lst (pa_cons (pe_tup (pa_cons (pe_tup pa_nil) (pa_cons pe_str pa_nil))) (pa_cons (pe_tup (pa_cons (pe_op op_repT (pv 0) pe_int) (pa_cons pe_str pa_nil))) (pa_cons (pe_tup (pa_cons (pe_op op_repT (pe_tup (pa_cons (pv 2) pa_nil)) pe_int) (pa_cons pe_str pa_nil))) (pa_cons (pe_tup (pa_cons (pe_tup (pa_cons (pe_tup pa_nil) pa_nil)) (pa_cons pe_str pa_nil))) (pa_cons (pe_tup (pa_cons (pe_tup (pa_cons (pe_op op_repT (pe_tup (pa_cons pe_int pa_nil)) pe_int) pa_nil)) (pa_cons pe_str pa_nil))) (pa_cons (pe_tup (pa_cons (pe_tup (pa_cons (pe_tup pa_nil) (pa_cons (pv 2) pa_nil))) (pa_cons pe_str pa_nil))) pa_nil)))))))))
    (pss_cons (ps_set (i := 3) sc__law_wrong_cloth.nd rfl (Or.inl rfl) (pe_op op_cat (pv 3) (pe_lst (pa_cons (pe_tup (pa_cons (pe_op op_catA (pv 0) (pe_tup (pa_cons (pe_op op_catA (pv 2) (pe_tup (pa_cons pe_int pa_nil))) pa_nil))) (pa_cons (pe_ifExp (pt_cmpR op_lt (pe_callB (r := rLen2 K) call_len_seq (by rfl) (n_len T) Boot.«len» (pa_cons (pv 0) pa_nil)) pe_int (nomark _)) pe_str pe_str) pa_nil))) (pa_cons (pe_tup (pa_cons (pe_tup (pa_cons (pv 2) (pa_cons (pe_slice sl_tupA (pv 2) (po_some pe_int) po_none) pa_nil))) (pa_cons pe_str pa_nil))) (pa_cons (pe_tup (pa_cons (pe_tup (pa_cons (pe_tup pa_nil) (pa_cons (pe_tup pa_nil) pa_nil))) (pa_cons pe_str pa_nil))) pa_nil))))))
    (pss_cons (ps_set (i := 4) sc__law_wrong_cloth.nd rfl (Or.inl rfl) (pe_ix (r := rIxL K) ix_list (pe_lst (pa_cons pe_int (pa_cons (pe_un un_neg pe_int) (pa_cons pe_bl (pa_cons pe_bl (pa_cons pe_non (pa_cons pe_str (pa_cons (pe_tup (pa_cons pe_int pa_nil)) pa_nil)))))))) (pe_op op_modN (pe_callTy call_int1 (by rfl) (n_int T) Boot.«int» (pa_cons (pe_op op_fdiv (pv 1) pe_int) pa_nil)) pe_int) (fun _ _ => rfl)))
    (pss_cons (ps_set (i := 3) sc__law_wrong_cloth.nd rfl (Or.inl rfl) (pe_op op_cat (pv 3) (pe_lst (pa_cons (pe_tup (pa_cons (pe_op op_catA (pe_slice sl_tupA (pv 0) po_none (po_some (pe_un un_neg pe_int))) (pe_tup (pa_cons (pe_op op_catA (pe_slice sl_tupA (pe_ix (r := rIxT K) ix_tup (pv 0) (pe_un un_neg pe_int) (fun _ _ => rfl)) po_none (po_some (pe_un un_neg pe_int))) (pe_tup (pa_cons (pv 4) pa_nil))) pa_nil))) (pa_cons pe_str pa_nil))) (pa_cons (pe_tup (pa_cons (pe_op op_catA (pe_tup (pa_cons (pe_op op_catA (pe_tup (pa_cons (pv 4) pa_nil)) (pe_slice sl_tupA (pv 2) (po_some pe_int) po_none)) pa_nil)) (pe_slice sl_tupA (pv 0) (po_some pe_int) po_none)) (pa_cons pe_str pa_nil))) (pa_cons (pe_tup (pa_cons (pe_tup (pa_cons (pe_tup (pa_cons pe_int (pa_cons (pv 4) (pa_cons pe_int pa_nil)))) pa_nil)) (pa_cons pe_str pa_nil))) pa_nil))))))
    (pss_one (ps_ret (pe_ix (r := rIxL K) ix_list (pv 3) (pe_op op_modN (pe_callTy call_int1 (by rfl) (n_int T) Boot.«int» (pa_cons (pv 1) pa_nil)) (pe_callB (r := rLen2 K) call_len_seq (by rfl) (n_len T) Boot.«len» (pa_cons (pv 3) pa_nil))) (fun _ _ => rfl)))))))))), ?_⟩
  have hne : rows ≠ [] := fun z => by rw [z] at hl; simp at hl; omega
  obtain ⟨f, l0, er, hf⟩ : ∃ f l0, rows = .tuple f :: l0 ∧ bits e (.tuple f) := by
    cases rows with
    | nil => exact absurd rfl hne
    | cons r l =>
      obtain ⟨f, rfl, h1, h2⟩ := hr r List.mem_cons_self
      exact ⟨f, l, rfl, f, rfl, h1, h2⟩
  obtain ⟨g, l1, eg, hg⟩ : ∃ g l1, rows = l1 ++ [.tuple g] ∧ bits e (.tuple g) := by
    have e0 := List.dropLast_concat_getLast hne
    obtain ⟨g, eg, h1, h2⟩ := hr _ (List.getLast_mem hne)
    exact ⟨g, rows.dropLast, by rw [← eg, e0], g, rfl, h1, h2⟩
  have lf : f.length = e := bits_len hf
  have lg : g.length = e := bits_len hg
  have ixLast : atI rows (-1) = some (.tuple g) := by rw [eg]; exact at_last
  have ixFirst : atI rows 0 = some (.tuple f) := by rw [er]; exact atI_zero
  have q0 := w_rows0 hl p2 e2 hr hf
  have q1 := w_rows1 hl p1 p2 e2 hr hf
  have q2 := w_rows2 hl p1 p2 e1 e2 hr hf
  have q3 := fun odd => w_rows3 (odd := odd) hl p1 p2 e1 e2 hr hf hg
  clear eg er
  refine q_set (ρ := hrE K) trivial (ed_ix (ed_var rfl td) ed_int ixFirst) (fun vf H1 E1 tf => ?_)
  have cl : ∀ {H2 : Hp}, Evl.Ex H1 H2 → ∀ {σ : L2.St}, σ[0]? = some (some v) → EvD (hrE K) (tVar 0) σ H2 (.tuple rows) := fun e _ h => ed_var h (Td.mono (hrE K) (Evl.Ex.trans E1 e) _ td)
  have fi : ∀ {H2 : Hp}, Evl.Ex H1 H2 → ∀ {σ : L2.St}, σ[2]? = some (some vf) → EvD (hrE K) (tVar 2) σ H2 (.tuple f) := fun e _ h => ed_var h (Td.mono (hrE K) e _ tf)
  have v_cloth := @cl _ (Evl.Ex.refl H1)
  have v_first := @fi _ (Evl.Ex.refl H1)
  refine q_setL (ρ := hrE K) trivial (el_lst (es_cons (ed_tup (es_cons ed_non (es_cons ed_str es_nil)) (by simp)) (es_cons (ed_tup (es_cons ed_int (es_cons ed_str es_nil)) (by simp)) (es_cons (ed_tup (es_cons ed_str (es_cons ed_str es_nil)) (by simp)) (es_cons (ed_tup (es_cons (ed_cat (v_cloth rfl) (ed_tup (es_cons ed_int es_nil) (by simp)) (by first | omega | (simp <;> omega))) (es_cons ed_str es_nil)) (by simp)) (es_cons (ed_tup (es_cons (ed_tup (es_cons (v_first rfl) (es_cons ed_non es_nil)) (by simp)) (es_cons ed_str es_nil)) (by simp)) (es_cons (ed_tup (es_cons (ed_tup (es_cons ed_str (es_cons (v_first rfl) es_nil)) (by simp)) (es_cons ed_str es_nil)) (by simp)) es_nil)))))) (by simp)) (fun a0 x0 H2 n0 E2 h0 t0 => ?_)
  have v_cloth := @cl _ E2
  have v_first := @fi _ E2
  refine q_setL (ρ := hrE K) trivial (el_cat (ev_var rfl) h0 trivial t0 (el_lst (es_cons (ed_tup (es_cons (ed_tup es_nil (by simp)) (es_cons ed_str es_nil)) (by simp)) (es_cons (ed_tup (es_cons (ed_rep (v_cloth rfl) ed_int (by first | assumption | simp) ⟨by decide, by decide⟩ (by first | omega | (simp <;> omega))) (es_cons ed_str es_nil)) (by simp)) (es_cons (ed_tup (es_cons (ed_rep (ed_tup (es_cons (v_first rfl) es_nil) (by simp)) ed_int (by first | assumption | simp) ⟨by decide, by decide⟩ (by first | omega | (simp <;> omega))) (es_cons ed_str es_nil)) (by simp)) (es_cons (ed_tup (es_cons (ed_tup (es_cons (ed_tup es_nil (by simp)) es_nil) (by simp)) (es_cons ed_str es_nil)) (by simp)) (es_cons (ed_tup (es_cons (ed_tup (es_cons (ed_rep (ed_tup (es_cons ed_int es_nil) (by simp)) ed_int (by first | assumption | simp) ⟨by decide, by decide⟩ (by first | omega | (simp <;> omega))) es_nil) (by simp)) (es_cons ed_str es_nil)) (by simp)) (es_cons (ed_tup (es_cons (ed_tup (es_cons (ed_tup es_nil (by simp)) (es_cons (v_first rfl) es_nil)) (by simp)) (es_cons ed_str es_nil)) (by simp)) es_nil)))))) (by simp)) (by simp)) (fun a1 x1 H3 n1 E3 h1 t1 => ?_)
  clear v_cloth v_first
  have E3 := Evl.Ex.trans E2 E3
  have v_cloth := @cl _ E3
  have v_first := @fi _ E3
  refine q_setL (ρ := hrE K) trivial (el_cat (ev_var rfl) h1 trivial t1 (el_lst (es_cons (ed_tup (es_cons (ed_cat (v_cloth rfl) (ed_tup (es_cons (ed_cat (v_first rfl) (ed_tup (es_cons ed_int es_nil) (by simp)) (by first | omega | (simp <;> omega))) es_nil) (by simp)) (by first | omega | (simp <;> omega))) (es_cons (ed_ifx (d := .str (if (rows.length : Int) < 24 then "ends" else "picks")) (eb_test (ed_cmp (ed_len (v_cloth rfl)) ed_int)) (fun z => by rw [if_pos (of_decide_eq_true z)]; exact ed_str) (fun z => by rw [if_neg (of_decide_eq_false z)]; exact ed_str)) es_nil)) (by simp)) (es_cons (ed_tup (es_cons (ed_tup (es_cons (v_first rfl) (es_cons (ed_tail (v_first rfl)) es_nil)) (by simp)) (es_cons ed_str es_nil)) (by simp)) (es_cons (ed_tup (es_cons (ed_tup (es_cons (ed_tup es_nil (by simp)) (es_cons (ed_tup es_nil (by simp)) es_nil)) (by simp)) (es_cons ed_str es_nil)) (by simp)) es_nil))) (by simp)) (by simp)) (fun a2 x2 H4 n2 E4 h2 t2 => ?_)
  clear v_cloth v_first
  have E4 := Evl.Ex.trans E3 E4
  refine q_setP (ρ := hrE K) trivial (ep_ixN (P := oddB) (el_lst (es_cons ed_int (es_cons (ed_neg ed_int) (es_cons ed_bl (es_cons ed_bl (es_cons ed_non (es_cons ed_str (es_cons (ed_tup (es_cons ed_int es_nil) (by simp)) es_nil))))))) (by simp)) (fun H5 E5 => ep_ariC (P := fun _ => True) (P2 := fun j => j = 7) (ep_int1 ((ed_ariC (ed_var rfl (.int n)) ed_int ⟨by decide, by decide⟩).p ⟨_, rfl, trivial⟩)) ed_int.n (fun i j _ hj => by subst hj; exact ⟨by decide, fmod_lt (by decide)⟩)) w_odds) (fun vo odd H5 E5 to ho => ?_)
  have q3 := q3 odd ho
  have so := ho.2
  have E45 := Evl.Ex.trans E4 E5
  have v_cloth := @cl _ E45
  have v_first := @fi _ E45
  have v_odd : ∀ {σ : L2.St}, σ[4]? = some (some vo) → EvD (hrE K) (tVar 4) σ H5 odd := fun h => ed_var h to
  refine q_setL (ρ := hrE K) trivial (el_cat (ev_var rfl) (E5 _ _ h2) trivial (TdAll.mono (hrE K) E5 _ t2) (el_lst (es_cons (ed_tup (es_cons (ed_cat (ed_init (v_cloth rfl)) (ed_tup (es_cons (ed_cat (ed_init (ed_ix (v_cloth rfl) (ed_neg ed_int) ixLast)) (ed_tup (es_cons (v_odd rfl) es_nil) (by simp)) (by first | omega | (simp <;> omega))) es_nil) (by simp)) (by first | omega | (simp <;> omega))) (es_cons ed_str es_nil)) (by simp)) (es_cons (ed_tup (es_cons (ed_cat (ed_tup (es_cons (ed_cat (ed_tup (es_cons (v_odd rfl) es_nil) (by simp)) (ed_tail (v_first rfl)) (by first | omega | (simp <;> omega))) es_nil) (by simp)) (ed_tail (v_cloth rfl)) (by first | omega | (simp <;> omega))) (es_cons ed_str es_nil)) (by simp)) (es_cons (ed_tup (es_cons (ed_tup (es_cons (ed_tup (es_cons ed_int (es_cons (v_odd rfl) (es_cons ed_int es_nil))) (by simp)) es_nil) (by simp)) (es_cons ed_str es_nil)) (by simp)) es_nil))) (by simp)) (by simp)) (fun a3 x3 H6 n3 E6 h3 t3 => ?_)
  refine ret_p (ρ := hrE K) (P := WP ckC) trivial (ep_ixV (ev_var rfl) h3 trivial t3 (ep_ariC (P := fun _ => True) (P2 := fun j => j = (x3.length : Int)) (ep_int1 ((ed_var rfl (.int n)).p ⟨n, rfl, trivial⟩)) ((ed_lenL (ρ := hrE K) (ev_var rfl) (fun H7 E7 => Evl.sq_of (E7 _ _ h3))).n) (fun i j _ hj => ?_)) (fma (fma (fma q0 q1) q2) q3)) (fun v' d' H7 E7 t7 w7 => k v' d' H7 (Evl.Ex.trans E1 (Evl.Ex.trans E45 (Evl.Ex.trans E6 E7))) t7 w7)
  subst hj
  rw [t3.len]
  exact ⟨by simp, fmod_lt (by simp)⟩

theorem ok_law_wrong_draft (T : Tx K mg) : FnOk PP w K mg base CX0 1 (ga K "_law_wrong_draft") (fdx K "_law_wrong_draft") ["draft", "pick"] (spWrong K rightD ckD) := by
  refine (F__law_wrong_draft T).ok sc__law_wrong_draft (fun vs H Q E h => by obtain ⟨_, _, _, rfl, _⟩ := h; rfl) (fun cdv A outer s H vs Q E hr h => ?_)
  obtain ⟨v, n, d, rfl, td, rd, k⟩ := h
  obtain ⟨th, ti, tr, rfl, P⟩ := rightD_parts rd
  refine ⟨_, PSs.nox (pss_cons (ps_asg (pv 0) (pg_tup (by rfl) (pgs_cons (pg_name (i := 2) sc__law_wrong_draft.nd rfl (Or.inl rfl)) (pgs_cons (pg_name (i := 3) sc__law_wrong_draft.nd rfl (Or.inl rfl)) (pgs_cons (pg_name (i := 4) sc__law_wrong_draft.nd rfl (Or.inl rfl)) pgs_nil)))))
    (pss_cons (ps_set (i := 5) sc__law_wrong_draft.nd rfl (Or.inl rfl) (pe_slice sl_tupA (pv 0) (po_some pe_int) po_none))
    (pss_cons (ps_set (i := 6) sc__law_wrong_draft.nd rfl (Or.inl rfl) (pe_lst (pa_cons (pe_tup (pa_cons pe_non (pa_cons pe_str pa_nil))) (pa_cons (pe_tup (pa_cons (pe_slice sl_tupA (pv 0) po_none (po_some pe_int)) (pa_cons pe_str pa_nil))) (pa_cons (pe_tup (pa_cons (pe_op op_catA (pv 0) (pe_tup (pa_cons (pe_tup pa_nil) pa_nil))) (pa_cons pe_str pa_nil))) (pa_cons (pe_tup (pa_cons (pe_op op_catA (pe_tup (pa_cons pe_int pa_nil)) (pv 5)) (pa_cons pe_str pa_nil))) (pa_cons (pe_tup (pa_cons (pe_op op_catA (pe_slice sl_tupA (pv 0) po_none (po_some pe_int)) (pe_tup (pa_cons pe_str pa_nil))) (pa_cons pe_str pa_nil))) pa_nil)))))))
    (pss_cons (ps_for PassesOwn.never rfl (pi_list (pe_lst (pa_cons (pe_tup pa_nil) (pa_cons (pe_op op_repT (pe_tup (pa_cons pe_int pa_nil)) pe_int) (pa_cons (pe_op op_catA (pe_slice sl_tupA (pv 2) (po_some pe_int) po_none) (pe_tup (pa_cons pe_int pa_nil))) (pa_cons (pe_op op_catA (pe_slice sl_tupA (pv 2) (po_some pe_int) po_none) (pe_tup (pa_cons (pe_un un_neg pe_int) pa_nil))) (pa_cons (pe_op op_catA (pe_slice sl_tupA (pv 2) (po_some pe_int) po_none) (pe_tup (pa_cons pe_bl pa_nil))) (pa_cons (pe_op op_catA (pe_slice sl_tupA (pv 2) (po_some pe_int) po_none) (pe_tup (pa_cons pe_non pa_nil))) pa_nil)))))))) (pg_name (i := 7) sc__law_wrong_draft.nd rfl (Or.inl rfl))
      (pss_one (ps_expr (pe_bm PySem.F.plainAttrs_list PySem.F.slot_list_append PySem.F.type_list_append mt_append (pv 6) (pa_cons (pe_tup (pa_cons (pe_op op_catA (pe_tup (pa_cons (pv 7) pa_nil)) (pv 5)) (pa_cons pe_str pa_nil))) pa_nil)))))
    (pss_cons (ps_for PassesOwn.never rfl (pi_list (pe_lst (pa_cons (pe_op op_repT (pe_tup (pa_cons (pe_tup (pa_cons pe_int pa_nil)) pa_nil)) pe_int) (pa_cons (pe_op op_catA (pv 3) (pe_tup (pa_cons (pe_tup (pa_cons pe_int (pa_cons pe_int pa_nil))) pa_nil))) (pa_cons (pe_op op_catA (pv 3) (pe_tup (pa_cons (pe_tup (pa_cons pe_int (pa_cons pe_int pa_nil))) pa_nil))) (pa_cons (pe_op op_catA (pv 3) (pe_tup (pa_cons (pe_tup (pa_cons pe_int pa_nil)) pa_nil))) (pa_cons (pe_op op_catA (pv 3) (pe_tup (pa_cons pe_int pa_nil))) (pa_cons (pe_op op_catA (pv 3) (pe_tup (pa_cons (pe_tup (pa_cons pe_bl pa_nil)) pa_nil))) (pa_cons (pe_op op_catA (pv 3) (pe_tup (pa_cons (pe_tup (pa_cons (pe_un un_neg pe_int) (pa_cons pe_int pa_nil))) pa_nil))) pa_nil))))))))) (pg_name (i := 7) sc__law_wrong_draft.nd rfl (Or.inl rfl))
      (pss_one (ps_expr (pe_bm PySem.F.plainAttrs_list PySem.F.slot_list_append PySem.F.type_list_append mt_append (pv 6) (pa_cons (pe_tup (pa_cons (pe_tup (pa_cons (pv 2) (pa_cons (pv 7) (pa_cons (pv 4) pa_nil)))) (pa_cons pe_str pa_nil))) pa_nil)))))
    (pss_cons (ps_set (i := 8) sc__law_wrong_draft.nd rfl (Or.inl rfl) (pe_slice sl_tupA (pv 4) po_none (po_some (pe_un un_neg pe_int))))
    (pss_cons (ps_for PassesOwn.never rfl (pi_list (pe_lst (pa_cons (pe_tup pa_nil) (pa_cons (pe_op op_repT (pe_tup (pa_cons (pe_tup (pa_cons pe_int pa_nil)) pa_nil)) pe_int) (pa_cons (pe_op op_catA (pv 8) (pe_tup (pa_cons (pe_tup (pa_cons (pe_callB (r := rLen2 K) call_len_seq (by rfl) (n_len T) Boot.«len» (pa_cons (pv 3) pa_nil)) pa_nil)) pa_nil))) (pa_cons (pe_op op_catA (pv 8) (pe_tup (pa_cons (pe_tup (pa_cons (pe_un un_neg pe_int) pa_nil)) pa_nil))) (pa_cons (pe_op op_catA (pv 8) (pe_tup (pa_cons (pe_tup (pa_cons pe_bl pa_nil)) pa_nil))) (pa_cons (pe_op op_catA (pv 8) (pe_tup (pa_cons pe_non pa_nil))) (pa_cons (pe_op op_catA (pv 8) (pe_tup (pa_cons (pe_tup (pa_cons pe_int (pa_cons pe_int pa_nil))) pa_nil))) (pa_cons (pe_op op_catA (pv 8) (pe_tup (pa_cons pe_int pa_nil))) pa_nil)))))))))) (pg_name (i := 7) sc__law_wrong_draft.nd rfl (Or.inl rfl))
      (pss_one (ps_expr (pe_bm PySem.F.plainAttrs_list PySem.F.slot_list_append PySem.F.type_list_append mt_append (pv 6) (pa_cons (pe_tup (pa_cons (pe_tup (pa_cons (pv 2) (pa_cons (pv 3) (pa_cons (pv 7) pa_nil)))) (pa_cons pe_str pa_nil))) pa_nil)))))
    (pss_one (ps_ret (pe_ix (r := rIxL K) ix_list (pv 6) (pe_op op_modN (pe_callTy call_int1 (by rfl) (n_int T) Boot.«int» (pa_cons (pv 1) pa_nil)) (pe_callB (r := rLen2 K) call_len_seq (by rfl) (n_len T) Boot.«len» (pa_cons (pv 6) pa_nil))) (fun _ _ => rfl))))))))))), ?_⟩
  obtain ⟨a, v1, v2, v3, rfl, hsq, T1, T2, T3⟩ := td_three td
  refine ⟨.ref a, rfl, a, _, rfl, hsq, rfl, v1, _, rfl, v2, _, rfl, v3, _, rfl, rfl, ?_⟩
  have t1 := P.t2
  have i1 := P.i2
  have r1 := P.r2
  have dr : ∀ {H2 : Hp}, Evl.Ex H H2 → ∀ {σ : L2.St}, σ[0]? = some (some (.ref a)) → EvD (hrE K) (tVar 0) σ H2 (.tuple [.tuple th, .tuple ti, .tuple tr]) := fun e _ h => ed_var h (Td.mono (hrE K) e _ td)
  have k1 : ∀ {H2 : Hp}, Evl.Ex H H2 → ∀ {σ : L2.St}, σ[2]? = some (some v1) → EvD (hrE K) (tVar 2) σ H2 (.tuple th) := fun e _ h => ed_var h (Td.mono (hrE K) e _ T1)
  have k2 : ∀ {H2 : Hp}, Evl.Ex H H2 → ∀ {σ : L2.St}, σ[3]? = some (some v2) → EvD (hrE K) (tVar 3) σ H2 (.tuple ti) := fun e _ h => ed_var h (Td.mono (hrE K) e _ T2)
  have k3 : ∀ {H2 : Hp}, Evl.Ex H H2 → ∀ {σ : L2.St}, σ[4]? = some (some v3) → EvD (hrE K) (tVar 4) σ H2 (.tuple tr) := fun e _ h => ed_var h (Td.mono (hrE K) e _ T3)
  dsimp only [gName]
  have v_draft := @dr _ (Evl.Ex.refl H)
  refine q_set (ρ := hrE K) (d := .tuple [.tuple ti, .tuple tr]) trivial (ed_tail (v_draft rfl)) (fun vr H1 E1 tre => ?_)
  have re : ∀ {H2 : Hp}, Evl.Ex H1 H2 → ∀ {σ : L2.St}, σ[5]? = some (some vr) → EvD (hrE K) (tVar 5) σ H2 (.tuple [.tuple ti, .tuple tr]) := fun e _ h => ed_var h (Td.mono (hrE K) e _ tre)
  clear v_draft
  have v_draft := @dr _ E1
  have v_rest := @re _ (Evl.Ex.refl H1)
  refine q_setL (ρ := hrE K) trivial (el_lst (es_cons (ed_tup (es_cons ed_non (es_cons ed_str es_nil)) (by simp)) (es_cons (ed_tup (es_cons (ed_two (v_draft rfl)) (es_cons ed_str es_nil)) (by simp)) (es_cons (ed_tup (es_cons (ed_cat (v_draft rfl) (ed_tup (es_cons (ed_tup es_nil (by simp)) es_nil) (by simp)) (by first | omega | (simp <;> omega))) (es_cons ed_str es_nil)) (by simp)) (es_cons (ed_tup (es_cons (ed_cat (ed_tup (es_cons ed_int es_nil) (by simp)) (v_rest rfl) (by first | omega | (simp <;> omega))) (es_cons ed_str es_nil)) (by simp)) (es_cons (ed_tup (es_cons (ed_cat (ed_two (v_draft rfl)) (ed_tup (es_cons ed_str es_nil) (by simp)) (by first | omega | (simp <;> omega))) (es_cons ed_str es_nil)) (by simp)) es_nil))))) (by simp)) (fun aR xR H2 nR E2 hR tR => ?_)
  clear v_draft v_rest
  have nR0 := Evl.fresh_back E1 nR
  have E12 := Evl.Ex.trans E1 E2
  have V1 := Td.mono (hrE K) E12 _ T1
  have V2 := Td.mono (hrE K) E12 _ T2
  have V3 := Td.mono (hrE K) E12 _ T3
  have V4 := Td.mono (hrE K) E2 _ tre
  clear T1 T2 T3 tre td hsq dr k1 k2 k3 re
  have v_threading : ∀ {σ : L2.St}, σ[2]? = some (some v1) → EvD (hrE K) (tVar 2) σ H2 (.tuple th) := fun h => ed_var h V1
  refine for_app (H0 := H) (i := 6) (j := 7) (P := oddT) (W := WP ckD) (n := 5) E12 nR0 (fun _ => rfl) ⟨none, rfl⟩ (el_lst (es_cons (ed_tup es_nil (by simp)) (es_cons (ed_rep (ed_tup (es_cons ed_int es_nil) (by simp)) ed_int (by first | assumption | simp) ⟨by decide, by decide⟩ (by first | omega | (simp <;> omega))) (es_cons (ed_cat (ed_tail (v_threading rfl)) (ed_tup (es_cons ed_int es_nil) (by simp)) (by first | omega | (simp <;> omega))) (es_cons (ed_cat (ed_tail (v_threading rfl)) (ed_tup (es_cons (ed_neg ed_int) es_nil) (by simp)) (by first | omega | (simp <;> omega))) (es_cons (ed_cat (ed_tail (v_threading rfl)) (ed_tup (es_cons ed_bl es_nil) (by simp)) (by first | omega | (simp <;> omega))) (es_cons (ed_cat (ed_tail (v_threading rfl)) (ed_tup (es_cons ed_non es_nil) (by simp)) (by first | omega | (simp <;> omega))) es_nil)))))) (by simp)) (w_thr P) ⟨xR, _, hR, tR, tR.len, w_drows P⟩ (by simp) (fun d hd v H9 K9 t => by
      have v_odd : ∀ {σ : L2.St}, σ[7]? = some (some v) → EvD (hrE K) (tVar 7) σ H9 d := fun h => ed_var h t
      have v_rest : ∀ {σ : L2.St}, σ[5]? = some (some vr) → EvD (hrE K) (tVar 5) σ H9 (.tuple [.tuple ti, .tuple tr]) := fun h => ed_var h (Td.monoT K9 _ V4)
      exact ((ed_tup (es_cons (ed_cat (ed_tup (es_cons (v_odd rfl) es_nil) (by simp)) (v_rest rfl) (by first | omega | (simp <;> omega))) (es_cons ed_str es_nil)) (by simp))).p (d_thr P hd)) (fun o0 G0 e0 K0 st0 => ?_)
  clear v_threading
  have V1 := Td.monoT K0 _ V1
  have V2 := Td.monoT K0 _ V2
  have V3 := Td.monoT K0 _ V3
  have V4 := Td.monoT K0 _ V4
  have v_tieup : ∀ {σ : L2.St}, σ[3]? = some (some v2) → EvD (hrE K) (tVar 3) σ G0 (.tuple ti) := fun h => ed_var h V2
  refine for_app (H0 := H) (i := 6) (j := 7) (P := oddI) (W := WP ckD) (n := 11) e0 nR0 (fun _ => rfl) ⟨o0, rfl⟩ (el_lst (es_cons (ed_rep (ed_tup (es_cons (ed_tup (es_cons ed_int es_nil) (by simp)) es_nil) (by simp)) ed_int (by first | assumption | simp) ⟨by decide, by decide⟩ (by first | omega | (simp <;> omega))) (es_cons (ed_cat (v_tieup rfl) (ed_tup (es_cons (ed_tup (es_cons ed_int (es_cons ed_int es_nil)) (by simp)) es_nil) (by simp)) (by first | omega | (simp <;> omega))) (es_cons (ed_cat (v_tieup rfl) (ed_tup (es_cons (ed_tup (es_cons ed_int (es_cons ed_int es_nil)) (by simp)) es_nil) (by simp)) (by first | omega | (simp <;> omega))) (es_cons (ed_cat (v_tieup rfl) (ed_tup (es_cons (ed_tup (es_cons ed_int es_nil) (by simp)) es_nil) (by simp)) (by first | omega | (simp <;> omega))) (es_cons (ed_cat (v_tieup rfl) (ed_tup (es_cons ed_int es_nil) (by simp)) (by first | omega | (simp <;> omega))) (es_cons (ed_cat (v_tieup rfl) (ed_tup (es_cons (ed_tup (es_cons ed_bl es_nil) (by simp)) es_nil) (by simp)) (by first | omega | (simp <;> omega))) (es_cons (ed_cat (v_tieup rfl) (ed_tup (es_cons (ed_tup (es_cons (ed_neg ed_int) (es_cons ed_int es_nil)) (by simp)) es_nil) (by simp)) (by first | omega | (simp <;> omega))) es_nil))))))) (by simp)) (w_tie P) st0 (by simp) (fun d hd v H9 K9 t => by
      have v_odd : ∀ {σ : L2.St}, σ[7]? = some (some v) → EvD (hrE K) (tVar 7) σ H9 d := fun h => ed_var h t
      have v_threading : ∀ {σ : L2.St}, σ[2]? = some (some v1) → EvD (hrE K) (tVar 2) σ H9 (.tuple th) := fun h => ed_var h (Td.monoT K9 _ V1)
      have v_treadling : ∀ {σ : L2.St}, σ[4]? = some (some v3) → EvD (hrE K) (tVar 4) σ H9 (.tuple tr) := fun h => ed_var h (Td.monoT K9 _ V3)
      exact ((ed_tup (es_cons (ed_tup (es_cons (v_threading rfl) (es_cons (v_odd rfl) (es_cons (v_treadling rfl) es_nil))) (by simp)) (es_cons ed_str es_nil)) (by simp))).p (d_tie P hd)) (fun o1 G1 e1 K1 st1 => ?_)
  clear v_tieup
  have V1 := Td.monoT K1 _ V1
  have V2 := Td.monoT K1 _ V2
  have V3 := Td.monoT K1 _ V3
  have V4 := Td.monoT K1 _ V4
  have v_treadling : ∀ {σ : L2.St}, σ[4]? = some (some v3) → EvD (hrE K) (tVar 4) σ G1 (.tuple tr) := fun h => ed_var h V3
  refine q_set (ρ := hrE K) trivial (ed_init (v_treadling rfl)) (fun vl HL EL V5 => ?_)
  clear v_treadling
  have EL0 := Evl.Ex.trans e1 EL
  have V1 := Td.mono (hrE K) EL _ V1
  have V2 := Td.mono (hrE K) EL _ V2
  have V3 := Td.mono (hrE K) EL _ V3
  have V4 := Td.mono (hrE K) EL _ V4
  have st1 := LstW.mono EL st1
  have v_last : ∀ {σ : L2.St}, σ[8]? = some (some vl) → EvD (hrE K) (tVar 8) σ HL (.tuple tr.dropLast) := fun h => ed_var h V5
  have v_tieup : ∀ {σ : L2.St}, σ[3]? = some (some v2) → EvD (hrE K) (tVar 3) σ HL (.tuple ti) := fun h => ed_var h V2
  refine for_app (H0 := H) (i := 6) (j := 7) (P := oddR ti.length) (W := WP ckD) (n := 18) EL0 nR0 (fun _ => rfl) ⟨o1, rfl⟩ (el_lst (es_cons (ed_tup es_nil (by simp)) (es_cons (ed_rep (ed_tup (es_cons (ed_tup (es_cons ed_int es_nil) (by simp)) es_nil) (by simp)) ed_int (by first | assumption | simp) ⟨by decide, by decide⟩ (by first | omega | (simp <;> omega))) (es_cons (ed_cat (v_last rfl) (ed_tup (es_cons (ed_tup (es_cons (ed_len (v_tieup rfl)) es_nil) (by simp)) es_nil) (by simp)) (by first | omega | (simp <;> omega))) (es_cons (ed_cat (v_last rfl) (ed_tup (es_cons (ed_tup (es_cons (ed_neg ed_int) es_nil) (by simp)) es_nil) (by simp)) (by first | omega | (simp <;> omega))) (es_cons (ed_cat (v_last rfl) (ed_tup (es_cons (ed_tup (es_cons ed_bl es_nil) (by simp)) es_nil) (by simp)) (by first | omega | (simp <;> omega))) (es_cons (ed_cat (v_last rfl) (ed_tup (es_cons ed_non es_nil) (by simp)) (by first | omega | (simp <;> omega))) (es_cons (ed_cat (v_last rfl) (ed_tup (es_cons (ed_tup (es_cons ed_int (es_cons ed_int es_nil)) (by simp)) es_nil) (by simp)) (by first | omega | (simp <;> omega))) (es_cons (ed_cat (v_last rfl) (ed_tup (es_cons ed_int es_nil) (by simp)) (by first | omega | (simp <;> omega))) es_nil)))))))) (by simp)) (w_tre P) st1 (by simp) (fun d hd v H9 K9 t => by
      have v_odd : ∀ {σ : L2.St}, σ[7]? = some (some v) → EvD (hrE K) (tVar 7) σ H9 d := fun h => ed_var h t
      have v_threading : ∀ {σ : L2.St}, σ[2]? = some (some v1) → EvD (hrE K) (tVar 2) σ H9 (.tuple th) := fun h => ed_var h (Td.monoT K9 _ V1)
      have v_tieup : ∀ {σ : L2.St}, σ[3]? = some (some v2) → EvD (hrE K) (tVar 3) σ H9 (.tuple ti) := fun h => ed_var h (Td.monoT K9 _ V2)
      exact ((ed_tup (es_cons (ed_tup (es_cons (v_threading rfl) (es_cons (v_tieup rfl) (es_cons (v_odd rfl) es_nil))) (by simp)) (es_cons ed_str es_nil)) (by simp))).p (d_tre P hd)) (fun o2 G2 e2 K2 st2 => ?_)
  clear v_last v_tieup
  have V1 := Td.monoT K2 _ V1
  have V2 := Td.monoT K2 _ V2
  have V3 := Td.monoT K2 _ V3
  have V4 := Td.monoT K2 _ V4
  have V5 := Td.monoT K2 _ V5
  obtain ⟨xs, rs, hx, tx, lx, wx⟩ := st2
  have lx : xs.length = 26 := lx
  have lr : rs.length = 26 := by rw [← tx.len, lx]
  refine ret_p (ρ := hrE K) (P := WP ckD) trivial (ep_ixV (ev_var rfl) hx trivial tx (ep_ariC (P := fun _ => True) (P2 := fun j => j = (xs.length : Int)) (ep_int1 ((ed_var rfl (.int n)).p ⟨n, rfl, trivial⟩)) ((ed_lenL (ρ := hrE K) (ev_var rfl) (fun H7 E7 => Evl.sq_of (E7 _ _ hx))).n) (fun i j _ hj => ?_)) wx) (fun v' d' H7 E7 t7 w7 => k v' d' H7 (Evl.Ex.trans e2 E7) t7 w7)
  subst hj
  rw [lx, lr]
  exact ⟨by decide, fmod_lt (by decide)⟩
end
end K5

set_option Elab.async false
set_option linter.all false
set_option maxRecDepth 100000
set_option maxHeartbeats 8000000
namespace K5
open PySem PySem.Spec PyProof.Rows L2 He HX DX
section
variable {w : World} {K : PySem.W.Frag} {mg : Str → Option Value} {base : Heap}
/-- a comprehension whose test never holds -/
theorem el_lcF {ρ : HR K} {tn te : TE} {tt : TT} {σ : L2.St} {H : Hp} {j : Nat} {vs : List Nat} {n : Int} (h : EvD ρ tn σ H (.int n)) (h0 : 0 ≤ n ∧ n ≤ 1000) (hw : ∀ x, wipe ((wipe σ vs).set j (some x)) vs = wipe σ vs)
    (ht : ∀ i : Nat, (i : Int) < n → ∀ H1, ρ.R H H1 → EvB ρ tt ((wipe σ vs).set j (some (.int (i : Int)))) H1 false) : EvL ρ (tLc (iRng1 (tCons tn tNil)) (gName j) tt te vs) σ H [] := fun H1 a Q q => h H1 a _ fun v H2 e2 td => by
  cases td
  refine ⟨n, rfl, by omega, by omega, fun D hD => ?_⟩
  have okD := ρ.fresh (ρ.g2 e2) hD
  refine lc_range (lo := 0) (n := n.toNat) (fun i H' => ρ.R H2 H' ∧ H' D = some (.lst [])) ⟨ρ.mu (ρ.refl (ρ.g2 e2)) hD, upd_same⟩ ?_ ?_
  · rintro i H' hi ⟨r, hl⟩
    rw [show (0 : Int) + (i : Int) = (i : Int) by omega]
    exact ⟨hw _, ht i (by omega) H' (ρ.trans a (ρ.trans e2 r)) H' (ρ.refl (ρ.g2 r)) _ fun H3 e3 => iteF ⟨ρ.trans r e3, ρ.keep e3 okD hl⟩⟩
  · rintro H' ⟨r, hl⟩
    exact q D [] H' (ρ.back e2 hD) (ρ.trans e2 r) hl .nil
theorem el_lcF2 {ρ : HR K} {tn tm te : TE} {tt : TT} {σ : L2.St} {H : Hp} {j : Nat} {vs : List Nat} {lo n : Int} (h : EvD ρ tn σ H (.int lo)) (h2 : EvD ρ tm σ H (.int n)) (h0 : 0 ≤ lo ∧ lo ≤ n ∧ n ≤ 1000) (hw : ∀ x, wipe ((wipe σ vs).set j (some x)) vs = wipe σ vs)
    (ht : ∀ i : Int, lo ≤ i → i < n → ∀ H1, ρ.R H H1 → EvB ρ tt ((wipe σ vs).set j (some (.int i))) H1 false) : EvL ρ (tLc (iRng2 (tCons tn (tCons tm tNil))) (gName j) tt te vs) σ H [] := fun H1 a Q q => h H1 a _ fun v H2 e2 td => h2 H2 (ρ.trans a e2) _ fun v3 H3 e3 td3 => by
  cases td
  cases td3
  have e23 := ρ.trans e2 e3
  refine ⟨lo, n, rfl, ⟨by omega, by omega, by omega, by omega⟩, fun D hD => ?_⟩
  have okD := ρ.fresh (ρ.g2 e3) hD
  refine lc_range (lo := lo) (n := (n - lo).toNat) (fun i H' => ρ.R H3 H' ∧ H' D = some (.lst [])) ⟨ρ.mu (ρ.refl (ρ.g2 e3)) hD, upd_same⟩ ?_ ?_
  · rintro i H' hi ⟨r, hl⟩
    exact ⟨hw _, ht _ (by omega) (by omega) H' (ρ.trans a (ρ.trans e23 r)) H' (ρ.refl (ρ.g2 r)) _ fun H4 e4 => iteF ⟨ρ.trans r e4, ρ.keep e4 okD hl⟩⟩
  · rintro H' ⟨r, hl⟩
    exact q D [] H' (ρ.back e23 hD) (ρ.trans e23 r) hl .nil
/-- [] != [] -/
theorem eb_neN {ρ : HR K} {ta tb : TE} {σ : L2.St} {H : Hp} (ha : EvL ρ ta σ H []) (hb : EvL ρ tb σ H []) : EvB ρ (tTest (tOp (rNeD K) ta tb)) σ H false := fun H1 a Q q => ha H1 a _ fun p xs H2 hp e2 hx tx => hb H2 (ρ.trans a e2) _ fun p3 xs3 H3 hp3 e3 hx3 tx3 => by
  cases tx
  cases tx3
  have okp := ρ.fresh (ρ.g2 a) hp
  exact ⟨.list [], .list [], .lst (Evl.sq_of (ρ.keep e3 okp hx)) .nil, .lst (Evl.sq_of hx3) .nil, by decide, by decide, false, rfl, q H3 (ρ.trans e2 e3)⟩
/-- data alike are not unlike -/
theorem eb_neS {ρ : HR K} {ta tb : TE} {σ : L2.St} {H : Hp} {d : PyData} (hs : SeqAt.shaped d = true) (ha : EvD ρ ta σ H d) (hb : EvD ρ tb σ H d) : EvB ρ (tTest (tOp (rNeD K) ta tb)) σ H false := fun H1 a Q q => ha H1 a _ fun v H2 e2 t2 => hb H2 (ρ.trans a e2) _ fun v3 H3 e3 t3 =>
  ⟨d, d, Td.dp d (Td.mono ρ e3 d t2), Td.dp d t3, hs, hs, false, by rw [SeqAt.eqv_refl d (SeqAt.canLay_of_shaped hs)]; rfl, q H3 (ρ.trans e2 e3)⟩
theorem eb_neStr {ρ : HR K} {ta tb : TE} {σ : L2.St} {H : Hp} {r : Str} (ha : EvD ρ ta σ H (.str r)) (hb : EvD ρ tb σ H (.str r)) : EvB ρ (tTest (tOp rNe ta tb)) σ H false := fun H1 a Q q => ha H1 a _ fun v H2 e2 t2 => hb H2 (ρ.trans a e2) _ fun v3 H3 e3 t3 => by
  cases t2
  cases t3
  exact ⟨rfl, false, by simp, q H3 (ρ.trans e2 e3)⟩
theorem ckC_str {d : PyData} {r : Str} (h : ckC d = some r) : r = "form" ∨ r = "picks" ∨ r = "ends" ∨ r = "crossing" := by
  cases d with
  | tuple rows =>
    rw [ckC_eq] at h
    split at h
    · exact .inl (Option.some.inj h).symm
    split at h
    · exact .inr (.inl (Option.some.inj h).symm)
    split at h
    · exact .inr (.inr (.inl (Option.some.inj h).symm))
    split at h
    · exact .inr (.inr (.inr (Option.some.inj h).symm))
    · cases h
  | _ => exact .inl (Option.some.inj h).symm
theorem ckD_str {d : PyData} {r : Str} (h : ckD d = some r) : r = "form" ∨ r = "threading" ∨ r = "tieup" ∨ r = "treadling" := by
  unfold ckD at h
  split at h
  · split at h
    · exact .inr (.inl (Option.some.inj h).symm)
    split at h
    · exact .inr (.inr (.inl (Option.some.inj h).symm))
    split at h
    · exact .inr (.inr (.inr (Option.some.inj h).symm))
    split at h
    · exact .inr (.inr (.inr (Option.some.inj h).symm))
    · cases h
  · exact .inl (Option.some.inj h).symm
theorem shC {d : PyData} {r : Str} (h : ckC d = some r) : SeqAt.shaped (.tuple [.str "cloth", .str r]) = true := by
  rcases ckC_str h with rfl | rfl | rfl | rfl <;> decide +kernel
theorem shD {d : PyData} {r : Str} (h : ckD d = some r) : SeqAt.shaped (.tuple [.str "draft", .str r]) = true := by
  rcases ckD_str h with rfl | rfl | rfl | rfl <;> decide +kernel
def spLaw (K : PySem.W.Frag) : Sp := fun vs H Q _ => ∃ (s : Addr) (is : List Int), vs = [.ref s] ∧ is.length ≤ 63 ∧ SqL K H s (is.map V.int) ∧ ∀ H', Q (.bl true) H'
/-- a call of spWrong -/
theorem ep_wrong {a : Addr} {right : PyData → Prop} {ck : PyData → Option Str} {E : XK} {σ : L2.St} {H : Hp} {i : Nat} {v : V} {d : PyData} {tn : TE} {P : Int → Prop} (hv : σ[i]? = some (some v)) (t : Td K H v d) (r : right d) (hn : EvP (hrG K a) tn σ H (isN P)) :
    EvP (hrG K a) (tCall (spWrong K right ck) [] E (tCons (tVar i) (tCons tn tNil))) σ H (WP ck) := fun H1 e Q q => ⟨v, hv, hn H1 e _ fun u du H2 e2 t2 p2 => by
  obtain ⟨n, rfl, _⟩ := p2
  cases t2
  exact ⟨v, n, d, rfl, Td.mono (hrG K a) ((hrG K a).trans e e2) _ t, r, fun v' d' H' e3 t3 w3 => q v' d' H' ((hrG K a).trans e2 (goEx (K := K) e2.2.1 e3)) t3 w3⟩⟩
theorem ed_told {a : Addr} {E : XK} {σ : L2.St} {H : Hp} {i j : Nat} {n : Int} {v : V} {d : PyData} {r wd : Str} (h1 : σ[i]? = some (some (.int n))) (h2 : σ[j]? = some (some v)) (t : Td K H v d) (sm : smallAll d) (c : (n < 48 ∧ ckC d = some r ∧ wd = "cloth") ∨ (48 ≤ n ∧ ckD d = some r ∧ wd = "draft")) :
    EvD (hrG K a) (tCall (spTold K) [] E (tCons (tVar i) (tCons (tVar j) tNil))) σ H (.tuple [.str wd, .str r]) := fun H1 e Q q => ⟨.int n, h1, v, h2, n, v, d, r, wd, rfl, Td.mono (hrG K a) e _ t, sm, c, fun v' H' e2 t2 => q v' H' (goEx (K := K) e.2.1 e2) t2⟩
theorem ed_second {a : Addr} {E : XK} {σ : L2.St} {H : Hp} {i j l : Nat} {n : Int} {v v2 : V} {d d2 : PyData} {r : Str} (h1 : σ[i]? = some (some (.int n))) (h2 : σ[j]? = some (some v)) (h3 : σ[l]? = some (some v2)) (t : Td K H v d) (sm : smallAll d) (c : ckC d = none) (t2 : Td K H v2 d2) (sm2 : smallAll d2) (c2 : ckC d2 = some r) :
    EvD (hrG K a) (tCall (spSecond K) [] E (tCons (tVar i) (tCons (tVar j) (tCons (tVar l) tNil)))) σ H (.str r) := fun H1 e Q q => ⟨.int n, h1, v, h2, v2, h3, n, v, v2, d, d2, r, rfl, Td.mono (hrG K a) e _ t, sm, c, Td.mono (hrG K a) e _ t2, sm2, c2, fun v' H' e2 t3 => q v' H' (goEx (K := K) e.2.1 e2) t3⟩
theorem ok_law (T : Tx K mg) : FnOk PP w K mg base CX0 9 (ga K "law") (fdx K "law") ["script"] (spLaw K) := by
  have GD : FnOk PP w K mg base CX0 1 _ _ _ _ := ok_law_draws T
  have GT : FnOk PP w K mg base CX0 2 _ _ _ _ := ok_law_take T
  have GC : FnOk PP w K mg base CX0 6 _ _ _ _ := ok_law_cloth T
  have GR : FnOk PP w K mg base CX0 3 _ _ _ _ := ok_law_draft T
  have GWC : FnOk PP w K mg base CX0 1 _ _ _ _ := ok_law_wrong_cloth T
  have GWD : FnOk PP w K mg base CX0 1 _ _ _ _ := ok_law_wrong_draft T
  have GO : FnOk PP w K mg base CX0 8 _ _ _ _ := ok_law_told T
  have GS : FnOk PP w K mg base CX0 6 _ _ _ _ := ok_law_second T
  refine (F_law T).ok sc_law (fun vs H Q E h => by obtain ⟨_, _, rfl, _⟩ := h; rfl) (fun cdv A outer s H vs Q E hr h => ?_)
  obtain ⟨s, is, rfl, his, hs, k⟩ := h
  have hr1 : Room 1 _ := hr.mono (by decide)
  have hr2 : Room 2 _ := hr.mono (by decide)
  have hr3 : Room 3 _ := hr.mono (by decide)
  have hr6 : Room 6 _ := hr.mono (by decide)
  refine ⟨_, PSs.nox (pss_cons (ps_set (i := 1) sc_law.nd rfl (Or.inl rfl) (pe_call GD hr1 rfl (g__law_draws T) (F__law_draws T).kp (bd__law_draws T) .nil pass0 (pa_cons (pv 0) pa_nil)))
    (pss_cons (ps_set (i := 2) sc_law.nd rfl (Or.inl rfl) (pe_lst (pa_cons pe_int pa_nil)))
    (pss_cons (ps_set (i := 3) sc_law.nd rfl (Or.inr rfl) (pe_call GC hr6 rfl (g__law_cloth T) (F__law_cloth T).kp (bd__law_cloth T) .nil pass0 (pa_cons (pe_ix (r := rIxL K) ix_list (pe_lst (pa_cons pe_int (pa_cons pe_int pa_nil))) (pe_call GT hr2 rfl (g__law_take T) (F__law_take T).kp (bd__law_take T) .nil pass0 (pa_cons (pv 1) (pa_cons (pv 2) (pa_cons pe_int pa_nil)))) (fun _ _ => rfl)) (pa_cons (pv 1) (pa_cons (pv 2) pa_nil)))))
    (pss_cons (ps_set (i := 4) sc_law.nd rfl (Or.inl rfl) (pe_call GR hr3 rfl (g__law_draft T) (F__law_draft T).kp (bd__law_draft T) .nil pass0 (pa_cons (pv 1) (pa_cons (pv 2) pa_nil))))
    (pss_cons (ps_for PassesOwn.never rfl (pi_range1 (by rfl) (n_range T) (pa_cons pe_int pa_nil)) (pg_name (i := 5) sc_law.nd rfl (Or.inl rfl))
      (pss_cons (ps_asg (pe_call GWC hr1 rfl (g__law_wrong_cloth T) (F__law_wrong_cloth T).kp (bd__law_wrong_cloth T) .nil pass0 (pa_cons (pv 3) (pa_cons (pe_call GT hr2 rfl (g__law_take T) (F__law_take T).kp (bd__law_take T) .nil pass0 (pa_cons (pv 1) (pa_cons (pv 2) (pa_cons pe_int pa_nil)))) pa_nil))) (pg_tup (by rfl) (pgs_cons (pg_name (i := 6) sc_law.nd rfl (Or.inr rfl)) (pgs_cons (pg_name (i := 7) sc_law.nd rfl (Or.inr rfl)) pgs_nil))))
      (pss_cons (ps_if (pt_cmpR (op_neD hr.units) (pe_lc (own := [("which", 8)]) (g := gName 8) (tt := tTest (tOp (rNeD K) (tCall (spTold K) [] _ _) (tTup _))) rfl sc_law.nd (pi_range1 (by rfl) (n_range T) (pa_cons pe_int pa_nil)) (blkOk_by (N := ["script", "draws", "at", "cloth", "draft", "turn", "wrong", "due", "which", "other", "reason", "call"]) (sc := defScope st_law) (by decide +kernel))
          (fun _ _ _ _ _ => pg_name (i := 8) sc_law.nd rfl (Or.inl rfl)) (fun _ _ _ _ _ => pts_one (pt_cmpR (op_neD hr.units) (pe_call GO hr rfl (g__law_told T) (F__law_told T).kp (bd__law_told T) .nil pass0 (pa_cons (pv 8) (pa_cons (pv 6) pa_nil))) (pe_tup (pa_cons pe_str (pa_cons (pv 7) pa_nil))) (nomark _)))
          (fun _ _ _ _ _ => pv 8)) (pe_lst pa_nil) (nomark _)) (pss_one (ps_ret pe_bl)) pss_nil)
      (pss_cons (ps_asg (pe_call GWD hr1 rfl (g__law_wrong_draft T) (F__law_wrong_draft T).kp (bd__law_wrong_draft T) .nil pass0 (pa_cons (pv 4) (pa_cons (pe_call GT hr2 rfl (g__law_take T) (F__law_take T).kp (bd__law_take T) .nil pass0 (pa_cons (pv 1) (pa_cons (pv 2) (pa_cons pe_int pa_nil)))) pa_nil))) (pg_tup (by rfl) (pgs_cons (pg_name (i := 9) sc_law.nd rfl (Or.inr rfl)) (pgs_cons (pg_name (i := 10) sc_law.nd rfl (Or.inr rfl)) pgs_nil))))
      (pss_cons (ps_if (pt_cmpR (op_neD hr.units) (pe_lc (own := [("which", 8)]) (g := gName 8) (tt := tTest (tOp (rNeD K) (tCall (spTold K) [] _ _) (tTup _))) rfl sc_law.nd (pi_range2 (by rfl) (n_range T) (pa_cons pe_int (pa_cons pe_int pa_nil))) (blkOk_by (N := ["script", "draws", "at", "cloth", "draft", "turn", "wrong", "due", "which", "other", "reason", "call"]) (sc := defScope st_law) (by decide +kernel))
          (fun _ _ _ _ _ => pg_name (i := 8) sc_law.nd rfl (Or.inl rfl)) (fun _ _ _ _ _ => pts_one (pt_cmpR (op_neD hr.units) (pe_call GO hr rfl (g__law_told T) (F__law_told T).kp (bd__law_told T) .nil pass0 (pa_cons (pv 8) (pa_cons (pv 9) pa_nil))) (pe_tup (pa_cons pe_str (pa_cons (pv 10) pa_nil))) (nomark _)))
          (fun _ _ _ _ _ => pv 8)) (pe_lst pa_nil) (nomark _)) (pss_one (ps_ret pe_bl)) pss_nil)
      (pss_one (ps_if (pt_cmpR (op_neD hr.units) (pe_lc (own := [("call", 11)]) (g := gName 11) (tt := tTest (tOp rNe (tCall (spSecond K) [] _ _) (tVar 7))) rfl sc_law.nd (pi_range1 (by rfl) (n_range T) (pa_cons pe_int pa_nil)) (blkOk_by (N := ["script", "draws", "at", "cloth", "draft", "turn", "wrong", "due", "which", "other", "reason", "call"]) (sc := defScope st_law) (by decide +kernel))
          (fun _ _ _ _ _ => pg_name (i := 11) sc_law.nd rfl (Or.inl rfl)) (fun _ _ _ _ _ => pts_one (pt_cmpR op_ne (pe_call GS hr6 rfl (g__law_second T) (F__law_second T).kp (bd__law_second T) .nil pass0 (pa_cons (pv 11) (pa_cons (pv 3) (pa_cons (pv 6) pa_nil)))) (pv 7) (nomark _)))
          (fun _ _ _ _ _ => pv 11)) (pe_lst pa_nil) (nomark _)) (pss_one (ps_ret pe_bl)) pss_nil)))))))
    (pss_one (ps_ret pe_bl))))))), ?_⟩
  refine ⟨.ref s, rfl, s, is, rfl, his, hs, fun b ns H1 e1 nb hb hns => ?_⟩
  refine q_setL (ρ := hrE K) trivial (el_lst (es_cons ed_int es_nil) (by simp)) (fun a xs H2 na e2 ha ta => ?_)
  have hb2 := e2 _ _ hb
  have hba : b ≠ a := fun z => by rw [← z, hb] at na; cases na
  have hc : Cnt a H2 := by
    cases ta with
    | cons t1 t2 =>
      cases t2
      cases t1
      exact ⟨0, ha⟩
  have hd : DrS b H2 := ⟨ns, hb2, hns⟩
  clear ta ha na hb
  have R2 := (hrG K a).refl hc
  have take : ∀ {m : Int} {tm : TE} {σ : L2.St} {H1 : Hp} {E : XK}, (hrG K a).R H2 H1 → σ[1]? = some (some (.ref b)) → σ[2]? = some (some (.ref a)) → EvD (hrG K a) tm σ H1 (.int m) → 1 ≤ m → EvP (hrG K a) (tCall (spTake K) [] E (tCons (tVar 1) (tCons (tVar 2) (tCons tm tNil)))) σ H1 (isN fun r => 0 ≤ r ∧ r < m) := fun R h1 h2 hm h => ep_take hba (hd.mono hba R) h1 h2 hm h
  refine ep_ixN (ρ := hrG K a) (P := isN fun m => 1 ≤ m ∧ m ≤ 24) (el_lst (es_cons ed_int (es_cons ed_int es_nil)) (by simp)) (fun H3 R3 => take R3 rfl rfl ed_int (by decide)) (fm ⟨6, rfl, by decide, by decide⟩ (fm ⟨24, rfl, by decide, by decide⟩ fm0)) H2 R2 _ (fun v d H3 R3 t3 q3 => ?_)
  obtain ⟨m, rfl, m1, m2⟩ := q3
  cases t3
  refine ⟨.ref b, rfl, .ref a, rfl, m, b, a, rfl, m1, m2, hba, R3.2.1, hd.mono hba R3, fun vc dc H4 R34 tc rc => ?_⟩
  have R4 := (hrG K a).trans R3 R34
  refine ⟨.ref b, rfl, .ref a, rfl, b, a, rfl, hba, R4.2.1, hd.mono hba R4, fun vd dd H5 R45 td rd => ?_⟩
  have R5 := (hrG K a).trans R4 R45
  have tc := Td.mono (hrG K a) R45 _ tc
  have cN := right_none rc
  have cS := right_small rc
  refine ⟨3, rfl, by decide, by decide, for_range (n := 3) (fun i σ H' => (hrG K a).R H2 H' ∧ ∃ o5 o6 o7 o8 o9 o10 o11 : Option V, σ = [some (.ref s), some (.ref b), some (.ref a), some vc, some vd, o5, o6, o7, o8, o9, o10, o11] ∧ Td K H' vc dc ∧ Td K H' vd dd)
    ⟨R5, _, _, _, _, _, _, _, rfl, tc, td⟩ ?_ ?_⟩
  · clear tc td
    rintro i σ H6 hi ⟨R6, o5, o6, o7, o8, o9, o10, o11, rfl, tc, td⟩
    refine ep_wrong rfl tc rc (take R6 rfl rfl ed_int (by decide)) H6 ((hrG K a).refl R6.2.1) _ (fun v d H7 R67 t7 w7 => ?_)
    obtain ⟨wr, due, rfl, sW, cW⟩ := w7
    obtain ⟨p, v1, v2, rfl, hsq, tW, tDu⟩ := td_two t7
    have R7 := (hrG K a).trans R6 R67
    have tc := Td.mono (hrG K a) R67 _ tc
    have td := Td.mono (hrG K a) R67 _ td
    refine ⟨p, _, rfl, hsq, rfl, v1, _, rfl, v2, _, rfl, rfl, ?_⟩
    refine seq_ifN (ρ := hrG K a) (b := false) R7.2.1 (eb_neN (el_lcF ed_int ⟨by decide, by decide⟩ (fun _ => rfl) (fun j hj H8 R8 => eb_neS (shC cW) (ed_told rfl rfl (Td.mono (hrG K a) R8 _ tW) sW (.inl ⟨hj, cW, rfl⟩)) (ed_tup (es_cons ed_str (es_cons (ed_var rfl (Td.mono (hrG K a) R8 _ tDu)) es_nil)) (by simp)))) (el_lst es_nil (by simp))) (fun z => by cases z) (fun _ H8 R78 => ?_)
    have R8 := (hrG K a).trans R7 R78
    have tc := Td.mono (hrG K a) R78 _ tc
    have td := Td.mono (hrG K a) R78 _ td
    have tW := Td.mono (hrG K a) R78 _ tW
    have tDu := Td.mono (hrG K a) R78 _ tDu
    refine ep_wrong rfl td rd (take R8 rfl rfl ed_int (by decide)) H8 ((hrG K a).refl R8.2.1) _ (fun v d H9 R89 t9 w9 => ?_)
    obtain ⟨ot, re, rfl, sO, cO⟩ := w9
    obtain ⟨p2, v3, v4, rfl, hsq2, tO, tRe⟩ := td_two t9
    have R9 := (hrG K a).trans R8 R89
    have tc := Td.mono (hrG K a) R89 _ tc
    have td := Td.mono (hrG K a) R89 _ td
    have tW := Td.mono (hrG K a) R89 _ tW
    have tDu := Td.mono (hrG K a) R89 _ tDu
    refine ⟨p2, _, rfl, hsq2, rfl, v3, _, rfl, v4, _, rfl, rfl, ?_⟩
    refine seq_ifN (ρ := hrG K a) (b := false) R9.2.1 (eb_neN (el_lcF2 ed_int ed_int ⟨by decide, by decide, by decide⟩ (fun _ => rfl) (fun j hj1 hj2 H10 R10 => eb_neS (shD cO) (ed_told rfl rfl (Td.mono (hrG K a) R10 _ tO) sO (.inr ⟨hj1, cO, rfl⟩)) (ed_tup (es_cons ed_str (es_cons (ed_var rfl (Td.mono (hrG K a) R10 _ tRe)) es_nil)) (by simp)))) (el_lst es_nil (by simp))) (fun z => by cases z) (fun _ H10 R910 => ?_)
    have R10 := (hrG K a).trans R9 R910
    have tc := Td.mono (hrG K a) R910 _ tc
    have td := Td.mono (hrG K a) R910 _ td
    have tW := Td.mono (hrG K a) R910 _ tW
    have tDu := Td.mono (hrG K a) R910 _ tDu
    refine if_dN (ρ := hrG K a) (b := false) R10.2.1 (eb_neN (el_lcF ed_int ⟨by decide, by decide⟩ (fun _ => rfl) (fun j hj H11 R11 => eb_neStr (ed_second rfl rfl rfl (Td.mono (hrG K a) R11 _ tc) cS cN (Td.mono (hrG K a) R11 _ tW) sW cW) (ed_var rfl (Td.mono (hrG K a) R11 _ tDu)))) (el_lst es_nil (by simp))) (fun z => by cases z) (fun _ H11 R1011 => ?_)
    exact ⟨(hrG K a).trans R10 R1011, _, _, _, _, _, _, _, rfl, Td.mono (hrG K a) R1011 _ tc, Td.mono (hrG K a) R1011 _ td⟩
  · rintro σ H6 ⟨R6, o5, o6, o7, o8, o9, o10, o11, rfl, tc, td⟩
    exact k H6
end
end K5

set_option Elab.async false
set_option linter.all false
set_option maxRecDepth 100000
set_option maxHeartbeats 8000000
namespace K5
open PySem PySem.Spec PyProof.Rows L2 He HX DX
theorem the_law : PySem.Challenge.rw_hangstogether_k05_wrong_cloths_ahead_of.Holds := by
  refine by_law (k := 9) (sp := spLaw) ⟨rfl, by decide, by decide⟩ (fun K H a ns hl _ hS => ⟨a, ns, rfl, hl, hS, fun _ => rfl⟩) (fun w K mg h X G c hga => ?_)
  have T : Tx K mg := ⟨c, h, X, G⟩
  have F := F_law T
  refine ⟨fdx K "law", fun s u => ?_, fun base hb hn => ok_law T⟩
  exact F.bindsA (ps := ["script"]) (fun _ _ _ _ _ _ us hl => match us, hl with | [_], _ => rfl) s [u] rfl
end K5
theorem PySem.Challenge.cw_hangstogether_k05_wrong_cloths_ahead_of_holds : PySem.Challenge.rw_hangstogether_k05_wrong_cloths_ahead_of.Holds :=
  K5.the_law

