import PyProof.Rows.All
import Wide.All
import OpenK.AllK
import Wide.FinOn
import KE.KExcSuper
import HandS.ForMost
import HandS.ForExc
import HandS.HeadWalk
import HandS.ExcIs
import PyProof.ReprRoads
import HandS.Defaults
import HandS.EndBits
import PyProof.ListStr
import PyProof.StrOps2
import HandS.Head0
import HandS.Head1
import HandS.Head2
import HandS.HeadHook1
import HandS.HeadHook2
import KE.KStateDown
import HandS.Wide
import HandS.IsInst
import HandS.Star
import HandS.Walk
import HandS.Codes
import PySem.Challenge.RW_sweepwarrant_k93_seals
import KE.IntTextLaws
import KE.IntTextText
import KE.KIntText
import PyProof.ReprLen
import KE.DataEq
import HandS.Text
set_option Elab.async false
set_option linter.all false
set_option maxRecDepth 100000
set_option maxHeartbeats 2000000
/-! An own exception class over ValueError (own classes may stand between) whose __init__ is: super().__init__("text"); self.x = x. Made, raised, caught, its field read. -/
namespace PySem
namespace SupX
open PySem.W PySem.Calls PyProof.Rows PySem.HandSPX
/-- the parameters: self, x -/
def prm (x : Str) (p1 p2 : Pos) : Arguments := { posonlyargs := [], args := [{ arg := "self", annotation := none, pos := p1 }, { arg := x, annotation := none, pos := p2 }], vararg := none, kwonlyargs := [], kw_defaults := [], kwarg := none, defaults := [] }
abbrev eSup (p0 p1 : Pos) : Expr := .Call (.Name "super" p0) [] [] p1
abbrev eIni (msg : Str) (j : Nat) (p0 p1 p2 p3 p4 : Pos) : Expr := .Call (.Attribute (eSup p0 p1) "__init__" p2) [.Constant (.str msg) j p3] [] p4
abbrev bod (x msg : Str) (j : Nat) (p0 p1 p2 p3 p4 p5 q1 q2 q3 q4 : Pos) : List Stmt :=
  [.Expr (eIni msg j p0 p1 p2 p3 p4) p5, .Assign [.Attribute (.Name "self" q1) x q2] (.Name x q3) q4]
abbrev scp (x : Str) : Scope := { kind := .function, names := [("self", .local), (x, .local), ("__class__", .free), ("super", .globalImplicit)], isGenerator := false, isCoroutine := false, more := [] }
/-- the name of a field: none of the words that stand beside it -/
structure FieldName (x : Str) : Prop where
  dbg : (x == ("__debug__" : Str)) = false
  bind : ∀ (qual : Str) (p1 p2 : Pos) (b : List Stmt) (doc pm : Value) (an : Option Addr) (cdv ct : Value) (cc : Addr) (a v : Value), bindArgs (ksFn "__init__" qual (prm x p1 p2) b (scp x) .none .none doc pm an cdv ct cc) ⟨[a, v], []⟩ = pure [(("self" : Str), a), (x, v)]
  kx : (scp x).names.lookup x = some .local
  kcls : (scp x).names.lookup ("__class__" : Str) = some .free
  ksup : (scp x).names.lookup ("super" : Str) = some .globalImplicit
  mself : ∀ a v : Value, [(("self" : Str), a), (x, v)].reverse.lookup ("self" : Str) = some a
  mx : ∀ a v : Value, [(("self" : Str), a), (x, v)].reverse.lookup x = some v
theorem fieldAt : FieldName "at" := ⟨by decide, fun _ _ _ _ _ _ _ _ _ _ _ _ => rfl, rfl, rfl, rfl, fun _ _ => rfl, fun _ _ => rfl⟩
/-- what the written part says of the class named cn, at C, whose __init__ (at fI) is the above -/
structure Txt (P : Program) (K : Frag) (mg : Str → Option Value) (cn qual x msg : Str) (C fI : Addr) : Prop where
  gC : mg cn = some (.ref C)
  cls : ∃ nm q N bs bm sn sub ab col dd k0 k1 k2 k3 k5, K.lookup C = some (excClassObj nm q C N bs bm true sn sub ab col dd k0 k1 k2 k3 k5 "ValueError.__new__") ∧ refsVE bm = true
  sa : findIn K (.ref C) "__setattr__" = some (some (.builtin "object.__setattr__"))
  ga : findIn K (.ref C) "__getattribute__" = some (some (.builtin "BaseException.__getattribute__"))
  gg : findIn K (.ref C) "__getattr__" = some none
  noN : findIn K (.ref C) x = some none
  iC : findIn K (.ref C) "__init__" = some (some (.ref fI))
  tC : typeIn K (.ref fI) = some (.type "function")
  kC : keepIn K (.ref C) = true
  exC : subIn K (.ref C) (.type "BaseException") = some true
  veC : subIn K (.ref C) (.type "ValueError") = some true
  tyC : typeIn K (.ref C) = some (.type "type")
  hdC : hasDictIn K C = true
  te : exmOne K (.ref C) (.ref C) = some true
  sup : ks_superIn K C C "__init__" = some (some (.builtin "ValueError.__init__"))
  selfC : mroIn K C (.ref C) = some true
  opq : nsIn K cStatics "thirdparty.any" = some none
  noSup : mg "super" = none
  top : (P.main.scope.names.lookup ("super" : Str)).isSome = false
  fn : ∃ (oc : Value) (od : Option Addr) (doc pm : Value) (an : Option Addr) (cda cc : Addr) (ct : Value) (osl : Array (Option Value)) (p1 p2 : Pos) (j : Nat) (r0 r1 r2 r3 r4 r5 q1 q2 q3 q4 : Pos),
    K.lookup fI = some ⟨oc, od, .func (ksFn "__init__" qual (prm x p1 p2) (bod x msg j r0 r1 r2 r3 r4 r5 q1 q2 q3 q4) (scp x) .none .none doc pm an (.ref cda) ct cc), osl⟩ ∧ codeIn K (.ref cda) qual = true ∧
    (∃ ccl cdd vs ccs file tf, K.lookup cda = some ⟨ccl, cdd, .fields vs, ccs⟩ ∧ vs[2]? = some (.str file tf) ∧ ((P.main.file : Str) == file) = true) ∧
    (∃ cl cld csl, K.lookup cc = some ⟨cl, cld, .cell (some (.ref C)), csl⟩) ∧
    (∀ env : Env, swapsWith (eIni msg j r0 r1 r2 r3 r4) none r5.line env = pure false) ∧
    (∀ env : Env, eval (eIni msg j r0 r1 r2 r3 r4) env = (do
      let ov ← attributeBase (eSup r0 r1) "__init__" env (eval (eSup r0 r1) env)
      standAt r2.atName
      let (f, first) ← holding [ov] (getMethod ov "__init__" (L2.plainOf (eSup r0 r1) env))
      callWith r4 f first (backTo r4 (starEach [.Constant (.str msg) j r3] env)) []))
/-- what __init__ leaves of a fresh exception at e -/
structure InitEnd (h h' : Heap) (e C dx t1 : Addr) (x : Str) (v : Value) : Prop where
  keep : ∀ b o, b ≠ e → h.get? b = some o → h'.get? b = some o
  obj : h'.get? e = some { cls := .ref C, dict := some dx, data := .fields #[.ref t1, .none, .none, .none, .bool false, .none] }
  dbig : h.objs.size ≤ dx
  dne : dx ≠ e
  ns : h'.Ns1 dx (fun y => if y = x then some v else none)
/-- one made -/
structure Made (h h' : Heap) (e C d : Addr) (x : Str) (v : Value) : Prop where
  keep : ∀ b o, h.get? b = some o → h'.get? b = some o
  new : h.objs.size ≤ e
  obj : ∃ oe vs, h'.get? e = some oe ∧ oe.cls = .ref C ∧ oe.dict = some d ∧ oe.data = .fields vs ∧ vs[1]? = some .none
  dbig : h.objs.size ≤ d
  dne : d ≠ e
  ns : h'.Ns1 d (fun y => if y = x then some v else none)
section
variable {prog : Program} {w : World} {A : Around} {E : Value → Shared → Prop} {R : Result → Shared → Prop} {s : Shared} {K : Frag} {mg : Str → Option Value} {C fI : Addr} {cn qual x msg : Str}
/-- the wrapper that super().__init__ is, called: the exception's args are laid anew, nothing else -/
theorem wrapper_call {nm q : Str} {N : Addr} {bs bm : List Value} {hdct : Bool} {sn : List Str} {sub : List Value} {ab : Bool} {col : Option Bool} {dd : Option Addr} {k0 k1 k2 k3 k5 : Option Value} {u e t0 : Addr} {rest : List Value} {Q : Value → Shared → Prop}
    (hC : s.heap.get? C = some (excClassObj nm q C N bs bm hdct sn sub ab col dd k0 k1 k2 k3 k5 "ValueError.__new__")) (he : s.heap.get? e = some (excO C t0)) (hu : s.heap.get? u = some (kxs_mw "ValueError.__init__" e)) (hz : rest.length ≤ sizeLine)
    (hq : ∀ h' t1, (∀ b o, b ≠ e → s.heap.get? b = some o → h'.get? b = some o) → h'.get? e = some (excO C t1) → Q .none { s with heap := h' }) :
    wpAny (model prog w) A (call (.ref u) rest) Q E s := by
  have FB := F.excBase_ValueError
  obtain ⟨hh, g, d, tk, os⟩ := s
  refine wpAny_call (codeAny_of_tree ?_)
  show wpAny _ A.in1 (callAny (.ref u) ⟨rest, []⟩) _ _ _
  simp only [callAny]
  refine wpAny_bind (wpAny_load hu ?_)
  have w1 : (Value.type "method-wrapper" == Value.type "method" || Value.type "method-wrapper" == Value.type "builtin_function_or_method" || Value.type "method-wrapper" == Value.type "method-wrapper") = true := by decide
  simp only [kxs_mw, w1, if_true]
  refine KFB.if_so (by decide) (wpAny_bind (check_bound_init FB.toExcCallFacts hC he rfl (wpAny_bind (wpAny_pure (wpAny_pure ⟨plainId_quiet FB.init.plain _, codeAny_builtin FB.initEntry ?_⟩)))))
  exact exc_init_tree (cls := .ref C) (t0 := t0) (dv := none) (c2 := .none) (c3 := .none) (b4 := .bool false) he hz fun h' k e' _ => hq h' hh.objs.size k e'
/-- the body of __init__ -/
theorem init_run (T : Txt prog K mg cn qual x msg C fI) (FN : FieldName x) {e t0 : Addr} {v : Value} (X : K.In s.heap) (G : s.heap.Ns mainGlobals mg) {mb : Str → Option Value} (GB : s.heap.Ns builtinsNs mb) (hmb : mb "super" = some (.type "super"))
    (hlim : s.heap.NoLimit) (he : s.heap.get? e = some (excO C t0)) (hnx : K.lookup e = none) (hroom : A.depth < recursionLimit)
    (hq : ∀ h' tk dx t1, InitEnd s.heap h' e C dx t1 x v → R (.ok (.ret .none)) { s with heap := h', toks := tk }) :
    codeAny (model prog w) A (.call (.ref fI) ⟨[.ref e, v], []⟩) R s := by
  obtain ⟨oc, od, doc, pm, an, cda, cc, ct, osl, p1, p2, j, r0, r1, r2, r3, r4, r5, q1, q2, q3, q4, ho, hcd, ⟨ccl, cdd, vs, ccs, file, tf, hco, hvs, hfile⟩, ⟨cl, cld, csl, hcell⟩, hsw, hev⟩ := T.fn
  obtain ⟨nm, q, N, bs, bm, sn, sub, ab, col, dd, k0, k1, k2, k3, k5, hC, hbm⟩ := T.cls
  have hcl : clsIn K C = some { name := nm, bases := bs, mro := .ref C :: bm, ns := N, qualname := q, hasDict := true, slotNames := sn, subclasses := sub, abstract := ab, collection := col, hasDel := false } := by unfold clsIn; rw [hC] <;> rfl
  refine ks_codeAny_call_defAt (fd := ksFn "__init__" qual (prm x p1 p2) (bod x msg j r0 r1 r2 r3 r4 r5 q1 q2 q3 q4) (scp x) .none .none doc pm an (.ref cda) ct cc) (binds := [("self", .ref e), (x, v)]) hroom (X _ _ ho) rfl hlim (codeRec_of X hcd) rfl
    (BindsTo.of_eq ?b1) ?b2 ?b3 (fun h₁ hns hk₁ => ?_)
  case b1 => exact FN.bind _ _ _ _ _ _ _ _ _ _ _ _
  case b2 =>
    intro y hy
    simp only [scp, List.mem_cons, List.not_mem_nil, or_false] at hy
    rcases hy with rfl | rfl | rfl | rfl <;> (intro z; cases z)
  case b3 =>
    intro y hy
    simp only [List.mem_cons, List.not_mem_nil, or_false] at hy
    rcases hy with rfl | rfl
    · rfl
    · exact FN.kx
  generalize hE : callEnv (ksFn "__init__" qual (prm x p1 p2) (bod x msg j r0 r1 r2 r3 r4 r5 q1 q2 q3 q4) (scp x) .none .none doc pm an (.ref cda) ct cc) s.heap.objs.size fI = env
  have hE' : env = ksEnv qual (scp x) s.heap.objs.size fI (.ref cda) cc := hE.symm
  subst hE'
  have X₁ : K.In h₁ := X.keeps hk₁
  have he₁ := hk₁ _ _ he
  have kself : (scp x).names.lookup ("self" : Str) = some .local := rfl
  refine ks_wpAt_execs_cons (ks_wpAt_Expr_any (ks_wpAt_MethodCall (pl := L2.plainOf (eSup r0 r1) (ksEnv qual (scp x) s.heap.objs.size fI (.ref cda) cc)) ?_ (hev _)) rfl (hsw _))
  refine ks_wpAt_super_base (env := ksEnv qual (scp x) s.heap.objs.size fI (.ref cda) cc) FN.ksup FN.kcls (by decide) rfl (X₁ _ _ ho) rfl rfl rfl (X₁ _ _ hco) rfl hvs hfile T.top ?_
  refine ks_loadName_global rfl FN.ksup (loadGlobal_builtin (env := ksEnv qual (scp x) s.heap.objs.size fI (.ref cda) cc) (G.keeps hk₁) T.noSup (GB.keeps hk₁) hmb ⟨rfl, ?_⟩)
  refine wpAny_loadName_free rfl FN.kcls rfl ⟨_, X₁ _ _ hcell, rfl⟩ ?_
  refine wpAny_loadName_local rfl kself hns (FN.mself _ _) ?_
  have hC₁ := X₁ _ _ hC
  have neC : e ≠ C := fun z => by
    rw [z] at hnx
    have hC' : List.lookup C K = _ := hC
    rw [hnx] at hC'
    cases hC'
  generalize htk : s.toks + [(("self" : Str), Value.ref e), (x, v)].length = tk1
  refine ks_wpAny_isType_cls hC₁ rfl ⟨rfl, ?_⟩
  refine ks_wpAny_call_super hC₁ rfl he₁ rfl (fun c z => by cases z) (looks_mroIn X₁ T.selfC) (fun h₂ hso hk₂ => ?_)
  have X₂ : K.In h₂ := X₁.keeps hk₂
  have he₂ := hk₂ _ _ he₁
  have mroC : Looks (model prog w) h₂ (mroOf (.ref C)) (.ref C :: bm) := fun A Q E s k q => wpAny_bind ((looks_clsIn X₂ hcl) A _ E s k (wpAny_pure q))
  have hal : alongIn K "__init__" (((Value.ref C :: bm).dropWhile (· != .ref C)).drop 1) = some (some (.builtin "ValueError.__init__")) := by
    have z := T.sup
    unfold ks_superIn at z
    rw [hcl] at z
    exact z
  have inst : Looks (model prog w) h₂ (isInstance (.ref e) (.type "ValueError")) true :=
    (show InstAt h₂ e (excO C t0) C none from ⟨he₂, rfl, rfl, trivial⟩).type.andThen (looks_subIn X₂ T.veC)
  refine kxs_getMethod kxs_ValueError hso (looks_opaque X₂ T.opq) mroC rfl X₂ hal inst neC (by decide) ?_
  have k₃ : ∀ b o, h₂.get? b = some o → (h₂.push (kxs_mw "ValueError.__init__" e)).get? b = some o := fun b o z => Heap.get?_push_of_some _ z
  have hu : (h₂.push (kxs_mw "ValueError.__init__" e)).get? h₂.objs.size = some (kxs_mw "ValueError.__init__" e) := Heap.get?_push_at rfl rfl
  have hargs : starEach [Expr.Constant (.str msg) j r3] (ksEnv qual (scp x) s.heap.objs.size fI (.ref cda) cc) = (false, eval (.Constant (.str msg) j r3) (ksEnv qual (scp x) s.heap.objs.size fI (.ref cda) cc)) :: [] := rfl
  show wpAny _ _ (callWith r4 (.ref h₂.objs.size) [] (backTo r4 (starEach [Expr.Constant (.str msg) j r3] (ksEnv qual (scp x) s.heap.objs.size fI (.ref cda) cc))) []) _ _ _
  rw [hargs]
  refine kxs_callWith (i := "ValueError.__init__") (x := e) rfl (evalArgs_plain ?_)
  refine spliced_cons (wpAny_Constant_str (k := j) (pos := r3) ?_)
  refine spliced_nil ⟨hu, ?_⟩
  refine wrapper_call (k₃ _ _ (hk₂ _ _ hC₁)) (k₃ _ _ he₂) hu (by rw [sizeLine_eq]; exact (by decide : 1 ≤ 16777216)) fun h₄ t1 k₄ he₄ => ?_
  have X₄ : K.In h₄ := fun b o z => k₄ b o (fun y => by
    have z' : List.lookup b K = some o := z
    rw [y, hnx] at z'
    cases z') (k₃ _ _ (X₂ b o z))
  have k14 : ∀ b o, b ≠ e → s.heap.get? b = some o → h₄.get? b = some o := fun b o nb z => k₄ b o nb (k₃ _ _ (hk₂ _ _ (hk₁ _ _ z)))
  have hns₄ : h₄.Ns s.heap.objs.size (fun y => [(("self" : Str), Value.ref e), (x, v)].reverse.lookup y) := by
    have nL : s.heap.objs.size ≠ e := Nat.ne_of_gt (Heap.lt_size he)
    obtain ⟨o, es, ep, ho', r⟩ := hns
    exact ⟨o, es, ep, k₄ _ _ nL (k₃ _ _ (hk₂ _ _ ho')), r⟩
  refine ks_wpAt_execs_cons (wpAt_of_wpAny (plainObj_wpAny_Assign_Attribute ?_))
  refine wpAny_Name (wpAny_loadName_local rfl FN.kx hns₄ (FN.mx _ _) ?_) FN.dbg
  refine wpAny_Name (wpAny_loadName_local rfl kself hns₄ (FN.mself _ _) ?_)
  refine set_plain X₄ (ox := excO C t1) (od := none) ⟨he₄, rfl, rfl, trivial⟩ T.sa ?_
  refine HandSPX.exc_osa X₄ he₄ hcl (show refsVE (.ref C :: bm) = true from hbm) rfl T.noN (fun h₅ tk₅ dx k₅ dn dne he₅ hn₅ => ?_)
  refine wpAt_of_wpAny (wpAny_execs_nil (hq h₅ tk₅ dx t1 ⟨fun b o nb z => k₅ b o nb (k14 b o nb z), he₅, ?_, dne, hn₅⟩))
  have hL := hns₄.lt
  show s.heap.objs.size ≤ dx
  exact Nat.le_of_lt (Nat.lt_of_lt_of_le hL dn)
/-- C(v) -/
theorem made (T : Txt prog K mg cn qual x msg C fI) (FN : FieldName x) {v : Value} (X : K.In s.heap) (G : s.heap.Ns mainGlobals mg) {mb : Str → Option Value} (GB : s.heap.Ns builtinsNs mb) (hmb : mb "super" = some (.type "super"))
    (hlim : s.heap.NoLimit) (hroom : A.depth + 1 < recursionLimit)
    (hq : ∀ h' tk e d, Made s.heap h' e C d x v → R (.ok (.ret (.ref e))) { s with heap := h', toks := tk }) :
    codeAny (model prog w) A (.call (.ref C) ⟨[v], []⟩) R s := by
  obtain ⟨nm, q, N, bs, bm, sn, sub, ab, col, dd, k0, k1, k2, k3, k5, hC, hbm⟩ := T.cls
  obtain ⟨hp, g, dr, tk, os⟩ := s
  have k : ∀ b o, hp.get? b = some o → ((hp.push (kdv_tup [v])).push (excO C hp.objs.size)).get? b = some o := fun b o e => Heap.get?_push_of_some _ (Heap.get?_push_of_some _ e)
  have hget : ((hp.push (kdv_tup [v])).push (excO C hp.objs.size)).get? (hp.objs.size + 1) = some (excO C hp.objs.size) := by heap_get
  have hnx : K.lookup (hp.objs.size + 1) = none := by
    cases e : K.lookup (hp.objs.size + 1) with
    | none => rfl
    | some o =>
      have z : hp.get? (hp.objs.size + 1) = some o := X _ _ e
      exact absurd (Nat.lt_of_succ_lt (Heap.lt_size z)) (Nat.lt_irrefl _)
  refine call_own F.excBase_ValueError (fun X => refsVE_contains X bm hbm) (X _ _ hC) (looks_findIn X T.iC) (fun self => bind_fn X self T.tC) (by rw [sizeLine_eq]; exact (by decide : 1 ≤ 16777216)) ?_
  refine init_run (s := ⟨(hp.push (kdv_tup [v])).push (excO C hp.objs.size), g, dr, tk, os⟩) T FN (X.keeps k) (G.keeps k) (GB.keeps k) hmb (hlim.keeps k) hget hnx ?_ fun h' tk' dx t1 ⟨k', hx, dn, dne, hns⟩ => ?_
  · show A.depth + 1 < recursionLimit
    exact hroom
  · have old : ∀ b o, hp.get? b = some o → h'.get? b = some o := fun b o e => k' b o (Nat.ne_of_lt (Nat.lt_succ_of_lt (Heap.lt_size e))) (k b o e)
    have z : hp.objs.size + 1 + 1 ≤ dx := by
      have q := dn
      rw [Heap.size_push, Heap.size_push] at q
      exact q
    exact ⟨rfl, hq h' tk' (hp.objs.size + 1) dx ⟨old, Nat.le_succ _, ⟨_, _, hx, rfl, rfl, rfl, rfl⟩, Nat.le_trans (Nat.le_trans (Nat.le_succ _) (Nat.le_succ _)) z, dne, hns⟩⟩
end
end SupX
end PySem
namespace L2
open PySem PySem.Spec PyProof.Rows
theorem relO_one {v : V} {v' : Value} (r : RelV v v') (x f : Str) : RelO (List.lookup f [(x, v)]) (if f = x then some v' else none) := by
  by_cases hw : f = x
  · subst hw
    rw [if_pos rfl]
    have q : List.lookup f [(f, v)] = some v := by simp [List.lookup]
    rw [q]
    exact r
  · rw [if_neg hw]
    have qw : (f == x) = false := by simpa using hw
    have q2 : List.lookup f [(x, v)] = none := by simp [List.lookup, qw]
    rw [q2]
    trivial
section
variable {X : Cx} {C fI : Addr} {cn qual x msg : Str}
/-- C(e) -/
def tMkSup (C : Addr) (x : Str) (ta : TA) : St → Hp → XK → Prop := fun σ H Q => ta σ H fun vs H1 => ∃ v, vs = [v] ∧ ∀ d, H1 d = none → Q (.ref C) (some d) (upd H1 d (.xd [(x, v)]))
theorem pmk_sup {a : Expr} {ta : TA} {p pos : Pos} {k : Nat} (T : PySem.SupX.Txt X.prog X.K X.mg cn qual x msg C fI) (FN : PySem.SupX.FieldName x) (hr : Room k X.A) (ha : PA X [a] ta) (hg : Gl X cn := by rfl)
    (hdb : (cn == ("__debug__" : Str)) = false := by decide)
    (he : starEach (a :: []) X.env = (false, eval a X.env) :: starEach [] X.env := by rfl) (hpl : (backTo pos (starEach [] X.env)).any (·.1) = false := by rfl) :
    PMk X (.Call (.Name cn p) [a] [] pos) (tMkSup C x ta) := by
  intro pins s σ H Q I h
  refine wpAny_Call_Name_kw (ld_glob I hg T.gC ?_ hdb)
  refine PySem.W.callWith_K (h₀ := X.base) I.ok.mod.kin T.kC (thn (ha.run pos pins s σ H _ I h) fun us s1 hh => ?_) he hpl
  obtain ⟨vs, H1, I1, r1, v, ev, q1⟩ := hh
  subst ev
  refine ⟨I1.kIn, ?_⟩
  cases r1 with
  | cons rv rn =>
    rename_i v' us'
    cases rn
    show wpAny _ _ (call (.ref C) [v']) _ _ _
    have hlim := I1.nolimit
    have bk := I1.bk
    obtain ⟨mb, hb1, hb2⟩ := I1.ok.mod.blt
    obtain ⟨hp, g, dr, tk, os⟩ := s1
    refine wpAny_call (PySem.SupX.made T FN I1.kIn (I1.ok.mod.glob.keeps bk) (hb1.keeps bk) ((hb2 "super" (by decide)).trans (by first | boot_by_name | rfl | kernel_rfl)) hlim (by have := hr.dp; omega) fun h' tk' e d M => ?_)
    show MkP X pins σ Q (.ref e) ⟨h', g, dr, tk', os⟩
    obtain ⟨oe, fv, hoe, hc, hd, hdat, h1⟩ := M.obj
    have hns := M.ns
    obtain ⟨G', g1, g2⟩ := restrict h' fun b => decide (b ≠ e)
    have gk : ∀ b, b ≠ e → G'.get? b = h'.get? b := fun b hb => g1 b (decide_eq_true hb)
    have ge : G'.get? e = none := g2 e (by simp)
    have old : ∀ b o, hp.get? b = some o → G'.get? b = some o := fun b o q => (gk b (Nat.ne_of_lt (Nat.lt_of_lt_of_le (Heap.lt_size q) M.new))).trans (M.keep b o q)
    have ob : ObjOk X.prog X.w (upd H1 d (.xd [(x, v)])) G' d (.xd [(x, v)]) :=
      ⟨_, hns.at (fun o q => (gk d M.dne).trans q), fun f => relO_one rv x f⟩
    have J : Inv X pins σ (upd H1 d (.xd [(x, v)])) ⟨G', g, dr, tk', os⟩ := I1.laid (t' := tk') old M.dbig ob
    refine ⟨e, oe, fv, ⟨G', g, dr, tk', os⟩, _, .ref C, some d, rfl, J, fun b o q => ?_, ge, hoe, ⟨hc, hd⟩, hdat, h1, ?_, rfl, I1.bare, raises_own T.exC T.tyC, q1 d (I1.hok.fresh M.dbig)⟩
    · by_cases hb : b = e
      · have q' : G'.get? b = some o := q
        rw [hb, ge] at q'
        cases q'
      · exact (gk b hb).symm.trans q
    · rw [upd_ne (Ne.symm M.dne)]
      exact I1.hok.fresh M.new
/-- raise C(e) -/
def tRaiseSup (C : Addr) (x : Str) (W : WX) (ta : TA) : TS := fun _ σ H => tMkSup C x ta σ H fun cls d H' => W cls d σ H'
theorem ps_raiseSup {a : Expr} {ta : TA} {W : WX} {p pos pos2 : Pos} {k : Nat} (hc : X.calm = true) (T : PySem.SupX.Txt X.prog X.K X.mg cn qual x msg C fI) (FN : PySem.SupX.FieldName x) (hr : Room k X.A) (tk : Takes X W) (ha : PA X [a] ta) (hg : Gl X cn := by rfl)
    (hdb : (cn == ("__debug__" : Str)) = false := by decide)
    (he : starEach (a :: []) X.env = (false, eval a X.env) :: starEach [] X.env := by rfl) (hpl : (backTo pos (starEach [] X.env)).any (·.1) = false := by rfl) :
    PS X (.Raise (some (.Call (.Name cn p) [a] [] pos)) none pos2) (tRaiseSup C x W ta) := ps_raise hc tk (pmk_sup T FN hr ha hg hdb he hpl)
/-- e.x, e the exception that the suite holds (at a; its class cls, its dict d) -/
def tBySup (C : Addr) (x : Str) (a : Addr) (cls : Value) (d : Option Addr) (te : TE) : TE := fun σ H Q => te σ H fun y H1 => y = .ref a ∧ cls = .ref C ∧ ∃ (dd : Addr) (v : V), d = some dd ∧ H1 dd = some (.xd [(x, v)]) ∧ Q v H1
theorem pe_bySup {a : Addr} {oe : Obj} {cls : Value} {d : Option Addr} {pn : List (Addr × Obj)} {e : Expr} {te : TE} {pos : Pos} (T : PySem.SupX.Txt X.prog X.K X.mg cn qual x msg C fI) (hz : Zc cls d oe) (hf : ∃ vs, oe.data = .fields vs) (he : PE (X.suite a ((a, oe) :: pn)) e te)
    (hb : attributeBase e x X.env (eval e X.env) = eval e X.env := by rfl) :
    PE (X.suite a ((a, oe) :: pn)) (.Attribute e x pos) (tBySup C x a cls d te) := by
  refine ⟨fun pins s σ H Q I h => ?_⟩
  refine attr_of hb (thn (he.run pins s σ H _ I h) fun u s1 hh => ?_)
  obtain ⟨y, H1, I1, rx, ex, ec, dd, v, ed, ea, q⟩ := hh
  subst ex
  obtain rfl : u = Value.ref a := rx
  subst ec
  subst ed
  obtain ⟨ha, _⟩ := I1.pin (a, oe) (List.mem_append_left _ List.mem_cons_self)
  obtain ⟨vs, hd⟩ := hf
  have hx : ObjOk X.prog X.w H1 s1.heap dd (.xd [(x, v)]) := I1.hok dd _ ea
  obtain ⟨mA, hns, hr⟩ := hx
  obtain ⟨od, ho, hl⟩ := lookIn_ns hns
  have l : List.lookup x [(x, v)] = some v := by simp [List.lookup]
  obtain ⟨u, hu, ru⟩ := RelO.some_of (v := v) (o := mA x) (by rw [← l]; exact hr x)
  have J : PySem.W.InstAt s1.heap a oe C (some od) := ⟨ha, hz.1, by unfold PySem.W.notCls; rw [hd] <;> rfl, by rw [hz.2]; exact ho⟩
  exact HandSPX.exc_get I1.kIn J T.ga T.gg T.exC (PySem.W.findObj_own T.hdC T.noN rfl (by rw [hl, hu])) (handed_of ru) ⟨v, H1, I1.tok _, ru, q⟩
end
end L2
set_option Elab.async false
set_option linter.all false
set_option maxRecDepth 100000
set_option maxHeartbeats 2000000
/-! isinstance of a caught exception that has its own dict -/
namespace PySem.SupX
open PySem PySem.Spec PySem.Calls PyProof.Rows PySem.W
section
variable {prog : Program} {w : World} {A : Around} {E : Value → Shared → Prop} {s : Shared} {K : Frag} {a D : Addr} {ox : Obj} {od : Option Obj}
theorem data_at {g v : Value} {name : Str} (od : Option Obj) (hc : (clsIn K D).isSome = true) (ha : findIn K (.ref D) name = some (some v)) (hg : specialIn K v "__get__" = some (some g)) (ht : takesIn K v = some true) : findObj K D od name = some (.bind g v) := by
  cases od with
  | none => exact findObj_dataN hc ha hg ht
  | some o => exact findObj_data hc ha hg ht
/-- e.__class__, as isinstance asks for it -/
theorem its_class {Q : Option Value → Shared → Prop} (C : L2.ExcC K D) (X : K.In s.heap) (I : InstAt s.heap a ox D od) (h : Q (some (.ref D)) { s with toks := s.toks + 1 }) : wpAny (model prog w) A (getAttr? (.ref a) "__class__") Q E s := by
  obtain ⟨cd, hcd, _⟩ := any_some C.hd
  have found := data_at od (show (clsIn K D).isSome = true by rw [hcd]; rfl) C.ha C.hn C.ht
  obtain ⟨hp, g, d, t, os⟩ := s
  have Lty := I.type (M := model prog w)
  have Lex : Looks (model prog w) hp (isInstance (.ref a) (.type "BaseException")) true := Lty.andThen (looks_subIn X C.hs)
  have no : (Value.builtin "BaseException.__getattribute__" == Value.builtin "object.__getattribute__") = false := by decide +kernel
  unfold getAttr? getAttrBy? getAttrBy
  refine wpAny_bind (wpAny_mkText (wpAny_bind (wpAny_attempt (wpAny_holding (wpAny_bind (Lty.at (wpAny_bind ((looks_findIn (M := model prog w) X C.hg).at ?_))))))))
  show wpAny _ _ (if (onTheHeap (Value.ref D) && Value.builtin "BaseException.__getattribute__" == Value.builtin "object.__getattribute__") = true then _ else _) _ _ _
  rw [if_neg (by rw [no]; exact Bool.noConfusion)]
  unfold getAttrByItsOwn hookBefore
  refine wpAny_bind ?_
  rw [if_pos (show onTheHeap (Value.ref D) = true from rfl)]
  refine (looks_findIn (M := model prog w) X C.hk).at (wpAny_bind (wpAny_attempt (wpAny_holding ?_)))
  unfold callGetattribute
  rw [if_neg (show ¬ ((false && onTheHeap (Value.builtin "BaseException.__getattribute__")) = true) from Bool.noConfusion)]
  unfold boundAndCalled
  rw [PySem.F.excAttr_ValueError.ga.bind (.ref a)]
  refine wpAny_bind (wpAny_pure ?_)
  show wpAny _ _ (call (.builtin "BaseException.__getattribute__") [.ref a, .str "__class__" t]) _ _ _
  refine wpAny_call (codeAny_call_builtin PySem.F.excAttr_ValueError.ga.plain PySem.F.entry_bexc_ga (@check_slot (model prog w) _ _ ⟨hp, g, d, t + 1, os⟩ "BaseException.__getattribute__" "BaseException" "__getattribute__" (.ref a) [.str "__class__" t] [] _
    (by decide +kernel) (by decide +kernel) Lex (PySem.F.args_bexc_ga (.ref a) (.str "__class__" t)) ?_))
  unfold Builtin.«object.__getattribute__»
  refine wpAny_bind (wpAny_of_eq (a := ((Value.ref a : Value), [Value.str "__class__" t])) (by first | rfl | (simp only [slotArgs]; rfl)) (wpAny_bind (wpAny_pure (wpAny_bind (Lty.at (wpAny_bind ((looks_find (M := model prog w) X I found).at ?_)))))))
  show wpAny _ _ (holding [Value.builtin "object.__class__"] (call (.builtin "getset_descriptor.__get__") [.builtin "object.__class__", .ref a, .ref D]) >>= ret) _ _ _
  refine wpAny_bind (wpAny_holding (wpAny_call (class_get (s := ⟨hp, g, d, t + 1, os⟩) (ox := ox) (od := od) X I C.hm (wpAny_pure ?_))))
  show wpAny _ _ (handedOut (.ref D)) _ _ _
  rw [handedOut_of (v := .ref D) rfl]
  first
    | exact wpAny_pure (wpAny_pure h)
    | exact wpAny_pure h
    | exact wpAny_pure (wpAny_bind (wpAny_pure (wpAny_pure h)))
theorem kitx_excD (C : L2.ExcC K D) : KitX K (.ref a) (.ref D) (fun h => InstAt h a ox D od) where
  ty := fun _ _ _ I => I.type
  it := fun _ _ X _ => by
    obtain ⟨cd, hcd, _⟩ := any_some C.hd
    unfold clsIn at hcd
    split at hcd
    · rename_i ho
      intro A' Q' E' s' k q
      unfold isType loadHead
      exact wpAny_bind (wpAny_loadPart (k _ _ (X _ _ ho)) (wpAny_pure q))
    · cases hcd
  ne := fun h tp dd its n sl X htp => by
    obtain ⟨cd, hcd, _⟩ := any_some C.hd
    refine Bool.eq_false_iff.mpr fun q => ?_
    have e : D = tp := Value.ref.inj (beq_iff_eq.mp q)
    subst e
    unfold clsIn at hcd
    split at hcd
    · rename_i ho
      have z := (X _ _ ho).symm.trans htp
      cases z
    · cases hcd
  ca := fun X I k => its_class C X I k
end
end PySem.SupX
namespace L2
open PySem PySem.Spec PyProof.Rows
/-- isinstance(e, c), e the exception that the suite holds, of the class at D, with its own dict -/
theorem call_isSup {X : Cx} {a D dd : Addr} {oe : Obj} {pn : List (Addr × Obj)} {fs : List (Str × V)} (C : ExcC X.K D) (hz : Zc (.ref D) (some dd) oe) (hf : ∃ vs, oe.data = .fields vs) : CallR (X.suite a ((a, oe) :: pn)) (.builtin "isinstance")
    (fun xs H Q => H dd = some (.xd fs) ∧ rIsE X.K D a xs H Q) := by
  intro pins s σ H xs us Q I r h
  obtain ⟨hdd, c, cv, b, rfl, hcv, e, q⟩ := h
  cases r with
  | cons rx rr =>
    cases rr with
    | cons rt rr =>
      cases rr
      cases rx
      have ec := hcv _ rt
      subst ec
      obtain ⟨hget, _⟩ := I.pin (a, oe) (List.mem_append.mpr (.inl List.mem_cons_self))
      obtain ⟨vs, hv⟩ := hf
      obtain ⟨mA, ⟨oD, _, _, hoD, _⟩, _⟩ := (show ObjOk X.prog X.w H s.heap dd (.xd fs) from I.hok dd _ hdd)
      have J : PySem.W.InstAt s.heap a oe D (some oD) := ⟨hget, hz.1, by unfold PySem.W.notCls; rw [hv] <;> rfl, by rw [hz.2]; exact hoD⟩
      exact PySem.W.kia_one (PySem.SupX.kitx_excD C) I.kIn J e (fun z => nomatch z) fun tk => ⟨.bl b, H, I.kept (t' := tk) fun _ _ z => z, rfl, q⟩
end L2
set_option Elab.async false
set_option linter.all false
set_option maxRecDepth 100000
set_option maxHeartbeats 2000000
/-! repr of data at any depth, where no repr runs around: defs that are called so (FnOkG), the law's end for such a law. -/
namespace L2
open PySem PySem.Spec PyProof.Rows
section
variable {X : Cx}
theorem call_repr_data (hg : X.A.guards = some []) : CallR X (.builtin "repr") (fun xs H Q => ∃ v d, xs = [v] ∧ Dp X.K H v d ∧ d.showable = true ∧ d.hasDict = false ∧ X.A.units + (d.depth + 1) < cLine ∧ d.shown.length ≤ sizeLine ∧ Q (.str d.shown) H) := by
  intro pins s σ H xs us Q I r h
  obtain ⟨v, d, rfl, hd, hs, hn, hu, hz, q⟩ := h
  obtain ⟨u, rfl, ru⟩ := vals1 r
  have back : ∀ (h' : Heap) (t : Tok) (tk : Nat), (∀ b o, s.heap.get? b = some o → h'.get? b = some o) → EP X pins σ Q (.str d.shown t) { s with heap := h', toks := tk } :=
    fun h' t tk k => ⟨.str d.shown, H, I.kept (t' := tk) k, ⟨t, rfl⟩, q⟩
  cases hd with
  | non =>
    cases (show u = Value.none from ru)
    exact PySem.P.repr_of_none (back _ _ _ fun _ _ z => z)
  | bl b =>
    cases (show u = Value.bool b from ru)
    exact PySem.P.repr_of_bool (back _ _ _ fun _ _ z => z)
  | int i =>
    obtain ⟨t, e⟩ := ru
    subst e
    exact PySem.P.repr_of_int (by simpa [PyData.showable] using hs) (back _ _ _ fun _ _ z => z)
  | str x =>
    obtain ⟨t, e⟩ := ru
    subst e
    exact PySem.P.repr_of_str (back _ _ _ fun _ _ z => z) hz
  | lst hq ha =>
    cases ru
    obtain ⟨as, rd⟩ := Dp.reads I _ _ _ (.lst hq ha) rfl
    exact repr_of_reads' rd hs (PyData.noDict_hsm hn) hg hu (fun _ _ z => z) (fun h' t tk k => back h' t tk k) hz
  | tup hq ha =>
    cases ru
    obtain ⟨as, rd⟩ := Dp.reads I _ _ _ (.tup hq ha) rfl
    exact repr_of_reads' rd hs (PyData.noDict_hsm hn) hg hu (fun _ _ z => z) (fun h' t tk k => back h' t tk k) hz
end
/-- as FnOk, for calls around which no repr runs -/
structure FnOkG (P : Program) (w : World) (K : PySem.W.Frag) (mg : Str → Option Value) (base : Heap) (CX : CXT) (k : Nat) (f : Addr) (fd : FuncData) (ps : List Str) (sp : Sp) : Prop where
  len : ∀ vs H Q E, sp vs H Q E → vs.length = ps.length
  run : ∀ (A : Around) (outer : List Env) (s : Shared) (H : Hp) (args : Args) (us : List Value) (vs : List V) (Q : VK) (E : XK), A.guards = some [] → Room k A → Env0 P w K mg base A outer s H → BindsTo s fd args (ps.zip us) → Vals vs us → sp vs H Q E →
    codeAny (model P w) A (.call (.ref f) args) (CR CX outer P w H s Q E) s
section
variable {P : Program} {w : World} {K : PySem.W.Frag} {mg : Str → Option Value} {base : Heap} {x qual : Str} {params : Arguments} {body : List Stmt} {scope : Scope} {dvs : List V} {kws : List (Str × V)} {f : Addr} {fd : FuncData}
theorem FunD.okG {CX : CXT} {N ps : List Str} {k : Nat} {sp : Sp} (F : FunD K x qual params body scope dvs kws f fd) (S : FnScope N ps scope) (len : ∀ vs H Q E, sp vs H Q E → vs.length = ps.length)
    (hbody : ∀ (cdv : Value) (A : Around) (outer : List Env) (s : Shared) (H : Hp) (vs : List V) (Q : VK) (E : XK), (A.deeper (envOfC qual scope s.heap.objs.size f cdv)).guards = some [] → Room k (A.deeper (envOfC qual scope s.heap.objs.size f cdv)) → sp vs H Q E →
      ∃ t, PSs (cxOf CX P w K mg base N qual scope f cdv A outer s H E) body t ∧ t { nx := fun _ H' => Q .non H', rt := Q } (start N vs) H) : FnOkG P w K mg base CX (k + 1) f fd ps sp := by
  obtain ⟨oc, od, dV, kV, doc, pm, an, cdv, ct, osl, rfl, lk, hcd, _, _⟩ := F.ex
  refine ⟨len, fun A outer s H args us vs Q E hgA hr e0 hb r hsp => ?_⟩
  have hl := len _ _ _ _ hsp
  have keep0 : ∀ b o, base.get? b = some o → s.heap.get? b = some o := fun b o e => (e0.bs b o e).1
  have KX : K.In s.heap := e0.mod.kin.keeps keep0
  refine codeAny_call_function hr.depth (KX _ _ lk) rfl S.co S.gen rfl (PySem.W.codeRec_of KX hcd) (hb _ _ _ _ (wpAny_newFunctionEnv_cells S.kind (fun ⟨n, v⟩ hy => (S.par n (List.of_mem_zip hy).1).imp id fun q => ⟨q, PySem.W.cellsFrom_some _ _ _ (.inl q)⟩) fun env he s1 z => ?_))
  subst he
  refine ⟨(e0.mod.nolimit.keeps keep0).keeps z.toInCall.keep, codeAny_func ?_⟩
  have hgD : (A.deeper (envOfC qual scope s.heap.objs.size f cdv)).guards = some [] := by
    first
      | exact hgA
      | (show pushGuards _ A.guards = some []; rw [hgA]; rfl)
  obtain ⟨t, ht, hq⟩ := hbody cdv A outer s H vs Q E hgD (hr.deeper _) hsp
  refine wpAny_mono (ht.run [] s1 (start N vs) H _ (inv_start S hr.hd e0 hl r z) hq) (fun fl s' hs => ?_) fun e s' hs => hs
  cases fl with
  | ret u =>
    obtain ⟨v, σ', H', J, rv, q⟩ := hs
    exact ⟨v, H', J.os, J.bare, J.base, J.hok, rv, q⟩
  | next =>
    obtain ⟨σ', H', J, q⟩ := hs
    exact ⟨V.non, H', J.os, J.bare, J.base, J.hok, rfl, q⟩
  | brk =>
    obtain ⟨_, _, _, q⟩ := hs
    exact q.elim
  | cont =>
    obtain ⟨_, _, _, q⟩ := hs
    exact q.elim
end
section
variable {X : Cx} {CX : CXT} {k : Nat} {f : Addr} {fd : FuncData} {ps : List Str} {sp : Sp} {dvs : List V} {ds : List Value} {E : XK} {x : Str} {p pos : Pos} {e : Expr} {es : List Expr} {t : TA}
theorem pe_callG (F : FnOkG X.prog X.w X.K X.mg X.base CX k f fd ps sp) (hgd : X.A.guards = some []) (hr : Room k X.A) (hg : Gl X x) (hm : X.mg x = some (.ref f)) (hk : PySem.W.keepIn X.K (.ref f) = true) (hb : Binds X.K fd ps ds) (hd : Vals dvs ds) (hx : Passes CX X E)
    (ha : PA X (e :: es) t) (hdb : (x == ("__debug__" : Str)) = false := by decide) (he : starEach (e :: es) X.env = (false, eval e X.env) :: starEach es X.env := by rfl) (hpl : (backTo pos (starEach es X.env)).any (·.1) = false := by rfl) :
    PE X (.Call (.Name x p) (e :: es) [] pos) (tCall sp dvs E t) := by
  refine ⟨fun pins s σ H Q I h => ?_⟩
  refine wpAny_Call_Name_kw (ld_glob I hg hm (PySem.W.callWith_K (h₀ := X.base) I.ok.mod.kin hk (thn (ha.run pos pins s σ H _ I h) fun us s1 ⟨vs, H1, I1, r, q⟩ => ⟨I1.kIn, ?_⟩) he hpl) hdb)
  have r2 : Vals (vs ++ dvs) (us ++ ds) := r.append hd
  have hl : (us ++ ds).length = ps.length := r2.length.symm.trans (F.len _ _ _ _ q)
  refine wpAny_call (codeAny_mono (F.run X.A X.stack s1 H1 ⟨us, []⟩ (us ++ ds) (vs ++ dvs) Q E hgd hr I1.env0 (hb s1 us I1.kIn hl) r2 q) fun r s' hq => ?_)
  match r, hq with
  | .error er, hq => exact hx pins σ H1 s1 er s' I1 hq
  | .ok (.ret u), hq => exact I1.after hq
  | .ok .next, hq => exact hq.elim
  | .ok .brk, hq => exact hq.elim
  | .ok .cont, hq => exact hq.elim
end
end L2
namespace L2
open PySem PySem.Spec PyProof.Rows
section
variable {P : Program} {w : World} {K : PySem.W.Frag} {mg mb : Str → Option Value} {CX : CXT} {k : Nat} {fa a : Addr} {fd : FuncData} {x : Str} {sp : Sp} {s₁ : Shared} {vs : List Value} {ns : List Int}
/-- the law's call from an abstract heap H in which the script alone may stand -/
theorem law_callG_at {H : Hp} (hO : Only H) (hS : SqL K H a (ns.map V.int)) (hok : HOk P w H s₁.heap) (hA : ∀ b, H b ≠ none → b = a) (hK : H a ≠ none → K.lookup a = none)
    (KX : K.In s₁.heap) (hns : s₁.heap.Ns mainGlobals mg) (hb : s₁.heap.Ns builtinsNs mb) (hbb : ∀ x : Str, x ≠ "__name__" → mb x = bootBuiltins x) (hlim : s₁.heap.NoLimit) (hg : s₁.gens = #[])
    (ha : s₁.heap.get? a = some { cls := .type "list", data := .seq vs.toArray }) (hr : Room k callerA)
    (F : ∀ base : Heap, K.In base → base.Ns mainGlobals mg → FnOkG P w K mg base CX k fa fd [x] sp) (hbind : ∀ (s : Shared) (u : Value), BindsTo s fd ⟨[u], []⟩ [(x, u)])
    (hsp : sp [.ref a] H (fun v _ => v = .bl true) fun _ _ _ => False)
    (hCX : ∀ H e s', CX [] H s₁ (fun _ _ _ => False) e s' → False) :
    codeAny (model P w) callerA (.call (.ref fa) ⟨[.ref a], []⟩) (fun r s' => r = .ok (.ret (.bool true)) ∧ OldK s₁.heap s'.heap ∧ s'.os = s₁.os ∧ AllBare s'.gens) s₁ := by
  have seen : ∀ {b : Addr}, H b ≠ none → s₁.heap.get? b = some { cls := .type "list", data := .seq vs.toArray } := fun {b} q => by rw [hA b q]; exact ha
  have noD : ∀ {b : Addr} {o : Obj} {es : Array DictEntry} {ep : Nat}, s₁.heap.get? b = some o → o.data = .dict es ep → H b = none := fun {b o es ep} e d => by
    by_cases q : H b = none
    · exact q
    · have e2 := seen q
      rw [e] at e2
      rw [Option.some.inj e2] at d
      cases d
  have toNs : ∀ {b : Addr} {m : Str → Option Value}, s₁.heap.Ns b m → (hidT s₁.heap H).Ns b m := fun {b m} ⟨o, es, ep, e, d, r⟩ => ⟨o, es, ep, hidT_get e (noD e d), d, r⟩
  have KB : K.In (hidT s₁.heap H) := fun b o e => hidT_get (KX b o e) (by
    by_cases q : H b = none
    · exact q
    · have z := hA b q
      subst z
      have e' : List.lookup b K = some o := e
      rw [hK q] at e'
      cases e')
  obtain ⟨mc, c1, c2⟩ := hlim
  have e0 : Env0 P w K mg (hidT s₁.heap H) callerA [] s₁ H :=
    ⟨rfl, ⟨KB, toNs hns, ⟨mb, toNs hb, hbb⟩, ⟨mc, toNs c1, c2⟩⟩, fun b o e => of_hidT e, Nat.le_of_eq (hidT_size _ _), trivial, fun b hb => absurd (show b ∈ ([] : List Addr) from hb) (by simp), hok, .of_eq hg⟩
  refine codeAny_mono ((F _ KB (toNs hns)).run callerA [] s₁ H ⟨[.ref a], []⟩ [.ref a] [.ref a] _ _ rfl hr e0 (hbind s₁ (.ref a)) (.cons rfl .nil) hsp) fun r s' h => ?_
  match r, h with
  | .error e, h => exact (hCX H e s' h).elim
  | .ok .next, h => exact h.elim
  | .ok .brk, h => exact h.elim
  | .ok .cont, h => exact h.elim
  | .ok (.ret u), h =>
    obtain ⟨v, H', os, bare, un, hok', r', q⟩ := h
    obtain rfl : v = .bl true := q
    obtain rfl : u = Value.bool true := r'
    refine ⟨rfl, OldK.of_keep fun b o e => ?_, os, bare⟩
    rcases hO b with z | ⟨ob, xs, z⟩
    · exact un.keep b o e z (by intro y; exact absurd (show b ∈ ([] : List Addr) from y) (by simp)) (by simp)
    · obtain ⟨e1, _⟩ := hok b _ z
      obtain ⟨e2, _⟩ := hok' b _ (un.frzs b ob _ z)
      rw [e] at e1
      rw [Option.some.inj e1]
      exact e2
theorem law_callG (KX : K.In s₁.heap) (hns : s₁.heap.Ns mainGlobals mg) (hb : s₁.heap.Ns builtinsNs mb) (hbb : ∀ x : Str, x ≠ "__name__" → mb x = bootBuiltins x) (hlim : s₁.heap.NoLimit) (hg : s₁.gens = #[])
    (ha : s₁.heap.get? a = some { cls := .type "list", data := .seq vs.toArray }) (hi : IntsAre vs ns) (hl : ns.length ≤ sizeLine) (hr : Room k callerA)
    (F : ∀ base : Heap, K.In base → base.Ns mainGlobals mg → FnOkG P w K mg base CX k fa fd [x] sp) (hbind : ∀ (s : Shared) (u : Value), BindsTo s fd ⟨[u], []⟩ [(x, u)])
    (hsp : ∀ H : Hp, Only H → SqL K H a (ns.map V.int) → sp [.ref a] H (fun v _ => v = .bl true) fun _ _ _ => False)
    (hCX : ∀ H e s', CX [] H s₁ (fun _ _ _ => False) e s' → False) :
    codeAny (model P w) callerA (.call (.ref fa) ⟨[.ref a], []⟩) (fun r s' => r = .ok (.ret (.bool true)) ∧ OldK s₁.heap s'.heap ∧ s'.os = s₁.os ∧ AllBare s'.gens) s₁ := by
  have rv := vals_ints hi
  by_cases hk : K.lookup a = none
  · obtain ⟨T, hT⟩ : ∃ T : HO, T = .frz { cls := .type "list", data := .seq vs.toArray } (.lst (ns.map V.int)) := ⟨_, rfl⟩
    have at_ : ∀ {b : Addr} {u : HO}, (fun b => if b = a then some T else none) b = some u → b = a ∧ u = T := fun {b u} z => by
      by_cases q : b = a
      · exact ⟨q, (Option.some.inj ((if_pos q).symm.trans z)).symm⟩
      · cases (if_neg q).symm.trans z
    have hO : Only (fun b => if b = a then some T else none) := fun b => by
      by_cases q : b = a
      · exact .inr ⟨_, _, (if_pos q).trans (by rw [hT])⟩
      · exact .inl (if_neg q)
    have hS : SqL K (fun b => if b = a then some T else none) a (ns.map V.int) := .inl (.inr ⟨_, (if_pos rfl).trans (by rw [hT])⟩)
    refine law_callG_at hO hS (fun b u z => ?_) (fun b z => ?_) (fun _ => hk) KX hns hb hbb hlim hg ha hr F hbind (hsp _ hO hS) hCX
    · obtain ⟨rfl, rfl⟩ := at_ z
      rw [hT]
      exact ⟨ha, by rw [List.length_map]; exact hl, vs, _, rv, ha⟩
    · by_cases q : b = a
      · exact q
      · exact absurd (if_neg q) z
  · obtain ⟨o, ho⟩ := Option.ne_none_iff_exists'.mp hk
    have e := KX a o ho
    rw [ha] at e
    cases e
    have hO : Only (fun _ => none) := fun _ => .inl rfl
    have hS : SqL K (fun _ => none) a (ns.map V.int) := .inr ⟨_, vs.toArray, _, ho, rfl, rfl, rfl, by rw [List.size_toArray, hi.length]; exact hl, by simpa using rv⟩
    exact law_callG_at hO hS (fun b u z => by cases z) (fun b z => absurd rfl z) (fun z => absurd rfl z) KX hns hb hbb hlim hg ha hr F hbind (hsp _ hO hS) hCX
end
/-- a law: F gives the written part, the function object, the promise over every base; the script's ints have at most 2^20 bits each -/
theorem walk_ofG {l : PySem.W.OpenLaw} {n k : Nat} {q : Program} {loose : List Str} {XP : (Str → Option Value) → Heap → Prop} {YP : World → Heap → Prop} {d : DefRec} {CX : World → CXT} {x : Str}
    (hn : l.most = some n) (hn2 : n ≤ sizeLine) (hdf : d.params.defaults = []) (hr : Room k callerA)
    (F : ∀ (w : World) (mg : Str → Option Value) (fa : Addr) (h : Heap), YP w h → h.Ns mainGlobals mg → mg d.name = some (.ref fa) →
      ∃ (K : PySem.W.Frag) (fd : FuncData) (sp : Sp), K.In h ∧ (∀ (s : Shared) (u : Value), BindsTo s fd ⟨[u], []⟩ [(x, u)]) ∧
        (∀ (H : Hp) (a : Addr) (ns : List Int), ns.length ≤ n → (∀ z ∈ ns, Builtin.Int.intBits z ≤ 1048576) → Only H → SqL K H a (ns.map V.int) → sp [.ref a] H (fun v _ => v = .bl true) fun _ _ _ => False) ∧
        ∀ base : Heap, K.In base → base.Ns mainGlobals mg → FnOkG l.prog w K mg base (CX w) k fa fd [x] sp)
    (hCX : ∀ (w : World) (H : Hp) (s : Shared) (e : Value) (s' : Shared), CX w [] H s (fun _ _ _ => False) e s' → False) :
    PySem.W.WalkO q loose XP YP l.row.toRowW d [] (fun f vs => PySem.call f vs) := by
  refine Att.attach_callB hn hdf fun w s₀ s₁ mg mb fa o pm cd doc a vs ns G Y ho hd hcd hmg hobj hints hlen hbits hg => ?_
  obtain ⟨K, fd, sp, KX, hb, hsp, hF⟩ := F w mg fa _ Y G.T.g hmg
  exact law_callG KX G.T.g G.T.b G.T.builtins G.T.nolimit hg hobj hints (Nat.le_trans hlen hn2) hr hF hb (fun H hO hS => hsp H a ns hlen hbits hO hS) fun H e s' => hCX w H s₁ e s'
end L2
set_option Elab.async false
set_option linter.all false
set_option maxRecDepth 100000
set_option maxHeartbeats 2000000
/-! Some operations by values: text += text at a name, xs[i] op= e of a list, text * n, list(text). -/
namespace L2
open PySem PySem.Spec PyProof.Rows
section
variable {X : Cx}
def rAddT : TIp := fun x y H Q => ∃ i j, x = .str i ∧ y = .str j ∧ i.length + j.length ≤ sizeLine ∧ Q (.str (i ++ j)) H
theorem ip_addS : PIp X .Add rAddT := fun pins s σ H x y v u Q I r1 r2 h => iop_add_str pins s σ H x y v u Q I r1 r2 h
theorem get_list : PGet X (rIxL X.K) := by
  intro pins s σ H x y v u Q I rx ry h
  obtain ⟨p, xs, i, z, rfl, rfl, hq, he, q⟩ := h
  cases rx
  obtain ⟨t, rfl⟩ := ry
  obtain ⟨its, r, pl, hz⟩ := I.list hq
  obtain ⟨j, h1, h2, h3, h4, h5⟩ := atI_get he
  obtain ⟨w, ew, rw'⟩ := r.get h2
  have hl := r.length
  have hn := line63
  have fin : EP X pins σ Q w s := ⟨z, H, I, rw', q⟩
  by_cases h0 : 0 ≤ i
  · have hj : i.toNat = j := Option.some.inj ((seqIndex_of h0 h5).symm.trans h1)
    exact wpAny_getItem_list pl.isList h0 (by omega) (by rw [hj]; simpa using ew) fin
  · have hj : (i + (its.toArray.size : Int)).toNat = j := by
      rw [List.size_toArray, ← hl]
      exact Option.some.inj ((seqIndex_neg (by omega) h4).symm.trans h1)
    exact wpAny_getItem_list_neg pl.isList (by omega) (by rw [List.size_toArray, ← hl]; exact h4) (by omega) (by rw [hj]; simpa using ew) fin
theorem rep_size {α : Type} (a : Array α) : ∀ (n : Nat) (acc : Array α), ((List.replicate n a).foldl (· ++ ·) acc).size = acc.size + n * a.size
  | 0, acc => by simp
  | n + 1, acc => by
    rw [List.replicate_succ, List.foldl_cons, rep_size a n, Array.size_append, Nat.succ_mul]
    omega
/-- text * n -/
def rMulT : R2 := fun x y H Q => ∃ (z : Str) (n : Nat), x = .str z ∧ y = .int (n : Int) ∧ 2 ≤ n ∧ 1 ≤ z.length ∧ z.length * n ≤ 100000 ∧ Q (.str ⟨(List.replicate n z.cps).foldl (· ++ ·) #[]⟩) H
theorem op_mulT : OpR X (binaryOp .Mult) rMulT := by
  intro pins s σ H x y v u Q I rx ry h
  obtain ⟨z, n, rfl, rfl, h2, h1, hz, q⟩ := h
  obtain ⟨t, rfl⟩ := rx
  obtain ⟨t', rfl⟩ := ry
  have hn : n ≤ 100000 := Nat.le_trans (Nat.le_mul_of_pos_left n h1) hz
  have c1 : ¬ (n : Int) < 1 := by omega
  have e1 : ((n : Int) == 1) = false := beq_eq_false_iff_ne.mpr (by omega)
  have e2 : (z.length == 0) = false := beq_eq_false_iff_ne.mpr (by omega)
  have c2 : ¬ (((n : Int) == 1 || z.length == 0) = true) := by rw [e1, e2]; exact Bool.noConfusion
  refine PySem.P.mul_str ?_ (fun _ _ => ?_) (fun _ _ => ?_) ?_
  · rw [decide_eq_false (by omega), decide_eq_false (by omega)]
    rfl
  · intro hgt
    have h3 : (z.length : Int) * n ≤ 100000 := by
      rw [← Int.natCast_mul]
      omega
    have h4 : (z.length : Int) ≤ (2 ^ 63 - 1) / (n : Int) := by
      rw [Int.le_ediv_iff_mul_le (by omega)]
      omega
    omega
  · show decide (z.length * n > sizeLine) = false
    refine decide_eq_false ?_
    rw [sizeLine_eq]
    omega
  · rw [if_neg c1, if_neg c2]
    refine ⟨?_, .str _, H, I.tok _, ⟨_, rfl⟩, q⟩
    show ((List.replicate n z.cps).foldl (· ++ ·) #[]).size ≤ sizeLine
    rw [rep_size, sizeLine_eq]
    have e : z.cps.size * n ≤ 100000 := hz
    rw [Nat.mul_comm] at e
    show 0 + n * z.cps.size ≤ _
    omega
theorem vals_pt : ∀ (xs : List V) (us : List Value), xs.length = us.length → (∀ (j : Nat) (u : Value), us[j]? = some u → ∃ x, xs[j]? = some x ∧ RelV x u) → Vals xs us
  | [], [], _, _ => .nil
  | [], _ :: _, h, _ => by cases h
  | _ :: _, [], h, _ => by cases h
  | x :: xs, u :: us, h, f => by
    obtain ⟨y, h1, h2⟩ := f 0 u rfl
    have e : x = y := Option.some.inj h1
    subst e
    exact .cons h2 (vals_pt xs us (Nat.succ.inj h) fun j v q => f (j + 1) v q)
/-- list(text) -/
def rListT : List V → Hp → VK → Prop := fun xs H Q => ∃ z : Str, xs = [.str z] ∧ z.length ≤ 100000 ∧ ∀ l, H l = none → Q (.ref l) (upd H l (.lst (z.cps.toList.map fun c => V.str ⟨#[c]⟩)))
theorem call_list_txt (hc : X.calm = true) : CallR X (.type "list") rListT := by
  intro pins s σ H xs us Q I r h
  obtain ⟨z, rfl, hz, q⟩ := h
  obtain ⟨u, rfl, t, rfl⟩ := vals1 r
  refine call_list_str (I.ok.hd hc) z t (fun h' tk acc c' k e hi => ?_) (by rw [sizeLine_eq]; have : z.cps.size ≤ 100000 := hz; omega)
  have hf : H s.heap.objs.size = none := I.hok.fresh (Nat.le_refl _)
  have hv : Vals (z.cps.toList.map fun c => V.str ⟨#[c]⟩) acc.toList := by
    refine vals_pt _ _ (by rw [List.length_map, Array.length_toList, Array.length_toList, hi.1]) fun j u hu => ?_
    obtain ⟨c, t', hc', rfl⟩ := hi.2 j u (by rw [← Array.getElem?_toList]; exact hu)
    exact ⟨V.str ⟨#[c]⟩, by rw [List.getElem?_map, Array.getElem?_toList, hc']; rfl, t', rfl⟩
  exact ⟨.ref s.heap.objs.size, upd H s.heap.objs.size (.lst (z.cps.toList.map fun c => V.str ⟨#[c]⟩)), I.laid (t' := tk) k (Nat.le_refl _) ⟨by rw [List.length_map, Array.length_toList, sizeLine_eq]; have : z.cps.size ≤ 100000 := hz; omega, acc.toList, c', hv, by simpa using e⟩, rfl, q _ hf⟩
end
end L2
set_option Elab.async false
set_option linter.all false
set_option maxRecDepth 100000
set_option maxHeartbeats 2000000
/-! The head's facts: those of HeadHook2, the own exceptions of KExc, any further Bool of the written part (cStatics is in it). -/
namespace He2
open PySem PySem.Spec PyProof.Rows L2 He PySem.W PySem.HandSPX
/-- one own exception class: its name, its __init__'s qualified name, the field, the text, the def -/
structure SupD where
  cn : Str
  qual : Str
  x : Str
  msg : Str
  st : Stmt
abbrev FnC : Type := Option (Str × Str × Arguments × FuncBody × Scope × Addr × List Str × Value × Value × Addr)
def fnC (K : Frag) (f : Addr) : FnC := match K.lookup f with
  | some ⟨_, _, .func fd, _⟩ => some (fd.name, fd.qualname, fd.params, fd.body, fd.scope, fd.globals, fd.closure.map (·.1), fd.defaults, fd.kwdefaults, fd.builtins)
  | _ => none
def SupD.val (d : SupD) : FnC := some ("__init__", d.qual, defArgs d.st, .stmts (defBody d.st), defScope d.st, mainGlobals, ["__class__"], .none, .none, builtinsNs)
def SupD.fn (K : Frag) (d : SupD) : Addr := ma K (ga K d.cn) "__init__"
/-- a class over ValueError, its instances' layout -/
def clsB (K : Frag) (C : Addr) : Bool := match K.lookup C with
  | some ⟨.type t, _, .cls cd, sl⟩ => decide (t = "type") && (match cd.mro, sl.toList with
    | .ref C' :: bm, [_, _, _, _, some (.builtin n), _] => decide (C' = C) && (decide (n = "ValueError.__new__") && (!cd.hasDel && (cd.hasDict && refsVE bm)))
    | _, _ => false)
  | _ => false
theorem clsB_ok {K : Frag} {C : Addr} (h : clsB K C = true) : ∃ nm q N bs bm sn sub ab col dd k0 k1 k2 k3 k5, K.lookup C = some (excClassObj nm q C N bs bm true sn sub ab col dd k0 k1 k2 k3 k5 "ValueError.__new__") ∧ refsVE bm = true := by
  unfold clsB at h
  split at h
  · rename_i t dd cd sl ho
    obtain ⟨ht, h⟩ := ba h
    split at h
    · rename_i C' bm k0 k1 k2 k3 n k5 hm hs
      obtain ⟨h1, h⟩ := ba h
      obtain ⟨h2, h⟩ := ba h
      obtain ⟨h3, h⟩ := ba h
      obtain ⟨h4, h5⟩ := ba h
      obtain ⟨nm, bs, mro, ns, qn, hd, sn, sub, ab, col, del⟩ := cd
      dsimp only at hm h3 h4
      have e1 := of_decide_eq_true h1
      have e2 := of_decide_eq_true h2
      have e3 := of_decide_eq_true ht
      have e4 : del = false := by cases del with
        | false => rfl
        | true => cases h3
      subst hm e1 e2 e3 e4 h4
      have hsl : sl = #[k0, k1, k2, k3, some (.builtin "ValueError.__new__"), k5] := by
        obtain ⟨l⟩ := sl
        simp only at hs
        rw [hs]
      subst hsl
      exact ⟨nm, qn, ns, bs, bm, sn, sub, ab, col, dd, k0, k1, k2, k3, k5, ho, h5⟩
    · cases h
  · cases h
/-- the def's code object tells the module's file; its cell holds the class -/
def initB (K : Frag) (mf : Str) (C f : Addr) (qual : Str) : Bool := match K.lookup f with
  | some ⟨_, _, .func fd, _⟩ => (match fd.code, fd.closure with
    | .ref cda, [(_, cc)] => codeIn K (.ref cda) qual && ((match K.lookup cda with
      | some ⟨_, _, .fields vs, _⟩ => (match (vs[2]? : Option Value) with
        | some (Value.str file _) => mf == file
        | _ => false)
      | _ => false) && (match K.lookup cc with
      | some ⟨_, _, .cell (some (.ref D)), _⟩ => decide (D = C)
      | _ => false))
    | _, _ => false)
  | _ => false
theorem initB_ok {K : Frag} {mf : Str} {d : SupD} {C f : Addr} (e : fnC K f = d.val) (h : initB K mf C f d.qual = true) :
    ∃ oc od doc pm an cda cc ct osl, K.lookup f = some ⟨oc, od, .func (ksFn "__init__" d.qual (defArgs d.st) (defBody d.st) (defScope d.st) .none .none doc pm an (.ref cda) ct cc), osl⟩ ∧ codeIn K (.ref cda) d.qual = true ∧
      (∃ ccl cdd vs ccs file tf, K.lookup cda = some ⟨ccl, cdd, .fields vs, ccs⟩ ∧ vs[2]? = some (.str file tf) ∧ (mf == file) = true) ∧ (∃ cl cld csl, K.lookup cc = some ⟨cl, cld, .cell (some (.ref C)), csl⟩) := by
  unfold initB at h
  unfold fnC at e
  split at h
  · rename_i oc od fd osl ho
    rw [ho] at e
    obtain ⟨n1, n2, n3, n4, n5, n6, n7, n8, n9, n10, n11, n12, n13, n14, n15⟩ := fd
    have e2 : (some (n1, n2, n3, n4, n5, n6, n7.map (·.1), n8, n9, n15) : FnC) = d.val := e
    unfold SupD.val at e2
    simp only [Option.some.injEq, Prod.mk.injEq] at e2
    obtain ⟨h1, h2, h3, h4, h5, h6, h7, h8, h9, h10⟩ := e2
    subst h1 h2 h3 h4 h5 h6 h8 h9 h10
    dsimp only at h
    split at h
    · rename_i cda s cc
      have e7 : s = ("__class__" : Str) := by
        simpa using h7
      subst e7
      obtain ⟨c1, h⟩ := ba h
      obtain ⟨c2, c3⟩ := ba h
      refine ⟨oc, od, n10, n11, n12, cda, cc, n14, osl, ho, c1, ?_, ?_⟩
      · split at c2
        · rename_i ccl cdd vs ccs hcda
          split at c2
          · rename_i file tf hv
            exact ⟨ccl, cdd, vs, ccs, file, tf, hcda, hv, c2⟩
          · cases c2
        · cases c2
      · split at c3
        · rename_i cl cld D csl hcc
          rw [of_decide_eq_true c3] at hcc
          exact ⟨cl, cld, csl, hcc⟩
        · cases c3
    · cases h
  · cases h
/-- all facts but the def's own -/
def SupD.ok (K : Frag) (mf : Str) (d : SupD) : Bool :=
  let C := ga K d.cn
  let f := d.fn K
  eqO (nsIn K mainGlobals d.cn) (some (some (.ref C))) && (clsB K C && (eqO (findIn K (.ref C) "__setattr__") (some (some (.builtin "object.__setattr__"))) && (eqO (findIn K (.ref C) "__getattribute__") (some (some (.builtin "BaseException.__getattribute__"))) &&
  (eqO (findIn K (.ref C) "__getattr__") (some none) && (eqO (findIn K (.ref C) d.x) (some none) && (eqO (findIn K (.ref C) "__init__") (some (some (.ref f))) && (decide (typeIn K (.ref f) = some (.type "function")) && (keepIn K (.ref C) &&
  (decide (subIn K (.ref C) (.type "BaseException") = some true) && (decide (subIn K (.ref C) (.type "ValueError") = some true) && (decide (typeIn K (.ref C) = some (.type "type")) && (hasDictIn K C && (decide (exmOne K (.ref C) (.ref C) = some true) &&
  (eqO (ks_superIn K C C "__init__") (some (some (.builtin "ValueError.__init__"))) && (decide (mroIn K C (.ref C) = some true) && (eqO (nsIn K cStatics "thirdparty.any") (some none) && (eqO (nsIn K mainGlobals "super") (some none) && (initB K mf C f d.qual &&
  (eqO (findIn K (.ref C) "__class__") (some (some (.builtin "object.__class__"))) && (eqO (specialIn K (.builtin "object.__class__") "__get__") (some (some (.builtin "getset_descriptor.__get__"))) && (decide (takesIn K (.builtin "object.__class__") = some true) && decide (mroIn K C (.type "object") = some true))))))))))))))))))))))
/-- what the text says of the def -/
def SupSt (d : SupD) : Prop := ∃ (p1 p2 : Pos) (j : Nat) (r0 r1 r2 r3 r4 r5 q1 q2 q3 q4 : Pos), defArgs d.st = SupX.prm d.x p1 p2 ∧ defBody d.st = SupX.bod d.x d.msg j r0 r1 r2 r3 r4 r5 q1 q2 q3 q4 ∧ defScope d.st = SupX.scp d.x ∧
  (∀ env : Env, swapsWith (SupX.eIni d.msg j r0 r1 r2 r3 r4) none r5.line env = pure false) ∧
  (∀ env : Env, eval (SupX.eIni d.msg j r0 r1 r2 r3 r4) env = (do
      let ov ← attributeBase (SupX.eSup r0 r1) "__init__" env (eval (SupX.eSup r0 r1) env)
      standAt r2.atName
      let (f, first) ← holding [ov] (getMethod ov "__init__" (L2.plainOf (SupX.eSup r0 r1) env))
      callWith r4 f first (backTo r4 (starEach [.Constant (.str d.msg) j r3] env)) []))
theorem sup_ok {P : Program} {K : Frag} {h : Heap} {mg : Str → Option Value} {mf : Str} {d : SupD} (X : K.In h) (G : h.Ns mainGlobals mg) (hmf : P.main.file = mf) (top : (P.main.scope.names.lookup ("super" : Str)).isSome = false) (S : SupSt d)
    (e : fnC K (d.fn K) = d.val) (c : d.ok K mf = true) : SupX.Txt P K mg d.cn d.qual d.x d.msg (ga K d.cn) (d.fn K) ∧ L2.ExcC K (ga K d.cn) := by
  unfold SupD.ok at c
  obtain ⟨c1, c⟩ := ba c
  obtain ⟨c2, c⟩ := ba c
  obtain ⟨c3, c⟩ := ba c
  obtain ⟨c4, c⟩ := ba c
  obtain ⟨c5, c⟩ := ba c
  obtain ⟨c6, c⟩ := ba c
  obtain ⟨c7, c⟩ := ba c
  obtain ⟨c8, c⟩ := ba c
  obtain ⟨c9, c⟩ := ba c
  obtain ⟨c10, c⟩ := ba c
  obtain ⟨c11, c⟩ := ba c
  obtain ⟨c12, c⟩ := ba c
  obtain ⟨c13, c⟩ := ba c
  obtain ⟨c14, c⟩ := ba c
  obtain ⟨c15, c⟩ := ba c
  obtain ⟨c16, c⟩ := ba c
  obtain ⟨c17, c⟩ := ba c
  obtain ⟨c18, c⟩ := ba c
  obtain ⟨c19, c⟩ := ba c
  obtain ⟨c20, c⟩ := ba c
  obtain ⟨c21, c⟩ := ba c
  obtain ⟨c22, c23⟩ := ba c
  obtain ⟨p1, p2, j, r0, r1, r2, r3, r4, r5, q1, q2, q3, q4, s1, s2, s3, s4, s5⟩ := S
  obtain ⟨oc, od, doc, pm, an, cda, cc, ct, osl, ho, hcd, hf, hcell⟩ := initB_ok e c19
  rw [s1, s2, s3] at ho
  refine ⟨{ gC := mg_of X G (eqO_ok c1), cls := clsB_ok c2, sa := eqO_ok c3, ga := eqO_ok c4, gg := eqO_ok c5, noN := eqO_ok c6, iC := eqO_ok c7, tC := of_decide_eq_true c8, kC := c9, exC := of_decide_eq_true c10, veC := of_decide_eq_true c11, tyC := of_decide_eq_true c12, hdC := c13, te := of_decide_eq_true c14, sup := eqO_ok c15, selfC := of_decide_eq_true c16, opq := eqO_ok c17, noSup := mg_none_of X G (eqO_ok c18), top := top, fn := ⟨oc, od, doc, pm, an, cda, cc, ct, osl, p1, p2, j, r0, r1, r2, r3, r4, r5, q1, q2, q3, q4, ho, hcd, by rw [hmf]; exact hf, hcell, s4, s5⟩ }, ?_⟩
  exact ⟨eqO_ok c4, eqO_ok c5, of_decide_eq_true c10, c13, eqO_ok c20, eqO_ok c21, of_decide_eq_true c22, of_decide_eq_true c23⟩
/-! ### the Hook -/
def asY (g : Addr → Option Obj) : Nat → List Addr
  | 0 => [mainGlobals, cStatics]
  | n + 1 => growD g (asY g n)
abbrev AlY : Type := AlD × List FnC × Bool
/-- what is asked: facts, defs, own exceptions, further Bools -/
structure Ask where
  fa : List Fa
  fn : List DefD
  sup : List SupD
  mf : Str
  ex : Frag → Bool
def Ask.obs (a : Ask) (K : Frag) : AlY := (obsD a.fa a.fn K, a.sup.map fun d => fnC K (d.fn K), (a.sup.all fun d => d.ok K a.mf) && a.ex K)
def Ask.val (a : Ask) : AlY := (valD a.fn, a.sup.map SupD.val, true)
def Ask.says (a : Ask) (K : Frag) : Prop := a.obs K = a.val
def Ask.obsG (a : Ask) (n : Nat) (g : Addr → Option Obj) : AlY := a.obs (frG g (asY g n))
def Ask.hook (a : Ask) (n : Nat) : Hook where
  α := AlY
  obs := fun s => a.obsG n s.heap.get?
  val := fun _ => a.val
  says := fun _ h => ∃ K : Frag, K.In h ∧ a.says K
  of := fun _ _ e => ⟨_, frG_in, e⟩
  keeps := fun _ _ _ ⟨K, hK, c⟩ k => ⟨K, Frag.In.keeps hK k, c⟩
theorem Ask.obsG_eq (a : Ask) {n : Nat} {g : Addr → Option Obj} {s : Shared} (h : ∀ a, g a = s.heap.get? a) : a.obsG n g = (a.hook n).obs s := by
  have e : g = s.heap.get? := funext h
  rw [e] <;> rfl
section
variable {a : Ask} {K : Frag}
theorem Ask.says.d (c : a.says K) : SaysD a.fa a.fn K := congrArg (fun z : AlY => z.1) c
theorem Ask.says.more (c : a.says K) : a.ex K = true := (ba (show ((a.sup.all fun d => d.ok K a.mf) && a.ex K) = true from congrArg (fun z : AlY => z.2.2) c)).2
theorem Ask.says.supd (c : a.says K) (i : Nat) {d : SupD} (h : a.sup[i]? = some d := by rfl) : fnC K (d.fn K) = d.val ∧ d.ok K a.mf = true := by
  have c1 := (ba (show ((a.sup.all fun d => d.ok K a.mf) && a.ex K) = true from congrArg (fun z : AlY => z.2.2) c)).1
  have e : a.sup.map (fun d => fnC K (d.fn K)) = a.sup.map SupD.val := congrArg (fun z : AlY => z.2.1) c
  have e2 : (a.sup.map fun d => fnC K (d.fn K))[i]? = (a.sup.map SupD.val)[i]? := by rw [e]
  rw [List.getElem?_map, List.getElem?_map, h] at e2
  exact ⟨Option.some.inj e2, List.all_eq_true.mp c1 d (List.mem_of_getElem? h)⟩
end
end He2
set_option Elab.async false
set_option linter.all false
set_option maxRecDepth 100000
set_option maxHeartbeats 4000000
namespace K93
open PySem PySem.Spec PyProof.Rows L2 He He2
/-! ### the text by places -/
abbrev prog : Program := PySem.Challenge.pw_sweepwarrant_k93_seals
def top (i : Nat) : Stmt := prog.main.body.getD i (.Pass ⟨0, 0, 0, 0⟩)
abbrev s_write_value : Stmt := top 8
abbrev s_Seal_init : Stmt := inClass (top 9) 0
abbrev s_Seal_next_sign : Stmt := inClass (top 9) 1
abbrev s_Seal_take_sign : Stmt := inClass (top 9) 2
abbrev s_Seal_take_word : Stmt := inClass (top 9) 3
abbrev s_Seal_read_number : Stmt := inClass (top 9) 4
abbrev s_Seal_read_string : Stmt := inClass (top 9) 5
abbrev s_Seal_read_one : Stmt := inClass (top 9) 6
abbrev s_Seal_read_row : Stmt := inClass (top 9) 7
abbrev s_Seal_check_end : Stmt := inClass (top 9) 8
abbrev s_read_value : Stmt := top 10
abbrev s__law_pool : Stmt := top 12
abbrev s__law_take : Stmt := top 13
abbrev s__law_pick : Stmt := top 14
abbrev s__law_word : Stmt := top 15
abbrev s__law_atom : Stmt := top 16
abbrev s__law_value : Stmt := top 17
abbrev s__law_spoilt : Stmt := top 18
abbrev s__law_atom_at : Stmt := top 19
abbrev s__law_due : Stmt := top 20
abbrev s__law_read : Stmt := top 21
abbrev s__law_same : Stmt := top 22
abbrev s_law : Stmt := top 23
theorem sc_write_value : FnScope ["value", "one"] ["value"] (defScope s_write_value) := ⟨rfl, rfl, rfl, by decide +kernel, rfl, by decide +kernel, by decide +kernel⟩
def d_write_value : DefD := ⟨("write_value", none), "write_value", "write_value", defArgs s_write_value, defBody s_write_value, defScope s_write_value, [], []⟩
theorem sc_Seal_init : FnScope ["self", "string"] ["self", "string"] (defScope s_Seal_init) := ⟨rfl, rfl, rfl, by decide +kernel, rfl, by decide +kernel, by decide +kernel⟩
def d_Seal_init : DefD := ⟨("Seal", some "__init__"), "__init__", "Seal.__init__", defArgs s_Seal_init, defBody s_Seal_init, defScope s_Seal_init, [], []⟩
theorem sc_Seal_next_sign : FnScope ["self"] ["self"] (defScope s_Seal_next_sign) := ⟨rfl, rfl, rfl, by decide +kernel, rfl, by decide +kernel, by decide +kernel⟩
def d_Seal_next_sign : DefD := ⟨("Seal", some "next_sign"), "next_sign", "Seal.next_sign", defArgs s_Seal_next_sign, defBody s_Seal_next_sign, defScope s_Seal_next_sign, [], []⟩
theorem sc_Seal_take_sign : FnScope ["self", "signs", "sign"] ["self", "signs"] (defScope s_Seal_take_sign) := ⟨rfl, rfl, rfl, by decide +kernel, rfl, by decide +kernel, by decide +kernel⟩
def d_Seal_take_sign : DefD := ⟨("Seal", some "take_sign"), "take_sign", "Seal.take_sign", defArgs s_Seal_take_sign, defBody s_Seal_take_sign, defScope s_Seal_take_sign, [], []⟩
theorem sc_Seal_take_word : FnScope ["self", "word", "sign"] ["self", "word"] (defScope s_Seal_take_word) := ⟨rfl, rfl, rfl, by decide +kernel, rfl, by decide +kernel, by decide +kernel⟩
def d_Seal_take_word : DefD := ⟨("Seal", some "take_word"), "take_word", "Seal.take_word", defArgs s_Seal_take_word, defBody s_Seal_take_word, defScope s_Seal_take_word, [], []⟩
theorem sc_Seal_read_number : FnScope ["self", "minus", "told"] ["self"] (defScope s_Seal_read_number) := ⟨rfl, rfl, rfl, by decide +kernel, rfl, by decide +kernel, by decide +kernel⟩
def d_Seal_read_number : DefD := ⟨("Seal", some "read_number"), "read_number", "Seal.read_number", defArgs s_Seal_read_number, defBody s_Seal_read_number, defScope s_Seal_read_number, [], []⟩
theorem sc_Seal_read_string : FnScope ["self", "told"] ["self"] (defScope s_Seal_read_string) := ⟨rfl, rfl, rfl, by decide +kernel, rfl, by decide +kernel, by decide +kernel⟩
def d_Seal_read_string : DefD := ⟨("Seal", some "read_string"), "read_string", "Seal.read_string", defArgs s_Seal_read_string, defBody s_Seal_read_string, defScope s_Seal_read_string, [], []⟩
theorem sc_Seal_read_one : FnScope ["self", "depth", "sign"] ["self", "depth"] (defScope s_Seal_read_one) := ⟨rfl, rfl, rfl, by decide +kernel, rfl, by decide +kernel, by decide +kernel⟩
def d_Seal_read_one : DefD := ⟨("Seal", some "read_one"), "read_one", "Seal.read_one", defArgs s_Seal_read_one, defBody s_Seal_read_one, defScope s_Seal_read_one, [], []⟩
theorem sc_Seal_read_row : FnScope ["self", "depth", "told"] ["self", "depth"] (defScope s_Seal_read_row) := ⟨rfl, rfl, rfl, by decide +kernel, rfl, by decide +kernel, by decide +kernel⟩
def d_Seal_read_row : DefD := ⟨("Seal", some "read_row"), "read_row", "Seal.read_row", defArgs s_Seal_read_row, defBody s_Seal_read_row, defScope s_Seal_read_row, [], []⟩
theorem sc_Seal_check_end : FnScope ["self"] ["self"] (defScope s_Seal_check_end) := ⟨rfl, rfl, rfl, by decide +kernel, rfl, by decide +kernel, by decide +kernel⟩
def d_Seal_check_end : DefD := ⟨("Seal", some "check_end"), "check_end", "Seal.check_end", defArgs s_Seal_check_end, defBody s_Seal_check_end, defScope s_Seal_check_end, [], []⟩
theorem sc_read_value : FnScope ["string", "seal", "told"] ["string"] (defScope s_read_value) := ⟨rfl, rfl, rfl, by decide +kernel, rfl, by decide +kernel, by decide +kernel⟩
def d_read_value : DefD := ⟨("read_value", none), "read_value", "read_value", defArgs s_read_value, defBody s_read_value, defScope s_read_value, [], []⟩
theorem sc__law_pool : FnScope ["script", "cell", "cells", "total"] ["script"] (defScope s__law_pool) := ⟨rfl, rfl, rfl, by decide +kernel, rfl, by decide +kernel, by decide +kernel⟩
def d__law_pool : DefD := ⟨("_law_pool", none), "_law_pool", "_law_pool", defArgs s__law_pool, defBody s__law_pool, defScope s__law_pool, [], []⟩
theorem sc__law_take : FnScope ["pool", "many", "digit", "cell", "number", "first"] ["pool", "many"] (defScope s__law_take) := ⟨rfl, rfl, rfl, by decide +kernel, rfl, by decide +kernel, by decide +kernel⟩
def d__law_take : DefD := ⟨("_law_take", none), "_law_take", "_law_take", defArgs s__law_take, defBody s__law_take, defScope s__law_take, [], []⟩
theorem sc__law_pick : FnScope ["pool", "menu"] ["pool", "menu"] (defScope s__law_pick) := ⟨rfl, rfl, rfl, by decide +kernel, rfl, by decide +kernel, by decide +kernel⟩
def d__law_pick : DefD := ⟨("_law_pick", none), "_law_pick", "_law_pick", defArgs s__law_pick, defBody s__law_pick, defScope s__law_pick, [], []⟩
theorem sc__law_word : FnScope ["pool", "signs", "told", "turn"] ["pool"] (defScope s__law_word) := ⟨rfl, rfl, rfl, by decide +kernel, rfl, by decide +kernel, by decide +kernel⟩
def d__law_word : DefD := ⟨("_law_word", none), "_law_word", "_law_word", defArgs s__law_word, defBody s__law_word, defScope s__law_word, [], []⟩
theorem sc__law_atom : FnScope ["pool", "way", "word", "told", "turn"] ["pool"] (defScope s__law_atom) := ⟨rfl, rfl, rfl, by decide +kernel, rfl, by decide +kernel, by decide +kernel⟩
def d__law_atom : DefD := ⟨("_law_atom", none), "_law_atom", "_law_atom", defArgs s__law_atom, defBody s__law_atom, defScope s__law_atom, [], []⟩
theorem sc__law_value : FnScope ["pool", "first", "turn", "words", "rows", "way", "inner", "atom"] ["pool"] (defScope s__law_value) := ⟨rfl, rfl, rfl, by decide +kernel, rfl, by decide +kernel, by decide +kernel⟩
def d__law_value : DefD := ⟨("_law_value", none), "_law_value", "_law_value", defArgs s__law_value, defBody s__law_value, defScope s__law_value, [], []⟩
theorem sc__law_spoilt : FnScope ["pool", "string", "spots", "at", "sign", "way", "one"] ["pool", "string"] (defScope s__law_spoilt) := ⟨rfl, rfl, rfl, by decide +kernel, rfl, by decide +kernel, by decide +kernel⟩
def d__law_spoilt : DefD := ⟨("_law_spoilt", none), "_law_spoilt", "_law_spoilt", defArgs s__law_spoilt, defBody s__law_spoilt, defScope s__law_spoilt, [], []⟩
theorem sc__law_atom_at : FnScope ["string", "at", "signs", "sign", "by", "end", "one", "begin", "first", "number"] ["string", "at"] (defScope s__law_atom_at) := ⟨rfl, rfl, rfl, by decide +kernel, rfl, by decide +kernel, by decide +kernel⟩
def d__law_atom_at : DefD := ⟨("_law_atom_at", none), "_law_atom_at", "_law_atom_at", defArgs s__law_atom_at, defBody s__law_atom_at, defScope s__law_atom_at, [], []⟩
theorem sc__law_due : FnScope ["string", "rows", "at", "turn", "sign", "told"] ["string"] (defScope s__law_due) := ⟨rfl, rfl, rfl, by decide +kernel, rfl, by decide +kernel, by decide +kernel⟩
def d__law_due : DefD := ⟨("_law_due", none), "_law_due", "_law_due", defArgs s__law_due, defBody s__law_due, defScope s__law_due, [], []⟩
theorem sc__law_read : FnScope ["string", "raised", "kin"] ["string"] (defScope s__law_read) := ⟨rfl, rfl, rfl, by decide +kernel, rfl, by decide +kernel, by decide +kernel⟩
def d__law_read : DefD := ⟨("_law_read", none), "_law_read", "_law_read", defArgs s__law_read, defBody s__law_read, defScope s__law_read, [], []⟩
theorem sc__law_same : FnScope ["told", "due"] ["told", "due"] (defScope s__law_same) := ⟨rfl, rfl, rfl, by decide +kernel, rfl, by decide +kernel, by decide +kernel⟩
def d__law_same : DefD := ⟨("_law_same", none), "_law_same", "_law_same", defArgs s__law_same, defBody s__law_same, defScope s__law_same, [], []⟩
theorem sc_law : FnScope ["script", "pool", "told", "one", "turn", "string", "due"] ["script"] (defScope s_law) := ⟨rfl, rfl, rfl, by decide +kernel, rfl, by decide +kernel, by decide +kernel⟩
def d_law : DefD := ⟨("law", none), "law", "law", defArgs s_law, defBody s_law, defScope s_law, [], []⟩
abbrev FnP (K : PySem.W.Frag) (x qual : Str) (st : Stmt) (f : Addr) (fd : FuncData) : Prop := FunD K x qual (defArgs st) (defBody st) (defScope st) [] [] f fd
def fns : List DefD := [d_write_value, d_Seal_init, d_Seal_next_sign, d_Seal_take_sign, d_Seal_take_word, d_Seal_read_number, d_Seal_read_string, d_Seal_read_one, d_Seal_read_row, d_Seal_check_end, d_read_value, d__law_pool, d__law_take, d__law_pick, d__law_word, d__law_atom, d__law_value, d__law_spoilt, d__law_atom_at, d__law_due, d__law_read, d__law_same, d_law]
def facts : List Fa := [.glo "SweepError", .glo "BadSeal", .glo "write_value", .glo "Seal", .glo "read_value", .glo "_law_pool", .glo "_law_take", .glo "_law_pick", .glo "_law_word", .glo "_law_atom", .glo "_law_value", .glo "_law_spoilt", .glo "_law_atom_at", .glo "_law_due", .glo "_law_read", .glo "_law_same", .glo "law", .free "ValueError", .free "isinstance", .free "int", .free "str", .free "range", .free "tuple", .free "abs", .free "len", .free "list", .free "repr", .free "super", .str "DIGITS" "0123456789", .str "SIGNS" "abcdefghijklmnopqrstuvwxyz0123456789 ", .int "MOST_FIGURES" 30, .int "MOST_DEPTH" 40, .cls "Seal", .mkr "Seal", .meth "Seal" "next_sign", .meth "Seal" "take_sign", .meth "Seal" "take_word", .meth "Seal" "read_number", .meth "Seal" "read_string", .meth "Seal" "read_one", .meth "Seal" "read_row", .meth "Seal" "check_end", .noat "Seal" "_string", .noat "Seal" "_at"]
def x_BadSeal : SupD := ⟨"BadSeal", "BadSeal.__init__", "at", "bad seal", inClass (top 2) 0⟩
def sups : List SupD := [x_BadSeal]
theorem st_BadSeal : SupSt x_BadSeal := ⟨_, _, _, _, _, _, _, _, _, _, _, _, _, rfl, rfl, rfl, fun _ => rfl, fun _ => rfl⟩
abbrev mainFile : Str := prog.main.file
/-- isinstance: a BadSeal is a SweepError, a ValueError -/
def ex (K : PySem.W.Frag) : Bool := decide (PySem.W.kitOne K (.ref (ga K "BadSeal")) (.ref (ga K "SweepError")) = some true) && decide (PySem.W.kitOne K (.ref (ga K "BadSeal")) (.type "ValueError") = some true)
def ask : Ask := ⟨facts, fns, sups, mainFile, ex⟩
structure Tx (K : PySem.W.Frag) (mg : Str → Option Value) : Prop where
  glo_SweepError : mg "SweepError" = some (.ref (ga K "SweepError"))
  glo_BadSeal : mg "BadSeal" = some (.ref (ga K "BadSeal"))
  glo_write_value : mg "write_value" = some (.ref (ga K "write_value"))
  glo_Seal : mg "Seal" = some (.ref (ga K "Seal"))
  glo_read_value : mg "read_value" = some (.ref (ga K "read_value"))
  glo__law_pool : mg "_law_pool" = some (.ref (ga K "_law_pool"))
  glo__law_take : mg "_law_take" = some (.ref (ga K "_law_take"))
  glo__law_pick : mg "_law_pick" = some (.ref (ga K "_law_pick"))
  glo__law_word : mg "_law_word" = some (.ref (ga K "_law_word"))
  glo__law_atom : mg "_law_atom" = some (.ref (ga K "_law_atom"))
  glo__law_value : mg "_law_value" = some (.ref (ga K "_law_value"))
  glo__law_spoilt : mg "_law_spoilt" = some (.ref (ga K "_law_spoilt"))
  glo__law_atom_at : mg "_law_atom_at" = some (.ref (ga K "_law_atom_at"))
  glo__law_due : mg "_law_due" = some (.ref (ga K "_law_due"))
  glo__law_read : mg "_law_read" = some (.ref (ga K "_law_read"))
  glo__law_same : mg "_law_same" = some (.ref (ga K "_law_same"))
  glo_law : mg "law" = some (.ref (ga K "law"))
  free_ValueError : mg "ValueError" = none
  free_isinstance : mg "isinstance" = none
  free_int : mg "int" = none
  free_str : mg "str" = none
  free_range : mg "range" = none
  free_tuple : mg "tuple" = none
  free_abs : mg "abs" = none
  free_len : mg "len" = none
  free_list : mg "list" = none
  free_repr : mg "repr" = none
  free_super : mg "super" = none
  con_DIGITS : ∃ t, mg "DIGITS" = some (.str "0123456789" t)
  con_SIGNS : ∃ t, mg "SIGNS" = some (.str "abcdefghijklmnopqrstuvwxyz0123456789 " t)
  con_MOST_FIGURES : ∃ t, mg "MOST_FIGURES" = some (.int 30 t)
  con_MOST_DEPTH : ∃ t, mg "MOST_DEPTH" = some (.int 40 t)
  cls_Seal : Cls K (ga K "Seal")
  mkr_Seal : Mk K (ga K "Seal") (ma K (ga K "Seal") "__init__")
  meth_Seal_next_sign : Meth K (ga K "Seal") "next_sign" (ma K (ga K "Seal") "next_sign")
  meth_Seal_take_sign : Meth K (ga K "Seal") "take_sign" (ma K (ga K "Seal") "take_sign")
  meth_Seal_take_word : Meth K (ga K "Seal") "take_word" (ma K (ga K "Seal") "take_word")
  meth_Seal_read_number : Meth K (ga K "Seal") "read_number" (ma K (ga K "Seal") "read_number")
  meth_Seal_read_string : Meth K (ga K "Seal") "read_string" (ma K (ga K "Seal") "read_string")
  meth_Seal_read_one : Meth K (ga K "Seal") "read_one" (ma K (ga K "Seal") "read_one")
  meth_Seal_read_row : Meth K (ga K "Seal") "read_row" (ma K (ga K "Seal") "read_row")
  meth_Seal_check_end : Meth K (ga K "Seal") "check_end" (ma K (ga K "Seal") "check_end")
  noat_Seal__string : NoAttr K (ga K "Seal") "_string"
  noat_Seal__at : NoAttr K (ga K "Seal") "_at"
  fn_write_value : ∃ fd, FnP K "write_value" "write_value" s_write_value (ga K "write_value") fd
  fn_Seal_init : ∃ fd, FnP K "__init__" "Seal.__init__" s_Seal_init (ma K (ga K "Seal") "__init__") fd
  fn_Seal_next_sign : ∃ fd, FnP K "next_sign" "Seal.next_sign" s_Seal_next_sign (ma K (ga K "Seal") "next_sign") fd
  fn_Seal_take_sign : ∃ fd, FnP K "take_sign" "Seal.take_sign" s_Seal_take_sign (ma K (ga K "Seal") "take_sign") fd
  fn_Seal_take_word : ∃ fd, FnP K "take_word" "Seal.take_word" s_Seal_take_word (ma K (ga K "Seal") "take_word") fd
  fn_Seal_read_number : ∃ fd, FnP K "read_number" "Seal.read_number" s_Seal_read_number (ma K (ga K "Seal") "read_number") fd
  fn_Seal_read_string : ∃ fd, FnP K "read_string" "Seal.read_string" s_Seal_read_string (ma K (ga K "Seal") "read_string") fd
  fn_Seal_read_one : ∃ fd, FnP K "read_one" "Seal.read_one" s_Seal_read_one (ma K (ga K "Seal") "read_one") fd
  fn_Seal_read_row : ∃ fd, FnP K "read_row" "Seal.read_row" s_Seal_read_row (ma K (ga K "Seal") "read_row") fd
  fn_Seal_check_end : ∃ fd, FnP K "check_end" "Seal.check_end" s_Seal_check_end (ma K (ga K "Seal") "check_end") fd
  fn_read_value : ∃ fd, FnP K "read_value" "read_value" s_read_value (ga K "read_value") fd
  fn__law_pool : ∃ fd, FnP K "_law_pool" "_law_pool" s__law_pool (ga K "_law_pool") fd
  fn__law_take : ∃ fd, FnP K "_law_take" "_law_take" s__law_take (ga K "_law_take") fd
  fn__law_pick : ∃ fd, FnP K "_law_pick" "_law_pick" s__law_pick (ga K "_law_pick") fd
  fn__law_word : ∃ fd, FnP K "_law_word" "_law_word" s__law_word (ga K "_law_word") fd
  fn__law_atom : ∃ fd, FnP K "_law_atom" "_law_atom" s__law_atom (ga K "_law_atom") fd
  fn__law_value : ∃ fd, FnP K "_law_value" "_law_value" s__law_value (ga K "_law_value") fd
  fn__law_spoilt : ∃ fd, FnP K "_law_spoilt" "_law_spoilt" s__law_spoilt (ga K "_law_spoilt") fd
  fn__law_atom_at : ∃ fd, FnP K "_law_atom_at" "_law_atom_at" s__law_atom_at (ga K "_law_atom_at") fd
  fn__law_due : ∃ fd, FnP K "_law_due" "_law_due" s__law_due (ga K "_law_due") fd
  fn__law_read : ∃ fd, FnP K "_law_read" "_law_read" s__law_read (ga K "_law_read") fd
  fn__law_same : ∃ fd, FnP K "_law_same" "_law_same" s__law_same (ga K "_law_same") fd
  fn_law : ∃ fd, FnP K "law" "law" s_law (ga K "law") fd
  sup : SupX.Txt prog K mg "BadSeal" "BadSeal.__init__" "at" "bad seal" (ga K "BadSeal") (x_BadSeal.fn K)
  excC : ExcC K (ga K "BadSeal")
  is1 : PySem.W.kitOne K (.ref (ga K "BadSeal")) (.ref (ga K "SweepError")) = some true
  is2 : PySem.W.kitOne K (.ref (ga K "BadSeal")) (.type "ValueError") = some true
theorem mkTx {K : PySem.W.Frag} {h : Heap} {mg : Str → Option Value} (X : K.In h) (G : h.Ns mainGlobals mg) (c : ask.says K) : Tx K mg :=
  ⟨glo_ok X G (c.d.fact 0 rfl),
   glo_ok X G (c.d.fact 1 rfl),
   glo_ok X G (c.d.fact 2 rfl),
   glo_ok X G (c.d.fact 3 rfl),
   glo_ok X G (c.d.fact 4 rfl),
   glo_ok X G (c.d.fact 5 rfl),
   glo_ok X G (c.d.fact 6 rfl),
   glo_ok X G (c.d.fact 7 rfl),
   glo_ok X G (c.d.fact 8 rfl),
   glo_ok X G (c.d.fact 9 rfl),
   glo_ok X G (c.d.fact 10 rfl),
   glo_ok X G (c.d.fact 11 rfl),
   glo_ok X G (c.d.fact 12 rfl),
   glo_ok X G (c.d.fact 13 rfl),
   glo_ok X G (c.d.fact 14 rfl),
   glo_ok X G (c.d.fact 15 rfl),
   glo_ok X G (c.d.fact 16 rfl),
   free_ok X G (c.d.fact 17 rfl),
   free_ok X G (c.d.fact 18 rfl),
   free_ok X G (c.d.fact 19 rfl),
   free_ok X G (c.d.fact 20 rfl),
   free_ok X G (c.d.fact 21 rfl),
   free_ok X G (c.d.fact 22 rfl),
   free_ok X G (c.d.fact 23 rfl),
   free_ok X G (c.d.fact 24 rfl),
   free_ok X G (c.d.fact 25 rfl),
   free_ok X G (c.d.fact 26 rfl),
   free_ok X G (c.d.fact 27 rfl),
   str_ok X G (c.d.fact 28 rfl),
   str_ok X G (c.d.fact 29 rfl),
   int_ok X G (c.d.fact 30 rfl),
   int_ok X G (c.d.fact 31 rfl),
   cls_ok (c.d.fact 32 rfl),
   mkr_ok (c.d.fact 33 rfl),
   meth_ok (c.d.fact 34 rfl),
   meth_ok (c.d.fact 35 rfl),
   meth_ok (c.d.fact 36 rfl),
   meth_ok (c.d.fact 37 rfl),
   meth_ok (c.d.fact 38 rfl),
   meth_ok (c.d.fact 39 rfl),
   meth_ok (c.d.fact 40 rfl),
   meth_ok (c.d.fact 41 rfl),
   noat_ok (c.d.fact 42 rfl),
   noat_ok (c.d.fact 43 rfl),
   c.d.def_ 0 (d := d_write_value) rfl,
   c.d.def_ 1 (d := d_Seal_init) rfl,
   c.d.def_ 2 (d := d_Seal_next_sign) rfl,
   c.d.def_ 3 (d := d_Seal_take_sign) rfl,
   c.d.def_ 4 (d := d_Seal_take_word) rfl,
   c.d.def_ 5 (d := d_Seal_read_number) rfl,
   c.d.def_ 6 (d := d_Seal_read_string) rfl,
   c.d.def_ 7 (d := d_Seal_read_one) rfl,
   c.d.def_ 8 (d := d_Seal_read_row) rfl,
   c.d.def_ 9 (d := d_Seal_check_end) rfl,
   c.d.def_ 10 (d := d_read_value) rfl,
   c.d.def_ 11 (d := d__law_pool) rfl,
   c.d.def_ 12 (d := d__law_take) rfl,
   c.d.def_ 13 (d := d__law_pick) rfl,
   c.d.def_ 14 (d := d__law_word) rfl,
   c.d.def_ 15 (d := d__law_atom) rfl,
   c.d.def_ 16 (d := d__law_value) rfl,
   c.d.def_ 17 (d := d__law_spoilt) rfl,
   c.d.def_ 18 (d := d__law_atom_at) rfl,
   c.d.def_ 19 (d := d__law_due) rfl,
   c.d.def_ 20 (d := d__law_read) rfl,
   c.d.def_ 21 (d := d__law_same) rfl,
   c.d.def_ 22 (d := d_law) rfl,
   (sup_ok (P := prog) X G rfl (by decide +kernel) st_BadSeal (c.supd 0 (d := x_BadSeal) rfl).1 (c.supd 0 (d := x_BadSeal) rfl).2).1,
   (sup_ok (P := prog) X G rfl (by decide +kernel) st_BadSeal (c.supd 0 (d := x_BadSeal) rfl).1 (c.supd 0 (d := x_BadSeal) rfl).2).2,
   of_decide_eq_true (ba c.more).1,
   of_decide_eq_true (ba c.more).2⟩
/-- a def that may be called -/
def Ok (w : World) (K : PySem.W.Frag) (mg : Str → Option Value) (base : Heap) (CX : CXT) (k : Nat) (f : Addr) (ps : List Str) (sp : Sp) : Prop := ∃ fd, FnOk prog w K mg base CX k f fd ps sp ∧ Binds K fd ps [] ∧ PySem.W.keepIn K (.ref f) = true
end K93
set_option Elab.async false
set_option linter.all false
set_option maxRecDepth 100000
set_option maxHeartbeats 4000000

namespace K93
open PySem PySem.Spec PyProof.Rows L2 He He2
abbrev R : PySem.W.OpenRow := PySem.W.OpenLaw.row PySem.Challenge.rw_sweepwarrant_k93_seals
abbrev hk : PySem.W.Hook := ask.hook 5
def ob (s : PySem.W.SharedT) : AlY := ask.obsG 5 (HandSHeadRun.getT s)
theorem ob_eq (s : PySem.W.SharedT) : ob s = hk.obs s.abs := ask.obsG_eq (HandSHeadRun.getT_eq s)
set_option maxHeartbeats 0 in
theorem run_head (w : World) : HandSHeadRun.RunEq R (PySem.W.view R.prog [23]) hk ob 4000 ["BadSeal", "DIGITS", "MOST_DEPTH", "MOST_FIGURES", "SIGNS", "Seal", "SweepError", "__name__", "_law_atom", "_law_atom_at", "_law_due", "_law_pick", "_law_pool", "_law_read", "_law_same", "_law_spoilt", "_law_take", "_law_value", "_law_word", "read_value", "write_value"] w := by
  intro os
  kernel_rfl
end K93
set_option Elab.async false
set_option linter.all false
set_option maxRecDepth 100000
set_option maxHeartbeats 2000000
/-! The plain law of seals: what read_value reads (R1, RR) is what the law's machine reads (mach), and what was read is what was written (shut). -/
namespace M93
open PySem PySem.NumText
abbrev Cs := List Nat
def digs : Cs := [48, 49, 50, 51, 52, 53, 54, 55, 56, 57]
def digs1 : Cs := [49, 50, 51, 52, 53, 54, 55, 56, 57]
def sgns : Cs := [97, 98, 99, 100, 101, 102, 103, 104, 105, 106, 107, 108, 109, 110, 111, 112, 113, 114, 115, 116, 117, 118, 119, 120, 121, 122, 48, 49, 50, 51, 52, 53, 54, 55, 56, 57, 32]
theorem digs_eq : (Str.ofString "0123456789").cps.toList = digs := by decide +kernel
theorem digs1_eq : (Str.ofString "123456789").cps.toList = digs1 := by decide +kernel
theorem sgns_eq : (Str.ofString "abcdefghijklmnopqrstuvwxyz0123456789 ").cps.toList = sgns := by decide +kernel
theorem mem_digs {c : Nat} : c ∈ digs ↔ 48 ≤ c ∧ c ≤ 57 := by
  simp only [digs, List.mem_cons, List.not_mem_nil, or_false]
  omega
theorem mem_digs1 {c : Nat} : c ∈ digs1 ↔ 49 ≤ c ∧ c ≤ 57 := by
  simp only [digs1, List.mem_cons, List.not_mem_nil, or_false]
  omega
def mk (l : Cs) : Str := ⟨l.toArray⟩
theorem mk_to (l : Cs) : (mk l).cps.toList = l := rfl
/-- the signs of a set that stand from a place on, n at most -/
def tw (set : Cs) (n : Nat) (s : Cs) (p : Nat) : Cs := ((s.drop p).take n).takeWhile fun c => decide (c ∈ set)
theorem tw_zero (set s : Cs) (p : Nat) : tw set 0 s p = [] := by simp [tw]
theorem tw_yes {set s : Cs} {n p c : Nat} (h : s[p]? = some c) (hc : c ∈ set) : tw set (n + 1) s p = c :: tw set n s (p + 1) := by
  unfold tw
  rw [List.drop_eq_getElem?_toList_append, h]
  simp [hc]
theorem tw_no {set s : Cs} {n p : Nat} (h : ∀ c, s[p]? = some c → c ∉ set) : tw set n s p = [] := by
  unfold tw
  cases n with
  | zero => simp
  | succ n =>
    rw [List.drop_eq_getElem?_toList_append]
    cases e : s[p]? with
    | none =>
      have : s.length ≤ p := by simpa using e
      simp [List.drop_eq_nil_of_le (show s.length ≤ p + 1 by omega)]
    | some c => simp [h c e]
theorem tw_drop (set : Cs) : ∀ (n : Nat) (s : Cs) (p : Nat), s.drop p = tw set n s p ++ s.drop (p + (tw set n s p).length)
  | 0, s, p => by rw [tw_zero]; rfl
  | n + 1, s, p => by
    cases e : s[p]? with
    | none =>
      rw [tw_no (fun c q => by rw [e] at q; cases q)]
      rfl
    | some c =>
      by_cases hc : c ∈ set
      · rw [tw_yes e hc, List.length_cons, List.cons_append]
        have ih := tw_drop set n s (p + 1)
        rw [show p + ((tw set n s (p + 1)).length + 1) = p + 1 + (tw set n s (p + 1)).length by omega, ← ih, List.drop_eq_getElem?_toList_append, e]
        rfl
      · rw [tw_no (fun c' q => by rw [e] at q; rw [← Option.some.inj q]; exact hc)]
        rfl
theorem tw_mem {set s : Cs} {n p : Nat} : ∀ c ∈ tw set n s p, c ∈ set := fun c h => by
  have z := List.all_takeWhile (p := fun c => decide (c ∈ set)) (l := (s.drop p).take n)
  have := List.all_eq_true.mp z c h
  simpa using this
theorem tw_len (set s : Cs) (n p : Nat) : (tw set n s p).length ≤ n := by
  unfold tw
  have h1 := (List.takeWhile_sublist (fun c => decide (c ∈ set)) (l := (s.drop p).take n)).length_le
  rw [List.length_take] at h1
  omega
theorem tw_end {set s : Cs} {n p : Nat} : p + (tw set n s p).length ≤ max p s.length := by
  unfold tw
  have h1 := (List.takeWhile_sublist (fun c => decide (c ∈ set)) (l := (s.drop p).take n)).length_le
  rw [List.length_take, List.length_drop] at h1
  omega
/-- a stretch of the set, then something else -/
theorem tw_is {set : Cs} : ∀ (w : Cs) {s rest : Cs} {n p : Nat}, s.drop p = w ++ rest → (∀ c ∈ w, c ∈ set) → w.length ≤ n → (w.length = n ∨ ∀ c, rest.head? = some c → c ∉ set) → tw set n s p = w
  | [], s, rest, n, p, h, _, _, hr => by
    rcases hr with e | hr
    · cases e
      exact tw_zero _ _ _
    · refine tw_no fun c hc => hr c ?_
      have e : (s.drop p)[0]? = some c := by rw [List.getElem?_drop]; exact hc
      rw [h] at e
      rw [List.head?_eq_getElem?]
      exact e
  | x :: w, s, rest, 0, p, h, _, hl, _ => by simp at hl
  | x :: w, s, rest, n + 1, p, h, hm, hl, hr => by
    have e : s[p]? = some x := by
      have q : (s.drop p)[0]? = some x := by rw [h]; rfl
      rw [List.getElem?_drop] at q
      exact q
    have h2 : s.drop (p + 1) = w ++ rest := by
      rw [← List.drop_drop, h]
      rfl
    rw [tw_yes e (hm x List.mem_cons_self), tw_is w h2 (fun c hc => hm c (List.mem_cons_of_mem _ hc)) (by simpa using hl) (hr.imp (fun z => by simpa using z) id)]
theorem at_drop {s rest : Cs} {p c : Nat} (h : s.drop p = c :: rest) : s[p]? = some c := by
  have q : (s.drop p)[0]? = some c := by rw [h]; rfl
  rw [List.getElem?_drop] at q
  exact q
theorem drop_at {s : Cs} {p c : Nat} (h : s[p]? = some c) : s.drop p = c :: s.drop (p + 1) := by
  rw [List.drop_eq_getElem?_toList_append, h]
  rfl
theorem drop_next {s w rest : Cs} {p : Nat} (h : s.drop p = w ++ rest) : s.drop (p + w.length) = rest := by
  rw [← List.drop_drop, h, List.drop_left]
theorem lt_of_at {s : Cs} {p c : Nat} (h : s[p]? = some c) : p < s.length := (List.getElem?_eq_some_iff.mp h).1
/-! ### atoms -/
def wordAt : Cs → Cs → Nat → Except Nat Nat
  | [], _, p => .ok p
  | c :: w, s, p => if s[p]? = some c then wordAt w s (p + 1) else .error p
def noneW : Cs := [110, 111, 110, 101]
def noneAt (s : Cs) (p : Nat) : Except Nat (PyData × Nat) := match wordAt noneW s p with
  | .ok a => .ok (.none, a)
  | .error e => .error e
def strAt (s : Cs) (p : Nat) : Except Nat (PyData × Nat) :=
  if s[p + 1 + (tw sgns s.length s (p + 1)).length]? = some 39 then .ok (.str (mk (tw sgns s.length s (p + 1))), p + 1 + (tw sgns s.length s (p + 1)).length + 1) else .error (p + 1 + (tw sgns s.length s (p + 1)).length)
def more (c : Nat) (s : Cs) (b : Nat) : Cs := if c = 48 then [] else tw digs 29 s (b + 1)
def numFrom (neg : Bool) (s : Cs) (b : Nat) : Except Nat (PyData × Nat) := match s[b]? with
  | none => .error b
  | some c => if c ∈ (if neg then digs1 else digs) then .ok (.int (if neg then -((digitsVal (c :: more c s b) : Nat) : Int) else ((digitsVal (c :: more c s b) : Nat) : Int)), b + 1 + (more c s b).length) else .error b
def numAt (s : Cs) (p : Nat) : Except Nat (PyData × Nat) := if s[p]? = some 45 then numFrom true s (p + 1) else numFrom false s p
def atomAt (s : Cs) (p : Nat) : Except Nat (PyData × Nat) := if s[p]? = some 110 then noneAt s p else if s[p]? = some 39 then strAt s p else numAt s p
/-! ### what is written -/
mutual
def shut : PyData → Cs
  | .none => noneW
  | .int i => (Str.ofString (toString i)).cps.toList
  | .str x => 39 :: (x.cps.toList ++ [39])
  | .tuple xs => 40 :: 32 :: (shutAll xs ++ [41])
  | .list _ => []
  | .bool _ => []
  | .dict _ => []
def shutAll : List PyData → Cs
  | [] => []
  | x :: xs => shut x ++ (32 :: shutAll xs)
end
/-- figures as they are written: no zeros ahead, 30 at most -/
def canon (l : Cs) : Prop := l.length ≤ 30 ∧ AllDigits l ∧ (l = [48] ∨ ∃ c r, l = c :: r ∧ 49 ≤ c)
mutual
def good (d : Nat) : PyData → Prop
  | .none => True
  | .int i => ∃ l, canon l ∧ (i = ((digitsVal l : Nat) : Int) ∨ (l ≠ [48] ∧ i = -((digitsVal l : Nat) : Int)))
  | .str x => ∀ c ∈ x.cps.toList, c ∈ sgns
  | .tuple xs => d < 40 ∧ goodAll (d + 1) xs
  | .list _ => False
  | .bool _ => False
  | .dict _ => False
def goodAll (d : Nat) : List PyData → Prop
  | [] => True
  | x :: xs => good d x ∧ goodAll d xs
end
theorem shut_pos {l : Cs} (h : canon l) : shut (.int ((digitsVal l : Nat) : Int)) = l := by
  obtain ⟨_, ha, hh⟩ := h
  have hne : l ≠ [] := by
    rintro rfl
    rcases hh with e | ⟨_, _, e, _⟩ <;> cases e
  have e1 : (Str.ofString (toString ((digitsVal l : Nat) : Int))).cps.toList = (Nat.toDigits 10 (digitsVal l)).map Char.toNat := PySem.W.KIN.signs_num _
  have e2 : Nat.toDigits 10 (digitsVal l) = l.map Char.ofNat := by
    obtain ⟨n, hn⟩ : ∃ n, l.length = n + 1 := ⟨l.length - 1, by have := List.length_pos_iff.mpr hne; omega⟩
    refine toDigits_digitsVal n l hn ha ?_
    rcases hh with e | h2
    · left
      rw [e] at hn
      simp at hn
      omega
    · exact .inr h2
  show (Str.ofString (toString ((digitsVal l : Nat) : Int))).cps.toList = l
  rw [e1, e2, List.map_map]
  refine (List.map_congr_left (g := id) fun c hc => ?_).trans (List.map_id _)
  have hc2 := ha c hc
  obtain ⟨k, rfl⟩ : ∃ k, c = 48 + k := ⟨c - 48, by omega⟩
  exact (by decide : ∀ k : Nat, k < 10 → (Char.ofNat (48 + k)).toNat = 48 + k) k (by omega)
theorem canon_ne {l : Cs} (h : canon l) : l ≠ [] := by
  rintro rfl
  rcases h.2.2 with e | ⟨_, _, e, _⟩ <;> cases e
theorem val_pos {l : Cs} (h : canon l) (h0 : l ≠ [48]) : 0 < digitsVal l := by
  rcases h.2.2 with e | ⟨c, r, e, hc⟩
  · exact absurd e h0
  · rw [e]
    exact digitsVal_pos hc
theorem shut_neg {l : Cs} (h : canon l) (h0 : l ≠ [48]) : shut (.int (-((digitsVal l : Nat) : Int))) = 45 :: l := by
  have hp := val_pos h h0
  have e0 := shut_pos h
  obtain ⟨m, hm⟩ : ∃ m, digitsVal l = m + 1 := ⟨digitsVal l - 1, by omega⟩
  have e1 : shut (.int ((digitsVal l : Nat) : Int)) = (Str.ofString (toString ((digitsVal l : Nat) : Int))).cps.toList := rfl
  rw [e1, PySem.W.KIN.signs_num] at e0
  show (Str.ofString (toString (-((digitsVal l : Nat) : Int)))).cps.toList = 45 :: l
  rw [hm] at e0 ⊢
  have e2 : toString (-(((m + 1 : Nat)) : Int)) = "-" ++ toString (m + 1) := rfl
  rw [e2, PyProof.Rows.signs_ofString]
  rw [String.toList_append, List.map_append]
  have e3 : (toString (m + 1)).toList = Nat.toDigits 10 (m + 1) := by
    show (Nat.repr (m + 1)).toList = _
    rw [Nat.toList_repr]
  rw [e3, e0]
  rfl
/-! ### reading: what read_one and read_row come to (o: the sign that opens a row) -/
mutual
inductive R1 (s : Cs) : Nat → Nat → Except Nat (PyData × Nat) → Prop
  | atom {d p : Nat} : ¬ (s[p]? = some 40 ∧ d < 40) → R1 s d p (atomAt s p)
  | row {d p : Nat} {r : Except Nat (PyData × Nat)} : s[p]? = some 40 → d < 40 → s[p + 1]? = some 32 → RR s d (p + 2) [] r → R1 s d p r
  | bad {d p : Nat} : s[p]? = some 40 → d < 40 → s[p + 1]? ≠ some 32 → R1 s d p (.error (p + 1))
inductive RR (s : Cs) : Nat → Nat → List PyData → Except Nat (PyData × Nat) → Prop
  | close {d p : Nat} {acc : List PyData} : s[p]? = some 41 → RR s d p acc (.ok (.tuple acc, p + 1))
  | bad {d p e : Nat} {acc : List PyData} : s[p]? ≠ some 41 → R1 s (d + 1) p (.error e) → RR s d p acc (.error e)
  | gap {d p a : Nat} {v : PyData} {acc : List PyData} : s[p]? ≠ some 41 → R1 s (d + 1) p (.ok (v, a)) → s[a]? ≠ some 32 → RR s d p acc (.error a)
  | more {d p a : Nat} {v : PyData} {acc : List PyData} {r : Except Nat (PyData × Nat)} : s[p]? ≠ some 41 → R1 s (d + 1) p (.ok (v, a)) → s[a]? = some 32 → RR s d (a + 1) (acc ++ [v]) r → RR s d p acc r
end
/-- what read_value comes to -/
def fin (s : Cs) : Except Nat (PyData × Nat) → Except Nat PyData
  | .error e => .error e
  | .ok (v, a) => if a = s.length then .ok v else .error a
/-! ### the law's machine: rows from the innermost -/
mutual
def mach (s : Cs) : Nat → List (List PyData) → Nat → Except Nat PyData
  | 0, _, _ => .error s.length
  | n + 1, rs, p =>
    if s[p]? = some 40 ∧ rs.length < 40 then (if s[p + 1]? = some 32 then mach s n ([] :: rs) (p + 2) else .error (p + 1))
    else match rs with
      | [] => (match atomAt s p with
        | .error e => .error e
        | .ok (v, a) => contm s n [] v a)
      | r :: rs' => if s[p]? = some 41 then contm s n rs' (.tuple r) (p + 1) else (match atomAt s p with
        | .error e => .error e
        | .ok (v, a) => contm s n (r :: rs') v a)
def contm (s : Cs) (n : Nat) (rs : List (List PyData)) (v : PyData) (a : Nat) : Except Nat PyData := match rs with
  | [] => if a = s.length then .ok v else .error a
  | r :: rs' => if s[a]? = some 32 then mach s n ((r ++ [v]) :: rs') (a + 1) else .error a
end
theorem word_ok : ∀ (w s : Cs) (p a : Nat), wordAt w s p = .ok a → s.drop p = w ++ s.drop a ∧ a = p + w.length
  | [], s, p, a, h => by
    cases h
    exact ⟨rfl, rfl⟩
  | c :: w, s, p, a, h => by
    unfold wordAt at h
    split at h
    · rename_i hc
      obtain ⟨h1, h2⟩ := word_ok w s (p + 1) a h
      exact ⟨by rw [drop_at hc, h1]; rfl, by rw [h2, List.length_cons]; omega⟩
    · cases h
theorem word_is : ∀ (w s rest : Cs) (p : Nat), s.drop p = w ++ rest → wordAt w s p = .ok (p + w.length)
  | [], s, rest, p, h => rfl
  | c :: w, s, rest, p, h => by
    unfold wordAt
    rw [if_pos (at_drop h), word_is w s rest (p + 1) (by rw [← List.drop_drop, h]; rfl), List.length_cons]
    congr 1
    omega
theorem end_le {s w : Cs} {p a : Nat} {c : Nat} (h : s.drop p = w ++ s.drop a) (hw : w ≠ []) (ha : a = p + w.length) : p < a ∧ a ≤ s.length := by
  have h1 := congrArg List.length h
  rw [List.length_append, List.length_drop, List.length_drop] at h1
  have h2 := List.length_pos_iff.mpr hw
  omega
theorem canon_of {c : Nat} {s : Cs} {b : Nat} (hc : c ∈ digs) : canon (c :: more c s b) := by
  have h1 := mem_digs.mp hc
  refine ⟨?_, fun d hd => ?_, ?_⟩
  · unfold more
    split
    · simp
    · have := tw_len digs s 29 (b + 1)
      rw [List.length_cons]
      omega
  · rcases List.mem_cons.mp hd with rfl | hd
    · exact h1
    · unfold more at hd
      split at hd
      · cases hd
      · exact mem_digs.mp (tw_mem d hd)
  · by_cases e : c = 48
    · left
      subst e
      rfl
    · exact .inr ⟨c, _, rfl, by omega⟩
theorem more_drop (c : Nat) (s : Cs) (b : Nat) : s.drop (b + 1) = more c s b ++ s.drop (b + 1 + (more c s b).length) := by
  unfold more
  split
  · rfl
  · exact tw_drop digs 29 s (b + 1)
theorem num_cases {neg : Bool} {s : Cs} {b a : Nat} {v : PyData} (h : numFrom neg s b = .ok (v, a)) : ∃ c, s[b]? = some c ∧ c ∈ (if neg then digs1 else digs) ∧
    v = .int (if neg then -((digitsVal (c :: more c s b) : Nat) : Int) else ((digitsVal (c :: more c s b) : Nat) : Int)) ∧ a = b + 1 + (more c s b).length := by
  unfold numFrom at h
  cases e : s[b]? with
  | none =>
    rw [e] at h
    cases h
  | some c =>
    rw [e] at h
    by_cases hd : c ∈ (if neg then digs1 else digs)
    · have h2 := (if_pos hd).symm.trans h
      injection h2 with h3
      injection h3 with h4 h5
      exact ⟨c, rfl, hd, h4.symm, h5.symm⟩
    · have h2 := (if_neg hd).symm.trans h
      cases h2
/-- an atom read is the atom written -/
theorem atom_ok {s : Cs} {p a d : Nat} {v : PyData} (h : atomAt s p = .ok (v, a)) : s.drop p = shut v ++ s.drop a ∧ good d v ∧ p < a ∧ a ≤ s.length := by
  unfold atomAt at h
  split at h
  · unfold noneAt at h
    split at h
    · rename_i a' e
      cases h
      obtain ⟨h1, h2⟩ := word_ok _ _ _ _ e
      obtain ⟨h3, h4⟩ := end_le (c := 0) h1 (by decide) h2
      exact ⟨by rw [h1]; simp [shut], by simp [good], h3, h4⟩
    · cases h
  · split at h
    · rename_i h0 h1
      unfold strAt at h
      split at h
      · rename_i hq
        cases h
        have e1 := tw_drop sgns s.length s (p + 1)
        have e2 := drop_at hq
        have e3 : s.drop p = 39 :: (tw sgns s.length s (p + 1) ++ 39 :: s.drop (p + 1 + (tw sgns s.length s (p + 1)).length + 1)) := by
          rw [drop_at h1, e1, e2]
        have hlt := lt_of_at hq
        refine ⟨?_, ?_, by omega, by omega⟩
        · rw [e3]
          simp [shut, mk]
        · simp only [good]
          intro c hc
          exact tw_mem c hc
      · cases h
    · unfold numAt at h
      split at h
      · rename_i hm
        obtain ⟨c, hc, hd1, rfl, rfl⟩ := num_cases h
        have hd1 : c ∈ digs1 := hd1
        have hdd : c ∈ digs := mem_digs.mpr (by have := mem_digs1.mp hd1; omega)
        have hcan := canon_of (s := s) (b := p + 1) hdd
        have h0 : c :: more c s (p + 1) ≠ [48] := by
          intro e
          injection e with e1 _
          have := mem_digs1.mp hd1
          omega
        have e1 : shut (.int (if true = true then -((digitsVal (c :: more c s (p + 1)) : Nat) : Int) else ((digitsVal (c :: more c s (p + 1)) : Nat) : Int))) = 45 :: c :: more c s (p + 1) := by
          rw [if_pos rfl]
          exact shut_neg hcan h0
        have e2 : s.drop p = 45 :: c :: (more c s (p + 1) ++ s.drop (p + 1 + 1 + (more c s (p + 1)).length)) := by
          rw [drop_at hm, drop_at hc, ← more_drop c s (p + 1)]
        have e3 : s.drop p = (45 :: c :: more c s (p + 1)) ++ s.drop (p + 1 + 1 + (more c s (p + 1)).length) := by rw [e2]; rfl
        obtain ⟨h3, h4⟩ := end_le (c := 0) e3 (by simp) (by simp only [List.length_cons]; omega)
        refine ⟨by rw [e1]; exact e3, ?_, h3, h4⟩
        simp only [good, if_true]
        exact ⟨_, hcan, .inr ⟨h0, rfl⟩⟩
      · obtain ⟨c, hc, hd1, rfl, rfl⟩ := num_cases h
        have hdd : c ∈ digs := hd1
        have hcan := canon_of (s := s) (b := p) hdd
        have e1 : shut (.int (if false = true then -((digitsVal (c :: more c s p) : Nat) : Int) else ((digitsVal (c :: more c s p) : Nat) : Int))) = c :: more c s p := by
          rw [if_neg Bool.false_ne_true]
          exact shut_pos hcan
        have e3 : s.drop p = (c :: more c s p) ++ s.drop (p + 1 + (more c s p).length) := by
          rw [drop_at hc, more_drop c s p]
          rfl
        obtain ⟨h3, h4⟩ := end_le (c := 0) e3 (by simp) (by simp only [List.length_cons]; omega)
        refine ⟨by rw [e1]; exact e3, ?_, h3, h4⟩
        simp only [good, if_neg Bool.false_ne_true]
        exact ⟨_, hcan, .inl rfl⟩
theorem goodAll_append {d : Nat} : ∀ {xs : List PyData} {y : PyData}, goodAll d xs → good d y → goodAll d (xs ++ [y])
  | [], y, _, h => by simp only [List.nil_append, goodAll]; exact ⟨h, trivial⟩
  | x :: xs, y, hx, h => by
    simp only [goodAll] at hx
    simp only [List.cons_append, goodAll]
    exact ⟨hx.1, goodAll_append hx.2 h⟩
theorem shutAll_append : ∀ (xs ys : List PyData), shutAll (xs ++ ys) = shutAll xs ++ shutAll ys
  | [], ys => by simp [shutAll]
  | x :: xs, ys => by simp [shutAll, shutAll_append xs ys]
/-- what was read is what is written -/
theorem read_ok {s : Cs} : (∀ {d p : Nat} {r : Except Nat (PyData × Nat)}, R1 s d p r → ∀ v a, r = .ok (v, a) → s.drop p = shut v ++ s.drop a ∧ good d v ∧ p < a ∧ a ≤ s.length) := by
  intro d p r h
  refine R1.rec (s := s) (motive_1 := fun d p r _ => ∀ v a, r = .ok (v, a) → s.drop p = shut v ++ s.drop a ∧ good d v ∧ p < a ∧ a ≤ s.length)
    (motive_2 := fun d p acc r _ => ∀ v a, r = .ok (v, a) → ∃ xs, v = .tuple (acc ++ xs) ∧ s.drop p = shutAll xs ++ (41 :: s.drop a) ∧ goodAll (d + 1) xs ∧ p < a ∧ a ≤ s.length)
    ?_ ?_ ?_ ?_ ?_ ?_ ?_ h
  · intro d p _ v a e
    exact atom_ok e
  · intro d p r h1 hd h2 _ ih v a e
    obtain ⟨xs, rfl, e1, g, l1, l2⟩ := ih v a e
    refine ⟨?_, ?_, by omega, l2⟩
    · rw [drop_at h1, drop_at h2, e1]
      simp [shut]
    · simp only [good, List.nil_append]
      exact ⟨hd, g⟩
  · intro d p _ _ _ v a e
    cases e
  · intro d p acc h1 v a e
    cases e
    exact ⟨[], by rw [List.append_nil], by rw [drop_at h1]; simp [shutAll], by simp [goodAll], by omega, lt_of_at h1⟩
  · intro d p e acc _ _ _ v a q
    cases q
  · intro d p b w acc _ _ _ _ v a q
    cases q
  · intro d p b w acc r _ _ h3 _ ih1 ih2 v a q
    obtain ⟨e1, g1, l1, l2⟩ := ih1 w b rfl
    obtain ⟨xs, rfl, e2, g2, l3, l4⟩ := ih2 v a q
    refine ⟨w :: xs, by rw [List.append_assoc]; rfl, ?_, ?_, by omega, l4⟩
    · rw [e1, drop_at h3, e2]
      simp [shutAll]
    · simp only [goodAll]
      exact ⟨g1, g2⟩
/-! ### the machine does what is read -/
def Hits (s : Cs) (rs0 : List (List PyData)) (p0 : Nat) (n : Nat) (rs : List (List PyData)) : Except Nat (PyData × Nat) → Prop
  | .error e => mach s n rs0 p0 = .error e
  | .ok (v, a) => ∃ n', s.length < n' + a ∧ mach s n rs0 p0 = contm s n' rs v a
theorem mach_succ (s : Cs) (n : Nat) (rs : List (List PyData)) (p : Nat) : mach s (n + 1) rs p = (if s[p]? = some 40 ∧ rs.length < 40 then (if s[p + 1]? = some 32 then mach s n ([] :: rs) (p + 2) else .error (p + 1))
    else match rs with
      | [] => (match atomAt s p with
        | .error e => .error e
        | .ok (v, a) => contm s n [] v a)
      | r :: rs' => if s[p]? = some 41 then contm s n rs' (.tuple r) (p + 1) else (match atomAt s p with
        | .error e => .error e
        | .ok (v, a) => contm s n (r :: rs') v a)) := by
  rw [mach.eq_def]
theorem mach_atom {s : Cs} {n p : Nat} {rs : List (List PyData)} (h1 : ¬ (s[p]? = some 40 ∧ rs.length < 40)) (h2 : s[p]? = some 41 → rs = []) : mach s (n + 1) rs p = (match atomAt s p with
    | .error e => .error e
    | .ok (v, a) => contm s n rs v a) := by
  rw [mach_succ, if_neg h1]
  cases rs with
  | nil => rfl
  | cons r rs' =>
    have h3 : ¬ s[p]? = some 41 := fun q => by cases h2 q
    simp only [if_neg h3]
theorem mach_does {s : Cs} {d p : Nat} {r : Except Nat (PyData × Nat)} (h : R1 s d p r) : ∀ (n : Nat) (rs : List (List PyData)), rs.length = d → s.length < n + p → p ≤ s.length → (s[p]? = some 41 → rs = []) → Hits s rs p n rs r := by
  refine R1.rec (s := s) (motive_1 := fun d p r _ => ∀ (n : Nat) (rs : List (List PyData)), rs.length = d → s.length < n + p → p ≤ s.length → (s[p]? = some 41 → rs = []) → Hits s rs p n rs r)
    (motive_2 := fun d p acc r _ => ∀ (n : Nat) (rs : List (List PyData)), rs.length = d → d < 40 → s.length < n + p → p ≤ s.length → Hits s (acc :: rs) p n rs r)
    ?_ ?_ ?_ ?_ ?_ ?_ ?_ h
  · intro d p h1 n rs hd hn hp h2
    obtain ⟨m, rfl⟩ : ∃ m, n = m + 1 := ⟨n - 1, by omega⟩
    have e := mach_atom (n := m) (s := s) (p := p) (rs := rs) (by rw [hd]; exact h1) h2
    cases ha : atomAt s p with
    | error er =>
      rw [ha] at e
      exact e
    | ok va =>
      obtain ⟨v, a⟩ := va
      rw [ha] at e
      obtain ⟨_, _, l1, l2⟩ := atom_ok (d := d) ha
      exact ⟨m, by omega, e⟩
  · intro d p r h1 hd h2 _ ih n rs hl hn hp _
    obtain ⟨m, rfl⟩ : ∃ m, n = m + 1 := ⟨n - 1, by omega⟩
    have l2 := lt_of_at h2
    have e : mach s (m + 1) rs p = mach s m ([] :: rs) (p + 2) := by
      rw [mach_succ, if_pos ⟨h1, by rw [hl]; exact hd⟩, if_pos h2]
    have z := ih m rs hl hd (by omega) (by omega)
    unfold Hits at z ⊢
    rw [e]
    exact z
  · intro d p h1 hd h2 n rs hl hn hp _
    obtain ⟨m, rfl⟩ : ∃ m, n = m + 1 := ⟨n - 1, by omega⟩
    show mach s (m + 1) rs p = _
    rw [mach_succ, if_pos ⟨h1, by rw [hl]; exact hd⟩, if_neg h2]
  · intro d p acc h1 n rs hl hd hn hp
    obtain ⟨m, rfl⟩ : ∃ m, n = m + 1 := ⟨n - 1, by omega⟩
    refine ⟨m, by omega, ?_⟩
    have h2 : ¬ (s[p]? = some 40 ∧ (acc :: rs).length < 40) := fun q => by
      rw [h1] at q
      cases q.1
    rw [mach_succ, if_neg h2]
    simp only [if_pos h1]
  · intro d p e acc h1 _ ih n rs hl hd hn hp
    exact ih n (acc :: rs) (by rw [List.length_cons, hl]) hn hp (fun q => absurd q h1)
  · intro d p a v acc h1 hr h3 ih n rs hl hd hn hp
    obtain ⟨n', l1, e⟩ := ih n (acc :: rs) (by rw [List.length_cons, hl]) hn hp (fun q => absurd q h1)
    show mach s n (acc :: rs) p = _
    rw [e, contm]
    simp only [if_neg h3]
  · intro d p a v acc r h1 hr h3 _ ih1 ih2 n rs hl hd hn hp
    obtain ⟨n', l1, e⟩ := ih1 n (acc :: rs) (by rw [List.length_cons, hl]) hn hp (fun q => absurd q h1)
    have la := lt_of_at h3
    have e2 : mach s n (acc :: rs) p = mach s n' ((acc ++ [v]) :: rs) (a + 1) := by
      rw [e, contm]
      simp only [if_pos h3]
    have z := ih2 n' rs hl hd (by omega) (by omega)
    unfold Hits at z ⊢
    rw [e2]
    exact z
def due (s : Cs) : Except Nat PyData := mach s (s.length + 1) [] 0
theorem due_fin {s : Cs} {r : Except Nat (PyData × Nat)} (h : R1 s 0 0 r) : due s = fin s r := by
  have z := mach_does h (s.length + 1) [] rfl (by omega) (by omega) (fun _ => rfl)
  cases r with
  | error e => exact z
  | ok va =>
    obtain ⟨v, a⟩ := va
    obtain ⟨n', _, e⟩ := z
    show mach s (s.length + 1) [] 0 = _
    rw [e, contm]
    rfl
/-! ### what was written is read -/
theorem sgns_39 : 39 ∉ sgns := by decide
theorem shut_head {d : Nat} {v : PyData} (h : good d v) : ∃ c w, shut v = c :: w ∧ c ≠ 41 := by
  cases v with
  | none => exact ⟨110, _, rfl, by decide⟩
  | int i =>
    simp only [good] at h
    obtain ⟨l, hl, rfl | ⟨h0, rfl⟩⟩ := h
    · rw [shut_pos hl]
      cases l with
      | nil => exact absurd rfl (canon_ne hl)
      | cons c l => exact ⟨c, l, rfl, by have := hl.2.1 c List.mem_cons_self; omega⟩
    · rw [shut_neg hl h0]
      exact ⟨45, l, rfl, by decide⟩
  | str x => exact ⟨39, x.cps.toList ++ [39], by simp [shut], by decide⟩
  | tuple xs => exact ⟨40, 32 :: (shutAll xs ++ [41]), by simp [shut], by decide⟩
  | list _ => simp [good] at h
  | bool _ => simp [good] at h
  | dict _ => simp [good] at h
theorem more_is {c : Nat} {l s rest : Cs} {b : Nat} (hl : canon (c :: l)) (h : s.drop (b + 1) = l ++ rest) (hr : ∀ x, rest.head? = some x → x ∉ digs) : more c s b = l := by
  unfold more
  split
  · rename_i e
    rcases hl.2.2 with q | ⟨c', r, q, hc⟩
    · injection q with _ q2
      exact q2.symm
    · injection q with q1 _
      omega
  · refine tw_is l h (fun x hx => mem_digs.mpr (hl.2.1 x (List.mem_cons_of_mem _ hx))) ?_ (.inr hr)
    have := hl.1
    rw [List.length_cons] at this
    omega
/-- how an atom that was written is read; rest: no figure -/
theorem atom_is {s rest : Cs} {d p : Nat} {v : PyData} (hg : good d v) (ha : ∀ xs, v ≠ .tuple xs) (h : s.drop p = shut v ++ rest) (hr : ∀ x, rest.head? = some x → x ∉ digs) : atomAt s p = .ok (v, p + (shut v).length) ∧ s[p]? ≠ some 40 := by
  cases v with
  | none =>
    have e0 : s[p]? = some 110 := at_drop (rest := [111, 110, 101] ++ rest) (by rw [h]; rfl)
    refine ⟨?_, by rw [e0]; decide⟩
    unfold atomAt noneAt
    rw [if_pos e0, word_is noneW s rest p h]
    rfl
  | int i =>
    have numf : ∀ (neg : Bool) (c : Nat) (l : Cs) (b : Nat), canon (c :: l) → s.drop b = c :: (l ++ rest) → c ∈ (if neg then digs1 else digs) → numFrom neg s b = .ok (.int (if neg then -((digitsVal (c :: l) : Nat) : Int) else ((digitsVal (c :: l) : Nat) : Int)), b + 1 + l.length) := by
      intro neg c l b hl hb hc
      have e1 := at_drop hb
      have e2 : more c s b = l := more_is hl (by rw [← List.drop_drop, hb]; rfl) hr
      unfold numFrom
      rw [e1]
      show (if c ∈ (if neg then digs1 else digs) then _ else _) = _
      rw [if_pos hc, e2]
    simp only [good] at hg
    obtain ⟨l, hl, rfl | ⟨h0, rfl⟩⟩ := hg
    · rw [shut_pos hl] at h ⊢
      cases l with
      | nil => exact absurd rfl (canon_ne hl)
      | cons c l =>
        have e0 : s[p]? = some c := at_drop (rest := l ++ rest) h
        have hc := hl.2.1 c List.mem_cons_self
        refine ⟨?_, by rw [e0]; intro q; have := Option.some.inj q; omega⟩
        unfold atomAt numAt
        rw [e0, if_neg (by intro q; have := Option.some.inj q; omega), if_neg (by intro q; have := Option.some.inj q; omega), if_neg (by intro q; have := Option.some.inj q; omega)]
        rw [numf false c l p hl h (mem_digs.mpr hc)]
        rw [List.length_cons]
        simp only [if_neg Bool.false_ne_true]
        congr 2
        omega
    · rw [shut_neg hl h0] at h ⊢
      have e0 : s[p]? = some 45 := at_drop (rest := l ++ rest) h
      cases l with
      | nil => exact absurd rfl (canon_ne hl)
      | cons c l =>
        have hc : 49 ≤ c ∧ c ≤ 57 := by
          have h1 := hl.2.1 c List.mem_cons_self
          rcases hl.2.2 with q | ⟨c', r, q, hc⟩
          · exact absurd q h0
          · injection q with q1 _
            omega
        refine ⟨?_, by rw [e0]; decide⟩
        unfold atomAt numAt
        rw [e0, if_neg (by decide), if_neg (by decide), if_pos rfl]
        rw [numf true c l (p + 1) hl (by rw [← List.drop_drop, h]; rfl) (mem_digs1.mpr hc)]
        rw [List.length_cons, List.length_cons]
        simp only [if_true]
        congr 2
        omega
  | str x =>
    simp only [good] at hg
    simp only [shut] at h ⊢
    have e0 : s[p]? = some 39 := at_drop (rest := x.cps.toList ++ [39] ++ rest) (by rw [h]; rfl)
    refine ⟨?_, by rw [e0]; decide⟩
    have e1 : s.drop (p + 1) = x.cps.toList ++ (39 :: rest) := by
      rw [← List.drop_drop, h]
      simp
    have hlen : x.cps.toList.length ≤ s.length := by
      have := congrArg List.length e1
      rw [List.length_drop, List.length_append] at this
      omega
    have e2 : tw sgns s.length s (p + 1) = x.cps.toList := tw_is _ e1 hg hlen (.inr fun c hc => by
      have : c = 39 := (Option.some.inj hc).symm
      rw [this]
      exact sgns_39)
    have e3 : s[p + 1 + x.cps.toList.length]? = some 39 := at_drop (rest := rest) (drop_next e1)
    unfold atomAt strAt
    rw [if_neg (by rw [e0]; decide), if_pos e0, e2, if_pos e3]
    have e4 : mk x.cps.toList = x := by
      obtain ⟨c⟩ := x
      simp [mk]
    rw [e4, List.length_cons, List.length_append]
    simp only [List.length_singleton]
    congr 2
    omega
  | tuple xs => exact absurd rfl (ha xs)
  | list _ => simp [good] at hg
  | bool _ => simp [good] at hg
  | dict _ => simp [good] at hg
mutual
theorem read_is {s : Cs} : ∀ (v : PyData) (d p : Nat) (rest : Cs), good d v → s.drop p = shut v ++ rest → (∀ x, rest.head? = some x → x ∉ digs) → R1 s d p (.ok (v, p + (shut v).length))
  | .tuple xs, d, p, rest, hg, h, hr => by
    simp only [good] at hg
    simp only [shut] at h ⊢
    have e0 : s[p]? = some 40 := at_drop (rest := 32 :: (shutAll xs ++ [41]) ++ rest) (by rw [h]; rfl)
    have e1 : s.drop (p + 1) = 32 :: (shutAll xs ++ (41 :: rest)) := by
      rw [← List.drop_drop, h]
      simp
    have e2 : s.drop (p + 2) = shutAll xs ++ (41 :: rest) := by
      rw [show p + 2 = p + 1 + 1 by omega, ← List.drop_drop, e1]
      rfl
    refine .row e0 hg.1 (at_drop e1) ?_
    have z := row_is xs d (p + 2) [] rest hg.2 e2
    simp only [List.nil_append] at z
    have e3 : p + (40 :: 32 :: (shutAll xs ++ [41])).length = p + 2 + (shutAll xs).length + 1 := by
      simp only [List.length_cons, List.length_append, List.length_nil]
      omega
    rw [e3]
    exact z
  | .none, d, p, rest, hg, h, hr => by
    obtain ⟨e1, e2⟩ := atom_is hg (fun xs q => by cases q) h hr
    rw [← e1]
    exact .atom fun q => e2 q.1
  | .int i, d, p, rest, hg, h, hr => by
    obtain ⟨e1, e2⟩ := atom_is hg (fun xs q => by cases q) h hr
    rw [← e1]
    exact .atom fun q => e2 q.1
  | .str x, d, p, rest, hg, h, hr => by
    obtain ⟨e1, e2⟩ := atom_is hg (fun xs q => by cases q) h hr
    rw [← e1]
    exact .atom fun q => e2 q.1
  | .list _, d, p, rest, hg, h, hr => by simp [good] at hg
  | .bool _, d, p, rest, hg, h, hr => by simp [good] at hg
  | .dict _, d, p, rest, hg, h, hr => by simp [good] at hg
theorem row_is {s : Cs} : ∀ (xs : List PyData) (d p : Nat) (acc : List PyData) (rest : Cs), goodAll (d + 1) xs → s.drop p = shutAll xs ++ (41 :: rest) → RR s d p acc (.ok (.tuple (acc ++ xs), p + (shutAll xs).length + 1))
  | [], d, p, acc, rest, _, h => by
    simp only [shutAll, List.nil_append] at h ⊢
    rw [List.append_nil]
    exact .close (at_drop h)
  | x :: xs, d, p, acc, rest, hg, h => by
    simp only [goodAll] at hg
    simp only [shutAll] at h ⊢
    have h' : s.drop p = shut x ++ (32 :: (shutAll xs ++ (41 :: rest))) := by
      rw [h]
      simp
    obtain ⟨c, w, hw, hc⟩ := shut_head hg.1
    have e0 : s[p]? = some c := at_drop (rest := w ++ (32 :: (shutAll xs ++ (41 :: rest)))) (by rw [h', hw]; rfl)
    have e1 := read_is (s := s) x (d + 1) p _ hg.1 h' (fun y hy => by
      have : y = 32 := (Option.some.inj hy).symm
      rw [this]
      decide)
    have e2 := drop_next h'
    have e3 : s.drop (p + (shut x).length + 1) = shutAll xs ++ (41 :: rest) := by
      rw [← List.drop_drop, e2]
      rfl
    have z := row_is xs d (p + (shut x).length + 1) (acc ++ [x]) rest hg.2 e3
    rw [List.append_assoc] at z
    have e4 : p + (shut x).length + 1 + (shutAll xs).length + 1 = p + (shut x ++ 32 :: shutAll xs).length + 1 := by
      rw [List.length_append, List.length_cons]
      omega
    rw [e4] at z
    exact .more (by rw [e0]; intro q; exact hc (Option.some.inj q)) e1 (at_drop e2) z
end
theorem read_shut {v : PyData} (h : good 0 v) : R1 (shut v) 0 0 (.ok (v, (shut v).length)) := by
  have z := read_is (s := shut v) v 0 0 [] h (by simp) (fun x hx => by cases hx)
  rw [Nat.zero_add] at z
  exact z
/-- what read_value comes to is told by due alone -/
theorem fin_shut {v : PyData} (h : good 0 v) : due (shut v) = .ok v := by
  rw [due_fin (read_shut h)]
  exact if_pos rfl
theorem due_ok {s : Cs} {r : Except Nat (PyData × Nat)} {v : PyData} (h : R1 s 0 0 r) (e : due s = .ok v) : shut v = s ∧ good 0 v := by
  rw [due_fin h] at e
  cases r with
  | error er => cases e
  | ok va =>
    obtain ⟨w, a⟩ := va
    by_cases ha : a = s.length
    · have e2 := (if_pos ha).symm.trans e
      cases e2
      obtain ⟨e1, g, _, _⟩ := read_ok h _ _ rfl
      refine ⟨?_, g⟩
      rw [List.drop_zero, ha, List.drop_length, List.append_nil] at e1
      exact e1.symm
    · have e2 := (if_neg ha).symm.trans e
      cases e2
end M93
set_option Elab.async false
set_option linter.all false
set_option maxRecDepth 100000
set_option maxHeartbeats 2000000
/-! Sizes of good values; texts joined by blanks. -/
namespace M93
open PySem PySem.NumText
theorem val_lt : ∀ (n : Nat) (l : Cs), l.length = n → AllDigits l → digitsVal l < 16 ^ n
  | 0, l, hn, _ => by
    have : l = [] := List.length_eq_zero_iff.mp hn
    subst this
    decide
  | n + 1, l, hn, h => by
    have hne : l ≠ [] := by intro e; rw [e] at hn; simp at hn
    obtain ⟨ini, c, rfl⟩ : ∃ ini c, l = ini ++ [c] := ⟨_, _, (List.dropLast_concat_getLast hne).symm⟩
    have ih := val_lt n ini (by rw [List.length_append, List.length_singleton] at hn; omega) (fun d hd => h d (List.mem_append_left _ hd))
    have hc := h c (List.mem_append_right _ (List.mem_singleton.mpr rfl))
    rw [digitsVal_snoc, Nat.pow_succ]
    omega
theorem canon_log {l : Cs} (h : canon l) : (digitsVal l).log2 < 4 * l.length := by
  have h1 := val_lt l.length l rfl h.2.1
  have h2 : (16 : Nat) ^ l.length = 2 ^ (4 * l.length) := by rw [Nat.pow_mul]
  rw [h2] at h1
  have hl := List.length_pos_iff.mpr (canon_ne h)
  by_cases h0 : digitsVal l = 0
  · rw [h0]
    show Nat.log2 0 < _
    simp [Nat.log2_zero]
    omega
  · exact (Nat.log2_lt h0).mpr h1
mutual
theorem good_lay : ∀ (v : PyData) (d : Nat), good d v → v.canLay0 = true ∧ v.intsShort 31 = true ∧ v.showable = true ∧ v.depth + d ≤ max d 40 ∧ v.weight ≤ 4 * (shut v).length
  | .none, d, _ => by
    refine ⟨by simp [PyData.canLay0], by simp [PyData.intsShort], by simp [PyData.showable], by simp only [PyData.depth]; omega, by simp only [PyData.weight]; omega⟩
  | .int i, d, h => by
    simp only [good] at h
    obtain ⟨l, hl, hi⟩ := h
    have e1 : i.natAbs = digitsVal l := by
      rcases hi with rfl | ⟨_, rfl⟩
      · simp
      · simp
    have e2 : (shut (.int i)).length ≤ 31 ∧ l.length ≤ (shut (.int i)).length := by
      have := hl.1
      rcases hi with rfl | ⟨h0, rfl⟩
      · rw [shut_pos hl]
        omega
      · rw [shut_neg hl h0, List.length_cons]
        omega
    have e3 := canon_log hl
    have e4 : (PyData.shown (.int i)).length = (shut (.int i)).length := by
      rw [PyData.shown_int]
      simp only [shut]
      rw [Array.length_toList]
      rfl
    have h1 := hl.1
    refine ⟨by simp [PyData.canLay0], ?_, ?_, by simp only [PyData.depth]; omega, ?_⟩
    · simp only [PyData.intsShort, decide_eq_true_eq]
      omega
    · simp only [PyData.showable, decide_eq_true_eq]
      rw [e1]
      omega
    · simp only [PyData.weight]
      split
      · omega
      · rw [e1]
        omega
  | .str x, d, h => by
    simp only [good] at h
    refine ⟨?_, by simp [PyData.intsShort], by simp [PyData.showable], by simp only [PyData.depth]; omega, ?_⟩
    · simp only [PyData.canLay0, PyData.strOk]
      rw [← Array.all_toList, List.all_eq_true]
      intro c hc
      have h1 := h c hc
      have h2 : ∀ c ∈ sgns, c < 0x110000 := by decide
      simpa using h2 c h1
    · simp only [PyData.weight, shut, List.length_cons, List.length_append, Array.length_toList]
      omega
  | .tuple xs, d, h => by
    simp only [good] at h
    obtain ⟨h1, h2, h3, h4, h5⟩ := goodAll_lay xs (d + 1) h.2
    refine ⟨by simp only [PyData.canLay0]; exact h1, by simp only [PyData.intsShort]; exact h2, by simp only [PyData.showable]; exact h3, by simp only [PyData.depth]; omega, ?_⟩
    simp only [PyData.weight, shut, List.length_cons, List.length_append]
    omega
  | .list _, d, h => by simp [good] at h
  | .bool _, d, h => by simp [good] at h
  | .dict _, d, h => by simp [good] at h
theorem goodAll_lay : ∀ (xs : List PyData) (d : Nat), goodAll d xs → PyData.canLayAll0 xs = true ∧ PyData.intsShortAll 31 xs = true ∧ PyData.showableAll xs = true ∧ PyData.depthAll xs + d ≤ max d 40 ∧ PyData.weightAll xs ≤ 4 * (shutAll xs).length
  | [], d, _ => by
    refine ⟨by simp [PyData.canLayAll0], by simp [PyData.intsShortAll], by simp [PyData.showableAll], by simp only [PyData.depthAll]; omega, by simp only [PyData.weightAll]; omega⟩
  | x :: xs, d, h => by
    simp only [goodAll] at h
    obtain ⟨a1, a2, a3, a4, a5⟩ := good_lay x d h.1
    obtain ⟨b1, b2, b3, b4, b5⟩ := goodAll_lay xs d h.2
    refine ⟨by simp only [PyData.canLayAll0, a1, b1, Bool.and_self], by simp only [PyData.intsShortAll, a2, b2, Bool.and_self], by simp only [PyData.showableAll, a3, b3, Bool.and_self], by simp only [PyData.depthAll]; omega, ?_⟩
    simp only [PyData.weightAll, shutAll, List.length_append, List.length_cons]
    omega
end
/-! ### words joined by blanks -/
def flat : List Cs → Cs
  | [] => []
  | w :: ws => w ++ (32 :: flat ws)
theorem flat_append : ∀ a b : List Cs, flat (a ++ b) = flat a ++ flat b
  | [], b => rfl
  | w :: ws, b => by
    show w ++ (32 :: flat (ws ++ b)) = (w ++ (32 :: flat ws)) ++ flat b
    rw [flat_append ws b]
    simp
theorem join_flat : ∀ (ws : List Cs) (z : Cs), TL.joinL [32] (ws ++ [z]) = flat ws ++ z
  | [], z => rfl
  | [w], z => by
    show w ++ ([32] ++ TL.joinL [32] [z]) = (w ++ (32 :: flat [])) ++ z
    simp [flat, TL.joinL]
  | w :: v :: ws, z => by
    show w ++ ([32] ++ TL.joinL [32] (v :: ws ++ [z])) = (w ++ (32 :: flat (v :: ws))) ++ z
    rw [join_flat (v :: ws) z]
    simp
theorem flat_shut : ∀ xs : List PyData, flat (xs.map shut) = shutAll xs
  | [] => rfl
  | x :: xs => by
    show shut x ++ (32 :: flat (xs.map shut)) = _
    rw [flat_shut xs]
    simp [shutAll]
/-- what write_value joins -/
theorem join_row (xs : List PyData) : TL.joinL [32] ([40] :: xs.map shut ++ [[41]]) = shut (.tuple xs) := by
  rw [join_flat]
  show ([40] ++ (32 :: flat (xs.map shut))) ++ [41] = _
  rw [flat_shut]
  simp [shut]
/-- open rows, the outermost first: what has been written of them -/
def txt : List (List PyData) → Cs
  | [] => []
  | r :: rs => 40 :: 32 :: (shutAll r ++ txt rs)
def goodRows (d : Nat) : List (List PyData) → Prop
  | [] => True
  | r :: rs => goodAll (d + 1) r ∧ goodRows (d + 1) rs
theorem txt_append : ∀ a b, txt (a ++ b) = txt a ++ txt b
  | [], b => rfl
  | r :: rs, b => by
    show 40 :: 32 :: (shutAll r ++ txt (rs ++ b)) = (40 :: 32 :: (shutAll r ++ txt rs)) ++ txt b
    rw [txt_append rs b]
    simp
theorem goodRows_append : ∀ (a b : List (List PyData)) (d : Nat), goodRows d (a ++ b) ↔ goodRows d a ∧ goodRows (d + a.length) b
  | [], b, d => by simp [goodRows]
  | r :: rs, b, d => by
    show goodAll (d + 1) r ∧ goodRows (d + 1) (rs ++ b) ↔ (goodAll (d + 1) r ∧ goodRows (d + 1) rs) ∧ _
    rw [goodRows_append rs b (d + 1), List.length_cons, show d + 1 + rs.length = d + (rs.length + 1) by omega, and_assoc]
theorem txt_one (r : List PyData) : txt [r] = 40 :: 32 :: shutAll r := by simp [txt]
/-- a new row -/
theorem rows_new {ws : List Cs} {rs : List (List PyData)} (h : flat ws = txt rs) (g : goodRows 0 rs) : flat (ws ++ [[40]]) = txt (rs ++ [[]]) ∧ goodRows 0 (rs ++ [[]]) := by
  refine ⟨by rw [flat_append, txt_append, h]; rfl, (goodRows_append _ _ _).mpr ⟨g, ?_⟩⟩
  simp [goodRows, goodAll]
/-- something behind the last row's -/
theorem rows_add {ws : List Cs} {rs : List (List PyData)} {r : List PyData} {v : PyData} (h : flat ws = txt (rs ++ [r])) (g : goodRows 0 (rs ++ [r])) (gv : good (rs.length + 1) v) : flat (ws ++ [shut v]) = txt (rs ++ [r ++ [v]]) ∧ goodRows 0 (rs ++ [r ++ [v]]) := by
  have g2 := (goodRows_append _ _ _).mp g
  simp only [goodRows, Nat.zero_add, and_true] at g2
  refine ⟨?_, (goodRows_append _ _ _).mpr ⟨g2.1, ?_⟩⟩
  · rw [flat_append, h, txt_append, txt_append, txt_one, txt_one, shutAll_append]
    simp [flat, shutAll]
  · simp only [goodRows, Nat.zero_add, and_true]
    exact goodAll_append g2.2 gv
/-- the last row closed -/
theorem rows_close {ws : List Cs} {rs : List (List PyData)} {r r' : List PyData} (h : flat ws = txt (rs ++ [r'] ++ [r])) (g : goodRows 0 (rs ++ [r'] ++ [r])) (hl : rs.length + 2 ≤ 40) : flat (ws ++ [[41]]) = txt (rs ++ [r' ++ [.tuple r]]) ∧ goodRows 0 (rs ++ [r' ++ [.tuple r]]) := by
  have g2 := (goodRows_append _ _ _).mp g
  have g3 := (goodRows_append _ _ _).mp g2.1
  simp only [goodRows, Nat.zero_add, and_true, List.length_append, List.length_singleton] at g2 g3
  refine ⟨?_, (goodRows_append _ _ _).mpr ⟨g3.1, ?_⟩⟩
  · rw [flat_append, h, txt_append, txt_append, txt_append, txt_one, txt_one, txt_one, shutAll_append]
    simp [flat, shutAll, shut]
  · simp only [goodRows, Nat.zero_add, and_true]
    refine goodAll_append g3.2 ?_
    simp only [good]
    exact ⟨by omega, g2.2⟩
theorem rows_end {ws : List Cs} {r : List PyData} (h : flat ws = txt [r]) : TL.joinL [32] (ws ++ [[41]]) = shut (.tuple r) := by
  rw [join_flat, h, txt_one]
  simp [shut]
theorem flat_len : ∀ (ws : List Cs) (B : Nat), (∀ w ∈ ws, w.length ≤ B) → (flat ws).length ≤ ws.length * (B + 1)
  | [], B, _ => by simp [flat]
  | w :: ws, B, h => by
    have h1 := h w List.mem_cons_self
    have h2 := flat_len ws B fun z hz => h z (List.mem_cons_of_mem _ hz)
    show (w ++ (32 :: flat ws)).length ≤ (ws.length + 1) * (B + 1)
    rw [List.length_append, List.length_cons, Nat.add_mul]
    omega
/-- data of a read or written value: shaped, shown within the line -/
theorem good_fits {v : PyData} (h : good 0 v) (hl : (shut v).length ≤ 100000) : SeqAt.shaped v = true ∧ v.showable = true ∧ v.hasDict = false ∧ v.depth ≤ 40 ∧ v.shown.length ≤ 13300000 := by
  obtain ⟨h1, h2, h3, h4, h5⟩ := good_lay v 0 h
  have hd : v.depth ≤ 40 := by omega
  refine ⟨?_, h3, PyData.hasDict_of_canLay v h1, hd, ?_⟩
  · show (v.canLay0 && decide (v.depth ≤ 64)) = true
    rw [h1, Bool.true_and, decide_eq_true_eq]
    omega
  · have z := PyData.shown_le 31 (by decide) v (PyData.leavesShort_of_canLay0 31 v h1 h2)
    omega
end M93
set_option Elab.async false
set_option linter.all false
set_option maxRecDepth 100000
set_option maxHeartbeats 4000000
set_option pp.maxSteps 3000
/-! what repr and == ask of the law's data -/
namespace M93
open PySem PySem.NumText
mutual
theorem shut_small : ∀ (v : PyData) (d : Nat), good d v → ∀ c ∈ shut v, c < 128
  | .none, d, _, c, h => by
    have z : ∀ c ∈ noneW, c < 128 := by decide
    exact z c h
  | .int i, d, g, c, h => by
    simp only [good] at g
    obtain ⟨l, hl, hi⟩ := g
    rcases hi with rfl | ⟨h0, rfl⟩
    · rw [shut_pos hl] at h
      have := hl.2.1 c h
      omega
    · rw [shut_neg hl h0] at h
      rcases List.mem_cons.mp h with q | q
      · omega
      · have := hl.2.1 c q
        omega
  | .str x, d, g, c, h => by
    simp only [good] at g
    have z : ∀ c ∈ sgns, c < 128 := by decide
    have h : c ∈ 39 :: (x.cps.toList ++ [39]) := h
    simp only [List.mem_cons, List.mem_append, List.not_mem_nil, or_false] at h
    rcases h with q | q | q
    · omega
    · exact z c (g c q)
    · omega
  | .tuple xs, d, g, c, h => by
    simp only [good] at g
    have h : c ∈ 40 :: 32 :: (shutAll xs ++ [41]) := h
    simp only [List.mem_cons, List.mem_append, List.not_mem_nil, or_false] at h
    rcases h with q | q | q | q
    · omega
    · omega
    · exact shutAll_small xs (d + 1) g.2 c q
    · omega
  | .list _, d, g, _, _ => by simp [good] at g
  | .bool _, d, g, _, _ => by simp [good] at g
  | .dict _, d, g, _, _ => by simp [good] at g
theorem shutAll_small : ∀ (xs : List PyData) (d : Nat), goodAll d xs → ∀ c ∈ shutAll xs, c < 128
  | [], d, _, c, h => by cases h
  | x :: xs, d, g, c, h => by
    simp only [goodAll] at g
    have h : c ∈ shut x ++ (32 :: shutAll xs) := h
    simp only [List.mem_append, List.mem_cons] at h
    rcases h with q | q | q
    · exact shut_small x d g.1 c q
    · omega
    · exact shutAll_small xs d g.2 c q
end
/-- all that == and repr ask -/
def Fit (v : PyData) : Prop := SeqAt.shaped v = true ∧ PyData.eqv v v = true ∧ v.showable = true ∧ v.hasDict = false ∧ v.depth ≤ 50 ∧ v.shown.length ≤ sizeLine
theorem fit_of {v : PyData} (h1 : v.canLay0 = true) (h2 : v.intsShort 31 = true) (h3 : v.showable = true) (h4 : v.depth ≤ 45) (h5 : v.weight ≤ 401000) : Fit v := by
  refine ⟨?_, SeqAt.eqv_refl_plain v (PyData.plain_of_canLay0 v h1), h3, PyData.hasDict_of_canLay v h1, by omega, ?_⟩
  · show (v.canLay0 && decide (v.depth ≤ 64)) = true
    rw [h1, Bool.true_and, decide_eq_true_eq]
    omega
  · have z := PyData.shown_le 31 (by decide) v (PyData.leavesShort_of_canLay0 31 v h1 h2)
    have e : sizeLine = 16777216 := by decide
    omega
theorem fit_good {v : PyData} (h : good 0 v) (hl : (shut v).length ≤ 100000) : Fit v ∧ Fit (.list [.bool true, v]) := by
  obtain ⟨h1, h2, h3, h4, h5⟩ := good_lay v 0 h
  refine ⟨fit_of h1 h2 h3 (by omega) (by omega), fit_of ?_ ?_ ?_ ?_ ?_⟩
  · simp only [PyData.canLay0, PyData.canLayAll0, h1, Bool.and_self]
  · simp only [PyData.intsShort, PyData.intsShortAll, h2, Bool.and_self]
  · simp only [PyData.showable, PyData.showableAll, h3, Bool.and_self]
  · simp only [PyData.depth, PyData.depthAll]
    omega
  · simp only [PyData.weight, PyData.weightAll]
    omega
theorem fit_shut {v : PyData} (h : good 0 v) (hl : (shut v).length ≤ 100000) : Fit (.str (mk (shut v))) := by
  refine fit_of ?_ (by simp [PyData.intsShort]) (by simp [PyData.showable]) (by simp only [PyData.depth]; omega) ?_
  · simp only [PyData.canLay0, PyData.strOk]
    rw [← Array.all_toList, List.all_eq_true]
    intro c hc
    have h1 := shut_small v 0 h c hc
    simp only [decide_eq_true_eq]
    omega
  · simp only [PyData.weight]
    show (shut v).toArray.size ≤ _
    rw [List.size_toArray]
    omega
theorem fit_bad {e : Nat} (h : e ≤ 100000) : Fit (.list [.bool false, .int (e : Int)]) := by
  have e1 : (PyData.shown (.int (e : Int))).length ≤ 6 := by
    rw [PyData.shown_int]
    have z := TL.numL_len (n := e) (k := 6) (by decide) (by omega)
    rw [← TL.tl_num] at z
    show (Str.ofString (toString ((e : Nat) : Int))).cps.size ≤ 6
    rw [← Array.length_toList]
    exact z
  have e2 : ((e : Int)).natAbs.log2 < 17 := by
    rw [Int.natAbs_natCast]
    by_cases h0 : e = 0
    · rw [h0]
      decide
    · exact (Nat.log2_lt h0).mpr (by omega)
  refine fit_of ?_ ?_ ?_ ?_ ?_
  · simp [PyData.canLay0, PyData.canLayAll0]
  · simp only [PyData.intsShort, PyData.intsShortAll, Bool.and_true, Bool.true_and, decide_eq_true_eq]
    omega
  · simp only [PyData.showable, PyData.showableAll, Bool.and_true, Bool.true_and, decide_eq_true_eq]
    omega
  · simp only [PyData.depth, PyData.depthAll]
    omega
  · simp only [PyData.weight, PyData.weightAll]
    split <;> omega
theorem word_err : ∀ (w s : Cs) (p e : Nat), p ≤ s.length → wordAt w s p = .error e → e ≤ s.length
  | [], s, p, e, _, h => by cases h
  | c :: w, s, p, e, hp, h => by
    unfold wordAt at h
    split at h
    · rename_i hc
      exact word_err w s (p + 1) e (lt_of_at hc) h
    · cases h
      exact hp
theorem num_err {neg : Bool} {s : Cs} {b e : Nat} (h : numFrom neg s b = .error e) : e = b := by
  unfold numFrom at h
  cases hb : s[b]? with
  | none =>
    rw [hb] at h
    cases h
    rfl
  | some c =>
    rw [hb] at h
    by_cases hc : c ∈ (if neg then digs1 else digs)
    · have h : (if c ∈ (if neg then digs1 else digs) then _ else _) = Except.error e := h
      rw [if_pos hc] at h
      cases h
    · have h : (if c ∈ (if neg then digs1 else digs) then _ else _) = Except.error e := h
      rw [if_neg hc] at h
      cases h
      rfl
theorem atom_err {s : Cs} {p e : Nat} (hp : p ≤ s.length) (h : atomAt s p = .error e) : e ≤ s.length + 1 := by
  unfold atomAt at h
  split at h
  · unfold noneAt at h
    split at h
    · cases h
    · rename_i q
      cases h
      have := word_err _ _ _ _ hp q
      omega
  · split at h
    · unfold M93.strAt at h
      split at h
      · cases h
      · cases h
        have := @tw_end sgns s s.length (p + 1)
        omega
    · unfold M93.numAt at h
      split at h
      · rw [num_err h]
        omega
      · rw [num_err h]
        omega
theorem mach_err {s : Cs} : ∀ (n : Nat) (rs : List (List PyData)) (p e : Nat), p ≤ s.length → mach s n rs p = .error e → e ≤ s.length + 1
  | 0, rs, p, e, hp, h => by
    rw [mach.eq_def] at h
    cases h
    omega
  | n + 1, rs, p, e, hp, h => by
    have con : ∀ (rs : List (List PyData)) (v : PyData) (a : Nat), a ≤ s.length → contm s n rs v a = .error e → e ≤ s.length + 1 := by
      intro rs v a ha h
      rw [contm.eq_def] at h
      cases rs with
      | nil =>
        dsimp only at h
        split at h
        · cases h
        · cases h
          omega
      | cons r rs =>
        dsimp only at h
        split at h
        · rename_i hc
          exact mach_err n _ _ e (lt_of_at hc) h
        · cases h
          omega
    have at' : ∀ (rs : List (List PyData)), (match atomAt s p with | .error e => (Except.error e : Except Nat PyData) | .ok (v, a) => contm s n rs v a) = .error e → e ≤ s.length + 1 := by
      intro rs h
      cases ha : atomAt s p with
      | error e' =>
        rw [ha] at h
        cases h
        exact atom_err hp ha
      | ok va =>
        obtain ⟨v, a⟩ := va
        rw [ha] at h
        exact con rs v a (atom_ok (d := 0) ha).2.2.2 h
    rw [mach_succ] at h
    split at h
    · split at h
      · rename_i hc
        exact mach_err n _ _ e (lt_of_at hc) h
      · rename_i q _
        cases h
        have := lt_of_at q.1
        omega
    · cases rs with
      | nil => exact at' [] h
      | cons r rs =>
        dsimp only at h
        split at h
        · rename_i hc
          exact con rs _ _ (lt_of_at hc) h
        · exact at' (r :: rs) h
theorem due_err {s : Cs} {e : Nat} (h : due s = .error e) : e ≤ s.length + 1 := mach_err _ _ _ _ (Nat.zero_le _) h
end M93
set_option Elab.async false
set_option linter.all false
set_option maxRecDepth 100000
set_option maxHeartbeats 4000000
set_option pp.maxSteps 3000
/-! the class Seal -/
namespace K93
open PySem PySem.Spec PyProof.Rows L2 He He2 M93
theorem s_at : ¬ (("_string" : Str) = "_at") := by decide +kernel
theorem a_ts : ¬ (("_at" : Str) = "_string") := by decide +kernel
/-- a Seal's fields -/
def fl (s : Cs) (p : Nat) : List (Str × V) := putF "_at" (.int (p : Int)) (putF "_string" (.str (mk s)) [])
theorem fl_eq (s : Cs) (p : Nat) : fl s p = ([("_string", V.str (mk s)), ("_at", V.int (p : Int))] : List (Str × V)) := by
  show (if ("_string" : Str) = "_at" then [(("_string" : Str), V.int (p : Int))] else (("_string" : Str), V.str (mk s)) :: putF "_at" (V.int (p : Int)) []) = _
  rw [if_neg s_at]
  all_goals rfl
theorem fl_at (s : Cs) (p : Nat) : (fl s p).lookup ("_at" : Str) = some (.int (p : Int)) := by
  unfold fl
  rw [lookup_putF, if_pos rfl]
theorem fl_string (s : Cs) (p : Nat) : (fl s p).lookup ("_string" : Str) = some (.str (mk s)) := by
  unfold fl
  rw [lookup_putF, if_neg s_at, lookup_putF, if_pos rfl]
theorem fl_no (s : Cs) (p : Nat) {m : Str} (h1 : ¬ m = "_at") (h2 : ¬ m = "_string") : (fl s p).lookup m = none := by
  unfold fl
  rw [lookup_putF, if_neg h1, lookup_putF, if_neg h2]
  all_goals rfl
theorem fl_put (s : Cs) (p q : Nat) : putF "_at" (.int (q : Int)) (fl s p) = fl s q := by
  rw [fl_eq, fl_eq]
  show (if ("_string" : Str) = "_at" then _ else (("_string" : Str), V.str (mk s)) :: (if ("_at" : Str) = "_at" then [(("_at" : Str), V.int (q : Int))] else _)) = _
  rw [if_neg s_at, if_pos rfl]
def so (K : PySem.W.Frag) (dx : Addr) (s : Cs) (p : Nat) : HO := .ins (ga K "Seal") dx (fl s p)
/-- the sign at a place, as a text -/
def sg (s : Cs) (p : Nat) : Cs := (s.drop p).take 1
theorem sIx_nat (n p d : Nat) : HT.sIx n d (some (p : Int)) = min p n := by
  simp only [HT.sIx]
  split <;> omega
theorem cut_mid (s : Cs) (p q : Nat) : cutS (mk s) (some (p : Int)) (some (q : Int)) = mk ((s.drop p).take (q - p)) := by
  show (⟨((s.drop (HT.sIx s.length 0 (some (p : Int)))).take (HT.sIx s.length s.length (some (q : Int)) - HT.sIx s.length 0 (some (p : Int)))).toArray⟩ : Str) = _
  rw [sIx_nat, sIx_nat]
  unfold mk
  congr 2
  by_cases h : p ≤ s.length
  · rw [Nat.min_eq_left h]
    by_cases h2 : q ≤ s.length
    · rw [Nat.min_eq_left h2]
    · rw [Nat.min_eq_right (by omega), List.take_of_length_le (by rw [List.length_drop]; omega), List.take_of_length_le (by rw [List.length_drop]; omega)]
  · rw [show min p s.length = s.length by omega, List.drop_length, List.drop_eq_nil_of_le (show s.length ≤ p by omega)]
    simp
theorem cut_to (s : Cs) (q : Nat) : cutS (mk s) none (some (q : Int)) = mk (s.take q) := by
  have z := cut_mid s 0 q
  rw [List.drop_zero, Nat.sub_zero] at z
  rw [← z]
  rfl
theorem cut_from (s : Cs) (p : Nat) : cutS (mk s) (some (p : Int)) none = mk (s.drop p) := by
  have z := cut_mid s p s.length
  rw [List.take_of_length_le (by rw [List.length_drop]; omega)] at z
  rw [← z]
  show (⟨((s.drop (HT.sIx s.length 0 (some (p : Int)))).take (s.length - HT.sIx s.length 0 (some (p : Int)))).toArray⟩ : Str) = ⟨((s.drop (HT.sIx s.length 0 (some (p : Int)))).take (HT.sIx s.length s.length (some (s.length : Int)) - HT.sIx s.length 0 (some (p : Int)))).toArray⟩
  rw [sIx_nat s.length s.length, Nat.min_self]
theorem cut_one (s : Cs) (p : Nat) : cutS (mk s) (some (p : Int)) (some ((p : Int) + 1)) = mk (sg s p) := by
  have z := cut_mid s p (p + 1)
  rw [show p + 1 - p = 1 by omega] at z
  exact z
theorem size_ok {n : Nat} (h : n ≤ 16000000) : n ≤ sizeLine := by
  rw [sizeLine_eq]
  omega
section
variable {w : World} {K : PySem.W.Frag} {mg : Str → Option Value} {base : Heap}
def sp_next (K : PySem.W.Frag) : Sp := fun vs H Q _ => ∃ (x dx : Addr) (s : Cs) (p : Nat), vs = [.ref x] ∧ H x = some (so K dx s p) ∧ s.length ≤ 100000 ∧ p ≤ s.length ∧ Q (.str (mk (sg s p))) H
theorem ok_next (T : Tx K mg) : Ok w K mg base CX0 1 (ma K (ga K "Seal") "next_sign") ["self"] (sp_next K) := by
  obtain ⟨fd, F⟩ := T.fn_Seal_next_sign
  refine ⟨fd, F.ok sc_Seal_next_sign (fun vs H Q E h => ?_) (fun cdv A outer s H vs Q E hr h => ?_), F.bindsN fun _ _ _ _ _ _ us hl => match us, hl with | [_], _ => rfl, F.kp⟩
  · obtain ⟨x, dx, s, p, rfl, _⟩ := h
    rfl
  · obtain ⟨x, dx, s, p, rfl, hx, hs, hp, k⟩ := h
    refine ⟨_, (pss_one (ps_ret (pe_slice sl_str (pe_fld (pv 0) rfl) (po_some (pe_fld (pv 0) rfl)) (po_some (pe_op op_add (pe_fld (pv 0) rfl) pe_int))))), ?_⟩
    refine ⟨_, rfl, x, _, dx, _, _, rfl, hx, T.cls_Seal, T.noat_Seal__string, fl_string s p, ?_⟩
    refine ⟨_, rfl, x, _, dx, _, _, rfl, hx, T.cls_Seal, T.noat_Seal__at, fl_at s p, _, rfl, ?_⟩
    refine ⟨_, rfl, x, _, dx, _, _, rfl, hx, T.cls_Seal, T.noat_Seal__at, fl_at s p, _, _, rfl, rfl, _, rfl, _, rfl, size_ok (by show s.length ≤ _; omega), ?_⟩
    rw [cut_one]
    exact k
theorem sg_none {s : Cs} {p : Nat} (h : s[p]? = none) : sg s p = [] := by
  unfold sg
  rw [List.drop_eq_nil_of_le (by simpa using h)]
  rfl
theorem sg_some {s : Cs} {p c : Nat} (h : s[p]? = some c) : sg s p = [c] := by
  unfold sg
  rw [drop_at h]
  rfl
theorem eqS (l m : Cs) : decide (V.str (mk l) = V.str (mk m)) = decide (l = m) := by
  by_cases h : l = m
  · subst h
    simp
  · rw [decide_eq_false h]
    refine decide_eq_false fun q => h ?_
    have q2 : mk l = mk m := V.str.inj q
    have q3 := congrArg (fun z : Str => z.cps.toList) q2
    exact q3
theorem lit_empty : Str.ofString "" = mk [] := by decide +kernel
/-- what is wished of a BadSeal at place p: the seal at x may have gone on -/
def BadE (K : PySem.W.Frag) (E : XK) (x : Addr) (H : Hp) (p : Nat) : Prop := ∀ (H' : Hp) (d : Addr), (∀ b o, b ≠ x → H b = some o → H' b = some o) → H' d = some (.xd [("at", .int (p : Int))]) → E (.ref (ga K "BadSeal")) (some d) H'
/-- all that stood stands, but what is at x -/
def Keep (x : Addr) (H H' : Hp) : Prop := ∀ b o, b ≠ x → H b = some o → H' b = some o
theorem Keep.refl (x : Addr) (H : Hp) : Keep x H H := fun _ _ _ h => h
theorem Keep.trans {x : Addr} {H H1 H2 : Hp} (a : Keep x H H1) (b : Keep x H1 H2) : Keep x H H2 := fun c o n h => b c o n (a c o n h)
theorem Keep.self {x : Addr} {H : Hp} {o : HO} : Keep x H (upd H x o) := fun b u n h => by rw [upd_ne n]; exact h
theorem Keep.new {x p : Addr} {H : Hp} {o : HO} (h : H p = none) : Keep x H (upd H p o) := fun b u _ e => by rw [upd_ne (ne_of_none e h)]; exact e
theorem BadE.mono {E : XK} {x : Addr} {H H1 : Hp} {p : Nat} (k : Keep x H H1) (h : BadE K E x H p) : BadE K E x H1 p := fun H' d q e => h H' d (fun b o n z => q b o n (k b o n z)) e
theorem BadE.now {E : XK} {x d : Addr} {H : Hp} {p : Nat} (h : BadE K E x H p) (hd : H d = none) : E (.ref (ga K "BadSeal")) (some d) (upd H d (.xd [("at", .int (p : Int))])) := h _ d (Keep.new hd) upd_same
theorem upd_so {x dx : Addr} {H : Hp} {s : Cs} {p : Nat} (hx : H x = some (so K dx s p)) : upd H x (so K dx s p) = H := by
  funext b
  by_cases hb : b = x
  · rw [hb, upd_same, hx]
  · rw [upd_ne hb]
def sp_take (K : PySem.W.Frag) : Sp := fun vs H Q E => ∃ (x dx : Addr) (s : Cs) (p : Nat) (z : Str), vs = [.ref x, .str z] ∧ H x = some (so K dx s p) ∧ s.length ≤ 100000 ∧ p ≤ s.length ∧
  (∀ c, s[p]? = some c → c ∈ z.cps.toList → Q (.str (mk [c])) (upd H x (so K dx s (p + 1)))) ∧ ((∀ c, s[p]? = some c → c ∉ z.cps.toList) → BadE K E x H p)
theorem ok_take (T : Tx K mg) : Ok w K mg base (L2.CX prog w) 3 (ma K (ga K "Seal") "take_sign") ["self", "signs"] (sp_take K) := by
  obtain ⟨fd, F⟩ := T.fn_Seal_take_sign
  obtain ⟨fd_Seal_next_sign, G_Seal_next_sign, b_Seal_next_sign, k_Seal_next_sign⟩ := ok_next (w := w) (base := base) T
  have FN := SupX.fieldAt
  refine ⟨fd, F.ok sc_Seal_take_sign (fun vs H Q E h => ?_) (fun cdv A outer s H vs Q E hr h => ?_), F.bindsN fun _ _ _ _ _ _ us hl => match us, hl with | [_, _], _ => rfl, F.kp⟩
  · obtain ⟨x, dx, s, p, z, rfl, _⟩ := h
    rfl
  · obtain ⟨x, dx, s, p, z, rfl, hx, hs, hp, kT, kE⟩ := h
    refine ⟨_, (pss_cons (ps_set (i := 2) sc_Seal_take_sign.nd rfl (Or.inl rfl) (pe_meth0 (pv 0) T.cls_Seal T.meth_Seal_next_sign G_Seal_next_sign (hr.mono (by decide)) b_Seal_next_sign .nil pass0))
  (pss_cons (ps_if (PW.pt (pw_or (pt_cmpR op_eq (pv 2) pe_str (nomark _)) (pw_or1 (pt_cmpR op_notIn_sign (pv 2) (pv 1) rfl)))) (pss_one (ps_raiseSup rfl T.sup FN hr (takes_of rfl rfl rfl rfl) (by exact (pa_cons (pe_fld (pv 0) rfl) pa_nil)))) pss_nil)
  (pss_cons (ps_fldaug (pv 0) pe_int in_add)
  (pss_one (ps_ret (pv 2)))))), ?_⟩
    refine ⟨_, rfl, x, dx, _, rfl, hx, fl_no s p (by decide +kernel) (by decide +kernel), x, dx, s, p, rfl, hx, hs, hp, ?_⟩
    refine ⟨_, rfl, rfl, _, rfl, ?_⟩
    rw [lit_empty, eqS]
    cases hc : s[p]? with
    | none =>
      rw [sg_none hc]
      refine iteT (iteT ?_)
      refine ⟨_, rfl, x, _, dx, _, _, rfl, hx, T.cls_Seal, T.noat_Seal__at, fl_at s p, _, rfl, fun d hd => ?_⟩
      exact (kE fun c q => by rw [hc] at q; cases q).now hd
    | some c =>
      rw [sg_some hc]
      refine iteF ⟨_, rfl, _, rfl, c, z, rfl, rfl, _, rfl, ?_⟩
      by_cases hm : c ∈ z.cps.toList
      · rw [decide_eq_true hm]
        refine iteF ?_
        refine ⟨_, rfl, x, _, dx, _, _, rfl, hx, T.cls_Seal, T.noat_Seal__at, fl_at s p, _, _, rfl, rfl, dx, _, hx, (by rw [fl_eq]; show 2 < 1000; decide), ?_⟩
        refine ⟨_, rfl, ?_⟩
        have e : putF "_at" (.int ((p : Int) + 1)) (fl s p) = fl s (p + 1) := fl_put s p (p + 1)
        rw [e]
        exact kT c hc hm
      · rw [decide_eq_false hm]
        refine iteT ?_
        refine ⟨_, rfl, x, _, dx, _, _, rfl, hx, T.cls_Seal, T.noat_Seal__at, fl_at s p, _, rfl, fun d hd => ?_⟩
        exact (kE fun c' q => by rw [hc] at q; rw [← Option.some.inj q]; exact hm).now hd
theorem word_le : ∀ (w s : Cs) (p a : Nat), p ≤ s.length → wordAt w s p = .ok a → a ≤ s.length
  | [], s, p, a, hp, h => by
    cases h
    exact hp
  | c :: w, s, p, a, hp, h => by
    unfold wordAt at h
    split at h
    · rename_i hc
      exact word_le w s (p + 1) a (lt_of_at hc) h
    · cases h
def sp_word (K : PySem.W.Frag) : Sp := fun vs H Q E => ∃ (x dx : Addr) (s : Cs) (p : Nat) (wl : Cs), vs = [.ref x, .str (mk wl)] ∧ H x = some (so K dx s p) ∧ s.length ≤ 100000 ∧ p ≤ s.length ∧
  (∀ a, wordAt wl s p = .ok a → Q .non (upd H x (so K dx s a))) ∧ (∀ e, wordAt wl s p = .error e → BadE K E x H e)
theorem ok_word (T : Tx K mg) : Ok w K mg base (L2.CX prog w) 4 (ma K (ga K "Seal") "take_word") ["self", "word"] (sp_word K) := by
  obtain ⟨fd, F⟩ := T.fn_Seal_take_word
  obtain ⟨fd_Seal_take_sign, G_Seal_take_sign, b_Seal_take_sign, k_Seal_take_sign⟩ := ok_take (w := w) (base := base) T
  refine ⟨fd, F.ok sc_Seal_take_word (fun vs H Q E h => ?_) (fun cdv A outer s H vs Q E hr h => ?_), F.bindsN fun _ _ _ _ _ _ us hl => match us, hl with | [_, _], _ => rfl, F.kp⟩
  · obtain ⟨x, dx, s, p, z, rfl, _⟩ := h
    rfl
  · obtain ⟨x, dx, s, p, wl, rfl, hx, hs, hp, kT, kE⟩ := h
    refine ⟨_, (pss_one (ps_for (passes_of rfl) rfl (pi_str (pv 1)) (pg_name (i := 2) sc_Seal_take_word.nd rfl (Or.inl rfl)) (pss_one (ps_expr (pe_meth (pv 0) T.cls_Seal T.meth_Seal_take_sign G_Seal_take_sign (hr.mono (by decide)) b_Seal_take_sign .nil (passes_call (takes_of rfl rfl rfl rfl) (fun _ _ _ _ h => h)) (pa_cons (pv 2) pa_nil)))))), ?_⟩
    refine ⟨_, rfl, _, rfl, for_it walk_str (fun i σ H' => ∃ (v : Option V) (a : Nat), σ = [some (.ref x), some (.str (mk wl)), v] ∧ H' = upd H x (so K dx s a) ∧ a ≤ s.length ∧ wordAt wl s p = wordAt (wl.drop i) s a)
      ⟨none, p, rfl, (upd_so hx).symm, hp, rfl⟩ (fun _ _ _ _ _ => trivial) ?_ ?_⟩
    · rintro i y σ H0 H' hi ⟨v, a, rfl, rfl, ha, e⟩ ⟨rfl, c, hc, rfl⟩
      have hc' : wl[i]? = some c := by
        rw [← Array.getElem?_toList] at hc
        exact hc
      rw [drop_at hc'] at e
      refine ⟨_, rfl, x, dx, _, rfl, upd_same, fl_no s a (by decide +kernel) (by decide +kernel), ?_⟩
      refine ⟨_, rfl, x, dx, s, a, mk [c], rfl, upd_same, hs, ha, fun c' h1 h2 => ?_, fun h1 => ?_⟩
      · have e1 : c' = c := by simpa [mk] using h2
        subst e1
        rw [upd_upd]
        refine ⟨_, a + 1, rfl, rfl, lt_of_at h1, ?_⟩
        rw [e, wordAt, if_pos h1]
      · refine (kE a ?_).mono Keep.self
        rw [e, wordAt, if_neg]
        intro q
        exact h1 c q (by simp [mk])
    · rintro σ H' ⟨v, a, rfl, rfl, ha, e⟩
      refine kT a ?_
      rw [e, List.drop_eq_nil_of_le (by show wl.length ≤ (mk wl).cps.size; simp [mk])]
      rfl
def sp_init (K : PySem.W.Frag) : Sp := fun vs H Q _ => ∃ (x dx : Addr) (s : Cs), vs = [.ref x, .str (mk s)] ∧ H x = some (.ins (ga K "Seal") dx []) ∧ Q .non (upd H x (so K dx s 0))
theorem ok_init (T : Tx K mg) : Ok w K mg base CX0 1 (ma K (ga K "Seal") "__init__") ["self", "string"] (sp_init K) := by
  obtain ⟨fd, F⟩ := T.fn_Seal_init
  refine ⟨fd, F.ok sc_Seal_init (fun vs H Q E h => ?_) (fun cdv A outer s H vs Q E hr h => ?_), F.bindsN fun _ _ _ _ _ _ us hl => match us, hl with | [_, _], _ => rfl, F.kp⟩
  · obtain ⟨x, dx, s, rfl, _⟩ := h
    rfl
  · obtain ⟨x, dx, s, rfl, hx, k⟩ := h
    refine ⟨_, (pss_cons (ps_fld (pv 0) (pv 1) rfl)
  (pss_one (ps_fld (pv 0) pe_int rfl))), ?_⟩
    refine ⟨_, rfl, _, rfl, x, _, dx, _, rfl, hx, T.cls_Seal, T.noat_Seal__string, (by show 0 < 1000; decide), ?_⟩
    refine ⟨_, rfl, x, _, dx, _, rfl, upd_same, T.cls_Seal, T.noat_Seal__at, (by show 1 < 1000; decide), ?_⟩
    rw [upd_upd]
    exact k
def sp_end (K : PySem.W.Frag) : Sp := fun vs H Q E => ∃ (x dx : Addr) (s : Cs) (p : Nat), vs = [.ref x] ∧ H x = some (so K dx s p) ∧ s.length ≤ 100000 ∧ p ≤ s.length ∧ (p = s.length → Q .non H) ∧ (p ≠ s.length → BadE K E x H p)
theorem ok_end (T : Tx K mg) : Ok w K mg base (L2.CX prog w) 3 (ma K (ga K "Seal") "check_end") ["self"] (sp_end K) := by
  obtain ⟨fd, F⟩ := T.fn_Seal_check_end
  obtain ⟨fd_Seal_next_sign, G_Seal_next_sign, b_Seal_next_sign, k_Seal_next_sign⟩ := ok_next (w := w) (base := base) T
  have FN := SupX.fieldAt
  refine ⟨fd, F.ok sc_Seal_check_end (fun vs H Q E h => ?_) (fun cdv A outer s H vs Q E hr h => ?_), F.bindsN fun _ _ _ _ _ _ us hl => match us, hl with | [_], _ => rfl, F.kp⟩
  · obtain ⟨x, dx, s, p, rfl, _⟩ := h
    rfl
  · obtain ⟨x, dx, s, p, rfl, hx, hs, hp, kT, kE⟩ := h
    refine ⟨_, (pss_one (ps_if (pt_cmpR op_ne (pe_meth0 (pv 0) T.cls_Seal T.meth_Seal_next_sign G_Seal_next_sign (hr.mono (by decide)) b_Seal_next_sign .nil pass0) pe_str (nomark _)) (pss_one (ps_raiseSup rfl T.sup FN hr (takes_of rfl rfl rfl rfl) (by exact (pa_cons (pe_fld (pv 0) rfl) pa_nil)))) pss_nil)), ?_⟩
    refine ⟨_, rfl, x, dx, _, rfl, hx, fl_no s p (by decide +kernel) (by decide +kernel), x, dx, s, p, rfl, hx, hs, hp, ?_⟩
    refine ⟨rfl, _, rfl, ?_⟩
    rw [lit_empty, eqS]
    cases hc : s[p]? with
    | none =>
      rw [sg_none hc]
      refine iteF ?_
      exact kT (Nat.le_antisymm hp (by simpa using hc))
    | some c =>
      rw [sg_some hc]
      refine iteT ?_
      refine ⟨_, rfl, x, _, dx, _, _, rfl, hx, T.cls_Seal, T.noat_Seal__at, fl_at s p, _, rfl, fun d hd => ?_⟩
      exact (kE (Nat.ne_of_lt (lt_of_at hc))).now hd
theorem sg_is {s : Cs} {p c : Nat} : sg s p = [c] ↔ s[p]? = some c := by
  constructor
  · intro h
    cases e : s[p]? with
    | none =>
      rw [sg_none e] at h
      cases h
    | some c' =>
      rw [sg_some e] at h
      injection h with h1
      rw [h1]
  · exact sg_some
theorem sg_dec (s : Cs) (p c : Nat) : decide (V.str (mk (sg s p)) = V.str (mk [c])) = decide (s[p]? = some c) := by
  rw [eqS]
  by_cases h : s[p]? = some c
  · rw [decide_eq_true h, decide_eq_true (sg_is.mpr h)]
  · rw [decide_eq_false h, decide_eq_false fun q => h (sg_is.mp q)]
theorem lit_minus : Str.ofString "-" = mk [45] := by decide +kernel
theorem lit_zero : Str.ofString "0" = mk [48] := by decide +kernel
theorem lit_digs : Str.ofString "0123456789" = mk digs := by decide +kernel
theorem cut_digs : cutS (Str.ofString "0123456789") (some 1) none = mk digs1 := by decide +kernel
theorem mk_len (l : Cs) : (mk l).length = l.length := rfl
theorem int_digs {l : Cs} (h : canon l) : PySem.intText? (mk l) = some ((NumText.digitsVal l : Nat) : Int) := PySem.intText_digits (x := mk l) h.2.1 (canon_ne h) (by have := h.1; show l.length ≤ 4300; omega)
theorem mk_add (a b : Cs) : mk a ++ mk b = mk (a ++ b) := by
  show (⟨a.toArray ++ b.toArray⟩ : Str) = ⟨(a ++ b).toArray⟩
  rw [List.append_toArray]
theorem lit_apo : Str.ofString "'" = mk [39] := by decide +kernel
theorem one_mem {c d : Nat} : c ∈ (mk [d]).cps.toList ↔ c = d := by
  rw [mk_to]
  exact List.mem_singleton
def sp_num (K : PySem.W.Frag) : Sp := fun vs H Q E => ∃ (x dx : Addr) (s : Cs) (p : Nat), vs = [.ref x] ∧ H x = some (so K dx s p) ∧ s.length ≤ 100000 ∧ p ≤ s.length ∧
  (∀ i a, numAt s p = .ok (.int i, a) → Q (.int i) (upd H x (so K dx s a))) ∧ (∀ e, numAt s p = .error e → BadE K E x H e)
theorem ok_num (T : Tx K mg) : Ok w K mg base (L2.CX prog w) 4 (ma K (ga K "Seal") "read_number") ["self"] (sp_num K) := by
  obtain ⟨fd, F⟩ := T.fn_Seal_read_number
  obtain ⟨fd_Seal_next_sign, G_Seal_next_sign, b_Seal_next_sign, k_Seal_next_sign⟩ := ok_next (w := w) (base := base) T
  obtain ⟨fd_Seal_take_sign, G_Seal_take_sign, b_Seal_take_sign, k_Seal_take_sign⟩ := ok_take (w := w) (base := base) T
  refine ⟨fd, F.ok sc_Seal_read_number (fun vs H Q E h => ?_) (fun cdv A outer s H vs Q E hr h => ?_), F.bindsN fun _ _ _ _ _ _ us hl => match us, hl with | [_], _ => rfl, F.kp⟩
  · obtain ⟨x, dx, s, p, rfl, _⟩ := h
    rfl
  · obtain ⟨x, dx, s, p, rfl, hx, hs, hp, kT, kE⟩ := h
    refine ⟨_, (pss_cons (ps_set (i := 1) sc_Seal_read_number.nd rfl (Or.inl rfl) (pe_cmpR op_eq (pe_meth0 (pv 0) T.cls_Seal T.meth_Seal_next_sign G_Seal_next_sign (hr.mono (by decide)) b_Seal_next_sign .nil pass0) pe_str (nomark _)))
  (C8.pss_cut (ps_if (pt_val (pv 1)) (pss_one (ps_expr (pe_meth (pv 0) T.cls_Seal T.meth_Seal_take_sign G_Seal_take_sign (hr.mono (by decide)) b_Seal_take_sign .nil (passes_call (takes_of rfl rfl rfl rfl) (fun _ _ _ _ h => h)) (pa_cons pe_str pa_nil)))) pss_nil)
  (C8.pss_cut (ps_set (i := 2) sc_Seal_read_number.nd rfl (Or.inl rfl) (pe_meth (pv 0) T.cls_Seal T.meth_Seal_take_sign G_Seal_take_sign (hr.mono (by decide)) b_Seal_take_sign .nil (passes_call (takes_of rfl rfl rfl rfl) (fun _ _ _ _ h => h)) (pa_cons (pe_ifExp (pt_val (pv 1)) (pe_slice sl_str (pe_glob (v := (.str "0123456789")) rfl T.con_DIGITS.choose_spec ⟨_, rfl⟩) (po_some pe_int) po_none) (pe_glob (v := (.str "0123456789")) rfl T.con_DIGITS.choose_spec ⟨_, rfl⟩)) pa_nil)))
  (C8.pss_cut (ps_while (passes_of rfl) (PW.pt (pw_and (pt_cmpR op_ne (pv 2) pe_str (nomark _)) (pw_and (pt_cmpR op_lt (pe_callB call_len_str (by rfl) T.free_len (by decide +kernel) (pa_cons (pv 2) pa_nil)) (pe_glob (v := (.int 30)) rfl T.con_MOST_FIGURES.choose_spec ⟨_, rfl⟩) (nomark _)) (pw_and (pt_cmpR op_ne (pe_meth0 (pv 0) T.cls_Seal T.meth_Seal_next_sign G_Seal_next_sign (hr.mono (by decide)) b_Seal_next_sign .nil pass0) pe_str (nomark _)) (pw_and1 (pt_cmpR op_in_sign (pe_meth0 (pv 0) T.cls_Seal T.meth_Seal_next_sign G_Seal_next_sign (hr.mono (by decide)) b_Seal_next_sign .nil pass0) (pe_glob (v := (.str "0123456789")) rfl T.con_DIGITS.choose_spec ⟨_, rfl⟩) rfl)))))) (pss_one (ps_aug (i := 2) sc_Seal_read_number.nd rfl (.inl rfl) (pe_meth (pv 0) T.cls_Seal T.meth_Seal_take_sign G_Seal_take_sign (hr.mono (by decide)) b_Seal_take_sign .nil (passes_call (takes_of rfl rfl rfl rfl) (fun _ _ _ _ h => h)) (pa_cons (pe_glob (v := (.str "0123456789")) rfl T.con_DIGITS.choose_spec ⟨_, rfl⟩) pa_nil)) ip_addS)))
  (pss_one (ps_ret (pe_ifExp (pt_val (pv 1)) (pe_un un_neg (pe_callTy call_int_str (by rfl) T.free_int (by decide +kernel) (pa_cons (pv 2) pa_nil))) (pe_callTy call_int_str (by rfl) T.free_int (by decide +kernel) (pa_cons (pv 2) pa_nil))))))))), ?_⟩
    -- minus = self.next_sign() == "-"
    refine ⟨_, rfl, x, dx, _, rfl, hx, fl_no s p (by decide +kernel) (by decide +kernel), x, dx, s, p, rfl, hx, hs, hp, ?_⟩
    refine ⟨rfl, ?_⟩
    rw [lit_minus, sg_dec]
    -- if minus: self.take_sign("-")
    refine ⟨fun σ H' => ∃ (neg : Bool) (b : Nat), σ = [some (.ref x), some (.bl neg), none] ∧ H' = upd H x (so K dx s b) ∧ b ≤ s.length ∧ numAt s p = numFrom neg s b, ⟨_, rfl, _, rfl, ?_⟩, ?_⟩
    · by_cases hm : s[p]? = some 45
      · rw [decide_eq_true hm]
        refine iteT ?_
        refine ⟨_, rfl, x, dx, _, rfl, hx, fl_no s p (by decide +kernel) (by decide +kernel), x, dx, s, p, Str.ofString "-", rfl, hx, hs, hp, fun c h1 h2 => ?_, fun h1 => ?_⟩
        · exact ⟨true, p + 1, rfl, rfl, lt_of_at hm, by unfold M93.numAt; rw [if_pos hm]⟩
        · exact absurd (by rw [lit_minus]; simp [mk]) (h1 45 hm)
      · rw [decide_eq_false hm]
        exact iteF ⟨false, p, rfl, (upd_so hx).symm, hp, by unfold M93.numAt; rw [if_neg hm]⟩
    rintro σ H' ⟨neg, b, rfl, rfl, hb, en⟩
    -- told = self.take_sign(DIGITS[1:] if minus else DIGITS)
    refine ⟨fun σ H' => ∃ c, s[b]? = some c ∧ c ∈ (if neg then digs1 else digs) ∧ σ = [some (.ref x), some (.bl neg), some (.str (mk [c]))] ∧ H' = upd H x (so K dx s (b + 1)), ?_, ?_⟩
    · refine ⟨_, rfl, x, dx, _, rfl, upd_same, fl_no s b (by decide +kernel) (by decide +kernel), ?_⟩
      have go : ∀ z : Str, z.cps.toList = (if neg then digs1 else digs) → ∀ (Q' : VK), (∀ c, s[b]? = some c → c ∈ (if neg then digs1 else digs) → Q' (.str (mk [c])) (upd H x (so K dx s (b + 1)))) → sp_take K [.ref x, .str z] (upd H x (so K dx s b)) Q' E := by
        intro z hz Q' kq
        refine ⟨x, dx, s, b, z, rfl, upd_same, hs, hb, fun c h1 h2 => ?_, fun h1 => ?_⟩
        · rw [upd_upd]
          exact kq c h1 (by rw [← hz]; exact h2)
        · refine (kE b ?_).mono Keep.self
          rw [en]
          unfold numFrom
          cases e : s[b]? with
          | none => rfl
          | some c => exact if_neg (by rw [← hz]; exact h1 c e)
      refine ⟨_, rfl, neg, rfl, ?_⟩
      cases neg with
      | true =>
        refine iteT ⟨_, rfl, _, rfl, size_ok (by decide +kernel), ?_⟩
        dsimp only [tC, tNil]
        exact go _ (by rw [cut_digs]; rfl) _ fun c h1 h2 => ⟨c, h1, h2, rfl, rfl⟩
      | false =>
        refine iteF ?_
        dsimp only [tC, tNil]
        exact go _ digs_eq _ fun c h1 h2 => ⟨c, h1, h2, rfl, rfl⟩
    rintro σ H' ⟨c, hc, hcd, rfl, rfl⟩
    have hcd' : c ∈ digs := by
      cases neg with
      | true => exact mem_digs.mpr (by have := mem_digs1.mp hcd; omega)
      | false => exact hcd
    have ev : numFrom neg s b = .ok (.int (if neg then -((NumText.digitsVal (c :: more c s b) : Nat) : Int) else ((NumText.digitsVal (c :: more c s b) : Nat) : Int)), b + 1 + (more c s b).length) := by
      unfold numFrom
      rw [hc]
      exact if_pos hcd
    rw [← en] at ev
    refine ⟨fun σ H' => σ = [some (.ref x), some (.bl neg), some (.str (mk (c :: more c s b)))] ∧ H' = upd H x (so K dx s (b + 1 + (more c s b).length)), ?_, ?_⟩
    · refine ⟨fun m σ H' => ∃ r : Cs, m = 29 - r.length ∧ r.length ≤ 29 ∧ σ = [some (.ref x), some (.bl neg), some (.str (mk (c :: r)))] ∧ H' = upd H x (so K dx s (b + 1 + r.length)) ∧ b + 1 + r.length ≤ s.length ∧ r ++ (if c = 48 then [] else tw digs (29 - r.length) s (b + 1 + r.length)) = more c s b,
        ⟨29, [], rfl, by decide, rfl, rfl, lt_of_at hc, rfl⟩, ?_⟩
      rintro m σ H' ⟨r, rfl, hr, rfl, rfl, hle, e⟩
      have stop : (if c = 48 then [] else tw digs (29 - r.length) s (b + 1 + r.length)) = [] → r = more c s b := fun q => by rw [q, List.append_nil] at e; exact e
      refine ⟨_, rfl, rfl, _, rfl, ?_⟩
      rw [lit_zero, eqS]
      by_cases h48 : c :: r = [48]
      · rw [decide_eq_true h48]
        refine iteF (iteF ?_)
        have e1 : c = 48 := (List.cons.inj h48).1
        rw [← stop (if_pos e1)]
        exact ⟨rfl, rfl⟩
      rw [decide_eq_false h48]
      refine iteT ⟨_, rfl, _, rfl, size_ok (by show (c :: r).length ≤ _; simp only [List.length_cons]; omega), _, _, rfl, rfl, _, rfl, ?_⟩
      by_cases h29 : r.length = 29
      · rw [decide_eq_false (by show ¬ (((c :: r).length : Nat) : Int) < 30; simp only [List.length_cons]; omega)]
        refine iteF (iteF ?_)
        rw [← stop (by rw [h29]; split <;> first | rfl | exact tw_zero _ _ _)]
        exact ⟨rfl, rfl⟩
      rw [decide_eq_true (by show (((c :: r).length : Nat) : Int) < 30; simp only [List.length_cons]; omega)]
      have c48 : c ≠ 48 := by
        intro q
        have z := e
        unfold more at z
        rw [if_pos q, if_pos q] at z
        rw [List.append_nil] at z
        exact h48 (by rw [q, z])
      rw [if_neg c48] at e stop
      obtain ⟨j, hj⟩ : ∃ j, 29 - r.length = j + 1 := ⟨28 - r.length, by omega⟩
      refine iteT ⟨_, rfl, x, dx, _, rfl, upd_same, fl_no s _ (by decide +kernel) (by decide +kernel), x, dx, s, _, rfl, upd_same, hs, hle, rfl, _, rfl, ?_⟩
      rw [lit_empty, eqS]
      cases hn : s[b + 1 + r.length]? with
      | none =>
        rw [sg_none hn]
        refine iteF ?_
        rw [← stop (tw_no fun c' q => by rw [hn] at q; cases q)]
        exact ⟨rfl, rfl⟩
      | some c' =>
        rw [sg_some hn]
        refine iteT ⟨_, rfl, x, dx, _, rfl, upd_same, fl_no s _ (by decide +kernel) (by decide +kernel), x, dx, s, _, rfl, upd_same, hs, hle, ?_⟩
        rw [sg_some hn]
        refine ⟨c', _, rfl, rfl, _, rfl, ?_⟩
        rw [digs_eq]
        by_cases hd : c' ∈ digs
        · rw [decide_eq_true hd]
          refine iteT ⟨_, fun _ _ n => n, _, rfl, _, rfl, x, dx, _, rfl, upd_same, fl_no s _ (by decide +kernel) (by decide +kernel), x, dx, s, _, _, rfl, upd_same, hs, hle, fun c2 h1 h2 => ?_, fun h1 => absurd (by rw [digs_eq]; exact hd) (h1 c' hn)⟩
          have e2 : c2 = c' := by rw [hn] at h1; exact (Option.some.inj h1).symm
          subst e2
          refine ⟨_, _, rfl, rfl, size_ok (by show (c :: r).length + [c2].length ≤ _; simp only [List.length_cons, List.length_nil]; omega), ?_⟩
          refine ⟨28 - r.length, by omega, r ++ [c2], ?_, ?_, ?_, ?_, ?_, ?_⟩
          · simp only [List.length_append, List.length_cons, List.length_nil]
            omega
          · simp only [List.length_append, List.length_cons, List.length_nil]
            omega
          · show [some (V.ref x), some (V.bl neg), some (V.str (mk (c :: r) ++ mk [c2]))] = _
            rw [mk_add]
            rfl
          · rw [upd_upd]
            simp only [List.length_append, List.length_cons, List.length_nil]
            rfl
          · have := lt_of_at hn
            simp only [List.length_append, List.length_cons, List.length_nil]
            omega
          · rw [if_neg c48]
            rw [hj, tw_yes hn hd] at e
            simp only [List.length_append, List.length_cons, List.length_nil]
            rw [show 29 - (r.length + (0 + 1)) = j by omega, List.append_assoc]
            exact e
        · rw [decide_eq_false hd]
          refine iteF ?_
          rw [← stop (tw_no fun c2 q => by rw [hn] at q; rw [← Option.some.inj q]; exact hd)]
          exact ⟨rfl, rfl⟩
    rintro σ H' ⟨rfl, rfl⟩
    have hcan := canon_of (s := s) (b := b) hcd'
    refine ⟨_, rfl, neg, rfl, ?_⟩
    cases neg with
    | true =>
      refine iteT ?_
      refine ⟨_, rfl, _, _, rfl, int_digs hcan, (by have := hcan.1; show (c :: more c s b).length ≤ 640; omega), _, rfl, ?_⟩
      exact kT _ _ ev
    | false =>
      refine iteF ?_
      refine ⟨_, rfl, _, _, rfl, int_digs hcan, (by have := hcan.1; show (c :: more c s b).length ≤ 640; omega), ?_⟩
      exact kT _ _ ev
def sp_strg (K : PySem.W.Frag) : Sp := fun vs H Q E => ∃ (x dx : Addr) (s : Cs) (p : Nat), vs = [.ref x] ∧ H x = some (so K dx s p) ∧ s.length ≤ 100000 ∧ p ≤ s.length ∧ s[p]? = some 39 ∧
  (∀ z a, M93.strAt s p = .ok (.str z, a) → Q (.str z) (upd H x (so K dx s a))) ∧ (∀ e, M93.strAt s p = .error e → BadE K E x H e)
theorem ok_strg (T : Tx K mg) : Ok w K mg base (L2.CX prog w) 4 (ma K (ga K "Seal") "read_string") ["self"] (sp_strg K) := by
  obtain ⟨fd, F⟩ := T.fn_Seal_read_string
  obtain ⟨fd_Seal_next_sign, G_Seal_next_sign, b_Seal_next_sign, k_Seal_next_sign⟩ := ok_next (w := w) (base := base) T
  obtain ⟨fd_Seal_take_sign, G_Seal_take_sign, b_Seal_take_sign, k_Seal_take_sign⟩ := ok_take (w := w) (base := base) T
  refine ⟨fd, F.ok sc_Seal_read_string (fun vs H Q E h => ?_) (fun cdv A outer s H vs Q E hr h => ?_), F.bindsN fun _ _ _ _ _ _ us hl => match us, hl with | [_], _ => rfl, F.kp⟩
  · obtain ⟨x, dx, s, p, rfl, _⟩ := h
    rfl
  · obtain ⟨x, dx, s, p, rfl, hx, hs, hp, hc, kT, kE⟩ := h
    refine ⟨_, (pss_cons (ps_expr (pe_meth (pv 0) T.cls_Seal T.meth_Seal_take_sign G_Seal_take_sign (hr.mono (by decide)) b_Seal_take_sign .nil (passes_call (takes_of rfl rfl rfl rfl) (fun _ _ _ _ h => h)) (pa_cons pe_str pa_nil)))
  (pss_cons (ps_set (i := 1) sc_Seal_read_string.nd rfl (Or.inl rfl) pe_str)
  (C8.pss_cut (ps_while (passes_of rfl) (PW.pt (pw_and (pt_cmpR op_ne (pe_meth0 (pv 0) T.cls_Seal T.meth_Seal_next_sign G_Seal_next_sign (hr.mono (by decide)) b_Seal_next_sign .nil pass0) pe_str (nomark _)) (pw_and1 (pt_cmpR op_in_sign (pe_meth0 (pv 0) T.cls_Seal T.meth_Seal_next_sign G_Seal_next_sign (hr.mono (by decide)) b_Seal_next_sign .nil pass0) (pe_glob (v := (.str "abcdefghijklmnopqrstuvwxyz0123456789 ")) rfl T.con_SIGNS.choose_spec ⟨_, rfl⟩) rfl)))) (pss_one (ps_aug (i := 1) sc_Seal_read_string.nd rfl (.inl rfl) (pe_meth (pv 0) T.cls_Seal T.meth_Seal_take_sign G_Seal_take_sign (hr.mono (by decide)) b_Seal_take_sign .nil (passes_call (takes_of rfl rfl rfl rfl) (fun _ _ _ _ h => h)) (pa_cons (pe_glob (v := (.str "abcdefghijklmnopqrstuvwxyz0123456789 ")) rfl T.con_SIGNS.choose_spec ⟨_, rfl⟩) pa_nil)) ip_addS)))
  (pss_cons (ps_expr (pe_meth (pv 0) T.cls_Seal T.meth_Seal_take_sign G_Seal_take_sign (hr.mono (by decide)) b_Seal_take_sign .nil (passes_call (takes_of rfl rfl rfl rfl) (fun _ _ _ _ h => h)) (pa_cons pe_str pa_nil)))
  (pss_one (ps_ret (pv 1))))))), ?_⟩
    have hlt := lt_of_at hc
    refine ⟨_, rfl, x, dx, _, rfl, hx, fl_no s p (by decide +kernel) (by decide +kernel), x, dx, s, p, _, rfl, hx, hs, hp, fun c h1 h2 => ?_, fun h1 => absurd (by rw [lit_apo]; exact one_mem.mpr rfl) (h1 39 hc)⟩
    clear h1 h2
    refine ⟨fun σ H' => σ = [some (.ref x), some (.str (mk (tw sgns s.length s (p + 1))))] ∧ H' = upd H x (so K dx s (p + 1 + (tw sgns s.length s (p + 1)).length)), ?_, ?_⟩
    · refine ⟨fun m σ H' => ∃ r : Cs, m = s.length - r.length ∧ r.length ≤ s.length ∧ σ = [some (.ref x), some (.str (mk r))] ∧ H' = upd H x (so K dx s (p + 1 + r.length)) ∧ p + 1 + r.length ≤ s.length ∧ r ++ tw sgns (s.length - r.length) s (p + 1 + r.length) = tw sgns s.length s (p + 1),
        ⟨s.length, [], rfl, Nat.zero_le _, rfl, rfl, hlt, rfl⟩, ?_⟩
      rintro m σ H' ⟨r, rfl, hr, rfl, rfl, hle, e⟩
      have stop : tw sgns (s.length - r.length) s (p + 1 + r.length) = [] → r = tw sgns s.length s (p + 1) := fun q => by rw [q, List.append_nil] at e; exact e
      obtain ⟨j, hj⟩ : ∃ j, s.length - r.length = j + 1 := ⟨s.length - r.length - 1, by omega⟩
      refine ⟨_, rfl, x, dx, _, rfl, upd_same, fl_no s _ (by decide +kernel) (by decide +kernel), x, dx, s, _, rfl, upd_same, hs, hle, rfl, _, rfl, ?_⟩
      rw [lit_empty, eqS]
      cases hn : s[p + 1 + r.length]? with
      | none =>
        rw [sg_none hn]
        refine iteF ?_
        rw [← stop (tw_no fun c' q => by rw [hn] at q; cases q)]
        exact ⟨rfl, rfl⟩
      | some c' =>
        rw [sg_some hn]
        refine iteT ⟨_, rfl, x, dx, _, rfl, upd_same, fl_no s _ (by decide +kernel) (by decide +kernel), x, dx, s, _, rfl, upd_same, hs, hle, ?_⟩
        rw [sg_some hn]
        refine ⟨c', _, rfl, rfl, _, rfl, ?_⟩
        rw [sgns_eq]
        by_cases hd : c' ∈ sgns
        · rw [decide_eq_true hd]
          refine iteT ⟨_, fun _ _ n => n, _, rfl, _, rfl, x, dx, _, rfl, upd_same, fl_no s _ (by decide +kernel) (by decide +kernel), x, dx, s, _, _, rfl, upd_same, hs, hle, fun c2 h1 h2 => ?_, fun h1 => absurd (by rw [sgns_eq]; exact hd) (h1 c' hn)⟩
          have e2 : c2 = c' := by rw [hn] at h1; exact (Option.some.inj h1).symm
          subst e2
          refine ⟨_, _, rfl, rfl, size_ok (by show r.length + [c2].length ≤ _; simp only [List.length_cons, List.length_nil]; omega), ?_⟩
          have lt2 := lt_of_at hn
          refine ⟨s.length - (r.length + 1), by omega, r ++ [c2], ?_, ?_, ?_, ?_, ?_, ?_⟩
          · simp only [List.length_append, List.length_cons, List.length_nil]
          · simp only [List.length_append, List.length_cons, List.length_nil]
            omega
          · show [some (V.ref x), some (V.str (mk r ++ mk [c2]))] = _
            rw [mk_add]
          · rw [upd_upd]
            simp only [List.length_append, List.length_cons, List.length_nil]
            rfl
          · simp only [List.length_append, List.length_cons, List.length_nil]
            omega
          · rw [hj, tw_yes hn hd] at e
            simp only [List.length_append, List.length_cons, List.length_nil]
            rw [show s.length - (r.length + (0 + 1)) = j by omega, List.append_assoc]
            exact e
        · rw [decide_eq_false hd]
          refine iteF ?_
          rw [← stop (tw_no fun c2 q => by rw [hn] at q; rw [← Option.some.inj q]; exact hd)]
          exact ⟨rfl, rfl⟩
    rintro σ H' ⟨rfl, rfl⟩
    have hle : p + 1 + (tw sgns s.length s (p + 1)).length ≤ s.length := by
      have := @tw_end sgns s s.length (p + 1)
      omega
    refine ⟨_, rfl, x, dx, _, rfl, upd_same, fl_no s _ (by decide +kernel) (by decide +kernel), x, dx, s, _, _, rfl, upd_same, hs, hle, fun c h1 h2 => ?_, fun h1 => ?_⟩
    · rw [lit_apo, one_mem] at h2
      subst h2
      rw [upd_upd]
      refine ⟨_, rfl, kT _ _ ?_⟩
      unfold M93.strAt
      rw [if_pos h1]
    · refine (kE _ ?_).mono Keep.self
      unfold M93.strAt
      rw [if_neg]
      intro q
      exact h1 39 q (by rw [lit_apo]; exact one_mem.mpr rfl)
end
end K93
set_option Elab.async false
set_option linter.all false
set_option maxRecDepth 100000
set_option maxHeartbeats 4000000
set_option pp.maxSteps 3000
/-! read_one, read_row, read_value -/
namespace K93
open PySem PySem.Spec PyProof.Rows L2 He He2 M93
mutual
/-- data of none, ints, texts and tuples -/
inductive Tp (H : Hp) : V → PyData → Prop
  | non : Tp H .non .none
  | int (i : Int) : Tp H (.int i) (.int i)
  | str (x : Str) : Tp H (.str x) (.str x)
  | tup {a : Addr} {xs : List V} {ds : List PyData} : H a = some (.tup xs) → TpAll H xs ds → Tp H (.ref a) (.tuple ds)
inductive TpAll (H : Hp) : List V → List PyData → Prop
  | nil : TpAll H [] []
  | cons {v : V} {vs : List V} {d : PyData} {ds : List PyData} : Tp H v d → TpAll H vs ds → TpAll H (v :: vs) (d :: ds)
end
def Tups (H H' : Hp) : Prop := ∀ b xs, H b = some (.tup xs) → H' b = some (.tup xs)
mutual
theorem Tp.up {H H' : Hp} (k : Tups H H') : ∀ {d : PyData} {v : V}, Tp H v d → Tp H' v d
  | _, _, .non => .non
  | _, _, .int i => .int i
  | _, _, .str x => .str x
  | _, _, .tup h hs => .tup (k _ _ h) (TpAll.up k hs)
theorem TpAll.up {H H' : Hp} (k : Tups H H') : ∀ {ds : List PyData} {vs : List V}, TpAll H vs ds → TpAll H' vs ds
  | _, _, .nil => .nil
  | _, _, .cons h hs => .cons (Tp.up k h) (TpAll.up k hs)
end
mutual
theorem Tp.dp {K : PySem.W.Frag} {H : Hp} : ∀ {d : PyData} {v : V}, Tp H v d → Dp K H v d
  | _, _, .non => .non
  | _, _, .int i => .int i
  | _, _, .str x => .str x
  | _, _, .tup h hs => .tup (SqT.of h) (TpAll.dp hs)
theorem TpAll.dp {K : PySem.W.Frag} {H : Hp} : ∀ {ds : List PyData} {vs : List V}, TpAll H vs ds → DpAll K H vs ds
  | _, _, .nil => .nil
  | _, _, .cons h hs => .cons (Tp.dp h) (TpAll.dp hs)
end
theorem TpAll.snoc {H : Hp} {v : V} {d : PyData} (hv : Tp H v d) : ∀ {ds : List PyData} {vs : List V}, TpAll H vs ds → TpAll H (vs ++ [v]) (ds ++ [d])
  | _, _, .nil => .cons hv .nil
  | _, _, .cons h hs => .cons h (TpAll.snoc hv hs)
theorem TpAll.len {H : Hp} : ∀ {ds : List PyData} {vs : List V}, TpAll H vs ds → vs.length = ds.length
  | _, _, .nil => rfl
  | _, _, .cons _ hs => congrArg (· + 1) (TpAll.len hs)
theorem Tups.refl (H : Hp) : Tups H H := fun _ _ h => h
theorem Tups.trans {H H1 H2 : Hp} (a : Tups H H1) (b : Tups H1 H2) : Tups H H2 := fun c xs h => b c xs (a c xs h)
theorem Tups.upd {H : Hp} {a : Addr} {o : HO} (h : ∀ xs, H a ≠ some (.tup xs)) : Tups H (upd H a o) := fun b xs e => by
  rw [upd_ne]
  · exact e
  · rintro rfl
    exact h xs e
theorem Keep.tups {x : Addr} {H H' : Hp} (k : Keep x H H') (h : ∀ xs, H x ≠ some (.tup xs)) : Tups H H' := fun b xs e => k b _ (fun q => by rw [q] at e; exact h xs e) e
theorem Keep.own {x l : Addr} {H H' : Hp} {o : HO} (k : Keep x H H') (h : H l = none) : Keep x H (upd H' l o) := fun b u n e => by rw [upd_ne (ne_of_none e h)]; exact k b u n e
theorem Keep.at {x : Addr} {H H' : Hp} {o : HO} (k : Keep x H H') : Keep x H (upd H' x o) := fun b u n e => by rw [upd_ne n]; exact k b u n e
theorem no_tup {H : Hp} {a : Addr} {o : HO} (h : H a = some o) (ho : ∀ xs, o ≠ .tup xs) : ∀ xs, H a ≠ some (.tup xs) := fun xs e => by
  rw [h] at e
  exact ho xs (Option.some.inj e)
theorem none_tup {H : Hp} {a : Addr} (h : H a = none) : ∀ xs, H a ≠ some (.tup xs) := fun xs e => by
  rw [h] at e
  cases e
theorem so_tup {K : PySem.W.Frag} {H : Hp} {x dx : Addr} {s : Cs} {p : Nat} (h : H x = some (so K dx s p)) : ∀ xs, H x ≠ some (.tup xs) := no_tup h fun xs e => by cases e
theorem lst_tup {H : Hp} {a : Addr} {ys : List V} (h : H a = some (.lst ys)) : ∀ xs, H a ≠ some (.tup xs) := no_tup h fun xs e => by cases e
section
variable {w : World} {K : PySem.W.Frag} {mg : Str → Option Value} {base : Heap}
/-- what is wished of a reading that comes to r -/
def RdOk (K : PySem.W.Frag) (x dx : Addr) (s : Cs) (H : Hp) (Q : VK) (E : XK) : Except Nat (PyData × Nat) → Prop
  | .ok (v, a) => ∀ v' H', Keep x H H' → H' x = some (so K dx s a) → Tp H' v' v → Q v' H'
  | .error e => BadE K E x H e
def sp_one (K : PySem.W.Frag) (n : Nat) : Sp := fun vs H Q E => ∃ (x dx : Addr) (s : Cs) (p d : Nat), vs = [.ref x, .int (d : Int)] ∧ H x = some (so K dx s p) ∧ s.length ≤ 100000 ∧ p ≤ s.length ∧ 40 ≤ d + n ∧ ∀ r, R1 s d p r → RdOk K x dx s H Q E r
def sp_row (K : PySem.W.Frag) (n : Nat) : Sp := fun vs H Q E => ∃ (x dx : Addr) (s : Cs) (p d : Nat), vs = [.ref x, .int (d : Int)] ∧ H x = some (so K dx s p) ∧ s.length ≤ 100000 ∧ p ≤ s.length ∧ 40 ≤ d + n ∧ s[p]? = some 40 ∧ d < 40 ∧ ∀ r, R1 s d p r → RdOk K x dx s H Q E r
theorem lit_n : Str.ofString "n" = mk [110] := by decide +kernel
theorem lit_open : Str.ofString "(" = mk [40] := by decide +kernel
theorem lit_close : Str.ofString ")" = mk [41] := by decide +kernel
theorem lit_gap : Str.ofString " " = mk [32] := by decide +kernel
theorem lit_none : Str.ofString "none" = mk noneW := by decide +kernel
theorem lit_og : Str.ofString "( " = mk [40, 32] := by decide +kernel
theorem ok_one (T : Tx K mg) (n : Nat) (R : Ok w K mg base (L2.CX prog w) (4 + 2 * n + 1) (ma K (ga K "Seal") "read_row") ["self", "depth"] (sp_row K n)) :
    Ok w K mg base (L2.CX prog w) (5 + 2 * n + 1) (ma K (ga K "Seal") "read_one") ["self", "depth"] (sp_one K n) := by
  obtain ⟨fd, F⟩ := T.fn_Seal_read_one
  obtain ⟨fd_Seal_next_sign, G_Seal_next_sign, b_Seal_next_sign, k_Seal_next_sign⟩ := ok_next (w := w) (base := base) T
  obtain ⟨fd_Seal_take_word, G_Seal_take_word, b_Seal_take_word, k_Seal_take_word⟩ := ok_word (w := w) (base := base) T
  obtain ⟨fd_Seal_read_string, G_Seal_read_string, b_Seal_read_string, k_Seal_read_string⟩ := ok_strg (w := w) (base := base) T
  obtain ⟨fd_Seal_read_number, G_Seal_read_number, b_Seal_read_number, k_Seal_read_number⟩ := ok_num (w := w) (base := base) T
  obtain ⟨fd_Seal_read_row, G_Seal_read_row, b_Seal_read_row, k_Seal_read_row⟩ := R
  refine ⟨fd, F.ok sc_Seal_read_one (fun vs H Q E h => ?_) (fun cdv A outer s H vs Q E hr h => ?_), F.bindsN fun _ _ _ _ _ _ us hl => match us, hl with | [_, _], _ => rfl, F.kp⟩
  · obtain ⟨x, dx, s, p, d, rfl, _⟩ := h
    rfl
  · obtain ⟨x, dx, s, p, d, rfl, hx, hs, hp, hd, hw⟩ := h
    refine ⟨_, (pss_cons (ps_set (i := 2) sc_Seal_read_one.nd rfl (Or.inl rfl) (pe_meth0 (pv 0) T.cls_Seal T.meth_Seal_next_sign G_Seal_next_sign (hr.mono (by omega)) b_Seal_next_sign .nil pass0))
  (pss_cons (ps_if (pt_cmpR op_eq (pv 2) pe_str (nomark _)) (pss_cons (ps_expr (pe_meth (pv 0) T.cls_Seal T.meth_Seal_take_word G_Seal_take_word (hr.mono (by omega)) b_Seal_take_word .nil (passes_call (takes_of rfl rfl rfl rfl) (fun _ _ _ _ h => h)) (pa_cons pe_str pa_nil)))
  (pss_one (ps_ret pe_non))) pss_nil)
  (pss_cons (ps_if (pt_cmpR op_eq (pv 2) pe_str (nomark _)) (pss_one (ps_ret (pe_meth0 (pv 0) T.cls_Seal T.meth_Seal_read_string G_Seal_read_string (hr.mono (by omega)) b_Seal_read_string .nil (passes_call (takes_of rfl rfl rfl rfl) (fun _ _ _ _ h => h))))) pss_nil)
  (pss_cons (ps_if (PW.pt (pw_and (pt_cmpR op_eq (pv 2) pe_str (nomark _)) (pw_and1 (pt_cmpR op_lt (pv 1) (pe_glob (v := (.int 40)) rfl T.con_MOST_DEPTH.choose_spec ⟨_, rfl⟩) (nomark _))))) (pss_one (ps_ret (pe_meth (pv 0) T.cls_Seal T.meth_Seal_read_row G_Seal_read_row (hr.mono (by omega)) b_Seal_read_row .nil (passes_call (takes_of rfl rfl rfl rfl) (fun _ _ _ _ h => h)) (pa_cons (pv 1) pa_nil)))) pss_nil)
  (pss_one (ps_ret (pe_meth0 (pv 0) T.cls_Seal T.meth_Seal_read_number G_Seal_read_number (hr.mono (by omega)) b_Seal_read_number .nil (passes_call (takes_of rfl rfl rfl rfl) (fun _ _ _ _ h => h))))))))), ?_⟩
    refine ⟨_, rfl, x, dx, _, rfl, hx, fl_no s p (by decide +kernel) (by decide +kernel), x, dx, s, p, rfl, hx, hs, hp, ?_⟩
    refine ⟨_, rfl, rfl, _, rfl, ?_⟩
    rw [lit_n, sg_dec]
    by_cases h1 : s[p]? = some 110
    · rw [decide_eq_true h1]
      have at1 : atomAt s p = noneAt s p := if_pos h1
      have w1 := hw _ (.atom (fun q => by rw [h1] at q; cases q.1))
      rw [at1] at w1
      unfold noneAt at w1
      refine iteT ⟨_, rfl, x, dx, _, rfl, hx, fl_no s p (by decide +kernel) (by decide +kernel), x, dx, s, p, noneW, by rw [lit_none]; rfl, hx, hs, hp, fun a ha => ?_, fun e he => ?_⟩
      · rw [ha] at w1
        exact w1 _ _ Keep.self upd_same .non
      · rw [he] at w1
        exact w1
    rw [decide_eq_false h1]
    refine iteF ⟨_, rfl, rfl, _, rfl, ?_⟩
    rw [lit_apo, sg_dec]
    by_cases h2 : s[p]? = some 39
    · rw [decide_eq_true h2]
      have at1 : atomAt s p = M93.strAt s p := by
        unfold atomAt
        rw [if_neg h1, if_pos h2]
      have w1 := hw _ (.atom (fun q => by rw [h2] at q; cases q.1))
      rw [at1] at w1
      refine iteT ⟨_, rfl, x, dx, _, rfl, hx, fl_no s p (by decide +kernel) (by decide +kernel), x, dx, s, p, rfl, hx, hs, hp, h2, fun z a ha => ?_, fun e he => ?_⟩
      · rw [ha] at w1
        exact w1 _ _ Keep.self upd_same (.str z)
      · rw [he] at w1
        exact w1
    rw [decide_eq_false h2]
    refine iteF ⟨_, rfl, rfl, _, rfl, ?_⟩
    rw [lit_open, sg_dec]
    have num : ¬ (s[p]? = some 40 ∧ d < 40) → sp_num K [.ref x] H Q E := fun h3 => by
      have at1 : atomAt s p = M93.numAt s p := by
        unfold atomAt
        rw [if_neg h1, if_neg h2]
      have w1 := hw _ (.atom h3)
      rw [at1] at w1
      refine ⟨x, dx, s, p, rfl, hx, hs, hp, fun i a ha => ?_, fun e he => ?_⟩
      · rw [ha] at w1
        exact w1 _ _ Keep.self upd_same (.int i)
      · rw [he] at w1
        exact w1
    by_cases h3 : s[p]? = some 40
    · rw [decide_eq_true h3]
      refine iteT ⟨_, rfl, _, _, rfl, rfl, _, rfl, ?_⟩
      by_cases h4 : d < 40
      · rw [decide_eq_true (by omega)]
        refine iteT ⟨_, rfl, x, dx, _, rfl, hx, fl_no s p (by decide +kernel) (by decide +kernel), _, rfl, x, dx, s, p, d, rfl, hx, hs, hp, hd, h3, h4, hw⟩
      · rw [decide_eq_false (by omega)]
        refine iteF ⟨_, rfl, x, dx, _, rfl, hx, fl_no s p (by decide +kernel) (by decide +kernel), ?_⟩
        exact num fun q => h4 q.2
    · rw [decide_eq_false h3]
      refine iteF ⟨_, rfl, x, dx, _, rfl, hx, fl_no s p (by decide +kernel) (by decide +kernel), ?_⟩
      exact num fun q => h3 q.1
theorem ok_row0 (T : Tx K mg) : Ok w K mg base (L2.CX prog w) 5 (ma K (ga K "Seal") "read_row") ["self", "depth"] (sp_row K 0) := by
  obtain ⟨fd, F⟩ := T.fn_Seal_read_row
  refine ⟨fd, F.ok sc_Seal_read_row (fun vs H Q E h => ?_) (fun cdv A outer s H vs Q E hr h => ?_), F.bindsN fun _ _ _ _ _ _ us hl => match us, hl with | [_, _], _ => rfl, F.kp⟩
  · obtain ⟨x, dx, s, p, d, _, _, _, _, _, _, _, _⟩ := h
    omega
  · obtain ⟨x, dx, s, p, d, _, _, _, _, _, _, _, _⟩ := h
    omega
theorem ok_row (T : Tx K mg) (n : Nat) (R : Ok w K mg base (L2.CX prog w) (5 + 2 * n + 1) (ma K (ga K "Seal") "read_one") ["self", "depth"] (sp_one K n)) :
    Ok w K mg base (L2.CX prog w) (4 + 2 * (n + 1) + 1) (ma K (ga K "Seal") "read_row") ["self", "depth"] (sp_row K (n + 1)) := by
  obtain ⟨fd, F⟩ := T.fn_Seal_read_row
  obtain ⟨fd_Seal_next_sign, G_Seal_next_sign, b_Seal_next_sign, k_Seal_next_sign⟩ := ok_next (w := w) (base := base) T
  obtain ⟨fd_Seal_take_word, G_Seal_take_word, b_Seal_take_word, k_Seal_take_word⟩ := ok_word (w := w) (base := base) T
  obtain ⟨fd_Seal_take_sign, G_Seal_take_sign, b_Seal_take_sign, k_Seal_take_sign⟩ := ok_take (w := w) (base := base) T
  obtain ⟨fd_Seal_read_one, G_Seal_read_one, b_Seal_read_one, k_Seal_read_one⟩ := R
  refine ⟨fd, F.ok sc_Seal_read_row (fun vs H Q E h => ?_) (fun cdv A outer s H vs Q E hr h => ?_), F.bindsN fun _ _ _ _ _ _ us hl => match us, hl with | [_, _], _ => rfl, F.kp⟩
  · obtain ⟨x, dx, s, p, d, rfl, _⟩ := h
    rfl
  · obtain ⟨x, dx, s, p, d, rfl, hx, hs, hp, hd, h40, hd4, hw⟩ := h
    refine ⟨_, (pss_cons (ps_expr (pe_meth (pv 0) T.cls_Seal T.meth_Seal_take_word G_Seal_take_word (hr.mono (by omega)) b_Seal_take_word .nil (passes_call (takes_of rfl rfl rfl rfl) (fun _ _ _ _ h => h)) (pa_cons pe_str pa_nil)))
  (pss_cons (ps_set (i := 2) sc_Seal_read_row.nd rfl (Or.inl rfl) (pe_lst pa_nil))
  (C8.pss_cut (ps_while (passes_of rfl) (pt_cmpR op_ne (pe_meth0 (pv 0) T.cls_Seal T.meth_Seal_next_sign G_Seal_next_sign (hr.mono (by omega)) b_Seal_next_sign .nil pass0) pe_str (nomark _)) (pss_cons (ps_expr (pe_bm PySem.F.plainAttrs_list PySem.F.slot_list_append PySem.F.type_list_append mt_append (pv 2) (pa_cons (pe_meth (pv 0) T.cls_Seal T.meth_Seal_read_one G_Seal_read_one (hr.mono (by omega)) b_Seal_read_one .nil (passes_call (takes_of rfl rfl rfl rfl) (fun _ _ _ _ h => h)) (pa_cons (pe_op op_add (pv 1) pe_int) pa_nil)) pa_nil)))
  (pss_one (ps_expr (pe_meth (pv 0) T.cls_Seal T.meth_Seal_take_sign G_Seal_take_sign (hr.mono (by omega)) b_Seal_take_sign .nil (passes_call (takes_of rfl rfl rfl rfl) (fun _ _ _ _ h => h)) (pa_cons pe_str pa_nil))))))
  (pss_cons (ps_expr (pe_meth (pv 0) T.cls_Seal T.meth_Seal_take_sign G_Seal_take_sign (hr.mono (by omega)) b_Seal_take_sign .nil (passes_call (takes_of rfl rfl rfl rfl) (fun _ _ _ _ h => h)) (pa_cons pe_str pa_nil)))
  (pss_one (ps_ret (pe_callTy call_tuple_of (by rfl) T.free_tuple (by decide +kernel) (pa_cons (pv 2) pa_nil)))))))), ?_⟩
    refine ⟨_, rfl, x, dx, _, rfl, hx, fl_no s p (by decide +kernel) (by decide +kernel), x, dx, s, p, [40, 32], by rw [lit_og]; rfl, hx, hs, hp, fun a ha => ?_, fun e he => ?_⟩
    rotate_left
    · -- the word stops short
      have e1 : s[p + 1]? ≠ some 32 ∧ e = p + 1 := by
        unfold wordAt at he
        rw [if_pos h40] at he
        unfold wordAt at he
        split at he
        · cases he
        · rename_i q
          exact ⟨q, by cases he; rfl⟩
      rw [e1.2]
      exact hw _ (.bad h40 hd4 e1.1)
    have e1 : s[p + 1]? = some 32 ∧ a = p + 2 := by
      unfold wordAt at ha
      rw [if_pos h40] at ha
      unfold wordAt at ha
      split at ha
      · rename_i q
        exact ⟨q, by cases ha; rfl⟩
      · cases ha
    obtain ⟨h32, rfl⟩ := e1
    refine ⟨size_ok (by decide), fun l hl => ?_⟩
    have hlH : H l = none := by
      by_cases q : l = x
      · rw [q, upd_same] at hl
        cases hl
      · rw [upd_ne q] at hl
        exact hl
    have lx : l ≠ x := fun q => by rw [q, hx] at hlH; cases hlH
    refine ⟨fun σ H' => ∃ (a : Nat) (acc : List PyData) (xs : List V), σ = [some (.ref x), some (.int (d : Int)), some (.ref l)] ∧ H' l = some (.lst xs) ∧ TpAll H' xs acc ∧ H' x = some (so K dx s a) ∧ Keep x H H' ∧ a ≤ s.length ∧ (∀ r, RR s d a acc r → R1 s d p r) ∧ s[a]? = some 41, ?_, ?_⟩
    · refine ⟨fun m σ H' => ∃ (a : Nat) (acc : List PyData) (xs : List V), m = s.length - a ∧ σ = [some (.ref x), some (.int (d : Int)), some (.ref l)] ∧ H' l = some (.lst xs) ∧ TpAll H' xs acc ∧ H' x = some (so K dx s a) ∧ Keep x H H' ∧ a ≤ s.length ∧ (∀ r, RR s d a acc r → R1 s d p r) ∧ acc.length ≤ a,
        ⟨_, p + 2, [], [], rfl, rfl, upd_same, .nil, by rw [upd_ne (Ne.symm lx)]; exact upd_same, Keep.self.own hlH, lt_of_at h32, fun r q => .row h40 hd4 h32 q, Nat.zero_le _⟩, ?_⟩
      rintro m σ H' ⟨a, acc, xs, rfl, rfl, hl', tp, hx', kp, ha', hr', hacc⟩
      refine ⟨_, rfl, x, dx, _, rfl, hx', fl_no s a (by decide +kernel) (by decide +kernel), x, dx, s, a, rfl, hx', hs, ha', ?_⟩
      refine ⟨rfl, _, rfl, ?_⟩
      rw [lit_close, sg_dec]
      by_cases h41 : s[a]? = some 41
      · rw [decide_eq_true h41]
        exact iteF ⟨a, acc, xs, rfl, hl', tp, hx', kp, ha', hr', h41⟩
      rw [decide_eq_false h41]
      refine iteT ⟨_, fun _ _ n => n, ?_⟩
      refine ⟨_, rfl, .inl ⟨rfl, _, SqL.of hl'⟩, _, rfl, x, dx, _, rfl, hx', fl_no s a (by decide +kernel) (by decide +kernel), _, rfl, _, _, rfl, rfl, x, dx, s, a, d + 1, rfl, hx', hs, ha', by omega, fun r hr1 => ?_⟩
      cases r with
      | error e => exact (hw _ (hr' _ (.bad h41 hr1))).mono kp
      | ok va =>
        obtain ⟨v, b⟩ := va
        intro v' H2 k2 hx2 tv
        obtain ⟨_, _, hab, hbs⟩ := read_ok hr1 _ _ rfl
        have hl2 : H2 l = some (.lst xs) := k2 l _ lx hl'
        have tp2 : TpAll H2 xs acc := tp.up (k2.tups (so_tup hx'))
        refine ⟨l, xs, v', rfl, rfl, hl2, ?_, ?_⟩
        · have := tp.len
          rw [sizeLine_eq]
          omega
        have up2 : Tups H2 (upd H2 l (.lst (xs ++ [v']))) := Tups.upd (lst_tup hl2)
        have kp2 : Keep x H (upd H2 l (.lst (xs ++ [v']))) := (kp.trans k2).own hlH
        have hx3 : upd H2 l (.lst (xs ++ [v'])) x = some (so K dx s b) := by rw [upd_ne (Ne.symm lx)]; exact hx2
        refine ⟨_, rfl, x, dx, _, rfl, hx3, fl_no s b (by decide +kernel) (by decide +kernel), x, dx, s, b, _, rfl, hx3, hs, hbs, fun c h1 h2 => ?_, fun h1 => ?_⟩
        · rw [lit_gap, one_mem] at h2
          subst h2
          refine ⟨s.length - (b + 1), by have := lt_of_at h1; omega, b + 1, acc ++ [v], xs ++ [v'], rfl, rfl, ?_, ?_, upd_same, kp2.at, lt_of_at h1, fun r q => hr' _ (.more h41 hr1 h1 q), ?_⟩
          · rw [upd_ne lx]
            exact upd_same
          · exact (TpAll.snoc tv tp2).up (up2.trans (Tups.upd (so_tup hx3)))
          · simp only [List.length_append, List.length_cons, List.length_nil]
            omega
        · refine (hw _ (hr' _ (.gap h41 hr1 fun q => ?_))).mono kp2
          exact h1 32 q (by rw [lit_gap]; exact one_mem.mpr rfl)
    rintro σ H' ⟨a, acc, xs, rfl, hl', tp, hx', kp, ha', hr', h41⟩
    refine ⟨_, rfl, x, dx, _, rfl, hx', fl_no s a (by decide +kernel) (by decide +kernel), x, dx, s, a, _, rfl, hx', hs, ha', fun c h1 h2 => ?_, fun h1 => absurd (by rw [lit_close]; exact one_mem.mpr rfl) (h1 41 h41)⟩
    have hl2 : upd H' x (so K dx s (a + 1)) l = some (.lst xs) := by rw [upd_ne lx]; exact hl'
    refine ⟨_, rfl, l, xs, rfl, .inl ⟨SqL.of hl2, fun t ht => ?_⟩⟩
    have htx : t ≠ x := fun q => by rw [q, upd_same] at ht; cases ht
    have htH : H t = none := by
      cases e : H t with
      | none => rfl
      | some o =>
        rw [upd_ne htx, kp t o htx e] at ht
        cases ht
    refine hw _ (hr' _ (.close h41)) (.ref t) _ (kp.at.own htH) ?_ ?_
    · rw [upd_ne (Ne.symm htx)]
      exact upd_same
    · exact .tup upd_same (tp.up ((Tups.upd (so_tup hx')).trans (Tups.upd (none_tup ht))))
theorem ok_both (T : Tx K mg) : ∀ n, Ok w K mg base (L2.CX prog w) (4 + 2 * n + 1) (ma K (ga K "Seal") "read_row") ["self", "depth"] (sp_row K n)
  | 0 => ok_row0 T
  | n + 1 => ok_row T n (ok_one T n (ok_both T n))
/-- what read_value comes to -/
def sp_val (K : PySem.W.Frag) : Sp := fun vs H Q E => ∃ (s : Cs), vs = [.str (mk s)] ∧ s.length ≤ 100000 ∧ ∀ r, R1 s 0 0 r → match fin s r with
  | .ok v => ∀ v' H', (∀ b o, H b = some o → H' b = some o) → Tp H' v' v → Q v' H'
  | .error e => ∀ (H' : Hp) (d : Addr), (∀ b o, H b = some o → H' b = some o) → H' d = some (.xd [("at", .int (e : Int))]) → E (.ref (ga K "BadSeal")) (some d) H'
theorem ok_val (T : Tx K mg) : Ok w K mg base (L2.CX prog w) 87 (ga K "read_value") ["string"] (sp_val K) := by
  obtain ⟨fd, F⟩ := T.fn_read_value
  obtain ⟨fd_Seal_init, G_Seal_init, b_Seal_init, k_Seal_init⟩ := ok_init (w := w) (base := base) T
  obtain ⟨fd_Seal_read_one, G_Seal_read_one, b_Seal_read_one, k_Seal_read_one⟩ := ok_one (w := w) (base := base) T 40 (ok_both T 40)
  obtain ⟨fd_Seal_check_end, G_Seal_check_end, b_Seal_check_end, k_Seal_check_end⟩ := ok_end (w := w) (base := base) T
  refine ⟨fd, F.ok sc_read_value (fun vs H Q E h => ?_) (fun cdv A outer s H vs Q E hr h => ?_), F.bindsN fun _ _ _ _ _ _ us hl => match us, hl with | [_], _ => rfl, F.kp⟩
  · obtain ⟨s, rfl, _⟩ := h
    rfl
  · obtain ⟨s, rfl, hs, hw⟩ := h
    refine ⟨_, (pss_cons (ps_set (i := 1) sc_read_value.nd rfl (Or.inl rfl) (pe_make T.mkr_Seal G_Seal_init (hr.mono (by decide)) rfl T.glo_Seal b_Seal_init .nil pass0 (pa_cons (pv 0) pa_nil)))
  (pss_cons (ps_set (i := 2) sc_read_value.nd rfl (Or.inl rfl) (pe_meth (pv 1) T.cls_Seal T.meth_Seal_read_one G_Seal_read_one (hr.mono (by decide)) b_Seal_read_one .nil (passes_call (takes_of rfl rfl rfl rfl) (fun _ _ _ _ h => h)) (pa_cons pe_int pa_nil)))
  (pss_cons (ps_expr (pe_meth0 (pv 1) T.cls_Seal T.meth_Seal_check_end G_Seal_check_end (hr.mono (by decide)) b_Seal_check_end .nil (passes_call (takes_of rfl rfl rfl rfl) (fun _ _ _ _ h => h))))
  (pss_one (ps_ret (pv 2)))))), ?_⟩
    refine ⟨_, rfl, fun x dx hx hdx hxd => ?_⟩
    refine ⟨x, dx, s, rfl, upd_same, rfl, ?_⟩
    have hxdx : x ≠ dx := Ne.symm hxd
    refine ⟨_, rfl, x, dx, _, rfl, upd_same, fl_no s 0 (by decide +kernel) (by decide +kernel), x, dx, s, 0, 0, rfl, upd_same, hs, Nat.zero_le _, by omega, fun r hr1 => ?_⟩
    have w1 := hw _ hr1
    rw [upd_upd]
    -- all that stood stands
    have kp : ∀ {H' : Hp}, Keep x (upd (upd H dx (.own x)) x (so K dx s 0)) H' → ∀ b o, H b = some o → H' b = some o := fun k b o e => by
      have h1 : b ≠ x := ne_of_none e hx
      have h2 : b ≠ dx := ne_of_none e hdx
      exact k b o h1 (by rw [upd_ne h1, upd_ne h2]; exact e)
    cases r with
    | error e => exact fun H' d k hd => w1 H' d (kp k) hd
    | ok va =>
      obtain ⟨v, a⟩ := va
      intro v' H2 k2 hx2 tv
      obtain ⟨_, _, _, has⟩ := read_ok hr1 _ _ rfl
      unfold fin at w1
      refine ⟨_, rfl, x, dx, _, rfl, hx2, fl_no s a (by decide +kernel) (by decide +kernel), x, dx, s, a, rfl, hx2, hs, has, fun e => ?_, fun e => ?_⟩
      · dsimp only at w1
        rw [if_pos e] at w1
        exact ⟨_, rfl, w1 _ _ (kp k2) tv⟩
      · dsimp only at w1
        rw [if_neg e] at w1
        exact fun H' d k hd => w1 H' d (kp (k2.trans k)) hd
end
end K93
set_option Elab.async false
set_option linter.all false
set_option maxRecDepth 100000
set_option maxHeartbeats 4000000
set_option pp.maxSteps 3000
/-! the law's pool of numbers: what it gives is never told, only its bounds -/
namespace K93
open PySem PySem.Spec PyProof.Rows L2 He He2 M93
/-- at p the pool: n takes have been made of it at most -/
def Pool (H : Hp) (p c : Addr) (n : Nat) : Prop := ∃ (cells : List Int) (i left m tot : Int), H p = some (.lst [.ref c, .int i, .int left, .int m, .int tot]) ∧ H c = some (.lst (cells.map V.int)) ∧ c ≠ p ∧ 0 ≤ i ∧ 0 ≤ left ∧ 0 ≤ m ∧ m ≤ n ∧ ∀ z ∈ cells, 0 ≤ z
theorem Pool.mono {H : Hp} {p u : Addr} {n n' : Nat} (h : Pool H p u n) (k : n ≤ n') : Pool H p u n' := by
  obtain ⟨cells, i, left, m, tot, h1, h2, h3, h4, h5, h6, h7, h8⟩ := h
  exact ⟨cells, i, left, m, tot, h1, h2, h3, h4, h5, h6, by omega, h8⟩
/-- what stands stands: then the pool too -/
theorem Pool.up {H H' : Hp} {p u : Addr} {n : Nat} (h : Pool H p u n) (k : ∀ b o, H b = some o → H' b = some o) : Pool H' p u n := by
  obtain ⟨cells, i, left, m, tot, h1, h2, h3⟩ := h
  exact ⟨cells, i, left, m, tot, k _ _ h1, k _ _ h2, h3⟩
theorem Pool.grow {H : Hp} {p u l : Addr} {n : Nat} {o : HO} (h : Pool H p u n) (hl : H l = none) : Pool (upd H l o) p u n := h.up fun b u e => by rw [upd_ne (ne_of_none e hl)]; exact e
theorem Keep.grow {x l : Addr} {H H1 : Hp} {o : HO} (k : Keep x H H1) (hl : H1 l = none) : Keep x H (upd H1 l o) := fun b u n e => by rw [upd_ne (ne_of_none (k b u n e) hl)]; exact k b u n e
theorem Pool.ne {H : Hp} {p u l : Addr} {n : Nat} (h : Pool H p u n) (hl : H l = none) : l ≠ p := by
  obtain ⟨cells, i, left, m, tot, h1, _⟩ := h
  exact fun q => by rw [q, h1] at hl; cases hl
theorem Pool.ne_u {H : Hp} {p u l : Addr} {n : Nat} (h : Pool H p u n) (hl : H l = none) : l ≠ u := by
  obtain ⟨cells, i, left, m, tot, h1, h2, _⟩ := h
  exact fun q => by rw [q, h2] at hl; cases hl
theorem Pool.pu {H : Hp} {p u : Addr} {n : Nat} (h : Pool H p u n) : p ≠ u := by
  obtain ⟨cells, i, left, m, tot, h1, h2, h3, _⟩ := h
  exact Ne.symm h3
theorem Pool.lst {H : Hp} {p u : Addr} {n : Nat} (h : Pool H p u n) : ∃ xs, H p = some (.lst xs) := by
  obtain ⟨cells, i, left, m, tot, h1, _⟩ := h
  exact ⟨_, h1⟩
theorem Pool.tups {H : Hp} {p u : Addr} {n : Nat} (h : Pool H p u n) : ∀ xs, H p ≠ some (.tup xs) := by
  obtain ⟨xs, e⟩ := h.lst
  exact lst_tup e
theorem at_in {α : Type} {xs : List α} {j : Int} (h0 : 0 ≤ j) (h : j < (xs.length : Int)) : ∃ y, y ∈ xs ∧ atI xs j = some y := by
  obtain ⟨k, rfl⟩ : ∃ k : Nat, j = (k : Int) := ⟨j.toNat, (Int.toNat_of_nonneg h0).symm⟩
  have hk : k < xs.length := by omega
  exact ⟨xs[k], List.getElem_mem hk, atI_nat (List.getElem?_eq_getElem hk)⟩
theorem iteD {c A B : Prop} [Decidable c] (h1 : c → A) (h2 : ¬ c → B) : if decide c = true then A else B := by
  by_cases h : c
  · rw [decide_eq_true h, if_pos rfl]
    exact h1 h
  · rw [decide_eq_false h, if_neg Bool.false_ne_true]
    exact h2 h
section
variable {w : World} {K : PySem.W.Frag} {mg : Str → Option Value} {base : Heap}
theorem cut_mem {xs : List V} {lo hi : Option Int} : ∀ x ∈ cutV xs lo hi, x ∈ xs := by
  intro x hx
  unfold cutV at hx
  exact List.mem_of_mem_drop (List.mem_of_mem_take hx)
theorem cut_len {xs : List V} {lo hi : Option Int} : (cutV xs lo hi).length ≤ xs.length := by
  unfold cutV
  rw [List.length_take, List.length_drop]
  omega
theorem cut_ints {ns : List Int} {lo hi : Option Int} {i : Nat} {x : V} (h : (cutV (ns.map V.int) lo hi)[i]? = some x) : ∃ z : Int, x = .int z := by
  have h1 := cut_mem x (List.mem_of_getElem? h)
  obtain ⟨z, _, e⟩ := List.mem_map.mp h1
  exact ⟨z, e.symm⟩
def sp_pool (K : PySem.W.Frag) : Sp := fun vs H Q _ => ∃ (a : Addr) (ns : List Int), vs = [.ref a] ∧ SqL K H a (ns.map V.int) ∧ ns.length ≤ 1000000 ∧ ∀ p u H', (∀ b o, H b = some o → H' b = some o) → Pool H' p u 0 → Q (.ref p) H'
theorem ok_pool (T : Tx K mg) : Ok w K mg base CX0 1 (ga K "_law_pool") ["script"] (sp_pool K) := by
  obtain ⟨fd, F⟩ := T.fn__law_pool
  refine ⟨fd, F.ok sc__law_pool (fun vs H Q E h => ?_) (fun cdv A outer s H vs Q E hr h => ?_), F.bindsN fun _ _ _ _ _ _ us hl => match us, hl with | [_], _ => rfl, F.kp⟩
  · obtain ⟨a, ns, rfl, _⟩ := h
    rfl
  · obtain ⟨a, ns, rfl, ha, hn, hw⟩ := h
    refine ⟨_, (pss_cons (ps_setLc (i := 2) (own := [("cell", 1)]) rfl sc__law_pool.nd rfl rfl (sw_true rfl rfl rfl (by decide +kernel)) (pi_list (pe_slice sl_list (pv 0) po_none (po_some pe_int))) (blkOk_by (own := [("cell", 1)]) (N := ["script", "cell", "cells", "total"]) (sc := defScope s__law_pool) (by decide +kernel)) (fun _ _ _ _ _ => (pg_name (i := 1) sc__law_pool.nd rfl (Or.inl rfl))) (fun _ _ _ _ _ => pts_nil) (fun _ _ _ _ _ => (pe_callB call_abs (by rfl) T.free_abs (by decide +kernel) (pa_cons (pe_callTy call_int1 (by rfl) T.free_int (by decide +kernel) (pa_cons (pv 1) pa_nil)) pa_nil))))
  (pss_cons (ps_set (i := 3) sc__law_pool.nd rfl (Or.inl rfl) pe_int)
  (pss_cons (ps_for (passes_of rfl) rfl (pi_list (pv 2)) (pg_name (i := 1) sc__law_pool.nd rfl (Or.inl rfl)) (pss_one (ps_set (i := 3) sc__law_pool.nd rfl (Or.inl rfl) (pe_op op_mod (pe_callTy call_int1 (by rfl) T.free_int (by decide +kernel) (pa_cons (pe_op op_add (pe_op op_mul (pv 3) pe_int) (pv 1)) pa_nil)) pe_int))))
  (pss_one (ps_ret (pe_lst (pa_cons (pv 2) (pa_cons pe_int (pa_cons pe_int (pa_cons pe_int (pa_cons (pv 3) pa_nil))))))))))), ?_⟩
    refine ⟨_, rfl, 63, rfl, a, _, rfl, ha, fun l hl => ⟨l, rfl, ⟨_, SqL.of upd_same⟩, fun D hD => ?_⟩⟩
    have hlen : (cutV (ns.map V.int) none (some 63)).length ≤ 1000000 := by
      have h1 : (cutV (ns.map V.int) none (some 63)).length ≤ (ns.map V.int).length := cut_len
      rw [List.length_map] at h1
      omega
    have hints : ∀ (i : Nat) (x : V), (cutV (ns.map V.int) none (some 63))[i]? = some x → ∃ z : Int, x = .int z := fun i x hx => cut_ints hx
    generalize cutV (ns.map V.int) none (some 63) = xs at *
    have Dl : D ≠ l := fun q => by rw [q, upd_same] at hD; cases hD
    have hDH : H D = none := by
      rw [upd_ne Dl] at hD
      exact hD
    refine lc_it walk_list (fun i H' => H' l = some (.lst xs) ∧ (∃ acc : List Int, H' D = some (.lst (acc.map V.int)) ∧ acc.length = i ∧ ∀ z ∈ acc, 0 ≤ z) ∧ ∀ b o, H b = some o → H' b = some o)
      ⟨by rw [upd_ne (Ne.symm Dl)]; exact upd_same, ⟨[], upd_same, rfl, by simp⟩, fun b o e => by rw [upd_ne (ne_of_none e hDH), upd_ne (ne_of_none e hl)]; exact e⟩
      (fun i H' _ h => SqL.of h.1) ?_ ?_
    · rintro i x H1 H2 hi ⟨g1, ⟨acc, g2, g3, g4⟩, g5⟩ ⟨rfl, hx⟩
      obtain ⟨z, rfl⟩ := hints i x hx
      refine ⟨rfl, ?_⟩
      dsimp only [tYes]
      refine iteT ⟨_, rfl, .inl ⟨_, rfl, _, rfl, acc.map V.int, g2, ?_, ?_⟩⟩
      · rw [List.length_map, sizeLine_eq]
        omega
      refine ⟨by rw [upd_ne (Ne.symm Dl)]; exact g1, ⟨acc ++ [if z < 0 then -z else z], ?_, ?_, ?_⟩, fun b o e => by rw [upd_ne (ne_of_none e hDH)]; exact g5 b o e⟩
      · rw [upd_same, List.map_append]
        rfl
      · rw [List.length_append, g3]
        rfl
      · intro y hy
        rcases List.mem_append.mp hy with h | h
        · exact g4 y h
        · rw [List.mem_singleton.mp h]
          split <;> omega
    · rintro H1 ⟨g1, ⟨acc, g2, g3, g4⟩, g5⟩
      refine ⟨_, rfl, D, rfl, ⟨_, SqL.of g2⟩, ?_⟩
      refine for_it (walk_list (xs := acc.map V.int)) (fun i σ H' => ∃ (cv : Option V) (t : Int), σ = [some (.ref a), cv, some (.ref D), some (.int t)] ∧ H' = H1)
        ⟨none, 0, rfl, rfl⟩ (fun i σ H' _ h => by obtain ⟨_, _, _, rfl⟩ := h; exact SqL.of g2) ?_ ?_
      · rintro i x σ H2 H3 hi ⟨cv, t, rfl, rfl⟩ ⟨rfl, hx⟩
        obtain ⟨z, rfl⟩ : ∃ z : Int, x = .int z := by
          rw [List.getElem?_map] at hx
          cases e : acc[i]? with
          | none => rw [e] at hx; cases hx
          | some z => rw [e] at hx; cases hx; exact ⟨z, rfl⟩
        refine ⟨_, rfl, _, _, rfl, rfl, .inr (by decide), _, rfl, _, _, rfl, rfl, .inl ⟨_, rfl, _, _, rfl, rfl, (by show (0 : Int) < 1000003; decide), ?_⟩⟩
        exact ⟨_, _, rfl, rfl⟩
      · rintro σ H2 ⟨cv, t, rfl, rfl⟩
        refine ⟨_, rfl, _, rfl, size_ok (by show 5 ≤ 16000000; decide), fun p hp => hw p D _ (fun b o e => by rw [upd_ne (ne_of_none (g5 b o e) hp)]; exact g5 b o e) ?_⟩
        have pD : D ≠ p := fun q => by rw [q] at g2; rw [g2] at hp; cases hp
        exact ⟨acc, 0, 0, 0, t, upd_same, by rw [upd_ne pD]; exact g2, pD, by decide, by decide, by decide, by decide, g4⟩
def sp_ltake : Sp := fun vs H Q _ => ∃ (p u : Addr) (n : Nat) (many : Int), vs = [.ref p, .int many] ∧ Pool H p u n ∧ n ≤ 1000000000 ∧ many < 1000000000 ∧ ∀ (j : Int) H', 0 ≤ j → (0 < many → j < many) → Keep p H H' → Pool H' p u (n + 1) → Q (.int j) H'
theorem ok_ltake (T : Tx K mg) : Ok w K mg base CX0 1 (ga K "_law_take") ["pool", "many"] sp_ltake := by
  obtain ⟨fd, F⟩ := T.fn__law_take
  refine ⟨fd, F.ok sc__law_take (fun vs H Q E h => ?_) (fun cdv A outer s H vs Q E hr h => ?_), F.bindsN fun _ _ _ _ _ _ us hl => match us, hl with | [_, _], _ => rfl, F.kp⟩
  · obtain ⟨p, u, n, many, rfl, _⟩ := h
    rfl
  · obtain ⟨p, u, n, many, rfl, hp, hn, hm, hw⟩ := h
    refine ⟨_, (pss_cons (ps_if (pt_cmpR op_le (pv 1) pe_int (nomark _)) (pss_one (ps_ret pe_int)) pss_nil)
  (pss_cons (ps_if (pt_cmpR op_gt (pe_ix ix_list (pv 0) pe_int (fun _ _ => rfl)) pe_int (nomark _)) (pss_cons (ps_set (i := 2) sc__law_take.nd rfl (Or.inl rfl) (pe_op op_mod (pe_callTy call_int1 (by rfl) T.free_int (by decide +kernel) (pa_cons (pe_ix ix_list (pv 0) pe_int (fun _ _ => rfl)) pa_nil)) (pv 1)))
  (pss_cons (ps_asg (pe_op op_fdivW (pe_ix ix_list (pv 0) pe_int (fun _ _ => rfl)) (pv 1)) (pg_sub (pv 0) pe_int set_list))
  (pss_one (ps_ret (pv 2))))) pss_nil)
  (pss_cons (ps_augS (pv 0) pe_int get_list pe_int ip_add set_list)
  (C8.pss_cut (ps_if (pt_cmpR op_lt (pe_ix ix_list (pv 0) pe_int (fun _ _ => rfl)) (pe_callB call_len_seq (by rfl) T.free_len (by decide +kernel) (pa_cons (pe_ix ix_list (pv 0) pe_int (fun _ _ => rfl)) pa_nil)) (nomark _)) (pss_cons (ps_set (i := 3) sc__law_take.nd rfl (Or.inl rfl) (pe_ix ix_list (pe_ix ix_list (pv 0) pe_int (fun _ _ => rfl)) (pe_ix ix_list (pv 0) pe_int (fun _ _ => rfl)) (fun _ _ => rfl)))
  (pss_cons (ps_augS (pv 0) pe_int get_list pe_int ip_add set_list)
  (pss_cons (ps_if (pt_cmpR op_ge (pv 3) (pe_op op_pow pe_int pe_int) (nomark _)) (pss_cons (ps_asg (pe_op op_fdivW (pv 3) (pv 1)) (pg_sub (pv 0) pe_int set_list))
  (pss_one (ps_ret (pe_op op_mod (pe_callTy call_int1 (by rfl) T.free_int (by decide +kernel) (pa_cons (pv 3) pa_nil)) (pv 1))))) pss_nil)
  (pss_one (ps_set (i := 4) sc__law_take.nd rfl (Or.inl rfl) (pe_op op_add (pe_op op_add (pe_op op_mul (pv 3) pe_int) (pe_op op_mul (pe_ix ix_list (pv 0) pe_int (fun _ _ => rfl)) pe_int)) pe_int)))))) (pss_one (ps_set (i := 4) sc__law_take.nd rfl (Or.inl rfl) (pe_op op_add (pe_op op_add (pe_op op_add (pe_op op_mul (pe_ix ix_list (pv 0) pe_int (fun _ _ => rfl)) pe_int) (pe_op op_mul (pe_op op_mul (pe_ix ix_list (pv 0) pe_int (fun _ _ => rfl)) (pe_ix ix_list (pv 0) pe_int (fun _ _ => rfl))) pe_int)) (pe_op op_mul (pe_ix ix_list (pv 0) pe_int (fun _ _ => rfl)) pe_int)) pe_int))))
  (pss_cons (ps_set (i := 5) sc__law_take.nd rfl (Or.inl rfl) (pe_op op_mod (pe_callTy call_int1 (by rfl) T.free_int (by decide +kernel) (pa_cons (pv 4) pa_nil)) pe_int))
  (pss_one (ps_ret (pe_op op_mod (pe_callTy call_int1 (by rfl) T.free_int (by decide +kernel) (pa_cons (pe_op op_fdiv (pe_op op_mod (pe_callTy call_int1 (by rfl) T.free_int (by decide +kernel) (pa_cons (pe_op op_add (pe_op op_mul (pv 5) (pv 5)) (pv 4)) pa_nil)) pe_int) pe_int) pa_nil)) (pv 1))))))))), ?_⟩
    obtain ⟨cells, i, left, m, tot, h1, h2, h3, h4, h5, h6, h7, h8⟩ := hp
    refine ⟨_, rfl, _, _, rfl, rfl, _, rfl, ?_⟩
    by_cases c1 : many ≤ 1
    · rw [decide_eq_true c1]
      exact iteT (hw 0 H (by decide) (fun q => q) (Keep.refl _ _) ⟨cells, i, left, m, tot, h1, h2, h3, h4, h5, h6, by omega, h8⟩)
    rw [decide_eq_false c1]
    have mpos : (0 : Int) < many := by omega
    have hdiv : CDivW left many := wide_div (b := 64) mpos (by omega) (by decide) (by decide)
    -- any number, taken by many
    have fin : ∀ (z : Int) H', Keep p H H' → Pool H' p u (n + 1) → Q (.int (z % many)) H' := fun z H' k q => by
      exact hw _ H' (Int.emod_nonneg z (Int.ne_of_gt mpos)) (fun _ => Int.emod_lt_of_pos z mpos) k q
    refine iteF ⟨_, rfl, _, _, _, _, rfl, rfl, SqL.of h1, rfl, _, _, rfl, rfl, _, rfl, ?_⟩
    by_cases c2 : left > 0
    · rw [decide_eq_true c2]
      refine iteT ⟨_, rfl, _, _, _, _, rfl, rfl, SqL.of h1, rfl, .inl ⟨_, rfl, _, rfl, _, _, rfl, rfl, mpos, ?_⟩⟩
      refine ⟨_, rfl, _, _, _, _, rfl, rfl, SqL.of h1, rfl, _, rfl, _, _, rfl, rfl, hdiv, ?_⟩
      refine ⟨_, rfl, _, _, _, _, rfl, rfl, h1, rfl, ?_⟩
      refine ⟨_, rfl, ?_⟩
      refine fin _ _ Keep.self ⟨cells, i, left / many, m, tot, upd_same, by rw [upd_ne h3]; exact h2, h3, h4, Int.ediv_nonneg h5 (by omega), h6, by omega, h8⟩
    rw [decide_eq_false c2]
    refine iteF ?_
    refine ⟨_, rfl, _, _, _, _, rfl, rfl, SqL.of h1, rfl, _, _, rfl, rfl, _, _, _, _, rfl, rfl, h1, rfl, ?_⟩
    have k1 : Keep p H (upd H p (.lst [.ref u, .int i, .int left, .int (m + 1), .int tot])) := Keep.self
    refine ⟨fun σ H' => ∃ (number : Int) (cv : Option V), σ = [some (.ref p), some (.int many), none, cv, some (.int number), none] ∧ Pool H' p u (n + 1) ∧ Keep p H H', ?_, ?_⟩
    · refine ⟨_, rfl, _, _, _, _, rfl, rfl, SqL.of upd_same, rfl, _, rfl, _, _, _, _, rfl, rfl, SqL.of upd_same, rfl, _, _, rfl, .inl (SqL.of (by rw [upd_ne h3]; exact h2)), _, _, rfl, rfl, _, rfl, ?_⟩
      rw [List.length_map]
      by_cases c3 : i < (cells.length : Int)
      · rw [decide_eq_true c3]
        obtain ⟨j, rfl⟩ : ∃ j : Nat, i = (j : Int) := ⟨i.toNat, (Int.toNat_of_nonneg h4).symm⟩
        obtain ⟨z, hz⟩ : ∃ z, cells[j]? = some z := ⟨cells[j]'(by omega), List.getElem?_eq_getElem (by omega)⟩
        have z0 : 0 ≤ z := h8 z (List.mem_of_getElem? hz)
        have hat : atI (cells.map V.int) (j : Int) = some (.int z) := atI_nat (by rw [List.getElem?_map, hz]; rfl)
        refine iteT ⟨_, rfl, _, _, _, _, rfl, rfl, SqL.of upd_same, rfl, _, rfl, _, _, _, _, rfl, rfl, SqL.of upd_same, rfl, _, _, _, _, rfl, rfl, SqL.of (by rw [upd_ne h3]; exact h2), hat, ?_⟩
        refine ⟨_, rfl, _, _, _, _, rfl, rfl, SqL.of upd_same, rfl, _, _, rfl, rfl, _, _, _, _, rfl, rfl, upd_same, rfl, ?_⟩
        rw [upd_upd]
        refine ⟨_, rfl, _, _, rfl, rfl, ⟨by decide, by decide, by decide⟩, _, _, rfl, rfl, _, rfl, ?_⟩
        refine iteD (fun _ => ?_) (fun _ => ?_)
        · refine ⟨_, rfl, _, rfl, _, _, rfl, rfl, (wide_div (b := 64) mpos (by omega) (by decide) (by decide) : CDivW z many), _, rfl, _, _, _, _, rfl, rfl, upd_same, rfl, ?_⟩
          rw [upd_upd]
          refine ⟨_, rfl, .inl ⟨_, rfl, _, rfl, _, _, rfl, rfl, mpos, ?_⟩⟩
          exact fin _ _ Keep.self ⟨cells, _, z / many, m + 1, tot, upd_same, by rw [upd_ne h3]; exact h2, h3, (by show (0 : Int) ≤ (j : Int) + 1; omega), Int.ediv_nonneg z0 (by omega), by omega, by omega, h8⟩
        · refine ⟨_, rfl, _, _, rfl, rfl, .inr (by decide), _, rfl, _, _, _, _, rfl, rfl, SqL.of upd_same, rfl, _, _, rfl, rfl, .inr (by decide), _, _, rfl, rfl, _, _, rfl, rfl, ?_⟩
          exact ⟨_, _, rfl, ⟨cells, _, left, m + 1, tot, upd_same, by rw [upd_ne h3]; exact h2, h3, (by show (0 : Int) ≤ (j : Int) + 1; omega), h5, by omega, by omega, h8⟩, Keep.self⟩
      · rw [decide_eq_false c3]
        refine iteF ⟨_, rfl, _, _, _, _, rfl, rfl, SqL.of upd_same, rfl, _, _, rfl, rfl, .inr (by decide), _, rfl, _, _, _, _, rfl, rfl, SqL.of upd_same, rfl, _, rfl, _, _, _, _, rfl, rfl, SqL.of upd_same, rfl, _, _, rfl, rfl, .inl ⟨by show -(2 ^ 64) < m + 1; omega, by show m + 1 < 2 ^ 64; omega⟩, _, _, rfl, rfl, .inr (by decide), _, _, rfl, rfl, ?_⟩
        refine ⟨_, rfl, _, _, _, _, rfl, rfl, SqL.of upd_same, rfl, _, _, rfl, rfl, .inr (by decide), _, _, rfl, rfl, _, _, rfl, rfl, ?_⟩
        exact ⟨_, _, rfl, ⟨cells, i, left, m + 1, tot, upd_same, by rw [upd_ne h3]; exact h2, h3, h4, h5, by omega, by omega, h8⟩, k1⟩
    rintro σ H' ⟨number, cv, rfl, hp', k'⟩
    refine ⟨_, rfl, .inl ⟨_, rfl, _, _, rfl, rfl, (by show (0 : Int) < 2147483647; decide), ?_⟩⟩
    refine ⟨_, rfl, _, rfl, _, _, rfl, rfl, ?_, _, rfl, _, _, rfl, rfl, .inl ⟨_, rfl, _, _, rfl, rfl, (by show (0 : Int) < 2147483629; decide), ?_⟩⟩
    · have b1 := Int.emod_nonneg number (show (2147483647 : Int) ≠ 0 by decide)
      have b2 := Int.emod_lt_of_pos number (show (0 : Int) < 2147483647 by decide)
      exact .inl ⟨by omega, by omega⟩
    exact ⟨_, _, rfl, rfl, ⟨by decide, by decide⟩, .inl ⟨_, rfl, _, rfl, _, _, rfl, rfl, mpos, fin _ _ k' hp'⟩⟩
def sp_lpick : Sp := fun vs H Q _ => ∃ (p u l : Addr) (n : Nat) (ys : List V), vs = [.ref p, .ref l] ∧ Pool H p u n ∧ n ≤ 1000000000 ∧ l ≠ p ∧ H l = some (.lst ys) ∧ ys ≠ [] ∧ ys.length ≤ 1000000 ∧ ∀ y H', y ∈ ys → Keep p H H' → Pool H' p u (n + 1) → Q y H'
theorem ok_lpick (T : Tx K mg) : Ok w K mg base CX0 2 (ga K "_law_pick") ["pool", "menu"] sp_lpick := by
  obtain ⟨fd, F⟩ := T.fn__law_pick
  obtain ⟨fd__law_take, G__law_take, b__law_take, k__law_take⟩ := ok_ltake (w := w) (base := base) T
  refine ⟨fd, F.ok sc__law_pick (fun vs H Q E h => ?_) (fun cdv A outer s H vs Q E hr h => ?_), F.bindsN fun _ _ _ _ _ _ us hl => match us, hl with | [_, _], _ => rfl, F.kp⟩
  · obtain ⟨p, u, l, n, ys, rfl, _⟩ := h
    rfl
  · obtain ⟨p, u, l, n, ys, rfl, hp, hn, hlp, hl, hne, hlen, hw⟩ := h
    refine ⟨_, (pss_one (ps_ret (pe_ix ix_list (pv 1) (pe_call G__law_take (hr.mono (by decide)) rfl T.glo__law_take k__law_take b__law_take .nil pass0 (pa_cons (pv 0) (pa_cons (pe_callB call_len_seq (by rfl) T.free_len (by decide +kernel) (pa_cons (pv 1) pa_nil)) pa_nil))) (fun _ _ => rfl)))), ?_⟩
    have hpos := List.length_pos_iff.mpr hne
    refine ⟨_, rfl, _, rfl, _, rfl, _, _, rfl, .inl (SqL.of hl), p, u, n, _, rfl, hp, hn, by omega, fun j H' h0 hj k hp' => ?_⟩
    obtain ⟨y, hy, e⟩ := at_in h0 (hj (by omega))
    exact ⟨_, _, _, y, rfl, rfl, SqL.of (k l _ hlp hl), e, hw _ _ hy k hp'⟩
theorem word_menu (y : V) (hy : y ∈ [V.str (Str.ofString ""), .str (Str.ofString ""), .str (Str.ofString ""), .str (Str.ofString "none"), .str (Str.ofString " "), .str (Str.ofString "12"), .str (Str.ofString "with done again"), .str (Str.ofString "0 0")]) :
    ∃ l0 : Cs, y = .str (mk l0) ∧ l0.length ≤ 15 ∧ ∀ c ∈ l0, c ∈ sgns := by
  have e : ∀ z ∈ [Str.ofString "", Str.ofString "none", Str.ofString " ", Str.ofString "12", Str.ofString "with done again", Str.ofString "0 0"], z.cps.toList.length ≤ 15 ∧ ∀ c ∈ z.cps.toList, c ∈ sgns := by decide +kernel
  have f : ∀ z : Str, z ∈ [Str.ofString "", Str.ofString "none", Str.ofString " ", Str.ofString "12", Str.ofString "with done again", Str.ofString "0 0"] → ∃ l0 : Cs, V.str z = .str (mk l0) ∧ l0.length ≤ 15 ∧ ∀ c ∈ l0, c ∈ sgns := fun z hz => ⟨z.cps.toList, rfl, e z hz⟩
  simp only [List.mem_cons, List.not_mem_nil, or_false] at hy
  rcases hy with h | h | h | h | h | h | h | h <;> (rw [h]; exact f _ (by simp))
def sp_lword : Sp := fun vs H Q _ => ∃ (p u : Addr) (n : Nat), vs = [.ref p] ∧ Pool H p u n ∧ n ≤ 900000000 ∧ ∀ (l : Cs) H', (∀ c ∈ l, c ∈ sgns) → l.length ≤ 40 → Keep p H H' → Pool H' p u (n + 30) → Q (.str (mk l)) H'
theorem lit_sgns : Str.ofString "abcdefghijklmnopqrstuvwxyz0123456789 " = mk sgns := by decide +kernel
theorem ok_lword (T : Tx K mg) : Ok w K mg base CX0 3 (ga K "_law_word") ["pool"] sp_lword := by
  obtain ⟨fd, F⟩ := T.fn__law_word
  obtain ⟨fd__law_take, G__law_take, b__law_take, k__law_take⟩ := ok_ltake (w := w) (base := base) T
  obtain ⟨fd__law_pick, G__law_pick, b__law_pick, k__law_pick⟩ := ok_lpick (w := w) (base := base) T
  refine ⟨fd, F.ok sc__law_word (fun vs H Q E h => ?_) (fun cdv A outer s H vs Q E hr h => ?_), F.bindsN fun _ _ _ _ _ _ us hl => match us, hl with | [_], _ => rfl, F.kp⟩
  · obtain ⟨p, u, n, rfl, _⟩ := h
    rfl
  · obtain ⟨p, u, n, rfl, hp, hn, hw⟩ := h
    refine ⟨_, (pss_cons (ps_set (i := 1) sc__law_word.nd rfl (Or.inl rfl) pe_str)
  (pss_cons (ps_set (i := 2) sc__law_word.nd rfl (Or.inl rfl) (pe_call G__law_pick (hr.mono (by decide)) rfl T.glo__law_pick k__law_pick b__law_pick .nil pass0 (pa_cons (pv 0) (pa_cons (pe_lst (pa_cons pe_str (pa_cons pe_str (pa_cons pe_str (pa_cons pe_str (pa_cons pe_str (pa_cons pe_str (pa_cons pe_str (pa_cons pe_str pa_nil))))))))) pa_nil))))
  (pss_cons (ps_for (passes_of rfl) rfl (pi_range1 rfl T.free_range (pa_cons (pe_ifExp (pt_cmpR op_eq (pe_call G__law_take (hr.mono (by decide)) rfl T.glo__law_take k__law_take b__law_take .nil pass0 (pa_cons (pv 0) (pa_cons pe_int pa_nil))) pe_int (nomark _)) (pe_call G__law_take (hr.mono (by decide)) rfl T.glo__law_take k__law_take b__law_take .nil pass0 (pa_cons (pv 0) (pa_cons pe_int pa_nil))) (pe_call G__law_take (hr.mono (by decide)) rfl T.glo__law_take k__law_take b__law_take .nil pass0 (pa_cons (pv 0) (pa_cons pe_int pa_nil)))) pa_nil)) (pg_name (i := 3) sc__law_word.nd rfl (Or.inl rfl)) (pss_one (ps_set (i := 2) sc__law_word.nd rfl (Or.inl rfl) (pe_op op_add_str (pv 2) (pe_ix ix_str (pv 1) (pe_call G__law_take (hr.mono (by decide)) rfl T.glo__law_take k__law_take b__law_take .nil pass0 (pa_cons (pv 0) (pa_cons pe_int pa_nil))) (fun _ _ => rfl))))))
  (pss_one (ps_ret (pv 2)))))), ?_⟩
    refine ⟨_, rfl, size_ok (by decide), fun l hl => ?_⟩
    refine ⟨p, u, l, n, _, rfl, hp.grow hl, by omega, hp.ne hl, upd_same, by simp, by decide, fun y H1 hy k1 hp1 => ?_⟩
    have k1 : Keep p H H1 := ((Keep.refl p H).grow hl).trans k1
    obtain ⟨l0, rfl, hl0, hs0⟩ : ∃ l0 : Cs, y = .str (mk l0) ∧ l0.length ≤ 15 ∧ ∀ c ∈ l0, c ∈ sgns := word_menu y hy
    refine ⟨_, rfl, p, u, _, _, rfl, hp1, by omega, by decide, fun j H2 j0 j8 k2 hp2 => ⟨rfl, _, rfl, iteD (fun _ => ?_) (fun _ => ?_)⟩⟩
    all_goals
      refine ⟨_, rfl, p, u, _, _, rfl, hp2, by omega, by decide, fun j' H3 j0' j8' k3 hp3 => ⟨_, rfl, by omega, by omega, ?_⟩⟩
      have j8' := j8' (by decide)
      have k4 : Keep p H H3 := (k1.trans k2).trans k3
      refine for_it walk_range (fun i σ H' => ∃ (l1 : Cs) (tv : Option V), σ = [some (.ref p), some (.str (Str.ofString "abcdefghijklmnopqrstuvwxyz0123456789 ")), some (.str (mk l1)), tv] ∧ l1.length ≤ 15 + i ∧ (∀ c ∈ l1, c ∈ sgns) ∧ Keep p H H' ∧ Pool H' p u (n + 3 + i))
        ⟨l0, none, rfl, hl0, hs0, k4, hp3⟩ (fun _ _ _ _ _ => trivial) ?_ ?_
      · rintro i y σ Ha Hb hi ⟨l1, tv, rfl, h15, hs1, ka, pa⟩ ⟨rfl, rfl⟩
        have hi2 : i < 25 := by omega
        refine ⟨_, rfl, _, rfl, _, rfl, p, u, _, _, rfl, pa, by omega, by decide, fun j2 Hc j20 j28 kc pc => ?_⟩
        obtain ⟨c, hc, e⟩ := at_in (xs := sgns) j20 (j28 (by decide))
        refine ⟨_, _, c, rfl, rfl, size_ok (by decide +kernel), by rw [lit_sgns]; exact e, ?_⟩
        refine ⟨_, _, rfl, rfl, size_ok (by show l1.length + 1 ≤ _; omega), ?_⟩
        refine ⟨l1 ++ [c], some (V.int (0 + (i : Int))), ?_, ?_, ?_, ka.trans kc, pc⟩
        · rw [← mk_add]
          rfl
        · rw [List.length_append, List.length_singleton]
          omega
        · intro c' hc'
          rcases List.mem_append.mp hc' with h | h
          · exact hs1 c' h
          · rw [List.mem_singleton.mp h]
            exact hc
      · rintro σ H' ⟨l1, tv, rfl, h15, hs1, ka, pa⟩
        exact ⟨_, rfl, hw l1 _ hs1 (by omega) ka (pa.mono (by omega))⟩
theorem add_len (a b : Str) : (a ++ b).length = a.length + b.length := Array.size_append
/-- an atom: its text and what it is -/
def sp_latom : Sp := fun vs H Q _ => ∃ (p u : Addr) (n : Nat), vs = [.ref p] ∧ Pool H p u n ∧ n ≤ 800000000 ∧ ∀ (a : Addr) (v : V) (d : PyData) H', H' a = some (.lst [.str (mk (shut d)), v]) → Tp H' v d → (∀ k, good k d) → (shut d).length ≤ 42 → H a = none → a ≠ p → Keep p H H' → Pool H' p u (n + 40) → Q (.ref a) H'
theorem lit_0 : Str.ofString "0" = mk (shut (.int 0)) := by decide +kernel
theorem lit_nn : Str.ofString "none" = mk (shut .none) := by decide +kernel
theorem lit_digs1 : Str.ofString "123456789" = mk digs1 := by decide +kernel
theorem num_menu (y : V) (hy : y ∈ [V.int 0, .int 0, .int 1, .int 2, .int 5, .int 28, .int 29]) : ∃ z : Int, y = .int z ∧ 0 ≤ z ∧ z ≤ 29 := by
  simp only [List.mem_cons, List.not_mem_nil, or_false] at hy
  rcases hy with h | h | h | h | h | h | h <;> exact ⟨_, h, by decide, by decide⟩
theorem ok_latom (T : Tx K mg) : Ok w K mg base CX0 4 (ga K "_law_atom") ["pool"] sp_latom := by
  obtain ⟨fd, F⟩ := T.fn__law_atom
  obtain ⟨fd__law_take, G__law_take, b__law_take, k__law_take⟩ := ok_ltake (w := w) (base := base) T
  obtain ⟨fd__law_pick, G__law_pick, b__law_pick, k__law_pick⟩ := ok_lpick (w := w) (base := base) T
  obtain ⟨fd__law_word, G__law_word, b__law_word, k__law_word⟩ := ok_lword (w := w) (base := base) T
  refine ⟨fd, F.ok sc__law_atom (fun vs H Q E h => ?_) (fun cdv A outer s H vs Q E hr h => ?_), F.bindsN fun _ _ _ _ _ _ us hl => match us, hl with | [_], _ => rfl, F.kp⟩
  · obtain ⟨p, u, n, rfl, _⟩ := h
    rfl
  · obtain ⟨p, u, n, rfl, hp, hn, hw⟩ := h
    refine ⟨_, (pss_cons (ps_set (i := 1) sc__law_atom.nd rfl (Or.inl rfl) (pe_call G__law_take (hr.mono (by decide)) rfl T.glo__law_take k__law_take b__law_take .nil pass0 (pa_cons (pv 0) (pa_cons pe_int pa_nil))))
  (pss_cons (ps_if (pt_cmpR op_eq (pv 1) pe_int (nomark _)) (pss_one (ps_ret (pe_lst (pa_cons pe_str (pa_cons pe_non pa_nil))))) pss_nil)
  (pss_cons (ps_if (pt_cmpR op_eq (pv 1) pe_int (nomark _)) (pss_cons (ps_set (i := 2) sc__law_atom.nd rfl (Or.inl rfl) (pe_call G__law_word (hr.mono (by decide)) rfl T.glo__law_word k__law_word b__law_word .nil pass0 (pa_cons (pv 0) pa_nil)))
  (pss_one (ps_ret (pe_lst (pa_cons (pe_op op_add_str (pe_op op_add_str pe_str (pv 2)) pe_str) (pa_cons (pv 2) pa_nil)))))) pss_nil)
  (pss_cons (ps_if (pt_cmpR op_eq (pv 1) pe_int (nomark _)) (pss_one (ps_ret (pe_lst (pa_cons pe_str (pa_cons pe_int pa_nil))))) pss_nil)
  (pss_cons (ps_set (i := 3) sc__law_atom.nd rfl (Or.inl rfl) (pe_ix ix_str pe_str (pe_call G__law_take (hr.mono (by decide)) rfl T.glo__law_take k__law_take b__law_take .nil pass0 (pa_cons (pv 0) (pa_cons pe_int pa_nil))) (fun _ _ => rfl)))
  (pss_cons (ps_for (passes_of rfl) rfl (pi_range1 rfl T.free_range (pa_cons (pe_call G__law_pick (hr.mono (by decide)) rfl T.glo__law_pick k__law_pick b__law_pick .nil pass0 (pa_cons (pv 0) (pa_cons (pe_lst (pa_cons pe_int (pa_cons pe_int (pa_cons pe_int (pa_cons pe_int (pa_cons pe_int (pa_cons pe_int (pa_cons pe_int pa_nil)))))))) pa_nil))) pa_nil)) (pg_name (i := 4) sc__law_atom.nd rfl (Or.inl rfl)) (pss_one (ps_set (i := 3) sc__law_atom.nd rfl (Or.inl rfl) (pe_op op_add_str (pv 3) (pe_ix ix_str pe_str (pe_call G__law_take (hr.mono (by decide)) rfl T.glo__law_take k__law_take b__law_take .nil pass0 (pa_cons (pv 0) (pa_cons pe_int pa_nil))) (fun _ _ => rfl))))))
  (pss_one (ps_ret (pe_ifExp (pt_cmpR op_eq (pv 1) pe_int (nomark _)) (pe_lst (pa_cons (pe_op op_add_str pe_str (pv 3)) (pa_cons (pe_un un_neg (pe_callTy call_int_str (by rfl) T.free_int (by decide +kernel) (pa_cons (pv 3) pa_nil))) pa_nil))) (pe_lst (pa_cons (pv 3) (pa_cons (pe_callTy call_int_str (by rfl) T.free_int (by decide +kernel) (pa_cons (pv 3) pa_nil)) pa_nil)))))))))))), ?_⟩
    refine ⟨_, rfl, p, u, n, _, rfl, hp, by omega, by decide, fun way H1 w0 w6 k1 hp1 => ?_⟩
    have fresh : ∀ {H' : Hp} {a : Addr}, Keep p H H' → Pool H' p u (n + 40) → H' a = none → H a = none ∧ a ≠ p := fun {H' a} k q ha => by
      have q1 := q.ne ha
      refine ⟨?_, q1⟩
      cases e : H a with
      | none => rfl
      | some o => rw [k a o q1 e] at ha; cases ha
    refine ⟨_, rfl, rfl, _, rfl, iteD (fun _ => ?_) (fun _ => ?_)⟩
    · refine ⟨size_ok (by decide), fun a ha => ?_⟩
      have hp2 := hp1.mono (show n + 1 ≤ n + 40 by omega)
      obtain ⟨f1, f2⟩ := fresh k1 hp2 ha
      rw [lit_nn]
      exact hw a .non .none _ upd_same .non (fun _ => trivial) (by decide) f1 f2 (k1.grow ha) (hp2.grow ha)
    refine ⟨_, rfl, rfl, _, rfl, iteD (fun _ => ?_) (fun _ => ?_)⟩
    · refine ⟨_, rfl, p, u, _, rfl, hp1, by omega, fun l H2 hl1 hl2 k2 hp2 => ?_⟩
      have k2 := k1.trans k2
      have hp2 := hp2.mono (show n + 1 + 30 ≤ n + 40 by omega)
      refine ⟨_, rfl, _, _, rfl, rfl, size_ok (by show 1 + l.length ≤ _; omega), _, _, rfl, rfl, size_ok (by rw [add_len]; show 1 + l.length + 1 ≤ _; omega), _, rfl, size_ok (by show 2 ≤ 16000000; decide), fun a ha => ?_⟩
      obtain ⟨f1, f2⟩ := fresh k2 hp2 ha
      have e : Str.ofString "'" ++ mk l ++ Str.ofString "'" = mk (shut (.str (mk l))) := by
        rw [lit_apo, mk_add, mk_add]
        rfl
      rw [e]
      exact hw a _ (.str (mk l)) _ upd_same (.str _) (fun _ => hl1) (by show (39 :: (l ++ [39])).length ≤ 42; simp only [List.length_cons, List.length_append, List.length_nil]; omega) f1 f2 (k2.grow ha) (hp2.grow ha)
    refine ⟨_, rfl, rfl, _, rfl, iteD (fun _ => ?_) (fun _ => ?_)⟩
    · refine ⟨size_ok (by decide), fun a ha => ?_⟩
      have hp2 := hp1.mono (show n + 1 ≤ n + 40 by omega)
      obtain ⟨f1, f2⟩ := fresh k1 hp2 ha
      rw [lit_0]
      exact hw a (.int 0) (.int 0) _ upd_same (.int 0) (fun _ => ⟨[48], ⟨by decide, by intro c hc; rw [List.mem_singleton.mp hc]; decide, .inl rfl⟩, .inl (by decide)⟩) (by decide) f1 f2 (k1.grow ha) (hp2.grow ha)
    refine ⟨_, rfl, p, u, _, _, rfl, hp1, by omega, by decide, fun j H2 j0 j9 k2 hp2 => ?_⟩
    obtain ⟨c, hc, e⟩ := at_in (xs := digs1) j0 (j9 (by decide))
    refine ⟨_, _, c, rfl, rfl, size_ok (by decide +kernel), by rw [lit_digs1]; exact e, ?_⟩
    have k2 := k1.trans k2
    refine ⟨_, rfl, size_ok (by decide), fun l hl => ?_⟩
    refine ⟨p, u, l, _, _, rfl, hp2.grow hl, by omega, hp2.ne hl, upd_same, by simp, by decide, fun y H3 hy k3 hp3 => ?_⟩
    have k3 : Keep p H H3 := (k2.grow hl).trans k3
    obtain ⟨z, rfl, z0, z29⟩ := num_menu y hy
    refine ⟨z, rfl, by omega, by omega, ?_⟩
    refine for_it walk_range (fun i σ H' => ∃ (r : Cs) (tv : Option V), σ = [some (.ref p), some (.int way), none, some (.str (mk (c :: r))), tv] ∧ r.length = i ∧ (∀ x ∈ r, x ∈ digs) ∧ Keep p H H' ∧ Pool H' p u (n + 3 + i))
      ⟨[], none, rfl, rfl, by simp, k3, hp3⟩ (fun _ _ _ _ _ => trivial) ?_ ?_
    · rintro i y σ Ha Hb hi ⟨r, tv, rfl, hr1, hr2, ka, pa⟩ ⟨rfl, rfl⟩
      have hi2 : i < 29 := by omega
      refine ⟨_, rfl, _, rfl, p, u, _, _, rfl, pa, by omega, by decide, fun j2 Hc j20 j28 kc pc => ?_⟩
      obtain ⟨x, hx, e⟩ := at_in (xs := digs) j20 (j28 (by decide))
      refine ⟨_, _, x, rfl, rfl, size_ok (by decide +kernel), by rw [lit_digs]; exact e, ?_⟩
      refine ⟨_, _, rfl, rfl, size_ok (by show (c :: r).length + 1 ≤ _; rw [List.length_cons]; omega), ?_⟩
      refine ⟨r ++ [x], some (V.int (0 + (i : Int))), ?_, ?_, ?_, ka.trans kc, pc⟩
      · show _ = [_, _, _, some (V.str (mk ((c :: r) ++ [x]))), _]
        rw [← mk_add]
        rfl
      · rw [List.length_append, List.length_singleton, hr1]
      · intro c' hc'
        rcases List.mem_append.mp hc' with h | h
        · exact hr2 c' h
        · rw [List.mem_singleton.mp h]
          exact hx
    · rintro σ H' ⟨r, tv, rfl, hr1, hr2, ka, pa⟩
      have hr29 : r.length ≤ 29 := by omega
      have pa := pa.mono (show n + 3 + _ ≤ n + 40 by omega)
      have hc1 := mem_digs1.mp hc
      have can : canon (c :: r) := by
        refine ⟨by rw [List.length_cons]; omega, ?_, .inr ⟨c, r, rfl, hc1.1⟩⟩
        intro x hx
        rcases List.mem_cons.mp hx with h | h
        · rw [h]
          omega
        · exact mem_digs.mp (hr2 x h)
      have n48 : c :: r ≠ [48] := fun q => by
        have := (List.cons.inj q).1
        omega
      refine ⟨_, rfl, rfl, _, rfl, iteD (fun _ => ?_) (fun _ => ?_)⟩
      · refine ⟨_, rfl, _, _, rfl, rfl, size_ok (by show 1 + (c :: r).length ≤ _; rw [List.length_cons]; omega), _, rfl, _, _, rfl, int_digs can, (by show (c :: r).length ≤ 640; rw [List.length_cons]; omega), _, rfl, size_ok (by show 2 ≤ 16000000; decide), fun a ha => ?_⟩
        obtain ⟨f1, f2⟩ := fresh ka pa ha
        have es := shut_neg can n48
        refine hw a _ (.int (-((NumText.digitsVal (c :: r) : Nat) : Int))) _ ?_ (.int _) (fun _ => ⟨_, can, .inr ⟨n48, rfl⟩⟩) (by rw [es]; simp only [List.length_cons]; omega) f1 f2 (ka.grow ha) (pa.grow ha)
        rw [es, upd_same, lit_minus, mk_add]
        rfl
      · refine ⟨_, rfl, _, rfl, _, _, rfl, int_digs can, (by show (c :: r).length ≤ 640; rw [List.length_cons]; omega), size_ok (by show 2 ≤ 16000000; decide), fun a ha => ?_⟩
        obtain ⟨f1, f2⟩ := fresh ka pa ha
        have es := shut_pos can
        refine hw a _ (.int ((NumText.digitsVal (c :: r) : Nat) : Int)) _ ?_ (.int _) (fun _ => ⟨_, can, .inl rfl⟩) (by rw [es]; simp only [List.length_cons]; omega) f1 f2 (ka.grow ha) (pa.grow ha)
        rw [es, upd_same]
end
end K93
set_option Elab.async false
set_option linter.all false
set_option maxRecDepth 100000
set_option maxHeartbeats 4000000
set_option pp.maxSteps 3000
/-! _law_value: a text and what it tells -/
namespace K93
open PySem PySem.Spec PyProof.Rows L2 He He2 M93
/-- words at lw, rows at lr: what stands since H0 -/
structure VI (H0 : Hp) (p u lw lr : Addr) (n : Nat) (H : Hp) (ws : List Cs) (l : List (Addr × List PyData)) : Prop where
  keep : Keep p H0 H
  pool : Pool H p u n
  hw : H lw = some (.lst (ws.map fun c => V.str (M93.mk c)))
  hr : H lr = some (.lst (l.map fun e => V.ref e.1))
  rows : ∀ e ∈ l, ∃ xs, H e.1 = some (.lst xs) ∧ TpAll H xs e.2
  nod : (p :: u :: lw :: lr :: l.map (·.1)).Nodup
  nw : H0 lw = none
  nr : H0 lr = none
  new : ∀ e ∈ l, H0 e.1 = none
  few : ∀ w ∈ ws, w.length ≤ 42
namespace VI
variable {H0 : Hp} {p u lw lr : Addr} {n : Nat} {H : Hp} {ws : List Cs} {l : List (Addr × List PyData)}
theorem nod' (h : VI H0 p u lw lr n H ws l) : p ≠ u ∧ p ≠ lw ∧ p ≠ lr ∧ u ≠ lw ∧ u ≠ lr ∧ lw ≠ lr ∧ (∀ e ∈ l, e.1 ≠ p ∧ e.1 ≠ u ∧ e.1 ≠ lw ∧ e.1 ≠ lr) ∧ (l.map (·.1)).Nodup := by
  have z := h.nod
  simp only [List.nodup_cons, List.mem_cons, not_or] at z
  obtain ⟨⟨a1, a2, a3, a4⟩, ⟨b1, b2, b3⟩, ⟨c1, c2⟩, d1, d2⟩ := z
  refine ⟨a1, a2, a3, b1, b2, c1, fun e he => ?_, d2⟩
  have he' : e.1 ∈ l.map (·.1) := List.mem_map_of_mem he
  exact ⟨fun q => a4 (q ▸ he'), fun q => b3 (q ▸ he'), fun q => c2 (q ▸ he'), fun q => d1 (q ▸ he')⟩
theorem take {H' : Hp} {n' : Nat} (h : VI H0 p u lw lr n H ws l) (k : Keep p H H') (q : Pool H' p u n') : VI H0 p u lw lr n' H' ws l := by
  obtain ⟨a1, a2, a3, a4, a5, a6, a7, a8⟩ := h.nod'
  refine ⟨h.keep.trans k, q, k _ _ (Ne.symm a2) h.hw, k _ _ (Ne.symm a3) h.hr, fun e he => ?_, h.nod, h.nw, h.nr, h.new, h.few⟩
  obtain ⟨xs, e1, e2⟩ := h.rows e he
  exact ⟨xs, k _ _ (a7 e he).1 e1, e2.up (k.tups h.pool.tups)⟩
theorem grow {a : Addr} {o : HO} (h : VI H0 p u lw lr n H ws l) (ha : H a = none) : VI H0 p u lw lr n (upd H a o) ws l := by
  refine ⟨h.keep.grow ha, h.pool.grow ha, by rw [upd_ne (ne_of_none h.hw ha)]; exact h.hw, by rw [upd_ne (ne_of_none h.hr ha)]; exact h.hr, fun e he => ?_, h.nod, h.nw, h.nr, h.new, h.few⟩
  obtain ⟨xs, e1, e2⟩ := h.rows e he
  exact ⟨xs, by rw [upd_ne (ne_of_none e1 ha)]; exact e1, e2.up (Tups.upd (none_tup ha))⟩
theorem up {n' : Nat} (h : VI H0 p u lw lr n H ws l) (k : n ≤ n') : VI H0 p u lw lr n' H ws l := ⟨h.keep, h.pool.mono k, h.hw, h.hr, h.rows, h.nod, h.nw, h.nr, h.new, h.few⟩
theorem hr' {a : Addr} {r : List PyData} (h : VI H0 p u lw lr n H ws (l ++ [(a, r)])) : H lr = some (.lst ((l.map fun e => V.ref e.1) ++ [.ref a])) := by
  rw [h.hr, List.map_append]
  rfl
theorem pool_at (h : Pool H p u n) {a : Addr} {o : HO} (h1 : a ≠ p) (h2 : a ≠ u) : Pool (upd H a o) p u n := by
  obtain ⟨cells, i, left, m, tot, g1, g2, g3⟩ := h
  exact ⟨cells, i, left, m, tot, by rw [upd_ne (Ne.symm h1)]; exact g1, by rw [upd_ne (Ne.symm h2)]; exact g2, g3⟩
theorem addw {w : Cs} (h : VI H0 p u lw lr n H ws l) (hl : w.length ≤ 42) : VI H0 p u lw lr n (upd H lw (.lst ((ws.map fun c => V.str (M93.mk c)) ++ [.str (M93.mk w)]))) (ws ++ [w]) l := by
  obtain ⟨a1, a2, a3, a4, a5, a6, a7, a8⟩ := h.nod'
  refine ⟨h.keep.own h.nw, pool_at h.pool (Ne.symm a2) (Ne.symm a4), ?_, by rw [upd_ne (Ne.symm a6)]; exact h.hr, fun e he => ?_, h.nod, h.nw, h.nr, h.new, ?_⟩
  · rw [upd_same, List.map_append]
    rfl
  · obtain ⟨xs, e1, e2⟩ := h.rows e he
    exact ⟨xs, by rw [upd_ne (a7 e he).2.2.1]; exact e1, e2.up (Tups.upd (lst_tup h.hw))⟩
  · intro z hz
    rcases List.mem_append.mp hz with q | q
    · exact h.few z q
    · rw [List.mem_singleton.mp q]
      exact hl
theorem push {a : Addr} (h : VI H0 p u lw lr n H ws l) (ha : H a = none) : VI H0 p u lw lr n (upd (upd H a (.lst [])) lr (.lst ((l.map fun e => V.ref e.1) ++ [.ref a]))) ws (l ++ [(a, [])]) := by
  obtain ⟨a1, a2, a3, a4, a5, a6, a7, a8⟩ := h.nod'
  have hap := h.pool.ne ha
  have hau : a ≠ u := by
    obtain ⟨cells, i, left, m, tot, g1, g2, g3⟩ := h.pool
    exact fun q => by rw [q, g2] at ha; cases ha
  have haw : a ≠ lw := fun q => by rw [q, h.hw] at ha; cases ha
  have har : a ≠ lr := fun q => by rw [q, h.hr] at ha; cases ha
  have hal : ∀ e ∈ l, e.1 ≠ a := fun e he q => by
    obtain ⟨xs, e1, _⟩ := h.rows e he
    rw [q, ha] at e1
    cases e1
  have h1 := h.grow (o := .lst []) ha
  have hr1 : upd H a (.lst []) lr = some (.lst (l.map fun e => V.ref e.1)) := h1.hr
  have up : Tups (upd H a (.lst [])) (upd (upd H a (.lst [])) lr (.lst ((l.map fun e => V.ref e.1) ++ [.ref a]))) := Tups.upd (lst_tup hr1)
  refine ⟨h1.keep.own h.nr, pool_at h1.pool (Ne.symm a3) (Ne.symm a5), by rw [upd_ne a6]; exact h1.hw, ?_, ?_, ?_, h.nw, h.nr, ?_, h.few⟩
  · rw [upd_same, List.map_append]
    rfl
  · intro e he
    rcases List.mem_append.mp he with q | q
    · obtain ⟨xs, e1, e2⟩ := h1.rows e q
      exact ⟨xs, by rw [upd_ne (a7 e q).2.2.2]; exact e1, e2.up up⟩
    · rw [List.mem_singleton.mp q]
      exact ⟨[], by rw [upd_ne har]; exact upd_same, .nil⟩
  · have z := h.nod
    rw [List.map_append]
    show ((p :: u :: lw :: lr :: l.map (·.1)) ++ [a]).Nodup
    refine List.nodup_append.mpr ⟨z, by simp, fun x hx y hy => ?_⟩
    rw [List.mem_singleton.mp hy]
    simp only [List.mem_cons] at hx
    rcases hx with q | q | q | q | q
    · rw [q]; exact Ne.symm hap
    · rw [q]; exact Ne.symm hau
    · rw [q]; exact Ne.symm haw
    · rw [q]; exact Ne.symm har
    · obtain ⟨e, he, e1⟩ := List.mem_map.mp q
      rw [← e1]
      exact hal e he
  · intro e he
    rcases List.mem_append.mp he with q | q
    · exact h.new e q
    · rw [List.mem_singleton.mp q]
      cases e0 : H0 a with
      | none => rfl
      | some o =>
        have := h.keep a o hap e0
        rw [ha] at this
        cases this
theorem pop {e : Addr × List PyData} (h : VI H0 p u lw lr n H ws (l ++ [e])) : VI H0 p u lw lr n (upd H lr (.lst (l.map fun e => V.ref e.1))) ws l := by
  obtain ⟨a1, a2, a3, a4, a5, a6, a7, a8⟩ := h.nod'
  refine ⟨h.keep.own h.nr, pool_at h.pool (Ne.symm a3) (Ne.symm a5), by rw [upd_ne a6]; exact h.hw, upd_same, fun e he => ?_, ?_, h.nw, h.nr, fun e he => h.new e (List.mem_append_left _ he), h.few⟩
  · have he' := List.mem_append_left [e] he
    obtain ⟨xs, e1, e2⟩ := h.rows _ (List.mem_append_left _ he)
    exact ⟨xs, by rw [upd_ne (a7 _ (List.mem_append_left _ he)).2.2.2]; exact e1, e2.up (Tups.upd (lst_tup h.hr))⟩
  · have z := h.nod
    rw [List.map_append] at z
    have z : ((p :: u :: lw :: lr :: l.map (·.1)) ++ [e.1]).Nodup := z
    exact (List.nodup_append.mp z).1
theorem addv {a : Addr} {r : List PyData} {xs : List V} {v : V} {d : PyData} (h : VI H0 p u lw lr n H ws (l ++ [(a, r)])) (hxs : H a = some (.lst xs)) (tp : TpAll H xs r) (tv : Tp H v d) :
    VI H0 p u lw lr n (upd H a (.lst (xs ++ [v]))) ws (l ++ [(a, r ++ [d])]) := by
  obtain ⟨a1, a2, a3, a4, a5, a6, a7, a8⟩ := h.nod'
  have ha := a7 (a, r) (List.mem_append_right _ (List.mem_singleton.mpr rfl))
  have nal : ∀ e ∈ l, e.1 ≠ a := fun e he q => by
    rw [List.map_append] at a8
    exact (List.nodup_append.mp a8).2.2 e.1 (List.mem_map_of_mem he) a (by simp) q
  have up : Tups H (upd H a (.lst (xs ++ [v]))) := Tups.upd (lst_tup hxs)
  have em : ((l ++ [(a, r ++ [d])]).map fun e => e.1) = (l ++ [(a, r)]).map fun e => e.1 := by simp
  refine ⟨h.keep.own (h.new (a, r) (List.mem_append_right _ (List.mem_singleton.mpr rfl))), pool_at h.pool ha.1 ha.2.1, by rw [upd_ne (Ne.symm ha.2.2.1)]; exact h.hw, ?_, fun e he => ?_, ?_, h.nw, h.nr, fun e he => ?_, h.few⟩
  · rw [upd_ne (Ne.symm ha.2.2.2), h.hr]
    simp
  · rcases List.mem_append.mp he with q | q
    · obtain ⟨ys, e1, e2⟩ := h.rows e (List.mem_append_left _ q)
      exact ⟨ys, by rw [upd_ne (nal e q)]; exact e1, e2.up up⟩
    · rw [List.mem_singleton.mp q]
      exact ⟨_, upd_same, (tp.snoc tv).up up⟩
  · have z := h.nod
    rw [em]
    exact z
  · rcases List.mem_append.mp he with q | q
    · exact h.new e (List.mem_append_left _ q)
    · rw [List.mem_singleton.mp q]
      exact h.new (a, r) (List.mem_append_right _ (List.mem_singleton.mpr rfl))
end VI
section
variable {w : World} {K : PySem.W.Frag} {mg : Str → Option Value} {base : Heap}
def sp_lvalue : Sp := fun vs H Q _ => ∃ (p u : Addr) (n : Nat), vs = [.ref p] ∧ Pool H p u n ∧ n ≤ 700000000 ∧ ∀ (a : Addr) (v : V) (d : PyData) H', H' a = some (.lst [.str (mk (shut d)), v]) → Tp H' v d → good 0 d → (shut d).length ≤ 5000 → H a = none → a ≠ p → Keep p H H' → Pool H' p u (n + 1000) → Q (.ref a) H'
theorem first_menu (y : V) (hy : y ∈ [V.int 0, .int 1, .int 1, .int 2, .int 3, .int 39, .int 40]) : ∃ z : Int, y = .int z ∧ 0 ≤ z ∧ z ≤ 40 := by
  simp only [List.mem_cons, List.not_mem_nil, or_false] at hy
  rcases hy with h | h | h | h | h | h | h <;> exact ⟨_, h, by decide, by decide⟩
/-- words and rows go together -/
def Plain (ws : List Cs) (l : List (Addr × List PyData)) : Prop := flat ws = txt (l.map (·.2)) ∧ goodRows 0 (l.map (·.2))
theorem Plain.first : ∀ k : Nat, ∀ l : List (Addr × List PyData), l.length = k → (∀ e ∈ l, e.2 = []) → Plain (List.replicate k [40]) l
  | 0, l, h, _ => by
    rw [List.length_eq_zero_iff.mp h]
    exact ⟨rfl, trivial⟩
  | k + 1, l, h, he => by
    have hne : l ≠ [] := by intro e; rw [e] at h; simp at h
    obtain ⟨ini, e, rfl⟩ : ∃ ini e, l = ini ++ [e] := ⟨_, _, (List.dropLast_concat_getLast hne).symm⟩
    have ih := Plain.first k ini (by rw [List.length_append, List.length_singleton] at h; omega) fun d hd => he d (List.mem_append_left _ hd)
    have z := rows_new ih.1 ih.2
    have e2 : e.2 = [] := he e (List.mem_append_right _ (List.mem_singleton.mpr rfl))
    unfold Plain
    rw [List.replicate_succ', List.map_append, List.map_singleton, e2]
    exact z
theorem Plain.open {ws : List Cs} {l : List (Addr × List PyData)} {a : Addr} (h : Plain ws l) : Plain (ws ++ [[40]]) (l ++ [(a, [])]) := by
  have z := rows_new h.1 h.2
  unfold Plain
  rw [List.map_append]
  exact z
theorem Plain.add {ws : List Cs} {l : List (Addr × List PyData)} {a : Addr} {r : List PyData} {d : PyData} (h : Plain ws (l ++ [(a, r)])) (g : ∀ k, good k d) : Plain (ws ++ [shut d]) (l ++ [(a, r ++ [d])]) := by
  unfold Plain at h ⊢
  rw [List.map_append] at h ⊢
  exact rows_add h.1 h.2 (g _)
theorem Plain.close {ws : List Cs} {l : List (Addr × List PyData)} {a b : Addr} {r q : List PyData} (h : Plain ws (l ++ [(a, r)] ++ [(b, q)])) (hl : l.length + 2 ≤ 40) : Plain (ws ++ [[41]]) (l ++ [(a, r ++ [.tuple q])]) := by
  unfold Plain at h ⊢
  rw [List.map_append, List.map_append] at h
  rw [List.map_append]
  exact rows_close h.1 h.2 (by rw [List.length_map]; exact hl)
theorem snoc_of {α : Type} {l : List α} (h : 0 < l.length) : ∃ ini e, l = ini ++ [e] := ⟨_, _, (List.dropLast_concat_getLast (List.length_pos_iff.mp h)).symm⟩
theorem shutAll_le : ∀ r : List PyData, r.length ≤ (shutAll r).length
  | [] => Nat.zero_le _
  | x :: r => by
    have := shutAll_le r
    show r.length + 1 ≤ (shut x ++ (32 :: shutAll r)).length
    rw [List.length_append, List.length_cons]
    omega
theorem txt_le : ∀ (rs : List (List PyData)) (r : List PyData), r ∈ rs → r.length ≤ (txt rs).length
  | r' :: rs, r, h => by
    show r.length ≤ (40 :: 32 :: (shutAll r' ++ txt rs)).length
    rw [List.length_cons, List.length_cons, List.length_append]
    rcases List.mem_cons.mp h with q | q
    · have := shutAll_le r'
      rw [q]
      omega
    · have := txt_le rs r q
      omega
theorem Plain.row_le {ws : List Cs} {l : List (Addr × List PyData)} (h : Plain ws l) (k : (∀ w ∈ ws, w.length ≤ 42) ∧ True) {a : Addr} {r : List PyData} (hr : (a, r) ∈ l) : r.length ≤ ws.length * 43 := by
  have z := flat_len ws 42 k.1
  rw [h.1] at z
  exact Nat.le_trans (txt_le _ r (List.mem_map_of_mem (f := fun e : Addr × List PyData => e.2) hr)) z
theorem VI.few' {H0 : Hp} {p u lw lr : Addr} {n : Nat} {H : Hp} {ws : List Cs} {l : List (Addr × List PyData)} (h : VI H0 p u lw lr n H ws l) : (∀ w ∈ ws, w.length ≤ 42) ∧ True := ⟨h.few, trivial⟩
theorem sum_few : ∀ ws : List Cs, (∀ w ∈ ws, w.length ≤ 42) → (ws.map fun w => w.length).sum ≤ ws.length * 42
  | [], _ => Nat.le_refl _
  | w :: ws, h => by
    have h1 := h w List.mem_cons_self
    have h2 := sum_few ws fun z hz => h z (List.mem_cons_of_mem _ hz)
    rw [List.map_cons, List.sum_cons, List.length_cons]
    omega
theorem lit_lp : Str.ofString "(" = mk [40] := by decide +kernel
theorem ok_lvalue (T : Tx K mg) : Ok w K mg base CX0 5 (ga K "_law_value") ["pool"] sp_lvalue := by
  obtain ⟨fd, F⟩ := T.fn__law_value
  obtain ⟨fd__law_take, G__law_take, b__law_take, k__law_take⟩ := ok_ltake (w := w) (base := base) T
  obtain ⟨fd__law_pick, G__law_pick, b__law_pick, k__law_pick⟩ := ok_lpick (w := w) (base := base) T
  obtain ⟨fd__law_atom, G__law_atom, b__law_atom, k__law_atom⟩ := ok_latom (w := w) (base := base) T
  refine ⟨fd, F.ok sc__law_value (fun vs H Q E h => ?_) (fun cdv A outer s H vs Q E hr h => ?_), F.bindsN fun _ _ _ _ _ _ us hl => match us, hl with | [_], _ => rfl, F.kp⟩
  · obtain ⟨p, u, n, rfl, _⟩ := h
    rfl
  · obtain ⟨p, u, n, rfl, hp, hn, hw⟩ := h
    refine ⟨_, (pss_cons (ps_set (i := 1) sc__law_value.nd rfl (Or.inl rfl) (pe_call G__law_pick (hr.mono (by decide)) rfl T.glo__law_pick k__law_pick b__law_pick .nil pass0 (pa_cons (pv 0) (pa_cons (pe_lst (pa_cons pe_int (pa_cons pe_int (pa_cons pe_int (pa_cons pe_int (pa_cons pe_int (pa_cons pe_int (pa_cons pe_int pa_nil)))))))) pa_nil))))
  (pss_cons (ps_if (pt_cmpR op_eq (pv 1) pe_int (nomark _)) (pss_one (ps_ret (pe_call G__law_atom (hr.mono (by decide)) rfl T.glo__law_atom k__law_atom b__law_atom .nil pass0 (pa_cons (pv 0) pa_nil)))) pss_nil)
  (pss_cons (ps_par (i := 3) (j := 4) rfl sc__law_value.nd rfl rfl (by decide) rfl rfl (pa_cons (pe_lc (own := [("turn", 2)]) rfl sc__law_value.nd (pi_range1 rfl T.free_range (pa_cons (pv 1) pa_nil)) (blkOk_by (own := [("turn", 2)]) (N := ["pool", "first", "turn", "words", "rows", "way", "inner", "atom"]) (sc := defScope s__law_value) (by decide +kernel)) (fun _ _ _ _ _ => (pg_name (i := 2) sc__law_value.nd rfl (Or.inl rfl))) (fun _ _ _ _ _ => pts_nil) (fun _ _ _ _ _ => pe_str)) (pa_cons (pe_lc (own := [("turn", 2)]) rfl sc__law_value.nd (pi_range1 rfl T.free_range (pa_cons (pv 1) pa_nil)) (blkOk_by (own := [("turn", 2)]) (N := ["pool", "first", "turn", "words", "rows", "way", "inner", "atom"]) (sc := defScope s__law_value) (by decide +kernel)) (fun _ _ _ _ _ => (pg_name (i := 2) sc__law_value.nd rfl (Or.inl rfl))) (fun _ _ _ _ _ => pts_nil) (fun _ _ _ _ _ => (pe_lst pa_nil))) pa_nil)) (by rfl))
  (pss_cons (ps_for (passes_of rfl) rfl (pi_range1 rfl T.free_range (pa_cons (pe_call G__law_take (hr.mono (by decide)) rfl T.glo__law_take k__law_take b__law_take .nil pass0 (pa_cons (pv 0) (pa_cons pe_int pa_nil))) pa_nil)) (pg_name (i := 2) sc__law_value.nd rfl (Or.inl rfl)) (pss_cons (ps_set (i := 5) sc__law_value.nd rfl (Or.inl rfl) (pe_call G__law_take (hr.mono (by decide)) rfl T.glo__law_take k__law_take b__law_take .nil pass0 (pa_cons (pv 0) (pa_cons pe_int pa_nil))))
  (pss_one (ps_if (PW.pt (pw_and (pt_cmpR op_eq (pv 5) pe_int (nomark _)) (pw_and1 (pt_cmpR op_lt (pe_callB call_len_seq (by rfl) T.free_len (by decide +kernel) (pa_cons (pv 4) pa_nil)) pe_int (nomark _))))) (pss_cons (ps_expr (pe_bm PySem.F.plainAttrs_list PySem.F.slot_list_append PySem.F.type_list_append mt_append (pv 3) (pa_cons pe_str pa_nil)))
  (pss_one (ps_expr (pe_bm PySem.F.plainAttrs_list PySem.F.slot_list_append PySem.F.type_list_append mt_append (pv 4) (pa_cons (pe_lst pa_nil) pa_nil))))) (pss_one (ps_if (PW.pt (pw_and (pt_cmpR op_eq (pv 5) pe_int (nomark _)) (pw_and1 (pt_cmpR op_gt (pe_callB call_len_seq (by rfl) T.free_len (by decide +kernel) (pa_cons (pv 4) pa_nil)) pe_int (nomark _))))) (pss_cons (ps_expr (pe_bm PySem.F.plainAttrs_list PySem.F.slot_list_append PySem.F.type_list_append mt_append (pv 3) (pa_cons pe_str pa_nil)))
  (pss_cons (ps_set (i := 6) sc__law_value.nd rfl (Or.inl rfl) (pe_callTy call_tuple_of (by rfl) T.free_tuple (by decide +kernel) (pa_cons (pe_bm0 PySem.F.plainAttrs_list PySem.F.slot_list_pop PySem.F.type_list_pop mt_pop (pv 4)) pa_nil)))
  (pss_one (ps_expr (pe_bm PySem.F.plainAttrs_list PySem.F.slot_list_append PySem.F.type_list_append mt_append (pe_ix ix_list (pv 4) (pe_un un_neg pe_int) (fun _ _ => rfl)) (pa_cons (pv 6) pa_nil)))))) (pss_cons (ps_set (i := 7) sc__law_value.nd rfl (Or.inl rfl) (pe_call G__law_atom (hr.mono (by decide)) rfl T.glo__law_atom k__law_atom b__law_atom .nil pass0 (pa_cons (pv 0) pa_nil)))
  (pss_cons (ps_expr (pe_bm PySem.F.plainAttrs_list PySem.F.slot_list_append PySem.F.type_list_append mt_append (pv 3) (pa_cons (pe_ix ix_list (pv 7) pe_int (fun _ _ => rfl)) pa_nil)))
  (pss_one (ps_expr (pe_bm PySem.F.plainAttrs_list PySem.F.slot_list_append PySem.F.type_list_append mt_append (pe_ix ix_list (pv 4) (pe_un un_neg pe_int) (fun _ _ => rfl)) (pa_cons (pe_ix ix_list (pv 7) pe_int (fun _ _ => rfl)) pa_nil))))))))))))
  (pss_cons (ps_for (passes_of rfl) rfl (pi_range1 rfl T.free_range (pa_cons (pe_op op_sub (pe_callB call_len_seq (by rfl) T.free_len (by decide +kernel) (pa_cons (pv 4) pa_nil)) pe_int) pa_nil)) (pg_name (i := 2) sc__law_value.nd rfl (Or.inl rfl)) (pss_cons (ps_expr (pe_bm PySem.F.plainAttrs_list PySem.F.slot_list_append PySem.F.type_list_append mt_append (pv 3) (pa_cons pe_str pa_nil)))
  (pss_cons (ps_set (i := 6) sc__law_value.nd rfl (Or.inl rfl) (pe_callTy call_tuple_of (by rfl) T.free_tuple (by decide +kernel) (pa_cons (pe_bm0 PySem.F.plainAttrs_list PySem.F.slot_list_pop PySem.F.type_list_pop mt_pop (pv 4)) pa_nil)))
  (pss_one (ps_expr (pe_bm PySem.F.plainAttrs_list PySem.F.slot_list_append PySem.F.type_list_append mt_append (pe_ix ix_list (pv 4) (pe_un un_neg pe_int) (fun _ _ => rfl)) (pa_cons (pv 6) pa_nil)))))))
  (pss_one (ps_ret (pe_lst (pa_cons (pe_join pe_str (pe_op op_cat (pv 3) (pe_lst (pa_cons pe_str pa_nil)))) (pa_cons (pe_callTy call_tuple_of (by rfl) T.free_tuple (by decide +kernel) (pa_cons (pe_ix ix_list (pv 4) pe_int (fun _ _ => rfl)) pa_nil)) pa_nil)))))))))), ?_⟩
    refine ⟨_, rfl, size_ok (by decide), fun l0 hl0 => ?_⟩
    refine ⟨p, u, l0, n, _, rfl, hp.grow hl0, by omega, hp.ne hl0, upd_same, by simp, by decide, fun y H1 hy k1 hp1 => ?_⟩
    have k1 : Keep p H H1 := ((Keep.refl p H).grow hl0).trans k1
    obtain ⟨f, rfl, f0, f40⟩ := first_menu y hy
    have fresh : ∀ {H' : Hp} {a : Addr} {n' : Nat}, Keep p H H' → Pool H' p u n' → H' a = none → H a = none := fun {H' a n'} k q ha => by
      have q1 := q.ne ha
      cases e : H a with
      | none => rfl
      | some o => rw [k a o q1 e] at ha; cases ha
    refine ⟨_, rfl, rfl, _, rfl, iteD (fun _ => ?_) (fun cf => ?_)⟩
    · refine ⟨_, rfl, p, u, _, rfl, hp1, by omega, fun a v d H2 h1 h2 h3 h4 h5 h6 k2 hp2 => ?_⟩
      refine hw a v d H2 h1 h2 (h3 0) (by omega) ?_ h6 (k1.trans k2) (hp2.mono (by omega))
      cases e : H a with
      | none => rfl
      | some o => rw [k1 a o h6 e] at h5; cases h5
    have f1 : 1 ≤ f := by
      have cf : ¬ V.int f = V.int 0 := cf
      have : f ≠ 0 := fun q => cf (by rw [q])
      omega
    obtain ⟨m, rfl⟩ : ∃ m : Nat, f = (m : Int) := ⟨f.toNat, (Int.toNat_of_nonneg f0).symm⟩
    -- words
    refine ⟨_, rfl, _, rfl, by omega, by omega, fun lw hlw => ?_⟩
    have lwp := hp1.ne hlw
    have lwu : lw ≠ u := hp1.ne_u hlw
    refine lc_it walk_range (fun i H' => H' lw = some (.lst ((List.replicate i [40]).map fun c => V.str (mk c))) ∧ Keep p H H' ∧ Pool H' p u (n + 1))
      ⟨upd_same, k1.grow hlw, hp1.grow hlw⟩ (fun _ _ _ _ => trivial) ?_ ?_
    · rintro i y Ha Hb hi ⟨g1, g2, g3⟩ ⟨rfl, rfl⟩
      refine ⟨rfl, ?_⟩
      dsimp only [tYes]
      refine iteT ⟨_, g1, ?_, ?_, ?_, ?_⟩
      · rw [List.length_map, List.length_replicate, sizeLine_eq]
        omega
      · rw [upd_same, List.replicate_succ', List.map_append, lit_lp]
        rfl
      · exact g2.own (fresh k1 hp1 hlw)
      · exact VI.pool_at g3 lwp lwu
    rintro H2 ⟨hw2, k2, hp2⟩
    -- rows
    refine ⟨_, rfl, _, rfl, by omega, by omega, fun lr hlr => ?_⟩
    have base0 : VI H p u lw lr (n + 1) (upd H2 lr (.lst [])) (List.replicate m [40]) [] := by
      have lrp := hp2.ne hlr
      have lru := hp2.ne_u hlr
      have lrw : lr ≠ lw := fun q => by rw [q, hw2] at hlr; cases hlr
      refine ⟨k2.grow hlr, hp2.grow hlr, by rw [upd_ne (Ne.symm lrw)]; exact hw2, upd_same, by simp, ?_, fresh k1 hp1 hlw, fresh k2 hp2 hlr, by simp, fun z hz => ?_⟩
      · simp only [List.map_nil, List.nodup_cons, List.mem_cons, List.not_mem_nil, or_false, not_or, not_false_eq_true, List.nodup_nil, and_true]
        exact ⟨⟨hp2.pu, Ne.symm lwp, Ne.symm lrp⟩, ⟨Ne.symm lwu, Ne.symm lru⟩, Ne.symm lrw⟩
      · rw [(List.mem_replicate.mp hz).2]
        decide
    refine lc_it walk_range (fun i H' => ∃ l : List (Addr × List PyData), l.length = i ∧ (∀ e ∈ l, e.2 = []) ∧ VI H p u lw lr (n + 1) H' (List.replicate m [40]) l)
      ⟨[], rfl, by simp, base0⟩ (fun _ _ _ _ => trivial) ?_ ?_
    · rintro i y Ha Hb hi ⟨l, g1, g2, g3⟩ ⟨rfl, rfl⟩
      refine ⟨rfl, ?_⟩
      dsimp only [tYes]
      refine iteT ⟨size_ok (by decide), fun a ha => ?_⟩
      refine ⟨_, (g3.grow ha).hr, ?_, l ++ [(a, [])], ?_, ?_, g3.push ha⟩
      · rw [List.length_map, sizeLine_eq]
        omega
      · rw [List.length_append, g1]
        rfl
      · intro e he
        rcases List.mem_append.mp he with q | q
        · exact g2 e q
        · rw [List.mem_singleton.mp q]
    rintro H3 ⟨l, hl, he, v3⟩
    have hl : l.length = m := by
      rw [hl]
      show ((m : Int)).toNat = m
      omega
    have pl3 := Plain.first m l hl he
    refine ⟨_, _, rfl, ?_⟩
    refine ⟨_, rfl, p, u, _, _, rfl, v3.pool, by omega, by decide, fun j Hj j0 j20 kj pj => ⟨j, rfl, by omega, by omega, ?_⟩⟩
    have j20 := j20 (by decide)
    refine for_it walk_range (fun i σ H' => ∃ (tv wv iv av : Option V) (ws : List Cs) (l : List (Addr × List PyData)), σ = [some (.ref p), some (.int (m : Int)), tv, some (.ref lw), some (.ref lr), wv, iv, av] ∧ VI H p u lw lr (n + 2 + 41 * i) H' ws l ∧ Plain ws l ∧ 1 ≤ l.length ∧ l.length ≤ 40 ∧ ws.length ≤ 40 + i)
      ⟨none, none, none, none, _, l, rfl, v3.take kj pj, pl3, by omega, by omega, by rw [List.length_replicate]; omega⟩ (fun _ _ _ _ _ => trivial) ?_ ?_
    · rintro i y σ Ha Hb hi ⟨tv, wv, iv, av, ws, l, rfl, v, pl, l1, l40, wl⟩ ⟨rfl, rfl⟩
      have hi2 : i < 20 := by omega
      refine ⟨_, rfl, p, u, _, _, rfl, v.pool, by omega, by decide, fun way Hc way0 way6 kc pc => ?_⟩
      have v := v.take kc pc
      clear kc pc
      generalize Hc = Ha at v ⊢
      have wsz : (ws.map fun c => V.str (M93.mk c)).length < sizeLine := by
        rw [List.length_map, sizeLine_eq]
        omega
      refine ⟨_, rfl, rfl, _, rfl, iteD (fun _ => ⟨_, rfl, lr, _, rfl, .inl (SqL.of v.hr), _, _, rfl, rfl, _, rfl, iteD (fun c40 => ?_) (fun _ => ?_)⟩) (fun _ => iteF ?_)⟩
      · -- a new row
        have c40 : ((l.map fun e => V.ref e.1).length : Int) < 40 := c40
        rw [List.length_map] at c40
        have w1 := v.addw (w := [40]) (by decide)
        refine ⟨_, rfl, .inl ⟨rfl, _, SqL.of v.hw⟩, lw, _, _, rfl, rfl, v.hw, wsz, ?_⟩
        rw [lit_lp]
        refine ⟨_, rfl, .inl ⟨rfl, _, SqL.of w1.hr⟩, size_ok (by decide), fun a ha => ?_⟩
        refine ⟨lr, _, _, rfl, rfl, (w1.grow ha).hr, by rw [List.length_map, sizeLine_eq]; omega, ?_⟩
        exact ⟨_, _, _, _, _, _, rfl, (w1.push ha).up (by omega), pl.open, by simp, by rw [List.length_append, List.length_singleton]; omega, by rw [List.length_append, List.length_singleton]; omega⟩
      all_goals
        refine ⟨_, rfl, rfl, _, rfl, iteD (fun _ => ⟨_, rfl, lr, _, rfl, .inl (SqL.of v.hr), _, _, rfl, rfl, _, rfl, iteD (fun c2 => ?_) (fun _ => ?_)⟩) (fun _ => iteF ?_)⟩
        · -- a row closed
          have c2 : ((l.map fun e => V.ref e.1).length : Int) > 1 := c2
          rw [List.length_map] at c2
          -- words.append(")"); inner = tuple(rows.pop()); rows[-1].append(inner)
          obtain ⟨l1', e2, rfl⟩ := snoc_of (l := l) (by omega)
          obtain ⟨b, q⟩ := e2
          obtain ⟨l2, e1, rfl⟩ := snoc_of (l := l1') (by simp at c2; omega)
          obtain ⟨a, r⟩ := e1
          have len2 : (l2 ++ [(a, r)] ++ [(b, q)]).length = l2.length + 2 := by simp
          have w1 := v.addw (w := [41]) (by decide)
          refine ⟨_, rfl, .inl ⟨rfl, _, SqL.of v.hw⟩, lw, _, _, rfl, rfl, v.hw, ?_, ?_⟩
          · rw [List.length_map, sizeLine_eq]
            omega
          rw [lit_close]
          have hr1 := w1.hr'
          refine ⟨_, rfl, .inl ⟨rfl, _, SqL.of hr1⟩, lr, _, .ref b, rfl, rfl, hr1, by simp, ?_⟩
          rw [List.dropLast_concat]
          have w2 := w1.pop
          have hb : ∃ ys, upd (upd Ha lw (.lst ((ws.map fun c => V.str (M93.mk c)) ++ [.str (M93.mk [41])]))) lr (.lst ((l2 ++ [(a, r)]).map fun e => V.ref e.1)) b = some (.lst ys) ∧ TpAll (upd (upd Ha lw (.lst ((ws.map fun c => V.str (M93.mk c)) ++ [.str (M93.mk [41])]))) lr (.lst ((l2 ++ [(a, r)]).map fun e => V.ref e.1))) ys q := by
            obtain ⟨ys, g1, g2⟩ := w1.rows (b, q) (by simp)
            exact ⟨ys, by rw [upd_ne (w1.nod'.2.2.2.2.2.2.1 (b, q) (by simp)).2.2.2]; exact g1, g2.up (Tups.upd (lst_tup w1.hr))⟩
          obtain ⟨ys, g1, g2⟩ := hb
          refine ⟨b, ys, rfl, .inl ⟨SqL.of g1, fun t ht => ?_⟩⟩
          have w3 := w2.grow (o := .tup ys) ht
          obtain ⟨xs, x1, x2⟩ := w3.rows (a, r) (by simp)
          have w4 := w3.addv x1 x2 (.tup (ds := q) upd_same (g2.up (Tups.upd (none_tup ht))))
          have pl2 := pl.close (by omega)
          have hr3 := w3.hr'
          have xl : xs.length ≤ 10000 := by
            have z1 : xs.length = r.length := x2.len
            have z2 := pl.row_le v.few' (a := a) (r := r) (by simp)
            omega
          refine ⟨_, rfl, _, rfl, _, _, _, _, rfl, rfl, SqL.of hr3, atI_last _ _, .inl ⟨rfl, _, SqL.of x1⟩, _, rfl, a, xs, _, rfl, rfl, x1, ?_, ?_⟩
          · rw [sizeLine_eq]
            omega
          exact ⟨_, _, _, _, _, _, rfl, w4.up (by omega), pl2, by simp, by simp at l40 ⊢; omega, by rw [List.length_append, List.length_singleton]; omega⟩
        all_goals
          refine ⟨_, rfl, p, u, _, rfl, v.pool, by omega, fun a vv d Hd ha tp gd ld hn ap kd pd => ?_⟩
          have hlw : a ≠ lw := fun q => by rw [q, v.hw] at hn; cases hn
          have hrw : a ≠ lr := fun q => by rw [q, v.hr] at hn; cases hn
          have v2 := v.take kd pd
          have w1 := v2.addw ld
          refine ⟨_, rfl, .inl ⟨rfl, _, SqL.of v2.hw⟩, _, rfl, a, _, _, _, rfl, rfl, SqL.of ha, rfl, lw, _, _, rfl, rfl, v2.hw, wsz, ?_⟩
          obtain ⟨l1', e2, rfl⟩ := snoc_of (l := l) (by omega)
          obtain ⟨b, q⟩ := e2
          have hr1 := w1.hr'
          obtain ⟨xs, x1, x2⟩ := w1.rows (b, q) (by simp)
          have xl : xs.length ≤ 10000 := by
            have z1 : xs.length = q.length := x2.len
            have z2 := pl.row_le v.few' (a := b) (r := q) (by simp)
            omega
          refine ⟨_, rfl, _, rfl, _, _, _, _, rfl, rfl, SqL.of hr1, atI_last _ _, .inl ⟨rfl, _, SqL.of x1⟩, _, rfl, a, _, _, _, rfl, rfl, SqL.of (by rw [upd_ne hlw]; exact ha), rfl, b, xs, _, rfl, rfl, x1, ?_, ?_⟩
          · rw [sizeLine_eq]
            omega
          exact ⟨_, _, _, _, _, _, rfl, (w1.addv x1 x2 (tp.up (Tups.upd (lst_tup v2.hw)))).up (by omega), pl.add gd, by simp, by simp at l40 ⊢; omega, by rw [List.length_append, List.length_singleton]; omega⟩
    · rintro σ H4 ⟨tv, wv, iv, av, ws, l, rfl, v, pl, l1, l40, wl⟩
      have wl : ws.length ≤ 60 := by omega
      have v := v.up (show n + 2 + 41 * j.toNat ≤ n + 1000 by omega)
      refine ⟨_, rfl, lr, _, rfl, .inl (SqL.of v.hr), _, _, rfl, rfl, _, rfl, ?_, ?_, ?_⟩
      · rw [List.length_map]
        omega
      · rw [List.length_map]
        omega
      rw [List.length_map]
      refine for_it walk_range (fun i σ H' => ∃ (tv wv iv av : Option V) (ws : List Cs) (l' : List (Addr × List PyData)), σ = [some (.ref p), some (.int (m : Int)), tv, some (.ref lw), some (.ref lr), wv, iv, av] ∧ VI H p u lw lr (n + 1000) H' ws l' ∧ Plain ws l' ∧ l'.length + i = l.length ∧ ws.length ≤ 60 + i)
        ⟨_, _, _, _, ws, l, rfl, v, pl, rfl, wl⟩ (fun _ _ _ _ _ => trivial) ?_ ?_
      · clear wl pl v
        rintro i y σ Hb Ha hi ⟨tv, wv, iv, av, ws, l', rfl, v, pl, ll, wl⟩ ⟨rfl, rfl⟩
        have hi : i + 1 < l.length := by omega
        have l40 : l'.length ≤ 40 := by omega
        have c2 : 1 < l'.length := by omega
        clear hi
        generalize hgl : l.length = L at *
        clear hgl
        rename_i l0
        clear l0
        -- words.append(")"); inner = tuple(rows.pop()); rows[-1].append(inner)
        obtain ⟨l1', e2, rfl⟩ := snoc_of (l := l') (by omega)
        obtain ⟨b, q⟩ := e2
        obtain ⟨l2, e1, rfl⟩ := snoc_of (l := l1') (by simp at c2; omega)
        obtain ⟨a, r⟩ := e1
        have len2 : (l2 ++ [(a, r)] ++ [(b, q)]).length = l2.length + 2 := by simp
        have w1 := v.addw (w := [41]) (by decide)
        refine ⟨_, rfl, .inl ⟨rfl, _, SqL.of v.hw⟩, lw, _, _, rfl, rfl, v.hw, ?_, ?_⟩
        · rw [List.length_map, sizeLine_eq]
          omega
        rw [lit_close]
        have hr1 := w1.hr'
        refine ⟨_, rfl, .inl ⟨rfl, _, SqL.of hr1⟩, lr, _, .ref b, rfl, rfl, hr1, by simp, ?_⟩
        rw [List.dropLast_concat]
        have w2 := w1.pop
        have hb : ∃ ys, upd (upd Ha lw (.lst ((ws.map fun c => V.str (M93.mk c)) ++ [.str (M93.mk [41])]))) lr (.lst ((l2 ++ [(a, r)]).map fun e => V.ref e.1)) b = some (.lst ys) ∧ TpAll (upd (upd Ha lw (.lst ((ws.map fun c => V.str (M93.mk c)) ++ [.str (M93.mk [41])]))) lr (.lst ((l2 ++ [(a, r)]).map fun e => V.ref e.1))) ys q := by
          obtain ⟨ys, g1, g2⟩ := w1.rows (b, q) (by simp)
          exact ⟨ys, by rw [upd_ne (w1.nod'.2.2.2.2.2.2.1 (b, q) (by simp)).2.2.2]; exact g1, g2.up (Tups.upd (lst_tup w1.hr))⟩
        obtain ⟨ys, g1, g2⟩ := hb
        refine ⟨b, ys, rfl, .inl ⟨SqL.of g1, fun t ht => ?_⟩⟩
        have w3 := w2.grow (o := .tup ys) ht
        obtain ⟨xs, x1, x2⟩ := w3.rows (a, r) (by simp)
        have w4 := w3.addv x1 x2 (.tup (ds := q) upd_same (g2.up (Tups.upd (none_tup ht))))
        have pl2 := pl.close (by omega)
        have hr3 := w3.hr'
        have xl : xs.length ≤ 10000 := by
          have z1 : xs.length = r.length := x2.len
          have z2 := pl.row_le v.few' (a := a) (r := r) (by simp)
          omega
        refine ⟨_, rfl, _, rfl, _, _, _, _, rfl, rfl, SqL.of hr3, atI_last _ _, .inl ⟨rfl, _, SqL.of x1⟩, _, rfl, a, xs, _, rfl, rfl, x1, ?_, ?_⟩
        · rw [sizeLine_eq]
          omega
        exact ⟨_, _, _, _, _, _, rfl, w4, pl2, by simp at ll ⊢; omega, by rw [List.length_append, List.length_singleton]; omega⟩
      · rintro σ H5 ⟨tv, wv, iv, av, ws, l', rfl, v, pl, ll, wl⟩
        have wl : ws.length ≤ 99 := by omega
        have l1 : l'.length = 1 := by omega
        obtain ⟨e, rfl⟩ := List.length_eq_one_iff.mp l1
        obtain ⟨a, r⟩ := e
        have ends : TL.joinL [32] (ws ++ [[41]]) = shut (.tuple r) := rows_end pl.1
        have slen : (shut (.tuple r)).length ≤ 5000 := by
          have z := flat_len ws 42 v.few
          rw [← ends, join_flat, List.length_append, List.length_singleton]
          omega
        have gr : good 0 (.tuple r) := by
          have z := pl.2
          simp only [List.map_cons, List.map_nil, goodRows, and_true] at z
          exact ⟨by decide, z⟩
        refine ⟨⟨_, rfl⟩, _, rfl, size_ok (by show 1 ≤ 16000000; decide), fun b hb => ?_⟩
        have v1 := v.grow (o := .lst [.str (Str.ofString ")")]) hb
        refine ⟨lw, b, _, _, rfl, rfl, v1.hw, upd_same, ?_, fun q hq => ?_⟩
        · rw [List.length_map, sizeLine_eq]
          show ws.length + 1 ≤ _
          omega
        have v2 := v1.grow (o := .lst ((ws.map fun c => V.str (M93.mk c)) ++ [.str (Str.ofString ")")])) hq
        refine ⟨_, q, ws.map mk ++ [mk [41]], rfl, rfl, .inl (SqL.of ?_), ?_, ?_⟩
        · rw [upd_same, List.map_append, List.map_map, lit_close]
          rfl
        · have z := sum_few ws v.few
          rw [List.map_append, List.map_map, List.sum_append, List.length_append, List.length_map]
          have e1 : (Str.ofString " ").length = 1 := by decide +kernel
          rw [e1]
          show (ws.map fun w => w.length).sum + (1 + 0) + (ws.length + 1) * 1 ≤ _
          omega
        obtain ⟨xs, x1, x2⟩ := v2.rows (a, r) (by simp)
        refine ⟨_, rfl, _, _, _, _, rfl, rfl, SqL.of v2.hr, rfl, a, xs, rfl, .inl ⟨SqL.of x1, fun t ht => ?_⟩⟩
        have v3 := v2.grow (o := .tup xs) ht
        refine ⟨size_ok (by show 2 ≤ 16000000; decide), fun x hx => ?_⟩
        have v4 := v3.grow (o := .lst [.str (Txt.join (Str.ofString " ") (ws.map mk ++ [mk [41]])), .ref t]) hx
        have tx : Txt.join (Str.ofString " ") (ws.map mk ++ [mk [41]]) = mk (shut (.tuple r)) := by
          rw [TL.join_eq, ← ends]
          have z := TL.tl_join (Str.ofString " ") (ws.map mk ++ [mk [41]])
          have e1 : TL.tl (Str.ofString " ") = [32] := by decide +kernel
          rw [e1, List.map_append, List.map_map] at z
          have e2 : (ws.map (TL.tl ∘ mk)) = ws := List.map_id'' (fun _ => rfl) ws
          rw [e2] at z
          have z : (Str.join (Str.ofString " ") (ws.map mk ++ [mk [41]])).cps.toList = TL.joinL [32] (ws ++ [[41]]) := z
          rw [← z]
          rfl
        rw [tx] at v4 ⊢
        have xt : x ≠ t := fun q => by rw [q, upd_same] at hx; cases hx
        refine hw x (.ref t) (.tuple r) _ upd_same ?_ gr slen (fresh v3.keep v3.pool hx) (v3.pool.ne hx) v4.keep v4.pool
        refine .tup (xs := xs) ?_ (x2.up ?_)
        · rw [upd_ne (Ne.symm xt)]
          exact upd_same
        · exact (Tups.upd (none_tup ht)).trans (Tups.upd (none_tup hx))
end
end K93
set_option Elab.async false
set_option linter.all false
set_option maxRecDepth 100000
set_option maxHeartbeats 4000000
set_option pp.maxSteps 3000
/-! _law_spoilt: some text -/
namespace K93
open PySem PySem.Spec PyProof.Rows L2 He He2 M93
section
variable {w : World} {K : PySem.W.Frag} {mg : Str → Option Value} {base : Heap}
def sp_spoilt : Sp := fun vs H Q _ => ∃ (p u : Addr) (n : Nat) (s : Cs), vs = [.ref p, .str (mk s)] ∧ Pool H p u n ∧ n ≤ 700000000 ∧ s.length ≤ 10000 ∧ ∀ (s' : Cs) H', s'.length ≤ 40000 → Keep p H H' → Pool H' p u (n + 10) → Q (.str (mk s')) H'
theorem str_mk (z : Str) : z = mk z.cps.toList := rfl
theorem cut_le (s : Cs) (lo hi : Option Int) : (cutS (mk s) lo hi).length ≤ s.length := by
  show (((s.drop (HT.sIx s.length 0 lo)).take (HT.sIx s.length s.length hi - HT.sIx s.length 0 lo)).toArray).size ≤ _
  rw [List.size_toArray, List.length_take, List.length_drop]
  omega
theorem long_menu (y : V) (hy : y ∈ [V.str ⟨(List.replicate 30 (Str.ofString "7").cps).foldl (· ++ ·) #[]⟩, .str ⟨(List.replicate 41 (Str.ofString "( ").cps).foldl (· ++ ·) #[]⟩, .str (Str.ofString "( "), .str (Str.ofString " )"), .str (Str.ofString " none")]) :
    ∃ z : Str, y = .str z ∧ z.length ≤ 100 := by
  simp only [List.mem_cons, List.not_mem_nil, or_false] at hy
  rcases hy with h | h | h | h | h <;> exact ⟨_, h, by decide +kernel⟩
theorem ok_spoilt (T : Tx K mg) : Ok w K mg base CX0 3 (ga K "_law_spoilt") ["pool", "string"] sp_spoilt := by
  obtain ⟨fd, F⟩ := T.fn__law_spoilt
  obtain ⟨fd__law_take, G__law_take, b__law_take, k__law_take⟩ := ok_ltake (w := w) (base := base) T
  obtain ⟨fd__law_pick, G__law_pick, b__law_pick, k__law_pick⟩ := ok_lpick (w := w) (base := base) T
  refine ⟨fd, F.ok sc__law_spoilt (fun vs H Q E h => ?_) (fun cdv A outer s H vs Q E hr h => ?_), F.bindsN fun _ _ _ _ _ _ us hl => match us, hl with | [_, _], _ => rfl, F.kp⟩
  · obtain ⟨p, u, n, s, rfl, _⟩ := h
    rfl
  · obtain ⟨p, u, n, s, rfl, hp, hn, hs, hw⟩ := h
    refine ⟨_, (pss_cons (ps_setLc (i := 2) (own := [("one", 6)]) rfl sc__law_spoilt.nd rfl rfl (sw_true rfl rfl rfl (by decide +kernel)) (pi_range1 rfl T.free_range (pa_cons (pe_callB call_len_str (by rfl) T.free_len (by decide +kernel) (pa_cons (pv 1) pa_nil)) pa_nil)) (blkOk_by (own := [("one", 6)]) (N := ["pool", "string", "spots", "at", "sign", "way", "one"]) (sc := defScope s__law_spoilt) (by decide +kernel)) (fun _ _ _ _ _ => (pg_name (i := 6) sc__law_spoilt.nd rfl (Or.inl rfl))) (fun _ _ _ _ _ => (pts_one (pt_cmpR op_in_sign (pe_ix ix_str (pv 1) (pv 6) (fun _ _ => rfl)) pe_str rfl))) (fun _ _ _ _ _ => (pv 6)))
  (pss_cons (ps_set (i := 3) sc__law_spoilt.nd rfl (Or.inl rfl) (pe_call G__law_take (hr.mono (by decide)) rfl T.glo__law_take k__law_take b__law_take .nil pass0 (pa_cons (pv 0) (pa_cons (pe_op op_add (pe_callB call_len_str (by rfl) T.free_len (by decide +kernel) (pa_cons (pv 1) pa_nil)) pe_int) pa_nil))))
  (C8.pss_cut (ps_if (PW.pt (pw_and (pt_cmpR op_gt (pe_callB call_len_seq (by rfl) T.free_len (by decide +kernel) (pa_cons (pv 2) pa_nil)) pe_int (nomark _)) (pw_and1 (pt_cmpR op_eq (pe_call G__law_take (hr.mono (by decide)) rfl T.glo__law_take k__law_take b__law_take .nil pass0 (pa_cons (pv 0) (pa_cons pe_int pa_nil))) pe_int (nomark _))))) (pss_one (ps_set (i := 3) sc__law_spoilt.nd rfl (Or.inl rfl) (pe_call G__law_pick (hr.mono (by decide)) rfl T.glo__law_pick k__law_pick b__law_pick .nil pass0 (pa_cons (pv 0) (pa_cons (pv 2) pa_nil))))) pss_nil)
  (pss_cons (ps_par (i := 4) (j := 5) rfl sc__law_spoilt.nd rfl rfl (by decide) rfl rfl (pa_cons (pe_call G__law_pick (hr.mono (by decide)) rfl T.glo__law_pick k__law_pick b__law_pick .nil pass0 (pa_cons (pv 0) (pa_cons (pe_callTy (call_list_txt rfl) (by rfl) T.free_list (by decide +kernel) (pa_cons pe_str pa_nil)) pa_nil))) (pa_cons (pe_call G__law_take (hr.mono (by decide)) rfl T.glo__law_take k__law_take b__law_take .nil pass0 (pa_cons (pv 0) (pa_cons pe_int pa_nil))) pa_nil)) (by rfl))
  (pss_cons (ps_if (pt_cmpR op_lt (pv 5) pe_int (nomark _)) (pss_one (ps_ret (pe_op op_add_str (pe_op op_add_str (pe_slice sl_str (pv 1) po_none (po_some (pv 3))) (pv 4)) (pe_slice sl_str (pv 1) (po_some (pv 3)) po_none)))) pss_nil)
  (pss_cons (ps_if (pt_cmpR op_lt (pv 5) pe_int (nomark _)) (pss_one (ps_ret (pe_op op_add_str (pe_op op_add_str (pe_slice sl_str (pv 1) po_none (po_some (pv 3))) (pv 4)) (pe_slice sl_str (pv 1) (po_some (pe_op op_add (pv 3) pe_int)) po_none)))) pss_nil)
  (pss_cons (ps_if (pt_cmpR op_eq (pv 5) pe_int (nomark _)) (pss_one (ps_ret (pe_op op_add_str (pe_slice sl_str (pv 1) po_none (po_some (pv 3))) (pe_slice sl_str (pv 1) (po_some (pe_op op_add (pv 3) pe_int)) po_none)))) pss_nil)
  (pss_cons (ps_if (pt_cmpR op_eq (pv 5) pe_int (nomark _)) (pss_one (ps_ret (pe_slice sl_str (pv 1) po_none (po_some (pv 3))))) pss_nil)
  (pss_cons (ps_if (pt_cmpR op_eq (pv 5) pe_int (nomark _)) (pss_one (ps_ret (pe_op op_add_str (pe_op op_add_str (pe_slice sl_str (pv 1) po_none (po_some (pv 3))) (pe_slice sl_str (pv 1) (po_some (pv 3)) (po_some (pe_op op_add (pv 3) pe_int)))) (pe_slice sl_str (pv 1) (po_some (pv 3)) po_none)))) pss_nil)
  (pss_one (ps_ret (pe_op op_add_str (pe_op op_add_str (pe_slice sl_str (pv 1) po_none (po_some (pv 3))) (pe_call G__law_pick (hr.mono (by decide)) rfl T.glo__law_pick k__law_pick b__law_pick .nil pass0 (pa_cons (pv 0) (pa_cons (pe_lst (pa_cons (pe_op op_mulT pe_str pe_int) (pa_cons (pe_op op_mulT pe_str pe_int) (pa_cons pe_str (pa_cons pe_str (pa_cons pe_str pa_nil)))))) pa_nil)))) (pe_slice sl_str (pv 1) (po_some (pv 3)) po_none))))))))))))), ?_⟩
    have fin : ∀ (z : Str) H', z.length ≤ 40000 → Keep p H H' → Pool H' p u (n + 10) → Q (.str z) H' := fun z H' h1 h2 h3 => hw z.cps.toList H' (by rw [Array.length_toList]; exact h1) h2 h3
    have hz : (mk s).length ≤ sizeLine := size_ok (by show s.length ≤ _; omega)
    refine ⟨_, rfl, _, rfl, hz, _, rfl, ?_, ?_, fun D hD => ?_⟩
    · show -(2 ^ 62) ≤ ((s.length : Nat) : Int)
      omega
    · show ((s.length : Nat) : Int) < 2 ^ 62
      omega
    refine lc_it walk_range (fun i H' => ∃ ys : List V, H' D = some (.lst ys) ∧ ys.length ≤ i ∧ (∀ y ∈ ys, ∃ z : Int, y = .int z ∧ 0 ≤ z ∧ z ≤ 10000) ∧ Keep p H H' ∧ Pool H' p u n)
      ⟨[], upd_same, Nat.le_refl _, by simp, (Keep.refl p H).grow hD, hp.grow hD⟩ (fun _ _ _ _ => trivial) ?_ ?_
    · rintro i y Hb Ha hi ⟨ys, g1, g2, g3, g4, g5⟩ ⟨rfl, rfl⟩
      have hi : i < s.length := hi
      refine ⟨rfl, ?_⟩
      refine ⟨_, rfl, _, rfl, mk s, _, s[i], rfl, rfl, hz, ?_, _, _, rfl, rfl, _, rfl, iteD (fun _ => ?_) (fun _ => ?_)⟩
      · show atI s (0 + (i : Int)) = some s[i]
        rw [Int.zero_add]
        exact atI_nat (List.getElem?_eq_getElem hi)
      · refine ⟨_, rfl, ys, g1, ?_, ys ++ [.int (0 + (i : Int))], upd_same, ?_, ?_, g4.own hD, VI.pool_at g5 (hp.ne hD) (hp.ne_u hD)⟩
        · rw [sizeLine_eq]
          omega
        · rw [List.length_append, List.length_singleton]
          omega
        · intro y hy
          rcases List.mem_append.mp hy with q | q
          · exact g3 y q
          · exact ⟨_, List.mem_singleton.mp q, by omega, by omega⟩
      · exact ⟨ys, g1, by omega, g3, g4, g5⟩
    rintro H1 ⟨ys, g1, g2, g3, g4, g5⟩
    have g2 : ys.length ≤ s.length := g2
    refine ⟨_, rfl, _, rfl, _, rfl, hz, _, _, rfl, rfl, p, u, _, _, rfl, g5, by omega, ?_, fun at0 H2 a0 al k2 hp2 => ?_⟩
    · show ((s.length : Nat) : Int) + 1 < 1000000000
      omega
    have al : at0 < ((s.length : Nat) : Int) + 1 := al (by show (0 : Int) < ((s.length : Nat) : Int) + 1; omega)
    have kD := k2
    have k2 := g4.trans k2
    -- if len(spots) > 0 and _law_take(pool, 2) == 0: at = _law_pick(pool, spots)
    have Dp : D ≠ p := hp.ne hD
    have g1' : H2 D = some (.lst ys) := kD D _ Dp g1
    refine ⟨fun σ H' => ∃ at1 : Int, σ = [some (.ref p), some (.str (mk s)), some (.ref D), some (.int at1), none, none, none] ∧ 0 ≤ at1 ∧ at1 ≤ 10001 ∧ Keep p H H' ∧ Pool H' p u (n + 3), ?_, ?_⟩
    · refine ⟨_, rfl, _, _, rfl, .inl (SqL.of g1'), _, _, rfl, rfl, _, rfl, iteD (fun c0 => ?_) (fun _ => iteF ?_)⟩
      · have c0 : (ys.length : Int) > 0 := c0
        refine ⟨_, rfl, p, u, _, _, rfl, hp2, by omega, by decide, fun j H3 j0 j2 k3 hp3 => ⟨rfl, _, rfl, iteD (fun _ => ?_) (fun _ => ?_)⟩⟩
        · refine ⟨_, rfl, _, rfl, p, u, D, _, ys, rfl, hp3, by omega, Dp, k3 D _ Dp g1', by intro e; rw [e] at c0; simp at c0, by omega, fun y H4 hy k4 hp4 => ?_⟩
          obtain ⟨z, rfl, z0, z1⟩ := g3 y hy
          exact ⟨z, rfl, z0, by omega, (k2.trans k3).trans k4, hp4⟩
        · exact ⟨at0, rfl, a0, by omega, k2.trans k3, hp3.mono (by omega)⟩
      · exact ⟨at0, rfl, a0, by omega, k2, hp2.mono (by omega)⟩
    rintro σ H3 ⟨at1, rfl, b0, b1, k3, hp3⟩
    refine ⟨_, rfl, _, rfl, by decide +kernel, fun l hl => ?_⟩
    refine ⟨p, u, l, _, _, rfl, hp3.grow hl, by omega, hp3.ne hl, upd_same, by decide +kernel, by decide +kernel, fun y H4 hy k4 hp4 => ?_⟩
    have k4 : Keep p H H4 := (k3.grow hl).trans k4
    obtain ⟨c, _, rfl⟩ := List.mem_map.mp hy
    refine ⟨_, rfl, p, u, _, _, rfl, hp4, by omega, by decide, fun way H5 w0 w8 k5 hp5 => ⟨_, _, rfl, ?_⟩⟩
    have k5 := k4.trans k5
    have hp6 := hp5.mono (show n + 3 + 1 + 1 ≤ n + 10 by omega)
    have cl : ∀ lo hi, (cutS (mk s) lo hi).length ≤ 10000 := fun lo hi => Nat.le_trans (cut_le s lo hi) hs
    have a1 := cl none (some at1)
    have a2 := cl (some at1) none
    have a3 := cl (some (at1 + 1)) none
    have a4 := cl (some at1) (some (at1 + 3))
    have c1 : (⟨#[c]⟩ : Str).length = 1 := rfl
    refine ⟨_, rfl, _, _, rfl, rfl, _, rfl, iteD (fun _ => ?_) (fun _ => ?_)⟩
    · refine ⟨_, rfl, _, rfl, _, rfl, _, rfl, hz, _, rfl, _, _, rfl, rfl, size_ok (by omega), _, rfl, _, rfl, _, rfl, _, rfl, hz, _, _, rfl, rfl, size_ok (by simp only [add_len]; omega), ?_⟩
      exact fin _ _ (by simp only [add_len]; omega) k5 hp6
    refine ⟨_, rfl, _, _, rfl, rfl, _, rfl, iteD (fun _ => ?_) (fun _ => ?_)⟩
    · refine ⟨_, rfl, _, rfl, _, rfl, _, rfl, hz, _, rfl, _, _, rfl, rfl, size_ok (by omega), _, rfl, _, rfl, _, _, rfl, rfl, _, rfl, _, rfl, hz, _, _, rfl, rfl, size_ok (by simp only [add_len]; omega), ?_⟩
      exact fin _ _ (by simp only [add_len]; omega) k5 hp6
    refine ⟨_, rfl, rfl, _, rfl, iteD (fun _ => ?_) (fun _ => ?_)⟩
    · refine ⟨_, rfl, _, rfl, _, rfl, _, rfl, hz, _, rfl, _, rfl, _, _, rfl, rfl, _, rfl, _, rfl, hz, _, _, rfl, rfl, size_ok (by omega), ?_⟩
      exact fin _ _ (by simp only [add_len]; omega) k5 hp6
    refine ⟨_, rfl, rfl, _, rfl, iteD (fun _ => ?_) (fun _ => ?_)⟩
    · refine ⟨_, rfl, _, rfl, _, rfl, _, rfl, hz, ?_⟩
      exact fin _ _ (by omega) k5 hp6
    refine ⟨_, rfl, rfl, _, rfl, iteD (fun _ => ?_) (fun _ => ?_)⟩
    · refine ⟨_, rfl, _, rfl, _, rfl, _, rfl, hz, _, rfl, _, rfl, _, rfl, _, rfl, _, _, rfl, rfl, _, rfl, _, rfl, hz, _, _, rfl, rfl, size_ok (by omega), _, rfl, _, rfl, _, rfl, _, rfl, hz, _, _, rfl, rfl, size_ok (by simp only [add_len]; omega), ?_⟩
      exact fin _ _ (by simp only [add_len]; omega) k5 hp6
    refine ⟨_, rfl, _, rfl, _, rfl, _, rfl, hz, _, rfl, _, 30, rfl, rfl, by decide, by decide +kernel, by decide +kernel, _, 41, rfl, rfl, by decide, by decide +kernel, by decide +kernel, size_ok (by show 5 ≤ 16000000; decide), fun l2 hl2 => ?_⟩
    refine ⟨p, u, l2, _, _, rfl, hp5.grow hl2, by omega, hp5.ne hl2, upd_same, by simp, by show 5 ≤ 1000000; decide, fun y H6 hy k6 hp7 => ?_⟩
    have k6 : Keep p H H6 := (k5.grow hl2).trans k6
    obtain ⟨z, rfl, z1⟩ := long_menu y hy
    refine ⟨_, _, rfl, rfl, size_ok (by omega), _, rfl, _, rfl, _, rfl, _, rfl, hz, _, _, rfl, rfl, size_ok (by simp only [add_len]; omega), ?_⟩
    exact fin _ _ (by simp only [add_len]; omega) k6 (hp7.mono (by omega))
end
end K93
set_option Elab.async false
set_option linter.all false
set_option maxRecDepth 100000
set_option maxHeartbeats 4000000
set_option pp.maxSteps 3000
/-! _law_atom_at -/
namespace K93
open PySem PySem.Spec PyProof.Rows L2 He He2 M93
def atV : PyData → V
  | .int i => .int i
  | .str x => .str x
  | _ => .non
def atR : Except Nat (PyData × Nat) → List V
  | .ok (v, b) => [.bl true, .int (b : Int), atV v]
  | .error e => [.bl false, .int (e : Int), .non]
def sp_at : Sp := fun vs H Q _ => ∃ (s : Cs) (p : Nat), vs = [.str (mk s), .int (p : Int)] ∧ s.length ≤ 100000 ∧ p ≤ s.length ∧ ∀ a, H a = none → Q (.ref a) (upd H a (.lst (atR (atomAt s p))))
/-- the stretch of a set, sign by sign -/
def run (set l : Cs) : Cs := l.takeWhile fun c => decide (c ∈ set)
theorem run_yes {set l : Cs} {i c : Nat} (h : l[i]? = some c) (hc : c ∈ set) : (run set (l.drop i)).length = 1 + (run set (l.drop (i + 1))).length := by
  unfold run
  rw [drop_at h, List.takeWhile_cons, if_pos (by simpa using hc), List.length_cons]
  omega
theorem run_no {set l : Cs} {i c : Nat} (h : l[i]? = some c) (hc : c ∉ set) : (run set (l.drop i)).length = 0 := by
  unfold run
  rw [drop_at h, List.takeWhile_cons, if_neg (by simpa using hc)]
  rfl
theorem run_end {set l : Cs} : (run set (l.drop l.length)).length = 0 := by
  rw [List.drop_length]
  rfl
theorem tw_cut (set : Cs) (n : Nat) (s : Cs) (p : Nat) : (s.drop p).take (tw set n s p).length = tw set n s p := by
  have h := tw_drop set n s p
  rw [h, List.take_left']
  rfl
theorem tw_all (set s : Cs) (p : Nat) : tw set s.length s p = run set (s.drop p) := by
  unfold tw run
  rw [List.take_of_length_le (by rw [List.length_drop]; omega)]
theorem cut_at {s : Cs} {z : Int} (p : Nat) (h : z = (p : Int)) : cutS (mk s) (some z) (some (z + 1)) = mk (sg s p) := by
  rw [h]
  exact cut_one s p
theorem iteN {c A B : Prop} [Decidable c] (h1 : ¬ c → A) (h2 : c → B) : if (!decide c) = true then A else B := by
  by_cases h : c
  · rw [decide_eq_true h, Bool.not_true, if_neg Bool.false_ne_true]
    exact h2 h
  · rw [decide_eq_false h, Bool.not_false, if_pos rfl]
    exact h1 h
theorem back {Q : VK} {H : Hp} {a : Addr} {xs ys : List V} (e : xs = ys) (h : Q (.ref a) (upd H a (.lst xs))) : Q (.ref a) (upd H a (.lst ys)) := e ▸ h
theorem ans_eq {s : Cs} {p c : Nat} {z : Str} (hz : z = mk [c]) : decide (V.str (mk (sg s p)) = V.str z) = decide (s[p]? = some c) := by
  rw [hz]
  exact sg_dec s p c
section
variable {w : World} {K : PySem.W.Frag} {mg : Str → Option Value} {base : Heap}
theorem ok_at (T : Tx K mg) : Ok w K mg base CX0 1 (ga K "_law_atom_at") ["string", "at"] sp_at := by
  obtain ⟨fd, F⟩ := T.fn__law_atom_at
  refine ⟨fd, F.ok sc__law_atom_at (fun vs H Q E h => ?_) (fun cdv A outer s H vs Q E hr h => ?_), F.bindsN fun _ _ _ _ _ _ us hl => match us, hl with | [_, _], _ => rfl, F.kp⟩
  · obtain ⟨s, p, rfl, _⟩ := h
    rfl
  · obtain ⟨s, p, rfl, hs, hp, hw⟩ := h
    refine ⟨_, (pss_cons (ps_par (i := 2) (j := 3) rfl sc__law_atom_at.nd rfl rfl (by decide) rfl rfl (pa_cons pe_str (pa_cons (pe_slice sl_str (pv 0) (po_some (pv 1)) (po_some (pe_op op_add (pv 1) pe_int))) pa_nil)) (by rfl))
  (pss_cons (ps_if (pt_cmpR op_eq (pv 3) pe_str (nomark _)) (pss_cons (ps_for (passes_of rfl) rfl (pi_range1 rfl T.free_range (pa_cons pe_int pa_nil)) (pg_name (i := 4) sc__law_atom_at.nd rfl (Or.inl rfl)) (pss_one (ps_if (pt_cmpR op_ne (pe_slice sl_str (pv 0) (po_some (pe_op op_add (pv 1) (pv 4))) (po_some (pe_op op_add (pe_op op_add (pv 1) (pv 4)) pe_int))) (pe_ix ix_str pe_str (pv 4) (fun _ _ => rfl)) (nomark _)) (pss_one (ps_ret (pe_lst (pa_cons pe_bl (pa_cons (pe_op op_add (pv 1) (pv 4)) (pa_cons pe_non pa_nil)))))) pss_nil)))
  (pss_one (ps_ret (pe_lst (pa_cons pe_bl (pa_cons (pe_op op_add (pv 1) pe_int) (pa_cons pe_non pa_nil))))))) pss_nil)
  (pss_cons (ps_if (pt_cmpR op_eq (pv 3) pe_str (nomark _)) (pss_cons (ps_set (i := 5) sc__law_atom_at.nd rfl (Or.inl rfl) (pe_op op_add (pv 1) pe_int))
  (C8.pss_cut (ps_for (passes_of rfl) rfl (pi_str (pe_slice sl_str (pv 0) (po_some (pe_op op_add (pv 1) pe_int)) po_none)) (pg_name (i := 6) sc__law_atom_at.nd rfl (Or.inl rfl)) (pss_cons (ps_if (pt_cmpR op_notIn_sign (pv 6) (pv 2) rfl) (pss_one ps_break) pss_nil)
  (pss_one (ps_aug (i := 5) sc__law_atom_at.nd rfl (.inl rfl) pe_int ip_add))))
  (pss_one (ps_ret (pe_ifExp (pt_cmpR op_ne (pe_slice sl_str (pv 0) (po_some (pv 5)) (po_some (pe_op op_add (pv 5) pe_int))) pe_str (nomark _)) (pe_lst (pa_cons pe_bl (pa_cons (pv 5) (pa_cons pe_non pa_nil)))) (pe_lst (pa_cons pe_bl (pa_cons (pe_op op_add (pv 5) pe_int) (pa_cons (pe_slice sl_str (pv 0) (po_some (pe_op op_add (pv 1) pe_int)) (po_some (pv 5))) pa_nil))))))))) pss_nil)
  (C8.pss_cut (ps_set (i := 7) sc__law_atom_at.nd rfl (Or.inl rfl) (pe_ifExp (pt_cmpR op_eq (pv 3) pe_str (nomark _)) (pe_op op_add (pv 1) pe_int) (pv 1)))
  (pss_cons (ps_set (i := 8) sc__law_atom_at.nd rfl (Or.inl rfl) (pe_slice sl_str (pv 0) (po_some (pv 7)) (po_some (pe_op op_add (pv 7) pe_int))))
  (pss_cons (ps_if (PW.pt (pw_or (pt_cmpR op_eq (pv 8) pe_str (nomark _)) (pw_or1 (pt_cmpR op_notIn_sign (pv 8) (pe_ifExp (pt_cmpR op_eq (pv 3) pe_str (nomark _)) pe_str pe_str) rfl)))) (pss_one (ps_ret (pe_lst (pa_cons pe_bl (pa_cons (pv 7) (pa_cons pe_non pa_nil)))))) pss_nil)
  (pss_cons (ps_set (i := 5) sc__law_atom_at.nd rfl (Or.inl rfl) (pe_op op_add (pv 7) pe_int))
  (C8.pss_cut (ps_for (passes_of rfl) rfl (pi_str (pe_slice sl_str (pv 0) (po_some (pe_op op_add (pv 7) pe_int)) (po_some (pe_op op_add (pv 7) pe_int)))) (pg_name (i := 6) sc__law_atom_at.nd rfl (Or.inl rfl)) (pss_cons (ps_if (PW.pt (pw_or (pt_cmpR op_eq (pv 8) pe_str (nomark _)) (pw_or1 (pt_cmpR op_notIn_sign (pv 6) pe_str rfl)))) (pss_one ps_break) pss_nil)
  (pss_one (ps_aug (i := 5) sc__law_atom_at.nd rfl (.inl rfl) pe_int ip_add))))
  (pss_cons (ps_set (i := 9) sc__law_atom_at.nd rfl (Or.inl rfl) (pe_callTy call_int_str (by rfl) T.free_int (by decide +kernel) (pa_cons (pe_slice sl_str (pv 0) (po_some (pv 7)) (po_some (pv 5))) pa_nil)))
  (pss_one (ps_ret (pe_lst (pa_cons pe_bl (pa_cons (pv 5) (pa_cons (pe_ifExp (pt_cmpR op_eq (pv 3) pe_str (nomark _)) (pe_un un_neg (pv 9)) (pv 9)) pa_nil))))))))))))))), ?_⟩
    have hz : (mk s).length ≤ sizeLine := size_ok (by show s.length ≤ _; omega)
    refine ⟨_, rfl, _, rfl, _, rfl, _, rfl, _, _, rfl, rfl, _, rfl, _, rfl, hz, _, _, rfl, ?_⟩
    rw [cut_one]
    refine ⟨_, rfl, rfl, _, rfl, ?_⟩
    rw [lit_n, sg_dec]
    refine iteD (fun h1 => ?_) (fun h1 => ?_)
    · -- none
      have e0 : atomAt s p = noneAt s p := if_pos h1
      refine ⟨_, rfl, by decide, by decide, ?_⟩
      refine for_it walk_range (fun i σ H' => ∃ bv : Option V, σ = [some (.str (mk s)), some (.int (p : Int)), some (.str (Str.ofString "abcdefghijklmnopqrstuvwxyz0123456789 ")), some (.str (mk (sg s p))), bv, none, none, none, none, none] ∧ H' = H ∧ wordAt noneW s p = wordAt (noneW.drop i) s (p + i))
        ⟨none, rfl, rfl, rfl⟩ (fun _ _ _ _ _ => trivial) ?_ ?_
      · rintro i y σ Hb Ha hi ⟨bv, rfl, rfl, e⟩ ⟨rfl, rfl⟩
        have hi : i < 4 := hi
        obtain ⟨c, hc⟩ : ∃ c, noneW[i]? = some c := ⟨noneW[i]'hi, List.getElem?_eq_getElem hi⟩
        rw [drop_at hc] at e
        refine ⟨_, rfl, _, rfl, _, rfl, _, _, rfl, rfl, _, rfl, _, rfl, _, rfl, _, _, rfl, rfl, _, _, rfl, rfl, _, rfl, _, rfl, hz, _, rfl, _, _, c, rfl, rfl, size_ok (by decide +kernel), ?_, rfl, _, rfl, ?_⟩
        · rw [Int.zero_add]
          exact atI_nat hc
        rw [cut_at (p + i) (by omega), ans_eq (z := ⟨#[c]⟩) (c := c) rfl]
        refine iteN (fun hne => ?_) (fun heq => ?_)
        · refine ⟨_, rfl, _, rfl, _, _, rfl, rfl, size_ok (by show 3 ≤ 16000000; decide), fun a ha => ?_⟩
          refine back ?_ (hw a ha)
          rw [e0]
          unfold noneAt
          rw [e, wordAt, if_neg hne]
          show [V.bl false, V.int (((p + i : Nat)) : Int), V.non] = [V.bl false, V.int ((p : Int) + (0 + (i : Int))), V.non]
          rw [show (((p + i : Nat)) : Int) = (p : Int) + (0 + (i : Int)) by omega]
        · exact ⟨_, rfl, rfl, by rw [e, wordAt, if_pos heq]; rfl⟩
      · rintro σ H' ⟨bv, rfl, rfl, e⟩
        refine ⟨_, rfl, _, _, rfl, rfl, size_ok (by show 3 ≤ 16000000; decide), fun a ha => ?_⟩
        refine back ?_ (hw a ha)
        rw [e0]
        unfold noneAt
        rw [e]
        rfl
    refine ⟨_, rfl, rfl, _, rfl, ?_⟩
    rw [lit_apo, sg_dec]
    refine iteD (fun h2 => ?_) (fun h2 => ?_)
    · -- a text
      have e0 : atomAt s p = M93.strAt s p := by
        unfold atomAt
        rw [if_neg h1, if_pos h2]
      have hlt := lt_of_at h2
      refine ⟨_, rfl, _, _, rfl, rfl, ?_⟩
      refine ⟨fun σ H' => ∃ ov : Option V, σ = [some (.str (mk s)), some (.int (p : Int)), some (.str (Str.ofString "abcdefghijklmnopqrstuvwxyz0123456789 ")), some (.str (mk (sg s p))), none, some (.int ((p + 1 + (tw sgns s.length s (p + 1)).length : Nat) : Int)), ov, none, none, none] ∧ H' = H, ?_, ?_⟩
      · refine ⟨_, rfl, _, rfl, _, _, rfl, rfl, _, rfl, _, rfl, hz, _, rfl, ?_⟩
        have hz' : cutS (mk s) (some ((p : Int) + 1)) none = mk (s.drop (p + 1)) := cut_from s (p + 1)
        rw [tw_all]
        refine for_it walk_str (fun i σ H' => ∃ ov : Option V, σ = [some (.str (mk s)), some (.int (p : Int)), some (.str (Str.ofString "abcdefghijklmnopqrstuvwxyz0123456789 ")), some (.str (mk (sg s p))), none, some (.int ((p + 1 + i : Nat) : Int)), ov, none, none, none] ∧ H' = H ∧ (run sgns (s.drop (p + 1))).length = i + (run sgns ((s.drop (p + 1)).drop i)).length)
          ?_ (fun _ _ _ _ _ => trivial) ?_ ?_
        · exact ⟨none, rfl, rfl, by rw [Nat.zero_add]; rfl⟩
        · rintro i y σ Hb Ha hi ⟨ov, rfl, rfl, e⟩ ⟨rfl, c, hc, rfl⟩
          have hc' : (s.drop (p + 1))[i]? = some c := by
            have z := (congrArg (fun z : Str => z.cps[i]?) hz').symm.trans hc
            have z : (s.drop (p + 1)).toArray[i]? = some c := z
            rw [List.getElem?_toArray] at z
            exact z
          refine ⟨_, rfl, _, rfl, c, _, rfl, rfl, _, rfl, ?_⟩
          rw [sgns_eq]
          refine iteN (fun hn => ?_) (fun hin => ?_)
          · rw [run_no hc' hn, Nat.add_zero] at e
            refine ⟨some (.str ⟨#[c]⟩), ?_, rfl⟩
            rw [e]
            rfl
          · rw [run_yes hc' hin] at e
            refine ⟨_, rfl, _, _, rfl, rfl, some (.str ⟨#[c]⟩), rfl, rfl, ?_⟩
            rw [e]
            omega
        · rintro σ H' ⟨ov, rfl, rfl, e⟩
          have el : (cutS (mk s) (some ((p : Int) + 1)) none).cps.size = (s.drop (p + 1)).length := by
            rw [hz']
            rfl
          refine ⟨ov, ?_, rfl⟩
          have e : (run sgns (s.drop (p + 1))).length = (cutS (mk s) (some ((p : Int) + 1)) none).cps.size + (run sgns ((s.drop (p + 1)).drop (cutS (mk s) (some ((p : Int) + 1)) none).cps.size)).length := e
          rw [el, run_end, Nat.add_zero] at e
          show _ = [_, _, _, _, _, some (V.int ((p + 1 + (run sgns (s.drop (p + 1))).length : Nat) : Int)), _, _, _, _]
          rw [e, ← el]
          rfl
      rintro σ H' ⟨ov, rfl, rfl⟩
      have tc := tw_cut sgns s.length s (p + 1)
      unfold M93.strAt at e0
      generalize htw : tw sgns s.length s (p + 1) = t at tc e0 ⊢
      refine ⟨_, rfl, _, rfl, _, rfl, _, rfl, _, _, rfl, rfl, _, rfl, _, rfl, hz, rfl, _, rfl, ?_⟩
      rw [cut_at (p + 1 + t.length) (by omega), ans_eq (c := 39) rfl]
      refine iteN (fun hn => ?_) (fun hy => ?_)
      · refine ⟨_, rfl, size_ok (by show 3 ≤ 16000000; decide), fun a ha => ?_⟩
        refine back ?_ (hw a ha)
        rw [e0, if_neg hn]
        rfl
      · refine ⟨_, rfl, _, _, rfl, rfl, _, rfl, _, rfl, _, _, rfl, rfl, _, rfl, _, rfl, _, rfl, _, rfl, hz, size_ok (by show 3 ≤ 16000000; decide), fun a ha => ?_⟩
        refine back ?_ (hw a ha)
        rw [e0, if_pos hy]
        have z := cut_mid s (p + 1) (p + 1 + t.length)
        rw [show p + 1 + t.length - (p + 1) = t.length by omega, tc] at z
        show [V.bl true, V.int ((p + 1 + t.length + 1 : Nat) : Int), V.str (mk t)] = [V.bl true, V.int (((p + 1 + t.length : Nat) : Int) + 1), V.str (cutS (mk s) (some ((p : Int) + 1)) (some ((p + 1 + t.length : Nat) : Int)))]
        rw [← z]
        rfl
    -- a number
    have e0 : atomAt s p = M93.numAt s p := by
      unfold atomAt
      rw [if_neg h1, if_neg h2]
    refine ⟨fun σ H' => ∃ (neg : Bool) (b : Nat), σ = [some (.str (mk s)), some (.int (p : Int)), some (.str (Str.ofString "abcdefghijklmnopqrstuvwxyz0123456789 ")), some (.str (mk (sg s p))), none, none, none, some (.int (b : Int)), none, none] ∧ H' = H ∧ (s[p]? = some 45 ↔ neg = true) ∧ b ≤ s.length ∧ M93.numAt s p = numFrom neg s b, ?_, ?_⟩
    · refine ⟨_, rfl, rfl, _, rfl, ?_⟩
      rw [ans_eq lit_minus]
      refine iteD (fun hm => ?_) (fun hm => ?_)
      · refine ⟨_, rfl, _, _, rfl, rfl, true, p + 1, rfl, rfl, ⟨fun _ => rfl, fun _ => hm⟩, lt_of_at hm, ?_⟩
        unfold M93.numAt
        rw [if_pos hm]
      · refine ⟨_, rfl, false, p, rfl, rfl, ⟨fun q => absurd q hm, fun q => by cases q⟩, hp, ?_⟩
        unfold M93.numAt
        rw [if_neg hm]
    rintro σ H' ⟨neg, b, rfl, rfl, hneg, hb, en⟩
    rw [en] at e0
    unfold numFrom at e0
    refine ⟨_, rfl, _, rfl, _, rfl, _, rfl, _, _, rfl, rfl, _, rfl, _, rfl, hz, ?_⟩
    rw [cut_one]
    refine ⟨_, rfl, rfl, _, rfl, ?_⟩
    rw [lit_empty, eqS]
    have hd : decide (s[p]? = some 45) = neg := by
      cases neg with
      | true => exact decide_eq_true (hneg.mpr rfl)
      | false => exact decide_eq_false fun q => Bool.false_ne_true (hneg.mp q)
    cases hc : s[b]? with
    | none =>
      rw [sg_none hc]
      rw [hc] at e0
      refine iteD (fun _ => iteT ⟨_, rfl, size_ok (by show 3 ≤ 16000000; decide), fun a ha => ?_⟩) (fun q => absurd rfl q)
      refine back ?_ (hw a ha)
      rw [e0]
      rfl
    | some c =>
      rw [sg_some hc]
      rw [hc] at e0
      refine iteD (fun q => by cases q) (fun _ => ?_)
      refine ⟨_, rfl, _, rfl, rfl, _, rfl, ?_⟩
      rw [ans_eq lit_minus, hd]
      have hset : ∀ z : Str, z.cps.toList = (if neg = true then digs1 else digs) → True := fun _ _ => trivial
      cases neg
      · refine iteF ⟨c, _, rfl, rfl, _, rfl, ?_⟩
        rw [digs_eq]
        refine iteN (fun hn => ?_) (fun hcd => ?_)
        · refine ⟨_, rfl, size_ok (by show 3 ≤ 16000000; decide), fun a ha => ?_⟩
          refine back ?_ (hw a ha)
          rw [e0]
          show atR (if c ∈ digs then _ else _) = _
          rw [if_neg hn]
          rfl
        have e0 : atomAt s p = .ok (.int ((NumText.digitsVal (c :: more c s b) : Nat) : Int), b + 1 + (more c s b).length) := by
          rw [e0]
          exact if_pos hcd
        have hblt := lt_of_at hc
        have can := canon_of (s := s) (b := b) hcd
        have mlen : (more c s b).length ≤ 29 := by
          have := can.1
          rw [List.length_cons] at this
          omega
        refine ⟨_, rfl, _, _, rfl, rfl, ?_⟩
        refine ⟨fun σ H'' => ∃ ov : Option V, σ = [some (.str (mk s)), some (.int (p : Int)), some (.str (Str.ofString "abcdefghijklmnopqrstuvwxyz0123456789 ")), some (.str (mk (sg s p))), none, some (.int ((b + 1 + (more c s b).length : Nat) : Int)), ov, some (.int (b : Int)), some (.str (mk [c])), none] ∧ H'' = H', ?_, ?_⟩
        · refine ⟨_, rfl, _, rfl, _, _, rfl, rfl, _, rfl, _, rfl, _, _, rfl, rfl, _, rfl, _, rfl, hz, _, rfl, ?_⟩
          have hz' : cutS (mk s) (some ((b : Int) + 1)) (some ((b : Int) + 30)) = mk ((s.drop (b + 1)).take 29) := by
            have z := cut_mid s (b + 1) (b + 30)
            rw [show b + 30 - (b + 1) = 29 by omega] at z
            exact z
          refine for_it walk_str (fun i σ H'' => ∃ ov : Option V, σ = [some (.str (mk s)), some (.int (p : Int)), some (.str (Str.ofString "abcdefghijklmnopqrstuvwxyz0123456789 ")), some (.str (mk (sg s p))), none, some (.int ((b + 1 + i : Nat) : Int)), ov, some (.int (b : Int)), some (.str (mk [c])), none] ∧ H'' = H' ∧ (c = 48 → i = 0) ∧ (c ≠ 48 → (run digs ((s.drop (b + 1)).take 29)).length = i + (run digs (((s.drop (b + 1)).take 29).drop i)).length))
            ?_ (fun _ _ _ _ _ => trivial) ?_ ?_
          · exact ⟨none, rfl, rfl, fun _ => rfl, fun _ => by rw [Nat.zero_add]; rfl⟩
          · rintro i y σ Hb Ha hi ⟨ov, rfl, rfl, e1, e2⟩ ⟨rfl, x, hx, rfl⟩
            have hx' : ((s.drop (b + 1)).take 29)[i]? = some x := by
              have z := (congrArg (fun z : Str => z.cps[i]?) hz').symm.trans hx
              have z : ((s.drop (b + 1)).take 29).toArray[i]? = some x := z
              rw [List.getElem?_toArray] at z
              exact z
            refine ⟨_, rfl, rfl, _, rfl, ?_⟩
            rw [lit_zero, eqS]
            refine iteD (fun h48 => iteT ?_) (fun h48 => ?_)
            · have c48 : c = 48 := (List.cons.inj h48).1
              refine ⟨some (.str ⟨#[x]⟩), ?_, rfl⟩
              have i0 := e1 c48
              subst i0
              unfold more
              rw [if_pos c48]
              rfl
            have c48 : c ≠ 48 := fun q => h48 (by rw [q])
            have e2 := e2 c48
            refine ⟨_, rfl, x, _, rfl, rfl, _, rfl, ?_⟩
            rw [digs_eq]
            refine iteN (fun hn => ?_) (fun hin => ?_)
            · rw [run_no hx' hn, Nat.add_zero] at e2
              refine ⟨some (.str ⟨#[x]⟩), ?_, rfl⟩
              have em : (more c s b).length = i := by
                unfold more
                rw [if_neg c48]
                exact e2
              rw [em]
              rfl
            · rw [run_yes hx' hin] at e2
              refine ⟨_, rfl, _, _, rfl, rfl, some (.str ⟨#[x]⟩), rfl, rfl, fun q => absurd q c48, fun _ => by omega⟩
          · rintro σ H'' ⟨ov, rfl, rfl, e1, e2⟩
            have el : (cutS (mk s) (some ((b : Int) + 1)) (some ((b : Int) + 30))).cps.size = ((s.drop (b + 1)).take 29).length := by
              rw [hz']
              rfl
            refine ⟨ov, ?_, rfl⟩
            have e1 : c = 48 → (cutS (mk s) (some ((b : Int) + 1)) (some ((b : Int) + 30))).cps.size = 0 := e1
            have e2 : c ≠ 48 → (run digs ((s.drop (b + 1)).take 29)).length = (cutS (mk s) (some ((b : Int) + 1)) (some ((b : Int) + 30))).cps.size + (run digs (((s.drop (b + 1)).take 29).drop (cutS (mk s) (some ((b : Int) + 1)) (some ((b : Int) + 30))).cps.size)).length := e2
            have em : (more c s b).length = (cutS (mk s) (some ((b : Int) + 1)) (some ((b : Int) + 30))).cps.size := by
              unfold more
              by_cases c48 : c = 48
              · rw [if_pos c48, e1 c48]
                rfl
              · rw [if_neg c48]
                have e2 := e2 c48
                rw [el, run_end, Nat.add_zero] at e2
                rw [el]
                exact e2
            rw [em]
        rintro σ H'' ⟨ov, rfl, rfl⟩
        have md := more_drop c s b
        generalize hmo : more c s b = r at can mlen md e0 ⊢
        have hcut : cutS (mk s) (some (b : Int)) (some ((b + 1 + r.length : Nat) : Int)) = mk (c :: r) := by
          rw [cut_mid, show b + 1 + r.length - b = r.length + 1 by omega, drop_at hc, List.take_succ_cons, md, List.take_left']
          rfl
        have hint : PySem.intText? (cutS (mk s) (some (b : Int)) (some ((b + 1 + r.length : Nat) : Int))) = some ((NumText.digitsVal (c :: r) : Nat) : Int) := by
          rw [hcut]
          exact int_digs can
        have hlen : (cutS (mk s) (some (b : Int)) (some ((b + 1 + r.length : Nat) : Int))).length ≤ 640 := by
          rw [hcut]
          show (c :: r).length ≤ 640
          rw [List.length_cons]
          omega
        refine ⟨_, rfl, _, rfl, _, rfl, _, rfl, _, rfl, _, rfl, hz, _, _, rfl, hint, hlen, ?_⟩
        refine ⟨_, rfl, _, rfl, rfl, _, rfl, ?_⟩
        rw [ans_eq lit_minus, hd]
        refine iteF ⟨_, rfl, size_ok (by show 3 ≤ 16000000; decide), fun a ha => ?_⟩
        refine back ?_ (hw a ha)
        rw [e0]
        rfl
      · refine iteT ⟨c, _, rfl, rfl, _, rfl, ?_⟩
        rw [digs1_eq]
        refine iteN (fun hn => ?_) (fun hcd => ?_)
        · refine ⟨_, rfl, size_ok (by show 3 ≤ 16000000; decide), fun a ha => ?_⟩
          refine back ?_ (hw a ha)
          rw [e0]
          show atR (if c ∈ digs1 then _ else _) = _
          rw [if_neg hn]
          rfl
        have e0 : atomAt s p = .ok (.int (-((NumText.digitsVal (c :: more c s b) : Nat) : Int)), b + 1 + (more c s b).length) := by
          rw [e0]
          exact if_pos hcd
        have hcd : c ∈ digs := mem_digs.mpr (by have := mem_digs1.mp hcd; omega)
        have hblt := lt_of_at hc
        have can := canon_of (s := s) (b := b) hcd
        have mlen : (more c s b).length ≤ 29 := by
          have := can.1
          rw [List.length_cons] at this
          omega
        refine ⟨_, rfl, _, _, rfl, rfl, ?_⟩
        refine ⟨fun σ H'' => ∃ ov : Option V, σ = [some (.str (mk s)), some (.int (p : Int)), some (.str (Str.ofString "abcdefghijklmnopqrstuvwxyz0123456789 ")), some (.str (mk (sg s p))), none, some (.int ((b + 1 + (more c s b).length : Nat) : Int)), ov, some (.int (b : Int)), some (.str (mk [c])), none] ∧ H'' = H', ?_, ?_⟩
        · refine ⟨_, rfl, _, rfl, _, _, rfl, rfl, _, rfl, _, rfl, _, _, rfl, rfl, _, rfl, _, rfl, hz, _, rfl, ?_⟩
          have hz' : cutS (mk s) (some ((b : Int) + 1)) (some ((b : Int) + 30)) = mk ((s.drop (b + 1)).take 29) := by
            have z := cut_mid s (b + 1) (b + 30)
            rw [show b + 30 - (b + 1) = 29 by omega] at z
            exact z
          refine for_it walk_str (fun i σ H'' => ∃ ov : Option V, σ = [some (.str (mk s)), some (.int (p : Int)), some (.str (Str.ofString "abcdefghijklmnopqrstuvwxyz0123456789 ")), some (.str (mk (sg s p))), none, some (.int ((b + 1 + i : Nat) : Int)), ov, some (.int (b : Int)), some (.str (mk [c])), none] ∧ H'' = H' ∧ (c = 48 → i = 0) ∧ (c ≠ 48 → (run digs ((s.drop (b + 1)).take 29)).length = i + (run digs (((s.drop (b + 1)).take 29).drop i)).length))
            ?_ (fun _ _ _ _ _ => trivial) ?_ ?_
          · exact ⟨none, rfl, rfl, fun _ => rfl, fun _ => by rw [Nat.zero_add]; rfl⟩
          · rintro i y σ Hb Ha hi ⟨ov, rfl, rfl, e1, e2⟩ ⟨rfl, x, hx, rfl⟩
            have hx' : ((s.drop (b + 1)).take 29)[i]? = some x := by
              have z := (congrArg (fun z : Str => z.cps[i]?) hz').symm.trans hx
              have z : ((s.drop (b + 1)).take 29).toArray[i]? = some x := z
              rw [List.getElem?_toArray] at z
              exact z
            refine ⟨_, rfl, rfl, _, rfl, ?_⟩
            rw [lit_zero, eqS]
            refine iteD (fun h48 => iteT ?_) (fun h48 => ?_)
            · have c48 : c = 48 := (List.cons.inj h48).1
              refine ⟨some (.str ⟨#[x]⟩), ?_, rfl⟩
              have i0 := e1 c48
              subst i0
              unfold more
              rw [if_pos c48]
              rfl
            have c48 : c ≠ 48 := fun q => h48 (by rw [q])
            have e2 := e2 c48
            refine ⟨_, rfl, x, _, rfl, rfl, _, rfl, ?_⟩
            rw [digs_eq]
            refine iteN (fun hn => ?_) (fun hin => ?_)
            · rw [run_no hx' hn, Nat.add_zero] at e2
              refine ⟨some (.str ⟨#[x]⟩), ?_, rfl⟩
              have em : (more c s b).length = i := by
                unfold more
                rw [if_neg c48]
                exact e2
              rw [em]
              rfl
            · rw [run_yes hx' hin] at e2
              refine ⟨_, rfl, _, _, rfl, rfl, some (.str ⟨#[x]⟩), rfl, rfl, fun q => absurd q c48, fun _ => by omega⟩
          · rintro σ H'' ⟨ov, rfl, rfl, e1, e2⟩
            have el : (cutS (mk s) (some ((b : Int) + 1)) (some ((b : Int) + 30))).cps.size = ((s.drop (b + 1)).take 29).length := by
              rw [hz']
              rfl
            refine ⟨ov, ?_, rfl⟩
            have e1 : c = 48 → (cutS (mk s) (some ((b : Int) + 1)) (some ((b : Int) + 30))).cps.size = 0 := e1
            have e2 : c ≠ 48 → (run digs ((s.drop (b + 1)).take 29)).length = (cutS (mk s) (some ((b : Int) + 1)) (some ((b : Int) + 30))).cps.size + (run digs (((s.drop (b + 1)).take 29).drop (cutS (mk s) (some ((b : Int) + 1)) (some ((b : Int) + 30))).cps.size)).length := e2
            have em : (more c s b).length = (cutS (mk s) (some ((b : Int) + 1)) (some ((b : Int) + 30))).cps.size := by
              unfold more
              by_cases c48 : c = 48
              · rw [if_pos c48, e1 c48]
                rfl
              · rw [if_neg c48]
                have e2 := e2 c48
                rw [el, run_end, Nat.add_zero] at e2
                rw [el]
                exact e2
            rw [em]
        rintro σ H'' ⟨ov, rfl, rfl⟩
        have md := more_drop c s b
        generalize hmo : more c s b = r at can mlen md e0 ⊢
        have hcut : cutS (mk s) (some (b : Int)) (some ((b + 1 + r.length : Nat) : Int)) = mk (c :: r) := by
          rw [cut_mid, show b + 1 + r.length - b = r.length + 1 by omega, drop_at hc, List.take_succ_cons, md, List.take_left']
          rfl
        have hint : PySem.intText? (cutS (mk s) (some (b : Int)) (some ((b + 1 + r.length : Nat) : Int))) = some ((NumText.digitsVal (c :: r) : Nat) : Int) := by
          rw [hcut]
          exact int_digs can
        have hlen : (cutS (mk s) (some (b : Int)) (some ((b + 1 + r.length : Nat) : Int))).length ≤ 640 := by
          rw [hcut]
          show (c :: r).length ≤ 640
          rw [List.length_cons]
          omega
        refine ⟨_, rfl, _, rfl, _, rfl, _, rfl, _, rfl, _, rfl, hz, _, _, rfl, hint, hlen, ?_⟩
        refine ⟨_, rfl, _, rfl, rfl, _, rfl, ?_⟩
        rw [ans_eq lit_minus, hd]
        refine iteT ⟨_, rfl, _, rfl, size_ok (by show 3 ≤ 16000000; decide), fun a ha => ?_⟩
        refine back ?_ (hw a ha)
        rw [e0]
        rfl
end
end K93
set_option Elab.async false
set_option linter.all false
set_option maxRecDepth 100000
set_option maxHeartbeats 4000000
set_option pp.maxSteps 3000
/-! write_value -/
namespace K93
open PySem PySem.Spec PyProof.Rows L2 He He2 M93
def sp_write (n : Nat) : Sp := fun vs H Q _ => ∃ (v : V) (d : PyData) (k : Nat), vs = [v] ∧ Tp H v d ∧ good k d ∧ k ≤ 40 ∧ 40 < k + n ∧ (shut d).length ≤ 100000 ∧ ∀ H', (∀ b o, H b = some o → H' b = some o) → Q (.str (mk (shut d))) H'
theorem sum_shut : ∀ ds : List PyData, (ds.map fun x => (shut x).length).sum + ds.length = (shutAll ds).length
  | [] => rfl
  | x :: ds => by
    have h := sum_shut ds
    show ((shut x).length + (ds.map fun x => (shut x).length).sum) + (ds.length + 1) = (shut x ++ (32 :: shutAll ds)).length
    rw [List.length_append, List.length_cons]
    omega
theorem shut_in : ∀ (ds : List PyData) (x : PyData), x ∈ ds → (shut x).length ≤ (shutAll ds).length
  | y :: ds, x, h => by
    show _ ≤ (shut y ++ (32 :: shutAll ds)).length
    rw [List.length_append, List.length_cons]
    rcases List.mem_cons.mp h with q | q
    · rw [q]
      omega
    · have := shut_in ds x q
      omega
theorem good_in : ∀ (ds : List PyData) (k : Nat) (x : PyData), goodAll k ds → x ∈ ds → good k x
  | y :: ds, k, x, g, h => by
    simp only [goodAll] at g
    rcases List.mem_cons.mp h with q | q
    · rw [q]
      exact g.1
    · exact good_in ds k x g.2 q
theorem TpAll.at {H : Hp} : ∀ {ds : List PyData} {vs : List V} {i : Nat} {v : V}, TpAll H vs ds → vs[i]? = some v → ∃ d, ds[i]? = some d ∧ Tp H v d
  | _, _, 0, _, .cons h _, e => ⟨_, rfl, by cases e; exact h⟩
  | _, _, i + 1, _, .cons _ hs, e => TpAll.at (i := i) hs e
theorem up_ext {H H' : Hp} (k : ∀ b o, H b = some o → H' b = some o) : Tups H H' := fun b xs h => k b _ h
section
variable {w : World} {K : PySem.W.Frag} {mg : Str → Option Value} {base : Heap}
theorem ok_write0 (T : Tx K mg) : Ok w K mg base CX0 1 (ga K "write_value") ["value"] (sp_write 0) := by
  obtain ⟨fd, F⟩ := T.fn_write_value
  refine ⟨fd, F.ok sc_write_value (fun vs H Q E h => ?_) (fun cdv A outer s H vs Q E hr h => ?_), F.bindsN fun _ _ _ _ _ _ us hl => match us, hl with | [_], _ => rfl, F.kp⟩
  · obtain ⟨v, d, k, rfl, _⟩ := h
    rfl
  · obtain ⟨v, d, k, _, _, _, _, _, _, _⟩ := h
    omega
theorem ok_write1 (T : Tx K mg) (n : Nat) (R : Ok w K mg base CX0 (n + 1) (ga K "write_value") ["value"] (sp_write n)) : Ok w K mg base CX0 (n + 1 + 1) (ga K "write_value") ["value"] (sp_write (n + 1)) := by
  obtain ⟨fd, F⟩ := T.fn_write_value
  obtain ⟨fd_write_value, G_write_value, b_write_value, k_write_value⟩ := R
  refine ⟨fd, F.ok sc_write_value (fun vs H Q E h => ?_) (fun cdv A outer s H vs Q E hr h => ?_), F.bindsN fun _ _ _ _ _ _ us hl => match us, hl with | [_], _ => rfl, F.kp⟩
  · obtain ⟨v, d, k, rfl, _⟩ := h
    rfl
  · obtain ⟨v, d, k, rfl, tp, gd, k40, kn, len, hw⟩ := h
    refine ⟨_, (pss_cons (ps_if (pt_cmpR op_isN (pv 0) pe_non (nomark _)) (pss_one (ps_ret pe_str)) pss_nil)
  (pss_cons (ps_if (pt_val (pe_callB call_isi (by rfl) T.free_isinstance (by decide +kernel) (pa_cons (pv 0) (pa_cons (pe_bltn (v := .ty "int") (by rfl) T.free_int (by decide +kernel) rfl) pa_nil)))) (pss_one (ps_ret (pe_callTy call_str_int (by rfl) T.free_str (by decide +kernel) (pa_cons (pv 0) pa_nil)))) pss_nil)
  (pss_cons (ps_if (pt_val (pe_callB call_isi (by rfl) T.free_isinstance (by decide +kernel) (pa_cons (pv 0) (pa_cons (pe_bltn (v := .ty "str") (by rfl) T.free_str (by decide +kernel) rfl) pa_nil)))) (pss_one (ps_ret (pe_op op_add_str (pe_op op_add_str pe_str (pv 0)) pe_str))) pss_nil)
  (pss_one (ps_ret (pe_join pe_str (pe_lst (pa_cons pe_str (StX.pa_star (pe_lc (own := [("one", 1)]) rfl sc_write_value.nd (pi_tup (pv 0)) (blkOk_by (own := [("one", 1)]) (N := ["value", "one"]) (sc := defScope s_write_value) (by decide +kernel)) (fun _ _ _ _ _ => (pg_name (i := 1) sc_write_value.nd rfl (Or.inl rfl))) (fun _ _ _ _ _ => pts_nil) (fun _ _ _ _ _ => (pe_call G_write_value (hr.mono (by omega)) rfl T.glo_write_value k_write_value b_write_value .nil pass0 (pa_cons (pv 1) pa_nil)))) (pa_cons pe_str pa_nil)))))))))), ?_⟩
    have hk : (d = .none ∧ v = .non) ∨ (∃ i, d = .int i ∧ v = .int i) ∨ (∃ z, d = .str z ∧ v = .str z) ∨ (∃ a xs ds, d = .tuple ds ∧ v = .ref a ∧ H a = some (.tup xs) ∧ TpAll H xs ds) := by
      cases tp with
      | non => exact .inl ⟨rfl, rfl⟩
      | int i => exact .inr (.inl ⟨i, rfl, rfl⟩)
      | str z => exact .inr (.inr (.inl ⟨z, rfl, rfl⟩))
      | @tup a xs ds ha hs => exact .inr (.inr (.inr ⟨a, xs, ds, rfl, rfl, ha, hs⟩))
    rcases hk with ⟨rfl, rfl⟩ | ⟨i, rfl, rfl⟩ | ⟨z, rfl, rfl⟩ | ⟨a, xs, ds, rfl, rfl, ha, hs⟩
    · refine ⟨_, rfl, rfl, _, rfl, iteT ?_⟩
      show Q (.str (Str.ofString "none")) H
      rw [lit_nn]
      exact hw _ fun _ _ e => e
    · refine ⟨_, rfl, rfl, _, rfl, iteF ⟨_, rfl, _, _, _, _, _, rfl, .ty "int", .base (.int i), rfl, _, rfl, iteT ⟨_, rfl, _, rfl, ?_, ?_⟩⟩⟩
      · have gd : ∃ l, canon l ∧ (i = ((NumText.digitsVal l : Nat) : Int) ∨ (l ≠ [48] ∧ i = -((NumText.digitsVal l : Nat) : Int))) := gd
        obtain ⟨l, hl, hi⟩ := gd
        have e1 : i.natAbs = NumText.digitsVal l := by
          rcases hi with rfl | ⟨_, rfl⟩
          · simp
          · simp
        have h1 := canon_log hl
        have h2 := hl.1
        rw [e1]
        omega
      · exact hw _ fun _ _ e => e
    · refine ⟨_, rfl, rfl, _, rfl, iteF ⟨_, rfl, _, _, _, _, _, rfl, .ty "int", .base (.str z), rfl, _, rfl, iteF ⟨_, rfl, _, _, _, _, _, rfl, .ty "str", .base (.str z), rfl, _, rfl, iteT ⟨_, rfl, _, _, rfl, rfl, ?_, _, _, rfl, rfl, ?_, ?_⟩⟩⟩⟩
      · have len : (39 :: (z.cps.toList ++ [39])).length ≤ 100000 := len
        simp only [List.length_cons, List.length_append, List.length_nil, Array.length_toList] at len
        exact size_ok (by show 1 + z.cps.size ≤ _; omega)
      · have len : (39 :: (z.cps.toList ++ [39])).length ≤ 100000 := len
        simp only [List.length_cons, List.length_append, List.length_nil, Array.length_toList] at len
        exact size_ok (by rw [add_len]; show 1 + z.cps.size + 1 ≤ _; omega)
      · have e : Str.ofString "'" ++ z ++ Str.ofString "'" = mk (shut (.str z)) := by
          rw [lit_apo, str_mk z, mk_add, mk_add]
          rfl
        show Q (.str (Str.ofString "'" ++ z ++ Str.ofString "'")) H
        rw [e]
        exact hw _ fun _ _ e => e
    · refine ⟨_, rfl, rfl, _, rfl, iteF ⟨_, rfl, _, _, _, _, _, rfl, .ty "int", .base (.tup ha), rfl, _, rfl, iteF ⟨_, rfl, _, _, _, _, _, rfl, .ty "str", .base (.tup ha), rfl, _, rfl, iteF ?_⟩⟩⟩
      refine ⟨⟨_, rfl⟩, _, rfl, a, rfl, ⟨_, SqT.of ha⟩, fun D hD => ?_⟩
      have gd : k < 40 ∧ goodAll (k + 1) ds := gd
      have slen : (shut (.tuple ds)).length = (shutAll ds).length + 3 := by simp [shut]
      have dlen := hs.len
      have dl : ds.length ≤ (shutAll ds).length := by
        have := sum_shut ds
        omega
      refine lc_it walk_tup (fun i H' => H' D = some (.lst ((ds.take i).map fun x => V.str (mk (shut x)))) ∧ ∀ b o, H b = some o → H' b = some o)
        ⟨upd_same, fun b o e => by rw [upd_ne (ne_of_none e hD)]; exact e⟩ (fun i H' _ h => SqT.of (h.2 a _ ha)) ?_ ?_
      · rintro i y Hb Ha hi ⟨g1, g2⟩ ⟨rfl, hy⟩
        refine ⟨rfl, ?_⟩
        dsimp only [tYes]
        obtain ⟨x, hx, tx⟩ := hs.at hy
        have xin := List.mem_of_getElem? hx
        have xl := shut_in ds x xin
        refine iteT ⟨_, rfl, _, x, k + 1, rfl, tx.up (up_ext g2), good_in ds _ x gd.2 xin, by omega, by omega, by omega, fun H' kx => ?_⟩
        refine ⟨_, kx D _ g1, ?_, ?_, fun b o e => by rw [upd_ne (ne_of_none e hD)]; exact kx b o (g2 b o e)⟩
        · rw [List.length_map, List.length_take, sizeLine_eq]
          omega
        · rw [upd_same, List.take_succ, hx]
          simp
      rintro H1 ⟨g1, g2⟩
      have g1 : H1 D = some (.lst (ds.map fun x => V.str (mk (shut x)))) := by
        rw [dlen, List.take_length] at g1
        exact g1
      refine ⟨D, _, rfl, .inr (SqL.of g1), ?_, fun l hl => ?_⟩
      · rw [sizeLine_eq]
        simp only [List.length_cons, List.length_append, List.length_map, List.length_nil]
        omega
      refine ⟨_, l, [mk [40]] ++ ds.map (fun x => mk (shut x)) ++ [mk [41]], rfl, rfl, .inl (SqL.of ?_), ?_, ?_⟩
      · rw [upd_same, lit_open, lit_close]
        simp
      · have z := sum_shut ds
        have e1 : (Str.ofString " ").length = 1 := by decide +kernel
        rw [e1, List.map_append, List.map_append, List.map_map, List.sum_append, List.sum_append, List.length_append, List.length_append, List.length_map]
        show (1 + 0) + (ds.map fun x => (shut x).length).sum + (1 + 0) + (1 + ds.length + 1) * 1 ≤ _
        omega
      have tx : Txt.join (Str.ofString " ") ([mk [40]] ++ ds.map (fun x => mk (shut x)) ++ [mk [41]]) = mk (shut (.tuple ds)) := by
        rw [TL.join_eq, ← join_row]
        have z := TL.tl_join (Str.ofString " ") ([mk [40]] ++ ds.map (fun x => mk (shut x)) ++ [mk [41]])
        have e1 : TL.tl (Str.ofString " ") = [32] := by decide +kernel
        rw [e1, List.map_append, List.map_append, List.map_map] at z
        have z : (Str.join (Str.ofString " ") ([mk [40]] ++ ds.map (fun x => mk (shut x)) ++ [mk [41]])).cps.toList = TL.joinL [32] ([40] :: ds.map shut ++ [[41]]) := z
        rw [← z]
        rfl
      rw [tx]
      exact hw _ fun b o e => by rw [upd_ne (ne_of_none (g2 b o e) hl)]; exact g2 b o e
theorem ok_write (T : Tx K mg) : ∀ n, Ok w K mg base CX0 (n + 1) (ga K "write_value") ["value"] (sp_write n)
  | 0 => ok_write0 T
  | n + 1 => ok_write1 T n (ok_write T n)
end
end K93
set_option Elab.async false
set_option linter.all false
set_option maxRecDepth 100000
set_option maxHeartbeats 4000000
set_option pp.maxSteps 3000
/-! _law_due -/
namespace K93
open PySem PySem.Spec PyProof.Rows L2 He He2 M93
/-- rows at lr; what stood at H0 stands -/
structure DI (H0 : Hp) (lr : Addr) (H : Hp) (l : List (Addr × List PyData)) (B : Nat) : Prop where
  keep : ∀ b o, H0 b = some o → H b = some o
  hr : H lr = some (.lst (l.map fun e => V.ref e.1))
  rows : ∀ e ∈ l, e.2.length ≤ B ∧ ∃ xs, H e.1 = some (.lst xs) ∧ TpAll H xs e.2
  nod : (lr :: l.map (·.1)).Nodup
  nr : H0 lr = none
  new : ∀ e ∈ l, H0 e.1 = none
namespace DI
variable {H0 : Hp} {lr : Addr} {H : Hp} {l : List (Addr × List PyData)} {B : Nat}
theorem nod' (h : DI H0 lr H l B) : (∀ e ∈ l, e.1 ≠ lr) ∧ (l.map (·.1)).Nodup := by
  have z := h.nod
  simp only [List.nodup_cons] at z
  exact ⟨fun e he q => z.1 (q ▸ List.mem_map_of_mem he), z.2⟩
theorem up {B' : Nat} (h : DI H0 lr H l B) (k : B ≤ B') : DI H0 lr H l B' := ⟨h.keep, h.hr, fun e he => ⟨Nat.le_trans (h.rows e he).1 k, (h.rows e he).2⟩, h.nod, h.nr, h.new⟩
theorem grow {a : Addr} {o : HO} (h : DI H0 lr H l B) (ha : H a = none) : DI H0 lr (upd H a o) l B := by
  refine ⟨fun b u e => by rw [upd_ne (ne_of_none (h.keep b u e) ha)]; exact h.keep b u e, by rw [upd_ne (ne_of_none h.hr ha)]; exact h.hr, fun e he => ?_, h.nod, h.nr, h.new⟩
  obtain ⟨z, xs, e1, e2⟩ := h.rows e he
  exact ⟨z, xs, by rw [upd_ne (ne_of_none e1 ha)]; exact e1, e2.up (Tups.upd (none_tup ha))⟩
theorem hr' {a : Addr} {r : List PyData} (h : DI H0 lr H (l ++ [(a, r)]) B) : H lr = some (.lst ((l.map fun e => V.ref e.1) ++ [.ref a])) := by
  rw [h.hr, List.map_append]
  rfl
theorem own {a : Addr} {o : HO} (h : DI H0 lr H l B) (n : H0 a = none) : ∀ b u, H0 b = some u → upd H a o b = some u := fun b u e => by rw [upd_ne (ne_of_none e n)]; exact h.keep b u e
theorem push {a : Addr} (h : DI H0 lr H l B) (ha : H a = none) : DI H0 lr (upd (upd H a (.lst [])) lr (.lst ((l.map fun e => V.ref e.1) ++ [.ref a]))) (l ++ [(a, [])]) B := by
  obtain ⟨a7, a8⟩ := h.nod'
  have har : a ≠ lr := fun q => by rw [q, h.hr] at ha; cases ha
  have hal : ∀ e ∈ l, e.1 ≠ a := fun e he q => by
    obtain ⟨_, xs, e1, _⟩ := h.rows e he
    rw [q, ha] at e1
    cases e1
  have ha0 : H0 a = none := by
    cases e0 : H0 a with
    | none => rfl
    | some o =>
      have := h.keep a o e0
      rw [ha] at this
      cases this
  have h1 := h.grow (o := .lst []) ha
  have hr1 : upd H a (.lst []) lr = some (.lst (l.map fun e => V.ref e.1)) := h1.hr
  have up : Tups (upd H a (.lst [])) (upd (upd H a (.lst [])) lr (.lst ((l.map fun e => V.ref e.1) ++ [.ref a]))) := Tups.upd (lst_tup hr1)
  refine ⟨h1.own h.nr, ?_, ?_, ?_, h.nr, ?_⟩
  · rw [upd_same, List.map_append]
    rfl
  · intro e he
    rcases List.mem_append.mp he with q | q
    · obtain ⟨z, xs, e1, e2⟩ := h1.rows e q
      exact ⟨z, xs, by rw [upd_ne (a7 e q)]; exact e1, e2.up up⟩
    · rw [List.mem_singleton.mp q]
      exact ⟨Nat.zero_le _, [], by rw [upd_ne har]; exact upd_same, .nil⟩
  · have z := h.nod
    rw [List.map_append]
    show ((lr :: l.map (·.1)) ++ [a]).Nodup
    refine List.nodup_append.mpr ⟨z, by simp, fun x hx y hy => ?_⟩
    rw [List.mem_singleton.mp hy]
    simp only [List.mem_cons] at hx
    rcases hx with q | q
    · rw [q]; exact Ne.symm har
    · obtain ⟨e, he, e1⟩ := List.mem_map.mp q
      rw [← e1]
      exact hal e he
  · intro e he
    rcases List.mem_append.mp he with q | q
    · exact h.new e q
    · rw [List.mem_singleton.mp q]
      exact ha0
theorem pop {e : Addr × List PyData} (h : DI H0 lr H (l ++ [e]) B) : DI H0 lr (upd H lr (.lst (l.map fun e => V.ref e.1))) l B := by
  obtain ⟨a7, a8⟩ := h.nod'
  refine ⟨h.own h.nr, upd_same, fun e he => ?_, ?_, h.nr, fun e he => h.new e (List.mem_append_left _ he)⟩
  · obtain ⟨z, xs, e1, e2⟩ := h.rows _ (List.mem_append_left _ he)
    exact ⟨z, xs, by rw [upd_ne (a7 _ (List.mem_append_left _ he))]; exact e1, e2.up (Tups.upd (lst_tup h.hr))⟩
  · have z := h.nod
    rw [List.map_append] at z
    have z : ((lr :: l.map (·.1)) ++ [e.1]).Nodup := z
    exact (List.nodup_append.mp z).1
theorem addv {a : Addr} {r : List PyData} {xs : List V} {v : V} {d : PyData} (h : DI H0 lr H (l ++ [(a, r)]) B) (hxs : H a = some (.lst xs)) (tp : TpAll H xs r) (tv : Tp H v d) :
    DI H0 lr (upd H a (.lst (xs ++ [v]))) (l ++ [(a, r ++ [d])]) (B + 1) := by
  obtain ⟨a7, a8⟩ := h.nod'
  have ha := a7 (a, r) (List.mem_append_right _ (List.mem_singleton.mpr rfl))
  have nal : ∀ e ∈ l, e.1 ≠ a := fun e he q => by
    rw [List.map_append] at a8
    exact (List.nodup_append.mp a8).2.2 e.1 (List.mem_map_of_mem he) a (by simp) q
  have up : Tups H (upd H a (.lst (xs ++ [v]))) := Tups.upd (lst_tup hxs)
  have em : ((l ++ [(a, r ++ [d])]).map fun e => e.1) = (l ++ [(a, r)]).map fun e => e.1 := by simp
  refine ⟨h.own (h.new (a, r) (List.mem_append_right _ (List.mem_singleton.mpr rfl))), ?_, fun e he => ?_, ?_, h.nr, fun e he => ?_⟩
  · rw [upd_ne (Ne.symm ha), h.hr]
    simp
  · rcases List.mem_append.mp he with q | q
    · obtain ⟨z, ys, e1, e2⟩ := h.rows e (List.mem_append_left _ q)
      exact ⟨by omega, ys, by rw [upd_ne (nal e q)]; exact e1, e2.up up⟩
    · rw [List.mem_singleton.mp q]
      have z : r.length ≤ B := (h.rows (a, r) (List.mem_append_right _ (List.mem_singleton.mpr rfl))).1
      exact ⟨by show (r ++ [d]).length ≤ B + 1; rw [List.length_append, List.length_singleton]; omega, _, upd_same, (tp.snoc tv).up up⟩
  · have z := h.nod
    rw [em]
    exact z
  · rcases List.mem_append.mp he with q | q
    · exact h.new e (List.mem_append_left _ q)
    · rw [List.mem_singleton.mp q]
      exact h.new (a, r) (List.mem_append_right _ (List.mem_singleton.mpr rfl))
end DI
/-- [True, v] or [False, at] -/
def Res (H : Hp) (a : Addr) : Except Nat PyData → Prop
  | .ok v => ∃ v', H a = some (.lst [.bl true, v']) ∧ Tp H v' v
  | .error e => H a = some (.lst [.bl false, .int (e : Int)])
def sp_due : Sp := fun vs H Q _ => ∃ s : Cs, vs = [.str (mk s)] ∧ s.length ≤ 100000 ∧ ∀ a H', (∀ b o, H b = some o → H' b = some o) → Res H' a (due s) → Q (.ref a) H'
/-- an atom or a closed row, as a list -/
def TR (H : Hp) (t : Addr) : Except Nat (PyData × Nat) → Prop
  | .ok (v, b) => ∃ v', H t = some (.lst [.bl true, .int (b : Int), v']) ∧ Tp H v' v
  | .error e => H t = some (.lst [.bl false, .int (e : Int), .non])
theorem TR.at {H : Hp} {t : Addr} {s : Cs} {p : Nat} : TR (upd H t (.lst (atR (atomAt s p)))) t (atomAt s p) := by
  have key : ∀ r : Except Nat (PyData × Nat), (∀ v b, r = .ok (v, b) → (v = .none ∨ (∃ i, v = .int i) ∨ ∃ z, v = .str z)) → TR (upd H t (.lst (atR r))) t r := fun r h => by
    cases r with
    | error e => exact upd_same
    | ok vb =>
      obtain ⟨v, b⟩ := vb
      refine ⟨atV v, upd_same, ?_⟩
      rcases h v b rfl with rfl | ⟨i, rfl⟩ | ⟨z, rfl⟩
      · exact .non
      · exact .int i
      · exact .str z
  refine key _ fun v b e => ?_
  unfold atomAt at e
  split at e
  · unfold noneAt at e
    split at e
    · cases e
      exact .inl rfl
    · cases e
  · split at e
    · unfold M93.strAt at e
      split at e
      · cases e
        exact .inr (.inr ⟨_, rfl⟩)
      · cases e
    · have nf : ∀ (neg : Bool) (b' : Nat), numFrom neg s b' = .ok (v, b) → (v = .none ∨ (∃ i, v = .int i) ∨ ∃ z, v = .str z) := fun neg b' e => by
        obtain ⟨c, _, _, hv⟩ := num_cases e
        exact .inr (.inl ⟨_, hv.1⟩)
      unfold M93.numAt at e
      split at e
      · exact nf _ _ e
      · exact nf _ _ e
theorem contm_nil (s : Cs) (n : Nat) (v : PyData) (b : Nat) : contm s n [] v b = if b = s.length then .ok v else .error b := by
  rw [contm.eq_def]
theorem contm_cons (s : Cs) (n : Nat) (r : List PyData) (rs : List (List PyData)) (v : PyData) (b : Nat) : contm s n (r :: rs) v b = if s[b]? = some 32 then mach s n ((r ++ [v]) :: rs) (b + 1) else .error b := by
  rw [contm.eq_def]
theorem cut_at2 {s : Cs} {p : Nat} : cutS (mk s) (some ((p : Int) + 1)) (some ((p : Int) + 2)) = mk (sg s (p + 1)) := cut_at (s := s) (z := (p : Int) + 1) (p + 1) rfl
theorem ans_ne {s : Cs} {p c : Nat} : decide (V.str (mk (sg s p)) = V.str (mk [c])) = decide (s[p]? = some c) := sg_dec s p c
section
variable {w : World} {K : PySem.W.Frag} {mg : Str → Option Value} {base : Heap}
theorem ok_due (T : Tx K mg) : Ok w K mg base CX0 2 (ga K "_law_due") ["string"] sp_due := by
  obtain ⟨fd, F⟩ := T.fn__law_due
  obtain ⟨fd__law_atom_at, G__law_atom_at, b__law_atom_at, k__law_atom_at⟩ := ok_at (w := w) (base := base) T
  refine ⟨fd, F.ok sc__law_due (fun vs H Q E h => ?_) (fun cdv A outer s H vs Q E hr h => ?_), F.bindsN fun _ _ _ _ _ _ us hl => match us, hl with | [_], _ => rfl, F.kp⟩
  · obtain ⟨s, rfl, _⟩ := h
    rfl
  · obtain ⟨s, rfl, hs, hw⟩ := h
    refine ⟨_, (pss_cons (ps_par (i := 1) (j := 2) rfl sc__law_due.nd rfl rfl (by decide) rfl rfl (pa_cons (pe_lst pa_nil) (pa_cons pe_int pa_nil)) (by rfl))
  (pss_cons (ps_for (passes_of rfl) rfl (pi_range1 rfl T.free_range (pa_cons (pe_op op_add (pe_callB call_len_str (by rfl) T.free_len (by decide +kernel) (pa_cons (pv 0) pa_nil)) pe_int) pa_nil)) (pg_name (i := 3) sc__law_due.nd rfl (Or.inl rfl)) (pss_cons (ps_set (i := 4) sc__law_due.nd rfl (Or.inl rfl) (pe_slice sl_str (pv 0) (po_some (pv 2)) (po_some (pe_op op_add (pv 2) pe_int))))
  (pss_one (ps_if (PW.pt (pw_and (pt_cmpR op_eq (pv 4) pe_str (nomark _)) (pw_and1 (pt_cmpR op_lt (pe_callB call_len_seq (by rfl) T.free_len (by decide +kernel) (pa_cons (pv 1) pa_nil)) pe_int (nomark _))))) (pss_cons (ps_if (pt_cmpR op_ne (pe_slice sl_str (pv 0) (po_some (pe_op op_add (pv 2) pe_int)) (po_some (pe_op op_add (pv 2) pe_int))) pe_str (nomark _)) (pss_one (ps_ret (pe_lst (pa_cons pe_bl (pa_cons (pe_op op_add (pv 2) pe_int) pa_nil))))) pss_nil)
  (pss_cons (ps_expr (pe_bm PySem.F.plainAttrs_list PySem.F.slot_list_append PySem.F.type_list_append mt_append (pv 1) (pa_cons (pe_lst pa_nil) pa_nil)))
  (pss_one (ps_aug (i := 2) sc__law_due.nd rfl (.inl rfl) pe_int ip_add)))) (C8.pss_cut (ps_if (PW.pt (pw_and (pt_cmpR op_eq (pv 4) pe_str (nomark _)) (pw_and1 (pt_cmpR op_gt (pe_callB call_len_seq (by rfl) T.free_len (by decide +kernel) (pa_cons (pv 1) pa_nil)) pe_int (nomark _))))) (pss_one (ps_set (i := 5) sc__law_due.nd rfl (Or.inl rfl) (pe_lst (pa_cons pe_bl (pa_cons (pe_op op_add (pv 2) pe_int) (pa_cons (pe_callTy call_tuple_of (by rfl) T.free_tuple (by decide +kernel) (pa_cons (pe_bm0 PySem.F.plainAttrs_list PySem.F.slot_list_pop PySem.F.type_list_pop mt_pop (pv 1)) pa_nil)) pa_nil)))))) (pss_one (ps_set (i := 5) sc__law_due.nd rfl (Or.inl rfl) (pe_call G__law_atom_at (hr.mono (by decide)) rfl T.glo__law_atom_at k__law_atom_at b__law_atom_at .nil pass0 (pa_cons (pv 0) (pa_cons (pv 2) pa_nil))))))
  (pss_cons (ps_set (i := 2) sc__law_due.nd rfl (Or.inl rfl) (pe_ix ix_list (pv 5) pe_int (fun _ _ => rfl)))
  (pss_cons (ps_if (pt_not (pt_val (pe_ix ix_list (pv 5) pe_int (fun _ _ => rfl)))) (pss_one (ps_ret (pe_lst (pa_cons pe_bl (pa_cons (pv 2) pa_nil))))) pss_nil)
  (pss_cons (ps_if (pt_cmpR op_eq (pe_callB call_len_seq (by rfl) T.free_len (by decide +kernel) (pa_cons (pv 1) pa_nil)) pe_int (nomark _)) (pss_one (ps_ret (pe_ifExp (pt_cmpR op_eq (pv 2) (pe_callB call_len_str (by rfl) T.free_len (by decide +kernel) (pa_cons (pv 0) pa_nil)) (nomark _)) (pe_lst (pa_cons pe_bl (pa_cons (pe_ix ix_list (pv 5) pe_int (fun _ _ => rfl)) pa_nil))) (pe_lst (pa_cons pe_bl (pa_cons (pv 2) pa_nil)))))) pss_nil)
  (pss_cons (ps_expr (pe_bm PySem.F.plainAttrs_list PySem.F.slot_list_append PySem.F.type_list_append mt_append (pe_ix ix_list (pv 1) (pe_un un_neg pe_int) (fun _ _ => rfl)) (pa_cons (pe_ix ix_list (pv 5) pe_int (fun _ _ => rfl)) pa_nil)))
  (pss_cons (ps_if (pt_cmpR op_ne (pe_slice sl_str (pv 0) (po_some (pv 2)) (po_some (pe_op op_add (pv 2) pe_int))) pe_str (nomark _)) (pss_one (ps_ret (pe_lst (pa_cons pe_bl (pa_cons (pv 2) pa_nil))))) pss_nil)
  (pss_one (ps_aug (i := 2) sc__law_due.nd rfl (.inl rfl) pe_int ip_add))))))))))))
  (pss_one (ps_ret (pe_lst (pa_cons pe_bl (pa_cons (pe_callB call_len_str (by rfl) T.free_len (by decide +kernel) (pa_cons (pv 0) pa_nil)) pa_nil))))))), ?_⟩
    have hz : (mk s).length ≤ sizeLine := size_ok (by show s.length ≤ _; omega)
    refine ⟨size_ok (by decide), fun lr hlr => ⟨_, _, rfl, ?_⟩⟩
    have d0 : DI H lr (upd H lr (.lst [])) [] 0 := ⟨fun b o e => by rw [upd_ne (ne_of_none e hlr)]; exact e, upd_same, by simp, by simp, hlr, by simp⟩
    refine ⟨_, rfl, _, rfl, hz, _, _, rfl, rfl, _, rfl, ?_, ?_, ?_⟩
    · show -(2 ^ 62) ≤ ((s.length : Nat) : Int) + 1
      omega
    · show ((s.length : Nat) : Int) + 1 < 2 ^ 62
      omega
    refine for_it walk_range (fun i σ H' => ∃ (tv sv ov : Option V) (l : List (Addr × List PyData)) (p : Nat), σ = [some (.str (mk s)), some (.ref lr), some (.int (p : Int)), tv, sv, ov] ∧ DI H lr H' l i ∧ p ≤ s.length ∧ l.length ≤ 40 ∧ i ≤ s.length + 1 ∧ due s = mach s (s.length + 1 - i) ((l.map (·.2)).reverse) p)
      ⟨none, none, none, [], 0, rfl, d0, Nat.zero_le _, by decide, Nat.zero_le _, rfl⟩ (fun _ _ _ _ _ => trivial) ?_ ?_
    · rintro i y σ Hb Ha hi ⟨tv, sv, ov, l, p, rfl, di, hp, l40, _, em⟩ ⟨rfl, rfl⟩
      have hi : i < s.length + 1 := by
        have hi : i < (((s.length : Nat) : Int) + 1).toNat := hi
        omega
      obtain ⟨n, hn⟩ : ∃ n, s.length + 1 - i = n + 1 := ⟨s.length - i, by omega⟩
      rw [hn] at em
      refine ⟨_, rfl, _, rfl, _, rfl, _, rfl, _, _, rfl, rfl, _, rfl, _, rfl, hz, ?_⟩
      rw [cut_one]
      refine ⟨_, rfl, rfl, _, rfl, ?_⟩
      rw [lit_open, ans_ne]
      refine iteD (fun h1 => ⟨_, rfl, lr, _, rfl, .inl (SqL.of di.hr), _, _, rfl, rfl, _, rfl, iteD (fun c40 => ?_) (fun c40 => ?_)⟩) (fun h1 => iteF ?_)
      · have c40 : ((l.map fun e => V.ref e.1).length : Int) < 40 := c40
        rw [List.length_map] at c40
        have c40 : l.length < 40 := by omega
        rw [mach_succ, List.length_reverse, List.length_map, if_pos ⟨h1, c40⟩] at em
        refine ⟨_, rfl, _, rfl, _, _, rfl, rfl, _, rfl, _, rfl, _, _, rfl, rfl, _, rfl, _, rfl, hz, rfl, _, rfl, ?_⟩
        rw [cut_at2, lit_gap, ans_ne]
        refine iteN (fun hn2 => ?_) (fun hy => ?_)
        · rw [if_neg hn2] at em
          refine ⟨_, rfl, _, _, rfl, rfl, size_ok (by show 2 ≤ 16000000; decide), fun a ha => ?_⟩
          refine hw a _ (fun b o e => by rw [upd_ne (ne_of_none (di.keep b o e) ha)]; exact di.keep b o e) ?_
          rw [em]
          exact upd_same
        · rw [if_pos hy] at em
          refine ⟨_, rfl, .inl ⟨rfl, _, SqL.of di.hr⟩, size_ok (by decide), fun a ha => ?_⟩
          refine ⟨lr, _, _, rfl, rfl, (di.grow ha).hr, by rw [List.length_map, sizeLine_eq]; omega, ?_⟩
          refine ⟨_, rfl, _, _, rfl, rfl, ?_⟩
          refine ⟨_, _, _, _, p + 2, rfl, (di.push ha).up (Nat.le_succ i), lt_of_at hy, by rw [List.length_append, List.length_singleton]; omega, hi, ?_⟩
          rw [em, show s.length + 1 - (i + 1) = n by omega, List.map_append, List.reverse_append]
          rfl
      all_goals
        have hno : ¬ (s[p]? = some 40 ∧ ((l.map (·.2)).reverse).length < 40) := by
          rintro ⟨q1, q2⟩
          rw [List.length_reverse, List.length_map] at q2
          first
            | exact h1 q1
            | (have c40 : ¬ ((l.map fun e => V.ref e.1).length : Int) < 40 := c40
               rw [List.length_map] at c40
               omega)
        refine ⟨fun σ H' => ∃ (tv sv : Option V) (t : Addr) (l' : List (Addr × List PyData)) (r : Except Nat (PyData × Nat)), σ = [some (.str (mk s)), some (.ref lr), some (.int (p : Int)), tv, sv, some (.ref t)] ∧ DI H lr H' l' i ∧ TR H' t r ∧ l'.length ≤ 40 ∧
          due s = (match r with | .error e => .error e | .ok (v, b) => contm s n ((l'.map (·.2)).reverse) v b) ∧ (∀ e ∈ l', e.1 ≠ t), ?_, ?_⟩
        · refine ⟨_, rfl, rfl, _, rfl, ?_⟩
          rw [lit_close, ans_ne]
          refine iteD (fun h2 => ⟨_, rfl, lr, _, rfl, .inl (SqL.of di.hr), _, _, rfl, rfl, _, rfl, iteD (fun c0 => ?_) (fun c0 => ?_)⟩) (fun h2 => iteF ?_)
          · -- a row closed
            have c0 : ((l.map fun e => V.ref e.1).length : Int) > 0 := c0
            rw [List.length_map] at c0
            obtain ⟨l', e2, rfl⟩ := snoc_of (l := l) (by omega)
            obtain ⟨a, r⟩ := e2
            rw [mach_succ, if_neg hno, List.map_append, List.reverse_append] at em
            have em : due s = contm s n ((l'.map (·.2)).reverse) (.tuple r) (p + 1) := by
              rw [em]
              show (if s[p]? = some 41 then _ else _) = _
              rw [if_pos h2]
              rfl
            obtain ⟨z, ys, g1, g2⟩ := di.rows (a, r) (by simp)
            have al := di.nod'.1 (a, r) (by simp)
            have d2 := di.pop
            have g1' : upd _ lr (.lst (l'.map fun e => V.ref e.1)) a = some (.lst ys) := (upd_ne al).trans g1
            refine ⟨_, rfl, _, _, rfl, rfl, ?_⟩
            refine ⟨_, rfl, .inl ⟨rfl, _, SqL.of di.hr'⟩, lr, _, .ref a, rfl, rfl, di.hr', by simp, ?_⟩
            rw [List.dropLast_concat]
            refine ⟨a, ys, rfl, .inl ⟨SqL.of g1', fun t ht => ?_⟩⟩
            have d3 := d2.grow (o := .tup ys) ht
            refine ⟨size_ok (by show 3 ≤ 16000000; decide), fun q hq => ?_⟩
            have d4 := d3.grow (o := .lst [.bl true, .int ((p : Int) + 1), .ref t]) hq
            have qt : t ≠ q := fun e => by rw [← e, upd_same] at hq; cases hq
            refine ⟨_, _, q, l', .ok (.tuple r, p + 1), rfl, d4, ⟨.ref t, upd_same, .tup (xs := ys) (by rw [upd_ne qt]; exact upd_same) (g2.up ?_)⟩, ?_, em, fun e he q' => ?_⟩
            · exact (Tups.upd (lst_tup di.hr)).trans ((Tups.upd (none_tup ht)).trans (Tups.upd (none_tup hq)))
            · rw [List.length_append, List.length_singleton] at l40
              omega
            · obtain ⟨_, xs, e1, _⟩ := d3.rows e he
              rw [q', hq] at e1
              cases e1
          all_goals
            have h41 : s[p]? = some 41 → (l.map (·.2)).reverse = [] := fun q => by
              first
                | exact absurd q h2
                | (have c0 : ¬ ((l.map fun e => V.ref e.1).length : Int) > 0 := c0
                   rw [List.length_map] at c0
                   have z : l = [] := List.length_eq_zero_iff.mp (by omega)
                   rw [z]
                   rfl)
            rw [mach_atom hno h41] at em
            refine ⟨_, rfl, _, rfl, s, p, rfl, hs, hp, fun a ha => ?_⟩
            refine ⟨_, _, a, l, atomAt s p, rfl, di.grow ha, TR.at, l40, em, fun e he q' => ?_⟩
            obtain ⟨_, xs, e1, _⟩ := di.rows e he
            rw [q', ha] at e1
            cases e1
        rintro σ H' ⟨tv, sv, t, l', r, rfl, dj, tr, l40', em', ht'⟩
        cases r with
        | error e =>
          have ht : H' t = some (.lst [.bl false, .int (e : Int), .non]) := tr
          refine ⟨_, rfl, _, _, _, _, rfl, rfl, SqL.of ht, rfl, ?_⟩
          refine ⟨_, rfl, _, _, _, _, rfl, rfl, SqL.of ht, rfl, _, rfl, iteT ?_⟩
          refine ⟨_, rfl, size_ok (by show 2 ≤ 16000000; decide), fun a ha => ?_⟩
          refine hw a _ (fun b o e => by rw [upd_ne (ne_of_none (dj.keep b o e) ha)]; exact dj.keep b o e) ?_
          rw [em']
          exact upd_same
        | ok vb =>
          obtain ⟨v, b⟩ := vb
          obtain ⟨v', ht, tv'⟩ := tr
          have em' : due s = contm s n ((l'.map (·.2)).reverse) v b := em'
          refine ⟨_, rfl, _, _, _, _, rfl, rfl, SqL.of ht, rfl, ?_⟩
          refine ⟨_, rfl, _, _, _, _, rfl, rfl, SqL.of ht, rfl, _, rfl, iteF ?_⟩
          refine ⟨_, rfl, lr, _, rfl, .inl (SqL.of dj.hr), rfl, _, rfl, iteD (fun h0 => ?_) (fun h0 => ?_)⟩
          · have z : l' = [] := by
              have h0 := V.int.inj h0
              rw [List.length_map] at h0
              exact List.length_eq_zero_iff.mp (by omega)
            subst z
            have em' : due s = if b = s.length then .ok v else .error b := em'.trans (contm_nil s n v b)
            refine ⟨_, rfl, _, rfl, _, rfl, hz, rfl, _, rfl, iteD (fun hb => ?_) (fun hb => ?_)⟩
            · have hb : b = s.length := by
                have hb : ((b : Nat) : Int) = ((s.length : Nat) : Int) := V.int.inj hb
                omega
              rw [if_pos hb] at em'
              refine ⟨_, rfl, _, _, _, _, rfl, rfl, SqL.of ht, rfl, size_ok (by show 2 ≤ 16000000; decide), fun a ha => ?_⟩
              refine hw a _ (fun b o e => by rw [upd_ne (ne_of_none (dj.keep b o e) ha)]; exact dj.keep b o e) ?_
              rw [em']
              exact ⟨v', upd_same, tv'.up (Tups.upd (none_tup ha))⟩
            · have hb : b ≠ s.length := fun q => hb (by rw [q]; rfl)
              rw [if_neg hb] at em'
              refine ⟨_, rfl, size_ok (by show 2 ≤ 16000000; decide), fun a ha => ?_⟩
              refine hw a _ (fun b o e => by rw [upd_ne (ne_of_none (dj.keep b o e) ha)]; exact dj.keep b o e) ?_
              rw [em']
              exact upd_same
          · have z : 0 < l'.length := by
              rcases Nat.eq_zero_or_pos l'.length with q | q
              · refine absurd ?_ h0
                rw [List.length_map, q]
                rfl
              · exact q
            obtain ⟨l2, e2, rfl⟩ := snoc_of z
            obtain ⟨a, r⟩ := e2
            rw [List.map_append, List.reverse_append] at em'
            have em' : due s = if s[b]? = some 32 then mach s n ((r ++ [v]) :: (l2.map (·.2)).reverse) (b + 1) else .error b := em'.trans (contm_cons s n r _ v b)
            obtain ⟨zl, xs, x1, x2⟩ := dj.rows (a, r) (by simp)
            have xl : xs.length ≤ 200000 := by
              have z1 : xs.length = r.length := x2.len
              have zl : r.length ≤ i := zl
              omega
            have d5 := dj.addv x1 x2 tv'
            refine ⟨_, rfl, _, rfl, _, _, _, _, rfl, rfl, SqL.of dj.hr', atI_last _ _, .inl ⟨rfl, _, SqL.of x1⟩, _, rfl, _, _, _, _, rfl, rfl, SqL.of ht, rfl, a, xs, _, rfl, rfl, x1, ?_, ?_⟩
            · rw [sizeLine_eq]
              omega
            refine ⟨_, rfl, _, rfl, _, rfl, _, rfl, _, _, rfl, rfl, _, rfl, _, rfl, hz, rfl, _, rfl, ?_⟩
            rw [cut_one, lit_gap, ans_ne]
            refine iteN (fun hn2 => ?_) (fun hy => ?_)
            · rw [if_neg hn2] at em'
              refine ⟨_, rfl, size_ok (by show 2 ≤ 16000000; decide), fun q hq => ?_⟩
              refine hw q _ (fun b o e => by rw [upd_ne (ne_of_none (d5.keep b o e) hq)]; exact d5.keep b o e) ?_
              rw [em']
              exact upd_same
            · rw [if_pos hy] at em'
              refine ⟨_, rfl, _, _, rfl, rfl, ?_⟩
              refine ⟨_, _, _, _, b + 1, rfl, d5, lt_of_at hy, by simp at l40' ⊢; omega, hi, ?_⟩
              rw [em', show s.length + 1 - (i + 1) = n by omega, List.map_append, List.reverse_append]
              rfl
    · rintro σ H' ⟨tv, sv, ov, l, p, rfl, di, hp, l40, _, em⟩
      have em : due s = .error s.length := by
        have e0 : s.length + 1 - ((((mk s).length : Nat) : Int) + 1).toNat = 0 := by
          rw [mk_len]
          omega
        rw [em, e0]
        simp only [mach]
      refine ⟨_, rfl, _, rfl, hz, size_ok (by show 2 ≤ 16000000; decide), fun a ha => ?_⟩
      refine hw a _ (fun b o e => by rw [upd_ne (ne_of_none (di.keep b o e) ha)]; exact di.keep b o e) ?_
      rw [em]
      exact upd_same
end
end K93
set_option Elab.async false
set_option linter.all false
set_option maxRecDepth 100000
set_option maxHeartbeats 4000000
set_option pp.maxSteps 3000
/-! _law_read, _law_same -/
namespace L2
open PySem PySem.Spec PyProof.Rows
theorem call_isSupG {X : Cx} {a D : Addr} {cls : Value} {d : Option Addr} {oe : Obj} {pn : List (Addr × Obj)} (C : ExcC X.K D) (hz : Zc cls d oe) (hf : ∃ vs, oe.data = .fields vs) : CallR (X.suite a ((a, oe) :: pn)) (.builtin "isinstance")
    (fun xs H Q => ∃ (dd : Addr) (fs : List (Str × V)), cls = .ref D ∧ d = some dd ∧ H dd = some (.xd fs) ∧ rIsE X.K D a xs H Q) := by
  intro pins s σ H xs us Q I r h
  obtain ⟨dd, fs, rfl, rfl, h⟩ := h
  exact call_isSup C hz hf pins s σ H xs us Q I r h
end L2
namespace K93
open PySem PySem.Spec PyProof.Rows L2 He He2 M93
section
variable {w : World} {K : PySem.W.Frag} {mg : Str → Option Value} {base : Heap}
def isR (K : PySem.W.Frag) (a : Addr) (cls : Value) (d : Option Addr) : List V → Hp → VK → Prop := fun xs H Q => ∃ (dd : Addr) (fs : List (Str × V)), cls = .ref (ga K "BadSeal") ∧ d = some dd ∧ H dd = some (.xd fs) ∧ rIsE K (ga K "BadSeal") a xs H Q
def ts_read (K : PySem.W.Frag) (a : Addr) (cls : Value) (d : Option Addr) : TS :=
  tSeq (tAsg (tAndV (tCB (isR K a cls d) (tCons (tVar 1) (tCons (tC (.ref (ga K "SweepError"))) tNil))) (tCB (isR K a cls d) (tCons (tVar 1) (tCons (tC (.ty "ValueError")) tNil)))) (gName 2))
    (tRet (tIf (tB (tVar 2)) (tLst (tCons (tC (.bl false)) (tCons (tBySup (ga K "BadSeal") "at" a cls d (tVar 1)) tNil))) (tLst (tCons (tC .non) (tCons (tBySup (ga K "BadSeal") "at" a cls d (tVar 1)) tNil)))))
def sp_read : Sp := fun vs H Q _ => ∃ s : Cs, vs = [.str (mk s)] ∧ s.length ≤ 100000 ∧ ∀ a H', (∀ b o, H b = some o → H' b = some o) → Res H' a (due s) → (∃ r, R1 s 0 0 r) → Q (.ref a) H'
theorem ok_read (T : Tx K mg) : Ok w K mg base CX0 88 (ga K "_law_read") ["string"] sp_read := by
  obtain ⟨fd, F⟩ := T.fn__law_read
  obtain ⟨fd_read_value, G_read_value, b_read_value, k_read_value⟩ := ok_val (w := w) (base := base) T
  refine ⟨fd, F.ok sc__law_read (fun vs H Q E h => ?_) (fun cdv A outer s H vs Q E hr h => ?_), F.bindsN fun _ _ _ _ _ _ us hl => match us, hl with | [_], _ => rfl, F.kp⟩
  · obtain ⟨s, rfl, _⟩ := h
    rfl
  · obtain ⟨s, rfl, hs, hw⟩ := h
    have hr1 : Room 87 _ := hr.mono (by decide)
    refine ⟨_, pss_one (ps_try_as (i := 1) (tb := fun W => tRet (tLst (tCons (tC (.bl true)) (tCons (tCallS (sp_val K) (WE W) (tCons (tVar 0) tNil)) tNil)))) (ts := ts_read K) (Wout := fun _ _ _ _ => False) rfl rfl sc__law_read.nd rfl rfl ⟨rfl, by decide, Or.inl T.sup.gC⟩ takes0
      (fun W pn xe tk _ => pss_one (ps_ret (pe_lst (pa_cons pe_bl (pa_cons (by exact (pe_callS G_read_value hr1 rfl T.glo_read_value k_read_value b_read_value (fun σ => passAt tk σ) (by exact (pa_cons (pv 0) pa_nil)))) pa_nil)))))
      (fun a oe cls d pn hz hf => pss_cons (ps_set (i := 2) sc__law_read.nd rfl (Or.inl rfl) (pe_and (pe_callB (call_isSupG T.excC hz hf) (by rfl) T.free_isinstance (by decide +kernel) (pa_cons (pv 1) (pa_cons (pe_glob (v := .ref (ga K "SweepError")) rfl T.glo_SweepError rfl) pa_nil)))
        (pe_one (pe_callB (call_isSupG T.excC hz hf) (by rfl) T.free_isinstance (by decide +kernel) (pa_cons (pv 1) (pa_cons (pe_bltn (v := .ty "ValueError") (by rfl) T.free_ValueError (by decide +kernel) rfl) pa_nil))))))
        (pss_one (ps_ret (pe_ifExp (pt_val (pv 2)) (pe_lst (pa_cons pe_bl (pa_cons (pe_bySup T.sup hz hf (pv 1)) pa_nil))) (pe_lst (pa_cons pe_non (pa_cons (pe_bySup T.sup hz hf (pv 1)) pa_nil)))))))), ?_⟩
    refine ⟨_, rfl, s, rfl, hs, fun r hr1 => ?_⟩
    rw [← due_fin hr1]
    cases hd : due s with
    | ok v =>
      intro v' H' kp tv
      refine ⟨size_ok (by show 2 ≤ 16000000; decide), fun a ha => ?_⟩
      refine hw a _ (fun b o e => by rw [upd_ne (ne_of_none (kp b o e) ha)]; exact kp b o e) ?_ ⟨_, hr1⟩
      rw [hd]
      exact ⟨v', upd_same, tv.up (Tups.upd (none_tup ha))⟩
    | error e =>
      intro H' dd kp hdd
      refine ⟨true, T.sup.te, fun _ a ha => ?_, fun q => by cases q⟩
      refine ⟨_, rfl, dd, _, rfl, rfl, hdd, _, .ref (ga K "SweepError"), true, rfl, fun u q => q, T.is1, true, rfl, iteT ⟨_, rfl, dd, _, rfl, rfl, hdd, _, .type "ValueError", true, rfl, fun u q => q, T.is2, ?_⟩⟩
      refine ⟨_, rfl, true, rfl, iteT ⟨_, rfl, rfl, rfl, dd, _, rfl, hdd, size_ok (by show 2 ≤ 16000000; decide), fun q hq => ?_⟩⟩
      refine hw q _ (fun b o e => by rw [upd_ne (ne_of_none (kp b o e) hq)]; exact kp b o e) ?_ ⟨_, hr1⟩
      rw [hd]
      exact upd_same
def sp_same (K : PySem.W.Frag) : Sp := fun vs H Q _ => ∃ (v u : V) (d : PyData), vs = [v, u] ∧ Dp K H v d ∧ Dp K H u d ∧ SeqAt.shaped d = true ∧ PyData.eqv d d = true ∧ d.showable = true ∧ d.hasDict = false ∧ d.depth ≤ 50 ∧ d.shown.length ≤ sizeLine ∧ Q (.bl true) H
theorem ok_same (T : Tx K mg) : ∃ fd, FnOkG prog w K mg base CX0 1 (ga K "_law_same") fd ["told", "due"] (sp_same K) ∧ Binds K fd ["told", "due"] [] ∧ PySem.W.keepIn K (.ref (ga K "_law_same")) = true := by
  obtain ⟨fd, F⟩ := T.fn__law_same
  refine ⟨fd, F.okG sc__law_same (fun vs H Q E h => ?_) (fun cdv A outer s H vs Q E hgd hr h => ?_), F.bindsN fun _ _ _ _ _ _ us hl => match us, hl with | [_, _], _ => rfl, F.kp⟩
  · obtain ⟨v, u, d, rfl, _⟩ := h
    rfl
  · obtain ⟨v, u, d, rfl, dv, du, sd, eq, sh, hdc, dd, sz, q⟩ := h
    refine ⟨_, (pss_one (ps_ret (pe_and (pe_cmpR (op_eqD hr.units) (pv 0) (pv 1) (nomark _)) (pe_one (pe_cmpR op_eq (pe_callB (call_repr_data hgd) (by rfl) T.free_repr (by decide +kernel) (pa_cons (pv 0) pa_nil)) (pe_callB (call_repr_data hgd) (by rfl) T.free_repr (by decide +kernel) (pa_cons (pv 1) pa_nil)) (nomark _)))))), ?_⟩
    have un := hr.units
    have hu : ∀ X : Around, X.units + 64 < cLine → X.units + (d.depth + 1) < cLine := fun X h => by omega
    refine ⟨_, rfl, _, rfl, d, d, dv, du, sd, sd, _, rfl, ?_⟩
    rw [eq]
    refine iteT ⟨_, rfl, v, d, rfl, dv, sh, hdc, hu _ un, sz, _, rfl, u, d, rfl, du, sh, hdc, hu _ un, sz, rfl, ?_⟩
    rw [decide_eq_true rfl]
    exact q
end
end K93
set_option Elab.async false
set_option linter.all false
set_option maxRecDepth 100000
set_option maxHeartbeats 4000000
set_option pp.maxSteps 3000
/-! the law -/
namespace K93
open PySem PySem.Spec PyProof.Rows L2 He He2 M93
def dat : Except Nat PyData → PyData
  | .ok v => .list [.bool true, v]
  | .error e => .list [.bool false, .int (e : Int)]
theorem Res.dp {K : PySem.W.Frag} {H : Hp} {a : Addr} {r : Except Nat PyData} (h : Res H a r) : Dp K H (.ref a) (dat r) := by
  cases r with
  | ok v =>
    obtain ⟨v', h1, h2⟩ := h
    exact .lst (SqL.of h1) (.cons (.bl true) (.cons h2.dp .nil))
  | error e => exact .lst (SqL.of (show H a = _ from h)) (.cons (.bl false) (.cons (.int _) .nil))
theorem Res.up {H H' : Hp} {a : Addr} {r : Except Nat PyData} (h : Res H a r) (k : ∀ b o, H b = some o → H' b = some o) : Res H' a r := by
  cases r with
  | ok v =>
    obtain ⟨v', h1, h2⟩ := h
    exact ⟨v', k _ _ h1, h2.up (up_ext k)⟩
  | error e => exact k _ _ h
/-- a text and what it tells, at a -/
def Told (H : Hp) (a : Addr) (v : V) (d : PyData) : Prop := H a = some (.lst [.str (mk (shut d)), v]) ∧ Tp H v d ∧ good 0 d ∧ (shut d).length ≤ 5000
theorem Told.up {H H' : Hp} {a : Addr} {v : V} {d : PyData} (h : Told H a v d) (k : ∀ b o, H b = some o → H' b = some o) : Told H' a v d := ⟨k _ _ h.1, h.2.1.up (up_ext k), h.2.2⟩
theorem Told.keep {H H' : Hp} {a p : Addr} {v : V} {d : PyData} (h : Told H a v d) (n : a ≠ p) (k : Keep p H H') (t : ∀ xs, H p ≠ some (.tup xs)) : Told H' a v d := ⟨k _ _ n h.1, h.2.1.up (k.tups t), h.2.2⟩
structure LI (p u a1 : Addr) (v1 : V) (d1 : PyData) (a2 : Addr) (v2 : V) (d2 : PyData) (lt : Addr) (n : Nat) (H : Hp) : Prop where
  pool : Pool H p u n
  t1 : Told H a1 v1 d1
  t2 : Told H a2 v2 d2
  lst : H lt = some (.lst [.ref a1, .ref a2])
  n1 : a1 ≠ p
  n2 : a2 ≠ p
  nl : lt ≠ p
namespace LI
variable {p u a1 : Addr} {v1 : V} {d1 : PyData} {a2 : Addr} {v2 : V} {d2 : PyData} {lt : Addr} {n : Nat} {H H' : Hp}
theorem up (h : LI p u a1 v1 d1 a2 v2 d2 lt n H) (k : ∀ b o, H b = some o → H' b = some o) : LI p u a1 v1 d1 a2 v2 d2 lt n H' := ⟨h.pool.up k, h.t1.up k, h.t2.up k, k _ _ h.lst, h.n1, h.n2, h.nl⟩
theorem take {n' : Nat} (h : LI p u a1 v1 d1 a2 v2 d2 lt n H) (k : Keep p H H') (q : Pool H' p u n') : LI p u a1 v1 d1 a2 v2 d2 lt n' H' := ⟨q, h.t1.keep h.n1 k h.pool.tups, h.t2.keep h.n2 k h.pool.tups, k _ _ h.nl h.lst, h.n1, h.n2, h.nl⟩
end LI
theorem ext_new {H : Hp} {a : Addr} {o : HO} (h : H a = none) : ∀ b u, H b = some u → upd H a o b = some u := fun b u e => by rw [upd_ne (ne_of_none e h)]; exact e
theorem ext_tr {H H1 H2 : Hp} (a : ∀ b u, H b = some u → H1 b = some u) (b : ∀ b u, H1 b = some u → H2 b = some u) : ∀ b u, H b = some u → H2 b = some u := fun c u e => b c u (a c u e)
section
variable {w : World} {K : PySem.W.Frag} {mg : Str → Option Value} {base : Heap}
def sp_law (K : PySem.W.Frag) : Sp := fun vs H Q _ => ∃ (a : Addr) (ns : List Int), vs = [.ref a] ∧ SqL K H a (ns.map V.int) ∧ ns.length ≤ 1000000 ∧ ∀ H', Q (.bl true) H'
/-- alike, as _law_same is asked -/
theorem same_ok {v u : V} {d : PyData} {H : Hp} {Q : VK} {E : XK} (h1 : Dp K H v d) (h2 : Dp K H u d) (f : Fit d) (q : Q (.bl true) H) : sp_same K [v, u] H Q E :=
  ⟨v, u, d, rfl, h1, h2, f.1, f.2.1, f.2.2.1, f.2.2.2.1, f.2.2.2.2.1, f.2.2.2.2.2, q⟩
theorem ok_law (T : Tx K mg) {fd : FuncData} (F : FnP K "law" "law" s_law (ga K "law") fd) : FnOkG prog w K mg base CX0 90 (ga K "law") fd ["script"] (sp_law K) := by
  obtain ⟨fd__law_same, G__law_same, b__law_same, k__law_same⟩ := ok_same (w := w) (base := base) T
  obtain ⟨fd__law_pool, G__law_pool, b__law_pool, k__law_pool⟩ := ok_pool (w := w) (base := base) T
  obtain ⟨fd__law_value, G__law_value, b__law_value, k__law_value⟩ := ok_lvalue (w := w) (base := base) T
  obtain ⟨fd__law_read, G__law_read, b__law_read, k__law_read⟩ := ok_read (w := w) (base := base) T
  obtain ⟨fd_write_value, G_write_value, b_write_value, k_write_value⟩ := ok_write (w := w) (base := base) T 41
  obtain ⟨fd__law_spoilt, G__law_spoilt, b__law_spoilt, k__law_spoilt⟩ := ok_spoilt (w := w) (base := base) T
  obtain ⟨fd__law_due, G__law_due, b__law_due, k__law_due⟩ := ok_due (w := w) (base := base) T
  refine F.okG sc_law (fun vs H Q E h => ?_) (fun cdv A outer s H vs Q E hgd hr h => ?_)
  · obtain ⟨a, ns, rfl, _⟩ := h
    rfl
  · obtain ⟨a, ns, rfl, hS, hns, hw⟩ := h
    refine ⟨_, (pss_cons (ps_set (i := 1) sc_law.nd rfl (Or.inl rfl) (pe_call G__law_pool (hr.mono (by decide)) rfl T.glo__law_pool k__law_pool b__law_pool .nil pass0 (pa_cons (pv 0) pa_nil)))
  (pss_cons (ps_set (i := 2) sc_law.nd rfl (Or.inl rfl) (pe_lst (pa_cons (pe_call G__law_value (hr.mono (by decide)) rfl T.glo__law_value k__law_value b__law_value .nil pass0 (pa_cons (pv 1) pa_nil)) (pa_cons (pe_call G__law_value (hr.mono (by decide)) rfl T.glo__law_value k__law_value b__law_value .nil pass0 (pa_cons (pv 1) pa_nil)) pa_nil))))
  (pss_cons (ps_for (passes_of rfl) rfl (pi_list (pe_op op_cat (pv 2) (pe_slice sl_list (pv 2) po_none (po_some pe_int)))) (pg_name (i := 3) sc_law.nd rfl (Or.inl rfl)) (pss_one (ps_if (PW.pt (pw_or (pt_not (pt_val (pe_callG G__law_same hgd (hr.mono (by decide)) rfl T.glo__law_same k__law_same b__law_same .nil pass0 (pa_cons (pe_call G_write_value (hr.mono (by decide)) rfl T.glo_write_value k_write_value b_write_value .nil pass0 (pa_cons (pe_ix ix_list (pv 3) pe_int (fun _ _ => rfl)) pa_nil)) (pa_cons (pe_ix ix_list (pv 3) pe_int (fun _ _ => rfl)) pa_nil))))) (pw_or1 (pt_not (pt_val (pe_callG G__law_same hgd (hr.mono (by decide)) rfl T.glo__law_same k__law_same b__law_same .nil pass0 (pa_cons (pe_call G__law_read (hr.mono (by decide)) rfl T.glo__law_read k__law_read b__law_read .nil pass0 (pa_cons (pe_ix ix_list (pv 3) pe_int (fun _ _ => rfl)) pa_nil)) (pa_cons (pe_lst (pa_cons pe_bl (pa_cons (pe_ix ix_list (pv 3) pe_int (fun _ _ => rfl)) pa_nil))) pa_nil)))))))) (pss_one (ps_ret pe_bl)) pss_nil)))
  (pss_cons (ps_for (passes_of rfl) rfl (pi_range1 rfl T.free_range (pa_cons pe_int pa_nil)) (pg_name (i := 4) sc_law.nd rfl (Or.inl rfl)) (pss_cons (ps_set (i := 5) sc_law.nd rfl (Or.inl rfl) (pe_call G__law_spoilt (hr.mono (by decide)) rfl T.glo__law_spoilt k__law_spoilt b__law_spoilt .nil pass0 (pa_cons (pv 1) (pa_cons (pe_ix ix_list (pe_ix ix_list (pv 2) (pe_op op_mod (pe_callTy call_int1 (by rfl) T.free_int (by decide +kernel) (pa_cons (pv 4) pa_nil)) pe_int) (fun _ _ => rfl)) pe_int (fun _ _ => rfl)) pa_nil))))
  (pss_cons (ps_set (i := 6) sc_law.nd rfl (Or.inl rfl) (pe_call G__law_due (hr.mono (by decide)) rfl T.glo__law_due k__law_due b__law_due .nil pass0 (pa_cons (pv 5) pa_nil)))
  (pss_cons (ps_if (pt_not (pt_val (pe_callG G__law_same hgd (hr.mono (by decide)) rfl T.glo__law_same k__law_same b__law_same .nil pass0 (pa_cons (pe_call G__law_read (hr.mono (by decide)) rfl T.glo__law_read k__law_read b__law_read .nil pass0 (pa_cons (pv 5) pa_nil)) (pa_cons (pv 6) pa_nil))))) (pss_one (ps_ret pe_bl)) pss_nil)
  (pss_one (ps_if (PW.pt (pw_and (pt_val (pe_ix ix_list (pv 6) pe_int (fun _ _ => rfl))) (pw_and1 (pt_not (pt_val (pe_callG G__law_same hgd (hr.mono (by decide)) rfl T.glo__law_same k__law_same b__law_same .nil pass0 (pa_cons (pe_call G_write_value (hr.mono (by decide)) rfl T.glo_write_value k_write_value b_write_value .nil pass0 (pa_cons (pe_ix ix_list (pv 6) pe_int (fun _ _ => rfl)) pa_nil)) (pa_cons (pv 5) pa_nil)))))))) (pss_one (ps_ret pe_bl)) pss_nil))))))
  (pss_one (ps_ret (pe_callG G__law_same hgd (hr.mono (by decide)) rfl T.glo__law_same k__law_same b__law_same .nil pass0 (pa_cons (pe_call G__law_read (hr.mono (by decide)) rfl T.glo__law_read k__law_read b__law_read .nil pass0 (pa_cons (pe_ix ix_list (pe_ix ix_list (pv 2) pe_int (fun _ _ => rfl)) pe_int (fun _ _ => rfl)) pa_nil)) (pa_cons (pe_lst (pa_cons pe_bl (pa_cons (pe_ix ix_list (pe_ix ix_list (pv 2) pe_int (fun _ _ => rfl)) pe_int (fun _ _ => rfl)) pa_nil))) pa_nil))))))))), ?_⟩
    refine ⟨_, rfl, a, ns, rfl, hS, hns, fun p u H1 k1 hp1 => ?_⟩
    refine ⟨_, rfl, p, u, 0, rfl, hp1, by decide, fun a1 v1 d1 H2 h1 t1 g1 z1 n1 ap1 k2 hp2 => ?_⟩
    refine ⟨_, rfl, p, u, _, rfl, hp2, by decide, fun a2 v2 d2 H3 h2 t2 g2 z2 n2 ap2 k3 hp3 => ?_⟩
    have T1 : Told H2 a1 v1 d1 := ⟨h1, t1, g1, z1⟩
    have T1 := T1.keep ap1 k3 hp2.tups
    have T2 : Told H3 a2 v2 d2 := ⟨h2, t2, g2, z2⟩
    refine ⟨size_ok (by show 2 ≤ 16000000; decide), fun lt hlt => ?_⟩
    have L : LI p u a1 v1 d1 a2 v2 d2 lt 2000 (upd H3 lt (.lst [.ref a1, .ref a2])) := ⟨(hp3.grow hlt).mono (by decide), T1.up (ext_new hlt), T2.up (ext_new hlt), upd_same, ap1, ap2, hp3.ne hlt⟩
    generalize upd H3 lt (.lst [.ref a1, .ref a2]) = H4 at L ⊢
    refine ⟨_, rfl, _, rfl, 1, rfl, lt, _, rfl, SqL.of L.lst, fun lq hlq => ?_⟩
    have L := L.up (ext_new (o := .lst (cutV [.ref a1, .ref a2] none (some 1))) hlq)
    refine ⟨lt, lq, _, _, rfl, rfl, L.lst, upd_same, size_ok (by show 3 ≤ 16000000; decide), fun l3 hl3 => ?_⟩
    have L := L.up (ext_new (o := .lst ([.ref a1, .ref a2] ++ cutV [.ref a1, .ref a2] none (some 1))) hl3)
    refine ⟨l3, rfl, ⟨_, SqL.of upd_same⟩, ?_⟩
    have hl : upd (upd H4 lq (.lst (cutV [.ref a1, .ref a2] none (some 1)))) l3 (.lst ([.ref a1, .ref a2] ++ cutV [.ref a1, .ref a2] none (some 1))) l3 = some (.lst [.ref a1, .ref a2, .ref a1]) := upd_same
    refine for_it (walk_list (xs := [.ref a1, .ref a2, .ref a1])) (fun i σ H' => ∃ ov : Option V, σ = [some (.ref a), some (.ref p), some (.ref lt), ov, none, none, none] ∧ LI p u a1 v1 d1 a2 v2 d2 lt 2000 H' ∧ H' l3 = some (.lst [.ref a1, .ref a2, .ref a1]))
      ⟨none, rfl, L, hl⟩ (fun i σ H' _ h => by obtain ⟨_, _, _, h⟩ := h; exact SqL.of h) ?_ ?_
    · rintro i y σ Hb Ha hi ⟨ov, rfl, L, h3⟩ ⟨rfl, hy⟩
      obtain ⟨b, vb, db, rfl, tb⟩ : ∃ b vb db, y = .ref b ∧ Told Ha b vb db := by
        match i, hy with
        | 0, hy => cases hy; exact ⟨a1, v1, d1, rfl, L.t1⟩
        | 1, hy => cases hy; exact ⟨a2, v2, d2, rfl, L.t2⟩
        | 2, hy => cases hy; exact ⟨a1, v1, d1, rfl, L.t1⟩
        | i + 3, hy => cases hy
      obtain ⟨hb, tb', gb, zb⟩ := tb
      have fs := fit_shut gb (by omega)
      have fv := (fit_good gb (by omega)).2
      refine ⟨_, rfl, _, _, _, _, rfl, rfl, SqL.of hb, rfl, vb, db, 0, rfl, tb', gb, by decide, by decide, by omega, fun H5 k5 => ?_⟩
      refine ⟨_, rfl, _, _, _, _, rfl, rfl, SqL.of (k5 _ _ hb), rfl, ⟨_, _, _, rfl, (.str _), (.str _), fs.1, fs.2.1, fs.2.2.1, fs.2.2.2.1, fs.2.2.2.2.1, fs.2.2.2.2.2, true, rfl, iteF ?_⟩⟩
      refine ⟨_, rfl, _, _, _, _, rfl, rfl, SqL.of (k5 _ _ hb), rfl, shut db, rfl, by omega, fun q H6 k6 res ex => ?_⟩
      rw [fin_shut gb] at res
      refine ⟨_, rfl, _, _, _, _, rfl, rfl, SqL.of (k6 _ _ (k5 _ _ hb)), rfl, size_ok (by show 2 ≤ 16000000; decide), fun m hm => ?_⟩
      have k7 := ext_tr (ext_tr k5 k6) (ext_new (o := .lst [.bl true, vb]) hm)
      refine ⟨_, _, _, rfl, (res.up (ext_new hm)).dp, (.lst (SqL.of upd_same) (.cons (.bl true) (.cons (tb'.up (up_ext k7)).dp .nil))), fv.1, fv.2.1, fv.2.2.1, fv.2.2.2.1, fv.2.2.2.2.1, fv.2.2.2.2.2, true, rfl, iteF ?_⟩
      exact ⟨_, rfl, L.up k7, k7 _ _ h3⟩
    · rintro σ H5 ⟨ov, rfl, L, _⟩
      refine ⟨_, rfl, by decide, by decide, ?_⟩
      refine for_it walk_range (fun i σ H' => ∃ ov tv sv dv : Option V, σ = [some (.ref a), some (.ref p), some (.ref lt), ov, tv, sv, dv] ∧ LI p u a1 v1 d1 a2 v2 d2 lt (2000 + 10 * i) H')
        ?_ (fun _ _ _ _ _ => trivial) ?_ ?_
      · exact ⟨ov, none, none, none, rfl, L⟩
      · rintro i y σ Hb Ha hi ⟨ov, tv, sv, dv, rfl, L⟩ ⟨rfl, rfl⟩
        have hi : i < 12 := hi
        obtain ⟨y, hy, e⟩ := at_in (xs := [V.ref a1, .ref a2]) (j := (0 + (i : Int)) % 2) (Int.emod_nonneg _ (by decide)) (Int.emod_lt_of_pos _ (by decide))
        obtain ⟨b, vb, db, rfl, hb, tb, gb, zb⟩ : ∃ b vb db, y = .ref b ∧ Told Ha b vb db := by
          simp only [List.mem_cons, List.not_mem_nil, or_false] at hy
          rcases hy with h | h
          · exact ⟨a1, v1, d1, h, L.t1⟩
          · exact ⟨a2, v2, d2, h, L.t2⟩
        refine ⟨_, rfl, _, rfl, _, rfl, .inl ⟨_, rfl, _, _, rfl, rfl, (by show (0 : Int) < 2; decide), lt, _, _, _, rfl, rfl, SqL.of L.lst, e, b, _, _, _, rfl, rfl, SqL.of hb, rfl, ?_⟩⟩
        refine ⟨p, u, _, shut db, rfl, L.pool, by omega, by omega, fun s' H6 hs' k6 q6 => ?_⟩
        have L := L.take k6 q6
        refine ⟨_, rfl, s', rfl, by omega, fun dq H7 k7 res7 => ?_⟩
        refine ⟨_, rfl, s', rfl, by omega, fun q H8 k8 res8 ex => ?_⟩
        obtain ⟨r, hr1⟩ := ex
        have ft : Fit (dat (due s')) := by
          cases hd : due s' with
          | ok v =>
            obtain ⟨e1, e2⟩ := due_ok hr1 hd
            exact (fit_good e2 (by rw [e1]; omega)).2
          | error e => exact fit_bad (by have := due_err hd; omega)
        have res9 := res7.up k8
        have L := L.up (ext_tr k7 k8)
        refine ⟨_, rfl, ⟨_, _, _, rfl, res8.dp, res9.dp, ft.1, ft.2.1, ft.2.2.1, ft.2.2.2.1, ft.2.2.2.2.1, ft.2.2.2.2.2, true, rfl, iteF ?_⟩⟩
        cases hd : due s' with
        | error e =>
          rw [hd] at res9
          have r9 : H8 dq = some (.lst [.bl false, .int (e : Int)]) := res9
          refine ⟨_, rfl, _, _, _, _, rfl, rfl, SqL.of r9, rfl, false, rfl, iteF (iteF ?_)⟩
          exact ⟨_, _, _, _, rfl, L⟩
        | ok v =>
          rw [hd] at res9
          obtain ⟨v', r9, tv9⟩ := res9
          obtain ⟨e1, e2⟩ := due_ok hr1 hd
          have fs := fit_shut e2 (by rw [e1]; omega)
          refine ⟨_, rfl, _, _, _, _, rfl, rfl, SqL.of r9, rfl, true, rfl, iteT ?_⟩
          refine ⟨_, rfl, _, _, _, _, rfl, rfl, SqL.of r9, rfl, v', v, 0, rfl, tv9, e2, by decide, by decide, by rw [e1]; omega, fun H9 k9 => ?_⟩
          rw [e1] at fs ⊢
          refine ⟨_, rfl, ⟨_, _, _, rfl, (.str _), (.str _), fs.1, fs.2.1, fs.2.2.1, fs.2.2.2.1, fs.2.2.2.2.1, fs.2.2.2.2.2, true, rfl, iteF ?_⟩⟩
          exact ⟨_, _, _, _, rfl, L.up k9⟩
      · rintro σ H6 ⟨ov, tv, sv, dv, rfl, L⟩
        obtain ⟨hb, tb, gb, zb⟩ := L.t1
        have fv := (fit_good gb (by omega)).2
        refine ⟨_, rfl, _, _, _, _, rfl, rfl, SqL.of L.lst, rfl, _, _, _, _, rfl, rfl, SqL.of hb, rfl, shut d1, rfl, by omega, fun q H7 k7 res ex => ?_⟩
        rw [fin_shut gb] at res
        refine ⟨_, rfl, _, _, _, _, rfl, rfl, SqL.of (k7 _ _ L.lst), rfl, _, _, _, _, rfl, rfl, SqL.of (k7 _ _ hb), rfl, size_ok (by show 2 ≤ 16000000; decide), fun m hm => ?_⟩
        have k8 := ext_tr k7 (ext_new (o := .lst [.bl true, v1]) hm)
        exact ⟨_, _, _, rfl, (res.up (ext_new hm)).dp, (.lst (SqL.of upd_same) (.cons (.bl true) (.cons (tb.up (up_ext k8)).dp .nil))), fv.1, fv.2.1, fv.2.2.1, fv.2.2.2.1, fv.2.2.2.2.1, fv.2.2.2.2.2, hw _⟩
end
end K93
set_option Elab.async false
set_option linter.all false
set_option maxRecDepth 100000
set_option maxHeartbeats 4000000
set_option pp.maxSteps 3000
open PySem PySem.W PySem.Calls PyProof.Rows
theorem PySem.Challenge.cw_sweepwarrant_k93_seals_holds : PySem.Challenge.rw_sweepwarrant_k93_seals.Holds := by
  w_on; o_law
  refine HandSHeadRun.head_any (r := K93.R) (q := PySem.W.view K93.R.prog [23]) (H := K93.hk) (ob := K93.ob) (M := 4000) (loose := ["BadSeal", "DIGITS", "MOST_DEPTH", "MOST_FIGURES", "SIGNS", "Seal", "SweepError", "__name__", "_law_atom", "_law_atom_at", "_law_due", "_law_pick", "_law_pool", "_law_read", "_law_same", "_law_spoilt", "_law_take", "_law_value", "_law_word", "read_value", "write_value"]) (d := HandSHeadRun.topDef K93.R.prog 23) (kwd := []) K93.ob_eq
    (by kernel_rfl) (fun s => by kernel_rfl) K93.run_head (by kernel_rfl) (by kernel_rfl) (by kernel_rfl) (by rfl) (by first | assumption | decide +kernel) (by decide +kernel) ⟨rfl, rfl, rfl, rfl, rfl, by decide +kernel⟩ ?hw ?hc
  case hw => w_witness2
  case hc =>
    refine L2.walk_ofG (l := PySem.Challenge.rw_sweepwarrant_k93_seals) (n := 63) (k := 90) (x := "script") (CX := fun _ => L2.CX0) rfl (by decide) (by kernel_rfl) ⟨rfl, by decide, by decide⟩ ?F (fun _ _ _ _ _ z => z)
    intro w mg fa h Y G hmg0
    obtain ⟨K, KX, c⟩ := Y
    have hmg : mg ("law" : PySem.Str) = some (.ref fa) := by
      have e : (HandSHeadRun.topDef K93.R.prog 23).name = ("law" : PySem.Str) := by kernel_rfl
      rw [← e]
      exact hmg0
    have T := K93.mkTx KX G c
    have eg := hmg.symm.trans T.glo_law
    cases eg
    obtain ⟨fd, F⟩ := T.fn_law
    have b := L2.FunD.bindsA (ps := ["script"]) F fun _ _ _ _ _ _ us hl => match us, hl with | [_], _ => rfl
    exact ⟨K, fd, K93.sp_law K, KX, fun s u => b s [u] rfl, fun H a ns hl _ _ hS => ⟨a, ns, rfl, hS, Nat.le_trans hl (by decide), fun _ => rfl⟩, fun base _ _ => K93.ok_law T F⟩
