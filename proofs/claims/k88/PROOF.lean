import PyProof.Rows.All
import Wide.All
import OpenK.AllK
import Wide.FinOn
import HandS.ForMost
import HandS.ForExc
import KE.KExcSuper
import KE.RegKSuper
import HandS.More
import HandS.Deep
import HandS.Style
import HandS.TupAny
import KE.SortData
import KE.DataFind
import KE.DataEq
import PyProof.Rows.SortShellAny
import HandS.IsInst
import HandS.Property
import HandS.Star
import HandS.Flow
import HandS.Conv
import HandS.Evl
import PySem.Challenge.RW_plainscan_k88_whole_receivers
set_option Elab.async false
set_option linter.all false
set_option maxRecDepth 100000
set_option maxHeartbeats 8000000
/-! Own classes of errors over own classes over ValueError: `def __init__(self, F): super().__init__(F); self.F = F`. -/
namespace SupX
open PySem PySem.W PySem.Calls PyProof.Rows PySem.HandSPX
def iA (F : Str) (p1 p2 : Pos) : Arguments := { posonlyargs := [], args := [{ arg := "self", annotation := none, pos := p1 }, { arg := F, annotation := none, pos := p2 }], vararg := none, kwonlyargs := [], kw_defaults := [], kwarg := none, defaults := [] }
def iB (F : Str) (a1 a2 a3 a4 a5 a6 b1 b2 b3 b4 : Pos) : List Stmt :=
  [.Expr (.Call (.Attribute (.Call (.Name "super" a1) [] [] a2) "__init__" a3) [.Name F a4] [] a5) a6, .Assign [.Attribute (.Name "self" b1) F b2] (.Name F b3) b4]
def iS (F : Str) : Scope := { kind := .function, names := [(PySem.Str.ofString "self", .local), (F, .local), (PySem.Str.ofString "__class__", .free), (PySem.Str.ofString "super", .globalImplicit)], isGenerator := false, isCoroutine := false, more := [] }
theorem ev_one {o : Expr} {n F : Str} {a3 a4 a5 : Pos} {env : Env} (hl : (a3.endLine == a5.line) = true) : eval (.Call (.Attribute o n a3) [.Name F a4] [] a5) env = (do
      let ov ← attributeBase o n env (eval o env)
      standAt a3.atName
      let (f, first) ← holding [ov] (getMethod ov n (do return (← importBound o env).getD true))
      callWith a5 f first (backTo a5 (starEach [.Name F a4] env)) []) := by
  have e : eval (.Call (.Attribute o n a3) [.Name F a4] [] a5) env = (do
      let ov ← attributeBase o n env (eval o env)
      standAt a3.atName
      methodCall o n a3 a5 env ov 1 (backTo a5 (starEach [.Name F a4] env)) []) := rfl
  rw [e]
  unfold methodCall methodCallPos calleeOf
  have f : methodCallForm 1 (backTo a5 (starEach [.Name F a4] env)) [] = true := rfl
  rw [f, hl]
  rfl
/-- what the written part says of the class X at C and its __init__ at fI -/
structure SupTxt (P : Program) (K : Frag) (mg : Str → Option Value) (X qual F : Str) (C fI : Addr) : Prop where
  gC : mg X = some (.ref C)
  cls : ∃ nm q N bs bm sn sub ab col dd k0 k1 k2 k3 k5, K.lookup C = some (excClassObj nm q C N bs bm true sn sub ab col dd k0 k1 k2 k3 k5 "ValueError.__new__") ∧ refsVE bm = true
  sa : findIn K (.ref C) "__setattr__" = some (some (.builtin "object.__setattr__"))
  ga : findIn K (.ref C) "__getattribute__" = some (some (.builtin "BaseException.__getattribute__"))
  gg : findIn K (.ref C) "__getattr__" = some none
  noN : findIn K (.ref C) F = some none
  iC : findIn K (.ref C) "__init__" = some (some (.ref fI))
  tC : typeIn K (.ref fI) = some (.type "function")
  kC : keepIn K (.ref C) = true
  exC : subIn K (.ref C) (.type "BaseException") = some true
  veC : subIn K (.ref C) (.type "ValueError") = some true
  tyC : typeIn K (.ref C) = some (.type "type")
  hdC : hasDictIn K C = true
  slf : mroIn K C (.ref C) = some true
  sup : ks_superIn K C C "__init__" = some (some (.builtin "ValueError.__init__"))
  thp : nsIn K cStatics "thirdparty.any" = some none
  gS : mg "super" = none
  top : (P.main.scope.names.lookup ("super" : Str)).isSome = false
  nF : (F == ("self" : Str)) = false
  lF : (iS F).names.lookup F = some .local
  lC : (iS F).names.lookup ("__class__" : Str) = some .free
  lS : (iS F).names.lookup ("super" : Str) = some .globalImplicit
  dF : (F == ("__debug__" : Str)) = false
  bnd : ∀ (body : List Stmt) (sc : Scope) (cl : List (Str × Addr)) (doc pm : Value) (an : Option Addr) (cd ct : Value) (p1 p2 : Pos) (x v : Value), bindArgs (fnX "__init__" qual (iA F p1 p2) body sc cl .none .none doc pm an cd ct) ⟨[x, v], []⟩ = pure ([("self", x), (F, v)] : List (Str × Value))
  fn : ∃ (oc : Value) (od : Option Addr) (doc pm : Value) (an : Option Addr) (cda cc : Addr) (ct : Value) (osl : Array (Option Value)) (p1 p2 a1 a2 a3 a4 a5 a6 b1 b2 b3 b4 : Pos)
      (ccl cl : Value) (cdd cld : Option Addr) (vs : Array Value) (ccs csl : Array (Option Value)) (file : Str) (tf : Tok),
    K.lookup fI = some ⟨oc, od, .func (fnX "__init__" qual (iA F p1 p2) (iB F a1 a2 a3 a4 a5 a6 b1 b2 b3 b4) (iS F) [("__class__", cc)] .none .none doc pm an (.ref cda) ct), osl⟩ ∧ codeIn K (.ref cda) qual = true ∧
      K.lookup cda = some ⟨ccl, cdd, .fields vs, ccs⟩ ∧ vs[2]? = some (.str file tf) ∧ ((P.main.file : Str) == file) = true ∧ (a3.endLine == a5.line) = true ∧ K.lookup cc = some ⟨cl, cld, .cell (some (.ref C)), csl⟩
theorem one_size (v : Value) : [v].length ≤ sizeLine := by
  rw [sizeLine_eq]
  exact (by decide : 1 ≤ 16777216)
/-- what __init__ leaves of a fresh exception at x -/
structure InitEnd (F : Str) (h h' : Heap) (x C dx t1 : Addr) (v : Value) : Prop where
  keep : ∀ b o, b ≠ x → h.get? b = some o → h'.get? b = some o
  obj : h'.get? x = some { cls := .ref C, dict := some dx, data := .fields #[.ref t1, .none, .none, .none, .bool false, .none] }
  dbig : h.objs.size ≤ dx
  dne : dx ≠ x
  ns : h'.Ns1 dx (fun y => if y = F then some v else none)
/-- a made one -/
structure OwnMade (F : Str) (h h' : Heap) (e C d : Addr) (v : Value) : Prop where
  keep : ∀ b o, h.get? b = some o → h'.get? b = some o
  new : h.objs.size ≤ e
  obj : ∃ oe vs, h'.get? e = some oe ∧ oe.cls = .ref C ∧ oe.dict = some d ∧ oe.data = .fields vs ∧ vs[1]? = some .none
  dbig : h.objs.size ≤ d
  dne : d ≠ e
  ns : h'.Ns1 d (fun y => if y = F then some v else none)
/-- the module's names in a heap -/
structure NsOk (h : Heap) (mg : Str → Option Value) : Prop where
  g : h.Ns mainGlobals mg
  b : ∃ mb, h.Ns builtinsNs mb ∧ ∀ x : Str, x ≠ "__name__" → mb x = bootBuiltins x
  lim : h.NoLimit
theorem NsOk.keeps {h h' : Heap} {mg : Str → Option Value} (n : NsOk h mg) (k : ∀ b o, h.get? b = some o → h'.get? b = some o) : NsOk h' mg :=
  ⟨n.g.keeps k, let ⟨mb, hb, e⟩ := n.b; ⟨mb, hb.keeps k, e⟩, n.lim.keeps k⟩
section
variable {prog : Program} {w : World} {A : Around} {E : Value → Shared → Prop} {h : Heap} {g : Array GenState} {d : Drawn} {t : Nat} {os : OsState}
variable {nm q : Str} {C N : Addr} {bs bm : List Value} {hdct : Bool} {sn : List Str} {sub : List Value} {ab : Bool} {col : Option Bool} {dd : Option Addr} {k0 k1 k2 k3 k5 : Option Value}
/-- ValueError.__init__ bound to a fresh exception, called -/
theorem wrap_call {u e t0 : Addr} {rest : List Value} {Q : Value → Shared → Prop} (hC : h.get? C = some (excClassObj nm q C N bs bm hdct sn sub ab col dd k0 k1 k2 k3 k5 "ValueError.__new__"))
    (he : h.get? e = some (excO C t0)) (hu : h.get? u = some (kxs_mw "ValueError.__init__" e)) (hz : rest.length ≤ sizeLine)
    (hq : ∀ h' t1, (∀ b o, b ≠ e → h.get? b = some o → h'.get? b = some o) → h'.get? e = some (excO C t1) → Q .none ⟨h', g, d, t, os⟩) :
    wpAny (model prog w) A (call (.ref u) rest) Q E ⟨h, g, d, t, os⟩ := by
  have FB := F.excBase_ValueError
  refine wpAny_call (codeAny_of_tree ?_)
  show wpAny _ A.in1 (callAny (.ref u) ⟨rest, []⟩) _ _ _
  simp only [callAny]
  refine wpAny_bind (wpAny_load hu ?_)
  have y : (Value.type "method-wrapper" == Value.type "method" || Value.type "method-wrapper" == Value.type "builtin_function_or_method" || Value.type "method-wrapper" == Value.type "method-wrapper") = true := by decide
  simp only [kxs_mw, y, if_true]
  refine KFB.if_so (by decide) ?_
  refine wpAny_bind (check_bound_init FB.toExcCallFacts hC he rfl (wpAny_bind (wpAny_pure (wpAny_pure ⟨plainId_quiet FB.init.plain _, codeAny_builtin FB.initEntry ?_⟩))))
  exact exc_init_tree (cls := .ref C) (t0 := t0) (dv := none) (c2 := .none) (c3 := .none) (b4 := .bool false) he hz fun h' k e' _ => hq h' _ k e'
end
section
variable {prog : Program} {w : World} {A : Around} {E : Value → Shared → Prop} {R : Result → Shared → Prop} {s : Shared} {K : Frag} {mg : Str → Option Value} {X qual F : Str} {C fI : Addr}
theorem sup_init (T : SupTxt prog K mg X qual F C fI) {x t0 : Addr} {v : Value} (Y : K.In s.heap) (M : NsOk s.heap mg) (hx : s.heap.get? x = some (excO C t0)) (hnx : K.lookup x = none) (hroom : A.depth < recursionLimit)
    (hq : ∀ h' tk dx t1, InitEnd F s.heap h' x C dx t1 v → R (.ok (.ret .none)) { s with heap := h', toks := tk }) :
    codeAny (model prog w) A (.call (.ref fI) ⟨[.ref x, v], []⟩) R s := by
  obtain ⟨oc, od, doc, pm, an, cda, cc, ct, osl, p1, p2, a1, a2, a3, a4, a5, a6, b1, b2, b3, b4, ccl, cl, cdd, cld, vs, ccs, csl, file, tf, ho, hcd, hcda, hvs, hfile, hl, hcc⟩ := T.fn
  obtain ⟨nm, q, N, bs, bm, sn, sub, ab, col, dd, k0, k1, k2, k3, k5, hC, hbm⟩ := T.cls
  have hcl : clsIn K C = some { name := nm, bases := bs, mro := .ref C :: bm, ns := N, qualname := q, hasDict := true, slotNames := sn, subclasses := sub, abstract := ab, collection := col, hasDel := false } := by unfold clsIn; rw [hC] <;> rfl
  have nF : ¬ F = "self" := fun e => by
    have z := T.nF
    rw [e] at z
    exact absurd z (by decide)
  refine ks_codeAny_call_defAt (binds := [("self", .ref x), (F, v)]) hroom (Y _ _ ho) rfl M.lim (codeRec_of Y hcd) rfl ?_ ?_ ?_ (fun h₁ hns k => ?_) rfl rfl rfl
  · exact BindsTo.of_eq (T.bnd _ _ _ _ _ _ _ _ _ _ _ _)
  · intro y hy
    have hy' : y ∈ (iS F).names := hy
    simp only [iS, List.mem_cons, List.not_mem_nil, or_false] at hy'
    rcases hy' with rfl | rfl | rfl | rfl <;> (intro z; cases z)
  · intro y hy
    rcases List.mem_cons.mp hy with rfl | hy
    · rfl
    · obtain rfl := List.mem_singleton.mp hy
      exact T.lF
  have Y₁ : K.In h₁ := Y.keeps k
  have M₁ := M.keeps k
  have hx₁ := k _ _ hx
  have sl : List.lookup ("self" : Str) ([("self", Value.ref x), (F, v)] : List (Str × Value)).reverse = some (.ref x) := by
    show List.lookup ("self" : Str) ([(F, v), ("self", Value.ref x)] : List (Str × Value)) = _
    have z : (("self" : Str) == F) = false := by simpa using fun e : ("self" : Str) = F => nF e.symm
    simp [List.lookup, z]
  have fl : List.lookup F ([("self", Value.ref x), (F, v)] : List (Str × Value)).reverse = some v := by
    show List.lookup F ([(F, v), ("self", Value.ref x)] : List (Str × Value)) = _
    simp [List.lookup]
  have hxC : x ≠ C := fun e => by
    have z := Y _ _ hC
    rw [← e, hx] at z
    cases z
  obtain ⟨mb, nb, eb⟩ := M₁.b
  obtain ⟨hp, g, d, t, os⟩ := s
  have hI : Looks (model prog w) h₁ (isInstance (.ref x) (.type "ValueError")) true := (W.InstAt.type (od := none) ⟨hx₁, rfl, rfl, trivial⟩ : Looks (model prog w) h₁ (typeOf (.ref x)) (.ref C)).andThen (looks_subIn Y₁ T.veC)
  refine ks_wpAt_execs_cons ?_
  refine ks_wpAt_Expr_any ?_
  refine ks_wpAt_MethodCall (he := ev_one hl) ?_
  refine ks_wpAt_super_base (env := ksEnv qual (iS F) hp.objs.size fI (.ref cda) cc) (ar := { arg := "self", annotation := none, pos := p1 }) T.lS T.lC rfl rfl (Y₁ _ _ ho) rfl rfl rfl (Y₁ _ _ hcda) rfl hvs hfile T.top ?_
  refine ks_loadName_global rfl T.lS (loadGlobal_builtin (env := ksEnv qual (iS F) hp.objs.size fI (.ref cda) cc) M₁.g T.gS nb ((eb _ (by decide +kernel)).trans PyProof.Rows.Boot.«super») ⟨rfl, ?_⟩)
  refine wpAny_loadName_free rfl T.lC rfl ⟨_, Y₁ _ _ hcc, rfl⟩ ?_
  refine wpAny_loadName_local rfl rfl hns sl ?_
  refine ks_wpAny_isType_cls (Y₁ _ _ hC) rfl ⟨rfl, ?_⟩
  refine ks_wpAny_call_super (Y₁ _ _ hC) rfl hx₁ rfl (fun c z => by cases z) (looks_mroIn Y₁ T.slf) fun h₂ hso k₂ => ?_
  have Y₂ := Y₁.keeps k₂
  have hx₂ := k₂ _ _ hx₁
  have hsup : alongIn K "__init__" (((Value.ref C :: bm).dropWhile (· != .ref C)).drop 1) = some (some (.builtin "ValueError.__init__")) := by
    have z := T.sup
    unfold ks_superIn at z
    rw [hcl] at z
    exact z
  refine kxs_getMethod kxs_ValueError hso (looks_opaque Y₂ T.thp) (l₀ := .ref C :: bm) (fun A Q E s k q => wpAny_bind ((looks_clsIn Y₂ hcl) A _ E s k (wpAny_pure q))) rfl Y₂ hsup (hI.keeps k₂) hxC (by decide) ?_
  have hn₃ : ∀ b o, h₂.get? b = some o → (h₂.push (kxs_mw "ValueError.__init__" x)).get? b = some o := fun b o z => Heap.get?_push_of_some _ z
  have hu₃ : (h₂.push (kxs_mw "ValueError.__init__" x)).get? h₂.objs.size = some (kxs_mw "ValueError.__init__" x) := Heap.get?_push_at rfl rfl
  have ns₃ := (hns.keeps k₂).keeps hn₃
  refine kxs_callWith (i := "ValueError.__init__") (x := x) rfl (evalArgs_plain ?_)
  refine spliced_cons (wpAny_Name (wpAny_loadName_local rfl T.lF ns₃ fl ?_) T.dF)
  refine spliced_nil ⟨hu₃, ?_⟩
  refine wrap_call (hn₃ _ _ (Y₂ _ _ hC)) (hn₃ _ _ hx₂) hu₃ (one_size v) fun h₄ t4 k₄ hx₄ => ?_
  refine wpAt_of_wpAny ?_
  have old : ∀ b o, b ≠ x → h₁.get? b = some o → h₄.get? b = some o := fun b o hb z => k₄ b o hb (hn₃ _ _ (k₂ _ _ z))
  have Y₄ : K.In h₄ := fun b o z => old b o (fun e => by rw [e, hnx] at z; cases z) (Y₁ b o z)
  have hxL : hp.objs.size ≠ x := Nat.ne_of_gt (Heap.lt_size hx)
  have ns₄ : h₄.Ns hp.objs.size (fun y => List.lookup y ([("self", Value.ref x), (F, v)] : List (Str × Value)).reverse) := hns.at fun o z => old _ o hxL z
  show wpAny _ _ (execs _ _) _ _ _
  refine wpAny_execs_cons (plainObj_wpAny_Assign_Attribute ?_)
  refine wpAny_Name (wpAny_loadName_local rfl T.lF ns₄ fl ?_) T.dF
  refine wpAny_Name (wpAny_loadName_local rfl rfl ns₄ sl ?_)
  refine set_plain Y₄ (ox := excO C t4) (od := none) ⟨hx₄, rfl, rfl, trivial⟩ T.sa ?_
  refine exc_osa Y₄ hx₄ hcl (show refsVE (.ref C :: bm) = true from hbm) rfl T.noN (fun h₅ tk₅ dx k₅ dn dne hx₅ hn₅ => ?_)
  show wpAny _ _ (execs _ _) _ _ _
  refine wpAny_execs_nil (hq h₅ tk₅ dx t4 ⟨fun b o hb e => k₅ b o hb (old b o hb (k b o e)), hx₅, ?_, dne, hn₅⟩)
  exact Nat.le_trans (Nat.le_of_lt ns₄.lt) dn
/-- X(v) -/
theorem sup_made (T : SupTxt prog K mg X qual F C fI) {v : Value} (Y : K.In s.heap) (M : NsOk s.heap mg) (hroom : A.depth + 1 < recursionLimit)
    (hq : ∀ h' tk e d, OwnMade F s.heap h' e C d v → R (.ok (.ret (.ref e))) { s with heap := h', toks := tk }) :
    codeAny (model prog w) A (.call (.ref C) ⟨[v], []⟩) R s := by
  obtain ⟨nm, q, N, bs, bm, sn, sub, ab, col, dd, k0, k1, k2, k3, k5, hC, hbm⟩ := T.cls
  obtain ⟨hp, g, dr, tk, os⟩ := s
  have k : ∀ b o, hp.get? b = some o → ((hp.push (kdv_tup [v])).push (excO C hp.objs.size)).get? b = some o := fun b o e => Heap.get?_push_of_some _ (Heap.get?_push_of_some _ e)
  have hget : ((hp.push (kdv_tup [v])).push (excO C hp.objs.size)).get? (hp.objs.size + 1) = some (excO C hp.objs.size) := by heap_get
  have hnx : K.lookup (hp.objs.size + 1) = none := by
    cases e : K.lookup (hp.objs.size + 1) with
    | none => rfl
    | some o =>
      have z : hp.get? (hp.objs.size + 1) = some o := Y _ _ e
      exact absurd (Nat.lt_of_succ_lt (Heap.lt_size z)) (Nat.lt_irrefl _)
  refine call_own PySem.F.excBase_ValueError (fun X => refsVE_contains X bm hbm) (Y _ _ hC) (looks_findIn Y T.iC) (fun self => bind_fn Y self T.tC) (one_size v) ?_
  refine sup_init (s := ⟨(hp.push (kdv_tup [v])).push (excO C hp.objs.size), g, dr, tk, os⟩) T (Y.keeps k) (M.keeps k) hget hnx ?_ fun h' tk' dx t1 ⟨k', hx, dn, dne, hns⟩ => ?_
  · show A.depth + 1 < recursionLimit
    exact hroom
  · have old : ∀ b o, hp.get? b = some o → h'.get? b = some o := fun b o e => k' b o (Nat.ne_of_lt (Nat.lt_succ_of_lt (Heap.lt_size e))) (k b o e)
    have z : hp.objs.size + 1 + 1 ≤ dx := by
      first
        | (simpa only [Heap.size_push] using dn)
        | exact dn
        | (have q := dn; rw [Heap.size_push, Heap.size_push] at q; exact q)
    exact ⟨rfl, hq h' tk' (hp.objs.size + 1) dx ⟨old, Nat.le_succ _, ⟨_, _, hx, rfl, rfl, rfl, rfl⟩, Nat.le_trans (Nat.le_trans (Nat.le_succ _) (Nat.le_succ _)) z, dne, hns⟩⟩
end
end SupX
namespace L2
open PySem PySem.Spec PyProof.Rows SupX
theorem relO_one {F : Str} {v : V} {v' : Value} (r : RelV v v') (f : Str) : RelO (List.lookup f [(F, v)]) (if f = F then some v' else none) := by
  by_cases hw : f = F
  · subst hw
    rw [if_pos rfl]
    have q : List.lookup f [(f, v)] = some v := by simp [List.lookup]
    rw [q]
    exact r
  · rw [if_neg hw]
    have qw : (f == F) = false := by simpa using hw
    have q2 : List.lookup f [(F, v)] = none := by simp [List.lookup, qw]
    rw [q2]
    trivial
section
variable {X : Cx} {C fI : Addr} {x qual F : Str}
/-- x(e), an own error of one field F -/
def tMkSup (C : Addr) (F : Str) (ta : TA) : St → Hp → XK → Prop := fun σ H Q => ta σ H fun vs H1 => ∃ v, vs = [v] ∧ ∀ d, H1 d = none → Q (.ref C) (some d) (upd H1 d (.xd [(F, v)]))
theorem pmk_sup {a : Expr} {ta : TA} {p pos : Pos} {k : Nat} (T : SupTxt X.prog X.K X.mg x qual F C fI) (hr : Room k X.A) (ha : PA X [a] ta) (hg : Gl X x := by rfl) (hdb : (x == ("__debug__" : Str)) = false := by decide)
    (he : starEach (a :: []) X.env = (false, eval a X.env) :: starEach [] X.env := by rfl) (hpl : (backTo pos (starEach [] X.env)).any (·.1) = false := by rfl) :
    PMk X (.Call (.Name x p) [a] [] pos) (tMkSup C F ta) := by
  intro pins s σ H Q I h
  refine wpAny_Call_Name_kw (ld_glob I hg T.gC ?_ hdb)
  refine PySem.W.callWith_K (h₀ := X.base) I.ok.mod.kin T.kC (thn (ha.run pos pins s σ H _ I h) fun us s1 hh => ?_) he hpl
  obtain ⟨vs, H1, I1, r1, v, ev, q1⟩ := hh
  subst ev
  refine ⟨I1.kIn, ?_⟩
  cases r1 with
  | cons rv rn =>
    rename_i v' us'
    cases rn
    show wpAny _ _ (call (.ref C) [v']) _ _ _
    have M1 : NsOk s1.heap X.mg := ⟨I1.ok.mod.glob.keeps I1.bk, let ⟨mb, hb, e⟩ := I1.ok.mod.blt; ⟨mb, hb.keeps I1.bk, e⟩, I1.nolimit⟩
    obtain ⟨hp, g, dr, tk, os⟩ := s1
    refine wpAny_call (sup_made T I1.kIn M1 (by have := hr.dp; omega) fun h' tk' e d M => ?_)
    show MkP X pins σ Q (.ref e) ⟨h', g, dr, tk', os⟩
    obtain ⟨oe, fv, hoe, hc, hd, hdat, h1⟩ := M.obj
    have hns := M.ns
    obtain ⟨G', g1, g2⟩ := restrict h' fun b => decide (b ≠ e)
    have gk : ∀ b, b ≠ e → G'.get? b = h'.get? b := fun b hb => g1 b (decide_eq_true hb)
    have ge : G'.get? e = none := g2 e (by simp)
    have old : ∀ b o, hp.get? b = some o → G'.get? b = some o := fun b o q => (gk b (Nat.ne_of_lt (Nat.lt_of_lt_of_le (Heap.lt_size q) M.new))).trans (M.keep b o q)
    have ob : ObjOk X.prog X.w (upd H1 d (.xd [(F, v)])) G' d (.xd [(F, v)]) :=
      ⟨_, hns.at (fun o q => (gk d M.dne).trans q), fun f => relO_one rv f⟩
    have J : Inv X pins σ (upd H1 d (.xd [(F, v)])) ⟨G', g, dr, tk', os⟩ := I1.laid (t' := tk') old M.dbig ob
    refine ⟨e, oe, fv, ⟨G', g, dr, tk', os⟩, _, .ref C, some d, rfl, J, fun b o q => ?_, ge, hoe, ⟨hc, hd⟩, hdat, h1, ?_, rfl, I1.bare, raises_own T.exC T.tyC, q1 d (I1.hok.fresh M.dbig)⟩
    · by_cases hb : b = e
      · have q' : G'.get? b = some o := q
        rw [hb, ge] at q'; cases q'
      · exact (gk b hb).symm.trans q
    · rw [upd_ne (Ne.symm M.dne)]
      exact I1.hok.fresh M.new
/-- raise x(e) -/
def tRaiseSup (C : Addr) (F : Str) (W : WX) (ta : TA) : TS := fun _ σ H => tMkSup C F ta σ H fun cls d H' => W cls d σ H'
theorem ps_raiseSup {a : Expr} {ta : TA} {W : WX} {p pos pos2 : Pos} {k : Nat} (hc : X.calm = true) (T : SupTxt X.prog X.K X.mg x qual F C fI) (hr : Room k X.A) (tk : Takes X W) (ha : PA X [a] ta) (hg : Gl X x := by rfl) (hdb : (x == ("__debug__" : Str)) = false := by decide)
    (he : starEach (a :: []) X.env = (false, eval a X.env) :: starEach [] X.env := by rfl) (hpl : (backTo pos (starEach [] X.env)).any (·.1) = false := by rfl) :
    PS X (.Raise (some (.Call (.Name x p) [a] [] pos)) none pos2) (tRaiseSup C F W ta) := ps_raise hc tk (pmk_sup T hr ha hg hdb he hpl)
/-- e.F, e the exception that the suite holds (at a; its class cls, its dict d) -/
def tBySup (C : Addr) (F : Str) (a : Addr) (cls : Value) (d : Option Addr) (te : TE) : TE := fun σ H Q => te σ H fun x H1 => x = .ref a ∧ cls = .ref C ∧ ∃ (dd : Addr) (v : V), d = some dd ∧ H1 dd = some (.xd [(F, v)]) ∧ Q v H1
theorem pe_bySup {a : Addr} {oe : Obj} {cls : Value} {d : Option Addr} {pn : List (Addr × Obj)} {e : Expr} {te : TE} {pos : Pos} (T : SupTxt X.prog X.K X.mg x qual F C fI) (hz : Zc cls d oe) (hf : ∃ vs, oe.data = .fields vs) (he : PE (X.suite a ((a, oe) :: pn)) e te)
    (hb : attributeBase e F X.env (eval e X.env) = eval e X.env := by rfl) :
    PE (X.suite a ((a, oe) :: pn)) (.Attribute e F pos) (tBySup C F a cls d te) := by
  refine ⟨fun pins s σ H Q I h => ?_⟩
  refine attr_of hb (thn (he.run pins s σ H _ I h) fun u s1 hh => ?_)
  obtain ⟨x, H1, I1, rx, ex, ec, dd, v, ed, ea, q⟩ := hh
  subst ex
  obtain rfl : u = Value.ref a := rx
  subst ec
  subst ed
  obtain ⟨ha, _⟩ := I1.pin (a, oe) (List.mem_append_left _ List.mem_cons_self)
  obtain ⟨vs, hd⟩ := hf
  have hx : ObjOk X.prog X.w H1 s1.heap dd (.xd [(F, v)]) := I1.hok dd _ ea
  obtain ⟨mA, hns, hr⟩ := hx
  obtain ⟨od, ho, hl⟩ := lookIn_ns hns
  have l : List.lookup F [(F, v)] = some v := by simp [List.lookup]
  obtain ⟨u, hu, ru⟩ := RelO.some_of (v := v) (o := mA F) (by rw [← l]; exact hr F)
  have J : PySem.W.InstAt s1.heap a oe C (some od) := ⟨ha, hz.1, by unfold PySem.W.notCls; rw [hd] <;> rfl, by rw [hz.2]; exact ho⟩
  exact PySem.HandSPX.exc_get I1.kIn J T.ga T.gg T.exC (PySem.W.findObj_own T.hdC T.noN rfl (by rw [hl, hu])) (handed_of ru) ⟨v, H1, I1.tok _, ru, q⟩
end
end L2
namespace SupX
open PySem PySem.W PySem.Calls PyProof.Rows PySem.HandSPX
/-- an error of the class at S is what «except S» names -/
theorem exm_self {K : Frag} {S : Addr} (h1 : subIn K (.ref S) (.type "BaseException") = some true) (h2 : isClsIn K S = true) (h3 : typeIn K (.ref S) = some (.type "type")) (h4 : subIn K (.ref S) (.ref S) = some true) : exmOne K (.ref S) (.ref S) = some true := by
  have e1 : (subIn K (.ref S) (.type "BaseException") == some true) = true := by rw [h1] <;> rfl
  have e2 : ((clsIn K S).isSome && typeIn K (.ref S) == some (.type "type")) = true := by
    have h2' : (clsIn K S).isSome = true := h2
    rw [h2', h3] <;> rfl
  show (if (subIn K (.ref S) (.type "BaseException") == some true) = true then (if ((clsIn K S).isSome && typeIn K (.ref S) == some (.type "type")) = true then subIn K (.ref S) (.ref S) else none) else none) = some true
  rw [if_pos e1, if_pos e2]
  exact h4
end SupX
/-! Rules over data (Dp): sorted, list.remove, in over tuples; sorted(dict of ints) at any length; t[::-1]; o.m(k=v). -/
namespace L2
open PySem PySem.Spec PyProof.Rows
section
variable {X : Cx}
/-! ### data, item by item -/
theorem DpAll.length {K : PySem.W.Frag} {H : Hp} : ∀ {vs : List V} {ds : List PyData}, DpAll K H vs ds → vs.length = ds.length
  | _, _, .nil => rfl
  | _, _, .cons _ t => by rw [List.length_cons, List.length_cons, DpAll.length t]
theorem DpAll.each {pins : List (Addr × Obj)} {σ : St} {H : Hp} {s : Shared} (I : Inv X pins σ H s) : ∀ {ps : List (V × PyData)} {us : List Value}, (∀ p ∈ ps, Dp X.K H p.1 p.2) → Vals (ps.map (·.1)) us →
    PySem.W.EachIs (fun u (p : V × PyData) => RelV p.1 u) us ps ∧ PySem.W.EachIs (fun u (p : V × PyData) => ∃ as, Reads s.heap u p.2 as) us ps
  | [], _, _, r => by
    cases r
    exact ⟨.nil, .nil⟩
  | p :: ps, _, h, r => by
    cases r with
    | cons r1 r2 =>
      obtain ⟨h1, h2⟩ := DpAll.each I (fun q hq => h q (List.mem_cons_of_mem _ hq)) r2
      exact ⟨.cons r1 h1, .cons (Dp.reads I p.2 p.1 _ (h p List.mem_cons_self) r1) h2⟩
theorem vals_each : ∀ {ps : List (V × PyData)} {us : List Value}, PySem.W.EachIs (fun u (p : V × PyData) => RelV p.1 u) us ps → Vals (ps.map (·.1)) us
  | _, _, .nil => .nil
  | _, _, .cons r t => .cons r (vals_each t)
/-! ### sorted of data -/
def leD (p q : V × PyData) : Bool := PySem.W.dataLe false (fun p : V × PyData => p.2) p q
def rSortD (K : PySem.W.Frag) : List V → Hp → VK → Prop := fun vs H Q => ∃ (a : Addr) (ps : List (V × PyData)), vs = [V.ref a] ∧ SqL K H a (ps.map (·.1)) ∧ (∀ p ∈ ps, Dp K H p.1 p.2) ∧ PySem.W.AllAlike (ps.map (·.2)) ∧ PySem.W.Sortable (ps.map (·.2)) ∧
  (∀ p ∈ ps, p.2.depth ≤ 60) ∧ ∀ p, H p = none → Q (.ref p) (upd H p (.lst ((ps.mergeSort leD).map (·.1))))
theorem cr_sortD (hu : X.A.units + 64 < cLine) : CallR X (.builtin "sorted") (rSortD X.K) := by
  intro pins s σ H vs us Q I r h
  obtain ⟨a, ps, rfl, hs, hd, hal, hso, hdep, q⟩ := h
  obtain ⟨its, rv, hl, hz⟩ := I.list hs
  rw [Vals.ref1 r]
  obtain ⟨e1, e2⟩ := DpAll.each I hd rv
  rw [List.length_map] at hz
  refine PySem.W.sorted_data (enc := fun p : V × PyData => p.2) hl.isList e1 e2 hal hso hz (fun b hb => by have := hdep b hb; show X.A.units + 2 + b.2.depth < cLine; omega) fun out hlen ho => ?_
  obtain ⟨ep, he'⟩ := PyProof.Rows.sortedAll_at s.heap its out.toArray
  have hlen' : ((ps.mergeSort leD).map (·.1)).length ≤ sizeLine := by rw [List.length_map, List.length_mergeSort]; exact hz
  exact ⟨.ref _, upd H (s.heap.objs.size + 1) (.lst ((ps.mergeSort leD).map (·.1))), I.laid (t' := s.toks) (fun _ _ => PyProof.Rows.sortedAll_old) (Nat.le_succ _) ⟨hlen', out, ep, vals_each ho, he'⟩, rfl, q _ (I.hok.fresh (Nat.le_succ _))⟩
/-! ### l.remove(x), the first equal one -/
def rRemoveD (K : PySem.W.Frag) : V → List V → Hp → VK → Prop := fun x vs H Q => ∃ (l : Addr) (xs : List V) (ds : List PyData) (y : V) (d : PyData) (j : Nat), x = .ref l ∧ vs = [y] ∧ H l = some (.lst xs) ∧ DpAll K H xs ds ∧ Dp K H y d ∧
  SeqAt.shaped (.list ds) = true ∧ SeqAt.shaped d = true ∧ SeqAt.dataPlace ds d = some j ∧ Q .non (upd H l (.lst (xs.eraseIdx j)))
theorem mt_removeD (hu : X.A.units + 66 < cLine) : MtM X "list.remove" (rRemoveD X.K) := by
  intro pins s σ H x vs v us Q I rx rv h
  obtain ⟨l, xs, ds, y, d, j, rfl, rfl, hH, hds, hd, hl1, hl2, hp, q⟩ := h
  cases rx
  obtain ⟨u, rfl, ru⟩ := rv.one
  obtain ⟨as, r1⟩ := Dp.reads I d y u hd ru
  obtain ⟨z, its, n, r, hl, e⟩ := I.lstM hH
  obtain ⟨bs, r2⟩ := Dp.readsAll I ds xs its hds r
  have hroom : X.A.units + 1 + min (PyData.depthAll ds) d.depth < cLine := room_in_shaped hl2 (by omega)
  refine SeqAt.remove_list_data (vs := its.toArray) (xs := ds) (d := d) (j := j) (PlainL.isList ⟨_, n, e, rfl, rfl, rfl⟩) r2 r1 (PyData.plainAll_of_canLay0 _ (SeqAt.canLay_of_shaped hl1)) (PyData.plain_of_canLay0 _ (SeqAt.canLay_of_shaped hl2)) hroom hp (by rw [List.size_toArray]; omega) ?_
  refine ⟨.non, _, I.lset (its' := its.eraseIdx j) hH e ?_ (r.eraseIdx j) ?_, rfl, q⟩
  · show its.toArray.eraseIdxIfInBounds j = (its.eraseIdx j).toArray
    rw [List.eraseIdxIfInBounds_toArray]
  · have := len_erase xs j
    omega
/-! ### x in t, t a tuple of data -/
def rInTD (K : PySem.W.Frag) : R2 := fun x y H Q => ∃ d ds, Dp K H x d ∧ Dp K H y (.tuple ds) ∧ SeqAt.shaped d = true ∧ SeqAt.shaped (.tuple ds) = true ∧ Q (.bl (ds.any fun z => PyData.eqv z d)) H
def rNotInTD (K : PySem.W.Frag) : R2 := fun x y H Q => ∃ d ds, Dp K H x d ∧ Dp K H y (.tuple ds) ∧ SeqAt.shaped d = true ∧ SeqAt.shaped (.tuple ds) = true ∧ Q (.bl (!ds.any fun z => PyData.eqv z d)) H
theorem op_inTD (hu : X.A.units + 65 < cLine) : OpR X (compareOp .In) (rInTD X.K) := by
  intro pins s σ H x y v u Q I rx ry h
  obtain ⟨d, ds, hd, he, sd, se, q⟩ := h
  obtain ⟨as, r1⟩ := Dp.reads I d x v hd rx
  obtain ⟨bs, r2⟩ := Dp.reads I (.tuple ds) y u he ry
  exact SeqAt.in_tuple_reads r2 r1 (SeqAt.canLay_of_shaped se) (SeqAt.canLay_of_shaped sd) (room_in_shaped sd hu) ⟨.bl _, H, I, rfl, q⟩
theorem op_notInTD (hu : X.A.units + 65 < cLine) : OpR X (compareOp .NotIn) (rNotInTD X.K) := by
  intro pins s σ H x y v u Q I rx ry h
  obtain ⟨d, ds, hd, he, sd, se, q⟩ := h
  obtain ⟨as, r1⟩ := Dp.reads I d x v hd rx
  obtain ⟨bs, r2⟩ := Dp.reads I (.tuple ds) y u he ry
  exact SeqAt.notIn_tuple_reads r2 r1 (SeqAt.canLay_of_shaped se) (SeqAt.canLay_of_shaped sd) (room_in_shaped sd hu) ⟨.bl _, H, I, rfl, q⟩
end
section
variable {X : Cx} {CX : CXT} {k : Nat} {f C : Addr} {fd : FuncData} {ps ks : List Str} {sp : Sp} {E : XK} {x m : Str} {p pos apos kpos : Pos} {e o : Expr} {es : List Expr} {kws : List Keyword} {te ta : TE} {t tk : TA} {nm : Option Str}
variable {g : List Value → List Value → List Value} {gV : List V → List V → List V}
/-! ### calls by keywords alone -/
/-- f(k = v, ..) -/
theorem pe_callK0 (F : FnOk X.prog X.w X.K X.mg X.base CX k f fd ps sp) (hr : Room k X.A) (hg : Gl X x) (hm : X.mg x = some (.ref f)) (hk : PySem.W.keepIn X.K (.ref f) = true) (hb : KBinds X.K fd ps ks g gV) (hx : Passes CX X E)
    (hkw : PK X kws tk) (hall : (backToKw pos (keywordEach kws X.env)).all (·.1.isSome) = true := by rfl) (hks : (backToKw pos (keywordEach kws X.env)).filterMap (·.1) = ks := by rfl)
    (hdb : (x == ("__debug__" : Str)) = false := by decide) (hpl : ((backTo pos (starEach [] X.env)).any (·.1) || (backToKw pos (keywordEach kws X.env)).any (·.1.isNone)) = false := by rfl) :
    PE X (.Call (.Name x p) [] kws pos) (tCallK sp gV E tNil tk) := by
  refine ⟨fun pins s σ H Q I h => ?_⟩
  refine wpAny_Call_Name_kw (ld_glob I hg hm ?_ hdb)
  refine PySem.W.callWith_KW0 (first := []) (h₀ := X.base) I.ok.mod.kin hk hall ?_ hpl
  refine thn (hkw.run pos pins s σ H _ I h) fun ws s2 ⟨zs, H2, I2, rz, q2⟩ => ⟨I2.kIn, ?_⟩
  rw [hks]
  exact run_fnk (us := []) F hr hb hx I2 .nil rz q2
/-- o.m(k = v, ..) -/
def tMethK (C : Addr) (m : Str) (sp : Sp) (gV : List V → List V → List V) (E : XK) (ta : TE) (tk : TA) : TE := fun σ H Q => ta σ H fun x H1 => ∃ a dx fs, x = .ref a ∧ H1 a = some (.ins C dx fs) ∧ fs.lookup m = none ∧
  tk σ H1 fun zs H2 => sp (gV [x] zs) H2 Q E
theorem pe_methK0 {pl : Sem Bool} (he : PE X o ta) (c : Cls X.K C) (hm : Meth X.K C m f) (F : FnOk X.prog X.w X.K X.mg X.base CX k f fd ps sp) (hr : Room k X.A) (hb : KBinds X.K fd ps ks g gV) (hx : Passes CX X E)
    (hkw : PK X kws tk) (hall : (backToKw pos (keywordEach kws X.env)).all (·.1.isSome) = true := by rfl) (hks : (backToKw pos (keywordEach kws X.env)).filterMap (·.1) = ks := by rfl)
    (hpl : ((backTo pos (starEach [] X.env)).any (·.1) || (backToKw pos (keywordEach kws X.env)).any (·.1.isNone)) = false := by rfl)
    (ht : eval (.Call (.Attribute o m apos) [] kws pos) X.env = (do
      let ov ← eval o X.env
      standAt apos.atName
      let (f, first) ← holding [ov] (getMethod ov m pl)
      callWith pos f first (backTo pos (starEach [] X.env)) (backToKw pos (keywordEach kws X.env))) := by rfl) :
    PE X (.Call (.Attribute o m apos) [] kws pos) (tMethK C m sp gV E ta tk) := by
  refine ⟨fun pins s σ H Q I h => ?_⟩
  refine PySem.W.methodCall_KW (pl := pl) (thn (he.run pins s σ H _ I h) fun u s1 ⟨x, H1, I1, rx, a, dx, fs, ex, ea, l, q⟩ => ?_) ht
  subst ex
  obtain rfl : u = Value.ref a := rx
  refine getmeth_ok I1 ea c hm l ?_
  refine PySem.W.callWith_KW0 (first := [.ref a]) (h₀ := X.base) I.ok.mod.kin hm.kp hall ?_ hpl
  refine thn (hkw.run pos pins s1 σ H1 _ I1 q) fun ws s2 ⟨zs, H2, I2, rz, q2⟩ => ⟨I2.kIn, ?_⟩
  rw [hks]
  exact run_fnk (us := [.ref a]) (vs := [.ref a]) F hr hb hx I2 (.cons rfl .nil) rz q2
end
namespace TRev
open HT
section
variable {prog : Program} {w : World} {A : Around} {E : Value → Shared → Prop} {s : Shared}
theorem fm_congr {α β : Type} {f g : α → Option β} : ∀ {l : List α}, (∀ x ∈ l, f x = g x) → l.filterMap f = l.filterMap g
  | [], _ => rfl
  | a :: l, h => by rw [List.filterMap_cons, List.filterMap_cons, h a List.mem_cons_self, fm_congr fun x hx => h x (List.mem_cons_of_mem _ hx)]
theorem adjust_rev (n : Nat) : Builtin.Slice.sliceAdjust none none (-1) (n : Int) = ((n : Int) - 1, -1) := by
  unfold Builtin.Slice.sliceAdjust
  have h : (-1 : Int) < 0 := by decide
  simp only [h, if_true]
theorem places_rev (n : Nat) : Builtin.Slice.slicePlaces ((n : Int) - 1) (-1) (-1) = n := by
  unfold Builtin.Slice.slicePlaces
  have h : ¬ (-1 : Int) > 0 := by decide
  have e : -(-1 : Int) = 1 := by decide
  simp only [h, if_false, e, Int.ediv_one]
  split <;> omega
theorem pick_rev (xs : Array Value) : ((List.range xs.size).filterMap fun (m : Nat) => xs[(((xs.size : Int) - 1) + (m : Int) * (-1)).toNat]?).toArray = xs.toList.reverse.toArray := by
  congr 1
  have e : (List.range xs.size).filterMap (fun (m : Nat) => xs[(((xs.size : Int) - 1) + (m : Int) * (-1)).toNat]?) = ((List.range xs.size).map fun k => xs.size - 1 - k).filterMap (xs[·]?) := by
    rw [List.filterMap_map]
    refine fm_congr fun m hm => ?_
    have hm' := List.mem_range.mp hm
    have z : (((xs.size : Int) - 1) + (m : Int) * (-1)).toNat = xs.size - 1 - m := by omega
    show xs[(((xs.size : Int) - 1) + (m : Int) * (-1)).toNat]? = xs[xs.size - 1 - m]?
    rw [z]
  rw [e, PySem.W.krv_range, List.filterMap_reverse, PySem.W.krv_all]
theorem applied_rev {sl : Addr} {vl vu vs : Value} {n : Nat} {Q : Int × Int × Nat → Shared → Prop} (hs : s.heap.IsSliceOf sl vl vu vs) (pl : IsPart vl none) (pu : IsPart vu none) (ps : IsPart vs (some (-1)))
    (h : Q ((n : Int) - 1, -1, n) s) : wpAny (model prog w) A (Builtin.Slice.sliceApplied (.ref sl) (pure (n : Int))) Q E s := by
  obtain ⟨o, ho, _, hd⟩ := id hs
  unfold Builtin.Slice.sliceApplied Builtin.Slice.sliceFields
  refine wpAny_bind (wpAny_bind (wpAny_field ho hd (x := vl) rfl (wpAny_bind (wpAny_field ho hd (x := vu) rfl (wpAny_bind (wpAny_field ho hd (x := vs) rfl (wpAny_pure (wpAny_bind (slicePart_ ps ?_)))))))))
  refine W.KFB.if_not rfl (wpAny_bind (slicePart_ pl (wpAny_bind (slicePart_ pu (wpAny_bind (wpAny_pure ?_))))))
  simp only [Option.getD_some, adjust_rev, places_rev]
  exact wpAny_pure h
theorem getItem_tuple_rev {t sl : Addr} {items : Array Value} {vl vu vs : Value} {Q : Value → Shared → Prop} (ht : IsTup s.heap t items) (hs : s.heap.IsSliceOf sl vl vu vs) (pl : IsPart vl none) (pu : IsPart vu none) (ps : IsPart vs (some (-1)))
    (h : Q (.ref s.heap.objs.size) { s with heap := s.heap.push { cls := .type "tuple", data := .seq items.toList.reverse.toArray } })
    (hz : items.size ≤ sizeLine) : wpAny (model prog w) A (getItem (.ref t) (.ref sl)) Q E s := by
  have hok : sizeOk (.seq items.toList.reverse.toArray) := by
    show items.toList.reverse.toArray.size ≤ sizeLine
    simpa using hz
  have hT : s.TypeIs (.ref sl) "slice" := let ⟨o, ho, hc, _⟩ := hs; ⟨o, ho, hc⟩
  unfold getItem
  refine wpAny_holding (wpAny_bind (wpAny_sequenceKey ht.typeIs (by decide) ?_))
  refine wpAny_bind (wpAny_callSpecial?_slot (name := Str.ofString "__getitem__") ht.typeIs PyProof.Rows.slot_tuple_getitem (wpAny_call_entry PyProof.Rows.slot_tuple_getitem ht.typeIs PyProof.Rows.entry_tuple_getitem ?_ (PyProof.Rows.args_tuple_getitem _ _)))
  unfold Builtin.«tuple.__getitem__»
  refine wpAny_bind (m := slotArgs "__getitem__" 1 _) (wpAny_pure (wpAny_bind (PyProof.Rows.tupleItemsOf_ ht (wpAny_bind (wpAny_typeOf hT (W.KFB.if_so (by decide) (wpAny_bind (applied_rev hs pl pu ps ?_))))))))
  refine W.KFB.if_not (by rw [show ((-1 : Int) == 1) = false from rfl, Bool.and_false, Bool.false_and]) ?_
  rw [pick_rev]
  refine wpAny_bind (m := Builtin.Tuple.tupleExact _) (wpAny_newObj_type (wpAny_bind (wpAny_pure (wpAny_pure ⟨_, rfl, wpAny_pure h⟩))) hok)
end
end TRev
section
variable {X : Cx}
/-! ### t[::-1] of a tuple -/
def tRevT (K : PySem.W.Frag) (te : TE) : TE := fun σ H Q => te σ H fun x H1 => ∃ a xs, x = .ref a ∧ SqT K H1 a xs ∧ ∀ p, H1 p = none → Q (.ref p) (upd H1 p (.tup xs.reverse))
/-- the slice object of [::-1] -/
theorem rev_slice {k : Nat} {p1 p2 p3 : Pos} {pins : List (Addr × Obj)} {σ : St} {H : Hp} {s : Shared} {Q : Value → Shared → Prop} (I : Inv X pins σ H s)
    (h : ∀ (s1 : Shared) (vl vu vs : Value), IsPart vl none → IsPart vu none → IsPart vs (some (-1)) → Inv X pins σ H { s1 with heap := s1.heap.push { cls := .type "slice", data := .fields #[vl, vu, vs] } } →
      Q (.ref s1.heap.objs.size) { s1 with heap := s1.heap.push { cls := .type "slice", data := .fields #[vl, vu, vs] } }) :
    wpAny (model X.prog X.w) X.A (eval (.Slice none none (some (.UnaryOp .USub (.Constant (.int 1) k p1) p2)) p3) X.env) Q X.xe s := by
  have step : PO X (some (.UnaryOp .USub (.Constant (.int 1) k p1) p2)) (tPart (tUn (rU fun i => .int (-i)) (tC (.int 1)))) := po_some (pe_un un_neg pe_int)
  refine wpAny_Slice (thn (po_none.run pins s σ H (fun o H' => o = none ∧ H' = H) I ⟨rfl, rfl⟩) ?_)
  rintro vl s2 ⟨_, _, I2, pl, rfl, rfl⟩
  refine thn (po_none.run pins s2 σ _ (fun o H' => o = none ∧ H' = _) I2 ⟨rfl, rfl⟩) ?_
  rintro vu s3 ⟨_, _, I3, pu, rfl, rfl⟩
  refine thn (step.run pins s3 σ _ (fun o H' => o = some (-1) ∧ H' = _) I3 ⟨1, rfl, -1, rfl, rfl, rfl⟩) ?_
  rintro vs s4 ⟨_, _, I4, ps, rfl, rfl⟩
  exact h s4 vl vu vs pl pu ps (I4.kept (t' := s4.toks) fun b ob q => Heap.get?_push_of_some _ q)
theorem pe_revT {e : Expr} {te : TE} {k : Nat} {p1 p2 p3 pos : Pos} (he : PE X e te) : PE X (.Subscript e (.Slice none none (some (.UnaryOp .USub (.Constant (.int 1) k p1) p2)) p3) pos) (tRevT X.K te) := by
  refine ⟨fun pins s σ H Q I h => Subscript_ (thn (he.run pins s σ H _ I h) ?_)⟩
  rintro _ s1 ⟨_, H1, I1, rx, a, xs, rfl, hx, q⟩
  cases rx
  refine rev_slice I1 fun s4 vl vu vs pl pu ps I5 => ?_
  obtain ⟨its, r, ht, hz⟩ := I5.tuple hx
  refine tail_any (ops := [.ref a, .ref s4.heap.objs.size]) ht.typeIs (PyProof.Rows.slot_tuple_getitem.lookup) ?_ (by with_unfolding_all rfl)
  refine TRev.getItem_tuple_rev ht (Heap.IsSliceOf.new _ vl vu vs) pl pu ps ?_ (by rw [List.size_toArray, ← r.length]; exact hz)
  exact ⟨.ref _, _, I5.laid (t' := s4.toks) (o := .tup xs.reverse) (fun b ob w => Heap.get?_push_of_some _ w) (Nat.le_refl _) ⟨by rw [List.length_reverse]; exact hz, _, r.reverse, IsTup.new _ _⟩, rfl, q _ (I5.hok.fresh (Nat.le_refl _))⟩
/-! ### sorted(d), d with int keys, any number of them -/
theorem keys_ints {P : Program} {w : World} {vs : List (Key × Value)} {ks : List Int} {acc : List Value} (hk : vs.map (·.1) = ks.map Sum.inl) (hl : acc.length = vs.length)
    (ha : ∀ (j : Nat) (v : Value), acc[j]? = some v → ∃ k x, vs[j]? = some (k, x) ∧ (mixKind P w).is k v = true) : IntsAre acc ks := by
  have lk : vs.length = ks.length := by simpa using congrArg List.length hk
  refine ints_each (by omega) fun j v e => ?_
  obtain ⟨k, x, e1, e2⟩ := ha j v e
  have ej : (ks.map Sum.inl)[j]? = some k := by rw [← hk, List.getElem?_map, e1]; rfl
  rw [List.getElem?_map, Option.map_eq_some_iff] at ej
  obtain ⟨n, en, rfl⟩ := ej
  obtain ⟨t, et⟩ := Value.isInt_shape (k := n) (v := v) e2
  exact ⟨n, t, en, et⟩
theorem sorted_keys {P : Program} {w : World} {A : Around} {E : Value → Shared → Prop} {s : Shared} {d : Addr} {vs : List (Key × Value)} {ep : Nat} {ks : List Int} {Q : Value → Shared → Prop} (hh : A.handled = none) (lo : (d == sysModules) = false)
    (hd : s.heap.DictAt (mixKind P w) d vs ep) (hk : vs.map (·.1) = ks.map Sum.inl) (hn : vs.length ≤ sizeLine)
    (h : ∀ (h1 h2 : Heap) (tk ep : Nat) (out : List Value) (ys : List Int), (∀ b o, s.heap.get? b = some o → h1.get? b = some o) → (∀ b o, h1.get? b = some o → h2.get? b = some o) → h2.get? h1.objs.size = some (seqObj "list" out.toArray ep) →
      IntsAre out ys → ys.Perm ks → ys.Pairwise (· ≤ ·) → Q (.ref h1.objs.size) { s with heap := h2, toks := tk }) : wpAny (model P w) A (call (.builtin "sorted") [.ref d]) Q E s := by
  refine Calls.call_function_entry kind_sorted plain_sorted entry_sorted (args_sorted1 _) ?_
  unfold Builtin.«sorted»
  refine wpAny_bind (m := checkCount "sorted" 1 1 _) (wpAny_pure (wpAny_bind (PySem.W.kdu_collect (PySem.W.kdl_dict lo) hh hd hn fun h1 tk acc k1 hacc => ?_)))
  obtain ⟨c1, c2⟩ := hacc
  have la : acc.toList.length = vs.length := by rw [Array.length_toList, c1]
  have hi : IntsAre acc.toList ks := keys_ints hk la fun j v e => c2 j v (by rw [← Array.getElem?_toList]; exact e)
  have la' : acc.toList.length ≤ sizeLine := la ▸ hn
  have at1 : (h1.push (seqObj "list" acc.toList.toArray 0)).get? h1.objs.size = some (seqObj "list" acc.toList.toArray 0) := Heap.get?_push_size _ rfl
  refine wpAny_bind (wpAny_newList (wpAny_bind (wpAny_holding (wpAny_call_entry slot_list_sort ⟨_, at1, rfl⟩ entry_list_sort (list_sort_treeAny at1 hi la' fun out ys g1 g2 g3 => ⟨_, rfl, ?_⟩) (args_list_sort _)))) la')
  obtain ⟨c, at2⟩ := sortedHeap_at (vs := acc.toList) (out := out) at1
  refine wpAny_pure ⟨_, rfl, h h1 _ tk c out.toList ys k1 (fun b o e => ?_) (by rw [Array.toArray_toList]; exact at2) g1 g2 g3⟩
  have lt := Heap.lt_size e
  exact (sortedHeap_old (Nat.ne_of_lt lt) (by rw [size_push']; exact Nat.lt_succ_of_lt lt)).trans (Heap.get?_push_of_some _ e)
def rSortDk : List V → Hp → VK → Prop := fun xs H Q => ∃ (a : Addr) (kvs : List (Key × V)) (ks : List Int), xs = [.ref a] ∧ Rd H a (.dK kvs) ∧ kvs.map (·.1) = ks.map Sum.inl ∧
    ∀ (ys : List Int) (p : Addr), ys.Perm ks → ys.Pairwise (· ≤ ·) → H p = none → Q (.ref p) (upd H p (.lst (ys.map V.int)))
theorem call_sortDk (hc : X.calm = true) : CallR X (.builtin "sorted") rSortDk := by
  rintro pins s σ H xs us Q I r ⟨a, kvs, ks, rfl, hd, hk, q⟩
  rw [Vals.ref1 r]
  obtain ⟨z, lo, vs, rel, dd⟩ := dk_rd I.hok hd
  obtain ⟨ep, hat⟩ := dd.dictAt
  have lv : vs.length = kvs.length := by simpa using (congrArg List.length rel.keys).symm
  have lk : kvs.length = ks.length := by simpa using congrArg List.length hk
  refine sorted_keys (I.ok.hd hc) lo hat (rel.keys.symm.trans hk) (lv ▸ z) fun h1 h2 tk ep out ys k1 k2 e g1 g2 g3 => ?_
  have hz : (ys.map V.int).length ≤ sizeLine := by rw [List.length_map, g2.length_eq, ← lk]; exact z
  have I1 : Inv X pins σ H { s with heap := h1 } := I.kept (t' := s.toks) k1
  exact ⟨.ref h1.objs.size, _, I1.laid (t' := tk) (o := .lst (ys.map V.int)) k2 (Nat.le_refl _) ⟨hz, out, ep, vals_of_ints g1, e⟩, rfl, q ys _ g2 g3 (I1.hok.fresh (Nat.le_refl _))⟩
end
end L2
/-! What the walks of these laws share: heaps that keep what they have, data that never changes, draws from a list of three numbers. -/
namespace L2
open PySem PySem.Spec PyProof.Rows
/-! ### room -/
theorem hu64 {A : Around} {k : Nat} (hr : Room k A) : A.units + 64 < cLine := by have := hr.un; omega
theorem hu66 {A : Around} {k : Nat} (hr : Room k A) : A.units + 66 < cLine := by have := hr.un; omega
/-! ### what is kept -/
/-- all but what stands at S is as it was -/
def But (S : Addr → Prop) (H H' : Hp) : Prop := ∀ a o, ¬ S a → H a = some o → H' a = some o
theorem But.refl {S : Addr → Prop} (H : Hp) : But S H H := fun _ _ _ e => e
theorem But.trans {S : Addr → Prop} {H H1 H2 : Hp} (a : But S H H1) (b : But S H1 H2) : But S H H2 := fun x o n e => b x o n (a x o n e)
theorem But.mono {S T : Addr → Prop} {H H' : Hp} (k : But S H H') (h : ∀ a, S a → T a) : But T H H' := fun a o n e => k a o (fun s => n (h a s)) e
theorem Same.but {S : Addr → Prop} {H H' : Hp} (k : Same H H') : But S H H' := fun a o _ e => k a o e
theorem But.set {S : Addr → Prop} {H : Hp} {a : Addr} {o : HO} (h : S a) : But S H (upd H a o) := fun b u n e => by rw [upd_ne (fun z => n (by rw [z]; exact h))]; exact e
theorem Same.new {H : Hp} {p : Addr} {o : HO} (h : H p = none) : Same H (upd H p o) := fun b u e => by rw [upd_ne (ne_of_none e h)]; exact e
theorem Same.step {H H' : Hp} {p : Addr} {o : HO} (k : Same H H') (h : H' p = none) : Same H (upd H' p o) := k.trans (Same.new h)
theorem But.new {S : Addr → Prop} {H H' : Hp} {p : Addr} {o : HO} (k : But S H H') (h : H' p = none) : But S H (upd H' p o) := k.trans (Same.new h).but
theorem But.put {S : Addr → Prop} {H H' : Hp} {p : Addr} {o : HO} (k : But S H H') (h : S p) : But S H (upd H' p o) := k.trans (But.set h)
theorem But.own {S : Addr → Prop} {H H' : Hp} {p : Addr} {o : HO} (k : But S H H') (h : H p = none) : But S H (upd H' p o) := fun a u n e => by
  rw [upd_ne (ne_of_none e h)]
  exact k a u n e
theorem But.free {S : Addr → Prop} {H H' : Hp} {p : Addr} (k : But S H H') (h : ∀ a, S a → H' a ≠ none) (hp : H' p = none) : H p = none := by
  cases e : H p with
  | none => rfl
  | some o =>
    by_cases hs : S p
    · exact absurd hp (h p hs)
    · rw [k p o hs e] at hp
      cases hp
/-- one that H does not know may change -/
theorem Same.own {H H' : Hp} {p : Addr} {o : HO} (k : Same H H') (h : H p = none) : Same H (upd H' p o) := fun a u e => by
  rw [upd_ne (ne_of_none e h)]
  exact k a u e
/-- tuples stay -/
def TupK (H H' : Hp) : Prop := ∀ a xs, Rd H a (.tup xs) → Rd H' a (.tup xs)
theorem TupK.refl (H : Hp) : TupK H H := fun _ _ e => e
theorem TupK.trans {H H1 H2 : Hp} (a : TupK H H1) (b : TupK H1 H2) : TupK H H2 := fun x xs e => b x xs (a x xs e)
theorem Same.tupK {H H' : Hp} (k : Same H H') : TupK H H' := fun a xs r => r.elim (fun e => .inl (k _ _ e)) fun ⟨o, e⟩ => .inr ⟨o, k _ _ e⟩
theorem But.tupK {S : Addr → Prop} {H H' : Hp} (k : But S H H') (h : ∀ a xs, S a → ¬ Rd H a (.tup xs)) : TupK H H' := fun a xs r =>
  r.elim (fun e => .inl (k _ _ (fun s => h a xs s r) e)) fun ⟨o, e⟩ => .inr ⟨o, k _ _ (fun s => h a xs s r) e⟩
theorem not_tup_lst {H : Hp} {a : Addr} {xs ys : List V} (e : H a = some (.lst xs)) : ¬ Rd H a (.tup ys) := fun r => by
  rcases r with r | ⟨o, r⟩ <;> rw [e] at r <;> cases r
theorem TupK.sqT {K : PySem.W.Frag} {H H' : Hp} {a : Addr} {xs : List V} (k : TupK H H') (h : SqT K H a xs) : SqT K H' a xs := h.elim (fun r => .inl (k _ _ r)) .inr
theorem Same.sqT {K : PySem.W.Frag} {H H' : Hp} {a : Addr} {xs : List V} (k : Same H H') (h : SqT K H a xs) : SqT K H' a xs := k.tupK.sqT h
theorem Same.sqL {K : PySem.W.Frag} {H H' : Hp} {a : Addr} {xs : List V} (k : Same H H') (h : SqL K H a xs) : SqL K H' a xs := k.seq h
theorem But.sqL {S : Addr → Prop} {K : PySem.W.Frag} {H H' : Hp} {a : Addr} {xs : List V} (k : But S H H') (n : ¬ S a) (h : SqL K H a xs) : SqL K H' a xs := by
  rcases h with (h | ⟨o, h⟩) | h
  · exact .inl (.inl (k _ _ n h))
  · exact .inl (.inr ⟨o, k _ _ n h⟩)
  · exact .inr h
/-! ### data without lists -/
mutual
def imm : PyData → Bool
  | .none => true
  | .bool _ => true
  | .int _ => true
  | .str _ => true
  | .tuple ds => immAll ds
  | _ => false
def immAll : List PyData → Bool
  | [] => true
  | d :: ds => imm d && immAll ds
end
mutual
theorem Dp.keep {K : PySem.W.Frag} {H H' : Hp} (k : TupK H H') : ∀ (d : PyData) (v : V), imm d = true → Dp K H v d → Dp K H' v d
  | .none, _, _, h => by cases h; exact .non
  | .bool b, _, _, h => by cases h; exact .bl b
  | .int i, _, _, h => by cases h; exact .int i
  | .str x, _, _, h => by cases h; exact .str x
  | .tuple ds, _, hi, h => by
    cases h with
    | tup hs ha => exact .tup (k.sqT hs) (Dp.keepAll k ds _ (by simpa only [imm] using hi) ha)
  | .list _, _, hi, _ => by simp [imm] at hi
  | .dict _, _, hi, _ => by simp [imm] at hi
theorem Dp.keepAll {K : PySem.W.Frag} {H H' : Hp} (k : TupK H H') : ∀ (ds : List PyData) (vs : List V), immAll ds = true → DpAll K H vs ds → DpAll K H' vs ds
  | [], _, _, h => by cases h; exact .nil
  | d :: ds, _, hi, h => by
    simp only [immAll, Bool.and_eq_true] at hi
    cases h with
    | cons h1 h2 => exact .cons (Dp.keep k d _ hi.1 h1) (Dp.keepAll k ds _ hi.2 h2)
end
theorem DpAll.get {K : PySem.W.Frag} {H : Hp} : ∀ {vs : List V} {ds : List PyData} {i : Nat} {v : V}, DpAll K H vs ds → vs[i]? = some v → ∃ d, ds[i]? = some d ∧ Dp K H v d
  | _, _, _, _, .nil, e => by simp at e
  | _, _, 0, _, .cons h _, e => by
    simp at e
    subst e
    exact ⟨_, rfl, h⟩
  | _, _, i + 1, _, .cons _ t, e => by
    obtain ⟨d, h1, h2⟩ := DpAll.get (i := i) t (by simpa using e)
    exact ⟨d, by simpa using h1, h2⟩
theorem DpAll.of_get {K : PySem.W.Frag} {H : Hp} : ∀ {vs : List V} {ds : List PyData}, vs.length = ds.length → (∀ (i : Nat) (v : V) (d : PyData), vs[i]? = some v → ds[i]? = some d → Dp K H v d) → DpAll K H vs ds
  | [], [], _, _ => .nil
  | [], _ :: _, h, _ => by simp at h
  | _ :: _, [], h, _ => by simp at h
  | v :: vs, d :: ds, h, f => .cons (f 0 v d rfl rfl) (DpAll.of_get (by simpa using h) fun i x y e1 e2 => f (i + 1) x y (by simpa using e1) (by simpa using e2))
theorem DpAll.app {K : PySem.W.Frag} {H : Hp} : ∀ {vs ws : List V} {ds es : List PyData}, DpAll K H vs ds → DpAll K H ws es → DpAll K H (vs ++ ws) (ds ++ es)
  | _, _, _, _, .nil, h => h
  | _, _, _, _, .cons h t, h2 => .cons h (DpAll.app t h2)
/-! ### keywords: p positional values, k by name -/
def kbG {α : Type} (p k : Nat) (us ws : List α) : List α := if us.length = p ∧ ws.length = k then us ++ ws else []
theorem kbG_len {α : Type} {p k n : Nat} {us ws : List α} (h : (kbG p k us ws).length = n) (hn : 0 < n) : us.length = p ∧ ws.length = k := by
  unfold kbG at h
  by_cases c : us.length = p ∧ ws.length = k
  · exact c
  · rw [if_neg c] at h
    simp at h
    omega
theorem kbG_rel {p k : Nat} {vs : List V} {us : List Value} {zs : List V} {ws : List Value} (a : Vals vs us) (b : Vals zs ws) : Vals (kbG p k vs zs) (kbG p k us ws) := by
  unfold kbG
  rw [a.length, b.length]
  by_cases c : us.length = p ∧ ws.length = k
  · rw [if_pos c, if_pos c]
    exact a.append b
  · rw [if_neg c, if_neg c]
    exact .nil
/-! ### what len reads; a list filtered by a number -/
abbrev rLenS (K : PySem.W.Frag) : List V → Hp → VK → Prop := fun xs H Q => ∃ p ys, xs = [V.ref p] ∧ (SqL K H p ys ∨ SqT K H p ys) ∧ Q (.int ys.length) H
theorem dec_vint (k n : Int) : decide (V.int k = V.int n) = decide (k = n) := by
  by_cases h : k = n
  · subst h
    simp
  · have : ¬ V.int k = V.int n := fun e => h (V.int.inj e)
    simp [h, this]
theorem lc_filter {K : PySem.W.Frag} {a : Addr} {val : Int → V} {ns : List Int} {n : Int} {s : Nat} {tt : TT} {σ : L2.St} {H1 : Hp} {D : Addr} {Qd : Hp → Prop} (ha : SqL K H1 a (ns.map val)) (hD : H1 D = none) (hl : ns.length < sizeLine)
    (htt : ∀ k ∈ ns, ∀ H' (Q : Bool → Hp → Prop), Same H1 H' → Q (decide (k = n)) H' → tt ((wipe σ [s]).set s (some (val k))) H' Q)
    (hw : ∀ x, wipe ((wipe σ [s]).set s (some x)) [s] = wipe σ [s]) (hg : ∀ x H' Q, Q x H' → tVar s ((wipe σ [s]).set s (some x)) H' Q)
    (hd : ∀ H', H' D = some (.lst ((ns.filter fun k => decide (k = n)).map val)) → Same H1 H' → Qd H') :
    ∃ W : Nat → Nat → Hp → Prop, (∃ m, W 0 m (upd H1 D (.lst []))) ∧ ∀ i m H, W i m H →
      ((Itl K a).stop i H ∧ Qd H) ∨ ((Itl K a).go i H ∧ ∃ Nx : Hp → Prop, (∀ H', Nx H' → ∃ m', m' < m ∧ W (i + 1) m' H') ∧ ∀ x H', (Itl K a).yld i H x H' → gName s x (wipe σ [s]) H' fun σ2 H2 => wipe σ2 [s] = wipe σ [s] ∧ tt σ2 H2 fun b H3 =>
        if b = true then tVar s σ2 H3 fun y H4 => ∃ acc, H4 D = some (.lst acc) ∧ acc.length < sizeLine ∧ Nx (upd H4 D (.lst (acc ++ [y]))) else Nx H3) := by
  refine lc_list (K := K) (a := a) (xs := ns.map val) (g := gName s) (tt := tt) (te := tVar s) (vs := [s]) (σ := σ) (fun i H' => H' D = some (.lst (((ns.take i).filter fun k => decide (k = n)).map val)) ∧ Same H1 H') ⟨upd_same, Same.new hD⟩ (fun i H' _ h => h.2.seq ha) ?_ ?_
  · rintro i x H' hi ⟨e1, e2⟩
    have hil : i < ns.length := by
      have z := (List.getElem?_eq_some_iff.mp hi).1
      rw [List.length_map] at z
      exact z
    obtain ⟨k, hk, rfl⟩ : ∃ k, ns[i]? = some k ∧ x = val k := by
      rw [List.getElem?_map, List.getElem?_eq_getElem hil] at hi
      exact ⟨_, List.getElem?_eq_getElem hil, (Option.some.inj hi).symm⟩
    refine ⟨hw _, htt k (List.mem_of_getElem? hk) H' _ e2 ?_⟩
    have et : ns.take (i + 1) = ns.take i ++ [k] := by rw [List.take_add_one, hk]; rfl
    by_cases hkn : k = n
    · rw [decide_eq_true hkn]
      refine iteT (hg _ _ _ ⟨_, e1, ?_, ?_, e2.own hD⟩)
      · rw [List.length_map]
        exact Nat.lt_of_le_of_lt (Nat.le_trans (List.length_filter_le _ _) (by rw [List.length_take]; exact Nat.min_le_right _ _)) hl
      · rw [upd_same, et, List.filter_append, List.map_append]
        simp [hkn]
    · rw [decide_eq_false hkn]
      refine iteF ⟨?_, e2⟩
      rw [e1, et, List.filter_append, List.map_append]
      simp [hkn]
  · rintro H' ⟨e1, e2⟩
    rw [List.length_map, List.take_length] at e1
    exact hd H' e1 e2
end L2
/-! Methods called in a try's body: what they raise is the clause's (the wish may name the slots). -/
namespace L2
open PySem PySem.Spec PyProof.Rows
section
variable {X : Cx} {CX : CXT} {k : Nat} {f C : Addr} {fd : FuncData} {ps ks : List Str} {sp : Sp} {E : L2.St → XK} {m : Str} {apos pos : Pos} {o e : Expr} {es : List Expr} {kws : List Keyword} {ta : TE} {t tk : TA}
variable {g : List Value → List Value → List Value} {gV : List V → List V → List V}
theorem run_kS {pins : List (Addr × Obj)} {σ : L2.St} {H : Hp} {s : Shared} {Q : VK} {us ws : List Value} {vs zs : List V} (F : FnOk X.prog X.w X.K X.mg X.base CX k f fd ps sp) (hr : Room k X.A) (hb : KBinds X.K fd ps ks g gV) (hx : PassesAt CX X σ (E σ))
    (I : Inv X pins σ H s) (r : Vals vs us) (rz : Vals zs ws) (h : sp (gV vs zs) H Q (E σ)) : wpAny (model X.prog X.w) X.A (call (.ref f) us (ks.zip ws)) (EP X pins σ Q) X.xe s := by
  have both := hb.rel r rz
  have len : (g us ws).length = ps.length := both.length.symm.trans (F.len _ _ _ _ h)
  refine wpAny_call (codeAny_mono (F.run X.A X.stack s H ⟨us, ks.zip ws⟩ (g us ws) (gV vs zs) Q (E σ) hr I.env0 (hb.to s us ws I.kIn len) both h) ?_)
  intro res s' post
  cases res with
  | error x => exact hx pins H s x s' I post
  | ok way =>
    cases way with
    | ret u => exact I.after post
    | next => cases post
    | brk => cases post
    | cont => cases post
/-- o.m(k = v, ..) in a try -/
def tMethKS (C : Addr) (m : Str) (sp : Sp) (gV : List V → List V → List V) (E : L2.St → XK) (ta : TE) (tk : TA) : TE := fun σ H Q => ta σ H fun x H1 => ∃ a dx fs, x = .ref a ∧ H1 a = some (.ins C dx fs) ∧ fs.lookup m = none ∧
  tk σ H1 fun zs H2 => sp (gV [x] zs) H2 Q (E σ)
theorem pe_methKS {pl : Sem Bool} (he : PE X o ta) (c : Cls X.K C) (hm : Meth X.K C m f) (F : FnOk X.prog X.w X.K X.mg X.base CX k f fd ps sp) (hr : Room k X.A) (hb : KBinds X.K fd ps ks g gV) (hx : ∀ σ, PassesAt CX X σ (E σ))
    (hkw : PK X kws tk) (hall : (backToKw pos (keywordEach kws X.env)).all (·.1.isSome) = true := by rfl) (hks : (backToKw pos (keywordEach kws X.env)).filterMap (·.1) = ks := by rfl)
    (hpl : ((backTo pos (starEach [] X.env)).any (·.1) || (backToKw pos (keywordEach kws X.env)).any (·.1.isNone)) = false := by rfl)
    (ht : eval (.Call (.Attribute o m apos) [] kws pos) X.env = (do
      let ov ← eval o X.env
      standAt apos.atName
      let (f, first) ← holding [ov] (getMethod ov m pl)
      callWith pos f first (backTo pos (starEach [] X.env)) (backToKw pos (keywordEach kws X.env))) := by rfl) :
    PE X (.Call (.Attribute o m apos) [] kws pos) (tMethKS C m sp gV E ta tk) := by
  refine ⟨fun pins s σ H Q I h => ?_⟩
  refine PySem.W.methodCall_KW (pl := pl) (thn (he.run pins s σ H _ I h) ?_) ht
  rintro u s1 ⟨x, H1, I1, rx, a, dx, fs, rfl, ea, no, q⟩
  obtain rfl : u = Value.ref a := rx
  refine getmeth_ok I1 ea c hm no ?_
  refine PySem.W.callWith_KW0 (first := [.ref a]) (h₀ := X.base) I.ok.mod.kin hm.kp hall ?_ hpl
  refine thn (hkw.run pos pins s1 σ H1 _ I1 q) ?_
  rintro ws s2 ⟨zs, H2, I2, rz, q2⟩
  refine ⟨I2.kIn, ?_⟩
  rw [hks]
  exact run_kS (us := [.ref a]) (vs := [.ref a]) F hr hb (hx σ) I2 (.cons rfl .nil) rz q2
/-- o.m(e, ..) in a try -/
def tMethPS (C : Addr) (m : Str) (sp : Sp) (E : L2.St → XK) (ta : TE) (t : TA) : TE := fun σ H Q => ta σ H fun x H1 => ∃ a dx fs, x = .ref a ∧ H1 a = some (.ins C dx fs) ∧ fs.lookup m = none ∧
  t σ H1 fun vs H2 => sp (x :: vs) H2 Q (E σ)
theorem pe_methPS {pl : Sem Bool} (he : PE X o ta) (c : Cls X.K C) (hm : Meth X.K C m f) (F : FnOk X.prog X.w X.K X.mg X.base CX k f fd ps sp) (hr : Room k X.A) (hb : Binds X.K fd ps []) (hx : ∀ σ, PassesAt CX X σ (E σ)) (ha : PA X (e :: es) t)
    (hst : starEach (e :: es) X.env = (false, eval e X.env) :: starEach es X.env := by rfl) (hpl : (backTo pos (starEach es X.env)).any (·.1) = false := by rfl)
    (ht : eval (.Call (.Attribute o m apos) (e :: es) [] pos) X.env = (do
      let ov ← eval o X.env
      standAt apos.atName
      let (f, first) ← holding [ov] (getMethod ov m pl)
      callWith pos f first (backTo pos (starEach (e :: es) X.env)) (backToKw pos (keywordEach [] X.env))) := by rfl) :
    PE X (.Call (.Attribute o m apos) (e :: es) [] pos) (tMethPS C m sp E ta t) := by
  refine ⟨fun pins s σ H Q I h => ?_⟩
  refine PySem.W.methodCall_KW (pl := pl) (thn (he.run pins s σ H _ I h) ?_) ht
  rintro u s1 ⟨x, H1, I1, rx, a, dx, fs, rfl, ea, no, q⟩
  obtain rfl : u = Value.ref a := rx
  refine getmeth_ok I1 ea c hm no ?_
  refine PySem.W.callWith_K (first := [.ref a]) (h₀ := X.base) I.ok.mod.kin hm.kp (thn (ha.run pos pins s1 σ H1 _ I1 q) ?_) hst hpl
  rintro us s2 ⟨vs, H2, I2, r, q2⟩
  exact ⟨I2.kIn, run_fnS (us := .ref a :: us) (vs := .ref a :: vs) F hr hb (hx σ) I2 (.cons rfl r) q2⟩
end
end L2
/-! k88, the plain law: what is told in order, what waits. -/
namespace K88
open PySem PySem.Spec PyProof.Rows L2
def Word (w : Str) : Prop := w = "came" ∨ w = "new" ∨ w = "went"
def tellD (n c : Int) (w : Str) (k : Int) : PyData := .tuple [.int n, .int c, .str w, .int k]
/-- the tell with number n -/
def nth (L : List PyData) (n : Int) : PyData := L.getD (n - 1).toNat .none
def nums (m : Nat) : List Int := (List.range m).map fun (i : Nat) => (i : Int) + 1
theorem mem_nums {m : Nat} {n : Int} : n ∈ nums m ↔ 1 ≤ n ∧ n ≤ m := by
  unfold nums
  rw [List.mem_map]
  constructor
  · rintro ⟨i, hi, rfl⟩
    have := List.mem_range.mp hi
    omega
  · rintro ⟨h1, h2⟩
    exact ⟨(n - 1).toNat, List.mem_range.mpr (by omega), by omega⟩
theorem nums_succ (m : Nat) : nums (m + 1) = nums m ++ [(m : Int) + 1] := by
  unfold nums
  rw [List.range_succ, List.map_append]
  all_goals rfl
theorem nums_len (m : Nat) : (nums m).length = m := by
  unfold nums
  rw [List.length_map, List.length_range]
theorem nums_nodup (m : Nat) : (nums m).Nodup := by
  unfold nums
  have h : (List.range m).Pairwise (· < ·) := List.pairwise_lt_range
  exact List.Pairwise.map (R := (· < ·)) _ (fun a b (hab : a < b) => by show ((a : Int) + 1) ≠ (b : Int) + 1; omega) h
theorem nums_take {m i : Nat} (h : i ≤ m) : (nums m).take i = nums i := by
  unfold nums
  rw [← List.map_take, List.take_range, Nat.min_eq_left h]
theorem nums_nth {L : List PyData} {m : Nat} (h : m ≤ L.length) : (nums m).map (nth L) = L.take m := by
  apply List.ext_getElem?
  intro i
  unfold nums
  rw [List.map_map, List.getElem?_map, List.getElem?_take]
  by_cases hi : i < m
  · rw [List.getElem?_range hi, if_pos hi]
    have hl : i < L.length := by omega
    show some (L.getD ((i : Int) + 1 - 1).toNat .none) = _
    have e : ((i : Int) + 1 - 1).toNat = i := by omega
    rw [e, List.getD_eq_getElem?_getD, List.getElem?_eq_getElem hl]
    all_goals rfl
  · rw [if_neg hi, List.getElem?_eq_none (by rw [List.length_range]; omega)]
    all_goals rfl
/-- all tells of a list are good: numbered 1, 2, .. -/
def TL (L : List PyData) : Prop := ∀ n : Int, 1 ≤ n → n ≤ L.length → ∃ c w k, nth L n = tellD n c w k ∧ 1 ≤ c ∧ Word w ∧ 1 ≤ k ∧ k ≤ 999
theorem nth_get {L : List PyData} {i : Nat} (h : i < L.length) : L[i]? = some (nth L ((i : Int) + 1)) := by
  have e : ((i : Int) + 1 - 1).toNat = i := by omega
  unfold nth
  rw [e, List.getD_eq_getElem?_getD, List.getElem?_eq_getElem h]
  all_goals rfl
theorem TL.snoc {L : List PyData} (h : TL L) {c : Int} {w : Str} {k : Int} (h1 : 1 ≤ c) (h2 : Word w) (h3 : 1 ≤ k) (h4 : k ≤ 999) : TL (L ++ [tellD ((L.length : Int) + 1) c w k]) := by
  intro n g1 g2
  rw [List.length_append, List.length_singleton] at g2
  by_cases e : n ≤ L.length
  · obtain ⟨c', w', k', q⟩ := h n g1 e
    refine ⟨c', w', k', ?_, q.2⟩
    rw [← q.1]
    unfold nth
    rw [List.getD_eq_getElem?_getD, List.getD_eq_getElem?_getD, List.getElem?_append_left (by omega)]
  · have en : n = (L.length : Int) + 1 := by omega
    subst en
    refine ⟨c, w, k, ?_, h1, h2, h3, h4⟩
    unfold nth
    rw [show ((L.length : Int) + 1 - 1).toNat = L.length by omega, List.getD_eq_getElem?_getD, List.getElem?_append_right (Nat.le_refl _), Nat.sub_self]
    rfl
theorem TL.nil : TL [] := fun n h1 h2 => by
  simp at h2
  omega
/-- the state is sound -/
structure St0 (L : List PyData) (m : Nat) (ws : List Int) : Prop where
  le : m ≤ L.length
  nd : ws.Nodup
  gt : ∀ n ∈ ws, (m : Int) < n
  up : ∀ n ∈ ws, n ≤ L.length
def Known (m : Nat) (ws : List Int) (n : Int) : Prop := n ≤ m ∨ n ∈ ws
instance {m : Nat} {ws : List Int} {n : Int} : Decidable (Known m ws n) := by unfold Known; infer_instance
def run : Nat → Nat → List Int → Nat × List Int
  | 0, m, ws => (m, ws)
  | k + 1, m, ws => if (m : Int) + 1 ∈ ws then run k (m + 1) (ws.erase ((m : Int) + 1)) else (m, ws)
theorem run_stop {m : Nat} {ws : List Int} (h : ¬ (m : Int) + 1 ∈ ws) : ∀ k, run k m ws = (m, ws)
  | 0 => rfl
  | k + 1 => by
    unfold run
    rw [if_neg h]
theorem run_go {m : Nat} {ws : List Int} (h : (m : Int) + 1 ∈ ws) (k : Nat) : run (k + 1) m ws = run k (m + 1) (ws.erase ((m : Int) + 1)) := by
  rw [run, if_pos h]
theorem St0.step {L : List PyData} {m : Nat} {ws : List Int} (s : St0 L m ws) (h : (m : Int) + 1 ∈ ws) : St0 L (m + 1) (ws.erase ((m : Int) + 1)) where
  le := by have := s.up _ h; omega
  nd := s.nd.erase _
  gt := fun n hn => by
    have h1 := (s.nd.mem_erase_iff).mp hn
    have h2 := s.gt n h1.2
    have h3 := h1.1
    omega
  up := fun n hn => s.up n (List.mem_of_mem_erase hn)
theorem known_step {m : Nat} {ws : List Int} (hd : ws.Nodup) (h : (m : Int) + 1 ∈ ws) (n : Int) : Known (m + 1) (ws.erase ((m : Int) + 1)) n ↔ Known m ws n := by
  unfold Known
  rw [hd.mem_erase_iff]
  constructor
  · rintro (h1 | h1)
    · by_cases h2 : n ≤ m
      · exact .inl h2
      · have e : n = (m : Int) + 1 := by omega
        exact .inr (e ▸ h)
    · exact .inr h1.2
  · rintro (h1 | h1)
    · exact .inl (by omega)
    · by_cases h2 : n = (m : Int) + 1
      · exact .inl (by omega)
      · exact .inr ⟨h2, h1⟩
theorem run_ok {L : List PyData} : ∀ (k m : Nat) (ws : List Int), St0 L m ws → St0 L (run k m ws).1 (run k m ws).2 ∧ m ≤ (run k m ws).1 ∧ (∀ n, Known (run k m ws).1 (run k m ws).2 n ↔ Known m ws n) ∧ (ws.length ≤ k → ¬ (((run k m ws).1 : Int) + 1 ∈ (run k m ws).2))
  | 0, m, ws, s => ⟨s, Nat.le_refl _, fun _ => Iff.rfl, fun h => by
    have e : ws = [] := List.length_eq_zero_iff.mp (by omega)
    subst e
    exact List.not_mem_nil⟩
  | k + 1, m, ws, s => by
    by_cases h : (m : Int) + 1 ∈ ws
    · rw [run_go h]
      obtain ⟨h1, h2, h3, h4⟩ := run_ok k (m + 1) (ws.erase ((m : Int) + 1)) (s.step h)
      refine ⟨h1, by omega, fun n => (h3 n).trans (known_step s.nd h n), fun hl => h4 ?_⟩
      rw [List.length_erase_of_mem h]
      omega
    · rw [run_stop h]
      exact ⟨s, Nat.le_refl _, fun _ => Iff.rfl, fun _ => h⟩
theorem run_more : ∀ (k m : Nat) (ws : List Int), ws.length ≤ k → run k m ws = run ws.length m ws
  | 0, m, ws, h => by
    have e : ws.length = 0 := by omega
    rw [e]
  | k + 1, m, ws, h => by
    by_cases hi : (m : Int) + 1 ∈ ws
    · have e := List.length_erase_of_mem hi
      have hp : 0 < ws.length := List.length_pos_of_mem hi
      have e2 : ws.length = (ws.erase ((m : Int) + 1)).length + 1 := by omega
      rw [run_go hi, run_more k _ _ (by omega), e2, run_go hi]
    · rw [run_stop hi, run_stop hi]
/-- the state behind a tell with number n that is taken -/
def nxt (m : Nat) (ws : List Int) (n : Int) : Nat × List Int := if Known m ws n then (m, ws) else run (ws.length + 1) m (ws ++ [n])
/-- sound, and nothing waits that could be told -/
structure St1 (L : List PyData) (m : Nat) (ws : List Int) : Prop extends St0 L m ws where
  gap : ¬ (m : Int) + 1 ∈ ws
theorem St0.add {L : List PyData} {m : Nat} {ws : List Int} (s : St0 L m ws) {n : Int} (hk : ¬ Known m ws n) (hn : n ≤ L.length) : St0 L m (ws ++ [n]) where
  le := s.le
  nd := by
    rw [List.nodup_append]
    refine ⟨s.nd, by simp, fun a ha b hb e => hk (.inr ?_)⟩
    rw [List.mem_singleton] at hb
    subst hb
    exact e ▸ ha
  gt := fun k h => by
    rcases List.mem_append.mp h with h | h
    · exact s.gt k h
    · rw [List.mem_singleton] at h
      subst h
      unfold Known at hk
      omega
  up := fun k h => by
    rcases List.mem_append.mp h with h | h
    · exact s.up k h
    · rw [List.mem_singleton] at h
      subst h
      exact hn
theorem nxt_ok {L : List PyData} {m : Nat} {ws : List Int} {n : Int} (s : St1 L m ws) (hn : n ≤ L.length) : St1 L (nxt m ws n).1 (nxt m ws n).2 ∧ m ≤ (nxt m ws n).1 ∧ (∀ j, Known m ws j → Known (nxt m ws n).1 (nxt m ws n).2 j) ∧ Known (nxt m ws n).1 (nxt m ws n).2 n := by
  unfold nxt
  by_cases h : Known m ws n
  · rw [if_pos h]
    exact ⟨s, Nat.le_refl _, fun _ q => q, h⟩
  · rw [if_neg h]
    obtain ⟨h1, h2, h3, h4⟩ := run_ok (L := L) (ws.length + 1) m (ws ++ [n]) (s.toSt0.add h hn)
    refine ⟨⟨h1, h4 (by simp)⟩, h2, fun j q => (h3 j).mpr ?_, (h3 n).mpr (.inr (by simp))⟩
    rcases q with q | q
    · exact .inl q
    · exact .inr (List.mem_append_left _ q)
theorem St1.all {L : List PyData} {m : Nat} {ws : List Int} (s : St1 L m ws) (h : ∀ n : Int, 1 ≤ n → n ≤ L.length → Known m ws n) : m = L.length ∧ ws = [] := by
  have e : m = L.length := by
    by_cases q : m = L.length
    · exact q
    · have hl := s.le
      rcases h ((m : Int) + 1) (by omega) (by omega) with z | z
      · omega
      · exact absurd z s.gap
  refine ⟨e, List.eq_nil_iff_forall_not_mem.mpr fun n hn => ?_⟩
  have h1 := s.gt n hn
  have h2 := s.up n hn
  omega
/-! ### the data -/
theorem tell_inj {n c : Int} {w : Str} {k n' c' : Int} {w' : Str} {k' : Int} (h : tellD n c w k = tellD n' c' w' k') : n = n' ∧ c = c' ∧ w = w' ∧ k = k' := by
  unfold tellD at h
  injection h with h
  injection h with h1 h
  injection h with h2 h
  injection h with h3 h
  injection h with h4 h
  injection h1 with h1
  injection h2 with h2
  injection h3 with h3
  injection h4 with h4
  exact ⟨h1, h2, h3, h4⟩
theorem eqv_tell (n c : Int) (w : Str) (k n' c' : Int) (w' : Str) (k' : Int) : PyData.eqv (tellD n c w k) (tellD n' c' w' k') = decide (n = n' ∧ c = c' ∧ w = w' ∧ k = k') := by
  by_cases h : n = n' ∧ c = c' ∧ w = w' ∧ k = k'
  · rw [decide_eq_true h]
    obtain ⟨rfl, rfl, rfl, rfl⟩ := h
    simp [tellD, PyData.eqv, PyData.eqvAll]
  · rw [decide_eq_false h]
    cases e : PyData.eqv (tellD n c w k) (tellD n' c' w' k') with
    | false => rfl
    | true =>
      refine absurd ?_ h
      simp [tellD, PyData.eqv, PyData.eqvAll] at e
      exact e
theorem word_ok {w : Str} (h : Word w) : PyData.strOk w = true := by
  rcases h with rfl | rfl | rfl <;> decide +kernel
theorem tell_shaped {n c : Int} {w : Str} {k : Int} (h : Word w) : SeqAt.shaped (tellD n c w k) = true := by
  have e := word_ok h
  simp [SeqAt.shaped, tellD, PyData.canLay0, PyData.canLayAll0, e, PyData.depth, PyData.depthAll]
theorem tell_imm (n c : Int) (w : Str) (k : Int) : imm (tellD n c w k) = true := by simp [tellD, imm, immAll]
theorem canLayAll_of : ∀ {ds : List PyData}, (∀ d ∈ ds, d.canLay0 = true) → PyData.canLayAll0 ds = true
  | [], _ => by simp [PyData.canLayAll0]
  | d :: ds, h => by
    simp only [PyData.canLayAll0, Bool.and_eq_true]
    exact ⟨h d List.mem_cons_self, canLayAll_of fun x hx => h x (List.mem_cons_of_mem _ hx)⟩
theorem depthAll_of {n : Nat} : ∀ {ds : List PyData}, (∀ d ∈ ds, d.depth ≤ n) → PyData.depthAll ds ≤ n
  | [], _ => by simp [PyData.depthAll]
  | d :: ds, h => by
    have h1 := h d List.mem_cons_self
    have h2 := depthAll_of fun x hx => h x (List.mem_cons_of_mem _ hx)
    simp only [PyData.depthAll]
    omega
theorem immAll_of : ∀ {ds : List PyData}, (∀ d ∈ ds, imm d = true) → immAll ds = true
  | [], _ => by simp [immAll]
  | d :: ds, h => by
    simp only [immAll, Bool.and_eq_true]
    exact ⟨h d List.mem_cons_self, immAll_of fun x hx => h x (List.mem_cons_of_mem _ hx)⟩
/-- every item is a good tell -/
def Tells (ds : List PyData) : Prop := ∀ d ∈ ds, ∃ n c w k, d = tellD n c w k ∧ Word w
theorem Tells.imm {ds : List PyData} (h : Tells ds) : immAll ds = true := immAll_of fun d hd => by
  obtain ⟨n, c, w, k, rfl, _⟩ := h d hd
  exact tell_imm _ _ _ _
theorem tell_depth (n c : Int) (w : Str) (k : Int) : (tellD n c w k).depth ≤ 1 := by simp [tellD, PyData.depth, PyData.depthAll]
theorem tell_lay {n c : Int} {w : Str} {k : Int} (h : Word w) : (tellD n c w k).canLay0 = true := by
  have e := word_ok h
  simp [tellD, PyData.canLay0, PyData.canLayAll0, e]
theorem Tells.shaped_t {ds : List PyData} (h : Tells ds) : SeqAt.shaped (.tuple ds) = true := by
  have h1 := canLayAll_of (ds := ds) fun d hd => by
    obtain ⟨n, c, w, k, rfl, hw⟩ := h d hd
    exact tell_lay hw
  have h2 := depthAll_of (n := 1) (ds := ds) fun d hd => by
    obtain ⟨n, c, w, k, rfl, hw⟩ := h d hd
    exact tell_depth _ _ _ _
  exact Bool.and_eq_true_iff.mpr ⟨by simp only [PyData.canLay0]; exact h1, decide_eq_true (by simp only [PyData.depth]; omega)⟩
theorem Tells.shaped_l {ds : List PyData} (h : Tells ds) : SeqAt.shaped (.list ds) = true := by
  have h1 := canLayAll_of (ds := ds) fun d hd => by
    obtain ⟨n, c, w, k, rfl, hw⟩ := h d hd
    exact tell_lay hw
  have h2 := depthAll_of (n := 1) (ds := ds) fun d hd => by
    obtain ⟨n, c, w, k, rfl, hw⟩ := h d hd
    exact tell_depth _ _ _ _
  exact Bool.and_eq_true_iff.mpr ⟨by simp only [PyData.canLay0]; exact h1, decide_eq_true (by simp only [PyData.depth]; omega)⟩
theorem nth_tells {L : List PyData} (h : TL L) {ns : List Int} (hn : ∀ n ∈ ns, 1 ≤ n ∧ n ≤ L.length) : Tells (ns.map (nth L)) := fun d hd => by
  obtain ⟨n, h1, rfl⟩ := List.mem_map.mp hd
  obtain ⟨c, w, k, e, _, hw, _⟩ := h n (hn n h1).1 (hn n h1).2
  exact ⟨n, c, w, k, e, hw⟩
theorem tl_tells {L : List PyData} (h : TL L) : Tells L := by
  have e := nums_nth (Nat.le_refl L.length)
  rw [List.take_length] at e
  rw [← e]
  exact nth_tells h fun n hn => mem_nums.mp hn
theorem Tells.take {ds : List PyData} (h : Tells ds) (m : Nat) : Tells (ds.take m) := fun d hd => h d (List.mem_of_mem_take hd)
/-! ### dicts with keys from a list of numbers -/
def dk (ws : List Int) (val : Int → V) : List (Key × V) := ws.map fun n => (Sum.inl n, val n)
theorem valV_dk {ws : List Int} {val : Int → V} {n : Int} (h : n ∈ ws) : valV (dk ws val) (Sum.inl n) = some (val n) := by
  unfold valV dk
  induction ws with
  | nil => cases h
  | cons a r ih =>
    rw [List.map_cons, List.find?_cons]
    by_cases e : a = n
    · subst e
      simp
    · have e' : decide ((Sum.inl a : Key) = Sum.inl n) = false := decide_eq_false fun z => e (Sum.inl.inj z)
      rw [e']
      exact ih (by rcases List.mem_cons.mp h with q | q; exact absurd q.symm e; exact q)
theorem valV_dk_none {ws : List Int} {val : Int → V} {n : Int} (h : ¬ n ∈ ws) : valV (dk ws val) (Sum.inl n) = none := by
  unfold valV dk
  rw [List.find?_eq_none.mpr]
  · rfl
  · intro kv hkv
    obtain ⟨a, ha, rfl⟩ := List.mem_map.mp hkv
    simp only [decide_eq_true_eq]
    intro z
    exact h (Sum.inl.inj z ▸ ha)
theorem drop_dk {ws : List Int} {val : Int → V} {n : Int} (hd : ws.Nodup) : dropK (dk ws val) (Sum.inl n) = dk (ws.erase n) val := by
  unfold dropK dk
  rw [hd.erase_eq_filter, List.filter_map]
  congr 1
  apply List.filter_congr
  intro a _
  show decide ((Sum.inl a : Key) ≠ Sum.inl n) = (a != n)
  by_cases e : a = n
  · subst e
    simp
  · have : (Sum.inl a : Key) ≠ Sum.inl n := fun z => e (Sum.inl.inj z)
    simp [this, e]
theorem put_dk_old {ws : List Int} {val : Int → V} {n : Int} {v : V} (h : n ∈ ws) : putK (dk ws val) (Sum.inl n) v = dk ws (fun k => if k = n then v else val k) := by
  unfold putK dk
  have e : ((ws.map fun n => ((Sum.inl n : Key), val n)).any fun kv => decide (kv.1 = Sum.inl n)) = true := by
    rw [List.any_eq_true]
    exact ⟨_, List.mem_map.mpr ⟨n, h, rfl⟩, by simp⟩
  rw [if_pos e, List.map_map]
  apply List.map_congr_left
  intro a _
  show (if (Sum.inl a : Key) = Sum.inl n then ((Sum.inl a : Key), v) else (Sum.inl a, val a)) = (Sum.inl a, if a = n then v else val a)
  by_cases q : a = n
  · subst q
    simp
  · rw [if_neg fun z => q (Sum.inl.inj z), if_neg q]
theorem put_dk_new {ws : List Int} {val : Int → V} {n : Int} {v : V} (h : ¬ n ∈ ws) : putK (dk ws val) (Sum.inl n) v = dk (ws ++ [n]) (fun k => if k = n then v else val k) := by
  unfold putK dk
  have e : ¬ ((ws.map fun n => ((Sum.inl n : Key), val n)).any fun kv => decide (kv.1 = Sum.inl n)) = true := by
    rw [List.any_eq_true]
    rintro ⟨kv, hkv, z⟩
    obtain ⟨a, ha, rfl⟩ := List.mem_map.mp hkv
    exact h (Sum.inl.inj (of_decide_eq_true z) ▸ ha)
  rw [if_neg e, List.map_append]
  congr 1
  · apply List.map_congr_left
    intro a ha
    have q : a ≠ n := fun z => h (z ▸ ha)
    show (Sum.inl a, val a) = (Sum.inl a, if a = n then v else val a)
    rw [if_neg q]
  · simp
theorem dk_keys (ws : List Int) (val : Int → V) : (dk ws val).map (·.1) = ws.map Sum.inl := by
  unfold dk
  rw [List.map_map]
  rfl
theorem dk_len (ws : List Int) (val : Int → V) : (dk ws val).length = ws.length := by
  unfold dk
  rw [List.length_map]
theorem dk_congr {ws : List Int} {f g : Int → V} (h : ∀ n ∈ ws, f n = g n) : dk ws f = dk ws g := List.map_congr_left fun a ha => by rw [h a ha]
theorem dpAll_map {K : PySem.W.Frag} {H : Hp} {L : List PyData} {val : Int → V} : ∀ {ns : List Int}, (∀ n ∈ ns, Dp K H (val n) (nth L n)) → DpAll K H (ns.map val) (ns.map (nth L))
  | [], _ => .nil
  | n :: ns, h => .cons (h n List.mem_cons_self) (dpAll_map fun k hk => h k (List.mem_cons_of_mem _ hk))
/-! ### sorted -/
theorem lt_tell {n c : Int} {w : Str} {k n' c' : Int} {w' : Str} {k' : Int} (h : n ≠ n') : PySem.W.dataLt (tellD n c w k) (tellD n' c' w' k') = decide (n < n') := by
  unfold tellD
  rw [PySem.W.dataLt_tuple, PySem.W.dataLt_all_no (by simp [PySem.W.alike]) (by simp [PyData.eqv, h]), PySem.W.dataLt_int]
theorem lt_tell_self (d : PyData) : PySem.W.dataLt d d = false := (listOrd itemOrd).irrefl _
theorem sorted_ws {L : List PyData} (hL : TL L) {ws ys : List Int} {val : Int → V} (hn : ∀ n ∈ ws, 1 ≤ n ∧ n ≤ L.length) (hp : ys.Perm ws) (hs : ys.Pairwise (· ≤ ·)) :
    (ws.map fun n => (val n, nth L n)).mergeSort leD = ys.map fun n => (val n, nth L n) := by
  have e : (ws.mergeSort fun a b => decide (a ≤ b)).map (fun n => (val n, nth L n)) = (ws.map fun n => (val n, nth L n)).mergeSort leD := by
    refine List.map_mergeSort fun a ha b hb => ?_
    obtain ⟨c, w, k, ea, _⟩ := hL a (hn a ha).1 (hn a ha).2
    obtain ⟨c', w', k', eb, _⟩ := hL b (hn b hb).1 (hn b hb).2
    show decide (a ≤ b) = !PySem.W.dataLt (nth L b) (nth L a)
    by_cases q : a = b
    · subst q
      rw [lt_tell_self]
      simp
    · rw [ea, eb, lt_tell (Ne.symm q)]
      by_cases h1 : b < a
      · rw [decide_eq_true h1, decide_eq_false (by omega)]
        rfl
      · rw [decide_eq_false h1, decide_eq_true (by omega)]
        rfl
  have e2 : ws.mergeSort (fun a b => decide (a ≤ b)) = ys := by
    refine List.Perm.eq_of_pairwise (le := fun a b : Int => a ≤ b) (fun a b _ _ h1 h2 => by omega) ?_ hs ((List.mergeSort_perm _ _).trans hp.symm)
    have q := List.pairwise_mergeSort (le := fun a b : Int => decide (a ≤ b)) (fun a b c h1 h2 => by simp at *; omega) (fun a b => by simp; omega) ws
    exact q.imp fun h => by simpa using h
  rw [← e, e2]
theorem alike_tells {ds : List PyData} (h : Tells ds) : PySem.W.AllAlike ds := fun d hd d' hd' => by
  obtain ⟨n, c, w, k, rfl, _⟩ := h d hd
  obtain ⟨n', c', w', k', rfl, _⟩ := h d' hd'
  simp [tellD, PySem.W.alike, PySem.W.alikeAll]
theorem sortable_tells {ds : List PyData} (h : Tells ds) : PySem.W.Sortable ds := .inl fun d hd => by
  obtain ⟨n, c, w, k, rfl, _⟩ := h d hd
  exact ⟨_, _, rfl⟩
/-! ### the first of the waiting that is looked for -/
theorem place_ws {L : List PyData} (hL : TL L) {n : Int} : ∀ {ws : List Int}, (∀ k ∈ ws, 1 ≤ k ∧ k ≤ L.length) → n ∈ ws → ∃ j, SeqAt.dataPlace (ws.map (nth L)) (nth L n) = some j ∧ ws.eraseIdx j = ws.erase n
  | [], _, h => by cases h
  | a :: r, hn, h => by
    have hnn := hn n h
    obtain ⟨c, w, k, en, _⟩ := hL n hnn.1 hnn.2
    obtain ⟨c', w', k', ea, _⟩ := hL a (hn a List.mem_cons_self).1 (hn a List.mem_cons_self).2
    unfold SeqAt.dataPlace
    rw [List.map_cons, List.findIdx?_cons]
    by_cases q : a = n
    · subst q
      have z : PyData.eqv (nth L a) (nth L a) = true := by rw [ea, eqv_tell]; simp
      rw [if_pos z]
      exact ⟨0, rfl, by simp⟩
    · have z : PyData.eqv (nth L a) (nth L n) = false := by
        rw [ea, en, eqv_tell]
        exact decide_eq_false fun z => q z.1
      obtain ⟨j, h1, h2⟩ := place_ws (n := n) hL (fun k hk => hn k (List.mem_cons_of_mem _ hk)) (by rcases List.mem_cons.mp h with e | e; exact absurd e.symm q; exact e)
      unfold SeqAt.dataPlace at h1
      rw [z, h1]
      refine ⟨j + 1, rfl, ?_⟩
      rw [List.eraseIdx_cons_succ, h2, List.erase_cons_tail (by simpa using q)]
theorem filter_one {n : Int} : ∀ {ns : List Int}, ns.Nodup → n ∈ ns → (ns.filter fun k => decide (k = n)) = [n]
  | [], _, h => by cases h
  | a :: r, hd, h => by
    rw [List.nodup_cons] at hd
    by_cases q : a = n
    · subst q
      rw [List.filter_cons_of_pos (by simp)]
      congr 1
      rw [List.filter_eq_nil_iff]
      intro b hb
      simp only [decide_eq_true_eq]
      intro e
      exact hd.1 (e ▸ hb)
    · rw [List.filter_cons_of_neg (by simpa using q)]
      exact filter_one hd.2 (by rcases List.mem_cons.mp h with e | e; exact absurd e.symm q; exact e)
theorem filter_none {n : Int} {ns : List Int} (h : ¬ n ∈ ns) : (ns.filter fun k => decide (k = n)) = [] := by
  rw [List.filter_eq_nil_iff]
  intro b hb
  simp only [decide_eq_true_eq]
  intro e
  exact h (e ▸ hb)
end K88
namespace K88
open PySem PySem.Spec PyProof.Rows L2
def top (i : Nat) : Stmt := PySem.Challenge.pw_plainscan_k88_whole_receivers.main.body.getD i (.Pass ⟨0, 0, 0, 0⟩)
abbrev s_is_whole : Stmt := top 6
abbrev N_is_whole : List Str := ["value"]
theorem sc_is_whole : FnScope N_is_whole ["value"] (defScope s_is_whole) := ⟨rfl, rfl, rfl, by decide +kernel, rfl, by decide +kernel, by decide +kernel⟩
abbrev s_is_number : Stmt := top 7
abbrev N_is_number : List Str := ["value", "low", "high"]
theorem sc_is_number : FnScope N_is_number ["value", "low", "high"] (defScope s_is_number) := ⟨rfl, rfl, rfl, by decide +kernel, rfl, by decide +kernel, by decide +kernel⟩
abbrev s_is_key : Stmt := top 8
abbrev N_is_key : List Str := ["value"]
theorem sc_is_key : FnScope N_is_key ["value"] (defScope s_is_key) := ⟨rfl, rfl, rfl, by decide +kernel, rfl, by decide +kernel, by decide +kernel⟩
abbrev s_is_tuple_of : Stmt := top 9
abbrev N_is_tuple_of : List Str := ["value", "many"]
theorem sc_is_tuple_of : FnScope N_is_tuple_of ["value", "many"] (defScope s_is_tuple_of) := ⟨rfl, rfl, rfl, by decide +kernel, rfl, by decide +kernel, by decide +kernel⟩
abbrev s_is_note : Stmt := top 12
abbrev N_is_note : List Str := ["value"]
theorem sc_is_note : FnScope N_is_note ["value"] (defScope s_is_note) := ⟨rfl, rfl, rfl, by decide +kernel, rfl, by decide +kernel, by decide +kernel⟩
abbrev s_is_tell : Stmt := top 13
abbrev N_is_tell : List Str := ["value"]
theorem sc_is_tell : FnScope N_is_tell ["value"] (defScope s_is_tell) := ⟨rfl, rfl, rfl, by decide +kernel, rfl, by decide +kernel, by decide +kernel⟩
abbrev s_Receiver___init__ : Stmt := inClass (top 14) 0
abbrev N_Receiver___init__ : List Str := ["self"]
theorem sc_Receiver___init__ : FnScope N_Receiver___init__ ["self"] (defScope s_Receiver___init__) := ⟨rfl, rfl, rfl, by decide +kernel, rfl, by decide +kernel, by decide +kernel⟩
abbrev s_Receiver_told : Stmt := inClass (top 14) 1
abbrev N_Receiver_told : List Str := ["self"]
theorem sc_Receiver_told : FnScope N_Receiver_told ["self"] (defScope s_Receiver_told) := ⟨rfl, rfl, rfl, by decide +kernel, rfl, by decide +kernel, by decide +kernel⟩
abbrev s_Receiver_waiting : Stmt := inClass (top 14) 2
abbrev N_Receiver_waiting : List Str := ["self", "number"]
theorem sc_Receiver_waiting : FnScope N_Receiver_waiting ["self"] (defScope s_Receiver_waiting) := ⟨rfl, rfl, rfl, by decide +kernel, rfl, by decide +kernel, by decide +kernel⟩
abbrev s_Receiver_take : Stmt := inClass (top 14) 3
abbrev N_Receiver_take : List Str := ["self", "tell", "number", "known", "now"]
theorem sc_Receiver_take : FnScope N_Receiver_take ["self", "tell"] (defScope s_Receiver_take) := ⟨rfl, rfl, rfl, by decide +kernel, rfl, by decide +kernel, by decide +kernel⟩
abbrev s_law_well : Stmt := top 16
abbrev N_law_well : List Str := ["script", "lap", "stirred", "cell", "own"]
theorem sc_law_well : FnScope N_law_well ["script", "lap"] (defScope s_law_well) := ⟨rfl, rfl, rfl, by decide +kernel, rfl, by decide +kernel, by decide +kernel⟩
abbrev s_law_draw : Stmt := top 17
abbrev N_law_draw : List Str := ["well", "limit", "digit", "stir"]
theorem sc_law_draw : FnScope N_law_draw ["well", "limit"] (defScope s_law_draw) := ⟨rfl, rfl, rfl, by decide +kernel, rfl, by decide +kernel, by decide +kernel⟩
abbrev s_law_of : Stmt := top 18
abbrev N_law_of : List Str := ["well", "some"]
theorem sc_law_of : FnScope N_law_of ["well", "some"] (defScope s_law_of) := ⟨rfl, rfl, rfl, by decide +kernel, rfl, by decide +kernel, by decide +kernel⟩
abbrev s_law_same : Stmt := top 19
abbrev N_law_same : List Str := ["one", "two", "k"]
theorem sc_law_same : FnScope N_law_same ["one", "two"] (defScope s_law_same) := ⟨rfl, rfl, rfl, by decide +kernel, rfl, by decide +kernel, by decide +kernel⟩
abbrev s_law_list : Stmt := top 20
abbrev N_law_list : List Str := ["well", "many", "found", "count", "lap", "note"]
theorem sc_law_list : FnScope N_law_list ["well", "many"] (defScope s_law_list) := ⟨rfl, rfl, rfl, by decide +kernel, rfl, by decide +kernel, by decide +kernel⟩
abbrev s_law_take : Stmt := top 21
abbrev N_law_take : List Str := ["receiver", "tell", "is_named", "e"]
theorem sc_law_take : FnScope N_law_take ["receiver", "tell", "is_named"] (defScope s_law_take) := ⟨rfl, rfl, rfl, by decide +kernel, rfl, by decide +kernel, by decide +kernel⟩
abbrev s_law_due : Stmt := top 22
abbrev N_law_due : List Str := ["model", "tell", "told", "waiting", "known", "now", "lap", "some", "each"]
theorem sc_law_due : FnScope N_law_due ["model", "tell"] (defScope s_law_due) := ⟨rfl, rfl, rfl, by decide +kernel, rfl, by decide +kernel, by decide +kernel⟩
abbrev s_law_is_so : Stmt := top 23
abbrev N_law_is_so : List Str := ["receiver", "model"]
theorem sc_law_is_so : FnScope N_law_is_so ["receiver", "model"] (defScope s_law_is_so) := ⟨rfl, rfl, rfl, by decide +kernel, rfl, by decide +kernel, by decide +kernel⟩
abbrev s_law_heard : Stmt := top 24
abbrev N_law_heard : List Str := ["heard", "due"]
theorem sc_law_heard : FnScope N_law_heard ["heard", "due"] (defScope s_law_heard) := ⟨rfl, rfl, rfl, by decide +kernel, rfl, by decide +kernel, by decide +kernel⟩
abbrev s_law_right : Stmt := top 25
abbrev N_law_right : List Str := ["well", "many", "lists", "models", "receivers", "lap", "to", "tell", "other", "heard", "each"]
theorem sc_law_right : FnScope N_law_right ["well"] (defScope s_law_right) := ⟨rfl, rfl, rfl, by decide +kernel, rfl, by decide +kernel, by decide +kernel⟩
abbrev s_law : Stmt := top 26
abbrev N_law : List Str := ["script", "lap"]
theorem sc_law : FnScope N_law ["script"] (defScope s_law) := ⟨rfl, rfl, rfl, by decide +kernel, rfl, by decide +kernel, by decide +kernel⟩
/-- what the program's top has written -/
structure Txt (P : Program) (K : PySem.W.Frag) (mg : Str → Option Value) where
  f_is_whole : Addr
  d_is_whole : FuncData
  F_is_whole : Fun K "is_whole" "is_whole" s_is_whole f_is_whole d_is_whole
  b_is_whole : Binds K d_is_whole ["value"] []
  g_is_whole : mg "is_whole" = some (.ref f_is_whole)
  f_is_number : Addr
  d_is_number : FuncData
  F_is_number : Fun K "is_number" "is_number" s_is_number f_is_number d_is_number
  b_is_number : Binds K d_is_number ["value", "low", "high"] []
  g_is_number : mg "is_number" = some (.ref f_is_number)
  f_is_key : Addr
  d_is_key : FuncData
  F_is_key : Fun K "is_key" "is_key" s_is_key f_is_key d_is_key
  b_is_key : Binds K d_is_key ["value"] []
  g_is_key : mg "is_key" = some (.ref f_is_key)
  f_is_tuple_of : Addr
  d_is_tuple_of : FuncData
  F_is_tuple_of : Fun K "is_tuple_of" "is_tuple_of" s_is_tuple_of f_is_tuple_of d_is_tuple_of
  b_is_tuple_of : Binds K d_is_tuple_of ["value", "many"] []
  g_is_tuple_of : mg "is_tuple_of" = some (.ref f_is_tuple_of)
  f_is_note : Addr
  d_is_note : FuncData
  F_is_note : Fun K "is_note" "is_note" s_is_note f_is_note d_is_note
  b_is_note : Binds K d_is_note ["value"] []
  g_is_note : mg "is_note" = some (.ref f_is_note)
  f_is_tell : Addr
  d_is_tell : FuncData
  F_is_tell : Fun K "is_tell" "is_tell" s_is_tell f_is_tell d_is_tell
  b_is_tell : Binds K d_is_tell ["value"] []
  g_is_tell : mg "is_tell" = some (.ref f_is_tell)
  f_Receiver___init__ : Addr
  d_Receiver___init__ : FuncData
  F_Receiver___init__ : Fun K "__init__" "Receiver.__init__" s_Receiver___init__ f_Receiver___init__ d_Receiver___init__
  b_Receiver___init__ : Binds K d_Receiver___init__ ["self"] []
  f_Receiver_told : Addr
  d_Receiver_told : FuncData
  F_Receiver_told : Fun K "told" "Receiver.told" s_Receiver_told f_Receiver_told d_Receiver_told
  b_Receiver_told : Binds K d_Receiver_told ["self"] []
  f_Receiver_waiting : Addr
  d_Receiver_waiting : FuncData
  F_Receiver_waiting : Fun K "waiting" "Receiver.waiting" s_Receiver_waiting f_Receiver_waiting d_Receiver_waiting
  b_Receiver_waiting : Binds K d_Receiver_waiting ["self"] []
  f_Receiver_take : Addr
  d_Receiver_take : FuncData
  F_Receiver_take : Fun K "take" "Receiver.take" s_Receiver_take f_Receiver_take d_Receiver_take
  b_Receiver_take : Binds K d_Receiver_take ["self", "tell"] []
  kb_Receiver_take_tell : KBinds K d_Receiver_take ["self", "tell"] ["tell"] (fun us ws => kbG 1 1 us ws) (fun us ws => kbG 1 1 us ws)
  f_law_well : Addr
  d_law_well : FuncData
  F_law_well : Fun K "_law_well" "_law_well" s_law_well f_law_well d_law_well
  b_law_well : Binds K d_law_well ["script", "lap"] []
  g__law_well : mg "_law_well" = some (.ref f_law_well)
  f_law_draw : Addr
  d_law_draw : FuncData
  F_law_draw : Fun K "_law_draw" "_law_draw" s_law_draw f_law_draw d_law_draw
  b_law_draw : Binds K d_law_draw ["well", "limit"] []
  g__law_draw : mg "_law_draw" = some (.ref f_law_draw)
  f_law_of : Addr
  d_law_of : FuncData
  F_law_of : Fun K "_law_of" "_law_of" s_law_of f_law_of d_law_of
  b_law_of : Binds K d_law_of ["well", "some"] []
  g__law_of : mg "_law_of" = some (.ref f_law_of)
  f_law_same : Addr
  d_law_same : FuncData
  F_law_same : Fun K "_law_same" "_law_same" s_law_same f_law_same d_law_same
  b_law_same : Binds K d_law_same ["one", "two"] []
  g__law_same : mg "_law_same" = some (.ref f_law_same)
  f_law_list : Addr
  d_law_list : FuncData
  F_law_list : Fun K "_law_list" "_law_list" s_law_list f_law_list d_law_list
  b_law_list : Binds K d_law_list ["well", "many"] []
  g__law_list : mg "_law_list" = some (.ref f_law_list)
  f_law_take : Addr
  d_law_take : FuncData
  F_law_take : Fun K "_law_take" "_law_take" s_law_take f_law_take d_law_take
  b_law_take : Binds K d_law_take ["receiver", "tell", "is_named"] []
  g__law_take : mg "_law_take" = some (.ref f_law_take)
  f_law_due : Addr
  d_law_due : FuncData
  F_law_due : Fun K "_law_due" "_law_due" s_law_due f_law_due d_law_due
  b_law_due : Binds K d_law_due ["model", "tell"] []
  g__law_due : mg "_law_due" = some (.ref f_law_due)
  f_law_is_so : Addr
  d_law_is_so : FuncData
  F_law_is_so : Fun K "_law_is_so" "_law_is_so" s_law_is_so f_law_is_so d_law_is_so
  b_law_is_so : Binds K d_law_is_so ["receiver", "model"] []
  g__law_is_so : mg "_law_is_so" = some (.ref f_law_is_so)
  f_law_heard : Addr
  d_law_heard : FuncData
  F_law_heard : Fun K "_law_heard" "_law_heard" s_law_heard f_law_heard d_law_heard
  b_law_heard : Binds K d_law_heard ["heard", "due"] []
  g__law_heard : mg "_law_heard" = some (.ref f_law_heard)
  f_law_right : Addr
  d_law_right : FuncData
  F_law_right : Fun K "_law_right" "_law_right" s_law_right f_law_right d_law_right
  b_law_right : Binds K d_law_right ["well"] []
  g__law_right : mg "_law_right" = some (.ref f_law_right)
  f_law : Addr
  d_law : FuncData
  F_law : Fun K "law" "law" s_law f_law d_law
  b_law : Binds K d_law ["script"] []
  g_law : mg "law" = some (.ref f_law)
  C_Receiver : Addr
  g_Receiver : mg "Receiver" = some (.ref C_Receiver)
  cl_Receiver : Cls K C_Receiver
  mk_Receiver : Mk K C_Receiver f_Receiver___init__
  na_Receiver_done : NoAttr K C_Receiver "done"
  na_Receiver_early : NoAttr K C_Receiver "early"
  pa_Receiver_told : Addr
  p_Receiver_told : PropOf K C_Receiver "told" pa_Receiver_told f_Receiver_told
  pa_Receiver_waiting : Addr
  p_Receiver_waiting : PropOf K C_Receiver "waiting" pa_Receiver_waiting f_Receiver_waiting
  me_Receiver_take : Meth K C_Receiver "take" f_Receiver_take
  C_Clash : Addr
  fi_Clash : Addr
  e_Clash : SupX.SupTxt P K mg "Clash" "Clash.__init__" "number" C_Clash fi_Clash
  x_Clash : PySem.W.exmOne K (.ref C_Clash) (.ref C_Clash) = some true
  t_MOST_KEY : Tok
  g_MOST_KEY : mg "MOST_KEY" = some (.int 999 t_MOST_KEY)
  a_WORDS : Addr
  g_WORDS : mg "WORDS" = some (.ref a_WORDS)
  q_WORDS : ∀ H, SqT K H a_WORDS [V.str "came", V.str "new", V.str "went"]
  z_abs : mg "abs" = none
  z_all : mg "all" = none
  z_bool : mg "bool" = none
  z_divmod : mg "divmod" = none
  z_int : mg "int" = none
  z_isinstance : mg "isinstance" = none
  z_len : mg "len" = none
  z_max : mg "max" = none
  z_range : mg "range" = none
  z_sorted : mg "sorted" = none
  z_str : mg "str" = none
  z_tuple : mg "tuple" = none
end K88
namespace K88
open PySem PySem.Spec PyProof.Rows L2
/-! ### values and their types -/
theorem sqT_ty {K : PySem.W.Frag} {H : Hp} {a : Addr} {xs : List V} (h : SqT K H a xs) : TyX K H (.ref a) (.type "tuple") := by
  rcases h with (h | ⟨o, h⟩) | ⟨o, its, n, h, c, _⟩
  · exact .base (.tup h)
  · exact .fTuple h
  · exact .kTuple h c
theorem kt {K : PySem.W.Frag} {a b : String} {r : Bool} (h : kitB a b = some r) : PySem.W.kitOne K (.type a) (.type b) = some r := kit_ty h
theorem iteB {c : Bool} {A B : Prop} (hc : c = true) (h : A) : if c = true then A else B := by rw [hc]; exact iteT h
theorem iteB' {c : Bool} {A B : Prop} (hc : c = false) (h : B) : if c = true then A else B := by rw [hc]; exact iteF h
theorem of_dec {Q : VK} {c : Bool} {H : Hp} (h : Q (.bl true) H) (hc : c = true) : Q (.bl c) H := by rw [hc]; exact h
theorem of_decF {Q : VK} {c : Bool} {H : Hp} (h : Q (.bl false) H) (hc : c = false) : Q (.bl c) H := by rw [hc]; exact h
/-! ### promises -/
def spWhole : Sp := fun vs H Q _ => ∃ i : Int, vs = [.int i] ∧ Q (.bl true) H
def spNumber : Sp := fun vs H Q _ => ∃ (i lo : Int) (x : V), vs = [.int i, .int lo, x] ∧ lo ≤ i ∧ (x = .non ∨ ∃ h : Int, x = .int h ∧ i ≤ h) ∧ Q (.bl true) H
def spKey : Sp := fun vs H Q _ => ∃ k : Int, vs = [.int k] ∧ 1 ≤ k ∧ k ≤ 999 ∧ Q (.bl true) H
def spTupleOf (K : PySem.W.Frag) : Sp := fun vs H Q _ => ∃ (p : Addr) (xs : List V) (n : Int), vs = [.ref p, .int n] ∧ SqT K H p xs ∧ (xs.length : Int) = n ∧ Q (.bl true) H
def spNote (K : PySem.W.Frag) : Sp := fun vs H Q _ => ∃ (p : Addr) (c : Int) (w : Str) (k : Int), vs = [.ref p] ∧ SqT K H p [.int c, .str w, .int k] ∧ 1 ≤ c ∧ Word w ∧ 1 ≤ k ∧ k ≤ 999 ∧ Q (.bl true) H
def spTell (K : PySem.W.Frag) : Sp := fun vs H Q _ => ∃ (p : Addr) (n c : Int) (w : Str) (k : Int), vs = [.ref p] ∧ SqT K H p [.int n, .int c, .str w, .int k] ∧ 1 ≤ n ∧ 1 ≤ c ∧ Word w ∧ 1 ≤ k ∧ k ≤ 999 ∧ ∀ H', Same H H' → Q (.bl true) H'
section
variable {P : Program} {w : World} {K : PySem.W.Frag} {mg : Str → Option Value} {base : Heap}
theorem ok_is_whole (T : Txt P K mg) : FnOk P w K mg base CX0 1 T.f_is_whole T.d_is_whole ["value"] spWhole := by
  refine T.F_is_whole.ok sc_is_whole (fun vs H Q E h => by obtain ⟨i, rfl, _⟩ := h; rfl) (fun cdv A outer s H vs Q E hr h => ⟨_, (pss_one (ps_ret (pe_and (pe_callB call_isi rfl T.z_isinstance (by decide +kernel) (pa_cons (pv 0) (pa_cons (pe_bltn (v := .ty "int") (u := .type "int") rfl T.z_int (by decide +kernel) rfl) pa_nil))) (pe_one (pe_not (pe_callB call_isi rfl T.z_isinstance (by decide +kernel) (pa_cons (pv 0) (pa_cons (pe_bltn (v := .ty "bool") (u := .type "bool") rfl T.z_bool (by decide +kernel) rfl) pa_nil)))))))), ?_⟩)
  obtain ⟨i, rfl, q⟩ := h
  refine ⟨_, rfl, _, _, _, _, true, rfl, .ty _, .base (.int i), kt (by decide +kernel), _, rfl, iteT ?_⟩
  exact ⟨_, rfl, _, _, _, _, false, rfl, .ty _, .base (.int i), kt (by decide +kernel), _, rfl, q⟩
theorem ok_is_number (T : Txt P K mg) : FnOk P w K mg base CX0 2 T.f_is_number T.d_is_number ["value", "low", "high"] spNumber := by
  refine T.F_is_number.ok sc_is_number (fun vs H Q E h => by obtain ⟨i, lo, x, rfl, _⟩ := h; rfl) (fun cdv A outer s H vs Q E hr h => ⟨_, (pss_cons (ps_if (PW.pt (pw_or (pt_not (pt_val (pe_call (ok_is_whole T) (hr.mono (by decide)) rfl T.g_is_whole T.F_is_whole.kp T.b_is_whole .nil pass0 (pa_cons (pv 0) pa_nil)))) (pw_or1 (PW.pt (pw_and (pt_cmpR op_notN (pv 1) pe_non (nomark _)) (pw_and1 (pt_cmpR op_lt (pv 0) (pv 1) (nomark _))))))))
      (pss_one (ps_ret pe_bl)) pss_nil)
      (pss_one (ps_ret (pe_or (pe_cmpR op_isN (pv 2) pe_non (nomark _)) (pe_one (pe_cmpR op_le (pv 0) (pv 2) (nomark _))))))), ?_⟩)
  obtain ⟨i, lo, x, rfl, h1, h2, q⟩ := h
  refine ⟨_, rfl, i, rfl, ?_⟩
  refine ⟨_, rfl, iteF ?_⟩
  refine ⟨_, rfl, rfl, _, rfl, iteB (by simp) ?_⟩
  refine ⟨_, rfl, _, rfl, _, _, rfl, rfl, _, rfl, iteB' (by simp; omega) ?_⟩
  refine ⟨_, rfl, rfl, _, rfl, ?_⟩
  rcases h2 with rfl | ⟨h, rfl, h2⟩
  · exact iteB (by simp) (of_dec q (by simp))
  · refine iteB' (by simp) ⟨_, rfl, _, rfl, _, _, rfl, rfl, of_dec q (by simp; omega)⟩
theorem ok_is_key (T : Txt P K mg) : FnOk P w K mg base CX0 3 T.f_is_key T.d_is_key ["value"] spKey := by
  refine T.F_is_key.ok sc_is_key (fun vs H Q E h => by obtain ⟨i, rfl, _⟩ := h; rfl) (fun cdv A outer s H vs Q E hr h => ⟨_, (pss_one (ps_ret (pe_call (ok_is_number T) (hr.mono (by decide)) rfl T.g_is_number T.F_is_number.kp T.b_is_number .nil pass0 (pa_cons (pv 0) (pa_cons pe_int (pa_cons (pe_glob (v := .int (999)) rfl T.g_MOST_KEY ⟨_, rfl⟩) pa_nil)))))), ?_⟩)
  obtain ⟨k, rfl, h1, h2, q⟩ := h
  exact ⟨_, rfl, k, 1, _, rfl, h1, .inr ⟨_, rfl, h2⟩, q⟩
theorem ok_is_tuple_of (T : Txt P K mg) : FnOk P w K mg base CX0 1 T.f_is_tuple_of T.d_is_tuple_of ["value", "many"] (spTupleOf K) := by
  refine T.F_is_tuple_of.ok sc_is_tuple_of (fun vs H Q E h => by obtain ⟨i, lo, x, rfl, _⟩ := h; rfl) (fun cdv A outer s H vs Q E hr h => ⟨_, (pss_one (ps_ret (pe_and (pe_callB call_isi rfl T.z_isinstance (by decide +kernel) (pa_cons (pv 0) (pa_cons (pe_bltn (v := .ty "tuple") (u := .type "tuple") rfl T.z_tuple (by decide +kernel) rfl) pa_nil))) (pe_one (pe_cmpR op_eq (pe_callB call_len_seq rfl T.z_len (by decide +kernel) (pa_cons (pv 0) pa_nil)) (pv 1) (nomark _)))))), ?_⟩)
  obtain ⟨p, xs, n, rfl, h1, h2, q⟩ := h
  refine ⟨_, rfl, _, _, _, _, true, rfl, .ty _, sqT_ty h1, kt (by decide +kernel), _, rfl, iteT ?_⟩
  exact ⟨_, rfl, p, xs, rfl, .inr h1, _, rfl, rfl, of_dec q (by rw [h2]; simp)⟩
theorem ok_is_note (T : Txt P K mg) : FnOk P w K mg base CX0 4 T.f_is_note T.d_is_note ["value"] (spNote K) := by
  refine T.F_is_note.ok sc_is_note (fun vs H Q E h => by obtain ⟨p, c, w, k, rfl, _⟩ := h; rfl) (fun cdv A outer s H vs Q E hr h => ⟨_, (pss_cons (ps_if (PW.pt (pw_or (pt_not (pt_val (pe_call (ok_is_tuple_of T) (hr.mono (by decide)) rfl T.g_is_tuple_of T.F_is_tuple_of.kp T.b_is_tuple_of .nil pass0 (pa_cons (pv 0) (pa_cons pe_int pa_nil))))) (pw_or1 (pt_not (pt_val (pe_call (ok_is_number T) (hr.mono (by decide)) rfl T.g_is_number T.F_is_number.kp T.b_is_number .nil pass0 (pa_cons (pe_ix ix_tup (pv 0) pe_int (fun _ _ => rfl)) (pa_cons pe_int (pa_cons pe_non pa_nil)))))))))
      (pss_one (ps_ret pe_bl)) pss_nil)
      (pss_one (ps_ret (pe_and (pe_callB call_isi rfl T.z_isinstance (by decide +kernel) (pa_cons (pe_ix ix_tup (pv 0) pe_int (fun _ _ => rfl)) (pa_cons (pe_bltn (v := .ty "str") (u := .type "str") rfl T.z_str (by decide +kernel) rfl) pa_nil))) (pe_and (pe_cmpR op_in_seq (pe_ix ix_tup (pv 0) pe_int (fun _ _ => rfl)) (pe_glob (v := .ref T.a_WORDS) rfl T.g_WORDS rfl) (by rfl)) (pe_one (pe_call (ok_is_key T) (hr.mono (by decide)) rfl T.g_is_key T.F_is_key.kp T.b_is_key .nil pass0 (pa_cons (pe_ix ix_tup (pv 0) pe_int (fun _ _ => rfl)) pa_nil)))))))), ?_⟩)
  obtain ⟨p, c, w, k, rfl, h1, h2, h3, h4, h5, q⟩ := h
  refine ⟨_, rfl, p, _, _, rfl, h1, rfl, ?_⟩
  refine ⟨_, rfl, iteF ?_⟩
  refine ⟨_, rfl, p, _, _, _, rfl, rfl, h1, rfl, ?_⟩
  refine ⟨_, _, _, rfl, h2, .inl rfl, ?_⟩
  refine ⟨_, rfl, ?_⟩
  refine ⟨_, rfl, p, _, _, _, rfl, rfl, h1, rfl, ?_⟩
  refine ⟨_, _, _, _, true, rfl, .ty _, .base (.str w), kt (by decide +kernel), _, rfl, iteT ?_⟩
  refine ⟨_, rfl, p, _, _, _, rfl, rfl, h1, rfl, T.a_WORDS, _, rfl, .inr (T.q_WORDS _), rfl, rfl, _, rfl, iteB ?_ ?_⟩
  · rcases h3 with rfl | rfl | rfl <;> decide +kernel
  · exact ⟨_, rfl, p, _, _, _, rfl, rfl, h1, rfl, k, rfl, h4, h5, q⟩
theorem ok_is_tell (T : Txt P K mg) : FnOk P w K mg base CX0 5 T.f_is_tell T.d_is_tell ["value"] (spTell K) := by
  refine T.F_is_tell.ok sc_is_tell (fun vs H Q E h => by obtain ⟨p, n, c, w, k, rfl, _⟩ := h; rfl) (fun cdv A outer s H vs Q E hr h => ⟨_, (pss_one (ps_ret (pe_and (pe_call (ok_is_tuple_of T) (hr.mono (by decide)) rfl T.g_is_tuple_of T.F_is_tuple_of.kp T.b_is_tuple_of .nil pass0 (pa_cons (pv 0) (pa_cons pe_int pa_nil))) (pe_and (pe_call (ok_is_number T) (hr.mono (by decide)) rfl T.g_is_number T.F_is_number.kp T.b_is_number .nil pass0 (pa_cons (pe_ix ix_tup (pv 0) pe_int (fun _ _ => rfl)) (pa_cons pe_int (pa_cons pe_non pa_nil)))) (pe_one (pe_call (ok_is_note T) (hr.mono (by decide)) rfl T.g_is_note T.F_is_note.kp T.b_is_note .nil pass0 (pa_cons (pe_slice sl_tup (pv 0) (po_some pe_int) po_none) pa_nil))))))), ?_⟩)
  obtain ⟨p, n, c, w, k, rfl, h1, h2, h3, h4, h5, h6, q⟩ := h
  refine ⟨_, rfl, p, _, _, rfl, h1, rfl, _, rfl, iteT ?_⟩
  refine ⟨_, rfl, p, _, _, _, rfl, rfl, h1, rfl, _, _, _, rfl, h2, .inl rfl, _, rfl, iteT ?_⟩
  refine ⟨_, rfl, _, rfl, p, _, rfl, h1, (by show ¬ (HT.sIx 4 0 (some 1) = 0 ∧ HT.sIx 4 4 none = 4); decide), fun t ht => ?_⟩
  exact ⟨t, c, w, k, rfl, .of upd_same, h3, h4, h5, h6, q _ (Same.new ht)⟩
/-! ### a receiver -/
def RF (d e : V) : List (Str × V) := [("done", d), ("early", e)]
theorem nde : ¬ (("done" : Str) = "early") := by decide +kernel
theorem ned : ¬ (("early" : Str) = "done") := by decide +kernel
theorem rf_put (d e : V) : putF "early" e (putF "done" d []) = RF d e := by
  show (if ("done" : Str) = "early" then [(("done" : Str), e)] else (("done" : Str), d) :: putF "early" e []) = RF d e
  rw [if_neg nde]
  all_goals rfl
theorem rf_done (d e d' : V) : putF "done" d' (RF d e) = RF d' e := by
  show (if ("done" : Str) = "done" then (("done" : Str), d') :: [(("early" : Str), e)] else _) = RF d' e
  rw [if_pos rfl]
  all_goals rfl
theorem rf_look_d (d e : V) : (RF d e).lookup ("done" : Str) = some d := by simp [RF, List.lookup]
theorem rf_look_e (d e : V) : (RF d e).lookup ("early" : Str) = some e := by
  have q : (("early" : Str) == "done") = false := by decide +kernel
  simp [RF, List.lookup, q]
theorem rf_no (d e : V) {m : Str} (h1 : (m == ("done" : Str)) = false) (h2 : (m == ("early" : Str)) = false) : (RF d e).lookup m = none := by
  simp [RF, List.lookup, h1, h2]
/-- the receiver at r (its dict at ed) has told m of L and holds ws -/
def RecOk (K : PySem.W.Frag) (C : Addr) (H : Hp) (r dx ed : Addr) (L : List PyData) (m : Nat) (ws : List Int) : Prop :=
  ∃ (dn : Addr) (val : Int → V), H r = some (.ins C dx (RF (.ref dn) (.ref ed))) ∧ SqT K H dn ((nums m).map val) ∧ H ed = some (.dK (dk ws val)) ∧ ∀ n, n ∈ nums m ∨ n ∈ ws → Dp K H (val n) (nth L n)
def spInit (K : PySem.W.Frag) (C : Addr) : Sp := fun vs H Q _ => ∃ (r dx : Addr), vs = [.ref r] ∧ H r = some (.ins C dx []) ∧ ∀ H' ed, But (· = r) H H' → H ed = none → ed ≠ r → (∀ L, RecOk K C H' r dx ed L 0 []) → Q .non H'
def spTold (K : PySem.W.Frag) (C : Addr) : Sp := fun vs H Q _ => ∃ (r dx ed : Addr) (L : List PyData) (m : Nat) (ws : List Int), vs = [.ref r] ∧ RecOk K C H r dx ed L m ws ∧ ∀ p us, SqT K H p us → DpAll K H us ((nums m).map (nth L)) → Q (.ref p) H
def spWaiting (K : PySem.W.Frag) (C : Addr) : Sp := fun vs H Q _ => ∃ (r dx ed : Addr) (L : List PyData) (m : Nat) (ws : List Int), vs = [.ref r] ∧ RecOk K C H r dx ed L m ws ∧ TL L ∧ (∀ n ∈ ws, 1 ≤ n ∧ n ≤ L.length) ∧ ws.length < sizeLine ∧
  ∀ H' p us ys, Same H H' → List.Perm ys ws → ys.Pairwise (· ≤ ·) → SqT K H' p us → DpAll K H' us (ys.map (nth L)) → Q (.ref p) H'
theorem RecOk.keep {K : PySem.W.Frag} {C : Addr} {H H' : Hp} {r dx ed : Addr} {L : List PyData} {m : Nat} {ws : List Int} (hL : TL L) (hn : ∀ n, n ∈ nums m ∨ n ∈ ws → 1 ≤ n ∧ n ≤ L.length) (h : RecOk K C H r dx ed L m ws) (k : TupK H H') (kr : H' r = H r) (ke : H' ed = H ed) : RecOk K C H' r dx ed L m ws := by
  obtain ⟨dn, val, h1, h2, h3, h4⟩ := h
  refine ⟨dn, val, kr.trans h1, k.sqT h2, ke.trans h3, fun n hn' => Dp.keep k _ _ ?_ (h4 n hn')⟩
  obtain ⟨c, w, k', e, _⟩ := hL n (hn n hn').1 (hn n hn').2
  rw [e]
  exact tell_imm _ _ _ _
theorem ok_Receiver___init__ (T : Txt P K mg) : FnOk P w K mg base CX0 1 T.f_Receiver___init__ T.d_Receiver___init__ ["self"] (spInit K T.C_Receiver) := by
  refine T.F_Receiver___init__.ok sc_Receiver___init__ (fun vs H Q E h => by obtain ⟨r, dx, rfl, _⟩ := h; rfl) (fun cdv A outer s H vs Q E hr h => ⟨_, (pss_cons (ps_fld (pv 0) (pe_tup pa_nil) rfl)
      (pss_one (ps_fld (pv 0) pe_dnewK rfl))), ?_⟩)
  obtain ⟨r, dx, rfl, h1, q⟩ := h
  refine ⟨Nat.zero_le _, fun dn hdn => ?_⟩
  have n1 : r ≠ dn := ne_of_none h1 hdn
  refine ⟨_, rfl, r, T.C_Receiver, dx, [], rfl, (by rw [upd_ne n1]; exact h1), T.cl_Receiver, T.na_Receiver_done, (by show 0 < 1000; decide), ?_⟩
  intro ed hed
  have n2 : ed ≠ r := fun e => by rw [e, upd_same] at hed; cases hed
  have hed1 : upd H dn (.tup []) ed = none := by rw [upd_ne n2] at hed; exact hed
  have n3 : dn ≠ ed := fun e => by rw [← e, upd_same] at hed1; cases hed1
  have hed2 : H ed = none := by rw [upd_ne (Ne.symm n3)] at hed1; exact hed1
  refine ⟨_, rfl, r, T.C_Receiver, dx, _, rfl, (by rw [upd_ne n2.symm]; exact upd_same), T.cl_Receiver, T.na_Receiver_early, (by show 1 < 1000; decide), ?_⟩
  refine q _ ed ?_ hed2 n2 fun L => ⟨dn, fun _ => .non, ?_, ?_, ?_, fun n hn => ?_⟩
  · exact ((((Same.new hdn).but (S := (· = r))).put rfl).new hed).put rfl
  · rw [upd_same, rf_put]
  · refine .of ?_
    rw [upd_ne n1.symm, upd_ne n3, upd_ne n1.symm, upd_same]
    rfl
  · rw [upd_ne n2, upd_same]
    rfl
  · rcases hn with hn | hn
    · have := mem_nums.mp hn; omega
    · cases hn
theorem ok_Receiver_told (T : Txt P K mg) : FnOk P w K mg base CX0 1 T.f_Receiver_told T.d_Receiver_told ["self"] (spTold K T.C_Receiver) := by
  refine T.F_Receiver_told.ok sc_Receiver_told (fun vs H Q E h => by obtain ⟨r, dx, ed, L, m, ws, rfl, _⟩ := h; rfl) (fun cdv A outer s H vs Q E hr h => ⟨_, (pss_one (ps_ret (pe_fld (pv 0) rfl))), ?_⟩)
  obtain ⟨r, dx, ed, L, m, ws, rfl, ⟨dn, val, h1, h2, h3, h4⟩, q⟩ := h
  exact ⟨_, rfl, r, T.C_Receiver, dx, _, _, rfl, h1, T.cl_Receiver, T.na_Receiver_done, rf_look_d _ _, q dn _ h2 (dpAll_map fun n hn => h4 n (.inl hn))⟩
theorem ok_Receiver_waiting (T : Txt P K mg) : FnOk P w K mg base CX0 1 T.f_Receiver_waiting T.d_Receiver_waiting ["self"] (spWaiting K T.C_Receiver) := by
  refine T.F_Receiver_waiting.ok sc_Receiver_waiting (fun vs H Q E h => by obtain ⟨r, dx, ed, L, m, ws, rfl, _⟩ := h; rfl) (fun cdv A outer s H vs Q E hr h => ⟨_, (pss_one (ps_ret (pe_callTy call_tuple_of rfl T.z_tuple (by decide +kernel) (pa_cons (pe_lc (own := [("number", 1)]) (te := tDGet (tFld K (tVar 0) "early") (tVar 1)) rfl sc_Receiver_waiting.nd (pi_list (pe_callB (call_sortDk rfl) rfl T.z_sorted (by decide +kernel) (pa_cons (pe_fld (pv 0) rfl) pa_nil))) (blkOk_by (own := [("number", 1)]) (N := N_Receiver_waiting) (sc := defScope s_Receiver_waiting) (by decide +kernel)) (fun _ _ _ _ _ => (pg_name (i := 1) sc_Receiver_waiting.nd rfl (by first | exact Or.inl rfl | exact Or.inr rfl))) (fun _ _ _ _ _ => (by exact pts_nil)) (fun _ _ _ _ _ => (by exact (pe_dget (by exact hu_of hr) (pe_fld (pv 0) rfl) (pv 1) (fun _ _ => rfl))))) pa_nil)))), ?_⟩)
  have hu := hu_of hr
  obtain ⟨r, dx, ed, L, m, ws, rfl, ⟨dn, val, h1, h2, h3, h4⟩, hL, hw, hz, q⟩ := h
  refine ⟨_, rfl, r, T.C_Receiver, dx, _, _, rfl, h1, T.cl_Receiver, T.na_Receiver_early, rf_look_e _ _, ?_⟩
  refine ⟨ed, _, ws, rfl, .of h3, dk_keys _ _, fun ys sp hys hss hsp => ?_⟩
  refine ⟨sp, rfl, ⟨_, .of upd_same⟩, fun D hD => ?_⟩
  have n1 : sp ≠ D := fun e => by rw [← e, upd_same] at hD; cases hD
  have hD0 : H D = none := by rw [upd_ne n1.symm] at hD; exact hD
  have s0 : Same H (upd (upd H sp (.lst (ys.map V.int))) D (.lst [])) := (Same.new hsp).step hD
  have hyl : (ys.map V.int).length = ys.length := List.length_map _
  refine lc_list (K := K) (a := sp) (xs := ys.map V.int) (fun i H' => H' D = some (.lst ((ys.take i).map val)) ∧ H' sp = some (.lst (ys.map V.int)) ∧ Same H H') ⟨upd_same, by rw [upd_ne n1, upd_same], s0⟩ (fun i H' _ h => .of h.2.1) ?_ ?_
  · rintro i x H' hi ⟨e1, e2, e3⟩
    have hil : i < ys.length := by
      have z := (List.getElem?_eq_some_iff.mp hi).1
      rw [hyl] at z; exact z
    obtain ⟨n, hn, rfl⟩ : ∃ n, ys[i]? = some n ∧ x = V.int n := by
      rw [List.getElem?_map, List.getElem?_eq_getElem hil] at hi
      exact ⟨_, List.getElem?_eq_getElem hil, (Option.some.inj hi).symm⟩
    have hnw : n ∈ ws := hys.subset (List.mem_of_getElem? hn)
    refine ⟨rfl, _, rfl, r, T.C_Receiver, dx, _, _, rfl, e3 _ _ h1, T.cl_Receiver, T.na_Receiver_early, rf_look_e _ _, _, rfl, ed, val n, rfl, ?_, _, e1, ?_, ?_⟩
    · have z := DGet.k (k := Sum.inl n) (e3 _ _ h3)
      rw [valV_dk hnw] at z
      exact z
    · rw [List.length_map, List.length_take]
      have := hys.length_eq
      omega
    · refine ⟨?_, ?_, fun a o e => ?_⟩
      · rw [upd_same, List.take_add_one, hn]
        simp
      · rw [upd_ne n1]; exact e2
      · rw [upd_ne (fun z => by rw [z, hD0] at e; cases e)]
        exact e3 _ _ e
  · rintro H' ⟨e1, e2, e3⟩
    rw [hyl, List.take_length] at e1
    refine ⟨D, _, rfl, .inl ⟨.of e1, fun l hl => ?_⟩⟩
    refine q _ l _ ys (e3.step hl) hys hss (.of upd_same) (dpAll_map fun n hn => ?_)
    have hnw := hys.subset hn
    obtain ⟨c, w, k', e, _⟩ := hL n (hw n hnw).1 (hw n hnw).2
    refine Dp.keep (e3.step hl).tupK _ _ ?_ (h4 n (.inr hnw))
    rw [e]
    exact tell_imm _ _ _ _
end
end K88
namespace K88
open PySem PySem.Spec PyProof.Rows L2
/-- the tell d with number n comes to a receiver that has told m and holds ws: what comes back -/
def spTake (K : PySem.W.Frag) (C Ce : Addr) : Sp := fun vs H Q E => ∃ (r dx ed v : Addr) (L : List PyData) (m : Nat) (ws : List Int) (n c : Int) (w : Str) (k : Int), vs = [.ref r, .ref v] ∧ RecOk K C H r dx ed L m ws ∧ TL L ∧ L.length ≤ 100 ∧ St1 L m ws ∧
  SqT K H v [.int n, .int c, .str w, .int k] ∧ 1 ≤ n ∧ n ≤ L.length ∧ 1 ≤ c ∧ Word w ∧ 1 ≤ k ∧ k ≤ 999 ∧ (¬ Known m ws n → nth L n = tellD n c w k) ∧
  (nth L n = tellD n c w k → ∀ p us H', But (fun a => a = r ∨ a = ed) H H' → SqT K H' p us → DpAll K H' us (((nums (nxt m ws n).1).drop m).map (nth L)) → RecOk K C H' r dx ed L (nxt m ws n).1 (nxt m ws n).2 → Q (.ref p) H') ∧
  (nth L n ≠ tellD n c w k → ∀ d H', Same H H' → H' d = none → E (.ref Ce) (some d) (upd H' d (.xd [("number", V.int n)])))
/-- in the loop of take -/
def TkW (H1 : Hp) (K : PySem.W.Frag) (L : List PyData) (m : Nat) (v' : Int → V) (sl : L2.St) (nl ed : Addr) (fin : Nat × List Int) (j : Nat) (σ' : L2.St) (H' : Hp) : Prop := ∃ m' ws', j = ws'.length ∧ σ' = sl ∧ m ≤ m' ∧ St0 L m' ws' ∧ run ws'.length m' ws' = fin ∧
  H' ed = some (.dK (dk ws' v')) ∧ H' nl = some (.lst (((nums m').drop m).map v')) ∧ But (· = ed) H1 H' ∧ ∀ j, j ∈ nums m' ∨ j ∈ ws' → Dp K H1 (v' j) (nth L j)
section
variable {P : Program} {w : World} {K : PySem.W.Frag} {mg : Str → Option Value} {base : Heap}
theorem ok_Receiver_take (T : Txt P K mg) : FnOk P w K mg base (L2.CX P w) 6 T.f_Receiver_take T.d_Receiver_take ["self", "tell"] (spTake K T.C_Receiver T.C_Clash) := by
  refine T.F_Receiver_take.okX sc_Receiver_take (fun vs H Q E h => by obtain ⟨r, dx, ed, v, L, m, ws, n, c, w, k, rfl, _⟩ := h; rfl) (fun cdv A outer s H vs Q E hr h => ⟨_, (pss_cons (ps_if (pt_not (pt_val (pe_call (ok_is_tell T) (hr.mono (by decide)) rfl T.g_is_tell T.F_is_tell.kp T.b_is_tell .nil pass0 (pa_cons (pv 1) pa_nil))))
      (pss_one ps_never) pss_nil)
      (pss_cons (ps_set (i := 2) sc_Receiver_take.nd rfl (Or.inl rfl) (pe_ix ix_tup (pv 1) pe_int (fun _ _ => rfl)))
      (pss_cons (ps_set (i := 3) sc_Receiver_take.nd rfl (Or.inl rfl) (pe_ifExp (pt_cmpR op_le (pv 2) (pe_callB call_len_seq rfl T.z_len (by decide +kernel) (pa_cons (pe_fld (pv 0) rfl) pa_nil)) (nomark _)) (pe_ix ix_tup (pe_fld (pv 0) rfl) (pe_op op_sub (pv 2) pe_int) (fun _ _ => rfl)) (pe_dget2 (by exact hu_of hr) (pe_fld (pv 0) rfl) (pv 2) (pv 1) ⟨by rfl, by rfl, by rfl, by rfl⟩)))
      (pss_cons (ps_if (pt_cmpR (op_neD (hu64 hr)) (pv 3) (pv 1) (nomark _))
      (pss_one (ps_raiseSup rfl T.e_Clash hr (takes_of rfl rfl rfl rfl) (by exact (pa_cons (pv 2) pa_nil)))) pss_nil)
      (pss_cons (ps_if (pt_cmpR op_le (pv 2) (pe_callB call_len_seq rfl T.z_len (by decide +kernel) (pa_cons (pe_fld (pv 0) rfl) pa_nil)) (nomark _))
      (pss_one (ps_ret (pe_tup pa_nil))) pss_nil)
      (pss_cons (ps_dput (by exact hu_of hr) (pe_fld (pv 0) rfl) (pv 2) (pv 1) rfl)
      (pss_cons (ps_set (i := 4) sc_Receiver_take.nd rfl (Or.inl rfl) (pe_lst pa_nil))
      (pss_cons (ps_while (passes_of rfl) (pt_cmp (pc_din (by exact hu_of hr) (pe_op op_add (pe_op op_add (pe_callB call_len_seq rfl T.z_len (by decide +kernel) (pa_cons (pe_fld (pv 0) rfl) pa_nil)) (pe_callB call_len_seq rfl T.z_len (by decide +kernel) (pa_cons (pv 4) pa_nil))) pe_int) (pe_fld (pv 0) rfl)) rfl)
      (pss_one (ps_expr (pe_bm PySem.F.plainAttrs_list PySem.F.slot_list_append PySem.F.type_list_append mt_append (pv 4) (pa_cons (pe_dpop1 (pe_fld (pv 0) rfl) (pe_op op_add (pe_op op_add (pe_callB call_len_seq rfl T.z_len (by decide +kernel) (pa_cons (pe_fld (pv 0) rfl) pa_nil)) (pe_callB call_len_seq rfl T.z_len (by decide +kernel) (pa_cons (pv 4) pa_nil))) pe_int) ⟨by rfl, by rfl, by rfl, by rfl⟩) pa_nil)))))
      (pss_cons (ps_fld (pv 0) (pe_tup (StX.pa_star (pe_fld (pv 0) rfl) (StX.pa_star (pv 4) pa_nil))) rfl)
      (pss_one (ps_ret (pe_callTy call_tuple_of rfl T.z_tuple (by decide +kernel) (pa_cons (pv 4) pa_nil))))))))))))), ?_⟩)
  obtain ⟨r, dx, ed, v, L, m, ws, n, c, wd, k, rfl, ⟨dn, val, h1, h2, h3, h4⟩, hL, hz, hst, hv, g1, g2, g3, g4, g5, g6, hk, q1, q2⟩ := h
  refine ⟨_, rfl, v, n, c, wd, k, rfl, hv, g1, g3, g4, g5, g6, fun H1 s1 => ?_⟩
  have hno : ∀ {j : Int}, j ∈ nums m ∨ j ∈ ws → 1 ≤ j ∧ j ≤ L.length := by
    rintro j (hj | hj)
    · have z := mem_nums.mp hj
      have := hst.le
      omega
    · have z1 := hst.gt j hj
      have z2 := hst.up j hj
      omega
  have himm : ∀ {j : Int}, 1 ≤ j ∧ j ≤ L.length → imm (nth L j) = true ∧ SeqAt.shaped (nth L j) = true := by
    intro j hj
    obtain ⟨c', w', k', e, _, hw, _⟩ := hL j hj.1 hj.2
    rw [e]
    exact ⟨tell_imm _ _ _ _, tell_shaped hw⟩
  have h1' := s1 _ _ h1
  have h2' := s1.tupK.sqT h2
  have h3' := s1 _ _ h3
  have h4' : ∀ j, j ∈ nums m ∨ j ∈ ws → Dp K H1 (val j) (nth L j) := fun j hj => Dp.keep s1.tupK _ _ (himm (hno hj)).1 (h4 j hj)
  have hv' := s1.tupK.sqT hv
  have hdv : Dp K H1 (.ref v) (tellD n c wd k) := .tup hv' (.cons (.int _) (.cons (.int _) (.cons (.str _) (.cons (.int _) .nil))))
  have hdl : ((nums m).map val).length = m := by rw [List.length_map, nums_len]
  have heq : nth L n = tellD n c wd k → PyData.eqv (nth L n) (tellD n c wd k) = true := fun h => by rw [h, eqv_tell]; simp
  have hne : nth L n ≠ tellD n c wd k → PyData.eqv (nth L n) (tellD n c wd k) = false := fun h => by
    obtain ⟨c', w', k', e, _⟩ := hL n g1 g2
    rw [e] at h ⊢
    rw [eqv_tell]
    exact decide_eq_false fun z => h (by rw [z.2.1, z.2.2.1, z.2.2.2])
  refine ⟨_, rfl, ?_⟩
  refine ⟨_, rfl, v, _, _, _, rfl, rfl, hv', rfl, ?_⟩
  refine ⟨_, rfl, _, rfl, r, T.C_Receiver, dx, _, _, rfl, h1', T.cl_Receiver, T.na_Receiver_done, rf_look_d _ _, dn, _, rfl, .inr h2', _, _, rfl, rfl, _, rfl, ?_⟩
  by_cases hm : n ≤ m
  · refine iteB (by rw [hdl]; simpa using hm) ?_
    have hmem : n ∈ nums m := mem_nums.mpr ⟨g1, hm⟩
    have hat : ((nums m).map val)[(n - 1).toNat]? = some (val n) := by
      unfold nums
      rw [List.map_map, List.getElem?_map, List.getElem?_range (by omega)]
      show some (val (((n - 1).toNat : Int) + 1)) = _
      rw [show (((n - 1).toNat : Int) + 1) = n by omega]
    have hat2 := atI_nat hat
    rw [show (((n - 1).toNat : Nat) : Int) = n - 1 by omega] at hat2
    refine ⟨_, rfl, r, T.C_Receiver, dx, _, _, rfl, h1', T.cl_Receiver, T.na_Receiver_done, rf_look_d _ _, _, rfl, _, _, rfl, rfl, dn, _, _, _, rfl, rfl, h2', hat2, ?_⟩
    refine ⟨_, rfl, _, rfl, _, _, h4' n (.inl hmem), hdv, (himm ⟨g1, g2⟩).2, tell_shaped g4, _, rfl, ?_⟩
    have hkn : Known m ws n := .inl hm
    have hnx : nxt m ws n = (m, ws) := if_pos hkn
    by_cases hd : nth L n = tellD n c wd k
    · refine iteB' (by rw [heq hd]; rfl) ?_
      refine ⟨_, rfl, _, rfl, r, T.C_Receiver, dx, _, _, rfl, h1', T.cl_Receiver, T.na_Receiver_done, rf_look_d _ _, dn, _, rfl, .inr h2', _, _, rfl, rfl, _, rfl, ?_⟩
      refine iteB (by rw [hdl]; simpa using hm) ?_
      refine ⟨Nat.zero_le _, fun p hp => q1 hd p [] _ (s1.step hp).but (.of upd_same) ?_ ?_⟩
      · rw [hnx, List.drop_eq_nil_of_le (by rw [nums_len]; exact Nat.le_refl _)]
        exact .nil
      · rw [hnx]
        have s2 := s1.step (o := .tup []) hp
        exact ⟨dn, val, s2 _ _ h1, s2.tupK.sqT h2, s2 _ _ h3, fun j hj => Dp.keep s2.tupK _ _ (himm (hno hj)).1 (h4 j hj)⟩
    · refine iteB (by rw [hne hd]; rfl) ?_
      exact ⟨_, rfl, _, rfl, fun d hdn => q2 hd d H1 s1 hdn⟩
  · refine iteB' (by rw [hdl]; simpa using hm) ?_
    have hkn : Known m ws n ↔ n ∈ ws := ⟨fun h => h.resolve_left hm, .inr⟩
    have hdg : DGet H1 ed (.int n) (valV (dk ws val) (Sum.inl n)) := DGet.k (k := Sum.inl n) h3'
    have hkd : Dp K H1 ((valV (dk ws val) (Sum.inl n)).getD (.ref v)) (nth L n) := by
      by_cases hw : n ∈ ws
      · rw [valV_dk hw]
        exact h4' n (.inr hw)
      · rw [valV_dk_none hw, hk (fun h => hw (hkn.mp h))]
        exact hdv
    refine ⟨_, rfl, r, T.C_Receiver, dx, _, _, rfl, h1', T.cl_Receiver, T.na_Receiver_early, rf_look_e _ _, ed, rfl, .inl ⟨_, .of h3'⟩, _, rfl, _, rfl, _, hdg, ?_⟩
    refine ⟨_, rfl, _, rfl, _, _, hkd, hdv, (himm ⟨g1, g2⟩).2, tell_shaped g4, _, rfl, ?_⟩
    by_cases hd : nth L n = tellD n c wd k
    · refine iteB' (by rw [heq hd]; rfl) ?_
      refine ⟨_, rfl, _, rfl, r, T.C_Receiver, dx, _, _, rfl, h1', T.cl_Receiver, T.na_Receiver_done, rf_look_d _ _, dn, _, rfl, .inr h2', _, _, rfl, rfl, _, rfl, ?_⟩
      refine iteB' (by rw [hdl]; simpa using hm) ?_
      -- self.early[number] = tell
      obtain ⟨ws1, he1, hs1, hr1⟩ : ∃ ws1, putK (dk ws val) (Sum.inl n) (.ref v) = dk ws1 (fun j => if j = n then .ref v else val j) ∧ (St0 L m ws1 ∧ ∀ j, j ∈ ws1 → j = n ∨ j ∈ ws) ∧ nxt m ws n = run (ws.length + 1) m ws1 ∧ ws1.length ≤ ws.length + 1 := by
        by_cases hw : n ∈ ws
        · exact ⟨ws, put_dk_old hw, ⟨hst.toSt0, fun j hj => .inr hj⟩, by unfold nxt; rw [if_pos (hkn.mpr hw), run_stop hst.gap], Nat.le_succ _⟩
        · have hk' : ¬ Known m ws n := fun h => hw (hkn.mp h)
          refine ⟨ws ++ [n], put_dk_new hw, ⟨hst.toSt0.add hk' g2, fun j hj => ?_⟩, by unfold nxt; rw [if_neg hk'], by simp⟩
          rcases List.mem_append.mp hj with hj | hj
          · exact .inr hj
          · exact .inl (List.mem_singleton.mp hj)
      have hwl : (dk ws val).length < sizeLine := by
        rw [dk_len]
        have : ws.length ≤ 100 := by
          have z := List.Nodup.length_le_of_subset (l₂ := nums L.length) hst.nd (fun j hj => mem_nums.mpr (hno (.inr hj)))
          rw [nums_len] at z
          omega
        exact Nat.lt_of_le_of_lt this (by decide)
      refine ⟨_, rfl, _, rfl, r, T.C_Receiver, dx, _, _, rfl, h1', T.cl_Receiver, T.na_Receiver_early, rf_look_e _ _, _, rfl, ed, _, rfl, DPut.k (k := Sum.inl n) h3' hwl, ?_⟩
      refine ⟨Nat.zero_le _, fun nl hnl => ?_⟩
      rw [he1] at hnl
      rw [he1]
      have n1 : ed ≠ nl := fun e => by rw [← e, upd_same] at hnl; cases hnl
      have hnl1 : H1 nl = none := by rw [upd_ne n1.symm] at hnl; exact hnl
      have n2 : r ≠ ed := ne_of h1' h3' (by intro z; cases z)
      have n3 : r ≠ nl := ne_of_none h1' hnl1
      have hold : ∀ j ∈ nums m, (if j = n then V.ref v else val j) = val j := fun j hj => by
        have := (mem_nums.mp hj).2
        rw [if_neg (by omega)]
      have hdone : (nums m).map val = (nums m).map fun j => if j = n then V.ref v else val j := List.map_congr_left fun j hj => (hold j hj).symm
      rw [hdone] at h2' hdl
      refine ⟨TkW H1 K L m (fun j => if j = n then V.ref v else val j) [some (.ref r), some (.ref v), some (.int n), some ((valV (dk ws val) (Sum.inl n)).getD (.ref v)), some (.ref nl)] nl ed (nxt m ws n), ⟨_, m, ws1, rfl, rfl, Nat.le_refl _, hs1.1, ?_, ?_, ?_, ?_, ?_⟩, ?_⟩
      · rw [hr1.1, run_more _ _ _ hr1.2]
      · rw [upd_ne n1, upd_same]
      · rw [upd_same, List.drop_eq_nil_of_le (by rw [nums_len]; exact Nat.le_refl _)]
        rfl
      · exact (But.set (S := (· = ed)) rfl).new hnl
      · intro j hj
        by_cases e : j = n
        · subst e
          show Dp K H1 (if j = j then V.ref v else val j) _
          rw [if_pos rfl, hd]
          exact hdv
        · show Dp K H1 (if j = n then V.ref v else val j) _
          rw [if_neg e]
          refine h4' j ?_
          rcases hj with hj | hj
          · exact .inl hj
          · exact .inr ((hs1.2 j hj).resolve_left e)
      · rintro j σ' H' ⟨m', ws', rfl, rfl, hmm, hs', hrun, e1, e2, e3, e4⟩
        have hr' := e3 r _ n2 h1'
        have tk3 : TupK H1 H' := e3.tupK fun a xs ha hx => by
          rw [show a = ed from ha] at hx
          rcases hx with hx | ⟨o, hx⟩ <;> rw [h3'] at hx <;> cases hx
        have hd' := tk3.sqT h2'
        have hx : (((nums m).map fun j => if j = n then V.ref v else val j).length : Int) + ((((nums m').drop m).map fun j => if j = n then V.ref v else val j).length : Int) + 1 = (m' : Int) + 1 := by
          rw [hdl, List.length_map, List.length_drop, nums_len]
          omega
        have hdg' : DGet H' ed (.int ((((nums m).map fun j => if j = n then V.ref v else val j).length : Int) + ((((nums m').drop m).map fun j => if j = n then V.ref v else val j).length : Int) + 1)) (valV (dk ws' fun j => if j = n then V.ref v else val j) (Sum.inl ((m' : Int) + 1))) := by
          rw [hx]
          exact DGet.k (k := Sum.inl ((m' : Int) + 1)) e1
        refine ⟨_, rfl, r, T.C_Receiver, dx, _, _, rfl, hr', T.cl_Receiver, T.na_Receiver_done, rf_look_d _ _, dn, _, rfl, .inr hd', _, rfl, nl, _, rfl, .inl (.of e2), _, _, rfl, rfl, _, _, rfl, rfl, ?_⟩
        refine ⟨_, rfl, r, T.C_Receiver, dx, _, _, rfl, hr', T.cl_Receiver, T.na_Receiver_early, rf_look_e _ _, ed, _, rfl, hdg', _, rfl, ?_⟩
        by_cases hin : (m' : Int) + 1 ∈ ws'
        · refine iteB (by rw [valV_dk hin]; rfl) ?_
          refine ⟨fun σ'' H'' => ∃ j', j' < ws'.length ∧ TkW H1 K L m (fun j => if j = n then V.ref v else val j) [some (.ref r), some (.ref v), some (.int n), some ((valV (dk ws val) (Sum.inl n)).getD (.ref v)), some (.ref nl)] nl ed (nxt m ws n) j' σ'' H'', fun _ _ h => h, ?_⟩
          have hnl' : upd H' ed (.dK (dropK (dk ws' fun j => if j = n then V.ref v else val j) (Sum.inl ((m' : Int) + 1)))) nl = some (.lst (((nums m').drop m).map fun j => if j = n then V.ref v else val j)) := by rw [upd_ne n1.symm]; exact e2
          refine ⟨_, rfl, .inl ⟨rfl, _, .of e2⟩, _, rfl, r, T.C_Receiver, dx, _, _, rfl, hr', T.cl_Receiver, T.na_Receiver_early, rf_look_e _ _, ed, rfl, .inl ⟨_, .of e1⟩, ?_⟩
          refine ⟨_, rfl, r, T.C_Receiver, dx, _, _, rfl, hr', T.cl_Receiver, T.na_Receiver_done, rf_look_d _ _, dn, _, rfl, .inr hd', _, rfl, nl, _, rfl, .inl (.of e2), _, _, rfl, rfl, _, _, rfl, rfl, ?_⟩
          refine ⟨_, Sum.inl ((m' : Int) + 1), _, e1, congrArg V.int hx, valV_dk hin, nl, _, _, rfl, rfl, hnl', ?_, ?_⟩
          · rw [List.length_map, List.length_drop, nums_len]
            have := hs'.le
            exact Nat.lt_of_le_of_lt (show m' - m ≤ 100 by omega) (by decide)
          · have hel := List.length_erase_of_mem hin
            have hpos : 0 < ws'.length := List.length_pos_of_mem hin
            refine ⟨(ws'.erase ((m' : Int) + 1)).length, by omega, m' + 1, _, rfl, rfl, by omega, hs'.step hin, ?_, ?_, ?_, ?_, ?_⟩
            · rw [← hrun, show ws'.length = (ws'.erase ((m' : Int) + 1)).length + 1 by omega, run_go hin]
            · rw [upd_ne n1, upd_same, drop_dk hs'.nd]
            · rw [upd_same, nums_succ, List.drop_append_of_le_length (by rw [nums_len]; exact hmm), List.map_append]
              rfl
            · exact (e3.put rfl).own hnl1
            · intro j hj
              refine e4 j ?_
              rcases hj with hj | hj
              · have z := mem_nums.mp hj
                by_cases e : j = (m' : Int) + 1
                · exact .inr (e ▸ hin)
                · exact .inl (mem_nums.mpr ⟨z.1, by omega⟩)
              · exact .inr (List.mem_of_mem_erase hj)
        · refine iteB' (by rw [valV_dk_none hin]; rfl) ?_
          rw [run_stop hin] at hrun
          have hm' : (nxt m ws n).1 = m' := by rw [← hrun]
          have hw' : (nxt m ws n).2 = ws' := by rw [← hrun]
          have hle := hs'.le
          refine ⟨_, rfl, r, T.C_Receiver, dx, _, _, rfl, hr', T.cl_Receiver, T.na_Receiver_done, rf_look_d _ _, dn, _, rfl, .inl hd', _, rfl, nl, _, rfl, .inr (.of e2), ?_, fun dn2 hdn2 => ?_⟩
          · rw [List.append_nil, List.length_append, List.length_map, List.length_map, List.length_drop, nums_len, nums_len]
            exact Nat.le_trans (show m + (m' - m) ≤ 100 by omega) (by decide)
          · have n4 : r ≠ dn2 := ne_of_none hr' hdn2
            have n5 : ed ≠ dn2 := ne_of_none e1 hdn2
            have n6 : nl ≠ dn2 := ne_of_none e2 hdn2
            refine ⟨_, rfl, r, T.C_Receiver, dx, _, rfl, (by rw [upd_ne n4]; exact hr'), T.cl_Receiver, T.na_Receiver_done, (by show 2 < 1000; decide), ?_⟩
            refine ⟨_, rfl, nl, _, rfl, .inl ⟨.of (by rw [upd_ne n3.symm, upd_ne n6]; exact e2), fun p hp => ?_⟩⟩
            have n7 : r ≠ p := fun e => by rw [← e, upd_same] at hp; cases hp
            have hp1 := hp
            rw [upd_ne n7.symm] at hp1
            have n8 : dn2 ≠ p := fun e => by rw [← e, upd_same] at hp1; cases hp1
            have hp2 := hp1
            rw [upd_ne n8.symm] at hp2
            have n9 : ed ≠ p := ne_of_none e1 hp2
            have kk : But (fun a => a = r ∨ a = ed) H (upd (upd (upd H' dn2 (.tup (((nums m).map fun j => if j = n then V.ref v else val j) ++ ((((nums m').drop m).map fun j => if j = n then V.ref v else val j) ++ [])))) r (.ins T.C_Receiver dx (putF "done" (.ref dn2) (RF (.ref dn) (.ref ed))))) p (.tup (((nums m').drop m).map fun j => if j = n then V.ref v else val j))) :=
              (((((s1.but (S := fun a => a = r ∨ a = ed)).trans (e3.mono (T := fun a => a = r ∨ a = ed) fun a h => Or.inr h)).new hdn2).put (.inl rfl)).new hp)
            have tk4 : TupK H1 (upd (upd (upd H' dn2 (.tup (((nums m).map fun j => if j = n then V.ref v else val j) ++ ((((nums m').drop m).map fun j => if j = n then V.ref v else val j) ++ [])))) r (.ins T.C_Receiver dx (putF "done" (.ref dn2) (RF (.ref dn) (.ref ed))))) p (.tup (((nums m').drop m).map fun j => if j = n then V.ref v else val j))) := by
              refine But.tupK (S := fun a => a = r ∨ a = ed) ((((e3.mono (T := fun a => a = r ∨ a = ed) fun a h => Or.inr h).new hdn2).put (.inl rfl)).new hp) fun a xs ha hx => ?_
              rcases ha with ha | ha
              · rw [ha] at hx
                rcases hx with hx | ⟨o, hx⟩ <;> rw [h1'] at hx <;> cases hx
              · rw [ha] at hx
                rcases hx with hx | ⟨o, hx⟩ <;> rw [h3'] at hx <;> cases hx
            have hnn : ∀ {j : Int}, j ∈ nums m' ∨ j ∈ ws' → 1 ≤ j ∧ j ≤ L.length := by
              rintro j (hj | hj)
              · have z := mem_nums.mp hj
                omega
              · have z1 := hs'.gt j hj
                have z2 := hs'.up j hj
                omega
            refine q1 hd p _ _ kk (.of upd_same) ?_ ?_
            · rw [hm']
              exact dpAll_map fun j hj => Dp.keep tk4 _ _ (himm (hnn (.inl (List.mem_of_mem_drop hj)))).1 (e4 j (.inl (List.mem_of_mem_drop hj)))
            · rw [hm', hw']
              refine ⟨dn2, _, ?_, ?_, ?_, fun j hj => Dp.keep tk4 _ _ (himm (hnn hj)).1 (e4 j hj)⟩
              · rw [upd_ne n7, upd_same, rf_done]
              · refine .of ?_
                rw [upd_ne n8, upd_ne n4.symm, upd_same, List.append_nil, ← List.map_append, ← nums_take hmm, List.take_append_drop]
              · rw [upd_ne n9, upd_ne n2.symm, upd_ne n5]
                exact e1
    · refine iteB (by rw [hne hd]; rfl) ?_
      exact ⟨_, rfl, _, rfl, fun d hdn => q2 hd d H1 s1 hdn⟩
end
end K88
namespace K88
open PySem PySem.Spec PyProof.Rows L2
/-! ### the urn: three ints -/
def Urn (H : Hp) (u : Addr) : Prop := ∃ a b c : Int, H u = some (.lst [.int a, .int b, .int c])
def spWell (K : PySem.W.Frag) : Sp := fun vs H Q _ => ∃ (a : Addr) (ns : List Int) (lap : Int), vs = [.ref a, .int lap] ∧ 0 ≤ lap ∧ SqL K H a (ns.map V.int) ∧ ∀ u H', Same H H' → H u = none → Urn H' u → Q (.ref u) H'
def spDraw : Sp := fun vs H Q _ => ∃ (u : Addr) (many : Int), vs = [.ref u, .int many] ∧ 0 < many ∧ many < 1073741824 ∧ Urn H u ∧ ∀ k H', 0 ≤ k → k < many → Urn H' u → But (· = u) H H' → Q (.int k) H'
theorem cutV_mem {xs : List V} {lo hi : Option Int} {x : V} (h : x ∈ cutV xs lo hi) : x ∈ xs := List.mem_of_mem_drop (List.mem_of_mem_take h)
section
variable {P : Program} {w : World} {K : PySem.W.Frag} {mg : Str → Option Value} {base : Heap}
theorem ok_law_draw (T : Txt P K mg) : FnOk P w K mg base CX0 1 T.f_law_draw T.d_law_draw ["well", "limit"] spDraw := by
  refine T.F_law_draw.ok sc_law_draw (fun vs H Q E h => by obtain ⟨u, many, rfl, _⟩ := h; rfl) (fun cdv A outer s H vs Q E hr h => ⟨_, (pss_cons (ps_if (pt_cmpR op_gt (pe_ix ix_list (pv 0) pe_int (fun _ _ => rfl)) pe_int (nomark _))
      (pss_cons (ps_asg (pe_callB call_divmod rfl T.z_divmod (by decide +kernel) (pa_cons (pe_ix ix_list (pv 0) pe_int (fun _ _ => rfl)) (pa_cons (pv 1) pa_nil))) (pg_tup rfl (pgs_cons (pg_sub (pv 0) pe_int set_list) (pgs_cons (pg_name (i := 2) sc_law_draw.nd rfl (by first | exact Or.inl rfl | exact Or.inr rfl)) pgs_nil))))
      (pss_one (ps_ret (pv 2)))) pss_nil)
      (pss_cons (ps_asg (pe_op op_add (pe_ix ix_list (pv 0) pe_int (fun _ _ => rfl)) pe_int) (pg_sub (pv 0) pe_int set_list))
      (pss_cons (ps_set (i := 3) sc_law_draw.nd rfl (Or.inl rfl) (pe_op op_mod (pe_callTy call_int1 rfl T.z_int (by decide +kernel) (pa_cons (pe_op op_add (pe_op op_add (pe_op op_mul (pe_ix ix_list (pv 0) pe_int (fun _ _ => rfl)) pe_int) (pe_op op_mul pe_int (pe_ix ix_list (pv 0) pe_int (fun _ _ => rfl)))) pe_int) pa_nil)) pe_int))
      (pss_cons (ps_asg (pe_op op_mod (pe_callTy call_int1 rfl T.z_int (by decide +kernel) (pa_cons (pe_op op_add (pe_op op_mul (pv 3) (pe_op op_add (pe_op op_mod (pe_callTy call_int1 rfl T.z_int (by decide +kernel) (pa_cons (pv 3) pa_nil)) pe_int) pe_int)) (pe_ix ix_list (pv 0) pe_int (fun _ _ => rfl))) pa_nil)) pe_int) (pg_sub (pv 0) pe_int set_list))
      (pss_one (ps_ret (pe_op op_mod (pe_callTy call_int1 rfl T.z_int (by decide +kernel) (pa_cons (pe_op op_fdiv (pe_ix ix_list (pv 0) pe_int (fun _ _ => rfl)) pe_int) pa_nil)) (pv 1)))))))), ?_⟩)
  obtain ⟨u, many, rfl, h1, h2, ⟨a, b, c, hu⟩, q⟩ := h
  refine ⟨_, rfl, u, _, _, _, rfl, rfl, .of hu, rfl, _, _, rfl, rfl, _, rfl, ?_⟩
  refine ite2 (fun hc => ?_) (fun hc => ?_)
  · refine ⟨_, rfl, u, _, _, _, rfl, rfl, .of hu, rfl, _, rfl, a, many, rfl, ?_, fun p hp => ?_⟩
    · exact ⟨h1, h2⟩
    · have n1 : u ≠ p := ne_of_none hu hp
      refine ⟨p, _, rfl, .of upd_same, rfl, ?_⟩
      refine ⟨_, _, rfl, ⟨_, rfl, u, _, _, 0, rfl, rfl, (by rw [upd_ne n1]; exact hu), rfl, ?_⟩⟩
      refine ⟨_, _, rfl, rfl, ?_⟩
      refine ⟨_, rfl, q _ _ (Int.emod_nonneg _ (by omega)) (Int.emod_lt_of_pos _ h1) ⟨_, _, _, upd_same⟩ ?_⟩
      exact ((Same.new hp).but (S := (· = u))).put rfl
  · refine ⟨_, rfl, u, _, _, _, rfl, rfl, .of hu, rfl, _, _, rfl, rfl, ?_⟩
    refine ⟨_, rfl, u, _, _, 2, rfl, rfl, hu, rfl, ?_⟩
    refine ⟨_, rfl, u, _, _, _, rfl, rfl, .of upd_same, rfl, _, _, rfl, rfl, .inr ⟨by decide, by decide⟩, _, rfl, u, _, _, _, rfl, rfl, .of upd_same, rfl, _, _, rfl, rfl, .inl ⟨by decide, by decide⟩, _, _, rfl, rfl, _, _, rfl, rfl, .inl ⟨_, rfl, ?_⟩⟩
    refine ⟨_, _, rfl, rfl, (by show (0 : Int) < 2147483563; decide), ?_⟩
    refine ⟨_, rfl, _, rfl, .inl ⟨_, rfl, _, _, rfl, rfl, (by show (0 : Int) < 5009; decide), _, _, rfl, rfl, _, _, rfl, rfl, .inr ?_, ?_⟩⟩
    · have hb : ∀ z : Int, 0 ≤ z % 5009 ∧ z % 5009 < 5009 := fun z => ⟨Int.emod_nonneg _ (by decide), Int.emod_lt_of_pos _ (by decide)⟩
      constructor
      · have := (hb ((b * 40037 + 13001 * (c + 1) + 7) % 2147483563)).1
        show (-(2 ^ 64) : Int) < (b * 40037 + 13001 * (c + 1) + 7) % 2147483563 % 5009 + 20023
        omega
      · have := (hb ((b * 40037 + 13001 * (c + 1) + 7) % 2147483563)).2
        show (b * 40037 + 13001 * (c + 1) + 7) % 2147483563 % 5009 + 20023 < (2 ^ 64 : Int)
        omega
    · refine ⟨_, rfl, u, _, _, _, rfl, rfl, .of upd_same, rfl, _, _, rfl, rfl, .inl ⟨_, rfl, _, _, rfl, rfl, (by show (0 : Int) < 2147483563; decide), ?_⟩⟩
      refine ⟨_, rfl, u, _, _, 1, rfl, rfl, upd_same, rfl, ?_⟩
      refine ⟨_, rfl, u, _, _, _, rfl, rfl, .of upd_same, rfl, _, _, rfl, rfl, ⟨by decide, by decide⟩, .inl ⟨_, rfl, _, rfl, _, _, rfl, rfl, h1, ?_⟩⟩
      refine q _ _ (Int.emod_nonneg _ (by omega)) (Int.emod_lt_of_pos _ h1) ⟨_, _, _, upd_same⟩ ?_
      exact (But.set (S := (· = u)) rfl).put rfl
theorem ok_law_well (T : Txt P K mg) : FnOk P w K mg base CX0 1 T.f_law_well T.d_law_well ["script", "lap"] (spWell K) := by
  refine T.F_law_well.ok sc_law_well (fun vs H Q E h => by obtain ⟨a, ns, lap, rfl, _⟩ := h; rfl) (fun cdv A outer s H vs Q E hr h => ⟨_, (pss_cons (ps_set (i := 2) sc_law_well.nd rfl (Or.inl rfl) (pe_op op_add pe_int (pe_op op_mul pe_int (pv 1))))
      (pss_cons (ps_for PassesOwn.never rfl (pi_list (pe_slice sl_list (pv 0) po_none (po_some pe_int))) (pg_name (i := 3) sc_law_well.nd rfl (by first | exact Or.inl rfl | exact Or.inr rfl))
      (pss_one (ps_set (i := 2) sc_law_well.nd rfl (Or.inl rfl) (pe_op op_mod (pe_callTy call_int1 rfl T.z_int (by decide +kernel) (pa_cons (pe_op op_add (pe_op op_add (pe_op op_mul (pv 2) pe_int) (pe_op op_mod (pe_callTy call_int1 rfl T.z_int (by decide +kernel) (pa_cons (pv 3) pa_nil)) pe_int)) pe_int) pa_nil)) pe_int))))
      (pss_cons (ps_set (i := 4) sc_law_well.nd rfl (Or.inl rfl) (pe_ifExp (pt_cmpR op_lt (pv 1) (pe_callB call_len_seq rfl T.z_len (by decide +kernel) (pa_cons (pv 0) pa_nil)) (nomark _)) (pe_callTy call_int1 rfl T.z_int (by decide +kernel) (pa_cons (pe_ix ix_list (pv 0) (pv 1) (fun _ _ => rfl)) pa_nil)) pe_int))
      (pss_cons (ps_set (i := 2) sc_law_well.nd rfl (Or.inl rfl) (pe_op op_mod (pe_callTy call_int1 rfl T.z_int (by decide +kernel) (pa_cons (pe_op op_add (pe_op op_add (pe_op op_mul (pv 2) pe_int) (pe_op op_mul (pe_op op_mod (pe_callTy call_int1 rfl T.z_int (by decide +kernel) (pa_cons (pv 4) pa_nil)) pe_int) pe_int)) pe_int) pa_nil)) pe_int))
      (pss_one (ps_ret (pe_lst (pa_cons (pe_ifExp (PW.pt (pw_or (pt_cmpR op_lt (pv 4) pe_int (nomark _)) (pw_or1 (pt_cmpR op_ge (pv 4) (pe_op op_pow pe_int pe_int) (nomark _))))) (pe_callB call_abs rfl T.z_abs (by decide +kernel) (pa_cons (pv 4) pa_nil)) pe_int) (pa_cons (pv 2) (pa_cons pe_int pa_nil)))))))))), ?_⟩)
  obtain ⟨a, ns, lap, rfl, h0, h1, q⟩ := h
  refine ⟨_, rfl, _, _, rfl, rfl, .inl ⟨by decide, by decide⟩, _, _, rfl, rfl, ?_⟩
  refine ⟨_, rfl, _, rfl, a, _, rfl, h1, fun l hl => ⟨l, rfl, ⟨_, .of upd_same⟩, ?_⟩⟩
  refine for_list (K := K) (a := l) (xs := cutV (ns.map V.int) none (some 12)) (fun i σ H' => ∃ (st : Int) (cv : Option V), σ = [some (.ref a), some (.int lap), some (.int st), cv, none] ∧ H' = upd H l (.lst (cutV (ns.map V.int) none (some 12)))) ⟨_, none, rfl, rfl⟩ (fun i σ H' _ ⟨st, cv, _, e⟩ => by rw [e]; exact .of upd_same) ?_ ?_
  · rintro i x σ H' hi ⟨st, cv, rfl, rfl⟩
    obtain ⟨z, hz, rfl⟩ : ∃ z, z ∈ ns ∧ V.int z = x := List.mem_map.mp (cutV_mem (List.mem_of_getElem? hi))
    refine ⟨_, rfl, _, _, rfl, rfl, .inr ⟨by decide, by decide⟩, _, rfl, .inl ⟨_, rfl, _, _, rfl, rfl, (by show (0 : Int) < 2147483549; decide), _, _, rfl, rfl, _, _, rfl, rfl, .inl ⟨_, rfl, _, _, rfl, rfl, (by show (0 : Int) < 2147483563; decide), ?_⟩⟩⟩
    exact ⟨_, _, rfl, rfl⟩
  · rintro σ H' ⟨st, cv, rfl, rfl⟩
    have sm : Same H (upd H l (.lst (cutV (ns.map V.int) none (some 12)))) := Same.new hl
    have h1' := sm.seq h1
    refine ⟨_, rfl, _, rfl, a, _, rfl, .inl h1', _, _, rfl, rfl, _, rfl, ?_⟩
    refine ite2 (fun hc => ?_) (fun hc => ?_)
    · have hlt : lap < ((ns.map V.int).length : Int) := of_decide_eq_true hc
      rw [List.length_map] at hlt
      have hat : (ns.map V.int)[lap.toNat]? = some (.int (ns[lap.toNat]'(by omega))) := by
        rw [List.getElem?_map, List.getElem?_eq_getElem (by omega)]
        rfl
      have hat2 := atI_nat hat
      rw [show ((lap.toNat : Nat) : Int) = lap by omega] at hat2
      refine ⟨_, rfl, _, rfl, a, _, _, _, rfl, rfl, h1', hat2, .inl ⟨_, rfl, ?_⟩⟩
      generalize ns[lap.toNat]'(by omega) = own
      refine ⟨_, rfl, _, _, rfl, rfl, .inr ⟨by decide, by decide⟩, _, rfl, .inl ⟨_, rfl, _, _, rfl, rfl, (by show (0 : Int) < 2147483549; decide), _, _, rfl, rfl, .inr ⟨by decide, by decide⟩, _, _, rfl, rfl, _, _, rfl, rfl, .inl ⟨_, rfl, _, _, rfl, rfl, (by show (0 : Int) < 2147483563; decide), ?_⟩⟩⟩
      refine ⟨_, rfl, _, _, rfl, rfl, _, rfl, ?_⟩
      refine ite2 (fun hd => ?_) (fun hd => ?_)
      · refine ⟨_, rfl, _, rfl, _, rfl, ?_⟩
        exact ⟨by show 3 ≤ sizeLine; decide, fun u hu => q u _ (sm.step hu) (by rw [upd_ne (fun e => by rw [e, upd_same] at hu; cases hu)] at hu; exact hu) ⟨_, _, _, upd_same⟩⟩
      · refine ⟨_, rfl, _, _, rfl, rfl, (by show (0 : Int) ≤ 15 ∧ (15 : Int) ≤ 1000000 ∧ (10 : Int).natAbs < 2 ^ 64; decide), _, _, rfl, rfl, _, rfl, ?_⟩
        refine ite2 (fun he => ?_) (fun he => ?_)
        · refine ⟨_, rfl, _, rfl, _, rfl, ?_⟩
          exact ⟨by show 3 ≤ sizeLine; decide, fun u hu => q u _ (sm.step hu) (by rw [upd_ne (fun e => by rw [e, upd_same] at hu; cases hu)] at hu; exact hu) ⟨_, _, _, upd_same⟩⟩
        · refine ⟨_, rfl, ?_⟩
          exact ⟨by show 3 ≤ sizeLine; decide, fun u hu => q u _ (sm.step hu) (by rw [upd_ne (fun e => by rw [e, upd_same] at hu; cases hu)] at hu; exact hu) ⟨_, _, _, upd_same⟩⟩
    · refine ⟨_, rfl, _, _, rfl, rfl, .inr ⟨by decide, by decide⟩, _, rfl, .inl ⟨_, rfl, _, _, rfl, rfl, (by show (0 : Int) < 2147483549; decide), _, _, rfl, rfl, .inr ⟨by decide, by decide⟩, _, _, rfl, rfl, _, _, rfl, rfl, .inl ⟨_, rfl, _, _, rfl, rfl, (by show (0 : Int) < 2147483563; decide), ?_⟩⟩⟩
      refine ⟨_, rfl, _, _, rfl, rfl, _, rfl, ?_⟩
      refine ite2 (fun hd => ?_) (fun hd => ?_)
      · refine ⟨_, rfl, _, rfl, _, rfl, ?_⟩
        exact ⟨by show 3 ≤ sizeLine; decide, fun u hu => q u _ (sm.step hu) (by rw [upd_ne (fun e => by rw [e, upd_same] at hu; cases hu)] at hu; exact hu) ⟨_, _, _, upd_same⟩⟩
      · refine ⟨_, rfl, _, _, rfl, rfl, (by show (0 : Int) ≤ 15 ∧ (15 : Int) ≤ 1000000 ∧ (10 : Int).natAbs < 2 ^ 64; decide), _, _, rfl, rfl, _, rfl, ?_⟩
        refine ite2 (fun he => ?_) (fun he => ?_)
        · refine ⟨_, rfl, _, rfl, _, rfl, ?_⟩
          exact ⟨by show 3 ≤ sizeLine; decide, fun u hu => q u _ (sm.step hu) (by rw [upd_ne (fun e => by rw [e, upd_same] at hu; cases hu)] at hu; exact hu) ⟨_, _, _, upd_same⟩⟩
        · refine ⟨_, rfl, ?_⟩
          exact ⟨by show 3 ≤ sizeLine; decide, fun u hu => q u _ (sm.step hu) (by rw [upd_ne (fun e => by rw [e, upd_same] at hu; cases hu)] at hu; exact hu) ⟨_, _, _, upd_same⟩⟩
theorem Urn.sqT {H H' : Hp} {u p : Addr} {xs : List V} (hu : Urn H u) (k : But (· = u) H H') (h : SqT K H p xs) : SqT K H' p xs := by
  obtain ⟨a, b, c, hu⟩ := hu
  exact (k.tupK fun x ys e => by rw [e]; exact not_tup_lst hu).sqT h
theorem Urn.tupK {H H' : Hp} {u : Addr} (hu : Urn H u) (k : But (· = u) H H') : TupK H H' := by
  obtain ⟨a, b, c, hu⟩ := hu
  exact k.tupK fun x ys e => by rw [e]; exact not_tup_lst hu
def spOf (K : PySem.W.Frag) : Sp := fun vs H Q _ => ∃ (u p : Addr) (xs : List V), vs = [.ref u, .ref p] ∧ SqT K H p xs ∧ 0 < xs.length ∧ xs.length < 1073741824 ∧ Urn H u ∧ ∀ (i : Nat) v H', xs[i]? = some v → Urn H' u → But (· = u) H H' → Q v H'
theorem ok_law_of (T : Txt P K mg) : FnOk P w K mg base CX0 2 T.f_law_of T.d_law_of ["well", "some"] (spOf K) := by
  refine T.F_law_of.ok sc_law_of (fun vs H Q E h => by obtain ⟨u, p, xs, rfl, _⟩ := h; rfl) (fun cdv A outer s H vs Q E hr h => ⟨_, (pss_one (ps_ret (pe_ix (IxR.or ix_list ix_tup) (pv 1) (pe_call (ok_law_draw T) (hr.mono (by decide)) rfl T.g__law_draw T.F_law_draw.kp T.b_law_draw .nil pass0 (pa_cons (pv 0) (pa_cons (pe_callB call_len_seq rfl T.z_len (by decide +kernel) (pa_cons (pv 1) pa_nil)) pa_nil))) (fun _ _ => rfl)))), ?_⟩)
  obtain ⟨u, p, xs, rfl, h1, h2, h3, hu, q⟩ := h
  refine ⟨_, rfl, _, rfl, _, rfl, p, _, rfl, .inr h1, u, _, rfl, by omega, by omega, hu, fun k H' k1 k2 hu' kb => .inr ?_⟩
  obtain ⟨n, rfl⟩ : ∃ n : Nat, k = n := ⟨k.toNat, by omega⟩
  have hat : xs[n]? = some xs[n] := List.getElem?_eq_getElem (by omega)
  exact ⟨p, _, _, _, rfl, rfl, hu.sqT kb h1, atI_nat hat, q n _ _ hat hu' kb⟩
def spList (K : PySem.W.Frag) : Sp := fun vs H Q _ => ∃ (u : Addr) (many : Nat), vs = [.ref u, .int many] ∧ many ≤ 100 ∧ Urn H u ∧ ∀ p L H', L.length = many → TL L → Dp K H' (.ref p) (.tuple L) → But (· = u) H H' → Urn H' u → Q (.ref p) H'
theorem ok_law_list (T : Txt P K mg) : FnOk P w K mg base CX0 3 T.f_law_list T.d_law_list ["well", "many"] (spList K) := by
  refine T.F_law_list.ok sc_law_list (fun vs H Q E h => by obtain ⟨u, many, rfl, _⟩ := h; rfl) (fun cdv A outer s H vs Q E hr h => ⟨_, (pss_cons (ps_par (i := 2) (j := 3) rfl sc_law_list.nd rfl rfl (by decide) rfl rfl (pa_cons (pe_lst pa_nil) (pa_cons pe_int pa_nil)) (by rfl))
      (pss_cons (ps_for PassesOwn.never rfl (pi_range1 rfl T.z_range (pa_cons (pv 1) pa_nil)) (pg_name (i := 4) sc_law_list.nd rfl (by first | exact Or.inl rfl | exact Or.inr rfl))
      (pss_cons (ps_set (i := 3) sc_law_list.nd rfl (Or.inl rfl) (pe_op op_add (pv 3) (pe_call (ok_law_of T) (hr.mono (by decide)) rfl T.g__law_of T.F_law_of.kp T.b_law_of .nil pass0 (pa_cons (pv 0) (pa_cons (pe_tup (pa_cons pe_int (pa_cons pe_int (pa_cons pe_int (pa_cons pe_int pa_nil))))) pa_nil)))))
      (pss_cons (ps_set (i := 5) sc_law_list.nd rfl (Or.inl rfl) (pe_tup (pa_cons (pe_callB (call_max2 rfl) rfl T.z_max (by decide +kernel) (pa_cons pe_int (pa_cons (pv 3) pa_nil))) (pa_cons (pe_call (ok_law_of T) (hr.mono (by decide)) rfl T.g__law_of T.F_law_of.kp T.b_law_of .nil pass0 (pa_cons (pv 0) (pa_cons (pe_tup (pa_cons pe_str (pa_cons pe_str (pa_cons pe_str pa_nil)))) pa_nil))) (pa_cons (pe_op op_add pe_int (pe_call (ok_law_draw T) (hr.mono (by decide)) rfl T.g__law_draw T.F_law_draw.kp T.b_law_draw .nil pass0 (pa_cons (pv 0) (pa_cons pe_int pa_nil)))) pa_nil)))))
      (pss_one (ps_expr (pe_bm PySem.F.plainAttrs_list PySem.F.slot_list_append PySem.F.type_list_append mt_append (pv 2) (pa_cons (pe_op op_catA (pe_tup (pa_cons (pe_op op_add (pv 4) pe_int) pa_nil)) (pv 5)) pa_nil)))))))
      (pss_one (ps_ret (pe_callTy call_tuple_of rfl T.z_tuple (by decide +kernel) (pa_cons (pv 2) pa_nil)))))), ?_⟩)
  obtain ⟨u, many, rfl, h1, hu, q⟩ := h
  refine ⟨Nat.zero_le _, fun f hf => ?_⟩
  obtain ⟨a0, b0, c0, hu0⟩ := id hu
  have n1 : u ≠ f := ne_of_none hu0 hf
  refine ⟨_, _, rfl, ?_⟩
  refine ⟨_, rfl, many, rfl, ?_⟩
  refine ⟨by omega, by omega, ?_⟩
  refine for_range (lo := 0) (n := many) (fun i σ H' => ∃ (c : Int) (x4 x5 : Option V) (xs : List V) (L : List PyData), σ = [some (.ref u), some (.int many), some (.ref f), some (.int c), x4, x5] ∧ 0 ≤ c ∧ L.length = i ∧ TL L ∧ H' f = some (.lst xs) ∧ DpAll K H' xs L ∧ But (· = u) H H' ∧ Urn H' u)
    ⟨0, none, none, [], [], rfl, by omega, rfl, TL.nil, upd_same, .nil, (Same.new hf).but, ⟨a0, b0, c0, by rw [upd_ne n1]; exact hu0⟩⟩ ?_ ?_
  · rintro i σ H' hi ⟨c, x4, x5, xs, L, rfl, hc, hL, htl, ef, hd, kb, hu'⟩
    refine ⟨_, rfl, _, rfl, by show 4 ≤ sizeLine; decide, fun p1 hp1 => ?_⟩
    have hu1 : Urn (upd H' p1 (.tup [.int 0, .int 1, .int 1, .int 2])) u := by
      obtain ⟨a, b, c, z⟩ := hu'
      exact ⟨a, b, c, by rw [upd_ne (ne_of_none z hp1)]; exact z⟩
    refine ⟨u, p1, _, rfl, .of upd_same, by decide, by decide, hu1, fun j v H2 hj hu2 kb2 => ?_⟩
    obtain ⟨z, rfl, hz⟩ : ∃ z : Int, v = .int z ∧ 0 ≤ z := by
      have hm := List.mem_of_getElem? hj
      simp only [List.mem_cons, List.not_mem_nil, or_false] at hm
      rcases hm with rfl | rfl | rfl | rfl
      · exact ⟨0, rfl, by decide⟩
      · exact ⟨1, rfl, by decide⟩
      · exact ⟨1, rfl, by decide⟩
      · exact ⟨2, rfl, by decide⟩
    refine ⟨_, _, rfl, rfl, ?_⟩
    refine ⟨_, rfl, _, _, rfl, ?_⟩
    refine ⟨_, rfl, by show 3 ≤ sizeLine; decide, fun p2 hp2 => ?_⟩
    have hu3 : Urn (upd H2 p2 (.tup [.str "came", .str "went", .str "new"])) u := by
      obtain ⟨a, b, c, z⟩ := hu2
      exact ⟨a, b, c, by rw [upd_ne (ne_of_none z hp2)]; exact z⟩
    refine ⟨u, p2, _, rfl, .of upd_same, by decide, by decide, hu3, fun j2 v2 H3 hj2 hu3 kb3 => ?_⟩
    obtain ⟨wd, rfl, hw⟩ : ∃ wd : Str, v2 = .str wd ∧ Word wd := by
      have hm := List.mem_of_getElem? hj2
      simp only [List.mem_cons, List.not_mem_nil, or_false] at hm
      rcases hm with rfl | rfl | rfl
      · exact ⟨_, rfl, .inl rfl⟩
      · exact ⟨_, rfl, .inr (.inr rfl)⟩
      · exact ⟨_, rfl, .inr (.inl rfl)⟩
    refine ⟨_, rfl, u, 999, rfl, by decide, by decide, hu3, fun k H4 k1 k2 hu4 kb4 => ?_⟩
    refine ⟨_, _, rfl, rfl, by show 3 ≤ sizeLine; decide, fun nt hnt => ?_⟩
    have kbA : But (· = u) H' H4 := (((Same.new hp1).but.trans kb2).new hp2 |>.trans kb3).trans kb4
    have ef4 := kbA f _ n1.symm ef
    have n2 : f ≠ nt := ne_of_none ef4 hnt
    refine ⟨_, rfl, .inl ⟨rfl, _, .of (by rw [upd_ne n2]; exact ef4)⟩, ?_⟩
    refine ⟨_, rfl, _, _, rfl, rfl, by show 1 ≤ sizeLine; decide, fun t1 ht1 => ?_⟩
    have n3 : nt ≠ t1 := fun e => by rw [← e, upd_same] at ht1; cases ht1
    refine ⟨_, rfl, t1, nt, _, _, rfl, rfl, .of upd_same, .of (by rw [upd_ne n3]; exact upd_same), by show 1 + 3 ≤ sizeLine; decide, (fun z => by cases z), (fun _ z => by cases z), fun _ _ p hp => ?_⟩
    have kbB : But (· = u) H' (upd (upd H4 nt (.tup [.int (if c + z > 1 then c + z else 1), .str wd, .int (1 + k)])) t1 (.tup [.int (0 + (i : Int) + 1)])) := (kbA.new hnt).new ht1
    have kbC := kbB.new (o := .tup ([.int (0 + (i : Int) + 1)] ++ [.int (if c + z > 1 then c + z else 1), .str wd, .int (1 + k)])) hp
    have efC := kbC f _ n1.symm ef
    have hxl : xs.length = i := by rw [DpAll.length hd, hL]
    refine ⟨f, xs, _, rfl, rfl, efC, ?_, ?_⟩
    · rw [hxl]
      exact Nat.lt_of_lt_of_le hi (Nat.le_trans h1 (by decide))
    · have n4 : f ≠ p := ne_of_none (kbB f _ n1.symm ef) hp
      have tkD : TupK H' (upd (upd (upd (upd H4 nt (.tup [.int (if c + z > 1 then c + z else 1), .str wd, .int (1 + k)])) t1 (.tup [.int (0 + (i : Int) + 1)])) p (.tup ([.int (0 + (i : Int) + 1)] ++ [.int (if c + z > 1 then c + z else 1), .str wd, .int (1 + k)]))) f (.lst (xs ++ [.ref p]))) := by
        refine But.tupK (S := fun a => a = u ∨ a = f) ((kbC.mono (T := fun a => a = u ∨ a = f) fun a h => .inl h).put (.inr rfl)) fun a ys ha => ?_
        rcases ha with ha | ha
        · obtain ⟨a', b', c', z'⟩ := hu'
          rw [ha]
          exact not_tup_lst z'
        · rw [ha]
          exact not_tup_lst ef
      obtain ⟨a4, b4, c4, z4⟩ := hu4
      have n5 : u ≠ nt := ne_of_none z4 hnt
      have z5 : upd H4 nt (.tup [.int (if c + z > 1 then c + z else 1), .str wd, .int (1 + k)]) u = some (.lst [.int a4, .int b4, .int c4]) := by rw [upd_ne n5]; exact z4
      have n6 : u ≠ t1 := ne_of_none z5 ht1
      have z6 : upd (upd H4 nt (.tup [.int (if c + z > 1 then c + z else 1), .str wd, .int (1 + k)])) t1 (.tup [.int (0 + (i : Int) + 1)]) u = some (.lst [.int a4, .int b4, .int c4]) := by rw [upd_ne n6]; exact z5
      have n7 : u ≠ p := ne_of_none z6 hp
      refine ⟨c + z, _, _, _, L ++ [tellD ((L.length : Int) + 1) (if c + z > 1 then c + z else 1) wd (1 + k)], rfl, by omega, by rw [List.length_append, hL]; rfl, htl.snoc (by split <;> omega) hw (by omega) (by omega), upd_same, ?_, ?_, ?_⟩
      · refine DpAll.app (Dp.keepAll tkD _ _ (tl_tells htl).imm hd) (.cons (.tup (.of (by rw [upd_ne n4.symm]; exact upd_same)) ?_) .nil)
        rw [hL, show ((i : Int) + 1) = 0 + (i : Int) + 1 by omega]
        exact .cons (.int _) (.cons (.int _) (.cons (.str _) (.cons (.int _) .nil)))
      · exact (kb.trans kbC).own hf
      · exact ⟨a4, b4, c4, by rw [upd_ne n1, upd_ne n7]; exact z6⟩
  · rintro σ H' ⟨c, x4, x5, xs, L, rfl, hc, hL, htl, ef, hd, kb, hu'⟩
    refine ⟨_, rfl, f, xs, rfl, .inl ⟨.of ef, fun p hp => ?_⟩⟩
    refine q p L _ hL htl (.tup (.of upd_same) (Dp.keepAll (Same.new hp).tupK _ _ (tl_tells htl).imm hd)) (kb.new hp) ?_
    obtain ⟨a, b, c, z⟩ := hu'
    exact ⟨a, b, c, by rw [upd_ne (ne_of_none z hp)]; exact z⟩
end
end K88
namespace K88
open PySem PySem.Spec PyProof.Rows L2
mutual
/-- no tuple within is long -/
def nar : PyData → Bool
  | .tuple ds => decide (ds.length ≤ 1000) && narAll ds
  | _ => true
def narAll : List PyData → Bool
  | [] => true
  | d :: ds => nar d && narAll ds
end
theorem immAll_get : ∀ {ds : List PyData} {d : PyData}, immAll ds = true → d ∈ ds → imm d = true
  | [], _, _, h => by cases h
  | e :: r, d, hi, h => by
    simp only [immAll, Bool.and_eq_true] at hi
    rcases List.mem_cons.mp h with rfl | h
    · exact hi.1
    · exact immAll_get hi.2 h
theorem narAll_get : ∀ {ds : List PyData} {d : PyData}, narAll ds = true → d ∈ ds → nar d = true
  | [], _, _, h => by cases h
  | e :: r, d, hi, h => by
    simp only [narAll, Bool.and_eq_true] at hi
    rcases List.mem_cons.mp h with rfl | h
    · exact hi.1
    · exact narAll_get hi.2 h
theorem layAll_get : ∀ {ds : List PyData} {d : PyData}, PyData.canLayAll0 ds = true → d ∈ ds → d.canLay0 = true
  | [], _, _, h => by cases h
  | e :: r, d, hi, h => by
    simp only [PyData.canLayAll0, Bool.and_eq_true] at hi
    rcases List.mem_cons.mp h with rfl | h
    · exact hi.1
    · exact layAll_get hi.2 h
theorem depthAll_get : ∀ {ds : List PyData} {d : PyData}, d ∈ ds → d.depth ≤ PyData.depthAll ds
  | [], _, h => by cases h
  | e :: r, d, h => by
    simp only [PyData.depthAll]
    rcases List.mem_cons.mp h with rfl | h
    · exact Nat.le_max_left _ _
    · exact Nat.le_trans (depthAll_get h) (Nat.le_max_right _ _)
theorem narAll_of : ∀ {ds : List PyData}, (∀ d ∈ ds, nar d = true) → narAll ds = true
  | [], _ => by simp [narAll]
  | d :: ds, h => by
    simp only [narAll, Bool.and_eq_true]
    exact ⟨h d List.mem_cons_self, narAll_of fun x hx => h x (List.mem_cons_of_mem _ hx)⟩
/-- data that _law_same can look at: no lists, no dicts, no long tuples -/
structure Plain (d : PyData) (n : Nat) : Prop where
  im : imm d = true
  na : nar d = true
  sh : SeqAt.shaped d = true
  dp : d.depth < n
theorem Plain.get {ds : List PyData} {n : Nat} (h : Plain (.tuple ds) (n + 1)) {d : PyData} (hd : d ∈ ds) : Plain d n where
  im := immAll_get (by simpa only [imm] using h.im) hd
  na := narAll_get (by have z := h.na; simp only [nar, Bool.and_eq_true] at z; exact z.2) hd
  sh := by
    have z := SeqAt.canLay_of_shaped h.sh
    simp only [PyData.canLay0] at z
    have y := SeqAt.depth_of_shaped h.sh
    simp only [PyData.depth] at y
    have x := depthAll_get hd
    exact Bool.and_eq_true_iff.mpr ⟨layAll_get z hd, decide_eq_true (by omega)⟩
  dp := by
    have y := h.dp
    simp only [PyData.depth] at y
    have x := depthAll_get hd
    omega
theorem Plain.eqv {d : PyData} {n : Nat} (h : Plain d n) : PyData.eqv d d = true := SeqAt.eqv_refl_plain d (PyData.plain_of_canLay0 d (SeqAt.canLay_of_shaped h.sh))
theorem Tells.plain {ds : List PyData} (h : Tells ds) (hl : ds.length ≤ 1000) : Plain (.tuple ds) 3 where
  im := by simp only [L2.imm]; exact h.imm
  na := by
    simp only [nar, Bool.and_eq_true]
    refine ⟨decide_eq_true hl, narAll_of fun d hd => ?_⟩
    obtain ⟨n, c, w, k, rfl, _⟩ := h d hd
    simp [tellD, nar, narAll]
  sh := h.shaped_t
  dp := by
    have z := depthAll_of (n := 1) (ds := ds) fun d hd => by
      obtain ⟨n, c, w, k, rfl, _⟩ := h d hd
      exact tell_depth _ _ _ _
    simp only [PyData.depth]
    omega
theorem plain_int (i : Int) : Plain (.int i) 3 where
  im := rfl
  na := rfl
  sh := rfl
  dp := by simp [PyData.depth]
/-- two that read as the same data, of nesting below n -/
def spSame (K : PySem.W.Frag) (n : Nat) : Sp := fun vs H Q _ => ∃ (x y : V) (d : PyData), vs = [x, y] ∧ Dp K H x d ∧ Dp K H y d ∧ Plain d n ∧ ∀ H', Same H H' → Q (.bl true) H'
theorem leaf_or {d : PyData} (h : imm d = true) : (∃ ds, d = .tuple ds) ∨ (∃ tn b1 b2, kitB tn "tuple" = some false ∧ kitB tn "bool" = some b1 ∧ kitB tn "int" = some b2 ∧ ∀ (K : PySem.W.Frag) (H : Hp) (x : V), Dp K H x d → TyX K H x (.type tn)) := by
  cases d with
  | tuple ds => exact .inl ⟨ds, rfl⟩
  | none => exact .inr ⟨"NoneType", false, false, by decide +kernel, by decide +kernel, by decide +kernel, fun K H x h => by cases h; exact .base .non⟩
  | bool b => exact .inr ⟨"bool", true, true, by decide +kernel, by decide +kernel, by decide +kernel, fun K H x h => by cases h; exact .base (.bl b)⟩
  | int b => exact .inr ⟨"int", false, true, by decide +kernel, by decide +kernel, by decide +kernel, fun K H x h => by cases h; exact .base (.int b)⟩
  | str b => exact .inr ⟨"str", false, false, by decide +kernel, by decide +kernel, by decide +kernel, fun K H x h => by cases h; exact .base (.str b)⟩
  | list ds => simp [imm] at h
  | dict ds => simp [imm] at h
section
variable {P : Program} {w : World} {K : PySem.W.Frag} {mg : Str → Option Value} {base : Heap}
theorem ok_law_same (T : Txt P K mg) : ∀ n : Nat, FnOk P w K mg base CX0 n T.f_law_same T.d_law_same ["one", "two"] (spSame K n)
  | 0 => ⟨fun vs H Q E h => by obtain ⟨x, y, d, _, _, _, h, _⟩ := h; have := h.dp; omega, fun A outer s H args us vs Q E _ _ _ _ h => by obtain ⟨x, y, d, _, _, _, h, _⟩ := h; have := h.dp; omega⟩
  | n + 1 => by
    have G := ok_law_same T n
    refine T.F_law_same.ok sc_law_same (fun vs H Q E h => by obtain ⟨x, y, d, rfl, _⟩ := h; rfl) (fun cdv A outer s H vs Q E hr h => ⟨_, (pss_cons (ps_if (PW.pt (pw_and (pt_val (pe_callB call_isi rfl T.z_isinstance (by decide +kernel) (pa_cons (pv 0) (pa_cons (pe_bltn (v := .ty "tuple") (u := .type "tuple") rfl T.z_tuple (by decide +kernel) rfl) pa_nil)))) (pw_and1 (pt_val (pe_callB call_isi rfl T.z_isinstance (by decide +kernel) (pa_cons (pv 1) (pa_cons (pe_bltn (v := .ty "tuple") (u := .type "tuple") rfl T.z_tuple (by decide +kernel) rfl) pa_nil)))))))
      (pss_one (ps_ret (pe_and (pe_cmpR op_eq (pe_callB call_len_seq rfl T.z_len (by decide +kernel) (pa_cons (pv 0) pa_nil)) (pe_callB call_len_seq rfl T.z_len (by decide +kernel) (pa_cons (pv 1) pa_nil)) (nomark _)) (pe_one (pe_callB (cr_all rfl) rfl T.z_all (by decide +kernel) (pa_cons (pe_lc (own := [("k", 2)]) (te := tCall (spSame K n) [] E0 (tCons (tOp (rIxT K) (tVar 0) (tVar 2)) (tCons (tOp (rIxT K) (tVar 1) (tVar 2)) tNil))) rfl sc_law_same.nd (pi_range1 rfl T.z_range (pa_cons (pe_callB call_len_seq rfl T.z_len (by decide +kernel) (pa_cons (pv 0) pa_nil)) pa_nil)) (blkOk_by (own := [("k", 2)]) (N := N_law_same) (sc := defScope s_law_same) (by decide +kernel)) (fun _ _ _ _ _ => (pg_name (i := 2) sc_law_same.nd rfl (by first | exact Or.inl rfl | exact Or.inr rfl))) (fun _ _ _ _ _ => (by exact pts_nil)) (fun _ _ _ _ _ => (by exact (pe_call G hr rfl T.g__law_same T.F_law_same.kp T.b_law_same .nil pass0 (pa_cons (pe_ix ix_tup (pv 0) (pv 2) (fun _ _ => rfl)) (pa_cons (pe_ix ix_tup (pv 1) (pv 2) (fun _ _ => rfl)) pa_nil)))))) pa_nil)))))) pss_nil)
      (pss_cons (ps_if (PW.pt (pw_or (pt_cmpR op_ne (pe_callB call_isi rfl T.z_isinstance (by decide +kernel) (pa_cons (pv 0) (pa_cons (pe_bltn (v := .ty "bool") (u := .type "bool") rfl T.z_bool (by decide +kernel) rfl) pa_nil))) (pe_callB call_isi rfl T.z_isinstance (by decide +kernel) (pa_cons (pv 1) (pa_cons (pe_bltn (v := .ty "bool") (u := .type "bool") rfl T.z_bool (by decide +kernel) rfl) pa_nil))) (nomark _)) (pw_or1 (pt_cmpR op_ne (pe_callB call_isi rfl T.z_isinstance (by decide +kernel) (pa_cons (pv 0) (pa_cons (pe_bltn (v := .ty "int") (u := .type "int") rfl T.z_int (by decide +kernel) rfl) pa_nil))) (pe_callB call_isi rfl T.z_isinstance (by decide +kernel) (pa_cons (pv 1) (pa_cons (pe_bltn (v := .ty "int") (u := .type "int") rfl T.z_int (by decide +kernel) rfl) pa_nil))) (nomark _)))))
      (pss_one (ps_ret pe_bl)) pss_nil)
      (pss_one (ps_ret (pe_and (pe_cmpR op_eq (pe_callB call_isi rfl T.z_isinstance (by decide +kernel) (pa_cons (pv 0) (pa_cons (pe_bltn (v := .ty "tuple") (u := .type "tuple") rfl T.z_tuple (by decide +kernel) rfl) pa_nil))) (pe_callB call_isi rfl T.z_isinstance (by decide +kernel) (pa_cons (pv 1) (pa_cons (pe_bltn (v := .ty "tuple") (u := .type "tuple") rfl T.z_tuple (by decide +kernel) rfl) pa_nil))) (nomark _)) (pe_one (pe_cmpR (op_eqD (hu64 hr)) (pv 0) (pv 1) (nomark _)))))))), ?_⟩)
    obtain ⟨x, y, d, rfl, h1, h2, hp, q⟩ := h
    rcases leaf_or hp.im with ⟨ds, rfl⟩ | ⟨tn, b1, b2, k1, k2, k3, hl⟩
    · cases h1 with
      | @tup a xs _ s1 d1 =>
      cases h2 with
      | @tup b ys _ s2 d2 =>
      have l1 := DpAll.length d1
      have l2 := DpAll.length d2
      have hlen : ds.length ≤ 1000 := by
        have z := hp.na
        simp only [nar, Bool.and_eq_true] at z
        exact of_decide_eq_true z.1
      refine ⟨_, rfl, _, _, _, _, true, rfl, .ty _, sqT_ty s1, kt (by decide +kernel), _, rfl, ?_⟩
      refine ⟨_, rfl, _, _, _, _, true, rfl, .ty _, sqT_ty s2, kt (by decide +kernel), _, rfl, ?_⟩
      refine ⟨_, rfl, a, xs, rfl, .inr s1, _, rfl, b, ys, rfl, .inr s2, rfl, _, rfl, iteB (by rw [l1, l2]; simp) ?_⟩
      refine ⟨_, rfl, a, xs, rfl, .inr s1, _, rfl, by omega, by omega, fun D hD => ?_⟩
      refine lc_range (n := xs.length) (fun i H' => H' D = some (.lst ((List.replicate i true).map V.bl)) ∧ Same H H') ⟨upd_same, Same.new hD⟩ ?_ ?_
      · rintro i H' hi ⟨e1, e2⟩
        have hx : xs[i]? = some xs[i] := List.getElem?_eq_getElem hi
        have hy : ys[i]? = some (ys[i]'(by omega)) := List.getElem?_eq_getElem (by omega)
        obtain ⟨d', g1, g2⟩ := DpAll.get d1 hx
        obtain ⟨d'', g3, g4⟩ := DpAll.get d2 hy
        rw [g1] at g3
        cases g3
        have hd' : d' ∈ ds := List.mem_of_getElem? g1
        have pl := hp.get hd'
        have i0 : (0 : Int) + (i : Int) = (i : Int) := by omega
        refine ⟨rfl, _, rfl, _, rfl, a, _, _, _, rfl, rfl, e2.sqT s1, (by rw [i0]; exact atI_nat hx), _, rfl, _, rfl, b, _, _, _, rfl, rfl, e2.sqT s2, (by rw [i0]; exact atI_nat hy), ?_⟩
        refine ⟨_, _, d', rfl, Dp.keep e2.tupK _ _ pl.im g2, Dp.keep e2.tupK _ _ pl.im g4, pl, fun H2 s2' => ?_⟩
        refine ⟨_, s2' _ _ e1, ?_, ?_, (e2.trans s2').own hD⟩
        · rw [List.length_map, List.length_replicate]
          exact Nat.lt_of_le_of_lt (show i ≤ 1000 by omega) (by decide)
        · rw [upd_same, List.replicate_succ', List.map_append]
          rfl
      · rintro H' ⟨e1, e2⟩
        refine ⟨D, List.replicate xs.length true, rfl, .of e1, ?_⟩
        exact of_dec (q H' e2) (by simp)
    · have t1 := hl K H x h1
      have t2 := hl K H y h2
      refine ⟨_, rfl, _, _, _, _, false, rfl, .ty _, t1, kt k1, _, rfl, ?_⟩
      refine ⟨_, rfl, _, _, _, _, b1, rfl, .ty _, t1, kt k2, _, rfl, _, _, _, _, b1, rfl, .ty _, t2, kt k2, rfl, _, rfl, iteB' (by simp) ?_⟩
      refine ⟨_, rfl, _, _, _, _, b2, rfl, .ty _, t1, kt k3, _, rfl, _, _, _, _, b2, rfl, .ty _, t2, kt k3, rfl, _, rfl, iteB' (by simp) ?_⟩
      refine ⟨_, rfl, _, _, _, _, false, rfl, .ty _, t1, kt k1, _, rfl, _, _, _, _, false, rfl, .ty _, t2, kt k1, rfl, _, rfl, iteB (by simp) ?_⟩
      exact ⟨_, rfl, _, rfl, d, d, h1, h2, hp.sh, hp.sh, of_dec (q H (Same.refl H)) hp.eqv⟩
/-- what was heard and what was due: a word, and data -/
def spHeard (K : PySem.W.Frag) : Sp := fun vs H Q _ => ∃ (a b : Addr) (z : Str) (x y : V) (d : PyData), vs = [.ref a, .ref b] ∧ SqL K H a [.str z, x] ∧ SqL K H b [.str z, y] ∧ Dp K H x d ∧ Dp K H y d ∧ Plain d 3 ∧ ∀ H', Same H H' → Q (.bl true) H'
theorem ok_law_heard (T : Txt P K mg) : FnOk P w K mg base CX0 4 T.f_law_heard T.d_law_heard ["heard", "due"] (spHeard K) := by
  refine T.F_law_heard.ok sc_law_heard (fun vs H Q E h => by obtain ⟨a, b, z, x, y, d, rfl, _⟩ := h; rfl) (fun cdv A outer s H vs Q E hr h => ⟨_, (pss_one (ps_ret (pe_and (pe_cmpR op_eq (pe_ix ix_list (pv 0) pe_int (fun _ _ => rfl)) (pe_ix ix_list (pv 1) pe_int (fun _ _ => rfl)) (nomark _)) (pe_one (pe_call (ok_law_same T 3) (hr.mono (by decide)) rfl T.g__law_same T.F_law_same.kp T.b_law_same .nil pass0 (pa_cons (pe_ix ix_list (pv 0) pe_int (fun _ _ => rfl)) (pa_cons (pe_ix ix_list (pv 1) pe_int (fun _ _ => rfl)) pa_nil))))))), ?_⟩)
  obtain ⟨a, b, z, x, y, d, rfl, h1, h2, h3, h4, h5, q⟩ := h
  refine ⟨_, rfl, a, _, _, _, rfl, rfl, h1, rfl, _, rfl, b, _, _, _, rfl, rfl, h2, rfl, rfl, _, rfl, iteB (by simp) ?_⟩
  exact ⟨_, rfl, a, _, _, _, rfl, rfl, h1, rfl, _, rfl, b, _, _, _, rfl, rfl, h2, rfl, _, _, d, rfl, h3, h4, h5, q⟩
end
end K88
namespace K88
open PySem PySem.Spec PyProof.Rows L2
/-- the model's two lists, at t and at wl -/
def ModOk (K : PySem.W.Frag) (H : Hp) (t wl : Addr) (L : List PyData) (m : Nat) (ws : List Int) : Prop :=
  ∃ val : Int → V, H t = some (.lst ((nums m).map val)) ∧ H wl = some (.lst (ws.map val)) ∧ ∀ n, n ∈ nums m ∨ n ∈ ws → Dp K H (val n) (nth L n)
theorem erase_map {α β : Type} (f : α → β) : ∀ (l : List α) (i : Nat), (l.map f).eraseIdx i = (l.eraseIdx i).map f
  | [], _ => by simp
  | _ :: _, 0 => by simp
  | a :: l, i + 1 => by simp [erase_map f l i]
theorem tell_inv {K : PySem.W.Frag} {H : Hp} {v : V} {n c : Int} {w : Str} {k : Int} (h : Dp K H v (tellD n c w k)) : ∃ p, v = .ref p ∧ SqT K H p [.int n, .int c, .str w, .int k] := by
  unfold tellD at h
  cases h with
  | @tup a xs _ hs ha =>
    cases ha with
    | cons h1 ha =>
      cases ha with
      | cons h2 ha =>
        cases ha with
        | cons h3 ha =>
          cases ha with
          | cons h4 ha =>
            cases ha
            cases h1
            cases h2
            cases h3
            cases h4
            exact ⟨a, rfl, hs⟩
def spDue (K : PySem.W.Frag) : Sp := fun vs H Q E => ∃ (md t wl v : Addr) (L : List PyData) (m : Nat) (ws : List Int) (n c : Int) (w : Str) (k : Int), vs = [.ref md, .ref v] ∧ H md = some (.lst [.ref t, .ref wl]) ∧ t ≠ wl ∧ ModOk K H t wl L m ws ∧ TL L ∧ L.length ≤ 100 ∧ St1 L m ws ∧
  SqT K H v [.int n, .int c, .str w, .int k] ∧ 1 ≤ n ∧ n ≤ L.length ∧ Word w ∧ (¬ Known m ws n → nth L n = tellD n c w k) ∧
  (nth L n = tellD n c w k → ∀ l p us H', But (fun a => a = t ∨ a = wl) H H' → H' l = some (.lst [.str "told", .ref p]) → SqT K H' p us → DpAll K H' us (((nums (nxt m ws n).1).drop m).map (nth L)) → ModOk K H' t wl L (nxt m ws n).1 (nxt m ws n).2 → Q (.ref l) H') ∧
  (nth L n ≠ tellD n c w k → ∀ l H', Same H H' → H' l = some (.lst [.str "clash", .int n]) → Q (.ref l) H')
/-- in the model's loop -/
def DueI (K : PySem.W.Frag) (H : Hp) (L : List PyData) (t wl : Addr) (v' : Int → V) (md v D : Addr) (m : Nat) (fin : Nat × List Int) (N : Nat) (i : Nat) (σ : L2.St) (H' : Hp) : Prop :=
  ∃ (m' : Nat) (ws' : List Int) (np : Addr) (x6 x7 : Option V), σ = [some (.ref md), some (.ref v), some (.ref t), some (.ref wl), some (.ref D), some (.ref np), x6, x7, none] ∧ m ≤ m' ∧ St0 L m' ws' ∧ run (N - i) m' ws' = fin ∧
    H' t = some (.lst ((nums m').map v')) ∧ H' wl = some (.lst (ws'.map v')) ∧ SqT K H' np (((nums m').drop m).map v') ∧ But (fun a => a = t ∨ a = wl) H H' ∧ ∀ j, j ∈ nums m' ∨ j ∈ ws' → Dp K H (v' j) (nth L j)
section
variable {P : Program} {w : World} {K : PySem.W.Frag} {mg : Str → Option Value} {base : Heap}
theorem ok_law_due (T : Txt P K mg) : FnOk P w K mg base CX0 1 T.f_law_due T.d_law_due ["model", "tell"] (spDue K) := by
  refine T.F_law_due.ok sc_law_due (fun vs H Q E h => by obtain ⟨md, t, wl, v, L, m, ws, n, c, w, k, rfl, _⟩ := h; rfl) (fun cdv A outer s H vs Q E hr h => ⟨_, (pss_cons (ps_asg (pv 0) (pg_lst rfl (pgs_cons (pg_name (i := 2) sc_law_due.nd rfl (by first | exact Or.inl rfl | exact Or.inr rfl)) (pgs_cons (pg_name (i := 3) sc_law_due.nd rfl (by first | exact Or.inl rfl | exact Or.inr rfl)) pgs_nil))))
      (pss_cons (ps_setLc (i := 4) (own := [("each", 8)]) (tt := tTest (tOp rEq (tOp (rIxT K) (tVar 8) (tC (.int 0))) (tOp (rIxT K) (tVar 1) (tC (.int 0))))) rfl sc_law_due.nd rfl rfl (sw_true rfl rfl rfl (by decide +kernel)) (pi_list (pe_op op_cat (pv 2) (pv 3))) (blkOk_by (own := [("each", 8)]) (N := N_law_due) (sc := defScope s_law_due) (by decide +kernel)) (fun _ _ _ _ _ => (pg_name (i := 8) sc_law_due.nd rfl (by first | exact Or.inl rfl | exact Or.inr rfl))) (fun _ _ _ _ _ => (by exact pts_one (pt_cmpR op_eq (pe_ix ix_tup (pv 8) pe_int (fun _ _ => rfl)) (pe_ix ix_tup (pv 1) pe_int (fun _ _ => rfl)) (nomark _)))) (fun _ _ _ _ _ => (by exact (pv 8))))
      (pss_cons (ps_if (pt_cmpR (op_neD (hu64 hr)) (pv 4) (pe_lst pa_nil) (nomark _))
      (pss_one (ps_ret (pe_ifExp (pt_cmpR (op_eqD (hu64 hr)) (pe_ix ix_list (pv 4) pe_int (fun _ _ => rfl)) (pv 1) (nomark _)) (pe_lst (pa_cons pe_str (pa_cons (pe_tup pa_nil) pa_nil))) (pe_lst (pa_cons pe_str (pa_cons (pe_ix ix_tup (pv 1) pe_int (fun _ _ => rfl)) pa_nil)))))) pss_nil)
      (pss_cons (ps_expr (pe_bm PySem.F.plainAttrs_list PySem.F.slot_list_append PySem.F.type_list_append mt_append (pv 3) (pa_cons (pv 1) pa_nil)))
      (pss_cons (ps_set (i := 5) sc_law_due.nd rfl (Or.inl rfl) (pe_tup pa_nil))
      (pss_cons (ps_for PassesOwn.never rfl (pi_range1 rfl T.z_range (pa_cons (pe_callB call_len_seq rfl T.z_len (by decide +kernel) (pa_cons (pv 3) pa_nil)) pa_nil)) (pg_name (i := 6) sc_law_due.nd rfl (by first | exact Or.inl rfl | exact Or.inr rfl))
      (pss_cons (ps_setLc (i := 7) (own := [("each", 8)]) (tt := tTest (tOp rEq (tOp (rIxT K) (tVar 8) (tC (.int 0))) (tOp (rI0 fun i j => .int (i + j)) (tCB (rLenS K) (tCons (tVar 2) tNil)) (tC (.int 1))))) rfl sc_law_due.nd rfl rfl (sw_true rfl rfl rfl (by decide +kernel)) (pi_list (pv 3)) (blkOk_by (own := [("each", 8)]) (N := N_law_due) (sc := defScope s_law_due) (by decide +kernel)) (fun _ _ _ _ _ => (pg_name (i := 8) sc_law_due.nd rfl (by first | exact Or.inl rfl | exact Or.inr rfl))) (fun _ _ _ _ _ => (by exact pts_one (pt_cmpR op_eq (pe_ix ix_tup (pv 8) pe_int (fun _ _ => rfl)) (pe_op op_add (pe_callB call_len_seq rfl T.z_len (by decide +kernel) (pa_cons (pv 2) pa_nil)) pe_int) (nomark _)))) (fun _ _ _ _ _ => (by exact (pv 8))))
      (pss_one (ps_if (pt_cmpR (op_neD (hu64 hr)) (pv 7) (pe_lst pa_nil) (nomark _))
      (pss_cons (ps_expr (pe_bm PySem.F.plainAttrs_list PySem.F.slot_list_append PySem.F.type_list_append mt_append (pv 2) (pa_cons (pe_ix ix_list (pv 7) pe_int (fun _ _ => rfl)) pa_nil)))
      (pss_cons (ps_expr (pe_bm PySem.F.plainAttrs_list PySem.F.slot_list_remove PySem.F.type_list_remove (mt_removeD (hu66 hr)) (pv 3) (pa_cons (pe_ix ix_list (pv 7) pe_int (fun _ _ => rfl)) pa_nil)))
      (pss_one (ps_set (i := 5) sc_law_due.nd rfl (Or.inl rfl) (pe_op op_catA (pv 5) (pe_tup (pa_cons (pe_ix ix_list (pv 7) pe_int (fun _ _ => rfl)) pa_nil))))))) pss_nil))))
      (pss_one (ps_ret (pe_lst (pa_cons pe_str (pa_cons (pv 5) pa_nil))))))))))), ?_⟩)
  obtain ⟨md, t, wl, v, L, m, ws, n, c, wd, k, rfl, hmd, ntw, ⟨val, hT, hW, hdp⟩, hL, hz, hst, hv, g1, g2, g4, hk, q1, q2⟩ := h
  refine ⟨_, rfl, md, _, rfl, .of hmd, rfl, _, _, rfl, _, _, rfl, rfl, ?_⟩
  have hno : ∀ {j : Int}, j ∈ nums m ∨ j ∈ ws → 1 ≤ j ∧ j ≤ L.length := by
    rintro j (hj | hj)
    · have z := mem_nums.mp hj
      have := hst.le
      omega
    · have z1 := hst.gt j hj
      have z2 := hst.up j hj
      omega
  have himm : ∀ {j : Int}, 1 ≤ j ∧ j ≤ L.length → imm (nth L j) = true ∧ SeqAt.shaped (nth L j) = true := by
    intro j hj
    obtain ⟨c', w', k', e, _, hw, _⟩ := hL j hj.1 hj.2
    rw [e]
    exact ⟨tell_imm _ _ _ _, tell_shaped hw⟩
  have hdv : Dp K H (.ref v) (tellD n c wd k) := .tup hv (.cons (.int _) (.cons (.int _) (.cons (.str _) (.cons (.int _) .nil))))
  have heq : nth L n = tellD n c wd k → PyData.eqv (nth L n) (tellD n c wd k) = true := fun h => by rw [h, eqv_tell]; simp
  have hne : nth L n ≠ tellD n c wd k → PyData.eqv (nth L n) (tellD n c wd k) = false := fun h => by
    obtain ⟨c', w', k', e, _⟩ := hL n g1 g2
    rw [e] at h ⊢
    rw [eqv_tell]
    exact decide_eq_false fun z => h (by rw [z.2.1, z.2.2.1, z.2.2.2])
  have hlw : ws.length ≤ 100 := by
    have z := List.Nodup.length_le_of_subset (l₂ := nums L.length) hst.nd (fun j hj => mem_nums.mpr (hno (.inr hj)))
    rw [nums_len] at z
    omega
  have hlm : m ≤ 100 := by have := hst.le; omega
  refine ⟨_, rfl, _, rfl, t, wl, _, _, rfl, rfl, hT, hW, ?_, fun p hp => ?_⟩
  · rw [List.length_map, List.length_map, nums_len]
    exact Nat.le_trans (show m + ws.length ≤ 1000 by omega) (by decide)
  refine ⟨p, rfl, ⟨_, .of upd_same⟩, fun D hD => ?_⟩
  have hnl : (nums m ++ ws).length < sizeLine := by
    rw [List.length_append, nums_len]
    exact Nat.lt_of_le_of_lt (show m + ws.length ≤ 1000 by omega) (by decide)
  have sp : Same H (upd H p (.lst ((nums m).map val ++ ws.map val))) := Same.new hp
  refine lc_filter (K := K) (a := p) (val := val) (ns := nums m ++ ws) (n := n) (s := 8) (.of (by rw [List.map_append]; exact upd_same)) hD hnl ?_ (fun x => rfl) (fun x H' Q q => ⟨_, rfl, q⟩) ?_
  · intro j hj H' Q' s2 hq
    have hj' := List.mem_append.mp hj
    have s3 := sp.trans s2
    obtain ⟨c', w', k', e, _⟩ := hL j (hno hj').1 (hno hj').2
    obtain ⟨pj, ej, hpj⟩ := tell_inv (e ▸ hdp j hj')
    rw [ej]
    refine ⟨_, rfl, pj, _, _, _, rfl, rfl, s3.sqT hpj, rfl, _, rfl, v, _, _, _, rfl, rfl, s3.sqT hv, rfl, rfl, _, rfl, ?_⟩
    rw [dec_vint]
    exact hq
  intro H1 e1 s1'
  have s1 := sp.trans s1'
  have hkn : Known m ws n ↔ n ∈ nums m ++ ws := by
    rw [List.mem_append, mem_nums]
    unfold Known
    constructor
    · rintro (h | h)
      · exact .inl ⟨g1, h⟩
      · exact .inr h
    · rintro (h | h)
      · exact .inl h.2
      · exact .inr h
  have hnd : (nums m ++ ws).Nodup := by
    rw [List.nodup_append]
    refine ⟨nums_nodup m, hst.nd, fun a ha b hb e => ?_⟩
    have z1 := (mem_nums.mp ha).2
    have z2 := hst.gt b hb
    omega
  refine ⟨_, rfl, Nat.zero_le _, fun e he => ?_⟩
  have s2 : Same H (upd H1 e (.lst [])) := s1.step he
  have nDe : D ≠ e := ne_of_none e1 he
  have e1' : upd H1 e (.lst []) D = some (.lst (((nums m ++ ws).filter fun k => decide (k = n)).map val)) := by rw [upd_ne nDe]; exact e1
  by_cases hK : Known m ws n
  · rw [filter_one hnd (hkn.mp hK)] at e1'
    have hn' : n ∈ nums m ∨ n ∈ ws := List.mem_append.mp (hkn.mp hK)
    have hdn := Dp.keep s2.tupK _ _ (himm (hno hn')).1 (hdp n hn')
    have hdv2 := Dp.keep s2.tupK _ _ (tell_imm _ _ _ _) hdv
    have hsh : SeqAt.shaped (.list [nth L n]) = true := Tells.shaped_l (fun d hd => by
      rw [List.mem_singleton] at hd
      subst hd
      obtain ⟨c', w', k', e, _, hw, _⟩ := hL n g1 g2
      exact ⟨n, c', w', k', e, hw⟩)
    refine ⟨.list [nth L n], .list [], .lst (.of e1') (.cons hdn .nil), .lst (.of upd_same) .nil, hsh, by rfl, _, rfl, iteB (by simp [PyData.eqv, PyData.eqvAll]) ?_⟩
    refine ⟨_, rfl, D, _, _, _, rfl, rfl, .of e1', rfl, _, rfl, _, _, hdn, hdv2, (himm ⟨g1, g2⟩).2, tell_shaped g4, _, rfl, ?_⟩
    by_cases hd : nth L n = tellD n c wd k
    · refine iteB (heq hd) ?_
      refine ⟨Nat.zero_le _, fun pp hpp => ⟨by show 2 ≤ sizeLine; decide, fun l hl => ?_⟩⟩
      have s4 := (s2.step (o := .tup []) hpp).step (o := .lst [.str "told", .ref pp]) hl
      have npl : pp ≠ l := fun z => by rw [← z, upd_same] at hl; cases hl
      have hnx : nxt m ws n = (m, ws) := if_pos hK
      refine q1 hd l pp [] _ s4.but upd_same (.of (by rw [upd_ne npl]; exact upd_same)) ?_ ?_
      · rw [hnx, List.drop_eq_nil_of_le (by rw [nums_len]; exact Nat.le_refl _)]
        exact .nil
      · rw [hnx]
        exact ⟨val, s4 _ _ hT, s4 _ _ hW, fun j hj => Dp.keep s4.tupK _ _ (himm (hno hj)).1 (hdp j hj)⟩
    · refine iteB' (hne hd) ?_
      refine ⟨_, rfl, v, _, _, _, rfl, rfl, s2.sqT hv, rfl, by show 2 ≤ sizeLine; decide, fun l hl => ?_⟩
      exact q2 hd l _ (s2.step hl) upd_same
  · rw [filter_none (fun h => hK (hkn.mpr h))] at e1'
    refine ⟨.list [], .list [], .lst (.of e1') .nil, .lst (.of upd_same) .nil, by rfl, by rfl, _, rfl, iteB' (by simp [PyData.eqv, PyData.eqvAll]) ?_⟩
    have hnn : ¬ n ∈ nums m ++ ws := fun h => hK (hkn.mpr h)
    have hnm : ¬ n ∈ nums m := fun h => hnn (List.mem_append_left _ h)
    have hnw : ¬ n ∈ ws := fun h => hnn (List.mem_append_right _ h)
    have hd := hk hK
    have hnx : nxt m ws n = run (ws.length + 1) m (ws ++ [n]) := if_neg hK
    have hT2 := s2 _ _ hT
    have hW2 := s2 _ _ hW
    refine ⟨_, rfl, .inl ⟨rfl, _, .of hW2⟩, _, rfl, wl, _, _, rfl, rfl, hW2, ?_, ?_⟩
    · rw [List.length_map]
      exact Nat.lt_of_le_of_lt hlw (by decide)
    refine ⟨Nat.zero_le _, fun np0 hnp0 => ?_⟩
    have hTa : upd (upd H1 e (.lst [])) wl (.lst (ws.map val ++ [.ref v])) t = some (.lst ((nums m).map val)) := by rw [upd_ne ntw]; exact hT2
    have nwn : wl ≠ np0 := fun z => by rw [← z, upd_same] at hnp0; cases hnp0
    have ntn : t ≠ np0 := ne_of_none hTa hnp0
    have hWb : upd (upd (upd H1 e (.lst [])) wl (.lst (ws.map val ++ [.ref v]))) np0 (.tup []) wl = some (.lst (ws.map val ++ [.ref v])) := by rw [upd_ne nwn]; exact upd_same
    have hlen1 : (ws.map val ++ [V.ref v]).length = ws.length + 1 := by rw [List.length_append, List.length_map]; rfl
    have hv1 : ∀ l : List Int, ¬ n ∈ l → l.map val = l.map fun j => if j = n then V.ref v else val j := fun l hl => List.map_congr_left fun j hj => by
      rw [if_neg]
      intro z
      exact hl (z ▸ hj)
    have hkT : ∀ {H' : Hp}, But (fun a => a = t ∨ a = wl) H H' → TupK H H' := fun kb => kb.tupK fun a xs ha => by
      rcases ha with ha | ha
      · rw [ha]; exact not_tup_lst hT
      · rw [ha]; exact not_tup_lst hW
    refine ⟨_, rfl, wl, _, rfl, .inl (.of hWb), _, rfl, by rw [hlen1]; omega, by rw [hlen1]; omega, ?_⟩
    refine for_range (lo := 0) (n := (ws.map val ++ [V.ref v]).length) (DueI K H L t wl (fun j => if j = n then V.ref v else val j) md v D m (nxt m ws n) (ws.length + 1)) ?_ ?_ ?_
    · refine ⟨m, ws ++ [n], np0, none, none, rfl, Nat.le_refl _, hst.toSt0.add hK g2, by rw [hnx]; rfl, ?_, ?_, ?_, ?_, ?_⟩
      · rw [upd_ne ntn, hTa, hv1 _ hnm]
      · rw [hWb, List.map_append, hv1 _ hnw]
        simp
      · refine .of ?_
        rw [upd_same, List.drop_eq_nil_of_le (by rw [nums_len]; exact Nat.le_refl _)]
        rfl
      · exact ((s2.but (S := fun a => a = t ∨ a = wl)).put (.inr rfl)).new hnp0
      · intro j hj
        show Dp K H (if j = n then V.ref v else val j) (nth L j)
        by_cases e : j = n
        · rw [if_pos e, e, hd]
          exact hdv
        · rw [if_neg e]
          refine hdp j ?_
          rcases hj with hj | hj
          · exact .inl hj
          · rcases List.mem_append.mp hj with hj | hj
            · exact .inr hj
            · exact absurd (List.mem_singleton.mp hj) e
    · rintro i σ H' hi ⟨m', ws', np, x6, x7, rfl, hmm, hs', hrun, eT, eW, eN, kb, hdp'⟩
      rw [hlen1] at hi
      have hnn' : ∀ {j : Int}, j ∈ nums m' ∨ j ∈ ws' → 1 ≤ j ∧ j ≤ L.length := by
        rintro j (hj | hj)
        · have z := mem_nums.mp hj
          have := hs'.le
          omega
        · have z1 := hs'.gt j hj
          have z2 := hs'.up j hj
          omega
      have hlw' : ws'.length ≤ 100 := by
        have z := List.Nodup.length_le_of_subset (l₂ := nums L.length) hs'.nd (fun j hj => mem_nums.mpr (hnn' (.inr hj)))
        rw [nums_len] at z
        omega
      have hlm' : m' ≤ 100 := by have := hs'.le; omega
      refine ⟨_, rfl, wl, rfl, ⟨_, .of eW⟩, fun D2 hD2 => ?_⟩
      refine lc_filter (K := K) (a := wl) (val := fun j => if j = n then V.ref v else val j) (ns := ws') (n := (m' : Int) + 1) (s := 8) (.of eW) hD2 (Nat.lt_of_le_of_lt hlw' (by decide)) ?_ (fun x => rfl) (fun x H' Q q => ⟨_, rfl, q⟩) ?_
      · intro j hj H2 Q' s4 hq
        obtain ⟨c', w', k', e, _⟩ := hL j (hnn' (.inr hj)).1 (hnn' (.inr hj)).2
        have hh : Dp K H (if j = n then V.ref v else val j) (nth L j) := hdp' j (.inr hj)
        obtain ⟨pj, ej, hpj⟩ := tell_inv (e ▸ hh)
        show tTest _ ((wipe _ [8]).set 8 (some (if j = n then V.ref v else val j))) H2 Q'
        rw [ej]
        refine ⟨_, rfl, pj, _, _, _, rfl, rfl, s4.sqT ((hkT kb).sqT hpj), rfl, _, rfl, t, _, rfl, .inl (.of (s4 _ _ eT)), _, _, rfl, rfl, rfl, _, rfl, ?_⟩
        rw [dec_vint, List.length_map, nums_len]
        exact hq
      intro H2 eD s4
      refine ⟨_, rfl, Nat.zero_le _, fun e2 he2 => ?_⟩
      have s5 : Same H' (upd H2 e2 (.lst [])) := s4.step he2
      have nD2 : D2 ≠ e2 := ne_of_none eD he2
      have eD' : upd H2 e2 (.lst []) D2 = some (.lst ((ws'.filter fun k => decide (k = (m' : Int) + 1)).map fun j => if j = n then V.ref v else val j)) := by rw [upd_ne nD2]; exact eD
      by_cases hin : (m' : Int) + 1 ∈ ws'
      · rw [filter_one hs'.nd hin] at eD'
        have hmn := hnn' (.inr hin)
        have kb5 := kb.trans s5.but
        have hdm : Dp K (upd H2 e2 (.lst [])) (if (m' : Int) + 1 = n then V.ref v else val ((m' : Int) + 1)) (nth L ((m' : Int) + 1)) := Dp.keep (hkT kb5) _ _ (himm hmn).1 (hdp' _ (.inr hin))
        generalize hvm : (if (m' : Int) + 1 = n then V.ref v else val ((m' : Int) + 1)) = vm at hdm
        have eD6 : ((upd H2 e2 (.lst [])) D2 : Option HO) = some (.lst [vm]) := by rw [eD', ← hvm]; rfl
        have hsh : SeqAt.shaped (.list [nth L ((m' : Int) + 1)]) = true := Tells.shaped_l (fun d hd => by
          rw [List.mem_singleton] at hd
          subst hd
          obtain ⟨c', w', k', e, _, hw, _⟩ := hL _ hmn.1 hmn.2
          exact ⟨_, c', w', k', e, hw⟩)
        refine ⟨.list [nth L ((m' : Int) + 1)], .list [], .lst (.of eD6) (.cons hdm .nil), .lst (.of upd_same) .nil, hsh, by rfl, _, rfl, iteB (by simp [PyData.eqv, PyData.eqvAll]) ?_⟩
        have eT5 := s5 _ _ eT
        have eW5 := s5 _ _ eW
        have nDt : D2 ≠ t := fun z => by rw [z, eT] at hD2; cases hD2
        have nDw : D2 ≠ wl := fun z => by rw [z, eW] at hD2; cases hD2
        refine ⟨_, rfl, .inl ⟨rfl, _, .of eT5⟩, _, rfl, D2, _, _, _, rfl, rfl, .of eD6, rfl, t, _, _, rfl, rfl, eT5, ?_, ?_⟩
        · rw [List.length_map, nums_len]
          exact Nat.lt_of_le_of_lt hlm' (by decide)
        obtain ⟨jx, hj1, hj2⟩ := place_ws hL (n := (m' : Int) + 1) (ws := ws') (fun k hk => hnn' (.inr hk)) hin
        have kbx : But (fun a => a = t ∨ a = wl) H (upd (upd H2 e2 (.lst [])) t (.lst (((nums m').map fun j => if j = n then V.ref v else val j) ++ [vm]))) := kb5.put (.inl rfl)
        have hWx : upd (upd H2 e2 (.lst [])) t (.lst (((nums m').map fun j => if j = n then V.ref v else val j) ++ [vm])) wl = some (.lst (ws'.map fun j => if j = n then V.ref v else val j)) := by rw [upd_ne ntw.symm]; exact eW5
        have hDx : upd (upd H2 e2 (.lst [])) t (.lst (((nums m').map fun j => if j = n then V.ref v else val j) ++ [vm])) D2 = some (.lst [vm]) := by rw [upd_ne nDt]; exact eD6
        have htw : Tells (ws'.map (nth L)) := nth_tells hL fun k hk => hnn' (.inr hk)
        refine ⟨_, rfl, .inl ⟨rfl, _, .of hWx⟩, _, rfl, D2, _, _, _, rfl, rfl, .of hDx, rfl, wl, _, ws'.map (nth L), vm, nth L ((m' : Int) + 1), jx, rfl, rfl, hWx, ?_, ?_, htw.shaped_l, (himm hmn).2, hj1, ?_⟩
        · exact dpAll_map fun k hk => Dp.keep (hkT kbx) _ _ (himm (hnn' (.inr hk))).1 (hdp' k (.inr hk))
        · have z : Dp K _ (if (m' : Int) + 1 = n then V.ref v else val ((m' : Int) + 1)) (nth L ((m' : Int) + 1)) := Dp.keep (hkT kbx) _ _ (himm hmn).1 (hdp' _ (.inr hin))
          rw [hvm] at z
          exact z
        rw [erase_map, hj2]
        have kby := kbx.put (o := .lst ((ws'.erase ((m' : Int) + 1)).map fun j => if j = n then V.ref v else val j)) (p := wl) (.inr rfl)
        have hDy : upd (upd (upd H2 e2 (.lst [])) t (.lst (((nums m').map fun j => if j = n then V.ref v else val j) ++ [vm]))) wl (.lst ((ws'.erase ((m' : Int) + 1)).map fun j => if j = n then V.ref v else val j)) D2 = some (.lst [vm]) := by rw [upd_ne nDw]; exact hDx
        have hNy : SqT K (upd (upd (upd H2 e2 (.lst [])) t (.lst (((nums m').map fun j => if j = n then V.ref v else val j) ++ [vm]))) wl (.lst ((ws'.erase ((m' : Int) + 1)).map fun j => if j = n then V.ref v else val j))) np (((nums m').drop m).map fun j => if j = n then V.ref v else val j) := by
          refine TupK.sqT ?_ eN
          refine But.tupK (S := fun a => a = t ∨ a = wl) ((s5.but.put (.inl rfl)).put (.inr rfl)) fun a xs ha => ?_
          rcases ha with ha | ha
          · rw [ha]; exact not_tup_lst eT
          · rw [ha]; exact not_tup_lst eW
        have hdr : ((nums (m' + 1)).drop m).map (fun j => if j = n then V.ref v else val j) = (((nums m').drop m).map fun j => if j = n then V.ref v else val j) ++ [vm] := by
          rw [nums_succ, List.drop_append_of_le_length (by rw [nums_len]; exact hmm), List.map_append, ← hvm]
          rfl
        have fin : ∀ (np' : Addr) (x7' : Option V) (x6' : Option V) (Hf : Hp), Same (upd (upd (upd H2 e2 (.lst [])) t (.lst (((nums m').map fun j => if j = n then V.ref v else val j) ++ [vm]))) wl (.lst ((ws'.erase ((m' : Int) + 1)).map fun j => if j = n then V.ref v else val j))) Hf →
            SqT K Hf np' (((nums (m' + 1)).drop m).map fun j => if j = n then V.ref v else val j) →
            DueI K H L t wl (fun j => if j = n then V.ref v else val j) md v D m (nxt m ws n) (ws.length + 1) (i + 1) [some (.ref md), some (.ref v), some (.ref t), some (.ref wl), some (.ref D), some (.ref np'), x6', x7', none] Hf := fun np' x7' x6' Hf sf hq => by
          refine ⟨m' + 1, ws'.erase ((m' : Int) + 1), np', _, _, rfl, by omega, hs'.step hin, ?_, sf _ _ ?_, sf _ _ upd_same, hq, kby.trans sf.but, fun j hj => hdp' j ?_⟩
          · rw [← hrun, show ws.length + 1 - i = (ws.length + 1 - (i + 1)) + 1 by omega, run_go hin]
          · rw [upd_ne ntw, upd_same, nums_succ, List.map_append, ← hvm]
            rfl
          · rcases hj with hj | hj
            · have z := mem_nums.mp hj
              by_cases e : j = (m' : Int) + 1
              · exact .inr (e ▸ hin)
              · exact .inl (mem_nums.mpr ⟨z.1, by omega⟩)
            · exact .inr (List.mem_of_mem_erase hj)
        refine ⟨_, rfl, _, rfl, D2, _, _, _, rfl, rfl, .of hDy, rfl, by show 1 ≤ sizeLine; decide, fun t1 ht1 => ?_⟩
        refine ⟨np, t1, _, _, rfl, rfl, (Same.new ht1).sqT hNy, .of upd_same, ?_, fun hz => ?_, (fun _ hz => by cases hz), fun _ _ pp hpp => ?_⟩
        · rw [List.length_map, List.length_drop, nums_len]
          exact Nat.le_trans (show m' - m + 1 ≤ 1000 by omega) (by decide)
        · refine fin t1 _ _ _ (Same.new ht1) ?_
          rw [hdr, hz]
          exact .of upd_same
        · refine fin pp _ _ _ ((Same.new ht1).step hpp) ?_
          rw [hdr]
          exact .of upd_same
      · rw [filter_none hin] at eD'
        refine ⟨.list [], .list [], .lst (.of eD') .nil, .lst (.of upd_same) .nil, by rfl, by rfl, _, rfl, iteB' (by simp [PyData.eqv, PyData.eqvAll]) ?_⟩
        refine ⟨m', ws', np, _, _, rfl, hmm, hs', ?_, s5 _ _ eT, s5 _ _ eW, s5.sqT eN, kb.trans s5.but, hdp'⟩
        rw [← hrun, run_stop hin, run_stop hin]
    · rintro σ H' ⟨m', ws', np, x6, x7, rfl, hmm, hs', hrun, eT, eW, eN, kb, hdp'⟩
      rw [hlen1, Nat.sub_self] at hrun
      have e1 : (nxt m ws n).1 = m' := by rw [← hrun]; rfl
      have e2 : (nxt m ws n).2 = ws' := by rw [← hrun]; rfl
      have hnn' : ∀ {j : Int}, j ∈ nums m' ∨ j ∈ ws' → 1 ≤ j ∧ j ≤ L.length := by
        rintro j (hj | hj)
        · have z := mem_nums.mp hj
          have := hs'.le
          omega
        · have z1 := hs'.gt j hj
          have z2 := hs'.up j hj
          omega
      refine ⟨_, rfl, by show 2 ≤ sizeLine; decide, fun l hl => ?_⟩
      have sl := Same.new (o := .lst [.str "told", .ref np]) hl
      have kbl := kb.trans sl.but
      refine q1 hd l np _ _ kbl upd_same (sl.sqT eN) ?_ ?_
      · rw [e1]
        exact dpAll_map fun j hj => Dp.keep (hkT kbl) _ _ (himm (hnn' (.inl (List.mem_of_mem_drop hj)))).1 (hdp' j (.inl (List.mem_of_mem_drop hj)))
      · rw [e1, e2]
        exact ⟨_, sl _ _ eT, sl _ _ eW, fun j hj => Dp.keep (hkT kbl) _ _ (himm (hnn' hj)).1 (hdp' j hj)⟩
end
end K88
namespace K88
open PySem PySem.Spec PyProof.Rows L2
def spLawTake (K : PySem.W.Frag) (C : Addr) : Sp := fun vs H Q E => ∃ (r dx ed v : Addr) (L : List PyData) (m : Nat) (ws : List Int) (n c : Int) (w : Str) (k : Int) (b : Bool), vs = [.ref r, .ref v, .bl b] ∧ RecOk K C H r dx ed L m ws ∧ TL L ∧ L.length ≤ 100 ∧ St1 L m ws ∧
  SqT K H v [.int n, .int c, .str w, .int k] ∧ 1 ≤ n ∧ n ≤ L.length ∧ 1 ≤ c ∧ Word w ∧ 1 ≤ k ∧ k ≤ 999 ∧ (¬ Known m ws n → nth L n = tellD n c w k) ∧
  (nth L n = tellD n c w k → ∀ l p us H', But (fun a => a = r ∨ a = ed) H H' → H l = none → H' l = some (.lst [.str "told", .ref p]) → SqT K H' p us → DpAll K H' us (((nums (nxt m ws n).1).drop m).map (nth L)) → RecOk K C H' r dx ed L (nxt m ws n).1 (nxt m ws n).2 → Q (.ref l) H') ∧
  (nth L n ≠ tellD n c w k → ∀ l H', Same H H' → H l = none → H' l = some (.lst [.str "clash", .int n]) → Q (.ref l) H')
section
variable {P : Program} {w : World} {K : PySem.W.Frag} {mg : Str → Option Value} {base : Heap}
theorem ok_law_take (T : Txt P K mg) : FnOk P w K mg base CX0 7 T.f_law_take T.d_law_take ["receiver", "tell", "is_named"] (spLawTake K T.C_Receiver) := by
  refine T.F_law_take.ok sc_law_take (fun vs H Q E h => by obtain ⟨r, dx, ed, v, L, m, ws, n, c, w, k, b, rfl, _⟩ := h; rfl) (fun cdv A outer s H vs Q E hr h => ⟨_, pss_one (ps_try_as (i := 3)
    (tb := fun W => tRet (tLst (tCons (tC (.str "told")) (tCons (tIf (tB (tVar 2)) (tMethKS T.C_Receiver "take" (spTake K T.C_Receiver T.C_Clash) (fun us ws => kbG 1 1 us ws) (WE W) (tVar 0) (tCons (tVar 1) tNil)) (tMethPS T.C_Receiver "take" (spTake K T.C_Receiver T.C_Clash) (WE W) (tVar 0) (tCons (tVar 1) tNil))) tNil))))
    (ts := fun a cls d => tRet (tLst (tCons (tC (.str "clash")) (tCons (tBySup T.C_Clash "number" a cls d (tVar 3)) tNil)))) (Wout := fun _ _ _ _ => False) rfl rfl sc_law_take.nd rfl rfl ⟨rfl, by decide, Or.inl T.e_Clash.gC⟩ takes0
    (fun W pn xe tk _ => pss_one (ps_ret (by exact (pe_lst (pa_cons pe_str (pa_cons (pe_ifExp (pt_val (pv 2)) (pe_methKS (pv 0) T.cl_Receiver T.me_Receiver_take (ok_Receiver_take T) (hr.mono (by decide)) T.kb_Receiver_take_tell (fun σ => passAt tk σ) (by exact (pk_cons (pv 1) pk_nil))) (pe_methPS (pv 0) T.cl_Receiver T.me_Receiver_take (ok_Receiver_take T) (hr.mono (by decide)) T.b_Receiver_take (fun σ => passAt tk σ) (by exact (pa_cons (pv 1) pa_nil)))) pa_nil))))))
    (fun a oe cls d pn hz hf => pss_one (ps_ret (by exact (pe_lst (pa_cons pe_str (pa_cons (pe_bySup T.e_Clash hz hf (pv 3)) pa_nil))))))), ?_⟩)
  obtain ⟨r, dx, ed, v, L, m, ws, n, c, wd, k, b, rfl, h1, h2, h3, h4, h5, h6, h7, h8, h9, h10, h11, h12, q1, q2⟩ := h
  refine ⟨_, rfl, b, rfl, ?_⟩
  have noT : ∀ d e : V, (RF d e).lookup ("take" : Str) = none := fun d e => rf_no d e (by decide +kernel) (by decide +kernel)
  obtain ⟨dn, val, hr1, _⟩ := id h1
  have pr : spTake K T.C_Receiver T.C_Clash [.ref r, .ref v] H (fun x H1 => tLst (tCons (tC (.str "told")) (tCons (tC x) tNil)) [some (.ref r), some (.ref v), some (.bl b), none] H1 Q) (WE (wAs K (.ref T.C_Clash) 3 (fun a cls d => tRet (tLst (tCons (tC (.str "clash")) (tCons (tBySup T.C_Clash "number" a cls d (tVar 3)) tNil)))) (fun _ _ _ _ => False) { nx := fun _ H' => Q .non H', rt := Q }) [some (.ref r), some (.ref v), some (.bl b), none]) := by
    refine ⟨r, dx, ed, v, L, m, ws, n, c, wd, k, rfl, h1, h2, h3, h4, h5, h6, h7, h8, h9, h10, h11, h12, ?_, ?_⟩
    · intro hd p us H' kb hs hdp hrec
      refine ⟨by show 2 ≤ sizeLine; decide, fun l hl => ?_⟩
      have sl := Same.new (o := .lst [.str "told", .ref p]) hl
      obtain ⟨dn', val', g1, g2, g3, g4⟩ := id hrec
      have hok := (nxt_ok h4 h7).1
      refine q1 hd l p us _ (kb.trans sl.but) (kb.free (fun a ha => ?_) hl) upd_same (sl.sqT hs) ?_ ?_
      · rcases ha with ha | ha
        · rw [ha, g1]
          intro z
          cases z
        · rw [ha, g3]
          intro z
          cases z
      · refine Dp.keepAll sl.tupK _ _ (Tells.imm (nth_tells h2 fun j hj => ?_)) hdp
        have z := mem_nums.mp (List.mem_of_mem_drop hj)
        have := hok.le
        omega
      · refine RecOk.keep h2 (fun j hj => ?_) hrec sl.tupK (upd_ne (ne_of_none g1 hl)) (upd_ne (ne_of_none g3 hl))
        rcases hj with hj | hj
        · have z := mem_nums.mp hj
          have := hok.le
          omega
        · have z1 := hok.gt j hj
          have z2 := hok.up j hj
          omega
    · intro hd d H' sm hdn
      refine ⟨true, T.x_Clash, fun _ a ha => ?_, fun q => Bool.noConfusion q⟩
      refine ⟨_, rfl, rfl, rfl, d, _, rfl, upd_same, ?_⟩
      refine ⟨by show 2 ≤ sizeLine; decide, fun l hl => ?_⟩
      exact q2 hd l _ ((sm.step hdn).step hl) ((sm.step hdn).free hl) upd_same
  cases b with
  | true => exact iteT ⟨_, rfl, r, dx, _, rfl, hr1, noT _ _, _, rfl, pr⟩
  | false => exact iteF ⟨_, rfl, r, dx, _, rfl, hr1, noT _ _, _, rfl, pr⟩
def spIsSo (K : PySem.W.Frag) (C : Addr) : Sp := fun vs H Q _ => ∃ (r dx ed md t wl : Addr) (L : List PyData) (m : Nat) (ws : List Int), vs = [.ref r, .ref md] ∧ RecOk K C H r dx ed L m ws ∧ H md = some (.lst [.ref t, .ref wl]) ∧ ModOk K H t wl L m ws ∧ TL L ∧ L.length ≤ 100 ∧ St0 L m ws ∧ ∀ H', Same H H' → Q (.bl true) H'
theorem St0.rng {L : List PyData} {m : Nat} {ws : List Int} (s : St0 L m ws) {j : Int} (h : j ∈ nums m ∨ j ∈ ws) : 1 ≤ j ∧ j ≤ L.length := by
  rcases h with h | h
  · have z := mem_nums.mp h
    have := s.le
    omega
  · have z1 := s.gt j h
    have z2 := s.up j h
    omega
theorem St0.wl {L : List PyData} {m : Nat} {ws : List Int} (s : St0 L m ws) : ws.length ≤ L.length := by
  have z := List.Nodup.length_le_of_subset (l₂ := nums L.length) s.nd (fun j hj => mem_nums.mpr (s.rng (.inr hj)))
  rw [nums_len] at z
  exact z
theorem ok_law_is_so (T : Txt P K mg) : FnOk P w K mg base CX0 4 T.f_law_is_so T.d_law_is_so ["receiver", "model"] (spIsSo K T.C_Receiver) := by
  refine T.F_law_is_so.ok sc_law_is_so (fun vs H Q E h => by obtain ⟨r, dx, ed, md, t, wl, L, m, ws, rfl, _⟩ := h; rfl) (fun cdv A outer s H vs Q E hr h => ⟨_, (pss_one (ps_ret (pe_and (pe_call (ok_law_same T 3) (hr.mono (by decide)) rfl T.g__law_same T.F_law_same.kp T.b_law_same .nil pass0 (pa_cons (pe_prop (pv 0) T.cl_Receiver T.p_Receiver_told (ok_Receiver_told T) ((hr.mono (by decide))) T.b_Receiver_told .nil pass0 rfl) (pa_cons (pe_callTy call_tuple_of rfl T.z_tuple (by decide +kernel) (pa_cons (pe_ix ix_list (pv 1) pe_int (fun _ _ => rfl)) pa_nil)) pa_nil))) (pe_one (pe_call (ok_law_same T 3) (hr.mono (by decide)) rfl T.g__law_same T.F_law_same.kp T.b_law_same .nil pass0 (pa_cons (pe_prop (pv 0) T.cl_Receiver T.p_Receiver_waiting (ok_Receiver_waiting T) ((hr.mono (by decide))) T.b_Receiver_waiting .nil pass0 rfl) (pa_cons (pe_callTy call_tuple_of rfl T.z_tuple (by decide +kernel) (pa_cons (pe_callB (cr_sortD (hu64 hr)) rfl T.z_sorted (by decide +kernel) (pa_cons (pe_ix ix_list (pv 1) pe_int (fun _ _ => rfl)) pa_nil)) pa_nil)) pa_nil))))))), ?_⟩)
  obtain ⟨r, dx, ed, md, t, wl, L, m, ws, rfl, hrec, hmd, ⟨val, hT, hW, hdp⟩, hL, hz, hst, q⟩ := h
  obtain ⟨dn, val0, g1, g2, g3, g4⟩ := id hrec
  have hwl := hst.wl
  have hle := hst.le
  have tell1 : Tells ((nums m).map (nth L)) := nth_tells hL fun j hj => hst.rng (.inl hj)
  have tellw : ∀ {ys : List Int}, ys.Perm ws → Tells (ys.map (nth L)) := fun hp => nth_tells hL fun j hj => hst.rng (.inr (hp.subset hj))
  refine ⟨_, rfl, r, dx, _, rfl, g1, r, dx, ed, L, m, ws, rfl, hrec, fun p us hs hd => ?_⟩
  refine ⟨_, rfl, md, _, _, _, rfl, rfl, .of hmd, rfl, t, _, rfl, .inl ⟨.of hT, fun p2 hp2 => ?_⟩⟩
  have s1 := Same.new (o := .tup ((nums m).map val)) hp2
  refine ⟨_, _, .tuple ((nums m).map (nth L)), rfl, .tup (s1.sqT hs) (Dp.keepAll s1.tupK _ _ tell1.imm hd), .tup (.of upd_same) (Dp.keepAll s1.tupK _ _ tell1.imm (dpAll_map fun j hj => hdp j (.inl hj))), tell1.plain (by rw [List.length_map, nums_len]; omega), fun H2 s2 => ?_⟩
  have s3 := s1.trans s2
  have hrec2 : RecOk K T.C_Receiver H2 r dx ed L m ws := hrec.keep hL (fun j hj => hst.rng hj) s3.tupK ((s3 _ _ g1).trans g1.symm) ((s3 _ _ g3).trans g3.symm)
  refine ⟨_, rfl, iteT ?_⟩
  refine ⟨_, rfl, r, dx, _, rfl, s3 _ _ g1, r, dx, ed, L, m, ws, rfl, hrec2, hL, fun j hj => hst.rng (.inr hj), Nat.lt_of_le_of_lt (show ws.length ≤ 100 by omega) (by decide), fun H3 p3 us3 ys s4 hperm hpw hs3 hd3 => ?_⟩
  have s5 := s3.trans s4
  refine ⟨_, rfl, md, _, _, _, rfl, rfl, .of (s5 _ _ hmd), rfl, wl, ws.map (fun n => (val n, nth L n)), rfl, ?_, ?_, ?_, ?_, ?_, fun p4 hp4 => ?_⟩
  · refine .of ?_
    rw [List.map_map]
    exact s5 _ _ hW
  · intro pr hpr
    obtain ⟨j, hj, rfl⟩ := List.mem_map.mp hpr
    obtain ⟨c', w', k', e, _⟩ := hL j (hst.rng (.inr hj)).1 (hst.rng (.inr hj)).2
    refine Dp.keep s5.tupK _ _ ?_ (hdp j (.inr hj))
    show imm (nth L j) = true
    rw [e]
    exact tell_imm _ _ _ _
  · rw [List.map_map]
    exact alike_tells (tellw (List.Perm.refl ws))
  · rw [List.map_map]
    exact sortable_tells (tellw (List.Perm.refl ws))
  · intro pr hpr
    obtain ⟨j, hj, rfl⟩ := List.mem_map.mp hpr
    obtain ⟨c', w', k', e, _⟩ := hL j (hst.rng (.inr hj)).1 (hst.rng (.inr hj)).2
    show (nth L j).depth ≤ 60
    rw [e]
    exact Nat.le_trans (tell_depth _ _ _ _) (by decide)
  · rw [sorted_ws hL (fun j hj => hst.rng (.inr hj)) hperm hpw, List.map_map]
    have s6 := Same.new (o := .lst (ys.map ((fun x : V × PyData => x.1) ∘ fun n => (val n, nth L n)))) hp4
    refine ⟨p4, _, rfl, .inl ⟨.of upd_same, fun p5 hp5 => ?_⟩⟩
    have s7 := s6.step (o := .tup (ys.map ((fun x : V × PyData => x.1) ∘ fun n => (val n, nth L n)))) hp5
    have s8 := s5.trans s7
    have hyl := hperm.length_eq
    refine ⟨_, _, .tuple (ys.map (nth L)), rfl, .tup (s7.sqT hs3) (Dp.keepAll s7.tupK _ _ (tellw hperm).imm hd3), .tup (.of upd_same) ?_, (tellw hperm).plain (by rw [List.length_map]; omega), fun H6 s9 => q _ (s8.trans s9)⟩
    exact Dp.keepAll s8.tupK _ _ (tellw hperm).imm (dpAll_map fun j hj => hdp j (.inr (hperm.subset hj)))
end
end K88
namespace K88
open PySem PySem.Spec PyProof.Rows L2
/-! ### both pairs, what each walk keeps -/
/-- one receiver, its model, its list -/
structure Sd where
  r : Addr
  dx : Addr
  ed : Addr
  md : Addr
  t : Addr
  wl : Addr
  lp : Addr
  L : List PyData
structure SideOk (K : PySem.W.Frag) (C : Addr) (H : Hp) (S : Sd) (m : Nat) (ws : List Int) : Prop where
  rc : RecOk K C H S.r S.dx S.ed S.L m ws
  md : H S.md = some (.lst [.ref S.t, .ref S.wl])
  mo : ModOk K H S.t S.wl S.L m ws
  tl : TL S.L
  le : S.L.length ≤ 100
  ge : 1 ≤ S.L.length
  st : St1 S.L m ws
  li : Dp K H (.ref S.lp) (.tuple S.L)
/-- the addresses of one side are no others -/
structure Own1 (u ls ms rs : Addr) (S : Sd) : Prop where
  tw : S.t ≠ S.wl
  um : u ≠ S.md
  ut : u ≠ S.t
  uw : u ≠ S.wl
  lt : ls ≠ S.t
  lw : ls ≠ S.wl
  mt : ms ≠ S.t
  mw : ms ≠ S.wl
  rt : rs ≠ S.t
  rw : rs ≠ S.wl
  dt : S.md ≠ S.t
  dw : S.md ≠ S.wl
structure Two (A B : Sd) : Prop where
  rr : A.r ≠ B.r
  ee : A.ed ≠ B.ed
  tt : A.t ≠ B.t
  tw : A.t ≠ B.wl
  wt : A.wl ≠ B.t
  ww : A.wl ≠ B.wl
  td : A.t ≠ B.md
  wd : A.wl ≠ B.md
  dt : A.md ≠ B.t
  dw : A.md ≠ B.wl
theorem Two.symm {A B : Sd} (h : Two A B) : Two B A := ⟨h.rr.symm, h.ee.symm, h.tt.symm, h.wt.symm, h.tw.symm, h.ww.symm, h.dt.symm, h.dw.symm, h.td.symm, h.wd.symm⟩
structure W0 (K : PySem.W.Frag) (C : Addr) (u ls ms rs : Addr) (H : Hp) (A B : Sd) (m : Nat) (ws : List Int) (m' : Nat) (ws' : List Int) : Prop where
  urn : Urn H u
  a : SideOk K C H A m ws
  b : SideOk K C H B m' ws'
  oa : Own1 u ls ms rs A
  ob : Own1 u ls ms rs B
  two : Two A B
  ul : u ≠ ls
  um : u ≠ ms
  ur : u ≠ rs
theorem W0.symm {K : PySem.W.Frag} {C u ls ms rs : Addr} {H : Hp} {A B : Sd} {m m' : Nat} {ws ws' : List Int} (h : W0 K C u ls ms rs H A B m ws m' ws') : W0 K C u ls ms rs H B A m' ws' m ws := ⟨h.urn, h.b, h.a, h.ob, h.oa, h.two.symm, h.ul, h.um, h.ur⟩
def Tab (H : Hp) (ls ms rs : Addr) (A B : Sd) : Prop := H ls = some (.lst [.ref A.lp, .ref B.lp]) ∧ H ms = some (.lst [.ref A.md, .ref B.md]) ∧ H rs = some (.lst [.ref A.r, .ref B.r])
section
variable {K : PySem.W.Frag} {C u ls ms rs : Addr} {H H' H1 H2 : Hp} {A B S O : Sd} {m m' n1 : Nat} {ws ws' w1 : List Int}
theorem ne_kind {H : Hp} {a b : Addr} {o o' : HO} (h : H a = some o) (h' : H b = some o') (d : o ≠ o') : a ≠ b := ne_of h h' d
/-- tracked things of a side stay where the walk does not touch them -/
theorem SideOk.keep (h : SideOk K C H S m ws) {F : Addr → Prop} (kb : But F H H') (tk : TupK H H') (h1 : ¬ F S.r) (h2 : ¬ F S.ed) (h3 : ¬ F S.md) (h4 : ¬ F S.t) (h5 : ¬ F S.wl) : SideOk K C H' S m ws := by
  obtain ⟨dn, val, g1, g2, g3, g4⟩ := h.rc
  obtain ⟨val2, e1, e2, e3⟩ := h.mo
  refine ⟨⟨dn, val, kb _ _ h1 g1, tk.sqT g2, kb _ _ h2 g3, fun j hj => ?_⟩, kb _ _ h3 h.md, ⟨val2, kb _ _ h4 e1, kb _ _ h5 e2, fun j hj => ?_⟩, h.tl, h.le, h.ge, h.st, Dp.keep tk _ _ (by simp only [imm]; exact (tl_tells h.tl).imm) h.li⟩
  all_goals
    obtain ⟨c, w, k, e, _⟩ := h.tl j (h.st.toSt0.rng hj).1 (h.st.toSt0.rng hj).2
  · exact Dp.keep tk _ _ (by rw [e]; exact tell_imm _ _ _ _) (g4 j hj)
  · exact Dp.keep tk _ _ (by rw [e]; exact tell_imm _ _ _ _) (e3 j hj)
theorem W0.same (h : W0 K C u ls ms rs H A B m ws m' ws') (k : Same H H') : W0 K C u ls ms rs H' A B m ws m' ws' := by
  obtain ⟨a, b, c, z⟩ := h.urn
  exact ⟨⟨a, b, c, k _ _ z⟩, h.a.keep (k.but (S := fun _ => False)) k.tupK id id id id id, h.b.keep (k.but (S := fun _ => False)) k.tupK id id id id id, h.oa, h.ob, h.two, h.ul, h.um, h.ur⟩
theorem Tab.keep {F : Addr → Prop} (h : Tab H ls ms rs A B) (kb : But F H H') (h1 : ¬ F ls) (h2 : ¬ F ms) (h3 : ¬ F rs) : Tab H' ls ms rs A B := ⟨kb _ _ h1 h.1, kb _ _ h2 h.2.1, kb _ _ h3 h.2.2⟩
theorem Tab.same (h : Tab H ls ms rs A B) (k : Same H H') : Tab H' ls ms rs A B := h.keep (k.but (S := fun _ => False)) id id id
theorem SideOk.nu (h : SideOk K C H S m ws) (hu : Urn H u) : ¬ S.r = u ∧ ¬ S.ed = u := by
  obtain ⟨dn, val, g1, _, g3, _⟩ := h.rc
  obtain ⟨a, b, c, z⟩ := hu
  exact ⟨ne_kind g1 z (by intro q; cases q), ne_kind g3 z (by intro q; cases q)⟩
theorem W0.draw (h : W0 K C u ls ms rs H A B m ws m' ws') (k : But (· = u) H H') (hu : Urn H' u) : W0 K C u ls ms rs H' A B m ws m' ws' := by
  have tk := h.urn.tupK k
  exact ⟨hu, h.a.keep k tk (h.a.nu h.urn).1 (h.a.nu h.urn).2 h.oa.um.symm h.oa.ut.symm h.oa.uw.symm, h.b.keep k tk (h.b.nu h.urn).1 (h.b.nu h.urn).2 h.ob.um.symm h.ob.ut.symm h.ob.uw.symm, h.oa, h.ob, h.two, h.ul, h.um, h.ur⟩
theorem Tab.draw (t : Tab H ls ms rs A B) (h : W0 K C u ls ms rs H S O m ws m' ws') (k : But (· = u) H H') : Tab H' ls ms rs A B := t.keep k h.ul.symm h.um.symm h.ur.symm
/-- what a take may change -/
def FT (S : Sd) : Addr → Prop := fun a => a = S.r ∨ a = S.ed
def FD (S : Sd) : Addr → Prop := fun a => a = S.t ∨ a = S.wl
theorem W0.tupT (h : W0 K C u ls ms rs H S O m ws m' ws') (k : But (FT S) H H') : TupK H H' := by
  obtain ⟨dn, val, g1, _, g3, _⟩ := h.a.rc
  refine k.tupK fun a xs ha hx => ?_
  rcases ha with ha | ha
  · rw [ha] at hx
    rcases hx with hx | ⟨o, hx⟩ <;> rw [g1] at hx <;> cases hx
  · rw [ha] at hx
    rcases hx with hx | ⟨o, hx⟩ <;> rw [g3] at hx <;> cases hx
theorem W0.tupD (h : W0 K C u ls ms rs H S O m ws m' ws') (k : But (FD S) H H') : TupK H H' := by
  obtain ⟨val, g1, g2, _⟩ := h.a.mo
  refine k.tupK fun a xs ha => ?_
  rcases ha with ha | ha
  · rw [ha]; exact not_tup_lst g1
  · rw [ha]; exact not_tup_lst g2
theorem lst_nFT (h : RecOk K C H S.r S.dx S.ed S.L m ws) {x : Addr} {xs : List V} (e : H x = some (.lst xs)) : ¬ FT S x := by
  obtain ⟨dn, val, g1, _, g3, _⟩ := h
  rintro (z | z)
  · rw [z, g1] at e; cases e
  · rw [z, g3] at e; cases e
theorem W0.nFTo (h : W0 K C u ls ms rs H S O m ws m' ws') : ¬ FT S O.r ∧ ¬ FT S O.ed := by
  obtain ⟨dn, val, g1, _, g3, _⟩ := h.a.rc
  obtain ⟨dn', val', g1', _, g3', _⟩ := h.b.rc
  refine ⟨?_, ?_⟩
  · rintro (z | z)
    · exact h.two.rr z.symm
    · exact ne_kind g1' g3 (by intro q; cases q) z
  · rintro (z | z)
    · exact ne_kind g3' g1 (by intro q; cases q) z
    · exact h.two.ee z.symm
theorem W0.nFDr (h : W0 K C u ls ms rs H S O m ws m' ws') : ¬ FD S S.r ∧ ¬ FD S S.ed ∧ ¬ FD S O.r ∧ ¬ FD S O.ed := by
  obtain ⟨val, e1, e2, _⟩ := h.a.mo
  obtain ⟨dn, _, g1, _, g3, _⟩ := h.a.rc
  obtain ⟨dn', _, g1', _, g3', _⟩ := h.b.rc
  refine ⟨?_, ?_, ?_, ?_⟩
  · rintro (z | z)
    · exact ne_kind g1 e1 (by intro q; cases q) z
    · exact ne_kind g1 e2 (by intro q; cases q) z
  · rintro (z | z)
    · exact ne_kind g3 e1 (by intro q; cases q) z
    · exact ne_kind g3 e2 (by intro q; cases q) z
  · rintro (z | z)
    · exact ne_kind g1' e1 (by intro q; cases q) z
    · exact ne_kind g1' e2 (by intro q; cases q) z
  · rintro (z | z)
    · exact ne_kind g3' e1 (by intro q; cases q) z
    · exact ne_kind g3' e2 (by intro q; cases q) z
/-- a take and what was due -/
theorem W0.move (h : W0 K C u ls ms rs H S O m ws m' ws') (k1 : But (FT S) H H1) (r1 : RecOk K C H1 S.r S.dx S.ed S.L n1 w1) (k2 : But (FD S) H1 H2) (o2 : ModOk K H2 S.t S.wl S.L n1 w1) (s2 : St1 S.L n1 w1) : W0 K C u ls ms rs H2 S O n1 w1 m' ws' := by
  obtain ⟨ua, ub, uc, uz⟩ := id h.urn
  obtain ⟨val, e1, e2, e3⟩ := id h.a.mo
  obtain ⟨val', e1', e2', e3'⟩ := id h.b.mo
  have t1 := h.tupT k1
  have a1 : H1 S.t = _ := k1 _ _ (lst_nFT h.a.rc e1) e1
  have a2 : H1 S.wl = _ := k1 _ _ (lst_nFT h.a.rc e2) e2
  have t2 : TupK H1 H2 := by
    refine k2.tupK fun a xs ha => ?_
    rcases ha with ha | ha
    · rw [ha]; exact not_tup_lst a1
    · rw [ha]; exact not_tup_lst a2
  have imml : imm (.tuple S.L) = true := by simp only [imm]; exact (tl_tells h.a.tl).imm
  have r2 : RecOk K C H2 S.r S.dx S.ed S.L n1 w1 := by
    obtain ⟨dn, v, g1, g2, g3, g4⟩ := id r1
    exact r1.keep h.a.tl (fun j hj => s2.toSt0.rng hj) t2 ((k2 _ _ h.nFDr.1 g1).trans g1.symm) ((k2 _ _ h.nFDr.2.1 g3).trans g3.symm)
  refine ⟨⟨ua, ub, uc, k2 _ _ ?_ (k1 _ _ (lst_nFT h.a.rc uz) uz)⟩, ⟨r2, k2 _ _ ?_ (k1 _ _ (lst_nFT h.a.rc h.a.md) h.a.md), o2, h.a.tl, h.a.le, h.a.ge, s2, Dp.keep (t1.trans t2) _ _ imml h.a.li⟩, ?_, h.oa, h.ob, h.two, h.ul, h.um, h.ur⟩
  · rintro (z | z)
    · exact h.oa.ut z
    · exact h.oa.uw z
  · rintro (z | z)
    · exact h.oa.dt z
    · exact h.oa.dw z
  · have b1 := h.b.keep k1 t1 h.nFTo.1 h.nFTo.2 (lst_nFT h.a.rc h.b.md) (lst_nFT h.a.rc e1') (lst_nFT h.a.rc e2')
    refine b1.keep k2 t2 h.nFDr.2.2.1 h.nFDr.2.2.2 ?_ ?_ ?_
    · rintro (z | z)
      · exact h.two.td z.symm
      · exact h.two.wd z.symm
    · rintro (z | z)
      · exact h.two.tt z.symm
      · exact h.two.wt z.symm
    · rintro (z | z)
      · exact h.two.tw z.symm
      · exact h.two.ww z.symm
def Fin2 (K : PySem.W.Frag) (C u ls ms rs : Addr) (H : Hp) (S O : Sd) (m : Nat) (ws : List Int) (m' : Nat) (ws' : List Int) (n : Int) (l : Addr) (y : V) (H2 : Hp) : Prop :=
  ∃ (b : Addr) (z : Str) (x1 y1 : V) (d : PyData), y = .ref b ∧ SqL K H2 l [.str z, x1] ∧ SqL K H2 b [.str z, y1] ∧ Dp K H2 x1 d ∧ Dp K H2 y1 d ∧ Plain d 3 ∧ But (fun a => FT S a ∨ FD S a) H H2 ∧
    ∃ m2 ws2, W0 K C u ls ms rs H2 S O m2 ws2 m' ws' ∧ Known m2 ws2 n ∧ ∀ j, Known m ws j → Known m2 ws2 j
def Mid2 (K : PySem.W.Frag) (C u ls ms rs : Addr) (H : Hp) (S O : Sd) (m : Nat) (ws : List Int) (m' : Nat) (ws' : List Int) (n : Int) (v : Addr) (l : Addr) (H1 : Hp) : Prop :=
  But (FT S) H H1 ∧ ∀ (Q2 : VK) (E2 : XK), (∀ y H2, Fin2 K C u ls ms rs H S O m ws m' ws' n l y H2 → Q2 y H2) → spDue K [.ref S.md, .ref v] H1 Q2 E2
theorem take_due (h : W0 K C u ls ms rs H S O m ws m' ws') {v : Addr} {n c : Int} {w : Str} {k : Int} {b : Bool} {Q : VK} {E : XK} (hv : SqT K H v [.int n, .int c, .str w, .int k]) (g1 : 1 ≤ n) (g2 : n ≤ S.L.length) (g3 : 1 ≤ c) (g4 : Word w) (g5 : 1 ≤ k) (g6 : k ≤ 999)
    (hk : ¬ Known m ws n → nth S.L n = tellD n c w k) (hq : ∀ l H1, Mid2 K C u ls ms rs H S O m ws m' ws' n v l H1 → Q (.ref l) H1) : spLawTake K C [.ref S.r, .ref v, .bl b] H Q E := by
  obtain ⟨dn, val0, r1, r2, r3, r4⟩ := id h.a.rc
  obtain ⟨val, e1, e2, e3⟩ := id h.a.mo
  have nl : ∀ {l x : Addr} {o : HO}, H l = none → H x = some o → x ≠ l := fun hl hx => ne_of_none hx hl
  refine ⟨S.r, S.dx, S.ed, v, S.L, m, ws, n, c, w, k, b, rfl, h.a.rc, h.a.tl, h.a.le, h.a.st, hv, g1, g2, g3, g4, g5, g6, hk, ?_, ?_⟩
  · intro hd l p us H1 k1 hl0 hl hs hdp hrec
    have k1' : But (FT S) H H1 := k1
    have t1 := h.tupT k1'
    have hok := nxt_ok h.a.st g2
    refine hq l H1 ⟨k1', fun Q2 E2 h2 => ?_⟩
    have a1 := k1' _ _ (lst_nFT h.a.rc e1) e1
    have a2 := k1' _ _ (lst_nFT h.a.rc e2) e2
    have mo1 : ModOk K H1 S.t S.wl S.L m ws := ⟨val, a1, a2, fun j hj => Dp.keep t1 _ _ (by
      obtain ⟨c', w', k', e, _⟩ := h.a.tl j (h.a.st.toSt0.rng hj).1 (h.a.st.toSt0.rng hj).2
      rw [e]
      exact tell_imm _ _ _ _) (e3 j hj)⟩
    refine ⟨S.md, S.t, S.wl, v, S.L, m, ws, n, c, w, k, rfl, k1' _ _ (lst_nFT h.a.rc h.a.md) h.a.md, h.oa.tw, mo1, h.a.tl, h.a.le, h.a.st, t1.sqT hv, g1, g2, g4, hk, ?_, fun z => absurd hd z⟩
    intro _ l2 p2 us2 H2 k2 hl2 hs2 hd2 mo2
    have k2' : But (FD S) H1 H2 := k2
    have t2 : TupK H1 H2 := by
      refine k2'.tupK fun a xs ha => ?_
      rcases ha with ha | ha
      · rw [ha]; exact not_tup_lst a1
      · rw [ha]; exact not_tup_lst a2
    have tl : Tells (((nums (nxt m ws n).1).drop m).map (nth S.L)) := nth_tells h.a.tl fun j hj => by
      have z := mem_nums.mp (List.mem_of_mem_drop hj)
      have := hok.1.le
      omega
    have hln : (((nums (nxt m ws n).1).drop m).map (nth S.L)).length ≤ 1000 := by
      rw [List.length_map, List.length_drop, nums_len]
      have := hok.1.le
      have := h.a.le
      omega
    refine h2 _ H2 ⟨l2, "told", .ref p, .ref p2, _, rfl, .of (k2' _ _ ?_ hl), .of hl2, .tup (t2.sqT hs) (Dp.keepAll t2 _ _ tl.imm hdp), .tup hs2 hd2, tl.plain hln, ?_, _, _, h.move k1' hrec k2' mo2 hok.1, hok.2.2.2, hok.2.2.1⟩
    · rintro (z | z)
      · exact nl hl0 e1 z.symm
      · exact nl hl0 e2 z.symm
    · exact (k1'.mono fun a ha => Or.inl ha).trans (k2'.mono fun a ha => Or.inr ha)
  · intro hd l H1 s1 hl0 hl
    have hK : Known m ws n := by
      by_cases z : Known m ws n
      · exact z
      · exact absurd (hk z) hd
    have h1 := h.same s1
    refine hq l H1 ⟨s1.but, fun Q2 E2 h2 => ?_⟩
    refine ⟨S.md, S.t, S.wl, v, S.L, m, ws, n, c, w, k, rfl, h1.a.md, h.oa.tw, h1.a.mo, h.a.tl, h.a.le, h.a.st, s1.sqT hv, g1, g2, g4, hk, fun z => absurd z hd, ?_⟩
    intro _ l2 H2 s2 hl2
    exact h2 _ H2 ⟨l2, "clash", .int n, .int n, .int n, rfl, .of (s2 _ _ hl), .of hl2, .int n, .int n, plain_int n, (s1.trans s2).but, m, ws, h1.same s2, hK, fun _ z => z⟩
/-- the told part of a list -/
theorem cut_told (xs : List V) (m : Nat) : cutV xs none (some (m : Int)) = xs.take m := by
  unfold cutV
  rw [HT.sIx_nat, HT.sIx_none]
  show (xs.drop 0).take (min m xs.length - 0) = xs.take m
  rw [List.drop_zero, Nat.sub_zero, Nat.min_comm]
  exact (List.take_eq_take_min (l := xs) (i := m) ▸ by rw [Nat.min_comm])
theorem DpAll.take {K : PySem.W.Frag} {H : Hp} : ∀ {vs : List V} {ds : List PyData} (n : Nat), DpAll K H vs ds → DpAll K H (vs.take n) (ds.take n)
  | _, _, 0, _ => by
    rw [List.take_zero, List.take_zero]
    exact .nil
  | _, _, n + 1, .nil => .nil
  | _, _, n + 1, .cons a b => .cons a (DpAll.take n b)
theorem with_rest {X : L2.St → Hp → Prop} {G : Prop} (I : L2.St → Hp → Prop) (main : (∀ σ H, I σ H → X σ H) → G) (rest : ∀ σ H, I σ H → X σ H) : G := main rest
theorem with_val {X : V → Hp → Prop} {G : Prop} (I : V → Hp → Prop) (main : (∀ v H, I v H → X v H) → G) (rest : ∀ v H, I v H → X v H) : G := main rest
end
end K88
namespace K88
open PySem PySem.Spec PyProof.Rows L2
/-- a statement, then the rest: what stands between -/
theorem seq_by {t1 t2 : TS} {D : Ends} {σ : L2.St} {H : Hp} (I : L2.St → Hp → Prop) (h1 : ∀ N : L2.St → Hp → Prop, (∀ σ' H', I σ' H' → N σ' H') → t1 { D with nx := N } σ H) (h2 : ∀ σ' H', I σ' H' → t2 D σ' H') : tSeq t1 t2 D σ H := h1 _ h2
theorem gname_of {i : Nat} {v : V} {σ : L2.St} {H : Hp} {Q : L2.St → Hp → Prop} (h : Q (σ.set i (some v)) H) : gName i v σ H Q := h
/-- x = e, then the rest -/
theorem asg_by {te : TE} {i : Nat} {t2 : TS} {D : Ends} {σ : L2.St} {H : Hp} (I : V → Hp → Prop) (h1 : ∀ Q : VK, (∀ v H', I v H' → Q v H') → te σ H Q) (h2 : ∀ v H', I v H' → t2 D (σ.set i (some v)) H') : tSeq (tAsg te (gName i)) t2 D σ H := h1 _ h2
/-- newly made ones differ from all that stand -/
def Olds (l : List Addr) (H : Hp) : Prop := l.Nodup ∧ ∀ x ∈ l, ∃ o, H x = some o
theorem Olds.same {l : List Addr} {H H' : Hp} (h : Olds l H) (k : Same H H') : Olds l H' := ⟨h.1, fun x hx => by
  obtain ⟨o, e⟩ := h.2 x hx
  exact ⟨o, k _ _ e⟩⟩
theorem Olds.new {l : List Addr} {H : Hp} {p : Addr} {o : HO} (h : Olds l H) (hp : H p = none) : Olds (p :: l) (upd H p o) := by
  refine ⟨List.nodup_cons.mpr ⟨fun hm => ?_, h.1⟩, fun x hx => ?_⟩
  · obtain ⟨o', e⟩ := h.2 p hm
    rw [hp] at e
    cases e
  · rcases List.mem_cons.mp hx with e | hx
    · rw [e]
      exact ⟨_, upd_same⟩
    · obtain ⟨o', e⟩ := h.2 x hx
      exact ⟨o', Same.new hp _ _ e⟩
theorem But.toSame {S : Addr → Prop} {H H1 H' : Hp} (k : But S H1 H') (s : Same H H1) (h : ∀ a, S a → H a = none) : Same H H' := fun a o e => k a o (fun z => by rw [h a z] at e; cases e) (s a o e)
theorem But.skip {S F : Addr → Prop} {H H1 H' : Hp} (k : But S H H1) (k2 : But F H1 H') (h : ∀ a, F a → H a = none) : But S H H' := fun a o n e => k2 a o (fun z => by rw [h a z] at e; cases e) (k a o n e)
theorem inV_ints (n : Int) (l : List Int) : inV (.int n) (l.map V.int) = decide (n ∈ l) := by
  unfold inV
  induction l with
  | nil => simp
  | cons a r ih =>
    rw [List.map_cons, List.any_cons, ih]
    have e : eqV (.int a) (.int n) = decide (a = n) := by
      show (a == n) = decide (a = n)
      rfl
    rw [e]
    by_cases h : a = n
    · subst h
      simp
    · have h' : ¬ n = a := fun z => h z.symm
      simp [h, h']
theorem ints_flat (l : List Int) : (l.map V.int).all flatV = true := by
  rw [List.all_eq_true]
  intro x hx
  obtain ⟨i, _, rfl⟩ := List.mem_map.mp hx
  rfl
def New0 (H : Hp) (S : Sd) : Prop := H S.r = none ∧ H S.ed = none ∧ H S.t = none ∧ H S.wl = none
def spRight : Sp := fun vs H Q _ => ∃ u : Addr, vs = [.ref u] ∧ Urn H u ∧ ∀ H', But (· = u) H H' → Q (.bl true) H'
section
variable {P : Program} {w : World} {K : PySem.W.Frag} {mg : Str → Option Value} {base : Heap}
theorem ok_law_right (T : Txt P K mg) : FnOk P w K mg base CX0 8 T.f_law_right T.d_law_right ["well"] spRight := by
  refine T.F_law_right.ok sc_law_right (fun vs H Q E h => by obtain ⟨u, rfl, _⟩ := h; rfl) (fun cdv A outer s H vs Q E hr h => ⟨_, (pss_cons (ps_set (i := 1) sc_law_right.nd rfl (Or.inl rfl) (pe_ifExp (pt_cmpR op_eq (pe_call (ok_law_draw T) (hr.mono (by decide)) rfl T.g__law_draw T.F_law_draw.kp T.b_law_draw .nil pass0 (pa_cons (pv 0) (pa_cons pe_int pa_nil))) pe_int (nomark _)) pe_int (pe_op op_add pe_int (pe_call (ok_law_draw T) (hr.mono (by decide)) rfl T.g__law_draw T.F_law_draw.kp T.b_law_draw .nil pass0 (pa_cons (pv 0) (pa_cons pe_int pa_nil))))))
      (pss_cons (ps_par (i := 2) (j := 3) rfl sc_law_right.nd rfl rfl (by decide) rfl rfl (pa_cons (pe_lst (pa_cons (pe_call (ok_law_list T) (hr.mono (by decide)) rfl T.g__law_list T.F_law_list.kp T.b_law_list .nil pass0 (pa_cons (pv 0) (pa_cons (pv 1) pa_nil))) (pa_cons (pe_call (ok_law_list T) (hr.mono (by decide)) rfl T.g__law_list T.F_law_list.kp T.b_law_list .nil pass0 (pa_cons (pv 0) (pa_cons (pe_op op_add pe_int (pe_call (ok_law_draw T) (hr.mono (by decide)) rfl T.g__law_draw T.F_law_draw.kp T.b_law_draw .nil pass0 (pa_cons (pv 0) (pa_cons pe_int pa_nil)))) pa_nil))) pa_nil))) (pa_cons (pe_lst (pa_cons (pe_lst (pa_cons (pe_lst pa_nil) (pa_cons (pe_lst pa_nil) pa_nil))) (pa_cons (pe_lst (pa_cons (pe_lst pa_nil) (pa_cons (pe_lst pa_nil) pa_nil))) pa_nil))) pa_nil)) (by rfl))
      (pss_cons (ps_set (i := 4) sc_law_right.nd rfl (Or.inl rfl) (pe_lst (pa_cons (pe_make0 T.mk_Receiver (ok_Receiver___init__ T) (hr.mono (by decide)) rfl T.g_Receiver T.b_Receiver___init__ .nil pass0) (pa_cons (pe_make0 T.mk_Receiver (ok_Receiver___init__ T) (hr.mono (by decide)) rfl T.g_Receiver T.b_Receiver___init__ .nil pass0) pa_nil))))
      (pss_cons (ps_for PassesOwn.never rfl (pi_range1 rfl T.z_range (pa_cons (pe_op op_mul pe_int (pv 1)) pa_nil)) (pg_name (i := 5) sc_law_right.nd rfl (by first | exact Or.inl rfl | exact Or.inr rfl))
      (pss_cons (ps_set (i := 6) sc_law_right.nd rfl (Or.inl rfl) (pe_ifExp (pt_cmpR op_gt (pe_call (ok_law_draw T) (hr.mono (by decide)) rfl T.g__law_draw T.F_law_draw.kp T.b_law_draw .nil pass0 (pa_cons (pv 0) (pa_cons pe_int pa_nil))) pe_int (nomark _)) pe_int pe_int))
      (pss_cons (ps_set (i := 7) sc_law_right.nd rfl (Or.inl rfl) (pe_call (ok_law_of T) (hr.mono (by decide)) rfl T.g__law_of T.F_law_of.kp T.b_law_of .nil pass0 (pa_cons (pv 0) (pa_cons (pe_ix ix_list (pv 2) (pv 6) (fun _ _ => rfl)) pa_nil))))
      (pss_cons (ps_if (pt_cmpR op_eq (pe_call (ok_law_draw T) (hr.mono (by decide)) rfl T.g__law_draw T.F_law_draw.kp T.b_law_draw .nil pass0 (pa_cons (pv 0) (pa_cons pe_int pa_nil))) pe_int (nomark _))
      (pss_cons (ps_set (i := 8) sc_law_right.nd rfl (Or.inl rfl) (pe_op op_catT (pe_slice sl_tup (pv 7) po_none (po_some pe_int)) (pe_tup (pa_cons (pe_op op_add pe_int (pe_op op_mod (pe_callTy call_int1 rfl T.z_int (by decide +kernel) (pa_cons (pe_ix ix_tup (pv 7) pe_int (fun _ _ => rfl)) pa_nil)) pe_int)) pa_nil))))
      (pss_cons (ps_set (i := 7) sc_law_right.nd rfl (Or.inl rfl) (pe_ifExp (pt_cmpR op_eq (pe_call (ok_law_draw T) (hr.mono (by decide)) rfl T.g__law_draw T.F_law_draw.kp T.b_law_draw .nil pass0 (pa_cons (pv 0) (pa_cons pe_int pa_nil))) pe_int (nomark _)) (pv 8) (pe_op op_catT (pe_op op_catT (pe_slice sl_tup (pv 7) po_none (po_some pe_int)) (pe_tup (pa_cons (pe_op op_add (pe_ix ix_tup (pv 7) pe_int (fun _ _ => rfl)) pe_int) pa_nil))) (pe_slice sl_tup (pv 7) (po_some pe_int) po_none))))
      (pss_one (ps_if (pt_cmpR op_notIn_seq (pe_ix ix_tup (pv 7) pe_int (fun _ _ => rfl)) (pe_lc (own := [("each", 10)]) (te := tOp (rIxT K) (tVar 10) (tC (.int 0))) rfl sc_law_right.nd (pi_list (pe_op op_cat (pe_ix ix_list (pe_ix ix_list (pv 3) (pv 6) (fun _ _ => rfl)) pe_int (fun _ _ => rfl)) (pe_ix ix_list (pe_ix ix_list (pv 3) (pv 6) (fun _ _ => rfl)) pe_int (fun _ _ => rfl)))) (blkOk_by (own := [("each", 10)]) (N := N_law_right) (sc := defScope s_law_right) (by decide +kernel)) (fun _ _ _ _ _ => (pg_name (i := 10) sc_law_right.nd rfl (by first | exact Or.inl rfl | exact Or.inr rfl))) (fun _ _ _ _ _ => (by exact pts_nil)) (fun _ _ _ _ _ => (by exact (pe_ix ix_tup (pv 10) pe_int (fun _ _ => rfl))))) (by rfl))
      (pss_one (ps_set (i := 7) sc_law_right.nd rfl (Or.inl rfl) (pe_ix ix_tup (pe_ix ix_list (pv 2) (pv 6) (fun _ _ => rfl)) (pe_op op_sub (pe_ix ix_tup (pv 7) pe_int (fun _ _ => rfl)) pe_int) (fun _ _ => rfl)))) pss_nil)))) pss_nil)
      (pss_cons (ps_set (i := 9) sc_law_right.nd rfl (Or.inl rfl) (pe_call (ok_law_take T) (hr.mono (by decide)) rfl T.g__law_take T.F_law_take.kp T.b_law_take .nil pass0 (pa_cons (pe_ix ix_list (pv 4) (pv 6) (fun _ _ => rfl)) (pa_cons (pv 7) (pa_cons (pe_cmpR op_eq (pe_call (ok_law_draw T) (hr.mono (by decide)) rfl T.g__law_draw T.F_law_draw.kp T.b_law_draw .nil pass0 (pa_cons (pv 0) (pa_cons pe_int pa_nil))) pe_int (nomark _)) pa_nil)))))
      (pss_cons (ps_if (pt_not (pt_val (pe_call (ok_law_heard T) (hr.mono (by decide)) rfl T.g__law_heard T.F_law_heard.kp T.b_law_heard .nil pass0 (pa_cons (pv 9) (pa_cons (pe_call (ok_law_due T) (hr.mono (by decide)) rfl T.g__law_due T.F_law_due.kp T.b_law_due .nil pass0 (pa_cons (pe_ix ix_list (pv 3) (pv 6) (fun _ _ => rfl)) (pa_cons (pv 7) pa_nil))) pa_nil)))))
      (pss_one (ps_ret pe_bl)) pss_nil)
      (pss_cons (ps_if (PW.pt (pw_and (pt_cmpR op_eq (pe_op op_mod (pe_callTy call_int1 rfl T.z_int (by decide +kernel) (pa_cons (pv 5) pa_nil)) pe_int) pe_int (nomark _)) (pw_and1 (pt_not (PW.pt (pw_and (pt_val (pe_call (ok_law_is_so T) (hr.mono (by decide)) rfl T.g__law_is_so T.F_law_is_so.kp T.b_law_is_so .nil pass0 (pa_cons (pe_ix ix_list (pv 4) pe_int (fun _ _ => rfl)) (pa_cons (pe_ix ix_list (pv 3) pe_int (fun _ _ => rfl)) pa_nil)))) (pw_and1 (pt_val (pe_call (ok_law_is_so T) (hr.mono (by decide)) rfl T.g__law_is_so T.F_law_is_so.kp T.b_law_is_so .nil pass0 (pa_cons (pe_ix ix_list (pv 4) pe_int (fun _ _ => rfl)) (pa_cons (pe_ix ix_list (pv 3) pe_int (fun _ _ => rfl)) pa_nil)))))))))))
      (pss_one (ps_ret pe_bl)) pss_nil)
      (pss_one (ps_if (pt_cmpR (op_neD (hu64 hr)) (pe_prop (pe_ix ix_list (pv 4) (pv 6) (fun _ _ => rfl)) T.cl_Receiver T.p_Receiver_told (ok_Receiver_told T) ((hr.mono (by decide))) T.b_Receiver_told .nil pass0 rfl) (pe_slice sl_tupA (pe_ix ix_list (pv 2) (pv 6) (fun _ _ => rfl)) po_none (po_some (pe_callB call_len_seq rfl T.z_len (by decide +kernel) (pa_cons (pe_ix ix_list (pe_ix ix_list (pv 3) (pv 6) (fun _ _ => rfl)) pe_int (fun _ _ => rfl)) pa_nil)))) (nomark _))
      (pss_one (ps_ret pe_bl)) pss_nil)))))))))
      (pss_cons (ps_for PassesOwn.never rfl (pi_range1 rfl T.z_range (pa_cons pe_int pa_nil)) (pg_name (i := 6) sc_law_right.nd rfl (by first | exact Or.inl rfl | exact Or.inr rfl))
      (pss_cons (ps_for PassesOwn.never rfl (pi_tup (pe_revT (pe_ix ix_list (pv 2) (pv 6) (fun _ _ => rfl)))) (pg_name (i := 7) sc_law_right.nd rfl (by first | exact Or.inl rfl | exact Or.inr rfl))
      (pss_one (ps_if (pt_not (pt_val (pe_call (ok_law_heard T) (hr.mono (by decide)) rfl T.g__law_heard T.F_law_heard.kp T.b_law_heard .nil pass0 (pa_cons (pe_call (ok_law_take T) (hr.mono (by decide)) rfl T.g__law_take T.F_law_take.kp T.b_law_take .nil pass0 (pa_cons (pe_ix ix_list (pv 4) (pv 6) (fun _ _ => rfl)) (pa_cons (pv 7) (pa_cons pe_bl pa_nil)))) (pa_cons (pe_call (ok_law_due T) (hr.mono (by decide)) rfl T.g__law_due T.F_law_due.kp T.b_law_due .nil pass0 (pa_cons (pe_ix ix_list (pv 3) (pv 6) (fun _ _ => rfl)) (pa_cons (pv 7) pa_nil))) pa_nil)))))
      (pss_one (ps_ret pe_bl)) pss_nil)))
      (pss_one (ps_if (PW.pt (pw_or (pt_not (pt_val (pe_call (ok_law_same T 3) (hr.mono (by decide)) rfl T.g__law_same T.F_law_same.kp T.b_law_same .nil pass0 (pa_cons (pe_prop (pe_ix ix_list (pv 4) (pv 6) (fun _ _ => rfl)) T.cl_Receiver T.p_Receiver_told (ok_Receiver_told T) ((hr.mono (by decide))) T.b_Receiver_told .nil pass0 rfl) (pa_cons (pe_ix ix_list (pv 2) (pv 6) (fun _ _ => rfl)) pa_nil))))) (pw_or1 (pt_not (pt_val (pe_call (ok_law_same T 3) (hr.mono (by decide)) rfl T.g__law_same T.F_law_same.kp T.b_law_same .nil pass0 (pa_cons (pe_prop (pe_ix ix_list (pv 4) (pv 6) (fun _ _ => rfl)) T.cl_Receiver T.p_Receiver_waiting (ok_Receiver_waiting T) ((hr.mono (by decide))) T.b_Receiver_waiting .nil pass0 rfl) (pa_cons (pe_tup pa_nil) pa_nil))))))))
      (pss_one (ps_ret pe_bl)) pss_nil))))
      (pss_one (ps_ret (pe_call (ok_law_is_so T) (hr.mono (by decide)) rfl T.g__law_is_so T.F_law_is_so.kp T.b_law_is_so .nil pass0 (pa_cons (pe_ix ix_list (pv 4) pe_int (fun _ _ => rfl)) (pa_cons (pe_ix ix_list (pv 3) pe_int (fun _ _ => rfl)) pa_nil)))))))))), ?_⟩)
  obtain ⟨u, rfl, hu, q⟩ := h
  -- many
  refine asg_by (fun v H1 => ∃ many : Nat, v = .int many ∧ 1 ≤ many ∧ many ≤ 70 ∧ Urn H1 u ∧ But (· = u) H H1) ?_ ?_
  · intro Q1 rest
    refine ⟨_, rfl, u, 9, rfl, by decide, by decide, hu, fun k H1 k1 k2 u1 b1 => ?_⟩
    refine ⟨rfl, _, rfl, ?_⟩
    refine ite2 (fun hc => ?_) (fun hc => ?_)
    · exact rest _ _ ⟨70, rfl, by decide, by decide, u1, b1⟩
    · refine ⟨_, rfl, u, 12, rfl, by decide, by decide, u1, fun k H2 k1 k2 u2 b2 => ?_⟩
      refine ⟨_, _, rfl, rfl, rest _ _ ⟨1 + k.toNat, ?_, by omega, by omega, u2, b1.trans b2⟩⟩
      exact congrArg V.int (by omega)
  rintro v H1 ⟨many, rfl, m1, m2, u1, b1⟩
  obtain ⟨ua, ub, uc, uz⟩ := id u1
  have o0 : Olds [u] H1 := ⟨by simp, fun x hx => by rw [List.mem_singleton] at hx; subst hx; exact ⟨_, uz⟩⟩
  refine ⟨_, rfl, _, rfl, u, many, rfl, by omega, u1, fun lp0 L0 H2 hl0 tl0 dp0 b2 u2 => ?_⟩
  refine ⟨_, rfl, _, rfl, u, 6, rfl, by decide, by decide, u2, fun k H3 k1 k2 u3 b3 => ?_⟩
  obtain ⟨kn, rfl⟩ : ∃ kn : Nat, k = kn := ⟨k.toNat, by omega⟩
  refine ⟨_, _, rfl, rfl, u, 1 + kn, congrArg (fun z : Int => [V.ref u, V.int z]) (by omega), by omega, u3, fun lp1 L1 H4 hl1 tl1 dp1 b4 u4 => ?_⟩
  have imm0 : imm (.tuple L0) = true := by simp only [imm]; exact (tl_tells tl0).imm
  have imm1 : imm (.tuple L1) = true := by simp only [imm]; exact (tl_tells tl1).imm
  have dp0' : Dp K H4 (.ref lp0) (.tuple L0) := Dp.keep ((u2.tupK b3).trans (u3.tupK b4)) _ _ imm0 dp0
  have b14 : But (· = u) H H4 := ((b1.trans b2).trans b3).trans b4
  clear b1 b2 b3 b4 u1 u2 u3 uz o0
  obtain ⟨va, vb, vc, uz⟩ := id u4
  have o0 : Olds [u] H4 := ⟨by simp, fun x hx => by rw [List.mem_singleton] at hx; subst hx; exact ⟨_, uz⟩⟩
  refine ⟨by show 2 ≤ sizeLine; decide, fun ls hls => ?_⟩
  have o1 := o0.new (o := .lst [.ref lp0, .ref lp1]) hls
  have s1 := Same.new (o := .lst [.ref lp0, .ref lp1]) hls
  refine ⟨Nat.zero_le _, fun t0 ht0 => ?_⟩
  have o2 := o1.new (o := .lst []) ht0
  have s2 := s1.step (o := .lst []) ht0
  refine ⟨Nat.zero_le _, fun w0 hw0 => ?_⟩
  have o3 := o2.new (o := .lst []) hw0
  have s3 := s2.step (o := .lst []) hw0
  refine ⟨by show 2 ≤ sizeLine; decide, fun d0 hd0 => ?_⟩
  have o4 := o3.new (o := .lst [.ref t0, .ref w0]) hd0
  have s4 := s3.step (o := .lst [.ref t0, .ref w0]) hd0
  refine ⟨Nat.zero_le _, fun t1 ht1 => ?_⟩
  have o5 := o4.new (o := .lst []) ht1
  have s5 := s4.step (o := .lst []) ht1
  refine ⟨Nat.zero_le _, fun w1 hw1 => ?_⟩
  have o6 := o5.new (o := .lst []) hw1
  have s6 := s5.step (o := .lst []) hw1
  refine ⟨by show 2 ≤ sizeLine; decide, fun d1 hd1 => ?_⟩
  have o7 := o6.new (o := .lst [.ref t1, .ref w1]) hd1
  have s7 := s6.step (o := .lst [.ref t1, .ref w1]) hd1
  refine ⟨by show 2 ≤ sizeLine; decide, fun ms hms => ?_⟩
  have o8 := o7.new (o := .lst [.ref d0, .ref d1]) hms
  have s8 := s7.step (o := .lst [.ref d0, .ref d1]) hms
  have e1 : ∃ H8 : Hp, Same H4 H8 ∧ Olds [ms, d1, w1, t1, d0, w0, t0, ls, u] H8 ∧ H8 ls = some (.lst [.ref lp0, .ref lp1]) ∧ H8 t0 = some (.lst []) ∧ H8 w0 = some (.lst []) ∧ H8 d0 = some (.lst [.ref t0, .ref w0]) ∧ H8 t1 = some (.lst []) ∧ H8 w1 = some (.lst []) ∧ H8 d1 = some (.lst [.ref t1, .ref w1]) ∧ H8 ms = some (.lst [.ref d0, .ref d1]) ∧
      H8 = upd (upd (upd (upd (upd (upd (upd (upd H4 ls (.lst [.ref lp0, .ref lp1])) t0 (.lst [])) w0 (.lst [])) d0 (.lst [.ref t0, .ref w0])) t1 (.lst [])) w1 (.lst [])) d1 (.lst [.ref t1, .ref w1])) ms (.lst [.ref d0, .ref d1]) := by
    refine ⟨_, s8, o8, ?_, ?_, ?_, ?_, ?_, ?_, ?_, upd_same, rfl⟩
    · exact (((((((Same.new (o := .lst []) ht0).step hw0).step hd0).step ht1).step hw1).step hd1).step hms) _ _ upd_same
    · exact ((((((Same.new (o := .lst []) hw0).step hd0).step ht1).step hw1).step hd1).step hms) _ _ upd_same
    · exact (((((Same.new (o := .lst [.ref t0, .ref w0]) hd0).step ht1).step hw1).step hd1).step hms) _ _ upd_same
    · exact ((((Same.new (o := .lst []) ht1).step hw1).step hd1).step hms) _ _ upd_same
    · exact (((Same.new (o := .lst []) hw1).step hd1).step hms) _ _ upd_same
    · exact ((Same.new (o := .lst [.ref t1, .ref w1]) hd1).step hms) _ _ upd_same
    · exact (Same.new (o := .lst [.ref d0, .ref d1]) hms) _ _ upd_same
  obtain ⟨H8, s8, o8, fls, ft0, fw0, fd0, ft1, fw1, fd1, fms, eH8⟩ := e1
  rw [← eH8]
  have nt0 : H4 t0 = none := (Same.new (o := .lst [.ref lp0, .ref lp1]) hls).free ht0
  have nw0 : H4 w0 = none := s2.free hw0
  have nt1 : H4 t1 = none := s4.free ht1
  have nw1 : H4 w1 = none := s5.free hw1
  clear s1 s2 s3 s4 s5 s6 s7 o0 o1 o2 o3 o4 o5 o6 o7 hls ht0 hw0 hd0 ht1 hw1 hd1 hms eH8
  refine ⟨_, _, rfl, ?_⟩
  intro r0 x0 hr0 hx0 nx0
  refine ⟨r0, x0, rfl, upd_same, fun H9 ed0 k9 hed0 ne0 rec0 => ⟨rfl, ?_⟩⟩
  have q9 : Same H8 (upd (upd H8 x0 (.own r0)) r0 (.ins T.C_Receiver x0 [])) := (Same.new hx0).own hr0
  have s9 : Same H8 H9 := But.toSame (S := (· = r0)) k9 q9 (fun a e => by rw [e]; exact hr0)
  have nr0 := hr0
  have ned0 := q9.free hed0
  clear k9 hed0 hx0 q9
  intro r1 x1 hr1 hx1 nx1
  refine ⟨r1, x1, rfl, upd_same, fun H10 ed1 k10 hed1 ne1 rec1 => ⟨rfl, ?_⟩⟩
  have q10 : Same H9 (upd (upd H9 x1 (.own r1)) r1 (.ins T.C_Receiver x1 [])) := (Same.new hx1).own hr1
  have s10 : Same H9 H10 := But.toSame (S := (· = r1)) k10 q10 (fun a e => by rw [e]; exact hr1)
  have ned1 := q10.free hed1
  clear k10 hed1 hx1 q10
  refine ⟨by show 2 ≤ sizeLine; decide, fun rs hrs => ?_⟩
  have o11 := ((o8.same s9).same s10).new (o := .lst [.ref r0, .ref r1]) hrs
  have s11 := (s9.trans s10).step (o := .lst [.ref r0, .ref r1]) hrs
  have s411 := s8.trans s11
  have frs : upd H10 rs (.lst [.ref r0, .ref r1]) rs = some (.lst [.ref r0, .ref r1]) := upd_same
  obtain ⟨dn0, vl0, a1, a2, a3, _⟩ := rec0 L0
  obtain ⟨dn1, vl1, c1, c2, c3, _⟩ := rec1 L1
  have rr : r0 ≠ r1 := ne_of_none a1 hr1
  have ee : ed0 ≠ ed1 := ne_of_none a3 ned1
  have rec0' : RecOk K T.C_Receiver (upd H10 rs (.lst [.ref r0, .ref r1])) r0 x0 ed0 L0 0 [] := (rec0 L0).keep tl0 (fun j hj => by rcases hj with hj | hj; (have := mem_nums.mp hj; omega); cases hj) (s10.step hrs).tupK (((s10.step hrs) _ _ a1).trans a1.symm) (((s10.step hrs) _ _ a3).trans a3.symm)
  have rec1' : RecOk K T.C_Receiver (upd H10 rs (.lst [.ref r0, .ref r1])) r1 x1 ed1 L1 0 [] := (rec1 L1).keep tl1 (fun j hj => by rcases hj with hj | hj; (have := mem_nums.mp hj; omega); cases hj) (Same.new hrs).tupK (((Same.new hrs) _ _ c1).trans c1.symm) (((Same.new hrs) _ _ c3).trans c3.symm)
  generalize upd H10 rs (.lst [.ref r0, .ref r1]) = Hz at *
  have nodup := o11.1
  simp only [List.nodup_cons, List.mem_cons, List.not_mem_nil, or_false, not_or, List.nodup_nil, not_false_eq_true, and_true] at nodup
  obtain ⟨⟨n0_0, n0_1, n0_2, n0_3, n0_4, n0_5, n0_6, n0_7, n0_8⟩, ⟨n1_0, n1_1, n1_2, n1_3, n1_4, n1_5, n1_6, n1_7⟩, ⟨n2_0, n2_1, n2_2, n2_3, n2_4, n2_5, n2_6⟩, ⟨n3_0, n3_1, n3_2, n3_3, n3_4, n3_5⟩, ⟨n4_0, n4_1, n4_2, n4_3, n4_4⟩, ⟨n5_0, n5_1, n5_2, n5_3⟩, ⟨n6_0, n6_1, n6_2⟩, ⟨n7_0, n7_1⟩, n8_0⟩ := nodup
  have hW : W0 K T.C_Receiver u ls ms rs Hz ⟨r0, x0, ed0, d0, t0, w0, lp0, L0⟩ ⟨r1, x1, ed1, d1, t1, w1, lp1, L1⟩ 0 [] 0 [] := by
    have st0 : ∀ L : List PyData, St1 L 0 [] := fun L => ⟨⟨Nat.zero_le _, List.nodup_nil, (fun j hj => by cases hj), fun j hj => by cases hj⟩, fun hj => by cases hj⟩
    have mo : ∀ {t w : Addr} {L : List PyData}, Hz t = some (.lst []) → Hz w = some (.lst []) → ModOk K Hz t w L 0 [] := fun h1 h2 => ⟨fun _ => .non, h1, h2, fun j hj => by rcases hj with hj | hj; (have := mem_nums.mp hj; omega); cases hj⟩
    refine ⟨⟨va, vb, vc, s411 _ _ uz⟩, ⟨rec0', s11 _ _ fd0, mo (s11 _ _ ft0) (s11 _ _ fw0), tl0, by show L0.length ≤ 100; omega, by show 1 ≤ L0.length; omega, st0 _, Dp.keep s411.tupK _ _ imm0 dp0'⟩,
      ⟨rec1', s11 _ _ fd1, mo (s11 _ _ ft1) (s11 _ _ fw1), tl1, by show L1.length ≤ 100; omega, by show 1 ≤ L1.length; omega, st0 _, Dp.keep s411.tupK _ _ imm1 dp1⟩, ?_, ?_, ?_, ?_, ?_, ?_⟩
    · constructor <;> first | assumption | (apply Ne.symm; assumption)
    · constructor <;> first | assumption | (apply Ne.symm; assumption)
    · refine ⟨rr, ee, ?_, ?_, ?_, ?_, ?_, ?_, ?_, ?_⟩ <;> first | assumption | (apply Ne.symm; assumption)
    all_goals first | assumption | (apply Ne.symm; assumption)
  have hT : Tab Hz ls ms rs ⟨r0, x0, ed0, d0, t0, w0, lp0, L0⟩ ⟨r1, x1, ed1, d1, t1, w1, lp1, L1⟩ := ⟨s11 _ _ fls, s11 _ _ fms, frs⟩
  have fr : ∀ {a : Addr}, H4 a = none → H a = none := fun h => b14.free (fun a e => by rw [e, uz]; intro z; cases z) h
  have nA : New0 H ⟨r0, x0, ed0, d0, t0, w0, lp0, L0⟩ := ⟨fr (s8.free nr0), fr (s8.free ned0), fr nt0, fr nw0⟩
  have nB : New0 H ⟨r1, x1, ed1, d1, t1, w1, lp1, L1⟩ := ⟨fr ((s8.trans s9).free hr1), fr ((s8.trans s9).free ned1), fr nt1, fr nw1⟩
  have hb : But (· = u) H Hz := b14.trans s411.but
  have hlA : (⟨r0, x0, ed0, d0, t0, w0, lp0, L0⟩ : Sd).L.length = many := hl0
  generalize (⟨r0, x0, ed0, d0, t0, w0, lp0, L0⟩ : Sd) = A at hW hT nA hlA
  generalize (⟨r1, x1, ed1, d1, t1, w1, lp1, L1⟩ : Sd) = B at hW hT nB
  clear s11 s411 frs a1 a2 a3 c1 c2 c3 rr ee rec0' rec1' rec0 rec1 s9 s10 s8 dp0 dp0' dp1 tl0 tl1 hl0 hl1 imm0 imm1 fls ft0 fw0 fd0 ft1 fw1 fd1 fms o11 nr0 ned0 ned1 nt0 nw0 nt1 nw1 hrs hr1 fr o8 uz
  have hb2 : ∀ {S O : Sd} {m m' : Nat} {ws ws' : List Int} {H1 H2 : Hp}, New0 H S → But (· = u) H H1 → But (fun a => FT S a ∨ FD S a) H1 H2 → But (· = u) H H2 := fun n b k => But.skip (S := (· = u)) b k (fun a ha => by
    rcases ha with (ha | ha) | (ha | ha)
    · rw [ha]; exact n.1
    · rw [ha]; exact n.2.1
    · rw [ha]; exact n.2.2.1
    · rw [ha]; exact n.2.2.2)
  refine gname_of ?_
  dsimp only
  refine seq_by (fun σ' H' => ∃ (x5 x6 x7 x8 x9 : Option V) (mA : Nat) (wA : List Int) (mB : Nat) (wB : List Int), σ' = [some (.ref u), some (.int many), some (.ref ls), some (.ref ms), some (.ref rs), x5, x6, x7, x8, x9, none] ∧ W0 K T.C_Receiver u ls ms rs H' A B mA wA mB wB ∧ Tab H' ls ms rs A B ∧ But (· = u) H H') ?_ ?_
  · intro N rest
    refine ⟨_, rfl, _, _, rfl, rfl, .inl ⟨by decide, by decide⟩, _, rfl, by omega, by omega, ?_⟩
    refine for_range (lo := 0) (n := (2 * (many : Int)).toNat) (fun i σ' H' => ∃ (x5 x6 x7 x8 x9 : Option V) (mA : Nat) (wA : List Int) (mB : Nat) (wB : List Int), σ' = [some (.ref u), some (.int many), some (.ref ls), some (.ref ms), some (.ref rs), x5, x6, x7, x8, x9, none] ∧ W0 K T.C_Receiver u ls ms rs H' A B mA wA mB wB ∧ Tab H' ls ms rs A B ∧ But (· = u) H H')
      ⟨none, none, none, none, none, 0, [], 0, [], rfl, hW, hT, hb⟩ ?_ (fun σ' H' h => rest σ' H' h)
    clear hW hT hb
    rintro i σ H0 hi ⟨x5, x6, x7, x8, x9, mA, wA, mB, wB, rfl, hW, hT, hb⟩
    -- to
    refine gname_of ?_
    dsimp only
    refine asg_by (fun v H1 => (v = .int 0 ∨ v = .int 1) ∧ Urn H1 u ∧ But (· = u) H0 H1) ?_ ?_
    · intro Q1 rest
      refine ⟨_, rfl, u, 4, rfl, by decide, by decide, hW.urn, fun k H1 k1 k2 u1 b1 => ?_⟩
      refine ⟨_, _, rfl, rfl, _, rfl, ?_⟩
      exact ite2 (fun hc => rest _ _ ⟨.inl rfl, u1, b1⟩) (fun hc => rest _ _ ⟨.inr rfl, u1, b1⟩)
    rintro vto H1 ⟨hto, u1, b1⟩
    have hW1 := hW.draw b1 u1
    have hT1 := hT.draw hW b1
    have hb1 := hb.trans b1
    obtain ⟨to, S, O, m, ws, m', ws', rfl, hS, back, atL, atM, atR, nS⟩ : ∃ (to : Int) (S O : Sd) (m : Nat) (ws : List Int) (m' : Nat) (ws' : List Int), vto = .int to ∧ W0 K T.C_Receiver u ls ms rs H1 S O m ws m' ws' ∧
        (∀ H2 n1 w1, W0 K T.C_Receiver u ls ms rs H2 S O n1 w1 m' ws' → ∃ (mA : Nat) (wA : List Int) (mB : Nat) (wB : List Int), W0 K T.C_Receiver u ls ms rs H2 A B mA wA mB wB) ∧
        atI [V.ref A.lp, V.ref B.lp] to = some (.ref S.lp) ∧ atI [V.ref A.md, V.ref B.md] to = some (.ref S.md) ∧ atI [V.ref A.r, V.ref B.r] to = some (.ref S.r) ∧ New0 H S := by
      rcases hto with rfl | rfl
      · exact ⟨0, A, B, mA, wA, mB, wB, rfl, hW1, fun H2 n1 w1 h => ⟨_, _, _, _, h⟩, rfl, rfl, rfl, nA⟩
      · exact ⟨1, B, A, mB, wB, mA, wA, rfl, hW1.symm, fun H2 n1 w1 h => ⟨_, _, _, _, h.symm⟩, rfl, rfl, rfl, nB⟩
    clear hW1 hW hT hto hb b1 u1
    obtain ⟨xs, hxs, hdx⟩ : ∃ xs, SqT K H1 S.lp xs ∧ DpAll K H1 xs S.L := by
      cases hS.a.li with
      | tup h1 h2 => exact ⟨_, h1, h2⟩
    have hxl := DpAll.length hdx
    have hle := hS.a.le
    have hge := hS.a.ge
    -- tell
    refine asg_by (fun v H2 => ∃ (p : Addr) (n c : Int) (w : Str) (k : Int), v = .ref p ∧ SqT K H2 p [.int n, .int c, .str w, .int k] ∧ 1 ≤ n ∧ n ≤ S.L.length ∧ 1 ≤ c ∧ Word w ∧ 1 ≤ k ∧ k ≤ 999 ∧ nth S.L n = tellD n c w k ∧ Urn H2 u ∧ But (· = u) H1 H2) ?_ ?_
    · intro Q1 rest
      refine ⟨_, rfl, _, rfl, _, rfl, ls, _, _, _, rfl, rfl, .of hT1.1, atL, u, S.lp, xs, rfl, hxs, by omega, by omega, hS.urn, fun j v H2 hj u2 b2 => ?_⟩
      obtain ⟨d, e1, e2⟩ := DpAll.get hdx hj
      have hjl : j < S.L.length := (List.getElem?_eq_some_iff.mp e1).1
      rw [nth_get hjl] at e1
      obtain ⟨c, w, k, e3, f1, f2, f3, f4⟩ := hS.a.tl ((j : Int) + 1) (by omega) (by omega)
      cases e1
      rw [e3] at e2
      obtain ⟨p, rfl, hp⟩ := tell_inv e2
      exact rest _ _ ⟨p, _, _, _, _, rfl, hS.urn.sqT b2 hp, by omega, by omega, f1, f2, f3, f4, e3, u2, b2⟩
    rintro vt H2 ⟨p, n, c, wd, k, rfl, hp, g1, g2, g3, g4, g5, g6, hn, u2, b2⟩
    have hS2 := hS.draw b2 u2
    have hT2 := hT1.draw hS b2
    have hb2' := hb1.trans b2
    clear hT1 hb1 hxs hdx
    -- the other tell
    refine seq_by (fun σ' H3 => ∃ (x8' : Option V) (p : Addr) (n c : Int) (w : Str) (k : Int), σ' = [some (.ref u), some (.int many), some (.ref ls), some (.ref ms), some (.ref rs), some (.int (0 + (i : Int))), some (.int to), some (.ref p), x8', x9, none] ∧ SqT K H3 p [.int n, .int c, .str w, .int k] ∧ 1 ≤ n ∧ n ≤ S.L.length ∧ 1 ≤ c ∧ Word w ∧ 1 ≤ k ∧ k ≤ 999 ∧ (¬ Known m ws n → nth S.L n = tellD n c w k) ∧ Urn H3 u ∧ But (· = u) H2 H3) ?_ ?_
    · intro N rest
      refine ⟨_, rfl, u, 8, rfl, by decide, by decide, u2, fun kk H3 kk1 kk2 u3 b3 => ?_⟩
      have hp3 := u2.sqT b3 hp
      refine ⟨rfl, _, rfl, ite2 (fun hc => ?_) (fun hc => rest _ _ ⟨_, p, n, c, wd, k, rfl, hp3, g1, g2, g3, g4, g5, g6, fun _ => hn, u3, b3⟩)⟩
      have hm := Int.emod_nonneg k (show (999 : Int) ≠ 0 by decide)
      have hm2 := Int.emod_lt_of_pos k (show (0 : Int) < 999 by decide)
      refine asg_by (fun v H4 => ∃ q, v = .ref q ∧ SqT K H4 q [.int n, .int c, .str wd, .int (1 + k % 999)] ∧ Same H3 H4) ?_ ?_
      · intro Q1 rest1
        refine ⟨_, rfl, _, rfl, p, _, rfl, hp3, (by show ¬ (HT.sIx 4 0 none = 0 ∧ HT.sIx 4 4 (some 3) = 4); decide), fun q1 hq1 => ?_⟩
        refine ⟨_, rfl, p, _, _, _, rfl, rfl, (Same.new hq1).sqT hp3, rfl, .inl ⟨_, rfl, _, _, rfl, rfl, (by show (0 : Int) < 999; decide), _, _, rfl, rfl, by show 1 ≤ sizeLine; decide, fun q2 hq2 => ?_⟩⟩
        refine ⟨q1, q2, _, _, rfl, rfl, (Same.new hq2).sqT (.of upd_same), .of upd_same, (fun z => by cases z), by show 3 + 1 ≤ sizeLine; decide, (fun z => by cases z), fun _ q3 hq3 => ?_⟩
        exact rest1 _ _ ⟨q3, rfl, .of upd_same, ((Same.new hq1).step hq2).step hq3⟩
      rintro vo H4 ⟨q, rfl, hq, s4⟩
      have u4 : Urn H4 u := by
        obtain ⟨a, b, c, z⟩ := u3
        exact ⟨a, b, c, s4 _ _ z⟩
      have hp4 := s4.sqT hp3
      refine asg_by (fun v H5 => ∃ (q : Addr) (c' k' : Int), v = .ref q ∧ SqT K H5 q [.int n, .int c', .str wd, .int k'] ∧ 1 ≤ c' ∧ 1 ≤ k' ∧ k' ≤ 999 ∧ Urn H5 u ∧ But (· = u) H4 H5) ?_ ?_
      · intro Q1 rest1
        refine ⟨_, rfl, u, 2, rfl, by decide, by decide, u4, fun kk H5 kk1 kk2 u5 b5 => ⟨rfl, _, rfl, ite2 (fun h => ?_) (fun h => ?_)⟩⟩
        · exact ⟨_, rfl, rest1 _ _ ⟨q, c, 1 + k % 999, rfl, u4.sqT b5 hq, g3, by omega, by omega, u5, b5⟩⟩
        · have hp5 := u4.sqT b5 hp4
          refine ⟨_, rfl, _, rfl, p, _, rfl, hp5, (by show ¬ (HT.sIx 4 0 none = 0 ∧ HT.sIx 4 4 (some 1) = 4); decide), fun q1 hq1 => ?_⟩
          refine ⟨_, rfl, p, _, _, _, rfl, rfl, (Same.new hq1).sqT hp5, rfl, _, _, rfl, rfl, by show 1 ≤ sizeLine; decide, fun q2 hq2 => ?_⟩
          refine ⟨q1, q2, _, _, rfl, rfl, (Same.new hq2).sqT (.of upd_same), .of upd_same, (fun z => by cases z), by show 1 + 1 ≤ sizeLine; decide, (fun z => by cases z), fun _ q3 hq3 => ?_⟩
          have s6 := ((Same.new (o := .tup (cutV [.int n, .int c, .str wd, .int k] none (some 1))) hq1).step (o := .tup [.int (c + 1)]) hq2).step (o := .tup (cutV [.int n, .int c, .str wd, .int k] none (some 1) ++ [.int (c + 1)])) hq3
          refine ⟨_, rfl, _, rfl, p, _, rfl, s6.sqT hp5, (by show ¬ (HT.sIx 4 0 (some 2) = 0 ∧ HT.sIx 4 4 none = 4); decide), fun q4 hq4 => ?_⟩
          refine ⟨q3, q4, _, _, rfl, rfl, (Same.new hq4).sqT (.of upd_same), .of upd_same, (fun z => by cases z), by show 2 + 2 ≤ sizeLine; decide, (fun z => by cases z), fun _ q5 hq5 => ?_⟩
          have s8 := (s6.step (o := .tup (cutV [.int n, .int c, .str wd, .int k] (some 2) none)) hq4).step (o := .tup ((cutV [.int n, .int c, .str wd, .int k] none (some 1) ++ [.int (c + 1)]) ++ cutV [.int n, .int c, .str wd, .int k] (some 2) none)) hq5
          refine rest1 _ _ ⟨q5, c + 1, k, rfl, .of upd_same, by omega, g5, g6, ?_, b5.trans s8.but⟩
          obtain ⟨a, b, c, z⟩ := u5
          exact ⟨a, b, c, s8 _ _ z⟩
      rintro v5 H5 ⟨q5, c', k', rfl, hq5, f1, f2, f3, u5, b5⟩
      have b25 : But (· = u) H2 H5 := (b3.trans s4.but).trans b5
      have hS5 := hS2.draw b25 u5
      have hT5 := hT2.draw hS2 b25
      obtain ⟨val, e1, e2, e3⟩ := id hS5.a.mo
      have hlw := hS5.a.st.toSt0.wl
      have hlm := hS5.a.st.toSt0.le
      refine ⟨_, rfl, q5, _, _, _, rfl, rfl, hq5, rfl, ?_⟩
      refine ⟨_, rfl, _, rfl, ms, _, _, _, rfl, rfl, .of hT5.2.1, atM, S.md, _, _, _, rfl, rfl, .of hS5.a.md, rfl, ?_⟩
      refine ⟨_, rfl, _, rfl, ms, _, _, _, rfl, rfl, .of hT5.2.1, atM, S.md, _, _, _, rfl, rfl, .of hS5.a.md, rfl, ?_⟩
      refine ⟨S.t, S.wl, _, _, rfl, rfl, e1, e2, ?_, fun pp hpp => ⟨pp, rfl, ⟨_, .of upd_same⟩, fun D hD => ?_⟩⟩
      · rw [List.length_map, List.length_map, nums_len]
        exact Nat.le_trans (show m + ws.length ≤ 1000 by omega) (by decide)
      rw [← List.map_append] at hD ⊢
      have s6 : Same H5 (upd H5 pp (.lst ((nums m ++ ws).map val))) := Same.new hpp
      refine lc_list (K := K) (a := pp) (xs := (nums m ++ ws).map val) (fun j H6 => H6 D = some (.lst (((nums m ++ ws).take j).map V.int)) ∧ Same (upd H5 pp (.lst ((nums m ++ ws).map val))) H6) ⟨upd_same, Same.new hD⟩ (fun j H6 _ h => h.2.seq (.of upd_same)) ?_ ?_
      · rintro j x H6 hj ⟨d1, d2⟩
        have hjl : j < (nums m ++ ws).length := by
          have z := (List.getElem?_eq_some_iff.mp hj).1
          rw [List.length_map] at z
          exact z
        obtain ⟨y, hy, rfl⟩ : ∃ y, (nums m ++ ws)[j]? = some y ∧ x = val y := by
          rw [List.getElem?_map, List.getElem?_eq_getElem hjl] at hj
          exact ⟨_, List.getElem?_eq_getElem hjl, (Option.some.inj hj).symm⟩
        have hym := List.mem_append.mp (List.mem_of_getElem? hy)
        obtain ⟨c2, w2, k2, ey, _⟩ := hS5.a.tl y (hS5.a.st.toSt0.rng hym).1 (hS5.a.st.toSt0.rng hym).2
        obtain ⟨py, epy, hpy⟩ := tell_inv (ey ▸ e3 y hym)
        rw [epy]
        refine ⟨rfl, _, rfl, py, _, _, _, rfl, rfl, d2.sqT (s6.sqT hpy), rfl, _, d1, ?_, ?_, d2.own hD⟩
        · rw [List.length_map, List.length_take]
          rw [List.length_append, nums_len] at hjl ⊢
          exact Nat.lt_of_le_of_lt (show min j (m + ws.length) ≤ 1000 by omega) (by decide)
        · rw [upd_same, List.take_add_one, hy, List.map_append]
          rfl
      · rintro H6 ⟨d1, d2⟩
        rw [List.length_map, List.take_length] at d1
        have s7 := s6.trans d2
        refine ⟨D, _, rfl, .inl (.of d1), rfl, ints_flat _, _, rfl, ?_⟩
        rw [inV_ints]
        have u6 : Urn H6 u := by
          obtain ⟨a, b, c, z⟩ := u5
          exact ⟨a, b, c, s7 _ _ z⟩
        by_cases hin : n ∈ nums m ++ ws
        · refine iteB' (by simp [hin]) ?_
          have hK : Known m ws n := by
            rcases List.mem_append.mp hin with z | z
            · exact .inl (mem_nums.mp z).2
            · exact .inr z
          exact rest _ _ ⟨_, q5, n, c', wd, k', rfl, s7.sqT hq5, g1, g2, f1, g4, f2, f3, fun z => absurd hK z, u6, b25.trans s7.but⟩
        · refine iteB (by simp [hin]) ?_
          have hS7 := hS5.same s7
          have hT7 := hT5.same s7
          obtain ⟨xs7, hxs7, hdx7⟩ : ∃ xs, SqT K H6 S.lp xs ∧ DpAll K H6 xs S.L := by
            cases hS7.a.li with
            | tup h1 h2 => exact ⟨_, h1, h2⟩
          have hxl7 := DpAll.length hdx7
          have hjx : xs7[(n - 1).toNat]? = some (xs7[(n - 1).toNat]'(by omega)) := List.getElem?_eq_getElem (by omega)
          obtain ⟨d, k1, k2⟩ := DpAll.get hdx7 hjx
          rw [nth_get (by omega), show (((n - 1).toNat : Nat) : Int) + 1 = n by omega, hn] at k1
          cases k1
          obtain ⟨px, epx, hpx⟩ := tell_inv k2
          have hat := atI_nat hjx
          rw [epx, show (((n - 1).toNat : Nat) : Int) = n - 1 by omega] at hat
          refine ⟨_, rfl, _, rfl, ls, _, _, _, rfl, rfl, .of hT7.1, atL, _, rfl, q5, _, _, _, rfl, rfl, s7.sqT hq5, rfl, _, _, rfl, rfl, S.lp, _, _, _, rfl, rfl, hxs7, hat, ?_⟩
          exact rest _ _ ⟨_, px, n, c, wd, k, rfl, hpx, g1, g2, g3, g4, g5, g6, fun _ => hn, u6, b25.trans s7.but⟩
    clear hn g1 g2 g3 g4 g5 g6 hp
    rintro σ3 H3 ⟨x8', p, n, c, wd, k, rfl, hp3, g1, g2, g3, g4, g5, g6, hn, u3, b3⟩
    have hS3 := hS2.draw b3 u3
    have hT3 := hT2.draw hS2 b3
    have hb3 := hb2'.trans b3
    clear hS2 hT2 hb2' b3 u2 b2
    -- heard
    refine asg_by (fun x H4 => ∃ (l : Addr) (Hd : Hp), x = .ref l ∧ W0 K T.C_Receiver u ls ms rs Hd S O m ws m' ws' ∧ Tab Hd ls ms rs A B ∧ But (· = u) H Hd ∧ Mid2 K T.C_Receiver u ls ms rs Hd S O m ws m' ws' n p l H4) ?_ ?_
    · intro Q1 rest
      refine ⟨_, rfl, _, rfl, rs, _, _, _, rfl, rfl, .of hT3.2.2, atR, _, rfl, _, rfl, u, 2, rfl, by decide, by decide, u3, fun kk Hd kk1 kk2 ud bd => ⟨rfl, ?_⟩⟩
      have hSd := hS3.draw bd ud
      exact take_due (E := E0) hSd (u3.sqT bd hp3) g1 g2 g3 g4 g5 g6 hn (fun l H1 mid => rest _ _ ⟨l, Hd, rfl, hSd, hT3.draw hS3 bd, hb3.trans bd, mid⟩)
    rintro vh H4 ⟨l, Hd, rfl, hSd, hTd, hbd, k4, due⟩
    clear hS3 hT3 hb3 u3 hp3
    have nls : ∀ {x : Addr} {xs : List V}, Hd x = some (.lst xs) → ¬ FT S x := fun e => lst_nFT hSd.a.rc e
    have hT4 : Tab H4 ls ms rs A B := hTd.keep k4 (nls hTd.1) (nls hTd.2.1) (nls hTd.2.2)
    refine seq_by (fun σ' H6 => σ' = [some (.ref u), some (.int many), some (.ref ls), some (.ref ms), some (.ref rs), some (.int (0 + (i : Int))), some (.int to), some (.ref p), x8', some (.ref l), none] ∧ ∃ n1 w1, W0 K T.C_Receiver u ls ms rs H6 S O n1 w1 m' ws' ∧ Tab H6 ls ms rs A B ∧ But (· = u) H H6) ?_ ?_
    · intro N rest
      refine ⟨_, rfl, _, rfl, _, rfl, ms, _, _, _, rfl, rfl, .of hT4.2.1, atM, _, rfl, ?_⟩
      dsimp only [tNil]
      show spDue K [.ref S.md, .ref p] H4 _ _
      refine due _ _ (fun y H5 ⟨b, z, x1, y1, d, ey, h1, h2, h3, h4, h5, kb, m2, w2, hW5, _, _⟩ => ?_)
      subst ey
      have hT5 : Tab H5 ls ms rs A B := hTd.keep kb (fun z => z.elim (nls hTd.1) fun z => z.elim hSd.oa.lt hSd.oa.lw) (fun z => z.elim (nls hTd.2.1) fun z => z.elim hSd.oa.mt hSd.oa.mw) (fun z => z.elim (nls hTd.2.2) fun z => z.elim hSd.oa.rt hSd.oa.rw)
      refine ⟨l, b, z, x1, y1, d, rfl, h1, h2, h3, h4, h5, fun H6 s6 => ⟨_, rfl, ?_⟩⟩
      exact rest _ _ ⟨rfl, m2, w2, hW5.same s6, hT5.same s6, (hb2 (S := S) (O := O) (m := m) (m' := m') (ws := ws) (ws' := ws') nS hbd kb).trans s6.but⟩
    rintro σ6 H6 ⟨rfl, n1, w1, hW6, hT6, hb6⟩
    clear hSd hTd hbd k4 due nls hT4
    refine seq_by (fun σ' H8 => σ' = [some (.ref u), some (.int many), some (.ref ls), some (.ref ms), some (.ref rs), some (.int (0 + (i : Int))), some (.int to), some (.ref p), x8', some (.ref l), none] ∧ Same H6 H8) ?_ ?_
    · intro N rest
      refine ⟨_, rfl, .inl ⟨_, rfl, _, _, rfl, rfl, (by show (0 : Int) < 3; decide), rfl, _, rfl, ite2 (fun h => ?_) (fun h => rest _ _ ⟨rfl, Same.refl _⟩)⟩⟩
      obtain ⟨mA, wA, mB, wB, hAB⟩ := back _ _ _ hW6
      refine ⟨_, rfl, rs, _, _, _, rfl, rfl, .of hT6.2.2, rfl, _, rfl, ms, _, _, _, rfl, rfl, .of hT6.2.1, rfl, ?_⟩
      refine ⟨A.r, A.dx, A.ed, A.md, A.t, A.wl, A.L, mA, wA, rfl, hAB.a.rc, hAB.a.md, hAB.a.mo, hAB.a.tl, hAB.a.le, hAB.a.st.toSt0, fun H7 s7 => ⟨_, rfl, ?_⟩⟩
      have hAB7 := hAB.same s7
      have hT7 := hT6.same s7
      refine ⟨_, rfl, rs, _, _, _, rfl, rfl, .of hT7.2.2, rfl, _, rfl, ms, _, _, _, rfl, rfl, .of hT7.2.1, rfl, ?_⟩
      refine ⟨B.r, B.dx, B.ed, B.md, B.t, B.wl, B.L, mB, wB, rfl, hAB7.b.rc, hAB7.b.md, hAB7.b.mo, hAB7.b.tl, hAB7.b.le, hAB7.b.st.toSt0, fun H8 s8 => ⟨_, rfl, ?_⟩⟩
      exact rest _ _ ⟨rfl, s7.trans s8⟩
    rintro σ8 H8 ⟨rfl, s8⟩
    have hW8 := hW6.same s8
    have hT8 := hT6.same s8
    have hb8 : But (· = u) H H8 := hb6.trans s8.but
    clear hW6 hT6 hb6 s8
    obtain ⟨dn, val0, r1, _⟩ := id hW8.a.rc
    obtain ⟨val, e1, e2, e3⟩ := id hW8.a.mo
    obtain ⟨xs8, hxs8, hdx8⟩ : ∃ xs, SqT K H8 S.lp xs ∧ DpAll K H8 xs S.L := by
      cases hW8.a.li with
      | tup h1 h2 => exact ⟨_, h1, h2⟩
    have hxl8 := DpAll.length hdx8
    have hlm := hW8.a.st.toSt0.le
    have hnn := nums_nth hlm
    have tl8 := tl_tells hW8.a.tl
    have fin : ∀ H9, Same H8 H9 → ∃ (x5 x6 x7 x8 x9 : Option V) (mA : Nat) (wA : List Int) (mB : Nat) (wB : List Int), ([some (.ref u), some (.int many), some (.ref ls), some (.ref ms), some (.ref rs), some (.int (0 + (i : Int))), some (.int to), some (.ref p), x8', some (.ref l), none] : L2.St) = [some (.ref u), some (.int many), some (.ref ls), some (.ref ms), some (.ref rs), x5, x6, x7, x8, x9, none] ∧ W0 K T.C_Receiver u ls ms rs H9 A B mA wA mB wB ∧ Tab H9 ls ms rs A B ∧ But (· = u) H H9 := fun H9 s9 => by
      obtain ⟨mA, wA, mB, wB, hAB⟩ := back _ _ _ (hW8.same s9)
      exact ⟨_, _, _, _, _, mA, wA, mB, wB, rfl, hAB, hT8.same s9, hb8.trans s9.but⟩
    refine ⟨_, rfl, _, rfl, rs, _, _, _, rfl, rfl, .of hT8.2.2, atR, S.r, S.dx, _, rfl, r1, S.r, S.dx, S.ed, S.L, n1, w1, rfl, hW8.a.rc, fun pt us hs hd => ?_⟩
    refine ⟨_, rfl, _, rfl, ls, _, _, _, rfl, rfl, .of hT8.1, atL, ?_⟩
    refine ⟨_, rfl, _, rfl, ms, _, _, _, rfl, rfl, .of hT8.2.1, atM, S.md, _, _, _, rfl, rfl, .of hW8.a.md, rfl, S.t, _, rfl, .inl (.of e1), _, rfl, ?_⟩
    rw [hnn] at hd
    rw [List.length_map, nums_len]
    refine ⟨S.lp, xs8, rfl, hxs8, fun hw => ?_, fun _ p9 hp9 => ?_⟩
    · have hw2 := hw.2
      rw [HT.sIx_nat] at hw2
      have hge : S.L.length ≤ n1 := by omega
      rw [List.take_of_length_le hge] at hd
      refine ⟨.tuple S.L, .tuple S.L, .tup hs hd, .tup hxs8 hdx8, tl8.shaped_t, tl8.shaped_t, _, rfl, iteB' ?_ (fin _ (Same.refl _))⟩
      rw [(tl8.plain (by have := hW8.a.le; omega)).eqv]
      rfl
    · rw [cut_told]
      have s9 := Same.new (o := .tup (xs8.take n1)) hp9
      have dt := DpAll.take n1 hdx8
      refine ⟨.tuple (S.L.take n1), .tuple (S.L.take n1), .tup (s9.sqT hs) (Dp.keepAll s9.tupK _ _ (tl8.take n1).imm hd), .tup (.of upd_same) (Dp.keepAll s9.tupK _ _ (tl8.take n1).imm dt), (tl8.take n1).shaped_t, (tl8.take n1).shaped_t, _, rfl, iteB' ?_ (fin _ s9)⟩
      rw [((tl8.take n1).plain (by rw [List.length_take]; have := hW8.a.le; omega)).eqv]
      rfl
  rintro σf Hf ⟨x5, x6, x7, x8, x9, mA, wA, mB, wB, rfl, hW, hT, hb⟩
  refine seq_by (fun σ' H' => ∃ (x5 x6 x7 x8 x9 : Option V) (mA : Nat) (wA : List Int) (mB : Nat) (wB : List Int), σ' = [some (.ref u), some (.int many), some (.ref ls), some (.ref ms), some (.ref rs), x5, x6, x7, x8, x9, none] ∧ W0 K T.C_Receiver u ls ms rs H' A B mA wA mB wB ∧ Tab H' ls ms rs A B ∧ But (· = u) H H') ?_ ?_
  · intro N rest
    refine ⟨_, rfl, by decide, by decide, ?_⟩
    refine for_range (lo := 0) (n := 2) (fun i σ' H' => ∃ (x5 x6 x7 x8 x9 : Option V) (mA : Nat) (wA : List Int) (mB : Nat) (wB : List Int), σ' = [some (.ref u), some (.int many), some (.ref ls), some (.ref ms), some (.ref rs), x5, x6, x7, x8, x9, none] ∧ W0 K T.C_Receiver u ls ms rs H' A B mA wA mB wB ∧ Tab H' ls ms rs A B ∧ But (· = u) H H')
      ⟨_, _, _, _, _, mA, wA, mB, wB, rfl, hW, hT, hb⟩ ?_ (fun σ' H' h => rest σ' H' h)
    clear hW hT hb
    rintro i σ H1 hi ⟨x5, x6, x7, x8, x9, mA, wA, mB, wB, rfl, hW1, hT1, hb1⟩
    obtain ⟨S, O, m, ws, m', ws', hS, back, atL, atM, atR, nS⟩ : ∃ (S O : Sd) (m : Nat) (ws : List Int) (m' : Nat) (ws' : List Int), W0 K T.C_Receiver u ls ms rs H1 S O m ws m' ws' ∧
        (∀ H2 n1 w1, W0 K T.C_Receiver u ls ms rs H2 S O n1 w1 m' ws' → ∃ (mA : Nat) (wA : List Int) (mB : Nat) (wB : List Int), W0 K T.C_Receiver u ls ms rs H2 A B mA wA mB wB) ∧
        atI [V.ref A.lp, V.ref B.lp] (0 + (i : Int)) = some (.ref S.lp) ∧ atI [V.ref A.md, V.ref B.md] (0 + (i : Int)) = some (.ref S.md) ∧ atI [V.ref A.r, V.ref B.r] (0 + (i : Int)) = some (.ref S.r) ∧ New0 H S := by
      match i, hi with
      | 0, _ => exact ⟨A, B, mA, wA, mB, wB, hW1, fun H2 n1 w1 h => ⟨_, _, _, _, h⟩, rfl, rfl, rfl, nA⟩
      | 1, _ => exact ⟨B, A, mB, wB, mA, wA, hW1.symm, fun H2 n1 w1 h => ⟨_, _, _, _, h.symm⟩, rfl, rfl, rfl, nB⟩
      | k + 2, h => exact absurd h (by omega)
    clear hW1
    refine gname_of ?_
    dsimp only
    refine seq_by (fun σ' H' => ∃ (x7 : Option V), σ' = [some (.ref u), some (.int many), some (.ref ls), some (.ref ms), some (.ref rs), x5, some (.int (0 + (i : Int))), x7, x8, x9, none] ∧ ∃ n1 w1, W0 K T.C_Receiver u ls ms rs H' S O n1 w1 m' ws' ∧ Tab H' ls ms rs A B ∧ But (· = u) H H' ∧ ∀ n : Int, 1 ≤ n → n ≤ S.L.length → Known n1 w1 n) ?_ ?_
    · intro N2 rest2
      obtain ⟨xs, hxs, hdx⟩ : ∃ xs, SqT K H1 S.lp xs ∧ DpAll K H1 xs S.L := by
        cases hS.a.li with
        | tup h1 h2 => exact ⟨_, h1, h2⟩
      have hxl := DpAll.length hdx
      refine ⟨_, rfl, _, rfl, ls, _, _, _, rfl, rfl, .of hT1.1, atL, S.lp, xs, rfl, hxs, fun pr hpr => ⟨pr, rfl, ⟨_, .of upd_same⟩, ?_⟩⟩
      have s1 := Same.new (o := .tup xs.reverse) hpr
      have imml : immAll S.L = true := (tl_tells hS.a.tl).imm
      refine for_tup (K := K) (a := pr) (xs := xs.reverse) (fun j σ' H' => ∃ (x7 : Option V), σ' = [some (.ref u), some (.int many), some (.ref ls), some (.ref ms), some (.ref rs), x5, some (.int (0 + (i : Int))), x7, x8, x9, none] ∧ SqT K H' pr xs.reverse ∧ DpAll K H' xs S.L ∧ ∃ n1 w1, W0 K T.C_Receiver u ls ms rs H' S O n1 w1 m' ws' ∧ Tab H' ls ms rs A B ∧ But (· = u) H H' ∧ ∀ n : Int, (S.L.length : Int) - j < n → n ≤ S.L.length → Known n1 w1 n)
        ⟨_, rfl, .of upd_same, Dp.keepAll s1.tupK _ _ imml hdx, m, ws, hS.same s1, hT1.same s1, hb1.trans s1.but, fun n h1 h2 => by omega⟩ (fun j σ' H' _ h => by obtain ⟨_, _, h, _⟩ := h; exact h) ?_ ?_
      · rintro j y σ' H2 hj ⟨x7', rfl, hpr2, hdx2, n1, w1, hW2, hT2, hb2', hall⟩
        have hjl : j < xs.length := by
          have z := (List.getElem?_eq_some_iff.mp hj).1
          rw [List.length_reverse] at z
          exact z
        rw [List.getElem?_reverse hjl] at hj
        obtain ⟨d, k1, k2⟩ := DpAll.get hdx2 hj
        rw [nth_get (by omega), show ((xs.length - 1 - j : Nat) : Int) + 1 = (S.L.length : Int) - j by omega] at k1
        obtain ⟨c, wd, k, e3, f1, f2, f3, f4⟩ := hW2.a.tl ((S.L.length : Int) - j) (by omega) (by omega)
        cases k1
        obtain ⟨pt, rfl, hpt⟩ := tell_inv (e3 ▸ k2)
        refine ⟨_, rfl, _, rfl, rs, _, _, _, rfl, rfl, .of hT2.2.2, atR, _, rfl, ?_⟩
        dsimp only [tNil, tCons, tC]
        show spLawTake K T.C_Receiver [.ref S.r, .ref pt, .bl false] H2 _ _
        refine take_due hW2 hpt (by omega) (by omega) f1 f2 f3 f4 (fun _ => e3) (fun l H3 mid => ?_)
        obtain ⟨k4, due⟩ := mid
        have nls : ∀ {x : Addr} {xs : List V}, H2 x = some (.lst xs) → ¬ FT S x := fun e => lst_nFT hW2.a.rc e
        have hT3 : Tab H3 ls ms rs A B := hT2.keep k4 (nls hT2.1) (nls hT2.2.1) (nls hT2.2.2)
        refine ⟨_, rfl, _, rfl, ms, _, _, _, rfl, rfl, .of hT3.2.1, atM, _, rfl, ?_⟩
        dsimp only [tNil]
        show spDue K [.ref S.md, .ref pt] H3 _ _
        refine due _ _ (fun y H5 ⟨b, z, x1, y1, d, ey, h1, h2, h3, h4, h5, kb, m2, w2, hW5, hkn, hmono⟩ => ?_)
        subst ey
        have hT5 : Tab H5 ls ms rs A B := hT2.keep kb (fun z => z.elim (nls hT2.1) fun z => z.elim hS.oa.lt hS.oa.lw) (fun z => z.elim (nls hT2.2.1) fun z => z.elim hS.oa.mt hS.oa.mw) (fun z => z.elim (nls hT2.2.2) fun z => z.elim hS.oa.rt hS.oa.rw)
        have tk5 : TupK H2 H5 := by
          obtain ⟨val, e1, e2, _⟩ := id hW2.a.mo
          obtain ⟨dn, val0, r1, _, r3, _⟩ := id hW2.a.rc
          refine kb.tupK fun a xs ha hx => ?_
          rcases ha with (ha | ha) | (ha | ha) <;> rw [ha] at hx
          · rcases hx with hx | ⟨o, hx⟩ <;> rw [r1] at hx <;> cases hx
          · rcases hx with hx | ⟨o, hx⟩ <;> rw [r3] at hx <;> cases hx
          · exact not_tup_lst e1 hx
          · exact not_tup_lst e2 hx
        refine ⟨l, b, z, x1, y1, d, rfl, h1, h2, h3, h4, h5, fun H6 s6 => ⟨_, rfl, ?_⟩⟩
        have tk6 := tk5.trans s6.tupK
        refine ⟨_, rfl, tk6.sqT hpr2, Dp.keepAll tk6 _ _ imml hdx2, m2, w2, hW5.same s6, hT5.same s6, (hb2 (S := S) (O := O) (m := n1) (m' := m') (ws := w1) (ws' := ws') nS hb2' kb).trans s6.but, fun n q1 q2 => ?_⟩
        by_cases e : n = (S.L.length : Int) - j
        · rw [e]
          exact hkn
        · exact hmono n (hall n (by omega) q2)
      · rintro σ' H2 ⟨x7', rfl, _, _, n1, w1, hW2, hT2, hb2', hall⟩
        rw [List.length_reverse, hxl] at hall
        exact rest2 _ _ ⟨_, rfl, n1, w1, hW2, hT2, hb2', fun n q1 q2 => hall n (by omega) q2⟩
    rintro σ2 H2 ⟨x7', rfl, n1, w1, hW2, hT2, hb2', hall⟩
    obtain ⟨e1, e2⟩ := hW2.a.st.all hall
    subst e2
    obtain ⟨dn, val0, r1, _⟩ := id hW2.a.rc
    have hle := hW2.a.le
    have tlS := tl_tells hW2.a.tl
    have hnn := nums_nth hW2.a.st.toSt0.le
    rw [e1, List.take_length] at hnn
    refine ⟨_, rfl, _, rfl, rs, _, _, _, rfl, rfl, .of hT2.2.2, atR, S.r, S.dx, _, rfl, r1, S.r, S.dx, S.ed, S.L, n1, [], rfl, hW2.a.rc, fun pt us hs hd => ?_⟩
    rw [e1, hnn] at hd
    refine ⟨_, rfl, _, rfl, ls, _, _, _, rfl, rfl, .of hT2.1, atL, _, _, .tuple S.L, rfl, .tup hs hd, hW2.a.li, tlS.plain (by omega), fun H3 s3 => ⟨_, rfl, ?_⟩⟩
    have hW3 := hW2.same s3
    have hT3 := hT2.same s3
    obtain ⟨dn3, val3, r3, _⟩ := id hW3.a.rc
    refine ⟨_, rfl, _, rfl, rs, _, _, _, rfl, rfl, .of hT3.2.2, atR, S.r, S.dx, _, rfl, r3, S.r, S.dx, S.ed, S.L, n1, [], rfl, hW3.a.rc, hW3.a.tl, (fun n hn => by cases hn), (by show 0 < sizeLine; decide), fun H4 pw usw ys s4 hperm _ hsw hdw => ?_⟩
    rw [hperm.eq_nil] at hdw
    refine ⟨Nat.zero_le _, fun pe hpe => ?_⟩
    have s5 := Same.new (o := .tup []) hpe
    refine ⟨_, _, .tuple [], rfl, .tup (s5.sqT hsw) (Dp.keepAll s5.tupK _ _ rfl hdw), .tup (.of upd_same) .nil, Tells.plain (fun d hd => by cases hd) (by simp), fun H6 s6 => ⟨_, rfl, ?_⟩⟩
    have s36 := (s4.trans s5).trans s6
    obtain ⟨mA, wA, mB, wB, hAB⟩ := back _ _ _ (hW3.same s36)
    exact ⟨_, _, _, _, _, mA, wA, mB, wB, rfl, hAB, hT3.same s36, (hb2'.trans s3.but).trans s36.but⟩
  rintro σ9 H9 ⟨x5, x6, x7, x8, x9, mA, wA, mB, wB, rfl, hW9, hT9, hb9⟩
  refine ⟨_, rfl, rs, _, _, _, rfl, rfl, .of hT9.2.2, rfl, _, rfl, ms, _, _, _, rfl, rfl, .of hT9.2.1, rfl, ?_⟩
  exact ⟨A.r, A.dx, A.ed, A.md, A.t, A.wl, A.L, mA, wA, rfl, hW9.a.rc, hW9.a.md, hW9.a.mo, hW9.a.tl, hW9.a.le, hW9.a.st.toSt0, fun H7 s7 => q _ (hb9.trans s7.but)⟩
end
end K88
namespace K88
open PySem PySem.Spec PyProof.Rows L2
def spLaw (K : PySem.W.Frag) : Sp := fun vs H Q _ => ∃ (a : Addr) (ns : List Int), vs = [.ref a] ∧ SqL K H a (ns.map V.int) ∧ ns.length ≤ 63 ∧ ∀ H', Q (.bl true) H'
section
variable {P : Program} {w : World} {K : PySem.W.Frag} {mg : Str → Option Value} {base : Heap}
theorem ok_law (T : Txt P K mg) : FnOk P w K mg base CX0 9 T.f_law T.d_law ["script"] (spLaw K) := by
  refine T.F_law.ok sc_law (fun vs H Q E h => by obtain ⟨a, ns, rfl, _⟩ := h; rfl) (fun cdv A outer s H vs Q E hr h => ⟨_, (pss_one (ps_ret (pe_callB (cr_all rfl) rfl T.z_all (by decide +kernel) (pa_cons (pe_lc (own := [("lap", 1)]) (te := tCall spRight [] E0 (tCons (tCall (spWell K) [] E0 (tCons (tVar 0) (tCons (tVar 1) tNil))) tNil)) rfl sc_law.nd (pi_range1 rfl T.z_range (pa_cons pe_int pa_nil)) (blkOk_by (own := [("lap", 1)]) (N := N_law) (sc := defScope s_law) (by decide +kernel)) (fun _ _ _ _ _ => (pg_name (i := 1) sc_law.nd rfl (by first | exact Or.inl rfl | exact Or.inr rfl))) (fun _ _ _ _ _ => (by exact pts_nil)) (fun _ _ _ _ _ => (by exact (pe_call (ok_law_right T) (hr.mono (by decide)) rfl T.g__law_right T.F_law_right.kp T.b_law_right .nil pass0 (pa_cons (pe_call (ok_law_well T) (hr.mono (by decide)) rfl T.g__law_well T.F_law_well.kp T.b_law_well .nil pass0 (pa_cons (pv 0) (pa_cons (pv 1) pa_nil))) pa_nil))))) pa_nil)))), ?_⟩)
  obtain ⟨a, ns, rfl, hS, hlen, q⟩ := h
  refine ⟨_, rfl, by decide, by decide, fun D hD => ?_⟩
  refine lc_range (n := 2) (fun i H' => H' D = some (.lst ((List.replicate i true).map V.bl)) ∧ Same H H') ⟨upd_same, Same.new hD⟩ ?_ ?_
  · rintro i H1 hi ⟨e1, e2⟩
    refine ⟨rfl, _, rfl, _, rfl, a, ns, _, rfl, by omega, e2.seq hS, fun u H2 s2 hu urn => ?_⟩
    refine ⟨u, rfl, urn, fun H3 k3 => ?_⟩
    have s3 : Same H1 H3 := But.toSame (S := (· = u)) k3 s2 (fun b e => by rw [e]; exact hu)
    refine ⟨_, s3 _ _ e1, ?_, ?_, (e2.trans s3).own hD⟩
    · rw [List.length_map, List.length_replicate]
      exact Nat.lt_of_lt_of_le hi (by decide)
    · rw [upd_same, List.replicate_succ', List.map_append]
      rfl
  · rintro H1 ⟨e1, e2⟩
    exact ⟨D, List.replicate 2 true, rfl, .of e1, q H1⟩
end
theorem kb_Receiver_take_tell {K : PySem.W.Frag} {kV dc pm cd ct : Value} {an : Option Addr} : KBinds K (PySem.W.fnOf "take" "Receiver.take" (defArgs s_Receiver_take) (defBody s_Receiver_take) (defScope s_Receiver_take) .none kV dc pm an cd ct) ["self", "tell"] ["tell"] (fun us ws => kbG 1 1 us ws) (fun us ws => kbG 1 1 us ws) where
  to := fun s us ws _ hl => by
    obtain ⟨h1, h2⟩ := kbG_len hl (by decide)
    match us, h1, ws, h2 with
    | [_], _, [_], _ => exact .of_eq rfl
  rel := fun a b => kbG_rel a b
theorem txt_mk {P : Program} {K : PySem.W.Frag} {h : Heap} {mg : Str → Option Value} {f_is_whole f_is_number f_is_key f_is_tuple_of f_is_note f_is_tell f_Receiver___init__ f_Receiver_told p_Receiver_told f_Receiver_waiting p_Receiver_waiting f_Receiver_take f_law_well f_law_draw f_law_of f_law_same f_law_list f_law_take f_law_due f_law_is_so f_law_heard f_law_right f_law C_Receiver C_Clash fi_Clash N_Clash cda_Clash cc_Clash a_WORDS : Addr} {od_is_whole an_is_whole od_is_number an_is_number od_is_key an_is_key od_is_tuple_of an_is_tuple_of od_is_note an_is_note od_is_tell an_is_tell od_Receiver___init__ an_Receiver___init__ od_Receiver_told an_Receiver_told od_Receiver_waiting an_Receiver_waiting od_Receiver_take an_Receiver_take od_law_well an_law_well od_law_draw an_law_draw od_law_of an_law_of od_law_same an_law_same od_law_list an_law_list od_law_take an_law_take od_law_due an_law_due od_law_is_so an_law_is_so od_law_heard an_law_heard od_law_right an_law_right od_law an_law : Option Addr} {sl_is_whole sl_is_number sl_is_key sl_is_tuple_of sl_is_note sl_is_tell sl_Receiver___init__ sl_Receiver_told sl_Receiver_waiting sl_Receiver_take sl_law_well sl_law_draw sl_law_of sl_law_same sl_law_list sl_law_take sl_law_due sl_law_is_so sl_law_heard sl_law_right sl_law : Array (Option Value)} {oc_is_whole kV_is_whole dc_is_whole pm_is_whole cd_is_whole ct_is_whole oc_is_number kV_is_number dc_is_number pm_is_number cd_is_number ct_is_number oc_is_key kV_is_key dc_is_key pm_is_key cd_is_key ct_is_key oc_is_tuple_of kV_is_tuple_of dc_is_tuple_of pm_is_tuple_of cd_is_tuple_of ct_is_tuple_of oc_is_note kV_is_note dc_is_note pm_is_note cd_is_note ct_is_note oc_is_tell kV_is_tell dc_is_tell pm_is_tell cd_is_tell ct_is_tell oc_Receiver___init__ kV_Receiver___init__ dc_Receiver___init__ pm_Receiver___init__ cd_Receiver___init__ ct_Receiver___init__ oc_Receiver_told kV_Receiver_told dc_Receiver_told pm_Receiver_told cd_Receiver_told ct_Receiver_told oc_Receiver_waiting kV_Receiver_waiting dc_Receiver_waiting pm_Receiver_waiting cd_Receiver_waiting ct_Receiver_waiting oc_Receiver_take kV_Receiver_take dc_Receiver_take pm_Receiver_take cd_Receiver_take ct_Receiver_take oc_law_well kV_law_well dc_law_well pm_law_well cd_law_well ct_law_well oc_law_draw kV_law_draw dc_law_draw pm_law_draw cd_law_draw ct_law_draw oc_law_of kV_law_of dc_law_of pm_law_of cd_law_of ct_law_of oc_law_same kV_law_same dc_law_same pm_law_same cd_law_same ct_law_same oc_law_list kV_law_list dc_law_list pm_law_list cd_law_list ct_law_list oc_law_take kV_law_take dc_law_take pm_law_take cd_law_take ct_law_take oc_law_due kV_law_due dc_law_due pm_law_due cd_law_due ct_law_due oc_law_is_so kV_law_is_so dc_law_is_so pm_law_is_so cd_law_is_so ct_law_is_so oc_law_heard kV_law_heard dc_law_heard pm_law_heard cd_law_heard ct_law_heard oc_law_right kV_law_right dc_law_right pm_law_right cd_law_right ct_law_right oc_law kV_law dc_law pm_law cd_law ct_law : Value}
    {rr_Receiver_told : List Value} {rr_Receiver_waiting : List Value} {nm_Clash q_Clash : Str} {bs_Clash bm_Clash sub_Clash : List Value} {sn_Clash : List Str} {ab_Clash : Bool} {col_Clash : Option Bool} {dd_Clash od_Clash an_Clash cdd_Clash cld_Clash : Option Addr} {m0_Clash m1_Clash m2_Clash m3_Clash m5_Clash : Option Value} {oc_Clash dc_Clash pm_Clash ct_Clash ccl_Clash cll_Clash : Value} {vs_Clash : Array Value} {ccs_Clash csl_Clash osl_Clash : Array (Option Value)} {file_Clash : Str} {tf_Clash : Tok} {t_MOST_KEY : Tok} {od_WORDS : Option Addr} {sl_WORDS : Array (Option Value)} {ep_WORDS : Nat} {t0_WORDS : Tok} {t1_WORDS : Tok} {t2_WORDS : Tok} (X : K.In h) (G : h.Ns mainGlobals mg)
    (a_is_whole : PySem.W.nsIn K mainGlobals "is_whole" = some (some (.ref f_is_whole)))
    (l_is_whole : K.lookup f_is_whole = some ⟨oc_is_whole, od_is_whole, .func (PySem.W.fnOf "is_whole" "is_whole" (defArgs s_is_whole) (defBody s_is_whole) (defScope s_is_whole) .none kV_is_whole dc_is_whole pm_is_whole an_is_whole cd_is_whole ct_is_whole), sl_is_whole⟩)
    (c_is_whole : PySem.W.codeIn K cd_is_whole "is_whole" = true)
    (k_is_whole : PySem.W.keepIn K (.ref f_is_whole) = true)
    (a_is_number : PySem.W.nsIn K mainGlobals "is_number" = some (some (.ref f_is_number)))
    (l_is_number : K.lookup f_is_number = some ⟨oc_is_number, od_is_number, .func (PySem.W.fnOf "is_number" "is_number" (defArgs s_is_number) (defBody s_is_number) (defScope s_is_number) .none kV_is_number dc_is_number pm_is_number an_is_number cd_is_number ct_is_number), sl_is_number⟩)
    (c_is_number : PySem.W.codeIn K cd_is_number "is_number" = true)
    (k_is_number : PySem.W.keepIn K (.ref f_is_number) = true)
    (a_is_key : PySem.W.nsIn K mainGlobals "is_key" = some (some (.ref f_is_key)))
    (l_is_key : K.lookup f_is_key = some ⟨oc_is_key, od_is_key, .func (PySem.W.fnOf "is_key" "is_key" (defArgs s_is_key) (defBody s_is_key) (defScope s_is_key) .none kV_is_key dc_is_key pm_is_key an_is_key cd_is_key ct_is_key), sl_is_key⟩)
    (c_is_key : PySem.W.codeIn K cd_is_key "is_key" = true)
    (k_is_key : PySem.W.keepIn K (.ref f_is_key) = true)
    (a_is_tuple_of : PySem.W.nsIn K mainGlobals "is_tuple_of" = some (some (.ref f_is_tuple_of)))
    (l_is_tuple_of : K.lookup f_is_tuple_of = some ⟨oc_is_tuple_of, od_is_tuple_of, .func (PySem.W.fnOf "is_tuple_of" "is_tuple_of" (defArgs s_is_tuple_of) (defBody s_is_tuple_of) (defScope s_is_tuple_of) .none kV_is_tuple_of dc_is_tuple_of pm_is_tuple_of an_is_tuple_of cd_is_tuple_of ct_is_tuple_of), sl_is_tuple_of⟩)
    (c_is_tuple_of : PySem.W.codeIn K cd_is_tuple_of "is_tuple_of" = true)
    (k_is_tuple_of : PySem.W.keepIn K (.ref f_is_tuple_of) = true)
    (a_is_note : PySem.W.nsIn K mainGlobals "is_note" = some (some (.ref f_is_note)))
    (l_is_note : K.lookup f_is_note = some ⟨oc_is_note, od_is_note, .func (PySem.W.fnOf "is_note" "is_note" (defArgs s_is_note) (defBody s_is_note) (defScope s_is_note) .none kV_is_note dc_is_note pm_is_note an_is_note cd_is_note ct_is_note), sl_is_note⟩)
    (c_is_note : PySem.W.codeIn K cd_is_note "is_note" = true)
    (k_is_note : PySem.W.keepIn K (.ref f_is_note) = true)
    (a_is_tell : PySem.W.nsIn K mainGlobals "is_tell" = some (some (.ref f_is_tell)))
    (l_is_tell : K.lookup f_is_tell = some ⟨oc_is_tell, od_is_tell, .func (PySem.W.fnOf "is_tell" "is_tell" (defArgs s_is_tell) (defBody s_is_tell) (defScope s_is_tell) .none kV_is_tell dc_is_tell pm_is_tell an_is_tell cd_is_tell ct_is_tell), sl_is_tell⟩)
    (c_is_tell : PySem.W.codeIn K cd_is_tell "is_tell" = true)
    (k_is_tell : PySem.W.keepIn K (.ref f_is_tell) = true)
    (a_Receiver___init__ : PySem.W.findIn K (.ref C_Receiver) "__init__" = some (some (.ref f_Receiver___init__)))
    (i_Receiver___init__ : PySem.W.isFn K (.ref f_Receiver___init__) = true)
    (l_Receiver___init__ : K.lookup f_Receiver___init__ = some ⟨oc_Receiver___init__, od_Receiver___init__, .func (PySem.W.fnOf "__init__" "Receiver.__init__" (defArgs s_Receiver___init__) (defBody s_Receiver___init__) (defScope s_Receiver___init__) .none kV_Receiver___init__ dc_Receiver___init__ pm_Receiver___init__ an_Receiver___init__ cd_Receiver___init__ ct_Receiver___init__), sl_Receiver___init__⟩)
    (c_Receiver___init__ : PySem.W.codeIn K cd_Receiver___init__ "Receiver.__init__" = true)
    (k_Receiver___init__ : PySem.W.keepIn K (.ref f_Receiver___init__) = true)
    (a_Receiver_told : PySem.W.findIn K (.ref C_Receiver) "told" = some (some (.ref p_Receiver_told)))
    (g_Receiver_told : PySem.W.specialIn K (.ref p_Receiver_told) "__get__" = some (some (.builtin "property.__get__")))
    (t_Receiver_told : PySem.W.takesIn K (.ref p_Receiver_told) = some true)
    (r_Receiver_told : PySem.W.recIn K p_Receiver_told "property" = some (.ref f_Receiver_told :: rr_Receiver_told))
    (l_Receiver_told : K.lookup f_Receiver_told = some ⟨oc_Receiver_told, od_Receiver_told, .func (PySem.W.fnOf "told" "Receiver.told" (defArgs s_Receiver_told) (defBody s_Receiver_told) (defScope s_Receiver_told) .none kV_Receiver_told dc_Receiver_told pm_Receiver_told an_Receiver_told cd_Receiver_told ct_Receiver_told), sl_Receiver_told⟩)
    (c_Receiver_told : PySem.W.codeIn K cd_Receiver_told "Receiver.told" = true)
    (k_Receiver_told : PySem.W.keepIn K (.ref f_Receiver_told) = true)
    (a_Receiver_waiting : PySem.W.findIn K (.ref C_Receiver) "waiting" = some (some (.ref p_Receiver_waiting)))
    (g_Receiver_waiting : PySem.W.specialIn K (.ref p_Receiver_waiting) "__get__" = some (some (.builtin "property.__get__")))
    (t_Receiver_waiting : PySem.W.takesIn K (.ref p_Receiver_waiting) = some true)
    (r_Receiver_waiting : PySem.W.recIn K p_Receiver_waiting "property" = some (.ref f_Receiver_waiting :: rr_Receiver_waiting))
    (l_Receiver_waiting : K.lookup f_Receiver_waiting = some ⟨oc_Receiver_waiting, od_Receiver_waiting, .func (PySem.W.fnOf "waiting" "Receiver.waiting" (defArgs s_Receiver_waiting) (defBody s_Receiver_waiting) (defScope s_Receiver_waiting) .none kV_Receiver_waiting dc_Receiver_waiting pm_Receiver_waiting an_Receiver_waiting cd_Receiver_waiting ct_Receiver_waiting), sl_Receiver_waiting⟩)
    (c_Receiver_waiting : PySem.W.codeIn K cd_Receiver_waiting "Receiver.waiting" = true)
    (k_Receiver_waiting : PySem.W.keepIn K (.ref f_Receiver_waiting) = true)
    (a_Receiver_take : PySem.W.findIn K (.ref C_Receiver) "take" = some (some (.ref f_Receiver_take)))
    (i_Receiver_take : PySem.W.isFn K (.ref f_Receiver_take) = true)
    (l_Receiver_take : K.lookup f_Receiver_take = some ⟨oc_Receiver_take, od_Receiver_take, .func (PySem.W.fnOf "take" "Receiver.take" (defArgs s_Receiver_take) (defBody s_Receiver_take) (defScope s_Receiver_take) .none kV_Receiver_take dc_Receiver_take pm_Receiver_take an_Receiver_take cd_Receiver_take ct_Receiver_take), sl_Receiver_take⟩)
    (c_Receiver_take : PySem.W.codeIn K cd_Receiver_take "Receiver.take" = true)
    (k_Receiver_take : PySem.W.keepIn K (.ref f_Receiver_take) = true)
    (a_law_well : PySem.W.nsIn K mainGlobals "_law_well" = some (some (.ref f_law_well)))
    (l_law_well : K.lookup f_law_well = some ⟨oc_law_well, od_law_well, .func (PySem.W.fnOf "_law_well" "_law_well" (defArgs s_law_well) (defBody s_law_well) (defScope s_law_well) .none kV_law_well dc_law_well pm_law_well an_law_well cd_law_well ct_law_well), sl_law_well⟩)
    (c_law_well : PySem.W.codeIn K cd_law_well "_law_well" = true)
    (k_law_well : PySem.W.keepIn K (.ref f_law_well) = true)
    (a_law_draw : PySem.W.nsIn K mainGlobals "_law_draw" = some (some (.ref f_law_draw)))
    (l_law_draw : K.lookup f_law_draw = some ⟨oc_law_draw, od_law_draw, .func (PySem.W.fnOf "_law_draw" "_law_draw" (defArgs s_law_draw) (defBody s_law_draw) (defScope s_law_draw) .none kV_law_draw dc_law_draw pm_law_draw an_law_draw cd_law_draw ct_law_draw), sl_law_draw⟩)
    (c_law_draw : PySem.W.codeIn K cd_law_draw "_law_draw" = true)
    (k_law_draw : PySem.W.keepIn K (.ref f_law_draw) = true)
    (a_law_of : PySem.W.nsIn K mainGlobals "_law_of" = some (some (.ref f_law_of)))
    (l_law_of : K.lookup f_law_of = some ⟨oc_law_of, od_law_of, .func (PySem.W.fnOf "_law_of" "_law_of" (defArgs s_law_of) (defBody s_law_of) (defScope s_law_of) .none kV_law_of dc_law_of pm_law_of an_law_of cd_law_of ct_law_of), sl_law_of⟩)
    (c_law_of : PySem.W.codeIn K cd_law_of "_law_of" = true)
    (k_law_of : PySem.W.keepIn K (.ref f_law_of) = true)
    (a_law_same : PySem.W.nsIn K mainGlobals "_law_same" = some (some (.ref f_law_same)))
    (l_law_same : K.lookup f_law_same = some ⟨oc_law_same, od_law_same, .func (PySem.W.fnOf "_law_same" "_law_same" (defArgs s_law_same) (defBody s_law_same) (defScope s_law_same) .none kV_law_same dc_law_same pm_law_same an_law_same cd_law_same ct_law_same), sl_law_same⟩)
    (c_law_same : PySem.W.codeIn K cd_law_same "_law_same" = true)
    (k_law_same : PySem.W.keepIn K (.ref f_law_same) = true)
    (a_law_list : PySem.W.nsIn K mainGlobals "_law_list" = some (some (.ref f_law_list)))
    (l_law_list : K.lookup f_law_list = some ⟨oc_law_list, od_law_list, .func (PySem.W.fnOf "_law_list" "_law_list" (defArgs s_law_list) (defBody s_law_list) (defScope s_law_list) .none kV_law_list dc_law_list pm_law_list an_law_list cd_law_list ct_law_list), sl_law_list⟩)
    (c_law_list : PySem.W.codeIn K cd_law_list "_law_list" = true)
    (k_law_list : PySem.W.keepIn K (.ref f_law_list) = true)
    (a_law_take : PySem.W.nsIn K mainGlobals "_law_take" = some (some (.ref f_law_take)))
    (l_law_take : K.lookup f_law_take = some ⟨oc_law_take, od_law_take, .func (PySem.W.fnOf "_law_take" "_law_take" (defArgs s_law_take) (defBody s_law_take) (defScope s_law_take) .none kV_law_take dc_law_take pm_law_take an_law_take cd_law_take ct_law_take), sl_law_take⟩)
    (c_law_take : PySem.W.codeIn K cd_law_take "_law_take" = true)
    (k_law_take : PySem.W.keepIn K (.ref f_law_take) = true)
    (a_law_due : PySem.W.nsIn K mainGlobals "_law_due" = some (some (.ref f_law_due)))
    (l_law_due : K.lookup f_law_due = some ⟨oc_law_due, od_law_due, .func (PySem.W.fnOf "_law_due" "_law_due" (defArgs s_law_due) (defBody s_law_due) (defScope s_law_due) .none kV_law_due dc_law_due pm_law_due an_law_due cd_law_due ct_law_due), sl_law_due⟩)
    (c_law_due : PySem.W.codeIn K cd_law_due "_law_due" = true)
    (k_law_due : PySem.W.keepIn K (.ref f_law_due) = true)
    (a_law_is_so : PySem.W.nsIn K mainGlobals "_law_is_so" = some (some (.ref f_law_is_so)))
    (l_law_is_so : K.lookup f_law_is_so = some ⟨oc_law_is_so, od_law_is_so, .func (PySem.W.fnOf "_law_is_so" "_law_is_so" (defArgs s_law_is_so) (defBody s_law_is_so) (defScope s_law_is_so) .none kV_law_is_so dc_law_is_so pm_law_is_so an_law_is_so cd_law_is_so ct_law_is_so), sl_law_is_so⟩)
    (c_law_is_so : PySem.W.codeIn K cd_law_is_so "_law_is_so" = true)
    (k_law_is_so : PySem.W.keepIn K (.ref f_law_is_so) = true)
    (a_law_heard : PySem.W.nsIn K mainGlobals "_law_heard" = some (some (.ref f_law_heard)))
    (l_law_heard : K.lookup f_law_heard = some ⟨oc_law_heard, od_law_heard, .func (PySem.W.fnOf "_law_heard" "_law_heard" (defArgs s_law_heard) (defBody s_law_heard) (defScope s_law_heard) .none kV_law_heard dc_law_heard pm_law_heard an_law_heard cd_law_heard ct_law_heard), sl_law_heard⟩)
    (c_law_heard : PySem.W.codeIn K cd_law_heard "_law_heard" = true)
    (k_law_heard : PySem.W.keepIn K (.ref f_law_heard) = true)
    (a_law_right : PySem.W.nsIn K mainGlobals "_law_right" = some (some (.ref f_law_right)))
    (l_law_right : K.lookup f_law_right = some ⟨oc_law_right, od_law_right, .func (PySem.W.fnOf "_law_right" "_law_right" (defArgs s_law_right) (defBody s_law_right) (defScope s_law_right) .none kV_law_right dc_law_right pm_law_right an_law_right cd_law_right ct_law_right), sl_law_right⟩)
    (c_law_right : PySem.W.codeIn K cd_law_right "_law_right" = true)
    (k_law_right : PySem.W.keepIn K (.ref f_law_right) = true)
    (a_law : PySem.W.nsIn K mainGlobals "law" = some (some (.ref f_law)))
    (l_law : K.lookup f_law = some ⟨oc_law, od_law, .func (PySem.W.fnOf "law" "law" (defArgs s_law) (defBody s_law) (defScope s_law) .none kV_law dc_law pm_law an_law cd_law ct_law), sl_law⟩)
    (c_law : PySem.W.codeIn K cd_law "law" = true)
    (k_law : PySem.W.keepIn K (.ref f_law) = true)
    (aC_Receiver : PySem.W.nsIn K mainGlobals "Receiver" = some (some (.ref C_Receiver)))
    (pg_Receiver : PySem.W.plainGet K C_Receiver Str.empty = true)
    (hd_Receiver : PySem.W.hasDictIn K C_Receiver = true)
    (po_Receiver : PySem.W.plainOver K C_Receiver = true)
    (sa_Receiver : PySem.W.findIn K (.ref C_Receiver) "__setattr__" = some (some (.builtin "object.__setattr__")))
    (mk_Receiver : PySem.W.makesIn K C_Receiver = true)
    (kc_Receiver : PySem.W.keepIn K (.ref C_Receiver) = true)
    (na_Receiver_done : PySem.W.findIn K (.ref C_Receiver) "done" = some none)
    (na_Receiver_early : PySem.W.findIn K (.ref C_Receiver) "early" = some none)
    (aC_Clash : PySem.W.nsIn K mainGlobals "Clash" = some (some (.ref C_Clash)))
    (xL_Clash : K.lookup C_Clash = some (excClassObj nm_Clash q_Clash C_Clash N_Clash bs_Clash bm_Clash true sn_Clash sub_Clash ab_Clash col_Clash dd_Clash m0_Clash m1_Clash m2_Clash m3_Clash m5_Clash "ValueError.__new__"))
    (rf_Clash : PySem.HandSPX.refsVE bm_Clash = true)
    (sa_Clash : PySem.W.findIn K (.ref C_Clash) "__setattr__" = some (some (.builtin "object.__setattr__")))
    (ga_Clash : PySem.W.findIn K (.ref C_Clash) "__getattribute__" = some (some (.builtin "BaseException.__getattribute__")))
    (gg_Clash : PySem.W.findIn K (.ref C_Clash) "__getattr__" = some none)
    (nn_Clash : PySem.W.findIn K (.ref C_Clash) "number" = some none)
    (ai_Clash : PySem.W.findIn K (.ref C_Clash) "__init__" = some (some (.ref fi_Clash)))
    (ti_Clash : PySem.W.typeIn K (.ref fi_Clash) = some (.type "function"))
    (li_Clash : K.lookup fi_Clash = some ⟨oc_Clash, od_Clash, .func (PySem.W.fnX "__init__" "Clash.__init__" (SupX.iA "number" ⟨11, 17, 11, 21⟩ ⟨11, 23, 11, 29⟩) (SupX.iB "number" ⟨12, 8, 12, 13⟩ ⟨12, 8, 12, 15⟩ ⟨12, 8, 12, 24⟩ ⟨12, 25, 12, 31⟩ ⟨12, 8, 12, 32⟩ ⟨12, 8, 12, 32⟩ ⟨13, 8, 13, 12⟩ ⟨13, 8, 13, 19⟩ ⟨13, 22, 13, 28⟩ ⟨13, 8, 13, 28⟩) (SupX.iS "number") [("__class__", cc_Clash)] .none .none dc_Clash pm_Clash an_Clash (.ref cda_Clash) ct_Clash), osl_Clash⟩)
    (ci_Clash : PySem.W.codeIn K (.ref cda_Clash) "Clash.__init__" = true)
    (lc_Clash : K.lookup cda_Clash = some ⟨ccl_Clash, cdd_Clash, .fields vs_Clash, ccs_Clash⟩)
    (vf_Clash : vs_Clash[2]? = some (.str file_Clash tf_Clash))
    (ff_Clash : ((P.main.file : Str) == file_Clash) = true)
    (lk_Clash : K.lookup cc_Clash = some ⟨cll_Clash, cld_Clash, .cell (some (.ref C_Clash)), csl_Clash⟩)
    (kC_Clash : PySem.W.keepIn K (.ref C_Clash) = true)
    (eC_Clash : PySem.W.subIn K (.ref C_Clash) (.type "BaseException") = some true)
    (vC_Clash : PySem.W.subIn K (.ref C_Clash) (.type "ValueError") = some true)
    (tC_Clash : PySem.W.typeIn K (.ref C_Clash) = some (.type "type"))
    (hC_Clash : PySem.W.hasDictIn K C_Clash = true)
    (iC_Clash : PySem.W.isClsIn K C_Clash = true)
    (mr_Clash : PySem.W.mroIn K C_Clash (.ref C_Clash) = some true)
    (sC_Clash : PySem.W.subIn K (.ref C_Clash) (.ref C_Clash) = some true)
    (su_Clash : PySem.W.ks_superIn K C_Clash C_Clash "__init__" = some (some (.builtin "ValueError.__init__")))
    (thp : PySem.W.nsIn K PySem.cStatics "thirdparty.any" = some none)
    (zsuper : PySem.W.nsIn K mainGlobals "super" = some none)
    (htop : (P.main.scope.names.lookup ("super" : Str)).isSome = false)
    (n_MOST_KEY : PySem.W.nsIn K mainGlobals "MOST_KEY" = some (some (.int (999) t_MOST_KEY)))
    (n_WORDS : PySem.W.nsIn K mainGlobals "WORDS" = some (some (.ref a_WORDS)))
    (lt_WORDS : K.lookup a_WORDS = some ⟨.type "tuple", od_WORDS, .seq #[.str "came" t0_WORDS, .str "new" t1_WORDS, .str "went" t2_WORDS] ep_WORDS, sl_WORDS⟩)
    (z_abs : PySem.W.nsIn K mainGlobals "abs" = some none)
    (z_all : PySem.W.nsIn K mainGlobals "all" = some none)
    (z_bool : PySem.W.nsIn K mainGlobals "bool" = some none)
    (z_divmod : PySem.W.nsIn K mainGlobals "divmod" = some none)
    (z_int : PySem.W.nsIn K mainGlobals "int" = some none)
    (z_isinstance : PySem.W.nsIn K mainGlobals "isinstance" = some none)
    (z_len : PySem.W.nsIn K mainGlobals "len" = some none)
    (z_max : PySem.W.nsIn K mainGlobals "max" = some none)
    (z_range : PySem.W.nsIn K mainGlobals "range" = some none)
    (z_sorted : PySem.W.nsIn K mainGlobals "sorted" = some none)
    (z_str : PySem.W.nsIn K mainGlobals "str" = some none)
    (z_tuple : PySem.W.nsIn K mainGlobals "tuple" = some none) : ∃ T : Txt P K mg, T.f_law = f_law := by
  have F_is_whole := fun_mk (st := s_is_whole) l_is_whole c_is_whole k_is_whole
  have b_is_whole := F_is_whole.binds (ps := ["value"]) fun _ _ _ _ _ _ us hl => match us, hl with | [_], _ => rfl
  have F_is_number := fun_mk (st := s_is_number) l_is_number c_is_number k_is_number
  have b_is_number := F_is_number.binds (ps := ["value", "low", "high"]) fun _ _ _ _ _ _ us hl => match us, hl with | [_, _, _], _ => rfl
  have F_is_key := fun_mk (st := s_is_key) l_is_key c_is_key k_is_key
  have b_is_key := F_is_key.binds (ps := ["value"]) fun _ _ _ _ _ _ us hl => match us, hl with | [_], _ => rfl
  have F_is_tuple_of := fun_mk (st := s_is_tuple_of) l_is_tuple_of c_is_tuple_of k_is_tuple_of
  have b_is_tuple_of := F_is_tuple_of.binds (ps := ["value", "many"]) fun _ _ _ _ _ _ us hl => match us, hl with | [_, _], _ => rfl
  have F_is_note := fun_mk (st := s_is_note) l_is_note c_is_note k_is_note
  have b_is_note := F_is_note.binds (ps := ["value"]) fun _ _ _ _ _ _ us hl => match us, hl with | [_], _ => rfl
  have F_is_tell := fun_mk (st := s_is_tell) l_is_tell c_is_tell k_is_tell
  have b_is_tell := F_is_tell.binds (ps := ["value"]) fun _ _ _ _ _ _ us hl => match us, hl with | [_], _ => rfl
  have F_Receiver___init__ := fun_mk (st := s_Receiver___init__) l_Receiver___init__ c_Receiver___init__ k_Receiver___init__
  have b_Receiver___init__ := F_Receiver___init__.binds (ps := ["self"]) fun _ _ _ _ _ _ us hl => match us, hl with | [_], _ => rfl
  have F_Receiver_told := fun_mk (st := s_Receiver_told) l_Receiver_told c_Receiver_told k_Receiver_told
  have b_Receiver_told := F_Receiver_told.binds (ps := ["self"]) fun _ _ _ _ _ _ us hl => match us, hl with | [_], _ => rfl
  have F_Receiver_waiting := fun_mk (st := s_Receiver_waiting) l_Receiver_waiting c_Receiver_waiting k_Receiver_waiting
  have b_Receiver_waiting := F_Receiver_waiting.binds (ps := ["self"]) fun _ _ _ _ _ _ us hl => match us, hl with | [_], _ => rfl
  have F_Receiver_take := fun_mk (st := s_Receiver_take) l_Receiver_take c_Receiver_take k_Receiver_take
  have b_Receiver_take := F_Receiver_take.binds (ps := ["self", "tell"]) fun _ _ _ _ _ _ us hl => match us, hl with | [_, _], _ => rfl
  have kb_Receiver_take_tell : KBinds K (PySem.W.fnOf "take" "Receiver.take" (defArgs s_Receiver_take) (defBody s_Receiver_take) (defScope s_Receiver_take) .none kV_Receiver_take dc_Receiver_take pm_Receiver_take an_Receiver_take cd_Receiver_take ct_Receiver_take) ["self", "tell"] ["tell"] (fun us ws => kbG 1 1 us ws) (fun us ws => kbG 1 1 us ws) := kb_Receiver_take_tell
  have F_law_well := fun_mk (st := s_law_well) l_law_well c_law_well k_law_well
  have b_law_well := F_law_well.binds (ps := ["script", "lap"]) fun _ _ _ _ _ _ us hl => match us, hl with | [_, _], _ => rfl
  have F_law_draw := fun_mk (st := s_law_draw) l_law_draw c_law_draw k_law_draw
  have b_law_draw := F_law_draw.binds (ps := ["well", "limit"]) fun _ _ _ _ _ _ us hl => match us, hl with | [_, _], _ => rfl
  have F_law_of := fun_mk (st := s_law_of) l_law_of c_law_of k_law_of
  have b_law_of := F_law_of.binds (ps := ["well", "some"]) fun _ _ _ _ _ _ us hl => match us, hl with | [_, _], _ => rfl
  have F_law_same := fun_mk (st := s_law_same) l_law_same c_law_same k_law_same
  have b_law_same := F_law_same.binds (ps := ["one", "two"]) fun _ _ _ _ _ _ us hl => match us, hl with | [_, _], _ => rfl
  have F_law_list := fun_mk (st := s_law_list) l_law_list c_law_list k_law_list
  have b_law_list := F_law_list.binds (ps := ["well", "many"]) fun _ _ _ _ _ _ us hl => match us, hl with | [_, _], _ => rfl
  have F_law_take := fun_mk (st := s_law_take) l_law_take c_law_take k_law_take
  have b_law_take := F_law_take.binds (ps := ["receiver", "tell", "is_named"]) fun _ _ _ _ _ _ us hl => match us, hl with | [_, _, _], _ => rfl
  have F_law_due := fun_mk (st := s_law_due) l_law_due c_law_due k_law_due
  have b_law_due := F_law_due.binds (ps := ["model", "tell"]) fun _ _ _ _ _ _ us hl => match us, hl with | [_, _], _ => rfl
  have F_law_is_so := fun_mk (st := s_law_is_so) l_law_is_so c_law_is_so k_law_is_so
  have b_law_is_so := F_law_is_so.binds (ps := ["receiver", "model"]) fun _ _ _ _ _ _ us hl => match us, hl with | [_, _], _ => rfl
  have F_law_heard := fun_mk (st := s_law_heard) l_law_heard c_law_heard k_law_heard
  have b_law_heard := F_law_heard.binds (ps := ["heard", "due"]) fun _ _ _ _ _ _ us hl => match us, hl with | [_, _], _ => rfl
  have F_law_right := fun_mk (st := s_law_right) l_law_right c_law_right k_law_right
  have b_law_right := F_law_right.binds (ps := ["well"]) fun _ _ _ _ _ _ us hl => match us, hl with | [_], _ => rfl
  have F_law := fun_mk (st := s_law) l_law c_law k_law
  have b_law := F_law.binds (ps := ["script"]) fun _ _ _ _ _ _ us hl => match us, hl with | [_], _ => rfl
  have e_Clash : SupX.SupTxt P K mg "Clash" "Clash.__init__" "number" C_Clash fi_Clash :=
    { gC := PySem.W.mg_of X G aC_Clash, cls := ⟨_, _, _, _, _, _, _, _, _, _, _, _, _, _, _, xL_Clash, rf_Clash⟩, sa := sa_Clash, ga := ga_Clash, gg := gg_Clash, noN := nn_Clash, iC := ai_Clash, tC := ti_Clash, kC := kC_Clash, exC := eC_Clash, veC := vC_Clash, tyC := tC_Clash, hdC := hC_Clash, slf := mr_Clash, sup := su_Clash, thp := thp,
      gS := PySem.W.mg_none_of X G zsuper, top := htop, nF := by decide, lF := rfl, lC := rfl, lS := rfl, dF := by decide, bnd := fun _ _ _ _ _ _ _ _ _ _ _ _ => rfl,
      fn := ⟨_, _, _, _, _, _, _, _, _, _, _, _, _, _, _, _, _, _, _, _, _, _, _, _, _, _, _, _, _, _, li_Clash, ci_Clash, lc_Clash, vf_Clash, ff_Clash, rfl, lk_Clash⟩ }
  exact ⟨{ f_is_whole := f_is_whole, d_is_whole := _, F_is_whole := F_is_whole, b_is_whole := b_is_whole, g_is_whole := PySem.W.mg_of X G a_is_whole, f_is_number := f_is_number, d_is_number := _, F_is_number := F_is_number, b_is_number := b_is_number, g_is_number := PySem.W.mg_of X G a_is_number, f_is_key := f_is_key, d_is_key := _, F_is_key := F_is_key, b_is_key := b_is_key, g_is_key := PySem.W.mg_of X G a_is_key, f_is_tuple_of := f_is_tuple_of, d_is_tuple_of := _, F_is_tuple_of := F_is_tuple_of, b_is_tuple_of := b_is_tuple_of, g_is_tuple_of := PySem.W.mg_of X G a_is_tuple_of, f_is_note := f_is_note, d_is_note := _, F_is_note := F_is_note, b_is_note := b_is_note, g_is_note := PySem.W.mg_of X G a_is_note, f_is_tell := f_is_tell, d_is_tell := _, F_is_tell := F_is_tell, b_is_tell := b_is_tell, g_is_tell := PySem.W.mg_of X G a_is_tell, f_Receiver___init__ := f_Receiver___init__, d_Receiver___init__ := _, F_Receiver___init__ := F_Receiver___init__, b_Receiver___init__ := b_Receiver___init__, f_Receiver_told := f_Receiver_told, d_Receiver_told := _, F_Receiver_told := F_Receiver_told, b_Receiver_told := b_Receiver_told, f_Receiver_waiting := f_Receiver_waiting, d_Receiver_waiting := _, F_Receiver_waiting := F_Receiver_waiting, b_Receiver_waiting := b_Receiver_waiting, f_Receiver_take := f_Receiver_take, d_Receiver_take := _, F_Receiver_take := F_Receiver_take, b_Receiver_take := b_Receiver_take, kb_Receiver_take_tell := kb_Receiver_take_tell, f_law_well := f_law_well, d_law_well := _, F_law_well := F_law_well, b_law_well := b_law_well, g__law_well := PySem.W.mg_of X G a_law_well, f_law_draw := f_law_draw, d_law_draw := _, F_law_draw := F_law_draw, b_law_draw := b_law_draw, g__law_draw := PySem.W.mg_of X G a_law_draw, f_law_of := f_law_of, d_law_of := _, F_law_of := F_law_of, b_law_of := b_law_of, g__law_of := PySem.W.mg_of X G a_law_of, f_law_same := f_law_same, d_law_same := _, F_law_same := F_law_same, b_law_same := b_law_same, g__law_same := PySem.W.mg_of X G a_law_same, f_law_list := f_law_list, d_law_list := _, F_law_list := F_law_list, b_law_list := b_law_list, g__law_list := PySem.W.mg_of X G a_law_list, f_law_take := f_law_take, d_law_take := _, F_law_take := F_law_take, b_law_take := b_law_take, g__law_take := PySem.W.mg_of X G a_law_take, f_law_due := f_law_due, d_law_due := _, F_law_due := F_law_due, b_law_due := b_law_due, g__law_due := PySem.W.mg_of X G a_law_due, f_law_is_so := f_law_is_so, d_law_is_so := _, F_law_is_so := F_law_is_so, b_law_is_so := b_law_is_so, g__law_is_so := PySem.W.mg_of X G a_law_is_so, f_law_heard := f_law_heard, d_law_heard := _, F_law_heard := F_law_heard, b_law_heard := b_law_heard, g__law_heard := PySem.W.mg_of X G a_law_heard, f_law_right := f_law_right, d_law_right := _, F_law_right := F_law_right, b_law_right := b_law_right, g__law_right := PySem.W.mg_of X G a_law_right, f_law := f_law, d_law := _, F_law := F_law, b_law := b_law, g_law := PySem.W.mg_of X G a_law, C_Receiver := C_Receiver, g_Receiver := PySem.W.mg_of X G aC_Receiver, cl_Receiver := ⟨pg_Receiver, hd_Receiver, po_Receiver, sa_Receiver⟩, mk_Receiver := ⟨mk_Receiver, a_Receiver___init__, i_Receiver___init__, kc_Receiver⟩, na_Receiver_done := na_Receiver_done, na_Receiver_early := na_Receiver_early, pa_Receiver_told := p_Receiver_told, p_Receiver_told := ⟨a_Receiver_told, g_Receiver_told, t_Receiver_told, ⟨_, r_Receiver_told⟩⟩, pa_Receiver_waiting := p_Receiver_waiting, p_Receiver_waiting := ⟨a_Receiver_waiting, g_Receiver_waiting, t_Receiver_waiting, ⟨_, r_Receiver_waiting⟩⟩, me_Receiver_take := ⟨a_Receiver_take, i_Receiver_take, k_Receiver_take⟩, C_Clash := C_Clash, fi_Clash := fi_Clash, e_Clash := e_Clash, x_Clash := SupX.exm_self eC_Clash iC_Clash tC_Clash sC_Clash, t_MOST_KEY := _, g_MOST_KEY := PySem.W.mg_of X G n_MOST_KEY, a_WORDS := _, g_WORDS := PySem.W.mg_of X G n_WORDS, q_WORDS := fun H => .inr ⟨_, _, _, lt_WORDS, rfl, rfl, by show 3 ≤ sizeLine; decide, (.cons ⟨_, rfl⟩ (.cons ⟨_, rfl⟩ (.cons ⟨_, rfl⟩ .nil)))⟩, z_abs := PySem.W.mg_none_of X G z_abs, z_all := PySem.W.mg_none_of X G z_all, z_bool := PySem.W.mg_none_of X G z_bool, z_divmod := PySem.W.mg_none_of X G z_divmod, z_int := PySem.W.mg_none_of X G z_int, z_isinstance := PySem.W.mg_none_of X G z_isinstance, z_len := PySem.W.mg_none_of X G z_len, z_max := PySem.W.mg_none_of X G z_max, z_range := PySem.W.mg_none_of X G z_range, z_sorted := PySem.W.mg_none_of X G z_sorted, z_str := PySem.W.mg_none_of X G z_str, z_tuple := PySem.W.mg_none_of X G z_tuple }, rfl⟩
theorem walk {q : Program} {loose : List Str} {XP : (Str → Option Value) → Heap → Prop} {YP : World → Heap → Prop} {d : DefRec} {K : Params → PySem.W.Frag} (hdn : d.name = "law") (hdf : d.params.defaults = [])
    (hY : ∀ (w : World) (h : Heap), YP w h → (K w.params).In h)
    (F : ∀ (w : World) (mg : Str → Option Value) (h : Heap), (K w.params).In h → h.Ns mainGlobals mg → ∃ T : Txt PySem.Challenge.pw_plainscan_k88_whole_receivers (K w.params) mg, True) :
    PySem.W.WalkO q loose XP YP PySem.Challenge.rw_plainscan_k88_whole_receivers.row.toRowW d [] (fun f vs => PySem.call f vs) :=
  L2.walk_of (n := 63) (k := 9) (x := "script") (CX := fun _ => CX0) (sp := fun w => spLaw (K w.params)) rfl (by decide) hdf ⟨rfl, by decide, by decide⟩ hY (fun w mg fa h KX G hfa => by
    obtain ⟨T, _⟩ := F w mg h KX G
    have e : fa = T.f_law := by
      have z := T.g_law
      rw [hdn] at hfa
      rw [hfa] at z
      cases z
      rfl
    subst e
    refine ⟨T.d_law, fun s v => ?_, fun base _ _ => ok_law T⟩
    have z := T.F_law.ex
    obtain ⟨_, _, _, _, _, _, _, _, _, e, _⟩ := z
    rw [e]
    exact .of_eq rfl) (fun _ _ a ns hl _ hS => ⟨a, ns, rfl, hS, hl, fun _ => rfl⟩) fun _ _ _ _ _ z => z

end K88
open PySem PySem.W PyProof.Rows in
set_option maxRecDepth 100000 in
set_option maxHeartbeats 0 in
theorem PySem.Challenge.cw_plainscan_k88_whole_receivers_holds : PySem.Challenge.rw_plainscan_k88_whole_receivers.Holds := by
  w_on; o_law; k_head; (case hw => w_witness2)
  k_fill
  refine K88.walk rfl rfl (fun w h Y => PySem.W.kIn_of Y) ?F
  case F =>
    intro w mg h KX G
    refine' Exists.elim (K88.txt_mk KX G ?a_is_whole ?l_is_whole ?c_is_whole ?k_is_whole ?a_is_number ?l_is_number ?c_is_number ?k_is_number ?a_is_key ?l_is_key ?c_is_key ?k_is_key ?a_is_tuple_of ?l_is_tuple_of ?c_is_tuple_of ?k_is_tuple_of ?a_is_note ?l_is_note ?c_is_note ?k_is_note ?a_is_tell ?l_is_tell ?c_is_tell ?k_is_tell ?a_Receiver___init__ ?i_Receiver___init__ ?l_Receiver___init__ ?c_Receiver___init__ ?k_Receiver___init__ ?a_Receiver_told ?g_Receiver_told ?t_Receiver_told ?r_Receiver_told ?l_Receiver_told ?c_Receiver_told ?k_Receiver_told ?a_Receiver_waiting ?g_Receiver_waiting ?t_Receiver_waiting ?r_Receiver_waiting ?l_Receiver_waiting ?c_Receiver_waiting ?k_Receiver_waiting ?a_Receiver_take ?i_Receiver_take ?l_Receiver_take ?c_Receiver_take ?k_Receiver_take ?a_law_well ?l_law_well ?c_law_well ?k_law_well ?a_law_draw ?l_law_draw ?c_law_draw ?k_law_draw ?a_law_of ?l_law_of ?c_law_of ?k_law_of ?a_law_same ?l_law_same ?c_law_same ?k_law_same ?a_law_list ?l_law_list ?c_law_list ?k_law_list ?a_law_take ?l_law_take ?c_law_take ?k_law_take ?a_law_due ?l_law_due ?c_law_due ?k_law_due ?a_law_is_so ?l_law_is_so ?c_law_is_so ?k_law_is_so ?a_law_heard ?l_law_heard ?c_law_heard ?k_law_heard ?a_law_right ?l_law_right ?c_law_right ?k_law_right ?a_law ?l_law ?c_law ?k_law ?aC_Receiver ?pg_Receiver ?hd_Receiver ?po_Receiver ?sa_Receiver ?mk_Receiver ?kc_Receiver ?na_Receiver_done ?na_Receiver_early ?aC_Clash ?xL_Clash ?rf_Clash ?sa_Clash ?ga_Clash ?gg_Clash ?nn_Clash ?ai_Clash ?ti_Clash ?li_Clash ?ci_Clash ?lc_Clash ?vf_Clash ?ff_Clash ?lk_Clash ?kC_Clash ?eC_Clash ?vC_Clash ?tC_Clash ?hC_Clash ?iC_Clash ?mr_Clash ?sC_Clash ?su_Clash ?thp ?zsuper ?htop ?n_MOST_KEY ?n_WORDS ?lt_WORDS ?z_abs ?z_all ?z_bool ?z_divmod ?z_int ?z_isinstance ?z_len ?z_max ?z_range ?z_sorted ?z_str ?z_tuple) (fun T _ => ⟨T, trivial⟩)
    (case aC_Receiver => k_is)
    (case aC_Clash => k_is)
    (case a_is_whole => k_is)
    (case l_is_whole => k_is)
    (case c_is_whole => k_is)
    (case k_is_whole => k_is)
    (case a_is_number => k_is)
    (case l_is_number => k_is)
    (case c_is_number => k_is)
    (case k_is_number => k_is)
    (case a_is_key => k_is)
    (case l_is_key => k_is)
    (case c_is_key => k_is)
    (case k_is_key => k_is)
    (case a_is_tuple_of => k_is)
    (case l_is_tuple_of => k_is)
    (case c_is_tuple_of => k_is)
    (case k_is_tuple_of => k_is)
    (case a_is_note => k_is)
    (case l_is_note => k_is)
    (case c_is_note => k_is)
    (case k_is_note => k_is)
    (case a_is_tell => k_is)
    (case l_is_tell => k_is)
    (case c_is_tell => k_is)
    (case k_is_tell => k_is)
    (case a_Receiver___init__ => k_is)
    (case i_Receiver___init__ => k_is)
    (case l_Receiver___init__ => k_is)
    (case c_Receiver___init__ => k_is)
    (case k_Receiver___init__ => k_is)
    (case a_Receiver_told => k_is)
    (case g_Receiver_told => k_is)
    (case t_Receiver_told => k_is)
    (case r_Receiver_told => k_is)
    (case l_Receiver_told => k_is)
    (case c_Receiver_told => k_is)
    (case k_Receiver_told => k_is)
    (case a_Receiver_waiting => k_is)
    (case g_Receiver_waiting => k_is)
    (case t_Receiver_waiting => k_is)
    (case r_Receiver_waiting => k_is)
    (case l_Receiver_waiting => k_is)
    (case c_Receiver_waiting => k_is)
    (case k_Receiver_waiting => k_is)
    (case a_Receiver_take => k_is)
    (case i_Receiver_take => k_is)
    (case l_Receiver_take => k_is)
    (case c_Receiver_take => k_is)
    (case k_Receiver_take => k_is)
    (case a_law_well => k_is)
    (case l_law_well => k_is)
    (case c_law_well => k_is)
    (case k_law_well => k_is)
    (case a_law_draw => k_is)
    (case l_law_draw => k_is)
    (case c_law_draw => k_is)
    (case k_law_draw => k_is)
    (case a_law_of => k_is)
    (case l_law_of => k_is)
    (case c_law_of => k_is)
    (case k_law_of => k_is)
    (case a_law_same => k_is)
    (case l_law_same => k_is)
    (case c_law_same => k_is)
    (case k_law_same => k_is)
    (case a_law_list => k_is)
    (case l_law_list => k_is)
    (case c_law_list => k_is)
    (case k_law_list => k_is)
    (case a_law_take => k_is)
    (case l_law_take => k_is)
    (case c_law_take => k_is)
    (case k_law_take => k_is)
    (case a_law_due => k_is)
    (case l_law_due => k_is)
    (case c_law_due => k_is)
    (case k_law_due => k_is)
    (case a_law_is_so => k_is)
    (case l_law_is_so => k_is)
    (case c_law_is_so => k_is)
    (case k_law_is_so => k_is)
    (case a_law_heard => k_is)
    (case l_law_heard => k_is)
    (case c_law_heard => k_is)
    (case k_law_heard => k_is)
    (case a_law_right => k_is)
    (case l_law_right => k_is)
    (case c_law_right => k_is)
    (case k_law_right => k_is)
    (case a_law => k_is)
    (case l_law => k_is)
    (case c_law => k_is)
    (case k_law => k_is)
    (case pg_Receiver => k_is)
    (case hd_Receiver => k_is)
    (case po_Receiver => k_is)
    (case sa_Receiver => k_is)
    (case mk_Receiver => k_is)
    (case kc_Receiver => k_is)
    (case na_Receiver_done => k_is)
    (case na_Receiver_early => k_is)
    (case xL_Clash => k_is)
    (case rf_Clash => first | rfl | decide +kernel)
    (case sa_Clash => k_is)
    (case ga_Clash => k_is)
    (case gg_Clash => k_is)
    (case nn_Clash => k_is)
    (case ai_Clash => k_is)
    (case ti_Clash => k_is)
    (case li_Clash => k_is)
    (case ci_Clash => k_is)
    (case lc_Clash => k_is)
    (case vf_Clash => first | rfl | decide +kernel)
    (case ff_Clash => first | rfl | decide +kernel)
    (case lk_Clash => k_is)
    (case kC_Clash => k_is)
    (case eC_Clash => k_is)
    (case vC_Clash => k_is)
    (case tC_Clash => k_is)
    (case hC_Clash => k_is)
    (case iC_Clash => k_is)
    (case mr_Clash => first | rfl | k_is)
    (case sC_Clash => first | rfl | k_is)
    (case su_Clash => first | ks_is | k_is)
    (case thp => k_is)
    (case zsuper => k_is)
    (case htop => first | rfl | decide +kernel)
    (case n_MOST_KEY => k_is)
    (case n_WORDS => k_is)
    (case lt_WORDS => k_is)
    (case z_abs => k_is)
    (case z_all => k_is)
    (case z_bool => k_is)
    (case z_divmod => k_is)
    (case z_int => k_is)
    (case z_isinstance => k_is)
    (case z_len => k_is)
    (case z_max => k_is)
    (case z_range => k_is)
    (case z_sorted => k_is)
    (case z_str => k_is)
    (case z_tuple => k_is)
