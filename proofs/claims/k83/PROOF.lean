import PyProof.Rows.All
import Wide.All
import OpenK.AllK
import Wide.FinOn
import HandS.ForMost
import HandS.ForExc
import KE.KExcSuper
import KE.RegKSuper
import HandS.More
import HandS.Deep
import HandS.Style
import HandS.TupAny
import KE.SortData
import KE.DataFind
import KE.DataEq
import PyProof.Rows.SortShellAny
import HandS.IsInst
import HandS.Property
import HandS.Star
import HandS.Flow
import HandS.Conv
import HandS.Evl
import PyProof.ReprRoads
import HandS.Ends
import PyProof.Rows.Range3
import PyProof.Conv_bool
import PyProof.SeqIndex
import PyProof.CallFns
import PyProof.NeKinds
import PyProof.ReprBulk
import HandS.MakeKwOnly
import PySem.Challenge.RW_plainscan_k83_whole_caches_through_uses
set_option Elab.async false
set_option linter.all false
set_option maxRecDepth 100000
set_option maxHeartbeats 8000000
/-! Own classes of errors over own classes over ValueError: `def __init__(self, F): super().__init__(F); self.F = F`. -/
namespace SupX
open PySem PySem.W PySem.Calls PyProof.Rows PySem.HandSPX
def iA (F : Str) (p1 p2 : Pos) : Arguments := { posonlyargs := [], args := [{ arg := "self", annotation := none, pos := p1 }, { arg := F, annotation := none, pos := p2 }], vararg := none, kwonlyargs := [], kw_defaults := [], kwarg := none, defaults := [] }
def iB (F : Str) (a1 a2 a3 a4 a5 a6 b1 b2 b3 b4 : Pos) : List Stmt :=
  [.Expr (.Call (.Attribute (.Call (.Name "super" a1) [] [] a2) "__init__" a3) [.Name F a4] [] a5) a6, .Assign [.Attribute (.Name "self" b1) F b2] (.Name F b3) b4]
def iS (F : Str) : Scope := { kind := .function, names := [(PySem.Str.ofString "self", .local), (F, .local), (PySem.Str.ofString "__class__", .free), (PySem.Str.ofString "super", .globalImplicit)], isGenerator := false, isCoroutine := false, more := [] }
theorem ev_one {o : Expr} {n F : Str} {a3 a4 a5 : Pos} {env : Env} (hl : (a3.endLine == a5.line) = true) : eval (.Call (.Attribute o n a3) [.Name F a4] [] a5) env = (do
      let ov ← attributeBase o n env (eval o env)
      standAt a3.atName
      let (f, first) ← holding [ov] (getMethod ov n (do return (← importBound o env).getD true))
      callWith a5 f first (backTo a5 (starEach [.Name F a4] env)) []) := by
  have e : eval (.Call (.Attribute o n a3) [.Name F a4] [] a5) env = (do
      let ov ← attributeBase o n env (eval o env)
      standAt a3.atName
      methodCall o n a3 a5 env ov 1 (backTo a5 (starEach [.Name F a4] env)) []) := rfl
  rw [e]
  unfold methodCall methodCallPos calleeOf
  have f : methodCallForm 1 (backTo a5 (starEach [.Name F a4] env)) [] = true := rfl
  rw [f, hl]
  rfl
/-- what the written part says of the class X at C and its __init__ at fI -/
structure SupTxt (P : Program) (K : Frag) (mg : Str → Option Value) (X qual F : Str) (C fI : Addr) : Prop where
  gC : mg X = some (.ref C)
  cls : ∃ nm q N bs bm sn sub ab col dd k0 k1 k2 k3 k5, K.lookup C = some (excClassObj nm q C N bs bm true sn sub ab col dd k0 k1 k2 k3 k5 "ValueError.__new__") ∧ refsVE bm = true
  sa : findIn K (.ref C) "__setattr__" = some (some (.builtin "object.__setattr__"))
  ga : findIn K (.ref C) "__getattribute__" = some (some (.builtin "BaseException.__getattribute__"))
  gg : findIn K (.ref C) "__getattr__" = some none
  noN : findIn K (.ref C) F = some none
  iC : findIn K (.ref C) "__init__" = some (some (.ref fI))
  tC : typeIn K (.ref fI) = some (.type "function")
  kC : keepIn K (.ref C) = true
  exC : subIn K (.ref C) (.type "BaseException") = some true
  veC : subIn K (.ref C) (.type "ValueError") = some true
  tyC : typeIn K (.ref C) = some (.type "type")
  hdC : hasDictIn K C = true
  slf : mroIn K C (.ref C) = some true
  sup : ks_superIn K C C "__init__" = some (some (.builtin "ValueError.__init__"))
  thp : nsIn K cStatics "thirdparty.any" = some none
  gS : mg "super" = none
  top : (P.main.scope.names.lookup ("super" : Str)).isSome = false
  nF : (F == ("self" : Str)) = false
  lF : (iS F).names.lookup F = some .local
  lC : (iS F).names.lookup ("__class__" : Str) = some .free
  lS : (iS F).names.lookup ("super" : Str) = some .globalImplicit
  dF : (F == ("__debug__" : Str)) = false
  bnd : ∀ (body : List Stmt) (sc : Scope) (cl : List (Str × Addr)) (doc pm : Value) (an : Option Addr) (cd ct : Value) (p1 p2 : Pos) (x v : Value), bindArgs (fnX "__init__" qual (iA F p1 p2) body sc cl .none .none doc pm an cd ct) ⟨[x, v], []⟩ = pure ([("self", x), (F, v)] : List (Str × Value))
  fn : ∃ (oc : Value) (od : Option Addr) (doc pm : Value) (an : Option Addr) (cda cc : Addr) (ct : Value) (osl : Array (Option Value)) (p1 p2 a1 a2 a3 a4 a5 a6 b1 b2 b3 b4 : Pos)
      (ccl cl : Value) (cdd cld : Option Addr) (vs : Array Value) (ccs csl : Array (Option Value)) (file : Str) (tf : Tok),
    K.lookup fI = some ⟨oc, od, .func (fnX "__init__" qual (iA F p1 p2) (iB F a1 a2 a3 a4 a5 a6 b1 b2 b3 b4) (iS F) [("__class__", cc)] .none .none doc pm an (.ref cda) ct), osl⟩ ∧ codeIn K (.ref cda) qual = true ∧
      K.lookup cda = some ⟨ccl, cdd, .fields vs, ccs⟩ ∧ vs[2]? = some (.str file tf) ∧ ((P.main.file : Str) == file) = true ∧ (a3.endLine == a5.line) = true ∧ K.lookup cc = some ⟨cl, cld, .cell (some (.ref C)), csl⟩
theorem one_size (v : Value) : [v].length ≤ sizeLine := by
  rw [sizeLine_eq]
  exact (by decide : 1 ≤ 16777216)
/-- what __init__ leaves of a fresh exception at x -/
structure InitEnd (F : Str) (h h' : Heap) (x C dx t1 : Addr) (v : Value) : Prop where
  keep : ∀ b o, b ≠ x → h.get? b = some o → h'.get? b = some o
  obj : h'.get? x = some { cls := .ref C, dict := some dx, data := .fields #[.ref t1, .none, .none, .none, .bool false, .none] }
  dbig : h.objs.size ≤ dx
  dne : dx ≠ x
  ns : h'.Ns1 dx (fun y => if y = F then some v else none)
/-- a made one -/
structure OwnMade (F : Str) (h h' : Heap) (e C d : Addr) (v : Value) : Prop where
  keep : ∀ b o, h.get? b = some o → h'.get? b = some o
  new : h.objs.size ≤ e
  obj : ∃ oe vs, h'.get? e = some oe ∧ oe.cls = .ref C ∧ oe.dict = some d ∧ oe.data = .fields vs ∧ vs[1]? = some .none
  dbig : h.objs.size ≤ d
  dne : d ≠ e
  ns : h'.Ns1 d (fun y => if y = F then some v else none)
/-- the module's names in a heap -/
structure NsOk (h : Heap) (mg : Str → Option Value) : Prop where
  g : h.Ns mainGlobals mg
  b : ∃ mb, h.Ns builtinsNs mb ∧ ∀ x : Str, x ≠ "__name__" → mb x = bootBuiltins x
  lim : h.NoLimit
theorem NsOk.keeps {h h' : Heap} {mg : Str → Option Value} (n : NsOk h mg) (k : ∀ b o, h.get? b = some o → h'.get? b = some o) : NsOk h' mg :=
  ⟨n.g.keeps k, let ⟨mb, hb, e⟩ := n.b; ⟨mb, hb.keeps k, e⟩, n.lim.keeps k⟩
section
variable {prog : Program} {w : World} {A : Around} {E : Value → Shared → Prop} {h : Heap} {g : Array GenState} {d : Drawn} {t : Nat} {os : OsState}
variable {nm q : Str} {C N : Addr} {bs bm : List Value} {hdct : Bool} {sn : List Str} {sub : List Value} {ab : Bool} {col : Option Bool} {dd : Option Addr} {k0 k1 k2 k3 k5 : Option Value}
/-- ValueError.__init__ bound to a fresh exception, called -/
theorem wrap_call {u e t0 : Addr} {rest : List Value} {Q : Value → Shared → Prop} (hC : h.get? C = some (excClassObj nm q C N bs bm hdct sn sub ab col dd k0 k1 k2 k3 k5 "ValueError.__new__"))
    (he : h.get? e = some (excO C t0)) (hu : h.get? u = some (kxs_mw "ValueError.__init__" e)) (hz : rest.length ≤ sizeLine)
    (hq : ∀ h' t1, (∀ b o, b ≠ e → h.get? b = some o → h'.get? b = some o) → h'.get? e = some (excO C t1) → Q .none ⟨h', g, d, t, os⟩) :
    wpAny (model prog w) A (call (.ref u) rest) Q E ⟨h, g, d, t, os⟩ := by
  have FB := F.excBase_ValueError
  refine wpAny_call (codeAny_of_tree ?_)
  show wpAny _ A.in1 (callAny (.ref u) ⟨rest, []⟩) _ _ _
  simp only [callAny]
  refine wpAny_bind (wpAny_load hu ?_)
  have y : (Value.type "method-wrapper" == Value.type "method" || Value.type "method-wrapper" == Value.type "builtin_function_or_method" || Value.type "method-wrapper" == Value.type "method-wrapper") = true := by decide
  simp only [kxs_mw, y, if_true]
  refine KFB.if_so (by decide) ?_
  refine wpAny_bind (check_bound_init FB.toExcCallFacts hC he rfl (wpAny_bind (wpAny_pure (wpAny_pure ⟨plainId_quiet FB.init.plain _, codeAny_builtin FB.initEntry ?_⟩))))
  exact exc_init_tree (cls := .ref C) (t0 := t0) (dv := none) (c2 := .none) (c3 := .none) (b4 := .bool false) he hz fun h' k e' _ => hq h' _ k e'
end
section
variable {prog : Program} {w : World} {A : Around} {E : Value → Shared → Prop} {R : Result → Shared → Prop} {s : Shared} {K : Frag} {mg : Str → Option Value} {X qual F : Str} {C fI : Addr}
theorem sup_init (T : SupTxt prog K mg X qual F C fI) {x t0 : Addr} {v : Value} (Y : K.In s.heap) (M : NsOk s.heap mg) (hx : s.heap.get? x = some (excO C t0)) (hnx : K.lookup x = none) (hroom : A.depth < recursionLimit)
    (hq : ∀ h' tk dx t1, InitEnd F s.heap h' x C dx t1 v → R (.ok (.ret .none)) { s with heap := h', toks := tk }) :
    codeAny (model prog w) A (.call (.ref fI) ⟨[.ref x, v], []⟩) R s := by
  obtain ⟨oc, od, doc, pm, an, cda, cc, ct, osl, p1, p2, a1, a2, a3, a4, a5, a6, b1, b2, b3, b4, ccl, cl, cdd, cld, vs, ccs, csl, file, tf, ho, hcd, hcda, hvs, hfile, hl, hcc⟩ := T.fn
  obtain ⟨nm, q, N, bs, bm, sn, sub, ab, col, dd, k0, k1, k2, k3, k5, hC, hbm⟩ := T.cls
  have hcl : clsIn K C = some { name := nm, bases := bs, mro := .ref C :: bm, ns := N, qualname := q, hasDict := true, slotNames := sn, subclasses := sub, abstract := ab, collection := col, hasDel := false } := by unfold clsIn; rw [hC] <;> rfl
  have nF : ¬ F = "self" := fun e => by
    have z := T.nF
    rw [e] at z
    exact absurd z (by decide)
  refine ks_codeAny_call_defAt (binds := [("self", .ref x), (F, v)]) hroom (Y _ _ ho) rfl M.lim (codeRec_of Y hcd) rfl ?_ ?_ ?_ (fun h₁ hns k => ?_) rfl rfl rfl
  · exact BindsTo.of_eq (T.bnd _ _ _ _ _ _ _ _ _ _ _ _)
  · intro y hy
    have hy' : y ∈ (iS F).names := hy
    simp only [iS, List.mem_cons, List.not_mem_nil, or_false] at hy'
    rcases hy' with rfl | rfl | rfl | rfl <;> (intro z; cases z)
  · intro y hy
    rcases List.mem_cons.mp hy with rfl | hy
    · rfl
    · obtain rfl := List.mem_singleton.mp hy
      exact T.lF
  have Y₁ : K.In h₁ := Y.keeps k
  have M₁ := M.keeps k
  have hx₁ := k _ _ hx
  have sl : List.lookup ("self" : Str) ([("self", Value.ref x), (F, v)] : List (Str × Value)).reverse = some (.ref x) := by
    show List.lookup ("self" : Str) ([(F, v), ("self", Value.ref x)] : List (Str × Value)) = _
    have z : (("self" : Str) == F) = false := by simpa using fun e : ("self" : Str) = F => nF e.symm
    simp [List.lookup, z]
  have fl : List.lookup F ([("self", Value.ref x), (F, v)] : List (Str × Value)).reverse = some v := by
    show List.lookup F ([(F, v), ("self", Value.ref x)] : List (Str × Value)) = _
    simp [List.lookup]
  have hxC : x ≠ C := fun e => by
    have z := Y _ _ hC
    rw [← e, hx] at z
    cases z
  obtain ⟨mb, nb, eb⟩ := M₁.b
  obtain ⟨hp, g, d, t, os⟩ := s
  have hI : Looks (model prog w) h₁ (isInstance (.ref x) (.type "ValueError")) true := (W.InstAt.type (od := none) ⟨hx₁, rfl, rfl, trivial⟩ : Looks (model prog w) h₁ (typeOf (.ref x)) (.ref C)).andThen (looks_subIn Y₁ T.veC)
  refine ks_wpAt_execs_cons ?_
  refine ks_wpAt_Expr_any ?_
  refine ks_wpAt_MethodCall (he := ev_one hl) ?_
  refine ks_wpAt_super_base (env := ksEnv qual (iS F) hp.objs.size fI (.ref cda) cc) (ar := { arg := "self", annotation := none, pos := p1 }) T.lS T.lC rfl rfl (Y₁ _ _ ho) rfl rfl rfl (Y₁ _ _ hcda) rfl hvs hfile T.top ?_
  refine ks_loadName_global rfl T.lS (loadGlobal_builtin (env := ksEnv qual (iS F) hp.objs.size fI (.ref cda) cc) M₁.g T.gS nb ((eb _ (by decide +kernel)).trans PyProof.Rows.Boot.«super») ⟨rfl, ?_⟩)
  refine wpAny_loadName_free rfl T.lC rfl ⟨_, Y₁ _ _ hcc, rfl⟩ ?_
  refine wpAny_loadName_local rfl rfl hns sl ?_
  refine ks_wpAny_isType_cls (Y₁ _ _ hC) rfl ⟨rfl, ?_⟩
  refine ks_wpAny_call_super (Y₁ _ _ hC) rfl hx₁ rfl (fun c z => by cases z) (looks_mroIn Y₁ T.slf) fun h₂ hso k₂ => ?_
  have Y₂ := Y₁.keeps k₂
  have hx₂ := k₂ _ _ hx₁
  have hsup : alongIn K "__init__" (((Value.ref C :: bm).dropWhile (· != .ref C)).drop 1) = some (some (.builtin "ValueError.__init__")) := by
    have z := T.sup
    unfold ks_superIn at z
    rw [hcl] at z
    exact z
  refine kxs_getMethod kxs_ValueError hso (looks_opaque Y₂ T.thp) (l₀ := .ref C :: bm) (fun A Q E s k q => wpAny_bind ((looks_clsIn Y₂ hcl) A _ E s k (wpAny_pure q))) rfl Y₂ hsup (hI.keeps k₂) hxC (by decide) ?_
  have hn₃ : ∀ b o, h₂.get? b = some o → (h₂.push (kxs_mw "ValueError.__init__" x)).get? b = some o := fun b o z => Heap.get?_push_of_some _ z
  have hu₃ : (h₂.push (kxs_mw "ValueError.__init__" x)).get? h₂.objs.size = some (kxs_mw "ValueError.__init__" x) := Heap.get?_push_at rfl rfl
  have ns₃ := (hns.keeps k₂).keeps hn₃
  refine kxs_callWith (i := "ValueError.__init__") (x := x) rfl (evalArgs_plain ?_)
  refine spliced_cons (wpAny_Name (wpAny_loadName_local rfl T.lF ns₃ fl ?_) T.dF)
  refine spliced_nil ⟨hu₃, ?_⟩
  refine wrap_call (hn₃ _ _ (Y₂ _ _ hC)) (hn₃ _ _ hx₂) hu₃ (one_size v) fun h₄ t4 k₄ hx₄ => ?_
  refine wpAt_of_wpAny ?_
  have old : ∀ b o, b ≠ x → h₁.get? b = some o → h₄.get? b = some o := fun b o hb z => k₄ b o hb (hn₃ _ _ (k₂ _ _ z))
  have Y₄ : K.In h₄ := fun b o z => old b o (fun e => by rw [e, hnx] at z; cases z) (Y₁ b o z)
  have hxL : hp.objs.size ≠ x := Nat.ne_of_gt (Heap.lt_size hx)
  have ns₄ : h₄.Ns hp.objs.size (fun y => List.lookup y ([("self", Value.ref x), (F, v)] : List (Str × Value)).reverse) := hns.at fun o z => old _ o hxL z
  show wpAny _ _ (execs _ _) _ _ _
  refine wpAny_execs_cons (plainObj_wpAny_Assign_Attribute ?_)
  refine wpAny_Name (wpAny_loadName_local rfl T.lF ns₄ fl ?_) T.dF
  refine wpAny_Name (wpAny_loadName_local rfl rfl ns₄ sl ?_)
  refine set_plain Y₄ (ox := excO C t4) (od := none) ⟨hx₄, rfl, rfl, trivial⟩ T.sa ?_
  refine exc_osa Y₄ hx₄ hcl (show refsVE (.ref C :: bm) = true from hbm) rfl T.noN (fun h₅ tk₅ dx k₅ dn dne hx₅ hn₅ => ?_)
  show wpAny _ _ (execs _ _) _ _ _
  refine wpAny_execs_nil (hq h₅ tk₅ dx t4 ⟨fun b o hb e => k₅ b o hb (old b o hb (k b o e)), hx₅, ?_, dne, hn₅⟩)
  exact Nat.le_trans (Nat.le_of_lt ns₄.lt) dn
/-- X(v) -/
theorem sup_made (T : SupTxt prog K mg X qual F C fI) {v : Value} (Y : K.In s.heap) (M : NsOk s.heap mg) (hroom : A.depth + 1 < recursionLimit)
    (hq : ∀ h' tk e d, OwnMade F s.heap h' e C d v → R (.ok (.ret (.ref e))) { s with heap := h', toks := tk }) :
    codeAny (model prog w) A (.call (.ref C) ⟨[v], []⟩) R s := by
  obtain ⟨nm, q, N, bs, bm, sn, sub, ab, col, dd, k0, k1, k2, k3, k5, hC, hbm⟩ := T.cls
  obtain ⟨hp, g, dr, tk, os⟩ := s
  have k : ∀ b o, hp.get? b = some o → ((hp.push (kdv_tup [v])).push (excO C hp.objs.size)).get? b = some o := fun b o e => Heap.get?_push_of_some _ (Heap.get?_push_of_some _ e)
  have hget : ((hp.push (kdv_tup [v])).push (excO C hp.objs.size)).get? (hp.objs.size + 1) = some (excO C hp.objs.size) := by heap_get
  have hnx : K.lookup (hp.objs.size + 1) = none := by
    cases e : K.lookup (hp.objs.size + 1) with
    | none => rfl
    | some o =>
      have z : hp.get? (hp.objs.size + 1) = some o := Y _ _ e
      exact absurd (Nat.lt_of_succ_lt (Heap.lt_size z)) (Nat.lt_irrefl _)
  refine call_own PySem.F.excBase_ValueError (fun X => refsVE_contains X bm hbm) (Y _ _ hC) (looks_findIn Y T.iC) (fun self => bind_fn Y self T.tC) (one_size v) ?_
  refine sup_init (s := ⟨(hp.push (kdv_tup [v])).push (excO C hp.objs.size), g, dr, tk, os⟩) T (Y.keeps k) (M.keeps k) hget hnx ?_ fun h' tk' dx t1 ⟨k', hx, dn, dne, hns⟩ => ?_
  · show A.depth + 1 < recursionLimit
    exact hroom
  · have old : ∀ b o, hp.get? b = some o → h'.get? b = some o := fun b o e => k' b o (Nat.ne_of_lt (Nat.lt_succ_of_lt (Heap.lt_size e))) (k b o e)
    have z : hp.objs.size + 1 + 1 ≤ dx := by
      first
        | (simpa only [Heap.size_push] using dn)
        | exact dn
        | (have q := dn; rw [Heap.size_push, Heap.size_push] at q; exact q)
    exact ⟨rfl, hq h' tk' (hp.objs.size + 1) dx ⟨old, Nat.le_succ _, ⟨_, _, hx, rfl, rfl, rfl, rfl⟩, Nat.le_trans (Nat.le_trans (Nat.le_succ _) (Nat.le_succ _)) z, dne, hns⟩⟩
end
end SupX
namespace L2
open PySem PySem.Spec PyProof.Rows SupX
theorem relO_one {F : Str} {v : V} {v' : Value} (r : RelV v v') (f : Str) : RelO (List.lookup f [(F, v)]) (if f = F then some v' else none) := by
  by_cases hw : f = F
  · subst hw
    rw [if_pos rfl]
    have q : List.lookup f [(f, v)] = some v := by simp [List.lookup]
    rw [q]
    exact r
  · rw [if_neg hw]
    have qw : (f == F) = false := by simpa using hw
    have q2 : List.lookup f [(F, v)] = none := by simp [List.lookup, qw]
    rw [q2]
    trivial
section
variable {X : Cx} {C fI : Addr} {x qual F : Str}
/-- x(e), an own error of one field F -/
def tMkSup (C : Addr) (F : Str) (ta : TA) : St → Hp → XK → Prop := fun σ H Q => ta σ H fun vs H1 => ∃ v, vs = [v] ∧ ∀ d, H1 d = none → Q (.ref C) (some d) (upd H1 d (.xd [(F, v)]))
theorem pmk_sup {a : Expr} {ta : TA} {p pos : Pos} {k : Nat} (T : SupTxt X.prog X.K X.mg x qual F C fI) (hr : Room k X.A) (ha : PA X [a] ta) (hg : Gl X x := by rfl) (hdb : (x == ("__debug__" : Str)) = false := by decide)
    (he : starEach (a :: []) X.env = (false, eval a X.env) :: starEach [] X.env := by rfl) (hpl : (backTo pos (starEach [] X.env)).any (·.1) = false := by rfl) :
    PMk X (.Call (.Name x p) [a] [] pos) (tMkSup C F ta) := by
  intro pins s σ H Q I h
  refine wpAny_Call_Name_kw (ld_glob I hg T.gC ?_ hdb)
  refine PySem.W.callWith_K (h₀ := X.base) I.ok.mod.kin T.kC (thn (ha.run pos pins s σ H _ I h) fun us s1 hh => ?_) he hpl
  obtain ⟨vs, H1, I1, r1, v, ev, q1⟩ := hh
  subst ev
  refine ⟨I1.kIn, ?_⟩
  cases r1 with
  | cons rv rn =>
    rename_i v' us'
    cases rn
    show wpAny _ _ (call (.ref C) [v']) _ _ _
    have M1 : NsOk s1.heap X.mg := ⟨I1.ok.mod.glob.keeps I1.bk, let ⟨mb, hb, e⟩ := I1.ok.mod.blt; ⟨mb, hb.keeps I1.bk, e⟩, I1.nolimit⟩
    obtain ⟨hp, g, dr, tk, os⟩ := s1
    refine wpAny_call (sup_made T I1.kIn M1 (by have := hr.dp; omega) fun h' tk' e d M => ?_)
    show MkP X pins σ Q (.ref e) ⟨h', g, dr, tk', os⟩
    obtain ⟨oe, fv, hoe, hc, hd, hdat, h1⟩ := M.obj
    have hns := M.ns
    obtain ⟨G', g1, g2⟩ := restrict h' fun b => decide (b ≠ e)
    have gk : ∀ b, b ≠ e → G'.get? b = h'.get? b := fun b hb => g1 b (decide_eq_true hb)
    have ge : G'.get? e = none := g2 e (by simp)
    have old : ∀ b o, hp.get? b = some o → G'.get? b = some o := fun b o q => (gk b (Nat.ne_of_lt (Nat.lt_of_lt_of_le (Heap.lt_size q) M.new))).trans (M.keep b o q)
    have ob : ObjOk X.prog X.w (upd H1 d (.xd [(F, v)])) G' d (.xd [(F, v)]) :=
      ⟨_, hns.at (fun o q => (gk d M.dne).trans q), fun f => relO_one rv f⟩
    have J : Inv X pins σ (upd H1 d (.xd [(F, v)])) ⟨G', g, dr, tk', os⟩ := I1.laid (t' := tk') old M.dbig ob
    refine ⟨e, oe, fv, ⟨G', g, dr, tk', os⟩, _, .ref C, some d, rfl, J, fun b o q => ?_, ge, hoe, ⟨hc, hd⟩, hdat, h1, ?_, rfl, I1.bare, raises_own T.exC T.tyC, q1 d (I1.hok.fresh M.dbig)⟩
    · by_cases hb : b = e
      · have q' : G'.get? b = some o := q
        rw [hb, ge] at q'; cases q'
      · exact (gk b hb).symm.trans q
    · rw [upd_ne (Ne.symm M.dne)]
      exact I1.hok.fresh M.new
/-- raise x(e) -/
def tRaiseSup (C : Addr) (F : Str) (W : WX) (ta : TA) : TS := fun _ σ H => tMkSup C F ta σ H fun cls d H' => W cls d σ H'
theorem ps_raiseSup {a : Expr} {ta : TA} {W : WX} {p pos pos2 : Pos} {k : Nat} (hc : X.calm = true) (T : SupTxt X.prog X.K X.mg x qual F C fI) (hr : Room k X.A) (tk : Takes X W) (ha : PA X [a] ta) (hg : Gl X x := by rfl) (hdb : (x == ("__debug__" : Str)) = false := by decide)
    (he : starEach (a :: []) X.env = (false, eval a X.env) :: starEach [] X.env := by rfl) (hpl : (backTo pos (starEach [] X.env)).any (·.1) = false := by rfl) :
    PS X (.Raise (some (.Call (.Name x p) [a] [] pos)) none pos2) (tRaiseSup C F W ta) := ps_raise hc tk (pmk_sup T hr ha hg hdb he hpl)
/-- e.F, e the exception that the suite holds (at a; its class cls, its dict d) -/
def tBySup (C : Addr) (F : Str) (a : Addr) (cls : Value) (d : Option Addr) (te : TE) : TE := fun σ H Q => te σ H fun x H1 => x = .ref a ∧ cls = .ref C ∧ ∃ (dd : Addr) (v : V), d = some dd ∧ H1 dd = some (.xd [(F, v)]) ∧ Q v H1
theorem pe_bySup {a : Addr} {oe : Obj} {cls : Value} {d : Option Addr} {pn : List (Addr × Obj)} {e : Expr} {te : TE} {pos : Pos} (T : SupTxt X.prog X.K X.mg x qual F C fI) (hz : Zc cls d oe) (hf : ∃ vs, oe.data = .fields vs) (he : PE (X.suite a ((a, oe) :: pn)) e te)
    (hb : attributeBase e F X.env (eval e X.env) = eval e X.env := by rfl) :
    PE (X.suite a ((a, oe) :: pn)) (.Attribute e F pos) (tBySup C F a cls d te) := by
  refine ⟨fun pins s σ H Q I h => ?_⟩
  refine attr_of hb (thn (he.run pins s σ H _ I h) fun u s1 hh => ?_)
  obtain ⟨x, H1, I1, rx, ex, ec, dd, v, ed, ea, q⟩ := hh
  subst ex
  obtain rfl : u = Value.ref a := rx
  subst ec
  subst ed
  obtain ⟨ha, _⟩ := I1.pin (a, oe) (List.mem_append_left _ List.mem_cons_self)
  obtain ⟨vs, hd⟩ := hf
  have hx : ObjOk X.prog X.w H1 s1.heap dd (.xd [(F, v)]) := I1.hok dd _ ea
  obtain ⟨mA, hns, hr⟩ := hx
  obtain ⟨od, ho, hl⟩ := lookIn_ns hns
  have l : List.lookup F [(F, v)] = some v := by simp [List.lookup]
  obtain ⟨u, hu, ru⟩ := RelO.some_of (v := v) (o := mA F) (by rw [← l]; exact hr F)
  have J : PySem.W.InstAt s1.heap a oe C (some od) := ⟨ha, hz.1, by unfold PySem.W.notCls; rw [hd] <;> rfl, by rw [hz.2]; exact ho⟩
  exact PySem.HandSPX.exc_get I1.kIn J T.ga T.gg T.exC (PySem.W.findObj_own T.hdC T.noN rfl (by rw [hl, hu])) (handed_of ru) ⟨v, H1, I1.tok _, ru, q⟩
end
end L2
namespace SupX
open PySem PySem.W PySem.Calls PyProof.Rows PySem.HandSPX
/-- an error of the class at S is what «except S» names -/
theorem exm_self {K : Frag} {S : Addr} (h1 : subIn K (.ref S) (.type "BaseException") = some true) (h2 : isClsIn K S = true) (h3 : typeIn K (.ref S) = some (.type "type")) (h4 : subIn K (.ref S) (.ref S) = some true) : exmOne K (.ref S) (.ref S) = some true := by
  have e1 : (subIn K (.ref S) (.type "BaseException") == some true) = true := by rw [h1] <;> rfl
  have e2 : ((clsIn K S).isSome && typeIn K (.ref S) == some (.type "type")) = true := by
    have h2' : (clsIn K S).isSome = true := h2
    rw [h2', h3] <;> rfl
  show (if (subIn K (.ref S) (.type "BaseException") == some true) = true then (if ((clsIn K S).isSome && typeIn K (.ref S) == some (.type "type")) = true then subIn K (.ref S) (.ref S) else none) else none) = some true
  rw [if_pos e1, if_pos e2]
  exact h4
end SupX
/-! Rules over data (Dp): sorted, list.remove, in over tuples; sorted(dict of ints) at any length; t[::-1]; o.m(k=v). -/
namespace L2
open PySem PySem.Spec PyProof.Rows
section
variable {X : Cx}
/-! ### data, item by item -/
theorem DpAll.length {K : PySem.W.Frag} {H : Hp} : ∀ {vs : List V} {ds : List PyData}, DpAll K H vs ds → vs.length = ds.length
  | _, _, .nil => rfl
  | _, _, .cons _ t => by rw [List.length_cons, List.length_cons, DpAll.length t]
theorem DpAll.each {pins : List (Addr × Obj)} {σ : St} {H : Hp} {s : Shared} (I : Inv X pins σ H s) : ∀ {ps : List (V × PyData)} {us : List Value}, (∀ p ∈ ps, Dp X.K H p.1 p.2) → Vals (ps.map (·.1)) us →
    PySem.W.EachIs (fun u (p : V × PyData) => RelV p.1 u) us ps ∧ PySem.W.EachIs (fun u (p : V × PyData) => ∃ as, Reads s.heap u p.2 as) us ps
  | [], _, _, r => by
    cases r
    exact ⟨.nil, .nil⟩
  | p :: ps, _, h, r => by
    cases r with
    | cons r1 r2 =>
      obtain ⟨h1, h2⟩ := DpAll.each I (fun q hq => h q (List.mem_cons_of_mem _ hq)) r2
      exact ⟨.cons r1 h1, .cons (Dp.reads I p.2 p.1 _ (h p List.mem_cons_self) r1) h2⟩
theorem vals_each : ∀ {ps : List (V × PyData)} {us : List Value}, PySem.W.EachIs (fun u (p : V × PyData) => RelV p.1 u) us ps → Vals (ps.map (·.1)) us
  | _, _, .nil => .nil
  | _, _, .cons r t => .cons r (vals_each t)
/-! ### sorted of data -/
def leD (p q : V × PyData) : Bool := PySem.W.dataLe false (fun p : V × PyData => p.2) p q
def rSortD (K : PySem.W.Frag) : List V → Hp → VK → Prop := fun vs H Q => ∃ (a : Addr) (ps : List (V × PyData)), vs = [V.ref a] ∧ SqL K H a (ps.map (·.1)) ∧ (∀ p ∈ ps, Dp K H p.1 p.2) ∧ PySem.W.AllAlike (ps.map (·.2)) ∧ PySem.W.Sortable (ps.map (·.2)) ∧
  (∀ p ∈ ps, p.2.depth ≤ 60) ∧ ∀ p, H p = none → Q (.ref p) (upd H p (.lst ((ps.mergeSort leD).map (·.1))))
theorem cr_sortD (hu : X.A.units + 64 < cLine) : CallR X (.builtin "sorted") (rSortD X.K) := by
  intro pins s σ H vs us Q I r h
  obtain ⟨a, ps, rfl, hs, hd, hal, hso, hdep, q⟩ := h
  obtain ⟨its, rv, hl, hz⟩ := I.list hs
  rw [Vals.ref1 r]
  obtain ⟨e1, e2⟩ := DpAll.each I hd rv
  rw [List.length_map] at hz
  refine PySem.W.sorted_data (enc := fun p : V × PyData => p.2) hl.isList e1 e2 hal hso hz (fun b hb => by have := hdep b hb; show X.A.units + 2 + b.2.depth < cLine; omega) fun out hlen ho => ?_
  obtain ⟨ep, he'⟩ := PyProof.Rows.sortedAll_at s.heap its out.toArray
  have hlen' : ((ps.mergeSort leD).map (·.1)).length ≤ sizeLine := by rw [List.length_map, List.length_mergeSort]; exact hz
  exact ⟨.ref _, upd H (s.heap.objs.size + 1) (.lst ((ps.mergeSort leD).map (·.1))), I.laid (t' := s.toks) (fun _ _ => PyProof.Rows.sortedAll_old) (Nat.le_succ _) ⟨hlen', out, ep, vals_each ho, he'⟩, rfl, q _ (I.hok.fresh (Nat.le_succ _))⟩
/-! ### l.remove(x), the first equal one -/
def rRemoveD (K : PySem.W.Frag) : V → List V → Hp → VK → Prop := fun x vs H Q => ∃ (l : Addr) (xs : List V) (ds : List PyData) (y : V) (d : PyData) (j : Nat), x = .ref l ∧ vs = [y] ∧ H l = some (.lst xs) ∧ DpAll K H xs ds ∧ Dp K H y d ∧
  SeqAt.shaped (.list ds) = true ∧ SeqAt.shaped d = true ∧ SeqAt.dataPlace ds d = some j ∧ Q .non (upd H l (.lst (xs.eraseIdx j)))
theorem mt_removeD (hu : X.A.units + 66 < cLine) : MtM X "list.remove" (rRemoveD X.K) := by
  intro pins s σ H x vs v us Q I rx rv h
  obtain ⟨l, xs, ds, y, d, j, rfl, rfl, hH, hds, hd, hl1, hl2, hp, q⟩ := h
  cases rx
  obtain ⟨u, rfl, ru⟩ := rv.one
  obtain ⟨as, r1⟩ := Dp.reads I d y u hd ru
  obtain ⟨z, its, n, r, hl, e⟩ := I.lstM hH
  obtain ⟨bs, r2⟩ := Dp.readsAll I ds xs its hds r
  have hroom : X.A.units + 1 + min (PyData.depthAll ds) d.depth < cLine := room_in_shaped hl2 (by omega)
  refine SeqAt.remove_list_data (vs := its.toArray) (xs := ds) (d := d) (j := j) (PlainL.isList ⟨_, n, e, rfl, rfl, rfl⟩) r2 r1 (PyData.plainAll_of_canLay0 _ (SeqAt.canLay_of_shaped hl1)) (PyData.plain_of_canLay0 _ (SeqAt.canLay_of_shaped hl2)) hroom hp (by rw [List.size_toArray]; omega) ?_
  refine ⟨.non, _, I.lset (its' := its.eraseIdx j) hH e ?_ (r.eraseIdx j) ?_, rfl, q⟩
  · show its.toArray.eraseIdxIfInBounds j = (its.eraseIdx j).toArray
    rw [List.eraseIdxIfInBounds_toArray]
  · have := len_erase xs j
    omega
/-! ### x in t, t a tuple of data -/
def rInTD (K : PySem.W.Frag) : R2 := fun x y H Q => ∃ d ds, Dp K H x d ∧ Dp K H y (.tuple ds) ∧ SeqAt.shaped d = true ∧ SeqAt.shaped (.tuple ds) = true ∧ Q (.bl (ds.any fun z => PyData.eqv z d)) H
def rNotInTD (K : PySem.W.Frag) : R2 := fun x y H Q => ∃ d ds, Dp K H x d ∧ Dp K H y (.tuple ds) ∧ SeqAt.shaped d = true ∧ SeqAt.shaped (.tuple ds) = true ∧ Q (.bl (!ds.any fun z => PyData.eqv z d)) H
theorem op_inTD (hu : X.A.units + 65 < cLine) : OpR X (compareOp .In) (rInTD X.K) := by
  intro pins s σ H x y v u Q I rx ry h
  obtain ⟨d, ds, hd, he, sd, se, q⟩ := h
  obtain ⟨as, r1⟩ := Dp.reads I d x v hd rx
  obtain ⟨bs, r2⟩ := Dp.reads I (.tuple ds) y u he ry
  exact SeqAt.in_tuple_reads r2 r1 (SeqAt.canLay_of_shaped se) (SeqAt.canLay_of_shaped sd) (room_in_shaped sd hu) ⟨.bl _, H, I, rfl, q⟩
theorem op_notInTD (hu : X.A.units + 65 < cLine) : OpR X (compareOp .NotIn) (rNotInTD X.K) := by
  intro pins s σ H x y v u Q I rx ry h
  obtain ⟨d, ds, hd, he, sd, se, q⟩ := h
  obtain ⟨as, r1⟩ := Dp.reads I d x v hd rx
  obtain ⟨bs, r2⟩ := Dp.reads I (.tuple ds) y u he ry
  exact SeqAt.notIn_tuple_reads r2 r1 (SeqAt.canLay_of_shaped se) (SeqAt.canLay_of_shaped sd) (room_in_shaped sd hu) ⟨.bl _, H, I, rfl, q⟩
end
section
variable {X : Cx} {CX : CXT} {k : Nat} {f C : Addr} {fd : FuncData} {ps ks : List Str} {sp : Sp} {E : XK} {x m : Str} {p pos apos kpos : Pos} {e o : Expr} {es : List Expr} {kws : List Keyword} {te ta : TE} {t tk : TA} {nm : Option Str}
variable {g : List Value → List Value → List Value} {gV : List V → List V → List V}
/-! ### calls by keywords alone -/
/-- f(k = v, ..) -/
theorem pe_callK0 (F : FnOk X.prog X.w X.K X.mg X.base CX k f fd ps sp) (hr : Room k X.A) (hg : Gl X x) (hm : X.mg x = some (.ref f)) (hk : PySem.W.keepIn X.K (.ref f) = true) (hb : KBinds X.K fd ps ks g gV) (hx : Passes CX X E)
    (hkw : PK X kws tk) (hall : (backToKw pos (keywordEach kws X.env)).all (·.1.isSome) = true := by rfl) (hks : (backToKw pos (keywordEach kws X.env)).filterMap (·.1) = ks := by rfl)
    (hdb : (x == ("__debug__" : Str)) = false := by decide) (hpl : ((backTo pos (starEach [] X.env)).any (·.1) || (backToKw pos (keywordEach kws X.env)).any (·.1.isNone)) = false := by rfl) :
    PE X (.Call (.Name x p) [] kws pos) (tCallK sp gV E tNil tk) := by
  refine ⟨fun pins s σ H Q I h => ?_⟩
  refine wpAny_Call_Name_kw (ld_glob I hg hm ?_ hdb)
  refine PySem.W.callWith_KW0 (first := []) (h₀ := X.base) I.ok.mod.kin hk hall ?_ hpl
  refine thn (hkw.run pos pins s σ H _ I h) fun ws s2 ⟨zs, H2, I2, rz, q2⟩ => ⟨I2.kIn, ?_⟩
  rw [hks]
  exact run_fnk (us := []) F hr hb hx I2 .nil rz q2
/-- o.m(k = v, ..) -/
def tMethK (C : Addr) (m : Str) (sp : Sp) (gV : List V → List V → List V) (E : XK) (ta : TE) (tk : TA) : TE := fun σ H Q => ta σ H fun x H1 => ∃ a dx fs, x = .ref a ∧ H1 a = some (.ins C dx fs) ∧ fs.lookup m = none ∧
  tk σ H1 fun zs H2 => sp (gV [x] zs) H2 Q E
theorem pe_methK0 {pl : Sem Bool} (he : PE X o ta) (c : Cls X.K C) (hm : Meth X.K C m f) (F : FnOk X.prog X.w X.K X.mg X.base CX k f fd ps sp) (hr : Room k X.A) (hb : KBinds X.K fd ps ks g gV) (hx : Passes CX X E)
    (hkw : PK X kws tk) (hall : (backToKw pos (keywordEach kws X.env)).all (·.1.isSome) = true := by rfl) (hks : (backToKw pos (keywordEach kws X.env)).filterMap (·.1) = ks := by rfl)
    (hpl : ((backTo pos (starEach [] X.env)).any (·.1) || (backToKw pos (keywordEach kws X.env)).any (·.1.isNone)) = false := by rfl)
    (ht : eval (.Call (.Attribute o m apos) [] kws pos) X.env = (do
      let ov ← eval o X.env
      standAt apos.atName
      let (f, first) ← holding [ov] (getMethod ov m pl)
      callWith pos f first (backTo pos (starEach [] X.env)) (backToKw pos (keywordEach kws X.env))) := by rfl) :
    PE X (.Call (.Attribute o m apos) [] kws pos) (tMethK C m sp gV E ta tk) := by
  refine ⟨fun pins s σ H Q I h => ?_⟩
  refine PySem.W.methodCall_KW (pl := pl) (thn (he.run pins s σ H _ I h) fun u s1 ⟨x, H1, I1, rx, a, dx, fs, ex, ea, l, q⟩ => ?_) ht
  subst ex
  obtain rfl : u = Value.ref a := rx
  refine getmeth_ok I1 ea c hm l ?_
  refine PySem.W.callWith_KW0 (first := [.ref a]) (h₀ := X.base) I.ok.mod.kin hm.kp hall ?_ hpl
  refine thn (hkw.run pos pins s1 σ H1 _ I1 q) fun ws s2 ⟨zs, H2, I2, rz, q2⟩ => ⟨I2.kIn, ?_⟩
  rw [hks]
  exact run_fnk (us := [.ref a]) (vs := [.ref a]) F hr hb hx I2 (.cons rfl .nil) rz q2
end
namespace TRev
open HT
section
variable {prog : Program} {w : World} {A : Around} {E : Value → Shared → Prop} {s : Shared}
theorem fm_congr {α β : Type} {f g : α → Option β} : ∀ {l : List α}, (∀ x ∈ l, f x = g x) → l.filterMap f = l.filterMap g
  | [], _ => rfl
  | a :: l, h => by rw [List.filterMap_cons, List.filterMap_cons, h a List.mem_cons_self, fm_congr fun x hx => h x (List.mem_cons_of_mem _ hx)]
theorem adjust_rev (n : Nat) : Builtin.Slice.sliceAdjust none none (-1) (n : Int) = ((n : Int) - 1, -1) := by
  unfold Builtin.Slice.sliceAdjust
  have h : (-1 : Int) < 0 := by decide
  simp only [h, if_true]
theorem places_rev (n : Nat) : Builtin.Slice.slicePlaces ((n : Int) - 1) (-1) (-1) = n := by
  unfold Builtin.Slice.slicePlaces
  have h : ¬ (-1 : Int) > 0 := by decide
  have e : -(-1 : Int) = 1 := by decide
  simp only [h, if_false, e, Int.ediv_one]
  split <;> omega
theorem pick_rev (xs : Array Value) : ((List.range xs.size).filterMap fun (m : Nat) => xs[(((xs.size : Int) - 1) + (m : Int) * (-1)).toNat]?).toArray = xs.toList.reverse.toArray := by
  congr 1
  have e : (List.range xs.size).filterMap (fun (m : Nat) => xs[(((xs.size : Int) - 1) + (m : Int) * (-1)).toNat]?) = ((List.range xs.size).map fun k => xs.size - 1 - k).filterMap (xs[·]?) := by
    rw [List.filterMap_map]
    refine fm_congr fun m hm => ?_
    have hm' := List.mem_range.mp hm
    have z : (((xs.size : Int) - 1) + (m : Int) * (-1)).toNat = xs.size - 1 - m := by omega
    show xs[(((xs.size : Int) - 1) + (m : Int) * (-1)).toNat]? = xs[xs.size - 1 - m]?
    rw [z]
  rw [e, PySem.W.krv_range, List.filterMap_reverse, PySem.W.krv_all]
theorem applied_rev {sl : Addr} {vl vu vs : Value} {n : Nat} {Q : Int × Int × Nat → Shared → Prop} (hs : s.heap.IsSliceOf sl vl vu vs) (pl : IsPart vl none) (pu : IsPart vu none) (ps : IsPart vs (some (-1)))
    (h : Q ((n : Int) - 1, -1, n) s) : wpAny (model prog w) A (Builtin.Slice.sliceApplied (.ref sl) (pure (n : Int))) Q E s := by
  obtain ⟨o, ho, _, hd⟩ := id hs
  unfold Builtin.Slice.sliceApplied Builtin.Slice.sliceFields
  refine wpAny_bind (wpAny_bind (wpAny_field ho hd (x := vl) rfl (wpAny_bind (wpAny_field ho hd (x := vu) rfl (wpAny_bind (wpAny_field ho hd (x := vs) rfl (wpAny_pure (wpAny_bind (slicePart_ ps ?_)))))))))
  refine W.KFB.if_not rfl (wpAny_bind (slicePart_ pl (wpAny_bind (slicePart_ pu (wpAny_bind (wpAny_pure ?_))))))
  simp only [Option.getD_some, adjust_rev, places_rev]
  exact wpAny_pure h
theorem getItem_tuple_rev {t sl : Addr} {items : Array Value} {vl vu vs : Value} {Q : Value → Shared → Prop} (ht : IsTup s.heap t items) (hs : s.heap.IsSliceOf sl vl vu vs) (pl : IsPart vl none) (pu : IsPart vu none) (ps : IsPart vs (some (-1)))
    (h : Q (.ref s.heap.objs.size) { s with heap := s.heap.push { cls := .type "tuple", data := .seq items.toList.reverse.toArray } })
    (hz : items.size ≤ sizeLine) : wpAny (model prog w) A (getItem (.ref t) (.ref sl)) Q E s := by
  have hok : sizeOk (.seq items.toList.reverse.toArray) := by
    show items.toList.reverse.toArray.size ≤ sizeLine
    simpa using hz
  have hT : s.TypeIs (.ref sl) "slice" := let ⟨o, ho, hc, _⟩ := hs; ⟨o, ho, hc⟩
  unfold getItem
  refine wpAny_holding (wpAny_bind (wpAny_sequenceKey ht.typeIs (by decide) ?_))
  refine wpAny_bind (wpAny_callSpecial?_slot (name := Str.ofString "__getitem__") ht.typeIs PyProof.Rows.slot_tuple_getitem (wpAny_call_entry PyProof.Rows.slot_tuple_getitem ht.typeIs PyProof.Rows.entry_tuple_getitem ?_ (PyProof.Rows.args_tuple_getitem _ _)))
  unfold Builtin.«tuple.__getitem__»
  refine wpAny_bind (m := slotArgs "__getitem__" 1 _) (wpAny_pure (wpAny_bind (PyProof.Rows.tupleItemsOf_ ht (wpAny_bind (wpAny_typeOf hT (W.KFB.if_so (by decide) (wpAny_bind (applied_rev hs pl pu ps ?_))))))))
  refine W.KFB.if_not (by rw [show ((-1 : Int) == 1) = false from rfl, Bool.and_false, Bool.false_and]) ?_
  rw [pick_rev]
  refine wpAny_bind (m := Builtin.Tuple.tupleExact _) (wpAny_newObj_type (wpAny_bind (wpAny_pure (wpAny_pure ⟨_, rfl, wpAny_pure h⟩))) hok)
end
end TRev
section
variable {X : Cx}
/-! ### t[::-1] of a tuple -/
def tRevT (K : PySem.W.Frag) (te : TE) : TE := fun σ H Q => te σ H fun x H1 => ∃ a xs, x = .ref a ∧ SqT K H1 a xs ∧ ∀ p, H1 p = none → Q (.ref p) (upd H1 p (.tup xs.reverse))
/-- the slice object of [::-1] -/
theorem rev_slice {k : Nat} {p1 p2 p3 : Pos} {pins : List (Addr × Obj)} {σ : St} {H : Hp} {s : Shared} {Q : Value → Shared → Prop} (I : Inv X pins σ H s)
    (h : ∀ (s1 : Shared) (vl vu vs : Value), IsPart vl none → IsPart vu none → IsPart vs (some (-1)) → Inv X pins σ H { s1 with heap := s1.heap.push { cls := .type "slice", data := .fields #[vl, vu, vs] } } →
      Q (.ref s1.heap.objs.size) { s1 with heap := s1.heap.push { cls := .type "slice", data := .fields #[vl, vu, vs] } }) :
    wpAny (model X.prog X.w) X.A (eval (.Slice none none (some (.UnaryOp .USub (.Constant (.int 1) k p1) p2)) p3) X.env) Q X.xe s := by
  have step : PO X (some (.UnaryOp .USub (.Constant (.int 1) k p1) p2)) (tPart (tUn (rU fun i => .int (-i)) (tC (.int 1)))) := po_some (pe_un un_neg pe_int)
  refine wpAny_Slice (thn (po_none.run pins s σ H (fun o H' => o = none ∧ H' = H) I ⟨rfl, rfl⟩) ?_)
  rintro vl s2 ⟨_, _, I2, pl, rfl, rfl⟩
  refine thn (po_none.run pins s2 σ _ (fun o H' => o = none ∧ H' = _) I2 ⟨rfl, rfl⟩) ?_
  rintro vu s3 ⟨_, _, I3, pu, rfl, rfl⟩
  refine thn (step.run pins s3 σ _ (fun o H' => o = some (-1) ∧ H' = _) I3 ⟨1, rfl, -1, rfl, rfl, rfl⟩) ?_
  rintro vs s4 ⟨_, _, I4, ps, rfl, rfl⟩
  exact h s4 vl vu vs pl pu ps (I4.kept (t' := s4.toks) fun b ob q => Heap.get?_push_of_some _ q)
theorem pe_revT {e : Expr} {te : TE} {k : Nat} {p1 p2 p3 pos : Pos} (he : PE X e te) : PE X (.Subscript e (.Slice none none (some (.UnaryOp .USub (.Constant (.int 1) k p1) p2)) p3) pos) (tRevT X.K te) := by
  refine ⟨fun pins s σ H Q I h => Subscript_ (thn (he.run pins s σ H _ I h) ?_)⟩
  rintro _ s1 ⟨_, H1, I1, rx, a, xs, rfl, hx, q⟩
  cases rx
  refine rev_slice I1 fun s4 vl vu vs pl pu ps I5 => ?_
  obtain ⟨its, r, ht, hz⟩ := I5.tuple hx
  refine tail_any (ops := [.ref a, .ref s4.heap.objs.size]) ht.typeIs (PyProof.Rows.slot_tuple_getitem.lookup) ?_ (by with_unfolding_all rfl)
  refine TRev.getItem_tuple_rev ht (Heap.IsSliceOf.new _ vl vu vs) pl pu ps ?_ (by rw [List.size_toArray, ← r.length]; exact hz)
  exact ⟨.ref _, _, I5.laid (t' := s4.toks) (o := .tup xs.reverse) (fun b ob w => Heap.get?_push_of_some _ w) (Nat.le_refl _) ⟨by rw [List.length_reverse]; exact hz, _, r.reverse, IsTup.new _ _⟩, rfl, q _ (I5.hok.fresh (Nat.le_refl _))⟩
/-! ### sorted(d), d with int keys, any number of them -/
theorem keys_ints {P : Program} {w : World} {vs : List (Key × Value)} {ks : List Int} {acc : List Value} (hk : vs.map (·.1) = ks.map Sum.inl) (hl : acc.length = vs.length)
    (ha : ∀ (j : Nat) (v : Value), acc[j]? = some v → ∃ k x, vs[j]? = some (k, x) ∧ (mixKind P w).is k v = true) : IntsAre acc ks := by
  have lk : vs.length = ks.length := by simpa using congrArg List.length hk
  refine ints_each (by omega) fun j v e => ?_
  obtain ⟨k, x, e1, e2⟩ := ha j v e
  have ej : (ks.map Sum.inl)[j]? = some k := by rw [← hk, List.getElem?_map, e1]; rfl
  rw [List.getElem?_map, Option.map_eq_some_iff] at ej
  obtain ⟨n, en, rfl⟩ := ej
  obtain ⟨t, et⟩ := Value.isInt_shape (k := n) (v := v) e2
  exact ⟨n, t, en, et⟩
theorem sorted_keys {P : Program} {w : World} {A : Around} {E : Value → Shared → Prop} {s : Shared} {d : Addr} {vs : List (Key × Value)} {ep : Nat} {ks : List Int} {Q : Value → Shared → Prop} (hh : A.handled = none) (lo : (d == sysModules) = false)
    (hd : s.heap.DictAt (mixKind P w) d vs ep) (hk : vs.map (·.1) = ks.map Sum.inl) (hn : vs.length ≤ sizeLine)
    (h : ∀ (h1 h2 : Heap) (tk ep : Nat) (out : List Value) (ys : List Int), (∀ b o, s.heap.get? b = some o → h1.get? b = some o) → (∀ b o, h1.get? b = some o → h2.get? b = some o) → h2.get? h1.objs.size = some (seqObj "list" out.toArray ep) →
      IntsAre out ys → ys.Perm ks → ys.Pairwise (· ≤ ·) → Q (.ref h1.objs.size) { s with heap := h2, toks := tk }) : wpAny (model P w) A (call (.builtin "sorted") [.ref d]) Q E s := by
  refine Calls.call_function_entry kind_sorted plain_sorted entry_sorted (args_sorted1 _) ?_
  unfold Builtin.«sorted»
  refine wpAny_bind (m := checkCount "sorted" 1 1 _) (wpAny_pure (wpAny_bind (PySem.W.kdu_collect (PySem.W.kdl_dict lo) hh hd hn fun h1 tk acc k1 hacc => ?_)))
  obtain ⟨c1, c2⟩ := hacc
  have la : acc.toList.length = vs.length := by rw [Array.length_toList, c1]
  have hi : IntsAre acc.toList ks := keys_ints hk la fun j v e => c2 j v (by rw [← Array.getElem?_toList]; exact e)
  have la' : acc.toList.length ≤ sizeLine := la ▸ hn
  have at1 : (h1.push (seqObj "list" acc.toList.toArray 0)).get? h1.objs.size = some (seqObj "list" acc.toList.toArray 0) := Heap.get?_push_size _ rfl
  refine wpAny_bind (wpAny_newList (wpAny_bind (wpAny_holding (wpAny_call_entry slot_list_sort ⟨_, at1, rfl⟩ entry_list_sort (list_sort_treeAny at1 hi la' fun out ys g1 g2 g3 => ⟨_, rfl, ?_⟩) (args_list_sort _)))) la')
  obtain ⟨c, at2⟩ := sortedHeap_at (vs := acc.toList) (out := out) at1
  refine wpAny_pure ⟨_, rfl, h h1 _ tk c out.toList ys k1 (fun b o e => ?_) (by rw [Array.toArray_toList]; exact at2) g1 g2 g3⟩
  have lt := Heap.lt_size e
  exact (sortedHeap_old (Nat.ne_of_lt lt) (by rw [size_push']; exact Nat.lt_succ_of_lt lt)).trans (Heap.get?_push_of_some _ e)
def rSortDk : List V → Hp → VK → Prop := fun xs H Q => ∃ (a : Addr) (kvs : List (Key × V)) (ks : List Int), xs = [.ref a] ∧ Rd H a (.dK kvs) ∧ kvs.map (·.1) = ks.map Sum.inl ∧
    ∀ (ys : List Int) (p : Addr), ys.Perm ks → ys.Pairwise (· ≤ ·) → H p = none → Q (.ref p) (upd H p (.lst (ys.map V.int)))
theorem call_sortDk (hc : X.calm = true) : CallR X (.builtin "sorted") rSortDk := by
  rintro pins s σ H xs us Q I r ⟨a, kvs, ks, rfl, hd, hk, q⟩
  rw [Vals.ref1 r]
  obtain ⟨z, lo, vs, rel, dd⟩ := dk_rd I.hok hd
  obtain ⟨ep, hat⟩ := dd.dictAt
  have lv : vs.length = kvs.length := by simpa using (congrArg List.length rel.keys).symm
  have lk : kvs.length = ks.length := by simpa using congrArg List.length hk
  refine sorted_keys (I.ok.hd hc) lo hat (rel.keys.symm.trans hk) (lv ▸ z) fun h1 h2 tk ep out ys k1 k2 e g1 g2 g3 => ?_
  have hz : (ys.map V.int).length ≤ sizeLine := by rw [List.length_map, g2.length_eq, ← lk]; exact z
  have I1 : Inv X pins σ H { s with heap := h1 } := I.kept (t' := s.toks) k1
  exact ⟨.ref h1.objs.size, _, I1.laid (t' := tk) (o := .lst (ys.map V.int)) k2 (Nat.le_refl _) ⟨hz, out, ep, vals_of_ints g1, e⟩, rfl, q ys _ g2 g3 (I1.hok.fresh (Nat.le_refl _))⟩
end
end L2
/-! What the walks of these laws share: heaps that keep what they have, data that never changes, draws from a list of three numbers. -/
namespace L2
open PySem PySem.Spec PyProof.Rows
/-! ### room -/
theorem hu64 {A : Around} {k : Nat} (hr : Room k A) : A.units + 64 < cLine := by have := hr.un; omega
theorem hu65 {A : Around} {k : Nat} (hr : Room k A) : A.units + 65 < cLine := by have := hr.un; omega
theorem hu66 {A : Around} {k : Nat} (hr : Room k A) : A.units + 66 < cLine := by have := hr.un; omega
/-! ### what is kept -/
/-- all but what stands at S is as it was -/
def But (S : Addr → Prop) (H H' : Hp) : Prop := ∀ a o, ¬ S a → H a = some o → H' a = some o
theorem But.refl {S : Addr → Prop} (H : Hp) : But S H H := fun _ _ _ e => e
theorem But.trans {S : Addr → Prop} {H H1 H2 : Hp} (a : But S H H1) (b : But S H1 H2) : But S H H2 := fun x o n e => b x o n (a x o n e)
theorem But.mono {S T : Addr → Prop} {H H' : Hp} (k : But S H H') (h : ∀ a, S a → T a) : But T H H' := fun a o n e => k a o (fun s => n (h a s)) e
theorem Same.but {S : Addr → Prop} {H H' : Hp} (k : Same H H') : But S H H' := fun a o _ e => k a o e
theorem But.set {S : Addr → Prop} {H : Hp} {a : Addr} {o : HO} (h : S a) : But S H (upd H a o) := fun b u n e => by rw [upd_ne (fun z => n (by rw [z]; exact h))]; exact e
theorem Same.new {H : Hp} {p : Addr} {o : HO} (h : H p = none) : Same H (upd H p o) := fun b u e => by rw [upd_ne (ne_of_none e h)]; exact e
theorem Same.step {H H' : Hp} {p : Addr} {o : HO} (k : Same H H') (h : H' p = none) : Same H (upd H' p o) := k.trans (Same.new h)
theorem But.new {S : Addr → Prop} {H H' : Hp} {p : Addr} {o : HO} (k : But S H H') (h : H' p = none) : But S H (upd H' p o) := k.trans (Same.new h).but
theorem But.put {S : Addr → Prop} {H H' : Hp} {p : Addr} {o : HO} (k : But S H H') (h : S p) : But S H (upd H' p o) := k.trans (But.set h)
theorem But.own {S : Addr → Prop} {H H' : Hp} {p : Addr} {o : HO} (k : But S H H') (h : H p = none) : But S H (upd H' p o) := fun a u n e => by
  rw [upd_ne (ne_of_none e h)]
  exact k a u n e
theorem But.free {S : Addr → Prop} {H H' : Hp} {p : Addr} (k : But S H H') (h : ∀ a, S a → H' a ≠ none) (hp : H' p = none) : H p = none := by
  cases e : H p with
  | none => rfl
  | some o =>
    by_cases hs : S p
    · exact absurd hp (h p hs)
    · rw [k p o hs e] at hp
      cases hp
/-- one that H does not know may change -/
theorem Same.own {H H' : Hp} {p : Addr} {o : HO} (k : Same H H') (h : H p = none) : Same H (upd H' p o) := fun a u e => by
  rw [upd_ne (ne_of_none e h)]
  exact k a u e
/-- tuples stay -/
def TupK (H H' : Hp) : Prop := ∀ a xs, Rd H a (.tup xs) → Rd H' a (.tup xs)
theorem TupK.refl (H : Hp) : TupK H H := fun _ _ e => e
theorem TupK.trans {H H1 H2 : Hp} (a : TupK H H1) (b : TupK H1 H2) : TupK H H2 := fun x xs e => b x xs (a x xs e)
theorem Same.tupK {H H' : Hp} (k : Same H H') : TupK H H' := fun a xs r => r.elim (fun e => .inl (k _ _ e)) fun ⟨o, e⟩ => .inr ⟨o, k _ _ e⟩
theorem But.tupK {S : Addr → Prop} {H H' : Hp} (k : But S H H') (h : ∀ a xs, S a → ¬ Rd H a (.tup xs)) : TupK H H' := fun a xs r =>
  r.elim (fun e => .inl (k _ _ (fun s => h a xs s r) e)) fun ⟨o, e⟩ => .inr ⟨o, k _ _ (fun s => h a xs s r) e⟩
theorem not_tup_lst {H : Hp} {a : Addr} {xs ys : List V} (e : H a = some (.lst xs)) : ¬ Rd H a (.tup ys) := fun r => by
  rcases r with r | ⟨o, r⟩ <;> rw [e] at r <;> cases r
theorem TupK.sqT {K : PySem.W.Frag} {H H' : Hp} {a : Addr} {xs : List V} (k : TupK H H') (h : SqT K H a xs) : SqT K H' a xs := h.elim (fun r => .inl (k _ _ r)) .inr
theorem Same.sqT {K : PySem.W.Frag} {H H' : Hp} {a : Addr} {xs : List V} (k : Same H H') (h : SqT K H a xs) : SqT K H' a xs := k.tupK.sqT h
theorem Same.sqL {K : PySem.W.Frag} {H H' : Hp} {a : Addr} {xs : List V} (k : Same H H') (h : SqL K H a xs) : SqL K H' a xs := k.seq h
theorem But.sqL {S : Addr → Prop} {K : PySem.W.Frag} {H H' : Hp} {a : Addr} {xs : List V} (k : But S H H') (n : ¬ S a) (h : SqL K H a xs) : SqL K H' a xs := by
  rcases h with (h | ⟨o, h⟩) | h
  · exact .inl (.inl (k _ _ n h))
  · exact .inl (.inr ⟨o, k _ _ n h⟩)
  · exact .inr h
/-! ### data without lists -/
mutual
def imm : PyData → Bool
  | .none => true
  | .bool _ => true
  | .int _ => true
  | .str _ => true
  | .tuple ds => immAll ds
  | _ => false
def immAll : List PyData → Bool
  | [] => true
  | d :: ds => imm d && immAll ds
end
mutual
theorem Dp.keep {K : PySem.W.Frag} {H H' : Hp} (k : TupK H H') : ∀ (d : PyData) (v : V), imm d = true → Dp K H v d → Dp K H' v d
  | .none, _, _, h => by cases h; exact .non
  | .bool b, _, _, h => by cases h; exact .bl b
  | .int i, _, _, h => by cases h; exact .int i
  | .str x, _, _, h => by cases h; exact .str x
  | .tuple ds, _, hi, h => by
    cases h with
    | tup hs ha => exact .tup (k.sqT hs) (Dp.keepAll k ds _ (by simpa only [imm] using hi) ha)
  | .list _, _, hi, _ => by simp [imm] at hi
  | .dict _, _, hi, _ => by simp [imm] at hi
theorem Dp.keepAll {K : PySem.W.Frag} {H H' : Hp} (k : TupK H H') : ∀ (ds : List PyData) (vs : List V), immAll ds = true → DpAll K H vs ds → DpAll K H' vs ds
  | [], _, _, h => by cases h; exact .nil
  | d :: ds, _, hi, h => by
    simp only [immAll, Bool.and_eq_true] at hi
    cases h with
    | cons h1 h2 => exact .cons (Dp.keep k d _ hi.1 h1) (Dp.keepAll k ds _ hi.2 h2)
end
theorem DpAll.get {K : PySem.W.Frag} {H : Hp} : ∀ {vs : List V} {ds : List PyData} {i : Nat} {v : V}, DpAll K H vs ds → vs[i]? = some v → ∃ d, ds[i]? = some d ∧ Dp K H v d
  | _, _, _, _, .nil, e => by simp at e
  | _, _, 0, _, .cons h _, e => by
    simp at e
    subst e
    exact ⟨_, rfl, h⟩
  | _, _, i + 1, _, .cons _ t, e => by
    obtain ⟨d, h1, h2⟩ := DpAll.get (i := i) t (by simpa using e)
    exact ⟨d, by simpa using h1, h2⟩
theorem DpAll.of_get {K : PySem.W.Frag} {H : Hp} : ∀ {vs : List V} {ds : List PyData}, vs.length = ds.length → (∀ (i : Nat) (v : V) (d : PyData), vs[i]? = some v → ds[i]? = some d → Dp K H v d) → DpAll K H vs ds
  | [], [], _, _ => .nil
  | [], _ :: _, h, _ => by simp at h
  | _ :: _, [], h, _ => by simp at h
  | v :: vs, d :: ds, h, f => .cons (f 0 v d rfl rfl) (DpAll.of_get (by simpa using h) fun i x y e1 e2 => f (i + 1) x y (by simpa using e1) (by simpa using e2))
theorem DpAll.app {K : PySem.W.Frag} {H : Hp} : ∀ {vs ws : List V} {ds es : List PyData}, DpAll K H vs ds → DpAll K H ws es → DpAll K H (vs ++ ws) (ds ++ es)
  | _, _, _, _, .nil, h => h
  | _, _, _, _, .cons h t, h2 => .cons h (DpAll.app t h2)
/-! ### keywords: p positional values, k by name -/
def kbG {α : Type} (p k : Nat) (us ws : List α) : List α := if us.length = p ∧ ws.length = k then us ++ ws else []
theorem kbG_len {α : Type} {p k n : Nat} {us ws : List α} (h : (kbG p k us ws).length = n) (hn : 0 < n) : us.length = p ∧ ws.length = k := by
  unfold kbG at h
  by_cases c : us.length = p ∧ ws.length = k
  · exact c
  · rw [if_neg c] at h
    simp at h
    omega
theorem kbG_rel {p k : Nat} {vs : List V} {us : List Value} {zs : List V} {ws : List Value} (a : Vals vs us) (b : Vals zs ws) : Vals (kbG p k vs zs) (kbG p k us ws) := by
  unfold kbG
  rw [a.length, b.length]
  by_cases c : us.length = p ∧ ws.length = k
  · rw [if_pos c, if_pos c]
    exact a.append b
  · rw [if_neg c, if_neg c]
    exact .nil
/-- .. where the names come in another order -/
def kbP {α : Type} (p k : Nat) (ix : List Nat) (us ws : List α) : List α := if us.length = p ∧ ws.length = k then us ++ ix.filterMap (fun i => ws[i]?) else []
theorem kbP_len {α : Type} {p k n : Nat} {ix : List Nat} {us ws : List α} (h : (kbP p k ix us ws).length = n) (hn : 0 < n) : us.length = p ∧ ws.length = k := by
  unfold kbP at h
  by_cases c : us.length = p ∧ ws.length = k
  · exact c
  · rw [if_neg c] at h
    simp at h
    omega
theorem pick_rel {zs : List V} {ws : List Value} (b : Vals zs ws) : ∀ ix : List Nat, Vals (ix.filterMap fun i => zs[i]?) (ix.filterMap fun i => ws[i]?)
  | [] => .nil
  | i :: ix => by
    rw [List.filterMap_cons, List.filterMap_cons]
    cases e : zs[i]? with
    | none =>
      have z : ws[i]? = none := by
        rw [List.getElem?_eq_none_iff] at e ⊢
        rw [← b.length]
        exact e
      rw [z]
      exact pick_rel b ix
    | some x =>
      obtain ⟨u, e2, r⟩ := Vals.get b e
      rw [e2]
      exact .cons r (pick_rel b ix)
theorem kbP_rel {p k : Nat} {ix : List Nat} {vs : List V} {us : List Value} {zs : List V} {ws : List Value} (a : Vals vs us) (b : Vals zs ws) : Vals (kbP p k ix vs zs) (kbP p k ix us ws) := by
  unfold kbP
  rw [a.length, b.length]
  by_cases c : us.length = p ∧ ws.length = k
  · rw [if_pos c, if_pos c]
    exact a.append (pick_rel b ix)
  · rw [if_neg c, if_neg c]
    exact .nil
/-! ### what len reads; a list filtered by a number -/
abbrev rLenS (K : PySem.W.Frag) : List V → Hp → VK → Prop := fun xs H Q => ∃ p ys, xs = [V.ref p] ∧ (SqL K H p ys ∨ SqT K H p ys) ∧ Q (.int ys.length) H
theorem dec_vint (k n : Int) : decide (V.int k = V.int n) = decide (k = n) := by
  by_cases h : k = n
  · subst h
    simp
  · have : ¬ V.int k = V.int n := fun e => h (V.int.inj e)
    simp [h, this]
theorem lc_filter {K : PySem.W.Frag} {a : Addr} {val : Int → V} {ns : List Int} {n : Int} {s : Nat} {tt : TT} {σ : L2.St} {H1 : Hp} {D : Addr} {Qd : Hp → Prop} (ha : SqL K H1 a (ns.map val)) (hD : H1 D = none) (hl : ns.length < sizeLine)
    (htt : ∀ k ∈ ns, ∀ H' (Q : Bool → Hp → Prop), Same H1 H' → Q (decide (k = n)) H' → tt ((wipe σ [s]).set s (some (val k))) H' Q)
    (hw : ∀ x, wipe ((wipe σ [s]).set s (some x)) [s] = wipe σ [s]) (hg : ∀ x H' Q, Q x H' → tVar s ((wipe σ [s]).set s (some x)) H' Q)
    (hd : ∀ H', H' D = some (.lst ((ns.filter fun k => decide (k = n)).map val)) → Same H1 H' → Qd H') :
    ∃ W : Nat → Nat → Hp → Prop, (∃ m, W 0 m (upd H1 D (.lst []))) ∧ ∀ i m H, W i m H →
      ((Itl K a).stop i H ∧ Qd H) ∨ ((Itl K a).go i H ∧ ∃ Nx : Hp → Prop, (∀ H', Nx H' → ∃ m', m' < m ∧ W (i + 1) m' H') ∧ ∀ x H', (Itl K a).yld i H x H' → gName s x (wipe σ [s]) H' fun σ2 H2 => wipe σ2 [s] = wipe σ [s] ∧ tt σ2 H2 fun b H3 =>
        if b = true then tVar s σ2 H3 fun y H4 => ∃ acc, H4 D = some (.lst acc) ∧ acc.length < sizeLine ∧ Nx (upd H4 D (.lst (acc ++ [y]))) else Nx H3) := by
  refine lc_list (K := K) (a := a) (xs := ns.map val) (g := gName s) (tt := tt) (te := tVar s) (vs := [s]) (σ := σ) (fun i H' => H' D = some (.lst (((ns.take i).filter fun k => decide (k = n)).map val)) ∧ Same H1 H') ⟨upd_same, Same.new hD⟩ (fun i H' _ h => h.2.seq ha) ?_ ?_
  · rintro i x H' hi ⟨e1, e2⟩
    have hil : i < ns.length := by
      have z := (List.getElem?_eq_some_iff.mp hi).1
      rw [List.length_map] at z
      exact z
    obtain ⟨k, hk, rfl⟩ : ∃ k, ns[i]? = some k ∧ x = val k := by
      rw [List.getElem?_map, List.getElem?_eq_getElem hil] at hi
      exact ⟨_, List.getElem?_eq_getElem hil, (Option.some.inj hi).symm⟩
    refine ⟨hw _, htt k (List.mem_of_getElem? hk) H' _ e2 ?_⟩
    have et : ns.take (i + 1) = ns.take i ++ [k] := by rw [List.take_add_one, hk]; rfl
    by_cases hkn : k = n
    · rw [decide_eq_true hkn]
      refine iteT (hg _ _ _ ⟨_, e1, ?_, ?_, e2.own hD⟩)
      · rw [List.length_map]
        exact Nat.lt_of_le_of_lt (Nat.le_trans (List.length_filter_le _ _) (by rw [List.length_take]; exact Nat.min_le_right _ _)) hl
      · rw [upd_same, et, List.filter_append, List.map_append]
        simp [hkn]
    · rw [decide_eq_false hkn]
      refine iteF ⟨?_, e2⟩
      rw [e1, et, List.filter_append, List.map_append]
      simp [hkn]
  · rintro H' ⟨e1, e2⟩
    rw [List.length_map, List.take_length] at e1
    exact hd H' e1 e2
end L2
/-! Methods called in a try's body: what they raise is the clause's (the wish may name the slots). -/
namespace L2
open PySem PySem.Spec PyProof.Rows
section
variable {X : Cx} {CX : CXT} {k : Nat} {f C : Addr} {fd : FuncData} {ps ks : List Str} {sp : Sp} {E : L2.St → XK} {m : Str} {apos pos : Pos} {o e : Expr} {es : List Expr} {kws : List Keyword} {ta : TE} {t tk : TA}
variable {g : List Value → List Value → List Value} {gV : List V → List V → List V}
theorem run_kS {pins : List (Addr × Obj)} {σ : L2.St} {H : Hp} {s : Shared} {Q : VK} {us ws : List Value} {vs zs : List V} (F : FnOk X.prog X.w X.K X.mg X.base CX k f fd ps sp) (hr : Room k X.A) (hb : KBinds X.K fd ps ks g gV) (hx : PassesAt CX X σ (E σ))
    (I : Inv X pins σ H s) (r : Vals vs us) (rz : Vals zs ws) (h : sp (gV vs zs) H Q (E σ)) : wpAny (model X.prog X.w) X.A (call (.ref f) us (ks.zip ws)) (EP X pins σ Q) X.xe s := by
  have both := hb.rel r rz
  have len : (g us ws).length = ps.length := both.length.symm.trans (F.len _ _ _ _ h)
  refine wpAny_call (codeAny_mono (F.run X.A X.stack s H ⟨us, ks.zip ws⟩ (g us ws) (gV vs zs) Q (E σ) hr I.env0 (hb.to s us ws I.kIn len) both h) ?_)
  intro res s' post
  cases res with
  | error x => exact hx pins H s x s' I post
  | ok way =>
    cases way with
    | ret u => exact I.after post
    | next => cases post
    | brk => cases post
    | cont => cases post
/-- o.m(k = v, ..) in a try -/
def tMethKS (C : Addr) (m : Str) (sp : Sp) (gV : List V → List V → List V) (E : L2.St → XK) (ta : TE) (tk : TA) : TE := fun σ H Q => ta σ H fun x H1 => ∃ a dx fs, x = .ref a ∧ H1 a = some (.ins C dx fs) ∧ fs.lookup m = none ∧
  tk σ H1 fun zs H2 => sp (gV [x] zs) H2 Q (E σ)
theorem pe_methKS {pl : Sem Bool} (he : PE X o ta) (c : Cls X.K C) (hm : Meth X.K C m f) (F : FnOk X.prog X.w X.K X.mg X.base CX k f fd ps sp) (hr : Room k X.A) (hb : KBinds X.K fd ps ks g gV) (hx : ∀ σ, PassesAt CX X σ (E σ))
    (hkw : PK X kws tk) (hall : (backToKw pos (keywordEach kws X.env)).all (·.1.isSome) = true := by rfl) (hks : (backToKw pos (keywordEach kws X.env)).filterMap (·.1) = ks := by rfl)
    (hpl : ((backTo pos (starEach [] X.env)).any (·.1) || (backToKw pos (keywordEach kws X.env)).any (·.1.isNone)) = false := by rfl)
    (ht : eval (.Call (.Attribute o m apos) [] kws pos) X.env = (do
      let ov ← eval o X.env
      standAt apos.atName
      let (f, first) ← holding [ov] (getMethod ov m pl)
      callWith pos f first (backTo pos (starEach [] X.env)) (backToKw pos (keywordEach kws X.env))) := by rfl) :
    PE X (.Call (.Attribute o m apos) [] kws pos) (tMethKS C m sp gV E ta tk) := by
  refine ⟨fun pins s σ H Q I h => ?_⟩
  refine PySem.W.methodCall_KW (pl := pl) (thn (he.run pins s σ H _ I h) ?_) ht
  rintro u s1 ⟨x, H1, I1, rx, a, dx, fs, rfl, ea, no, q⟩
  obtain rfl : u = Value.ref a := rx
  refine getmeth_ok I1 ea c hm no ?_
  refine PySem.W.callWith_KW0 (first := [.ref a]) (h₀ := X.base) I.ok.mod.kin hm.kp hall ?_ hpl
  refine thn (hkw.run pos pins s1 σ H1 _ I1 q) ?_
  rintro ws s2 ⟨zs, H2, I2, rz, q2⟩
  refine ⟨I2.kIn, ?_⟩
  rw [hks]
  exact run_kS (us := [.ref a]) (vs := [.ref a]) F hr hb (hx σ) I2 (.cons rfl .nil) rz q2
/-- o.m(e, ..) in a try -/
def tMethPS (C : Addr) (m : Str) (sp : Sp) (E : L2.St → XK) (ta : TE) (t : TA) : TE := fun σ H Q => ta σ H fun x H1 => ∃ a dx fs, x = .ref a ∧ H1 a = some (.ins C dx fs) ∧ fs.lookup m = none ∧
  t σ H1 fun vs H2 => sp (x :: vs) H2 Q (E σ)
theorem pe_methPS {pl : Sem Bool} (he : PE X o ta) (c : Cls X.K C) (hm : Meth X.K C m f) (F : FnOk X.prog X.w X.K X.mg X.base CX k f fd ps sp) (hr : Room k X.A) (hb : Binds X.K fd ps []) (hx : ∀ σ, PassesAt CX X σ (E σ)) (ha : PA X (e :: es) t)
    (hst : starEach (e :: es) X.env = (false, eval e X.env) :: starEach es X.env := by rfl) (hpl : (backTo pos (starEach es X.env)).any (·.1) = false := by rfl)
    (ht : eval (.Call (.Attribute o m apos) (e :: es) [] pos) X.env = (do
      let ov ← eval o X.env
      standAt apos.atName
      let (f, first) ← holding [ov] (getMethod ov m pl)
      callWith pos f first (backTo pos (starEach (e :: es) X.env)) (backToKw pos (keywordEach [] X.env))) := by rfl) :
    PE X (.Call (.Attribute o m apos) (e :: es) [] pos) (tMethPS C m sp E ta t) := by
  refine ⟨fun pins s σ H Q I h => ?_⟩
  refine PySem.W.methodCall_KW (pl := pl) (thn (he.run pins s σ H _ I h) ?_) ht
  rintro u s1 ⟨x, H1, I1, rx, a, dx, fs, rfl, ea, no, q⟩
  obtain rfl : u = Value.ref a := rx
  refine getmeth_ok I1 ea c hm no ?_
  refine PySem.W.callWith_K (first := [.ref a]) (h₀ := X.base) I.ok.mod.kin hm.kp (thn (ha.run pos pins s1 σ H1 _ I1 q) ?_) hst hpl
  rintro us s2 ⟨vs, H2, I2, r, q2⟩
  exact ⟨I2.kIn, run_fnS (us := .ref a :: us) (vs := .ref a :: vs) F hr hb (hx σ) I2 (.cons rfl r) q2⟩
end
end L2
/-! Promises for calls in which nobody is being shown yet (no guard of repr stands around): what repr needs. Defs on the way from the law to a repr are of this kind. -/
namespace L2
open PySem PySem.Spec PyProof.Rows
/-- as FnOk, for calls with no guard around -/
structure FnG (P : Program) (w : World) (K : PySem.W.Frag) (mg : Str → Option Value) (base : Heap) (CX : CXT) (k : Nat) (f : Addr) (fd : FuncData) (ps : List Str) (sp : Sp) : Prop where
  len : ∀ vs H Q E, sp vs H Q E → vs.length = ps.length
  run : ∀ (A : Around) (outer : List Env) (s : Shared) (H : Hp) (args : Args) (us : List Value) (vs : List V) (Q : VK) (E : XK), A.guards = some [] → Room k A → Env0 P w K mg base A outer s H → BindsTo s fd args (ps.zip us) → Vals vs us → sp vs H Q E →
    codeAny (model P w) A (.call (.ref f) args) (CR CX outer P w H s Q E) s
theorem FnOk.g {P : Program} {w : World} {K : PySem.W.Frag} {mg : Str → Option Value} {base : Heap} {CX : CXT} {k : Nat} {f : Addr} {fd : FuncData} {ps : List Str} {sp : Sp} (F : FnOk P w K mg base CX k f fd ps sp) : FnG P w K mg base CX k f fd ps sp :=
  ⟨F.len, fun A outer s H args us vs Q E _ => F.run A outer s H args us vs Q E⟩
section
variable {P : Program} {w : World} {K : PySem.W.Frag} {mg : Str → Option Value} {base : Heap}
/-- a def's body, walked where no guard stands -/
theorem Fun.okG {x qual : Str} {st : Stmt} {f : Addr} {fd : FuncData} {N ps : List Str} {k : Nat} {sp : Sp} (F : Fun K x qual st f fd) (S : FnScope N ps (defScope st)) (len : ∀ vs H Q E, sp vs H Q E → vs.length = ps.length)
    (walk : ∀ (cdv : Value) (A : Around) (outer : List Env) (s : Shared) (H : Hp) (vs : List V) (Q : VK) (E : XK), (A.deeper (envOfC qual (defScope st) s.heap.objs.size f cdv)).guards = some [] → Room k (A.deeper (envOfC qual (defScope st) s.heap.objs.size f cdv)) → sp vs H Q E →
      ∃ t, PSs (cxOf CX0 P w K mg base N qual (defScope st) f cdv A outer s H E).nox (defBody st) t ∧ t { nx := fun _ H' => Q .non H', rt := Q } (start N vs) H) : FnG P w K mg base CX0 (k + 1) f fd ps sp := by
  obtain ⟨oc, od, kV, doc, pm, an, cdv, ct, osl, rfl, at1, code⟩ := F.ex
  refine ⟨len, ?_⟩
  intro A outer s H args us vs Q E gd room env bind rel want
  have long := len _ _ _ _ want
  have keepAll : ∀ (b : Addr) (o : Obj), base.get? b = some o → s.heap.get? b = some o := fun b o e => (env.bs b o e).1
  have frag := env.mod.kin.keeps keepAll
  obtain ⟨t, terms, read⟩ := walk cdv A outer s H vs Q E gd (room.deeper _) want
  have kinds : ∀ y ∈ ps.zip us, (defScope st).names.lookup y.1 = some .local ∨ ((defScope st).names.lookup y.1 = some .cell ∧ ((cellsFrom (s.heap.objs.size + 1) (defScope st).names []).lookup y.1).isSome = true) := by
    rintro ⟨n, v⟩ hy
    exact (S.par n (List.of_mem_zip hy).1).imp id fun c => ⟨c, PySem.W.cellsFrom_some _ _ _ (.inl c)⟩
  refine codeAny_call_function room.depth (frag _ _ at1) rfl S.co S.gen rfl (PySem.W.codeRec_of frag code) (bind _ _ _ _ (wpAny_newFunctionEnv_cells S.kind kinds ?_))
  rintro _ rfl s1 made
  refine ⟨(env.mod.nolimit.keeps keepAll).keeps made.toInCall.keep, codeAny_func ?_⟩
  have inv := inv_start (P := P) (E := E) (CX := CX0) S room.hd env long rel made
  refine wpAny_mono (terms.nox.run [] s1 (start N vs) H _ inv read) ?_ fun e s' hs => hs
  intro way s' hs
  cases way with
  | ret u =>
    obtain ⟨v, σ', H', J, rv, q⟩ := hs
    exact ⟨v, H', J.os, J.bare, J.base, J.hok, rv, q⟩
  | next =>
    obtain ⟨σ', H', J, q⟩ := hs
    exact ⟨V.non, H', J.os, J.bare, J.base, J.hok, rfl, q⟩
  | brk => exact hs.elim fun _ h => h.elim fun _ h => h.2.elim
  | cont => exact hs.elim fun _ h => h.elim fun _ h => h.2.elim
end
section
variable {X : Cx} {CX : CXT} {k : Nat} {f : Addr} {fd : FuncData} {ps : List Str} {sp : Sp} {dvs : List V} {ds : List Value} {E : XK} {x : Str} {p pos : Pos} {e : Expr} {es : List Expr} {t : TA}
theorem run_fnG {pins : List (Addr × Obj)} {σ : L2.St} {H : Hp} {s : Shared} {Q : VK} {us : List Value} {vs : List V} (gd : X.A.guards = some []) (F : FnG X.prog X.w X.K X.mg X.base CX k f fd ps sp) (hr : Room k X.A) (hb : Binds X.K fd ps ds) (hd : Vals dvs ds) (hx : Passes CX X E)
    (I : Inv X pins σ H s) (r : Vals vs us) (h : sp (vs ++ dvs) H Q E) : wpAny (model X.prog X.w) X.A (call (.ref f) us) (EP X pins σ Q) X.xe s := by
  have both : Vals (vs ++ dvs) (us ++ ds) := r.append hd
  have len : (us ++ ds).length = ps.length := both.length.symm.trans (F.len _ _ _ _ h)
  refine wpAny_call (codeAny_mono (F.run X.A X.stack s H ⟨us, []⟩ (us ++ ds) (vs ++ dvs) Q E gd hr I.env0 (hb s us I.kIn len) both h) ?_)
  intro res s' post
  cases res with
  | error z => exact hx pins σ H s z s' I post
  | ok way =>
    cases way with
    | ret u => exact I.after post
    | next => cases post
    | brk => cases post
    | cont => cases post
theorem pe_callG (gd : X.A.guards = some []) (F : FnG X.prog X.w X.K X.mg X.base CX k f fd ps sp) (hr : Room k X.A) (hg : Gl X x) (hm : X.mg x = some (.ref f)) (hk : PySem.W.keepIn X.K (.ref f) = true) (hb : Binds X.K fd ps ds) (hd : Vals dvs ds) (hx : Passes CX X E)
    (ha : PA X (e :: es) t) (hdb : (x == ("__debug__" : Str)) = false := by decide) (he : starEach (e :: es) X.env = (false, eval e X.env) :: starEach es X.env := by rfl) (hpl : (backTo pos (starEach es X.env)).any (·.1) = false := by rfl) :
    PE X (.Call (.Name x p) (e :: es) [] pos) (tCall sp dvs E t) := by
  refine ⟨fun pins s σ H Q I h => ?_⟩
  refine wpAny_Call_Name_kw (ld_glob I hg hm ?_ hdb)
  refine PySem.W.callWith_K (h₀ := X.base) I.ok.mod.kin hk (thn (ha.run pos pins s σ H _ I h) ?_) he hpl
  rintro us s1 ⟨vs, H1, I1, r, q⟩
  exact ⟨I1.kIn, run_fnG gd F hr hb hd hx I1 r q⟩
/-! ### repr of data -/
def rRepr (K : PySem.W.Frag) : List V → Hp → VK → Prop := fun xs H Q => ∃ (a : Addr) (d : PyData), xs = [.ref a] ∧ Dp K H (.ref a) d ∧ d.showable = true ∧ d.hasDict = false ∧ d.shown.length ≤ sizeLine ∧ d.depth ≤ 60 ∧ Q (.str d.shown) H
theorem call_reprD (gd : X.A.guards = some []) (hu : X.A.units + 64 < cLine) : CallR X (.builtin "repr") (rRepr X.K) := by
  intro pins s σ H xs us Q I r h
  obtain ⟨a, d, rfl, hd, h1, h2, h3, h4, q⟩ := h
  rw [Vals.ref1 r]
  obtain ⟨as, rd⟩ := Dp.reads I d (.ref a) (.ref a) hd rfl
  refine PySem.repr_of_reads' rd h1 (fun z => by rw [h2] at z; cases z) gd (by omega) (fun _ _ e => e) (fun h' u tk hk => ?_) h3
  exact ⟨.str d.shown, H, I.kept hk, ⟨u, rfl⟩, q⟩
end
end L2
/-! The end for laws whose defs are of the kind FnG (LibG). -/
namespace L2
open PySem PySem.Spec PyProof.Rows
/-- all that H tracks is the script at a, which is known to the object -/
def Lone (a : Addr) (H : Hp) : Prop := ∀ b u, H b = some u → b = a ∧ ∃ o xs, u = .frz o (.lst xs)
theorem Lone.only {a : Addr} {H : Hp} (h : Lone a H) : Only H := fun b => by
  cases e : H b with
  | none => exact .inl rfl
  | some u =>
    obtain ⟨_, o, xs, rfl⟩ := h b u e
    exact .inr ⟨o, xs, rfl⟩
section
variable {P : Program} {w : World} {K : PySem.W.Frag} {mg mb : Str → Option Value} {a : Addr} {s : Shared} {vs : List Value}
/-- the ground under a law's call: what is not the script is base -/
theorem ground_of (frag : K.In s.heap) (names : s.heap.Ns mainGlobals mg) (blt : s.heap.Ns builtinsNs mb) (blts : ∀ x : Str, x ≠ "__name__" → mb x = bootBuiltins x) (lim : s.heap.NoLimit) (gens : s.gens = #[])
    (at_a : s.heap.get? a = some { cls := .type "list", data := .seq vs.toArray }) {H : Hp} (lone : Lone a H) (own : H a ≠ none → K.lookup a = none) (ok : HOk P w H s.heap) :
    K.In (hidT s.heap H) ∧ (hidT s.heap H).Ns mainGlobals mg ∧ Env0 P w K mg (hidT s.heap H) callerA [] s H := by
  have untracked : ∀ {b : Addr} {o : Obj}, s.heap.get? b = some o → (b = a → o ≠ { cls := .type "list", data := .seq vs.toArray }) → H b = none := by
    intro b o e d
    cases q : H b with
    | none => rfl
    | some u =>
      obtain ⟨rfl, _⟩ := lone b u q
      rw [at_a] at e
      exact absurd (Option.some.inj e).symm (d rfl)
  have spaces : ∀ {b : Addr} {m : Str → Option Value}, s.heap.Ns b m → (hidT s.heap H).Ns b m := by
    rintro b m ⟨o, es, ep, e, d, r⟩
    refine ⟨o, es, ep, hidT_get e (untracked e fun _ z => ?_), d, r⟩
    rw [z] at d
    have d' : Data.seq vs.toArray _ = Data.dict es ep := d
    cases d'
  have within : K.In (hidT s.heap H) := fun b o e => by
    refine hidT_get (frag b o e) ?_
    cases q : H b with
    | none => rfl
    | some u =>
      obtain ⟨rfl, _⟩ := lone b u q
      rw [own (by rw [q]; intro z; cases z)] at e
      cases e
  obtain ⟨ml, l1, l2⟩ := lim
  refine ⟨within, spaces names, rfl, ⟨within, spaces names, ⟨mb, spaces blt, blts⟩, ml, spaces l1, l2⟩, fun b o e => of_hidT e, Nat.le_of_eq (hidT_size _ _), trivial, ?_, ok, .of_eq gens⟩
  intro b hb
  exact (List.not_mem_nil (show b ∈ ([] : List Addr) from hb)).elim
/-- behind the call all that stood stands -/
theorem end_of {H : Hp} {r : Result} {s' : Shared} {CX : CXT} (lone : Lone a H) (ok : HOk P w H s.heap) (raise : ∀ e s', CX [] H s (fun _ _ _ => False) e s' → False)
    (post : CR CX [] P w H s (fun v _ => v = .bl true) (fun _ _ _ => False) r s') : r = .ok (.ret (.bool true)) ∧ OldK s.heap s'.heap ∧ s'.os = s.os ∧ AllBare s'.gens := by
  cases r with
  | error e => exact (raise e s' post).elim
  | ok way =>
    cases way with
    | next => cases post
    | brk => cases post
    | cont => cases post
    | ret u =>
      obtain ⟨v, H', os, bare, un, ok', rel, rfl⟩ := post
      obtain rfl : u = Value.bool true := rel
      refine ⟨rfl, OldK.of_keep ?_, os, bare⟩
      intro b o e
      cases q : H b with
      | none => exact un.keep b o e q (fun z => (List.not_mem_nil (show b ∈ ([] : List Addr) from z)).elim) (fun z => (List.not_mem_nil z).elim)
      | some x =>
        obtain ⟨_, ob, xs, rfl⟩ := lone b x q
        obtain ⟨before, _⟩ := ok b _ q
        obtain ⟨behind, _⟩ := ok' b _ (un.frzs b ob _ q)
        rw [before] at e
        rw [behind]
        exact e
theorem law_callG {CX : CXT} {k : Nat} {fa : Addr} {fd : FuncData} {x : Str} {sp : Sp} {ns : List Int} (frag : K.In s.heap) (names : s.heap.Ns mainGlobals mg) (blt : s.heap.Ns builtinsNs mb) (blts : ∀ x : Str, x ≠ "__name__" → mb x = bootBuiltins x) (lim : s.heap.NoLimit) (gens : s.gens = #[])
    (at_a : s.heap.get? a = some { cls := .type "list", data := .seq vs.toArray }) (all_int : IntsAre vs ns) (short : ns.length ≤ sizeLine) (room : Room k callerA)
    (F : ∀ base : Heap, K.In base → base.Ns mainGlobals mg → FnG P w K mg base CX k fa fd [x] sp) (bind : ∀ (s : Shared) (u : Value), BindsTo s fd ⟨[u], []⟩ [(x, u)])
    (want : ∀ H : Hp, Only H → SqL K H a (ns.map V.int) → sp [.ref a] H (fun v _ => v = .bl true) fun _ _ _ => False) (raise : ∀ H e s', CX [] H s (fun _ _ _ => False) e s' → False) :
    codeAny (model P w) callerA (.call (.ref fa) ⟨[.ref a], []⟩) (fun r s' => r = .ok (.ret (.bool true)) ∧ OldK s.heap s'.heap ∧ s'.os = s.os ∧ AllBare s'.gens) s := by
  have rel := vals_ints all_int
  have go : ∀ H : Hp, Lone a H → (H a ≠ none → K.lookup a = none) → HOk P w H s.heap → SqL K H a (ns.map V.int) →
      codeAny (model P w) callerA (.call (.ref fa) ⟨[.ref a], []⟩) (fun r s' => r = .ok (.ret (.bool true)) ∧ OldK s.heap s'.heap ∧ s'.os = s.os ∧ AllBare s'.gens) s := by
    intro H lone own ok script
    obtain ⟨g1, g2, env⟩ := ground_of frag names blt blts lim gens at_a lone own ok
    exact codeAny_mono ((F _ g1 g2).run callerA [] s H ⟨[.ref a], []⟩ [.ref a] [.ref a] _ _ rfl room env (bind s (.ref a)) (.cons rfl .nil) (want H lone.only script)) fun r s' post => end_of lone ok (raise H) post
  cases known : K.lookup a with
  | some o =>
    have here := frag a o known
    rw [at_a] at here
    cases here
    refine go (fun _ => none) (fun b u z => nomatch z) (fun z => absurd rfl z) (fun b u z => nomatch z) (.inr ⟨_, vs.toArray, _, known, rfl, rfl, rfl, ?_, rel⟩)
    rw [List.size_toArray, all_int.length]
    exact short
  | none =>
    let H : Hp := upd (fun _ => none) a (.frz { cls := .type "list", data := .seq vs.toArray } (.lst (ns.map V.int)))
    have here : H a = some (.frz { cls := .type "list", data := .seq vs.toArray } (.lst (ns.map V.int))) := upd_same
    have one : ∀ b u, H b = some u → b = a ∧ u = .frz { cls := .type "list", data := .seq vs.toArray } (.lst (ns.map V.int)) := by
      intro b u z
      by_cases c : b = a
      · subst c
        rw [here] at z
        exact ⟨rfl, (Option.some.inj z).symm⟩
      · have z' : (upd (fun _ => none) a _ : Hp) b = some u := z
        rw [upd_ne c] at z'
        cases z'
    refine go H (fun b u z => ⟨(one b u z).1, _, _, (one b u z).2⟩) (fun _ => known) (fun b u z => ?_) (.inl (.inr ⟨_, here⟩))
    obtain ⟨rfl, rfl⟩ := one b u z
    exact ⟨at_a, by rw [List.length_map]; exact short, vs, _, rel, at_a⟩
end
theorem walk_ofG {l : PySem.W.OpenLaw} {n k : Nat} {q : Program} {loose : List Str} {XP : (Str → Option Value) → Heap → Prop} {YP : World → Heap → Prop} {d : DefRec} {K : Params → PySem.W.Frag} {CX : World → CXT} {sp : World → Sp} {x : Str}
    (most : l.most = some n) (short : n ≤ sizeLine) (plain : d.params.defaults = []) (room : Room k callerA) (frag : ∀ (w : World) (h : Heap), YP w h → (K w.params).In h)
    (F : ∀ (w : World) (mg : Str → Option Value) (fa : Addr) (h : Heap), (K w.params).In h → h.Ns mainGlobals mg → mg d.name = some (.ref fa) →
      ∃ fd : FuncData, (∀ (s : Shared) (u : Value), BindsTo s fd ⟨[u], []⟩ [(x, u)]) ∧ ∀ base : Heap, (K w.params).In base → base.Ns mainGlobals mg → FnG l.prog w (K w.params) mg base (CX w) k fa fd [x] (sp w))
    (want : ∀ (w : World) (H : Hp) (a : Addr) (ns : List Int), ns.length ≤ n → Only H → SqL (K w.params) H a (ns.map V.int) → sp w [.ref a] H (fun v _ => v = .bl true) fun _ _ _ => False)
    (raise : ∀ (w : World) (H : Hp) (s : Shared) (e : Value) (s' : Shared), CX w [] H s (fun _ _ _ => False) e s' → False) : PySem.W.WalkO q loose XP YP l.row.toRowW d [] (fun f vs => PySem.call f vs) := by
  refine Att.attach_call most plain ?_
  intro w s₀ s₁ mg mb fa o pm cd doc a vs ns G Y _ _ _ named script all_int len gens
  obtain ⟨fd, bind, fn⟩ := F w mg fa _ (frag w _ Y) G.T.g named
  exact law_callG (frag w _ Y) G.T.g G.T.b G.T.builtins G.T.nolimit gens script all_int (Nat.le_trans len short) room fn bind (fun H only sq => want w H a ns len only sq) fun H e s' => raise w H s₁ e s'
end L2
/-! len(x), bool(x) of instances whose class has a def __len__, __bool__. -/
namespace OwnX
open PySem PySem.W
section
variable {prog : Program} {w : World} {A : Around} {E : Value → Shared → Prop} {s : Shared} {K : Frag} {a C f : Addr} {ox : Obj} {od : Option Obj}
/-- a special def of the instance's class, called with the instance alone -/
theorem special_def {name : Str} {Q : Option Value → Shared → Prop} (X : K.In s.heap) (I : InstAt s.heap a ox C od) (found : findIn K (.ref C) name = some (some (.ref f))) (fn : isFn K (.ref f) = true)
    (go : wpAny (model prog w) A (call (.ref f) [.ref a]) (fun v s' => Q (some v) s') E s) : wpAny (model prog w) A (callSpecial? (.ref a) name) Q E s := by
  unfold callSpecial? specialOf
  refine wpAny_bind (wpAny_bind (I.type.here ((looks_findIn X found).here ?_)))
  refine wpAny_holding (wpAny_bind ?_)
  unfold bindSpecial
  refine wpAny_bind ((looks_typeIn X (beq_iff_eq.mp fn)).here ?_)
  rw [if_pos (by decide)]
  exact wpAny_pure (wpAny_bind (wpAny_mono go (fun v s' h => wpAny_pure h) fun _ _ h => h))
theorem len_def {Q : Value → Shared → Prop} (X : K.In s.heap) (I : InstAt s.heap a ox C od) (found : findIn K (.ref C) "__len__" = some (some (.ref f))) (fn : isFn K (.ref f) = true)
    (go : wpAny (model prog w) A.in1 (call (.ref f) [.ref a]) (fun r s' => ∃ n u, r = .int n u ∧ 0 ≤ n ∧ n < 2 ^ 63 ∧ Q (.int n s'.toks) { s' with toks := s'.toks + 1 }) E s) :
    wpAny (model prog w) A (call (.builtin "len") [.ref a]) Q E s := by
  refine Calls.call_function_entry kind_len plain_len entry_len (args_len1 _) ?_
  unfold Builtin.«len»
  refine wpAny_bind (m := oneArg "len" _) (wpAny_pure ?_)
  refine wpAny_bind (m := callSpecial? (.ref a) (Str.ofString "__len__")) (special_def X I found fn (wpAny_mono go ?_ fun _ _ y => y))
  rintro r s' ⟨n, u, rfl, low, high, q⟩
  refine wpAny_bind (wpAny_holding (wpAny_pure (wpAny_bind (wpAny_letGo ?_))))
  show wpAny _ _ (if n < 0 then _ else _) _ _ _
  rw [if_neg (by omega)]
  show wpAny _ _ (if n ≥ 2 ^ 63 then _ else _) _ _ _
  rw [if_neg (by omega)]
  exact wpAny_bind (wpAny_mkInt (wpAny_pure ⟨_, rfl, q⟩))
theorem truthy_def {Q : Bool → Shared → Prop} (X : K.In s.heap) (I : InstAt s.heap a ox C od) (found : findIn K (.ref C) "__bool__" = some (some (.ref f))) (fn : isFn K (.ref f) = true)
    (go : wpAny (model prog w) A (call (.ref f) [.ref a]) (fun r s' => ∃ b, r = .bool b ∧ Q b s') E s) : wpAny (model prog w) A (truthy (.ref a)) Q E s := by
  unfold truthy
  refine wpAny_bind (m := callSpecial? (.ref a) (Str.ofString "__bool__")) (special_def X I found fn (wpAny_mono go ?_ fun _ _ y => y))
  rintro r s' ⟨b, rfl, q⟩
  exact wpAny_pure q
theorem bool_def {Q : Value → Shared → Prop} (X : K.In s.heap) (I : InstAt s.heap a ox C od) (found : findIn K (.ref C) "__bool__" = some (some (.ref f))) (fn : isFn K (.ref f) = true)
    (go : wpAny (model prog w) A.in1.in1 (call (.ref f) [.ref a]) (fun r s' => ∃ b, r = .bool b ∧ Q (.bool b) s') E s) : wpAny (model prog w) A (call (.type "bool") [.ref a]) Q E s := by
  refine callType_newIn (S := fun A' R s' => K.In s'.heap ∧ InstAt s'.heap a ox C od ∧ wpAny (model prog w) A'.in1 (call (.ref f) [.ref a]) (fun r s' => ∃ b, r = .bool b ∧ R (.ok (.ret (.bool b))) s') (fun e s' => R (.error e) s') s')
    F.called_bool F.newNe_bool (F.typeCall_bool_1 _) (F.newCall_bool_1 _) (fun obj => F.args_object_init_2 obj _) F.entry_bool_new ?_ ⟨X, I, wpAny_mono go ?_ fun _ _ y => y⟩
  · refine MeetsIn.of_wp ?_
    rintro A' R ⟨hp, g, d, tk, os⟩ ⟨X', I', go'⟩
    have f1 := F.conv_sub_bool
    unfold Builtin.«bool.__new__»
    repeat (any_goals (first | assumption | with_reducible (refine truthy_def X' I' found fn (wpAny_mono go' ?_ fun _ _ y => y)) | wp_step))
    rintro v s' ⟨b, e, q⟩
    exact ⟨b, e, wpAny_pure ⟨_, rfl, q⟩⟩
  · rintro r s' ⟨b, rfl, q⟩
    exact ⟨b, rfl, ⟨rfl, q⟩⟩
end
end OwnX
namespace L2
open PySem PySem.Spec PyProof.Rows
section
variable {X : Cx} {CX : CXT} {k : Nat} {C f : Addr} {fd : FuncData} {ps : List Str} {sp : Sp} {E : XK}
/-- a def run with the instance alone, somewhat deeper -/
theorem run_one {A' : Around} {pins : List (Addr × Obj)} {σ : L2.St} {H : Hp} {s : Shared} {Q : VK} {a : Addr} (F : FnOk X.prog X.w X.K X.mg X.base CX k f fd ps sp) (room : Room k A') (same : A'.frames = X.A.frames) (hb : Binds X.K fd ps []) (hx : Passes CX X E)
    (I : Inv X pins σ H s) (h : sp [.ref a] H Q E) : wpAny (model X.prog X.w) A' (call (.ref f) [.ref a]) (EP X pins σ Q) X.xe s := by
  have env := I.env0
  have env' : Env0 X.prog X.w X.K X.mg X.base A' X.stack s H := ⟨by rw [same]; exact env.frames, env.mod, env.bs, env.bsz, env.funs, env.frf, env.hok, env.bare⟩
  have len := F.len _ _ _ _ h
  have bind := hb s [.ref a] I.kIn (by simpa using len)
  refine wpAny_call (codeAny_mono (F.run A' X.stack s H ⟨[.ref a], []⟩ [.ref a] [.ref a] Q E room env' (by simpa using bind) (.cons rfl .nil) h) ?_)
  intro res s' post
  cases res with
  | error z => exact hx pins σ H s z s' I post
  | ok way =>
    cases way with
    | ret u => exact I.after post
    | next => cases post
    | brk => cases post
    | cont => cases post
/-- len(x): the class's own __len__ -/
def rLenO (C : Addr) (sp : Sp) (E : XK) : List V → Hp → VK → Prop := fun xs H Q => ∃ a dx fs, xs = [.ref a] ∧ H a = some (.ins C dx fs) ∧ sp [.ref a] H (fun v H' => ∃ n : Int, v = .int n ∧ 0 ≤ n ∧ n < 2 ^ 63 ∧ Q (.int n) H') E
theorem call_lenO (F : FnOk X.prog X.w X.K X.mg X.base CX k f fd ps sp) (hr : Room (k + 1) X.A) (found : PySem.W.findIn X.K (.ref C) "__len__" = some (some (.ref f))) (fn : PySem.W.isFn X.K (.ref f) = true) (hb : Binds X.K fd ps []) (hx : Passes CX X E) :
    CallR X (.builtin "len") (rLenO C sp E) := by
  intro pins s σ H xs us Q I r h
  obtain ⟨a, dx, fs, rfl, at_a, q⟩ := h
  rw [Vals.ref1 r]
  obtain ⟨mA, O, _⟩ := ins_get I.hok at_a
  obtain ⟨od, J, _⟩ := O.look
  refine OwnX.len_def I.kIn J found fn (wpAny_mono (run_one F hr.in1 rfl hb hx I q) ?_ fun _ _ y => y)
  rintro v s' ⟨x, H1, I1, rv, n, rfl, low, high, q1⟩
  obtain ⟨t, rfl⟩ := rv
  exact ⟨n, t, rfl, low, high, .int n, H1, I1.tok _, ⟨_, rfl⟩, q1⟩
/-- bool(x): the class's own __bool__ -/
def rBoolO (C : Addr) (sp : Sp) (E : XK) : List V → Hp → VK → Prop := fun xs H Q => ∃ a dx fs, xs = [.ref a] ∧ H a = some (.ins C dx fs) ∧ sp [.ref a] H (fun v H' => ∃ b : Bool, v = .bl b ∧ Q (.bl b) H') E
theorem call_boolO (F : FnOk X.prog X.w X.K X.mg X.base CX k f fd ps sp) (hr : Room (k + 2) X.A) (found : PySem.W.findIn X.K (.ref C) "__bool__" = some (some (.ref f))) (fn : PySem.W.isFn X.K (.ref f) = true) (hb : Binds X.K fd ps []) (hx : Passes CX X E) :
    CallR X (.type "bool") (rBoolO C sp E) := by
  intro pins s σ H xs us Q I r h
  obtain ⟨a, dx, fs, rfl, at_a, q⟩ := h
  rw [Vals.ref1 r]
  obtain ⟨mA, O, _⟩ := ins_get I.hok at_a
  obtain ⟨od, J, _⟩ := O.look
  refine OwnX.bool_def I.kIn J found fn (wpAny_mono (run_one F hr.in1.in1 rfl hb hx I q) ?_ fun _ _ y => y)
  rintro v s' ⟨x, H1, I1, rv, b, rfl, q1⟩
  cases rv
  exact ⟨b, rfl, .bl b, H1, I1, rfl, q1⟩
end
end L2
/-! repr(x) of data of any kind (the empty dict too); t.index(x) of data. -/
namespace L2
open PySem PySem.Spec PyProof.Rows
/-- v reads as d; the empty dict too -/
def DpR (K : PySem.W.Frag) (H : Hp) (v : V) (d : PyData) : Prop := Dp K H v d ∨ (d = .dict [] ∧ ∃ a, v = .ref a ∧ Rd H a (.dK []))
def rReprV (K : PySem.W.Frag) : List V → Hp → VK → Prop := fun xs H Q => ∃ (v : V) (d : PyData), xs = [v] ∧ DpR K H v d ∧ d.showable = true ∧ (d = .dict [] ∨ d.hasDict = false) ∧ d.shown.length ≤ sizeLine ∧ d.depth ≤ 60 ∧ Q (.str d.shown) H
section
variable {X : Cx}
theorem call_reprV (gd : X.A.guards = some []) (hu : X.A.units + 64 < cLine) : CallR X (.builtin "repr") (rReprV X.K) := by
  intro pins s σ H xs us Q I r h
  obtain ⟨v, d, rfl, hd, h1, h2, h3, h4, q⟩ := h
  obtain ⟨u, rfl, ru⟩ := vals1 r
  have ans : ∀ (h' : Heap) (tk : Nat) (t : Tok), (∀ b o, s.heap.get? b = some o → h'.get? b = some o) → EP X pins σ Q (.str d.shown t) { s with heap := h', toks := tk } := fun h' tk t k => ⟨.str d.shown, H, I.kept k, ⟨t, rfl⟩, q⟩
  rcases hd with hd | ⟨rfl, a, rfl, ha⟩
  · have nod : d.hasDict = false := by
      rcases h2 with rfl | h2
      · cases hd
      · exact h2
    cases hd with
    | non =>
      cases ru
      exact P.repr_of_none (ans s.heap _ _ fun _ _ e => e)
    | bl b =>
      cases ru
      exact P.repr_of_bool (ans s.heap _ _ fun _ _ e => e)
    | int i =>
      obtain ⟨t, rfl⟩ := ru
      exact P.repr_of_int (of_decide_eq_true (by simpa [PyData.showable] using h1)) (ans s.heap _ _ fun _ _ e => e)
    | str x =>
      obtain ⟨t, rfl⟩ := ru
      exact P.repr_of_str (ans s.heap _ _ fun _ _ e => e) (hsz := h3)
    | lst hs ha =>
      cases ru
      obtain ⟨as, rd⟩ := Dp.reads I _ _ _ (.lst hs ha) rfl
      exact PySem.repr_of_reads' rd h1 (fun z => by rw [nod] at z; cases z) gd (by omega) (fun _ _ e => e) (fun h' u tk hk => ans h' tk u hk) h3
    | tup hs ha =>
      cases ru
      obtain ⟨as, rd⟩ := Dp.reads I _ _ _ (.tup hs ha) rfl
      exact PySem.repr_of_reads' rd h1 (fun z => by rw [nod] at z; cases z) gd (by omega) (fun _ _ e => e) (fun h' u tk hk => ans h' tk u hk) h3
  · cases ru
    obtain ⟨z, lo, vs, rel, dd⟩ := dk_rd I.hok ha
    obtain ⟨ep, hat⟩ := dd.dictAt
    have none_in : vs = [] := by
      cases rel
      rfl
    subst none_in
    obtain ⟨o, es, at_a, ex, data, _, pairs, _⟩ := hat
    have empty : es.toList = [] := by
      cases e : es.toList with
      | nil => rfl
      | cons x y =>
        rw [e] at pairs
        cases pairs
    have rd : Reads s.heap (.ref a) (.dict []) ([a] ++ []) := Reads.dict (kvs := []) at_a ex.1 data (by rw [empty]; exact .nil) (by rw [empty]; exact .nil)
    exact PySem.repr_of_reads' rd h1 (fun _ z => by simp at z; rw [z] at lo; simp at lo) gd (by omega) (fun _ _ e => e) (fun h' u tk hk => ans h' tk u hk) h3
/-! ### t.index(x) -/
def rTIndexD (K : PySem.W.Frag) : V → List V → Hp → VK → Prop := fun x vs H Q => ∃ (a : Addr) (xs : List V) (ds : List PyData) (y : V) (d : PyData) (j : Nat), x = .ref a ∧ vs = [y] ∧ SqT K H a xs ∧ DpAll K H xs ds ∧ Dp K H y d ∧
  SeqAt.shaped (.tuple ds) = true ∧ SeqAt.shaped d = true ∧ SeqAt.dataPlace ds d = some j ∧ Q (.int j) H
theorem idxOf_place (ds : List PyData) (d : PyData) {j : Nat} (h : SeqAt.dataPlace ds d = some j) : true ∈ ds.map (fun z => PyData.eqv z d) ∧ (ds.map fun z => PyData.eqv z d).idxOf true = j := by
  unfold SeqAt.dataPlace at h
  induction ds generalizing j with
  | nil => simp at h
  | cons a r ih =>
    rw [List.findIdx?_cons] at h
    cases e : PyData.eqv a d with
    | true =>
      rw [e] at h
      simp at h
      subst h
      simp [e]
    | false =>
      rw [e] at h
      simp only [Bool.false_eq_true, if_false, Option.map_eq_some_iff] at h
      obtain ⟨k, hk, rfl⟩ := h
      obtain ⟨h1, h2⟩ := ih hk
      refine ⟨by simp [e]; simpa using h1, ?_⟩
      rw [List.map_cons, e, List.idxOf_cons]
      simp [h2]
theorem mt_tupIndexD (hu : X.A.units + 66 < cLine) : MtR X "tuple.index" (rTIndexD X.K) := by
  intro pins s σ H x vs v us Q I rx rv h
  obtain ⟨a, xs, ds, y, d, j, rfl, rfl, hs, hds, hd, s1, s2, hp, q⟩ := h
  cases rx
  obtain ⟨u, rfl, ru⟩ := rv.one
  obtain ⟨as, r1⟩ := Dp.reads I d y u hd ru
  obtain ⟨its, r, ht, hz⟩ := I.tuple hs
  obtain ⟨bs, r2⟩ := Dp.readsAll I ds xs its hds r
  obtain ⟨m1, m2⟩ := idxOf_place ds d hp
  have l1 : its.length = ds.length := by rw [← r.length, DpAll.length hds]
  refine PySem.SeqAt.call_tuple_index (ks := ds.map fun z => PyData.eqv z d) (k := true) ht ⟨by rw [List.length_map]; exact l1, fun j h1 h2 => ?_⟩ m1 ?_
  · have h3 : j < ds.length := by omega
    have h4 : j < xs.length := by rw [r.length]; exact h1
    obtain ⟨u', e1, e2⟩ := Vals.get r (List.getElem?_eq_getElem h4)
    rw [List.getElem?_eq_getElem h1] at e1
    cases e1
    obtain ⟨d', e3, e4⟩ := DpAll.get hds (List.getElem?_eq_getElem h4)
    rw [List.getElem?_eq_getElem h3] at e3
    cases e3
    obtain ⟨cs, r3⟩ := Dp.reads I _ _ _ e4 e2
    have dep := SeqAt.depth_of_shaped s2
    have lay : ds[j].plain = true := by
      have z := SeqAt.canLay_of_shaped s1
      simp only [PyData.canLay0] at z
      have go : ∀ {l : List PyData} {x : PyData}, PyData.canLayAll0 l = true → x ∈ l → x.canLay0 = true := by
        intro l
        induction l with
        | nil => intro x _ h; cases h
        | cons b t ih =>
          intro x hl hx
          simp only [PyData.canLayAll0, Bool.and_eq_true] at hl
          rcases List.mem_cons.mp hx with e | hx
          · rw [e]; exact hl.1
          · exact ih hl.2 hx
      exact PyData.plain_of_canLay0 _ (go z (List.getElem_mem h3))
    have ans := SeqAt.eqAt_plain ds[j] d X.A.in1 s its[j] u cs as r3 r1 lay (PyData.plain_of_canLay0 _ (SeqAt.canLay_of_shaped s2)) (by show X.A.units + 1 + _ < cLine; omega)
    have e : decide ((ds.map fun z => PyData.eqv z d)[j] = true) = PyData.eqv ds[j] d := by simp
    rw [e]
    exact ans
  · rw [m2]
    exact ⟨.int j, H, I.tok _, ⟨_, rfl⟩, q⟩
end
end L2
/-! o.m(e, ..) of a tuple that the program made (pe_bm asks for one of the program's text): tuple(list) as a known object, and its methods. -/
namespace L2
open PySem PySem.Spec PyProof.Rows HT
section
variable {X : Cx}
/-- tuple(list), the object known to have no dict -/
def rTupF (K : PySem.W.Frag) : List V → Hp → VK → Prop := fun xs H Q => ∃ p ys, xs = [V.ref p] ∧ SqL K H p ys ∧ ∀ l o, H l = none → o.dict = none → Q (.ref l) (upd H l (.frz o (.tup ys)))
theorem call_tupF : CallR X (.type "tuple") (rTupF X.K) := by
  intro pins s σ H xs us Q I r h
  obtain ⟨p, ys, rfl, hq, q⟩ := h
  obtain ⟨u, rfl, rx⟩ := r.one
  cases rx
  obtain ⟨its, r', pl, hz⟩ := I.list hq
  have hlen := r'.length
  refine call_tuple_list pl.isList (fun h' kp => ?_) (by simp only [List.size_toArray] <;> omega)
  have I1 : Inv X pins σ H { s with heap := h' } := I.kept (t' := s.toks) kp
  have I2 : Inv X pins σ (upd H h'.objs.size (.frz { cls := .type "tuple", data := .seq its.toArray } (.tup ys))) { s with heap := h'.push { cls := .type "tuple", data := .seq its.toArray } } :=
    I1.laid (t' := s.toks) (fun b o e => Heap.get?_push_of_some _ e) (Nat.le_refl _) (show ObjOk X.prog X.w _ _ _ (.frz _ (.tup ys)) from ⟨by unfold Heap.get? Heap.push; simp, hz, its, r', IsTup.new _ _⟩)
  exact ⟨.ref h'.objs.size, _, I2, rfl, q _ _ (I1.hok.fresh (Nat.le_refl _)) rfl⟩
def tBMT (r : V → List V → Hp → VK → Prop) (to : TE) (t : TA) : TE := fun σ H Q => to σ H fun x H1 => (∃ a o xs, x = .ref a ∧ H1 a = some (.frz o (.tup xs)) ∧ o.dict = none) ∧ t σ H1 fun xs H2 => r x xs H2 Q
variable {o e : Expr} {es : List Expr} {to : TE} {t : TA} {name : Str} {apos cpos : Pos} {id : String} {r : V → List V → Hp → VK → Prop}
theorem pe_bmT (slot : Slot "tuple" name id) (hty : typeOf (.builtin id) = pure (.type "method_descriptor")) (hm : MtR X id r) (ho : PE X o to) (ha : PA X (e :: es) t)
    (hbase : attributeBase o name X.env (eval o X.env) = eval o X.env := by rfl)
    (hfew : ((backTo cpos (starEach (e :: es) X.env)).all (fun x => !x.1) && (backToKw cpos (keywordEach [] X.env)).all (fun x => x.1.isSome)
      && decide ((e :: es).length + ([] : List Keyword).length + (if ([] : List Keyword).isEmpty then 0 else 1) < 30)) = true := by rfl)
    (hline : (apos.endLine == cpos.line) = true := by rfl) (hs : starEach (e :: es) X.env = (false, eval e X.env) :: starEach es X.env := by rfl) (hplain : (backTo cpos (starEach es X.env)).any (·.1) = false := by rfl) :
    PE X (.Call (.Attribute o name apos) (e :: es) [] cpos) (tBMT r to t) := by
  refine ⟨fun pins s σ H Q I h => ?_⟩
  refine wpAny_Call_method_late hbase hfew hline rfl (thn (ho.run pins s σ H _ I h) ?_)
  rintro v s1 ⟨x, H1, I1, r1, ⟨a, ob, xs, rfl, hx, hn⟩, q1⟩
  cases r1
  obtain ⟨eo, _⟩ := I1.hok _ _ hx
  obtain ⟨its, rv, ht, hz⟩ := I1.tuple (.inl (.inr ⟨ob, hx⟩))
  refine ⟨"tuple", id, PySem.F.plainAttrs_tuple, slot, hty, ht.typeIs, fun b eb => ?_, ?_⟩
  · cases eb
    exact ⟨ob, eo, hn⟩
  have hA := ha.run cpos pins s1 σ H1 _ I1 q1
  rw [hs] at hA ⊢
  refine Calls.callWith_builtin (by show (false || (backTo cpos (starEach es X.env)).any (·.1)) = false; rw [hplain] <;> rfl) (Calls.evalArgs_plain ?_)
  exact thn hA fun us s2 ⟨vs, H2, I2, r2, q2⟩ => hm pins s2 σ H2 (.ref a) vs (.ref a) us Q I2 rfl r2 q2
end
end L2
/-! xs != [], items of any kind. -/
namespace L2
open PySem PySem.Spec PyProof.Rows
section
variable {X : Cx}
def rNeNil (K : PySem.W.Frag) : R2 := fun x y H Q => ∃ a b xs, x = .ref a ∧ y = .ref b ∧ SqL K H a xs ∧ SqL K H b [] ∧ Q (.bl (!xs.isEmpty)) H
theorem op_neNil (hu : X.A.units < cLine) : OpR X (compareOp .NotEq) (rNeNil X.K) := by
  intro pins s σ H x y v u Q I rx ry h
  obtain ⟨a, b, xs, rfl, rfl, ha, hb, q⟩ := h
  cases rx
  cases ry
  obtain ⟨its, r, l1, _⟩ := I.list ha
  obtain ⟨its2, r2, l2, _⟩ := I.list hb
  cases r2
  have len := r.length
  unfold compareOp
  cases xs with
  | nil =>
    cases r
    refine SeqAt.RcNeAt.lists (e := fun _ => true) l1.isList l2.isList rfl hu (fun j h1 _ => absurd h1 (by simp)) _ _ _ _ ?_
    exact ⟨.bl _, H, I, rfl, q⟩
  | cons z zs =>
    refine SeqAt.RcNeAt.lists_lengths l1.isList l2.isList ?_ hu _ _ _ _ ⟨.bl _, H, I, rfl, q⟩
    rw [List.size_toArray, ← len]
    rfl
end
end L2
/-! k83, the plain law: marks as data, an own row of marks. -/
namespace K83
open PySem PySem.Spec PyProof.Rows L2
def okInt (i : Int) : Bool := decide ((PyData.shown (.int i)).length ≤ 40) && decide (i.natAbs.log2 < 1920)
def okWord (w : Str) : Bool := w == "" || w == "a" || w == "ab" || w == "a b" || w == "-1" || w == "1" || w == "0"
mutual
/-- what stands in marks -/
def mkB : PyData → Bool
  | .none => true
  | .int i => okInt i
  | .str w => okWord w
  | .tuple ds => decide (ds.length ≤ 3) && mkAll ds
  | _ => false
def mkAll : List PyData → Bool
  | [] => true
  | d :: ds => mkB d && mkAll ds
end
theorem mkAll_get : ∀ {ds : List PyData} {d : PyData}, mkAll ds = true → d ∈ ds → mkB d = true
  | [], _, _, h => by cases h
  | e :: r, d, hi, h => by
    simp only [mkAll, Bool.and_eq_true] at hi
    rcases List.mem_cons.mp h with e | h
    · rw [e]; exact hi.1
    · exact mkAll_get hi.2 h
theorem mkAll_of : ∀ {ds : List PyData}, (∀ d ∈ ds, mkB d = true) → mkAll ds = true
  | [], _ => by simp [mkAll]
  | d :: ds, h => by
    simp only [mkAll, Bool.and_eq_true]
    exact ⟨h d List.mem_cons_self, mkAll_of fun x hx => h x (List.mem_cons_of_mem _ hx)⟩
theorem word_cases {w : Str} (h : okWord w = true) : w = "" ∨ w = "a" ∨ w = "ab" ∨ w = "a b" ∨ w = "-1" ∨ w = "1" ∨ w = "0" := by
  simp only [okWord, Bool.or_eq_true, beq_iff_eq] at h
  rcases h with (((((h | h) | h) | h) | h) | h) | h <;> simp [h]
theorem word_lay {w : Str} (h : okWord w = true) : PyData.strOk w = true ∧ w.cps.size ≤ 3 := by
  rcases word_cases h with rfl | rfl | rfl | rfl | rfl | rfl | rfl <;> exact ⟨by decide +kernel, by decide +kernel⟩
mutual
theorem mk_imm : ∀ d : PyData, mkB d = true → imm d = true ∧ d.canLay0 = true ∧ d.showable = true ∧ d.hasDict = false ∧ d.intsShort 40 = true
  | .none, _ => ⟨rfl, rfl, rfl, rfl, rfl⟩
  | .int i, h => by
    simp only [mkB, okInt, Bool.and_eq_true, decide_eq_true_eq] at h
    exact ⟨rfl, rfl, decide_eq_true h.2, rfl, decide_eq_true h.1⟩
  | .str w, h => by
    simp only [mkB] at h
    exact ⟨rfl, (word_lay h).1, rfl, rfl, rfl⟩
  | .tuple ds, h => by
    simp only [mkB, Bool.and_eq_true] at h
    have z := mk_immAll ds h.2
    refine ⟨?_, ?_, ?_, ?_, ?_⟩
    · simp only [imm]; exact z.1
    · simp only [PyData.canLay0]; exact z.2.1
    · simp only [PyData.showable]; exact z.2.2.1
    · simp only [PyData.hasDict]; exact z.2.2.2.1
    · simp only [PyData.intsShort]; exact z.2.2.2.2
  | .bool _, h => by simp [mkB] at h
  | .list _, h => by simp [mkB] at h
  | .dict _, h => by simp [mkB] at h
theorem mk_immAll : ∀ ds : List PyData, mkAll ds = true → immAll ds = true ∧ PyData.canLayAll0 ds = true ∧ PyData.showableAll ds = true ∧ PyData.hasDictAll ds = false ∧ PyData.intsShortAll 40 ds = true
  | [], _ => ⟨rfl, rfl, rfl, rfl, rfl⟩
  | d :: ds, h => by
    simp only [mkAll, Bool.and_eq_true] at h
    have a := mk_imm d h.1
    have b := mk_immAll ds h.2
    refine ⟨?_, ?_, ?_, ?_, ?_⟩
    · simp only [immAll, a.1, b.1]; rfl
    · simp only [PyData.canLayAll0, a.2.1, b.2.1]; rfl
    · simp only [PyData.showableAll, a.2.2.1, b.2.2.1]; rfl
    · simp only [PyData.hasDictAll, a.2.2.2.1, b.2.2.2.1]; rfl
    · simp only [PyData.intsShortAll, a.2.2.2.2, b.2.2.2.2]; rfl
end
mutual
theorem mk_eq : ∀ d e : PyData, mkB d = true → mkB e = true → PyData.eqv d e = true → d = e
  | .none, .none, _, _, _ => rfl
  | .int i, .int j, _, _, h => by
    simp [PyData.eqv] at h
    rw [h]
  | .str x, .str y, _, _, h => by
    simp [PyData.eqv] at h
    rw [h]
  | .tuple xs, .tuple ys, h1, h2, h => by
    simp only [mkB, Bool.and_eq_true] at h1 h2
    simp only [PyData.eqv] at h
    rw [mk_eqAll xs ys h1.2 h2.2 h]
  | .none, .int _, _, _, h => by simp [PyData.eqv] at h
  | .none, .str _, _, _, h => by simp [PyData.eqv] at h
  | .none, .tuple _, _, _, h => by simp [PyData.eqv] at h
  | .int _, .none, _, _, h => by simp [PyData.eqv] at h
  | .int _, .str _, _, _, h => by simp [PyData.eqv] at h
  | .int _, .tuple _, _, _, h => by simp [PyData.eqv] at h
  | .str _, .none, _, _, h => by simp [PyData.eqv] at h
  | .str _, .int _, _, _, h => by simp [PyData.eqv] at h
  | .str _, .tuple _, _, _, h => by simp [PyData.eqv] at h
  | .tuple _, .none, _, _, h => by simp [PyData.eqv] at h
  | .tuple _, .int _, _, _, h => by simp [PyData.eqv] at h
  | .tuple _, .str _, _, _, h => by simp [PyData.eqv] at h
  | .bool _, _, h, _, _ => by simp [mkB] at h
  | .list _, _, h, _, _ => by simp [mkB] at h
  | .dict _, _, h, _, _ => by simp [mkB] at h
  | .none, .bool _, _, h, _ => by simp [mkB] at h
  | .none, .list _, _, h, _ => by simp [mkB] at h
  | .none, .dict _, _, h, _ => by simp [mkB] at h
  | .int _, .bool _, _, h, _ => by simp [mkB] at h
  | .int _, .list _, _, h, _ => by simp [mkB] at h
  | .int _, .dict _, _, h, _ => by simp [mkB] at h
  | .str _, .bool _, _, h, _ => by simp [mkB] at h
  | .str _, .list _, _, h, _ => by simp [mkB] at h
  | .str _, .dict _, _, h, _ => by simp [mkB] at h
  | .tuple _, .bool _, _, h, _ => by simp [mkB] at h
  | .tuple _, .list _, _, h, _ => by simp [mkB] at h
  | .tuple _, .dict _, _, h, _ => by simp [mkB] at h
theorem mk_eqAll : ∀ xs ys : List PyData, mkAll xs = true → mkAll ys = true → PyData.eqvAll xs ys = true → xs = ys
  | [], [], _, _, _ => rfl
  | x :: xs, y :: ys, h1, h2, h => by
    simp only [mkAll, Bool.and_eq_true] at h1 h2
    simp only [PyData.eqvAll, Bool.and_eq_true] at h
    rw [mk_eq x y h1.1 h2.1 h.1, mk_eqAll xs ys h1.2 h2.2 h.2]
  | [], _ :: _, _, _, h => by simp [PyData.eqvAll] at h
  | _ :: _, [], _, _, h => by simp [PyData.eqvAll] at h
end
theorem mk_refl {d : PyData} (h : mkB d = true) : PyData.eqv d d = true := SeqAt.eqv_refl_plain d (PyData.plain_of_canLay0 d (mk_imm d h).2.1)
theorem mk_iff {d e : PyData} (h1 : mkB d = true) (h2 : mkB e = true) : PyData.eqv d e = true ↔ d = e := ⟨mk_eq d e h1 h2, fun z => z ▸ mk_refl h1⟩
def grow : Nat → Nat
  | 0 => 3
  | n + 1 => 3 * (grow n + 1) + 3
theorem grow_up (n : Nat) : 3 ≤ grow n := by
  cases n with
  | zero => exact Nat.le_refl _
  | succ n =>
    show 3 ≤ 3 * (grow n + 1) + 3
    omega
theorem bulkAll_of {n : Nat} : ∀ {ds : List PyData}, (∀ d ∈ ds, d.bulk ≤ n) → PyData.bulkAll ds ≤ ds.length * (n + 1)
  | [], _ => by simp [PyData.bulkAll]
  | d :: ds, h => by
    have h1 := h d List.mem_cons_self
    have h2 := bulkAll_of fun x hx => h x (List.mem_cons_of_mem _ hx)
    simp only [PyData.bulkAll, List.length_cons, Nat.add_mul]
    omega
theorem depth_get {ds : List PyData} {d : PyData} (h : d ∈ ds) : d.depth < (PyData.tuple ds).depth := by
  have go : ∀ {l : List PyData}, d ∈ l → d.depth ≤ PyData.depthAll l := by
    intro l
    induction l with
    | nil => intro h; cases h
    | cons a r ih =>
      intro h
      simp only [PyData.depthAll]
      rcases List.mem_cons.mp h with e | h
      · rw [← e]; exact Nat.le_max_left _ _
      · exact Nat.le_trans (ih h) (Nat.le_max_right _ _)
  have := go h
  simp only [PyData.depth]
  omega
theorem mk_bulk : ∀ (n : Nat) (d : PyData), mkB d = true → d.depth ≤ n → d.bulk ≤ grow n := by
  intro n
  induction n with
  | zero =>
    intro d h hd
    cases d with
    | none => exact Nat.zero_le _
    | int i => exact Nat.zero_le _
    | str w =>
      simp only [mkB] at h
      exact (word_lay h).2
    | tuple ds => simp [PyData.depth] at hd
    | bool b => simp [mkB] at h
    | list ds => simp [mkB] at h
    | dict ds => simp [mkB] at h
  | succ n ih =>
    intro d h hd
    cases d with
    | none => exact Nat.zero_le _
    | int i => exact Nat.zero_le _
    | str w =>
      simp only [mkB] at h
      exact Nat.le_trans (word_lay h).2 (grow_up _)
    | tuple ds =>
      simp only [mkB, Bool.and_eq_true, decide_eq_true_eq] at h
      have z := bulkAll_of (n := grow n) (ds := ds) fun x hx => ih x (mkAll_get h.2 hx) (by have := depth_get hx; omega)
      simp only [PyData.bulk]
      show PyData.bulkAll ds ≤ 3 * (grow n + 1) + 3
      have : ds.length * (grow n + 1) ≤ 3 * (grow n + 1) := Nat.mul_le_mul_right _ h.1
      omega
    | bool b => simp [mkB] at h
    | list ds => simp [mkB] at h
    | dict ds => simp [mkB] at h
/-- a mark: a tuple, not deep -/
structure Mark (d : PyData) : Prop where
  ok : mkB d = true
  tu : ∃ ds, d = .tuple ds
  dp : d.depth ≤ 3
theorem Mark.shaped {d : PyData} (h : Mark d) : SeqAt.shaped d = true := Bool.and_eq_true_iff.mpr ⟨(mk_imm d h.ok).2.1, decide_eq_true (by have := h.dp; omega)⟩
theorem Mark.imm {d : PyData} (h : Mark d) : L2.imm d = true := (mk_imm d h.ok).1
theorem Mark.iff {d e : PyData} (h : Mark d) (h2 : Mark e) : PyData.eqv d e = true ↔ d = e := mk_iff h.ok h2.ok
/-! ### rows of marks -/
def Marks (ds : List PyData) : Prop := ∀ d ∈ ds, Mark d
theorem Marks.all {ds : List PyData} (h : Marks ds) : mkAll ds = true := mkAll_of fun d hd => (h d hd).ok
theorem depthAll_le {n : Nat} : ∀ {ds : List PyData}, (∀ d ∈ ds, d.depth ≤ n) → PyData.depthAll ds ≤ n
  | [], _ => by simp [PyData.depthAll]
  | d :: ds, h => by
    have h1 := h d List.mem_cons_self
    have h2 := depthAll_le fun x hx => h x (List.mem_cons_of_mem _ hx)
    simp only [PyData.depthAll]
    omega
theorem Marks.shaped {ds : List PyData} (h : Marks ds) : SeqAt.shaped (.list ds) = true ∧ SeqAt.shaped (.tuple ds) = true := by
  have z := (mk_immAll ds h.all).2.1
  have y := depthAll_le (n := 3) fun d hd => (h d hd).dp
  constructor <;> exact Bool.and_eq_true_iff.mpr ⟨by simp only [PyData.canLay0]; exact z, decide_eq_true (by simp only [PyData.depth]; omega)⟩
/-- what is shown of a cache: its marks, their number -/
def shownD (ds : List PyData) : PyData := .list [.tuple ds, .int ds.length, .bool true]
theorem shownD_ok {ds : List PyData} (h : Marks ds) (hl : ds.length ≤ 20) : (shownD ds).showable = true ∧ (shownD ds).hasDict = false ∧ (shownD ds).shown.length ≤ sizeLine ∧ (shownD ds).depth ≤ 60 := by
  obtain ⟨_, z2, z3, z4, z5⟩ := mk_immAll ds h.all
  have y := depthAll_le (n := 3) fun d hd => (h d hd).dp
  have b := bulkAll_of (n := grow 3) (ds := ds) fun d hd => mk_bulk 3 d (h d hd).ok (h d hd).dp
  have small : ∀ n : Nat, n ≤ 20 → okInt (n : Int) = true := by
    intro n hn
    have : ∀ m : Fin 21, okInt ((m.val : Nat) : Int) = true := by decide +kernel
    exact this ⟨n, by omega⟩
  have sm := small ds.length hl
  simp only [okInt, Bool.and_eq_true, decide_eq_true_eq] at sm
  refine ⟨?_, ?_, ?_, ?_⟩
  · simp only [shownD, PyData.showable, PyData.showableAll, z3, Bool.and_true, Bool.true_and]
    exact decide_eq_true sm.2
  · simp [shownD, PyData.hasDict, PyData.hasDictAll, z4]
  · have lv : (shownD ds).leavesShort 40 = true := by
      refine PyData.leavesShort_of_canLay0 40 _ ?_ ?_
      · simp [shownD, PyData.canLay0, PyData.canLayAll0, z2]
      · simp only [shownD, PyData.intsShort, PyData.intsShortAll, z5, Bool.and_true, Bool.true_and]
        exact decide_eq_true sm.1
    have le := PyData.shown_le_bulk 40 (by decide) (shownD ds) lv
    have bb : (shownD ds).bulk ≤ 20 * (grow 3 + 1) + 10 := by
      simp only [shownD, PyData.bulk, PyData.bulkAll]
      have : ds.length * (grow 3 + 1) ≤ 20 * (grow 3 + 1) := Nat.mul_le_mul_right _ hl
      omega
    have g3 : grow 3 = 159 := by decide
    rw [g3] at bb
    have : sizeLine = 16777216 := by decide
    omega
  · simp only [shownD, PyData.depth, PyData.depthAll]
    omega
end K83
namespace K83
open PySem PySem.Spec PyProof.Rows L2
def top (i : Nat) : Stmt := PySem.Challenge.pw_plainscan_k83_whole_caches_through_uses.main.body.getD i (.Pass ⟨0, 0, 0, 0⟩)
abbrev s_is_whole : Stmt := top 6
abbrev N_is_whole : List Str := ["value"]
theorem sc_is_whole : FnScope N_is_whole ["value"] (defScope s_is_whole) := ⟨rfl, rfl, rfl, by decide +kernel, rfl, by decide +kernel, by decide +kernel⟩
abbrev s_is_number : Stmt := top 7
abbrev N_is_number : List Str := ["value", "low", "high"]
theorem sc_is_number : FnScope N_is_number ["value", "low", "high"] (defScope s_is_number) := ⟨rfl, rfl, rfl, by decide +kernel, rfl, by decide +kernel, by decide +kernel⟩
abbrev s_check_number : Stmt := top 8
abbrev N_check_number : List Str := ["value", "low", "high"]
theorem sc_check_number : FnScope N_check_number ["value", "low", "high"] (defScope s_check_number) := ⟨rfl, rfl, rfl, by decide +kernel, rfl, by decide +kernel, by decide +kernel⟩
abbrev s_is_marked : Stmt := top 11
abbrev N_is_marked : List Str := ["value"]
theorem sc_is_marked : FnScope N_is_marked ["value"] (defScope s_is_marked) := ⟨rfl, rfl, rfl, by decide +kernel, rfl, by decide +kernel, by decide +kernel⟩
abbrev s_is_mark : Stmt := top 12
abbrev N_is_mark : List Str := ["value", "each"]
theorem sc_is_mark : FnScope N_is_mark ["value"] (defScope s_is_mark) := ⟨rfl, rfl, rfl, by decide +kernel, rfl, by decide +kernel, by decide +kernel⟩
abbrev s_check_mark : Stmt := top 13
abbrev N_check_mark : List Str := ["value"]
theorem sc_check_mark : FnScope N_check_mark ["value"] (defScope s_check_mark) := ⟨rfl, rfl, rfl, by decide +kernel, rfl, by decide +kernel, by decide +kernel⟩
abbrev s_Cache___init__ : Stmt := inClass (top 14) 0
abbrev N_Cache___init__ : List Str := ["self", "size"]
theorem sc_Cache___init__ : FnScope N_Cache___init__ ["self", "size"] (defScope s_Cache___init__) := ⟨rfl, rfl, rfl, by decide +kernel, rfl, by decide +kernel, by decide +kernel⟩
abbrev s_Cache_marks : Stmt := inClass (top 14) 3
abbrev N_Cache_marks : List Str := ["self", "mark", "_"]
theorem sc_Cache_marks : FnScope N_Cache_marks ["self"] (defScope s_Cache_marks) := ⟨rfl, rfl, rfl, by decide +kernel, rfl, by decide +kernel, by decide +kernel⟩
abbrev s_Cache___len__ : Stmt := inClass (top 14) 4
abbrev N_Cache___len__ : List Str := ["self"]
theorem sc_Cache___len__ : FnScope N_Cache___len__ ["self"] (defScope s_Cache___len__) := ⟨rfl, rfl, rfl, by decide +kernel, rfl, by decide +kernel, by decide +kernel⟩
abbrev s_Cache___bool__ : Stmt := inClass (top 14) 5
abbrev N_Cache___bool__ : List Str := ["self"]
theorem sc_Cache___bool__ : FnScope N_Cache___bool__ ["self"] (defScope s_Cache___bool__) := ⟨rfl, rfl, rfl, by decide +kernel, rfl, by decide +kernel, by decide +kernel⟩
abbrev s_Cache_find : Stmt := inClass (top 14) 6
abbrev N_Cache_find : List Str := ["self", "mark", "rows"]
theorem sc_Cache_find : FnScope N_Cache_find ["self", "mark"] (defScope s_Cache_find) := ⟨rfl, rfl, rfl, by decide +kernel, rfl, by decide +kernel, by decide +kernel⟩
abbrev s_Cache_keep : Stmt := inClass (top 14) 7
abbrev N_Cache_keep : List Str := ["self", "mark", "rows"]
theorem sc_Cache_keep : FnScope N_Cache_keep ["self", "mark", "rows"] (defScope s_Cache_keep) := ⟨rfl, rfl, rfl, by decide +kernel, rfl, by decide +kernel, by decide +kernel⟩
abbrev s_Cache_use : Stmt := inClass (top 14) 8
abbrev N_Cache_use : List Str := ["self", "mark", "rows", "some", "each", "held"]
theorem sc_Cache_use : FnScope N_Cache_use ["self", "mark", "rows"] (defScope s_Cache_use) := ⟨rfl, rfl, rfl, by decide +kernel, rfl, by decide +kernel, by decide +kernel⟩
abbrev s_law_urn : Stmt := top 16
abbrev N_law_urn : List Str := ["script", "lap", "mixed", "cell", "own"]
theorem sc_law_urn : FnScope N_law_urn ["script", "lap"] (defScope s_law_urn) := ⟨rfl, rfl, rfl, by decide +kernel, rfl, by decide +kernel, by decide +kernel⟩
abbrev s_law_take : Stmt := top 17
abbrev N_law_take : List Str := ["urn", "many", "figure", "stir"]
theorem sc_law_take : FnScope N_law_take ["urn", "many"] (defScope s_law_take) := ⟨rfl, rfl, rfl, by decide +kernel, rfl, by decide +kernel, by decide +kernel⟩
abbrev s_law_of : Stmt := top 18
abbrev N_law_of : List Str := ["urn", "some"]
theorem sc_law_of : FnScope N_law_of ["urn", "some"] (defScope s_law_of) := ⟨rfl, rfl, rfl, by decide +kernel, rfl, by decide +kernel, by decide +kernel⟩
abbrev s_law_mark : Stmt := top 19
abbrev N_law_mark : List Str := ["urn", "deep", "found", "turn", "way", "number", "word"]
theorem sc_law_mark : FnScope N_law_mark ["urn", "deep"] (defScope s_law_mark) := ⟨rfl, rfl, rfl, by decide +kernel, rfl, by decide +kernel, by decide +kernel⟩
abbrev s_law_rows : Stmt := top 20
abbrev N_law_rows : List Str := ["urn", "some"]
theorem sc_law_rows : FnScope N_law_rows ["urn"] (defScope s_law_rows) := ⟨rfl, rfl, rfl, by decide +kernel, rfl, by decide +kernel, by decide +kernel⟩
abbrev s_law_is_right : Stmt := top 21
abbrev N_law_is_right : List Str := ["cache", "own", "size", "shown", "pair"]
theorem sc_law_is_right : FnScope N_law_is_right ["cache", "own", "size"] (defScope s_law_is_right) := ⟨rfl, rfl, rfl, by decide +kernel, rfl, by decide +kernel, by decide +kernel⟩
abbrev s_law_right : Stmt := top 22
abbrev N_law_right : List Str := ["urn", "sizes", "marks", "caches", "owns", "turn", "mark", "at", "cache", "own", "kept", "told", "rows", "pair"]
theorem sc_law_right : FnScope N_law_right ["urn"] (defScope s_law_right) := ⟨rfl, rfl, rfl, by decide +kernel, rfl, by decide +kernel, by decide +kernel⟩
abbrev s_law : Stmt := top 23
abbrev N_law : List Str := ["script", "lap"]
theorem sc_law : FnScope N_law ["script"] (defScope s_law) := ⟨rfl, rfl, rfl, by decide +kernel, rfl, by decide +kernel, by decide +kernel⟩
/-- what the program's top has written -/
structure Txt (P : Program) (K : PySem.W.Frag) (mg : Str → Option Value) where
  f_is_whole : Addr
  d_is_whole : FuncData
  F_is_whole : Fun K "is_whole" "is_whole" s_is_whole f_is_whole d_is_whole
  b_is_whole : Binds K d_is_whole ["value"] []
  g_is_whole : mg "is_whole" = some (.ref f_is_whole)
  f_is_number : Addr
  d_is_number : FuncData
  F_is_number : Fun K "is_number" "is_number" s_is_number f_is_number d_is_number
  b_is_number : Binds K d_is_number ["value", "low", "high"] []
  g_is_number : mg "is_number" = some (.ref f_is_number)
  f_check_number : Addr
  d_check_number : FuncData
  F_check_number : Fun K "check_number" "check_number" s_check_number f_check_number d_check_number
  b_check_number : Binds K d_check_number ["value", "low", "high"] []
  g_check_number : mg "check_number" = some (.ref f_check_number)
  f_is_marked : Addr
  d_is_marked : FuncData
  F_is_marked : Fun K "is_marked" "is_marked" s_is_marked f_is_marked d_is_marked
  b_is_marked : Binds K d_is_marked ["value"] []
  g_is_marked : mg "is_marked" = some (.ref f_is_marked)
  f_is_mark : Addr
  d_is_mark : FuncData
  F_is_mark : Fun K "is_mark" "is_mark" s_is_mark f_is_mark d_is_mark
  b_is_mark : Binds K d_is_mark ["value"] []
  g_is_mark : mg "is_mark" = some (.ref f_is_mark)
  f_check_mark : Addr
  d_check_mark : FuncData
  F_check_mark : Fun K "check_mark" "check_mark" s_check_mark f_check_mark d_check_mark
  b_check_mark : Binds K d_check_mark ["value"] []
  g_check_mark : mg "check_mark" = some (.ref f_check_mark)
  f_Cache___init__ : Addr
  d_Cache___init__ : FuncData
  F_Cache___init__ : Fun K "__init__" "Cache.__init__" s_Cache___init__ f_Cache___init__ d_Cache___init__
  b_Cache___init__ : Binds K d_Cache___init__ ["self", "size"] []
  kn_Cache___init___size : KBn K d_Cache___init__ ["self", "size"] 1 ["size"] (fun us ws => us ++ ws) (fun us ws => us ++ ws)
  f_Cache_marks : Addr
  d_Cache_marks : FuncData
  F_Cache_marks : Fun K "marks" "Cache.marks" s_Cache_marks f_Cache_marks d_Cache_marks
  b_Cache_marks : Binds K d_Cache_marks ["self"] []
  f_Cache___len__ : Addr
  d_Cache___len__ : FuncData
  F_Cache___len__ : Fun K "__len__" "Cache.__len__" s_Cache___len__ f_Cache___len__ d_Cache___len__
  b_Cache___len__ : Binds K d_Cache___len__ ["self"] []
  f_Cache___bool__ : Addr
  d_Cache___bool__ : FuncData
  F_Cache___bool__ : Fun K "__bool__" "Cache.__bool__" s_Cache___bool__ f_Cache___bool__ d_Cache___bool__
  b_Cache___bool__ : Binds K d_Cache___bool__ ["self"] []
  f_Cache_find : Addr
  d_Cache_find : FuncData
  F_Cache_find : Fun K "find" "Cache.find" s_Cache_find f_Cache_find d_Cache_find
  b_Cache_find : Binds K d_Cache_find ["self", "mark"] []
  f_Cache_keep : Addr
  d_Cache_keep : FuncData
  F_Cache_keep : Fun K "keep" "Cache.keep" s_Cache_keep f_Cache_keep d_Cache_keep
  b_Cache_keep : Binds K d_Cache_keep ["self", "mark", "rows"] []
  kb_Cache_keep_rows_mark : KBinds K d_Cache_keep ["self", "mark", "rows"] ["rows", "mark"] (fun us ws => kbP 1 2 [1, 0] us ws) (fun us ws => kbP 1 2 [1, 0] us ws)
  f_Cache_use : Addr
  d_Cache_use : FuncData
  F_Cache_use : Fun K "use" "Cache.use" s_Cache_use f_Cache_use d_Cache_use
  b_Cache_use : Binds K d_Cache_use ["self", "mark", "rows"] []
  f_law_urn : Addr
  d_law_urn : FuncData
  F_law_urn : Fun K "_law_urn" "_law_urn" s_law_urn f_law_urn d_law_urn
  b_law_urn : Binds K d_law_urn ["script", "lap"] []
  g__law_urn : mg "_law_urn" = some (.ref f_law_urn)
  f_law_take : Addr
  d_law_take : FuncData
  F_law_take : Fun K "_law_take" "_law_take" s_law_take f_law_take d_law_take
  b_law_take : Binds K d_law_take ["urn", "many"] []
  g__law_take : mg "_law_take" = some (.ref f_law_take)
  f_law_of : Addr
  d_law_of : FuncData
  F_law_of : Fun K "_law_of" "_law_of" s_law_of f_law_of d_law_of
  b_law_of : Binds K d_law_of ["urn", "some"] []
  g__law_of : mg "_law_of" = some (.ref f_law_of)
  f_law_mark : Addr
  d_law_mark : FuncData
  F_law_mark : Fun K "_law_mark" "_law_mark" s_law_mark f_law_mark d_law_mark
  b_law_mark : Binds K d_law_mark ["urn", "deep"] []
  g__law_mark : mg "_law_mark" = some (.ref f_law_mark)
  f_law_rows : Addr
  d_law_rows : FuncData
  F_law_rows : Fun K "_law_rows" "_law_rows" s_law_rows f_law_rows d_law_rows
  b_law_rows : Binds K d_law_rows ["urn"] []
  g__law_rows : mg "_law_rows" = some (.ref f_law_rows)
  f_law_is_right : Addr
  d_law_is_right : FuncData
  F_law_is_right : Fun K "_law_is_right" "_law_is_right" s_law_is_right f_law_is_right d_law_is_right
  b_law_is_right : Binds K d_law_is_right ["cache", "own", "size"] []
  g__law_is_right : mg "_law_is_right" = some (.ref f_law_is_right)
  f_law_right : Addr
  d_law_right : FuncData
  F_law_right : Fun K "_law_right" "_law_right" s_law_right f_law_right d_law_right
  b_law_right : Binds K d_law_right ["urn"] []
  g__law_right : mg "_law_right" = some (.ref f_law_right)
  f_law : Addr
  d_law : FuncData
  F_law : Fun K "law" "law" s_law f_law d_law
  b_law : Binds K d_law ["script"] []
  g_law : mg "law" = some (.ref f_law)
  C_Cache : Addr
  g_Cache : mg "Cache" = some (.ref C_Cache)
  cl_Cache : Cls K C_Cache
  mk_Cache : Mk K C_Cache f_Cache___init__
  na_Cache__size : NoAttr K C_Cache "_size"
  na_Cache__kept : NoAttr K C_Cache "_kept"
  pa_Cache_marks : Addr
  p_Cache_marks : PropOf K C_Cache "marks" pa_Cache_marks f_Cache_marks
  me_Cache___len__ : Meth K C_Cache "__len__" f_Cache___len__
  me_Cache___bool__ : Meth K C_Cache "__bool__" f_Cache___bool__
  me_Cache_find : Meth K C_Cache "find" f_Cache_find
  me_Cache_keep : Meth K C_Cache "keep" f_Cache_keep
  me_Cache_use : Meth K C_Cache "use" f_Cache_use
  t_MOST_SIZE : Tok
  g_MOST_SIZE : mg "MOST_SIZE" = some (.int 20 t_MOST_SIZE)
  z_abs : mg "abs" = none
  z_all : mg "all" = none
  z_bool : mg "bool" = none
  z_divmod : mg "divmod" = none
  z_int : mg "int" = none
  z_isinstance : mg "isinstance" = none
  z_len : mg "len" = none
  z_list : mg "list" = none
  z_max : mg "max" = none
  z_min : mg "min" = none
  z_range : mg "range" = none
  z_repr : mg "repr" = none
  z_str : mg "str" = none
  z_tuple : mg "tuple" = none
end K83
namespace K83
open PySem PySem.Spec PyProof.Rows L2
/-! ### values and their types -/
theorem sqT_ty {K : PySem.W.Frag} {H : Hp} {a : Addr} {xs : List V} (h : SqT K H a xs) : TyX K H (.ref a) (.type "tuple") := by
  rcases h with (h | ⟨o, h⟩) | ⟨o, its, n, h, c, _⟩
  · exact .base (.tup h)
  · exact .fTuple h
  · exact .kTuple h c
theorem kt {K : PySem.W.Frag} {a b : String} {r : Bool} (h : kitB a b = some r) : PySem.W.kitOne K (.type a) (.type b) = some r := kit_ty h
theorem iteB {c : Bool} {A B : Prop} (hc : c = true) (h : A) : if c = true then A else B := by rw [hc]; exact iteT h
theorem iteB' {c : Bool} {A B : Prop} (hc : c = false) (h : B) : if c = true then A else B := by rw [hc]; exact iteF h
theorem of_dec {Q : VK} {c : Bool} {H : Hp} (h : Q (.bl true) H) (hc : c = true) : Q (.bl c) H := by rw [hc]; exact h
theorem of_decF {Q : VK} {c : Bool} {H : Hp} (h : Q (.bl false) H) (hc : c = false) : Q (.bl c) H := by rw [hc]; exact h
/-! ### promises -/
def spWhole (K : PySem.W.Frag) : Sp := fun vs H Q _ => (∃ i : Int, vs = [.int i] ∧ Q (.bl true) H) ∨ (∃ a xs, vs = [.ref a] ∧ SqT K H a xs ∧ Q (.bl false) H)
def spNumber : Sp := fun vs H Q _ => ∃ (i lo hi : Int), vs = [.int i, .int lo, .int hi] ∧ lo ≤ i ∧ i ≤ hi ∧ Q (.bl true) H
def spCheckN : Sp := fun vs H Q _ => ∃ (i lo hi : Int), vs = [.int i, .int lo, .int hi] ∧ lo ≤ i ∧ i ≤ hi ∧ Q .non H
/-- what stands in a mark, not deeper than n -/
structure Put (n : Nat) (d : PyData) : Prop where
  ok : mkB d = true
  dp : d.depth ≤ n
def spMarked (K : PySem.W.Frag) (n : Nat) : Sp := fun vs H Q _ => ∃ v d, vs = [v] ∧ Dp K H v d ∧ Put n d ∧ ∀ H', Same H H' → Q (.bl true) H'
def spMark (K : PySem.W.Frag) (n : Nat) : Sp := fun vs H Q _ => ∃ v ds, vs = [v] ∧ Dp K H v (.tuple ds) ∧ Put n (.tuple ds) ∧ ∀ H', Same H H' → Q (.bl true) H'
def spCheckM (K : PySem.W.Frag) : Sp := fun vs H Q _ => ∃ v d, vs = [v] ∧ Dp K H v d ∧ Mark d ∧ ∀ H', Same H H' → Q .non H'
theorem Put.get {n : Nat} {ds : List PyData} {d : PyData} (h : Put (n + 1) (.tuple ds)) (hd : d ∈ ds) : Put n d := by
  have z := h.ok
  simp only [mkB, Bool.and_eq_true] at z
  have := depth_get hd
  have := h.dp
  exact ⟨mkAll_get z.2 hd, by omega⟩
section
variable {P : Program} {w : World} {K : PySem.W.Frag} {mg : Str → Option Value} {base : Heap}
theorem ok_is_whole (T : Txt P K mg) : FnOk P w K mg base CX0 1 T.f_is_whole T.d_is_whole ["value"] (spWhole K) := by
  refine T.F_is_whole.ok sc_is_whole (fun vs H Q E h => by rcases h with ⟨i, rfl, _⟩ | ⟨a, xs, rfl, _⟩ <;> rfl) (fun cdv A outer s H vs Q E hr h => ⟨_, (pss_one (ps_ret (pe_and (pe_callB call_isi rfl T.z_isinstance (by decide +kernel) (pa_cons (pv 0) (pa_cons (pe_bltn (v := .ty "int") (u := .type "int") rfl T.z_int (by decide +kernel) rfl) pa_nil))) (pe_one (pe_not (pe_callB call_isi rfl T.z_isinstance (by decide +kernel) (pa_cons (pv 0) (pa_cons (pe_bltn (v := .ty "bool") (u := .type "bool") rfl T.z_bool (by decide +kernel) rfl) pa_nil)))))))), ?_⟩)
  rcases h with ⟨i, rfl, q⟩ | ⟨a, xs, rfl, ha, q⟩
  · refine ⟨_, rfl, _, _, _, _, true, rfl, .ty _, .base (.int i), kt (by decide +kernel), _, rfl, iteT ?_⟩
    exact ⟨_, rfl, _, _, _, _, false, rfl, .ty _, .base (.int i), kt (by decide +kernel), _, rfl, q⟩
  · exact ⟨_, rfl, _, _, _, _, false, rfl, .ty _, sqT_ty ha, kt (by decide +kernel), _, rfl, iteF q⟩
theorem ok_is_number (T : Txt P K mg) : FnOk P w K mg base CX0 2 T.f_is_number T.d_is_number ["value", "low", "high"] spNumber := by
  refine T.F_is_number.ok sc_is_number (fun vs H Q E h => by obtain ⟨i, lo, x, rfl, _⟩ := h; rfl) (fun cdv A outer s H vs Q E hr h => ⟨_, (pss_cons (ps_if (PW.pt (pw_or (pt_not (pt_val (pe_call (ok_is_whole T) (hr.mono (by omega)) rfl T.g_is_whole T.F_is_whole.kp T.b_is_whole .nil pass0 (pa_cons (pv 0) pa_nil)))) (pw_or1 (PW.pt (pw_and (pt_cmpR op_notN (pv 1) pe_non (nomark _)) (pw_and1 (pt_cmpR op_lt (pv 0) (pv 1) (nomark _))))))))
      (pss_one (ps_ret pe_bl)) pss_nil)
      (pss_one (ps_ret (pe_or (pe_cmpR op_isN (pv 2) pe_non (nomark _)) (pe_one (pe_cmpR op_le (pv 0) (pv 2) (nomark _))))))), ?_⟩)
  obtain ⟨i, lo, hi, rfl, h1, h2, q⟩ := h
  refine ⟨_, rfl, .inl ⟨i, rfl, ?_⟩⟩
  refine ⟨_, rfl, iteF ?_⟩
  refine ⟨_, rfl, rfl, _, rfl, iteB (by simp) ?_⟩
  refine ⟨_, rfl, _, rfl, _, _, rfl, rfl, _, rfl, iteB' (by simp; omega) ?_⟩
  refine ⟨_, rfl, rfl, _, rfl, ?_⟩
  refine iteB' (by simp) ⟨_, rfl, _, rfl, _, _, rfl, rfl, of_dec q (by simp; omega)⟩
theorem ok_check_number (T : Txt P K mg) : FnOk P w K mg base CX0 3 T.f_check_number T.d_check_number ["value", "low", "high"] spCheckN := by
  refine T.F_check_number.ok sc_check_number (fun vs H Q E h => by obtain ⟨i, lo, x, rfl, _⟩ := h; rfl) (fun cdv A outer s H vs Q E hr h => ⟨_, (pss_one (ps_if (pt_not (pt_val (pe_call (ok_is_number T) (hr.mono (by omega)) rfl T.g_is_number T.F_is_number.kp T.b_is_number .nil pass0 (pa_cons (pv 0) (pa_cons (pv 1) (pa_cons (pv 2) pa_nil))))))
      (pss_one ps_never) pss_nil)), ?_⟩)
  obtain ⟨i, lo, hi, rfl, h1, h2, q⟩ := h
  refine ⟨_, rfl, _, rfl, _, rfl, i, lo, hi, rfl, h1, h2, ?_⟩
  exact ⟨_, rfl, iteF q⟩
theorem ok_is_marked (T : Txt P K mg) (n : Nat) (G : FnOk P w K mg base CX0 (2 * n + 2) T.f_is_mark T.d_is_mark ["value"] (spMark K n)) : FnOk P w K mg base CX0 (2 * n + 3) T.f_is_marked T.d_is_marked ["value"] (spMarked K n) := by
  refine T.F_is_marked.ok sc_is_marked (fun vs H Q E h => by obtain ⟨v, d, rfl, _⟩ := h; rfl) (fun cdv A outer s H vs Q E hr h => ⟨_, (pss_one (ps_ret (pe_or (pe_cmpR op_isN (pv 0) pe_non (nomark _)) (pe_or (pe_callB call_isi rfl T.z_isinstance (by decide +kernel) (pa_cons (pv 0) (pa_cons (pe_bltn (v := .ty "str") (u := .type "str") rfl T.z_str (by decide +kernel) rfl) pa_nil))) (pe_or (pe_call (ok_is_whole T) (hr.mono (by omega)) rfl T.g_is_whole T.F_is_whole.kp T.b_is_whole .nil pass0 (pa_cons (pv 0) pa_nil)) (pe_one (pe_call G hr rfl T.g_is_mark T.F_is_mark.kp T.b_is_mark .nil pass0 (pa_cons (pv 0) pa_nil)))))))), ?_⟩)
  obtain ⟨v, d, rfl, hd, hp, q⟩ := h
  cases hd with
  | non => exact ⟨_, rfl, rfl, _, rfl, iteB (by simp) (of_dec (q H (Same.refl H)) (by simp))⟩
  | bl b => have z := hp.ok; simp [mkB] at z
  | int i =>
    refine ⟨_, rfl, rfl, _, rfl, iteB' (by simp) ?_⟩
    refine ⟨_, rfl, _, _, _, _, false, rfl, .ty _, .base (.int i), kt (by decide +kernel), _, rfl, iteF ?_⟩
    exact ⟨_, rfl, .inl ⟨i, rfl, _, rfl, iteT (q H (Same.refl H))⟩⟩
  | str x =>
    refine ⟨_, rfl, rfl, _, rfl, iteB' (by simp) ?_⟩
    exact ⟨_, rfl, _, _, _, _, true, rfl, .ty _, .base (.str x), kt (by decide +kernel), _, rfl, iteT (q H (Same.refl H))⟩
  | lst s1 d1 => have z := hp.ok; simp [mkB] at z
  | @tup a xs ds s1 d1 =>
    refine ⟨_, rfl, rfl, _, rfl, iteB' (by simp) ?_⟩
    refine ⟨_, rfl, _, _, _, _, false, rfl, .ty _, sqT_ty s1, kt (by decide +kernel), _, rfl, iteF ?_⟩
    refine ⟨_, rfl, .inr ⟨a, xs, rfl, s1, _, rfl, iteF ?_⟩⟩
    exact ⟨_, rfl, _, ds, rfl, .tup s1 d1, hp, q⟩
theorem ok_is_mark (T : Txt P K mg) : ∀ n : Nat, FnOk P w K mg base CX0 (2 * n + 2) T.f_is_mark T.d_is_mark ["value"] (spMark K n)
  | 0 => ⟨fun vs H Q E h => by obtain ⟨v, ds, _, _, h, _⟩ := h; have := h.dp; simp [PyData.depth] at this, fun A outer s H args us vs Q E _ _ _ _ h => by obtain ⟨v, ds, _, _, h, _⟩ := h; have := h.dp; simp [PyData.depth] at this⟩
  | n + 1 => by
    have G := ok_is_marked T n (ok_is_mark T n)
    refine T.F_is_mark.ok sc_is_mark (fun vs H Q E h => by obtain ⟨v, d, rfl, _⟩ := h; rfl) (fun cdv A outer s H vs Q E hr h => ⟨_, (pss_one (ps_ret (pe_and (pe_callB call_isi rfl T.z_isinstance (by decide +kernel) (pa_cons (pv 0) (pa_cons (pe_bltn (v := .ty "tuple") (u := .type "tuple") rfl T.z_tuple (by decide +kernel) rfl) pa_nil))) (pe_one (pe_callB (cr_all rfl) rfl T.z_all (by decide +kernel) (pa_cons (pe_lc (own := [("each", 1)]) rfl sc_is_mark.nd (pi_tup (pv 0)) (blkOk_by (own := [("each", 1)]) (N := N_is_mark) (sc := defScope s_is_mark) (by decide +kernel)) (fun _ _ _ _ _ => (pg_name (i := 1) sc_is_mark.nd rfl (by first | exact Or.inl rfl | exact Or.inr rfl))) (fun _ _ _ _ _ => (by exact pts_nil)) (fun _ _ _ _ _ => (by exact (pe_call G hr rfl T.g_is_marked T.F_is_marked.kp T.b_is_marked .nil pass0 (pa_cons (pv 1) pa_nil))))) pa_nil)))))), ?_⟩)
    obtain ⟨v, ds, rfl, hd, hp, q⟩ := h
    cases hd with
    | @tup a xs ds s1 d1 =>
      refine ⟨_, rfl, _, _, _, _, true, rfl, .ty _, sqT_ty s1, kt (by decide +kernel), _, rfl, iteT ?_⟩
      have l1 := DpAll.length d1
      have hlen : ds.length ≤ 3 := by
        have z := hp.ok
        simp only [mkB, Bool.and_eq_true] at z
        exact of_decide_eq_true z.1
      refine ⟨_, rfl, a, rfl, ⟨xs, s1⟩, fun D hD => ?_⟩
      refine lc_tup (K := K) (a := a) (xs := xs) (fun i H' => H' D = some (.lst ((List.replicate i true).map V.bl)) ∧ Same H H') ⟨upd_same, Same.new hD⟩ (fun i H' _ h => h.2.sqT s1) ?_ ?_
      · rintro i x H' hx ⟨e1, e2⟩
        obtain ⟨d', g1, g2⟩ := DpAll.get d1 hx
        have hi := (List.getElem?_eq_some_iff.mp hx).1
        have pl := hp.get (List.mem_of_getElem? g1)
        refine ⟨rfl, _, rfl, ?_⟩
        refine ⟨_, d', rfl, Dp.keep e2.tupK _ _ (mk_imm d' pl.ok).1 g2, pl, fun H2 s2 => ?_⟩
        refine ⟨_, s2 _ _ e1, ?_, ?_, (e2.trans s2).own hD⟩
        · rw [List.length_map, List.length_replicate]
          exact Nat.lt_of_le_of_lt (show i ≤ 1000 by omega) (by decide)
        · rw [upd_same, List.replicate_succ', List.map_append]
          rfl
      · rintro H' ⟨e1, e2⟩
        refine ⟨D, List.replicate xs.length true, rfl, .of e1, ?_⟩
        exact of_dec (q H' e2) (by simp)
theorem ok_check_mark (T : Txt P K mg) : FnOk P w K mg base CX0 9 T.f_check_mark T.d_check_mark ["value"] (spCheckM K) := by
  refine T.F_check_mark.ok sc_check_mark (fun vs H Q E h => by obtain ⟨v, d, rfl, _⟩ := h; rfl) (fun cdv A outer s H vs Q E hr h => ⟨_, (pss_one (ps_if (pt_not (pt_val (pe_call (ok_is_mark T 3) (hr.mono (by omega)) rfl T.g_is_mark T.F_is_mark.kp T.b_is_mark .nil pass0 (pa_cons (pv 0) pa_nil))))
      (pss_one ps_never) pss_nil)), ?_⟩)
  obtain ⟨v, d, rfl, hd, hm, q⟩ := h
  obtain ⟨ds, rfl⟩ := hm.tu
  refine ⟨_, rfl, v, ds, rfl, hd, ⟨hm.ok, hm.dp⟩, fun H' k => ?_⟩
  exact ⟨_, rfl, iteF (q H' k)⟩
end
end K83
namespace K83
open PySem PySem.Spec PyProof.Rows L2
/-! ### entries: rows under marks -/
structure En where
  r : V
  d : PyData
def neE (d : PyData) (es : List En) : List En := es.filter fun e => !PyData.eqv e.d d
def eqE (d : PyData) (es : List En) : List En := es.filter fun e => PyData.eqv e.d d
def lastE (n : Nat) (es : List En) : List En := es.drop (es.length - n)
def useE (n : Nat) (es : List En) (r : V) (d : PyData) : List En := lastE n (neE d es ++ [⟨r, d⟩])
def ds (es : List En) : List PyData := es.map (·.d)
structure EsOk (n : Nat) (es : List En) : Prop where
  mks : ∀ e ∈ es, Mark e.d
  le : es.length ≤ n
  n20 : n ≤ 20
  one : es.Pairwise fun a b => PyData.eqv a.d b.d = false
theorem EsOk.marks {n : Nat} {es : List En} (h : EsOk n es) : Marks (ds es) := fun d hd => by
  obtain ⟨e, he, rfl⟩ := List.mem_map.mp hd
  exact h.mks e he
theorem neE_mem {d : PyData} {es : List En} {e : En} (h : e ∈ neE d es) : e ∈ es ∧ PyData.eqv e.d d = false := by
  obtain ⟨h1, h2⟩ := List.mem_filter.mp h
  exact ⟨h1, by simpa using h2⟩
theorem lastE_len (n : Nat) (es : List En) : (lastE n es).length ≤ n := by
  unfold lastE
  rw [List.length_drop]
  omega
theorem EsOk.use {n : Nat} {es : List En} (h : EsOk n es) {d : PyData} (hd : Mark d) (r : V) : EsOk n (useE n es r d) := by
  refine ⟨fun e he => ?_, lastE_len _ _, h.n20, ?_⟩
  · have z := List.mem_of_mem_drop he
    rcases List.mem_append.mp z with z | z
    · exact h.mks e (neE_mem z).1
    · rw [List.mem_singleton] at z
      rw [z]; exact hd
  · refine (List.pairwise_append.mpr ⟨h.one.filter _, List.pairwise_singleton _ _, fun a ha b hb => ?_⟩).sublist (List.drop_sublist _ _)
    rw [List.mem_singleton] at hb
    rw [hb]
    exact (neE_mem ha).2
/-- one at most has a given mark -/
theorem eqE_one {n : Nat} {es : List En} (h : EsOk n es) {d : PyData} (hd : Mark d) : eqE d es = [] ∨ ∃ e, eqE d es = [e] ∧ e ∈ es ∧ e.d = d := by
  have all : ∀ e ∈ eqE d es, e ∈ es ∧ e.d = d := fun e he => by
    obtain ⟨h1, h2⟩ := List.mem_filter.mp he
    exact ⟨h1, ((h.mks e h1).iff hd).mp h2⟩
  have pw : (eqE d es).Pairwise fun a b => PyData.eqv a.d b.d = false := h.one.filter _
  cases e : eqE d es with
  | nil => exact .inl rfl
  | cons a r =>
    rw [e] at all pw
    cases r with
    | nil => exact .inr ⟨a, rfl, all a List.mem_cons_self⟩
    | cons b r =>
      exfalso
      have ha := (all a List.mem_cons_self).2
      have hb := (all b (List.mem_cons_of_mem _ List.mem_cons_self)).2
      have z := (List.pairwise_cons.mp pw).1 b List.mem_cons_self
      rw [ha, hb, mk_refl hd.ok] at z
      cases z
theorem split_len (d : PyData) (es : List En) : (neE d es).length + (eqE d es).length = es.length := by
  unfold neE eqE
  induction es with
  | nil => rfl
  | cons a r ih =>
    cases h : PyData.eqv a.d d <;> simp [List.filter_cons, h] <;> omega
theorem use_found {n : Nat} {es : List En} (h : EsOk n es) {d : PyData} {e : En} (he : eqE d es = [e]) (hd : e.d = d) : useE n es e.r d = neE d es ++ [e] := by
  have l := split_len d es
  have := h.le
  rw [he] at l
  unfold useE lastE
  have e0 : (⟨e.r, d⟩ : En) = e := by rw [← hd]
  rw [e0, List.length_append]
  simp only [List.length_cons, List.length_nil] at l ⊢
  rw [show (neE d es).length + (0 + 1) - n = 0 by omega, List.drop_zero]
theorem any_eq (d : PyData) (es : List En) : ((ds es).any fun z => PyData.eqv z d) = !(eqE d es).isEmpty := by
  unfold ds eqE
  rw [List.any_map]
  induction es with
  | nil => rfl
  | cons a r ih =>
    rw [List.any_cons, ih]
    cases h : PyData.eqv a.d d <;> simp [List.filter_cons, h, Function.comp]
theorem place_of {d : PyData} : ∀ {es : List En} {e : En}, eqE d es = [e] → ∃ j, SeqAt.dataPlace (ds es) d = some j ∧ es[j]? = some e
  | [], _, h => by cases h
  | a :: r, e, h => by
    unfold SeqAt.dataPlace ds
    rw [List.map_cons, List.findIdx?_cons]
    cases hc : PyData.eqv a.d d with
    | true =>
      have z : eqE d (a :: r) = a :: eqE d r := by simp [eqE, List.filter_cons, hc]
      rw [z] at h
      injection h with h1 h2
      exact ⟨0, by simp, by rw [h1]; rfl⟩
    | false =>
      have z : eqE d (a :: r) = eqE d r := by simp [eqE, List.filter_cons, hc]
      rw [z] at h
      obtain ⟨j, h1, h2⟩ := place_of h
      refine ⟨j + 1, ?_, by simpa using h2⟩
      unfold SeqAt.dataPlace ds at h1
      simp [h1]
/-! ### a cache -/
def CF (n k : V) : List (Str × V) := [("_size", n), ("_kept", k)]
theorem nsk : ¬ (("_size" : Str) = "_kept") := by decide +kernel
theorem cf_put (n k : V) : putF "_kept" k (putF "_size" n []) = CF n k := by
  show (if ("_size" : Str) = "_kept" then [(("_size" : Str), k)] else (("_size" : Str), n) :: putF "_kept" k []) = CF n k
  rw [if_neg nsk]
  all_goals rfl
theorem cf_kept (n k k' : V) : putF "_kept" k' (CF n k) = CF n k' := by
  show (if ("_size" : Str) = "_kept" then _ else (("_size" : Str), n) :: putF "_kept" k' [(("_kept" : Str), k)]) = CF n k'
  rw [if_neg nsk]
  show (("_size" : Str), n) :: (if ("_kept" : Str) = "_kept" then _ else _) = CF n k'
  rw [if_pos rfl]
  all_goals rfl
theorem cf_look_s (n k : V) : (CF n k).lookup ("_size" : Str) = some n := by simp [CF, List.lookup]
theorem cf_look_k (n k : V) : (CF n k).lookup ("_kept" : Str) = some k := by
  have q : (("_kept" : Str) == "_size") = false := by decide +kernel
  simp [CF, List.lookup, q]
theorem cf_no (n k : V) {m : Str} (h1 : (m == ("_size" : Str)) = false) (h2 : (m == ("_kept" : Str)) = false) : (CF n k).lookup m = none := by
  simp [CF, List.lookup, h1, h2]
/-- what holds as long as S alone changes -/
def Sta (S : Addr → Prop) (H : Hp) (p : Hp → Prop) : Prop := ∀ H', But S H H' → p H'
theorem Sta.keep {S : Addr → Prop} {H H1 : Hp} {p : Hp → Prop} (h : Sta S H p) (k : But S H H1) : Sta S H1 p := fun H' k' => h H' (k.trans k')
theorem Sta.now {S : Addr → Prop} {H : Hp} {p : Hp → Prop} (h : Sta S H p) : p H := h H (But.refl H)
def Occ (S : Addr → Prop) (H : Hp) : Prop := ∀ a, S a → H a ≠ none
theorem Occ.same {S : Addr → Prop} {H H' : Hp} (h : Occ S H) (k : Same H H') : Occ S H' := fun a ha e => by
  cases z : H a with
  | none => exact h a ha z
  | some o => rw [k _ _ z] at e; cases e
theorem Occ.no {S : Addr → Prop} {H : Hp} (h : Occ S H) {a : Addr} (e : H a = none) : ¬ S a := fun s => h a s e
/-- the tuples of a cache's list -/
inductive Held (K : PySem.W.Frag) (S : Addr → Prop) (H : Hp) : List V → List En → Prop
  | nil : Held K S H [] []
  | cons {a : Addr} {m : V} {ps : List V} {e : En} {es : List En} : Sta S H (fun H => SqT K H a [m, e.r] ∧ Dp K H m e.d) → Held K S H ps es → Held K S H (.ref a :: ps) (e :: es)
theorem Held.keep {K : PySem.W.Frag} {S : Addr → Prop} {H H1 : Hp} (k : But S H H1) : ∀ {ps : List V} {es : List En}, Held K S H ps es → Held K S H1 ps es
  | _, _, .nil => .nil
  | _, _, .cons h t => .cons (h.keep k) (Held.keep k t)
theorem Held.length {K : PySem.W.Frag} {S : Addr → Prop} {H : Hp} : ∀ {ps : List V} {es : List En}, Held K S H ps es → ps.length = es.length
  | _, _, .nil => rfl
  | _, _, .cons _ t => by rw [List.length_cons, List.length_cons, Held.length t]
theorem Held.get {K : PySem.W.Frag} {S : Addr → Prop} {H : Hp} : ∀ {ps : List V} {es : List En} {i : Nat} {v : V}, Held K S H ps es → ps[i]? = some v → ∃ (a : Addr) (m : V) (e : En), v = .ref a ∧ es[i]? = some e ∧ Sta S H fun H => SqT K H a [m, e.r] ∧ Dp K H m e.d
  | _, _, _, _, .nil, e => by simp at e
  | _, _, 0, _, .cons h _, e => by
    simp at e
    subst e
    exact ⟨_, _, _, rfl, rfl, h⟩
  | _, _, i + 1, _, .cons _ t, e => by
    obtain ⟨a, m, e', h1, h2, h3⟩ := Held.get (i := i) t (by simpa using e)
    exact ⟨a, m, e', h1, by simpa using h2, h3⟩
theorem Held.drop {K : PySem.W.Frag} {S : Addr → Prop} {H : Hp} : ∀ {ps : List V} {es : List En} (k : Nat), Held K S H ps es → Held K S H (ps.drop k) (es.drop k)
  | _, _, 0, h => h
  | _, _, k + 1, .nil => .nil
  | _, _, k + 1, .cons _ t => Held.drop k t
def CaOk (K : PySem.W.Frag) (C : Addr) (S : Addr → Prop) (H : Hp) (c : Addr) (n : Nat) (es : List En) : Prop :=
  ∃ (dx kl : Addr) (ps : List V), H c = some (.ins C dx (CF (.int n) (.ref kl))) ∧ Sta S H (fun H => SqL K H kl ps) ∧ Held K S H ps es
theorem CaOk.keep {K : PySem.W.Frag} {C : Addr} {S : Addr → Prop} {H H1 : Hp} {c : Addr} {n : Nat} {es : List En} (h : CaOk K C S H c n es) (k : But S H H1) (e : H1 c = H c) : CaOk K C S H1 c n es := by
  obtain ⟨dx, kl, ps, h1, h2, h3⟩ := h
  exact ⟨dx, kl, ps, e.trans h1, h2.keep k, h3.keep k⟩
theorem CaOk.same {K : PySem.W.Frag} {C : Addr} {S : Addr → Prop} {H H1 : Hp} {c : Addr} {n : Nat} {es : List En} (h : CaOk K C S H c n es) (k : Same H H1) : CaOk K C S H1 c n es := by
  refine h.keep k.but ?_
  obtain ⟨dx, kl, ps, h1, _⟩ := h
  rw [h1, k _ _ h1]
/-- the tuples that use makes: base H, now H' -/
inductive Mid (K : PySem.W.Frag) (S : Addr → Prop) (H H' : Hp) : List V → List En → Prop
  | nil : Mid K S H H' [] []
  | cons {a : Addr} {m : V} {ps : List V} {e : En} {es : List En} : H' a = some (.tup [m, e.r]) → H a = none → Sta S H (fun H => Dp K H m e.d) → Mid K S H H' ps es → Mid K S H H' (.ref a :: ps) (e :: es)
theorem Mid.keep {K : PySem.W.Frag} {S : Addr → Prop} {H H1 H2 : Hp} (k : ∀ a xs, H1 a = some (.tup xs) → H2 a = some (.tup xs)) : ∀ {ps : List V} {es : List En}, Mid K S H H1 ps es → Mid K S H H2 ps es
  | _, _, .nil => .nil
  | _, _, .cons h1 h2 h3 t => .cons (k _ _ h1) h2 h3 (Mid.keep k t)
theorem Mid.app {K : PySem.W.Frag} {S : Addr → Prop} {H H1 : Hp} : ∀ {ps qs : List V} {es fs : List En}, Mid K S H H1 ps es → Mid K S H H1 qs fs → Mid K S H H1 (ps ++ qs) (es ++ fs)
  | _, _, _, _, .nil, h => h
  | _, _, _, _, .cons h1 h2 h3 t, h => .cons h1 h2 h3 (Mid.app t h)
theorem Mid.length {K : PySem.W.Frag} {S : Addr → Prop} {H H1 : Hp} : ∀ {ps : List V} {es : List En}, Mid K S H H1 ps es → ps.length = es.length
  | _, _, .nil => rfl
  | _, _, .cons _ _ _ t => by rw [List.length_cons, List.length_cons, Mid.length t]
theorem Mid.held {K : PySem.W.Frag} {S : Addr → Prop} {H H1 : Hp} (hO : Occ S H) (k : But S H H1) : ∀ {ps : List V} {es : List En}, Mid K S H H1 ps es → Held K S H1 ps es
  | _, _, .nil => .nil
  | _, _, .cons h1 h2 h3 t => .cons (fun H2 k2 => ⟨.of (k2 _ _ (hO.no h2) h1), h3 _ (k.trans k2)⟩) (Mid.held hO k t)
theorem cut_from (xs : List V) (m : Nat) : cutV xs (some (m : Int)) none = xs.drop m := by
  unfold cutV
  rw [HT.sIx_nat, HT.sIx_none]
  by_cases h : m ≤ xs.length
  · rw [Nat.min_eq_left h, List.take_of_length_le (by rw [List.length_drop]; exact Nat.le_refl _)]
  · rw [Nat.min_eq_right (by omega), List.drop_of_length_le (Nat.le_refl _), List.drop_of_length_le (by omega), List.take_nil]
/-! ### promises -/
def spInit (K : PySem.W.Frag) (C : Addr) : Sp := fun vs H Q _ => ∃ (c dx : Addr) (n : Nat), vs = [.ref c, .int n] ∧ n ≤ 20 ∧ H c = some (.ins C dx []) ∧ ∀ H' kl, But (· = c) H H' → H kl = none → H' kl = some (.lst []) → H' c = some (.ins C dx (CF (.int n) (.ref kl))) → Q .non H'
def spMarks (K : PySem.W.Frag) (C : Addr) : Sp := fun vs H Q _ => ∃ (S : Addr → Prop) (c : Addr) (n : Nat) (es : List En), vs = [.ref c] ∧ CaOk K C S H c n es ∧ EsOk n es ∧ ∀ H' p o xs, Same H H' → H' p = some (.frz o (.tup xs)) → o.dict = none → DpAll K H' xs (ds es) → Q (.ref p) H'
def spLen (K : PySem.W.Frag) (C : Addr) : Sp := fun vs H Q _ => ∃ (S : Addr → Prop) (c : Addr) (n : Nat) (es : List En), vs = [.ref c] ∧ CaOk K C S H c n es ∧ Q (.int es.length) H
def spBool : Sp := fun vs H Q _ => ∃ (c : Addr), vs = [.ref c] ∧ Q (.bl true) H
def spUse (K : PySem.W.Frag) (C : Addr) : Sp := fun vs H Q _ => ∃ (S : Addr → Prop) (c : Addr) (n : Nat) (es : List En) (v r : V) (d : PyData), vs = [.ref c, v, r] ∧ S c ∧ Occ S H ∧ CaOk K C S H c n es ∧ EsOk n es ∧ Sta S H (fun H => Dp K H v d) ∧ Mark d ∧
  ∀ H', But (· = c) H H' → CaOk K C S H' c n (useE n es r d) → Q .non H'
def spFind (K : PySem.W.Frag) (C : Addr) : Sp := fun vs H Q _ => ∃ (S : Addr → Prop) (c : Addr) (n : Nat) (es : List En) (v : V) (d : PyData), vs = [.ref c, v] ∧ S c ∧ Occ S H ∧ CaOk K C S H c n es ∧ EsOk n es ∧ Sta S H (fun H => Dp K H v d) ∧ Mark d ∧
  (eqE d es = [] → ∀ H', Same H H' → Q .non H') ∧ (∀ e, eqE d es = [e] → e.d = d → ∀ H', But (· = c) H H' → CaOk K C S H' c n (neE d es ++ [e]) → Q e.r H')
section
variable {P : Program} {w : World} {K : PySem.W.Frag} {mg : Str → Option Value} {base : Heap}
theorem ok_Cache___init__ (T : Txt P K mg) : FnOk P w K mg base CX0 4 T.f_Cache___init__ T.d_Cache___init__ ["self", "size"] (spInit K T.C_Cache) := by
  refine T.F_Cache___init__.ok sc_Cache___init__ (fun vs H Q E h => by obtain ⟨r, dx, n, rfl, _⟩ := h; rfl) (fun cdv A outer s H vs Q E hr h => ⟨_, (pss_cons (ps_expr (pe_call (ok_check_number T) (hr.mono (by omega)) rfl T.g_check_number T.F_check_number.kp T.b_check_number .nil pass0 (pa_cons (pv 1) (pa_cons pe_int (pa_cons (pe_glob (v := .int (20)) rfl T.g_MOST_SIZE ⟨_, rfl⟩) pa_nil)))))
      (pss_cons (ps_fld (pv 0) (pv 1) rfl)
      (pss_one (ps_fld (pv 0) (pe_lst pa_nil) rfl)))), ?_⟩)
  obtain ⟨c, dx, n, rfl, hn, h1, q⟩ := h
  refine ⟨_, rfl, n, 0, 20, rfl, by omega, by omega, ?_⟩
  refine ⟨_, rfl, _, rfl, c, T.C_Cache, dx, [], rfl, h1, T.cl_Cache, T.na_Cache__size, (by show 0 < 1000; decide), ?_⟩
  refine ⟨Nat.zero_le _, fun kl hkl => ?_⟩
  have n2 : kl ≠ c := fun e => by rw [e, upd_same] at hkl; cases hkl
  have hk0 : H kl = none := by rw [upd_ne n2] at hkl; exact hkl
  refine ⟨_, rfl, c, T.C_Cache, dx, _, rfl, (by rw [upd_ne n2.symm]; exact upd_same), T.cl_Cache, T.na_Cache__kept, (by show 1 < 1000; decide), ?_⟩
  refine q _ kl ?_ hk0 ?_ ?_
  · exact (((But.refl H).put (S := (· = c)) rfl).new hkl).put rfl
  · rw [upd_ne n2, upd_same]
  · rw [upd_same, cf_put]
theorem ok_Cache_marks (T : Txt P K mg) : FnOk P w K mg base CX0 1 T.f_Cache_marks T.d_Cache_marks ["self"] (spMarks K T.C_Cache) := by
  refine T.F_Cache_marks.ok sc_Cache_marks (fun vs H Q E h => by obtain ⟨S, c, n, es, rfl, _⟩ := h; rfl) (fun cdv A outer s H vs Q E hr h => ⟨_, (pss_one (ps_ret (pe_callTy call_tupF rfl T.z_tuple (by decide +kernel) (pa_cons (pe_lc (own := [("mark", 1), ("_", 2)]) (g := gTup K 2 (gCons (gName 1) (gCons (gName 2) gNil))) rfl sc_Cache_marks.nd (pi_list (pe_fld (pv 0) rfl)) (blkOk_by (own := [("mark", 1), ("_", 2)]) (N := N_Cache_marks) (sc := defScope s_Cache_marks) (by decide +kernel)) (fun _ _ _ _ _ => (pg_tup rfl (pgs_cons (pg_name (i := 1) sc_Cache_marks.nd rfl (by first | exact Or.inl rfl | exact Or.inr rfl)) (pgs_cons (pg_name (i := 2) sc_Cache_marks.nd rfl (by first | exact Or.inl rfl | exact Or.inr rfl)) pgs_nil)))) (fun _ _ _ _ _ => (by exact pts_nil)) (fun _ _ _ _ _ => (by exact (pv 1)))) pa_nil)))), ?_⟩)
  obtain ⟨S, c, n, es, rfl, ⟨dx, kl, ps, h1, h2, h3⟩, hE, q⟩ := h
  refine ⟨_, rfl, c, T.C_Cache, dx, _, _, rfl, h1, T.cl_Cache, T.na_Cache__kept, cf_look_k _ _, ?_⟩
  refine ⟨kl, rfl, ⟨ps, h2.now⟩, fun D hD => ?_⟩
  have lps := h3.length
  have l1 := hE.le
  have l2 := hE.n20
  have z := (mk_immAll _ hE.marks.all).1
  refine lc_list (K := K) (a := kl) (xs := ps) (fun i H' => ∃ acc, H' D = some (.lst acc) ∧ DpAll K H acc ((ds es).take i) ∧ Same H H') ⟨[], upd_same, .nil, Same.new hD⟩ (fun i H' _ h => h.choose_spec.2.2.sqL h2.now) ?_ ?_
  · rintro i x H' hx ⟨acc, e1, e2, e3⟩
    obtain ⟨a, m, e, rfl, he, st⟩ := h3.get hx
    refine ⟨a, _, rfl, e3.sqT st.now.1, rfl, _, _, rfl, _, _, rfl, rfl, rfl, _, rfl, acc, e1, ?_, acc ++ [m], upd_same, ?_, e3.own hD⟩
    · have := DpAll.length e2
      rw [this, List.length_take]
      unfold ds
      rw [List.length_map]
      exact Nat.lt_of_le_of_lt (show _ ≤ 20 by omega) (by decide)
    · rw [List.take_add_one]
      refine DpAll.app e2 ?_
      have : (ds es)[i]? = some e.d := by unfold ds; rw [List.getElem?_map, he]; rfl
      rw [this]
      exact .cons st.now.2 .nil
  · rintro H' ⟨acc, e1, e2, e3⟩
    rw [lps, show es.length = (ds es).length by unfold ds; rw [List.length_map], List.take_length] at e2
    refine ⟨D, acc, rfl, .of e1, fun p o hp ho => ?_⟩
    exact q _ p o acc (e3.step hp) upd_same ho (Dp.keepAll (e3.step hp).tupK _ _ z e2)
theorem ok_Cache___len__ (T : Txt P K mg) : FnOk P w K mg base CX0 1 T.f_Cache___len__ T.d_Cache___len__ ["self"] (spLen K T.C_Cache) := by
  refine T.F_Cache___len__.ok sc_Cache___len__ (fun vs H Q E h => by obtain ⟨S, c, n, es, rfl, _⟩ := h; rfl) (fun cdv A outer s H vs Q E hr h => ⟨_, (pss_one (ps_ret (pe_callB call_len_seq rfl T.z_len (by decide +kernel) (pa_cons (pe_fld (pv 0) rfl) pa_nil)))), ?_⟩)
  obtain ⟨S, c, n, es, rfl, ⟨dx, kl, ps, h1, h2, h3⟩, q⟩ := h
  refine ⟨_, rfl, c, T.C_Cache, dx, _, _, rfl, h1, T.cl_Cache, T.na_Cache__kept, cf_look_k _ _, ?_⟩
  refine ⟨kl, ps, rfl, .inl h2.now, ?_⟩
  rw [h3.length]
  exact q
theorem ok_Cache___bool__ (T : Txt P K mg) : FnOk P w K mg base CX0 1 T.f_Cache___bool__ T.d_Cache___bool__ ["self"] spBool := by
  refine T.F_Cache___bool__.ok sc_Cache___bool__ (fun vs H Q E h => by obtain ⟨c, rfl, _⟩ := h; rfl) (fun cdv A outer s H vs Q E hr h => ⟨_, (pss_one (ps_ret pe_bl)), ?_⟩)
  obtain ⟨c, rfl, q⟩ := h
  exact q
theorem ok_Cache_use (T : Txt P K mg) : FnOk P w K mg base CX0 1 T.f_Cache_use T.d_Cache_use ["self", "mark", "rows"] (spUse K T.C_Cache) := by
  refine T.F_Cache_use.ok sc_Cache_use (fun vs H Q E h => by obtain ⟨S, c, n, es, v, r, d, rfl, _⟩ := h; rfl) (fun cdv A outer s H vs Q E hr h => ⟨_, (pss_cons (ps_set (i := 3) sc_Cache_use.nd rfl (Or.inl rfl) (pe_op op_cat (pe_lc (own := [("each", 4), ("held", 5)]) (tt := tTest (tOp (rNeD K) (tVar 4) (tVar 1))) (g := gTup K 2 (gCons (gName 4) (gCons (gName 5) gNil))) rfl sc_Cache_use.nd (pi_list (pe_fld (pv 0) rfl)) (blkOk_by (own := [("each", 4), ("held", 5)]) (N := N_Cache_use) (sc := defScope s_Cache_use) (by decide +kernel)) (fun _ _ _ _ _ => (pg_tup rfl (pgs_cons (pg_name (i := 4) sc_Cache_use.nd rfl (by first | exact Or.inl rfl | exact Or.inr rfl)) (pgs_cons (pg_name (i := 5) sc_Cache_use.nd rfl (by first | exact Or.inl rfl | exact Or.inr rfl)) pgs_nil)))) (fun _ _ _ _ _ => (by exact pts_one (pt_cmpR (op_neD (by exact hu64 hr)) (pv 4) (pv 1) (nomark _)))) (fun _ _ _ _ _ => (by exact (pe_tup (pa_cons (pv 4) (pa_cons (pv 5) pa_nil)))))) (pe_lst (pa_cons (pe_tup (pa_cons (pv 1) (pa_cons (pv 2) pa_nil))) pa_nil))))
      (pss_one (ps_fld (pv 0) (pe_slice sl_list (pv 3) (po_some (pe_callB (call_max2 rfl) rfl T.z_max (by decide +kernel) (pa_cons pe_int (pa_cons (pe_op op_sub (pe_callB call_len_seq rfl T.z_len (by decide +kernel) (pa_cons (pv 3) pa_nil)) (pe_fld (pv 0) rfl)) pa_nil)))) po_none) rfl))), ?_⟩)
  obtain ⟨S, c, n, es, v, r, d, rfl, hc, hO, ⟨dx, kl, ps, h1, h2, h3⟩, hE, hv, hd, q⟩ := h
  have lps := h3.length
  have l1 := hE.le
  have l2 := hE.n20
  refine ⟨_, rfl, c, T.C_Cache, dx, _, _, rfl, h1, T.cl_Cache, T.na_Cache__kept, cf_look_k _ _, ?_⟩
  refine ⟨kl, rfl, ⟨ps, h2.now⟩, fun D hD => ?_⟩
  refine lc_list (K := K) (a := kl) (xs := ps) (fun i H' => ∃ acc, H' D = some (.lst acc) ∧ Mid K S H H' acc (neE d (es.take i)) ∧ Same H H') ⟨[], upd_same, .nil, Same.new hD⟩ (fun i H' _ h => h.choose_spec.2.2.sqL h2.now) ?_ ?_
  · rintro i x H' hx ⟨acc, e1, e2, e3⟩
    obtain ⟨a, m, e, rfl, he, st⟩ := h3.get hx
    have hm := hE.mks e (List.mem_of_getElem? he)
    refine ⟨a, _, rfl, e3.sqT st.now.1, rfl, _, _, rfl, _, _, rfl, rfl, rfl, ?_⟩
    refine ⟨_, rfl, _, rfl, e.d, d, st _ e3.but |>.2, hv _ e3.but, hm.shaped, hd.shaped, _, rfl, ?_⟩
    have et : es.take (i + 1) = es.take i ++ [e] := by rw [List.take_add_one, he]; rfl
    cases hb : PyData.eqv e.d d with
    | true =>
      refine iteF ⟨acc, e1, ?_, e3⟩
      rw [et]
      have : neE d (es.take i ++ [e]) = neE d (es.take i) := by simp [neE, hb]
      rw [this]
      exact e2
    | false =>
      refine iteT ⟨_, rfl, _, rfl, by show 2 ≤ sizeLine; decide, fun p hp => ?_⟩
      have n1 : p ≠ D := fun z => by rw [z, e1] at hp; cases hp
      refine ⟨acc, by rw [upd_ne n1.symm]; exact e1, ?_, acc ++ [.ref p], upd_same, ?_, (e3.step hp).own hD⟩
      · have := Mid.length e2
        rw [this]
        have := List.length_filter_le (fun e : En => !PyData.eqv e.d d) (es.take i)
        have := List.length_take_le' i es
        unfold neE
        exact Nat.lt_of_le_of_lt (show _ ≤ 20 by omega) (by decide)
      · rw [et]
        unfold neE
        rw [List.filter_append]
        refine Mid.app (e2.keep fun b xs z => ?_) ?_
        · rw [upd_ne (fun y => by rw [y, e1] at z; cases z), upd_ne (fun y => by rw [y, hp] at z; cases z)]
          exact z
        · have : ([e].filter fun e => !PyData.eqv e.d d) = [e] := by simp [hb]
          rw [this]
          exact .cons (by rw [upd_ne n1, upd_same]) (e3.free hp) (fun H2 k2 => (st H2 k2).2) .nil
  · rintro H' ⟨acc, e1, e2, e3⟩
    rw [lps, List.take_length] at e2
    have la : acc.length ≤ 20 := by
      have := Mid.length e2
      have := List.length_filter_le (fun e : En => !PyData.eqv e.d d) es
      unfold neE at *
      omega
    refine ⟨_, rfl, _, rfl, by show 2 ≤ sizeLine; decide, fun t ht => ?_⟩
    refine ⟨by show 1 ≤ sizeLine; decide, fun b hb => ?_⟩
    have n1 : t ≠ D := fun z => by rw [z, e1] at ht; cases ht
    have s1 := e3.step (o := .tup [v, r]) ht
    have n2 : b ≠ t := fun z => by rw [z, upd_same] at hb; cases hb
    have f1 : upd H' t (.tup [v, r]) D = some (.lst acc) := by rw [upd_ne n1.symm]; exact e1
    have n3 : b ≠ D := fun z => by rw [z, f1] at hb; cases hb
    have s2 := s1.step (o := .lst [.ref t]) hb
    refine ⟨D, b, acc, [.ref t], rfl, rfl, by rw [upd_ne n3.symm]; exact f1, upd_same, by show acc.length + 1 ≤ sizeLine; exact Nat.le_trans (show _ ≤ 21 by omega) (by decide), fun p hp => ?_⟩
    have s3 := s2.step (o := .lst (acc ++ [.ref t])) hp
    have md : Mid K S H (upd (upd (upd H' t (.tup [v, r])) b (.lst [.ref t])) p (.lst (acc ++ [.ref t]))) (acc ++ [.ref t]) (neE d es ++ [⟨r, d⟩]) := by
      have kk : Same (upd H' t (.tup [v, r])) (upd (upd (upd H' t (.tup [v, r])) b (.lst [.ref t])) p (.lst (acc ++ [.ref t]))) := (Same.new hb).step hp
      refine Mid.app (e2.keep fun a xs z => kk _ _ (Same.new ht _ _ z)) (.cons (kk _ _ upd_same) (e3.free ht) hv .nil)
    have fp : upd (upd (upd H' t (.tup [v, r])) b (.lst [.ref t])) p (.lst (acc ++ [.ref t])) p = some (.lst (acc ++ [.ref t])) := upd_same
    generalize upd (upd (upd H' t (.tup [v, r])) b (.lst [.ref t])) p (.lst (acc ++ [.ref t])) = H3 at s3 md fp ⊢
    have lx : (acc ++ [V.ref t]).length = (neE d es ++ [(⟨r, d⟩ : En)]).length := md.length
    refine ⟨_, rfl, _, rfl, p, _, rfl, .inl (.of fp), _, rfl, c, T.C_Cache, dx, _, _, rfl, s3 _ _ h1, T.cl_Cache, T.na_Cache__size, cf_look_s _ _, ?_⟩
    refine ⟨_, _, rfl, rfl, _, _, rfl, _, rfl, p, _, rfl, .of fp, fun z hz => ?_⟩
    have n4 : c ≠ z := fun y => by rw [← y, s3 _ _ h1] at hz; cases hz
    refine ⟨_, rfl, c, T.C_Cache, dx, _, rfl, (Same.new hz) _ _ (s3 _ _ h1), T.cl_Cache, T.na_Cache__kept, (by show 2 < 1000; decide), ?_⟩
    have cut : cutV (acc ++ [V.ref t]) (some (if ((acc ++ [V.ref t]).length : Int) - (n : Int) > 0 then ((acc ++ [V.ref t]).length : Int) - (n : Int) else 0)) none = (acc ++ [V.ref t]).drop ((neE d es ++ [(⟨r, d⟩ : En)]).length - n) := by
      rw [← lx]
      have e : (if ((acc ++ [V.ref t]).length : Int) - (n : Int) > 0 then ((acc ++ [V.ref t]).length : Int) - (n : Int) else 0) = (((acc ++ [V.ref t]).length - n : Nat) : Int) := by
        split <;> omega
      rw [e, cut_from]
    rw [cut, cf_kept]
    have hz0 : H z = none := s3.free hz
    have nz : ¬ S z := hO.no hz0
    have b4 : But (· = c) H (upd (upd H3 z (.lst ((acc ++ [V.ref t]).drop ((neE d es ++ [(⟨r, d⟩ : En)]).length - n)))) c (.ins T.C_Cache dx (CF (.int n) (.ref z)))) := ((s3.but (S := (· = c))).new hz).put rfl
    have b3 : But S H3 (upd (upd H3 z (.lst ((acc ++ [V.ref t]).drop ((neE d es ++ [(⟨r, d⟩ : En)]).length - n)))) c (.ins T.C_Cache dx (CF (.int n) (.ref z)))) := ((But.refl H3).new hz).put hc
    refine q _ b4 ⟨dx, z, (acc ++ [V.ref t]).drop ((neE d es ++ [(⟨r, d⟩ : En)]).length - n), upd_same, fun H4 k4 => .of (k4 _ _ nz ?_), ?_⟩
    · rw [upd_ne n4.symm, upd_same]
    · exact ((md.held hO s3.but).keep b3).drop _
theorem ok_Cache_keep (T : Txt P K mg) : FnOk P w K mg base CX0 10 T.f_Cache_keep T.d_Cache_keep ["self", "mark", "rows"] (spUse K T.C_Cache) := by
  refine T.F_Cache_keep.ok sc_Cache_keep (fun vs H Q E h => by obtain ⟨S, c, n, es, v, r, d, rfl, _⟩ := h; rfl) (fun cdv A outer s H vs Q E hr h => ⟨_, (pss_cons (ps_expr (pe_call (ok_check_mark T) (hr.mono (by omega)) rfl T.g_check_mark T.F_check_mark.kp T.b_check_mark .nil pass0 (pa_cons (pv 1) pa_nil)))
      (pss_one (ps_expr (pe_meth (pv 0) T.cl_Cache T.me_Cache_use (ok_Cache_use T) (hr.mono (by omega)) T.b_Cache_use .nil pass0 (pa_cons (pv 1) (pa_cons (pv 2) pa_nil)))))), ?_⟩)
  obtain ⟨S, c, n, es, v, r, d, rfl, hc, hO, hC, hE, hv, hd, q⟩ := h
  refine ⟨_, rfl, v, d, rfl, hv.now, hd, fun H1 s1 => ?_⟩
  have hC1 := hC.same s1
  obtain ⟨dx, kl, ps, h1, h2, h3⟩ := id hC1
  refine ⟨_, rfl, c, dx, _, rfl, h1, cf_no _ _ (by decide +kernel) (by decide +kernel), _, rfl, _, rfl, ?_⟩
  exact ⟨S, c, n, es, v, r, d, rfl, hc, hO.same s1, hC1, hE, hv.keep s1.but, hd, fun H2 k2 => q H2 (s1.but.trans k2)⟩
theorem ok_Cache_find (T : Txt P K mg) : FnOk P w K mg base CX0 10 T.f_Cache_find T.d_Cache_find ["self", "mark"] (spFind K T.C_Cache) := by
  refine T.F_Cache_find.ok sc_Cache_find (fun vs H Q E h => by obtain ⟨S, c, n, es, v, d, rfl, _⟩ := h; rfl) (fun cdv A outer s H vs Q E hr h => ⟨_, (pss_cons (ps_expr (pe_call (ok_check_mark T) (hr.mono (by omega)) rfl T.g_check_mark T.F_check_mark.kp T.b_check_mark .nil pass0 (pa_cons (pv 1) pa_nil)))
      (pss_cons (ps_if (pt_cmpR (op_notInTD (by exact hu65 hr)) (pv 1) (pe_prop (pv 0) T.cl_Cache T.p_Cache_marks (ok_Cache_marks T) ((hr.mono (by omega))) T.b_Cache_marks .nil pass0 rfl) (by rfl))
      (pss_one (ps_ret pe_non)) pss_nil)
      (pss_cons (ps_set (i := 2) sc_Cache_find.nd rfl (Or.inl rfl) (pe_ix ix_tup (pe_ix ix_list (pe_fld (pv 0) rfl) (pe_bmT PySem.F.slot_tuple_index PySem.F.type_tuple_index (mt_tupIndexD (by exact hu66 hr)) (pe_prop (pv 0) T.cl_Cache T.p_Cache_marks (ok_Cache_marks T) ((hr.mono (by omega))) T.b_Cache_marks .nil pass0 rfl) (pa_cons (pv 1) pa_nil)) (fun _ _ => rfl)) pe_int (fun _ _ => rfl)))
      (pss_cons (ps_expr (pe_meth (pv 0) T.cl_Cache T.me_Cache_use (ok_Cache_use T) (hr.mono (by omega)) T.b_Cache_use .nil pass0 (pa_cons (pv 1) (pa_cons (pv 2) pa_nil))))
      (pss_one (ps_ret (pv 2))))))), ?_⟩)
  obtain ⟨S, c, n, es, v, d, rfl, hc, hO, hC, hE, hv, hd, q0, q1⟩ := h
  refine ⟨_, rfl, v, d, rfl, hv.now, hd, fun H1 s1 => ?_⟩
  have hC1 := hC.same s1
  obtain ⟨dx, kl, ps, h1, h2, h3⟩ := id hC1
  refine ⟨_, rfl, _, rfl, c, dx, _, rfl, h1, S, c, n, es, rfl, hC1, hE, fun H2 p o xs s2 hp _ hx => ?_⟩
  refine ⟨d, _, hv _ (s1.trans s2).but, .tup (.inl (.inr ⟨o, hp⟩)) hx, hd.shaped, hE.marks.shaped.2, _, rfl, ?_⟩
  rw [any_eq]
  rcases eqE_one hE hd with he | ⟨e, he, hm, hed⟩
  · rw [he]
    exact iteT (q0 he H2 (s1.trans s2))
  · refine iteB' (by rw [he]; rfl) ?_
    have hC2 := hC1.same s2
    obtain ⟨dx, kl, ps, h1, h2, h3⟩ := id hC2
    refine ⟨_, rfl, c, T.C_Cache, dx, _, _, rfl, h1, T.cl_Cache, T.na_Cache__kept, cf_look_k _ _, ?_⟩
    refine ⟨_, rfl, c, dx, _, rfl, h1, S, c, n, es, rfl, hC2, hE, fun H3 p3 o3 xs3 s3 hp3 ho3 hx3 => ?_⟩
    obtain ⟨j, hj1, hj2⟩ := place_of he
    have s13 := (s1.trans s2).trans s3
    refine ⟨⟨p3, o3, xs3, rfl, hp3, ho3⟩, _, rfl, ?_⟩
    refine ⟨p3, xs3, ds es, v, d, j, rfl, rfl, .inl (.inr ⟨o3, hp3⟩), hx3, hv _ s13.but, hE.marks.shaped.2, hd.shaped, hj1, ?_⟩
    have hjl : j < ps.length := by
      rw [h3.length]
      exact (List.getElem?_eq_some_iff.mp hj2).1
    have hpj := List.getElem?_eq_getElem hjl
    obtain ⟨a, m, e', ea, he', st⟩ := h3.get hpj
    rw [hj2] at he'
    cases he'
    rw [ea] at hpj
    refine ⟨kl, ps, j, .ref a, rfl, rfl, s3.sqL h2.now, atI_nat hpj, a, [m, e.r], 1, e.r, rfl, rfl, s3.sqT st.now.1, rfl, ?_⟩
    have hC3 := hC2.same s3
    obtain ⟨dx', kl', ps', h1', _⟩ := id hC3
    refine ⟨_, rfl, c, dx', _, rfl, h1', cf_no _ _ (by decide +kernel) (by decide +kernel), _, rfl, _, rfl, ?_⟩
    refine ⟨S, c, n, es, v, e.r, d, rfl, hc, hO.same s13, hC3, hE, hv.keep s13.but, hd, fun H4 k4 hC4 => ?_⟩
    rw [use_found hE he hed] at hC4
    exact ⟨_, rfl, q1 e he hed H4 (s13.but.trans k4) hC4⟩
end
end K83
namespace K83
open PySem PySem.Spec PyProof.Rows L2
/-! ### the urn: three ints -/
def Urn (H : Hp) (u : Addr) : Prop := ∃ a b c : Int, H u = some (.lst [.int a, .int b, .int c])
def spUrn (K : PySem.W.Frag) : Sp := fun vs H Q _ => ∃ (a : Addr) (ns : List Int) (lap : Int), vs = [.ref a, .int lap] ∧ 0 ≤ lap ∧ SqL K H a (ns.map V.int) ∧ ∀ u H', Same H H' → H u = none → Urn H' u → Q (.ref u) H'
def spTake : Sp := fun vs H Q _ => ∃ (u : Addr) (many : Int), vs = [.ref u, .int many] ∧ 0 < many ∧ many < 1073741824 ∧ Urn H u ∧ ∀ k H', 0 ≤ k → k < many → Urn H' u → But (· = u) H H' → Q (.int k) H'
theorem cutV_mem {xs : List V} {lo hi : Option Int} {x : V} (h : x ∈ cutV xs lo hi) : x ∈ xs := List.mem_of_mem_drop (List.mem_of_mem_take h)
theorem Urn.tupK {H H' : Hp} {u : Addr} (hu : Urn H u) (k : But (· = u) H H') : TupK H H' := by
  obtain ⟨a, b, c, hu⟩ := hu
  exact k.tupK fun x ys e => by rw [e]; exact not_tup_lst hu
theorem Urn.new {H : Hp} {u p : Addr} {o : HO} (hu : Urn H u) (hp : H p = none) : Urn (upd H p o) u := by
  obtain ⟨a, b, c, hu⟩ := hu
  exact ⟨a, b, c, Same.new hp _ _ hu⟩
theorem Urn.same {H H' : Hp} {u : Addr} (hu : Urn H u) (k : Same H H') : Urn H' u := by
  obtain ⟨a, b, c, hu⟩ := hu
  exact ⟨a, b, c, k _ _ hu⟩
theorem Urn.ne {H : Hp} {u p : Addr} (hu : Urn H u) (hp : H p = none) : p ≠ u := fun e => by
  obtain ⟨a, b, c, hu⟩ := hu
  rw [e, hu] at hp
  cases hp
def spOf (K : PySem.W.Frag) : Sp := fun vs H Q _ => ∃ (u p : Addr) (xs : List V), vs = [.ref u, .ref p] ∧ p ≠ u ∧ SqL K H p xs ∧ 0 < xs.length ∧ xs.length < 1073741824 ∧ Urn H u ∧ ∀ (i : Nat) v H', xs[i]? = some v → Urn H' u → But (· = u) H H' → Q v H'
/-- new things, one behind the other -/
def Laid (l : List (Addr × HO)) (H0 H : Hp) : Prop := Same H0 H ∧ ∀ p ∈ l, H0 p.1 = none ∧ H p.1 = some p.2
theorem Laid.nil (H : Hp) : Laid [] H H := ⟨Same.refl H, fun _ h => by cases h⟩
theorem Laid.step {l : List (Addr × HO)} {H0 H : Hp} (h : Laid l H0 H) {p : Addr} {o : HO} (hp : H p = none) : Laid ((p, o) :: l) H0 (upd H p o) :=
  ⟨h.1.step hp, fun q hq => by
    rcases List.mem_cons.mp hq with e | hq
    · rw [e]
      exact ⟨h.1.free hp, upd_same⟩
    · exact ⟨(h.2 q hq).1, Same.new hp _ _ (h.2 q hq).2⟩⟩
section
variable {P : Program} {w : World} {K : PySem.W.Frag} {mg : Str → Option Value} {base : Heap}
theorem ok_law_take (T : Txt P K mg) : FnOk P w K mg base CX0 1 T.f_law_take T.d_law_take ["urn", "many"] spTake := by
  refine T.F_law_take.ok sc_law_take (fun vs H Q E h => by obtain ⟨u, many, rfl, _⟩ := h; rfl) (fun cdv A outer s H vs Q E hr h => ⟨_, (pss_cons (ps_if (pt_cmpR op_gt (pe_ix ix_list (pv 0) pe_int (fun _ _ => rfl)) pe_int (nomark _))
      (pss_cons (ps_asg (pe_callB call_divmod rfl T.z_divmod (by decide +kernel) (pa_cons (pe_ix ix_list (pv 0) pe_int (fun _ _ => rfl)) (pa_cons (pv 1) pa_nil))) (pg_tup rfl (pgs_cons (pg_sub (pv 0) pe_int set_list) (pgs_cons (pg_name (i := 2) sc_law_take.nd rfl (by first | exact Or.inl rfl | exact Or.inr rfl)) pgs_nil))))
      (pss_one (ps_ret (pv 2)))) pss_nil)
      (pss_cons (ps_asg (pe_op op_add (pe_ix ix_list (pv 0) pe_int (fun _ _ => rfl)) pe_int) (pg_sub (pv 0) pe_int set_list))
      (pss_cons (ps_set (i := 3) sc_law_take.nd rfl (Or.inl rfl) (pe_op op_mod (pe_callTy call_int1 rfl T.z_int (by decide +kernel) (pa_cons (pe_op op_add (pe_op op_mul (pe_ix ix_list (pv 0) pe_int (fun _ _ => rfl)) pe_int) (pe_op op_mul pe_int (pe_ix ix_list (pv 0) pe_int (fun _ _ => rfl)))) pa_nil)) pe_int))
      (pss_cons (ps_asg (pe_op op_mod (pe_callTy call_int1 rfl T.z_int (by decide +kernel) (pa_cons (pe_op op_add (pe_op op_mul (pv 3) (pe_op op_add (pe_op op_mod (pe_callTy call_int1 rfl T.z_int (by decide +kernel) (pa_cons (pv 3) pa_nil)) pe_int) pe_int)) (pe_op op_mul pe_int (pe_ix ix_list (pv 0) pe_int (fun _ _ => rfl)))) pa_nil)) pe_int) (pg_sub (pv 0) pe_int set_list))
      (pss_one (ps_ret (pe_op op_mod (pe_callTy call_int1 rfl T.z_int (by decide +kernel) (pa_cons (pe_op op_fdiv (pe_ix ix_list (pv 0) pe_int (fun _ _ => rfl)) pe_int) pa_nil)) (pv 1)))))))), ?_⟩)
  obtain ⟨u, many, rfl, h1, h2, ⟨a, b, c, hu⟩, q⟩ := h
  refine ⟨_, rfl, u, _, _, _, rfl, rfl, .of hu, rfl, _, _, rfl, rfl, _, rfl, ?_⟩
  refine ite2 (fun hc => ?_) (fun hc => ?_)
  · refine ⟨_, rfl, u, _, _, _, rfl, rfl, .of hu, rfl, _, rfl, a, many, rfl, ?_, fun p hp => ?_⟩
    · exact ⟨h1, h2⟩
    · have n1 : u ≠ p := ne_of_none hu hp
      refine ⟨p, _, rfl, .of upd_same, rfl, ?_⟩
      refine ⟨_, _, rfl, ⟨_, rfl, u, _, _, 0, rfl, rfl, (by rw [upd_ne n1]; exact hu), rfl, ?_⟩⟩
      refine ⟨_, _, rfl, rfl, ?_⟩
      refine ⟨_, rfl, q _ _ (Int.emod_nonneg _ (by omega)) (Int.emod_lt_of_pos _ h1) ⟨_, _, _, upd_same⟩ ?_⟩
      exact ((Same.new hp).but (S := (· = u))).put rfl
  · refine ⟨_, rfl, u, _, _, _, rfl, rfl, .of hu, rfl, _, _, rfl, rfl, ?_⟩
    refine ⟨_, rfl, u, _, _, 2, rfl, rfl, hu, rfl, ?_⟩
    refine ⟨_, rfl, u, _, _, _, rfl, rfl, .of upd_same, rfl, _, _, rfl, rfl, .inr ⟨by decide, by decide⟩, _, rfl, u, _, _, _, rfl, rfl, .of upd_same, rfl, _, _, rfl, rfl, .inl ⟨by decide, by decide⟩, _, _, rfl, rfl, .inl ⟨_, rfl, ?_⟩⟩
    refine ⟨_, _, rfl, rfl, (by show (0 : Int) < 2147483629; decide), ?_⟩
    refine ⟨_, rfl, _, rfl, .inl ⟨_, rfl, _, _, rfl, rfl, (by show (0 : Int) < 5003; decide), _, _, rfl, rfl, _, _, rfl, rfl, .inr ?_, ?_⟩⟩
    · have hb : ∀ z : Int, 0 ≤ z % 5003 ∧ z % 5003 < 5003 := fun z => ⟨Int.emod_nonneg _ (by decide), Int.emod_lt_of_pos _ (by decide)⟩
      constructor
      · have := (hb ((b * 40009 + 15013 * (c + 1)) % 2147483629)).1
        show (-(2 ^ 64) : Int) < (b * 40009 + 15013 * (c + 1)) % 2147483629 % 5003 + 30011
        omega
      · have := (hb ((b * 40009 + 15013 * (c + 1)) % 2147483629)).2
        show (b * 40009 + 15013 * (c + 1)) % 2147483629 % 5003 + 30011 < (2 ^ 64 : Int)
        omega
    · refine ⟨_, rfl, u, _, _, _, rfl, rfl, .of upd_same, rfl, _, _, rfl, rfl, .inl ⟨by decide, by decide⟩, _, _, rfl, rfl, .inl ⟨_, rfl, _, _, rfl, rfl, (by show (0 : Int) < 2147483629; decide), ?_⟩⟩
      refine ⟨_, rfl, u, _, _, 1, rfl, rfl, upd_same, rfl, ?_⟩
      refine ⟨_, rfl, u, _, _, _, rfl, rfl, .of upd_same, rfl, _, _, rfl, rfl, ⟨by decide, by decide⟩, .inl ⟨_, rfl, _, rfl, _, _, rfl, rfl, h1, ?_⟩⟩
      refine q _ _ (Int.emod_nonneg _ (by omega)) (Int.emod_lt_of_pos _ h1) ⟨_, _, _, upd_same⟩ ?_
      exact (But.set (S := (· = u)) rfl).put rfl
theorem ok_law_urn (T : Txt P K mg) : FnOk P w K mg base CX0 1 T.f_law_urn T.d_law_urn ["script", "lap"] (spUrn K) := by
  refine T.F_law_urn.ok sc_law_urn (fun vs H Q E h => by obtain ⟨a, ns, lap, rfl, _⟩ := h; rfl) (fun cdv A outer s H vs Q E hr h => ⟨_, (pss_cons (ps_set (i := 2) sc_law_urn.nd rfl (Or.inl rfl) (pe_op op_add pe_int (pe_op op_mul pe_int (pv 1))))
      (pss_cons (ps_for PassesOwn.never rfl (pi_list (pe_slice sl_list (pv 0) po_none (po_some pe_int))) (pg_name (i := 3) sc_law_urn.nd rfl (by first | exact Or.inl rfl | exact Or.inr rfl))
      (pss_one (ps_set (i := 2) sc_law_urn.nd rfl (Or.inl rfl) (pe_op op_mod (pe_callTy call_int1 rfl T.z_int (by decide +kernel) (pa_cons (pe_op op_add (pe_op op_add (pe_op op_mul (pv 2) pe_int) (pe_op op_mul (pe_op op_mod (pe_callTy call_int1 rfl T.z_int (by decide +kernel) (pa_cons (pv 3) pa_nil)) pe_int) pe_int)) pe_int) pa_nil)) pe_int))))
      (pss_cons (ps_set (i := 4) sc_law_urn.nd rfl (Or.inl rfl) (pe_ifExp (pt_cmpR op_lt (pv 1) (pe_callB call_len_seq rfl T.z_len (by decide +kernel) (pa_cons (pv 0) pa_nil)) (nomark _)) (pe_callTy call_int1 rfl T.z_int (by decide +kernel) (pa_cons (pe_ix ix_list (pv 0) (pv 1) (fun _ _ => rfl)) pa_nil)) pe_int))
      (pss_cons (ps_set (i := 2) sc_law_urn.nd rfl (Or.inl rfl) (pe_op op_mod (pe_callTy call_int1 rfl T.z_int (by decide +kernel) (pa_cons (pe_op op_add (pe_op op_add (pe_op op_mul (pv 2) pe_int) (pe_op op_mul (pe_op op_mod (pe_callTy call_int1 rfl T.z_int (by decide +kernel) (pa_cons (pv 4) pa_nil)) pe_int) pe_int)) pe_int) pa_nil)) pe_int))
      (pss_one (ps_ret (pe_lst (pa_cons (pe_ifExp (PW.pt (pw_or (pt_cmpR op_lt (pv 4) pe_int (nomark _)) (pw_or1 (pt_cmpR op_ge (pv 4) (pe_op op_pow pe_int pe_int) (nomark _))))) (pe_callB call_abs rfl T.z_abs (by decide +kernel) (pa_cons (pv 4) pa_nil)) pe_int) (pa_cons (pv 2) (pa_cons pe_int pa_nil)))))))))), ?_⟩)
  obtain ⟨a, ns, lap, rfl, h0, h1, q⟩ := h
  refine ⟨_, rfl, _, _, rfl, rfl, .inl ⟨by decide, by decide⟩, _, _, rfl, rfl, ?_⟩
  refine ⟨_, rfl, _, rfl, a, _, rfl, h1, fun l hl => ⟨l, rfl, ⟨_, .of upd_same⟩, ?_⟩⟩
  refine for_list (K := K) (a := l) (xs := cutV (ns.map V.int) none (some 9)) (fun i σ H' => ∃ (st : Int) (cv : Option V), σ = [some (.ref a), some (.int lap), some (.int st), cv, none] ∧ H' = upd H l (.lst (cutV (ns.map V.int) none (some 9)))) ⟨_, none, rfl, rfl⟩ (fun i σ H' _ ⟨st, cv, _, e⟩ => by rw [e]; exact .of upd_same) ?_ ?_
  · rintro i x σ H' hi ⟨st, cv, rfl, rfl⟩
    obtain ⟨z, hz, rfl⟩ : ∃ z, z ∈ ns ∧ V.int z = x := List.mem_map.mp (cutV_mem (List.mem_of_getElem? hi))
    refine ⟨_, rfl, _, _, rfl, rfl, .inr ⟨by decide, by decide⟩, _, rfl, .inl ⟨_, rfl, _, _, rfl, rfl, (by show (0 : Int) < 2147483477; decide), _, _, rfl, rfl, .inr ⟨by decide, by decide⟩, _, _, rfl, rfl, _, _, rfl, rfl, .inl ⟨_, rfl, _, _, rfl, rfl, (by show (0 : Int) < 2147483629; decide), ?_⟩⟩⟩
    exact ⟨_, _, rfl, rfl⟩
  · rintro σ H' ⟨st, cv, rfl, rfl⟩
    have sm : Same H (upd H l (.lst (cutV (ns.map V.int) none (some 9)))) := Same.new hl
    have h1' := sm.seq h1
    refine ⟨_, rfl, _, rfl, a, _, rfl, .inl h1', _, _, rfl, rfl, _, rfl, ?_⟩
    refine ite2 (fun hc => ?_) (fun hc => ?_)
    · have hlt : lap < ((ns.map V.int).length : Int) := of_decide_eq_true hc
      rw [List.length_map] at hlt
      have hat : (ns.map V.int)[lap.toNat]? = some (.int (ns[lap.toNat]'(by omega))) := by
        rw [List.getElem?_map, List.getElem?_eq_getElem (by omega)]
        rfl
      have hat2 := atI_nat hat
      rw [show ((lap.toNat : Nat) : Int) = lap by omega] at hat2
      refine ⟨_, rfl, _, rfl, a, _, _, _, rfl, rfl, h1', hat2, .inl ⟨_, rfl, ?_⟩⟩
      generalize ns[lap.toNat]'(by omega) = own
      refine ⟨_, rfl, _, _, rfl, rfl, .inr ⟨by decide, by decide⟩, _, rfl, .inl ⟨_, rfl, _, _, rfl, rfl, (by show (0 : Int) < 2147483477; decide), _, _, rfl, rfl, .inr ⟨by decide, by decide⟩, _, _, rfl, rfl, _, _, rfl, rfl, .inl ⟨_, rfl, _, _, rfl, rfl, (by show (0 : Int) < 2147483629; decide), ?_⟩⟩⟩
      refine ⟨_, rfl, _, _, rfl, rfl, _, rfl, ?_⟩
      refine ite2 (fun hd => ?_) (fun hd => ?_)
      · refine ⟨_, rfl, _, rfl, _, rfl, ?_⟩
        exact ⟨by show 3 ≤ sizeLine; decide, fun u hu => q u _ (sm.step hu) (by rw [upd_ne (fun e => by rw [e, upd_same] at hu; cases hu)] at hu; exact hu) ⟨_, _, _, upd_same⟩⟩
      · refine ⟨_, rfl, _, _, rfl, rfl, (by show (0 : Int) ≤ 15 ∧ (15 : Int) ≤ 1000000 ∧ (10 : Int).natAbs < 2 ^ 64; decide), _, _, rfl, rfl, _, rfl, ?_⟩
        refine ite2 (fun he => ?_) (fun he => ?_)
        · refine ⟨_, rfl, _, rfl, _, rfl, ?_⟩
          exact ⟨by show 3 ≤ sizeLine; decide, fun u hu => q u _ (sm.step hu) (by rw [upd_ne (fun e => by rw [e, upd_same] at hu; cases hu)] at hu; exact hu) ⟨_, _, _, upd_same⟩⟩
        · refine ⟨_, rfl, ?_⟩
          exact ⟨by show 3 ≤ sizeLine; decide, fun u hu => q u _ (sm.step hu) (by rw [upd_ne (fun e => by rw [e, upd_same] at hu; cases hu)] at hu; exact hu) ⟨_, _, _, upd_same⟩⟩
    · refine ⟨_, rfl, _, _, rfl, rfl, .inr ⟨by decide, by decide⟩, _, rfl, .inl ⟨_, rfl, _, _, rfl, rfl, (by show (0 : Int) < 2147483477; decide), _, _, rfl, rfl, .inr ⟨by decide, by decide⟩, _, _, rfl, rfl, _, _, rfl, rfl, .inl ⟨_, rfl, _, _, rfl, rfl, (by show (0 : Int) < 2147483629; decide), ?_⟩⟩⟩
      refine ⟨_, rfl, _, _, rfl, rfl, _, rfl, ?_⟩
      refine ite2 (fun hd => ?_) (fun hd => ?_)
      · refine ⟨_, rfl, _, rfl, _, rfl, ?_⟩
        exact ⟨by show 3 ≤ sizeLine; decide, fun u hu => q u _ (sm.step hu) (by rw [upd_ne (fun e => by rw [e, upd_same] at hu; cases hu)] at hu; exact hu) ⟨_, _, _, upd_same⟩⟩
      · refine ⟨_, rfl, _, _, rfl, rfl, (by show (0 : Int) ≤ 15 ∧ (15 : Int) ≤ 1000000 ∧ (10 : Int).natAbs < 2 ^ 64; decide), _, _, rfl, rfl, _, rfl, ?_⟩
        refine ite2 (fun he => ?_) (fun he => ?_)
        · refine ⟨_, rfl, _, rfl, _, rfl, ?_⟩
          exact ⟨by show 3 ≤ sizeLine; decide, fun u hu => q u _ (sm.step hu) (by rw [upd_ne (fun e => by rw [e, upd_same] at hu; cases hu)] at hu; exact hu) ⟨_, _, _, upd_same⟩⟩
        · refine ⟨_, rfl, ?_⟩
          exact ⟨by show 3 ≤ sizeLine; decide, fun u hu => q u _ (sm.step hu) (by rw [upd_ne (fun e => by rw [e, upd_same] at hu; cases hu)] at hu; exact hu) ⟨_, _, _, upd_same⟩⟩
theorem ok_law_of (T : Txt P K mg) : FnOk P w K mg base CX0 2 T.f_law_of T.d_law_of ["urn", "some"] (spOf K) := by
  refine T.F_law_of.ok sc_law_of (fun vs H Q E h => by obtain ⟨u, p, xs, rfl, _⟩ := h; rfl) (fun cdv A outer s H vs Q E hr h => ⟨_, (pss_one (ps_ret (pe_ix ix_list (pv 1) (pe_call (ok_law_take T) (hr.mono (by omega)) rfl T.g__law_take T.F_law_take.kp T.b_law_take .nil pass0 (pa_cons (pv 0) (pa_cons (pe_callB call_len_seq rfl T.z_len (by decide +kernel) (pa_cons (pv 1) pa_nil)) pa_nil))) (fun _ _ => rfl)))), ?_⟩)
  obtain ⟨u, p, xs, rfl, h0, h1, h2, h3, hu, q⟩ := h
  refine ⟨_, rfl, _, rfl, _, rfl, p, _, rfl, .inl h1, u, _, rfl, by omega, by omega, hu, fun k H' k1 k2 hu' kb => ?_⟩
  obtain ⟨n, rfl⟩ : ∃ n : Nat, k = n := ⟨k.toNat, by omega⟩
  have hat : xs[n]? = some xs[n] := List.getElem?_eq_getElem (by omega)
  exact ⟨p, _, _, _, rfl, rfl, kb.sqL h0 h1, atI_nat hat, q n _ _ hat hu' kb⟩
end
end K83
namespace K83
open PySem PySem.Spec PyProof.Rows L2
/-! ### drawn marks -/
/-- what needs no heap -/
def Atom (v : V) : Prop := ∃ d, (∀ K H, Dp K H v d) ∧ mkB d = true ∧ d.depth = 0
theorem atom_non : Atom .non := ⟨_, fun _ _ => .non, rfl, rfl⟩
theorem atom_int {i : Int} (h : okInt i = true) : Atom (.int i) := ⟨_, fun _ _ => .int i, by simpa only [mkB] using h, rfl⟩
theorem atom_str {s : Str} (h : okWord s = true) : Atom (.str s) := ⟨_, fun _ _ => .str s, by simpa only [mkB] using h, rfl⟩
theorem okInt5 : ∀ m : Fin 9, okInt ((m.val : Int) - 4) = true := by decide +kernel
theorem okInt_small {i : Int} (h1 : -4 ≤ i) (h2 : i ≤ 4) : okInt i = true := by
  have z := okInt5 ⟨(i + 4).toNat, by omega⟩
  rw [show (((i + 4).toNat : Nat) : Int) - 4 = i by omega] at z
  exact z
theorem okInt_big : okInt ((10 : Int) ^ 30) = true := by decide +kernel
def spDMark (K : PySem.W.Frag) (n : Nat) : Sp := fun vs H Q _ => ∃ (u : Addr) (deep : Nat), vs = [.ref u, .int deep] ∧ deep < n ∧ Urn H u ∧ ∀ p ds H', Dp K H' (.ref p) (.tuple ds) → Put (deep + 1) (.tuple ds) → But (· = u) H H' → Urn H' u → Q (.ref p) H'
theorem TupK.lst {H : Hp} {f : Addr} {xs : List V} {o : HO} (e : H f = some (.lst xs)) : TupK H (upd H f o) := But.tupK (S := (· = f)) (But.set rfl) fun a ys ha => by rw [ha]; exact not_tup_lst e
theorem seq_by {t1 t2 : TS} {D : Ends} {σ : L2.St} {H : Hp} (I : L2.St → Hp → Prop) (h1 : ∀ N : L2.St → Hp → Prop, (∀ σ' H', I σ' H' → N σ' H') → t1 { D with nx := N } σ H) (h2 : ∀ σ' H', I σ' H' → t2 D σ' H') : tSeq t1 t2 D σ H := h1 _ h2
theorem gname_of {i : Nat} {v : V} {σ : L2.St} {H : Hp} {Q : L2.St → Hp → Prop} (h : Q (σ.set i (some v)) H) : gName i v σ H Q := h
/-- x = e, then the rest -/
theorem asg_by {te : TE} {i : Nat} {t2 : TS} {D : Ends} {σ : L2.St} {H : Hp} (I : V → Hp → Prop) (h1 : ∀ Q : VK, (∀ v H', I v H' → Q v H') → te σ H Q) (h2 : ∀ v H', I v H' → t2 D (σ.set i (some v)) H') : tSeq (tAsg te (gName i)) t2 D σ H := h1 _ h2
/-- the marks found so far -/
structure Fnd (K : PySem.W.Frag) (H H' : Hp) (u f : Addr) (deep i : Nat) (xs : List V) (ds : List PyData) : Prop where
  ln : ds.length ≤ i
  dp : DpAll K H' xs ds
  ef : H' f = some (.lst xs)
  ok : ∀ d ∈ ds, Put deep d
  kb : But (· = u) H H'
  ur : Urn H' u
theorem Fnd.imm {K : PySem.W.Frag} {H H' : Hp} {u f : Addr} {deep i : Nat} {xs : List V} {ds : List PyData} (h : Fnd K H H' u f deep i xs ds) : immAll ds = true := (mk_immAll ds (mkAll_of fun d hd => (h.ok d hd).ok)).1
theorem Fnd.step {K : PySem.W.Frag} {H H' H2 : Hp} {u f : Addr} {deep i : Nat} {xs : List V} {ds : List PyData} {v : V} {d : PyData} (h : Fnd K H H' u f deep i xs ds) (hf : H f = none) (nu : u ≠ f) (k : But (· = u) H' H2) (u2 : Urn H2 u) (hv : Dp K H2 v d) (hd : Put deep d) : H2 f = some (.lst xs) ∧ Fnd K H (upd H2 f (.lst (xs ++ [v]))) u f deep (i + 1) (xs ++ [v]) (ds ++ [d]) := by
  have ef2 := k f _ nu.symm h.ef
  refine ⟨ef2, ?_, ?_, upd_same, ?_, (h.kb.trans k).own hf, ?_⟩
  · have := h.ln
    rw [List.length_append]
    show ds.length + 1 ≤ i + 1
    omega
  · have t := (h.ur.tupK k).trans (TupK.lst (o := .lst (xs ++ [v])) ef2)
    exact DpAll.app (Dp.keepAll t _ _ h.imm h.dp) (.cons (Dp.keep (TupK.lst ef2) _ _ (mk_imm d hd.ok).1 hv) .nil)
  · intro e he
    rcases List.mem_append.mp he with he | he
    · exact h.ok e he
    · rw [List.mem_singleton] at he
      rw [he]; exact hd
  · obtain ⟨a, b, c, z⟩ := u2
    exact ⟨a, b, c, by rw [upd_ne nu]; exact z⟩
section
variable {P : Program} {w : World} {K : PySem.W.Frag} {mg : Str → Option Value} {base : Heap}
theorem ok_law_mark (T : Txt P K mg) : ∀ n : Nat, FnOk P w K mg base CX0 (n + 2) T.f_law_mark T.d_law_mark ["urn", "deep"] (spDMark K n)
  | 0 => ⟨fun vs H Q E h => by obtain ⟨u, deep, _, h, _⟩ := h; omega, fun A outer s H args us vs Q E _ _ _ _ h => by obtain ⟨u, deep, _, h, _⟩ := h; omega⟩
  | n + 1 => by
    have G := ok_law_mark T n
    refine T.F_law_mark.ok sc_law_mark (fun vs H Q E h => by obtain ⟨u, deep, rfl, _⟩ := h; rfl) (fun cdv A outer s H vs Q E hr h => ⟨_, (pss_cons (ps_set (i := 2) sc_law_mark.nd rfl (Or.inl rfl) (pe_lst pa_nil))
      (pss_cons (ps_for PassesOwn.never rfl (pi_range1 rfl T.z_range (pa_cons (pe_call (ok_law_take T) (hr.mono (by omega)) rfl T.g__law_take T.F_law_take.kp T.b_law_take .nil pass0 (pa_cons (pv 0) (pa_cons pe_int pa_nil))) pa_nil)) (pg_name (i := 3) sc_law_mark.nd rfl (by first | exact Or.inl rfl | exact Or.inr rfl))
      (pss_cons (ps_set (i := 4) sc_law_mark.nd rfl (Or.inl rfl) (pe_ifExp (pt_cmpR op_gt (pv 1) pe_int (nomark _)) (pe_call (ok_law_take T) (hr.mono (by omega)) rfl T.g__law_take T.F_law_take.kp T.b_law_take .nil pass0 (pa_cons (pv 0) (pa_cons pe_int pa_nil))) (pe_call (ok_law_take T) (hr.mono (by omega)) rfl T.g__law_take T.F_law_take.kp T.b_law_take .nil pass0 (pa_cons (pv 0) (pa_cons pe_int pa_nil)))))
      (pss_one (ps_if (pt_cmpR op_lt (pv 4) pe_int (nomark _))
      (pss_cons (ps_set (i := 5) sc_law_mark.nd rfl (Or.inl rfl) (pe_call (ok_law_of T) (hr.mono (by omega)) rfl T.g__law_of T.F_law_of.kp T.b_law_of .nil pass0 (pa_cons (pv 0) (pa_cons (pe_lst (pa_cons (pe_call (ok_law_take T) (hr.mono (by omega)) rfl T.g__law_take T.F_law_take.kp T.b_law_take .nil pass0 (pa_cons (pv 0) (pa_cons pe_int pa_nil))) (pa_cons (pe_op op_sub pe_int (pe_call (ok_law_take T) (hr.mono (by omega)) rfl T.g__law_take T.F_law_take.kp T.b_law_take .nil pass0 (pa_cons (pv 0) (pa_cons pe_int pa_nil)))) (pa_cons (pe_op op_pow pe_int pe_int) pa_nil)))) pa_nil))))
      (pss_cons (ps_set (i := 6) sc_law_mark.nd rfl (Or.inl rfl) (pe_call (ok_law_of T) (hr.mono (by omega)) rfl T.g__law_of T.F_law_of.kp T.b_law_of .nil pass0 (pa_cons (pv 0) (pa_cons (pe_lst (pa_cons pe_str (pa_cons pe_str (pa_cons pe_str (pa_cons pe_str (pa_cons pe_str pa_nil)))))) pa_nil))))
      (pss_one (ps_expr (pe_bm PySem.F.plainAttrs_list PySem.F.slot_list_append PySem.F.type_list_append mt_append (pv 2) (pa_cons (pe_ix ix_list (pe_lst (pa_cons pe_non (pa_cons (pv 5) (pa_cons (pv 6) (pa_cons (pe_call (ok_law_of T) (hr.mono (by omega)) rfl T.g__law_of T.F_law_of.kp T.b_law_of .nil pass0 (pa_cons (pv 0) (pa_cons (pe_lst (pa_cons pe_int (pa_cons pe_int (pa_cons pe_str (pa_cons pe_str pa_nil))))) pa_nil))) pa_nil))))) (pv 4) (fun _ _ => rfl)) pa_nil)))))) (pss_one (ps_expr (pe_bm PySem.F.plainAttrs_list PySem.F.slot_list_append PySem.F.type_list_append mt_append (pv 2) (pa_cons (pe_call G hr rfl T.g__law_mark T.F_law_mark.kp T.b_law_mark .nil pass0 (pa_cons (pv 0) (pa_cons (pe_op op_sub (pv 1) pe_int) pa_nil))) pa_nil))))))))
      (pss_one (ps_ret (pe_callTy call_tuple_of rfl T.z_tuple (by decide +kernel) (pa_cons (pv 2) pa_nil)))))), ?_⟩)
    obtain ⟨u, deep, rfl, hdeep, hu, q⟩ := h
    refine ⟨Nat.zero_le _, fun f hf => ?_⟩
    obtain ⟨a0, b0, c0, hu0⟩ := id hu
    have n1 : u ≠ f := ne_of_none hu0 hf
    refine ⟨_, rfl, u, 4, rfl, by decide, by decide, hu.new hf, fun many H1 k1 k2 hu1 b1 => ?_⟩
    refine ⟨many, rfl, by omega, by omega, ?_⟩
    have hb1 : But (· = u) H H1 := ((Same.new (o := .lst []) hf).but).trans b1
    refine for_range (lo := 0) (n := many.toNat) (fun i σ H' => ∃ (x3 x4 x5 x6 : Option V) (xs : List V) (ds : List PyData), σ = [some (.ref u), some (.int deep), some (.ref f), x3, x4, x5, x6] ∧ Fnd K H H' u f deep i xs ds)
      ⟨none, none, none, none, [], [], rfl, Nat.zero_le _, .nil, b1 f _ n1.symm upd_same, (fun d hd => by cases hd), hb1, hu1⟩ ?_ ?_
    · rintro i σ H0 hi ⟨x3, x4, x5, x6, xs, ds, rfl, hF⟩
      have hxl : xs.length < sizeLine := by
        rw [DpAll.length hF.dp]
        have := hF.ln
        exact Nat.lt_of_le_of_lt (show _ ≤ 4 by omega) (by decide)
      refine gname_of ?_
      dsimp only
      refine asg_by (fun v H2 => ∃ k : Int, v = .int k ∧ 0 ≤ k ∧ k < 6 ∧ (deep = 0 → k < 4) ∧ Urn H2 u ∧ But (· = u) H0 H2) ?_ ?_
      · intro Q1 rest
        refine ⟨_, rfl, _, _, rfl, rfl, _, rfl, ?_⟩
        refine ite2 (fun hc => ?_) (fun hc => ?_)
        · have hc' : (0 : Int) < (deep : Int) := of_decide_eq_true hc
          refine ⟨_, rfl, u, 6, rfl, by decide, by decide, hF.ur, fun k H2 k1 k2 u2 b2 => rest _ _ ⟨k, rfl, k1, k2, fun z => by omega, u2, b2⟩⟩
        · refine ⟨_, rfl, u, 4, rfl, by decide, by decide, hF.ur, fun k H2 k1 k2 u2 b2 => rest _ _ ⟨k, rfl, k1, by omega, fun _ => k2, u2, b2⟩⟩
      rintro v H2 ⟨k, rfl, k1, k2, k3, u2, b2⟩
      refine ⟨_, rfl, _, _, rfl, rfl, _, rfl, ?_⟩
      refine ite2 (fun hc => ?_) (fun hc => ?_)
      · have k4 : k < 4 := of_decide_eq_true hc
        refine asg_by (fun v H3 => Atom v ∧ Urn H3 u ∧ But (· = u) H0 H3) ?_ ?_
        · intro Q1 rest
          refine ⟨_, rfl, _, rfl, u, 5, rfl, by decide, by decide, u2, fun z1 H3 z2 z3 u3 b3 => ?_⟩
          refine ⟨_, rfl, u, 5, rfl, by decide, by decide, u3, fun z4 H4 z5 z6 u4 b4 => ?_⟩
          refine ⟨_, _, rfl, rfl, _, _, rfl, rfl, (by show (0 : Int) ≤ 30 ∧ (30 : Int) ≤ 1000000 ∧ (10 : Int).natAbs < 2 ^ 64; decide), ?_⟩
          refine ⟨by show 3 ≤ sizeLine; decide, fun p hp => ?_⟩
          refine ⟨u, p, _, rfl, u4.ne hp, .of upd_same, by show (0 : Nat) < 3; decide, by show (3 : Nat) < 1073741824; decide, u4.new hp, fun j v H5 hj u5 b5 => rest _ _ ⟨?_, u5, (((b2.trans b3).trans b4).new hp).trans b5⟩⟩
          have hm := List.mem_of_getElem? hj
          simp only [List.mem_cons, List.not_mem_nil, or_false] at hm
          rcases hm with rfl | rfl | rfl
          · exact atom_int (okInt_small (by omega) (by omega))
          · exact atom_int (okInt_small (by omega) (by omega))
          · exact atom_int okInt_big
        rintro vn H3 ⟨an, u3, b3⟩
        refine asg_by (fun v H3 => Atom v ∧ Urn H3 u ∧ But (· = u) H0 H3) ?_ ?_
        · intro Q1 rest
          refine ⟨_, rfl, by show 5 ≤ sizeLine; decide, fun p hp => ?_⟩
          refine ⟨u, p, _, rfl, u3.ne hp, .of upd_same, by decide, by decide, u3.new hp, fun j v H5 hj u5 b5 => rest _ _ ⟨?_, u5, (b3.new hp).trans b5⟩⟩
          have hm := List.mem_of_getElem? hj
          simp only [List.mem_cons, List.not_mem_nil, or_false] at hm
          rcases hm with rfl | rfl | rfl | rfl | rfl <;> exact atom_str (by decide +kernel)
        rintro vw H4 ⟨aw, u4, b4⟩
        have ef4 := b4 f _ n1.symm hF.ef
        refine ⟨_, rfl, .inl ⟨rfl, xs, .of ef4⟩, ?_⟩
        refine ⟨_, rfl, _, rfl, _, rfl, by show 4 ≤ sizeLine; decide, fun p hp => ?_⟩
        refine ⟨u, p, _, rfl, u4.ne hp, .of upd_same, by decide, by decide, u4.new hp, fun j vx H5 hj u5 b5 => ?_⟩
        have ax : Atom vx := by
          have hm := List.mem_of_getElem? hj
          simp only [List.mem_cons, List.not_mem_nil, or_false] at hm
          rcases hm with rfl | rfl | rfl | rfl
          · exact atom_int (by decide +kernel)
          · exact atom_int (by decide +kernel)
          · exact atom_str (by decide +kernel)
          · exact atom_str (by decide +kernel)
        have b5' := (b4.new hp).trans b5
        refine ⟨by show 4 ≤ sizeLine; decide, fun p2 hp2 => ?_⟩
        obtain ⟨kn, rfl⟩ : ∃ kn : Nat, k = kn := ⟨k.toNat, by omega⟩
        obtain ⟨y, hy, ay⟩ : ∃ y, [V.non, vn, vw, vx][kn]? = some y ∧ Atom y := by
          match kn, k4 with
          | 0, _ => exact ⟨_, rfl, atom_non⟩
          | 1, _ => exact ⟨_, rfl, an⟩
          | 2, _ => exact ⟨_, rfl, aw⟩
          | 3, _ => exact ⟨_, rfl, ax⟩
          | m + 4, h => exact absurd h (by omega)
        refine ⟨_, rfl, p2, _, _, y, rfl, rfl, .of upd_same, atI_nat hy, ?_⟩
        obtain ⟨d, ad1, ad2, ad3⟩ := ay
        have b6 := b5'.new (o := .lst [V.non, vn, vw, vx]) hp2
        obtain ⟨ef6, F2⟩ := hF.step hf n1 b6 (u5.new hp2) (ad1 K _) ⟨ad2, by omega⟩
        exact ⟨f, xs, _, rfl, rfl, ef6, hxl, _, _, _, _, _, _, rfl, F2⟩
      · have ef2 := b2 f _ n1.symm hF.ef
        have k4 : ¬ k < 4 := fun z => hc (decide_eq_true z)
        obtain ⟨dp, rfl⟩ : ∃ dp, deep = dp + 1 := ⟨deep - 1, by have := fun z => k4 (k3 z); omega⟩
        refine ⟨_, rfl, .inl ⟨rfl, xs, .of ef2⟩, ?_⟩
        refine ⟨_, rfl, _, rfl, _, _, rfl, rfl, ?_⟩
        refine ⟨u, dp, congrArg (fun z : Int => [V.ref u, V.int z]) (by omega), by omega, u2, fun p ds' H3 hp hput b3 u3 => ?_⟩
        obtain ⟨ef6, F2⟩ := hF.step hf n1 (b2.trans b3) u3 hp hput
        exact ⟨f, xs, _, rfl, rfl, ef6, hxl, _, _, _, _, _, _, rfl, F2⟩
    · rintro σ H0 ⟨x3, x4, x5, x6, xs, ds, rfl, hF⟩
      refine ⟨_, rfl, f, xs, rfl, .inl ⟨.of hF.ef, fun p hp => ?_⟩⟩
      have hall : mkAll ds = true := mkAll_of fun d hd => (hF.ok d hd).ok
      have hl := hF.ln
      refine q p ds _ (.tup (.of upd_same) (Dp.keepAll (Same.new hp).tupK _ _ hF.imm hF.dp)) ⟨?_, ?_⟩ (hF.kb.new hp) (hF.ur.new hp)
      · simp only [mkB, Bool.and_eq_true]
        exact ⟨decide_eq_true (by omega), hall⟩
      · have := depthAll_le (n := deep) fun d hd => (hF.ok d hd).dp
        simp only [PyData.depth]
        omega
end
end K83
namespace K83
open PySem PySem.Spec PyProof.Rows L2
/-! ### rows of any kind -/
structure Shw (rd : PyData) : Prop where
  sh : rd.showable = true
  nd : rd = .dict [] ∨ rd.hasDict = false
  ln : rd.shown.length ≤ sizeLine
  dp : rd.depth ≤ 60
def RowOk (K : PySem.W.Frag) (S : Addr → Prop) (H : Hp) (r : V) : Prop := ∃ rd, Shw rd ∧ Sta S H fun H => DpR K H r rd
theorem RowOk.keep {K : PySem.W.Frag} {S : Addr → Prop} {H H1 : Hp} {r : V} (h : RowOk K S H r) (k : But S H H1) : RowOk K S H1 r := by
  obtain ⟨rd, h1, h2⟩ := h
  exact ⟨rd, h1, h2.keep k⟩
def spRows (K : PySem.W.Frag) : Sp := fun vs H Q _ => ∃ u : Addr, vs = [.ref u] ∧ Urn H u ∧ ∀ r H', But (· = u) H H' → Urn H' u → (∀ S, Occ S H → RowOk K S H' r) → Q r H'
/-! ### the law's own list -/
inductive Owns (K : PySem.W.Frag) (S : Addr → Prop) (H : Hp) : List V → List En → Prop
  | nil : Owns K S H [] []
  | cons {a : Addr} {m : V} {ps : List V} {e : En} {es : List En} : Sta S H (fun H => SqL K H a [m, e.r] ∧ Dp K H m e.d) → Owns K S H ps es → Owns K S H (.ref a :: ps) (e :: es)
theorem Owns.keep {K : PySem.W.Frag} {S : Addr → Prop} {H H1 : Hp} (k : But S H H1) : ∀ {ps : List V} {es : List En}, Owns K S H ps es → Owns K S H1 ps es
  | _, _, .nil => .nil
  | _, _, .cons h t => .cons (h.keep k) (Owns.keep k t)
theorem Owns.length {K : PySem.W.Frag} {S : Addr → Prop} {H : Hp} : ∀ {ps : List V} {es : List En}, Owns K S H ps es → ps.length = es.length
  | _, _, .nil => rfl
  | _, _, .cons _ t => by rw [List.length_cons, List.length_cons, Owns.length t]
theorem Owns.get {K : PySem.W.Frag} {S : Addr → Prop} {H : Hp} : ∀ {ps : List V} {es : List En} {i : Nat} {v : V}, Owns K S H ps es → ps[i]? = some v → ∃ (a : Addr) (m : V) (e : En), v = .ref a ∧ es[i]? = some e ∧ Sta S H fun H => SqL K H a [m, e.r] ∧ Dp K H m e.d
  | _, _, _, _, .nil, e => by simp at e
  | _, _, 0, _, .cons h _, e => by
    simp at e
    subst e
    exact ⟨_, _, _, rfl, rfl, h⟩
  | _, _, i + 1, _, .cons _ t, e => by
    obtain ⟨a, m, e', h1, h2, h3⟩ := Owns.get (i := i) t (by simpa using e)
    exact ⟨a, m, e', h1, by simpa using h2, h3⟩
theorem Owns.drop {K : PySem.W.Frag} {S : Addr → Prop} {H : Hp} : ∀ {ps : List V} {es : List En} (k : Nat), Owns K S H ps es → Owns K S H (ps.drop k) (es.drop k)
  | _, _, 0, h => h
  | _, _, k + 1, .nil => .nil
  | _, _, k + 1, .cons _ t => Owns.drop k t
theorem Owns.app {K : PySem.W.Frag} {S : Addr → Prop} {H : Hp} : ∀ {ps qs : List V} {es fs : List En}, Owns K S H ps es → Owns K S H qs fs → Owns K S H (ps ++ qs) (es ++ fs)
  | _, _, _, _, .nil, h => h
  | _, _, _, _, .cons h t, h2 => .cons h (Owns.app t h2)
def OwnOk (K : PySem.W.Frag) (S : Addr → Prop) (H : Hp) (ow : Addr) (es : List En) : Prop := ∃ os, Sta S H (fun H => SqL K H ow os) ∧ Owns K S H os es
theorem OwnOk.keep {K : PySem.W.Frag} {S : Addr → Prop} {H H1 : Hp} {ow : Addr} {es : List En} (h : OwnOk K S H ow es) (k : But S H H1) : OwnOk K S H1 ow es := by
  obtain ⟨os, h1, h2⟩ := h
  exact ⟨os, h1.keep k, h2.keep k⟩
def spIsRight (K : PySem.W.Frag) (C : Addr) : Sp := fun vs H Q _ => ∃ (S : Addr → Prop) (c ow : Addr) (n : Nat) (es : List En), vs = [.ref c, .ref ow, .int n] ∧ CaOk K C S H c n es ∧ EsOk n es ∧ OwnOk K S H ow es ∧ ∀ H', Same H H' → Q (.bl true) H'
section
variable {P : Program} {w : World} {K : PySem.W.Frag} {mg : Str → Option Value} {base : Heap}
theorem ok_law_rows (T : Txt P K mg) : FnOk P w K mg base CX0 3 T.f_law_rows T.d_law_rows ["urn"] (spRows K) := by
  refine T.F_law_rows.ok sc_law_rows (fun vs H Q E h => by obtain ⟨u, rfl, _⟩ := h; rfl) (fun cdv A outer s H vs Q E hr h => ⟨_, (pss_cons (ps_set (i := 1) sc_law_rows.nd rfl (Or.inl rfl) (pe_lst (pa_cons (pe_tup pa_nil) (pa_cons (pe_tup (pa_cons (pe_tup (pa_cons pe_int (pa_cons pe_int pa_nil))) pa_nil)) (pa_cons (pe_tup (pa_cons (pe_tup (pa_cons pe_int (pa_cons pe_int pa_nil))) (pa_cons (pe_tup (pa_cons pe_int (pa_cons pe_int pa_nil))) pa_nil))) (pa_cons pe_non (pa_cons pe_str (pa_cons (pe_lst (pa_cons pe_int pa_nil)) (pa_cons pe_int (pa_cons pe_bl (pa_cons pe_dnewK (pa_cons (pe_tup (pa_cons (pe_tup (pa_cons pe_int (pa_cons pe_int pa_nil))) (pa_cons (pe_tup (pa_cons pe_int (pa_cons pe_int pa_nil))) (pa_cons (pe_tup (pa_cons pe_int (pa_cons pe_int pa_nil))) pa_nil)))) pa_nil))))))))))))
      (pss_one (ps_ret (pe_call (ok_law_of T) (hr.mono (by omega)) rfl T.g__law_of T.F_law_of.kp T.b_law_of .nil pass0 (pa_cons (pv 0) (pa_cons (pv 1) pa_nil)))))), ?_⟩)
  obtain ⟨u, rfl, hu, q⟩ := h
  refine ⟨Nat.zero_le _, fun p1 h1 => ?_⟩
  refine ⟨by show 2 ≤ sizeLine; decide, fun p2 h2 => ?_⟩
  refine ⟨by show 1 ≤ sizeLine; decide, fun p3 h3 => ?_⟩
  refine ⟨by show 2 ≤ sizeLine; decide, fun p4 h4 => ?_⟩
  refine ⟨by show 2 ≤ sizeLine; decide, fun p5 h5 => ?_⟩
  refine ⟨by show 2 ≤ sizeLine; decide, fun p6 h6 => ?_⟩
  refine ⟨by show 1 ≤ sizeLine; decide, fun p7 h7 => ?_⟩
  refine fun p8 h8 => ?_
  refine ⟨by show 2 ≤ sizeLine; decide, fun p9 h9 => ?_⟩
  refine ⟨by show 2 ≤ sizeLine; decide, fun p10 h10 => ?_⟩
  refine ⟨by show 2 ≤ sizeLine; decide, fun p11 h11 => ?_⟩
  refine ⟨by show 3 ≤ sizeLine; decide, fun p12 h12 => ?_⟩
  refine ⟨by show 10 ≤ sizeLine; decide, fun p13 h13 => ?_⟩
  have L := (((((((((((((Laid.nil H).step h1).step h2).step h3).step h4).step h5).step h6).step h7).step h8).step h9).step h10).step h11).step h12).step (o := .lst [.ref p1, .ref p3, .ref p6, .non, .str "rows", .ref p7, .int 0, .bl true, .ref p8, .ref p12]) h13
  refine ⟨_, rfl, _, rfl, u, p13, _, rfl, ?_, .of upd_same, (by show (0 : Nat) < 10; decide), (by show (10 : Nat) < 1073741824; decide), hu.same L.1, fun j r H' hj u5 b5 => ?_⟩
  · exact (hu.same ((((((((((((((Laid.nil H).step h1).step h2).step h3).step h4).step h5).step h6).step h7).step h8).step h9).step h10).step h11).step h12).1)).ne h13
  have hb : But (· = u) H H' := L.1.but.trans b5
  refine q r H' hb u5 fun S hO => ?_
  have F : ∀ H2, But S H' H2 → ∀ q, q ∈ [(p13, HO.lst [.ref p1, .ref p3, .ref p6, .non, .str "rows", .ref p7, .int 0, .bl true, .ref p8, .ref p12]), (p12, HO.tup [.ref p9, .ref p10, .ref p11]), (p11, HO.tup [.int 5, .int 6]), (p10, HO.tup [.int 3, .int 4]), (p9, HO.tup [.int 1, .int 2]), (p8, HO.dK []), (p7, HO.lst [.int 1]), (p6, HO.tup [.ref p4, .ref p5]), (p5, HO.tup [.int 9, .int 3]), (p4, HO.tup [.int 7, .int 12]), (p3, HO.tup [.ref p2]), (p2, HO.tup [.int 5, .int 5]), (p1, HO.tup [])] → H2 q.1 = some q.2 :=
    fun H2 k2 q hq => k2 _ _ (hO.no (L.2 q hq).1) (b5 _ _ (hu.ne (L.2 q hq).1) (L.2 q hq).2)
  clear L h1 h2 h3 h4 h5 h6 h7 h8 h9 h10 h11 h12 h13
  have hm := List.mem_of_getElem? hj
  simp only [List.mem_cons, List.not_mem_nil, or_false] at hm
  have two : ∀ {H2 : Hp} {a : Addr} {i j : Int}, H2 a = some (.tup [.int i, .int j]) → Dp K H2 (.ref a) (.tuple [.int i, .int j]) := fun e => .tup (.of e) (.cons (.int _) (.cons (.int _) .nil))
  rcases hm with rfl | rfl | rfl | rfl | rfl | rfl | rfl | rfl | rfl | rfl
  · exact ⟨.tuple [], ⟨by decide +kernel, .inr (by decide +kernel), by decide +kernel, by decide +kernel⟩, fun H2 k2 => .inl (.tup (.of (F H2 k2 (p1, .tup []) (by simp))) .nil)⟩
  · exact ⟨.tuple [.tuple [.int 5, .int 5]], ⟨by decide +kernel, .inr (by decide +kernel), by decide +kernel, by decide +kernel⟩, fun H2 k2 => .inl (.tup (.of (F H2 k2 (p3, .tup [.ref p2]) (by simp))) (.cons (two (F H2 k2 (p2, .tup [.int 5, .int 5]) (by simp))) .nil))⟩
  · exact ⟨.tuple [.tuple [.int 7, .int 12], .tuple [.int 9, .int 3]], ⟨by decide +kernel, .inr (by decide +kernel), by decide +kernel, by decide +kernel⟩, fun H2 k2 => .inl (.tup (.of (F H2 k2 (p6, .tup [.ref p4, .ref p5]) (by simp))) (.cons (two (F H2 k2 (p4, .tup [.int 7, .int 12]) (by simp))) (.cons (two (F H2 k2 (p5, .tup [.int 9, .int 3]) (by simp))) .nil)))⟩
  · exact ⟨.none, ⟨by decide +kernel, .inr (by decide +kernel), by decide +kernel, by decide +kernel⟩, fun H2 k2 => .inl .non⟩
  · exact ⟨.str "rows", ⟨by decide +kernel, .inr (by decide +kernel), by decide +kernel, by decide +kernel⟩, fun H2 k2 => .inl (.str _)⟩
  · exact ⟨.list [.int 1], ⟨by decide +kernel, .inr (by decide +kernel), by decide +kernel, by decide +kernel⟩, fun H2 k2 => .inl (.lst (.of (F H2 k2 (p7, .lst [.int 1]) (by simp))) (.cons (.int _) .nil))⟩
  · exact ⟨.int 0, ⟨by decide +kernel, .inr (by decide +kernel), by decide +kernel, by decide +kernel⟩, fun H2 k2 => .inl (.int _)⟩
  · exact ⟨.bool true, ⟨by decide +kernel, .inr (by decide +kernel), by decide +kernel, by decide +kernel⟩, fun H2 k2 => .inl (.bl _)⟩
  · exact ⟨.dict [], ⟨by decide +kernel, .inl rfl, by decide +kernel, by decide +kernel⟩, fun H2 k2 => .inr ⟨rfl, p8, rfl, .inl (F H2 k2 (p8, .dK []) (by simp))⟩⟩
  · exact ⟨.tuple [.tuple [.int 1, .int 2], .tuple [.int 3, .int 4], .tuple [.int 5, .int 6]], ⟨by decide +kernel, .inr (by decide +kernel), by decide +kernel, by decide +kernel⟩, fun H2 k2 => .inl (.tup (.of (F H2 k2 (p12, .tup [.ref p9, .ref p10, .ref p11]) (by simp))) (.cons (two (F H2 k2 (p9, .tup [.int 1, .int 2]) (by simp))) (.cons (two (F H2 k2 (p10, .tup [.int 3, .int 4]) (by simp))) (.cons (two (F H2 k2 (p11, .tup [.int 5, .int 6]) (by simp))) .nil))))⟩
theorem ok_law_is_right (T : Txt P K mg) : FnG P w K mg base CX0 5 T.f_law_is_right T.d_law_is_right ["cache", "own", "size"] (spIsRight K T.C_Cache) := by
  refine T.F_law_is_right.okG sc_law_is_right (fun vs H Q E h => by obtain ⟨S, c, ow, n, es, rfl, _⟩ := h; rfl) (fun cdv A outer s H vs Q E gd hr h => ⟨_, (pss_cons (ps_set (i := 3) sc_law_is_right.nd rfl (Or.inl rfl) (pe_lst (pa_cons (pe_prop (pv 0) T.cl_Cache T.p_Cache_marks (ok_Cache_marks T) ((hr.mono (by omega))) T.b_Cache_marks .nil pass0 rfl) (pa_cons (pe_callB (call_lenO (ok_Cache___len__ T) (hr.mono (by omega)) T.me_Cache___len__.1 T.me_Cache___len__.2 T.b_Cache___len__ pass0) rfl T.z_len (by decide +kernel) (pa_cons (pv 0) pa_nil)) (pa_cons (pe_callTy (call_boolO (ok_Cache___bool__ T) (hr.mono (by omega)) T.me_Cache___bool__.1 T.me_Cache___bool__.2 T.b_Cache___bool__ pass0) rfl T.z_bool (by decide +kernel) (pa_cons (pv 0) pa_nil)) pa_nil)))))
      (pss_one (ps_ret (pe_and (pe_cmpR op_eq (pe_callB (call_reprV (by exact gd) (by exact hu64 hr)) rfl T.z_repr (by decide +kernel) (pa_cons (pv 3) pa_nil)) (pe_callB (call_reprV (by exact gd) (by exact hu64 hr)) rfl T.z_repr (by decide +kernel) (pa_cons (pe_lst (pa_cons (pe_callTy call_tuple_of rfl T.z_tuple (by decide +kernel) (pa_cons (pe_lc (own := [("pair", 4)]) (te := tOp (rIxL K) (tVar 4) (tC (.int 0))) rfl sc_law_is_right.nd (pi_list (pv 1)) (blkOk_by (own := [("pair", 4)]) (N := N_law_is_right) (sc := defScope s_law_is_right) (by decide +kernel)) (fun _ _ _ _ _ => (pg_name (i := 4) sc_law_is_right.nd rfl (by first | exact Or.inl rfl | exact Or.inr rfl))) (fun _ _ _ _ _ => (by exact pts_nil)) (fun _ _ _ _ _ => (by exact (pe_ix ix_list (pv 4) pe_int (fun _ _ => rfl))))) pa_nil)) (pa_cons (pe_callB call_len_seq rfl T.z_len (by decide +kernel) (pa_cons (pv 1) pa_nil)) (pa_cons pe_bl pa_nil)))) pa_nil)) (nomark _)) (pe_one (pe_cmpR op_le (pe_callB call_len_seq rfl T.z_len (by decide +kernel) (pa_cons (pv 1) pa_nil)) (pv 2) (nomark _))))))), ?_⟩)
  obtain ⟨S, c, ow, n, es, rfl, hC, hE, hW, q⟩ := h
  have sd := shownD_ok hE.marks (show (ds es).length ≤ 20 by unfold ds; rw [List.length_map]; exact Nat.le_trans hE.le hE.n20)
  have le1 := hE.le
  have le2 := hE.n20
  have dl : (ds es).length = es.length := by unfold ds; rw [List.length_map]
  obtain ⟨dx, kl, ps, hc1, _⟩ := id hC
  refine ⟨_, rfl, c, dx, _, rfl, hc1, S, c, n, es, rfl, hC, hE, fun H1 p o xs s1 hp ho hx => ?_⟩
  have im := (mk_immAll _ hE.marks.all).1
  refine ⟨_, rfl, c, dx, _, rfl, s1 _ _ hc1, S, c, n, es, rfl, hC.same s1, es.length, rfl, by omega, by omega, ?_⟩
  refine ⟨_, rfl, c, dx, _, rfl, s1 _ _ hc1, c, rfl, true, rfl, ?_⟩
  refine ⟨by show 3 ≤ sizeLine; decide, fun sp hsp => ?_⟩
  have s2 := s1.step (o := .lst [.ref p, .int es.length, .bl true]) hsp
  have k12 := Same.new (o := .lst [.ref p, .int es.length, .bl true]) hsp
  have d1 : Dp K (upd H1 sp (.lst [.ref p, .int es.length, .bl true])) (.ref sp) (shownD (ds es)) := by
    refine .lst (.of upd_same) (.cons (.tup (.inl (.inr ⟨o, k12 _ _ hp⟩)) (Dp.keepAll k12.tupK _ _ im hx)) (.cons ?_ (.cons (.bl _) .nil)))
    rw [dl]
    exact .int _
  refine ⟨_, rfl, .ref sp, shownD (ds es), rfl, .inl d1, sd.1, .inr sd.2.1, sd.2.2.1, sd.2.2.2, ?_⟩
  obtain ⟨os, w1, w2⟩ := hW.keep (s2.but)
  refine ⟨_, rfl, ow, rfl, ⟨os, w1.now⟩, fun D hD => ?_⟩
  generalize upd H1 sp (.lst [.ref p, .int es.length, .bl true]) = H2 at s2 w1 w2 hD ⊢
  refine lc_list (K := K) (a := ow) (xs := os) (fun i H' => ∃ acc, H' D = some (.lst acc) ∧ DpAll K H2 acc ((ds es).take i) ∧ Same H2 H') ⟨[], upd_same, .nil, Same.new hD⟩ (fun i H' _ h => h.choose_spec.2.2.sqL w1.now) ?_ ?_
  · rintro i x H' hx ⟨acc, e1, e2, e3⟩
    obtain ⟨a, m, e, rfl, he, st⟩ := w2.get hx
    refine ⟨rfl, _, rfl, a, [m, e.r], 0, m, rfl, rfl, e3.sqL st.now.1, rfl, acc, e1, ?_, acc ++ [m], upd_same, ?_, e3.own hD⟩
    · have := DpAll.length e2
      rw [this, List.length_take]
      exact Nat.lt_of_le_of_lt (show _ ≤ 20 by omega) (by decide)
    · rw [List.take_add_one]
      refine DpAll.app e2 ?_
      have : (ds es)[i]? = some e.d := by unfold ds; rw [List.getElem?_map, he]; rfl
      rw [this]
      exact .cons st.now.2 .nil
  · rintro H' ⟨acc, e1, e2, e3⟩
    rw [w2.length, ← dl, List.take_length] at e2
    refine ⟨D, acc, rfl, .inl ⟨.of e1, fun t ht => ?_⟩⟩
    refine ⟨_, rfl, ow, os, rfl, .inl ((e3.step ht).sqL w1.now), ?_⟩
    refine ⟨by show 3 ≤ sizeLine; decide, fun z hz => ?_⟩
    have k3 := (e3.step (o := .tup acc) ht).step (o := .lst [.ref t, .int os.length, .bl true]) hz
    have d2 : Dp K (upd (upd H' t (.tup acc)) z (.lst [.ref t, .int os.length, .bl true])) (.ref z) (shownD (ds es)) := by
      refine .lst (.of upd_same) (.cons (.tup (.of (Same.new hz _ _ upd_same)) (Dp.keepAll k3.tupK _ _ im e2)) (.cons ?_ (.cons (.bl _) .nil)))
      rw [dl, w2.length]
      exact .int _
    refine ⟨.ref z, shownD (ds es), rfl, .inl d2, sd.1, .inr sd.2.1, sd.2.2.1, sd.2.2.2, ?_⟩
    have s4 := s2.trans k3
    have w1' := k3.sqL w1.now
    generalize upd (upd H' t (.tup acc)) z (.lst [.ref t, .int os.length, .bl true]) = H4 at s4 w1' ⊢
    refine ⟨rfl, _, rfl, iteB (by simp) ?_⟩
    refine ⟨_, rfl, ow, os, rfl, .inl w1', _, rfl, _, _, rfl, rfl, of_dec (q _ s4) ?_⟩
    exact decide_eq_true (by rw [w2.length]; omega)
end
end K83
namespace K83
open PySem PySem.Spec PyProof.Rows L2
/-! ### two of each -/
theorem eqE_nil {d : PyData} {es : List En} (h : eqE d es = []) : neE d es = es := by
  unfold eqE at h
  unfold neE
  rw [List.filter_eq_self]
  intro e he
  have := List.filter_eq_nil_iff.mp h e he
  simpa using this
def put {α : Type} (f : Bool → α) (b : Bool) (x : α) : Bool → α := fun k => if k = b then x else f k
theorem put_same {α : Type} (f : Bool → α) (b : Bool) (x : α) : put f b x b = x := by simp [put]
theorem put_ne {α : Type} (f : Bool → α) {b k : Bool} (x : α) (h : k ≠ b) : put f b x k = f k := by simp [put, h]
def two (f : Bool → V) : List V := [f false, f true]
def bi (b : Bool) : Int := if b then 1 else 0
theorem two_at (f : Bool → V) (b : Bool) : atI (two f) (bi b) = some (f b) := by cases b <;> rfl
theorem two_set (f : Bool → V) (b : Bool) (x : V) : ∃ j, ixN (two f).length (bi b) = some j ∧ (two f).set j x = two (put f b x) := by
  cases b
  · exact ⟨0, rfl, by simp [two, put]⟩
  · exact ⟨1, rfl, by simp [two, put]⟩
theorem two_put (o : Bool → Addr) (b : Bool) (p : Addr) : two (put (fun k => V.ref (o k)) b (.ref p)) = two fun k => V.ref (put o b p k) := by
  cases b <;> simp [two, put]
theorem bi_of {k : Int} (h1 : 0 ≤ k) (h2 : k < 2) : ∃ b, k = bi b := by
  by_cases h : k = 0
  · exact ⟨false, h⟩
  · exact ⟨true, by show k = 1; omega⟩
theorem put_put {α : Type} (f : Bool → α) (b : Bool) (x y : α) : put (put f b x) b y = put f b y := by
  funext k
  unfold put
  split <;> rfl
theorem put_at {α : Type} (f : Bool → α) (b : Bool) (x : α) : put f b x b = x := put_same f b x
theorem Occ.but {S : Addr → Prop} {H H1 : Hp} {x : Addr} (h : Occ S H) (k : But (· = x) H H1) (hx : H1 x ≠ none) : Occ S H1 := fun a ha e => by
  by_cases z : a = x
  · rw [z] at e; exact hx e
  · cases w : H a with
    | none => exact h a ha w
    | some o => rw [k _ _ z w] at e; cases e
theorem owns_nil {K : PySem.W.Frag} {S : Addr → Prop} {H : Hp} {ks : List V} (h : Owns K S H ks []) : ks = [] := by cases h; rfl
theorem owns_one {K : PySem.W.Frag} {S : Addr → Prop} {H : Hp} {ks : List V} {e : En} (h : Owns K S H ks [e]) : ∃ a m, ks = [.ref a] ∧ Sta S H fun H => SqL K H a [m, e.r] ∧ Dp K H m e.d := by
  cases h with
  | cons h t =>
    cases t
    exact ⟨_, _, rfl, h⟩
theorem shw_none : Shw .none := ⟨rfl, .inr rfl, by decide +kernel, by decide⟩
theorem found_ok {n : Nat} {es : List En} (h : EsOk n es) {d : PyData} (hd : Mark d) : EsOk n (neE d es ++ eqE d es) := by
  rcases eqE_one h hd with e | ⟨e, he, _, hed⟩
  · rw [e, List.append_nil, eqE_nil e]
    exact h
  · rw [he, ← use_found h he hed]
    exact h.use hd _
/-! ### what stands while the law runs -/
def SS (u ow : Addr) (c : Bool → Addr) : Addr → Prop := fun a => a = u ∨ (∃ b, a = c b) ∨ a = ow
structure Half (K : PySem.W.Frag) (C : Addr) (S : Addr → Prop) (H : Hp) (c o : Addr) (n : Nat) (es : List En) : Prop where
  cA : CaOk K C S H c n es
  eA : EsOk n es
  oA : OwnOk K S H o es
  rA : ∀ e ∈ es, RowOk K S H e.r
theorem Half.keep {K : PySem.W.Frag} {C : Addr} {S : Addr → Prop} {H H1 : Hp} {c o : Addr} {n : Nat} {es : List En} (h : Half K C S H c o n es) (k : But S H H1) (e : H1 c = H c) : Half K C S H1 c o n es :=
  ⟨h.cA.keep k e, h.eA, h.oA.keep k, fun e he => (h.rA e he).keep k⟩
structure Fix (K : PySem.W.Frag) (u ow sz ca mk : Addr) (c : Bool → Addr) (n : Bool → Nat) (ms : List V) (dm : List PyData) (H : Hp) : Prop where
  szF : Sta (SS u ow c) H fun H => SqL K H sz (two fun b => .int (n b))
  caF : Sta (SS u ow c) H fun H => SqL K H ca (two fun b => .ref (c b))
  mkF : Sta (SS u ow c) H fun H => SqL K H mk ms
  dpF : Sta (SS u ow c) H fun H => DpAll K H ms dm
  mm : Marks dm
  ml : dm.length < 1000
  mn : 0 < dm.length
  cc : c false ≠ c true
  cu : ∀ b, c b ≠ u
  oc : ∀ b, c b ≠ ow
  ou : ow ≠ u
  mu : mk ≠ u
theorem Fix.keep {K : PySem.W.Frag} {u ow sz ca mk : Addr} {c : Bool → Addr} {n : Bool → Nat} {ms : List V} {dm : List PyData} {H H1 : Hp} (h : Fix K u ow sz ca mk c n ms dm H) (k : But (SS u ow c) H H1) : Fix K u ow sz ca mk c n ms dm H1 :=
  ⟨h.szF.keep k, h.caF.keep k, h.mkF.keep k, h.dpF.keep k, h.mm, h.ml, h.mn, h.cc, h.cu, h.oc, h.ou, h.mu⟩
theorem Fix.cne {K : PySem.W.Frag} {u ow sz ca mk : Addr} {c : Bool → Addr} {n : Bool → Nat} {ms : List V} {dm : List PyData} {H : Hp} (h : Fix K u ow sz ca mk c n ms dm H) {k b : Bool} (hk : k ≠ b) : c k ≠ c b := by
  cases k <;> cases b
  · exact absurd rfl hk
  · exact h.cc
  · exact h.cc.symm
  · exact absurd rfl hk
structure Wld (K : PySem.W.Frag) (C u ow sz ca mk : Addr) (c : Bool → Addr) (n : Bool → Nat) (ms : List V) (dm : List PyData) (H : Hp) (o : Bool → Addr) (es : Bool → List En) : Prop where
  urF : Urn H u
  owF : H ow = some (.lst (two fun b => .ref (o b)))
  hf : ∀ b, Half K C (SS u ow c) H (c b) (o b) (n b) (es b)
  fx : Fix K u ow sz ca mk c n ms dm H
section
variable {K : PySem.W.Frag} {C u ow sz ca mk : Addr} {c : Bool → Addr} {n : Bool → Nat} {ms : List V} {dm : List PyData} {H H1 : Hp} {o : Bool → Addr} {es : Bool → List En}
theorem Wld.occ (h : Wld K C u ow sz ca mk c n ms dm H o es) : Occ (SS u ow c) H := fun a ha e => by
  rcases ha with rfl | ⟨b, rfl⟩ | rfl
  · obtain ⟨x, y, z, q⟩ := h.urF
    rw [q] at e; cases e
  · obtain ⟨dx, kl, ps, q, _⟩ := (h.hf b).cA
    rw [q] at e; cases e
  · rw [h.owF] at e; cases e
theorem Wld.same (h : Wld K C u ow sz ca mk c n ms dm H o es) (k : Same H H1) : Wld K C u ow sz ca mk c n ms dm H1 o es := by
  refine ⟨h.urF.same k, k _ _ h.owF, fun b => (h.hf b).keep k.but ?_, h.fx.keep k.but⟩
  obtain ⟨dx, kl, ps, q, _⟩ := (h.hf b).cA
  rw [q, k _ _ q]
theorem butU (k : But (· = u) H H1) : But (SS u ow c) H H1 := k.mono fun a e => .inl e
theorem butC {b : Bool} (k : But (· = c b) H H1) : But (SS u ow c) H H1 := k.mono fun a e => .inr (.inl ⟨b, e⟩)
theorem Wld.draw (h : Wld K C u ow sz ca mk c n ms dm H o es) (k : But (· = u) H H1) (u1 : Urn H1 u) : Wld K C u ow sz ca mk c n ms dm H1 o es := by
  refine ⟨u1, k _ _ h.fx.ou h.owF, fun b => (h.hf b).keep (butU k) ?_, h.fx.keep (butU k)⟩
  obtain ⟨dx, kl, ps, q, _⟩ := (h.hf b).cA
  rw [q, k _ _ (h.fx.cu b) q]
/-- one cache and its own list have gone on -/
theorem Wld.put (h : Wld K C u ow sz ca mk c n ms dm H o es) {b : Bool} {p : Addr} {es' : List En} (k : But (fun a => a = u ∨ a = c b ∨ a = ow) H H1) (u1 : Urn H1 u) (ho : H1 ow = some (.lst (two (put (fun k => V.ref (o k)) b (.ref p))))) (hh : Half K C (SS u ow c) H1 (c b) p (n b) es') :
    Wld K C u ow sz ca mk c n ms dm H1 (put o b p) (put es b es') := by
  have kS : But (SS u ow c) H H1 := k.mono fun a e => by
    rcases e with e | e | e
    · exact .inl e
    · exact .inr (.inl ⟨b, e⟩)
    · exact .inr (.inr e)
  refine ⟨u1, by rw [ho, two_put], fun q => ?_, h.fx.keep kS⟩
  by_cases hq : q = b
  · subst hq
    rw [put_same, put_same]
    exact hh
  · rw [put_ne _ _ hq, put_ne _ _ hq]
    refine (h.hf q).keep kS ?_
    obtain ⟨dx, kl, ps, z, _⟩ := (h.hf q).cA
    rw [z]
    refine k _ _ (fun e => ?_) z
    rcases e with e | e | e
    · exact h.fx.cu q e
    · exact h.fx.cne hq e
    · exact h.fx.oc q e
/-- a cache has been used and is as it was -/
theorem Wld.again (h : Wld K C u ow sz ca mk c n ms dm H o es) {b : Bool} (k : But (· = c b) H H1) (hC : CaOk K C (SS u ow c) H1 (c b) (n b) (es b)) : Wld K C u ow sz ca mk c n ms dm H1 o es := by
  have kS := butC (u := u) (ow := ow) (c := c) k
  refine ⟨?_, k _ _ (h.fx.oc b).symm h.owF, fun q => ?_, h.fx.keep kS⟩
  · obtain ⟨x, y, z, e⟩ := h.urF
    exact ⟨x, y, z, k _ _ (h.fx.cu b).symm e⟩
  · by_cases hq : q = b
    · subst hq
      exact ⟨hC, (h.hf q).eA, (h.hf q).oA.keep kS, fun e he => ((h.hf q).rA e he).keep kS⟩
    · refine (h.hf q).keep kS ?_
      obtain ⟨dx, kl, ps, z, _⟩ := (h.hf q).cA
      rw [z]
      exact k _ _ (h.fx.cne hq) z
end
/-- a list turned by i -/
def rot (i : Nat) (es : List En) : List En := es.drop i ++ es.take i
theorem rot_at {i : Nat} {es : List En} {e : En} (h : es[i]? = some e) : rot i es = e :: (es.drop (i + 1) ++ es.take i) := by
  have hi := (List.getElem?_eq_some_iff.mp h).1
  have : es[i] = e := (List.getElem?_eq_some_iff.mp h).2
  unfold rot
  rw [List.drop_eq_getElem_cons hi, this]
  rfl
theorem rot_next {i : Nat} {es : List En} {e : En} (h : es[i]? = some e) : rot (i + 1) es = (es.drop (i + 1) ++ es.take i) ++ [e] := by
  unfold rot
  rw [List.take_add_one, h, List.append_assoc]
  rfl
theorem rot_zero (es : List En) : rot 0 es = es := by unfold rot; simp
theorem rot_end (es : List En) : rot es.length es = es := by unfold rot; simp
theorem rot_found {i : Nat} {es : List En} {e x : En} (h : es[i]? = some e) (hd : Mark e.d) (hf : eqE e.d (rot i es) = [x]) : x = e ∧ neE e.d (rot i es) ++ [x] = rot (i + 1) es := by
  have hr := mk_refl hd.ok
  rw [rot_at h] at hf ⊢
  have z : eqE e.d (e :: (es.drop (i + 1) ++ es.take i)) = e :: eqE e.d (es.drop (i + 1) ++ es.take i) := by simp [eqE, List.filter_cons, hr]
  rw [z] at hf
  injection hf with h1 h2
  subst h1
  refine ⟨rfl, ?_⟩
  have y : neE e.d (e :: (es.drop (i + 1) ++ es.take i)) = neE e.d (es.drop (i + 1) ++ es.take i) := by simp [neE, List.filter_cons, hr]
  rw [y, eqE_nil h2, rot_next h]
theorem rot_none {i : Nat} {es : List En} {e : En} (h : es[i]? = some e) (hd : Mark e.d) : eqE e.d (rot i es) ≠ [] := by
  rw [rot_at h]
  simp [eqE, List.filter_cons, mk_refl hd.ok]
theorem rot_ok {n i : Nat} {es : List En} {e : En} (h : EsOk n (rot i es)) (he : es[i]? = some e) (hd : Mark e.d) : EsOk n (rot (i + 1) es) := by
  rcases eqE_one h hd with z | ⟨x, z, _, _⟩
  · exact absurd z (rot_none he hd)
  · have w := found_ok h hd
    rw [z, (rot_found he hd z).2] at w
    exact w
/-! ### the law's own list, filtered -/
theorem lc_own {K : PySem.W.Frag} {S : Addr → Prop} {r : R2} {f : PyData → Bool} {σ : L2.St} {H1 : Hp} {D ow : Addr} {os : List V} {es : List En} {v : V} {d : PyData} {n : Nat} {Qd : Hp → Prop} (w1 : SqL K H1 ow os) (w2 : Owns K S H1 os es) (hD : H1 D = none) (hE : EsOk n es)
    (hv : Dp K H1 v d) (hd : Mark d) (hr : ∀ (x y : V) (H : Hp) (Q : VK) (e : PyData), Dp K H x e → Dp K H y d → Mark e → Q (.bl (f e)) H → r x y H Q)
    (hw : ∀ x, wipe ((wipe σ [13]).set 13 (some x)) [13] = wipe σ [13]) (h13 : ∀ x H' Q, Q x H' → tVar 13 ((wipe σ [13]).set 13 (some x)) H' Q) (h6 : ∀ x H' Q, Q v H' → tVar 6 ((wipe σ [13]).set 13 (some x)) H' Q)
    (hq : ∀ H' acc, H' D = some (.lst acc) → Owns K S H1 acc (es.filter fun e => f e.d) → Same H1 H' → Qd H') :
    ∃ W : Nat → Nat → Hp → Prop, (∃ m, W 0 m (upd H1 D (.lst []))) ∧ ∀ i m H, W i m H →
      ((Itl K ow).stop i H ∧ Qd H) ∨ ((Itl K ow).go i H ∧ ∃ Nx : Hp → Prop, (∀ H', Nx H' → ∃ m', m' < m ∧ W (i + 1) m' H') ∧ ∀ x H', (Itl K ow).yld i H x H' → gName 13 x (wipe σ [13]) H' fun σ2 H2 => wipe σ2 [13] = wipe σ [13] ∧ tTest (tOp r (tOp (rIxL K) (tVar 13) (tC (.int 0))) (tVar 6)) σ2 H2 fun b H3 =>
        if b = true then tVar 13 σ2 H3 fun y H4 => ∃ acc, H4 D = some (.lst acc) ∧ acc.length < sizeLine ∧ Nx (upd H4 D (.lst (acc ++ [y]))) else Nx H3) := by
  refine lc_list (K := K) (a := ow) (xs := os) (g := gName 13) (te := tVar 13) (vs := [13]) (σ := σ) (fun i H' => ∃ acc, H' D = some (.lst acc) ∧ Owns K S H1 acc ((es.take i).filter fun e => f e.d) ∧ Same H1 H') ⟨[], upd_same, .nil, Same.new hD⟩ (fun i H' _ h => h.choose_spec.2.2.sqL w1) ?_ ?_
  · rintro i x H' hx ⟨acc, e1, e2, e3⟩
    obtain ⟨a, m, e, rfl, he, st⟩ := w2.get hx
    have hm := hE.mks e (List.mem_of_getElem? he)
    have et : es.take (i + 1) = es.take i ++ [e] := by rw [List.take_add_one, he]; rfl
    refine ⟨hw _, ?_⟩
    dsimp only [tTest, tOp, tC]
    refine h13 _ _ _ ?_
    refine ⟨a, [m, e.r], 0, m, rfl, rfl, e3.sqL st.now.1, rfl, ?_⟩
    refine h6 _ _ _ ?_
    refine hr _ _ _ _ e.d (Dp.keep e3.tupK _ _ hm.imm st.now.2) (Dp.keep e3.tupK _ _ hd.imm hv) hm ⟨_, rfl, ?_⟩
    cases hb : f e.d with
    | false =>
      refine iteF ⟨acc, e1, ?_, e3⟩
      rw [et, List.filter_append]
      simpa [hb] using e2
    | true =>
      refine iteT (h13 _ _ _ ⟨acc, e1, ?_, acc ++ [.ref a], upd_same, ?_, e3.own hD⟩)
      · rw [e2.length]
        have := List.length_filter_le (fun e : En => f e.d) (es.take i)
        have := List.length_take_le' i es
        have := hE.le
        have := hE.n20
        exact Nat.lt_of_le_of_lt (show _ ≤ 20 by omega) (by decide)
      · rw [et, List.filter_append]
        have : ([e].filter fun e => f e.d) = [e] := by simp [hb]
        rw [this]
        exact Owns.app e2 (.cons st .nil)
  · rintro H' ⟨acc, e1, e2, e3⟩
    rw [w2.length, List.take_length] at e2
    exact hq H' acc e1 e2 e3
theorem But.skip2 {S F : Addr → Prop} {H H1 H' : Hp} (k : But S H H1) (k2 : But F H1 H') (h : ∀ a, F a → S a ∨ H a = none) : But S H H' := fun a o n e => k2 a o (fun z => by
  rcases h a z with s | q
  · exact n s
  · rw [q] at e; cases e) (k a o n e)
end K83
namespace K83
open PySem PySem.Spec PyProof.Rows L2
def spRight (K : PySem.W.Frag) : Sp := fun vs H Q _ => ∃ u : Addr, vs = [.ref u] ∧ Urn H u ∧ ∀ H', But (· = u) H H' → Q (.bl true) H'
theorem But.toSame {S : Addr → Prop} {H H1 H' : Hp} (k : But S H1 H') (s : Same H H1) (h : ∀ a, S a → H a = none) : Same H H' := fun a o e => k a o (fun z => by rw [h a z] at e; cases e) (s a o e)
section
variable {P : Program} {w : World} {K : PySem.W.Frag} {mg : Str → Option Value} {base : Heap}
theorem ok_law_right (T : Txt P K mg) : FnG P w K mg base CX0 12 T.f_law_right T.d_law_right ["urn"] (spRight K) := by
  refine T.F_law_right.okG sc_law_right (fun vs H Q E h => by obtain ⟨u, rfl, _⟩ := h; rfl) (fun cdv A outer s H vs Q E gd hr h => ⟨_, (pss_cons (ps_par (i := 1) (j := 2) rfl sc_law_right.nd rfl rfl (by decide) rfl rfl (pa_cons (pe_lst (pa_cons (pe_call (ok_law_of T) (hr.mono (by omega)) rfl T.g__law_of T.F_law_of.kp T.b_law_of .nil pass0 (pa_cons (pv 0) (pa_cons (pe_lst (pa_cons pe_int (pa_cons pe_int (pa_cons pe_int (pa_cons pe_int (pa_cons pe_int (pa_cons pe_int pa_nil))))))) pa_nil))) (pa_cons (pe_call (ok_law_take T) (hr.mono (by omega)) rfl T.g__law_take T.F_law_take.kp T.b_law_take .nil pass0 (pa_cons (pv 0) (pa_cons pe_int pa_nil))) pa_nil))) (pa_cons (pe_lst pa_nil) pa_nil)) (by rfl))
      (pss_cons (ps_par (i := 3) (j := 4) rfl sc_law_right.nd rfl rfl (by decide) rfl rfl (pa_cons (pe_lst (pa_cons (pe_make T.mk_Cache (ok_Cache___init__ T) (hr.mono (by omega)) rfl T.g_Cache T.b_Cache___init__ .nil pass0 (pa_cons (pe_ix ix_list (pv 1) pe_int (fun _ _ => rfl)) pa_nil)) (pa_cons (pe_makeK0 T.mk_Cache (ok_Cache___init__ T) (hr.mono (by omega)) rfl T.g_Cache T.kn_Cache___init___size pass0 (pk_cons (pe_ix ix_list (pv 1) pe_int (fun _ _ => rfl)) pk_nil)) pa_nil))) (pa_cons (pe_lst (pa_cons (pe_lst pa_nil) (pa_cons (pe_lst pa_nil) pa_nil))) pa_nil)) (by rfl))
      (pss_cons (ps_for PassesOwn.never rfl (pi_range1 rfl T.z_range (pa_cons (pe_op op_add pe_int (pe_call (ok_law_of T) (hr.mono (by omega)) rfl T.g__law_of T.F_law_of.kp T.b_law_of .nil pass0 (pa_cons (pv 0) (pa_cons (pe_lst (pa_cons pe_int (pa_cons pe_int (pa_cons pe_int pa_nil)))) pa_nil)))) pa_nil)) (pg_name (i := 5) sc_law_right.nd rfl (by first | exact Or.inl rfl | exact Or.inr rfl))
      (pss_cons (ps_set (i := 6) sc_law_right.nd rfl (Or.inr rfl) (pe_call (ok_law_mark T 3) (hr.mono (by omega)) rfl T.g__law_mark T.F_law_mark.kp T.b_law_mark .nil pass0 (pa_cons (pv 0) (pa_cons pe_int pa_nil))))
      (pss_one (ps_if (pt_cmpR (op_notInD (by exact hu65 hr)) (pv 6) (pv 2) (by rfl))
      (pss_one (ps_expr (pe_bm PySem.F.plainAttrs_list PySem.F.slot_list_append PySem.F.type_list_append mt_append (pv 2) (pa_cons (pv 6) pa_nil)))) pss_nil))))
      (pss_cons (ps_for PassesOwn.never rfl (pi_range1 rfl T.z_range (pa_cons pe_int pa_nil)) (pg_name (i := 5) sc_law_right.nd rfl (by first | exact Or.inl rfl | exact Or.inr rfl))
      (pss_cons (ps_asg (pe_tup (pa_cons (pe_call (ok_law_take T) (hr.mono (by omega)) rfl T.g__law_take T.F_law_take.kp T.b_law_take .nil pass0 (pa_cons (pv 0) (pa_cons pe_int pa_nil))) (pa_cons (pe_call (ok_law_of T) (hr.mono (by omega)) rfl T.g__law_of T.F_law_of.kp T.b_law_of .nil pass0 (pa_cons (pv 0) (pa_cons (pv 2) pa_nil))) pa_nil))) (pg_tup rfl (pgs_cons (pg_name (i := 7) sc_law_right.nd rfl (by first | exact Or.inl rfl | exact Or.inr rfl)) (pgs_cons (pg_name (i := 6) sc_law_right.nd rfl (by first | exact Or.inl rfl | exact Or.inr rfl)) pgs_nil))))
      (pss_cons (ps_par (i := 8) (j := 9) rfl sc_law_right.nd rfl rfl (by decide) rfl rfl (pa_cons (pe_ix ix_list (pv 3) (pv 7) (fun _ _ => rfl)) (pa_cons (pe_ix ix_list (pv 4) (pv 7) (fun _ _ => rfl)) pa_nil)) (by rfl))
      (pss_cons (ps_setLc (i := 10) (own := [("pair", 13)]) (tt := tTest (tOp (rEqD K) (tOp (rIxL K) (tVar 13) (tC (.int 0))) (tVar 6))) rfl sc_law_right.nd rfl rfl (sw_true rfl rfl rfl (by decide +kernel)) (pi_list (pv 9)) (blkOk_by (own := [("pair", 13)]) (N := N_law_right) (sc := defScope s_law_right) (by decide +kernel)) (fun _ _ _ _ _ => (pg_name (i := 13) sc_law_right.nd rfl (by first | exact Or.inl rfl | exact Or.inr rfl))) (fun _ _ _ _ _ => (by exact pts_one (pt_cmpR (op_eqD (by exact hu64 hr)) (pe_ix ix_list (pv 13) pe_int (fun _ _ => rfl)) (pv 6) (nomark _)))) (fun _ _ _ _ _ => (by exact (pv 13))))
      (pss_cons (ps_if (pt_cmpR op_eq (pe_call (ok_law_take T) (hr.mono (by omega)) rfl T.g__law_take T.F_law_take.kp T.b_law_take .nil pass0 (pa_cons (pv 0) (pa_cons pe_int pa_nil))) pe_int (nomark _))
      (pss_cons (ps_set (i := 11) sc_law_right.nd rfl (Or.inl rfl) (pe_meth (pv 8) T.cl_Cache T.me_Cache_find (ok_Cache_find T) (hr.mono (by omega)) T.b_Cache_find .nil pass0 (pa_cons (pv 6) pa_nil)))
      (pss_cons (ps_if (pt_cmpR op_ne (pe_callB (call_reprV (by exact gd) (by exact hu64 hr)) rfl T.z_repr (by decide +kernel) (pa_cons (pv 11) pa_nil)) (pe_callB (call_reprV (by exact gd) (by exact hu64 hr)) rfl T.z_repr (by decide +kernel) (pa_cons (pe_ifExp (pt_cmpR (op_neNil (by exact Nat.lt_of_succ_lt (hu_of hr))) (pv 10) (pe_lst pa_nil) (nomark _)) (pe_ix ix_list (pe_ix ix_list (pv 10) pe_int (fun _ _ => rfl)) pe_int (fun _ _ => rfl)) pe_non) pa_nil)) (nomark _))
      (pss_one (ps_ret pe_bl)) pss_nil)
      (pss_one (ps_asg (pe_op op_cat (pe_lc (own := [("pair", 13)]) (tt := tTest (tOp (rNeD K) (tOp (rIxL K) (tVar 13) (tC (.int 0))) (tVar 6))) rfl sc_law_right.nd (pi_list (pv 9)) (blkOk_by (own := [("pair", 13)]) (N := N_law_right) (sc := defScope s_law_right) (by decide +kernel)) (fun _ _ _ _ _ => (pg_name (i := 13) sc_law_right.nd rfl (by first | exact Or.inl rfl | exact Or.inr rfl))) (fun _ _ _ _ _ => (by exact pts_one (pt_cmpR (op_neD (by exact hu64 hr)) (pe_ix ix_list (pv 13) pe_int (fun _ _ => rfl)) (pv 6) (nomark _)))) (fun _ _ _ _ _ => (by exact (pv 13)))) (pv 10)) (pg_sub (pv 4) (pv 7) set_list))))) (pss_cons (ps_set (i := 12) sc_law_right.nd rfl (Or.inl rfl) (pe_call (ok_law_rows T) (hr.mono (by omega)) rfl T.g__law_rows T.F_law_rows.kp T.b_law_rows .nil pass0 (pa_cons (pv 0) pa_nil)))
      (pss_cons (ps_set (i := 11) sc_law_right.nd rfl (Or.inl rfl) (pe_ifExp (pt_cmpR op_eq (pe_op op_mod (pe_callTy call_int1 rfl T.z_int (by decide +kernel) (pa_cons (pv 5) pa_nil)) pe_int) pe_int (nomark _)) (pe_meth (pv 8) T.cl_Cache T.me_Cache_keep (ok_Cache_keep T) (hr.mono (by omega)) T.b_Cache_keep .nil pass0 (pa_cons (pv 6) (pa_cons (pv 12) pa_nil))) (pe_methK0 (pv 8) T.cl_Cache T.me_Cache_keep (ok_Cache_keep T) (hr.mono (by omega)) T.kb_Cache_keep_rows_mark pass0 (pk_cons (pv 12) (pk_cons (pv 6) pk_nil)))))
      (pss_cons (ps_if (pt_cmpR op_notN (pv 11) pe_non (nomark _))
      (pss_one (ps_ret pe_bl)) pss_nil)
      (pss_cons (ps_asg (pe_op op_cat (pe_lc (own := [("pair", 13)]) (tt := tTest (tOp (rNeD K) (tOp (rIxL K) (tVar 13) (tC (.int 0))) (tVar 6))) rfl sc_law_right.nd (pi_list (pv 9)) (blkOk_by (own := [("pair", 13)]) (N := N_law_right) (sc := defScope s_law_right) (by decide +kernel)) (fun _ _ _ _ _ => (pg_name (i := 13) sc_law_right.nd rfl (by first | exact Or.inl rfl | exact Or.inr rfl))) (fun _ _ _ _ _ => (by exact pts_one (pt_cmpR (op_neD (by exact hu64 hr)) (pe_ix ix_list (pv 13) pe_int (fun _ _ => rfl)) (pv 6) (nomark _)))) (fun _ _ _ _ _ => (by exact (pv 13)))) (pe_lst (pa_cons (pe_lst (pa_cons (pv 6) (pa_cons (pv 12) pa_nil))) pa_nil))) (pg_sub (pv 4) (pv 7) set_list))
      (pss_one (ps_asg (pe_slice sl_list (pe_ix ix_list (pv 4) (pv 7) (fun _ _ => rfl)) (po_some (pe_callB (call_max2 rfl) rfl T.z_max (by decide +kernel) (pa_cons pe_int (pa_cons (pe_op op_sub (pe_callB call_len_seq rfl T.z_len (by decide +kernel) (pa_cons (pe_ix ix_list (pv 4) (pv 7) (fun _ _ => rfl)) pa_nil)) (pe_ix ix_list (pv 1) (pv 7) (fun _ _ => rfl))) pa_nil)))) po_none) (pg_sub (pv 4) (pv 7) set_list))))))))
      (pss_one (ps_if (PW.pt (pw_or (pt_not (pt_val (pe_callG (by exact gd) (ok_law_is_right T) (hr.mono (by omega)) rfl T.g__law_is_right T.F_law_is_right.kp T.b_law_is_right .nil pass0 (pa_cons (pe_ix ix_list (pv 3) pe_int (fun _ _ => rfl)) (pa_cons (pe_ix ix_list (pv 4) pe_int (fun _ _ => rfl)) (pa_cons (pe_ix ix_list (pv 1) pe_int (fun _ _ => rfl)) pa_nil)))))) (pw_or1 (pt_not (pt_val (pe_callG (by exact gd) (ok_law_is_right T) (hr.mono (by omega)) rfl T.g__law_is_right T.F_law_is_right.kp T.b_law_is_right .nil pass0 (pa_cons (pe_ix ix_list (pv 3) pe_int (fun _ _ => rfl)) (pa_cons (pe_ix ix_list (pv 4) pe_int (fun _ _ => rfl)) (pa_cons (pe_ix ix_list (pv 1) pe_int (fun _ _ => rfl)) pa_nil)))))))))
      (pss_one (ps_ret pe_bl)) pss_nil)))))))
      (pss_cons (ps_for PassesOwn.never rfl (pi_tup (pe_tup (pa_cons pe_int (pa_cons pe_int pa_nil)))) (pg_name (i := 7) sc_law_right.nd rfl (by first | exact Or.inl rfl | exact Or.inr rfl))
      (pss_cons (ps_for PassesOwn.never rfl (pi_list (pe_callTy call_list_of rfl T.z_list (by decide +kernel) (pa_cons (pe_ix ix_list (pv 4) (pv 7) (fun _ _ => rfl)) pa_nil))) (pg_lst rfl (pgs_cons (pg_name (i := 6) sc_law_right.nd rfl (by first | exact Or.inl rfl | exact Or.inr rfl)) (pgs_cons (pg_name (i := 12) sc_law_right.nd rfl (by first | exact Or.inl rfl | exact Or.inr rfl)) pgs_nil)))
      (pss_one (ps_if (pt_cmpR op_ne (pe_callB (call_reprV (by exact gd) (by exact hu64 hr)) rfl T.z_repr (by decide +kernel) (pa_cons (pe_meth (pe_ix ix_list (pv 3) (pv 7) (fun _ _ => rfl)) T.cl_Cache T.me_Cache_find (ok_Cache_find T) (hr.mono (by omega)) T.b_Cache_find .nil pass0 (pa_cons (pv 6) pa_nil)) pa_nil)) (pe_callB (call_reprV (by exact gd) (by exact hu64 hr)) rfl T.z_repr (by decide +kernel) (pa_cons (pv 12) pa_nil)) (nomark _))
      (pss_one (ps_ret pe_bl)) pss_nil)))
      (pss_one (ps_if (pt_not (pt_val (pe_callG (by exact gd) (ok_law_is_right T) (hr.mono (by omega)) rfl T.g__law_is_right T.F_law_is_right.kp T.b_law_is_right .nil pass0 (pa_cons (pe_ix ix_list (pv 3) (pv 7) (fun _ _ => rfl)) (pa_cons (pe_ix ix_list (pv 4) (pv 7) (fun _ _ => rfl)) (pa_cons (pe_ix ix_list (pv 1) (pv 7) (fun _ _ => rfl)) pa_nil))))))
      (pss_one (ps_ret pe_bl)) pss_nil))))
      (pss_one (ps_ret pe_bl))))))), ?_⟩)
  obtain ⟨u, rfl, hu, q⟩ := h
  refine ⟨_, rfl, by show 6 ≤ sizeLine; decide, fun p hp => ?_⟩
  refine ⟨u, p, _, rfl, hu.ne hp, .of upd_same, by decide, by decide, hu.new hp, fun j v H1 hj u1 b1 => ?_⟩
  obtain ⟨n0, rfl, hn0⟩ : ∃ n0 : Nat, v = .int n0 ∧ n0 ≤ 20 := by
    have hm := List.mem_of_getElem? hj
    simp only [List.mem_cons, List.not_mem_nil, or_false] at hm
    rcases hm with rfl | rfl | rfl | rfl | rfl | rfl
    · exact ⟨0, rfl, by decide⟩
    · exact ⟨1, rfl, by decide⟩
    · exact ⟨2, rfl, by decide⟩
    · exact ⟨3, rfl, by decide⟩
    · exact ⟨7, rfl, by decide⟩
    · exact ⟨20, rfl, by decide⟩
  refine ⟨_, rfl, u, 21, rfl, by decide, by decide, u1, fun k H2 k1 k2 u2 b2 => ?_⟩
  obtain ⟨n1, rfl⟩ : ∃ n1 : Nat, k = n1 := ⟨k.toNat, by omega⟩
  have b02 : But (· = u) H H2 := ((Same.new (o := .lst [.int 0, .int 1, .int 2, .int 3, .int 7, .int 20]) hp).but.trans b1).trans b2
  clear b1 b2 u1 hj hp
  refine ⟨by show 2 ≤ sizeLine; decide, fun sz hsz => ?_⟩
  refine ⟨Nat.zero_le _, fun mk hmk => ?_⟩
  refine ⟨_, _, rfl, ?_⟩
  have s3 := (Same.new (o := .lst [.int n0, .int n1]) hsz).step (o := .lst []) hmk
  have fsz : upd (upd H2 sz (.lst [.int n0, .int n1])) mk (.lst []) sz = some (.lst [.int n0, .int n1]) := Same.new hmk _ _ upd_same
  have fmk : upd (upd H2 sz (.lst [.int n0, .int n1])) mk (.lst []) mk = some (.lst []) := upd_same
  generalize upd (upd H2 sz (.lst [.int n0, .int n1])) mk (.lst []) = H3 at s3 fsz fmk ⊢
  refine ⟨_, rfl, sz, _, 0, .int n0, rfl, rfl, .of fsz, rfl, ?_⟩
  intro c0 x0 hc0 hx0 nx0
  refine ⟨c0, x0, n0, rfl, hn0, upd_same, fun H4 kl0 k4 hkl0 fkl0 fc0 => ⟨rfl, ?_⟩⟩
  have q4 : Same H3 (upd (upd H3 x0 (.own c0)) c0 (.ins T.C_Cache x0 [])) := (Same.new hx0).own hc0
  have s4 : Same H3 H4 := But.toSame (S := (· = c0)) k4 q4 (fun a e => by rw [e]; exact hc0)
  have nkl0 : H3 kl0 = none := q4.free hkl0
  clear k4 hkl0 q4 hx0 nx0
  refine ⟨_, rfl, sz, _, 1, .int n1, rfl, rfl, .of (s4 _ _ fsz), rfl, ?_⟩
  refine ⟨rfl, rfl, ?_⟩
  intro c1 x1 hc1 hx1 nx1
  refine ⟨c1, x1, n1, rfl, by omega, upd_same, fun H5 kl1 k5 hkl1 fkl1 fc1 => ⟨rfl, ?_⟩⟩
  have q5 : Same H4 (upd (upd H4 x1 (.own c1)) c1 (.ins T.C_Cache x1 [])) := (Same.new hx1).own hc1
  have s5 : Same H4 H5 := But.toSame (S := (· = c1)) k5 q5 (fun a e => by rw [e]; exact hc1)
  have nkl1 : H4 kl1 = none := q5.free hkl1
  clear k5 hkl1 q5 hx1 nx1
  refine ⟨by show 2 ≤ sizeLine; decide, fun ca hca => ?_⟩
  refine ⟨Nat.zero_le _, fun o0 ho0 => ?_⟩
  refine ⟨Nat.zero_le _, fun o1 ho1 => ?_⟩
  refine ⟨by show 2 ≤ sizeLine; decide, fun ow how => ?_⟩
  refine ⟨_, _, rfl, ?_⟩
  have L := ((((Laid.nil H5).step (o := .lst [.ref c0, .ref c1]) hca).step (o := .lst []) ho0).step (o := .lst []) ho1).step (o := .lst [.ref o0, .ref o1]) how
  have eca := L.2 (ca, .lst [.ref c0, .ref c1]) (by simp)
  have eo0 := L.2 (o0, .lst []) (by simp)
  have eo1 := L.2 (o1, .lst []) (by simp)
  have eow := L.2 (ow, .lst [.ref o0, .ref o1]) (by simp)
  have s6 := L.1
  clear L hca ho0 ho1 how
  generalize upd (upd (upd (upd H5 ca (.lst [.ref c0, .ref c1])) o0 (.lst [])) o1 (.lst [])) ow (.lst [.ref o0, .ref o1]) = Hz at s6 eca eo0 eo1 eow ⊢
  dsimp only at eca eo0 eo1 eow
  -- what lies where
  have s36 := (s4.trans s5).trans s6
  have zu : Urn Hz u := ((u2.same s3).same s36)
  have zsz := s36 _ _ fsz
  have zmk := s36 _ _ fmk
  have zc0 := (s5.trans s6) _ _ fc0
  have zk0 := (s5.trans s6) _ _ fkl0
  have zc1 := s6 _ _ fc1
  have zk1 := s6 _ _ fkl1
  have ncc : c0 ≠ c1 := ne_of_none fc0 hc1
  have nm0 : mk ≠ kl0 := ne_of_none fmk nkl0
  have nm1 : mk ≠ kl1 := ne_of_none (s4 _ _ fmk) nkl1
  have nmo0 : mk ≠ o0 := ne_of_none ((s4.trans s5) _ _ fmk) eo0.1
  have nmo1 : mk ≠ o1 := ne_of_none ((s4.trans s5) _ _ fmk) eo1.1
  obtain ⟨ua, ub, uc, uz⟩ := id zu
  have hbz : But (· = u) H Hz := b02.trans (s3.trans s36).but
  have fresh : ∀ {a : Addr}, H2 a = none → H a = none := fun h => b02.free (fun a e => by
    rw [e]
    obtain ⟨a, b, c, z⟩ := u2
    rw [z]; intro w; cases w) h
  have nc0 : H c0 = none := fresh (s3.free hc0)
  have nc1 : H c1 = none := fresh ((s3.trans s4).free hc1)
  have now' : H ow = none := fresh (((s3.trans s4).trans s5).free eow.1)
  have nmk : H mk = none := by
    refine fresh ?_
    by_cases e : mk = sz
    · rw [e]; exact hsz
    · rw [upd_ne e] at hmk; exact hmk
  clear fsz fmk hc0 fkl0 fc0 nkl0 hc1 fkl1 fc1 nkl1 s3 s4 s5 s6 s36 fresh hsz hmk b02 u2
  have eca := eca.2
  have eo0 := eo0.2
  have eo1 := eo1.2
  have eow := eow.2
  -- the marks
  dsimp only
  refine seq_by (fun σ' H' => ∃ (x5 x6 : Option V) (ms : List V) (dm : List PyData), σ' = [some (.ref u), some (.ref sz), some (.ref mk), some (.ref ca), some (.ref ow), x5, x6, none, none, none, none, none, none, none] ∧ H' mk = some (.lst ms) ∧ DpAll K H' ms dm ∧ Marks dm ∧ dm.length ≤ 28 ∧ 0 < dm.length ∧ Urn H' u ∧ But (fun a => a = u ∨ a = mk) Hz H') ?_ ?_
  · intro N rest
    refine ⟨_, rfl, by show 3 ≤ sizeLine; decide, fun p hp => ?_⟩
    refine ⟨u, p, _, rfl, zu.ne hp, .of upd_same, by decide, by decide, zu.new hp, fun j v H1 hj u1 b1 => ?_⟩
    obtain ⟨m, rfl, hm1, hm2⟩ : ∃ m : Int, v = .int m ∧ 2 ≤ m ∧ m ≤ 24 := by
      have hm := List.mem_of_getElem? hj
      simp only [List.mem_cons, List.not_mem_nil, or_false] at hm
      rcases hm with rfl | rfl | rfl
      · exact ⟨2, rfl, by decide, by decide⟩
      · exact ⟨6, rfl, by decide, by decide⟩
      · exact ⟨24, rfl, by decide, by decide⟩
    refine ⟨_, _, rfl, rfl, _, rfl, by omega, by omega, ?_⟩
    have b1' : But (· = u) Hz H1 := (Same.new (o := .lst [.int 2, .int 6, .int 24]) hp).but.trans b1
    have nmu : mk ≠ u := fun e => by rw [e, uz] at zmk; cases zmk
    refine for_range (lo := 0) (n := (4 + m).toNat) (fun i σ' H' => ∃ (x5 x6 : Option V) (ms : List V) (dm : List PyData), σ' = [some (.ref u), some (.ref sz), some (.ref mk), some (.ref ca), some (.ref ow), x5, x6, none, none, none, none, none, none, none] ∧ H' mk = some (.lst ms) ∧ DpAll K H' ms dm ∧ Marks dm ∧ dm.length ≤ i ∧ (0 < i → 0 < dm.length) ∧ Urn H' u ∧ But (fun a => a = u ∨ a = mk) Hz H')
      ⟨none, none, [], [], rfl, b1' _ _ nmu zmk, .nil, (fun d hd => by cases hd), Nat.zero_le _, (fun h => absurd h (by decide)), u1, b1'.mono fun a e => .inl e⟩ ?_ ?_
    · rintro i σ H0 hi ⟨x5, x6, ms, dm, rfl, em, dp, mm, ml, mn, u0, b0⟩
      refine gname_of ?_
      dsimp only
      refine ⟨_, rfl, u, 2, rfl, by decide, u0, fun p ds H3 hp3 hput b3 u3 => ?_⟩
      have hmark : Mark (.tuple ds) := ⟨hput.ok, ⟨ds, rfl⟩, hput.dp⟩
      have em3 := b3 _ _ nmu em
      have im := (mk_immAll _ mm.all).1
      have dp3 := Dp.keepAll (u0.tupK b3) _ _ im dp
      have b03 := b0.trans (b3.mono (T := fun a => a = u ∨ a = mk) fun a e => .inl e)
      refine ⟨_, rfl, _, rfl, .tuple ds, dm, hp3, .lst (.of em3) dp3, hmark.shaped, mm.shaped.1, _, rfl, ?_⟩
      cases hb : dm.any fun z => PyData.eqv z (.tuple ds) with
      | true =>
        refine iteF ⟨_, _, ms, dm, rfl, em3, dp3, mm, by omega, fun _ => ?_, u3, b03⟩
        cases dm with
        | nil => cases hb
        | cons a r => exact Nat.succ_pos _
      | false =>
        refine iteT ⟨_, rfl, .inl ⟨rfl, ms, .of em3⟩, _, rfl, mk, ms, _, rfl, rfl, em3, ?_, ?_⟩
        · rw [DpAll.length dp]
          exact Nat.lt_of_le_of_lt (show _ ≤ 28 by omega) (by decide)
        · refine ⟨_, _, ms ++ [.ref p], dm ++ [.tuple ds], rfl, upd_same, ?_, ?_, ?_, ?_, ?_, b03.put (.inr rfl)⟩
          · exact DpAll.app (Dp.keepAll (TupK.lst em3) _ _ im dp3) (.cons (Dp.keep (TupK.lst em3) _ _ hmark.imm hp3) .nil)
          · intro d hd
            rcases List.mem_append.mp hd with hd | hd
            · exact mm d hd
            · rw [List.mem_singleton] at hd
              rw [hd]; exact hmark
          · rw [List.length_append]
            show dm.length + 1 ≤ i + 1
            omega
          · intro _
            rw [List.length_append]
            show 0 < dm.length + 1
            omega
          · obtain ⟨a, b, c, z⟩ := u3
            exact ⟨a, b, c, by rw [upd_ne nmu.symm]; exact z⟩
    · rintro σ H0 ⟨x5, x6, ms, dm, rfl, em, dp, mm, ml, mn, u0, b0⟩
      exact rest _ _ ⟨x5, x6, ms, dm, rfl, em, dp, mm, by omega, mn (by omega), u0, b0⟩
  rintro σ Hm ⟨x5, x6, ms, dm, rfl, em, dp, mm, ml, mn, u0, b0⟩
  obtain ⟨c, n, o, hW, hnew⟩ : ∃ (c : Bool → Addr) (n : Bool → Nat) (o : Bool → Addr), Wld K T.C_Cache u ow sz ca mk c n ms dm Hm o (fun _ => []) ∧ ∀ a, SS u ow c a → a = u ∨ H a = none := by
    refine ⟨fun b => cond b c1 c0, fun b => cond b n1 n0, fun b => cond b o1 o0, ?_, ?_⟩
    · have nn : ∀ {a : Addr} {x : HO}, Hz a = some x → a ≠ u → a ≠ mk → Hm a = some x := fun e h1 h2 => b0 _ _ (fun z => z.elim h1 h2) e
      have du : ∀ {a : Addr} {x : HO}, Hz a = some x → x ≠ .lst [.int ua, .int ub, .int uc] → a ≠ u := fun e d => ne_of e uz d
      have dm' : ∀ {a : Addr} {x : HO}, Hz a = some x → x ≠ .lst [] → a ≠ mk := fun e d => ne_of e zmk d
      have notS : ∀ {a : Addr} {l : List V}, Hz a = some (.lst l) → a ≠ u → l ≠ [.ref o0, .ref o1] → ¬ SS u ow (fun b => cond b c1 c0) a := by
        rintro a l e h1 h2 (z | ⟨b, z⟩ | z)
        · exact h1 z
        · cases b
          · have z : a = c0 := z
            rw [z, zc0] at e
            cases e
          · have z : a = c1 := z
            rw [z, zc1] at e
            cases e
        · rw [z, eow] at e
          injection e with e
          injection e with e
          exact h2 e.symm
      have nco : c0 ≠ o0 := ne_of zc0 eo0 (by intro z; cases z)
      have usz := du zsz (by simp)
      have uca := du eca (by simp)
      have uow := du eow (by simp)
      have umk := du zmk (by simp)
      have uk0 := du zk0 (by simp)
      have uk1 := du zk1 (by simp)
      have uo0 := du eo0 (by simp)
      have uo1 := du eo1 (by simp)
      have uc0 := du zc0 (by simp)
      have uc1 := du zc1 (by simp)
      have nil2 : ([] : List V) ≠ [.ref o0, .ref o1] := by simp
      refine ⟨u0, nn eow uow (dm' eow (by simp)), fun b => ?_, ⟨?_, ?_, ?_, ?_, mm, by omega, mn, ncc, fun b => ?_, fun b => ?_, uow, umk⟩⟩
      · cases b
        · exact ⟨⟨x0, kl0, [], nn zc0 uc0 (dm' zc0 (by simp)), fun H' k => .of (k _ _ (notS zk0 uk0 nil2) (nn zk0 uk0 nm0.symm)), .nil⟩, ⟨(fun e he => by cases he), Nat.zero_le _, hn0, .nil⟩, ⟨[], fun H' k => .of (k _ _ (notS eo0 uo0 nil2) (nn eo0 uo0 nmo0.symm)), .nil⟩, fun e he => by cases he⟩
        · exact ⟨⟨x1, kl1, [], nn zc1 uc1 (dm' zc1 (by simp)), fun H' k => .of (k _ _ (notS zk1 uk1 nil2) (nn zk1 uk1 nm1.symm)), .nil⟩, ⟨(fun e he => by cases he), Nat.zero_le _, (by show n1 ≤ 20; omega), .nil⟩, ⟨[], fun H' k => .of (k _ _ (notS eo1 uo1 nil2) (nn eo1 uo1 nmo1.symm)), .nil⟩, fun e he => by cases he⟩
      · exact fun H' k => .of (k _ _ (notS zsz usz (by simp)) (nn zsz usz (dm' zsz (by simp))))
      · exact fun H' k => .of (k _ _ (notS eca uca (by simp [nco])) (nn eca uca (dm' eca (by simp))))
      · exact fun H' k => .of (k _ _ (notS zmk umk nil2) em)
      · refine fun H' k => Dp.keepAll (k.tupK fun a xs ha => ?_) _ _ (mk_immAll _ mm.all).1 dp
        rcases ha with z | ⟨b, z⟩ | z
        · rw [z]
          obtain ⟨a1, b1, c1', w⟩ := u0
          exact not_tup_lst w
        · have ins_no : ∀ {a : Addr} {C x : Addr} {fs : List (Str × V)}, Hm a = some (.ins C x fs) → ¬ Rd Hm a (.tup xs) := fun e r => by rcases r with r | ⟨o, r⟩ <;> rw [e] at r <;> cases r
          cases b
          · rw [z]; exact ins_no (nn zc0 uc0 (dm' zc0 (by simp)))
          · rw [z]; exact ins_no (nn zc1 uc1 (dm' zc1 (by simp)))
        · rw [z]; exact not_tup_lst (nn eow uow (dm' eow (by simp)))
      · cases b
        · exact uc0
        · exact uc1
      · cases b
        · exact ne_of zc0 eow (by simp)
        · exact ne_of zc1 eow (by simp)
    · rintro a (z | ⟨b, z⟩ | z)
      · exact .inl z
      · cases b
        · exact .inr (by rw [z]; exact nc0)
        · exact .inr (by rw [z]; exact nc1)
      · exact .inr (by rw [z]; exact now')
  have hbm : But (· = u) H Hm := But.skip2 hbz b0 fun a e => e.imp id fun e => by rw [e]; exact nmk
  clear eca eo0 eo1 eow zu zsz zmk zc0 zk0 zc1 zk1 ncc nm0 nm1 nmo0 nmo1 uz hbz nc0 nc1 now' nmk em dp mm ml mn u0 b0 hn0 k1 k2
  -- the main loop
  refine seq_by (fun σ' H' => ∃ (x5 x6 x7 x8 x9 x10 x11 x12 : Option V) (o : Bool → Addr) (es : Bool → List En), σ' = [some (.ref u), some (.ref sz), some (.ref mk), some (.ref ca), some (.ref ow), x5, x6, x7, x8, x9, x10, x11, x12, none] ∧ Wld K T.C_Cache u ow sz ca mk c n ms dm H' o es ∧ But (SS u ow c) Hm H') ?_ ?_
  · intro N rest
    refine ⟨60, rfl, by decide, by decide, ?_⟩
    refine for_range (lo := 0) (n := 60) (fun i σ' H' => ∃ (x5 x6 x7 x8 x9 x10 x11 x12 : Option V) (o : Bool → Addr) (es : Bool → List En), σ' = [some (.ref u), some (.ref sz), some (.ref mk), some (.ref ca), some (.ref ow), x5, x6, x7, x8, x9, x10, x11, x12, none] ∧ Wld K T.C_Cache u ow sz ca mk c n ms dm H' o es ∧ But (SS u ow c) Hm H')
      ⟨x5, x6, none, none, none, none, none, none, o, fun _ => [], rfl, hW, But.refl _⟩ ?_ (fun σ' H' h => rest σ' H' h)
    clear hW o x5 x6 rest
    rintro i σ H0 hi ⟨x5, x6, x7, x8, x9, x10, x11, x12, o, es, rfl, hW, hb⟩
    refine gname_of ?_
    dsimp only
    -- at, mark
    refine ⟨_, rfl, u, 2, rfl, by decide, by decide, hW.urF, fun k H1 k1 k2 u1 b1 => ?_⟩
    obtain ⟨b, rfl⟩ := bi_of k1 k2
    have hW1 := hW.draw b1 u1
    have hb1 := hb.trans (butU (ow := ow) (c := c) b1)
    have lm : ms.length = dm.length := DpAll.length hW1.fx.dpF.now
    have fx := hW1.fx
    refine ⟨_, rfl, _, rfl, u, mk, ms, rfl, fx.mu, fx.mkF.now, (by rw [lm]; exact fx.mn), (by rw [lm]; have := fx.ml; omega), u1, fun j v H2 hj u2 b2 => ?_⟩
    have hW2 := hW1.draw b2 u2
    have hb2 := hb1.trans (butU (ow := ow) (c := c) b2)
    obtain ⟨d, hdj, hdv⟩ := DpAll.get hW2.fx.dpF.now hj
    have hd : Mark d := fx.mm d (List.mem_of_getElem? hdj)
    refine ⟨by show 2 ≤ sizeLine; decide, fun p hp => ?_⟩
    refine ⟨p, _, rfl, .of upd_same, rfl, _, _, rfl, _, _, rfl, rfl, ?_⟩
    have s3 := Same.new (o := .tup [.int (bi b), v]) hp
    have hW3 := hW2.same s3
    have hb3 := hb2.trans s3.but
    have hvS : Sta (SS u ow c) (upd H2 p (.tup [.int (bi b), v])) (fun H => Dp K H v d) := fun H' k' => by
      obtain ⟨d', e1, e2⟩ := DpAll.get (hW3.fx.dpF H' k') hj
      rw [hdj] at e1
      cases e1
      exact e2
    generalize upd H2 p (.tup [.int (bi b), v]) = H3 at hW3 hb3 hvS ⊢
    have hE := (hW3.hf b).eA
    have fx3 := hW3.fx
    have len20 : (es b).length ≤ 20 := Nat.le_trans hE.le hE.n20
    -- cache, own
    refine ⟨_, rfl, _, rfl, ca, _, bi b, _, rfl, rfl, fx3.caF.now, two_at _ b, ?_⟩
    refine ⟨_, rfl, _, rfl, ow, _, bi b, _, rfl, rfl, .of hW3.owF, two_at _ b, _, _, rfl, ?_⟩
    -- kept
    obtain ⟨os, w1, w2⟩ := (hW3.hf b).oA
    refine ⟨_, rfl, o b, rfl, ⟨os, w1.now⟩, fun D hD => ?_⟩
    refine lc_own (r := rEqD K) (f := fun e => PyData.eqv e d) (S := SS u ow c) w1.now w2 hD hE hvS.now hd (fun x y H Q e h1 h2 hm q => ⟨e, d, h1, h2, hm.shaped, hd.shaped, q⟩) (fun _ => rfl) (fun _ _ _ q => ⟨_, rfl, q⟩) (fun _ _ _ q => ⟨_, rfl, q⟩) ?_
    intro H4 ks eD hks s4
    have hW4 := hW3.same s4
    have hb4 := hb3.trans s4.but
    have nD : ¬ SS u ow c D := hW3.occ.no hD
    have hks4 : Owns K (SS u ow c) H4 ks (eqE d (es b)) := hks.keep s4.but
    have hv4 := hvS.keep (s4.but)
    clear hks w1 w2 hvS hdv
    dsimp only
    refine seq_by (fun σ' H' => ∃ (x5 x6 x7 x8 x9 x10 x11 x12 : Option V) (o : Bool → Addr) (es : Bool → List En), σ' = [some (.ref u), some (.ref sz), some (.ref mk), some (.ref ca), some (.ref ow), x5, x6, x7, x8, x9, x10, x11, x12, none] ∧ Wld K T.C_Cache u ow sz ca mk c n ms dm H' o es ∧ But (SS u ow c) Hm H') ?_ ?_
    · intro N2 rest
      refine ⟨_, rfl, u, 2, rfl, by decide, by decide, hW4.urF, fun k H5 k1' k2' u5 b5 => ?_⟩
      have hW5 := hW4.draw b5 u5
      have b5S := butU (ow := ow) (c := c) b5
      have hb5 := hb4.trans b5S
      have eD5 : H5 D = some (.lst ks) := b5S _ _ nD eD
      have hks5 := hks4.keep b5S
      have hv5 := hv4.keep b5S
      obtain ⟨os, w1, w2⟩ := (hW5.hf b).oA
      refine ⟨rfl, _, rfl, ?_⟩
      refine ite2 (fun hc => ?_) (fun hc => ?_)
      · -- find
        refine asg_by (fun tv H6 => CaOk K T.C_Cache (SS u ow c) H6 (c b) (n b) (neE d (es b) ++ eqE d (es b)) ∧ But (· = c b) H5 H6 ∧ (eqE d (es b) = [] ∧ tv = .non ∨ ∃ e, eqE d (es b) = [e] ∧ e ∈ es b ∧ tv = e.r)) ?_ ?_
        · intro Q1 rest1
          obtain ⟨dx, kl, ps, z, _⟩ := id (hW5.hf b).cA
          refine ⟨_, rfl, c b, dx, _, rfl, z, cf_no _ _ (by decide +kernel) (by decide +kernel), _, rfl, ?_⟩
          refine ⟨SS u ow c, c b, n b, es b, v, d, rfl, .inr (.inl ⟨b, rfl⟩), hW5.occ, (hW5.hf b).cA, hE, hv5, hd, fun he H6 s6 => ?_, fun e he hed H6 k6 hC6 => ?_⟩
          · refine rest1 _ _ ⟨?_, s6.but, .inl ⟨he, rfl⟩⟩
            rw [he, List.append_nil, eqE_nil he]
            exact (hW5.hf b).cA.same s6
          · refine rest1 _ _ ⟨by rw [he]; exact hC6, k6, .inr ⟨e, he, ?_, rfl⟩⟩
            have : e ∈ eqE d (es b) := by rw [he]; exact List.mem_singleton.mpr rfl
            exact (List.mem_filter.mp this).1
        rintro tv H6 ⟨hC6, k6, htv⟩
        have k6S := butC (u := u) (ow := ow) (c := c) k6
        have eD6 : H6 D = some (.lst ks) := k6S _ _ nD eD5
        have hks6 := hks5.keep k6S
        have hv6 := hv5.keep k6S
        have w1 := w1.keep k6S
        have w2 := w2.keep k6S
        have occ6 : Occ (SS u ow c) H6 := hW5.occ.but k6 (by obtain ⟨dx, kl, ps, z, _⟩ := hC6; rw [z]; simp)
        obtain ⟨rd, hrd, hrS⟩ : ∃ rd, Shw rd ∧ Sta (SS u ow c) H6 (fun H => DpR K H tv rd) := by
          rcases htv with ⟨_, rfl⟩ | ⟨e, _, hm, rfl⟩
          · exact ⟨.none, shw_none, fun H' k => .inl .non⟩
          · exact ((hW5.hf b).rA e hm).keep k6S
        refine seq_by (fun σ' H' => σ' = [some (.ref u), some (.ref sz), some (.ref mk), some (.ref ca), some (.ref ow), some (.int (0 + (i : Int))), some v, some (.int (bi b)), some (.ref (c b)), some (.ref (o b)), some (.ref D), some tv, x12, none] ∧ Same H6 H') ?_ ?_
        · intro N3 rest3
          refine ⟨_, rfl, tv, rd, rfl, hrS.now, hrd.sh, hrd.nd, hrd.ln, hrd.dp, ?_⟩
          refine ⟨_, rfl, Nat.zero_le _, fun z hz => ?_⟩
          have s7 := Same.new (o := .lst []) hz
          refine ⟨D, z, ks, rfl, rfl, .of (s7 _ _ eD6), .of upd_same, _, rfl, ?_⟩
          rcases htv with ⟨he, htv⟩ | ⟨e, he, hm, htv⟩
          · rw [he] at hks6
            have hk0 := owns_nil hks6
            refine iteB' (by rw [hk0]; rfl) ?_
            refine ⟨.non, .none, rfl, .inl .non, shw_none.sh, shw_none.nd, shw_none.ln, shw_none.dp, ?_⟩
            have er : rd = .none := by
              have w := hrS.now
              rw [htv] at w
              rcases w with w | ⟨_, a, w, _⟩
              · cases w; rfl
              · cases w
            rw [er]
            refine ⟨rfl, _, rfl, iteB' (by simp) (rest3 _ _ ⟨rfl, s7⟩)⟩
          · rw [he] at hks6
            obtain ⟨a, m, hk0, hst⟩ := owns_one hks6
            refine iteB (by rw [hk0]; rfl) ?_
            refine ⟨_, rfl, D, ks, 0, .ref a, rfl, rfl, .of (s7 _ _ eD6), (by rw [hk0]; rfl), a, [m, e.r], 1, e.r, rfl, rfl, s7.sqL hst.now.1, rfl, ?_⟩
            refine ⟨e.r, rd, rfl, (by rw [← htv]; exact hrS _ s7.but), hrd.sh, hrd.nd, hrd.ln, hrd.dp, ?_⟩
            refine ⟨rfl, _, rfl, iteB' (by simp) (rest3 _ _ ⟨rfl, s7⟩)⟩
        rintro σ H7 ⟨rfl, s7⟩
        refine ⟨_, rfl, o b, rfl, ⟨os, s7.sqL w1.now⟩, fun D2 hD2 => ?_⟩
        refine lc_own (r := rNeD K) (f := fun e => !PyData.eqv e d) (S := SS u ow c) (s7.sqL w1.now) (w2.keep s7.but) hD2 hE (hv6 _ s7.but) hd (fun x y H Q e h1 h2 hm q => ⟨e, d, h1, h2, hm.shaped, hd.shaped, q⟩) (fun _ => rfl) (fun _ _ _ q => ⟨_, rfl, q⟩) (fun _ _ _ q => ⟨_, rfl, q⟩) ?_
        intro H8 acc eD8 hacc s8
        have s68 := s7.trans s8
        have owe : H8 ow = some (.lst (two fun k => .ref (o k))) := s68 _ _ (k6 _ _ (hW5.fx.oc b).symm hW5.owF)
        refine ⟨_, rfl, D2, D, acc, ks, rfl, rfl, eD8, s68 _ _ eD6, ?_, fun p9 hp9 => ?_⟩
        · rw [hacc.length, hks6.length]
          have := split_len d (es b)
          unfold neE at this
          exact Nat.le_trans (show _ ≤ 20 by omega) (by decide)
        obtain ⟨jx, hj1, hj2⟩ := two_set (fun k => V.ref (o k)) b (.ref p9)
        have npo : p9 ≠ ow := fun e => by rw [e, owe] at hp9; cases hp9
        refine ⟨_, rfl, _, rfl, ow, _, bi b, jx, rfl, rfl, (Same.new hp9) _ _ owe, hj1, ?_⟩
        rw [hj2]
        have s9 := s68.step (o := .lst (acc ++ ks)) hp9
        have k69 : But (· = ow) H6 (upd (upd H8 p9 (.lst (acc ++ ks))) ow (.lst (two (put (fun k => V.ref (o k)) b (.ref p9))))) := s9.but.put rfl
        have ep9 : upd (upd H8 p9 (.lst (acc ++ ks))) ow (.lst (two (put (fun k => V.ref (o k)) b (.ref p9)))) p9 = some (.lst (acc ++ ks)) := by rw [upd_ne npo, upd_same]
        have eow9 : upd (upd H8 p9 (.lst (acc ++ ks))) ow (.lst (two (put (fun k => V.ref (o k)) b (.ref p9)))) ow = some (.lst (two (put (fun k => V.ref (o k)) b (.ref p9)))) := upd_same
        have k79 : But (SS u ow c) H7 (upd (upd H8 p9 (.lst (acc ++ ks))) ow (.lst (two (put (fun k => V.ref (o k)) b (.ref p9))))) := (s8.but.new hp9).put (.inr (.inr rfl))
        have np9 : ¬ SS u ow c p9 := (occ6.same s68).no hp9
        generalize upd (upd H8 p9 (.lst (acc ++ ks))) ow (.lst (two (put (fun k => V.ref (o k)) b (.ref p9)))) = H9 at k69 ep9 eow9 k79 ⊢
        have k69S : But (SS u ow c) H6 H9 := k69.mono fun a e => .inr (.inr e)
        obtain ⟨ya, yb, yc, yz⟩ := id u5
        have u9 : Urn H9 u := ⟨ya, yb, yc, k69 _ _ hW5.fx.ou.symm (k6 _ _ (hW5.fx.cu b).symm yz)⟩
        have k59 : But (fun a => a = u ∨ a = c b ∨ a = ow) H5 H9 := (k6.mono fun a e => .inr (.inl e)).trans (k69.mono fun a e => .inr (.inr e))
        have ec9 : H9 (c b) = H6 (c b) := by
          obtain ⟨dx, kl, ps, z, _⟩ := id hC6
          rw [z]
          exact k69 _ _ (hW5.fx.oc b) z
        have hh : Half K T.C_Cache (SS u ow c) H9 (c b) p9 (n b) (neE d (es b) ++ eqE d (es b)) := by
          refine ⟨hC6.keep k69S ec9, found_ok hE hd, ⟨acc ++ ks, fun H' k => .of (k _ _ np9 ep9), Owns.app (Owns.keep k79 hacc) (hks6.keep k69S)⟩, fun e he => ?_⟩
          have hm : e ∈ es b := by
            rcases List.mem_append.mp he with he | he
            · exact (neE_mem he).1
            · exact (List.mem_filter.mp he).1
          exact (((hW5.hf b).rA e hm).keep k6S).keep k69S
        exact rest _ _ ⟨_, _, _, _, _, _, _, _, _, _, rfl, hW5.put k59 u9 eow9 hh, hb5.trans (k6S.trans k69S)⟩
      · -- keep
        refine ⟨_, rfl, u, rfl, u5, fun r H6 b6 u6 hrow => ?_⟩
        have hW6 := hW5.draw b6 u6
        have b6S := butU (ow := ow) (c := c) b6
        have hr6 : RowOk K (SS u ow c) H6 r := hrow _ hW5.occ
        have hb6 := hb5.trans b6S
        have hv6 := hv5.keep b6S
        have w1 := w1.keep b6S
        have w2 := w2.keep b6S
        clear b6 hrow eD5 hks5 eD hks4 hv4 hb4 hW4
        refine gname_of ?_
        dsimp only
        refine asg_by (fun tv H7 => tv = .non ∧ CaOk K T.C_Cache (SS u ow c) H7 (c b) (n b) (useE (n b) (es b) r d) ∧ But (· = c b) H6 H7) ?_ ?_
        · intro Q1 rest1
          obtain ⟨dx, kl, ps, z, _⟩ := id (hW6.hf b).cA
          refine ⟨_, rfl, .inl ⟨_, rfl, _, _, rfl, rfl, (by show (0 : Int) < 2; decide), rfl, _, rfl, ?_⟩⟩
          refine ite2 (fun hc => ?_) (fun hc => ?_)
          · refine ⟨_, rfl, c b, dx, _, rfl, z, cf_no _ _ (by decide +kernel) (by decide +kernel), _, rfl, _, rfl, ?_⟩
            exact ⟨SS u ow c, c b, n b, es b, v, r, d, rfl, .inr (.inl ⟨b, rfl⟩), hW6.occ, (hW6.hf b).cA, hE, hv6, hd, fun H7 k7 hC7 => rest1 _ _ ⟨rfl, hC7, k7⟩⟩
          · refine ⟨_, rfl, c b, dx, _, rfl, z, cf_no _ _ (by decide +kernel) (by decide +kernel), _, rfl, _, rfl, ?_⟩
            exact ⟨SS u ow c, c b, n b, es b, v, r, d, rfl, .inr (.inl ⟨b, rfl⟩), hW6.occ, (hW6.hf b).cA, hE, hv6, hd, fun H7 k7 hC7 => rest1 _ _ ⟨rfl, hC7, k7⟩⟩
        rintro tv H7 ⟨rfl, hC7, k7⟩
        refine ⟨_, rfl, rfl, _, rfl, iteB' (by simp) ?_⟩
        have k7S := butC (u := u) (ow := ow) (c := c) k7
        have hv7 := hv6.keep k7S
        have hr7 := hr6.keep k7S
        have w1 := w1.keep k7S
        have w2 := w2.keep k7S
        have occ7 : Occ (SS u ow c) H7 := hW6.occ.but k7 (by obtain ⟨dx, kl, ps, z, _⟩ := hC7; rw [z]; simp)
        refine ⟨_, rfl, o b, rfl, ⟨os, w1.now⟩, fun D2 hD2 => ?_⟩
        refine lc_own (r := rNeD K) (f := fun e => !PyData.eqv e d) (S := SS u ow c) w1.now w2 hD2 hE hv7.now hd (fun x y H Q e h1 h2 hm q => ⟨e, d, h1, h2, hm.shaped, hd.shaped, q⟩) (fun _ => rfl) (fun _ _ _ q => ⟨_, rfl, q⟩) (fun _ _ _ q => ⟨_, rfl, q⟩) ?_
        intro H8 acc eD8 hacc s8
        refine ⟨_, rfl, _, rfl, by show 2 ≤ sizeLine; decide, fun a ha => ?_⟩
        refine ⟨by show 1 ≤ sizeLine; decide, fun l hl => ?_⟩
        have s8a := s8.step (o := .lst [v, r]) ha
        have s8l := s8a.step (o := .lst [.ref a]) hl
        have k8l := (Same.new (o := .lst [v, r]) ha).step (o := .lst [.ref a]) hl
        have eal : upd (upd H8 a (.lst [v, r])) l (.lst [.ref a]) a = some (.lst [v, r]) := Same.new hl _ _ upd_same
        have ell : upd (upd H8 a (.lst [v, r])) l (.lst [.ref a]) l = some (.lst [.ref a]) := upd_same
        have ea0 : H7 a = none := s8.free ha
        generalize upd (upd H8 a (.lst [v, r])) l (.lst [.ref a]) = H9 at s8l k8l eal ell ⊢
        have owe : H9 ow = some (.lst (two fun k => .ref (o k))) := s8l _ _ (k7 _ _ (hW6.fx.oc b).symm hW6.owF)
        have la : acc.length ≤ 20 := by
          rw [hacc.length]
          have := split_len d (es b)
          unfold neE at this
          omega
        refine ⟨D2, l, acc, [.ref a], rfl, rfl, k8l _ _ eD8, ell, Nat.le_trans (show _ ≤ 21 by show acc.length + 1 ≤ 21; omega) (by decide), fun p9 hp9 => ?_⟩
        obtain ⟨jx, hj1, hj2⟩ := two_set (fun k => V.ref (o k)) b (.ref p9)
        have npo : p9 ≠ ow := fun e => by rw [e, owe] at hp9; cases hp9
        refine ⟨_, rfl, _, rfl, ow, _, bi b, jx, rfl, rfl, (Same.new hp9) _ _ owe, hj1, ?_⟩
        rw [hj2]
        have s9 := s8l.step (o := .lst (acc ++ [.ref a])) hp9
        have ep9 : upd (upd H9 p9 (.lst (acc ++ [.ref a]))) ow (.lst (two (put (fun k => V.ref (o k)) b (.ref p9)))) p9 = some (.lst (acc ++ [.ref a])) := by rw [upd_ne npo, upd_same]
        have eow9 : upd (upd H9 p9 (.lst (acc ++ [.ref a]))) ow (.lst (two (put (fun k => V.ref (o k)) b (.ref p9)))) ow = some (.lst (two (put (fun k => V.ref (o k)) b (.ref p9)))) := upd_same
        have k7a : But (· = ow) H7 (upd (upd H9 p9 (.lst (acc ++ [.ref a]))) ow (.lst (two (put (fun k => V.ref (o k)) b (.ref p9))))) := s9.but.put rfl
        have k9a : But (SS u ow c) H9 (upd (upd H9 p9 (.lst (acc ++ [.ref a]))) ow (.lst (two (put (fun k => V.ref (o k)) b (.ref p9))))) := ((But.refl H9).new hp9).put (.inr (.inr rfl))
        generalize upd (upd H9 p9 (.lst (acc ++ [.ref a]))) ow (.lst (two (put (fun k => V.ref (o k)) b (.ref p9)))) = Ha at ep9 eow9 k7a k9a ⊢
        have k7aS : But (SS u ow c) H7 Ha := k7a.mono fun a e => .inr (.inr e)
        have fxa := (hW6.fx.keep k7S).keep k7aS
        -- cut
        refine ⟨_, rfl, _, rfl, ow, _, bi b, .ref p9, rfl, rfl, .of eow9, (by rw [two_at, put_same]), ?_⟩
        refine ⟨_, rfl, _, rfl, ow, _, bi b, .ref p9, rfl, rfl, .of eow9, (by rw [two_at, put_same]), p9, _, rfl, .inl (.of ep9), ?_⟩
        refine ⟨_, rfl, _, rfl, sz, _, bi b, _, rfl, rfl, fxa.szF.now, two_at _ b, _, _, rfl, rfl, _, _, rfl, _, rfl, ?_⟩
        refine ⟨p9, _, rfl, .of ep9, fun p2 hp2 => ?_⟩
        have lx : (acc ++ [V.ref a]).length = (neE d (es b) ++ [(⟨r, d⟩ : En)]).length := by
          rw [List.length_append, List.length_append, hacc.length]
          rfl
        have cut : cutV (acc ++ [V.ref a]) (some (if ((acc ++ [V.ref a]).length : Int) - (n b : Int) > 0 then ((acc ++ [V.ref a]).length : Int) - (n b : Int) else 0)) none = (acc ++ [V.ref a]).drop ((neE d (es b) ++ [(⟨r, d⟩ : En)]).length - n b) := by
          rw [← lx]
          have e : (if ((acc ++ [V.ref a]).length : Int) - (n b : Int) > 0 then ((acc ++ [V.ref a]).length : Int) - (n b : Int) else 0) = (((acc ++ [V.ref a]).length - n b : Nat) : Int) := by
            split <;> omega
          rw [e, cut_from]
        rw [cut]
        obtain ⟨jy, hj3, hj4⟩ := two_set (put (fun k => V.ref (o k)) b (.ref p9)) b (.ref p2)
        have np2 : p2 ≠ ow := fun e => by rw [e, eow9] at hp2; cases hp2
        refine ⟨_, rfl, _, rfl, ow, _, bi b, jy, rfl, rfl, (Same.new hp2) _ _ eow9, hj3, ?_⟩
        rw [hj4, put_put]
        have occa : Occ (SS u ow c) Ha := fun x hx e => by
          by_cases z : x = ow
          · rw [z, eow9] at e; cases e
          · cases w : H7 x with
            | none => exact occ7 x hx w
            | some o => rw [k7a _ _ z w] at e; cases e
        have nS2 : ¬ SS u ow c p2 := occa.no hp2
        have kab : But (· = ow) Ha (upd (upd Ha p2 (.lst ((acc ++ [V.ref a]).drop ((neE d (es b) ++ [(⟨r, d⟩ : En)]).length - n b)))) ow (.lst (two (put (fun k => V.ref (o k)) b (.ref p2))))) := ((But.refl Ha).new hp2).put rfl
        have ep2 : upd (upd Ha p2 (.lst ((acc ++ [V.ref a]).drop ((neE d (es b) ++ [(⟨r, d⟩ : En)]).length - n b)))) ow (.lst (two (put (fun k => V.ref (o k)) b (.ref p2)))) p2 = some (.lst ((acc ++ [V.ref a]).drop ((neE d (es b) ++ [(⟨r, d⟩ : En)]).length - n b))) := by rw [upd_ne np2, upd_same]
        have eowb : upd (upd Ha p2 (.lst ((acc ++ [V.ref a]).drop ((neE d (es b) ++ [(⟨r, d⟩ : En)]).length - n b)))) ow (.lst (two (put (fun k => V.ref (o k)) b (.ref p2)))) ow = some (.lst (two (put (fun k => V.ref (o k)) b (.ref p2)))) := upd_same
        generalize upd (upd Ha p2 (.lst ((acc ++ [V.ref a]).drop ((neE d (es b) ++ [(⟨r, d⟩ : En)]).length - n b)))) ow (.lst (two (put (fun k => V.ref (o k)) b (.ref p2)))) = Hb at kab ep2 eowb ⊢
        have kabS : But (SS u ow c) Ha Hb := kab.mono fun a e => .inr (.inr e)
        have k7b : But (· = ow) H7 Hb := k7a.trans kab
        have k7bS : But (SS u ow c) H7 Hb := k7aS.trans kabS
        obtain ⟨ya, yb, yc, yz⟩ := id u6
        have u9 : Urn Hb u := ⟨ya, yb, yc, k7b _ _ hW6.fx.ou.symm (k7 _ _ (hW6.fx.cu b).symm yz)⟩
        have k6b : But (fun a => a = u ∨ a = c b ∨ a = ow) H6 Hb := (k7.mono fun a e => .inr (.inl e)).trans (k7b.mono fun a e => .inr (.inr e))
        have ecb : Hb (c b) = H7 (c b) := by
          obtain ⟨dx, kl, ps, z, _⟩ := id hC7
          rw [z]
          exact k7b _ _ (hW6.fx.oc b) z
        have naS : ¬ SS u ow c a := occ7.no ea0
        have hh : Half K T.C_Cache (SS u ow c) Hb (c b) p2 (n b) (useE (n b) (es b) r d) := by
          refine ⟨hC7.keep k7bS ecb, hE.use hd r, ⟨_, fun H' k => .of (k _ _ nS2 ep2), ?_⟩, fun e he => ?_⟩
          · refine Owns.drop _ (Owns.app (Owns.keep k7bS hacc) (.cons (fun H' k => ⟨.of (k _ _ naS ((k9a.trans kabS) _ _ naS eal)), hv7 _ (k7bS.trans k)⟩) .nil))
          · have hm := List.mem_of_mem_drop he
            rcases List.mem_append.mp hm with hm | hm
            · exact (((((hW5.hf b).rA e (neE_mem hm).1).keep b6S).keep k7S).keep k7bS)
            · rw [List.mem_singleton] at hm
              rw [hm]
              exact hr7.keep k7bS
        exact rest _ _ ⟨_, _, _, _, _, _, _, _, _, _, rfl, hW6.put k6b u9 eowb hh, hb6.trans (k7S.trans k7bS)⟩
    clear hW hb hW1 hb1 hW2 hb2 hW3 hb3 hW4 hb4 hks4 hv4 eD nD s4 fx fx3 hE len20 os
    rintro σ H9 ⟨y5, y6, y7, y8, y9, y10, y11, y12, o2, es2, rfl, hW, hb⟩
    refine ⟨_, rfl, ca, _, bi false, _, rfl, rfl, hW.fx.caF.now, two_at _ false, _, rfl, ow, _, bi false, _, rfl, rfl, .of hW.owF, two_at _ false, _, rfl, sz, _, bi false, _, rfl, rfl, hW.fx.szF.now, two_at _ false, ?_⟩
    refine ⟨SS u ow c, c false, o2 false, n false, es2 false, rfl, (hW.hf false).cA, (hW.hf false).eA, (hW.hf false).oA, fun Ha sa => ?_⟩
    have hWa := hW.same sa
    refine ⟨_, rfl, iteF ?_⟩
    refine ⟨_, rfl, ca, _, bi true, _, rfl, rfl, hWa.fx.caF.now, two_at _ true, _, rfl, ow, _, bi true, _, rfl, rfl, .of hWa.owF, two_at _ true, _, rfl, sz, _, bi true, _, rfl, rfl, hWa.fx.szF.now, two_at _ true, ?_⟩
    refine ⟨SS u ow c, c true, o2 true, n true, es2 true, rfl, (hWa.hf true).cA, (hWa.hf true).eA, (hWa.hf true).oA, fun Hb sb => ?_⟩
    exact ⟨_, rfl, iteF ⟨_, _, _, _, _, _, _, _, _, _, rfl, hWa.same sb, (hb.trans sa.but).trans sb.but⟩⟩
  clear hW o x5 x6
  rintro σ H1 ⟨x5, x6, x7, x8, x9, x10, x11, x12, o, es, rfl, hW, hb⟩
  refine seq_by (fun σ' H' => But (SS u ow c) Hm H') ?_ ?_
  · intro N rest
    refine ⟨by show 2 ≤ sizeLine; decide, fun p hp => ⟨p, rfl, ⟨_, .of upd_same⟩, ?_⟩⟩
    have np : ¬ SS u ow c p := hW.occ.no hp
    have s2 := Same.new (o := .tup [.int 0, .int 1]) hp
    have ep : upd H1 p (.tup [.int 0, .int 1]) p = some (.tup [.int 0, .int 1]) := upd_same
    have hW2 := hW.same s2
    have hb2 := hb.trans s2.but
    generalize upd H1 p (.tup [.int 0, .int 1]) = H2 at ep hW2 hb2 ⊢
    refine for_tup (K := K) (a := p) (xs := [.int 0, .int 1]) (fun i σ' H' => ∃ (x5 x6 x7 x8 x9 x10 x11 x12 : Option V), σ' = [some (.ref u), some (.ref sz), some (.ref mk), some (.ref ca), some (.ref ow), x5, x6, x7, x8, x9, x10, x11, x12, none] ∧ Wld K T.C_Cache u ow sz ca mk c n ms dm H' o es ∧ But (SS u ow c) Hm H' ∧ H' p = some (.tup [.int 0, .int 1]))
      ⟨_, _, _, _, _, _, _, _, rfl, hW2, hb2, ep⟩ (fun i σ' H' _ h => by obtain ⟨_, _, _, _, _, _, _, _, _, _, _, e⟩ := h; exact .of e) ?_ (fun σ' H' h => by obtain ⟨_, _, _, _, _, _, _, _, _, _, k, _⟩ := h; exact rest σ' H' k)
    clear hW2 hb2 ep hW hb x5 x6 x7 x8 x9 x10 x11 x12
    rintro i x σ H3 hi ⟨x5, x6, x7, x8, x9, x10, x11, x12, rfl, hW, hb, ep⟩
    obtain ⟨b, rfl⟩ : ∃ b, x = .int (bi b) := by
      have hm := List.mem_of_getElem? hi
      simp only [List.mem_cons, List.not_mem_nil, or_false] at hm
      rcases hm with rfl | rfl
      · exact ⟨false, rfl⟩
      · exact ⟨true, rfl⟩
    refine gname_of ?_
    dsimp only
    refine seq_by (fun σ' H' => ∃ (x5 x6 x8 x9 x10 x11 x12 : Option V), σ' = [some (.ref u), some (.ref sz), some (.ref mk), some (.ref ca), some (.ref ow), x5, x6, some (.int (bi b)), x8, x9, x10, x11, x12, none] ∧ Wld K T.C_Cache u ow sz ca mk c n ms dm H' o es ∧ But (SS u ow c) Hm H' ∧ H' p = some (.tup [.int 0, .int 1])) ?_ ?_
    · intro N2 rest2
      obtain ⟨os, w1, w2⟩ := (hW.hf b).oA
      refine ⟨_, rfl, _, rfl, ow, _, bi b, _, rfl, rfl, .of hW.owF, two_at _ b, o b, os, rfl, .inl w1.now, fun l hl => ⟨l, rfl, ⟨_, .of upd_same⟩, ?_⟩⟩
      have nl : ¬ SS u ow c l := hW.occ.no hl
      have s4 := Same.new (o := .lst os) hl
      have el : upd H3 l (.lst os) l = some (.lst os) := upd_same
      have hW4 := hW.same s4
      have hb4 := hb.trans s4.but
      have ep4 := s4 _ _ ep
      have w2 := w2.keep s4.but
      generalize upd H3 l (.lst os) = H4 at el hW4 hb4 ep4 w2 ⊢
      have cE := (hW4.hf b)
      have kS : ∀ {H' : Hp}, But (· = c b) H4 H' → But (SS u ow c) H4 H' := fun k => butC k
      refine for_list (K := K) (a := l) (xs := os) (fun i σ' H' => ∃ (x5 x6 x8 x9 x10 x11 x12 : Option V), σ' = [some (.ref u), some (.ref sz), some (.ref mk), some (.ref ca), some (.ref ow), x5, x6, some (.int (bi b)), x8, x9, x10, x11, x12, none] ∧ But (· = c b) H4 H' ∧ CaOk K T.C_Cache (SS u ow c) H' (c b) (n b) (rot i (es b)) ∧ EsOk (n b) (rot i (es b)))
        ⟨x5, x6, x8, x9, x10, x11, x12, rfl, But.refl _, by rw [rot_zero]; exact cE.cA, by rw [rot_zero]; exact cE.eA⟩ (fun i σ' H' _ h => by obtain ⟨_, _, _, _, _, _, _, _, k, _⟩ := h; exact .of (kS k _ _ nl el)) ?_ ?_
      · rintro j y σ H5 hj ⟨x5, x6, x8, x9, x10, x11, x12, rfl, k5, hC5, hE5⟩
        obtain ⟨a, m, e, rfl, he, st⟩ := w2.get hj
        have hd := cE.eA.mks e (List.mem_of_getElem? he)
        have st5 := st.keep (kS k5)
        refine ⟨a, [m, e.r], rfl, st5.now.1, rfl, _, _, rfl, _, _, rfl, rfl, ?_⟩
        have fx5 := hW4.fx.keep (kS k5)
        obtain ⟨dx, kl, ps, z, _⟩ := id hC5
        have occ5 : Occ (SS u ow c) H5 := hW4.occ.but k5 (by rw [z]; simp)
        refine ⟨_, rfl, _, rfl, ca, _, bi b, _, rfl, rfl, fx5.caF.now, two_at _ b, c b, dx, _, rfl, z, cf_no _ _ (by decide +kernel) (by decide +kernel), _, rfl, ?_⟩
        refine ⟨SS u ow c, c b, n b, rot j (es b), m, e.d, rfl, .inr (.inl ⟨b, rfl⟩), occ5, hC5, hE5, fun H' k => (st5 H' k).2, hd, fun z => absurd z (rot_none he hd), fun e' he' _ H6 k6 hC6 => ?_⟩
        obtain ⟨rfl, hr⟩ := rot_found he hd he'
        rw [hr] at hC6
        obtain ⟨rd, hrd, hrS⟩ := cE.rA e' (List.mem_of_getElem? he)
        have k46 := k5.trans k6
        refine ⟨e'.r, rd, rfl, hrS _ (kS k46), hrd.sh, hrd.nd, hrd.ln, hrd.dp, ?_⟩
        refine ⟨_, rfl, e'.r, rd, rfl, hrS _ (kS k46), hrd.sh, hrd.nd, hrd.ln, hrd.dp, ?_⟩
        exact ⟨rfl, _, rfl, iteB' (by simp) ⟨_, _, _, _, _, _, _, rfl, k46, hC6, rot_ok hE5 he hd⟩⟩
      · rintro σ H5 ⟨x5, x6, x8, x9, x10, x11, x12, rfl, k5, hC5, hE5⟩
        rw [w2.length, rot_end] at hC5
        exact rest2 _ _ ⟨x5, x6, x8, x9, x10, x11, x12, rfl, hW4.again k5 hC5, hb4.trans (kS k5), (kS k5) _ _ np ep4⟩
    rintro σ H5 ⟨x5, x6, x8, x9, x10, x11, x12, rfl, hW5, hb5, ep5⟩
    refine ⟨_, rfl, _, rfl, ca, _, bi b, _, rfl, rfl, hW5.fx.caF.now, two_at _ b, _, rfl, _, rfl, ow, _, bi b, _, rfl, rfl, .of hW5.owF, two_at _ b, _, rfl, _, rfl, sz, _, bi b, _, rfl, rfl, hW5.fx.szF.now, two_at _ b, ?_⟩
    refine ⟨SS u ow c, c b, o b, n b, es b, rfl, (hW5.hf b).cA, (hW5.hf b).eA, (hW5.hf b).oA, fun H6 s6 => ?_⟩
    exact ⟨_, rfl, iteF ⟨_, _, _, _, _, _, _, _, rfl, hW5.same s6, hb5.trans s6.but, s6 _ _ ep5⟩⟩
  rintro σ H9 k9
  exact q _ (But.skip2 hbm k9 hnew)
end
end K83
namespace K83
open PySem PySem.Spec PyProof.Rows L2
def spLaw (K : PySem.W.Frag) : Sp := fun vs H Q _ => ∃ (a : Addr) (ns : List Int), vs = [.ref a] ∧ SqL K H a (ns.map V.int) ∧ ns.length ≤ 63 ∧ ∀ H', Q (.bl true) H'
section
variable {P : Program} {w : World} {K : PySem.W.Frag} {mg : Str → Option Value} {base : Heap}
theorem ok_law (T : Txt P K mg) : FnG P w K mg base CX0 13 T.f_law T.d_law ["script"] (spLaw K) := by
  refine T.F_law.okG sc_law (fun vs H Q E h => by obtain ⟨a, ns, rfl, _⟩ := h; rfl) (fun cdv A outer s H vs Q E gd hr h => ⟨_, (pss_one (ps_ret (pe_callB (cr_all rfl) rfl T.z_all (by decide +kernel) (pa_cons (pe_lc (own := [("lap", 1)]) (te := tCall (spRight K) [] E0 (tCons (tCall (spUrn K) [] E0 (tCons (tVar 0) (tCons (tVar 1) tNil))) tNil)) rfl sc_law.nd (pi_range1 rfl T.z_range (pa_cons (pe_callB (call_max2 rfl) rfl T.z_max (by decide +kernel) (pa_cons pe_int (pa_cons (pe_callB (call_min2 rfl) rfl T.z_min (by decide +kernel) (pa_cons (pe_callB call_len_seq rfl T.z_len (by decide +kernel) (pa_cons (pv 0) pa_nil)) (pa_cons pe_int pa_nil))) pa_nil))) pa_nil)) (blkOk_by (own := [("lap", 1)]) (N := N_law) (sc := defScope s_law) (by decide +kernel)) (fun _ _ _ _ _ => (pg_name (i := 1) sc_law.nd rfl (by first | exact Or.inl rfl | exact Or.inr rfl))) (fun _ _ _ _ _ => (by exact pts_nil)) (fun _ _ _ _ _ => (by exact (pe_callG (by exact gd) (ok_law_right T) (hr.mono (by omega)) rfl T.g__law_right T.F_law_right.kp T.b_law_right .nil pass0 (pa_cons (pe_call (ok_law_urn T) (hr.mono (by omega)) rfl T.g__law_urn T.F_law_urn.kp T.b_law_urn .nil pass0 (pa_cons (pv 0) (pa_cons (pv 1) pa_nil))) pa_nil))))) pa_nil)))), ?_⟩)
  obtain ⟨a, ns, rfl, hS, hlen, q⟩ := h
  refine ⟨_, rfl, a, _, rfl, .inl hS, _, _, rfl, _, _, rfl, ?_⟩
  rw [List.length_map]
  obtain ⟨m, hm, hm4⟩ : ∃ m : Nat, (if (if (4 : Int) < (ns.length : Int) then (4 : Int) else (ns.length : Int)) > 2 then (if (4 : Int) < (ns.length : Int) then (4 : Int) else (ns.length : Int)) else 2) = (m : Int) ∧ m ≤ 4 := by
    refine ⟨(if (if (4 : Int) < (ns.length : Int) then (4 : Int) else (ns.length : Int)) > 2 then (if (4 : Int) < (ns.length : Int) then (4 : Int) else (ns.length : Int)) else 2).toNat, ?_, ?_⟩ <;> split <;> split <;> omega
  rw [hm]
  refine ⟨m, rfl, by omega, by omega, fun D hD => ?_⟩
  refine lc_range (n := m) (fun i H' => H' D = some (.lst ((List.replicate i true).map V.bl)) ∧ Same H H') ⟨upd_same, Same.new hD⟩ ?_ ?_
  · rintro i H1 hi ⟨e1, e2⟩
    refine ⟨rfl, _, rfl, _, rfl, a, ns, _, rfl, by omega, e2.seq hS, fun u H2 s2 hu urn => ?_⟩
    refine ⟨u, rfl, urn, fun H3 k3 => ?_⟩
    have s3 : Same H1 H3 := But.toSame (S := (· = u)) k3 s2 (fun b e => by rw [e]; exact hu)
    refine ⟨_, s3 _ _ e1, ?_, ?_, (e2.trans s3).own hD⟩
    · rw [List.length_map, List.length_replicate]
      exact Nat.lt_of_lt_of_le hi (Nat.le_trans hm4 (by decide))
    · rw [upd_same, List.replicate_succ', List.map_append]
      rfl
  · rintro H1 ⟨e1, e2⟩
    exact ⟨D, List.replicate m true, rfl, .of e1, of_dec (q H1) (by simp)⟩
end
theorem kn_Cache___init___size {K : PySem.W.Frag} {kV dc pm cd ct : Value} {an : Option Addr} : KBn K (PySem.W.fnOf "__init__" "Cache.__init__" (defArgs s_Cache___init__) (defBody s_Cache___init__) (defScope s_Cache___init__) .none kV dc pm an cd ct) ["self", "size"] 1 ["size"] (fun us ws => us ++ ws) (fun us ws => us ++ ws) where
  to := fun s us ws _ h1 h2 => by
    match us, h1, ws, h2 with
    | [_], _, [_], _ => exact .of_eq rfl
  rel := fun a b => a.append b
theorem kb_Cache_keep_rows_mark {K : PySem.W.Frag} {kV dc pm cd ct : Value} {an : Option Addr} : KBinds K (PySem.W.fnOf "keep" "Cache.keep" (defArgs s_Cache_keep) (defBody s_Cache_keep) (defScope s_Cache_keep) .none kV dc pm an cd ct) ["self", "mark", "rows"] ["rows", "mark"] (fun us ws => kbP 1 2 [1, 0] us ws) (fun us ws => kbP 1 2 [1, 0] us ws) where
  to := fun s us ws _ hl => by
    obtain ⟨h1, h2⟩ := kbP_len hl (by decide)
    match us, h1, ws, h2 with
    | [_], _, [_, _], _ => exact .of_eq rfl
  rel := fun a b => kbP_rel a b
theorem txt_mk {P : Program} {K : PySem.W.Frag} {h : Heap} {mg : Str → Option Value} {f_is_whole f_is_number f_check_number f_is_marked f_is_mark f_check_mark f_Cache___init__ f_Cache_marks p_Cache_marks f_Cache___len__ f_Cache___bool__ f_Cache_find f_Cache_keep f_Cache_use f_law_urn f_law_take f_law_of f_law_mark f_law_rows f_law_is_right f_law_right f_law C_Cache : Addr} {od_is_whole an_is_whole od_is_number an_is_number od_check_number an_check_number od_is_marked an_is_marked od_is_mark an_is_mark od_check_mark an_check_mark od_Cache___init__ an_Cache___init__ od_Cache_marks an_Cache_marks od_Cache___len__ an_Cache___len__ od_Cache___bool__ an_Cache___bool__ od_Cache_find an_Cache_find od_Cache_keep an_Cache_keep od_Cache_use an_Cache_use od_law_urn an_law_urn od_law_take an_law_take od_law_of an_law_of od_law_mark an_law_mark od_law_rows an_law_rows od_law_is_right an_law_is_right od_law_right an_law_right od_law an_law : Option Addr} {sl_is_whole sl_is_number sl_check_number sl_is_marked sl_is_mark sl_check_mark sl_Cache___init__ sl_Cache_marks sl_Cache___len__ sl_Cache___bool__ sl_Cache_find sl_Cache_keep sl_Cache_use sl_law_urn sl_law_take sl_law_of sl_law_mark sl_law_rows sl_law_is_right sl_law_right sl_law : Array (Option Value)} {oc_is_whole kV_is_whole dc_is_whole pm_is_whole cd_is_whole ct_is_whole oc_is_number kV_is_number dc_is_number pm_is_number cd_is_number ct_is_number oc_check_number kV_check_number dc_check_number pm_check_number cd_check_number ct_check_number oc_is_marked kV_is_marked dc_is_marked pm_is_marked cd_is_marked ct_is_marked oc_is_mark kV_is_mark dc_is_mark pm_is_mark cd_is_mark ct_is_mark oc_check_mark kV_check_mark dc_check_mark pm_check_mark cd_check_mark ct_check_mark oc_Cache___init__ kV_Cache___init__ dc_Cache___init__ pm_Cache___init__ cd_Cache___init__ ct_Cache___init__ oc_Cache_marks kV_Cache_marks dc_Cache_marks pm_Cache_marks cd_Cache_marks ct_Cache_marks oc_Cache___len__ kV_Cache___len__ dc_Cache___len__ pm_Cache___len__ cd_Cache___len__ ct_Cache___len__ oc_Cache___bool__ kV_Cache___bool__ dc_Cache___bool__ pm_Cache___bool__ cd_Cache___bool__ ct_Cache___bool__ oc_Cache_find kV_Cache_find dc_Cache_find pm_Cache_find cd_Cache_find ct_Cache_find oc_Cache_keep kV_Cache_keep dc_Cache_keep pm_Cache_keep cd_Cache_keep ct_Cache_keep oc_Cache_use kV_Cache_use dc_Cache_use pm_Cache_use cd_Cache_use ct_Cache_use oc_law_urn kV_law_urn dc_law_urn pm_law_urn cd_law_urn ct_law_urn oc_law_take kV_law_take dc_law_take pm_law_take cd_law_take ct_law_take oc_law_of kV_law_of dc_law_of pm_law_of cd_law_of ct_law_of oc_law_mark kV_law_mark dc_law_mark pm_law_mark cd_law_mark ct_law_mark oc_law_rows kV_law_rows dc_law_rows pm_law_rows cd_law_rows ct_law_rows oc_law_is_right kV_law_is_right dc_law_is_right pm_law_is_right cd_law_is_right ct_law_is_right oc_law_right kV_law_right dc_law_right pm_law_right cd_law_right ct_law_right oc_law kV_law dc_law pm_law cd_law ct_law : Value}
    {rr_Cache_marks : List Value} {t_MOST_SIZE : Tok} (X : K.In h) (G : h.Ns mainGlobals mg)
    (a_is_whole : PySem.W.nsIn K mainGlobals "is_whole" = some (some (.ref f_is_whole)))
    (l_is_whole : K.lookup f_is_whole = some ⟨oc_is_whole, od_is_whole, .func (PySem.W.fnOf "is_whole" "is_whole" (defArgs s_is_whole) (defBody s_is_whole) (defScope s_is_whole) .none kV_is_whole dc_is_whole pm_is_whole an_is_whole cd_is_whole ct_is_whole), sl_is_whole⟩)
    (c_is_whole : PySem.W.codeIn K cd_is_whole "is_whole" = true)
    (k_is_whole : PySem.W.keepIn K (.ref f_is_whole) = true)
    (a_is_number : PySem.W.nsIn K mainGlobals "is_number" = some (some (.ref f_is_number)))
    (l_is_number : K.lookup f_is_number = some ⟨oc_is_number, od_is_number, .func (PySem.W.fnOf "is_number" "is_number" (defArgs s_is_number) (defBody s_is_number) (defScope s_is_number) .none kV_is_number dc_is_number pm_is_number an_is_number cd_is_number ct_is_number), sl_is_number⟩)
    (c_is_number : PySem.W.codeIn K cd_is_number "is_number" = true)
    (k_is_number : PySem.W.keepIn K (.ref f_is_number) = true)
    (a_check_number : PySem.W.nsIn K mainGlobals "check_number" = some (some (.ref f_check_number)))
    (l_check_number : K.lookup f_check_number = some ⟨oc_check_number, od_check_number, .func (PySem.W.fnOf "check_number" "check_number" (defArgs s_check_number) (defBody s_check_number) (defScope s_check_number) .none kV_check_number dc_check_number pm_check_number an_check_number cd_check_number ct_check_number), sl_check_number⟩)
    (c_check_number : PySem.W.codeIn K cd_check_number "check_number" = true)
    (k_check_number : PySem.W.keepIn K (.ref f_check_number) = true)
    (a_is_marked : PySem.W.nsIn K mainGlobals "is_marked" = some (some (.ref f_is_marked)))
    (l_is_marked : K.lookup f_is_marked = some ⟨oc_is_marked, od_is_marked, .func (PySem.W.fnOf "is_marked" "is_marked" (defArgs s_is_marked) (defBody s_is_marked) (defScope s_is_marked) .none kV_is_marked dc_is_marked pm_is_marked an_is_marked cd_is_marked ct_is_marked), sl_is_marked⟩)
    (c_is_marked : PySem.W.codeIn K cd_is_marked "is_marked" = true)
    (k_is_marked : PySem.W.keepIn K (.ref f_is_marked) = true)
    (a_is_mark : PySem.W.nsIn K mainGlobals "is_mark" = some (some (.ref f_is_mark)))
    (l_is_mark : K.lookup f_is_mark = some ⟨oc_is_mark, od_is_mark, .func (PySem.W.fnOf "is_mark" "is_mark" (defArgs s_is_mark) (defBody s_is_mark) (defScope s_is_mark) .none kV_is_mark dc_is_mark pm_is_mark an_is_mark cd_is_mark ct_is_mark), sl_is_mark⟩)
    (c_is_mark : PySem.W.codeIn K cd_is_mark "is_mark" = true)
    (k_is_mark : PySem.W.keepIn K (.ref f_is_mark) = true)
    (a_check_mark : PySem.W.nsIn K mainGlobals "check_mark" = some (some (.ref f_check_mark)))
    (l_check_mark : K.lookup f_check_mark = some ⟨oc_check_mark, od_check_mark, .func (PySem.W.fnOf "check_mark" "check_mark" (defArgs s_check_mark) (defBody s_check_mark) (defScope s_check_mark) .none kV_check_mark dc_check_mark pm_check_mark an_check_mark cd_check_mark ct_check_mark), sl_check_mark⟩)
    (c_check_mark : PySem.W.codeIn K cd_check_mark "check_mark" = true)
    (k_check_mark : PySem.W.keepIn K (.ref f_check_mark) = true)
    (a_Cache___init__ : PySem.W.findIn K (.ref C_Cache) "__init__" = some (some (.ref f_Cache___init__)))
    (i_Cache___init__ : PySem.W.isFn K (.ref f_Cache___init__) = true)
    (l_Cache___init__ : K.lookup f_Cache___init__ = some ⟨oc_Cache___init__, od_Cache___init__, .func (PySem.W.fnOf "__init__" "Cache.__init__" (defArgs s_Cache___init__) (defBody s_Cache___init__) (defScope s_Cache___init__) .none kV_Cache___init__ dc_Cache___init__ pm_Cache___init__ an_Cache___init__ cd_Cache___init__ ct_Cache___init__), sl_Cache___init__⟩)
    (c_Cache___init__ : PySem.W.codeIn K cd_Cache___init__ "Cache.__init__" = true)
    (k_Cache___init__ : PySem.W.keepIn K (.ref f_Cache___init__) = true)
    (a_Cache_marks : PySem.W.findIn K (.ref C_Cache) "marks" = some (some (.ref p_Cache_marks)))
    (g_Cache_marks : PySem.W.specialIn K (.ref p_Cache_marks) "__get__" = some (some (.builtin "property.__get__")))
    (t_Cache_marks : PySem.W.takesIn K (.ref p_Cache_marks) = some true)
    (r_Cache_marks : PySem.W.recIn K p_Cache_marks "property" = some (.ref f_Cache_marks :: rr_Cache_marks))
    (l_Cache_marks : K.lookup f_Cache_marks = some ⟨oc_Cache_marks, od_Cache_marks, .func (PySem.W.fnOf "marks" "Cache.marks" (defArgs s_Cache_marks) (defBody s_Cache_marks) (defScope s_Cache_marks) .none kV_Cache_marks dc_Cache_marks pm_Cache_marks an_Cache_marks cd_Cache_marks ct_Cache_marks), sl_Cache_marks⟩)
    (c_Cache_marks : PySem.W.codeIn K cd_Cache_marks "Cache.marks" = true)
    (k_Cache_marks : PySem.W.keepIn K (.ref f_Cache_marks) = true)
    (a_Cache___len__ : PySem.W.findIn K (.ref C_Cache) "__len__" = some (some (.ref f_Cache___len__)))
    (i_Cache___len__ : PySem.W.isFn K (.ref f_Cache___len__) = true)
    (l_Cache___len__ : K.lookup f_Cache___len__ = some ⟨oc_Cache___len__, od_Cache___len__, .func (PySem.W.fnOf "__len__" "Cache.__len__" (defArgs s_Cache___len__) (defBody s_Cache___len__) (defScope s_Cache___len__) .none kV_Cache___len__ dc_Cache___len__ pm_Cache___len__ an_Cache___len__ cd_Cache___len__ ct_Cache___len__), sl_Cache___len__⟩)
    (c_Cache___len__ : PySem.W.codeIn K cd_Cache___len__ "Cache.__len__" = true)
    (k_Cache___len__ : PySem.W.keepIn K (.ref f_Cache___len__) = true)
    (a_Cache___bool__ : PySem.W.findIn K (.ref C_Cache) "__bool__" = some (some (.ref f_Cache___bool__)))
    (i_Cache___bool__ : PySem.W.isFn K (.ref f_Cache___bool__) = true)
    (l_Cache___bool__ : K.lookup f_Cache___bool__ = some ⟨oc_Cache___bool__, od_Cache___bool__, .func (PySem.W.fnOf "__bool__" "Cache.__bool__" (defArgs s_Cache___bool__) (defBody s_Cache___bool__) (defScope s_Cache___bool__) .none kV_Cache___bool__ dc_Cache___bool__ pm_Cache___bool__ an_Cache___bool__ cd_Cache___bool__ ct_Cache___bool__), sl_Cache___bool__⟩)
    (c_Cache___bool__ : PySem.W.codeIn K cd_Cache___bool__ "Cache.__bool__" = true)
    (k_Cache___bool__ : PySem.W.keepIn K (.ref f_Cache___bool__) = true)
    (a_Cache_find : PySem.W.findIn K (.ref C_Cache) "find" = some (some (.ref f_Cache_find)))
    (i_Cache_find : PySem.W.isFn K (.ref f_Cache_find) = true)
    (l_Cache_find : K.lookup f_Cache_find = some ⟨oc_Cache_find, od_Cache_find, .func (PySem.W.fnOf "find" "Cache.find" (defArgs s_Cache_find) (defBody s_Cache_find) (defScope s_Cache_find) .none kV_Cache_find dc_Cache_find pm_Cache_find an_Cache_find cd_Cache_find ct_Cache_find), sl_Cache_find⟩)
    (c_Cache_find : PySem.W.codeIn K cd_Cache_find "Cache.find" = true)
    (k_Cache_find : PySem.W.keepIn K (.ref f_Cache_find) = true)
    (a_Cache_keep : PySem.W.findIn K (.ref C_Cache) "keep" = some (some (.ref f_Cache_keep)))
    (i_Cache_keep : PySem.W.isFn K (.ref f_Cache_keep) = true)
    (l_Cache_keep : K.lookup f_Cache_keep = some ⟨oc_Cache_keep, od_Cache_keep, .func (PySem.W.fnOf "keep" "Cache.keep" (defArgs s_Cache_keep) (defBody s_Cache_keep) (defScope s_Cache_keep) .none kV_Cache_keep dc_Cache_keep pm_Cache_keep an_Cache_keep cd_Cache_keep ct_Cache_keep), sl_Cache_keep⟩)
    (c_Cache_keep : PySem.W.codeIn K cd_Cache_keep "Cache.keep" = true)
    (k_Cache_keep : PySem.W.keepIn K (.ref f_Cache_keep) = true)
    (a_Cache_use : PySem.W.findIn K (.ref C_Cache) "use" = some (some (.ref f_Cache_use)))
    (i_Cache_use : PySem.W.isFn K (.ref f_Cache_use) = true)
    (l_Cache_use : K.lookup f_Cache_use = some ⟨oc_Cache_use, od_Cache_use, .func (PySem.W.fnOf "use" "Cache.use" (defArgs s_Cache_use) (defBody s_Cache_use) (defScope s_Cache_use) .none kV_Cache_use dc_Cache_use pm_Cache_use an_Cache_use cd_Cache_use ct_Cache_use), sl_Cache_use⟩)
    (c_Cache_use : PySem.W.codeIn K cd_Cache_use "Cache.use" = true)
    (k_Cache_use : PySem.W.keepIn K (.ref f_Cache_use) = true)
    (a_law_urn : PySem.W.nsIn K mainGlobals "_law_urn" = some (some (.ref f_law_urn)))
    (l_law_urn : K.lookup f_law_urn = some ⟨oc_law_urn, od_law_urn, .func (PySem.W.fnOf "_law_urn" "_law_urn" (defArgs s_law_urn) (defBody s_law_urn) (defScope s_law_urn) .none kV_law_urn dc_law_urn pm_law_urn an_law_urn cd_law_urn ct_law_urn), sl_law_urn⟩)
    (c_law_urn : PySem.W.codeIn K cd_law_urn "_law_urn" = true)
    (k_law_urn : PySem.W.keepIn K (.ref f_law_urn) = true)
    (a_law_take : PySem.W.nsIn K mainGlobals "_law_take" = some (some (.ref f_law_take)))
    (l_law_take : K.lookup f_law_take = some ⟨oc_law_take, od_law_take, .func (PySem.W.fnOf "_law_take" "_law_take" (defArgs s_law_take) (defBody s_law_take) (defScope s_law_take) .none kV_law_take dc_law_take pm_law_take an_law_take cd_law_take ct_law_take), sl_law_take⟩)
    (c_law_take : PySem.W.codeIn K cd_law_take "_law_take" = true)
    (k_law_take : PySem.W.keepIn K (.ref f_law_take) = true)
    (a_law_of : PySem.W.nsIn K mainGlobals "_law_of" = some (some (.ref f_law_of)))
    (l_law_of : K.lookup f_law_of = some ⟨oc_law_of, od_law_of, .func (PySem.W.fnOf "_law_of" "_law_of" (defArgs s_law_of) (defBody s_law_of) (defScope s_law_of) .none kV_law_of dc_law_of pm_law_of an_law_of cd_law_of ct_law_of), sl_law_of⟩)
    (c_law_of : PySem.W.codeIn K cd_law_of "_law_of" = true)
    (k_law_of : PySem.W.keepIn K (.ref f_law_of) = true)
    (a_law_mark : PySem.W.nsIn K mainGlobals "_law_mark" = some (some (.ref f_law_mark)))
    (l_law_mark : K.lookup f_law_mark = some ⟨oc_law_mark, od_law_mark, .func (PySem.W.fnOf "_law_mark" "_law_mark" (defArgs s_law_mark) (defBody s_law_mark) (defScope s_law_mark) .none kV_law_mark dc_law_mark pm_law_mark an_law_mark cd_law_mark ct_law_mark), sl_law_mark⟩)
    (c_law_mark : PySem.W.codeIn K cd_law_mark "_law_mark" = true)
    (k_law_mark : PySem.W.keepIn K (.ref f_law_mark) = true)
    (a_law_rows : PySem.W.nsIn K mainGlobals "_law_rows" = some (some (.ref f_law_rows)))
    (l_law_rows : K.lookup f_law_rows = some ⟨oc_law_rows, od_law_rows, .func (PySem.W.fnOf "_law_rows" "_law_rows" (defArgs s_law_rows) (defBody s_law_rows) (defScope s_law_rows) .none kV_law_rows dc_law_rows pm_law_rows an_law_rows cd_law_rows ct_law_rows), sl_law_rows⟩)
    (c_law_rows : PySem.W.codeIn K cd_law_rows "_law_rows" = true)
    (k_law_rows : PySem.W.keepIn K (.ref f_law_rows) = true)
    (a_law_is_right : PySem.W.nsIn K mainGlobals "_law_is_right" = some (some (.ref f_law_is_right)))
    (l_law_is_right : K.lookup f_law_is_right = some ⟨oc_law_is_right, od_law_is_right, .func (PySem.W.fnOf "_law_is_right" "_law_is_right" (defArgs s_law_is_right) (defBody s_law_is_right) (defScope s_law_is_right) .none kV_law_is_right dc_law_is_right pm_law_is_right an_law_is_right cd_law_is_right ct_law_is_right), sl_law_is_right⟩)
    (c_law_is_right : PySem.W.codeIn K cd_law_is_right "_law_is_right" = true)
    (k_law_is_right : PySem.W.keepIn K (.ref f_law_is_right) = true)
    (a_law_right : PySem.W.nsIn K mainGlobals "_law_right" = some (some (.ref f_law_right)))
    (l_law_right : K.lookup f_law_right = some ⟨oc_law_right, od_law_right, .func (PySem.W.fnOf "_law_right" "_law_right" (defArgs s_law_right) (defBody s_law_right) (defScope s_law_right) .none kV_law_right dc_law_right pm_law_right an_law_right cd_law_right ct_law_right), sl_law_right⟩)
    (c_law_right : PySem.W.codeIn K cd_law_right "_law_right" = true)
    (k_law_right : PySem.W.keepIn K (.ref f_law_right) = true)
    (a_law : PySem.W.nsIn K mainGlobals "law" = some (some (.ref f_law)))
    (l_law : K.lookup f_law = some ⟨oc_law, od_law, .func (PySem.W.fnOf "law" "law" (defArgs s_law) (defBody s_law) (defScope s_law) .none kV_law dc_law pm_law an_law cd_law ct_law), sl_law⟩)
    (c_law : PySem.W.codeIn K cd_law "law" = true)
    (k_law : PySem.W.keepIn K (.ref f_law) = true)
    (aC_Cache : PySem.W.nsIn K mainGlobals "Cache" = some (some (.ref C_Cache)))
    (pg_Cache : PySem.W.plainGet K C_Cache Str.empty = true)
    (hd_Cache : PySem.W.hasDictIn K C_Cache = true)
    (po_Cache : PySem.W.plainOver K C_Cache = true)
    (sa_Cache : PySem.W.findIn K (.ref C_Cache) "__setattr__" = some (some (.builtin "object.__setattr__")))
    (mk_Cache : PySem.W.makesIn K C_Cache = true)
    (kc_Cache : PySem.W.keepIn K (.ref C_Cache) = true)
    (na_Cache__size : PySem.W.findIn K (.ref C_Cache) "_size" = some none)
    (na_Cache__kept : PySem.W.findIn K (.ref C_Cache) "_kept" = some none)
    (n_MOST_SIZE : PySem.W.nsIn K mainGlobals "MOST_SIZE" = some (some (.int (20) t_MOST_SIZE)))
    (z_abs : PySem.W.nsIn K mainGlobals "abs" = some none)
    (z_all : PySem.W.nsIn K mainGlobals "all" = some none)
    (z_bool : PySem.W.nsIn K mainGlobals "bool" = some none)
    (z_divmod : PySem.W.nsIn K mainGlobals "divmod" = some none)
    (z_int : PySem.W.nsIn K mainGlobals "int" = some none)
    (z_isinstance : PySem.W.nsIn K mainGlobals "isinstance" = some none)
    (z_len : PySem.W.nsIn K mainGlobals "len" = some none)
    (z_list : PySem.W.nsIn K mainGlobals "list" = some none)
    (z_max : PySem.W.nsIn K mainGlobals "max" = some none)
    (z_min : PySem.W.nsIn K mainGlobals "min" = some none)
    (z_range : PySem.W.nsIn K mainGlobals "range" = some none)
    (z_repr : PySem.W.nsIn K mainGlobals "repr" = some none)
    (z_str : PySem.W.nsIn K mainGlobals "str" = some none)
    (z_tuple : PySem.W.nsIn K mainGlobals "tuple" = some none) : ∃ T : Txt P K mg, T.f_law = f_law := by
  have F_is_whole := fun_mk (st := s_is_whole) l_is_whole c_is_whole k_is_whole
  have b_is_whole := F_is_whole.binds (ps := ["value"]) fun _ _ _ _ _ _ us hl => match us, hl with | [_], _ => rfl
  have F_is_number := fun_mk (st := s_is_number) l_is_number c_is_number k_is_number
  have b_is_number := F_is_number.binds (ps := ["value", "low", "high"]) fun _ _ _ _ _ _ us hl => match us, hl with | [_, _, _], _ => rfl
  have F_check_number := fun_mk (st := s_check_number) l_check_number c_check_number k_check_number
  have b_check_number := F_check_number.binds (ps := ["value", "low", "high"]) fun _ _ _ _ _ _ us hl => match us, hl with | [_, _, _], _ => rfl
  have F_is_marked := fun_mk (st := s_is_marked) l_is_marked c_is_marked k_is_marked
  have b_is_marked := F_is_marked.binds (ps := ["value"]) fun _ _ _ _ _ _ us hl => match us, hl with | [_], _ => rfl
  have F_is_mark := fun_mk (st := s_is_mark) l_is_mark c_is_mark k_is_mark
  have b_is_mark := F_is_mark.binds (ps := ["value"]) fun _ _ _ _ _ _ us hl => match us, hl with | [_], _ => rfl
  have F_check_mark := fun_mk (st := s_check_mark) l_check_mark c_check_mark k_check_mark
  have b_check_mark := F_check_mark.binds (ps := ["value"]) fun _ _ _ _ _ _ us hl => match us, hl with | [_], _ => rfl
  have F_Cache___init__ := fun_mk (st := s_Cache___init__) l_Cache___init__ c_Cache___init__ k_Cache___init__
  have b_Cache___init__ := F_Cache___init__.binds (ps := ["self", "size"]) fun _ _ _ _ _ _ us hl => match us, hl with | [_, _], _ => rfl
  have F_Cache_marks := fun_mk (st := s_Cache_marks) l_Cache_marks c_Cache_marks k_Cache_marks
  have b_Cache_marks := F_Cache_marks.binds (ps := ["self"]) fun _ _ _ _ _ _ us hl => match us, hl with | [_], _ => rfl
  have F_Cache___len__ := fun_mk (st := s_Cache___len__) l_Cache___len__ c_Cache___len__ k_Cache___len__
  have b_Cache___len__ := F_Cache___len__.binds (ps := ["self"]) fun _ _ _ _ _ _ us hl => match us, hl with | [_], _ => rfl
  have F_Cache___bool__ := fun_mk (st := s_Cache___bool__) l_Cache___bool__ c_Cache___bool__ k_Cache___bool__
  have b_Cache___bool__ := F_Cache___bool__.binds (ps := ["self"]) fun _ _ _ _ _ _ us hl => match us, hl with | [_], _ => rfl
  have F_Cache_find := fun_mk (st := s_Cache_find) l_Cache_find c_Cache_find k_Cache_find
  have b_Cache_find := F_Cache_find.binds (ps := ["self", "mark"]) fun _ _ _ _ _ _ us hl => match us, hl with | [_, _], _ => rfl
  have F_Cache_keep := fun_mk (st := s_Cache_keep) l_Cache_keep c_Cache_keep k_Cache_keep
  have b_Cache_keep := F_Cache_keep.binds (ps := ["self", "mark", "rows"]) fun _ _ _ _ _ _ us hl => match us, hl with | [_, _, _], _ => rfl
  have kb_Cache_keep_rows_mark : KBinds K (PySem.W.fnOf "keep" "Cache.keep" (defArgs s_Cache_keep) (defBody s_Cache_keep) (defScope s_Cache_keep) .none kV_Cache_keep dc_Cache_keep pm_Cache_keep an_Cache_keep cd_Cache_keep ct_Cache_keep) ["self", "mark", "rows"] ["rows", "mark"] (fun us ws => kbP 1 2 [1, 0] us ws) (fun us ws => kbP 1 2 [1, 0] us ws) := kb_Cache_keep_rows_mark
  have F_Cache_use := fun_mk (st := s_Cache_use) l_Cache_use c_Cache_use k_Cache_use
  have b_Cache_use := F_Cache_use.binds (ps := ["self", "mark", "rows"]) fun _ _ _ _ _ _ us hl => match us, hl with | [_, _, _], _ => rfl
  have F_law_urn := fun_mk (st := s_law_urn) l_law_urn c_law_urn k_law_urn
  have b_law_urn := F_law_urn.binds (ps := ["script", "lap"]) fun _ _ _ _ _ _ us hl => match us, hl with | [_, _], _ => rfl
  have F_law_take := fun_mk (st := s_law_take) l_law_take c_law_take k_law_take
  have b_law_take := F_law_take.binds (ps := ["urn", "many"]) fun _ _ _ _ _ _ us hl => match us, hl with | [_, _], _ => rfl
  have F_law_of := fun_mk (st := s_law_of) l_law_of c_law_of k_law_of
  have b_law_of := F_law_of.binds (ps := ["urn", "some"]) fun _ _ _ _ _ _ us hl => match us, hl with | [_, _], _ => rfl
  have F_law_mark := fun_mk (st := s_law_mark) l_law_mark c_law_mark k_law_mark
  have b_law_mark := F_law_mark.binds (ps := ["urn", "deep"]) fun _ _ _ _ _ _ us hl => match us, hl with | [_, _], _ => rfl
  have F_law_rows := fun_mk (st := s_law_rows) l_law_rows c_law_rows k_law_rows
  have b_law_rows := F_law_rows.binds (ps := ["urn"]) fun _ _ _ _ _ _ us hl => match us, hl with | [_], _ => rfl
  have F_law_is_right := fun_mk (st := s_law_is_right) l_law_is_right c_law_is_right k_law_is_right
  have b_law_is_right := F_law_is_right.binds (ps := ["cache", "own", "size"]) fun _ _ _ _ _ _ us hl => match us, hl with | [_, _, _], _ => rfl
  have F_law_right := fun_mk (st := s_law_right) l_law_right c_law_right k_law_right
  have b_law_right := F_law_right.binds (ps := ["urn"]) fun _ _ _ _ _ _ us hl => match us, hl with | [_], _ => rfl
  have F_law := fun_mk (st := s_law) l_law c_law k_law
  have b_law := F_law.binds (ps := ["script"]) fun _ _ _ _ _ _ us hl => match us, hl with | [_], _ => rfl
  exact ⟨{ f_is_whole := f_is_whole, d_is_whole := _, F_is_whole := F_is_whole, b_is_whole := b_is_whole, g_is_whole := PySem.W.mg_of X G a_is_whole, f_is_number := f_is_number, d_is_number := _, F_is_number := F_is_number, b_is_number := b_is_number, g_is_number := PySem.W.mg_of X G a_is_number, f_check_number := f_check_number, d_check_number := _, F_check_number := F_check_number, b_check_number := b_check_number, g_check_number := PySem.W.mg_of X G a_check_number, f_is_marked := f_is_marked, d_is_marked := _, F_is_marked := F_is_marked, b_is_marked := b_is_marked, g_is_marked := PySem.W.mg_of X G a_is_marked, f_is_mark := f_is_mark, d_is_mark := _, F_is_mark := F_is_mark, b_is_mark := b_is_mark, g_is_mark := PySem.W.mg_of X G a_is_mark, f_check_mark := f_check_mark, d_check_mark := _, F_check_mark := F_check_mark, b_check_mark := b_check_mark, g_check_mark := PySem.W.mg_of X G a_check_mark, f_Cache___init__ := f_Cache___init__, d_Cache___init__ := _, F_Cache___init__ := F_Cache___init__, b_Cache___init__ := b_Cache___init__, kn_Cache___init___size := kn_Cache___init___size, f_Cache_marks := f_Cache_marks, d_Cache_marks := _, F_Cache_marks := F_Cache_marks, b_Cache_marks := b_Cache_marks, f_Cache___len__ := f_Cache___len__, d_Cache___len__ := _, F_Cache___len__ := F_Cache___len__, b_Cache___len__ := b_Cache___len__, f_Cache___bool__ := f_Cache___bool__, d_Cache___bool__ := _, F_Cache___bool__ := F_Cache___bool__, b_Cache___bool__ := b_Cache___bool__, f_Cache_find := f_Cache_find, d_Cache_find := _, F_Cache_find := F_Cache_find, b_Cache_find := b_Cache_find, f_Cache_keep := f_Cache_keep, d_Cache_keep := _, F_Cache_keep := F_Cache_keep, b_Cache_keep := b_Cache_keep, kb_Cache_keep_rows_mark := kb_Cache_keep_rows_mark, f_Cache_use := f_Cache_use, d_Cache_use := _, F_Cache_use := F_Cache_use, b_Cache_use := b_Cache_use, f_law_urn := f_law_urn, d_law_urn := _, F_law_urn := F_law_urn, b_law_urn := b_law_urn, g__law_urn := PySem.W.mg_of X G a_law_urn, f_law_take := f_law_take, d_law_take := _, F_law_take := F_law_take, b_law_take := b_law_take, g__law_take := PySem.W.mg_of X G a_law_take, f_law_of := f_law_of, d_law_of := _, F_law_of := F_law_of, b_law_of := b_law_of, g__law_of := PySem.W.mg_of X G a_law_of, f_law_mark := f_law_mark, d_law_mark := _, F_law_mark := F_law_mark, b_law_mark := b_law_mark, g__law_mark := PySem.W.mg_of X G a_law_mark, f_law_rows := f_law_rows, d_law_rows := _, F_law_rows := F_law_rows, b_law_rows := b_law_rows, g__law_rows := PySem.W.mg_of X G a_law_rows, f_law_is_right := f_law_is_right, d_law_is_right := _, F_law_is_right := F_law_is_right, b_law_is_right := b_law_is_right, g__law_is_right := PySem.W.mg_of X G a_law_is_right, f_law_right := f_law_right, d_law_right := _, F_law_right := F_law_right, b_law_right := b_law_right, g__law_right := PySem.W.mg_of X G a_law_right, f_law := f_law, d_law := _, F_law := F_law, b_law := b_law, g_law := PySem.W.mg_of X G a_law, C_Cache := C_Cache, g_Cache := PySem.W.mg_of X G aC_Cache, cl_Cache := ⟨pg_Cache, hd_Cache, po_Cache, sa_Cache⟩, mk_Cache := ⟨mk_Cache, a_Cache___init__, i_Cache___init__, kc_Cache⟩, na_Cache__size := na_Cache__size, na_Cache__kept := na_Cache__kept, pa_Cache_marks := p_Cache_marks, p_Cache_marks := ⟨a_Cache_marks, g_Cache_marks, t_Cache_marks, ⟨_, r_Cache_marks⟩⟩, me_Cache___len__ := ⟨a_Cache___len__, i_Cache___len__, k_Cache___len__⟩, me_Cache___bool__ := ⟨a_Cache___bool__, i_Cache___bool__, k_Cache___bool__⟩, me_Cache_find := ⟨a_Cache_find, i_Cache_find, k_Cache_find⟩, me_Cache_keep := ⟨a_Cache_keep, i_Cache_keep, k_Cache_keep⟩, me_Cache_use := ⟨a_Cache_use, i_Cache_use, k_Cache_use⟩, t_MOST_SIZE := _, g_MOST_SIZE := PySem.W.mg_of X G n_MOST_SIZE, z_abs := PySem.W.mg_none_of X G z_abs, z_all := PySem.W.mg_none_of X G z_all, z_bool := PySem.W.mg_none_of X G z_bool, z_divmod := PySem.W.mg_none_of X G z_divmod, z_int := PySem.W.mg_none_of X G z_int, z_isinstance := PySem.W.mg_none_of X G z_isinstance, z_len := PySem.W.mg_none_of X G z_len, z_list := PySem.W.mg_none_of X G z_list, z_max := PySem.W.mg_none_of X G z_max, z_min := PySem.W.mg_none_of X G z_min, z_range := PySem.W.mg_none_of X G z_range, z_repr := PySem.W.mg_none_of X G z_repr, z_str := PySem.W.mg_none_of X G z_str, z_tuple := PySem.W.mg_none_of X G z_tuple }, rfl⟩
theorem walk {q : Program} {loose : List Str} {XP : (Str → Option Value) → Heap → Prop} {YP : World → Heap → Prop} {d : DefRec} {K : Params → PySem.W.Frag} (hdn : d.name = "law") (hdf : d.params.defaults = [])
    (hY : ∀ (w : World) (h : Heap), YP w h → (K w.params).In h)
    (F : ∀ (w : World) (mg : Str → Option Value) (h : Heap), (K w.params).In h → h.Ns mainGlobals mg → ∃ T : Txt PySem.Challenge.pw_plainscan_k83_whole_caches_through_uses (K w.params) mg, True) :
    PySem.W.WalkO q loose XP YP PySem.Challenge.rw_plainscan_k83_whole_caches_through_uses.row.toRowW d [] (fun f vs => PySem.call f vs) :=
  L2.walk_ofG (n := 63) (k := 13) (x := "script") (CX := fun _ => CX0) (sp := fun w => spLaw (K w.params)) rfl (by decide) hdf ⟨rfl, by decide, by decide⟩ hY (fun w mg fa h KX G hfa => by
    obtain ⟨T, _⟩ := F w mg h KX G
    have e : fa = T.f_law := by
      have z := T.g_law
      rw [hdn] at hfa
      rw [hfa] at z
      cases z
      rfl
    subst e
    refine ⟨T.d_law, fun s v => ?_, fun base _ _ => ok_law T⟩
    have z := T.F_law.ex
    obtain ⟨_, _, _, _, _, _, _, _, _, e, _⟩ := z
    rw [e]
    exact .of_eq rfl) (fun _ _ a ns hl _ hS => ⟨a, ns, rfl, hS, hl, fun _ => rfl⟩) fun _ _ _ _ _ z => z

end K83
open PySem PySem.W PyProof.Rows in
set_option maxRecDepth 100000 in
set_option maxHeartbeats 0 in
theorem PySem.Challenge.cw_plainscan_k83_whole_caches_through_uses_holds : PySem.Challenge.rw_plainscan_k83_whole_caches_through_uses.Holds := by
  w_on; o_law; k_head; (case hw => w_witness2)
  k_fill
  refine K83.walk rfl rfl (fun w h Y => PySem.W.kIn_of Y) ?F
  case F =>
    intro w mg h KX G
    refine' Exists.elim (K83.txt_mk KX G ?a_is_whole ?l_is_whole ?c_is_whole ?k_is_whole ?a_is_number ?l_is_number ?c_is_number ?k_is_number ?a_check_number ?l_check_number ?c_check_number ?k_check_number ?a_is_marked ?l_is_marked ?c_is_marked ?k_is_marked ?a_is_mark ?l_is_mark ?c_is_mark ?k_is_mark ?a_check_mark ?l_check_mark ?c_check_mark ?k_check_mark ?a_Cache___init__ ?i_Cache___init__ ?l_Cache___init__ ?c_Cache___init__ ?k_Cache___init__ ?a_Cache_marks ?g_Cache_marks ?t_Cache_marks ?r_Cache_marks ?l_Cache_marks ?c_Cache_marks ?k_Cache_marks ?a_Cache___len__ ?i_Cache___len__ ?l_Cache___len__ ?c_Cache___len__ ?k_Cache___len__ ?a_Cache___bool__ ?i_Cache___bool__ ?l_Cache___bool__ ?c_Cache___bool__ ?k_Cache___bool__ ?a_Cache_find ?i_Cache_find ?l_Cache_find ?c_Cache_find ?k_Cache_find ?a_Cache_keep ?i_Cache_keep ?l_Cache_keep ?c_Cache_keep ?k_Cache_keep ?a_Cache_use ?i_Cache_use ?l_Cache_use ?c_Cache_use ?k_Cache_use ?a_law_urn ?l_law_urn ?c_law_urn ?k_law_urn ?a_law_take ?l_law_take ?c_law_take ?k_law_take ?a_law_of ?l_law_of ?c_law_of ?k_law_of ?a_law_mark ?l_law_mark ?c_law_mark ?k_law_mark ?a_law_rows ?l_law_rows ?c_law_rows ?k_law_rows ?a_law_is_right ?l_law_is_right ?c_law_is_right ?k_law_is_right ?a_law_right ?l_law_right ?c_law_right ?k_law_right ?a_law ?l_law ?c_law ?k_law ?aC_Cache ?pg_Cache ?hd_Cache ?po_Cache ?sa_Cache ?mk_Cache ?kc_Cache ?na_Cache__size ?na_Cache__kept ?n_MOST_SIZE ?z_abs ?z_all ?z_bool ?z_divmod ?z_int ?z_isinstance ?z_len ?z_list ?z_max ?z_min ?z_range ?z_repr ?z_str ?z_tuple) (fun T _ => ⟨T, trivial⟩)
    (case aC_Cache => k_is)
    (case a_is_whole => k_is)
    (case l_is_whole => k_is)
    (case c_is_whole => k_is)
    (case k_is_whole => k_is)
    (case a_is_number => k_is)
    (case l_is_number => k_is)
    (case c_is_number => k_is)
    (case k_is_number => k_is)
    (case a_check_number => k_is)
    (case l_check_number => k_is)
    (case c_check_number => k_is)
    (case k_check_number => k_is)
    (case a_is_marked => k_is)
    (case l_is_marked => k_is)
    (case c_is_marked => k_is)
    (case k_is_marked => k_is)
    (case a_is_mark => k_is)
    (case l_is_mark => k_is)
    (case c_is_mark => k_is)
    (case k_is_mark => k_is)
    (case a_check_mark => k_is)
    (case l_check_mark => k_is)
    (case c_check_mark => k_is)
    (case k_check_mark => k_is)
    (case a_Cache___init__ => k_is)
    (case i_Cache___init__ => k_is)
    (case l_Cache___init__ => k_is)
    (case c_Cache___init__ => k_is)
    (case k_Cache___init__ => k_is)
    (case a_Cache_marks => k_is)
    (case g_Cache_marks => k_is)
    (case t_Cache_marks => k_is)
    (case r_Cache_marks => k_is)
    (case l_Cache_marks => k_is)
    (case c_Cache_marks => k_is)
    (case k_Cache_marks => k_is)
    (case a_Cache___len__ => k_is)
    (case i_Cache___len__ => k_is)
    (case l_Cache___len__ => k_is)
    (case c_Cache___len__ => k_is)
    (case k_Cache___len__ => k_is)
    (case a_Cache___bool__ => k_is)
    (case i_Cache___bool__ => k_is)
    (case l_Cache___bool__ => k_is)
    (case c_Cache___bool__ => k_is)
    (case k_Cache___bool__ => k_is)
    (case a_Cache_find => k_is)
    (case i_Cache_find => k_is)
    (case l_Cache_find => k_is)
    (case c_Cache_find => k_is)
    (case k_Cache_find => k_is)
    (case a_Cache_keep => k_is)
    (case i_Cache_keep => k_is)
    (case l_Cache_keep => k_is)
    (case c_Cache_keep => k_is)
    (case k_Cache_keep => k_is)
    (case a_Cache_use => k_is)
    (case i_Cache_use => k_is)
    (case l_Cache_use => k_is)
    (case c_Cache_use => k_is)
    (case k_Cache_use => k_is)
    (case a_law_urn => k_is)
    (case l_law_urn => k_is)
    (case c_law_urn => k_is)
    (case k_law_urn => k_is)
    (case a_law_take => k_is)
    (case l_law_take => k_is)
    (case c_law_take => k_is)
    (case k_law_take => k_is)
    (case a_law_of => k_is)
    (case l_law_of => k_is)
    (case c_law_of => k_is)
    (case k_law_of => k_is)
    (case a_law_mark => k_is)
    (case l_law_mark => k_is)
    (case c_law_mark => k_is)
    (case k_law_mark => k_is)
    (case a_law_rows => k_is)
    (case l_law_rows => k_is)
    (case c_law_rows => k_is)
    (case k_law_rows => k_is)
    (case a_law_is_right => k_is)
    (case l_law_is_right => k_is)
    (case c_law_is_right => k_is)
    (case k_law_is_right => k_is)
    (case a_law_right => k_is)
    (case l_law_right => k_is)
    (case c_law_right => k_is)
    (case k_law_right => k_is)
    (case a_law => k_is)
    (case l_law => k_is)
    (case c_law => k_is)
    (case k_law => k_is)
    (case pg_Cache => k_is)
    (case hd_Cache => k_is)
    (case po_Cache => k_is)
    (case sa_Cache => k_is)
    (case mk_Cache => k_is)
    (case kc_Cache => k_is)
    (case na_Cache__size => k_is)
    (case na_Cache__kept => k_is)
    (case n_MOST_SIZE => k_is)
    (case z_abs => k_is)
    (case z_all => k_is)
    (case z_bool => k_is)
    (case z_divmod => k_is)
    (case z_int => k_is)
    (case z_isinstance => k_is)
    (case z_len => k_is)
    (case z_list => k_is)
    (case z_max => k_is)
    (case z_min => k_is)
    (case z_range => k_is)
    (case z_repr => k_is)
    (case z_str => k_is)
    (case z_tuple => k_is)
