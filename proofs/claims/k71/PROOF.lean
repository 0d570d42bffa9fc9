import PyProof.Rows.All
import Wide.All
import OpenK.AllK
import Wide.FinOn
import HandS.ForMost
import HandS.ForExc
import KE.KExcSuper
import KE.RegKSuper
import HandS.More
import HandS.Deep
import HandS.Style
import HandS.TupAny
import KE.SortData
import KE.DataFind
import KE.DataEq
import PyProof.Rows.SortShellAny
import HandS.IsInst
import HandS.Property
import HandS.Star
import HandS.Flow
import HandS.Conv
import HandS.Evl
import PyProof.ReprRoads
import HandS.Ends
import PyProof.Rows.Range3
import PyProof.Conv_bool
import PyProof.SeqIndex
import PyProof.CallFns
import PyProof.NeKinds
import HandS.SortKw
import KE.SortKeyHeap
import KE.KSortKey
import HandS.Iter
import HandS.Walk
import HandS.Zip
import KE.GoesMore
import KE.GoesEnum
import PyProof.FitsInt
import PyProof.ReprBulk
import PyProof.EqLayable
import HandS.TupSets
import HandS.DictComp
import PySem.Challenge.RW_plainscan_k71_whole_least_and_greatest_s
set_option Elab.async false
set_option linter.all false
set_option maxRecDepth 100000
set_option maxHeartbeats 8000000
/-! Own classes of errors over own classes over ValueError: `def __init__(self, F): super().__init__(F); self.F = F`. -/
namespace SupX
open PySem PySem.W PySem.Calls PyProof.Rows PySem.HandSPX
def iA (F : Str) (p1 p2 : Pos) : Arguments := { posonlyargs := [], args := [{ arg := "self", annotation := none, pos := p1 }, { arg := F, annotation := none, pos := p2 }], vararg := none, kwonlyargs := [], kw_defaults := [], kwarg := none, defaults := [] }
def iB (F : Str) (a1 a2 a3 a4 a5 a6 b1 b2 b3 b4 : Pos) : List Stmt :=
  [.Expr (.Call (.Attribute (.Call (.Name "super" a1) [] [] a2) "__init__" a3) [.Name F a4] [] a5) a6, .Assign [.Attribute (.Name "self" b1) F b2] (.Name F b3) b4]
def iS (F : Str) : Scope := { kind := .function, names := [(PySem.Str.ofString "self", .local), (F, .local), (PySem.Str.ofString "__class__", .free), (PySem.Str.ofString "super", .globalImplicit)], isGenerator := false, isCoroutine := false, more := [] }
theorem ev_one {o : Expr} {n F : Str} {a3 a4 a5 : Pos} {env : Env} (hl : (a3.endLine == a5.line) = true) : eval (.Call (.Attribute o n a3) [.Name F a4] [] a5) env = (do
      let ov ← attributeBase o n env (eval o env)
      standAt a3.atName
      let (f, first) ← holding [ov] (getMethod ov n (do return (← importBound o env).getD true))
      callWith a5 f first (backTo a5 (starEach [.Name F a4] env)) []) := by
  have e : eval (.Call (.Attribute o n a3) [.Name F a4] [] a5) env = (do
      let ov ← attributeBase o n env (eval o env)
      standAt a3.atName
      methodCall o n a3 a5 env ov 1 (backTo a5 (starEach [.Name F a4] env)) []) := rfl
  rw [e]
  unfold methodCall methodCallPos calleeOf
  have f : methodCallForm 1 (backTo a5 (starEach [.Name F a4] env)) [] = true := rfl
  rw [f, hl]
  rfl
/-- what the written part says of the class X at C and its __init__ at fI -/
structure SupTxt (P : Program) (K : Frag) (mg : Str → Option Value) (X qual F : Str) (C fI : Addr) : Prop where
  gC : mg X = some (.ref C)
  cls : ∃ nm q N bs bm sn sub ab col dd k0 k1 k2 k3 k5, K.lookup C = some (excClassObj nm q C N bs bm true sn sub ab col dd k0 k1 k2 k3 k5 "ValueError.__new__") ∧ refsVE bm = true
  sa : findIn K (.ref C) "__setattr__" = some (some (.builtin "object.__setattr__"))
  ga : findIn K (.ref C) "__getattribute__" = some (some (.builtin "BaseException.__getattribute__"))
  gg : findIn K (.ref C) "__getattr__" = some none
  noN : findIn K (.ref C) F = some none
  iC : findIn K (.ref C) "__init__" = some (some (.ref fI))
  tC : typeIn K (.ref fI) = some (.type "function")
  kC : keepIn K (.ref C) = true
  exC : subIn K (.ref C) (.type "BaseException") = some true
  veC : subIn K (.ref C) (.type "ValueError") = some true
  tyC : typeIn K (.ref C) = some (.type "type")
  hdC : hasDictIn K C = true
  slf : mroIn K C (.ref C) = some true
  sup : ks_superIn K C C "__init__" = some (some (.builtin "ValueError.__init__"))
  thp : nsIn K cStatics "thirdparty.any" = some none
  gS : mg "super" = none
  top : (P.main.scope.names.lookup ("super" : Str)).isSome = false
  nF : (F == ("self" : Str)) = false
  lF : (iS F).names.lookup F = some .local
  lC : (iS F).names.lookup ("__class__" : Str) = some .free
  lS : (iS F).names.lookup ("super" : Str) = some .globalImplicit
  dF : (F == ("__debug__" : Str)) = false
  bnd : ∀ (body : List Stmt) (sc : Scope) (cl : List (Str × Addr)) (doc pm : Value) (an : Option Addr) (cd ct : Value) (p1 p2 : Pos) (x v : Value), bindArgs (fnX "__init__" qual (iA F p1 p2) body sc cl .none .none doc pm an cd ct) ⟨[x, v], []⟩ = pure ([("self", x), (F, v)] : List (Str × Value))
  fn : ∃ (oc : Value) (od : Option Addr) (doc pm : Value) (an : Option Addr) (cda cc : Addr) (ct : Value) (osl : Array (Option Value)) (p1 p2 a1 a2 a3 a4 a5 a6 b1 b2 b3 b4 : Pos)
      (ccl cl : Value) (cdd cld : Option Addr) (vs : Array Value) (ccs csl : Array (Option Value)) (file : Str) (tf : Tok),
    K.lookup fI = some ⟨oc, od, .func (fnX "__init__" qual (iA F p1 p2) (iB F a1 a2 a3 a4 a5 a6 b1 b2 b3 b4) (iS F) [("__class__", cc)] .none .none doc pm an (.ref cda) ct), osl⟩ ∧ codeIn K (.ref cda) qual = true ∧
      K.lookup cda = some ⟨ccl, cdd, .fields vs, ccs⟩ ∧ vs[2]? = some (.str file tf) ∧ ((P.main.file : Str) == file) = true ∧ (a3.endLine == a5.line) = true ∧ K.lookup cc = some ⟨cl, cld, .cell (some (.ref C)), csl⟩
theorem one_size (v : Value) : [v].length ≤ sizeLine := by
  rw [sizeLine_eq]
  exact (by decide : 1 ≤ 16777216)
/-- what __init__ leaves of a fresh exception at x -/
structure InitEnd (F : Str) (h h' : Heap) (x C dx t1 : Addr) (v : Value) : Prop where
  keep : ∀ b o, b ≠ x → h.get? b = some o → h'.get? b = some o
  obj : h'.get? x = some { cls := .ref C, dict := some dx, data := .fields #[.ref t1, .none, .none, .none, .bool false, .none] }
  dbig : h.objs.size ≤ dx
  dne : dx ≠ x
  ns : h'.Ns1 dx (fun y => if y = F then some v else none)
/-- a made one -/
structure OwnMade (F : Str) (h h' : Heap) (e C d : Addr) (v : Value) : Prop where
  keep : ∀ b o, h.get? b = some o → h'.get? b = some o
  new : h.objs.size ≤ e
  obj : ∃ oe vs, h'.get? e = some oe ∧ oe.cls = .ref C ∧ oe.dict = some d ∧ oe.data = .fields vs ∧ vs[1]? = some .none
  dbig : h.objs.size ≤ d
  dne : d ≠ e
  ns : h'.Ns1 d (fun y => if y = F then some v else none)
/-- the module's names in a heap -/
structure NsOk (h : Heap) (mg : Str → Option Value) : Prop where
  g : h.Ns mainGlobals mg
  b : ∃ mb, h.Ns builtinsNs mb ∧ ∀ x : Str, x ≠ "__name__" → mb x = bootBuiltins x
  lim : h.NoLimit
theorem NsOk.keeps {h h' : Heap} {mg : Str → Option Value} (n : NsOk h mg) (k : ∀ b o, h.get? b = some o → h'.get? b = some o) : NsOk h' mg :=
  ⟨n.g.keeps k, let ⟨mb, hb, e⟩ := n.b; ⟨mb, hb.keeps k, e⟩, n.lim.keeps k⟩
section
variable {prog : Program} {w : World} {A : Around} {E : Value → Shared → Prop} {h : Heap} {g : Array GenState} {d : Drawn} {t : Nat} {os : OsState}
variable {nm q : Str} {C N : Addr} {bs bm : List Value} {hdct : Bool} {sn : List Str} {sub : List Value} {ab : Bool} {col : Option Bool} {dd : Option Addr} {k0 k1 k2 k3 k5 : Option Value}
/-- ValueError.__init__ bound to a fresh exception, called -/
theorem wrap_call {u e t0 : Addr} {rest : List Value} {Q : Value → Shared → Prop} (hC : h.get? C = some (excClassObj nm q C N bs bm hdct sn sub ab col dd k0 k1 k2 k3 k5 "ValueError.__new__"))
    (he : h.get? e = some (excO C t0)) (hu : h.get? u = some (kxs_mw "ValueError.__init__" e)) (hz : rest.length ≤ sizeLine)
    (hq : ∀ h' t1, (∀ b o, b ≠ e → h.get? b = some o → h'.get? b = some o) → h'.get? e = some (excO C t1) → Q .none ⟨h', g, d, t, os⟩) :
    wpAny (model prog w) A (call (.ref u) rest) Q E ⟨h, g, d, t, os⟩ := by
  have FB := F.excBase_ValueError
  refine wpAny_call (codeAny_of_tree ?_)
  show wpAny _ A.in1 (callAny (.ref u) ⟨rest, []⟩) _ _ _
  simp only [callAny]
  refine wpAny_bind (wpAny_load hu ?_)
  have y : (Value.type "method-wrapper" == Value.type "method" || Value.type "method-wrapper" == Value.type "builtin_function_or_method" || Value.type "method-wrapper" == Value.type "method-wrapper") = true := by decide
  simp only [kxs_mw, y, if_true]
  refine KFB.if_so (by decide) ?_
  refine wpAny_bind (check_bound_init FB.toExcCallFacts hC he rfl (wpAny_bind (wpAny_pure (wpAny_pure ⟨plainId_quiet FB.init.plain _, codeAny_builtin FB.initEntry ?_⟩))))
  exact exc_init_tree (cls := .ref C) (t0 := t0) (dv := none) (c2 := .none) (c3 := .none) (b4 := .bool false) he hz fun h' k e' _ => hq h' _ k e'
end
section
variable {prog : Program} {w : World} {A : Around} {E : Value → Shared → Prop} {R : Result → Shared → Prop} {s : Shared} {K : Frag} {mg : Str → Option Value} {X qual F : Str} {C fI : Addr}
theorem sup_init (T : SupTxt prog K mg X qual F C fI) {x t0 : Addr} {v : Value} (Y : K.In s.heap) (M : NsOk s.heap mg) (hx : s.heap.get? x = some (excO C t0)) (hnx : K.lookup x = none) (hroom : A.depth < recursionLimit)
    (hq : ∀ h' tk dx t1, InitEnd F s.heap h' x C dx t1 v → R (.ok (.ret .none)) { s with heap := h', toks := tk }) :
    codeAny (model prog w) A (.call (.ref fI) ⟨[.ref x, v], []⟩) R s := by
  obtain ⟨oc, od, doc, pm, an, cda, cc, ct, osl, p1, p2, a1, a2, a3, a4, a5, a6, b1, b2, b3, b4, ccl, cl, cdd, cld, vs, ccs, csl, file, tf, ho, hcd, hcda, hvs, hfile, hl, hcc⟩ := T.fn
  obtain ⟨nm, q, N, bs, bm, sn, sub, ab, col, dd, k0, k1, k2, k3, k5, hC, hbm⟩ := T.cls
  have hcl : clsIn K C = some { name := nm, bases := bs, mro := .ref C :: bm, ns := N, qualname := q, hasDict := true, slotNames := sn, subclasses := sub, abstract := ab, collection := col, hasDel := false } := by unfold clsIn; rw [hC] <;> rfl
  have nF : ¬ F = "self" := fun e => by
    have z := T.nF
    rw [e] at z
    exact absurd z (by decide)
  refine ks_codeAny_call_defAt (binds := [("self", .ref x), (F, v)]) hroom (Y _ _ ho) rfl M.lim (codeRec_of Y hcd) rfl ?_ ?_ ?_ (fun h₁ hns k => ?_) rfl rfl rfl
  · exact BindsTo.of_eq (T.bnd _ _ _ _ _ _ _ _ _ _ _ _)
  · intro y hy
    have hy' : y ∈ (iS F).names := hy
    simp only [iS, List.mem_cons, List.not_mem_nil, or_false] at hy'
    rcases hy' with rfl | rfl | rfl | rfl <;> (intro z; cases z)
  · intro y hy
    rcases List.mem_cons.mp hy with rfl | hy
    · rfl
    · obtain rfl := List.mem_singleton.mp hy
      exact T.lF
  have Y₁ : K.In h₁ := Y.keeps k
  have M₁ := M.keeps k
  have hx₁ := k _ _ hx
  have sl : List.lookup ("self" : Str) ([("self", Value.ref x), (F, v)] : List (Str × Value)).reverse = some (.ref x) := by
    show List.lookup ("self" : Str) ([(F, v), ("self", Value.ref x)] : List (Str × Value)) = _
    have z : (("self" : Str) == F) = false := by simpa using fun e : ("self" : Str) = F => nF e.symm
    simp [List.lookup, z]
  have fl : List.lookup F ([("self", Value.ref x), (F, v)] : List (Str × Value)).reverse = some v := by
    show List.lookup F ([(F, v), ("self", Value.ref x)] : List (Str × Value)) = _
    simp [List.lookup]
  have hxC : x ≠ C := fun e => by
    have z := Y _ _ hC
    rw [← e, hx] at z
    cases z
  obtain ⟨mb, nb, eb⟩ := M₁.b
  obtain ⟨hp, g, d, t, os⟩ := s
  have hI : Looks (model prog w) h₁ (isInstance (.ref x) (.type "ValueError")) true := (W.InstAt.type (od := none) ⟨hx₁, rfl, rfl, trivial⟩ : Looks (model prog w) h₁ (typeOf (.ref x)) (.ref C)).andThen (looks_subIn Y₁ T.veC)
  refine ks_wpAt_execs_cons ?_
  refine ks_wpAt_Expr_any ?_
  refine ks_wpAt_MethodCall (he := ev_one hl) ?_
  refine ks_wpAt_super_base (env := ksEnv qual (iS F) hp.objs.size fI (.ref cda) cc) (ar := { arg := "self", annotation := none, pos := p1 }) T.lS T.lC rfl rfl (Y₁ _ _ ho) rfl rfl rfl (Y₁ _ _ hcda) rfl hvs hfile T.top ?_
  refine ks_loadName_global rfl T.lS (loadGlobal_builtin (env := ksEnv qual (iS F) hp.objs.size fI (.ref cda) cc) M₁.g T.gS nb ((eb _ (by decide +kernel)).trans PyProof.Rows.Boot.«super») ⟨rfl, ?_⟩)
  refine wpAny_loadName_free rfl T.lC rfl ⟨_, Y₁ _ _ hcc, rfl⟩ ?_
  refine wpAny_loadName_local rfl rfl hns sl ?_
  refine ks_wpAny_isType_cls (Y₁ _ _ hC) rfl ⟨rfl, ?_⟩
  refine ks_wpAny_call_super (Y₁ _ _ hC) rfl hx₁ rfl (fun c z => by cases z) (looks_mroIn Y₁ T.slf) fun h₂ hso k₂ => ?_
  have Y₂ := Y₁.keeps k₂
  have hx₂ := k₂ _ _ hx₁
  have hsup : alongIn K "__init__" (((Value.ref C :: bm).dropWhile (· != .ref C)).drop 1) = some (some (.builtin "ValueError.__init__")) := by
    have z := T.sup
    unfold ks_superIn at z
    rw [hcl] at z
    exact z
  refine kxs_getMethod kxs_ValueError hso (looks_opaque Y₂ T.thp) (l₀ := .ref C :: bm) (fun A Q E s k q => wpAny_bind ((looks_clsIn Y₂ hcl) A _ E s k (wpAny_pure q))) rfl Y₂ hsup (hI.keeps k₂) hxC (by decide) ?_
  have hn₃ : ∀ b o, h₂.get? b = some o → (h₂.push (kxs_mw "ValueError.__init__" x)).get? b = some o := fun b o z => Heap.get?_push_of_some _ z
  have hu₃ : (h₂.push (kxs_mw "ValueError.__init__" x)).get? h₂.objs.size = some (kxs_mw "ValueError.__init__" x) := Heap.get?_push_at rfl rfl
  have ns₃ := (hns.keeps k₂).keeps hn₃
  refine kxs_callWith (i := "ValueError.__init__") (x := x) rfl (evalArgs_plain ?_)
  refine spliced_cons (wpAny_Name (wpAny_loadName_local rfl T.lF ns₃ fl ?_) T.dF)
  refine spliced_nil ⟨hu₃, ?_⟩
  refine wrap_call (hn₃ _ _ (Y₂ _ _ hC)) (hn₃ _ _ hx₂) hu₃ (one_size v) fun h₄ t4 k₄ hx₄ => ?_
  refine wpAt_of_wpAny ?_
  have old : ∀ b o, b ≠ x → h₁.get? b = some o → h₄.get? b = some o := fun b o hb z => k₄ b o hb (hn₃ _ _ (k₂ _ _ z))
  have Y₄ : K.In h₄ := fun b o z => old b o (fun e => by rw [e, hnx] at z; cases z) (Y₁ b o z)
  have hxL : hp.objs.size ≠ x := Nat.ne_of_gt (Heap.lt_size hx)
  have ns₄ : h₄.Ns hp.objs.size (fun y => List.lookup y ([("self", Value.ref x), (F, v)] : List (Str × Value)).reverse) := hns.at fun o z => old _ o hxL z
  show wpAny _ _ (execs _ _) _ _ _
  refine wpAny_execs_cons (plainObj_wpAny_Assign_Attribute ?_)
  refine wpAny_Name (wpAny_loadName_local rfl T.lF ns₄ fl ?_) T.dF
  refine wpAny_Name (wpAny_loadName_local rfl rfl ns₄ sl ?_)
  refine set_plain Y₄ (ox := excO C t4) (od := none) ⟨hx₄, rfl, rfl, trivial⟩ T.sa ?_
  refine exc_osa Y₄ hx₄ hcl (show refsVE (.ref C :: bm) = true from hbm) rfl T.noN (fun h₅ tk₅ dx k₅ dn dne hx₅ hn₅ => ?_)
  show wpAny _ _ (execs _ _) _ _ _
  refine wpAny_execs_nil (hq h₅ tk₅ dx t4 ⟨fun b o hb e => k₅ b o hb (old b o hb (k b o e)), hx₅, ?_, dne, hn₅⟩)
  exact Nat.le_trans (Nat.le_of_lt ns₄.lt) dn
/-- X(v) -/
theorem sup_made (T : SupTxt prog K mg X qual F C fI) {v : Value} (Y : K.In s.heap) (M : NsOk s.heap mg) (hroom : A.depth + 1 < recursionLimit)
    (hq : ∀ h' tk e d, OwnMade F s.heap h' e C d v → R (.ok (.ret (.ref e))) { s with heap := h', toks := tk }) :
    codeAny (model prog w) A (.call (.ref C) ⟨[v], []⟩) R s := by
  obtain ⟨nm, q, N, bs, bm, sn, sub, ab, col, dd, k0, k1, k2, k3, k5, hC, hbm⟩ := T.cls
  obtain ⟨hp, g, dr, tk, os⟩ := s
  have k : ∀ b o, hp.get? b = some o → ((hp.push (kdv_tup [v])).push (excO C hp.objs.size)).get? b = some o := fun b o e => Heap.get?_push_of_some _ (Heap.get?_push_of_some _ e)
  have hget : ((hp.push (kdv_tup [v])).push (excO C hp.objs.size)).get? (hp.objs.size + 1) = some (excO C hp.objs.size) := by heap_get
  have hnx : K.lookup (hp.objs.size + 1) = none := by
    cases e : K.lookup (hp.objs.size + 1) with
    | none => rfl
    | some o =>
      have z : hp.get? (hp.objs.size + 1) = some o := Y _ _ e
      exact absurd (Nat.lt_of_succ_lt (Heap.lt_size z)) (Nat.lt_irrefl _)
  refine call_own PySem.F.excBase_ValueError (fun X => refsVE_contains X bm hbm) (Y _ _ hC) (looks_findIn Y T.iC) (fun self => bind_fn Y self T.tC) (one_size v) ?_
  refine sup_init (s := ⟨(hp.push (kdv_tup [v])).push (excO C hp.objs.size), g, dr, tk, os⟩) T (Y.keeps k) (M.keeps k) hget hnx ?_ fun h' tk' dx t1 ⟨k', hx, dn, dne, hns⟩ => ?_
  · show A.depth + 1 < recursionLimit
    exact hroom
  · have old : ∀ b o, hp.get? b = some o → h'.get? b = some o := fun b o e => k' b o (Nat.ne_of_lt (Nat.lt_succ_of_lt (Heap.lt_size e))) (k b o e)
    have z : hp.objs.size + 1 + 1 ≤ dx := by
      first
        | (simpa only [Heap.size_push] using dn)
        | exact dn
        | (have q := dn; rw [Heap.size_push, Heap.size_push] at q; exact q)
    exact ⟨rfl, hq h' tk' (hp.objs.size + 1) dx ⟨old, Nat.le_succ _, ⟨_, _, hx, rfl, rfl, rfl, rfl⟩, Nat.le_trans (Nat.le_trans (Nat.le_succ _) (Nat.le_succ _)) z, dne, hns⟩⟩
end
end SupX
namespace L2
open PySem PySem.Spec PyProof.Rows SupX
theorem relO_one {F : Str} {v : V} {v' : Value} (r : RelV v v') (f : Str) : RelO (List.lookup f [(F, v)]) (if f = F then some v' else none) := by
  by_cases hw : f = F
  · subst hw
    rw [if_pos rfl]
    have q : List.lookup f [(f, v)] = some v := by simp [List.lookup]
    rw [q]
    exact r
  · rw [if_neg hw]
    have qw : (f == F) = false := by simpa using hw
    have q2 : List.lookup f [(F, v)] = none := by simp [List.lookup, qw]
    rw [q2]
    trivial
section
variable {X : Cx} {C fI : Addr} {x qual F : Str}
/-- x(e), an own error of one field F -/
def tMkSup (C : Addr) (F : Str) (ta : TA) : St → Hp → XK → Prop := fun σ H Q => ta σ H fun vs H1 => ∃ v, vs = [v] ∧ ∀ d, H1 d = none → Q (.ref C) (some d) (upd H1 d (.xd [(F, v)]))
theorem pmk_sup {a : Expr} {ta : TA} {p pos : Pos} {k : Nat} (T : SupTxt X.prog X.K X.mg x qual F C fI) (hr : Room k X.A) (ha : PA X [a] ta) (hg : Gl X x := by rfl) (hdb : (x == ("__debug__" : Str)) = false := by decide)
    (he : starEach (a :: []) X.env = (false, eval a X.env) :: starEach [] X.env := by rfl) (hpl : (backTo pos (starEach [] X.env)).any (·.1) = false := by rfl) :
    PMk X (.Call (.Name x p) [a] [] pos) (tMkSup C F ta) := by
  intro pins s σ H Q I h
  refine wpAny_Call_Name_kw (ld_glob I hg T.gC ?_ hdb)
  refine PySem.W.callWith_K (h₀ := X.base) I.ok.mod.kin T.kC (thn (ha.run pos pins s σ H _ I h) fun us s1 hh => ?_) he hpl
  obtain ⟨vs, H1, I1, r1, v, ev, q1⟩ := hh
  subst ev
  refine ⟨I1.kIn, ?_⟩
  cases r1 with
  | cons rv rn =>
    rename_i v' us'
    cases rn
    show wpAny _ _ (call (.ref C) [v']) _ _ _
    have M1 : NsOk s1.heap X.mg := ⟨I1.ok.mod.glob.keeps I1.bk, let ⟨mb, hb, e⟩ := I1.ok.mod.blt; ⟨mb, hb.keeps I1.bk, e⟩, I1.nolimit⟩
    obtain ⟨hp, g, dr, tk, os⟩ := s1
    refine wpAny_call (sup_made T I1.kIn M1 (by have := hr.dp; omega) fun h' tk' e d M => ?_)
    show MkP X pins σ Q (.ref e) ⟨h', g, dr, tk', os⟩
    obtain ⟨oe, fv, hoe, hc, hd, hdat, h1⟩ := M.obj
    have hns := M.ns
    obtain ⟨G', g1, g2⟩ := restrict h' fun b => decide (b ≠ e)
    have gk : ∀ b, b ≠ e → G'.get? b = h'.get? b := fun b hb => g1 b (decide_eq_true hb)
    have ge : G'.get? e = none := g2 e (by simp)
    have old : ∀ b o, hp.get? b = some o → G'.get? b = some o := fun b o q => (gk b (Nat.ne_of_lt (Nat.lt_of_lt_of_le (Heap.lt_size q) M.new))).trans (M.keep b o q)
    have ob : ObjOk X.prog X.w (upd H1 d (.xd [(F, v)])) G' d (.xd [(F, v)]) :=
      ⟨_, hns.at (fun o q => (gk d M.dne).trans q), fun f => relO_one rv f⟩
    have J : Inv X pins σ (upd H1 d (.xd [(F, v)])) ⟨G', g, dr, tk', os⟩ := I1.laid (t' := tk') old M.dbig ob
    refine ⟨e, oe, fv, ⟨G', g, dr, tk', os⟩, _, .ref C, some d, rfl, J, fun b o q => ?_, ge, hoe, ⟨hc, hd⟩, hdat, h1, ?_, rfl, I1.bare, raises_own T.exC T.tyC, q1 d (I1.hok.fresh M.dbig)⟩
    · by_cases hb : b = e
      · have q' : G'.get? b = some o := q
        rw [hb, ge] at q'; cases q'
      · exact (gk b hb).symm.trans q
    · rw [upd_ne (Ne.symm M.dne)]
      exact I1.hok.fresh M.new
/-- raise x(e) -/
def tRaiseSup (C : Addr) (F : Str) (W : WX) (ta : TA) : TS := fun _ σ H => tMkSup C F ta σ H fun cls d H' => W cls d σ H'
theorem ps_raiseSup {a : Expr} {ta : TA} {W : WX} {p pos pos2 : Pos} {k : Nat} (hc : X.calm = true) (T : SupTxt X.prog X.K X.mg x qual F C fI) (hr : Room k X.A) (tk : Takes X W) (ha : PA X [a] ta) (hg : Gl X x := by rfl) (hdb : (x == ("__debug__" : Str)) = false := by decide)
    (he : starEach (a :: []) X.env = (false, eval a X.env) :: starEach [] X.env := by rfl) (hpl : (backTo pos (starEach [] X.env)).any (·.1) = false := by rfl) :
    PS X (.Raise (some (.Call (.Name x p) [a] [] pos)) none pos2) (tRaiseSup C F W ta) := ps_raise hc tk (pmk_sup T hr ha hg hdb he hpl)
/-- e.F, e the exception that the suite holds (at a; its class cls, its dict d) -/
def tBySup (C : Addr) (F : Str) (a : Addr) (cls : Value) (d : Option Addr) (te : TE) : TE := fun σ H Q => te σ H fun x H1 => x = .ref a ∧ cls = .ref C ∧ ∃ (dd : Addr) (v : V), d = some dd ∧ H1 dd = some (.xd [(F, v)]) ∧ Q v H1
theorem pe_bySup {a : Addr} {oe : Obj} {cls : Value} {d : Option Addr} {pn : List (Addr × Obj)} {e : Expr} {te : TE} {pos : Pos} (T : SupTxt X.prog X.K X.mg x qual F C fI) (hz : Zc cls d oe) (hf : ∃ vs, oe.data = .fields vs) (he : PE (X.suite a ((a, oe) :: pn)) e te)
    (hb : attributeBase e F X.env (eval e X.env) = eval e X.env := by rfl) :
    PE (X.suite a ((a, oe) :: pn)) (.Attribute e F pos) (tBySup C F a cls d te) := by
  refine ⟨fun pins s σ H Q I h => ?_⟩
  refine attr_of hb (thn (he.run pins s σ H _ I h) fun u s1 hh => ?_)
  obtain ⟨x, H1, I1, rx, ex, ec, dd, v, ed, ea, q⟩ := hh
  subst ex
  obtain rfl : u = Value.ref a := rx
  subst ec
  subst ed
  obtain ⟨ha, _⟩ := I1.pin (a, oe) (List.mem_append_left _ List.mem_cons_self)
  obtain ⟨vs, hd⟩ := hf
  have hx : ObjOk X.prog X.w H1 s1.heap dd (.xd [(F, v)]) := I1.hok dd _ ea
  obtain ⟨mA, hns, hr⟩ := hx
  obtain ⟨od, ho, hl⟩ := lookIn_ns hns
  have l : List.lookup F [(F, v)] = some v := by simp [List.lookup]
  obtain ⟨u, hu, ru⟩ := RelO.some_of (v := v) (o := mA F) (by rw [← l]; exact hr F)
  have J : PySem.W.InstAt s1.heap a oe C (some od) := ⟨ha, hz.1, by unfold PySem.W.notCls; rw [hd] <;> rfl, by rw [hz.2]; exact ho⟩
  exact PySem.HandSPX.exc_get I1.kIn J T.ga T.gg T.exC (PySem.W.findObj_own T.hdC T.noN rfl (by rw [hl, hu])) (handed_of ru) ⟨v, H1, I1.tok _, ru, q⟩
end
end L2
namespace SupX
open PySem PySem.W PySem.Calls PyProof.Rows PySem.HandSPX
/-- an error of the class at S is what «except S» names -/
theorem exm_self {K : Frag} {S : Addr} (h1 : subIn K (.ref S) (.type "BaseException") = some true) (h2 : isClsIn K S = true) (h3 : typeIn K (.ref S) = some (.type "type")) (h4 : subIn K (.ref S) (.ref S) = some true) : exmOne K (.ref S) (.ref S) = some true := by
  have e1 : (subIn K (.ref S) (.type "BaseException") == some true) = true := by rw [h1] <;> rfl
  have e2 : ((clsIn K S).isSome && typeIn K (.ref S) == some (.type "type")) = true := by
    have h2' : (clsIn K S).isSome = true := h2
    rw [h2', h3] <;> rfl
  show (if (subIn K (.ref S) (.type "BaseException") == some true) = true then (if ((clsIn K S).isSome && typeIn K (.ref S) == some (.type "type")) = true then subIn K (.ref S) (.ref S) else none) else none) = some true
  rw [if_pos e1, if_pos e2]
  exact h4
end SupX
/-! Rules over data (Dp): sorted, list.remove, in over tuples; sorted(dict of ints) at any length; t[::-1]; o.m(k=v). -/
namespace L2
open PySem PySem.Spec PyProof.Rows
section
variable {X : Cx}
/-! ### data, item by item -/
theorem DpAll.length {K : PySem.W.Frag} {H : Hp} : ∀ {vs : List V} {ds : List PyData}, DpAll K H vs ds → vs.length = ds.length
  | _, _, .nil => rfl
  | _, _, .cons _ t => by rw [List.length_cons, List.length_cons, DpAll.length t]
theorem DpAll.each {pins : List (Addr × Obj)} {σ : St} {H : Hp} {s : Shared} (I : Inv X pins σ H s) : ∀ {ps : List (V × PyData)} {us : List Value}, (∀ p ∈ ps, Dp X.K H p.1 p.2) → Vals (ps.map (·.1)) us →
    PySem.W.EachIs (fun u (p : V × PyData) => RelV p.1 u) us ps ∧ PySem.W.EachIs (fun u (p : V × PyData) => ∃ as, Reads s.heap u p.2 as) us ps
  | [], _, _, r => by
    cases r
    exact ⟨.nil, .nil⟩
  | p :: ps, _, h, r => by
    cases r with
    | cons r1 r2 =>
      obtain ⟨h1, h2⟩ := DpAll.each I (fun q hq => h q (List.mem_cons_of_mem _ hq)) r2
      exact ⟨.cons r1 h1, .cons (Dp.reads I p.2 p.1 _ (h p List.mem_cons_self) r1) h2⟩
theorem vals_each : ∀ {ps : List (V × PyData)} {us : List Value}, PySem.W.EachIs (fun u (p : V × PyData) => RelV p.1 u) us ps → Vals (ps.map (·.1)) us
  | _, _, .nil => .nil
  | _, _, .cons r t => .cons r (vals_each t)
/-! ### sorted of data -/
def leD (p q : V × PyData) : Bool := PySem.W.dataLe false (fun p : V × PyData => p.2) p q
def rSortD (K : PySem.W.Frag) : List V → Hp → VK → Prop := fun vs H Q => ∃ (a : Addr) (ps : List (V × PyData)), vs = [V.ref a] ∧ SqL K H a (ps.map (·.1)) ∧ (∀ p ∈ ps, Dp K H p.1 p.2) ∧ PySem.W.AllAlike (ps.map (·.2)) ∧ PySem.W.Sortable (ps.map (·.2)) ∧
  (∀ p ∈ ps, p.2.depth ≤ 60) ∧ ∀ p, H p = none → Q (.ref p) (upd H p (.lst ((ps.mergeSort leD).map (·.1))))
theorem cr_sortD (hu : X.A.units + 64 < cLine) : CallR X (.builtin "sorted") (rSortD X.K) := by
  intro pins s σ H vs us Q I r h
  obtain ⟨a, ps, rfl, hs, hd, hal, hso, hdep, q⟩ := h
  obtain ⟨its, rv, hl, hz⟩ := I.list hs
  rw [Vals.ref1 r]
  obtain ⟨e1, e2⟩ := DpAll.each I hd rv
  rw [List.length_map] at hz
  refine PySem.W.sorted_data (enc := fun p : V × PyData => p.2) hl.isList e1 e2 hal hso hz (fun b hb => by have := hdep b hb; show X.A.units + 2 + b.2.depth < cLine; omega) fun out hlen ho => ?_
  obtain ⟨ep, he'⟩ := PyProof.Rows.sortedAll_at s.heap its out.toArray
  have hlen' : ((ps.mergeSort leD).map (·.1)).length ≤ sizeLine := by rw [List.length_map, List.length_mergeSort]; exact hz
  exact ⟨.ref _, upd H (s.heap.objs.size + 1) (.lst ((ps.mergeSort leD).map (·.1))), I.laid (t' := s.toks) (fun _ _ => PyProof.Rows.sortedAll_old) (Nat.le_succ _) ⟨hlen', out, ep, vals_each ho, he'⟩, rfl, q _ (I.hok.fresh (Nat.le_succ _))⟩
/-! ### l.remove(x), the first equal one -/
def rRemoveD (K : PySem.W.Frag) : V → List V → Hp → VK → Prop := fun x vs H Q => ∃ (l : Addr) (xs : List V) (ds : List PyData) (y : V) (d : PyData) (j : Nat), x = .ref l ∧ vs = [y] ∧ H l = some (.lst xs) ∧ DpAll K H xs ds ∧ Dp K H y d ∧
  SeqAt.shaped (.list ds) = true ∧ SeqAt.shaped d = true ∧ SeqAt.dataPlace ds d = some j ∧ Q .non (upd H l (.lst (xs.eraseIdx j)))
theorem mt_removeD (hu : X.A.units + 66 < cLine) : MtM X "list.remove" (rRemoveD X.K) := by
  intro pins s σ H x vs v us Q I rx rv h
  obtain ⟨l, xs, ds, y, d, j, rfl, rfl, hH, hds, hd, hl1, hl2, hp, q⟩ := h
  cases rx
  obtain ⟨u, rfl, ru⟩ := rv.one
  obtain ⟨as, r1⟩ := Dp.reads I d y u hd ru
  obtain ⟨z, its, n, r, hl, e⟩ := I.lstM hH
  obtain ⟨bs, r2⟩ := Dp.readsAll I ds xs its hds r
  have hroom : X.A.units + 1 + min (PyData.depthAll ds) d.depth < cLine := room_in_shaped hl2 (by omega)
  refine SeqAt.remove_list_data (vs := its.toArray) (xs := ds) (d := d) (j := j) (PlainL.isList ⟨_, n, e, rfl, rfl, rfl⟩) r2 r1 (PyData.plainAll_of_canLay0 _ (SeqAt.canLay_of_shaped hl1)) (PyData.plain_of_canLay0 _ (SeqAt.canLay_of_shaped hl2)) hroom hp (by rw [List.size_toArray]; omega) ?_
  refine ⟨.non, _, I.lset (its' := its.eraseIdx j) hH e ?_ (r.eraseIdx j) ?_, rfl, q⟩
  · show its.toArray.eraseIdxIfInBounds j = (its.eraseIdx j).toArray
    rw [List.eraseIdxIfInBounds_toArray]
  · have := len_erase xs j
    omega
/-! ### x in t, t a tuple of data -/
def rInTD (K : PySem.W.Frag) : R2 := fun x y H Q => ∃ d ds, Dp K H x d ∧ Dp K H y (.tuple ds) ∧ SeqAt.shaped d = true ∧ SeqAt.shaped (.tuple ds) = true ∧ Q (.bl (ds.any fun z => PyData.eqv z d)) H
def rNotInTD (K : PySem.W.Frag) : R2 := fun x y H Q => ∃ d ds, Dp K H x d ∧ Dp K H y (.tuple ds) ∧ SeqAt.shaped d = true ∧ SeqAt.shaped (.tuple ds) = true ∧ Q (.bl (!ds.any fun z => PyData.eqv z d)) H
theorem op_inTD (hu : X.A.units + 65 < cLine) : OpR X (compareOp .In) (rInTD X.K) := by
  intro pins s σ H x y v u Q I rx ry h
  obtain ⟨d, ds, hd, he, sd, se, q⟩ := h
  obtain ⟨as, r1⟩ := Dp.reads I d x v hd rx
  obtain ⟨bs, r2⟩ := Dp.reads I (.tuple ds) y u he ry
  exact SeqAt.in_tuple_reads r2 r1 (SeqAt.canLay_of_shaped se) (SeqAt.canLay_of_shaped sd) (room_in_shaped sd hu) ⟨.bl _, H, I, rfl, q⟩
theorem op_notInTD (hu : X.A.units + 65 < cLine) : OpR X (compareOp .NotIn) (rNotInTD X.K) := by
  intro pins s σ H x y v u Q I rx ry h
  obtain ⟨d, ds, hd, he, sd, se, q⟩ := h
  obtain ⟨as, r1⟩ := Dp.reads I d x v hd rx
  obtain ⟨bs, r2⟩ := Dp.reads I (.tuple ds) y u he ry
  exact SeqAt.notIn_tuple_reads r2 r1 (SeqAt.canLay_of_shaped se) (SeqAt.canLay_of_shaped sd) (room_in_shaped sd hu) ⟨.bl _, H, I, rfl, q⟩
end
section
variable {X : Cx} {CX : CXT} {k : Nat} {f C : Addr} {fd : FuncData} {ps ks : List Str} {sp : Sp} {E : XK} {x m : Str} {p pos apos kpos : Pos} {e o : Expr} {es : List Expr} {kws : List Keyword} {te ta : TE} {t tk : TA} {nm : Option Str}
variable {g : List Value → List Value → List Value} {gV : List V → List V → List V}
/-! ### calls by keywords alone -/
/-- f(k = v, ..) -/
theorem pe_callK0 (F : FnOk X.prog X.w X.K X.mg X.base CX k f fd ps sp) (hr : Room k X.A) (hg : Gl X x) (hm : X.mg x = some (.ref f)) (hk : PySem.W.keepIn X.K (.ref f) = true) (hb : KBinds X.K fd ps ks g gV) (hx : Passes CX X E)
    (hkw : PK X kws tk) (hall : (backToKw pos (keywordEach kws X.env)).all (·.1.isSome) = true := by rfl) (hks : (backToKw pos (keywordEach kws X.env)).filterMap (·.1) = ks := by rfl)
    (hdb : (x == ("__debug__" : Str)) = false := by decide) (hpl : ((backTo pos (starEach [] X.env)).any (·.1) || (backToKw pos (keywordEach kws X.env)).any (·.1.isNone)) = false := by rfl) :
    PE X (.Call (.Name x p) [] kws pos) (tCallK sp gV E tNil tk) := by
  refine ⟨fun pins s σ H Q I h => ?_⟩
  refine wpAny_Call_Name_kw (ld_glob I hg hm ?_ hdb)
  refine PySem.W.callWith_KW0 (first := []) (h₀ := X.base) I.ok.mod.kin hk hall ?_ hpl
  refine thn (hkw.run pos pins s σ H _ I h) fun ws s2 ⟨zs, H2, I2, rz, q2⟩ => ⟨I2.kIn, ?_⟩
  rw [hks]
  exact run_fnk (us := []) F hr hb hx I2 .nil rz q2
/-- o.m(k = v, ..) -/
def tMethK (C : Addr) (m : Str) (sp : Sp) (gV : List V → List V → List V) (E : XK) (ta : TE) (tk : TA) : TE := fun σ H Q => ta σ H fun x H1 => ∃ a dx fs, x = .ref a ∧ H1 a = some (.ins C dx fs) ∧ fs.lookup m = none ∧
  tk σ H1 fun zs H2 => sp (gV [x] zs) H2 Q E
theorem pe_methK0 {pl : Sem Bool} (he : PE X o ta) (c : Cls X.K C) (hm : Meth X.K C m f) (F : FnOk X.prog X.w X.K X.mg X.base CX k f fd ps sp) (hr : Room k X.A) (hb : KBinds X.K fd ps ks g gV) (hx : Passes CX X E)
    (hkw : PK X kws tk) (hall : (backToKw pos (keywordEach kws X.env)).all (·.1.isSome) = true := by rfl) (hks : (backToKw pos (keywordEach kws X.env)).filterMap (·.1) = ks := by rfl)
    (hpl : ((backTo pos (starEach [] X.env)).any (·.1) || (backToKw pos (keywordEach kws X.env)).any (·.1.isNone)) = false := by rfl)
    (ht : eval (.Call (.Attribute o m apos) [] kws pos) X.env = (do
      let ov ← eval o X.env
      standAt apos.atName
      let (f, first) ← holding [ov] (getMethod ov m pl)
      callWith pos f first (backTo pos (starEach [] X.env)) (backToKw pos (keywordEach kws X.env))) := by rfl) :
    PE X (.Call (.Attribute o m apos) [] kws pos) (tMethK C m sp gV E ta tk) := by
  refine ⟨fun pins s σ H Q I h => ?_⟩
  refine PySem.W.methodCall_KW (pl := pl) (thn (he.run pins s σ H _ I h) fun u s1 ⟨x, H1, I1, rx, a, dx, fs, ex, ea, l, q⟩ => ?_) ht
  subst ex
  obtain rfl : u = Value.ref a := rx
  refine getmeth_ok I1 ea c hm l ?_
  refine PySem.W.callWith_KW0 (first := [.ref a]) (h₀ := X.base) I.ok.mod.kin hm.kp hall ?_ hpl
  refine thn (hkw.run pos pins s1 σ H1 _ I1 q) fun ws s2 ⟨zs, H2, I2, rz, q2⟩ => ⟨I2.kIn, ?_⟩
  rw [hks]
  exact run_fnk (us := [.ref a]) (vs := [.ref a]) F hr hb hx I2 (.cons rfl .nil) rz q2
end
namespace TRev
open HT
section
variable {prog : Program} {w : World} {A : Around} {E : Value → Shared → Prop} {s : Shared}
theorem fm_congr {α β : Type} {f g : α → Option β} : ∀ {l : List α}, (∀ x ∈ l, f x = g x) → l.filterMap f = l.filterMap g
  | [], _ => rfl
  | a :: l, h => by rw [List.filterMap_cons, List.filterMap_cons, h a List.mem_cons_self, fm_congr fun x hx => h x (List.mem_cons_of_mem _ hx)]
theorem adjust_rev (n : Nat) : Builtin.Slice.sliceAdjust none none (-1) (n : Int) = ((n : Int) - 1, -1) := by
  unfold Builtin.Slice.sliceAdjust
  have h : (-1 : Int) < 0 := by decide
  simp only [h, if_true]
theorem places_rev (n : Nat) : Builtin.Slice.slicePlaces ((n : Int) - 1) (-1) (-1) = n := by
  unfold Builtin.Slice.slicePlaces
  have h : ¬ (-1 : Int) > 0 := by decide
  have e : -(-1 : Int) = 1 := by decide
  simp only [h, if_false, e, Int.ediv_one]
  split <;> omega
theorem pick_rev (xs : Array Value) : ((List.range xs.size).filterMap fun (m : Nat) => xs[(((xs.size : Int) - 1) + (m : Int) * (-1)).toNat]?).toArray = xs.toList.reverse.toArray := by
  congr 1
  have e : (List.range xs.size).filterMap (fun (m : Nat) => xs[(((xs.size : Int) - 1) + (m : Int) * (-1)).toNat]?) = ((List.range xs.size).map fun k => xs.size - 1 - k).filterMap (xs[·]?) := by
    rw [List.filterMap_map]
    refine fm_congr fun m hm => ?_
    have hm' := List.mem_range.mp hm
    have z : (((xs.size : Int) - 1) + (m : Int) * (-1)).toNat = xs.size - 1 - m := by omega
    show xs[(((xs.size : Int) - 1) + (m : Int) * (-1)).toNat]? = xs[xs.size - 1 - m]?
    rw [z]
  rw [e, PySem.W.krv_range, List.filterMap_reverse, PySem.W.krv_all]
theorem applied_rev {sl : Addr} {vl vu vs : Value} {n : Nat} {Q : Int × Int × Nat → Shared → Prop} (hs : s.heap.IsSliceOf sl vl vu vs) (pl : IsPart vl none) (pu : IsPart vu none) (ps : IsPart vs (some (-1)))
    (h : Q ((n : Int) - 1, -1, n) s) : wpAny (model prog w) A (Builtin.Slice.sliceApplied (.ref sl) (pure (n : Int))) Q E s := by
  obtain ⟨o, ho, _, hd⟩ := id hs
  unfold Builtin.Slice.sliceApplied Builtin.Slice.sliceFields
  refine wpAny_bind (wpAny_bind (wpAny_field ho hd (x := vl) rfl (wpAny_bind (wpAny_field ho hd (x := vu) rfl (wpAny_bind (wpAny_field ho hd (x := vs) rfl (wpAny_pure (wpAny_bind (slicePart_ ps ?_)))))))))
  refine W.KFB.if_not rfl (wpAny_bind (slicePart_ pl (wpAny_bind (slicePart_ pu (wpAny_bind (wpAny_pure ?_))))))
  simp only [Option.getD_some, adjust_rev, places_rev]
  exact wpAny_pure h
theorem getItem_tuple_rev {t sl : Addr} {items : Array Value} {vl vu vs : Value} {Q : Value → Shared → Prop} (ht : IsTup s.heap t items) (hs : s.heap.IsSliceOf sl vl vu vs) (pl : IsPart vl none) (pu : IsPart vu none) (ps : IsPart vs (some (-1)))
    (h : Q (.ref s.heap.objs.size) { s with heap := s.heap.push { cls := .type "tuple", data := .seq items.toList.reverse.toArray } })
    (hz : items.size ≤ sizeLine) : wpAny (model prog w) A (getItem (.ref t) (.ref sl)) Q E s := by
  have hok : sizeOk (.seq items.toList.reverse.toArray) := by
    show items.toList.reverse.toArray.size ≤ sizeLine
    simpa using hz
  have hT : s.TypeIs (.ref sl) "slice" := let ⟨o, ho, hc, _⟩ := hs; ⟨o, ho, hc⟩
  unfold getItem
  refine wpAny_holding (wpAny_bind (wpAny_sequenceKey ht.typeIs (by decide) ?_))
  refine wpAny_bind (wpAny_callSpecial?_slot (name := Str.ofString "__getitem__") ht.typeIs PyProof.Rows.slot_tuple_getitem (wpAny_call_entry PyProof.Rows.slot_tuple_getitem ht.typeIs PyProof.Rows.entry_tuple_getitem ?_ (PyProof.Rows.args_tuple_getitem _ _)))
  unfold Builtin.«tuple.__getitem__»
  refine wpAny_bind (m := slotArgs "__getitem__" 1 _) (wpAny_pure (wpAny_bind (PyProof.Rows.tupleItemsOf_ ht (wpAny_bind (wpAny_typeOf hT (W.KFB.if_so (by decide) (wpAny_bind (applied_rev hs pl pu ps ?_))))))))
  refine W.KFB.if_not (by rw [show ((-1 : Int) == 1) = false from rfl, Bool.and_false, Bool.false_and]) ?_
  rw [pick_rev]
  refine wpAny_bind (m := Builtin.Tuple.tupleExact _) (wpAny_newObj_type (wpAny_bind (wpAny_pure (wpAny_pure ⟨_, rfl, wpAny_pure h⟩))) hok)
end
end TRev
section
variable {X : Cx}
/-! ### t[::-1] of a tuple -/
def tRevT (K : PySem.W.Frag) (te : TE) : TE := fun σ H Q => te σ H fun x H1 => ∃ a xs, x = .ref a ∧ SqT K H1 a xs ∧ ∀ p, H1 p = none → Q (.ref p) (upd H1 p (.tup xs.reverse))
/-- the slice object of [::-1] -/
theorem rev_slice {k : Nat} {p1 p2 p3 : Pos} {pins : List (Addr × Obj)} {σ : St} {H : Hp} {s : Shared} {Q : Value → Shared → Prop} (I : Inv X pins σ H s)
    (h : ∀ (s1 : Shared) (vl vu vs : Value), IsPart vl none → IsPart vu none → IsPart vs (some (-1)) → Inv X pins σ H { s1 with heap := s1.heap.push { cls := .type "slice", data := .fields #[vl, vu, vs] } } →
      Q (.ref s1.heap.objs.size) { s1 with heap := s1.heap.push { cls := .type "slice", data := .fields #[vl, vu, vs] } }) :
    wpAny (model X.prog X.w) X.A (eval (.Slice none none (some (.UnaryOp .USub (.Constant (.int 1) k p1) p2)) p3) X.env) Q X.xe s := by
  have step : PO X (some (.UnaryOp .USub (.Constant (.int 1) k p1) p2)) (tPart (tUn (rU fun i => .int (-i)) (tC (.int 1)))) := po_some (pe_un un_neg pe_int)
  refine wpAny_Slice (thn (po_none.run pins s σ H (fun o H' => o = none ∧ H' = H) I ⟨rfl, rfl⟩) ?_)
  rintro vl s2 ⟨_, _, I2, pl, rfl, rfl⟩
  refine thn (po_none.run pins s2 σ _ (fun o H' => o = none ∧ H' = _) I2 ⟨rfl, rfl⟩) ?_
  rintro vu s3 ⟨_, _, I3, pu, rfl, rfl⟩
  refine thn (step.run pins s3 σ _ (fun o H' => o = some (-1) ∧ H' = _) I3 ⟨1, rfl, -1, rfl, rfl, rfl⟩) ?_
  rintro vs s4 ⟨_, _, I4, ps, rfl, rfl⟩
  exact h s4 vl vu vs pl pu ps (I4.kept (t' := s4.toks) fun b ob q => Heap.get?_push_of_some _ q)
theorem pe_revT {e : Expr} {te : TE} {k : Nat} {p1 p2 p3 pos : Pos} (he : PE X e te) : PE X (.Subscript e (.Slice none none (some (.UnaryOp .USub (.Constant (.int 1) k p1) p2)) p3) pos) (tRevT X.K te) := by
  refine ⟨fun pins s σ H Q I h => Subscript_ (thn (he.run pins s σ H _ I h) ?_)⟩
  rintro _ s1 ⟨_, H1, I1, rx, a, xs, rfl, hx, q⟩
  cases rx
  refine rev_slice I1 fun s4 vl vu vs pl pu ps I5 => ?_
  obtain ⟨its, r, ht, hz⟩ := I5.tuple hx
  refine tail_any (ops := [.ref a, .ref s4.heap.objs.size]) ht.typeIs (PyProof.Rows.slot_tuple_getitem.lookup) ?_ (by with_unfolding_all rfl)
  refine TRev.getItem_tuple_rev ht (Heap.IsSliceOf.new _ vl vu vs) pl pu ps ?_ (by rw [List.size_toArray, ← r.length]; exact hz)
  exact ⟨.ref _, _, I5.laid (t' := s4.toks) (o := .tup xs.reverse) (fun b ob w => Heap.get?_push_of_some _ w) (Nat.le_refl _) ⟨by rw [List.length_reverse]; exact hz, _, r.reverse, IsTup.new _ _⟩, rfl, q _ (I5.hok.fresh (Nat.le_refl _))⟩
/-! ### sorted(d), d with int keys, any number of them -/
theorem keys_ints {P : Program} {w : World} {vs : List (Key × Value)} {ks : List Int} {acc : List Value} (hk : vs.map (·.1) = ks.map Sum.inl) (hl : acc.length = vs.length)
    (ha : ∀ (j : Nat) (v : Value), acc[j]? = some v → ∃ k x, vs[j]? = some (k, x) ∧ (mixKind P w).is k v = true) : IntsAre acc ks := by
  have lk : vs.length = ks.length := by simpa using congrArg List.length hk
  refine ints_each (by omega) fun j v e => ?_
  obtain ⟨k, x, e1, e2⟩ := ha j v e
  have ej : (ks.map Sum.inl)[j]? = some k := by rw [← hk, List.getElem?_map, e1]; rfl
  rw [List.getElem?_map, Option.map_eq_some_iff] at ej
  obtain ⟨n, en, rfl⟩ := ej
  obtain ⟨t, et⟩ := Value.isInt_shape (k := n) (v := v) e2
  exact ⟨n, t, en, et⟩
theorem sorted_keys {P : Program} {w : World} {A : Around} {E : Value → Shared → Prop} {s : Shared} {d : Addr} {vs : List (Key × Value)} {ep : Nat} {ks : List Int} {Q : Value → Shared → Prop} (hh : A.handled = none) (lo : (d == sysModules) = false)
    (hd : s.heap.DictAt (mixKind P w) d vs ep) (hk : vs.map (·.1) = ks.map Sum.inl) (hn : vs.length ≤ sizeLine)
    (h : ∀ (h1 h2 : Heap) (tk ep : Nat) (out : List Value) (ys : List Int), (∀ b o, s.heap.get? b = some o → h1.get? b = some o) → (∀ b o, h1.get? b = some o → h2.get? b = some o) → h2.get? h1.objs.size = some (seqObj "list" out.toArray ep) →
      IntsAre out ys → ys.Perm ks → ys.Pairwise (· ≤ ·) → Q (.ref h1.objs.size) { s with heap := h2, toks := tk }) : wpAny (model P w) A (call (.builtin "sorted") [.ref d]) Q E s := by
  refine Calls.call_function_entry kind_sorted plain_sorted entry_sorted (args_sorted1 _) ?_
  unfold Builtin.«sorted»
  refine wpAny_bind (m := checkCount "sorted" 1 1 _) (wpAny_pure (wpAny_bind (PySem.W.kdu_collect (PySem.W.kdl_dict lo) hh hd hn fun h1 tk acc k1 hacc => ?_)))
  obtain ⟨c1, c2⟩ := hacc
  have la : acc.toList.length = vs.length := by rw [Array.length_toList, c1]
  have hi : IntsAre acc.toList ks := keys_ints hk la fun j v e => c2 j v (by rw [← Array.getElem?_toList]; exact e)
  have la' : acc.toList.length ≤ sizeLine := la ▸ hn
  have at1 : (h1.push (seqObj "list" acc.toList.toArray 0)).get? h1.objs.size = some (seqObj "list" acc.toList.toArray 0) := Heap.get?_push_size _ rfl
  refine wpAny_bind (wpAny_newList (wpAny_bind (wpAny_holding (wpAny_call_entry slot_list_sort ⟨_, at1, rfl⟩ entry_list_sort (list_sort_treeAny at1 hi la' fun out ys g1 g2 g3 => ⟨_, rfl, ?_⟩) (args_list_sort _)))) la')
  obtain ⟨c, at2⟩ := sortedHeap_at (vs := acc.toList) (out := out) at1
  refine wpAny_pure ⟨_, rfl, h h1 _ tk c out.toList ys k1 (fun b o e => ?_) (by rw [Array.toArray_toList]; exact at2) g1 g2 g3⟩
  have lt := Heap.lt_size e
  exact (sortedHeap_old (Nat.ne_of_lt lt) (by rw [size_push']; exact Nat.lt_succ_of_lt lt)).trans (Heap.get?_push_of_some _ e)
def rSortDk : List V → Hp → VK → Prop := fun xs H Q => ∃ (a : Addr) (kvs : List (Key × V)) (ks : List Int), xs = [.ref a] ∧ Rd H a (.dK kvs) ∧ kvs.map (·.1) = ks.map Sum.inl ∧
    ∀ (ys : List Int) (p : Addr), ys.Perm ks → ys.Pairwise (· ≤ ·) → H p = none → Q (.ref p) (upd H p (.lst (ys.map V.int)))
theorem call_sortDk (hc : X.calm = true) : CallR X (.builtin "sorted") rSortDk := by
  rintro pins s σ H xs us Q I r ⟨a, kvs, ks, rfl, hd, hk, q⟩
  rw [Vals.ref1 r]
  obtain ⟨z, lo, vs, rel, dd⟩ := dk_rd I.hok hd
  obtain ⟨ep, hat⟩ := dd.dictAt
  have lv : vs.length = kvs.length := by simpa using (congrArg List.length rel.keys).symm
  have lk : kvs.length = ks.length := by simpa using congrArg List.length hk
  refine sorted_keys (I.ok.hd hc) lo hat (rel.keys.symm.trans hk) (lv ▸ z) fun h1 h2 tk ep out ys k1 k2 e g1 g2 g3 => ?_
  have hz : (ys.map V.int).length ≤ sizeLine := by rw [List.length_map, g2.length_eq, ← lk]; exact z
  have I1 : Inv X pins σ H { s with heap := h1 } := I.kept (t' := s.toks) k1
  exact ⟨.ref h1.objs.size, _, I1.laid (t' := tk) (o := .lst (ys.map V.int)) k2 (Nat.le_refl _) ⟨hz, out, ep, vals_of_ints g1, e⟩, rfl, q ys _ g2 g3 (I1.hok.fresh (Nat.le_refl _))⟩
end
end L2
/-! What the walks of these laws share: heaps that keep what they have, data that never changes, draws from a list of three numbers. -/
namespace L2
open PySem PySem.Spec PyProof.Rows
/-! ### room -/
theorem hu64 {A : Around} {k : Nat} (hr : Room k A) : A.units + 64 < cLine := by have := hr.un; omega
theorem hu65 {A : Around} {k : Nat} (hr : Room k A) : A.units + 65 < cLine := by have := hr.un; omega
theorem hu66 {A : Around} {k : Nat} (hr : Room k A) : A.units + 66 < cLine := by have := hr.un; omega
/-! ### what is kept -/
/-- all but what stands at S is as it was -/
def But (S : Addr → Prop) (H H' : Hp) : Prop := ∀ a o, ¬ S a → H a = some o → H' a = some o
theorem But.refl {S : Addr → Prop} (H : Hp) : But S H H := fun _ _ _ e => e
theorem But.trans {S : Addr → Prop} {H H1 H2 : Hp} (a : But S H H1) (b : But S H1 H2) : But S H H2 := fun x o n e => b x o n (a x o n e)
theorem But.mono {S T : Addr → Prop} {H H' : Hp} (k : But S H H') (h : ∀ a, S a → T a) : But T H H' := fun a o n e => k a o (fun s => n (h a s)) e
theorem Same.but {S : Addr → Prop} {H H' : Hp} (k : Same H H') : But S H H' := fun a o _ e => k a o e
theorem But.set {S : Addr → Prop} {H : Hp} {a : Addr} {o : HO} (h : S a) : But S H (upd H a o) := fun b u n e => by rw [upd_ne (fun z => n (by rw [z]; exact h))]; exact e
theorem Same.new {H : Hp} {p : Addr} {o : HO} (h : H p = none) : Same H (upd H p o) := fun b u e => by rw [upd_ne (ne_of_none e h)]; exact e
theorem Same.step {H H' : Hp} {p : Addr} {o : HO} (k : Same H H') (h : H' p = none) : Same H (upd H' p o) := k.trans (Same.new h)
theorem But.new {S : Addr → Prop} {H H' : Hp} {p : Addr} {o : HO} (k : But S H H') (h : H' p = none) : But S H (upd H' p o) := k.trans (Same.new h).but
theorem But.put {S : Addr → Prop} {H H' : Hp} {p : Addr} {o : HO} (k : But S H H') (h : S p) : But S H (upd H' p o) := k.trans (But.set h)
theorem But.own {S : Addr → Prop} {H H' : Hp} {p : Addr} {o : HO} (k : But S H H') (h : H p = none) : But S H (upd H' p o) := fun a u n e => by
  rw [upd_ne (ne_of_none e h)]
  exact k a u n e
theorem But.free {S : Addr → Prop} {H H' : Hp} {p : Addr} (k : But S H H') (h : ∀ a, S a → H' a ≠ none) (hp : H' p = none) : H p = none := by
  cases e : H p with
  | none => rfl
  | some o =>
    by_cases hs : S p
    · exact absurd hp (h p hs)
    · rw [k p o hs e] at hp
      cases hp
/-- one that H does not know may change -/
theorem Same.own {H H' : Hp} {p : Addr} {o : HO} (k : Same H H') (h : H p = none) : Same H (upd H' p o) := fun a u e => by
  rw [upd_ne (ne_of_none e h)]
  exact k a u e
/-- tuples stay -/
def TupK (H H' : Hp) : Prop := ∀ a xs, Rd H a (.tup xs) → Rd H' a (.tup xs)
theorem TupK.refl (H : Hp) : TupK H H := fun _ _ e => e
theorem TupK.trans {H H1 H2 : Hp} (a : TupK H H1) (b : TupK H1 H2) : TupK H H2 := fun x xs e => b x xs (a x xs e)
theorem Same.tupK {H H' : Hp} (k : Same H H') : TupK H H' := fun a xs r => r.elim (fun e => .inl (k _ _ e)) fun ⟨o, e⟩ => .inr ⟨o, k _ _ e⟩
theorem But.tupK {S : Addr → Prop} {H H' : Hp} (k : But S H H') (h : ∀ a xs, S a → ¬ Rd H a (.tup xs)) : TupK H H' := fun a xs r =>
  r.elim (fun e => .inl (k _ _ (fun s => h a xs s r) e)) fun ⟨o, e⟩ => .inr ⟨o, k _ _ (fun s => h a xs s r) e⟩
theorem not_tup_lst {H : Hp} {a : Addr} {xs ys : List V} (e : H a = some (.lst xs)) : ¬ Rd H a (.tup ys) := fun r => by
  rcases r with r | ⟨o, r⟩ <;> rw [e] at r <;> cases r
theorem TupK.sqT {K : PySem.W.Frag} {H H' : Hp} {a : Addr} {xs : List V} (k : TupK H H') (h : SqT K H a xs) : SqT K H' a xs := h.elim (fun r => .inl (k _ _ r)) .inr
theorem Same.sqT {K : PySem.W.Frag} {H H' : Hp} {a : Addr} {xs : List V} (k : Same H H') (h : SqT K H a xs) : SqT K H' a xs := k.tupK.sqT h
theorem Same.sqL {K : PySem.W.Frag} {H H' : Hp} {a : Addr} {xs : List V} (k : Same H H') (h : SqL K H a xs) : SqL K H' a xs := k.seq h
theorem But.sqL {S : Addr → Prop} {K : PySem.W.Frag} {H H' : Hp} {a : Addr} {xs : List V} (k : But S H H') (n : ¬ S a) (h : SqL K H a xs) : SqL K H' a xs := by
  rcases h with (h | ⟨o, h⟩) | h
  · exact .inl (.inl (k _ _ n h))
  · exact .inl (.inr ⟨o, k _ _ n h⟩)
  · exact .inr h
/-! ### data without lists -/
mutual
def imm : PyData → Bool
  | .none => true
  | .bool _ => true
  | .int _ => true
  | .str _ => true
  | .tuple ds => immAll ds
  | _ => false
def immAll : List PyData → Bool
  | [] => true
  | d :: ds => imm d && immAll ds
end
mutual
theorem Dp.keep {K : PySem.W.Frag} {H H' : Hp} (k : TupK H H') : ∀ (d : PyData) (v : V), imm d = true → Dp K H v d → Dp K H' v d
  | .none, _, _, h => by cases h; exact .non
  | .bool b, _, _, h => by cases h; exact .bl b
  | .int i, _, _, h => by cases h; exact .int i
  | .str x, _, _, h => by cases h; exact .str x
  | .tuple ds, _, hi, h => by
    cases h with
    | tup hs ha => exact .tup (k.sqT hs) (Dp.keepAll k ds _ (by simpa only [imm] using hi) ha)
  | .list _, _, hi, _ => by simp [imm] at hi
  | .dict _, _, hi, _ => by simp [imm] at hi
theorem Dp.keepAll {K : PySem.W.Frag} {H H' : Hp} (k : TupK H H') : ∀ (ds : List PyData) (vs : List V), immAll ds = true → DpAll K H vs ds → DpAll K H' vs ds
  | [], _, _, h => by cases h; exact .nil
  | d :: ds, _, hi, h => by
    simp only [immAll, Bool.and_eq_true] at hi
    cases h with
    | cons h1 h2 => exact .cons (Dp.keep k d _ hi.1 h1) (Dp.keepAll k ds _ hi.2 h2)
end
theorem DpAll.get {K : PySem.W.Frag} {H : Hp} : ∀ {vs : List V} {ds : List PyData} {i : Nat} {v : V}, DpAll K H vs ds → vs[i]? = some v → ∃ d, ds[i]? = some d ∧ Dp K H v d
  | _, _, _, _, .nil, e => by simp at e
  | _, _, 0, _, .cons h _, e => by
    simp at e
    subst e
    exact ⟨_, rfl, h⟩
  | _, _, i + 1, _, .cons _ t, e => by
    obtain ⟨d, h1, h2⟩ := DpAll.get (i := i) t (by simpa using e)
    exact ⟨d, by simpa using h1, h2⟩
theorem DpAll.of_get {K : PySem.W.Frag} {H : Hp} : ∀ {vs : List V} {ds : List PyData}, vs.length = ds.length → (∀ (i : Nat) (v : V) (d : PyData), vs[i]? = some v → ds[i]? = some d → Dp K H v d) → DpAll K H vs ds
  | [], [], _, _ => .nil
  | [], _ :: _, h, _ => by simp at h
  | _ :: _, [], h, _ => by simp at h
  | v :: vs, d :: ds, h, f => .cons (f 0 v d rfl rfl) (DpAll.of_get (by simpa using h) fun i x y e1 e2 => f (i + 1) x y (by simpa using e1) (by simpa using e2))
theorem DpAll.app {K : PySem.W.Frag} {H : Hp} : ∀ {vs ws : List V} {ds es : List PyData}, DpAll K H vs ds → DpAll K H ws es → DpAll K H (vs ++ ws) (ds ++ es)
  | _, _, _, _, .nil, h => h
  | _, _, _, _, .cons h t, h2 => .cons h (DpAll.app t h2)
/-! ### keywords: p positional values, k by name -/
def kbG {α : Type} (p k : Nat) (us ws : List α) : List α := if us.length = p ∧ ws.length = k then us ++ ws else []
theorem kbG_len {α : Type} {p k n : Nat} {us ws : List α} (h : (kbG p k us ws).length = n) (hn : 0 < n) : us.length = p ∧ ws.length = k := by
  unfold kbG at h
  by_cases c : us.length = p ∧ ws.length = k
  · exact c
  · rw [if_neg c] at h
    simp at h
    omega
theorem kbG_rel {p k : Nat} {vs : List V} {us : List Value} {zs : List V} {ws : List Value} (a : Vals vs us) (b : Vals zs ws) : Vals (kbG p k vs zs) (kbG p k us ws) := by
  unfold kbG
  rw [a.length, b.length]
  by_cases c : us.length = p ∧ ws.length = k
  · rw [if_pos c, if_pos c]
    exact a.append b
  · rw [if_neg c, if_neg c]
    exact .nil
/-- .. where the names come in another order -/
def kbP {α : Type} (p k : Nat) (ix : List Nat) (us ws : List α) : List α := if us.length = p ∧ ws.length = k then us ++ ix.filterMap (fun i => ws[i]?) else []
theorem kbP_len {α : Type} {p k n : Nat} {ix : List Nat} {us ws : List α} (h : (kbP p k ix us ws).length = n) (hn : 0 < n) : us.length = p ∧ ws.length = k := by
  unfold kbP at h
  by_cases c : us.length = p ∧ ws.length = k
  · exact c
  · rw [if_neg c] at h
    simp at h
    omega
theorem pick_rel {zs : List V} {ws : List Value} (b : Vals zs ws) : ∀ ix : List Nat, Vals (ix.filterMap fun i => zs[i]?) (ix.filterMap fun i => ws[i]?)
  | [] => .nil
  | i :: ix => by
    rw [List.filterMap_cons, List.filterMap_cons]
    cases e : zs[i]? with
    | none =>
      have z : ws[i]? = none := by
        rw [List.getElem?_eq_none_iff] at e ⊢
        rw [← b.length]
        exact e
      rw [z]
      exact pick_rel b ix
    | some x =>
      obtain ⟨u, e2, r⟩ := Vals.get b e
      rw [e2]
      exact .cons r (pick_rel b ix)
theorem kbP_rel {p k : Nat} {ix : List Nat} {vs : List V} {us : List Value} {zs : List V} {ws : List Value} (a : Vals vs us) (b : Vals zs ws) : Vals (kbP p k ix vs zs) (kbP p k ix us ws) := by
  unfold kbP
  rw [a.length, b.length]
  by_cases c : us.length = p ∧ ws.length = k
  · rw [if_pos c, if_pos c]
    exact a.append (pick_rel b ix)
  · rw [if_neg c, if_neg c]
    exact .nil
/-! ### what len reads; a list filtered by a number -/
abbrev rLenS (K : PySem.W.Frag) : List V → Hp → VK → Prop := fun xs H Q => ∃ p ys, xs = [V.ref p] ∧ (SqL K H p ys ∨ SqT K H p ys) ∧ Q (.int ys.length) H
theorem dec_vint (k n : Int) : decide (V.int k = V.int n) = decide (k = n) := by
  by_cases h : k = n
  · subst h
    simp
  · have : ¬ V.int k = V.int n := fun e => h (V.int.inj e)
    simp [h, this]
theorem lc_filter {K : PySem.W.Frag} {a : Addr} {val : Int → V} {ns : List Int} {n : Int} {s : Nat} {tt : TT} {σ : L2.St} {H1 : Hp} {D : Addr} {Qd : Hp → Prop} (ha : SqL K H1 a (ns.map val)) (hD : H1 D = none) (hl : ns.length < sizeLine)
    (htt : ∀ k ∈ ns, ∀ H' (Q : Bool → Hp → Prop), Same H1 H' → Q (decide (k = n)) H' → tt ((wipe σ [s]).set s (some (val k))) H' Q)
    (hw : ∀ x, wipe ((wipe σ [s]).set s (some x)) [s] = wipe σ [s]) (hg : ∀ x H' Q, Q x H' → tVar s ((wipe σ [s]).set s (some x)) H' Q)
    (hd : ∀ H', H' D = some (.lst ((ns.filter fun k => decide (k = n)).map val)) → Same H1 H' → Qd H') :
    ∃ W : Nat → Nat → Hp → Prop, (∃ m, W 0 m (upd H1 D (.lst []))) ∧ ∀ i m H, W i m H →
      ((Itl K a).stop i H ∧ Qd H) ∨ ((Itl K a).go i H ∧ ∃ Nx : Hp → Prop, (∀ H', Nx H' → ∃ m', m' < m ∧ W (i + 1) m' H') ∧ ∀ x H', (Itl K a).yld i H x H' → gName s x (wipe σ [s]) H' fun σ2 H2 => wipe σ2 [s] = wipe σ [s] ∧ tt σ2 H2 fun b H3 =>
        if b = true then tVar s σ2 H3 fun y H4 => ∃ acc, H4 D = some (.lst acc) ∧ acc.length < sizeLine ∧ Nx (upd H4 D (.lst (acc ++ [y]))) else Nx H3) := by
  refine lc_list (K := K) (a := a) (xs := ns.map val) (g := gName s) (tt := tt) (te := tVar s) (vs := [s]) (σ := σ) (fun i H' => H' D = some (.lst (((ns.take i).filter fun k => decide (k = n)).map val)) ∧ Same H1 H') ⟨upd_same, Same.new hD⟩ (fun i H' _ h => h.2.seq ha) ?_ ?_
  · rintro i x H' hi ⟨e1, e2⟩
    have hil : i < ns.length := by
      have z := (List.getElem?_eq_some_iff.mp hi).1
      rw [List.length_map] at z
      exact z
    obtain ⟨k, hk, rfl⟩ : ∃ k, ns[i]? = some k ∧ x = val k := by
      rw [List.getElem?_map, List.getElem?_eq_getElem hil] at hi
      exact ⟨_, List.getElem?_eq_getElem hil, (Option.some.inj hi).symm⟩
    refine ⟨hw _, htt k (List.mem_of_getElem? hk) H' _ e2 ?_⟩
    have et : ns.take (i + 1) = ns.take i ++ [k] := by rw [List.take_add_one, hk]; rfl
    by_cases hkn : k = n
    · rw [decide_eq_true hkn]
      refine iteT (hg _ _ _ ⟨_, e1, ?_, ?_, e2.own hD⟩)
      · rw [List.length_map]
        exact Nat.lt_of_le_of_lt (Nat.le_trans (List.length_filter_le _ _) (by rw [List.length_take]; exact Nat.min_le_right _ _)) hl
      · rw [upd_same, et, List.filter_append, List.map_append]
        simp [hkn]
    · rw [decide_eq_false hkn]
      refine iteF ⟨?_, e2⟩
      rw [e1, et, List.filter_append, List.map_append]
      simp [hkn]
  · rintro H' ⟨e1, e2⟩
    rw [List.length_map, List.take_length] at e1
    exact hd H' e1 e2
end L2
/-! Methods called in a try's body: what they raise is the clause's (the wish may name the slots). -/
namespace L2
open PySem PySem.Spec PyProof.Rows
section
variable {X : Cx} {CX : CXT} {k : Nat} {f C : Addr} {fd : FuncData} {ps ks : List Str} {sp : Sp} {E : L2.St → XK} {m : Str} {apos pos : Pos} {o e : Expr} {es : List Expr} {kws : List Keyword} {ta : TE} {t tk : TA}
variable {g : List Value → List Value → List Value} {gV : List V → List V → List V}
theorem run_kS {pins : List (Addr × Obj)} {σ : L2.St} {H : Hp} {s : Shared} {Q : VK} {us ws : List Value} {vs zs : List V} (F : FnOk X.prog X.w X.K X.mg X.base CX k f fd ps sp) (hr : Room k X.A) (hb : KBinds X.K fd ps ks g gV) (hx : PassesAt CX X σ (E σ))
    (I : Inv X pins σ H s) (r : Vals vs us) (rz : Vals zs ws) (h : sp (gV vs zs) H Q (E σ)) : wpAny (model X.prog X.w) X.A (call (.ref f) us (ks.zip ws)) (EP X pins σ Q) X.xe s := by
  have both := hb.rel r rz
  have len : (g us ws).length = ps.length := both.length.symm.trans (F.len _ _ _ _ h)
  refine wpAny_call (codeAny_mono (F.run X.A X.stack s H ⟨us, ks.zip ws⟩ (g us ws) (gV vs zs) Q (E σ) hr I.env0 (hb.to s us ws I.kIn len) both h) ?_)
  intro res s' post
  cases res with
  | error x => exact hx pins H s x s' I post
  | ok way =>
    cases way with
    | ret u => exact I.after post
    | next => cases post
    | brk => cases post
    | cont => cases post
/-- o.m(k = v, ..) in a try -/
def tMethKS (C : Addr) (m : Str) (sp : Sp) (gV : List V → List V → List V) (E : L2.St → XK) (ta : TE) (tk : TA) : TE := fun σ H Q => ta σ H fun x H1 => ∃ a dx fs, x = .ref a ∧ H1 a = some (.ins C dx fs) ∧ fs.lookup m = none ∧
  tk σ H1 fun zs H2 => sp (gV [x] zs) H2 Q (E σ)
theorem pe_methKS {pl : Sem Bool} (he : PE X o ta) (c : Cls X.K C) (hm : Meth X.K C m f) (F : FnOk X.prog X.w X.K X.mg X.base CX k f fd ps sp) (hr : Room k X.A) (hb : KBinds X.K fd ps ks g gV) (hx : ∀ σ, PassesAt CX X σ (E σ))
    (hkw : PK X kws tk) (hall : (backToKw pos (keywordEach kws X.env)).all (·.1.isSome) = true := by rfl) (hks : (backToKw pos (keywordEach kws X.env)).filterMap (·.1) = ks := by rfl)
    (hpl : ((backTo pos (starEach [] X.env)).any (·.1) || (backToKw pos (keywordEach kws X.env)).any (·.1.isNone)) = false := by rfl)
    (ht : eval (.Call (.Attribute o m apos) [] kws pos) X.env = (do
      let ov ← eval o X.env
      standAt apos.atName
      let (f, first) ← holding [ov] (getMethod ov m pl)
      callWith pos f first (backTo pos (starEach [] X.env)) (backToKw pos (keywordEach kws X.env))) := by rfl) :
    PE X (.Call (.Attribute o m apos) [] kws pos) (tMethKS C m sp gV E ta tk) := by
  refine ⟨fun pins s σ H Q I h => ?_⟩
  refine PySem.W.methodCall_KW (pl := pl) (thn (he.run pins s σ H _ I h) ?_) ht
  rintro u s1 ⟨x, H1, I1, rx, a, dx, fs, rfl, ea, no, q⟩
  obtain rfl : u = Value.ref a := rx
  refine getmeth_ok I1 ea c hm no ?_
  refine PySem.W.callWith_KW0 (first := [.ref a]) (h₀ := X.base) I.ok.mod.kin hm.kp hall ?_ hpl
  refine thn (hkw.run pos pins s1 σ H1 _ I1 q) ?_
  rintro ws s2 ⟨zs, H2, I2, rz, q2⟩
  refine ⟨I2.kIn, ?_⟩
  rw [hks]
  exact run_kS (us := [.ref a]) (vs := [.ref a]) F hr hb (hx σ) I2 (.cons rfl .nil) rz q2
/-- o.m(e, ..) in a try -/
def tMethPS (C : Addr) (m : Str) (sp : Sp) (E : L2.St → XK) (ta : TE) (t : TA) : TE := fun σ H Q => ta σ H fun x H1 => ∃ a dx fs, x = .ref a ∧ H1 a = some (.ins C dx fs) ∧ fs.lookup m = none ∧
  t σ H1 fun vs H2 => sp (x :: vs) H2 Q (E σ)
theorem pe_methPS {pl : Sem Bool} (he : PE X o ta) (c : Cls X.K C) (hm : Meth X.K C m f) (F : FnOk X.prog X.w X.K X.mg X.base CX k f fd ps sp) (hr : Room k X.A) (hb : Binds X.K fd ps []) (hx : ∀ σ, PassesAt CX X σ (E σ)) (ha : PA X (e :: es) t)
    (hst : starEach (e :: es) X.env = (false, eval e X.env) :: starEach es X.env := by rfl) (hpl : (backTo pos (starEach es X.env)).any (·.1) = false := by rfl)
    (ht : eval (.Call (.Attribute o m apos) (e :: es) [] pos) X.env = (do
      let ov ← eval o X.env
      standAt apos.atName
      let (f, first) ← holding [ov] (getMethod ov m pl)
      callWith pos f first (backTo pos (starEach (e :: es) X.env)) (backToKw pos (keywordEach [] X.env))) := by rfl) :
    PE X (.Call (.Attribute o m apos) (e :: es) [] pos) (tMethPS C m sp E ta t) := by
  refine ⟨fun pins s σ H Q I h => ?_⟩
  refine PySem.W.methodCall_KW (pl := pl) (thn (he.run pins s σ H _ I h) ?_) ht
  rintro u s1 ⟨x, H1, I1, rx, a, dx, fs, rfl, ea, no, q⟩
  obtain rfl : u = Value.ref a := rx
  refine getmeth_ok I1 ea c hm no ?_
  refine PySem.W.callWith_K (first := [.ref a]) (h₀ := X.base) I.ok.mod.kin hm.kp (thn (ha.run pos pins s1 σ H1 _ I1 q) ?_) hst hpl
  rintro us s2 ⟨vs, H2, I2, r, q2⟩
  exact ⟨I2.kIn, run_fnS (us := .ref a :: us) (vs := .ref a :: vs) F hr hb (hx σ) I2 (.cons rfl r) q2⟩
end
end L2
/-! Promises for calls in which nobody is being shown yet (no guard of repr stands around): what repr needs. Defs on the way from the law to a repr are of this kind. -/
namespace L2
open PySem PySem.Spec PyProof.Rows
/-- as FnOk, for calls with no guard around -/
structure FnG (P : Program) (w : World) (K : PySem.W.Frag) (mg : Str → Option Value) (base : Heap) (CX : CXT) (k : Nat) (f : Addr) (fd : FuncData) (ps : List Str) (sp : Sp) : Prop where
  len : ∀ vs H Q E, sp vs H Q E → vs.length = ps.length
  run : ∀ (A : Around) (outer : List Env) (s : Shared) (H : Hp) (args : Args) (us : List Value) (vs : List V) (Q : VK) (E : XK), A.guards = some [] → Room k A → Env0 P w K mg base A outer s H → BindsTo s fd args (ps.zip us) → Vals vs us → sp vs H Q E →
    codeAny (model P w) A (.call (.ref f) args) (CR CX outer P w H s Q E) s
theorem FnOk.g {P : Program} {w : World} {K : PySem.W.Frag} {mg : Str → Option Value} {base : Heap} {CX : CXT} {k : Nat} {f : Addr} {fd : FuncData} {ps : List Str} {sp : Sp} (F : FnOk P w K mg base CX k f fd ps sp) : FnG P w K mg base CX k f fd ps sp :=
  ⟨F.len, fun A outer s H args us vs Q E _ => F.run A outer s H args us vs Q E⟩
section
variable {P : Program} {w : World} {K : PySem.W.Frag} {mg : Str → Option Value} {base : Heap}
/-- a def's body, walked where no guard stands -/
theorem Fun.okG {x qual : Str} {st : Stmt} {f : Addr} {fd : FuncData} {N ps : List Str} {k : Nat} {sp : Sp} (F : Fun K x qual st f fd) (S : FnScope N ps (defScope st)) (len : ∀ vs H Q E, sp vs H Q E → vs.length = ps.length)
    (walk : ∀ (cdv : Value) (A : Around) (outer : List Env) (s : Shared) (H : Hp) (vs : List V) (Q : VK) (E : XK), (A.deeper (envOfC qual (defScope st) s.heap.objs.size f cdv)).guards = some [] → Room k (A.deeper (envOfC qual (defScope st) s.heap.objs.size f cdv)) → sp vs H Q E →
      ∃ t, PSs (cxOf CX0 P w K mg base N qual (defScope st) f cdv A outer s H E).nox (defBody st) t ∧ t { nx := fun _ H' => Q .non H', rt := Q } (start N vs) H) : FnG P w K mg base CX0 (k + 1) f fd ps sp := by
  obtain ⟨oc, od, kV, doc, pm, an, cdv, ct, osl, rfl, at1, code⟩ := F.ex
  refine ⟨len, ?_⟩
  intro A outer s H args us vs Q E gd room env bind rel want
  have long := len _ _ _ _ want
  have keepAll : ∀ (b : Addr) (o : Obj), base.get? b = some o → s.heap.get? b = some o := fun b o e => (env.bs b o e).1
  have frag := env.mod.kin.keeps keepAll
  obtain ⟨t, terms, read⟩ := walk cdv A outer s H vs Q E gd (room.deeper _) want
  have kinds : ∀ y ∈ ps.zip us, (defScope st).names.lookup y.1 = some .local ∨ ((defScope st).names.lookup y.1 = some .cell ∧ ((cellsFrom (s.heap.objs.size + 1) (defScope st).names []).lookup y.1).isSome = true) := by
    rintro ⟨n, v⟩ hy
    exact (S.par n (List.of_mem_zip hy).1).imp id fun c => ⟨c, PySem.W.cellsFrom_some _ _ _ (.inl c)⟩
  refine codeAny_call_function room.depth (frag _ _ at1) rfl S.co S.gen rfl (PySem.W.codeRec_of frag code) (bind _ _ _ _ (wpAny_newFunctionEnv_cells S.kind kinds ?_))
  rintro _ rfl s1 made
  refine ⟨(env.mod.nolimit.keeps keepAll).keeps made.toInCall.keep, codeAny_func ?_⟩
  have inv := inv_start (P := P) (E := E) (CX := CX0) S room.hd env long rel made
  refine wpAny_mono (terms.nox.run [] s1 (start N vs) H _ inv read) ?_ fun e s' hs => hs
  intro way s' hs
  cases way with
  | ret u =>
    obtain ⟨v, σ', H', J, rv, q⟩ := hs
    exact ⟨v, H', J.os, J.bare, J.base, J.hok, rv, q⟩
  | next =>
    obtain ⟨σ', H', J, q⟩ := hs
    exact ⟨V.non, H', J.os, J.bare, J.base, J.hok, rfl, q⟩
  | brk => exact hs.elim fun _ h => h.elim fun _ h => h.2.elim
  | cont => exact hs.elim fun _ h => h.elim fun _ h => h.2.elim
end
section
variable {X : Cx} {CX : CXT} {k : Nat} {f : Addr} {fd : FuncData} {ps : List Str} {sp : Sp} {dvs : List V} {ds : List Value} {E : XK} {x : Str} {p pos : Pos} {e : Expr} {es : List Expr} {t : TA}
theorem run_fnG {pins : List (Addr × Obj)} {σ : L2.St} {H : Hp} {s : Shared} {Q : VK} {us : List Value} {vs : List V} (gd : X.A.guards = some []) (F : FnG X.prog X.w X.K X.mg X.base CX k f fd ps sp) (hr : Room k X.A) (hb : Binds X.K fd ps ds) (hd : Vals dvs ds) (hx : Passes CX X E)
    (I : Inv X pins σ H s) (r : Vals vs us) (h : sp (vs ++ dvs) H Q E) : wpAny (model X.prog X.w) X.A (call (.ref f) us) (EP X pins σ Q) X.xe s := by
  have both : Vals (vs ++ dvs) (us ++ ds) := r.append hd
  have len : (us ++ ds).length = ps.length := both.length.symm.trans (F.len _ _ _ _ h)
  refine wpAny_call (codeAny_mono (F.run X.A X.stack s H ⟨us, []⟩ (us ++ ds) (vs ++ dvs) Q E gd hr I.env0 (hb s us I.kIn len) both h) ?_)
  intro res s' post
  cases res with
  | error z => exact hx pins σ H s z s' I post
  | ok way =>
    cases way with
    | ret u => exact I.after post
    | next => cases post
    | brk => cases post
    | cont => cases post
theorem pe_callG (gd : X.A.guards = some []) (F : FnG X.prog X.w X.K X.mg X.base CX k f fd ps sp) (hr : Room k X.A) (hg : Gl X x) (hm : X.mg x = some (.ref f)) (hk : PySem.W.keepIn X.K (.ref f) = true) (hb : Binds X.K fd ps ds) (hd : Vals dvs ds) (hx : Passes CX X E)
    (ha : PA X (e :: es) t) (hdb : (x == ("__debug__" : Str)) = false := by decide) (he : starEach (e :: es) X.env = (false, eval e X.env) :: starEach es X.env := by rfl) (hpl : (backTo pos (starEach es X.env)).any (·.1) = false := by rfl) :
    PE X (.Call (.Name x p) (e :: es) [] pos) (tCall sp dvs E t) := by
  refine ⟨fun pins s σ H Q I h => ?_⟩
  refine wpAny_Call_Name_kw (ld_glob I hg hm ?_ hdb)
  refine PySem.W.callWith_K (h₀ := X.base) I.ok.mod.kin hk (thn (ha.run pos pins s σ H _ I h) ?_) he hpl
  rintro us s1 ⟨vs, H1, I1, r, q⟩
  exact ⟨I1.kIn, run_fnG gd F hr hb hd hx I1 r q⟩
/-! ### repr of data -/
def rRepr (K : PySem.W.Frag) : List V → Hp → VK → Prop := fun xs H Q => ∃ (a : Addr) (d : PyData), xs = [.ref a] ∧ Dp K H (.ref a) d ∧ d.showable = true ∧ d.hasDict = false ∧ d.shown.length ≤ sizeLine ∧ d.depth ≤ 60 ∧ Q (.str d.shown) H
theorem call_reprD (gd : X.A.guards = some []) (hu : X.A.units + 64 < cLine) : CallR X (.builtin "repr") (rRepr X.K) := by
  intro pins s σ H xs us Q I r h
  obtain ⟨a, d, rfl, hd, h1, h2, h3, h4, q⟩ := h
  rw [Vals.ref1 r]
  obtain ⟨as, rd⟩ := Dp.reads I d (.ref a) (.ref a) hd rfl
  refine PySem.repr_of_reads' rd h1 (fun z => by rw [h2] at z; cases z) gd (by omega) (fun _ _ e => e) (fun h' u tk hk => ?_) h3
  exact ⟨.str d.shown, H, I.kept hk, ⟨u, rfl⟩, q⟩
end
end L2
/-! The end for laws whose defs are of the kind FnG (LibG). -/
namespace L2
open PySem PySem.Spec PyProof.Rows
/-- all that H tracks is the script at a, which is known to the object -/
def Lone (a : Addr) (H : Hp) : Prop := ∀ b u, H b = some u → b = a ∧ ∃ o xs, u = .frz o (.lst xs)
theorem Lone.only {a : Addr} {H : Hp} (h : Lone a H) : Only H := fun b => by
  cases e : H b with
  | none => exact .inl rfl
  | some u =>
    obtain ⟨_, o, xs, rfl⟩ := h b u e
    exact .inr ⟨o, xs, rfl⟩
section
variable {P : Program} {w : World} {K : PySem.W.Frag} {mg mb : Str → Option Value} {a : Addr} {s : Shared} {vs : List Value}
/-- the ground under a law's call: what is not the script is base -/
theorem ground_of (frag : K.In s.heap) (names : s.heap.Ns mainGlobals mg) (blt : s.heap.Ns builtinsNs mb) (blts : ∀ x : Str, x ≠ "__name__" → mb x = bootBuiltins x) (lim : s.heap.NoLimit) (gens : s.gens = #[])
    (at_a : s.heap.get? a = some { cls := .type "list", data := .seq vs.toArray }) {H : Hp} (lone : Lone a H) (own : H a ≠ none → K.lookup a = none) (ok : HOk P w H s.heap) :
    K.In (hidT s.heap H) ∧ (hidT s.heap H).Ns mainGlobals mg ∧ Env0 P w K mg (hidT s.heap H) callerA [] s H := by
  have untracked : ∀ {b : Addr} {o : Obj}, s.heap.get? b = some o → (b = a → o ≠ { cls := .type "list", data := .seq vs.toArray }) → H b = none := by
    intro b o e d
    cases q : H b with
    | none => rfl
    | some u =>
      obtain ⟨rfl, _⟩ := lone b u q
      rw [at_a] at e
      exact absurd (Option.some.inj e).symm (d rfl)
  have spaces : ∀ {b : Addr} {m : Str → Option Value}, s.heap.Ns b m → (hidT s.heap H).Ns b m := by
    rintro b m ⟨o, es, ep, e, d, r⟩
    refine ⟨o, es, ep, hidT_get e (untracked e fun _ z => ?_), d, r⟩
    rw [z] at d
    have d' : Data.seq vs.toArray _ = Data.dict es ep := d
    cases d'
  have within : K.In (hidT s.heap H) := fun b o e => by
    refine hidT_get (frag b o e) ?_
    cases q : H b with
    | none => rfl
    | some u =>
      obtain ⟨rfl, _⟩ := lone b u q
      rw [own (by rw [q]; intro z; cases z)] at e
      cases e
  obtain ⟨ml, l1, l2⟩ := lim
  refine ⟨within, spaces names, rfl, ⟨within, spaces names, ⟨mb, spaces blt, blts⟩, ml, spaces l1, l2⟩, fun b o e => of_hidT e, Nat.le_of_eq (hidT_size _ _), trivial, ?_, ok, .of_eq gens⟩
  intro b hb
  exact (List.not_mem_nil (show b ∈ ([] : List Addr) from hb)).elim
/-- behind the call all that stood stands -/
theorem end_of {H : Hp} {r : Result} {s' : Shared} {CX : CXT} (lone : Lone a H) (ok : HOk P w H s.heap) (raise : ∀ e s', CX [] H s (fun _ _ _ => False) e s' → False)
    (post : CR CX [] P w H s (fun v _ => v = .bl true) (fun _ _ _ => False) r s') : r = .ok (.ret (.bool true)) ∧ OldK s.heap s'.heap ∧ s'.os = s.os ∧ AllBare s'.gens := by
  cases r with
  | error e => exact (raise e s' post).elim
  | ok way =>
    cases way with
    | next => cases post
    | brk => cases post
    | cont => cases post
    | ret u =>
      obtain ⟨v, H', os, bare, un, ok', rel, rfl⟩ := post
      obtain rfl : u = Value.bool true := rel
      refine ⟨rfl, OldK.of_keep ?_, os, bare⟩
      intro b o e
      cases q : H b with
      | none => exact un.keep b o e q (fun z => (List.not_mem_nil (show b ∈ ([] : List Addr) from z)).elim) (fun z => (List.not_mem_nil z).elim)
      | some x =>
        obtain ⟨_, ob, xs, rfl⟩ := lone b x q
        obtain ⟨before, _⟩ := ok b _ q
        obtain ⟨behind, _⟩ := ok' b _ (un.frzs b ob _ q)
        rw [before] at e
        rw [behind]
        exact e
theorem law_callG {CX : CXT} {k : Nat} {fa : Addr} {fd : FuncData} {x : Str} {sp : Sp} {ns : List Int} (frag : K.In s.heap) (names : s.heap.Ns mainGlobals mg) (blt : s.heap.Ns builtinsNs mb) (blts : ∀ x : Str, x ≠ "__name__" → mb x = bootBuiltins x) (lim : s.heap.NoLimit) (gens : s.gens = #[])
    (at_a : s.heap.get? a = some { cls := .type "list", data := .seq vs.toArray }) (all_int : IntsAre vs ns) (short : ns.length ≤ sizeLine) (room : Room k callerA)
    (F : ∀ base : Heap, K.In base → base.Ns mainGlobals mg → FnG P w K mg base CX k fa fd [x] sp) (bind : ∀ (s : Shared) (u : Value), BindsTo s fd ⟨[u], []⟩ [(x, u)])
    (want : ∀ H : Hp, Only H → SqL K H a (ns.map V.int) → sp [.ref a] H (fun v _ => v = .bl true) fun _ _ _ => False) (raise : ∀ H e s', CX [] H s (fun _ _ _ => False) e s' → False) :
    codeAny (model P w) callerA (.call (.ref fa) ⟨[.ref a], []⟩) (fun r s' => r = .ok (.ret (.bool true)) ∧ OldK s.heap s'.heap ∧ s'.os = s.os ∧ AllBare s'.gens) s := by
  have rel := vals_ints all_int
  have go : ∀ H : Hp, Lone a H → (H a ≠ none → K.lookup a = none) → HOk P w H s.heap → SqL K H a (ns.map V.int) →
      codeAny (model P w) callerA (.call (.ref fa) ⟨[.ref a], []⟩) (fun r s' => r = .ok (.ret (.bool true)) ∧ OldK s.heap s'.heap ∧ s'.os = s.os ∧ AllBare s'.gens) s := by
    intro H lone own ok script
    obtain ⟨g1, g2, env⟩ := ground_of frag names blt blts lim gens at_a lone own ok
    exact codeAny_mono ((F _ g1 g2).run callerA [] s H ⟨[.ref a], []⟩ [.ref a] [.ref a] _ _ rfl room env (bind s (.ref a)) (.cons rfl .nil) (want H lone.only script)) fun r s' post => end_of lone ok (raise H) post
  cases known : K.lookup a with
  | some o =>
    have here := frag a o known
    rw [at_a] at here
    cases here
    refine go (fun _ => none) (fun b u z => nomatch z) (fun z => absurd rfl z) (fun b u z => nomatch z) (.inr ⟨_, vs.toArray, _, known, rfl, rfl, rfl, ?_, rel⟩)
    rw [List.size_toArray, all_int.length]
    exact short
  | none =>
    let H : Hp := upd (fun _ => none) a (.frz { cls := .type "list", data := .seq vs.toArray } (.lst (ns.map V.int)))
    have here : H a = some (.frz { cls := .type "list", data := .seq vs.toArray } (.lst (ns.map V.int))) := upd_same
    have one : ∀ b u, H b = some u → b = a ∧ u = .frz { cls := .type "list", data := .seq vs.toArray } (.lst (ns.map V.int)) := by
      intro b u z
      by_cases c : b = a
      · subst c
        rw [here] at z
        exact ⟨rfl, (Option.some.inj z).symm⟩
      · have z' : (upd (fun _ => none) a _ : Hp) b = some u := z
        rw [upd_ne c] at z'
        cases z'
    refine go H (fun b u z => ⟨(one b u z).1, _, _, (one b u z).2⟩) (fun _ => known) (fun b u z => ?_) (.inl (.inr ⟨_, here⟩))
    obtain ⟨rfl, rfl⟩ := one b u z
    exact ⟨at_a, by rw [List.length_map]; exact short, vs, _, rel, at_a⟩
end
theorem walk_ofG {l : PySem.W.OpenLaw} {n k : Nat} {q : Program} {loose : List Str} {XP : (Str → Option Value) → Heap → Prop} {YP : World → Heap → Prop} {d : DefRec} {K : Params → PySem.W.Frag} {CX : World → CXT} {sp : World → Sp} {x : Str}
    (most : l.most = some n) (short : n ≤ sizeLine) (plain : d.params.defaults = []) (room : Room k callerA) (frag : ∀ (w : World) (h : Heap), YP w h → (K w.params).In h)
    (F : ∀ (w : World) (mg : Str → Option Value) (fa : Addr) (h : Heap), (K w.params).In h → h.Ns mainGlobals mg → mg d.name = some (.ref fa) →
      ∃ fd : FuncData, (∀ (s : Shared) (u : Value), BindsTo s fd ⟨[u], []⟩ [(x, u)]) ∧ ∀ base : Heap, (K w.params).In base → base.Ns mainGlobals mg → FnG l.prog w (K w.params) mg base (CX w) k fa fd [x] (sp w))
    (want : ∀ (w : World) (H : Hp) (a : Addr) (ns : List Int), ns.length ≤ n → Only H → SqL (K w.params) H a (ns.map V.int) → sp w [.ref a] H (fun v _ => v = .bl true) fun _ _ _ => False)
    (raise : ∀ (w : World) (H : Hp) (s : Shared) (e : Value) (s' : Shared), CX w [] H s (fun _ _ _ => False) e s' → False) : PySem.W.WalkO q loose XP YP l.row.toRowW d [] (fun f vs => PySem.call f vs) := by
  refine Att.attach_call most plain ?_
  intro w s₀ s₁ mg mb fa o pm cd doc a vs ns G Y _ _ _ named script all_int len gens
  obtain ⟨fd, bind, fn⟩ := F w mg fa _ (frag w _ Y) G.T.g named
  exact law_callG (frag w _ Y) G.T.g G.T.b G.T.builtins G.T.nolimit gens script all_int (Nat.le_trans len short) room fn bind (fun H only sq => want w H a ns len only sq) fun H e s' => raise w H s₁ e s'
end L2
/-! len(x), bool(x) of instances whose class has a def __len__, __bool__. -/
namespace OwnX
open PySem PySem.W
section
variable {prog : Program} {w : World} {A : Around} {E : Value → Shared → Prop} {s : Shared} {K : Frag} {a C f : Addr} {ox : Obj} {od : Option Obj}
/-- a special def of the instance's class, called with the instance alone -/
theorem special_def {name : Str} {Q : Option Value → Shared → Prop} (X : K.In s.heap) (I : InstAt s.heap a ox C od) (found : findIn K (.ref C) name = some (some (.ref f))) (fn : isFn K (.ref f) = true)
    (go : wpAny (model prog w) A (call (.ref f) [.ref a]) (fun v s' => Q (some v) s') E s) : wpAny (model prog w) A (callSpecial? (.ref a) name) Q E s := by
  unfold callSpecial? specialOf
  refine wpAny_bind (wpAny_bind (I.type.here ((looks_findIn X found).here ?_)))
  refine wpAny_holding (wpAny_bind ?_)
  unfold bindSpecial
  refine wpAny_bind ((looks_typeIn X (beq_iff_eq.mp fn)).here ?_)
  rw [if_pos (by decide)]
  exact wpAny_pure (wpAny_bind (wpAny_mono go (fun v s' h => wpAny_pure h) fun _ _ h => h))
theorem len_def {Q : Value → Shared → Prop} (X : K.In s.heap) (I : InstAt s.heap a ox C od) (found : findIn K (.ref C) "__len__" = some (some (.ref f))) (fn : isFn K (.ref f) = true)
    (go : wpAny (model prog w) A.in1 (call (.ref f) [.ref a]) (fun r s' => ∃ n u, r = .int n u ∧ 0 ≤ n ∧ n < 2 ^ 63 ∧ Q (.int n s'.toks) { s' with toks := s'.toks + 1 }) E s) :
    wpAny (model prog w) A (call (.builtin "len") [.ref a]) Q E s := by
  refine Calls.call_function_entry kind_len plain_len entry_len (args_len1 _) ?_
  unfold Builtin.«len»
  refine wpAny_bind (m := oneArg "len" _) (wpAny_pure ?_)
  refine wpAny_bind (m := callSpecial? (.ref a) (Str.ofString "__len__")) (special_def X I found fn (wpAny_mono go ?_ fun _ _ y => y))
  rintro r s' ⟨n, u, rfl, low, high, q⟩
  refine wpAny_bind (wpAny_holding (wpAny_pure (wpAny_bind (wpAny_letGo ?_))))
  show wpAny _ _ (if n < 0 then _ else _) _ _ _
  rw [if_neg (by omega)]
  show wpAny _ _ (if n ≥ 2 ^ 63 then _ else _) _ _ _
  rw [if_neg (by omega)]
  exact wpAny_bind (wpAny_mkInt (wpAny_pure ⟨_, rfl, q⟩))
theorem truthy_def {Q : Bool → Shared → Prop} (X : K.In s.heap) (I : InstAt s.heap a ox C od) (found : findIn K (.ref C) "__bool__" = some (some (.ref f))) (fn : isFn K (.ref f) = true)
    (go : wpAny (model prog w) A (call (.ref f) [.ref a]) (fun r s' => ∃ b, r = .bool b ∧ Q b s') E s) : wpAny (model prog w) A (truthy (.ref a)) Q E s := by
  unfold truthy
  refine wpAny_bind (m := callSpecial? (.ref a) (Str.ofString "__bool__")) (special_def X I found fn (wpAny_mono go ?_ fun _ _ y => y))
  rintro r s' ⟨b, rfl, q⟩
  exact wpAny_pure q
theorem bool_def {Q : Value → Shared → Prop} (X : K.In s.heap) (I : InstAt s.heap a ox C od) (found : findIn K (.ref C) "__bool__" = some (some (.ref f))) (fn : isFn K (.ref f) = true)
    (go : wpAny (model prog w) A.in1.in1 (call (.ref f) [.ref a]) (fun r s' => ∃ b, r = .bool b ∧ Q (.bool b) s') E s) : wpAny (model prog w) A (call (.type "bool") [.ref a]) Q E s := by
  refine callType_newIn (S := fun A' R s' => K.In s'.heap ∧ InstAt s'.heap a ox C od ∧ wpAny (model prog w) A'.in1 (call (.ref f) [.ref a]) (fun r s' => ∃ b, r = .bool b ∧ R (.ok (.ret (.bool b))) s') (fun e s' => R (.error e) s') s')
    F.called_bool F.newNe_bool (F.typeCall_bool_1 _) (F.newCall_bool_1 _) (fun obj => F.args_object_init_2 obj _) F.entry_bool_new ?_ ⟨X, I, wpAny_mono go ?_ fun _ _ y => y⟩
  · refine MeetsIn.of_wp ?_
    rintro A' R ⟨hp, g, d, tk, os⟩ ⟨X', I', go'⟩
    have f1 := F.conv_sub_bool
    unfold Builtin.«bool.__new__»
    repeat (any_goals (first | assumption | with_reducible (refine truthy_def X' I' found fn (wpAny_mono go' ?_ fun _ _ y => y)) | wp_step))
    rintro v s' ⟨b, e, q⟩
    exact ⟨b, e, wpAny_pure ⟨_, rfl, q⟩⟩
  · rintro r s' ⟨b, rfl, q⟩
    exact ⟨b, rfl, ⟨rfl, q⟩⟩
end
end OwnX
namespace L2
open PySem PySem.Spec PyProof.Rows
section
variable {X : Cx} {CX : CXT} {k : Nat} {C f : Addr} {fd : FuncData} {ps : List Str} {sp : Sp} {E : XK}
/-- a def run with the instance alone, somewhat deeper -/
theorem run_one {A' : Around} {pins : List (Addr × Obj)} {σ : L2.St} {H : Hp} {s : Shared} {Q : VK} {a : Addr} (F : FnOk X.prog X.w X.K X.mg X.base CX k f fd ps sp) (room : Room k A') (same : A'.frames = X.A.frames) (hb : Binds X.K fd ps []) (hx : Passes CX X E)
    (I : Inv X pins σ H s) (h : sp [.ref a] H Q E) : wpAny (model X.prog X.w) A' (call (.ref f) [.ref a]) (EP X pins σ Q) X.xe s := by
  have env := I.env0
  have env' : Env0 X.prog X.w X.K X.mg X.base A' X.stack s H := ⟨by rw [same]; exact env.frames, env.mod, env.bs, env.bsz, env.funs, env.frf, env.hok, env.bare⟩
  have len := F.len _ _ _ _ h
  have bind := hb s [.ref a] I.kIn (by simpa using len)
  refine wpAny_call (codeAny_mono (F.run A' X.stack s H ⟨[.ref a], []⟩ [.ref a] [.ref a] Q E room env' (by simpa using bind) (.cons rfl .nil) h) ?_)
  intro res s' post
  cases res with
  | error z => exact hx pins σ H s z s' I post
  | ok way =>
    cases way with
    | ret u => exact I.after post
    | next => cases post
    | brk => cases post
    | cont => cases post
/-- len(x): the class's own __len__ -/
def rLenO (C : Addr) (sp : Sp) (E : XK) : List V → Hp → VK → Prop := fun xs H Q => ∃ a dx fs, xs = [.ref a] ∧ H a = some (.ins C dx fs) ∧ sp [.ref a] H (fun v H' => ∃ n : Int, v = .int n ∧ 0 ≤ n ∧ n < 2 ^ 63 ∧ Q (.int n) H') E
theorem call_lenO (F : FnOk X.prog X.w X.K X.mg X.base CX k f fd ps sp) (hr : Room (k + 1) X.A) (found : PySem.W.findIn X.K (.ref C) "__len__" = some (some (.ref f))) (fn : PySem.W.isFn X.K (.ref f) = true) (hb : Binds X.K fd ps []) (hx : Passes CX X E) :
    CallR X (.builtin "len") (rLenO C sp E) := by
  intro pins s σ H xs us Q I r h
  obtain ⟨a, dx, fs, rfl, at_a, q⟩ := h
  rw [Vals.ref1 r]
  obtain ⟨mA, O, _⟩ := ins_get I.hok at_a
  obtain ⟨od, J, _⟩ := O.look
  refine OwnX.len_def I.kIn J found fn (wpAny_mono (run_one F hr.in1 rfl hb hx I q) ?_ fun _ _ y => y)
  rintro v s' ⟨x, H1, I1, rv, n, rfl, low, high, q1⟩
  obtain ⟨t, rfl⟩ := rv
  exact ⟨n, t, rfl, low, high, .int n, H1, I1.tok _, ⟨_, rfl⟩, q1⟩
/-- bool(x): the class's own __bool__ -/
def rBoolO (C : Addr) (sp : Sp) (E : XK) : List V → Hp → VK → Prop := fun xs H Q => ∃ a dx fs, xs = [.ref a] ∧ H a = some (.ins C dx fs) ∧ sp [.ref a] H (fun v H' => ∃ b : Bool, v = .bl b ∧ Q (.bl b) H') E
theorem call_boolO (F : FnOk X.prog X.w X.K X.mg X.base CX k f fd ps sp) (hr : Room (k + 2) X.A) (found : PySem.W.findIn X.K (.ref C) "__bool__" = some (some (.ref f))) (fn : PySem.W.isFn X.K (.ref f) = true) (hb : Binds X.K fd ps []) (hx : Passes CX X E) :
    CallR X (.type "bool") (rBoolO C sp E) := by
  intro pins s σ H xs us Q I r h
  obtain ⟨a, dx, fs, rfl, at_a, q⟩ := h
  rw [Vals.ref1 r]
  obtain ⟨mA, O, _⟩ := ins_get I.hok at_a
  obtain ⟨od, J, _⟩ := O.look
  refine OwnX.bool_def I.kIn J found fn (wpAny_mono (run_one F hr.in1.in1 rfl hb hx I q) ?_ fun _ _ y => y)
  rintro v s' ⟨x, H1, I1, rv, b, rfl, q1⟩
  cases rv
  exact ⟨b, rfl, .bl b, H1, I1, rfl, q1⟩
end
end L2
/-! repr(x) of data of any kind (the empty dict too); t.index(x) of data. -/
namespace L2
open PySem PySem.Spec PyProof.Rows
/-- v reads as d; the empty dict too -/
def DpR (K : PySem.W.Frag) (H : Hp) (v : V) (d : PyData) : Prop := Dp K H v d ∨ (d = .dict [] ∧ ∃ a, v = .ref a ∧ Rd H a (.dK []))
def rReprV (K : PySem.W.Frag) : List V → Hp → VK → Prop := fun xs H Q => ∃ (v : V) (d : PyData), xs = [v] ∧ DpR K H v d ∧ d.showable = true ∧ (d = .dict [] ∨ d.hasDict = false) ∧ d.shown.length ≤ sizeLine ∧ d.depth ≤ 60 ∧ Q (.str d.shown) H
section
variable {X : Cx}
theorem call_reprV (gd : X.A.guards = some []) (hu : X.A.units + 64 < cLine) : CallR X (.builtin "repr") (rReprV X.K) := by
  intro pins s σ H xs us Q I r h
  obtain ⟨v, d, rfl, hd, h1, h2, h3, h4, q⟩ := h
  obtain ⟨u, rfl, ru⟩ := vals1 r
  have ans : ∀ (h' : Heap) (tk : Nat) (t : Tok), (∀ b o, s.heap.get? b = some o → h'.get? b = some o) → EP X pins σ Q (.str d.shown t) { s with heap := h', toks := tk } := fun h' tk t k => ⟨.str d.shown, H, I.kept k, ⟨t, rfl⟩, q⟩
  rcases hd with hd | ⟨rfl, a, rfl, ha⟩
  · have nod : d.hasDict = false := by
      rcases h2 with rfl | h2
      · cases hd
      · exact h2
    cases hd with
    | non =>
      cases ru
      exact P.repr_of_none (ans s.heap _ _ fun _ _ e => e)
    | bl b =>
      cases ru
      exact P.repr_of_bool (ans s.heap _ _ fun _ _ e => e)
    | int i =>
      obtain ⟨t, rfl⟩ := ru
      exact P.repr_of_int (of_decide_eq_true (by simpa [PyData.showable] using h1)) (ans s.heap _ _ fun _ _ e => e)
    | str x =>
      obtain ⟨t, rfl⟩ := ru
      exact P.repr_of_str (ans s.heap _ _ fun _ _ e => e) (hsz := h3)
    | lst hs ha =>
      cases ru
      obtain ⟨as, rd⟩ := Dp.reads I _ _ _ (.lst hs ha) rfl
      exact PySem.repr_of_reads' rd h1 (fun z => by rw [nod] at z; cases z) gd (by omega) (fun _ _ e => e) (fun h' u tk hk => ans h' tk u hk) h3
    | tup hs ha =>
      cases ru
      obtain ⟨as, rd⟩ := Dp.reads I _ _ _ (.tup hs ha) rfl
      exact PySem.repr_of_reads' rd h1 (fun z => by rw [nod] at z; cases z) gd (by omega) (fun _ _ e => e) (fun h' u tk hk => ans h' tk u hk) h3
  · cases ru
    obtain ⟨z, lo, vs, rel, dd⟩ := dk_rd I.hok ha
    obtain ⟨ep, hat⟩ := dd.dictAt
    have none_in : vs = [] := by
      cases rel
      rfl
    subst none_in
    obtain ⟨o, es, at_a, ex, data, _, pairs, _⟩ := hat
    have empty : es.toList = [] := by
      cases e : es.toList with
      | nil => rfl
      | cons x y =>
        rw [e] at pairs
        cases pairs
    have rd : Reads s.heap (.ref a) (.dict []) ([a] ++ []) := Reads.dict (kvs := []) at_a ex.1 data (by rw [empty]; exact .nil) (by rw [empty]; exact .nil)
    exact PySem.repr_of_reads' rd h1 (fun _ z => by simp at z; rw [z] at lo; simp at lo) gd (by omega) (fun _ _ e => e) (fun h' u tk hk => ans h' tk u hk) h3
/-! ### t.index(x) -/
def rTIndexD (K : PySem.W.Frag) : V → List V → Hp → VK → Prop := fun x vs H Q => ∃ (a : Addr) (xs : List V) (ds : List PyData) (y : V) (d : PyData) (j : Nat), x = .ref a ∧ vs = [y] ∧ SqT K H a xs ∧ DpAll K H xs ds ∧ Dp K H y d ∧
  SeqAt.shaped (.tuple ds) = true ∧ SeqAt.shaped d = true ∧ SeqAt.dataPlace ds d = some j ∧ Q (.int j) H
theorem idxOf_place (ds : List PyData) (d : PyData) {j : Nat} (h : SeqAt.dataPlace ds d = some j) : true ∈ ds.map (fun z => PyData.eqv z d) ∧ (ds.map fun z => PyData.eqv z d).idxOf true = j := by
  unfold SeqAt.dataPlace at h
  induction ds generalizing j with
  | nil => simp at h
  | cons a r ih =>
    rw [List.findIdx?_cons] at h
    cases e : PyData.eqv a d with
    | true =>
      rw [e] at h
      simp at h
      subst h
      simp [e]
    | false =>
      rw [e] at h
      simp only [Bool.false_eq_true, if_false, Option.map_eq_some_iff] at h
      obtain ⟨k, hk, rfl⟩ := h
      obtain ⟨h1, h2⟩ := ih hk
      refine ⟨by simp [e]; simpa using h1, ?_⟩
      rw [List.map_cons, e, List.idxOf_cons]
      simp [h2]
theorem mt_tupIndexD (hu : X.A.units + 66 < cLine) : MtR X "tuple.index" (rTIndexD X.K) := by
  intro pins s σ H x vs v us Q I rx rv h
  obtain ⟨a, xs, ds, y, d, j, rfl, rfl, hs, hds, hd, s1, s2, hp, q⟩ := h
  cases rx
  obtain ⟨u, rfl, ru⟩ := rv.one
  obtain ⟨as, r1⟩ := Dp.reads I d y u hd ru
  obtain ⟨its, r, ht, hz⟩ := I.tuple hs
  obtain ⟨bs, r2⟩ := Dp.readsAll I ds xs its hds r
  obtain ⟨m1, m2⟩ := idxOf_place ds d hp
  have l1 : its.length = ds.length := by rw [← r.length, DpAll.length hds]
  refine PySem.SeqAt.call_tuple_index (ks := ds.map fun z => PyData.eqv z d) (k := true) ht ⟨by rw [List.length_map]; exact l1, fun j h1 h2 => ?_⟩ m1 ?_
  · have h3 : j < ds.length := by omega
    have h4 : j < xs.length := by rw [r.length]; exact h1
    obtain ⟨u', e1, e2⟩ := Vals.get r (List.getElem?_eq_getElem h4)
    rw [List.getElem?_eq_getElem h1] at e1
    cases e1
    obtain ⟨d', e3, e4⟩ := DpAll.get hds (List.getElem?_eq_getElem h4)
    rw [List.getElem?_eq_getElem h3] at e3
    cases e3
    obtain ⟨cs, r3⟩ := Dp.reads I _ _ _ e4 e2
    have dep := SeqAt.depth_of_shaped s2
    have lay : ds[j].plain = true := by
      have z := SeqAt.canLay_of_shaped s1
      simp only [PyData.canLay0] at z
      have go : ∀ {l : List PyData} {x : PyData}, PyData.canLayAll0 l = true → x ∈ l → x.canLay0 = true := by
        intro l
        induction l with
        | nil => intro x _ h; cases h
        | cons b t ih =>
          intro x hl hx
          simp only [PyData.canLayAll0, Bool.and_eq_true] at hl
          rcases List.mem_cons.mp hx with e | hx
          · rw [e]; exact hl.1
          · exact ih hl.2 hx
      exact PyData.plain_of_canLay0 _ (go z (List.getElem_mem h3))
    have ans := SeqAt.eqAt_plain ds[j] d X.A.in1 s its[j] u cs as r3 r1 lay (PyData.plain_of_canLay0 _ (SeqAt.canLay_of_shaped s2)) (by show X.A.units + 1 + _ < cLine; omega)
    have e : decide ((ds.map fun z => PyData.eqv z d)[j] = true) = PyData.eqv ds[j] d := by simp
    rw [e]
    exact ans
  · rw [m2]
    exact ⟨.int j, H, I.tok _, ⟨_, rfl⟩, q⟩
end
end L2
/-! o.m(e, ..) of a tuple that the program made (pe_bm asks for one of the program's text): tuple(list) as a known object, and its methods. -/
namespace L2
open PySem PySem.Spec PyProof.Rows HT
section
variable {X : Cx}
/-- tuple(list), the object known to have no dict -/
def rTupF (K : PySem.W.Frag) : List V → Hp → VK → Prop := fun xs H Q => ∃ p ys, xs = [V.ref p] ∧ SqL K H p ys ∧ ∀ l o, H l = none → o.dict = none → Q (.ref l) (upd H l (.frz o (.tup ys)))
theorem call_tupF : CallR X (.type "tuple") (rTupF X.K) := by
  intro pins s σ H xs us Q I r h
  obtain ⟨p, ys, rfl, hq, q⟩ := h
  obtain ⟨u, rfl, rx⟩ := r.one
  cases rx
  obtain ⟨its, r', pl, hz⟩ := I.list hq
  have hlen := r'.length
  refine call_tuple_list pl.isList (fun h' kp => ?_) (by simp only [List.size_toArray] <;> omega)
  have I1 : Inv X pins σ H { s with heap := h' } := I.kept (t' := s.toks) kp
  have I2 : Inv X pins σ (upd H h'.objs.size (.frz { cls := .type "tuple", data := .seq its.toArray } (.tup ys))) { s with heap := h'.push { cls := .type "tuple", data := .seq its.toArray } } :=
    I1.laid (t' := s.toks) (fun b o e => Heap.get?_push_of_some _ e) (Nat.le_refl _) (show ObjOk X.prog X.w _ _ _ (.frz _ (.tup ys)) from ⟨by unfold Heap.get? Heap.push; simp, hz, its, r', IsTup.new _ _⟩)
  exact ⟨.ref h'.objs.size, _, I2, rfl, q _ _ (I1.hok.fresh (Nat.le_refl _)) rfl⟩
def tBMT (r : V → List V → Hp → VK → Prop) (to : TE) (t : TA) : TE := fun σ H Q => to σ H fun x H1 => (∃ a o xs, x = .ref a ∧ H1 a = some (.frz o (.tup xs)) ∧ o.dict = none) ∧ t σ H1 fun xs H2 => r x xs H2 Q
variable {o e : Expr} {es : List Expr} {to : TE} {t : TA} {name : Str} {apos cpos : Pos} {id : String} {r : V → List V → Hp → VK → Prop}
theorem pe_bmT (slot : Slot "tuple" name id) (hty : typeOf (.builtin id) = pure (.type "method_descriptor")) (hm : MtR X id r) (ho : PE X o to) (ha : PA X (e :: es) t)
    (hbase : attributeBase o name X.env (eval o X.env) = eval o X.env := by rfl)
    (hfew : ((backTo cpos (starEach (e :: es) X.env)).all (fun x => !x.1) && (backToKw cpos (keywordEach [] X.env)).all (fun x => x.1.isSome)
      && decide ((e :: es).length + ([] : List Keyword).length + (if ([] : List Keyword).isEmpty then 0 else 1) < 30)) = true := by rfl)
    (hline : (apos.endLine == cpos.line) = true := by rfl) (hs : starEach (e :: es) X.env = (false, eval e X.env) :: starEach es X.env := by rfl) (hplain : (backTo cpos (starEach es X.env)).any (·.1) = false := by rfl) :
    PE X (.Call (.Attribute o name apos) (e :: es) [] cpos) (tBMT r to t) := by
  refine ⟨fun pins s σ H Q I h => ?_⟩
  refine wpAny_Call_method_late hbase hfew hline rfl (thn (ho.run pins s σ H _ I h) ?_)
  rintro v s1 ⟨x, H1, I1, r1, ⟨a, ob, xs, rfl, hx, hn⟩, q1⟩
  cases r1
  obtain ⟨eo, _⟩ := I1.hok _ _ hx
  obtain ⟨its, rv, ht, hz⟩ := I1.tuple (.inl (.inr ⟨ob, hx⟩))
  refine ⟨"tuple", id, PySem.F.plainAttrs_tuple, slot, hty, ht.typeIs, fun b eb => ?_, ?_⟩
  · cases eb
    exact ⟨ob, eo, hn⟩
  have hA := ha.run cpos pins s1 σ H1 _ I1 q1
  rw [hs] at hA ⊢
  refine Calls.callWith_builtin (by show (false || (backTo cpos (starEach es X.env)).any (·.1)) = false; rw [hplain] <;> rfl) (Calls.evalArgs_plain ?_)
  exact thn hA fun us s2 ⟨vs, H2, I2, r2, q2⟩ => hm pins s2 σ H2 (.ref a) vs (.ref a) us Q I2 rfl r2 q2
end
end L2
/-! xs != [], items of any kind. -/
namespace L2
open PySem PySem.Spec PyProof.Rows
section
variable {X : Cx}
def rNeNil (K : PySem.W.Frag) : R2 := fun x y H Q => ∃ a b xs, x = .ref a ∧ y = .ref b ∧ SqL K H a xs ∧ SqL K H b [] ∧ Q (.bl (!xs.isEmpty)) H
theorem op_neNil (hu : X.A.units < cLine) : OpR X (compareOp .NotEq) (rNeNil X.K) := by
  intro pins s σ H x y v u Q I rx ry h
  obtain ⟨a, b, xs, rfl, rfl, ha, hb, q⟩ := h
  cases rx
  cases ry
  obtain ⟨its, r, l1, _⟩ := I.list ha
  obtain ⟨its2, r2, l2, _⟩ := I.list hb
  cases r2
  have len := r.length
  unfold compareOp
  cases xs with
  | nil =>
    cases r
    refine SeqAt.RcNeAt.lists (e := fun _ => true) l1.isList l2.isList rfl hu (fun j h1 _ => absurd h1 (by simp)) _ _ _ _ ?_
    exact ⟨.bl _, H, I, rfl, q⟩
  | cons z zs =>
    refine SeqAt.RcNeAt.lists_lengths l1.isList l2.isList ?_ hu _ _ _ _ ⟨.bl _, H, I, rfl, q⟩
    rw [List.size_toArray, ← len]
    rfl
end
end L2
/-! sorted(xs, key=f), f a def of the program by its promise: items of any kind, keys data without lists. -/
namespace L2
open PySem PySem.Spec PyProof.Rows
section
variable {X : Cx} {k : Nat} {f : Addr} {fd : FuncData} {ps : List Str} {sp : Sp}
/-- a def run with one value, somewhat deeper; it does not raise -/
theorem run_key {A' : Around} {pins : List (Addr × Obj)} {σ : L2.St} {H : Hp} {s : Shared} {Q : VK} {v : V} {u : Value} (F : FnOk X.prog X.w X.K X.mg X.base CX0 k f fd ps sp) (room : Room k A') (same : A'.frames = X.A.frames) (hb : Binds X.K fd ps [])
    (I : Inv X pins σ H s) (r : RelV v u) (h : sp [v] H Q E0) : wpAny (model X.prog X.w) A' (call (.ref f) [u]) (EP X pins σ Q) (fun _ _ => False) s := by
  have env := I.env0
  have env' : Env0 X.prog X.w X.K X.mg X.base A' X.stack s H := ⟨by rw [same]; exact env.frames, env.mod, env.bs, env.bsz, env.funs, env.frf, env.hok, env.bare⟩
  have len := F.len _ _ _ _ h
  have bind := hb s [u] I.kIn (by simpa using len)
  refine wpAny_call (codeAny_mono (F.run A' X.stack s H ⟨[u], []⟩ [u] [v] Q E0 room env' (by simpa using bind) (.cons r .nil) h) ?_)
  intro res s' post
  cases res with
  | error z => exact post
  | ok way =>
    cases way with
    | ret u => exact I.after post
    | next => cases post
    | brk => cases post
    | cont => cases post
/-- the list and the keys' store, behind a sort by keys: the store is only a pin -/
theorem Inv.sorted {pins : List (Addr × Obj)} {σ : L2.St} {H : Hp} {s : Shared} {h' : Heap} {tk : Nat} {a kS : Addr} {o : HO} (I : Inv X pins σ H s) (ha : H a = none) (hk : H kS = none) (ka : kS ≠ a)
    (keep : ∀ b ob, b ≠ a → b ≠ kS → s.heap.get? b = some ob → h'.get? b = some ob) (za : X.s_0.heap.objs.size ≤ a) (zk : X.s_0.heap.objs.size ≤ kS) (la : a ≠ X.env.locals) (lk : kS ≠ X.env.locals)
    (ca : ∀ x c, X.env.cells.lookup x = some c → c ≠ a) (ck : ∀ x c, X.env.cells.lookup x = some c → c ≠ kS) (pa : ∀ p ∈ X.pn ++ pins, p.1 ≠ a) (pk : ∀ p ∈ X.pn ++ pins, p.1 ≠ kS) (new : ObjOk X.prog X.w (upd H a o) h' a o) :
    Inv X pins σ (upd H a o) { s with heap := h', toks := tk } := by
  have out : ∀ {b : Addr}, b ∉ [a, kS] → b ≠ a ∧ b ≠ kS := fun h => ⟨fun e => h (by simp [e]), fun e => h (by simp [e])⟩
  refine I.step (g' := s.gens) (d' := s.drawn) (ch := [a, kS]) ?_ ?_ ?_ ?_ ?_ ?_ ?_ ?_ ?_ ?_ I.bare
  · intro b hb
    simp only [List.mem_cons, List.not_mem_nil, or_false] at hb
    rcases hb with rfl | rfl
    · exact ⟨.inr za, la, ca, pa⟩
    · exact ⟨.inr zk, lk, ck, pk⟩
  · exact fun b ob _ _ hc e _ => keep b ob (out hc).1 (out hc).2 e
  · exact fun b ob _ _ hc e _ => ⟨ob.slots, keep b ob (out hc).1 (out hc).2 e⟩
  · exact fun b ob hc _ n => by rw [upd_ne (out hc).1]; exact n
  · exact fun b ob hc e => ⟨ob, keep b ob (out hc).1 (out hc).2 e⟩
  · exact fun b ys e => by rw [upd_ne (fun z => by rw [z, ha] at e; cases e)]; exact e
  · exact fun b ob u e => by rw [upd_ne (fun z => by rw [z, ha] at e; cases e)]; exact e
  · exact fun b qs e => ⟨#[], by rw [upd_ne (fun z => by rw [z, ha] at e; cases e), e]; simp⟩
  · rintro m ⟨ob, es, ep, ho, r⟩
    exact ⟨ob, es, ep, keep _ _ la.symm lk.symm ho, r⟩
  · intro b u e
    by_cases hb : b = a
    · subst hb
      rw [upd_same] at e
      cases e
      exact new
    · rw [upd_ne hb] at e
      refine (I.hok b u e).stay (fun c v hc q => keep c v ?_ ?_ q) (fun c q => ?_) (fun c ys q => ?_)
      · rcases hc with rfl | z
        · exact hb
        · exact fun w => by rw [w, ha] at z; cases z
      · rcases hc with rfl | z
        · exact fun w => by rw [w, hk] at e; cases e
        · exact fun w => by rw [w, hk] at z; cases z
      · rw [upd_ne (fun w => by rw [w, ha] at q; cases q)]; exact q
      · rw [upd_ne (fun w => by rw [w, ha] at q; cases q)]; exact q
theorem DpAll.reads {pins : List (Addr × Obj)} {σ : L2.St} {H : Hp} {s : Shared} (I : Inv X pins σ H s) : ∀ {vs : List V} {ds : List PyData} {us : List Value}, DpAll X.K H vs ds → Vals vs us → PySem.W.EachIs (fun u d => ∃ as, Reads s.heap u d as) us ds
  | _, _, _, .nil, .nil => .nil
  | _, _, _, .cons h t, .cons r q => .cons (Dp.reads I _ _ _ h r) (DpAll.reads I t q)
theorem vals_push {vs : List V} {us : Array Value} {v : V} {u : Value} (h : Vals vs us.toList) (r : RelV v u) : Vals (vs ++ [v]) (us.push u).toList := by
  rw [Array.toList_push]
  exact h.append (.cons r .nil)
/-- sorted(xs, key=f) -/
def rSortF (K : PySem.W.Frag) (f : Addr) (sp : Sp) : List V → List V → Hp → VK → Prop := fun xs zs H Q => ∃ (l : Addr) (qs : List (V × PyData)), xs = [.ref l] ∧ zs = [.ref f] ∧ SqL K H l (qs.map (·.1)) ∧ PySem.W.AllAlike (qs.map (·.2)) ∧ PySem.W.Sortable (qs.map (·.2)) ∧
  (∀ q ∈ qs, q.2.depth ≤ 60 ∧ imm q.2 = true) ∧ (∀ q ∈ qs, ∀ H' Q', Same H H' → (∀ v H2, Same H' H2 → Dp K H2 v q.2 → Q' v H2) → sp [q.1] H' Q' E0) ∧
  ∀ p H', Same H H' → H p = none → H' p = some (.lst ((qs.mergeSort leD).map (·.1))) → Q (.ref p) H'
theorem call_sortedF (F : FnOk X.prog X.w X.K X.mg X.base CX0 k f fd ps sp) (hr : Room (k + 2) X.A) (hb : Binds X.K fd ps []) (hu : X.A.units + 64 < cLine) : CallRK X (.builtin "sorted") [Str.ofString "key"] (rSortF X.K f sp) := by
  intro pins s σ H vs zs us ws Q I r rz h
  obtain ⟨l, qs, rfl, rfl, hl, hal, hso, him, hsp, q⟩ := h
  rw [Vals.ref1 r]
  obtain ⟨w1, rfl, e1⟩ := rz.one
  cases e1
  obtain ⟨its, rv, pl, hz⟩ := I.list hl
  have hlen := rv.length
  rw [List.length_map] at hlen hz
  refine PySem.W.sorted_of_sort pl.isList (by omega) (ksk_s1 _ _) (fun _ => ksk_l1 _ _) fun E' => ?_
  show wpAny _ _ (Builtin.«list.sort» ⟨[.ref (s.heap.objs.size + 1)], [(Str.ofString "key", .ref f)]⟩) _ _ _
  rw [ksk_t1]
  have old : ∀ b o, s.heap.get? b = some o → (PySem.W.sortingHeap (PySem.W.copyHeap s.heap its) (s.heap.objs.size + 1) its).get? b = some o := fun b o e => PySem.W.sorting_copy_old e
  obtain ⟨a, ea⟩ : ∃ a, a = s.heap.objs.size + 1 := ⟨_, rfl⟩
  rw [← ea] at old ⊢
  have at_a := PySem.W.copyHeap_at s.heap its
  rw [← ea] at at_a
  have below : a < (PySem.W.copyHeap s.heap its).objs.size := Heap.lt_size at_a
  have room2 : Room k X.A.in1.in1 := hr.in1.in1
  have emptied : ∃ e1, ((PySem.W.copyHeap s.heap its).update a (Obj.mapSeq fun _ => (#[] : Array Value))).get? a = some (seqObj "list" #[] e1) := ⟨_, get?_update_seq at_a fun _ => #[]⟩
  obtain ⟨e1, emptied⟩ := emptied
  have sz2 : its.length ≤ sizeLine := by omega
  unfold ksk_tree
  refine wpAny_bind (listItems_at at_a rfl (wpAny_bind (listUpdate_at at_a rfl ?_ (by rw [List.size_toArray]; exact sz2) (Nat.zero_le _))))
  refine wpAny_bind (seqEpoch_at emptied rfl (wpAny_bind (wpAny_newTuple (wpAny_bind (wpAny_newList (wpAny_holding ?_) (Nat.zero_le _))) (by show its.length ≤ _; exact sz2))))
  obtain ⟨kS, eS⟩ : ∃ kS, kS = (((PySem.W.copyHeap s.heap its).update a (Obj.mapSeq fun _ => (#[] : Array Value))).push (seqObj "tuple" its.toArray 0)).objs.size := ⟨_, rfl⟩
  have hkS : kS = (PySem.W.copyHeap s.heap its).objs.size + 1 := by rw [eS, size_push', Heap.size_update]
  have store : (PySem.W.sortingHeap (PySem.W.copyHeap s.heap its) a its).get? kS = some (seqObj "list" #[] 0) := by
    rw [eS]
    exact Heap.get?_push_size _ rfl
  have stands : (PySem.W.sortingHeap (PySem.W.copyHeap s.heap its) a its).get? a = some (seqObj "list" #[] e1) := Heap.get?_push_of_some _ (Heap.get?_push_of_some _ emptied)
  show wpAny _ _ (ksk_rest a (.ref f) false its.toArray e1 (.ref (((PySem.W.copyHeap s.heap its).update a (Obj.mapSeq fun _ => (#[] : Array Value))).push (seqObj "tuple" its.toArray 0)).objs.size)) _ _ { s with heap := PySem.W.sortingHeap (PySem.W.copyHeap s.heap its) a its }
  rw [← eS]
  have szA : s.heap.objs.size ≤ a := by omega
  have szK : s.heap.objs.size ≤ kS := by omega
  have nka : kS ≠ a := by omega
  have cellLt : ∀ x c, X.env.cells.lookup x = some c → c < s.heap.objs.size := fun x c e => by
    obtain ⟨v, o, ho, _⟩ := I.cell x c e
    exact Heap.lt_size ho
  have pinLt : ∀ p ∈ X.pn ++ pins, p.1 < s.heap.objs.size := fun p hp => Heap.lt_size (I.pin p hp).1
  have locLt := I.lt
  have I1 : Inv X pins σ H { s with heap := PySem.W.sortingHeap (PySem.W.copyHeap s.heap its) a its } := I.kept (t' := s.toks) old
  have nfA := I.nofs szA
  have nfK := I.nofs szK
  have pinsOk : ∀ {H' : Hp} {s' : Shared} {kA : Array Value} {e : Nat}, Inv X pins σ H' s' → s'.heap.get? kS = some (seqObj "list" kA e) → s'.heap.get? a = some (seqObj "list" #[] e1) → H' kS = none → H' a = none → Inv X ((kS, seqObj "list" kA e) :: (a, seqObj "list" #[] e1) :: pins) σ H' s' := by
    intro H' s' kA e J g1 g2 n1 n2
    refine J.pins_of fun p hp => ?_
    rcases List.mem_cons.mp hp with rfl | hp
    · exact ⟨g1, n1, Nat.ne_of_gt (Nat.lt_of_lt_of_le locLt szK), nfK, fun v z => by cases z⟩
    · rcases List.mem_cons.mp hp with rfl | hp
      · exact ⟨g2, n2, Nat.ne_of_gt (Nat.lt_of_lt_of_le locLt szA), nfA, fun v z => by cases z⟩
      · exact J.pin p (List.mem_append_right _ hp)
  have J1 := pinsOk I1 store stands (I.hok.fresh szK) (I.hok.fresh szA)
  unfold ksk_rest
  refine (wpAny_bind (wpAny_rule ?_))
  rw [List.forIn_toArray]
  refine wpAny_bind (ksk_fold (fun i s' => ∃ (kA : Array Value) (e : Nat) (H' : Hp) (kV : List V), Inv X ((kS, seqObj "list" kA e) :: (a, seqObj "list" #[] e1) :: pins) σ H' s' ∧ Same H H' ∧ Vals kV kA.toList ∧ DpAll X.K H' kV ((qs.map (·.2)).take i)) its 0 _ ⟨#[], 0, H, [], J1, Same.refl H, .nil, .nil⟩ ?_ ?_)
  · rintro j x s' hx ⟨kA, e, H', kV, J, hs, hv, hd⟩
    simp only [Nat.zero_add] at hd ⊢
    have hj : j < its.length := (List.getElem?_eq_some_iff.mp hx).1
    have hjq : j < qs.length := by omega
    have hq : qs[j] ∈ qs := List.getElem_mem hjq
    have hmap : (qs.map (·.1))[j]? = some qs[j].1 := by rw [List.getElem?_map, List.getElem?_eq_getElem hjq]; rfl
    obtain ⟨u', e2, rel⟩ := Vals.get rv hmap
    rw [hx] at e2
    cases e2
    have run := run_key (Q := fun w H2 => Same H' H2 ∧ Dp X.K H2 w qs[j].2) F room2 rfl hb J rel (hsp _ hq H' _ hs fun v H2 k2 dv => ⟨k2, dv⟩)
    refine wpAny_bind (wpAny_attempt (wpAny_mono run (fun u s2 post => ?_) fun _ _ no => no.elim))
    obtain ⟨wv, H2, J2, rw2, k2, dv⟩ := post
    have p1 := J2.pin _ (List.mem_append_right _ (.head _))
    have p2 := J2.pin _ (List.mem_append_right _ (.tail _ (.head _)))
    have ksz : kA.size ≤ its.length := by
      have w1 : kV.length = kA.size := by rw [hv.length, Array.length_toList]
      have w2 : kV.length ≤ qs.length := by
        rw [DpAll.length hd, List.length_take, List.length_map]
        omega
      omega
    try dsimp only
    refine wpAny_bind (listUpdate_at p1.1 rfl ?_ (by omega) (by rw [Array.size_push]; omega))
    have g1 : (s2.heap.update kS (Obj.mapSeq (·.push u))).get? kS = some (seqObj "list" (kA.push u) _) := get?_update_seq p1.1 (·.push u)
    have same := Heap.SameBut.update s2.heap kS (Obj.mapSeq (·.push u))
    have J3 : Inv X pins σ H2 s2 := J2.pins_of fun p hp => J2.pin p (List.mem_append_right _ (.tail _ (.tail _ hp)))
    have J4 : Inv X pins σ H2 { s2 with heap := s2.heap.update kS (Obj.mapSeq (·.push u)) } := J3.turned (t' := s2.toks) (it := kS) (fun b o hb e => (same.2 b hb).trans e) p1.2.1 (Nat.ne_of_gt (Nat.lt_of_lt_of_le locLt szK)) (.inr (Nat.le_trans I.sz szK)) (fun x c e => Nat.ne_of_lt (Nat.lt_of_lt_of_le (cellLt x c e) szK)) (fun p hp => Nat.ne_of_lt (Nat.lt_of_lt_of_le (pinLt p hp) szK))
    refine wpAny_pure ⟨rfl, kA.push u, _, H2, kV ++ [wv], pinsOk J4 g1 ((same.2 a nka.symm).trans p2.1) p1.2.1 p2.2.1, hs.trans k2, vals_push hv rw2, ?_⟩
    rw [List.take_add_one, List.getElem?_map, List.getElem?_eq_getElem hjq]
    refine DpAll.app (Dp.keepAll k2.tupK _ _ ?_ hd) (.cons dv .nil)
    have all : ∀ {l : List (V × PyData)}, (∀ q ∈ l, imm q.2 = true) → immAll (l.map (·.2)) = true := by
      intro l
      induction l with
      | nil => intro _; rfl
      | cons c t ih =>
        intro h
        simp only [List.map_cons, immAll, Bool.and_eq_true]
        exact ⟨h c List.mem_cons_self, ih fun q hq => h q (List.mem_cons_of_mem _ hq)⟩
    rw [← List.map_take]
    exact all fun q hq => (him q (List.mem_of_mem_take hq)).2
  · rintro s' ⟨kA, e, H', kV, J, hs, hv, hd⟩
    rw [Nat.zero_add, List.take_of_length_le (by rw [List.length_map]; omega)] at hd
    have p1 := J.pin _ (List.mem_append_right _ (.head _))
    have p2 := J.pin _ (List.mem_append_right _ (.tail _ (.head _)))
    try dsimp only
    refine wpAny_bind (listItems_at p1.1 rfl ?_)
    have each := DpAll.reads J hd hv
    obtain ⟨G, hG1, hG2⟩ := restrict s'.heap fun b => decide (b ≠ kS)
    have szq : kA.size = its.length := by
      have w1 : kV.length = kA.size := by rw [hv.length, Array.length_toList]
      have w2 : kV.length = qs.length := by rw [DpAll.length hd, List.length_map]
      omega
    have kp : PySem.W.KeepsBut a G s'.heap := fun b o _ e => by
      by_cases hb : b = kS
      · rw [hb, hG2 kS (decide_eq_false fun z => z rfl)] at e
        cases e
      · rw [← hG1 b (decide_eq_true hb)]
        exact e
    have kp' : ∀ b o, b ≠ kS → s'.heap.get? b = some o → G.get? b = some o := fun b o hb e => by rw [hG1 b (decide_eq_true hb)]; exact e
    have sorts := PySem.W.SortsAt.data (prog := X.prog) (w := X.w) (A := X.A.in1.in1) (s := s') each hal hso (fun d hd => by
      obtain ⟨q, hq, rfl⟩ := List.mem_map.mp hd
      have := (him q hq).1
      show X.A.units + 2 + q.2.depth < cLine
      omega)
    refine PySem.W.keyH_end (h₁ := G) kp (hG2 kS (decide_eq_false fun z => z rfl)) p1.1 p2.1 nka sorts szq sz2 fun h2 tk c kh ah => ⟨rfl, ?_⟩
    have pairs : PySem.W.EachIs (fun u (p : V × PyData) => RelV p.1 u) its qs := by
      have go : ∀ {l : List (V × PyData)} {us : List Value}, Vals (l.map (·.1)) us → PySem.W.EachIs (fun u (p : V × PyData) => RelV p.1 u) us l := by
        intro l
        induction l with
        | nil => intro us h; cases h; exact .nil
        | cons c t ih =>
          intro us h
          cases h with
          | cons r t => exact .cons r (ih t)
      exact go rv
    have outs := PySem.W.keyedOut_each (rev := false) (R := fun u (p : V × PyData) => RelV p.1 u) (bs := qs) (vs := its) (fun p => p.2) ⟨s'.heap, kA.toList, hal, rfl, each⟩ pairs
    have rels : Vals ((qs.mergeSort leD).map (·.1)) (PySem.W.sortVals (PySem.W.dataKind s'.heap (qs.map (·.2))) false kA.toList its) := vals_each outs
    have J3 : Inv X pins σ H' s' := J.pins_of fun p hp => J.pin p (List.mem_append_right _ (.tail _ (.tail _ hp)))
    have J4 : Inv X pins σ (upd H' a (.lst ((qs.mergeSort leD).map (·.1)))) { s' with heap := h2, toks := tk } := by
      refine Inv.sorted J3 p2.2.1 p1.2.1 nka (fun b o h1 h3 e => kh b o h1 (kp' b o h3 e)) (Nat.le_trans I.sz szA) (Nat.le_trans I.sz szK) (Nat.ne_of_gt (Nat.lt_of_lt_of_le locLt szA)) (Nat.ne_of_gt (Nat.lt_of_lt_of_le locLt szK)) (fun x c e => Nat.ne_of_lt (Nat.lt_of_lt_of_le (cellLt x c e) szA)) (fun x c e => Nat.ne_of_lt (Nat.lt_of_lt_of_le (cellLt x c e) szK))
        (fun p hp => Nat.ne_of_lt (Nat.lt_of_lt_of_le (pinLt p hp) szA)) (fun p hp => Nat.ne_of_lt (Nat.lt_of_lt_of_le (pinLt p hp) szK)) ⟨by rw [List.length_map, List.length_mergeSort]; exact hz, _, c, rels, ah⟩
    exact ⟨.ref a, _, J4, rfl, q a _ (hs.step p2.2.1) (I.hok.fresh szA) upd_same⟩
end
end L2
/-! enumerate over a tuple, the tuple standing all the while. -/
namespace EnumX
open PySem
theorem made_by {t : Addr} {xs : Array Value} : Meets (Builtin.«enumerate.__new__» ⟨[.type "enumerate", .ref t], []⟩) (fun _ R s => s.heap.IsTuple t xs ∧
    R (.ok (.ret (.ref (s.heap.push { cls := .type "tuple_iterator", data := .fields #[.ref t, .int 0 0] }).objs.size)))
      { s with heap := (s.heap.push { cls := .type "tuple_iterator", data := .fields #[.ref t, .int 0 0] }).push { cls := .type "enumerate", data := .fields #[.none, .bool false, .ref s.heap.objs.size, rawInt 0, .none, .none] } }) :=
  .of_wp fun prog w A R s want => by
    obtain ⟨heap, gens, drawn, toks, os⟩ := s
    obtain ⟨is_tuple, want⟩ := want
    have sub := sub_enumerate
    have iter : ∀ {B : Around} {E Q : Value → Shared → Prop}, Q (.ref heap.objs.size) ⟨heap.push { cls := .type "tuple_iterator", data := .fields #[.ref t, .int 0 0] }, gens, drawn, toks, os⟩ → wpAny (model prog w) B (pyIter (.ref t)) Q E ⟨heap, gens, drawn, toks, os⟩ :=
      fun q => (begins_tuple t xs).iter prog w _ _ ⟨heap, gens, drawn, toks, os⟩ _ is_tuple q
    obtain ⟨o, at_t, cls_t, n, dat⟩ := id is_tuple
    obtain ⟨oc, od, ot, os'⟩ := o
    cases (show oc = .type "tuple" from cls_t)
    cases (show ot = .seq xs n from dat)
    wp_walk using AutoSeq1.wpAny_loadPart' at_t
    refine (wpAny_stack_any fun _ => wpAny_pure ?_)
    split
    · rename_i c _ _ _ _ _
      cases (c == Value.type "enumerate") <;>
      · wp_walk using AutoSeq1.wpAny_loadPart' at_t, iter
        exact ⟨_, rfl, want⟩
    · wp_walk using AutoSeq1.wpAny_loadPart' at_t, iter
      exact ⟨_, rfl, want⟩
section
variable {prog : Program} {w : World} {A : Around} {E : Value → Shared → Prop} {s : Shared}
theorem made {t : Addr} {xs : Array Value} {Q : Value → Shared → Prop} (is_tuple : s.heap.IsTuple t xs)
    (want : ∀ h', IsEnum h' (s.heap.objs.size + 1) s.heap.objs.size 0 .none → h'.IsTupleIter s.heap.objs.size t 0 → (∀ b o, s.heap.get? b = some o → h'.get? b = some o) → Q (.ref (s.heap.objs.size + 1)) { s with heap := h' }) :
    wpAny (model prog w) A (call (.type "enumerate") [.ref t]) Q E s := by
  refine callType_new F.called_enumerate (by decide) (F.typeCall_enumerate_1 _) (F.newCall_enumerate_1 _) (fun obj => F.args_object_init_2 obj _) F.entry_enumerate_new made_by ⟨is_tuple, ?_⟩
  obtain ⟨it, hit⟩ : ∃ it : Obj, it = { cls := .type "tuple_iterator", data := .fields #[.ref t, .int 0 0] } := ⟨_, rfl⟩
  rw [← hit]
  have free : it.isFreed = false := by rw [hit]; rfl
  have size : (s.heap.push it).objs.size = s.heap.objs.size + 1 := Heap.size_push ..
  have e : IsEnum ((s.heap.push it).push { cls := .type "enumerate", data := .fields #[.none, .bool false, .ref s.heap.objs.size, rawInt 0, .none, .none] }) (s.heap.objs.size + 1) s.heap.objs.size 0 .none := by
    rw [← size]
    exact Heap.get?_push_size _ rfl
  have i : ((s.heap.push it).push { cls := .type "enumerate", data := .fields #[.none, .bool false, .ref s.heap.objs.size, rawInt 0, .none, .none] }).IsTupleIter s.heap.objs.size t 0 :=
    ⟨it, Heap.get?_push_of_some _ (Heap.get?_push_size _ free), by subst hit; rfl, by subst hit; rfl⟩
  rw [size]
  exact ⟨⟨_, e, rfl⟩, want _ e i fun b o q => Heap.get?_push_of_some _ (Heap.get?_push_of_some _ q)⟩
end
end EnumX
namespace L2
open PySem PySem.Spec PyProof.Rows
/-- the tuple at a, each item in a new pair behind its number -/
def IteT (K : PySem.W.Frag) (a : Addr) : It :=
  ⟨fun i H => ∃ (xs : List V) (x : V), SqT K H a xs ∧ xs[i]? = some x, fun i H v H' => ∃ T x, v = .ref T ∧ H T = none ∧ H' = upd H T (.tup [.int (i : Nat), x]) ∧ ∀ xs, SqT K H a xs → xs[i]? = some x, fun i H => ∃ xs : List V, SqT K H a xs ∧ xs.length = i⟩
theorem turn_enumT {P : Program} {w : World} {K : PySem.W.Frag} {elts : List Expr} {kk : Nat} {tpos : Pos} {a e it : Addr} (ae : a ≠ e) (ai : a ≠ it) (ei : e ≠ it) :
    Turn P w K (.Tuple elts kk tpos) (IteT K a) [e, it] e (fun i h => (∃ old, IsEnum h e it ((i : Nat) : Int) old) ∧ h.IsTupleIter it a i) where
  mem := List.mem_cons_self
  obj := by
    rintro i h ⟨⟨old, he⟩, o, ho, hc, hd⟩ b hb
    simp only [List.mem_cons, List.not_mem_nil, or_false] at hb
    rcases hb with rfl | rfl
    · exact ⟨_, he, fun v q => nomatch q⟩
    · exact ⟨o, ho, fun v q => by rw [hd] at q; cases q⟩
  keep := by
    rintro i h h' ⟨⟨old, he⟩, hi⟩ k
    exact ⟨⟨old, k e (by simp) _ he⟩, hi.at fun o q => k it (by simp) o q⟩
  item := by
    intro X hP hw hK hc i pins s σ H E I hf st hg
    cases hP
    cases hw
    cases hK
    obtain ⟨⟨old, he⟩, hit⟩ := st
    obtain ⟨xs, x, hq, hx⟩ := hg
    obtain ⟨its, rv, tup, hz⟩ := I.tuple hq
    obtain ⟨u, hu, ru⟩ := rv.get hx
    have le : e < s.heap.objs.size := Heap.lt_size he
    have li : it < s.heap.objs.size := by obtain ⟨_, q, _⟩ := hit; exact Heap.lt_size q
    have il : i < its.toArray.size := by
      have := (List.getElem?_eq_some_iff.mp hu).1
      rw [List.size_toArray]
      exact this
    have D := Draws.tuple (prog := X.prog) (w := X.w) (A := X.A.in1) (I.ok.hd hc) it a ai its.toArray
    refine wpAny_pyNext_enum_itemD D he ⟨hit, tup⟩ il ei (by simp [ei, ae.symm]) fun x' h' tk px out st' hT hsz hk => ?_
    have ex : x' = u := by
      have px : its.toArray[i]? = some x' := px
      rw [List.getElem?_toArray, hu] at px
      exact (Option.some.inj px).symm
    subst ex
    refine ⟨_, rfl, wpAny_letOwnedTupleGo_enum (s := { s with heap := h', toks := tk + 1 }) out fun h'' he' sb => ?_⟩
    have hT2 : h''.get? s.heap.objs.size = some { cls := .type "tuple", data := .seq #[.int i tk, x'] } := (sb.2 _ (Nat.ne_of_gt le)).trans hT
    have new : ObjOk X.prog X.w (upd H s.heap.objs.size (.tup [.int (i : Nat), x])) h'' s.heap.objs.size (.tup [.int (i : Nat), x]) :=
      ⟨by show 2 ≤ sizeLine; decide, [.int i tk, x'], .cons ⟨_, rfl⟩ (.cons ru .nil), ⟨_, hT2, rfl, _, rfl⟩⟩
    have I1 : Inv X pins σ (upd H s.heap.objs.size (.tup [.int (i : Nat), x])) { s with heap := h'', toks := tk + 1 } :=
      I.turnedNew (ch := [e, it]) (fun b ob hb q => (sb.2 b (fun z => hb (by simp [z]))).trans (hk b ob (fun z => hb (by simp [z])) (fun z => hb (by simp [z])) q)) hf (Nat.le_refl _) new
    refine ⟨.ref s.heap.objs.size, _, I1, rfl, ⟨_, x, rfl, I.hok.fresh (Nat.le_refl _), rfl, fun ys hy => by rw [I.tuple_inj hy hq]; exact hx⟩, ⟨⟨x', ?_⟩, st'.1.at fun o q => (sb.2 it (Ne.symm ei)).trans q⟩, fun b hb => ?_⟩
    · rw [show ((i + 1 : Nat) : Int) = (i : Int) + 1 by omega]
      exact he'
    · simp only [List.mem_cons, List.not_mem_nil, or_false] at hb
      rcases hb with rfl | rfl
      · rw [upd_ne (Nat.ne_of_lt le)]
        exact (hf _ (by simp)).1
      · rw [upd_ne (Nat.ne_of_lt li)]
        exact (hf _ (by simp)).1
  done := by
    intro X hP hw hK hc i pins s σ H E I hf st hg
    cases hP
    cases hw
    cases hK
    obtain ⟨⟨old, he⟩, hit⟩ := st
    obtain ⟨xs, hq, hx⟩ := hg
    obtain ⟨its, rv, tup, hz⟩ := I.tuple hq
    obtain ⟨f0, f1, f2, f3, f4, f5⟩ := hf it (by simp)
    have D := Draws.tuple (prog := X.prog) (w := X.w) (A := X.A.in1) (I.ok.hd hc) it a ai its.toArray
    have len : its.toArray.size = i := by rw [List.size_toArray, ← rv.length, hx]
    refine wpAny_pyNext_enum_endD D he (by rw [len]; exact ⟨hit, tup⟩) fun h' eb => ⟨rfl, I.turned (t' := s.toks) (fun b o hb q => eb b o hb q) f0 f1 f3 f4 f5⟩
  self := by
    rintro A i s Q E ⟨⟨_, he⟩, _⟩ h
    exact wpAny_pyIter_enum he h
def iEnumT (K : PySem.W.Frag) (ta : TA) : TI := fun σ H R => ta σ H fun vs H1 => ∃ a xs, vs = [.ref a] ∧ SqT K H1 a xs ∧ R (IteT K a) H1
theorem pi_enumT {X : Cx} {e : Expr} {ta : TA} {p pos tpos : Pos} {elts : List Expr} {kk : Nat} (hg : Gl X "enumerate") (hm : X.mg "enumerate" = none) (ha : PA X [e] ta) (hs : starEach [e] X.env = [(false, eval e X.env)] := by rfl) :
    PI X (.Tuple elts kk tpos) (.Call (.Name "enumerate" p) [e] [] pos) (iEnumT X.K ta) := by
  refine ⟨fun pins s σ H R I h => ?_⟩
  refine Call_ (ld_blt I hg hm boot_enumerate (PyProof.Rows.callWith_type1 (thn (ha.run pos pins s σ H _ I h) ?_) hs rfl))
  rintro us s1 ⟨vs, H1, I1, r1, a, xs, rfl, hq, q⟩
  obtain ⟨u, rfl, ru⟩ := r1.one
  cases ru
  obtain ⟨its, rv, tup, hz⟩ := I1.tuple hq
  have la : a < s1.heap.objs.size := by obtain ⟨_, e, _⟩ := tup; exact Heap.lt_size e
  refine EnumX.made tup fun h' he hit hk => wpAny_pyIter_enum he ?_
  have I2 : Inv X pins σ H1 { s1 with heap := h' } := I1.kept (t' := s1.toks) hk
  refine ⟨s1.heap.objs.size + 1, [s1.heap.objs.size + 1, s1.heap.objs.size], _, _, H1, rfl, I2, turn_enumT (Nat.ne_of_lt (Nat.lt_succ_of_lt la)) (Nat.ne_of_lt la) (Nat.succ_ne_self _), ⟨⟨.none, he⟩, hit⟩, fun b hb => ?_, q⟩
  have low : s1.heap.objs.size ≤ b := by
    simp only [List.mem_cons, List.not_mem_nil, or_false] at hb
    rcases hb with rfl | rfl
    · exact Nat.le_succ _
    · exact Nat.le_refl _
  exact I1.fpOk low (I1.hok.fresh low)
/-- the walk over a numbered tuple -/
theorem walk_enumT {K : PySem.W.Frag} {a : Addr} {xs : List V} : Walk (IteT K a) xs.length (fun H => SqT K H a xs) (YPair (fun i => some (.int (i : Nat))) (fun i => xs[i]?)) where
  goes := fun i H hi h => ⟨xs, xs[i], h, List.getElem?_eq_getElem hi⟩
  stops := fun H h => ⟨xs, h, rfl⟩
  yields := by
    rintro i H x H' hi h ⟨T, y, rfl, h1, h2, h3⟩
    exact ⟨T, _, y, rfl, h1, h2, rfl, h3 xs h⟩
end L2
/-! t[lo:hi] of a tuple, the whole of it too: one question for both. -/
namespace L2
open PySem PySem.Spec PyProof.Rows
def rSlTA (K : PySem.W.Frag) : V → Option Int → Option Int → Hp → VK → Prop := fun x lo hi H Q => ∃ a xs, x = .ref a ∧ SqT K H a xs ∧ ∀ p H', Same H H' → SqT K H' p (cutV xs lo hi) → Q (.ref p) H'
theorem sl_tupW {X : Cx} : SlR X (rSlTA X.K) := by
  intro pins s σ H x v vl vu lo hi sl Q I rx hs pl pu h
  obtain ⟨a, xs, rfl, hx, q⟩ := h
  refine sl_tupA pins s σ H (.ref a) v vl vu lo hi sl Q I rx hs pl pu ⟨a, xs, rfl, hx, fun w => ?_, fun w p hp => q p _ (Same.new hp) (.of upd_same)⟩
  refine q a H (Same.refl H) ?_
  have e : cutV xs lo hi = xs := by
    unfold cutV
    rw [w.1, w.2, List.drop_zero, Nat.sub_zero, List.take_of_length_le (Nat.le_refl _)]
  rw [e]
  exact hx
/-- t + u of tuples: one question for all -/
def rCatW (K : PySem.W.Frag) : R2 := fun x y H Q => ∃ a b xs ys, x = .ref a ∧ y = .ref b ∧ SqT K H a xs ∧ SqT K H b ys ∧ xs.length + ys.length ≤ sizeLine ∧ ∀ p H', Same H H' → SqT K H' p (xs ++ ys) → Q (.ref p) H'
theorem op_catW {X : Cx} : OpR X (binaryOp .Add) (rCatW X.K) := by
  intro pins s σ H x y v u Q I rx ry h
  obtain ⟨a, b, xs, ys, rfl, rfl, ha, hb, hz, q⟩ := h
  refine op_catA pins s σ H (.ref a) (.ref b) v u Q I rx ry ⟨a, b, xs, ys, rfl, rfl, ha, hb, hz, fun e => ?_, fun _ e => ?_, fun _ _ p hp => q p _ (Same.new hp) (.of upd_same)⟩
  · refine q b H (Same.refl H) ?_
    rw [e, List.nil_append]
    exact hb
  · refine q a H (Same.refl H) ?_
    rw [e, List.append_nil]
    exact ha
/-- a statement, then the rest by an invariant -/
theorem seq_by {t1 t2 : TS} {D : Ends} {σ : L2.St} {H : Hp} (I : L2.St → Hp → Prop) (h1 : ∀ N : L2.St → Hp → Prop, (∀ σ' H', I σ' H' → N σ' H') → t1 { D with nx := N } σ H) (h2 : ∀ σ' H', I σ' H' → t2 D σ' H') : tSeq t1 t2 D σ H := h1 _ h2
theorem asg_by {te : TE} {i : Nat} {t2 : TS} {D : Ends} {σ : L2.St} {H : Hp} (I : V → Hp → Prop) (h1 : ∀ Q : VK, (∀ v H', I v H' → Q v H') → te σ H Q) (h2 : ∀ v H', I v H' → t2 D (σ.set i (some v)) H') : tSeq (tAsg te (gName i)) t2 D σ H := h1 _ h2
theorem But.toSame {S : Addr → Prop} {H H1 H' : Hp} (k : But S H1 H') (s : Same H H1) (h : ∀ a, S a → H a = none) : Same H H' := fun a o e => k a o (fun z => by rw [h a z] at e; cases e) (s a o e)
end L2
/-! Data that repr shows without more: numbers below 10^38, texts, tuples, lists of these. And a walk over zip of two tuples. -/
namespace L2
open PySem PySem.Spec PyProof.Rows
mutual
def tidy : PyData → Bool
  | .none => true
  | .bool _ => true
  | .int i => decide (i.natAbs < 10 ^ 38)
  | .str w => PyData.strOk w
  | .tuple ds => tidyAll ds
  | .list ds => tidyAll ds
  | .dict _ => false
def tidyAll : List PyData → Bool
  | [] => true
  | d :: ds => tidy d && tidyAll ds
end
theorem tidy_int {i : Int} (h : i.natAbs < 10 ^ 38) : (PyData.int i).showable = true ∧ (PyData.int i).intsShort 40 = true := by
  constructor
  · simp only [PyData.showable]
    refine decide_eq_true ?_
    by_cases z : i.natAbs = 0
    · rw [z]
      decide
    · exact (Nat.log2_lt z).mpr (Nat.lt_of_lt_of_le h (by decide))
  · simp only [PyData.intsShort]
    refine decide_eq_true ?_
    have e := int_text_length_le10 (a := i) (k := 38) (by decide) h
    rw [PyData.shown_int]
    have : ((toString i : String) : Str).length = (toString i).length := PySem.ofString_length _
    omega
mutual
theorem tidy_ok : ∀ d : PyData, tidy d = true → d.canLay0 = true ∧ d.showable = true ∧ d.hasDict = false ∧ d.intsShort 40 = true
  | .none, _ => ⟨rfl, rfl, rfl, rfl⟩
  | .bool _, _ => ⟨rfl, rfl, rfl, rfl⟩
  | .int i, h => by
    simp only [tidy, decide_eq_true_eq] at h
    exact ⟨rfl, (tidy_int h).1, rfl, (tidy_int h).2⟩
  | .str w, h => by
    simp only [tidy] at h
    exact ⟨h, rfl, rfl, rfl⟩
  | .tuple ds, h => by
    simp only [tidy] at h
    have z := tidyAll_ok ds h
    refine ⟨?_, ?_, ?_, ?_⟩
    · simp only [PyData.canLay0]; exact z.1
    · simp only [PyData.showable]; exact z.2.1
    · simp only [PyData.hasDict]; exact z.2.2.1
    · simp only [PyData.intsShort]; exact z.2.2.2
  | .list ds, h => by
    simp only [tidy] at h
    have z := tidyAll_ok ds h
    refine ⟨?_, ?_, ?_, ?_⟩
    · simp only [PyData.canLay0]; exact z.1
    · simp only [PyData.showable]; exact z.2.1
    · simp only [PyData.hasDict]; exact z.2.2.1
    · simp only [PyData.intsShort]; exact z.2.2.2
  | .dict _, h => by simp [tidy] at h
theorem tidyAll_ok : ∀ ds : List PyData, tidyAll ds = true → PyData.canLayAll0 ds = true ∧ PyData.showableAll ds = true ∧ PyData.hasDictAll ds = false ∧ PyData.intsShortAll 40 ds = true
  | [], _ => ⟨rfl, rfl, rfl, rfl⟩
  | d :: ds, h => by
    simp only [tidyAll, Bool.and_eq_true] at h
    have a := tidy_ok d h.1
    have b := tidyAll_ok ds h.2
    refine ⟨?_, ?_, ?_, ?_⟩
    · simp only [PyData.canLayAll0, a.1, b.1]; rfl
    · simp only [PyData.showableAll, a.2.1, b.2.1]; rfl
    · simp only [PyData.hasDictAll, a.2.2.1, b.2.2.1]; rfl
    · simp only [PyData.intsShortAll, a.2.2.2, b.2.2.2]; rfl
end
theorem tidyAll_map {α : Type} {f : α → PyData} : ∀ {l : List α}, (∀ a ∈ l, tidy (f a) = true) → tidyAll (l.map f) = true
  | [], _ => by simp [tidyAll]
  | a :: l, h => by
    simp only [List.map_cons, tidyAll, Bool.and_eq_true]
    exact ⟨h a List.mem_cons_self, tidyAll_map fun b hb => h b (List.mem_cons_of_mem _ hb)⟩
theorem tidyAll_of : ∀ {l : List PyData}, (∀ a ∈ l, tidy a = true) → tidyAll l = true
  | [], _ => by simp [tidyAll]
  | a :: l, h => by
    simp only [tidyAll, Bool.and_eq_true]
    exact ⟨h a List.mem_cons_self, tidyAll_of fun b hb => h b (List.mem_cons_of_mem _ hb)⟩
theorem bulk_map {α : Type} {f : α → PyData} {n : Nat} : ∀ {l : List α}, (∀ a ∈ l, (f a).bulk ≤ n) → PyData.bulkAll (l.map f) ≤ l.length * (n + 1)
  | [], _ => by simp [PyData.bulkAll]
  | a :: l, h => by
    have h1 := h a List.mem_cons_self
    have h2 := bulk_map fun b hb => h b (List.mem_cons_of_mem _ hb)
    simp only [List.map_cons, PyData.bulkAll, List.length_cons, Nat.add_mul, Nat.one_mul]
    omega
theorem depth_map {α : Type} {f : α → PyData} {n : Nat} : ∀ {l : List α}, (∀ a ∈ l, (f a).depth ≤ n) → PyData.depthAll (l.map f) ≤ n
  | [], _ => by simp [PyData.depthAll]
  | a :: l, h => by
    have h1 := h a List.mem_cons_self
    have h2 := depth_map fun b hb => h b (List.mem_cons_of_mem _ hb)
    simp only [List.map_cons, PyData.depthAll]
    omega
theorem shown_short {d : PyData} (h : tidy d = true) (hb : d.bulk ≤ 300000) : d.shown.length ≤ sizeLine := by
  have z := tidy_ok d h
  have lv := PyData.leavesShort_of_canLay0 40 _ z.1 z.2.2.2
  have le := PyData.shown_le_bulk 40 (by decide) d lv
  have : sizeLine = 16777216 := by decide
  omega
theorem rep_of {K : PySem.W.Frag} {H : Hp} {v : V} {d : PyData} {Q : VK} (h : Dp K H v d) (t : tidy d = true) (b : d.bulk ≤ 300000) (p : d.depth ≤ 60) (q : Q (.str d.shown) H) : rReprV K [v] H Q :=
  ⟨v, d, rfl, .inl h, (tidy_ok d t).2.1, .inr (tidy_ok d t).2.2.1, shown_short t b, p, q⟩
theorem shaped_of {d : PyData} (h : tidy d = true) (p : d.depth ≤ 60) : SeqAt.shaped d = true :=
  Bool.and_eq_true_iff.mpr ⟨(tidy_ok d h).1, decide_eq_true (by omega)⟩
open RZ in
theorem walk_zipT {K : PySem.W.Frag} {a b : Addr} {xs ys : List V} {n : Nat} (hx : xs.length = n) (hy : ys.length = n) : Walk (ItzT K a b) n (fun H => SqT K H a xs ∧ SqT K H b ys) (YPair (fun i => xs[i]?) (fun i => ys[i]?)) where
  goes := fun i H hi h => ⟨xs, ys, xs[i]'(by omega), ys[i]'(by omega), h.1, h.2, List.getElem?_eq_getElem _, List.getElem?_eq_getElem _⟩
  stops := fun H h => ⟨xs, ys, h.1, h.2, .inl (by omega)⟩
  yields := fun i H x H' hi h y => by
    obtain ⟨T, x', y', rfl, hT, rfl, f1, f2⟩ := y
    exact ⟨T, x', y', rfl, hT, rfl, f1 xs h.1, f2 ys h.2⟩
end L2
/-! k71, the plain law: lists of points and keys, bounds, sums; a list that goes on so that a key has its bound. -/
namespace K71
/-- one pair stands ahead of another one -/
def Bef (a b : Int × Int) : Prop := b.1 < a.1 ∨ (a.1 = b.1 ∧ a.2 < b.2)
theorem Bef.trans {a b c : Int × Int} (h : Bef a b) (k : Bef b c) : Bef a c := by
  unfold Bef at *
  omega
abbrev Row := List (Int × Int)
structure RowOk (r : Row) : Prop where
  len : r.length ≤ 40
  pts : ∀ q ∈ r, 1 ≤ q.1 ∧ q.1 ≤ 999
  key : ∀ q ∈ r, 1 ≤ q.2 ∧ q.2 ≤ 999
  nod : (r.map (·.2)).Nodup
  asc : r.Pairwise Bef
/-- the points of a key among the first d pairs -/
def rd (r : Row) (d : Nat) (k : Int) : List Int := ((r.take d).filter fun q => decide (q.2 = k)).map (·.1)
def bound (r : Row) (d : Nat) (k : Int) : Int := if d = r.length then 0 else match r[d - 1]? with
  | none => 999
  | some q => if d = 0 then 999 else if q.2 < k then q.1 else q.1 - 1
def low1 (r : Row) (d : Nat) (k : Int) : Int := (rd r d k).sum
def top1 (r : Row) (d : Nat) (k : Int) : Int := match rd r d k with
  | [] => bound r d k
  | x :: _ => x
theorem filter_one : ∀ {r : Row} (k : Int), (r.map (·.2)).Nodup → (r.filter fun q => decide (q.2 = k)) = [] ∨ ∃ q, (r.filter fun q => decide (q.2 = k)) = [q] ∧ q ∈ r ∧ q.2 = k
  | [], k, _ => .inl rfl
  | a :: r, k, h => by
    rw [List.map_cons, List.nodup_cons] at h
    by_cases hk : a.2 = k
    · right
      have e : (r.filter fun q => decide (q.2 = k)) = [] := by
        rw [List.filter_eq_nil_iff]
        intro q hq z
        have z := of_decide_eq_true z
        exact h.1 (by rw [hk, ← z]; exact List.mem_map_of_mem hq)
      exact ⟨a, by simp [List.filter_cons, hk, e], List.mem_cons_self, hk⟩
    · have e : ((a :: r).filter fun q => decide (q.2 = k)) = r.filter fun q => decide (q.2 = k) := by simp [List.filter_cons, hk]
      rw [e]
      rcases filter_one k h.2 with z | ⟨q, z1, z2, z3⟩
      · exact .inl z
      · exact .inr ⟨q, z1, List.mem_cons_of_mem _ z2, z3⟩
theorem RowOk.take {r : Row} (h : RowOk r) (d : Nat) : RowOk (r.take d) :=
  ⟨Nat.le_trans (List.length_take_le' _ _) h.len, fun q hq => h.pts q (List.mem_of_mem_take hq), fun q hq => h.key q (List.mem_of_mem_take hq), by
    rw [List.map_take]; exact h.nod.sublist (List.take_sublist _ _), h.asc.sublist (List.take_sublist _ _)⟩
theorem rd_cases {r : Row} (h : RowOk r) (d : Nat) (k : Int) : rd r d k = [] ∨ ∃ q, rd r d k = [q.1] ∧ q ∈ r.take d ∧ q.2 = k := by
  rcases filter_one k (h.take d).nod with z | ⟨q, z1, z2, z3⟩
  · exact .inl (by unfold rd; rw [z]; rfl)
  · exact .inr ⟨q, by unfold rd; rw [z1]; rfl, z2, z3⟩
theorem rd_next {r : Row} {d : Nat} {q : Int × Int} (hq : r[d]? = some q) (k : Int) : rd r (d + 1) k = rd r d k ++ (if q.2 = k then [q.1] else []) := by
  unfold rd
  rw [List.take_add_one, hq, List.filter_append, List.map_append]
  congr 1
  by_cases h : q.2 = k <;> simp [h]
theorem pair_le {r : Row} (h : RowOk r) {i j : Nat} {p q : Int × Int} (hi : r[i]? = some p) (hj : r[j]? = some q) (hij : i < j) : Bef p q := by
  obtain ⟨h1, e1⟩ := List.getElem?_eq_some_iff.mp hi
  obtain ⟨h2, e2⟩ := List.getElem?_eq_some_iff.mp hj
  have z := List.pairwise_iff_getElem.mp h.asc i j h1 h2 hij
  rw [e1, e2] at z
  exact z
/-- the bound is not below what comes -/
theorem bound_next {r : Row} (h : RowOk r) {d : Nat} {q : Int × Int} (hq : r[d]? = some q) (k : Int) : (q.2 = k → q.1 ≤ bound r d k) ∧ bound r (d + 1) k ≤ bound r d k ∧ 0 ≤ bound r d k := by
  have hd := (List.getElem?_eq_some_iff.mp hq).1
  have hm := List.mem_of_getElem? hq
  have p1 := h.pts q hm
  have e1 : bound r (d + 1) k = if d + 1 = r.length then 0 else if q.2 < k then q.1 else q.1 - 1 := by
    unfold bound
    rw [show d + 1 - 1 = d by omega, hq]
    simp
  rw [e1]
  cases d with
  | zero =>
    have e0 : bound r 0 k = 999 := by
      unfold bound
      rw [if_neg (by omega)]
      cases r[0 - 1]? <;> simp
    rw [e0]
    refine ⟨fun _ => by omega, ?_, by omega⟩
    split
    · omega
    · split <;> omega
  | succ d =>
    obtain ⟨p, hp⟩ : ∃ p, r[d]? = some p := ⟨_, List.getElem?_eq_getElem (by omega)⟩
    have b := pair_le h hp hq (Nat.lt_succ_self d)
    have pm := h.pts p (List.mem_of_getElem? hp)
    have e0 : bound r (d + 1) k = if p.2 < k then p.1 else p.1 - 1 := by
      unfold bound
      rw [if_neg (by omega), show d + 1 - 1 = d by omega, hp]
      simp
    rw [e0]
    unfold Bef at b
    refine ⟨fun e => ?_, ?_, ?_⟩
    · split <;> omega
    · split
      · split <;> omega
      · split <;> split <;> omega
    · split <;> omega
theorem step1 {r : Row} (h : RowOk r) {d : Nat} (hd : d < r.length) (k : Int) : low1 r d k ≤ low1 r (d + 1) k ∧ top1 r (d + 1) k ≤ top1 r d k := by
  obtain ⟨q, hq⟩ : ∃ q, r[d]? = some q := ⟨_, List.getElem?_eq_getElem hd⟩
  obtain ⟨b1, b2, b3⟩ := bound_next h hq k
  have p1 := h.pts q (List.mem_of_getElem? hq)
  have hn := rd_next hq k
  unfold low1 top1
  rcases rd_cases h (d + 1) k with z | ⟨x, z, _, _⟩
  · rw [z] at hn
    have : rd r d k = [] := by
      cases e : rd r d k with
      | nil => rfl
      | cons a t => rw [e] at hn; cases hn
    rw [z, this]
    exact ⟨Int.le_refl _, b2⟩
  · rcases rd_cases h d k with w | ⟨y, w, _, _⟩
    · rw [w, z] at hn
      rw [w, z]
      by_cases hk : q.2 = k
      · rw [if_pos hk, List.nil_append] at hn
        injection hn with hn
        rw [hn]
        exact ⟨by simp; omega, b1 hk⟩
      · rw [if_neg hk] at hn
        cases hn
    · rw [w, z] at hn
      rw [w, z]
      injection hn with hn _
      rw [hn]
      exact ⟨Int.le_refl _, Int.le_refl _⟩
theorem top_end {r : Row} (h : RowOk r) (k : Int) : top1 r r.length k = low1 r r.length k := by
  unfold top1 low1
  rcases rd_cases h r.length k with z | ⟨x, z, _, _⟩
  · rw [z]
    show bound r r.length k = 0
    unfold bound
    rw [if_pos rfl]
  · rw [z]
    simp
theorem total1 {r : Row} (h : RowOk r) (k : Int) : ∀ (m d : Nat), d + m = r.length → low1 r d k ≤ low1 r r.length k ∧ low1 r r.length k ≤ top1 r d k := by
  intro m
  induction m with
  | zero =>
    intro d hd
    have e : d = r.length := by omega
    rw [e, top_end h]
    exact ⟨Int.le_refl _, Int.le_refl _⟩
  | succ m ih =>
    intro d hd
    obtain ⟨a, b⟩ := ih (d + 1) (by omega)
    obtain ⟨c, e⟩ := step1 h (d := d) (by omega) k
    exact ⟨Int.le_trans c a, Int.le_trans b e⟩
/-! ### a list that goes on with a key at its bound -/
theorem hole : ∀ (n : Nat) (t o : Int) (l : List Int), t - o = n → (∀ z, o < z → z ≤ t → z ∈ l) → n ≤ l.length
  | 0, _, _, _, _, _ => Nat.zero_le _
  | n + 1, t, o, l, h, f => by
    have ht : t ∈ l := f t (by omega) (Int.le_refl _)
    have z := hole n (t - 1) o (l.erase t) (by omega) fun z h1 h2 => (List.mem_erase_of_ne (by omega)).mpr (f z h1 (by omega))
    rw [List.length_erase_of_mem ht] at z
    have := List.length_pos_of_mem ht
    omega
structure Goes (r : Row) (d : Nat) (k : Int) (i : Nat) (F : Row) (other points : Int) : Prop where
  len : F.length = d + 1 + i
  nod : (F.map (·.2)).Nodup
  asc : F.Pairwise Bef
  low : ∀ q ∈ F, points ≤ q.1 ∧ q.1 ≤ 999
  key : ∀ q ∈ F, 1 ≤ q.2 ∧ q.2 ≤ 999
  gap : ∀ z, other < z → z ≤ 999 → z ∈ F.map (·.2)
  oth : other ≤ 999
  one : F.filter (fun q => decide (q.2 = k)) = [(bound r d k, k)]
  top : points ≤ bound r d k
theorem bef_bound {r : Row} (h : RowOk r) {d : Nat} (hd : d < r.length) (k : Int) : (∀ q ∈ r.take d, Bef q (bound r d k, k)) ∧ bound r d k ≤ 999 ∧ ∀ q ∈ r.take d, bound r d k ≤ q.1 := by
  cases d with
  | zero =>
    have e0 : bound r 0 k = 999 := by
      unfold bound
      rw [if_neg (by omega)]
      cases r[0 - 1]? <;> simp
    rw [e0]
    exact ⟨fun q hq => by simp at hq, Int.le_refl _, fun q hq => by simp at hq⟩
  | succ d =>
    obtain ⟨p, hp⟩ : ∃ p, r[d]? = some p := ⟨_, List.getElem?_eq_getElem (by omega)⟩
    have pm := h.pts p (List.mem_of_getElem? hp)
    have e0 : bound r (d + 1) k = if p.2 < k then p.1 else p.1 - 1 := by
      unfold bound
      rw [if_neg (by omega), show d + 1 - 1 = d by omega, hp]
      simp
    have last : Bef p (bound r (d + 1) k, k) := by
      rw [e0]
      unfold Bef
      dsimp only
      split <;> omega
    have all : ∀ q ∈ r.take (d + 1), q = p ∨ Bef q p := by
      intro q hq
      obtain ⟨i, hi⟩ := List.getElem?_of_mem hq
      have hil : i < d + 1 := by
        have := (List.getElem?_eq_some_iff.mp hi).1
        rw [List.length_take] at this
        omega
      rw [List.getElem?_take_of_lt hil] at hi
      by_cases e : i = d
      · left
        rw [e, hp] at hi
        exact (Option.some.inj hi).symm
      · exact .inr (pair_le h hi hp (by omega))
    refine ⟨fun q hq => ?_, ?_, fun q hq => ?_⟩
    · rcases all q hq with rfl | b
      · exact last
      · exact b.trans last
    · rw [e0]
      split <;> omega
    · rw [e0]
      rcases all q hq with rfl | b
      · split <;> omega
      · unfold Bef at b
        split <;> omega
theorem goes_start {r : Row} (h : RowOk r) {d : Nat} (hd : d < r.length) {k : Int} (hk : 1 ≤ k ∧ k ≤ 999) (hn : k ∉ (r.take d).map (·.2)) : Goes r d k 0 (r.take d ++ [(bound r d k, k)]) 999 (bound r d k) := by
  obtain ⟨b1, b2, b3⟩ := bef_bound h hd k
  have t := h.take d
  refine ⟨?_, ?_, ?_, ?_, ?_, fun z h1 h2 => by omega, Int.le_refl _, ?_, Int.le_refl _⟩
  · rw [List.length_append, List.length_take]
    show min d r.length + 1 = d + 1 + 0
    omega
  · rw [List.map_append, List.nodup_append]
    refine ⟨t.nod, by simp, fun a ha b hb => ?_⟩
    simp at hb
    rw [hb]
    exact fun e => hn (e ▸ ha)
  · rw [List.pairwise_append]
    refine ⟨t.asc, List.pairwise_singleton _ _, fun a ha b hb => ?_⟩
    rw [List.mem_singleton] at hb
    rw [hb]
    exact b1 a ha
  · intro q hq
    rcases List.mem_append.mp hq with hq | hq
    · exact ⟨b3 q hq, (t.pts q hq).2⟩
    · rw [List.mem_singleton] at hq
      rw [hq]
      exact ⟨Int.le_refl _, b2⟩
  · intro q hq
    rcases List.mem_append.mp hq with hq | hq
    · exact t.key q hq
    · rw [List.mem_singleton] at hq
      rw [hq]
      exact hk
  · rw [List.filter_append]
    have e : (r.take d).filter (fun q => decide (q.2 = k)) = [] := by
      rw [List.filter_eq_nil_iff]
      intro q hq z
      exact hn (by rw [← of_decide_eq_true z]; exact List.mem_map_of_mem hq)
    rw [e]
    simp
theorem goes_skip {r : Row} {d i : Nat} {k other points : Int} {F : Row} (h : Goes r d k i F other points) (ho : other ∈ F.map (·.2)) : Goes r d k i F (other - 1) points :=
  ⟨h.len, h.nod, h.asc, h.low, h.key, fun z h1 h2 => by
    by_cases e : z = other
    · rw [e]; exact ho
    · exact h.gap z (by omega) h2, by have := h.oth; omega, h.one, h.top⟩
theorem goes_pos {r : Row} {d i : Nat} {k other points : Int} {F : Row} (h : Goes r d k i F other points) (hl : F.length ≤ 40) : 900 ≤ other := by
  have z := hole (999 - other).toNat 999 other (F.map (·.2)) (by have := h.oth; omega) h.gap
  rw [List.length_map] at z
  omega
theorem goes_step {r : Row} {d i : Nat} {k other points : Int} {F : Row} (h : Goes r d k i F other points) (ho : other ∉ F.map (·.2)) (hl : F.length ≤ 40) : Goes r d k (i + 1) (F ++ [(points - 1, other)]) other (points - 1) := by
  have hp := goes_pos h hl
  have hk : k ∈ F.map (·.2) := by
    have : (bound r d k, k) ∈ F.filter (fun q => decide (q.2 = k)) := by rw [h.one]; exact List.mem_singleton.mpr rfl
    exact List.mem_map.mpr ⟨_, (List.mem_filter.mp this).1, rfl⟩
  have hok : ¬ other = k := fun e => ho (e ▸ hk)
  refine ⟨?_, ?_, ?_, ?_, ?_, fun z h1 h2 => ?_, h.oth, ?_, by have := h.top; omega⟩
  · rw [List.length_append, h.len]
    rfl
  · rw [List.map_append, List.nodup_append]
    refine ⟨h.nod, by simp, fun a ha b hb => ?_⟩
    simp at hb
    rw [hb]
    exact fun e => ho (e ▸ ha)
  · rw [List.pairwise_append]
    refine ⟨h.asc, List.pairwise_singleton _ _, fun a ha b hb => ?_⟩
    rw [List.mem_singleton] at hb
    rw [hb]
    left
    have := (h.low a ha).1
    show points - 1 < a.1
    omega
  · intro q hq
    rcases List.mem_append.mp hq with hq | hq
    · have := h.low q hq
      omega
    · rw [List.mem_singleton] at hq
      rw [hq]
      have := (h.low (bound r d k, k) ?_).2
      · have := h.top
        show points - 1 ≤ points - 1 ∧ points - 1 ≤ 999
        dsimp only at *
        omega
      · have : (bound r d k, k) ∈ F.filter (fun q => decide (q.2 = k)) := by rw [h.one]; exact List.mem_singleton.mpr rfl
        exact (List.mem_filter.mp this).1
  · intro q hq
    rcases List.mem_append.mp hq with hq | hq
    · exact h.key q hq
    · rw [List.mem_singleton] at hq
      rw [hq]
      have := h.oth
      show 1 ≤ other ∧ other ≤ 999
      omega
  · rw [List.map_append]
    exact List.mem_append_left _ (h.gap z h1 h2)
  · rw [List.filter_append, h.one]
    simp [hok]
/-- what the list that goes on is good for -/
structure Topped (r : Row) (d : Nat) (k : Int) (t : Row) : Prop where
  ok : RowOk t
  len : t.length = r.length
  sum : low1 t t.length k = top1 r d k ∧ top1 t t.length k = top1 r d k
theorem goes_end {r : Row} (h : RowOk r) {d i : Nat} (hd : d + 1 + i = r.length) {k other points : Int} {F : Row} (hn : k ∉ (r.take d).map (·.2)) (g : Goes r d k i F other points) (hp : 0 < points) : Topped r d k F := by
  have ok : RowOk F := ⟨by rw [g.len, hd]; exact h.len, fun q hq => by have := g.low q hq; omega, g.key, g.nod, g.asc⟩
  have e : rd F F.length k = [bound r d k] := by
    unfold rd
    rw [List.take_length, g.one]
    rfl
  have e2 : rd r d k = [] := by
    unfold rd
    have e : (r.take d).filter (fun q => decide (q.2 = k)) = [] := by
      rw [List.filter_eq_nil_iff]
      intro q hq z
      exact hn (by rw [← of_decide_eq_true z]; exact List.mem_map_of_mem hq)
    rw [e]
    rfl
  refine ⟨ok, by rw [g.len, hd], ?_, ?_⟩
  · unfold low1 top1
    rw [e, e2]
    simp
  · unfold top1
    rw [e, e2]
theorem topped_self {r : Row} (h : RowOk r) {d : Nat} (hd : d ≤ r.length) {k : Int} (hk : d = r.length ∨ k ∈ (r.take d).map (·.2)) : Topped r d k r := by
  refine ⟨h, rfl, ?_⟩
  rw [top_end h]
  have goal : low1 r r.length k = top1 r d k := by
    rcases hk with rfl | hk
    · exact (top_end h k).symm
    · obtain ⟨q, hq, e⟩ := List.mem_map.mp hk
      have inn : q ∈ (r.take d).filter (fun q => decide (q.2 = k)) := List.mem_filter.mpr ⟨hq, decide_eq_true e⟩
      have t1 : ∃ x, rd r d k = [x] := by
        rcases rd_cases h d k with z | ⟨x, z, _, _⟩
        · unfold rd at z
          rw [List.map_eq_nil_iff] at z
          rw [z] at inn
          cases inn
        · exact ⟨_, z⟩
      obtain ⟨x, t1⟩ := t1
      have pre : ∃ w, rd r r.length k = rd r d k ++ w := by
        unfold rd
        rw [List.take_length]
        refine ⟨((r.drop d).filter fun q => decide (q.2 = k)).map (·.1), ?_⟩
        rw [← List.map_append, ← List.filter_append, List.take_append_drop]
      obtain ⟨w, pre⟩ := pre
      rw [t1] at pre
      rcases rd_cases h r.length k with z | ⟨y, z, _, _⟩
      · rw [z] at pre; cases pre
      · unfold low1 top1
        rw [z] at pre ⊢
        rw [t1]
        injection pre with p1 p2
        rw [p1]
        simp
  exact ⟨goal, goal⟩
end K71
/-! k71, the plain law: a drawn table, the row that is made of it, the row sorted. -/
namespace K71
open PySem PySem.Spec PyProof.Rows L2
structure Tbl (t : Row) (n : Nat) : Prop where
  len : t.length ≤ n
  pts : ∀ q ∈ t, 1 ≤ q.1 ∧ q.1 ≤ 999
  key : ∀ q ∈ t, 0 ≤ q.2 ∧ q.2 ≤ 999
  nod : (t.map (·.2)).Nodup
/-- a dict of whole numbers -/
def dz (r : Row) : List (Key × V) := r.map fun q => (Sum.inl q.2, V.int q.1)
theorem dz_in (k : Int) : ∀ r : Row, (valV (dz r) (Sum.inl k)).isSome = decide (k ∈ r.map (·.2))
  | [] => rfl
  | q :: r => by
    have ih := dz_in k r
    by_cases h : q.2 = k
    · have e : valV (dz (q :: r)) (Sum.inl k) = some (V.int q.1) := valV_pos (p := (Sum.inl q.2, V.int q.1)) (by rw [h])
      rw [e]
      simp [h]
    · have e : valV (dz (q :: r)) (Sum.inl k) = valV (dz r) (Sum.inl k) := by
        exact valV_neg (p := (Sum.inl q.2, V.int q.1)) fun z => h (Sum.inl.inj z)
      rw [e, ih]
      have h' : ¬ k = q.2 := fun z => h z.symm
      simp [h']
theorem dz_get {q : Int × Int} : ∀ {r : Row}, (r.map (·.2)).Nodup → q ∈ r → valV (dz r) (Sum.inl q.2) = some (V.int q.1)
  | [], _, h => by cases h
  | a :: r, n, h => by
    rw [List.map_cons, List.nodup_cons] at n
    rcases List.mem_cons.mp h with rfl | h
    · exact valV_pos (p := (Sum.inl q.2, V.int q.1)) rfl
    · have ne : ¬ a.2 = q.2 := fun z => n.1 (by rw [z]; exact List.mem_map_of_mem h)
      have e : valV (dz (a :: r)) (Sum.inl q.2) = valV (dz r) (Sum.inl q.2) := by
        exact valV_neg (p := (Sum.inl a.2, V.int a.1)) fun z => ne (Sum.inl.inj z)
      rw [e]
      exact dz_get n.2 h
theorem tbl_put {t : Row} {n : Nat} {k v : Int} (h : Tbl t n) (k0 : 0 ≤ k) (k9 : k ≤ 999) (v1 : 1 ≤ v) (v9 : v ≤ 999) : ∃ t', putK (dz t) (Sum.inl k) (V.int v) = dz t' ∧ Tbl t' (n + 1) := by
  have e0 : ((dz t).any fun kv => decide (kv.1 = Sum.inl k)) = decide (k ∈ t.map (·.2)) := by rw [valV_any, dz_in]
  unfold putK
  rw [e0]
  by_cases c : k ∈ t.map (·.2)
  · rw [decide_eq_true c, if_pos rfl]
    refine ⟨t.map fun q => if q.2 = k then (v, k) else q, ?_, ?_, ?_, ?_, ?_⟩
    · unfold dz
      rw [List.map_map, List.map_map]
      apply List.map_congr_left
      intro q hq
      show (if (Sum.inl q.2 : Key) = Sum.inl k then ((Sum.inl q.2 : Key), V.int v) else (Sum.inl q.2, V.int q.1)) = (Sum.inl (if q.2 = k then (v, k) else q).2, V.int (if q.2 = k then (v, k) else q).1)
      by_cases e : q.2 = k
      · rw [if_pos (by rw [e]), if_pos e, e]
      · rw [if_neg (fun z => e (Sum.inl.inj z)), if_neg e]
    · rw [List.length_map]
      exact Nat.le_succ_of_le h.len
    · intro q hq
      obtain ⟨a, ha, rfl⟩ := List.mem_map.mp hq
      by_cases e : a.2 = k
      · rw [if_pos e]; exact ⟨v1, v9⟩
      · rw [if_neg e]; exact h.pts a ha
    · intro q hq
      obtain ⟨a, ha, rfl⟩ := List.mem_map.mp hq
      by_cases e : a.2 = k
      · rw [if_pos e]; exact ⟨k0, k9⟩
      · rw [if_neg e]; exact h.key a ha
    · have e : (t.map fun q => if q.2 = k then (v, k) else q).map (·.2) = t.map (·.2) := by
        rw [List.map_map]
        apply List.map_congr_left
        intro q hq
        show (if q.2 = k then (v, k) else q).2 = q.2
        by_cases e : q.2 = k
        · rw [if_pos e, e]
        · rw [if_neg e]
      rw [e]
      exact h.nod
  · rw [decide_eq_false c, if_neg (by decide)]
    refine ⟨t ++ [(v, k)], ?_, ?_, ?_, ?_, ?_⟩
    · unfold dz
      rw [List.map_append]
      rfl
    · rw [List.length_append]
      exact Nat.add_le_add h.len (Nat.le_refl _)
    · intro q hq
      rcases List.mem_append.mp hq with hq | hq
      · exact h.pts q hq
      · rw [List.mem_singleton] at hq
        rw [hq]
        exact ⟨v1, v9⟩
    · intro q hq
      rcases List.mem_append.mp hq with hq | hq
      · exact h.key q hq
      · rw [List.mem_singleton] at hq
        rw [hq]
        exact ⟨k0, k9⟩
    · rw [List.map_append, List.nodup_append]
      refine ⟨h.nod, by simp, fun a ha b hb => ?_⟩
      simp at hb
      rw [hb]
      exact fun e => c (e ▸ ha)
/-! ### the row of a table -/
def keep (t : Row) (q : Int × Int) : Bool := decide (q.2 ≠ 0) || !decide ((1 : Int) ∈ t.map (·.2))
def lift (q : Int × Int) : Int × Int := (q.1, if q.2 > 1 then q.2 else 1)
def rowOf (t s : Row) : Row := (s.filter (keep t)).map lift
structure Loose (r : Row) (n : Nat) : Prop where
  len : r.length ≤ n
  pts : ∀ q ∈ r, 1 ≤ q.1 ∧ q.1 ≤ 999
  key : ∀ q ∈ r, 1 ≤ q.2 ∧ q.2 ≤ 999
  nod : (r.map (·.2)).Nodup
theorem rowOf_ok {t : Row} {n : Nat} (h : Tbl t n) : Loose (rowOf t t) n := by
  refine ⟨?_, ?_, ?_, ?_⟩
  · unfold rowOf
    rw [List.length_map]
    exact Nat.le_trans (List.length_filter_le _ _) h.len
  · intro q hq
    obtain ⟨a, ha, rfl⟩ := List.mem_map.mp hq
    exact h.pts a (List.mem_filter.mp ha).1
  · intro q hq
    obtain ⟨a, ha, rfl⟩ := List.mem_map.mp hq
    have := h.key a (List.mem_filter.mp ha).1
    show 1 ≤ (if a.2 > 1 then a.2 else 1) ∧ (if a.2 > 1 then a.2 else 1) ≤ 999
    split <;> omega
  · unfold rowOf
    rw [List.map_map]
    show List.Pairwise _ _
    rw [List.pairwise_map]
    have p : (t.filter (keep t)).Pairwise fun a b => a.2 ≠ b.2 := (List.pairwise_map.mp h.nod).sublist List.filter_sublist
    refine p.imp_of_mem fun {a b} ha hb hab e => ?_
    obtain ⟨ha, ca⟩ := List.mem_filter.mp ha
    obtain ⟨hb, cb⟩ := List.mem_filter.mp hb
    have ka := h.key a ha
    have kb := h.key b hb
    have e : (if a.2 > 1 then a.2 else 1) = (if b.2 > 1 then b.2 else 1) := e
    unfold keep at ca cb
    simp only [ne_eq, Bool.or_eq_true, decide_eq_true_eq, Bool.not_eq_true', decide_eq_false_iff_not] at ca cb
    have ma : a.2 ∈ t.map (·.2) := List.mem_map_of_mem ha
    have mb : b.2 ∈ t.map (·.2) := List.mem_map_of_mem hb
    by_cases c1 : a.2 > 1
    · rw [if_pos c1] at e
      by_cases c2 : b.2 > 1
      · rw [if_pos c2] at e
        exact hab e
      · rw [if_neg c2] at e
        omega
    · rw [if_neg c1] at e
      by_cases c2 : b.2 > 1
      · rw [if_pos c2] at e
        omega
      · by_cases z : a.2 = 0
        · have : b.2 = 1 := by omega
          rw [this] at mb
          rcases ca with ca | ca
          · exact ca z
          · exact ca mb
        · have one : a.2 = 1 := by omega
          have z2 : b.2 = 0 := by omega
          rw [one] at ma
          rcases cb with cb | cb
          · exact cb z2
          · exact cb ma
/-! ### sorted by the points, falling, then by the key -/
def leP (p q : V × (Int × Int)) : Bool := decide (0 - p.2.1 < 0 - q.2.1 ∨ (0 - p.2.1 = 0 - q.2.1 ∧ p.2.2 ≤ q.2.2))
theorem leP_ok {ps : List (V × (Int × Int))} {n : Nat} (h : Loose (ps.map (·.2)) n) (hn : n ≤ 40) : RowOk ((ps.mergeSort leP).map (·.2)) := by
  have perm : ((ps.mergeSort leP).map (·.2)).Perm (ps.map (·.2)) := (List.mergeSort_perm ps leP).map _
  refine ⟨?_, fun q hq => h.pts q (perm.mem_iff.mp hq), fun q hq => h.key q (perm.mem_iff.mp hq), (perm.map _).nodup_iff.mpr h.nod, ?_⟩
  · rw [perm.length_eq]
    exact Nat.le_trans h.len hn
  · have srt : (ps.mergeSort leP).Pairwise (fun a b => leP a b = true) := List.pairwise_mergeSort (le := leP) (fun a b c h1 h2 => by
      unfold leP at *
      have h1 := of_decide_eq_true h1
      have h2 := of_decide_eq_true h2
      exact decide_eq_true (by omega)) (fun a b => by
      unfold leP
      rw [Bool.or_eq_true, decide_eq_true_eq, decide_eq_true_eq]
      omega) ps
    have nod : ((ps.mergeSort leP).map (·.2)).Pairwise fun a b => a.2 ≠ b.2 := List.pairwise_map.mp ((perm.map _).nodup_iff.mpr h.nod)
    have srt2 : ((ps.mergeSort leP).map (·.2)).Pairwise fun a b => 0 - a.1 < 0 - b.1 ∨ (0 - a.1 = 0 - b.1 ∧ a.2 ≤ b.2) := by
      rw [List.pairwise_map]
      exact srt.imp fun h => of_decide_eq_true h
    refine (srt2.and nod).imp fun {a b} h => ?_
    unfold Bef
    omega
theorem dp_map {K : PySem.W.Frag} {H : Hp} {α : Type} {f : α → PyData} : ∀ {l : List (V × α)}, (∀ p ∈ l, Dp K H p.1 (f p.2)) → DpAll K H (l.map (·.1)) ((l.map (·.2)).map f)
  | [], _ => .nil
  | p :: l, h => .cons (h p List.mem_cons_self) (dp_map fun q hq => h q (List.mem_cons_of_mem _ hq))
def keyD (q : Int × Int) : PyData := .tuple [.int (0 - q.1), .int q.2]
theorem sort_keyD (ps : List (V × (Int × Int))) : (ps.map fun p => (p.1, keyD p.2)).mergeSort leD = (ps.mergeSort leP).map fun p => (p.1, keyD p.2) := by
  refine (List.map_mergeSort fun a ha b hb => ?_).symm
  show leP a b = !PySem.W.dataLt (keyD b.2) (keyD a.2)
  unfold keyD leP
  rw [PySem.W.dataLt_ii]
  by_cases h : 0 - b.2.1 < 0 - a.2.1 ∨ (0 - b.2.1 = 0 - a.2.1 ∧ b.2.2 < a.2.2)
  · rw [decide_eq_true h, decide_eq_false (by omega)]
    rfl
  · rw [decide_eq_false h, decide_eq_true (by omega)]
    rfl
theorem ints_at {ns : List Int} {i : Nat} {v : V} (h : (ns.map V.int)[i]? = some v) : ∃ k, k ∈ ns ∧ v = .int k := by
  rw [List.getElem?_map] at h
  cases e : ns[i]? with
  | none => rw [e] at h; cases h
  | some k =>
    rw [e] at h
    cases h
    exact ⟨k, List.mem_of_getElem? e, rfl⟩
end K71
namespace K71
open PySem PySem.Spec PyProof.Rows L2
def top (i : Nat) : Stmt := PySem.Challenge.pw_plainscan_k71_whole_least_and_greatest_s.main.body.getD i (.Pass ⟨0, 0, 0, 0⟩)
abbrev s_is_whole : Stmt := top 7
abbrev N_is_whole : List Str := ["value"]
theorem sc_is_whole : FnScope N_is_whole ["value"] (defScope s_is_whole) := ⟨rfl, rfl, rfl, by decide +kernel, rfl, by decide +kernel, by decide +kernel⟩
abbrev s_is_number : Stmt := top 8
abbrev N_is_number : List Str := ["value", "low", "high"]
theorem sc_is_number : FnScope N_is_number ["value", "low", "high"] (defScope s_is_number) := ⟨rfl, rfl, rfl, by decide +kernel, rfl, by decide +kernel, by decide +kernel⟩
abbrev s_is_key : Stmt := top 9
abbrev N_is_key : List Str := ["value"]
theorem sc_is_key : FnScope N_is_key ["value"] (defScope s_is_key) := ⟨rfl, rfl, rfl, by decide +kernel, rfl, by decide +kernel, by decide +kernel⟩
abbrev s_is_tuple_of : Stmt := top 10
abbrev N_is_tuple_of : List Str := ["value", "many"]
theorem sc_is_tuple_of : FnScope N_is_tuple_of ["value", "many"] (defScope s_is_tuple_of) := ⟨rfl, rfl, rfl, by decide +kernel, rfl, by decide +kernel, by decide +kernel⟩
abbrev s_is_ascending : Stmt := top 11
abbrev N_is_ascending : List Str := ["values", "one", "two"]
theorem sc_is_ascending : FnScope N_is_ascending ["values"] (defScope s_is_ascending) := ⟨rfl, rfl, rfl, by decide +kernel, rfl, by decide +kernel, by decide +kernel⟩
abbrev s_check_number : Stmt := top 12
abbrev N_check_number : List Str := ["value", "low", "high"]
theorem sc_check_number : FnScope N_check_number ["value", "low", "high"] (defScope s_check_number) := ⟨rfl, rfl, rfl, by decide +kernel, rfl, by decide +kernel, by decide +kernel⟩
abbrev s_bound_of : Stmt := top 15
abbrev N_bound_of : List Str := ["row", "depth", "key", "points", "last"]
theorem sc_bound_of : FnScope N_bound_of ["row", "depth", "key"] (defScope s_bound_of) := ⟨rfl, rfl, rfl, by decide +kernel, rfl, by decide +kernel, by decide +kernel⟩
abbrev s_read_by : Stmt := top 16
abbrev N_read_by : List Str := ["lists", "depths", "found", "row", "depth", "points", "key"]
theorem sc_read_by : FnScope N_read_by ["lists", "depths"] (defScope s_read_by) := ⟨rfl, rfl, rfl, by decide +kernel, rfl, by decide +kernel, by decide +kernel⟩
abbrev s_sums_by : Stmt := top 17
abbrev N_sums_by : List Str := ["lists", "depths", "read", "key", "least", "more", "at", "row"]
theorem sc_sums_by : FnScope N_sums_by ["lists", "depths", "read", "key"] (defScope s_sums_by) := ⟨rfl, rfl, rfl, by decide +kernel, rfl, by decide +kernel, by decide +kernel⟩
abbrev s_is_pair : Stmt := top 21
abbrev N_is_pair : List Str := ["value"]
theorem sc_is_pair : FnScope N_is_pair ["value"] (defScope s_is_pair) := ⟨rfl, rfl, rfl, by decide +kernel, rfl, by decide +kernel, by decide +kernel⟩
abbrev s_is_list : Stmt := top 22
abbrev N_is_list : List Str := ["value", "keys", "_", "key", "points", "each"]
theorem sc_is_list : FnScope N_is_list ["value"] (defScope s_is_list) := ⟨rfl, rfl, rfl, by decide +kernel, rfl, by decide +kernel, by decide +kernel⟩
abbrev s_check_lists : Stmt := top 23
abbrev N_check_lists : List Str := ["value", "at", "row"]
theorem sc_check_lists : FnScope N_check_lists ["value"] (defScope s_check_lists) := ⟨rfl, rfl, rfl, by decide +kernel, rfl, by decide +kernel, by decide +kernel⟩
abbrev s_check_depths : Stmt := top 24
abbrev N_check_depths : List Str := ["lists", "value", "at", "depth"]
theorem sc_check_depths : FnScope N_check_depths ["lists", "value"] (defScope s_check_depths) := ⟨rfl, rfl, rfl, by decide +kernel, rfl, by decide +kernel, by decide +kernel⟩
abbrev s_sums_of : Stmt := top 25
abbrev N_sums_of : List Str := ["lists", "depths", "key"]
theorem sc_sums_of : FnScope N_sums_of ["lists", "depths", "key"] (defScope s_sums_of) := ⟨rfl, rfl, rfl, by decide +kernel, rfl, by decide +kernel, by decide +kernel⟩
abbrev s_law_urn : Stmt := top 27
abbrev N_law_urn : List Str := ["script", "lap", "mixed", "cell", "own"]
theorem sc_law_urn : FnScope N_law_urn ["script", "lap"] (defScope s_law_urn) := ⟨rfl, rfl, rfl, by decide +kernel, rfl, by decide +kernel, by decide +kernel⟩
abbrev s_law_take : Stmt := top 28
abbrev N_law_take : List Str := ["urn", "many", "figure", "stir"]
theorem sc_law_take : FnScope N_law_take ["urn", "many"] (defScope s_law_take) := ⟨rfl, rfl, rfl, by decide +kernel, rfl, by decide +kernel, by decide +kernel⟩
abbrev s_law_of : Stmt := top 29
abbrev N_law_of : List Str := ["urn", "some"]
theorem sc_law_of : FnScope N_law_of ["urn", "some"] (defScope s_law_of) := ⟨rfl, rfl, rfl, by decide +kernel, rfl, by decide +kernel, by decide +kernel⟩
abbrev s_law_first : Stmt := top 30
abbrev N_law_first : List Str := ["pair"]
theorem sc_law_first : FnScope N_law_first ["pair"] (defScope s_law_first) := ⟨rfl, rfl, rfl, by decide +kernel, rfl, by decide +kernel, by decide +kernel⟩
abbrev s_law_lists : Stmt := top 31
abbrev N_law_lists : List Str := ["urn", "many", "most", "found", "keys", "high", "turn", "table", "lap", "row", "key"]
theorem sc_law_lists : FnScope N_law_lists ["urn", "many", "most"] (defScope s_law_lists) := ⟨rfl, rfl, rfl, by decide +kernel, rfl, by decide +kernel, by decide +kernel⟩
abbrev s_law_depths : Stmt := top 32
abbrev N_law_depths : List Str := ["urn", "lists", "found", "row"]
theorem sc_law_depths : FnScope N_law_depths ["urn", "lists"] (defScope s_law_depths) := ⟨rfl, rfl, rfl, by decide +kernel, rfl, by decide +kernel, by decide +kernel⟩
abbrev s_law_bound : Stmt := top 33
abbrev N_law_bound : List Str := ["row", "depth", "key", "points", "last"]
theorem sc_law_bound : FnScope N_law_bound ["row", "depth", "key"] (defScope s_law_bound) := ⟨rfl, rfl, rfl, by decide +kernel, rfl, by decide +kernel, by decide +kernel⟩
abbrev s_law_sums : Stmt := top 34
abbrev N_law_sums : List Str := ["lists", "depths", "key", "low", "top", "row", "depth", "read", "points", "other"]
theorem sc_law_sums : FnScope N_law_sums ["lists", "depths", "key"] (defScope s_law_sums) := ⟨rfl, rfl, rfl, by decide +kernel, rfl, by decide +kernel, by decide +kernel⟩
abbrev s_law_topped : Stmt := top 35
abbrev N_law_topped : List Str := ["row", "depth", "key", "top", "left", "points", "other", "found", "turn", "each"]
theorem sc_law_topped : FnScope N_law_topped ["row", "depth", "key"] (defScope s_law_topped) := ⟨rfl, rfl, rfl, by decide +kernel, rfl, by decide +kernel, by decide +kernel⟩
abbrev s_law_right : Stmt := top 36
abbrev N_law_right : List Str := ["urn", "turn", "lists", "row", "depths", "whole", "some", "points", "key", "lap", "due", "told", "total", "at", "low", "top", "topped", "depth"]
theorem sc_law_right : FnScope N_law_right ["urn"] (defScope s_law_right) := ⟨rfl, rfl, rfl, by decide +kernel, rfl, by decide +kernel, by decide +kernel⟩
abbrev s_law : Stmt := top 37
abbrev N_law : List Str := ["script", "lap"]
theorem sc_law : FnScope N_law ["script"] (defScope s_law) := ⟨rfl, rfl, rfl, by decide +kernel, rfl, by decide +kernel, by decide +kernel⟩
/-- what the program's top has written -/
structure Txt (P : Program) (K : PySem.W.Frag) (mg : Str → Option Value) where
  f_is_whole : Addr
  d_is_whole : FuncData
  F_is_whole : Fun K "is_whole" "is_whole" s_is_whole f_is_whole d_is_whole
  b_is_whole : Binds K d_is_whole ["value"] []
  g_is_whole : mg "is_whole" = some (.ref f_is_whole)
  f_is_number : Addr
  d_is_number : FuncData
  F_is_number : Fun K "is_number" "is_number" s_is_number f_is_number d_is_number
  b_is_number : Binds K d_is_number ["value", "low", "high"] []
  g_is_number : mg "is_number" = some (.ref f_is_number)
  f_is_key : Addr
  d_is_key : FuncData
  F_is_key : Fun K "is_key" "is_key" s_is_key f_is_key d_is_key
  b_is_key : Binds K d_is_key ["value"] []
  g_is_key : mg "is_key" = some (.ref f_is_key)
  f_is_tuple_of : Addr
  d_is_tuple_of : FuncData
  F_is_tuple_of : Fun K "is_tuple_of" "is_tuple_of" s_is_tuple_of f_is_tuple_of d_is_tuple_of
  b_is_tuple_of : Binds K d_is_tuple_of ["value", "many"] []
  g_is_tuple_of : mg "is_tuple_of" = some (.ref f_is_tuple_of)
  f_is_ascending : Addr
  d_is_ascending : FuncData
  F_is_ascending : Fun K "is_ascending" "is_ascending" s_is_ascending f_is_ascending d_is_ascending
  b_is_ascending : Binds K d_is_ascending ["values"] []
  g_is_ascending : mg "is_ascending" = some (.ref f_is_ascending)
  f_check_number : Addr
  d_check_number : FuncData
  F_check_number : Fun K "check_number" "check_number" s_check_number f_check_number d_check_number
  b_check_number : Binds K d_check_number ["value", "low", "high"] []
  g_check_number : mg "check_number" = some (.ref f_check_number)
  f_bound_of : Addr
  d_bound_of : FuncData
  F_bound_of : Fun K "bound_of" "bound_of" s_bound_of f_bound_of d_bound_of
  b_bound_of : Binds K d_bound_of ["row", "depth", "key"] []
  g_bound_of : mg "bound_of" = some (.ref f_bound_of)
  f_read_by : Addr
  d_read_by : FuncData
  F_read_by : Fun K "read_by" "read_by" s_read_by f_read_by d_read_by
  b_read_by : Binds K d_read_by ["lists", "depths"] []
  g_read_by : mg "read_by" = some (.ref f_read_by)
  f_sums_by : Addr
  d_sums_by : FuncData
  F_sums_by : Fun K "sums_by" "sums_by" s_sums_by f_sums_by d_sums_by
  b_sums_by : Binds K d_sums_by ["lists", "depths", "read", "key"] []
  g_sums_by : mg "sums_by" = some (.ref f_sums_by)
  f_is_pair : Addr
  d_is_pair : FuncData
  F_is_pair : Fun K "is_pair" "is_pair" s_is_pair f_is_pair d_is_pair
  b_is_pair : Binds K d_is_pair ["value"] []
  g_is_pair : mg "is_pair" = some (.ref f_is_pair)
  f_is_list : Addr
  d_is_list : FuncData
  F_is_list : Fun K "is_list" "is_list" s_is_list f_is_list d_is_list
  b_is_list : Binds K d_is_list ["value"] []
  g_is_list : mg "is_list" = some (.ref f_is_list)
  f_check_lists : Addr
  d_check_lists : FuncData
  F_check_lists : Fun K "check_lists" "check_lists" s_check_lists f_check_lists d_check_lists
  b_check_lists : Binds K d_check_lists ["value"] []
  g_check_lists : mg "check_lists" = some (.ref f_check_lists)
  f_check_depths : Addr
  d_check_depths : FuncData
  F_check_depths : Fun K "check_depths" "check_depths" s_check_depths f_check_depths d_check_depths
  b_check_depths : Binds K d_check_depths ["lists", "value"] []
  g_check_depths : mg "check_depths" = some (.ref f_check_depths)
  f_sums_of : Addr
  d_sums_of : FuncData
  F_sums_of : Fun K "sums_of" "sums_of" s_sums_of f_sums_of d_sums_of
  b_sums_of : Binds K d_sums_of ["lists", "depths", "key"] []
  kb_sums_of_key_depths_lists : KBinds K d_sums_of ["lists", "depths", "key"] ["key", "depths", "lists"] (fun us ws => kbP 0 3 [2, 1, 0] us ws) (fun us ws => kbP 0 3 [2, 1, 0] us ws)
  g_sums_of : mg "sums_of" = some (.ref f_sums_of)
  f_law_urn : Addr
  d_law_urn : FuncData
  F_law_urn : Fun K "_law_urn" "_law_urn" s_law_urn f_law_urn d_law_urn
  b_law_urn : Binds K d_law_urn ["script", "lap"] []
  g__law_urn : mg "_law_urn" = some (.ref f_law_urn)
  f_law_take : Addr
  d_law_take : FuncData
  F_law_take : Fun K "_law_take" "_law_take" s_law_take f_law_take d_law_take
  b_law_take : Binds K d_law_take ["urn", "many"] []
  g__law_take : mg "_law_take" = some (.ref f_law_take)
  f_law_of : Addr
  d_law_of : FuncData
  F_law_of : Fun K "_law_of" "_law_of" s_law_of f_law_of d_law_of
  b_law_of : Binds K d_law_of ["urn", "some"] []
  g__law_of : mg "_law_of" = some (.ref f_law_of)
  f_law_first : Addr
  d_law_first : FuncData
  F_law_first : Fun K "_law_first" "_law_first" s_law_first f_law_first d_law_first
  b_law_first : Binds K d_law_first ["pair"] []
  g__law_first : mg "_law_first" = some (.ref f_law_first)
  f_law_lists : Addr
  d_law_lists : FuncData
  F_law_lists : Fun K "_law_lists" "_law_lists" s_law_lists f_law_lists d_law_lists
  b_law_lists : Binds K d_law_lists ["urn", "many", "most"] []
  g__law_lists : mg "_law_lists" = some (.ref f_law_lists)
  f_law_depths : Addr
  d_law_depths : FuncData
  F_law_depths : Fun K "_law_depths" "_law_depths" s_law_depths f_law_depths d_law_depths
  b_law_depths : Binds K d_law_depths ["urn", "lists"] []
  g__law_depths : mg "_law_depths" = some (.ref f_law_depths)
  f_law_bound : Addr
  d_law_bound : FuncData
  F_law_bound : Fun K "_law_bound" "_law_bound" s_law_bound f_law_bound d_law_bound
  b_law_bound : Binds K d_law_bound ["row", "depth", "key"] []
  g__law_bound : mg "_law_bound" = some (.ref f_law_bound)
  f_law_sums : Addr
  d_law_sums : FuncData
  F_law_sums : Fun K "_law_sums" "_law_sums" s_law_sums f_law_sums d_law_sums
  b_law_sums : Binds K d_law_sums ["lists", "depths", "key"] []
  g__law_sums : mg "_law_sums" = some (.ref f_law_sums)
  f_law_topped : Addr
  d_law_topped : FuncData
  F_law_topped : Fun K "_law_topped" "_law_topped" s_law_topped f_law_topped d_law_topped
  b_law_topped : Binds K d_law_topped ["row", "depth", "key"] []
  g__law_topped : mg "_law_topped" = some (.ref f_law_topped)
  f_law_right : Addr
  d_law_right : FuncData
  F_law_right : Fun K "_law_right" "_law_right" s_law_right f_law_right d_law_right
  b_law_right : Binds K d_law_right ["urn"] []
  g__law_right : mg "_law_right" = some (.ref f_law_right)
  f_law : Addr
  d_law : FuncData
  F_law : Fun K "law" "law" s_law f_law d_law
  b_law : Binds K d_law ["script"] []
  g_law : mg "law" = some (.ref f_law)
  t_MOST_KEY : Tok
  g_MOST_KEY : mg "MOST_KEY" = some (.int 999 t_MOST_KEY)
  t_MOST_POINTS : Tok
  g_MOST_POINTS : mg "MOST_POINTS" = some (.int 999 t_MOST_POINTS)
  t_MOST_LISTS : Tok
  g_MOST_LISTS : mg "MOST_LISTS" = some (.int 4 t_MOST_LISTS)
  t_MOST_PAIRS : Tok
  g_MOST_PAIRS : mg "MOST_PAIRS" = some (.int 40 t_MOST_PAIRS)
  z_abs : mg "abs" = none
  z_all : mg "all" = none
  z_bool : mg "bool" = none
  z_divmod : mg "divmod" = none
  z_enumerate : mg "enumerate" = none
  z_int : mg "int" = none
  z_isinstance : mg "isinstance" = none
  z_len : mg "len" = none
  z_list : mg "list" = none
  z_max : mg "max" = none
  z_min : mg "min" = none
  z_range : mg "range" = none
  z_repr : mg "repr" = none
  z_set : mg "set" = none
  z_sorted : mg "sorted" = none
  z_sum : mg "sum" = none
  z_tuple : mg "tuple" = none
  z_zip : mg "zip" = none
end K71
namespace K71
open PySem PySem.Spec PyProof.Rows L2
/-! ### values and their types -/
theorem sqT_ty {K : PySem.W.Frag} {H : Hp} {a : Addr} {xs : List V} (h : SqT K H a xs) : TyX K H (.ref a) (.type "tuple") := by
  rcases h with (h | ⟨o, h⟩) | ⟨o, its, n, h, c, _⟩
  · exact .base (.tup h)
  · exact .fTuple h
  · exact .kTuple h c
theorem kt {K : PySem.W.Frag} {a b : String} {r : Bool} (h : kitB a b = some r) : PySem.W.kitOne K (.type a) (.type b) = some r := kit_ty h
theorem iteB {c : Bool} {A B : Prop} (hc : c = true) (h : A) : if c = true then A else B := by rw [hc]; exact iteT h
theorem iteB' {c : Bool} {A B : Prop} (hc : c = false) (h : B) : if c = true then A else B := by rw [hc]; exact iteF h
theorem of_dec {Q : VK} {c : Bool} {H : Hp} (h : Q (.bl true) H) (hc : c = true) : Q (.bl c) H := by rw [hc]; exact h
theorem of_decF {Q : VK} {c : Bool} {H : Hp} (h : Q (.bl false) H) (hc : c = false) : Q (.bl c) H := by rw [hc]; exact h
/-! ### lists as data -/
def pairD (q : Int × Int) : PyData := .tuple [.int q.1, .int q.2]
def rowD (r : Row) : PyData := .tuple (r.map pairD)
def rowsD (rs : List Row) : PyData := .tuple (rs.map rowD)
def natD (d : Nat) : PyData := .int (d : Int)
def depD (ds : List Nat) : PyData := .tuple (ds.map natD)
theorem immAll_map {α : Type} {f : α → PyData} (h : ∀ a, imm (f a) = true) : ∀ l : List α, immAll (l.map f) = true
  | [] => rfl
  | a :: l => by simp only [List.map_cons, immAll, Bool.and_eq_true]; exact ⟨h a, immAll_map h l⟩
theorem pair_imm (q : Int × Int) : imm (pairD q) = true := rfl
theorem row_imm (r : Row) : imm (rowD r) = true := by unfold rowD; simp only [imm]; exact immAll_map pair_imm r
theorem rows_imm (rs : List Row) : imm (rowsD rs) = true := by unfold rowsD; simp only [imm]; exact immAll_map row_imm rs
theorem dep_imm (ds : List Nat) : imm (depD ds) = true := by unfold depD; simp only [imm]; exact immAll_map (f := natD) (fun _ => rfl) ds
theorem pair_at {K : PySem.W.Frag} {H : Hp} {v : V} {q : Int × Int} (h : Dp K H v (pairD q)) : ∃ a, v = .ref a ∧ SqT K H a [.int q.1, .int q.2] := by
  unfold pairD at h
  cases h with
  | tup s d =>
    cases d with
    | cons h1 t =>
      cases t with
      | cons h2 t =>
        cases t
        cases h1
        cases h2
        exact ⟨_, rfl, s⟩
theorem map_get {K : PySem.W.Frag} {H : Hp} {α : Type} {f : α → PyData} {xs : List V} {l : List α} (h : DpAll K H xs (l.map f)) : xs.length = l.length ∧ ∀ (i : Nat) (x : V), xs[i]? = some x → ∃ a, l[i]? = some a ∧ Dp K H x (f a) := by
  refine ⟨by rw [DpAll.length h, List.length_map], fun i x hx => ?_⟩
  obtain ⟨d, e1, e2⟩ := DpAll.get h hx
  rw [List.getElem?_map] at e1
  cases q : l[i]? with
  | none => rw [q] at e1; cases e1
  | some a =>
    rw [q] at e1
    cases e1
    exact ⟨a, rfl, e2⟩
theorem tup_at {K : PySem.W.Frag} {H : Hp} {α : Type} {f : α → PyData} {v : V} {l : List α} (h : Dp K H v (.tuple (l.map f))) : ∃ a xs, v = .ref a ∧ SqT K H a xs ∧ DpAll K H xs (l.map f) := by
  cases h with
  | tup s d => exact ⟨_, _, rfl, s, d⟩
theorem get_of {K : PySem.W.Frag} {H : Hp} {α : Type} {f : α → PyData} {xs : List V} {l : List α} (h : DpAll K H xs (l.map f)) {i : Nat} {a : α} (hi : l[i]? = some a) : ∃ x, xs[i]? = some x ∧ Dp K H x (f a) := by
  obtain ⟨len, g⟩ := map_get h
  have hl := (List.getElem?_eq_some_iff.mp hi).1
  have e : xs[i]? = some (xs[i]'(by omega)) := List.getElem?_eq_getElem (by omega)
  obtain ⟨b, e1, e2⟩ := g i _ e
  rw [hi] at e1
  cases e1
  exact ⟨_, e, e2⟩
/-! ### promises -/
def spWhole : Sp := fun vs H Q _ => ∃ i : Int, vs = [.int i] ∧ Q (.bl true) H
def spNumber : Sp := fun vs H Q _ => ∃ (i lo hi : Int), vs = [.int i, .int lo, .int hi] ∧ lo ≤ i ∧ i ≤ hi ∧ Q (.bl true) H
def spCheckN : Sp := fun vs H Q _ => ∃ (i lo hi : Int), vs = [.int i, .int lo, .int hi] ∧ lo ≤ i ∧ i ≤ hi ∧ Q .non H
def spKey : Sp := fun vs H Q _ => ∃ k : Int, vs = [.int k] ∧ 1 ≤ k ∧ k ≤ 999 ∧ Q (.bl true) H
def spTupleOf (K : PySem.W.Frag) : Sp := fun vs H Q _ => ∃ (p : Addr) (xs : List V) (n : Int), vs = [.ref p, .int n] ∧ SqT K H p xs ∧ (xs.length : Int) = n ∧ Q (.bl true) H
def spPair (K : PySem.W.Frag) : Sp := fun vs H Q _ => ∃ (p : Addr) (x k : Int), vs = [.ref p] ∧ SqT K H p [.int x, .int k] ∧ 1 ≤ x ∧ x ≤ 999 ∧ 1 ≤ k ∧ k ≤ 999 ∧ Q (.bl true) H
section
variable {P : Program} {w : World} {K : PySem.W.Frag} {mg : Str → Option Value} {base : Heap}
theorem ok_is_whole (T : Txt P K mg) : FnOk P w K mg base CX0 1 T.f_is_whole T.d_is_whole ["value"] spWhole := by
  refine T.F_is_whole.ok sc_is_whole (fun vs H Q E h => by obtain ⟨i, rfl, _⟩ := h; rfl) (fun cdv A outer s H vs Q E hr h => ⟨_, (pss_one (ps_ret (pe_and (pe_callB call_isi rfl T.z_isinstance (by decide +kernel) (pa_cons (pv 0) (pa_cons (pe_bltn (v := .ty "int") (u := .type "int") rfl T.z_int (by decide +kernel) rfl) pa_nil))) (pe_one (pe_not (pe_callB call_isi rfl T.z_isinstance (by decide +kernel) (pa_cons (pv 0) (pa_cons (pe_bltn (v := .ty "bool") (u := .type "bool") rfl T.z_bool (by decide +kernel) rfl) pa_nil)))))))), ?_⟩)
  obtain ⟨i, rfl, q⟩ := h
  refine ⟨_, rfl, _, _, _, _, true, rfl, .ty _, .base (.int i), kt (by decide +kernel), _, rfl, iteT ?_⟩
  exact ⟨_, rfl, _, _, _, _, false, rfl, .ty _, .base (.int i), kt (by decide +kernel), _, rfl, q⟩
theorem ok_is_number (T : Txt P K mg) : FnOk P w K mg base CX0 2 T.f_is_number T.d_is_number ["value", "low", "high"] spNumber := by
  refine T.F_is_number.ok sc_is_number (fun vs H Q E h => by obtain ⟨i, lo, x, rfl, _⟩ := h; rfl) (fun cdv A outer s H vs Q E hr h => ⟨_, (pss_cons (ps_if (PW.pt (pw_or (pt_not (pt_val (pe_call (ok_is_whole T) (hr.mono (by omega)) rfl T.g_is_whole T.F_is_whole.kp T.b_is_whole .nil pass0 (pa_cons (pv 0) pa_nil)))) (pw_or1 (PW.pt (pw_and (pt_cmpR op_notN (pv 1) pe_non (nomark _)) (pw_and1 (pt_cmpR op_lt (pv 0) (pv 1) (nomark _))))))))
      (pss_one (ps_ret pe_bl)) pss_nil)
      (pss_one (ps_ret (pe_or (pe_cmpR op_isN (pv 2) pe_non (nomark _)) (pe_one (pe_cmpR op_le (pv 0) (pv 2) (nomark _))))))), ?_⟩)
  obtain ⟨i, lo, hi, rfl, h1, h2, q⟩ := h
  refine ⟨_, rfl, i, rfl, ?_⟩
  refine ⟨_, rfl, iteF ?_⟩
  refine ⟨_, rfl, rfl, _, rfl, iteB (by simp) ?_⟩
  refine ⟨_, rfl, _, rfl, _, _, rfl, rfl, _, rfl, iteB' (by simp; omega) ?_⟩
  refine ⟨_, rfl, rfl, _, rfl, ?_⟩
  refine iteB' (by simp) ⟨_, rfl, _, rfl, _, _, rfl, rfl, of_dec q (by simp; omega)⟩
theorem ok_check_number (T : Txt P K mg) : FnOk P w K mg base CX0 3 T.f_check_number T.d_check_number ["value", "low", "high"] spCheckN := by
  refine T.F_check_number.ok sc_check_number (fun vs H Q E h => by obtain ⟨i, lo, x, rfl, _⟩ := h; rfl) (fun cdv A outer s H vs Q E hr h => ⟨_, (pss_one (ps_if (pt_not (pt_val (pe_call (ok_is_number T) (hr.mono (by omega)) rfl T.g_is_number T.F_is_number.kp T.b_is_number .nil pass0 (pa_cons (pv 0) (pa_cons (pv 1) (pa_cons (pv 2) pa_nil))))))
      (pss_one ps_never) pss_nil)), ?_⟩)
  obtain ⟨i, lo, hi, rfl, h1, h2, q⟩ := h
  refine ⟨_, rfl, _, rfl, _, rfl, i, lo, hi, rfl, h1, h2, ?_⟩
  exact ⟨_, rfl, iteF q⟩
theorem ok_is_key (T : Txt P K mg) : FnOk P w K mg base CX0 3 T.f_is_key T.d_is_key ["value"] spKey := by
  refine T.F_is_key.ok sc_is_key (fun vs H Q E h => by obtain ⟨i, rfl, _⟩ := h; rfl) (fun cdv A outer s H vs Q E hr h => ⟨_, (pss_one (ps_ret (pe_call (ok_is_number T) (hr.mono (by omega)) rfl T.g_is_number T.F_is_number.kp T.b_is_number .nil pass0 (pa_cons (pv 0) (pa_cons pe_int (pa_cons (pe_glob (v := .int (999)) rfl T.g_MOST_KEY ⟨_, rfl⟩) pa_nil)))))), ?_⟩)
  obtain ⟨k, rfl, h1, h2, q⟩ := h
  exact ⟨_, rfl, k, 1, 999, rfl, h1, h2, q⟩
theorem ok_is_tuple_of (T : Txt P K mg) : FnOk P w K mg base CX0 1 T.f_is_tuple_of T.d_is_tuple_of ["value", "many"] (spTupleOf K) := by
  refine T.F_is_tuple_of.ok sc_is_tuple_of (fun vs H Q E h => by obtain ⟨i, lo, x, rfl, _⟩ := h; rfl) (fun cdv A outer s H vs Q E hr h => ⟨_, (pss_one (ps_ret (pe_and (pe_callB call_isi rfl T.z_isinstance (by decide +kernel) (pa_cons (pv 0) (pa_cons (pe_bltn (v := .ty "tuple") (u := .type "tuple") rfl T.z_tuple (by decide +kernel) rfl) pa_nil))) (pe_one (pe_cmpR op_eq (pe_callB call_len_seq rfl T.z_len (by decide +kernel) (pa_cons (pv 0) pa_nil)) (pv 1) (nomark _)))))), ?_⟩)
  obtain ⟨p, xs, n, rfl, h1, h2, q⟩ := h
  refine ⟨_, rfl, _, _, _, _, true, rfl, .ty _, sqT_ty h1, kt (by decide +kernel), _, rfl, iteT ?_⟩
  exact ⟨_, rfl, p, xs, rfl, .inr h1, _, rfl, rfl, of_dec q (by rw [h2]; simp)⟩
theorem ok_is_pair (T : Txt P K mg) : FnOk P w K mg base CX0 4 T.f_is_pair T.d_is_pair ["value"] (spPair K) := by
  refine T.F_is_pair.ok sc_is_pair (fun vs H Q E h => by obtain ⟨p, x, k, rfl, _⟩ := h; rfl) (fun cdv A outer s H vs Q E hr h => ⟨_, (pss_one (ps_ret (pe_and (pe_call (ok_is_tuple_of T) (hr.mono (by omega)) rfl T.g_is_tuple_of T.F_is_tuple_of.kp T.b_is_tuple_of .nil pass0 (pa_cons (pv 0) (pa_cons pe_int pa_nil))) (pe_and (pe_call (ok_is_number T) (hr.mono (by omega)) rfl T.g_is_number T.F_is_number.kp T.b_is_number .nil pass0 (pa_cons (pe_ix ix_tup (pv 0) pe_int (fun _ _ => rfl)) (pa_cons pe_int (pa_cons (pe_glob (v := .int (999)) rfl T.g_MOST_POINTS ⟨_, rfl⟩) pa_nil)))) (pe_one (pe_call (ok_is_key T) (hr.mono (by omega)) rfl T.g_is_key T.F_is_key.kp T.b_is_key .nil pass0 (pa_cons (pe_ix ix_tup (pv 0) pe_int (fun _ _ => rfl)) pa_nil))))))), ?_⟩)
  obtain ⟨p, x, k, rfl, h1, h2, h3, h4, h5, q⟩ := h
  refine ⟨_, rfl, p, _, _, rfl, h1, rfl, _, rfl, iteT ?_⟩
  refine ⟨_, rfl, p, _, _, _, rfl, rfl, h1, rfl, x, 1, 999, rfl, h2, h3, _, rfl, iteT ?_⟩
  exact ⟨_, rfl, p, _, _, _, rfl, rfl, h1, rfl, k, rfl, h4, h5, q⟩
end
end K71
namespace K71
open PySem PySem.Spec PyProof.Rows L2 RZ 
theorem cut_from (xs : List V) (m : Nat) : cutV xs (some (m : Int)) none = xs.drop m := by
  unfold cutV
  rw [HT.sIx_nat, HT.sIx_none]
  by_cases h : m ≤ xs.length
  · rw [Nat.min_eq_left h, List.take_of_length_le (by rw [List.length_drop]; exact Nat.le_refl _)]
  · rw [Nat.min_eq_right (by omega), List.drop_of_length_le (Nat.le_refl _), List.drop_of_length_le (by omega), List.take_nil]
theorem cut_to (xs : List V) (m : Nat) : cutV xs none (some (m : Int)) = xs.take m := by
  unfold cutV
  rw [HT.sIx_nat, HT.sIx_none, List.drop_zero, Nat.sub_zero]
  by_cases h : m ≤ xs.length
  · rw [Nat.min_eq_left h]
  · rw [Nat.min_eq_right (by omega), List.take_of_length_le (Nat.le_refl _), List.take_of_length_le (by omega)]
def Asc (ps : List (Int × Int)) : Prop := ∀ (i : Nat) (q r : Int × Int), ps[i]? = some q → ps[i + 1]? = some r → q.1 < r.1 ∨ (q.1 = r.1 ∧ q.2 < r.2)
/-- a list of pairs of numbers -/
def Prs (K : PySem.W.Frag) (H : Hp) (xs : List V) (ps : List (Int × Int)) : Prop := DpAll K H xs (ps.map pairD)
def spAsc (K : PySem.W.Frag) : Sp := fun vs H Q _ => ∃ (a : Addr) (xs : List V) (ps : List (Int × Int)), vs = [.ref a] ∧ SqL K H a xs ∧ DpAll K H xs (ps.map pairD) ∧ Asc ps ∧ ps.length ≤ 1000 ∧ ∀ H', Same H H' → Q (.bl true) H'
def spList (K : PySem.W.Frag) : Sp := fun vs H Q _ => ∃ (v : V) (r : Row), vs = [v] ∧ Dp K H v (rowD r) ∧ RowOk r ∧ ∀ H', Same H H' → Q (.bl true) H'
def spCheckL (K : PySem.W.Frag) : Sp := fun vs H Q _ => ∃ (v : V) (rs : List Row), vs = [v] ∧ Dp K H v (rowsD rs) ∧ (∀ r ∈ rs, RowOk r) ∧ 1 ≤ rs.length ∧ rs.length ≤ 4 ∧ ∀ H', Same H H' → Q .non H'
section
variable {P : Program} {w : World} {K : PySem.W.Frag} {mg : Str → Option Value} {base : Heap}
theorem ok_is_ascending (T : Txt P K mg) : FnOk P w K mg base CX0 1 T.f_is_ascending T.d_is_ascending ["values"] (spAsc K) := by
  refine T.F_is_ascending.ok sc_is_ascending (fun vs H Q E h => by obtain ⟨a, xs, ps, rfl, _⟩ := h; rfl) (fun cdv A outer s H vs Q E hr h => ⟨_, (pss_one (ps_ret (pe_callB (cr_all rfl) rfl T.z_all (by decide +kernel) (pa_cons (pe_lc (own := [("one", 1), ("two", 2)]) (te := tOp (rLtT K) (tVar 1) (tVar 2)) (g := gTup K 2 (gCons (gName 1) (gCons (gName 2) gNil))) rfl sc_is_ascending.nd (pi_zipA rfl T.z_zip (pa_cons (pv 0) (pa_cons (pe_slice sl_list (pv 0) (po_some pe_int) po_none) pa_nil))) (blkOk_by (own := [("one", 1), ("two", 2)]) (N := N_is_ascending) (sc := defScope s_is_ascending) (by decide +kernel)) (fun _ _ _ _ _ => (pg_tup rfl (pgs_cons (pg_name (i := 1) sc_is_ascending.nd rfl (by first | exact Or.inl rfl | exact Or.inr rfl)) (pgs_cons (pg_name (i := 2) sc_is_ascending.nd rfl (by first | exact Or.inl rfl | exact Or.inr rfl)) pgs_nil)))) (fun _ _ _ _ _ => (by exact pts_nil)) (fun _ _ _ _ _ => (by exact (pe_cmpR (op_ltT (by exact Nat.lt_of_succ_lt (hu_of hr))) (pv 1) (pv 2) (nomark _))))) pa_nil)))), ?_⟩)
  obtain ⟨a, xs, ps, rfl, hs, hd, ha, hl, q⟩ := h
  obtain ⟨len, get⟩ := map_get hd
  have im := immAll_map pair_imm ps
  refine ⟨_, rfl, _, rfl, _, rfl, a, xs, rfl, hs, fun b hb => ?_⟩
  have s1 := Same.new (o := .lst (cutV xs (some 1) none)) hb
  refine ⟨a, b, xs, cutV xs (some 1) none, rfl, .inl ⟨s1.sqL hs, .of upd_same, fun D hD => ?_⟩⟩
  have eb : upd H b (.lst (cutV xs (some 1) none)) b = some (.lst (cutV xs (some 1) none)) := upd_same
  generalize upd H b (.lst (cutV xs (some 1) none)) = H1 at s1 hD eb ⊢
  have cut : cutV xs (some 1) none = xs.drop 1 := cut_from xs 1
  rw [cut] at eb
  refine lc_it (walk_zip (n := min xs.length (xs.drop 1).length) rfl) (fun i H' => H' D = some (.lst ((List.replicate i true).map V.bl)) ∧ Same H1 H') ⟨upd_same, Same.new hD⟩ (fun i H' _ h => ⟨h.2.sqL (s1.sqL hs), .of (h.2 _ _ eb)⟩) ?_ ?_
  · rintro i x H2 H3 hi ⟨e1, e2⟩ ⟨t, y, z, rfl, ht, rfl, hy, hz⟩
    obtain ⟨p, hp1, hp2⟩ := get i y hy
    have hz : (xs.drop 1)[i]? = some z := hz
    rw [List.getElem?_drop] at hz
    obtain ⟨r, hr1, hr2⟩ := get (1 + i) z hz
    have s3 := (s1.trans e2).step (o := .tup [y, z]) ht
    obtain ⟨a1, rfl, t1⟩ := pair_at (Dp.keep s3.tupK _ _ (pair_imm p) hp2)
    obtain ⟨a2, rfl, t2⟩ := pair_at (Dp.keep s3.tupK _ _ (pair_imm r) hr2)
    refine ⟨t, _, rfl, .of upd_same, rfl, _, _, rfl, _, _, rfl, rfl, rfl, _, rfl, _, rfl, a1, a2, [p.1, p.2], [r.1, r.2], rfl, rfl, t1, t2, ?_⟩
    have lt : HT.lexLt [p.1, p.2] [r.1, r.2] = true := by
      have z := ha i p r hp1 (by rw [Nat.add_comm] at hr1; exact hr1)
      rw [HT.lexLt_cons, HT.lexLt_cons, HT.lexLt_nil_nil]
      by_cases e : p.1 = r.1
      · rw [if_pos e, if_neg (by omega)]
        exact decide_eq_true (by omega)
      · rw [if_neg e]
        exact decide_eq_true (by omega)
    rw [lt]
    have nD : D ≠ t := ne_of_none e1 ht
    refine ⟨_, (Same.new ht) _ _ e1, ?_, ?_, (e2.step ht).own hD⟩
    · rw [List.length_map, List.length_replicate]
      exact Nat.lt_of_le_of_lt (show i ≤ 1000 by omega) (by decide)
    · rw [upd_same, List.replicate_succ', List.map_append]
      rfl
  · rintro H' ⟨e1, e2⟩
    exact ⟨D, List.replicate (min xs.length (xs.drop 1).length) true, rfl, .of e1, of_dec (q H' (s1.trans e2)) (by simp)⟩
theorem ok_is_list (T : Txt P K mg) : FnOk P w K mg base CX0 5 T.f_is_list T.d_is_list ["value"] (spList K) := by
  refine T.F_is_list.ok sc_is_list (fun vs H Q E h => by obtain ⟨v, r, rfl, _⟩ := h; rfl) (fun cdv A outer s H vs Q E hr h => ⟨_, (pss_cons (ps_if (PW.pt (pw_or (pt_not (pt_val (pe_callB call_isi rfl T.z_isinstance (by decide +kernel) (pa_cons (pv 0) (pa_cons (pe_bltn (v := .ty "tuple") (u := .type "tuple") rfl T.z_tuple (by decide +kernel) rfl) pa_nil))))) (pw_or (pt_cmpR op_gt (pe_callB call_len_seq rfl T.z_len (by decide +kernel) (pa_cons (pv 0) pa_nil)) (pe_glob (v := .int (40)) rfl T.g_MOST_PAIRS ⟨_, rfl⟩) (nomark _)) (pw_or1 (pt_not (pt_val (pe_callB (cr_all rfl) rfl T.z_all (by decide +kernel) (pa_cons (pe_lc (own := [("each", 5)]) rfl sc_is_list.nd (pi_tup (pv 0)) (blkOk_by (own := [("each", 5)]) (N := N_is_list) (sc := defScope s_is_list) (by decide +kernel)) (fun _ _ _ _ _ => (pg_name (i := 5) sc_is_list.nd rfl (by first | exact Or.inl rfl | exact Or.inr rfl))) (fun _ _ _ _ _ => (by exact pts_nil)) (fun _ _ _ _ _ => (by exact (pe_call (ok_is_pair T) (hr.mono (by omega)) rfl T.g_is_pair T.F_is_pair.kp T.b_is_pair .nil pass0 (pa_cons (pv 5) pa_nil))))) pa_nil))))))))
      (pss_one (ps_ret pe_bl)) pss_nil)
      (pss_cons (ps_setLc (i := 1) (own := [("_", 2), ("key", 3)]) (g := gTup K 2 (gCons (gName 2) (gCons (gName 3) gNil))) rfl sc_is_list.nd rfl rfl (sw_true rfl rfl rfl (by decide +kernel)) (pi_tup (pv 0)) (blkOk_by (own := [("_", 2), ("key", 3)]) (N := N_is_list) (sc := defScope s_is_list) (by decide +kernel)) (fun _ _ _ _ _ => (pg_tup rfl (pgs_cons (pg_name (i := 2) sc_is_list.nd rfl (by first | exact Or.inl rfl | exact Or.inr rfl)) (pgs_cons (pg_name (i := 3) sc_is_list.nd rfl (by first | exact Or.inl rfl | exact Or.inr rfl)) pgs_nil)))) (fun _ _ _ _ _ => (by exact pts_nil)) (fun _ _ _ _ _ => (by exact (pv 3))))
      (pss_cons (ps_if (pt_cmpR op_lt (pe_lenSetI rfl rfl T.z_len rfl T.z_set (pv 1)) (pe_callB call_len_seq rfl T.z_len (by decide +kernel) (pa_cons (pv 1) pa_nil)) (nomark _))
      (pss_one (ps_ret pe_bl)) pss_nil)
      (pss_one (ps_ret (pe_call (ok_is_ascending T) (hr.mono (by omega)) rfl T.g_is_ascending T.F_is_ascending.kp T.b_is_ascending .nil pass0 (pa_cons (pe_lc (own := [("points", 4), ("key", 3)]) (g := gTup K 2 (gCons (gName 4) (gCons (gName 3) gNil))) rfl sc_is_list.nd (pi_tup (pv 0)) (blkOk_by (own := [("points", 4), ("key", 3)]) (N := N_is_list) (sc := defScope s_is_list) (by decide +kernel)) (fun _ _ _ _ _ => (pg_tup rfl (pgs_cons (pg_name (i := 4) sc_is_list.nd rfl (by first | exact Or.inl rfl | exact Or.inr rfl)) (pgs_cons (pg_name (i := 3) sc_is_list.nd rfl (by first | exact Or.inl rfl | exact Or.inr rfl)) pgs_nil)))) (fun _ _ _ _ _ => (by exact pts_nil)) (fun _ _ _ _ _ => (by exact (pe_tup (pa_cons (pe_un un_neg (pv 4)) (pa_cons (pv 3) pa_nil)))))) pa_nil))))))), ?_⟩)
  obtain ⟨v, r, rfl, hd, ok, q⟩ := h
  obtain ⟨a, xs, rfl, sq, da⟩ := tup_at hd
  obtain ⟨len, get⟩ := map_get da
  have im := row_imm r
  have l40 := ok.len
  refine ⟨_, rfl, _, _, _, _, true, rfl, .ty _, sqT_ty sq, kt (by decide +kernel), _, rfl, iteF ?_⟩
  refine ⟨_, rfl, a, xs, rfl, .inr sq, _, _, rfl, rfl, _, rfl, iteB' (by simp; omega) ?_⟩
  refine ⟨_, rfl, a, rfl, ⟨xs, sq⟩, fun D hD => ?_⟩
  refine lc_tup (K := K) (a := a) (xs := xs) (fun i H' => H' D = some (.lst ((List.replicate i true).map V.bl)) ∧ Same H H') ⟨upd_same, Same.new hD⟩ (fun i H' _ h => h.2.sqT sq) ?_ ?_
  · rintro i x H' hx ⟨e1, e2⟩
    obtain ⟨p, hp1, hp2⟩ := get i x hx
    have hi := (List.getElem?_eq_some_iff.mp hx).1
    have hm := List.mem_of_getElem? hp1
    obtain ⟨b, rfl, t1⟩ := pair_at (Dp.keep e2.tupK _ _ (pair_imm p) hp2)
    refine ⟨rfl, _, rfl, b, p.1, p.2, rfl, t1, (ok.pts p hm).1, (ok.pts p hm).2, (ok.key p hm).1, (ok.key p hm).2, ?_⟩
    refine ⟨_, e1, ?_, ?_, e2.own hD⟩
    · rw [List.length_map, List.length_replicate]
      exact Nat.lt_of_le_of_lt (show i ≤ 1000 by omega) (by decide)
    · rw [upd_same, List.replicate_succ', List.map_append]
      rfl
  rintro H1 ⟨e1, s1⟩
  refine ⟨D, List.replicate xs.length true, rfl, .of e1, _, rfl, iteB' (by simp) ?_⟩
  have sq1 := s1.sqT sq
  clear e1
  refine ⟨_, rfl, a, rfl, ⟨xs, sq1⟩, fun D2 hD2 => ?_⟩
  refine lc_tup (K := K) (a := a) (xs := xs) (fun i H' => H' D2 = some (.lst (((r.take i).map (·.2)).map V.int)) ∧ Same H1 H') ⟨upd_same, Same.new hD2⟩ (fun i H' _ h => h.2.sqT sq1) ?_ ?_
  · rintro i x H' hx ⟨e1, e2⟩
    obtain ⟨p, hp1, hp2⟩ := get i x hx
    obtain ⟨b, rfl, t1⟩ := pair_at (Dp.keep (s1.trans e2).tupK _ _ (pair_imm p) hp2)
    refine ⟨b, _, rfl, t1, rfl, _, _, rfl, _, _, rfl, rfl, rfl, _, rfl, _, e1, ?_, ?_, e2.own hD2⟩
    · rw [List.length_map, List.length_map, List.length_take]
      exact Nat.lt_of_le_of_lt (show _ ≤ 1000 by omega) (by decide)
    · rw [upd_same, List.take_add_one, hp1, List.map_append, List.map_append]
      rfl
  rintro H2 ⟨e2, s2⟩
  rw [len, List.take_length] at e2
  refine ⟨_, rfl, D2, r.map (·.2), rfl, .of e2, (by rw [List.length_map]; omega), ok.nod, _, rfl, D2, _, rfl, .inl (.of e2), _, _, rfl, rfl, _, rfl, iteB' (by simp) ?_⟩
  have sq2 := s2.sqT sq1
  clear e2
  refine ⟨_, rfl, a, rfl, ⟨xs, sq2⟩, fun D3 hD3 => ?_⟩
  refine lc_tup (K := K) (a := a) (xs := xs) (fun i H' => ∃ acc, H' D3 = some (.lst acc) ∧ DpAll K H' acc (((r.map fun q => (-q.1, q.2)).take i).map pairD) ∧ Same H2 H') ⟨[], upd_same, .nil, Same.new hD3⟩ (fun i H' _ h => h.choose_spec.2.2.sqT sq2) ?_ ?_
  · rintro i x H' hx ⟨acc, e1, e2, e3⟩
    obtain ⟨p, hp1, hp2⟩ := get i x hx
    obtain ⟨b, rfl, t1⟩ := pair_at (Dp.keep ((s1.trans s2).trans e3).tupK _ _ (pair_imm p) hp2)
    refine ⟨b, _, rfl, t1, rfl, _, _, rfl, _, _, rfl, rfl, rfl, ?_⟩
    refine ⟨_, rfl, _, rfl, _, rfl, by show 2 ≤ sizeLine; decide, fun t ht => ?_⟩
    have nD : t ≠ D3 := fun z => by rw [z, e1] at ht; cases ht
    refine ⟨acc, (Same.new ht) _ _ e1, ?_, acc ++ [.ref t], upd_same, ?_, (e3.step ht).own hD3⟩
    · have := DpAll.length e2
      rw [this, List.length_map, List.length_take, List.length_map]
      exact Nat.lt_of_le_of_lt (show _ ≤ 1000 by omega) (by decide)
    · have k1 := (Same.new (o := .tup [.int (-p.1), .int p.2]) ht).tupK
      have k2 : TupK (upd H' t (.tup [.int (-p.1), .int p.2])) (upd (upd H' t (.tup [.int (-p.1), .int p.2])) D3 (.lst (acc ++ [.ref t]))) := But.tupK (S := (· = D3)) (But.set rfl) fun c ys hc => by rw [hc]; exact not_tup_lst ((Same.new ht) _ _ e1)
      rw [List.take_add_one, List.getElem?_map, hp1, List.map_append]
      refine DpAll.app (Dp.keepAll (k1.trans k2) _ _ (immAll_map pair_imm _) e2) (.cons (.tup (.of ?_) (.cons (.int _) (.cons (.int _) .nil))) .nil)
      rw [upd_ne nD, upd_same]
  rintro H3 ⟨acc, e1, e2, e3⟩
  rw [len, List.take_of_length_le (by rw [List.length_map]; exact Nat.le_refl _)] at e2
  refine ⟨D3, acc, r.map fun q => (-q.1, q.2), rfl, .of e1, e2, ?_, by rw [List.length_map]; omega, fun H' s4 => q H' (((s1.trans s2).trans e3).trans s4)⟩
  intro i p t hp ht
  rw [List.getElem?_map] at hp ht
  cases h1 : r[i]? with
  | none => rw [h1] at hp; cases hp
  | some p0 =>
    cases h2 : r[i + 1]? with
    | none => rw [h2] at ht; cases ht
    | some t0 =>
      rw [h1] at hp
      rw [h2] at ht
      cases hp
      cases ht
      have z := pair_le ok h1 h2 (Nat.lt_succ_self i)
      unfold Bef at z
      show -p0.1 < -t0.1 ∨ (-p0.1 = -t0.1 ∧ p0.2 < t0.2)
      omega
end
end K71
namespace K71
open PySem PySem.Spec PyProof.Rows L2 RZ
def spBound (K : PySem.W.Frag) : Sp := fun vs H Q _ => ∃ (v : V) (r : Row) (d : Nat) (k : Int), vs = [v, .int d, .int k] ∧ Dp K H v (rowD r) ∧ d ≤ r.length ∧ r.length ≤ 40 ∧ Q (.int (bound r d k)) H
section
variable {P : Program} {w : World} {K : PySem.W.Frag} {mg : Str → Option Value} {base : Heap}
theorem ok_check_lists (T : Txt P K mg) : FnOk P w K mg base CX0 6 T.f_check_lists T.d_check_lists ["value"] (spCheckL K) := by
  refine T.F_check_lists.ok sc_check_lists (fun vs H Q E h => by obtain ⟨v, r, rfl, _⟩ := h; rfl) (fun cdv A outer s H vs Q E hr h => ⟨_, (pss_cons (ps_if (PW.pt (pw_or (pt_not (pt_val (pe_callB call_isi rfl T.z_isinstance (by decide +kernel) (pa_cons (pv 0) (pa_cons (pe_bltn (v := .ty "tuple") (u := .type "tuple") rfl T.z_tuple (by decide +kernel) rfl) pa_nil))))) (pw_or1 (pt_not (pt_chain op_lt op_le pe_int (pe_callB call_len_seq rfl T.z_len (by decide +kernel) (pa_cons (pv 0) pa_nil)) (pe_glob (v := .int (4)) rfl T.g_MOST_LISTS ⟨_, rfl⟩))))))
      (pss_one ps_never) pss_nil)
      (pss_one (ps_for PassesOwn.never rfl (pi_enumT rfl T.z_enumerate (pa_cons (pv 0) pa_nil)) (pg_tup rfl (pgs_cons (pg_name (i := 1) sc_check_lists.nd rfl (by first | exact Or.inl rfl | exact Or.inr rfl)) (pgs_cons (pg_name (i := 2) sc_check_lists.nd rfl (by first | exact Or.inl rfl | exact Or.inr rfl)) pgs_nil)))
      (pss_one (ps_if (pt_not (pt_val (pe_call (ok_is_list T) (hr.mono (by omega)) rfl T.g_is_list T.F_is_list.kp T.b_is_list .nil pass0 (pa_cons (pv 2) pa_nil))))
      (pss_one ps_never) pss_nil))))), ?_⟩)
  obtain ⟨v, rs, rfl, hd, ok, h1, h4, q⟩ := h
  obtain ⟨a, xs, rfl, sq, da⟩ := tup_at hd
  obtain ⟨len, get⟩ := map_get da
  refine ⟨_, rfl, _, _, _, _, true, rfl, .ty _, sqT_ty sq, kt (by decide +kernel), _, rfl, iteF ?_⟩
  refine ⟨_, rfl, a, xs, rfl, .inr sq, _, _, rfl, rfl, _, rfl, iteB (decide_eq_true (by omega)) ?_⟩
  refine ⟨_, _, rfl, rfl, _, rfl, iteB' (by simp; omega) ?_⟩
  refine ⟨_, rfl, a, xs, rfl, sq, ?_⟩
  refine for_it walk_enumT (fun i σ H' => ∃ (x1 x2 : Option V), σ = [some (.ref a), x1, x2] ∧ Same H H') ⟨none, none, rfl, Same.refl H⟩ (fun i σ H' _ h => by obtain ⟨_, _, _, k⟩ := h; exact k.sqT sq) ?_ (fun σ H' h => by obtain ⟨_, _, _, k⟩ := h; exact q H' k)
  rintro i x σ H1 H2 hi ⟨x1, x2, rfl, k⟩ ⟨t, y, z, rfl, ht, rfl, hy, hz⟩
  obtain ⟨r, hr1, hr2⟩ := get i z hz
  cases hy
  have k2 := k.step (o := .tup [.int (i : Nat), z]) ht
  refine ⟨t, _, rfl, .of upd_same, rfl, _, _, rfl, _, _, rfl, rfl, ?_⟩
  refine ⟨_, rfl, z, r, rfl, Dp.keep k2.tupK _ _ (row_imm r) hr2, ok r (List.mem_of_getElem? hr1), fun H3 k3 => ?_⟩
  exact ⟨_, rfl, iteB' rfl ⟨_, _, rfl, k2.trans k3⟩⟩
theorem ok_bound_of (T : Txt P K mg) : FnOk P w K mg base CX0 1 T.f_bound_of T.d_bound_of ["row", "depth", "key"] (spBound K) := by
  refine T.F_bound_of.ok sc_bound_of (fun vs H Q E h => by obtain ⟨v, r, d, k, rfl, _⟩ := h; rfl) (fun cdv A outer s H vs Q E hr h => ⟨_, (pss_cons (ps_if (pt_cmpR op_eq (pv 1) (pe_callB call_len_seq rfl T.z_len (by decide +kernel) (pa_cons (pv 0) pa_nil)) (nomark _))
      (pss_one (ps_ret pe_int)) pss_nil)
      (pss_cons (ps_if (pt_cmpR op_eq (pv 1) pe_int (nomark _))
      (pss_one (ps_ret (pe_glob (v := .int (999)) rfl T.g_MOST_POINTS ⟨_, rfl⟩))) pss_nil)
      (pss_cons (ps_asg (pe_ix ix_tup (pv 0) (pe_op op_sub (pv 1) pe_int) (fun _ _ => rfl)) (pg_tup rfl (pgs_cons (pg_name (i := 3) sc_bound_of.nd rfl (by first | exact Or.inl rfl | exact Or.inr rfl)) (pgs_cons (pg_name (i := 4) sc_bound_of.nd rfl (by first | exact Or.inl rfl | exact Or.inr rfl)) pgs_nil))))
      (pss_one (ps_ret (pe_ifExp (pt_cmpR op_gt (pv 2) (pv 4) (nomark _)) (pv 3) (pe_op op_sub (pv 3) pe_int))))))), ?_⟩)
  obtain ⟨v, r, d, k, rfl, hd, hl, h40, q⟩ := h
  obtain ⟨a, xs, rfl, sq, da⟩ := tup_at hd
  obtain ⟨len, get⟩ := map_get da
  refine ⟨_, rfl, _, rfl, a, xs, rfl, .inr sq, rfl, _, rfl, ?_⟩
  rw [len]
  by_cases c : d = r.length
  · refine iteB (by simp [c]) ?_
    have e : bound r d k = 0 := by unfold bound; rw [if_pos c]
    rw [e] at q
    exact q
  refine iteB' (by simp; omega) ?_
  refine ⟨_, rfl, rfl, _, rfl, ?_⟩
  by_cases c0 : d = 0
  · refine iteB (by simp [c0]) ?_
    have e : bound r d k = 999 := by
      unfold bound
      rw [if_neg c]
      cases r[d - 1]? <;> simp [c0]
    rw [e] at q
    exact q
  refine iteB' (by simp; omega) ?_
  obtain ⟨p, hp⟩ : ∃ p, r[d - 1]? = some p := ⟨_, List.getElem?_eq_getElem (by omega)⟩
  obtain ⟨x, hx, hxd⟩ := get_of da hp
  obtain ⟨b, rfl, t1⟩ := pair_at hxd
  have e : bound r d k = if p.2 < k then p.1 else p.1 - 1 := by
    unfold bound
    rw [if_neg c, hp]
    simp [c0]
  rw [e] at q
  refine ⟨_, rfl, _, rfl, _, _, rfl, rfl, a, xs, _, _, rfl, rfl, sq, (by rw [show ((d : Int) - 1) = ((d - 1 : Nat) : Int) by omega]; exact atI_nat hx), ?_⟩
  refine ⟨b, _, rfl, t1, rfl, _, _, rfl, _, _, rfl, rfl, ?_⟩
  refine ⟨_, rfl, _, rfl, _, _, rfl, rfl, _, rfl, ?_⟩
  by_cases c2 : p.2 < k
  · rw [if_pos c2] at q
    exact iteB (decide_eq_true c2) ⟨_, rfl, q⟩
  · rw [if_neg c2] at q
    exact iteB' (decide_eq_false c2) ⟨_, rfl, _, _, rfl, rfl, q⟩
end
end K71
namespace K71
open PySem PySem.Spec PyProof.Rows L2 RZ
/-- depths that go with lists -/
structure DepOk (rs : List Row) (ds : List Nat) : Prop where
  len : ds.length = rs.length
  le : ∀ (i : Nat) (r : Row) (d : Nat), rs[i]? = some r → ds[i]? = some d → d ≤ r.length
/-- what has been read of a list, as a dict -/
def rk (r : Row) : List (Key × V) := r.map fun q => (Sum.inl q.2, V.int q.1)
theorem rk_get (k : Int) : ∀ r : Row, valV (rk r) (Sum.inl k) = ((r.filter fun q => decide (q.2 = k)).map (·.1)).head?.map V.int
  | [] => rfl
  | q :: r => by
    have ih := rk_get k r
    by_cases h : q.2 = k
    · have e : valV (rk (q :: r)) (Sum.inl k) = some (V.int q.1) := valV_pos (p := (Sum.inl q.2, V.int q.1)) (by rw [h])
      rw [e]
      simp [List.filter_cons, h]
    · have e : valV (rk (q :: r)) (Sum.inl k) = valV (rk r) (Sum.inl k) := by
        exact valV_neg (p := (Sum.inl q.2, V.int q.1)) fun z => h (Sum.inl.inj z)
      rw [e, ih]
      simp [List.filter_cons, h]
theorem rk_put {r : Row} {q : Int × Int} (h : q.2 ∉ r.map (·.2)) : putK (rk r) (Sum.inl q.2) (V.int q.1) = rk (r ++ [q]) := by
  have e : valV (rk r) (Sum.inl q.2) = none := by
    rw [rk_get]
    have : (r.filter fun x => decide (x.2 = q.2)) = [] := by
      rw [List.filter_eq_nil_iff]
      intro x hx z
      exact h (by rw [← of_decide_eq_true z]; exact List.mem_map_of_mem hx)
    rw [this]
    rfl
  rw [putK_new _ e]
  unfold rk
  rw [List.map_append]
  rfl
theorem rk_rd (r : Row) (d : Nat) (k : Int) : valV (rk (r.take d)) (Sum.inl k) = (rd r d k).head?.map V.int := rk_get k (r.take d)
def spCheckD (K : PySem.W.Frag) : Sp := fun vs H Q _ => ∃ (v w : V) (rs : List Row) (ds : List Nat), vs = [v, w] ∧ Dp K H v (rowsD rs) ∧ Dp K H w (depD ds) ∧ DepOk rs ds ∧ (∀ r ∈ rs, r.length ≤ 40) ∧ rs.length ≤ 4 ∧ ∀ H', Same H H' → Q .non H'
section
variable {P : Program} {w : World} {K : PySem.W.Frag} {mg : Str → Option Value} {base : Heap}
theorem ok_check_depths (T : Txt P K mg) : FnOk P w K mg base CX0 6 T.f_check_depths T.d_check_depths ["lists", "value"] (spCheckD K) := by
  refine T.F_check_depths.ok sc_check_depths (fun vs H Q E h => by obtain ⟨v, w, rs, ds, rfl, _⟩ := h; rfl) (fun cdv A outer s H vs Q E hr h => ⟨_, (pss_cons (ps_if (pt_not (pt_val (pe_call (ok_is_tuple_of T) (hr.mono (by omega)) rfl T.g_is_tuple_of T.F_is_tuple_of.kp T.b_is_tuple_of .nil pass0 (pa_cons (pv 1) (pa_cons (pe_callB call_len_seq rfl T.z_len (by decide +kernel) (pa_cons (pv 0) pa_nil)) pa_nil)))))
      (pss_one ps_never) pss_nil)
      (pss_one (ps_for PassesOwn.never rfl (pi_enumT rfl T.z_enumerate (pa_cons (pv 1) pa_nil)) (pg_tup rfl (pgs_cons (pg_name (i := 2) sc_check_depths.nd rfl (by first | exact Or.inl rfl | exact Or.inr rfl)) (pgs_cons (pg_name (i := 3) sc_check_depths.nd rfl (by first | exact Or.inl rfl | exact Or.inr rfl)) pgs_nil)))
      (pss_one (ps_if (pt_not (pt_val (pe_call (ok_is_number T) (hr.mono (by omega)) rfl T.g_is_number T.F_is_number.kp T.b_is_number .nil pass0 (pa_cons (pv 3) (pa_cons pe_int (pa_cons (pe_callB call_len_seq rfl T.z_len (by decide +kernel) (pa_cons (pe_ix ix_tup (pv 0) (pv 2) (fun _ _ => rfl)) pa_nil)) pa_nil))))))
      (pss_one ps_never) pss_nil))))), ?_⟩)
  obtain ⟨v, w, rs, ds, rfl, hd, hw, ok, h40, h4, q⟩ := h
  obtain ⟨a, xs, rfl, sq, da⟩ := tup_at hd
  obtain ⟨len, get⟩ := map_get da
  obtain ⟨b, ys, rfl, sb, db⟩ := tup_at hw
  obtain ⟨lenb, getb⟩ := map_get db
  refine ⟨_, rfl, _, rfl, a, xs, rfl, .inr sq, b, ys, _, rfl, sb, (by have := ok.len; omega), _, rfl, iteB' rfl ?_⟩
  refine ⟨_, rfl, b, ys, rfl, sb, ?_⟩
  refine for_it walk_enumT (fun i σ H' => ∃ (x1 x2 : Option V), σ = [some (.ref a), some (.ref b), x1, x2] ∧ Same H H') ⟨none, none, rfl, Same.refl H⟩ (fun i σ H' _ h => by obtain ⟨_, _, _, k⟩ := h; exact k.sqT sb) ?_ (fun σ H' h => by obtain ⟨_, _, _, k⟩ := h; exact q H' k)
  rintro i x σ H1 H2 hi ⟨x1, x2, rfl, k⟩ ⟨t, y, z, rfl, ht, rfl, hy, hz⟩
  obtain ⟨d, hd1, hd2⟩ := getb i z hz
  cases hy
  cases hd2
  have hil : i < rs.length := by
    have := (List.getElem?_eq_some_iff.mp hd1).1
    have := ok.len
    omega
  obtain ⟨r, hr1⟩ : ∃ r, rs[i]? = some r := ⟨_, List.getElem?_eq_getElem hil⟩
  obtain ⟨rv, hrx, hrd⟩ := get_of da hr1
  obtain ⟨ra, rxs, rfl, rsq, rda⟩ := tup_at hrd
  obtain ⟨rlen, _⟩ := map_get rda
  have k2 := k.step (o := .tup [.int (i : Nat), .int (d : Int)]) ht
  refine ⟨t, _, rfl, .of upd_same, rfl, _, _, rfl, _, _, rfl, rfl, ?_⟩
  refine ⟨_, rfl, _, rfl, _, rfl, a, xs, _, _, rfl, rfl, k2.sqT sq, atI_nat hrx, ra, rxs, rfl, .inr (k2.sqT rsq), d, 0, _, rfl, by omega, by rw [rlen]; exact Int.ofNat_le.mpr (ok.le i r d hr1 hd1), ?_⟩
  exact ⟨_, rfl, iteB' rfl ⟨_, _, rfl, k2⟩⟩
end
end K71
namespace K71
open PySem PySem.Spec PyProof.Rows L2 RZ
/-- the dicts of what has been read -/
def Reads1 (H : Hp) (as : List Addr) (rs : List Row) (ds : List Nat) : Prop := ∀ (i : Nat) (a : Addr) (r : Row) (d : Nat), as[i]? = some a → rs[i]? = some r → ds[i]? = some d → H a = some (.dK (rk (r.take d)))
def spRead (K : PySem.W.Frag) : Sp := fun vs H Q _ => ∃ (v w : V) (rs : List Row) (ds : List Nat), vs = [v, w] ∧ Dp K H v (rowsD rs) ∧ Dp K H w (depD ds) ∧ DepOk rs ds ∧ (∀ r ∈ rs, RowOk r) ∧ rs.length ≤ 4 ∧
  ∀ H' p as, Same H H' → H' p = some (.lst (as.map V.ref)) → as.length = rs.length → Reads1 H' as rs ds → Q (.ref p) H'
section
variable {P : Program} {w : World} {K : PySem.W.Frag} {mg : Str → Option Value} {base : Heap}
theorem ok_read_by (T : Txt P K mg) : FnOk P w K mg base CX0 1 T.f_read_by T.d_read_by ["lists", "depths"] (spRead K) := by
  refine T.F_read_by.ok sc_read_by (fun vs H Q E h => by obtain ⟨v, w, rs, ds, rfl, _⟩ := h; rfl) (fun cdv A outer s H vs Q E hr h => ⟨_, (pss_cons (ps_set (i := 2) sc_read_by.nd rfl (Or.inl rfl) (pe_lst pa_nil))
      (pss_cons (ps_for PassesOwn.never rfl (pi_zipA rfl T.z_zip (pa_cons (pv 0) (pa_cons (pv 1) pa_nil))) (pg_tup rfl (pgs_cons (pg_name (i := 3) sc_read_by.nd rfl (by first | exact Or.inl rfl | exact Or.inr rfl)) (pgs_cons (pg_name (i := 4) sc_read_by.nd rfl (by first | exact Or.inl rfl | exact Or.inr rfl)) pgs_nil)))
      (pss_one (ps_expr (pe_bm PySem.F.plainAttrs_list PySem.F.slot_list_append PySem.F.type_list_append mt_append (pv 2) (pa_cons (pe_dc (own := [("points", 5), ("key", 6)]) (g := gTup K 2 (gCons (gName 5) (gCons (gName 6) gNil))) rfl sc_read_by.nd (pi_tup (pe_slice sl_tupW (pv 3) po_none (po_some (pv 4)))) (blkOk_by (own := [("points", 5), ("key", 6)]) (N := N_read_by) (sc := defScope s_read_by) (by decide +kernel)) (fun _ _ _ _ _ => (pg_tup rfl (pgs_cons (pg_name (i := 5) sc_read_by.nd rfl (by first | exact Or.inl rfl | exact Or.inr rfl)) (pgs_cons (pg_name (i := 6) sc_read_by.nd rfl (by first | exact Or.inl rfl | exact Or.inr rfl)) pgs_nil)))) (fun _ _ _ _ _ => (by exact pts_nil)) (fun _ _ _ _ _ => (by exact (pv 6))) (fun _ _ _ _ _ => (by exact (pv 5)))) pa_nil)))))
      (pss_one (ps_ret (pv 2))))), ?_⟩)
  obtain ⟨v, w, rs, ds, rfl, hd, hw, ok, oks, h4, q⟩ := h
  obtain ⟨a, xs, rfl, sq, da⟩ := tup_at hd
  obtain ⟨len, get⟩ := map_get da
  obtain ⟨b, ys, rfl, sb, db⟩ := tup_at hw
  obtain ⟨lenb, getb⟩ := map_get db
  refine ⟨Nat.zero_le _, fun f hf => ?_⟩
  have s1 := Same.new (o := .lst []) hf
  refine ⟨_, rfl, _, rfl, a, b, xs, ys, rfl, .inr ⟨s1.sqT sq, s1.sqT sb, ?_⟩⟩
  refine for_zipT (xs := xs) (ys := ys) (by have := ok.len; omega) (fun i σ H' => ∃ (x3 x4 : Option V) (as : List Addr), σ = [some (.ref a), some (.ref b), some (.ref f), x3, x4, none, none] ∧ H' f = some (.lst (as.map V.ref)) ∧ as.length = i ∧ Reads1 H' as rs ds ∧ Same H H')
    ⟨none, none, [], rfl, upd_same, rfl, (fun i a r d h => by simp at h), s1⟩ (fun i σ H' h => by obtain ⟨_, _, _, _, _, _, _, k⟩ := h; exact ⟨k.sqT sq, k.sqT sb⟩) ?_ ?_
  · rintro i x y t σ H1 hx hy ⟨x3, x4, as, rfl, ef, la, rd1, k⟩ ht
    obtain ⟨r, hr1, hr2⟩ := get i x hx
    obtain ⟨d, hd1, hd2⟩ := getb i y hy
    cases hd2
    obtain ⟨ra, rxs, rfl, rsq, rda⟩ := tup_at hr2
    obtain ⟨rlen, rget⟩ := map_get rda
    have okr := oks r (List.mem_of_getElem? hr1)
    have dle := ok.le i r d hr1 hd1
    have k2 := k.step (o := .tup [.ref ra, .int (d : Int)]) ht
    have n12 := Same.new (o := .tup [.ref ra, .int (d : Int)]) ht
    refine ⟨t, _, rfl, .of upd_same, rfl, _, _, rfl, _, _, rfl, rfl, ?_⟩
    refine ⟨_, rfl, .inl ⟨rfl, _, .of (n12 _ _ ef)⟩, ?_⟩
    have ef2 := n12 _ _ ef
    generalize upd H1 t (.tup [.ref ra, .int (d : Int)]) = H2 at k2 n12 ef2 ⊢
    refine ⟨_, rfl, _, rfl, _, rfl, ra, rxs, rfl, k2.sqT rsq, fun c H3 k3 sc => ⟨c, rfl, ⟨_, sc⟩, fun D hD => ?_⟩⟩
    rw [cut_to] at sc
    have k13 := k2.trans k3
    have ef3 := k3 _ _ ef2
    refine dc_tup (K := K) (a := c) (xs := rxs.take d) (fun j H' => H' D = some (.dK (rk (r.take j))) ∧ Same H3 H') ⟨upd_same, Same.new hD⟩ (fun j H' _ h => h.2.sqT sc) ?_ ?_
    · rintro j z H4 hz ⟨g1, g2⟩
      have hj : j < d := by
        have := (List.getElem?_eq_some_iff.mp hz).1
        rw [List.length_take] at this
        omega
      rw [List.getElem?_take_of_lt hj] at hz
      obtain ⟨p, hp1, hp2⟩ := rget j z hz
      obtain ⟨pb, rfl, t1⟩ := pair_at (Dp.keep (k13.trans g2).tupK _ _ (pair_imm p) hp2)
      have np : p.2 ∉ (r.take j).map (·.2) := by
        intro hm
        obtain ⟨w, hw, e⟩ := List.mem_map.mp hm
        have nd := okr.nod
        rw [← List.take_append_drop j r, List.map_append, List.nodup_append] at nd
        refine nd.2.2 _ hm _ (List.mem_map_of_mem (?_ : p ∈ r.drop j)) rfl
        have : (r.drop j)[0]? = some p := by rw [List.getElem?_drop]; simpa using hp1
        exact List.mem_of_getElem? this
      refine ⟨pb, _, rfl, t1, rfl, _, _, rfl, _, _, rfl, rfl, rfl, _, rfl, _, rfl, rk (r.take j), Sum.inl p.2, rfl, g1, ?_, ?_, g2.own hD⟩
      · unfold rk
        rw [List.length_map, List.length_take]
        have := okr.len
        exact Nat.lt_of_le_of_lt (show _ ≤ 40 by omega) (by decide)
      · rw [upd_same, rk_put np, List.take_add_one, hp1]
        rfl
    · rintro H4 ⟨g1, g2⟩
      rw [show (rxs.take d).length = d by rw [List.length_take]; omega] at g1
      have ef4 := g2 _ _ ef3
      have nfD : D ≠ f := fun e => by rw [← e, g1] at ef4; cases ef4
      have all := (k13.trans g2)
      refine ⟨f, _, _, rfl, rfl, ef4, ?_, _, _, as ++ [D], rfl, ?_, ?_, ?_, all.own hf⟩
      · rw [List.length_map]
        have := (List.getElem?_eq_some_iff.mp hr1).1
        exact Nat.lt_of_le_of_lt (show _ ≤ 4 by omega) (by decide)
      · rw [upd_same, List.map_append]
        rfl
      · rw [List.length_append, la]
        rfl
      · intro n e r' d' he hr' hd'
        by_cases hn : n < as.length
        · rw [List.getElem?_append_left hn] at he
          have z := rd1 n e r' d' he hr' hd'
          have ne : e ≠ f := fun w => by rw [w, ef] at z; cases z
          rw [upd_ne ne]
          exact (n12.trans (k3.trans g2)) _ _ z
        · have hn2 : n = i := by
            have := (List.getElem?_eq_some_iff.mp he).1
            rw [List.length_append] at this
            simp at this
            omega
          subst hn2
          rw [List.getElem?_append_right (by omega), la, Nat.sub_self] at he
          rw [hr1] at hr'
          rw [hd1] at hd'
          cases he
          cases hr'
          cases hd'
          rw [upd_ne nfD]
          exact g1
  · rintro σ H1 ⟨x3, x4, as, rfl, ef, la, rd1, k⟩
    exact ⟨_, rfl, q H1 f as k ef (by omega) rd1⟩
end
end K71
namespace K71
open PySem PySem.Spec PyProof.Rows L2 RZ
def lowL (rs : List Row) (ds : List Nat) (k : Int) : List Int := (rs.zip ds).map fun p => low1 p.1 p.2 k
def topL (rs : List Row) (ds : List Nat) (k : Int) : List Int := (rs.zip ds).map fun p => top1 p.1 p.2 k
def lowS (rs : List Row) (ds : List Nat) (k : Int) : Int := (lowL rs ds k).sum
def topS (rs : List Row) (ds : List Nat) (k : Int) : Int := (topL rs ds k).sum
theorem sum_le : ∀ {xs ys : List Int}, xs.length = ys.length → (∀ (i : Nat) (x y : Int), xs[i]? = some x → ys[i]? = some y → x ≤ y) → xs.sum ≤ ys.sum
  | [], [], _, _ => Int.le_refl _
  | [], _ :: _, h, _ => by cases h
  | _ :: _, [], h, _ => by cases h
  | x :: xs, y :: ys, h, f => by
    have a := f 0 x y rfl rfl
    have b := sum_le (xs := xs) (ys := ys) (by simpa using h) fun i u v h1 h2 => f (i + 1) u v (by simpa using h1) (by simpa using h2)
    simp only [List.sum_cons]
    omega
theorem sum_next {xs : List Int} {i : Nat} {x : Int} (h : xs[i]? = some x) : (xs.take (i + 1)).sum = (xs.take i).sum + x := by
  rw [List.take_add_one, h, List.sum_append]
  simp
def spSumsBy (K : PySem.W.Frag) : Sp := fun vs H Q _ => ∃ (v w : V) (p : Addr) (rs : List Row) (ds : List Nat) (k : Int) (as : List Addr), vs = [v, w, .ref p, .int k] ∧ Dp K H v (rowsD rs) ∧ Dp K H w (depD ds) ∧ DepOk rs ds ∧ (∀ r ∈ rs, RowOk r) ∧ rs.length ≤ 4 ∧
  H p = some (.lst (as.map V.ref)) ∧ as.length = rs.length ∧ Reads1 H as rs ds ∧ ∀ H' t, Same H H' → Dp K H' (.ref t) (pairD (lowS rs ds k, topS rs ds k)) → Q (.ref t) H'
section
variable {P : Program} {w : World} {K : PySem.W.Frag} {mg : Str → Option Value} {base : Heap}
theorem ok_sums_by (T : Txt P K mg) : FnOk P w K mg base CX0 2 T.f_sums_by T.d_sums_by ["lists", "depths", "read", "key"] (spSumsBy K) := by
  refine T.F_sums_by.ok sc_sums_by (fun vs H Q E h => by obtain ⟨v, w, p, rs, ds, k, as, rfl, _⟩ := h; rfl) (fun cdv A outer s H vs Q E hr h => ⟨_, (pss_cons (ps_asg (pe_tup (pa_cons pe_int (pa_cons pe_int pa_nil))) (pg_tup rfl (pgs_cons (pg_name (i := 4) sc_sums_by.nd rfl (by first | exact Or.inl rfl | exact Or.inr rfl)) (pgs_cons (pg_name (i := 5) sc_sums_by.nd rfl (by first | exact Or.inl rfl | exact Or.inr rfl)) pgs_nil))))
      (pss_cons (ps_for PassesOwn.never rfl (pi_enumT rfl T.z_enumerate (pa_cons (pv 0) pa_nil)) (pg_tup rfl (pgs_cons (pg_name (i := 6) sc_sums_by.nd rfl (by first | exact Or.inl rfl | exact Or.inr rfl)) (pgs_cons (pg_name (i := 7) sc_sums_by.nd rfl (by first | exact Or.inl rfl | exact Or.inr rfl)) pgs_nil)))
      (pss_one (ps_if (pt_cmp (pc_din (by exact hu_of hr) (pv 3) (pe_ix ix_list (pv 2) (pv 6) (fun _ _ => rfl))) rfl)
      (pss_one (ps_set (i := 4) sc_sums_by.nd rfl (Or.inl rfl) (pe_op op_add (pv 4) (pe_dget (by exact hu_of hr) (pe_ix ix_list (pv 2) (pv 6) (fun _ _ => rfl)) (pv 3) (fun _ _ => rfl))))) (pss_one (ps_set (i := 5) sc_sums_by.nd rfl (Or.inl rfl) (pe_op op_add (pv 5) (pe_call (ok_bound_of T) (hr.mono (by omega)) rfl T.g_bound_of T.F_bound_of.kp T.b_bound_of .nil pass0 (pa_cons (pv 7) (pa_cons (pe_ix ix_tup (pv 1) (pv 6) (fun _ _ => rfl)) (pa_cons (pv 3) pa_nil))))))))))
      (pss_one (ps_ret (pe_tup (pa_cons (pv 4) (pa_cons (pe_op op_add (pv 4) (pv 5)) pa_nil))))))), ?_⟩)
  obtain ⟨v, w, p, rs, ds, k, as, rfl, hd, hw, ok, oks, h4, ep, la, rd1, q⟩ := h
  obtain ⟨a, xs, rfl, sq, da⟩ := tup_at hd
  obtain ⟨len, get⟩ := map_get da
  obtain ⟨b, ys, rfl, sb, db⟩ := tup_at hw
  obtain ⟨lenb, getb⟩ := map_get db
  refine ⟨by show 2 ≤ sizeLine; decide, fun p0 hp0 => ?_⟩
  refine ⟨p0, _, rfl, .of upd_same, rfl, _, _, rfl, _, _, rfl, rfl, ?_⟩
  have s0 := Same.new (o := .tup [.int 0, .int 0]) hp0
  refine ⟨_, rfl, a, xs, rfl, s0.sqT sq, ?_⟩
  refine for_it walk_enumT (fun i σ H' => ∃ (x6 x7 : Option V) (l m : Int), σ = [some (.ref a), some (.ref b), some (.ref p), some (.int k), some (.int l), some (.int m), x6, x7] ∧ l = ((lowL rs ds k).take i).sum ∧ l + m = ((topL rs ds k).take i).sum ∧ Same H H')
    ⟨none, none, 0, 0, rfl, rfl, rfl, s0⟩ (fun i σ H' _ h => by obtain ⟨_, _, _, _, _, _, _, kk⟩ := h; exact kk.sqT sq) ?_ ?_
  · rintro i x σ H1 H2 hi ⟨x6, x7, l, m, rfl, hl, hm, kk⟩ ⟨t, y, z, rfl, ht, rfl, hy, hz⟩
    cases hy
    obtain ⟨r, hr1, hr2⟩ := get i z hz
    have hil := (List.getElem?_eq_some_iff.mp hr1).1
    obtain ⟨d, hd1⟩ : ∃ d, ds[i]? = some d := ⟨_, List.getElem?_eq_getElem (by have := ok.len; omega)⟩
    obtain ⟨e, he⟩ : ∃ e, as[i]? = some e := ⟨_, List.getElem?_eq_getElem (by omega)⟩
    obtain ⟨dv, hdx, hdd⟩ := get_of db hd1
    cases hdd
    have k2 := kk.step (o := .tup [.int (i : Nat), z]) ht
    have zip : (rs.zip ds)[i]? = some (r, d) := by
      rw [List.getElem?_zip_eq_some]
      exact ⟨hr1, hd1⟩
    have eL : (lowL rs ds k)[i]? = some (low1 r d k) := by unfold lowL; rw [List.getElem?_map, zip]; rfl
    have eT : (topL rs ds k)[i]? = some (top1 r d k) := by unfold topL; rw [List.getElem?_map, zip]; rfl
    have dict := k2 _ _ (rd1 i e r d he hr1 hd1)
    have eas : (as.map V.ref)[i]? = some (.ref e) := by rw [List.getElem?_map, he]; rfl
    have okr := oks r (List.mem_of_getElem? hr1)
    refine ⟨t, _, rfl, .of upd_same, rfl, _, _, rfl, _, _, rfl, rfl, ?_⟩
    generalize upd H1 t (.tup [.int (i : Nat), z]) = H2 at k2 dict ⊢
    refine ⟨_, rfl, _, rfl, _, rfl, p, _, _, _, rfl, rfl, .of (k2 _ _ ep), atI_nat eas, e, _, rfl, .inl ⟨_, Sum.inl k, .inl dict, rfl, rfl⟩, ?_⟩
    rw [rk_rd]
    have sums := sum_next eL
    have tops := sum_next eT
    rcases rd_cases okr d k with w0 | ⟨x0, w0, _, _⟩
    · refine ⟨_, rfl, iteB' (by rw [w0]; rfl) ?_⟩
      have e1 : low1 r d k = 0 := by unfold low1; rw [w0]; rfl
      have e2 : top1 r d k = bound r d k := by unfold top1; rw [w0]
      have dle := ok.le i r d hr1 hd1
      refine ⟨_, rfl, _, rfl, _, rfl, _, rfl, b, ys, _, _, rfl, rfl, k2.sqT sb, atI_nat hdx, _, rfl, z, r, d, k, rfl, Dp.keep k2.tupK _ _ (row_imm r) hr2, dle, okr.len, ?_⟩
      exact ⟨_, _, rfl, rfl, _, _, l, m + bound r d k, rfl, by omega, by omega, k2⟩
    · refine ⟨_, rfl, iteB (by rw [w0]; rfl) ?_⟩
      have e1 : low1 r d k = x0.1 := by unfold low1; rw [w0]; simp
      have e2 : top1 r d k = x0.1 := by unfold top1; rw [w0]
      refine ⟨_, rfl, _, rfl, _, rfl, p, _, _, _, rfl, rfl, .of (k2 _ _ ep), atI_nat eas, _, rfl, e, .int x0.1, rfl, .inl ⟨_, Sum.inl k, .inl dict, rfl, by rw [rk_rd, w0]; rfl⟩, ?_⟩
      exact ⟨_, _, rfl, rfl, _, _, l + x0.1, m, rfl, by omega, by omega, k2⟩
  · rintro σ H1 ⟨x6, x7, l, m, rfl, hl, hm, kk⟩
    refine ⟨_, rfl, _, rfl, _, rfl, _, _, rfl, rfl, by show 2 ≤ sizeLine; decide, fun t ht => ?_⟩
    have lz : (rs.zip ds).length = xs.length := by rw [List.length_zip, ok.len, len, Nat.min_self]
    rw [List.take_of_length_le (by unfold lowL; rw [List.length_map, lz]; exact Nat.le_refl _)] at hl
    rw [List.take_of_length_le (by unfold topL; rw [List.length_map, lz]; exact Nat.le_refl _)] at hm
    refine q _ t (kk.step ht) (.tup (.of upd_same) ?_)
    have h1 : lowS rs ds k = l := hl.symm
    have h2 : topS rs ds k = l + m := hm.symm
    rw [h1, h2]
    exact .cons (.int _) (.cons (.int _) .nil)
end
end K71
namespace K71
open PySem PySem.Spec PyProof.Rows L2 RZ
def spSumsOf (K : PySem.W.Frag) : Sp := fun vs H Q _ => ∃ (v w : V) (rs : List Row) (ds : List Nat) (k : Int), vs = [v, w, .int k] ∧ Dp K H v (rowsD rs) ∧ Dp K H w (depD ds) ∧ DepOk rs ds ∧ (∀ r ∈ rs, RowOk r) ∧ 1 ≤ rs.length ∧ rs.length ≤ 4 ∧ 1 ≤ k ∧ k ≤ 999 ∧
  ∀ H' t, Same H H' → Dp K H' (.ref t) (pairD (lowS rs ds k, topS rs ds k)) → Q (.ref t) H'
section
variable {P : Program} {w : World} {K : PySem.W.Frag} {mg : Str → Option Value} {base : Heap}
theorem ok_sums_of (T : Txt P K mg) : FnOk P w K mg base CX0 7 T.f_sums_of T.d_sums_of ["lists", "depths", "key"] (spSumsOf K) := by
  refine T.F_sums_of.ok sc_sums_of (fun vs H Q E h => by obtain ⟨v, w, rs, ds, k, rfl, _⟩ := h; rfl) (fun cdv A outer s H vs Q E hr h => ⟨_, (pss_cons (ps_expr (pe_call (ok_check_lists T) (hr.mono (by omega)) rfl T.g_check_lists T.F_check_lists.kp T.b_check_lists .nil pass0 (pa_cons (pv 0) pa_nil)))
      (pss_cons (ps_expr (pe_call (ok_check_depths T) (hr.mono (by omega)) rfl T.g_check_depths T.F_check_depths.kp T.b_check_depths .nil pass0 (pa_cons (pv 0) (pa_cons (pv 1) pa_nil))))
      (pss_cons (ps_expr (pe_call (ok_check_number T) (hr.mono (by omega)) rfl T.g_check_number T.F_check_number.kp T.b_check_number .nil pass0 (pa_cons (pv 2) (pa_cons pe_int (pa_cons (pe_glob (v := .int (999)) rfl T.g_MOST_KEY ⟨_, rfl⟩) pa_nil)))))
      (pss_one (ps_ret (pe_call (ok_sums_by T) (hr.mono (by omega)) rfl T.g_sums_by T.F_sums_by.kp T.b_sums_by .nil pass0 (pa_cons (pv 0) (pa_cons (pv 1) (pa_cons (pe_call (ok_read_by T) (hr.mono (by omega)) rfl T.g_read_by T.F_read_by.kp T.b_read_by .nil pass0 (pa_cons (pv 0) (pa_cons (pv 1) pa_nil))) (pa_cons (pv 2) pa_nil)))))))))), ?_⟩)
  obtain ⟨v, w, rs, ds, k, rfl, hd, hw, ok, oks, h1, h4, k1, k9, q⟩ := h
  refine ⟨_, rfl, v, rs, rfl, hd, oks, h1, h4, fun H1 s1 => ?_⟩
  have hd1 := Dp.keep s1.tupK _ _ (rows_imm rs) hd
  have hw1 := Dp.keep s1.tupK _ _ (dep_imm ds) hw
  refine ⟨_, rfl, _, rfl, v, w, rs, ds, rfl, hd1, hw1, ok, (fun r hr => (oks r hr).len), h4, fun H2 s2 => ?_⟩
  have hd2 := Dp.keep s2.tupK _ _ (rows_imm rs) hd1
  have hw2 := Dp.keep s2.tupK _ _ (dep_imm ds) hw1
  refine ⟨_, rfl, k, 1, 999, rfl, k1, k9, ?_⟩
  refine ⟨_, rfl, _, rfl, _, rfl, _, rfl, v, w, rs, ds, rfl, hd2, hw2, ok, oks, h4, fun H3 p as s3 ep la rd1 => ?_⟩
  refine ⟨_, rfl, v, w, p, rs, ds, k, as, rfl, Dp.keep s3.tupK _ _ (rows_imm rs) hd2, Dp.keep s3.tupK _ _ (dep_imm ds) hw2, ok, oks, h4, ep, la, rd1, fun H' t s4 hp => q H' t (((s1.trans s2).trans s3).trans s4) hp⟩
end
end K71
namespace K71
open PySem PySem.Spec PyProof.Rows L2 RZ
/-! ### the urn: three ints -/
def Urn (H : Hp) (u : Addr) : Prop := ∃ a b c : Int, H u = some (.lst [.int a, .int b, .int c])
def spUrn (K : PySem.W.Frag) : Sp := fun vs H Q _ => ∃ (a : Addr) (ns : List Int) (lap : Int), vs = [.ref a, .int lap] ∧ 0 ≤ lap ∧ SqL K H a (ns.map V.int) ∧ ∀ u H', Same H H' → H u = none → Urn H' u → Q (.ref u) H'
def spTake : Sp := fun vs H Q _ => ∃ (u : Addr) (many : Int), vs = [.ref u, .int many] ∧ 0 < many ∧ many < 1073741824 ∧ Urn H u ∧ ∀ k H', 0 ≤ k → k < many → Urn H' u → But (· = u) H H' → Q (.int k) H'
theorem cutV_mem {xs : List V} {lo hi : Option Int} {x : V} (h : x ∈ cutV xs lo hi) : x ∈ xs := List.mem_of_mem_drop (List.mem_of_mem_take h)
theorem Urn.tupK {H H' : Hp} {u : Addr} (hu : Urn H u) (k : But (· = u) H H') : TupK H H' := by
  obtain ⟨a, b, c, hu⟩ := hu
  exact k.tupK fun x ys e => by rw [e]; exact not_tup_lst hu
theorem Urn.new {H : Hp} {u p : Addr} {o : HO} (hu : Urn H u) (hp : H p = none) : Urn (upd H p o) u := by
  obtain ⟨a, b, c, hu⟩ := hu
  exact ⟨a, b, c, Same.new hp _ _ hu⟩
theorem Urn.same {H H' : Hp} {u : Addr} (hu : Urn H u) (k : Same H H') : Urn H' u := by
  obtain ⟨a, b, c, hu⟩ := hu
  exact ⟨a, b, c, k _ _ hu⟩
theorem Urn.ne {H : Hp} {u p : Addr} (hu : Urn H u) (hp : H p = none) : p ≠ u := fun e => by
  obtain ⟨a, b, c, hu⟩ := hu
  rw [e, hu] at hp
  cases hp
def spOf (K : PySem.W.Frag) : Sp := fun vs H Q _ => ∃ (u p : Addr) (xs : List V), vs = [.ref u, .ref p] ∧ p ≠ u ∧ SqL K H p xs ∧ 0 < xs.length ∧ xs.length < 1073741824 ∧ Urn H u ∧ ∀ (i : Nat) v H', xs[i]? = some v → Urn H' u → But (· = u) H H' → Q v H'
/-- new things, one behind the other -/
def Laid (l : List (Addr × HO)) (H0 H : Hp) : Prop := Same H0 H ∧ ∀ p ∈ l, H0 p.1 = none ∧ H p.1 = some p.2
theorem Laid.nil (H : Hp) : Laid [] H H := ⟨Same.refl H, fun _ h => by cases h⟩
theorem Laid.step {l : List (Addr × HO)} {H0 H : Hp} (h : Laid l H0 H) {p : Addr} {o : HO} (hp : H p = none) : Laid ((p, o) :: l) H0 (upd H p o) :=
  ⟨h.1.step hp, fun q hq => by
    rcases List.mem_cons.mp hq with e | hq
    · rw [e]
      exact ⟨h.1.free hp, upd_same⟩
    · exact ⟨(h.2 q hq).1, Same.new hp _ _ (h.2 q hq).2⟩⟩
section
variable {P : Program} {w : World} {K : PySem.W.Frag} {mg : Str → Option Value} {base : Heap}
theorem ok_law_take (T : Txt P K mg) : FnOk P w K mg base CX0 1 T.f_law_take T.d_law_take ["urn", "many"] spTake := by
  refine T.F_law_take.ok sc_law_take (fun vs H Q E h => by obtain ⟨u, many, rfl, _⟩ := h; rfl) (fun cdv A outer s H vs Q E hr h => ⟨_, (pss_cons (ps_if (pt_cmpR op_gt (pe_ix ix_list (pv 0) pe_int (fun _ _ => rfl)) pe_int (nomark _))
      (pss_cons (ps_asg (pe_callB call_divmod rfl T.z_divmod (by decide +kernel) (pa_cons (pe_ix ix_list (pv 0) pe_int (fun _ _ => rfl)) (pa_cons (pv 1) pa_nil))) (pg_tup rfl (pgs_cons (pg_sub (pv 0) pe_int set_list) (pgs_cons (pg_name (i := 2) sc_law_take.nd rfl (by first | exact Or.inl rfl | exact Or.inr rfl)) pgs_nil))))
      (pss_one (ps_ret (pv 2)))) pss_nil)
      (pss_cons (ps_asg (pe_op op_add (pe_ix ix_list (pv 0) pe_int (fun _ _ => rfl)) pe_int) (pg_sub (pv 0) pe_int set_list))
      (pss_cons (ps_set (i := 3) sc_law_take.nd rfl (Or.inl rfl) (pe_op op_mod (pe_callTy call_int1 rfl T.z_int (by decide +kernel) (pa_cons (pe_op op_add (pe_op op_mul (pe_ix ix_list (pv 0) pe_int (fun _ _ => rfl)) pe_int) (pe_op op_mul pe_int (pe_ix ix_list (pv 0) pe_int (fun _ _ => rfl)))) pa_nil)) pe_int))
      (pss_cons (ps_asg (pe_op op_mod (pe_callTy call_int1 rfl T.z_int (by decide +kernel) (pa_cons (pe_op op_add (pe_op op_mul (pv 3) (pe_op op_add (pe_op op_mod (pe_callTy call_int1 rfl T.z_int (by decide +kernel) (pa_cons (pv 3) pa_nil)) pe_int) pe_int)) (pe_op op_mul pe_int (pe_ix ix_list (pv 0) pe_int (fun _ _ => rfl)))) pa_nil)) pe_int) (pg_sub (pv 0) pe_int set_list))
      (pss_one (ps_ret (pe_op op_mod (pe_callTy call_int1 rfl T.z_int (by decide +kernel) (pa_cons (pe_op op_fdiv (pe_ix ix_list (pv 0) pe_int (fun _ _ => rfl)) pe_int) pa_nil)) (pv 1)))))))), ?_⟩)
  obtain ⟨u, many, rfl, h1, h2, ⟨a, b, c, hu⟩, q⟩ := h
  refine ⟨_, rfl, u, _, _, _, rfl, rfl, .of hu, rfl, _, _, rfl, rfl, _, rfl, ?_⟩
  refine ite2 (fun hc => ?_) (fun hc => ?_)
  · refine ⟨_, rfl, u, _, _, _, rfl, rfl, .of hu, rfl, _, rfl, a, many, rfl, ?_, fun p hp => ?_⟩
    · exact ⟨h1, h2⟩
    · have n1 : u ≠ p := ne_of_none hu hp
      refine ⟨p, _, rfl, .of upd_same, rfl, ?_⟩
      refine ⟨_, _, rfl, ⟨_, rfl, u, _, _, 0, rfl, rfl, (by rw [upd_ne n1]; exact hu), rfl, ?_⟩⟩
      refine ⟨_, _, rfl, rfl, ?_⟩
      refine ⟨_, rfl, q _ _ (Int.emod_nonneg _ (by omega)) (Int.emod_lt_of_pos _ h1) ⟨_, _, _, upd_same⟩ ?_⟩
      exact ((Same.new hp).but (S := (· = u))).put rfl
  · refine ⟨_, rfl, u, _, _, _, rfl, rfl, .of hu, rfl, _, _, rfl, rfl, ?_⟩
    refine ⟨_, rfl, u, _, _, 2, rfl, rfl, hu, rfl, ?_⟩
    refine ⟨_, rfl, u, _, _, _, rfl, rfl, .of upd_same, rfl, _, _, rfl, rfl, .inr ⟨by decide, by decide⟩, _, rfl, u, _, _, _, rfl, rfl, .of upd_same, rfl, _, _, rfl, rfl, .inl ⟨by decide, by decide⟩, _, _, rfl, rfl, .inl ⟨_, rfl, ?_⟩⟩
    refine ⟨_, _, rfl, rfl, (by show (0 : Int) < 2147483629; decide), ?_⟩
    refine ⟨_, rfl, _, rfl, .inl ⟨_, rfl, _, _, rfl, rfl, (by show (0 : Int) < 5003; decide), _, _, rfl, rfl, _, _, rfl, rfl, .inr ?_, ?_⟩⟩
    · have hb : ∀ z : Int, 0 ≤ z % 5003 ∧ z % 5003 < 5003 := fun z => ⟨Int.emod_nonneg _ (by decide), Int.emod_lt_of_pos _ (by decide)⟩
      constructor
      · have := (hb ((b * 40009 + 15013 * (c + 1)) % 2147483629)).1
        show (-(2 ^ 64) : Int) < (b * 40009 + 15013 * (c + 1)) % 2147483629 % 5003 + 30011
        omega
      · have := (hb ((b * 40009 + 15013 * (c + 1)) % 2147483629)).2
        show (b * 40009 + 15013 * (c + 1)) % 2147483629 % 5003 + 30011 < (2 ^ 64 : Int)
        omega
    · refine ⟨_, rfl, u, _, _, _, rfl, rfl, .of upd_same, rfl, _, _, rfl, rfl, .inl ⟨by decide, by decide⟩, _, _, rfl, rfl, .inl ⟨_, rfl, _, _, rfl, rfl, (by show (0 : Int) < 2147483629; decide), ?_⟩⟩
      refine ⟨_, rfl, u, _, _, 1, rfl, rfl, upd_same, rfl, ?_⟩
      refine ⟨_, rfl, u, _, _, _, rfl, rfl, .of upd_same, rfl, _, _, rfl, rfl, ⟨by decide, by decide⟩, .inl ⟨_, rfl, _, rfl, _, _, rfl, rfl, h1, ?_⟩⟩
      refine q _ _ (Int.emod_nonneg _ (by omega)) (Int.emod_lt_of_pos _ h1) ⟨_, _, _, upd_same⟩ ?_
      exact (But.set (S := (· = u)) rfl).put rfl
theorem ok_law_urn (T : Txt P K mg) : FnOk P w K mg base CX0 1 T.f_law_urn T.d_law_urn ["script", "lap"] (spUrn K) := by
  refine T.F_law_urn.ok sc_law_urn (fun vs H Q E h => by obtain ⟨a, ns, lap, rfl, _⟩ := h; rfl) (fun cdv A outer s H vs Q E hr h => ⟨_, (pss_cons (ps_set (i := 2) sc_law_urn.nd rfl (Or.inl rfl) (pe_op op_add pe_int (pe_op op_mul pe_int (pv 1))))
      (pss_cons (ps_for PassesOwn.never rfl (pi_list (pe_slice sl_list (pv 0) po_none (po_some pe_int))) (pg_name (i := 3) sc_law_urn.nd rfl (by first | exact Or.inl rfl | exact Or.inr rfl))
      (pss_one (ps_set (i := 2) sc_law_urn.nd rfl (Or.inl rfl) (pe_op op_mod (pe_callTy call_int1 rfl T.z_int (by decide +kernel) (pa_cons (pe_op op_add (pe_op op_add (pe_op op_mul (pv 2) pe_int) (pe_op op_mul (pe_op op_mod (pe_callTy call_int1 rfl T.z_int (by decide +kernel) (pa_cons (pv 3) pa_nil)) pe_int) pe_int)) pe_int) pa_nil)) pe_int))))
      (pss_cons (ps_set (i := 4) sc_law_urn.nd rfl (Or.inl rfl) (pe_ifExp (pt_cmpR op_lt (pv 1) (pe_callB call_len_seq rfl T.z_len (by decide +kernel) (pa_cons (pv 0) pa_nil)) (nomark _)) (pe_callTy call_int1 rfl T.z_int (by decide +kernel) (pa_cons (pe_ix ix_list (pv 0) (pv 1) (fun _ _ => rfl)) pa_nil)) pe_int))
      (pss_cons (ps_set (i := 2) sc_law_urn.nd rfl (Or.inl rfl) (pe_op op_mod (pe_callTy call_int1 rfl T.z_int (by decide +kernel) (pa_cons (pe_op op_add (pe_op op_add (pe_op op_mul (pv 2) pe_int) (pe_op op_mul (pe_op op_mod (pe_callTy call_int1 rfl T.z_int (by decide +kernel) (pa_cons (pv 4) pa_nil)) pe_int) pe_int)) pe_int) pa_nil)) pe_int))
      (pss_one (ps_ret (pe_lst (pa_cons (pe_ifExp (PW.pt (pw_or (pt_cmpR op_lt (pv 4) pe_int (nomark _)) (pw_or1 (pt_cmpR op_ge (pv 4) (pe_op op_pow pe_int pe_int) (nomark _))))) (pe_callB call_abs rfl T.z_abs (by decide +kernel) (pa_cons (pv 4) pa_nil)) pe_int) (pa_cons (pv 2) (pa_cons pe_int pa_nil)))))))))), ?_⟩)
  obtain ⟨a, ns, lap, rfl, h0, h1, q⟩ := h
  refine ⟨_, rfl, _, _, rfl, rfl, .inl ⟨by decide, by decide⟩, _, _, rfl, rfl, ?_⟩
  refine ⟨_, rfl, _, rfl, a, _, rfl, h1, fun l hl => ⟨l, rfl, ⟨_, .of upd_same⟩, ?_⟩⟩
  refine for_list (K := K) (a := l) (xs := cutV (ns.map V.int) none (some 9)) (fun i σ H' => ∃ (st : Int) (cv : Option V), σ = [some (.ref a), some (.int lap), some (.int st), cv, none] ∧ H' = upd H l (.lst (cutV (ns.map V.int) none (some 9)))) ⟨_, none, rfl, rfl⟩ (fun i σ H' _ ⟨st, cv, _, e⟩ => by rw [e]; exact .of upd_same) ?_ ?_
  · rintro i x σ H' hi ⟨st, cv, rfl, rfl⟩
    obtain ⟨z, hz, rfl⟩ : ∃ z, z ∈ ns ∧ V.int z = x := List.mem_map.mp (cutV_mem (List.mem_of_getElem? hi))
    refine ⟨_, rfl, _, _, rfl, rfl, .inr ⟨by decide, by decide⟩, _, rfl, .inl ⟨_, rfl, _, _, rfl, rfl, (by show (0 : Int) < 2147483477; decide), _, _, rfl, rfl, .inr ⟨by decide, by decide⟩, _, _, rfl, rfl, _, _, rfl, rfl, .inl ⟨_, rfl, _, _, rfl, rfl, (by show (0 : Int) < 2147483629; decide), ?_⟩⟩⟩
    exact ⟨_, _, rfl, rfl⟩
  · rintro σ H' ⟨st, cv, rfl, rfl⟩
    have sm : Same H (upd H l (.lst (cutV (ns.map V.int) none (some 9)))) := Same.new hl
    have h1' := sm.seq h1
    refine ⟨_, rfl, _, rfl, a, _, rfl, .inl h1', _, _, rfl, rfl, _, rfl, ?_⟩
    refine ite2 (fun hc => ?_) (fun hc => ?_)
    · have hlt : lap < ((ns.map V.int).length : Int) := of_decide_eq_true hc
      rw [List.length_map] at hlt
      have hat : (ns.map V.int)[lap.toNat]? = some (.int (ns[lap.toNat]'(by omega))) := by
        rw [List.getElem?_map, List.getElem?_eq_getElem (by omega)]
        rfl
      have hat2 := atI_nat hat
      rw [show ((lap.toNat : Nat) : Int) = lap by omega] at hat2
      refine ⟨_, rfl, _, rfl, a, _, _, _, rfl, rfl, h1', hat2, .inl ⟨_, rfl, ?_⟩⟩
      generalize ns[lap.toNat]'(by omega) = own
      refine ⟨_, rfl, _, _, rfl, rfl, .inr ⟨by decide, by decide⟩, _, rfl, .inl ⟨_, rfl, _, _, rfl, rfl, (by show (0 : Int) < 2147483477; decide), _, _, rfl, rfl, .inr ⟨by decide, by decide⟩, _, _, rfl, rfl, _, _, rfl, rfl, .inl ⟨_, rfl, _, _, rfl, rfl, (by show (0 : Int) < 2147483629; decide), ?_⟩⟩⟩
      refine ⟨_, rfl, _, _, rfl, rfl, _, rfl, ?_⟩
      refine ite2 (fun hd => ?_) (fun hd => ?_)
      · refine ⟨_, rfl, _, rfl, _, rfl, ?_⟩
        exact ⟨by show 3 ≤ sizeLine; decide, fun u hu => q u _ (sm.step hu) (by rw [upd_ne (fun e => by rw [e, upd_same] at hu; cases hu)] at hu; exact hu) ⟨_, _, _, upd_same⟩⟩
      · refine ⟨_, rfl, _, _, rfl, rfl, (by show (0 : Int) ≤ 15 ∧ (15 : Int) ≤ 1000000 ∧ (10 : Int).natAbs < 2 ^ 64; decide), _, _, rfl, rfl, _, rfl, ?_⟩
        refine ite2 (fun he => ?_) (fun he => ?_)
        · refine ⟨_, rfl, _, rfl, _, rfl, ?_⟩
          exact ⟨by show 3 ≤ sizeLine; decide, fun u hu => q u _ (sm.step hu) (by rw [upd_ne (fun e => by rw [e, upd_same] at hu; cases hu)] at hu; exact hu) ⟨_, _, _, upd_same⟩⟩
        · refine ⟨_, rfl, ?_⟩
          exact ⟨by show 3 ≤ sizeLine; decide, fun u hu => q u _ (sm.step hu) (by rw [upd_ne (fun e => by rw [e, upd_same] at hu; cases hu)] at hu; exact hu) ⟨_, _, _, upd_same⟩⟩
    · refine ⟨_, rfl, _, _, rfl, rfl, .inr ⟨by decide, by decide⟩, _, rfl, .inl ⟨_, rfl, _, _, rfl, rfl, (by show (0 : Int) < 2147483477; decide), _, _, rfl, rfl, .inr ⟨by decide, by decide⟩, _, _, rfl, rfl, _, _, rfl, rfl, .inl ⟨_, rfl, _, _, rfl, rfl, (by show (0 : Int) < 2147483629; decide), ?_⟩⟩⟩
      refine ⟨_, rfl, _, _, rfl, rfl, _, rfl, ?_⟩
      refine ite2 (fun hd => ?_) (fun hd => ?_)
      · refine ⟨_, rfl, _, rfl, _, rfl, ?_⟩
        exact ⟨by show 3 ≤ sizeLine; decide, fun u hu => q u _ (sm.step hu) (by rw [upd_ne (fun e => by rw [e, upd_same] at hu; cases hu)] at hu; exact hu) ⟨_, _, _, upd_same⟩⟩
      · refine ⟨_, rfl, _, _, rfl, rfl, (by show (0 : Int) ≤ 15 ∧ (15 : Int) ≤ 1000000 ∧ (10 : Int).natAbs < 2 ^ 64; decide), _, _, rfl, rfl, _, rfl, ?_⟩
        refine ite2 (fun he => ?_) (fun he => ?_)
        · refine ⟨_, rfl, _, rfl, _, rfl, ?_⟩
          exact ⟨by show 3 ≤ sizeLine; decide, fun u hu => q u _ (sm.step hu) (by rw [upd_ne (fun e => by rw [e, upd_same] at hu; cases hu)] at hu; exact hu) ⟨_, _, _, upd_same⟩⟩
        · refine ⟨_, rfl, ?_⟩
          exact ⟨by show 3 ≤ sizeLine; decide, fun u hu => q u _ (sm.step hu) (by rw [upd_ne (fun e => by rw [e, upd_same] at hu; cases hu)] at hu; exact hu) ⟨_, _, _, upd_same⟩⟩
theorem ok_law_of (T : Txt P K mg) : FnOk P w K mg base CX0 2 T.f_law_of T.d_law_of ["urn", "some"] (spOf K) := by
  refine T.F_law_of.ok sc_law_of (fun vs H Q E h => by obtain ⟨u, p, xs, rfl, _⟩ := h; rfl) (fun cdv A outer s H vs Q E hr h => ⟨_, (pss_one (ps_ret (pe_ix ix_list (pv 1) (pe_call (ok_law_take T) (hr.mono (by omega)) rfl T.g__law_take T.F_law_take.kp T.b_law_take .nil pass0 (pa_cons (pv 0) (pa_cons (pe_callB call_len_seq rfl T.z_len (by decide +kernel) (pa_cons (pv 1) pa_nil)) pa_nil))) (fun _ _ => rfl)))), ?_⟩)
  obtain ⟨u, p, xs, rfl, h0, h1, h2, h3, hu, q⟩ := h
  refine ⟨_, rfl, _, rfl, _, rfl, p, _, rfl, .inl h1, u, _, rfl, by omega, by omega, hu, fun k H' k1 k2 hu' kb => ?_⟩
  obtain ⟨n, rfl⟩ : ∃ n : Nat, k = n := ⟨k.toNat, by omega⟩
  have hat : xs[n]? = some xs[n] := List.getElem?_eq_getElem (by omega)
  exact ⟨p, _, _, _, rfl, rfl, kb.sqL h0 h1, atI_nat hat, q n _ _ hat hu' kb⟩
end
end K71
namespace K71
open PySem PySem.Spec PyProof.Rows L2 RZ
def spFirst (K : PySem.W.Frag) : Sp := fun vs H Q _ => ∃ (v : V) (q : Int × Int), vs = [v] ∧ Dp K H v (pairD q) ∧ ∀ H' t, Same H H' → Dp K H' (.ref t) (pairD (0 - q.1, q.2)) → Q (.ref t) H'
section
variable {P : Program} {w : World} {K : PySem.W.Frag} {mg : Str → Option Value} {base : Heap}
theorem ok_law_first (T : Txt P K mg) : FnOk P w K mg base CX0 1 T.f_law_first T.d_law_first ["pair"] (spFirst K) := by
  refine T.F_law_first.ok sc_law_first (fun vs H Q E h => by obtain ⟨v, q, rfl, _⟩ := h; rfl) (fun cdv A outer s H vs Q E hr h => ⟨_, (pss_one (ps_ret (pe_tup (pa_cons (pe_op op_sub pe_int (pe_ix ix_tup (pv 0) pe_int (fun _ _ => rfl))) (pa_cons (pe_ix ix_tup (pv 0) pe_int (fun _ _ => rfl)) pa_nil))))), ?_⟩)
  obtain ⟨v, p, rfl, hd, q⟩ := h
  obtain ⟨a, rfl, t1⟩ := pair_at hd
  refine ⟨_, rfl, a, _, _, _, rfl, rfl, t1, rfl, _, _, rfl, rfl, _, rfl, a, _, _, _, rfl, rfl, t1, rfl, by show 2 ≤ sizeLine; decide, fun t ht => ?_⟩
  exact q _ t (Same.new ht) (.tup (.of upd_same) (.cons (.int _) (.cons (.int _) .nil)))
theorem ok_law_bound (T : Txt P K mg) : FnOk P w K mg base CX0 1 T.f_law_bound T.d_law_bound ["row", "depth", "key"] (spBound K) := by
  refine T.F_law_bound.ok sc_law_bound (fun vs H Q E h => by obtain ⟨v, r, d, k, rfl, _⟩ := h; rfl) (fun cdv A outer s H vs Q E hr h => ⟨_, (pss_cons (ps_if (PW.pt (pw_or (pt_cmpR op_eq (pv 1) (pe_callB call_len_seq rfl T.z_len (by decide +kernel) (pa_cons (pv 0) pa_nil)) (nomark _)) (pw_or1 (pt_cmpR op_eq (pv 1) pe_int (nomark _)))))
      (pss_one (ps_ret (pe_ifExp (pt_cmpR op_eq (pv 1) (pe_callB call_len_seq rfl T.z_len (by decide +kernel) (pa_cons (pv 0) pa_nil)) (nomark _)) pe_int pe_int))) pss_nil)
      (pss_cons (ps_asg (pe_ix ix_tup (pv 0) (pe_op op_sub (pv 1) pe_int) (fun _ _ => rfl)) (pg_tup rfl (pgs_cons (pg_name (i := 3) sc_law_bound.nd rfl (by first | exact Or.inl rfl | exact Or.inr rfl)) (pgs_cons (pg_name (i := 4) sc_law_bound.nd rfl (by first | exact Or.inl rfl | exact Or.inr rfl)) pgs_nil))))
      (pss_one (ps_ret (pe_ifExp (pt_cmpR op_gt (pv 2) (pv 4) (nomark _)) (pv 3) (pe_op op_sub (pv 3) pe_int)))))), ?_⟩)
  obtain ⟨v, r, d, k, rfl, hd, hl, h40, q⟩ := h
  obtain ⟨a, xs, rfl, sq, da⟩ := tup_at hd
  obtain ⟨len, get⟩ := map_get da
  refine ⟨_, rfl, _, rfl, a, xs, rfl, .inr sq, rfl, _, rfl, ?_⟩
  rw [len]
  by_cases c : d = r.length
  · refine iteB (by simp [c]) ?_
    refine iteT ⟨_, rfl, _, rfl, a, xs, rfl, .inr sq, rfl, _, rfl, ?_⟩
    rw [len]
    have e : bound r d k = 0 := by unfold bound; rw [if_pos c]
    rw [e] at q
    exact iteB (by simp [c]) q
  refine iteB' (by simp; omega) ?_
  by_cases c0 : d = 0
  · have e : bound r d k = 999 := by
      unfold bound
      rw [if_neg c]
      cases r[d - 1]? <;> simp [c0]
    rw [e] at q
    refine ⟨_, rfl, rfl, _, rfl, iteB (by simp [c0]) ⟨_, rfl, _, rfl, a, xs, rfl, .inr sq, rfl, _, rfl, ?_⟩⟩
    rw [len]
    exact iteB' (by simp; omega) q
  refine ⟨_, rfl, rfl, _, rfl, iteB' (by simp; omega) ?_⟩
  obtain ⟨p, hp⟩ : ∃ p, r[d - 1]? = some p := ⟨_, List.getElem?_eq_getElem (by omega)⟩
  obtain ⟨x, hx, hxd⟩ := get_of da hp
  obtain ⟨b, rfl, t1⟩ := pair_at hxd
  have e : bound r d k = if p.2 < k then p.1 else p.1 - 1 := by
    unfold bound
    rw [if_neg c, hp]
    simp [c0]
  rw [e] at q
  refine ⟨_, rfl, _, rfl, _, _, rfl, rfl, a, xs, _, _, rfl, rfl, sq, (by rw [show ((d : Int) - 1) = ((d - 1 : Nat) : Int) by omega]; exact atI_nat hx), ?_⟩
  refine ⟨b, _, rfl, t1, rfl, _, _, rfl, _, _, rfl, rfl, ?_⟩
  refine ⟨_, rfl, _, rfl, _, _, rfl, rfl, _, rfl, ?_⟩
  by_cases c2 : p.2 < k
  · rw [if_pos c2] at q
    exact iteB (decide_eq_true c2) ⟨_, rfl, q⟩
  · rw [if_neg c2] at q
    exact iteB' (decide_eq_false c2) ⟨_, rfl, _, _, rfl, rfl, q⟩
end
end K71
namespace K71
open PySem PySem.Spec PyProof.Rows L2 RZ
theorem gname_of {i : Nat} {v : V} {σ : L2.St} {H : Hp} {Q : L2.St → Hp → Prop} (h : Q (σ.set i (some v)) H) : gName i v σ H Q := h
def spLSums (K : PySem.W.Frag) : Sp := fun vs H Q _ => ∃ (v w : V) (rs : List Row) (ds : List Nat) (k : Int), vs = [v, w, .int k] ∧ Dp K H v (rowsD rs) ∧ Dp K H w (depD ds) ∧ DepOk rs ds ∧ (∀ r ∈ rs, RowOk r) ∧ rs.length ≤ 4 ∧
  ∀ H' t, Same H H' → Dp K H' (.ref t) (pairD (lowS rs ds k, topS rs ds k)) → Q (.ref t) H'
section
variable {P : Program} {w : World} {K : PySem.W.Frag} {mg : Str → Option Value} {base : Heap}
theorem ok_law_sums (T : Txt P K mg) : FnOk P w K mg base CX0 2 T.f_law_sums T.d_law_sums ["lists", "depths", "key"] (spLSums K) := by
  refine T.F_law_sums.ok sc_law_sums (fun vs H Q E h => by obtain ⟨v, w, rs, ds, k, rfl, _⟩ := h; rfl) (fun cdv A outer s H vs Q E hr h => ⟨_, (pss_cons (ps_asg (pe_tup (pa_cons pe_int (pa_cons pe_int pa_nil))) (pg_tup rfl (pgs_cons (pg_name (i := 3) sc_law_sums.nd rfl (by first | exact Or.inl rfl | exact Or.inr rfl)) (pgs_cons (pg_name (i := 4) sc_law_sums.nd rfl (by first | exact Or.inl rfl | exact Or.inr rfl)) pgs_nil))))
      (pss_cons (ps_for PassesOwn.never rfl (pi_zipA rfl T.z_zip (pa_cons (pv 0) (pa_cons (pv 1) pa_nil))) (pg_tup rfl (pgs_cons (pg_name (i := 5) sc_law_sums.nd rfl (by first | exact Or.inl rfl | exact Or.inr rfl)) (pgs_cons (pg_name (i := 6) sc_law_sums.nd rfl (by first | exact Or.inl rfl | exact Or.inr rfl)) pgs_nil)))
      (pss_cons (ps_setLc (i := 7) (own := [("points", 8), ("other", 9)]) (g := gTup K 2 (gCons (gName 8) (gCons (gName 9) gNil))) rfl sc_law_sums.nd rfl rfl (sw_true rfl rfl rfl (by decide +kernel)) (pi_tup (pe_slice sl_tupW (pv 5) po_none (po_some (pv 6)))) (blkOk_by (own := [("points", 8), ("other", 9)]) (N := N_law_sums) (sc := defScope s_law_sums) (by decide +kernel)) (fun _ _ _ _ _ => (pg_tup rfl (pgs_cons (pg_name (i := 8) sc_law_sums.nd rfl (by first | exact Or.inl rfl | exact Or.inr rfl)) (pgs_cons (pg_name (i := 9) sc_law_sums.nd rfl (by first | exact Or.inl rfl | exact Or.inr rfl)) pgs_nil)))) (fun _ _ _ _ _ => (by exact pts_one (pt_cmpR op_eq (pv 9) (pv 2) (nomark _)))) (fun _ _ _ _ _ => (by exact (pv 8))))
      (pss_cons (ps_set (i := 3) sc_law_sums.nd rfl (Or.inl rfl) (pe_op op_add (pv 3) (pe_callB (cr_sum rfl) rfl T.z_sum (by decide +kernel) (pa_cons (pv 7) pa_nil))))
      (pss_one (ps_set (i := 4) sc_law_sums.nd rfl (Or.inl rfl) (pe_op op_add (pv 4) (pe_ifExp (pt_cmpR (op_neNil (by exact Nat.lt_of_succ_lt (hu_of hr))) (pv 7) (pe_lst pa_nil) (nomark _)) (pe_ix ix_list (pv 7) pe_int (fun _ _ => rfl)) (pe_call (ok_law_bound T) (hr.mono (by omega)) rfl T.g__law_bound T.F_law_bound.kp T.b_law_bound .nil pass0 (pa_cons (pv 5) (pa_cons (pv 6) (pa_cons (pv 2) pa_nil)))))))))))
      (pss_one (ps_ret (pe_tup (pa_cons (pv 3) (pa_cons (pv 4) pa_nil))))))), ?_⟩)
  obtain ⟨v, w, rs, ds, k, rfl, hd, hw, ok, oks, h4, q⟩ := h
  obtain ⟨a, xs, rfl, sq, da⟩ := tup_at hd
  obtain ⟨len, get⟩ := map_get da
  obtain ⟨b, ys, rfl, sb, db⟩ := tup_at hw
  obtain ⟨lenb, getb⟩ := map_get db
  refine ⟨by show 2 ≤ sizeLine; decide, fun p0 hp0 => ?_⟩
  refine ⟨p0, _, rfl, .of upd_same, rfl, _, _, rfl, _, _, rfl, rfl, ?_⟩
  have s0 := Same.new (o := .tup [.int 0, .int 0]) hp0
  refine ⟨_, rfl, _, rfl, a, b, xs, ys, rfl, .inr ⟨s0.sqT sq, s0.sqT sb, ?_⟩⟩
  refine for_zipT (xs := xs) (ys := ys) (by have := ok.len; omega) (fun i σ H' => ∃ (x5 x6 x7 : Option V) (l m : Int), σ = [some (.ref a), some (.ref b), some (.int k), some (.int l), some (.int m), x5, x6, x7, none, none] ∧ l = ((lowL rs ds k).take i).sum ∧ m = ((topL rs ds k).take i).sum ∧ Same H H')
    ⟨none, none, none, 0, 0, rfl, rfl, rfl, s0⟩ (fun i σ H' h => by obtain ⟨_, _, _, _, _, _, _, _, kk⟩ := h; exact ⟨kk.sqT sq, kk.sqT sb⟩) ?_ ?_
  · rintro i x y t σ H1 hx hy ⟨x5, x6, x7, l, m, rfl, hl, hm, kk⟩ ht
    obtain ⟨r, hr1, hr2⟩ := get i x hx
    obtain ⟨d, hd1, hd2⟩ := getb i y hy
    cases hd2
    obtain ⟨ra, rxs, rfl, rsq, rda⟩ := tup_at hr2
    obtain ⟨rlen, rget⟩ := map_get rda
    have okr := oks r (List.mem_of_getElem? hr1)
    have dle := ok.le i r d hr1 hd1
    have zip : (rs.zip ds)[i]? = some (r, d) := by
      rw [List.getElem?_zip_eq_some]
      exact ⟨hr1, hd1⟩
    have eL : (lowL rs ds k)[i]? = some (low1 r d k) := by unfold lowL; rw [List.getElem?_map, zip]; rfl
    have eT : (topL rs ds k)[i]? = some (top1 r d k) := by unfold topL; rw [List.getElem?_map, zip]; rfl
    have sums := sum_next eL
    have tops := sum_next eT
    have k2 := kk.step (o := .tup [.ref ra, .int (d : Int)]) ht
    refine ⟨t, _, rfl, .of upd_same, rfl, _, _, rfl, _, _, rfl, rfl, ?_⟩
    generalize upd H1 t (.tup [.ref ra, .int (d : Int)]) = H2 at k2 ⊢
    refine ⟨_, rfl, _, rfl, _, rfl, ra, rxs, rfl, k2.sqT rsq, fun c H3 k3 sc => ⟨c, rfl, ⟨_, sc⟩, fun D hD => ?_⟩⟩
    rw [cut_to] at sc
    have k13 := k2.trans k3
    refine lc_tup (K := K) (a := c) (xs := rxs.take d) (fun j H' => H' D = some (.lst ((rd r j k).map V.int)) ∧ Same H3 H') ⟨upd_same, Same.new hD⟩ (fun j H' _ h => h.2.sqT sc) ?_ ?_
    · rintro j z H4 hz ⟨g1, g2⟩
      have hj : j < d := by
        have := (List.getElem?_eq_some_iff.mp hz).1
        rw [List.length_take] at this
        omega
      rw [List.getElem?_take_of_lt hj] at hz
      obtain ⟨p, hp1, hp2⟩ := rget j z hz
      obtain ⟨pb, rfl, t1⟩ := pair_at (Dp.keep (k13.trans g2).tupK _ _ (pair_imm p) hp2)
      have nx := rd_next hp1 k
      refine ⟨pb, _, rfl, t1, rfl, _, _, rfl, _, _, rfl, rfl, rfl, _, rfl, _, rfl, rfl, _, rfl, ?_⟩
      by_cases e : p.2 = k
      · rw [if_pos e] at nx
        refine iteB (by simp [e]) ⟨_, rfl, _, g1, ?_, ?_, g2.own hD⟩
        · rw [List.length_map]
          have : (rd r j k).length ≤ j := by
            unfold rd
            rw [List.length_map]
            exact Nat.le_trans (List.length_filter_le _ _) (by rw [List.length_take]; exact Nat.min_le_left _ _)
          have := okr.len
          exact Nat.lt_of_le_of_lt (show _ ≤ 40 by omega) (by decide)
        · rw [upd_same, nx, List.map_append]
          rfl
      · rw [if_neg e, List.append_nil] at nx
        refine iteB' (by simp [e]) ⟨?_, g2⟩
        rw [nx]
        exact g1
    rintro H4 ⟨g1, g2⟩
    rw [show (rxs.take d).length = d by rw [List.length_take]; omega] at g1
    have k14 := k13.trans g2
    refine gname_of ?_
    refine ⟨_, rfl, _, rfl, D, rd r d k, rfl, .of g1, _, _, rfl, rfl, ?_⟩
    refine ⟨_, rfl, _, rfl, Nat.zero_le _, fun n0 hn0 => ?_⟩
    have s5 := Same.new (o := .lst []) hn0
    refine ⟨D, n0, _, rfl, rfl, .of (s5 _ _ g1), .of upd_same, _, rfl, ?_⟩
    have k15 := k14.trans s5
    rcases rd_cases okr d k with w0 | ⟨q0, w0, _, _⟩
    · refine iteB' (by rw [w0]; rfl) ?_
      have e1 : low1 r d k = 0 := by unfold low1; rw [w0]; rfl
      have e2 : top1 r d k = bound r d k := by unfold top1; rw [w0]
      refine ⟨_, rfl, _, rfl, _, rfl, .ref ra, r, d, k, rfl, Dp.keep k15.tupK _ _ (row_imm r) hr2, dle, okr.len, ?_⟩
      refine ⟨_, _, rfl, rfl, _, _, _, l + (rd r d k).sum, m + bound r d k, rfl, ?_, by omega, k15⟩
      rw [w0]
      simp
      omega
    · refine iteB (by rw [w0]; rfl) ?_
      have e1 : low1 r d k = q0.1 := by unfold low1; rw [w0]; simp
      have e2 : top1 r d k = q0.1 := by unfold top1; rw [w0]
      refine ⟨_, rfl, D, _, 0, .int q0.1, rfl, rfl, .of (s5 _ _ g1), by rw [w0]; rfl, ?_⟩
      refine ⟨_, _, rfl, rfl, _, _, _, l + (rd r d k).sum, m + q0.1, rfl, ?_, by omega, k15⟩
      rw [w0]
      simp
      omega
  · rintro σ H1 ⟨x5, x6, x7, l, m, rfl, hl, hm, kk⟩
    refine ⟨_, rfl, _, rfl, by show 2 ≤ sizeLine; decide, fun t ht => ?_⟩
    have lz : (rs.zip ds).length = xs.length := by rw [List.length_zip, ok.len, len, Nat.min_self]
    rw [List.take_of_length_le (by unfold lowL; rw [List.length_map, lz]; exact Nat.le_refl _)] at hl
    rw [List.take_of_length_le (by unfold topL; rw [List.length_map, lz]; exact Nat.le_refl _)] at hm
    refine q _ t (kk.step ht) (.tup (.of upd_same) ?_)
    have h1 : lowS rs ds k = l := hl.symm
    have h2 : topS rs ds k = m := hm.symm
    rw [h1, h2]
    exact .cons (.int _) (.cons (.int _) .nil)
end
end K71
namespace K71
open PySem PySem.Spec PyProof.Rows L2 RZ
theorem But.join {u d : Addr} {H H1 H2 : Hp} (a : But (· = u) H H1) (hd : H d = none) (b : But (fun x => x = u ∨ x = d) H1 H2) : But (· = u) H H2 := fun x o n e => b x o (fun z => z.elim n (fun z => by rw [z, hd] at e; cases e)) (a x o n e)
theorem Urn.upd {H : Hp} {u p : Addr} {o : HO} (hu : Urn H u) (hp : p ≠ u) : Urn (upd H p o) u := by
  obtain ⟨a, b, c, hu⟩ := hu
  exact ⟨a, b, c, by rw [upd_ne (Ne.symm hp)]; exact hu⟩
theorem Urn.full {H : Hp} {u a : Addr} (hu : Urn H u) (e : a = u) : H a ≠ none := by
  obtain ⟨x, b, c, hu⟩ := hu
  rw [e, hu]
  exact fun z => nomatch z
theorem not_tup_dk {H : Hp} {a : Addr} {kvs : List (Key × V)} {ys : List V} (e : H a = some (.dK kvs)) : ¬ Rd H a (.tup ys) := fun r => by
  rcases r with r | ⟨o, r⟩ <;> rw [e] at r <;> cases r
theorem not_tup_frz {H : Hp} {a : Addr} {od : Obj} {kvs : List (Key × V)} {ys : List V} (e : H a = some (.frz od (.dK kvs))) : ¬ Rd H a (.tup ys) := fun r => by
  rcases r with r | ⟨o, r⟩ <;> rw [e] at r <;> cases r
theorem rowOf_next {t s : Row} {i : Nat} {q : Int × Int} (h : s[i]? = some q) : rowOf t (s.take (i + 1)) = rowOf t (s.take i) ++ (if keep t q = true then [lift q] else []) := by
  unfold rowOf
  rw [List.take_add_one, h, List.filter_append, List.map_append]
  congr 1
  by_cases c : keep t q = true <;> simp [c]
theorem rowOf_len (t s : Row) (i : Nat) : (rowOf t (s.take i)).length ≤ i := by
  unfold rowOf
  rw [List.length_map]
  exact Nat.le_trans (List.length_filter_le _ _) (by rw [List.length_take]; exact Nat.min_le_left _ _)
def spLists (K : PySem.W.Frag) : Sp := fun vs H Q _ => ∃ (u : Addr) (n m : Nat), vs = [.ref u, .int (n : Int), .int (m : Int)] ∧ n ≤ 4 ∧ m ≤ 12 ∧ Urn H u ∧
  ∀ H' p rs, Urn H' u → But (· = u) H H' → rs.length = n → (∀ r ∈ rs, RowOk r) → Dp K H' (.ref p) (rowsD rs) → Q (.ref p) H'
section
variable {P : Program} {w : World} {K : PySem.W.Frag} {mg : Str → Option Value} {base : Heap}
theorem ok_law_lists (T : Txt P K mg) : FnOk P w K mg base CX0 4 T.f_law_lists T.d_law_lists ["urn", "many", "most"] (spLists K) := by
  refine T.F_law_lists.ok sc_law_lists (fun vs H Q E h => by obtain ⟨u, n, m, rfl, _⟩ := h; rfl) (fun cdv A outer s H vs Q E hr h => ⟨_, (pss_cons (ps_par3 (i := 3) (j := 4) (l := 5) rfl sc_law_lists.nd rfl rfl rfl (by decide) (by decide) (by decide) rfl rfl rfl (pa_cons (pe_lst pa_nil) (pa_cons (pe_call (ok_law_of T) (hr.mono (by omega)) rfl T.g__law_of T.F_law_of.kp T.b_law_of .nil pass0 (pa_cons (pv 0) (pa_cons (pe_lst (pa_cons pe_int (pa_cons pe_int (pa_cons pe_int (pa_cons pe_int pa_nil))))) pa_nil))) (pa_cons (pe_call (ok_law_of T) (hr.mono (by omega)) rfl T.g__law_of T.F_law_of.kp T.b_law_of .nil pass0 (pa_cons (pv 0) (pa_cons (pe_lst (pa_cons pe_int (pa_cons pe_int (pa_cons pe_int (pa_cons pe_int pa_nil))))) pa_nil))) pa_nil))) (by rfl))
      (pss_cons (ps_for PassesOwn.never rfl (pi_range1 rfl T.z_range (pa_cons (pv 1) pa_nil)) (pg_name (i := 6) sc_law_lists.nd rfl (by first | exact Or.inl rfl | exact Or.inr rfl))
      (pss_cons (ps_set (i := 7) sc_law_lists.nd rfl (Or.inr rfl) pe_dnewK)
      (pss_cons (ps_for PassesOwn.never rfl (pi_range1 rfl T.z_range (pa_cons (pe_call (ok_law_take T) (hr.mono (by omega)) rfl T.g__law_take T.F_law_take.kp T.b_law_take .nil pass0 (pa_cons (pv 0) (pa_cons (pe_op op_add (pv 2) pe_int) pa_nil))) pa_nil)) (pg_name (i := 8) sc_law_lists.nd rfl (by first | exact Or.inl rfl | exact Or.inr rfl))
      (pss_one (ps_dput (by exact hu_of hr) (pv 7) (pe_op op_add (pe_op op_mul (pe_call (ok_law_of T) (hr.mono (by omega)) rfl T.g__law_of T.F_law_of.kp T.b_law_of .nil pass0 (pa_cons (pv 0) (pa_cons (pe_lst (pa_cons pe_int (pa_cons pe_int pa_nil))) pa_nil))) (pe_op op_sub pe_int (pv 4))) (pe_call (ok_law_take T) (hr.mono (by omega)) rfl T.g__law_take T.F_law_take.kp T.b_law_take .nil pass0 (pa_cons (pv 0) (pa_cons (pv 4) pa_nil)))) (pe_op op_add pe_int (pe_call (ok_law_take T) (hr.mono (by omega)) rfl T.g__law_take T.F_law_take.kp T.b_law_take .nil pass0 (pa_cons (pv 0) (pa_cons (pv 5) pa_nil)))) rfl)))
      (pss_cons (ps_lock (ps_setLc (i := 9) (own := [("key", 10)]) rfl sc_law_lists.nd rfl rfl (sw_true rfl rfl rfl (by decide +kernel)) (pi_keys (pv 7)) (blkOk_by (own := [("key", 10)]) (N := N_law_lists) (sc := defScope s_law_lists) (by decide +kernel)) (fun _ _ _ _ _ => (pg_name (i := 10) sc_law_lists.nd rfl (by first | exact Or.inl rfl | exact Or.inr rfl))) (fun _ _ _ _ _ => (by exact pts_one (PW.pt (pw_or (pt_cmpR op_ne (pv 10) pe_int (nomark _)) (pw_or1 (pt_cmp (pc_dnotin (by exact hu_of hr) pe_int (pv 7)) rfl)))))) (fun _ _ _ _ _ => (by exact (pe_tup (pa_cons (pe_dget (by exact hu_of hr) (pv 7) (pv 10) (fun _ _ => rfl)) (pa_cons (pe_callB (call_max2 rfl) rfl T.z_max (by decide +kernel) (pa_cons pe_int (pa_cons (pv 10) pa_nil))) pa_nil)))))))
      (pss_one (ps_expr (pe_bm PySem.F.plainAttrs_list PySem.F.slot_list_append PySem.F.type_list_append mt_append (pv 3) (pa_cons (pe_callTy call_tuple_of rfl T.z_tuple (by decide +kernel) (pa_cons (pe_callBK (call_sortedF (ok_law_first T) (hr.mono (by omega)) T.b_law_first (by exact hu64 hr)) rfl T.z_sorted (by decide +kernel) (pa_cons (pv 9) pa_nil) (pk_cons (pe_glob (v := .ref T.f_law_first) rfl T.g__law_first rfl) pk_nil)) pa_nil)) pa_nil))))))))
      (pss_one (ps_ret (pe_callTy call_tuple_of rfl T.z_tuple (by decide +kernel) (pa_cons (pv 3) pa_nil)))))), ?_⟩)
  obtain ⟨u, n, m, rfl, hn, hm, hu, q⟩ := h
  refine ⟨Nat.zero_le _, fun f hf => ?_⟩
  have nfu : f ≠ u := hu.ne hf
  refine ⟨_, rfl, by show 4 ≤ sizeLine; decide, fun p1 hp1 => ?_⟩
  refine ⟨u, p1, _, rfl, (hu.new hf).ne hp1, .of upd_same, by decide, by decide, (hu.new hf).new hp1, fun i1 v1 H1 hv1 u1 b1 => ?_⟩
  obtain ⟨keys, hk, rfl⟩ := ints_at (ns := [5, 12, 60, 999]) hv1
  have kb : 5 ≤ keys ∧ keys ≤ 999 := by simp at hk; omega
  refine ⟨_, rfl, by show 4 ≤ sizeLine; decide, fun p2 hp2 => ?_⟩
  refine ⟨u, p2, _, rfl, u1.ne hp2, .of upd_same, by decide, by decide, u1.new hp2, fun i2 v2 H2 hv2 u2 b2 => ?_⟩
  obtain ⟨high, hh, rfl⟩ := ints_at (ns := [2, 5, 40, 999]) hv2
  have hb : 2 ≤ high ∧ high ≤ 999 := by simp at hh; omega
  have f2 : H2 f = some (.lst []) := b2 _ _ nfu (Same.new hp2 _ _ (b1 _ _ nfu (Same.new hp1 _ _ upd_same)))
  have b02 : But (· = u) H H2 := ((((Same.new hf).step hp1).but.trans b1).new hp2).trans b2
  clear b1 b2 hv1 hv2 hk hh u1 hp1 hp2
  refine ⟨_, _, _, rfl, ?_⟩
  refine ⟨_, rfl, (n : Int), rfl, by omega, by omega, ?_⟩
  refine for_range (lo := 0) (n := (n : Int).toNat) (fun i σ H' => ∃ (x6 x7 x8 x9 : Option V) (acc : List V) (rs : List Row), σ = [some (.ref u), some (.int n), some (.int m), some (.ref f), some (.int keys), some (.int high), x6, x7, x8, x9, none] ∧
    H' f = some (.lst acc) ∧ DpAll K H' acc (rs.map rowD) ∧ rs.length = i ∧ (∀ r ∈ rs, RowOk r) ∧ Urn H' u ∧ But (· = u) H H') ⟨none, none, none, none, [], [], rfl, f2, .nil, rfl, (fun r hr => by cases hr), u2, b02⟩ ?_ ?_
  · rintro i σ H3 hi ⟨x6, x7, x8, x9, acc, rs, rfl, ef, hd, hl, oks, u3, b3⟩
    refine fun d hdn => ?_
    have nd : d ≠ u := u3.ne hdn
    have nf : d ≠ f := fun z => by rw [z, ef] at hdn; cases hdn
    have hd0 : H d = none := b3.free (fun a e => u3.full e) hdn
    have u4 := u3.new (o := .dK []) hdn
    have b4 : But (· = u) H (upd H3 d (.dK [])) := b3.new hdn
    have k34 : Same H3 (upd H3 d (.dK [])) := Same.new hdn
    have ed4 : upd H3 d (.dK []) d = some (.dK (dz [])) := upd_same
    generalize upd H3 d (.dK []) = H4 at u4 b4 k34 ed4 ⊢
    refine ⟨_, rfl, _, rfl, _, _, rfl, rfl, u, (m : Int) + 1, rfl, by omega, by omega, u4, fun k H5 k0 k1 u5 b5 => ?_⟩
    refine ⟨k, rfl, by omega, by omega, ?_⟩
    refine for_range (lo := 0) (n := k.toNat) (fun j σ H' => ∃ (x8 : Option V) (t : Row), σ = [some (.ref u), some (.int n), some (.int m), some (.ref f), some (.int keys), some (.int high), some (.int (0 + i)), some (.ref d), x8, x9, none] ∧
      H' d = some (.dK (dz t)) ∧ Tbl t j ∧ Urn H' u ∧ But (fun x => x = u ∨ x = d) H4 H') ⟨_, [], rfl, b5 _ _ nd ed4, ⟨Nat.le_refl _, (fun q h => by cases h), (fun q h => by cases h), .nil⟩, u5, b5.mono fun a => .inl⟩ ?_ ?_
    · rintro j σ H6 hj ⟨y8, t, rfl, ed, ht, u6, b6⟩
      refine ⟨_, rfl, _, rfl, u, high, rfl, by omega, by omega, u6, fun v H7 v0 v1 u7 b7 => ?_⟩
      refine ⟨_, _, rfl, rfl, _, rfl, _, rfl, by show 2 ≤ sizeLine; decide, fun p3 hp3 => ?_⟩
      refine ⟨u, p3, _, rfl, u7.ne hp3, .of upd_same, by decide, by decide, u7.new hp3, fun i3 w3 H8 hv3 u8 b8 => ?_⟩
      obtain ⟨w, hw, rfl⟩ := ints_at (ns := [1, 0]) hv3
      have wb : w = 1 ∨ w = 0 := by simpa using hw
      refine ⟨_, rfl, _, _, rfl, rfl, _, _, rfl, rfl, .inl (by rcases wb with rfl | rfl <;> decide), _, rfl, _, rfl, u, keys, rfl, by omega, by omega, u8, fun c H9 c0 c1 u9 b9 => ?_⟩
      have b69 : But (· = u) H6 H9 := ((b7.new hp3).trans b8).trans b9
      have ed9 := b69 _ _ nd ed
      obtain ⟨t', e', ht'⟩ := tbl_put (k := w * (1000 - keys) + c) (v := 1 + v) ht (by rcases wb with rfl | rfl <;> omega) (by rcases wb with rfl | rfl <;> omega) (by omega) (by omega)
      refine ⟨_, _, rfl, rfl, d, _, rfl, DPut.k (k := Sum.inl (w * (1000 - keys) + c)) ed9 ?_, ?_⟩
      · unfold dz
        rw [List.length_map]
        exact Nat.lt_of_le_of_lt (show _ ≤ 13 by have := ht.len; omega) (by decide)
      · rw [e']
        exact ⟨_, t', rfl, upd_same, ht', u9.upd nd, ((b6.trans (b69.mono fun a => .inl)).put (.inr rfl))⟩
    · rintro σ H6 ⟨y8, t, rfl, ed, ht, u6, b6⟩
      refine ⟨d, _, ed, trivial, fun od => ?_⟩
      have k6 : But (· = d) H6 (upd H6 d (.frz od (.dK (dz t)))) := But.set rfl
      have ez : upd H6 d (.frz od (.dK (dz t))) d = some (.frz od (.dK (dz t))) := upd_same
      generalize upd H6 d (.frz od (.dK (dz t))) = H7 at k6 ez ⊢
      refine ⟨_, rfl, d, od, rfl, .inl ⟨_, ez, fun D hD => ?_⟩⟩
      refine lc_it walk_keys (fun i H' => ∃ ps : List (V × (Int × Int)), H' D = some (.lst (ps.map (·.1))) ∧ ps.map (·.2) = rowOf t (t.take i) ∧ (∀ p ∈ ps, Dp K H' p.1 (pairD p.2)) ∧ Same H7 H') ⟨[], upd_same, rfl, (fun p hp => by cases hp), Same.new hD⟩ (fun i H' _ h => h.choose_spec.2.2.2 _ _ ez) ?_ ?_
      · rintro a x _ H8 ha ⟨ps, e1, e2, e3, k8⟩ ⟨rfl, key, v, hkv, rfl⟩
        obtain ⟨p, hp, e⟩ : ∃ p, t[a]? = some p ∧ (Sum.inl p.2, V.int p.1) = (key, v) := by
          unfold dz at hkv
          rw [List.getElem?_map] at hkv
          cases z : t[a]? with
          | none => rw [z] at hkv; cases hkv
          | some p => rw [z] at hkv; exact ⟨p, rfl, Option.some.inj hkv⟩
        cases e
        have nx := rowOf_next (t := t) hp
        have ez8 := k8 _ _ ez
        have la : ps.length ≤ a := by rw [← List.length_map (f := (·.2)), e2]; exact rowOf_len t t a
        have la2 : a < 13 := by
          have := (List.getElem?_eq_some_iff.mp hp).1
          have := ht.len
          omega
        refine ⟨rfl, ?_⟩
        have kept : ∀ {z : V} {T : Addr}, z = .ref T → H8 T = none → keep t p = true → ∃ acc, upd H8 T (.tup [.int p.1, .int (if p.2 > 1 then p.2 else 1)]) D = some (.lst acc) ∧ acc.length < sizeLine ∧
            ∃ ps : List (V × (Int × Int)), upd (upd H8 T (.tup [.int p.1, .int (if p.2 > 1 then p.2 else 1)])) D (.lst (acc ++ [z])) D = some (.lst (ps.map (·.1))) ∧ ps.map (·.2) = rowOf t (t.take (a + 1)) ∧ (∀ p' ∈ ps, Dp K (upd (upd H8 T (.tup [.int p.1, .int (if p.2 > 1 then p.2 else 1)])) D (.lst (acc ++ [z]))) p'.1 (pairD p'.2)) ∧
              Same H7 (upd (upd H8 T (.tup [.int p.1, .int (if p.2 > 1 then p.2 else 1)])) D (.lst (acc ++ [z]))) := by
          rintro z T rfl hT kp
          have nD : T ≠ D := fun z => by rw [z, e1] at hT; cases hT
          rw [if_pos kp] at nx
          refine ⟨_, Same.new hT _ _ e1, ?_, ps ++ [(.ref T, lift p)], ?_, ?_, ?_, (k8.step hT).own hD⟩
          · rw [List.length_map]
            exact Nat.lt_of_le_of_lt (show _ ≤ 13 by omega) (by decide)
          · rw [upd_same, List.map_append]
            rfl
          · rw [List.map_append, e2, nx]
            rfl
          · intro p' hp'
            have k1 := (Same.new (o := .tup [.int p.1, .int (if p.2 > 1 then p.2 else 1)]) hT).tupK
            have k2 : TupK (upd H8 T (.tup [.int p.1, .int (if p.2 > 1 then p.2 else 1)])) (upd (upd H8 T (.tup [.int p.1, .int (if p.2 > 1 then p.2 else 1)])) D (.lst (ps.map (·.1) ++ [.ref T]))) := But.tupK (S := (· = D)) (But.set rfl) fun c ys hc => by rw [hc]; exact not_tup_lst ((Same.new hT) _ _ e1)
            rcases List.mem_append.mp hp' with hp' | hp'
            · exact Dp.keep (k1.trans k2) _ _ (pair_imm _) (e3 p' hp')
            · rw [List.mem_singleton] at hp'
              rw [hp']
              refine .tup (.of ?_) (.cons (.int _) (.cons (.int _) .nil))
              rw [upd_ne nD, upd_same]
              rfl
        by_cases c0 : p.2 = 0
        · refine ⟨_, rfl, rfl, _, rfl, iteB' (by simp [c0, kV]) ?_⟩
          refine ⟨_, rfl, d, _, rfl, .inl ⟨dz t, Sum.inl 1, .inr ⟨od, ez8⟩, rfl, rfl⟩, _, rfl, ?_⟩
          rw [dz_in]
          by_cases c1 : (1 : Int) ∈ t.map (·.2)
          · refine iteB' (by simp [c1]) ?_
            have kp : ¬ keep t p = true := by unfold keep; simp [c0, c1]
            rw [if_neg kp, List.append_nil] at nx
            exact ⟨ps, e1, by rw [nx]; exact e2, e3, k8⟩
          · refine iteB (by simp [c1]) ?_
            have kp : keep t p = true := by unfold keep; simp [c1]
            refine ⟨_, rfl, _, rfl, d, .int p.1, rfl, .inl ⟨dz t, Sum.inl p.2, .inr ⟨od, ez8⟩, rfl, (dz_get ht.nod (List.mem_of_getElem? hp)).symm⟩, ?_⟩
            exact ⟨_, rfl, 1, p.2, rfl, by show 2 ≤ sizeLine; decide, fun T hT => kept rfl hT kp⟩
        · have kp : keep t p = true := by unfold keep; simp [c0]
          refine ⟨_, rfl, rfl, _, rfl, iteB (by simp [c0, kV]) (iteT ?_)⟩
          refine ⟨_, rfl, _, rfl, d, .int p.1, rfl, .inl ⟨dz t, Sum.inl p.2, .inr ⟨od, ez8⟩, rfl, (dz_get ht.nod (List.mem_of_getElem? hp)).symm⟩, ?_⟩
          exact ⟨_, rfl, 1, p.2, rfl, by show 2 ≤ sizeLine; decide, fun T hT => kept rfl hT kp⟩
      · rintro H8 ⟨ps, e1, e2, e3, k8⟩
        refine ⟨k8 _ _ ez, ?_⟩
        rw [show (dz t).length = t.length by unfold dz; rw [List.length_map], List.take_length] at e2
        have lo := rowOf_ok ht
        rw [← e2] at lo
        have nDd : D ≠ d := fun z => by rw [z, ez] at hD; cases hD
        have k89 : But (· = d) H8 (upd H8 d (.dK (dz t))) := But.set rfl
        have t89 : TupK H8 (upd H8 d (.dK (dz t))) := k89.tupK fun c ys hc => by rw [hc]; exact not_tup_frz (k8 _ _ ez)
        have b49 : But (fun x => x = u ∨ x = d) H4 (upd H8 d (.dK (dz t))) := ((b6.trans (k6.mono fun a => .inr)).trans k8.but).put (.inr rfl)
        have eD9 : upd H8 d (.dK (dz t)) D = some (.lst (ps.map (·.1))) := by rw [upd_ne nDd]; exact e1
        have u9 : Urn (upd H8 d (.dK (dz t))) u := by
          obtain ⟨x, y, z, hz⟩ := u6
          exact Urn.upd ⟨x, y, z, k8 _ _ (k6 _ _ (fun e => nd e.symm) hz)⟩ nd
        have dp9 : ∀ p ∈ ps, Dp K (upd H8 d (.dK (dz t))) p.1 (pairD p.2) := fun p hp => Dp.keep t89 _ _ (pair_imm _) (e3 p hp)
        generalize upd H8 d (.dK (dz t)) = H9 at b49 eD9 u9 dp9 ⊢
        have ef4 := k34 _ _ ef
        have ef9 := b49 _ _ (fun z => z.elim nfu (fun z => nf z.symm)) ef4
        refine ⟨_, rfl, .inl ⟨rfl, _, .of ef9⟩, _, rfl, D, ps.map (fun p => (p.1, keyD p.2)), rfl, rfl, .of (by rw [List.map_map]; exact eD9), ?_, ?_, ?_, ?_, fun g H10 k10 hg eg => ?_⟩
        · intro d1 h1 d2 h2
          rw [List.map_map] at h1 h2
          obtain ⟨a1, _, rfl⟩ := List.mem_map.mp h1
          obtain ⟨a2, _, rfl⟩ := List.mem_map.mp h2
          simp [keyD, PySem.W.alike, PySem.W.alikeAll]
        · refine .inl fun d1 h1 => ?_
          rw [List.map_map] at h1
          obtain ⟨a1, _, rfl⟩ := List.mem_map.mp h1
          exact ⟨_, _, rfl⟩
        · intro p hp
          obtain ⟨a1, _, rfl⟩ := List.mem_map.mp hp
          exact ⟨by simp [keyD, PyData.depth, PyData.depthAll], rfl⟩
        · intro p hp H' Q' s2 k2
          obtain ⟨a1, ha1, rfl⟩ := List.mem_map.mp hp
          exact ⟨a1.1, a1.2, rfl, Dp.keep s2.tupK _ _ (pair_imm _) (dp9 a1 ha1), fun H2 t s2 d2 => k2 (.ref t) H2 s2 d2⟩
        · rw [sort_keyD, List.map_map] at eg
          refine ⟨g, _, rfl, .inl ⟨.of eg, fun l hln => ?_⟩⟩
          have k11 := k10.step (o := .tup ((ps.mergeSort leP).map ((fun p : V × PyData => p.1) ∘ fun p : V × (Int × Int) => (p.1, keyD p.2)))) hln
          have el := @upd_same H10 l (.tup ((ps.mergeSort leP).map ((fun p : V × PyData => p.1) ∘ fun p : V × (Int × Int) => (p.1, keyD p.2))))
          generalize upd H10 l (.tup ((ps.mergeSort leP).map ((fun p : V × PyData => p.1) ∘ fun p : V × (Int × Int) => (p.1, keyD p.2)))) = H11 at k11 el ⊢
          have ef11 := k11 _ _ ef9
          have nlf : l ≠ f := fun z => by rw [z, ef11] at el; cases el
          have t12 : TupK H11 (upd H11 f (.lst (acc ++ [.ref l]))) := But.tupK (S := (· = f)) (But.set rfl) fun c ys hc => by rw [hc]; exact not_tup_lst ef11
          have t49 : TupK H4 H9 := b49.tupK fun c ys hc => by
            rcases hc with rfl | rfl
            · obtain ⟨x, y, z, hz⟩ := u4
              exact not_tup_lst hz
            · exact not_tup_dk ed4
          have el2 := (upd_ne (H := H11) (o := HO.lst (acc ++ [V.ref l])) nlf).trans el
          refine ⟨f, acc, .ref l, rfl, rfl, ef11, ?_, _, _, _, _, acc ++ [.ref l], rs ++ [(ps.mergeSort leP).map (·.2)], rfl, upd_same, ?_, ?_, ?_, ?_, ?_⟩
          · rw [DpAll.length hd, List.length_map]
            exact Nat.lt_of_le_of_lt (show _ ≤ 4 by omega) (by decide)
          · rw [List.map_append]
            refine DpAll.app (Dp.keepAll (((k34.tupK.trans t49).trans k11.tupK).trans t12) _ _ (immAll_map row_imm _) hd) (.cons (.tup (.of el2) ?_) .nil)
            · refine dp_map (f := pairD) fun p hp => ?_
              exact Dp.keep (k11.tupK.trans t12) _ _ (pair_imm _) (dp9 p ((List.mergeSort_perm ps leP).mem_iff.mp hp))
          · rw [List.length_append, hl]
            rfl
          · intro r hr
            rcases List.mem_append.mp hr with hr | hr
            · exact oks r hr
            · rw [List.mem_singleton] at hr
              rw [hr]
              exact leP_ok lo (by omega)
          · obtain ⟨x, y, z, hz⟩ := u9
            exact Urn.upd ⟨x, y, z, k11 _ _ hz⟩ nfu
          · exact ((But.join b4 hd0 b49).trans k11.but).own hf
  · rintro σ H3 ⟨x6, x7, x8, x9, acc, rs, rfl, ef, hd, hl, oks, u3, b3⟩
    refine ⟨_, rfl, f, acc, rfl, .inl ⟨.of ef, fun l hln => ?_⟩⟩
    exact q _ l rs (u3.new hln) (b3.new hln) (by omega) oks (.tup (.of upd_same) (Dp.keepAll (Same.new hln).tupK _ _ (immAll_map row_imm _) hd))
end
end K71
namespace K71
open PySem PySem.Spec PyProof.Rows L2 RZ
theorem inV_int (k : Int) : ∀ ns : List Int, inV (.int k) (ns.map V.int) = decide (k ∈ ns)
  | [] => rfl
  | a :: ns => by
    have ih := inV_int k ns
    unfold inV at ih ⊢
    rw [List.map_cons, List.any_cons, ih]
    show ((a == k) || decide (k ∈ ns)) = decide (k ∈ a :: ns)
    by_cases h : a = k
    · simp [h]
    · have h' : ¬ k = a := fun z => h z.symm
      simp [h, h']
theorem all_flat (ns : List Int) : (ns.map V.int).all flatV = true := by
  rw [List.all_eq_true]
  intro x hx
  obtain ⟨a, _, rfl⟩ := List.mem_map.mp hx
  rfl
theorem dpAll_take {K : PySem.W.Frag} {H : Hp} : ∀ {vs : List V} {ds : List PyData} (n : Nat), DpAll K H vs ds → DpAll K H (vs.take n) (ds.take n)
  | _, _, 0, _ => .nil
  | _, _, _ + 1, .nil => .nil
  | _, _, n + 1, .cons h t => .cons h (dpAll_take n t)
theorem dpAll_nats {K : PySem.W.Frag} {H : Hp} : ∀ ds : List Nat, DpAll K H (ds.map fun d : Nat => V.int (d : Int)) (ds.map natD)
  | [] => .nil
  | d :: ds => .cons (.int _) (dpAll_nats ds)
def spDepths (K : PySem.W.Frag) : Sp := fun vs H Q _ => ∃ (u : Addr) (v : V) (rs : List Row), vs = [.ref u, v] ∧ Dp K H v (rowsD rs) ∧ rs.length ≤ 4 ∧ (∀ r ∈ rs, RowOk r) ∧ Urn H u ∧
  ∀ H' p ds, Urn H' u → But (· = u) H H' → DepOk rs ds → Dp K H' (.ref p) (depD ds) → Q (.ref p) H'
def spTopped (K : PySem.W.Frag) : Sp := fun vs H Q _ => ∃ (v : V) (r : Row) (d : Nat) (k : Int), vs = [v, .int (d : Int), .int k] ∧ Dp K H v (rowD r) ∧ RowOk r ∧ d ≤ r.length ∧ 1 ≤ k ∧ k ≤ 999 ∧
  ∀ H' x, Same H H' → (x = .non ∨ ∃ t, Topped r d k t ∧ Dp K H' x (rowD t)) → Q x H'
section
variable {P : Program} {w : World} {K : PySem.W.Frag} {mg : Str → Option Value} {base : Heap}
theorem ok_law_depths (T : Txt P K mg) : FnOk P w K mg base CX0 3 T.f_law_depths T.d_law_depths ["urn", "lists"] (spDepths K) := by
  refine T.F_law_depths.ok sc_law_depths (fun vs H Q E h => by obtain ⟨u, v, rs, rfl, _⟩ := h; rfl) (fun cdv A outer s H vs Q E hr h => ⟨_, (pss_cons (ps_set (i := 2) sc_law_depths.nd rfl (Or.inl rfl) (pe_lst pa_nil))
      (pss_cons (ps_for PassesOwn.never rfl (pi_tup (pv 1)) (pg_name (i := 3) sc_law_depths.nd rfl (by first | exact Or.inl rfl | exact Or.inr rfl))
      (pss_one (ps_expr (pe_bm PySem.F.plainAttrs_list PySem.F.slot_list_append PySem.F.type_list_append mt_append (pv 2) (pa_cons (pe_call (ok_law_of T) (hr.mono (by omega)) rfl T.g__law_of T.F_law_of.kp T.b_law_of .nil pass0 (pa_cons (pv 0) (pa_cons (pe_lst (pa_cons pe_int (pa_cons (pe_callB call_len_seq rfl T.z_len (by decide +kernel) (pa_cons (pv 3) pa_nil)) (pa_cons (pe_call (ok_law_take T) (hr.mono (by omega)) rfl T.g__law_take T.F_law_take.kp T.b_law_take .nil pass0 (pa_cons (pv 0) (pa_cons (pe_op op_add (pe_callB call_len_seq rfl T.z_len (by decide +kernel) (pa_cons (pv 3) pa_nil)) pe_int) pa_nil))) (pa_cons (pe_call (ok_law_take T) (hr.mono (by omega)) rfl T.g__law_take T.F_law_take.kp T.b_law_take .nil pass0 (pa_cons (pv 0) (pa_cons (pe_op op_add (pe_callB call_len_seq rfl T.z_len (by decide +kernel) (pa_cons (pv 3) pa_nil)) pe_int) pa_nil))) pa_nil))))) pa_nil))) pa_nil)))))
      (pss_one (ps_ret (pe_callTy call_tuple_of rfl T.z_tuple (by decide +kernel) (pa_cons (pv 2) pa_nil)))))), ?_⟩)
  obtain ⟨u, v, rs, rfl, hd, h4, oks, hu, q⟩ := h
  obtain ⟨a, xs, rfl, sq, da⟩ := tup_at hd
  obtain ⟨len, get⟩ := map_get da
  refine ⟨Nat.zero_le _, fun f hf => ?_⟩
  have nfu : f ≠ u := hu.ne hf
  have s1 := Same.new (o := .lst []) hf
  have tu : ∀ {H' : Hp}, But (· = u) H H' → TupK H H' := fun k => hu.tupK k
  refine ⟨_, rfl, a, rfl, ⟨xs, s1.sqT sq⟩, ?_⟩
  refine for_it (walk_tup (K := K) (a := a) (xs := xs)) (fun i σ H' => ∃ (x3 : Option V) (ds : List Nat), σ = [some (.ref u), some (.ref a), some (.ref f), x3] ∧ H' f = some (.lst (ds.map fun d : Nat => V.int (d : Int))) ∧ ds.length = i ∧
    (∀ (j : Nat) (r : Row) (d : Nat), rs[j]? = some r → ds[j]? = some d → d ≤ r.length) ∧ Urn H' u ∧ But (· = u) H H') ⟨none, [], rfl, upd_same, rfl, (fun j r d _ h => by simp at h), hu.new hf, s1.but⟩ (fun i σ H' _ h => by obtain ⟨_, _, _, _, _, _, _, k⟩ := h; exact (tu k).sqT sq) ?_ ?_
  · rintro i x σ _ H1 hi ⟨x3, ds, rfl, ef, hl, ok, u1, b1⟩ ⟨rfl, hx⟩
    obtain ⟨r, hr1, hr2⟩ := get i x hx
    obtain ⟨ra, rxs, rfl, rsq, rda⟩ := tup_at (Dp.keep (tu b1) _ _ (row_imm r) hr2)
    obtain ⟨rlen, _⟩ := map_get rda
    have r40 := (oks r (List.mem_of_getElem? hr1)).len
    refine ⟨_, rfl, .inl ⟨rfl, _, .of ef⟩, _, rfl, _, rfl, ra, rxs, rfl, .inr rsq, ?_⟩
    refine ⟨_, rfl, _, rfl, ra, rxs, rfl, .inr rsq, _, _, rfl, rfl, u, _, rfl, by omega, by omega, u1, fun k1 H2 k10 k11 u2 b2 => ?_⟩
    have rsq2 := (u1.tupK b2).sqT rsq
    refine ⟨_, rfl, _, rfl, ra, rxs, rfl, .inr rsq2, _, _, rfl, rfl, u, _, rfl, by omega, by omega, u2, fun k2 H3 k20 k21 u3 b3 => ?_⟩
    refine ⟨by show 4 ≤ sizeLine; decide, fun p hp => ?_⟩
    refine ⟨u, p, _, rfl, u3.ne hp, .of upd_same, by show 0 < 4; decide, by show 4 < 1073741824; decide, u3.new hp, fun j w H4 hj u4 b4 => ?_⟩
    obtain ⟨k, hk, rfl⟩ := ints_at (ns := [0, (rxs.length : Int), k1, k2]) hj
    obtain ⟨d, rfl, hdl⟩ : ∃ d : Nat, k = d ∧ d ≤ r.length := by
      simp only [List.mem_cons, List.not_mem_nil, or_false] at hk
      exact ⟨k.toNat, by omega, by omega⟩
    have b14 : But (· = u) H1 H4 := (((b2.trans b3)).new hp).trans b4
    have ef4 := b14 _ _ nfu ef
    refine ⟨f, _, _, rfl, rfl, ef4, ?_, _, ds ++ [d], rfl, ?_, ?_, ?_, u4.upd nfu, (b1.trans b14).own hf⟩
    · rw [List.length_map, hl]
      have := (List.getElem?_eq_some_iff.mp hr1).1
      exact Nat.lt_of_le_of_lt (show _ ≤ 4 by omega) (by decide)
    · rw [upd_same, List.map_append]
      rfl
    · rw [List.length_append, hl]
      rfl
    · intro n r' d' h1 h2
      by_cases hn : n < ds.length
      · rw [List.getElem?_append_left hn] at h2
        exact ok n r' d' h1 h2
      · have hn2 : n = i := by
          have := (List.getElem?_eq_some_iff.mp h2).1
          rw [List.length_append] at this
          simp at this
          omega
        subst hn2
        rw [List.getElem?_append_right (by omega), hl, Nat.sub_self] at h2
        rw [hr1] at h1
        cases h1
        cases h2
        exact hdl
  · rintro σ H1 ⟨x3, ds, rfl, ef, hl, ok, u1, b1⟩
    refine ⟨_, rfl, f, _, rfl, .inl ⟨.of ef, fun l hln => ?_⟩⟩
    exact q _ l ds (u1.new hln) (b1.new hln) ⟨by omega, ok⟩ (.tup (.of upd_same) (dpAll_nats ds))
theorem ok_law_topped (T : Txt P K mg) : FnOk P w K mg base CX0 2 T.f_law_topped T.d_law_topped ["row", "depth", "key"] (spTopped K) := by
  refine T.F_law_topped.ok sc_law_topped (fun vs H Q E h => by obtain ⟨v, r, d, k, rfl, _⟩ := h; rfl) (fun cdv A outer s H vs Q E hr h => ⟨_, (pss_cons (ps_par (i := 3) (j := 4) rfl sc_law_topped.nd rfl rfl (by decide) rfl rfl (pa_cons (pe_call (ok_law_bound T) (hr.mono (by omega)) rfl T.g__law_bound T.F_law_bound.kp T.b_law_bound .nil pass0 (pa_cons (pv 0) (pa_cons (pv 1) (pa_cons (pv 2) pa_nil)))) (pa_cons (pe_op op_sub (pe_op op_sub (pe_callB call_len_seq rfl T.z_len (by decide +kernel) (pa_cons (pv 0) pa_nil)) (pv 1)) pe_int) pa_nil)) (by rfl))
      (pss_cons (ps_if (PW.pt (pw_or (pt_cmpR op_lt (pv 4) pe_int (nomark _)) (pw_or1 (pt_cmpR op_in_seq (pv 2) (pe_lc (own := [("points", 5), ("other", 6)]) (g := gTup K 2 (gCons (gName 5) (gCons (gName 6) gNil))) rfl sc_law_topped.nd (pi_tup (pe_slice sl_tupW (pv 0) po_none (po_some (pv 1)))) (blkOk_by (own := [("points", 5), ("other", 6)]) (N := N_law_topped) (sc := defScope s_law_topped) (by decide +kernel)) (fun _ _ _ _ _ => (pg_tup rfl (pgs_cons (pg_name (i := 5) sc_law_topped.nd rfl (by first | exact Or.inl rfl | exact Or.inr rfl)) (pgs_cons (pg_name (i := 6) sc_law_topped.nd rfl (by first | exact Or.inl rfl | exact Or.inr rfl)) pgs_nil)))) (fun _ _ _ _ _ => (by exact pts_nil)) (fun _ _ _ _ _ => (by exact (pv 6)))) (by rfl)))))
      (pss_one (ps_ret (pv 0))) pss_nil)
      (pss_cons (ps_par3 (i := 7) (j := 6) (l := 5) rfl sc_law_topped.nd rfl rfl rfl (by decide) (by decide) (by decide) rfl rfl rfl (pa_cons (pe_op op_cat (pe_callTy call_list_of rfl T.z_list (by decide +kernel) (pa_cons (pe_slice sl_tupW (pv 0) po_none (po_some (pv 1))) pa_nil)) (pe_lst (pa_cons (pe_tup (pa_cons (pv 3) (pa_cons (pv 2) pa_nil))) pa_nil))) (pa_cons pe_int (pa_cons (pv 3) pa_nil))) (by rfl))
      (pss_cons (ps_for PassesOwn.never rfl (pi_range1 rfl T.z_range (pa_cons (pv 4) pa_nil)) (pg_name (i := 8) sc_law_topped.nd rfl (by first | exact Or.inl rfl | exact Or.inr rfl))
      (pss_cons (ps_while PassesOwn.never (pt_cmpR op_in_seq (pv 6) (pe_lc (own := [("each", 9)]) (te := tOp (rIxT K) (tVar 9) (tC (.int 1))) rfl sc_law_topped.nd (pi_list (pv 7)) (blkOk_by (own := [("each", 9)]) (N := N_law_topped) (sc := defScope s_law_topped) (by decide +kernel)) (fun _ _ _ _ _ => (pg_name (i := 9) sc_law_topped.nd rfl (by first | exact Or.inl rfl | exact Or.inr rfl))) (fun _ _ _ _ _ => (by exact pts_nil)) (fun _ _ _ _ _ => (by exact (pe_ix ix_tup (pv 9) pe_int (fun _ _ => rfl))))) (by rfl))
      (pss_one (ps_set (i := 6) sc_law_topped.nd rfl (Or.inl rfl) (pe_op op_sub (pv 6) pe_int))))
      (pss_cons (ps_set (i := 5) sc_law_topped.nd rfl (Or.inl rfl) (pe_op op_sub (pv 5) pe_int))
      (pss_one (ps_expr (pe_bm PySem.F.plainAttrs_list PySem.F.slot_list_append PySem.F.type_list_append mt_append (pv 7) (pa_cons (pe_tup (pa_cons (pv 5) (pa_cons (pv 6) pa_nil))) pa_nil)))))))
      (pss_one (ps_ret (pe_ifExp (PW.pt (pw_and (pt_cmpR op_gt (pv 5) pe_int (nomark _)) (pw_and1 (pt_cmpR op_gt (pv 3) pe_int (nomark _))))) (pe_callTy call_tuple_of rfl T.z_tuple (by decide +kernel) (pa_cons (pv 7) pa_nil)) pe_non))))))), ?_⟩)
  obtain ⟨v, r, d, k, rfl, hd, okr, dle, k1, k9, q⟩ := h
  obtain ⟨a, xs, rfl, sq, da⟩ := tup_at hd
  obtain ⟨len, get⟩ := map_get da
  have l40 := okr.len
  refine ⟨_, rfl, _, rfl, _, rfl, .ref a, r, d, k, rfl, hd, dle, l40, ?_⟩
  refine ⟨_, rfl, a, xs, rfl, .inr sq, _, rfl, _, _, rfl, rfl, _, _, rfl, rfl, _, _, rfl, ?_⟩
  rw [len]
  refine ⟨_, rfl, _, _, rfl, rfl, _, rfl, ?_⟩
  by_cases c : d = r.length
  · exact iteB (decide_eq_true (by omega)) (iteT ⟨_, rfl, q H (.ref a) (Same.refl H) (.inr ⟨r, topped_self okr dle (.inl c), hd⟩)⟩)
  refine iteB' (decide_eq_false (by omega)) ?_
  refine ⟨_, rfl, _, rfl, _, rfl, _, rfl, a, xs, rfl, sq, fun e H1 s1 se => ⟨e, rfl, ⟨_, se⟩, fun D hD => ?_⟩⟩
  rw [cut_to] at se
  refine lc_tup (K := K) (a := e) (xs := xs.take d) (fun j H' => H' D = some (.lst (((r.take j).map (·.2)).map V.int)) ∧ Same H1 H') ⟨upd_same, Same.new hD⟩ (fun j H' _ h => h.2.sqT se) ?_ ?_
  · rintro j z H2 hz ⟨g1, g2⟩
    have hj : j < d := by
      have := (List.getElem?_eq_some_iff.mp hz).1
      rw [List.length_take] at this
      omega
    rw [List.getElem?_take_of_lt hj] at hz
    obtain ⟨p, hp1, hp2⟩ := get j z hz
    obtain ⟨pb, rfl, t1⟩ := pair_at (Dp.keep (s1.trans g2).tupK _ _ (pair_imm p) hp2)
    refine ⟨pb, _, rfl, t1, rfl, _, _, rfl, _, _, rfl, rfl, rfl, _, rfl, _, g1, ?_, ?_, g2.own hD⟩
    · rw [List.length_map, List.length_map, List.length_take]
      exact Nat.lt_of_le_of_lt (show _ ≤ 40 by omega) (by decide)
    · rw [upd_same, List.take_add_one, hp1, List.map_append, List.map_append]
      rfl
  rintro H2 ⟨g1, g2⟩
  rw [show (xs.take d).length = d by rw [List.length_take]; omega] at g1
  have s2 := s1.trans g2
  refine ⟨D, _, rfl, .inl (.of g1), rfl, all_flat _, _, rfl, ?_⟩
  by_cases ck : k ∈ (r.take d).map (·.2)
  · exact iteB ((inV_int _ _).trans (decide_eq_true ck)) ⟨_, rfl, q H2 _ s2 (.inr ⟨r, topped_self okr dle (.inr ck), Dp.keep s2.tupK _ _ (row_imm r) hd⟩)⟩
  refine iteB' ((inV_int _ _).trans (decide_eq_false ck)) ?_
  refine ⟨_, rfl, _, rfl, _, rfl, a, xs, rfl, s2.sqT sq, fun c3 H3 s3 sc => ?_⟩
  rw [cut_to] at sc
  refine ⟨c3, _, rfl, .inr sc, fun l hl => ?_⟩
  refine ⟨_, rfl, _, rfl, by show 2 ≤ sizeLine; decide, fun t ht => ?_⟩
  refine ⟨by show 1 ≤ sizeLine; decide, fun o ho => ?_⟩
  refine ⟨l, o, _, _, rfl, rfl, Same.new ho _ _ (Same.new ht _ _ upd_same), upd_same, ?_, fun f hf => ?_⟩
  · rw [List.length_take]
    exact Nat.le_trans (show _ ≤ 41 by show min d xs.length + 1 ≤ 41; omega) (by decide)
  refine ⟨_, rfl, _, _, _, rfl, ?_⟩
  have s4 := (((s2.trans s3).step (o := .lst (xs.take d)) hl).step (o := .tup [.int (bound r d k), .int k]) ht).step (o := .lst [.ref t]) ho
  have hf0 : H f = none := s4.free hf
  have et := Same.new (o := .lst (xs.take d ++ [.ref t])) hf _ _ (Same.new (o := .lst [.ref t]) ho _ _ (@upd_same (upd H3 l (.lst (xs.take d))) t (.tup [.int (bound r d k), .int k])))
  have ef := @upd_same (upd (upd (upd H3 l (.lst (xs.take d))) t (.tup [.int (bound r d k), .int k])) o (.lst [.ref t])) f (.lst (xs.take d ++ [.ref t]))
  have s5 := s4.step (o := .lst (xs.take d ++ [.ref t])) hf
  generalize upd (upd (upd (upd H3 l (.lst (xs.take d))) t (.tup [.int (bound r d k), .int k])) o (.lst [.ref t])) f (.lst (xs.take d ++ [.ref t])) = H4 at s5 et ef ⊢
  clear hl ht ho hf s4 sc s3 g1 hD se s1 g2
  have dp4 : DpAll K H4 (xs.take d ++ [.ref t]) ((r.take d ++ [(bound r d k, k)]).map pairD) := by
    rw [List.map_append, List.map_take]
    exact DpAll.app (dpAll_take d (Dp.keepAll s5.tupK _ _ (immAll_map pair_imm _) da)) (.cons (.tup (.of et) (.cons (.int _) (.cons (.int _) .nil))) .nil)
  refine ⟨_, rfl, _, rfl, by omega, by omega, ?_⟩
  refine for_range (lo := 0) (n := ((r.length : Int) - (d : Int) - 1).toNat) (fun i σ H' => ∃ (x8 : Option V) (F : Row) (acc : List V) (oth pts : Int), σ = [some (.ref a), some (.int d), some (.int k), some (.int (bound r d k)), some (.int ((r.length : Int) - (d : Int) - 1)), some (.int pts), some (.int oth), some (.ref f), x8, none] ∧
    H' f = some (.lst acc) ∧ DpAll K H' acc (F.map pairD) ∧ Goes r d k i F oth pts ∧ Same H H') ⟨none, _, _, 999, bound r d k, rfl, ef, dp4, goes_start okr (by omega) ⟨k1, k9⟩ ck, s5⟩ ?_ ?_
  · rintro i σ H5 hi ⟨x8, F, acc, oth, pts, rfl, ef5, hda, g, s6⟩
    have fl : F.length ≤ 40 := by have := g.len; omega
    refine ⟨fun m σ H' => ∃ (oth : Int), m = (oth - 800).toNat ∧ σ = [some (.ref a), some (.int d), some (.int k), some (.int (bound r d k)), some (.int ((r.length : Int) - (d : Int) - 1)), some (.int pts), some (.int oth), some (.ref f), some (.int (0 + i)), none] ∧
      Goes r d k i F oth pts ∧ Same H5 H', ⟨_, oth, rfl, rfl, g, Same.refl _⟩, ?_⟩
    rintro m σ H6 ⟨oth, rfl, rfl, g, s6'⟩
    have ef6 := s6' _ _ ef5
    obtain ⟨alen, aget⟩ := map_get (Dp.keepAll s6'.tupK _ _ (immAll_map pair_imm _) hda)
    refine ⟨_, rfl, _, rfl, f, rfl, ⟨_, .of ef6⟩, fun D hD => ?_⟩
    refine lc_list (K := K) (a := f) (xs := acc) (fun j H' => H' D = some (.lst (((F.take j).map (·.2)).map V.int)) ∧ Same H6 H') ⟨upd_same, Same.new hD⟩ (fun j H' _ h => h.2.sqL (.of ef6)) ?_ ?_
    · rintro j z H7 hz ⟨g1, g2⟩
      obtain ⟨p, hp1, hp2⟩ := aget j z hz
      obtain ⟨pb, rfl, t1⟩ := pair_at (Dp.keep g2.tupK _ _ (pair_imm p) hp2)
      refine ⟨rfl, _, rfl, pb, _, _, _, rfl, rfl, t1, rfl, _, g1, ?_, ?_, g2.own hD⟩
      · rw [List.length_map, List.length_map, List.length_take]
        exact Nat.lt_of_le_of_lt (show _ ≤ 40 by omega) (by decide)
      · rw [upd_same, List.take_add_one, hp1, List.map_append, List.map_append]
        rfl
    · rintro H7 ⟨g1, g2⟩
      rw [alen, List.take_length] at g1
      have ef7 := g2 _ _ ef6
      refine ⟨D, _, rfl, .inl (.of g1), rfl, all_flat _, _, rfl, ?_⟩
      by_cases cm : oth ∈ F.map (·.2)
      · refine iteB ((inV_int _ _).trans (decide_eq_true cm)) ⟨fun σ' H' => σ' = [some (.ref a), some (.int d), some (.int k), some (.int (bound r d k)), some (.int ((r.length : Int) - (d : Int) - 1)), some (.int pts), some (.int (oth - 1)), some (.ref f), some (.int (0 + i)), none] ∧ H' = H7, fun σ' H' h => ?_, ?_⟩
        · obtain ⟨rfl, rfl⟩ := h
          exact ⟨(oth - 1 - 800).toNat, by have := goes_pos g fl; omega, oth - 1, rfl, rfl, goes_skip g cm, s6'.trans g2⟩
        · exact ⟨_, rfl, _, _, rfl, rfl, rfl, rfl⟩
      · refine iteB' ((inV_int _ _).trans (decide_eq_false cm)) ?_
        refine ⟨_, rfl, _, _, rfl, rfl, ?_⟩
        refine ⟨_, rfl, .inl ⟨rfl, _, .of ef7⟩, _, rfl, _, rfl, by show 2 ≤ sizeLine; decide, fun t ht => ?_⟩
        have k1 := (Same.new (o := .tup [.int (pts - 1), .int oth]) ht)
        have ef8 := k1 _ _ ef7
        have ntf : t ≠ f := fun z => by rw [z, ef7] at ht; cases ht
        have k2 : TupK (upd H7 t (.tup [.int (pts - 1), .int oth])) (upd (upd H7 t (.tup [.int (pts - 1), .int oth])) f (.lst (acc ++ [.ref t]))) := But.tupK (S := (· = f)) (But.set rfl) fun c ys hc => by rw [hc]; exact not_tup_lst ef8
        refine ⟨f, acc, .ref t, rfl, rfl, ef8, ?_, _, F ++ [(pts - 1, oth)], acc ++ [.ref t], oth, pts - 1, rfl, upd_same, ?_, goes_step g cm fl, ((s6.trans (s6'.trans g2)).step ht).own hf0⟩
        · rw [alen]
          exact Nat.lt_of_le_of_lt fl (by decide)
        · rw [List.map_append]
          refine DpAll.app (Dp.keepAll (((s6'.trans g2).trans k1).tupK.trans k2) _ _ (immAll_map pair_imm _) hda) (.cons (.tup (.of ?_) (.cons (.int _) (.cons (.int _) .nil))) .nil)
          rw [upd_ne ntf, upd_same]
  · rintro σ H5 ⟨x8, F, acc, oth, pts, rfl, ef5, hda, g, s6⟩
    refine ⟨_, rfl, _, _, rfl, rfl, _, rfl, ?_⟩
    have gt := g.top
    by_cases p0 : 0 < pts
    · refine iteB (decide_eq_true p0) ⟨_, rfl, _, _, rfl, rfl, _, rfl, iteB (decide_eq_true (by omega)) ⟨_, rfl, f, acc, rfl, .inl ⟨.of ef5, fun l hl => ?_⟩⟩⟩
      exact q _ (.ref l) (s6.step hl) (.inr ⟨F, goes_end okr (by omega) ck g p0, .tup (.of upd_same) (Dp.keepAll (Same.new hl).tupK _ _ (immAll_map pair_imm _) hda)⟩)
    · exact iteB' (decide_eq_false p0) (iteF (q H5 .non s6 (.inl rfl)))
end
end K71
namespace K71
open PySem PySem.Spec PyProof.Rows L2 RZ
/-! ### sums over the lists -/
theorem low_b {r : Row} (h : RowOk r) (d : Nat) (k : Int) : 0 ≤ low1 r d k ∧ low1 r d k ≤ 999 := by
  unfold low1
  rcases rd_cases h d k with z | ⟨q, z, hq, _⟩
  · rw [z]; decide
  · rw [z]
    have := h.pts q (List.mem_of_mem_take hq)
    simp
    omega
theorem bound_b {r : Row} (h : RowOk r) (d : Nat) (k : Int) : 0 ≤ bound r d k ∧ bound r d k ≤ 999 := by
  unfold bound
  split
  · decide
  · split
    · decide
    · rename_i q hq
      have := h.pts q (List.mem_of_getElem? hq)
      split
      · decide
      · split <;> omega
theorem top_b {r : Row} (h : RowOk r) (d : Nat) (k : Int) : 0 ≤ top1 r d k ∧ top1 r d k ≤ 999 := by
  unfold top1
  rcases rd_cases h d k with z | ⟨q, z, hq, _⟩
  · rw [z]; exact bound_b h d k
  · rw [z]
    have := h.pts q (List.mem_of_mem_take hq)
    show 0 ≤ q.1 ∧ q.1 ≤ 999
    omega
theorem sum_b : ∀ {xs : List Int}, (∀ x ∈ xs, 0 ≤ x ∧ x ≤ 999) → 0 ≤ xs.sum ∧ xs.sum ≤ 999 * (xs.length : Int)
  | [], _ => by simp
  | x :: xs, h => by
    have a := h x List.mem_cons_self
    have b := sum_b fun y hy => h y (List.mem_cons_of_mem _ hy)
    simp only [List.sum_cons, List.length_cons]
    omega
theorem zip_at {rs : List Row} {ds : List Nat} {p : Row × Nat} (h : p ∈ rs.zip ds) : p.1 ∈ rs ∧ p.2 ∈ ds := List.of_mem_zip h
theorem low_B {rs : List Row} {ds : List Nat} {k : Int} (h : ∀ r ∈ rs, RowOk r) (h4 : rs.length ≤ 4) : 0 ≤ lowS rs ds k ∧ lowS rs ds k ≤ 3996 := by
  have z := sum_b (xs := lowL rs ds k) fun x hx => by
    obtain ⟨p, hp, rfl⟩ := List.mem_map.mp hx
    exact low_b (h _ (zip_at hp).1) _ _
  have l : (lowL rs ds k).length ≤ 4 := by
    unfold lowL
    rw [List.length_map, List.length_zip]
    exact Nat.le_trans (Nat.min_le_left _ _) h4
  unfold lowS
  omega
theorem top_B {rs : List Row} {ds : List Nat} {k : Int} (h : ∀ r ∈ rs, RowOk r) (h4 : rs.length ≤ 4) : 0 ≤ topS rs ds k ∧ topS rs ds k ≤ 3996 := by
  have z := sum_b (xs := topL rs ds k) fun x hx => by
    obtain ⟨p, hp, rfl⟩ := List.mem_map.mp hx
    exact top_b (h _ (zip_at hp).1) _ _
  have l : (topL rs ds k).length ≤ 4 := by
    unfold topL
    rw [List.length_map, List.length_zip]
    exact Nat.le_trans (Nat.min_le_left _ _) h4
  unfold topS
  omega
/-- f of each list and depth, and g of each list and other depth -/
theorem sums_le {rs : List Row} {ds es : List Nat} {f g : Row → Nat → Int} (hl : ds.length = es.length) (h : ∀ (i : Nat) (r : Row) (d e : Nat), rs[i]? = some r → ds[i]? = some d → es[i]? = some e → f r d ≤ g r e) :
    ((rs.zip ds).map fun p => f p.1 p.2).sum ≤ ((rs.zip es).map fun p => g p.1 p.2).sum := by
  refine sum_le (by rw [List.length_map, List.length_map, List.length_zip, List.length_zip, hl]) fun i x y hx hy => ?_
  rw [List.getElem?_map] at hx hy
  cases h1 : (rs.zip ds)[i]? with
  | none => rw [h1] at hx; cases hx
  | some p =>
    cases h2 : (rs.zip es)[i]? with
    | none => rw [h2] at hy; cases hy
    | some q =>
      rw [h1] at hx
      rw [h2] at hy
      cases hx
      cases hy
      obtain ⟨a1, a2⟩ := List.getElem?_zip_eq_some.mp h1
      obtain ⟨b1, b2⟩ := List.getElem?_zip_eq_some.mp h2
      rw [a1] at b1
      have e := Option.some.inj b1
      show f p.1 p.2 ≤ g q.1 q.2
      rw [← e]
      exact h i p.1 p.2 q.2 a1 a2 b2
def ends (rs : List Row) : List Nat := rs.map fun r => r.length
theorem ends_ok (rs : List Row) : DepOk rs (ends rs) := ⟨by unfold ends; rw [List.length_map], fun i r d h1 h2 => by
  unfold ends at h2
  rw [List.getElem?_map, h1] at h2
  cases h2
  exact Nat.le_refl _⟩
theorem ends_get {rs : List Row} {i : Nat} {r : Row} {e : Nat} (h : rs[i]? = some r) (he : (ends rs)[i]? = some e) : e = r.length := by
  unfold ends at he
  rw [List.getElem?_map, h] at he
  cases he
  rfl
theorem ends_same {rs : List Row} (h : ∀ r ∈ rs, RowOk r) (k : Int) : topS rs (ends rs) k = lowS rs (ends rs) k := by
  apply Int.le_antisymm
  · exact sums_le (f := fun r d => top1 r d k) (g := fun r d => low1 r d k) rfl fun i r d e h1 h2 h3 => by
      rw [ends_get h1 h2, ends_get h1 h3, top_end (h r (List.mem_of_getElem? h1))]
      exact Int.le_refl _
  · exact sums_le (f := fun r d => low1 r d k) (g := fun r d => top1 r d k) rfl fun i r d e h1 h2 h3 => by
      rw [ends_get h1 h2, ends_get h1 h3, top_end (h r (List.mem_of_getElem? h1))]
      exact Int.le_refl _
theorem total_S {rs : List Row} {ds : List Nat} (h : ∀ r ∈ rs, RowOk r) (ok : DepOk rs ds) (k : Int) : lowS rs ds k ≤ lowS rs (ends rs) k ∧ lowS rs (ends rs) k ≤ topS rs ds k := by
  have el := (ends_ok rs).len
  constructor
  · exact sums_le (f := fun r d => low1 r d k) (g := fun r d => low1 r d k) (by rw [ok.len, el]) fun i r d e h1 h2 h3 => by
      rw [ends_get h1 h3]
      have := ok.le i r d h1 h2
      exact (total1 (h r (List.mem_of_getElem? h1)) k (r.length - d) d (by omega)).1
  · exact sums_le (f := fun r d => low1 r d k) (g := fun r d => top1 r d k) (by rw [ok.len, el]) fun i r e d h1 h3 h2 => by
      rw [ends_get h1 h3]
      have := ok.le i r d h1 h2
      exact (total1 (h r (List.mem_of_getElem? h1)) k (r.length - d) d (by omega)).2
/-- one more read of the list at n -/
theorem more_S {rs : List Row} {ds : List Nat} (h : ∀ r ∈ rs, RowOk r) (ok : DepOk rs ds) {n d : Nat} {r : Row} (hr : rs[n]? = some r) (hd : ds[n]? = some d) (lt : d < r.length) (k : Int) :
    DepOk rs (ds.set n (d + 1)) ∧ lowS rs ds k ≤ lowS rs (ds.set n (d + 1)) k ∧ topS rs (ds.set n (d + 1)) k ≤ topS rs ds k := by
  have at2 : ∀ (i : Nat) (r' : Row) (e : Nat), rs[i]? = some r' → (ds.set n (d + 1))[i]? = some e → (i = n ∧ r' = r ∧ e = d + 1) ∨ (i ≠ n ∧ ds[i]? = some e) := by
    intro i r' e h1 h2
    by_cases c : i = n
    · subst c
      have hl := (List.getElem?_eq_some_iff.mp hd).1
      rw [List.getElem?_set_self (by omega)] at h2
      rw [hr] at h1
      cases h1
      cases h2
      exact .inl ⟨rfl, rfl, rfl⟩
    · rw [List.getElem?_set_ne (fun z => c z.symm)] at h2
      exact .inr ⟨c, h2⟩
  refine ⟨⟨by rw [List.length_set, ok.len], fun i r' e h1 h2 => ?_⟩, ?_, ?_⟩
  · rcases at2 i r' e h1 h2 with ⟨_, rfl, rfl⟩ | ⟨_, h3⟩
    · exact lt
    · exact ok.le i r' e h1 h3
  · exact sums_le (f := fun r d => low1 r d k) (g := fun r d => low1 r d k) (by rw [List.length_set]) fun i r' d' e h1 h2 h3 => by
      rcases at2 i r' e h1 h3 with ⟨rfl, rfl, rfl⟩ | ⟨_, h4⟩
      · rw [hd] at h2
        cases h2
        exact (step1 (h r' (List.mem_of_getElem? h1)) lt k).1
      · rw [h2] at h4
        cases h4
        exact Int.le_refl _
  · exact sums_le (f := fun r d => top1 r d k) (g := fun r d => top1 r d k) (by rw [List.length_set]) fun i r' e d' h1 h3 h2 => by
      rcases at2 i r' e h1 h3 with ⟨rfl, rfl, rfl⟩ | ⟨_, h4⟩
      · rw [hd] at h2
        cases h2
        exact (step1 (h r' (List.mem_of_getElem? h1)) lt k).2
      · rw [h2] at h4
        cases h4
        exact Int.le_refl _
/-- lists that go on so that a key has its greatest sum -/
structure Tops (rs : List Row) (ds : List Nat) (k : Int) (ts : List Row) : Prop where
  len : ts.length = rs.length
  one : ∀ (i : Nat) (r t : Row) (d : Nat), rs[i]? = some r → ts[i]? = some t → ds[i]? = some d → Topped r d k t
theorem Tops.ends {rs : List Row} {ds : List Nat} {k : Int} {ts : List Row} (h : Tops rs ds k ts) (ok : DepOk rs ds) : ends ts = ends rs := by
  unfold K71.ends
  apply List.ext_getElem?
  intro i
  rw [List.getElem?_map, List.getElem?_map]
  by_cases c : i < rs.length
  · have h1 : rs[i]? = some rs[i] := List.getElem?_eq_getElem c
    have h2 : ts[i]? = some (ts[i]'(by rw [h.len]; exact c)) := List.getElem?_eq_getElem _
    have h3 : ds[i]? = some (ds[i]'(by rw [ok.len]; exact c)) := List.getElem?_eq_getElem _
    have z := (h.one i _ _ _ h1 h2 h3).len
    rw [h1, h2]
    exact congrArg some z
  · have l := h.len
    rw [List.getElem?_eq_none (show rs.length ≤ i by omega), List.getElem?_eq_none (show ts.length ≤ i by omega)]
theorem Tops.oks {rs : List Row} {ds : List Nat} {k : Int} {ts : List Row} (h : Tops rs ds k ts) (ok : DepOk rs ds) : ∀ t ∈ ts, RowOk t := by
  intro t ht
  obtain ⟨i, hi⟩ := List.getElem?_of_mem ht
  have c := (List.getElem?_eq_some_iff.mp hi).1
  have h1 : rs[i]? = some (rs[i]'(by rw [← h.len]; exact c)) := List.getElem?_eq_getElem _
  have h3 : ds[i]? = some (ds[i]'(by rw [ok.len, ← h.len]; exact c)) := List.getElem?_eq_getElem _
  exact (h.one i _ _ _ h1 hi h3).ok
theorem Tops.sum {rs : List Row} {ds : List Nat} {k : Int} {ts : List Row} (h : Tops rs ds k ts) (ok : DepOk rs ds) : topS ts (K71.ends rs) k = topS rs ds k := by
  have e : topL ts (K71.ends rs) k = topL rs ds k := by
    unfold topL
    apply List.ext_getElem?
    intro i
    rw [List.getElem?_map, List.getElem?_map]
    by_cases c : i < rs.length
    · have h1 : rs[i]? = some rs[i] := List.getElem?_eq_getElem c
      have h2 : ts[i]? = some (ts[i]'(by rw [h.len]; exact c)) := List.getElem?_eq_getElem _
      have h3 : ds[i]? = some (ds[i]'(by rw [ok.len]; exact c)) := List.getElem?_eq_getElem _
      have z := h.one i _ _ _ h1 h2 h3
      have h4 : (K71.ends rs)[i]? = some (ts[i]'(by rw [h.len]; exact c)).length := by
        unfold K71.ends
        rw [List.getElem?_map, h1, z.len]
        rfl
      have n1 : (ts.zip (K71.ends rs))[i]? = some (ts[i]'(by rw [h.len]; exact c), (ts[i]'(by rw [h.len]; exact c)).length) := List.getElem?_zip_eq_some.mpr ⟨h2, h4⟩
      have n2 : (rs.zip ds)[i]? = some (rs[i], ds[i]'(by rw [ok.len]; exact c)) := List.getElem?_zip_eq_some.mpr ⟨h1, h3⟩
      rw [n1, n2]
      exact congrArg some z.sum.2
    · have n1 : (ts.zip (K71.ends rs))[i]? = none := List.getElem?_eq_none (by rw [List.length_zip, h.len]; exact Nat.le_trans (Nat.min_le_left _ _) (by omega))
      have n2 : (rs.zip ds)[i]? = none := List.getElem?_eq_none (by rw [List.length_zip]; exact Nat.le_trans (Nat.min_le_left _ _) (by omega))
      rw [n1, n2]
  unfold topS
  rw [e]
theorem pair_tidy {q : Int × Int} (h1 : 0 ≤ q.1 ∧ q.1 ≤ 3996) (h2 : 0 ≤ q.2 ∧ q.2 ≤ 3996) : tidy (pairD q) = true := by
  unfold pairD
  simp only [tidy, tidyAll, Bool.and_true, Bool.and_eq_true, decide_eq_true_eq]
  omega
end K71
namespace K71
open PySem PySem.Spec PyProof.Rows L2 RZ
def spRight (K : PySem.W.Frag) : Sp := fun vs H Q _ => ∃ u : Addr, vs = [.ref u] ∧ Urn H u ∧ ∀ H', But (· = u) H H' → Q (.bl true) H'
theorem dp_ints {K : PySem.W.Frag} {H : Hp} : ∀ {vs : List V} {ds : List Nat}, DpAll K H vs (ds.map natD) → vs = ds.map fun d : Nat => V.int (d : Int)
  | _, [], h => by cases h; rfl
  | _, d :: ds, h => by
    cases h with
    | cons h t =>
      cases h
      rw [dp_ints t]
      rfl
theorem rep_ok {d : PyData} (t : tidy d = true) (b : d.bulk ≤ 300000) (p : d.depth ≤ 60) : d.showable = true ∧ (d = .dict [] ∨ d.hasDict = false) ∧ d.shown.length ≤ sizeLine ∧ d.depth ≤ 60 :=
  ⟨(tidy_ok d t).2.1, .inr (tidy_ok d t).2.2.1, shown_short t b, p⟩
theorem pair_rep {q : Int × Int} (t : tidy (pairD q) = true) : (pairD q).showable = true ∧ (pairD q = .dict [] ∨ (pairD q).hasDict = false) ∧ (pairD q).shown.length ≤ sizeLine ∧ (pairD q).depth ≤ 60 :=
  rep_ok t (by simp [pairD, PyData.bulk, PyData.bulkAll]) (by simp [pairD, PyData.depth, PyData.depthAll])
/-- a row or None -/
def topD (r : Option Row) : PyData := match r with
  | none => .none
  | some r => rowD r
theorem top_imm (r : Option Row) : imm (topD r) = true := by
  cases r with
  | none => rfl
  | some r => exact row_imm r
theorem row_tidy {r : Row} (h : RowOk r) : tidy (rowD r) = true ∧ (rowD r).depth ≤ 10 := by
  unfold rowD
  constructor
  · simp only [tidy]
    refine tidyAll_map fun q hq => ?_
    have a := h.pts q hq
    have b := h.key q hq
    exact pair_tidy (by omega) (by omega)
  · simp only [PyData.depth]
    have := depth_map (f := pairD) (n := 3) (l := r) fun q _ => by simp [pairD, PyData.depth, PyData.depthAll]
    omega
theorem tops_of : ∀ {ws : List (Option Row)}, ((ws.map topD).any fun z => PyData.eqv z .none) = false → ∃ ts : List Row, ws = ts.map some
  | [], _ => ⟨[], rfl⟩
  | none :: ws, h => by
    rw [List.map_cons, List.any_cons] at h
    simp [topD, PyData.eqv] at h
  | some r :: ws, h => by
    rw [List.map_cons, List.any_cons, Bool.or_eq_false_iff] at h
    obtain ⟨ts, e⟩ := tops_of h.2
    exact ⟨r :: ts, by rw [e]; rfl⟩
section
variable {P : Program} {w : World} {K : PySem.W.Frag} {mg : Str → Option Value} {base : Heap}
theorem ok_law_right (T : Txt P K mg) : FnG P w K mg base CX0 10 T.f_law_right T.d_law_right ["urn"] (spRight K) := by
  refine T.F_law_right.okG sc_law_right (fun vs H Q E h => by obtain ⟨u, rfl, _⟩ := h; rfl) (fun cdv A outer s H vs Q E gd hr h => ⟨_, (pss_cons (ps_for PassesOwn.never rfl (pi_range1 rfl T.z_range (pa_cons pe_int pa_nil)) (pg_name (i := 1) sc_law_right.nd rfl (by first | exact Or.inl rfl | exact Or.inr rfl))
      (pss_cons (ps_set (i := 2) sc_law_right.nd rfl (Or.inl rfl) (pe_call (ok_law_lists T) (hr.mono (by omega)) rfl T.g__law_lists T.F_law_lists.kp T.b_law_lists .nil pass0 (pa_cons (pv 0) (pa_cons (pe_op op_add pe_int (pe_call (ok_law_take T) (hr.mono (by omega)) rfl T.g__law_take T.F_law_take.kp T.b_law_take .nil pass0 (pa_cons (pv 0) (pa_cons pe_int pa_nil)))) (pa_cons (pe_call (ok_law_of T) (hr.mono (by omega)) rfl T.g__law_of T.F_law_of.kp T.b_law_of .nil pass0 (pa_cons (pv 0) (pa_cons (pe_lst (pa_cons pe_int (pa_cons pe_int (pa_cons pe_int pa_nil)))) pa_nil))) pa_nil)))))
      (pss_cons (ps_par (i := 4) (j := 5) rfl sc_law_right.nd rfl rfl (by decide) rfl rfl (pa_cons (pe_call (ok_law_depths T) (hr.mono (by omega)) rfl T.g__law_depths T.F_law_depths.kp T.b_law_depths .nil pass0 (pa_cons (pv 0) (pa_cons (pv 2) pa_nil))) (pa_cons (pe_callTy call_tuple_of rfl T.z_tuple (by decide +kernel) (pa_cons (pe_lc (own := [("row", 3)]) (te := tCB (rLenS K) (tCons (tVar 3) tNil)) rfl sc_law_right.nd (pi_tup (pv 2)) (blkOk_by (own := [("row", 3)]) (N := N_law_right) (sc := defScope s_law_right) (by decide +kernel)) (fun _ _ _ _ _ => (pg_name (i := 3) sc_law_right.nd rfl (by first | exact Or.inl rfl | exact Or.inr rfl))) (fun _ _ _ _ _ => (by exact pts_nil)) (fun _ _ _ _ _ => (by exact (pe_callB call_len_seq rfl T.z_len (by decide +kernel) (pa_cons (pv 3) pa_nil))))) pa_nil)) pa_nil)) (by rfl))
      (pss_cons (ps_set (i := 6) sc_law_right.nd rfl (Or.inl rfl) (pe_lst (pa_cons pe_int (pa_cons pe_int (pa_cons (pe_op op_add pe_int (pe_call (ok_law_take T) (hr.mono (by omega)) rfl T.g__law_take T.F_law_take.kp T.b_law_take .nil pass0 (pa_cons (pv 0) (pa_cons pe_int pa_nil)))) pa_nil)))))
      (pss_cons (ps_for PassesOwn.never rfl (pi_tup (pv 2)) (pg_name (i := 3) sc_law_right.nd rfl (by first | exact Or.inl rfl | exact Or.inr rfl))
      (pss_one (ps_for PassesOwn.never rfl (pi_tup (pe_slice sl_tupW (pv 3) po_none (po_some pe_int))) (pg_tup rfl (pgs_cons (pg_name (i := 7) sc_law_right.nd rfl (by first | exact Or.inl rfl | exact Or.inr rfl)) (pgs_cons (pg_name (i := 8) sc_law_right.nd rfl (by first | exact Or.inl rfl | exact Or.inr rfl)) pgs_nil)))
      (pss_one (ps_set (i := 6) sc_law_right.nd rfl (Or.inl rfl) (pe_op op_cat (pv 6) (pe_lst (pa_cons (pv 8) (pa_cons (pe_callB (call_min2 rfl) rfl T.z_min (by decide +kernel) (pa_cons pe_int (pa_cons (pe_op op_add (pv 8) pe_int) pa_nil))) (pa_cons (pe_callB (call_max2 rfl) rfl T.z_max (by decide +kernel) (pa_cons pe_int (pa_cons (pe_op op_sub (pv 8) pe_int) pa_nil))) pa_nil))))))))))
      (pss_one (ps_for PassesOwn.never rfl (pi_range1 rfl T.z_range (pa_cons pe_int pa_nil)) (pg_name (i := 9) sc_law_right.nd rfl (by first | exact Or.inl rfl | exact Or.inr rfl))
      (pss_cons (ps_set (i := 8) sc_law_right.nd rfl (Or.inr rfl) (pe_call (ok_law_of T) (hr.mono (by omega)) rfl T.g__law_of T.F_law_of.kp T.b_law_of .nil pass0 (pa_cons (pv 0) (pa_cons (pv 6) pa_nil))))
      (pss_cons (ps_set (i := 10) sc_law_right.nd rfl (Or.inl rfl) (pe_call (ok_law_sums T) (hr.mono (by omega)) rfl T.g__law_sums T.F_law_sums.kp T.b_law_sums .nil pass0 (pa_cons (pv 2) (pa_cons (pv 4) (pa_cons (pv 8) pa_nil)))))
      (pss_cons (ps_set (i := 11) sc_law_right.nd rfl (Or.inl rfl) (pe_lst (pa_cons (pe_call (ok_sums_of T) (hr.mono (by omega)) rfl T.g_sums_of T.F_sums_of.kp T.b_sums_of .nil pass0 (pa_cons (pv 2) (pa_cons (pv 4) (pa_cons (pv 8) pa_nil)))) (pa_cons (pe_callK0 (ok_sums_of T) (hr.mono (by omega)) rfl T.g_sums_of T.F_sums_of.kp T.kb_sums_of_key_depths_lists pass0 (pk_cons (pv 8) (pk_cons (pv 4) (pk_cons (pv 2) pk_nil)))) pa_nil))))
      (pss_cons (ps_if (pt_cmpR op_ne (pe_callB (call_reprV (by exact gd) (by exact hu64 hr)) rfl T.z_repr (by decide +kernel) (pa_cons (pv 11) pa_nil)) (pe_callB (call_reprV (by exact gd) (by exact hu64 hr)) rfl T.z_repr (by decide +kernel) (pa_cons (pe_lst (pa_cons (pv 10) (pa_cons (pv 10) pa_nil))) pa_nil)) (nomark _))
      (pss_one (ps_ret pe_bl)) pss_nil)
      (pss_cons (ps_set (i := 12) sc_law_right.nd rfl (Or.inl rfl) (pe_ix ix_tup (pe_call (ok_law_sums T) (hr.mono (by omega)) rfl T.g__law_sums T.F_law_sums.kp T.b_law_sums .nil pass0 (pa_cons (pv 2) (pa_cons (pv 5) (pa_cons (pv 8) pa_nil)))) pe_int (fun _ _ => rfl)))
      (pss_cons (ps_if (PW.pt (pw_or (pt_cmpR op_ne (pe_callB (call_reprV (by exact gd) (by exact hu64 hr)) rfl T.z_repr (by decide +kernel) (pa_cons (pe_call (ok_sums_of T) (hr.mono (by omega)) rfl T.g_sums_of T.F_sums_of.kp T.b_sums_of .nil pass0 (pa_cons (pv 2) (pa_cons (pv 5) (pa_cons (pv 8) pa_nil)))) pa_nil)) (pe_callB (call_reprV (by exact gd) (by exact hu64 hr)) rfl T.z_repr (by decide +kernel) (pa_cons (pe_tup (pa_cons (pv 12) (pa_cons (pv 12) pa_nil))) pa_nil)) (nomark _)) (pw_or1 (pt_not (pt_chain op_le op_le (pe_ix ix_tup (pv 10) pe_int (fun _ _ => rfl)) (pv 12) (pe_ix ix_tup (pv 10) pe_int (fun _ _ => rfl)))))))
      (pss_one (ps_ret pe_bl)) pss_nil)
      (pss_cons (ps_set (i := 13) sc_law_right.nd rfl (Or.inl rfl) (pe_call (ok_law_take T) (hr.mono (by omega)) rfl T.g__law_take T.F_law_take.kp T.b_law_take .nil pass0 (pa_cons (pv 0) (pa_cons (pe_callB call_len_seq rfl T.z_len (by decide +kernel) (pa_cons (pv 2) pa_nil)) pa_nil))))
      (pss_cons (ps_if (pt_cmpR op_lt (pe_ix ix_tup (pv 4) (pv 13) (fun _ _ => rfl)) (pe_ix ix_tup (pv 5) (pv 13) (fun _ _ => rfl)) (nomark _))
      (pss_cons (ps_asg (pe_call (ok_sums_of T) (hr.mono (by omega)) rfl T.g_sums_of T.F_sums_of.kp T.b_sums_of .nil pass0 (pa_cons (pv 2) (pa_cons (pe_op op_catW (pe_op op_catW (pe_slice sl_tupW (pv 4) po_none (po_some (pv 13))) (pe_tup (pa_cons (pe_op op_add (pe_ix ix_tup (pv 4) (pv 13) (fun _ _ => rfl)) pe_int) pa_nil))) (pe_slice sl_tupW (pv 4) (po_some (pe_op op_add (pv 13) pe_int)) po_none)) (pa_cons (pv 8) pa_nil)))) (pg_tup rfl (pgs_cons (pg_name (i := 14) sc_law_right.nd rfl (by first | exact Or.inl rfl | exact Or.inr rfl)) (pgs_cons (pg_name (i := 15) sc_law_right.nd rfl (by first | exact Or.inl rfl | exact Or.inr rfl)) pgs_nil))))
      (pss_one (ps_if (PW.pt (pw_or (pt_cmpR op_lt (pv 14) (pe_ix ix_tup (pv 10) pe_int (fun _ _ => rfl)) (nomark _)) (pw_or1 (pt_cmpR op_gt (pv 15) (pe_ix ix_tup (pv 10) pe_int (fun _ _ => rfl)) (nomark _)))))
      (pss_one (ps_ret pe_bl)) pss_nil))) pss_nil)
      (pss_cons (ps_setLc (i := 16) (own := [("row", 3), ("depth", 17)]) (te := tCall (spTopped K) [] E0 (tCons (tVar 3) (tCons (tVar 17) (tCons (tVar 8) tNil)))) (g := gTup K 2 (gCons (gName 3) (gCons (gName 17) gNil))) rfl sc_law_right.nd rfl rfl (sw_true rfl rfl rfl (by decide +kernel)) (pi_zipA rfl T.z_zip (pa_cons (pv 2) (pa_cons (pv 4) pa_nil))) (blkOk_by (own := [("row", 3), ("depth", 17)]) (N := N_law_right) (sc := defScope s_law_right) (by decide +kernel)) (fun _ _ _ _ _ => (pg_tup rfl (pgs_cons (pg_name (i := 3) sc_law_right.nd rfl (by first | exact Or.inl rfl | exact Or.inr rfl)) (pgs_cons (pg_name (i := 17) sc_law_right.nd rfl (by first | exact Or.inl rfl | exact Or.inr rfl)) pgs_nil)))) (fun _ _ _ _ _ => (by exact pts_nil)) (fun _ _ _ _ _ => (by exact (pe_call (ok_law_topped T) (hr.mono (by omega)) rfl T.g__law_topped T.F_law_topped.kp T.b_law_topped .nil pass0 (pa_cons (pv 3) (pa_cons (pv 17) (pa_cons (pv 8) pa_nil)))))))
      (pss_one (ps_if (PW.pt (pw_and (pt_cmpR (op_notInD (by exact hu65 hr)) pe_non (pv 16) (by rfl)) (pw_and1 (pt_cmpR op_ne (pe_callB (call_reprV (by exact gd) (by exact hu64 hr)) rfl T.z_repr (by decide +kernel) (pa_cons (pe_call (ok_sums_of T) (hr.mono (by omega)) rfl T.g_sums_of T.F_sums_of.kp T.b_sums_of .nil pass0 (pa_cons (pe_callTy call_tuple_of rfl T.z_tuple (by decide +kernel) (pa_cons (pv 16) pa_nil)) (pa_cons (pv 5) (pa_cons (pv 8) pa_nil)))) pa_nil)) (pe_callB (call_reprV (by exact gd) (by exact hu64 hr)) rfl T.z_repr (by decide +kernel) (pa_cons (pe_tup (pa_cons (pe_ix ix_tup (pv 10) pe_int (fun _ _ => rfl)) (pa_cons (pe_ix ix_tup (pv 10) pe_int (fun _ _ => rfl)) pa_nil))) pa_nil)) (nomark _)))))
      (pss_one (ps_ret pe_bl)) pss_nil))))))))))))))))))
      (pss_one (ps_ret pe_bl))), ?_⟩)
  obtain ⟨u, rfl, hu, q⟩ := h
  refine ⟨4, rfl, by decide, by decide, ?_⟩
  refine for_range (lo := 0) (n := 4) (fun i σ H' => ∃ (x1 x2 x3 x4 x5 x6 x7 x8 x9 x10 x11 x12 x13 x14 x15 x16 : Option V), σ = [some (.ref u), x1, x2, x3, x4, x5, x6, x7, x8, x9, x10, x11, x12, x13, x14, x15, x16, none] ∧ Urn H' u ∧ But (· = u) H H')
    ⟨none, none, none, none, none, none, none, none, none, none, none, none, none, none, none, none, rfl, hu, But.refl H⟩ ?_ ?_
  case refine_2 =>
    rintro σ H1 ⟨x1, x2, x3, x4, x5, x6, x7, x8, x9, x10, x11, x12, x13, x14, x15, x16, rfl, u1, b1⟩
    exact q H1 b1
  rintro i σ H1 hi ⟨x1, x2, x3, x4, x5, x6, x7, x8, x9, x10, x11, x12, x13, x14, x15, x16, rfl, u1, b1⟩
  refine ⟨_, rfl, _, rfl, u, 4, rfl, by decide, by decide, u1, fun k0 H2 k00 k01 u2 b2 => ?_⟩
  refine ⟨_, _, rfl, rfl, _, rfl, by show 3 ≤ sizeLine; decide, fun p hp => ?_⟩
  refine ⟨u, p, _, rfl, u2.ne hp, .of upd_same, by show 0 < 3; decide, by show 3 < 1073741824; decide, u2.new hp, fun j0 v0 H3 hv0 u3 b3 => ?_⟩
  obtain ⟨m, hm, rfl⟩ := ints_at (ns := [2, 5, 12]) hv0
  obtain ⟨n0, rfl⟩ : ∃ n0 : Nat, k0 = n0 := ⟨k0.toNat, by omega⟩
  obtain ⟨m0, rfl, m12⟩ : ∃ m0 : Nat, m = m0 ∧ m0 ≤ 12 := ⟨m.toNat, by simp at hm; omega, by simp at hm; omega⟩
  refine ⟨u, 1 + n0, m0, by rfl, by omega, m12, u3, fun H4 a rs u4 b4 hl oks hd => ?_⟩
  have b14 : But (· = u) H1 H4 := ((b2.new hp).trans b3).trans b4
  clear b2 b3 b4 hp hv0 hm u2 u3
  have h1 : 1 ≤ rs.length := by omega
  have h4 : rs.length ≤ 4 := by omega
  obtain ⟨a', xs, ea, sq, da⟩ := tup_at hd
  cases ea
  obtain ⟨len, get⟩ := map_get da
  refine ⟨_, rfl, _, rfl, u, .ref a, rs, rfl, hd, h4, oks, u4, fun H5 b ds u5 b5 dok hw => ?_⟩
  have T5 : TupK H4 H5 := u4.tupK b5
  obtain ⟨b', ys, eb, sqb, db⟩ := tup_at hw
  cases eb
  obtain rfl := dp_ints db
  refine ⟨_, rfl, a, rfl, ⟨xs, T5.sqT sq⟩, fun D hD => ?_⟩
  have el : (ends rs).length = rs.length := (ends_ok rs).len
  refine lc_tup (K := K) (a := a) (xs := xs) (fun i H' => H' D = some (.lst (((ends rs).take i).map fun d : Nat => V.int (d : Int))) ∧ Same H5 H') ⟨upd_same, Same.new hD⟩ (fun i H' _ h => h.2.sqT (T5.sqT sq)) ?_ ?_
  · rintro j z H6 hz ⟨g1, g2⟩
    obtain ⟨r, hr1, hr2⟩ := get j z hz
    obtain ⟨ra, rxs, rfl, rsq, rda⟩ := tup_at (Dp.keep (T5.trans g2.tupK) _ _ (row_imm r) hr2)
    obtain ⟨rlen, _⟩ := map_get rda
    have ej : (ends rs)[j]? = some r.length := by unfold ends; rw [List.getElem?_map, hr1]; rfl
    refine ⟨rfl, _, rfl, ra, rxs, rfl, .inr rsq, _, g1, ?_, ?_, g2.own hD⟩
    · rw [List.length_map, List.length_take, el]
      exact Nat.lt_of_le_of_lt (show _ ≤ 4 by omega) (by decide)
    · rw [upd_same, List.take_add_one, ej, List.map_append, rlen]
      rfl
  rintro H6 ⟨g1, g2⟩
  rw [show xs.length = (ends rs).length by omega, List.take_length] at g1
  refine ⟨D, _, rfl, .inl ⟨.of g1, fun c hc => ?_⟩⟩
  refine ⟨_, _, rfl, ?_⟩
  have s57 := g2.step (o := .tup ((ends rs).map fun d : Nat => V.int (d : Int))) hc
  have hz : Dp K (upd H6 c (.tup ((ends rs).map fun d : Nat => V.int (d : Int)))) (.ref c) (depD (ends rs)) := .tup (.of upd_same) (dpAll_nats _)
  generalize upd H6 c (.tup ((ends rs).map fun d : Nat => V.int (d : Int))) = H7 at s57 hz ⊢
  clear g1 g2 hc hD
  have u7 := u5.same s57
  have sqz : SqT K H7 c ((ends rs).map fun d : Nat => V.int (d : Int)) := by
    obtain ⟨c', zs, ec, sz, dz⟩ := tup_at hz
    cases ec
    rw [← dp_ints dz]
    exact sz
  refine ⟨_, rfl, u, 999, rfl, by decide, by decide, u7, fun k2 H8 k20 k21 u8 b8 => ?_⟩
  refine ⟨_, _, rfl, rfl, by show 3 ≤ sizeLine; decide, fun sm hsm => ?_⟩
  have nsm : sm ≠ u := u8.ne hsm
  have u9 := u8.new (o := .lst [.int 1, .int 999, .int (1 + k2)]) hsm
  have T79 : TupK H7 (upd H8 sm (.lst [.int 1, .int 999, .int (1 + k2)])) := (u7.tupK b8).trans (Same.new hsm).tupK
  have T49 := (T5.trans s57.tupK).trans T79
  have b19 : But (· = u) H1 (upd H8 sm (.lst [.int 1, .int 999, .int (1 + k2)])) := (((b14.trans b5).trans s57.but).trans b8).new hsm
  have e9 : upd H8 sm (.lst [.int 1, .int 999, .int (1 + k2)]) sm = some (.lst (([1, 999, 1 + k2] : List Int).map V.int)) := upd_same
  generalize upd H8 sm (.lst [.int 1, .int 999, .int (1 + k2)]) = H9 at u9 T79 T49 b19 e9 ⊢
  have hd9 := Dp.keep T49 _ _ (rows_imm rs) hd
  have hw9 := Dp.keep (s57.tupK.trans T79) _ _ (dep_imm ds) hw
  have hz9 := Dp.keep T79 _ _ (dep_imm (ends rs)) hz
  have sq9 := T49.sqT sq
  have sqb9 := (s57.tupK.trans T79).sqT sqb
  have sqz9 := T79.sqT sqz
  have get9 : ∀ (i : Nat) (x : V), xs[i]? = some x → ∃ r, rs[i]? = some r ∧ Dp K H9 x (rowD r) := fun i x hx => by
    obtain ⟨r, h1, h2⟩ := get i x hx
    exact ⟨r, h1, Dp.keep T49 _ _ (row_imm r) h2⟩
  clear get da hd hw hz sq sqb sqz db T5 s57 b5 b8 u4 u5 u7 u8 hsm b14 T79 T49
  -- the keys
  refine ⟨_, rfl, a, rfl, ⟨xs, sq9⟩, ?_⟩
  refine for_it (walk_tup (K := K) (a := a) (xs := xs)) (fun n σ H' => ∃ (y3 y7 y8 : Option V) (sm : Addr) (ks : List Int), σ = [some (.ref u), some (.int (0 + (i : Int))), some (.ref a), y3, some (.ref b), some (.ref c), some (.ref sm), y7, y8, x9, x10, x11, x12, x13, x14, x15, x16, none] ∧
    H' sm = some (.lst (ks.map V.int)) ∧ sm ≠ u ∧ (∀ k ∈ ks, 1 ≤ k ∧ k ≤ 999) ∧ 1 ≤ ks.length ∧ ks.length ≤ 3 + 18 * n ∧ Same H9 H') ⟨x3, x7, x8, sm, [1, 999, 1 + k2], rfl, e9, nsm, ?_, by simp, by simp, Same.refl H9⟩ (fun n σ H' _ h => by obtain ⟨_, _, _, _, _, _, _, _, _, _, _, k⟩ := h; exact k.sqT sq9) ?_ ?_
  · intro k hk
    simp at hk
    omega
  · rintro n x σ _ H10 hn ⟨y3, y7, y8, sm, ks, rfl, esm, nsm, kok, kl1, kl2, s10⟩ ⟨rfl, hx⟩
    obtain ⟨r, hr1, hr2⟩ := get9 n x hx
    obtain ⟨ra, rxs, rfl, rsq, rda⟩ := tup_at (Dp.keep s10.tupK _ _ (row_imm r) hr2)
    obtain ⟨rlen, rget⟩ := map_get rda
    have okr := oks r (List.mem_of_getElem? hr1)
    refine ⟨_, rfl, _, rfl, ra, rxs, rfl, rsq, fun e H11 s11 se => ⟨e, rfl, ⟨_, se⟩, ?_⟩⟩
    have se' : SqT K H11 e (rxs.take 6) := by
      have z : cutV rxs none (some (6 : Int)) = rxs.take 6 := cut_to rxs 6
      rw [← z]
      exact se
    refine for_it (walk_tup (K := K) (a := e) (xs := cutV rxs none (some 6))) (fun n2 σ H' => ∃ (y7 y8 : Option V) (sm : Addr) (ks : List Int), σ = [some (.ref u), some (.int (0 + (i : Int))), some (.ref a), some (.ref ra), some (.ref b), some (.ref c), some (.ref sm), y7, y8, x9, x10, x11, x12, x13, x14, x15, x16, none] ∧
      H' sm = some (.lst (ks.map V.int)) ∧ sm ≠ u ∧ (∀ k ∈ ks, 1 ≤ k ∧ k ≤ 999) ∧ 1 ≤ ks.length ∧ ks.length ≤ 3 + 18 * n + 3 * n2 ∧ Same H11 H') ⟨y7, y8, sm, ks, rfl, s11 _ _ esm, nsm, kok, kl1, by omega, Same.refl H11⟩ (fun n σ H' _ h => by obtain ⟨_, _, _, _, _, _, _, _, _, _, k⟩ := h; exact k.sqT se) ?_ ?_
    · rintro n2 x σ _ H12 hn2 ⟨y7, y8, sm, ks, rfl, esm, nsm, kok, kl1, kl2, s12⟩ ⟨rfl, hx2⟩
      have z6 : cutV rxs none (some (6 : Int)) = rxs.take 6 := cut_to rxs 6
      rw [z6] at hx2 hn2
      have hn6 : n2 < 6 := by
        rw [List.length_take] at hn2
        omega
      rw [List.getElem?_take_of_lt hn6] at hx2
      obtain ⟨p, hp1, hp2⟩ := rget n2 x hx2
      obtain ⟨pb, rfl, t1⟩ := pair_at (Dp.keep (s11.trans s12).tupK _ _ (pair_imm p) hp2)
      have kp := okr.key p (List.mem_of_getElem? hp1)
      have n4 : n < 4 := by omega
      refine ⟨pb, _, rfl, t1, rfl, _, _, rfl, _, _, rfl, rfl, ?_⟩
      refine ⟨_, rfl, _, rfl, _, rfl, _, _, rfl, rfl, _, _, rfl, _, rfl, _, _, rfl, rfl, _, _, rfl, by show 3 ≤ sizeLine; decide, fun o ho => ?_⟩
      refine ⟨sm, o, _, _, rfl, rfl, Same.new ho _ _ esm, upd_same, ?_, fun p2 hp2 => ?_⟩
      · rw [List.length_map]
        exact Nat.le_trans (show _ ≤ 200 by show ks.length + 3 ≤ 200; omega) (by decide)
      · have s13 := (Same.new (o := .lst [.int p.2, .int (if p.2 + 1 < 999 then p.2 + 1 else 999), .int (if p.2 - 1 > 1 then p.2 - 1 else 1)]) ho).step (o := .lst (ks.map V.int ++ [.int p.2, .int (if p.2 + 1 < 999 then p.2 + 1 else 999), .int (if p.2 - 1 > 1 then p.2 - 1 else 1)])) hp2
        have npu : p2 ≠ u := by
          obtain ⟨y1, y2, y3, hy⟩ := u9
          have z := (((s10.trans s11).trans s12).step (o := .lst [.int p.2, .int (if p.2 + 1 < 999 then p.2 + 1 else 999), .int (if p.2 - 1 > 1 then p.2 - 1 else 1)]) ho) _ _ hy
          exact fun e => by rw [e, z] at hp2; cases hp2
        refine ⟨_, _, p2, ks ++ [p.2, (if p.2 + 1 < 999 then p.2 + 1 else 999), (if p.2 - 1 > 1 then p.2 - 1 else 1)], rfl, by rw [upd_same, List.map_append]; rfl, npu, ?_, ?_, ?_, s12.trans s13⟩
        · intro k hk
          rcases List.mem_append.mp hk with hk | hk
          · exact kok k hk
          · simp only [List.mem_cons, List.not_mem_nil, or_false] at hk
            rcases hk with rfl | rfl | rfl
            · exact kp
            · split <;> omega
            · split <;> omega
        · rw [List.length_append]
          omega
        · rw [List.length_append]
          show ks.length + 3 ≤ _
          omega
    · rintro σ H12 ⟨y7, y8, sm, ks, rfl, esm, nsm, kok, kl1, kl2, s12⟩
      have z6 : (cutV rxs none (some (6 : Int))).length ≤ 6 := by
        have z : cutV rxs none (some (6 : Int)) = rxs.take 6 := cut_to rxs 6
        rw [z, List.length_take]
        exact Nat.min_le_left _ _
      exact ⟨_, y7, y8, sm, ks, rfl, esm, nsm, kok, kl1, by omega, (s10.trans s11).trans s12⟩
  rintro σ B ⟨y3, y7, y8, sm, ks, rfl, esm, nsm, kok, kl1, kl2, sB⟩
  have uB := u9.same sB
  have b1B := b19.trans sB.but
  have hdB := Dp.keep sB.tupK _ _ (rows_imm rs) hd9
  have hwB := Dp.keep sB.tupK _ _ (dep_imm ds) hw9
  have hzB := Dp.keep sB.tupK _ _ (dep_imm (ends rs)) hz9
  have sqB := sB.sqT sq9
  have sqbB := sB.sqT sqb9
  have sqzB := sB.sqT sqz9
  have getB : ∀ (i : Nat) (x : V), xs[i]? = some x → ∃ r, rs[i]? = some r ∧ Dp K B x (rowD r) := fun i x hx => by
    obtain ⟨r, h1, h2⟩ := get9 i x hx
    exact ⟨r, h1, Dp.keep sB.tupK _ _ (row_imm r) h2⟩
  have kl : ks.length ≤ 3 + 18 * 4 := by omega
  clear get9 hd9 hw9 hz9 sq9 sqb9 sqz9 sB b19 e9 u9 kl2
  refine ⟨8, rfl, by decide, by decide, ?_⟩
  refine for_range (lo := 0) (n := 8) (fun n σ H' => ∃ (y3 y7 y8 y9 y10 y11 y12 y13 y14 y15 y16 : Option V), σ = [some (.ref u), some (.int (0 + (i : Int))), some (.ref a), y3, some (.ref b), some (.ref c), some (.ref sm), y7, y8, y9, y10, y11, y12, y13, y14, y15, y16, none] ∧ Urn H' u ∧ But (· = u) B H')
    ⟨y3, y7, y8, x9, x10, x11, x12, x13, x14, x15, x16, rfl, uB, But.refl B⟩ ?_ ?_
  case refine_2 =>
    rintro σ G ⟨y3, y7, y8, y9, y10, y11, y12, y13, y14, y15, y16, rfl, uG, bG⟩
    exact ⟨_, _, _, _, _, _, _, _, _, _, _, _, _, _, _, _, rfl, uG, b1.trans (b1B.trans bG)⟩
  clear x1 x2 x3 x4 x5 x6 x7 x8
  rintro n σ G0 hn ⟨y3, z7, z8, z9, z10, z11, z12, z13, z14, z15, z16, rfl, uG, bG⟩
  refine ⟨_, rfl, _, rfl, u, sm, _, rfl, nsm, .of (bG _ _ nsm esm), by rw [List.length_map]; omega, by rw [List.length_map]; omega, uG, fun j v G1 hj u1 bb1 => ?_⟩
  obtain ⟨k, hk, rfl⟩ := ints_at hj
  obtain ⟨k1, k9⟩ := kok k hk
  have bB1 : But (· = u) B G1 := bG.trans bb1
  have T1 : TupK B G1 := uB.tupK bB1
  clear hj hk bb1 uG bG
  refine ⟨_, rfl, _, rfl, _, rfl, .ref a, .ref b, rs, ds, k, rfl, Dp.keep T1 _ _ (rows_imm rs) hdB, Dp.keep T1 _ _ (dep_imm ds) hwB, dok, oks, h4, fun G2 t s2 dt => ?_⟩
  have T2 := T1.trans s2.tupK
  refine ⟨_, rfl, _, rfl, _, rfl, .ref a, .ref b, rs, ds, k, rfl, Dp.keep T2 _ _ (rows_imm rs) hdB, Dp.keep T2 _ _ (dep_imm ds) hwB, dok, oks, h1, h4, k1, k9, fun G3 t1 s3 d1 => ?_⟩
  have T3 := T2.trans s3.tupK
  refine ⟨_, rfl, _, rfl, _, rfl, .ref a, .ref b, rs, ds, k, rfl, Dp.keep T3 _ _ (rows_imm rs) hdB, Dp.keep T3 _ _ (dep_imm ds) hwB, dok, oks, h1, h4, k1, k9, fun G4 t2 s4 d2 => ?_⟩
  refine ⟨by show 2 ≤ sizeLine; decide, fun tl htl => ?_⟩
  have lb := low_B (ds := ds) (k := k) oks h4
  have tb := top_B (ds := ds) (k := k) oks h4
  have wb := low_B (ds := ends rs) (k := k) oks h4
  have ptd : tidy (pairD (lowS rs ds k, topS rs ds k)) = true := pair_tidy lb tb
  have s5 := Same.new (o := .lst [.ref t1, .ref t2]) htl
  have D5 : Dp K (upd G4 tl (.lst [.ref t1, .ref t2])) (.ref tl) (.list [pairD (lowS rs ds k, topS rs ds k), pairD (lowS rs ds k, topS rs ds k)]) := .lst (.of upd_same) (.cons (Dp.keep (s4.trans s5).tupK _ _ (pair_imm _) d1) (.cons (Dp.keep s5.tupK _ _ (pair_imm _) d2) .nil))
  have s25 : Same G2 (upd G4 tl (.lst [.ref t1, .ref t2])) := (s3.trans s4).trans s5
  have ltd : tidy (.list [pairD (lowS rs ds k, topS rs ds k), pairD (lowS rs ds k, topS rs ds k)]) = true := by simp only [tidy, tidyAll, ptd, Bool.and_true]
  generalize upd G4 tl (.lst [.ref t1, .ref t2]) = G5 at s5 D5 s25 ⊢
  clear d1 d2 htl T3
  have RL := rep_ok ltd (by simp [pairD, PyData.bulk, PyData.bulkAll]) (by simp [pairD, PyData.depth, PyData.depthAll])
  refine ⟨_, rfl, .ref tl, _, rfl, .inl D5, RL.1, RL.2.1, RL.2.2.1, RL.2.2.2, ?_⟩
  refine ⟨_, rfl, _, rfl, by show 2 ≤ sizeLine; decide, fun dl hdl => ?_⟩
  have s6 := Same.new (o := .lst [.ref t, .ref t]) hdl
  have d6 := Dp.keep (s25.trans s6).tupK _ _ (pair_imm _) dt
  refine ⟨.ref dl, _, rfl, .inl (.lst (.of upd_same) (.cons d6 (.cons d6 .nil))), RL.1, RL.2.1, RL.2.2.1, RL.2.2.2, ?_⟩
  refine ⟨rfl, _, rfl, iteB' (by simp) ?_⟩
  have s26 := s25.trans s6
  generalize upd G5 dl (.lst [.ref t, .ref t]) = G6 at s6 d6 s26 ⊢
  clear D5 s5 s6 s25 hdl s3 s4 dt
  have T6 := T2.trans s26.tupK
  have tot := ends_same oks k
  obtain ⟨hle1, hle2⟩ := total_S oks dok k
  refine ⟨_, rfl, _, rfl, _, rfl, .ref a, .ref c, rs, ends rs, k, rfl, Dp.keep T6 _ _ (rows_imm rs) hdB, Dp.keep T6 _ _ (dep_imm _) hzB, ends_ok rs, oks, h4, fun G7 t3 s7 d7 => ?_⟩
  rw [tot] at d7
  obtain ⟨a3, e3, t3'⟩ := pair_at d7
  cases e3
  refine ⟨t3, _, _, _, rfl, rfl, t3', rfl, ?_⟩
  have T7 := T6.trans s7.tupK
  refine ⟨_, rfl, _, rfl, _, rfl, .ref a, .ref c, rs, ends rs, k, rfl, Dp.keep T7 _ _ (rows_imm rs) hdB, Dp.keep T7 _ _ (dep_imm _) hzB, ends_ok rs, oks, h1, h4, k1, k9, fun G8 t4 s8 d8 => ?_⟩
  rw [tot] at d8
  have wtd : tidy (pairD (lowS rs (ends rs) k, lowS rs (ends rs) k)) = true := pair_tidy wb wb
  have RW := pair_rep wtd
  refine ⟨.ref t4, _, rfl, .inl d8, RW.1, RW.2.1, RW.2.2.1, RW.2.2.2, ?_⟩
  refine ⟨_, rfl, _, rfl, by show 2 ≤ sizeLine; decide, fun t5 ht5 => ?_⟩
  refine ⟨.ref t5, pairD (lowS rs (ends rs) k, lowS rs (ends rs) k), rfl, .inl (.tup (.of upd_same) (.cons (.int _) (.cons (.int _) .nil))), RW.1, RW.2.1, RW.2.2.1, RW.2.2.2, ?_⟩
  refine ⟨rfl, _, rfl, iteB' (by simp) ?_⟩
  have s9 := ((s7.trans s8).step (o := .tup [.int (lowS rs (ends rs) k), .int (lowS rs (ends rs) k)]) ht5)
  generalize upd G8 t5 (.tup [.int (lowS rs (ends rs) k), .int (lowS rs (ends rs) k)]) = G9 at s9 ⊢
  have dt9 := Dp.keep s9.tupK _ _ (pair_imm _) d6
  obtain ⟨t', et, td⟩ := pair_at dt9
  cases et
  have T9 := T6.trans s9.tupK
  have u9 := (u1.same s2).same (s26.trans s9)
  have b9 := ((bB1.trans s2.but).trans s26.but).trans s9.but
  clear d6 d7 d8 t3' s7 s8 ht5 T6 T7 T2 T1 s2 s26 s9 u1 bB1 dt9
  refine ⟨_, rfl, t, _, _, _, rfl, rfl, td, rfl, _, rfl, _, _, rfl, rfl, _, rfl, iteB (decide_eq_true hle1) ?_⟩
  refine ⟨_, rfl, t, _, _, _, rfl, rfl, td, rfl, _, _, rfl, rfl, _, rfl, iteB' (by simp; omega) ?_⟩
  refine ⟨_, rfl, _, rfl, a, xs, rfl, .inr (T9.sqT sqB), u, _, rfl, by omega, by omega, u9, fun at0 G10 a0 a1 u10 b10 => ?_⟩
  have T10 := T9.trans (u9.tupK b10)
  have td10 := (u9.tupK b10).sqT td
  have bB10 := b9.trans b10
  clear T9 td b9 b10 u9
  obtain ⟨m, rfl⟩ : ∃ m : Nat, at0 = m := ⟨at0.toNat, by omega⟩
  obtain ⟨r, hr1⟩ : ∃ r, rs[m]? = some r := ⟨_, List.getElem?_eq_getElem (by omega)⟩
  obtain ⟨d, hd1⟩ : ∃ d, ds[m]? = some d := ⟨_, List.getElem?_eq_getElem (by have := dok.len; omega)⟩
  have hym : (ds.map fun d : Nat => V.int (d : Int))[m]? = some (.int (d : Int)) := by rw [List.getElem?_map, hd1]; rfl
  have hzm : ((ends rs).map fun d : Nat => V.int (d : Int))[m]? = some (.int (r.length : Int)) := by
    unfold ends
    rw [List.getElem?_map, List.getElem?_map, hr1]
    rfl
  refine gname_of ?_
  dsimp only
  refine seq_by (fun σ' H' => ∃ (y14 y15 : Option V), σ' = [some (.ref u), some (.int (0 + (i : Int))), some (.ref a), y3, some (.ref b), some (.ref c), some (.ref sm), z7, some (.int k), some (.int (0 + (n : Int))), some (.ref t), some (.ref tl), some (.int (lowS rs (ends rs) k)), some (.int (m : Int)), y14, y15, z16, none] ∧ Same G10 H') ?_ ?_
  · intro N hN
    refine ⟨_, rfl, _, rfl, b, _, _, _, rfl, rfl, T10.sqT sqbB, atI_nat hym, _, rfl, _, rfl, c, _, _, _, rfl, rfl, T10.sqT sqzB, atI_nat hzm, _, _, rfl, rfl, _, rfl, ?_⟩
    by_cases lt : d < r.length
    · refine iteB (decide_eq_true (by omega)) ?_
      obtain ⟨dok', more1, more2⟩ := more_S oks dok hr1 hd1 lt k
      refine ⟨_, rfl, _, rfl, _, rfl, _, rfl, b, _, rfl, T10.sqT sqbB, fun p1 G11 s11 q1 => ?_⟩
      refine ⟨_, rfl, _, rfl, b, _, _, _, rfl, rfl, s11.sqT (T10.sqT sqbB), atI_nat hym, _, _, rfl, rfl, by show 1 ≤ sizeLine; decide, fun p2 hp2 => ?_⟩
      rw [cut_to] at q1
      refine ⟨p1, p2, _, _, rfl, rfl, (Same.new hp2).sqT q1, .of upd_same, ?_, fun p3 G12 s12 q3 => ?_⟩
      · rw [List.length_take, List.length_map]
        have := dok.len
        exact Nat.le_trans (show _ ≤ 5 by show min m ds.length + 1 ≤ 5; omega) (by decide)
      have s102 := (s11.step (o := .tup [.int ((d : Int) + 1)]) hp2).trans s12
      refine ⟨_, rfl, _, rfl, _, _, rfl, rfl, _, rfl, b, _, rfl, s102.sqT (T10.sqT sqbB), fun p4 G13 s13 q4 => ?_⟩
      rw [show ((m : Int) + 1) = ((m + 1 : Nat) : Int) by omega, cut_from] at q4
      refine ⟨p3, p4, _, _, rfl, rfl, s13.sqT q3, q4, ?_, fun p5 G14 s14 q5 => ?_⟩
      · rw [List.length_append, List.length_take, List.length_drop, List.length_map]
        have := dok.len
        exact Nat.le_trans (show _ ≤ 9 by show min m ds.length + 1 + (ds.length - (m + 1)) ≤ 9; omega) (by decide)
      have s104 := (s102.trans s13).trans s14
      have T14 := T10.trans s104.tupK
      have hset : Dp K G14 (.ref p5) (depD (ds.set m (d + 1))) := by
        refine .tup q5 ?_
        have e : ds.set m (d + 1) = ds.take m ++ [d + 1] ++ ds.drop (m + 1) := by
          rw [List.set_eq_take_append_cons_drop, if_pos (by have := dok.len; omega)]
          simp
        rw [e, List.map_append, List.map_append, ← List.map_take, ← List.map_drop]
        exact DpAll.app (DpAll.app (dpAll_nats _) (.cons (.int _) .nil)) (dpAll_nats _)
      refine ⟨_, rfl, .ref a, .ref p5, rs, ds.set m (d + 1), k, rfl, Dp.keep T14 _ _ (rows_imm rs) hdB, hset, dok', oks, h1, h4, k1, k9, fun G15 t6 s15 d15 => ?_⟩
      obtain ⟨t6', e6, q6⟩ := pair_at d15
      cases e6
      refine ⟨t6, _, rfl, q6, rfl, _, _, rfl, _, _, rfl, rfl, ?_⟩
      have s105 := s104.trans s15
      refine ⟨_, rfl, _, rfl, t, _, _, _, rfl, rfl, s105.sqT td10, rfl, _, _, rfl, rfl, _, rfl, iteB' (decide_eq_false (by show ¬ lowS rs (ds.set m (d + 1)) k < lowS rs ds k; omega)) ?_⟩
      refine ⟨_, rfl, _, rfl, t, _, _, _, rfl, rfl, s105.sqT td10, rfl, _, _, rfl, rfl, _, rfl, iteB' (decide_eq_false (by show ¬ topS rs (ds.set m (d + 1)) k > topS rs ds k; omega)) ?_⟩
      exact hN _ _ ⟨_, _, rfl, s105⟩
    · exact iteB' (decide_eq_false (by omega)) (hN _ _ ⟨_, _, rfl, Same.refl _⟩)
  rintro σ G11 ⟨y14, y15, rfl, s11⟩
  have T11 := T10.trans s11.tupK
  have td11 := s11.sqT td10
  have u11 := u10.same s11
  have bB11 := bB10.trans s11.but
  clear T10 td10 u10 bB10 s11 hym hzm hr1 hd1 a0 a1
  refine ⟨_, rfl, _, rfl, a, b, xs, _, rfl, .inr ⟨T11.sqT sqB, T11.sqT sqbB, fun D hD => ?_⟩⟩
  refine lc_it (walk_zipT (K := K) (a := a) (b := b) (xs := xs) (ys := ds.map fun d : Nat => V.int (d : Int)) (n := rs.length) len (by rw [List.length_map]; exact dok.len)) (fun i H' => ∃ (acc : List V) (ws : List (Option Row)), H' D = some (.lst acc) ∧ DpAll K H' acc (ws.map topD) ∧ ws.length = i ∧
    (∀ (j : Nat) (t : Row), ws[j]? = some (some t) → ∃ r d, rs[j]? = some r ∧ ds[j]? = some d ∧ Topped r d k t) ∧ Same G11 H') ⟨[], [], upd_same, .nil, rfl, (fun j t h => by simp at h), Same.new hD⟩ (fun i H' _ h => by obtain ⟨_, _, _, _, _, _, kk⟩ := h; exact ⟨kk.sqT (T11.sqT sqB), kk.sqT (T11.sqT sqbB)⟩) ?_ ?_
  · rintro i0 x H1' H2' hi0 ⟨acc, ws, e1, e2, e3, e4, kk⟩ ⟨tp, y, z, rfl, ht, rfl, hy, hz⟩
    obtain ⟨r, hr1, hr2⟩ := getB i0 y hy
    have hz : (ds.map fun d : Nat => V.int (d : Int))[i0]? = some z := hz
    rw [List.getElem?_map] at hz
    obtain ⟨d, hd1⟩ : ∃ d, ds[i0]? = some d := ⟨_, List.getElem?_eq_getElem (by have := dok.len; omega)⟩
    rw [hd1] at hz
    cases hz
    have k2' := kk.step (o := .tup [y, .int (d : Int)]) ht
    have n2 := Same.new (o := .tup [y, .int (d : Int)]) ht
    refine ⟨tp, _, rfl, .of upd_same, rfl, _, _, rfl, _, _, rfl, rfl, rfl, ?_⟩
    refine ⟨_, rfl, _, rfl, _, rfl, y, r, d, k, rfl, Dp.keep (T11.trans k2'.tupK) _ _ (row_imm r) hr2, oks r (List.mem_of_getElem? hr1), dok.le i0 r d hr1 hd1, k1, k9, fun H3' x s3 hx => ?_⟩
    have e13 := s3 _ _ (n2 _ _ e1)
    have tk : TupK H3' (upd H3' D (.lst (acc ++ [x]))) := But.tupK (S := (· = D)) (But.set rfl) fun c ys hc => by rw [hc]; exact not_tup_lst e13
    obtain ⟨o, ox, od⟩ : ∃ o, Dp K H3' x (topD o) ∧ ∀ t, o = some t → Topped r d k t := by
      rcases hx with rfl | ⟨t, ht1, ht2⟩
      · exact ⟨none, .non, fun t h => by cases h⟩
      · exact ⟨some t, ht2, fun t' h => by cases h; exact ht1⟩
    refine ⟨acc, e13, ?_, acc ++ [x], ws ++ [o], upd_same, ?_, ?_, ?_, (k2'.trans s3).own hD⟩
    · rw [DpAll.length e2, List.length_map, e3]
      exact Nat.lt_of_le_of_lt (show _ ≤ 4 by omega) (by decide)
    · rw [List.map_append]
      exact DpAll.app (Dp.keepAll ((n2.trans s3).tupK.trans tk) _ _ (immAll_map top_imm _) e2) (.cons (Dp.keep tk _ _ (top_imm o) ox) .nil)
    · rw [List.length_append, e3]
      rfl
    · intro j t hj
      by_cases hj2 : j < ws.length
      · rw [List.getElem?_append_left hj2] at hj
        exact e4 j t hj
      · have hj3 : j = i0 := by
          have := (List.getElem?_eq_some_iff.mp hj).1
          rw [List.length_append] at this
          simp at this
          omega
        subst hj3
        rw [List.getElem?_append_right (by omega), e3, Nat.sub_self] at hj
        simp at hj
        exact ⟨r, d, hr1, hd1, od t hj⟩
  rintro G12 ⟨acc, ws, e1, e2, e3, e4, s12⟩
  have T12 := T11.trans s12.tupK
  have td12 := s12.sqT td11
  have u12 := u11.same s12
  have bB12 := bB11.trans s12.but
  clear T11 td11 u11 bB11 s12 hD
  have shp : tidyAll (ws.map topD) = true ∧ PyData.depthAll (ws.map topD) ≤ 10 := by
    have each : ∀ o ∈ ws, tidy (topD o) = true ∧ (topD o).depth ≤ 10 := by
      intro o ho
      cases o with
      | none => exact ⟨rfl, by simp [topD, PyData.depth]⟩
      | some t =>
        obtain ⟨j, hj⟩ := List.getElem?_of_mem ho
        obtain ⟨r, d, _, _, tt⟩ := e4 j t hj
        exact row_tidy tt.ok
    exact ⟨tidyAll_map fun o ho => (each o ho).1, depth_map fun o ho => (each o ho).2⟩
  refine ⟨_, rfl, .none, ws.map topD, .non, .lst (.of e1) e2, rfl, shaped_of (by simp only [tidy]; exact shp.1) (by simp only [PyData.depth]; omega), _, rfl, ?_⟩
  cases hany : ((ws.map topD).any fun z => PyData.eqv z .none) with
  | true =>
    refine iteB' rfl (iteF ?_)
    exact ⟨_, _, _, _, _, _, _, _, _, _, _, rfl, u12, bB12⟩
  | false =>
    refine iteB rfl ?_
    obtain ⟨ts, rfl⟩ := tops_of hany
    rw [List.length_map] at e3
    have tops : Tops rs ds k ts := ⟨e3, fun j r t d hr ht hd => by
      obtain ⟨r', d', h1, h2, h3⟩ := e4 j t (by rw [List.getElem?_map, ht]; rfl)
      rw [hr] at h1
      rw [hd] at h2
      cases h1
      cases h2
      exact h3⟩
    have toks := tops.oks dok
    have tend := tops.ends dok
    have tsum := tops.sum dok
    have tlow : lowS ts (ends rs) k = topS rs ds k := by
      rw [← tsum, ← tend]
      exact (ends_same toks k).symm
    have e2' : DpAll K G12 acc (ts.map rowD) := by
      rw [List.map_map] at e2
      exact e2
    refine ⟨_, rfl, D, acc, rfl, .inl ⟨.of e1, fun l hl => ?_⟩⟩
    have s13 := Same.new (o := .tup acc) hl
    have T13 := T12.trans s13.tupK
    have dl : Dp K (upd G12 l (.tup acc)) (.ref l) (rowsD ts) := .tup (.of upd_same) (Dp.keepAll s13.tupK _ _ (immAll_map row_imm _) e2')
    refine ⟨_, rfl, _, rfl, .ref l, .ref c, ts, ends rs, k, rfl, dl, Dp.keep T13 _ _ (dep_imm _) hzB, by rw [← tend]; exact ends_ok ts, toks, by omega, by omega, k1, k9, fun G14 t7 s14 d7 => ?_⟩
    rw [tlow, tsum] at d7
    have ttd : tidy (pairD (topS rs ds k, topS rs ds k)) = true := pair_tidy tb tb
    have RT := pair_rep ttd
    refine ⟨.ref t7, _, rfl, .inl d7, RT.1, RT.2.1, RT.2.2.1, RT.2.2.2, ?_⟩
    have td14 := (s13.trans s14).sqT td12
    refine ⟨_, rfl, t, _, _, _, rfl, rfl, td14, rfl, _, rfl, t, _, _, _, rfl, rfl, td14, rfl, by show 2 ≤ sizeLine; decide, fun t8 ht8 => ?_⟩
    refine ⟨.ref t8, pairD (topS rs ds k, topS rs ds k), rfl, .inl (.tup (.of upd_same) (.cons (.int _) (.cons (.int _) .nil))), RT.1, RT.2.1, RT.2.2.1, RT.2.2.2, ?_⟩
    refine ⟨rfl, _, rfl, iteB' (by simp) ?_⟩
    have s15 := (s13.trans s14).step (o := .tup [.int (topS rs ds k), .int (topS rs ds k)]) ht8
    exact ⟨_, _, _, _, _, _, _, _, _, _, _, rfl, u12.same s15, bB12.trans s15.but⟩
end
end K71
namespace K71
open PySem PySem.Spec PyProof.Rows L2
def spLaw (K : PySem.W.Frag) : Sp := fun vs H Q _ => ∃ (a : Addr) (ns : List Int), vs = [.ref a] ∧ SqL K H a (ns.map V.int) ∧ ns.length ≤ 63 ∧ ∀ H', Q (.bl true) H'
section
variable {P : Program} {w : World} {K : PySem.W.Frag} {mg : Str → Option Value} {base : Heap}
theorem ok_law (T : Txt P K mg) : FnG P w K mg base CX0 11 T.f_law T.d_law ["script"] (spLaw K) := by
  refine T.F_law.okG sc_law (fun vs H Q E h => by obtain ⟨a, ns, rfl, _⟩ := h; rfl) (fun cdv A outer s H vs Q E gd hr h => ⟨_, (pss_one (ps_ret (pe_callB (cr_all rfl) rfl T.z_all (by decide +kernel) (pa_cons (pe_lc (own := [("lap", 1)]) (te := tCall (spRight K) [] E0 (tCons (tCall (spUrn K) [] E0 (tCons (tVar 0) (tCons (tVar 1) tNil))) tNil)) rfl sc_law.nd (pi_range1 rfl T.z_range (pa_cons (pe_callB (call_max2 rfl) rfl T.z_max (by decide +kernel) (pa_cons pe_int (pa_cons (pe_callB (call_min2 rfl) rfl T.z_min (by decide +kernel) (pa_cons (pe_callB call_len_seq rfl T.z_len (by decide +kernel) (pa_cons (pv 0) pa_nil)) (pa_cons pe_int pa_nil))) pa_nil))) pa_nil)) (blkOk_by (own := [("lap", 1)]) (N := N_law) (sc := defScope s_law) (by decide +kernel)) (fun _ _ _ _ _ => (pg_name (i := 1) sc_law.nd rfl (by first | exact Or.inl rfl | exact Or.inr rfl))) (fun _ _ _ _ _ => (by exact pts_nil)) (fun _ _ _ _ _ => (by exact (pe_callG (by exact gd) (ok_law_right T) (hr.mono (by omega)) rfl T.g__law_right T.F_law_right.kp T.b_law_right .nil pass0 (pa_cons (pe_call (ok_law_urn T) (hr.mono (by omega)) rfl T.g__law_urn T.F_law_urn.kp T.b_law_urn .nil pass0 (pa_cons (pv 0) (pa_cons (pv 1) pa_nil))) pa_nil))))) pa_nil)))), ?_⟩)
  obtain ⟨a, ns, rfl, hS, hlen, q⟩ := h
  refine ⟨_, rfl, a, _, rfl, .inl hS, _, _, rfl, _, _, rfl, ?_⟩
  rw [List.length_map]
  obtain ⟨m, hm, hm4⟩ : ∃ m : Nat, (if (if (4 : Int) < (ns.length : Int) then (4 : Int) else (ns.length : Int)) > 2 then (if (4 : Int) < (ns.length : Int) then (4 : Int) else (ns.length : Int)) else 2) = (m : Int) ∧ m ≤ 4 := by
    refine ⟨(if (if (4 : Int) < (ns.length : Int) then (4 : Int) else (ns.length : Int)) > 2 then (if (4 : Int) < (ns.length : Int) then (4 : Int) else (ns.length : Int)) else 2).toNat, ?_, ?_⟩ <;> split <;> split <;> omega
  rw [hm]
  refine ⟨m, rfl, by omega, by omega, fun D hD => ?_⟩
  refine lc_range (n := m) (fun i H' => H' D = some (.lst ((List.replicate i true).map V.bl)) ∧ Same H H') ⟨upd_same, Same.new hD⟩ ?_ ?_
  · rintro i H1 hi ⟨e1, e2⟩
    refine ⟨rfl, _, rfl, _, rfl, a, ns, _, rfl, by omega, e2.seq hS, fun u H2 s2 hu urn => ?_⟩
    refine ⟨u, rfl, urn, fun H3 k3 => ?_⟩
    have s3 : Same H1 H3 := L2.But.toSame (S := (· = u)) k3 s2 (fun b e => by rw [e]; exact hu)
    refine ⟨_, s3 _ _ e1, ?_, ?_, (e2.trans s3).own hD⟩
    · rw [List.length_map, List.length_replicate]
      exact Nat.lt_of_lt_of_le hi (Nat.le_trans hm4 (by decide))
    · rw [upd_same, List.replicate_succ', List.map_append]
      rfl
  · rintro H1 ⟨e1, e2⟩
    exact ⟨D, List.replicate m true, rfl, .of e1, of_dec (q H1) (by simp)⟩
end
theorem kb_sums_of_key_depths_lists {K : PySem.W.Frag} {kV dc pm cd ct : Value} {an : Option Addr} : KBinds K (PySem.W.fnOf "sums_of" "sums_of" (defArgs s_sums_of) (defBody s_sums_of) (defScope s_sums_of) .none kV dc pm an cd ct) ["lists", "depths", "key"] ["key", "depths", "lists"] (fun us ws => kbP 0 3 [2, 1, 0] us ws) (fun us ws => kbP 0 3 [2, 1, 0] us ws) where
  to := fun s us ws _ hl => by
    obtain ⟨h1, h2⟩ := kbP_len hl (by decide)
    match us, h1, ws, h2 with
    | [], _, [_, _, _], _ => exact .of_eq rfl
  rel := fun a b => kbP_rel a b
theorem txt_mk {P : Program} {K : PySem.W.Frag} {h : Heap} {mg : Str → Option Value} {f_is_whole f_is_number f_is_key f_is_tuple_of f_is_ascending f_check_number f_bound_of f_read_by f_sums_by f_is_pair f_is_list f_check_lists f_check_depths f_sums_of f_law_urn f_law_take f_law_of f_law_first f_law_lists f_law_depths f_law_bound f_law_sums f_law_topped f_law_right f_law : Addr} {od_is_whole an_is_whole od_is_number an_is_number od_is_key an_is_key od_is_tuple_of an_is_tuple_of od_is_ascending an_is_ascending od_check_number an_check_number od_bound_of an_bound_of od_read_by an_read_by od_sums_by an_sums_by od_is_pair an_is_pair od_is_list an_is_list od_check_lists an_check_lists od_check_depths an_check_depths od_sums_of an_sums_of od_law_urn an_law_urn od_law_take an_law_take od_law_of an_law_of od_law_first an_law_first od_law_lists an_law_lists od_law_depths an_law_depths od_law_bound an_law_bound od_law_sums an_law_sums od_law_topped an_law_topped od_law_right an_law_right od_law an_law : Option Addr} {sl_is_whole sl_is_number sl_is_key sl_is_tuple_of sl_is_ascending sl_check_number sl_bound_of sl_read_by sl_sums_by sl_is_pair sl_is_list sl_check_lists sl_check_depths sl_sums_of sl_law_urn sl_law_take sl_law_of sl_law_first sl_law_lists sl_law_depths sl_law_bound sl_law_sums sl_law_topped sl_law_right sl_law : Array (Option Value)} {oc_is_whole kV_is_whole dc_is_whole pm_is_whole cd_is_whole ct_is_whole oc_is_number kV_is_number dc_is_number pm_is_number cd_is_number ct_is_number oc_is_key kV_is_key dc_is_key pm_is_key cd_is_key ct_is_key oc_is_tuple_of kV_is_tuple_of dc_is_tuple_of pm_is_tuple_of cd_is_tuple_of ct_is_tuple_of oc_is_ascending kV_is_ascending dc_is_ascending pm_is_ascending cd_is_ascending ct_is_ascending oc_check_number kV_check_number dc_check_number pm_check_number cd_check_number ct_check_number oc_bound_of kV_bound_of dc_bound_of pm_bound_of cd_bound_of ct_bound_of oc_read_by kV_read_by dc_read_by pm_read_by cd_read_by ct_read_by oc_sums_by kV_sums_by dc_sums_by pm_sums_by cd_sums_by ct_sums_by oc_is_pair kV_is_pair dc_is_pair pm_is_pair cd_is_pair ct_is_pair oc_is_list kV_is_list dc_is_list pm_is_list cd_is_list ct_is_list oc_check_lists kV_check_lists dc_check_lists pm_check_lists cd_check_lists ct_check_lists oc_check_depths kV_check_depths dc_check_depths pm_check_depths cd_check_depths ct_check_depths oc_sums_of kV_sums_of dc_sums_of pm_sums_of cd_sums_of ct_sums_of oc_law_urn kV_law_urn dc_law_urn pm_law_urn cd_law_urn ct_law_urn oc_law_take kV_law_take dc_law_take pm_law_take cd_law_take ct_law_take oc_law_of kV_law_of dc_law_of pm_law_of cd_law_of ct_law_of oc_law_first kV_law_first dc_law_first pm_law_first cd_law_first ct_law_first oc_law_lists kV_law_lists dc_law_lists pm_law_lists cd_law_lists ct_law_lists oc_law_depths kV_law_depths dc_law_depths pm_law_depths cd_law_depths ct_law_depths oc_law_bound kV_law_bound dc_law_bound pm_law_bound cd_law_bound ct_law_bound oc_law_sums kV_law_sums dc_law_sums pm_law_sums cd_law_sums ct_law_sums oc_law_topped kV_law_topped dc_law_topped pm_law_topped cd_law_topped ct_law_topped oc_law_right kV_law_right dc_law_right pm_law_right cd_law_right ct_law_right oc_law kV_law dc_law pm_law cd_law ct_law : Value}
    {t_MOST_KEY : Tok} {t_MOST_POINTS : Tok} {t_MOST_LISTS : Tok} {t_MOST_PAIRS : Tok} (X : K.In h) (G : h.Ns mainGlobals mg)
    (a_is_whole : PySem.W.nsIn K mainGlobals "is_whole" = some (some (.ref f_is_whole)))
    (l_is_whole : K.lookup f_is_whole = some ⟨oc_is_whole, od_is_whole, .func (PySem.W.fnOf "is_whole" "is_whole" (defArgs s_is_whole) (defBody s_is_whole) (defScope s_is_whole) .none kV_is_whole dc_is_whole pm_is_whole an_is_whole cd_is_whole ct_is_whole), sl_is_whole⟩)
    (c_is_whole : PySem.W.codeIn K cd_is_whole "is_whole" = true)
    (k_is_whole : PySem.W.keepIn K (.ref f_is_whole) = true)
    (a_is_number : PySem.W.nsIn K mainGlobals "is_number" = some (some (.ref f_is_number)))
    (l_is_number : K.lookup f_is_number = some ⟨oc_is_number, od_is_number, .func (PySem.W.fnOf "is_number" "is_number" (defArgs s_is_number) (defBody s_is_number) (defScope s_is_number) .none kV_is_number dc_is_number pm_is_number an_is_number cd_is_number ct_is_number), sl_is_number⟩)
    (c_is_number : PySem.W.codeIn K cd_is_number "is_number" = true)
    (k_is_number : PySem.W.keepIn K (.ref f_is_number) = true)
    (a_is_key : PySem.W.nsIn K mainGlobals "is_key" = some (some (.ref f_is_key)))
    (l_is_key : K.lookup f_is_key = some ⟨oc_is_key, od_is_key, .func (PySem.W.fnOf "is_key" "is_key" (defArgs s_is_key) (defBody s_is_key) (defScope s_is_key) .none kV_is_key dc_is_key pm_is_key an_is_key cd_is_key ct_is_key), sl_is_key⟩)
    (c_is_key : PySem.W.codeIn K cd_is_key "is_key" = true)
    (k_is_key : PySem.W.keepIn K (.ref f_is_key) = true)
    (a_is_tuple_of : PySem.W.nsIn K mainGlobals "is_tuple_of" = some (some (.ref f_is_tuple_of)))
    (l_is_tuple_of : K.lookup f_is_tuple_of = some ⟨oc_is_tuple_of, od_is_tuple_of, .func (PySem.W.fnOf "is_tuple_of" "is_tuple_of" (defArgs s_is_tuple_of) (defBody s_is_tuple_of) (defScope s_is_tuple_of) .none kV_is_tuple_of dc_is_tuple_of pm_is_tuple_of an_is_tuple_of cd_is_tuple_of ct_is_tuple_of), sl_is_tuple_of⟩)
    (c_is_tuple_of : PySem.W.codeIn K cd_is_tuple_of "is_tuple_of" = true)
    (k_is_tuple_of : PySem.W.keepIn K (.ref f_is_tuple_of) = true)
    (a_is_ascending : PySem.W.nsIn K mainGlobals "is_ascending" = some (some (.ref f_is_ascending)))
    (l_is_ascending : K.lookup f_is_ascending = some ⟨oc_is_ascending, od_is_ascending, .func (PySem.W.fnOf "is_ascending" "is_ascending" (defArgs s_is_ascending) (defBody s_is_ascending) (defScope s_is_ascending) .none kV_is_ascending dc_is_ascending pm_is_ascending an_is_ascending cd_is_ascending ct_is_ascending), sl_is_ascending⟩)
    (c_is_ascending : PySem.W.codeIn K cd_is_ascending "is_ascending" = true)
    (k_is_ascending : PySem.W.keepIn K (.ref f_is_ascending) = true)
    (a_check_number : PySem.W.nsIn K mainGlobals "check_number" = some (some (.ref f_check_number)))
    (l_check_number : K.lookup f_check_number = some ⟨oc_check_number, od_check_number, .func (PySem.W.fnOf "check_number" "check_number" (defArgs s_check_number) (defBody s_check_number) (defScope s_check_number) .none kV_check_number dc_check_number pm_check_number an_check_number cd_check_number ct_check_number), sl_check_number⟩)
    (c_check_number : PySem.W.codeIn K cd_check_number "check_number" = true)
    (k_check_number : PySem.W.keepIn K (.ref f_check_number) = true)
    (a_bound_of : PySem.W.nsIn K mainGlobals "bound_of" = some (some (.ref f_bound_of)))
    (l_bound_of : K.lookup f_bound_of = some ⟨oc_bound_of, od_bound_of, .func (PySem.W.fnOf "bound_of" "bound_of" (defArgs s_bound_of) (defBody s_bound_of) (defScope s_bound_of) .none kV_bound_of dc_bound_of pm_bound_of an_bound_of cd_bound_of ct_bound_of), sl_bound_of⟩)
    (c_bound_of : PySem.W.codeIn K cd_bound_of "bound_of" = true)
    (k_bound_of : PySem.W.keepIn K (.ref f_bound_of) = true)
    (a_read_by : PySem.W.nsIn K mainGlobals "read_by" = some (some (.ref f_read_by)))
    (l_read_by : K.lookup f_read_by = some ⟨oc_read_by, od_read_by, .func (PySem.W.fnOf "read_by" "read_by" (defArgs s_read_by) (defBody s_read_by) (defScope s_read_by) .none kV_read_by dc_read_by pm_read_by an_read_by cd_read_by ct_read_by), sl_read_by⟩)
    (c_read_by : PySem.W.codeIn K cd_read_by "read_by" = true)
    (k_read_by : PySem.W.keepIn K (.ref f_read_by) = true)
    (a_sums_by : PySem.W.nsIn K mainGlobals "sums_by" = some (some (.ref f_sums_by)))
    (l_sums_by : K.lookup f_sums_by = some ⟨oc_sums_by, od_sums_by, .func (PySem.W.fnOf "sums_by" "sums_by" (defArgs s_sums_by) (defBody s_sums_by) (defScope s_sums_by) .none kV_sums_by dc_sums_by pm_sums_by an_sums_by cd_sums_by ct_sums_by), sl_sums_by⟩)
    (c_sums_by : PySem.W.codeIn K cd_sums_by "sums_by" = true)
    (k_sums_by : PySem.W.keepIn K (.ref f_sums_by) = true)
    (a_is_pair : PySem.W.nsIn K mainGlobals "is_pair" = some (some (.ref f_is_pair)))
    (l_is_pair : K.lookup f_is_pair = some ⟨oc_is_pair, od_is_pair, .func (PySem.W.fnOf "is_pair" "is_pair" (defArgs s_is_pair) (defBody s_is_pair) (defScope s_is_pair) .none kV_is_pair dc_is_pair pm_is_pair an_is_pair cd_is_pair ct_is_pair), sl_is_pair⟩)
    (c_is_pair : PySem.W.codeIn K cd_is_pair "is_pair" = true)
    (k_is_pair : PySem.W.keepIn K (.ref f_is_pair) = true)
    (a_is_list : PySem.W.nsIn K mainGlobals "is_list" = some (some (.ref f_is_list)))
    (l_is_list : K.lookup f_is_list = some ⟨oc_is_list, od_is_list, .func (PySem.W.fnOf "is_list" "is_list" (defArgs s_is_list) (defBody s_is_list) (defScope s_is_list) .none kV_is_list dc_is_list pm_is_list an_is_list cd_is_list ct_is_list), sl_is_list⟩)
    (c_is_list : PySem.W.codeIn K cd_is_list "is_list" = true)
    (k_is_list : PySem.W.keepIn K (.ref f_is_list) = true)
    (a_check_lists : PySem.W.nsIn K mainGlobals "check_lists" = some (some (.ref f_check_lists)))
    (l_check_lists : K.lookup f_check_lists = some ⟨oc_check_lists, od_check_lists, .func (PySem.W.fnOf "check_lists" "check_lists" (defArgs s_check_lists) (defBody s_check_lists) (defScope s_check_lists) .none kV_check_lists dc_check_lists pm_check_lists an_check_lists cd_check_lists ct_check_lists), sl_check_lists⟩)
    (c_check_lists : PySem.W.codeIn K cd_check_lists "check_lists" = true)
    (k_check_lists : PySem.W.keepIn K (.ref f_check_lists) = true)
    (a_check_depths : PySem.W.nsIn K mainGlobals "check_depths" = some (some (.ref f_check_depths)))
    (l_check_depths : K.lookup f_check_depths = some ⟨oc_check_depths, od_check_depths, .func (PySem.W.fnOf "check_depths" "check_depths" (defArgs s_check_depths) (defBody s_check_depths) (defScope s_check_depths) .none kV_check_depths dc_check_depths pm_check_depths an_check_depths cd_check_depths ct_check_depths), sl_check_depths⟩)
    (c_check_depths : PySem.W.codeIn K cd_check_depths "check_depths" = true)
    (k_check_depths : PySem.W.keepIn K (.ref f_check_depths) = true)
    (a_sums_of : PySem.W.nsIn K mainGlobals "sums_of" = some (some (.ref f_sums_of)))
    (l_sums_of : K.lookup f_sums_of = some ⟨oc_sums_of, od_sums_of, .func (PySem.W.fnOf "sums_of" "sums_of" (defArgs s_sums_of) (defBody s_sums_of) (defScope s_sums_of) .none kV_sums_of dc_sums_of pm_sums_of an_sums_of cd_sums_of ct_sums_of), sl_sums_of⟩)
    (c_sums_of : PySem.W.codeIn K cd_sums_of "sums_of" = true)
    (k_sums_of : PySem.W.keepIn K (.ref f_sums_of) = true)
    (a_law_urn : PySem.W.nsIn K mainGlobals "_law_urn" = some (some (.ref f_law_urn)))
    (l_law_urn : K.lookup f_law_urn = some ⟨oc_law_urn, od_law_urn, .func (PySem.W.fnOf "_law_urn" "_law_urn" (defArgs s_law_urn) (defBody s_law_urn) (defScope s_law_urn) .none kV_law_urn dc_law_urn pm_law_urn an_law_urn cd_law_urn ct_law_urn), sl_law_urn⟩)
    (c_law_urn : PySem.W.codeIn K cd_law_urn "_law_urn" = true)
    (k_law_urn : PySem.W.keepIn K (.ref f_law_urn) = true)
    (a_law_take : PySem.W.nsIn K mainGlobals "_law_take" = some (some (.ref f_law_take)))
    (l_law_take : K.lookup f_law_take = some ⟨oc_law_take, od_law_take, .func (PySem.W.fnOf "_law_take" "_law_take" (defArgs s_law_take) (defBody s_law_take) (defScope s_law_take) .none kV_law_take dc_law_take pm_law_take an_law_take cd_law_take ct_law_take), sl_law_take⟩)
    (c_law_take : PySem.W.codeIn K cd_law_take "_law_take" = true)
    (k_law_take : PySem.W.keepIn K (.ref f_law_take) = true)
    (a_law_of : PySem.W.nsIn K mainGlobals "_law_of" = some (some (.ref f_law_of)))
    (l_law_of : K.lookup f_law_of = some ⟨oc_law_of, od_law_of, .func (PySem.W.fnOf "_law_of" "_law_of" (defArgs s_law_of) (defBody s_law_of) (defScope s_law_of) .none kV_law_of dc_law_of pm_law_of an_law_of cd_law_of ct_law_of), sl_law_of⟩)
    (c_law_of : PySem.W.codeIn K cd_law_of "_law_of" = true)
    (k_law_of : PySem.W.keepIn K (.ref f_law_of) = true)
    (a_law_first : PySem.W.nsIn K mainGlobals "_law_first" = some (some (.ref f_law_first)))
    (l_law_first : K.lookup f_law_first = some ⟨oc_law_first, od_law_first, .func (PySem.W.fnOf "_law_first" "_law_first" (defArgs s_law_first) (defBody s_law_first) (defScope s_law_first) .none kV_law_first dc_law_first pm_law_first an_law_first cd_law_first ct_law_first), sl_law_first⟩)
    (c_law_first : PySem.W.codeIn K cd_law_first "_law_first" = true)
    (k_law_first : PySem.W.keepIn K (.ref f_law_first) = true)
    (a_law_lists : PySem.W.nsIn K mainGlobals "_law_lists" = some (some (.ref f_law_lists)))
    (l_law_lists : K.lookup f_law_lists = some ⟨oc_law_lists, od_law_lists, .func (PySem.W.fnOf "_law_lists" "_law_lists" (defArgs s_law_lists) (defBody s_law_lists) (defScope s_law_lists) .none kV_law_lists dc_law_lists pm_law_lists an_law_lists cd_law_lists ct_law_lists), sl_law_lists⟩)
    (c_law_lists : PySem.W.codeIn K cd_law_lists "_law_lists" = true)
    (k_law_lists : PySem.W.keepIn K (.ref f_law_lists) = true)
    (a_law_depths : PySem.W.nsIn K mainGlobals "_law_depths" = some (some (.ref f_law_depths)))
    (l_law_depths : K.lookup f_law_depths = some ⟨oc_law_depths, od_law_depths, .func (PySem.W.fnOf "_law_depths" "_law_depths" (defArgs s_law_depths) (defBody s_law_depths) (defScope s_law_depths) .none kV_law_depths dc_law_depths pm_law_depths an_law_depths cd_law_depths ct_law_depths), sl_law_depths⟩)
    (c_law_depths : PySem.W.codeIn K cd_law_depths "_law_depths" = true)
    (k_law_depths : PySem.W.keepIn K (.ref f_law_depths) = true)
    (a_law_bound : PySem.W.nsIn K mainGlobals "_law_bound" = some (some (.ref f_law_bound)))
    (l_law_bound : K.lookup f_law_bound = some ⟨oc_law_bound, od_law_bound, .func (PySem.W.fnOf "_law_bound" "_law_bound" (defArgs s_law_bound) (defBody s_law_bound) (defScope s_law_bound) .none kV_law_bound dc_law_bound pm_law_bound an_law_bound cd_law_bound ct_law_bound), sl_law_bound⟩)
    (c_law_bound : PySem.W.codeIn K cd_law_bound "_law_bound" = true)
    (k_law_bound : PySem.W.keepIn K (.ref f_law_bound) = true)
    (a_law_sums : PySem.W.nsIn K mainGlobals "_law_sums" = some (some (.ref f_law_sums)))
    (l_law_sums : K.lookup f_law_sums = some ⟨oc_law_sums, od_law_sums, .func (PySem.W.fnOf "_law_sums" "_law_sums" (defArgs s_law_sums) (defBody s_law_sums) (defScope s_law_sums) .none kV_law_sums dc_law_sums pm_law_sums an_law_sums cd_law_sums ct_law_sums), sl_law_sums⟩)
    (c_law_sums : PySem.W.codeIn K cd_law_sums "_law_sums" = true)
    (k_law_sums : PySem.W.keepIn K (.ref f_law_sums) = true)
    (a_law_topped : PySem.W.nsIn K mainGlobals "_law_topped" = some (some (.ref f_law_topped)))
    (l_law_topped : K.lookup f_law_topped = some ⟨oc_law_topped, od_law_topped, .func (PySem.W.fnOf "_law_topped" "_law_topped" (defArgs s_law_topped) (defBody s_law_topped) (defScope s_law_topped) .none kV_law_topped dc_law_topped pm_law_topped an_law_topped cd_law_topped ct_law_topped), sl_law_topped⟩)
    (c_law_topped : PySem.W.codeIn K cd_law_topped "_law_topped" = true)
    (k_law_topped : PySem.W.keepIn K (.ref f_law_topped) = true)
    (a_law_right : PySem.W.nsIn K mainGlobals "_law_right" = some (some (.ref f_law_right)))
    (l_law_right : K.lookup f_law_right = some ⟨oc_law_right, od_law_right, .func (PySem.W.fnOf "_law_right" "_law_right" (defArgs s_law_right) (defBody s_law_right) (defScope s_law_right) .none kV_law_right dc_law_right pm_law_right an_law_right cd_law_right ct_law_right), sl_law_right⟩)
    (c_law_right : PySem.W.codeIn K cd_law_right "_law_right" = true)
    (k_law_right : PySem.W.keepIn K (.ref f_law_right) = true)
    (a_law : PySem.W.nsIn K mainGlobals "law" = some (some (.ref f_law)))
    (l_law : K.lookup f_law = some ⟨oc_law, od_law, .func (PySem.W.fnOf "law" "law" (defArgs s_law) (defBody s_law) (defScope s_law) .none kV_law dc_law pm_law an_law cd_law ct_law), sl_law⟩)
    (c_law : PySem.W.codeIn K cd_law "law" = true)
    (k_law : PySem.W.keepIn K (.ref f_law) = true)
    (n_MOST_KEY : PySem.W.nsIn K mainGlobals "MOST_KEY" = some (some (.int (999) t_MOST_KEY)))
    (n_MOST_POINTS : PySem.W.nsIn K mainGlobals "MOST_POINTS" = some (some (.int (999) t_MOST_POINTS)))
    (n_MOST_LISTS : PySem.W.nsIn K mainGlobals "MOST_LISTS" = some (some (.int (4) t_MOST_LISTS)))
    (n_MOST_PAIRS : PySem.W.nsIn K mainGlobals "MOST_PAIRS" = some (some (.int (40) t_MOST_PAIRS)))
    (z_abs : PySem.W.nsIn K mainGlobals "abs" = some none)
    (z_all : PySem.W.nsIn K mainGlobals "all" = some none)
    (z_bool : PySem.W.nsIn K mainGlobals "bool" = some none)
    (z_divmod : PySem.W.nsIn K mainGlobals "divmod" = some none)
    (z_enumerate : PySem.W.nsIn K mainGlobals "enumerate" = some none)
    (z_int : PySem.W.nsIn K mainGlobals "int" = some none)
    (z_isinstance : PySem.W.nsIn K mainGlobals "isinstance" = some none)
    (z_len : PySem.W.nsIn K mainGlobals "len" = some none)
    (z_list : PySem.W.nsIn K mainGlobals "list" = some none)
    (z_max : PySem.W.nsIn K mainGlobals "max" = some none)
    (z_min : PySem.W.nsIn K mainGlobals "min" = some none)
    (z_range : PySem.W.nsIn K mainGlobals "range" = some none)
    (z_repr : PySem.W.nsIn K mainGlobals "repr" = some none)
    (z_set : PySem.W.nsIn K mainGlobals "set" = some none)
    (z_sorted : PySem.W.nsIn K mainGlobals "sorted" = some none)
    (z_sum : PySem.W.nsIn K mainGlobals "sum" = some none)
    (z_tuple : PySem.W.nsIn K mainGlobals "tuple" = some none)
    (z_zip : PySem.W.nsIn K mainGlobals "zip" = some none) : ∃ T : Txt P K mg, T.f_law = f_law := by
  have F_is_whole := fun_mk (st := s_is_whole) l_is_whole c_is_whole k_is_whole
  have b_is_whole := F_is_whole.binds (ps := ["value"]) fun _ _ _ _ _ _ us hl => match us, hl with | [_], _ => rfl
  have F_is_number := fun_mk (st := s_is_number) l_is_number c_is_number k_is_number
  have b_is_number := F_is_number.binds (ps := ["value", "low", "high"]) fun _ _ _ _ _ _ us hl => match us, hl with | [_, _, _], _ => rfl
  have F_is_key := fun_mk (st := s_is_key) l_is_key c_is_key k_is_key
  have b_is_key := F_is_key.binds (ps := ["value"]) fun _ _ _ _ _ _ us hl => match us, hl with | [_], _ => rfl
  have F_is_tuple_of := fun_mk (st := s_is_tuple_of) l_is_tuple_of c_is_tuple_of k_is_tuple_of
  have b_is_tuple_of := F_is_tuple_of.binds (ps := ["value", "many"]) fun _ _ _ _ _ _ us hl => match us, hl with | [_, _], _ => rfl
  have F_is_ascending := fun_mk (st := s_is_ascending) l_is_ascending c_is_ascending k_is_ascending
  have b_is_ascending := F_is_ascending.binds (ps := ["values"]) fun _ _ _ _ _ _ us hl => match us, hl with | [_], _ => rfl
  have F_check_number := fun_mk (st := s_check_number) l_check_number c_check_number k_check_number
  have b_check_number := F_check_number.binds (ps := ["value", "low", "high"]) fun _ _ _ _ _ _ us hl => match us, hl with | [_, _, _], _ => rfl
  have F_bound_of := fun_mk (st := s_bound_of) l_bound_of c_bound_of k_bound_of
  have b_bound_of := F_bound_of.binds (ps := ["row", "depth", "key"]) fun _ _ _ _ _ _ us hl => match us, hl with | [_, _, _], _ => rfl
  have F_read_by := fun_mk (st := s_read_by) l_read_by c_read_by k_read_by
  have b_read_by := F_read_by.binds (ps := ["lists", "depths"]) fun _ _ _ _ _ _ us hl => match us, hl with | [_, _], _ => rfl
  have F_sums_by := fun_mk (st := s_sums_by) l_sums_by c_sums_by k_sums_by
  have b_sums_by := F_sums_by.binds (ps := ["lists", "depths", "read", "key"]) fun _ _ _ _ _ _ us hl => match us, hl with | [_, _, _, _], _ => rfl
  have F_is_pair := fun_mk (st := s_is_pair) l_is_pair c_is_pair k_is_pair
  have b_is_pair := F_is_pair.binds (ps := ["value"]) fun _ _ _ _ _ _ us hl => match us, hl with | [_], _ => rfl
  have F_is_list := fun_mk (st := s_is_list) l_is_list c_is_list k_is_list
  have b_is_list := F_is_list.binds (ps := ["value"]) fun _ _ _ _ _ _ us hl => match us, hl with | [_], _ => rfl
  have F_check_lists := fun_mk (st := s_check_lists) l_check_lists c_check_lists k_check_lists
  have b_check_lists := F_check_lists.binds (ps := ["value"]) fun _ _ _ _ _ _ us hl => match us, hl with | [_], _ => rfl
  have F_check_depths := fun_mk (st := s_check_depths) l_check_depths c_check_depths k_check_depths
  have b_check_depths := F_check_depths.binds (ps := ["lists", "value"]) fun _ _ _ _ _ _ us hl => match us, hl with | [_, _], _ => rfl
  have F_sums_of := fun_mk (st := s_sums_of) l_sums_of c_sums_of k_sums_of
  have b_sums_of := F_sums_of.binds (ps := ["lists", "depths", "key"]) fun _ _ _ _ _ _ us hl => match us, hl with | [_, _, _], _ => rfl
  have kb_sums_of_key_depths_lists : KBinds K (PySem.W.fnOf "sums_of" "sums_of" (defArgs s_sums_of) (defBody s_sums_of) (defScope s_sums_of) .none kV_sums_of dc_sums_of pm_sums_of an_sums_of cd_sums_of ct_sums_of) ["lists", "depths", "key"] ["key", "depths", "lists"] (fun us ws => kbP 0 3 [2, 1, 0] us ws) (fun us ws => kbP 0 3 [2, 1, 0] us ws) := kb_sums_of_key_depths_lists
  have F_law_urn := fun_mk (st := s_law_urn) l_law_urn c_law_urn k_law_urn
  have b_law_urn := F_law_urn.binds (ps := ["script", "lap"]) fun _ _ _ _ _ _ us hl => match us, hl with | [_, _], _ => rfl
  have F_law_take := fun_mk (st := s_law_take) l_law_take c_law_take k_law_take
  have b_law_take := F_law_take.binds (ps := ["urn", "many"]) fun _ _ _ _ _ _ us hl => match us, hl with | [_, _], _ => rfl
  have F_law_of := fun_mk (st := s_law_of) l_law_of c_law_of k_law_of
  have b_law_of := F_law_of.binds (ps := ["urn", "some"]) fun _ _ _ _ _ _ us hl => match us, hl with | [_, _], _ => rfl
  have F_law_first := fun_mk (st := s_law_first) l_law_first c_law_first k_law_first
  have b_law_first := F_law_first.binds (ps := ["pair"]) fun _ _ _ _ _ _ us hl => match us, hl with | [_], _ => rfl
  have F_law_lists := fun_mk (st := s_law_lists) l_law_lists c_law_lists k_law_lists
  have b_law_lists := F_law_lists.binds (ps := ["urn", "many", "most"]) fun _ _ _ _ _ _ us hl => match us, hl with | [_, _, _], _ => rfl
  have F_law_depths := fun_mk (st := s_law_depths) l_law_depths c_law_depths k_law_depths
  have b_law_depths := F_law_depths.binds (ps := ["urn", "lists"]) fun _ _ _ _ _ _ us hl => match us, hl with | [_, _], _ => rfl
  have F_law_bound := fun_mk (st := s_law_bound) l_law_bound c_law_bound k_law_bound
  have b_law_bound := F_law_bound.binds (ps := ["row", "depth", "key"]) fun _ _ _ _ _ _ us hl => match us, hl with | [_, _, _], _ => rfl
  have F_law_sums := fun_mk (st := s_law_sums) l_law_sums c_law_sums k_law_sums
  have b_law_sums := F_law_sums.binds (ps := ["lists", "depths", "key"]) fun _ _ _ _ _ _ us hl => match us, hl with | [_, _, _], _ => rfl
  have F_law_topped := fun_mk (st := s_law_topped) l_law_topped c_law_topped k_law_topped
  have b_law_topped := F_law_topped.binds (ps := ["row", "depth", "key"]) fun _ _ _ _ _ _ us hl => match us, hl with | [_, _, _], _ => rfl
  have F_law_right := fun_mk (st := s_law_right) l_law_right c_law_right k_law_right
  have b_law_right := F_law_right.binds (ps := ["urn"]) fun _ _ _ _ _ _ us hl => match us, hl with | [_], _ => rfl
  have F_law := fun_mk (st := s_law) l_law c_law k_law
  have b_law := F_law.binds (ps := ["script"]) fun _ _ _ _ _ _ us hl => match us, hl with | [_], _ => rfl
  exact ⟨{ f_is_whole := f_is_whole, d_is_whole := _, F_is_whole := F_is_whole, b_is_whole := b_is_whole, g_is_whole := PySem.W.mg_of X G a_is_whole, f_is_number := f_is_number, d_is_number := _, F_is_number := F_is_number, b_is_number := b_is_number, g_is_number := PySem.W.mg_of X G a_is_number, f_is_key := f_is_key, d_is_key := _, F_is_key := F_is_key, b_is_key := b_is_key, g_is_key := PySem.W.mg_of X G a_is_key, f_is_tuple_of := f_is_tuple_of, d_is_tuple_of := _, F_is_tuple_of := F_is_tuple_of, b_is_tuple_of := b_is_tuple_of, g_is_tuple_of := PySem.W.mg_of X G a_is_tuple_of, f_is_ascending := f_is_ascending, d_is_ascending := _, F_is_ascending := F_is_ascending, b_is_ascending := b_is_ascending, g_is_ascending := PySem.W.mg_of X G a_is_ascending, f_check_number := f_check_number, d_check_number := _, F_check_number := F_check_number, b_check_number := b_check_number, g_check_number := PySem.W.mg_of X G a_check_number, f_bound_of := f_bound_of, d_bound_of := _, F_bound_of := F_bound_of, b_bound_of := b_bound_of, g_bound_of := PySem.W.mg_of X G a_bound_of, f_read_by := f_read_by, d_read_by := _, F_read_by := F_read_by, b_read_by := b_read_by, g_read_by := PySem.W.mg_of X G a_read_by, f_sums_by := f_sums_by, d_sums_by := _, F_sums_by := F_sums_by, b_sums_by := b_sums_by, g_sums_by := PySem.W.mg_of X G a_sums_by, f_is_pair := f_is_pair, d_is_pair := _, F_is_pair := F_is_pair, b_is_pair := b_is_pair, g_is_pair := PySem.W.mg_of X G a_is_pair, f_is_list := f_is_list, d_is_list := _, F_is_list := F_is_list, b_is_list := b_is_list, g_is_list := PySem.W.mg_of X G a_is_list, f_check_lists := f_check_lists, d_check_lists := _, F_check_lists := F_check_lists, b_check_lists := b_check_lists, g_check_lists := PySem.W.mg_of X G a_check_lists, f_check_depths := f_check_depths, d_check_depths := _, F_check_depths := F_check_depths, b_check_depths := b_check_depths, g_check_depths := PySem.W.mg_of X G a_check_depths, f_sums_of := f_sums_of, d_sums_of := _, F_sums_of := F_sums_of, b_sums_of := b_sums_of, kb_sums_of_key_depths_lists := kb_sums_of_key_depths_lists, g_sums_of := PySem.W.mg_of X G a_sums_of, f_law_urn := f_law_urn, d_law_urn := _, F_law_urn := F_law_urn, b_law_urn := b_law_urn, g__law_urn := PySem.W.mg_of X G a_law_urn, f_law_take := f_law_take, d_law_take := _, F_law_take := F_law_take, b_law_take := b_law_take, g__law_take := PySem.W.mg_of X G a_law_take, f_law_of := f_law_of, d_law_of := _, F_law_of := F_law_of, b_law_of := b_law_of, g__law_of := PySem.W.mg_of X G a_law_of, f_law_first := f_law_first, d_law_first := _, F_law_first := F_law_first, b_law_first := b_law_first, g__law_first := PySem.W.mg_of X G a_law_first, f_law_lists := f_law_lists, d_law_lists := _, F_law_lists := F_law_lists, b_law_lists := b_law_lists, g__law_lists := PySem.W.mg_of X G a_law_lists, f_law_depths := f_law_depths, d_law_depths := _, F_law_depths := F_law_depths, b_law_depths := b_law_depths, g__law_depths := PySem.W.mg_of X G a_law_depths, f_law_bound := f_law_bound, d_law_bound := _, F_law_bound := F_law_bound, b_law_bound := b_law_bound, g__law_bound := PySem.W.mg_of X G a_law_bound, f_law_sums := f_law_sums, d_law_sums := _, F_law_sums := F_law_sums, b_law_sums := b_law_sums, g__law_sums := PySem.W.mg_of X G a_law_sums, f_law_topped := f_law_topped, d_law_topped := _, F_law_topped := F_law_topped, b_law_topped := b_law_topped, g__law_topped := PySem.W.mg_of X G a_law_topped, f_law_right := f_law_right, d_law_right := _, F_law_right := F_law_right, b_law_right := b_law_right, g__law_right := PySem.W.mg_of X G a_law_right, f_law := f_law, d_law := _, F_law := F_law, b_law := b_law, g_law := PySem.W.mg_of X G a_law, t_MOST_KEY := _, g_MOST_KEY := PySem.W.mg_of X G n_MOST_KEY, t_MOST_POINTS := _, g_MOST_POINTS := PySem.W.mg_of X G n_MOST_POINTS, t_MOST_LISTS := _, g_MOST_LISTS := PySem.W.mg_of X G n_MOST_LISTS, t_MOST_PAIRS := _, g_MOST_PAIRS := PySem.W.mg_of X G n_MOST_PAIRS, z_abs := PySem.W.mg_none_of X G z_abs, z_all := PySem.W.mg_none_of X G z_all, z_bool := PySem.W.mg_none_of X G z_bool, z_divmod := PySem.W.mg_none_of X G z_divmod, z_enumerate := PySem.W.mg_none_of X G z_enumerate, z_int := PySem.W.mg_none_of X G z_int, z_isinstance := PySem.W.mg_none_of X G z_isinstance, z_len := PySem.W.mg_none_of X G z_len, z_list := PySem.W.mg_none_of X G z_list, z_max := PySem.W.mg_none_of X G z_max, z_min := PySem.W.mg_none_of X G z_min, z_range := PySem.W.mg_none_of X G z_range, z_repr := PySem.W.mg_none_of X G z_repr, z_set := PySem.W.mg_none_of X G z_set, z_sorted := PySem.W.mg_none_of X G z_sorted, z_sum := PySem.W.mg_none_of X G z_sum, z_tuple := PySem.W.mg_none_of X G z_tuple, z_zip := PySem.W.mg_none_of X G z_zip }, rfl⟩
theorem walk {q : Program} {loose : List Str} {XP : (Str → Option Value) → Heap → Prop} {YP : World → Heap → Prop} {d : DefRec} {K : Params → PySem.W.Frag} (hdn : d.name = "law") (hdf : d.params.defaults = [])
    (hY : ∀ (w : World) (h : Heap), YP w h → (K w.params).In h)
    (F : ∀ (w : World) (mg : Str → Option Value) (h : Heap), (K w.params).In h → h.Ns mainGlobals mg → ∃ T : Txt PySem.Challenge.pw_plainscan_k71_whole_least_and_greatest_s (K w.params) mg, True) :
    PySem.W.WalkO q loose XP YP PySem.Challenge.rw_plainscan_k71_whole_least_and_greatest_s.row.toRowW d [] (fun f vs => PySem.call f vs) :=
  L2.walk_ofG (n := 63) (k := 11) (x := "script") (CX := fun _ => CX0) (sp := fun w => spLaw (K w.params)) rfl (by decide) hdf ⟨rfl, by decide, by decide⟩ hY (fun w mg fa h KX G hfa => by
    obtain ⟨T, _⟩ := F w mg h KX G
    have e : fa = T.f_law := by
      have z := T.g_law
      rw [hdn] at hfa
      rw [hfa] at z
      cases z
      rfl
    subst e
    refine ⟨T.d_law, fun s v => ?_, fun base _ _ => ok_law T⟩
    have z := T.F_law.ex
    obtain ⟨_, _, _, _, _, _, _, _, _, e, _⟩ := z
    rw [e]
    exact .of_eq rfl) (fun _ _ a ns hl _ hS => ⟨a, ns, rfl, hS, hl, fun _ => rfl⟩) fun _ _ _ _ _ z => z

end K71
open PySem PySem.W PyProof.Rows in
set_option maxRecDepth 100000 in
set_option maxHeartbeats 0 in
theorem PySem.Challenge.cw_plainscan_k71_whole_least_and_greatest_s_holds : PySem.Challenge.rw_plainscan_k71_whole_least_and_greatest_s.Holds := by
  w_on; o_law; k_head; (case hw => w_witness2)
  k_fill
  refine K71.walk rfl rfl (fun w h Y => PySem.W.kIn_of Y) ?F
  case F =>
    intro w mg h KX G
    refine' Exists.elim (K71.txt_mk KX G ?a_is_whole ?l_is_whole ?c_is_whole ?k_is_whole ?a_is_number ?l_is_number ?c_is_number ?k_is_number ?a_is_key ?l_is_key ?c_is_key ?k_is_key ?a_is_tuple_of ?l_is_tuple_of ?c_is_tuple_of ?k_is_tuple_of ?a_is_ascending ?l_is_ascending ?c_is_ascending ?k_is_ascending ?a_check_number ?l_check_number ?c_check_number ?k_check_number ?a_bound_of ?l_bound_of ?c_bound_of ?k_bound_of ?a_read_by ?l_read_by ?c_read_by ?k_read_by ?a_sums_by ?l_sums_by ?c_sums_by ?k_sums_by ?a_is_pair ?l_is_pair ?c_is_pair ?k_is_pair ?a_is_list ?l_is_list ?c_is_list ?k_is_list ?a_check_lists ?l_check_lists ?c_check_lists ?k_check_lists ?a_check_depths ?l_check_depths ?c_check_depths ?k_check_depths ?a_sums_of ?l_sums_of ?c_sums_of ?k_sums_of ?a_law_urn ?l_law_urn ?c_law_urn ?k_law_urn ?a_law_take ?l_law_take ?c_law_take ?k_law_take ?a_law_of ?l_law_of ?c_law_of ?k_law_of ?a_law_first ?l_law_first ?c_law_first ?k_law_first ?a_law_lists ?l_law_lists ?c_law_lists ?k_law_lists ?a_law_depths ?l_law_depths ?c_law_depths ?k_law_depths ?a_law_bound ?l_law_bound ?c_law_bound ?k_law_bound ?a_law_sums ?l_law_sums ?c_law_sums ?k_law_sums ?a_law_topped ?l_law_topped ?c_law_topped ?k_law_topped ?a_law_right ?l_law_right ?c_law_right ?k_law_right ?a_law ?l_law ?c_law ?k_law ?n_MOST_KEY ?n_MOST_POINTS ?n_MOST_LISTS ?n_MOST_PAIRS ?z_abs ?z_all ?z_bool ?z_divmod ?z_enumerate ?z_int ?z_isinstance ?z_len ?z_list ?z_max ?z_min ?z_range ?z_repr ?z_set ?z_sorted ?z_sum ?z_tuple ?z_zip) (fun T _ => ⟨T, trivial⟩)
    (case a_is_whole => k_is)
    (case l_is_whole => k_is)
    (case c_is_whole => k_is)
    (case k_is_whole => k_is)
    (case a_is_number => k_is)
    (case l_is_number => k_is)
    (case c_is_number => k_is)
    (case k_is_number => k_is)
    (case a_is_key => k_is)
    (case l_is_key => k_is)
    (case c_is_key => k_is)
    (case k_is_key => k_is)
    (case a_is_tuple_of => k_is)
    (case l_is_tuple_of => k_is)
    (case c_is_tuple_of => k_is)
    (case k_is_tuple_of => k_is)
    (case a_is_ascending => k_is)
    (case l_is_ascending => k_is)
    (case c_is_ascending => k_is)
    (case k_is_ascending => k_is)
    (case a_check_number => k_is)
    (case l_check_number => k_is)
    (case c_check_number => k_is)
    (case k_check_number => k_is)
    (case a_bound_of => k_is)
    (case l_bound_of => k_is)
    (case c_bound_of => k_is)
    (case k_bound_of => k_is)
    (case a_read_by => k_is)
    (case l_read_by => k_is)
    (case c_read_by => k_is)
    (case k_read_by => k_is)
    (case a_sums_by => k_is)
    (case l_sums_by => k_is)
    (case c_sums_by => k_is)
    (case k_sums_by => k_is)
    (case a_is_pair => k_is)
    (case l_is_pair => k_is)
    (case c_is_pair => k_is)
    (case k_is_pair => k_is)
    (case a_is_list => k_is)
    (case l_is_list => k_is)
    (case c_is_list => k_is)
    (case k_is_list => k_is)
    (case a_check_lists => k_is)
    (case l_check_lists => k_is)
    (case c_check_lists => k_is)
    (case k_check_lists => k_is)
    (case a_check_depths => k_is)
    (case l_check_depths => k_is)
    (case c_check_depths => k_is)
    (case k_check_depths => k_is)
    (case a_sums_of => k_is)
    (case l_sums_of => k_is)
    (case c_sums_of => k_is)
    (case k_sums_of => k_is)
    (case a_law_urn => k_is)
    (case l_law_urn => k_is)
    (case c_law_urn => k_is)
    (case k_law_urn => k_is)
    (case a_law_take => k_is)
    (case l_law_take => k_is)
    (case c_law_take => k_is)
    (case k_law_take => k_is)
    (case a_law_of => k_is)
    (case l_law_of => k_is)
    (case c_law_of => k_is)
    (case k_law_of => k_is)
    (case a_law_first => k_is)
    (case l_law_first => k_is)
    (case c_law_first => k_is)
    (case k_law_first => k_is)
    (case a_law_lists => k_is)
    (case l_law_lists => k_is)
    (case c_law_lists => k_is)
    (case k_law_lists => k_is)
    (case a_law_depths => k_is)
    (case l_law_depths => k_is)
    (case c_law_depths => k_is)
    (case k_law_depths => k_is)
    (case a_law_bound => k_is)
    (case l_law_bound => k_is)
    (case c_law_bound => k_is)
    (case k_law_bound => k_is)
    (case a_law_sums => k_is)
    (case l_law_sums => k_is)
    (case c_law_sums => k_is)
    (case k_law_sums => k_is)
    (case a_law_topped => k_is)
    (case l_law_topped => k_is)
    (case c_law_topped => k_is)
    (case k_law_topped => k_is)
    (case a_law_right => k_is)
    (case l_law_right => k_is)
    (case c_law_right => k_is)
    (case k_law_right => k_is)
    (case a_law => k_is)
    (case l_law => k_is)
    (case c_law => k_is)
    (case k_law => k_is)
    (case n_MOST_KEY => k_is)
    (case n_MOST_POINTS => k_is)
    (case n_MOST_LISTS => k_is)
    (case n_MOST_PAIRS => k_is)
    (case z_abs => k_is)
    (case z_all => k_is)
    (case z_bool => k_is)
    (case z_divmod => k_is)
    (case z_enumerate => k_is)
    (case z_int => k_is)
    (case z_isinstance => k_is)
    (case z_len => k_is)
    (case z_list => k_is)
    (case z_max => k_is)
    (case z_min => k_is)
    (case z_range => k_is)
    (case z_repr => k_is)
    (case z_set => k_is)
    (case z_sorted => k_is)
    (case z_sum => k_is)
    (case z_tuple => k_is)
    (case z_zip => k_is)
