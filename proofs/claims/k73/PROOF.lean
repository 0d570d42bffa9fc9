import PyProof.Rows.All
import Wide.All
import OpenK.AllK
import Wide.FinOn
import HandS.ForMost
import HandS.ForExc
import KE.KExcSuper
import KE.RegKSuper
import HandS.More
import HandS.Deep
import HandS.Style
import HandS.TupAny
import KE.SortData
import KE.DataFind
import KE.DataEq
import PyProof.Rows.SortShellAny
import HandS.IsInst
import HandS.Property
import HandS.Star
import HandS.Flow
import HandS.Conv
import HandS.Evl
import PyProof.ReprRoads
import HandS.Ends
import PyProof.Rows.Range3
import PyProof.Conv_bool
import PyProof.SeqIndex
import PyProof.CallFns
import PyProof.NeKinds
import HandS.SortKw
import KE.SortKeyHeap
import KE.KSortKey
import HandS.Iter
import HandS.Walk
import HandS.Zip
import KE.GoesMore
import KE.GoesEnum
import PyProof.FitsInt
import PyProof.ReprBulk
import PyProof.EqLayable
import HandS.Set
import HandS.SetFor
import HandS.Strs
import HandS.Comp
import HandS.SetBool
import PyProof.SumWalkG
import PyProof.WalksMore
import HandS.TupSets
import HandS.DictComp
import PySem.Challenge.RW_plainscan_k73_whole_fewest_looks_by_own
set_option Elab.async false
set_option linter.all false
set_option maxRecDepth 100000
set_option maxHeartbeats 8000000
/-! Own classes of errors over own classes over ValueError: `def __init__(self, F): super().__init__(F); self.F = F`. -/
namespace SupX
open PySem PySem.W PySem.Calls PyProof.Rows PySem.HandSPX
def iA (F : Str) (p1 p2 : Pos) : Arguments := { posonlyargs := [], args := [{ arg := "self", annotation := none, pos := p1 }, { arg := F, annotation := none, pos := p2 }], vararg := none, kwonlyargs := [], kw_defaults := [], kwarg := none, defaults := [] }
def iB (F : Str) (a1 a2 a3 a4 a5 a6 b1 b2 b3 b4 : Pos) : List Stmt :=
  [.Expr (.Call (.Attribute (.Call (.Name "super" a1) [] [] a2) "__init__" a3) [.Name F a4] [] a5) a6, .Assign [.Attribute (.Name "self" b1) F b2] (.Name F b3) b4]
def iS (F : Str) : Scope := { kind := .function, names := [(PySem.Str.ofString "self", .local), (F, .local), (PySem.Str.ofString "__class__", .free), (PySem.Str.ofString "super", .globalImplicit)], isGenerator := false, isCoroutine := false, more := [] }
theorem ev_one {o : Expr} {n F : Str} {a3 a4 a5 : Pos} {env : Env} (hl : (a3.endLine == a5.line) = true) : eval (.Call (.Attribute o n a3) [.Name F a4] [] a5) env = (do
      let ov ← attributeBase o n env (eval o env)
      standAt a3.atName
      let (f, first) ← holding [ov] (getMethod ov n (do return (← importBound o env).getD true))
      callWith a5 f first (backTo a5 (starEach [.Name F a4] env)) []) := by
  have e : eval (.Call (.Attribute o n a3) [.Name F a4] [] a5) env = (do
      let ov ← attributeBase o n env (eval o env)
      standAt a3.atName
      methodCall o n a3 a5 env ov 1 (backTo a5 (starEach [.Name F a4] env)) []) := rfl
  rw [e]
  unfold methodCall methodCallPos calleeOf
  have f : methodCallForm 1 (backTo a5 (starEach [.Name F a4] env)) [] = true := rfl
  rw [f, hl]
  rfl
/-- what the written part says of the class X at C and its __init__ at fI -/
structure SupTxt (P : Program) (K : Frag) (mg : Str → Option Value) (X qual F : Str) (C fI : Addr) : Prop where
  gC : mg X = some (.ref C)
  cls : ∃ nm q N bs bm sn sub ab col dd k0 k1 k2 k3 k5, K.lookup C = some (excClassObj nm q C N bs bm true sn sub ab col dd k0 k1 k2 k3 k5 "ValueError.__new__") ∧ refsVE bm = true
  sa : findIn K (.ref C) "__setattr__" = some (some (.builtin "object.__setattr__"))
  ga : findIn K (.ref C) "__getattribute__" = some (some (.builtin "BaseException.__getattribute__"))
  gg : findIn K (.ref C) "__getattr__" = some none
  noN : findIn K (.ref C) F = some none
  iC : findIn K (.ref C) "__init__" = some (some (.ref fI))
  tC : typeIn K (.ref fI) = some (.type "function")
  kC : keepIn K (.ref C) = true
  exC : subIn K (.ref C) (.type "BaseException") = some true
  veC : subIn K (.ref C) (.type "ValueError") = some true
  tyC : typeIn K (.ref C) = some (.type "type")
  hdC : hasDictIn K C = true
  slf : mroIn K C (.ref C) = some true
  sup : ks_superIn K C C "__init__" = some (some (.builtin "ValueError.__init__"))
  thp : nsIn K cStatics "thirdparty.any" = some none
  gS : mg "super" = none
  top : (P.main.scope.names.lookup ("super" : Str)).isSome = false
  nF : (F == ("self" : Str)) = false
  lF : (iS F).names.lookup F = some .local
  lC : (iS F).names.lookup ("__class__" : Str) = some .free
  lS : (iS F).names.lookup ("super" : Str) = some .globalImplicit
  dF : (F == ("__debug__" : Str)) = false
  bnd : ∀ (body : List Stmt) (sc : Scope) (cl : List (Str × Addr)) (doc pm : Value) (an : Option Addr) (cd ct : Value) (p1 p2 : Pos) (x v : Value), bindArgs (fnX "__init__" qual (iA F p1 p2) body sc cl .none .none doc pm an cd ct) ⟨[x, v], []⟩ = pure ([("self", x), (F, v)] : List (Str × Value))
  fn : ∃ (oc : Value) (od : Option Addr) (doc pm : Value) (an : Option Addr) (cda cc : Addr) (ct : Value) (osl : Array (Option Value)) (p1 p2 a1 a2 a3 a4 a5 a6 b1 b2 b3 b4 : Pos)
      (ccl cl : Value) (cdd cld : Option Addr) (vs : Array Value) (ccs csl : Array (Option Value)) (file : Str) (tf : Tok),
    K.lookup fI = some ⟨oc, od, .func (fnX "__init__" qual (iA F p1 p2) (iB F a1 a2 a3 a4 a5 a6 b1 b2 b3 b4) (iS F) [("__class__", cc)] .none .none doc pm an (.ref cda) ct), osl⟩ ∧ codeIn K (.ref cda) qual = true ∧
      K.lookup cda = some ⟨ccl, cdd, .fields vs, ccs⟩ ∧ vs[2]? = some (.str file tf) ∧ ((P.main.file : Str) == file) = true ∧ (a3.endLine == a5.line) = true ∧ K.lookup cc = some ⟨cl, cld, .cell (some (.ref C)), csl⟩
theorem one_size (v : Value) : [v].length ≤ sizeLine := by
  rw [sizeLine_eq]
  exact (by decide : 1 ≤ 16777216)
/-- what __init__ leaves of a fresh exception at x -/
structure InitEnd (F : Str) (h h' : Heap) (x C dx t1 : Addr) (v : Value) : Prop where
  keep : ∀ b o, b ≠ x → h.get? b = some o → h'.get? b = some o
  obj : h'.get? x = some { cls := .ref C, dict := some dx, data := .fields #[.ref t1, .none, .none, .none, .bool false, .none] }
  dbig : h.objs.size ≤ dx
  dne : dx ≠ x
  ns : h'.Ns1 dx (fun y => if y = F then some v else none)
/-- a made one -/
structure OwnMade (F : Str) (h h' : Heap) (e C d : Addr) (v : Value) : Prop where
  keep : ∀ b o, h.get? b = some o → h'.get? b = some o
  new : h.objs.size ≤ e
  obj : ∃ oe vs, h'.get? e = some oe ∧ oe.cls = .ref C ∧ oe.dict = some d ∧ oe.data = .fields vs ∧ vs[1]? = some .none
  dbig : h.objs.size ≤ d
  dne : d ≠ e
  ns : h'.Ns1 d (fun y => if y = F then some v else none)
/-- the module's names in a heap -/
structure NsOk (h : Heap) (mg : Str → Option Value) : Prop where
  g : h.Ns mainGlobals mg
  b : ∃ mb, h.Ns builtinsNs mb ∧ ∀ x : Str, x ≠ "__name__" → mb x = bootBuiltins x
  lim : h.NoLimit
theorem NsOk.keeps {h h' : Heap} {mg : Str → Option Value} (n : NsOk h mg) (k : ∀ b o, h.get? b = some o → h'.get? b = some o) : NsOk h' mg :=
  ⟨n.g.keeps k, let ⟨mb, hb, e⟩ := n.b; ⟨mb, hb.keeps k, e⟩, n.lim.keeps k⟩
section
variable {prog : Program} {w : World} {A : Around} {E : Value → Shared → Prop} {h : Heap} {g : Array GenState} {d : Drawn} {t : Nat} {os : OsState}
variable {nm q : Str} {C N : Addr} {bs bm : List Value} {hdct : Bool} {sn : List Str} {sub : List Value} {ab : Bool} {col : Option Bool} {dd : Option Addr} {k0 k1 k2 k3 k5 : Option Value}
/-- ValueError.__init__ bound to a fresh exception, called -/
theorem wrap_call {u e t0 : Addr} {rest : List Value} {Q : Value → Shared → Prop} (hC : h.get? C = some (excClassObj nm q C N bs bm hdct sn sub ab col dd k0 k1 k2 k3 k5 "ValueError.__new__"))
    (he : h.get? e = some (excO C t0)) (hu : h.get? u = some (kxs_mw "ValueError.__init__" e)) (hz : rest.length ≤ sizeLine)
    (hq : ∀ h' t1, (∀ b o, b ≠ e → h.get? b = some o → h'.get? b = some o) → h'.get? e = some (excO C t1) → Q .none ⟨h', g, d, t, os⟩) :
    wpAny (model prog w) A (call (.ref u) rest) Q E ⟨h, g, d, t, os⟩ := by
  have FB := F.excBase_ValueError
  refine wpAny_call (codeAny_of_tree ?_)
  show wpAny _ A.in1 (callAny (.ref u) ⟨rest, []⟩) _ _ _
  simp only [callAny]
  refine wpAny_bind (wpAny_load hu ?_)
  have y : (Value.type "method-wrapper" == Value.type "method" || Value.type "method-wrapper" == Value.type "builtin_function_or_method" || Value.type "method-wrapper" == Value.type "method-wrapper") = true := by decide
  simp only [kxs_mw, y, if_true]
  refine KFB.if_so (by decide) ?_
  refine wpAny_bind (check_bound_init FB.toExcCallFacts hC he rfl (wpAny_bind (wpAny_pure (wpAny_pure ⟨plainId_quiet FB.init.plain _, codeAny_builtin FB.initEntry ?_⟩))))
  exact exc_init_tree (cls := .ref C) (t0 := t0) (dv := none) (c2 := .none) (c3 := .none) (b4 := .bool false) he hz fun h' k e' _ => hq h' _ k e'
end
section
variable {prog : Program} {w : World} {A : Around} {E : Value → Shared → Prop} {R : Result → Shared → Prop} {s : Shared} {K : Frag} {mg : Str → Option Value} {X qual F : Str} {C fI : Addr}
theorem sup_init (T : SupTxt prog K mg X qual F C fI) {x t0 : Addr} {v : Value} (Y : K.In s.heap) (M : NsOk s.heap mg) (hx : s.heap.get? x = some (excO C t0)) (hnx : K.lookup x = none) (hroom : A.depth < recursionLimit)
    (hq : ∀ h' tk dx t1, InitEnd F s.heap h' x C dx t1 v → R (.ok (.ret .none)) { s with heap := h', toks := tk }) :
    codeAny (model prog w) A (.call (.ref fI) ⟨[.ref x, v], []⟩) R s := by
  obtain ⟨oc, od, doc, pm, an, cda, cc, ct, osl, p1, p2, a1, a2, a3, a4, a5, a6, b1, b2, b3, b4, ccl, cl, cdd, cld, vs, ccs, csl, file, tf, ho, hcd, hcda, hvs, hfile, hl, hcc⟩ := T.fn
  obtain ⟨nm, q, N, bs, bm, sn, sub, ab, col, dd, k0, k1, k2, k3, k5, hC, hbm⟩ := T.cls
  have hcl : clsIn K C = some { name := nm, bases := bs, mro := .ref C :: bm, ns := N, qualname := q, hasDict := true, slotNames := sn, subclasses := sub, abstract := ab, collection := col, hasDel := false } := by unfold clsIn; rw [hC] <;> rfl
  have nF : ¬ F = "self" := fun e => by
    have z := T.nF
    rw [e] at z
    exact absurd z (by decide)
  refine ks_codeAny_call_defAt (binds := [("self", .ref x), (F, v)]) hroom (Y _ _ ho) rfl M.lim (codeRec_of Y hcd) rfl ?_ ?_ ?_ (fun h₁ hns k => ?_) rfl rfl rfl
  · exact BindsTo.of_eq (T.bnd _ _ _ _ _ _ _ _ _ _ _ _)
  · intro y hy
    have hy' : y ∈ (iS F).names := hy
    simp only [iS, List.mem_cons, List.not_mem_nil, or_false] at hy'
    rcases hy' with rfl | rfl | rfl | rfl <;> (intro z; cases z)
  · intro y hy
    rcases List.mem_cons.mp hy with rfl | hy
    · rfl
    · obtain rfl := List.mem_singleton.mp hy
      exact T.lF
  have Y₁ : K.In h₁ := Y.keeps k
  have M₁ := M.keeps k
  have hx₁ := k _ _ hx
  have sl : List.lookup ("self" : Str) ([("self", Value.ref x), (F, v)] : List (Str × Value)).reverse = some (.ref x) := by
    show List.lookup ("self" : Str) ([(F, v), ("self", Value.ref x)] : List (Str × Value)) = _
    have z : (("self" : Str) == F) = false := by simpa using fun e : ("self" : Str) = F => nF e.symm
    simp [List.lookup, z]
  have fl : List.lookup F ([("self", Value.ref x), (F, v)] : List (Str × Value)).reverse = some v := by
    show List.lookup F ([(F, v), ("self", Value.ref x)] : List (Str × Value)) = _
    simp [List.lookup]
  have hxC : x ≠ C := fun e => by
    have z := Y _ _ hC
    rw [← e, hx] at z
    cases z
  obtain ⟨mb, nb, eb⟩ := M₁.b
  obtain ⟨hp, g, d, t, os⟩ := s
  have hI : Looks (model prog w) h₁ (isInstance (.ref x) (.type "ValueError")) true := (W.InstAt.type (od := none) ⟨hx₁, rfl, rfl, trivial⟩ : Looks (model prog w) h₁ (typeOf (.ref x)) (.ref C)).andThen (looks_subIn Y₁ T.veC)
  refine ks_wpAt_execs_cons ?_
  refine ks_wpAt_Expr_any ?_
  refine ks_wpAt_MethodCall (he := ev_one hl) ?_
  refine ks_wpAt_super_base (env := ksEnv qual (iS F) hp.objs.size fI (.ref cda) cc) (ar := { arg := "self", annotation := none, pos := p1 }) T.lS T.lC rfl rfl (Y₁ _ _ ho) rfl rfl rfl (Y₁ _ _ hcda) rfl hvs hfile T.top ?_
  refine ks_loadName_global rfl T.lS (loadGlobal_builtin (env := ksEnv qual (iS F) hp.objs.size fI (.ref cda) cc) M₁.g T.gS nb ((eb _ (by decide +kernel)).trans PyProof.Rows.Boot.«super») ⟨rfl, ?_⟩)
  refine wpAny_loadName_free rfl T.lC rfl ⟨_, Y₁ _ _ hcc, rfl⟩ ?_
  refine wpAny_loadName_local rfl rfl hns sl ?_
  refine ks_wpAny_isType_cls (Y₁ _ _ hC) rfl ⟨rfl, ?_⟩
  refine ks_wpAny_call_super (Y₁ _ _ hC) rfl hx₁ rfl (fun c z => by cases z) (looks_mroIn Y₁ T.slf) fun h₂ hso k₂ => ?_
  have Y₂ := Y₁.keeps k₂
  have hx₂ := k₂ _ _ hx₁
  have hsup : alongIn K "__init__" (((Value.ref C :: bm).dropWhile (· != .ref C)).drop 1) = some (some (.builtin "ValueError.__init__")) := by
    have z := T.sup
    unfold ks_superIn at z
    rw [hcl] at z
    exact z
  refine kxs_getMethod kxs_ValueError hso (looks_opaque Y₂ T.thp) (l₀ := .ref C :: bm) (fun A Q E s k q => wpAny_bind ((looks_clsIn Y₂ hcl) A _ E s k (wpAny_pure q))) rfl Y₂ hsup (hI.keeps k₂) hxC (by decide) ?_
  have hn₃ : ∀ b o, h₂.get? b = some o → (h₂.push (kxs_mw "ValueError.__init__" x)).get? b = some o := fun b o z => Heap.get?_push_of_some _ z
  have hu₃ : (h₂.push (kxs_mw "ValueError.__init__" x)).get? h₂.objs.size = some (kxs_mw "ValueError.__init__" x) := Heap.get?_push_at rfl rfl
  have ns₃ := (hns.keeps k₂).keeps hn₃
  refine kxs_callWith (i := "ValueError.__init__") (x := x) rfl (evalArgs_plain ?_)
  refine spliced_cons (wpAny_Name (wpAny_loadName_local rfl T.lF ns₃ fl ?_) T.dF)
  refine spliced_nil ⟨hu₃, ?_⟩
  refine wrap_call (hn₃ _ _ (Y₂ _ _ hC)) (hn₃ _ _ hx₂) hu₃ (one_size v) fun h₄ t4 k₄ hx₄ => ?_
  refine wpAt_of_wpAny ?_
  have old : ∀ b o, b ≠ x → h₁.get? b = some o → h₄.get? b = some o := fun b o hb z => k₄ b o hb (hn₃ _ _ (k₂ _ _ z))
  have Y₄ : K.In h₄ := fun b o z => old b o (fun e => by rw [e, hnx] at z; cases z) (Y₁ b o z)
  have hxL : hp.objs.size ≠ x := Nat.ne_of_gt (Heap.lt_size hx)
  have ns₄ : h₄.Ns hp.objs.size (fun y => List.lookup y ([("self", Value.ref x), (F, v)] : List (Str × Value)).reverse) := hns.at fun o z => old _ o hxL z
  show wpAny _ _ (execs _ _) _ _ _
  refine wpAny_execs_cons (plainObj_wpAny_Assign_Attribute ?_)
  refine wpAny_Name (wpAny_loadName_local rfl T.lF ns₄ fl ?_) T.dF
  refine wpAny_Name (wpAny_loadName_local rfl rfl ns₄ sl ?_)
  refine set_plain Y₄ (ox := excO C t4) (od := none) ⟨hx₄, rfl, rfl, trivial⟩ T.sa ?_
  refine exc_osa Y₄ hx₄ hcl (show refsVE (.ref C :: bm) = true from hbm) rfl T.noN (fun h₅ tk₅ dx k₅ dn dne hx₅ hn₅ => ?_)
  show wpAny _ _ (execs _ _) _ _ _
  refine wpAny_execs_nil (hq h₅ tk₅ dx t4 ⟨fun b o hb e => k₅ b o hb (old b o hb (k b o e)), hx₅, ?_, dne, hn₅⟩)
  exact Nat.le_trans (Nat.le_of_lt ns₄.lt) dn
/-- X(v) -/
theorem sup_made (T : SupTxt prog K mg X qual F C fI) {v : Value} (Y : K.In s.heap) (M : NsOk s.heap mg) (hroom : A.depth + 1 < recursionLimit)
    (hq : ∀ h' tk e d, OwnMade F s.heap h' e C d v → R (.ok (.ret (.ref e))) { s with heap := h', toks := tk }) :
    codeAny (model prog w) A (.call (.ref C) ⟨[v], []⟩) R s := by
  obtain ⟨nm, q, N, bs, bm, sn, sub, ab, col, dd, k0, k1, k2, k3, k5, hC, hbm⟩ := T.cls
  obtain ⟨hp, g, dr, tk, os⟩ := s
  have k : ∀ b o, hp.get? b = some o → ((hp.push (kdv_tup [v])).push (excO C hp.objs.size)).get? b = some o := fun b o e => Heap.get?_push_of_some _ (Heap.get?_push_of_some _ e)
  have hget : ((hp.push (kdv_tup [v])).push (excO C hp.objs.size)).get? (hp.objs.size + 1) = some (excO C hp.objs.size) := by heap_get
  have hnx : K.lookup (hp.objs.size + 1) = none := by
    cases e : K.lookup (hp.objs.size + 1) with
    | none => rfl
    | some o =>
      have z : hp.get? (hp.objs.size + 1) = some o := Y _ _ e
      exact absurd (Nat.lt_of_succ_lt (Heap.lt_size z)) (Nat.lt_irrefl _)
  refine call_own PySem.F.excBase_ValueError (fun X => refsVE_contains X bm hbm) (Y _ _ hC) (looks_findIn Y T.iC) (fun self => bind_fn Y self T.tC) (one_size v) ?_
  refine sup_init (s := ⟨(hp.push (kdv_tup [v])).push (excO C hp.objs.size), g, dr, tk, os⟩) T (Y.keeps k) (M.keeps k) hget hnx ?_ fun h' tk' dx t1 ⟨k', hx, dn, dne, hns⟩ => ?_
  · show A.depth + 1 < recursionLimit
    exact hroom
  · have old : ∀ b o, hp.get? b = some o → h'.get? b = some o := fun b o e => k' b o (Nat.ne_of_lt (Nat.lt_succ_of_lt (Heap.lt_size e))) (k b o e)
    have z : hp.objs.size + 1 + 1 ≤ dx := by
      first
        | (simpa only [Heap.size_push] using dn)
        | exact dn
        | (have q := dn; rw [Heap.size_push, Heap.size_push] at q; exact q)
    exact ⟨rfl, hq h' tk' (hp.objs.size + 1) dx ⟨old, Nat.le_succ _, ⟨_, _, hx, rfl, rfl, rfl, rfl⟩, Nat.le_trans (Nat.le_trans (Nat.le_succ _) (Nat.le_succ _)) z, dne, hns⟩⟩
end
end SupX
namespace L2
open PySem PySem.Spec PyProof.Rows SupX
theorem relO_one {F : Str} {v : V} {v' : Value} (r : RelV v v') (f : Str) : RelO (List.lookup f [(F, v)]) (if f = F then some v' else none) := by
  by_cases hw : f = F
  · subst hw
    rw [if_pos rfl]
    have q : List.lookup f [(f, v)] = some v := by simp [List.lookup]
    rw [q]
    exact r
  · rw [if_neg hw]
    have qw : (f == F) = false := by simpa using hw
    have q2 : List.lookup f [(F, v)] = none := by simp [List.lookup, qw]
    rw [q2]
    trivial
section
variable {X : Cx} {C fI : Addr} {x qual F : Str}
/-- x(e), an own error of one field F -/
def tMkSup (C : Addr) (F : Str) (ta : TA) : St → Hp → XK → Prop := fun σ H Q => ta σ H fun vs H1 => ∃ v, vs = [v] ∧ ∀ d, H1 d = none → Q (.ref C) (some d) (upd H1 d (.xd [(F, v)]))
theorem pmk_sup {a : Expr} {ta : TA} {p pos : Pos} {k : Nat} (T : SupTxt X.prog X.K X.mg x qual F C fI) (hr : Room k X.A) (ha : PA X [a] ta) (hg : Gl X x := by rfl) (hdb : (x == ("__debug__" : Str)) = false := by decide)
    (he : starEach (a :: []) X.env = (false, eval a X.env) :: starEach [] X.env := by rfl) (hpl : (backTo pos (starEach [] X.env)).any (·.1) = false := by rfl) :
    PMk X (.Call (.Name x p) [a] [] pos) (tMkSup C F ta) := by
  intro pins s σ H Q I h
  refine wpAny_Call_Name_kw (ld_glob I hg T.gC ?_ hdb)
  refine PySem.W.callWith_K (h₀ := X.base) I.ok.mod.kin T.kC (thn (ha.run pos pins s σ H _ I h) fun us s1 hh => ?_) he hpl
  obtain ⟨vs, H1, I1, r1, v, ev, q1⟩ := hh
  subst ev
  refine ⟨I1.kIn, ?_⟩
  cases r1 with
  | cons rv rn =>
    rename_i v' us'
    cases rn
    show wpAny _ _ (call (.ref C) [v']) _ _ _
    have M1 : NsOk s1.heap X.mg := ⟨I1.ok.mod.glob.keeps I1.bk, let ⟨mb, hb, e⟩ := I1.ok.mod.blt; ⟨mb, hb.keeps I1.bk, e⟩, I1.nolimit⟩
    obtain ⟨hp, g, dr, tk, os⟩ := s1
    refine wpAny_call (sup_made T I1.kIn M1 (by have := hr.dp; omega) fun h' tk' e d M => ?_)
    show MkP X pins σ Q (.ref e) ⟨h', g, dr, tk', os⟩
    obtain ⟨oe, fv, hoe, hc, hd, hdat, h1⟩ := M.obj
    have hns := M.ns
    obtain ⟨G', g1, g2⟩ := restrict h' fun b => decide (b ≠ e)
    have gk : ∀ b, b ≠ e → G'.get? b = h'.get? b := fun b hb => g1 b (decide_eq_true hb)
    have ge : G'.get? e = none := g2 e (by simp)
    have old : ∀ b o, hp.get? b = some o → G'.get? b = some o := fun b o q => (gk b (Nat.ne_of_lt (Nat.lt_of_lt_of_le (Heap.lt_size q) M.new))).trans (M.keep b o q)
    have ob : ObjOk X.prog X.w (upd H1 d (.xd [(F, v)])) G' d (.xd [(F, v)]) :=
      ⟨_, hns.at (fun o q => (gk d M.dne).trans q), fun f => relO_one rv f⟩
    have J : Inv X pins σ (upd H1 d (.xd [(F, v)])) ⟨G', g, dr, tk', os⟩ := I1.laid (t' := tk') old M.dbig ob
    refine ⟨e, oe, fv, ⟨G', g, dr, tk', os⟩, _, .ref C, some d, rfl, J, fun b o q => ?_, ge, hoe, ⟨hc, hd⟩, hdat, h1, ?_, rfl, I1.bare, raises_own T.exC T.tyC, q1 d (I1.hok.fresh M.dbig)⟩
    · by_cases hb : b = e
      · have q' : G'.get? b = some o := q
        rw [hb, ge] at q'; cases q'
      · exact (gk b hb).symm.trans q
    · rw [upd_ne (Ne.symm M.dne)]
      exact I1.hok.fresh M.new
/-- raise x(e) -/
def tRaiseSup (C : Addr) (F : Str) (W : WX) (ta : TA) : TS := fun _ σ H => tMkSup C F ta σ H fun cls d H' => W cls d σ H'
theorem ps_raiseSup {a : Expr} {ta : TA} {W : WX} {p pos pos2 : Pos} {k : Nat} (hc : X.calm = true) (T : SupTxt X.prog X.K X.mg x qual F C fI) (hr : Room k X.A) (tk : Takes X W) (ha : PA X [a] ta) (hg : Gl X x := by rfl) (hdb : (x == ("__debug__" : Str)) = false := by decide)
    (he : starEach (a :: []) X.env = (false, eval a X.env) :: starEach [] X.env := by rfl) (hpl : (backTo pos (starEach [] X.env)).any (·.1) = false := by rfl) :
    PS X (.Raise (some (.Call (.Name x p) [a] [] pos)) none pos2) (tRaiseSup C F W ta) := ps_raise hc tk (pmk_sup T hr ha hg hdb he hpl)
/-- e.F, e the exception that the suite holds (at a; its class cls, its dict d) -/
def tBySup (C : Addr) (F : Str) (a : Addr) (cls : Value) (d : Option Addr) (te : TE) : TE := fun σ H Q => te σ H fun x H1 => x = .ref a ∧ cls = .ref C ∧ ∃ (dd : Addr) (v : V), d = some dd ∧ H1 dd = some (.xd [(F, v)]) ∧ Q v H1
theorem pe_bySup {a : Addr} {oe : Obj} {cls : Value} {d : Option Addr} {pn : List (Addr × Obj)} {e : Expr} {te : TE} {pos : Pos} (T : SupTxt X.prog X.K X.mg x qual F C fI) (hz : Zc cls d oe) (hf : ∃ vs, oe.data = .fields vs) (he : PE (X.suite a ((a, oe) :: pn)) e te)
    (hb : attributeBase e F X.env (eval e X.env) = eval e X.env := by rfl) :
    PE (X.suite a ((a, oe) :: pn)) (.Attribute e F pos) (tBySup C F a cls d te) := by
  refine ⟨fun pins s σ H Q I h => ?_⟩
  refine attr_of hb (thn (he.run pins s σ H _ I h) fun u s1 hh => ?_)
  obtain ⟨x, H1, I1, rx, ex, ec, dd, v, ed, ea, q⟩ := hh
  subst ex
  obtain rfl : u = Value.ref a := rx
  subst ec
  subst ed
  obtain ⟨ha, _⟩ := I1.pin (a, oe) (List.mem_append_left _ List.mem_cons_self)
  obtain ⟨vs, hd⟩ := hf
  have hx : ObjOk X.prog X.w H1 s1.heap dd (.xd [(F, v)]) := I1.hok dd _ ea
  obtain ⟨mA, hns, hr⟩ := hx
  obtain ⟨od, ho, hl⟩ := lookIn_ns hns
  have l : List.lookup F [(F, v)] = some v := by simp [List.lookup]
  obtain ⟨u, hu, ru⟩ := RelO.some_of (v := v) (o := mA F) (by rw [← l]; exact hr F)
  have J : PySem.W.InstAt s1.heap a oe C (some od) := ⟨ha, hz.1, by unfold PySem.W.notCls; rw [hd] <;> rfl, by rw [hz.2]; exact ho⟩
  exact PySem.HandSPX.exc_get I1.kIn J T.ga T.gg T.exC (PySem.W.findObj_own T.hdC T.noN rfl (by rw [hl, hu])) (handed_of ru) ⟨v, H1, I1.tok _, ru, q⟩
end
end L2
namespace SupX
open PySem PySem.W PySem.Calls PyProof.Rows PySem.HandSPX
/-- an error of the class at S is what «except S» names -/
theorem exm_self {K : Frag} {S : Addr} (h1 : subIn K (.ref S) (.type "BaseException") = some true) (h2 : isClsIn K S = true) (h3 : typeIn K (.ref S) = some (.type "type")) (h4 : subIn K (.ref S) (.ref S) = some true) : exmOne K (.ref S) (.ref S) = some true := by
  have e1 : (subIn K (.ref S) (.type "BaseException") == some true) = true := by rw [h1] <;> rfl
  have e2 : ((clsIn K S).isSome && typeIn K (.ref S) == some (.type "type")) = true := by
    have h2' : (clsIn K S).isSome = true := h2
    rw [h2', h3] <;> rfl
  show (if (subIn K (.ref S) (.type "BaseException") == some true) = true then (if ((clsIn K S).isSome && typeIn K (.ref S) == some (.type "type")) = true then subIn K (.ref S) (.ref S) else none) else none) = some true
  rw [if_pos e1, if_pos e2]
  exact h4
end SupX
/-! Rules over data (Dp): sorted, list.remove, in over tuples; sorted(dict of ints) at any length; t[::-1]; o.m(k=v). -/
namespace L2
open PySem PySem.Spec PyProof.Rows
section
variable {X : Cx}
/-! ### data, item by item -/
theorem DpAll.length {K : PySem.W.Frag} {H : Hp} : ∀ {vs : List V} {ds : List PyData}, DpAll K H vs ds → vs.length = ds.length
  | _, _, .nil => rfl
  | _, _, .cons _ t => by rw [List.length_cons, List.length_cons, DpAll.length t]
theorem DpAll.each {pins : List (Addr × Obj)} {σ : St} {H : Hp} {s : Shared} (I : Inv X pins σ H s) : ∀ {ps : List (V × PyData)} {us : List Value}, (∀ p ∈ ps, Dp X.K H p.1 p.2) → Vals (ps.map (·.1)) us →
    PySem.W.EachIs (fun u (p : V × PyData) => RelV p.1 u) us ps ∧ PySem.W.EachIs (fun u (p : V × PyData) => ∃ as, Reads s.heap u p.2 as) us ps
  | [], _, _, r => by
    cases r
    exact ⟨.nil, .nil⟩
  | p :: ps, _, h, r => by
    cases r with
    | cons r1 r2 =>
      obtain ⟨h1, h2⟩ := DpAll.each I (fun q hq => h q (List.mem_cons_of_mem _ hq)) r2
      exact ⟨.cons r1 h1, .cons (Dp.reads I p.2 p.1 _ (h p List.mem_cons_self) r1) h2⟩
theorem vals_each : ∀ {ps : List (V × PyData)} {us : List Value}, PySem.W.EachIs (fun u (p : V × PyData) => RelV p.1 u) us ps → Vals (ps.map (·.1)) us
  | _, _, .nil => .nil
  | _, _, .cons r t => .cons r (vals_each t)
/-! ### sorted of data -/
def leD (p q : V × PyData) : Bool := PySem.W.dataLe false (fun p : V × PyData => p.2) p q
def rSortD (K : PySem.W.Frag) : List V → Hp → VK → Prop := fun vs H Q => ∃ (a : Addr) (ps : List (V × PyData)), vs = [V.ref a] ∧ SqL K H a (ps.map (·.1)) ∧ (∀ p ∈ ps, Dp K H p.1 p.2) ∧ PySem.W.AllAlike (ps.map (·.2)) ∧ PySem.W.Sortable (ps.map (·.2)) ∧
  (∀ p ∈ ps, p.2.depth ≤ 60) ∧ ∀ p, H p = none → Q (.ref p) (upd H p (.lst ((ps.mergeSort leD).map (·.1))))
theorem cr_sortD (hu : X.A.units + 64 < cLine) : CallR X (.builtin "sorted") (rSortD X.K) := by
  intro pins s σ H vs us Q I r h
  obtain ⟨a, ps, rfl, hs, hd, hal, hso, hdep, q⟩ := h
  obtain ⟨its, rv, hl, hz⟩ := I.list hs
  rw [Vals.ref1 r]
  obtain ⟨e1, e2⟩ := DpAll.each I hd rv
  rw [List.length_map] at hz
  refine PySem.W.sorted_data (enc := fun p : V × PyData => p.2) hl.isList e1 e2 hal hso hz (fun b hb => by have := hdep b hb; show X.A.units + 2 + b.2.depth < cLine; omega) fun out hlen ho => ?_
  obtain ⟨ep, he'⟩ := PyProof.Rows.sortedAll_at s.heap its out.toArray
  have hlen' : ((ps.mergeSort leD).map (·.1)).length ≤ sizeLine := by rw [List.length_map, List.length_mergeSort]; exact hz
  exact ⟨.ref _, upd H (s.heap.objs.size + 1) (.lst ((ps.mergeSort leD).map (·.1))), I.laid (t' := s.toks) (fun _ _ => PyProof.Rows.sortedAll_old) (Nat.le_succ _) ⟨hlen', out, ep, vals_each ho, he'⟩, rfl, q _ (I.hok.fresh (Nat.le_succ _))⟩
/-! ### l.remove(x), the first equal one -/
def rRemoveD (K : PySem.W.Frag) : V → List V → Hp → VK → Prop := fun x vs H Q => ∃ (l : Addr) (xs : List V) (ds : List PyData) (y : V) (d : PyData) (j : Nat), x = .ref l ∧ vs = [y] ∧ H l = some (.lst xs) ∧ DpAll K H xs ds ∧ Dp K H y d ∧
  SeqAt.shaped (.list ds) = true ∧ SeqAt.shaped d = true ∧ SeqAt.dataPlace ds d = some j ∧ Q .non (upd H l (.lst (xs.eraseIdx j)))
theorem mt_removeD (hu : X.A.units + 66 < cLine) : MtM X "list.remove" (rRemoveD X.K) := by
  intro pins s σ H x vs v us Q I rx rv h
  obtain ⟨l, xs, ds, y, d, j, rfl, rfl, hH, hds, hd, hl1, hl2, hp, q⟩ := h
  cases rx
  obtain ⟨u, rfl, ru⟩ := rv.one
  obtain ⟨as, r1⟩ := Dp.reads I d y u hd ru
  obtain ⟨z, its, n, r, hl, e⟩ := I.lstM hH
  obtain ⟨bs, r2⟩ := Dp.readsAll I ds xs its hds r
  have hroom : X.A.units + 1 + min (PyData.depthAll ds) d.depth < cLine := room_in_shaped hl2 (by omega)
  refine SeqAt.remove_list_data (vs := its.toArray) (xs := ds) (d := d) (j := j) (PlainL.isList ⟨_, n, e, rfl, rfl, rfl⟩) r2 r1 (PyData.plainAll_of_canLay0 _ (SeqAt.canLay_of_shaped hl1)) (PyData.plain_of_canLay0 _ (SeqAt.canLay_of_shaped hl2)) hroom hp (by rw [List.size_toArray]; omega) ?_
  refine ⟨.non, _, I.lset (its' := its.eraseIdx j) hH e ?_ (r.eraseIdx j) ?_, rfl, q⟩
  · show its.toArray.eraseIdxIfInBounds j = (its.eraseIdx j).toArray
    rw [List.eraseIdxIfInBounds_toArray]
  · have := len_erase xs j
    omega
/-! ### x in t, t a tuple of data -/
def rInTD (K : PySem.W.Frag) : R2 := fun x y H Q => ∃ d ds, Dp K H x d ∧ Dp K H y (.tuple ds) ∧ SeqAt.shaped d = true ∧ SeqAt.shaped (.tuple ds) = true ∧ Q (.bl (ds.any fun z => PyData.eqv z d)) H
def rNotInTD (K : PySem.W.Frag) : R2 := fun x y H Q => ∃ d ds, Dp K H x d ∧ Dp K H y (.tuple ds) ∧ SeqAt.shaped d = true ∧ SeqAt.shaped (.tuple ds) = true ∧ Q (.bl (!ds.any fun z => PyData.eqv z d)) H
theorem op_inTD (hu : X.A.units + 65 < cLine) : OpR X (compareOp .In) (rInTD X.K) := by
  intro pins s σ H x y v u Q I rx ry h
  obtain ⟨d, ds, hd, he, sd, se, q⟩ := h
  obtain ⟨as, r1⟩ := Dp.reads I d x v hd rx
  obtain ⟨bs, r2⟩ := Dp.reads I (.tuple ds) y u he ry
  exact SeqAt.in_tuple_reads r2 r1 (SeqAt.canLay_of_shaped se) (SeqAt.canLay_of_shaped sd) (room_in_shaped sd hu) ⟨.bl _, H, I, rfl, q⟩
theorem op_notInTD (hu : X.A.units + 65 < cLine) : OpR X (compareOp .NotIn) (rNotInTD X.K) := by
  intro pins s σ H x y v u Q I rx ry h
  obtain ⟨d, ds, hd, he, sd, se, q⟩ := h
  obtain ⟨as, r1⟩ := Dp.reads I d x v hd rx
  obtain ⟨bs, r2⟩ := Dp.reads I (.tuple ds) y u he ry
  exact SeqAt.notIn_tuple_reads r2 r1 (SeqAt.canLay_of_shaped se) (SeqAt.canLay_of_shaped sd) (room_in_shaped sd hu) ⟨.bl _, H, I, rfl, q⟩
end
section
variable {X : Cx} {CX : CXT} {k : Nat} {f C : Addr} {fd : FuncData} {ps ks : List Str} {sp : Sp} {E : XK} {x m : Str} {p pos apos kpos : Pos} {e o : Expr} {es : List Expr} {kws : List Keyword} {te ta : TE} {t tk : TA} {nm : Option Str}
variable {g : List Value → List Value → List Value} {gV : List V → List V → List V}
/-! ### calls by keywords alone -/
/-- f(k = v, ..) -/
theorem pe_callK0 (F : FnOk X.prog X.w X.K X.mg X.base CX k f fd ps sp) (hr : Room k X.A) (hg : Gl X x) (hm : X.mg x = some (.ref f)) (hk : PySem.W.keepIn X.K (.ref f) = true) (hb : KBinds X.K fd ps ks g gV) (hx : Passes CX X E)
    (hkw : PK X kws tk) (hall : (backToKw pos (keywordEach kws X.env)).all (·.1.isSome) = true := by rfl) (hks : (backToKw pos (keywordEach kws X.env)).filterMap (·.1) = ks := by rfl)
    (hdb : (x == ("__debug__" : Str)) = false := by decide) (hpl : ((backTo pos (starEach [] X.env)).any (·.1) || (backToKw pos (keywordEach kws X.env)).any (·.1.isNone)) = false := by rfl) :
    PE X (.Call (.Name x p) [] kws pos) (tCallK sp gV E tNil tk) := by
  refine ⟨fun pins s σ H Q I h => ?_⟩
  refine wpAny_Call_Name_kw (ld_glob I hg hm ?_ hdb)
  refine PySem.W.callWith_KW0 (first := []) (h₀ := X.base) I.ok.mod.kin hk hall ?_ hpl
  refine thn (hkw.run pos pins s σ H _ I h) fun ws s2 ⟨zs, H2, I2, rz, q2⟩ => ⟨I2.kIn, ?_⟩
  rw [hks]
  exact run_fnk (us := []) F hr hb hx I2 .nil rz q2
/-- o.m(k = v, ..) -/
def tMethK (C : Addr) (m : Str) (sp : Sp) (gV : List V → List V → List V) (E : XK) (ta : TE) (tk : TA) : TE := fun σ H Q => ta σ H fun x H1 => ∃ a dx fs, x = .ref a ∧ H1 a = some (.ins C dx fs) ∧ fs.lookup m = none ∧
  tk σ H1 fun zs H2 => sp (gV [x] zs) H2 Q E
theorem pe_methK0 {pl : Sem Bool} (he : PE X o ta) (c : Cls X.K C) (hm : Meth X.K C m f) (F : FnOk X.prog X.w X.K X.mg X.base CX k f fd ps sp) (hr : Room k X.A) (hb : KBinds X.K fd ps ks g gV) (hx : Passes CX X E)
    (hkw : PK X kws tk) (hall : (backToKw pos (keywordEach kws X.env)).all (·.1.isSome) = true := by rfl) (hks : (backToKw pos (keywordEach kws X.env)).filterMap (·.1) = ks := by rfl)
    (hpl : ((backTo pos (starEach [] X.env)).any (·.1) || (backToKw pos (keywordEach kws X.env)).any (·.1.isNone)) = false := by rfl)
    (ht : eval (.Call (.Attribute o m apos) [] kws pos) X.env = (do
      let ov ← eval o X.env
      standAt apos.atName
      let (f, first) ← holding [ov] (getMethod ov m pl)
      callWith pos f first (backTo pos (starEach [] X.env)) (backToKw pos (keywordEach kws X.env))) := by rfl) :
    PE X (.Call (.Attribute o m apos) [] kws pos) (tMethK C m sp gV E ta tk) := by
  refine ⟨fun pins s σ H Q I h => ?_⟩
  refine PySem.W.methodCall_KW (pl := pl) (thn (he.run pins s σ H _ I h) fun u s1 ⟨x, H1, I1, rx, a, dx, fs, ex, ea, l, q⟩ => ?_) ht
  subst ex
  obtain rfl : u = Value.ref a := rx
  refine getmeth_ok I1 ea c hm l ?_
  refine PySem.W.callWith_KW0 (first := [.ref a]) (h₀ := X.base) I.ok.mod.kin hm.kp hall ?_ hpl
  refine thn (hkw.run pos pins s1 σ H1 _ I1 q) fun ws s2 ⟨zs, H2, I2, rz, q2⟩ => ⟨I2.kIn, ?_⟩
  rw [hks]
  exact run_fnk (us := [.ref a]) (vs := [.ref a]) F hr hb hx I2 (.cons rfl .nil) rz q2
end
namespace TRev
open HT
section
variable {prog : Program} {w : World} {A : Around} {E : Value → Shared → Prop} {s : Shared}
theorem fm_congr {α β : Type} {f g : α → Option β} : ∀ {l : List α}, (∀ x ∈ l, f x = g x) → l.filterMap f = l.filterMap g
  | [], _ => rfl
  | a :: l, h => by rw [List.filterMap_cons, List.filterMap_cons, h a List.mem_cons_self, fm_congr fun x hx => h x (List.mem_cons_of_mem _ hx)]
theorem adjust_rev (n : Nat) : Builtin.Slice.sliceAdjust none none (-1) (n : Int) = ((n : Int) - 1, -1) := by
  unfold Builtin.Slice.sliceAdjust
  have h : (-1 : Int) < 0 := by decide
  simp only [h, if_true]
theorem places_rev (n : Nat) : Builtin.Slice.slicePlaces ((n : Int) - 1) (-1) (-1) = n := by
  unfold Builtin.Slice.slicePlaces
  have h : ¬ (-1 : Int) > 0 := by decide
  have e : -(-1 : Int) = 1 := by decide
  simp only [h, if_false, e, Int.ediv_one]
  split <;> omega
theorem pick_rev (xs : Array Value) : ((List.range xs.size).filterMap fun (m : Nat) => xs[(((xs.size : Int) - 1) + (m : Int) * (-1)).toNat]?).toArray = xs.toList.reverse.toArray := by
  congr 1
  have e : (List.range xs.size).filterMap (fun (m : Nat) => xs[(((xs.size : Int) - 1) + (m : Int) * (-1)).toNat]?) = ((List.range xs.size).map fun k => xs.size - 1 - k).filterMap (xs[·]?) := by
    rw [List.filterMap_map]
    refine fm_congr fun m hm => ?_
    have hm' := List.mem_range.mp hm
    have z : (((xs.size : Int) - 1) + (m : Int) * (-1)).toNat = xs.size - 1 - m := by omega
    show xs[(((xs.size : Int) - 1) + (m : Int) * (-1)).toNat]? = xs[xs.size - 1 - m]?
    rw [z]
  rw [e, PySem.W.krv_range, List.filterMap_reverse, PySem.W.krv_all]
theorem applied_rev {sl : Addr} {vl vu vs : Value} {n : Nat} {Q : Int × Int × Nat → Shared → Prop} (hs : s.heap.IsSliceOf sl vl vu vs) (pl : IsPart vl none) (pu : IsPart vu none) (ps : IsPart vs (some (-1)))
    (h : Q ((n : Int) - 1, -1, n) s) : wpAny (model prog w) A (Builtin.Slice.sliceApplied (.ref sl) (pure (n : Int))) Q E s := by
  obtain ⟨o, ho, _, hd⟩ := id hs
  unfold Builtin.Slice.sliceApplied Builtin.Slice.sliceFields
  refine wpAny_bind (wpAny_bind (wpAny_field ho hd (x := vl) rfl (wpAny_bind (wpAny_field ho hd (x := vu) rfl (wpAny_bind (wpAny_field ho hd (x := vs) rfl (wpAny_pure (wpAny_bind (slicePart_ ps ?_)))))))))
  refine W.KFB.if_not rfl (wpAny_bind (slicePart_ pl (wpAny_bind (slicePart_ pu (wpAny_bind (wpAny_pure ?_))))))
  simp only [Option.getD_some, adjust_rev, places_rev]
  exact wpAny_pure h
theorem getItem_tuple_rev {t sl : Addr} {items : Array Value} {vl vu vs : Value} {Q : Value → Shared → Prop} (ht : IsTup s.heap t items) (hs : s.heap.IsSliceOf sl vl vu vs) (pl : IsPart vl none) (pu : IsPart vu none) (ps : IsPart vs (some (-1)))
    (h : Q (.ref s.heap.objs.size) { s with heap := s.heap.push { cls := .type "tuple", data := .seq items.toList.reverse.toArray } })
    (hz : items.size ≤ sizeLine) : wpAny (model prog w) A (getItem (.ref t) (.ref sl)) Q E s := by
  have hok : sizeOk (.seq items.toList.reverse.toArray) := by
    show items.toList.reverse.toArray.size ≤ sizeLine
    simpa using hz
  have hT : s.TypeIs (.ref sl) "slice" := let ⟨o, ho, hc, _⟩ := hs; ⟨o, ho, hc⟩
  unfold getItem
  refine wpAny_holding (wpAny_bind (wpAny_sequenceKey ht.typeIs (by decide) ?_))
  refine wpAny_bind (wpAny_callSpecial?_slot (name := Str.ofString "__getitem__") ht.typeIs PyProof.Rows.slot_tuple_getitem (wpAny_call_entry PyProof.Rows.slot_tuple_getitem ht.typeIs PyProof.Rows.entry_tuple_getitem ?_ (PyProof.Rows.args_tuple_getitem _ _)))
  unfold Builtin.«tuple.__getitem__»
  refine wpAny_bind (m := slotArgs "__getitem__" 1 _) (wpAny_pure (wpAny_bind (PyProof.Rows.tupleItemsOf_ ht (wpAny_bind (wpAny_typeOf hT (W.KFB.if_so (by decide) (wpAny_bind (applied_rev hs pl pu ps ?_))))))))
  refine W.KFB.if_not (by rw [show ((-1 : Int) == 1) = false from rfl, Bool.and_false, Bool.false_and]) ?_
  rw [pick_rev]
  refine wpAny_bind (m := Builtin.Tuple.tupleExact _) (wpAny_newObj_type (wpAny_bind (wpAny_pure (wpAny_pure ⟨_, rfl, wpAny_pure h⟩))) hok)
end
end TRev
section
variable {X : Cx}
/-! ### t[::-1] of a tuple -/
def tRevT (K : PySem.W.Frag) (te : TE) : TE := fun σ H Q => te σ H fun x H1 => ∃ a xs, x = .ref a ∧ SqT K H1 a xs ∧ ∀ p, H1 p = none → Q (.ref p) (upd H1 p (.tup xs.reverse))
/-- the slice object of [::-1] -/
theorem rev_slice {k : Nat} {p1 p2 p3 : Pos} {pins : List (Addr × Obj)} {σ : St} {H : Hp} {s : Shared} {Q : Value → Shared → Prop} (I : Inv X pins σ H s)
    (h : ∀ (s1 : Shared) (vl vu vs : Value), IsPart vl none → IsPart vu none → IsPart vs (some (-1)) → Inv X pins σ H { s1 with heap := s1.heap.push { cls := .type "slice", data := .fields #[vl, vu, vs] } } →
      Q (.ref s1.heap.objs.size) { s1 with heap := s1.heap.push { cls := .type "slice", data := .fields #[vl, vu, vs] } }) :
    wpAny (model X.prog X.w) X.A (eval (.Slice none none (some (.UnaryOp .USub (.Constant (.int 1) k p1) p2)) p3) X.env) Q X.xe s := by
  have step : PO X (some (.UnaryOp .USub (.Constant (.int 1) k p1) p2)) (tPart (tUn (rU fun i => .int (-i)) (tC (.int 1)))) := po_some (pe_un un_neg pe_int)
  refine wpAny_Slice (thn (po_none.run pins s σ H (fun o H' => o = none ∧ H' = H) I ⟨rfl, rfl⟩) ?_)
  rintro vl s2 ⟨_, _, I2, pl, rfl, rfl⟩
  refine thn (po_none.run pins s2 σ _ (fun o H' => o = none ∧ H' = _) I2 ⟨rfl, rfl⟩) ?_
  rintro vu s3 ⟨_, _, I3, pu, rfl, rfl⟩
  refine thn (step.run pins s3 σ _ (fun o H' => o = some (-1) ∧ H' = _) I3 ⟨1, rfl, -1, rfl, rfl, rfl⟩) ?_
  rintro vs s4 ⟨_, _, I4, ps, rfl, rfl⟩
  exact h s4 vl vu vs pl pu ps (I4.kept (t' := s4.toks) fun b ob q => Heap.get?_push_of_some _ q)
theorem pe_revT {e : Expr} {te : TE} {k : Nat} {p1 p2 p3 pos : Pos} (he : PE X e te) : PE X (.Subscript e (.Slice none none (some (.UnaryOp .USub (.Constant (.int 1) k p1) p2)) p3) pos) (tRevT X.K te) := by
  refine ⟨fun pins s σ H Q I h => Subscript_ (thn (he.run pins s σ H _ I h) ?_)⟩
  rintro _ s1 ⟨_, H1, I1, rx, a, xs, rfl, hx, q⟩
  cases rx
  refine rev_slice I1 fun s4 vl vu vs pl pu ps I5 => ?_
  obtain ⟨its, r, ht, hz⟩ := I5.tuple hx
  refine tail_any (ops := [.ref a, .ref s4.heap.objs.size]) ht.typeIs (PyProof.Rows.slot_tuple_getitem.lookup) ?_ (by with_unfolding_all rfl)
  refine TRev.getItem_tuple_rev ht (Heap.IsSliceOf.new _ vl vu vs) pl pu ps ?_ (by rw [List.size_toArray, ← r.length]; exact hz)
  exact ⟨.ref _, _, I5.laid (t' := s4.toks) (o := .tup xs.reverse) (fun b ob w => Heap.get?_push_of_some _ w) (Nat.le_refl _) ⟨by rw [List.length_reverse]; exact hz, _, r.reverse, IsTup.new _ _⟩, rfl, q _ (I5.hok.fresh (Nat.le_refl _))⟩
/-! ### sorted(d), d with int keys, any number of them -/
theorem keys_ints {P : Program} {w : World} {vs : List (Key × Value)} {ks : List Int} {acc : List Value} (hk : vs.map (·.1) = ks.map Sum.inl) (hl : acc.length = vs.length)
    (ha : ∀ (j : Nat) (v : Value), acc[j]? = some v → ∃ k x, vs[j]? = some (k, x) ∧ (mixKind P w).is k v = true) : IntsAre acc ks := by
  have lk : vs.length = ks.length := by simpa using congrArg List.length hk
  refine ints_each (by omega) fun j v e => ?_
  obtain ⟨k, x, e1, e2⟩ := ha j v e
  have ej : (ks.map Sum.inl)[j]? = some k := by rw [← hk, List.getElem?_map, e1]; rfl
  rw [List.getElem?_map, Option.map_eq_some_iff] at ej
  obtain ⟨n, en, rfl⟩ := ej
  obtain ⟨t, et⟩ := Value.isInt_shape (k := n) (v := v) e2
  exact ⟨n, t, en, et⟩
theorem sorted_keys {P : Program} {w : World} {A : Around} {E : Value → Shared → Prop} {s : Shared} {d : Addr} {vs : List (Key × Value)} {ep : Nat} {ks : List Int} {Q : Value → Shared → Prop} (hh : A.handled = none) (lo : (d == sysModules) = false)
    (hd : s.heap.DictAt (mixKind P w) d vs ep) (hk : vs.map (·.1) = ks.map Sum.inl) (hn : vs.length ≤ sizeLine)
    (h : ∀ (h1 h2 : Heap) (tk ep : Nat) (out : List Value) (ys : List Int), (∀ b o, s.heap.get? b = some o → h1.get? b = some o) → (∀ b o, h1.get? b = some o → h2.get? b = some o) → h2.get? h1.objs.size = some (seqObj "list" out.toArray ep) →
      IntsAre out ys → ys.Perm ks → ys.Pairwise (· ≤ ·) → Q (.ref h1.objs.size) { s with heap := h2, toks := tk }) : wpAny (model P w) A (call (.builtin "sorted") [.ref d]) Q E s := by
  refine Calls.call_function_entry kind_sorted plain_sorted entry_sorted (args_sorted1 _) ?_
  unfold Builtin.«sorted»
  refine wpAny_bind (m := checkCount "sorted" 1 1 _) (wpAny_pure (wpAny_bind (PySem.W.kdu_collect (PySem.W.kdl_dict lo) hh hd hn fun h1 tk acc k1 hacc => ?_)))
  obtain ⟨c1, c2⟩ := hacc
  have la : acc.toList.length = vs.length := by rw [Array.length_toList, c1]
  have hi : IntsAre acc.toList ks := keys_ints hk la fun j v e => c2 j v (by rw [← Array.getElem?_toList]; exact e)
  have la' : acc.toList.length ≤ sizeLine := la ▸ hn
  have at1 : (h1.push (seqObj "list" acc.toList.toArray 0)).get? h1.objs.size = some (seqObj "list" acc.toList.toArray 0) := Heap.get?_push_size _ rfl
  refine wpAny_bind (wpAny_newList (wpAny_bind (wpAny_holding (wpAny_call_entry slot_list_sort ⟨_, at1, rfl⟩ entry_list_sort (list_sort_treeAny at1 hi la' fun out ys g1 g2 g3 => ⟨_, rfl, ?_⟩) (args_list_sort _)))) la')
  obtain ⟨c, at2⟩ := sortedHeap_at (vs := acc.toList) (out := out) at1
  refine wpAny_pure ⟨_, rfl, h h1 _ tk c out.toList ys k1 (fun b o e => ?_) (by rw [Array.toArray_toList]; exact at2) g1 g2 g3⟩
  have lt := Heap.lt_size e
  exact (sortedHeap_old (Nat.ne_of_lt lt) (by rw [size_push']; exact Nat.lt_succ_of_lt lt)).trans (Heap.get?_push_of_some _ e)
def rSortDk : List V → Hp → VK → Prop := fun xs H Q => ∃ (a : Addr) (kvs : List (Key × V)) (ks : List Int), xs = [.ref a] ∧ Rd H a (.dK kvs) ∧ kvs.map (·.1) = ks.map Sum.inl ∧
    ∀ (ys : List Int) (p : Addr), ys.Perm ks → ys.Pairwise (· ≤ ·) → H p = none → Q (.ref p) (upd H p (.lst (ys.map V.int)))
theorem call_sortDk (hc : X.calm = true) : CallR X (.builtin "sorted") rSortDk := by
  rintro pins s σ H xs us Q I r ⟨a, kvs, ks, rfl, hd, hk, q⟩
  rw [Vals.ref1 r]
  obtain ⟨z, lo, vs, rel, dd⟩ := dk_rd I.hok hd
  obtain ⟨ep, hat⟩ := dd.dictAt
  have lv : vs.length = kvs.length := by simpa using (congrArg List.length rel.keys).symm
  have lk : kvs.length = ks.length := by simpa using congrArg List.length hk
  refine sorted_keys (I.ok.hd hc) lo hat (rel.keys.symm.trans hk) (lv ▸ z) fun h1 h2 tk ep out ys k1 k2 e g1 g2 g3 => ?_
  have hz : (ys.map V.int).length ≤ sizeLine := by rw [List.length_map, g2.length_eq, ← lk]; exact z
  have I1 : Inv X pins σ H { s with heap := h1 } := I.kept (t' := s.toks) k1
  exact ⟨.ref h1.objs.size, _, I1.laid (t' := tk) (o := .lst (ys.map V.int)) k2 (Nat.le_refl _) ⟨hz, out, ep, vals_of_ints g1, e⟩, rfl, q ys _ g2 g3 (I1.hok.fresh (Nat.le_refl _))⟩
end
end L2
/-! What the walks of these laws share: heaps that keep what they have, data that never changes, draws from a list of three numbers. -/
namespace L2
open PySem PySem.Spec PyProof.Rows
/-! ### room -/
theorem hu64 {A : Around} {k : Nat} (hr : Room k A) : A.units + 64 < cLine := by have := hr.un; omega
theorem hu65 {A : Around} {k : Nat} (hr : Room k A) : A.units + 65 < cLine := by have := hr.un; omega
theorem hu66 {A : Around} {k : Nat} (hr : Room k A) : A.units + 66 < cLine := by have := hr.un; omega
/-! ### what is kept -/
/-- all but what stands at S is as it was -/
def But (S : Addr → Prop) (H H' : Hp) : Prop := ∀ a o, ¬ S a → H a = some o → H' a = some o
theorem But.refl {S : Addr → Prop} (H : Hp) : But S H H := fun _ _ _ e => e
theorem But.trans {S : Addr → Prop} {H H1 H2 : Hp} (a : But S H H1) (b : But S H1 H2) : But S H H2 := fun x o n e => b x o n (a x o n e)
theorem But.mono {S T : Addr → Prop} {H H' : Hp} (k : But S H H') (h : ∀ a, S a → T a) : But T H H' := fun a o n e => k a o (fun s => n (h a s)) e
theorem Same.but {S : Addr → Prop} {H H' : Hp} (k : Same H H') : But S H H' := fun a o _ e => k a o e
theorem But.set {S : Addr → Prop} {H : Hp} {a : Addr} {o : HO} (h : S a) : But S H (upd H a o) := fun b u n e => by rw [upd_ne (fun z => n (by rw [z]; exact h))]; exact e
theorem Same.new {H : Hp} {p : Addr} {o : HO} (h : H p = none) : Same H (upd H p o) := fun b u e => by rw [upd_ne (ne_of_none e h)]; exact e
theorem Same.step {H H' : Hp} {p : Addr} {o : HO} (k : Same H H') (h : H' p = none) : Same H (upd H' p o) := k.trans (Same.new h)
theorem But.new {S : Addr → Prop} {H H' : Hp} {p : Addr} {o : HO} (k : But S H H') (h : H' p = none) : But S H (upd H' p o) := k.trans (Same.new h).but
theorem But.put {S : Addr → Prop} {H H' : Hp} {p : Addr} {o : HO} (k : But S H H') (h : S p) : But S H (upd H' p o) := k.trans (But.set h)
theorem But.own {S : Addr → Prop} {H H' : Hp} {p : Addr} {o : HO} (k : But S H H') (h : H p = none) : But S H (upd H' p o) := fun a u n e => by
  rw [upd_ne (ne_of_none e h)]
  exact k a u n e
theorem But.free {S : Addr → Prop} {H H' : Hp} {p : Addr} (k : But S H H') (h : ∀ a, S a → H' a ≠ none) (hp : H' p = none) : H p = none := by
  cases e : H p with
  | none => rfl
  | some o =>
    by_cases hs : S p
    · exact absurd hp (h p hs)
    · rw [k p o hs e] at hp
      cases hp
/-- one that H does not know may change -/
theorem Same.own {H H' : Hp} {p : Addr} {o : HO} (k : Same H H') (h : H p = none) : Same H (upd H' p o) := fun a u e => by
  rw [upd_ne (ne_of_none e h)]
  exact k a u e
/-- tuples stay -/
def TupK (H H' : Hp) : Prop := ∀ a xs, Rd H a (.tup xs) → Rd H' a (.tup xs)
theorem TupK.refl (H : Hp) : TupK H H := fun _ _ e => e
theorem TupK.trans {H H1 H2 : Hp} (a : TupK H H1) (b : TupK H1 H2) : TupK H H2 := fun x xs e => b x xs (a x xs e)
theorem Same.tupK {H H' : Hp} (k : Same H H') : TupK H H' := fun a xs r => r.elim (fun e => .inl (k _ _ e)) fun ⟨o, e⟩ => .inr ⟨o, k _ _ e⟩
theorem But.tupK {S : Addr → Prop} {H H' : Hp} (k : But S H H') (h : ∀ a xs, S a → ¬ Rd H a (.tup xs)) : TupK H H' := fun a xs r =>
  r.elim (fun e => .inl (k _ _ (fun s => h a xs s r) e)) fun ⟨o, e⟩ => .inr ⟨o, k _ _ (fun s => h a xs s r) e⟩
theorem not_tup_lst {H : Hp} {a : Addr} {xs ys : List V} (e : H a = some (.lst xs)) : ¬ Rd H a (.tup ys) := fun r => by
  rcases r with r | ⟨o, r⟩ <;> rw [e] at r <;> cases r
theorem TupK.sqT {K : PySem.W.Frag} {H H' : Hp} {a : Addr} {xs : List V} (k : TupK H H') (h : SqT K H a xs) : SqT K H' a xs := h.elim (fun r => .inl (k _ _ r)) .inr
theorem Same.sqT {K : PySem.W.Frag} {H H' : Hp} {a : Addr} {xs : List V} (k : Same H H') (h : SqT K H a xs) : SqT K H' a xs := k.tupK.sqT h
theorem Same.sqL {K : PySem.W.Frag} {H H' : Hp} {a : Addr} {xs : List V} (k : Same H H') (h : SqL K H a xs) : SqL K H' a xs := k.seq h
theorem But.sqL {S : Addr → Prop} {K : PySem.W.Frag} {H H' : Hp} {a : Addr} {xs : List V} (k : But S H H') (n : ¬ S a) (h : SqL K H a xs) : SqL K H' a xs := by
  rcases h with (h | ⟨o, h⟩) | h
  · exact .inl (.inl (k _ _ n h))
  · exact .inl (.inr ⟨o, k _ _ n h⟩)
  · exact .inr h
/-! ### data without lists -/
mutual
def imm : PyData → Bool
  | .none => true
  | .bool _ => true
  | .int _ => true
  | .str _ => true
  | .tuple ds => immAll ds
  | _ => false
def immAll : List PyData → Bool
  | [] => true
  | d :: ds => imm d && immAll ds
end
mutual
theorem Dp.keep {K : PySem.W.Frag} {H H' : Hp} (k : TupK H H') : ∀ (d : PyData) (v : V), imm d = true → Dp K H v d → Dp K H' v d
  | .none, _, _, h => by cases h; exact .non
  | .bool b, _, _, h => by cases h; exact .bl b
  | .int i, _, _, h => by cases h; exact .int i
  | .str x, _, _, h => by cases h; exact .str x
  | .tuple ds, _, hi, h => by
    cases h with
    | tup hs ha => exact .tup (k.sqT hs) (Dp.keepAll k ds _ (by simpa only [imm] using hi) ha)
  | .list _, _, hi, _ => by simp [imm] at hi
  | .dict _, _, hi, _ => by simp [imm] at hi
theorem Dp.keepAll {K : PySem.W.Frag} {H H' : Hp} (k : TupK H H') : ∀ (ds : List PyData) (vs : List V), immAll ds = true → DpAll K H vs ds → DpAll K H' vs ds
  | [], _, _, h => by cases h; exact .nil
  | d :: ds, _, hi, h => by
    simp only [immAll, Bool.and_eq_true] at hi
    cases h with
    | cons h1 h2 => exact .cons (Dp.keep k d _ hi.1 h1) (Dp.keepAll k ds _ hi.2 h2)
end
theorem DpAll.get {K : PySem.W.Frag} {H : Hp} : ∀ {vs : List V} {ds : List PyData} {i : Nat} {v : V}, DpAll K H vs ds → vs[i]? = some v → ∃ d, ds[i]? = some d ∧ Dp K H v d
  | _, _, _, _, .nil, e => by simp at e
  | _, _, 0, _, .cons h _, e => by
    simp at e
    subst e
    exact ⟨_, rfl, h⟩
  | _, _, i + 1, _, .cons _ t, e => by
    obtain ⟨d, h1, h2⟩ := DpAll.get (i := i) t (by simpa using e)
    exact ⟨d, by simpa using h1, h2⟩
theorem DpAll.of_get {K : PySem.W.Frag} {H : Hp} : ∀ {vs : List V} {ds : List PyData}, vs.length = ds.length → (∀ (i : Nat) (v : V) (d : PyData), vs[i]? = some v → ds[i]? = some d → Dp K H v d) → DpAll K H vs ds
  | [], [], _, _ => .nil
  | [], _ :: _, h, _ => by simp at h
  | _ :: _, [], h, _ => by simp at h
  | v :: vs, d :: ds, h, f => .cons (f 0 v d rfl rfl) (DpAll.of_get (by simpa using h) fun i x y e1 e2 => f (i + 1) x y (by simpa using e1) (by simpa using e2))
theorem DpAll.app {K : PySem.W.Frag} {H : Hp} : ∀ {vs ws : List V} {ds es : List PyData}, DpAll K H vs ds → DpAll K H ws es → DpAll K H (vs ++ ws) (ds ++ es)
  | _, _, _, _, .nil, h => h
  | _, _, _, _, .cons h t, h2 => .cons h (DpAll.app t h2)
/-! ### keywords: p positional values, k by name -/
def kbG {α : Type} (p k : Nat) (us ws : List α) : List α := if us.length = p ∧ ws.length = k then us ++ ws else []
theorem kbG_len {α : Type} {p k n : Nat} {us ws : List α} (h : (kbG p k us ws).length = n) (hn : 0 < n) : us.length = p ∧ ws.length = k := by
  unfold kbG at h
  by_cases c : us.length = p ∧ ws.length = k
  · exact c
  · rw [if_neg c] at h
    simp at h
    omega
theorem kbG_rel {p k : Nat} {vs : List V} {us : List Value} {zs : List V} {ws : List Value} (a : Vals vs us) (b : Vals zs ws) : Vals (kbG p k vs zs) (kbG p k us ws) := by
  unfold kbG
  rw [a.length, b.length]
  by_cases c : us.length = p ∧ ws.length = k
  · rw [if_pos c, if_pos c]
    exact a.append b
  · rw [if_neg c, if_neg c]
    exact .nil
/-- .. where the names come in another order -/
def kbP {α : Type} (p k : Nat) (ix : List Nat) (us ws : List α) : List α := if us.length = p ∧ ws.length = k then us ++ ix.filterMap (fun i => ws[i]?) else []
theorem kbP_len {α : Type} {p k n : Nat} {ix : List Nat} {us ws : List α} (h : (kbP p k ix us ws).length = n) (hn : 0 < n) : us.length = p ∧ ws.length = k := by
  unfold kbP at h
  by_cases c : us.length = p ∧ ws.length = k
  · exact c
  · rw [if_neg c] at h
    simp at h
    omega
theorem pick_rel {zs : List V} {ws : List Value} (b : Vals zs ws) : ∀ ix : List Nat, Vals (ix.filterMap fun i => zs[i]?) (ix.filterMap fun i => ws[i]?)
  | [] => .nil
  | i :: ix => by
    rw [List.filterMap_cons, List.filterMap_cons]
    cases e : zs[i]? with
    | none =>
      have z : ws[i]? = none := by
        rw [List.getElem?_eq_none_iff] at e ⊢
        rw [← b.length]
        exact e
      rw [z]
      exact pick_rel b ix
    | some x =>
      obtain ⟨u, e2, r⟩ := Vals.get b e
      rw [e2]
      exact .cons r (pick_rel b ix)
theorem kbP_rel {p k : Nat} {ix : List Nat} {vs : List V} {us : List Value} {zs : List V} {ws : List Value} (a : Vals vs us) (b : Vals zs ws) : Vals (kbP p k ix vs zs) (kbP p k ix us ws) := by
  unfold kbP
  rw [a.length, b.length]
  by_cases c : us.length = p ∧ ws.length = k
  · rw [if_pos c, if_pos c]
    exact a.append (pick_rel b ix)
  · rw [if_neg c, if_neg c]
    exact .nil
/-! ### what len reads; a list filtered by a number -/
abbrev rLenS (K : PySem.W.Frag) : List V → Hp → VK → Prop := fun xs H Q => ∃ p ys, xs = [V.ref p] ∧ (SqL K H p ys ∨ SqT K H p ys) ∧ Q (.int ys.length) H
theorem dec_vint (k n : Int) : decide (V.int k = V.int n) = decide (k = n) := by
  by_cases h : k = n
  · subst h
    simp
  · have : ¬ V.int k = V.int n := fun e => h (V.int.inj e)
    simp [h, this]
theorem lc_filter {K : PySem.W.Frag} {a : Addr} {val : Int → V} {ns : List Int} {n : Int} {s : Nat} {tt : TT} {σ : L2.St} {H1 : Hp} {D : Addr} {Qd : Hp → Prop} (ha : SqL K H1 a (ns.map val)) (hD : H1 D = none) (hl : ns.length < sizeLine)
    (htt : ∀ k ∈ ns, ∀ H' (Q : Bool → Hp → Prop), Same H1 H' → Q (decide (k = n)) H' → tt ((wipe σ [s]).set s (some (val k))) H' Q)
    (hw : ∀ x, wipe ((wipe σ [s]).set s (some x)) [s] = wipe σ [s]) (hg : ∀ x H' Q, Q x H' → tVar s ((wipe σ [s]).set s (some x)) H' Q)
    (hd : ∀ H', H' D = some (.lst ((ns.filter fun k => decide (k = n)).map val)) → Same H1 H' → Qd H') :
    ∃ W : Nat → Nat → Hp → Prop, (∃ m, W 0 m (upd H1 D (.lst []))) ∧ ∀ i m H, W i m H →
      ((Itl K a).stop i H ∧ Qd H) ∨ ((Itl K a).go i H ∧ ∃ Nx : Hp → Prop, (∀ H', Nx H' → ∃ m', m' < m ∧ W (i + 1) m' H') ∧ ∀ x H', (Itl K a).yld i H x H' → gName s x (wipe σ [s]) H' fun σ2 H2 => wipe σ2 [s] = wipe σ [s] ∧ tt σ2 H2 fun b H3 =>
        if b = true then tVar s σ2 H3 fun y H4 => ∃ acc, H4 D = some (.lst acc) ∧ acc.length < sizeLine ∧ Nx (upd H4 D (.lst (acc ++ [y]))) else Nx H3) := by
  refine lc_list (K := K) (a := a) (xs := ns.map val) (g := gName s) (tt := tt) (te := tVar s) (vs := [s]) (σ := σ) (fun i H' => H' D = some (.lst (((ns.take i).filter fun k => decide (k = n)).map val)) ∧ Same H1 H') ⟨upd_same, Same.new hD⟩ (fun i H' _ h => h.2.seq ha) ?_ ?_
  · rintro i x H' hi ⟨e1, e2⟩
    have hil : i < ns.length := by
      have z := (List.getElem?_eq_some_iff.mp hi).1
      rw [List.length_map] at z
      exact z
    obtain ⟨k, hk, rfl⟩ : ∃ k, ns[i]? = some k ∧ x = val k := by
      rw [List.getElem?_map, List.getElem?_eq_getElem hil] at hi
      exact ⟨_, List.getElem?_eq_getElem hil, (Option.some.inj hi).symm⟩
    refine ⟨hw _, htt k (List.mem_of_getElem? hk) H' _ e2 ?_⟩
    have et : ns.take (i + 1) = ns.take i ++ [k] := by rw [List.take_add_one, hk]; rfl
    by_cases hkn : k = n
    · rw [decide_eq_true hkn]
      refine iteT (hg _ _ _ ⟨_, e1, ?_, ?_, e2.own hD⟩)
      · rw [List.length_map]
        exact Nat.lt_of_le_of_lt (Nat.le_trans (List.length_filter_le _ _) (by rw [List.length_take]; exact Nat.min_le_right _ _)) hl
      · rw [upd_same, et, List.filter_append, List.map_append]
        simp [hkn]
    · rw [decide_eq_false hkn]
      refine iteF ⟨?_, e2⟩
      rw [e1, et, List.filter_append, List.map_append]
      simp [hkn]
  · rintro H' ⟨e1, e2⟩
    rw [List.length_map, List.take_length] at e1
    exact hd H' e1 e2
end L2
/-! Methods called in a try's body: what they raise is the clause's (the wish may name the slots). -/
namespace L2
open PySem PySem.Spec PyProof.Rows
section
variable {X : Cx} {CX : CXT} {k : Nat} {f C : Addr} {fd : FuncData} {ps ks : List Str} {sp : Sp} {E : L2.St → XK} {m : Str} {apos pos : Pos} {o e : Expr} {es : List Expr} {kws : List Keyword} {ta : TE} {t tk : TA}
variable {g : List Value → List Value → List Value} {gV : List V → List V → List V}
theorem run_kS {pins : List (Addr × Obj)} {σ : L2.St} {H : Hp} {s : Shared} {Q : VK} {us ws : List Value} {vs zs : List V} (F : FnOk X.prog X.w X.K X.mg X.base CX k f fd ps sp) (hr : Room k X.A) (hb : KBinds X.K fd ps ks g gV) (hx : PassesAt CX X σ (E σ))
    (I : Inv X pins σ H s) (r : Vals vs us) (rz : Vals zs ws) (h : sp (gV vs zs) H Q (E σ)) : wpAny (model X.prog X.w) X.A (call (.ref f) us (ks.zip ws)) (EP X pins σ Q) X.xe s := by
  have both := hb.rel r rz
  have len : (g us ws).length = ps.length := both.length.symm.trans (F.len _ _ _ _ h)
  refine wpAny_call (codeAny_mono (F.run X.A X.stack s H ⟨us, ks.zip ws⟩ (g us ws) (gV vs zs) Q (E σ) hr I.env0 (hb.to s us ws I.kIn len) both h) ?_)
  intro res s' post
  cases res with
  | error x => exact hx pins H s x s' I post
  | ok way =>
    cases way with
    | ret u => exact I.after post
    | next => cases post
    | brk => cases post
    | cont => cases post
/-- o.m(k = v, ..) in a try -/
def tMethKS (C : Addr) (m : Str) (sp : Sp) (gV : List V → List V → List V) (E : L2.St → XK) (ta : TE) (tk : TA) : TE := fun σ H Q => ta σ H fun x H1 => ∃ a dx fs, x = .ref a ∧ H1 a = some (.ins C dx fs) ∧ fs.lookup m = none ∧
  tk σ H1 fun zs H2 => sp (gV [x] zs) H2 Q (E σ)
theorem pe_methKS {pl : Sem Bool} (he : PE X o ta) (c : Cls X.K C) (hm : Meth X.K C m f) (F : FnOk X.prog X.w X.K X.mg X.base CX k f fd ps sp) (hr : Room k X.A) (hb : KBinds X.K fd ps ks g gV) (hx : ∀ σ, PassesAt CX X σ (E σ))
    (hkw : PK X kws tk) (hall : (backToKw pos (keywordEach kws X.env)).all (·.1.isSome) = true := by rfl) (hks : (backToKw pos (keywordEach kws X.env)).filterMap (·.1) = ks := by rfl)
    (hpl : ((backTo pos (starEach [] X.env)).any (·.1) || (backToKw pos (keywordEach kws X.env)).any (·.1.isNone)) = false := by rfl)
    (ht : eval (.Call (.Attribute o m apos) [] kws pos) X.env = (do
      let ov ← eval o X.env
      standAt apos.atName
      let (f, first) ← holding [ov] (getMethod ov m pl)
      callWith pos f first (backTo pos (starEach [] X.env)) (backToKw pos (keywordEach kws X.env))) := by rfl) :
    PE X (.Call (.Attribute o m apos) [] kws pos) (tMethKS C m sp gV E ta tk) := by
  refine ⟨fun pins s σ H Q I h => ?_⟩
  refine PySem.W.methodCall_KW (pl := pl) (thn (he.run pins s σ H _ I h) ?_) ht
  rintro u s1 ⟨x, H1, I1, rx, a, dx, fs, rfl, ea, no, q⟩
  obtain rfl : u = Value.ref a := rx
  refine getmeth_ok I1 ea c hm no ?_
  refine PySem.W.callWith_KW0 (first := [.ref a]) (h₀ := X.base) I.ok.mod.kin hm.kp hall ?_ hpl
  refine thn (hkw.run pos pins s1 σ H1 _ I1 q) ?_
  rintro ws s2 ⟨zs, H2, I2, rz, q2⟩
  refine ⟨I2.kIn, ?_⟩
  rw [hks]
  exact run_kS (us := [.ref a]) (vs := [.ref a]) F hr hb (hx σ) I2 (.cons rfl .nil) rz q2
/-- o.m(e, ..) in a try -/
def tMethPS (C : Addr) (m : Str) (sp : Sp) (E : L2.St → XK) (ta : TE) (t : TA) : TE := fun σ H Q => ta σ H fun x H1 => ∃ a dx fs, x = .ref a ∧ H1 a = some (.ins C dx fs) ∧ fs.lookup m = none ∧
  t σ H1 fun vs H2 => sp (x :: vs) H2 Q (E σ)
theorem pe_methPS {pl : Sem Bool} (he : PE X o ta) (c : Cls X.K C) (hm : Meth X.K C m f) (F : FnOk X.prog X.w X.K X.mg X.base CX k f fd ps sp) (hr : Room k X.A) (hb : Binds X.K fd ps []) (hx : ∀ σ, PassesAt CX X σ (E σ)) (ha : PA X (e :: es) t)
    (hst : starEach (e :: es) X.env = (false, eval e X.env) :: starEach es X.env := by rfl) (hpl : (backTo pos (starEach es X.env)).any (·.1) = false := by rfl)
    (ht : eval (.Call (.Attribute o m apos) (e :: es) [] pos) X.env = (do
      let ov ← eval o X.env
      standAt apos.atName
      let (f, first) ← holding [ov] (getMethod ov m pl)
      callWith pos f first (backTo pos (starEach (e :: es) X.env)) (backToKw pos (keywordEach [] X.env))) := by rfl) :
    PE X (.Call (.Attribute o m apos) (e :: es) [] pos) (tMethPS C m sp E ta t) := by
  refine ⟨fun pins s σ H Q I h => ?_⟩
  refine PySem.W.methodCall_KW (pl := pl) (thn (he.run pins s σ H _ I h) ?_) ht
  rintro u s1 ⟨x, H1, I1, rx, a, dx, fs, rfl, ea, no, q⟩
  obtain rfl : u = Value.ref a := rx
  refine getmeth_ok I1 ea c hm no ?_
  refine PySem.W.callWith_K (first := [.ref a]) (h₀ := X.base) I.ok.mod.kin hm.kp (thn (ha.run pos pins s1 σ H1 _ I1 q) ?_) hst hpl
  rintro us s2 ⟨vs, H2, I2, r, q2⟩
  exact ⟨I2.kIn, run_fnS (us := .ref a :: us) (vs := .ref a :: vs) F hr hb (hx σ) I2 (.cons rfl r) q2⟩
end
end L2
/-! Promises for calls in which nobody is being shown yet (no guard of repr stands around): what repr needs. Defs on the way from the law to a repr are of this kind. -/
namespace L2
open PySem PySem.Spec PyProof.Rows
/-- as FnOk, for calls with no guard around -/
structure FnG (P : Program) (w : World) (K : PySem.W.Frag) (mg : Str → Option Value) (base : Heap) (CX : CXT) (k : Nat) (f : Addr) (fd : FuncData) (ps : List Str) (sp : Sp) : Prop where
  len : ∀ vs H Q E, sp vs H Q E → vs.length = ps.length
  run : ∀ (A : Around) (outer : List Env) (s : Shared) (H : Hp) (args : Args) (us : List Value) (vs : List V) (Q : VK) (E : XK), A.guards = some [] → Room k A → Env0 P w K mg base A outer s H → BindsTo s fd args (ps.zip us) → Vals vs us → sp vs H Q E →
    codeAny (model P w) A (.call (.ref f) args) (CR CX outer P w H s Q E) s
theorem FnOk.g {P : Program} {w : World} {K : PySem.W.Frag} {mg : Str → Option Value} {base : Heap} {CX : CXT} {k : Nat} {f : Addr} {fd : FuncData} {ps : List Str} {sp : Sp} (F : FnOk P w K mg base CX k f fd ps sp) : FnG P w K mg base CX k f fd ps sp :=
  ⟨F.len, fun A outer s H args us vs Q E _ => F.run A outer s H args us vs Q E⟩
section
variable {P : Program} {w : World} {K : PySem.W.Frag} {mg : Str → Option Value} {base : Heap}
/-- a def's body, walked where no guard stands -/
theorem Fun.okG {x qual : Str} {st : Stmt} {f : Addr} {fd : FuncData} {N ps : List Str} {k : Nat} {sp : Sp} (F : Fun K x qual st f fd) (S : FnScope N ps (defScope st)) (len : ∀ vs H Q E, sp vs H Q E → vs.length = ps.length)
    (walk : ∀ (cdv : Value) (A : Around) (outer : List Env) (s : Shared) (H : Hp) (vs : List V) (Q : VK) (E : XK), (A.deeper (envOfC qual (defScope st) s.heap.objs.size f cdv)).guards = some [] → Room k (A.deeper (envOfC qual (defScope st) s.heap.objs.size f cdv)) → sp vs H Q E →
      ∃ t, PSs (cxOf CX0 P w K mg base N qual (defScope st) f cdv A outer s H E).nox (defBody st) t ∧ t { nx := fun _ H' => Q .non H', rt := Q } (start N vs) H) : FnG P w K mg base CX0 (k + 1) f fd ps sp := by
  obtain ⟨oc, od, kV, doc, pm, an, cdv, ct, osl, rfl, at1, code⟩ := F.ex
  refine ⟨len, ?_⟩
  intro A outer s H args us vs Q E gd room env bind rel want
  have long := len _ _ _ _ want
  have keepAll : ∀ (b : Addr) (o : Obj), base.get? b = some o → s.heap.get? b = some o := fun b o e => (env.bs b o e).1
  have frag := env.mod.kin.keeps keepAll
  obtain ⟨t, terms, read⟩ := walk cdv A outer s H vs Q E gd (room.deeper _) want
  have kinds : ∀ y ∈ ps.zip us, (defScope st).names.lookup y.1 = some .local ∨ ((defScope st).names.lookup y.1 = some .cell ∧ ((cellsFrom (s.heap.objs.size + 1) (defScope st).names []).lookup y.1).isSome = true) := by
    rintro ⟨n, v⟩ hy
    exact (S.par n (List.of_mem_zip hy).1).imp id fun c => ⟨c, PySem.W.cellsFrom_some _ _ _ (.inl c)⟩
  refine codeAny_call_function room.depth (frag _ _ at1) rfl S.co S.gen rfl (PySem.W.codeRec_of frag code) (bind _ _ _ _ (wpAny_newFunctionEnv_cells S.kind kinds ?_))
  rintro _ rfl s1 made
  refine ⟨(env.mod.nolimit.keeps keepAll).keeps made.toInCall.keep, codeAny_func ?_⟩
  have inv := inv_start (P := P) (E := E) (CX := CX0) S room.hd env long rel made
  refine wpAny_mono (terms.nox.run [] s1 (start N vs) H _ inv read) ?_ fun e s' hs => hs
  intro way s' hs
  cases way with
  | ret u =>
    obtain ⟨v, σ', H', J, rv, q⟩ := hs
    exact ⟨v, H', J.os, J.bare, J.base, J.hok, rv, q⟩
  | next =>
    obtain ⟨σ', H', J, q⟩ := hs
    exact ⟨V.non, H', J.os, J.bare, J.base, J.hok, rfl, q⟩
  | brk => exact hs.elim fun _ h => h.elim fun _ h => h.2.elim
  | cont => exact hs.elim fun _ h => h.elim fun _ h => h.2.elim
end
section
variable {X : Cx} {CX : CXT} {k : Nat} {f : Addr} {fd : FuncData} {ps : List Str} {sp : Sp} {dvs : List V} {ds : List Value} {E : XK} {x : Str} {p pos : Pos} {e : Expr} {es : List Expr} {t : TA}
theorem run_fnG {pins : List (Addr × Obj)} {σ : L2.St} {H : Hp} {s : Shared} {Q : VK} {us : List Value} {vs : List V} (gd : X.A.guards = some []) (F : FnG X.prog X.w X.K X.mg X.base CX k f fd ps sp) (hr : Room k X.A) (hb : Binds X.K fd ps ds) (hd : Vals dvs ds) (hx : Passes CX X E)
    (I : Inv X pins σ H s) (r : Vals vs us) (h : sp (vs ++ dvs) H Q E) : wpAny (model X.prog X.w) X.A (call (.ref f) us) (EP X pins σ Q) X.xe s := by
  have both : Vals (vs ++ dvs) (us ++ ds) := r.append hd
  have len : (us ++ ds).length = ps.length := both.length.symm.trans (F.len _ _ _ _ h)
  refine wpAny_call (codeAny_mono (F.run X.A X.stack s H ⟨us, []⟩ (us ++ ds) (vs ++ dvs) Q E gd hr I.env0 (hb s us I.kIn len) both h) ?_)
  intro res s' post
  cases res with
  | error z => exact hx pins σ H s z s' I post
  | ok way =>
    cases way with
    | ret u => exact I.after post
    | next => cases post
    | brk => cases post
    | cont => cases post
theorem pe_callG (gd : X.A.guards = some []) (F : FnG X.prog X.w X.K X.mg X.base CX k f fd ps sp) (hr : Room k X.A) (hg : Gl X x) (hm : X.mg x = some (.ref f)) (hk : PySem.W.keepIn X.K (.ref f) = true) (hb : Binds X.K fd ps ds) (hd : Vals dvs ds) (hx : Passes CX X E)
    (ha : PA X (e :: es) t) (hdb : (x == ("__debug__" : Str)) = false := by decide) (he : starEach (e :: es) X.env = (false, eval e X.env) :: starEach es X.env := by rfl) (hpl : (backTo pos (starEach es X.env)).any (·.1) = false := by rfl) :
    PE X (.Call (.Name x p) (e :: es) [] pos) (tCall sp dvs E t) := by
  refine ⟨fun pins s σ H Q I h => ?_⟩
  refine wpAny_Call_Name_kw (ld_glob I hg hm ?_ hdb)
  refine PySem.W.callWith_K (h₀ := X.base) I.ok.mod.kin hk (thn (ha.run pos pins s σ H _ I h) ?_) he hpl
  rintro us s1 ⟨vs, H1, I1, r, q⟩
  exact ⟨I1.kIn, run_fnG gd F hr hb hd hx I1 r q⟩
/-! ### repr of data -/
def rRepr (K : PySem.W.Frag) : List V → Hp → VK → Prop := fun xs H Q => ∃ (a : Addr) (d : PyData), xs = [.ref a] ∧ Dp K H (.ref a) d ∧ d.showable = true ∧ d.hasDict = false ∧ d.shown.length ≤ sizeLine ∧ d.depth ≤ 60 ∧ Q (.str d.shown) H
theorem call_reprD (gd : X.A.guards = some []) (hu : X.A.units + 64 < cLine) : CallR X (.builtin "repr") (rRepr X.K) := by
  intro pins s σ H xs us Q I r h
  obtain ⟨a, d, rfl, hd, h1, h2, h3, h4, q⟩ := h
  rw [Vals.ref1 r]
  obtain ⟨as, rd⟩ := Dp.reads I d (.ref a) (.ref a) hd rfl
  refine PySem.repr_of_reads' rd h1 (fun z => by rw [h2] at z; cases z) gd (by omega) (fun _ _ e => e) (fun h' u tk hk => ?_) h3
  exact ⟨.str d.shown, H, I.kept hk, ⟨u, rfl⟩, q⟩
end
end L2
/-! The end for laws whose defs are of the kind FnG (LibG). -/
namespace L2
open PySem PySem.Spec PyProof.Rows
/-- all that H tracks is the script at a, which is known to the object -/
def Lone (a : Addr) (H : Hp) : Prop := ∀ b u, H b = some u → b = a ∧ ∃ o xs, u = .frz o (.lst xs)
theorem Lone.only {a : Addr} {H : Hp} (h : Lone a H) : Only H := fun b => by
  cases e : H b with
  | none => exact .inl rfl
  | some u =>
    obtain ⟨_, o, xs, rfl⟩ := h b u e
    exact .inr ⟨o, xs, rfl⟩
section
variable {P : Program} {w : World} {K : PySem.W.Frag} {mg mb : Str → Option Value} {a : Addr} {s : Shared} {vs : List Value}
/-- the ground under a law's call: what is not the script is base -/
theorem ground_of (frag : K.In s.heap) (names : s.heap.Ns mainGlobals mg) (blt : s.heap.Ns builtinsNs mb) (blts : ∀ x : Str, x ≠ "__name__" → mb x = bootBuiltins x) (lim : s.heap.NoLimit) (gens : s.gens = #[])
    (at_a : s.heap.get? a = some { cls := .type "list", data := .seq vs.toArray }) {H : Hp} (lone : Lone a H) (own : H a ≠ none → K.lookup a = none) (ok : HOk P w H s.heap) :
    K.In (hidT s.heap H) ∧ (hidT s.heap H).Ns mainGlobals mg ∧ Env0 P w K mg (hidT s.heap H) callerA [] s H := by
  have untracked : ∀ {b : Addr} {o : Obj}, s.heap.get? b = some o → (b = a → o ≠ { cls := .type "list", data := .seq vs.toArray }) → H b = none := by
    intro b o e d
    cases q : H b with
    | none => rfl
    | some u =>
      obtain ⟨rfl, _⟩ := lone b u q
      rw [at_a] at e
      exact absurd (Option.some.inj e).symm (d rfl)
  have spaces : ∀ {b : Addr} {m : Str → Option Value}, s.heap.Ns b m → (hidT s.heap H).Ns b m := by
    rintro b m ⟨o, es, ep, e, d, r⟩
    refine ⟨o, es, ep, hidT_get e (untracked e fun _ z => ?_), d, r⟩
    rw [z] at d
    have d' : Data.seq vs.toArray _ = Data.dict es ep := d
    cases d'
  have within : K.In (hidT s.heap H) := fun b o e => by
    refine hidT_get (frag b o e) ?_
    cases q : H b with
    | none => rfl
    | some u =>
      obtain ⟨rfl, _⟩ := lone b u q
      rw [own (by rw [q]; intro z; cases z)] at e
      cases e
  obtain ⟨ml, l1, l2⟩ := lim
  refine ⟨within, spaces names, rfl, ⟨within, spaces names, ⟨mb, spaces blt, blts⟩, ml, spaces l1, l2⟩, fun b o e => of_hidT e, Nat.le_of_eq (hidT_size _ _), trivial, ?_, ok, .of_eq gens⟩
  intro b hb
  exact (List.not_mem_nil (show b ∈ ([] : List Addr) from hb)).elim
/-- behind the call all that stood stands -/
theorem end_of {H : Hp} {r : Result} {s' : Shared} {CX : CXT} (lone : Lone a H) (ok : HOk P w H s.heap) (raise : ∀ e s', CX [] H s (fun _ _ _ => False) e s' → False)
    (post : CR CX [] P w H s (fun v _ => v = .bl true) (fun _ _ _ => False) r s') : r = .ok (.ret (.bool true)) ∧ OldK s.heap s'.heap ∧ s'.os = s.os ∧ AllBare s'.gens := by
  cases r with
  | error e => exact (raise e s' post).elim
  | ok way =>
    cases way with
    | next => cases post
    | brk => cases post
    | cont => cases post
    | ret u =>
      obtain ⟨v, H', os, bare, un, ok', rel, rfl⟩ := post
      obtain rfl : u = Value.bool true := rel
      refine ⟨rfl, OldK.of_keep ?_, os, bare⟩
      intro b o e
      cases q : H b with
      | none => exact un.keep b o e q (fun z => (List.not_mem_nil (show b ∈ ([] : List Addr) from z)).elim) (fun z => (List.not_mem_nil z).elim)
      | some x =>
        obtain ⟨_, ob, xs, rfl⟩ := lone b x q
        obtain ⟨before, _⟩ := ok b _ q
        obtain ⟨behind, _⟩ := ok' b _ (un.frzs b ob _ q)
        rw [before] at e
        rw [behind]
        exact e
theorem law_callG {CX : CXT} {k : Nat} {fa : Addr} {fd : FuncData} {x : Str} {sp : Sp} {ns : List Int} (frag : K.In s.heap) (names : s.heap.Ns mainGlobals mg) (blt : s.heap.Ns builtinsNs mb) (blts : ∀ x : Str, x ≠ "__name__" → mb x = bootBuiltins x) (lim : s.heap.NoLimit) (gens : s.gens = #[])
    (at_a : s.heap.get? a = some { cls := .type "list", data := .seq vs.toArray }) (all_int : IntsAre vs ns) (short : ns.length ≤ sizeLine) (room : Room k callerA)
    (F : ∀ base : Heap, K.In base → base.Ns mainGlobals mg → FnG P w K mg base CX k fa fd [x] sp) (bind : ∀ (s : Shared) (u : Value), BindsTo s fd ⟨[u], []⟩ [(x, u)])
    (want : ∀ H : Hp, Only H → SqL K H a (ns.map V.int) → sp [.ref a] H (fun v _ => v = .bl true) fun _ _ _ => False) (raise : ∀ H e s', CX [] H s (fun _ _ _ => False) e s' → False) :
    codeAny (model P w) callerA (.call (.ref fa) ⟨[.ref a], []⟩) (fun r s' => r = .ok (.ret (.bool true)) ∧ OldK s.heap s'.heap ∧ s'.os = s.os ∧ AllBare s'.gens) s := by
  have rel := vals_ints all_int
  have go : ∀ H : Hp, Lone a H → (H a ≠ none → K.lookup a = none) → HOk P w H s.heap → SqL K H a (ns.map V.int) →
      codeAny (model P w) callerA (.call (.ref fa) ⟨[.ref a], []⟩) (fun r s' => r = .ok (.ret (.bool true)) ∧ OldK s.heap s'.heap ∧ s'.os = s.os ∧ AllBare s'.gens) s := by
    intro H lone own ok script
    obtain ⟨g1, g2, env⟩ := ground_of frag names blt blts lim gens at_a lone own ok
    exact codeAny_mono ((F _ g1 g2).run callerA [] s H ⟨[.ref a], []⟩ [.ref a] [.ref a] _ _ rfl room env (bind s (.ref a)) (.cons rfl .nil) (want H lone.only script)) fun r s' post => end_of lone ok (raise H) post
  cases known : K.lookup a with
  | some o =>
    have here := frag a o known
    rw [at_a] at here
    cases here
    refine go (fun _ => none) (fun b u z => nomatch z) (fun z => absurd rfl z) (fun b u z => nomatch z) (.inr ⟨_, vs.toArray, _, known, rfl, rfl, rfl, ?_, rel⟩)
    rw [List.size_toArray, all_int.length]
    exact short
  | none =>
    let H : Hp := upd (fun _ => none) a (.frz { cls := .type "list", data := .seq vs.toArray } (.lst (ns.map V.int)))
    have here : H a = some (.frz { cls := .type "list", data := .seq vs.toArray } (.lst (ns.map V.int))) := upd_same
    have one : ∀ b u, H b = some u → b = a ∧ u = .frz { cls := .type "list", data := .seq vs.toArray } (.lst (ns.map V.int)) := by
      intro b u z
      by_cases c : b = a
      · subst c
        rw [here] at z
        exact ⟨rfl, (Option.some.inj z).symm⟩
      · have z' : (upd (fun _ => none) a _ : Hp) b = some u := z
        rw [upd_ne c] at z'
        cases z'
    refine go H (fun b u z => ⟨(one b u z).1, _, _, (one b u z).2⟩) (fun _ => known) (fun b u z => ?_) (.inl (.inr ⟨_, here⟩))
    obtain ⟨rfl, rfl⟩ := one b u z
    exact ⟨at_a, by rw [List.length_map]; exact short, vs, _, rel, at_a⟩
end
theorem walk_ofG {l : PySem.W.OpenLaw} {n k : Nat} {q : Program} {loose : List Str} {XP : (Str → Option Value) → Heap → Prop} {YP : World → Heap → Prop} {d : DefRec} {K : Params → PySem.W.Frag} {CX : World → CXT} {sp : World → Sp} {x : Str}
    (most : l.most = some n) (short : n ≤ sizeLine) (plain : d.params.defaults = []) (room : Room k callerA) (frag : ∀ (w : World) (h : Heap), YP w h → (K w.params).In h)
    (F : ∀ (w : World) (mg : Str → Option Value) (fa : Addr) (h : Heap), (K w.params).In h → h.Ns mainGlobals mg → mg d.name = some (.ref fa) →
      ∃ fd : FuncData, (∀ (s : Shared) (u : Value), BindsTo s fd ⟨[u], []⟩ [(x, u)]) ∧ ∀ base : Heap, (K w.params).In base → base.Ns mainGlobals mg → FnG l.prog w (K w.params) mg base (CX w) k fa fd [x] (sp w))
    (want : ∀ (w : World) (H : Hp) (a : Addr) (ns : List Int), ns.length ≤ n → Only H → SqL (K w.params) H a (ns.map V.int) → sp w [.ref a] H (fun v _ => v = .bl true) fun _ _ _ => False)
    (raise : ∀ (w : World) (H : Hp) (s : Shared) (e : Value) (s' : Shared), CX w [] H s (fun _ _ _ => False) e s' → False) : PySem.W.WalkO q loose XP YP l.row.toRowW d [] (fun f vs => PySem.call f vs) := by
  refine Att.attach_call most plain ?_
  intro w s₀ s₁ mg mb fa o pm cd doc a vs ns G Y _ _ _ named script all_int len gens
  obtain ⟨fd, bind, fn⟩ := F w mg fa _ (frag w _ Y) G.T.g named
  exact law_callG (frag w _ Y) G.T.g G.T.b G.T.builtins G.T.nolimit gens script all_int (Nat.le_trans len short) room fn bind (fun H only sq => want w H a ns len only sq) fun H e s' => raise w H s₁ e s'
end L2
/-! len(x), bool(x) of instances whose class has a def __len__, __bool__. -/
namespace OwnX
open PySem PySem.W
section
variable {prog : Program} {w : World} {A : Around} {E : Value → Shared → Prop} {s : Shared} {K : Frag} {a C f : Addr} {ox : Obj} {od : Option Obj}
/-- a special def of the instance's class, called with the instance alone -/
theorem special_def {name : Str} {Q : Option Value → Shared → Prop} (X : K.In s.heap) (I : InstAt s.heap a ox C od) (found : findIn K (.ref C) name = some (some (.ref f))) (fn : isFn K (.ref f) = true)
    (go : wpAny (model prog w) A (call (.ref f) [.ref a]) (fun v s' => Q (some v) s') E s) : wpAny (model prog w) A (callSpecial? (.ref a) name) Q E s := by
  unfold callSpecial? specialOf
  refine wpAny_bind (wpAny_bind (I.type.here ((looks_findIn X found).here ?_)))
  refine wpAny_holding (wpAny_bind ?_)
  unfold bindSpecial
  refine wpAny_bind ((looks_typeIn X (beq_iff_eq.mp fn)).here ?_)
  rw [if_pos (by decide)]
  exact wpAny_pure (wpAny_bind (wpAny_mono go (fun v s' h => wpAny_pure h) fun _ _ h => h))
theorem len_def {Q : Value → Shared → Prop} (X : K.In s.heap) (I : InstAt s.heap a ox C od) (found : findIn K (.ref C) "__len__" = some (some (.ref f))) (fn : isFn K (.ref f) = true)
    (go : wpAny (model prog w) A.in1 (call (.ref f) [.ref a]) (fun r s' => ∃ n u, r = .int n u ∧ 0 ≤ n ∧ n < 2 ^ 63 ∧ Q (.int n s'.toks) { s' with toks := s'.toks + 1 }) E s) :
    wpAny (model prog w) A (call (.builtin "len") [.ref a]) Q E s := by
  refine Calls.call_function_entry kind_len plain_len entry_len (args_len1 _) ?_
  unfold Builtin.«len»
  refine wpAny_bind (m := oneArg "len" _) (wpAny_pure ?_)
  refine wpAny_bind (m := callSpecial? (.ref a) (Str.ofString "__len__")) (special_def X I found fn (wpAny_mono go ?_ fun _ _ y => y))
  rintro r s' ⟨n, u, rfl, low, high, q⟩
  refine wpAny_bind (wpAny_holding (wpAny_pure (wpAny_bind (wpAny_letGo ?_))))
  show wpAny _ _ (if n < 0 then _ else _) _ _ _
  rw [if_neg (by omega)]
  show wpAny _ _ (if n ≥ 2 ^ 63 then _ else _) _ _ _
  rw [if_neg (by omega)]
  exact wpAny_bind (wpAny_mkInt (wpAny_pure ⟨_, rfl, q⟩))
theorem truthy_def {Q : Bool → Shared → Prop} (X : K.In s.heap) (I : InstAt s.heap a ox C od) (found : findIn K (.ref C) "__bool__" = some (some (.ref f))) (fn : isFn K (.ref f) = true)
    (go : wpAny (model prog w) A (call (.ref f) [.ref a]) (fun r s' => ∃ b, r = .bool b ∧ Q b s') E s) : wpAny (model prog w) A (truthy (.ref a)) Q E s := by
  unfold truthy
  refine wpAny_bind (m := callSpecial? (.ref a) (Str.ofString "__bool__")) (special_def X I found fn (wpAny_mono go ?_ fun _ _ y => y))
  rintro r s' ⟨b, rfl, q⟩
  exact wpAny_pure q
theorem bool_def {Q : Value → Shared → Prop} (X : K.In s.heap) (I : InstAt s.heap a ox C od) (found : findIn K (.ref C) "__bool__" = some (some (.ref f))) (fn : isFn K (.ref f) = true)
    (go : wpAny (model prog w) A.in1.in1 (call (.ref f) [.ref a]) (fun r s' => ∃ b, r = .bool b ∧ Q (.bool b) s') E s) : wpAny (model prog w) A (call (.type "bool") [.ref a]) Q E s := by
  refine callType_newIn (S := fun A' R s' => K.In s'.heap ∧ InstAt s'.heap a ox C od ∧ wpAny (model prog w) A'.in1 (call (.ref f) [.ref a]) (fun r s' => ∃ b, r = .bool b ∧ R (.ok (.ret (.bool b))) s') (fun e s' => R (.error e) s') s')
    F.called_bool F.newNe_bool (F.typeCall_bool_1 _) (F.newCall_bool_1 _) (fun obj => F.args_object_init_2 obj _) F.entry_bool_new ?_ ⟨X, I, wpAny_mono go ?_ fun _ _ y => y⟩
  · refine MeetsIn.of_wp ?_
    rintro A' R ⟨hp, g, d, tk, os⟩ ⟨X', I', go'⟩
    have f1 := F.conv_sub_bool
    unfold Builtin.«bool.__new__»
    repeat (any_goals (first | assumption | with_reducible (refine truthy_def X' I' found fn (wpAny_mono go' ?_ fun _ _ y => y)) | wp_step))
    rintro v s' ⟨b, e, q⟩
    exact ⟨b, e, wpAny_pure ⟨_, rfl, q⟩⟩
  · rintro r s' ⟨b, rfl, q⟩
    exact ⟨b, rfl, ⟨rfl, q⟩⟩
end
end OwnX
namespace L2
open PySem PySem.Spec PyProof.Rows
section
variable {X : Cx} {CX : CXT} {k : Nat} {C f : Addr} {fd : FuncData} {ps : List Str} {sp : Sp} {E : XK}
/-- a def run with the instance alone, somewhat deeper -/
theorem run_one {A' : Around} {pins : List (Addr × Obj)} {σ : L2.St} {H : Hp} {s : Shared} {Q : VK} {a : Addr} (F : FnOk X.prog X.w X.K X.mg X.base CX k f fd ps sp) (room : Room k A') (same : A'.frames = X.A.frames) (hb : Binds X.K fd ps []) (hx : Passes CX X E)
    (I : Inv X pins σ H s) (h : sp [.ref a] H Q E) : wpAny (model X.prog X.w) A' (call (.ref f) [.ref a]) (EP X pins σ Q) X.xe s := by
  have env := I.env0
  have env' : Env0 X.prog X.w X.K X.mg X.base A' X.stack s H := ⟨by rw [same]; exact env.frames, env.mod, env.bs, env.bsz, env.funs, env.frf, env.hok, env.bare⟩
  have len := F.len _ _ _ _ h
  have bind := hb s [.ref a] I.kIn (by simpa using len)
  refine wpAny_call (codeAny_mono (F.run A' X.stack s H ⟨[.ref a], []⟩ [.ref a] [.ref a] Q E room env' (by simpa using bind) (.cons rfl .nil) h) ?_)
  intro res s' post
  cases res with
  | error z => exact hx pins σ H s z s' I post
  | ok way =>
    cases way with
    | ret u => exact I.after post
    | next => cases post
    | brk => cases post
    | cont => cases post
/-- len(x): the class's own __len__ -/
def rLenO (C : Addr) (sp : Sp) (E : XK) : List V → Hp → VK → Prop := fun xs H Q => ∃ a dx fs, xs = [.ref a] ∧ H a = some (.ins C dx fs) ∧ sp [.ref a] H (fun v H' => ∃ n : Int, v = .int n ∧ 0 ≤ n ∧ n < 2 ^ 63 ∧ Q (.int n) H') E
theorem call_lenO (F : FnOk X.prog X.w X.K X.mg X.base CX k f fd ps sp) (hr : Room (k + 1) X.A) (found : PySem.W.findIn X.K (.ref C) "__len__" = some (some (.ref f))) (fn : PySem.W.isFn X.K (.ref f) = true) (hb : Binds X.K fd ps []) (hx : Passes CX X E) :
    CallR X (.builtin "len") (rLenO C sp E) := by
  intro pins s σ H xs us Q I r h
  obtain ⟨a, dx, fs, rfl, at_a, q⟩ := h
  rw [Vals.ref1 r]
  obtain ⟨mA, O, _⟩ := ins_get I.hok at_a
  obtain ⟨od, J, _⟩ := O.look
  refine OwnX.len_def I.kIn J found fn (wpAny_mono (run_one F hr.in1 rfl hb hx I q) ?_ fun _ _ y => y)
  rintro v s' ⟨x, H1, I1, rv, n, rfl, low, high, q1⟩
  obtain ⟨t, rfl⟩ := rv
  exact ⟨n, t, rfl, low, high, .int n, H1, I1.tok _, ⟨_, rfl⟩, q1⟩
/-- bool(x): the class's own __bool__ -/
def rBoolO (C : Addr) (sp : Sp) (E : XK) : List V → Hp → VK → Prop := fun xs H Q => ∃ a dx fs, xs = [.ref a] ∧ H a = some (.ins C dx fs) ∧ sp [.ref a] H (fun v H' => ∃ b : Bool, v = .bl b ∧ Q (.bl b) H') E
theorem call_boolO (F : FnOk X.prog X.w X.K X.mg X.base CX k f fd ps sp) (hr : Room (k + 2) X.A) (found : PySem.W.findIn X.K (.ref C) "__bool__" = some (some (.ref f))) (fn : PySem.W.isFn X.K (.ref f) = true) (hb : Binds X.K fd ps []) (hx : Passes CX X E) :
    CallR X (.type "bool") (rBoolO C sp E) := by
  intro pins s σ H xs us Q I r h
  obtain ⟨a, dx, fs, rfl, at_a, q⟩ := h
  rw [Vals.ref1 r]
  obtain ⟨mA, O, _⟩ := ins_get I.hok at_a
  obtain ⟨od, J, _⟩ := O.look
  refine OwnX.bool_def I.kIn J found fn (wpAny_mono (run_one F hr.in1.in1 rfl hb hx I q) ?_ fun _ _ y => y)
  rintro v s' ⟨x, H1, I1, rv, b, rfl, q1⟩
  cases rv
  exact ⟨b, rfl, .bl b, H1, I1, rfl, q1⟩
end
end L2
/-! repr(x) of data of any kind (the empty dict too); t.index(x) of data. -/
namespace L2
open PySem PySem.Spec PyProof.Rows
/-- v reads as d; the empty dict too -/
def DpR (K : PySem.W.Frag) (H : Hp) (v : V) (d : PyData) : Prop := Dp K H v d ∨ (d = .dict [] ∧ ∃ a, v = .ref a ∧ Rd H a (.dK []))
def rReprV (K : PySem.W.Frag) : List V → Hp → VK → Prop := fun xs H Q => ∃ (v : V) (d : PyData), xs = [v] ∧ DpR K H v d ∧ d.showable = true ∧ (d = .dict [] ∨ d.hasDict = false) ∧ d.shown.length ≤ sizeLine ∧ d.depth ≤ 60 ∧ Q (.str d.shown) H
section
variable {X : Cx}
theorem call_reprV (gd : X.A.guards = some []) (hu : X.A.units + 64 < cLine) : CallR X (.builtin "repr") (rReprV X.K) := by
  intro pins s σ H xs us Q I r h
  obtain ⟨v, d, rfl, hd, h1, h2, h3, h4, q⟩ := h
  obtain ⟨u, rfl, ru⟩ := vals1 r
  have ans : ∀ (h' : Heap) (tk : Nat) (t : Tok), (∀ b o, s.heap.get? b = some o → h'.get? b = some o) → EP X pins σ Q (.str d.shown t) { s with heap := h', toks := tk } := fun h' tk t k => ⟨.str d.shown, H, I.kept k, ⟨t, rfl⟩, q⟩
  rcases hd with hd | ⟨rfl, a, rfl, ha⟩
  · have nod : d.hasDict = false := by
      rcases h2 with rfl | h2
      · cases hd
      · exact h2
    cases hd with
    | non =>
      cases ru
      exact P.repr_of_none (ans s.heap _ _ fun _ _ e => e)
    | bl b =>
      cases ru
      exact P.repr_of_bool (ans s.heap _ _ fun _ _ e => e)
    | int i =>
      obtain ⟨t, rfl⟩ := ru
      exact P.repr_of_int (of_decide_eq_true (by simpa [PyData.showable] using h1)) (ans s.heap _ _ fun _ _ e => e)
    | str x =>
      obtain ⟨t, rfl⟩ := ru
      exact P.repr_of_str (ans s.heap _ _ fun _ _ e => e) (hsz := h3)
    | lst hs ha =>
      cases ru
      obtain ⟨as, rd⟩ := Dp.reads I _ _ _ (.lst hs ha) rfl
      exact PySem.repr_of_reads' rd h1 (fun z => by rw [nod] at z; cases z) gd (by omega) (fun _ _ e => e) (fun h' u tk hk => ans h' tk u hk) h3
    | tup hs ha =>
      cases ru
      obtain ⟨as, rd⟩ := Dp.reads I _ _ _ (.tup hs ha) rfl
      exact PySem.repr_of_reads' rd h1 (fun z => by rw [nod] at z; cases z) gd (by omega) (fun _ _ e => e) (fun h' u tk hk => ans h' tk u hk) h3
  · cases ru
    obtain ⟨z, lo, vs, rel, dd⟩ := dk_rd I.hok ha
    obtain ⟨ep, hat⟩ := dd.dictAt
    have none_in : vs = [] := by
      cases rel
      rfl
    subst none_in
    obtain ⟨o, es, at_a, ex, data, _, pairs, _⟩ := hat
    have empty : es.toList = [] := by
      cases e : es.toList with
      | nil => rfl
      | cons x y =>
        rw [e] at pairs
        cases pairs
    have rd : Reads s.heap (.ref a) (.dict []) ([a] ++ []) := Reads.dict (kvs := []) at_a ex.1 data (by rw [empty]; exact .nil) (by rw [empty]; exact .nil)
    exact PySem.repr_of_reads' rd h1 (fun _ z => by simp at z; rw [z] at lo; simp at lo) gd (by omega) (fun _ _ e => e) (fun h' u tk hk => ans h' tk u hk) h3
/-! ### t.index(x) -/
def rTIndexD (K : PySem.W.Frag) : V → List V → Hp → VK → Prop := fun x vs H Q => ∃ (a : Addr) (xs : List V) (ds : List PyData) (y : V) (d : PyData) (j : Nat), x = .ref a ∧ vs = [y] ∧ SqT K H a xs ∧ DpAll K H xs ds ∧ Dp K H y d ∧
  SeqAt.shaped (.tuple ds) = true ∧ SeqAt.shaped d = true ∧ SeqAt.dataPlace ds d = some j ∧ Q (.int j) H
theorem idxOf_place (ds : List PyData) (d : PyData) {j : Nat} (h : SeqAt.dataPlace ds d = some j) : true ∈ ds.map (fun z => PyData.eqv z d) ∧ (ds.map fun z => PyData.eqv z d).idxOf true = j := by
  unfold SeqAt.dataPlace at h
  induction ds generalizing j with
  | nil => simp at h
  | cons a r ih =>
    rw [List.findIdx?_cons] at h
    cases e : PyData.eqv a d with
    | true =>
      rw [e] at h
      simp at h
      subst h
      simp [e]
    | false =>
      rw [e] at h
      simp only [Bool.false_eq_true, if_false, Option.map_eq_some_iff] at h
      obtain ⟨k, hk, rfl⟩ := h
      obtain ⟨h1, h2⟩ := ih hk
      refine ⟨by simp [e]; simpa using h1, ?_⟩
      rw [List.map_cons, e, List.idxOf_cons]
      simp [h2]
theorem mt_tupIndexD (hu : X.A.units + 66 < cLine) : MtR X "tuple.index" (rTIndexD X.K) := by
  intro pins s σ H x vs v us Q I rx rv h
  obtain ⟨a, xs, ds, y, d, j, rfl, rfl, hs, hds, hd, s1, s2, hp, q⟩ := h
  cases rx
  obtain ⟨u, rfl, ru⟩ := rv.one
  obtain ⟨as, r1⟩ := Dp.reads I d y u hd ru
  obtain ⟨its, r, ht, hz⟩ := I.tuple hs
  obtain ⟨bs, r2⟩ := Dp.readsAll I ds xs its hds r
  obtain ⟨m1, m2⟩ := idxOf_place ds d hp
  have l1 : its.length = ds.length := by rw [← r.length, DpAll.length hds]
  refine PySem.SeqAt.call_tuple_index (ks := ds.map fun z => PyData.eqv z d) (k := true) ht ⟨by rw [List.length_map]; exact l1, fun j h1 h2 => ?_⟩ m1 ?_
  · have h3 : j < ds.length := by omega
    have h4 : j < xs.length := by rw [r.length]; exact h1
    obtain ⟨u', e1, e2⟩ := Vals.get r (List.getElem?_eq_getElem h4)
    rw [List.getElem?_eq_getElem h1] at e1
    cases e1
    obtain ⟨d', e3, e4⟩ := DpAll.get hds (List.getElem?_eq_getElem h4)
    rw [List.getElem?_eq_getElem h3] at e3
    cases e3
    obtain ⟨cs, r3⟩ := Dp.reads I _ _ _ e4 e2
    have dep := SeqAt.depth_of_shaped s2
    have lay : ds[j].plain = true := by
      have z := SeqAt.canLay_of_shaped s1
      simp only [PyData.canLay0] at z
      have go : ∀ {l : List PyData} {x : PyData}, PyData.canLayAll0 l = true → x ∈ l → x.canLay0 = true := by
        intro l
        induction l with
        | nil => intro x _ h; cases h
        | cons b t ih =>
          intro x hl hx
          simp only [PyData.canLayAll0, Bool.and_eq_true] at hl
          rcases List.mem_cons.mp hx with e | hx
          · rw [e]; exact hl.1
          · exact ih hl.2 hx
      exact PyData.plain_of_canLay0 _ (go z (List.getElem_mem h3))
    have ans := SeqAt.eqAt_plain ds[j] d X.A.in1 s its[j] u cs as r3 r1 lay (PyData.plain_of_canLay0 _ (SeqAt.canLay_of_shaped s2)) (by show X.A.units + 1 + _ < cLine; omega)
    have e : decide ((ds.map fun z => PyData.eqv z d)[j] = true) = PyData.eqv ds[j] d := by simp
    rw [e]
    exact ans
  · rw [m2]
    exact ⟨.int j, H, I.tok _, ⟨_, rfl⟩, q⟩
end
end L2
/-! o.m(e, ..) of a tuple that the program made (pe_bm asks for one of the program's text): tuple(list) as a known object, and its methods. -/
namespace L2
open PySem PySem.Spec PyProof.Rows HT
section
variable {X : Cx}
/-- tuple(list), the object known to have no dict -/
def rTupF (K : PySem.W.Frag) : List V → Hp → VK → Prop := fun xs H Q => ∃ p ys, xs = [V.ref p] ∧ SqL K H p ys ∧ ∀ l o, H l = none → o.dict = none → Q (.ref l) (upd H l (.frz o (.tup ys)))
theorem call_tupF : CallR X (.type "tuple") (rTupF X.K) := by
  intro pins s σ H xs us Q I r h
  obtain ⟨p, ys, rfl, hq, q⟩ := h
  obtain ⟨u, rfl, rx⟩ := r.one
  cases rx
  obtain ⟨its, r', pl, hz⟩ := I.list hq
  have hlen := r'.length
  refine call_tuple_list pl.isList (fun h' kp => ?_) (by simp only [List.size_toArray] <;> omega)
  have I1 : Inv X pins σ H { s with heap := h' } := I.kept (t' := s.toks) kp
  have I2 : Inv X pins σ (upd H h'.objs.size (.frz { cls := .type "tuple", data := .seq its.toArray } (.tup ys))) { s with heap := h'.push { cls := .type "tuple", data := .seq its.toArray } } :=
    I1.laid (t' := s.toks) (fun b o e => Heap.get?_push_of_some _ e) (Nat.le_refl _) (show ObjOk X.prog X.w _ _ _ (.frz _ (.tup ys)) from ⟨by unfold Heap.get? Heap.push; simp, hz, its, r', IsTup.new _ _⟩)
  exact ⟨.ref h'.objs.size, _, I2, rfl, q _ _ (I1.hok.fresh (Nat.le_refl _)) rfl⟩
def tBMT (r : V → List V → Hp → VK → Prop) (to : TE) (t : TA) : TE := fun σ H Q => to σ H fun x H1 => (∃ a o xs, x = .ref a ∧ H1 a = some (.frz o (.tup xs)) ∧ o.dict = none) ∧ t σ H1 fun xs H2 => r x xs H2 Q
variable {o e : Expr} {es : List Expr} {to : TE} {t : TA} {name : Str} {apos cpos : Pos} {id : String} {r : V → List V → Hp → VK → Prop}
theorem pe_bmT (slot : Slot "tuple" name id) (hty : typeOf (.builtin id) = pure (.type "method_descriptor")) (hm : MtR X id r) (ho : PE X o to) (ha : PA X (e :: es) t)
    (hbase : attributeBase o name X.env (eval o X.env) = eval o X.env := by rfl)
    (hfew : ((backTo cpos (starEach (e :: es) X.env)).all (fun x => !x.1) && (backToKw cpos (keywordEach [] X.env)).all (fun x => x.1.isSome)
      && decide ((e :: es).length + ([] : List Keyword).length + (if ([] : List Keyword).isEmpty then 0 else 1) < 30)) = true := by rfl)
    (hline : (apos.endLine == cpos.line) = true := by rfl) (hs : starEach (e :: es) X.env = (false, eval e X.env) :: starEach es X.env := by rfl) (hplain : (backTo cpos (starEach es X.env)).any (·.1) = false := by rfl) :
    PE X (.Call (.Attribute o name apos) (e :: es) [] cpos) (tBMT r to t) := by
  refine ⟨fun pins s σ H Q I h => ?_⟩
  refine wpAny_Call_method_late hbase hfew hline rfl (thn (ho.run pins s σ H _ I h) ?_)
  rintro v s1 ⟨x, H1, I1, r1, ⟨a, ob, xs, rfl, hx, hn⟩, q1⟩
  cases r1
  obtain ⟨eo, _⟩ := I1.hok _ _ hx
  obtain ⟨its, rv, ht, hz⟩ := I1.tuple (.inl (.inr ⟨ob, hx⟩))
  refine ⟨"tuple", id, PySem.F.plainAttrs_tuple, slot, hty, ht.typeIs, fun b eb => ?_, ?_⟩
  · cases eb
    exact ⟨ob, eo, hn⟩
  have hA := ha.run cpos pins s1 σ H1 _ I1 q1
  rw [hs] at hA ⊢
  refine Calls.callWith_builtin (by show (false || (backTo cpos (starEach es X.env)).any (·.1)) = false; rw [hplain] <;> rfl) (Calls.evalArgs_plain ?_)
  exact thn hA fun us s2 ⟨vs, H2, I2, r2, q2⟩ => hm pins s2 σ H2 (.ref a) vs (.ref a) us Q I2 rfl r2 q2
end
end L2
/-! xs != [], items of any kind. -/
namespace L2
open PySem PySem.Spec PyProof.Rows
section
variable {X : Cx}
def rNeNil (K : PySem.W.Frag) : R2 := fun x y H Q => ∃ a b xs, x = .ref a ∧ y = .ref b ∧ SqL K H a xs ∧ SqL K H b [] ∧ Q (.bl (!xs.isEmpty)) H
theorem op_neNil (hu : X.A.units < cLine) : OpR X (compareOp .NotEq) (rNeNil X.K) := by
  intro pins s σ H x y v u Q I rx ry h
  obtain ⟨a, b, xs, rfl, rfl, ha, hb, q⟩ := h
  cases rx
  cases ry
  obtain ⟨its, r, l1, _⟩ := I.list ha
  obtain ⟨its2, r2, l2, _⟩ := I.list hb
  cases r2
  have len := r.length
  unfold compareOp
  cases xs with
  | nil =>
    cases r
    refine SeqAt.RcNeAt.lists (e := fun _ => true) l1.isList l2.isList rfl hu (fun j h1 _ => absurd h1 (by simp)) _ _ _ _ ?_
    exact ⟨.bl _, H, I, rfl, q⟩
  | cons z zs =>
    refine SeqAt.RcNeAt.lists_lengths l1.isList l2.isList ?_ hu _ _ _ _ ⟨.bl _, H, I, rfl, q⟩
    rw [List.size_toArray, ← len]
    rfl
end
end L2
/-! sorted(xs, key=f), f a def of the program by its promise: items of any kind, keys data without lists. -/
namespace L2
open PySem PySem.Spec PyProof.Rows
section
variable {X : Cx} {k : Nat} {f : Addr} {fd : FuncData} {ps : List Str} {sp : Sp}
/-- a def run with one value, somewhat deeper; it does not raise -/
theorem run_key {A' : Around} {pins : List (Addr × Obj)} {σ : L2.St} {H : Hp} {s : Shared} {Q : VK} {v : V} {u : Value} (F : FnOk X.prog X.w X.K X.mg X.base CX0 k f fd ps sp) (room : Room k A') (same : A'.frames = X.A.frames) (hb : Binds X.K fd ps [])
    (I : Inv X pins σ H s) (r : RelV v u) (h : sp [v] H Q E0) : wpAny (model X.prog X.w) A' (call (.ref f) [u]) (EP X pins σ Q) (fun _ _ => False) s := by
  have env := I.env0
  have env' : Env0 X.prog X.w X.K X.mg X.base A' X.stack s H := ⟨by rw [same]; exact env.frames, env.mod, env.bs, env.bsz, env.funs, env.frf, env.hok, env.bare⟩
  have len := F.len _ _ _ _ h
  have bind := hb s [u] I.kIn (by simpa using len)
  refine wpAny_call (codeAny_mono (F.run A' X.stack s H ⟨[u], []⟩ [u] [v] Q E0 room env' (by simpa using bind) (.cons r .nil) h) ?_)
  intro res s' post
  cases res with
  | error z => exact post
  | ok way =>
    cases way with
    | ret u => exact I.after post
    | next => cases post
    | brk => cases post
    | cont => cases post
/-- the list and the keys' store, behind a sort by keys: the store is only a pin -/
theorem Inv.sorted {pins : List (Addr × Obj)} {σ : L2.St} {H : Hp} {s : Shared} {h' : Heap} {tk : Nat} {a kS : Addr} {o : HO} (I : Inv X pins σ H s) (ha : H a = none) (hk : H kS = none) (ka : kS ≠ a)
    (keep : ∀ b ob, b ≠ a → b ≠ kS → s.heap.get? b = some ob → h'.get? b = some ob) (za : X.s_0.heap.objs.size ≤ a) (zk : X.s_0.heap.objs.size ≤ kS) (la : a ≠ X.env.locals) (lk : kS ≠ X.env.locals)
    (ca : ∀ x c, X.env.cells.lookup x = some c → c ≠ a) (ck : ∀ x c, X.env.cells.lookup x = some c → c ≠ kS) (pa : ∀ p ∈ X.pn ++ pins, p.1 ≠ a) (pk : ∀ p ∈ X.pn ++ pins, p.1 ≠ kS) (new : ObjOk X.prog X.w (upd H a o) h' a o) :
    Inv X pins σ (upd H a o) { s with heap := h', toks := tk } := by
  have out : ∀ {b : Addr}, b ∉ [a, kS] → b ≠ a ∧ b ≠ kS := fun h => ⟨fun e => h (by simp [e]), fun e => h (by simp [e])⟩
  refine I.step (g' := s.gens) (d' := s.drawn) (ch := [a, kS]) ?_ ?_ ?_ ?_ ?_ ?_ ?_ ?_ ?_ ?_ I.bare
  · intro b hb
    simp only [List.mem_cons, List.not_mem_nil, or_false] at hb
    rcases hb with rfl | rfl
    · exact ⟨.inr za, la, ca, pa⟩
    · exact ⟨.inr zk, lk, ck, pk⟩
  · exact fun b ob _ _ hc e _ => keep b ob (out hc).1 (out hc).2 e
  · exact fun b ob _ _ hc e _ => ⟨ob.slots, keep b ob (out hc).1 (out hc).2 e⟩
  · exact fun b ob hc _ n => by rw [upd_ne (out hc).1]; exact n
  · exact fun b ob hc e => ⟨ob, keep b ob (out hc).1 (out hc).2 e⟩
  · exact fun b ys e => by rw [upd_ne (fun z => by rw [z, ha] at e; cases e)]; exact e
  · exact fun b ob u e => by rw [upd_ne (fun z => by rw [z, ha] at e; cases e)]; exact e
  · exact fun b qs e => ⟨#[], by rw [upd_ne (fun z => by rw [z, ha] at e; cases e), e]; simp⟩
  · rintro m ⟨ob, es, ep, ho, r⟩
    exact ⟨ob, es, ep, keep _ _ la.symm lk.symm ho, r⟩
  · intro b u e
    by_cases hb : b = a
    · subst hb
      rw [upd_same] at e
      cases e
      exact new
    · rw [upd_ne hb] at e
      refine (I.hok b u e).stay (fun c v hc q => keep c v ?_ ?_ q) (fun c q => ?_) (fun c ys q => ?_)
      · rcases hc with rfl | z
        · exact hb
        · exact fun w => by rw [w, ha] at z; cases z
      · rcases hc with rfl | z
        · exact fun w => by rw [w, hk] at e; cases e
        · exact fun w => by rw [w, hk] at z; cases z
      · rw [upd_ne (fun w => by rw [w, ha] at q; cases q)]; exact q
      · rw [upd_ne (fun w => by rw [w, ha] at q; cases q)]; exact q
theorem DpAll.reads {pins : List (Addr × Obj)} {σ : L2.St} {H : Hp} {s : Shared} (I : Inv X pins σ H s) : ∀ {vs : List V} {ds : List PyData} {us : List Value}, DpAll X.K H vs ds → Vals vs us → PySem.W.EachIs (fun u d => ∃ as, Reads s.heap u d as) us ds
  | _, _, _, .nil, .nil => .nil
  | _, _, _, .cons h t, .cons r q => .cons (Dp.reads I _ _ _ h r) (DpAll.reads I t q)
theorem vals_push {vs : List V} {us : Array Value} {v : V} {u : Value} (h : Vals vs us.toList) (r : RelV v u) : Vals (vs ++ [v]) (us.push u).toList := by
  rw [Array.toList_push]
  exact h.append (.cons r .nil)
/-- sorted(xs, key=f) -/
def rSortF (K : PySem.W.Frag) (f : Addr) (sp : Sp) : List V → List V → Hp → VK → Prop := fun xs zs H Q => ∃ (l : Addr) (qs : List (V × PyData)), xs = [.ref l] ∧ zs = [.ref f] ∧ SqL K H l (qs.map (·.1)) ∧ PySem.W.AllAlike (qs.map (·.2)) ∧ PySem.W.Sortable (qs.map (·.2)) ∧
  (∀ q ∈ qs, q.2.depth ≤ 60 ∧ imm q.2 = true) ∧ (∀ q ∈ qs, ∀ H' Q', Same H H' → (∀ v H2, Same H' H2 → Dp K H2 v q.2 → Q' v H2) → sp [q.1] H' Q' E0) ∧
  ∀ p H', Same H H' → H p = none → H' p = some (.lst ((qs.mergeSort leD).map (·.1))) → Q (.ref p) H'
theorem call_sortedF (F : FnOk X.prog X.w X.K X.mg X.base CX0 k f fd ps sp) (hr : Room (k + 2) X.A) (hb : Binds X.K fd ps []) (hu : X.A.units + 64 < cLine) : CallRK X (.builtin "sorted") [Str.ofString "key"] (rSortF X.K f sp) := by
  intro pins s σ H vs zs us ws Q I r rz h
  obtain ⟨l, qs, rfl, rfl, hl, hal, hso, him, hsp, q⟩ := h
  rw [Vals.ref1 r]
  obtain ⟨w1, rfl, e1⟩ := rz.one
  cases e1
  obtain ⟨its, rv, pl, hz⟩ := I.list hl
  have hlen := rv.length
  rw [List.length_map] at hlen hz
  refine PySem.W.sorted_of_sort pl.isList (by omega) (ksk_s1 _ _) (fun _ => ksk_l1 _ _) fun E' => ?_
  show wpAny _ _ (Builtin.«list.sort» ⟨[.ref (s.heap.objs.size + 1)], [(Str.ofString "key", .ref f)]⟩) _ _ _
  rw [ksk_t1]
  have old : ∀ b o, s.heap.get? b = some o → (PySem.W.sortingHeap (PySem.W.copyHeap s.heap its) (s.heap.objs.size + 1) its).get? b = some o := fun b o e => PySem.W.sorting_copy_old e
  obtain ⟨a, ea⟩ : ∃ a, a = s.heap.objs.size + 1 := ⟨_, rfl⟩
  rw [← ea] at old ⊢
  have at_a := PySem.W.copyHeap_at s.heap its
  rw [← ea] at at_a
  have below : a < (PySem.W.copyHeap s.heap its).objs.size := Heap.lt_size at_a
  have room2 : Room k X.A.in1.in1 := hr.in1.in1
  have emptied : ∃ e1, ((PySem.W.copyHeap s.heap its).update a (Obj.mapSeq fun _ => (#[] : Array Value))).get? a = some (seqObj "list" #[] e1) := ⟨_, get?_update_seq at_a fun _ => #[]⟩
  obtain ⟨e1, emptied⟩ := emptied
  have sz2 : its.length ≤ sizeLine := by omega
  unfold ksk_tree
  refine wpAny_bind (listItems_at at_a rfl (wpAny_bind (listUpdate_at at_a rfl ?_ (by rw [List.size_toArray]; exact sz2) (Nat.zero_le _))))
  refine wpAny_bind (seqEpoch_at emptied rfl (wpAny_bind (wpAny_newTuple (wpAny_bind (wpAny_newList (wpAny_holding ?_) (Nat.zero_le _))) (by show its.length ≤ _; exact sz2))))
  obtain ⟨kS, eS⟩ : ∃ kS, kS = (((PySem.W.copyHeap s.heap its).update a (Obj.mapSeq fun _ => (#[] : Array Value))).push (seqObj "tuple" its.toArray 0)).objs.size := ⟨_, rfl⟩
  have hkS : kS = (PySem.W.copyHeap s.heap its).objs.size + 1 := by rw [eS, size_push', Heap.size_update]
  have store : (PySem.W.sortingHeap (PySem.W.copyHeap s.heap its) a its).get? kS = some (seqObj "list" #[] 0) := by
    rw [eS]
    exact Heap.get?_push_size _ rfl
  have stands : (PySem.W.sortingHeap (PySem.W.copyHeap s.heap its) a its).get? a = some (seqObj "list" #[] e1) := Heap.get?_push_of_some _ (Heap.get?_push_of_some _ emptied)
  show wpAny _ _ (ksk_rest a (.ref f) false its.toArray e1 (.ref (((PySem.W.copyHeap s.heap its).update a (Obj.mapSeq fun _ => (#[] : Array Value))).push (seqObj "tuple" its.toArray 0)).objs.size)) _ _ { s with heap := PySem.W.sortingHeap (PySem.W.copyHeap s.heap its) a its }
  rw [← eS]
  have szA : s.heap.objs.size ≤ a := by omega
  have szK : s.heap.objs.size ≤ kS := by omega
  have nka : kS ≠ a := by omega
  have cellLt : ∀ x c, X.env.cells.lookup x = some c → c < s.heap.objs.size := fun x c e => by
    obtain ⟨v, o, ho, _⟩ := I.cell x c e
    exact Heap.lt_size ho
  have pinLt : ∀ p ∈ X.pn ++ pins, p.1 < s.heap.objs.size := fun p hp => Heap.lt_size (I.pin p hp).1
  have locLt := I.lt
  have I1 : Inv X pins σ H { s with heap := PySem.W.sortingHeap (PySem.W.copyHeap s.heap its) a its } := I.kept (t' := s.toks) old
  have nfA := I.nofs szA
  have nfK := I.nofs szK
  have pinsOk : ∀ {H' : Hp} {s' : Shared} {kA : Array Value} {e : Nat}, Inv X pins σ H' s' → s'.heap.get? kS = some (seqObj "list" kA e) → s'.heap.get? a = some (seqObj "list" #[] e1) → H' kS = none → H' a = none → Inv X ((kS, seqObj "list" kA e) :: (a, seqObj "list" #[] e1) :: pins) σ H' s' := by
    intro H' s' kA e J g1 g2 n1 n2
    refine J.pins_of fun p hp => ?_
    rcases List.mem_cons.mp hp with rfl | hp
    · exact ⟨g1, n1, Nat.ne_of_gt (Nat.lt_of_lt_of_le locLt szK), nfK, fun v z => by cases z⟩
    · rcases List.mem_cons.mp hp with rfl | hp
      · exact ⟨g2, n2, Nat.ne_of_gt (Nat.lt_of_lt_of_le locLt szA), nfA, fun v z => by cases z⟩
      · exact J.pin p (List.mem_append_right _ hp)
  have J1 := pinsOk I1 store stands (I.hok.fresh szK) (I.hok.fresh szA)
  unfold ksk_rest
  refine (wpAny_bind (wpAny_rule ?_))
  rw [List.forIn_toArray]
  refine wpAny_bind (ksk_fold (fun i s' => ∃ (kA : Array Value) (e : Nat) (H' : Hp) (kV : List V), Inv X ((kS, seqObj "list" kA e) :: (a, seqObj "list" #[] e1) :: pins) σ H' s' ∧ Same H H' ∧ Vals kV kA.toList ∧ DpAll X.K H' kV ((qs.map (·.2)).take i)) its 0 _ ⟨#[], 0, H, [], J1, Same.refl H, .nil, .nil⟩ ?_ ?_)
  · rintro j x s' hx ⟨kA, e, H', kV, J, hs, hv, hd⟩
    simp only [Nat.zero_add] at hd ⊢
    have hj : j < its.length := (List.getElem?_eq_some_iff.mp hx).1
    have hjq : j < qs.length := by omega
    have hq : qs[j] ∈ qs := List.getElem_mem hjq
    have hmap : (qs.map (·.1))[j]? = some qs[j].1 := by rw [List.getElem?_map, List.getElem?_eq_getElem hjq]; rfl
    obtain ⟨u', e2, rel⟩ := Vals.get rv hmap
    rw [hx] at e2
    cases e2
    have run := run_key (Q := fun w H2 => Same H' H2 ∧ Dp X.K H2 w qs[j].2) F room2 rfl hb J rel (hsp _ hq H' _ hs fun v H2 k2 dv => ⟨k2, dv⟩)
    refine wpAny_bind (wpAny_attempt (wpAny_mono run (fun u s2 post => ?_) fun _ _ no => no.elim))
    obtain ⟨wv, H2, J2, rw2, k2, dv⟩ := post
    have p1 := J2.pin _ (List.mem_append_right _ (.head _))
    have p2 := J2.pin _ (List.mem_append_right _ (.tail _ (.head _)))
    have ksz : kA.size ≤ its.length := by
      have w1 : kV.length = kA.size := by rw [hv.length, Array.length_toList]
      have w2 : kV.length ≤ qs.length := by
        rw [DpAll.length hd, List.length_take, List.length_map]
        omega
      omega
    try dsimp only
    refine wpAny_bind (listUpdate_at p1.1 rfl ?_ (by omega) (by rw [Array.size_push]; omega))
    have g1 : (s2.heap.update kS (Obj.mapSeq (·.push u))).get? kS = some (seqObj "list" (kA.push u) _) := get?_update_seq p1.1 (·.push u)
    have same := Heap.SameBut.update s2.heap kS (Obj.mapSeq (·.push u))
    have J3 : Inv X pins σ H2 s2 := J2.pins_of fun p hp => J2.pin p (List.mem_append_right _ (.tail _ (.tail _ hp)))
    have J4 : Inv X pins σ H2 { s2 with heap := s2.heap.update kS (Obj.mapSeq (·.push u)) } := J3.turned (t' := s2.toks) (it := kS) (fun b o hb e => (same.2 b hb).trans e) p1.2.1 (Nat.ne_of_gt (Nat.lt_of_lt_of_le locLt szK)) (.inr (Nat.le_trans I.sz szK)) (fun x c e => Nat.ne_of_lt (Nat.lt_of_lt_of_le (cellLt x c e) szK)) (fun p hp => Nat.ne_of_lt (Nat.lt_of_lt_of_le (pinLt p hp) szK))
    refine wpAny_pure ⟨rfl, kA.push u, _, H2, kV ++ [wv], pinsOk J4 g1 ((same.2 a nka.symm).trans p2.1) p1.2.1 p2.2.1, hs.trans k2, vals_push hv rw2, ?_⟩
    rw [List.take_add_one, List.getElem?_map, List.getElem?_eq_getElem hjq]
    refine DpAll.app (Dp.keepAll k2.tupK _ _ ?_ hd) (.cons dv .nil)
    have all : ∀ {l : List (V × PyData)}, (∀ q ∈ l, imm q.2 = true) → immAll (l.map (·.2)) = true := by
      intro l
      induction l with
      | nil => intro _; rfl
      | cons c t ih =>
        intro h
        simp only [List.map_cons, immAll, Bool.and_eq_true]
        exact ⟨h c List.mem_cons_self, ih fun q hq => h q (List.mem_cons_of_mem _ hq)⟩
    rw [← List.map_take]
    exact all fun q hq => (him q (List.mem_of_mem_take hq)).2
  · rintro s' ⟨kA, e, H', kV, J, hs, hv, hd⟩
    rw [Nat.zero_add, List.take_of_length_le (by rw [List.length_map]; omega)] at hd
    have p1 := J.pin _ (List.mem_append_right _ (.head _))
    have p2 := J.pin _ (List.mem_append_right _ (.tail _ (.head _)))
    try dsimp only
    refine wpAny_bind (listItems_at p1.1 rfl ?_)
    have each := DpAll.reads J hd hv
    obtain ⟨G, hG1, hG2⟩ := restrict s'.heap fun b => decide (b ≠ kS)
    have szq : kA.size = its.length := by
      have w1 : kV.length = kA.size := by rw [hv.length, Array.length_toList]
      have w2 : kV.length = qs.length := by rw [DpAll.length hd, List.length_map]
      omega
    have kp : PySem.W.KeepsBut a G s'.heap := fun b o _ e => by
      by_cases hb : b = kS
      · rw [hb, hG2 kS (decide_eq_false fun z => z rfl)] at e
        cases e
      · rw [← hG1 b (decide_eq_true hb)]
        exact e
    have kp' : ∀ b o, b ≠ kS → s'.heap.get? b = some o → G.get? b = some o := fun b o hb e => by rw [hG1 b (decide_eq_true hb)]; exact e
    have sorts := PySem.W.SortsAt.data (prog := X.prog) (w := X.w) (A := X.A.in1.in1) (s := s') each hal hso (fun d hd => by
      obtain ⟨q, hq, rfl⟩ := List.mem_map.mp hd
      have := (him q hq).1
      show X.A.units + 2 + q.2.depth < cLine
      omega)
    refine PySem.W.keyH_end (h₁ := G) kp (hG2 kS (decide_eq_false fun z => z rfl)) p1.1 p2.1 nka sorts szq sz2 fun h2 tk c kh ah => ⟨rfl, ?_⟩
    have pairs : PySem.W.EachIs (fun u (p : V × PyData) => RelV p.1 u) its qs := by
      have go : ∀ {l : List (V × PyData)} {us : List Value}, Vals (l.map (·.1)) us → PySem.W.EachIs (fun u (p : V × PyData) => RelV p.1 u) us l := by
        intro l
        induction l with
        | nil => intro us h; cases h; exact .nil
        | cons c t ih =>
          intro us h
          cases h with
          | cons r t => exact .cons r (ih t)
      exact go rv
    have outs := PySem.W.keyedOut_each (rev := false) (R := fun u (p : V × PyData) => RelV p.1 u) (bs := qs) (vs := its) (fun p => p.2) ⟨s'.heap, kA.toList, hal, rfl, each⟩ pairs
    have rels : Vals ((qs.mergeSort leD).map (·.1)) (PySem.W.sortVals (PySem.W.dataKind s'.heap (qs.map (·.2))) false kA.toList its) := vals_each outs
    have J3 : Inv X pins σ H' s' := J.pins_of fun p hp => J.pin p (List.mem_append_right _ (.tail _ (.tail _ hp)))
    have J4 : Inv X pins σ (upd H' a (.lst ((qs.mergeSort leD).map (·.1)))) { s' with heap := h2, toks := tk } := by
      refine Inv.sorted J3 p2.2.1 p1.2.1 nka (fun b o h1 h3 e => kh b o h1 (kp' b o h3 e)) (Nat.le_trans I.sz szA) (Nat.le_trans I.sz szK) (Nat.ne_of_gt (Nat.lt_of_lt_of_le locLt szA)) (Nat.ne_of_gt (Nat.lt_of_lt_of_le locLt szK)) (fun x c e => Nat.ne_of_lt (Nat.lt_of_lt_of_le (cellLt x c e) szA)) (fun x c e => Nat.ne_of_lt (Nat.lt_of_lt_of_le (cellLt x c e) szK))
        (fun p hp => Nat.ne_of_lt (Nat.lt_of_lt_of_le (pinLt p hp) szA)) (fun p hp => Nat.ne_of_lt (Nat.lt_of_lt_of_le (pinLt p hp) szK)) ⟨by rw [List.length_map, List.length_mergeSort]; exact hz, _, c, rels, ah⟩
    exact ⟨.ref a, _, J4, rfl, q a _ (hs.step p2.2.1) (I.hok.fresh szA) upd_same⟩
end
end L2
/-! enumerate over a tuple, the tuple standing all the while. -/
namespace EnumX
open PySem
theorem made_by {t : Addr} {xs : Array Value} : Meets (Builtin.«enumerate.__new__» ⟨[.type "enumerate", .ref t], []⟩) (fun _ R s => s.heap.IsTuple t xs ∧
    R (.ok (.ret (.ref (s.heap.push { cls := .type "tuple_iterator", data := .fields #[.ref t, .int 0 0] }).objs.size)))
      { s with heap := (s.heap.push { cls := .type "tuple_iterator", data := .fields #[.ref t, .int 0 0] }).push { cls := .type "enumerate", data := .fields #[.none, .bool false, .ref s.heap.objs.size, rawInt 0, .none, .none] } }) :=
  .of_wp fun prog w A R s want => by
    obtain ⟨heap, gens, drawn, toks, os⟩ := s
    obtain ⟨is_tuple, want⟩ := want
    have sub := sub_enumerate
    have iter : ∀ {B : Around} {E Q : Value → Shared → Prop}, Q (.ref heap.objs.size) ⟨heap.push { cls := .type "tuple_iterator", data := .fields #[.ref t, .int 0 0] }, gens, drawn, toks, os⟩ → wpAny (model prog w) B (pyIter (.ref t)) Q E ⟨heap, gens, drawn, toks, os⟩ :=
      fun q => (begins_tuple t xs).iter prog w _ _ ⟨heap, gens, drawn, toks, os⟩ _ is_tuple q
    obtain ⟨o, at_t, cls_t, n, dat⟩ := id is_tuple
    obtain ⟨oc, od, ot, os'⟩ := o
    cases (show oc = .type "tuple" from cls_t)
    cases (show ot = .seq xs n from dat)
    wp_walk using AutoSeq1.wpAny_loadPart' at_t
    refine (wpAny_stack_any fun _ => wpAny_pure ?_)
    split
    · rename_i c _ _ _ _ _
      cases (c == Value.type "enumerate") <;>
      · wp_walk using AutoSeq1.wpAny_loadPart' at_t, iter
        exact ⟨_, rfl, want⟩
    · wp_walk using AutoSeq1.wpAny_loadPart' at_t, iter
      exact ⟨_, rfl, want⟩
section
variable {prog : Program} {w : World} {A : Around} {E : Value → Shared → Prop} {s : Shared}
theorem made {t : Addr} {xs : Array Value} {Q : Value → Shared → Prop} (is_tuple : s.heap.IsTuple t xs)
    (want : ∀ h', IsEnum h' (s.heap.objs.size + 1) s.heap.objs.size 0 .none → h'.IsTupleIter s.heap.objs.size t 0 → (∀ b o, s.heap.get? b = some o → h'.get? b = some o) → Q (.ref (s.heap.objs.size + 1)) { s with heap := h' }) :
    wpAny (model prog w) A (call (.type "enumerate") [.ref t]) Q E s := by
  refine callType_new F.called_enumerate (by decide) (F.typeCall_enumerate_1 _) (F.newCall_enumerate_1 _) (fun obj => F.args_object_init_2 obj _) F.entry_enumerate_new made_by ⟨is_tuple, ?_⟩
  obtain ⟨it, hit⟩ : ∃ it : Obj, it = { cls := .type "tuple_iterator", data := .fields #[.ref t, .int 0 0] } := ⟨_, rfl⟩
  rw [← hit]
  have free : it.isFreed = false := by rw [hit]; rfl
  have size : (s.heap.push it).objs.size = s.heap.objs.size + 1 := Heap.size_push ..
  have e : IsEnum ((s.heap.push it).push { cls := .type "enumerate", data := .fields #[.none, .bool false, .ref s.heap.objs.size, rawInt 0, .none, .none] }) (s.heap.objs.size + 1) s.heap.objs.size 0 .none := by
    rw [← size]
    exact Heap.get?_push_size _ rfl
  have i : ((s.heap.push it).push { cls := .type "enumerate", data := .fields #[.none, .bool false, .ref s.heap.objs.size, rawInt 0, .none, .none] }).IsTupleIter s.heap.objs.size t 0 :=
    ⟨it, Heap.get?_push_of_some _ (Heap.get?_push_size _ free), by subst hit; rfl, by subst hit; rfl⟩
  rw [size]
  exact ⟨⟨_, e, rfl⟩, want _ e i fun b o q => Heap.get?_push_of_some _ (Heap.get?_push_of_some _ q)⟩
end
end EnumX
namespace L2
open PySem PySem.Spec PyProof.Rows
/-- the tuple at a, each item in a new pair behind its number -/
def IteT (K : PySem.W.Frag) (a : Addr) : It :=
  ⟨fun i H => ∃ (xs : List V) (x : V), SqT K H a xs ∧ xs[i]? = some x, fun i H v H' => ∃ T x, v = .ref T ∧ H T = none ∧ H' = upd H T (.tup [.int (i : Nat), x]) ∧ ∀ xs, SqT K H a xs → xs[i]? = some x, fun i H => ∃ xs : List V, SqT K H a xs ∧ xs.length = i⟩
theorem turn_enumT {P : Program} {w : World} {K : PySem.W.Frag} {elts : List Expr} {kk : Nat} {tpos : Pos} {a e it : Addr} (ae : a ≠ e) (ai : a ≠ it) (ei : e ≠ it) :
    Turn P w K (.Tuple elts kk tpos) (IteT K a) [e, it] e (fun i h => (∃ old, IsEnum h e it ((i : Nat) : Int) old) ∧ h.IsTupleIter it a i) where
  mem := List.mem_cons_self
  obj := by
    rintro i h ⟨⟨old, he⟩, o, ho, hc, hd⟩ b hb
    simp only [List.mem_cons, List.not_mem_nil, or_false] at hb
    rcases hb with rfl | rfl
    · exact ⟨_, he, fun v q => nomatch q⟩
    · exact ⟨o, ho, fun v q => by rw [hd] at q; cases q⟩
  keep := by
    rintro i h h' ⟨⟨old, he⟩, hi⟩ k
    exact ⟨⟨old, k e (by simp) _ he⟩, hi.at fun o q => k it (by simp) o q⟩
  item := by
    intro X hP hw hK hc i pins s σ H E I hf st hg
    cases hP
    cases hw
    cases hK
    obtain ⟨⟨old, he⟩, hit⟩ := st
    obtain ⟨xs, x, hq, hx⟩ := hg
    obtain ⟨its, rv, tup, hz⟩ := I.tuple hq
    obtain ⟨u, hu, ru⟩ := rv.get hx
    have le : e < s.heap.objs.size := Heap.lt_size he
    have li : it < s.heap.objs.size := by obtain ⟨_, q, _⟩ := hit; exact Heap.lt_size q
    have il : i < its.toArray.size := by
      have := (List.getElem?_eq_some_iff.mp hu).1
      rw [List.size_toArray]
      exact this
    have D := Draws.tuple (prog := X.prog) (w := X.w) (A := X.A.in1) (I.ok.hd hc) it a ai its.toArray
    refine wpAny_pyNext_enum_itemD D he ⟨hit, tup⟩ il ei (by simp [ei, ae.symm]) fun x' h' tk px out st' hT hsz hk => ?_
    have ex : x' = u := by
      have px : its.toArray[i]? = some x' := px
      rw [List.getElem?_toArray, hu] at px
      exact (Option.some.inj px).symm
    subst ex
    refine ⟨_, rfl, wpAny_letOwnedTupleGo_enum (s := { s with heap := h', toks := tk + 1 }) out fun h'' he' sb => ?_⟩
    have hT2 : h''.get? s.heap.objs.size = some { cls := .type "tuple", data := .seq #[.int i tk, x'] } := (sb.2 _ (Nat.ne_of_gt le)).trans hT
    have new : ObjOk X.prog X.w (upd H s.heap.objs.size (.tup [.int (i : Nat), x])) h'' s.heap.objs.size (.tup [.int (i : Nat), x]) :=
      ⟨by show 2 ≤ sizeLine; decide, [.int i tk, x'], .cons ⟨_, rfl⟩ (.cons ru .nil), ⟨_, hT2, rfl, _, rfl⟩⟩
    have I1 : Inv X pins σ (upd H s.heap.objs.size (.tup [.int (i : Nat), x])) { s with heap := h'', toks := tk + 1 } :=
      I.turnedNew (ch := [e, it]) (fun b ob hb q => (sb.2 b (fun z => hb (by simp [z]))).trans (hk b ob (fun z => hb (by simp [z])) (fun z => hb (by simp [z])) q)) hf (Nat.le_refl _) new
    refine ⟨.ref s.heap.objs.size, _, I1, rfl, ⟨_, x, rfl, I.hok.fresh (Nat.le_refl _), rfl, fun ys hy => by rw [I.tuple_inj hy hq]; exact hx⟩, ⟨⟨x', ?_⟩, st'.1.at fun o q => (sb.2 it (Ne.symm ei)).trans q⟩, fun b hb => ?_⟩
    · rw [show ((i + 1 : Nat) : Int) = (i : Int) + 1 by omega]
      exact he'
    · simp only [List.mem_cons, List.not_mem_nil, or_false] at hb
      rcases hb with rfl | rfl
      · rw [upd_ne (Nat.ne_of_lt le)]
        exact (hf _ (by simp)).1
      · rw [upd_ne (Nat.ne_of_lt li)]
        exact (hf _ (by simp)).1
  done := by
    intro X hP hw hK hc i pins s σ H E I hf st hg
    cases hP
    cases hw
    cases hK
    obtain ⟨⟨old, he⟩, hit⟩ := st
    obtain ⟨xs, hq, hx⟩ := hg
    obtain ⟨its, rv, tup, hz⟩ := I.tuple hq
    obtain ⟨f0, f1, f2, f3, f4, f5⟩ := hf it (by simp)
    have D := Draws.tuple (prog := X.prog) (w := X.w) (A := X.A.in1) (I.ok.hd hc) it a ai its.toArray
    have len : its.toArray.size = i := by rw [List.size_toArray, ← rv.length, hx]
    refine wpAny_pyNext_enum_endD D he (by rw [len]; exact ⟨hit, tup⟩) fun h' eb => ⟨rfl, I.turned (t' := s.toks) (fun b o hb q => eb b o hb q) f0 f1 f3 f4 f5⟩
  self := by
    rintro A i s Q E ⟨⟨_, he⟩, _⟩ h
    exact wpAny_pyIter_enum he h
def iEnumT (K : PySem.W.Frag) (ta : TA) : TI := fun σ H R => ta σ H fun vs H1 => ∃ a xs, vs = [.ref a] ∧ SqT K H1 a xs ∧ R (IteT K a) H1
theorem pi_enumT {X : Cx} {e : Expr} {ta : TA} {p pos tpos : Pos} {elts : List Expr} {kk : Nat} (hg : Gl X "enumerate") (hm : X.mg "enumerate" = none) (ha : PA X [e] ta) (hs : starEach [e] X.env = [(false, eval e X.env)] := by rfl) :
    PI X (.Tuple elts kk tpos) (.Call (.Name "enumerate" p) [e] [] pos) (iEnumT X.K ta) := by
  refine ⟨fun pins s σ H R I h => ?_⟩
  refine Call_ (ld_blt I hg hm boot_enumerate (PyProof.Rows.callWith_type1 (thn (ha.run pos pins s σ H _ I h) ?_) hs rfl))
  rintro us s1 ⟨vs, H1, I1, r1, a, xs, rfl, hq, q⟩
  obtain ⟨u, rfl, ru⟩ := r1.one
  cases ru
  obtain ⟨its, rv, tup, hz⟩ := I1.tuple hq
  have la : a < s1.heap.objs.size := by obtain ⟨_, e, _⟩ := tup; exact Heap.lt_size e
  refine EnumX.made tup fun h' he hit hk => wpAny_pyIter_enum he ?_
  have I2 : Inv X pins σ H1 { s1 with heap := h' } := I1.kept (t' := s1.toks) hk
  refine ⟨s1.heap.objs.size + 1, [s1.heap.objs.size + 1, s1.heap.objs.size], _, _, H1, rfl, I2, turn_enumT (Nat.ne_of_lt (Nat.lt_succ_of_lt la)) (Nat.ne_of_lt la) (Nat.succ_ne_self _), ⟨⟨.none, he⟩, hit⟩, fun b hb => ?_, q⟩
  have low : s1.heap.objs.size ≤ b := by
    simp only [List.mem_cons, List.not_mem_nil, or_false] at hb
    rcases hb with rfl | rfl
    · exact Nat.le_succ _
    · exact Nat.le_refl _
  exact I1.fpOk low (I1.hok.fresh low)
/-- the walk over a numbered tuple -/
theorem walk_enumT {K : PySem.W.Frag} {a : Addr} {xs : List V} : Walk (IteT K a) xs.length (fun H => SqT K H a xs) (YPair (fun i => some (.int (i : Nat))) (fun i => xs[i]?)) where
  goes := fun i H hi h => ⟨xs, xs[i], h, List.getElem?_eq_getElem hi⟩
  stops := fun H h => ⟨xs, h, rfl⟩
  yields := by
    rintro i H x H' hi h ⟨T, y, rfl, h1, h2, h3⟩
    exact ⟨T, _, y, rfl, h1, h2, rfl, h3 xs h⟩
end L2
/-! t[lo:hi] of a tuple, the whole of it too: one question for both. -/
namespace L2
open PySem PySem.Spec PyProof.Rows
def rSlTA (K : PySem.W.Frag) : V → Option Int → Option Int → Hp → VK → Prop := fun x lo hi H Q => ∃ a xs, x = .ref a ∧ SqT K H a xs ∧ ∀ p H', Same H H' → SqT K H' p (cutV xs lo hi) → Q (.ref p) H'
theorem sl_tupW {X : Cx} : SlR X (rSlTA X.K) := by
  intro pins s σ H x v vl vu lo hi sl Q I rx hs pl pu h
  obtain ⟨a, xs, rfl, hx, q⟩ := h
  refine sl_tupA pins s σ H (.ref a) v vl vu lo hi sl Q I rx hs pl pu ⟨a, xs, rfl, hx, fun w => ?_, fun w p hp => q p _ (Same.new hp) (.of upd_same)⟩
  refine q a H (Same.refl H) ?_
  have e : cutV xs lo hi = xs := by
    unfold cutV
    rw [w.1, w.2, List.drop_zero, Nat.sub_zero, List.take_of_length_le (Nat.le_refl _)]
  rw [e]
  exact hx
/-- t + u of tuples: one question for all -/
def rCatW (K : PySem.W.Frag) : R2 := fun x y H Q => ∃ a b xs ys, x = .ref a ∧ y = .ref b ∧ SqT K H a xs ∧ SqT K H b ys ∧ xs.length + ys.length ≤ sizeLine ∧ ∀ p H', Same H H' → SqT K H' p (xs ++ ys) → Q (.ref p) H'
theorem op_catW {X : Cx} : OpR X (binaryOp .Add) (rCatW X.K) := by
  intro pins s σ H x y v u Q I rx ry h
  obtain ⟨a, b, xs, ys, rfl, rfl, ha, hb, hz, q⟩ := h
  refine op_catA pins s σ H (.ref a) (.ref b) v u Q I rx ry ⟨a, b, xs, ys, rfl, rfl, ha, hb, hz, fun e => ?_, fun _ e => ?_, fun _ _ p hp => q p _ (Same.new hp) (.of upd_same)⟩
  · refine q b H (Same.refl H) ?_
    rw [e, List.nil_append]
    exact hb
  · refine q a H (Same.refl H) ?_
    rw [e, List.append_nil]
    exact ha
/-- a statement, then the rest by an invariant -/
theorem seq_by {t1 t2 : TS} {D : Ends} {σ : L2.St} {H : Hp} (I : L2.St → Hp → Prop) (h1 : ∀ N : L2.St → Hp → Prop, (∀ σ' H', I σ' H' → N σ' H') → t1 { D with nx := N } σ H) (h2 : ∀ σ' H', I σ' H' → t2 D σ' H') : tSeq t1 t2 D σ H := h1 _ h2
theorem asg_by {te : TE} {i : Nat} {t2 : TS} {D : Ends} {σ : L2.St} {H : Hp} (I : V → Hp → Prop) (h1 : ∀ Q : VK, (∀ v H', I v H' → Q v H') → te σ H Q) (h2 : ∀ v H', I v H' → t2 D (σ.set i (some v)) H') : tSeq (tAsg te (gName i)) t2 D σ H := h1 _ h2
theorem But.toSame {S : Addr → Prop} {H H1 H' : Hp} (k : But S H1 H') (s : Same H H1) (h : ∀ a, S a → H a = none) : Same H H' := fun a o e => k a o (fun z => by rw [h a z] at e; cases e) (s a o e)
end L2
/-! Data that repr shows without more: numbers below 10^38, texts, tuples, lists of these. And a walk over zip of two tuples. -/
namespace L2
open PySem PySem.Spec PyProof.Rows
mutual
def tidy : PyData → Bool
  | .none => true
  | .bool _ => true
  | .int i => decide (i.natAbs < 10 ^ 38)
  | .str w => PyData.strOk w
  | .tuple ds => tidyAll ds
  | .list ds => tidyAll ds
  | .dict _ => false
def tidyAll : List PyData → Bool
  | [] => true
  | d :: ds => tidy d && tidyAll ds
end
theorem tidy_int {i : Int} (h : i.natAbs < 10 ^ 38) : (PyData.int i).showable = true ∧ (PyData.int i).intsShort 40 = true := by
  constructor
  · simp only [PyData.showable]
    refine decide_eq_true ?_
    by_cases z : i.natAbs = 0
    · rw [z]
      decide
    · exact (Nat.log2_lt z).mpr (Nat.lt_of_lt_of_le h (by decide))
  · simp only [PyData.intsShort]
    refine decide_eq_true ?_
    have e := int_text_length_le10 (a := i) (k := 38) (by decide) h
    rw [PyData.shown_int]
    have : ((toString i : String) : Str).length = (toString i).length := PySem.ofString_length _
    omega
mutual
theorem tidy_ok : ∀ d : PyData, tidy d = true → d.canLay0 = true ∧ d.showable = true ∧ d.hasDict = false ∧ d.intsShort 40 = true
  | .none, _ => ⟨rfl, rfl, rfl, rfl⟩
  | .bool _, _ => ⟨rfl, rfl, rfl, rfl⟩
  | .int i, h => by
    simp only [tidy, decide_eq_true_eq] at h
    exact ⟨rfl, (tidy_int h).1, rfl, (tidy_int h).2⟩
  | .str w, h => by
    simp only [tidy] at h
    exact ⟨h, rfl, rfl, rfl⟩
  | .tuple ds, h => by
    simp only [tidy] at h
    have z := tidyAll_ok ds h
    refine ⟨?_, ?_, ?_, ?_⟩
    · simp only [PyData.canLay0]; exact z.1
    · simp only [PyData.showable]; exact z.2.1
    · simp only [PyData.hasDict]; exact z.2.2.1
    · simp only [PyData.intsShort]; exact z.2.2.2
  | .list ds, h => by
    simp only [tidy] at h
    have z := tidyAll_ok ds h
    refine ⟨?_, ?_, ?_, ?_⟩
    · simp only [PyData.canLay0]; exact z.1
    · simp only [PyData.showable]; exact z.2.1
    · simp only [PyData.hasDict]; exact z.2.2.1
    · simp only [PyData.intsShort]; exact z.2.2.2
  | .dict _, h => by simp [tidy] at h
theorem tidyAll_ok : ∀ ds : List PyData, tidyAll ds = true → PyData.canLayAll0 ds = true ∧ PyData.showableAll ds = true ∧ PyData.hasDictAll ds = false ∧ PyData.intsShortAll 40 ds = true
  | [], _ => ⟨rfl, rfl, rfl, rfl⟩
  | d :: ds, h => by
    simp only [tidyAll, Bool.and_eq_true] at h
    have a := tidy_ok d h.1
    have b := tidyAll_ok ds h.2
    refine ⟨?_, ?_, ?_, ?_⟩
    · simp only [PyData.canLayAll0, a.1, b.1]; rfl
    · simp only [PyData.showableAll, a.2.1, b.2.1]; rfl
    · simp only [PyData.hasDictAll, a.2.2.1, b.2.2.1]; rfl
    · simp only [PyData.intsShortAll, a.2.2.2, b.2.2.2]; rfl
end
theorem tidyAll_map {α : Type} {f : α → PyData} : ∀ {l : List α}, (∀ a ∈ l, tidy (f a) = true) → tidyAll (l.map f) = true
  | [], _ => by simp [tidyAll]
  | a :: l, h => by
    simp only [List.map_cons, tidyAll, Bool.and_eq_true]
    exact ⟨h a List.mem_cons_self, tidyAll_map fun b hb => h b (List.mem_cons_of_mem _ hb)⟩
theorem tidyAll_of : ∀ {l : List PyData}, (∀ a ∈ l, tidy a = true) → tidyAll l = true
  | [], _ => by simp [tidyAll]
  | a :: l, h => by
    simp only [tidyAll, Bool.and_eq_true]
    exact ⟨h a List.mem_cons_self, tidyAll_of fun b hb => h b (List.mem_cons_of_mem _ hb)⟩
theorem bulk_map {α : Type} {f : α → PyData} {n : Nat} : ∀ {l : List α}, (∀ a ∈ l, (f a).bulk ≤ n) → PyData.bulkAll (l.map f) ≤ l.length * (n + 1)
  | [], _ => by simp [PyData.bulkAll]
  | a :: l, h => by
    have h1 := h a List.mem_cons_self
    have h2 := bulk_map fun b hb => h b (List.mem_cons_of_mem _ hb)
    simp only [List.map_cons, PyData.bulkAll, List.length_cons, Nat.add_mul, Nat.one_mul]
    omega
theorem depth_map {α : Type} {f : α → PyData} {n : Nat} : ∀ {l : List α}, (∀ a ∈ l, (f a).depth ≤ n) → PyData.depthAll (l.map f) ≤ n
  | [], _ => by simp [PyData.depthAll]
  | a :: l, h => by
    have h1 := h a List.mem_cons_self
    have h2 := depth_map fun b hb => h b (List.mem_cons_of_mem _ hb)
    simp only [List.map_cons, PyData.depthAll]
    omega
theorem shown_short {d : PyData} (h : tidy d = true) (hb : d.bulk ≤ 300000) : d.shown.length ≤ sizeLine := by
  have z := tidy_ok d h
  have lv := PyData.leavesShort_of_canLay0 40 _ z.1 z.2.2.2
  have le := PyData.shown_le_bulk 40 (by decide) d lv
  have : sizeLine = 16777216 := by decide
  omega
theorem rep_of {K : PySem.W.Frag} {H : Hp} {v : V} {d : PyData} {Q : VK} (h : Dp K H v d) (t : tidy d = true) (b : d.bulk ≤ 300000) (p : d.depth ≤ 60) (q : Q (.str d.shown) H) : rReprV K [v] H Q :=
  ⟨v, d, rfl, .inl h, (tidy_ok d t).2.1, .inr (tidy_ok d t).2.2.1, shown_short t b, p, q⟩
theorem shaped_of {d : PyData} (h : tidy d = true) (p : d.depth ≤ 60) : SeqAt.shaped d = true :=
  Bool.and_eq_true_iff.mpr ⟨(tidy_ok d h).1, decide_eq_true (by omega)⟩
open RZ in
theorem walk_zipT {K : PySem.W.Frag} {a b : Addr} {xs ys : List V} {n : Nat} (hx : xs.length = n) (hy : ys.length = n) : Walk (ItzT K a b) n (fun H => SqT K H a xs ∧ SqT K H b ys) (YPair (fun i => xs[i]?) (fun i => ys[i]?)) where
  goes := fun i H hi h => ⟨xs, ys, xs[i]'(by omega), ys[i]'(by omega), h.1, h.2, List.getElem?_eq_getElem _, List.getElem?_eq_getElem _⟩
  stops := fun H h => ⟨xs, ys, h.1, h.2, .inl (by omega)⟩
  yields := fun i H x H' hi h y => by
    obtain ⟨T, x', y', rfl, hT, rfl, f1, f2⟩ := y
    exact ⟨T, x', y', rfl, hT, rfl, f1 xs h.1, f2 ys h.2⟩
end L2
/-! Sets of whole numbers and texts: made of a list or a tuple, added to, asked, sorted. What is known of such a set: its members, their number, and that its table can be walked. -/
namespace L2
open PySem PySem.Spec PyProof.Rows
def ky : Value → Key
  | .int k _ => .inl k
  | .str x _ => .inr x
  | _ => .inl 0
theorem ky_of {k : Key} {v : Value} (h : keyIs k v = true) : ky v = k := by
  rcases keyIs_shape h with ⟨i, t, rfl, rfl⟩ | ⟨x, t, rfl, rfl⟩ <;> rfl
theorem rel_of_is {k : Key} {v : Value} (h : keyIs k v = true) : RelV (kV k) v := by
  rcases keyIs_shape h with ⟨i, t, rfl, rfl⟩ | ⟨x, t, rfl, rfl⟩ <;> exact ⟨t, rfl⟩
theorem scan_of_is {k : Key} {v : Value} (h : keyIs k v = true) : v.scannable = true := by
  rcases keyIs_shape h with ⟨i, t, rfl, rfl⟩ | ⟨x, t, rfl, rfl⟩ <;> rfl
theorem mem_ky {P : Program} {w : World} {l : List (Int × Value)} (g : ElemsOf (mixKind P w) l) (k : Key) : k ∈ l.map (fun e => ky e.2) ↔ ∃ e ∈ l, (mixKind P w).is k e.2 = true := by
  constructor
  · intro h
    obtain ⟨e, he, z⟩ := List.mem_map.mp h
    obtain ⟨⟨j, hj, _⟩, _⟩ := g e he
    rw [← z, ky_of hj]
    exact ⟨e, he, hj⟩
  · rintro ⟨e, he, h⟩
    rw [← ky_of h]
    exact List.mem_map_of_mem (f := fun e : Int × Value => ky e.2) he
/-- a set with the members S, n of them, that can be walked -/
structure SetG (P : Program) (w : World) (h : Heap) (a : Addr) (S : Key → Bool) (n : Nat) : Prop where
  ex : ∃ o es ep t, h.get? a = some o ∧ o.ExactSet ∧ o.data = .set es ep t ∧ ElemsOf (mixKind P w) es.toList ∧ (es.toList.map fun e => ky e.2).Nodup ∧ (∀ k, S k = true ↔ k ∈ es.toList.map fun e => ky e.2) ∧
    es.size = n ∧ n < scanBound ∧ t.fits es.size = true ∧ Ris t.place.toList ∧ (w.params.followText "set-order" = true ∨ t.led = true)
theorem SetG.at {P : Program} {w : World} {h h' : Heap} {a : Addr} {S : Key → Bool} {n : Nat} (R : SetG P w h a S n) (k : ∀ o, h.get? a = some o → h'.get? a = some o) : SetG P w h' a S n := by
  obtain ⟨o, es, ep, t, ho, r⟩ := R.ex
  exact ⟨o, es, ep, t, k o ho, r⟩
theorem SetG.there {P : Program} {w : World} {h : Heap} {a : Addr} {S : Key → Bool} {n : Nat} (R : SetG P w h a S n) : ∃ o, h.get? a = some o := by
  obtain ⟨o, es, ep, t, ho, r⟩ := R.ex
  exact ⟨o, ho⟩
theorem SetG.congr {P : Program} {w : World} {h : Heap} {a : Addr} {S S' : Key → Bool} {n : Nat} (R : SetG P w h a S n) (e : ∀ k, S' k = S k) : SetG P w h a S' n := by
  have z : S' = S := funext e
  rw [z]
  exact R
theorem SetG.setOf {P : Program} {w : World} {h : Heap} {a : Addr} {S : Key → Bool} {n : Nat} (R : SetG P w h a S n) : h.SetOf (mixKind P w) a S n := by
  obtain ⟨o, es, ep, t, h1, h2, h3, h4, h5, h6, h7, h8, h9, _⟩ := R.ex
  exact ⟨o, es, ep, t, h1, h2, h3, h4, fun k => (h6 k).trans (mem_ky h4 k), by rw [h7]; exact h8, h9, h7⟩
theorem setG_fresh {P : Program} {w : World} {h : Heap} {a : Addr} (ho : h.get? a = some { cls := .type "set", dict := none, data := .set #[] 0 (.fresh 0 0 (!w.params.followText "set-order")) }) : SetG P w h a (fun _ => false) 0 :=
  ⟨_, #[], 0, _, ho, ⟨rfl, rfl, rfl⟩, rfl, (fun e he => by simp at he), by simp, (fun k => by simp), rfl, by decide, rfl, .nil, by
    show _ ∨ (!w.params.followText "set-order") = true
    cases w.params.followText "set-order" with
    | true => exact .inl rfl
    | false => exact .inr rfl⟩
section
variable {P : Program} {w : World} {A : Around} {E : Value → Shared → Prop} {s : Shared} {a : Addr} {S : Key → Bool} {n : Nat}
/-- what must hold of the new table -/
structure Tab1 (P : Program) (w : World) (S : Key → Bool) (es : Array (Int × Value)) (t : SetTable) : Prop where
  el : ElemsOf (mixKind P w) es.toList
  nd : (es.toList.map fun e => ky e.2).Nodup
  mb : ∀ k, S k = true ↔ k ∈ es.toList.map fun e => ky e.2
  sz : es.size < scanBound
  ft : t.fits es.size = true
  rs : Ris t.place.toList
  ld : w.params.followText "set-order" = true ∨ t.led = true
theorem Tab1.set {h : Heap} {o : Obj} {es : Array (Int × Value)} {ep : Nat} {t : SetTable} (T : Tab1 P w S es t) (ho : h.get? a = some o) (hx : o.ExactSet) (hd : o.data = .set es ep t) : SetG P w h a S es.size :=
  ⟨o, es, ep, t, ho, hx, hd, T.el, T.nd, T.mb, rfl, T.sz, T.ft, T.rs, T.ld⟩
theorem Tab1.again {es : Array (Int × Value)} {t : SetTable} (T : Tab1 P w S es t) (m : Nat) : Tab1 P w S (relayAll t es m).1 (relayAll t es m).2.1 ∧ (relayAll t es m).1.size = es.size := by
  have p := relayAll_perm t es m
  have q : (relayAll t es m).1.size = es.size := by rw [← Array.length_toList, p.length_eq, Array.length_toList]
  refine ⟨⟨T.el.perm p, (p.map _).nodup_iff.mpr T.nd, fun k => (T.mb k).trans (p.map _).mem_iff.symm, by rw [q]; exact T.sz, relayAll_fits t es m, relayAll_ris t es m, T.ld.imp id fun z => ?_⟩, q⟩
  rw [relayAll_led]
  exact z
/-- both stores of an add -/
theorem put_tab {warn : Bool → Sem Unit} (hw : ∀ (b : Bool) (s1 : Shared) (Q1 : Unit → Shared → Prop), Q1 () s1 → wpAny (model P w) A (warn b) Q1 E s1) {o : Obj} {es0 es : Array (Int × Value)} {ep : Nat} {t0 t : SetTable}
    (ho : s.heap.get? a = some o) (hx : o.ExactSet) (hd : o.data = .set es0 ep t0) (T : Tab1 P w S es t) {dummy : Bool} {R : Option Bool → Shared → Prop} (hR : ∀ h', Heap.SameBut a s.heap h' → SetG P w h' a S es.size → R (some true) { s with heap := h' }) :
    wpAny (model P w) A (do
        storeSet a es t
        if (!dummy && t.tooFull) = true then do
            warn (relayAll t es (SetTable.grown es.size)).2.2
            storeSet a (relayAll t es (SetTable.grown es.size)).1 (relayAll t es (SetTable.grown es.size)).2.1
            pure (some true)
          else pure (some true)) R E s := by
  refine wpAny_bind (wpAny_storeSet_of (es' := es) (t' := t) ho hd ?_ (fits_of_scanBound T.sz))
  have at1 := store_at (es' := es) (t' := t) ho hd
  have but1 := Heap.SameBut.update s.heap a (Obj.putSet es t)
  split
  · obtain ⟨T2, same⟩ := T.again (SetTable.grown es.size)
    generalize relayAll t es (SetTable.grown es.size) = new at T2 same ⊢
    refine wpAny_bind (hw _ _ _ ?_)
    refine wpAny_bind (wpAny_storeSet_of (es' := new.1) (t' := new.2.1) at1 rfl ?_ (fits_of_scanBound T2.sz))
    have z := T2.set (store_at (es' := new.1) (t' := new.2.1) at1 rfl) hx rfl
    rw [same] at z
    exact wpAny_pure (hR _ (but1.trans (Heap.SameBut.update _ a _)) z)
  · exact wpAny_pure (hR _ but1 (T.set at1 hx rfl))
theorem setG_put {k : Key} {v : Value} {Q : Bool → Shared → Prop} (hk : keyIs k v = true) (R : SetG P w s.heap a S n) (room : n + 1 < scanBound)
    (hQ : ∀ h', Heap.SameBut a s.heap h' → SetG P w h' a (fun j => S j || decide (j = k)) (if S k = true then n else n + 1) → Q (!S k) { s with heap := h' }) :
    wpAny (model P w) A (setAddHashed a v ((mixKind P w).hash k)) Q E s := by
  obtain ⟨o, es, ep, t, ho, hx, hd, g, nd, hm, hn, hb, hf, hr, hl⟩ := R.ex
  have sc := scan_of_is hk
  have hb' : es.size < scanBound := by rw [hn]; exact hb
  unfold setAddHashed setAddHashedIn
  refine wpAny_holding (wpAny_bind (wpAny_setState_of ho hd hf ?_))
  dsimp only
  rw [byScan_of (knd := mixKind P w) sc hb' g]
  simp only [↓reduceIte]
  unfold setAddByScan
  refine wpAny_bind (wpAny_bind (wpAny_rule (wpAny_bind (wpAny_setScan_of (knd := mixKind P w) hk ho hd hf g ?_))))
  cases found : List.findIdx? (fun e => (mixKind P w).is k e.2) es.toList with
  | some j =>
    dsimp only
    obtain ⟨hj, pj, _⟩ := List.findIdx?_eq_some_iff_getElem.mp found
    have inn : S k = true := (hm k).mpr ((mem_ky g k).mpr ⟨es.toList[j], List.getElem_mem hj, pj⟩)
    refine wpAny_pure (wpAny_pure ?_)
    have z := hQ s.heap (Heap.SameBut.refl a s.heap)
    rw [inn, if_pos rfl] at z
    refine z (R.congr fun i => ?_)
    by_cases e : i = k
    · rw [e, inn]
      rfl
    · rw [decide_eq_false e, Bool.or_false]
  | none =>
    dsimp only
    have out : k ∉ es.toList.map fun e => ky e.2 := fun z => by
      obtain ⟨e, he, q⟩ := (mem_ky g k).mp z
      have c := List.findIdx?_eq_none_iff.mp found e he
      rw [q] at c
      cases c
    have no : S k = false := by
      cases q : S k with
      | false => rfl
      | true => exact absurd ((hm k).mp q) out
    have quiet : ∀ (b : Bool) {s1 : Shared} {Q1 : Unit → Shared → Prop}, Q1 () s1 → wpAny (model P w) A (match b with | true => rule "set.scan.the-table-gave-way" | false => pure ()) Q1 E s1 := by
      intro b s1 Q1 q
      cases b with
      | true => exact wpAny_rule q
      | false => exact wpAny_pure q
    have perm0 := layNew_perm t es ((mixKind P w).hash k) v
    have fit0 := layNew_fits t es ((mixKind P w).hash k) v
    have ris0 := layNew_ris t es ((mixKind P w).hash k) v hr
    have led0 := layNew_led t es ((mixKind P w).hash k) v
    generalize layNew t es ((mixKind P w).hash k) v = new at perm0 fit0 ris0 led0 ⊢
    obtain ⟨es1, t1, dummy, gave⟩ := new
    dsimp only at perm0 fit0 ris0 led0 ⊢
    rw [Array.toList_push] at perm0
    have perm1 : es1.toList.Perm (((mixKind P w).hash k, v) :: es.toList) := perm0.trans (List.perm_append_singleton _ _)
    have perm2 : (es1.toList.map fun e => ky e.2).Perm (k :: es.toList.map fun e => ky e.2) := by
      have z := perm1.map fun e => ky e.2
      rw [List.map_cons, ky_of hk] at z
      exact z
    have size1 : es1.size = n + 1 := by rw [← Array.length_toList, perm1.length_eq, List.length_cons, Array.length_toList, hn]
    have T : Tab1 P w (fun j => S j || decide (j = k)) es1 t1 := by
      refine ⟨fun e he => ?_, perm2.nodup_iff.mpr (List.nodup_cons.mpr ⟨out, nd⟩), fun i => ?_, by rw [size1]; exact room, fit0, ris0, hl.imp id fun z => by rw [led0]; exact z⟩
      · rcases List.mem_cons.mp (perm1.mem_iff.mp he) with z | z
        · rw [z]
          exact ⟨⟨k, hk, rfl⟩, sc⟩
        · exact g e z
      · rw [Bool.or_eq_true, decide_eq_true_eq, hm i, perm2.mem_iff, List.mem_cons]
        exact Or.comm
    have Toff : Tab1 P w (fun j => S j || decide (j = k)) es1 { t1 with plain := false } := ⟨T.el, T.nd, T.mb, T.sz, SetTable.fits_plain_off fit0, ris0, T.ld⟩
    have fin : ∀ h', Heap.SameBut a s.heap h' → SetG P w h' a (fun j => S j || decide (j = k)) es1.size → Q true { s with heap := h' } := fun h' sb r => by
      have z := hQ h' sb
      rw [no, size1.symm] at z
      exact z r
    refine wpAny_bind (quiet _ ?_)
    split
    · refine wpAny_bind ?_
      rw [hashByValue_scannable 8 sc]
      refine wpAny_pure ?_
      refine put_tab (fun b s1 Q1 q => quiet b q) ho hx hd ?_ fun h' sb r => wpAny_pure (fin h' sb r)
      first
        | (split <;> first | exact T | exact Toff)
        | exact T
    · refine wpAny_bind (wpAny_pure ?_)
      simp only [↓reduceIte]
      exact put_tab (fun b s1 Q1 q => quiet b q) ho hx hd T fun h' sb r => wpAny_pure (fin h' sb r)
/-! ### set(xs), xs a list of keys -/
def hasK (ks : List Key) (j : Key) : Bool := ks.any fun z => decide (z = j)
theorem hasK_iff {ks : List Key} {j : Key} : hasK ks j = true ↔ j ∈ ks := by
  unfold hasK
  rw [List.any_eq_true]
  constructor
  · rintro ⟨z, hz, e⟩
    rw [← of_decide_eq_true e]
    exact hz
  · exact fun h => ⟨j, h, decide_eq_true rfl⟩
theorem hasK_next {ks : List Key} {i : Nat} {k : Key} (h : ks[i]? = some k) (j : Key) : hasK (ks.take (i + 1)) j = (hasK (ks.take i) j || decide (j = k)) := by
  unfold hasK
  rw [List.take_add_one, h, List.any_append]
  simp [eq_comm]
theorem setG_loop {I : Addr} {fp wr : List Addr} {G : Array GenState → Array GenState → Prop} {m : Nat} {Pv : Nat → Value → Prop} {St : Nat → Shared → Prop} {R : Result → Shared → Prop} (W : WalksS P w A.in1 I fp wr G m Pv St) (D : Addr) (hD : D ∉ fp)
    (ks : List Key) (hm : m = ks.length) (hb : ks.length + 1 < scanBound) (hv : ∀ i v, Pv i v → ∃ k, ks[i]? = some k ∧ keyIs k v = true) :
    ∀ (f i : Nat) (s : Shared), m - i = f → i ≤ m → St i s → (∃ c, c ≤ i ∧ SetG P w s.heap D (hasK (ks.take i)) c) →
      (∀ s1 c, Moved (D :: wr) G s s1 → c ≤ m → SetG P w s1.heap D (hasK ks) c → R (.ok (.ret .none)) s1) →
      codeAny (model P w) A (.builtin "set.update.loop" ⟨[.ref D, .ref I], []⟩) R s := by
  have nD : D ∉ wr := fun h => hD (W.sub _ h)
  have up : ∀ b ∈ wr, b ∈ D :: wr := fun b hb => List.mem_cons_of_mem _ hb
  intro f
  induction f with
  | zero =>
    intro i s hf hi hst ⟨c, hc, hS⟩ hR
    obtain rfl : i = m := by omega
    refine codeAny_builtin F.entry_set_update_loop ?_
    rw [Around.under_plainId F.plain_set_update_loop _]
    show wpAny _ A.in1 (pyNext (.ref I) >>= _) _ _ s
    refine wpAny_bind (W.done s _ _ hst fun s1 mv => ?_)
    show wpAny _ A.in1 (ret Value.none) _ _ s1
    rw [List.take_of_length_le (show ks.length ≤ i by omega)] at hS
    exact wpAny_pure (hR s1 c (mv.mono up) hc (hS.at fun o e => mv.heap D o nD e))
  | succ f ih =>
    intro i s hf hi hst ⟨c, hc, hS⟩ hR
    have lt : i < m := by omega
    refine codeAny_builtin F.entry_set_update_loop ?_
    rw [Around.under_plainId F.plain_set_update_loop _]
    show wpAny _ A.in1 (pyNext (.ref I) >>= _) _ _ s
    refine wpAny_bind (W.item i s _ _ lt hst fun v s1 hP st1 mv => ?_)
    obtain ⟨k, hk, kv⟩ := hv i v hP
    have hS1 : SetG P w s1.heap D (hasK (ks.take i)) c := hS.at fun o e => mv.heap D o nD e
    show wpAny _ A.in1 (holding [v] (setAdd D v) >>= _) _ _ s1
    refine wpAny_bind (wpAny_holding ?_)
    unfold setAdd
    refine wpAny_holding (wpAny_bind ((mixKind P w).pyHash (k := k) kv ?_))
    refine setG_put (s := { s1 with toks := s1.toks + 1 }) kv hS1 (by omega) fun h2 sb hS2 => ?_
    have hS3 := hS2.congr (S' := hasK (ks.take (i + 1))) (hasK_next hk)
    refine wpAny_pure ⟨plainId_quiet F.plain_set_update_loop _, ih (i + 1) _ (by omega) lt (W.frame _ s1 _ _ st1 (Nat.le_succ _) fun b hb o e => ?_) ⟨_, by split <;> omega, hS3⟩ fun s3 c3 mv3 hc3 hS3 => ?_⟩
    · rw [sb.2 b (fun z : b = D => hD (by rw [← z]; exact hb))]
      exact e
    · refine hR s3 c3 (Moved.trans W.gtrans ((mv.mono up).then_heap (Nat.le_succ _) fun b o hb e => ?_) mv3) hc3 hS3
      rw [sb.2 b (fun z : b = D => hb (by rw [z]; exact List.mem_cons_self))]
      exact e
/-- the new set's object -/
abbrev newSetO (w : World) : Obj := { cls := .type "set", dict := none, data := .set #[] 0 (.fresh 0 0 (!w.params.followText "set-order")) }
set_option maxHeartbeats 16000000 in
theorem set_of_list {l : Addr} {its : Array Value} (ks : List Key) {Q : Value → Shared → Prop} (hh : A.handled = none) (hl : s.heap.IsList l its) (hk : ks.length = its.size) (hv : ∀ (i : Nat) (v : Value) (k : Key), its[i]? = some v → ks[i]? = some k → keyIs k v = true) (hb : ks.length + 1 < scanBound)
    (h : ∀ (h1 : Heap) (tk c : Nat), SetG P w h1 s.heap.objs.size (hasK ks) c → c ≤ ks.length → (∀ b o, s.heap.get? b = some o → h1.get? b = some o) → Q (.ref s.heap.objs.size) { s with heap := h1, toks := tk }) :
    wpAny (model P w) A (call (.type "set") [.ref l]) Q E s := by
  obtain ⟨c, tl, hmro⟩ := F.called_set.mro
  have hmade := F.called_set.made
  have hsub := F.called_set.sub
  refine wpAny_call (codeAny_of_tree ?_)
  show wpAny _ _ (callAny (.type "set") _) _ _ _
  refine wpAny_pure ⟨Code.quiet_builtin _ (by decide +kernel), codeAny_builtin F.entry_type_call ?_⟩
  rw [Around.under_plain (weight_type_call_type "set" [.ref l] []) rfl]
  have h1 := F.called_set.notType
  have h2 := F.called_set.canCreate
  have hct := F.typeCall_set_1 (.ref l)
  repeat (any_goals (first | assumption | wp_step))
  refine codeAny_mono (code_set_led1 (.ref l) (E := E) (Q₁ := fun u s1 => u = .ref s.heap.objs.size ∧ s1 = { s with heap := s.heap.push (newSetO w) }) ⟨rfl, rfl⟩) fun r s1 hr => ?_
  cases r with
  | error e => exact hr
  | ok way =>
    cases way with
    | ret u =>
      obtain ⟨rfl, rfl⟩ := hr
      have at0 : (s.heap.push (newSetO w)).get? s.heap.objs.size = some (newSetO w) := Heap.get?_push_size _ rfl
      have ty0 : Shared.TypeIs { s with heap := s.heap.push (newSetO w) } (.ref s.heap.objs.size) "set" := ⟨_, at0, rfl⟩
      have hli := F.called_set.init.lookup
      have hbi := F.called_set.init.bind (.ref s.heap.objs.size)
      repeat (any_goals (first | assumption | wp_step))
      refine codeAny_mono (codeAny_call_builtin (R := wants (fun r s2 => r = .none ∧ ∃ h1 tk c, s2 = { s with heap := h1, toks := tk } ∧ SetG P w h1 s.heap.objs.size (hasK ks) c ∧ c ≤ ks.length ∧
          (∀ b o, s.heap.get? b = some o → h1.get? b = some o)) E) F.called_set.init.plain F.entry_set_init (check_set_init_1 ty0 ?_)) fun r2 s2 hr2 => ?_
      · obtain ⟨⟨cl, dd, da, sl⟩, hol, hcl, nl, hdl⟩ := hl
        simp only at hcl hdl
        subst hcl hdl
        have hol1 : (s.heap.push (newSetO w)).get? l = some { cls := .type "list", dict := dd, data := .seq its nl, slots := sl } := Heap.get?_push_of_some _ hol
        have hsls := F.sub_list_set
        have hslf := F.sub_list_frozenset
        have hne : (Value.type "list" == Value.type "dict") = false := by decide
        have hl1 : (s.heap.push (newSetO w)).IsList l its := ⟨_, hol1, rfl, nl, rfl⟩
        unfold Builtin.«set.__init__» noKeywords Builtin.Frozenset.updateFrom
        generalize hPI : pyIter = PI
        wp_walk
        subst hPI
        refine wpAny_pyIter_list hl1 ?_
        refine wpAny_bind (wpAny_runValue ?_)
        have below : l < s.heap.objs.size := Heap.lt_size hol
        have calm : A.in1.in1.in1.handled = none := by simp [hh]
        have sz1 : (s.heap.push (newSetO w)).objs.size = s.heap.objs.size + 1 := Heap.size_push ..
        have nI : l ≠ (s.heap.push (newSetO w)).objs.size := by rw [sz1]; exact Nat.ne_of_lt (Nat.lt_succ_of_lt below)
        have nD : s.heap.objs.size ∉ [(s.heap.push (newSetO w)).objs.size, l] := by
          rw [sz1]
          simp only [List.mem_cons, List.mem_singleton, List.not_mem_nil, or_false, not_or]
          exact ⟨Nat.ne_of_lt (Nat.lt_succ_self _), Nat.ne_of_gt below⟩
        have val : ∀ (i : Nat) (v : Value), its[i]? = some v → ∃ k, ks[i]? = some k ∧ keyIs k v = true := fun i v z => by
          have lt := (Array.getElem?_eq_some_iff.mp z).1
          have e : ks[i]? = some (ks[i]'(by omega)) := List.getElem?_eq_getElem _
          exact ⟨_, e, hv i v _ z e⟩
        refine setG_loop ((Walks.list calm _ l nI its).toS) s.heap.objs.size nD ks hk.symm hb val (its.size - 0) 0 _ (by omega) (Nat.zero_le _) ⟨⟨_, Heap.get?_push_size _ rfl, rfl, rfl⟩, (hl1.push _)⟩ ?start ?fin
        case start =>
          exact ⟨0, Nat.le_refl 0, (setG_fresh (Heap.get?_push_of_some _ at0)).congr fun k => rfl⟩
        case fin =>
          intro s3 c3 mv hc3 hS3
          obtain ⟨h3, g3, d3, tk3, os3⟩ := s3
          obtain rfl : g3 = s.gens := mv.gens
          obtain rfl : d3 = s.drawn := mv.drawn
          obtain rfl : os3 = s.os := mv.os
          show wpAny _ _ _ _ _ _
          refine wpAny_pure ?_
          show wpAny _ _ (ret Value.none) _ _ _
          refine wpAny_pure ⟨rfl, h3, tk3, c3, rfl, hS3, by omega, fun b o e => ?_⟩
          have b0 : b < s.heap.objs.size := Heap.lt_size e
          refine mv.heap b o ?_ (Heap.get?_push_of_some _ (Heap.get?_push_of_some _ e))
          rw [sz1]
          simp only [List.mem_cons, List.mem_singleton, List.not_mem_nil, or_false, not_or]
          exact ⟨Nat.ne_of_lt b0, Nat.ne_of_lt (Nat.lt_succ_of_lt b0)⟩
      · cases r2 with
        | error e => exact hr2
        | ok way2 =>
          cases way2 with
          | ret u2 =>
            obtain ⟨rfl, h3, tk3, c3, rfl, hS3, hc3, keep⟩ := hr2
            repeat (any_goals (first | assumption | wp_step))
            exact h h3 tk3 c3 hS3 hc3 keep
          | next => exact hr2
          | brk => exact hr2
          | cont => exact hr2
    | next => exact hr
    | brk => exact hr
    | cont => exact hr
end
/-! ### sorted(set) -/
def kD : Key → PyData
  | .inl i => .int i
  | .inr x => .str x
theorem kD_depth (k : Key) : (kD k).depth ≤ 1 := by
  cases k with
  | inl i => simp [kD, PyData.depth]
  | inr x => simp [kD, PyData.depth]
theorem kD_reads {h : Heap} {k : Key} {v : Value} (hk : keyIs k v = true) : Reads h v (kD k) [] := by
  rcases keyIs_shape hk with ⟨i, t, rfl, rfl⟩ | ⟨x, t, rfl, rfl⟩
  · exact .int i t
  · exact .str x t
theorem each_ky : ∀ {vs : List Value}, (∀ v ∈ vs, keyIs (ky v) v = true) → PySem.W.EachIs (fun u k => keyIs k u = true) vs (vs.map ky)
  | [], _ => .nil
  | v :: vs, h => .cons (h v List.mem_cons_self) (each_ky fun x hx => h x (List.mem_cons_of_mem _ hx))
theorem each_vals : ∀ {us : List Value} {ks : List Key}, PySem.W.EachIs (fun u k => RelV (kV k) u) us ks → Vals (ks.map kV) us
  | _, _, .nil => .nil
  | _, _, .cons r t => .cons r (each_vals t)
section
variable {P : Program} {w : World} {A : Around} {E : Value → Shared → Prop} {s : Shared} {a : Addr} {S : Key → Bool} {n : Nat}
theorem sorted_setG {Q : Value → Shared → Prop} (R : SetG P w s.heap a S n) (hh : A.handled = none) (hu : A.units + 64 < cLine) (hal : ∀ j k, S j = true → S k = true → PySem.W.alike (kD j) (kD k) = true)
    (hQ : ∀ s1 p c (out : List Value) (ks : List Key), (∀ b o, s.heap.get? b = some o → s1.heap.get? b = some o) → s1.gens = s.gens → s1.os = s.os → s.heap.objs.size ≤ p → s1.heap.get? p = some (seqObj "list" out.toArray c) →
      ks.Nodup → (∀ k, k ∈ ks ↔ S k = true) → ks.length = n → Vals ((ks.mergeSort (PySem.W.dataLe false kD)).map kV) out → Q (.ref p) s1) :
    wpAny (model P w) A (call (.builtin "sorted") [.ref a]) Q E s := by
  obtain ⟨o, es, ep, t, ho, hx, hd, g, nd, hm, hn, hb, hf, hr, hl⟩ := R.ex
  refine Calls.call_function_entry kind_sorted plain_sorted entry_sorted (args_sorted1 _) ?_
  unfold Builtin.«sorted»
  refine wpAny_bind (m := checkCount "sorted" 1 1 _) (wpAny_pure ?_)
  refine wpAny_bind (collect_set (A := A.in1) hh ⟨o, ho, hx.1, hd⟩ hf (by rw [hn]; exact hb) hr hl fun s1 vs k1 z1 g1 o1 pm => ?_)
  have isk : ∀ v ∈ vs, keyIs (ky v) v = true := by
    intro v hv
    obtain ⟨e, he, rfl⟩ := List.mem_map.mp (pm.mem_iff.mp hv)
    obtain ⟨⟨k, hk, _⟩, _⟩ := g e he
    have hk : keyIs k e.2 = true := hk
    rw [ky_of hk]
    exact hk
  have pk : (vs.map ky).Perm (es.toList.map fun e => ky e.2) := by
    have z := pm.map ky
    rw [List.map_map] at z
    exact z
  have lenv : vs.length = n := by rw [pm.length_eq, List.length_map, Array.length_toList, hn]
  have mem : ∀ k, k ∈ vs.map ky ↔ S k = true := fun k => pk.mem_iff.trans (hm k).symm
  have small : vs.length ≤ sizeLine := by
    rw [lenv]
    exact fits_of_scanBound hb
  refine wpAny_bind (wpAny_newList ?_ small)
  have at1 : (s1.heap.push (seqObj "list" vs.toArray 0)).get? s1.heap.objs.size = some (seqObj "list" vs.toArray 0) := Heap.get?_push_size _ rfl
  have e1 := each_ky isk
  refine wpAny_bind (wpAny_holding (PySem.W.list_sort_data (s := { s1 with heap := s1.heap.push (seqObj "list" vs.toArray 0) }) (R := fun u k => RelV (kV k) u) (enc := kD) (bs := vs.map ky) at1 (e1.mono fun _ _ z => rel_of_is z) (e1.mono fun _ _ z => ⟨[], kD_reads z, by simp⟩) ?_ ?_ (by rw [List.length_map]; exact small) ?_ fun out lo eo => ?_))
  · intro d hd d' hd'
    obtain ⟨j, hj, rfl⟩ := List.mem_map.mp hd
    obtain ⟨k, hk, rfl⟩ := List.mem_map.mp hd'
    exact hal j k ((mem j).mp hj) ((mem k).mp hk)
  · refine .inr fun d hd => ?_
    obtain ⟨j, hj, rfl⟩ := List.mem_map.mp hd
    cases j <;> exact ⟨by simp [kD], fun xs => by simp [kD]⟩
  · intro k hk
    have := kD_depth k
    show A.units + 1 + 1 + (kD k).depth < cLine
    omega
  · obtain ⟨c, hc⟩ := sortedHeap_at (vs := vs) (out := out.toArray) at1
    refine wpAny_pure ⟨_, rfl, hQ { s1 with heap := sortedHeap (s1.heap.push (seqObj "list" vs.toArray 0)) s1.heap.objs.size vs out.toArray } s1.heap.objs.size c out (vs.map ky) (fun b u e => ?_) g1 o1 z1 hc (pk.nodup_iff.mpr nd) mem (by rw [List.length_map]; exact lenv) (each_vals eo)⟩
    have z := k1 b u e
    have lt := Heap.lt_size z
    show (sortedHeap (s1.heap.push (seqObj "list" vs.toArray 0)) s1.heap.objs.size vs out.toArray).get? b = some u
    rw [sortedHeap_old (Nat.ne_of_lt lt) (by rw [size_push']; exact Nat.lt_succ_of_lt lt)]
    exact Heap.get?_push_of_some _ z
end
/-! ### the rules -/
def SetGO (P : Program) (w : World) (a : Addr) (S : Key → Bool) (n : Nat) : HO := .ext fun h => SetG P w h a S n
section
variable {X : Cx}
theorem setGO_new {w : World} {P : Program} {H : Hp} {h : Heap} {a : Addr} {S : Key → Bool} {n : Nat} (R : SetG P w h a S n) : ObjOk P w H h a (SetGO P w a S n) :=
  ⟨R, R.there, fun _ _ p k => SetG.at p k⟩
theorem setGO_get {pins : List (Addr × Obj)} {σ : L2.St} {H : Hp} {s : Shared} {a : Addr} {S : Key → Bool} {n : Nat} (I : Inv X pins σ H s) (ha : H a = some (SetGO X.prog X.w a S n)) : SetG X.prog X.w s.heap a S n := (I.hok a _ ha).1
theorem vals_keys : ∀ {ks : List Key} {us : List Value}, Vals (ks.map kV) us → ∀ (i : Nat) (v : Value) (k : Key), us[i]? = some v → ks[i]? = some k → keyIs k v = true
  | [], _, h, i, v, k, _, e => by simp at e
  | j :: ks, u :: us, .cons r t, 0, v, k, h1, h2 => by
    cases h1
    cases h2
    cases j with
    | inl i =>
      obtain ⟨t, rfl⟩ := r
      exact keyIs_int i t
    | inr x =>
      obtain ⟨t, rfl⟩ := r
      exact keyIs_str x t
  | j :: ks, u :: us, .cons r t, i + 1, v, k, h1, h2 => vals_keys t i v k (by simpa using h1) (by simpa using h2)
/-- set(xs), xs a list of keys -/
def rSetG (K : PySem.W.Frag) (P : Program) (w : World) : List V → Hp → VK → Prop := fun vs H Q => ∃ (l : Addr) (ks : List Key), vs = [.ref l] ∧ SqL K H l (ks.map kV) ∧ ks.length + 1 < scanBound ∧ ∀ p c, H p = none → c ≤ ks.length → Q (.ref p) (upd H p (SetGO P w p (hasK ks) c))
theorem call_setG (hc : X.calm = true) : CallR X (.type "set") (rSetG X.K X.prog X.w) := by
  intro pins s σ H vs us Q I r h
  obtain ⟨l, ks, rfl, hl, hb, q⟩ := h
  rw [Vals.ref1 r]
  obtain ⟨its, rv, pl, hz⟩ := I.list hl
  have len := rv.length
  rw [List.length_map] at len
  refine set_of_list ks (I.ok.hd hc) pl.isList (by rw [List.size_toArray]; exact len) (fun i v k h1 h2 => vals_keys rv i v k (by simpa using h1) h2) hb fun h1 tk c R hc k => ?_
  exact ⟨.ref _, _, I.laid (t' := tk) k (Nat.le_refl _) (setGO_new R), rfl, q _ c (I.hok.fresh (Nat.le_refl _)) hc⟩
/-- sorted(x), x a set of keys of one kind: a new list -/
def rSortG (P : Program) (w : World) : List V → Hp → VK → Prop := fun vs H Q => ∃ (a : Addr) (S : Key → Bool) (n : Nat), vs = [.ref a] ∧ H a = some (SetGO P w a S n) ∧ (∀ j k, S j = true → S k = true → PySem.W.alike (kD j) (kD k) = true) ∧
  ∀ (ks : List Key) p, ks.Nodup → (∀ k, k ∈ ks ↔ S k = true) → ks.length = n → H p = none → Q (.ref p) (upd H p (.lst ((ks.mergeSort (PySem.W.dataLe false kD)).map kV)))
theorem cr_sortG (hc : X.calm = true) (hu : X.A.units + 64 < cLine) : CallR X (.builtin "sorted") (rSortG X.prog X.w) := by
  intro pins s σ H vs us Q I r h
  obtain ⟨a, S, n, rfl, ha, hal, q⟩ := h
  have R := setGO_get I ha
  rw [Vals.ref1 r]
  refine sorted_setG R (I.ok.hd hc) hu hal fun s1 p c out ks k g o hp at1 nd mem len rel => ?_
  have small : ((ks.mergeSort (PySem.W.dataLe false kD)).map kV).length ≤ sizeLine := by
    rw [List.length_map, List.length_mergeSort, len]
    obtain ⟨_, _, _, _, _, _, _, _, _, _, _, hb, _⟩ := R.ex
    exact fits_of_scanBound hb
  have free : H p = none := I.hok.fresh hp
  have J : Inv X pins σ (upd H p (.lst ((ks.mergeSort (PySem.W.dataLe false kD)).map kV))) { s with heap := s1.heap, gens := s1.gens, drawn := s1.drawn, toks := s1.toks } :=
    I.call (ch := []) (Un.laid k hp free) (I.hok.laid k hp ⟨small, out, c, rel, at1⟩) (by rw [g]; exact I.bare) (fun _ z => nomatch z)
  have e : s1 = { s with heap := s1.heap, gens := s1.gens, drawn := s1.drawn, toks := s1.toks } := by
    cases s1
    cases s
    cases o
    rfl
  rw [e]
  exact ⟨.ref p, _, J, rfl, q ks p nd mem len free⟩
/-- k in x, k not in x -/
def rInG (P : Program) (w : World) (neg : Bool) : V → V → Hp → VK → Prop := fun x y H Q => ∃ (k : Key) (a : Addr) (S : Key → Bool) (n : Nat), x = kV k ∧ y = .ref a ∧ H a = some (SetGO P w a S n) ∧ Q (.bl (if neg then !S k else S k)) H
theorem op_inG : OpR X (compareOp .In) (rInG X.prog X.w false) := by
  intro pins s σ H x y v u Q I rx ry h
  obtain ⟨k, a, S, n, rfl, rfl, ha, q⟩ := h
  cases ry
  exact wpAny_inSet_of (kV_is rx) (key_scanG rx) (setGO_get I ha).setOf ⟨.bl (S k), H, I.tok _, rfl, q⟩
where
  key_scanG {k : Key} {u : Value} (r : RelV (kV k) u) : u.scannable = true := by
    cases k with
    | inl i =>
      obtain ⟨t, rfl⟩ := r
      rfl
    | inr x =>
      obtain ⟨t, rfl⟩ := r
      rfl
theorem op_notInG : OpR X (compareOp .NotIn) (rInG X.prog X.w true) := by
  intro pins s σ H x y v u Q I rx ry h
  obtain ⟨k, a, S, n, rfl, rfl, ha, q⟩ := h
  cases ry
  exact wpAny_notInSet_of (kV_is rx) (op_inG.key_scanG rx) (setGO_get I ha).setOf ⟨.bl (!S k), H, I.tok _, rfl, q⟩
end
/-! ### the sorted keys, numbers or texts alone -/
theorem sort_ints (ns : List Int) : (ns.map (Sum.inl : Int → Key)).mergeSort (PySem.W.dataLe false kD) = (ns.mergeSort fun a b => decide (a ≤ b)).map Sum.inl := by
  refine (List.map_mergeSort fun a _ b _ => ?_).symm
  show decide (a ≤ b) = !PySem.W.dataLt (.int b) (.int a)
  rw [PySem.W.dataLt_int]
  by_cases h : b < a
  · rw [decide_eq_true h, decide_eq_false (by omega)]
    rfl
  · rw [decide_eq_false h, decide_eq_true (by omega)]
    rfl
theorem only_ints : ∀ {ks : List Key}, (∀ k ∈ ks, ∃ i, k = .inl i) → ∃ ns : List Int, ks = ns.map Sum.inl
  | [], _ => ⟨[], rfl⟩
  | k :: ks, h => by
    obtain ⟨i, rfl⟩ := h k List.mem_cons_self
    obtain ⟨ns, rfl⟩ := only_ints fun j hj => h j (List.mem_cons_of_mem _ hj)
    exact ⟨i :: ns, rfl⟩
/-- what sorted tells of a set of whole numbers -/
theorem sorted_ints {S : Key → Bool} {n : Nat} (hS : ∀ k, S k = true → ∃ i, k = .inl i) {ks : List Key} (nd : ks.Nodup) (mem : ∀ k, k ∈ ks ↔ S k = true) (len : ks.length = n) :
    ∃ ns : List Int, (ks.mergeSort (PySem.W.dataLe false kD)).map kV = ns.map V.int ∧ ns.Pairwise (· < ·) ∧ (∀ i, i ∈ ns ↔ S (.inl i) = true) ∧ ns.length = n := by
  obtain ⟨ms, rfl⟩ := only_ints fun k hk => hS k ((mem k).mp hk)
  have perm := List.mergeSort_perm ms fun a b => decide (a ≤ b)
  have nd2 : ms.Nodup := (List.pairwise_map.mp nd).imp fun h e => h (by rw [e])
  refine ⟨ms.mergeSort fun a b => decide (a ≤ b), ?_, ?_, fun i => ?_, ?_⟩
  · rw [sort_ints, List.map_map]
    rfl
  · have srt := List.pairwise_mergeSort (le := fun a b : Int => decide (a ≤ b)) (fun a b c h1 h2 => decide_eq_true (by have := of_decide_eq_true h1; have := of_decide_eq_true h2; omega)) (fun a b => by rw [Bool.or_eq_true, decide_eq_true_eq, decide_eq_true_eq]; omega) ms
    have nd3 : (ms.mergeSort fun a b => decide (a ≤ b)).Pairwise (· ≠ ·) := perm.nodup_iff.mpr nd2
    refine (srt.and nd3).imp fun {a b} h => ?_
    have := of_decide_eq_true h.1
    have := h.2
    omega
  · rw [perm.mem_iff, ← mem]
    constructor
    · exact fun h => List.mem_map_of_mem h
    · intro h
      obtain ⟨j, hj, e⟩ := List.mem_map.mp h
      rw [← Sum.inl.inj e]
      exact hj
  · rw [perm.length_eq, ← len, List.length_map]
end L2
/-! {e for t0 in i0 for t1 in i1}: a set of keys by a comprehension of two clauses; and several dicts locked while an expression runs. -/
namespace L2
open PySem PySem.Spec PyProof.Rows
section
variable {X : Cx}
/-- x.add(k) within a comprehension -/
theorem addG_ok {pins : List (Addr × Obj)} {σ : L2.St} {H : Hp} {s : Shared} {E : Value → Shared → Prop} {D : Addr} {S : Key → Bool} {n : Nat} {k : Key} {u : Value} {Q : Value → Shared → Prop} (I : Inv X pins σ H s) (hD : H D = some (SetGO X.prog X.w D S n)) (room : n + 1 < scanBound) (ru : RelV (kV k) u)
    (h : ∀ s1, Inv X pins σ (upd H D (SetGO X.prog X.w D (fun j => S j || decide (j = k)) (if S k = true then n else n + 1))) s1 → Q .none s1) :
    wpAny (model X.prog X.w) X.A (call (.builtin "set.add") [.ref D, u]) Q E s := by
  have R := setGO_get I hD
  have hk : (mixKind X.prog X.w).is k u = true := kV_is ru
  refine wpAny_call_entry F.slot_set_add R.setOf.typeIs F.entry_set_add ?_ (F.args_set_add_2 _ _)
  unfold Builtin.«set.add» Builtin.Frozenset.oneOther
  simp only [List.isEmpty_nil, bind_assoc]
  unfold Builtin.Frozenset.addrOf setAdd
  refine wpAny_bind (wpAny_pure ?_)
  try dsimp only
  refine wpAny_bind (wpAny_pure ?_)
  try dsimp only
  refine wpAny_bind (wpAny_holding (wpAny_bind ((mixKind X.prog X.w).pyHash hk ?_)))
  refine setG_put (s := { s with toks := s.toks + 1 }) hk R room fun h1 sb R1 => ?_
  show wpAny _ _ (ret Value.none) _ _ _
  refine wpAny_pure ⟨_, rfl, h _ ?_⟩
  exact I.write (e := D) (t' := s.toks + 1) (by rw [hD]; trivial) (.inl rfl) (fun b o hb e => (sb.2 b hb).trans e) R1.there (setGO_new R1)
end
section
variable {prog : Program} {w : World} {A : Around} {R : Result → Shared → Prop} {s : Shared} {env : Env} {elt t0 i0 t1 i1 : Expr} {scope : Scope} {pos : Pos} {it acc : Value}
abbrev SC2 (elt t0 i0 t1 i1 : Expr) (scope : Scope) (pos : Pos) : Expr := .SetComp elt [⟨t0, i0, [], 0⟩, ⟨t1, i1, [], 0⟩] scope pos
abbrev NoX : Value → Shared → Prop := fun _ _ => False
theorem toNo {α : Type} {M : Model} {t : Sem α} {Q : α → Shared → Prop} {E : Value → Shared → Prop} {s : Shared} (h : wpAny M A t Q NoX s) : wpAny M A t Q E s := wpAny_mono h (fun _ _ q => q) fun _ _ z => z.elim
theorem sc2_turn0 (elt t0 i0 t1 i1 : Expr) (scope : Scope) (pos : Pos) (it acc : Value) (env : Env) : compTurn (SC2 elt t0 i0 t1 i1 scope pos) 0 it acc env = (do
      standAt i0.pos
      match ← pyNext it with
      | none => pure (.done .next)
      | some v =>
        letOwnedTupleGo t0 it v
        assign t0 env v
        let mut good := true
        for c in ([] : List Expr) do
          if good then good ← isTrue c env (eval c env)
        if good then
          let x ← eval i1 env
          standAt i1.pos
          let x ← foldedSetIterable i1 env x
          let _ ← runOwn (.compStart (SC2 elt t0 i0 t1 i1 scope pos) 1 (← holding [x] (pyIter x)) acc env) env
        again (.compLoop (SC2 elt t0 i0 t1 i1 scope pos) 0 it acc env)) := by rfl
theorem sc2_turn1 (elt t0 i0 t1 i1 : Expr) (scope : Scope) (pos : Pos) (it acc : Value) (env : Env) : compTurn (SC2 elt t0 i0 t1 i1 scope pos) 1 it acc env = (do
      standAt i1.pos
      match ← pyNext it with
      | none => pure (.done .next)
      | some v =>
        letOwnedTupleGo t1 it v
        assign t1 env v
        let mut good := true
        for c in ([] : List Expr) do
          if good then good ← isTrue c env (eval c env)
        if good then
          (do let v ← eval elt env; standAt elt.pos; let _ ← call (.builtin "set.add") [acc, v])
        again (.compLoop (SC2 elt t0 i0 t1 i1 scope pos) 1 it acc env)) := by rfl
/-- the first clause's loop: J holds at each turn, its number falls -/
theorem sc2_loop0 (plain : ∀ x, foldedSetIterable i1 env x = pure x) (J : Nat → Shared → Prop)
    (turn : ∀ n s, J n s → wpAny (model prog w) A (pyNext it) (fun r s1 => match r with
      | none => R (.ok .next) s1
      | some v => wpAny (model prog w) A (letOwnedTupleGo t0 it v) (fun _ s2 => wpAny (model prog w) A (assign t0 env v) (fun _ s3 => wpAny (model prog w) A (eval i1 env) (fun x s4 => wpAny (model prog w) A (pyIter x) (fun j s5 =>
          codeAny (model prog w) A (.compStart (SC2 elt t0 i0 t1 i1 scope pos) 1 j acc env) (fun r s6 => (∃ f, r = .ok f) ∧ ∃ m, m < n ∧ J m s6) s5) NoX s4) NoX s3) NoX s2) NoX s1) NoX s)
    (n : Nat) (h : J n s) : codeAny (model prog w) A (.compLoop (SC2 elt t0 i0 t1 i1 scope pos) 0 it acc env) R s := by
  refine codeAny_loop rfl J (fun n s hJ => ?_) n h
  show wpAny _ A ((compTurn (SC2 elt t0 i0 t1 i1 scope pos) 0 it acc env).onRaise (fun x => do noteFrame x env; theTreesLotGoes x)) _ _ s
  rw [sc2_turn0]
  refine wpAny_noted (wpAny_bind (wpAny_standAt (wpAny_bind (toNo (wpAny_mono (turn n s hJ) (fun r s1 h1 => ?_) fun _ _ z => z)))))
  cases r with
  | none => exact wpAny_pure h1
  | some v =>
    refine wpAny_bind (toNo (wpAny_mono h1 (fun _ s2 h2 => ?_) fun _ _ z => z))
    refine wpAny_bind (toNo (wpAny_mono h2 (fun _ s3 h3 => ?_) fun _ _ z => z))
    refine wpAny_bind (wpAny_tests_nil ?_)
    refine wpAny_bind (toNo (wpAny_mono h3 (fun x s4 h4 => ?_) fun _ _ z => z))
    refine wpAny_bind (wpAny_standAt (wpAny_bind (wpAny_of_eq (plain x) (wpAny_bind (wpAny_holding (toNo (wpAny_mono h4 (fun j s5 h5 => ?_) fun _ _ z => z)))))))
    refine wpAny_bind (wpAny_runOwn ?_)
    rw [Around.mark_none]
    refine codeAny_mono h5 fun r s6 hr => ?_
    obtain ⟨⟨f, rfl⟩, hr⟩ := hr
    first
      | exact wpAny_pure ⟨rfl, hr⟩
      | exact wpAny_bind (wpAny_pure (wpAny_pure ⟨rfl, hr⟩))
/-- the second clause's loop -/
theorem sc2_loop1 (J : Nat → Shared → Prop)
    (turn : ∀ n s, J n s → wpAny (model prog w) A (pyNext it) (fun r s1 => match r with
      | none => R (.ok .next) s1
      | some v => wpAny (model prog w) A (letOwnedTupleGo t1 it v) (fun _ s2 => wpAny (model prog w) A (assign t1 env v) (fun _ s3 => wpAny (model prog w) A (eval elt env) (fun x s4 =>
          wpAny (model prog w) A (call (.builtin "set.add") [acc, x]) (fun _ s5 => ∃ m, m < n ∧ J m s5) NoX s4) NoX s3) NoX s2) NoX s1) NoX s)
    (n : Nat) (h : J n s) : codeAny (model prog w) A (.compLoop (SC2 elt t0 i0 t1 i1 scope pos) 1 it acc env) R s := by
  refine codeAny_loop rfl J (fun n s hJ => ?_) n h
  show wpAny _ A ((compTurn (SC2 elt t0 i0 t1 i1 scope pos) 1 it acc env).onRaise (fun x => do noteFrame x env; theTreesLotGoes x)) _ _ s
  rw [sc2_turn1]
  refine wpAny_noted (wpAny_bind (wpAny_standAt (wpAny_bind (toNo (wpAny_mono (turn n s hJ) (fun r s1 h1 => ?_) fun _ _ z => z)))))
  cases r with
  | none => exact wpAny_pure h1
  | some v =>
    refine wpAny_bind (toNo (wpAny_mono h1 (fun _ s2 h2 => ?_) fun _ _ z => z))
    refine wpAny_bind (toNo (wpAny_mono h2 (fun _ s3 h3 => ?_) fun _ _ z => z))
    refine wpAny_bind (wpAny_tests_nil ?_)
    refine wpAny_bind (wpAny_bind (toNo (wpAny_mono h3 (fun x s4 h4 => ?_) fun _ _ z => z)))
    exact wpAny_bind (wpAny_standAt (wpAny_bind (toNo (wpAny_mono h4 (fun _ s5 h5 => wpAny_pure (wpAny_pure ⟨rfl, h5⟩)) fun _ _ z => z))))
/-- where the second clause starts -/
theorem sc2_start (go : codeAny (model prog w) A (.compLoop (SC2 elt t0 i0 t1 i1 scope pos) 1 it acc env) R s)
    (h : wpAny (model prog w) A (pyIter it) (fun j s1 => codeAny (model prog w) A (.compLoop (SC2 elt t0 i0 t1 i1 scope pos) 1 j acc env) R s1) (notedBy (model prog w) A env fun x s1 => R (.error x) s1) s) :
    codeAny (model prog w) A (.compStart (SC2 elt t0 i0 t1 i1 scope pos) 1 it acc env) R s := by
  refine codeAny_of_tree ?_
  show wpAny _ _ ((compStart (SC2 elt t0 i0 t1 i1 scope pos) 1 it acc env).onRaise (fun x => do noteFrame x env; standAt theWindowsPlace)) _ _ s
  refine wpAny_notedAt ?_
  unfold compStart
  show wpAny _ _ (ask >>= _) _ _ s
  refine wpAny_bind (wpAny_askSetting (wpAny_ite ?_))
  split
  · first
      | exact wpAny_pure ⟨rfl, go⟩
      | exact wpAny_bind (wpAny_pure (wpAny_pure ⟨rfl, go⟩))
  · refine wpAny_bind (wpAny_rule ?_)
    first
      | exact wpAny_bind (wpAny_standAt (wpAny_bind (wpAny_mono h (fun j s1 q => wpAny_pure ⟨rfl, q⟩) fun _ _ x => x)))
      | (show wpAny _ _ (standAt i1.pos >>= _) _ _ s; exact wpAny_bind (wpAny_standAt (wpAny_bind (wpAny_mono h (fun j s1 q => wpAny_pure ⟨rfl, q⟩) fun _ _ x => x))))
end
section
variable {X : Cx}
/-- the reading: the sources J, J1 turn by turn; D the new set; vs the names of the block, vs1 those of the second target -/
def tSc2 (P : Program) (w : World) (wi : TI) (g : TG) (wi1 : TI) (g1 : TG) (te : TE) (vs vs1 : List Nat) : TE := fun σ H Q => wi σ H fun J H1 => ∀ D, H1 D = none → ∃ W : Nat → Nat → Hp → Prop, (∃ m, W 0 m (upd H1 D (SetGO P w D (fun _ => false) 0))) ∧ ∀ i m H, W i m H →
  (J.stop i H ∧ Q (.ref D) H) ∨ (J.go i H ∧ ∃ Nx : Hp → Prop, (∀ H', Nx H' → ∃ m', m' < m ∧ W (i + 1) m' H') ∧ ∀ x H', J.yld i H x H' → g x (wipe σ vs) H' fun σ2 H2 => wipe σ2 vs = wipe σ vs ∧
    wi1 σ2 H2 fun J1 H4 => ∃ W1 : Nat → Nat → Hp → Prop, (∃ m, W1 0 m H4) ∧ ∀ j k H, W1 j k H →
      (J1.stop j H ∧ Nx H) ∨ (J1.go j H ∧ ∃ Nx1 : Hp → Prop, (∀ H', Nx1 H' → ∃ k', k' < k ∧ W1 (j + 1) k' H') ∧ ∀ x H', J1.yld j H x H' → g1 x (wipe σ2 vs1) H' fun σ3 H5 => wipe σ3 vs1 = wipe σ2 vs1 ∧
        te σ3 H5 fun y H7 => ∃ (c : Key) (S : Key → Bool) (n : Nat), y = kV c ∧ H7 D = some (SetGO P w D S n) ∧ n + 1 < scanBound ∧ Nx1 (upd H7 D (SetGO P w D (fun j => S j || decide (j = c)) (if S c = true then n else n + 1)))))
theorem pe_sc2 {elt t0 i0 t1 i1 : Expr} {scope : Scope} {own : List (Str × Nat)} {vs1 : List Nat} {pos : Pos} {wi wi1 : TI} {g g1 : TG} {te : TE} (hc : X.calm = true) (hN : X.N.Nodup) (hi : PI X t0 i0 wi) (ok : BlkOk X.N X.env.scope scope own) (hv : ∀ i ∈ vs1, i ∈ own.map (·.2))
    (hg : ∀ (s : Shared) (H : Hp) (C : Addr) (cl : List (Str × Addr)) (fp : List Addr), PG (X.blk s H scope (compEnvC scope cl C X.env) fp) t0 g) (hi1 : ∀ (s : Shared) (H : Hp) (C : Addr) (cl : List (Str × Addr)) (fp : List Addr), PI (X.blk s H scope (compEnvC scope cl C X.env) fp) t1 i1 wi1)
    (hg1 : ∀ (s : Shared) (H : Hp) (C : Addr) (cl : List (Str × Addr)) (fp : List Addr), PG (X.blk s H scope (compEnvC scope cl C X.env) fp) t1 g1) (he : ∀ (s : Shared) (H : Hp) (C : Addr) (cl : List (Str × Addr)) (fp : List Addr), PE (X.blk s H scope (compEnvC scope cl C X.env) fp) elt te)
    (hs : ∀ x, foldedSetIterable i0 X.env x = pure x := by intro _; rfl) (hs1 : ∀ env x, foldedSetIterable i1 env x = pure x := by intro _ _; rfl) :
    PE X (SC2 elt t0 i0 t1 i1 scope pos) (tSc2 X.prog X.w wi g wi1 g1 te (own.map (·.2)) vs1) := by
  refine ⟨fun pins s σ H Q I h => ?_⟩
  show wpAny _ _ (eval (.SetComp elt [⟨t0, i0, [], 0⟩, ⟨t1, i1, [], 0⟩] scope pos) X.env) _ _ s
  rw [PpSet.eval_SetComp]
  have frees : ∀ y ∈ scope.names, y.2 = .free → ∃ c, X.env.cells.lookup y.1 = some c := fun y hy e => (ok.free y hy e).elim (fun k => I.ok.has _ (.inl k)) fun k => I.ok.has _ (.inr k)
  refine wpAny_comprehension_free rfl hs (closure_ok frees) ok.kind (fun y hy e => by rw [ok.uniq y hy, e]) (thn (hi.run pins s σ H _ I h) fun x0 s1 hx => thn hx fun j0 s2 h2 => ?_)
  obtain ⟨it, fp, tn, J, H2, rfl, I2, T, st2, f2, q⟩ := h2
  refine PpSet.newSet_ok (newEnv_comp ?_)
  obtain ⟨D, eD⟩ : ∃ D, D = s2.heap.objs.size := ⟨_, rfl⟩
  rw [← eD]
  have dn : H2 D = none := I2.hok.fresh (Nat.le_of_eq eD.symm)
  obtain ⟨W, ⟨m0, w0⟩, turn⟩ := q D dn
  obtain ⟨s3, e3⟩ : ∃ s3 : Shared, s3 = { s2 with heap := s2.heap.push { cls := .type "set", dict := none, data := .set #[] 0 (.fresh 0 0 (!X.w.params.followText "set-order")) } } := ⟨_, rfl⟩
  rw [← e3]
  have heap3 : s3.heap = s2.heap.push { cls := .type "set", dict := none, data := .set #[] 0 (.fresh 0 0 (!X.w.params.followText "set-order")) } := by rw [e3]
  have I3 : Inv X pins σ (upd H2 D (SetGO X.prog X.w D (fun _ => false) 0)) s3 := by
    rw [e3]
    refine I2.laid (t' := s2.toks) (fun b o e => Heap.get?_push_of_some _ e) (Nat.le_of_eq eD.symm) (setGO_new (setG_fresh ?_))
    rw [eD]
    exact Heap.get?_push_size _ rfl
  have fp3 : ∀ b ∈ fp, FpOk X pins (upd H2 D (SetGO X.prog X.w D (fun _ => false) 0)) b ∧ b < s3.heap.objs.size := fun b hb => by
    obtain ⟨o, e, _⟩ := T.obj _ _ st2 b hb
    have lt := Heap.lt_size e
    refine ⟨⟨?_, (f2 b hb).2⟩, by rw [heap3, Heap.size_push]; exact Nat.lt_succ_of_lt lt⟩
    rw [upd_ne (by rw [eD]; exact Nat.ne_of_lt lt)]
    exact (f2 b hb).1
  have tn3 : tn 0 s3.heap := T.keep _ _ _ st2 fun b _ o e => by rw [heap3]; exact Heap.get?_push_of_some _ e
  have I4 := block_start I3 ok hN fp3
  have G0 := hg s3 (upd H2 D (SetGO X.prog X.w D (fun _ => false) 0)) s3.heap.objs.size (cellsFrom (s3.heap.objs.size + 1) scope.names (cloFrom X.env.cells scope.names [])) fp
  have S1 := hi1 s3 (upd H2 D (SetGO X.prog X.w D (fun _ => false) 0)) s3.heap.objs.size (cellsFrom (s3.heap.objs.size + 1) scope.names (cloFrom X.env.cells scope.names [])) fp
  have G1 := hg1 s3 (upd H2 D (SetGO X.prog X.w D (fun _ => false) 0)) s3.heap.objs.size (cellsFrom (s3.heap.objs.size + 1) scope.names (cloFrom X.env.cells scope.names [])) fp
  have E1 := he s3 (upd H2 D (SetGO X.prog X.w D (fun _ => false) 0)) s3.heap.objs.size (cellsFrom (s3.heap.objs.size + 1) scope.names (cloFrom X.env.cells scope.names [])) fp
  show codeAny _ _ (.compStart (SC2 elt t0 i0 t1 i1 scope pos) 0 (.ref it) (.ref D) (compEnvC scope (cellsFrom (s3.heap.objs.size + 1) scope.names (cloFrom X.env.cells scope.names [])) s3.heap.objs.size X.env)) (compPost (model X.prog X.w) X.A X.xe none (EP X pins σ Q) (.ref D) s3.heap.objs.size)
    { s3 with heap := pushCells (s3.heap.push { cls := .type "dict", data := .dict #[] }) scope.names }
  have free3 : ∀ b ∈ fp, (upd H2 D (SetGO X.prog X.w D (fun _ => false) 0)) b = none := fun b hb => (fp3 b hb).1.1
  generalize hce : compEnvC scope (cellsFrom (s3.heap.objs.size + 1) scope.names (cloFrom X.env.cells scope.names [])) s3.heap.objs.size X.env = ce at I4 G0 S1 G1 E1 ⊢
  have loc : ce.locals = s3.heap.objs.size := by subst hce; rfl
  generalize upd H2 D (SetGO X.prog X.w D (fun _ => false) 0) = H3 at I3 I4 G0 S1 G1 E1 w0 free3 fp3
  obtain ⟨s4, e4⟩ : ∃ s4 : Shared, s4 = { s3 with heap := pushCells (s3.heap.push { cls := .type "dict", data := .dict #[] }) scope.names } := ⟨_, rfl⟩
  rw [← e4] at I4 ⊢
  have tn4 : tn 0 s4.heap := T.keep _ _ _ tn3 fun b _ o e => by rw [e4]; exact pushCells_keeps _ _ _ _ (Heap.get?_push_of_some _ e)
  have spot : ∀ {σ' : L2.St} {H' : Hp} {s' : Shared}, Inv (X.blk s3 H3 scope ce fp) [] σ' H' s' → (∀ b ∈ fp, H' b = none) → ∀ b ∈ fp, FpOk (X.blk s3 H3 scope ce fp) [] H' b := fun {σ' H' s'} J' no b hb =>
    ⟨no b hb, (J'.ok.exf b hb).1, J'.ok.exfs b hb, .inl hb, fun x c e => (J'.ok.exf b hb).2 x c e, fun p hp => absurd (show p ∈ ([] : List (Addr × Obj)) ++ [] from hp) (by simp)⟩
  have all : codeAny (model X.prog X.w) X.A (.compLoop (SC2 elt t0 i0 t1 i1 scope pos) 0 (.ref it) (.ref D) ce) (compPost (model X.prog X.w) X.A X.xe none (EP X pins σ Q) (.ref D) s3.heap.objs.size) s4 := by
    refine sc2_loop0 (hs1 ce) (fun m s' => ∃ i H', Inv (X.blk s3 H3 scope ce fp) [] (wipe σ (own.map (·.2))) H' s' ∧ tn i s'.heap ∧ (∀ b ∈ fp, H' b = none) ∧ W i m H') ?_ m0 ⟨0, H3, I4, tn4, free3, w0⟩
    rintro m s5 ⟨i, H5, I5, tn5, free5, w5⟩
    rcases turn i m H5 w5 with ⟨stop, end5⟩ | ⟨go, Nx, back, step⟩
    · refine thnF (T.done (X.blk s3 H3 scope ce fp) rfl rfl rfl hc i [] s5 _ H5 NoX I5 (spot I5 free5) tn5 stop) fun r s6 ⟨hr, I6⟩ => ?_
      subst hr
      have I7 : Inv X pins σ H5 s6 := I3.call' (ch := fp) I6.os I6.base I6.hok I6.bare fun b hb => ⟨(fp3 b hb).1.2.2.2.1, (fp3 b hb).1.2.1, (fp3 b hb).1.2.2.2.2.1, (fp3 b hb).1.2.2.2.2.2⟩
      have noC : H5 s3.heap.objs.size = none := loc ▸ (show H5 ce.locals = none from I6.free)
      obtain ⟨ns, hn, _⟩ := I6.loc
      have hn : s6.heap.Ns ce.locals ns := hn
      rw [loc] at hn
      obtain ⟨f0, f1, f2', f3, f4, f5⟩ := I3.fpOk (H' := H5) (Nat.le_refl _) noC
      exact ⟨ns, hn, fun h'' sb => ⟨.ref D, H5, I7.turned (t' := s6.toks) (fun b o hb e => (sb.2 b hb).trans e) f0 f1 f3 f4 f5, rfl, end5⟩⟩
    · refine thnF (T.item (X.blk s3 H3 scope ce fp) rfl rfl rfl hc i [] s5 _ H5 NoX I5 (spot I5 free5) tn5 go) fun r s6 ⟨u, hr, h6⟩ => ?_
      subst hr
      refine thnF h6 fun _ s7 ⟨x, H7, I7, r7, y7, tn7, free7⟩ => ?_
      have I7' := I7.pinned (spot I7 free7) (T.obj _ _ tn7)
      refine thnF (G0.run _ s7 _ H7 x u _ I7' r7 (step x H7 y7)) fun _ s8 ⟨σ8, H8, I8, wp8, q8⟩ => ?_
      have next : ∀ {σ9 : L2.St} {s' : Shared} {H' : Hp}, Inv (X.blk s3 H3 scope ce fp) ([] ++ pinsAt fp s7.heap) σ9 H' s' → (wipe σ (own.map (·.2))).length = σ9.length → (∀ (j : Nat) v, (wipe σ (own.map (·.2)))[j]? = some (some v) → σ9[j]? = some (some v)) → Nx H' →
          ∃ l, l < m ∧ ∃ i H', Inv (X.blk s3 H3 scope ce fp) [] (wipe σ (own.map (·.2))) H' s' ∧ tn i s'.heap ∧ (∀ b ∈ fp, H' b = none) ∧ W i l H' := by
        intro σ9 s' H' I' same know nx
        obtain ⟨l, lt, w'⟩ := back H' nx
        have stays : ∀ b ∈ fp, ∀ o, s7.heap.get? b = some o → s'.heap.get? b = some o ∧ H' b = none := fun b hb o e =>
          have z := I'.pin (b, o) (List.mem_append_right _ (List.mem_append_right _ (mem_pinsAt hb e)))
          ⟨z.1, z.2.1⟩
        refine ⟨l, lt, i + 1, H', (I'.unpinned (pins := [])).weak same know, T.keep _ _ _ tn7 fun b hb o e => (stays b hb o e).1, fun b hb => ?_, w'⟩
        obtain ⟨o, e, _⟩ := T.obj _ _ tn7 b hb
        exact (stays b hb o e).2
      have same9 : (wipe σ (own.map (·.2))).length = (wipe σ8 vs1).length := by rw [← wp8, wipe_length, wipe_length]
      have know9 : ∀ (j : Nat) v, (wipe σ (own.map (·.2)))[j]? = some (some v) → (wipe σ8 vs1)[j]? = some (some v) := fun j v e => by
        rw [← wp8] at e
        obtain ⟨k1, k2⟩ := wipe_some e
        rw [wipe_out fun z => k2 (hv j z)]
        exact k1
      refine thnF (S1.run _ s8 σ8 H8 _ I8 q8) fun x1 s9 hx1 => thnF hx1 fun j1 s10 h10 => ?_
      obtain ⟨it1, fp1, tn1, J1, H10, rfl, I10, T1, st10, f10, W1, ⟨m1, w1⟩, turn1⟩ := h10
      have spot1 : ∀ {H' : Hp}, (∀ b ∈ fp1, H' b = none) → ∀ b ∈ fp1, FpOk (X.blk s3 H3 scope ce fp) ([] ++ pinsAt fp s7.heap) H' b := fun no b hb => ⟨no b hb, (f10 b hb).2⟩
      have inner : codeAny (model X.prog X.w) X.A (.compLoop (SC2 elt t0 i0 t1 i1 scope pos) 1 (.ref it1) (.ref D) ce) (fun r s' => (∃ f, r = .ok f) ∧ ∃ l, l < m ∧ ∃ i H', Inv (X.blk s3 H3 scope ce fp) [] (wipe σ (own.map (·.2))) H' s' ∧ tn i s'.heap ∧ (∀ b ∈ fp, H' b = none) ∧ W i l H') s10 := by
        refine sc2_loop1 (fun k s' => ∃ j H', Inv (X.blk s3 H3 scope ce fp) ([] ++ pinsAt fp s7.heap) (wipe σ8 vs1) H' s' ∧ tn1 j s'.heap ∧ (∀ b ∈ fp1, H' b = none) ∧ W1 j k H') ?_ m1 ⟨0, H10, I10.weak (wipe_length _ _) (fun j v e => (wipe_some e).1), st10, fun b hb => (f10 b hb).1, w1⟩
        rintro k s11 ⟨j, H11, I11, tn11, free11, w11⟩
        rcases turn1 j k H11 w11 with ⟨stop1, nx1⟩ | ⟨go1, Nx1, back1, step1⟩
        · refine thnF (T1.done (X.blk s3 H3 scope ce fp) rfl rfl rfl hc j _ s11 (wipe σ8 vs1) H11 NoX I11 (spot1 free11) tn11 stop1) fun r s12 ⟨hr, I12⟩ => ?_
          subst hr
          exact ⟨⟨_, rfl⟩, next I12 same9 know9 nx1⟩
        · refine thnF (T1.item (X.blk s3 H3 scope ce fp) rfl rfl rfl hc j _ s11 (wipe σ8 vs1) H11 NoX I11 (spot1 free11) tn11 go1) fun r s12 ⟨u1, hr, h12⟩ => ?_
          subst hr
          refine thnF h12 fun _ s13 ⟨y1, H13, I13, r13, y13, tn13, free13⟩ => ?_
          have I13' := I13.pinned (spot1 free13) (T1.obj _ _ tn13)
          refine thnF (G1.run _ s13 (wipe σ8 vs1) H13 y1 u1 _ I13' r13 (step1 y1 H13 y13)) fun _ s14 ⟨σ14, H14, I14, wp14, q14⟩ => ?_
          refine thnF (E1.run _ s14 σ14 H14 _ I14 q14) fun z s15 ⟨yv, H15, I15, r15, c, S, n, ey, eD15, room, nx⟩ => ?_
          subst ey
          refine addG_ok (X := X.blk s3 H3 scope ce fp) I15 eD15 room r15 fun s16 I16 => ?_
          obtain ⟨l, lt, w'⟩ := back1 _ nx
          have stays1 : ∀ b ∈ fp1, ∀ o, s13.heap.get? b = some o → s16.heap.get? b = some o ∧ _ = none := fun b hb o e =>
            have z := I16.pin (b, o) (List.mem_append_right _ (List.mem_append_right _ (mem_pinsAt hb e)))
            ⟨z.1, z.2.1⟩
          refine ⟨l, lt, j + 1, _, I16.unpinned.weak (by rw [← wp14, wipe_length]) (fun j v e => by rw [← wp14] at e; exact (wipe_some e).1), T1.keep _ _ _ tn13 fun b hb o e => (stays1 b hb o e).1, fun b hb => ?_, w'⟩
          obtain ⟨o, e, _⟩ := T1.obj _ _ tn13 b hb
          exact (stays1 b hb o e).2
      exact sc2_start inner (T1.self X.A 0 _ _ _ st10 inner)
  exact PpSet.codeAny_compStart_set all (T.self X.A 0 _ _ _ tn4 all)
end
/-! ### several dicts locked while an expression runs -/
def tLockN (t : TE) : List Addr → TE
  | [] => t
  | d :: ds => fun σ H Q => ∃ u, H d = some u ∧ Mut (some u) ∧ ∀ od, tLockN t ds σ (upd H d (.frz od u)) fun v H' => H' d = some (.frz od u) ∧ Q v (upd H' d u)
def tLocks (t : TE) : TE := fun σ H Q => ∃ ds, tLockN t ds σ H Q
theorem pe_locks {X : Cx} {e : Expr} {t : TE} (h : PE X e t) : PE X e (tLocks t) := by
  have one : ∀ ds : List Addr, PE X e (tLockN t ds) := by
    intro ds
    induction ds with
    | nil => exact h
    | cons d ds ih =>
      refine ⟨fun pins s σ H Q I hw => ?_⟩
      obtain ⟨u, hd, mu, hw⟩ := hw
      obtain ⟨od, I1⟩ := I.lock hd mu
      exact thn (ih.run pins s σ _ _ I1 (hw od)) fun v s1 ⟨x, H1, I2, r, e2, q⟩ => ⟨x, _, I2.unlock e2 (I.nofrz hd mu), r, q⟩
  exact ⟨fun pins s σ H Q I ⟨ds, hw⟩ => (one ds).run pins s σ H Q I hw⟩
theorem lockN_by {t : TE} {σ : L2.St} (f : Addr → HO) : ∀ (as : List Addr) (G : V → Hp → Prop) (H : Hp) (Q : VK), as.Nodup → (∀ a ∈ as, H a = some (f a)) → (∀ a ∈ as, Mut (some (f a))) →
    (∀ (H1 : Hp) (R : VK), (∀ a ∈ as, ∃ od, H1 a = some (.frz od (f a))) → (∀ b, b ∉ as → H1 b = H b) → (∀ v H', (∀ a ∈ as, H' a = H1 a) → G v H' → R v H') → t σ H1 R) →
    (∀ v H' H2, G v H' → (∀ a ∈ as, H2 a = some (f a)) → (∀ b, b ∉ as → H2 b = H' b) → Q v H2) → tLockN t as σ H Q
  | [], G, H, Q, _, _, _, run, fin => run H Q (fun _ h => by cases h) (fun _ _ => rfl) fun v H' _ g => fin v H' H' g (fun _ h => by cases h) fun _ _ => rfl
  | d :: ds, G, H, Q, nd, at0, mu, run, fin => by
    rw [List.nodup_cons] at nd
    refine ⟨f d, at0 d List.mem_cons_self, mu d List.mem_cons_self, fun od => ?_⟩
    have ne : ∀ a ∈ ds, a ≠ d := fun a ha e => nd.1 (e ▸ ha)
    refine lockN_by f ds (fun v H' => H' d = some (.frz od (f d)) ∧ G v H') _ _ nd.2 (fun a ha => by rw [upd_ne (ne a ha)]; exact at0 a (List.mem_cons_of_mem _ ha)) (fun a ha => mu a (List.mem_cons_of_mem _ ha)) ?_ ?_
    · intro H1 R lock rest cont
      have hd : H1 d = some (.frz od (f d)) := by rw [rest d nd.1, upd_same]
      refine run H1 R (fun a ha => ?_) (fun b hb => ?_) fun v H' same g => ?_
      · rcases List.mem_cons.mp ha with rfl | ha
        · exact ⟨od, hd⟩
        · exact lock a ha
      · have nb : b ≠ d := fun e => hb (e ▸ List.mem_cons_self)
        rw [rest b fun z => hb (List.mem_cons_of_mem _ z), upd_ne nb]
      · exact cont v H' (fun a ha => same a (List.mem_cons_of_mem _ ha)) ⟨(same d List.mem_cons_self).trans hd, g⟩
    · rintro v H' H2 ⟨hd, g⟩ back rest
      refine ⟨(rest d nd.1).trans hd, fin v H' _ g (fun a ha => ?_) fun b hb => ?_⟩
      · rcases List.mem_cons.mp ha with rfl | ha
        · exact upd_same
        · rw [upd_ne (ne a ha)]
          exact back a ha
      · have nb : b ≠ d := fun e => hb (e ▸ List.mem_cons_self)
        rw [upd_ne nb]
        exact rest b fun z => hb (List.mem_cons_of_mem _ z)
end L2
/-! sum of a tuple of whole numbers. -/
namespace L2
open PySem PySem.Spec PyProof.Rows
section
variable {prog : Program} {w : World} {A : Around} {E : Value → Shared → Prop} {s : Shared}
theorem sum_rawT {t : Addr} {its : List Value} {ns : List Int} {Q : Value → Shared → Prop} (hh : A.handled = none) (ht : s.heap.IsTuple t its.toArray) (hi : IntsAre its ns)
    (h : ∀ h' tk t', (∀ b o, s.heap.get? b = some o → h'.get? b = some o) → Q (.int ns.sum t') { s with heap := h', toks := tk }) : wpAny (model prog w) A (call (.builtin "sum") [.ref t]) Q E s := by
  obtain ⟨xs, e⟩ := hi.allInts.items
  have hn : numsOf (intItems xs).toList = ns := by rw [← e]; exact hi.numsOf
  rw [nums_intItems] at hn
  rw [e] at ht
  have lt : t < s.heap.objs.size := by obtain ⟨o, ho, _⟩ := ht; exact Heap.lt_size ho
  refine PySem.call_sum_walkG (wpAny_pyIter_tuple ht ?_)
  have sz : (s.heap.push { cls := .type "tuple_iterator", data := .fields #[.ref t, .int 0 0] }).objs.size = s.heap.objs.size + 1 := Heap.size_push ..
  refine ⟨_, _, _, _, _, _, numAt xs, rfl, Walks.tuple (A := A.in1) hh _ t (Nat.ne_of_lt lt) (intItems xs), ⟨⟨_, Heap.get?_push_size _ rfl, rfl, rfl⟩, ?_⟩, ?_, (fun _ _ => intItems_at), fun h' tk t' hk => ?_⟩
  · obtain ⟨o, ho, r⟩ := ht
    exact ⟨o, Heap.get?_push_of_some _ ho, r⟩
  · intro b hb
    simp only [List.mem_cons, List.not_mem_nil, or_false] at hb
    show b < (s.heap.push { cls := .type "tuple_iterator", data := .fields #[.ref t, .int 0 0] }).objs.size
    rw [sz]
    rcases hb with rfl | rfl
    · exact Nat.lt_succ_self _
    · exact Nat.lt_succ_of_lt lt
  · have := h h' tk t' fun b o q => hk b o (by
      simp only [List.mem_cons, List.not_mem_nil, or_false]
      exact Nat.ne_of_lt (Heap.lt_size q)) (Heap.get?_push_of_some _ q)
    have z : preSum (numAt xs) (intItems xs).size = ns.sum := by
      rw [show (intItems xs).size = xs.size by simp [intItems], preSum_eq, List.take_of_length_le (by simp), hn]
    rw [z]
    exact this
end
section
variable {X : Cx}
def rSumT (K : PySem.W.Frag) : List V → Hp → VK → Prop := fun vs H Q => ∃ (a : Addr) (ns : List Int), vs = [V.ref a] ∧ SqT K H a (ns.map V.int) ∧ Q (.int ns.sum) H
theorem cr_sumT (hc : X.calm = true) : CallR X (.builtin "sum") (rSumT X.K) := by
  intro pins s σ H vs us Q I r h
  obtain ⟨a, ns, rfl, hs, q⟩ := h
  obtain ⟨its, rv, tup, _⟩ := I.tuple hs
  rw [Vals.ref1 r]
  exact sum_rawT (I.ok.hd hc) tup rv.ints fun h' tk t' hk => ⟨.int _, H, I.kept hk, ⟨_, rfl⟩, q⟩
end
end L2
/-! k71, the plain law: lists of points and keys, bounds, sums; a list that goes on so that a key has its bound. -/
namespace K71
/-- one pair stands ahead of another one -/
def Bef (a b : Int × Int) : Prop := b.1 < a.1 ∨ (a.1 = b.1 ∧ a.2 < b.2)
theorem Bef.trans {a b c : Int × Int} (h : Bef a b) (k : Bef b c) : Bef a c := by
  unfold Bef at *
  omega
abbrev Row := List (Int × Int)
structure RowOk (r : Row) : Prop where
  len : r.length ≤ 40
  pts : ∀ q ∈ r, 1 ≤ q.1 ∧ q.1 ≤ 999
  key : ∀ q ∈ r, 1 ≤ q.2 ∧ q.2 ≤ 999
  nod : (r.map (·.2)).Nodup
  asc : r.Pairwise Bef
/-- the points of a key among the first d pairs -/
def rd (r : Row) (d : Nat) (k : Int) : List Int := ((r.take d).filter fun q => decide (q.2 = k)).map (·.1)
def bound (r : Row) (d : Nat) (k : Int) : Int := if d = r.length then 0 else match r[d - 1]? with
  | none => 999
  | some q => if d = 0 then 999 else if q.2 < k then q.1 else q.1 - 1
def low1 (r : Row) (d : Nat) (k : Int) : Int := (rd r d k).sum
def top1 (r : Row) (d : Nat) (k : Int) : Int := match rd r d k with
  | [] => bound r d k
  | x :: _ => x
theorem filter_one : ∀ {r : Row} (k : Int), (r.map (·.2)).Nodup → (r.filter fun q => decide (q.2 = k)) = [] ∨ ∃ q, (r.filter fun q => decide (q.2 = k)) = [q] ∧ q ∈ r ∧ q.2 = k
  | [], k, _ => .inl rfl
  | a :: r, k, h => by
    rw [List.map_cons, List.nodup_cons] at h
    by_cases hk : a.2 = k
    · right
      have e : (r.filter fun q => decide (q.2 = k)) = [] := by
        rw [List.filter_eq_nil_iff]
        intro q hq z
        have z := of_decide_eq_true z
        exact h.1 (by rw [hk, ← z]; exact List.mem_map_of_mem hq)
      exact ⟨a, by simp [List.filter_cons, hk, e], List.mem_cons_self, hk⟩
    · have e : ((a :: r).filter fun q => decide (q.2 = k)) = r.filter fun q => decide (q.2 = k) := by simp [List.filter_cons, hk]
      rw [e]
      rcases filter_one k h.2 with z | ⟨q, z1, z2, z3⟩
      · exact .inl z
      · exact .inr ⟨q, z1, List.mem_cons_of_mem _ z2, z3⟩
theorem RowOk.take {r : Row} (h : RowOk r) (d : Nat) : RowOk (r.take d) :=
  ⟨Nat.le_trans (List.length_take_le' _ _) h.len, fun q hq => h.pts q (List.mem_of_mem_take hq), fun q hq => h.key q (List.mem_of_mem_take hq), by
    rw [List.map_take]; exact h.nod.sublist (List.take_sublist _ _), h.asc.sublist (List.take_sublist _ _)⟩
theorem rd_cases {r : Row} (h : RowOk r) (d : Nat) (k : Int) : rd r d k = [] ∨ ∃ q, rd r d k = [q.1] ∧ q ∈ r.take d ∧ q.2 = k := by
  rcases filter_one k (h.take d).nod with z | ⟨q, z1, z2, z3⟩
  · exact .inl (by unfold rd; rw [z]; rfl)
  · exact .inr ⟨q, by unfold rd; rw [z1]; rfl, z2, z3⟩
theorem rd_next {r : Row} {d : Nat} {q : Int × Int} (hq : r[d]? = some q) (k : Int) : rd r (d + 1) k = rd r d k ++ (if q.2 = k then [q.1] else []) := by
  unfold rd
  rw [List.take_add_one, hq, List.filter_append, List.map_append]
  congr 1
  by_cases h : q.2 = k <;> simp [h]
theorem pair_le {r : Row} (h : RowOk r) {i j : Nat} {p q : Int × Int} (hi : r[i]? = some p) (hj : r[j]? = some q) (hij : i < j) : Bef p q := by
  obtain ⟨h1, e1⟩ := List.getElem?_eq_some_iff.mp hi
  obtain ⟨h2, e2⟩ := List.getElem?_eq_some_iff.mp hj
  have z := List.pairwise_iff_getElem.mp h.asc i j h1 h2 hij
  rw [e1, e2] at z
  exact z
/-- the bound is not below what comes -/
theorem bound_next {r : Row} (h : RowOk r) {d : Nat} {q : Int × Int} (hq : r[d]? = some q) (k : Int) : (q.2 = k → q.1 ≤ bound r d k) ∧ bound r (d + 1) k ≤ bound r d k ∧ 0 ≤ bound r d k := by
  have hd := (List.getElem?_eq_some_iff.mp hq).1
  have hm := List.mem_of_getElem? hq
  have p1 := h.pts q hm
  have e1 : bound r (d + 1) k = if d + 1 = r.length then 0 else if q.2 < k then q.1 else q.1 - 1 := by
    unfold bound
    rw [show d + 1 - 1 = d by omega, hq]
    simp
  rw [e1]
  cases d with
  | zero =>
    have e0 : bound r 0 k = 999 := by
      unfold bound
      rw [if_neg (by omega)]
      cases r[0 - 1]? <;> simp
    rw [e0]
    refine ⟨fun _ => by omega, ?_, by omega⟩
    split
    · omega
    · split <;> omega
  | succ d =>
    obtain ⟨p, hp⟩ : ∃ p, r[d]? = some p := ⟨_, List.getElem?_eq_getElem (by omega)⟩
    have b := pair_le h hp hq (Nat.lt_succ_self d)
    have pm := h.pts p (List.mem_of_getElem? hp)
    have e0 : bound r (d + 1) k = if p.2 < k then p.1 else p.1 - 1 := by
      unfold bound
      rw [if_neg (by omega), show d + 1 - 1 = d by omega, hp]
      simp
    rw [e0]
    unfold Bef at b
    refine ⟨fun e => ?_, ?_, ?_⟩
    · split <;> omega
    · split
      · split <;> omega
      · split <;> split <;> omega
    · split <;> omega
theorem step1 {r : Row} (h : RowOk r) {d : Nat} (hd : d < r.length) (k : Int) : low1 r d k ≤ low1 r (d + 1) k ∧ top1 r (d + 1) k ≤ top1 r d k := by
  obtain ⟨q, hq⟩ : ∃ q, r[d]? = some q := ⟨_, List.getElem?_eq_getElem hd⟩
  obtain ⟨b1, b2, b3⟩ := bound_next h hq k
  have p1 := h.pts q (List.mem_of_getElem? hq)
  have hn := rd_next hq k
  unfold low1 top1
  rcases rd_cases h (d + 1) k with z | ⟨x, z, _, _⟩
  · rw [z] at hn
    have : rd r d k = [] := by
      cases e : rd r d k with
      | nil => rfl
      | cons a t => rw [e] at hn; cases hn
    rw [z, this]
    exact ⟨Int.le_refl _, b2⟩
  · rcases rd_cases h d k with w | ⟨y, w, _, _⟩
    · rw [w, z] at hn
      rw [w, z]
      by_cases hk : q.2 = k
      · rw [if_pos hk, List.nil_append] at hn
        injection hn with hn
        rw [hn]
        exact ⟨by simp; omega, b1 hk⟩
      · rw [if_neg hk] at hn
        cases hn
    · rw [w, z] at hn
      rw [w, z]
      injection hn with hn _
      rw [hn]
      exact ⟨Int.le_refl _, Int.le_refl _⟩
theorem top_end {r : Row} (h : RowOk r) (k : Int) : top1 r r.length k = low1 r r.length k := by
  unfold top1 low1
  rcases rd_cases h r.length k with z | ⟨x, z, _, _⟩
  · rw [z]
    show bound r r.length k = 0
    unfold bound
    rw [if_pos rfl]
  · rw [z]
    simp
theorem total1 {r : Row} (h : RowOk r) (k : Int) : ∀ (m d : Nat), d + m = r.length → low1 r d k ≤ low1 r r.length k ∧ low1 r r.length k ≤ top1 r d k := by
  intro m
  induction m with
  | zero =>
    intro d hd
    have e : d = r.length := by omega
    rw [e, top_end h]
    exact ⟨Int.le_refl _, Int.le_refl _⟩
  | succ m ih =>
    intro d hd
    obtain ⟨a, b⟩ := ih (d + 1) (by omega)
    obtain ⟨c, e⟩ := step1 h (d := d) (by omega) k
    exact ⟨Int.le_trans c a, Int.le_trans b e⟩
/-! ### a list that goes on with a key at its bound -/
theorem hole : ∀ (n : Nat) (t o : Int) (l : List Int), t - o = n → (∀ z, o < z → z ≤ t → z ∈ l) → n ≤ l.length
  | 0, _, _, _, _, _ => Nat.zero_le _
  | n + 1, t, o, l, h, f => by
    have ht : t ∈ l := f t (by omega) (Int.le_refl _)
    have z := hole n (t - 1) o (l.erase t) (by omega) fun z h1 h2 => (List.mem_erase_of_ne (by omega)).mpr (f z h1 (by omega))
    rw [List.length_erase_of_mem ht] at z
    have := List.length_pos_of_mem ht
    omega
structure Goes (r : Row) (d : Nat) (k : Int) (i : Nat) (F : Row) (other points : Int) : Prop where
  len : F.length = d + 1 + i
  nod : (F.map (·.2)).Nodup
  asc : F.Pairwise Bef
  low : ∀ q ∈ F, points ≤ q.1 ∧ q.1 ≤ 999
  key : ∀ q ∈ F, 1 ≤ q.2 ∧ q.2 ≤ 999
  gap : ∀ z, other < z → z ≤ 999 → z ∈ F.map (·.2)
  oth : other ≤ 999
  one : F.filter (fun q => decide (q.2 = k)) = [(bound r d k, k)]
  top : points ≤ bound r d k
theorem bef_bound {r : Row} (h : RowOk r) {d : Nat} (hd : d < r.length) (k : Int) : (∀ q ∈ r.take d, Bef q (bound r d k, k)) ∧ bound r d k ≤ 999 ∧ ∀ q ∈ r.take d, bound r d k ≤ q.1 := by
  cases d with
  | zero =>
    have e0 : bound r 0 k = 999 := by
      unfold bound
      rw [if_neg (by omega)]
      cases r[0 - 1]? <;> simp
    rw [e0]
    exact ⟨fun q hq => by simp at hq, Int.le_refl _, fun q hq => by simp at hq⟩
  | succ d =>
    obtain ⟨p, hp⟩ : ∃ p, r[d]? = some p := ⟨_, List.getElem?_eq_getElem (by omega)⟩
    have pm := h.pts p (List.mem_of_getElem? hp)
    have e0 : bound r (d + 1) k = if p.2 < k then p.1 else p.1 - 1 := by
      unfold bound
      rw [if_neg (by omega), show d + 1 - 1 = d by omega, hp]
      simp
    have last : Bef p (bound r (d + 1) k, k) := by
      rw [e0]
      unfold Bef
      dsimp only
      split <;> omega
    have all : ∀ q ∈ r.take (d + 1), q = p ∨ Bef q p := by
      intro q hq
      obtain ⟨i, hi⟩ := List.getElem?_of_mem hq
      have hil : i < d + 1 := by
        have := (List.getElem?_eq_some_iff.mp hi).1
        rw [List.length_take] at this
        omega
      rw [List.getElem?_take_of_lt hil] at hi
      by_cases e : i = d
      · left
        rw [e, hp] at hi
        exact (Option.some.inj hi).symm
      · exact .inr (pair_le h hi hp (by omega))
    refine ⟨fun q hq => ?_, ?_, fun q hq => ?_⟩
    · rcases all q hq with rfl | b
      · exact last
      · exact b.trans last
    · rw [e0]
      split <;> omega
    · rw [e0]
      rcases all q hq with rfl | b
      · split <;> omega
      · unfold Bef at b
        split <;> omega
theorem goes_start {r : Row} (h : RowOk r) {d : Nat} (hd : d < r.length) {k : Int} (hk : 1 ≤ k ∧ k ≤ 999) (hn : k ∉ (r.take d).map (·.2)) : Goes r d k 0 (r.take d ++ [(bound r d k, k)]) 999 (bound r d k) := by
  obtain ⟨b1, b2, b3⟩ := bef_bound h hd k
  have t := h.take d
  refine ⟨?_, ?_, ?_, ?_, ?_, fun z h1 h2 => by omega, Int.le_refl _, ?_, Int.le_refl _⟩
  · rw [List.length_append, List.length_take]
    show min d r.length + 1 = d + 1 + 0
    omega
  · rw [List.map_append, List.nodup_append]
    refine ⟨t.nod, by simp, fun a ha b hb => ?_⟩
    simp at hb
    rw [hb]
    exact fun e => hn (e ▸ ha)
  · rw [List.pairwise_append]
    refine ⟨t.asc, List.pairwise_singleton _ _, fun a ha b hb => ?_⟩
    rw [List.mem_singleton] at hb
    rw [hb]
    exact b1 a ha
  · intro q hq
    rcases List.mem_append.mp hq with hq | hq
    · exact ⟨b3 q hq, (t.pts q hq).2⟩
    · rw [List.mem_singleton] at hq
      rw [hq]
      exact ⟨Int.le_refl _, b2⟩
  · intro q hq
    rcases List.mem_append.mp hq with hq | hq
    · exact t.key q hq
    · rw [List.mem_singleton] at hq
      rw [hq]
      exact hk
  · rw [List.filter_append]
    have e : (r.take d).filter (fun q => decide (q.2 = k)) = [] := by
      rw [List.filter_eq_nil_iff]
      intro q hq z
      exact hn (by rw [← of_decide_eq_true z]; exact List.mem_map_of_mem hq)
    rw [e]
    simp
theorem goes_skip {r : Row} {d i : Nat} {k other points : Int} {F : Row} (h : Goes r d k i F other points) (ho : other ∈ F.map (·.2)) : Goes r d k i F (other - 1) points :=
  ⟨h.len, h.nod, h.asc, h.low, h.key, fun z h1 h2 => by
    by_cases e : z = other
    · rw [e]; exact ho
    · exact h.gap z (by omega) h2, by have := h.oth; omega, h.one, h.top⟩
theorem goes_pos {r : Row} {d i : Nat} {k other points : Int} {F : Row} (h : Goes r d k i F other points) (hl : F.length ≤ 40) : 900 ≤ other := by
  have z := hole (999 - other).toNat 999 other (F.map (·.2)) (by have := h.oth; omega) h.gap
  rw [List.length_map] at z
  omega
theorem goes_step {r : Row} {d i : Nat} {k other points : Int} {F : Row} (h : Goes r d k i F other points) (ho : other ∉ F.map (·.2)) (hl : F.length ≤ 40) : Goes r d k (i + 1) (F ++ [(points - 1, other)]) other (points - 1) := by
  have hp := goes_pos h hl
  have hk : k ∈ F.map (·.2) := by
    have : (bound r d k, k) ∈ F.filter (fun q => decide (q.2 = k)) := by rw [h.one]; exact List.mem_singleton.mpr rfl
    exact List.mem_map.mpr ⟨_, (List.mem_filter.mp this).1, rfl⟩
  have hok : ¬ other = k := fun e => ho (e ▸ hk)
  refine ⟨?_, ?_, ?_, ?_, ?_, fun z h1 h2 => ?_, h.oth, ?_, by have := h.top; omega⟩
  · rw [List.length_append, h.len]
    rfl
  · rw [List.map_append, List.nodup_append]
    refine ⟨h.nod, by simp, fun a ha b hb => ?_⟩
    simp at hb
    rw [hb]
    exact fun e => ho (e ▸ ha)
  · rw [List.pairwise_append]
    refine ⟨h.asc, List.pairwise_singleton _ _, fun a ha b hb => ?_⟩
    rw [List.mem_singleton] at hb
    rw [hb]
    left
    have := (h.low a ha).1
    show points - 1 < a.1
    omega
  · intro q hq
    rcases List.mem_append.mp hq with hq | hq
    · have := h.low q hq
      omega
    · rw [List.mem_singleton] at hq
      rw [hq]
      have := (h.low (bound r d k, k) ?_).2
      · have := h.top
        show points - 1 ≤ points - 1 ∧ points - 1 ≤ 999
        dsimp only at *
        omega
      · have : (bound r d k, k) ∈ F.filter (fun q => decide (q.2 = k)) := by rw [h.one]; exact List.mem_singleton.mpr rfl
        exact (List.mem_filter.mp this).1
  · intro q hq
    rcases List.mem_append.mp hq with hq | hq
    · exact h.key q hq
    · rw [List.mem_singleton] at hq
      rw [hq]
      have := h.oth
      show 1 ≤ other ∧ other ≤ 999
      omega
  · rw [List.map_append]
    exact List.mem_append_left _ (h.gap z h1 h2)
  · rw [List.filter_append, h.one]
    simp [hok]
/-- what the list that goes on is good for -/
structure Topped (r : Row) (d : Nat) (k : Int) (t : Row) : Prop where
  ok : RowOk t
  len : t.length = r.length
  sum : low1 t t.length k = top1 r d k ∧ top1 t t.length k = top1 r d k
theorem goes_end {r : Row} (h : RowOk r) {d i : Nat} (hd : d + 1 + i = r.length) {k other points : Int} {F : Row} (hn : k ∉ (r.take d).map (·.2)) (g : Goes r d k i F other points) (hp : 0 < points) : Topped r d k F := by
  have ok : RowOk F := ⟨by rw [g.len, hd]; exact h.len, fun q hq => by have := g.low q hq; omega, g.key, g.nod, g.asc⟩
  have e : rd F F.length k = [bound r d k] := by
    unfold rd
    rw [List.take_length, g.one]
    rfl
  have e2 : rd r d k = [] := by
    unfold rd
    have e : (r.take d).filter (fun q => decide (q.2 = k)) = [] := by
      rw [List.filter_eq_nil_iff]
      intro q hq z
      exact hn (by rw [← of_decide_eq_true z]; exact List.mem_map_of_mem hq)
    rw [e]
    rfl
  refine ⟨ok, by rw [g.len, hd], ?_, ?_⟩
  · unfold low1 top1
    rw [e, e2]
    simp
  · unfold top1
    rw [e, e2]
theorem topped_self {r : Row} (h : RowOk r) {d : Nat} (hd : d ≤ r.length) {k : Int} (hk : d = r.length ∨ k ∈ (r.take d).map (·.2)) : Topped r d k r := by
  refine ⟨h, rfl, ?_⟩
  rw [top_end h]
  have goal : low1 r r.length k = top1 r d k := by
    rcases hk with rfl | hk
    · exact (top_end h k).symm
    · obtain ⟨q, hq, e⟩ := List.mem_map.mp hk
      have inn : q ∈ (r.take d).filter (fun q => decide (q.2 = k)) := List.mem_filter.mpr ⟨hq, decide_eq_true e⟩
      have t1 : ∃ x, rd r d k = [x] := by
        rcases rd_cases h d k with z | ⟨x, z, _, _⟩
        · unfold rd at z
          rw [List.map_eq_nil_iff] at z
          rw [z] at inn
          cases inn
        · exact ⟨_, z⟩
      obtain ⟨x, t1⟩ := t1
      have pre : ∃ w, rd r r.length k = rd r d k ++ w := by
        unfold rd
        rw [List.take_length]
        refine ⟨((r.drop d).filter fun q => decide (q.2 = k)).map (·.1), ?_⟩
        rw [← List.map_append, ← List.filter_append, List.take_append_drop]
      obtain ⟨w, pre⟩ := pre
      rw [t1] at pre
      rcases rd_cases h r.length k with z | ⟨y, z, _, _⟩
      · rw [z] at pre; cases pre
      · unfold low1 top1
        rw [z] at pre ⊢
        rw [t1]
        injection pre with p1 p2
        rw [p1]
        simp
  exact ⟨goal, goal⟩
end K71
/-! k71, the plain law: a drawn table, the row that is made of it, the row sorted. -/
namespace K71
open PySem PySem.Spec PyProof.Rows L2
structure Tbl (t : Row) (n : Nat) : Prop where
  len : t.length ≤ n
  pts : ∀ q ∈ t, 1 ≤ q.1 ∧ q.1 ≤ 999
  key : ∀ q ∈ t, 0 ≤ q.2 ∧ q.2 ≤ 999
  nod : (t.map (·.2)).Nodup
/-- a dict of whole numbers -/
def dz (r : Row) : List (Key × V) := r.map fun q => (Sum.inl q.2, V.int q.1)
theorem dz_in (k : Int) : ∀ r : Row, (valV (dz r) (Sum.inl k)).isSome = decide (k ∈ r.map (·.2))
  | [] => rfl
  | q :: r => by
    have ih := dz_in k r
    by_cases h : q.2 = k
    · have e : valV (dz (q :: r)) (Sum.inl k) = some (V.int q.1) := valV_pos (p := (Sum.inl q.2, V.int q.1)) (by rw [h])
      rw [e]
      simp [h]
    · have e : valV (dz (q :: r)) (Sum.inl k) = valV (dz r) (Sum.inl k) := by
        exact valV_neg (p := (Sum.inl q.2, V.int q.1)) fun z => h (Sum.inl.inj z)
      rw [e, ih]
      have h' : ¬ k = q.2 := fun z => h z.symm
      simp [h']
theorem dz_get {q : Int × Int} : ∀ {r : Row}, (r.map (·.2)).Nodup → q ∈ r → valV (dz r) (Sum.inl q.2) = some (V.int q.1)
  | [], _, h => by cases h
  | a :: r, n, h => by
    rw [List.map_cons, List.nodup_cons] at n
    rcases List.mem_cons.mp h with rfl | h
    · exact valV_pos (p := (Sum.inl q.2, V.int q.1)) rfl
    · have ne : ¬ a.2 = q.2 := fun z => n.1 (by rw [z]; exact List.mem_map_of_mem h)
      have e : valV (dz (a :: r)) (Sum.inl q.2) = valV (dz r) (Sum.inl q.2) := by
        exact valV_neg (p := (Sum.inl a.2, V.int a.1)) fun z => ne (Sum.inl.inj z)
      rw [e]
      exact dz_get n.2 h
theorem tbl_put {t : Row} {n : Nat} {k v : Int} (h : Tbl t n) (k0 : 0 ≤ k) (k9 : k ≤ 999) (v1 : 1 ≤ v) (v9 : v ≤ 999) : ∃ t', putK (dz t) (Sum.inl k) (V.int v) = dz t' ∧ Tbl t' (n + 1) := by
  have e0 : ((dz t).any fun kv => decide (kv.1 = Sum.inl k)) = decide (k ∈ t.map (·.2)) := by rw [valV_any, dz_in]
  unfold putK
  rw [e0]
  by_cases c : k ∈ t.map (·.2)
  · rw [decide_eq_true c, if_pos rfl]
    refine ⟨t.map fun q => if q.2 = k then (v, k) else q, ?_, ?_, ?_, ?_, ?_⟩
    · unfold dz
      rw [List.map_map, List.map_map]
      apply List.map_congr_left
      intro q hq
      show (if (Sum.inl q.2 : Key) = Sum.inl k then ((Sum.inl q.2 : Key), V.int v) else (Sum.inl q.2, V.int q.1)) = (Sum.inl (if q.2 = k then (v, k) else q).2, V.int (if q.2 = k then (v, k) else q).1)
      by_cases e : q.2 = k
      · rw [if_pos (by rw [e]), if_pos e, e]
      · rw [if_neg (fun z => e (Sum.inl.inj z)), if_neg e]
    · rw [List.length_map]
      exact Nat.le_succ_of_le h.len
    · intro q hq
      obtain ⟨a, ha, rfl⟩ := List.mem_map.mp hq
      by_cases e : a.2 = k
      · rw [if_pos e]; exact ⟨v1, v9⟩
      · rw [if_neg e]; exact h.pts a ha
    · intro q hq
      obtain ⟨a, ha, rfl⟩ := List.mem_map.mp hq
      by_cases e : a.2 = k
      · rw [if_pos e]; exact ⟨k0, k9⟩
      · rw [if_neg e]; exact h.key a ha
    · have e : (t.map fun q => if q.2 = k then (v, k) else q).map (·.2) = t.map (·.2) := by
        rw [List.map_map]
        apply List.map_congr_left
        intro q hq
        show (if q.2 = k then (v, k) else q).2 = q.2
        by_cases e : q.2 = k
        · rw [if_pos e, e]
        · rw [if_neg e]
      rw [e]
      exact h.nod
  · rw [decide_eq_false c, if_neg (by decide)]
    refine ⟨t ++ [(v, k)], ?_, ?_, ?_, ?_, ?_⟩
    · unfold dz
      rw [List.map_append]
      rfl
    · rw [List.length_append]
      exact Nat.add_le_add h.len (Nat.le_refl _)
    · intro q hq
      rcases List.mem_append.mp hq with hq | hq
      · exact h.pts q hq
      · rw [List.mem_singleton] at hq
        rw [hq]
        exact ⟨v1, v9⟩
    · intro q hq
      rcases List.mem_append.mp hq with hq | hq
      · exact h.key q hq
      · rw [List.mem_singleton] at hq
        rw [hq]
        exact ⟨k0, k9⟩
    · rw [List.map_append, List.nodup_append]
      refine ⟨h.nod, by simp, fun a ha b hb => ?_⟩
      simp at hb
      rw [hb]
      exact fun e => c (e ▸ ha)
/-! ### the row of a table -/
def keep (t : Row) (q : Int × Int) : Bool := decide (q.2 ≠ 0) || !decide ((1 : Int) ∈ t.map (·.2))
def lift (q : Int × Int) : Int × Int := (q.1, if q.2 > 1 then q.2 else 1)
def rowOf (t s : Row) : Row := (s.filter (keep t)).map lift
structure Loose (r : Row) (n : Nat) : Prop where
  len : r.length ≤ n
  pts : ∀ q ∈ r, 1 ≤ q.1 ∧ q.1 ≤ 999
  key : ∀ q ∈ r, 1 ≤ q.2 ∧ q.2 ≤ 999
  nod : (r.map (·.2)).Nodup
theorem rowOf_ok {t : Row} {n : Nat} (h : Tbl t n) : Loose (rowOf t t) n := by
  refine ⟨?_, ?_, ?_, ?_⟩
  · unfold rowOf
    rw [List.length_map]
    exact Nat.le_trans (List.length_filter_le _ _) h.len
  · intro q hq
    obtain ⟨a, ha, rfl⟩ := List.mem_map.mp hq
    exact h.pts a (List.mem_filter.mp ha).1
  · intro q hq
    obtain ⟨a, ha, rfl⟩ := List.mem_map.mp hq
    have := h.key a (List.mem_filter.mp ha).1
    show 1 ≤ (if a.2 > 1 then a.2 else 1) ∧ (if a.2 > 1 then a.2 else 1) ≤ 999
    split <;> omega
  · unfold rowOf
    rw [List.map_map]
    show List.Pairwise _ _
    rw [List.pairwise_map]
    have p : (t.filter (keep t)).Pairwise fun a b => a.2 ≠ b.2 := (List.pairwise_map.mp h.nod).sublist List.filter_sublist
    refine p.imp_of_mem fun {a b} ha hb hab e => ?_
    obtain ⟨ha, ca⟩ := List.mem_filter.mp ha
    obtain ⟨hb, cb⟩ := List.mem_filter.mp hb
    have ka := h.key a ha
    have kb := h.key b hb
    have e : (if a.2 > 1 then a.2 else 1) = (if b.2 > 1 then b.2 else 1) := e
    unfold keep at ca cb
    simp only [ne_eq, Bool.or_eq_true, decide_eq_true_eq, Bool.not_eq_true', decide_eq_false_iff_not] at ca cb
    have ma : a.2 ∈ t.map (·.2) := List.mem_map_of_mem ha
    have mb : b.2 ∈ t.map (·.2) := List.mem_map_of_mem hb
    by_cases c1 : a.2 > 1
    · rw [if_pos c1] at e
      by_cases c2 : b.2 > 1
      · rw [if_pos c2] at e
        exact hab e
      · rw [if_neg c2] at e
        omega
    · rw [if_neg c1] at e
      by_cases c2 : b.2 > 1
      · rw [if_pos c2] at e
        omega
      · by_cases z : a.2 = 0
        · have : b.2 = 1 := by omega
          rw [this] at mb
          rcases ca with ca | ca
          · exact ca z
          · exact ca mb
        · have one : a.2 = 1 := by omega
          have z2 : b.2 = 0 := by omega
          rw [one] at ma
          rcases cb with cb | cb
          · exact cb z2
          · exact cb ma
/-! ### sorted by the points, falling, then by the key -/
def leP (p q : V × (Int × Int)) : Bool := decide (0 - p.2.1 < 0 - q.2.1 ∨ (0 - p.2.1 = 0 - q.2.1 ∧ p.2.2 ≤ q.2.2))
theorem leP_ok {ps : List (V × (Int × Int))} {n : Nat} (h : Loose (ps.map (·.2)) n) (hn : n ≤ 40) : RowOk ((ps.mergeSort leP).map (·.2)) := by
  have perm : ((ps.mergeSort leP).map (·.2)).Perm (ps.map (·.2)) := (List.mergeSort_perm ps leP).map _
  refine ⟨?_, fun q hq => h.pts q (perm.mem_iff.mp hq), fun q hq => h.key q (perm.mem_iff.mp hq), (perm.map _).nodup_iff.mpr h.nod, ?_⟩
  · rw [perm.length_eq]
    exact Nat.le_trans h.len hn
  · have srt : (ps.mergeSort leP).Pairwise (fun a b => leP a b = true) := List.pairwise_mergeSort (le := leP) (fun a b c h1 h2 => by
      unfold leP at *
      have h1 := of_decide_eq_true h1
      have h2 := of_decide_eq_true h2
      exact decide_eq_true (by omega)) (fun a b => by
      unfold leP
      rw [Bool.or_eq_true, decide_eq_true_eq, decide_eq_true_eq]
      omega) ps
    have nod : ((ps.mergeSort leP).map (·.2)).Pairwise fun a b => a.2 ≠ b.2 := List.pairwise_map.mp ((perm.map _).nodup_iff.mpr h.nod)
    have srt2 : ((ps.mergeSort leP).map (·.2)).Pairwise fun a b => 0 - a.1 < 0 - b.1 ∨ (0 - a.1 = 0 - b.1 ∧ a.2 ≤ b.2) := by
      rw [List.pairwise_map]
      exact srt.imp fun h => of_decide_eq_true h
    refine (srt2.and nod).imp fun {a b} h => ?_
    unfold Bef
    omega
theorem dp_map {K : PySem.W.Frag} {H : Hp} {α : Type} {f : α → PyData} : ∀ {l : List (V × α)}, (∀ p ∈ l, Dp K H p.1 (f p.2)) → DpAll K H (l.map (·.1)) ((l.map (·.2)).map f)
  | [], _ => .nil
  | p :: l, h => .cons (h p List.mem_cons_self) (dp_map fun q hq => h q (List.mem_cons_of_mem _ hq))
def keyD (q : Int × Int) : PyData := .tuple [.int (0 - q.1), .int q.2]
theorem sort_keyD (ps : List (V × (Int × Int))) : (ps.map fun p => (p.1, keyD p.2)).mergeSort leD = (ps.mergeSort leP).map fun p => (p.1, keyD p.2) := by
  refine (List.map_mergeSort fun a ha b hb => ?_).symm
  show leP a b = !PySem.W.dataLt (keyD b.2) (keyD a.2)
  unfold keyD leP
  rw [PySem.W.dataLt_ii]
  by_cases h : 0 - b.2.1 < 0 - a.2.1 ∨ (0 - b.2.1 = 0 - a.2.1 ∧ b.2.2 < a.2.2)
  · rw [decide_eq_true h, decide_eq_false (by omega)]
    rfl
  · rw [decide_eq_false h, decide_eq_true (by omega)]
    rfl
theorem ints_at {ns : List Int} {i : Nat} {v : V} (h : (ns.map V.int)[i]? = some v) : ∃ k, k ∈ ns ∧ v = .int k := by
  rw [List.getElem?_map] at h
  cases e : ns[i]? with
  | none => rw [e] at h; cases h
  | some k =>
    rw [e] at h
    cases h
    exact ⟨k, List.mem_of_getElem? e, rfl⟩
end K71
namespace K71
open PySem PySem.Spec PyProof.Rows L2
def top (i : Nat) : Stmt := PySem.Challenge.pw_plainscan_k73_whole_fewest_looks_by_own.main.body.getD i (.Pass ⟨0, 0, 0, 0⟩)
abbrev s_is_whole : Stmt := top 9
abbrev N_is_whole : List Str := ["value"]
theorem sc_is_whole : FnScope N_is_whole ["value"] (defScope s_is_whole) := ⟨rfl, rfl, rfl, by decide +kernel, rfl, by decide +kernel, by decide +kernel⟩
abbrev s_is_number : Stmt := top 10
abbrev N_is_number : List Str := ["value", "low", "high"]
theorem sc_is_number : FnScope N_is_number ["value", "low", "high"] (defScope s_is_number) := ⟨rfl, rfl, rfl, by decide +kernel, rfl, by decide +kernel, by decide +kernel⟩
abbrev s_is_key : Stmt := top 11
abbrev N_is_key : List Str := ["value"]
theorem sc_is_key : FnScope N_is_key ["value"] (defScope s_is_key) := ⟨rfl, rfl, rfl, by decide +kernel, rfl, by decide +kernel, by decide +kernel⟩
abbrev s_is_tuple_of : Stmt := top 12
abbrev N_is_tuple_of : List Str := ["value", "many"]
theorem sc_is_tuple_of : FnScope N_is_tuple_of ["value", "many"] (defScope s_is_tuple_of) := ⟨rfl, rfl, rfl, by decide +kernel, rfl, by decide +kernel, by decide +kernel⟩
abbrev s_is_ascending : Stmt := top 13
abbrev N_is_ascending : List Str := ["values", "one", "two"]
theorem sc_is_ascending : FnScope N_is_ascending ["values"] (defScope s_is_ascending) := ⟨rfl, rfl, rfl, by decide +kernel, rfl, by decide +kernel, by decide +kernel⟩
abbrev s_check_number : Stmt := top 14
abbrev N_check_number : List Str := ["value", "low", "high"]
theorem sc_check_number : FnScope N_check_number ["value", "low", "high"] (defScope s_check_number) := ⟨rfl, rfl, rfl, by decide +kernel, rfl, by decide +kernel, by decide +kernel⟩
abbrev s_check_many : Stmt := top 15
abbrev N_check_many : List Str := ["value"]
theorem sc_check_many : FnScope N_check_many ["value"] (defScope s_check_many) := ⟨rfl, rfl, rfl, by decide +kernel, rfl, by decide +kernel, by decide +kernel⟩
abbrev s_bound_of : Stmt := top 18
abbrev N_bound_of : List Str := ["row", "depth", "key", "points", "last"]
theorem sc_bound_of : FnScope N_bound_of ["row", "depth", "key"] (defScope s_bound_of) := ⟨rfl, rfl, rfl, by decide +kernel, rfl, by decide +kernel, by decide +kernel⟩
abbrev s_read_by : Stmt := top 19
abbrev N_read_by : List Str := ["lists", "depths", "found", "row", "depth", "points", "key"]
theorem sc_read_by : FnScope N_read_by ["lists", "depths"] (defScope s_read_by) := ⟨rfl, rfl, rfl, by decide +kernel, rfl, by decide +kernel, by decide +kernel⟩
abbrev s_sums_by : Stmt := top 20
abbrev N_sums_by : List Str := ["lists", "depths", "read", "key", "least", "more", "at", "row"]
theorem sc_sums_by : FnScope N_sums_by ["lists", "depths", "read", "key"] (defScope s_sums_by) := ⟨rfl, rfl, rfl, by decide +kernel, rfl, by decide +kernel, by decide +kernel⟩
abbrev s_beats : Stmt := top 21
abbrev N_beats : List Str := ["one", "sums", "two", "others"]
theorem sc_beats : FnScope N_beats ["one", "sums", "two", "others"] (defScope s_beats) := ⟨rfl, rfl, rfl, by decide +kernel, rfl, by decide +kernel, by decide +kernel⟩
abbrev s_turns_of : Stmt := top 22
abbrev N_turns_of : List Str := ["lists", "depths", "found", "row", "depth"]
theorem sc_turns_of : FnScope N_turns_of ["lists", "depths"] (defScope s_turns_of) := ⟨rfl, rfl, rfl, by decide +kernel, rfl, by decide +kernel, by decide +kernel⟩
abbrev s_strangers : Stmt := top 23
abbrev N_strangers : List Str := ["lists", "depths", "read", "turns", "found", "at", "first", "end", "key", "known"]
theorem sc_strangers : FnScope N_strangers ["lists", "depths", "read"] (defScope s_strangers) := ⟨rfl, rfl, rfl, by decide +kernel, rfl, by decide +kernel, by decide +kernel⟩
abbrev s_known_keys : Stmt := top 24
abbrev N_known_keys : List Str := ["read", "known", "key"]
theorem sc_known_keys : FnScope N_known_keys ["read"] (defScope s_known_keys) := ⟨rfl, rfl, rfl, by decide +kernel, rfl, by decide +kernel, by decide +kernel⟩
abbrev s_settled_by : Stmt := top 25
abbrev N_settled_by : List Str := ["lists", "depths", "many", "read", "some", "key", "sums", "chosen", "rest", "ahead", "behind", "others", "last", "_"]
theorem sc_settled_by : FnScope N_settled_by ["lists", "depths", "many"] (defScope s_settled_by) := ⟨rfl, rfl, rfl, by decide +kernel, rfl, by decide +kernel, by decide +kernel⟩
abbrev s_depths_of : Stmt := top 26
abbrev N_depths_of : List Str := ["lengths", "total", "found", "depth", "rest"]
theorem sc_depths_of : FnScope N_depths_of ["lengths", "total"] (defScope s_depths_of) := ⟨rfl, rfl, rfl, by decide +kernel, rfl, by decide +kernel, by decide +kernel⟩
abbrev s_fewest_by : Stmt := top 27
abbrev N_fewest_by : List Str := ["lists", "many", "lengths", "total", "depths", "row"]
theorem sc_fewest_by : FnScope N_fewest_by ["lists", "many"] (defScope s_fewest_by) := ⟨rfl, rfl, rfl, by decide +kernel, rfl, by decide +kernel, by decide +kernel⟩
abbrev s_is_pair : Stmt := top 32
abbrev N_is_pair : List Str := ["value"]
theorem sc_is_pair : FnScope N_is_pair ["value"] (defScope s_is_pair) := ⟨rfl, rfl, rfl, by decide +kernel, rfl, by decide +kernel, by decide +kernel⟩
abbrev s_is_list : Stmt := top 33
abbrev N_is_list : List Str := ["value", "keys", "_", "key", "points", "each"]
theorem sc_is_list : FnScope N_is_list ["value"] (defScope s_is_list) := ⟨rfl, rfl, rfl, by decide +kernel, rfl, by decide +kernel, by decide +kernel⟩
abbrev s_check_lists : Stmt := top 34
abbrev N_check_lists : List Str := ["value", "at", "row"]
theorem sc_check_lists : FnScope N_check_lists ["value"] (defScope s_check_lists) := ⟨rfl, rfl, rfl, by decide +kernel, rfl, by decide +kernel, by decide +kernel⟩
abbrev s_check_depths : Stmt := top 35
abbrev N_check_depths : List Str := ["lists", "value", "at", "depth"]
theorem sc_check_depths : FnScope N_check_depths ["lists", "value"] (defScope s_check_depths) := ⟨rfl, rfl, rfl, by decide +kernel, rfl, by decide +kernel, by decide +kernel⟩
abbrev s_check_short : Stmt := top 36
abbrev N_check_short : List Str := ["lists", "longest", "row"]
theorem sc_check_short : FnScope N_check_short ["lists"] (defScope s_check_short) := ⟨rfl, rfl, rfl, by decide +kernel, rfl, by decide +kernel, by decide +kernel⟩
abbrev s_settled : Stmt := top 37
abbrev N_settled : List Str := ["lists", "depths", "many", "found"]
theorem sc_settled : FnScope N_settled ["lists", "depths", "many"] (defScope s_settled) := ⟨rfl, rfl, rfl, by decide +kernel, rfl, by decide +kernel, by decide +kernel⟩
abbrev s_fewest_looks : Stmt := top 38
abbrev N_fewest_looks : List Str := ["lists", "many"]
theorem sc_fewest_looks : FnScope N_fewest_looks ["lists", "many"] (defScope s_fewest_looks) := ⟨rfl, rfl, rfl, by decide +kernel, rfl, by decide +kernel, by decide +kernel⟩
abbrev s_any_fewest : Stmt := top 39
abbrev N_any_fewest : List Str := ["lists", "many"]
theorem sc_any_fewest : FnScope N_any_fewest ["lists", "many"] (defScope s_any_fewest) := ⟨rfl, rfl, rfl, by decide +kernel, rfl, by decide +kernel, by decide +kernel⟩
abbrev s_law_urn : Stmt := top 41
abbrev N_law_urn : List Str := ["script", "lap", "mixed", "cell", "own"]
theorem sc_law_urn : FnScope N_law_urn ["script", "lap"] (defScope s_law_urn) := ⟨rfl, rfl, rfl, by decide +kernel, rfl, by decide +kernel, by decide +kernel⟩
abbrev s_law_take : Stmt := top 42
abbrev N_law_take : List Str := ["urn", "many", "figure", "stir"]
theorem sc_law_take : FnScope N_law_take ["urn", "many"] (defScope s_law_take) := ⟨rfl, rfl, rfl, by decide +kernel, rfl, by decide +kernel, by decide +kernel⟩
abbrev s_law_of : Stmt := top 43
abbrev N_law_of : List Str := ["urn", "some"]
theorem sc_law_of : FnScope N_law_of ["urn", "some"] (defScope s_law_of) := ⟨rfl, rfl, rfl, by decide +kernel, rfl, by decide +kernel, by decide +kernel⟩
abbrev s_law_first : Stmt := top 44
abbrev N_law_first : List Str := ["pair"]
theorem sc_law_first : FnScope N_law_first ["pair"] (defScope s_law_first) := ⟨rfl, rfl, rfl, by decide +kernel, rfl, by decide +kernel, by decide +kernel⟩
abbrev s_law_lists : Stmt := top 45
abbrev N_law_lists : List Str := ["urn", "many", "most", "found", "keys", "high", "turn", "table", "lap", "row", "key"]
theorem sc_law_lists : FnScope N_law_lists ["urn", "many", "most"] (defScope s_law_lists) := ⟨rfl, rfl, rfl, by decide +kernel, rfl, by decide +kernel, by decide +kernel⟩
abbrev s_law_bound : Stmt := top 46
abbrev N_law_bound : List Str := ["row", "depth", "key", "points", "last"]
theorem sc_law_bound : FnScope N_law_bound ["row", "depth", "key"] (defScope s_law_bound) := ⟨rfl, rfl, rfl, by decide +kernel, rfl, by decide +kernel, by decide +kernel⟩
abbrev s_law_sums : Stmt := top 47
abbrev N_law_sums : List Str := ["lists", "depths", "key", "low", "top", "row", "depth", "read", "points", "other"]
theorem sc_law_sums : FnScope N_law_sums ["lists", "depths", "key"] (defScope s_law_sums) := ⟨rfl, rfl, rfl, by decide +kernel, rfl, by decide +kernel, by decide +kernel⟩
abbrev s_law_best : Stmt := top 48
abbrev N_law_best : List Str := ["lists", "many", "table", "row", "points", "key", "total"]
theorem sc_law_best : FnScope N_law_best ["lists", "many"] (defScope s_law_best) := ⟨rfl, rfl, rfl, by decide +kernel, rfl, by decide +kernel, by decide +kernel⟩
abbrev s_law_others : Stmt := top 49
abbrev N_law_others : List Str := ["lists", "depths", "read", "starts", "found", "row", "depth", "start", "key"]
theorem sc_law_others : FnScope N_law_others ["lists", "depths", "read"] (defScope s_law_others) := ⟨rfl, rfl, rfl, by decide +kernel, rfl, by decide +kernel, by decide +kernel⟩
abbrev s_law_settled : Stmt := top 50
abbrev N_law_settled : List Str := ["lists", "depths", "many", "read", "row", "depth", "points", "key", "ends", "chosen", "rest", "at", "behind", "other", "total"]
theorem sc_law_settled : FnScope N_law_settled ["lists", "depths", "many"] (defScope s_law_settled) := ⟨rfl, rfl, rfl, by decide +kernel, rfl, by decide +kernel, by decide +kernel⟩
abbrev s_law_all_depths : Stmt := top 51
abbrev N_law_all_depths : List Str := ["lists", "found", "row", "longer", "depths", "depth"]
theorem sc_law_all_depths : FnScope N_law_all_depths ["lists"] (defScope s_law_all_depths) := ⟨rfl, rfl, rfl, by decide +kernel, rfl, by decide +kernel, by decide +kernel⟩
abbrev s_law_fewest : Stmt := top 52
abbrev N_law_fewest : List Str := ["lists", "many", "rows", "whole", "depths", "row"]
theorem sc_law_fewest : FnScope N_law_fewest ["lists", "many"] (defScope s_law_fewest) := ⟨rfl, rfl, rfl, by decide +kernel, rfl, by decide +kernel, by decide +kernel⟩
abbrev s_law_led_lists : Stmt := top 53
abbrev N_law_led_lists : List Str := ["urn", "many", "first", "found", "lap", "k", "row"]
theorem sc_law_led_lists : FnScope N_law_led_lists ["urn", "many"] (defScope s_law_led_lists) := ⟨rfl, rfl, rfl, by decide +kernel, rfl, by decide +kernel, by decide +kernel⟩
abbrev s_law_great_right : Stmt := top 54
abbrev N_law_great_right : List Str := ["urn", "is_led", "size", "many", "lists", "due", "depths", "k", "row"]
theorem sc_law_great_right : FnScope N_law_great_right ["urn", "is_led"] (defScope s_law_great_right) := ⟨rfl, rfl, rfl, by decide +kernel, rfl, by decide +kernel, by decide +kernel⟩
abbrev s_law_right : Stmt := top 55
abbrev N_law_right : List Str := ["urn", "seldom", "turn", "way", "lists", "many", "due", "is_named", "told", "depths", "k", "at", "less"]
theorem sc_law_right : FnScope N_law_right ["urn"] (defScope s_law_right) := ⟨rfl, rfl, rfl, by decide +kernel, rfl, by decide +kernel, by decide +kernel⟩
abbrev s_law : Stmt := top 56
abbrev N_law : List Str := ["script"]
theorem sc_law : FnScope N_law ["script"] (defScope s_law) := ⟨rfl, rfl, rfl, by decide +kernel, rfl, by decide +kernel, by decide +kernel⟩
/-- what the program's top has written -/
structure Txt (P : Program) (K : PySem.W.Frag) (mg : Str → Option Value) where
  f_is_whole : Addr
  d_is_whole : FuncData
  F_is_whole : Fun K "is_whole" "is_whole" s_is_whole f_is_whole d_is_whole
  b_is_whole : Binds K d_is_whole ["value"] []
  g_is_whole : mg "is_whole" = some (.ref f_is_whole)
  f_is_number : Addr
  d_is_number : FuncData
  F_is_number : Fun K "is_number" "is_number" s_is_number f_is_number d_is_number
  b_is_number : Binds K d_is_number ["value", "low", "high"] []
  g_is_number : mg "is_number" = some (.ref f_is_number)
  f_is_key : Addr
  d_is_key : FuncData
  F_is_key : Fun K "is_key" "is_key" s_is_key f_is_key d_is_key
  b_is_key : Binds K d_is_key ["value"] []
  g_is_key : mg "is_key" = some (.ref f_is_key)
  f_is_tuple_of : Addr
  d_is_tuple_of : FuncData
  F_is_tuple_of : Fun K "is_tuple_of" "is_tuple_of" s_is_tuple_of f_is_tuple_of d_is_tuple_of
  b_is_tuple_of : Binds K d_is_tuple_of ["value", "many"] []
  g_is_tuple_of : mg "is_tuple_of" = some (.ref f_is_tuple_of)
  f_is_ascending : Addr
  d_is_ascending : FuncData
  F_is_ascending : Fun K "is_ascending" "is_ascending" s_is_ascending f_is_ascending d_is_ascending
  b_is_ascending : Binds K d_is_ascending ["values"] []
  g_is_ascending : mg "is_ascending" = some (.ref f_is_ascending)
  f_check_number : Addr
  d_check_number : FuncData
  F_check_number : Fun K "check_number" "check_number" s_check_number f_check_number d_check_number
  b_check_number : Binds K d_check_number ["value", "low", "high"] []
  g_check_number : mg "check_number" = some (.ref f_check_number)
  f_check_many : Addr
  d_check_many : FuncData
  F_check_many : Fun K "check_many" "check_many" s_check_many f_check_many d_check_many
  b_check_many : Binds K d_check_many ["value"] []
  g_check_many : mg "check_many" = some (.ref f_check_many)
  f_bound_of : Addr
  d_bound_of : FuncData
  F_bound_of : Fun K "bound_of" "bound_of" s_bound_of f_bound_of d_bound_of
  b_bound_of : Binds K d_bound_of ["row", "depth", "key"] []
  g_bound_of : mg "bound_of" = some (.ref f_bound_of)
  f_read_by : Addr
  d_read_by : FuncData
  F_read_by : Fun K "read_by" "read_by" s_read_by f_read_by d_read_by
  b_read_by : Binds K d_read_by ["lists", "depths"] []
  g_read_by : mg "read_by" = some (.ref f_read_by)
  f_sums_by : Addr
  d_sums_by : FuncData
  F_sums_by : Fun K "sums_by" "sums_by" s_sums_by f_sums_by d_sums_by
  b_sums_by : Binds K d_sums_by ["lists", "depths", "read", "key"] []
  g_sums_by : mg "sums_by" = some (.ref f_sums_by)
  f_beats : Addr
  d_beats : FuncData
  F_beats : Fun K "beats" "beats" s_beats f_beats d_beats
  b_beats : Binds K d_beats ["one", "sums", "two", "others"] []
  g_beats : mg "beats" = some (.ref f_beats)
  f_turns_of : Addr
  d_turns_of : FuncData
  F_turns_of : Fun K "turns_of" "turns_of" s_turns_of f_turns_of d_turns_of
  b_turns_of : Binds K d_turns_of ["lists", "depths"] []
  g_turns_of : mg "turns_of" = some (.ref f_turns_of)
  f_strangers : Addr
  d_strangers : FuncData
  F_strangers : Fun K "strangers" "strangers" s_strangers f_strangers d_strangers
  b_strangers : Binds K d_strangers ["lists", "depths", "read"] []
  g_strangers : mg "strangers" = some (.ref f_strangers)
  f_known_keys : Addr
  d_known_keys : FuncData
  F_known_keys : Fun K "known_keys" "known_keys" s_known_keys f_known_keys d_known_keys
  b_known_keys : Binds K d_known_keys ["read"] []
  g_known_keys : mg "known_keys" = some (.ref f_known_keys)
  f_settled_by : Addr
  d_settled_by : FuncData
  F_settled_by : Fun K "settled_by" "settled_by" s_settled_by f_settled_by d_settled_by
  b_settled_by : Binds K d_settled_by ["lists", "depths", "many"] []
  g_settled_by : mg "settled_by" = some (.ref f_settled_by)
  f_depths_of : Addr
  d_depths_of : FuncData
  F_depths_of : Fun K "depths_of" "depths_of" s_depths_of f_depths_of d_depths_of
  b_depths_of : Binds K d_depths_of ["lengths", "total"] []
  g_depths_of : mg "depths_of" = some (.ref f_depths_of)
  f_fewest_by : Addr
  d_fewest_by : FuncData
  F_fewest_by : Fun K "fewest_by" "fewest_by" s_fewest_by f_fewest_by d_fewest_by
  b_fewest_by : Binds K d_fewest_by ["lists", "many"] []
  g_fewest_by : mg "fewest_by" = some (.ref f_fewest_by)
  f_is_pair : Addr
  d_is_pair : FuncData
  F_is_pair : Fun K "is_pair" "is_pair" s_is_pair f_is_pair d_is_pair
  b_is_pair : Binds K d_is_pair ["value"] []
  g_is_pair : mg "is_pair" = some (.ref f_is_pair)
  f_is_list : Addr
  d_is_list : FuncData
  F_is_list : Fun K "is_list" "is_list" s_is_list f_is_list d_is_list
  b_is_list : Binds K d_is_list ["value"] []
  g_is_list : mg "is_list" = some (.ref f_is_list)
  f_check_lists : Addr
  d_check_lists : FuncData
  F_check_lists : Fun K "check_lists" "check_lists" s_check_lists f_check_lists d_check_lists
  b_check_lists : Binds K d_check_lists ["value"] []
  g_check_lists : mg "check_lists" = some (.ref f_check_lists)
  f_check_depths : Addr
  d_check_depths : FuncData
  F_check_depths : Fun K "check_depths" "check_depths" s_check_depths f_check_depths d_check_depths
  b_check_depths : Binds K d_check_depths ["lists", "value"] []
  g_check_depths : mg "check_depths" = some (.ref f_check_depths)
  f_check_short : Addr
  d_check_short : FuncData
  F_check_short : Fun K "check_short" "check_short" s_check_short f_check_short d_check_short
  b_check_short : Binds K d_check_short ["lists"] []
  g_check_short : mg "check_short" = some (.ref f_check_short)
  f_settled : Addr
  d_settled : FuncData
  F_settled : Fun K "settled" "settled" s_settled f_settled d_settled
  b_settled : Binds K d_settled ["lists", "depths", "many"] []
  g_settled : mg "settled" = some (.ref f_settled)
  f_fewest_looks : Addr
  d_fewest_looks : FuncData
  F_fewest_looks : Fun K "fewest_looks" "fewest_looks" s_fewest_looks f_fewest_looks d_fewest_looks
  b_fewest_looks : Binds K d_fewest_looks ["lists", "many"] []
  kb_fewest_looks_many_lists : KBinds K d_fewest_looks ["lists", "many"] ["many", "lists"] (fun us ws => kbP 0 2 [1, 0] us ws) (fun us ws => kbP 0 2 [1, 0] us ws)
  g_fewest_looks : mg "fewest_looks" = some (.ref f_fewest_looks)
  f_any_fewest : Addr
  d_any_fewest : FuncData
  F_any_fewest : Fun K "any_fewest" "any_fewest" s_any_fewest f_any_fewest d_any_fewest
  b_any_fewest : Binds K d_any_fewest ["lists", "many"] []
  kb_any_fewest_many_lists : KBinds K d_any_fewest ["lists", "many"] ["many", "lists"] (fun us ws => kbP 0 2 [1, 0] us ws) (fun us ws => kbP 0 2 [1, 0] us ws)
  g_any_fewest : mg "any_fewest" = some (.ref f_any_fewest)
  f_law_urn : Addr
  d_law_urn : FuncData
  F_law_urn : Fun K "_law_urn" "_law_urn" s_law_urn f_law_urn d_law_urn
  b_law_urn : Binds K d_law_urn ["script", "lap"] []
  g__law_urn : mg "_law_urn" = some (.ref f_law_urn)
  f_law_take : Addr
  d_law_take : FuncData
  F_law_take : Fun K "_law_take" "_law_take" s_law_take f_law_take d_law_take
  b_law_take : Binds K d_law_take ["urn", "many"] []
  g__law_take : mg "_law_take" = some (.ref f_law_take)
  f_law_of : Addr
  d_law_of : FuncData
  F_law_of : Fun K "_law_of" "_law_of" s_law_of f_law_of d_law_of
  b_law_of : Binds K d_law_of ["urn", "some"] []
  g__law_of : mg "_law_of" = some (.ref f_law_of)
  f_law_first : Addr
  d_law_first : FuncData
  F_law_first : Fun K "_law_first" "_law_first" s_law_first f_law_first d_law_first
  b_law_first : Binds K d_law_first ["pair"] []
  g__law_first : mg "_law_first" = some (.ref f_law_first)
  f_law_lists : Addr
  d_law_lists : FuncData
  F_law_lists : Fun K "_law_lists" "_law_lists" s_law_lists f_law_lists d_law_lists
  b_law_lists : Binds K d_law_lists ["urn", "many", "most"] []
  g__law_lists : mg "_law_lists" = some (.ref f_law_lists)
  f_law_bound : Addr
  d_law_bound : FuncData
  F_law_bound : Fun K "_law_bound" "_law_bound" s_law_bound f_law_bound d_law_bound
  b_law_bound : Binds K d_law_bound ["row", "depth", "key"] []
  g__law_bound : mg "_law_bound" = some (.ref f_law_bound)
  f_law_sums : Addr
  d_law_sums : FuncData
  F_law_sums : Fun K "_law_sums" "_law_sums" s_law_sums f_law_sums d_law_sums
  b_law_sums : Binds K d_law_sums ["lists", "depths", "key"] []
  g__law_sums : mg "_law_sums" = some (.ref f_law_sums)
  f_law_best : Addr
  d_law_best : FuncData
  F_law_best : Fun K "_law_best" "_law_best" s_law_best f_law_best d_law_best
  b_law_best : Binds K d_law_best ["lists", "many"] []
  g__law_best : mg "_law_best" = some (.ref f_law_best)
  f_law_others : Addr
  d_law_others : FuncData
  F_law_others : Fun K "_law_others" "_law_others" s_law_others f_law_others d_law_others
  b_law_others : Binds K d_law_others ["lists", "depths", "read"] []
  g__law_others : mg "_law_others" = some (.ref f_law_others)
  f_law_settled : Addr
  d_law_settled : FuncData
  F_law_settled : Fun K "_law_settled" "_law_settled" s_law_settled f_law_settled d_law_settled
  b_law_settled : Binds K d_law_settled ["lists", "depths", "many"] []
  g__law_settled : mg "_law_settled" = some (.ref f_law_settled)
  f_law_all_depths : Addr
  d_law_all_depths : FuncData
  F_law_all_depths : Fun K "_law_all_depths" "_law_all_depths" s_law_all_depths f_law_all_depths d_law_all_depths
  b_law_all_depths : Binds K d_law_all_depths ["lists"] []
  g__law_all_depths : mg "_law_all_depths" = some (.ref f_law_all_depths)
  f_law_fewest : Addr
  d_law_fewest : FuncData
  F_law_fewest : Fun K "_law_fewest" "_law_fewest" s_law_fewest f_law_fewest d_law_fewest
  b_law_fewest : Binds K d_law_fewest ["lists", "many"] []
  g__law_fewest : mg "_law_fewest" = some (.ref f_law_fewest)
  f_law_led_lists : Addr
  d_law_led_lists : FuncData
  F_law_led_lists : Fun K "_law_led_lists" "_law_led_lists" s_law_led_lists f_law_led_lists d_law_led_lists
  b_law_led_lists : Binds K d_law_led_lists ["urn", "many"] []
  g__law_led_lists : mg "_law_led_lists" = some (.ref f_law_led_lists)
  f_law_great_right : Addr
  d_law_great_right : FuncData
  F_law_great_right : Fun K "_law_great_right" "_law_great_right" s_law_great_right f_law_great_right d_law_great_right
  b_law_great_right : Binds K d_law_great_right ["urn", "is_led"] []
  g__law_great_right : mg "_law_great_right" = some (.ref f_law_great_right)
  f_law_right : Addr
  d_law_right : FuncData
  F_law_right : Fun K "_law_right" "_law_right" s_law_right f_law_right d_law_right
  b_law_right : Binds K d_law_right ["urn"] []
  g__law_right : mg "_law_right" = some (.ref f_law_right)
  f_law : Addr
  d_law : FuncData
  F_law : Fun K "law" "law" s_law f_law d_law
  b_law : Binds K d_law ["script"] []
  g_law : mg "law" = some (.ref f_law)
  t_MOST_KEY : Tok
  g_MOST_KEY : mg "MOST_KEY" = some (.int 999 t_MOST_KEY)
  t_MOST_ROWS : Tok
  g_MOST_ROWS : mg "MOST_ROWS" = some (.int 40 t_MOST_ROWS)
  t_MOST_POINTS : Tok
  g_MOST_POINTS : mg "MOST_POINTS" = some (.int 999 t_MOST_POINTS)
  t_MOST_LISTS : Tok
  g_MOST_LISTS : mg "MOST_LISTS" = some (.int 4 t_MOST_LISTS)
  t_MOST_PAIRS : Tok
  g_MOST_PAIRS : mg "MOST_PAIRS" = some (.int 40 t_MOST_PAIRS)
  t_MOST_LONG : Tok
  g_MOST_LONG : mg "MOST_LONG" = some (.int 8 t_MOST_LONG)
  z_abs : mg "abs" = none
  z_all : mg "all" = none
  z_any : mg "any" = none
  z_bool : mg "bool" = none
  z_dict : mg "dict" = none
  z_divmod : mg "divmod" = none
  z_enumerate : mg "enumerate" = none
  z_int : mg "int" = none
  z_isinstance : mg "isinstance" = none
  z_len : mg "len" = none
  z_list : mg "list" = none
  z_max : mg "max" = none
  z_min : mg "min" = none
  z_range : mg "range" = none
  z_repr : mg "repr" = none
  z_set : mg "set" = none
  z_sorted : mg "sorted" = none
  z_sum : mg "sum" = none
  z_tuple : mg "tuple" = none
  z_zip : mg "zip" = none
end K71
namespace K71
open PySem PySem.Spec PyProof.Rows L2
/-! ### values and their types -/
theorem sqT_ty {K : PySem.W.Frag} {H : Hp} {a : Addr} {xs : List V} (h : SqT K H a xs) : TyX K H (.ref a) (.type "tuple") := by
  rcases h with (h | ⟨o, h⟩) | ⟨o, its, n, h, c, _⟩
  · exact .base (.tup h)
  · exact .fTuple h
  · exact .kTuple h c
theorem kt {K : PySem.W.Frag} {a b : String} {r : Bool} (h : kitB a b = some r) : PySem.W.kitOne K (.type a) (.type b) = some r := kit_ty h
theorem iteB {c : Bool} {A B : Prop} (hc : c = true) (h : A) : if c = true then A else B := by rw [hc]; exact iteT h
theorem iteB' {c : Bool} {A B : Prop} (hc : c = false) (h : B) : if c = true then A else B := by rw [hc]; exact iteF h
theorem of_dec {Q : VK} {c : Bool} {H : Hp} (h : Q (.bl true) H) (hc : c = true) : Q (.bl c) H := by rw [hc]; exact h
theorem of_decF {Q : VK} {c : Bool} {H : Hp} (h : Q (.bl false) H) (hc : c = false) : Q (.bl c) H := by rw [hc]; exact h
/-! ### lists as data -/
def pairD (q : Int × Int) : PyData := .tuple [.int q.1, .int q.2]
def rowD (r : Row) : PyData := .tuple (r.map pairD)
def rowsD (rs : List Row) : PyData := .tuple (rs.map rowD)
def natD (d : Nat) : PyData := .int (d : Int)
def depD (ds : List Nat) : PyData := .tuple (ds.map natD)
theorem immAll_map {α : Type} {f : α → PyData} (h : ∀ a, imm (f a) = true) : ∀ l : List α, immAll (l.map f) = true
  | [] => rfl
  | a :: l => by simp only [List.map_cons, immAll, Bool.and_eq_true]; exact ⟨h a, immAll_map h l⟩
theorem pair_imm (q : Int × Int) : imm (pairD q) = true := rfl
theorem row_imm (r : Row) : imm (rowD r) = true := by unfold rowD; simp only [imm]; exact immAll_map pair_imm r
theorem rows_imm (rs : List Row) : imm (rowsD rs) = true := by unfold rowsD; simp only [imm]; exact immAll_map row_imm rs
theorem dep_imm (ds : List Nat) : imm (depD ds) = true := by unfold depD; simp only [imm]; exact immAll_map (f := natD) (fun _ => rfl) ds
theorem pair_at {K : PySem.W.Frag} {H : Hp} {v : V} {q : Int × Int} (h : Dp K H v (pairD q)) : ∃ a, v = .ref a ∧ SqT K H a [.int q.1, .int q.2] := by
  unfold pairD at h
  cases h with
  | tup s d =>
    cases d with
    | cons h1 t =>
      cases t with
      | cons h2 t =>
        cases t
        cases h1
        cases h2
        exact ⟨_, rfl, s⟩
theorem map_get {K : PySem.W.Frag} {H : Hp} {α : Type} {f : α → PyData} {xs : List V} {l : List α} (h : DpAll K H xs (l.map f)) : xs.length = l.length ∧ ∀ (i : Nat) (x : V), xs[i]? = some x → ∃ a, l[i]? = some a ∧ Dp K H x (f a) := by
  refine ⟨by rw [DpAll.length h, List.length_map], fun i x hx => ?_⟩
  obtain ⟨d, e1, e2⟩ := DpAll.get h hx
  rw [List.getElem?_map] at e1
  cases q : l[i]? with
  | none => rw [q] at e1; cases e1
  | some a =>
    rw [q] at e1
    cases e1
    exact ⟨a, rfl, e2⟩
theorem tup_at {K : PySem.W.Frag} {H : Hp} {α : Type} {f : α → PyData} {v : V} {l : List α} (h : Dp K H v (.tuple (l.map f))) : ∃ a xs, v = .ref a ∧ SqT K H a xs ∧ DpAll K H xs (l.map f) := by
  cases h with
  | tup s d => exact ⟨_, _, rfl, s, d⟩
theorem get_of {K : PySem.W.Frag} {H : Hp} {α : Type} {f : α → PyData} {xs : List V} {l : List α} (h : DpAll K H xs (l.map f)) {i : Nat} {a : α} (hi : l[i]? = some a) : ∃ x, xs[i]? = some x ∧ Dp K H x (f a) := by
  obtain ⟨len, g⟩ := map_get h
  have hl := (List.getElem?_eq_some_iff.mp hi).1
  have e : xs[i]? = some (xs[i]'(by omega)) := List.getElem?_eq_getElem (by omega)
  obtain ⟨b, e1, e2⟩ := g i _ e
  rw [hi] at e1
  cases e1
  exact ⟨_, e, e2⟩
/-! ### promises -/
def spWhole : Sp := fun vs H Q _ => ∃ i : Int, vs = [.int i] ∧ Q (.bl true) H
def spNumber : Sp := fun vs H Q _ => ∃ (i lo hi : Int), vs = [.int i, .int lo, .int hi] ∧ lo ≤ i ∧ i ≤ hi ∧ Q (.bl true) H
def spCheckN : Sp := fun vs H Q _ => ∃ (i lo hi : Int), vs = [.int i, .int lo, .int hi] ∧ lo ≤ i ∧ i ≤ hi ∧ Q .non H
def spKey : Sp := fun vs H Q _ => ∃ k : Int, vs = [.int k] ∧ 1 ≤ k ∧ k ≤ 999 ∧ Q (.bl true) H
def spTupleOf (K : PySem.W.Frag) : Sp := fun vs H Q _ => ∃ (p : Addr) (xs : List V) (n : Int), vs = [.ref p, .int n] ∧ SqT K H p xs ∧ (xs.length : Int) = n ∧ Q (.bl true) H
def spPair (K : PySem.W.Frag) : Sp := fun vs H Q _ => ∃ (p : Addr) (x k : Int), vs = [.ref p] ∧ SqT K H p [.int x, .int k] ∧ 1 ≤ x ∧ x ≤ 999 ∧ 1 ≤ k ∧ k ≤ 999 ∧ Q (.bl true) H
section
variable {P : Program} {w : World} {K : PySem.W.Frag} {mg : Str → Option Value} {base : Heap}
theorem ok_is_whole (T : Txt P K mg) : FnOk P w K mg base CX0 1 T.f_is_whole T.d_is_whole ["value"] spWhole := by
  refine T.F_is_whole.ok sc_is_whole (fun vs H Q E h => by obtain ⟨i, rfl, _⟩ := h; rfl) (fun cdv A outer s H vs Q E hr h => ⟨_, (pss_one (ps_ret (pe_and (pe_callB call_isi rfl T.z_isinstance (by decide +kernel) (pa_cons (pv 0) (pa_cons (pe_bltn (v := .ty "int") (u := .type "int") rfl T.z_int (by decide +kernel) rfl) pa_nil))) (pe_one (pe_not (pe_callB call_isi rfl T.z_isinstance (by decide +kernel) (pa_cons (pv 0) (pa_cons (pe_bltn (v := .ty "bool") (u := .type "bool") rfl T.z_bool (by decide +kernel) rfl) pa_nil)))))))), ?_⟩)
  obtain ⟨i, rfl, q⟩ := h
  refine ⟨_, rfl, _, _, _, _, true, rfl, .ty _, .base (.int i), kt (by decide +kernel), _, rfl, iteT ?_⟩
  exact ⟨_, rfl, _, _, _, _, false, rfl, .ty _, .base (.int i), kt (by decide +kernel), _, rfl, q⟩
theorem ok_is_number (T : Txt P K mg) : FnOk P w K mg base CX0 2 T.f_is_number T.d_is_number ["value", "low", "high"] spNumber := by
  refine T.F_is_number.ok sc_is_number (fun vs H Q E h => by obtain ⟨i, lo, x, rfl, _⟩ := h; rfl) (fun cdv A outer s H vs Q E hr h => ⟨_, (pss_cons (ps_if (PW.pt (pw_or (pt_not (pt_val (pe_call (ok_is_whole T) (hr.mono (by omega)) rfl T.g_is_whole T.F_is_whole.kp T.b_is_whole .nil pass0 (pa_cons (pv 0) pa_nil)))) (pw_or1 (PW.pt (pw_and (pt_cmpR op_notN (pv 1) pe_non (nomark _)) (pw_and1 (pt_cmpR op_lt (pv 0) (pv 1) (nomark _))))))))
      (pss_one (ps_ret pe_bl)) pss_nil)
      (pss_one (ps_ret (pe_or (pe_cmpR op_isN (pv 2) pe_non (nomark _)) (pe_one (pe_cmpR op_le (pv 0) (pv 2) (nomark _))))))), ?_⟩)
  obtain ⟨i, lo, hi, rfl, h1, h2, q⟩ := h
  refine ⟨_, rfl, i, rfl, ?_⟩
  refine ⟨_, rfl, iteF ?_⟩
  refine ⟨_, rfl, rfl, _, rfl, iteB (by simp) ?_⟩
  refine ⟨_, rfl, _, rfl, _, _, rfl, rfl, _, rfl, iteB' (by simp; omega) ?_⟩
  refine ⟨_, rfl, rfl, _, rfl, ?_⟩
  refine iteB' (by simp) ⟨_, rfl, _, rfl, _, _, rfl, rfl, of_dec q (by simp; omega)⟩
theorem ok_check_number (T : Txt P K mg) : FnOk P w K mg base CX0 3 T.f_check_number T.d_check_number ["value", "low", "high"] spCheckN := by
  refine T.F_check_number.ok sc_check_number (fun vs H Q E h => by obtain ⟨i, lo, x, rfl, _⟩ := h; rfl) (fun cdv A outer s H vs Q E hr h => ⟨_, (pss_one (ps_if (pt_not (pt_val (pe_call (ok_is_number T) (hr.mono (by omega)) rfl T.g_is_number T.F_is_number.kp T.b_is_number .nil pass0 (pa_cons (pv 0) (pa_cons (pv 1) (pa_cons (pv 2) pa_nil))))))
      (pss_one ps_never) pss_nil)), ?_⟩)
  obtain ⟨i, lo, hi, rfl, h1, h2, q⟩ := h
  refine ⟨_, rfl, _, rfl, _, rfl, i, lo, hi, rfl, h1, h2, ?_⟩
  exact ⟨_, rfl, iteF q⟩
theorem ok_is_key (T : Txt P K mg) : FnOk P w K mg base CX0 3 T.f_is_key T.d_is_key ["value"] spKey := by
  refine T.F_is_key.ok sc_is_key (fun vs H Q E h => by obtain ⟨i, rfl, _⟩ := h; rfl) (fun cdv A outer s H vs Q E hr h => ⟨_, (pss_one (ps_ret (pe_call (ok_is_number T) (hr.mono (by omega)) rfl T.g_is_number T.F_is_number.kp T.b_is_number .nil pass0 (pa_cons (pv 0) (pa_cons pe_int (pa_cons (pe_glob (v := .int (999)) rfl T.g_MOST_KEY ⟨_, rfl⟩) pa_nil)))))), ?_⟩)
  obtain ⟨k, rfl, h1, h2, q⟩ := h
  exact ⟨_, rfl, k, 1, 999, rfl, h1, h2, q⟩
theorem ok_is_tuple_of (T : Txt P K mg) : FnOk P w K mg base CX0 1 T.f_is_tuple_of T.d_is_tuple_of ["value", "many"] (spTupleOf K) := by
  refine T.F_is_tuple_of.ok sc_is_tuple_of (fun vs H Q E h => by obtain ⟨i, lo, x, rfl, _⟩ := h; rfl) (fun cdv A outer s H vs Q E hr h => ⟨_, (pss_one (ps_ret (pe_and (pe_callB call_isi rfl T.z_isinstance (by decide +kernel) (pa_cons (pv 0) (pa_cons (pe_bltn (v := .ty "tuple") (u := .type "tuple") rfl T.z_tuple (by decide +kernel) rfl) pa_nil))) (pe_one (pe_cmpR op_eq (pe_callB call_len_seq rfl T.z_len (by decide +kernel) (pa_cons (pv 0) pa_nil)) (pv 1) (nomark _)))))), ?_⟩)
  obtain ⟨p, xs, n, rfl, h1, h2, q⟩ := h
  refine ⟨_, rfl, _, _, _, _, true, rfl, .ty _, sqT_ty h1, kt (by decide +kernel), _, rfl, iteT ?_⟩
  exact ⟨_, rfl, p, xs, rfl, .inr h1, _, rfl, rfl, of_dec q (by rw [h2]; simp)⟩
theorem ok_is_pair (T : Txt P K mg) : FnOk P w K mg base CX0 4 T.f_is_pair T.d_is_pair ["value"] (spPair K) := by
  refine T.F_is_pair.ok sc_is_pair (fun vs H Q E h => by obtain ⟨p, x, k, rfl, _⟩ := h; rfl) (fun cdv A outer s H vs Q E hr h => ⟨_, (pss_one (ps_ret (pe_and (pe_call (ok_is_tuple_of T) (hr.mono (by omega)) rfl T.g_is_tuple_of T.F_is_tuple_of.kp T.b_is_tuple_of .nil pass0 (pa_cons (pv 0) (pa_cons pe_int pa_nil))) (pe_and (pe_call (ok_is_number T) (hr.mono (by omega)) rfl T.g_is_number T.F_is_number.kp T.b_is_number .nil pass0 (pa_cons (pe_ix ix_tup (pv 0) pe_int (fun _ _ => rfl)) (pa_cons pe_int (pa_cons (pe_glob (v := .int (999)) rfl T.g_MOST_POINTS ⟨_, rfl⟩) pa_nil)))) (pe_one (pe_call (ok_is_key T) (hr.mono (by omega)) rfl T.g_is_key T.F_is_key.kp T.b_is_key .nil pass0 (pa_cons (pe_ix ix_tup (pv 0) pe_int (fun _ _ => rfl)) pa_nil))))))), ?_⟩)
  obtain ⟨p, x, k, rfl, h1, h2, h3, h4, h5, q⟩ := h
  refine ⟨_, rfl, p, _, _, rfl, h1, rfl, _, rfl, iteT ?_⟩
  refine ⟨_, rfl, p, _, _, _, rfl, rfl, h1, rfl, x, 1, 999, rfl, h2, h3, _, rfl, iteT ?_⟩
  exact ⟨_, rfl, p, _, _, _, rfl, rfl, h1, rfl, k, rfl, h4, h5, q⟩
end
end K71
namespace K71
open PySem PySem.Spec PyProof.Rows L2 RZ 
theorem cut_from (xs : List V) (m : Nat) : cutV xs (some (m : Int)) none = xs.drop m := by
  unfold cutV
  rw [HT.sIx_nat, HT.sIx_none]
  by_cases h : m ≤ xs.length
  · rw [Nat.min_eq_left h, List.take_of_length_le (by rw [List.length_drop]; exact Nat.le_refl _)]
  · rw [Nat.min_eq_right (by omega), List.drop_of_length_le (Nat.le_refl _), List.drop_of_length_le (by omega), List.take_nil]
theorem cut_to (xs : List V) (m : Nat) : cutV xs none (some (m : Int)) = xs.take m := by
  unfold cutV
  rw [HT.sIx_nat, HT.sIx_none, List.drop_zero, Nat.sub_zero]
  by_cases h : m ≤ xs.length
  · rw [Nat.min_eq_left h]
  · rw [Nat.min_eq_right (by omega), List.take_of_length_le (Nat.le_refl _), List.take_of_length_le (by omega)]
def Asc (ps : List (Int × Int)) : Prop := ∀ (i : Nat) (q r : Int × Int), ps[i]? = some q → ps[i + 1]? = some r → q.1 < r.1 ∨ (q.1 = r.1 ∧ q.2 < r.2)
/-- a list of pairs of numbers -/
def Prs (K : PySem.W.Frag) (H : Hp) (xs : List V) (ps : List (Int × Int)) : Prop := DpAll K H xs (ps.map pairD)
def spAsc (K : PySem.W.Frag) : Sp := fun vs H Q _ => ∃ (a : Addr) (xs : List V) (ps : List (Int × Int)), vs = [.ref a] ∧ SqL K H a xs ∧ DpAll K H xs (ps.map pairD) ∧ Asc ps ∧ ps.length ≤ 1000 ∧ ∀ H', Same H H' → Q (.bl true) H'
def spList (K : PySem.W.Frag) : Sp := fun vs H Q _ => ∃ (v : V) (r : Row), vs = [v] ∧ Dp K H v (rowD r) ∧ RowOk r ∧ ∀ H', Same H H' → Q (.bl true) H'
def spCheckL (K : PySem.W.Frag) : Sp := fun vs H Q _ => ∃ (v : V) (rs : List Row), vs = [v] ∧ Dp K H v (rowsD rs) ∧ (∀ r ∈ rs, RowOk r) ∧ 1 ≤ rs.length ∧ rs.length ≤ 4 ∧ ∀ H', Same H H' → Q .non H'
section
variable {P : Program} {w : World} {K : PySem.W.Frag} {mg : Str → Option Value} {base : Heap}
theorem ok_is_ascending (T : Txt P K mg) : FnOk P w K mg base CX0 1 T.f_is_ascending T.d_is_ascending ["values"] (spAsc K) := by
  refine T.F_is_ascending.ok sc_is_ascending (fun vs H Q E h => by obtain ⟨a, xs, ps, rfl, _⟩ := h; rfl) (fun cdv A outer s H vs Q E hr h => ⟨_, (pss_one (ps_ret (pe_callB (cr_all rfl) rfl T.z_all (by decide +kernel) (pa_cons (pe_lc (own := [("one", 1), ("two", 2)]) (te := tOp (rLtT K) (tVar 1) (tVar 2)) (g := gTup K 2 (gCons (gName 1) (gCons (gName 2) gNil))) rfl sc_is_ascending.nd (pi_zipA rfl T.z_zip (pa_cons (pv 0) (pa_cons (pe_slice sl_list (pv 0) (po_some pe_int) po_none) pa_nil))) (blkOk_by (own := [("one", 1), ("two", 2)]) (N := N_is_ascending) (sc := defScope s_is_ascending) (by decide +kernel)) (fun _ _ _ _ _ => (pg_tup rfl (pgs_cons (pg_name (i := 1) sc_is_ascending.nd rfl (by first | exact Or.inl rfl | exact Or.inr rfl)) (pgs_cons (pg_name (i := 2) sc_is_ascending.nd rfl (by first | exact Or.inl rfl | exact Or.inr rfl)) pgs_nil)))) (fun _ _ _ _ _ => (by exact pts_nil)) (fun _ _ _ _ _ => (by exact (pe_cmpR (op_ltT (by exact Nat.lt_of_succ_lt (hu_of hr))) (pv 1) (pv 2) (nomark _))))) pa_nil)))), ?_⟩)
  obtain ⟨a, xs, ps, rfl, hs, hd, ha, hl, q⟩ := h
  obtain ⟨len, get⟩ := map_get hd
  have im := immAll_map pair_imm ps
  refine ⟨_, rfl, _, rfl, _, rfl, a, xs, rfl, hs, fun b hb => ?_⟩
  have s1 := Same.new (o := .lst (cutV xs (some 1) none)) hb
  refine ⟨a, b, xs, cutV xs (some 1) none, rfl, .inl ⟨s1.sqL hs, .of upd_same, fun D hD => ?_⟩⟩
  have eb : upd H b (.lst (cutV xs (some 1) none)) b = some (.lst (cutV xs (some 1) none)) := upd_same
  generalize upd H b (.lst (cutV xs (some 1) none)) = H1 at s1 hD eb ⊢
  have cut : cutV xs (some 1) none = xs.drop 1 := cut_from xs 1
  rw [cut] at eb
  refine lc_it (walk_zip (n := min xs.length (xs.drop 1).length) rfl) (fun i H' => H' D = some (.lst ((List.replicate i true).map V.bl)) ∧ Same H1 H') ⟨upd_same, Same.new hD⟩ (fun i H' _ h => ⟨h.2.sqL (s1.sqL hs), .of (h.2 _ _ eb)⟩) ?_ ?_
  · rintro i x H2 H3 hi ⟨e1, e2⟩ ⟨t, y, z, rfl, ht, rfl, hy, hz⟩
    obtain ⟨p, hp1, hp2⟩ := get i y hy
    have hz : (xs.drop 1)[i]? = some z := hz
    rw [List.getElem?_drop] at hz
    obtain ⟨r, hr1, hr2⟩ := get (1 + i) z hz
    have s3 := (s1.trans e2).step (o := .tup [y, z]) ht
    obtain ⟨a1, rfl, t1⟩ := pair_at (Dp.keep s3.tupK _ _ (pair_imm p) hp2)
    obtain ⟨a2, rfl, t2⟩ := pair_at (Dp.keep s3.tupK _ _ (pair_imm r) hr2)
    refine ⟨t, _, rfl, .of upd_same, rfl, _, _, rfl, _, _, rfl, rfl, rfl, _, rfl, _, rfl, a1, a2, [p.1, p.2], [r.1, r.2], rfl, rfl, t1, t2, ?_⟩
    have lt : HT.lexLt [p.1, p.2] [r.1, r.2] = true := by
      have z := ha i p r hp1 (by rw [Nat.add_comm] at hr1; exact hr1)
      rw [HT.lexLt_cons, HT.lexLt_cons, HT.lexLt_nil_nil]
      by_cases e : p.1 = r.1
      · rw [if_pos e, if_neg (by omega)]
        exact decide_eq_true (by omega)
      · rw [if_neg e]
        exact decide_eq_true (by omega)
    rw [lt]
    have nD : D ≠ t := ne_of_none e1 ht
    refine ⟨_, (Same.new ht) _ _ e1, ?_, ?_, (e2.step ht).own hD⟩
    · rw [List.length_map, List.length_replicate]
      exact Nat.lt_of_le_of_lt (show i ≤ 1000 by omega) (by decide)
    · rw [upd_same, List.replicate_succ', List.map_append]
      rfl
  · rintro H' ⟨e1, e2⟩
    exact ⟨D, List.replicate (min xs.length (xs.drop 1).length) true, rfl, .of e1, of_dec (q H' (s1.trans e2)) (by simp)⟩
theorem ok_is_list (T : Txt P K mg) : FnOk P w K mg base CX0 5 T.f_is_list T.d_is_list ["value"] (spList K) := by
  refine T.F_is_list.ok sc_is_list (fun vs H Q E h => by obtain ⟨v, r, rfl, _⟩ := h; rfl) (fun cdv A outer s H vs Q E hr h => ⟨_, (pss_cons (ps_if (PW.pt (pw_or (pt_not (pt_val (pe_callB call_isi rfl T.z_isinstance (by decide +kernel) (pa_cons (pv 0) (pa_cons (pe_bltn (v := .ty "tuple") (u := .type "tuple") rfl T.z_tuple (by decide +kernel) rfl) pa_nil))))) (pw_or (pt_cmpR op_gt (pe_callB call_len_seq rfl T.z_len (by decide +kernel) (pa_cons (pv 0) pa_nil)) (pe_glob (v := .int (40)) rfl T.g_MOST_PAIRS ⟨_, rfl⟩) (nomark _)) (pw_or1 (pt_not (pt_val (pe_callB (cr_all rfl) rfl T.z_all (by decide +kernel) (pa_cons (pe_lc (own := [("each", 5)]) rfl sc_is_list.nd (pi_tup (pv 0)) (blkOk_by (own := [("each", 5)]) (N := N_is_list) (sc := defScope s_is_list) (by decide +kernel)) (fun _ _ _ _ _ => (pg_name (i := 5) sc_is_list.nd rfl (by first | exact Or.inl rfl | exact Or.inr rfl))) (fun _ _ _ _ _ => (by exact pts_nil)) (fun _ _ _ _ _ => (by exact (pe_call (ok_is_pair T) (hr.mono (by omega)) rfl T.g_is_pair T.F_is_pair.kp T.b_is_pair .nil pass0 (pa_cons (pv 5) pa_nil))))) pa_nil))))))))
      (pss_one (ps_ret pe_bl)) pss_nil)
      (pss_cons (ps_setLc (i := 1) (own := [("_", 2), ("key", 3)]) (g := gTup K 2 (gCons (gName 2) (gCons (gName 3) gNil))) rfl sc_is_list.nd rfl rfl (sw_true rfl rfl rfl (by decide +kernel)) (pi_tup (pv 0)) (blkOk_by (own := [("_", 2), ("key", 3)]) (N := N_is_list) (sc := defScope s_is_list) (by decide +kernel)) (fun _ _ _ _ _ => (pg_tup rfl (pgs_cons (pg_name (i := 2) sc_is_list.nd rfl (by first | exact Or.inl rfl | exact Or.inr rfl)) (pgs_cons (pg_name (i := 3) sc_is_list.nd rfl (by first | exact Or.inl rfl | exact Or.inr rfl)) pgs_nil)))) (fun _ _ _ _ _ => (by exact pts_nil)) (fun _ _ _ _ _ => (by exact (pv 3))))
      (pss_cons (ps_if (pt_cmpR op_lt (pe_lenSetI rfl rfl T.z_len rfl T.z_set (pv 1)) (pe_callB call_len_seq rfl T.z_len (by decide +kernel) (pa_cons (pv 1) pa_nil)) (nomark _))
      (pss_one (ps_ret pe_bl)) pss_nil)
      (pss_one (ps_ret (pe_call (ok_is_ascending T) (hr.mono (by omega)) rfl T.g_is_ascending T.F_is_ascending.kp T.b_is_ascending .nil pass0 (pa_cons (pe_lc (own := [("points", 4), ("key", 3)]) (g := gTup K 2 (gCons (gName 4) (gCons (gName 3) gNil))) rfl sc_is_list.nd (pi_tup (pv 0)) (blkOk_by (own := [("points", 4), ("key", 3)]) (N := N_is_list) (sc := defScope s_is_list) (by decide +kernel)) (fun _ _ _ _ _ => (pg_tup rfl (pgs_cons (pg_name (i := 4) sc_is_list.nd rfl (by first | exact Or.inl rfl | exact Or.inr rfl)) (pgs_cons (pg_name (i := 3) sc_is_list.nd rfl (by first | exact Or.inl rfl | exact Or.inr rfl)) pgs_nil)))) (fun _ _ _ _ _ => (by exact pts_nil)) (fun _ _ _ _ _ => (by exact (pe_tup (pa_cons (pe_un un_neg (pv 4)) (pa_cons (pv 3) pa_nil)))))) pa_nil))))))), ?_⟩)
  obtain ⟨v, r, rfl, hd, ok, q⟩ := h
  obtain ⟨a, xs, rfl, sq, da⟩ := tup_at hd
  obtain ⟨len, get⟩ := map_get da
  have im := row_imm r
  have l40 := ok.len
  refine ⟨_, rfl, _, _, _, _, true, rfl, .ty _, sqT_ty sq, kt (by decide +kernel), _, rfl, iteF ?_⟩
  refine ⟨_, rfl, a, xs, rfl, .inr sq, _, _, rfl, rfl, _, rfl, iteB' (by simp; omega) ?_⟩
  refine ⟨_, rfl, a, rfl, ⟨xs, sq⟩, fun D hD => ?_⟩
  refine lc_tup (K := K) (a := a) (xs := xs) (fun i H' => H' D = some (.lst ((List.replicate i true).map V.bl)) ∧ Same H H') ⟨upd_same, Same.new hD⟩ (fun i H' _ h => h.2.sqT sq) ?_ ?_
  · rintro i x H' hx ⟨e1, e2⟩
    obtain ⟨p, hp1, hp2⟩ := get i x hx
    have hi := (List.getElem?_eq_some_iff.mp hx).1
    have hm := List.mem_of_getElem? hp1
    obtain ⟨b, rfl, t1⟩ := pair_at (Dp.keep e2.tupK _ _ (pair_imm p) hp2)
    refine ⟨rfl, _, rfl, b, p.1, p.2, rfl, t1, (ok.pts p hm).1, (ok.pts p hm).2, (ok.key p hm).1, (ok.key p hm).2, ?_⟩
    refine ⟨_, e1, ?_, ?_, e2.own hD⟩
    · rw [List.length_map, List.length_replicate]
      exact Nat.lt_of_le_of_lt (show i ≤ 1000 by omega) (by decide)
    · rw [upd_same, List.replicate_succ', List.map_append]
      rfl
  rintro H1 ⟨e1, s1⟩
  refine ⟨D, List.replicate xs.length true, rfl, .of e1, _, rfl, iteB' (by simp) ?_⟩
  have sq1 := s1.sqT sq
  clear e1
  refine ⟨_, rfl, a, rfl, ⟨xs, sq1⟩, fun D2 hD2 => ?_⟩
  refine lc_tup (K := K) (a := a) (xs := xs) (fun i H' => H' D2 = some (.lst (((r.take i).map (·.2)).map V.int)) ∧ Same H1 H') ⟨upd_same, Same.new hD2⟩ (fun i H' _ h => h.2.sqT sq1) ?_ ?_
  · rintro i x H' hx ⟨e1, e2⟩
    obtain ⟨p, hp1, hp2⟩ := get i x hx
    obtain ⟨b, rfl, t1⟩ := pair_at (Dp.keep (s1.trans e2).tupK _ _ (pair_imm p) hp2)
    refine ⟨b, _, rfl, t1, rfl, _, _, rfl, _, _, rfl, rfl, rfl, _, rfl, _, e1, ?_, ?_, e2.own hD2⟩
    · rw [List.length_map, List.length_map, List.length_take]
      exact Nat.lt_of_le_of_lt (show _ ≤ 1000 by omega) (by decide)
    · rw [upd_same, List.take_add_one, hp1, List.map_append, List.map_append]
      rfl
  rintro H2 ⟨e2, s2⟩
  rw [len, List.take_length] at e2
  refine ⟨_, rfl, D2, r.map (·.2), rfl, .of e2, (by rw [List.length_map]; omega), ok.nod, _, rfl, D2, _, rfl, .inl (.of e2), _, _, rfl, rfl, _, rfl, iteB' (by simp) ?_⟩
  have sq2 := s2.sqT sq1
  clear e2
  refine ⟨_, rfl, a, rfl, ⟨xs, sq2⟩, fun D3 hD3 => ?_⟩
  refine lc_tup (K := K) (a := a) (xs := xs) (fun i H' => ∃ acc, H' D3 = some (.lst acc) ∧ DpAll K H' acc (((r.map fun q => (-q.1, q.2)).take i).map pairD) ∧ Same H2 H') ⟨[], upd_same, .nil, Same.new hD3⟩ (fun i H' _ h => h.choose_spec.2.2.sqT sq2) ?_ ?_
  · rintro i x H' hx ⟨acc, e1, e2, e3⟩
    obtain ⟨p, hp1, hp2⟩ := get i x hx
    obtain ⟨b, rfl, t1⟩ := pair_at (Dp.keep ((s1.trans s2).trans e3).tupK _ _ (pair_imm p) hp2)
    refine ⟨b, _, rfl, t1, rfl, _, _, rfl, _, _, rfl, rfl, rfl, ?_⟩
    refine ⟨_, rfl, _, rfl, _, rfl, by show 2 ≤ sizeLine; decide, fun t ht => ?_⟩
    have nD : t ≠ D3 := fun z => by rw [z, e1] at ht; cases ht
    refine ⟨acc, (Same.new ht) _ _ e1, ?_, acc ++ [.ref t], upd_same, ?_, (e3.step ht).own hD3⟩
    · have := DpAll.length e2
      rw [this, List.length_map, List.length_take, List.length_map]
      exact Nat.lt_of_le_of_lt (show _ ≤ 1000 by omega) (by decide)
    · have k1 := (Same.new (o := .tup [.int (-p.1), .int p.2]) ht).tupK
      have k2 : TupK (upd H' t (.tup [.int (-p.1), .int p.2])) (upd (upd H' t (.tup [.int (-p.1), .int p.2])) D3 (.lst (acc ++ [.ref t]))) := But.tupK (S := (· = D3)) (But.set rfl) fun c ys hc => by rw [hc]; exact not_tup_lst ((Same.new ht) _ _ e1)
      rw [List.take_add_one, List.getElem?_map, hp1, List.map_append]
      refine DpAll.app (Dp.keepAll (k1.trans k2) _ _ (immAll_map pair_imm _) e2) (.cons (.tup (.of ?_) (.cons (.int _) (.cons (.int _) .nil))) .nil)
      rw [upd_ne nD, upd_same]
  rintro H3 ⟨acc, e1, e2, e3⟩
  rw [len, List.take_of_length_le (by rw [List.length_map]; exact Nat.le_refl _)] at e2
  refine ⟨D3, acc, r.map fun q => (-q.1, q.2), rfl, .of e1, e2, ?_, by rw [List.length_map]; omega, fun H' s4 => q H' (((s1.trans s2).trans e3).trans s4)⟩
  intro i p t hp ht
  rw [List.getElem?_map] at hp ht
  cases h1 : r[i]? with
  | none => rw [h1] at hp; cases hp
  | some p0 =>
    cases h2 : r[i + 1]? with
    | none => rw [h2] at ht; cases ht
    | some t0 =>
      rw [h1] at hp
      rw [h2] at ht
      cases hp
      cases ht
      have z := pair_le ok h1 h2 (Nat.lt_succ_self i)
      unfold Bef at z
      show -p0.1 < -t0.1 ∨ (-p0.1 = -t0.1 ∧ p0.2 < t0.2)
      omega
end
end K71
namespace K71
open PySem PySem.Spec PyProof.Rows L2 RZ
def spBound (K : PySem.W.Frag) : Sp := fun vs H Q _ => ∃ (v : V) (r : Row) (d : Nat) (k : Int), vs = [v, .int d, .int k] ∧ Dp K H v (rowD r) ∧ d ≤ r.length ∧ r.length ≤ 40 ∧ Q (.int (bound r d k)) H
section
variable {P : Program} {w : World} {K : PySem.W.Frag} {mg : Str → Option Value} {base : Heap}
theorem ok_check_lists (T : Txt P K mg) : FnOk P w K mg base CX0 6 T.f_check_lists T.d_check_lists ["value"] (spCheckL K) := by
  refine T.F_check_lists.ok sc_check_lists (fun vs H Q E h => by obtain ⟨v, r, rfl, _⟩ := h; rfl) (fun cdv A outer s H vs Q E hr h => ⟨_, (pss_cons (ps_if (PW.pt (pw_or (pt_not (pt_val (pe_callB call_isi rfl T.z_isinstance (by decide +kernel) (pa_cons (pv 0) (pa_cons (pe_bltn (v := .ty "tuple") (u := .type "tuple") rfl T.z_tuple (by decide +kernel) rfl) pa_nil))))) (pw_or1 (pt_not (pt_chain op_lt op_le pe_int (pe_callB call_len_seq rfl T.z_len (by decide +kernel) (pa_cons (pv 0) pa_nil)) (pe_glob (v := .int (4)) rfl T.g_MOST_LISTS ⟨_, rfl⟩))))))
      (pss_one ps_never) pss_nil)
      (pss_one (ps_for PassesOwn.never rfl (pi_enumT rfl T.z_enumerate (pa_cons (pv 0) pa_nil)) (pg_tup rfl (pgs_cons (pg_name (i := 1) sc_check_lists.nd rfl (by first | exact Or.inl rfl | exact Or.inr rfl)) (pgs_cons (pg_name (i := 2) sc_check_lists.nd rfl (by first | exact Or.inl rfl | exact Or.inr rfl)) pgs_nil)))
      (pss_one (ps_if (pt_not (pt_val (pe_call (ok_is_list T) (hr.mono (by omega)) rfl T.g_is_list T.F_is_list.kp T.b_is_list .nil pass0 (pa_cons (pv 2) pa_nil))))
      (pss_one ps_never) pss_nil))))), ?_⟩)
  obtain ⟨v, rs, rfl, hd, ok, h1, h4, q⟩ := h
  obtain ⟨a, xs, rfl, sq, da⟩ := tup_at hd
  obtain ⟨len, get⟩ := map_get da
  refine ⟨_, rfl, _, _, _, _, true, rfl, .ty _, sqT_ty sq, kt (by decide +kernel), _, rfl, iteF ?_⟩
  refine ⟨_, rfl, a, xs, rfl, .inr sq, _, _, rfl, rfl, _, rfl, iteB (decide_eq_true (by omega)) ?_⟩
  refine ⟨_, _, rfl, rfl, _, rfl, iteB' (by simp; omega) ?_⟩
  refine ⟨_, rfl, a, xs, rfl, sq, ?_⟩
  refine for_it walk_enumT (fun i σ H' => ∃ (x1 x2 : Option V), σ = [some (.ref a), x1, x2] ∧ Same H H') ⟨none, none, rfl, Same.refl H⟩ (fun i σ H' _ h => by obtain ⟨_, _, _, k⟩ := h; exact k.sqT sq) ?_ (fun σ H' h => by obtain ⟨_, _, _, k⟩ := h; exact q H' k)
  rintro i x σ H1 H2 hi ⟨x1, x2, rfl, k⟩ ⟨t, y, z, rfl, ht, rfl, hy, hz⟩
  obtain ⟨r, hr1, hr2⟩ := get i z hz
  cases hy
  have k2 := k.step (o := .tup [.int (i : Nat), z]) ht
  refine ⟨t, _, rfl, .of upd_same, rfl, _, _, rfl, _, _, rfl, rfl, ?_⟩
  refine ⟨_, rfl, z, r, rfl, Dp.keep k2.tupK _ _ (row_imm r) hr2, ok r (List.mem_of_getElem? hr1), fun H3 k3 => ?_⟩
  exact ⟨_, rfl, iteB' rfl ⟨_, _, rfl, k2.trans k3⟩⟩
theorem ok_bound_of (T : Txt P K mg) : FnOk P w K mg base CX0 1 T.f_bound_of T.d_bound_of ["row", "depth", "key"] (spBound K) := by
  refine T.F_bound_of.ok sc_bound_of (fun vs H Q E h => by obtain ⟨v, r, d, k, rfl, _⟩ := h; rfl) (fun cdv A outer s H vs Q E hr h => ⟨_, (pss_cons (ps_if (pt_cmpR op_eq (pv 1) (pe_callB call_len_seq rfl T.z_len (by decide +kernel) (pa_cons (pv 0) pa_nil)) (nomark _))
      (pss_one (ps_ret pe_int)) pss_nil)
      (pss_cons (ps_if (pt_cmpR op_eq (pv 1) pe_int (nomark _))
      (pss_one (ps_ret (pe_glob (v := .int (999)) rfl T.g_MOST_POINTS ⟨_, rfl⟩))) pss_nil)
      (pss_cons (ps_asg (pe_ix ix_tup (pv 0) (pe_op op_sub (pv 1) pe_int) (fun _ _ => rfl)) (pg_tup rfl (pgs_cons (pg_name (i := 3) sc_bound_of.nd rfl (by first | exact Or.inl rfl | exact Or.inr rfl)) (pgs_cons (pg_name (i := 4) sc_bound_of.nd rfl (by first | exact Or.inl rfl | exact Or.inr rfl)) pgs_nil))))
      (pss_one (ps_ret (pe_ifExp (pt_cmpR op_gt (pv 2) (pv 4) (nomark _)) (pv 3) (pe_op op_sub (pv 3) pe_int))))))), ?_⟩)
  obtain ⟨v, r, d, k, rfl, hd, hl, h40, q⟩ := h
  obtain ⟨a, xs, rfl, sq, da⟩ := tup_at hd
  obtain ⟨len, get⟩ := map_get da
  refine ⟨_, rfl, _, rfl, a, xs, rfl, .inr sq, rfl, _, rfl, ?_⟩
  rw [len]
  by_cases c : d = r.length
  · refine iteB (by simp [c]) ?_
    have e : bound r d k = 0 := by unfold bound; rw [if_pos c]
    rw [e] at q
    exact q
  refine iteB' (by simp; omega) ?_
  refine ⟨_, rfl, rfl, _, rfl, ?_⟩
  by_cases c0 : d = 0
  · refine iteB (by simp [c0]) ?_
    have e : bound r d k = 999 := by
      unfold bound
      rw [if_neg c]
      cases r[d - 1]? <;> simp [c0]
    rw [e] at q
    exact q
  refine iteB' (by simp; omega) ?_
  obtain ⟨p, hp⟩ : ∃ p, r[d - 1]? = some p := ⟨_, List.getElem?_eq_getElem (by omega)⟩
  obtain ⟨x, hx, hxd⟩ := get_of da hp
  obtain ⟨b, rfl, t1⟩ := pair_at hxd
  have e : bound r d k = if p.2 < k then p.1 else p.1 - 1 := by
    unfold bound
    rw [if_neg c, hp]
    simp [c0]
  rw [e] at q
  refine ⟨_, rfl, _, rfl, _, _, rfl, rfl, a, xs, _, _, rfl, rfl, sq, (by rw [show ((d : Int) - 1) = ((d - 1 : Nat) : Int) by omega]; exact atI_nat hx), ?_⟩
  refine ⟨b, _, rfl, t1, rfl, _, _, rfl, _, _, rfl, rfl, ?_⟩
  refine ⟨_, rfl, _, rfl, _, _, rfl, rfl, _, rfl, ?_⟩
  by_cases c2 : p.2 < k
  · rw [if_pos c2] at q
    exact iteB (decide_eq_true c2) ⟨_, rfl, q⟩
  · rw [if_neg c2] at q
    exact iteB' (decide_eq_false c2) ⟨_, rfl, _, _, rfl, rfl, q⟩
end
end K71
namespace K71
open PySem PySem.Spec PyProof.Rows L2 RZ
/-- depths that go with lists -/
structure DepOk (rs : List Row) (ds : List Nat) : Prop where
  len : ds.length = rs.length
  le : ∀ (i : Nat) (r : Row) (d : Nat), rs[i]? = some r → ds[i]? = some d → d ≤ r.length
/-- what has been read of a list, as a dict -/
def rk (r : Row) : List (Key × V) := r.map fun q => (Sum.inl q.2, V.int q.1)
theorem rk_get (k : Int) : ∀ r : Row, valV (rk r) (Sum.inl k) = ((r.filter fun q => decide (q.2 = k)).map (·.1)).head?.map V.int
  | [] => rfl
  | q :: r => by
    have ih := rk_get k r
    by_cases h : q.2 = k
    · have e : valV (rk (q :: r)) (Sum.inl k) = some (V.int q.1) := valV_pos (p := (Sum.inl q.2, V.int q.1)) (by rw [h])
      rw [e]
      simp [List.filter_cons, h]
    · have e : valV (rk (q :: r)) (Sum.inl k) = valV (rk r) (Sum.inl k) := by
        exact valV_neg (p := (Sum.inl q.2, V.int q.1)) fun z => h (Sum.inl.inj z)
      rw [e, ih]
      simp [List.filter_cons, h]
theorem rk_put {r : Row} {q : Int × Int} (h : q.2 ∉ r.map (·.2)) : putK (rk r) (Sum.inl q.2) (V.int q.1) = rk (r ++ [q]) := by
  have e : valV (rk r) (Sum.inl q.2) = none := by
    rw [rk_get]
    have : (r.filter fun x => decide (x.2 = q.2)) = [] := by
      rw [List.filter_eq_nil_iff]
      intro x hx z
      exact h (by rw [← of_decide_eq_true z]; exact List.mem_map_of_mem hx)
    rw [this]
    rfl
  rw [putK_new _ e]
  unfold rk
  rw [List.map_append]
  rfl
theorem rk_rd (r : Row) (d : Nat) (k : Int) : valV (rk (r.take d)) (Sum.inl k) = (rd r d k).head?.map V.int := rk_get k (r.take d)
def spCheckD (K : PySem.W.Frag) : Sp := fun vs H Q _ => ∃ (v w : V) (rs : List Row) (ds : List Nat), vs = [v, w] ∧ Dp K H v (rowsD rs) ∧ Dp K H w (depD ds) ∧ DepOk rs ds ∧ (∀ r ∈ rs, r.length ≤ 40) ∧ rs.length ≤ 4 ∧ ∀ H', Same H H' → Q .non H'
section
variable {P : Program} {w : World} {K : PySem.W.Frag} {mg : Str → Option Value} {base : Heap}
theorem ok_check_depths (T : Txt P K mg) : FnOk P w K mg base CX0 6 T.f_check_depths T.d_check_depths ["lists", "value"] (spCheckD K) := by
  refine T.F_check_depths.ok sc_check_depths (fun vs H Q E h => by obtain ⟨v, w, rs, ds, rfl, _⟩ := h; rfl) (fun cdv A outer s H vs Q E hr h => ⟨_, (pss_cons (ps_if (pt_not (pt_val (pe_call (ok_is_tuple_of T) (hr.mono (by omega)) rfl T.g_is_tuple_of T.F_is_tuple_of.kp T.b_is_tuple_of .nil pass0 (pa_cons (pv 1) (pa_cons (pe_callB call_len_seq rfl T.z_len (by decide +kernel) (pa_cons (pv 0) pa_nil)) pa_nil)))))
      (pss_one ps_never) pss_nil)
      (pss_one (ps_for PassesOwn.never rfl (pi_enumT rfl T.z_enumerate (pa_cons (pv 1) pa_nil)) (pg_tup rfl (pgs_cons (pg_name (i := 2) sc_check_depths.nd rfl (by first | exact Or.inl rfl | exact Or.inr rfl)) (pgs_cons (pg_name (i := 3) sc_check_depths.nd rfl (by first | exact Or.inl rfl | exact Or.inr rfl)) pgs_nil)))
      (pss_one (ps_if (pt_not (pt_val (pe_call (ok_is_number T) (hr.mono (by omega)) rfl T.g_is_number T.F_is_number.kp T.b_is_number .nil pass0 (pa_cons (pv 3) (pa_cons pe_int (pa_cons (pe_callB call_len_seq rfl T.z_len (by decide +kernel) (pa_cons (pe_ix ix_tup (pv 0) (pv 2) (fun _ _ => rfl)) pa_nil)) pa_nil))))))
      (pss_one ps_never) pss_nil))))), ?_⟩)
  obtain ⟨v, w, rs, ds, rfl, hd, hw, ok, h40, h4, q⟩ := h
  obtain ⟨a, xs, rfl, sq, da⟩ := tup_at hd
  obtain ⟨len, get⟩ := map_get da
  obtain ⟨b, ys, rfl, sb, db⟩ := tup_at hw
  obtain ⟨lenb, getb⟩ := map_get db
  refine ⟨_, rfl, _, rfl, a, xs, rfl, .inr sq, b, ys, _, rfl, sb, (by have := ok.len; omega), _, rfl, iteB' rfl ?_⟩
  refine ⟨_, rfl, b, ys, rfl, sb, ?_⟩
  refine for_it walk_enumT (fun i σ H' => ∃ (x1 x2 : Option V), σ = [some (.ref a), some (.ref b), x1, x2] ∧ Same H H') ⟨none, none, rfl, Same.refl H⟩ (fun i σ H' _ h => by obtain ⟨_, _, _, k⟩ := h; exact k.sqT sb) ?_ (fun σ H' h => by obtain ⟨_, _, _, k⟩ := h; exact q H' k)
  rintro i x σ H1 H2 hi ⟨x1, x2, rfl, k⟩ ⟨t, y, z, rfl, ht, rfl, hy, hz⟩
  obtain ⟨d, hd1, hd2⟩ := getb i z hz
  cases hy
  cases hd2
  have hil : i < rs.length := by
    have := (List.getElem?_eq_some_iff.mp hd1).1
    have := ok.len
    omega
  obtain ⟨r, hr1⟩ : ∃ r, rs[i]? = some r := ⟨_, List.getElem?_eq_getElem hil⟩
  obtain ⟨rv, hrx, hrd⟩ := get_of da hr1
  obtain ⟨ra, rxs, rfl, rsq, rda⟩ := tup_at hrd
  obtain ⟨rlen, _⟩ := map_get rda
  have k2 := k.step (o := .tup [.int (i : Nat), .int (d : Int)]) ht
  refine ⟨t, _, rfl, .of upd_same, rfl, _, _, rfl, _, _, rfl, rfl, ?_⟩
  refine ⟨_, rfl, _, rfl, _, rfl, a, xs, _, _, rfl, rfl, k2.sqT sq, atI_nat hrx, ra, rxs, rfl, .inr (k2.sqT rsq), d, 0, _, rfl, by omega, by rw [rlen]; exact Int.ofNat_le.mpr (ok.le i r d hr1 hd1), ?_⟩
  exact ⟨_, rfl, iteB' rfl ⟨_, _, rfl, k2⟩⟩
end
end K71
namespace K71
open PySem PySem.Spec PyProof.Rows L2 RZ
/-- the dicts of what has been read -/
def Reads1 (H : Hp) (as : List Addr) (rs : List Row) (ds : List Nat) : Prop := ∀ (i : Nat) (a : Addr) (r : Row) (d : Nat), as[i]? = some a → rs[i]? = some r → ds[i]? = some d → H a = some (.dK (rk (r.take d)))
def spRead (K : PySem.W.Frag) : Sp := fun vs H Q _ => ∃ (v w : V) (rs : List Row) (ds : List Nat), vs = [v, w] ∧ Dp K H v (rowsD rs) ∧ Dp K H w (depD ds) ∧ DepOk rs ds ∧ (∀ r ∈ rs, RowOk r) ∧ rs.length ≤ 4 ∧
  ∀ H' p as, Same H H' → H' p = some (.lst (as.map V.ref)) → as.length = rs.length → Reads1 H' as rs ds → Q (.ref p) H'
section
variable {P : Program} {w : World} {K : PySem.W.Frag} {mg : Str → Option Value} {base : Heap}
theorem ok_read_by (T : Txt P K mg) : FnOk P w K mg base CX0 1 T.f_read_by T.d_read_by ["lists", "depths"] (spRead K) := by
  refine T.F_read_by.ok sc_read_by (fun vs H Q E h => by obtain ⟨v, w, rs, ds, rfl, _⟩ := h; rfl) (fun cdv A outer s H vs Q E hr h => ⟨_, (pss_cons (ps_set (i := 2) sc_read_by.nd rfl (Or.inl rfl) (pe_lst pa_nil))
      (pss_cons (ps_for PassesOwn.never rfl (pi_zipA rfl T.z_zip (pa_cons (pv 0) (pa_cons (pv 1) pa_nil))) (pg_tup rfl (pgs_cons (pg_name (i := 3) sc_read_by.nd rfl (by first | exact Or.inl rfl | exact Or.inr rfl)) (pgs_cons (pg_name (i := 4) sc_read_by.nd rfl (by first | exact Or.inl rfl | exact Or.inr rfl)) pgs_nil)))
      (pss_one (ps_expr (pe_bm PySem.F.plainAttrs_list PySem.F.slot_list_append PySem.F.type_list_append mt_append (pv 2) (pa_cons (pe_dc (own := [("points", 5), ("key", 6)]) (g := gTup K 2 (gCons (gName 5) (gCons (gName 6) gNil))) rfl sc_read_by.nd (pi_tup (pe_slice sl_tupW (pv 3) po_none (po_some (pv 4)))) (blkOk_by (own := [("points", 5), ("key", 6)]) (N := N_read_by) (sc := defScope s_read_by) (by decide +kernel)) (fun _ _ _ _ _ => (pg_tup rfl (pgs_cons (pg_name (i := 5) sc_read_by.nd rfl (by first | exact Or.inl rfl | exact Or.inr rfl)) (pgs_cons (pg_name (i := 6) sc_read_by.nd rfl (by first | exact Or.inl rfl | exact Or.inr rfl)) pgs_nil)))) (fun _ _ _ _ _ => (by exact pts_nil)) (fun _ _ _ _ _ => (by exact (pv 6))) (fun _ _ _ _ _ => (by exact (pv 5)))) pa_nil)))))
      (pss_one (ps_ret (pv 2))))), ?_⟩)
  obtain ⟨v, w, rs, ds, rfl, hd, hw, ok, oks, h4, q⟩ := h
  obtain ⟨a, xs, rfl, sq, da⟩ := tup_at hd
  obtain ⟨len, get⟩ := map_get da
  obtain ⟨b, ys, rfl, sb, db⟩ := tup_at hw
  obtain ⟨lenb, getb⟩ := map_get db
  refine ⟨Nat.zero_le _, fun f hf => ?_⟩
  have s1 := Same.new (o := .lst []) hf
  refine ⟨_, rfl, _, rfl, a, b, xs, ys, rfl, .inr ⟨s1.sqT sq, s1.sqT sb, ?_⟩⟩
  refine for_zipT (xs := xs) (ys := ys) (by have := ok.len; omega) (fun i σ H' => ∃ (x3 x4 : Option V) (as : List Addr), σ = [some (.ref a), some (.ref b), some (.ref f), x3, x4, none, none] ∧ H' f = some (.lst (as.map V.ref)) ∧ as.length = i ∧ Reads1 H' as rs ds ∧ Same H H')
    ⟨none, none, [], rfl, upd_same, rfl, (fun i a r d h => by simp at h), s1⟩ (fun i σ H' h => by obtain ⟨_, _, _, _, _, _, _, k⟩ := h; exact ⟨k.sqT sq, k.sqT sb⟩) ?_ ?_
  · rintro i x y t σ H1 hx hy ⟨x3, x4, as, rfl, ef, la, rd1, k⟩ ht
    obtain ⟨r, hr1, hr2⟩ := get i x hx
    obtain ⟨d, hd1, hd2⟩ := getb i y hy
    cases hd2
    obtain ⟨ra, rxs, rfl, rsq, rda⟩ := tup_at hr2
    obtain ⟨rlen, rget⟩ := map_get rda
    have okr := oks r (List.mem_of_getElem? hr1)
    have dle := ok.le i r d hr1 hd1
    have k2 := k.step (o := .tup [.ref ra, .int (d : Int)]) ht
    have n12 := Same.new (o := .tup [.ref ra, .int (d : Int)]) ht
    refine ⟨t, _, rfl, .of upd_same, rfl, _, _, rfl, _, _, rfl, rfl, ?_⟩
    refine ⟨_, rfl, .inl ⟨rfl, _, .of (n12 _ _ ef)⟩, ?_⟩
    have ef2 := n12 _ _ ef
    generalize upd H1 t (.tup [.ref ra, .int (d : Int)]) = H2 at k2 n12 ef2 ⊢
    refine ⟨_, rfl, _, rfl, _, rfl, ra, rxs, rfl, k2.sqT rsq, fun c H3 k3 sc => ⟨c, rfl, ⟨_, sc⟩, fun D hD => ?_⟩⟩
    rw [cut_to] at sc
    have k13 := k2.trans k3
    have ef3 := k3 _ _ ef2
    refine dc_tup (K := K) (a := c) (xs := rxs.take d) (fun j H' => H' D = some (.dK (rk (r.take j))) ∧ Same H3 H') ⟨upd_same, Same.new hD⟩ (fun j H' _ h => h.2.sqT sc) ?_ ?_
    · rintro j z H4 hz ⟨g1, g2⟩
      have hj : j < d := by
        have := (List.getElem?_eq_some_iff.mp hz).1
        rw [List.length_take] at this
        omega
      rw [List.getElem?_take_of_lt hj] at hz
      obtain ⟨p, hp1, hp2⟩ := rget j z hz
      obtain ⟨pb, rfl, t1⟩ := pair_at (Dp.keep (k13.trans g2).tupK _ _ (pair_imm p) hp2)
      have np : p.2 ∉ (r.take j).map (·.2) := by
        intro hm
        obtain ⟨w, hw, e⟩ := List.mem_map.mp hm
        have nd := okr.nod
        rw [← List.take_append_drop j r, List.map_append, List.nodup_append] at nd
        refine nd.2.2 _ hm _ (List.mem_map_of_mem (?_ : p ∈ r.drop j)) rfl
        have : (r.drop j)[0]? = some p := by rw [List.getElem?_drop]; simpa using hp1
        exact List.mem_of_getElem? this
      refine ⟨pb, _, rfl, t1, rfl, _, _, rfl, _, _, rfl, rfl, rfl, _, rfl, _, rfl, rk (r.take j), Sum.inl p.2, rfl, g1, ?_, ?_, g2.own hD⟩
      · unfold rk
        rw [List.length_map, List.length_take]
        have := okr.len
        exact Nat.lt_of_le_of_lt (show _ ≤ 40 by omega) (by decide)
      · rw [upd_same, rk_put np, List.take_add_one, hp1]
        rfl
    · rintro H4 ⟨g1, g2⟩
      rw [show (rxs.take d).length = d by rw [List.length_take]; omega] at g1
      have ef4 := g2 _ _ ef3
      have nfD : D ≠ f := fun e => by rw [← e, g1] at ef4; cases ef4
      have all := (k13.trans g2)
      refine ⟨f, _, _, rfl, rfl, ef4, ?_, _, _, as ++ [D], rfl, ?_, ?_, ?_, all.own hf⟩
      · rw [List.length_map]
        have := (List.getElem?_eq_some_iff.mp hr1).1
        exact Nat.lt_of_le_of_lt (show _ ≤ 4 by omega) (by decide)
      · rw [upd_same, List.map_append]
        rfl
      · rw [List.length_append, la]
        rfl
      · intro n e r' d' he hr' hd'
        by_cases hn : n < as.length
        · rw [List.getElem?_append_left hn] at he
          have z := rd1 n e r' d' he hr' hd'
          have ne : e ≠ f := fun w => by rw [w, ef] at z; cases z
          rw [upd_ne ne]
          exact (n12.trans (k3.trans g2)) _ _ z
        · have hn2 : n = i := by
            have := (List.getElem?_eq_some_iff.mp he).1
            rw [List.length_append] at this
            simp at this
            omega
          subst hn2
          rw [List.getElem?_append_right (by omega), la, Nat.sub_self] at he
          rw [hr1] at hr'
          rw [hd1] at hd'
          cases he
          cases hr'
          cases hd'
          rw [upd_ne nfD]
          exact g1
  · rintro σ H1 ⟨x3, x4, as, rfl, ef, la, rd1, k⟩
    exact ⟨_, rfl, q H1 f as k ef (by omega) rd1⟩
end
end K71
namespace K71
open PySem PySem.Spec PyProof.Rows L2 RZ
def lowL (rs : List Row) (ds : List Nat) (k : Int) : List Int := (rs.zip ds).map fun p => low1 p.1 p.2 k
def topL (rs : List Row) (ds : List Nat) (k : Int) : List Int := (rs.zip ds).map fun p => top1 p.1 p.2 k
def lowS (rs : List Row) (ds : List Nat) (k : Int) : Int := (lowL rs ds k).sum
def topS (rs : List Row) (ds : List Nat) (k : Int) : Int := (topL rs ds k).sum
theorem sum_le : ∀ {xs ys : List Int}, xs.length = ys.length → (∀ (i : Nat) (x y : Int), xs[i]? = some x → ys[i]? = some y → x ≤ y) → xs.sum ≤ ys.sum
  | [], [], _, _ => Int.le_refl _
  | [], _ :: _, h, _ => by cases h
  | _ :: _, [], h, _ => by cases h
  | x :: xs, y :: ys, h, f => by
    have a := f 0 x y rfl rfl
    have b := sum_le (xs := xs) (ys := ys) (by simpa using h) fun i u v h1 h2 => f (i + 1) u v (by simpa using h1) (by simpa using h2)
    simp only [List.sum_cons]
    omega
theorem sum_next {xs : List Int} {i : Nat} {x : Int} (h : xs[i]? = some x) : (xs.take (i + 1)).sum = (xs.take i).sum + x := by
  rw [List.take_add_one, h, List.sum_append]
  simp
def spSumsBy (K : PySem.W.Frag) : Sp := fun vs H Q _ => ∃ (v w : V) (p : Addr) (rs : List Row) (ds : List Nat) (k : Int) (as : List Addr), vs = [v, w, .ref p, .int k] ∧ Dp K H v (rowsD rs) ∧ Dp K H w (depD ds) ∧ DepOk rs ds ∧ (∀ r ∈ rs, RowOk r) ∧ rs.length ≤ 4 ∧
  H p = some (.lst (as.map V.ref)) ∧ as.length = rs.length ∧ Reads1 H as rs ds ∧ ∀ H' t, Same H H' → Dp K H' (.ref t) (pairD (lowS rs ds k, topS rs ds k)) → Q (.ref t) H'
section
variable {P : Program} {w : World} {K : PySem.W.Frag} {mg : Str → Option Value} {base : Heap}
theorem ok_sums_by (T : Txt P K mg) : FnOk P w K mg base CX0 2 T.f_sums_by T.d_sums_by ["lists", "depths", "read", "key"] (spSumsBy K) := by
  refine T.F_sums_by.ok sc_sums_by (fun vs H Q E h => by obtain ⟨v, w, p, rs, ds, k, as, rfl, _⟩ := h; rfl) (fun cdv A outer s H vs Q E hr h => ⟨_, (pss_cons (ps_asg (pe_tup (pa_cons pe_int (pa_cons pe_int pa_nil))) (pg_tup rfl (pgs_cons (pg_name (i := 4) sc_sums_by.nd rfl (by first | exact Or.inl rfl | exact Or.inr rfl)) (pgs_cons (pg_name (i := 5) sc_sums_by.nd rfl (by first | exact Or.inl rfl | exact Or.inr rfl)) pgs_nil))))
      (pss_cons (ps_for PassesOwn.never rfl (pi_enumT rfl T.z_enumerate (pa_cons (pv 0) pa_nil)) (pg_tup rfl (pgs_cons (pg_name (i := 6) sc_sums_by.nd rfl (by first | exact Or.inl rfl | exact Or.inr rfl)) (pgs_cons (pg_name (i := 7) sc_sums_by.nd rfl (by first | exact Or.inl rfl | exact Or.inr rfl)) pgs_nil)))
      (pss_one (ps_if (pt_cmp (pc_din (by exact hu_of hr) (pv 3) (pe_ix ix_list (pv 2) (pv 6) (fun _ _ => rfl))) rfl)
      (pss_one (ps_set (i := 4) sc_sums_by.nd rfl (Or.inl rfl) (pe_op op_add (pv 4) (pe_dget (by exact hu_of hr) (pe_ix ix_list (pv 2) (pv 6) (fun _ _ => rfl)) (pv 3) (fun _ _ => rfl))))) (pss_one (ps_set (i := 5) sc_sums_by.nd rfl (Or.inl rfl) (pe_op op_add (pv 5) (pe_call (ok_bound_of T) (hr.mono (by omega)) rfl T.g_bound_of T.F_bound_of.kp T.b_bound_of .nil pass0 (pa_cons (pv 7) (pa_cons (pe_ix ix_tup (pv 1) (pv 6) (fun _ _ => rfl)) (pa_cons (pv 3) pa_nil))))))))))
      (pss_one (ps_ret (pe_tup (pa_cons (pv 4) (pa_cons (pe_op op_add (pv 4) (pv 5)) pa_nil))))))), ?_⟩)
  obtain ⟨v, w, p, rs, ds, k, as, rfl, hd, hw, ok, oks, h4, ep, la, rd1, q⟩ := h
  obtain ⟨a, xs, rfl, sq, da⟩ := tup_at hd
  obtain ⟨len, get⟩ := map_get da
  obtain ⟨b, ys, rfl, sb, db⟩ := tup_at hw
  obtain ⟨lenb, getb⟩ := map_get db
  refine ⟨by show 2 ≤ sizeLine; decide, fun p0 hp0 => ?_⟩
  refine ⟨p0, _, rfl, .of upd_same, rfl, _, _, rfl, _, _, rfl, rfl, ?_⟩
  have s0 := Same.new (o := .tup [.int 0, .int 0]) hp0
  refine ⟨_, rfl, a, xs, rfl, s0.sqT sq, ?_⟩
  refine for_it walk_enumT (fun i σ H' => ∃ (x6 x7 : Option V) (l m : Int), σ = [some (.ref a), some (.ref b), some (.ref p), some (.int k), some (.int l), some (.int m), x6, x7] ∧ l = ((lowL rs ds k).take i).sum ∧ l + m = ((topL rs ds k).take i).sum ∧ Same H H')
    ⟨none, none, 0, 0, rfl, rfl, rfl, s0⟩ (fun i σ H' _ h => by obtain ⟨_, _, _, _, _, _, _, kk⟩ := h; exact kk.sqT sq) ?_ ?_
  · rintro i x σ H1 H2 hi ⟨x6, x7, l, m, rfl, hl, hm, kk⟩ ⟨t, y, z, rfl, ht, rfl, hy, hz⟩
    cases hy
    obtain ⟨r, hr1, hr2⟩ := get i z hz
    have hil := (List.getElem?_eq_some_iff.mp hr1).1
    obtain ⟨d, hd1⟩ : ∃ d, ds[i]? = some d := ⟨_, List.getElem?_eq_getElem (by have := ok.len; omega)⟩
    obtain ⟨e, he⟩ : ∃ e, as[i]? = some e := ⟨_, List.getElem?_eq_getElem (by omega)⟩
    obtain ⟨dv, hdx, hdd⟩ := get_of db hd1
    cases hdd
    have k2 := kk.step (o := .tup [.int (i : Nat), z]) ht
    have zip : (rs.zip ds)[i]? = some (r, d) := by
      rw [List.getElem?_zip_eq_some]
      exact ⟨hr1, hd1⟩
    have eL : (lowL rs ds k)[i]? = some (low1 r d k) := by unfold lowL; rw [List.getElem?_map, zip]; rfl
    have eT : (topL rs ds k)[i]? = some (top1 r d k) := by unfold topL; rw [List.getElem?_map, zip]; rfl
    have dict := k2 _ _ (rd1 i e r d he hr1 hd1)
    have eas : (as.map V.ref)[i]? = some (.ref e) := by rw [List.getElem?_map, he]; rfl
    have okr := oks r (List.mem_of_getElem? hr1)
    refine ⟨t, _, rfl, .of upd_same, rfl, _, _, rfl, _, _, rfl, rfl, ?_⟩
    generalize upd H1 t (.tup [.int (i : Nat), z]) = H2 at k2 dict ⊢
    refine ⟨_, rfl, _, rfl, _, rfl, p, _, _, _, rfl, rfl, .of (k2 _ _ ep), atI_nat eas, e, _, rfl, .inl ⟨_, Sum.inl k, .inl dict, rfl, rfl⟩, ?_⟩
    rw [rk_rd]
    have sums := sum_next eL
    have tops := sum_next eT
    rcases rd_cases okr d k with w0 | ⟨x0, w0, _, _⟩
    · refine ⟨_, rfl, iteB' (by rw [w0]; rfl) ?_⟩
      have e1 : low1 r d k = 0 := by unfold low1; rw [w0]; rfl
      have e2 : top1 r d k = bound r d k := by unfold top1; rw [w0]
      have dle := ok.le i r d hr1 hd1
      refine ⟨_, rfl, _, rfl, _, rfl, _, rfl, b, ys, _, _, rfl, rfl, k2.sqT sb, atI_nat hdx, _, rfl, z, r, d, k, rfl, Dp.keep k2.tupK _ _ (row_imm r) hr2, dle, okr.len, ?_⟩
      exact ⟨_, _, rfl, rfl, _, _, l, m + bound r d k, rfl, by omega, by omega, k2⟩
    · refine ⟨_, rfl, iteB (by rw [w0]; rfl) ?_⟩
      have e1 : low1 r d k = x0.1 := by unfold low1; rw [w0]; simp
      have e2 : top1 r d k = x0.1 := by unfold top1; rw [w0]
      refine ⟨_, rfl, _, rfl, _, rfl, p, _, _, _, rfl, rfl, .of (k2 _ _ ep), atI_nat eas, _, rfl, e, .int x0.1, rfl, .inl ⟨_, Sum.inl k, .inl dict, rfl, by rw [rk_rd, w0]; rfl⟩, ?_⟩
      exact ⟨_, _, rfl, rfl, _, _, l + x0.1, m, rfl, by omega, by omega, k2⟩
  · rintro σ H1 ⟨x6, x7, l, m, rfl, hl, hm, kk⟩
    refine ⟨_, rfl, _, rfl, _, rfl, _, _, rfl, rfl, by show 2 ≤ sizeLine; decide, fun t ht => ?_⟩
    have lz : (rs.zip ds).length = xs.length := by rw [List.length_zip, ok.len, len, Nat.min_self]
    rw [List.take_of_length_le (by unfold lowL; rw [List.length_map, lz]; exact Nat.le_refl _)] at hl
    rw [List.take_of_length_le (by unfold topL; rw [List.length_map, lz]; exact Nat.le_refl _)] at hm
    refine q _ t (kk.step ht) (.tup (.of upd_same) ?_)
    have h1 : lowS rs ds k = l := hl.symm
    have h2 : topS rs ds k = l + m := hm.symm
    rw [h1, h2]
    exact .cons (.int _) (.cons (.int _) .nil)
end
end K71
namespace K71
open PySem PySem.Spec PyProof.Rows L2 RZ
/-! ### the urn: three ints -/
def Urn (H : Hp) (u : Addr) : Prop := ∃ a b c : Int, H u = some (.lst [.int a, .int b, .int c])
def spUrn (K : PySem.W.Frag) : Sp := fun vs H Q _ => ∃ (a : Addr) (ns : List Int) (lap : Int), vs = [.ref a, .int lap] ∧ 0 ≤ lap ∧ SqL K H a (ns.map V.int) ∧ ∀ u H', Same H H' → H u = none → Urn H' u → Q (.ref u) H'
def spTake : Sp := fun vs H Q _ => ∃ (u : Addr) (many : Int), vs = [.ref u, .int many] ∧ 0 < many ∧ many < 1073741824 ∧ Urn H u ∧ ∀ k H', 0 ≤ k → k < many → Urn H' u → But (· = u) H H' → Q (.int k) H'
theorem cutV_mem {xs : List V} {lo hi : Option Int} {x : V} (h : x ∈ cutV xs lo hi) : x ∈ xs := List.mem_of_mem_drop (List.mem_of_mem_take h)
theorem Urn.tupK {H H' : Hp} {u : Addr} (hu : Urn H u) (k : But (· = u) H H') : TupK H H' := by
  obtain ⟨a, b, c, hu⟩ := hu
  exact k.tupK fun x ys e => by rw [e]; exact not_tup_lst hu
theorem Urn.new {H : Hp} {u p : Addr} {o : HO} (hu : Urn H u) (hp : H p = none) : Urn (upd H p o) u := by
  obtain ⟨a, b, c, hu⟩ := hu
  exact ⟨a, b, c, Same.new hp _ _ hu⟩
theorem Urn.same {H H' : Hp} {u : Addr} (hu : Urn H u) (k : Same H H') : Urn H' u := by
  obtain ⟨a, b, c, hu⟩ := hu
  exact ⟨a, b, c, k _ _ hu⟩
theorem Urn.ne {H : Hp} {u p : Addr} (hu : Urn H u) (hp : H p = none) : p ≠ u := fun e => by
  obtain ⟨a, b, c, hu⟩ := hu
  rw [e, hu] at hp
  cases hp
def spOf (K : PySem.W.Frag) : Sp := fun vs H Q _ => ∃ (u p : Addr) (xs : List V), vs = [.ref u, .ref p] ∧ p ≠ u ∧ SqL K H p xs ∧ 0 < xs.length ∧ xs.length < 1073741824 ∧ Urn H u ∧ ∀ (i : Nat) v H', xs[i]? = some v → Urn H' u → But (· = u) H H' → Q v H'
/-- new things, one behind the other -/
def Laid (l : List (Addr × HO)) (H0 H : Hp) : Prop := Same H0 H ∧ ∀ p ∈ l, H0 p.1 = none ∧ H p.1 = some p.2
theorem Laid.nil (H : Hp) : Laid [] H H := ⟨Same.refl H, fun _ h => by cases h⟩
theorem Laid.step {l : List (Addr × HO)} {H0 H : Hp} (h : Laid l H0 H) {p : Addr} {o : HO} (hp : H p = none) : Laid ((p, o) :: l) H0 (upd H p o) :=
  ⟨h.1.step hp, fun q hq => by
    rcases List.mem_cons.mp hq with e | hq
    · rw [e]
      exact ⟨h.1.free hp, upd_same⟩
    · exact ⟨(h.2 q hq).1, Same.new hp _ _ (h.2 q hq).2⟩⟩
section
variable {P : Program} {w : World} {K : PySem.W.Frag} {mg : Str → Option Value} {base : Heap}
theorem ok_law_take (T : Txt P K mg) : FnOk P w K mg base CX0 1 T.f_law_take T.d_law_take ["urn", "many"] spTake := by
  refine T.F_law_take.ok sc_law_take (fun vs H Q E h => by obtain ⟨u, many, rfl, _⟩ := h; rfl) (fun cdv A outer s H vs Q E hr h => ⟨_, (pss_cons (ps_if (pt_cmpR op_gt (pe_ix ix_list (pv 0) pe_int (fun _ _ => rfl)) pe_int (nomark _))
      (pss_cons (ps_asg (pe_callB call_divmod rfl T.z_divmod (by decide +kernel) (pa_cons (pe_ix ix_list (pv 0) pe_int (fun _ _ => rfl)) (pa_cons (pv 1) pa_nil))) (pg_tup rfl (pgs_cons (pg_sub (pv 0) pe_int set_list) (pgs_cons (pg_name (i := 2) sc_law_take.nd rfl (by first | exact Or.inl rfl | exact Or.inr rfl)) pgs_nil))))
      (pss_one (ps_ret (pv 2)))) pss_nil)
      (pss_cons (ps_asg (pe_op op_add (pe_ix ix_list (pv 0) pe_int (fun _ _ => rfl)) pe_int) (pg_sub (pv 0) pe_int set_list))
      (pss_cons (ps_set (i := 3) sc_law_take.nd rfl (Or.inl rfl) (pe_op op_mod (pe_callTy call_int1 rfl T.z_int (by decide +kernel) (pa_cons (pe_op op_add (pe_op op_mul (pe_ix ix_list (pv 0) pe_int (fun _ _ => rfl)) pe_int) (pe_op op_mul pe_int (pe_ix ix_list (pv 0) pe_int (fun _ _ => rfl)))) pa_nil)) pe_int))
      (pss_cons (ps_asg (pe_op op_mod (pe_callTy call_int1 rfl T.z_int (by decide +kernel) (pa_cons (pe_op op_add (pe_op op_mul (pv 3) (pe_op op_add (pe_op op_mod (pe_callTy call_int1 rfl T.z_int (by decide +kernel) (pa_cons (pv 3) pa_nil)) pe_int) pe_int)) (pe_op op_mul pe_int (pe_ix ix_list (pv 0) pe_int (fun _ _ => rfl)))) pa_nil)) pe_int) (pg_sub (pv 0) pe_int set_list))
      (pss_one (ps_ret (pe_op op_mod (pe_callTy call_int1 rfl T.z_int (by decide +kernel) (pa_cons (pe_op op_fdiv (pe_ix ix_list (pv 0) pe_int (fun _ _ => rfl)) pe_int) pa_nil)) (pv 1)))))))), ?_⟩)
  obtain ⟨u, many, rfl, h1, h2, ⟨a, b, c, hu⟩, q⟩ := h
  refine ⟨_, rfl, u, _, _, _, rfl, rfl, .of hu, rfl, _, _, rfl, rfl, _, rfl, ?_⟩
  refine ite2 (fun hc => ?_) (fun hc => ?_)
  · refine ⟨_, rfl, u, _, _, _, rfl, rfl, .of hu, rfl, _, rfl, a, many, rfl, ?_, fun p hp => ?_⟩
    · exact ⟨h1, h2⟩
    · have n1 : u ≠ p := ne_of_none hu hp
      refine ⟨p, _, rfl, .of upd_same, rfl, ?_⟩
      refine ⟨_, _, rfl, ⟨_, rfl, u, _, _, 0, rfl, rfl, (by rw [upd_ne n1]; exact hu), rfl, ?_⟩⟩
      refine ⟨_, _, rfl, rfl, ?_⟩
      refine ⟨_, rfl, q _ _ (Int.emod_nonneg _ (by omega)) (Int.emod_lt_of_pos _ h1) ⟨_, _, _, upd_same⟩ ?_⟩
      exact ((Same.new hp).but (S := (· = u))).put rfl
  · refine ⟨_, rfl, u, _, _, _, rfl, rfl, .of hu, rfl, _, _, rfl, rfl, ?_⟩
    refine ⟨_, rfl, u, _, _, 2, rfl, rfl, hu, rfl, ?_⟩
    refine ⟨_, rfl, u, _, _, _, rfl, rfl, .of upd_same, rfl, _, _, rfl, rfl, .inr ⟨by decide, by decide⟩, _, rfl, u, _, _, _, rfl, rfl, .of upd_same, rfl, _, _, rfl, rfl, .inl ⟨by decide, by decide⟩, _, _, rfl, rfl, .inl ⟨_, rfl, ?_⟩⟩
    refine ⟨_, _, rfl, rfl, (by show (0 : Int) < 2147483629; decide), ?_⟩
    refine ⟨_, rfl, _, rfl, .inl ⟨_, rfl, _, _, rfl, rfl, (by show (0 : Int) < 5003; decide), _, _, rfl, rfl, _, _, rfl, rfl, .inr ?_, ?_⟩⟩
    · have hb : ∀ z : Int, 0 ≤ z % 5003 ∧ z % 5003 < 5003 := fun z => ⟨Int.emod_nonneg _ (by decide), Int.emod_lt_of_pos _ (by decide)⟩
      constructor
      · have := (hb ((b * 40009 + 15013 * (c + 1)) % 2147483629)).1
        show (-(2 ^ 64) : Int) < (b * 40009 + 15013 * (c + 1)) % 2147483629 % 5003 + 30011
        omega
      · have := (hb ((b * 40009 + 15013 * (c + 1)) % 2147483629)).2
        show (b * 40009 + 15013 * (c + 1)) % 2147483629 % 5003 + 30011 < (2 ^ 64 : Int)
        omega
    · refine ⟨_, rfl, u, _, _, _, rfl, rfl, .of upd_same, rfl, _, _, rfl, rfl, .inl ⟨by decide, by decide⟩, _, _, rfl, rfl, .inl ⟨_, rfl, _, _, rfl, rfl, (by show (0 : Int) < 2147483629; decide), ?_⟩⟩
      refine ⟨_, rfl, u, _, _, 1, rfl, rfl, upd_same, rfl, ?_⟩
      refine ⟨_, rfl, u, _, _, _, rfl, rfl, .of upd_same, rfl, _, _, rfl, rfl, ⟨by decide, by decide⟩, .inl ⟨_, rfl, _, rfl, _, _, rfl, rfl, h1, ?_⟩⟩
      refine q _ _ (Int.emod_nonneg _ (by omega)) (Int.emod_lt_of_pos _ h1) ⟨_, _, _, upd_same⟩ ?_
      exact (But.set (S := (· = u)) rfl).put rfl
theorem ok_law_urn (T : Txt P K mg) : FnOk P w K mg base CX0 1 T.f_law_urn T.d_law_urn ["script", "lap"] (spUrn K) := by
  refine T.F_law_urn.ok sc_law_urn (fun vs H Q E h => by obtain ⟨a, ns, lap, rfl, _⟩ := h; rfl) (fun cdv A outer s H vs Q E hr h => ⟨_, (pss_cons (ps_set (i := 2) sc_law_urn.nd rfl (Or.inl rfl) (pe_op op_add pe_int (pe_op op_mul pe_int (pv 1))))
      (pss_cons (ps_for PassesOwn.never rfl (pi_list (pe_slice sl_list (pv 0) po_none (po_some pe_int))) (pg_name (i := 3) sc_law_urn.nd rfl (by first | exact Or.inl rfl | exact Or.inr rfl))
      (pss_one (ps_set (i := 2) sc_law_urn.nd rfl (Or.inl rfl) (pe_op op_mod (pe_callTy call_int1 rfl T.z_int (by decide +kernel) (pa_cons (pe_op op_add (pe_op op_add (pe_op op_mul (pv 2) pe_int) (pe_op op_mul (pe_op op_mod (pe_callTy call_int1 rfl T.z_int (by decide +kernel) (pa_cons (pv 3) pa_nil)) pe_int) pe_int)) pe_int) pa_nil)) pe_int))))
      (pss_cons (ps_set (i := 4) sc_law_urn.nd rfl (Or.inl rfl) (pe_ifExp (pt_cmpR op_lt (pv 1) (pe_callB call_len_seq rfl T.z_len (by decide +kernel) (pa_cons (pv 0) pa_nil)) (nomark _)) (pe_callTy call_int1 rfl T.z_int (by decide +kernel) (pa_cons (pe_ix ix_list (pv 0) (pv 1) (fun _ _ => rfl)) pa_nil)) pe_int))
      (pss_cons (ps_set (i := 2) sc_law_urn.nd rfl (Or.inl rfl) (pe_op op_mod (pe_callTy call_int1 rfl T.z_int (by decide +kernel) (pa_cons (pe_op op_add (pe_op op_add (pe_op op_mul (pv 2) pe_int) (pe_op op_mul (pe_op op_mod (pe_callTy call_int1 rfl T.z_int (by decide +kernel) (pa_cons (pv 4) pa_nil)) pe_int) pe_int)) pe_int) pa_nil)) pe_int))
      (pss_one (ps_ret (pe_lst (pa_cons (pe_ifExp (PW.pt (pw_or (pt_cmpR op_lt (pv 4) pe_int (nomark _)) (pw_or1 (pt_cmpR op_ge (pv 4) (pe_op op_pow pe_int pe_int) (nomark _))))) (pe_callB call_abs rfl T.z_abs (by decide +kernel) (pa_cons (pv 4) pa_nil)) pe_int) (pa_cons (pv 2) (pa_cons pe_int pa_nil)))))))))), ?_⟩)
  obtain ⟨a, ns, lap, rfl, h0, h1, q⟩ := h
  refine ⟨_, rfl, _, _, rfl, rfl, .inl ⟨by decide, by decide⟩, _, _, rfl, rfl, ?_⟩
  refine ⟨_, rfl, _, rfl, a, _, rfl, h1, fun l hl => ⟨l, rfl, ⟨_, .of upd_same⟩, ?_⟩⟩
  refine for_list (K := K) (a := l) (xs := cutV (ns.map V.int) none (some 9)) (fun i σ H' => ∃ (st : Int) (cv : Option V), σ = [some (.ref a), some (.int lap), some (.int st), cv, none] ∧ H' = upd H l (.lst (cutV (ns.map V.int) none (some 9)))) ⟨_, none, rfl, rfl⟩ (fun i σ H' _ ⟨st, cv, _, e⟩ => by rw [e]; exact .of upd_same) ?_ ?_
  · rintro i x σ H' hi ⟨st, cv, rfl, rfl⟩
    obtain ⟨z, hz, rfl⟩ : ∃ z, z ∈ ns ∧ V.int z = x := List.mem_map.mp (cutV_mem (List.mem_of_getElem? hi))
    refine ⟨_, rfl, _, _, rfl, rfl, .inr ⟨by decide, by decide⟩, _, rfl, .inl ⟨_, rfl, _, _, rfl, rfl, (by show (0 : Int) < 2147483477; decide), _, _, rfl, rfl, .inr ⟨by decide, by decide⟩, _, _, rfl, rfl, _, _, rfl, rfl, .inl ⟨_, rfl, _, _, rfl, rfl, (by show (0 : Int) < 2147483629; decide), ?_⟩⟩⟩
    exact ⟨_, _, rfl, rfl⟩
  · rintro σ H' ⟨st, cv, rfl, rfl⟩
    have sm : Same H (upd H l (.lst (cutV (ns.map V.int) none (some 9)))) := Same.new hl
    have h1' := sm.seq h1
    refine ⟨_, rfl, _, rfl, a, _, rfl, .inl h1', _, _, rfl, rfl, _, rfl, ?_⟩
    refine ite2 (fun hc => ?_) (fun hc => ?_)
    · have hlt : lap < ((ns.map V.int).length : Int) := of_decide_eq_true hc
      rw [List.length_map] at hlt
      have hat : (ns.map V.int)[lap.toNat]? = some (.int (ns[lap.toNat]'(by omega))) := by
        rw [List.getElem?_map, List.getElem?_eq_getElem (by omega)]
        rfl
      have hat2 := atI_nat hat
      rw [show ((lap.toNat : Nat) : Int) = lap by omega] at hat2
      refine ⟨_, rfl, _, rfl, a, _, _, _, rfl, rfl, h1', hat2, .inl ⟨_, rfl, ?_⟩⟩
      generalize ns[lap.toNat]'(by omega) = own
      refine ⟨_, rfl, _, _, rfl, rfl, .inr ⟨by decide, by decide⟩, _, rfl, .inl ⟨_, rfl, _, _, rfl, rfl, (by show (0 : Int) < 2147483477; decide), _, _, rfl, rfl, .inr ⟨by decide, by decide⟩, _, _, rfl, rfl, _, _, rfl, rfl, .inl ⟨_, rfl, _, _, rfl, rfl, (by show (0 : Int) < 2147483629; decide), ?_⟩⟩⟩
      refine ⟨_, rfl, _, _, rfl, rfl, _, rfl, ?_⟩
      refine ite2 (fun hd => ?_) (fun hd => ?_)
      · refine ⟨_, rfl, _, rfl, _, rfl, ?_⟩
        exact ⟨by show 3 ≤ sizeLine; decide, fun u hu => q u _ (sm.step hu) (by rw [upd_ne (fun e => by rw [e, upd_same] at hu; cases hu)] at hu; exact hu) ⟨_, _, _, upd_same⟩⟩
      · refine ⟨_, rfl, _, _, rfl, rfl, (by show (0 : Int) ≤ 15 ∧ (15 : Int) ≤ 1000000 ∧ (10 : Int).natAbs < 2 ^ 64; decide), _, _, rfl, rfl, _, rfl, ?_⟩
        refine ite2 (fun he => ?_) (fun he => ?_)
        · refine ⟨_, rfl, _, rfl, _, rfl, ?_⟩
          exact ⟨by show 3 ≤ sizeLine; decide, fun u hu => q u _ (sm.step hu) (by rw [upd_ne (fun e => by rw [e, upd_same] at hu; cases hu)] at hu; exact hu) ⟨_, _, _, upd_same⟩⟩
        · refine ⟨_, rfl, ?_⟩
          exact ⟨by show 3 ≤ sizeLine; decide, fun u hu => q u _ (sm.step hu) (by rw [upd_ne (fun e => by rw [e, upd_same] at hu; cases hu)] at hu; exact hu) ⟨_, _, _, upd_same⟩⟩
    · refine ⟨_, rfl, _, _, rfl, rfl, .inr ⟨by decide, by decide⟩, _, rfl, .inl ⟨_, rfl, _, _, rfl, rfl, (by show (0 : Int) < 2147483477; decide), _, _, rfl, rfl, .inr ⟨by decide, by decide⟩, _, _, rfl, rfl, _, _, rfl, rfl, .inl ⟨_, rfl, _, _, rfl, rfl, (by show (0 : Int) < 2147483629; decide), ?_⟩⟩⟩
      refine ⟨_, rfl, _, _, rfl, rfl, _, rfl, ?_⟩
      refine ite2 (fun hd => ?_) (fun hd => ?_)
      · refine ⟨_, rfl, _, rfl, _, rfl, ?_⟩
        exact ⟨by show 3 ≤ sizeLine; decide, fun u hu => q u _ (sm.step hu) (by rw [upd_ne (fun e => by rw [e, upd_same] at hu; cases hu)] at hu; exact hu) ⟨_, _, _, upd_same⟩⟩
      · refine ⟨_, rfl, _, _, rfl, rfl, (by show (0 : Int) ≤ 15 ∧ (15 : Int) ≤ 1000000 ∧ (10 : Int).natAbs < 2 ^ 64; decide), _, _, rfl, rfl, _, rfl, ?_⟩
        refine ite2 (fun he => ?_) (fun he => ?_)
        · refine ⟨_, rfl, _, rfl, _, rfl, ?_⟩
          exact ⟨by show 3 ≤ sizeLine; decide, fun u hu => q u _ (sm.step hu) (by rw [upd_ne (fun e => by rw [e, upd_same] at hu; cases hu)] at hu; exact hu) ⟨_, _, _, upd_same⟩⟩
        · refine ⟨_, rfl, ?_⟩
          exact ⟨by show 3 ≤ sizeLine; decide, fun u hu => q u _ (sm.step hu) (by rw [upd_ne (fun e => by rw [e, upd_same] at hu; cases hu)] at hu; exact hu) ⟨_, _, _, upd_same⟩⟩
theorem ok_law_of (T : Txt P K mg) : FnOk P w K mg base CX0 2 T.f_law_of T.d_law_of ["urn", "some"] (spOf K) := by
  refine T.F_law_of.ok sc_law_of (fun vs H Q E h => by obtain ⟨u, p, xs, rfl, _⟩ := h; rfl) (fun cdv A outer s H vs Q E hr h => ⟨_, (pss_one (ps_ret (pe_ix ix_list (pv 1) (pe_call (ok_law_take T) (hr.mono (by omega)) rfl T.g__law_take T.F_law_take.kp T.b_law_take .nil pass0 (pa_cons (pv 0) (pa_cons (pe_callB call_len_seq rfl T.z_len (by decide +kernel) (pa_cons (pv 1) pa_nil)) pa_nil))) (fun _ _ => rfl)))), ?_⟩)
  obtain ⟨u, p, xs, rfl, h0, h1, h2, h3, hu, q⟩ := h
  refine ⟨_, rfl, _, rfl, _, rfl, p, _, rfl, .inl h1, u, _, rfl, by omega, by omega, hu, fun k H' k1 k2 hu' kb => ?_⟩
  obtain ⟨n, rfl⟩ : ∃ n : Nat, k = n := ⟨k.toNat, by omega⟩
  have hat : xs[n]? = some xs[n] := List.getElem?_eq_getElem (by omega)
  exact ⟨p, _, _, _, rfl, rfl, kb.sqL h0 h1, atI_nat hat, q n _ _ hat hu' kb⟩
end
end K71
namespace K71
open PySem PySem.Spec PyProof.Rows L2 RZ
def spFirst (K : PySem.W.Frag) : Sp := fun vs H Q _ => ∃ (v : V) (q : Int × Int), vs = [v] ∧ Dp K H v (pairD q) ∧ ∀ H' t, Same H H' → Dp K H' (.ref t) (pairD (0 - q.1, q.2)) → Q (.ref t) H'
section
variable {P : Program} {w : World} {K : PySem.W.Frag} {mg : Str → Option Value} {base : Heap}
theorem ok_law_first (T : Txt P K mg) : FnOk P w K mg base CX0 1 T.f_law_first T.d_law_first ["pair"] (spFirst K) := by
  refine T.F_law_first.ok sc_law_first (fun vs H Q E h => by obtain ⟨v, q, rfl, _⟩ := h; rfl) (fun cdv A outer s H vs Q E hr h => ⟨_, (pss_one (ps_ret (pe_tup (pa_cons (pe_op op_sub pe_int (pe_ix ix_tup (pv 0) pe_int (fun _ _ => rfl))) (pa_cons (pe_ix ix_tup (pv 0) pe_int (fun _ _ => rfl)) pa_nil))))), ?_⟩)
  obtain ⟨v, p, rfl, hd, q⟩ := h
  obtain ⟨a, rfl, t1⟩ := pair_at hd
  refine ⟨_, rfl, a, _, _, _, rfl, rfl, t1, rfl, _, _, rfl, rfl, _, rfl, a, _, _, _, rfl, rfl, t1, rfl, by show 2 ≤ sizeLine; decide, fun t ht => ?_⟩
  exact q _ t (Same.new ht) (.tup (.of upd_same) (.cons (.int _) (.cons (.int _) .nil)))
theorem ok_law_bound (T : Txt P K mg) : FnOk P w K mg base CX0 1 T.f_law_bound T.d_law_bound ["row", "depth", "key"] (spBound K) := by
  refine T.F_law_bound.ok sc_law_bound (fun vs H Q E h => by obtain ⟨v, r, d, k, rfl, _⟩ := h; rfl) (fun cdv A outer s H vs Q E hr h => ⟨_, (pss_cons (ps_if (PW.pt (pw_or (pt_cmpR op_eq (pv 1) (pe_callB call_len_seq rfl T.z_len (by decide +kernel) (pa_cons (pv 0) pa_nil)) (nomark _)) (pw_or1 (pt_cmpR op_eq (pv 1) pe_int (nomark _)))))
      (pss_one (ps_ret (pe_ifExp (pt_cmpR op_eq (pv 1) (pe_callB call_len_seq rfl T.z_len (by decide +kernel) (pa_cons (pv 0) pa_nil)) (nomark _)) pe_int pe_int))) pss_nil)
      (pss_cons (ps_asg (pe_ix ix_tup (pv 0) (pe_op op_sub (pv 1) pe_int) (fun _ _ => rfl)) (pg_tup rfl (pgs_cons (pg_name (i := 3) sc_law_bound.nd rfl (by first | exact Or.inl rfl | exact Or.inr rfl)) (pgs_cons (pg_name (i := 4) sc_law_bound.nd rfl (by first | exact Or.inl rfl | exact Or.inr rfl)) pgs_nil))))
      (pss_one (ps_ret (pe_ifExp (pt_cmpR op_gt (pv 2) (pv 4) (nomark _)) (pv 3) (pe_op op_sub (pv 3) pe_int)))))), ?_⟩)
  obtain ⟨v, r, d, k, rfl, hd, hl, h40, q⟩ := h
  obtain ⟨a, xs, rfl, sq, da⟩ := tup_at hd
  obtain ⟨len, get⟩ := map_get da
  refine ⟨_, rfl, _, rfl, a, xs, rfl, .inr sq, rfl, _, rfl, ?_⟩
  rw [len]
  by_cases c : d = r.length
  · refine iteB (by simp [c]) ?_
    refine iteT ⟨_, rfl, _, rfl, a, xs, rfl, .inr sq, rfl, _, rfl, ?_⟩
    rw [len]
    have e : bound r d k = 0 := by unfold bound; rw [if_pos c]
    rw [e] at q
    exact iteB (by simp [c]) q
  refine iteB' (by simp; omega) ?_
  by_cases c0 : d = 0
  · have e : bound r d k = 999 := by
      unfold bound
      rw [if_neg c]
      cases r[d - 1]? <;> simp [c0]
    rw [e] at q
    refine ⟨_, rfl, rfl, _, rfl, iteB (by simp [c0]) ⟨_, rfl, _, rfl, a, xs, rfl, .inr sq, rfl, _, rfl, ?_⟩⟩
    rw [len]
    exact iteB' (by simp; omega) q
  refine ⟨_, rfl, rfl, _, rfl, iteB' (by simp; omega) ?_⟩
  obtain ⟨p, hp⟩ : ∃ p, r[d - 1]? = some p := ⟨_, List.getElem?_eq_getElem (by omega)⟩
  obtain ⟨x, hx, hxd⟩ := get_of da hp
  obtain ⟨b, rfl, t1⟩ := pair_at hxd
  have e : bound r d k = if p.2 < k then p.1 else p.1 - 1 := by
    unfold bound
    rw [if_neg c, hp]
    simp [c0]
  rw [e] at q
  refine ⟨_, rfl, _, rfl, _, _, rfl, rfl, a, xs, _, _, rfl, rfl, sq, (by rw [show ((d : Int) - 1) = ((d - 1 : Nat) : Int) by omega]; exact atI_nat hx), ?_⟩
  refine ⟨b, _, rfl, t1, rfl, _, _, rfl, _, _, rfl, rfl, ?_⟩
  refine ⟨_, rfl, _, rfl, _, _, rfl, rfl, _, rfl, ?_⟩
  by_cases c2 : p.2 < k
  · rw [if_pos c2] at q
    exact iteB (decide_eq_true c2) ⟨_, rfl, q⟩
  · rw [if_neg c2] at q
    exact iteB' (decide_eq_false c2) ⟨_, rfl, _, _, rfl, rfl, q⟩
end
end K71
namespace K71
open PySem PySem.Spec PyProof.Rows L2 RZ
theorem gname_of {i : Nat} {v : V} {σ : L2.St} {H : Hp} {Q : L2.St → Hp → Prop} (h : Q (σ.set i (some v)) H) : gName i v σ H Q := h
def spLSums (K : PySem.W.Frag) : Sp := fun vs H Q _ => ∃ (v w : V) (rs : List Row) (ds : List Nat) (k : Int), vs = [v, w, .int k] ∧ Dp K H v (rowsD rs) ∧ Dp K H w (depD ds) ∧ DepOk rs ds ∧ (∀ r ∈ rs, RowOk r) ∧ rs.length ≤ 4 ∧
  ∀ H' t, Same H H' → Dp K H' (.ref t) (pairD (lowS rs ds k, topS rs ds k)) → Q (.ref t) H'
section
variable {P : Program} {w : World} {K : PySem.W.Frag} {mg : Str → Option Value} {base : Heap}
theorem ok_law_sums (T : Txt P K mg) : FnOk P w K mg base CX0 2 T.f_law_sums T.d_law_sums ["lists", "depths", "key"] (spLSums K) := by
  refine T.F_law_sums.ok sc_law_sums (fun vs H Q E h => by obtain ⟨v, w, rs, ds, k, rfl, _⟩ := h; rfl) (fun cdv A outer s H vs Q E hr h => ⟨_, (pss_cons (ps_asg (pe_tup (pa_cons pe_int (pa_cons pe_int pa_nil))) (pg_tup rfl (pgs_cons (pg_name (i := 3) sc_law_sums.nd rfl (by first | exact Or.inl rfl | exact Or.inr rfl)) (pgs_cons (pg_name (i := 4) sc_law_sums.nd rfl (by first | exact Or.inl rfl | exact Or.inr rfl)) pgs_nil))))
      (pss_cons (ps_for PassesOwn.never rfl (pi_zipA rfl T.z_zip (pa_cons (pv 0) (pa_cons (pv 1) pa_nil))) (pg_tup rfl (pgs_cons (pg_name (i := 5) sc_law_sums.nd rfl (by first | exact Or.inl rfl | exact Or.inr rfl)) (pgs_cons (pg_name (i := 6) sc_law_sums.nd rfl (by first | exact Or.inl rfl | exact Or.inr rfl)) pgs_nil)))
      (pss_cons (ps_setLc (i := 7) (own := [("points", 8), ("other", 9)]) (g := gTup K 2 (gCons (gName 8) (gCons (gName 9) gNil))) rfl sc_law_sums.nd rfl rfl (sw_true rfl rfl rfl (by decide +kernel)) (pi_tup (pe_slice sl_tupW (pv 5) po_none (po_some (pv 6)))) (blkOk_by (own := [("points", 8), ("other", 9)]) (N := N_law_sums) (sc := defScope s_law_sums) (by decide +kernel)) (fun _ _ _ _ _ => (pg_tup rfl (pgs_cons (pg_name (i := 8) sc_law_sums.nd rfl (by first | exact Or.inl rfl | exact Or.inr rfl)) (pgs_cons (pg_name (i := 9) sc_law_sums.nd rfl (by first | exact Or.inl rfl | exact Or.inr rfl)) pgs_nil)))) (fun _ _ _ _ _ => (by exact pts_one (pt_cmpR op_eq (pv 9) (pv 2) (nomark _)))) (fun _ _ _ _ _ => (by exact (pv 8))))
      (pss_cons (ps_set (i := 3) sc_law_sums.nd rfl (Or.inl rfl) (pe_op op_add (pv 3) (pe_callB (cr_sum rfl) rfl T.z_sum (by decide +kernel) (pa_cons (pv 7) pa_nil))))
      (pss_one (ps_set (i := 4) sc_law_sums.nd rfl (Or.inl rfl) (pe_op op_add (pv 4) (pe_ifExp (pt_cmpR (op_neNil (by exact Nat.lt_of_succ_lt (hu_of hr))) (pv 7) (pe_lst pa_nil) (nomark _)) (pe_ix ix_list (pv 7) pe_int (fun _ _ => rfl)) (pe_call (ok_law_bound T) (hr.mono (by omega)) rfl T.g__law_bound T.F_law_bound.kp T.b_law_bound .nil pass0 (pa_cons (pv 5) (pa_cons (pv 6) (pa_cons (pv 2) pa_nil)))))))))))
      (pss_one (ps_ret (pe_tup (pa_cons (pv 3) (pa_cons (pv 4) pa_nil))))))), ?_⟩)
  obtain ⟨v, w, rs, ds, k, rfl, hd, hw, ok, oks, h4, q⟩ := h
  obtain ⟨a, xs, rfl, sq, da⟩ := tup_at hd
  obtain ⟨len, get⟩ := map_get da
  obtain ⟨b, ys, rfl, sb, db⟩ := tup_at hw
  obtain ⟨lenb, getb⟩ := map_get db
  refine ⟨by show 2 ≤ sizeLine; decide, fun p0 hp0 => ?_⟩
  refine ⟨p0, _, rfl, .of upd_same, rfl, _, _, rfl, _, _, rfl, rfl, ?_⟩
  have s0 := Same.new (o := .tup [.int 0, .int 0]) hp0
  refine ⟨_, rfl, _, rfl, a, b, xs, ys, rfl, .inr ⟨s0.sqT sq, s0.sqT sb, ?_⟩⟩
  refine for_zipT (xs := xs) (ys := ys) (by have := ok.len; omega) (fun i σ H' => ∃ (x5 x6 x7 : Option V) (l m : Int), σ = [some (.ref a), some (.ref b), some (.int k), some (.int l), some (.int m), x5, x6, x7, none, none] ∧ l = ((lowL rs ds k).take i).sum ∧ m = ((topL rs ds k).take i).sum ∧ Same H H')
    ⟨none, none, none, 0, 0, rfl, rfl, rfl, s0⟩ (fun i σ H' h => by obtain ⟨_, _, _, _, _, _, _, _, kk⟩ := h; exact ⟨kk.sqT sq, kk.sqT sb⟩) ?_ ?_
  · rintro i x y t σ H1 hx hy ⟨x5, x6, x7, l, m, rfl, hl, hm, kk⟩ ht
    obtain ⟨r, hr1, hr2⟩ := get i x hx
    obtain ⟨d, hd1, hd2⟩ := getb i y hy
    cases hd2
    obtain ⟨ra, rxs, rfl, rsq, rda⟩ := tup_at hr2
    obtain ⟨rlen, rget⟩ := map_get rda
    have okr := oks r (List.mem_of_getElem? hr1)
    have dle := ok.le i r d hr1 hd1
    have zip : (rs.zip ds)[i]? = some (r, d) := by
      rw [List.getElem?_zip_eq_some]
      exact ⟨hr1, hd1⟩
    have eL : (lowL rs ds k)[i]? = some (low1 r d k) := by unfold lowL; rw [List.getElem?_map, zip]; rfl
    have eT : (topL rs ds k)[i]? = some (top1 r d k) := by unfold topL; rw [List.getElem?_map, zip]; rfl
    have sums := sum_next eL
    have tops := sum_next eT
    have k2 := kk.step (o := .tup [.ref ra, .int (d : Int)]) ht
    refine ⟨t, _, rfl, .of upd_same, rfl, _, _, rfl, _, _, rfl, rfl, ?_⟩
    generalize upd H1 t (.tup [.ref ra, .int (d : Int)]) = H2 at k2 ⊢
    refine ⟨_, rfl, _, rfl, _, rfl, ra, rxs, rfl, k2.sqT rsq, fun c H3 k3 sc => ⟨c, rfl, ⟨_, sc⟩, fun D hD => ?_⟩⟩
    rw [cut_to] at sc
    have k13 := k2.trans k3
    refine lc_tup (K := K) (a := c) (xs := rxs.take d) (fun j H' => H' D = some (.lst ((rd r j k).map V.int)) ∧ Same H3 H') ⟨upd_same, Same.new hD⟩ (fun j H' _ h => h.2.sqT sc) ?_ ?_
    · rintro j z H4 hz ⟨g1, g2⟩
      have hj : j < d := by
        have := (List.getElem?_eq_some_iff.mp hz).1
        rw [List.length_take] at this
        omega
      rw [List.getElem?_take_of_lt hj] at hz
      obtain ⟨p, hp1, hp2⟩ := rget j z hz
      obtain ⟨pb, rfl, t1⟩ := pair_at (Dp.keep (k13.trans g2).tupK _ _ (pair_imm p) hp2)
      have nx := rd_next hp1 k
      refine ⟨pb, _, rfl, t1, rfl, _, _, rfl, _, _, rfl, rfl, rfl, _, rfl, _, rfl, rfl, _, rfl, ?_⟩
      by_cases e : p.2 = k
      · rw [if_pos e] at nx
        refine iteB (by simp [e]) ⟨_, rfl, _, g1, ?_, ?_, g2.own hD⟩
        · rw [List.length_map]
          have : (rd r j k).length ≤ j := by
            unfold rd
            rw [List.length_map]
            exact Nat.le_trans (List.length_filter_le _ _) (by rw [List.length_take]; exact Nat.min_le_left _ _)
          have := okr.len
          exact Nat.lt_of_le_of_lt (show _ ≤ 40 by omega) (by decide)
        · rw [upd_same, nx, List.map_append]
          rfl
      · rw [if_neg e, List.append_nil] at nx
        refine iteB' (by simp [e]) ⟨?_, g2⟩
        rw [nx]
        exact g1
    rintro H4 ⟨g1, g2⟩
    rw [show (rxs.take d).length = d by rw [List.length_take]; omega] at g1
    have k14 := k13.trans g2
    refine gname_of ?_
    refine ⟨_, rfl, _, rfl, D, rd r d k, rfl, .of g1, _, _, rfl, rfl, ?_⟩
    refine ⟨_, rfl, _, rfl, Nat.zero_le _, fun n0 hn0 => ?_⟩
    have s5 := Same.new (o := .lst []) hn0
    refine ⟨D, n0, _, rfl, rfl, .of (s5 _ _ g1), .of upd_same, _, rfl, ?_⟩
    have k15 := k14.trans s5
    rcases rd_cases okr d k with w0 | ⟨q0, w0, _, _⟩
    · refine iteB' (by rw [w0]; rfl) ?_
      have e1 : low1 r d k = 0 := by unfold low1; rw [w0]; rfl
      have e2 : top1 r d k = bound r d k := by unfold top1; rw [w0]
      refine ⟨_, rfl, _, rfl, _, rfl, .ref ra, r, d, k, rfl, Dp.keep k15.tupK _ _ (row_imm r) hr2, dle, okr.len, ?_⟩
      refine ⟨_, _, rfl, rfl, _, _, _, l + (rd r d k).sum, m + bound r d k, rfl, ?_, by omega, k15⟩
      rw [w0]
      simp
      omega
    · refine iteB (by rw [w0]; rfl) ?_
      have e1 : low1 r d k = q0.1 := by unfold low1; rw [w0]; simp
      have e2 : top1 r d k = q0.1 := by unfold top1; rw [w0]
      refine ⟨_, rfl, D, _, 0, .int q0.1, rfl, rfl, .of (s5 _ _ g1), by rw [w0]; rfl, ?_⟩
      refine ⟨_, _, rfl, rfl, _, _, _, l + (rd r d k).sum, m + q0.1, rfl, ?_, by omega, k15⟩
      rw [w0]
      simp
      omega
  · rintro σ H1 ⟨x5, x6, x7, l, m, rfl, hl, hm, kk⟩
    refine ⟨_, rfl, _, rfl, by show 2 ≤ sizeLine; decide, fun t ht => ?_⟩
    have lz : (rs.zip ds).length = xs.length := by rw [List.length_zip, ok.len, len, Nat.min_self]
    rw [List.take_of_length_le (by unfold lowL; rw [List.length_map, lz]; exact Nat.le_refl _)] at hl
    rw [List.take_of_length_le (by unfold topL; rw [List.length_map, lz]; exact Nat.le_refl _)] at hm
    refine q _ t (kk.step ht) (.tup (.of upd_same) ?_)
    have h1 : lowS rs ds k = l := hl.symm
    have h2 : topS rs ds k = m := hm.symm
    rw [h1, h2]
    exact .cons (.int _) (.cons (.int _) .nil)
end
end K71
namespace K71
open PySem PySem.Spec PyProof.Rows L2 RZ
theorem But.join {u d : Addr} {H H1 H2 : Hp} (a : But (· = u) H H1) (hd : H d = none) (b : But (fun x => x = u ∨ x = d) H1 H2) : But (· = u) H H2 := fun x o n e => b x o (fun z => z.elim n (fun z => by rw [z, hd] at e; cases e)) (a x o n e)
theorem Urn.upd {H : Hp} {u p : Addr} {o : HO} (hu : Urn H u) (hp : p ≠ u) : Urn (upd H p o) u := by
  obtain ⟨a, b, c, hu⟩ := hu
  exact ⟨a, b, c, by rw [upd_ne (Ne.symm hp)]; exact hu⟩
theorem Urn.full {H : Hp} {u a : Addr} (hu : Urn H u) (e : a = u) : H a ≠ none := by
  obtain ⟨x, b, c, hu⟩ := hu
  rw [e, hu]
  exact fun z => nomatch z
theorem not_tup_dk {H : Hp} {a : Addr} {kvs : List (Key × V)} {ys : List V} (e : H a = some (.dK kvs)) : ¬ Rd H a (.tup ys) := fun r => by
  rcases r with r | ⟨o, r⟩ <;> rw [e] at r <;> cases r
theorem not_tup_frz {H : Hp} {a : Addr} {od : Obj} {kvs : List (Key × V)} {ys : List V} (e : H a = some (.frz od (.dK kvs))) : ¬ Rd H a (.tup ys) := fun r => by
  rcases r with r | ⟨o, r⟩ <;> rw [e] at r <;> cases r
theorem rowOf_next {t s : Row} {i : Nat} {q : Int × Int} (h : s[i]? = some q) : rowOf t (s.take (i + 1)) = rowOf t (s.take i) ++ (if keep t q = true then [lift q] else []) := by
  unfold rowOf
  rw [List.take_add_one, h, List.filter_append, List.map_append]
  congr 1
  by_cases c : keep t q = true <;> simp [c]
theorem rowOf_len (t s : Row) (i : Nat) : (rowOf t (s.take i)).length ≤ i := by
  unfold rowOf
  rw [List.length_map]
  exact Nat.le_trans (List.length_filter_le _ _) (by rw [List.length_take]; exact Nat.min_le_left _ _)
def spLists (K : PySem.W.Frag) : Sp := fun vs H Q _ => ∃ (u : Addr) (n m : Nat), vs = [.ref u, .int (n : Int), .int (m : Int)] ∧ n ≤ 4 ∧ m ≤ 12 ∧ Urn H u ∧
  ∀ H' p rs, Urn H' u → But (· = u) H H' → rs.length = n → (∀ r ∈ rs, RowOk r) → (∀ r ∈ rs, r.length ≤ m) → Dp K H' (.ref p) (rowsD rs) → Q (.ref p) H'
section
variable {P : Program} {w : World} {K : PySem.W.Frag} {mg : Str → Option Value} {base : Heap}
theorem ok_law_lists (T : Txt P K mg) : FnOk P w K mg base CX0 4 T.f_law_lists T.d_law_lists ["urn", "many", "most"] (spLists K) := by
  refine T.F_law_lists.ok sc_law_lists (fun vs H Q E h => by obtain ⟨u, n, m, rfl, _⟩ := h; rfl) (fun cdv A outer s H vs Q E hr h => ⟨_, (pss_cons (ps_par3 (i := 3) (j := 4) (l := 5) rfl sc_law_lists.nd rfl rfl rfl (by decide) (by decide) (by decide) rfl rfl rfl (pa_cons (pe_lst pa_nil) (pa_cons (pe_call (ok_law_of T) (hr.mono (by omega)) rfl T.g__law_of T.F_law_of.kp T.b_law_of .nil pass0 (pa_cons (pv 0) (pa_cons (pe_lst (pa_cons pe_int (pa_cons pe_int (pa_cons pe_int (pa_cons pe_int pa_nil))))) pa_nil))) (pa_cons (pe_call (ok_law_of T) (hr.mono (by omega)) rfl T.g__law_of T.F_law_of.kp T.b_law_of .nil pass0 (pa_cons (pv 0) (pa_cons (pe_lst (pa_cons pe_int (pa_cons pe_int (pa_cons pe_int (pa_cons pe_int pa_nil))))) pa_nil))) pa_nil))) (by rfl))
      (pss_cons (ps_for PassesOwn.never rfl (pi_range1 rfl T.z_range (pa_cons (pv 1) pa_nil)) (pg_name (i := 6) sc_law_lists.nd rfl (by first | exact Or.inl rfl | exact Or.inr rfl))
      (pss_cons (ps_set (i := 7) sc_law_lists.nd rfl (Or.inr rfl) pe_dnewK)
      (pss_cons (ps_for PassesOwn.never rfl (pi_range1 rfl T.z_range (pa_cons (pe_call (ok_law_take T) (hr.mono (by omega)) rfl T.g__law_take T.F_law_take.kp T.b_law_take .nil pass0 (pa_cons (pv 0) (pa_cons (pe_op op_add (pv 2) pe_int) pa_nil))) pa_nil)) (pg_name (i := 8) sc_law_lists.nd rfl (by first | exact Or.inl rfl | exact Or.inr rfl))
      (pss_one (ps_dput (by exact hu_of hr) (pv 7) (pe_op op_add (pe_op op_mul (pe_call (ok_law_of T) (hr.mono (by omega)) rfl T.g__law_of T.F_law_of.kp T.b_law_of .nil pass0 (pa_cons (pv 0) (pa_cons (pe_lst (pa_cons pe_int (pa_cons pe_int pa_nil))) pa_nil))) (pe_op op_sub pe_int (pv 4))) (pe_call (ok_law_take T) (hr.mono (by omega)) rfl T.g__law_take T.F_law_take.kp T.b_law_take .nil pass0 (pa_cons (pv 0) (pa_cons (pv 4) pa_nil)))) (pe_op op_add pe_int (pe_call (ok_law_take T) (hr.mono (by omega)) rfl T.g__law_take T.F_law_take.kp T.b_law_take .nil pass0 (pa_cons (pv 0) (pa_cons (pv 5) pa_nil)))) rfl)))
      (pss_cons (ps_lock (ps_setLc (i := 9) (own := [("key", 10)]) rfl sc_law_lists.nd rfl rfl (sw_true rfl rfl rfl (by decide +kernel)) (pi_keys (pv 7)) (blkOk_by (own := [("key", 10)]) (N := N_law_lists) (sc := defScope s_law_lists) (by decide +kernel)) (fun _ _ _ _ _ => (pg_name (i := 10) sc_law_lists.nd rfl (by first | exact Or.inl rfl | exact Or.inr rfl))) (fun _ _ _ _ _ => (by exact pts_one (PW.pt (pw_or (pt_cmpR op_ne (pv 10) pe_int (nomark _)) (pw_or1 (pt_cmp (pc_dnotin (by exact hu_of hr) pe_int (pv 7)) rfl)))))) (fun _ _ _ _ _ => (by exact (pe_tup (pa_cons (pe_dget (by exact hu_of hr) (pv 7) (pv 10) (fun _ _ => rfl)) (pa_cons (pe_callB (call_max2 rfl) rfl T.z_max (by decide +kernel) (pa_cons pe_int (pa_cons (pv 10) pa_nil))) pa_nil)))))))
      (pss_one (ps_expr (pe_bm PySem.F.plainAttrs_list PySem.F.slot_list_append PySem.F.type_list_append mt_append (pv 3) (pa_cons (pe_callTy call_tuple_of rfl T.z_tuple (by decide +kernel) (pa_cons (pe_callBK (call_sortedF (ok_law_first T) (hr.mono (by omega)) T.b_law_first (by exact hu64 hr)) rfl T.z_sorted (by decide +kernel) (pa_cons (pv 9) pa_nil) (pk_cons (pe_glob (v := .ref T.f_law_first) rfl T.g__law_first rfl) pk_nil)) pa_nil)) pa_nil))))))))
      (pss_one (ps_ret (pe_callTy call_tuple_of rfl T.z_tuple (by decide +kernel) (pa_cons (pv 3) pa_nil)))))), ?_⟩)
  obtain ⟨u, n, m, rfl, hn, hm, hu, q⟩ := h
  refine ⟨Nat.zero_le _, fun f hf => ?_⟩
  have nfu : f ≠ u := hu.ne hf
  refine ⟨_, rfl, by show 4 ≤ sizeLine; decide, fun p1 hp1 => ?_⟩
  refine ⟨u, p1, _, rfl, (hu.new hf).ne hp1, .of upd_same, by decide, by decide, (hu.new hf).new hp1, fun i1 v1 H1 hv1 u1 b1 => ?_⟩
  obtain ⟨keys, hk, rfl⟩ := ints_at (ns := [5, 12, 60, 999]) hv1
  have kb : 5 ≤ keys ∧ keys ≤ 999 := by simp at hk; omega
  refine ⟨_, rfl, by show 4 ≤ sizeLine; decide, fun p2 hp2 => ?_⟩
  refine ⟨u, p2, _, rfl, u1.ne hp2, .of upd_same, by decide, by decide, u1.new hp2, fun i2 v2 H2 hv2 u2 b2 => ?_⟩
  obtain ⟨high, hh, rfl⟩ := ints_at (ns := [2, 5, 40, 999]) hv2
  have hb : 2 ≤ high ∧ high ≤ 999 := by simp at hh; omega
  have f2 : H2 f = some (.lst []) := b2 _ _ nfu (Same.new hp2 _ _ (b1 _ _ nfu (Same.new hp1 _ _ upd_same)))
  have b02 : But (· = u) H H2 := ((((Same.new hf).step hp1).but.trans b1).new hp2).trans b2
  clear b1 b2 hv1 hv2 hk hh u1 hp1 hp2
  refine ⟨_, _, _, rfl, ?_⟩
  refine ⟨_, rfl, (n : Int), rfl, by omega, by omega, ?_⟩
  refine for_range (lo := 0) (n := (n : Int).toNat) (fun i σ H' => ∃ (x6 x7 x8 x9 : Option V) (acc : List V) (rs : List Row), σ = [some (.ref u), some (.int n), some (.int m), some (.ref f), some (.int keys), some (.int high), x6, x7, x8, x9, none] ∧
    H' f = some (.lst acc) ∧ DpAll K H' acc (rs.map rowD) ∧ rs.length = i ∧ (∀ r ∈ rs, RowOk r) ∧ (∀ r ∈ rs, r.length ≤ m) ∧ Urn H' u ∧ But (· = u) H H') ⟨none, none, none, none, [], [], rfl, f2, .nil, rfl, (fun r hr => by cases hr), (fun r hr => by cases hr), u2, b02⟩ ?_ ?_
  · rintro i σ H3 hi ⟨x6, x7, x8, x9, acc, rs, rfl, ef, hd, hl, oks, shs, u3, b3⟩
    refine fun d hdn => ?_
    have nd : d ≠ u := u3.ne hdn
    have nf : d ≠ f := fun z => by rw [z, ef] at hdn; cases hdn
    have hd0 : H d = none := b3.free (fun a e => u3.full e) hdn
    have u4 := u3.new (o := .dK []) hdn
    have b4 : But (· = u) H (upd H3 d (.dK [])) := b3.new hdn
    have k34 : Same H3 (upd H3 d (.dK [])) := Same.new hdn
    have ed4 : upd H3 d (.dK []) d = some (.dK (dz [])) := upd_same
    generalize upd H3 d (.dK []) = H4 at u4 b4 k34 ed4 ⊢
    refine ⟨_, rfl, _, rfl, _, _, rfl, rfl, u, (m : Int) + 1, rfl, by omega, by omega, u4, fun k H5 k0 k1 u5 b5 => ?_⟩
    refine ⟨k, rfl, by omega, by omega, ?_⟩
    refine for_range (lo := 0) (n := k.toNat) (fun j σ H' => ∃ (x8 : Option V) (t : Row), σ = [some (.ref u), some (.int n), some (.int m), some (.ref f), some (.int keys), some (.int high), some (.int (0 + i)), some (.ref d), x8, x9, none] ∧
      H' d = some (.dK (dz t)) ∧ Tbl t j ∧ Urn H' u ∧ But (fun x => x = u ∨ x = d) H4 H') ⟨_, [], rfl, b5 _ _ nd ed4, ⟨Nat.le_refl _, (fun q h => by cases h), (fun q h => by cases h), .nil⟩, u5, b5.mono fun a => .inl⟩ ?_ ?_
    · rintro j σ H6 hj ⟨y8, t, rfl, ed, ht, u6, b6⟩
      refine ⟨_, rfl, _, rfl, u, high, rfl, by omega, by omega, u6, fun v H7 v0 v1 u7 b7 => ?_⟩
      refine ⟨_, _, rfl, rfl, _, rfl, _, rfl, by show 2 ≤ sizeLine; decide, fun p3 hp3 => ?_⟩
      refine ⟨u, p3, _, rfl, u7.ne hp3, .of upd_same, by decide, by decide, u7.new hp3, fun i3 w3 H8 hv3 u8 b8 => ?_⟩
      obtain ⟨w, hw, rfl⟩ := ints_at (ns := [1, 0]) hv3
      have wb : w = 1 ∨ w = 0 := by simpa using hw
      refine ⟨_, rfl, _, _, rfl, rfl, _, _, rfl, rfl, .inl (by rcases wb with rfl | rfl <;> decide), _, rfl, _, rfl, u, keys, rfl, by omega, by omega, u8, fun c H9 c0 c1 u9 b9 => ?_⟩
      have b69 : But (· = u) H6 H9 := ((b7.new hp3).trans b8).trans b9
      have ed9 := b69 _ _ nd ed
      obtain ⟨t', e', ht'⟩ := tbl_put (k := w * (1000 - keys) + c) (v := 1 + v) ht (by rcases wb with rfl | rfl <;> omega) (by rcases wb with rfl | rfl <;> omega) (by omega) (by omega)
      refine ⟨_, _, rfl, rfl, d, _, rfl, DPut.k (k := Sum.inl (w * (1000 - keys) + c)) ed9 ?_, ?_⟩
      · unfold dz
        rw [List.length_map]
        exact Nat.lt_of_le_of_lt (show _ ≤ 13 by have := ht.len; omega) (by decide)
      · rw [e']
        exact ⟨_, t', rfl, upd_same, ht', u9.upd nd, ((b6.trans (b69.mono fun a => .inl)).put (.inr rfl))⟩
    · rintro σ H6 ⟨y8, t, rfl, ed, ht, u6, b6⟩
      refine ⟨d, _, ed, trivial, fun od => ?_⟩
      have k6 : But (· = d) H6 (upd H6 d (.frz od (.dK (dz t)))) := But.set rfl
      have ez : upd H6 d (.frz od (.dK (dz t))) d = some (.frz od (.dK (dz t))) := upd_same
      generalize upd H6 d (.frz od (.dK (dz t))) = H7 at k6 ez ⊢
      refine ⟨_, rfl, d, od, rfl, .inl ⟨_, ez, fun D hD => ?_⟩⟩
      refine lc_it walk_keys (fun i H' => ∃ ps : List (V × (Int × Int)), H' D = some (.lst (ps.map (·.1))) ∧ ps.map (·.2) = rowOf t (t.take i) ∧ (∀ p ∈ ps, Dp K H' p.1 (pairD p.2)) ∧ Same H7 H') ⟨[], upd_same, rfl, (fun p hp => by cases hp), Same.new hD⟩ (fun i H' _ h => h.choose_spec.2.2.2 _ _ ez) ?_ ?_
      · rintro a x _ H8 ha ⟨ps, e1, e2, e3, k8⟩ ⟨rfl, key, v, hkv, rfl⟩
        obtain ⟨p, hp, e⟩ : ∃ p, t[a]? = some p ∧ (Sum.inl p.2, V.int p.1) = (key, v) := by
          unfold dz at hkv
          rw [List.getElem?_map] at hkv
          cases z : t[a]? with
          | none => rw [z] at hkv; cases hkv
          | some p => rw [z] at hkv; exact ⟨p, rfl, Option.some.inj hkv⟩
        cases e
        have nx := rowOf_next (t := t) hp
        have ez8 := k8 _ _ ez
        have la : ps.length ≤ a := by rw [← List.length_map (f := (·.2)), e2]; exact rowOf_len t t a
        have la2 : a < 13 := by
          have := (List.getElem?_eq_some_iff.mp hp).1
          have := ht.len
          omega
        refine ⟨rfl, ?_⟩
        have kept : ∀ {z : V} {T : Addr}, z = .ref T → H8 T = none → keep t p = true → ∃ acc, upd H8 T (.tup [.int p.1, .int (if p.2 > 1 then p.2 else 1)]) D = some (.lst acc) ∧ acc.length < sizeLine ∧
            ∃ ps : List (V × (Int × Int)), upd (upd H8 T (.tup [.int p.1, .int (if p.2 > 1 then p.2 else 1)])) D (.lst (acc ++ [z])) D = some (.lst (ps.map (·.1))) ∧ ps.map (·.2) = rowOf t (t.take (a + 1)) ∧ (∀ p' ∈ ps, Dp K (upd (upd H8 T (.tup [.int p.1, .int (if p.2 > 1 then p.2 else 1)])) D (.lst (acc ++ [z]))) p'.1 (pairD p'.2)) ∧
              Same H7 (upd (upd H8 T (.tup [.int p.1, .int (if p.2 > 1 then p.2 else 1)])) D (.lst (acc ++ [z]))) := by
          rintro z T rfl hT kp
          have nD : T ≠ D := fun z => by rw [z, e1] at hT; cases hT
          rw [if_pos kp] at nx
          refine ⟨_, Same.new hT _ _ e1, ?_, ps ++ [(.ref T, lift p)], ?_, ?_, ?_, (k8.step hT).own hD⟩
          · rw [List.length_map]
            exact Nat.lt_of_le_of_lt (show _ ≤ 13 by omega) (by decide)
          · rw [upd_same, List.map_append]
            rfl
          · rw [List.map_append, e2, nx]
            rfl
          · intro p' hp'
            have k1 := (Same.new (o := .tup [.int p.1, .int (if p.2 > 1 then p.2 else 1)]) hT).tupK
            have k2 : TupK (upd H8 T (.tup [.int p.1, .int (if p.2 > 1 then p.2 else 1)])) (upd (upd H8 T (.tup [.int p.1, .int (if p.2 > 1 then p.2 else 1)])) D (.lst (ps.map (·.1) ++ [.ref T]))) := But.tupK (S := (· = D)) (But.set rfl) fun c ys hc => by rw [hc]; exact not_tup_lst ((Same.new hT) _ _ e1)
            rcases List.mem_append.mp hp' with hp' | hp'
            · exact Dp.keep (k1.trans k2) _ _ (pair_imm _) (e3 p' hp')
            · rw [List.mem_singleton] at hp'
              rw [hp']
              refine .tup (.of ?_) (.cons (.int _) (.cons (.int _) .nil))
              rw [upd_ne nD, upd_same]
              rfl
        by_cases c0 : p.2 = 0
        · refine ⟨_, rfl, rfl, _, rfl, iteB' (by simp [c0, kV]) ?_⟩
          refine ⟨_, rfl, d, _, rfl, .inl ⟨dz t, Sum.inl 1, .inr ⟨od, ez8⟩, rfl, rfl⟩, _, rfl, ?_⟩
          rw [dz_in]
          by_cases c1 : (1 : Int) ∈ t.map (·.2)
          · refine iteB' (by simp [c1]) ?_
            have kp : ¬ keep t p = true := by unfold keep; simp [c0, c1]
            rw [if_neg kp, List.append_nil] at nx
            exact ⟨ps, e1, by rw [nx]; exact e2, e3, k8⟩
          · refine iteB (by simp [c1]) ?_
            have kp : keep t p = true := by unfold keep; simp [c1]
            refine ⟨_, rfl, _, rfl, d, .int p.1, rfl, .inl ⟨dz t, Sum.inl p.2, .inr ⟨od, ez8⟩, rfl, (dz_get ht.nod (List.mem_of_getElem? hp)).symm⟩, ?_⟩
            exact ⟨_, rfl, 1, p.2, rfl, by show 2 ≤ sizeLine; decide, fun T hT => kept rfl hT kp⟩
        · have kp : keep t p = true := by unfold keep; simp [c0]
          refine ⟨_, rfl, rfl, _, rfl, iteB (by simp [c0, kV]) (iteT ?_)⟩
          refine ⟨_, rfl, _, rfl, d, .int p.1, rfl, .inl ⟨dz t, Sum.inl p.2, .inr ⟨od, ez8⟩, rfl, (dz_get ht.nod (List.mem_of_getElem? hp)).symm⟩, ?_⟩
          exact ⟨_, rfl, 1, p.2, rfl, by show 2 ≤ sizeLine; decide, fun T hT => kept rfl hT kp⟩
      · rintro H8 ⟨ps, e1, e2, e3, k8⟩
        refine ⟨k8 _ _ ez, ?_⟩
        rw [show (dz t).length = t.length by unfold dz; rw [List.length_map], List.take_length] at e2
        have lo := rowOf_ok ht
        rw [← e2] at lo
        have nDd : D ≠ d := fun z => by rw [z, ez] at hD; cases hD
        have k89 : But (· = d) H8 (upd H8 d (.dK (dz t))) := But.set rfl
        have t89 : TupK H8 (upd H8 d (.dK (dz t))) := k89.tupK fun c ys hc => by rw [hc]; exact not_tup_frz (k8 _ _ ez)
        have b49 : But (fun x => x = u ∨ x = d) H4 (upd H8 d (.dK (dz t))) := ((b6.trans (k6.mono fun a => .inr)).trans k8.but).put (.inr rfl)
        have eD9 : upd H8 d (.dK (dz t)) D = some (.lst (ps.map (·.1))) := by rw [upd_ne nDd]; exact e1
        have u9 : Urn (upd H8 d (.dK (dz t))) u := by
          obtain ⟨x, y, z, hz⟩ := u6
          exact Urn.upd ⟨x, y, z, k8 _ _ (k6 _ _ (fun e => nd e.symm) hz)⟩ nd
        have dp9 : ∀ p ∈ ps, Dp K (upd H8 d (.dK (dz t))) p.1 (pairD p.2) := fun p hp => Dp.keep t89 _ _ (pair_imm _) (e3 p hp)
        generalize upd H8 d (.dK (dz t)) = H9 at b49 eD9 u9 dp9 ⊢
        have ef4 := k34 _ _ ef
        have ef9 := b49 _ _ (fun z => z.elim nfu (fun z => nf z.symm)) ef4
        refine ⟨_, rfl, .inl ⟨rfl, _, .of ef9⟩, _, rfl, D, ps.map (fun p => (p.1, keyD p.2)), rfl, rfl, .of (by rw [List.map_map]; exact eD9), ?_, ?_, ?_, ?_, fun g H10 k10 hg eg => ?_⟩
        · intro d1 h1 d2 h2
          rw [List.map_map] at h1 h2
          obtain ⟨a1, _, rfl⟩ := List.mem_map.mp h1
          obtain ⟨a2, _, rfl⟩ := List.mem_map.mp h2
          simp [keyD, PySem.W.alike, PySem.W.alikeAll]
        · refine .inl fun d1 h1 => ?_
          rw [List.map_map] at h1
          obtain ⟨a1, _, rfl⟩ := List.mem_map.mp h1
          exact ⟨_, _, rfl⟩
        · intro p hp
          obtain ⟨a1, _, rfl⟩ := List.mem_map.mp hp
          exact ⟨by simp [keyD, PyData.depth, PyData.depthAll], rfl⟩
        · intro p hp H' Q' s2 k2
          obtain ⟨a1, ha1, rfl⟩ := List.mem_map.mp hp
          exact ⟨a1.1, a1.2, rfl, Dp.keep s2.tupK _ _ (pair_imm _) (dp9 a1 ha1), fun H2 t s2 d2 => k2 (.ref t) H2 s2 d2⟩
        · rw [sort_keyD, List.map_map] at eg
          refine ⟨g, _, rfl, .inl ⟨.of eg, fun l hln => ?_⟩⟩
          have k11 := k10.step (o := .tup ((ps.mergeSort leP).map ((fun p : V × PyData => p.1) ∘ fun p : V × (Int × Int) => (p.1, keyD p.2)))) hln
          have el := @upd_same H10 l (.tup ((ps.mergeSort leP).map ((fun p : V × PyData => p.1) ∘ fun p : V × (Int × Int) => (p.1, keyD p.2))))
          generalize upd H10 l (.tup ((ps.mergeSort leP).map ((fun p : V × PyData => p.1) ∘ fun p : V × (Int × Int) => (p.1, keyD p.2)))) = H11 at k11 el ⊢
          have ef11 := k11 _ _ ef9
          have nlf : l ≠ f := fun z => by rw [z, ef11] at el; cases el
          have t12 : TupK H11 (upd H11 f (.lst (acc ++ [.ref l]))) := But.tupK (S := (· = f)) (But.set rfl) fun c ys hc => by rw [hc]; exact not_tup_lst ef11
          have t49 : TupK H4 H9 := b49.tupK fun c ys hc => by
            rcases hc with rfl | rfl
            · obtain ⟨x, y, z, hz⟩ := u4
              exact not_tup_lst hz
            · exact not_tup_dk ed4
          have el2 := (upd_ne (H := H11) (o := HO.lst (acc ++ [V.ref l])) nlf).trans el
          refine ⟨f, acc, .ref l, rfl, rfl, ef11, ?_, _, _, _, _, acc ++ [.ref l], rs ++ [(ps.mergeSort leP).map (·.2)], rfl, upd_same, ?_, ?_, ?_, ?_, ?_, ?_⟩
          · rw [DpAll.length hd, List.length_map]
            exact Nat.lt_of_le_of_lt (show _ ≤ 4 by omega) (by decide)
          · rw [List.map_append]
            refine DpAll.app (Dp.keepAll (((k34.tupK.trans t49).trans k11.tupK).trans t12) _ _ (immAll_map row_imm _) hd) (.cons (.tup (.of el2) ?_) .nil)
            · refine dp_map (f := pairD) fun p hp => ?_
              exact Dp.keep (k11.tupK.trans t12) _ _ (pair_imm _) (dp9 p ((List.mergeSort_perm ps leP).mem_iff.mp hp))
          · rw [List.length_append, hl]
            rfl
          · intro r hr
            rcases List.mem_append.mp hr with hr | hr
            · exact oks r hr
            · rw [List.mem_singleton] at hr
              rw [hr]
              exact leP_ok lo (by omega)
          · intro r hr
            rcases List.mem_append.mp hr with hr | hr
            · exact shs r hr
            · rw [List.mem_singleton] at hr
              rw [hr, List.length_map, List.length_mergeSort]
              have := lo.len
              rw [List.length_map] at this
              omega
          · obtain ⟨x, y, z, hz⟩ := u9
            exact Urn.upd ⟨x, y, z, k11 _ _ hz⟩ nfu
          · exact ((But.join b4 hd0 b49).trans k11.but).own hf
  · rintro σ H3 ⟨x6, x7, x8, x9, acc, rs, rfl, ef, hd, hl, oks, shs, u3, b3⟩
    refine ⟨_, rfl, f, acc, rfl, .inl ⟨.of ef, fun l hln => ?_⟩⟩
    exact q _ l rs (u3.new hln) (b3.new hln) (by omega) oks shs (.tup (.of upd_same) (Dp.keepAll (Same.new hln).tupK _ _ (immAll_map row_imm _) hd))
end
end K71
namespace K71
open PySem PySem.Spec PyProof.Rows L2 RZ
theorem inV_int (k : Int) : ∀ ns : List Int, inV (.int k) (ns.map V.int) = decide (k ∈ ns)
  | [] => rfl
  | a :: ns => by
    have ih := inV_int k ns
    unfold inV at ih ⊢
    rw [List.map_cons, List.any_cons, ih]
    show ((a == k) || decide (k ∈ ns)) = decide (k ∈ a :: ns)
    by_cases h : a = k
    · simp [h]
    · have h' : ¬ k = a := fun z => h z.symm
      simp [h, h']
theorem all_flat (ns : List Int) : (ns.map V.int).all flatV = true := by
  rw [List.all_eq_true]
  intro x hx
  obtain ⟨a, _, rfl⟩ := List.mem_map.mp hx
  rfl
theorem dpAll_take {K : PySem.W.Frag} {H : Hp} : ∀ {vs : List V} {ds : List PyData} (n : Nat), DpAll K H vs ds → DpAll K H (vs.take n) (ds.take n)
  | _, _, 0, _ => .nil
  | _, _, _ + 1, .nil => .nil
  | _, _, n + 1, .cons h t => .cons h (dpAll_take n t)
theorem dpAll_nats {K : PySem.W.Frag} {H : Hp} : ∀ ds : List Nat, DpAll K H (ds.map fun d : Nat => V.int (d : Int)) (ds.map natD)
  | [] => .nil
  | d :: ds => .cons (.int _) (dpAll_nats ds)
def spDepths (K : PySem.W.Frag) : Sp := fun vs H Q _ => ∃ (u : Addr) (v : V) (rs : List Row), vs = [.ref u, v] ∧ Dp K H v (rowsD rs) ∧ rs.length ≤ 4 ∧ (∀ r ∈ rs, RowOk r) ∧ Urn H u ∧
  ∀ H' p ds, Urn H' u → But (· = u) H H' → DepOk rs ds → Dp K H' (.ref p) (depD ds) → Q (.ref p) H'
def spTopped (K : PySem.W.Frag) : Sp := fun vs H Q _ => ∃ (v : V) (r : Row) (d : Nat) (k : Int), vs = [v, .int (d : Int), .int k] ∧ Dp K H v (rowD r) ∧ RowOk r ∧ d ≤ r.length ∧ 1 ≤ k ∧ k ≤ 999 ∧
  ∀ H' x, Same H H' → (x = .non ∨ ∃ t, Topped r d k t ∧ Dp K H' x (rowD t)) → Q x H'
section
variable {P : Program} {w : World} {K : PySem.W.Frag} {mg : Str → Option Value} {base : Heap}
end
end K71
namespace K71
open PySem PySem.Spec PyProof.Rows L2 RZ
/-! ### sums over the lists -/
theorem low_b {r : Row} (h : RowOk r) (d : Nat) (k : Int) : 0 ≤ low1 r d k ∧ low1 r d k ≤ 999 := by
  unfold low1
  rcases rd_cases h d k with z | ⟨q, z, hq, _⟩
  · rw [z]; decide
  · rw [z]
    have := h.pts q (List.mem_of_mem_take hq)
    simp
    omega
theorem bound_b {r : Row} (h : RowOk r) (d : Nat) (k : Int) : 0 ≤ bound r d k ∧ bound r d k ≤ 999 := by
  unfold bound
  split
  · decide
  · split
    · decide
    · rename_i q hq
      have := h.pts q (List.mem_of_getElem? hq)
      split
      · decide
      · split <;> omega
theorem top_b {r : Row} (h : RowOk r) (d : Nat) (k : Int) : 0 ≤ top1 r d k ∧ top1 r d k ≤ 999 := by
  unfold top1
  rcases rd_cases h d k with z | ⟨q, z, hq, _⟩
  · rw [z]; exact bound_b h d k
  · rw [z]
    have := h.pts q (List.mem_of_mem_take hq)
    show 0 ≤ q.1 ∧ q.1 ≤ 999
    omega
theorem sum_b : ∀ {xs : List Int}, (∀ x ∈ xs, 0 ≤ x ∧ x ≤ 999) → 0 ≤ xs.sum ∧ xs.sum ≤ 999 * (xs.length : Int)
  | [], _ => by simp
  | x :: xs, h => by
    have a := h x List.mem_cons_self
    have b := sum_b fun y hy => h y (List.mem_cons_of_mem _ hy)
    simp only [List.sum_cons, List.length_cons]
    omega
theorem zip_at {rs : List Row} {ds : List Nat} {p : Row × Nat} (h : p ∈ rs.zip ds) : p.1 ∈ rs ∧ p.2 ∈ ds := List.of_mem_zip h
theorem low_B {rs : List Row} {ds : List Nat} {k : Int} (h : ∀ r ∈ rs, RowOk r) (h4 : rs.length ≤ 4) : 0 ≤ lowS rs ds k ∧ lowS rs ds k ≤ 3996 := by
  have z := sum_b (xs := lowL rs ds k) fun x hx => by
    obtain ⟨p, hp, rfl⟩ := List.mem_map.mp hx
    exact low_b (h _ (zip_at hp).1) _ _
  have l : (lowL rs ds k).length ≤ 4 := by
    unfold lowL
    rw [List.length_map, List.length_zip]
    exact Nat.le_trans (Nat.min_le_left _ _) h4
  unfold lowS
  omega
theorem top_B {rs : List Row} {ds : List Nat} {k : Int} (h : ∀ r ∈ rs, RowOk r) (h4 : rs.length ≤ 4) : 0 ≤ topS rs ds k ∧ topS rs ds k ≤ 3996 := by
  have z := sum_b (xs := topL rs ds k) fun x hx => by
    obtain ⟨p, hp, rfl⟩ := List.mem_map.mp hx
    exact top_b (h _ (zip_at hp).1) _ _
  have l : (topL rs ds k).length ≤ 4 := by
    unfold topL
    rw [List.length_map, List.length_zip]
    exact Nat.le_trans (Nat.min_le_left _ _) h4
  unfold topS
  omega
/-- f of each list and depth, and g of each list and other depth -/
theorem sums_le {rs : List Row} {ds es : List Nat} {f g : Row → Nat → Int} (hl : ds.length = es.length) (h : ∀ (i : Nat) (r : Row) (d e : Nat), rs[i]? = some r → ds[i]? = some d → es[i]? = some e → f r d ≤ g r e) :
    ((rs.zip ds).map fun p => f p.1 p.2).sum ≤ ((rs.zip es).map fun p => g p.1 p.2).sum := by
  refine sum_le (by rw [List.length_map, List.length_map, List.length_zip, List.length_zip, hl]) fun i x y hx hy => ?_
  rw [List.getElem?_map] at hx hy
  cases h1 : (rs.zip ds)[i]? with
  | none => rw [h1] at hx; cases hx
  | some p =>
    cases h2 : (rs.zip es)[i]? with
    | none => rw [h2] at hy; cases hy
    | some q =>
      rw [h1] at hx
      rw [h2] at hy
      cases hx
      cases hy
      obtain ⟨a1, a2⟩ := List.getElem?_zip_eq_some.mp h1
      obtain ⟨b1, b2⟩ := List.getElem?_zip_eq_some.mp h2
      rw [a1] at b1
      have e := Option.some.inj b1
      show f p.1 p.2 ≤ g q.1 q.2
      rw [← e]
      exact h i p.1 p.2 q.2 a1 a2 b2
def ends (rs : List Row) : List Nat := rs.map fun r => r.length
theorem ends_ok (rs : List Row) : DepOk rs (ends rs) := ⟨by unfold ends; rw [List.length_map], fun i r d h1 h2 => by
  unfold ends at h2
  rw [List.getElem?_map, h1] at h2
  cases h2
  exact Nat.le_refl _⟩
theorem ends_get {rs : List Row} {i : Nat} {r : Row} {e : Nat} (h : rs[i]? = some r) (he : (ends rs)[i]? = some e) : e = r.length := by
  unfold ends at he
  rw [List.getElem?_map, h] at he
  cases he
  rfl
theorem ends_same {rs : List Row} (h : ∀ r ∈ rs, RowOk r) (k : Int) : topS rs (ends rs) k = lowS rs (ends rs) k := by
  apply Int.le_antisymm
  · exact sums_le (f := fun r d => top1 r d k) (g := fun r d => low1 r d k) rfl fun i r d e h1 h2 h3 => by
      rw [ends_get h1 h2, ends_get h1 h3, top_end (h r (List.mem_of_getElem? h1))]
      exact Int.le_refl _
  · exact sums_le (f := fun r d => low1 r d k) (g := fun r d => top1 r d k) rfl fun i r d e h1 h2 h3 => by
      rw [ends_get h1 h2, ends_get h1 h3, top_end (h r (List.mem_of_getElem? h1))]
      exact Int.le_refl _
theorem total_S {rs : List Row} {ds : List Nat} (h : ∀ r ∈ rs, RowOk r) (ok : DepOk rs ds) (k : Int) : lowS rs ds k ≤ lowS rs (ends rs) k ∧ lowS rs (ends rs) k ≤ topS rs ds k := by
  have el := (ends_ok rs).len
  constructor
  · exact sums_le (f := fun r d => low1 r d k) (g := fun r d => low1 r d k) (by rw [ok.len, el]) fun i r d e h1 h2 h3 => by
      rw [ends_get h1 h3]
      have := ok.le i r d h1 h2
      exact (total1 (h r (List.mem_of_getElem? h1)) k (r.length - d) d (by omega)).1
  · exact sums_le (f := fun r d => low1 r d k) (g := fun r d => top1 r d k) (by rw [ok.len, el]) fun i r e d h1 h3 h2 => by
      rw [ends_get h1 h3]
      have := ok.le i r d h1 h2
      exact (total1 (h r (List.mem_of_getElem? h1)) k (r.length - d) d (by omega)).2
/-- one more read of the list at n -/
theorem more_S {rs : List Row} {ds : List Nat} (h : ∀ r ∈ rs, RowOk r) (ok : DepOk rs ds) {n d : Nat} {r : Row} (hr : rs[n]? = some r) (hd : ds[n]? = some d) (lt : d < r.length) (k : Int) :
    DepOk rs (ds.set n (d + 1)) ∧ lowS rs ds k ≤ lowS rs (ds.set n (d + 1)) k ∧ topS rs (ds.set n (d + 1)) k ≤ topS rs ds k := by
  have at2 : ∀ (i : Nat) (r' : Row) (e : Nat), rs[i]? = some r' → (ds.set n (d + 1))[i]? = some e → (i = n ∧ r' = r ∧ e = d + 1) ∨ (i ≠ n ∧ ds[i]? = some e) := by
    intro i r' e h1 h2
    by_cases c : i = n
    · subst c
      have hl := (List.getElem?_eq_some_iff.mp hd).1
      rw [List.getElem?_set_self (by omega)] at h2
      rw [hr] at h1
      cases h1
      cases h2
      exact .inl ⟨rfl, rfl, rfl⟩
    · rw [List.getElem?_set_ne (fun z => c z.symm)] at h2
      exact .inr ⟨c, h2⟩
  refine ⟨⟨by rw [List.length_set, ok.len], fun i r' e h1 h2 => ?_⟩, ?_, ?_⟩
  · rcases at2 i r' e h1 h2 with ⟨_, rfl, rfl⟩ | ⟨_, h3⟩
    · exact lt
    · exact ok.le i r' e h1 h3
  · exact sums_le (f := fun r d => low1 r d k) (g := fun r d => low1 r d k) (by rw [List.length_set]) fun i r' d' e h1 h2 h3 => by
      rcases at2 i r' e h1 h3 with ⟨rfl, rfl, rfl⟩ | ⟨_, h4⟩
      · rw [hd] at h2
        cases h2
        exact (step1 (h r' (List.mem_of_getElem? h1)) lt k).1
      · rw [h2] at h4
        cases h4
        exact Int.le_refl _
  · exact sums_le (f := fun r d => top1 r d k) (g := fun r d => top1 r d k) (by rw [List.length_set]) fun i r' e d' h1 h3 h2 => by
      rcases at2 i r' e h1 h3 with ⟨rfl, rfl, rfl⟩ | ⟨_, h4⟩
      · rw [hd] at h2
        cases h2
        exact (step1 (h r' (List.mem_of_getElem? h1)) lt k).2
      · rw [h2] at h4
        cases h4
        exact Int.le_refl _
/-- lists that go on so that a key has its greatest sum -/
structure Tops (rs : List Row) (ds : List Nat) (k : Int) (ts : List Row) : Prop where
  len : ts.length = rs.length
  one : ∀ (i : Nat) (r t : Row) (d : Nat), rs[i]? = some r → ts[i]? = some t → ds[i]? = some d → Topped r d k t
theorem Tops.ends {rs : List Row} {ds : List Nat} {k : Int} {ts : List Row} (h : Tops rs ds k ts) (ok : DepOk rs ds) : ends ts = ends rs := by
  unfold K71.ends
  apply List.ext_getElem?
  intro i
  rw [List.getElem?_map, List.getElem?_map]
  by_cases c : i < rs.length
  · have h1 : rs[i]? = some rs[i] := List.getElem?_eq_getElem c
    have h2 : ts[i]? = some (ts[i]'(by rw [h.len]; exact c)) := List.getElem?_eq_getElem _
    have h3 : ds[i]? = some (ds[i]'(by rw [ok.len]; exact c)) := List.getElem?_eq_getElem _
    have z := (h.one i _ _ _ h1 h2 h3).len
    rw [h1, h2]
    exact congrArg some z
  · have l := h.len
    rw [List.getElem?_eq_none (show rs.length ≤ i by omega), List.getElem?_eq_none (show ts.length ≤ i by omega)]
theorem Tops.oks {rs : List Row} {ds : List Nat} {k : Int} {ts : List Row} (h : Tops rs ds k ts) (ok : DepOk rs ds) : ∀ t ∈ ts, RowOk t := by
  intro t ht
  obtain ⟨i, hi⟩ := List.getElem?_of_mem ht
  have c := (List.getElem?_eq_some_iff.mp hi).1
  have h1 : rs[i]? = some (rs[i]'(by rw [← h.len]; exact c)) := List.getElem?_eq_getElem _
  have h3 : ds[i]? = some (ds[i]'(by rw [ok.len, ← h.len]; exact c)) := List.getElem?_eq_getElem _
  exact (h.one i _ _ _ h1 hi h3).ok
theorem Tops.sum {rs : List Row} {ds : List Nat} {k : Int} {ts : List Row} (h : Tops rs ds k ts) (ok : DepOk rs ds) : topS ts (K71.ends rs) k = topS rs ds k := by
  have e : topL ts (K71.ends rs) k = topL rs ds k := by
    unfold topL
    apply List.ext_getElem?
    intro i
    rw [List.getElem?_map, List.getElem?_map]
    by_cases c : i < rs.length
    · have h1 : rs[i]? = some rs[i] := List.getElem?_eq_getElem c
      have h2 : ts[i]? = some (ts[i]'(by rw [h.len]; exact c)) := List.getElem?_eq_getElem _
      have h3 : ds[i]? = some (ds[i]'(by rw [ok.len]; exact c)) := List.getElem?_eq_getElem _
      have z := h.one i _ _ _ h1 h2 h3
      have h4 : (K71.ends rs)[i]? = some (ts[i]'(by rw [h.len]; exact c)).length := by
        unfold K71.ends
        rw [List.getElem?_map, h1, z.len]
        rfl
      have n1 : (ts.zip (K71.ends rs))[i]? = some (ts[i]'(by rw [h.len]; exact c), (ts[i]'(by rw [h.len]; exact c)).length) := List.getElem?_zip_eq_some.mpr ⟨h2, h4⟩
      have n2 : (rs.zip ds)[i]? = some (rs[i], ds[i]'(by rw [ok.len]; exact c)) := List.getElem?_zip_eq_some.mpr ⟨h1, h3⟩
      rw [n1, n2]
      exact congrArg some z.sum.2
    · have n1 : (ts.zip (K71.ends rs))[i]? = none := List.getElem?_eq_none (by rw [List.length_zip, h.len]; exact Nat.le_trans (Nat.min_le_left _ _) (by omega))
      have n2 : (rs.zip ds)[i]? = none := List.getElem?_eq_none (by rw [List.length_zip]; exact Nat.le_trans (Nat.min_le_left _ _) (by omega))
      rw [n1, n2]
  unfold topS
  rw [e]
theorem pair_tidy {q : Int × Int} (h1 : 0 ≤ q.1 ∧ q.1 ≤ 3996) (h2 : 0 ≤ q.2 ∧ q.2 ≤ 3996) : tidy (pairD q) = true := by
  unfold pairD
  simp only [tidy, tidyAll, Bool.and_true, Bool.and_eq_true, decide_eq_true_eq]
  omega
end K71
set_option pp.maxSteps 1200
/-! The plain law of what is settled: keys by their least sums, keys that beat others whatever has not been read. -/
namespace K71
open PySem PySem.Spec PyProof.Rows L2
/-- the pairs read -/
def flat (rs : List Row) (ds : List Nat) : Row := (rs.zip ds).flatMap fun p => p.1.take p.2
def sumK (l : Row) (k : Int) : Int := ((l.filter fun q => decide (q.2 = k)).map (·.1)).sum
theorem sumK_app (a b : Row) (k : Int) : sumK (a ++ b) k = sumK a k + sumK b k := by
  unfold sumK
  rw [List.filter_append, List.map_append, List.sum_append]
theorem sumK_take (r : Row) (d : Nat) (k : Int) : sumK (r.take d) k = low1 r d k := rfl
theorem flat_sum (rs : List Row) (ds : List Nat) (k : Int) : sumK (flat rs ds) k = lowS rs ds k := by
  unfold flat lowS lowL
  generalize rs.zip ds = l
  induction l with
  | nil => rfl
  | cons p l ih => rw [List.flatMap_cons, sumK_app, ih, sumK_take, List.map_cons, List.sum_cons]
def isRead (rs : List Row) (ds : List Nat) (k : Int) : Prop := k ∈ (flat rs ds).map (·.2)
theorem read_at {rs : List Row} {ds : List Nat} {k : Int} : isRead rs ds k ↔ ∃ p ∈ rs.zip ds, k ∈ (p.1.take p.2).map (·.2) := by
  unfold isRead flat
  rw [List.mem_map]
  constructor
  · rintro ⟨q, hq, rfl⟩
    obtain ⟨p, hp, hq⟩ := List.mem_flatMap.mp hq
    exact ⟨p, hp, List.mem_map_of_mem hq⟩
  · rintro ⟨p, hp, h⟩
    obtain ⟨q, hq, rfl⟩ := List.mem_map.mp h
    exact ⟨q, List.mem_flatMap.mpr ⟨p, hp, hq⟩, rfl⟩
theorem sumK_pos : ∀ {l : Row} {k : Int}, (∀ q ∈ l, 1 ≤ q.1) → (k ∈ l.map (·.2) → 1 ≤ sumK l k) ∧ 0 ≤ sumK l k ∧ (k ∉ l.map (·.2) → sumK l k = 0)
  | [], k, _ => ⟨(fun h => by cases h), Int.le_refl _, fun _ => rfl⟩
  | q :: l, k, h => by
    obtain ⟨a, b, c⟩ := sumK_pos (l := l) (k := k) fun x hx => h x (List.mem_cons_of_mem _ hx)
    have hq := h q List.mem_cons_self
    by_cases e : q.2 = k
    · have s : sumK (q :: l) k = q.1 + sumK l k := by
        unfold sumK
        rw [List.filter_cons, if_pos (by simp [e]), List.map_cons, List.sum_cons]
      refine ⟨fun _ => by omega, by omega, fun n => ?_⟩
      exact absurd (show k ∈ (q :: l).map (·.2) by rw [List.map_cons, e]; exact List.mem_cons_self) n
    · have s : sumK (q :: l) k = sumK l k := by
        unfold sumK
        rw [List.filter_cons, if_neg (by simp [e])]
      rw [s]
      refine ⟨fun m => ?_, b, fun n => ?_⟩
      · rw [List.map_cons] at m
        rcases List.mem_cons.mp m with m | m
        · exact absurd m.symm e
        · exact a m
      · exact c fun m => n (by rw [List.map_cons]; exact List.mem_cons_of_mem _ m)
theorem flat_ok {rs : List Row} {ds : List Nat} (h : ∀ r ∈ rs, RowOk r) : ∀ q ∈ flat rs ds, (1 ≤ q.1 ∧ q.1 ≤ 999) ∧ 1 ≤ q.2 ∧ q.2 ≤ 999 := by
  intro q hq
  obtain ⟨p, hp, hq⟩ := List.mem_flatMap.mp hq
  have r := h _ (zip_at hp).1
  exact ⟨r.pts q (List.mem_of_mem_take hq), r.key q (List.mem_of_mem_take hq)⟩
theorem flat_len {rs : List Row} {ds : List Nat} (h : ∀ r ∈ rs, RowOk r) : (flat rs ds).length ≤ 40 * rs.length := by
  have go : ∀ l : List (Row × Nat), (∀ p ∈ l, RowOk p.1) → (l.flatMap fun p => p.1.take p.2).length ≤ 40 * l.length := by
    intro l
    induction l with
    | nil => intro _; simp
    | cons p l ih =>
      intro hl
      rw [List.flatMap_cons, List.length_append, List.length_take, List.length_cons]
      have a := (hl p List.mem_cons_self).len
      have b := ih fun q hq => hl q (List.mem_cons_of_mem _ hq)
      omega
  have z := go (rs.zip ds) fun p hp => h _ (zip_at hp).1
  rw [List.length_zip] at z
  exact Nat.le_trans z (Nat.mul_le_mul_left _ (Nat.min_le_left _ _))
theorem low_read {rs : List Row} {ds : List Nat} (h : ∀ r ∈ rs, RowOk r) (k : Int) : (isRead rs ds k → 1 ≤ lowS rs ds k) ∧ 0 ≤ lowS rs ds k ∧ (¬ isRead rs ds k → lowS rs ds k = 0) := by
  rw [← flat_sum]
  exact sumK_pos fun q hq => (flat_ok h q hq).1.1
theorem read_key {rs : List Row} {ds : List Nat} (h : ∀ r ∈ rs, RowOk r) {k : Int} (hk : isRead rs ds k) : 1 ≤ k ∧ k ≤ 999 := by
  obtain ⟨q, hq, rfl⟩ := List.mem_map.mp hk
  exact (flat_ok h q hq).2
theorem low_le_top {rs : List Row} {ds : List Nat} (h : ∀ r ∈ rs, RowOk r) (ok : DepOk rs ds) (k : Int) : lowS rs ds k ≤ topS rs ds k := by
  obtain ⟨a, b⟩ := total_S h ok k
  exact Int.le_trans a b
/-! ### the order of the keys read -/
def Ahead (rs : List Row) (ds : List Nat) (a b : Int) : Prop := lowS rs ds b < lowS rs ds a ∨ (lowS rs ds a = lowS rs ds b ∧ a < b)
def Beats (rs : List Row) (ds : List Nat) (a b : Int) : Prop := topS rs ds b < lowS rs ds a ∨ (lowS rs ds a = topS rs ds b ∧ a < b)
structure Ord (rs : List Row) (ds : List Nat) (l : List Int) : Prop where
  nd : l.Nodup
  mb : ∀ k, k ∈ l ↔ isRead rs ds k
  srt : l.Pairwise (Ahead rs ds)
theorem Ahead.not {rs : List Row} {ds : List Nat} {a b : Int} (h : Ahead rs ds a b) (k : Ahead rs ds b a) : False := by
  unfold Ahead at h k
  omega
theorem Ord.unique {rs : List Row} {ds : List Nat} {l m : List Int} (h : Ord rs ds l) (k : Ord rs ds m) : l = m := by
  have p : l.Perm m := (List.perm_ext_iff_of_nodup h.nd k.nd).mpr fun x => (h.mb x).trans (k.mb x).symm
  exact List.Perm.eq_of_pairwise (le := Ahead rs ds) (fun a b _ _ h1 h2 => (h1.not h2).elim) h.srt k.srt p
noncomputable section
open Classical
def knownL (rs : List Row) (ds : List Nat) : List Int := ((List.range 1000).map fun n : Nat => (n : Int)).filter fun k => decide (isRead rs ds k)
def ordL (rs : List Row) (ds : List Nat) : List Int := (knownL rs ds).mergeSort fun a b => decide (lowS rs ds b < lowS rs ds a ∨ (lowS rs ds a = lowS rs ds b ∧ a ≤ b))
theorem ord_sort {rs : List Row} {ds : List Nat} {l : List Int} (nd : l.Nodup) (mb : ∀ k, k ∈ l ↔ isRead rs ds k) : Ord rs ds (l.mergeSort fun a b => decide (lowS rs ds b < lowS rs ds a ∨ (lowS rs ds a = lowS rs ds b ∧ a ≤ b))) := by
  have p := List.mergeSort_perm l fun a b => decide (lowS rs ds b < lowS rs ds a ∨ (lowS rs ds a = lowS rs ds b ∧ a ≤ b))
  refine ⟨p.nodup_iff.mpr nd, fun k => p.mem_iff.trans (mb k), ?_⟩
  have s := List.pairwise_mergeSort (le := fun a b => decide (lowS rs ds b < lowS rs ds a ∨ (lowS rs ds a = lowS rs ds b ∧ a ≤ b))) (fun a b c h1 h2 => by
    have h1 := of_decide_eq_true h1
    have h2 := of_decide_eq_true h2
    exact decide_eq_true (by omega)) (fun a b => by rw [Bool.or_eq_true, decide_eq_true_eq, decide_eq_true_eq]; omega) l
  have n : (l.mergeSort fun a b => decide (lowS rs ds b < lowS rs ds a ∨ (lowS rs ds a = lowS rs ds b ∧ a ≤ b))).Pairwise (· ≠ ·) := p.nodup_iff.mpr nd
  refine (s.and n).imp fun {a b} h => ?_
  have h1 := of_decide_eq_true h.1
  have h2 := h.2
  unfold Ahead
  omega
theorem known_ok {rs : List Row} {ds : List Nat} (h : ∀ r ∈ rs, RowOk r) : (knownL rs ds).Nodup ∧ ∀ k, k ∈ knownL rs ds ↔ isRead rs ds k := by
  unfold knownL
  constructor
  · refine List.Nodup.sublist List.filter_sublist ?_
    show List.Pairwise _ _
    rw [List.pairwise_map]
    exact List.nodup_range.imp fun h e => h (by omega)
  · intro k
    rw [List.mem_filter, decide_eq_true_eq]
    constructor
    · exact fun z => z.2
    · intro z
      have b := read_key h z
      exact ⟨List.mem_map.mpr ⟨k.toNat, List.mem_range.mpr (by omega), by omega⟩, z⟩
theorem ordL_ok {rs : List Row} {ds : List Nat} (h : ∀ r ∈ rs, RowOk r) : Ord rs ds (ordL rs ds) := ord_sort (known_ok h).1 (known_ok h).2
/-! ### what is settled -/
structure Good (rs : List Row) (ds : List Nat) (m : Nat) : Prop where
  row : ((ordL rs ds).take m).Pairwise (Beats rs ds)
  few : (ordL rs ds).length < m → ∀ k, 1 ≤ k → k ≤ 999 → ¬ isRead rs ds k → topS rs ds k = 0
  full : m ≤ (ordL rs ds).length → ∀ a ∈ (ordL rs ds).take m, ∀ k, 1 ≤ k → k ≤ 999 → k ∉ (ordL rs ds).take m → Beats rs ds a k
def settledO (rs : List Row) (ds : List Nat) (m : Nat) : Option (List Int) := if Good rs ds m then some ((ordL rs ds).take m) else none
end
theorem Beats.trans {rs : List Row} {ds : List Nat} (h : ∀ r ∈ rs, RowOk r) (ok : DepOk rs ds) {a b c : Int} (x : Beats rs ds a b) (y : Beats rs ds b c) : Beats rs ds a c := by
  have z := low_le_top h ok b
  unfold Beats at *
  omega
structure DepLe (ds es : List Nat) : Prop where
  len : ds.length = es.length
  le : ∀ (i d e : Nat), ds[i]? = some d → es[i]? = some e → d ≤ e
theorem more1 {r : Row} (h : RowOk r) (k : Int) : ∀ (n d : Nat), d + n ≤ r.length → low1 r d k ≤ low1 r (d + n) k ∧ top1 r (d + n) k ≤ top1 r d k := by
  intro n
  induction n with
  | zero => intro d _; exact ⟨Int.le_refl _, Int.le_refl _⟩
  | succ n ih =>
    intro d hd
    obtain ⟨a, b⟩ := ih d (by omega)
    obtain ⟨c, e⟩ := step1 h (d := d + n) (by omega) k
    exact ⟨Int.le_trans a c, Int.le_trans e b⟩
theorem deeper_S {rs : List Row} {ds es : List Nat} (h : ∀ r ∈ rs, RowOk r) (ok : DepOk rs es) (le : DepLe ds es) (k : Int) : lowS rs ds k ≤ lowS rs es k ∧ topS rs es k ≤ topS rs ds k := by
  constructor
  · exact sums_le (f := fun r d => low1 r d k) (g := fun r d => low1 r d k) le.len fun i r d e h1 h2 h3 => by
      have a := le.le i d e h2 h3
      have b := ok.le i r e h1 h3
      have c := (more1 (h r (List.mem_of_getElem? h1)) k (e - d) d (by omega)).1
      rw [show d + (e - d) = e by omega] at c
      exact c
  · exact sums_le (f := fun r d => top1 r d k) (g := fun r d => top1 r d k) le.len.symm fun i r e d h1 h3 h2 => by
      have a := le.le i d e h2 h3
      have b := ok.le i r e h1 h3
      have c := (more1 (h r (List.mem_of_getElem? h1)) k (e - d) d (by omega)).2
      rw [show d + (e - d) = e by omega] at c
      exact c
theorem read_more {rs : List Row} {ds es : List Nat} (le : DepLe ds es) {k : Int} (hk : isRead rs ds k) : isRead rs es k := by
  rw [read_at] at hk ⊢
  obtain ⟨⟨r, d⟩, hp, hk⟩ := hk
  obtain ⟨i, hi⟩ := List.getElem?_of_mem hp
  obtain ⟨h1, h2⟩ := List.getElem?_zip_eq_some.mp hi
  have hl := (List.getElem?_eq_some_iff.mp h2).1
  have h3 : es[i]? = some (es[i]'(by rw [← le.len]; exact hl)) := List.getElem?_eq_getElem _
  have a := le.le i _ _ h2 h3
  refine ⟨(r, es[i]'(by rw [← le.len]; exact hl)), List.mem_of_getElem? (List.getElem?_zip_eq_some.mpr ⟨h1, h3⟩), ?_⟩
  obtain ⟨q, hq, e⟩ := List.mem_map.mp hk
  have sub : (r.take d).Sublist (r.take (es[i]'(by rw [← le.len]; exact hl))) := by
    rw [show r.take d = (r.take (es[i]'(by rw [← le.len]; exact hl))).take d by rw [List.take_take, Nat.min_eq_left a]]
    exact List.take_sublist _ _
  exact List.mem_map.mpr ⟨q, sub.subset hq, e⟩
theorem Beats.deeper {rs : List Row} {ds es : List Nat} (h : ∀ r ∈ rs, RowOk r) (ok : DepOk rs es) (le : DepLe ds es) {a b : Int} (x : Beats rs ds a b) : Beats rs es a b := by
  have z1 := deeper_S h ok le a
  have z2 := deeper_S h ok le b
  unfold Beats at *
  omega
theorem Beats.ahead {rs : List Row} {ds : List Nat} (h : ∀ r ∈ rs, RowOk r) (ok : DepOk rs ds) {a b : Int} (x : Beats rs ds a b) : Ahead rs ds a b := by
  have z := low_le_top h ok b
  unfold Beats at x
  unfold Ahead
  omega
theorem take_all {l : List Int} {m : Nat} (h : l.length < m) : l.take m = l := List.take_of_length_le (by omega)
/-- the chosen keys at greater depths -/
theorem good_deeper {rs : List Row} {ds es : List Nat} {m : Nat} (h : ∀ r ∈ rs, RowOk r) (ok : DepOk rs ds) (ok2 : DepOk rs es) (le : DepLe ds es) (g : Good rs ds m) : Good rs es m ∧ (ordL rs es).take m = (ordL rs ds).take m := by
  have o1 := ordL_ok (ds := ds) h
  have o2 := ordL_ok (ds := es) h
  have rowB : ((ordL rs ds).take m).Pairwise (Beats rs es) := g.row.imp fun x => x.deeper h ok2 le
  by_cases few : (ordL rs ds).length < m
  · have zero := g.few few
    rw [take_all few] at rowB ⊢
    have same : ∀ k, isRead rs es k ↔ isRead rs ds k := by
      intro k
      constructor
      · intro hk
        refine Classical.byContradiction fun no => ?_
        have b := read_key h hk
        have z0 := zero k b.1 b.2 no
        have z1 := (low_read (ds := es) h k).1 hk
        have z2 := low_le_top h ok2 k
        have z3 := (deeper_S h ok2 le k).2
        omega
      · exact read_more le
    have o3 : Ord rs es (ordL rs ds) := ⟨o1.nd, fun k => (o1.mb k).trans (same k).symm, rowB.imp fun x => x.ahead h ok2⟩
    have e := o2.unique o3
    rw [e, take_all few]
    refine ⟨⟨by rw [e, take_all few]; exact rowB, fun _ k k1 k9 no => ?_, fun z => ?_⟩, rfl⟩
    · have no1 : ¬ isRead rs ds k := fun x => no ((same k).mpr x)
      have z0 := zero k k1 k9 no1
      have z1 := (deeper_S h ok2 le k).2
      have z2 := (low_read (ds := es) h k).2.1
      have z3 := low_le_top h ok2 k
      omega
    · rw [e] at z
      omega
  · have full := g.full (by omega)
    have lc : ((ordL rs ds).take m).length = m := by rw [List.length_take]; omega
    generalize hC : (ordL rs ds).take m = C at rowB full lc ⊢
    have inC : ∀ k ∈ C, isRead rs es k := fun k hk => read_more le ((o1.mb k).mp (List.mem_of_mem_take (by rw [hC]; exact hk)))
    have ndC : C.Nodup := by rw [← hC]; exact o1.nd.sublist (List.take_sublist _ _)
    have o3 : Ord rs es (C ++ (ordL rs es).filter fun k => decide (k ∉ C)) := by
      refine ⟨?_, fun k => ?_, ?_⟩
      · rw [List.nodup_append]
        refine ⟨ndC, o2.nd.sublist List.filter_sublist, fun a ha b hb e => ?_⟩
        have z := of_decide_eq_true (List.mem_filter.mp hb).2
        exact z (e ▸ ha)
      · rw [List.mem_append, List.mem_filter]
        constructor
        · rintro (z | z)
          · exact inC k z
          · exact (o2.mb k).mp z.1
        · intro z
          by_cases c : k ∈ C
          · exact .inl c
          · exact .inr ⟨(o2.mb k).mpr z, decide_eq_true c⟩
      · rw [List.pairwise_append]
        refine ⟨rowB.imp fun x => x.ahead h ok2, o2.srt.sublist List.filter_sublist, fun a ha b hb => ?_⟩
        obtain ⟨hb1, hb2⟩ := List.mem_filter.mp hb
        have kb := read_key h ((o2.mb b).mp hb1)
        exact ((full a ha b kb.1 kb.2 (of_decide_eq_true hb2)).deeper h ok2 le).ahead h ok2
    have e := o2.unique o3
    have et : (ordL rs es).take m = C := by
      rw [e, List.take_append_of_le_length (by omega), List.take_of_length_le (by omega)]
    refine ⟨⟨by rw [et]; exact rowB, fun z => ?_, fun _ a ha k k1 k9 hk => ?_⟩, et⟩
    · have : C.length ≤ (ordL rs es).length := by rw [e, List.length_append]; omega
      omega
    · rw [et] at ha hk
      exact (full a ha k k1 k9 hk).deeper h ok2 le
theorem good_end {rs : List Row} {m : Nat} (h : ∀ r ∈ rs, RowOk r) : Good rs (ends rs) m := by
  have o := ordL_ok (ds := ends rs) h
  have same : ∀ k, topS rs (ends rs) k = lowS rs (ends rs) k := fun k => ends_same h k
  have ab : ∀ a b, Ahead rs (ends rs) a b → Beats rs (ends rs) a b := fun a b x => by
    unfold Ahead at x
    unfold Beats
    rw [same b]
    exact x
  refine ⟨(o.srt.sublist (List.take_sublist _ _)).imp fun x => ab _ _ x, fun _ k k1 k9 no => by rw [same]; exact (low_read h k).2.2 no, fun _ a ha k k1 k9 hk => ?_⟩
  have ra := (o.mb a).mp (List.mem_of_mem_take ha)
  by_cases rk : isRead rs (ends rs) k
  · have hk2 := (o.mb k).mpr rk
    have z : k ∈ (ordL rs (ends rs)).drop m := by
      rw [← List.take_append_drop m (ordL rs (ends rs))] at hk2
      exact (List.mem_append.mp hk2).resolve_left hk
    have s := o.srt
    rw [← List.take_append_drop m (ordL rs (ends rs)), List.pairwise_append] at s
    exact ab _ _ (s.2.2 a ha k z)
  · have z1 := (low_read (ds := ends rs) h k).2.2 rk
    have z2 := (low_read (ds := ends rs) h a).1 ra
    unfold Beats
    rw [same k]
    omega
theorem dep_le_end {rs : List Row} {ds : List Nat} (ok : DepOk rs ds) : DepLe ds (ends rs) := by
  refine ⟨by rw [ok.len, (ends_ok rs).len], fun i d e h1 h2 => ?_⟩
  have l := (List.getElem?_eq_some_iff.mp h1).1
  have h3 : rs[i]? = some (rs[i]'(by rw [← ok.len]; exact l)) := List.getElem?_eq_getElem _
  rw [ends_get h3 h2]
  exact ok.le i _ d h3 h1
noncomputable def bestL (rs : List Row) (m : Nat) : List Int := (ordL rs (ends rs)).take m
theorem settled_end {rs : List Row} {m : Nat} (h : ∀ r ∈ rs, RowOk r) : settledO rs (ends rs) m = some (bestL rs m) := by
  unfold settledO
  rw [if_pos (good_end h)]
  rfl
theorem settled_deeper {rs : List Row} {ds es : List Nat} {m : Nat} {l : List Int} (h : ∀ r ∈ rs, RowOk r) (ok : DepOk rs ds) (ok2 : DepOk rs es) (le : DepLe ds es) (s : settledO rs ds m = some l) : settledO rs es m = some l := by
  unfold settledO at s ⊢
  by_cases g : Good rs ds m
  · rw [if_pos g] at s
    obtain ⟨g2, e⟩ := good_deeper h ok ok2 le g
    rw [if_pos g2, e]
    exact s
  · rw [if_neg g] at s
    cases s
theorem settled_best {rs : List Row} {ds : List Nat} {m : Nat} {l : List Int} (h : ∀ r ∈ rs, RowOk r) (ok : DepOk rs ds) (s : settledO rs ds m = some l) : l = bestL rs m := by
  have z := settled_deeper h ok (ends_ok rs) (dep_le_end ok) s
  rw [settled_end h] at z
  exact (Option.some.inj z).symm
/-! ### strangers -/
/-- some keys that stand for all that have not been read -/
structure Strg (rs : List Row) (ds : List Nat) (S : List Int) : Prop where
  in1 : ∀ s ∈ S, 1 ≤ s ∧ s ≤ 999 ∧ ¬ isRead rs ds s
  all : ∀ k, 1 ≤ k → k ≤ 999 → ¬ isRead rs ds k → ∃ s ∈ S, s ≤ k ∧ topS rs ds s = topS rs ds k
theorem Strg.zero {rs : List Row} {ds : List Nat} {S : List Int} (h : Strg rs ds S) : (∀ s ∈ S, topS rs ds s = 0) ↔ ∀ k, 1 ≤ k → k ≤ 999 → ¬ isRead rs ds k → topS rs ds k = 0 := by
  constructor
  · intro z k k1 k9 no
    obtain ⟨s, hs, _, e⟩ := h.all k k1 k9 no
    rw [← e]
    exact z s hs
  · intro z s hs
    obtain ⟨a, b, c⟩ := h.in1 s hs
    exact z s a b c
theorem Strg.beats {rs : List Row} {ds : List Nat} {S : List Int} (h : Strg rs ds S) (a : Int) : (∀ s ∈ S, Beats rs ds a s) ↔ ∀ k, 1 ≤ k → k ≤ 999 → ¬ isRead rs ds k → Beats rs ds a k := by
  constructor
  · intro z k k1 k9 no
    obtain ⟨s, hs, le, e⟩ := h.all k k1 k9 no
    have b := z s hs
    unfold Beats at b ⊢
    omega
  · intro z s hs
    obtain ⟨a', b, c⟩ := h.in1 s hs
    exact z s a' b c
/-- a key and a lesser one between the same last keys -/
theorem same_top {rs : List Row} {ds : List Nat} {s k : Int} (h : ∀ p ∈ rs.zip ds, 0 < p.2 → ∀ q, p.1[p.2 - 1]? = some q → (q.2 < s ↔ q.2 < k)) (ns : ¬ isRead rs ds s) (nk : ¬ isRead rs ds k) : topS rs ds s = topS rs ds k := by
  unfold topS topL
  congr 1
  apply List.map_congr_left
  intro p hp
  have none_of : ∀ j, ¬ isRead rs ds j → rd p.1 p.2 j = [] := by
    intro j nj
    unfold rd
    rw [List.map_eq_nil_iff, List.filter_eq_nil_iff]
    intro q hq z
    exact nj (read_at.mpr ⟨p, hp, List.mem_map.mpr ⟨q, hq, of_decide_eq_true z⟩⟩)
  show top1 p.1 p.2 s = top1 p.1 p.2 k
  unfold top1
  rw [none_of s ns, none_of k nk]
  show bound p.1 p.2 s = bound p.1 p.2 k
  unfold bound
  by_cases c : p.2 = p.1.length
  · rw [if_pos c, if_pos c]
  · rw [if_neg c, if_neg c]
    cases e : p.1[p.2 - 1]? with
    | none => rfl
    | some q =>
      by_cases z : p.2 = 0
      · simp [z]
      · have y := h p hp (by omega) q e
        by_cases y1 : q.2 < s
        · simp [z, y1, y.mp y1]
        · have y2 : ¬ q.2 < k := fun w => y1 (y.mpr w)
          simp [z, y1, y2]
/-- the last keys read -/
def lasts (rs : List Row) (ds : List Nat) : List Int := (rs.zip ds).filterMap fun p => if 0 < p.2 then (p.1[p.2 - 1]?).map (·.2) else none
theorem lasts_at {rs : List Row} {ds : List Nat} {p : Row × Nat} (hp : p ∈ rs.zip ds) (h0 : 0 < p.2) {q : Int × Int} (hq : p.1[p.2 - 1]? = some q) : q.2 ∈ lasts rs ds := by
  unfold lasts
  rw [List.mem_filterMap]
  exact ⟨p, hp, by rw [if_pos h0, hq]; rfl⟩
/-- the greatest of some numbers not above k -/
theorem great_below : ∀ (l : List Int) (k : Int), (∃ t ∈ l, t ≤ k) → ∃ t ∈ l, t ≤ k ∧ ∀ u ∈ l, u ≤ k → u ≤ t
  | [], _, h => by obtain ⟨t, ht, _⟩ := h; cases ht
  | a :: l, k, h => by
    by_cases c : ∃ t ∈ l, t ≤ k
    · obtain ⟨t, ht, h1, h2⟩ := great_below l k c
      by_cases d : a ≤ k ∧ t < a
      · refine ⟨a, List.mem_cons_self, d.1, fun u hu h3 => ?_⟩
        rcases List.mem_cons.mp hu with rfl | hu
        · exact Int.le_refl _
        · have := h2 u hu h3
          omega
      · refine ⟨t, List.mem_cons_of_mem _ ht, h1, fun u hu h3 => ?_⟩
        rcases List.mem_cons.mp hu with rfl | hu
        · omega
        · exact h2 u hu h3
    · obtain ⟨t, ht, h1⟩ := h
      rcases List.mem_cons.mp ht with rfl | ht
      · refine ⟨t, List.mem_cons_self, h1, fun u hu h3 => ?_⟩
        rcases List.mem_cons.mp hu with rfl | hu
        · exact Int.le_refl _
        · exact absurd ⟨u, hu, h3⟩ c
      · exact absurd ⟨t, ht, h1⟩ c
/-- S: for each turn below a key that has not been read, the least such key from it on -/
theorem str_of {rs : List Row} {ds : List Nat} (h : ∀ r ∈ rs, RowOk r) {S : List Int} (in1 : ∀ s ∈ S, 1 ≤ s ∧ s ≤ 999 ∧ ¬ isRead rs ds s)
    (each : ∀ t, (t = 1 ∨ t - 1 ∈ lasts rs ds) → ∀ k, t ≤ k → k ≤ 999 → ¬ isRead rs ds k → (∀ u ∈ lasts rs ds, u + 1 ≤ k → u + 1 ≤ t) → ∃ s ∈ S, t ≤ s ∧ s ≤ k) : Strg rs ds S := by
  refine ⟨in1, fun k k1 k9 no => ?_⟩
  obtain ⟨t, ht, tk, gr⟩ := great_below (1 :: (lasts rs ds).map (· + 1)) k ⟨1, List.mem_cons_self, k1⟩
  obtain ⟨s, hs, ts, sk⟩ := each t (by
    rcases List.mem_cons.mp ht with z | z
    · exact .inl z
    · obtain ⟨u, hu, e⟩ := List.mem_map.mp z
      right
      rw [show t - 1 = u by omega]
      exact hu) k tk k9 no fun u hu h1 => gr (u + 1) (List.mem_cons_of_mem _ (List.mem_map.mpr ⟨u, hu, rfl⟩)) h1
  refine ⟨s, hs, sk, same_top (fun p hp h0 q hq => ?_) (in1 s hs).2.2 no⟩
  have m := lasts_at hp h0 hq
  constructor
  · intro z
    omega
  · intro z
    have := gr (q.2 + 1) (List.mem_cons_of_mem _ (List.mem_map.mpr ⟨q.2, m, rfl⟩)) (by omega)
    omega
end K71
set_option pp.maxSteps 1200
namespace K71
open PySem PySem.Spec PyProof.Rows L2 RZ
theorem of_same {Q : VK} {c d : Bool} {H : Hp} (h : Q (.bl c) H) (e : d = c) : Q (.bl d) H := by rw [e]; exact h
/-! ### dicts of sums -/
def putR (t : Row) (k v : Int) : Row := if k ∈ t.map (·.2) then t.map (fun q => if q.2 = k then (v, k) else q) else t ++ [(v, k)]
theorem dz_put (t : Row) (k v : Int) : putK (dz t) (Sum.inl k) (V.int v) = dz (putR t k v) := by
  have e0 : ((dz t).any fun kv => decide (kv.1 = Sum.inl k)) = decide (k ∈ t.map (·.2)) := by rw [valV_any, dz_in]
  unfold putK putR
  rw [e0]
  by_cases c : k ∈ t.map (·.2)
  · rw [decide_eq_true c, if_pos rfl, if_pos c]
    unfold dz
    rw [List.map_map, List.map_map]
    apply List.map_congr_left
    intro q hq
    show (if (Sum.inl q.2 : Key) = Sum.inl k then ((Sum.inl q.2 : Key), V.int v) else (Sum.inl q.2, V.int q.1)) = (Sum.inl (if q.2 = k then (v, k) else q).2, V.int (if q.2 = k then (v, k) else q).1)
    by_cases e : q.2 = k
    · rw [if_pos (by rw [e]), if_pos e, e]
    · rw [if_neg (fun z => e (Sum.inl.inj z)), if_neg e]
  · rw [decide_eq_false c, if_neg (by decide), if_neg c]
    unfold dz
    rw [List.map_append]
    rfl
theorem putR_mem {t : Row} {k v : Int} {q : Int × Int} (h : q ∈ putR t k v) : q = (v, k) ∨ (q ∈ t ∧ q.2 ≠ k) := by
  unfold putR at h
  by_cases c : k ∈ t.map (·.2)
  · rw [if_pos c] at h
    obtain ⟨a, ha, rfl⟩ := List.mem_map.mp h
    by_cases e : a.2 = k
    · rw [if_pos e]; exact .inl rfl
    · rw [if_neg e]; exact .inr ⟨ha, e⟩
  · rw [if_neg c] at h
    rcases List.mem_append.mp h with h | h
    · exact .inr ⟨h, fun e => c (e ▸ List.mem_map_of_mem h)⟩
    · exact .inl (List.mem_singleton.mp h)
theorem putR_keys (t : Row) (k v : Int) : (putR t k v).map (·.2) = if k ∈ t.map (·.2) then t.map (·.2) else t.map (·.2) ++ [k] := by
  unfold putR
  by_cases c : k ∈ t.map (·.2)
  · rw [if_pos c, if_pos c, List.map_map]
    apply List.map_congr_left
    intro q hq
    show (if q.2 = k then (v, k) else q).2 = q.2
    by_cases e : q.2 = k
    · rw [if_pos e, e]
    · rw [if_neg e]
  · rw [if_neg c, if_neg c, List.map_append]
    rfl
/-- t holds for each key of L the sum of its points -/
structure Tot (t L : Row) : Prop where
  nod : (t.map (·.2)).Nodup
  key : ∀ k, k ∈ t.map (·.2) ↔ k ∈ L.map (·.2)
  sum : ∀ q ∈ t, q.1 = sumK L q.2
  len : t.length ≤ L.length
theorem Tot.nil : Tot [] [] := ⟨.nil, fun k => Iff.rfl, (fun q h => by cases h), Nat.le_refl _⟩
theorem sumK_one (p k j : Int) : sumK [(p, k)] j = if k = j then p else 0 := by
  unfold sumK
  by_cases c : k = j <;> simp [List.filter_cons, c]
theorem sumK_none {L : Row} {k : Int} (h : k ∉ L.map (·.2)) : sumK L k = 0 := by
  unfold sumK
  have : (L.filter fun q => decide (q.2 = k)) = [] := by
    rw [List.filter_eq_nil_iff]
    intro q hq z
    exact h (by rw [← of_decide_eq_true z]; exact List.mem_map_of_mem hq)
  rw [this]
  rfl
theorem Tot.put {t L : Row} (h : Tot t L) (k p : Int) : Tot (putR t k (sumK L k + p)) (L ++ [(p, k)]) := by
  refine ⟨?_, fun j => ?_, fun q hq => ?_, ?_⟩
  · rw [putR_keys]
    by_cases c : k ∈ t.map (·.2)
    · rw [if_pos c]; exact h.nod
    · rw [if_neg c, List.nodup_append]
      refine ⟨h.nod, by simp, fun a ha b hb e => ?_⟩
      rw [List.mem_singleton] at hb
      exact c (by rw [← hb, ← e]; exact ha)
  · rw [putR_keys, List.map_append, List.mem_append]
    by_cases c : k ∈ t.map (·.2)
    · rw [if_pos c, h.key j]
      constructor
      · exact .inl
      · rintro (z | z)
        · exact z
        · have e : j = k := by simpa using z
          rw [e]
          exact (h.key k).mp c
    · rw [if_neg c, List.mem_append, h.key j]
      rfl
  · rw [sumK_app, sumK_one]
    rcases putR_mem hq with rfl | ⟨hq, ne⟩
    · show sumK L k + p = sumK L k + if k = k then p else 0
      rw [if_pos rfl]
    · rw [if_neg (fun z => ne z.symm), Int.add_zero]
      exact h.sum q hq
  · unfold putR
    rw [List.length_append]
    by_cases c : k ∈ t.map (·.2)
    · rw [if_pos c, List.length_map]
      exact Nat.le_trans h.len (Nat.le_add_right _ _)
    · rw [if_neg c, List.length_append]
      exact Nat.add_le_add h.len (Nat.le_refl _)
theorem Tot.get {t L : Row} (h : Tot t L) (k : Int) : ∃ o : Option V, valV (dz t) (Sum.inl k) = o ∧ o.getD (.int 0) = .int (sumK L k) := by
  refine ⟨_, rfl, ?_⟩
  by_cases c : k ∈ t.map (·.2)
  · obtain ⟨q, hq, rfl⟩ := List.mem_map.mp c
    rw [dz_get h.nod hq, ← h.sum q hq]
    rfl
  · have z := dz_in k t
    rw [decide_eq_false c] at z
    rw [sumK_none (fun m => c ((h.key k).mpr m))]
    cases e : valV (dz t) (Sum.inl k) with
    | none => rfl
    | some x => rw [e] at z; cases z
theorem flat_ends (rs : List Row) : flat rs (ends rs) = rs.flatten := by
  unfold flat ends
  induction rs with
  | nil => rfl
  | cons r rs ih =>
    rw [List.map_cons, List.zip_cons_cons, List.flatMap_cons, ih, List.flatten_cons]
    show r.take r.length ++ _ = _
    rw [List.take_length]
theorem flatten_next {rs : List Row} {i : Nat} {r : Row} (h : rs[i]? = some r) : (rs.take (i + 1)).flatten = (rs.take i).flatten ++ r := by
  rw [List.take_add_one, h, List.flatten_append]
  simp
theorem flatten_len {rs : List Row} (h : ∀ r ∈ rs, RowOk r) : ∀ i, (rs.take i).flatten.length ≤ 40 * i := by
  intro i
  induction i with
  | zero => simp
  | succ i ih =>
    by_cases c : i < rs.length
    · have e : rs[i]? = some rs[i] := List.getElem?_eq_getElem c
      rw [flatten_next e, List.length_append]
      have := (h _ (List.getElem_mem c)).len
      omega
    · rw [show rs.take (i + 1) = rs.take i by rw [List.take_of_length_le (by omega), List.take_of_length_le (by omega)]]
      omega
/-! ### sorted by the sums, falling, then by the keys -/
def negD (q : Int × Int) : PyData := .tuple [.int (-q.1), .int q.2]
theorem neg_imm (q : Int × Int) : imm (negD q) = true := rfl
def leN (p q : V × (Int × Int)) : Bool := decide (q.2.1 < p.2.1 ∨ (p.2.1 = q.2.1 ∧ p.2.2 ≤ q.2.2))
theorem sort_neg (ps : List (V × (Int × Int))) : (ps.map fun p => (p.1, negD p.2)).mergeSort leD = (ps.mergeSort leN).map fun p => (p.1, negD p.2) := by
  refine (List.map_mergeSort fun a ha b hb => ?_).symm
  show leN a b = !PySem.W.dataLt (negD b.2) (negD a.2)
  unfold negD leN
  rw [PySem.W.dataLt_ii]
  by_cases h : -b.2.1 < -a.2.1 ∨ (-b.2.1 = -a.2.1 ∧ b.2.2 < a.2.2)
  · rw [decide_eq_true h, decide_eq_false (by omega)]
    rfl
  · rw [decide_eq_false h, decide_eq_true (by omega)]
    rfl
theorem neg_alike {α : Type} {l : List (α × (Int × Int))} : PySem.W.AllAlike (l.map fun p => negD p.2) := by
  intro d1 h1 d2 h2
  obtain ⟨a1, _, rfl⟩ := List.mem_map.mp h1
  obtain ⟨a2, _, rfl⟩ := List.mem_map.mp h2
  simp [negD, PySem.W.alike, PySem.W.alikeAll]
theorem ord_neg {rs : List Row} {ds : List Nat} {ps : List (V × (Int × Int))} {t : Row} (e : ps.map (·.2) = t) (tot : Tot t (flat rs ds)) (h : ∀ r ∈ rs, RowOk r) : (ps.mergeSort leN).map (fun p => p.2.2) = ordL rs ds := by
  have perm := List.mergeSort_perm ps leN
  have keys : ps.map (fun p => p.2.2) = t.map (·.2) := by rw [← e, List.map_map]; rfl
  have pk : ((ps.mergeSort leN).map fun p => p.2.2).Perm (t.map (·.2)) := by rw [← keys]; exact perm.map _
  have low : ∀ p ∈ ps.mergeSort leN, p.2.1 = lowS rs ds p.2.2 := fun p hp => by
    rw [← flat_sum]
    refine tot.sum p.2 ?_
    rw [← e]
    exact List.mem_map_of_mem (perm.mem_iff.mp hp)
  refine Ord.unique (rs := rs) (ds := ds) ⟨pk.nodup_iff.mpr tot.nod, fun k => pk.mem_iff.trans (tot.key k), ?_⟩ (ordL_ok h)
  have s := List.pairwise_mergeSort (le := leN) (fun a b c h1 h2 => by
    unfold leN at *
    have h1 := of_decide_eq_true h1
    have h2 := of_decide_eq_true h2
    exact decide_eq_true (by omega)) (fun a b => by
    unfold leN
    rw [Bool.or_eq_true, decide_eq_true_eq, decide_eq_true_eq]
    omega) ps
  have n : (ps.mergeSort leN).Pairwise fun a b => a.2.2 ≠ b.2.2 := List.pairwise_map.mp (pk.nodup_iff.mpr tot.nod)
  rw [List.pairwise_map]
  refine (s.and n).imp_of_mem fun {a b} ha hb x => ?_
  have x1 := of_decide_eq_true x.1
  have x2 := x.2
  rw [low a ha, low b hb] at x1
  unfold Ahead
  omega
def keysD (l : List Int) : PyData := .tuple (l.map .int)
theorem keys_imm (l : List Int) : imm (keysD l) = true := by unfold keysD; simp only [imm]; exact immAll_map (fun _ => rfl) l
theorem dpAll_ints {K : PySem.W.Frag} {H : Hp} : ∀ l : List Int, DpAll K H (l.map V.int) (l.map .int)
  | [] => .nil
  | d :: ds => .cons (.int _) (dpAll_ints ds)
def spMany : Sp := fun vs H Q _ => ∃ m : Nat, vs = [.int (m : Int)] ∧ 1 ≤ m ∧ m ≤ 40 ∧ Q .non H
def spTotals (K : PySem.W.Frag) : Sp := fun vs H Q _ => ∃ (v : V) (rs : List Row), vs = [v] ∧ Dp K H v (rowsD rs) ∧ (∀ r ∈ rs, RowOk r) ∧ rs.length ≤ 4 ∧ ∀ H' d t, Same H H' → H' d = some (.dK (dz t)) → Tot t (flat rs (ends rs)) → Q (.ref d) H'
def spBest (K : PySem.W.Frag) : Sp := fun vs H Q _ => ∃ (v : V) (rs : List Row) (m : Nat), vs = [v, .int (m : Int)] ∧ Dp K H v (rowsD rs) ∧ (∀ r ∈ rs, RowOk r) ∧ 1 ≤ rs.length ∧ rs.length ≤ 4 ∧ 1 ≤ m ∧ m ≤ 40 ∧ ∀ H' p, Same H H' → Dp K H' (.ref p) (keysD (bestL rs m)) → Q (.ref p) H'
def spBeats (K : PySem.W.Frag) : Sp := fun vs H Q _ => ∃ (a b : Addr) (i j l1 t1 l2 t2 : Int), vs = [.int i, .ref a, .int j, .ref b] ∧ SqT K H a [.int l1, .int t1] ∧ SqT K H b [.int l2, .int t2] ∧ Q (.bl (decide (t2 < l1 ∨ (l1 = t2 ∧ i < j)))) H
section
variable {P : Program} {w : World} {K : PySem.W.Frag} {mg : Str → Option Value} {base : Heap}
theorem ok_check_many (T : Txt P K mg) : FnOk P w K mg base CX0 4 T.f_check_many T.d_check_many ["value"] spMany := by
  refine T.F_check_many.ok sc_check_many (fun vs H Q E h => by obtain ⟨i, rfl, _⟩ := h; rfl) (fun cdv A outer s H vs Q E hr h => ⟨_, (pss_one (ps_expr (pe_call (ok_check_number T) (hr.mono (by omega)) rfl T.g_check_number T.F_check_number.kp T.b_check_number .nil pass0 (pa_cons (pv 0) (pa_cons pe_int (pa_cons (pe_glob (v := .int (40)) rfl T.g_MOST_ROWS ⟨_, rfl⟩) pa_nil)))))), ?_⟩)
  obtain ⟨i, rfl, h1, h2, q⟩ := h
  exact ⟨_, rfl, i, 1, 40, rfl, by omega, by omega, q⟩
theorem ok_beats (T : Txt P K mg) : FnOk P w K mg base CX0 1 T.f_beats T.d_beats ["one", "sums", "two", "others"] (spBeats K) := by
  refine T.F_beats.ok sc_beats (fun vs H Q E h => by obtain ⟨_, _, _, _, _, _, _, _, rfl, _⟩ := h; rfl) (fun cdv A outer s H vs Q E hr h => ⟨_, (pss_one (ps_ret (pe_or (pe_cmpR op_gt (pe_ix ix_tup (pv 1) pe_int (fun _ _ => rfl)) (pe_ix ix_tup (pv 3) pe_int (fun _ _ => rfl)) (nomark _)) (pe_one (pe_and (pe_cmpR op_eq (pe_ix ix_tup (pv 1) pe_int (fun _ _ => rfl)) (pe_ix ix_tup (pv 3) pe_int (fun _ _ => rfl)) (nomark _)) (pe_one (pe_cmpR op_lt (pv 0) (pv 2) (nomark _)))))))), ?_⟩)
  obtain ⟨a, b, i, j, l1, t1, l2, t2, rfl, ha, hb, q⟩ := h
  refine ⟨_, rfl, a, _, _, _, rfl, rfl, ha, rfl, _, rfl, b, _, _, _, rfl, rfl, hb, rfl, _, _, rfl, rfl, _, rfl, ?_⟩
  by_cases c : t2 < l1
  · refine iteB (decide_eq_true c) ?_
    rw [decide_eq_true (.inl c)] at q
    exact q
  · refine iteB' (decide_eq_false c) ?_
    refine ⟨_, rfl, a, _, _, _, rfl, rfl, ha, rfl, _, rfl, b, _, _, _, rfl, rfl, hb, rfl, rfl, _, rfl, ?_⟩
    by_cases e : l1 = t2
    · refine iteB (by simp [e]) ⟨_, rfl, _, rfl, _, _, rfl, rfl, of_same q ?_⟩
      rw [decide_eq_decide]
      omega
    · refine iteB' (by simp [e]) (of_decF (Q := Q) ?_ (by simp [e]))
      rw [decide_eq_false (by omega)] at q
      exact q
end
end K71
set_option pp.maxSteps 1200
namespace K71
open PySem PySem.Spec PyProof.Rows L2 RZ
/-- the turns of a walk, by an invariant -/
theorem it_by {J : It} {n : Nat} {G : Hp → Prop} {Y : Nat → Hp → V → Hp → Prop} (w : Walk J n G Y) {B : (Hp → Prop) → V → Hp → Prop} {E : Hp → Prop} {H0 : Hp} (Pv : Nat → Hp → Prop) (h0 : Pv 0 H0) (hG : ∀ i H, i ≤ n → Pv i H → G H)
    (hs : ∀ i x H H', i < n → Pv i H → Y i H x H' → B (Pv (i + 1)) x H') (hd : ∀ H, Pv n H → E H) :
    ∃ W : Nat → Nat → Hp → Prop, (∃ m, W 0 m H0) ∧ ∀ i m H, W i m H → (J.stop i H ∧ E H) ∨ (J.go i H ∧ ∃ Nx : Hp → Prop, (∀ H', Nx H' → ∃ m', m' < m ∧ W (i + 1) m' H') ∧ ∀ x H', J.yld i H x H' → B Nx x H') := by
  refine ⟨fun i m H => m = n - i ∧ i ≤ n ∧ Pv i H, ⟨n, rfl, Nat.zero_le _, h0⟩, ?_⟩
  rintro i m H ⟨rfl, hi, p⟩
  have g := hG i H hi p
  by_cases lt : i < n
  · exact .inr ⟨w.goes i H lt g, Pv (i + 1), fun H' p' => ⟨n - (i + 1), by omega, rfl, lt, p'⟩, fun x H' y => hs i x H H' lt p (w.yields i H x H' lt g y)⟩
  · obtain rfl : i = n := by omega
    exact .inl ⟨w.stops H g, hd H p⟩
theorem no_dups (as : List Addr) : ∃ bs : List Addr, bs.Nodup ∧ ∀ a, a ∈ bs ↔ a ∈ as := by
  induction as with
  | nil => exact ⟨[], .nil, fun a => Iff.rfl⟩
  | cons x as ih =>
    obtain ⟨bs, nd, mb⟩ := ih
    by_cases c : x ∈ as
    · refine ⟨bs, nd, fun a => (mb a).trans ⟨List.mem_cons_of_mem _, fun h => ?_⟩⟩
      rcases List.mem_cons.mp h with rfl | h
      · exact c
      · exact h
    · exact ⟨x :: bs, List.nodup_cons.mpr ⟨fun h => c ((mb x).mp h), nd⟩, fun a => by rw [List.mem_cons, List.mem_cons, mb a]⟩
def lastOf (p : Row × Nat) : Option Int := if 0 < p.2 then (p.1[p.2 - 1]?).map (·.2) else none
theorem lasts_eq (rs : List Row) (ds : List Nat) : lasts rs ds = (rs.zip ds).filterMap lastOf := rfl
theorem lasts_key {rs : List Row} {ds : List Nat} (h : ∀ r ∈ rs, RowOk r) {u : Int} (hu : u ∈ lasts rs ds) : 1 ≤ u ∧ u ≤ 999 := by
  rw [lasts_eq, List.mem_filterMap] at hu
  obtain ⟨p, hp, e⟩ := hu
  unfold lastOf at e
  by_cases c : 0 < p.2
  · rw [if_pos c] at e
    cases q : p.1[p.2 - 1]? with
    | none => rw [q] at e; cases e
    | some x =>
      rw [q] at e
      cases e
      exact (h _ (zip_at hp).1).key x (List.mem_of_getElem? q)
  · rw [if_neg c] at e
    cases e
theorem fm_next {α β : Type} {f : α → Option β} {l : List α} {i : Nat} {a : α} (h : l[i]? = some a) : (l.take (i + 1)).filterMap f = (l.take i).filterMap f ++ (f a).toList := by
  rw [List.take_add_one, h, List.filterMap_append]
  cases e : f a <;> simp [e]
theorem fm_len {α β : Type} {f : α → Option β} (l : List α) (i : Nat) : ((l.take i).filterMap f).length ≤ i := Nat.le_trans (List.length_filterMap_le _ _) (by rw [List.length_take]; exact Nat.min_le_left _ _)
def spTurns (K : PySem.W.Frag) : Sp := fun vs H Q _ => ∃ (v w : V) (rs : List Row) (ds : List Nat), vs = [v, w] ∧ Dp K H v (rowsD rs) ∧ Dp K H w (depD ds) ∧ DepOk rs ds ∧ rs.length ≤ 4 ∧ (∀ r ∈ rs, r.length ≤ 40) ∧
  ∀ (H' : Hp) (p : Addr) (ts : List Int), Same H H' → H' p = some (.lst (ts.map V.int)) → ts.Pairwise (· ≤ ·) → (∀ t, t ∈ ts ↔ t = 1 ∨ t - 1 ∈ lasts rs ds) → ts.length ≤ 5 → Q (.ref p) H'
def spStrangers (K : PySem.W.Frag) : Sp := fun vs H Q _ => ∃ (v w : V) (p : Addr) (rs : List Row) (ds : List Nat) (as : List Addr), vs = [v, w, .ref p] ∧ Dp K H v (rowsD rs) ∧ Dp K H w (depD ds) ∧ DepOk rs ds ∧ (∀ r ∈ rs, RowOk r) ∧ rs.length ≤ 4 ∧
  H p = some (.lst (as.map V.ref)) ∧ as.length = rs.length ∧ Reads1 H as rs ds ∧ ∀ (H' : Hp) (q : Addr) (S : List Int), Same H H' → H' q = some (.lst (S.map V.int)) → Strg rs ds S → S.length ≤ 5 → Q (.ref q) H'
def spKnown (K : PySem.W.Frag) : Sp := fun vs H Q _ => ∃ (p : Addr) (rs : List Row) (ds : List Nat) (as : List Addr), vs = [.ref p] ∧ DepOk rs ds ∧ (∀ r ∈ rs, RowOk r) ∧ rs.length ≤ 4 ∧
  H p = some (.lst (as.map V.ref)) ∧ as.length = rs.length ∧ Reads1 H as rs ds ∧ ∀ (H' : Hp) (q : Addr) (ns : List Int), Same H H' → H q = none → H' q = some (.lst (ns.map V.int)) → ns.Pairwise (· < ·) → (∀ k, k ∈ ns ↔ isRead rs ds k) → Q (.ref q) H'
theorem last_at : ∀ (m : Nat) (ts : List Int) (j : Nat) (t k : Int), ts.length - j ≤ m → ts[j]? = some t → t ≤ k → ts.Pairwise (· ≤ ·) → ∃ i u, j ≤ i ∧ ts[i]? = some u ∧ t ≤ u ∧ u ≤ k ∧ ∀ x, ts[i + 1]? = some x → k < x
  | 0, ts, j, t, k, hm, hj, _, _ => by
    have := (List.getElem?_eq_some_iff.mp hj).1
    omega
  | m + 1, ts, j, t, k, hm, hj, tk, srt => by
    cases e : ts[j + 1]? with
    | none => exact ⟨j, t, Nat.le_refl _, hj, Int.le_refl _, tk, fun x h => by rw [e] at h; cases h⟩
    | some x =>
      by_cases c : x ≤ k
      · obtain ⟨i, u, h1, h2, h3, h4, h5⟩ := last_at m ts (j + 1) x k (by omega) e c srt
        have le : t ≤ x := by
          obtain ⟨a1, a2⟩ := List.getElem?_eq_some_iff.mp hj
          obtain ⟨b1, b2⟩ := List.getElem?_eq_some_iff.mp e
          have z := List.pairwise_iff_getElem.mp srt j (j + 1) a1 b1 (by omega)
          omega
        exact ⟨i, u, by omega, h2, by omega, h4, h5⟩
      · exact ⟨j, t, Nat.le_refl _, hj, Int.le_refl _, tk, fun y h => by rw [e] at h; cases h; omega⟩
instance {rs : List Row} {ds : List Nat} {k : Int} : Decidable (isRead rs ds k) := by
  unfold isRead
  infer_instance
def inB (l : List (Row × Nat)) (k : Int) : List Bool := l.map fun p => (valV (rk (p.1.take p.2)) (Sum.inl k)).isSome
theorem inB_any (rs : List Row) (ds : List Nat) (k : Int) : (inB (rs.zip ds) k).any id = decide (isRead rs ds k) := by
  have one : ∀ p : Row × Nat, (valV (rk (p.1.take p.2)) (Sum.inl k)).isSome = decide (k ∈ (p.1.take p.2).map (·.2)) := fun p => dz_in k (p.1.take p.2)
  by_cases c : isRead rs ds k
  · rw [decide_eq_true c, List.any_eq_true]
    obtain ⟨p, hp, hk⟩ := read_at.mp c
    exact ⟨true, List.mem_map.mpr ⟨p, hp, (one p).trans (decide_eq_true hk)⟩, rfl⟩
  · rw [decide_eq_false c, List.any_eq_false]
    intro b hb
    obtain ⟨p, hp, rfl⟩ := List.mem_map.mp hb
    rw [one p]
    intro z
    exact c (read_at.mpr ⟨p, hp, of_decide_eq_true z⟩)
section
variable {P : Program} {w : World} {K : PySem.W.Frag} {mg : Str → Option Value} {base : Heap}
theorem ok_turns_of (T : Txt P K mg) : FnOk P w K mg base CX0 1 T.f_turns_of T.d_turns_of ["lists", "depths"] (spTurns K) := by
  refine T.F_turns_of.ok sc_turns_of (fun vs H Q E h => by obtain ⟨v, w, rs, ds, rfl, _⟩ := h; rfl) (fun cdv A outer s H vs Q E hr h => ⟨_, (pss_cons (ps_set (i := 2) sc_turns_of.nd rfl (Or.inl rfl) (pe_lst (pa_cons pe_int pa_nil)))
      (pss_cons (ps_for PassesOwn.never rfl (pi_zipA rfl T.z_zip (pa_cons (pv 0) (pa_cons (pv 1) pa_nil))) (pg_tup rfl (pgs_cons (pg_name (i := 3) sc_turns_of.nd rfl (by first | exact Or.inl rfl | exact Or.inr rfl)) (pgs_cons (pg_name (i := 4) sc_turns_of.nd rfl (by first | exact Or.inl rfl | exact Or.inr rfl)) pgs_nil)))
      (pss_one (ps_if (pt_cmpR op_gt (pv 4) pe_int (nomark _))
      (pss_one (ps_expr (pe_bm PySem.F.plainAttrs_list PySem.F.slot_list_append PySem.F.type_list_append mt_append (pv 2) (pa_cons (pe_op op_add (pe_ix ix_tup (pe_ix ix_tup (pv 3) (pe_op op_sub (pv 4) pe_int) (fun _ _ => rfl)) pe_int (fun _ _ => rfl)) pe_int) pa_nil)))) pss_nil)))
      (pss_one (ps_ret (pe_callB cr_sorted rfl T.z_sorted (by decide +kernel) (pa_cons (pv 2) pa_nil)))))), ?_⟩)
  obtain ⟨v, w, rs, ds, rfl, hd, hw, ok, h4, h40, q⟩ := h
  obtain ⟨a, xs, rfl, sq, da⟩ := tup_at hd
  obtain ⟨len, get⟩ := map_get da
  obtain ⟨b, ys, rfl, sb, db⟩ := tup_at hw
  obtain ⟨lenb, getb⟩ := map_get db
  refine ⟨by show 1 ≤ sizeLine; decide, fun f hf => ?_⟩
  have s1 := Same.new (o := .lst [.int 1]) hf
  refine ⟨_, rfl, _, rfl, a, b, xs, ys, rfl, .inr ⟨s1.sqT sq, s1.sqT sb, ?_⟩⟩
  refine for_zipT (xs := xs) (ys := ys) (by have := ok.len; omega) (fun i σ H' => ∃ (x3 x4 : Option V), σ = [some (.ref a), some (.ref b), some (.ref f), x3, x4] ∧ H' f = some (.lst ((1 :: (((rs.zip ds).take i).filterMap lastOf).map (· + 1)).map V.int)) ∧ Same H H')
    ⟨none, none, rfl, upd_same, s1⟩ (fun i σ H' h => by obtain ⟨_, _, _, _, k⟩ := h; exact ⟨k.sqT sq, k.sqT sb⟩) ?_ ?_
  · rintro i x y t σ H1 hx hy ⟨x3, x4, rfl, ef, k⟩ ht
    obtain ⟨r, hr1, hr2⟩ := get i x hx
    obtain ⟨d, hd1, hd2⟩ := getb i y hy
    cases hd2
    obtain ⟨ra, rxs, rfl, rsq, rda⟩ := tup_at hr2
    obtain ⟨rlen, rget⟩ := map_get rda
    have k2 := k.step (o := .tup [.ref ra, .int (d : Int)]) ht
    have ef2 := (Same.new (o := .tup [.ref ra, .int (d : Int)]) ht) _ _ ef
    have dle := ok.le i r d hr1 hd1
    have zip : (rs.zip ds)[i]? = some (r, d) := List.getElem?_zip_eq_some.mpr ⟨hr1, hd1⟩
    have nx := fm_next (f := lastOf) zip
    have fl := fm_len (f := lastOf) (rs.zip ds) i
    have hi4 : i < 4 := by have := (List.getElem?_eq_some_iff.mp hr1).1; omega
    refine ⟨t, _, rfl, .of upd_same, rfl, _, _, rfl, _, _, rfl, rfl, ?_⟩
    generalize upd H1 t (.tup [.ref ra, .int (d : Int)]) = H2 at k2 ef2 ⊢
    refine ⟨_, rfl, _, _, rfl, rfl, _, rfl, ?_⟩
    by_cases c : 0 < d
    · refine iteB (decide_eq_true (by omega)) ?_
      obtain ⟨p, hp⟩ : ∃ p, r[d - 1]? = some p := ⟨_, List.getElem?_eq_getElem (by omega)⟩
      obtain ⟨x, hx, hxd⟩ := get_of rda hp
      obtain ⟨pb, rfl, t1⟩ := pair_at hxd
      have el : lastOf (r, d) = some p.2 := by
        unfold lastOf
        rw [if_pos c, hp]
        rfl
      refine ⟨_, rfl, .inl ⟨rfl, _, .of ef2⟩, _, rfl, _, rfl, _, _, rfl, rfl, ra, rxs, _, _, rfl, rfl, k2.sqT rsq, (by rw [show ((d : Int) - 1) = ((d - 1 : Nat) : Int) by omega]; exact atI_nat hx), pb, _, _, _, rfl, rfl, k2.sqT t1, rfl, _, _, rfl, rfl, ?_⟩
      refine ⟨f, _, _, rfl, rfl, ef2, ?_, _, _, rfl, ?_, k2.own hf⟩
      · rw [List.length_map, List.length_cons, List.length_map]
        exact Nat.lt_of_le_of_lt (show _ ≤ 5 by omega) (by decide)
      · rw [upd_same, nx, el, List.map_cons, List.map_cons, List.map_append, List.map_append]
        rfl
    · refine iteB' (decide_eq_false (by omega)) ?_
      have el : lastOf (r, d) = none := by unfold lastOf; rw [if_neg c]
      refine ⟨_, _, rfl, ?_, k2⟩
      rw [nx, el, Option.toList_none, List.append_nil]
      exact ef2
  · rintro σ H1 ⟨x3, x4, rfl, ef, k⟩
    rw [List.take_of_length_le (by rw [List.length_zip, len]; exact Nat.min_le_left _ _), ← lasts_eq] at ef
    have ll : (lasts rs ds).length ≤ 4 := by
      rw [lasts_eq]
      refine Nat.le_trans (List.length_filterMap_le _ _) ?_
      rw [List.length_zip]
      exact Nat.le_trans (Nat.min_le_left _ _) h4
    refine ⟨_, rfl, f, _, rfl, .of ef, ?_, fun ns p hp srt fr => ?_⟩
    · rw [List.length_cons, List.length_map]
      omega
    · refine q _ p ns (k.step fr) upd_same srt (fun t => ?_) ?_
      · rw [hp.mem_iff, List.mem_cons, List.mem_map]
        constructor
        · rintro (z | ⟨u, hu, e⟩)
          · exact .inl z
          · exact .inr (by rw [show t - 1 = u by omega]; exact hu)
        · rintro (z | z)
          · exact .inl z
          · exact .inr ⟨t - 1, z, by omega⟩
      · rw [hp.length_eq, List.length_cons, List.length_map]
        omega
theorem ok_strangers (T : Txt P K mg) : FnOk P w K mg base CX0 2 T.f_strangers T.d_strangers ["lists", "depths", "read"] (spStrangers K) := by
  refine T.F_strangers.ok sc_strangers (fun vs H Q E h => by obtain ⟨v, w, p, rs, ds, as, rfl, _⟩ := h; rfl) (fun cdv A outer s H vs Q E hr h => ⟨_, (pss_cons (ps_par (i := 3) (j := 4) rfl sc_strangers.nd rfl rfl (by decide) rfl rfl (pa_cons (pe_call (ok_turns_of T) (hr.mono (by omega)) rfl T.g_turns_of T.F_turns_of.kp T.b_turns_of .nil pass0 (pa_cons (pv 0) (pa_cons (pv 1) pa_nil))) (pa_cons (pe_lst pa_nil) pa_nil)) (by rfl))
      (pss_cons (ps_for PassesOwn.never rfl (pi_enum rfl T.z_enumerate (pa_cons (pv 3) pa_nil)) (pg_tup rfl (pgs_cons (pg_name (i := 5) sc_strangers.nd rfl (by first | exact Or.inl rfl | exact Or.inr rfl)) (pgs_cons (pg_name (i := 6) sc_strangers.nd rfl (by first | exact Or.inl rfl | exact Or.inr rfl)) pgs_nil)))
      (pss_cons (ps_set (i := 7) sc_strangers.nd rfl (Or.inl rfl) (pe_ifExp (pt_cmpR op_lt (pe_op op_add (pv 5) pe_int) (pe_callB call_len_seq rfl T.z_len (by decide +kernel) (pa_cons (pv 3) pa_nil)) (nomark _)) (pe_ix ix_list (pv 3) (pe_op op_add (pv 5) pe_int) (fun _ _ => rfl)) (pe_op op_add (pe_glob (v := .int (999)) rfl T.g_MOST_KEY ⟨_, rfl⟩) pe_int)))
      (pss_cons (ps_set (i := 8) sc_strangers.nd rfl (Or.inr rfl) (pv 6))
      (pss_cons (ps_while PassesOwn.never (PW.pt (pw_and (pt_cmpR op_lt (pv 8) (pv 7) (nomark _)) (pw_and1 (pt_val (pe_callB (cr_any rfl) rfl T.z_any (by decide +kernel) (pa_cons (pe_lc (own := [("known", 9)]) rfl sc_strangers.nd (pi_list (pv 2)) (blkOk_by (own := [("known", 9)]) (N := N_strangers) (sc := defScope s_strangers) (by decide +kernel)) (fun _ _ _ _ _ => (pg_name (i := 9) sc_strangers.nd rfl (by first | exact Or.inl rfl | exact Or.inr rfl))) (fun _ _ _ _ _ => (by exact pts_nil)) (fun _ _ _ _ _ => (by exact (pe_cmp (pc_din (by exact hu_of hr) (pv 8) (pv 9)) rfl)))) pa_nil))))))
      (pss_one (ps_set (i := 8) sc_strangers.nd rfl (Or.inr rfl) (pe_op op_add (pv 8) pe_int))))
      (pss_one (ps_if (pt_cmpR op_lt (pv 8) (pv 7) (nomark _))
      (pss_one (ps_expr (pe_bm PySem.F.plainAttrs_list PySem.F.slot_list_append PySem.F.type_list_append mt_append (pv 4) (pa_cons (pv 8) pa_nil)))) pss_nil))))))
      (pss_one (ps_ret (pv 4))))), ?_⟩)
  obtain ⟨v, w, p, rs, ds, as, rfl, hd, hw, ok, oks, h4, ep, la, rd1, q⟩ := h
  refine ⟨_, rfl, _, rfl, v, w, rs, ds, rfl, hd, hw, ok, h4, fun r hr => (oks r hr).len, fun H1 tp ts s1 et srt mem tl => ?_⟩
  refine ⟨Nat.zero_le _, fun f hf => ?_⟩
  refine ⟨_, _, rfl, ?_⟩
  have s2 := s1.step (o := .lst []) hf
  have et2 := (Same.new (o := .lst []) hf) _ _ et
  have hf0 : H f = none := s1.free hf
  have ts1 : ∀ t ∈ ts, 1 ≤ t ∧ t ≤ 1000 := by
    intro t ht
    rcases (mem t).mp ht with rfl | z
    · omega
    · have := lasts_key oks z
      omega
  refine ⟨_, rfl, tp, _, rfl, .of et2, ?_⟩
  refine for_it walk_enum (fun i σ H' => ∃ (x5 x6 x7 x8 : Option V) (F : List Int), σ = [some v, some w, some (.ref p), some (.ref tp), some (.ref f), x5, x6, x7, x8, none] ∧ H' f = some (.lst (F.map V.int)) ∧ F.length ≤ i ∧ (∀ s ∈ F, 1 ≤ s ∧ s ≤ 999 ∧ ¬ isRead rs ds s) ∧
    (∀ j t k, j < i → ts[j]? = some t → t ≤ k → k ≤ 999 → ¬ isRead rs ds k → (∀ x, ts[j + 1]? = some x → k < x) → ∃ s ∈ F, t ≤ s ∧ s ≤ k) ∧ H' tp = some (.lst (ts.map V.int)) ∧ Same H H')
    ⟨none, none, none, none, [], rfl, upd_same, Nat.le_refl _, (fun s h => by cases h), (fun j t k h => by omega), et2, s2⟩ (fun i σ H' _ h => by obtain ⟨_, _, _, _, _, _, _, _, _, _, e, _⟩ := h; exact .of e) ?_ ?_
  · rintro i x σ H3 H4' hi ⟨x5, x6, x7, x8, F, rfl, ef, fl, fin, each, et3, k3⟩ ⟨t, y, z, rfl, ht, rfl, hy, hz⟩
    cases hy
    rw [List.length_map] at hi
    have hz : (ts.map V.int)[i]? = some z := hz
    obtain ⟨first, hf1, e⟩ : ∃ first, ts[i]? = some first ∧ V.int first = z := by
      rw [List.getElem?_map, List.getElem?_eq_getElem hi] at hz
      exact ⟨_, List.getElem?_eq_getElem hi, Option.some.inj hz⟩
    subst e
    have k4 := k3.step (o := .tup [.int (i : Nat), .int first]) ht
    have n4 := Same.new (o := .tup [.int (i : Nat), .int first]) ht
    have ef4 := n4 _ _ ef
    have et4 := n4 _ _ et3
    refine ⟨t, _, rfl, .of upd_same, rfl, _, _, rfl, _, _, rfl, rfl, ?_⟩
    generalize upd H3 t (.tup [.int (i : Nat), .int first]) = H4 at k4 ef4 et4 ⊢
    refine asg_by (fun v H' => ∃ e : Int, v = .int e ∧ (∀ x, ts[i + 1]? = some x → e = x) ∧ (ts[i + 1]? = none → e = 1000) ∧ H4 = H') ?_ ?_
    · intro Q' hQ
      refine ⟨_, rfl, _, _, rfl, rfl, _, rfl, tp, _, rfl, .inl (.of et4), _, _, rfl, rfl, _, rfl, ?_⟩
      rw [List.length_map]
      by_cases c : i + 1 < ts.length
      · have e1 : ts[i + 1]? = some ts[i + 1] := List.getElem?_eq_getElem c
        have e2 : (ts.map V.int)[i + 1]? = some (.int ts[i + 1]) := by rw [List.getElem?_map, e1]; rfl
        refine iteB (decide_eq_true (by omega)) ⟨_, rfl, _, rfl, _, _, rfl, rfl, tp, _, _, _, rfl, rfl, .of et4, (by rw [show ((i : Int) + 1) = ((i + 1 : Nat) : Int) by omega]; exact atI_nat e2), hQ _ _ ⟨_, rfl, fun x h => ?_, fun h => ?_, rfl⟩⟩
        · rw [e1] at h
          exact Option.some.inj h
        · rw [e1] at h
          cases h
      · have e1 : ts[i + 1]? = none := List.getElem?_eq_none (by omega)
        exact iteB' (decide_eq_false (by omega)) ⟨_, _, rfl, rfl, hQ _ _ ⟨1000, rfl, (fun x h => by rw [e1] at h; cases h), fun _ => rfl, rfl⟩⟩
    rintro _ _ ⟨e, rfl, e1, e2, rfl⟩
    have e1000 : e ≤ 1000 := by
      cases z : ts[i + 1]? with
      | none => rw [e2 z]; exact Int.le_refl _
      | some x => rw [e1 x z]; exact (ts1 x (List.mem_of_getElem? z)).2
    refine ⟨_, rfl, ?_⟩
    refine ⟨fun m σ H' => ∃ c : Int, m = (e - c).toNat ∧ σ = [some v, some w, some (.ref p), some (.ref tp), some (.ref f), some (.int (i : Nat)), some (.int first), some (.int e), some (.int c), none] ∧ first ≤ c ∧ (∀ k, first ≤ k → k < c → isRead rs ds k) ∧ Same H4 H',
      ⟨_, first, rfl, rfl, Int.le_refl _, fun k h1 h2 => by omega, Same.refl _⟩, ?_⟩
    rintro m σ H5 ⟨c, rfl, rfl, fc, all, k5⟩
    have ep5 := (k4.trans k5) _ _ ep
    refine ⟨_, rfl, _, rfl, _, _, rfl, rfl, _, rfl, ?_⟩
    have stop : ∀ H6, Same H5 H6 → (¬ c < e ∨ ¬ isRead rs ds c) → ∃ (x5 x6 x7 x8 : Option V) (F : List Int), True := fun _ _ _ => ⟨none, none, none, none, [], trivial⟩
    by_cases ce : c < e
    · refine iteB (decide_eq_true ce) ?_
      refine ⟨_, rfl, p, rfl, ⟨_, .of ep5⟩, fun D hD => ?_⟩
      refine lc_list (K := K) (a := p) (xs := as.map V.ref) (fun j H' => H' D = some (.lst ((inB ((rs.zip ds).take j) c).map V.bl)) ∧ Same H5 H') ⟨upd_same, Same.new hD⟩ (fun j H' _ h => h.2.sqL (.of ep5)) ?_ ?_
      · rintro j x H6 hx ⟨g1, g2⟩
        rw [List.getElem?_map] at hx
        cases ha : as[j]? with
        | none => rw [ha] at hx; cases hx
        | some a =>
          rw [ha] at hx
          cases hx
          have jl := (List.getElem?_eq_some_iff.mp ha).1
          have hr1 : rs[j]? = some (rs[j]'(by omega)) := List.getElem?_eq_getElem _
          have hd1 : ds[j]? = some (ds[j]'(by have := ok.len; omega)) := List.getElem?_eq_getElem _
          have zip : (rs.zip ds)[j]? = some (rs[j]'(by omega), ds[j]'(by have := ok.len; omega)) := List.getElem?_zip_eq_some.mpr ⟨hr1, hd1⟩
          have dict := (k4.trans (k5.trans g2)) _ _ (rd1 j a _ _ ha hr1 hd1)
          refine ⟨rfl, _, rfl, _, rfl, a, _, rfl, .inl ⟨_, Sum.inl c, .inl dict, rfl, rfl⟩, _, g1, ?_, ?_, g2.own hD⟩
          · unfold inB
            rw [List.length_map, List.length_map, List.length_take, List.length_zip]
            exact Nat.lt_of_le_of_lt (show _ ≤ 4 by omega) (by decide)
          · unfold inB
            rw [upd_same, List.take_add_one, zip, List.map_append, List.map_append]
            rfl
      · rintro H6 ⟨g1, g2⟩
        rw [List.length_map, la, List.take_of_length_le (by rw [List.length_zip]; exact Nat.min_le_left _ _)] at g1
        refine ⟨D, _, rfl, .of g1, _, rfl, ?_⟩
        by_cases rc : isRead rs ds c
        · refine iteB ((inB_any rs ds c).trans (decide_eq_true rc)) ⟨fun σ' H' => σ' = [some v, some w, some (.ref p), some (.ref tp), some (.ref f), some (.int (i : Nat)), some (.int first), some (.int e), some (.int (c + 1)), none] ∧ H' = H6, fun σ' H' h => ?_, ?_⟩
          · obtain ⟨rfl, rfl⟩ := h
            refine ⟨(e - (c + 1)).toNat, by omega, c + 1, rfl, rfl, by omega, fun k h1 h2 => ?_, k5.trans g2⟩
            by_cases kc : k = c
            · rw [kc]; exact rc
            · exact all k h1 (by omega)
          · exact ⟨_, rfl, _, _, rfl, rfl, rfl, rfl⟩
        · refine iteB' ((inB_any rs ds c).trans (decide_eq_false rc)) ?_
          have k6 := k5.trans g2
          have ef6 := k6 _ _ ef4
          refine ⟨_, rfl, _, rfl, _, _, rfl, rfl, _, rfl, iteB (decide_eq_true ce) ?_⟩
          refine ⟨_, rfl, .inl ⟨rfl, _, .of ef6⟩, _, rfl, f, _, _, rfl, rfl, ef6, ?_, _, _, _, _, F ++ [c], rfl, ?_, ?_, ?_, ?_, ?_, (k4.trans k6).own hf0⟩
          · rw [List.length_map]
            exact Nat.lt_of_le_of_lt (show _ ≤ 5 by omega) (by decide)
          · rw [upd_same, List.map_append]
            rfl
          · rw [List.length_append]
            exact Nat.add_le_add fl (Nat.le_refl _)
          · intro s hs
            rcases List.mem_append.mp hs with hs | hs
            · exact fin s hs
            · rw [List.mem_singleton] at hs
              rw [hs]
              have := (ts1 first (List.mem_of_getElem? hf1)).1
              exact ⟨by omega, by omega, rc⟩
          · intro j t' k hj ht' tk k9 no nxt
            by_cases hji : j < i
            · obtain ⟨s, hs, h1, h2⟩ := each j t' k hji ht' tk k9 no nxt
              exact ⟨s, List.mem_append_left _ hs, h1, h2⟩
            · obtain rfl : j = i := by omega
              rw [hf1] at ht'
              cases ht'
              refine ⟨c, List.mem_append_right _ (List.mem_singleton.mpr rfl), fc, ?_⟩
              by_cases kc : k < c
              · exact absurd (all k tk kc) no
              · omega
          · have nft : tp ≠ f := fun z => by rw [z, ef] at et3; rw [z] at et; exact absurd (hf.symm.trans et) (fun w => by cases w)
            rw [upd_ne nft]
            exact k6 _ _ et4
    · refine iteB' (decide_eq_false ce) (iteF ?_)
      have ef6 := k5 _ _ ef4
      refine ⟨_, rfl, _, rfl, _, _, rfl, rfl, _, rfl, iteB' (decide_eq_false ce) ?_⟩
      refine ⟨_, _, _, _, F, rfl, ef6, by omega, fin, fun j t' k hj ht' tk k9 no nxt => ?_, k5 _ _ et4, k4.trans k5⟩
      by_cases hji : j < i
      · exact each j t' k hji ht' tk k9 no nxt
      · obtain rfl : j = i := by omega
        rw [hf1] at ht'
        cases ht'
        have ke : k < e := by
          cases z : ts[j + 1]? with
          | none => rw [e2 z]; omega
          | some x => rw [e1 x z]; exact nxt x z
        exact absurd (all k tk (by omega)) no
  · rintro σ H3 ⟨x5, x6, x7, x8, F, rfl, ef, fl, fin, each, et3, k3⟩
    rw [List.length_map] at fl each
    refine ⟨_, rfl, q H3 f F k3 ef (str_of oks fin fun t ht k tk k9 no gr => ?_) (by omega)⟩
    obtain ⟨j, hj⟩ := List.getElem?_of_mem ((mem t).mpr ht)
    obtain ⟨i, u, ji, hu, tu, uk, nxt⟩ := last_at (ts.length - j) ts j t k (Nat.le_refl _) hj tk srt
    obtain ⟨s, hs, h1, h2⟩ := each i u k (List.getElem?_eq_some_iff.mp hu).1 hu uk k9 no nxt
    exact ⟨s, hs, by omega, h2⟩
theorem ok_known_keys (T : Txt P K mg) : FnOk P w K mg base CX0 1 T.f_known_keys T.d_known_keys ["read"] (spKnown K) := by
  refine T.F_known_keys.ok sc_known_keys (fun vs H Q E h => by obtain ⟨p, rs, ds, as, rfl, _⟩ := h; rfl) (fun cdv A outer s H vs Q E hr h => ⟨_, (pss_one (ps_ret (pe_callB (cr_sortG rfl (by exact hu64 hr)) rfl T.z_sorted (by decide +kernel) (pa_cons (pe_locks (pe_sc2 (own := [("known", 1), ("key", 2)]) (vs1 := [2]) (g := gName 1) (g1 := gName 2) (wi1 := iKeys (tVar 1)) (te := tVar 2) rfl sc_known_keys.nd (pi_list (pv 0)) (blkOk_by (own := [("known", 1), ("key", 2)]) (N := N_known_keys) (sc := defScope s_known_keys) (by decide +kernel)) (by decide) (fun _ _ _ _ _ => pg_name (i := 1) sc_known_keys.nd rfl (Or.inl rfl)) (fun _ _ _ _ _ => pi_keys (pv 1)) (fun _ _ _ _ _ => pg_name (i := 2) sc_known_keys.nd rfl (Or.inl rfl)) (fun _ _ _ _ _ => pv 2))) pa_nil)))), ?_⟩)
  obtain ⟨p, rs, ds, as, rfl, ok, oks, h4, ep, la, rd1, q⟩ := h
  have dict : ∀ a ∈ as, ∃ r d, (r, d) ∈ rs.zip ds ∧ H a = some (.dK (rk (r.take d))) := by
    intro a ha
    obtain ⟨j, hj⟩ := List.getElem?_of_mem ha
    have jl := (List.getElem?_eq_some_iff.mp hj).1
    have hr1 : rs[j]? = some (rs[j]'(by omega)) := List.getElem?_eq_getElem _
    have hd1 : ds[j]? = some (ds[j]'(by have := ok.len; omega)) := List.getElem?_eq_getElem _
    exact ⟨_, _, List.mem_of_getElem? (List.getElem?_zip_eq_some.mpr ⟨hr1, hd1⟩), rd1 j a _ _ hj hr1 hd1⟩
  obtain ⟨bs, nd, mb⟩ := no_dups as
  have npb : p ∉ bs := fun h => by
    obtain ⟨r, d, _, e⟩ := dict p ((mb p).mp h)
    rw [ep] at e
    cases e
  have l160 := flat_len (ds := ds) oks
  refine ⟨bs, lockN_by (fun a => (H a).getD (.lst [])) bs (fun v H' => ∃ (D : Addr) (S : Key → Bool) (n : Nat), v = .ref D ∧ H D = none ∧ H' D = some (SetGO P w D S n) ∧ (∀ k, S k = true ↔ ∃ i, k = .inl i ∧ isRead rs ds i) ∧ (∀ b o, b ∉ bs → H b = some o → H' b = some o)) H _ nd ?_ ?_ ?_ ?_⟩
  · intro a ha
    obtain ⟨r, d, _, e⟩ := dict a ((mb a).mp ha)
    rw [e]
    rfl
  · intro a ha
    obtain ⟨r, d, _, e⟩ := dict a ((mb a).mp ha)
    rw [e]
    trivial
  · intro H1 R lock rest cont
    have ep1 : H1 p = some (.lst (as.map V.ref)) := by rw [rest p npb]; exact ep
    refine ⟨_, rfl, p, rfl, ⟨_, .of ep1⟩, fun D hD => ?_⟩
    have nDb : D ∉ bs := fun h => by
      obtain ⟨od, e⟩ := lock D h
      rw [hD] at e
      cases e
    have hD0 : H D = none := by rw [← rest D nDb]; exact hD
    refine it_by walk_list (fun i H' => ∃ (S : Key → Bool) (n : Nat), H' D = some (SetGO P w D S n) ∧ (∀ k, S k = true ↔ ∃ z, k = .inl z ∧ z ∈ (((rs.zip ds).take i).flatMap fun p => p.1.take p.2).map (·.2)) ∧ n ≤ (((rs.zip ds).take i).flatMap fun p => p.1.take p.2).length ∧ Same H1 H')
      ⟨fun _ => false, 0, upd_same, fun k => by simp, Nat.le_refl _, Same.new hD⟩ (fun i H' _ h => by obtain ⟨_, _, _, _, _, k⟩ := h; exact k.sqL (.of ep1)) ?_ ?_
    · rintro i x _ H2 hi ⟨S, n, e1, e2, e3, k2⟩ ⟨rfl, hx⟩
      rw [List.getElem?_map] at hx
      cases ha : as[i]? with
      | none => rw [ha] at hx; cases hx
      | some a =>
        rw [ha] at hx
        cases hx
        have jl := (List.getElem?_eq_some_iff.mp ha).1
        have hr1 : rs[i]? = some (rs[i]'(by omega)) := List.getElem?_eq_getElem _
        have hd1 : ds[i]? = some (ds[i]'(by have := ok.len; omega)) := List.getElem?_eq_getElem _
        have zip : (rs.zip ds)[i]? = some (rs[i]'(by omega), ds[i]'(by have := ok.len; omega)) := List.getElem?_zip_eq_some.mpr ⟨hr1, hd1⟩
        have ea := rd1 i a _ _ ha hr1 hd1
        obtain ⟨od, eo⟩ := lock a ((mb a).mpr (List.mem_of_getElem? ha))
        rw [ea] at eo
        have eo2 := k2 _ _ eo
        generalize rs[i]'(by omega) = r at zip ea eo eo2 hr1
        generalize ds[i]'(by have := ok.len; omega) = d at zip ea eo eo2 hd1
        have okr := oks r (List.mem_of_getElem? hr1)
        refine ⟨rfl, _, rfl, a, od, rfl, .inl ⟨rk (r.take d), eo2, ?_⟩⟩
        have base0 : ((rs.zip ds).take i).flatMap (fun p => p.1.take p.2) = ((rs.zip ds).take i).flatMap (fun p => p.1.take p.2) ++ (r.take d).take 0 := by rw [List.take_zero, List.append_nil]
        have lim : ∀ j, (((rs.zip ds).take i).flatMap (fun p => p.1.take p.2) ++ (r.take d).take j).length ≤ 200 := by
          intro j
          have z1 : (((rs.zip ds).take i).flatMap fun p => p.1.take p.2).length ≤ (flat rs ds).length := by
            unfold flat
            have e := List.take_append_drop i (rs.zip ds)
            have : (rs.zip ds).flatMap (fun p => p.1.take p.2) = ((rs.zip ds).take i).flatMap (fun p => p.1.take p.2) ++ ((rs.zip ds).drop i).flatMap (fun p => p.1.take p.2) := by
              rw [← List.flatMap_append, e]
            rw [this, List.length_append]
            omega
          have z2 := okr.len
          rw [List.length_append, List.length_take, List.length_take]
          omega
        refine it_by walk_keys (fun j H' => ∃ (S : Key → Bool) (n : Nat), H' D = some (SetGO P w D S n) ∧ (∀ k, S k = true ↔ ∃ z, k = .inl z ∧ z ∈ (((rs.zip ds).take i).flatMap (fun p => p.1.take p.2) ++ (r.take d).take j).map (·.2)) ∧ n ≤ (((rs.zip ds).take i).flatMap (fun p => p.1.take p.2) ++ (r.take d).take j).length ∧ Same H1 H')
          ⟨S, n, e1, by rw [← base0]; exact e2, by rw [← base0]; exact e3, k2⟩ (fun j H' _ h => by obtain ⟨_, _, _, _, _, k⟩ := h; exact k _ _ eo) ?_ ?_
        · rintro j x _ H3 hj ⟨S, n, e1, e2, e3, k3⟩ ⟨rfl, key, v, hkv, rfl⟩
          obtain ⟨z, hz, e⟩ : ∃ z, (r.take d)[j]? = some z ∧ (Sum.inl z.2, V.int z.1) = (key, v) := by
            unfold rk at hkv
            rw [List.getElem?_map] at hkv
            cases e : (r.take d)[j]? with
            | none => rw [e] at hkv; cases hkv
            | some z => rw [e] at hkv; exact ⟨z, rfl, Option.some.inj hkv⟩
          cases e
          refine ⟨rfl, _, rfl, Sum.inl z.2, S, n, rfl, e1, ?_, _, _, upd_same, fun k => ?_, ?_, k3.own hD⟩
          · have := lim j
            show n + 1 < scanBound
            exact Nat.lt_of_le_of_lt (show n + 1 ≤ 300 by omega) (by decide)
          · rw [Bool.or_eq_true, decide_eq_true_eq, e2 k, List.take_add_one, hz, ← List.append_assoc, List.map_append (l₂ := (some z).toList)]
            constructor
            · rintro (⟨y, e, hy⟩ | e)
              · exact ⟨y, e, List.mem_append_left _ hy⟩
              · exact ⟨z.2, e, List.mem_append_right _ (by simp)⟩
            · rintro ⟨y, e, hy⟩
              rcases List.mem_append.mp hy with hy | hy
              · exact .inl ⟨y, e, hy⟩
              · have : y = z.2 := by simpa using hy
                exact .inr (by rw [e, this])
          · rw [List.take_add_one, hz, ← List.append_assoc, List.length_append (bs := (some z).toList)]
            show (if S (Sum.inl z.2) = true then n else n + 1) ≤ _ + 1
            split <;> omega
        · rintro H3 ⟨S, n, e1, e2, e3, k3⟩
          rw [show (rk (r.take d)).length = (r.take d).length by unfold rk; rw [List.length_map], List.take_length] at e2 e3
          refine ⟨S, n, e1, ?_, ?_, k3⟩
          · rw [List.take_add_one, zip, List.flatMap_append]
            simpa using e2
          · rw [List.take_add_one, zip, List.flatMap_append]
            simpa using e3
    · rintro H2 ⟨S, n, e1, e2, e3, k2⟩
      rw [List.length_map, la, List.take_of_length_le (by rw [List.length_zip]; exact Nat.min_le_left _ _)] at e2
      refine cont _ _ (fun a ha => ?_) ⟨D, S, n, rfl, hD0, e1, e2, fun b o hb e => k2 b o (by rw [rest b hb]; exact e)⟩
      obtain ⟨od, e⟩ := lock a ha
      rw [e]
      exact k2 _ _ e
  · rintro v H' H2 ⟨D, S, n, rfl, hD0, eD, mem, keep⟩ back rest
    have same : Same H H2 := by
      intro b o e
      by_cases hb : b ∈ bs
      · rw [back b hb, e]
        rfl
      · rw [rest b hb]
        exact keep b o hb e
    have nDb : D ∉ bs := fun h => by
      obtain ⟨r, d, _, e⟩ := dict D ((mb D).mp h)
      rw [hD0] at e
      cases e
    refine ⟨D, S, n, rfl, by rw [rest D nDb]; exact eD, fun j k hj hk => ?_, fun ks g kn km kl hg => ?_⟩
    · obtain ⟨a, rfl, _⟩ := (mem j).mp hj
      obtain ⟨b, rfl, _⟩ := (mem k).mp hk
      simp [kD, PySem.W.alike]
    · obtain ⟨ns, e, n1, n2, n3⟩ := sorted_ints (fun k hk => by obtain ⟨a, e, _⟩ := (mem k).mp hk; exact ⟨a, e⟩) kn km kl
      refine q _ g ns (same.step hg) (same.free hg) (by rw [upd_same, e]) n1 fun k => ?_
      rw [n2, mem]
      constructor
      · rintro ⟨i, e, h⟩
        rw [Sum.inl.inj e]
        exact h
      · exact fun h => ⟨k, rfl, h⟩
end
end K71
set_option pp.maxSteps 1200
namespace K71
open PySem PySem.Spec PyProof.Rows L2 RZ
theorem nodup_len : ∀ {l m : List Int}, l.Nodup → (∀ x ∈ l, x ∈ m) → l.length ≤ m.length
  | [], _, _, _ => Nat.zero_le _
  | a :: l, m, nd, h => by
    rw [List.nodup_cons] at nd
    have am := h a List.mem_cons_self
    have z := nodup_len (l := l) (m := m.erase a) nd.2 fun x hx => (List.mem_erase_of_ne (fun e : x = a => nd.1 (by rw [← e]; exact hx))).mpr (h x (List.mem_cons_of_mem _ hx))
    rw [List.length_erase_of_mem am] at z
    have := List.length_pos_of_mem am
    rw [List.length_cons]
    omega
theorem rows_steps {rs : List Row} {ds : List Nat} (h : ∀ r ∈ rs, RowOk r) (ok : DepOk rs ds) : ∀ {C : List Int}, (∀ (i : Nat) (a b : Int), C[i]? = some a → C[i + 1]? = some b → Beats rs ds a b) → C.Pairwise (Beats rs ds)
  | [], _ => .nil
  | [a], _ => List.pairwise_singleton _ _
  | a :: b :: C, st => by
    have ih := rows_steps h ok (C := b :: C) fun i x y hx hy => st (i + 1) x y (by simpa using hx) (by simpa using hy)
    have ab := st 0 a b rfl rfl
    refine List.pairwise_cons.mpr ⟨fun c hc => ?_, ih⟩
    rcases List.mem_cons.mp hc with rfl | hc
    · exact ab
    · exact ab.trans h ok ((List.pairwise_cons.mp ih).1 c hc)
theorem Good.of_few {rs : List Row} {ds : List Nat} {m : Nat} {S : List Int} (str : Strg rs ds S) (few : (ordL rs ds).length < m) (row : ((ordL rs ds).take m).Pairwise (Beats rs ds)) (z : ∀ s ∈ S, topS rs ds s = 0) : Good rs ds m :=
  ⟨row, fun _ => str.zero.mp z, fun h => absurd h (by omega)⟩
theorem Good.of_full {rs : List Row} {ds : List Nat} {m : Nat} {S : List Int} (h : ∀ r ∈ rs, RowOk r) (ok : DepOk rs ds) (str : Strg rs ds S) (le : m ≤ (ordL rs ds).length) (row : ((ordL rs ds).take m).Pairwise (Beats rs ds)) {last : Int} (m1 : 1 ≤ m) (hl : ((ordL rs ds).take m)[m - 1]? = some last)
    (z : ∀ k ∈ (ordL rs ds).drop m ++ S, Beats rs ds last k) : Good rs ds m := by
  have o := ordL_ok (ds := ds) h
  refine ⟨row, fun q => absurd q (by omega), fun _ a ha k k1 k9 hk => ?_⟩
  have lk : Beats rs ds last k := by
    by_cases rk : isRead rs ds k
    · have hk2 := (o.mb k).mpr rk
      rw [← List.take_append_drop m (ordL rs ds)] at hk2
      exact z k (List.mem_append_left _ ((List.mem_append.mp hk2).resolve_left hk))
    · exact (str.beats last).mp (fun s hs => z s (List.mem_append_right _ hs)) k k1 k9 rk
  obtain ⟨i, hi⟩ := List.getElem?_of_mem ha
  obtain ⟨i1, i2⟩ := List.getElem?_eq_some_iff.mp hi
  obtain ⟨j1, j2⟩ := List.getElem?_eq_some_iff.mp hl
  by_cases c : i = m - 1
  · subst c
    rw [hl] at hi
    cases hi
    exact lk
  · have lt : i < m - 1 := by
      rw [List.length_take] at i1
      omega
    have b := List.pairwise_iff_getElem.mp row i (m - 1) i1 j1 lt
    rw [i2, j2] at b
    exact b.trans h ok lk
theorem Good.full_of {rs : List Row} {ds : List Nat} {m : Nat} {S : List Int} (h : ∀ r ∈ rs, RowOk r) (str : Strg rs ds S) (g : Good rs ds m) (le : m ≤ (ordL rs ds).length) {last : Int} (hl : ((ordL rs ds).take m)[m - 1]? = some last) : ∀ k ∈ (ordL rs ds).drop m ++ S, Beats rs ds last k := by
  have o := ordL_ok (ds := ds) h
  intro k hk
  have nd := o.nd
  rw [← List.take_append_drop m (ordL rs ds), List.nodup_append] at nd
  rcases List.mem_append.mp hk with hk | hk
  · have r := read_key h ((o.mb k).mp (List.mem_of_mem_drop hk))
    exact g.full le last (List.mem_of_getElem? hl) k r.1 r.2 fun z => nd.2.2 k z k hk rfl
  · obtain ⟨a, b, c⟩ := str.in1 k hk
    exact g.full le last (List.mem_of_getElem? hl) k a b fun z => c ((o.mb k).mp (List.mem_of_mem_take z))
/-! ### triples of a sum, a key and both sums -/
def sumsD (rs : List Row) (ds : List Nat) (k : Int) : PyData := pairD (lowS rs ds k, topS rs ds k)
def triD (rs : List Row) (ds : List Nat) (k : Int) : PyData := .tuple [.int (-(lowS rs ds k)), .int k, sumsD rs ds k]
def othD (rs : List Row) (ds : List Nat) (k : Int) : PyData := .tuple [.int k, sumsD rs ds k]
theorem tri_at {K : PySem.W.Frag} {H : Hp} {x : V} {rs : List Row} {ds : List Nat} {k : Int} (h : Dp K H x (triD rs ds k)) : ∃ a b, x = .ref a ∧ SqT K H a [.int (-(lowS rs ds k)), .int k, .ref b] ∧ Dp K H (.ref b) (sumsD rs ds k) ∧ SqT K H b [.int (lowS rs ds k), .int (topS rs ds k)] := by
  unfold triD at h
  cases h with
  | tup s d =>
    cases d with
    | cons h1 t =>
      cases t with
      | cons h2 t =>
        cases t with
        | cons h3 t =>
          cases t
          cases h1
          cases h2
          obtain ⟨b, rfl, q⟩ := pair_at h3
          exact ⟨_, b, rfl, s, h3, q⟩
theorem oth_at {K : PySem.W.Frag} {H : Hp} {x : V} {rs : List Row} {ds : List Nat} {k : Int} (h : Dp K H x (othD rs ds k)) : ∃ a b, x = .ref a ∧ SqT K H a [.int k, .ref b] ∧ SqT K H b [.int (lowS rs ds k), .int (topS rs ds k)] := by
  unfold othD at h
  cases h with
  | tup s d =>
    cases d with
    | cons h1 t =>
      cases t with
      | cons h2 t =>
        cases t
        cases h1
        obtain ⟨b, rfl, q⟩ := pair_at h2
        exact ⟨_, b, rfl, s, q⟩
open PySem.W in
theorem lt_self (d : PyData) : PySem.W.dataLt d d = false := (listOrd itemOrd).irrefl _
def leT (rs : List Row) (ds : List Nat) (p q : V × Int) : Bool := decide (lowS rs ds q.2 < lowS rs ds p.2 ∨ (lowS rs ds p.2 = lowS rs ds q.2 ∧ p.2 ≤ q.2))
theorem sort_tri (rs : List Row) (ds : List Nat) (ps : List (V × Int)) : (ps.map fun p => (p.1, triD rs ds p.2)).mergeSort leD = (ps.mergeSort (leT rs ds)).map fun p => (p.1, triD rs ds p.2) := by
  refine (List.map_mergeSort fun a ha b hb => ?_).symm
  show leT rs ds a b = !PySem.W.dataLt (triD rs ds b.2) (triD rs ds a.2)
  have lt : PySem.W.dataLt (triD rs ds b.2) (triD rs ds a.2) = decide (lowS rs ds a.2 < lowS rs ds b.2 ∨ (lowS rs ds a.2 = lowS rs ds b.2 ∧ b.2 < a.2)) := by
    by_cases e : a.2 = b.2
    · rw [e, lt_self, decide_eq_false (by omega)]
    · unfold triD
      rw [PySem.W.dataLt_tuple, PySem.W.dataLt_cons (by simp [PySem.W.alike])]
      by_cases e1 : lowS rs ds b.2 = lowS rs ds a.2
      · rw [if_pos (by simp [PyData.eqv, e1]), PySem.W.dataLt_all_no (by simp [PySem.W.alike]) (by simp [PyData.eqv]; exact fun z => e z.symm), PySem.W.dataLt_int]
        rw [decide_eq_decide]
        omega
      · rw [if_neg (by simp [PyData.eqv]; omega), PySem.W.dataLt_int]
        rw [decide_eq_decide]
        omega
  rw [lt]
  unfold leT
  by_cases h : lowS rs ds a.2 < lowS rs ds b.2 ∨ (lowS rs ds a.2 = lowS rs ds b.2 ∧ b.2 < a.2)
  · rw [decide_eq_true h, decide_eq_false (by omega)]
    rfl
  · rw [decide_eq_false h, decide_eq_true (by omega)]
    rfl
theorem ord_tri {rs : List Row} {ds : List Nat} {ps : List (V × Int)} (h : ∀ r ∈ rs, RowOk r) (nd : (ps.map (·.2)).Nodup) (mb : ∀ k, k ∈ ps.map (·.2) ↔ isRead rs ds k) : (ps.mergeSort (leT rs ds)).map (·.2) = ordL rs ds := by
  have perm := List.mergeSort_perm ps (leT rs ds)
  have pk : ((ps.mergeSort (leT rs ds)).map (·.2)).Perm (ps.map (·.2)) := perm.map _
  refine Ord.unique (rs := rs) (ds := ds) ⟨pk.nodup_iff.mpr nd, fun k => pk.mem_iff.trans (mb k), ?_⟩ (ordL_ok h)
  have s := List.pairwise_mergeSort (le := leT rs ds) (fun a b c h1 h2 => by
    unfold leT at *
    have h1 := of_decide_eq_true h1
    have h2 := of_decide_eq_true h2
    exact decide_eq_true (by omega)) (fun a b => by
    unfold leT
    rw [Bool.or_eq_true, decide_eq_true_eq, decide_eq_true_eq]
    omega) ps
  have n : (ps.mergeSort (leT rs ds)).Pairwise fun a b => a.2 ≠ b.2 := List.pairwise_map.mp (pk.nodup_iff.mpr nd)
  rw [List.pairwise_map]
  refine (s.and n).imp fun {a b} x => ?_
  have x1 := of_decide_eq_true x.1
  have x2 := x.2
  unfold Ahead
  omega
/-- a comprehension of the keys of triples -/
theorem lc_keys {K : PySem.W.Frag} {rs : List Row} {ds : List Nat} {x0 x1 x2 x3 x4 x5 x6 x7 x8 x9 x10 x11 x12 x13 : Option V} {a : Addr} {l : List (V × Int)} {H1 : Hp} {D : Addr} {Qd : Hp → Prop} (ha : SqL K H1 a (l.map (·.1))) (hd : ∀ p ∈ l, Dp K H1 p.1 (triD rs ds p.2)) (hD : H1 D = none) (hl : l.length ≤ 200)
    (hq : ∀ H', Same H1 H' → H' D = some (.lst ((l.map (·.2)).map V.int)) → Qd H') :
    ∃ W : Nat → Nat → Hp → Prop, (∃ m, W 0 m (upd H1 D (.lst []))) ∧ ∀ i m H, W i m H →
      ((Itl K a).stop i H ∧ Qd H) ∨ ((Itl K a).go i H ∧ ∃ Nx : Hp → Prop, (∀ H', Nx H' → ∃ m', m' < m ∧ W (i + 1) m' H') ∧ ∀ x H', (Itl K a).yld i H x H' → gTup K 3 (gCons (gName 13) (gCons (gName 5) (gCons (gName 13) gNil))) x (wipe [x0, x1, x2, x3, x4, x5, x6, x7, x8, x9, x10, x11, x12, x13] [13, 5]) H'
        fun σ2 H2 => wipe σ2 [13, 5] = wipe [x0, x1, x2, x3, x4, x5, x6, x7, x8, x9, x10, x11, x12, x13] [13, 5] ∧ tYes σ2 H2 fun b H3 =>
        if b = true then tVar 5 σ2 H3 fun y H4 => ∃ acc, H4 D = some (.lst acc) ∧ acc.length < sizeLine ∧ Nx (upd H4 D (.lst (acc ++ [y]))) else Nx H3) := by
  refine lc_list (K := K) (a := a) (xs := l.map (·.1)) (fun i H' => H' D = some (.lst (((l.take i).map (·.2)).map V.int)) ∧ Same H1 H') ⟨upd_same, Same.new hD⟩ (fun i H' _ h => h.2.sqL ha) ?_ ?_
  · rintro i x H' hx ⟨e1, e2⟩
    have il := (List.getElem?_eq_some_iff.mp hx).1
    rw [List.length_map] at il
    have hat : l[i]? = some l[i] := List.getElem?_eq_getElem il
    rw [List.getElem?_map, hat] at hx
    cases hx
    obtain ⟨b, c, eb, t1, _, _⟩ := tri_at (Dp.keep e2.tupK _ _ rfl (hd _ (List.getElem_mem il)))
    show gTup _ _ _ (l[i]).1 _ _ _
    rw [eb]
    refine ⟨b, _, rfl, t1, rfl, _, _, rfl, _, _, rfl, _, _, rfl, rfl, rfl, _, rfl, _, e1, ?_, ?_, e2.own hD⟩
    · rw [List.length_map, List.length_map, List.length_take]
      exact Nat.lt_of_le_of_lt (show _ ≤ 200 by omega) (by decide)
    · rw [upd_same, List.take_add_one, hat, List.map_append, List.map_append]
      rfl
  · rintro H' ⟨e1, e2⟩
    rw [List.length_map, List.take_length] at e1
    exact hq H' e2 e1
def spSettledBy (K : PySem.W.Frag) : Sp := fun vs H Q _ => ∃ (v w : V) (rs : List Row) (ds : List Nat) (m : Nat), vs = [v, w, .int (m : Int)] ∧ Dp K H v (rowsD rs) ∧ Dp K H w (depD ds) ∧ DepOk rs ds ∧ (∀ r ∈ rs, RowOk r) ∧ 1 ≤ rs.length ∧ rs.length ≤ 4 ∧ 1 ≤ m ∧ m ≤ 40 ∧
  ∀ (H' : Hp) (p : Addr), Same H H' → ((settledO rs ds m = none ∧ H' p = some (.lst [])) ∨ ∃ t, settledO rs ds m = some ((ordL rs ds).take m) ∧ H' p = some (.lst [.ref t]) ∧ Dp K H' (.ref t) (keysD ((ordL rs ds).take m))) → Q (.ref p) H'
def optD (o : Option (List Int)) : PyData := match o with
  | none => .none
  | some l => keysD l
theorem opt_imm (o : Option (List Int)) : imm (optD o) = true := by
  cases o with
  | none => rfl
  | some l => exact keys_imm l
def spSettled (K : PySem.W.Frag) : Sp := fun vs H Q _ => ∃ (v w : V) (rs : List Row) (ds : List Nat) (m : Nat), vs = [v, w, .int (m : Int)] ∧ Dp K H v (rowsD rs) ∧ Dp K H w (depD ds) ∧ DepOk rs ds ∧ (∀ r ∈ rs, RowOk r) ∧ 1 ≤ rs.length ∧ rs.length ≤ 4 ∧ 1 ≤ m ∧ m ≤ 40 ∧
  ∀ (H' : Hp) (x : V), Same H H' → Dp K H' x (optD (settledO rs ds m)) → Q x H'
theorem settled_yes {rs : List Row} {ds : List Nat} {m : Nat} (g : Good rs ds m) : settledO rs ds m = some ((ordL rs ds).take m) := by unfold settledO; rw [if_pos g]
theorem settled_no {rs : List Row} {ds : List Nat} {m : Nat} (g : ¬ Good rs ds m) : settledO rs ds m = none := by unfold settledO; rw [if_neg g]
section
variable {P : Program} {w : World} {K : PySem.W.Frag} {mg : Str → Option Value} {base : Heap}
theorem ok_settled_by (T : Txt P K mg) : FnOk P w K mg base CX0 4 T.f_settled_by T.d_settled_by ["lists", "depths", "many"] (spSettledBy K) := by
  refine T.F_settled_by.ok sc_settled_by (fun vs H Q E h => by obtain ⟨v, w, rs, ds, m, rfl, _⟩ := h; rfl) (fun cdv A outer s H vs Q E hr h => ⟨_, (pss_cons (ps_set (i := 3) sc_settled_by.nd rfl (Or.inr rfl) (pe_call (ok_read_by T) (hr.mono (by omega)) rfl T.g_read_by T.F_read_by.kp T.b_read_by .nil pass0 (pa_cons (pv 0) (pa_cons (pv 1) pa_nil))))
      (pss_cons (ps_set (i := 4) sc_settled_by.nd rfl (Or.inl rfl) (pe_lst pa_nil))
      (pss_cons (ps_for PassesOwn.never rfl (pi_list (pe_call (ok_known_keys T) (hr.mono (by omega)) rfl T.g_known_keys T.F_known_keys.kp T.b_known_keys .nil pass0 (pa_cons (pv 3) pa_nil))) (pg_name (i := 5) sc_settled_by.nd rfl (by first | exact Or.inl rfl | exact Or.inr rfl))
      (pss_cons (ps_set (i := 6) sc_settled_by.nd rfl (Or.inl rfl) (pe_call (ok_sums_by T) (hr.mono (by omega)) rfl T.g_sums_by T.F_sums_by.kp T.b_sums_by .nil pass0 (pa_cons (pv 0) (pa_cons (pv 1) (pa_cons (pv 3) (pa_cons (pv 5) pa_nil))))))
      (pss_one (ps_expr (pe_bm PySem.F.plainAttrs_list PySem.F.slot_list_append PySem.F.type_list_append mt_append (pv 4) (pa_cons (pe_tup (pa_cons (pe_un un_neg (pe_ix ix_tup (pv 6) pe_int (fun _ _ => rfl))) (pa_cons (pv 5) (pa_cons (pv 6) pa_nil)))) pa_nil))))))
      (pss_cons (ps_set (i := 4) sc_settled_by.nd rfl (Or.inl rfl) (pe_callB (cr_sortD (by exact hu64 hr)) rfl T.z_sorted (by decide +kernel) (pa_cons (pv 4) pa_nil)))
      (pss_cons (ps_par (i := 7) (j := 8) rfl sc_settled_by.nd rfl rfl (by decide) rfl rfl (pa_cons (pe_slice sl_list (pv 4) po_none (po_some (pv 2))) (pa_cons (pe_slice sl_list (pv 4) (po_some (pv 2)) po_none) pa_nil)) (by rfl))
      (pss_cons (ps_for PassesOwn.never rfl (pi_zipA rfl T.z_zip (pa_cons (pv 7) (pa_cons (pe_slice sl_list (pv 7) (po_some pe_int) po_none) pa_nil))) (pg_tup rfl (pgs_cons (pg_name (i := 9) sc_settled_by.nd rfl (by first | exact Or.inl rfl | exact Or.inr rfl)) (pgs_cons (pg_name (i := 10) sc_settled_by.nd rfl (by first | exact Or.inl rfl | exact Or.inr rfl)) pgs_nil)))
      (pss_one (ps_if (pt_not (pt_val (pe_call (ok_beats T) (hr.mono (by omega)) rfl T.g_beats T.F_beats.kp T.b_beats .nil pass0 (pa_cons (pe_ix ix_tup (pv 9) pe_int (fun _ _ => rfl)) (pa_cons (pe_ix ix_tup (pv 9) pe_int (fun _ _ => rfl)) (pa_cons (pe_ix ix_tup (pv 10) pe_int (fun _ _ => rfl)) (pa_cons (pe_ix ix_tup (pv 10) pe_int (fun _ _ => rfl)) pa_nil)))))))
      (pss_one (ps_ret (pe_lst pa_nil))) pss_nil)))
      (pss_cons (ps_setLc (i := 11) (own := [("_", 13), ("key", 5), ("sums", 6)]) (g := gTup K 3 (gCons (gName 13) (gCons (gName 5) (gCons (gName 6) gNil)))) rfl sc_settled_by.nd rfl rfl (sw_true rfl rfl rfl (by decide +kernel)) (pi_list (pv 8)) (blkOk_by (own := [("_", 13), ("key", 5), ("sums", 6)]) (N := N_settled_by) (sc := defScope s_settled_by) (by decide +kernel)) (fun _ _ _ _ _ => (pg_tup rfl (pgs_cons (pg_name (i := 13) sc_settled_by.nd rfl (by first | exact Or.inl rfl | exact Or.inr rfl)) (pgs_cons (pg_name (i := 5) sc_settled_by.nd rfl (by first | exact Or.inl rfl | exact Or.inr rfl)) (pgs_cons (pg_name (i := 6) sc_settled_by.nd rfl (by first | exact Or.inl rfl | exact Or.inr rfl)) pgs_nil))))) (fun _ _ _ _ _ => (by exact pts_nil)) (fun _ _ _ _ _ => (by exact (pe_tup (pa_cons (pv 5) (pa_cons (pv 6) pa_nil))))))
      (pss_cons (ps_set (i := 11) sc_settled_by.nd rfl (Or.inl rfl) (pe_op op_cat (pv 11) (pe_lc (own := [("key", 5)]) (te := tTup (tCons (tVar 5) (tCons (tCall (spSumsBy K) [] E0 (tCons (tVar 0) (tCons (tVar 1) (tCons (tVar 3) (tCons (tVar 5) tNil))))) tNil))) rfl sc_settled_by.nd (pi_list (pe_call (ok_strangers T) (hr.mono (by omega)) rfl T.g_strangers T.F_strangers.kp T.b_strangers .nil pass0 (pa_cons (pv 0) (pa_cons (pv 1) (pa_cons (pv 3) pa_nil))))) (blkOk_by (own := [("key", 5)]) (N := N_settled_by) (sc := defScope s_settled_by) (by decide +kernel)) (fun _ _ _ _ _ => (pg_name (i := 5) sc_settled_by.nd rfl (by first | exact Or.inl rfl | exact Or.inr rfl))) (fun _ _ _ _ _ => (by exact pts_nil)) (fun _ _ _ _ _ => (by exact (pe_tup (pa_cons (pv 5) (pa_cons (pe_call (ok_sums_by T) (hr.mono (by omega)) rfl T.g_sums_by T.F_sums_by.kp T.b_sums_by .nil pass0 (pa_cons (pv 0) (pa_cons (pv 1) (pa_cons (pv 3) (pa_cons (pv 5) pa_nil))))) pa_nil))))))))
      (pss_cons (ps_if (pt_cmpR op_lt (pe_callB call_len_seq rfl T.z_len (by decide +kernel) (pa_cons (pv 7) pa_nil)) (pv 2) (nomark _))
      (pss_one (ps_ret (pe_ifExp (pt_val (pe_callB (cr_all rfl) rfl T.z_all (by decide +kernel) (pa_cons (pe_lc (own := [("_", 13), ("sums", 6)]) (te := tOp rEq (tOp (rIxT K) (tVar 6) (tC (.int 1))) (tC (.int 0))) (g := gTup K 2 (gCons (gName 13) (gCons (gName 6) gNil))) rfl sc_settled_by.nd (pi_list (pv 11)) (blkOk_by (own := [("_", 13), ("sums", 6)]) (N := N_settled_by) (sc := defScope s_settled_by) (by decide +kernel)) (fun _ _ _ _ _ => (pg_tup rfl (pgs_cons (pg_name (i := 13) sc_settled_by.nd rfl (by first | exact Or.inl rfl | exact Or.inr rfl)) (pgs_cons (pg_name (i := 6) sc_settled_by.nd rfl (by first | exact Or.inl rfl | exact Or.inr rfl)) pgs_nil)))) (fun _ _ _ _ _ => (by exact pts_nil)) (fun _ _ _ _ _ => (by exact (pe_cmpR op_eq (pe_ix ix_tup (pv 6) pe_int (fun _ _ => rfl)) pe_int (nomark _))))) pa_nil))) (pe_lst (pa_cons (pe_callTy call_tuple_of rfl T.z_tuple (by decide +kernel) (pa_cons (pe_lc (own := [("_", 13), ("key", 5)]) (g := gTup K 3 (gCons (gName 13) (gCons (gName 5) (gCons (gName 13) gNil)))) rfl sc_settled_by.nd (pi_list (pv 7)) (blkOk_by (own := [("_", 13), ("key", 5)]) (N := N_settled_by) (sc := defScope s_settled_by) (by decide +kernel)) (fun _ _ _ _ _ => (pg_tup rfl (pgs_cons (pg_name (i := 13) sc_settled_by.nd rfl (by first | exact Or.inl rfl | exact Or.inr rfl)) (pgs_cons (pg_name (i := 5) sc_settled_by.nd rfl (by first | exact Or.inl rfl | exact Or.inr rfl)) (pgs_cons (pg_name (i := 13) sc_settled_by.nd rfl (by first | exact Or.inl rfl | exact Or.inr rfl)) pgs_nil))))) (fun _ _ _ _ _ => (by exact pts_nil)) (fun _ _ _ _ _ => (by exact (pv 5)))) pa_nil)) pa_nil)) (pe_lst pa_nil)))) pss_nil)
      (pss_cons (ps_set (i := 12) sc_settled_by.nd rfl (Or.inr rfl) (pe_ix ix_list (pv 7) (pe_un un_neg pe_int) (fun _ _ => rfl)))
      (pss_cons (ps_if (pt_not (pt_val (pe_callB (cr_all rfl) rfl T.z_all (by decide +kernel) (pa_cons (pe_lc (own := [("key", 5), ("sums", 6)]) (te := tCall (spBeats K) [] E0 (tCons (tOp (rIxT K) (tVar 12) (tC (.int 1))) (tCons (tOp (rIxT K) (tVar 12) (tC (.int 2))) (tCons (tVar 5) (tCons (tVar 6) tNil))))) (g := gTup K 2 (gCons (gName 5) (gCons (gName 6) gNil))) rfl sc_settled_by.nd (pi_list (pv 11)) (blkOk_by (own := [("key", 5), ("sums", 6)]) (N := N_settled_by) (sc := defScope s_settled_by) (by decide +kernel)) (fun _ _ _ _ _ => (pg_tup rfl (pgs_cons (pg_name (i := 5) sc_settled_by.nd rfl (by first | exact Or.inl rfl | exact Or.inr rfl)) (pgs_cons (pg_name (i := 6) sc_settled_by.nd rfl (by first | exact Or.inl rfl | exact Or.inr rfl)) pgs_nil)))) (fun _ _ _ _ _ => (by exact pts_nil)) (fun _ _ _ _ _ => (by exact (pe_call (ok_beats T) (hr.mono (by omega)) rfl T.g_beats T.F_beats.kp T.b_beats .nil pass0 (pa_cons (pe_ix ix_tup (pv 12) pe_int (fun _ _ => rfl)) (pa_cons (pe_ix ix_tup (pv 12) pe_int (fun _ _ => rfl)) (pa_cons (pv 5) (pa_cons (pv 6) pa_nil)))))))) pa_nil))))
      (pss_one (ps_ret (pe_lst pa_nil))) pss_nil)
      (pss_one (ps_ret (pe_lst (pa_cons (pe_callTy call_tuple_of rfl T.z_tuple (by decide +kernel) (pa_cons (pe_lc (own := [("_", 13), ("key", 5)]) (g := gTup K 3 (gCons (gName 13) (gCons (gName 5) (gCons (gName 13) gNil)))) rfl sc_settled_by.nd (pi_list (pv 7)) (blkOk_by (own := [("_", 13), ("key", 5)]) (N := N_settled_by) (sc := defScope s_settled_by) (by decide +kernel)) (fun _ _ _ _ _ => (pg_tup rfl (pgs_cons (pg_name (i := 13) sc_settled_by.nd rfl (by first | exact Or.inl rfl | exact Or.inr rfl)) (pgs_cons (pg_name (i := 5) sc_settled_by.nd rfl (by first | exact Or.inl rfl | exact Or.inr rfl)) (pgs_cons (pg_name (i := 13) sc_settled_by.nd rfl (by first | exact Or.inl rfl | exact Or.inr rfl)) pgs_nil))))) (fun _ _ _ _ _ => (by exact pts_nil)) (fun _ _ _ _ _ => (by exact (pv 5)))) pa_nil)) pa_nil))))))))))))))), ?_⟩)
  obtain ⟨v, w, rs, ds, m, rfl, hd, hw, ok, oks, h1, h4, m1, m40, q⟩ := h
  refine ⟨_, rfl, _, rfl, v, w, rs, ds, rfl, hd, hw, ok, oks, h4, fun H1 p as s1 ep la rd1 => ?_⟩
  refine ⟨Nat.zero_le _, fun f hf => ?_⟩
  have ep2 := (Same.new (o := .lst []) hf) _ _ ep
  have rd2 : Reads1 (upd H1 f (.lst [])) as rs ds := fun i a r d h1 h2 h3 => (Same.new hf) _ _ (rd1 i a r d h1 h2 h3)
  refine ⟨_, rfl, p, rs, ds, as, rfl, ok, oks, h4, ep2, la, rd2, fun H2 kq ns s2 hkq ek srt mem => ⟨kq, rfl, ⟨_, .of ek⟩, ?_⟩⟩
  have hf0 : H f = none := s1.free hf
  have s02 := (s1.step (o := .lst []) hf).trans s2
  have ef2 := s2 _ _ (@upd_same H1 f (.lst []))
  have ep3 := s2 _ _ ep2
  have rd3 : Reads1 H2 as rs ds := fun i a r d h1 h2 h3 => s2 _ _ (rd2 i a r d h1 h2 h3)
  have nfk : kq ≠ f := fun z => by rw [z, upd_same] at hkq; cases hkq
  have npf : p ≠ f := fun z => by rw [z] at ep; rw [ep] at hf; cases hf
  have hd2 := Dp.keep s02.tupK _ _ (rows_imm rs) hd
  have hw2 := Dp.keep s02.tupK _ _ (dep_imm ds) hw
  clear rd1 rd2 ep ep2 s1 s2 hf hd hw hkq
  have n160 : ns.length ≤ 160 := by
    have z := flat_len (ds := ds) oks
    have sub : ns.length ≤ ((flat rs ds).map (·.2)).length := by
      have nd : ns.Nodup := srt.imp fun h => by omega
      exact nodup_len nd fun k hk => (mem k).mp hk
    rw [List.length_map] at sub
    omega
  have rdF : ∀ {H' : Hp}, But (· = f) H2 H' → Reads1 H' as rs ds := fun {H'} k i a r d h1 h2 h3 => by
    have z := rd3 i a r d h1 h2 h3
    exact k _ _ (fun e => by rw [e, ef2] at z; cases z) z
  have tkF : ∀ {H' : Hp}, But (· = f) H2 H' → TupK H2 H' := fun k => k.tupK fun c ys hc => by rw [hc]; exact not_tup_lst ef2
  refine for_it (walk_list (K := K) (a := kq) (xs := ns.map V.int)) (fun i σ H' => ∃ (x5 x6 : Option V) (l : List (V × Int)), σ = [some v, some w, some (.int m), some (.ref p), some (.ref f), x5, x6, none, none, none, none, none, none, none] ∧ H' f = some (.lst (l.map (·.1))) ∧ l.map (·.2) = ns.take i ∧ (∀ p ∈ l, Dp K H' p.1 (triD rs ds p.2)) ∧ But (· = f) H2 H')
    ⟨none, none, [], rfl, ef2, rfl, (fun p h => by cases h), But.refl _⟩ (fun i σ H' _ h => by obtain ⟨_, _, _, _, _, _, _, k⟩ := h; exact k.sqL nfk (.of ek)) ?_ ?_
  · rintro i x σ _ H3 hi ⟨x5, x6, l, rfl, ef, el, dl, k3⟩ ⟨rfl, hx⟩
    rw [List.length_map] at hi
    have hat : ns[i]? = some ns[i] := List.getElem?_eq_getElem hi
    rw [List.getElem?_map, hat] at hx
    cases hx
    generalize ns[i] = k at hat
    refine ⟨_, rfl, _, rfl, _, rfl, _, rfl, v, w, p, rs, ds, k, as, rfl, Dp.keep (tkF k3) _ _ (rows_imm rs) hd2, Dp.keep (tkF k3) _ _ (dep_imm ds) hw2, ok, oks, h4, k3 _ _ npf ep3, la, rdF k3, fun H4 t s4 dt => ?_⟩
    obtain ⟨t', et, tt⟩ := pair_at dt
    cases et
    have ef4 := s4 _ _ ef
    refine ⟨_, rfl, .inl ⟨rfl, _, .of ef4⟩, _, rfl, t, _, _, _, rfl, rfl, tt, rfl, _, rfl, _, rfl, _, rfl, by show 3 ≤ sizeLine; decide, fun u hu => ?_⟩
    have n5 := Same.new (o := .tup [.int (-(lowS rs ds k)), .int k, .ref t]) hu
    have ef5 := n5 _ _ ef4
    have nuf : u ≠ f := fun z => by rw [z, ef4] at hu; cases hu
    have t5 : TupK (upd H4 u (.tup [.int (-(lowS rs ds k)), .int k, .ref t])) (upd (upd H4 u (.tup [.int (-(lowS rs ds k)), .int k, .ref t])) f (.lst (l.map (·.1) ++ [.ref u]))) := But.tupK (S := (· = f)) (But.set rfl) fun c ys hc => by rw [hc]; exact not_tup_lst ef5
    refine ⟨f, _, _, rfl, rfl, ef5, ?_, _, _, l ++ [(.ref u, k)], rfl, ?_, ?_, ?_, ((k3.trans s4.but).trans n5.but).put rfl⟩
    · rw [List.length_map, ← List.length_map (f := (·.2)), el, List.length_take]
      exact Nat.lt_of_le_of_lt (show _ ≤ 160 by omega) (by decide)
    · rw [upd_same, List.map_append]
      rfl
    · rw [List.map_append, el, List.take_add_one, hat]
      rfl
    · intro p' hp'
      rcases List.mem_append.mp hp' with hp' | hp'
      · exact Dp.keep ((s4.trans n5).tupK.trans t5) _ _ rfl (dl p' hp')
      · rw [List.mem_singleton] at hp'
        rw [hp']
        refine .tup (.of ?_) (.cons (.int _) (.cons (.int _) (.cons (Dp.keep (n5.tupK.trans t5) _ _ (pair_imm _) dt) .nil)))
        rw [upd_ne nuf, upd_same]
  rintro σ H3 ⟨x5, x6, l, rfl, ef, el, dl, k3⟩
  rw [List.length_map, List.take_length] at el
  have s03 : Same H H3 := fun b o e => k3 b o (fun z => by rw [z, hf0] at e; cases e) (s02 b o e)
  have ep4 := k3 _ _ npf ep3
  have rd4 := rdF k3
  have hd3 := Dp.keep (tkF k3) _ _ (rows_imm rs) hd2
  have hw3 := Dp.keep (tkF k3) _ _ (dep_imm ds) hw2
  clear k3 rdF tkF rd3 ep3 hd2 hw2 s02 ek ef2
  have nd0 : (l.map (·.2)).Nodup := by rw [el]; exact srt.imp fun h => by omega
  have mb0 : ∀ k, k ∈ l.map (·.2) ↔ isRead rs ds k := by rw [el]; exact mem
  have l160 : l.length ≤ 160 := by rw [← List.length_map (f := (·.2)), el]; exact n160
  -- sorted
  refine ⟨_, rfl, f, l.map (fun p => (p.1, triD rs ds p.2)), rfl, .of (by rw [List.map_map]; exact ef), ?_, ?_, ?_, ?_, fun g hg => ?_⟩
  · intro p hp
    obtain ⟨a, ha, rfl⟩ := List.mem_map.mp hp
    exact dl a ha
  · intro d1 h1 d2 h2
    rw [List.map_map] at h1 h2
    obtain ⟨a1, _, rfl⟩ := List.mem_map.mp h1
    obtain ⟨a2, _, rfl⟩ := List.mem_map.mp h2
    simp [triD, sumsD, pairD, PySem.W.alike, PySem.W.alikeAll]
  · refine .inl fun d1 h1 => ?_
    rw [List.map_map] at h1
    obtain ⟨a1, _, rfl⟩ := List.mem_map.mp h1
    exact ⟨_, _, rfl⟩
  · intro p hp
    obtain ⟨a, ha, rfl⟩ := List.mem_map.mp hp
    simp [triD, sumsD, pairD, PyData.depth, PyData.depthAll]
  rw [sort_tri, List.map_map]
  have ordE := ord_tri oks nd0 mb0
  have memE : ∀ p ∈ l.mergeSort (leT rs ds), Dp K H3 p.1 (triD rs ds p.2) := fun p hp => dl p ((List.mergeSort_perm l _).mem_iff.mp hp)
  have lenE : (l.mergeSort (leT rs ds)).length ≤ 160 := by rw [List.length_mergeSort]; exact l160
  generalize l.mergeSort (leT rs ds) = so at ordE memE lenE ⊢
  clear nd0 mb0 l160 dl el ef
  have eg : upd H3 g (.lst (so.map ((fun p : V × PyData => p.1) ∘ fun p : V × Int => (p.1, triD rs ds p.2)))) g = some (.lst (so.map (·.1))) := upd_same
  have s34 := Same.new (o := .lst (so.map ((fun p : V × PyData => p.1) ∘ fun p : V × Int => (p.1, triD rs ds p.2)))) hg
  generalize upd H3 g (.lst (so.map ((fun p : V × PyData => p.1) ∘ fun p : V × Int => (p.1, triD rs ds p.2)))) = H4 at eg s34 ⊢
  refine ⟨_, rfl, _, rfl, _, rfl, g, _, rfl, .of eg, fun c1 hc1 => ?_⟩
  have s45 := Same.new (o := .lst (cutV (so.map (·.1)) none (some (m : Int)))) hc1
  refine ⟨_, rfl, _, rfl, _, rfl, g, _, rfl, .of (s45 _ _ eg), fun c2 hc2 => ⟨_, _, rfl, ?_⟩⟩
  have s46 := s45.step (o := .lst (cutV (so.map (·.1)) (some (m : Int)) none)) hc2
  have ec1 := Same.new (o := .lst (cutV (so.map (·.1)) (some (m : Int)) none)) hc2 _ _ (@upd_same H4 c1 (.lst (cutV (so.map (·.1)) none (some (m : Int)))))
  have ec2 := @upd_same (upd H4 c1 (.lst (cutV (so.map (·.1)) none (some (m : Int))))) c2 (.lst (cutV (so.map (·.1)) (some (m : Int)) none))
  generalize upd (upd H4 c1 (.lst (cutV (so.map (·.1)) none (some (m : Int))))) c2 (.lst (cutV (so.map (·.1)) (some (m : Int)) none)) = H6 at s46 ec1 ec2 ⊢
  rw [cut_to, ← List.map_take] at ec1
  rw [cut_from, ← List.map_drop] at ec2
  have s36 := s34.trans s46
  have hd6 := Dp.keep s36.tupK _ _ (rows_imm rs) hd3
  have hw6 := Dp.keep s36.tupK _ _ (dep_imm ds) hw3
  have ep6 := s36 _ _ ep4
  have rd6 : Reads1 H6 as rs ds := fun i a r d h1 h2 h3 => s36 _ _ (rd4 i a r d h1 h2 h3)
  have tri6 : ∀ p ∈ so, Dp K H6 p.1 (triD rs ds p.2) := fun p hp => Dp.keep s36.tupK _ _ rfl (memE p hp)
  have s06 := s03.trans s36
  have hC : (so.take m).map (·.2) = (ordL rs ds).take m := by rw [← ordE, List.map_take]
  have hR : (so.drop m).map (·.2) = (ordL rs ds).drop m := by rw [← ordE, List.map_drop]
  have lenO : so.length = (ordL rs ds).length := by rw [← ordE, List.length_map]
  clear s34 s45 s46 hc1 hc2 hg eg hd3 hw3 ep4 rd4 memE s36 s03
  -- neighbours
  refine ⟨_, rfl, _, rfl, _, rfl, c1, _, rfl, .of ec1, fun b hb => ?_⟩
  have s67 := Same.new (o := .lst (cutV ((so.take m).map (·.1)) (some 1) none)) hb
  refine ⟨c1, b, _, _, rfl, .inl ⟨.of (s67 _ _ ec1), .of upd_same, ?_⟩⟩
  have eb := @upd_same H6 b (.lst (cutV ((so.take m).map (·.1)) (some 1) none))
  generalize upd H6 b (.lst (cutV ((so.take m).map (·.1)) (some 1) none)) = H7 at s67 eb ⊢
  have cut1 : cutV ((so.take m).map (·.1)) (some 1) none = ((so.take m).map (·.1)).drop 1 := cut_from _ 1
  rw [cut1] at eb
  have ec7 := s67 _ _ ec1
  refine for_it (walk_zip (n := min ((so.take m).map (·.1)).length (((so.take m).map (·.1)).drop 1).length) rfl) (fun i σ H' => ∃ (x9 x10 : Option V), σ = [some v, some w, some (.int m), some (.ref p), some (.ref g), x5, x6, some (.ref c1), some (.ref c2), x9, x10, none, none, none] ∧
    (∀ (j : Nat) (a b : Int), j < i → ((ordL rs ds).take m)[j]? = some a → ((ordL rs ds).take m)[j + 1]? = some b → Beats rs ds a b) ∧ Same H7 H') ⟨none, none, rfl, (fun j a b h => by omega), Same.refl _⟩ (fun i σ H' _ h => by obtain ⟨_, _, _, _, k⟩ := h; exact ⟨k.sqL (.of ec7), .of (k _ _ eb)⟩) ?_ ?_
  · rintro i x σ H8' H9' hi ⟨x9, x10, rfl, st, k8⟩ ⟨t, y, z, rfl, ht, rfl, hy, hz⟩
    have hy : ((so.take m).map (·.1))[i]? = some y := hy
    have hz : (((so.take m).map (·.1)).drop 1)[i]? = some z := hz
    rw [List.getElem?_drop, List.getElem?_map] at hz
    rw [List.getElem?_map] at hy
    cases hA : (so.take m)[i]? with
    | none => rw [hA] at hy; cases hy
    | some pa =>
      cases hB : (so.take m)[1 + i]? with
      | none => rw [hB] at hz; cases hz
      | some pb =>
        rw [hA] at hy
        rw [hB] at hz
        have hy : pa.1 = y := Option.some.inj hy
        have hz : pb.1 = z := Option.some.inj hz
        have k9 := (s67.trans k8).step (o := .tup [y, z]) ht
        have kk9 := k8.step (o := .tup [y, z]) ht
        obtain ⟨a1, b1, ea, ta, _, sa⟩ := tri_at (Dp.keep k9.tupK _ _ rfl (tri6 pa (List.mem_of_mem_take (List.mem_of_getElem? hA))))
        obtain ⟨a2, b2, eb2, tb, _, sb2⟩ := tri_at (Dp.keep k9.tupK _ _ rfl (tri6 pb (List.mem_of_mem_take (List.mem_of_getElem? hB))))
        have cA : ((ordL rs ds).take m)[i]? = some pa.2 := by rw [← hC, List.getElem?_map, hA]; rfl
        have cB : ((ordL rs ds).take m)[i + 1]? = some pb.2 := by rw [← hC, List.getElem?_map, Nat.add_comm i 1, hB]; rfl
        refine ⟨t, _, rfl, .of upd_same, rfl, _, _, rfl, _, _, rfl, rfl, ?_⟩
        generalize upd H8' t (.tup [y, z]) = H9 at k9 kk9 ta sa tb sb2 ⊢
        rw [hy] at ea
        rw [hz] at eb2
        subst ea eb2
        refine ⟨_, rfl, a1, _, _, _, rfl, rfl, ta, rfl, _, rfl, a1, _, _, _, rfl, rfl, ta, rfl, _, rfl, a2, _, _, _, rfl, rfl, tb, rfl, _, rfl, a2, _, _, _, rfl, rfl, tb, rfl, b1, b2, _, _, _, _, _, _, rfl, sa, sb2, ?_⟩
        by_cases c : Beats rs ds pa.2 pb.2
        · have c' : topS rs ds pb.2 < lowS rs ds pa.2 ∨ (lowS rs ds pa.2 = topS rs ds pb.2 ∧ pa.2 < pb.2) := c
          refine ⟨_, rfl, iteB' (by simp [c']) ⟨_, _, rfl, fun j a b hj h1 h2 => ?_, kk9⟩⟩
          by_cases e : j < i
          · exact st j a b e h1 h2
          · obtain rfl : j = i := by omega
            rw [cA] at h1
            rw [cB] at h2
            cases h1
            cases h2
            exact c
        · have c' : ¬ (topS rs ds pb.2 < lowS rs ds pa.2 ∨ (lowS rs ds pa.2 = topS rs ds pb.2 ∧ pa.2 < pb.2)) := c
          refine ⟨_, rfl, iteB (by simp [c']) ⟨Nat.zero_le _, fun e he => q _ e ((s06.trans k9).step he) (.inl ⟨settled_no fun gd => ?_, upd_same⟩)⟩⟩
          obtain ⟨u1, u2⟩ := List.getElem?_eq_some_iff.mp cA
          obtain ⟨w1, w2⟩ := List.getElem?_eq_some_iff.mp cB
          have z := List.pairwise_iff_getElem.mp gd.row i (i + 1) u1 w1 (Nat.lt_succ_self i)
          rw [u2, w2] at z
          exact c z
  rintro σ H8 ⟨x9, x10, rfl, st, k8⟩
  have row : ((ordL rs ds).take m).Pairwise (Beats rs ds) := rows_steps oks ok fun i a b h1 h2 => by
    refine st i a b ?_ h1 h2
    have z1 := (List.getElem?_eq_some_iff.mp h2).1
    rw [← hC, List.length_map] at z1
    rw [List.length_drop, List.length_map]
    omega
  have s68 := s67.trans k8
  have ec8 := s68 _ _ ec1
  have ec28 := s68 _ _ ec2
  have tri8 : ∀ p ∈ so, Dp K H8 p.1 (triD rs ds p.2) := fun p hp => Dp.keep s68.tupK _ _ rfl (tri6 p hp)
  have hd8 := Dp.keep s68.tupK _ _ (rows_imm rs) hd6
  have hw8 := Dp.keep s68.tupK _ _ (dep_imm ds) hw6
  have ep8 := s68 _ _ ep6
  have rd8 : Reads1 H8 as rs ds := fun i a r d h1 h2 h3 => s68 _ _ (rd6 i a r d h1 h2 h3)
  have s08 := s06.trans s68
  clear st k8 s67 s68 tri6 hd6 hw6 ep6 rd6 ec1 ec2 s06 eb ec7 hb
  -- the rest
  refine ⟨_, rfl, c2, rfl, ⟨_, .of ec28⟩, fun D hD => ?_⟩
  refine lc_list (K := K) (a := c2) (xs := (so.drop m).map (·.1)) (fun i H' => ∃ l : List (V × Int), H' D = some (.lst (l.map (·.1))) ∧ l.map (·.2) = ((ordL rs ds).drop m).take i ∧ (∀ p ∈ l, Dp K H' p.1 (othD rs ds p.2)) ∧ Same H8 H') ⟨[], upd_same, rfl, (fun p h => by cases h), Same.new hD⟩ (fun i H' _ h => by obtain ⟨_, _, _, _, k⟩ := h; exact k.sqL (.of ec28)) ?_ ?_
  · rintro i x H9 hx ⟨l, e1, e2, e3, k9⟩
    rw [List.getElem?_map] at hx
    cases hA : (so.drop m)[i]? with
    | none => rw [hA] at hx; cases hx
    | some pa =>
      rw [hA] at hx
      cases hx
      obtain ⟨a1, b1, ea, ta, ds1, sa⟩ := tri_at (Dp.keep k9.tupK _ _ rfl (tri8 pa (List.mem_of_mem_drop (List.mem_of_getElem? hA))))
      have cA : ((ordL rs ds).drop m)[i]? = some pa.2 := by rw [← hR, List.getElem?_map, hA]; rfl
      have il := (List.getElem?_eq_some_iff.mp cA).1
      rw [List.length_drop] at il
      show gTup _ _ _ pa.1 _ _ _
      rw [ea]
      refine ⟨a1, _, rfl, ta, rfl, _, _, rfl, _, _, rfl, _, _, rfl, rfl, rfl, _, rfl, _, rfl, by show 2 ≤ sizeLine; decide, fun u hu => ?_⟩
      have n9 := Same.new (o := .tup [.int pa.2, .ref b1]) hu
      have nuD : u ≠ D := fun z => by rw [z, e1] at hu; cases hu
      have t9 : TupK (upd H9 u (.tup [.int pa.2, .ref b1])) (upd (upd H9 u (.tup [.int pa.2, .ref b1])) D (.lst (l.map (·.1) ++ [.ref u]))) := But.tupK (S := (· = D)) (But.set rfl) fun c ys hc => by rw [hc]; exact not_tup_lst (n9 _ _ e1)
      refine ⟨_, n9 _ _ e1, ?_, l ++ [(.ref u, pa.2)], ?_, ?_, ?_, (k9.step hu).own hD⟩
      · rw [List.length_map, ← List.length_map (f := (·.2)), e2, List.length_take]
        exact Nat.lt_of_le_of_lt (show _ ≤ 160 by omega) (by decide)
      · rw [upd_same, List.map_append]
        rfl
      · rw [List.map_append, e2, List.take_add_one, cA]
        rfl
      · intro p' hp'
        rcases List.mem_append.mp hp' with hp' | hp'
        · exact Dp.keep (n9.tupK.trans t9) _ _ rfl (e3 p' hp')
        · rw [List.mem_singleton] at hp'
          rw [hp']
          refine .tup (.of ?_) (.cons (.int _) (.cons (Dp.keep (n9.tupK.trans t9) _ _ (pair_imm _) ds1) .nil))
          rw [upd_ne nuD, upd_same]
  rintro H9 ⟨l1, e1, e2, e3, k9⟩
  rw [List.length_map, ← List.length_map (f := (·.2)), hR, List.take_length] at e2
  refine gname_of ?_
  -- and the strangers
  refine ⟨_, rfl, _, rfl, _, rfl, _, rfl, v, w, p, rs, ds, as, rfl, Dp.keep k9.tupK _ _ (rows_imm rs) hd8, Dp.keep k9.tupK _ _ (dep_imm ds) hw8, ok, oks, h4, k9 _ _ ep8, la, fun i a r d h1 h2 h3 => k9 _ _ (rd8 i a r d h1 h2 h3), fun H10 sq S s10 es str sl => ⟨sq, rfl, ⟨_, .of es⟩, fun D2 hD2 => ?_⟩⟩
  have k10 := k9.trans s10
  have e10 := s10 _ _ e1
  refine lc_list (K := K) (a := sq) (xs := S.map V.int) (fun i H' => ∃ l : List (V × Int), H' D2 = some (.lst (l.map (·.1))) ∧ l.map (·.2) = S.take i ∧ (∀ p ∈ l, Dp K H' p.1 (othD rs ds p.2)) ∧ Same H10 H') ⟨[], upd_same, rfl, (fun p h => by cases h), Same.new hD2⟩ (fun i H' _ h => by obtain ⟨_, _, _, _, k⟩ := h; exact k.sqL (.of es)) ?_ ?_
  · rintro i x H11 hx ⟨l, f1, f2, f3, k11⟩
    rw [List.getElem?_map] at hx
    cases hA : S[i]? with
    | none => rw [hA] at hx; cases hx
    | some k =>
      rw [hA] at hx
      cases hx
      have il := (List.getElem?_eq_some_iff.mp hA).1
      have k811 := k10.trans k11
      refine ⟨rfl, _, rfl, _, rfl, _, rfl, _, rfl, _, rfl, v, w, p, rs, ds, k, as, rfl, Dp.keep k811.tupK _ _ (rows_imm rs) hd8, Dp.keep k811.tupK _ _ (dep_imm ds) hw8, ok, oks, h4, k811 _ _ ep8, la, fun i a r d h1 h2 h3 => k811 _ _ (rd8 i a r d h1 h2 h3), fun H12 t s12 dt => ?_⟩
      refine ⟨by show 2 ≤ sizeLine; decide, fun u hu => ?_⟩
      have f12 := s12 _ _ f1
      have n12 := Same.new (o := .tup [.int k, .ref t]) hu
      have nuD : u ≠ D2 := fun z => by rw [z, f12] at hu; cases hu
      have t12 : TupK (upd H12 u (.tup [.int k, .ref t])) (upd (upd H12 u (.tup [.int k, .ref t])) D2 (.lst (l.map (·.1) ++ [.ref u]))) := But.tupK (S := (· = D2)) (But.set rfl) fun c ys hc => by rw [hc]; exact not_tup_lst (n12 _ _ f12)
      refine ⟨_, n12 _ _ f12, ?_, l ++ [(.ref u, k)], ?_, ?_, ?_, ((k11.trans s12).step hu).own hD2⟩
      · rw [List.length_map, ← List.length_map (f := (·.2)), f2, List.length_take]
        exact Nat.lt_of_le_of_lt (show _ ≤ 5 by omega) (by decide)
      · rw [upd_same, List.map_append]
        rfl
      · rw [List.map_append, f2, List.take_add_one, hA]
        rfl
      · intro p' hp'
        rcases List.mem_append.mp hp' with hp' | hp'
        · exact Dp.keep ((s12.trans n12).tupK.trans t12) _ _ rfl (f3 p' hp')
        · rw [List.mem_singleton] at hp'
          rw [hp']
          refine .tup (.of ?_) (.cons (.int _) (.cons (Dp.keep (n12.tupK.trans t12) _ _ (pair_imm _) dt) .nil))
          rw [upd_ne nuD, upd_same]
  rintro H11 ⟨l2, f1, f2, f3, k11⟩
  rw [List.length_map, List.take_length] at f2
  have l1len : l1.length ≤ 160 := by
    rw [← List.length_map (f := (·.2)), e2, List.length_drop]
    omega
  have l2len : l2.length ≤ 5 := by rw [← List.length_map (f := (·.2)), f2]; exact sl
  refine ⟨D, D2, _, _, rfl, rfl, k11 _ _ e10, f1, ?_, fun o ho => ?_⟩
  · rw [List.length_map, List.length_map]
    exact Nat.le_trans (show _ ≤ 165 by omega) (by decide)
  have s812 := (k10.trans k11).step (o := .lst (l1.map (·.1) ++ l2.map (·.1))) ho
  have eo : upd H11 o (.lst (l1.map (·.1) ++ l2.map (·.1))) o = some (.lst ((l1 ++ l2).map (·.1))) := by rw [upd_same, List.map_append]
  have oth12 : ∀ p ∈ l1 ++ l2, Dp K (upd H11 o (.lst (l1.map (·.1) ++ l2.map (·.1)))) p.1 (othD rs ds p.2) := by
    intro p hp
    rcases List.mem_append.mp hp with hp | hp
    · exact Dp.keep ((s10.trans k11).step ho).tupK _ _ rfl (e3 p hp)
    · exact Dp.keep (Same.new ho).tupK _ _ rfl (f3 p hp)
  generalize upd H11 o (.lst (l1.map (·.1) ++ l2.map (·.1))) = H12 at s812 eo oth12 ⊢
  have keyO : (l1 ++ l2).map (·.2) = (ordL rs ds).drop m ++ S := by rw [List.map_append, e2, f2]
  have lenL : (l1 ++ l2).length ≤ 165 := by rw [List.length_append]; omega
  generalize l1 ++ l2 = lo at eo oth12 keyO lenL
  have ec12 := s812 _ _ ec8
  have tri12 : ∀ p ∈ so, Dp K H12 p.1 (triD rs ds p.2) := fun p hp => Dp.keep s812.tupK _ _ rfl (tri8 p hp)
  have s012 := s08.trans s812
  clear e10 k10 k11 s10 e1 e3 f1 f3 k9 tri8 hd8 hw8 ep8 rd8 ec8 ec28 s08 s812 ho hD hD2 es
  have takeL : (so.take m).length ≤ 160 := by rw [List.length_take]; omega
  refine ⟨_, rfl, c1, _, rfl, .inl (.of ec12), _, rfl, _, _, rfl, rfl, _, rfl, ?_⟩
  rw [List.length_map, List.length_take]
  by_cases few : so.length < m
  · refine iteB (decide_eq_true (by omega)) ?_
    have few' : (ordL rs ds).length < m := by omega
    refine ⟨_, rfl, o, rfl, ⟨_, .of eo⟩, fun D3 hD3 => ?_⟩
    refine lc_list (K := K) (a := o) (xs := lo.map (·.1)) (fun i H' => H' D3 = some (.lst (((lo.take i).map fun p => decide (V.int (topS rs ds p.2) = V.int 0)).map V.bl)) ∧ Same H12 H') ⟨upd_same, Same.new hD3⟩ (fun i H' _ h => h.2.sqL (.of eo)) ?_ ?_
    · rintro i x H13 hx ⟨g1, g2⟩
      rw [List.getElem?_map] at hx
      cases hA : lo[i]? with
      | none => rw [hA] at hx; cases hx
      | some pa =>
        rw [hA] at hx
        cases hx
        have il := (List.getElem?_eq_some_iff.mp hA).1
        obtain ⟨a1, b1, ea, ta, sa⟩ := oth_at (Dp.keep g2.tupK _ _ rfl (oth12 pa (List.mem_of_getElem? hA)))
        show gTup _ _ _ pa.1 _ _ _
        rw [ea]
        refine ⟨a1, _, rfl, ta, rfl, _, _, rfl, _, _, rfl, rfl, rfl, _, rfl, b1, _, _, _, rfl, rfl, sa, rfl, rfl, _, g1, ?_, ?_, g2.own hD3⟩
        · rw [List.length_map, List.length_map, List.length_take]
          exact Nat.lt_of_le_of_lt (show _ ≤ 165 by omega) (by decide)
        · rw [upd_same, List.take_add_one, hA, List.map_append, List.map_append]
          rfl
    · rintro H13 ⟨g1, g2⟩
      rw [List.length_map, List.take_length] at g1
      refine ⟨D3, _, rfl, .of g1, _, rfl, ?_⟩
      have keyS : lo.map (·.2) = S := by
        rw [keyO, List.drop_of_length_le (by omega), List.nil_append]
      by_cases z : ∀ s ∈ S, topS rs ds s = 0
      · refine iteB ?_ ?_
        · rw [List.all_eq_true]
          intro b hb
          obtain ⟨p, hp, rfl⟩ := List.mem_map.mp hb
          have := z p.2 (by rw [← keyS]; exact List.mem_map_of_mem hp)
          simp [this]
        have gd := Good.of_few str few' row z
        refine ⟨_, rfl, c1, rfl, ⟨_, .of (g2 _ _ ec12)⟩, fun D4 hD4 => ?_⟩
        refine lc_keys (l := so.take m) (rs := rs) (ds := ds) (.of (g2 _ _ ec12)) (fun p hp => Dp.keep g2.tupK _ _ rfl (tri12 p (List.mem_of_mem_take hp))) hD4 (by omega) fun H14 s14 e14 => ?_
        rw [hC] at e14
        refine ⟨D4, _, rfl, .inl ⟨.of e14, fun t ht => ⟨by show 1 ≤ sizeLine; decide, fun r hr => ?_⟩⟩⟩
        exact q _ r ((((s012.trans g2).trans s14).step ht).step hr) (.inr ⟨t, settled_yes gd, upd_same, .tup (.of (Same.new hr _ _ upd_same)) (dpAll_ints _)⟩)
      · refine iteB' ?_ ⟨Nat.zero_le _, fun r hr => q _ r ((s012.trans g2).step hr) (.inl ⟨settled_no fun gd => z (str.zero.mpr (gd.few few')), upd_same⟩)⟩
        rw [List.all_eq_false]
        refine Classical.byContradiction fun no => z fun s hs => ?_
        rw [← keyS] at hs
        obtain ⟨p, hp, rfl⟩ := List.mem_map.mp hs
        refine Classical.byContradiction fun ne => no ⟨false, List.mem_map.mpr ⟨p, hp, by simp [ne]⟩, by simp⟩
  · refine iteB' (decide_eq_false (by omega)) ?_
    have full : m ≤ (ordL rs ds).length := by omega
    obtain ⟨ys, pl, epl⟩ : ∃ ys pl, so.take m = ys ++ [pl] := by
      have ne : so.take m ≠ [] := fun z => by
        have := congrArg List.length z
        rw [List.length_take, List.length_nil] at this
        omega
      exact ⟨_, _, (List.dropLast_concat_getLast ne).symm⟩
    have lasti : ((ordL rs ds).take m)[m - 1]? = some pl.2 := by
      have lm : ys.length = m - 1 := by
        have := congrArg List.length epl
        rw [List.length_take, List.length_append] at this
        simp at this
        omega
      rw [← hC, epl, List.map_append, List.getElem?_append_right (by rw [List.length_map]; omega), List.length_map, lm]
      simp
    have inl : pl ∈ so := List.mem_of_mem_take (by rw [epl]; exact List.mem_append_right _ (List.mem_singleton.mpr rfl))
    obtain ⟨al, bl, eal, tal, _, sal⟩ := tri_at (tri12 pl inl)
    have atl : atI ((so.take m).map (·.1)) (-1) = some (.ref al) := by
      rw [epl, List.map_append, ← eal]
      exact atI_last _ _
    refine ⟨_, rfl, _, rfl, c1, _, _, _, rfl, rfl, .of ec12, atl, ?_⟩
    refine ⟨_, rfl, o, rfl, ⟨_, .of eo⟩, fun D3 hD3 => ?_⟩
    refine lc_list (K := K) (a := o) (xs := lo.map (·.1)) (fun i H' => H' D3 = some (.lst (((lo.take i).map fun p => decide (topS rs ds p.2 < lowS rs ds pl.2 ∨ (lowS rs ds pl.2 = topS rs ds p.2 ∧ pl.2 < p.2))).map V.bl)) ∧ Same H12 H') ⟨upd_same, Same.new hD3⟩ (fun i H' _ h => h.2.sqL (.of eo)) ?_ ?_
    · rintro i x H13 hx ⟨g1, g2⟩
      rw [List.getElem?_map] at hx
      cases hA : lo[i]? with
      | none => rw [hA] at hx; cases hx
      | some pa =>
        rw [hA] at hx
        cases hx
        have il := (List.getElem?_eq_some_iff.mp hA).1
        obtain ⟨a1, b1, ea, ta, sa⟩ := oth_at (Dp.keep g2.tupK _ _ rfl (oth12 pa (List.mem_of_getElem? hA)))
        have tal' := g2.sqT tal
        show gTup _ _ _ pa.1 _ _ _
        rw [ea]
        refine ⟨a1, _, rfl, ta, rfl, _, _, rfl, _, _, rfl, rfl, rfl, _, rfl, al, _, _, _, rfl, rfl, tal', rfl, _, rfl, al, _, _, _, rfl, rfl, tal', rfl, _, rfl, _, rfl, bl, b1, _, _, _, _, _, _, rfl, g2.sqT sal, sa, _, g1, ?_, ?_, g2.own hD3⟩
        · rw [List.length_map, List.length_map, List.length_take]
          exact Nat.lt_of_le_of_lt (show _ ≤ 165 by omega) (by decide)
        · rw [upd_same, List.take_add_one, hA, List.map_append, List.map_append]
          rfl
    · rintro H13 ⟨g1, g2⟩
      rw [List.length_map, List.take_length] at g1
      refine ⟨D3, _, rfl, .of g1, _, rfl, ?_⟩
      by_cases z : ∀ k ∈ (ordL rs ds).drop m ++ S, Beats rs ds pl.2 k
      · refine iteB' ?_ ?_
        · rw [Bool.not_eq_false', List.all_eq_true]
          intro b hb
          obtain ⟨p, hp, rfl⟩ := List.mem_map.mp hb
          have := z p.2 (by rw [← keyO]; exact List.mem_map_of_mem hp)
          exact decide_eq_true this
        have gd := Good.of_full oks ok str full row m1 lasti z
        refine ⟨_, rfl, c1, rfl, ⟨_, .of (g2 _ _ ec12)⟩, fun D4 hD4 => ?_⟩
        refine lc_keys (l := so.take m) (rs := rs) (ds := ds) (.of (g2 _ _ ec12)) (fun p hp => Dp.keep g2.tupK _ _ rfl (tri12 p (List.mem_of_mem_take hp))) hD4 (by omega) fun H14 s14 e14 => ?_
        rw [hC] at e14
        refine ⟨D4, _, rfl, .inl ⟨.of e14, fun t ht => ⟨by show 1 ≤ sizeLine; decide, fun r hr => ?_⟩⟩⟩
        exact q _ r ((((s012.trans g2).trans s14).step ht).step hr) (.inr ⟨t, settled_yes gd, upd_same, .tup (.of (Same.new hr _ _ upd_same)) (dpAll_ints _)⟩)
      · refine iteB ?_ ⟨Nat.zero_le _, fun r hr => q _ r ((s012.trans g2).step hr) (.inl ⟨settled_no fun gd => z (gd.full_of oks str full lasti), upd_same⟩)⟩
        rw [Bool.not_eq_true', List.all_eq_false]
        refine Classical.byContradiction fun no => z fun k hk => ?_
        rw [← keyO] at hk
        obtain ⟨p, hp, rfl⟩ := List.mem_map.mp hk
        refine Classical.byContradiction fun ne => no ⟨false, List.mem_map.mpr ⟨p, hp, decide_eq_false ne⟩, by simp⟩
theorem ok_settled (T : Txt P K mg) : FnOk P w K mg base CX0 7 T.f_settled T.d_settled ["lists", "depths", "many"] (spSettled K) := by
  refine T.F_settled.ok sc_settled (fun vs H Q E h => by obtain ⟨v, w, rs, ds, m, rfl, _⟩ := h; rfl) (fun cdv A outer s H vs Q E hr h => ⟨_, (pss_cons (ps_expr (pe_call (ok_check_lists T) (hr.mono (by omega)) rfl T.g_check_lists T.F_check_lists.kp T.b_check_lists .nil pass0 (pa_cons (pv 0) pa_nil)))
      (pss_cons (ps_expr (pe_call (ok_check_depths T) (hr.mono (by omega)) rfl T.g_check_depths T.F_check_depths.kp T.b_check_depths .nil pass0 (pa_cons (pv 0) (pa_cons (pv 1) pa_nil))))
      (pss_cons (ps_expr (pe_call (ok_check_many T) (hr.mono (by omega)) rfl T.g_check_many T.F_check_many.kp T.b_check_many .nil pass0 (pa_cons (pv 2) pa_nil)))
      (pss_cons (ps_set (i := 3) sc_settled.nd rfl (Or.inl rfl) (pe_call (ok_settled_by T) (hr.mono (by omega)) rfl T.g_settled_by T.F_settled_by.kp T.b_settled_by .nil pass0 (pa_cons (pv 0) (pa_cons (pv 1) (pa_cons (pv 2) pa_nil)))))
      (pss_one (ps_ret (pe_ifExp (pt_cmpR (op_neNil (by exact Nat.lt_of_succ_lt (hu_of hr))) (pv 3) (pe_lst pa_nil) (nomark _)) (pe_ix ix_list (pv 3) pe_int (fun _ _ => rfl)) pe_non))))))), ?_⟩)
  obtain ⟨v, w, rs, ds, m, rfl, hd, hw, ok, oks, h1, h4, m1, m40, q⟩ := h
  refine ⟨_, rfl, v, rs, rfl, hd, oks, h1, h4, fun H1 s1 => ?_⟩
  have hd1 := Dp.keep s1.tupK _ _ (rows_imm rs) hd
  have hw1 := Dp.keep s1.tupK _ _ (dep_imm ds) hw
  refine ⟨_, rfl, _, rfl, v, w, rs, ds, rfl, hd1, hw1, ok, (fun r hr => (oks r hr).len), h4, fun H2 s2 => ?_⟩
  refine ⟨_, rfl, m, rfl, m1, m40, ?_⟩
  refine ⟨_, rfl, _, rfl, _, rfl, v, w, rs, ds, m, rfl, Dp.keep s2.tupK _ _ (rows_imm rs) hd1, Dp.keep s2.tupK _ _ (dep_imm ds) hw1, ok, oks, h1, h4, m1, m40, fun H3 p s3 ans => ?_⟩
  refine ⟨_, rfl, Nat.zero_le _, fun e he => ?_⟩
  have s4 := Same.new (o := .lst []) he
  have s04 := ((s1.trans s2).trans s3).trans s4
  rcases ans with ⟨a1, a2⟩ | ⟨t, a1, a2, a3⟩
  · refine ⟨p, e, [], rfl, rfl, .of (s4 _ _ a2), .of upd_same, _, rfl, iteB' rfl (q _ .non s04 ?_)⟩
    rw [a1]
    exact .non
  · refine ⟨p, e, [.ref t], rfl, rfl, .of (s4 _ _ a2), .of upd_same, _, rfl, iteB rfl ⟨_, rfl, p, _, _, _, rfl, rfl, .of (s4 _ _ a2), rfl, q _ (.ref t) s04 ?_⟩⟩
    rw [a1]
    exact Dp.keep s4.tupK _ _ (keys_imm _) a3
end
end K71
set_option pp.maxSteps 1200
namespace K71
open PySem PySem.Spec PyProof.Rows L2 RZ
def spOthers (K : PySem.W.Frag) : Sp := fun vs H Q _ => ∃ (v w : V) (d : Addr) (rs : List Row) (ds : List Nat) (t : Row), vs = [v, w, .ref d] ∧ Dp K H v (rowsD rs) ∧ Dp K H w (depD ds) ∧ DepOk rs ds ∧ (∀ r ∈ rs, RowOk r) ∧ rs.length ≤ 4 ∧ H d = some (.dK (dz t)) ∧ Tot t (flat rs ds) ∧
  ∀ (H' : Hp) (q : Addr) (S : List Int), Same H H' → H' q = some (.lst (S.map V.int)) → Strg rs ds S → S.Nodup → S.length ≤ 5 → Q (.ref q) H'
theorem neg_sub (p : Int × Int) {K : PySem.W.Frag} {H : Hp} : Dp K H (.int (0 - p.1)) (.int (-p.1)) := by
  rw [show 0 - p.1 = -p.1 by omega]
  exact .int _
section
variable {P : Program} {w : World} {K : PySem.W.Frag} {mg : Str → Option Value} {base : Heap}
theorem ok_law_best (T : Txt P K mg) : FnOk P w K mg base CX0 1 T.f_law_best T.d_law_best ["lists", "many"] (spBest K) := by
  refine T.F_law_best.ok sc_law_best (fun vs H Q E h => by obtain ⟨v, rs, m, rfl, _⟩ := h; rfl) (fun cdv A outer s H vs Q E hr h => ⟨_, (pss_cons (ps_set (i := 2) sc_law_best.nd rfl (Or.inr rfl) pe_dnewK)
      (pss_cons (ps_for PassesOwn.never rfl (pi_tup (pv 0)) (pg_name (i := 3) sc_law_best.nd rfl (by first | exact Or.inl rfl | exact Or.inr rfl))
      (pss_one (ps_for PassesOwn.never rfl (pi_tup (pv 3)) (pg_tup rfl (pgs_cons (pg_name (i := 4) sc_law_best.nd rfl (by first | exact Or.inl rfl | exact Or.inr rfl)) (pgs_cons (pg_name (i := 5) sc_law_best.nd rfl (by first | exact Or.inl rfl | exact Or.inr rfl)) pgs_nil)))
      (pss_one (ps_dput (by exact hu_of hr) (pv 2) (pv 5) (pe_op op_add (pe_dget2 (by exact hu_of hr) (pv 2) (pv 5) pe_int ⟨by rfl, by rfl, by rfl, by rfl⟩) (pv 4)) rfl)))))
      (pss_one (ps_ret (pe_callTy call_tuple_of rfl T.z_tuple (by decide +kernel) (pa_cons (pe_lc (own := [("total", 6), ("key", 5)]) (g := gTup K 2 (gCons (gName 6) (gCons (gName 5) gNil))) rfl sc_law_best.nd (pi_list (pe_slice sl_list (pe_callB (cr_sortD (by exact hu64 hr)) rfl T.z_sorted (by decide +kernel) (pa_cons (pe_lock (pe_lc (own := [("key", 5)]) rfl sc_law_best.nd (pi_keys (pv 2)) (blkOk_by (own := [("key", 5)]) (N := N_law_best) (sc := defScope s_law_best) (by decide +kernel)) (fun _ _ _ _ _ => (pg_name (i := 5) sc_law_best.nd rfl (by first | exact Or.inl rfl | exact Or.inr rfl))) (fun _ _ _ _ _ => (by exact pts_nil)) (fun _ _ _ _ _ => (by exact (pe_tup (pa_cons (pe_op op_sub pe_int (pe_dget (by exact hu_of hr) (pv 2) (pv 5) (fun _ _ => rfl))) (pa_cons (pv 5) pa_nil))))))) pa_nil)) po_none (po_some (pv 1)))) (blkOk_by (own := [("total", 6), ("key", 5)]) (N := N_law_best) (sc := defScope s_law_best) (by decide +kernel)) (fun _ _ _ _ _ => (pg_tup rfl (pgs_cons (pg_name (i := 6) sc_law_best.nd rfl (by first | exact Or.inl rfl | exact Or.inr rfl)) (pgs_cons (pg_name (i := 5) sc_law_best.nd rfl (by first | exact Or.inl rfl | exact Or.inr rfl)) pgs_nil)))) (fun _ _ _ _ _ => (by exact pts_nil)) (fun _ _ _ _ _ => (by exact (pv 5)))) pa_nil)))))), ?_⟩)
  obtain ⟨v, rs, m, rfl, hd, oks, h1, h4, m1, m40, q⟩ := h
  obtain ⟨a, xs, rfl, sq, da⟩ := tup_at hd
  obtain ⟨len, get⟩ := map_get da
  refine fun d hdn => ?_
  have s0 := Same.new (o := .dK []) hdn
  refine ⟨_, rfl, a, rfl, ⟨xs, s0.sqT sq⟩, ?_⟩
  refine for_it (walk_tup (K := K) (a := a) (xs := xs)) (fun i σ H' => ∃ (x3 x4 x5 : Option V) (t : Row), σ = [some (.ref a), some (.int m), some (.ref d), x3, x4, x5, none] ∧ H' d = some (.dK (dz t)) ∧ Tot t (rs.take i).flatten ∧ Same H H')
    ⟨none, none, none, [], rfl, upd_same, Tot.nil, s0⟩ (fun i σ H' _ h => by obtain ⟨_, _, _, _, _, _, _, k⟩ := h; exact k.sqT sq) ?_ ?_
  · rintro i x σ _ H1 hi ⟨x3, x4, x5, t, rfl, ed, tot, k1⟩ ⟨rfl, hx⟩
    obtain ⟨r, hr1, hr2⟩ := get i x hx
    obtain ⟨ra, rxs, rfl, rsq, rda⟩ := tup_at (Dp.keep k1.tupK _ _ (row_imm r) hr2)
    obtain ⟨rlen, rget⟩ := map_get rda
    have okr := oks r (List.mem_of_getElem? hr1)
    have hi4 : i < 4 := by have := (List.getElem?_eq_some_iff.mp hr1).1; omega
    have l0 := flatten_len oks i
    have tk : ∀ {H' : Hp}, But (· = d) H1 H' → TupK H1 H' := fun k => k.tupK fun c ys hc => by rw [hc]; exact not_tup_dk ed
    refine ⟨_, rfl, ra, rfl, ⟨rxs, rsq⟩, ?_⟩
    refine for_it (walk_tup (K := K) (a := ra) (xs := rxs)) (fun j σ H' => ∃ (x4 x5 : Option V) (t : Row), σ = [some (.ref a), some (.int m), some (.ref d), some (.ref ra), x4, x5, none] ∧ H' d = some (.dK (dz t)) ∧ Tot t ((rs.take i).flatten ++ r.take j) ∧ But (· = d) H1 H')
      ⟨x4, x5, t, rfl, ed, by rw [List.take_zero, List.append_nil]; exact tot, But.refl _⟩ (fun j σ H' _ h => by obtain ⟨_, _, _, _, _, _, k⟩ := h; exact (tk k).sqT rsq) ?_ ?_
    · rintro j z σ _ H2 hj ⟨x4, x5, t, rfl, ed2, tot2, k2⟩ ⟨rfl, hz⟩
      obtain ⟨p, hp1, hp2⟩ := rget j z hz
      obtain ⟨pb, rfl, t1⟩ := pair_at (Dp.keep (tk k2) _ _ (pair_imm p) hp2)
      obtain ⟨o, eo, go⟩ := tot2.get p.2
      refine ⟨pb, _, rfl, t1, rfl, _, _, rfl, _, _, rfl, rfl, ?_⟩
      refine ⟨_, rfl, d, rfl, .inl ⟨_, .inl ed2⟩, _, rfl, o, .inl ⟨_, Sum.inl p.2, .inl ed2, rfl, eo.symm⟩, _, rfl, _, _, go, rfl, _, rfl, _, rfl, d, _, rfl, DPut.k (k := Sum.inl p.2) ed2 ?_, ?_⟩
      · unfold dz
        rw [List.length_map]
        have := tot2.len
        rw [List.length_append, List.length_take] at this
        have := okr.len
        exact Nat.lt_of_le_of_lt (show _ ≤ 200 by omega) (by decide)
      · rw [dz_put]
        refine ⟨_, _, putR t p.2 (sumK ((rs.take i).flatten ++ r.take j) p.2 + p.1), rfl, upd_same, ?_, k2.put rfl⟩
        rw [List.take_add_one, hp1, ← List.append_assoc]
        exact tot2.put p.2 p.1
    · rintro σ H2 ⟨x4, x5, t, rfl, ed2, tot2, k2⟩
      refine ⟨_, x4, x5, t, rfl, ed2, ?_, ?_⟩
      · rw [flatten_next hr1]
        rw [rlen, List.take_length] at tot2
        exact tot2
      · exact But.toSame (S := (· = d)) k2 k1 (fun b e => by rw [e]; exact hdn)
  rintro σ H1 ⟨x3, x4, x5, t, rfl, ed, tot, s1⟩
  rw [len, List.take_length, ← flat_ends] at tot
  refine ⟨d, _, ed, trivial, fun od => ?_⟩
  have ez : upd H1 d (.frz od (.dK (dz t))) d = some (.frz od (.dK (dz t))) := upd_same
  generalize hH2 : upd H1 d (.frz od (.dK (dz t))) = H2 at ez ⊢
  refine ⟨_, rfl, d, od, rfl, .inl ⟨_, ez, fun D hD => ?_⟩⟩
  have t160 : t.length ≤ 160 := by
    have := tot.len
    have := flat_len (ds := ends rs) oks
    omega
  refine lc_it walk_keys (fun i H' => ∃ ps : List (V × (Int × Int)), H' D = some (.lst (ps.map (·.1))) ∧ ps.map (·.2) = t.take i ∧ (∀ p ∈ ps, Dp K H' p.1 (negD p.2)) ∧ Same H2 H') ⟨[], upd_same, rfl, (fun p hp => by cases hp), Same.new hD⟩ (fun i H' _ h => h.choose_spec.2.2.2 _ _ ez) ?_ ?_
  · rintro i x _ H3 hi ⟨ps, e1, e2, e3, k3⟩ ⟨rfl, key, v, hkv, rfl⟩
    obtain ⟨p, hp, e⟩ : ∃ p, t[i]? = some p ∧ (Sum.inl p.2, V.int p.1) = (key, v) := by
      unfold dz at hkv
      rw [List.getElem?_map] at hkv
      cases z : t[i]? with
      | none => rw [z] at hkv; cases hkv
      | some p => rw [z] at hkv; exact ⟨p, rfl, Option.some.inj hkv⟩
    cases e
    have ez3 := k3 _ _ ez
    have hit := (List.getElem?_eq_some_iff.mp hp).1
    refine ⟨rfl, _, rfl, _, rfl, d, .int p.1, rfl, .inl ⟨dz t, Sum.inl p.2, .inr ⟨od, ez3⟩, rfl, (dz_get tot.nod (List.mem_of_getElem? hp)).symm⟩, _, _, rfl, rfl, _, rfl, by show 2 ≤ sizeLine; decide, fun u hu => ?_⟩
    have nD : u ≠ D := fun z => by rw [z, e1] at hu; cases hu
    refine ⟨_, Same.new hu _ _ e1, ?_, ps ++ [(.ref u, p)], ?_, ?_, ?_, (k3.step hu).own hD⟩
    · rw [List.length_map, ← List.length_map (f := (·.2)), e2, List.length_take]
      exact Nat.lt_of_le_of_lt (show _ ≤ 160 by omega) (by decide)
    · rw [upd_same, List.map_append]
      rfl
    · rw [List.map_append, e2, List.take_add_one, hp]
      rfl
    · intro p' hp'
      have k4 := (Same.new (o := .tup [.int (0 - p.1), .int p.2]) hu).tupK
      have k5 : TupK (upd H3 u (.tup [.int (0 - p.1), .int p.2])) (upd (upd H3 u (.tup [.int (0 - p.1), .int p.2])) D (.lst (ps.map (·.1) ++ [.ref u]))) := But.tupK (S := (· = D)) (But.set rfl) fun c ys hc => by rw [hc]; exact not_tup_lst ((Same.new hu) _ _ e1)
      rcases List.mem_append.mp hp' with hp' | hp'
      · exact Dp.keep (k4.trans k5) _ _ (neg_imm _) (e3 p' hp')
      · rw [List.mem_singleton] at hp'
        rw [hp']
        refine .tup (.of (xs := [.int (0 - p.1), .int p.2]) ?_) (.cons (neg_sub p) (.cons (.int _) .nil))
        rw [upd_ne nD, upd_same]
        rfl
  rintro H3 ⟨ps, e1, e2, e3, k3⟩
  refine ⟨k3 _ _ ez, ?_⟩
  rw [show (dz t).length = t.length by unfold dz; rw [List.length_map], List.take_length] at e2
  have nDd : D ≠ d := fun z => by rw [z, ez] at hD; cases hD
  have t34 : TupK H3 (upd H3 d (.dK (dz t))) := But.tupK (S := (· = d)) (But.set rfl) fun c ys hc => by rw [hc]; exact not_tup_frz (k3 _ _ ez)
  have eD4 : upd H3 d (.dK (dz t)) D = some (.lst (ps.map (·.1))) := by rw [upd_ne nDd]; exact e1
  have s14 : Same H1 (upd H3 d (.dK (dz t))) := fun b o e => by
    by_cases hb : b = d
    · rw [hb, upd_same, ← ed, ← hb]
      exact e
    · rw [upd_ne hb]
      exact k3 b o (by rw [← hH2, upd_ne hb]; exact e)
  have e34 : ∀ p ∈ ps, Dp K (upd H3 d (.dK (dz t))) p.1 (negD p.2) := fun p hp => Dp.keep t34 _ _ (neg_imm _) (e3 p hp)
  generalize upd H3 d (.dK (dz t)) = H4 at eD4 s14 e34 ⊢
  have alk : PySem.W.AllAlike ((ps.map fun p => (p.1, negD p.2)).map (·.2)) := by
    rw [List.map_map]
    exact neg_alike
  refine ⟨D, ps.map (fun p => (p.1, negD p.2)), rfl, .of (by rw [List.map_map]; exact eD4), ?_, alk, ?_, ?_, fun g hg => ?_⟩
  · intro p hp
    obtain ⟨a, ha, rfl⟩ := List.mem_map.mp hp
    exact e34 a ha
  · refine .inl fun d1 h1 => ?_
    rw [List.map_map] at h1
    obtain ⟨a1, _, rfl⟩ := List.mem_map.mp h1
    exact ⟨_, _, rfl⟩
  · intro p hp
    obtain ⟨a, ha, rfl⟩ := List.mem_map.mp hp
    simp [negD, PyData.depth, PyData.depthAll]
  rw [sort_neg, List.map_map]
  have ordE := ord_neg e2 tot oks
  have memE : ∀ p ∈ ps.mergeSort leN, Dp K H4 p.1 (negD p.2) := fun p hp => e34 p ((List.mergeSort_perm ps leN).mem_iff.mp hp)
  have lenE : (ps.mergeSort leN).length ≤ 160 := by
    rw [List.length_mergeSort, ← List.length_map (f := (·.2)), e2]
    exact t160
  generalize ps.mergeSort leN = so at ordE memE lenE ⊢
  have eg := @upd_same H4 g (.lst (so.map ((fun p : V × PyData => p.1) ∘ fun p : V × (Int × Int) => (p.1, negD p.2))))
  have s45 := Same.new (o := .lst (so.map ((fun p : V × PyData => p.1) ∘ fun p : V × (Int × Int) => (p.1, negD p.2)))) hg
  generalize upd H4 g (.lst (so.map ((fun p : V × PyData => p.1) ∘ fun p : V × (Int × Int) => (p.1, negD p.2)))) = H5 at eg s45 ⊢
  refine ⟨_, rfl, _, rfl, g, _, rfl, .of eg, fun c hc => ⟨c, rfl, ⟨_, .of upd_same⟩, fun D2 hD2 => ?_⟩⟩
  rw [cut_to] at hD2 ⊢
  have s56 := Same.new (o := .lst ((so.map ((fun p : V × PyData => p.1) ∘ fun p : V × (Int × Int) => (p.1, negD p.2))).take m)) hc
  have ec := @upd_same H5 c (.lst ((so.map ((fun p : V × PyData => p.1) ∘ fun p : V × (Int × Int) => (p.1, negD p.2))).take m))
  generalize upd H5 c (.lst ((so.map ((fun p : V × PyData => p.1) ∘ fun p : V × (Int × Int) => (p.1, negD p.2))).take m)) = H6 at hD2 s56 ec ⊢
  refine lc_list (K := K) (a := c) (xs := (so.map ((fun p : V × PyData => p.1) ∘ fun p : V × (Int × Int) => (p.1, negD p.2))).take m) (fun i H' => H' D2 = some (.lst (((so.take i).map fun p => p.2.2).map V.int)) ∧ Same H6 H') ⟨upd_same, Same.new hD2⟩ (fun i H' _ h => h.2.sqL (.of ec)) ?_ ?_
  · rintro i x H7 hx ⟨f1, f2⟩
    have hl := (List.getElem?_eq_some_iff.mp hx).1
    rw [List.length_take, List.length_map] at hl
    rw [List.getElem?_take_of_lt (by omega), List.getElem?_map, List.getElem?_eq_getElem (show i < so.length by omega)] at hx
    cases hx
    have inn := memE _ (List.getElem_mem (show i < so.length by omega))
    have hat : so[i]? = some so[i] := List.getElem?_eq_getElem (by omega)
    obtain ⟨b, eb, t1⟩ := pair_at (q := (-(so[i]).2.1, (so[i]).2.2)) (Dp.keep ((s45.trans s56).trans f2).tupK _ _ (neg_imm _) inn)
    show gTup _ _ _ (so[i]).1 _ _ _
    rw [eb]
    refine ⟨b, _, rfl, t1, rfl, _, _, rfl, _, _, rfl, rfl, rfl, _, rfl, _, f1, ?_, ?_, f2.own hD2⟩
    · rw [List.length_map, List.length_map, List.length_take]
      exact Nat.lt_of_le_of_lt (show _ ≤ 160 by omega) (by decide)
    · rw [upd_same, List.take_add_one, hat, List.map_append, List.map_append]
      rfl
  · rintro H7 ⟨f1, f2⟩
    refine ⟨D2, _, rfl, .inl ⟨.of f1, fun l hl => ?_⟩⟩
    refine q _ l ((((s1.trans s14).trans s45).trans s56).trans f2 |>.step hl) (.tup (.of upd_same) ?_)
    have e : ((so.take (List.take m (so.map ((fun p : V × PyData => p.1) ∘ fun p : V × (Int × Int) => (p.1, negD p.2)))).length).map fun p => p.2.2) = bestL rs m := by
      rw [List.length_take, List.length_map, ← List.take_take]
      unfold bestL
      rw [← ordE, List.map_take, List.map_take]
      rw [List.take_of_length_le (l := List.map (fun p => p.2.2) so) (i := so.length) (by rw [List.length_map]; exact Nat.le_refl _)]
    rw [e]
    exact dpAll_ints _
theorem ok_law_others (T : Txt P K mg) : FnOk P w K mg base CX0 1 T.f_law_others T.d_law_others ["lists", "depths", "read"] (spOthers K) := by
  refine T.F_law_others.ok sc_law_others (fun vs H Q E h => by obtain ⟨v, w, d, rs, ds, t, rfl, _⟩ := h; rfl) (fun cdv A outer s H vs Q E hr h => ⟨_, (pss_cons (ps_par (i := 3) (j := 4) rfl sc_law_others.nd rfl rfl (by decide) rfl rfl (pa_cons (pe_lst (pa_cons pe_int pa_nil)) (pa_cons (pe_lst pa_nil) pa_nil)) (by rfl))
      (pss_cons (ps_for PassesOwn.never rfl (pi_zipA rfl T.z_zip (pa_cons (pv 0) (pa_cons (pv 1) pa_nil))) (pg_tup rfl (pgs_cons (pg_name (i := 5) sc_law_others.nd rfl (by first | exact Or.inl rfl | exact Or.inr rfl)) (pgs_cons (pg_name (i := 6) sc_law_others.nd rfl (by first | exact Or.inl rfl | exact Or.inr rfl)) pgs_nil)))
      (pss_one (ps_if (pt_cmpR op_gt (pv 6) pe_int (nomark _))
      (pss_one (ps_expr (pe_bm PySem.F.plainAttrs_list PySem.F.slot_list_append PySem.F.type_list_append mt_append (pv 3) (pa_cons (pe_ix ix_tup (pe_ix ix_tup (pv 5) (pe_op op_sub (pv 6) pe_int) (fun _ _ => rfl)) pe_int (fun _ _ => rfl)) pa_nil)))) pss_nil)))
      (pss_cons (ps_for PassesOwn.never rfl (pi_list (pv 3)) (pg_name (i := 7) sc_law_others.nd rfl (by first | exact Or.inl rfl | exact Or.inr rfl))
      (pss_cons (ps_set (i := 8) sc_law_others.nd rfl (Or.inl rfl) (pe_op op_add (pv 7) pe_int))
      (pss_cons (ps_while PassesOwn.never (pt_cmp (pc_din (by exact hu_of hr) (pv 8) (pv 2)) rfl)
      (pss_one (ps_set (i := 8) sc_law_others.nd rfl (Or.inl rfl) (pe_op op_add (pv 8) pe_int))))
      (pss_one (ps_set (i := 4) sc_law_others.nd rfl (Or.inl rfl) (pe_op op_cat (pv 4) (pe_ifExp (pt_cmpR op_lt (pv 8) pe_int (nomark _)) (pe_lst (pa_cons (pv 8) pa_nil)) (pe_lst pa_nil))))))))
      (pss_one (ps_ret (pe_callB (cr_sortG rfl (by exact hu64 hr)) rfl T.z_sorted (by decide +kernel) (pa_cons (pe_callTy (call_setG rfl) rfl T.z_set (by decide +kernel) (pa_cons (pv 4) pa_nil)) pa_nil))))))), ?_⟩)
  obtain ⟨v, w, dr, rs, ds, t, rfl, hd, hw, ok, oks, h4, edr, tot, q⟩ := h
  obtain ⟨a, xs, rfl, sq, da⟩ := tup_at hd
  obtain ⟨len, get⟩ := map_get da
  obtain ⟨b, ys, rfl, sb, db⟩ := tup_at hw
  obtain ⟨lenb, getb⟩ := map_get db
  refine ⟨by show 1 ≤ sizeLine; decide, fun f hf => ?_⟩
  refine ⟨Nat.zero_le _, fun g hg => ⟨_, _, rfl, ?_⟩⟩
  have s1 := (Same.new (o := .lst [.int 0]) hf).step (o := .lst []) hg
  have ef0 := Same.new (o := .lst []) hg _ _ (@upd_same H f (.lst [.int 0]))
  have eg0 := @upd_same (upd H f (.lst [.int 0])) g (.lst [])
  have hg0 : H g = none := (Same.new (o := .lst [.int 0]) hf).free hg
  have nfg : f ≠ g := fun z => by rw [← z, upd_same] at hg; cases hg
  generalize upd (upd H f (.lst [.int 0])) g (.lst []) = H1 at s1 ef0 eg0 ⊢
  refine ⟨_, rfl, _, rfl, a, b, xs, ys, rfl, .inr ⟨s1.sqT sq, s1.sqT sb, ?_⟩⟩
  refine for_zipT (xs := xs) (ys := ys) (by have := ok.len; omega) (fun i σ H' => ∃ (x5 x6 : Option V), σ = [some (.ref a), some (.ref b), some (.ref dr), some (.ref f), some (.ref g), x5, x6, none, none] ∧ H' f = some (.lst ((0 :: ((rs.zip ds).take i).filterMap lastOf).map V.int)) ∧ H' g = some (.lst []) ∧ Same H H')
    ⟨none, none, rfl, ef0, eg0, s1⟩ (fun i σ H' h => by obtain ⟨_, _, _, _, _, k⟩ := h; exact ⟨k.sqT sq, k.sqT sb⟩) ?_ ?_
  · rintro i x y t' σ H1 hx hy ⟨x5, x6, rfl, ef, eg, k⟩ ht
    obtain ⟨r, hr1, hr2⟩ := get i x hx
    obtain ⟨d, hd1, hd2⟩ := getb i y hy
    cases hd2
    obtain ⟨ra, rxs, rfl, rsq, rda⟩ := tup_at hr2
    obtain ⟨rlen, rget⟩ := map_get rda
    have n2 := Same.new (o := .tup [.ref ra, .int (d : Int)]) ht
    have k2 := k.trans n2
    have ef2 := n2 _ _ ef
    have eg2 := n2 _ _ eg
    have dle := ok.le i r d hr1 hd1
    have zip : (rs.zip ds)[i]? = some (r, d) := List.getElem?_zip_eq_some.mpr ⟨hr1, hd1⟩
    have nx := fm_next (f := lastOf) zip
    have fl := fm_len (f := lastOf) (rs.zip ds) i
    have hi4 : i < 4 := by have := (List.getElem?_eq_some_iff.mp hr1).1; omega
    refine ⟨t', _, rfl, .of upd_same, rfl, _, _, rfl, _, _, rfl, rfl, ?_⟩
    generalize upd H1 t' (.tup [.ref ra, .int (d : Int)]) = H2 at k2 ef2 eg2 ⊢
    refine ⟨_, rfl, _, _, rfl, rfl, _, rfl, ?_⟩
    by_cases c : 0 < d
    · refine iteB (decide_eq_true (by omega)) ?_
      obtain ⟨p, hp⟩ : ∃ p, r[d - 1]? = some p := ⟨_, List.getElem?_eq_getElem (by have := (oks r (List.mem_of_getElem? hr1)).len; omega)⟩
      obtain ⟨x, hx, hxd⟩ := get_of rda hp
      obtain ⟨pb, rfl, t1⟩ := pair_at hxd
      have el : lastOf (r, d) = some p.2 := by
        unfold lastOf
        rw [if_pos c, hp]
        rfl
      refine ⟨_, rfl, .inl ⟨rfl, _, .of ef2⟩, _, rfl, _, rfl, _, _, rfl, rfl, ra, rxs, _, _, rfl, rfl, k2.sqT rsq, (by rw [show ((d : Int) - 1) = ((d - 1 : Nat) : Int) by omega]; exact atI_nat hx), pb, _, _, _, rfl, rfl, k2.sqT t1, rfl, ?_⟩
      refine ⟨f, _, _, rfl, rfl, ef2, ?_, _, _, rfl, ?_, by rw [upd_ne (Ne.symm nfg)]; exact eg2, k2.own hf⟩
      · rw [List.length_map, List.length_cons]
        exact Nat.lt_of_le_of_lt (show _ ≤ 5 by omega) (by decide)
      · rw [upd_same, nx, el, List.map_cons, List.map_cons, List.map_append]
        rfl
    · refine iteB' (decide_eq_false (by omega)) ?_
      have el : lastOf (r, d) = none := by unfold lastOf; rw [if_neg c]
      refine ⟨_, _, rfl, ?_, eg2, k2⟩
      rw [nx, el, Option.toList_none, List.append_nil]
      exact ef2
  rintro σ H2 ⟨x5, x6, rfl, ef, eg, k2⟩
  rw [List.take_of_length_le (by rw [List.length_zip, len]; exact Nat.min_le_left _ _), ← lasts_eq] at ef
  have ll : (lasts rs ds).length ≤ 4 := by
    rw [lasts_eq]
    refine Nat.le_trans (List.length_filterMap_le _ _) ?_
    rw [List.length_zip]
    exact Nat.le_trans (Nat.min_le_left _ _) h4
  have inT : ∀ k, k ∈ t.map (·.2) ↔ isRead rs ds k := tot.key
  have edr2 := k2 _ _ edr
  refine ⟨_, rfl, f, rfl, ⟨_, .of ef⟩, ?_⟩
  refine for_it walk_list (fun i σ H' => ∃ (x7 x8 : Option V) (g : Addr) (F : List Int), σ = [some (.ref a), some (.ref b), some (.ref dr), some (.ref f), some (.ref g), x5, x6, x7, x8] ∧ H' g = some (.lst (F.map V.int)) ∧ F.length ≤ i ∧ (∀ s ∈ F, 1 ≤ s ∧ s ≤ 999 ∧ ¬ isRead rs ds s) ∧
    (∀ j u k, j < i → (0 :: lasts rs ds)[j]? = some u → u + 1 ≤ k → k ≤ 999 → ¬ isRead rs ds k → ∃ s ∈ F, u + 1 ≤ s ∧ s ≤ k) ∧ Same H2 H')
    ⟨none, none, g, [], rfl, eg, Nat.le_refl _, (fun s h => by cases h), (fun j u k h => by omega), Same.refl _⟩ (fun i σ H' _ h => by obtain ⟨_, _, _, _, _, _, _, _, _, k⟩ := h; exact k.sqL (.of ef)) ?_ ?_
  · rintro i x σ _ H3 hi ⟨x7, x8, g, F, rfl, eg, fl, fin, each, k3⟩ ⟨rfl, hx⟩
    rw [List.length_map] at hi
    have hat : (0 :: lasts rs ds)[i]? = some ((0 :: lasts rs ds)[i]) := List.getElem?_eq_getElem hi
    rw [List.getElem?_map, hat] at hx
    cases hx
    generalize (0 :: lasts rs ds)[i] = u at hat
    have u0 : 0 ≤ u := by
      rcases List.mem_cons.mp (List.mem_of_getElem? hat) with rfl | h
      · exact Int.le_refl _
      · have := lasts_key oks h
        omega
    have hi5 : i < 5 := by
      rw [List.length_cons] at hi
      omega
    have edr3 := k3 _ _ edr2
    refine ⟨_, rfl, _, _, rfl, rfl, ?_⟩
    refine ⟨fun m σ H' => ∃ c : Int, m = (1001 - c).toNat ∧ σ = [some (.ref a), some (.ref b), some (.ref dr), some (.ref f), some (.ref g), x5, x6, some (.int u), some (.int c)] ∧ u + 1 ≤ c ∧ (∀ k, u + 1 ≤ k → k < c → isRead rs ds k) ∧ H' = H3,
      ⟨_, u + 1, rfl, rfl, Int.le_refl _, (fun k h1 h2 => by omega), rfl⟩, ?_⟩
    rintro m σ H4 ⟨c, rfl, rfl, uc, all, rfl⟩
    refine ⟨_, rfl, _, rfl, dr, _, rfl, .inl ⟨_, Sum.inl c, .inl edr3, rfl, rfl⟩, _, rfl, ?_⟩
    rw [dz_in]
    by_cases rc : isRead rs ds c
    · have c9 := (read_key oks rc).2
      refine iteB (decide_eq_true ((inT c).mpr rc)) ⟨fun σ' H' => σ' = [some (.ref a), some (.ref b), some (.ref dr), some (.ref f), some (.ref g), x5, x6, some (.int u), some (.int (c + 1))] ∧ H' = H4, fun σ' H' h => ?_, ⟨_, rfl, _, _, rfl, rfl, rfl, rfl⟩⟩
      obtain ⟨rfl, rfl⟩ := h
      refine ⟨(1001 - (c + 1)).toNat, by omega, c + 1, rfl, rfl, by omega, fun k h1 h2 => ?_, rfl⟩
      by_cases kc : k = c
      · rw [kc]; exact rc
      · exact all k h1 (by omega)
    · refine iteB' (decide_eq_false (fun z => rc ((inT c).mp z))) ?_
      have each' : ∀ F' : List Int, (∀ s ∈ F, s ∈ F') → (c < 1000 → c ∈ F') → ∀ j u' k, j < i + 1 → (0 :: lasts rs ds)[j]? = some u' → u' + 1 ≤ k → k ≤ 999 → ¬ isRead rs ds k → ∃ s ∈ F', u' + 1 ≤ s ∧ s ≤ k := by
        intro F' sub hc j u' k hj hu' uk k9 no
        by_cases hji : j < i
        · obtain ⟨s, hs, h1, h2⟩ := each j u' k hji hu' uk k9 no
          exact ⟨s, sub s hs, h1, h2⟩
        · obtain rfl : j = i := by omega
          rw [hat] at hu'
          cases hu'
          have ck : c ≤ k := by
            by_cases kc : k < c
            · exact absurd (all k uk kc) no
            · omega
          exact ⟨c, hc (by omega), uc, ck⟩
      refine ⟨_, rfl, _, rfl, _, _, rfl, rfl, _, rfl, ?_⟩
      by_cases c1 : c < 1000
      · refine iteB (decide_eq_true c1) ⟨_, rfl, by show 1 ≤ sizeLine; decide, fun o ho => ?_⟩
        refine ⟨g, o, _, [.int c], rfl, rfl, Same.new ho _ _ eg, upd_same, ?_, fun g2 hg2 => ?_⟩
        · rw [List.length_map]
          exact Nat.le_trans (show _ ≤ 6 by show F.length + 1 ≤ 6; omega) (by decide)
        · refine ⟨_, _, g2, F ++ [c], rfl, by rw [upd_same, List.map_append]; rfl, ?_, ?_, each' _ (fun s hs => List.mem_append_left _ hs) (fun _ => List.mem_append_right _ (List.mem_singleton.mpr rfl)), (k3.step ho).step hg2⟩
          · rw [List.length_append]
            exact Nat.add_le_add fl (Nat.le_refl _)
          · intro s hs
            rcases List.mem_append.mp hs with hs | hs
            · exact fin s hs
            · rw [List.mem_singleton] at hs
              rw [hs]
              exact ⟨by omega, by omega, rc⟩
      · refine iteB' (decide_eq_false c1) ⟨Nat.zero_le _, fun o ho => ?_⟩
        refine ⟨g, o, _, [], rfl, rfl, Same.new ho _ _ eg, upd_same, ?_, fun g2 hg2 => ?_⟩
        · rw [List.length_map]
          exact Nat.le_trans (show _ ≤ 6 by show F.length + 0 ≤ 6; omega) (by decide)
        · exact ⟨_, _, g2, F, rfl, by rw [upd_same, List.append_nil], by omega, fin, each' _ (fun s hs => hs) (fun z => absurd z c1), (k3.step ho).step hg2⟩
  · rintro σ H3 ⟨x7, x8, g, F, rfl, eg, fl, fin, each, k3⟩
    rw [List.length_map] at fl each
    refine ⟨_, rfl, g, F.map Sum.inl, rfl, .of (by rw [List.map_map]; exact eg), ?_, fun p c hp hc => ?_⟩
    · rw [List.length_map]
      rw [List.length_cons] at fl
      exact Nat.lt_of_le_of_lt (show _ ≤ 6 by omega) (by decide)
    · have isI : ∀ k, hasK (F.map Sum.inl) k = true ↔ ∃ i, k = .inl i ∧ i ∈ F := by
        intro k
        rw [hasK_iff, List.mem_map]
        constructor
        · rintro ⟨i, hi, rfl⟩
          exact ⟨i, rfl, hi⟩
        · rintro ⟨i, rfl, hi⟩
          exact ⟨i, hi, rfl⟩
      refine ⟨p, _, _, rfl, upd_same, fun j k hj hk => ?_, fun ks q2 kn km kl hq2 => ?_⟩
      · obtain ⟨i, rfl, _⟩ := (isI j).mp hj
        obtain ⟨i, rfl, _⟩ := (isI k).mp hk
        simp [kD, PySem.W.alike]
      · obtain ⟨ns, e, n1, n2, n3⟩ := sorted_ints (fun k hk => by obtain ⟨a, e, _⟩ := (isI k).mp hk; exact ⟨a, e⟩) kn km kl
        have memS : ∀ i, i ∈ ns ↔ i ∈ F := fun i => by
          rw [n2, isI]
          constructor
          · rintro ⟨j, e, h⟩
            rw [Sum.inl.inj e]
            exact h
          · exact fun h => ⟨i, rfl, h⟩
        refine q _ q2 ns (((k2.trans k3).trans (Same.new hp)).step hq2) (by rw [upd_same, e]) (str_of oks (fun s hs => fin s ((memS s).mp hs)) fun u hu k uk k9 no gr => ?_) (n1.imp fun h => by omega) ?_
        · have hm : u - 1 ∈ (0 :: lasts rs ds) := by
            rcases hu with rfl | hu
            · exact List.mem_cons_self
            · exact List.mem_cons_of_mem _ hu
          obtain ⟨j, hj⟩ := List.getElem?_of_mem hm
          obtain ⟨s, hs, h1, h2⟩ := each j (u - 1) k (List.getElem?_eq_some_iff.mp hj).1 hj (by omega) k9 no
          exact ⟨s, (memS s).mpr hs, by omega, h2⟩
        · have z := nodup_len (n1.imp fun h => by omega) fun x hx => (memS x).mp hx
          rw [List.length_cons] at fl
          omega
end
end K71
set_option pp.maxSteps 1200
namespace K71
open PySem PySem.Spec PyProof.Rows L2 RZ
/-- a pair of a key and its sums: the pair, the key, the sums -/
abbrev En := Addr × Int × Addr
def enK (es : List En) : List (Key × V) := es.map fun e => (Sum.inl e.2.1, V.ref e.2.2)
theorem enK_get {e : En} : ∀ {es : List En}, (es.map (·.2.1)).Nodup → e ∈ es → valV (enK es) (Sum.inl e.2.1) = some (V.ref e.2.2)
  | [], _, h => by cases h
  | a :: es, n, h => by
    rw [List.map_cons, List.nodup_cons] at n
    rcases List.mem_cons.mp h with rfl | h
    · exact valV_pos (p := (Sum.inl e.2.1, V.ref e.2.2)) rfl
    · have ne : ¬ a.2.1 = e.2.1 := fun z => n.1 (by rw [z]; exact List.mem_map_of_mem h)
      have z : valV (enK (a :: es)) (Sum.inl e.2.1) = valV (enK es) (Sum.inl e.2.1) := by
        exact valV_neg (p := (Sum.inl a.2.1, V.ref a.2.2)) fun w => ne (Sum.inl.inj w)
      rw [z]
      exact enK_get n.2 h
theorem enK_none {k : Int} : ∀ {es : List En}, k ∉ es.map (·.2.1) → valV (enK es) (Sum.inl k) = none
  | [], _ => rfl
  | a :: es, h => by
    rw [List.map_cons, List.mem_cons, not_or] at h
    have z : valV (enK (a :: es)) (Sum.inl k) = valV (enK es) (Sum.inl k) := by
      exact valV_neg (p := (Sum.inl a.2.1, V.ref a.2.2)) fun w => h.1 (Sum.inl.inj w).symm
    rw [z]
    exact enK_none h.2
theorem enK_merge : ∀ (es fs : List En), ((fs ++ es).map (·.2.1)).Nodup → mergeK (enK fs) (enK es) = enK (fs ++ es)
  | [], fs, _ => by rw [List.append_nil]; rfl
  | a :: es, fs, h => by
    have h' : ((fs ++ [a] ++ es).map (·.2.1)).Nodup := by rw [List.append_assoc]; exact h
    have no : a.2.1 ∉ fs.map (·.2.1) := by
      rw [List.map_append, List.nodup_append] at h
      intro z
      exact h.2.2 _ z _ (by rw [List.map_cons]; exact List.mem_cons_self) rfl
    have z := enK_merge es (fs ++ [a]) h'
    rw [List.append_assoc] at z
    rw [← show mergeK (enK (fs ++ [a])) (enK es) = mergeK (enK fs) (enK (a :: es)) from ?_]
    · exact z
    · unfold mergeK
      show _ = List.foldl _ (putK (enK fs) (Sum.inl a.2.1) (V.ref a.2.2)) (enK es)
      rw [putK_new _ (enK_none no)]
      unfold enK
      rw [List.map_append]
      rfl
theorem en_paired {K : PySem.W.Frag} {H : Hp} : ∀ {es : List En}, (∀ e ∈ es, SqT K H e.1 [.int e.2.1, .ref e.2.2]) → Paired (fun p (kv : Key × V) => SqT K H p [kV kv.1, kv.2]) (es.map (·.1)) (enK es)
  | [], _ => .nil
  | e :: es, h => .cons (h e List.mem_cons_self) (en_paired fun x hx => h x (List.mem_cons_of_mem _ hx))
theorem filter_unread {rs : List Row} {ds : List Nat} {S : List Int} (o : Ord rs ds (ordL rs ds)) (str : Strg rs ds S) : (ordL rs ds ++ S).filter (fun k => decide (¬ isRead rs ds k)) = S := by
  rw [List.filter_append]
  have a : (ordL rs ds).filter (fun k => decide (¬ isRead rs ds k)) = [] := by
    rw [List.filter_eq_nil_iff]
    intro k hk z
    exact of_decide_eq_true z ((o.mb k).mp hk)
  have b : S.filter (fun k => decide (¬ isRead rs ds k)) = S := by
    rw [List.filter_eq_self]
    intro k hk
    exact decide_eq_true (str.in1 k hk).2.2
  rw [a, b, List.nil_append]
/-- the keys that the key at j must beat -/
def behL (C R : List Int) (m j : Nat) : List Int := C.drop (j + 1) ++ (if j + 1 = C.length ∧ C.length = m then R else [])
theorem beh_ne {C R : List Int} {m j : Nat} {k o : Int} (nd : (C ++ R).Nodup) (hk : C[j]? = some k) (ho : o ∈ behL C R m j) : k ≠ o := by
  intro e
  subst e
  obtain ⟨n1, n2, n3⟩ := List.nodup_append.mp nd
  unfold behL at ho
  rcases List.mem_append.mp ho with h | h
  · obtain ⟨u1, u2⟩ := List.getElem?_eq_some_iff.mp hk
    obtain ⟨n, hn, e2⟩ := List.getElem_of_mem h
    rw [List.length_drop] at hn
    rw [List.getElem_drop] at e2
    exact List.pairwise_iff_getElem.mp n1 j (j + 1 + n) u1 (by omega) (by omega) (by rw [u2, e2])
  · split at h
    · exact n3 _ (List.mem_of_getElem? hk) _ h rfl
    · cases h
theorem Good.beh {rs : List Row} {ds : List Nat} {m : Nat} {S C R : List Int} (h : ∀ r ∈ rs, RowOk r) (str : Strg rs ds S) (g : Good rs ds m) (hC : C = (ordL rs ds).take m) (hR : R = (ordL rs ds).drop m ++ S)
    {j : Nat} {k o : Int} (hk : C[j]? = some k) (ho : o ∈ behL C R m j) : Beats rs ds k o := by
  unfold behL at ho
  rcases List.mem_append.mp ho with z | z
  · obtain ⟨u1, u2⟩ := List.getElem?_eq_some_iff.mp hk
    obtain ⟨n, hn, e2⟩ := List.getElem_of_mem z
    rw [List.length_drop] at hn
    rw [List.getElem_drop] at e2
    have row := g.row
    rw [← hC] at row
    have := List.pairwise_iff_getElem.mp row j (j + 1 + n) u1 (by omega) (by omega)
    rw [u2, e2] at this
    exact this
  · split at z
    · rename_i c
      have le : m ≤ (ordL rs ds).length := by
        have := congrArg List.length hC
        rw [List.length_take] at this
        omega
      rw [hR] at z
      exact g.full_of h str le (by rw [← hC, ← hk]; congr 1; omega) o z
    · cases z
theorem good_beh {rs : List Row} {ds : List Nat} {m : Nat} {S C R : List Int} (h : ∀ r ∈ rs, RowOk r) (ok : DepOk rs ds) (str : Strg rs ds S) (m1 : 1 ≤ m) (hC : C = (ordL rs ds).take m) (hR : R = (ordL rs ds).drop m ++ S)
    (all : ∀ (j : Nat) (k o : Int), C[j]? = some k → o ∈ behL C R m j → Beats rs ds k o) (z : (ordL rs ds).length < m → ∀ s ∈ S, topS rs ds s = 0) : Good rs ds m := by
  have row : ((ordL rs ds).take m).Pairwise (Beats rs ds) := by
    rw [← hC, List.pairwise_iff_getElem]
    intro i j hi hj lt
    refine all i _ _ (List.getElem?_eq_getElem hi) ?_
    unfold behL
    refine List.mem_append_left _ (List.mem_of_getElem? (i := j - (i + 1)) ?_)
    rw [List.getElem?_drop, show i + 1 + (j - (i + 1)) = j by omega]
    exact List.getElem?_eq_getElem hj
  by_cases few : (ordL rs ds).length < m
  · exact Good.of_few str few row (z few)
  · have len : C.length = m := by rw [hC, List.length_take]; omega
    have hl : C[m - 1]? = some (C[m - 1]'(by omega)) := List.getElem?_eq_getElem (by omega)
    refine Good.of_full h ok str (by omega) row m1 (last := C[m - 1]'(by omega)) (by rw [← hC]; exact hl) fun k hk => ?_
    refine all (m - 1) _ _ hl ?_
    unfold behL
    rw [if_pos ⟨by omega, len⟩, hR]
    exact List.mem_append_right _ hk
section
variable {P : Program} {w : World} {K : PySem.W.Frag} {mg : Str → Option Value} {base : Heap}
theorem ok_law_settled (T : Txt P K mg) : FnOk P w K mg base CX0 4 T.f_law_settled T.d_law_settled ["lists", "depths", "many"] (spSettled K) := by
  refine T.F_law_settled.ok sc_law_settled (fun vs H Q E h => by obtain ⟨v, w, rs, ds, m, rfl, _⟩ := h; rfl) (fun cdv A outer s H vs Q E hr h => ⟨_, (pss_cons (ps_set (i := 3) sc_law_settled.nd rfl (Or.inr rfl) pe_dnewK)
      (pss_cons (ps_for PassesOwn.never rfl (pi_zipA rfl T.z_zip (pa_cons (pv 0) (pa_cons (pv 1) pa_nil))) (pg_tup rfl (pgs_cons (pg_name (i := 4) sc_law_settled.nd rfl (by first | exact Or.inl rfl | exact Or.inr rfl)) (pgs_cons (pg_name (i := 5) sc_law_settled.nd rfl (by first | exact Or.inl rfl | exact Or.inr rfl)) pgs_nil)))
      (pss_one (ps_for PassesOwn.never rfl (pi_tup (pe_slice sl_tupW (pv 4) po_none (po_some (pv 5)))) (pg_tup rfl (pgs_cons (pg_name (i := 6) sc_law_settled.nd rfl (by first | exact Or.inl rfl | exact Or.inr rfl)) (pgs_cons (pg_name (i := 7) sc_law_settled.nd rfl (by first | exact Or.inl rfl | exact Or.inr rfl)) pgs_nil)))
      (pss_one (ps_dput (by exact hu_of hr) (pv 3) (pv 7) (pe_op op_add (pe_dget2 (by exact hu_of hr) (pv 3) (pv 7) pe_int ⟨by rfl, by rfl, by rfl, by rfl⟩) (pv 6)) rfl)))))
      (pss_cons (ps_setLc (i := 4) (own := [("total", 14), ("key", 7)]) (g := gTup K 2 (gCons (gName 14) (gCons (gName 7) gNil))) rfl sc_law_settled.nd rfl rfl (sw_true rfl rfl rfl (by decide +kernel)) (pi_list (pe_callB (cr_sortD (by exact hu64 hr)) rfl T.z_sorted (by decide +kernel) (pa_cons (pe_lock (pe_lc (own := [("key", 7)]) rfl sc_law_settled.nd (pi_keys (pv 3)) (blkOk_by (own := [("key", 7)]) (N := N_law_settled) (sc := defScope s_law_settled) (by decide +kernel)) (fun _ _ _ _ _ => (pg_name (i := 7) sc_law_settled.nd rfl (by first | exact Or.inl rfl | exact Or.inr rfl))) (fun _ _ _ _ _ => (by exact pts_nil)) (fun _ _ _ _ _ => (by exact (pe_tup (pa_cons (pe_op op_sub pe_int (pe_dget (by exact hu_of hr) (pv 3) (pv 7) (fun _ _ => rfl))) (pa_cons (pv 7) pa_nil))))))) pa_nil))) (blkOk_by (own := [("total", 14), ("key", 7)]) (N := N_law_settled) (sc := defScope s_law_settled) (by decide +kernel)) (fun _ _ _ _ _ => (pg_tup rfl (pgs_cons (pg_name (i := 14) sc_law_settled.nd rfl (by first | exact Or.inl rfl | exact Or.inr rfl)) (pgs_cons (pg_name (i := 7) sc_law_settled.nd rfl (by first | exact Or.inl rfl | exact Or.inr rfl)) pgs_nil)))) (fun _ _ _ _ _ => (by exact pts_nil)) (fun _ _ _ _ _ => (by exact (pv 7))))
      (pss_cons (ps_set (i := 8) sc_law_settled.nd rfl (Or.inr rfl) (pe_callTy (call_dictP rfl) rfl T.z_dict (by decide +kernel) (pa_cons (pe_lc (own := [("key", 7)]) (te := tTup (tCons (tVar 7) (tCons (tCall (spLSums K) [] E0 (tCons (tVar 0) (tCons (tVar 1) (tCons (tVar 7) tNil)))) tNil))) rfl sc_law_settled.nd (pi_list (pe_op op_cat (pv 4) (pe_call (ok_law_others T) (hr.mono (by omega)) rfl T.g__law_others T.F_law_others.kp T.b_law_others .nil pass0 (pa_cons (pv 0) (pa_cons (pv 1) (pa_cons (pv 3) pa_nil)))))) (blkOk_by (own := [("key", 7)]) (N := N_law_settled) (sc := defScope s_law_settled) (by decide +kernel)) (fun _ _ _ _ _ => (pg_name (i := 7) sc_law_settled.nd rfl (by first | exact Or.inl rfl | exact Or.inr rfl))) (fun _ _ _ _ _ => (by exact pts_nil)) (fun _ _ _ _ _ => (by exact (pe_tup (pa_cons (pv 7) (pa_cons (pe_call (ok_law_sums T) (hr.mono (by omega)) rfl T.g__law_sums T.F_law_sums.kp T.b_law_sums .nil pass0 (pa_cons (pv 0) (pa_cons (pv 1) (pa_cons (pv 7) pa_nil)))) pa_nil)))))) pa_nil)))
      (pss_cons (ps_par (i := 9) (j := 10) rfl sc_law_settled.nd rfl rfl (by decide) rfl rfl (pa_cons (pe_slice sl_list (pv 4) po_none (po_some (pv 2))) (pa_cons (pe_op op_cat (pe_slice sl_list (pv 4) (po_some (pv 2)) po_none) (pe_lock (pe_lc (own := [("key", 7)]) rfl sc_law_settled.nd (pi_keys (pv 8)) (blkOk_by (own := [("key", 7)]) (N := N_law_settled) (sc := defScope s_law_settled) (by decide +kernel)) (fun _ _ _ _ _ => (pg_name (i := 7) sc_law_settled.nd rfl (by first | exact Or.inl rfl | exact Or.inr rfl))) (fun _ _ _ _ _ => (by exact pts_one (pt_cmp (pc_dnotin (by exact hu_of hr) (pv 7) (pv 3)) rfl))) (fun _ _ _ _ _ => (by exact (pv 7)))))) pa_nil)) (by rfl))
      (pss_cons (ps_if (PW.pt (pw_and (pt_cmpR op_lt (pe_callB call_len_seq rfl T.z_len (by decide +kernel) (pa_cons (pv 9) pa_nil)) (pv 2) (nomark _)) (pw_and1 (pt_cmpR (op_neNil (by exact Nat.lt_of_succ_lt (hu_of hr))) (pe_lc (own := [("key", 7)]) (tt := tTest (tOp (rI0 fun i j => .bl (decide (j < i))) (tOp (rIxT K) (tDGet (tVar 8) (tVar 7)) (tC (.int 1))) (tC (.int 0)))) rfl sc_law_settled.nd (pi_list (pv 10)) (blkOk_by (own := [("key", 7)]) (N := N_law_settled) (sc := defScope s_law_settled) (by decide +kernel)) (fun _ _ _ _ _ => (pg_name (i := 7) sc_law_settled.nd rfl (by first | exact Or.inl rfl | exact Or.inr rfl))) (fun _ _ _ _ _ => (by exact pts_one (pt_cmpR op_gt (pe_ix ix_tup (pe_dget (by exact hu_of hr) (pv 8) (pv 7) (fun _ _ => rfl)) pe_int (fun _ _ => rfl)) pe_int (nomark _)))) (fun _ _ _ _ _ => (by exact (pv 7)))) (pe_lst pa_nil) (nomark _)))))
      (pss_one (ps_ret pe_non)) pss_nil)
      (pss_cons (ps_for PassesOwn.never rfl (pi_enum rfl T.z_enumerate (pa_cons (pv 9) pa_nil)) (pg_tup rfl (pgs_cons (pg_name (i := 11) sc_law_settled.nd rfl (by first | exact Or.inl rfl | exact Or.inr rfl)) (pgs_cons (pg_name (i := 7) sc_law_settled.nd rfl (by first | exact Or.inl rfl | exact Or.inr rfl)) pgs_nil)))
      (pss_cons (ps_set (i := 12) sc_law_settled.nd rfl (Or.inl rfl) (pe_op op_cat (pe_slice sl_list (pv 9) (po_some (pe_op op_add (pv 11) pe_int)) po_none) (pe_ifExp (PW.pt (pw_and (pt_cmpR op_eq (pv 11) (pe_op op_sub (pe_callB call_len_seq rfl T.z_len (by decide +kernel) (pa_cons (pv 9) pa_nil)) pe_int) (nomark _)) (pw_and1 (pt_cmpR op_eq (pe_callB call_len_seq rfl T.z_len (by decide +kernel) (pa_cons (pv 9) pa_nil)) (pv 2) (nomark _))))) (pv 10) (pe_lst pa_nil))))
      (pss_one (ps_for PassesOwn.never rfl (pi_list (pv 12)) (pg_name (i := 13) sc_law_settled.nd rfl (by first | exact Or.inl rfl | exact Or.inr rfl))
      (pss_one (ps_if (PW.pt (pw_or (pt_cmpR op_lt (pe_ix ix_tup (pe_dget (by exact hu_of hr) (pv 8) (pv 7) (fun _ _ => rfl)) pe_int (fun _ _ => rfl)) (pe_ix ix_tup (pe_dget (by exact hu_of hr) (pv 8) (pv 13) (fun _ _ => rfl)) pe_int (fun _ _ => rfl)) (nomark _)) (pw_or1 (PW.pt (pw_and (pt_cmpR op_eq (pe_ix ix_tup (pe_dget (by exact hu_of hr) (pv 8) (pv 7) (fun _ _ => rfl)) pe_int (fun _ _ => rfl)) (pe_ix ix_tup (pe_dget (by exact hu_of hr) (pv 8) (pv 13) (fun _ _ => rfl)) pe_int (fun _ _ => rfl)) (nomark _)) (pw_and1 (pt_cmpR op_gt (pv 7) (pv 13) (nomark _))))))))
      (pss_one (ps_ret pe_non)) pss_nil))))))
      (pss_one (ps_ret (pe_callTy call_tuple_of rfl T.z_tuple (by decide +kernel) (pa_cons (pv 9) pa_nil))))))))))), ?_⟩)
  obtain ⟨v, w, rs, ds, m, rfl, hd, hw, ok, oks, h1, h4, m1, m40, q⟩ := h
  obtain ⟨a, xs, rfl, sq, da⟩ := tup_at hd
  obtain ⟨len, get⟩ := map_get da
  obtain ⟨b, ys, rfl, sb, db⟩ := tup_at hw
  obtain ⟨lenb, getb⟩ := map_get db
  refine fun d hdn => ?_
  have s0 := Same.new (o := .dK []) hdn
  refine ⟨_, rfl, _, rfl, a, b, xs, ys, rfl, .inr ⟨s0.sqT sq, s0.sqT sb, ?_⟩⟩
  refine for_zipT (xs := xs) (ys := ys) (by have := ok.len; omega) (fun i σ H' => ∃ (x4 x5 x6 x7 : Option V) (t : Row), σ = [some (.ref a), some (.ref b), some (.int m), some (.ref d), x4, x5, x6, x7, none, none, none, none, none, none, none] ∧ H' d = some (.dK (dz t)) ∧ Tot t (((rs.zip ds).take i).flatMap fun p => p.1.take p.2) ∧ Same H H')
    ⟨none, none, none, none, [], rfl, upd_same, Tot.nil, s0⟩ (fun i σ H' h => by obtain ⟨_, _, _, _, _, _, _, _, k⟩ := h; exact ⟨k.sqT sq, k.sqT sb⟩) ?_ ?_
  · rintro i x y u σ H1 hx hy ⟨x4, x5, x6, x7, t, rfl, ed, tot, k1⟩ hu
    obtain ⟨r, hr1, hr2⟩ := get i x hx
    obtain ⟨dd, hd1, hd2⟩ := getb i y hy
    cases hd2
    obtain ⟨ra, rxs, rfl, rsq, rda⟩ := tup_at hr2
    obtain ⟨rlen, rget⟩ := map_get rda
    have okr := oks r (List.mem_of_getElem? hr1)
    have dle := ok.le i r dd hr1 hd1
    have n2 := Same.new (o := .tup [.ref ra, .int (dd : Int)]) hu
    have k2 := k1.trans n2
    have ed2 := n2 _ _ ed
    have zip : (rs.zip ds)[i]? = some (r, dd) := List.getElem?_zip_eq_some.mpr ⟨hr1, hd1⟩
    have lim : ∀ j, (((rs.zip ds).take i).flatMap (fun p => p.1.take p.2) ++ r.take j).length ≤ 200 := by
      intro j
      have z1 : (((rs.zip ds).take i).flatMap fun p => p.1.take p.2).length ≤ (flat rs ds).length := by
        have e := List.take_append_drop i (rs.zip ds)
        have : (rs.zip ds).flatMap (fun p => p.1.take p.2) = ((rs.zip ds).take i).flatMap (fun p => p.1.take p.2) ++ ((rs.zip ds).drop i).flatMap (fun p => p.1.take p.2) := by
          rw [← List.flatMap_append, e]
        unfold flat
        rw [this, List.length_append]
        omega
      have z2 := okr.len
      have z3 := flat_len (ds := ds) oks
      rw [List.length_append, List.length_take]
      omega
    refine ⟨u, _, rfl, .of upd_same, rfl, _, _, rfl, _, _, rfl, rfl, ?_⟩
    generalize upd H1 u (.tup [.ref ra, .int (dd : Int)]) = H2 at k2 ed2 ⊢
    refine ⟨_, rfl, _, rfl, _, rfl, ra, rxs, rfl, k2.sqT rsq, fun c H3 k3 sc => ⟨c, rfl, ⟨_, sc⟩, ?_⟩⟩
    rw [cut_to] at sc
    have ed3 := k3 _ _ ed2
    have k13 := k2.trans k3
    have tk : ∀ {H' : Hp}, But (· = d) H3 H' → TupK H3 H' := fun k => k.tupK fun c ys hc => by rw [hc]; exact not_tup_dk ed3
    refine for_it (walk_tup (K := K) (a := c) (xs := rxs.take dd)) (fun j σ H' => ∃ (x6 x7 : Option V) (t : Row), σ = [some (.ref a), some (.ref b), some (.int m), some (.ref d), some (.ref ra), some (.int (dd : Int)), x6, x7, none, none, none, none, none, none, none] ∧ H' d = some (.dK (dz t)) ∧ Tot t (((rs.zip ds).take i).flatMap (fun p => p.1.take p.2) ++ r.take j) ∧ But (· = d) H3 H')
      ⟨x6, x7, t, rfl, ed3, by rw [List.take_zero, List.append_nil]; exact tot, But.refl _⟩ (fun j σ H' _ h => by obtain ⟨_, _, _, _, _, _, k⟩ := h; exact (tk k).sqT sc) ?_ ?_
    · rintro j z σ _ H4 hj ⟨x6, x7, t, rfl, ed4, tot4, k4⟩ ⟨rfl, hz⟩
      have hj : j < dd := by
        rw [List.length_take] at hj
        omega
      rw [List.getElem?_take_of_lt hj] at hz
      obtain ⟨p, hp1, hp2⟩ := rget j z hz
      obtain ⟨pb, rfl, t1⟩ := pair_at (Dp.keep (k13.tupK.trans (tk k4)) _ _ (pair_imm p) hp2)
      obtain ⟨o, eo, go⟩ := tot4.get p.2
      refine ⟨pb, _, rfl, t1, rfl, _, _, rfl, _, _, rfl, rfl, ?_⟩
      refine ⟨_, rfl, d, rfl, .inl ⟨_, .inl ed4⟩, _, rfl, o, .inl ⟨_, Sum.inl p.2, .inl ed4, rfl, eo.symm⟩, _, rfl, _, _, go, rfl, _, rfl, _, rfl, d, _, rfl, DPut.k (k := Sum.inl p.2) ed4 ?_, ?_⟩
      · unfold dz
        rw [List.length_map]
        have := tot4.len
        have := lim j
        exact Nat.lt_of_le_of_lt (show _ ≤ 200 by omega) (by decide)
      · rw [dz_put]
        refine ⟨_, _, putR t p.2 (sumK (((rs.zip ds).take i).flatMap (fun p => p.1.take p.2) ++ r.take j) p.2 + p.1), rfl, upd_same, ?_, k4.put rfl⟩
        rw [List.take_add_one, hp1, ← List.append_assoc]
        exact tot4.put p.2 p.1
    · rintro σ H4 ⟨x6, x7, t, rfl, ed4, tot4, k4⟩
      refine ⟨_, _, x6, x7, t, rfl, ed4, ?_, But.toSame (S := (· = d)) k4 k13 (fun b e => by rw [e]; exact hdn)⟩
      rw [show (rxs.take dd).length = dd by rw [List.length_take]; omega] at tot4
      rw [List.take_add_one, zip, List.flatMap_append]
      simpa using tot4
  rintro σ H1 ⟨x4, x5, x6, x7, t, rfl, ed, tot, s1⟩
  rw [List.take_of_length_le (by rw [List.length_zip, len]; exact Nat.min_le_left _ _)] at tot
  have tot : Tot t (flat rs ds) := tot
  -- the keys read, in order
  refine ⟨d, _, ed, trivial, fun od => ?_⟩
  have ez : upd H1 d (.frz od (.dK (dz t))) d = some (.frz od (.dK (dz t))) := upd_same
  generalize hH2 : upd H1 d (.frz od (.dK (dz t))) = H2 at ez ⊢
  refine ⟨_, rfl, d, od, rfl, .inl ⟨_, ez, fun D hD => ?_⟩⟩
  have t160 : t.length ≤ 160 := by
    have := tot.len
    have := flat_len (ds := ds) oks
    omega
  refine lc_it walk_keys (fun i H' => ∃ ps : List (V × (Int × Int)), H' D = some (.lst (ps.map (·.1))) ∧ ps.map (·.2) = t.take i ∧ (∀ p ∈ ps, Dp K H' p.1 (negD p.2)) ∧ Same H2 H') ⟨[], upd_same, rfl, (fun p hp => by cases hp), Same.new hD⟩ (fun i H' _ h => h.choose_spec.2.2.2 _ _ ez) ?_ ?_
  · rintro i x _ H3 hi ⟨ps, e1, e2, e3, k3⟩ ⟨rfl, key, v, hkv, rfl⟩
    obtain ⟨p, hp, e⟩ : ∃ p, t[i]? = some p ∧ (Sum.inl p.2, V.int p.1) = (key, v) := by
      unfold dz at hkv
      rw [List.getElem?_map] at hkv
      cases z : t[i]? with
      | none => rw [z] at hkv; cases hkv
      | some p => rw [z] at hkv; exact ⟨p, rfl, Option.some.inj hkv⟩
    cases e
    have ez3 := k3 _ _ ez
    have hit := (List.getElem?_eq_some_iff.mp hp).1
    refine ⟨rfl, _, rfl, _, rfl, d, .int p.1, rfl, .inl ⟨dz t, Sum.inl p.2, .inr ⟨od, ez3⟩, rfl, (dz_get tot.nod (List.mem_of_getElem? hp)).symm⟩, _, _, rfl, rfl, _, rfl, by show 2 ≤ sizeLine; decide, fun u hu => ?_⟩
    have nD : u ≠ D := fun z => by rw [z, e1] at hu; cases hu
    refine ⟨_, Same.new hu _ _ e1, ?_, ps ++ [(.ref u, p)], ?_, ?_, ?_, (k3.step hu).own hD⟩
    · rw [List.length_map, ← List.length_map (f := (·.2)), e2, List.length_take]
      exact Nat.lt_of_le_of_lt (show _ ≤ 160 by omega) (by decide)
    · rw [upd_same, List.map_append]
      rfl
    · rw [List.map_append, e2, List.take_add_one, hp]
      rfl
    · intro p' hp'
      have k4 := (Same.new (o := .tup [.int (0 - p.1), .int p.2]) hu).tupK
      have k5 : TupK (upd H3 u (.tup [.int (0 - p.1), .int p.2])) (upd (upd H3 u (.tup [.int (0 - p.1), .int p.2])) D (.lst (ps.map (·.1) ++ [.ref u]))) := But.tupK (S := (· = D)) (But.set rfl) fun c ys hc => by rw [hc]; exact not_tup_lst ((Same.new hu) _ _ e1)
      rcases List.mem_append.mp hp' with hp' | hp'
      · exact Dp.keep (k4.trans k5) _ _ (neg_imm _) (e3 p' hp')
      · rw [List.mem_singleton] at hp'
        rw [hp']
        refine .tup (.of (xs := [.int (0 - p.1), .int p.2]) ?_) (.cons (neg_sub p) (.cons (.int _) .nil))
        rw [upd_ne nD, upd_same]
        rfl
  rintro H3 ⟨ps, e1, e2, e3, k3⟩
  refine ⟨k3 _ _ ez, ?_⟩
  rw [show (dz t).length = t.length by unfold dz; rw [List.length_map], List.take_length] at e2
  have nDd : D ≠ d := fun z => by rw [z, ez] at hD; cases hD
  have t34 : TupK H3 (upd H3 d (.dK (dz t))) := But.tupK (S := (· = d)) (But.set rfl) fun c ys hc => by rw [hc]; exact not_tup_frz (k3 _ _ ez)
  have eD4 : upd H3 d (.dK (dz t)) D = some (.lst (ps.map (·.1))) := by rw [upd_ne nDd]; exact e1
  have s14 : Same H1 (upd H3 d (.dK (dz t))) := fun b o e => by
    by_cases hb : b = d
    · rw [hb, upd_same, ← ed, ← hb]
      exact e
    · rw [upd_ne hb]
      exact k3 b o (by rw [← hH2, upd_ne hb]; exact e)
  have e34 : ∀ p ∈ ps, Dp K (upd H3 d (.dK (dz t))) p.1 (negD p.2) := fun p hp => Dp.keep t34 _ _ (neg_imm _) (e3 p hp)
  generalize upd H3 d (.dK (dz t)) = H4 at eD4 s14 e34 ⊢
  have alk : PySem.W.AllAlike ((ps.map fun p => (p.1, negD p.2)).map (·.2)) := by
    rw [List.map_map]
    exact neg_alike
  refine ⟨D, ps.map (fun p => (p.1, negD p.2)), rfl, .of (by rw [List.map_map]; exact eD4), ?_, alk, ?_, ?_, fun g hg => ?_⟩
  · intro p hp
    obtain ⟨a, ha, rfl⟩ := List.mem_map.mp hp
    exact e34 a ha
  · refine .inl fun d1 h1 => ?_
    rw [List.map_map] at h1
    obtain ⟨a1, _, rfl⟩ := List.mem_map.mp h1
    exact ⟨_, _, rfl⟩
  · intro p hp
    obtain ⟨a, ha, rfl⟩ := List.mem_map.mp hp
    simp [negD, PyData.depth, PyData.depthAll]
  rw [sort_neg, List.map_map]
  have ordE := ord_neg e2 tot oks
  have memE : ∀ p ∈ ps.mergeSort leN, Dp K H4 p.1 (negD p.2) := fun p hp => e34 p ((List.mergeSort_perm ps leN).mem_iff.mp hp)
  have lenE : (ps.mergeSort leN).length ≤ 160 := by
    rw [List.length_mergeSort, ← List.length_map (f := (·.2)), e2]
    exact t160
  generalize ps.mergeSort leN = so at ordE memE lenE ⊢
  have eg := @upd_same H4 g (.lst (so.map ((fun p : V × PyData => p.1) ∘ fun p : V × (Int × Int) => (p.1, negD p.2))))
  have s45 := Same.new (o := .lst (so.map ((fun p : V × PyData => p.1) ∘ fun p : V × (Int × Int) => (p.1, negD p.2)))) hg
  generalize upd H4 g (.lst (so.map ((fun p : V × PyData => p.1) ∘ fun p : V × (Int × Int) => (p.1, negD p.2)))) = H5 at eg s45 ⊢
  refine ⟨g, rfl, ⟨_, .of eg⟩, fun D2 hD2 => ?_⟩
  refine lc_list (K := K) (a := g) (xs := so.map ((fun p : V × PyData => p.1) ∘ fun p : V × (Int × Int) => (p.1, negD p.2))) (fun i H' => H' D2 = some (.lst (((so.take i).map fun p => p.2.2).map V.int)) ∧ Same H5 H') ⟨upd_same, Same.new hD2⟩ (fun i H' _ h => h.2.sqL (.of eg)) ?_ ?_
  · rintro i x H7 hx ⟨f1, f2⟩
    have hl := (List.getElem?_eq_some_iff.mp hx).1
    rw [List.length_map] at hl
    rw [List.getElem?_map, List.getElem?_eq_getElem (show i < so.length by omega)] at hx
    cases hx
    have inn := memE _ (List.getElem_mem (show i < so.length by omega))
    have hat : so[i]? = some so[i] := List.getElem?_eq_getElem (by omega)
    obtain ⟨b, eb, t1⟩ := pair_at (q := (-(so[i]).2.1, (so[i]).2.2)) (Dp.keep (s45.trans f2).tupK _ _ (neg_imm _) inn)
    show gTup _ _ _ (so[i]).1 _ _ _
    rw [eb]
    refine ⟨b, _, rfl, t1, rfl, _, _, rfl, _, _, rfl, rfl, rfl, _, rfl, _, f1, ?_, ?_, f2.own hD2⟩
    · rw [List.length_map, List.length_map, List.length_take]
      exact Nat.lt_of_le_of_lt (show _ ≤ 160 by omega) (by decide)
    · rw [upd_same, List.take_add_one, hat, List.map_append, List.map_append]
      rfl
  rintro H6 ⟨f1, f2⟩
  rw [List.length_map, List.take_length, ordE] at f1
  have lenR : (ordL rs ds).length ≤ 160 := by rw [← ordE, List.length_map]; exact lenE
  have s16 := (s14.trans s45).trans f2
  have s06 := s1.trans s16
  have ed6 := s16 _ _ ed
  clear s14 s45 f2 eg memE lenE ordE so hg alk e34 eD4 t34 nDd e1 e2 e3 k3 ps hH2 hD2 s16 ez
  refine gname_of ?_
  -- the sums of the keys read and of the others
  have hd6 := Dp.keep s06.tupK _ _ (rows_imm rs) hd
  have hw6 := Dp.keep s06.tupK _ _ (dep_imm ds) hw
  refine ⟨_, rfl, _, rfl, _, rfl, _, rfl, .ref a, .ref b, d, rs, ds, t, rfl, hd6, hw6, ok, oks, h4, ed6, tot, fun H7 sqa S s7 es str ndS lS => ?_⟩
  have f7 := s7 _ _ f1
  refine ⟨D2, sqa, _, _, rfl, rfl, f7, es, ?_, fun ka hka => ⟨ka, rfl, ⟨_, .of upd_same⟩, fun D3 hD3 => ?_⟩⟩
  · rw [List.length_map, List.length_map]
    exact Nat.le_trans (show _ ≤ 165 by omega) (by decide)
  have o0 := ordL_ok (ds := ds) oks
  have ndK : (ordL rs ds ++ S).Nodup := by
    rw [List.nodup_append]
    exact ⟨o0.nd, ndS, fun x hx y hy e => (str.in1 y hy).2.2 (by rw [← e]; exact (o0.mb x).mp hx)⟩
  have eka : upd H7 ka (.lst ((ordL rs ds).map V.int ++ S.map V.int)) ka = some (.lst ((ordL rs ds ++ S).map V.int)) := by rw [upd_same, List.map_append]
  have s78 := Same.new (o := .lst ((ordL rs ds).map V.int ++ S.map V.int)) hka
  rw [← List.map_append] at eka s78 hD3 ⊢
  generalize upd H7 ka (.lst ((ordL rs ds ++ S).map V.int)) = H8 at eka s78 hD3 ⊢
  have s68 := s7.trans s78
  have klen : (ordL rs ds ++ S).length ≤ 165 := by rw [List.length_append]; omega
  generalize hKs : ordL rs ds ++ S = Ks at ndK eka klen hD3
  refine lc_list (K := K) (a := ka) (xs := Ks.map V.int) (fun i H' => ∃ es : List En, H' D3 = some (.lst (es.map fun e => V.ref e.1)) ∧ es.map (·.2.1) = Ks.take i ∧ (∀ e ∈ es, SqT K H' e.1 [.int e.2.1, .ref e.2.2] ∧ SqT K H' e.2.2 [.int (lowS rs ds e.2.1), .int (topS rs ds e.2.1)]) ∧ Same H8 H') ⟨[], upd_same, rfl, (fun e h => by cases h), Same.new hD3⟩ (fun i H' _ h => by obtain ⟨_, _, _, _, k⟩ := h; exact k.sqL (.of eka)) ?_ ?_
  · rintro i x H9 hx ⟨es, g1, g2, g3, k9⟩
    rw [List.getElem?_map] at hx
    cases hA : Ks[i]? with
    | none => rw [hA] at hx; cases hx
    | some k =>
      rw [hA] at hx
      cases hx
      have il := (List.getElem?_eq_some_iff.mp hA).1
      have k69 := s68.trans k9
      refine ⟨rfl, _, rfl, _, rfl, _, rfl, _, rfl, .ref a, .ref b, rs, ds, k, rfl, Dp.keep k69.tupK _ _ (rows_imm rs) hd6, Dp.keep k69.tupK _ _ (dep_imm ds) hw6, ok, oks, h4, fun H10 tt s10 dt => ?_⟩
      obtain ⟨t', et, tq⟩ := pair_at dt
      cases et
      refine ⟨by show 2 ≤ sizeLine; decide, fun u hu => ?_⟩
      have g10 := s10 _ _ g1
      have n10 := Same.new (o := .tup [.int k, .ref tt]) hu
      have nuD : u ≠ D3 := fun z => by rw [z, g10] at hu; cases hu
      have t10 : TupK (upd H10 u (.tup [.int k, .ref tt])) (upd (upd H10 u (.tup [.int k, .ref tt])) D3 (.lst ((es.map fun e => V.ref e.1) ++ [.ref u]))) := But.tupK (S := (· = D3)) (But.set rfl) fun c ys hc => by rw [hc]; exact not_tup_lst (n10 _ _ g10)
      refine ⟨_, n10 _ _ g10, ?_, es ++ [(u, k, tt)], ?_, ?_, ?_, ((k9.trans s10).step hu).own hD3⟩
      · rw [List.length_map, ← List.length_map (f := fun e : En => e.2.1), g2, List.length_take]
        exact Nat.lt_of_le_of_lt (show _ ≤ 165 by omega) (by decide)
      · rw [upd_same, List.map_append]
        rfl
      · rw [List.map_append, g2, List.take_add_one, hA]
        rfl
      · intro e he
        rcases List.mem_append.mp he with he | he
        · have z := g3 e he
          have tk := (s10.trans n10).tupK.trans t10
          exact ⟨tk.sqT z.1, tk.sqT z.2⟩
        · rw [List.mem_singleton] at he
          rw [he]
          refine ⟨.of ?_, (n10.tupK.trans t10).sqT tq⟩
          rw [upd_ne nuD, upd_same]
  rintro H9 ⟨es', g1, g2, g3, k9⟩
  rw [List.length_map, List.take_length] at g2
  refine ⟨D3, es'.map (fun e : En => e.1), enK es', rfl, .of (by rw [List.map_map]; exact g1), en_paired (K := K) fun e he => (g3 e he).1, fun ea hea => ?_⟩
  have nda : d ≠ ea := fun z => by rw [← z, (s68.trans k9) _ _ ed6] at hea; cases hea
  have nde : (es'.map (·.2.1)).Nodup := by rw [g2]; exact ndK
  have mg := enK_merge es' [] (by rw [List.nil_append]; exact nde)
  rw [show mergeK [] (enK es') = enK es' from mg]
  have s910 := Same.new (o := .dK (enK es')) hea
  have e10 := @upd_same H9 ea (.dK (enK es'))
  generalize upd H9 ea (.dK (enK es')) = H10 at s910 e10 ⊢
  have s610 := (s68.trans k9).trans s910
  have en10 : ∀ k, k ∈ Ks → ∃ c, valV (enK es') (Sum.inl k) = some (.ref c) ∧ SqT K H10 c [.int (lowS rs ds k), .int (topS rs ds k)] := by
    intro k hk
    rw [← g2] at hk
    obtain ⟨e, he, rfl⟩ := List.mem_map.mp hk
    exact ⟨_, enK_get nde he, s910.sqT (g3 e he).2⟩
  have f10 := s610 _ _ f1
  have ed10 := s610 _ _ ed6
  have s010 := s06.trans s610
  clear g1 g3 k9 s68 s78 s7 s06 s610 s910 f1 f7 eka es hka hD3 hea ed6 hd6 hw6
  -- chosen, and the rest
  refine ⟨_, rfl, _, rfl, _, rfl, D2, _, rfl, .of f10, fun c1 hc1 => ?_⟩
  have n1 := Same.new (o := .lst (cutV ((ordL rs ds).map V.int) none (some (m : Int)))) hc1
  refine ⟨_, rfl, _, rfl, _, rfl, D2, _, rfl, .of (n1 _ _ f10), fun c2 hc2 => ?_⟩
  have n2 := n1.step (o := .lst (cutV ((ordL rs ds).map V.int) (some (m : Int)) none)) hc2
  have ec1 := Same.new (o := .lst (cutV ((ordL rs ds).map V.int) (some (m : Int)) none)) hc2 _ _ (@upd_same H10 c1 (.lst (cutV ((ordL rs ds).map V.int) none (some (m : Int)))))
  have ec2 := @upd_same (upd H10 c1 (.lst (cutV ((ordL rs ds).map V.int) none (some (m : Int))))) c2 (.lst (cutV ((ordL rs ds).map V.int) (some (m : Int)) none))
  generalize upd (upd H10 c1 (.lst (cutV ((ordL rs ds).map V.int) none (some (m : Int))))) c2 (.lst (cutV ((ordL rs ds).map V.int) (some (m : Int)) none)) = H12 at n2 ec1 ec2 ⊢
  rw [cut_to, ← List.map_take] at ec1
  rw [cut_from, ← List.map_drop] at ec2
  have e12 := n2 _ _ e10
  have ed12 := n2 _ _ ed10
  refine ⟨ea, _, e12, trivial, fun oe => ?_⟩
  have nce1 : c1 ≠ ea := fun z => by rw [z, e10] at hc1; cases hc1
  have nce2 : c2 ≠ ea := fun z => by rw [z, e12] at ec2; cases ec2
  have nde2 : d ≠ ea := nda
  have inT : ∀ k, k ∈ t.map (·.2) ↔ isRead rs ds k := tot.key
  have eqz : upd H12 ea (.frz oe (.dK (enK es'))) ea = some (.frz oe (.dK (enK es'))) := upd_same
  have edF : upd H12 ea (.frz oe (.dK (enK es'))) d = some (.dK (dz t)) := by rw [upd_ne nde2]; exact ed12
  generalize hHF : upd H12 ea (.frz oe (.dK (enK es'))) = HF at eqz edF ⊢
  refine ⟨_, rfl, ea, oe, rfl, .inl ⟨_, eqz, fun D4 hD4 => ?_⟩⟩
  have lenE : (enK es').length = Ks.length := by unfold enK; rw [List.length_map, ← List.length_map (f := fun e : En => e.2.1), g2]
  have enAt : ∀ {i : Nat} {key : Key} {v : V}, (enK es')[i]? = some (key, v) → ∃ k, Ks[i]? = some k ∧ key = Sum.inl k := by
    intro i key v h
    unfold enK at h
    rw [List.getElem?_map] at h
    cases z : es'[i]? with
    | none => rw [z] at h; cases h
    | some e =>
      rw [z] at h
      have h := Option.some.inj h
      refine ⟨e.2.1, ?_, (congrArg Prod.fst h).symm⟩
      rw [← g2, List.getElem?_map, z]
      rfl
  refine lc_it walk_keys (fun i H' => H' D4 = some (.lst (((Ks.take i).filter fun k => decide (¬ isRead rs ds k)).map V.int)) ∧ Same HF H') ⟨upd_same, Same.new hD4⟩ (fun i H' _ h => h.2 _ _ eqz) ?_ ?_
  · rintro i x _ H13 hi ⟨f1, f2⟩ ⟨rfl, key, v, hkv, rfl⟩
    obtain ⟨k, hk, rfl⟩ := enAt hkv
    have il := (List.getElem?_eq_some_iff.mp hk).1
    refine ⟨rfl, _, rfl, _, rfl, d, _, rfl, .inl ⟨dz t, Sum.inl k, .inl (f2 _ _ edF), rfl, rfl⟩, _, rfl, ?_⟩
    rw [dz_in]
    by_cases rc : isRead rs ds k
    · refine iteB' (by rw [decide_eq_true ((inT k).mpr rc)]; rfl) ⟨?_, f2⟩
      rw [List.take_add_one, hk, List.filter_append, show List.filter (fun k => decide (¬ isRead rs ds k)) (Option.toList (some k)) = [] from by simp [rc], List.append_nil]
      exact f1
    · refine iteB (by rw [decide_eq_false (fun z => rc ((inT k).mp z))]; rfl) ⟨_, rfl, _, f1, ?_, ?_, f2.own hD4⟩
      · rw [List.length_map]
        refine Nat.lt_of_le_of_lt (List.length_filter_le _ _) ?_
        rw [List.length_take]
        exact Nat.lt_of_le_of_lt (show _ ≤ 165 by omega) (by decide)
      · rw [upd_same, List.take_add_one, hk, List.filter_append, List.map_append]
        simp [rc, kV]
  rintro H13 ⟨f1, f2⟩
  rw [lenE, List.take_length, ← hKs, filter_unread o0 str] at f1
  refine ⟨f2 _ _ eqz, ?_⟩
  have nD4 : D4 ≠ ea := fun z => by rw [z, eqz] at hD4; cases hD4
  have s12L : Same H12 (upd H13 ea (.dK (enK es'))) := fun b o e => by
    by_cases hb : b = ea
    · rw [hb, upd_same, ← e12, ← hb]
      exact e
    · rw [upd_ne hb]
      exact f2 b o (by rw [← hHF, upd_ne hb]; exact e)
  have eD4 : upd H13 ea (.dK (enK es')) D4 = some (.lst (S.map V.int)) := by rw [upd_ne nD4]; exact f1
  have e14 := @upd_same H13 ea (.dK (enK es'))
  clear f1 f2 hHF eqz edF hD4
  generalize upd H13 ea (.dK (enK es')) = H14 at s12L eD4 e14 ⊢
  refine ⟨c2, D4, _, _, rfl, rfl, s12L _ _ ec2, eD4, ?_, fun rr hrr => ⟨_, _, rfl, ?_⟩⟩
  · rw [List.length_map, List.length_map, List.length_drop]
    exact Nat.le_trans (show _ ≤ 165 by omega) (by decide)
  have n15 := Same.new (o := .lst (((ordL rs ds).drop m).map V.int ++ S.map V.int)) hrr
  have err : upd H14 rr (.lst (((ordL rs ds).drop m).map V.int ++ S.map V.int)) rr = some (.lst (((ordL rs ds).drop m ++ S).map V.int)) := by rw [upd_same, List.map_append]
  generalize upd H14 rr (.lst (((ordL rs ds).drop m).map V.int ++ S.map V.int)) = H15 at n15 err ⊢
  have s15 := n2.trans (s12L.trans n15)
  have ec15 := (s12L.trans n15) _ _ ec1
  have e15 := n15 _ _ e14
  have s015 := s010.trans s15
  have en15 : ∀ k, k ∈ Ks → ∃ c, valV (enK es') (Sum.inl k) = some (.ref c) ∧ SqT K H15 c [.int (lowS rs ds k), .int (topS rs ds k)] := by
    intro k hk
    obtain ⟨c, z1, z2⟩ := en10 k hk
    exact ⟨c, z1, s15.sqT z2⟩
  have KsE : (ordL rs ds).take m ++ ((ordL rs ds).drop m ++ S) = Ks := by rw [← List.append_assoc, List.take_append_drop]; exact hKs
  clear s15 en10 n2 s12L n15 ec1 ec2 e12 ed12 e10 f10 ed10 hrr s010 eD4 e14 hc1 hc2 nce1 nce2 nD4 mg enAt lenE
  generalize hR : (ordL rs ds).drop m ++ S = R at err KsE ⊢
  generalize hC : (ordL rs ds).take m = C at ec15 KsE ⊢
  have inR : ∀ k ∈ R, k ∈ Ks := fun k h => by rw [← KsE]; exact List.mem_append_right _ h
  have inC : ∀ k ∈ C, k ∈ Ks := fun k h => by rw [← KsE]; exact List.mem_append_left _ h
  have lenR : R.length ≤ 165 := by have := congrArg List.length KsE; rw [List.length_append] at this; omega
  have lenC : C.length ≤ 165 := by have := congrArg List.length KsE; rw [List.length_append] at this; omega
  have lenC2 : C.length = min m (ordL rs ds).length := by rw [← hC, List.length_take]
  rw [← KsE] at ndK
  dsimp only
  refine seq_by (fun σ' H' => σ' = [some (.ref a), some (.ref b), some (.int m), some (.ref d), some (.ref D2), x5, x6, x7, some (.ref ea), some (.ref c1), some (.ref rr), none, none, none, none] ∧ Same H15 H' ∧ ((ordL rs ds).length < m → ∀ s ∈ S, topS rs ds s = 0)) ?_ ?_
  · intro N hN
    refine ⟨_, rfl, c1, _, rfl, .inl (.of ec15), _, rfl, _, _, rfl, rfl, _, rfl, ?_⟩
    rw [List.length_map]
    by_cases few : (ordL rs ds).length < m
    · refine iteB (decide_eq_true (by omega)) ?_
      have RS : R = S := by rw [← hR, List.drop_of_length_le (by omega), List.nil_append]
      refine ⟨_, rfl, rr, rfl, ⟨_, .of err⟩, fun D5 hD5 => ?_⟩
      refine lc_list (K := K) (a := rr) (xs := R.map V.int) (fun i H' => H' D5 = some (.lst (((R.take i).filter fun k => decide (0 < topS rs ds k)).map V.int)) ∧ Same H15 H') ⟨upd_same, Same.new hD5⟩ (fun i H' _ h => h.2.sqL (.of err)) ?_ ?_
      · rintro i x H16 hx ⟨f1, f2⟩
        rw [List.getElem?_map] at hx
        cases hA : R[i]? with
        | none => rw [hA] at hx; cases hx
        | some k =>
          rw [hA] at hx
          cases hx
          obtain ⟨c, z1, z2⟩ := en15 k (inR k (List.mem_of_getElem? hA))
          refine ⟨rfl, _, rfl, _, rfl, ea, _, rfl, .inl ⟨_, Sum.inl k, .inl (f2 _ _ e15), rfl, z1.symm⟩, c, _, _, _, rfl, rfl, f2.sqT z2, rfl, _, _, rfl, rfl, _, rfl, ?_⟩
          by_cases pos : 0 < topS rs ds k
          · refine iteB (decide_eq_true pos) ⟨_, rfl, _, f1, ?_, ?_, f2.own hD5⟩
            · rw [List.length_map]
              refine Nat.lt_of_le_of_lt (List.length_filter_le _ _) ?_
              rw [List.length_take]
              exact Nat.lt_of_le_of_lt (show _ ≤ 165 by omega) (by decide)
            · rw [upd_same, List.take_add_one, hA, List.filter_append, List.map_append]
              simp [pos]
          · refine iteB' (decide_eq_false pos) ⟨?_, f2⟩
            rw [List.take_add_one, hA, List.filter_append]
            simp [pos]
            exact f1
      · rintro H16 ⟨f1, f2⟩
        rw [List.length_map, List.take_length] at f1
        refine ⟨Nat.zero_le _, fun e he => ?_⟩
        refine ⟨D5, e, _, rfl, rfl, .of (Same.new he _ _ f1), .of upd_same, _, rfl, ?_⟩
        by_cases z : ∀ s ∈ S, topS rs ds s = 0
        · refine iteB' ?_ (hN _ _ ⟨rfl, f2.step he, fun _ => z⟩)
          have z0 : R.filter (fun k => decide (0 < topS rs ds k)) = [] := by
            rw [List.filter_eq_nil_iff]
            intro k hk w
            rw [RS] at hk
            have := of_decide_eq_true w
            have := z k hk
            omega
          rw [z0]
          rfl
        · refine iteB ?_ (q _ .non ((s015.trans f2).step he) ?_)
          · cases w : R.filter (fun k => decide (0 < topS rs ds k)) with
            | cons x l => rfl
            | nil =>
              exfalso
              rw [List.filter_eq_nil_iff] at w
              refine z fun s hs => ?_
              have w1 := w s (by rw [RS]; exact hs)
              have w2 := (low_read (ds := ds) oks s).2.1
              have w3 := low_le_top oks ok s
              have w4 : ¬ 0 < topS rs ds s := fun y => w1 (decide_eq_true y)
              omega
          · rw [settled_no fun gd => z (str.zero.mpr (gd.few few))]
            exact .non
    · refine iteB' (decide_eq_false (by omega)) (iteF (hN _ _ ⟨rfl, Same.refl _, fun z => absurd z few⟩))
  rintro σ' H16 ⟨rfl, s16, zero⟩
  have s016 := s015.trans s16
  have err := s16 _ _ err
  have ec16 := s16 _ _ ec15
  have e16 := s16 _ _ e15
  have en16 : ∀ k, k ∈ Ks → ∃ c, valV (enK es') (Sum.inl k) = some (.ref c) ∧ SqT K H16 c [.int (lowS rs ds k), .int (topS rs ds k)] := by
    intro k hk
    obtain ⟨c, z1, z2⟩ := en15 k hk
    exact ⟨c, z1, s16.sqT z2⟩
  clear en15 e15 ec15 s015 s16
  refine ⟨_, rfl, c1, _, rfl, .of ec16, ?_⟩
  refine for_it (walk_enum (K := K) (a := c1) (xs := C.map V.int)) (fun i σ H' => ∃ (x7 x11 x12 x13 : Option V), σ = [some (.ref a), some (.ref b), some (.int m), some (.ref d), some (.ref D2), x5, x6, x7, some (.ref ea), some (.ref c1), some (.ref rr), x11, x12, x13, none] ∧ (∀ (j : Nat) (k o : Int), j < i → C[j]? = some k → o ∈ behL C R m j → Beats rs ds k o) ∧ Same H16 H') ⟨x7, none, none, none, rfl, (fun j k o h => by omega), Same.refl _⟩ (fun i σ H' _ h => by obtain ⟨_, _, _, _, _, _, k⟩ := h; exact k.sqL (.of ec16)) ?_ ?_
  · rintro i x σ H17 H18 hi ⟨y7, y11, y12, y13, rfl, st, k17⟩ ⟨tt, y, z, rfl, ht, rfl, hy, hz⟩
    have hy : V.int (i : Nat) = y := Option.some.inj hy
    subst hy
    have hz : (C.map V.int)[i]? = some z := hz
    rw [List.getElem?_map] at hz
    cases hA : C[i]? with
    | none => rw [hA] at hz; cases hz
    | some k =>
      rw [hA] at hz
      have hz : V.int k = z := Option.some.inj hz
      subst hz
      have k18 := k17.step (o := .tup [.int (i : Nat), .int k]) ht
      refine ⟨tt, _, rfl, .of upd_same, rfl, _, _, rfl, _, _, rfl, rfl, ?_⟩
      generalize upd H17 tt (.tup [.int (i : Nat), .int k]) = H18 at k18 ⊢
      have kC := inC k (List.mem_of_getElem? hA)
      have ilt := (List.getElem?_eq_some_iff.mp hA).1
      have behLen : (behL C R m i).length ≤ 330 := by
        unfold behL
        rw [List.length_append, List.length_drop]
        split
        · omega
        · rw [List.length_nil]; omega
      refine asg_by (fun v H' => ∃ bb, v = .ref bb ∧ H' bb = some (.lst ((behL C R m i).map V.int)) ∧ Same H18 H') ?_ ?_
      · intro Q' hQ
        refine ⟨_, rfl, _, rfl, _, _, rfl, rfl, _, rfl, c1, _, rfl, .of (k18 _ _ ec16), fun u hu => ?_⟩
        have n19 := Same.new (o := .lst (cutV (C.map V.int) (some ((i : Nat) + 1 : Int)) none)) hu
        have eu := @upd_same H18 u (.lst (cutV (C.map V.int) (some ((i : Nat) + 1 : Int)) none))
        generalize upd H18 u (.lst (cutV (C.map V.int) (some ((i : Nat) + 1 : Int)) none)) = H19 at n19 eu ⊢
        have cutE : cutV (C.map V.int) (some ((i : Nat) + 1 : Int)) none = (C.drop (i + 1)).map V.int := by
          rw [show ((i : Nat) + 1 : Int) = ((i + 1 : Nat) : Int) by omega, cut_from, List.map_drop]
        rw [cutE] at eu
        have ec19 := (k18.trans n19) _ _ ec16
        have err19 := (k18.trans n19) _ _ err
        have els : ¬ (i + 1 = C.length ∧ C.length = m) → ∀ v, H19 v = none → rCat (.ref u) (.ref v) (upd H19 v (.lst [])) Q' := by
          intro no v hv
          have n20 := Same.new (o := .lst []) hv
          refine ⟨u, v, _, _, rfl, rfl, n20 _ _ eu, upd_same, ?_, fun bb hbb => hQ _ _ ⟨bb, rfl, ?_, (n19.trans n20).step hbb⟩⟩
          · rw [List.length_map, List.length_drop, List.length_nil]
            exact Nat.le_trans (show _ ≤ 330 by omega) (by decide)
          · rw [upd_same]
            unfold behL
            rw [if_neg no, List.append_nil, List.append_nil]
        refine ⟨_, rfl, _, rfl, c1, _, rfl, .inl (.of ec19), _, _, rfl, rfl, rfl, _, rfl, ?_⟩
        rw [List.length_map]
        by_cases e1 : i + 1 = C.length
        · refine iteB (decide_eq_true (congrArg V.int (by omega))) ?_
          refine ⟨_, rfl, c1, _, rfl, .inl (.of ec19), _, rfl, rfl, _, rfl, ?_⟩
          rw [List.length_map]
          by_cases e2 : C.length = m
          · refine iteB (decide_eq_true (congrArg V.int (by omega))) ⟨_, rfl, u, rr, _, _, rfl, rfl, eu, err19, ?_, fun bb hbb => hQ _ _ ⟨bb, rfl, ?_, n19.step hbb⟩⟩
            · rw [List.length_map, List.length_drop, List.length_map]
              exact Nat.le_trans (show _ ≤ 330 by omega) (by decide)
            · rw [upd_same]
              unfold behL
              rw [if_pos ⟨e1, e2⟩, List.map_append]
          · refine iteB' (decide_eq_false fun z => e2 (by injection z with z; omega)) ⟨Nat.zero_le _, fun v hv => els (fun z => e2 z.2) v hv⟩
        · refine iteB' (decide_eq_false fun z => e1 (by injection z with z; omega)) (iteF ⟨Nat.zero_le _, fun v hv => els (fun z => e1 z.1) v hv⟩)
      rintro v H19 ⟨bb, rfl, eb, s19⟩
      have k19 := k18.trans s19
      refine ⟨_, rfl, bb, rfl, ⟨_, .of eb⟩, ?_⟩
      refine for_it (walk_list (K := K) (a := bb) (xs := (behL C R m i).map V.int)) (fun j σ H' => ∃ (x13 : Option V), σ = [some (.ref a), some (.ref b), some (.int m), some (.ref d), some (.ref D2), x5, x6, some (.int k), some (.ref ea), some (.ref c1), some (.ref rr), some (.int (i : Nat)), some (.ref bb), x13, none] ∧ (∀ (n : Nat) (o : Int), n < j → (behL C R m i)[n]? = some o → Beats rs ds k o) ∧ Same H19 H') ⟨y13, rfl, (fun n o h => by omega), Same.refl _⟩ (fun j σ H' _ h => by obtain ⟨_, _, _, k⟩ := h; exact k.sqL (.of eb)) ?_ ?_
      · rintro j x σ _ H20 hj ⟨x13, rfl, st2, k20⟩ ⟨rfl, hx⟩
        rw [List.getElem?_map] at hx
        cases hB : (behL C R m i)[j]? with
        | none => rw [hB] at hx; cases hx
        | some o =>
          rw [hB] at hx
          have hx : V.int o = x := Option.some.inj hx
          subst hx
          have k1620 := k19.trans k20
          have oB := List.mem_of_getElem? hB
          have oK : o ∈ Ks := by
            unfold behL at oB
            rcases List.mem_append.mp oB with h | h
            · exact inC _ (List.mem_of_mem_drop h)
            · split at h
              · exact inR _ h
              · cases h
          obtain ⟨ck, v1, q1⟩ := en16 k kC
          obtain ⟨co, v2, q2⟩ := en16 o oK
          have q1 := k1620.sqT q1
          have q2 := k1620.sqT q2
          have e20 := k1620 _ _ e16
          have bad : ¬ Beats rs ds k o → ∀ H', Same H20 H' → Q .non H' := by
            intro nb H' s'
            refine q _ .non ((s016.trans k1620).trans s') ?_
            rw [settled_no fun gd => nb (gd.beh oks str hC.symm hR.symm hA oB)]
            exact .non
          have good : Beats rs ds k o → (∀ (n : Nat) (o : Int), n < j + 1 → (behL C R m i)[n]? = some o → Beats rs ds k o) := by
            intro g n o' h1 h2
            by_cases e : n < j
            · exact st2 n o' e h2
            · obtain rfl : n = j := by omega
              rw [hB] at h2
              cases h2
              exact g
          refine ⟨_, rfl, _, rfl, ea, _, rfl, .inl ⟨_, Sum.inl k, .inl e20, rfl, v1.symm⟩, ck, _, _, _, rfl, rfl, q1, rfl, _, rfl, _, rfl, ea, _, rfl, .inl ⟨_, Sum.inl o, .inl e20, rfl, v2.symm⟩, co, _, _, _, rfl, rfl, q2, rfl, _, _, rfl, rfl, _, rfl, ?_⟩
          by_cases l1 : lowS rs ds k < topS rs ds o
          · refine iteB (decide_eq_true l1) (iteT (bad (fun z => ?_) _ (Same.refl _)))
            unfold Beats at z
            omega
          · refine iteB' (decide_eq_false l1) ?_
            refine ⟨_, rfl, _, rfl, ea, _, rfl, .inl ⟨_, Sum.inl k, .inl e20, rfl, v1.symm⟩, ck, _, _, _, rfl, rfl, q1, rfl, _, rfl, _, rfl, ea, _, rfl, .inl ⟨_, Sum.inl o, .inl e20, rfl, v2.symm⟩, co, _, _, _, rfl, rfl, q2, rfl, rfl, _, rfl, ?_⟩
            by_cases l2 : lowS rs ds k = topS rs ds o
            · refine iteB (decide_eq_true (congrArg V.int l2)) ⟨_, rfl, _, rfl, _, _, rfl, rfl, _, rfl, ?_⟩
              by_cases l3 : o < k
              · refine iteB (decide_eq_true l3) (bad (fun z => ?_) _ (Same.refl _))
                unfold Beats at z
                omega
              · have ne := beh_ne ndK hA oB
                refine iteB' (decide_eq_false l3) ⟨_, rfl, good (.inr ⟨l2, by omega⟩), k20⟩
            · refine iteB' (decide_eq_false fun z => l2 (by injection z)) (iteF ⟨_, rfl, good (.inl (by omega)), k20⟩)
      · rintro σ H20 ⟨x13, rfl, st2, k20⟩
        rw [List.length_map] at st2
        refine ⟨_, _, _, x13, rfl, fun j k' o h1 h2 h3 => ?_, k19.trans k20⟩
        by_cases e : j < i
        · exact st j k' o e h2 h3
        · obtain rfl : j = i := by omega
          rw [hA] at h2
          cases h2
          obtain ⟨n, hn, e2⟩ := List.getElem_of_mem h3
          exact st2 n o hn (by rw [List.getElem?_eq_getElem hn, e2])
  rintro σ H17 ⟨y7, y11, y12, y13, rfl, st, k17⟩
  rw [List.length_map] at st
  have gd : Good rs ds m := good_beh oks ok str m1 hC.symm hR.symm (fun j k o h1 h2 => st j k o (List.getElem?_eq_some_iff.mp h1).1 h1 h2) zero
  refine ⟨_, rfl, c1, _, rfl, .inl ⟨.of (k17 _ _ ec16), fun p hp => q _ (.ref p) ((s016.trans k17).step hp) ?_⟩⟩
  rw [settled_yes gd, hC]
  exact .tup (.of upd_same) (dpAll_ints _)
end
end K71
set_option pp.maxSteps 1200
namespace K71
open PySem PySem.Spec PyProof.Rows L2 RZ
theorem rep_ok {d : PyData} (t : tidy d = true) (b : d.bulk ≤ 300000) (p : d.depth ≤ 60) : d.showable = true ∧ (d = .dict [] ∨ d.hasDict = false) ∧ d.shown.length ≤ sizeLine ∧ d.depth ≤ 60 :=
  ⟨(tidy_ok d t).2.1, .inr (tidy_ok d t).2.2.1, shown_short t b, p⟩
theorem bestL_ok {rs : List Row} {m : Nat} (h : ∀ r ∈ rs, RowOk r) : (bestL rs m).length ≤ m ∧ ∀ k ∈ bestL rs m, 1 ≤ k ∧ k ≤ 999 := by
  unfold bestL
  refine ⟨by rw [List.length_take]; exact Nat.min_le_left _ _, fun k hk => ?_⟩
  exact read_key h (((ordL_ok (ds := ends rs) h).mb k).mp (List.mem_of_mem_take hk))
theorem keys_tidy {l : List Int} (h : ∀ k ∈ l, 1 ≤ k ∧ k ≤ 999) : tidy (keysD l) = true := by
  unfold keysD
  simp only [tidy]
  refine tidyAll_map fun k hk => ?_
  have a := h k hk
  simp only [tidy, decide_eq_true_eq]
  omega
theorem keys_bulk {l : List Int} {n : Nat} (h : l.length ≤ n) : (keysD l).bulk ≤ n := by
  unfold keysD
  simp only [PyData.bulk]
  have := bulk_map (f := PyData.int) (n := 0) (l := l) fun a _ => by simp [PyData.bulk]
  omega
theorem keys_depth (l : List Int) : (keysD l).depth ≤ 10 := by
  unfold keysD
  simp only [PyData.depth]
  have := depth_map (f := PyData.int) (n := 3) (l := l) fun q _ => by simp [PyData.depth]
  omega
/-- what is told of one thing of small data, and of two of them in a list -/
structure Small (d : PyData) : Prop where
  t : tidy d = true
  b : d.bulk ≤ 1000
  p : d.depth ≤ 10
theorem Small.one {d : PyData} (s : Small d) : d.showable = true ∧ (d = .dict [] ∨ d.hasDict = false) ∧ d.shown.length ≤ sizeLine ∧ d.depth ≤ 60 :=
  rep_ok s.t (by have := s.b; omega) (by have := s.p; omega)
theorem Small.two {d : PyData} (s : Small d) : (PyData.list [d, d]).showable = true ∧ (PyData.list [d, d] = .dict [] ∨ (PyData.list [d, d]).hasDict = false) ∧ (PyData.list [d, d]).shown.length ≤ sizeLine ∧ (PyData.list [d, d]).depth ≤ 60 :=
  rep_ok (by simp only [tidy, tidyAll, s.t, Bool.and_true]) (by have := s.b; simp only [PyData.bulk, PyData.bulkAll]; omega) (by have := s.p; simp only [PyData.depth, PyData.depthAll]; omega)
theorem Small.none : Small .none := ⟨rfl, by simp [PyData.bulk], by simp [PyData.depth]⟩
theorem best_small {rs : List Row} {m : Nat} (h : ∀ r ∈ rs, RowOk r) (m40 : m ≤ 40) : Small (keysD (bestL rs m)) := by
  obtain ⟨a, b⟩ := bestL_ok (m := m) h
  exact ⟨keys_tidy b, Nat.le_trans (keys_bulk a) (by omega), keys_depth _⟩
theorem settled_cases {rs : List Row} {ds : List Nat} {m : Nat} (h : ∀ r ∈ rs, RowOk r) (ok : DepOk rs ds) : settledO rs ds m = none ∨ settledO rs ds m = some (bestL rs m) := by
  cases e : settledO rs ds m with
  | none => exact .inl rfl
  | some l => rw [settled_best h ok e]; exact .inr rfl
def spDeeper (K : PySem.W.Frag) : Sp := fun vs H Q _ => ∃ (u : Addr) (v w : V) (rs : List Row) (ds : List Nat), vs = [.ref u, v, w] ∧ Dp K H v (rowsD rs) ∧ Dp K H w (depD ds) ∧ DepOk rs ds ∧ rs.length ≤ 4 ∧ (∀ r ∈ rs, RowOk r) ∧ Urn H u ∧
  ∀ (H' : Hp) (p : Addr) (es : List Nat), Urn H' u → But (· = u) H H' → DepOk rs es → DepLe ds es → Dp K H' (.ref p) (depD es) → Q (.ref p) H'
section
variable {P : Program} {w : World} {K : PySem.W.Frag} {mg : Str → Option Value} {base : Heap}
end
end K71
set_option pp.maxSteps 1200
namespace K71
open PySem PySem.Spec PyProof.Rows L2 RZ
/-- depths at most these -/
def Below : List Nat → List Nat → Prop
  | [], [] => True
  | e :: es, l :: ls => e ≤ l ∧ Below es ls
  | _, _ => False
theorem Below.len : ∀ {es ls : List Nat}, Below es ls → es.length = ls.length
  | [], [], _ => rfl
  | _ :: _, _ :: _, h => congrArg Nat.succ (Below.len h.2)
  | [], _ :: _, h => h.elim
  | _ :: _, [], h => h.elim
theorem below_dep : ∀ {rs : List Row} {es : List Nat}, Below es (ends rs) ↔ DepOk rs es
  | [], [] => ⟨fun _ => ⟨rfl, fun i r d h => by simp at h⟩, fun _ => True.intro⟩
  | [], _ :: _ => ⟨fun h => h.elim, fun h => by have := h.len; simp at this⟩
  | _ :: _, [] => ⟨fun h => h.elim, fun h => by have := h.len; simp at this⟩
  | r :: rs, e :: es => by
    have ih := below_dep (rs := rs) (es := es)
    constructor
    · intro h
      have k := ih.mp h.2
      refine ⟨by simp [k.len], fun i s d h1 h2 => ?_⟩
      cases i with
      | zero => cases h1; cases h2; exact h.1
      | succ i => exact k.le i s d h1 h2
    · intro h
      exact ⟨h.le 0 r e rfl rfl, ih.mpr ⟨by have := h.len; simpa using this, fun i s d h1 h2 => h.le (i + 1) s d h1 h2⟩⟩
structure Few (rs : List Row) (m : Nat) (es : List Nat) : Prop where
  ok : DepOk rs es
  yes : settledO rs es m ≠ none
  no : ∀ fs, DepOk rs fs → fs.sum < es.sum → settledO rs fs m = none
theorem Few.sum {rs : List Row} {m : Nat} {es fs : List Nat} (h : Few rs m es) (k : Few rs m fs) : es.sum = fs.sum := by
  rcases Nat.lt_trichotomy es.sum fs.sum with c | c | c
  · exact absurd (k.no es h.ok c) h.yes
  · exact c
  · exact absurd (h.no fs k.ok c) k.yes
theorem sum_le_below : ∀ {es ls : List Nat}, Below es ls → es.sum ≤ ls.sum
  | [], [], _ => Nat.le_refl _
  | e :: es, l :: ls, h => by
    rw [List.sum_cons, List.sum_cons]
    have := sum_le_below h.2
    have := h.1
    omega
  | [], _ :: _, h => h.elim
  | _ :: _, [], h => h.elim
theorem sum_cast : ∀ l : List Nat, (l.map fun d : Nat => (d : Int)).sum = ((l.sum : Nat) : Int)
  | [] => rfl
  | d :: l => by
    rw [List.map_cons, List.sum_cons, List.sum_cons, sum_cast l]
    omega
theorem sum_ends8 : ∀ {rs : List Row}, (∀ r ∈ rs, r.length ≤ 8) → (ends rs).sum ≤ 8 * rs.length
  | [], _ => Nat.le_refl _
  | r :: rs, h => by
    have a := h r List.mem_cons_self
    have b := sum_ends8 (rs := rs) fun s hs => h s (List.mem_cons_of_mem _ hs)
    show r.length + (ends rs).sum ≤ _
    rw [List.length_cons]
    omega
theorem depth_imm (ds : List Nat) : imm (depD ds) = true := dep_imm ds
/-- what is told of some depths -/
def depsD (dss : List (List Nat)) : PyData := .list (dss.map depD)
def spDepthsN (K : PySem.W.Frag) (n : Nat) : Sp := fun vs H Q _ => ∃ (v : V) (ls : List Nat) (t : Nat), vs = [v, .int (t : Int)] ∧ Dp K H v (depD ls) ∧ ls.length < n ∧ n ≤ 5 ∧ (∀ l ∈ ls, l ≤ 8) ∧ t ≤ 32 ∧
  ∀ (H' : Hp) (p : Addr) (xs : List V) (dss : List (List Nat)), Same H H' → H' p = some (.lst xs) → DpAll K H' xs (dss.map depD) → (∀ es, es ∈ dss ↔ Below es ls ∧ es.sum = t) → dss.length ≤ 9 ^ ls.length → Q (.ref p) H'
def spShort (K : PySem.W.Frag) : Sp := fun vs H Q _ => ∃ (v : V) (rs : List Row), vs = [v] ∧ Dp K H v (rowsD rs) ∧ 1 ≤ rs.length ∧ rs.length ≤ 4 ∧ (∀ r ∈ rs, r.length ≤ 8) ∧ ∀ H', Same H H' → Q .non H'
def spFewest (K : PySem.W.Frag) : Sp := fun vs H Q _ => ∃ (v : V) (rs : List Row) (m : Nat), vs = [v, .int (m : Int)] ∧ Dp K H v (rowsD rs) ∧ (∀ r ∈ rs, RowOk r) ∧ 1 ≤ rs.length ∧ rs.length ≤ 4 ∧ (∀ r ∈ rs, r.length ≤ 8) ∧ 1 ≤ m ∧ m ≤ 40 ∧
  ∀ (H' : Hp) (p : Addr) (es : List Nat), Same H H' → Dp K H' (.ref p) (depD es) → Few rs m es → Q (.ref p) H'
def spLooks (K : PySem.W.Frag) : Sp := fun vs H Q _ => ∃ (v : V) (rs : List Row) (m : Nat), vs = [v, .int (m : Int)] ∧ Dp K H v (rowsD rs) ∧ (∀ r ∈ rs, RowOk r) ∧ 1 ≤ rs.length ∧ rs.length ≤ 4 ∧ (∀ r ∈ rs, r.length ≤ 8) ∧ 1 ≤ m ∧ m ≤ 40 ∧
  ∀ (H' : Hp) (es : List Nat), Same H H' → Few rs m es → Q (.int (es.sum : Nat)) H'
theorem dp_ints {K : PySem.W.Frag} {H : Hp} : ∀ {vs : List V} {ds : List Nat}, DpAll K H vs (ds.map natD) → vs = ds.map fun d : Nat => V.int (d : Int)
  | _, [], h => by cases h; rfl
  | _, d :: ds, h => by
    cases h with
    | cons h t =>
      cases h
      rw [dp_ints t]
      rfl
theorem dep_tidy {ds : List Nat} (h : ∀ d ∈ ds, d ≤ 40) : tidy (depD ds) = true := by
  unfold depD
  simp only [tidy]
  refine tidyAll_map fun d hd => ?_
  have := h d hd
  simp only [natD, tidy, decide_eq_true_eq]
  omega
theorem dep_depth (ds : List Nat) : (depD ds).depth ≤ 10 := by
  unfold depD
  simp only [PyData.depth]
  have := depth_map (f := natD) (n := 3) (l := ds) fun q _ => by simp [natD, PyData.depth]
  omega
/-- depths with one ahead -/
theorem below_cons {l t n : Nat} {ls : List Nat} {dss : Nat → List (List Nat)} (h : ∀ d es, d < n → (es ∈ dss d ↔ Below es ls ∧ es.sum = t - d)) (hn : n = min l t + 1) (es : List Nat) :
    es ∈ ((List.range n).flatMap fun d => (dss d).map fun r => d :: r) ↔ Below es (l :: ls) ∧ es.sum = t := by
  rw [List.mem_flatMap]
  constructor
  · rintro ⟨d, hd, he⟩
    have hd := List.mem_range.mp hd
    obtain ⟨r, hr, rfl⟩ := List.mem_map.mp he
    obtain ⟨a, b⟩ := (h d r hd).mp hr
    refine ⟨⟨by omega, a⟩, ?_⟩
    rw [List.sum_cons, b]
    omega
  · rintro ⟨a, b⟩
    cases es with
    | nil => exact a.elim
    | cons d r =>
      rw [List.sum_cons] at b
      have hd : d < n := by have := a.1; omega
      exact ⟨d, List.mem_range.mpr hd, List.mem_map.mpr ⟨r, (h d r hd).mpr ⟨a.2, by omega⟩, rfl⟩⟩
section
variable {P : Program} {w : World} {K : PySem.W.Frag} {mg : Str → Option Value} {base : Heap}
theorem depths_n_ok (T : Txt P K mg) : ∀ n, FnOk P w K mg base CX0 (n + 1) T.f_depths_of T.d_depths_of ["lengths", "total"] (spDepthsN K n)
  | 0 => T.F_depths_of.ok sc_depths_of (fun vs H Q E h => by obtain ⟨_, _, _, _, _, h, _⟩ := h; omega) (fun cdv A outer s H vs Q E hr h => by obtain ⟨_, _, _, _, _, h, _⟩ := h; omega)
  | n + 1 => by
    have ih := depths_n_ok T n
    refine T.F_depths_of.ok sc_depths_of (fun vs H Q E h => by obtain ⟨v, ls, t, rfl, _⟩ := h; rfl) (fun cdv A outer s H vs Q E hr h => ⟨_, (pss_cons (ps_if (pt_cmpR (op_eqD (by exact hu64 hr)) (pv 0) (pe_tup pa_nil) (nomark _))
      (pss_one (ps_ret (pe_ifExp (pt_cmpR op_eq (pv 1) pe_int (nomark _)) (pe_lst (pa_cons (pe_tup pa_nil) pa_nil)) (pe_lst pa_nil)))) pss_nil)
      (pss_cons (ps_set (i := 2) sc_depths_of.nd rfl (Or.inl rfl) (pe_lst pa_nil))
      (pss_cons (ps_for PassesOwn.never rfl (pi_range1 rfl T.z_range (pa_cons (pe_op op_add (pe_callB (call_min2 rfl) rfl T.z_min (by decide +kernel) (pa_cons (pe_ix ix_tup (pv 0) pe_int (fun _ _ => rfl)) (pa_cons (pv 1) pa_nil))) pe_int) pa_nil)) (pg_name (i := 3) sc_depths_of.nd rfl (by first | exact Or.inl rfl | exact Or.inr rfl))
      (pss_one (ps_set (i := 2) sc_depths_of.nd rfl (Or.inl rfl) (pe_op op_cat (pv 2) (pe_lc (own := [("rest", 4)]) (te := tOp (rCatW K) (tTup (tCons (tVar 3) tNil)) (tVar 4)) rfl sc_depths_of.nd (pi_list (pe_call ih (hr.mono (by omega)) rfl T.g_depths_of T.F_depths_of.kp T.b_depths_of .nil pass0 (pa_cons (pe_slice sl_tupW (pv 0) (po_some pe_int) po_none) (pa_cons (pe_op op_sub (pv 1) (pv 3)) pa_nil)))) (blkOk_by (own := [("rest", 4)]) (N := N_depths_of) (sc := defScope s_depths_of) (by decide +kernel)) (fun _ _ _ _ _ => (pg_name (i := 4) sc_depths_of.nd rfl (by first | exact Or.inl rfl | exact Or.inr rfl))) (fun _ _ _ _ _ => (by exact pts_nil)) (fun _ _ _ _ _ => (by exact (pe_op op_catW (pe_tup (pa_cons (pv 3) pa_nil)) (pv 4)))))))))
      (pss_one (ps_ret (pv 2)))))), ?_⟩)
    obtain ⟨v, ls, t, rfl, hd, hl, hn, l8, t32, q⟩ := h
    obtain ⟨a, xs, rfl, sq, da⟩ := tup_at hd
    obtain rfl := dp_ints da
    refine ⟨_, rfl, by show 0 ≤ sizeLine; decide, fun e he => ?_⟩
    have n1 := Same.new (o := .tup []) he
    refine ⟨depD ls, .tuple [], Dp.keep n1.tupK _ _ (dep_imm ls) hd, .tup (.of upd_same) .nil, shaped_of (dep_tidy fun d h => by have := l8 d h; omega) (by have := dep_depth ls; omega), shaped_of rfl (by simp [PyData.depth, PyData.depthAll]), _, rfl, ?_⟩
    generalize upd H e (.tup []) = H1 at n1 ⊢
    cases ls with
    | nil =>
      refine iteB (by simp [depD, PyData.eqv, PyData.eqvAll]) ?_
      refine ⟨_, rfl, rfl, _, rfl, ?_⟩
      by_cases c : t = 0
      · subst c
        refine iteB (by rfl) ⟨by show 0 ≤ sizeLine; decide, fun e2 he2 => ⟨by show 1 ≤ sizeLine; decide, fun p hp => ?_⟩⟩
        have n2 := (Same.new (o := .tup []) he2).step (o := .lst [.ref e2]) hp
        refine q _ p [.ref e2] [[]] (n1.trans n2) upd_same (.cons (.tup (.of (Same.new hp _ _ upd_same)) .nil) .nil) (fun es => ?_) (Nat.le_refl _)
        rw [List.mem_singleton]
        constructor
        · rintro rfl
          exact ⟨True.intro, rfl⟩
        · rintro ⟨h, _⟩
          cases es with
          | nil => rfl
          | cons => exact h.elim
      · refine iteB' (decide_eq_false fun z => c (by injection z with z; omega)) ⟨Nat.zero_le _, fun p hp => q _ p [] [] (n1.step hp) upd_same .nil (fun es => ⟨(fun h => by cases h), fun h => ?_⟩) (Nat.zero_le _)⟩
        cases es with
        | nil => exact absurd h.2.symm c
        | cons => exact h.1.elim
    | cons l ls =>
    refine iteB' (by simp [depD, PyData.eqv, PyData.eqvAll]) ?_
    have l8' : l ≤ 8 := l8 l List.mem_cons_self
    refine ⟨Nat.zero_le _, fun f hf => ?_⟩
    have n2 := Same.new (o := .lst []) hf
    refine ⟨_, rfl, a, _, _, _, rfl, rfl, (n1.trans n2).sqT sq, atI_nat (j := 0) rfl, _, rfl, _, _, rfl, _, _, rfl, rfl, _, rfl, by split <;> omega, by split <;> omega, ?_⟩
    have hN : ((if (t : Int) < (l : Int) then (t : Int) else (l : Int)) + 1).toNat = min l t + 1 := by split <;> omega
    refine for_range (lo := 0) (n := ((if (t : Int) < (l : Int) then (t : Int) else (l : Int)) + 1).toNat) (fun i σ H' => ∃ (x3 x4 : Option V) (f : Addr) (ys : List V) (g : Nat → List (List Nat)), σ = [some (.ref a), some (.int (t : Int)), some (.ref f), x3, x4] ∧ H' f = some (.lst ys) ∧ DpAll K H' ys (((List.range i).flatMap fun d => (g d).map fun r => d :: r).map depD) ∧
      (∀ d es, d < i → (es ∈ g d ↔ Below es ls ∧ es.sum = t - d)) ∧ ((List.range i).flatMap fun d => (g d).map fun r => d :: r).length ≤ i * 9 ^ ls.length ∧ Same H H')
      ⟨none, none, f, [], fun _ => [], rfl, upd_same, .nil, (fun d es h => by omega), Nat.zero_le _, n1.trans n2⟩ ?_ ?_
    · rintro i σ H2 hi ⟨x3, x4, f, ys, g, rfl, ef, dy, hg, hgl, k2⟩
      rw [hN] at hi
      have sq2 := k2.sqT sq
      refine ⟨_, rfl, _, rfl, _, rfl, a, _, rfl, sq2, fun p H3 s3 q3 => ⟨_, rfl, _, rfl, _, _, rfl, rfl, ?_⟩⟩
      have cut1 : cutV ((l :: ls).map fun d : Nat => V.int (d : Int)) (some 1) none = ls.map fun d : Nat => V.int (d : Int) := cut_from _ 1
      rw [cut1] at q3
      refine ⟨.ref p, ls, t - i, by show [V.ref p, V.int ((t : Int) - (0 + (i : Int)))] = _; rw [show (t : Int) - (0 + (i : Int)) = ((t - i : Nat) : Int) by omega], .tup q3 (dpAll_nats ls), by simpa using hl, by omega, fun d h => l8 d (List.mem_cons_of_mem _ h), by omega, fun H4 p4 zs dss s4 e4 dz mem4 len4 => ?_⟩
      have k24 := s3.trans s4
      refine ⟨p4, rfl, ⟨_, .of e4⟩, fun D hD => ?_⟩
      refine lc_list (K := K) (a := p4) (xs := zs) (fun j H' => ∃ ws : List V, H' D = some (.lst ws) ∧ DpAll K H' ws (((dss.take j).map fun r => i :: r).map depD) ∧ Same H4 H') ⟨[], upd_same, .nil, Same.new hD⟩ (fun j H' _ h => by obtain ⟨_, _, _, k⟩ := h; exact k.sqL (.of e4)) ?_ ?_
      · rintro j z H5 hz ⟨ws, ew, dw, k5⟩
        obtain ⟨_, zget⟩ := map_get dz
        obtain ⟨r, hr1, hr2⟩ := zget j z hz
        obtain ⟨ra, rxs, rfl, rsq, rda⟩ := tup_at (Dp.keep k5.tupK _ _ (dep_imm r) hr2)
        obtain rfl := dp_ints rda
        have jl := (List.getElem?_eq_some_iff.mp hr1).1
        have wl : ws.length ≤ j := by rw [DpAll.length dw, List.length_map, List.length_map, List.length_take]; exact Nat.min_le_left _ _
        have rl : r.length ≤ 4 := by
          have := ((mem4 r).mp (List.mem_of_getElem? hr1)).1.len
          simp at hl
          omega
        have d6561 : 9 ^ ls.length ≤ 6561 := by
          have := Nat.pow_le_pow_right (n := 9) (by decide) (show ls.length ≤ 4 by simp at hl; omega)
          simpa using this
        refine ⟨rfl, _, rfl, by show 1 ≤ sizeLine; decide, fun o ho => ?_⟩
        have n5 := Same.new (o := .tup [.int (0 + (i : Int))]) ho
        refine ⟨_, rfl, o, ra, _, _, rfl, rfl, .of upd_same, n5.sqT rsq, ?_, fun p6 H6 s6 q6 => ?_⟩
        · rw [List.length_map]
          exact Nat.le_trans (show 1 + r.length ≤ 5 by omega) (by decide)
        have s56 := n5.trans s6
        have ew6 := s56 _ _ ew
        have tk : TupK H6 (upd H6 D (.lst (ws ++ [.ref p6]))) := But.tupK (S := (· = D)) (But.set rfl) fun c ys hc => by rw [hc]; exact not_tup_lst ew6
        refine ⟨ws, ew6, ?_, ws ++ [.ref p6], upd_same, ?_, (k5.trans s56).own hD⟩
        · exact Nat.lt_of_le_of_lt (show ws.length ≤ 6561 by omega) (by decide)
        · rw [List.take_add_one, hr1, List.map_append, List.map_append]
          refine DpAll.app (Dp.keepAll (s56.tupK.trans tk) _ _ (immAll_map dep_imm _) dw) (.cons (.tup (tk.sqT q6) ?_) .nil)
          have : ([V.int (0 + (i : Int))] ++ r.map fun d : Nat => V.int (d : Int)) = (i :: r).map fun d : Nat => V.int (d : Int) := by
            rw [Int.zero_add]
            rfl
          rw [this]
          exact dpAll_nats (i :: r)
      · rintro H5 ⟨ws, ew, dw, k5⟩
        have zl : zs.length = dss.length := by rw [DpAll.length dz, List.length_map]
        rw [zl, List.take_length] at dw
        have k25 := k24.trans k5
        have wl : ws.length = dss.length := by rw [DpAll.length dw, List.length_map, List.length_map]
        have d6561 : 9 ^ ls.length ≤ 6561 := by
          have := Nat.pow_le_pow_right (n := 9) (by decide) (show ls.length ≤ 4 by simp at hl; omega)
          simpa using this
        have yl : ys.length ≤ i * 9 ^ ls.length := by rw [DpAll.length dy, List.length_map]; exact hgl
        have y2 : i * 9 ^ ls.length ≤ 9 * 6561 := Nat.mul_le_mul (by omega) d6561
        refine ⟨f, D, _, _, rfl, rfl, k25 _ _ ef, ew, ?_, fun p6 hp6 => ?_⟩
        · exact Nat.le_trans (show ys.length + ws.length ≤ 100000 by omega) (by decide)
        have n6 := Same.new (o := .lst (ys ++ ws)) hp6
        refine ⟨_, _, p6, ys ++ ws, fun d => if d = i then dss else g d, rfl, upd_same, ?_, ?_, ?_, (k2.trans k25).step hp6⟩
        · have e : ((List.range (i + 1)).flatMap fun d => ((fun d => if d = i then dss else g d) d).map fun r => d :: r) = ((List.range i).flatMap fun d => (g d).map fun r => d :: r) ++ dss.map fun r => i :: r := by
            rw [List.range_succ, List.flatMap_append]
            congr 1
            · rw [List.flatMap_def, List.flatMap_def]
              congr 1
              apply List.map_congr_left
              intro d hd
              have := List.mem_range.mp hd
              simp [show ¬ d = i by omega]
            · simp
          rw [e, List.map_append]
          exact DpAll.app (Dp.keepAll (k25.trans n6).tupK _ _ (immAll_map dep_imm _) dy) (Dp.keepAll n6.tupK _ _ (immAll_map dep_imm _) dw)
        · intro d es hd
          by_cases c : d = i
          · subst c
            simp only [if_pos]
            exact mem4 es
          · simp only [if_neg c]
            exact hg d es (by omega)
        · have e : ((List.range (i + 1)).flatMap fun d => ((fun d => if d = i then dss else g d) d).map fun r => d :: r) = ((List.range i).flatMap fun d => (g d).map fun r => d :: r) ++ dss.map fun r => i :: r := by
            rw [List.range_succ, List.flatMap_append]
            congr 1
            · rw [List.flatMap_def, List.flatMap_def]
              congr 1
              apply List.map_congr_left
              intro d hd
              have := List.mem_range.mp hd
              simp [show ¬ d = i by omega]
            · simp
          rw [e, List.length_append, List.length_map, Nat.succ_mul]
          omega
    · rintro σ H2 ⟨x3, x4, f, ys, g, rfl, ef, dy, hg, hgl, k2⟩
      rw [hN] at dy hg hgl
      refine ⟨_, rfl, q _ f ys _ k2 ef dy (below_cons hg rfl) (Nat.le_trans hgl ?_)⟩
      rw [List.length_cons, Nat.pow_succ, Nat.mul_comm]
      exact Nat.mul_le_mul_left _ (by omega)
theorem ok_check_short (T : Txt P K mg) : FnOk P w K mg base CX0 1 T.f_check_short T.d_check_short ["lists"] (spShort K) := by
  refine T.F_check_short.ok sc_check_short (fun vs H Q E h => by obtain ⟨v, rs, rfl, _⟩ := h; rfl) (fun cdv A outer s H vs Q E hr h => ⟨_, (pss_cons (ps_set (i := 1) sc_check_short.nd rfl (Or.inl rfl) (pe_callB (cr_max rfl) rfl T.z_max (by decide +kernel) (pa_cons (pe_lc (own := [("row", 2)]) (te := tCB (rLenS K) (tCons (tVar 2) tNil)) rfl sc_check_short.nd (pi_tup (pv 0)) (blkOk_by (own := [("row", 2)]) (N := N_check_short) (sc := defScope s_check_short) (by decide +kernel)) (fun _ _ _ _ _ => (pg_name (i := 2) sc_check_short.nd rfl (by first | exact Or.inl rfl | exact Or.inr rfl))) (fun _ _ _ _ _ => (by exact pts_nil)) (fun _ _ _ _ _ => (by exact (pe_callB call_len_seq rfl T.z_len (by decide +kernel) (pa_cons (pv 2) pa_nil))))) pa_nil)))
      (pss_one (ps_if (pt_cmpR op_gt (pv 1) (pe_glob (v := .int (8)) rfl T.g_MOST_LONG ⟨_, rfl⟩) (nomark _))
      (pss_one ps_never) pss_nil))), ?_⟩)
  obtain ⟨v, rs, rfl, hd, h1, h4, h8, q⟩ := h
  obtain ⟨a, xs, rfl, sq, da⟩ := tup_at hd
  obtain ⟨len, get⟩ := map_get da
  refine ⟨_, rfl, a, rfl, ⟨xs, sq⟩, fun D hD => ?_⟩
  have el : (ends rs).length = rs.length := (ends_ok rs).len
  refine lc_tup (K := K) (a := a) (xs := xs) (fun i H' => H' D = some (.lst (((ends rs).take i).map fun d : Nat => V.int (d : Int))) ∧ Same H H') ⟨upd_same, Same.new hD⟩ (fun i H' _ h => h.2.sqT sq) ?_ ?_
  · rintro j z H6 hz ⟨g1, g2⟩
    obtain ⟨r, hr1, hr2⟩ := get j z hz
    obtain ⟨ra, rxs, rfl, rsq, rda⟩ := tup_at (Dp.keep g2.tupK _ _ (row_imm r) hr2)
    obtain ⟨rlen, _⟩ := map_get rda
    have ej : (ends rs)[j]? = some r.length := by unfold ends; rw [List.getElem?_map, hr1]; rfl
    refine ⟨rfl, _, rfl, ra, rxs, rfl, .inr rsq, _, g1, ?_, ?_, g2.own hD⟩
    · rw [List.length_map, List.length_take, el]
      exact Nat.lt_of_le_of_lt (show _ ≤ 4 by omega) (by decide)
    · rw [upd_same, List.take_add_one, ej, List.map_append, rlen]
      rfl
  rintro H6 ⟨g1, g2⟩
  rw [show xs.length = (ends rs).length by omega, List.take_length] at g1
  refine ⟨D, (ends rs).map fun d : Nat => (d : Int), rfl, .of (by rw [List.map_map]; exact g1), by rw [List.length_map]; omega, fun m hm _ => ?_⟩
  have m8 : m ≤ 8 := by
    obtain ⟨d, hd', rfl⟩ := List.mem_map.mp hm
    obtain ⟨r, hr', rfl⟩ := List.mem_map.mp hd'
    have := h8 r hr'
    omega
  exact ⟨_, rfl, _, _, rfl, rfl, _, rfl, iteB' (decide_eq_false (by omega)) (q _ g2)⟩
theorem ok_fewest_by (T : Txt P K mg) : FnOk P w K mg base CX0 7 T.f_fewest_by T.d_fewest_by ["lists", "many"] (spFewest K) := by
  have ok_depths_of : ∀ T : Txt P K mg, FnOk P w K mg base CX0 6 T.f_depths_of T.d_depths_of ["lengths", "total"] (spDepthsN K 5) := fun T => depths_n_ok T 5
  refine T.F_fewest_by.ok sc_fewest_by (fun vs H Q E h => by obtain ⟨v, rs, m, rfl, _⟩ := h; rfl) (fun cdv A outer s H vs Q E hr h => ⟨_, (pss_cons (ps_set (i := 2) sc_fewest_by.nd rfl (Or.inl rfl) (pe_callTy call_tuple_of rfl T.z_tuple (by decide +kernel) (pa_cons (pe_lc (own := [("row", 5)]) (te := tCB (rLenS K) (tCons (tVar 5) tNil)) rfl sc_fewest_by.nd (pi_tup (pv 0)) (blkOk_by (own := [("row", 5)]) (N := N_fewest_by) (sc := defScope s_fewest_by) (by decide +kernel)) (fun _ _ _ _ _ => (pg_name (i := 5) sc_fewest_by.nd rfl (by first | exact Or.inl rfl | exact Or.inr rfl))) (fun _ _ _ _ _ => (by exact pts_nil)) (fun _ _ _ _ _ => (by exact (pe_callB call_len_seq rfl T.z_len (by decide +kernel) (pa_cons (pv 5) pa_nil))))) pa_nil)))
      (pss_cons (ps_for PassesOwn.never rfl (pi_range1 rfl T.z_range (pa_cons (pe_callB (cr_sumT rfl) rfl T.z_sum (by decide +kernel) (pa_cons (pv 2) pa_nil)) pa_nil)) (pg_name (i := 3) sc_fewest_by.nd rfl (by first | exact Or.inl rfl | exact Or.inr rfl))
      (pss_one (ps_for PassesOwn.never rfl (pi_list (pe_call (ok_depths_of T) (hr.mono (by omega)) rfl T.g_depths_of T.F_depths_of.kp T.b_depths_of .nil pass0 (pa_cons (pv 2) (pa_cons (pv 3) pa_nil)))) (pg_name (i := 4) sc_fewest_by.nd rfl (by first | exact Or.inl rfl | exact Or.inr rfl))
      (pss_one (ps_if (pt_cmpR (op_neNil (by exact Nat.lt_of_succ_lt (hu_of hr))) (pe_call (ok_settled_by T) (hr.mono (by omega)) rfl T.g_settled_by T.F_settled_by.kp T.b_settled_by .nil pass0 (pa_cons (pv 0) (pa_cons (pv 4) (pa_cons (pv 1) pa_nil)))) (pe_lst pa_nil) (nomark _))
      (pss_one (ps_ret (pv 4))) pss_nil)))))
      (pss_one (ps_ret (pv 2))))), ?_⟩)
  obtain ⟨v, rs, m, rfl, hd, oks, h1, h4, h8, m1, m40, q⟩ := h
  obtain ⟨a, xs, rfl, sq, da⟩ := tup_at hd
  obtain ⟨len, get⟩ := map_get da
  refine ⟨_, rfl, a, rfl, ⟨xs, sq⟩, fun D hD => ?_⟩
  have el : (ends rs).length = rs.length := (ends_ok rs).len
  refine lc_tup (K := K) (a := a) (xs := xs) (fun i H' => H' D = some (.lst (((ends rs).take i).map fun d : Nat => V.int (d : Int))) ∧ Same H H') ⟨upd_same, Same.new hD⟩ (fun i H' _ h => h.2.sqT sq) ?_ ?_
  · rintro j z H6 hz ⟨g1, g2⟩
    obtain ⟨r, hr1, hr2⟩ := get j z hz
    obtain ⟨ra, rxs, rfl, rsq, rda⟩ := tup_at (Dp.keep g2.tupK _ _ (row_imm r) hr2)
    obtain ⟨rlen, _⟩ := map_get rda
    have ej : (ends rs)[j]? = some r.length := by unfold ends; rw [List.getElem?_map, hr1]; rfl
    refine ⟨rfl, _, rfl, ra, rxs, rfl, .inr rsq, _, g1, ?_, ?_, g2.own hD⟩
    · rw [List.length_map, List.length_take, el]
      exact Nat.lt_of_le_of_lt (show _ ≤ 4 by omega) (by decide)
    · rw [upd_same, List.take_add_one, ej, List.map_append, rlen]
      rfl
  rintro H6 ⟨g1, g2⟩
  rw [show xs.length = (ends rs).length by omega, List.take_length] at g1
  refine ⟨D, _, rfl, .inl ⟨.of g1, fun c hc => ?_⟩⟩
  have s07 := g2.step (o := .tup ((ends rs).map fun d : Nat => V.int (d : Int))) hc
  have sqz : SqT K (upd H6 c (.tup ((ends rs).map fun d : Nat => V.int (d : Int)))) c (((ends rs).map fun d : Nat => (d : Int)).map V.int) := by rw [List.map_map]; exact .of upd_same
  have hz : Dp K (upd H6 c (.tup ((ends rs).map fun d : Nat => V.int (d : Int)))) (.ref c) (depD (ends rs)) := .tup (.of upd_same) (dpAll_nats _)
  generalize upd H6 c (.tup ((ends rs).map fun d : Nat => V.int (d : Int))) = H7 at s07 sqz hz ⊢
  have hd7 := Dp.keep s07.tupK _ _ (rows_imm rs) hd
  clear g1 g2 hc hD get da sq hd
  have s8 := sum_ends8 h8
  refine ⟨_, rfl, c, _, rfl, sqz, (((ends rs).sum : Nat) : Int), congrArg (fun z => [V.int z]) (sum_cast _), by omega, by omega, ?_⟩
  refine for_range (lo := 0) (n := (((ends rs).sum : Nat) : Int).toNat) (fun i σ H' => ∃ (x3 x4 : Option V), σ = [some (.ref a), some (.int (m : Int)), some (.ref c), x3, x4, none] ∧ (∀ fs, DepOk rs fs → fs.sum < i → settledO rs fs m = none) ∧ Same H7 H')
    ⟨none, none, rfl, (fun fs _ h => by omega), Same.refl _⟩ ?_ ?_
  · rintro i σ H8 hi ⟨x3, x4, rfl, no, k8⟩
    refine ⟨_, rfl, _, rfl, .ref c, ends rs, i, by show [V.ref c, V.int (0 + (i : Int))] = _; rw [Int.zero_add], Dp.keep k8.tupK _ _ (dep_imm _) hz, by omega, by omega, fun l hl => ?_, by omega, fun H9 p ys dss s9 e9 dy mem _ => ?_⟩
    · obtain ⟨r, hr', rfl⟩ := List.mem_map.mp hl
      exact h8 r hr'
    refine ⟨p, rfl, ⟨_, .of e9⟩, ?_⟩
    have k79 := k8.trans s9
    have yl : ys.length = dss.length := by rw [DpAll.length dy, List.length_map]
    obtain ⟨_, yget⟩ := map_get dy
    refine for_it (walk_list (K := K) (a := p) (xs := ys)) (fun j σ H' => ∃ (x4 : Option V), σ = [some (.ref a), some (.int (m : Int)), some (.ref c), some (.int (0 + (i : Int))), x4, none] ∧ (∀ fs ∈ dss.take j, settledO rs fs m = none) ∧ Same H9 H')
      ⟨x4, rfl, (fun fs h => by cases h), Same.refl _⟩ (fun j σ H' _ h => by obtain ⟨_, _, _, k⟩ := h; exact k.sqL (.of e9)) ?_ ?_
    · rintro j y σ _ H10 hj ⟨y4, rfl, no2, k10⟩ ⟨rfl, hy⟩
      obtain ⟨es, he1, he2⟩ := yget j y hy
      have hy10 := Dp.keep k10.tupK _ _ (dep_imm es) he2
      obtain ⟨ya, yxs, rfl, _, _⟩ := tup_at hy10
      obtain ⟨bel, esum⟩ := (mem es).mp (List.mem_of_getElem? he1)
      have dok := below_dep.mp bel
      have k710 := k79.trans k10
      refine ⟨_, rfl, _, rfl, _, rfl, .ref a, .ref ya, rs, es, m, rfl, Dp.keep k710.tupK _ _ (rows_imm rs) hd7, hy10, dok, oks, h1, h4, m1, m40, fun H11 p4 s11 ans => ⟨Nat.zero_le _, fun e he => ?_⟩⟩
      have n12 := Same.new (o := .lst []) he
      have s1012 := s11.trans n12
      rcases ans with ⟨a1, a2⟩ | ⟨t, a1, a2, a3⟩
      · refine ⟨p4, e, [], rfl, rfl, .of (n12 _ _ a2), .of upd_same, _, rfl, iteB' rfl ⟨_, rfl, fun fs hf => ?_, k10.trans s1012⟩⟩
        rw [List.take_add_one, he1] at hf
        rcases List.mem_append.mp hf with hf | hf
        · exact no2 fs hf
        · have hf : fs = es := by simpa using hf
          rw [hf]
          exact a1
      · refine ⟨p4, e, [.ref t], rfl, rfl, .of (n12 _ _ a2), .of upd_same, _, rfl, iteB rfl ⟨_, rfl, q _ ya es (s07.trans (k710.trans s1012)) (Dp.keep s1012.tupK _ _ (dep_imm es) hy10) ⟨dok, by rw [a1]; exact Option.some_ne_none _, fun fs f1 f2 => no fs f1 (by omega)⟩⟩⟩
    · rintro σ H10 ⟨y4, rfl, no2, k10⟩
      rw [yl, List.take_length] at no2
      refine ⟨_, _, rfl, fun fs f1 f2 => ?_, k79.trans k10⟩
      by_cases c : fs.sum < i
      · exact no fs f1 c
      · exact no2 fs ((mem fs).mpr ⟨below_dep.mpr f1, by omega⟩)
  · rintro σ H8 ⟨x3, x4, rfl, no, k8⟩
    exact ⟨_, rfl, q _ c (ends rs) (s07.trans k8) (Dp.keep k8.tupK _ _ (dep_imm _) hz) ⟨ends_ok rs, by rw [settled_end oks]; exact Option.some_ne_none _, fun fs f1 f2 => no fs f1 (by omega)⟩⟩
theorem ok_any_fewest (T : Txt P K mg) : FnOk P w K mg base CX0 8 T.f_any_fewest T.d_any_fewest ["lists", "many"] (spFewest K) := by
  refine T.F_any_fewest.ok sc_any_fewest (fun vs H Q E h => by obtain ⟨v, rs, m, rfl, _⟩ := h; rfl) (fun cdv A outer s H vs Q E hr h => ⟨_, (pss_cons (ps_expr (pe_call (ok_check_lists T) (hr.mono (by omega)) rfl T.g_check_lists T.F_check_lists.kp T.b_check_lists .nil pass0 (pa_cons (pv 0) pa_nil)))
      (pss_cons (ps_expr (pe_call (ok_check_many T) (hr.mono (by omega)) rfl T.g_check_many T.F_check_many.kp T.b_check_many .nil pass0 (pa_cons (pv 1) pa_nil)))
      (pss_cons (ps_expr (pe_call (ok_check_short T) (hr.mono (by omega)) rfl T.g_check_short T.F_check_short.kp T.b_check_short .nil pass0 (pa_cons (pv 0) pa_nil)))
      (pss_one (ps_ret (pe_call (ok_fewest_by T) (hr.mono (by omega)) rfl T.g_fewest_by T.F_fewest_by.kp T.b_fewest_by .nil pass0 (pa_cons (pv 0) (pa_cons (pv 1) pa_nil)))))))), ?_⟩)
  obtain ⟨v, rs, m, rfl, hd, oks, h1, h4, h8, m1, m40, q⟩ := h
  refine ⟨_, rfl, v, rs, rfl, hd, oks, h1, h4, fun H1 s1 => ?_⟩
  have hd1 := Dp.keep s1.tupK _ _ (rows_imm rs) hd
  refine ⟨_, rfl, m, rfl, m1, m40, ?_⟩
  refine ⟨_, rfl, v, rs, rfl, hd1, h1, h4, h8, fun H2 s2 => ?_⟩
  refine ⟨_, rfl, _, rfl, v, rs, m, rfl, Dp.keep s2.tupK _ _ (rows_imm rs) hd1, oks, h1, h4, h8, m1, m40, fun H3 p es s3 de few => q H3 p es ((s1.trans s2).trans s3) de few⟩
theorem dep_sq {K : PySem.W.Frag} {H : Hp} {p : Addr} {es : List Nat} (h : Dp K H (.ref p) (depD es)) : SqT K H p ((es.map fun d : Nat => (d : Int)).map V.int) := by
  obtain ⟨p', xs, e, sq, da⟩ := tup_at h
  cases e
  obtain rfl := dp_ints da
  rw [List.map_map]
  exact sq
theorem ok_fewest_looks (T : Txt P K mg) : FnOk P w K mg base CX0 9 T.f_fewest_looks T.d_fewest_looks ["lists", "many"] (spLooks K) := by
  refine T.F_fewest_looks.ok sc_fewest_looks (fun vs H Q E h => by obtain ⟨v, rs, m, rfl, _⟩ := h; rfl) (fun cdv A outer s H vs Q E hr h => ⟨_, (pss_one (ps_ret (pe_callB (cr_sumT rfl) rfl T.z_sum (by decide +kernel) (pa_cons (pe_call (ok_any_fewest T) (hr.mono (by omega)) rfl T.g_any_fewest T.F_any_fewest.kp T.b_any_fewest .nil pass0 (pa_cons (pv 0) (pa_cons (pv 1) pa_nil))) pa_nil)))), ?_⟩)
  obtain ⟨v, rs, m, rfl, hd, oks, h1, h4, h8, m1, m40, q⟩ := h
  refine ⟨_, rfl, _, rfl, v, rs, m, rfl, hd, oks, h1, h4, h8, m1, m40, fun H3 p es s3 de few => ?_⟩
  refine ⟨p, _, rfl, dep_sq de, ?_⟩
  rw [sum_cast]
  exact q H3 es s3 few
end
end K71
set_option pp.maxSteps 1200
namespace K71
open PySem PySem.Spec PyProof.Rows L2 RZ
theorem below_snoc {l : Nat} : ∀ {ls es : List Nat}, Below es (ls ++ [l]) ↔ ∃ r d, es = r ++ [d] ∧ Below r ls ∧ d ≤ l
  | [], [] => ⟨fun h => h.elim, fun ⟨r, d, e, _, _⟩ => by cases r <;> cases e⟩
  | [], [e] => ⟨fun h => ⟨[], e, rfl, True.intro, h.1⟩, fun ⟨r, d, e, h, k⟩ => by
      cases r with
      | nil => cases e; exact ⟨k, True.intro⟩
      | cons => exact h.elim⟩
  | [], e :: f :: es => ⟨fun h => h.2.elim, fun ⟨r, d, e, h, k⟩ => by
      cases r with
      | nil => cases e
      | cons => exact h.elim⟩
  | m :: ls, [] => ⟨fun h => h.elim, fun ⟨r, d, e, _, _⟩ => by cases r <;> cases e⟩
  | m :: ls, e :: es => by
    have ih := below_snoc (l := l) (ls := ls) (es := es)
    constructor
    · rintro ⟨h1, h2⟩
      obtain ⟨r, d, rfl, h3, h4⟩ := ih.mp h2
      exact ⟨e :: r, d, rfl, ⟨h1, h3⟩, h4⟩
    · rintro ⟨r, d, e1, h3, h4⟩
      cases r with
      | nil => exact h3.elim
      | cons x r =>
        injection e1 with e2 e3
        subst e2
        exact ⟨h3.1, ih.mpr ⟨r, d, e3, h3.2, h4⟩⟩
/-- each of these with a depth behind -/
def longer (dss : List (List Nat)) (l : Nat) : List (List Nat) := dss.flatMap fun r => (List.range (l + 1)).map fun d => r ++ [d]
theorem longer_mem {dss : List (List Nat)} {l : Nat} {ls : List Nat} (h : ∀ es, es ∈ dss ↔ Below es ls) (es : List Nat) : es ∈ longer dss l ↔ Below es (ls ++ [l]) := by
  unfold longer
  rw [List.mem_flatMap, below_snoc]
  constructor
  · rintro ⟨r, hr, he⟩
    obtain ⟨d, hd, rfl⟩ := List.mem_map.mp he
    exact ⟨r, d, rfl, (h r).mp hr, by have := List.mem_range.mp hd; omega⟩
  · rintro ⟨r, d, rfl, h3, h4⟩
    exact ⟨r, (h r).mpr h3, List.mem_map.mpr ⟨d, List.mem_range.mpr (by omega), rfl⟩⟩
theorem longer_len (l : Nat) : ∀ dss : List (List Nat), (longer dss l).length = dss.length * (l + 1)
  | [] => by simp [longer]
  | r :: dss => by
    have ih := longer_len l dss
    unfold longer at ih ⊢
    rw [List.flatMap_cons, List.length_append, ih, List.length_map, List.length_range, List.length_cons, Nat.succ_mul]
    omega
theorem longer_next {dss : List (List Nat)} {l j : Nat} {r : List Nat} (h : dss[j]? = some r) : longer (dss.take (j + 1)) l = longer (dss.take j) l ++ (List.range (l + 1)).map fun d => r ++ [d] := by
  unfold longer
  rw [List.take_add_one, h, List.flatMap_append]
  simp
def spAll (K : PySem.W.Frag) : Sp := fun vs H Q _ => ∃ (v : V) (rs : List Row), vs = [v] ∧ Dp K H v (rowsD rs) ∧ rs.length ≤ 4 ∧ (∀ r ∈ rs, r.length ≤ 8) ∧
  ∀ (H' : Hp) (p : Addr) (xs : List V) (dss : List (List Nat)), Same H H' → H' p = some (.lst xs) → DpAll K H' xs (dss.map depD) → (∀ es, es ∈ dss ↔ DepOk rs es) → dss.length ≤ 6561 → Q (.ref p) H'
section
variable {P : Program} {w : World} {K : PySem.W.Frag} {mg : Str → Option Value} {base : Heap}
theorem ok_law_all_depths (T : Txt P K mg) : FnOk P w K mg base CX0 1 T.f_law_all_depths T.d_law_all_depths ["lists"] (spAll K) := by
  refine T.F_law_all_depths.ok sc_law_all_depths (fun vs H Q E h => by obtain ⟨v, rs, rfl, _⟩ := h; rfl) (fun cdv A outer s H vs Q E hr h => ⟨_, (pss_cons (ps_set (i := 1) sc_law_all_depths.nd rfl (Or.inl rfl) (pe_lst (pa_cons (pe_tup pa_nil) pa_nil)))
      (pss_cons (ps_for PassesOwn.never rfl (pi_tup (pv 0)) (pg_name (i := 2) sc_law_all_depths.nd rfl (by first | exact Or.inl rfl | exact Or.inr rfl))
      (pss_cons (ps_set (i := 3) sc_law_all_depths.nd rfl (Or.inl rfl) (pe_lst pa_nil))
      (pss_cons (ps_for PassesOwn.never rfl (pi_list (pv 1)) (pg_name (i := 4) sc_law_all_depths.nd rfl (by first | exact Or.inl rfl | exact Or.inr rfl))
      (pss_one (ps_set (i := 3) sc_law_all_depths.nd rfl (Or.inl rfl) (pe_op op_cat (pv 3) (pe_lc (own := [("depth", 5)]) (te := tOp (rCatW K) (tVar 4) (tTup (tCons (tVar 5) tNil))) rfl sc_law_all_depths.nd (pi_range1 rfl T.z_range (pa_cons (pe_op op_add (pe_callB call_len_seq rfl T.z_len (by decide +kernel) (pa_cons (pv 2) pa_nil)) pe_int) pa_nil)) (blkOk_by (own := [("depth", 5)]) (N := N_law_all_depths) (sc := defScope s_law_all_depths) (by decide +kernel)) (fun _ _ _ _ _ => (pg_name (i := 5) sc_law_all_depths.nd rfl (by first | exact Or.inl rfl | exact Or.inr rfl))) (fun _ _ _ _ _ => (by exact pts_nil)) (fun _ _ _ _ _ => (by exact (pe_op op_catW (pv 4) (pe_tup (pa_cons (pv 5) pa_nil))))))))))
      (pss_one (ps_set (i := 1) sc_law_all_depths.nd rfl (Or.inl rfl) (pv 3))))))
      (pss_one (ps_ret (pv 1))))), ?_⟩)
  obtain ⟨v, rs, rfl, hd, h4, h8, q⟩ := h
  obtain ⟨a, xs, rfl, sq, da⟩ := tup_at hd
  obtain ⟨len, get⟩ := map_get da
  have el : (ends rs).length = rs.length := (ends_ok rs).len
  refine ⟨by show 0 ≤ sizeLine; decide, fun e he => ⟨by show 1 ≤ sizeLine; decide, fun f hf => ?_⟩⟩
  have s1 := (Same.new (o := .tup []) he).step (o := .lst [.ref e]) hf
  refine ⟨_, rfl, a, rfl, ⟨xs, s1.sqT sq⟩, ?_⟩
  refine for_it (walk_tup (K := K) (a := a) (xs := xs)) (fun i σ H' => ∃ (x2 x3 x4 : Option V) (f : Addr) (ys : List V) (dss : List (List Nat)), σ = [some (.ref a), some (.ref f), x2, x3, x4, none] ∧ H' f = some (.lst ys) ∧ DpAll K H' ys (dss.map depD) ∧ (∀ es, es ∈ dss ↔ Below es ((ends rs).take i)) ∧ dss.length ≤ 9 ^ i ∧ Same H H')
    ⟨none, none, none, f, [.ref e], [[]], rfl, upd_same, .cons (.tup (.of (Same.new hf _ _ upd_same)) .nil) .nil, (fun es => ?_), Nat.le_refl _, s1⟩ (fun i σ H' _ h => by obtain ⟨_, _, _, _, _, _, _, _, _, _, _, k⟩ := h; exact k.sqT sq) ?_ ?_
  · rw [List.mem_singleton]
    constructor
    · rintro rfl
      exact True.intro
    · intro h
      cases es with
      | nil => rfl
      | cons => exact h.elim
  · rintro i x σ _ H1 hi ⟨x2, x3, x4, f, ys, dss, rfl, ef, dy, mem, dl, k1⟩ ⟨rfl, hx⟩
    obtain ⟨r, hr1, hr2⟩ := get i x hx
    obtain ⟨ra, rxs, rfl, rsq, rda⟩ := tup_at (Dp.keep k1.tupK _ _ (row_imm r) hr2)
    obtain ⟨rlen, _⟩ := map_get rda
    have r8 := h8 r (List.mem_of_getElem? hr1)
    have i4 := (List.getElem?_eq_some_iff.mp hr1).1
    have p6561 : 9 ^ i ≤ 729 := by
      have := Nat.pow_le_pow_right (n := 9) (by decide) (show i ≤ 3 by omega)
      simpa using this
    have yl : ys.length = dss.length := by rw [DpAll.length dy, List.length_map]
    obtain ⟨_, yget⟩ := map_get dy
    refine ⟨Nat.zero_le _, fun g hg => ?_⟩
    have n2 := Same.new (o := .lst []) hg
    refine ⟨_, rfl, f, rfl, ⟨_, .of (n2 _ _ ef)⟩, ?_⟩
    refine for_it (walk_list (K := K) (a := f) (xs := ys)) (fun j σ H' => ∃ (x4 : Option V) (g : Addr) (zs : List V), σ = [some (.ref a), some (.ref f), some (.ref ra), some (.ref g), x4, none] ∧ H' g = some (.lst zs) ∧ DpAll K H' zs ((longer (dss.take j) r.length).map depD) ∧ Same H1 H')
      ⟨x4, g, [], rfl, upd_same, .nil, n2⟩ (fun j σ H' _ h => by obtain ⟨_, _, _, _, _, _, k⟩ := h; exact k.sqL (.of ef)) ?_ ?_
    · rintro j y σ _ H2 hj ⟨y4, g, zs, rfl, eg, dz, k2⟩ ⟨rfl, hy⟩
      obtain ⟨es, he1, he2⟩ := yget j y hy
      obtain ⟨ya, yxs, rfl, ysq, yda⟩ := tup_at (Dp.keep k2.tupK _ _ (dep_imm es) he2)
      obtain rfl := dp_ints yda
      have esl : es.length ≤ 4 := by
        have := ((mem es).mp (List.mem_of_getElem? he1)).len
        rw [List.length_take] at this
        omega
      refine ⟨_, rfl, _, rfl, ra, rxs, rfl, .inr (k2.sqT rsq), _, _, rfl, rfl, ((r.length + 1 : Nat) : Int), congrArg (fun z => [V.int z]) (by rw [rlen]; omega), by omega, by omega, fun D hD => ?_⟩
      refine lc_range (n := ((r.length + 1 : Nat) : Int).toNat) (fun k H' => ∃ ws : List V, H' D = some (.lst ws) ∧ DpAll K H' ws (((List.range k).map fun d => es ++ [d]).map depD) ∧ Same H2 H') ⟨[], upd_same, .nil, Same.new hD⟩ ?_ ?_
      · rintro k H3 hk ⟨ws, ew, dw, k3⟩
        have wl : ws.length = k := by rw [DpAll.length dw, List.length_map, List.length_map, List.length_range]
        refine ⟨rfl, _, rfl, _, rfl, by show 1 ≤ sizeLine; decide, fun o ho => ?_⟩
        have n5 := Same.new (o := .tup [.int (0 + (k : Int))]) ho
        refine ⟨ya, o, _, _, rfl, rfl, n5.sqT (k3.sqT ysq), .of upd_same, ?_, fun p6 H6 s6 q6 => ?_⟩
        · rw [List.length_map]
          exact Nat.le_trans (show es.length + 1 ≤ 5 by omega) (by decide)
        have s56 := n5.trans s6
        have ew6 := s56 _ _ ew
        have tk : TupK H6 (upd H6 D (.lst (ws ++ [.ref p6]))) := But.tupK (S := (· = D)) (But.set rfl) fun c ys hc => by rw [hc]; exact not_tup_lst ew6
        refine ⟨ws, ew6, ?_, ws ++ [.ref p6], upd_same, ?_, (k3.trans s56).own hD⟩
        · exact Nat.lt_of_le_of_lt (show ws.length ≤ 9 by omega) (by decide)
        · rw [List.range_succ, List.map_append, List.map_append]
          refine DpAll.app (Dp.keepAll (s56.tupK.trans tk) _ _ (immAll_map dep_imm _) dw) (.cons (.tup (tk.sqT q6) ?_) .nil)
          have : (es.map fun d : Nat => V.int (d : Int)) ++ [V.int (0 + (k : Int))] = (es ++ [k]).map fun d : Nat => V.int (d : Int) := by
            rw [Int.zero_add, List.map_append]
            rfl
          rw [this]
          exact dpAll_nats _
      · rintro H3 ⟨ws, ew, dw, k3⟩
        rw [show ((r.length + 1 : Nat) : Int).toNat = r.length + 1 by omega] at dw
        have wl : ws.length = r.length + 1 := by rw [DpAll.length dw, List.length_map, List.length_map, List.length_range]
        have zl : zs.length = (dss.take j).length * (r.length + 1) := by rw [DpAll.length dz, List.length_map, longer_len]
        have z2 : (dss.take j).length * (r.length + 1) ≤ 729 * 9 := Nat.mul_le_mul (by rw [List.length_take]; omega) (by omega)
        refine ⟨g, D, _, _, rfl, rfl, k3 _ _ eg, ew, ?_, fun p6 hp6 => ?_⟩
        · exact Nat.le_trans (show zs.length + ws.length ≤ 100000 by omega) (by decide)
        have n6 := Same.new (o := .lst (zs ++ ws)) hp6
        refine ⟨_, p6, zs ++ ws, rfl, upd_same, ?_, (k2.trans k3).step hp6⟩
        rw [longer_next he1, List.map_append]
        exact DpAll.app (Dp.keepAll (k3.trans n6).tupK _ _ (immAll_map dep_imm _) dz) (Dp.keepAll n6.tupK _ _ (immAll_map dep_imm _) dw)
    · rintro σ H2 ⟨y4, g, zs, rfl, eg, dz, k2⟩
      rw [yl, List.take_length] at dz
      have ei : (ends rs)[i]? = some r.length := by unfold ends; rw [List.getElem?_map, hr1]; rfl
      refine ⟨_, rfl, _, _, _, g, zs, longer dss r.length, rfl, eg, dz, fun es => ?_, ?_, k1.trans k2⟩
      · rw [longer_mem mem, List.take_add_one, ei]
        rfl
      · rw [longer_len, Nat.pow_succ]
        exact Nat.mul_le_mul dl (by omega)
  · rintro σ H1 ⟨x2, x3, x4, f, ys, dss, rfl, ef, dy, mem, dl, k1⟩
    rw [show xs.length = (ends rs).length by omega, List.take_length] at mem
    refine ⟨_, rfl, q _ f ys dss k1 ef dy (fun es => (mem es).trans below_dep) (Nat.le_trans dl ?_)⟩
    have := Nat.pow_le_pow_right (n := 9) (by decide) (show xs.length ≤ 4 by omega)
    simpa using this
theorem ok_law_fewest (T : Txt P K mg) : FnOk P w K mg base CX0 5 T.f_law_fewest T.d_law_fewest ["lists", "many"] (spLooks K) := by
  refine T.F_law_fewest.ok sc_law_fewest (fun vs H Q E h => by obtain ⟨v, rs, m, rfl, _⟩ := h; rfl) (fun cdv A outer s H vs Q E hr h => ⟨_, (pss_cons (ps_set (i := 2) sc_law_fewest.nd rfl (Or.inl rfl) (pe_call (ok_law_all_depths T) (hr.mono (by omega)) rfl T.g__law_all_depths T.F_law_all_depths.kp T.b_law_all_depths .nil pass0 (pa_cons (pv 0) pa_nil)))
      (pss_cons (ps_for PassesOwn.never rfl (pi_range1 rfl T.z_range (pa_cons (pe_op op_add (pe_callB (cr_sum rfl) rfl T.z_sum (by decide +kernel) (pa_cons (pe_lc (own := [("row", 5)]) (te := tCB (rLenS K) (tCons (tVar 5) tNil)) rfl sc_law_fewest.nd (pi_tup (pv 0)) (blkOk_by (own := [("row", 5)]) (N := N_law_fewest) (sc := defScope s_law_fewest) (by decide +kernel)) (fun _ _ _ _ _ => (pg_name (i := 5) sc_law_fewest.nd rfl (by first | exact Or.inl rfl | exact Or.inr rfl))) (fun _ _ _ _ _ => (by exact pts_nil)) (fun _ _ _ _ _ => (by exact (pe_callB call_len_seq rfl T.z_len (by decide +kernel) (pa_cons (pv 5) pa_nil))))) pa_nil)) pe_int) pa_nil)) (pg_name (i := 3) sc_law_fewest.nd rfl (by first | exact Or.inl rfl | exact Or.inr rfl))
      (pss_one (ps_if (pt_cmpR (op_neNil (by exact Nat.lt_of_succ_lt (hu_of hr))) (pe_lc (own := [("depths", 4)]) (tt := tAnd (tTest (tOp rEq (tCB (rSumT K) (tCons (tVar 4) tNil)) (tVar 3))) (tTest (tOp (fun x y H Q => y = .non ∧ Q (.bl (!decide (x = .non))) H) (tCall (spSettled K) [] E0 (tCons (tVar 0) (tCons (tVar 4) (tCons (tVar 1) tNil)))) (tC .non)))) rfl sc_law_fewest.nd (pi_list (pv 2)) (blkOk_by (own := [("depths", 4)]) (N := N_law_fewest) (sc := defScope s_law_fewest) (by decide +kernel)) (fun _ _ _ _ _ => (pg_name (i := 4) sc_law_fewest.nd rfl (by first | exact Or.inl rfl | exact Or.inr rfl))) (fun _ _ _ _ _ => (by exact pts_one (PW.pt (pw_and (pt_cmpR op_eq (pe_callB (cr_sumT rfl) rfl T.z_sum (by decide +kernel) (pa_cons (pv 4) pa_nil)) (pv 3) (nomark _)) (pw_and1 (pt_cmpR op_notN (pe_call (ok_law_settled T) (hr.mono (by omega)) rfl T.g__law_settled T.F_law_settled.kp T.b_law_settled .nil pass0 (pa_cons (pv 0) (pa_cons (pv 4) (pa_cons (pv 1) pa_nil)))) pe_non (nomark _))))))) (fun _ _ _ _ _ => (by exact (pv 4)))) (pe_lst pa_nil) (nomark _))
      (pss_one (ps_ret (pv 3))) pss_nil)))
      (pss_one (ps_ret pe_non)))), ?_⟩)
  obtain ⟨v, rs, m, rfl, hd, oks, h1, h4, h8, m1, m40, q⟩ := h
  obtain ⟨a, xs, rfl, sq, da⟩ := tup_at hd
  obtain ⟨len, get⟩ := map_get da
  have el : (ends rs).length = rs.length := (ends_ok rs).len
  refine ⟨_, rfl, .ref a, rs, rfl, hd, h4, h8, fun H1 p ys dss s1 ep dy mem dl => ?_⟩
  have sq1 := s1.sqT sq
  refine ⟨_, rfl, a, rfl, ⟨xs, sq1⟩, fun D hD => ?_⟩
  refine lc_tup (K := K) (a := a) (xs := xs) (fun i H' => H' D = some (.lst (((ends rs).take i).map fun d : Nat => V.int (d : Int))) ∧ Same H1 H') ⟨upd_same, Same.new hD⟩ (fun i H' _ h => h.2.sqT sq1) ?_ ?_
  · rintro j z H6 hz ⟨g1, g2⟩
    obtain ⟨r, hr1, hr2⟩ := get j z hz
    obtain ⟨ra, rxs, rfl, rsq, rda⟩ := tup_at (Dp.keep (s1.trans g2).tupK _ _ (row_imm r) hr2)
    obtain ⟨rlen, _⟩ := map_get rda
    have ej : (ends rs)[j]? = some r.length := by unfold ends; rw [List.getElem?_map, hr1]; rfl
    refine ⟨rfl, _, rfl, ra, rxs, rfl, .inr rsq, _, g1, ?_, ?_, g2.own hD⟩
    · rw [List.length_map, List.length_take, el]
      exact Nat.lt_of_le_of_lt (show _ ≤ 4 by omega) (by decide)
    · rw [upd_same, List.take_add_one, ej, List.map_append, rlen]
      rfl
  rintro H2 ⟨g1, g2⟩
  rw [show xs.length = (ends rs).length by omega, List.take_length] at g1
  have s8 := sum_ends8 h8
  have s02 := s1.trans g2
  refine ⟨D, (ends rs).map fun d : Nat => (d : Int), rfl, .of (by rw [List.map_map]; exact g1), _, _, rfl, rfl, (((ends rs).sum + 1 : Nat) : Int), congrArg (fun z => [V.int z]) (by rw [sum_cast]; omega), by omega, by omega, ?_⟩
  have ep2 := g2 _ _ ep
  have dy2 := Dp.keepAll g2.tupK _ _ (immAll_map dep_imm _) dy
  have hd2 := Dp.keep s02.tupK _ _ (rows_imm rs) hd
  clear g1 hD ep dy get da sq sq1 s1 g2 hd
  have yl : ys.length = dss.length := by rw [DpAll.length dy2, List.length_map]
  obtain ⟨_, yget⟩ := map_get dy2
  refine for_range (lo := 0) (n := (((ends rs).sum + 1 : Nat) : Int).toNat) (fun i σ H' => ∃ (x3 : Option V), σ = [some (.ref a), some (.int (m : Int)), some (.ref p), x3, none, none] ∧ (∀ fs, DepOk rs fs → fs.sum < i → settledO rs fs m = none) ∧ Same H2 H')
    ⟨none, rfl, (fun fs _ h => by omega), Same.refl _⟩ ?_ ?_
  · rintro i σ H3 hi ⟨x3, rfl, no, k3⟩
    refine ⟨_, rfl, p, rfl, ⟨_, .of (k3 _ _ ep2)⟩, fun D hD => ?_⟩
    refine lc_list (K := K) (a := p) (xs := ys) (fun j H' => ∃ ws : List V, H' D = some (.lst ws) ∧ ws.length ≤ j ∧ (ws = [] → ∀ fs ∈ dss.take j, fs.sum = i → settledO rs fs m = none) ∧ (ws ≠ [] → ∃ fs, DepOk rs fs ∧ fs.sum = i ∧ settledO rs fs m ≠ none) ∧ Same H3 H')
      ⟨[], upd_same, Nat.le_refl _, (fun _ fs h => by cases h), (fun h => absurd rfl h), Same.new hD⟩ (fun j H' _ h => by obtain ⟨_, _, _, _, _, k⟩ := h; exact k.sqL (.of (k3 _ _ ep2))) ?_ ?_
    · rintro j y H4 hy ⟨ws, ew, wl, w1, w2, k4⟩
      obtain ⟨es, he1, he2⟩ := yget j y hy
      have jl := (List.getElem?_eq_some_iff.mp he1).1
      have k24 := k3.trans k4
      have hy4 := Dp.keep k24.tupK _ _ (dep_imm es) he2
      obtain ⟨ya, yxs, rfl, _, _⟩ := tup_at hy4
      have dok := (mem es).mp (List.mem_of_getElem? he1)
      have skip : (es.sum = i → settledO rs es m = none) → ∀ H', Same H4 H' → ∃ ws : List V, H' D = some (.lst ws) ∧ ws.length ≤ j + 1 ∧ (ws = [] → ∀ fs ∈ dss.take (j + 1), fs.sum = i → settledO rs fs m = none) ∧ (ws ≠ [] → ∃ fs, DepOk rs fs ∧ fs.sum = i ∧ settledO rs fs m ≠ none) ∧ Same H3 H' := by
        intro h H' k
        refine ⟨ws, k _ _ ew, by omega, fun e fs hf => ?_, w2, k4.trans k⟩
        rw [List.take_add_one, he1] at hf
        rcases List.mem_append.mp hf with hf | hf
        · exact w1 e fs hf
        · have hf : fs = es := by simpa using hf
          rw [hf]
          exact h
      refine ⟨rfl, _, rfl, ya, _, rfl, dep_sq hy4, _, rfl, rfl, _, rfl, ?_⟩
      rw [sum_cast]
      by_cases c : es.sum = i
      · refine iteB (decide_eq_true (congrArg V.int (by omega))) ?_
        refine ⟨_, rfl, _, rfl, _, rfl, .ref a, .ref ya, rs, es, m, rfl, Dp.keep k24.tupK _ _ (rows_imm rs) hd2, hy4, dok, oks, h1, h4, m1, m40, fun H5 due s5 d5 => ⟨rfl, _, rfl, ?_⟩⟩
        rcases settled_cases (m := m) oks dok with eo | eo
        · rw [eo] at d5
          cases d5
          exact iteB' (by simp) (skip (fun _ => eo) _ s5)
        · rw [eo] at d5
          obtain ⟨dp, rfl⟩ : ∃ dp, due = .ref dp := by
            cases d5
            exact ⟨_, rfl⟩
          refine iteB (by simp) ⟨_, rfl, ws, s5 _ _ ew, ?_, ws ++ [.ref ya], upd_same, ?_, (fun z => by simp at z), (fun _ => ⟨es, dok, c, by rw [eo]; exact Option.some_ne_none _⟩), (k4.trans s5).own hD⟩
          · exact Nat.lt_of_le_of_lt (show ws.length ≤ 6561 by omega) (by decide)
          · rw [List.length_append]
            show ws.length + 1 ≤ j + 1
            omega
      · exact iteB' (decide_eq_false fun z => c (by injection z with z; omega)) (iteF (skip (fun h => absurd h c) _ (Same.refl _)))
    · rintro H4 ⟨ws, ew, wl, w1, w2, k4⟩
      rw [yl, List.take_length] at w1
      refine ⟨Nat.zero_le _, fun e he => ?_⟩
      have n5 := Same.new (o := .lst []) he
      refine ⟨D, e, ws, rfl, rfl, .of (n5 _ _ ew), .of upd_same, _, rfl, ?_⟩
      cases ws with
      | nil =>
        refine iteB' rfl ⟨_, rfl, fun fs f1 f2 => ?_, k3.trans (k4.trans n5)⟩
        by_cases c : fs.sum < i
        · exact no fs f1 c
        · exact w1 rfl fs ((mem fs).mpr f1) (by omega)
      | cons x ws =>
        obtain ⟨fs, f1, f2, f3⟩ := w2 (by simp)
        refine iteB rfl ⟨_, rfl, ?_⟩
        have := q _ fs (s02.trans (k3.trans (k4.trans n5))) ⟨f1, f3, fun gs g1 g2 => no gs g1 (by omega)⟩
        rw [f2] at this
        rw [Int.zero_add]
        exact this
  · rintro σ H3 ⟨x3, rfl, no, k3⟩
    exact absurd (no (ends rs) (ends_ok rs) (by omega)) (by rw [settled_end oks]; exact Option.some_ne_none _)
end
end K71
set_option pp.maxSteps 1200
namespace K71
open PySem PySem.Spec PyProof.Rows L2 RZ
structure Led (k : Nat) (l : Row) : Prop where
  pts : ∀ q ∈ l, 1 ≤ q.1 ∧ q.1 ≤ 999
  key : ∀ q ∈ l, 1 ≤ q.2 ∧ q.2 ≤ 999
  nod : (l.map (·.2)).Nodup
  asc : l.Pairwise Bef
  low : ∀ q ∈ l, 10 - (k : Int) ≤ q.1
  far : ∀ q ∈ l, q.2 < 401 + 11 * (k : Int) ∨ 500 ≤ q.2
theorem Led.step {k : Nat} {l : Row} {t : Int} (h : Led k l) (k7 : k < 8) (t0 : 0 ≤ t) (t1 : t < 11) : Led (k + 1) (l ++ [(9 - (k : Int), 401 + 11 * (k : Int) + t)]) := by
  refine ⟨fun q hq => ?_, fun q hq => ?_, ?_, ?_, fun q hq => ?_, fun q hq => ?_⟩
  · rcases List.mem_append.mp hq with hq | hq
    · exact h.pts q hq
    · rw [List.mem_singleton.mp hq]
      exact ⟨by show 1 ≤ 9 - (k : Int); omega, by show 9 - (k : Int) ≤ 999; omega⟩
  · rcases List.mem_append.mp hq with hq | hq
    · exact h.key q hq
    · rw [List.mem_singleton.mp hq]
      exact ⟨by show 1 ≤ 401 + 11 * (k : Int) + t; omega, by show 401 + 11 * (k : Int) + t ≤ 999; omega⟩
  · rw [List.map_append, List.nodup_append]
    refine ⟨h.nod, by simp, fun x hx y hy e => ?_⟩
    obtain ⟨q, hq, rfl⟩ := List.mem_map.mp hx
    have hy : y = 401 + 11 * (k : Int) + t := by simpa using hy
    have := h.far q hq
    omega
  · rw [List.pairwise_append]
    refine ⟨h.asc, List.pairwise_singleton _ _, fun a ha b hb => ?_⟩
    rw [List.mem_singleton.mp hb]
    have := h.low a ha
    exact .inl (by show 9 - (k : Int) < a.1; omega)
  · rcases List.mem_append.mp hq with hq | hq
    · have := h.low q hq
      omega
    · rw [List.mem_singleton.mp hq]
      show 10 - ((k + 1 : Nat) : Int) ≤ 9 - (k : Int)
      omega
  · rcases List.mem_append.mp hq with hq | hq
    · have := h.far q hq
      omega
    · rw [List.mem_singleton.mp hq]
      show 401 + 11 * (k : Int) + t < 401 + 11 * ((k + 1 : Nat) : Int) ∨ _
      omega
def ledA (f1 f2 : Int) (n : Nat) : Row := (List.range n).map fun j : Nat => (990 - 10 * (0 + (j : Int)), if j = 0 then 1 + f1 else 500 + f2)
theorem led_start {f1 f2 : Int} {n : Nat} (h : n = 1 ∨ n = 2) (a : 0 ≤ f1 ∧ f1 < 400) (b : 0 ≤ f2 ∧ f2 < 400) : Led 0 (ledA f1 f2 n) := by
  rcases h with rfl | rfl
  · have e : ledA f1 f2 1 = [(990, 1 + f1)] := rfl
    rw [e]
    refine ⟨?_, ?_, by simp, by simp, ?_, ?_⟩ <;> intro q hq <;> rw [List.mem_singleton.mp hq]
    · exact ⟨by show (1 : Int) ≤ 990; decide, by show (990 : Int) ≤ 999; decide⟩
    · exact ⟨by show 1 ≤ 1 + f1; omega, by show 1 + f1 ≤ 999; omega⟩
    · show 10 - ((0 : Nat) : Int) ≤ 990
      omega
    · exact .inl (by show 1 + f1 < 401 + 11 * ((0 : Nat) : Int); omega)
  · have e : ledA f1 f2 2 = [(990, 1 + f1), (980, 500 + f2)] := rfl
    rw [e]
    have two : ∀ q ∈ [((990 : Int), 1 + f1), (980, 500 + f2)], q = (990, 1 + f1) ∨ q = (980, 500 + f2) := fun q hq => by simpa using hq
    refine ⟨fun q hq => ?_, fun q hq => ?_, ?_, ?_, fun q hq => ?_, fun q hq => ?_⟩
    · rcases two q hq with rfl | rfl
      · exact ⟨by show (1 : Int) ≤ 990; decide, by show (990 : Int) ≤ 999; decide⟩
      · exact ⟨by show (1 : Int) ≤ 980; decide, by show (980 : Int) ≤ 999; decide⟩
    · rcases two q hq with rfl | rfl
      · exact ⟨by show 1 ≤ 1 + f1; omega, by show 1 + f1 ≤ 999; omega⟩
      · exact ⟨by show 1 ≤ 500 + f2; omega, by show 500 + f2 ≤ 999; omega⟩
    · show List.Nodup [1 + f1, 500 + f2]
      rw [List.nodup_cons]
      exact ⟨fun z => by have := List.mem_singleton.mp z; omega, by simp⟩
    · rw [List.pairwise_cons]
      refine ⟨fun b hb => ?_, by simp⟩
      rw [List.mem_singleton.mp hb]
      exact .inl (by show (980 : Int) < 990; decide)
    · rcases two q hq with rfl | rfl
      · show 10 - ((0 : Nat) : Int) ≤ 990
        omega
      · show 10 - ((0 : Nat) : Int) ≤ 980
        omega
    · rcases two q hq with rfl | rfl
      · exact .inl (by show 1 + f1 < 401 + 11 * ((0 : Nat) : Int); omega)
      · exact .inr (by show 500 ≤ 500 + f2; omega)
def spLed (K : PySem.W.Frag) : Sp := fun vs H Q _ => ∃ (u : Addr) (m : Nat), vs = [.ref u, .int (m : Int)] ∧ (m = 1 ∨ m = 2) ∧ Urn H u ∧
  ∀ (H' : Hp) (p : Addr) (rs : List Row), Urn H' u → But (· = u) H H' → rs.length = 4 → (∀ r ∈ rs, RowOk r) → (∀ r ∈ rs, r.length ≤ 8) → Dp K H' (.ref p) (rowsD rs) → Q (.ref p) H'
section
variable {P : Program} {w : World} {K : PySem.W.Frag} {mg : Str → Option Value} {base : Heap}
theorem ok_law_led_lists (T : Txt P K mg) : FnOk P w K mg base CX0 3 T.f_law_led_lists T.d_law_led_lists ["urn", "many"] (spLed K) := by
  refine T.F_law_led_lists.ok sc_law_led_lists (fun vs H Q E h => by obtain ⟨u, m, rfl, _⟩ := h; rfl) (fun cdv A outer s H vs Q E hr h => ⟨_, (pss_cons (ps_asg (pe_tup (pa_cons (pe_lst (pa_cons (pe_op op_add pe_int (pe_call (ok_law_take T) (hr.mono (by omega)) rfl T.g__law_take T.F_law_take.kp T.b_law_take .nil pass0 (pa_cons (pv 0) (pa_cons pe_int pa_nil)))) (pa_cons (pe_op op_add pe_int (pe_call (ok_law_take T) (hr.mono (by omega)) rfl T.g__law_take T.F_law_take.kp T.b_law_take .nil pass0 (pa_cons (pv 0) (pa_cons pe_int pa_nil)))) pa_nil))) (pa_cons (pe_tup pa_nil) pa_nil))) (pg_tup rfl (pgs_cons (pg_name (i := 2) sc_law_led_lists.nd rfl (by first | exact Or.inl rfl | exact Or.inr rfl)) (pgs_cons (pg_name (i := 3) sc_law_led_lists.nd rfl (by first | exact Or.inl rfl | exact Or.inr rfl)) pgs_nil))))
      (pss_cons (ps_for PassesOwn.never rfl (pi_range1 rfl T.z_range (pa_cons pe_int pa_nil)) (pg_name (i := 4) sc_law_led_lists.nd rfl (by first | exact Or.inl rfl | exact Or.inr rfl))
      (pss_cons (ps_setLc (i := 6) (own := [("k", 5)]) (te := tTup (tCons (tOp (rI0 fun i j => .int (i - j)) (tC (.int 990)) (tOp (rI CMul fun i j => .int (i * j)) (tC (.int 10)) (tVar 5))) (tCons (tOp (rIxL K) (tVar 2) (tVar 5)) tNil))) rfl sc_law_led_lists.nd rfl rfl (sw_true rfl rfl rfl (by decide +kernel)) (pi_range1 rfl T.z_range (pa_cons (pv 1) pa_nil)) (blkOk_by (own := [("k", 5)]) (N := N_law_led_lists) (sc := defScope s_law_led_lists) (by decide +kernel)) (fun _ _ _ _ _ => (pg_name (i := 5) sc_law_led_lists.nd rfl (by first | exact Or.inl rfl | exact Or.inr rfl))) (fun _ _ _ _ _ => (by exact pts_nil)) (fun _ _ _ _ _ => (by exact (pe_tup (pa_cons (pe_op op_sub pe_int (pe_op op_mul pe_int (pv 5))) (pa_cons (pe_ix ix_list (pv 2) (pv 5) (fun _ _ => rfl)) pa_nil))))))
      (pss_cons (ps_for PassesOwn.never rfl (pi_range1 rfl T.z_range (pa_cons (pe_op op_sub pe_int (pv 1)) pa_nil)) (pg_name (i := 5) sc_law_led_lists.nd rfl (by first | exact Or.inl rfl | exact Or.inr rfl))
      (pss_one (ps_expr (pe_bm PySem.F.plainAttrs_list PySem.F.slot_list_append PySem.F.type_list_append mt_append (pv 6) (pa_cons (pe_tup (pa_cons (pe_op op_sub pe_int (pv 5)) (pa_cons (pe_op op_add (pe_op op_add pe_int (pe_op op_mul pe_int (pv 5))) (pe_call (ok_law_take T) (hr.mono (by omega)) rfl T.g__law_take T.F_law_take.kp T.b_law_take .nil pass0 (pa_cons (pv 0) (pa_cons pe_int pa_nil)))) pa_nil))) pa_nil)))))
      (pss_one (ps_set (i := 3) sc_law_led_lists.nd rfl (Or.inl rfl) (pe_op op_catW (pv 3) (pe_tup (pa_cons (pe_callTy call_tuple_of rfl T.z_tuple (by decide +kernel) (pa_cons (pv 6) pa_nil)) pa_nil))))))))
      (pss_one (ps_ret (pv 3))))), ?_⟩)
  obtain ⟨u, m, rfl, hm, hu, q⟩ := h
  refine ⟨_, rfl, u, 400, rfl, by decide, by decide, hu, fun f1 H1 f10 f11 u1 b1 => ⟨_, _, rfl, rfl, _, rfl, u, 400, rfl, by decide, by decide, u1, fun f2 H2 f20 f21 u2 b2 => ⟨_, _, rfl, rfl, by show 2 ≤ sizeLine; decide, fun fl hfl => ?_⟩⟩⟩
  refine ⟨by show 0 ≤ sizeLine; decide, fun e he => ⟨by show 2 ≤ sizeLine; decide, fun t ht => ⟨t, _, rfl, .of upd_same, rfl, _, _, rfl, _, _, rfl, rfl, ?_⟩⟩⟩
  have n3 := Same.new (o := .lst [.int (1 + f1), .int (500 + f2)]) hfl
  have n4 := Same.new (o := .tup []) he
  have n5 := Same.new (o := .tup [.ref fl, .ref e]) ht
  have nfu : fl ≠ u := u2.ne hfl
  have efl := n5 _ _ (n4 _ _ (@upd_same H2 fl (.lst [.int (1 + f1), .int (500 + f2)])))
  have sqe : SqT K _ e [] := n5.sqT (.of (@upd_same (upd H2 fl (.lst [.int (1 + f1), .int (500 + f2)])) e (.tup [])))
  have s25 := (n3.trans n4).trans n5
  have u5 := u2.same s25
  have b5 := (b1.trans b2).trans s25.but
  generalize upd (upd (upd H2 fl (.lst [.int (1 + f1), .int (500 + f2)])) e (.tup [])) t (.tup [.ref fl, .ref e]) = H5 at efl sqe u5 b5 ⊢
  clear n3 n4 n5 s25 hfl he ht u1 u2 b1 b2
  have mb : 1 ≤ m ∧ m ≤ 2 := by omega
  refine ⟨4, rfl, by decide, by decide, ?_⟩
  refine for_range (lo := 0) (n := 4) (fun i σ H' => ∃ (x4 x5 x6 : Option V) (o : Addr) (zs : List V) (rs : List Row), σ = [some (.ref u), some (.int (m : Int)), some (.ref fl), some (.ref o), x4, x5, x6] ∧ SqT K H' o zs ∧ DpAll K H' zs (rs.map rowD) ∧ rs.length = i ∧ (∀ r ∈ rs, RowOk r) ∧ (∀ r ∈ rs, r.length ≤ 8) ∧ Urn H' u ∧ But (· = u) H5 H')
    ⟨none, none, none, e, [], [], rfl, sqe, .nil, rfl, (fun r h => by cases h), (fun r h => by cases h), u5, But.refl _⟩ ?_ ?_
  · rintro i σ H6 hi ⟨x4, x5, x6, o, zs, rs, rfl, sqo, dz, rl, oks, h8, u6, b6⟩
    have efl6 := b6 _ _ nfu efl
    refine ⟨_, rfl, (m : Int), rfl, by omega, by omega, fun D hD => ?_⟩
    have nDu : D ≠ u := u6.ne hD
    refine lc_range (n := (m : Int).toNat) (fun k H' => ∃ ps : List (V × (Int × Int)), H' D = some (.lst (ps.map (·.1))) ∧ ps.map (·.2) = ledA f1 f2 k ∧ (∀ p ∈ ps, Dp K H' p.1 (pairD p.2)) ∧ Same H6 H') ⟨[], upd_same, rfl, (fun p h => by cases h), Same.new hD⟩ ?_ ?_
    · rintro k H7 hk ⟨ps, e1, e2, e3, k7⟩
      have hk2 : k < 2 := by omega
      have psl : ps.length = k := by rw [← List.length_map (f := (·.2)), e2]; unfold ledA; rw [List.length_map, List.length_range]
      have hat : atI [V.int (1 + f1), V.int (500 + f2)] (0 + (k : Int)) = some (.int (if k = 0 then 1 + f1 else 500 + f2)) := by
        rw [Int.zero_add]
        refine atI_nat ?_
        rcases (by omega : k = 0 ∨ k = 1) with rfl | rfl <;> rfl
      refine ⟨rfl, _, rfl, _, _, rfl, rfl, .inl ⟨by decide, by decide⟩, _, _, rfl, rfl, _, rfl, _, rfl, fl, _, _, _, rfl, rfl, .of (k7 _ _ efl6), hat, by show 2 ≤ sizeLine; decide, fun T hT => ?_⟩
      have nD : T ≠ D := fun z => by rw [z, e1] at hT; cases hT
      have n8 := Same.new (o := .tup [.int (990 - 10 * (0 + (k : Int))), .int (if k = 0 then 1 + f1 else 500 + f2)]) hT
      refine ⟨_, n8 _ _ e1, ?_, ps ++ [(V.ref T, (990 - 10 * (0 + (k : Int)), if k = 0 then 1 + f1 else 500 + f2))], ?_, ?_, ?_, (k7.step hT).own hD⟩
      · rw [List.length_map, psl]
        exact Nat.lt_of_lt_of_le hk2 (by decide)
      · rw [upd_same, List.map_append]
        rfl
      · rw [List.map_append, e2]
        unfold ledA
        rw [List.range_succ, List.map_append]
        rfl
      · intro p' hp'
        have k2 : TupK (upd H7 T (.tup [.int (990 - 10 * (0 + (k : Int))), .int (if k = 0 then 1 + f1 else 500 + f2)])) (upd (upd H7 T (.tup [.int (990 - 10 * (0 + (k : Int))), .int (if k = 0 then 1 + f1 else 500 + f2)])) D (.lst (ps.map (·.1) ++ [.ref T]))) := But.tupK (S := (· = D)) (But.set rfl) fun c ys hc => by rw [hc]; exact not_tup_lst (n8 _ _ e1)
        rcases List.mem_append.mp hp' with hp' | hp'
        · exact Dp.keep (n8.tupK.trans k2) _ _ (pair_imm _) (e3 p' hp')
        · rw [List.mem_singleton] at hp'
          rw [hp']
          refine .tup (.of ?_) (.cons (.int _) (.cons (.int _) .nil))
          rw [upd_ne nD, upd_same]
    rintro H7 ⟨ps, e1, e2, e3, k7⟩
    rw [show (m : Int).toNat = m by omega] at e2
    have led0 := led_start hm ⟨f10, f11⟩ ⟨f20, f21⟩
    rw [← e2] at led0
    have psl : ps.length = m := by rw [← List.length_map (f := (·.2)), e2]; unfold ledA; rw [List.length_map, List.length_range]
    refine ⟨_, rfl, _, _, rfl, rfl, ((8 - m : Nat) : Int), congrArg (fun z => [V.int z]) (by omega), by omega, by omega, ?_⟩
    refine for_range (lo := 0) (n := ((8 - m : Nat) : Int).toNat) (fun k σ H' => ∃ (x5 : Option V) (ps : List (V × (Int × Int))), σ = [some (.ref u), some (.int (m : Int)), some (.ref fl), some (.ref o), some (.int (0 + (i : Int))), x5, some (.ref D)] ∧ H' D = some (.lst (ps.map (·.1))) ∧ Led k (ps.map (·.2)) ∧ ps.length = m + k ∧ (∀ p ∈ ps, Dp K H' p.1 (pairD p.2)) ∧ Urn H' u ∧ But (· = u) H6 H')
      ⟨x5, ps, rfl, e1, led0, psl, e3, u6.same k7, k7.but⟩ ?_ ?_
    · clear e1 e2 e3 k7 led0 psl ps
      rintro k σ H8 hk ⟨y5, ps, rfl, eD, led, psl, dps, u8, b8⟩
      have hk : k < 8 - m := by omega
      refine ⟨_, rfl, .inl ⟨rfl, _, .of eD⟩, _, rfl, _, _, rfl, rfl, _, rfl, _, _, rfl, rfl, .inl ⟨by decide, by decide⟩, _, _, rfl, rfl, _, rfl, u, 11, rfl, by decide, by decide, u8, fun t H9 t0 t1 u9 b9 => ⟨_, _, rfl, rfl, by show 2 ≤ sizeLine; decide, fun T hT => ?_⟩⟩
      have eD9 := b9 _ _ nDu eD
      have nTD : T ≠ D := fun z => by rw [z, eD9] at hT; cases hT
      have n10 := Same.new (o := .tup [.int (9 - (0 + (k : Int))), .int (401 + 11 * (0 + (k : Int)) + t)]) hT
      have eD10 := n10 _ _ eD9
      have tk : TupK (upd H9 T (.tup [.int (9 - (0 + (k : Int))), .int (401 + 11 * (0 + (k : Int)) + t)])) (upd (upd H9 T (.tup [.int (9 - (0 + (k : Int))), .int (401 + 11 * (0 + (k : Int)) + t)])) D (.lst (ps.map (·.1) ++ [.ref T]))) := But.tupK (S := (· = D)) (But.set rfl) fun c ys hc => by rw [hc]; exact not_tup_lst eD10
      refine ⟨D, _, _, rfl, rfl, eD10, ?_, _, ps ++ [(V.ref T, (9 - (k : Int), 401 + 11 * (k : Int) + t))], rfl, ?_, ?_, ?_, ?_, Urn.upd (u9.new hT) nDu, ((b8.trans b9).new hT).own hD⟩
      · rw [List.length_map, psl]
        exact Nat.lt_of_le_of_lt (show m + k ≤ 8 by omega) (by decide)
      · rw [upd_same, List.map_append]
        rfl
      · rw [List.map_append]
        exact led.step (by omega) t0 t1
      · rw [List.length_append, psl]
        rfl
      · intro p' hp'
        rcases List.mem_append.mp hp' with hp' | hp'
        · exact Dp.keep (((u8.tupK b9).trans n10.tupK).trans tk) _ _ (pair_imm _) (dps p' hp')
        · rw [List.mem_singleton] at hp'
          rw [hp']
          refine .tup (.of ?_) (.cons (.int _) (.cons (.int _) .nil))
          rw [upd_ne nTD, upd_same, Int.zero_add]
    · clear e1 e2 e3 k7 led0 psl ps
      rintro σ H8 ⟨y5, ps, rfl, eD, led, psl, dps, u8, b8⟩
      have psl : ps.length = 8 := by omega
      refine ⟨_, rfl, _, rfl, D, _, rfl, .inl ⟨.of eD, fun r hr => ?_⟩⟩
      have n9 := Same.new (o := .tup (ps.map (·.1))) hr
      refine ⟨by show 1 ≤ sizeLine; decide, fun o1 ho1 => ?_⟩
      have n10 := Same.new (o := .tup [.ref r]) ho1
      have T8 := u6.tupK b8
      have n810 := n9.trans n10
      have zl : zs.length = i := by rw [DpAll.length dz, List.length_map, rl]
      refine ⟨o, o1, _, _, rfl, rfl, n810.sqT (T8.sqT sqo), .of upd_same, ?_, fun o2 H11 s11 q11 => ?_⟩
      · rw [zl]
        exact Nat.le_trans (show i + 1 ≤ 5 by omega) (by decide)
      have n811 := n810.trans s11
      have ok8 : RowOk (ps.map (·.2)) := ⟨by rw [List.length_map]; omega, led.pts, led.key, led.nod, led.asc⟩
      refine ⟨_, _, _, o2, zs ++ [V.ref r], rs ++ [ps.map (·.2)], rfl, (show SqT K H11 o2 (zs ++ [V.ref r]) from q11), ?_, ?_, ?_, ?_, u8.same n811, (b6.trans b8).trans n811.but⟩
      · rw [List.map_append]
        refine DpAll.app (Dp.keepAll (T8.trans n811.tupK) _ _ (immAll_map row_imm _) dz) (.cons (.tup ((n10.trans s11).sqT (.of upd_same)) ?_) .nil)
        exact dp_map (f := pairD) fun p hp => Dp.keep n811.tupK _ _ (pair_imm _) (dps p hp)
      · rw [List.length_append, rl]
        rfl
      · intro s hs
        rcases List.mem_append.mp hs with hs | hs
        · exact oks s hs
        · rw [List.mem_singleton.mp hs]
          exact ok8
      · intro s hs
        rcases List.mem_append.mp hs with hs | hs
        · exact h8 s hs
        · rw [List.mem_singleton.mp hs, List.length_map]
          omega
  · rintro σ H6 ⟨x4, x5, x6, o, zs, rs, rfl, sqo, dz, rl, oks, h8, u6, b6⟩
    exact ⟨_, rfl, q _ o rs u6 (b5.trans b6) rl oks h8 (.tup sqo dz)⟩
end
end K71
set_option pp.maxSteps 1200
namespace K71
open PySem PySem.Spec PyProof.Rows L2 RZ
theorem skip_nil {D : Ends} {σ : L2.St} {H : Hp} (h : D.nx σ H) : tNext D σ H := h
def spGreat : Sp := fun vs H Q _ => ∃ (u : Addr) (b : Bool), vs = [.ref u, .bl b] ∧ Urn H u ∧ ∀ H', Urn H' u → But (· = u) H H' → Q (.bl true) H'
/-- lists of few pairs stand at v -/
structure Lists (K : PySem.W.Frag) (H : Hp) (a : Addr) (rs : List Row) : Prop where
  at_ : Dp K H (.ref a) (rowsD rs)
  oks : ∀ r ∈ rs, RowOk r
  h8 : ∀ r ∈ rs, r.length ≤ 8
  h4 : rs.length ≤ 4
theorem few_some {rs : List Row} {m : Nat} {es : List Nat} (oks : ∀ r ∈ rs, RowOk r) (f : Few rs m es) : settledO rs es m = some (bestL rs m) := by
  rcases settled_cases (m := m) oks f.ok with e | e
  · exact absurd e f.yes
  · exact e
section
variable {P : Program} {w : World} {K : PySem.W.Frag} {mg : Str → Option Value} {base : Heap}
theorem ok_law_great_right (T : Txt P K mg) : FnOk P w K mg base CX0 10 T.f_law_great_right T.d_law_great_right ["urn", "is_led"] spGreat := by
  refine T.F_law_great_right.ok sc_law_great_right (fun vs H Q E h => by obtain ⟨u, b, rfl, _⟩ := h; rfl) (fun cdv A outer s H vs Q E hr h => ⟨_, (pss_cons (ps_par (i := 2) (j := 3) rfl sc_law_great_right.nd rfl rfl (by decide) rfl rfl (pa_cons (pe_op op_add pe_int (pe_call (ok_law_take T) (hr.mono (by omega)) rfl T.g__law_take T.F_law_take.kp T.b_law_take .nil pass0 (pa_cons (pv 0) (pa_cons pe_int pa_nil)))) (pa_cons (pe_call (ok_law_of T) (hr.mono (by omega)) rfl T.g__law_of T.F_law_of.kp T.b_law_of .nil pass0 (pa_cons (pv 0) (pa_cons (pe_lst (pa_cons pe_int (pa_cons pe_int (pa_cons pe_int (pa_cons pe_int pa_nil))))) pa_nil))) pa_nil)) (by rfl))
      (pss_cons (ps_set (i := 4) sc_law_great_right.nd rfl (Or.inl rfl) (pe_call (ok_law_lists T) (hr.mono (by omega)) rfl T.g__law_lists T.F_law_lists.kp T.b_law_lists .nil pass0 (pa_cons (pv 0) (pa_cons (pv 2) (pa_cons (pe_ifExp (pt_cmpR op_eq (pv 2) pe_int (nomark _)) pe_int pe_int) pa_nil)))))
      (pss_cons (ps_if (pt_val (pv 1))
      (pss_cons (ps_par (i := 2) (j := 3) rfl sc_law_great_right.nd rfl rfl (by decide) rfl rfl (pa_cons pe_int (pa_cons (pe_op op_add pe_int (pe_call (ok_law_take T) (hr.mono (by omega)) rfl T.g__law_take T.F_law_take.kp T.b_law_take .nil pass0 (pa_cons (pv 0) (pa_cons pe_int pa_nil)))) pa_nil)) (by rfl))
      (pss_one (ps_set (i := 4) sc_law_great_right.nd rfl (Or.inl rfl) (pe_call (ok_law_led_lists T) (hr.mono (by omega)) rfl T.g__law_led_lists T.F_law_led_lists.kp T.b_law_led_lists .nil pass0 (pa_cons (pv 0) (pa_cons (pv 3) pa_nil)))))) pss_nil)
      (pss_cons (ps_par (i := 5) (j := 6) rfl sc_law_great_right.nd rfl rfl (by decide) rfl rfl (pa_cons (pe_call (ok_fewest_looks T) (hr.mono (by omega)) rfl T.g_fewest_looks T.F_fewest_looks.kp T.b_fewest_looks .nil pass0 (pa_cons (pv 4) (pa_cons (pv 3) pa_nil))) (pa_cons (pe_call (ok_any_fewest T) (hr.mono (by omega)) rfl T.g_any_fewest T.F_any_fewest.kp T.b_any_fewest .nil pass0 (pa_cons (pv 4) (pa_cons (pv 3) pa_nil))) pa_nil)) (by rfl))
      (pss_cons (ps_if (PW.pt (pw_or (pt_not (pt_val (pe_callB call_isi rfl T.z_isinstance (by decide +kernel) (pa_cons (pv 6) (pa_cons (pe_bltn (v := .ty "tuple") (u := .type "tuple") rfl T.z_tuple (by decide +kernel) rfl) pa_nil))))) (pw_or (pt_cmpR op_ne (pe_callB call_len_seq rfl T.z_len (by decide +kernel) (pa_cons (pv 6) pa_nil)) (pv 2) (nomark _)) (pw_or (pt_not (pt_val (pe_callB call_isi rfl T.z_isinstance (by decide +kernel) (pa_cons (pv 5) (pa_cons (pe_bltn (v := .ty "int") (u := .type "int") rfl T.z_int (by decide +kernel) rfl) pa_nil))))) (pw_or1 (pt_val (pe_callB call_isi rfl T.z_isinstance (by decide +kernel) (pa_cons (pv 5) (pa_cons (pe_bltn (v := .ty "bool") (u := .type "bool") rfl T.z_bool (by decide +kernel) rfl) pa_nil)))))))))
      (pss_one (ps_ret pe_bl)) pss_nil)
      (pss_cons (ps_for PassesOwn.never rfl (pi_range1 rfl T.z_range (pa_cons (pv 2) pa_nil)) (pg_name (i := 7) sc_law_great_right.nd rfl (by first | exact Or.inl rfl | exact Or.inr rfl))
      (pss_one (ps_if (PW.pt (pw_or (pt_not (pt_val (pe_callB call_isi rfl T.z_isinstance (by decide +kernel) (pa_cons (pe_ix ix_tup (pv 6) (pv 7) (fun _ _ => rfl)) (pa_cons (pe_bltn (v := .ty "int") (u := .type "int") rfl T.z_int (by decide +kernel) rfl) pa_nil))))) (pw_or (pt_val (pe_callB call_isi rfl T.z_isinstance (by decide +kernel) (pa_cons (pe_ix ix_tup (pv 6) (pv 7) (fun _ _ => rfl)) (pa_cons (pe_bltn (v := .ty "bool") (u := .type "bool") rfl T.z_bool (by decide +kernel) rfl) pa_nil)))) (pw_or1 (pt_not (pt_chain op_le op_le pe_int (pe_ix ix_tup (pv 6) (pv 7) (fun _ _ => rfl)) (pe_callB call_len_seq rfl T.z_len (by decide +kernel) (pa_cons (pe_ix ix_tup (pv 4) (pv 7) (fun _ _ => rfl)) pa_nil))))))))
      (pss_one (ps_ret pe_bl)) pss_nil)))
      (pss_cons (ps_if (PW.pt (pw_or (pt_cmpR op_ne (pe_callB (cr_sumT rfl) rfl T.z_sum (by decide +kernel) (pa_cons (pv 6) pa_nil)) (pv 5) (nomark _)) (pw_or1 (pt_cmpR op_isN (pe_call (ok_law_settled T) (hr.mono (by omega)) rfl T.g__law_settled T.F_law_settled.kp T.b_law_settled .nil pass0 (pa_cons (pv 4) (pa_cons (pv 6) (pa_cons (pv 3) pa_nil)))) pe_non (nomark _)))))
      (pss_one (ps_ret pe_bl)) pss_nil)
      (pss_cons (ps_for PassesOwn.never rfl (pi_list (pe_call (ok_law_all_depths T) (hr.mono (by omega)) rfl T.g__law_all_depths T.F_law_all_depths.kp T.b_law_all_depths .nil pass0 (pa_cons (pv 4) pa_nil))) (pg_name (i := 8) sc_law_great_right.nd rfl (by first | exact Or.inl rfl | exact Or.inr rfl))
      (pss_one (ps_if (PW.pt (pw_and (pt_cmpR op_eq (pe_callB (cr_sumT rfl) rfl T.z_sum (by decide +kernel) (pa_cons (pv 8) pa_nil)) (pe_op op_sub (pv 5) pe_int) (nomark _)) (pw_and1 (pt_cmpR op_notN (pe_call (ok_law_settled T) (hr.mono (by omega)) rfl T.g__law_settled T.F_law_settled.kp T.b_law_settled .nil pass0 (pa_cons (pv 4) (pa_cons (pv 8) (pa_cons (pv 3) pa_nil)))) pe_non (nomark _)))))
      (pss_one (ps_ret pe_bl)) pss_nil)))
      (pss_one (ps_ret pe_bl)))))))))), ?_⟩)
  obtain ⟨u, il, rfl, hu, q⟩ := h
  refine ⟨_, rfl, u, 2, rfl, by decide, by decide, hu, fun sz H1 sz0 sz1 u1 b1 => ⟨_, _, rfl, rfl, _, rfl, by show 4 ≤ sizeLine; decide, fun p hp => ?_⟩⟩
  refine ⟨u, p, _, rfl, u1.ne hp, .of upd_same, by show 0 < 4; decide, by show 4 < 1073741824; decide, u1.new hp, fun j v H2 hv u2 b2 => ?_⟩
  obtain ⟨m', hm', rfl⟩ := ints_at (ns := [1, 1, 2, 5]) hv
  obtain ⟨m, rfl, m1, m40⟩ : ∃ m : Nat, m' = m ∧ 1 ≤ m ∧ m ≤ 40 := ⟨m'.toNat, by simp at hm'; omega, by simp at hm'; omega, by simp at hm'; omega⟩
  have b02 := (b1.new hp).trans b2
  clear b1 b2 hp hv hm' u1
  obtain ⟨n0, rfl⟩ : ∃ n0 : Nat, sz = n0 := ⟨sz.toNat, by omega⟩
  refine ⟨_, _, rfl, ?_⟩
  dsimp only
  refine asg_by (fun v H' => ∃ (a : Addr) (rs : List Row), v = .ref a ∧ rs.length = 3 + n0 ∧ Lists K H' a rs ∧ Urn H' u ∧ But (· = u) H H') ?_ ?_
  · intro Q' hQ
    refine ⟨_, rfl, _, rfl, _, rfl, rfl, _, rfl, ?_⟩
    by_cases c : (3 : Int) + n0 = 3
    · refine iteB (decide_eq_true (congrArg V.int c)) ?_
      exact ⟨u, 3 + n0, 5, by rfl, by omega, by omega, u2, fun H3 a rs u3 b3 hl oks h8 hd => hQ _ _ ⟨a, rs, rfl, hl, ⟨hd, oks, fun r hr => by have := h8 r hr; omega, by omega⟩, u3, b02.trans b3⟩⟩
    · refine iteB' (decide_eq_false fun z => c (by injection z)) ?_
      exact ⟨u, 3 + n0, 4, by rfl, by omega, by omega, u2, fun H3 a rs u3 b3 hl oks h8 hd => hQ _ _ ⟨a, rs, rfl, hl, ⟨hd, oks, fun r hr => by have := h8 r hr; omega, by omega⟩, u3, b02.trans b3⟩⟩
  rintro v H3 ⟨a, rs, rfl, hl, ls, u3, b3⟩
  refine seq_by (fun σ' H' => ∃ (n m : Nat) (a : Addr) (rs : List Row), σ' = [some (.ref u), some (.bl il), some (.int (n : Int)), some (.int (m : Int)), some (.ref a), none, none, none, none] ∧ rs.length = n ∧ 1 ≤ n ∧ Lists K H' a rs ∧ 1 ≤ m ∧ m ≤ 40 ∧ Urn H' u ∧ But (· = u) H H') ?_ ?_
  · intro N hN
    refine ⟨_, rfl, _, rfl, ?_⟩
    cases il with
    | false => exact iteB' rfl (hN _ _ ⟨3 + n0, m, a, rs, rfl, hl, by omega, ls, m1, m40, u3, b3⟩)
    | true =>
      refine iteB rfl ?_
      refine ⟨_, rfl, u, 2, rfl, by decide, by decide, u3, fun k H4 k0 k1 u4 b4 => ⟨_, _, rfl, rfl, _, _, rfl, ?_⟩⟩
      obtain ⟨k', rfl⟩ : ∃ k' : Nat, k = k' := ⟨k.toNat, by omega⟩
      refine ⟨_, rfl, _, rfl, u, 1 + k', by rfl, by omega, u4, fun H5 a5 rs5 u5 b5 hl5 oks5 h85 hd5 => ?_⟩
      exact hN _ _ ⟨4, 1 + k', a5, rs5, rfl, hl5, by omega, ⟨hd5, oks5, h85, by omega⟩, by omega, by omega, u5, (b3.trans b4).trans b5⟩
  clear u2 b02 hl ls u3 b3 a rs m1 m40 m
  rintro σ H3 ⟨n, m, a, rs, rfl, hl, n1, ls, m1, m40, u3, b3⟩
  obtain ⟨hd, oks, h8, h4⟩ := ls
  have h1 : 1 ≤ rs.length := by omega
  refine ⟨_, rfl, _, rfl, .ref a, rs, m, rfl, hd, oks, h1, h4, h8, m1, m40, fun H4 es s4 few => ?_⟩
  refine ⟨_, rfl, _, rfl, .ref a, rs, m, rfl, Dp.keep s4.tupK _ _ (rows_imm rs) hd, oks, h1, h4, h8, m1, m40, fun H5 p fs s5 df few2 => ⟨_, _, rfl, ?_⟩⟩
  have esum := few.sum few2
  have s35 := s4.trans s5
  have hd5 := Dp.keep s35.tupK _ _ (rows_imm rs) hd
  have u5 := u3.same s35
  have b5 := b3.trans s35.but
  clear s4 s5 s35 hd u3 b3
  obtain ⟨p', ps, ep, sqp, dp⟩ := tup_at df
  cases ep
  obtain rfl := dp_ints dp
  obtain ⟨a', xs, ea, sq, da⟩ := tup_at hd5
  cases ea
  obtain ⟨len, get⟩ := map_get da
  have fl := few2.ok.len
  refine ⟨_, rfl, _, _, _, _, true, rfl, .ty _, sqT_ty sqp, kt (by decide +kernel), _, rfl, iteF ?_⟩
  refine ⟨_, rfl, p, _, rfl, .inr sqp, _, rfl, rfl, _, rfl, iteB' (by rw [List.length_map]; simp; omega) ?_⟩
  refine ⟨_, rfl, _, _, _, _, true, rfl, .ty _, .base (.int _), kt (by decide +kernel), _, rfl, iteF ?_⟩
  refine ⟨_, rfl, _, _, _, _, false, rfl, .ty _, .base (.int _), kt (by decide +kernel), _, rfl, iteF ?_⟩
  refine ⟨_, rfl, (n : Int), rfl, by omega, by omega, ?_⟩
  refine for_range (lo := 0) (n := (n : Int).toNat) (fun k σ H' => ∃ (x7 : Option V), σ = [some (.ref u), some (.bl il), some (.int (n : Int)), some (.int (m : Int)), some (.ref a), some (.int ((es.sum : Nat) : Int)), some (.ref p), x7, none] ∧ H5 = H') ⟨none, rfl, rfl⟩ ?_ ?_
  · rintro k σ H6 hk ⟨x7, rfl, rfl⟩
    have hk : k < n := by omega
    obtain ⟨x, hx⟩ : ∃ x, xs[k]? = some x := ⟨_, List.getElem?_eq_getElem (by omega)⟩
    obtain ⟨r, hr1, hr2⟩ := get k x hx
    obtain ⟨ra, rxs, rfl, rsq, rda⟩ := tup_at hr2
    obtain ⟨rlen, _⟩ := map_get rda
    obtain ⟨d, hd'⟩ : ∃ d, fs[k]? = some d := ⟨_, List.getElem?_eq_getElem (by omega)⟩
    have dle := few2.ok.le k r d hr1 hd'
    have hat : atI (fs.map fun d : Nat => V.int (d : Int)) (0 + (k : Int)) = some (.int (d : Int)) := by rw [Int.zero_add]; exact atI_nat (by rw [List.getElem?_map, hd']; rfl)
    have hat2 : atI xs (0 + (k : Int)) = some (.ref ra) := by rw [Int.zero_add]; exact atI_nat hx
    refine ⟨_, rfl, _, rfl, p, _, _, _, rfl, rfl, sqp, hat, _, _, _, _, true, rfl, .ty _, .base (.int _), kt (by decide +kernel), _, rfl, iteF ?_⟩
    refine ⟨_, rfl, _, rfl, p, _, _, _, rfl, rfl, sqp, hat, _, _, _, _, false, rfl, .ty _, .base (.int _), kt (by decide +kernel), _, rfl, iteF ?_⟩
    refine ⟨_, rfl, _, rfl, p, _, _, _, rfl, rfl, sqp, hat, _, _, rfl, rfl, _, rfl, iteB (decide_eq_true (by omega)) ?_⟩
    exact ⟨_, rfl, _, rfl, a, _, _, _, rfl, rfl, sq, hat2, ra, rxs, rfl, .inr rsq, _, _, rfl, rfl, _, rfl, iteB' (by simp; omega) ⟨_, rfl, rfl⟩⟩
  rintro σ H6 ⟨x7, rfl, rfl⟩
  refine ⟨_, rfl, p, _, rfl, dep_sq df, _, rfl, rfl, _, rfl, iteB' (by rw [sum_cast, ← esum]; simp) ?_⟩
  refine ⟨_, rfl, _, rfl, _, rfl, .ref a, .ref p, rs, fs, m, rfl, hd5, df, few2.ok, oks, h1, h4, m1, m40, fun H6 due s6 d6 => ⟨rfl, _, rfl, ?_⟩⟩
  rw [few_some oks few2] at d6
  obtain ⟨dp', rfl⟩ : ∃ dp, due = .ref dp := by
    cases d6
    exact ⟨_, rfl⟩
  refine iteB' (by simp) ?_
  have hd6 := Dp.keep s6.tupK _ _ (rows_imm rs) hd5
  refine ⟨_, rfl, .ref a, rs, rfl, hd6, h4, h8, fun H7 g ys dss s7 eg dy mem _ => ⟨g, rfl, ⟨_, .of eg⟩, ?_⟩⟩
  obtain ⟨_, yget⟩ := map_get dy
  have hd7 := Dp.keep s7.tupK _ _ (rows_imm rs) hd6
  refine for_it (walk_list (K := K) (a := g) (xs := ys)) (fun j σ H' => ∃ (x8 : Option V), σ = [some (.ref u), some (.bl il), some (.int (n : Int)), some (.int (m : Int)), some (.ref a), some (.int ((es.sum : Nat) : Int)), some (.ref p), x7, x8] ∧ Same H7 H') ⟨none, rfl, Same.refl _⟩ (fun j σ H' _ h => by obtain ⟨_, _, k⟩ := h; exact k.sqL (.of eg)) ?_ ?_
  · rintro j y σ _ H8 hj ⟨x8, rfl, k8⟩ ⟨rfl, hy⟩
    obtain ⟨gs, hg1, hg2⟩ := yget j y hy
    have hy8 := Dp.keep k8.tupK _ _ (dep_imm gs) hg2
    obtain ⟨ya, yxs, rfl, _, _⟩ := tup_at hy8
    have dok := (mem gs).mp (List.mem_of_getElem? hg1)
    refine ⟨_, rfl, ya, _, rfl, dep_sq hy8, _, rfl, _, _, rfl, rfl, rfl, _, rfl, ?_⟩
    rw [sum_cast]
    by_cases c : ((gs.sum : Nat) : Int) = ((es.sum : Nat) : Int) - 1
    · refine iteB (decide_eq_true (congrArg V.int c)) ?_
      refine ⟨_, rfl, _, rfl, _, rfl, .ref a, .ref ya, rs, gs, m, rfl, Dp.keep k8.tupK _ _ (rows_imm rs) hd7, hy8, dok, oks, h1, h4, m1, m40, fun H9 due s9 d9 => ⟨rfl, _, rfl, ?_⟩⟩
      rw [few.no gs dok (by omega)] at d9
      cases d9
      exact iteB' (by simp) ⟨_, rfl, k8.trans s9⟩
    · exact iteB' (decide_eq_false fun z => c (by injection z)) (iteF ⟨_, rfl, k8⟩)
  · rintro σ H8 ⟨x8, rfl, k8⟩
    have s58 := (s6.trans s7).trans k8
    exact q H8 (u5.same s58) (b5.trans s58.but)
end
end K71
set_option pp.maxSteps 1200
namespace K71
open PySem PySem.Spec PyProof.Rows L2 RZ
def spRight (K : PySem.W.Frag) : Sp := fun vs H Q _ => ∃ u : Addr, vs = [.ref u] ∧ Urn H u ∧ ∀ H', But (· = u) H H' → Q (.bl true) H'
theorem int_small {n : Nat} (h : n ≤ 1000) : Small (.int (n : Int)) := ⟨by simp only [tidy, decide_eq_true_eq]; omega, by simp [PyData.bulk], by simp [PyData.depth]⟩
theorem set_less : ∀ {fs : List Nat} {i d : Nat}, fs[i]? = some d → 0 < d → (fs.set i (d - 1)).sum < fs.sum
  | [], _, _, h, _ => by cases h
  | f :: fs, 0, d, h, k => by
    cases h
    rw [List.set_cons_zero, List.sum_cons, List.sum_cons]
    omega
  | f :: fs, i + 1, d, h, k => by
    have := set_less (fs := fs) (i := i) (d := d) h k
    rw [List.set_cons_succ, List.sum_cons, List.sum_cons]
    omega
theorem set_dep {rs : List Row} {fs : List Nat} {i d : Nat} (h : DepOk rs fs) (hd : fs[i]? = some d) : DepOk rs (fs.set i (d - 1)) := by
  refine ⟨by rw [List.length_set]; exact h.len, fun j r e hr he => ?_⟩
  by_cases c : i = j
  · subst c
    have il := (List.getElem?_eq_some_iff.mp hd).1
    rw [List.getElem?_set_self il] at he
    cases he
    have := h.le i r d hr hd
    omega
  · rw [List.getElem?_set_ne c] at he
    exact h.le j r e hr he
theorem way_at {wy : Int} (h0 : 0 < wy) (h5 : wy < 6) : ∃ n k : Nat, atI [V.int 1, V.int 2, V.int 2, V.int 3, V.int 4] (wy - 1) = some (.int (n : Int)) ∧ atI [V.int 8, V.int 5, V.int 4, V.int 4, V.int 2] (wy - 1) = some (.int (k : Int)) ∧ 1 ≤ n ∧ n ≤ 4 ∧ k ≤ 8 := by
  rcases (by omega : wy = 1 ∨ wy = 2 ∨ wy = 3 ∨ wy = 4 ∨ wy = 5) with rfl | rfl | rfl | rfl | rfl
  · exact ⟨1, 8, atI_nat (j := 0) rfl, atI_nat (j := 0) rfl, by decide, by decide, by decide⟩
  · exact ⟨2, 5, atI_nat (j := 1) rfl, atI_nat (j := 1) rfl, by decide, by decide, by decide⟩
  · exact ⟨2, 4, atI_nat (j := 2) rfl, atI_nat (j := 2) rfl, by decide, by decide, by decide⟩
  · exact ⟨3, 4, atI_nat (j := 3) rfl, atI_nat (j := 3) rfl, by decide, by decide, by decide⟩
  · exact ⟨4, 2, atI_nat (j := 4) rfl, atI_nat (j := 4) rfl, by decide, by decide, by decide⟩
section
variable {P : Program} {w : World} {K : PySem.W.Frag} {mg : Str → Option Value} {base : Heap}
theorem ok_law_right (T : Txt P K mg) : FnG P w K mg base CX0 11 T.f_law_right T.d_law_right ["urn"] (spRight K) := by
  refine T.F_law_right.okG sc_law_right (fun vs H Q E h => by obtain ⟨u, rfl, _⟩ := h; rfl) (fun cdv A outer s H vs Q E gd hr h => ⟨_, (pss_cons (ps_set (i := 1) sc_law_right.nd rfl (Or.inl rfl) (pe_call (ok_law_take T) (hr.mono (by omega)) rfl T.g__law_take T.F_law_take.kp T.b_law_take .nil pass0 (pa_cons (pv 0) (pa_cons pe_int pa_nil))))
      (pss_cons (ps_if (PW.pt (pw_and (pt_cmpR op_in_seq (pv 1) (pe_tup (pa_cons pe_int (pa_cons pe_int pa_nil))) (by rfl)) (pw_and1 (pt_not (pt_val (pe_call (ok_law_great_right T) (hr.mono (by omega)) rfl T.g__law_great_right T.F_law_great_right.kp T.b_law_great_right .nil pass0 (pa_cons (pv 0) (pa_cons (pe_cmpR op_eq (pv 1) pe_int (nomark _)) pa_nil))))))))
      (pss_one (ps_ret pe_bl)) pss_nil)
      (pss_cons (ps_for PassesOwn.never rfl (pi_range1 rfl T.z_range (pa_cons pe_int pa_nil)) (pg_name (i := 2) sc_law_right.nd rfl (by first | exact Or.inl rfl | exact Or.inr rfl))
      (pss_cons (ps_set (i := 3) sc_law_right.nd rfl (Or.inl rfl) (pe_call (ok_law_take T) (hr.mono (by omega)) rfl T.g__law_take T.F_law_take.kp T.b_law_take .nil pass0 (pa_cons (pv 0) (pa_cons pe_int pa_nil))))
      (pss_cons (ps_if (pt_cmpR op_eq (pv 3) pe_int (nomark _))
      (pss_one (ps_set (i := 4) sc_law_right.nd rfl (Or.inl rfl) (pe_ifExp (pt_cmpR op_eq (pe_call (ok_law_take T) (hr.mono (by omega)) rfl T.g__law_take T.F_law_take.kp T.b_law_take .nil pass0 (pa_cons (pv 0) (pa_cons pe_int pa_nil))) pe_int (nomark _)) (pe_call (ok_law_lists T) (hr.mono (by omega)) rfl T.g__law_lists T.F_law_lists.kp T.b_law_lists .nil pass0 (pa_cons (pv 0) (pa_cons pe_int (pa_cons pe_int pa_nil)))) (pe_call (ok_law_lists T) (hr.mono (by omega)) rfl T.g__law_lists T.F_law_lists.kp T.b_law_lists .nil pass0 (pa_cons (pv 0) (pa_cons pe_int (pa_cons pe_int pa_nil))))))) (pss_one (ps_set (i := 4) sc_law_right.nd rfl (Or.inl rfl) (pe_call (ok_law_lists T) (hr.mono (by omega)) rfl T.g__law_lists T.F_law_lists.kp T.b_law_lists .nil pass0 (pa_cons (pv 0) (pa_cons (pe_ix ix_list (pe_lst (pa_cons pe_int (pa_cons pe_int (pa_cons pe_int (pa_cons pe_int (pa_cons pe_int pa_nil)))))) (pe_op op_sub (pv 3) pe_int) (fun _ _ => rfl)) (pa_cons (pe_ix ix_list (pe_lst (pa_cons pe_int (pa_cons pe_int (pa_cons pe_int (pa_cons pe_int (pa_cons pe_int pa_nil)))))) (pe_op op_sub (pv 3) pe_int) (fun _ _ => rfl)) pa_nil)))))))
      (pss_cons (ps_set (i := 5) sc_law_right.nd rfl (Or.inl rfl) (pe_call (ok_law_of T) (hr.mono (by omega)) rfl T.g__law_of T.F_law_of.kp T.b_law_of .nil pass0 (pa_cons (pv 0) (pa_cons (pe_lst (pa_cons pe_int (pa_cons pe_int (pa_cons pe_int (pa_cons pe_int (pa_cons pe_int pa_nil)))))) pa_nil))))
      (pss_cons (ps_par (i := 6) (j := 7) rfl sc_law_right.nd rfl rfl (by decide) rfl rfl (pa_cons (pe_call (ok_law_fewest T) (hr.mono (by omega)) rfl T.g__law_fewest T.F_law_fewest.kp T.b_law_fewest .nil pass0 (pa_cons (pv 4) (pa_cons (pv 5) pa_nil))) (pa_cons (pe_cmpR op_eq (pe_call (ok_law_take T) (hr.mono (by omega)) rfl T.g__law_take T.F_law_take.kp T.b_law_take .nil pass0 (pa_cons (pv 0) (pa_cons pe_int pa_nil))) pe_int (nomark _)) pa_nil)) (by rfl))
      (pss_cons (ps_set (i := 8) sc_law_right.nd rfl (Or.inl rfl) (pe_ifExp (pt_val (pv 7)) (pe_callK0 (ok_any_fewest T) (hr.mono (by omega)) rfl T.g_any_fewest T.F_any_fewest.kp T.kb_any_fewest_many_lists pass0 (pk_cons (pv 5) (pk_cons (pv 4) pk_nil))) (pe_call (ok_any_fewest T) (hr.mono (by omega)) rfl T.g_any_fewest T.F_any_fewest.kp T.b_any_fewest .nil pass0 (pa_cons (pv 4) (pa_cons (pv 5) pa_nil)))))
      (pss_cons (ps_if (pt_cmpR op_ne (pe_callB (call_reprV (by exact gd) (by exact hu64 hr)) rfl T.z_repr (by decide +kernel) (pa_cons (pe_ifExp (pt_val (pv 7)) (pe_call (ok_fewest_looks T) (hr.mono (by omega)) rfl T.g_fewest_looks T.F_fewest_looks.kp T.b_fewest_looks .nil pass0 (pa_cons (pv 4) (pa_cons (pv 5) pa_nil))) (pe_callK0 (ok_fewest_looks T) (hr.mono (by omega)) rfl T.g_fewest_looks T.F_fewest_looks.kp T.kb_fewest_looks_many_lists pass0 (pk_cons (pv 5) (pk_cons (pv 4) pk_nil)))) pa_nil)) (pe_callB (call_reprV (by exact gd) (by exact hu64 hr)) rfl T.z_repr (by decide +kernel) (pa_cons (pv 6) pa_nil)) (nomark _))
      (pss_one (ps_ret pe_bl)) pss_nil)
      (pss_cons (ps_for PassesOwn.never rfl (pi_tup (pe_tup (pa_cons (pv 8) pa_nil))) (pg_name (i := 9) sc_law_right.nd rfl (by first | exact Or.inl rfl | exact Or.inr rfl))
      (pss_cons (ps_if (PW.pt (pw_or (pt_not (pt_val (pe_callB call_isi rfl T.z_isinstance (by decide +kernel) (pa_cons (pv 9) (pa_cons (pe_bltn (v := .ty "tuple") (u := .type "tuple") rfl T.z_tuple (by decide +kernel) rfl) pa_nil))))) (pw_or1 (pt_cmpR op_ne (pe_callB call_len_seq rfl T.z_len (by decide +kernel) (pa_cons (pv 9) pa_nil)) (pe_callB call_len_seq rfl T.z_len (by decide +kernel) (pa_cons (pv 4) pa_nil)) (nomark _)))))
      (pss_one (ps_ret pe_bl)) pss_nil)
      (pss_cons (ps_for PassesOwn.never rfl (pi_range1 rfl T.z_range (pa_cons (pe_callB call_len_seq rfl T.z_len (by decide +kernel) (pa_cons (pv 4) pa_nil)) pa_nil)) (pg_name (i := 10) sc_law_right.nd rfl (by first | exact Or.inl rfl | exact Or.inr rfl))
      (pss_one (ps_if (PW.pt (pw_or (pt_not (pt_val (pe_callB call_isi rfl T.z_isinstance (by decide +kernel) (pa_cons (pe_ix ix_tup (pv 9) (pv 10) (fun _ _ => rfl)) (pa_cons (pe_bltn (v := .ty "int") (u := .type "int") rfl T.z_int (by decide +kernel) rfl) pa_nil))))) (pw_or (pt_val (pe_callB call_isi rfl T.z_isinstance (by decide +kernel) (pa_cons (pe_ix ix_tup (pv 9) (pv 10) (fun _ _ => rfl)) (pa_cons (pe_bltn (v := .ty "bool") (u := .type "bool") rfl T.z_bool (by decide +kernel) rfl) pa_nil)))) (pw_or1 (pt_not (pt_chain op_le op_le pe_int (pe_ix ix_tup (pv 9) (pv 10) (fun _ _ => rfl)) (pe_callB call_len_seq rfl T.z_len (by decide +kernel) (pa_cons (pe_ix ix_tup (pv 4) (pv 10) (fun _ _ => rfl)) pa_nil))))))))
      (pss_one (ps_ret pe_bl)) pss_nil)))
      (pss_cons (ps_if (PW.pt (pw_or (pt_cmpR op_ne (pe_callB (cr_sumT rfl) rfl T.z_sum (by decide +kernel) (pa_cons (pv 9) pa_nil)) (pv 6) (nomark _)) (pw_or1 (pt_cmpR op_ne (pe_callB (call_reprV (by exact gd) (by exact hu64 hr)) rfl T.z_repr (by decide +kernel) (pa_cons (pe_call (ok_settled T) (hr.mono (by omega)) rfl T.g_settled T.F_settled.kp T.b_settled .nil pass0 (pa_cons (pv 4) (pa_cons (pv 9) (pa_cons (pv 5) pa_nil)))) pa_nil)) (pe_callB (call_reprV (by exact gd) (by exact hu64 hr)) rfl T.z_repr (by decide +kernel) (pa_cons (pe_call (ok_law_best T) (hr.mono (by omega)) rfl T.g__law_best T.F_law_best.kp T.b_law_best .nil pass0 (pa_cons (pv 4) (pa_cons (pv 5) pa_nil))) pa_nil)) (nomark _)))))
      (pss_one (ps_ret pe_bl)) pss_nil)
      (pss_one (ps_if (pt_cmpR op_isN (pe_call (ok_law_settled T) (hr.mono (by omega)) rfl T.g__law_settled T.F_law_settled.kp T.b_law_settled .nil pass0 (pa_cons (pv 4) (pa_cons (pv 9) (pa_cons (pv 5) pa_nil)))) pe_non (nomark _))
      (pss_one (ps_ret pe_bl)) pss_nil))))))
      (pss_cons (ps_set (i := 11) sc_law_right.nd rfl (Or.inl rfl) (pe_call (ok_law_take T) (hr.mono (by omega)) rfl T.g__law_take T.F_law_take.kp T.b_law_take .nil pass0 (pa_cons (pv 0) (pa_cons (pe_callB call_len_seq rfl T.z_len (by decide +kernel) (pa_cons (pv 4) pa_nil)) pa_nil))))
      (pss_cons (ps_set (i := 12) sc_law_right.nd rfl (Or.inl rfl) (pe_op op_catW (pe_op op_catW (pe_slice sl_tupW (pv 8) po_none (po_some (pv 11))) (pe_tup (pa_cons (pe_callB (call_max2 rfl) rfl T.z_max (by decide +kernel) (pa_cons pe_int (pa_cons (pe_op op_sub (pe_ix ix_tup (pv 8) (pv 11) (fun _ _ => rfl)) pe_int) pa_nil))) pa_nil))) (pe_slice sl_tupW (pv 8) (po_some (pe_op op_add (pv 11) pe_int)) po_none)))
      (pss_one (ps_if (PW.pt (pw_and (pt_cmpR op_gt (pe_ix ix_tup (pv 8) (pv 11) (fun _ _ => rfl)) pe_int (nomark _)) (pw_and1 (pt_cmpR op_notN (pe_call (ok_settled T) (hr.mono (by omega)) rfl T.g_settled T.F_settled.kp T.b_settled .nil pass0 (pa_cons (pv 4) (pa_cons (pv 12) (pa_cons (pv 5) pa_nil)))) pe_non (nomark _)))))
      (pss_one (ps_ret pe_bl)) pss_nil))))))))))))
      (pss_one (ps_ret pe_bl))))), ?_⟩)
  obtain ⟨u, rfl, hu, q⟩ := h
  refine ⟨_, rfl, u, 12, rfl, by decide, by decide, hu, fun sd H1 _ _ u1 b1 => ?_⟩
  refine gname_of ?_
  dsimp only
  refine seq_by (fun σ' H' => σ' = [some (.ref u), some (.int sd), none, none, none, none, none, none, none, none, none, none, none] ∧ Urn H' u ∧ But (· = u) H H') ?_ ?_
  · intro N hN
    refine ⟨_, rfl, by show 2 ≤ sizeLine; decide, fun t ht => ?_⟩
    refine ⟨t, [.int 5, .int 7], rfl, .inr (.of upd_same), rfl, rfl, _, rfl, ?_⟩
    have u2 := u1.new (o := .tup [.int 5, .int 7]) ht
    have b2 := b1.new (o := .tup [.int 5, .int 7]) ht
    by_cases c : inV (V.int sd) [V.int 5, V.int 7] = true
    · refine iteB (by rw [if_neg (by decide)]; exact c) ?_
      exact ⟨_, rfl, _, rfl, rfl, u, _, rfl, u2, fun H3 u3 b3 => ⟨_, rfl, iteF (hN _ _ ⟨rfl, u3, b2.trans b3⟩)⟩⟩
    · exact iteB' (by rw [if_neg (by decide)]; simpa using c) (iteF (hN _ _ ⟨rfl, u2, b2⟩))
  rintro σ' H2 ⟨rfl, u2, b2⟩
  refine ⟨2, rfl, by decide, by decide, ?_⟩
  refine for_range (lo := 0) (n := 2) (fun i σ H' => ∃ (x2 x3 x4 x5 x6 x7 x8 x9 x10 x11 x12 : Option V), σ = [some (.ref u), some (.int sd), x2, x3, x4, x5, x6, x7, x8, x9, x10, x11, x12] ∧ Urn H' u ∧ But (· = u) H H')
    ⟨none, none, none, none, none, none, none, none, none, none, none, rfl, u2, b2⟩ ?_ ?_
  case refine_2 =>
    rintro σ G ⟨x2, x3, x4, x5, x6, x7, x8, x9, x10, x11, x12, rfl, uG, bG⟩
    exact q G bG
  clear u1 b1 u2 b2
  rintro i σ H2 hi ⟨x2, x3, x4, x5, x6, x7, x8, x9, x10, x11, x12, rfl, u2, b2⟩
  refine ⟨_, rfl, u, 6, rfl, by decide, by decide, u2, fun wy H3 wy0 wy1 u3 b3 => ?_⟩
  have b03 := b2.trans b3
  refine gname_of ?_
  dsimp only
  refine seq_by (fun σ' H' => ∃ (a : Addr) (rs : List Row), σ' = [some (.ref u), some (.int sd), some (.int (0 + (i : Int))), some (.int wy), some (.ref a), x5, x6, x7, x8, x9, x10, x11, x12] ∧ 1 ≤ rs.length ∧ Lists K H' a rs ∧ Urn H' u ∧ But (· = u) H H') ?_ ?_
  · intro N hN
    refine ⟨_, rfl, rfl, _, rfl, ?_⟩
    by_cases c : wy = 0
    · refine iteB (decide_eq_true (congrArg V.int c)) ?_
      refine ⟨_, rfl, u, 2, rfl, by decide, by decide, u3, fun k H4 k0 k1 u4 b4 => ⟨rfl, _, rfl, ?_⟩⟩
      by_cases ck : k = 0
      · exact iteB (decide_eq_true (congrArg V.int ck)) ⟨_, rfl, u, 2, 8, rfl, by decide, by decide, u4, fun H5 a rs u5 b5 hl oks h8 hd => hN _ _ ⟨a, rs, rfl, by omega, ⟨hd, oks, h8, by omega⟩, u5, (b03.trans b4).trans b5⟩⟩
      · exact iteB' (decide_eq_false fun z => ck (by injection z)) ⟨_, rfl, u, 1, 8, rfl, by decide, by decide, u4, fun H5 a rs u5 b5 hl oks h8 hd => hN _ _ ⟨a, rs, rfl, by omega, ⟨hd, oks, h8, by omega⟩, u5, (b03.trans b4).trans b5⟩⟩
    · refine iteB' (decide_eq_false fun z => c (by injection z)) ?_
      obtain ⟨n, k, e1, e2, n1, n4, k8⟩ := way_at (wy := wy) (by omega) wy1
      refine ⟨_, rfl, by show 5 ≤ sizeLine; decide, fun l1 hl1 => ⟨_, rfl, _, _, rfl, rfl, l1, _, _, _, rfl, rfl, .of upd_same, e1, by show 5 ≤ sizeLine; decide, fun l2 hl2 => ⟨_, rfl, _, _, rfl, rfl, l2, _, _, _, rfl, rfl, .of upd_same, e2, ?_⟩⟩⟩
      exact ⟨u, n, k, rfl, n4, by omega, (u3.new hl1).new hl2, fun H5 a rs u5 b5 hl oks h8 hd => hN _ _ ⟨a, rs, rfl, by omega, ⟨hd, oks, fun r hr => by have := h8 r hr; omega, by omega⟩, u5, ((b03.new hl1).new hl2).trans b5⟩⟩
  clear u2 b2 u3 b3 b03
  rintro σ' H3 ⟨a, rs, rfl, h1, ls, u3, b3⟩
  obtain ⟨hd, oks, h8, h4⟩ := ls
  refine ⟨_, rfl, by show 5 ≤ sizeLine; decide, fun p hp => ?_⟩
  refine ⟨u, p, _, rfl, u3.ne hp, .of upd_same, by show 0 < 5; decide, by show 5 < 1073741824; decide, u3.new hp, fun j v H4 hv u4 b4 => ?_⟩
  obtain ⟨m', hm', rfl⟩ := ints_at (ns := [1, 1, 2, 3, 40]) hv
  obtain ⟨m, rfl, m1, m40⟩ : ∃ m : Nat, m' = m ∧ 1 ≤ m ∧ m ≤ 40 := ⟨m'.toNat, by simp at hm'; omega, by simp at hm'; omega, by simp at hm'; omega⟩
  have b34 : But (· = u) H3 H4 := (Same.new hp).but.trans b4
  have hd4 := Dp.keep (u3.tupK b34) _ _ (rows_imm rs) hd
  have b04 := b3.trans b34
  clear hp hv hm' b4 b34 hd b3 u3
  refine ⟨_, rfl, _, rfl, .ref a, rs, m, rfl, hd4, oks, h1, h4, h8, m1, m40, fun H5 es s5 few => ?_⟩
  refine ⟨_, rfl, u, 2, rfl, by decide, by decide, u4.same s5, fun nm H6 nm0 nm1 u6 b6 => ⟨rfl, _, _, rfl, ?_⟩⟩
  have hd5 := Dp.keep s5.tupK _ _ (rows_imm rs) hd4
  have hd6 := Dp.keep ((u4.same s5).tupK b6) _ _ (rows_imm rs) hd5
  have b06 := (b04.trans s5.but).trans b6
  clear b04 b6 u4 s5 hd4 hd5
  obtain ⟨isN, eN⟩ : ∃ isN : Bool, decide (V.int nm = V.int 0) = isN := ⟨_, rfl⟩
  rw [eN]
  dsimp only
  refine asg_by (fun v H' => ∃ (p : Addr) (fs : List Nat), v = .ref p ∧ Dp K H' (.ref p) (depD fs) ∧ Few rs m fs ∧ Same H6 H') ?_ ?_
  · intro Q' hQ
    refine ⟨_, rfl, _, rfl, ?_⟩
    cases isN with
    | true => exact iteB rfl ⟨_, rfl, _, rfl, .ref a, rs, m, rfl, hd6, oks, h1, h4, h8, m1, m40, fun H7 p fs s7 df few2 => hQ _ _ ⟨p, fs, rfl, df, few2, s7⟩⟩
    | false => exact iteB' rfl ⟨_, rfl, _, rfl, .ref a, rs, m, rfl, hd6, oks, h1, h4, h8, m1, m40, fun H7 p fs s7 df few2 => hQ _ _ ⟨p, fs, rfl, df, few2, s7⟩⟩
  rintro v H7 ⟨p, fs, rfl, df, few2, s7⟩
  have hd7 := Dp.keep s7.tupK _ _ (rows_imm rs) hd6
  have u7 := u6.same s7
  have b07 := b06.trans s7.but
  clear s7 hd6 u6 b06
  have esum := few.sum few2
  have e1000 : ∀ {gs : List Nat}, Few rs m gs → gs.sum ≤ 1000 := fun {gs} f => by
    have := sum_le_below (below_dep.mpr f.ok)
    have := sum_ends8 h8
    omega
  have SB := best_small oks m40
  have SE := (int_small (e1000 few)).one
  refine seq_by (fun σ' H' => σ' = [some (.ref u), some (.int sd), some (.int (0 + (i : Int))), some (.int wy), some (.ref a), some (.int (m : Int)), some (.int ((es.sum : Nat) : Int)), some (.bl isN), some (.ref p), x9, x10, x11, x12] ∧ Same H7 H') ?_ ?_
  · intro N hN
    have fin : ∀ (H8 : Hp) (gs : List Nat), Same H7 H8 → Few rs m gs → (decide (V.str (PyData.int ((gs.sum : Nat) : Int)).shown = V.str (PyData.int ((es.sum : Nat) : Int)).shown)) = true := fun H8 gs _ f => decide_eq_true (by rw [f.sum few])
    refine ⟨_, rfl, _, rfl, ?_⟩
    cases isN with
    | true =>
      refine iteB rfl ⟨_, rfl, _, rfl, .ref a, rs, m, rfl, hd7, oks, h1, h4, h8, m1, m40, fun H8 gs s8 f => ?_⟩
      have SG := (int_small (e1000 f)).one
      exact ⟨_, _, rfl, .inl (.int _), SG.1, SG.2.1, SG.2.2.1, SG.2.2.2, _, rfl, _, _, rfl, .inl (.int _), SE.1, SE.2.1, SE.2.2.1, SE.2.2.2, rfl, _, rfl, iteB' (by rw [fin H8 gs s8 f]; rfl) (hN _ _ ⟨rfl, s8⟩)⟩
    | false =>
      refine iteB' rfl ⟨_, rfl, _, rfl, .ref a, rs, m, rfl, hd7, oks, h1, h4, h8, m1, m40, fun H8 gs s8 f => ?_⟩
      have SG := (int_small (e1000 f)).one
      exact ⟨_, _, rfl, .inl (.int _), SG.1, SG.2.1, SG.2.2.1, SG.2.2.2, _, rfl, _, _, rfl, .inl (.int _), SE.1, SE.2.1, SE.2.2.1, SE.2.2.2, rfl, _, rfl, iteB' (by rw [fin H8 gs s8 f]; rfl) (hN _ _ ⟨rfl, s8⟩)⟩
  rintro σ' H8 ⟨rfl, s8⟩
  have hd8 := Dp.keep s8.tupK _ _ (rows_imm rs) hd7
  have df8 := Dp.keep s8.tupK _ _ (dep_imm fs) df
  have u8 := u7.same s8
  have b08 := b07.trans s8.but
  clear s8 hd7 df u7 b07
  refine ⟨_, rfl, by show 1 ≤ sizeLine; decide, fun t ht => ⟨t, rfl, ⟨_, .of upd_same⟩, ?_⟩⟩
  have n9 := Same.new (o := .tup [.ref p]) ht
  refine for_it (walk_tup (K := K) (a := t) (xs := [V.ref p])) (fun j σ H' => ∃ (x9 x10 : Option V), σ = [some (.ref u), some (.int sd), some (.int (0 + (i : Int))), some (.int wy), some (.ref a), some (.int (m : Int)), some (.int ((es.sum : Nat) : Int)), some (.bl isN), some (.ref p), x9, x10, x11, x12] ∧ H' t = some (.tup [.ref p]) ∧ Same H8 H')
    ⟨x9, x10, rfl, upd_same, n9⟩ (fun j σ H' _ h => by obtain ⟨_, _, _, k, _⟩ := h; exact .of k) ?_ ?_
  · rintro j y σ _ H9 hj ⟨y9, y10, rfl, et, k9⟩ ⟨rfl, hy⟩
    obtain rfl : j = 0 := by simpa using hj
    cases hy
    have hd9 := Dp.keep k9.tupK _ _ (rows_imm rs) hd8
    have df9 := Dp.keep k9.tupK _ _ (dep_imm fs) df8
    obtain ⟨p', ps, ep, sqp, dp⟩ := tup_at df9
    cases ep
    obtain rfl := dp_ints dp
    obtain ⟨a', xs, ea, sq, da⟩ := tup_at hd9
    cases ea
    obtain ⟨len, get⟩ := map_get da
    have fl := few2.ok.len
    refine ⟨_, rfl, _, _, _, _, true, rfl, .ty _, sqT_ty sqp, kt (by decide +kernel), _, rfl, iteF ?_⟩
    refine ⟨_, rfl, p, _, rfl, .inr sqp, _, rfl, a, xs, rfl, .inr sq, rfl, _, rfl, iteB' (by rw [List.length_map]; simp; omega) ?_⟩
    refine ⟨_, rfl, a, xs, rfl, .inr sq, ((xs.length : Nat) : Int), rfl, by omega, by omega, ?_⟩
    refine for_range (lo := 0) (n := ((xs.length : Nat) : Int).toNat) (fun k σ H' => ∃ (x10 : Option V), σ = [some (.ref u), some (.int sd), some (.int (0 + (i : Int))), some (.int wy), some (.ref a), some (.int (m : Int)), some (.int ((es.sum : Nat) : Int)), some (.bl isN), some (.ref p), some (.ref p), x10, x11, x12] ∧ H9 = H') ⟨y10, rfl, rfl⟩ ?_ ?_
    · rintro k σ H10 hk ⟨x10, rfl, rfl⟩
      have hk : k < xs.length := by omega
      obtain ⟨x, hx⟩ : ∃ x, xs[k]? = some x := ⟨_, List.getElem?_eq_getElem hk⟩
      obtain ⟨r, hr1, hr2⟩ := get k x hx
      obtain ⟨ra, rxs, rfl, rsq, rda⟩ := tup_at hr2
      obtain ⟨rlen, _⟩ := map_get rda
      obtain ⟨d, hd'⟩ : ∃ d, fs[k]? = some d := ⟨_, List.getElem?_eq_getElem (by omega)⟩
      have dle := few2.ok.le k r d hr1 hd'
      have hat : atI (fs.map fun d : Nat => V.int (d : Int)) (0 + (k : Int)) = some (.int (d : Int)) := by rw [Int.zero_add]; exact atI_nat (by rw [List.getElem?_map, hd']; rfl)
      have hat2 : atI xs (0 + (k : Int)) = some (.ref ra) := by rw [Int.zero_add]; exact atI_nat hx
      refine ⟨_, rfl, _, rfl, p, _, _, _, rfl, rfl, sqp, hat, _, _, _, _, true, rfl, .ty _, .base (.int _), kt (by decide +kernel), _, rfl, iteF ?_⟩
      refine ⟨_, rfl, _, rfl, p, _, _, _, rfl, rfl, sqp, hat, _, _, _, _, false, rfl, .ty _, .base (.int _), kt (by decide +kernel), _, rfl, iteF ?_⟩
      refine ⟨_, rfl, _, rfl, p, _, _, _, rfl, rfl, sqp, hat, _, _, rfl, rfl, _, rfl, iteB (decide_eq_true (by omega)) ?_⟩
      exact ⟨_, rfl, _, rfl, a, _, _, _, rfl, rfl, sq, hat2, ra, rxs, rfl, .inr rsq, _, _, rfl, rfl, _, rfl, iteB' (by simp; omega) ⟨_, rfl, rfl⟩⟩
    rintro σ H10 ⟨x10, rfl, rfl⟩
    refine ⟨_, rfl, p, _, rfl, dep_sq df9, _, rfl, rfl, _, rfl, iteB' (by rw [sum_cast, ← esum]; simp) ?_⟩
    refine ⟨_, rfl, _, rfl, _, rfl, .ref a, .ref p, rs, fs, m, rfl, hd9, df9, few2.ok, oks, h1, h4, m1, m40, fun H11 x s11 d11 => ?_⟩
    rw [few_some oks few2] at d11
    refine ⟨x, keysD (bestL rs m), rfl, .inl d11, SB.one.1, SB.one.2.1, SB.one.2.2.1, SB.one.2.2.2, ?_⟩
    have hd11 := Dp.keep s11.tupK _ _ (rows_imm rs) hd9
    refine ⟨_, rfl, _, rfl, .ref a, rs, m, rfl, hd11, oks, h1, h4, m1, m40, fun H12 bp s12 db => ?_⟩
    refine ⟨.ref bp, keysD (bestL rs m), rfl, .inl db, SB.one.1, SB.one.2.1, SB.one.2.2.1, SB.one.2.2.2, ?_⟩
    refine ⟨rfl, _, rfl, iteB' (by simp) ?_⟩
    have s912 := s11.trans s12
    refine ⟨_, rfl, _, rfl, _, rfl, .ref a, .ref p, rs, fs, m, rfl, Dp.keep s912.tupK _ _ (rows_imm rs) hd9, Dp.keep s912.tupK _ _ (dep_imm fs) df9, few2.ok, oks, h1, h4, m1, m40, fun H13 due s13 d13 => ⟨rfl, _, rfl, ?_⟩⟩
    rw [few_some oks few2] at d13
    obtain ⟨dp', rfl⟩ : ∃ dp, due = .ref dp := by
      cases d13
      exact ⟨_, rfl⟩
    have s913 := s912.trans s13
    have et13 : H13 t = some (.tup [.ref p]) := s913 _ _ et
    exact iteB' (by simp) ⟨_, _, rfl, et13, k9.trans s913⟩
  rintro σ H9 ⟨y9, y10, rfl, _, k9⟩
  have hd9 := Dp.keep k9.tupK _ _ (rows_imm rs) hd8
  have df9 := Dp.keep k9.tupK _ _ (dep_imm fs) df8
  have u9 := u8.same k9
  have b09 := b08.trans k9.but
  clear n9 ht k9 hd8 df8 u8 b08
  obtain ⟨a', xs, ea, sq, da⟩ := tup_at hd9
  cases ea
  obtain ⟨len, get⟩ := map_get da
  have fl := few2.ok.len
  refine ⟨_, rfl, _, rfl, a, xs, rfl, .inr sq, u, _, rfl, by omega, by omega, u9, fun at0 G1 a0 a1 v1 c1 => ?_⟩
  have T1 := u9.tupK c1
  obtain ⟨at1, rfl⟩ : ∃ at1 : Nat, at0 = at1 := ⟨at0.toNat, by omega⟩
  have hd1 := Dp.keep T1 _ _ (rows_imm rs) hd9
  have df1 := Dp.keep T1 _ _ (dep_imm fs) df9
  obtain ⟨p', ps, ep, sqp, dp⟩ := tup_at df1
  cases ep
  obtain rfl := dp_ints dp
  obtain ⟨d, hd'⟩ : ∃ d, fs[at1]? = some d := ⟨_, List.getElem?_eq_getElem (by omega)⟩
  have hym : (fs.map fun d : Nat => V.int (d : Int))[at1]? = some (.int (d : Int)) := by rw [List.getElem?_map, hd']; rfl
  refine ⟨_, rfl, _, rfl, _, rfl, p, _, rfl, sqp, fun p1 G2 s2 q1 => ?_⟩
  refine ⟨_, rfl, _, rfl, p, _, _, _, rfl, rfl, s2.sqT sqp, atI_nat hym, _, _, rfl, rfl, _, _, rfl, by show 1 ≤ sizeLine; decide, fun p2 hp2 => ?_⟩
  rw [cut_to] at q1
  have n3 := Same.new (o := .tup [.int (if (d : Int) - 1 > 0 then (d : Int) - 1 else 0)]) hp2
  refine ⟨p1, p2, _, _, rfl, rfl, n3.sqT q1, .of upd_same, ?_, fun p3 G3 s3 q3 => ?_⟩
  · rw [List.length_take, List.length_map]
    exact Nat.le_trans (show _ ≤ 5 by show min at1 fs.length + 1 ≤ 5; omega) (by decide)
  have s13 := (s2.trans n3).trans s3
  refine ⟨_, rfl, _, rfl, _, _, rfl, rfl, _, rfl, p, _, rfl, s13.sqT sqp, fun p4 G4 s4 q4 => ?_⟩
  rw [show ((at1 : Int) + 1) = ((at1 + 1 : Nat) : Int) by omega, cut_from] at q4
  refine ⟨p3, p4, _, _, rfl, rfl, s4.sqT q3, q4, ?_, fun p5 G5 s5 q5 => ?_⟩
  · rw [List.length_append, List.length_take, List.length_drop, List.length_map]
    exact Nat.le_trans (show _ ≤ 9 by show min at1 fs.length + 1 + (fs.length - (at1 + 1)) ≤ 9; omega) (by decide)
  have s15 := (s13.trans s4).trans s5
  have hset : Dp K G5 (.ref p5) (depD (fs.set at1 (d - 1))) := by
    refine .tup q5 ?_
    have e : fs.set at1 (d - 1) = fs.take at1 ++ [d - 1] ++ fs.drop (at1 + 1) := by
      rw [List.set_eq_take_append_cons_drop, if_pos (by omega)]
      simp
    have e2 : (if (d : Int) - 1 > 0 then (d : Int) - 1 else 0) = ((d - 1 : Nat) : Int) := by split <;> omega
    rw [e, List.map_append, List.map_append, ← List.map_take, ← List.map_drop]
    refine DpAll.app (DpAll.app (dpAll_nats _) (.cons ?_ .nil)) (dpAll_nats _)
    show Dp K G5 (.int (if (d : Int) - 1 > 0 then (d : Int) - 1 else 0)) (natD (d - 1))
    rw [e2]
    exact .int _
  refine ⟨_, rfl, _, rfl, p, _, _, _, rfl, rfl, s15.sqT sqp, atI_nat hym, _, _, rfl, rfl, _, rfl, ?_⟩
  by_cases c : 0 < d
  · refine iteB (decide_eq_true (by omega)) ?_
    refine ⟨_, rfl, _, rfl, _, rfl, .ref a, .ref p5, rs, fs.set at1 (d - 1), m, rfl, Dp.keep s15.tupK _ _ (rows_imm rs) hd1, hset, set_dep few2.ok hd', oks, h1, h4, m1, m40, fun G6 due s6 d6 => ⟨rfl, _, rfl, ?_⟩⟩
    rw [few2.no _ (set_dep few2.ok hd') (set_less hd' c)] at d6
    cases d6
    have s16 := s15.trans s6
    exact iteB' (by simp) ⟨_, _, _, _, _, _, _, _, _, _, _, rfl, v1.same s16, (b09.trans c1).trans s16.but⟩
  · exact iteB' (decide_eq_false (by omega)) (iteF ⟨_, _, _, _, _, _, _, _, _, _, _, rfl, v1.same s15, (b09.trans c1).trans s15.but⟩)
end
end K71
set_option pp.maxSteps 1200
namespace K71
open PySem PySem.Spec PyProof.Rows L2
def spLaw (K : PySem.W.Frag) : Sp := fun vs H Q _ => ∃ (a : Addr) (ns : List Int), vs = [.ref a] ∧ SqL K H a (ns.map V.int) ∧ ns.length ≤ 63 ∧ ∀ H', Q (.bl true) H'
section
variable {P : Program} {w : World} {K : PySem.W.Frag} {mg : Str → Option Value} {base : Heap}
theorem ok_law (T : Txt P K mg) : FnG P w K mg base CX0 12 T.f_law T.d_law ["script"] (spLaw K) := by
  refine T.F_law.okG sc_law (fun vs H Q E h => by obtain ⟨a, ns, rfl, _⟩ := h; rfl) (fun cdv A outer s H vs Q E gd hr h => ⟨_, (pss_one (ps_ret (pe_callG (by exact gd) (ok_law_right T) (hr.mono (by omega)) rfl T.g__law_right T.F_law_right.kp T.b_law_right .nil pass0 (pa_cons (pe_call (ok_law_urn T) (hr.mono (by omega)) rfl T.g__law_urn T.F_law_urn.kp T.b_law_urn .nil pass0 (pa_cons (pv 0) (pa_cons pe_int pa_nil))) pa_nil)))), ?_⟩)
  obtain ⟨a, ns, rfl, hS, hlen, q⟩ := h
  exact ⟨_, rfl, a, ns, 0, rfl, by omega, hS, fun u H2 s2 hu urn => ⟨u, rfl, urn, fun H3 k3 => q H3⟩⟩
end
theorem kb_fewest_looks_many_lists {K : PySem.W.Frag} {kV dc pm cd ct : Value} {an : Option Addr} : KBinds K (PySem.W.fnOf "fewest_looks" "fewest_looks" (defArgs s_fewest_looks) (defBody s_fewest_looks) (defScope s_fewest_looks) .none kV dc pm an cd ct) ["lists", "many"] ["many", "lists"] (fun us ws => kbP 0 2 [1, 0] us ws) (fun us ws => kbP 0 2 [1, 0] us ws) where
  to := fun s us ws _ hl => by
    obtain ⟨h1, h2⟩ := kbP_len hl (by decide)
    match us, h1, ws, h2 with
    | [], _, [_, _], _ => exact .of_eq rfl
  rel := fun a b => kbP_rel a b
theorem kb_any_fewest_many_lists {K : PySem.W.Frag} {kV dc pm cd ct : Value} {an : Option Addr} : KBinds K (PySem.W.fnOf "any_fewest" "any_fewest" (defArgs s_any_fewest) (defBody s_any_fewest) (defScope s_any_fewest) .none kV dc pm an cd ct) ["lists", "many"] ["many", "lists"] (fun us ws => kbP 0 2 [1, 0] us ws) (fun us ws => kbP 0 2 [1, 0] us ws) where
  to := fun s us ws _ hl => by
    obtain ⟨h1, h2⟩ := kbP_len hl (by decide)
    match us, h1, ws, h2 with
    | [], _, [_, _], _ => exact .of_eq rfl
  rel := fun a b => kbP_rel a b
theorem txt_mk {P : Program} {K : PySem.W.Frag} {h : Heap} {mg : Str → Option Value} {f_is_whole f_is_number f_is_key f_is_tuple_of f_is_ascending f_check_number f_check_many f_bound_of f_read_by f_sums_by f_beats f_turns_of f_strangers f_known_keys f_settled_by f_depths_of f_fewest_by f_is_pair f_is_list f_check_lists f_check_depths f_check_short f_settled f_fewest_looks f_any_fewest f_law_urn f_law_take f_law_of f_law_first f_law_lists f_law_bound f_law_sums f_law_best f_law_others f_law_settled f_law_all_depths f_law_fewest f_law_led_lists f_law_great_right f_law_right f_law : Addr} {od_is_whole an_is_whole od_is_number an_is_number od_is_key an_is_key od_is_tuple_of an_is_tuple_of od_is_ascending an_is_ascending od_check_number an_check_number od_check_many an_check_many od_bound_of an_bound_of od_read_by an_read_by od_sums_by an_sums_by od_beats an_beats od_turns_of an_turns_of od_strangers an_strangers od_known_keys an_known_keys od_settled_by an_settled_by od_depths_of an_depths_of od_fewest_by an_fewest_by od_is_pair an_is_pair od_is_list an_is_list od_check_lists an_check_lists od_check_depths an_check_depths od_check_short an_check_short od_settled an_settled od_fewest_looks an_fewest_looks od_any_fewest an_any_fewest od_law_urn an_law_urn od_law_take an_law_take od_law_of an_law_of od_law_first an_law_first od_law_lists an_law_lists od_law_bound an_law_bound od_law_sums an_law_sums od_law_best an_law_best od_law_others an_law_others od_law_settled an_law_settled od_law_all_depths an_law_all_depths od_law_fewest an_law_fewest od_law_led_lists an_law_led_lists od_law_great_right an_law_great_right od_law_right an_law_right od_law an_law : Option Addr} {sl_is_whole sl_is_number sl_is_key sl_is_tuple_of sl_is_ascending sl_check_number sl_check_many sl_bound_of sl_read_by sl_sums_by sl_beats sl_turns_of sl_strangers sl_known_keys sl_settled_by sl_depths_of sl_fewest_by sl_is_pair sl_is_list sl_check_lists sl_check_depths sl_check_short sl_settled sl_fewest_looks sl_any_fewest sl_law_urn sl_law_take sl_law_of sl_law_first sl_law_lists sl_law_bound sl_law_sums sl_law_best sl_law_others sl_law_settled sl_law_all_depths sl_law_fewest sl_law_led_lists sl_law_great_right sl_law_right sl_law : Array (Option Value)} {oc_is_whole kV_is_whole dc_is_whole pm_is_whole cd_is_whole ct_is_whole oc_is_number kV_is_number dc_is_number pm_is_number cd_is_number ct_is_number oc_is_key kV_is_key dc_is_key pm_is_key cd_is_key ct_is_key oc_is_tuple_of kV_is_tuple_of dc_is_tuple_of pm_is_tuple_of cd_is_tuple_of ct_is_tuple_of oc_is_ascending kV_is_ascending dc_is_ascending pm_is_ascending cd_is_ascending ct_is_ascending oc_check_number kV_check_number dc_check_number pm_check_number cd_check_number ct_check_number oc_check_many kV_check_many dc_check_many pm_check_many cd_check_many ct_check_many oc_bound_of kV_bound_of dc_bound_of pm_bound_of cd_bound_of ct_bound_of oc_read_by kV_read_by dc_read_by pm_read_by cd_read_by ct_read_by oc_sums_by kV_sums_by dc_sums_by pm_sums_by cd_sums_by ct_sums_by oc_beats kV_beats dc_beats pm_beats cd_beats ct_beats oc_turns_of kV_turns_of dc_turns_of pm_turns_of cd_turns_of ct_turns_of oc_strangers kV_strangers dc_strangers pm_strangers cd_strangers ct_strangers oc_known_keys kV_known_keys dc_known_keys pm_known_keys cd_known_keys ct_known_keys oc_settled_by kV_settled_by dc_settled_by pm_settled_by cd_settled_by ct_settled_by oc_depths_of kV_depths_of dc_depths_of pm_depths_of cd_depths_of ct_depths_of oc_fewest_by kV_fewest_by dc_fewest_by pm_fewest_by cd_fewest_by ct_fewest_by oc_is_pair kV_is_pair dc_is_pair pm_is_pair cd_is_pair ct_is_pair oc_is_list kV_is_list dc_is_list pm_is_list cd_is_list ct_is_list oc_check_lists kV_check_lists dc_check_lists pm_check_lists cd_check_lists ct_check_lists oc_check_depths kV_check_depths dc_check_depths pm_check_depths cd_check_depths ct_check_depths oc_check_short kV_check_short dc_check_short pm_check_short cd_check_short ct_check_short oc_settled kV_settled dc_settled pm_settled cd_settled ct_settled oc_fewest_looks kV_fewest_looks dc_fewest_looks pm_fewest_looks cd_fewest_looks ct_fewest_looks oc_any_fewest kV_any_fewest dc_any_fewest pm_any_fewest cd_any_fewest ct_any_fewest oc_law_urn kV_law_urn dc_law_urn pm_law_urn cd_law_urn ct_law_urn oc_law_take kV_law_take dc_law_take pm_law_take cd_law_take ct_law_take oc_law_of kV_law_of dc_law_of pm_law_of cd_law_of ct_law_of oc_law_first kV_law_first dc_law_first pm_law_first cd_law_first ct_law_first oc_law_lists kV_law_lists dc_law_lists pm_law_lists cd_law_lists ct_law_lists oc_law_bound kV_law_bound dc_law_bound pm_law_bound cd_law_bound ct_law_bound oc_law_sums kV_law_sums dc_law_sums pm_law_sums cd_law_sums ct_law_sums oc_law_best kV_law_best dc_law_best pm_law_best cd_law_best ct_law_best oc_law_others kV_law_others dc_law_others pm_law_others cd_law_others ct_law_others oc_law_settled kV_law_settled dc_law_settled pm_law_settled cd_law_settled ct_law_settled oc_law_all_depths kV_law_all_depths dc_law_all_depths pm_law_all_depths cd_law_all_depths ct_law_all_depths oc_law_fewest kV_law_fewest dc_law_fewest pm_law_fewest cd_law_fewest ct_law_fewest oc_law_led_lists kV_law_led_lists dc_law_led_lists pm_law_led_lists cd_law_led_lists ct_law_led_lists oc_law_great_right kV_law_great_right dc_law_great_right pm_law_great_right cd_law_great_right ct_law_great_right oc_law_right kV_law_right dc_law_right pm_law_right cd_law_right ct_law_right oc_law kV_law dc_law pm_law cd_law ct_law : Value}
    {t_MOST_KEY : Tok} {t_MOST_ROWS : Tok} {t_MOST_POINTS : Tok} {t_MOST_LISTS : Tok} {t_MOST_PAIRS : Tok} {t_MOST_LONG : Tok} (X : K.In h) (G : h.Ns mainGlobals mg)
    (a_is_whole : PySem.W.nsIn K mainGlobals "is_whole" = some (some (.ref f_is_whole)))
    (l_is_whole : K.lookup f_is_whole = some ⟨oc_is_whole, od_is_whole, .func (PySem.W.fnOf "is_whole" "is_whole" (defArgs s_is_whole) (defBody s_is_whole) (defScope s_is_whole) .none kV_is_whole dc_is_whole pm_is_whole an_is_whole cd_is_whole ct_is_whole), sl_is_whole⟩)
    (c_is_whole : PySem.W.codeIn K cd_is_whole "is_whole" = true)
    (k_is_whole : PySem.W.keepIn K (.ref f_is_whole) = true)
    (a_is_number : PySem.W.nsIn K mainGlobals "is_number" = some (some (.ref f_is_number)))
    (l_is_number : K.lookup f_is_number = some ⟨oc_is_number, od_is_number, .func (PySem.W.fnOf "is_number" "is_number" (defArgs s_is_number) (defBody s_is_number) (defScope s_is_number) .none kV_is_number dc_is_number pm_is_number an_is_number cd_is_number ct_is_number), sl_is_number⟩)
    (c_is_number : PySem.W.codeIn K cd_is_number "is_number" = true)
    (k_is_number : PySem.W.keepIn K (.ref f_is_number) = true)
    (a_is_key : PySem.W.nsIn K mainGlobals "is_key" = some (some (.ref f_is_key)))
    (l_is_key : K.lookup f_is_key = some ⟨oc_is_key, od_is_key, .func (PySem.W.fnOf "is_key" "is_key" (defArgs s_is_key) (defBody s_is_key) (defScope s_is_key) .none kV_is_key dc_is_key pm_is_key an_is_key cd_is_key ct_is_key), sl_is_key⟩)
    (c_is_key : PySem.W.codeIn K cd_is_key "is_key" = true)
    (k_is_key : PySem.W.keepIn K (.ref f_is_key) = true)
    (a_is_tuple_of : PySem.W.nsIn K mainGlobals "is_tuple_of" = some (some (.ref f_is_tuple_of)))
    (l_is_tuple_of : K.lookup f_is_tuple_of = some ⟨oc_is_tuple_of, od_is_tuple_of, .func (PySem.W.fnOf "is_tuple_of" "is_tuple_of" (defArgs s_is_tuple_of) (defBody s_is_tuple_of) (defScope s_is_tuple_of) .none kV_is_tuple_of dc_is_tuple_of pm_is_tuple_of an_is_tuple_of cd_is_tuple_of ct_is_tuple_of), sl_is_tuple_of⟩)
    (c_is_tuple_of : PySem.W.codeIn K cd_is_tuple_of "is_tuple_of" = true)
    (k_is_tuple_of : PySem.W.keepIn K (.ref f_is_tuple_of) = true)
    (a_is_ascending : PySem.W.nsIn K mainGlobals "is_ascending" = some (some (.ref f_is_ascending)))
    (l_is_ascending : K.lookup f_is_ascending = some ⟨oc_is_ascending, od_is_ascending, .func (PySem.W.fnOf "is_ascending" "is_ascending" (defArgs s_is_ascending) (defBody s_is_ascending) (defScope s_is_ascending) .none kV_is_ascending dc_is_ascending pm_is_ascending an_is_ascending cd_is_ascending ct_is_ascending), sl_is_ascending⟩)
    (c_is_ascending : PySem.W.codeIn K cd_is_ascending "is_ascending" = true)
    (k_is_ascending : PySem.W.keepIn K (.ref f_is_ascending) = true)
    (a_check_number : PySem.W.nsIn K mainGlobals "check_number" = some (some (.ref f_check_number)))
    (l_check_number : K.lookup f_check_number = some ⟨oc_check_number, od_check_number, .func (PySem.W.fnOf "check_number" "check_number" (defArgs s_check_number) (defBody s_check_number) (defScope s_check_number) .none kV_check_number dc_check_number pm_check_number an_check_number cd_check_number ct_check_number), sl_check_number⟩)
    (c_check_number : PySem.W.codeIn K cd_check_number "check_number" = true)
    (k_check_number : PySem.W.keepIn K (.ref f_check_number) = true)
    (a_check_many : PySem.W.nsIn K mainGlobals "check_many" = some (some (.ref f_check_many)))
    (l_check_many : K.lookup f_check_many = some ⟨oc_check_many, od_check_many, .func (PySem.W.fnOf "check_many" "check_many" (defArgs s_check_many) (defBody s_check_many) (defScope s_check_many) .none kV_check_many dc_check_many pm_check_many an_check_many cd_check_many ct_check_many), sl_check_many⟩)
    (c_check_many : PySem.W.codeIn K cd_check_many "check_many" = true)
    (k_check_many : PySem.W.keepIn K (.ref f_check_many) = true)
    (a_bound_of : PySem.W.nsIn K mainGlobals "bound_of" = some (some (.ref f_bound_of)))
    (l_bound_of : K.lookup f_bound_of = some ⟨oc_bound_of, od_bound_of, .func (PySem.W.fnOf "bound_of" "bound_of" (defArgs s_bound_of) (defBody s_bound_of) (defScope s_bound_of) .none kV_bound_of dc_bound_of pm_bound_of an_bound_of cd_bound_of ct_bound_of), sl_bound_of⟩)
    (c_bound_of : PySem.W.codeIn K cd_bound_of "bound_of" = true)
    (k_bound_of : PySem.W.keepIn K (.ref f_bound_of) = true)
    (a_read_by : PySem.W.nsIn K mainGlobals "read_by" = some (some (.ref f_read_by)))
    (l_read_by : K.lookup f_read_by = some ⟨oc_read_by, od_read_by, .func (PySem.W.fnOf "read_by" "read_by" (defArgs s_read_by) (defBody s_read_by) (defScope s_read_by) .none kV_read_by dc_read_by pm_read_by an_read_by cd_read_by ct_read_by), sl_read_by⟩)
    (c_read_by : PySem.W.codeIn K cd_read_by "read_by" = true)
    (k_read_by : PySem.W.keepIn K (.ref f_read_by) = true)
    (a_sums_by : PySem.W.nsIn K mainGlobals "sums_by" = some (some (.ref f_sums_by)))
    (l_sums_by : K.lookup f_sums_by = some ⟨oc_sums_by, od_sums_by, .func (PySem.W.fnOf "sums_by" "sums_by" (defArgs s_sums_by) (defBody s_sums_by) (defScope s_sums_by) .none kV_sums_by dc_sums_by pm_sums_by an_sums_by cd_sums_by ct_sums_by), sl_sums_by⟩)
    (c_sums_by : PySem.W.codeIn K cd_sums_by "sums_by" = true)
    (k_sums_by : PySem.W.keepIn K (.ref f_sums_by) = true)
    (a_beats : PySem.W.nsIn K mainGlobals "beats" = some (some (.ref f_beats)))
    (l_beats : K.lookup f_beats = some ⟨oc_beats, od_beats, .func (PySem.W.fnOf "beats" "beats" (defArgs s_beats) (defBody s_beats) (defScope s_beats) .none kV_beats dc_beats pm_beats an_beats cd_beats ct_beats), sl_beats⟩)
    (c_beats : PySem.W.codeIn K cd_beats "beats" = true)
    (k_beats : PySem.W.keepIn K (.ref f_beats) = true)
    (a_turns_of : PySem.W.nsIn K mainGlobals "turns_of" = some (some (.ref f_turns_of)))
    (l_turns_of : K.lookup f_turns_of = some ⟨oc_turns_of, od_turns_of, .func (PySem.W.fnOf "turns_of" "turns_of" (defArgs s_turns_of) (defBody s_turns_of) (defScope s_turns_of) .none kV_turns_of dc_turns_of pm_turns_of an_turns_of cd_turns_of ct_turns_of), sl_turns_of⟩)
    (c_turns_of : PySem.W.codeIn K cd_turns_of "turns_of" = true)
    (k_turns_of : PySem.W.keepIn K (.ref f_turns_of) = true)
    (a_strangers : PySem.W.nsIn K mainGlobals "strangers" = some (some (.ref f_strangers)))
    (l_strangers : K.lookup f_strangers = some ⟨oc_strangers, od_strangers, .func (PySem.W.fnOf "strangers" "strangers" (defArgs s_strangers) (defBody s_strangers) (defScope s_strangers) .none kV_strangers dc_strangers pm_strangers an_strangers cd_strangers ct_strangers), sl_strangers⟩)
    (c_strangers : PySem.W.codeIn K cd_strangers "strangers" = true)
    (k_strangers : PySem.W.keepIn K (.ref f_strangers) = true)
    (a_known_keys : PySem.W.nsIn K mainGlobals "known_keys" = some (some (.ref f_known_keys)))
    (l_known_keys : K.lookup f_known_keys = some ⟨oc_known_keys, od_known_keys, .func (PySem.W.fnOf "known_keys" "known_keys" (defArgs s_known_keys) (defBody s_known_keys) (defScope s_known_keys) .none kV_known_keys dc_known_keys pm_known_keys an_known_keys cd_known_keys ct_known_keys), sl_known_keys⟩)
    (c_known_keys : PySem.W.codeIn K cd_known_keys "known_keys" = true)
    (k_known_keys : PySem.W.keepIn K (.ref f_known_keys) = true)
    (a_settled_by : PySem.W.nsIn K mainGlobals "settled_by" = some (some (.ref f_settled_by)))
    (l_settled_by : K.lookup f_settled_by = some ⟨oc_settled_by, od_settled_by, .func (PySem.W.fnOf "settled_by" "settled_by" (defArgs s_settled_by) (defBody s_settled_by) (defScope s_settled_by) .none kV_settled_by dc_settled_by pm_settled_by an_settled_by cd_settled_by ct_settled_by), sl_settled_by⟩)
    (c_settled_by : PySem.W.codeIn K cd_settled_by "settled_by" = true)
    (k_settled_by : PySem.W.keepIn K (.ref f_settled_by) = true)
    (a_depths_of : PySem.W.nsIn K mainGlobals "depths_of" = some (some (.ref f_depths_of)))
    (l_depths_of : K.lookup f_depths_of = some ⟨oc_depths_of, od_depths_of, .func (PySem.W.fnOf "depths_of" "depths_of" (defArgs s_depths_of) (defBody s_depths_of) (defScope s_depths_of) .none kV_depths_of dc_depths_of pm_depths_of an_depths_of cd_depths_of ct_depths_of), sl_depths_of⟩)
    (c_depths_of : PySem.W.codeIn K cd_depths_of "depths_of" = true)
    (k_depths_of : PySem.W.keepIn K (.ref f_depths_of) = true)
    (a_fewest_by : PySem.W.nsIn K mainGlobals "fewest_by" = some (some (.ref f_fewest_by)))
    (l_fewest_by : K.lookup f_fewest_by = some ⟨oc_fewest_by, od_fewest_by, .func (PySem.W.fnOf "fewest_by" "fewest_by" (defArgs s_fewest_by) (defBody s_fewest_by) (defScope s_fewest_by) .none kV_fewest_by dc_fewest_by pm_fewest_by an_fewest_by cd_fewest_by ct_fewest_by), sl_fewest_by⟩)
    (c_fewest_by : PySem.W.codeIn K cd_fewest_by "fewest_by" = true)
    (k_fewest_by : PySem.W.keepIn K (.ref f_fewest_by) = true)
    (a_is_pair : PySem.W.nsIn K mainGlobals "is_pair" = some (some (.ref f_is_pair)))
    (l_is_pair : K.lookup f_is_pair = some ⟨oc_is_pair, od_is_pair, .func (PySem.W.fnOf "is_pair" "is_pair" (defArgs s_is_pair) (defBody s_is_pair) (defScope s_is_pair) .none kV_is_pair dc_is_pair pm_is_pair an_is_pair cd_is_pair ct_is_pair), sl_is_pair⟩)
    (c_is_pair : PySem.W.codeIn K cd_is_pair "is_pair" = true)
    (k_is_pair : PySem.W.keepIn K (.ref f_is_pair) = true)
    (a_is_list : PySem.W.nsIn K mainGlobals "is_list" = some (some (.ref f_is_list)))
    (l_is_list : K.lookup f_is_list = some ⟨oc_is_list, od_is_list, .func (PySem.W.fnOf "is_list" "is_list" (defArgs s_is_list) (defBody s_is_list) (defScope s_is_list) .none kV_is_list dc_is_list pm_is_list an_is_list cd_is_list ct_is_list), sl_is_list⟩)
    (c_is_list : PySem.W.codeIn K cd_is_list "is_list" = true)
    (k_is_list : PySem.W.keepIn K (.ref f_is_list) = true)
    (a_check_lists : PySem.W.nsIn K mainGlobals "check_lists" = some (some (.ref f_check_lists)))
    (l_check_lists : K.lookup f_check_lists = some ⟨oc_check_lists, od_check_lists, .func (PySem.W.fnOf "check_lists" "check_lists" (defArgs s_check_lists) (defBody s_check_lists) (defScope s_check_lists) .none kV_check_lists dc_check_lists pm_check_lists an_check_lists cd_check_lists ct_check_lists), sl_check_lists⟩)
    (c_check_lists : PySem.W.codeIn K cd_check_lists "check_lists" = true)
    (k_check_lists : PySem.W.keepIn K (.ref f_check_lists) = true)
    (a_check_depths : PySem.W.nsIn K mainGlobals "check_depths" = some (some (.ref f_check_depths)))
    (l_check_depths : K.lookup f_check_depths = some ⟨oc_check_depths, od_check_depths, .func (PySem.W.fnOf "check_depths" "check_depths" (defArgs s_check_depths) (defBody s_check_depths) (defScope s_check_depths) .none kV_check_depths dc_check_depths pm_check_depths an_check_depths cd_check_depths ct_check_depths), sl_check_depths⟩)
    (c_check_depths : PySem.W.codeIn K cd_check_depths "check_depths" = true)
    (k_check_depths : PySem.W.keepIn K (.ref f_check_depths) = true)
    (a_check_short : PySem.W.nsIn K mainGlobals "check_short" = some (some (.ref f_check_short)))
    (l_check_short : K.lookup f_check_short = some ⟨oc_check_short, od_check_short, .func (PySem.W.fnOf "check_short" "check_short" (defArgs s_check_short) (defBody s_check_short) (defScope s_check_short) .none kV_check_short dc_check_short pm_check_short an_check_short cd_check_short ct_check_short), sl_check_short⟩)
    (c_check_short : PySem.W.codeIn K cd_check_short "check_short" = true)
    (k_check_short : PySem.W.keepIn K (.ref f_check_short) = true)
    (a_settled : PySem.W.nsIn K mainGlobals "settled" = some (some (.ref f_settled)))
    (l_settled : K.lookup f_settled = some ⟨oc_settled, od_settled, .func (PySem.W.fnOf "settled" "settled" (defArgs s_settled) (defBody s_settled) (defScope s_settled) .none kV_settled dc_settled pm_settled an_settled cd_settled ct_settled), sl_settled⟩)
    (c_settled : PySem.W.codeIn K cd_settled "settled" = true)
    (k_settled : PySem.W.keepIn K (.ref f_settled) = true)
    (a_fewest_looks : PySem.W.nsIn K mainGlobals "fewest_looks" = some (some (.ref f_fewest_looks)))
    (l_fewest_looks : K.lookup f_fewest_looks = some ⟨oc_fewest_looks, od_fewest_looks, .func (PySem.W.fnOf "fewest_looks" "fewest_looks" (defArgs s_fewest_looks) (defBody s_fewest_looks) (defScope s_fewest_looks) .none kV_fewest_looks dc_fewest_looks pm_fewest_looks an_fewest_looks cd_fewest_looks ct_fewest_looks), sl_fewest_looks⟩)
    (c_fewest_looks : PySem.W.codeIn K cd_fewest_looks "fewest_looks" = true)
    (k_fewest_looks : PySem.W.keepIn K (.ref f_fewest_looks) = true)
    (a_any_fewest : PySem.W.nsIn K mainGlobals "any_fewest" = some (some (.ref f_any_fewest)))
    (l_any_fewest : K.lookup f_any_fewest = some ⟨oc_any_fewest, od_any_fewest, .func (PySem.W.fnOf "any_fewest" "any_fewest" (defArgs s_any_fewest) (defBody s_any_fewest) (defScope s_any_fewest) .none kV_any_fewest dc_any_fewest pm_any_fewest an_any_fewest cd_any_fewest ct_any_fewest), sl_any_fewest⟩)
    (c_any_fewest : PySem.W.codeIn K cd_any_fewest "any_fewest" = true)
    (k_any_fewest : PySem.W.keepIn K (.ref f_any_fewest) = true)
    (a_law_urn : PySem.W.nsIn K mainGlobals "_law_urn" = some (some (.ref f_law_urn)))
    (l_law_urn : K.lookup f_law_urn = some ⟨oc_law_urn, od_law_urn, .func (PySem.W.fnOf "_law_urn" "_law_urn" (defArgs s_law_urn) (defBody s_law_urn) (defScope s_law_urn) .none kV_law_urn dc_law_urn pm_law_urn an_law_urn cd_law_urn ct_law_urn), sl_law_urn⟩)
    (c_law_urn : PySem.W.codeIn K cd_law_urn "_law_urn" = true)
    (k_law_urn : PySem.W.keepIn K (.ref f_law_urn) = true)
    (a_law_take : PySem.W.nsIn K mainGlobals "_law_take" = some (some (.ref f_law_take)))
    (l_law_take : K.lookup f_law_take = some ⟨oc_law_take, od_law_take, .func (PySem.W.fnOf "_law_take" "_law_take" (defArgs s_law_take) (defBody s_law_take) (defScope s_law_take) .none kV_law_take dc_law_take pm_law_take an_law_take cd_law_take ct_law_take), sl_law_take⟩)
    (c_law_take : PySem.W.codeIn K cd_law_take "_law_take" = true)
    (k_law_take : PySem.W.keepIn K (.ref f_law_take) = true)
    (a_law_of : PySem.W.nsIn K mainGlobals "_law_of" = some (some (.ref f_law_of)))
    (l_law_of : K.lookup f_law_of = some ⟨oc_law_of, od_law_of, .func (PySem.W.fnOf "_law_of" "_law_of" (defArgs s_law_of) (defBody s_law_of) (defScope s_law_of) .none kV_law_of dc_law_of pm_law_of an_law_of cd_law_of ct_law_of), sl_law_of⟩)
    (c_law_of : PySem.W.codeIn K cd_law_of "_law_of" = true)
    (k_law_of : PySem.W.keepIn K (.ref f_law_of) = true)
    (a_law_first : PySem.W.nsIn K mainGlobals "_law_first" = some (some (.ref f_law_first)))
    (l_law_first : K.lookup f_law_first = some ⟨oc_law_first, od_law_first, .func (PySem.W.fnOf "_law_first" "_law_first" (defArgs s_law_first) (defBody s_law_first) (defScope s_law_first) .none kV_law_first dc_law_first pm_law_first an_law_first cd_law_first ct_law_first), sl_law_first⟩)
    (c_law_first : PySem.W.codeIn K cd_law_first "_law_first" = true)
    (k_law_first : PySem.W.keepIn K (.ref f_law_first) = true)
    (a_law_lists : PySem.W.nsIn K mainGlobals "_law_lists" = some (some (.ref f_law_lists)))
    (l_law_lists : K.lookup f_law_lists = some ⟨oc_law_lists, od_law_lists, .func (PySem.W.fnOf "_law_lists" "_law_lists" (defArgs s_law_lists) (defBody s_law_lists) (defScope s_law_lists) .none kV_law_lists dc_law_lists pm_law_lists an_law_lists cd_law_lists ct_law_lists), sl_law_lists⟩)
    (c_law_lists : PySem.W.codeIn K cd_law_lists "_law_lists" = true)
    (k_law_lists : PySem.W.keepIn K (.ref f_law_lists) = true)
    (a_law_bound : PySem.W.nsIn K mainGlobals "_law_bound" = some (some (.ref f_law_bound)))
    (l_law_bound : K.lookup f_law_bound = some ⟨oc_law_bound, od_law_bound, .func (PySem.W.fnOf "_law_bound" "_law_bound" (defArgs s_law_bound) (defBody s_law_bound) (defScope s_law_bound) .none kV_law_bound dc_law_bound pm_law_bound an_law_bound cd_law_bound ct_law_bound), sl_law_bound⟩)
    (c_law_bound : PySem.W.codeIn K cd_law_bound "_law_bound" = true)
    (k_law_bound : PySem.W.keepIn K (.ref f_law_bound) = true)
    (a_law_sums : PySem.W.nsIn K mainGlobals "_law_sums" = some (some (.ref f_law_sums)))
    (l_law_sums : K.lookup f_law_sums = some ⟨oc_law_sums, od_law_sums, .func (PySem.W.fnOf "_law_sums" "_law_sums" (defArgs s_law_sums) (defBody s_law_sums) (defScope s_law_sums) .none kV_law_sums dc_law_sums pm_law_sums an_law_sums cd_law_sums ct_law_sums), sl_law_sums⟩)
    (c_law_sums : PySem.W.codeIn K cd_law_sums "_law_sums" = true)
    (k_law_sums : PySem.W.keepIn K (.ref f_law_sums) = true)
    (a_law_best : PySem.W.nsIn K mainGlobals "_law_best" = some (some (.ref f_law_best)))
    (l_law_best : K.lookup f_law_best = some ⟨oc_law_best, od_law_best, .func (PySem.W.fnOf "_law_best" "_law_best" (defArgs s_law_best) (defBody s_law_best) (defScope s_law_best) .none kV_law_best dc_law_best pm_law_best an_law_best cd_law_best ct_law_best), sl_law_best⟩)
    (c_law_best : PySem.W.codeIn K cd_law_best "_law_best" = true)
    (k_law_best : PySem.W.keepIn K (.ref f_law_best) = true)
    (a_law_others : PySem.W.nsIn K mainGlobals "_law_others" = some (some (.ref f_law_others)))
    (l_law_others : K.lookup f_law_others = some ⟨oc_law_others, od_law_others, .func (PySem.W.fnOf "_law_others" "_law_others" (defArgs s_law_others) (defBody s_law_others) (defScope s_law_others) .none kV_law_others dc_law_others pm_law_others an_law_others cd_law_others ct_law_others), sl_law_others⟩)
    (c_law_others : PySem.W.codeIn K cd_law_others "_law_others" = true)
    (k_law_others : PySem.W.keepIn K (.ref f_law_others) = true)
    (a_law_settled : PySem.W.nsIn K mainGlobals "_law_settled" = some (some (.ref f_law_settled)))
    (l_law_settled : K.lookup f_law_settled = some ⟨oc_law_settled, od_law_settled, .func (PySem.W.fnOf "_law_settled" "_law_settled" (defArgs s_law_settled) (defBody s_law_settled) (defScope s_law_settled) .none kV_law_settled dc_law_settled pm_law_settled an_law_settled cd_law_settled ct_law_settled), sl_law_settled⟩)
    (c_law_settled : PySem.W.codeIn K cd_law_settled "_law_settled" = true)
    (k_law_settled : PySem.W.keepIn K (.ref f_law_settled) = true)
    (a_law_all_depths : PySem.W.nsIn K mainGlobals "_law_all_depths" = some (some (.ref f_law_all_depths)))
    (l_law_all_depths : K.lookup f_law_all_depths = some ⟨oc_law_all_depths, od_law_all_depths, .func (PySem.W.fnOf "_law_all_depths" "_law_all_depths" (defArgs s_law_all_depths) (defBody s_law_all_depths) (defScope s_law_all_depths) .none kV_law_all_depths dc_law_all_depths pm_law_all_depths an_law_all_depths cd_law_all_depths ct_law_all_depths), sl_law_all_depths⟩)
    (c_law_all_depths : PySem.W.codeIn K cd_law_all_depths "_law_all_depths" = true)
    (k_law_all_depths : PySem.W.keepIn K (.ref f_law_all_depths) = true)
    (a_law_fewest : PySem.W.nsIn K mainGlobals "_law_fewest" = some (some (.ref f_law_fewest)))
    (l_law_fewest : K.lookup f_law_fewest = some ⟨oc_law_fewest, od_law_fewest, .func (PySem.W.fnOf "_law_fewest" "_law_fewest" (defArgs s_law_fewest) (defBody s_law_fewest) (defScope s_law_fewest) .none kV_law_fewest dc_law_fewest pm_law_fewest an_law_fewest cd_law_fewest ct_law_fewest), sl_law_fewest⟩)
    (c_law_fewest : PySem.W.codeIn K cd_law_fewest "_law_fewest" = true)
    (k_law_fewest : PySem.W.keepIn K (.ref f_law_fewest) = true)
    (a_law_led_lists : PySem.W.nsIn K mainGlobals "_law_led_lists" = some (some (.ref f_law_led_lists)))
    (l_law_led_lists : K.lookup f_law_led_lists = some ⟨oc_law_led_lists, od_law_led_lists, .func (PySem.W.fnOf "_law_led_lists" "_law_led_lists" (defArgs s_law_led_lists) (defBody s_law_led_lists) (defScope s_law_led_lists) .none kV_law_led_lists dc_law_led_lists pm_law_led_lists an_law_led_lists cd_law_led_lists ct_law_led_lists), sl_law_led_lists⟩)
    (c_law_led_lists : PySem.W.codeIn K cd_law_led_lists "_law_led_lists" = true)
    (k_law_led_lists : PySem.W.keepIn K (.ref f_law_led_lists) = true)
    (a_law_great_right : PySem.W.nsIn K mainGlobals "_law_great_right" = some (some (.ref f_law_great_right)))
    (l_law_great_right : K.lookup f_law_great_right = some ⟨oc_law_great_right, od_law_great_right, .func (PySem.W.fnOf "_law_great_right" "_law_great_right" (defArgs s_law_great_right) (defBody s_law_great_right) (defScope s_law_great_right) .none kV_law_great_right dc_law_great_right pm_law_great_right an_law_great_right cd_law_great_right ct_law_great_right), sl_law_great_right⟩)
    (c_law_great_right : PySem.W.codeIn K cd_law_great_right "_law_great_right" = true)
    (k_law_great_right : PySem.W.keepIn K (.ref f_law_great_right) = true)
    (a_law_right : PySem.W.nsIn K mainGlobals "_law_right" = some (some (.ref f_law_right)))
    (l_law_right : K.lookup f_law_right = some ⟨oc_law_right, od_law_right, .func (PySem.W.fnOf "_law_right" "_law_right" (defArgs s_law_right) (defBody s_law_right) (defScope s_law_right) .none kV_law_right dc_law_right pm_law_right an_law_right cd_law_right ct_law_right), sl_law_right⟩)
    (c_law_right : PySem.W.codeIn K cd_law_right "_law_right" = true)
    (k_law_right : PySem.W.keepIn K (.ref f_law_right) = true)
    (a_law : PySem.W.nsIn K mainGlobals "law" = some (some (.ref f_law)))
    (l_law : K.lookup f_law = some ⟨oc_law, od_law, .func (PySem.W.fnOf "law" "law" (defArgs s_law) (defBody s_law) (defScope s_law) .none kV_law dc_law pm_law an_law cd_law ct_law), sl_law⟩)
    (c_law : PySem.W.codeIn K cd_law "law" = true)
    (k_law : PySem.W.keepIn K (.ref f_law) = true)
    (n_MOST_KEY : PySem.W.nsIn K mainGlobals "MOST_KEY" = some (some (.int (999) t_MOST_KEY)))
    (n_MOST_ROWS : PySem.W.nsIn K mainGlobals "MOST_ROWS" = some (some (.int (40) t_MOST_ROWS)))
    (n_MOST_POINTS : PySem.W.nsIn K mainGlobals "MOST_POINTS" = some (some (.int (999) t_MOST_POINTS)))
    (n_MOST_LISTS : PySem.W.nsIn K mainGlobals "MOST_LISTS" = some (some (.int (4) t_MOST_LISTS)))
    (n_MOST_PAIRS : PySem.W.nsIn K mainGlobals "MOST_PAIRS" = some (some (.int (40) t_MOST_PAIRS)))
    (n_MOST_LONG : PySem.W.nsIn K mainGlobals "MOST_LONG" = some (some (.int (8) t_MOST_LONG)))
    (z_abs : PySem.W.nsIn K mainGlobals "abs" = some none)
    (z_all : PySem.W.nsIn K mainGlobals "all" = some none)
    (z_any : PySem.W.nsIn K mainGlobals "any" = some none)
    (z_bool : PySem.W.nsIn K mainGlobals "bool" = some none)
    (z_dict : PySem.W.nsIn K mainGlobals "dict" = some none)
    (z_divmod : PySem.W.nsIn K mainGlobals "divmod" = some none)
    (z_enumerate : PySem.W.nsIn K mainGlobals "enumerate" = some none)
    (z_int : PySem.W.nsIn K mainGlobals "int" = some none)
    (z_isinstance : PySem.W.nsIn K mainGlobals "isinstance" = some none)
    (z_len : PySem.W.nsIn K mainGlobals "len" = some none)
    (z_list : PySem.W.nsIn K mainGlobals "list" = some none)
    (z_max : PySem.W.nsIn K mainGlobals "max" = some none)
    (z_min : PySem.W.nsIn K mainGlobals "min" = some none)
    (z_range : PySem.W.nsIn K mainGlobals "range" = some none)
    (z_repr : PySem.W.nsIn K mainGlobals "repr" = some none)
    (z_set : PySem.W.nsIn K mainGlobals "set" = some none)
    (z_sorted : PySem.W.nsIn K mainGlobals "sorted" = some none)
    (z_sum : PySem.W.nsIn K mainGlobals "sum" = some none)
    (z_tuple : PySem.W.nsIn K mainGlobals "tuple" = some none)
    (z_zip : PySem.W.nsIn K mainGlobals "zip" = some none) : ∃ T : Txt P K mg, T.f_law = f_law := by
  have F_is_whole := fun_mk (st := s_is_whole) l_is_whole c_is_whole k_is_whole
  have b_is_whole := F_is_whole.binds (ps := ["value"]) fun _ _ _ _ _ _ us hl => match us, hl with | [_], _ => rfl
  have F_is_number := fun_mk (st := s_is_number) l_is_number c_is_number k_is_number
  have b_is_number := F_is_number.binds (ps := ["value", "low", "high"]) fun _ _ _ _ _ _ us hl => match us, hl with | [_, _, _], _ => rfl
  have F_is_key := fun_mk (st := s_is_key) l_is_key c_is_key k_is_key
  have b_is_key := F_is_key.binds (ps := ["value"]) fun _ _ _ _ _ _ us hl => match us, hl with | [_], _ => rfl
  have F_is_tuple_of := fun_mk (st := s_is_tuple_of) l_is_tuple_of c_is_tuple_of k_is_tuple_of
  have b_is_tuple_of := F_is_tuple_of.binds (ps := ["value", "many"]) fun _ _ _ _ _ _ us hl => match us, hl with | [_, _], _ => rfl
  have F_is_ascending := fun_mk (st := s_is_ascending) l_is_ascending c_is_ascending k_is_ascending
  have b_is_ascending := F_is_ascending.binds (ps := ["values"]) fun _ _ _ _ _ _ us hl => match us, hl with | [_], _ => rfl
  have F_check_number := fun_mk (st := s_check_number) l_check_number c_check_number k_check_number
  have b_check_number := F_check_number.binds (ps := ["value", "low", "high"]) fun _ _ _ _ _ _ us hl => match us, hl with | [_, _, _], _ => rfl
  have F_check_many := fun_mk (st := s_check_many) l_check_many c_check_many k_check_many
  have b_check_many := F_check_many.binds (ps := ["value"]) fun _ _ _ _ _ _ us hl => match us, hl with | [_], _ => rfl
  have F_bound_of := fun_mk (st := s_bound_of) l_bound_of c_bound_of k_bound_of
  have b_bound_of := F_bound_of.binds (ps := ["row", "depth", "key"]) fun _ _ _ _ _ _ us hl => match us, hl with | [_, _, _], _ => rfl
  have F_read_by := fun_mk (st := s_read_by) l_read_by c_read_by k_read_by
  have b_read_by := F_read_by.binds (ps := ["lists", "depths"]) fun _ _ _ _ _ _ us hl => match us, hl with | [_, _], _ => rfl
  have F_sums_by := fun_mk (st := s_sums_by) l_sums_by c_sums_by k_sums_by
  have b_sums_by := F_sums_by.binds (ps := ["lists", "depths", "read", "key"]) fun _ _ _ _ _ _ us hl => match us, hl with | [_, _, _, _], _ => rfl
  have F_beats := fun_mk (st := s_beats) l_beats c_beats k_beats
  have b_beats := F_beats.binds (ps := ["one", "sums", "two", "others"]) fun _ _ _ _ _ _ us hl => match us, hl with | [_, _, _, _], _ => rfl
  have F_turns_of := fun_mk (st := s_turns_of) l_turns_of c_turns_of k_turns_of
  have b_turns_of := F_turns_of.binds (ps := ["lists", "depths"]) fun _ _ _ _ _ _ us hl => match us, hl with | [_, _], _ => rfl
  have F_strangers := fun_mk (st := s_strangers) l_strangers c_strangers k_strangers
  have b_strangers := F_strangers.binds (ps := ["lists", "depths", "read"]) fun _ _ _ _ _ _ us hl => match us, hl with | [_, _, _], _ => rfl
  have F_known_keys := fun_mk (st := s_known_keys) l_known_keys c_known_keys k_known_keys
  have b_known_keys := F_known_keys.binds (ps := ["read"]) fun _ _ _ _ _ _ us hl => match us, hl with | [_], _ => rfl
  have F_settled_by := fun_mk (st := s_settled_by) l_settled_by c_settled_by k_settled_by
  have b_settled_by := F_settled_by.binds (ps := ["lists", "depths", "many"]) fun _ _ _ _ _ _ us hl => match us, hl with | [_, _, _], _ => rfl
  have F_depths_of := fun_mk (st := s_depths_of) l_depths_of c_depths_of k_depths_of
  have b_depths_of := F_depths_of.binds (ps := ["lengths", "total"]) fun _ _ _ _ _ _ us hl => match us, hl with | [_, _], _ => rfl
  have F_fewest_by := fun_mk (st := s_fewest_by) l_fewest_by c_fewest_by k_fewest_by
  have b_fewest_by := F_fewest_by.binds (ps := ["lists", "many"]) fun _ _ _ _ _ _ us hl => match us, hl with | [_, _], _ => rfl
  have F_is_pair := fun_mk (st := s_is_pair) l_is_pair c_is_pair k_is_pair
  have b_is_pair := F_is_pair.binds (ps := ["value"]) fun _ _ _ _ _ _ us hl => match us, hl with | [_], _ => rfl
  have F_is_list := fun_mk (st := s_is_list) l_is_list c_is_list k_is_list
  have b_is_list := F_is_list.binds (ps := ["value"]) fun _ _ _ _ _ _ us hl => match us, hl with | [_], _ => rfl
  have F_check_lists := fun_mk (st := s_check_lists) l_check_lists c_check_lists k_check_lists
  have b_check_lists := F_check_lists.binds (ps := ["value"]) fun _ _ _ _ _ _ us hl => match us, hl with | [_], _ => rfl
  have F_check_depths := fun_mk (st := s_check_depths) l_check_depths c_check_depths k_check_depths
  have b_check_depths := F_check_depths.binds (ps := ["lists", "value"]) fun _ _ _ _ _ _ us hl => match us, hl with | [_, _], _ => rfl
  have F_check_short := fun_mk (st := s_check_short) l_check_short c_check_short k_check_short
  have b_check_short := F_check_short.binds (ps := ["lists"]) fun _ _ _ _ _ _ us hl => match us, hl with | [_], _ => rfl
  have F_settled := fun_mk (st := s_settled) l_settled c_settled k_settled
  have b_settled := F_settled.binds (ps := ["lists", "depths", "many"]) fun _ _ _ _ _ _ us hl => match us, hl with | [_, _, _], _ => rfl
  have F_fewest_looks := fun_mk (st := s_fewest_looks) l_fewest_looks c_fewest_looks k_fewest_looks
  have b_fewest_looks := F_fewest_looks.binds (ps := ["lists", "many"]) fun _ _ _ _ _ _ us hl => match us, hl with | [_, _], _ => rfl
  have kb_fewest_looks_many_lists : KBinds K (PySem.W.fnOf "fewest_looks" "fewest_looks" (defArgs s_fewest_looks) (defBody s_fewest_looks) (defScope s_fewest_looks) .none kV_fewest_looks dc_fewest_looks pm_fewest_looks an_fewest_looks cd_fewest_looks ct_fewest_looks) ["lists", "many"] ["many", "lists"] (fun us ws => kbP 0 2 [1, 0] us ws) (fun us ws => kbP 0 2 [1, 0] us ws) := kb_fewest_looks_many_lists
  have F_any_fewest := fun_mk (st := s_any_fewest) l_any_fewest c_any_fewest k_any_fewest
  have b_any_fewest := F_any_fewest.binds (ps := ["lists", "many"]) fun _ _ _ _ _ _ us hl => match us, hl with | [_, _], _ => rfl
  have kb_any_fewest_many_lists : KBinds K (PySem.W.fnOf "any_fewest" "any_fewest" (defArgs s_any_fewest) (defBody s_any_fewest) (defScope s_any_fewest) .none kV_any_fewest dc_any_fewest pm_any_fewest an_any_fewest cd_any_fewest ct_any_fewest) ["lists", "many"] ["many", "lists"] (fun us ws => kbP 0 2 [1, 0] us ws) (fun us ws => kbP 0 2 [1, 0] us ws) := kb_any_fewest_many_lists
  have F_law_urn := fun_mk (st := s_law_urn) l_law_urn c_law_urn k_law_urn
  have b_law_urn := F_law_urn.binds (ps := ["script", "lap"]) fun _ _ _ _ _ _ us hl => match us, hl with | [_, _], _ => rfl
  have F_law_take := fun_mk (st := s_law_take) l_law_take c_law_take k_law_take
  have b_law_take := F_law_take.binds (ps := ["urn", "many"]) fun _ _ _ _ _ _ us hl => match us, hl with | [_, _], _ => rfl
  have F_law_of := fun_mk (st := s_law_of) l_law_of c_law_of k_law_of
  have b_law_of := F_law_of.binds (ps := ["urn", "some"]) fun _ _ _ _ _ _ us hl => match us, hl with | [_, _], _ => rfl
  have F_law_first := fun_mk (st := s_law_first) l_law_first c_law_first k_law_first
  have b_law_first := F_law_first.binds (ps := ["pair"]) fun _ _ _ _ _ _ us hl => match us, hl with | [_], _ => rfl
  have F_law_lists := fun_mk (st := s_law_lists) l_law_lists c_law_lists k_law_lists
  have b_law_lists := F_law_lists.binds (ps := ["urn", "many", "most"]) fun _ _ _ _ _ _ us hl => match us, hl with | [_, _, _], _ => rfl
  have F_law_bound := fun_mk (st := s_law_bound) l_law_bound c_law_bound k_law_bound
  have b_law_bound := F_law_bound.binds (ps := ["row", "depth", "key"]) fun _ _ _ _ _ _ us hl => match us, hl with | [_, _, _], _ => rfl
  have F_law_sums := fun_mk (st := s_law_sums) l_law_sums c_law_sums k_law_sums
  have b_law_sums := F_law_sums.binds (ps := ["lists", "depths", "key"]) fun _ _ _ _ _ _ us hl => match us, hl with | [_, _, _], _ => rfl
  have F_law_best := fun_mk (st := s_law_best) l_law_best c_law_best k_law_best
  have b_law_best := F_law_best.binds (ps := ["lists", "many"]) fun _ _ _ _ _ _ us hl => match us, hl with | [_, _], _ => rfl
  have F_law_others := fun_mk (st := s_law_others) l_law_others c_law_others k_law_others
  have b_law_others := F_law_others.binds (ps := ["lists", "depths", "read"]) fun _ _ _ _ _ _ us hl => match us, hl with | [_, _, _], _ => rfl
  have F_law_settled := fun_mk (st := s_law_settled) l_law_settled c_law_settled k_law_settled
  have b_law_settled := F_law_settled.binds (ps := ["lists", "depths", "many"]) fun _ _ _ _ _ _ us hl => match us, hl with | [_, _, _], _ => rfl
  have F_law_all_depths := fun_mk (st := s_law_all_depths) l_law_all_depths c_law_all_depths k_law_all_depths
  have b_law_all_depths := F_law_all_depths.binds (ps := ["lists"]) fun _ _ _ _ _ _ us hl => match us, hl with | [_], _ => rfl
  have F_law_fewest := fun_mk (st := s_law_fewest) l_law_fewest c_law_fewest k_law_fewest
  have b_law_fewest := F_law_fewest.binds (ps := ["lists", "many"]) fun _ _ _ _ _ _ us hl => match us, hl with | [_, _], _ => rfl
  have F_law_led_lists := fun_mk (st := s_law_led_lists) l_law_led_lists c_law_led_lists k_law_led_lists
  have b_law_led_lists := F_law_led_lists.binds (ps := ["urn", "many"]) fun _ _ _ _ _ _ us hl => match us, hl with | [_, _], _ => rfl
  have F_law_great_right := fun_mk (st := s_law_great_right) l_law_great_right c_law_great_right k_law_great_right
  have b_law_great_right := F_law_great_right.binds (ps := ["urn", "is_led"]) fun _ _ _ _ _ _ us hl => match us, hl with | [_, _], _ => rfl
  have F_law_right := fun_mk (st := s_law_right) l_law_right c_law_right k_law_right
  have b_law_right := F_law_right.binds (ps := ["urn"]) fun _ _ _ _ _ _ us hl => match us, hl with | [_], _ => rfl
  have F_law := fun_mk (st := s_law) l_law c_law k_law
  have b_law := F_law.binds (ps := ["script"]) fun _ _ _ _ _ _ us hl => match us, hl with | [_], _ => rfl
  exact ⟨{ f_is_whole := f_is_whole, d_is_whole := _, F_is_whole := F_is_whole, b_is_whole := b_is_whole, g_is_whole := PySem.W.mg_of X G a_is_whole, f_is_number := f_is_number, d_is_number := _, F_is_number := F_is_number, b_is_number := b_is_number, g_is_number := PySem.W.mg_of X G a_is_number, f_is_key := f_is_key, d_is_key := _, F_is_key := F_is_key, b_is_key := b_is_key, g_is_key := PySem.W.mg_of X G a_is_key, f_is_tuple_of := f_is_tuple_of, d_is_tuple_of := _, F_is_tuple_of := F_is_tuple_of, b_is_tuple_of := b_is_tuple_of, g_is_tuple_of := PySem.W.mg_of X G a_is_tuple_of, f_is_ascending := f_is_ascending, d_is_ascending := _, F_is_ascending := F_is_ascending, b_is_ascending := b_is_ascending, g_is_ascending := PySem.W.mg_of X G a_is_ascending, f_check_number := f_check_number, d_check_number := _, F_check_number := F_check_number, b_check_number := b_check_number, g_check_number := PySem.W.mg_of X G a_check_number, f_check_many := f_check_many, d_check_many := _, F_check_many := F_check_many, b_check_many := b_check_many, g_check_many := PySem.W.mg_of X G a_check_many, f_bound_of := f_bound_of, d_bound_of := _, F_bound_of := F_bound_of, b_bound_of := b_bound_of, g_bound_of := PySem.W.mg_of X G a_bound_of, f_read_by := f_read_by, d_read_by := _, F_read_by := F_read_by, b_read_by := b_read_by, g_read_by := PySem.W.mg_of X G a_read_by, f_sums_by := f_sums_by, d_sums_by := _, F_sums_by := F_sums_by, b_sums_by := b_sums_by, g_sums_by := PySem.W.mg_of X G a_sums_by, f_beats := f_beats, d_beats := _, F_beats := F_beats, b_beats := b_beats, g_beats := PySem.W.mg_of X G a_beats, f_turns_of := f_turns_of, d_turns_of := _, F_turns_of := F_turns_of, b_turns_of := b_turns_of, g_turns_of := PySem.W.mg_of X G a_turns_of, f_strangers := f_strangers, d_strangers := _, F_strangers := F_strangers, b_strangers := b_strangers, g_strangers := PySem.W.mg_of X G a_strangers, f_known_keys := f_known_keys, d_known_keys := _, F_known_keys := F_known_keys, b_known_keys := b_known_keys, g_known_keys := PySem.W.mg_of X G a_known_keys, f_settled_by := f_settled_by, d_settled_by := _, F_settled_by := F_settled_by, b_settled_by := b_settled_by, g_settled_by := PySem.W.mg_of X G a_settled_by, f_depths_of := f_depths_of, d_depths_of := _, F_depths_of := F_depths_of, b_depths_of := b_depths_of, g_depths_of := PySem.W.mg_of X G a_depths_of, f_fewest_by := f_fewest_by, d_fewest_by := _, F_fewest_by := F_fewest_by, b_fewest_by := b_fewest_by, g_fewest_by := PySem.W.mg_of X G a_fewest_by, f_is_pair := f_is_pair, d_is_pair := _, F_is_pair := F_is_pair, b_is_pair := b_is_pair, g_is_pair := PySem.W.mg_of X G a_is_pair, f_is_list := f_is_list, d_is_list := _, F_is_list := F_is_list, b_is_list := b_is_list, g_is_list := PySem.W.mg_of X G a_is_list, f_check_lists := f_check_lists, d_check_lists := _, F_check_lists := F_check_lists, b_check_lists := b_check_lists, g_check_lists := PySem.W.mg_of X G a_check_lists, f_check_depths := f_check_depths, d_check_depths := _, F_check_depths := F_check_depths, b_check_depths := b_check_depths, g_check_depths := PySem.W.mg_of X G a_check_depths, f_check_short := f_check_short, d_check_short := _, F_check_short := F_check_short, b_check_short := b_check_short, g_check_short := PySem.W.mg_of X G a_check_short, f_settled := f_settled, d_settled := _, F_settled := F_settled, b_settled := b_settled, g_settled := PySem.W.mg_of X G a_settled, f_fewest_looks := f_fewest_looks, d_fewest_looks := _, F_fewest_looks := F_fewest_looks, b_fewest_looks := b_fewest_looks, kb_fewest_looks_many_lists := kb_fewest_looks_many_lists, g_fewest_looks := PySem.W.mg_of X G a_fewest_looks, f_any_fewest := f_any_fewest, d_any_fewest := _, F_any_fewest := F_any_fewest, b_any_fewest := b_any_fewest, kb_any_fewest_many_lists := kb_any_fewest_many_lists, g_any_fewest := PySem.W.mg_of X G a_any_fewest, f_law_urn := f_law_urn, d_law_urn := _, F_law_urn := F_law_urn, b_law_urn := b_law_urn, g__law_urn := PySem.W.mg_of X G a_law_urn, f_law_take := f_law_take, d_law_take := _, F_law_take := F_law_take, b_law_take := b_law_take, g__law_take := PySem.W.mg_of X G a_law_take, f_law_of := f_law_of, d_law_of := _, F_law_of := F_law_of, b_law_of := b_law_of, g__law_of := PySem.W.mg_of X G a_law_of, f_law_first := f_law_first, d_law_first := _, F_law_first := F_law_first, b_law_first := b_law_first, g__law_first := PySem.W.mg_of X G a_law_first, f_law_lists := f_law_lists, d_law_lists := _, F_law_lists := F_law_lists, b_law_lists := b_law_lists, g__law_lists := PySem.W.mg_of X G a_law_lists, f_law_bound := f_law_bound, d_law_bound := _, F_law_bound := F_law_bound, b_law_bound := b_law_bound, g__law_bound := PySem.W.mg_of X G a_law_bound, f_law_sums := f_law_sums, d_law_sums := _, F_law_sums := F_law_sums, b_law_sums := b_law_sums, g__law_sums := PySem.W.mg_of X G a_law_sums, f_law_best := f_law_best, d_law_best := _, F_law_best := F_law_best, b_law_best := b_law_best, g__law_best := PySem.W.mg_of X G a_law_best, f_law_others := f_law_others, d_law_others := _, F_law_others := F_law_others, b_law_others := b_law_others, g__law_others := PySem.W.mg_of X G a_law_others, f_law_settled := f_law_settled, d_law_settled := _, F_law_settled := F_law_settled, b_law_settled := b_law_settled, g__law_settled := PySem.W.mg_of X G a_law_settled, f_law_all_depths := f_law_all_depths, d_law_all_depths := _, F_law_all_depths := F_law_all_depths, b_law_all_depths := b_law_all_depths, g__law_all_depths := PySem.W.mg_of X G a_law_all_depths, f_law_fewest := f_law_fewest, d_law_fewest := _, F_law_fewest := F_law_fewest, b_law_fewest := b_law_fewest, g__law_fewest := PySem.W.mg_of X G a_law_fewest, f_law_led_lists := f_law_led_lists, d_law_led_lists := _, F_law_led_lists := F_law_led_lists, b_law_led_lists := b_law_led_lists, g__law_led_lists := PySem.W.mg_of X G a_law_led_lists, f_law_great_right := f_law_great_right, d_law_great_right := _, F_law_great_right := F_law_great_right, b_law_great_right := b_law_great_right, g__law_great_right := PySem.W.mg_of X G a_law_great_right, f_law_right := f_law_right, d_law_right := _, F_law_right := F_law_right, b_law_right := b_law_right, g__law_right := PySem.W.mg_of X G a_law_right, f_law := f_law, d_law := _, F_law := F_law, b_law := b_law, g_law := PySem.W.mg_of X G a_law, t_MOST_KEY := _, g_MOST_KEY := PySem.W.mg_of X G n_MOST_KEY, t_MOST_ROWS := _, g_MOST_ROWS := PySem.W.mg_of X G n_MOST_ROWS, t_MOST_POINTS := _, g_MOST_POINTS := PySem.W.mg_of X G n_MOST_POINTS, t_MOST_LISTS := _, g_MOST_LISTS := PySem.W.mg_of X G n_MOST_LISTS, t_MOST_PAIRS := _, g_MOST_PAIRS := PySem.W.mg_of X G n_MOST_PAIRS, t_MOST_LONG := _, g_MOST_LONG := PySem.W.mg_of X G n_MOST_LONG, z_abs := PySem.W.mg_none_of X G z_abs, z_all := PySem.W.mg_none_of X G z_all, z_any := PySem.W.mg_none_of X G z_any, z_bool := PySem.W.mg_none_of X G z_bool, z_dict := PySem.W.mg_none_of X G z_dict, z_divmod := PySem.W.mg_none_of X G z_divmod, z_enumerate := PySem.W.mg_none_of X G z_enumerate, z_int := PySem.W.mg_none_of X G z_int, z_isinstance := PySem.W.mg_none_of X G z_isinstance, z_len := PySem.W.mg_none_of X G z_len, z_list := PySem.W.mg_none_of X G z_list, z_max := PySem.W.mg_none_of X G z_max, z_min := PySem.W.mg_none_of X G z_min, z_range := PySem.W.mg_none_of X G z_range, z_repr := PySem.W.mg_none_of X G z_repr, z_set := PySem.W.mg_none_of X G z_set, z_sorted := PySem.W.mg_none_of X G z_sorted, z_sum := PySem.W.mg_none_of X G z_sum, z_tuple := PySem.W.mg_none_of X G z_tuple, z_zip := PySem.W.mg_none_of X G z_zip }, rfl⟩
theorem walk {q : Program} {loose : List Str} {XP : (Str → Option Value) → Heap → Prop} {YP : World → Heap → Prop} {d : DefRec} {K : Params → PySem.W.Frag} (hdn : d.name = "law") (hdf : d.params.defaults = [])
    (hY : ∀ (w : World) (h : Heap), YP w h → (K w.params).In h)
    (F : ∀ (w : World) (mg : Str → Option Value) (h : Heap), (K w.params).In h → h.Ns mainGlobals mg → ∃ T : Txt PySem.Challenge.pw_plainscan_k73_whole_fewest_looks_by_own (K w.params) mg, True) :
    PySem.W.WalkO q loose XP YP PySem.Challenge.rw_plainscan_k73_whole_fewest_looks_by_own.row.toRowW d [] (fun f vs => PySem.call f vs) :=
  L2.walk_ofG (n := 63) (k := 12) (x := "script") (CX := fun _ => CX0) (sp := fun w => spLaw (K w.params)) rfl (by decide) hdf ⟨rfl, by decide, by decide⟩ hY (fun w mg fa h KX G hfa => by
    obtain ⟨T, _⟩ := F w mg h KX G
    have e : fa = T.f_law := by
      have z := T.g_law
      rw [hdn] at hfa
      rw [hfa] at z
      cases z
      rfl
    subst e
    refine ⟨T.d_law, fun s v => ?_, fun base _ _ => ok_law T⟩
    have z := T.F_law.ex
    obtain ⟨_, _, _, _, _, _, _, _, _, e, _⟩ := z
    rw [e]
    exact .of_eq rfl) (fun _ _ a ns hl _ hS => ⟨a, ns, rfl, hS, hl, fun _ => rfl⟩) fun _ _ _ _ _ z => z

end K71
open PySem PySem.W PyProof.Rows in
set_option maxRecDepth 100000 in
set_option maxHeartbeats 0 in
theorem PySem.Challenge.cw_plainscan_k73_whole_fewest_looks_by_own_holds : PySem.Challenge.rw_plainscan_k73_whole_fewest_looks_by_own.Holds := by
  w_on; o_law; k_head; (case hw => w_witness2)
  k_fill
  refine K71.walk rfl rfl (fun w h Y => PySem.W.kIn_of Y) ?F
  case F =>
    intro w mg h KX G
    refine' Exists.elim (K71.txt_mk KX G ?a_is_whole ?l_is_whole ?c_is_whole ?k_is_whole ?a_is_number ?l_is_number ?c_is_number ?k_is_number ?a_is_key ?l_is_key ?c_is_key ?k_is_key ?a_is_tuple_of ?l_is_tuple_of ?c_is_tuple_of ?k_is_tuple_of ?a_is_ascending ?l_is_ascending ?c_is_ascending ?k_is_ascending ?a_check_number ?l_check_number ?c_check_number ?k_check_number ?a_check_many ?l_check_many ?c_check_many ?k_check_many ?a_bound_of ?l_bound_of ?c_bound_of ?k_bound_of ?a_read_by ?l_read_by ?c_read_by ?k_read_by ?a_sums_by ?l_sums_by ?c_sums_by ?k_sums_by ?a_beats ?l_beats ?c_beats ?k_beats ?a_turns_of ?l_turns_of ?c_turns_of ?k_turns_of ?a_strangers ?l_strangers ?c_strangers ?k_strangers ?a_known_keys ?l_known_keys ?c_known_keys ?k_known_keys ?a_settled_by ?l_settled_by ?c_settled_by ?k_settled_by ?a_depths_of ?l_depths_of ?c_depths_of ?k_depths_of ?a_fewest_by ?l_fewest_by ?c_fewest_by ?k_fewest_by ?a_is_pair ?l_is_pair ?c_is_pair ?k_is_pair ?a_is_list ?l_is_list ?c_is_list ?k_is_list ?a_check_lists ?l_check_lists ?c_check_lists ?k_check_lists ?a_check_depths ?l_check_depths ?c_check_depths ?k_check_depths ?a_check_short ?l_check_short ?c_check_short ?k_check_short ?a_settled ?l_settled ?c_settled ?k_settled ?a_fewest_looks ?l_fewest_looks ?c_fewest_looks ?k_fewest_looks ?a_any_fewest ?l_any_fewest ?c_any_fewest ?k_any_fewest ?a_law_urn ?l_law_urn ?c_law_urn ?k_law_urn ?a_law_take ?l_law_take ?c_law_take ?k_law_take ?a_law_of ?l_law_of ?c_law_of ?k_law_of ?a_law_first ?l_law_first ?c_law_first ?k_law_first ?a_law_lists ?l_law_lists ?c_law_lists ?k_law_lists ?a_law_bound ?l_law_bound ?c_law_bound ?k_law_bound ?a_law_sums ?l_law_sums ?c_law_sums ?k_law_sums ?a_law_best ?l_law_best ?c_law_best ?k_law_best ?a_law_others ?l_law_others ?c_law_others ?k_law_others ?a_law_settled ?l_law_settled ?c_law_settled ?k_law_settled ?a_law_all_depths ?l_law_all_depths ?c_law_all_depths ?k_law_all_depths ?a_law_fewest ?l_law_fewest ?c_law_fewest ?k_law_fewest ?a_law_led_lists ?l_law_led_lists ?c_law_led_lists ?k_law_led_lists ?a_law_great_right ?l_law_great_right ?c_law_great_right ?k_law_great_right ?a_law_right ?l_law_right ?c_law_right ?k_law_right ?a_law ?l_law ?c_law ?k_law ?n_MOST_KEY ?n_MOST_ROWS ?n_MOST_POINTS ?n_MOST_LISTS ?n_MOST_PAIRS ?n_MOST_LONG ?z_abs ?z_all ?z_any ?z_bool ?z_dict ?z_divmod ?z_enumerate ?z_int ?z_isinstance ?z_len ?z_list ?z_max ?z_min ?z_range ?z_repr ?z_set ?z_sorted ?z_sum ?z_tuple ?z_zip) (fun T _ => ⟨T, trivial⟩)
    (case a_is_whole => k_is)
    (case l_is_whole => k_is)
    (case c_is_whole => k_is)
    (case k_is_whole => k_is)
    (case a_is_number => k_is)
    (case l_is_number => k_is)
    (case c_is_number => k_is)
    (case k_is_number => k_is)
    (case a_is_key => k_is)
    (case l_is_key => k_is)
    (case c_is_key => k_is)
    (case k_is_key => k_is)
    (case a_is_tuple_of => k_is)
    (case l_is_tuple_of => k_is)
    (case c_is_tuple_of => k_is)
    (case k_is_tuple_of => k_is)
    (case a_is_ascending => k_is)
    (case l_is_ascending => k_is)
    (case c_is_ascending => k_is)
    (case k_is_ascending => k_is)
    (case a_check_number => k_is)
    (case l_check_number => k_is)
    (case c_check_number => k_is)
    (case k_check_number => k_is)
    (case a_check_many => k_is)
    (case l_check_many => k_is)
    (case c_check_many => k_is)
    (case k_check_many => k_is)
    (case a_bound_of => k_is)
    (case l_bound_of => k_is)
    (case c_bound_of => k_is)
    (case k_bound_of => k_is)
    (case a_read_by => k_is)
    (case l_read_by => k_is)
    (case c_read_by => k_is)
    (case k_read_by => k_is)
    (case a_sums_by => k_is)
    (case l_sums_by => k_is)
    (case c_sums_by => k_is)
    (case k_sums_by => k_is)
    (case a_beats => k_is)
    (case l_beats => k_is)
    (case c_beats => k_is)
    (case k_beats => k_is)
    (case a_turns_of => k_is)
    (case l_turns_of => k_is)
    (case c_turns_of => k_is)
    (case k_turns_of => k_is)
    (case a_strangers => k_is)
    (case l_strangers => k_is)
    (case c_strangers => k_is)
    (case k_strangers => k_is)
    (case a_known_keys => k_is)
    (case l_known_keys => k_is)
    (case c_known_keys => k_is)
    (case k_known_keys => k_is)
    (case a_settled_by => k_is)
    (case l_settled_by => k_is)
    (case c_settled_by => k_is)
    (case k_settled_by => k_is)
    (case a_depths_of => k_is)
    (case l_depths_of => k_is)
    (case c_depths_of => k_is)
    (case k_depths_of => k_is)
    (case a_fewest_by => k_is)
    (case l_fewest_by => k_is)
    (case c_fewest_by => k_is)
    (case k_fewest_by => k_is)
    (case a_is_pair => k_is)
    (case l_is_pair => k_is)
    (case c_is_pair => k_is)
    (case k_is_pair => k_is)
    (case a_is_list => k_is)
    (case l_is_list => k_is)
    (case c_is_list => k_is)
    (case k_is_list => k_is)
    (case a_check_lists => k_is)
    (case l_check_lists => k_is)
    (case c_check_lists => k_is)
    (case k_check_lists => k_is)
    (case a_check_depths => k_is)
    (case l_check_depths => k_is)
    (case c_check_depths => k_is)
    (case k_check_depths => k_is)
    (case a_check_short => k_is)
    (case l_check_short => k_is)
    (case c_check_short => k_is)
    (case k_check_short => k_is)
    (case a_settled => k_is)
    (case l_settled => k_is)
    (case c_settled => k_is)
    (case k_settled => k_is)
    (case a_fewest_looks => k_is)
    (case l_fewest_looks => k_is)
    (case c_fewest_looks => k_is)
    (case k_fewest_looks => k_is)
    (case a_any_fewest => k_is)
    (case l_any_fewest => k_is)
    (case c_any_fewest => k_is)
    (case k_any_fewest => k_is)
    (case a_law_urn => k_is)
    (case l_law_urn => k_is)
    (case c_law_urn => k_is)
    (case k_law_urn => k_is)
    (case a_law_take => k_is)
    (case l_law_take => k_is)
    (case c_law_take => k_is)
    (case k_law_take => k_is)
    (case a_law_of => k_is)
    (case l_law_of => k_is)
    (case c_law_of => k_is)
    (case k_law_of => k_is)
    (case a_law_first => k_is)
    (case l_law_first => k_is)
    (case c_law_first => k_is)
    (case k_law_first => k_is)
    (case a_law_lists => k_is)
    (case l_law_lists => k_is)
    (case c_law_lists => k_is)
    (case k_law_lists => k_is)
    (case a_law_bound => k_is)
    (case l_law_bound => k_is)
    (case c_law_bound => k_is)
    (case k_law_bound => k_is)
    (case a_law_sums => k_is)
    (case l_law_sums => k_is)
    (case c_law_sums => k_is)
    (case k_law_sums => k_is)
    (case a_law_best => k_is)
    (case l_law_best => k_is)
    (case c_law_best => k_is)
    (case k_law_best => k_is)
    (case a_law_others => k_is)
    (case l_law_others => k_is)
    (case c_law_others => k_is)
    (case k_law_others => k_is)
    (case a_law_settled => k_is)
    (case l_law_settled => k_is)
    (case c_law_settled => k_is)
    (case k_law_settled => k_is)
    (case a_law_all_depths => k_is)
    (case l_law_all_depths => k_is)
    (case c_law_all_depths => k_is)
    (case k_law_all_depths => k_is)
    (case a_law_fewest => k_is)
    (case l_law_fewest => k_is)
    (case c_law_fewest => k_is)
    (case k_law_fewest => k_is)
    (case a_law_led_lists => k_is)
    (case l_law_led_lists => k_is)
    (case c_law_led_lists => k_is)
    (case k_law_led_lists => k_is)
    (case a_law_great_right => k_is)
    (case l_law_great_right => k_is)
    (case c_law_great_right => k_is)
    (case k_law_great_right => k_is)
    (case a_law_right => k_is)
    (case l_law_right => k_is)
    (case c_law_right => k_is)
    (case k_law_right => k_is)
    (case a_law => k_is)
    (case l_law => k_is)
    (case c_law => k_is)
    (case k_law => k_is)
    (case n_MOST_KEY => k_is)
    (case n_MOST_ROWS => k_is)
    (case n_MOST_POINTS => k_is)
    (case n_MOST_LISTS => k_is)
    (case n_MOST_PAIRS => k_is)
    (case n_MOST_LONG => k_is)
    (case z_abs => k_is)
    (case z_all => k_is)
    (case z_any => k_is)
    (case z_bool => k_is)
    (case z_dict => k_is)
    (case z_divmod => k_is)
    (case z_enumerate => k_is)
    (case z_int => k_is)
    (case z_isinstance => k_is)
    (case z_len => k_is)
    (case z_list => k_is)
    (case z_max => k_is)
    (case z_min => k_is)
    (case z_range => k_is)
    (case z_repr => k_is)
    (case z_set => k_is)
    (case z_sorted => k_is)
    (case z_sum => k_is)
    (case z_tuple => k_is)
    (case z_zip => k_is)
