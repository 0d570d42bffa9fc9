import PyProof.Rows.All
import Wide.All
import OpenK.AllK
import Wide.FinOn
import HandS.ForMost
import HandS.ForExc
import KE.KExcSuper
import KE.RegKSuper
import HandS.More
import HandS.Deep
import HandS.Style
import HandS.TupAny
import KE.SortData
import KE.DataFind
import KE.DataEq
import PyProof.Rows.SortShellAny
import HandS.IsInst
import HandS.Property
import HandS.Star
import HandS.Flow
import HandS.Conv
import HandS.Evl
import PyProof.ReprRoads
import HandS.Ends
import PyProof.Rows.Range3
import PyProof.Conv_bool
import PyProof.SeqIndex
import PyProof.CallFns
import PyProof.NeKinds
import HandS.SortKw
import KE.SortKeyHeap
import KE.KSortKey
import HandS.Iter
import HandS.Walk
import HandS.Zip
import KE.GoesMore
import KE.GoesEnum
import PyProof.FitsInt
import PyProof.ReprBulk
import PyProof.EqLayable
import HandS.Set
import HandS.SetFor
import HandS.Strs
import HandS.Comp
import HandS.SetBool
import PyProof.SumWalkG
import PyProof.WalksMore
import HandS.WideBits
import HandS.Codes
import HandS.StrMore
import HandS.Text
import HandS.TupMul
import HandS.Dict
import PySem.Challenge.RW_plainscan_k26_whole_looks_and_states_of
set_option Elab.async false
set_option linter.all false
set_option maxRecDepth 100000
set_option maxHeartbeats 8000000
/-! Own classes of errors over own classes over ValueError: `def __init__(self, F): super().__init__(F); self.F = F`. -/
namespace SupX
open PySem PySem.W PySem.Calls PyProof.Rows PySem.HandSPX
def iA (F : Str) (p1 p2 : Pos) : Arguments := { posonlyargs := [], args := [{ arg := "self", annotation := none, pos := p1 }, { arg := F, annotation := none, pos := p2 }], vararg := none, kwonlyargs := [], kw_defaults := [], kwarg := none, defaults := [] }
def iB (F : Str) (a1 a2 a3 a4 a5 a6 b1 b2 b3 b4 : Pos) : List Stmt :=
  [.Expr (.Call (.Attribute (.Call (.Name "super" a1) [] [] a2) "__init__" a3) [.Name F a4] [] a5) a6, .Assign [.Attribute (.Name "self" b1) F b2] (.Name F b3) b4]
def iS (F : Str) : Scope := { kind := .function, names := [(PySem.Str.ofString "self", .local), (F, .local), (PySem.Str.ofString "__class__", .free), (PySem.Str.ofString "super", .globalImplicit)], isGenerator := false, isCoroutine := false, more := [] }
theorem ev_one {o : Expr} {n F : Str} {a3 a4 a5 : Pos} {env : Env} (hl : (a3.endLine == a5.line) = true) : eval (.Call (.Attribute o n a3) [.Name F a4] [] a5) env = (do
      let ov ← attributeBase o n env (eval o env)
      standAt a3.atName
      let (f, first) ← holding [ov] (getMethod ov n (do return (← importBound o env).getD true))
      callWith a5 f first (backTo a5 (starEach [.Name F a4] env)) []) := by
  have e : eval (.Call (.Attribute o n a3) [.Name F a4] [] a5) env = (do
      let ov ← attributeBase o n env (eval o env)
      standAt a3.atName
      methodCall o n a3 a5 env ov 1 (backTo a5 (starEach [.Name F a4] env)) []) := rfl
  rw [e]
  unfold methodCall methodCallPos calleeOf
  have f : methodCallForm 1 (backTo a5 (starEach [.Name F a4] env)) [] = true := rfl
  rw [f, hl]
  rfl
/-- what the written part says of the class X at C and its __init__ at fI -/
structure SupTxt (P : Program) (K : Frag) (mg : Str → Option Value) (X qual F : Str) (C fI : Addr) : Prop where
  gC : mg X = some (.ref C)
  cls : ∃ nm q N bs bm sn sub ab col dd k0 k1 k2 k3 k5, K.lookup C = some (excClassObj nm q C N bs bm true sn sub ab col dd k0 k1 k2 k3 k5 "ValueError.__new__") ∧ refsVE bm = true
  sa : findIn K (.ref C) "__setattr__" = some (some (.builtin "object.__setattr__"))
  ga : findIn K (.ref C) "__getattribute__" = some (some (.builtin "BaseException.__getattribute__"))
  gg : findIn K (.ref C) "__getattr__" = some none
  noN : findIn K (.ref C) F = some none
  iC : findIn K (.ref C) "__init__" = some (some (.ref fI))
  tC : typeIn K (.ref fI) = some (.type "function")
  kC : keepIn K (.ref C) = true
  exC : subIn K (.ref C) (.type "BaseException") = some true
  veC : subIn K (.ref C) (.type "ValueError") = some true
  tyC : typeIn K (.ref C) = some (.type "type")
  hdC : hasDictIn K C = true
  slf : mroIn K C (.ref C) = some true
  sup : ks_superIn K C C "__init__" = some (some (.builtin "ValueError.__init__"))
  thp : nsIn K cStatics "thirdparty.any" = some none
  gS : mg "super" = none
  top : (P.main.scope.names.lookup ("super" : Str)).isSome = false
  nF : (F == ("self" : Str)) = false
  lF : (iS F).names.lookup F = some .local
  lC : (iS F).names.lookup ("__class__" : Str) = some .free
  lS : (iS F).names.lookup ("super" : Str) = some .globalImplicit
  dF : (F == ("__debug__" : Str)) = false
  bnd : ∀ (body : List Stmt) (sc : Scope) (cl : List (Str × Addr)) (doc pm : Value) (an : Option Addr) (cd ct : Value) (p1 p2 : Pos) (x v : Value), bindArgs (fnX "__init__" qual (iA F p1 p2) body sc cl .none .none doc pm an cd ct) ⟨[x, v], []⟩ = pure ([("self", x), (F, v)] : List (Str × Value))
  fn : ∃ (oc : Value) (od : Option Addr) (doc pm : Value) (an : Option Addr) (cda cc : Addr) (ct : Value) (osl : Array (Option Value)) (p1 p2 a1 a2 a3 a4 a5 a6 b1 b2 b3 b4 : Pos)
      (ccl cl : Value) (cdd cld : Option Addr) (vs : Array Value) (ccs csl : Array (Option Value)) (file : Str) (tf : Tok),
    K.lookup fI = some ⟨oc, od, .func (fnX "__init__" qual (iA F p1 p2) (iB F a1 a2 a3 a4 a5 a6 b1 b2 b3 b4) (iS F) [("__class__", cc)] .none .none doc pm an (.ref cda) ct), osl⟩ ∧ codeIn K (.ref cda) qual = true ∧
      K.lookup cda = some ⟨ccl, cdd, .fields vs, ccs⟩ ∧ vs[2]? = some (.str file tf) ∧ ((P.main.file : Str) == file) = true ∧ (a3.endLine == a5.line) = true ∧ K.lookup cc = some ⟨cl, cld, .cell (some (.ref C)), csl⟩
theorem one_size (v : Value) : [v].length ≤ sizeLine := by
  rw [sizeLine_eq]
  exact (by decide : 1 ≤ 16777216)
/-- what __init__ leaves of a fresh exception at x -/
structure InitEnd (F : Str) (h h' : Heap) (x C dx t1 : Addr) (v : Value) : Prop where
  keep : ∀ b o, b ≠ x → h.get? b = some o → h'.get? b = some o
  obj : h'.get? x = some { cls := .ref C, dict := some dx, data := .fields #[.ref t1, .none, .none, .none, .bool false, .none] }
  dbig : h.objs.size ≤ dx
  dne : dx ≠ x
  ns : h'.Ns1 dx (fun y => if y = F then some v else none)
/-- a made one -/
structure OwnMade (F : Str) (h h' : Heap) (e C d : Addr) (v : Value) : Prop where
  keep : ∀ b o, h.get? b = some o → h'.get? b = some o
  new : h.objs.size ≤ e
  obj : ∃ oe vs, h'.get? e = some oe ∧ oe.cls = .ref C ∧ oe.dict = some d ∧ oe.data = .fields vs ∧ vs[1]? = some .none
  dbig : h.objs.size ≤ d
  dne : d ≠ e
  ns : h'.Ns1 d (fun y => if y = F then some v else none)
/-- the module's names in a heap -/
structure NsOk (h : Heap) (mg : Str → Option Value) : Prop where
  g : h.Ns mainGlobals mg
  b : ∃ mb, h.Ns builtinsNs mb ∧ ∀ x : Str, x ≠ "__name__" → mb x = bootBuiltins x
  lim : h.NoLimit
theorem NsOk.keeps {h h' : Heap} {mg : Str → Option Value} (n : NsOk h mg) (k : ∀ b o, h.get? b = some o → h'.get? b = some o) : NsOk h' mg :=
  ⟨n.g.keeps k, let ⟨mb, hb, e⟩ := n.b; ⟨mb, hb.keeps k, e⟩, n.lim.keeps k⟩
section
variable {prog : Program} {w : World} {A : Around} {E : Value → Shared → Prop} {h : Heap} {g : Array GenState} {d : Drawn} {t : Nat} {os : OsState}
variable {nm q : Str} {C N : Addr} {bs bm : List Value} {hdct : Bool} {sn : List Str} {sub : List Value} {ab : Bool} {col : Option Bool} {dd : Option Addr} {k0 k1 k2 k3 k5 : Option Value}
/-- ValueError.__init__ bound to a fresh exception, called -/
theorem wrap_call {u e t0 : Addr} {rest : List Value} {Q : Value → Shared → Prop} (hC : h.get? C = some (excClassObj nm q C N bs bm hdct sn sub ab col dd k0 k1 k2 k3 k5 "ValueError.__new__"))
    (he : h.get? e = some (excO C t0)) (hu : h.get? u = some (kxs_mw "ValueError.__init__" e)) (hz : rest.length ≤ sizeLine)
    (hq : ∀ h' t1, (∀ b o, b ≠ e → h.get? b = some o → h'.get? b = some o) → h'.get? e = some (excO C t1) → Q .none ⟨h', g, d, t, os⟩) :
    wpAny (model prog w) A (call (.ref u) rest) Q E ⟨h, g, d, t, os⟩ := by
  have FB := F.excBase_ValueError
  refine wpAny_call (codeAny_of_tree ?_)
  show wpAny _ A.in1 (callAny (.ref u) ⟨rest, []⟩) _ _ _
  simp only [callAny]
  refine wpAny_bind (wpAny_load hu ?_)
  have y : (Value.type "method-wrapper" == Value.type "method" || Value.type "method-wrapper" == Value.type "builtin_function_or_method" || Value.type "method-wrapper" == Value.type "method-wrapper") = true := by decide
  simp only [kxs_mw, y, if_true]
  refine KFB.if_so (by decide) ?_
  refine wpAny_bind (check_bound_init FB.toExcCallFacts hC he rfl (wpAny_bind (wpAny_pure (wpAny_pure ⟨plainId_quiet FB.init.plain _, codeAny_builtin FB.initEntry ?_⟩))))
  exact exc_init_tree (cls := .ref C) (t0 := t0) (dv := none) (c2 := .none) (c3 := .none) (b4 := .bool false) he hz fun h' k e' _ => hq h' _ k e'
end
section
variable {prog : Program} {w : World} {A : Around} {E : Value → Shared → Prop} {R : Result → Shared → Prop} {s : Shared} {K : Frag} {mg : Str → Option Value} {X qual F : Str} {C fI : Addr}
theorem sup_init (T : SupTxt prog K mg X qual F C fI) {x t0 : Addr} {v : Value} (Y : K.In s.heap) (M : NsOk s.heap mg) (hx : s.heap.get? x = some (excO C t0)) (hnx : K.lookup x = none) (hroom : A.depth < recursionLimit)
    (hq : ∀ h' tk dx t1, InitEnd F s.heap h' x C dx t1 v → R (.ok (.ret .none)) { s with heap := h', toks := tk }) :
    codeAny (model prog w) A (.call (.ref fI) ⟨[.ref x, v], []⟩) R s := by
  obtain ⟨oc, od, doc, pm, an, cda, cc, ct, osl, p1, p2, a1, a2, a3, a4, a5, a6, b1, b2, b3, b4, ccl, cl, cdd, cld, vs, ccs, csl, file, tf, ho, hcd, hcda, hvs, hfile, hl, hcc⟩ := T.fn
  obtain ⟨nm, q, N, bs, bm, sn, sub, ab, col, dd, k0, k1, k2, k3, k5, hC, hbm⟩ := T.cls
  have hcl : clsIn K C = some { name := nm, bases := bs, mro := .ref C :: bm, ns := N, qualname := q, hasDict := true, slotNames := sn, subclasses := sub, abstract := ab, collection := col, hasDel := false } := by unfold clsIn; rw [hC] <;> rfl
  have nF : ¬ F = "self" := fun e => by
    have z := T.nF
    rw [e] at z
    exact absurd z (by decide)
  refine ks_codeAny_call_defAt (binds := [("self", .ref x), (F, v)]) hroom (Y _ _ ho) rfl M.lim (codeRec_of Y hcd) rfl ?_ ?_ ?_ (fun h₁ hns k => ?_) rfl rfl rfl
  · exact BindsTo.of_eq (T.bnd _ _ _ _ _ _ _ _ _ _ _ _)
  · intro y hy
    have hy' : y ∈ (iS F).names := hy
    simp only [iS, List.mem_cons, List.not_mem_nil, or_false] at hy'
    rcases hy' with rfl | rfl | rfl | rfl <;> (intro z; cases z)
  · intro y hy
    rcases List.mem_cons.mp hy with rfl | hy
    · rfl
    · obtain rfl := List.mem_singleton.mp hy
      exact T.lF
  have Y₁ : K.In h₁ := Y.keeps k
  have M₁ := M.keeps k
  have hx₁ := k _ _ hx
  have sl : List.lookup ("self" : Str) ([("self", Value.ref x), (F, v)] : List (Str × Value)).reverse = some (.ref x) := by
    show List.lookup ("self" : Str) ([(F, v), ("self", Value.ref x)] : List (Str × Value)) = _
    have z : (("self" : Str) == F) = false := by simpa using fun e : ("self" : Str) = F => nF e.symm
    simp [List.lookup, z]
  have fl : List.lookup F ([("self", Value.ref x), (F, v)] : List (Str × Value)).reverse = some v := by
    show List.lookup F ([(F, v), ("self", Value.ref x)] : List (Str × Value)) = _
    simp [List.lookup]
  have hxC : x ≠ C := fun e => by
    have z := Y _ _ hC
    rw [← e, hx] at z
    cases z
  obtain ⟨mb, nb, eb⟩ := M₁.b
  obtain ⟨hp, g, d, t, os⟩ := s
  have hI : Looks (model prog w) h₁ (isInstance (.ref x) (.type "ValueError")) true := (W.InstAt.type (od := none) ⟨hx₁, rfl, rfl, trivial⟩ : Looks (model prog w) h₁ (typeOf (.ref x)) (.ref C)).andThen (looks_subIn Y₁ T.veC)
  refine ks_wpAt_execs_cons ?_
  refine ks_wpAt_Expr_any ?_
  refine ks_wpAt_MethodCall (he := ev_one hl) ?_
  refine ks_wpAt_super_base (env := ksEnv qual (iS F) hp.objs.size fI (.ref cda) cc) (ar := { arg := "self", annotation := none, pos := p1 }) T.lS T.lC rfl rfl (Y₁ _ _ ho) rfl rfl rfl (Y₁ _ _ hcda) rfl hvs hfile T.top ?_
  refine ks_loadName_global rfl T.lS (loadGlobal_builtin (env := ksEnv qual (iS F) hp.objs.size fI (.ref cda) cc) M₁.g T.gS nb ((eb _ (by decide +kernel)).trans PyProof.Rows.Boot.«super») ⟨rfl, ?_⟩)
  refine wpAny_loadName_free rfl T.lC rfl ⟨_, Y₁ _ _ hcc, rfl⟩ ?_
  refine wpAny_loadName_local rfl rfl hns sl ?_
  refine ks_wpAny_isType_cls (Y₁ _ _ hC) rfl ⟨rfl, ?_⟩
  refine ks_wpAny_call_super (Y₁ _ _ hC) rfl hx₁ rfl (fun c z => by cases z) (looks_mroIn Y₁ T.slf) fun h₂ hso k₂ => ?_
  have Y₂ := Y₁.keeps k₂
  have hx₂ := k₂ _ _ hx₁
  have hsup : alongIn K "__init__" (((Value.ref C :: bm).dropWhile (· != .ref C)).drop 1) = some (some (.builtin "ValueError.__init__")) := by
    have z := T.sup
    unfold ks_superIn at z
    rw [hcl] at z
    exact z
  refine kxs_getMethod kxs_ValueError hso (looks_opaque Y₂ T.thp) (l₀ := .ref C :: bm) (fun A Q E s k q => wpAny_bind ((looks_clsIn Y₂ hcl) A _ E s k (wpAny_pure q))) rfl Y₂ hsup (hI.keeps k₂) hxC (by decide) ?_
  have hn₃ : ∀ b o, h₂.get? b = some o → (h₂.push (kxs_mw "ValueError.__init__" x)).get? b = some o := fun b o z => Heap.get?_push_of_some _ z
  have hu₃ : (h₂.push (kxs_mw "ValueError.__init__" x)).get? h₂.objs.size = some (kxs_mw "ValueError.__init__" x) := Heap.get?_push_at rfl rfl
  have ns₃ := (hns.keeps k₂).keeps hn₃
  refine kxs_callWith (i := "ValueError.__init__") (x := x) rfl (evalArgs_plain ?_)
  refine spliced_cons (wpAny_Name (wpAny_loadName_local rfl T.lF ns₃ fl ?_) T.dF)
  refine spliced_nil ⟨hu₃, ?_⟩
  refine wrap_call (hn₃ _ _ (Y₂ _ _ hC)) (hn₃ _ _ hx₂) hu₃ (one_size v) fun h₄ t4 k₄ hx₄ => ?_
  refine wpAt_of_wpAny ?_
  have old : ∀ b o, b ≠ x → h₁.get? b = some o → h₄.get? b = some o := fun b o hb z => k₄ b o hb (hn₃ _ _ (k₂ _ _ z))
  have Y₄ : K.In h₄ := fun b o z => old b o (fun e => by rw [e, hnx] at z; cases z) (Y₁ b o z)
  have hxL : hp.objs.size ≠ x := Nat.ne_of_gt (Heap.lt_size hx)
  have ns₄ : h₄.Ns hp.objs.size (fun y => List.lookup y ([("self", Value.ref x), (F, v)] : List (Str × Value)).reverse) := hns.at fun o z => old _ o hxL z
  show wpAny _ _ (execs _ _) _ _ _
  refine wpAny_execs_cons (plainObj_wpAny_Assign_Attribute ?_)
  refine wpAny_Name (wpAny_loadName_local rfl T.lF ns₄ fl ?_) T.dF
  refine wpAny_Name (wpAny_loadName_local rfl rfl ns₄ sl ?_)
  refine set_plain Y₄ (ox := excO C t4) (od := none) ⟨hx₄, rfl, rfl, trivial⟩ T.sa ?_
  refine exc_osa Y₄ hx₄ hcl (show refsVE (.ref C :: bm) = true from hbm) rfl T.noN (fun h₅ tk₅ dx k₅ dn dne hx₅ hn₅ => ?_)
  show wpAny _ _ (execs _ _) _ _ _
  refine wpAny_execs_nil (hq h₅ tk₅ dx t4 ⟨fun b o hb e => k₅ b o hb (old b o hb (k b o e)), hx₅, ?_, dne, hn₅⟩)
  exact Nat.le_trans (Nat.le_of_lt ns₄.lt) dn
/-- X(v) -/
theorem sup_made (T : SupTxt prog K mg X qual F C fI) {v : Value} (Y : K.In s.heap) (M : NsOk s.heap mg) (hroom : A.depth + 1 < recursionLimit)
    (hq : ∀ h' tk e d, OwnMade F s.heap h' e C d v → R (.ok (.ret (.ref e))) { s with heap := h', toks := tk }) :
    codeAny (model prog w) A (.call (.ref C) ⟨[v], []⟩) R s := by
  obtain ⟨nm, q, N, bs, bm, sn, sub, ab, col, dd, k0, k1, k2, k3, k5, hC, hbm⟩ := T.cls
  obtain ⟨hp, g, dr, tk, os⟩ := s
  have k : ∀ b o, hp.get? b = some o → ((hp.push (kdv_tup [v])).push (excO C hp.objs.size)).get? b = some o := fun b o e => Heap.get?_push_of_some _ (Heap.get?_push_of_some _ e)
  have hget : ((hp.push (kdv_tup [v])).push (excO C hp.objs.size)).get? (hp.objs.size + 1) = some (excO C hp.objs.size) := by heap_get
  have hnx : K.lookup (hp.objs.size + 1) = none := by
    cases e : K.lookup (hp.objs.size + 1) with
    | none => rfl
    | some o =>
      have z : hp.get? (hp.objs.size + 1) = some o := Y _ _ e
      exact absurd (Nat.lt_of_succ_lt (Heap.lt_size z)) (Nat.lt_irrefl _)
  refine call_own PySem.F.excBase_ValueError (fun X => refsVE_contains X bm hbm) (Y _ _ hC) (looks_findIn Y T.iC) (fun self => bind_fn Y self T.tC) (one_size v) ?_
  refine sup_init (s := ⟨(hp.push (kdv_tup [v])).push (excO C hp.objs.size), g, dr, tk, os⟩) T (Y.keeps k) (M.keeps k) hget hnx ?_ fun h' tk' dx t1 ⟨k', hx, dn, dne, hns⟩ => ?_
  · show A.depth + 1 < recursionLimit
    exact hroom
  · have old : ∀ b o, hp.get? b = some o → h'.get? b = some o := fun b o e => k' b o (Nat.ne_of_lt (Nat.lt_succ_of_lt (Heap.lt_size e))) (k b o e)
    have z : hp.objs.size + 1 + 1 ≤ dx := by
      first
        | (simpa only [Heap.size_push] using dn)
        | exact dn
        | (have q := dn; rw [Heap.size_push, Heap.size_push] at q; exact q)
    exact ⟨rfl, hq h' tk' (hp.objs.size + 1) dx ⟨old, Nat.le_succ _, ⟨_, _, hx, rfl, rfl, rfl, rfl⟩, Nat.le_trans (Nat.le_trans (Nat.le_succ _) (Nat.le_succ _)) z, dne, hns⟩⟩
end
end SupX
namespace L2
open PySem PySem.Spec PyProof.Rows SupX
theorem relO_one {F : Str} {v : V} {v' : Value} (r : RelV v v') (f : Str) : RelO (List.lookup f [(F, v)]) (if f = F then some v' else none) := by
  by_cases hw : f = F
  · subst hw
    rw [if_pos rfl]
    have q : List.lookup f [(f, v)] = some v := by simp [List.lookup]
    rw [q]
    exact r
  · rw [if_neg hw]
    have qw : (f == F) = false := by simpa using hw
    have q2 : List.lookup f [(F, v)] = none := by simp [List.lookup, qw]
    rw [q2]
    trivial
section
variable {X : Cx} {C fI : Addr} {x qual F : Str}
/-- x(e), an own error of one field F -/
def tMkSup (C : Addr) (F : Str) (ta : TA) : St → Hp → XK → Prop := fun σ H Q => ta σ H fun vs H1 => ∃ v, vs = [v] ∧ ∀ d, H1 d = none → Q (.ref C) (some d) (upd H1 d (.xd [(F, v)]))
theorem pmk_sup {a : Expr} {ta : TA} {p pos : Pos} {k : Nat} (T : SupTxt X.prog X.K X.mg x qual F C fI) (hr : Room k X.A) (ha : PA X [a] ta) (hg : Gl X x := by rfl) (hdb : (x == ("__debug__" : Str)) = false := by decide)
    (he : starEach (a :: []) X.env = (false, eval a X.env) :: starEach [] X.env := by rfl) (hpl : (backTo pos (starEach [] X.env)).any (·.1) = false := by rfl) :
    PMk X (.Call (.Name x p) [a] [] pos) (tMkSup C F ta) := by
  intro pins s σ H Q I h
  refine wpAny_Call_Name_kw (ld_glob I hg T.gC ?_ hdb)
  refine PySem.W.callWith_K (h₀ := X.base) I.ok.mod.kin T.kC (thn (ha.run pos pins s σ H _ I h) fun us s1 hh => ?_) he hpl
  obtain ⟨vs, H1, I1, r1, v, ev, q1⟩ := hh
  subst ev
  refine ⟨I1.kIn, ?_⟩
  cases r1 with
  | cons rv rn =>
    rename_i v' us'
    cases rn
    show wpAny _ _ (call (.ref C) [v']) _ _ _
    have M1 : NsOk s1.heap X.mg := ⟨I1.ok.mod.glob.keeps I1.bk, let ⟨mb, hb, e⟩ := I1.ok.mod.blt; ⟨mb, hb.keeps I1.bk, e⟩, I1.nolimit⟩
    obtain ⟨hp, g, dr, tk, os⟩ := s1
    refine wpAny_call (sup_made T I1.kIn M1 (by have := hr.dp; omega) fun h' tk' e d M => ?_)
    show MkP X pins σ Q (.ref e) ⟨h', g, dr, tk', os⟩
    obtain ⟨oe, fv, hoe, hc, hd, hdat, h1⟩ := M.obj
    have hns := M.ns
    obtain ⟨G', g1, g2⟩ := restrict h' fun b => decide (b ≠ e)
    have gk : ∀ b, b ≠ e → G'.get? b = h'.get? b := fun b hb => g1 b (decide_eq_true hb)
    have ge : G'.get? e = none := g2 e (by simp)
    have old : ∀ b o, hp.get? b = some o → G'.get? b = some o := fun b o q => (gk b (Nat.ne_of_lt (Nat.lt_of_lt_of_le (Heap.lt_size q) M.new))).trans (M.keep b o q)
    have ob : ObjOk X.prog X.w (upd H1 d (.xd [(F, v)])) G' d (.xd [(F, v)]) :=
      ⟨_, hns.at (fun o q => (gk d M.dne).trans q), fun f => relO_one rv f⟩
    have J : Inv X pins σ (upd H1 d (.xd [(F, v)])) ⟨G', g, dr, tk', os⟩ := I1.laid (t' := tk') old M.dbig ob
    refine ⟨e, oe, fv, ⟨G', g, dr, tk', os⟩, _, .ref C, some d, rfl, J, fun b o q => ?_, ge, hoe, ⟨hc, hd⟩, hdat, h1, ?_, rfl, I1.bare, raises_own T.exC T.tyC, q1 d (I1.hok.fresh M.dbig)⟩
    · by_cases hb : b = e
      · have q' : G'.get? b = some o := q
        rw [hb, ge] at q'; cases q'
      · exact (gk b hb).symm.trans q
    · rw [upd_ne (Ne.symm M.dne)]
      exact I1.hok.fresh M.new
/-- raise x(e) -/
def tRaiseSup (C : Addr) (F : Str) (W : WX) (ta : TA) : TS := fun _ σ H => tMkSup C F ta σ H fun cls d H' => W cls d σ H'
theorem ps_raiseSup {a : Expr} {ta : TA} {W : WX} {p pos pos2 : Pos} {k : Nat} (hc : X.calm = true) (T : SupTxt X.prog X.K X.mg x qual F C fI) (hr : Room k X.A) (tk : Takes X W) (ha : PA X [a] ta) (hg : Gl X x := by rfl) (hdb : (x == ("__debug__" : Str)) = false := by decide)
    (he : starEach (a :: []) X.env = (false, eval a X.env) :: starEach [] X.env := by rfl) (hpl : (backTo pos (starEach [] X.env)).any (·.1) = false := by rfl) :
    PS X (.Raise (some (.Call (.Name x p) [a] [] pos)) none pos2) (tRaiseSup C F W ta) := ps_raise hc tk (pmk_sup T hr ha hg hdb he hpl)
/-- e.F, e the exception that the suite holds (at a; its class cls, its dict d) -/
def tBySup (C : Addr) (F : Str) (a : Addr) (cls : Value) (d : Option Addr) (te : TE) : TE := fun σ H Q => te σ H fun x H1 => x = .ref a ∧ cls = .ref C ∧ ∃ (dd : Addr) (v : V), d = some dd ∧ H1 dd = some (.xd [(F, v)]) ∧ Q v H1
theorem pe_bySup {a : Addr} {oe : Obj} {cls : Value} {d : Option Addr} {pn : List (Addr × Obj)} {e : Expr} {te : TE} {pos : Pos} (T : SupTxt X.prog X.K X.mg x qual F C fI) (hz : Zc cls d oe) (hf : ∃ vs, oe.data = .fields vs) (he : PE (X.suite a ((a, oe) :: pn)) e te)
    (hb : attributeBase e F X.env (eval e X.env) = eval e X.env := by rfl) :
    PE (X.suite a ((a, oe) :: pn)) (.Attribute e F pos) (tBySup C F a cls d te) := by
  refine ⟨fun pins s σ H Q I h => ?_⟩
  refine attr_of hb (thn (he.run pins s σ H _ I h) fun u s1 hh => ?_)
  obtain ⟨x, H1, I1, rx, ex, ec, dd, v, ed, ea, q⟩ := hh
  subst ex
  obtain rfl : u = Value.ref a := rx
  subst ec
  subst ed
  obtain ⟨ha, _⟩ := I1.pin (a, oe) (List.mem_append_left _ List.mem_cons_self)
  obtain ⟨vs, hd⟩ := hf
  have hx : ObjOk X.prog X.w H1 s1.heap dd (.xd [(F, v)]) := I1.hok dd _ ea
  obtain ⟨mA, hns, hr⟩ := hx
  obtain ⟨od, ho, hl⟩ := lookIn_ns hns
  have l : List.lookup F [(F, v)] = some v := by simp [List.lookup]
  obtain ⟨u, hu, ru⟩ := RelO.some_of (v := v) (o := mA F) (by rw [← l]; exact hr F)
  have J : PySem.W.InstAt s1.heap a oe C (some od) := ⟨ha, hz.1, by unfold PySem.W.notCls; rw [hd] <;> rfl, by rw [hz.2]; exact ho⟩
  exact PySem.HandSPX.exc_get I1.kIn J T.ga T.gg T.exC (PySem.W.findObj_own T.hdC T.noN rfl (by rw [hl, hu])) (handed_of ru) ⟨v, H1, I1.tok _, ru, q⟩
end
end L2
namespace SupX
open PySem PySem.W PySem.Calls PyProof.Rows PySem.HandSPX
/-- an error of the class at S is what «except S» names -/
theorem exm_self {K : Frag} {S : Addr} (h1 : subIn K (.ref S) (.type "BaseException") = some true) (h2 : isClsIn K S = true) (h3 : typeIn K (.ref S) = some (.type "type")) (h4 : subIn K (.ref S) (.ref S) = some true) : exmOne K (.ref S) (.ref S) = some true := by
  have e1 : (subIn K (.ref S) (.type "BaseException") == some true) = true := by rw [h1] <;> rfl
  have e2 : ((clsIn K S).isSome && typeIn K (.ref S) == some (.type "type")) = true := by
    have h2' : (clsIn K S).isSome = true := h2
    rw [h2', h3] <;> rfl
  show (if (subIn K (.ref S) (.type "BaseException") == some true) = true then (if ((clsIn K S).isSome && typeIn K (.ref S) == some (.type "type")) = true then subIn K (.ref S) (.ref S) else none) else none) = some true
  rw [if_pos e1, if_pos e2]
  exact h4
end SupX
/-! Rules over data (Dp): sorted, list.remove, in over tuples; sorted(dict of ints) at any length; t[::-1]; o.m(k=v). -/
namespace L2
open PySem PySem.Spec PyProof.Rows
section
variable {X : Cx}
/-! ### data, item by item -/
theorem DpAll.length {K : PySem.W.Frag} {H : Hp} : ∀ {vs : List V} {ds : List PyData}, DpAll K H vs ds → vs.length = ds.length
  | _, _, .nil => rfl
  | _, _, .cons _ t => by rw [List.length_cons, List.length_cons, DpAll.length t]
theorem DpAll.each {pins : List (Addr × Obj)} {σ : St} {H : Hp} {s : Shared} (I : Inv X pins σ H s) : ∀ {ps : List (V × PyData)} {us : List Value}, (∀ p ∈ ps, Dp X.K H p.1 p.2) → Vals (ps.map (·.1)) us →
    PySem.W.EachIs (fun u (p : V × PyData) => RelV p.1 u) us ps ∧ PySem.W.EachIs (fun u (p : V × PyData) => ∃ as, Reads s.heap u p.2 as) us ps
  | [], _, _, r => by
    cases r
    exact ⟨.nil, .nil⟩
  | p :: ps, _, h, r => by
    cases r with
    | cons r1 r2 =>
      obtain ⟨h1, h2⟩ := DpAll.each I (fun q hq => h q (List.mem_cons_of_mem _ hq)) r2
      exact ⟨.cons r1 h1, .cons (Dp.reads I p.2 p.1 _ (h p List.mem_cons_self) r1) h2⟩
theorem vals_each : ∀ {ps : List (V × PyData)} {us : List Value}, PySem.W.EachIs (fun u (p : V × PyData) => RelV p.1 u) us ps → Vals (ps.map (·.1)) us
  | _, _, .nil => .nil
  | _, _, .cons r t => .cons r (vals_each t)
/-! ### sorted of data -/
def leD (p q : V × PyData) : Bool := PySem.W.dataLe false (fun p : V × PyData => p.2) p q
def rSortD (K : PySem.W.Frag) : List V → Hp → VK → Prop := fun vs H Q => ∃ (a : Addr) (ps : List (V × PyData)), vs = [V.ref a] ∧ SqL K H a (ps.map (·.1)) ∧ (∀ p ∈ ps, Dp K H p.1 p.2) ∧ PySem.W.AllAlike (ps.map (·.2)) ∧ PySem.W.Sortable (ps.map (·.2)) ∧
  (∀ p ∈ ps, p.2.depth ≤ 60) ∧ ∀ p, H p = none → Q (.ref p) (upd H p (.lst ((ps.mergeSort leD).map (·.1))))
theorem cr_sortD (hu : X.A.units + 64 < cLine) : CallR X (.builtin "sorted") (rSortD X.K) := by
  intro pins s σ H vs us Q I r h
  obtain ⟨a, ps, rfl, hs, hd, hal, hso, hdep, q⟩ := h
  obtain ⟨its, rv, hl, hz⟩ := I.list hs
  rw [Vals.ref1 r]
  obtain ⟨e1, e2⟩ := DpAll.each I hd rv
  rw [List.length_map] at hz
  refine PySem.W.sorted_data (enc := fun p : V × PyData => p.2) hl.isList e1 e2 hal hso hz (fun b hb => by have := hdep b hb; show X.A.units + 2 + b.2.depth < cLine; omega) fun out hlen ho => ?_
  obtain ⟨ep, he'⟩ := PyProof.Rows.sortedAll_at s.heap its out.toArray
  have hlen' : ((ps.mergeSort leD).map (·.1)).length ≤ sizeLine := by rw [List.length_map, List.length_mergeSort]; exact hz
  exact ⟨.ref _, upd H (s.heap.objs.size + 1) (.lst ((ps.mergeSort leD).map (·.1))), I.laid (t' := s.toks) (fun _ _ => PyProof.Rows.sortedAll_old) (Nat.le_succ _) ⟨hlen', out, ep, vals_each ho, he'⟩, rfl, q _ (I.hok.fresh (Nat.le_succ _))⟩
/-! ### l.remove(x), the first equal one -/
def rRemoveD (K : PySem.W.Frag) : V → List V → Hp → VK → Prop := fun x vs H Q => ∃ (l : Addr) (xs : List V) (ds : List PyData) (y : V) (d : PyData) (j : Nat), x = .ref l ∧ vs = [y] ∧ H l = some (.lst xs) ∧ DpAll K H xs ds ∧ Dp K H y d ∧
  SeqAt.shaped (.list ds) = true ∧ SeqAt.shaped d = true ∧ SeqAt.dataPlace ds d = some j ∧ Q .non (upd H l (.lst (xs.eraseIdx j)))
theorem mt_removeD (hu : X.A.units + 66 < cLine) : MtM X "list.remove" (rRemoveD X.K) := by
  intro pins s σ H x vs v us Q I rx rv h
  obtain ⟨l, xs, ds, y, d, j, rfl, rfl, hH, hds, hd, hl1, hl2, hp, q⟩ := h
  cases rx
  obtain ⟨u, rfl, ru⟩ := rv.one
  obtain ⟨as, r1⟩ := Dp.reads I d y u hd ru
  obtain ⟨z, its, n, r, hl, e⟩ := I.lstM hH
  obtain ⟨bs, r2⟩ := Dp.readsAll I ds xs its hds r
  have hroom : X.A.units + 1 + min (PyData.depthAll ds) d.depth < cLine := room_in_shaped hl2 (by omega)
  refine SeqAt.remove_list_data (vs := its.toArray) (xs := ds) (d := d) (j := j) (PlainL.isList ⟨_, n, e, rfl, rfl, rfl⟩) r2 r1 (PyData.plainAll_of_canLay0 _ (SeqAt.canLay_of_shaped hl1)) (PyData.plain_of_canLay0 _ (SeqAt.canLay_of_shaped hl2)) hroom hp (by rw [List.size_toArray]; omega) ?_
  refine ⟨.non, _, I.lset (its' := its.eraseIdx j) hH e ?_ (r.eraseIdx j) ?_, rfl, q⟩
  · show its.toArray.eraseIdxIfInBounds j = (its.eraseIdx j).toArray
    rw [List.eraseIdxIfInBounds_toArray]
  · have := len_erase xs j
    omega
/-! ### x in t, t a tuple of data -/
def rInTD (K : PySem.W.Frag) : R2 := fun x y H Q => ∃ d ds, Dp K H x d ∧ Dp K H y (.tuple ds) ∧ SeqAt.shaped d = true ∧ SeqAt.shaped (.tuple ds) = true ∧ Q (.bl (ds.any fun z => PyData.eqv z d)) H
def rNotInTD (K : PySem.W.Frag) : R2 := fun x y H Q => ∃ d ds, Dp K H x d ∧ Dp K H y (.tuple ds) ∧ SeqAt.shaped d = true ∧ SeqAt.shaped (.tuple ds) = true ∧ Q (.bl (!ds.any fun z => PyData.eqv z d)) H
theorem op_inTD (hu : X.A.units + 65 < cLine) : OpR X (compareOp .In) (rInTD X.K) := by
  intro pins s σ H x y v u Q I rx ry h
  obtain ⟨d, ds, hd, he, sd, se, q⟩ := h
  obtain ⟨as, r1⟩ := Dp.reads I d x v hd rx
  obtain ⟨bs, r2⟩ := Dp.reads I (.tuple ds) y u he ry
  exact SeqAt.in_tuple_reads r2 r1 (SeqAt.canLay_of_shaped se) (SeqAt.canLay_of_shaped sd) (room_in_shaped sd hu) ⟨.bl _, H, I, rfl, q⟩
theorem op_notInTD (hu : X.A.units + 65 < cLine) : OpR X (compareOp .NotIn) (rNotInTD X.K) := by
  intro pins s σ H x y v u Q I rx ry h
  obtain ⟨d, ds, hd, he, sd, se, q⟩ := h
  obtain ⟨as, r1⟩ := Dp.reads I d x v hd rx
  obtain ⟨bs, r2⟩ := Dp.reads I (.tuple ds) y u he ry
  exact SeqAt.notIn_tuple_reads r2 r1 (SeqAt.canLay_of_shaped se) (SeqAt.canLay_of_shaped sd) (room_in_shaped sd hu) ⟨.bl _, H, I, rfl, q⟩
end
section
variable {X : Cx} {CX : CXT} {k : Nat} {f C : Addr} {fd : FuncData} {ps ks : List Str} {sp : Sp} {E : XK} {x m : Str} {p pos apos kpos : Pos} {e o : Expr} {es : List Expr} {kws : List Keyword} {te ta : TE} {t tk : TA} {nm : Option Str}
variable {g : List Value → List Value → List Value} {gV : List V → List V → List V}
/-! ### calls by keywords alone -/
/-- f(k = v, ..) -/
theorem pe_callK0 (F : FnOk X.prog X.w X.K X.mg X.base CX k f fd ps sp) (hr : Room k X.A) (hg : Gl X x) (hm : X.mg x = some (.ref f)) (hk : PySem.W.keepIn X.K (.ref f) = true) (hb : KBinds X.K fd ps ks g gV) (hx : Passes CX X E)
    (hkw : PK X kws tk) (hall : (backToKw pos (keywordEach kws X.env)).all (·.1.isSome) = true := by rfl) (hks : (backToKw pos (keywordEach kws X.env)).filterMap (·.1) = ks := by rfl)
    (hdb : (x == ("__debug__" : Str)) = false := by decide) (hpl : ((backTo pos (starEach [] X.env)).any (·.1) || (backToKw pos (keywordEach kws X.env)).any (·.1.isNone)) = false := by rfl) :
    PE X (.Call (.Name x p) [] kws pos) (tCallK sp gV E tNil tk) := by
  refine ⟨fun pins s σ H Q I h => ?_⟩
  refine wpAny_Call_Name_kw (ld_glob I hg hm ?_ hdb)
  refine PySem.W.callWith_KW0 (first := []) (h₀ := X.base) I.ok.mod.kin hk hall ?_ hpl
  refine thn (hkw.run pos pins s σ H _ I h) fun ws s2 ⟨zs, H2, I2, rz, q2⟩ => ⟨I2.kIn, ?_⟩
  rw [hks]
  exact run_fnk (us := []) F hr hb hx I2 .nil rz q2
/-- o.m(k = v, ..) -/
def tMethK (C : Addr) (m : Str) (sp : Sp) (gV : List V → List V → List V) (E : XK) (ta : TE) (tk : TA) : TE := fun σ H Q => ta σ H fun x H1 => ∃ a dx fs, x = .ref a ∧ H1 a = some (.ins C dx fs) ∧ fs.lookup m = none ∧
  tk σ H1 fun zs H2 => sp (gV [x] zs) H2 Q E
theorem pe_methK0 {pl : Sem Bool} (he : PE X o ta) (c : Cls X.K C) (hm : Meth X.K C m f) (F : FnOk X.prog X.w X.K X.mg X.base CX k f fd ps sp) (hr : Room k X.A) (hb : KBinds X.K fd ps ks g gV) (hx : Passes CX X E)
    (hkw : PK X kws tk) (hall : (backToKw pos (keywordEach kws X.env)).all (·.1.isSome) = true := by rfl) (hks : (backToKw pos (keywordEach kws X.env)).filterMap (·.1) = ks := by rfl)
    (hpl : ((backTo pos (starEach [] X.env)).any (·.1) || (backToKw pos (keywordEach kws X.env)).any (·.1.isNone)) = false := by rfl)
    (ht : eval (.Call (.Attribute o m apos) [] kws pos) X.env = (do
      let ov ← eval o X.env
      standAt apos.atName
      let (f, first) ← holding [ov] (getMethod ov m pl)
      callWith pos f first (backTo pos (starEach [] X.env)) (backToKw pos (keywordEach kws X.env))) := by rfl) :
    PE X (.Call (.Attribute o m apos) [] kws pos) (tMethK C m sp gV E ta tk) := by
  refine ⟨fun pins s σ H Q I h => ?_⟩
  refine PySem.W.methodCall_KW (pl := pl) (thn (he.run pins s σ H _ I h) fun u s1 ⟨x, H1, I1, rx, a, dx, fs, ex, ea, l, q⟩ => ?_) ht
  subst ex
  obtain rfl : u = Value.ref a := rx
  refine getmeth_ok I1 ea c hm l ?_
  refine PySem.W.callWith_KW0 (first := [.ref a]) (h₀ := X.base) I.ok.mod.kin hm.kp hall ?_ hpl
  refine thn (hkw.run pos pins s1 σ H1 _ I1 q) fun ws s2 ⟨zs, H2, I2, rz, q2⟩ => ⟨I2.kIn, ?_⟩
  rw [hks]
  exact run_fnk (us := [.ref a]) (vs := [.ref a]) F hr hb hx I2 (.cons rfl .nil) rz q2
end
namespace TRev
open HT
section
variable {prog : Program} {w : World} {A : Around} {E : Value → Shared → Prop} {s : Shared}
theorem fm_congr {α β : Type} {f g : α → Option β} : ∀ {l : List α}, (∀ x ∈ l, f x = g x) → l.filterMap f = l.filterMap g
  | [], _ => rfl
  | a :: l, h => by rw [List.filterMap_cons, List.filterMap_cons, h a List.mem_cons_self, fm_congr fun x hx => h x (List.mem_cons_of_mem _ hx)]
theorem adjust_rev (n : Nat) : Builtin.Slice.sliceAdjust none none (-1) (n : Int) = ((n : Int) - 1, -1) := by
  unfold Builtin.Slice.sliceAdjust
  have h : (-1 : Int) < 0 := by decide
  simp only [h, if_true]
theorem places_rev (n : Nat) : Builtin.Slice.slicePlaces ((n : Int) - 1) (-1) (-1) = n := by
  unfold Builtin.Slice.slicePlaces
  have h : ¬ (-1 : Int) > 0 := by decide
  have e : -(-1 : Int) = 1 := by decide
  simp only [h, if_false, e, Int.ediv_one]
  split <;> omega
theorem pick_rev (xs : Array Value) : ((List.range xs.size).filterMap fun (m : Nat) => xs[(((xs.size : Int) - 1) + (m : Int) * (-1)).toNat]?).toArray = xs.toList.reverse.toArray := by
  congr 1
  have e : (List.range xs.size).filterMap (fun (m : Nat) => xs[(((xs.size : Int) - 1) + (m : Int) * (-1)).toNat]?) = ((List.range xs.size).map fun k => xs.size - 1 - k).filterMap (xs[·]?) := by
    rw [List.filterMap_map]
    refine fm_congr fun m hm => ?_
    have hm' := List.mem_range.mp hm
    have z : (((xs.size : Int) - 1) + (m : Int) * (-1)).toNat = xs.size - 1 - m := by omega
    show xs[(((xs.size : Int) - 1) + (m : Int) * (-1)).toNat]? = xs[xs.size - 1 - m]?
    rw [z]
  rw [e, PySem.W.krv_range, List.filterMap_reverse, PySem.W.krv_all]
theorem applied_rev {sl : Addr} {vl vu vs : Value} {n : Nat} {Q : Int × Int × Nat → Shared → Prop} (hs : s.heap.IsSliceOf sl vl vu vs) (pl : IsPart vl none) (pu : IsPart vu none) (ps : IsPart vs (some (-1)))
    (h : Q ((n : Int) - 1, -1, n) s) : wpAny (model prog w) A (Builtin.Slice.sliceApplied (.ref sl) (pure (n : Int))) Q E s := by
  obtain ⟨o, ho, _, hd⟩ := id hs
  unfold Builtin.Slice.sliceApplied Builtin.Slice.sliceFields
  refine wpAny_bind (wpAny_bind (wpAny_field ho hd (x := vl) rfl (wpAny_bind (wpAny_field ho hd (x := vu) rfl (wpAny_bind (wpAny_field ho hd (x := vs) rfl (wpAny_pure (wpAny_bind (slicePart_ ps ?_)))))))))
  refine W.KFB.if_not rfl (wpAny_bind (slicePart_ pl (wpAny_bind (slicePart_ pu (wpAny_bind (wpAny_pure ?_))))))
  simp only [Option.getD_some, adjust_rev, places_rev]
  exact wpAny_pure h
theorem getItem_tuple_rev {t sl : Addr} {items : Array Value} {vl vu vs : Value} {Q : Value → Shared → Prop} (ht : IsTup s.heap t items) (hs : s.heap.IsSliceOf sl vl vu vs) (pl : IsPart vl none) (pu : IsPart vu none) (ps : IsPart vs (some (-1)))
    (h : Q (.ref s.heap.objs.size) { s with heap := s.heap.push { cls := .type "tuple", data := .seq items.toList.reverse.toArray } })
    (hz : items.size ≤ sizeLine) : wpAny (model prog w) A (getItem (.ref t) (.ref sl)) Q E s := by
  have hok : sizeOk (.seq items.toList.reverse.toArray) := by
    show items.toList.reverse.toArray.size ≤ sizeLine
    simpa using hz
  have hT : s.TypeIs (.ref sl) "slice" := let ⟨o, ho, hc, _⟩ := hs; ⟨o, ho, hc⟩
  unfold getItem
  refine wpAny_holding (wpAny_bind (wpAny_sequenceKey ht.typeIs (by decide) ?_))
  refine wpAny_bind (wpAny_callSpecial?_slot (name := Str.ofString "__getitem__") ht.typeIs PyProof.Rows.slot_tuple_getitem (wpAny_call_entry PyProof.Rows.slot_tuple_getitem ht.typeIs PyProof.Rows.entry_tuple_getitem ?_ (PyProof.Rows.args_tuple_getitem _ _)))
  unfold Builtin.«tuple.__getitem__»
  refine wpAny_bind (m := slotArgs "__getitem__" 1 _) (wpAny_pure (wpAny_bind (PyProof.Rows.tupleItemsOf_ ht (wpAny_bind (wpAny_typeOf hT (W.KFB.if_so (by decide) (wpAny_bind (applied_rev hs pl pu ps ?_))))))))
  refine W.KFB.if_not (by rw [show ((-1 : Int) == 1) = false from rfl, Bool.and_false, Bool.false_and]) ?_
  rw [pick_rev]
  refine wpAny_bind (m := Builtin.Tuple.tupleExact _) (wpAny_newObj_type (wpAny_bind (wpAny_pure (wpAny_pure ⟨_, rfl, wpAny_pure h⟩))) hok)
end
end TRev
section
variable {X : Cx}
/-! ### t[::-1] of a tuple -/
def tRevT (K : PySem.W.Frag) (te : TE) : TE := fun σ H Q => te σ H fun x H1 => ∃ a xs, x = .ref a ∧ SqT K H1 a xs ∧ ∀ p, H1 p = none → Q (.ref p) (upd H1 p (.tup xs.reverse))
/-- the slice object of [::-1] -/
theorem rev_slice {k : Nat} {p1 p2 p3 : Pos} {pins : List (Addr × Obj)} {σ : St} {H : Hp} {s : Shared} {Q : Value → Shared → Prop} (I : Inv X pins σ H s)
    (h : ∀ (s1 : Shared) (vl vu vs : Value), IsPart vl none → IsPart vu none → IsPart vs (some (-1)) → Inv X pins σ H { s1 with heap := s1.heap.push { cls := .type "slice", data := .fields #[vl, vu, vs] } } →
      Q (.ref s1.heap.objs.size) { s1 with heap := s1.heap.push { cls := .type "slice", data := .fields #[vl, vu, vs] } }) :
    wpAny (model X.prog X.w) X.A (eval (.Slice none none (some (.UnaryOp .USub (.Constant (.int 1) k p1) p2)) p3) X.env) Q X.xe s := by
  have step : PO X (some (.UnaryOp .USub (.Constant (.int 1) k p1) p2)) (tPart (tUn (rU fun i => .int (-i)) (tC (.int 1)))) := po_some (pe_un un_neg pe_int)
  refine wpAny_Slice (thn (po_none.run pins s σ H (fun o H' => o = none ∧ H' = H) I ⟨rfl, rfl⟩) ?_)
  rintro vl s2 ⟨_, _, I2, pl, rfl, rfl⟩
  refine thn (po_none.run pins s2 σ _ (fun o H' => o = none ∧ H' = _) I2 ⟨rfl, rfl⟩) ?_
  rintro vu s3 ⟨_, _, I3, pu, rfl, rfl⟩
  refine thn (step.run pins s3 σ _ (fun o H' => o = some (-1) ∧ H' = _) I3 ⟨1, rfl, -1, rfl, rfl, rfl⟩) ?_
  rintro vs s4 ⟨_, _, I4, ps, rfl, rfl⟩
  exact h s4 vl vu vs pl pu ps (I4.kept (t' := s4.toks) fun b ob q => Heap.get?_push_of_some _ q)
theorem pe_revT {e : Expr} {te : TE} {k : Nat} {p1 p2 p3 pos : Pos} (he : PE X e te) : PE X (.Subscript e (.Slice none none (some (.UnaryOp .USub (.Constant (.int 1) k p1) p2)) p3) pos) (tRevT X.K te) := by
  refine ⟨fun pins s σ H Q I h => Subscript_ (thn (he.run pins s σ H _ I h) ?_)⟩
  rintro _ s1 ⟨_, H1, I1, rx, a, xs, rfl, hx, q⟩
  cases rx
  refine rev_slice I1 fun s4 vl vu vs pl pu ps I5 => ?_
  obtain ⟨its, r, ht, hz⟩ := I5.tuple hx
  refine tail_any (ops := [.ref a, .ref s4.heap.objs.size]) ht.typeIs (PyProof.Rows.slot_tuple_getitem.lookup) ?_ (by with_unfolding_all rfl)
  refine TRev.getItem_tuple_rev ht (Heap.IsSliceOf.new _ vl vu vs) pl pu ps ?_ (by rw [List.size_toArray, ← r.length]; exact hz)
  exact ⟨.ref _, _, I5.laid (t' := s4.toks) (o := .tup xs.reverse) (fun b ob w => Heap.get?_push_of_some _ w) (Nat.le_refl _) ⟨by rw [List.length_reverse]; exact hz, _, r.reverse, IsTup.new _ _⟩, rfl, q _ (I5.hok.fresh (Nat.le_refl _))⟩
/-! ### sorted(d), d with int keys, any number of them -/
theorem keys_ints {P : Program} {w : World} {vs : List (Key × Value)} {ks : List Int} {acc : List Value} (hk : vs.map (·.1) = ks.map Sum.inl) (hl : acc.length = vs.length)
    (ha : ∀ (j : Nat) (v : Value), acc[j]? = some v → ∃ k x, vs[j]? = some (k, x) ∧ (mixKind P w).is k v = true) : IntsAre acc ks := by
  have lk : vs.length = ks.length := by simpa using congrArg List.length hk
  refine ints_each (by omega) fun j v e => ?_
  obtain ⟨k, x, e1, e2⟩ := ha j v e
  have ej : (ks.map Sum.inl)[j]? = some k := by rw [← hk, List.getElem?_map, e1]; rfl
  rw [List.getElem?_map, Option.map_eq_some_iff] at ej
  obtain ⟨n, en, rfl⟩ := ej
  obtain ⟨t, et⟩ := Value.isInt_shape (k := n) (v := v) e2
  exact ⟨n, t, en, et⟩
theorem sorted_keys {P : Program} {w : World} {A : Around} {E : Value → Shared → Prop} {s : Shared} {d : Addr} {vs : List (Key × Value)} {ep : Nat} {ks : List Int} {Q : Value → Shared → Prop} (hh : A.handled = none) (lo : (d == sysModules) = false)
    (hd : s.heap.DictAt (mixKind P w) d vs ep) (hk : vs.map (·.1) = ks.map Sum.inl) (hn : vs.length ≤ sizeLine)
    (h : ∀ (h1 h2 : Heap) (tk ep : Nat) (out : List Value) (ys : List Int), (∀ b o, s.heap.get? b = some o → h1.get? b = some o) → (∀ b o, h1.get? b = some o → h2.get? b = some o) → h2.get? h1.objs.size = some (seqObj "list" out.toArray ep) →
      IntsAre out ys → ys.Perm ks → ys.Pairwise (· ≤ ·) → Q (.ref h1.objs.size) { s with heap := h2, toks := tk }) : wpAny (model P w) A (call (.builtin "sorted") [.ref d]) Q E s := by
  refine Calls.call_function_entry kind_sorted plain_sorted entry_sorted (args_sorted1 _) ?_
  unfold Builtin.«sorted»
  refine wpAny_bind (m := checkCount "sorted" 1 1 _) (wpAny_pure (wpAny_bind (PySem.W.kdu_collect (PySem.W.kdl_dict lo) hh hd hn fun h1 tk acc k1 hacc => ?_)))
  obtain ⟨c1, c2⟩ := hacc
  have la : acc.toList.length = vs.length := by rw [Array.length_toList, c1]
  have hi : IntsAre acc.toList ks := keys_ints hk la fun j v e => c2 j v (by rw [← Array.getElem?_toList]; exact e)
  have la' : acc.toList.length ≤ sizeLine := la ▸ hn
  have at1 : (h1.push (seqObj "list" acc.toList.toArray 0)).get? h1.objs.size = some (seqObj "list" acc.toList.toArray 0) := Heap.get?_push_size _ rfl
  refine wpAny_bind (wpAny_newList (wpAny_bind (wpAny_holding (wpAny_call_entry slot_list_sort ⟨_, at1, rfl⟩ entry_list_sort (list_sort_treeAny at1 hi la' fun out ys g1 g2 g3 => ⟨_, rfl, ?_⟩) (args_list_sort _)))) la')
  obtain ⟨c, at2⟩ := sortedHeap_at (vs := acc.toList) (out := out) at1
  refine wpAny_pure ⟨_, rfl, h h1 _ tk c out.toList ys k1 (fun b o e => ?_) (by rw [Array.toArray_toList]; exact at2) g1 g2 g3⟩
  have lt := Heap.lt_size e
  exact (sortedHeap_old (Nat.ne_of_lt lt) (by rw [size_push']; exact Nat.lt_succ_of_lt lt)).trans (Heap.get?_push_of_some _ e)
def rSortDk : List V → Hp → VK → Prop := fun xs H Q => ∃ (a : Addr) (kvs : List (Key × V)) (ks : List Int), xs = [.ref a] ∧ Rd H a (.dK kvs) ∧ kvs.map (·.1) = ks.map Sum.inl ∧
    ∀ (ys : List Int) (p : Addr), ys.Perm ks → ys.Pairwise (· ≤ ·) → H p = none → Q (.ref p) (upd H p (.lst (ys.map V.int)))
theorem call_sortDk (hc : X.calm = true) : CallR X (.builtin "sorted") rSortDk := by
  rintro pins s σ H xs us Q I r ⟨a, kvs, ks, rfl, hd, hk, q⟩
  rw [Vals.ref1 r]
  obtain ⟨z, lo, vs, rel, dd⟩ := dk_rd I.hok hd
  obtain ⟨ep, hat⟩ := dd.dictAt
  have lv : vs.length = kvs.length := by simpa using (congrArg List.length rel.keys).symm
  have lk : kvs.length = ks.length := by simpa using congrArg List.length hk
  refine sorted_keys (I.ok.hd hc) lo hat (rel.keys.symm.trans hk) (lv ▸ z) fun h1 h2 tk ep out ys k1 k2 e g1 g2 g3 => ?_
  have hz : (ys.map V.int).length ≤ sizeLine := by rw [List.length_map, g2.length_eq, ← lk]; exact z
  have I1 : Inv X pins σ H { s with heap := h1 } := I.kept (t' := s.toks) k1
  exact ⟨.ref h1.objs.size, _, I1.laid (t' := tk) (o := .lst (ys.map V.int)) k2 (Nat.le_refl _) ⟨hz, out, ep, vals_of_ints g1, e⟩, rfl, q ys _ g2 g3 (I1.hok.fresh (Nat.le_refl _))⟩
end
end L2
/-! What the walks of these laws share: heaps that keep what they have, data that never changes, draws from a list of three numbers. -/
namespace L2
open PySem PySem.Spec PyProof.Rows
/-! ### room -/
theorem hu64 {A : Around} {k : Nat} (hr : Room k A) : A.units + 64 < cLine := by have := hr.un; omega
theorem hu65 {A : Around} {k : Nat} (hr : Room k A) : A.units + 65 < cLine := by have := hr.un; omega
theorem hu66 {A : Around} {k : Nat} (hr : Room k A) : A.units + 66 < cLine := by have := hr.un; omega
/-! ### what is kept -/
/-- all but what stands at S is as it was -/
def But (S : Addr → Prop) (H H' : Hp) : Prop := ∀ a o, ¬ S a → H a = some o → H' a = some o
theorem But.refl {S : Addr → Prop} (H : Hp) : But S H H := fun _ _ _ e => e
theorem But.trans {S : Addr → Prop} {H H1 H2 : Hp} (a : But S H H1) (b : But S H1 H2) : But S H H2 := fun x o n e => b x o n (a x o n e)
theorem But.mono {S T : Addr → Prop} {H H' : Hp} (k : But S H H') (h : ∀ a, S a → T a) : But T H H' := fun a o n e => k a o (fun s => n (h a s)) e
theorem Same.but {S : Addr → Prop} {H H' : Hp} (k : Same H H') : But S H H' := fun a o _ e => k a o e
theorem But.set {S : Addr → Prop} {H : Hp} {a : Addr} {o : HO} (h : S a) : But S H (upd H a o) := fun b u n e => by rw [upd_ne (fun z => n (by rw [z]; exact h))]; exact e
theorem Same.new {H : Hp} {p : Addr} {o : HO} (h : H p = none) : Same H (upd H p o) := fun b u e => by rw [upd_ne (ne_of_none e h)]; exact e
theorem Same.step {H H' : Hp} {p : Addr} {o : HO} (k : Same H H') (h : H' p = none) : Same H (upd H' p o) := k.trans (Same.new h)
theorem But.new {S : Addr → Prop} {H H' : Hp} {p : Addr} {o : HO} (k : But S H H') (h : H' p = none) : But S H (upd H' p o) := k.trans (Same.new h).but
theorem But.put {S : Addr → Prop} {H H' : Hp} {p : Addr} {o : HO} (k : But S H H') (h : S p) : But S H (upd H' p o) := k.trans (But.set h)
theorem But.own {S : Addr → Prop} {H H' : Hp} {p : Addr} {o : HO} (k : But S H H') (h : H p = none) : But S H (upd H' p o) := fun a u n e => by
  rw [upd_ne (ne_of_none e h)]
  exact k a u n e
theorem But.free {S : Addr → Prop} {H H' : Hp} {p : Addr} (k : But S H H') (h : ∀ a, S a → H' a ≠ none) (hp : H' p = none) : H p = none := by
  cases e : H p with
  | none => rfl
  | some o =>
    by_cases hs : S p
    · exact absurd hp (h p hs)
    · rw [k p o hs e] at hp
      cases hp
/-- one that H does not know may change -/
theorem Same.own {H H' : Hp} {p : Addr} {o : HO} (k : Same H H') (h : H p = none) : Same H (upd H' p o) := fun a u e => by
  rw [upd_ne (ne_of_none e h)]
  exact k a u e
/-- tuples stay -/
def TupK (H H' : Hp) : Prop := ∀ a xs, Rd H a (.tup xs) → Rd H' a (.tup xs)
theorem TupK.refl (H : Hp) : TupK H H := fun _ _ e => e
theorem TupK.trans {H H1 H2 : Hp} (a : TupK H H1) (b : TupK H1 H2) : TupK H H2 := fun x xs e => b x xs (a x xs e)
theorem Same.tupK {H H' : Hp} (k : Same H H') : TupK H H' := fun a xs r => r.elim (fun e => .inl (k _ _ e)) fun ⟨o, e⟩ => .inr ⟨o, k _ _ e⟩
theorem But.tupK {S : Addr → Prop} {H H' : Hp} (k : But S H H') (h : ∀ a xs, S a → ¬ Rd H a (.tup xs)) : TupK H H' := fun a xs r =>
  r.elim (fun e => .inl (k _ _ (fun s => h a xs s r) e)) fun ⟨o, e⟩ => .inr ⟨o, k _ _ (fun s => h a xs s r) e⟩
theorem not_tup_lst {H : Hp} {a : Addr} {xs ys : List V} (e : H a = some (.lst xs)) : ¬ Rd H a (.tup ys) := fun r => by
  rcases r with r | ⟨o, r⟩ <;> rw [e] at r <;> cases r
theorem TupK.sqT {K : PySem.W.Frag} {H H' : Hp} {a : Addr} {xs : List V} (k : TupK H H') (h : SqT K H a xs) : SqT K H' a xs := h.elim (fun r => .inl (k _ _ r)) .inr
theorem Same.sqT {K : PySem.W.Frag} {H H' : Hp} {a : Addr} {xs : List V} (k : Same H H') (h : SqT K H a xs) : SqT K H' a xs := k.tupK.sqT h
theorem Same.sqL {K : PySem.W.Frag} {H H' : Hp} {a : Addr} {xs : List V} (k : Same H H') (h : SqL K H a xs) : SqL K H' a xs := k.seq h
theorem But.sqL {S : Addr → Prop} {K : PySem.W.Frag} {H H' : Hp} {a : Addr} {xs : List V} (k : But S H H') (n : ¬ S a) (h : SqL K H a xs) : SqL K H' a xs := by
  rcases h with (h | ⟨o, h⟩) | h
  · exact .inl (.inl (k _ _ n h))
  · exact .inl (.inr ⟨o, k _ _ n h⟩)
  · exact .inr h
/-! ### data without lists -/
mutual
def imm : PyData → Bool
  | .none => true
  | .bool _ => true
  | .int _ => true
  | .str _ => true
  | .tuple ds => immAll ds
  | _ => false
def immAll : List PyData → Bool
  | [] => true
  | d :: ds => imm d && immAll ds
end
mutual
theorem Dp.keep {K : PySem.W.Frag} {H H' : Hp} (k : TupK H H') : ∀ (d : PyData) (v : V), imm d = true → Dp K H v d → Dp K H' v d
  | .none, _, _, h => by cases h; exact .non
  | .bool b, _, _, h => by cases h; exact .bl b
  | .int i, _, _, h => by cases h; exact .int i
  | .str x, _, _, h => by cases h; exact .str x
  | .tuple ds, _, hi, h => by
    cases h with
    | tup hs ha => exact .tup (k.sqT hs) (Dp.keepAll k ds _ (by simpa only [imm] using hi) ha)
  | .list _, _, hi, _ => by simp [imm] at hi
  | .dict _, _, hi, _ => by simp [imm] at hi
theorem Dp.keepAll {K : PySem.W.Frag} {H H' : Hp} (k : TupK H H') : ∀ (ds : List PyData) (vs : List V), immAll ds = true → DpAll K H vs ds → DpAll K H' vs ds
  | [], _, _, h => by cases h; exact .nil
  | d :: ds, _, hi, h => by
    simp only [immAll, Bool.and_eq_true] at hi
    cases h with
    | cons h1 h2 => exact .cons (Dp.keep k d _ hi.1 h1) (Dp.keepAll k ds _ hi.2 h2)
end
theorem DpAll.get {K : PySem.W.Frag} {H : Hp} : ∀ {vs : List V} {ds : List PyData} {i : Nat} {v : V}, DpAll K H vs ds → vs[i]? = some v → ∃ d, ds[i]? = some d ∧ Dp K H v d
  | _, _, _, _, .nil, e => by simp at e
  | _, _, 0, _, .cons h _, e => by
    simp at e
    subst e
    exact ⟨_, rfl, h⟩
  | _, _, i + 1, _, .cons _ t, e => by
    obtain ⟨d, h1, h2⟩ := DpAll.get (i := i) t (by simpa using e)
    exact ⟨d, by simpa using h1, h2⟩
theorem DpAll.of_get {K : PySem.W.Frag} {H : Hp} : ∀ {vs : List V} {ds : List PyData}, vs.length = ds.length → (∀ (i : Nat) (v : V) (d : PyData), vs[i]? = some v → ds[i]? = some d → Dp K H v d) → DpAll K H vs ds
  | [], [], _, _ => .nil
  | [], _ :: _, h, _ => by simp at h
  | _ :: _, [], h, _ => by simp at h
  | v :: vs, d :: ds, h, f => .cons (f 0 v d rfl rfl) (DpAll.of_get (by simpa using h) fun i x y e1 e2 => f (i + 1) x y (by simpa using e1) (by simpa using e2))
theorem DpAll.app {K : PySem.W.Frag} {H : Hp} : ∀ {vs ws : List V} {ds es : List PyData}, DpAll K H vs ds → DpAll K H ws es → DpAll K H (vs ++ ws) (ds ++ es)
  | _, _, _, _, .nil, h => h
  | _, _, _, _, .cons h t, h2 => .cons h (DpAll.app t h2)
/-! ### keywords: p positional values, k by name -/
def kbG {α : Type} (p k : Nat) (us ws : List α) : List α := if us.length = p ∧ ws.length = k then us ++ ws else []
theorem kbG_len {α : Type} {p k n : Nat} {us ws : List α} (h : (kbG p k us ws).length = n) (hn : 0 < n) : us.length = p ∧ ws.length = k := by
  unfold kbG at h
  by_cases c : us.length = p ∧ ws.length = k
  · exact c
  · rw [if_neg c] at h
    simp at h
    omega
theorem kbG_rel {p k : Nat} {vs : List V} {us : List Value} {zs : List V} {ws : List Value} (a : Vals vs us) (b : Vals zs ws) : Vals (kbG p k vs zs) (kbG p k us ws) := by
  unfold kbG
  rw [a.length, b.length]
  by_cases c : us.length = p ∧ ws.length = k
  · rw [if_pos c, if_pos c]
    exact a.append b
  · rw [if_neg c, if_neg c]
    exact .nil
/-- .. where the names come in another order -/
def kbP {α : Type} (p k : Nat) (ix : List Nat) (us ws : List α) : List α := if us.length = p ∧ ws.length = k then us ++ ix.filterMap (fun i => ws[i]?) else []
theorem kbP_len {α : Type} {p k n : Nat} {ix : List Nat} {us ws : List α} (h : (kbP p k ix us ws).length = n) (hn : 0 < n) : us.length = p ∧ ws.length = k := by
  unfold kbP at h
  by_cases c : us.length = p ∧ ws.length = k
  · exact c
  · rw [if_neg c] at h
    simp at h
    omega
theorem pick_rel {zs : List V} {ws : List Value} (b : Vals zs ws) : ∀ ix : List Nat, Vals (ix.filterMap fun i => zs[i]?) (ix.filterMap fun i => ws[i]?)
  | [] => .nil
  | i :: ix => by
    rw [List.filterMap_cons, List.filterMap_cons]
    cases e : zs[i]? with
    | none =>
      have z : ws[i]? = none := by
        rw [List.getElem?_eq_none_iff] at e ⊢
        rw [← b.length]
        exact e
      rw [z]
      exact pick_rel b ix
    | some x =>
      obtain ⟨u, e2, r⟩ := Vals.get b e
      rw [e2]
      exact .cons r (pick_rel b ix)
theorem kbP_rel {p k : Nat} {ix : List Nat} {vs : List V} {us : List Value} {zs : List V} {ws : List Value} (a : Vals vs us) (b : Vals zs ws) : Vals (kbP p k ix vs zs) (kbP p k ix us ws) := by
  unfold kbP
  rw [a.length, b.length]
  by_cases c : us.length = p ∧ ws.length = k
  · rw [if_pos c, if_pos c]
    exact a.append (pick_rel b ix)
  · rw [if_neg c, if_neg c]
    exact .nil
/-! ### what len reads; a list filtered by a number -/
abbrev rLenS (K : PySem.W.Frag) : List V → Hp → VK → Prop := fun xs H Q => ∃ p ys, xs = [V.ref p] ∧ (SqL K H p ys ∨ SqT K H p ys) ∧ Q (.int ys.length) H
theorem dec_vint (k n : Int) : decide (V.int k = V.int n) = decide (k = n) := by
  by_cases h : k = n
  · subst h
    simp
  · have : ¬ V.int k = V.int n := fun e => h (V.int.inj e)
    simp [h, this]
theorem lc_filter {K : PySem.W.Frag} {a : Addr} {val : Int → V} {ns : List Int} {n : Int} {s : Nat} {tt : TT} {σ : L2.St} {H1 : Hp} {D : Addr} {Qd : Hp → Prop} (ha : SqL K H1 a (ns.map val)) (hD : H1 D = none) (hl : ns.length < sizeLine)
    (htt : ∀ k ∈ ns, ∀ H' (Q : Bool → Hp → Prop), Same H1 H' → Q (decide (k = n)) H' → tt ((wipe σ [s]).set s (some (val k))) H' Q)
    (hw : ∀ x, wipe ((wipe σ [s]).set s (some x)) [s] = wipe σ [s]) (hg : ∀ x H' Q, Q x H' → tVar s ((wipe σ [s]).set s (some x)) H' Q)
    (hd : ∀ H', H' D = some (.lst ((ns.filter fun k => decide (k = n)).map val)) → Same H1 H' → Qd H') :
    ∃ W : Nat → Nat → Hp → Prop, (∃ m, W 0 m (upd H1 D (.lst []))) ∧ ∀ i m H, W i m H →
      ((Itl K a).stop i H ∧ Qd H) ∨ ((Itl K a).go i H ∧ ∃ Nx : Hp → Prop, (∀ H', Nx H' → ∃ m', m' < m ∧ W (i + 1) m' H') ∧ ∀ x H', (Itl K a).yld i H x H' → gName s x (wipe σ [s]) H' fun σ2 H2 => wipe σ2 [s] = wipe σ [s] ∧ tt σ2 H2 fun b H3 =>
        if b = true then tVar s σ2 H3 fun y H4 => ∃ acc, H4 D = some (.lst acc) ∧ acc.length < sizeLine ∧ Nx (upd H4 D (.lst (acc ++ [y]))) else Nx H3) := by
  refine lc_list (K := K) (a := a) (xs := ns.map val) (g := gName s) (tt := tt) (te := tVar s) (vs := [s]) (σ := σ) (fun i H' => H' D = some (.lst (((ns.take i).filter fun k => decide (k = n)).map val)) ∧ Same H1 H') ⟨upd_same, Same.new hD⟩ (fun i H' _ h => h.2.seq ha) ?_ ?_
  · rintro i x H' hi ⟨e1, e2⟩
    have hil : i < ns.length := by
      have z := (List.getElem?_eq_some_iff.mp hi).1
      rw [List.length_map] at z
      exact z
    obtain ⟨k, hk, rfl⟩ : ∃ k, ns[i]? = some k ∧ x = val k := by
      rw [List.getElem?_map, List.getElem?_eq_getElem hil] at hi
      exact ⟨_, List.getElem?_eq_getElem hil, (Option.some.inj hi).symm⟩
    refine ⟨hw _, htt k (List.mem_of_getElem? hk) H' _ e2 ?_⟩
    have et : ns.take (i + 1) = ns.take i ++ [k] := by rw [List.take_add_one, hk]; rfl
    by_cases hkn : k = n
    · rw [decide_eq_true hkn]
      refine iteT (hg _ _ _ ⟨_, e1, ?_, ?_, e2.own hD⟩)
      · rw [List.length_map]
        exact Nat.lt_of_le_of_lt (Nat.le_trans (List.length_filter_le _ _) (by rw [List.length_take]; exact Nat.min_le_right _ _)) hl
      · rw [upd_same, et, List.filter_append, List.map_append]
        simp [hkn]
    · rw [decide_eq_false hkn]
      refine iteF ⟨?_, e2⟩
      rw [e1, et, List.filter_append, List.map_append]
      simp [hkn]
  · rintro H' ⟨e1, e2⟩
    rw [List.length_map, List.take_length] at e1
    exact hd H' e1 e2
end L2
/-! Methods called in a try's body: what they raise is the clause's (the wish may name the slots). -/
namespace L2
open PySem PySem.Spec PyProof.Rows
section
variable {X : Cx} {CX : CXT} {k : Nat} {f C : Addr} {fd : FuncData} {ps ks : List Str} {sp : Sp} {E : L2.St → XK} {m : Str} {apos pos : Pos} {o e : Expr} {es : List Expr} {kws : List Keyword} {ta : TE} {t tk : TA}
variable {g : List Value → List Value → List Value} {gV : List V → List V → List V}
theorem run_kS {pins : List (Addr × Obj)} {σ : L2.St} {H : Hp} {s : Shared} {Q : VK} {us ws : List Value} {vs zs : List V} (F : FnOk X.prog X.w X.K X.mg X.base CX k f fd ps sp) (hr : Room k X.A) (hb : KBinds X.K fd ps ks g gV) (hx : PassesAt CX X σ (E σ))
    (I : Inv X pins σ H s) (r : Vals vs us) (rz : Vals zs ws) (h : sp (gV vs zs) H Q (E σ)) : wpAny (model X.prog X.w) X.A (call (.ref f) us (ks.zip ws)) (EP X pins σ Q) X.xe s := by
  have both := hb.rel r rz
  have len : (g us ws).length = ps.length := both.length.symm.trans (F.len _ _ _ _ h)
  refine wpAny_call (codeAny_mono (F.run X.A X.stack s H ⟨us, ks.zip ws⟩ (g us ws) (gV vs zs) Q (E σ) hr I.env0 (hb.to s us ws I.kIn len) both h) ?_)
  intro res s' post
  cases res with
  | error x => exact hx pins H s x s' I post
  | ok way =>
    cases way with
    | ret u => exact I.after post
    | next => cases post
    | brk => cases post
    | cont => cases post
/-- o.m(k = v, ..) in a try -/
def tMethKS (C : Addr) (m : Str) (sp : Sp) (gV : List V → List V → List V) (E : L2.St → XK) (ta : TE) (tk : TA) : TE := fun σ H Q => ta σ H fun x H1 => ∃ a dx fs, x = .ref a ∧ H1 a = some (.ins C dx fs) ∧ fs.lookup m = none ∧
  tk σ H1 fun zs H2 => sp (gV [x] zs) H2 Q (E σ)
theorem pe_methKS {pl : Sem Bool} (he : PE X o ta) (c : Cls X.K C) (hm : Meth X.K C m f) (F : FnOk X.prog X.w X.K X.mg X.base CX k f fd ps sp) (hr : Room k X.A) (hb : KBinds X.K fd ps ks g gV) (hx : ∀ σ, PassesAt CX X σ (E σ))
    (hkw : PK X kws tk) (hall : (backToKw pos (keywordEach kws X.env)).all (·.1.isSome) = true := by rfl) (hks : (backToKw pos (keywordEach kws X.env)).filterMap (·.1) = ks := by rfl)
    (hpl : ((backTo pos (starEach [] X.env)).any (·.1) || (backToKw pos (keywordEach kws X.env)).any (·.1.isNone)) = false := by rfl)
    (ht : eval (.Call (.Attribute o m apos) [] kws pos) X.env = (do
      let ov ← eval o X.env
      standAt apos.atName
      let (f, first) ← holding [ov] (getMethod ov m pl)
      callWith pos f first (backTo pos (starEach [] X.env)) (backToKw pos (keywordEach kws X.env))) := by rfl) :
    PE X (.Call (.Attribute o m apos) [] kws pos) (tMethKS C m sp gV E ta tk) := by
  refine ⟨fun pins s σ H Q I h => ?_⟩
  refine PySem.W.methodCall_KW (pl := pl) (thn (he.run pins s σ H _ I h) ?_) ht
  rintro u s1 ⟨x, H1, I1, rx, a, dx, fs, rfl, ea, no, q⟩
  obtain rfl : u = Value.ref a := rx
  refine getmeth_ok I1 ea c hm no ?_
  refine PySem.W.callWith_KW0 (first := [.ref a]) (h₀ := X.base) I.ok.mod.kin hm.kp hall ?_ hpl
  refine thn (hkw.run pos pins s1 σ H1 _ I1 q) ?_
  rintro ws s2 ⟨zs, H2, I2, rz, q2⟩
  refine ⟨I2.kIn, ?_⟩
  rw [hks]
  exact run_kS (us := [.ref a]) (vs := [.ref a]) F hr hb (hx σ) I2 (.cons rfl .nil) rz q2
/-- o.m(e, ..) in a try -/
def tMethPS (C : Addr) (m : Str) (sp : Sp) (E : L2.St → XK) (ta : TE) (t : TA) : TE := fun σ H Q => ta σ H fun x H1 => ∃ a dx fs, x = .ref a ∧ H1 a = some (.ins C dx fs) ∧ fs.lookup m = none ∧
  t σ H1 fun vs H2 => sp (x :: vs) H2 Q (E σ)
theorem pe_methPS {pl : Sem Bool} (he : PE X o ta) (c : Cls X.K C) (hm : Meth X.K C m f) (F : FnOk X.prog X.w X.K X.mg X.base CX k f fd ps sp) (hr : Room k X.A) (hb : Binds X.K fd ps []) (hx : ∀ σ, PassesAt CX X σ (E σ)) (ha : PA X (e :: es) t)
    (hst : starEach (e :: es) X.env = (false, eval e X.env) :: starEach es X.env := by rfl) (hpl : (backTo pos (starEach es X.env)).any (·.1) = false := by rfl)
    (ht : eval (.Call (.Attribute o m apos) (e :: es) [] pos) X.env = (do
      let ov ← eval o X.env
      standAt apos.atName
      let (f, first) ← holding [ov] (getMethod ov m pl)
      callWith pos f first (backTo pos (starEach (e :: es) X.env)) (backToKw pos (keywordEach [] X.env))) := by rfl) :
    PE X (.Call (.Attribute o m apos) (e :: es) [] pos) (tMethPS C m sp E ta t) := by
  refine ⟨fun pins s σ H Q I h => ?_⟩
  refine PySem.W.methodCall_KW (pl := pl) (thn (he.run pins s σ H _ I h) ?_) ht
  rintro u s1 ⟨x, H1, I1, rx, a, dx, fs, rfl, ea, no, q⟩
  obtain rfl : u = Value.ref a := rx
  refine getmeth_ok I1 ea c hm no ?_
  refine PySem.W.callWith_K (first := [.ref a]) (h₀ := X.base) I.ok.mod.kin hm.kp (thn (ha.run pos pins s1 σ H1 _ I1 q) ?_) hst hpl
  rintro us s2 ⟨vs, H2, I2, r, q2⟩
  exact ⟨I2.kIn, run_fnS (us := .ref a :: us) (vs := .ref a :: vs) F hr hb (hx σ) I2 (.cons rfl r) q2⟩
end
end L2
/-! Promises for calls in which nobody is being shown yet (no guard of repr stands around): what repr needs. Defs on the way from the law to a repr are of this kind. -/
namespace L2
open PySem PySem.Spec PyProof.Rows
/-- as FnOk, for calls with no guard around -/
structure FnG (P : Program) (w : World) (K : PySem.W.Frag) (mg : Str → Option Value) (base : Heap) (CX : CXT) (k : Nat) (f : Addr) (fd : FuncData) (ps : List Str) (sp : Sp) : Prop where
  len : ∀ vs H Q E, sp vs H Q E → vs.length = ps.length
  run : ∀ (A : Around) (outer : List Env) (s : Shared) (H : Hp) (args : Args) (us : List Value) (vs : List V) (Q : VK) (E : XK), A.guards = some [] → Room k A → Env0 P w K mg base A outer s H → BindsTo s fd args (ps.zip us) → Vals vs us → sp vs H Q E →
    codeAny (model P w) A (.call (.ref f) args) (CR CX outer P w H s Q E) s
theorem FnOk.g {P : Program} {w : World} {K : PySem.W.Frag} {mg : Str → Option Value} {base : Heap} {CX : CXT} {k : Nat} {f : Addr} {fd : FuncData} {ps : List Str} {sp : Sp} (F : FnOk P w K mg base CX k f fd ps sp) : FnG P w K mg base CX k f fd ps sp :=
  ⟨F.len, fun A outer s H args us vs Q E _ => F.run A outer s H args us vs Q E⟩
section
variable {P : Program} {w : World} {K : PySem.W.Frag} {mg : Str → Option Value} {base : Heap}
/-- a def's body, walked where no guard stands -/
theorem Fun.okG {x qual : Str} {st : Stmt} {f : Addr} {fd : FuncData} {N ps : List Str} {k : Nat} {sp : Sp} (F : Fun K x qual st f fd) (S : FnScope N ps (defScope st)) (len : ∀ vs H Q E, sp vs H Q E → vs.length = ps.length)
    (walk : ∀ (cdv : Value) (A : Around) (outer : List Env) (s : Shared) (H : Hp) (vs : List V) (Q : VK) (E : XK), (A.deeper (envOfC qual (defScope st) s.heap.objs.size f cdv)).guards = some [] → Room k (A.deeper (envOfC qual (defScope st) s.heap.objs.size f cdv)) → sp vs H Q E →
      ∃ t, PSs (cxOf CX0 P w K mg base N qual (defScope st) f cdv A outer s H E).nox (defBody st) t ∧ t { nx := fun _ H' => Q .non H', rt := Q } (start N vs) H) : FnG P w K mg base CX0 (k + 1) f fd ps sp := by
  obtain ⟨oc, od, kV, doc, pm, an, cdv, ct, osl, rfl, at1, code⟩ := F.ex
  refine ⟨len, ?_⟩
  intro A outer s H args us vs Q E gd room env bind rel want
  have long := len _ _ _ _ want
  have keepAll : ∀ (b : Addr) (o : Obj), base.get? b = some o → s.heap.get? b = some o := fun b o e => (env.bs b o e).1
  have frag := env.mod.kin.keeps keepAll
  obtain ⟨t, terms, read⟩ := walk cdv A outer s H vs Q E gd (room.deeper _) want
  have kinds : ∀ y ∈ ps.zip us, (defScope st).names.lookup y.1 = some .local ∨ ((defScope st).names.lookup y.1 = some .cell ∧ ((cellsFrom (s.heap.objs.size + 1) (defScope st).names []).lookup y.1).isSome = true) := by
    rintro ⟨n, v⟩ hy
    exact (S.par n (List.of_mem_zip hy).1).imp id fun c => ⟨c, PySem.W.cellsFrom_some _ _ _ (.inl c)⟩
  refine codeAny_call_function room.depth (frag _ _ at1) rfl S.co S.gen rfl (PySem.W.codeRec_of frag code) (bind _ _ _ _ (wpAny_newFunctionEnv_cells S.kind kinds ?_))
  rintro _ rfl s1 made
  refine ⟨(env.mod.nolimit.keeps keepAll).keeps made.toInCall.keep, codeAny_func ?_⟩
  have inv := inv_start (P := P) (E := E) (CX := CX0) S room.hd env long rel made
  refine wpAny_mono (terms.nox.run [] s1 (start N vs) H _ inv read) ?_ fun e s' hs => hs
  intro way s' hs
  cases way with
  | ret u =>
    obtain ⟨v, σ', H', J, rv, q⟩ := hs
    exact ⟨v, H', J.os, J.bare, J.base, J.hok, rv, q⟩
  | next =>
    obtain ⟨σ', H', J, q⟩ := hs
    exact ⟨V.non, H', J.os, J.bare, J.base, J.hok, rfl, q⟩
  | brk => exact hs.elim fun _ h => h.elim fun _ h => h.2.elim
  | cont => exact hs.elim fun _ h => h.elim fun _ h => h.2.elim
end
section
variable {X : Cx} {CX : CXT} {k : Nat} {f : Addr} {fd : FuncData} {ps : List Str} {sp : Sp} {dvs : List V} {ds : List Value} {E : XK} {x : Str} {p pos : Pos} {e : Expr} {es : List Expr} {t : TA}
theorem run_fnG {pins : List (Addr × Obj)} {σ : L2.St} {H : Hp} {s : Shared} {Q : VK} {us : List Value} {vs : List V} (gd : X.A.guards = some []) (F : FnG X.prog X.w X.K X.mg X.base CX k f fd ps sp) (hr : Room k X.A) (hb : Binds X.K fd ps ds) (hd : Vals dvs ds) (hx : Passes CX X E)
    (I : Inv X pins σ H s) (r : Vals vs us) (h : sp (vs ++ dvs) H Q E) : wpAny (model X.prog X.w) X.A (call (.ref f) us) (EP X pins σ Q) X.xe s := by
  have both : Vals (vs ++ dvs) (us ++ ds) := r.append hd
  have len : (us ++ ds).length = ps.length := both.length.symm.trans (F.len _ _ _ _ h)
  refine wpAny_call (codeAny_mono (F.run X.A X.stack s H ⟨us, []⟩ (us ++ ds) (vs ++ dvs) Q E gd hr I.env0 (hb s us I.kIn len) both h) ?_)
  intro res s' post
  cases res with
  | error z => exact hx pins σ H s z s' I post
  | ok way =>
    cases way with
    | ret u => exact I.after post
    | next => cases post
    | brk => cases post
    | cont => cases post
theorem pe_callG (gd : X.A.guards = some []) (F : FnG X.prog X.w X.K X.mg X.base CX k f fd ps sp) (hr : Room k X.A) (hg : Gl X x) (hm : X.mg x = some (.ref f)) (hk : PySem.W.keepIn X.K (.ref f) = true) (hb : Binds X.K fd ps ds) (hd : Vals dvs ds) (hx : Passes CX X E)
    (ha : PA X (e :: es) t) (hdb : (x == ("__debug__" : Str)) = false := by decide) (he : starEach (e :: es) X.env = (false, eval e X.env) :: starEach es X.env := by rfl) (hpl : (backTo pos (starEach es X.env)).any (·.1) = false := by rfl) :
    PE X (.Call (.Name x p) (e :: es) [] pos) (tCall sp dvs E t) := by
  refine ⟨fun pins s σ H Q I h => ?_⟩
  refine wpAny_Call_Name_kw (ld_glob I hg hm ?_ hdb)
  refine PySem.W.callWith_K (h₀ := X.base) I.ok.mod.kin hk (thn (ha.run pos pins s σ H _ I h) ?_) he hpl
  rintro us s1 ⟨vs, H1, I1, r, q⟩
  exact ⟨I1.kIn, run_fnG gd F hr hb hd hx I1 r q⟩
/-! ### repr of data -/
def rRepr (K : PySem.W.Frag) : List V → Hp → VK → Prop := fun xs H Q => ∃ (a : Addr) (d : PyData), xs = [.ref a] ∧ Dp K H (.ref a) d ∧ d.showable = true ∧ d.hasDict = false ∧ d.shown.length ≤ sizeLine ∧ d.depth ≤ 60 ∧ Q (.str d.shown) H
theorem call_reprD (gd : X.A.guards = some []) (hu : X.A.units + 64 < cLine) : CallR X (.builtin "repr") (rRepr X.K) := by
  intro pins s σ H xs us Q I r h
  obtain ⟨a, d, rfl, hd, h1, h2, h3, h4, q⟩ := h
  rw [Vals.ref1 r]
  obtain ⟨as, rd⟩ := Dp.reads I d (.ref a) (.ref a) hd rfl
  refine PySem.repr_of_reads' rd h1 (fun z => by rw [h2] at z; cases z) gd (by omega) (fun _ _ e => e) (fun h' u tk hk => ?_) h3
  exact ⟨.str d.shown, H, I.kept hk, ⟨u, rfl⟩, q⟩
end
end L2
/-! The end for laws whose defs are of the kind FnG (LibG). -/
namespace L2
open PySem PySem.Spec PyProof.Rows
/-- all that H tracks is the script at a, which is known to the object -/
def Lone (a : Addr) (H : Hp) : Prop := ∀ b u, H b = some u → b = a ∧ ∃ o xs, u = .frz o (.lst xs)
theorem Lone.only {a : Addr} {H : Hp} (h : Lone a H) : Only H := fun b => by
  cases e : H b with
  | none => exact .inl rfl
  | some u =>
    obtain ⟨_, o, xs, rfl⟩ := h b u e
    exact .inr ⟨o, xs, rfl⟩
section
variable {P : Program} {w : World} {K : PySem.W.Frag} {mg mb : Str → Option Value} {a : Addr} {s : Shared} {vs : List Value}
/-- the ground under a law's call: what is not the script is base -/
theorem ground_of (frag : K.In s.heap) (names : s.heap.Ns mainGlobals mg) (blt : s.heap.Ns builtinsNs mb) (blts : ∀ x : Str, x ≠ "__name__" → mb x = bootBuiltins x) (lim : s.heap.NoLimit) (gens : s.gens = #[])
    (at_a : s.heap.get? a = some { cls := .type "list", data := .seq vs.toArray }) {H : Hp} (lone : Lone a H) (own : H a ≠ none → K.lookup a = none) (ok : HOk P w H s.heap) :
    K.In (hidT s.heap H) ∧ (hidT s.heap H).Ns mainGlobals mg ∧ Env0 P w K mg (hidT s.heap H) callerA [] s H := by
  have untracked : ∀ {b : Addr} {o : Obj}, s.heap.get? b = some o → (b = a → o ≠ { cls := .type "list", data := .seq vs.toArray }) → H b = none := by
    intro b o e d
    cases q : H b with
    | none => rfl
    | some u =>
      obtain ⟨rfl, _⟩ := lone b u q
      rw [at_a] at e
      exact absurd (Option.some.inj e).symm (d rfl)
  have spaces : ∀ {b : Addr} {m : Str → Option Value}, s.heap.Ns b m → (hidT s.heap H).Ns b m := by
    rintro b m ⟨o, es, ep, e, d, r⟩
    refine ⟨o, es, ep, hidT_get e (untracked e fun _ z => ?_), d, r⟩
    rw [z] at d
    have d' : Data.seq vs.toArray _ = Data.dict es ep := d
    cases d'
  have within : K.In (hidT s.heap H) := fun b o e => by
    refine hidT_get (frag b o e) ?_
    cases q : H b with
    | none => rfl
    | some u =>
      obtain ⟨rfl, _⟩ := lone b u q
      rw [own (by rw [q]; intro z; cases z)] at e
      cases e
  obtain ⟨ml, l1, l2⟩ := lim
  refine ⟨within, spaces names, rfl, ⟨within, spaces names, ⟨mb, spaces blt, blts⟩, ml, spaces l1, l2⟩, fun b o e => of_hidT e, Nat.le_of_eq (hidT_size _ _), trivial, ?_, ok, .of_eq gens⟩
  intro b hb
  exact (List.not_mem_nil (show b ∈ ([] : List Addr) from hb)).elim
/-- behind the call all that stood stands -/
theorem end_of {H : Hp} {r : Result} {s' : Shared} {CX : CXT} (lone : Lone a H) (ok : HOk P w H s.heap) (raise : ∀ e s', CX [] H s (fun _ _ _ => False) e s' → False)
    (post : CR CX [] P w H s (fun v _ => v = .bl true) (fun _ _ _ => False) r s') : r = .ok (.ret (.bool true)) ∧ OldK s.heap s'.heap ∧ s'.os = s.os ∧ AllBare s'.gens := by
  cases r with
  | error e => exact (raise e s' post).elim
  | ok way =>
    cases way with
    | next => cases post
    | brk => cases post
    | cont => cases post
    | ret u =>
      obtain ⟨v, H', os, bare, un, ok', rel, rfl⟩ := post
      obtain rfl : u = Value.bool true := rel
      refine ⟨rfl, OldK.of_keep ?_, os, bare⟩
      intro b o e
      cases q : H b with
      | none => exact un.keep b o e q (fun z => (List.not_mem_nil (show b ∈ ([] : List Addr) from z)).elim) (fun z => (List.not_mem_nil z).elim)
      | some x =>
        obtain ⟨_, ob, xs, rfl⟩ := lone b x q
        obtain ⟨before, _⟩ := ok b _ q
        obtain ⟨behind, _⟩ := ok' b _ (un.frzs b ob _ q)
        rw [before] at e
        rw [behind]
        exact e
theorem law_callG {CX : CXT} {k : Nat} {fa : Addr} {fd : FuncData} {x : Str} {sp : Sp} {ns : List Int} (frag : K.In s.heap) (names : s.heap.Ns mainGlobals mg) (blt : s.heap.Ns builtinsNs mb) (blts : ∀ x : Str, x ≠ "__name__" → mb x = bootBuiltins x) (lim : s.heap.NoLimit) (gens : s.gens = #[])
    (at_a : s.heap.get? a = some { cls := .type "list", data := .seq vs.toArray }) (all_int : IntsAre vs ns) (short : ns.length ≤ sizeLine) (room : Room k callerA)
    (F : ∀ base : Heap, K.In base → base.Ns mainGlobals mg → FnG P w K mg base CX k fa fd [x] sp) (bind : ∀ (s : Shared) (u : Value), BindsTo s fd ⟨[u], []⟩ [(x, u)])
    (want : ∀ H : Hp, Only H → SqL K H a (ns.map V.int) → sp [.ref a] H (fun v _ => v = .bl true) fun _ _ _ => False) (raise : ∀ H e s', CX [] H s (fun _ _ _ => False) e s' → False) :
    codeAny (model P w) callerA (.call (.ref fa) ⟨[.ref a], []⟩) (fun r s' => r = .ok (.ret (.bool true)) ∧ OldK s.heap s'.heap ∧ s'.os = s.os ∧ AllBare s'.gens) s := by
  have rel := vals_ints all_int
  have go : ∀ H : Hp, Lone a H → (H a ≠ none → K.lookup a = none) → HOk P w H s.heap → SqL K H a (ns.map V.int) →
      codeAny (model P w) callerA (.call (.ref fa) ⟨[.ref a], []⟩) (fun r s' => r = .ok (.ret (.bool true)) ∧ OldK s.heap s'.heap ∧ s'.os = s.os ∧ AllBare s'.gens) s := by
    intro H lone own ok script
    obtain ⟨g1, g2, env⟩ := ground_of frag names blt blts lim gens at_a lone own ok
    exact codeAny_mono ((F _ g1 g2).run callerA [] s H ⟨[.ref a], []⟩ [.ref a] [.ref a] _ _ rfl room env (bind s (.ref a)) (.cons rfl .nil) (want H lone.only script)) fun r s' post => end_of lone ok (raise H) post
  cases known : K.lookup a with
  | some o =>
    have here := frag a o known
    rw [at_a] at here
    cases here
    refine go (fun _ => none) (fun b u z => nomatch z) (fun z => absurd rfl z) (fun b u z => nomatch z) (.inr ⟨_, vs.toArray, _, known, rfl, rfl, rfl, ?_, rel⟩)
    rw [List.size_toArray, all_int.length]
    exact short
  | none =>
    let H : Hp := upd (fun _ => none) a (.frz { cls := .type "list", data := .seq vs.toArray } (.lst (ns.map V.int)))
    have here : H a = some (.frz { cls := .type "list", data := .seq vs.toArray } (.lst (ns.map V.int))) := upd_same
    have one : ∀ b u, H b = some u → b = a ∧ u = .frz { cls := .type "list", data := .seq vs.toArray } (.lst (ns.map V.int)) := by
      intro b u z
      by_cases c : b = a
      · subst c
        rw [here] at z
        exact ⟨rfl, (Option.some.inj z).symm⟩
      · have z' : (upd (fun _ => none) a _ : Hp) b = some u := z
        rw [upd_ne c] at z'
        cases z'
    refine go H (fun b u z => ⟨(one b u z).1, _, _, (one b u z).2⟩) (fun _ => known) (fun b u z => ?_) (.inl (.inr ⟨_, here⟩))
    obtain ⟨rfl, rfl⟩ := one b u z
    exact ⟨at_a, by rw [List.length_map]; exact short, vs, _, rel, at_a⟩
end
theorem walk_ofG {l : PySem.W.OpenLaw} {n k : Nat} {q : Program} {loose : List Str} {XP : (Str → Option Value) → Heap → Prop} {YP : World → Heap → Prop} {d : DefRec} {K : Params → PySem.W.Frag} {CX : World → CXT} {sp : World → Sp} {x : Str}
    (most : l.most = some n) (short : n ≤ sizeLine) (plain : d.params.defaults = []) (room : Room k callerA) (frag : ∀ (w : World) (h : Heap), YP w h → (K w.params).In h)
    (F : ∀ (w : World) (mg : Str → Option Value) (fa : Addr) (h : Heap), (K w.params).In h → h.Ns mainGlobals mg → mg d.name = some (.ref fa) →
      ∃ fd : FuncData, (∀ (s : Shared) (u : Value), BindsTo s fd ⟨[u], []⟩ [(x, u)]) ∧ ∀ base : Heap, (K w.params).In base → base.Ns mainGlobals mg → FnG l.prog w (K w.params) mg base (CX w) k fa fd [x] (sp w))
    (want : ∀ (w : World) (H : Hp) (a : Addr) (ns : List Int), ns.length ≤ n → Only H → SqL (K w.params) H a (ns.map V.int) → sp w [.ref a] H (fun v _ => v = .bl true) fun _ _ _ => False)
    (raise : ∀ (w : World) (H : Hp) (s : Shared) (e : Value) (s' : Shared), CX w [] H s (fun _ _ _ => False) e s' → False) : PySem.W.WalkO q loose XP YP l.row.toRowW d [] (fun f vs => PySem.call f vs) := by
  refine Att.attach_call most plain ?_
  intro w s₀ s₁ mg mb fa o pm cd doc a vs ns G Y _ _ _ named script all_int len gens
  obtain ⟨fd, bind, fn⟩ := F w mg fa _ (frag w _ Y) G.T.g named
  exact law_callG (frag w _ Y) G.T.g G.T.b G.T.builtins G.T.nolimit gens script all_int (Nat.le_trans len short) room fn bind (fun H only sq => want w H a ns len only sq) fun H e s' => raise w H s₁ e s'
end L2
/-! len(x), bool(x) of instances whose class has a def __len__, __bool__. -/
namespace OwnX
open PySem PySem.W
section
variable {prog : Program} {w : World} {A : Around} {E : Value → Shared → Prop} {s : Shared} {K : Frag} {a C f : Addr} {ox : Obj} {od : Option Obj}
/-- a special def of the instance's class, called with the instance alone -/
theorem special_def {name : Str} {Q : Option Value → Shared → Prop} (X : K.In s.heap) (I : InstAt s.heap a ox C od) (found : findIn K (.ref C) name = some (some (.ref f))) (fn : isFn K (.ref f) = true)
    (go : wpAny (model prog w) A (call (.ref f) [.ref a]) (fun v s' => Q (some v) s') E s) : wpAny (model prog w) A (callSpecial? (.ref a) name) Q E s := by
  unfold callSpecial? specialOf
  refine wpAny_bind (wpAny_bind (I.type.here ((looks_findIn X found).here ?_)))
  refine wpAny_holding (wpAny_bind ?_)
  unfold bindSpecial
  refine wpAny_bind ((looks_typeIn X (beq_iff_eq.mp fn)).here ?_)
  rw [if_pos (by decide)]
  exact wpAny_pure (wpAny_bind (wpAny_mono go (fun v s' h => wpAny_pure h) fun _ _ h => h))
theorem len_def {Q : Value → Shared → Prop} (X : K.In s.heap) (I : InstAt s.heap a ox C od) (found : findIn K (.ref C) "__len__" = some (some (.ref f))) (fn : isFn K (.ref f) = true)
    (go : wpAny (model prog w) A.in1 (call (.ref f) [.ref a]) (fun r s' => ∃ n u, r = .int n u ∧ 0 ≤ n ∧ n < 2 ^ 63 ∧ Q (.int n s'.toks) { s' with toks := s'.toks + 1 }) E s) :
    wpAny (model prog w) A (call (.builtin "len") [.ref a]) Q E s := by
  refine Calls.call_function_entry kind_len plain_len entry_len (args_len1 _) ?_
  unfold Builtin.«len»
  refine wpAny_bind (m := oneArg "len" _) (wpAny_pure ?_)
  refine wpAny_bind (m := callSpecial? (.ref a) (Str.ofString "__len__")) (special_def X I found fn (wpAny_mono go ?_ fun _ _ y => y))
  rintro r s' ⟨n, u, rfl, low, high, q⟩
  refine wpAny_bind (wpAny_holding (wpAny_pure (wpAny_bind (wpAny_letGo ?_))))
  show wpAny _ _ (if n < 0 then _ else _) _ _ _
  rw [if_neg (by omega)]
  show wpAny _ _ (if n ≥ 2 ^ 63 then _ else _) _ _ _
  rw [if_neg (by omega)]
  exact wpAny_bind (wpAny_mkInt (wpAny_pure ⟨_, rfl, q⟩))
theorem truthy_def {Q : Bool → Shared → Prop} (X : K.In s.heap) (I : InstAt s.heap a ox C od) (found : findIn K (.ref C) "__bool__" = some (some (.ref f))) (fn : isFn K (.ref f) = true)
    (go : wpAny (model prog w) A (call (.ref f) [.ref a]) (fun r s' => ∃ b, r = .bool b ∧ Q b s') E s) : wpAny (model prog w) A (truthy (.ref a)) Q E s := by
  unfold truthy
  refine wpAny_bind (m := callSpecial? (.ref a) (Str.ofString "__bool__")) (special_def X I found fn (wpAny_mono go ?_ fun _ _ y => y))
  rintro r s' ⟨b, rfl, q⟩
  exact wpAny_pure q
theorem bool_def {Q : Value → Shared → Prop} (X : K.In s.heap) (I : InstAt s.heap a ox C od) (found : findIn K (.ref C) "__bool__" = some (some (.ref f))) (fn : isFn K (.ref f) = true)
    (go : wpAny (model prog w) A.in1.in1 (call (.ref f) [.ref a]) (fun r s' => ∃ b, r = .bool b ∧ Q (.bool b) s') E s) : wpAny (model prog w) A (call (.type "bool") [.ref a]) Q E s := by
  refine callType_newIn (S := fun A' R s' => K.In s'.heap ∧ InstAt s'.heap a ox C od ∧ wpAny (model prog w) A'.in1 (call (.ref f) [.ref a]) (fun r s' => ∃ b, r = .bool b ∧ R (.ok (.ret (.bool b))) s') (fun e s' => R (.error e) s') s')
    F.called_bool F.newNe_bool (F.typeCall_bool_1 _) (F.newCall_bool_1 _) (fun obj => F.args_object_init_2 obj _) F.entry_bool_new ?_ ⟨X, I, wpAny_mono go ?_ fun _ _ y => y⟩
  · refine MeetsIn.of_wp ?_
    rintro A' R ⟨hp, g, d, tk, os⟩ ⟨X', I', go'⟩
    have f1 := F.conv_sub_bool
    unfold Builtin.«bool.__new__»
    repeat (any_goals (first | assumption | with_reducible (refine truthy_def X' I' found fn (wpAny_mono go' ?_ fun _ _ y => y)) | wp_step))
    rintro v s' ⟨b, e, q⟩
    exact ⟨b, e, wpAny_pure ⟨_, rfl, q⟩⟩
  · rintro r s' ⟨b, rfl, q⟩
    exact ⟨b, rfl, ⟨rfl, q⟩⟩
end
end OwnX
namespace L2
open PySem PySem.Spec PyProof.Rows
section
variable {X : Cx} {CX : CXT} {k : Nat} {C f : Addr} {fd : FuncData} {ps : List Str} {sp : Sp} {E : XK}
/-- a def run with the instance alone, somewhat deeper -/
theorem run_one {A' : Around} {pins : List (Addr × Obj)} {σ : L2.St} {H : Hp} {s : Shared} {Q : VK} {a : Addr} (F : FnOk X.prog X.w X.K X.mg X.base CX k f fd ps sp) (room : Room k A') (same : A'.frames = X.A.frames) (hb : Binds X.K fd ps []) (hx : Passes CX X E)
    (I : Inv X pins σ H s) (h : sp [.ref a] H Q E) : wpAny (model X.prog X.w) A' (call (.ref f) [.ref a]) (EP X pins σ Q) X.xe s := by
  have env := I.env0
  have env' : Env0 X.prog X.w X.K X.mg X.base A' X.stack s H := ⟨by rw [same]; exact env.frames, env.mod, env.bs, env.bsz, env.funs, env.frf, env.hok, env.bare⟩
  have len := F.len _ _ _ _ h
  have bind := hb s [.ref a] I.kIn (by simpa using len)
  refine wpAny_call (codeAny_mono (F.run A' X.stack s H ⟨[.ref a], []⟩ [.ref a] [.ref a] Q E room env' (by simpa using bind) (.cons rfl .nil) h) ?_)
  intro res s' post
  cases res with
  | error z => exact hx pins σ H s z s' I post
  | ok way =>
    cases way with
    | ret u => exact I.after post
    | next => cases post
    | brk => cases post
    | cont => cases post
/-- len(x): the class's own __len__ -/
def rLenO (C : Addr) (sp : Sp) (E : XK) : List V → Hp → VK → Prop := fun xs H Q => ∃ a dx fs, xs = [.ref a] ∧ H a = some (.ins C dx fs) ∧ sp [.ref a] H (fun v H' => ∃ n : Int, v = .int n ∧ 0 ≤ n ∧ n < 2 ^ 63 ∧ Q (.int n) H') E
theorem call_lenO (F : FnOk X.prog X.w X.K X.mg X.base CX k f fd ps sp) (hr : Room (k + 1) X.A) (found : PySem.W.findIn X.K (.ref C) "__len__" = some (some (.ref f))) (fn : PySem.W.isFn X.K (.ref f) = true) (hb : Binds X.K fd ps []) (hx : Passes CX X E) :
    CallR X (.builtin "len") (rLenO C sp E) := by
  intro pins s σ H xs us Q I r h
  obtain ⟨a, dx, fs, rfl, at_a, q⟩ := h
  rw [Vals.ref1 r]
  obtain ⟨mA, O, _⟩ := ins_get I.hok at_a
  obtain ⟨od, J, _⟩ := O.look
  refine OwnX.len_def I.kIn J found fn (wpAny_mono (run_one F hr.in1 rfl hb hx I q) ?_ fun _ _ y => y)
  rintro v s' ⟨x, H1, I1, rv, n, rfl, low, high, q1⟩
  obtain ⟨t, rfl⟩ := rv
  exact ⟨n, t, rfl, low, high, .int n, H1, I1.tok _, ⟨_, rfl⟩, q1⟩
/-- bool(x): the class's own __bool__ -/
def rBoolO (C : Addr) (sp : Sp) (E : XK) : List V → Hp → VK → Prop := fun xs H Q => ∃ a dx fs, xs = [.ref a] ∧ H a = some (.ins C dx fs) ∧ sp [.ref a] H (fun v H' => ∃ b : Bool, v = .bl b ∧ Q (.bl b) H') E
theorem call_boolO (F : FnOk X.prog X.w X.K X.mg X.base CX k f fd ps sp) (hr : Room (k + 2) X.A) (found : PySem.W.findIn X.K (.ref C) "__bool__" = some (some (.ref f))) (fn : PySem.W.isFn X.K (.ref f) = true) (hb : Binds X.K fd ps []) (hx : Passes CX X E) :
    CallR X (.type "bool") (rBoolO C sp E) := by
  intro pins s σ H xs us Q I r h
  obtain ⟨a, dx, fs, rfl, at_a, q⟩ := h
  rw [Vals.ref1 r]
  obtain ⟨mA, O, _⟩ := ins_get I.hok at_a
  obtain ⟨od, J, _⟩ := O.look
  refine OwnX.bool_def I.kIn J found fn (wpAny_mono (run_one F hr.in1.in1 rfl hb hx I q) ?_ fun _ _ y => y)
  rintro v s' ⟨x, H1, I1, rv, b, rfl, q1⟩
  cases rv
  exact ⟨b, rfl, .bl b, H1, I1, rfl, q1⟩
end
end L2
/-! repr(x) of data of any kind (the empty dict too); t.index(x) of data. -/
namespace L2
open PySem PySem.Spec PyProof.Rows
/-- v reads as d; the empty dict too -/
def DpR (K : PySem.W.Frag) (H : Hp) (v : V) (d : PyData) : Prop := Dp K H v d ∨ (d = .dict [] ∧ ∃ a, v = .ref a ∧ Rd H a (.dK []))
def rReprV (K : PySem.W.Frag) : List V → Hp → VK → Prop := fun xs H Q => ∃ (v : V) (d : PyData), xs = [v] ∧ DpR K H v d ∧ d.showable = true ∧ (d = .dict [] ∨ d.hasDict = false) ∧ d.shown.length ≤ sizeLine ∧ d.depth ≤ 60 ∧ Q (.str d.shown) H
section
variable {X : Cx}
theorem call_reprV (gd : X.A.guards = some []) (hu : X.A.units + 64 < cLine) : CallR X (.builtin "repr") (rReprV X.K) := by
  intro pins s σ H xs us Q I r h
  obtain ⟨v, d, rfl, hd, h1, h2, h3, h4, q⟩ := h
  obtain ⟨u, rfl, ru⟩ := vals1 r
  have ans : ∀ (h' : Heap) (tk : Nat) (t : Tok), (∀ b o, s.heap.get? b = some o → h'.get? b = some o) → EP X pins σ Q (.str d.shown t) { s with heap := h', toks := tk } := fun h' tk t k => ⟨.str d.shown, H, I.kept k, ⟨t, rfl⟩, q⟩
  rcases hd with hd | ⟨rfl, a, rfl, ha⟩
  · have nod : d.hasDict = false := by
      rcases h2 with rfl | h2
      · cases hd
      · exact h2
    cases hd with
    | non =>
      cases ru
      exact P.repr_of_none (ans s.heap _ _ fun _ _ e => e)
    | bl b =>
      cases ru
      exact P.repr_of_bool (ans s.heap _ _ fun _ _ e => e)
    | int i =>
      obtain ⟨t, rfl⟩ := ru
      exact P.repr_of_int (of_decide_eq_true (by simpa [PyData.showable] using h1)) (ans s.heap _ _ fun _ _ e => e)
    | str x =>
      obtain ⟨t, rfl⟩ := ru
      exact P.repr_of_str (ans s.heap _ _ fun _ _ e => e) (hsz := h3)
    | lst hs ha =>
      cases ru
      obtain ⟨as, rd⟩ := Dp.reads I _ _ _ (.lst hs ha) rfl
      exact PySem.repr_of_reads' rd h1 (fun z => by rw [nod] at z; cases z) gd (by omega) (fun _ _ e => e) (fun h' u tk hk => ans h' tk u hk) h3
    | tup hs ha =>
      cases ru
      obtain ⟨as, rd⟩ := Dp.reads I _ _ _ (.tup hs ha) rfl
      exact PySem.repr_of_reads' rd h1 (fun z => by rw [nod] at z; cases z) gd (by omega) (fun _ _ e => e) (fun h' u tk hk => ans h' tk u hk) h3
  · cases ru
    obtain ⟨z, lo, vs, rel, dd⟩ := dk_rd I.hok ha
    obtain ⟨ep, hat⟩ := dd.dictAt
    have none_in : vs = [] := by
      cases rel
      rfl
    subst none_in
    obtain ⟨o, es, at_a, ex, data, _, pairs, _⟩ := hat
    have empty : es.toList = [] := by
      cases e : es.toList with
      | nil => rfl
      | cons x y =>
        rw [e] at pairs
        cases pairs
    have rd : Reads s.heap (.ref a) (.dict []) ([a] ++ []) := Reads.dict (kvs := []) at_a ex.1 data (by rw [empty]; exact .nil) (by rw [empty]; exact .nil)
    exact PySem.repr_of_reads' rd h1 (fun _ z => by simp at z; rw [z] at lo; simp at lo) gd (by omega) (fun _ _ e => e) (fun h' u tk hk => ans h' tk u hk) h3
/-! ### t.index(x) -/
def rTIndexD (K : PySem.W.Frag) : V → List V → Hp → VK → Prop := fun x vs H Q => ∃ (a : Addr) (xs : List V) (ds : List PyData) (y : V) (d : PyData) (j : Nat), x = .ref a ∧ vs = [y] ∧ SqT K H a xs ∧ DpAll K H xs ds ∧ Dp K H y d ∧
  SeqAt.shaped (.tuple ds) = true ∧ SeqAt.shaped d = true ∧ SeqAt.dataPlace ds d = some j ∧ Q (.int j) H
theorem idxOf_place (ds : List PyData) (d : PyData) {j : Nat} (h : SeqAt.dataPlace ds d = some j) : true ∈ ds.map (fun z => PyData.eqv z d) ∧ (ds.map fun z => PyData.eqv z d).idxOf true = j := by
  unfold SeqAt.dataPlace at h
  induction ds generalizing j with
  | nil => simp at h
  | cons a r ih =>
    rw [List.findIdx?_cons] at h
    cases e : PyData.eqv a d with
    | true =>
      rw [e] at h
      simp at h
      subst h
      simp [e]
    | false =>
      rw [e] at h
      simp only [Bool.false_eq_true, if_false, Option.map_eq_some_iff] at h
      obtain ⟨k, hk, rfl⟩ := h
      obtain ⟨h1, h2⟩ := ih hk
      refine ⟨by simp [e]; simpa using h1, ?_⟩
      rw [List.map_cons, e, List.idxOf_cons]
      simp [h2]
theorem mt_tupIndexD (hu : X.A.units + 66 < cLine) : MtR X "tuple.index" (rTIndexD X.K) := by
  intro pins s σ H x vs v us Q I rx rv h
  obtain ⟨a, xs, ds, y, d, j, rfl, rfl, hs, hds, hd, s1, s2, hp, q⟩ := h
  cases rx
  obtain ⟨u, rfl, ru⟩ := rv.one
  obtain ⟨as, r1⟩ := Dp.reads I d y u hd ru
  obtain ⟨its, r, ht, hz⟩ := I.tuple hs
  obtain ⟨bs, r2⟩ := Dp.readsAll I ds xs its hds r
  obtain ⟨m1, m2⟩ := idxOf_place ds d hp
  have l1 : its.length = ds.length := by rw [← r.length, DpAll.length hds]
  refine PySem.SeqAt.call_tuple_index (ks := ds.map fun z => PyData.eqv z d) (k := true) ht ⟨by rw [List.length_map]; exact l1, fun j h1 h2 => ?_⟩ m1 ?_
  · have h3 : j < ds.length := by omega
    have h4 : j < xs.length := by rw [r.length]; exact h1
    obtain ⟨u', e1, e2⟩ := Vals.get r (List.getElem?_eq_getElem h4)
    rw [List.getElem?_eq_getElem h1] at e1
    cases e1
    obtain ⟨d', e3, e4⟩ := DpAll.get hds (List.getElem?_eq_getElem h4)
    rw [List.getElem?_eq_getElem h3] at e3
    cases e3
    obtain ⟨cs, r3⟩ := Dp.reads I _ _ _ e4 e2
    have dep := SeqAt.depth_of_shaped s2
    have lay : ds[j].plain = true := by
      have z := SeqAt.canLay_of_shaped s1
      simp only [PyData.canLay0] at z
      have go : ∀ {l : List PyData} {x : PyData}, PyData.canLayAll0 l = true → x ∈ l → x.canLay0 = true := by
        intro l
        induction l with
        | nil => intro x _ h; cases h
        | cons b t ih =>
          intro x hl hx
          simp only [PyData.canLayAll0, Bool.and_eq_true] at hl
          rcases List.mem_cons.mp hx with e | hx
          · rw [e]; exact hl.1
          · exact ih hl.2 hx
      exact PyData.plain_of_canLay0 _ (go z (List.getElem_mem h3))
    have ans := SeqAt.eqAt_plain ds[j] d X.A.in1 s its[j] u cs as r3 r1 lay (PyData.plain_of_canLay0 _ (SeqAt.canLay_of_shaped s2)) (by show X.A.units + 1 + _ < cLine; omega)
    have e : decide ((ds.map fun z => PyData.eqv z d)[j] = true) = PyData.eqv ds[j] d := by simp
    rw [e]
    exact ans
  · rw [m2]
    exact ⟨.int j, H, I.tok _, ⟨_, rfl⟩, q⟩
end
end L2
/-! o.m(e, ..) of a tuple that the program made (pe_bm asks for one of the program's text): tuple(list) as a known object, and its methods. -/
namespace L2
open PySem PySem.Spec PyProof.Rows HT
section
variable {X : Cx}
/-- tuple(list), the object known to have no dict -/
def rTupF (K : PySem.W.Frag) : List V → Hp → VK → Prop := fun xs H Q => ∃ p ys, xs = [V.ref p] ∧ SqL K H p ys ∧ ∀ l o, H l = none → o.dict = none → Q (.ref l) (upd H l (.frz o (.tup ys)))
theorem call_tupF : CallR X (.type "tuple") (rTupF X.K) := by
  intro pins s σ H xs us Q I r h
  obtain ⟨p, ys, rfl, hq, q⟩ := h
  obtain ⟨u, rfl, rx⟩ := r.one
  cases rx
  obtain ⟨its, r', pl, hz⟩ := I.list hq
  have hlen := r'.length
  refine call_tuple_list pl.isList (fun h' kp => ?_) (by simp only [List.size_toArray] <;> omega)
  have I1 : Inv X pins σ H { s with heap := h' } := I.kept (t' := s.toks) kp
  have I2 : Inv X pins σ (upd H h'.objs.size (.frz { cls := .type "tuple", data := .seq its.toArray } (.tup ys))) { s with heap := h'.push { cls := .type "tuple", data := .seq its.toArray } } :=
    I1.laid (t' := s.toks) (fun b o e => Heap.get?_push_of_some _ e) (Nat.le_refl _) (show ObjOk X.prog X.w _ _ _ (.frz _ (.tup ys)) from ⟨by unfold Heap.get? Heap.push; simp, hz, its, r', IsTup.new _ _⟩)
  exact ⟨.ref h'.objs.size, _, I2, rfl, q _ _ (I1.hok.fresh (Nat.le_refl _)) rfl⟩
def tBMT (r : V → List V → Hp → VK → Prop) (to : TE) (t : TA) : TE := fun σ H Q => to σ H fun x H1 => (∃ a o xs, x = .ref a ∧ H1 a = some (.frz o (.tup xs)) ∧ o.dict = none) ∧ t σ H1 fun xs H2 => r x xs H2 Q
variable {o e : Expr} {es : List Expr} {to : TE} {t : TA} {name : Str} {apos cpos : Pos} {id : String} {r : V → List V → Hp → VK → Prop}
theorem pe_bmT (slot : Slot "tuple" name id) (hty : typeOf (.builtin id) = pure (.type "method_descriptor")) (hm : MtR X id r) (ho : PE X o to) (ha : PA X (e :: es) t)
    (hbase : attributeBase o name X.env (eval o X.env) = eval o X.env := by rfl)
    (hfew : ((backTo cpos (starEach (e :: es) X.env)).all (fun x => !x.1) && (backToKw cpos (keywordEach [] X.env)).all (fun x => x.1.isSome)
      && decide ((e :: es).length + ([] : List Keyword).length + (if ([] : List Keyword).isEmpty then 0 else 1) < 30)) = true := by rfl)
    (hline : (apos.endLine == cpos.line) = true := by rfl) (hs : starEach (e :: es) X.env = (false, eval e X.env) :: starEach es X.env := by rfl) (hplain : (backTo cpos (starEach es X.env)).any (·.1) = false := by rfl) :
    PE X (.Call (.Attribute o name apos) (e :: es) [] cpos) (tBMT r to t) := by
  refine ⟨fun pins s σ H Q I h => ?_⟩
  refine wpAny_Call_method_late hbase hfew hline rfl (thn (ho.run pins s σ H _ I h) ?_)
  rintro v s1 ⟨x, H1, I1, r1, ⟨a, ob, xs, rfl, hx, hn⟩, q1⟩
  cases r1
  obtain ⟨eo, _⟩ := I1.hok _ _ hx
  obtain ⟨its, rv, ht, hz⟩ := I1.tuple (.inl (.inr ⟨ob, hx⟩))
  refine ⟨"tuple", id, PySem.F.plainAttrs_tuple, slot, hty, ht.typeIs, fun b eb => ?_, ?_⟩
  · cases eb
    exact ⟨ob, eo, hn⟩
  have hA := ha.run cpos pins s1 σ H1 _ I1 q1
  rw [hs] at hA ⊢
  refine Calls.callWith_builtin (by show (false || (backTo cpos (starEach es X.env)).any (·.1)) = false; rw [hplain] <;> rfl) (Calls.evalArgs_plain ?_)
  exact thn hA fun us s2 ⟨vs, H2, I2, r2, q2⟩ => hm pins s2 σ H2 (.ref a) vs (.ref a) us Q I2 rfl r2 q2
end
end L2
/-! xs != [], items of any kind. -/
namespace L2
open PySem PySem.Spec PyProof.Rows
section
variable {X : Cx}
def rNeNil (K : PySem.W.Frag) : R2 := fun x y H Q => ∃ a b xs, x = .ref a ∧ y = .ref b ∧ SqL K H a xs ∧ SqL K H b [] ∧ Q (.bl (!xs.isEmpty)) H
theorem op_neNil (hu : X.A.units < cLine) : OpR X (compareOp .NotEq) (rNeNil X.K) := by
  intro pins s σ H x y v u Q I rx ry h
  obtain ⟨a, b, xs, rfl, rfl, ha, hb, q⟩ := h
  cases rx
  cases ry
  obtain ⟨its, r, l1, _⟩ := I.list ha
  obtain ⟨its2, r2, l2, _⟩ := I.list hb
  cases r2
  have len := r.length
  unfold compareOp
  cases xs with
  | nil =>
    cases r
    refine SeqAt.RcNeAt.lists (e := fun _ => true) l1.isList l2.isList rfl hu (fun j h1 _ => absurd h1 (by simp)) _ _ _ _ ?_
    exact ⟨.bl _, H, I, rfl, q⟩
  | cons z zs =>
    refine SeqAt.RcNeAt.lists_lengths l1.isList l2.isList ?_ hu _ _ _ _ ⟨.bl _, H, I, rfl, q⟩
    rw [List.size_toArray, ← len]
    rfl
end
end L2
/-! sorted(xs, key=f), f a def of the program by its promise: items of any kind, keys data without lists. -/
namespace L2
open PySem PySem.Spec PyProof.Rows
section
variable {X : Cx} {k : Nat} {f : Addr} {fd : FuncData} {ps : List Str} {sp : Sp}
/-- a def run with one value, somewhat deeper; it does not raise -/
theorem run_key {A' : Around} {pins : List (Addr × Obj)} {σ : L2.St} {H : Hp} {s : Shared} {Q : VK} {v : V} {u : Value} (F : FnOk X.prog X.w X.K X.mg X.base CX0 k f fd ps sp) (room : Room k A') (same : A'.frames = X.A.frames) (hb : Binds X.K fd ps [])
    (I : Inv X pins σ H s) (r : RelV v u) (h : sp [v] H Q E0) : wpAny (model X.prog X.w) A' (call (.ref f) [u]) (EP X pins σ Q) (fun _ _ => False) s := by
  have env := I.env0
  have env' : Env0 X.prog X.w X.K X.mg X.base A' X.stack s H := ⟨by rw [same]; exact env.frames, env.mod, env.bs, env.bsz, env.funs, env.frf, env.hok, env.bare⟩
  have len := F.len _ _ _ _ h
  have bind := hb s [u] I.kIn (by simpa using len)
  refine wpAny_call (codeAny_mono (F.run A' X.stack s H ⟨[u], []⟩ [u] [v] Q E0 room env' (by simpa using bind) (.cons r .nil) h) ?_)
  intro res s' post
  cases res with
  | error z => exact post
  | ok way =>
    cases way with
    | ret u => exact I.after post
    | next => cases post
    | brk => cases post
    | cont => cases post
/-- the list and the keys' store, behind a sort by keys: the store is only a pin -/
theorem Inv.sorted {pins : List (Addr × Obj)} {σ : L2.St} {H : Hp} {s : Shared} {h' : Heap} {tk : Nat} {a kS : Addr} {o : HO} (I : Inv X pins σ H s) (ha : H a = none) (hk : H kS = none) (ka : kS ≠ a)
    (keep : ∀ b ob, b ≠ a → b ≠ kS → s.heap.get? b = some ob → h'.get? b = some ob) (za : X.s_0.heap.objs.size ≤ a) (zk : X.s_0.heap.objs.size ≤ kS) (la : a ≠ X.env.locals) (lk : kS ≠ X.env.locals)
    (ca : ∀ x c, X.env.cells.lookup x = some c → c ≠ a) (ck : ∀ x c, X.env.cells.lookup x = some c → c ≠ kS) (pa : ∀ p ∈ X.pn ++ pins, p.1 ≠ a) (pk : ∀ p ∈ X.pn ++ pins, p.1 ≠ kS) (new : ObjOk X.prog X.w (upd H a o) h' a o) :
    Inv X pins σ (upd H a o) { s with heap := h', toks := tk } := by
  have out : ∀ {b : Addr}, b ∉ [a, kS] → b ≠ a ∧ b ≠ kS := fun h => ⟨fun e => h (by simp [e]), fun e => h (by simp [e])⟩
  refine I.step (g' := s.gens) (d' := s.drawn) (ch := [a, kS]) ?_ ?_ ?_ ?_ ?_ ?_ ?_ ?_ ?_ ?_ I.bare
  · intro b hb
    simp only [List.mem_cons, List.not_mem_nil, or_false] at hb
    rcases hb with rfl | rfl
    · exact ⟨.inr za, la, ca, pa⟩
    · exact ⟨.inr zk, lk, ck, pk⟩
  · exact fun b ob _ _ hc e _ => keep b ob (out hc).1 (out hc).2 e
  · exact fun b ob _ _ hc e _ => ⟨ob.slots, keep b ob (out hc).1 (out hc).2 e⟩
  · exact fun b ob hc _ n => by rw [upd_ne (out hc).1]; exact n
  · exact fun b ob hc e => ⟨ob, keep b ob (out hc).1 (out hc).2 e⟩
  · exact fun b ys e => by rw [upd_ne (fun z => by rw [z, ha] at e; cases e)]; exact e
  · exact fun b ob u e => by rw [upd_ne (fun z => by rw [z, ha] at e; cases e)]; exact e
  · exact fun b qs e => ⟨#[], by rw [upd_ne (fun z => by rw [z, ha] at e; cases e), e]; simp⟩
  · rintro m ⟨ob, es, ep, ho, r⟩
    exact ⟨ob, es, ep, keep _ _ la.symm lk.symm ho, r⟩
  · intro b u e
    by_cases hb : b = a
    · subst hb
      rw [upd_same] at e
      cases e
      exact new
    · rw [upd_ne hb] at e
      refine (I.hok b u e).stay (fun c v hc q => keep c v ?_ ?_ q) (fun c q => ?_) (fun c ys q => ?_)
      · rcases hc with rfl | z
        · exact hb
        · exact fun w => by rw [w, ha] at z; cases z
      · rcases hc with rfl | z
        · exact fun w => by rw [w, hk] at e; cases e
        · exact fun w => by rw [w, hk] at z; cases z
      · rw [upd_ne (fun w => by rw [w, ha] at q; cases q)]; exact q
      · rw [upd_ne (fun w => by rw [w, ha] at q; cases q)]; exact q
theorem DpAll.reads {pins : List (Addr × Obj)} {σ : L2.St} {H : Hp} {s : Shared} (I : Inv X pins σ H s) : ∀ {vs : List V} {ds : List PyData} {us : List Value}, DpAll X.K H vs ds → Vals vs us → PySem.W.EachIs (fun u d => ∃ as, Reads s.heap u d as) us ds
  | _, _, _, .nil, .nil => .nil
  | _, _, _, .cons h t, .cons r q => .cons (Dp.reads I _ _ _ h r) (DpAll.reads I t q)
theorem vals_push {vs : List V} {us : Array Value} {v : V} {u : Value} (h : Vals vs us.toList) (r : RelV v u) : Vals (vs ++ [v]) (us.push u).toList := by
  rw [Array.toList_push]
  exact h.append (.cons r .nil)
/-- sorted(xs, key=f) -/
def rSortF (K : PySem.W.Frag) (f : Addr) (sp : Sp) : List V → List V → Hp → VK → Prop := fun xs zs H Q => ∃ (l : Addr) (qs : List (V × PyData)), xs = [.ref l] ∧ zs = [.ref f] ∧ SqL K H l (qs.map (·.1)) ∧ PySem.W.AllAlike (qs.map (·.2)) ∧ PySem.W.Sortable (qs.map (·.2)) ∧
  (∀ q ∈ qs, q.2.depth ≤ 60 ∧ imm q.2 = true) ∧ (∀ q ∈ qs, ∀ H' Q', Same H H' → (∀ v H2, Same H' H2 → Dp K H2 v q.2 → Q' v H2) → sp [q.1] H' Q' E0) ∧
  ∀ p H', Same H H' → H p = none → H' p = some (.lst ((qs.mergeSort leD).map (·.1))) → Q (.ref p) H'
theorem call_sortedF (F : FnOk X.prog X.w X.K X.mg X.base CX0 k f fd ps sp) (hr : Room (k + 2) X.A) (hb : Binds X.K fd ps []) (hu : X.A.units + 64 < cLine) : CallRK X (.builtin "sorted") [Str.ofString "key"] (rSortF X.K f sp) := by
  intro pins s σ H vs zs us ws Q I r rz h
  obtain ⟨l, qs, rfl, rfl, hl, hal, hso, him, hsp, q⟩ := h
  rw [Vals.ref1 r]
  obtain ⟨w1, rfl, e1⟩ := rz.one
  cases e1
  obtain ⟨its, rv, pl, hz⟩ := I.list hl
  have hlen := rv.length
  rw [List.length_map] at hlen hz
  refine PySem.W.sorted_of_sort pl.isList (by omega) (ksk_s1 _ _) (fun _ => ksk_l1 _ _) fun E' => ?_
  show wpAny _ _ (Builtin.«list.sort» ⟨[.ref (s.heap.objs.size + 1)], [(Str.ofString "key", .ref f)]⟩) _ _ _
  rw [ksk_t1]
  have old : ∀ b o, s.heap.get? b = some o → (PySem.W.sortingHeap (PySem.W.copyHeap s.heap its) (s.heap.objs.size + 1) its).get? b = some o := fun b o e => PySem.W.sorting_copy_old e
  obtain ⟨a, ea⟩ : ∃ a, a = s.heap.objs.size + 1 := ⟨_, rfl⟩
  rw [← ea] at old ⊢
  have at_a := PySem.W.copyHeap_at s.heap its
  rw [← ea] at at_a
  have below : a < (PySem.W.copyHeap s.heap its).objs.size := Heap.lt_size at_a
  have room2 : Room k X.A.in1.in1 := hr.in1.in1
  have emptied : ∃ e1, ((PySem.W.copyHeap s.heap its).update a (Obj.mapSeq fun _ => (#[] : Array Value))).get? a = some (seqObj "list" #[] e1) := ⟨_, get?_update_seq at_a fun _ => #[]⟩
  obtain ⟨e1, emptied⟩ := emptied
  have sz2 : its.length ≤ sizeLine := by omega
  unfold ksk_tree
  refine wpAny_bind (listItems_at at_a rfl (wpAny_bind (listUpdate_at at_a rfl ?_ (by rw [List.size_toArray]; exact sz2) (Nat.zero_le _))))
  refine wpAny_bind (seqEpoch_at emptied rfl (wpAny_bind (wpAny_newTuple (wpAny_bind (wpAny_newList (wpAny_holding ?_) (Nat.zero_le _))) (by show its.length ≤ _; exact sz2))))
  obtain ⟨kS, eS⟩ : ∃ kS, kS = (((PySem.W.copyHeap s.heap its).update a (Obj.mapSeq fun _ => (#[] : Array Value))).push (seqObj "tuple" its.toArray 0)).objs.size := ⟨_, rfl⟩
  have hkS : kS = (PySem.W.copyHeap s.heap its).objs.size + 1 := by rw [eS, size_push', Heap.size_update]
  have store : (PySem.W.sortingHeap (PySem.W.copyHeap s.heap its) a its).get? kS = some (seqObj "list" #[] 0) := by
    rw [eS]
    exact Heap.get?_push_size _ rfl
  have stands : (PySem.W.sortingHeap (PySem.W.copyHeap s.heap its) a its).get? a = some (seqObj "list" #[] e1) := Heap.get?_push_of_some _ (Heap.get?_push_of_some _ emptied)
  show wpAny _ _ (ksk_rest a (.ref f) false its.toArray e1 (.ref (((PySem.W.copyHeap s.heap its).update a (Obj.mapSeq fun _ => (#[] : Array Value))).push (seqObj "tuple" its.toArray 0)).objs.size)) _ _ { s with heap := PySem.W.sortingHeap (PySem.W.copyHeap s.heap its) a its }
  rw [← eS]
  have szA : s.heap.objs.size ≤ a := by omega
  have szK : s.heap.objs.size ≤ kS := by omega
  have nka : kS ≠ a := by omega
  have cellLt : ∀ x c, X.env.cells.lookup x = some c → c < s.heap.objs.size := fun x c e => by
    obtain ⟨v, o, ho, _⟩ := I.cell x c e
    exact Heap.lt_size ho
  have pinLt : ∀ p ∈ X.pn ++ pins, p.1 < s.heap.objs.size := fun p hp => Heap.lt_size (I.pin p hp).1
  have locLt := I.lt
  have I1 : Inv X pins σ H { s with heap := PySem.W.sortingHeap (PySem.W.copyHeap s.heap its) a its } := I.kept (t' := s.toks) old
  have nfA := I.nofs szA
  have nfK := I.nofs szK
  have pinsOk : ∀ {H' : Hp} {s' : Shared} {kA : Array Value} {e : Nat}, Inv X pins σ H' s' → s'.heap.get? kS = some (seqObj "list" kA e) → s'.heap.get? a = some (seqObj "list" #[] e1) → H' kS = none → H' a = none → Inv X ((kS, seqObj "list" kA e) :: (a, seqObj "list" #[] e1) :: pins) σ H' s' := by
    intro H' s' kA e J g1 g2 n1 n2
    refine J.pins_of fun p hp => ?_
    rcases List.mem_cons.mp hp with rfl | hp
    · exact ⟨g1, n1, Nat.ne_of_gt (Nat.lt_of_lt_of_le locLt szK), nfK, fun v z => by cases z⟩
    · rcases List.mem_cons.mp hp with rfl | hp
      · exact ⟨g2, n2, Nat.ne_of_gt (Nat.lt_of_lt_of_le locLt szA), nfA, fun v z => by cases z⟩
      · exact J.pin p (List.mem_append_right _ hp)
  have J1 := pinsOk I1 store stands (I.hok.fresh szK) (I.hok.fresh szA)
  unfold ksk_rest
  refine (wpAny_bind (wpAny_rule ?_))
  rw [List.forIn_toArray]
  refine wpAny_bind (ksk_fold (fun i s' => ∃ (kA : Array Value) (e : Nat) (H' : Hp) (kV : List V), Inv X ((kS, seqObj "list" kA e) :: (a, seqObj "list" #[] e1) :: pins) σ H' s' ∧ Same H H' ∧ Vals kV kA.toList ∧ DpAll X.K H' kV ((qs.map (·.2)).take i)) its 0 _ ⟨#[], 0, H, [], J1, Same.refl H, .nil, .nil⟩ ?_ ?_)
  · rintro j x s' hx ⟨kA, e, H', kV, J, hs, hv, hd⟩
    simp only [Nat.zero_add] at hd ⊢
    have hj : j < its.length := (List.getElem?_eq_some_iff.mp hx).1
    have hjq : j < qs.length := by omega
    have hq : qs[j] ∈ qs := List.getElem_mem hjq
    have hmap : (qs.map (·.1))[j]? = some qs[j].1 := by rw [List.getElem?_map, List.getElem?_eq_getElem hjq]; rfl
    obtain ⟨u', e2, rel⟩ := Vals.get rv hmap
    rw [hx] at e2
    cases e2
    have run := run_key (Q := fun w H2 => Same H' H2 ∧ Dp X.K H2 w qs[j].2) F room2 rfl hb J rel (hsp _ hq H' _ hs fun v H2 k2 dv => ⟨k2, dv⟩)
    refine wpAny_bind (wpAny_attempt (wpAny_mono run (fun u s2 post => ?_) fun _ _ no => no.elim))
    obtain ⟨wv, H2, J2, rw2, k2, dv⟩ := post
    have p1 := J2.pin _ (List.mem_append_right _ (.head _))
    have p2 := J2.pin _ (List.mem_append_right _ (.tail _ (.head _)))
    have ksz : kA.size ≤ its.length := by
      have w1 : kV.length = kA.size := by rw [hv.length, Array.length_toList]
      have w2 : kV.length ≤ qs.length := by
        rw [DpAll.length hd, List.length_take, List.length_map]
        omega
      omega
    try dsimp only
    refine wpAny_bind (listUpdate_at p1.1 rfl ?_ (by omega) (by rw [Array.size_push]; omega))
    have g1 : (s2.heap.update kS (Obj.mapSeq (·.push u))).get? kS = some (seqObj "list" (kA.push u) _) := get?_update_seq p1.1 (·.push u)
    have same := Heap.SameBut.update s2.heap kS (Obj.mapSeq (·.push u))
    have J3 : Inv X pins σ H2 s2 := J2.pins_of fun p hp => J2.pin p (List.mem_append_right _ (.tail _ (.tail _ hp)))
    have J4 : Inv X pins σ H2 { s2 with heap := s2.heap.update kS (Obj.mapSeq (·.push u)) } := J3.turned (t' := s2.toks) (it := kS) (fun b o hb e => (same.2 b hb).trans e) p1.2.1 (Nat.ne_of_gt (Nat.lt_of_lt_of_le locLt szK)) (.inr (Nat.le_trans I.sz szK)) (fun x c e => Nat.ne_of_lt (Nat.lt_of_lt_of_le (cellLt x c e) szK)) (fun p hp => Nat.ne_of_lt (Nat.lt_of_lt_of_le (pinLt p hp) szK))
    refine wpAny_pure ⟨rfl, kA.push u, _, H2, kV ++ [wv], pinsOk J4 g1 ((same.2 a nka.symm).trans p2.1) p1.2.1 p2.2.1, hs.trans k2, vals_push hv rw2, ?_⟩
    rw [List.take_add_one, List.getElem?_map, List.getElem?_eq_getElem hjq]
    refine DpAll.app (Dp.keepAll k2.tupK _ _ ?_ hd) (.cons dv .nil)
    have all : ∀ {l : List (V × PyData)}, (∀ q ∈ l, imm q.2 = true) → immAll (l.map (·.2)) = true := by
      intro l
      induction l with
      | nil => intro _; rfl
      | cons c t ih =>
        intro h
        simp only [List.map_cons, immAll, Bool.and_eq_true]
        exact ⟨h c List.mem_cons_self, ih fun q hq => h q (List.mem_cons_of_mem _ hq)⟩
    rw [← List.map_take]
    exact all fun q hq => (him q (List.mem_of_mem_take hq)).2
  · rintro s' ⟨kA, e, H', kV, J, hs, hv, hd⟩
    rw [Nat.zero_add, List.take_of_length_le (by rw [List.length_map]; omega)] at hd
    have p1 := J.pin _ (List.mem_append_right _ (.head _))
    have p2 := J.pin _ (List.mem_append_right _ (.tail _ (.head _)))
    try dsimp only
    refine wpAny_bind (listItems_at p1.1 rfl ?_)
    have each := DpAll.reads J hd hv
    obtain ⟨G, hG1, hG2⟩ := restrict s'.heap fun b => decide (b ≠ kS)
    have szq : kA.size = its.length := by
      have w1 : kV.length = kA.size := by rw [hv.length, Array.length_toList]
      have w2 : kV.length = qs.length := by rw [DpAll.length hd, List.length_map]
      omega
    have kp : PySem.W.KeepsBut a G s'.heap := fun b o _ e => by
      by_cases hb : b = kS
      · rw [hb, hG2 kS (decide_eq_false fun z => z rfl)] at e
        cases e
      · rw [← hG1 b (decide_eq_true hb)]
        exact e
    have kp' : ∀ b o, b ≠ kS → s'.heap.get? b = some o → G.get? b = some o := fun b o hb e => by rw [hG1 b (decide_eq_true hb)]; exact e
    have sorts := PySem.W.SortsAt.data (prog := X.prog) (w := X.w) (A := X.A.in1.in1) (s := s') each hal hso (fun d hd => by
      obtain ⟨q, hq, rfl⟩ := List.mem_map.mp hd
      have := (him q hq).1
      show X.A.units + 2 + q.2.depth < cLine
      omega)
    refine PySem.W.keyH_end (h₁ := G) kp (hG2 kS (decide_eq_false fun z => z rfl)) p1.1 p2.1 nka sorts szq sz2 fun h2 tk c kh ah => ⟨rfl, ?_⟩
    have pairs : PySem.W.EachIs (fun u (p : V × PyData) => RelV p.1 u) its qs := by
      have go : ∀ {l : List (V × PyData)} {us : List Value}, Vals (l.map (·.1)) us → PySem.W.EachIs (fun u (p : V × PyData) => RelV p.1 u) us l := by
        intro l
        induction l with
        | nil => intro us h; cases h; exact .nil
        | cons c t ih =>
          intro us h
          cases h with
          | cons r t => exact .cons r (ih t)
      exact go rv
    have outs := PySem.W.keyedOut_each (rev := false) (R := fun u (p : V × PyData) => RelV p.1 u) (bs := qs) (vs := its) (fun p => p.2) ⟨s'.heap, kA.toList, hal, rfl, each⟩ pairs
    have rels : Vals ((qs.mergeSort leD).map (·.1)) (PySem.W.sortVals (PySem.W.dataKind s'.heap (qs.map (·.2))) false kA.toList its) := vals_each outs
    have J3 : Inv X pins σ H' s' := J.pins_of fun p hp => J.pin p (List.mem_append_right _ (.tail _ (.tail _ hp)))
    have J4 : Inv X pins σ (upd H' a (.lst ((qs.mergeSort leD).map (·.1)))) { s' with heap := h2, toks := tk } := by
      refine Inv.sorted J3 p2.2.1 p1.2.1 nka (fun b o h1 h3 e => kh b o h1 (kp' b o h3 e)) (Nat.le_trans I.sz szA) (Nat.le_trans I.sz szK) (Nat.ne_of_gt (Nat.lt_of_lt_of_le locLt szA)) (Nat.ne_of_gt (Nat.lt_of_lt_of_le locLt szK)) (fun x c e => Nat.ne_of_lt (Nat.lt_of_lt_of_le (cellLt x c e) szA)) (fun x c e => Nat.ne_of_lt (Nat.lt_of_lt_of_le (cellLt x c e) szK))
        (fun p hp => Nat.ne_of_lt (Nat.lt_of_lt_of_le (pinLt p hp) szA)) (fun p hp => Nat.ne_of_lt (Nat.lt_of_lt_of_le (pinLt p hp) szK)) ⟨by rw [List.length_map, List.length_mergeSort]; exact hz, _, c, rels, ah⟩
    exact ⟨.ref a, _, J4, rfl, q a _ (hs.step p2.2.1) (I.hok.fresh szA) upd_same⟩
end
end L2
/-! enumerate over a tuple, the tuple standing all the while. -/
namespace EnumX
open PySem
theorem made_by {t : Addr} {xs : Array Value} : Meets (Builtin.«enumerate.__new__» ⟨[.type "enumerate", .ref t], []⟩) (fun _ R s => s.heap.IsTuple t xs ∧
    R (.ok (.ret (.ref (s.heap.push { cls := .type "tuple_iterator", data := .fields #[.ref t, .int 0 0] }).objs.size)))
      { s with heap := (s.heap.push { cls := .type "tuple_iterator", data := .fields #[.ref t, .int 0 0] }).push { cls := .type "enumerate", data := .fields #[.none, .bool false, .ref s.heap.objs.size, rawInt 0, .none, .none] } }) :=
  .of_wp fun prog w A R s want => by
    obtain ⟨heap, gens, drawn, toks, os⟩ := s
    obtain ⟨is_tuple, want⟩ := want
    have sub := sub_enumerate
    have iter : ∀ {B : Around} {E Q : Value → Shared → Prop}, Q (.ref heap.objs.size) ⟨heap.push { cls := .type "tuple_iterator", data := .fields #[.ref t, .int 0 0] }, gens, drawn, toks, os⟩ → wpAny (model prog w) B (pyIter (.ref t)) Q E ⟨heap, gens, drawn, toks, os⟩ :=
      fun q => (begins_tuple t xs).iter prog w _ _ ⟨heap, gens, drawn, toks, os⟩ _ is_tuple q
    obtain ⟨o, at_t, cls_t, n, dat⟩ := id is_tuple
    obtain ⟨oc, od, ot, os'⟩ := o
    cases (show oc = .type "tuple" from cls_t)
    cases (show ot = .seq xs n from dat)
    wp_walk using AutoSeq1.wpAny_loadPart' at_t
    refine (wpAny_stack_any fun _ => wpAny_pure ?_)
    split
    · rename_i c _ _ _ _ _
      cases (c == Value.type "enumerate") <;>
      · wp_walk using AutoSeq1.wpAny_loadPart' at_t, iter
        exact ⟨_, rfl, want⟩
    · wp_walk using AutoSeq1.wpAny_loadPart' at_t, iter
      exact ⟨_, rfl, want⟩
section
variable {prog : Program} {w : World} {A : Around} {E : Value → Shared → Prop} {s : Shared}
theorem made {t : Addr} {xs : Array Value} {Q : Value → Shared → Prop} (is_tuple : s.heap.IsTuple t xs)
    (want : ∀ h', IsEnum h' (s.heap.objs.size + 1) s.heap.objs.size 0 .none → h'.IsTupleIter s.heap.objs.size t 0 → (∀ b o, s.heap.get? b = some o → h'.get? b = some o) → Q (.ref (s.heap.objs.size + 1)) { s with heap := h' }) :
    wpAny (model prog w) A (call (.type "enumerate") [.ref t]) Q E s := by
  refine callType_new F.called_enumerate (by decide) (F.typeCall_enumerate_1 _) (F.newCall_enumerate_1 _) (fun obj => F.args_object_init_2 obj _) F.entry_enumerate_new made_by ⟨is_tuple, ?_⟩
  obtain ⟨it, hit⟩ : ∃ it : Obj, it = { cls := .type "tuple_iterator", data := .fields #[.ref t, .int 0 0] } := ⟨_, rfl⟩
  rw [← hit]
  have free : it.isFreed = false := by rw [hit]; rfl
  have size : (s.heap.push it).objs.size = s.heap.objs.size + 1 := Heap.size_push ..
  have e : IsEnum ((s.heap.push it).push { cls := .type "enumerate", data := .fields #[.none, .bool false, .ref s.heap.objs.size, rawInt 0, .none, .none] }) (s.heap.objs.size + 1) s.heap.objs.size 0 .none := by
    rw [← size]
    exact Heap.get?_push_size _ rfl
  have i : ((s.heap.push it).push { cls := .type "enumerate", data := .fields #[.none, .bool false, .ref s.heap.objs.size, rawInt 0, .none, .none] }).IsTupleIter s.heap.objs.size t 0 :=
    ⟨it, Heap.get?_push_of_some _ (Heap.get?_push_size _ free), by subst hit; rfl, by subst hit; rfl⟩
  rw [size]
  exact ⟨⟨_, e, rfl⟩, want _ e i fun b o q => Heap.get?_push_of_some _ (Heap.get?_push_of_some _ q)⟩
end
end EnumX
namespace L2
open PySem PySem.Spec PyProof.Rows
/-- the tuple at a, each item in a new pair behind its number -/
def IteT (K : PySem.W.Frag) (a : Addr) : It :=
  ⟨fun i H => ∃ (xs : List V) (x : V), SqT K H a xs ∧ xs[i]? = some x, fun i H v H' => ∃ T x, v = .ref T ∧ H T = none ∧ H' = upd H T (.tup [.int (i : Nat), x]) ∧ ∀ xs, SqT K H a xs → xs[i]? = some x, fun i H => ∃ xs : List V, SqT K H a xs ∧ xs.length = i⟩
theorem turn_enumT {P : Program} {w : World} {K : PySem.W.Frag} {elts : List Expr} {kk : Nat} {tpos : Pos} {a e it : Addr} (ae : a ≠ e) (ai : a ≠ it) (ei : e ≠ it) :
    Turn P w K (.Tuple elts kk tpos) (IteT K a) [e, it] e (fun i h => (∃ old, IsEnum h e it ((i : Nat) : Int) old) ∧ h.IsTupleIter it a i) where
  mem := List.mem_cons_self
  obj := by
    rintro i h ⟨⟨old, he⟩, o, ho, hc, hd⟩ b hb
    simp only [List.mem_cons, List.not_mem_nil, or_false] at hb
    rcases hb with rfl | rfl
    · exact ⟨_, he, fun v q => nomatch q⟩
    · exact ⟨o, ho, fun v q => by rw [hd] at q; cases q⟩
  keep := by
    rintro i h h' ⟨⟨old, he⟩, hi⟩ k
    exact ⟨⟨old, k e (by simp) _ he⟩, hi.at fun o q => k it (by simp) o q⟩
  item := by
    intro X hP hw hK hc i pins s σ H E I hf st hg
    cases hP
    cases hw
    cases hK
    obtain ⟨⟨old, he⟩, hit⟩ := st
    obtain ⟨xs, x, hq, hx⟩ := hg
    obtain ⟨its, rv, tup, hz⟩ := I.tuple hq
    obtain ⟨u, hu, ru⟩ := rv.get hx
    have le : e < s.heap.objs.size := Heap.lt_size he
    have li : it < s.heap.objs.size := by obtain ⟨_, q, _⟩ := hit; exact Heap.lt_size q
    have il : i < its.toArray.size := by
      have := (List.getElem?_eq_some_iff.mp hu).1
      rw [List.size_toArray]
      exact this
    have D := Draws.tuple (prog := X.prog) (w := X.w) (A := X.A.in1) (I.ok.hd hc) it a ai its.toArray
    refine wpAny_pyNext_enum_itemD D he ⟨hit, tup⟩ il ei (by simp [ei, ae.symm]) fun x' h' tk px out st' hT hsz hk => ?_
    have ex : x' = u := by
      have px : its.toArray[i]? = some x' := px
      rw [List.getElem?_toArray, hu] at px
      exact (Option.some.inj px).symm
    subst ex
    refine ⟨_, rfl, wpAny_letOwnedTupleGo_enum (s := { s with heap := h', toks := tk + 1 }) out fun h'' he' sb => ?_⟩
    have hT2 : h''.get? s.heap.objs.size = some { cls := .type "tuple", data := .seq #[.int i tk, x'] } := (sb.2 _ (Nat.ne_of_gt le)).trans hT
    have new : ObjOk X.prog X.w (upd H s.heap.objs.size (.tup [.int (i : Nat), x])) h'' s.heap.objs.size (.tup [.int (i : Nat), x]) :=
      ⟨by show 2 ≤ sizeLine; decide, [.int i tk, x'], .cons ⟨_, rfl⟩ (.cons ru .nil), ⟨_, hT2, rfl, _, rfl⟩⟩
    have I1 : Inv X pins σ (upd H s.heap.objs.size (.tup [.int (i : Nat), x])) { s with heap := h'', toks := tk + 1 } :=
      I.turnedNew (ch := [e, it]) (fun b ob hb q => (sb.2 b (fun z => hb (by simp [z]))).trans (hk b ob (fun z => hb (by simp [z])) (fun z => hb (by simp [z])) q)) hf (Nat.le_refl _) new
    refine ⟨.ref s.heap.objs.size, _, I1, rfl, ⟨_, x, rfl, I.hok.fresh (Nat.le_refl _), rfl, fun ys hy => by rw [I.tuple_inj hy hq]; exact hx⟩, ⟨⟨x', ?_⟩, st'.1.at fun o q => (sb.2 it (Ne.symm ei)).trans q⟩, fun b hb => ?_⟩
    · rw [show ((i + 1 : Nat) : Int) = (i : Int) + 1 by omega]
      exact he'
    · simp only [List.mem_cons, List.not_mem_nil, or_false] at hb
      rcases hb with rfl | rfl
      · rw [upd_ne (Nat.ne_of_lt le)]
        exact (hf _ (by simp)).1
      · rw [upd_ne (Nat.ne_of_lt li)]
        exact (hf _ (by simp)).1
  done := by
    intro X hP hw hK hc i pins s σ H E I hf st hg
    cases hP
    cases hw
    cases hK
    obtain ⟨⟨old, he⟩, hit⟩ := st
    obtain ⟨xs, hq, hx⟩ := hg
    obtain ⟨its, rv, tup, hz⟩ := I.tuple hq
    obtain ⟨f0, f1, f2, f3, f4, f5⟩ := hf it (by simp)
    have D := Draws.tuple (prog := X.prog) (w := X.w) (A := X.A.in1) (I.ok.hd hc) it a ai its.toArray
    have len : its.toArray.size = i := by rw [List.size_toArray, ← rv.length, hx]
    refine wpAny_pyNext_enum_endD D he (by rw [len]; exact ⟨hit, tup⟩) fun h' eb => ⟨rfl, I.turned (t' := s.toks) (fun b o hb q => eb b o hb q) f0 f1 f3 f4 f5⟩
  self := by
    rintro A i s Q E ⟨⟨_, he⟩, _⟩ h
    exact wpAny_pyIter_enum he h
def iEnumT (K : PySem.W.Frag) (ta : TA) : TI := fun σ H R => ta σ H fun vs H1 => ∃ a xs, vs = [.ref a] ∧ SqT K H1 a xs ∧ R (IteT K a) H1
theorem pi_enumT {X : Cx} {e : Expr} {ta : TA} {p pos tpos : Pos} {elts : List Expr} {kk : Nat} (hg : Gl X "enumerate") (hm : X.mg "enumerate" = none) (ha : PA X [e] ta) (hs : starEach [e] X.env = [(false, eval e X.env)] := by rfl) :
    PI X (.Tuple elts kk tpos) (.Call (.Name "enumerate" p) [e] [] pos) (iEnumT X.K ta) := by
  refine ⟨fun pins s σ H R I h => ?_⟩
  refine Call_ (ld_blt I hg hm boot_enumerate (PyProof.Rows.callWith_type1 (thn (ha.run pos pins s σ H _ I h) ?_) hs rfl))
  rintro us s1 ⟨vs, H1, I1, r1, a, xs, rfl, hq, q⟩
  obtain ⟨u, rfl, ru⟩ := r1.one
  cases ru
  obtain ⟨its, rv, tup, hz⟩ := I1.tuple hq
  have la : a < s1.heap.objs.size := by obtain ⟨_, e, _⟩ := tup; exact Heap.lt_size e
  refine EnumX.made tup fun h' he hit hk => wpAny_pyIter_enum he ?_
  have I2 : Inv X pins σ H1 { s1 with heap := h' } := I1.kept (t' := s1.toks) hk
  refine ⟨s1.heap.objs.size + 1, [s1.heap.objs.size + 1, s1.heap.objs.size], _, _, H1, rfl, I2, turn_enumT (Nat.ne_of_lt (Nat.lt_succ_of_lt la)) (Nat.ne_of_lt la) (Nat.succ_ne_self _), ⟨⟨.none, he⟩, hit⟩, fun b hb => ?_, q⟩
  have low : s1.heap.objs.size ≤ b := by
    simp only [List.mem_cons, List.not_mem_nil, or_false] at hb
    rcases hb with rfl | rfl
    · exact Nat.le_succ _
    · exact Nat.le_refl _
  exact I1.fpOk low (I1.hok.fresh low)
/-- the walk over a numbered tuple -/
theorem walk_enumT {K : PySem.W.Frag} {a : Addr} {xs : List V} : Walk (IteT K a) xs.length (fun H => SqT K H a xs) (YPair (fun i => some (.int (i : Nat))) (fun i => xs[i]?)) where
  goes := fun i H hi h => ⟨xs, xs[i], h, List.getElem?_eq_getElem hi⟩
  stops := fun H h => ⟨xs, h, rfl⟩
  yields := by
    rintro i H x H' hi h ⟨T, y, rfl, h1, h2, h3⟩
    exact ⟨T, _, y, rfl, h1, h2, rfl, h3 xs h⟩
end L2
/-! t[lo:hi] of a tuple, the whole of it too: one question for both. -/
namespace L2
open PySem PySem.Spec PyProof.Rows
def rSlTA (K : PySem.W.Frag) : V → Option Int → Option Int → Hp → VK → Prop := fun x lo hi H Q => ∃ a xs, x = .ref a ∧ SqT K H a xs ∧ ∀ p H', Same H H' → SqT K H' p (cutV xs lo hi) → Q (.ref p) H'
theorem sl_tupW {X : Cx} : SlR X (rSlTA X.K) := by
  intro pins s σ H x v vl vu lo hi sl Q I rx hs pl pu h
  obtain ⟨a, xs, rfl, hx, q⟩ := h
  refine sl_tupA pins s σ H (.ref a) v vl vu lo hi sl Q I rx hs pl pu ⟨a, xs, rfl, hx, fun w => ?_, fun w p hp => q p _ (Same.new hp) (.of upd_same)⟩
  refine q a H (Same.refl H) ?_
  have e : cutV xs lo hi = xs := by
    unfold cutV
    rw [w.1, w.2, List.drop_zero, Nat.sub_zero, List.take_of_length_le (Nat.le_refl _)]
  rw [e]
  exact hx
/-- t + u of tuples: one question for all -/
def rCatW (K : PySem.W.Frag) : R2 := fun x y H Q => ∃ a b xs ys, x = .ref a ∧ y = .ref b ∧ SqT K H a xs ∧ SqT K H b ys ∧ xs.length + ys.length ≤ sizeLine ∧ ∀ p H', Same H H' → SqT K H' p (xs ++ ys) → Q (.ref p) H'
theorem op_catW {X : Cx} : OpR X (binaryOp .Add) (rCatW X.K) := by
  intro pins s σ H x y v u Q I rx ry h
  obtain ⟨a, b, xs, ys, rfl, rfl, ha, hb, hz, q⟩ := h
  refine op_catA pins s σ H (.ref a) (.ref b) v u Q I rx ry ⟨a, b, xs, ys, rfl, rfl, ha, hb, hz, fun e => ?_, fun _ e => ?_, fun _ _ p hp => q p _ (Same.new hp) (.of upd_same)⟩
  · refine q b H (Same.refl H) ?_
    rw [e, List.nil_append]
    exact hb
  · refine q a H (Same.refl H) ?_
    rw [e, List.append_nil]
    exact ha
/-- a statement, then the rest by an invariant -/
theorem seq_by {t1 t2 : TS} {D : Ends} {σ : L2.St} {H : Hp} (I : L2.St → Hp → Prop) (h1 : ∀ N : L2.St → Hp → Prop, (∀ σ' H', I σ' H' → N σ' H') → t1 { D with nx := N } σ H) (h2 : ∀ σ' H', I σ' H' → t2 D σ' H') : tSeq t1 t2 D σ H := h1 _ h2
theorem asg_by {te : TE} {i : Nat} {t2 : TS} {D : Ends} {σ : L2.St} {H : Hp} (I : V → Hp → Prop) (h1 : ∀ Q : VK, (∀ v H', I v H' → Q v H') → te σ H Q) (h2 : ∀ v H', I v H' → t2 D (σ.set i (some v)) H') : tSeq (tAsg te (gName i)) t2 D σ H := h1 _ h2
theorem But.toSame {S : Addr → Prop} {H H1 H' : Hp} (k : But S H1 H') (s : Same H H1) (h : ∀ a, S a → H a = none) : Same H H' := fun a o e => k a o (fun z => by rw [h a z] at e; cases e) (s a o e)
end L2
/-! Data that repr shows without more: numbers below 10^38, texts, tuples, lists of these. And a walk over zip of two tuples. -/
namespace L2
open PySem PySem.Spec PyProof.Rows
mutual
def tidy : PyData → Bool
  | .none => true
  | .bool _ => true
  | .int i => decide (i.natAbs < 10 ^ 38)
  | .str w => PyData.strOk w
  | .tuple ds => tidyAll ds
  | .list ds => tidyAll ds
  | .dict _ => false
def tidyAll : List PyData → Bool
  | [] => true
  | d :: ds => tidy d && tidyAll ds
end
theorem tidy_int {i : Int} (h : i.natAbs < 10 ^ 38) : (PyData.int i).showable = true ∧ (PyData.int i).intsShort 40 = true := by
  constructor
  · simp only [PyData.showable]
    refine decide_eq_true ?_
    by_cases z : i.natAbs = 0
    · rw [z]
      decide
    · exact (Nat.log2_lt z).mpr (Nat.lt_of_lt_of_le h (by decide))
  · simp only [PyData.intsShort]
    refine decide_eq_true ?_
    have e := int_text_length_le10 (a := i) (k := 38) (by decide) h
    rw [PyData.shown_int]
    have : ((toString i : String) : Str).length = (toString i).length := PySem.ofString_length _
    omega
mutual
theorem tidy_ok : ∀ d : PyData, tidy d = true → d.canLay0 = true ∧ d.showable = true ∧ d.hasDict = false ∧ d.intsShort 40 = true
  | .none, _ => ⟨rfl, rfl, rfl, rfl⟩
  | .bool _, _ => ⟨rfl, rfl, rfl, rfl⟩
  | .int i, h => by
    simp only [tidy, decide_eq_true_eq] at h
    exact ⟨rfl, (tidy_int h).1, rfl, (tidy_int h).2⟩
  | .str w, h => by
    simp only [tidy] at h
    exact ⟨h, rfl, rfl, rfl⟩
  | .tuple ds, h => by
    simp only [tidy] at h
    have z := tidyAll_ok ds h
    refine ⟨?_, ?_, ?_, ?_⟩
    · simp only [PyData.canLay0]; exact z.1
    · simp only [PyData.showable]; exact z.2.1
    · simp only [PyData.hasDict]; exact z.2.2.1
    · simp only [PyData.intsShort]; exact z.2.2.2
  | .list ds, h => by
    simp only [tidy] at h
    have z := tidyAll_ok ds h
    refine ⟨?_, ?_, ?_, ?_⟩
    · simp only [PyData.canLay0]; exact z.1
    · simp only [PyData.showable]; exact z.2.1
    · simp only [PyData.hasDict]; exact z.2.2.1
    · simp only [PyData.intsShort]; exact z.2.2.2
  | .dict _, h => by simp [tidy] at h
theorem tidyAll_ok : ∀ ds : List PyData, tidyAll ds = true → PyData.canLayAll0 ds = true ∧ PyData.showableAll ds = true ∧ PyData.hasDictAll ds = false ∧ PyData.intsShortAll 40 ds = true
  | [], _ => ⟨rfl, rfl, rfl, rfl⟩
  | d :: ds, h => by
    simp only [tidyAll, Bool.and_eq_true] at h
    have a := tidy_ok d h.1
    have b := tidyAll_ok ds h.2
    refine ⟨?_, ?_, ?_, ?_⟩
    · simp only [PyData.canLayAll0, a.1, b.1]; rfl
    · simp only [PyData.showableAll, a.2.1, b.2.1]; rfl
    · simp only [PyData.hasDictAll, a.2.2.1, b.2.2.1]; rfl
    · simp only [PyData.intsShortAll, a.2.2.2, b.2.2.2]; rfl
end
theorem tidyAll_map {α : Type} {f : α → PyData} : ∀ {l : List α}, (∀ a ∈ l, tidy (f a) = true) → tidyAll (l.map f) = true
  | [], _ => by simp [tidyAll]
  | a :: l, h => by
    simp only [List.map_cons, tidyAll, Bool.and_eq_true]
    exact ⟨h a List.mem_cons_self, tidyAll_map fun b hb => h b (List.mem_cons_of_mem _ hb)⟩
theorem tidyAll_of : ∀ {l : List PyData}, (∀ a ∈ l, tidy a = true) → tidyAll l = true
  | [], _ => by simp [tidyAll]
  | a :: l, h => by
    simp only [tidyAll, Bool.and_eq_true]
    exact ⟨h a List.mem_cons_self, tidyAll_of fun b hb => h b (List.mem_cons_of_mem _ hb)⟩
theorem bulk_map {α : Type} {f : α → PyData} {n : Nat} : ∀ {l : List α}, (∀ a ∈ l, (f a).bulk ≤ n) → PyData.bulkAll (l.map f) ≤ l.length * (n + 1)
  | [], _ => by simp [PyData.bulkAll]
  | a :: l, h => by
    have h1 := h a List.mem_cons_self
    have h2 := bulk_map fun b hb => h b (List.mem_cons_of_mem _ hb)
    simp only [List.map_cons, PyData.bulkAll, List.length_cons, Nat.add_mul, Nat.one_mul]
    omega
theorem depth_map {α : Type} {f : α → PyData} {n : Nat} : ∀ {l : List α}, (∀ a ∈ l, (f a).depth ≤ n) → PyData.depthAll (l.map f) ≤ n
  | [], _ => by simp [PyData.depthAll]
  | a :: l, h => by
    have h1 := h a List.mem_cons_self
    have h2 := depth_map fun b hb => h b (List.mem_cons_of_mem _ hb)
    simp only [List.map_cons, PyData.depthAll]
    omega
theorem shown_short {d : PyData} (h : tidy d = true) (hb : d.bulk ≤ 300000) : d.shown.length ≤ sizeLine := by
  have z := tidy_ok d h
  have lv := PyData.leavesShort_of_canLay0 40 _ z.1 z.2.2.2
  have le := PyData.shown_le_bulk 40 (by decide) d lv
  have : sizeLine = 16777216 := by decide
  omega
theorem rep_of {K : PySem.W.Frag} {H : Hp} {v : V} {d : PyData} {Q : VK} (h : Dp K H v d) (t : tidy d = true) (b : d.bulk ≤ 300000) (p : d.depth ≤ 60) (q : Q (.str d.shown) H) : rReprV K [v] H Q :=
  ⟨v, d, rfl, .inl h, (tidy_ok d t).2.1, .inr (tidy_ok d t).2.2.1, shown_short t b, p, q⟩
theorem shaped_of {d : PyData} (h : tidy d = true) (p : d.depth ≤ 60) : SeqAt.shaped d = true :=
  Bool.and_eq_true_iff.mpr ⟨(tidy_ok d h).1, decide_eq_true (by omega)⟩
open RZ in
theorem walk_zipT {K : PySem.W.Frag} {a b : Addr} {xs ys : List V} {n : Nat} (hx : xs.length = n) (hy : ys.length = n) : Walk (ItzT K a b) n (fun H => SqT K H a xs ∧ SqT K H b ys) (YPair (fun i => xs[i]?) (fun i => ys[i]?)) where
  goes := fun i H hi h => ⟨xs, ys, xs[i]'(by omega), ys[i]'(by omega), h.1, h.2, List.getElem?_eq_getElem _, List.getElem?_eq_getElem _⟩
  stops := fun H h => ⟨xs, ys, h.1, h.2, .inl (by omega)⟩
  yields := fun i H x H' hi h y => by
    obtain ⟨T, x', y', rfl, hT, rfl, f1, f2⟩ := y
    exact ⟨T, x', y', rfl, hT, rfl, f1 xs h.1, f2 ys h.2⟩
end L2
/-! Sets of whole numbers and texts: made of a list or a tuple, added to, asked, sorted. What is known of such a set: its members, their number, and that its table can be walked. -/
namespace L2
open PySem PySem.Spec PyProof.Rows
def ky : Value → Key
  | .int k _ => .inl k
  | .str x _ => .inr x
  | _ => .inl 0
theorem ky_of {k : Key} {v : Value} (h : keyIs k v = true) : ky v = k := by
  rcases keyIs_shape h with ⟨i, t, rfl, rfl⟩ | ⟨x, t, rfl, rfl⟩ <;> rfl
theorem rel_of_is {k : Key} {v : Value} (h : keyIs k v = true) : RelV (kV k) v := by
  rcases keyIs_shape h with ⟨i, t, rfl, rfl⟩ | ⟨x, t, rfl, rfl⟩ <;> exact ⟨t, rfl⟩
theorem scan_of_is {k : Key} {v : Value} (h : keyIs k v = true) : v.scannable = true := by
  rcases keyIs_shape h with ⟨i, t, rfl, rfl⟩ | ⟨x, t, rfl, rfl⟩ <;> rfl
theorem mem_ky {P : Program} {w : World} {l : List (Int × Value)} (g : ElemsOf (mixKind P w) l) (k : Key) : k ∈ l.map (fun e => ky e.2) ↔ ∃ e ∈ l, (mixKind P w).is k e.2 = true := by
  constructor
  · intro h
    obtain ⟨e, he, z⟩ := List.mem_map.mp h
    obtain ⟨⟨j, hj, _⟩, _⟩ := g e he
    rw [← z, ky_of hj]
    exact ⟨e, he, hj⟩
  · rintro ⟨e, he, h⟩
    rw [← ky_of h]
    exact List.mem_map_of_mem (f := fun e : Int × Value => ky e.2) he
/-- a set with the members S, n of them, that can be walked -/
structure SetG (P : Program) (w : World) (h : Heap) (a : Addr) (S : Key → Bool) (n : Nat) : Prop where
  ex : ∃ o es ep t, h.get? a = some o ∧ o.ExactSet ∧ o.data = .set es ep t ∧ ElemsOf (mixKind P w) es.toList ∧ (es.toList.map fun e => ky e.2).Nodup ∧ (∀ k, S k = true ↔ k ∈ es.toList.map fun e => ky e.2) ∧
    es.size = n ∧ n < scanBound ∧ t.fits es.size = true ∧ Ris t.place.toList ∧ (w.params.followText "set-order" = true ∨ t.led = true)
theorem SetG.at {P : Program} {w : World} {h h' : Heap} {a : Addr} {S : Key → Bool} {n : Nat} (R : SetG P w h a S n) (k : ∀ o, h.get? a = some o → h'.get? a = some o) : SetG P w h' a S n := by
  obtain ⟨o, es, ep, t, ho, r⟩ := R.ex
  exact ⟨o, es, ep, t, k o ho, r⟩
theorem SetG.there {P : Program} {w : World} {h : Heap} {a : Addr} {S : Key → Bool} {n : Nat} (R : SetG P w h a S n) : ∃ o, h.get? a = some o := by
  obtain ⟨o, es, ep, t, ho, r⟩ := R.ex
  exact ⟨o, ho⟩
theorem SetG.congr {P : Program} {w : World} {h : Heap} {a : Addr} {S S' : Key → Bool} {n : Nat} (R : SetG P w h a S n) (e : ∀ k, S' k = S k) : SetG P w h a S' n := by
  have z : S' = S := funext e
  rw [z]
  exact R
theorem SetG.setOf {P : Program} {w : World} {h : Heap} {a : Addr} {S : Key → Bool} {n : Nat} (R : SetG P w h a S n) : h.SetOf (mixKind P w) a S n := by
  obtain ⟨o, es, ep, t, h1, h2, h3, h4, h5, h6, h7, h8, h9, _⟩ := R.ex
  exact ⟨o, es, ep, t, h1, h2, h3, h4, fun k => (h6 k).trans (mem_ky h4 k), by rw [h7]; exact h8, h9, h7⟩
theorem setG_fresh {P : Program} {w : World} {h : Heap} {a : Addr} (ho : h.get? a = some { cls := .type "set", dict := none, data := .set #[] 0 (.fresh 0 0 (!w.params.followText "set-order")) }) : SetG P w h a (fun _ => false) 0 :=
  ⟨_, #[], 0, _, ho, ⟨rfl, rfl, rfl⟩, rfl, (fun e he => by simp at he), by simp, (fun k => by simp), rfl, by decide, rfl, .nil, by
    show _ ∨ (!w.params.followText "set-order") = true
    cases w.params.followText "set-order" with
    | true => exact .inl rfl
    | false => exact .inr rfl⟩
section
variable {P : Program} {w : World} {A : Around} {E : Value → Shared → Prop} {s : Shared} {a : Addr} {S : Key → Bool} {n : Nat}
/-- what must hold of the new table -/
structure Tab1 (P : Program) (w : World) (S : Key → Bool) (es : Array (Int × Value)) (t : SetTable) : Prop where
  el : ElemsOf (mixKind P w) es.toList
  nd : (es.toList.map fun e => ky e.2).Nodup
  mb : ∀ k, S k = true ↔ k ∈ es.toList.map fun e => ky e.2
  sz : es.size < scanBound
  ft : t.fits es.size = true
  rs : Ris t.place.toList
  ld : w.params.followText "set-order" = true ∨ t.led = true
theorem Tab1.set {h : Heap} {o : Obj} {es : Array (Int × Value)} {ep : Nat} {t : SetTable} (T : Tab1 P w S es t) (ho : h.get? a = some o) (hx : o.ExactSet) (hd : o.data = .set es ep t) : SetG P w h a S es.size :=
  ⟨o, es, ep, t, ho, hx, hd, T.el, T.nd, T.mb, rfl, T.sz, T.ft, T.rs, T.ld⟩
theorem Tab1.again {es : Array (Int × Value)} {t : SetTable} (T : Tab1 P w S es t) (m : Nat) : Tab1 P w S (relayAll t es m).1 (relayAll t es m).2.1 ∧ (relayAll t es m).1.size = es.size := by
  have p := relayAll_perm t es m
  have q : (relayAll t es m).1.size = es.size := by rw [← Array.length_toList, p.length_eq, Array.length_toList]
  refine ⟨⟨T.el.perm p, (p.map _).nodup_iff.mpr T.nd, fun k => (T.mb k).trans (p.map _).mem_iff.symm, by rw [q]; exact T.sz, relayAll_fits t es m, relayAll_ris t es m, T.ld.imp id fun z => ?_⟩, q⟩
  rw [relayAll_led]
  exact z
/-- both stores of an add -/
theorem put_tab {warn : Bool → Sem Unit} (hw : ∀ (b : Bool) (s1 : Shared) (Q1 : Unit → Shared → Prop), Q1 () s1 → wpAny (model P w) A (warn b) Q1 E s1) {o : Obj} {es0 es : Array (Int × Value)} {ep : Nat} {t0 t : SetTable}
    (ho : s.heap.get? a = some o) (hx : o.ExactSet) (hd : o.data = .set es0 ep t0) (T : Tab1 P w S es t) {dummy : Bool} {R : Option Bool → Shared → Prop} (hR : ∀ h', Heap.SameBut a s.heap h' → SetG P w h' a S es.size → R (some true) { s with heap := h' }) :
    wpAny (model P w) A (do
        storeSet a es t
        if (!dummy && t.tooFull) = true then do
            warn (relayAll t es (SetTable.grown es.size)).2.2
            storeSet a (relayAll t es (SetTable.grown es.size)).1 (relayAll t es (SetTable.grown es.size)).2.1
            pure (some true)
          else pure (some true)) R E s := by
  refine wpAny_bind (wpAny_storeSet_of (es' := es) (t' := t) ho hd ?_ (fits_of_scanBound T.sz))
  have at1 := store_at (es' := es) (t' := t) ho hd
  have but1 := Heap.SameBut.update s.heap a (Obj.putSet es t)
  split
  · obtain ⟨T2, same⟩ := T.again (SetTable.grown es.size)
    generalize relayAll t es (SetTable.grown es.size) = new at T2 same ⊢
    refine wpAny_bind (hw _ _ _ ?_)
    refine wpAny_bind (wpAny_storeSet_of (es' := new.1) (t' := new.2.1) at1 rfl ?_ (fits_of_scanBound T2.sz))
    have z := T2.set (store_at (es' := new.1) (t' := new.2.1) at1 rfl) hx rfl
    rw [same] at z
    exact wpAny_pure (hR _ (but1.trans (Heap.SameBut.update _ a _)) z)
  · exact wpAny_pure (hR _ but1 (T.set at1 hx rfl))
theorem setG_put {k : Key} {v : Value} {Q : Bool → Shared → Prop} (hk : keyIs k v = true) (R : SetG P w s.heap a S n) (room : n + 1 < scanBound)
    (hQ : ∀ h', Heap.SameBut a s.heap h' → SetG P w h' a (fun j => S j || decide (j = k)) (if S k = true then n else n + 1) → Q (!S k) { s with heap := h' }) :
    wpAny (model P w) A (setAddHashed a v ((mixKind P w).hash k)) Q E s := by
  obtain ⟨o, es, ep, t, ho, hx, hd, g, nd, hm, hn, hb, hf, hr, hl⟩ := R.ex
  have sc := scan_of_is hk
  have hb' : es.size < scanBound := by rw [hn]; exact hb
  unfold setAddHashed setAddHashedIn
  refine wpAny_holding (wpAny_bind (wpAny_setState_of ho hd hf ?_))
  dsimp only
  rw [byScan_of (knd := mixKind P w) sc hb' g]
  simp only [↓reduceIte]
  unfold setAddByScan
  refine wpAny_bind (wpAny_bind (wpAny_rule (wpAny_bind (wpAny_setScan_of (knd := mixKind P w) hk ho hd hf g ?_))))
  cases found : List.findIdx? (fun e => (mixKind P w).is k e.2) es.toList with
  | some j =>
    dsimp only
    obtain ⟨hj, pj, _⟩ := List.findIdx?_eq_some_iff_getElem.mp found
    have inn : S k = true := (hm k).mpr ((mem_ky g k).mpr ⟨es.toList[j], List.getElem_mem hj, pj⟩)
    refine wpAny_pure (wpAny_pure ?_)
    have z := hQ s.heap (Heap.SameBut.refl a s.heap)
    rw [inn, if_pos rfl] at z
    refine z (R.congr fun i => ?_)
    by_cases e : i = k
    · rw [e, inn]
      rfl
    · rw [decide_eq_false e, Bool.or_false]
  | none =>
    dsimp only
    have out : k ∉ es.toList.map fun e => ky e.2 := fun z => by
      obtain ⟨e, he, q⟩ := (mem_ky g k).mp z
      have c := List.findIdx?_eq_none_iff.mp found e he
      rw [q] at c
      cases c
    have no : S k = false := by
      cases q : S k with
      | false => rfl
      | true => exact absurd ((hm k).mp q) out
    have quiet : ∀ (b : Bool) {s1 : Shared} {Q1 : Unit → Shared → Prop}, Q1 () s1 → wpAny (model P w) A (match b with | true => rule "set.scan.the-table-gave-way" | false => pure ()) Q1 E s1 := by
      intro b s1 Q1 q
      cases b with
      | true => exact wpAny_rule q
      | false => exact wpAny_pure q
    have perm0 := layNew_perm t es ((mixKind P w).hash k) v
    have fit0 := layNew_fits t es ((mixKind P w).hash k) v
    have ris0 := layNew_ris t es ((mixKind P w).hash k) v hr
    have led0 := layNew_led t es ((mixKind P w).hash k) v
    generalize layNew t es ((mixKind P w).hash k) v = new at perm0 fit0 ris0 led0 ⊢
    obtain ⟨es1, t1, dummy, gave⟩ := new
    dsimp only at perm0 fit0 ris0 led0 ⊢
    rw [Array.toList_push] at perm0
    have perm1 : es1.toList.Perm (((mixKind P w).hash k, v) :: es.toList) := perm0.trans (List.perm_append_singleton _ _)
    have perm2 : (es1.toList.map fun e => ky e.2).Perm (k :: es.toList.map fun e => ky e.2) := by
      have z := perm1.map fun e => ky e.2
      rw [List.map_cons, ky_of hk] at z
      exact z
    have size1 : es1.size = n + 1 := by rw [← Array.length_toList, perm1.length_eq, List.length_cons, Array.length_toList, hn]
    have T : Tab1 P w (fun j => S j || decide (j = k)) es1 t1 := by
      refine ⟨fun e he => ?_, perm2.nodup_iff.mpr (List.nodup_cons.mpr ⟨out, nd⟩), fun i => ?_, by rw [size1]; exact room, fit0, ris0, hl.imp id fun z => by rw [led0]; exact z⟩
      · rcases List.mem_cons.mp (perm1.mem_iff.mp he) with z | z
        · rw [z]
          exact ⟨⟨k, hk, rfl⟩, sc⟩
        · exact g e z
      · rw [Bool.or_eq_true, decide_eq_true_eq, hm i, perm2.mem_iff, List.mem_cons]
        exact Or.comm
    have Toff : Tab1 P w (fun j => S j || decide (j = k)) es1 { t1 with plain := false } := ⟨T.el, T.nd, T.mb, T.sz, SetTable.fits_plain_off fit0, ris0, T.ld⟩
    have fin : ∀ h', Heap.SameBut a s.heap h' → SetG P w h' a (fun j => S j || decide (j = k)) es1.size → Q true { s with heap := h' } := fun h' sb r => by
      have z := hQ h' sb
      rw [no, size1.symm] at z
      exact z r
    refine wpAny_bind (quiet _ ?_)
    split
    · refine wpAny_bind ?_
      rw [hashByValue_scannable 8 sc]
      refine wpAny_pure ?_
      refine put_tab (fun b s1 Q1 q => quiet b q) ho hx hd ?_ fun h' sb r => wpAny_pure (fin h' sb r)
      first
        | (split <;> first | exact T | exact Toff)
        | exact T
    · refine wpAny_bind (wpAny_pure ?_)
      simp only [↓reduceIte]
      exact put_tab (fun b s1 Q1 q => quiet b q) ho hx hd T fun h' sb r => wpAny_pure (fin h' sb r)
/-! ### set(xs), xs a list of keys -/
def hasK (ks : List Key) (j : Key) : Bool := ks.any fun z => decide (z = j)
theorem hasK_iff {ks : List Key} {j : Key} : hasK ks j = true ↔ j ∈ ks := by
  unfold hasK
  rw [List.any_eq_true]
  constructor
  · rintro ⟨z, hz, e⟩
    rw [← of_decide_eq_true e]
    exact hz
  · exact fun h => ⟨j, h, decide_eq_true rfl⟩
theorem hasK_next {ks : List Key} {i : Nat} {k : Key} (h : ks[i]? = some k) (j : Key) : hasK (ks.take (i + 1)) j = (hasK (ks.take i) j || decide (j = k)) := by
  unfold hasK
  rw [List.take_add_one, h, List.any_append]
  simp [eq_comm]
theorem setG_loop {I : Addr} {fp wr : List Addr} {G : Array GenState → Array GenState → Prop} {m : Nat} {Pv : Nat → Value → Prop} {St : Nat → Shared → Prop} {R : Result → Shared → Prop} (W : WalksS P w A.in1 I fp wr G m Pv St) (D : Addr) (hD : D ∉ fp)
    (ks : List Key) (hm : m = ks.length) (hb : ks.length + 1 < scanBound) (hv : ∀ i v, Pv i v → ∃ k, ks[i]? = some k ∧ keyIs k v = true) :
    ∀ (f i : Nat) (s : Shared), m - i = f → i ≤ m → St i s → (∃ c, c ≤ i ∧ SetG P w s.heap D (hasK (ks.take i)) c) →
      (∀ s1 c, Moved (D :: wr) G s s1 → c ≤ m → SetG P w s1.heap D (hasK ks) c → R (.ok (.ret .none)) s1) →
      codeAny (model P w) A (.builtin "set.update.loop" ⟨[.ref D, .ref I], []⟩) R s := by
  have nD : D ∉ wr := fun h => hD (W.sub _ h)
  have up : ∀ b ∈ wr, b ∈ D :: wr := fun b hb => List.mem_cons_of_mem _ hb
  intro f
  induction f with
  | zero =>
    intro i s hf hi hst ⟨c, hc, hS⟩ hR
    obtain rfl : i = m := by omega
    refine codeAny_builtin F.entry_set_update_loop ?_
    rw [Around.under_plainId F.plain_set_update_loop _]
    show wpAny _ A.in1 (pyNext (.ref I) >>= _) _ _ s
    refine wpAny_bind (W.done s _ _ hst fun s1 mv => ?_)
    show wpAny _ A.in1 (ret Value.none) _ _ s1
    rw [List.take_of_length_le (show ks.length ≤ i by omega)] at hS
    exact wpAny_pure (hR s1 c (mv.mono up) hc (hS.at fun o e => mv.heap D o nD e))
  | succ f ih =>
    intro i s hf hi hst ⟨c, hc, hS⟩ hR
    have lt : i < m := by omega
    refine codeAny_builtin F.entry_set_update_loop ?_
    rw [Around.under_plainId F.plain_set_update_loop _]
    show wpAny _ A.in1 (pyNext (.ref I) >>= _) _ _ s
    refine wpAny_bind (W.item i s _ _ lt hst fun v s1 hP st1 mv => ?_)
    obtain ⟨k, hk, kv⟩ := hv i v hP
    have hS1 : SetG P w s1.heap D (hasK (ks.take i)) c := hS.at fun o e => mv.heap D o nD e
    show wpAny _ A.in1 (holding [v] (setAdd D v) >>= _) _ _ s1
    refine wpAny_bind (wpAny_holding ?_)
    unfold setAdd
    refine wpAny_holding (wpAny_bind ((mixKind P w).pyHash (k := k) kv ?_))
    refine setG_put (s := { s1 with toks := s1.toks + 1 }) kv hS1 (by omega) fun h2 sb hS2 => ?_
    have hS3 := hS2.congr (S' := hasK (ks.take (i + 1))) (hasK_next hk)
    refine wpAny_pure ⟨plainId_quiet F.plain_set_update_loop _, ih (i + 1) _ (by omega) lt (W.frame _ s1 _ _ st1 (Nat.le_succ _) fun b hb o e => ?_) ⟨_, by split <;> omega, hS3⟩ fun s3 c3 mv3 hc3 hS3 => ?_⟩
    · rw [sb.2 b (fun z : b = D => hD (by rw [← z]; exact hb))]
      exact e
    · refine hR s3 c3 (Moved.trans W.gtrans ((mv.mono up).then_heap (Nat.le_succ _) fun b o hb e => ?_) mv3) hc3 hS3
      rw [sb.2 b (fun z : b = D => hb (by rw [z]; exact List.mem_cons_self))]
      exact e
/-- the new set's object -/
abbrev newSetO (w : World) : Obj := { cls := .type "set", dict := none, data := .set #[] 0 (.fresh 0 0 (!w.params.followText "set-order")) }
set_option maxHeartbeats 16000000 in
theorem set_of_list {l : Addr} {its : Array Value} (ks : List Key) {Q : Value → Shared → Prop} (hh : A.handled = none) (hl : s.heap.IsList l its) (hk : ks.length = its.size) (hv : ∀ (i : Nat) (v : Value) (k : Key), its[i]? = some v → ks[i]? = some k → keyIs k v = true) (hb : ks.length + 1 < scanBound)
    (h : ∀ (h1 : Heap) (tk c : Nat), SetG P w h1 s.heap.objs.size (hasK ks) c → c ≤ ks.length → (∀ b o, s.heap.get? b = some o → h1.get? b = some o) → Q (.ref s.heap.objs.size) { s with heap := h1, toks := tk }) :
    wpAny (model P w) A (call (.type "set") [.ref l]) Q E s := by
  obtain ⟨c, tl, hmro⟩ := F.called_set.mro
  have hmade := F.called_set.made
  have hsub := F.called_set.sub
  refine wpAny_call (codeAny_of_tree ?_)
  show wpAny _ _ (callAny (.type "set") _) _ _ _
  refine wpAny_pure ⟨Code.quiet_builtin _ (by decide +kernel), codeAny_builtin F.entry_type_call ?_⟩
  rw [Around.under_plain (weight_type_call_type "set" [.ref l] []) rfl]
  have h1 := F.called_set.notType
  have h2 := F.called_set.canCreate
  have hct := F.typeCall_set_1 (.ref l)
  repeat (any_goals (first | assumption | wp_step))
  refine codeAny_mono (code_set_led1 (.ref l) (E := E) (Q₁ := fun u s1 => u = .ref s.heap.objs.size ∧ s1 = { s with heap := s.heap.push (newSetO w) }) ⟨rfl, rfl⟩) fun r s1 hr => ?_
  cases r with
  | error e => exact hr
  | ok way =>
    cases way with
    | ret u =>
      obtain ⟨rfl, rfl⟩ := hr
      have at0 : (s.heap.push (newSetO w)).get? s.heap.objs.size = some (newSetO w) := Heap.get?_push_size _ rfl
      have ty0 : Shared.TypeIs { s with heap := s.heap.push (newSetO w) } (.ref s.heap.objs.size) "set" := ⟨_, at0, rfl⟩
      have hli := F.called_set.init.lookup
      have hbi := F.called_set.init.bind (.ref s.heap.objs.size)
      repeat (any_goals (first | assumption | wp_step))
      refine codeAny_mono (codeAny_call_builtin (R := wants (fun r s2 => r = .none ∧ ∃ h1 tk c, s2 = { s with heap := h1, toks := tk } ∧ SetG P w h1 s.heap.objs.size (hasK ks) c ∧ c ≤ ks.length ∧
          (∀ b o, s.heap.get? b = some o → h1.get? b = some o)) E) F.called_set.init.plain F.entry_set_init (check_set_init_1 ty0 ?_)) fun r2 s2 hr2 => ?_
      · obtain ⟨⟨cl, dd, da, sl⟩, hol, hcl, nl, hdl⟩ := hl
        simp only at hcl hdl
        subst hcl hdl
        have hol1 : (s.heap.push (newSetO w)).get? l = some { cls := .type "list", dict := dd, data := .seq its nl, slots := sl } := Heap.get?_push_of_some _ hol
        have hsls := F.sub_list_set
        have hslf := F.sub_list_frozenset
        have hne : (Value.type "list" == Value.type "dict") = false := by decide
        have hl1 : (s.heap.push (newSetO w)).IsList l its := ⟨_, hol1, rfl, nl, rfl⟩
        unfold Builtin.«set.__init__» noKeywords Builtin.Frozenset.updateFrom
        generalize hPI : pyIter = PI
        wp_walk
        subst hPI
        refine wpAny_pyIter_list hl1 ?_
        refine wpAny_bind (wpAny_runValue ?_)
        have below : l < s.heap.objs.size := Heap.lt_size hol
        have calm : A.in1.in1.in1.handled = none := by simp [hh]
        have sz1 : (s.heap.push (newSetO w)).objs.size = s.heap.objs.size + 1 := Heap.size_push ..
        have nI : l ≠ (s.heap.push (newSetO w)).objs.size := by rw [sz1]; exact Nat.ne_of_lt (Nat.lt_succ_of_lt below)
        have nD : s.heap.objs.size ∉ [(s.heap.push (newSetO w)).objs.size, l] := by
          rw [sz1]
          simp only [List.mem_cons, List.mem_singleton, List.not_mem_nil, or_false, not_or]
          exact ⟨Nat.ne_of_lt (Nat.lt_succ_self _), Nat.ne_of_gt below⟩
        have val : ∀ (i : Nat) (v : Value), its[i]? = some v → ∃ k, ks[i]? = some k ∧ keyIs k v = true := fun i v z => by
          have lt := (Array.getElem?_eq_some_iff.mp z).1
          have e : ks[i]? = some (ks[i]'(by omega)) := List.getElem?_eq_getElem _
          exact ⟨_, e, hv i v _ z e⟩
        refine setG_loop ((Walks.list calm _ l nI its).toS) s.heap.objs.size nD ks hk.symm hb val (its.size - 0) 0 _ (by omega) (Nat.zero_le _) ⟨⟨_, Heap.get?_push_size _ rfl, rfl, rfl⟩, (hl1.push _)⟩ ?start ?fin
        case start =>
          exact ⟨0, Nat.le_refl 0, (setG_fresh (Heap.get?_push_of_some _ at0)).congr fun k => rfl⟩
        case fin =>
          intro s3 c3 mv hc3 hS3
          obtain ⟨h3, g3, d3, tk3, os3⟩ := s3
          obtain rfl : g3 = s.gens := mv.gens
          obtain rfl : d3 = s.drawn := mv.drawn
          obtain rfl : os3 = s.os := mv.os
          show wpAny _ _ _ _ _ _
          refine wpAny_pure ?_
          show wpAny _ _ (ret Value.none) _ _ _
          refine wpAny_pure ⟨rfl, h3, tk3, c3, rfl, hS3, by omega, fun b o e => ?_⟩
          have b0 : b < s.heap.objs.size := Heap.lt_size e
          refine mv.heap b o ?_ (Heap.get?_push_of_some _ (Heap.get?_push_of_some _ e))
          rw [sz1]
          simp only [List.mem_cons, List.mem_singleton, List.not_mem_nil, or_false, not_or]
          exact ⟨Nat.ne_of_lt b0, Nat.ne_of_lt (Nat.lt_succ_of_lt b0)⟩
      · cases r2 with
        | error e => exact hr2
        | ok way2 =>
          cases way2 with
          | ret u2 =>
            obtain ⟨rfl, h3, tk3, c3, rfl, hS3, hc3, keep⟩ := hr2
            repeat (any_goals (first | assumption | wp_step))
            exact h h3 tk3 c3 hS3 hc3 keep
          | next => exact hr2
          | brk => exact hr2
          | cont => exact hr2
    | next => exact hr
    | brk => exact hr
    | cont => exact hr
end
/-! ### sorted(set) -/
def kD : Key → PyData
  | .inl i => .int i
  | .inr x => .str x
theorem kD_depth (k : Key) : (kD k).depth ≤ 1 := by
  cases k with
  | inl i => simp [kD, PyData.depth]
  | inr x => simp [kD, PyData.depth]
theorem kD_reads {h : Heap} {k : Key} {v : Value} (hk : keyIs k v = true) : Reads h v (kD k) [] := by
  rcases keyIs_shape hk with ⟨i, t, rfl, rfl⟩ | ⟨x, t, rfl, rfl⟩
  · exact .int i t
  · exact .str x t
theorem each_ky : ∀ {vs : List Value}, (∀ v ∈ vs, keyIs (ky v) v = true) → PySem.W.EachIs (fun u k => keyIs k u = true) vs (vs.map ky)
  | [], _ => .nil
  | v :: vs, h => .cons (h v List.mem_cons_self) (each_ky fun x hx => h x (List.mem_cons_of_mem _ hx))
theorem each_vals : ∀ {us : List Value} {ks : List Key}, PySem.W.EachIs (fun u k => RelV (kV k) u) us ks → Vals (ks.map kV) us
  | _, _, .nil => .nil
  | _, _, .cons r t => .cons r (each_vals t)
section
variable {P : Program} {w : World} {A : Around} {E : Value → Shared → Prop} {s : Shared} {a : Addr} {S : Key → Bool} {n : Nat}
theorem sorted_setG {Q : Value → Shared → Prop} (R : SetG P w s.heap a S n) (hh : A.handled = none) (hu : A.units + 64 < cLine) (hal : ∀ j k, S j = true → S k = true → PySem.W.alike (kD j) (kD k) = true)
    (hQ : ∀ s1 p c (out : List Value) (ks : List Key), (∀ b o, s.heap.get? b = some o → s1.heap.get? b = some o) → s1.gens = s.gens → s1.os = s.os → s.heap.objs.size ≤ p → s1.heap.get? p = some (seqObj "list" out.toArray c) →
      ks.Nodup → (∀ k, k ∈ ks ↔ S k = true) → ks.length = n → Vals ((ks.mergeSort (PySem.W.dataLe false kD)).map kV) out → Q (.ref p) s1) :
    wpAny (model P w) A (call (.builtin "sorted") [.ref a]) Q E s := by
  obtain ⟨o, es, ep, t, ho, hx, hd, g, nd, hm, hn, hb, hf, hr, hl⟩ := R.ex
  refine Calls.call_function_entry kind_sorted plain_sorted entry_sorted (args_sorted1 _) ?_
  unfold Builtin.«sorted»
  refine wpAny_bind (m := checkCount "sorted" 1 1 _) (wpAny_pure ?_)
  refine wpAny_bind (collect_set (A := A.in1) hh ⟨o, ho, hx.1, hd⟩ hf (by rw [hn]; exact hb) hr hl fun s1 vs k1 z1 g1 o1 pm => ?_)
  have isk : ∀ v ∈ vs, keyIs (ky v) v = true := by
    intro v hv
    obtain ⟨e, he, rfl⟩ := List.mem_map.mp (pm.mem_iff.mp hv)
    obtain ⟨⟨k, hk, _⟩, _⟩ := g e he
    have hk : keyIs k e.2 = true := hk
    rw [ky_of hk]
    exact hk
  have pk : (vs.map ky).Perm (es.toList.map fun e => ky e.2) := by
    have z := pm.map ky
    rw [List.map_map] at z
    exact z
  have lenv : vs.length = n := by rw [pm.length_eq, List.length_map, Array.length_toList, hn]
  have mem : ∀ k, k ∈ vs.map ky ↔ S k = true := fun k => pk.mem_iff.trans (hm k).symm
  have small : vs.length ≤ sizeLine := by
    rw [lenv]
    exact fits_of_scanBound hb
  refine wpAny_bind (wpAny_newList ?_ small)
  have at1 : (s1.heap.push (seqObj "list" vs.toArray 0)).get? s1.heap.objs.size = some (seqObj "list" vs.toArray 0) := Heap.get?_push_size _ rfl
  have e1 := each_ky isk
  refine wpAny_bind (wpAny_holding (PySem.W.list_sort_data (s := { s1 with heap := s1.heap.push (seqObj "list" vs.toArray 0) }) (R := fun u k => RelV (kV k) u) (enc := kD) (bs := vs.map ky) at1 (e1.mono fun _ _ z => rel_of_is z) (e1.mono fun _ _ z => ⟨[], kD_reads z, by simp⟩) ?_ ?_ (by rw [List.length_map]; exact small) ?_ fun out lo eo => ?_))
  · intro d hd d' hd'
    obtain ⟨j, hj, rfl⟩ := List.mem_map.mp hd
    obtain ⟨k, hk, rfl⟩ := List.mem_map.mp hd'
    exact hal j k ((mem j).mp hj) ((mem k).mp hk)
  · refine .inr fun d hd => ?_
    obtain ⟨j, hj, rfl⟩ := List.mem_map.mp hd
    cases j <;> exact ⟨by simp [kD], fun xs => by simp [kD]⟩
  · intro k hk
    have := kD_depth k
    show A.units + 1 + 1 + (kD k).depth < cLine
    omega
  · obtain ⟨c, hc⟩ := sortedHeap_at (vs := vs) (out := out.toArray) at1
    refine wpAny_pure ⟨_, rfl, hQ { s1 with heap := sortedHeap (s1.heap.push (seqObj "list" vs.toArray 0)) s1.heap.objs.size vs out.toArray } s1.heap.objs.size c out (vs.map ky) (fun b u e => ?_) g1 o1 z1 hc (pk.nodup_iff.mpr nd) mem (by rw [List.length_map]; exact lenv) (each_vals eo)⟩
    have z := k1 b u e
    have lt := Heap.lt_size z
    show (sortedHeap (s1.heap.push (seqObj "list" vs.toArray 0)) s1.heap.objs.size vs out.toArray).get? b = some u
    rw [sortedHeap_old (Nat.ne_of_lt lt) (by rw [size_push']; exact Nat.lt_succ_of_lt lt)]
    exact Heap.get?_push_of_some _ z
end
/-! ### the rules -/
def SetGO (P : Program) (w : World) (a : Addr) (S : Key → Bool) (n : Nat) : HO := .ext fun h => SetG P w h a S n
section
variable {X : Cx}
theorem setGO_new {w : World} {P : Program} {H : Hp} {h : Heap} {a : Addr} {S : Key → Bool} {n : Nat} (R : SetG P w h a S n) : ObjOk P w H h a (SetGO P w a S n) :=
  ⟨R, R.there, fun _ _ p k => SetG.at p k⟩
theorem setGO_get {pins : List (Addr × Obj)} {σ : L2.St} {H : Hp} {s : Shared} {a : Addr} {S : Key → Bool} {n : Nat} (I : Inv X pins σ H s) (ha : H a = some (SetGO X.prog X.w a S n)) : SetG X.prog X.w s.heap a S n := (I.hok a _ ha).1
theorem vals_keys : ∀ {ks : List Key} {us : List Value}, Vals (ks.map kV) us → ∀ (i : Nat) (v : Value) (k : Key), us[i]? = some v → ks[i]? = some k → keyIs k v = true
  | [], _, h, i, v, k, _, e => by simp at e
  | j :: ks, u :: us, .cons r t, 0, v, k, h1, h2 => by
    cases h1
    cases h2
    cases j with
    | inl i =>
      obtain ⟨t, rfl⟩ := r
      exact keyIs_int i t
    | inr x =>
      obtain ⟨t, rfl⟩ := r
      exact keyIs_str x t
  | j :: ks, u :: us, .cons r t, i + 1, v, k, h1, h2 => vals_keys t i v k (by simpa using h1) (by simpa using h2)
/-- set(xs), xs a list of keys -/
def rSetG (K : PySem.W.Frag) (P : Program) (w : World) : List V → Hp → VK → Prop := fun vs H Q => ∃ (l : Addr) (ks : List Key), vs = [.ref l] ∧ SqL K H l (ks.map kV) ∧ ks.length + 1 < scanBound ∧ ∀ p c, H p = none → c ≤ ks.length → Q (.ref p) (upd H p (SetGO P w p (hasK ks) c))
theorem call_setG (hc : X.calm = true) : CallR X (.type "set") (rSetG X.K X.prog X.w) := by
  intro pins s σ H vs us Q I r h
  obtain ⟨l, ks, rfl, hl, hb, q⟩ := h
  rw [Vals.ref1 r]
  obtain ⟨its, rv, pl, hz⟩ := I.list hl
  have len := rv.length
  rw [List.length_map] at len
  refine set_of_list ks (I.ok.hd hc) pl.isList (by rw [List.size_toArray]; exact len) (fun i v k h1 h2 => vals_keys rv i v k (by simpa using h1) h2) hb fun h1 tk c R hc k => ?_
  exact ⟨.ref _, _, I.laid (t' := tk) k (Nat.le_refl _) (setGO_new R), rfl, q _ c (I.hok.fresh (Nat.le_refl _)) hc⟩
/-- sorted(x), x a set of keys of one kind: a new list -/
def rSortG (P : Program) (w : World) : List V → Hp → VK → Prop := fun vs H Q => ∃ (a : Addr) (S : Key → Bool) (n : Nat), vs = [.ref a] ∧ H a = some (SetGO P w a S n) ∧ (∀ j k, S j = true → S k = true → PySem.W.alike (kD j) (kD k) = true) ∧
  ∀ (ks : List Key) p, ks.Nodup → (∀ k, k ∈ ks ↔ S k = true) → ks.length = n → H p = none → Q (.ref p) (upd H p (.lst ((ks.mergeSort (PySem.W.dataLe false kD)).map kV)))
theorem cr_sortG (hc : X.calm = true) (hu : X.A.units + 64 < cLine) : CallR X (.builtin "sorted") (rSortG X.prog X.w) := by
  intro pins s σ H vs us Q I r h
  obtain ⟨a, S, n, rfl, ha, hal, q⟩ := h
  have R := setGO_get I ha
  rw [Vals.ref1 r]
  refine sorted_setG R (I.ok.hd hc) hu hal fun s1 p c out ks k g o hp at1 nd mem len rel => ?_
  have small : ((ks.mergeSort (PySem.W.dataLe false kD)).map kV).length ≤ sizeLine := by
    rw [List.length_map, List.length_mergeSort, len]
    obtain ⟨_, _, _, _, _, _, _, _, _, _, _, hb, _⟩ := R.ex
    exact fits_of_scanBound hb
  have free : H p = none := I.hok.fresh hp
  have J : Inv X pins σ (upd H p (.lst ((ks.mergeSort (PySem.W.dataLe false kD)).map kV))) { s with heap := s1.heap, gens := s1.gens, drawn := s1.drawn, toks := s1.toks } :=
    I.call (ch := []) (Un.laid k hp free) (I.hok.laid k hp ⟨small, out, c, rel, at1⟩) (by rw [g]; exact I.bare) (fun _ z => nomatch z)
  have e : s1 = { s with heap := s1.heap, gens := s1.gens, drawn := s1.drawn, toks := s1.toks } := by
    cases s1
    cases s
    cases o
    rfl
  rw [e]
  exact ⟨.ref p, _, J, rfl, q ks p nd mem len free⟩
/-- k in x, k not in x -/
def rInG (P : Program) (w : World) (neg : Bool) : V → V → Hp → VK → Prop := fun x y H Q => ∃ (k : Key) (a : Addr) (S : Key → Bool) (n : Nat), x = kV k ∧ y = .ref a ∧ H a = some (SetGO P w a S n) ∧ Q (.bl (if neg then !S k else S k)) H
theorem op_inG : OpR X (compareOp .In) (rInG X.prog X.w false) := by
  intro pins s σ H x y v u Q I rx ry h
  obtain ⟨k, a, S, n, rfl, rfl, ha, q⟩ := h
  cases ry
  exact wpAny_inSet_of (kV_is rx) (key_scanG rx) (setGO_get I ha).setOf ⟨.bl (S k), H, I.tok _, rfl, q⟩
where
  key_scanG {k : Key} {u : Value} (r : RelV (kV k) u) : u.scannable = true := by
    cases k with
    | inl i =>
      obtain ⟨t, rfl⟩ := r
      rfl
    | inr x =>
      obtain ⟨t, rfl⟩ := r
      rfl
theorem op_notInG : OpR X (compareOp .NotIn) (rInG X.prog X.w true) := by
  intro pins s σ H x y v u Q I rx ry h
  obtain ⟨k, a, S, n, rfl, rfl, ha, q⟩ := h
  cases ry
  exact wpAny_notInSet_of (kV_is rx) (op_inG.key_scanG rx) (setGO_get I ha).setOf ⟨.bl (!S k), H, I.tok _, rfl, q⟩
end
/-! ### the sorted keys, numbers or texts alone -/
theorem sort_ints (ns : List Int) : (ns.map (Sum.inl : Int → Key)).mergeSort (PySem.W.dataLe false kD) = (ns.mergeSort fun a b => decide (a ≤ b)).map Sum.inl := by
  refine (List.map_mergeSort fun a _ b _ => ?_).symm
  show decide (a ≤ b) = !PySem.W.dataLt (.int b) (.int a)
  rw [PySem.W.dataLt_int]
  by_cases h : b < a
  · rw [decide_eq_true h, decide_eq_false (by omega)]
    rfl
  · rw [decide_eq_false h, decide_eq_true (by omega)]
    rfl
theorem only_ints : ∀ {ks : List Key}, (∀ k ∈ ks, ∃ i, k = .inl i) → ∃ ns : List Int, ks = ns.map Sum.inl
  | [], _ => ⟨[], rfl⟩
  | k :: ks, h => by
    obtain ⟨i, rfl⟩ := h k List.mem_cons_self
    obtain ⟨ns, rfl⟩ := only_ints fun j hj => h j (List.mem_cons_of_mem _ hj)
    exact ⟨i :: ns, rfl⟩
/-- what sorted tells of a set of whole numbers -/
theorem sorted_ints {S : Key → Bool} {n : Nat} (hS : ∀ k, S k = true → ∃ i, k = .inl i) {ks : List Key} (nd : ks.Nodup) (mem : ∀ k, k ∈ ks ↔ S k = true) (len : ks.length = n) :
    ∃ ns : List Int, (ks.mergeSort (PySem.W.dataLe false kD)).map kV = ns.map V.int ∧ ns.Pairwise (· < ·) ∧ (∀ i, i ∈ ns ↔ S (.inl i) = true) ∧ ns.length = n := by
  obtain ⟨ms, rfl⟩ := only_ints fun k hk => hS k ((mem k).mp hk)
  have perm := List.mergeSort_perm ms fun a b => decide (a ≤ b)
  have nd2 : ms.Nodup := (List.pairwise_map.mp nd).imp fun h e => h (by rw [e])
  refine ⟨ms.mergeSort fun a b => decide (a ≤ b), ?_, ?_, fun i => ?_, ?_⟩
  · rw [sort_ints, List.map_map]
    rfl
  · have srt := List.pairwise_mergeSort (le := fun a b : Int => decide (a ≤ b)) (fun a b c h1 h2 => decide_eq_true (by have := of_decide_eq_true h1; have := of_decide_eq_true h2; omega)) (fun a b => by rw [Bool.or_eq_true, decide_eq_true_eq, decide_eq_true_eq]; omega) ms
    have nd3 : (ms.mergeSort fun a b => decide (a ≤ b)).Pairwise (· ≠ ·) := perm.nodup_iff.mpr nd2
    refine (srt.and nd3).imp fun {a b} h => ?_
    have := of_decide_eq_true h.1
    have := h.2
    omega
  · rw [perm.mem_iff, ← mem]
    constructor
    · exact fun h => List.mem_map_of_mem h
    · intro h
      obtain ⟨j, hj, e⟩ := List.mem_map.mp h
      rw [← Sum.inl.inj e]
      exact hj
  · rw [perm.length_eq, ← len, List.length_map]
end L2
/-! {e for t0 in i0 for t1 in i1}: a set of keys by a comprehension of two clauses; and several dicts locked while an expression runs. -/
namespace L2
open PySem PySem.Spec PyProof.Rows
section
variable {X : Cx}
/-- x.add(k) within a comprehension -/
theorem addG_ok {pins : List (Addr × Obj)} {σ : L2.St} {H : Hp} {s : Shared} {E : Value → Shared → Prop} {D : Addr} {S : Key → Bool} {n : Nat} {k : Key} {u : Value} {Q : Value → Shared → Prop} (I : Inv X pins σ H s) (hD : H D = some (SetGO X.prog X.w D S n)) (room : n + 1 < scanBound) (ru : RelV (kV k) u)
    (h : ∀ s1, Inv X pins σ (upd H D (SetGO X.prog X.w D (fun j => S j || decide (j = k)) (if S k = true then n else n + 1))) s1 → Q .none s1) :
    wpAny (model X.prog X.w) X.A (call (.builtin "set.add") [.ref D, u]) Q E s := by
  have R := setGO_get I hD
  have hk : (mixKind X.prog X.w).is k u = true := kV_is ru
  refine wpAny_call_entry F.slot_set_add R.setOf.typeIs F.entry_set_add ?_ (F.args_set_add_2 _ _)
  unfold Builtin.«set.add» Builtin.Frozenset.oneOther
  simp only [List.isEmpty_nil, bind_assoc]
  unfold Builtin.Frozenset.addrOf setAdd
  refine wpAny_bind (wpAny_pure ?_)
  try dsimp only
  refine wpAny_bind (wpAny_pure ?_)
  try dsimp only
  refine wpAny_bind (wpAny_holding (wpAny_bind ((mixKind X.prog X.w).pyHash hk ?_)))
  refine setG_put (s := { s with toks := s.toks + 1 }) hk R room fun h1 sb R1 => ?_
  show wpAny _ _ (ret Value.none) _ _ _
  refine wpAny_pure ⟨_, rfl, h _ ?_⟩
  exact I.write (e := D) (t' := s.toks + 1) (by rw [hD]; trivial) (.inl rfl) (fun b o hb e => (sb.2 b hb).trans e) R1.there (setGO_new R1)
end
section
variable {prog : Program} {w : World} {A : Around} {R : Result → Shared → Prop} {s : Shared} {env : Env} {elt t0 i0 t1 i1 : Expr} {scope : Scope} {pos : Pos} {it acc : Value}
abbrev SC2 (elt t0 i0 t1 i1 : Expr) (scope : Scope) (pos : Pos) : Expr := .SetComp elt [⟨t0, i0, [], 0⟩, ⟨t1, i1, [], 0⟩] scope pos
abbrev NoX : Value → Shared → Prop := fun _ _ => False
theorem toNo {α : Type} {M : Model} {t : Sem α} {Q : α → Shared → Prop} {E : Value → Shared → Prop} {s : Shared} (h : wpAny M A t Q NoX s) : wpAny M A t Q E s := wpAny_mono h (fun _ _ q => q) fun _ _ z => z.elim
theorem sc2_turn0 (elt t0 i0 t1 i1 : Expr) (scope : Scope) (pos : Pos) (it acc : Value) (env : Env) : compTurn (SC2 elt t0 i0 t1 i1 scope pos) 0 it acc env = (do
      standAt i0.pos
      match ← pyNext it with
      | none => pure (.done .next)
      | some v =>
        letOwnedTupleGo t0 it v
        assign t0 env v
        let mut good := true
        for c in ([] : List Expr) do
          if good then good ← isTrue c env (eval c env)
        if good then
          let x ← eval i1 env
          standAt i1.pos
          let x ← foldedSetIterable i1 env x
          let _ ← runOwn (.compStart (SC2 elt t0 i0 t1 i1 scope pos) 1 (← holding [x] (pyIter x)) acc env) env
        again (.compLoop (SC2 elt t0 i0 t1 i1 scope pos) 0 it acc env)) := by rfl
theorem sc2_turn1 (elt t0 i0 t1 i1 : Expr) (scope : Scope) (pos : Pos) (it acc : Value) (env : Env) : compTurn (SC2 elt t0 i0 t1 i1 scope pos) 1 it acc env = (do
      standAt i1.pos
      match ← pyNext it with
      | none => pure (.done .next)
      | some v =>
        letOwnedTupleGo t1 it v
        assign t1 env v
        let mut good := true
        for c in ([] : List Expr) do
          if good then good ← isTrue c env (eval c env)
        if good then
          (do let v ← eval elt env; standAt elt.pos; let _ ← call (.builtin "set.add") [acc, v])
        again (.compLoop (SC2 elt t0 i0 t1 i1 scope pos) 1 it acc env)) := by rfl
/-- the first clause's loop: J holds at each turn, its number falls -/
theorem sc2_loop0 (plain : ∀ x, foldedSetIterable i1 env x = pure x) (J : Nat → Shared → Prop)
    (turn : ∀ n s, J n s → wpAny (model prog w) A (pyNext it) (fun r s1 => match r with
      | none => R (.ok .next) s1
      | some v => wpAny (model prog w) A (letOwnedTupleGo t0 it v) (fun _ s2 => wpAny (model prog w) A (assign t0 env v) (fun _ s3 => wpAny (model prog w) A (eval i1 env) (fun x s4 => wpAny (model prog w) A (pyIter x) (fun j s5 =>
          codeAny (model prog w) A (.compStart (SC2 elt t0 i0 t1 i1 scope pos) 1 j acc env) (fun r s6 => (∃ f, r = .ok f) ∧ ∃ m, m < n ∧ J m s6) s5) NoX s4) NoX s3) NoX s2) NoX s1) NoX s)
    (n : Nat) (h : J n s) : codeAny (model prog w) A (.compLoop (SC2 elt t0 i0 t1 i1 scope pos) 0 it acc env) R s := by
  refine codeAny_loop rfl J (fun n s hJ => ?_) n h
  show wpAny _ A ((compTurn (SC2 elt t0 i0 t1 i1 scope pos) 0 it acc env).onRaise (fun x => do noteFrame x env; theTreesLotGoes x)) _ _ s
  rw [sc2_turn0]
  refine wpAny_noted (wpAny_bind (wpAny_standAt (wpAny_bind (toNo (wpAny_mono (turn n s hJ) (fun r s1 h1 => ?_) fun _ _ z => z)))))
  cases r with
  | none => exact wpAny_pure h1
  | some v =>
    refine wpAny_bind (toNo (wpAny_mono h1 (fun _ s2 h2 => ?_) fun _ _ z => z))
    refine wpAny_bind (toNo (wpAny_mono h2 (fun _ s3 h3 => ?_) fun _ _ z => z))
    refine wpAny_bind (wpAny_tests_nil ?_)
    refine wpAny_bind (toNo (wpAny_mono h3 (fun x s4 h4 => ?_) fun _ _ z => z))
    refine wpAny_bind (wpAny_standAt (wpAny_bind (wpAny_of_eq (plain x) (wpAny_bind (wpAny_holding (toNo (wpAny_mono h4 (fun j s5 h5 => ?_) fun _ _ z => z)))))))
    refine wpAny_bind (wpAny_runOwn ?_)
    rw [Around.mark_none]
    refine codeAny_mono h5 fun r s6 hr => ?_
    obtain ⟨⟨f, rfl⟩, hr⟩ := hr
    first
      | exact wpAny_pure ⟨rfl, hr⟩
      | exact wpAny_bind (wpAny_pure (wpAny_pure ⟨rfl, hr⟩))
/-- the second clause's loop -/
theorem sc2_loop1 (J : Nat → Shared → Prop)
    (turn : ∀ n s, J n s → wpAny (model prog w) A (pyNext it) (fun r s1 => match r with
      | none => R (.ok .next) s1
      | some v => wpAny (model prog w) A (letOwnedTupleGo t1 it v) (fun _ s2 => wpAny (model prog w) A (assign t1 env v) (fun _ s3 => wpAny (model prog w) A (eval elt env) (fun x s4 =>
          wpAny (model prog w) A (call (.builtin "set.add") [acc, x]) (fun _ s5 => ∃ m, m < n ∧ J m s5) NoX s4) NoX s3) NoX s2) NoX s1) NoX s)
    (n : Nat) (h : J n s) : codeAny (model prog w) A (.compLoop (SC2 elt t0 i0 t1 i1 scope pos) 1 it acc env) R s := by
  refine codeAny_loop rfl J (fun n s hJ => ?_) n h
  show wpAny _ A ((compTurn (SC2 elt t0 i0 t1 i1 scope pos) 1 it acc env).onRaise (fun x => do noteFrame x env; theTreesLotGoes x)) _ _ s
  rw [sc2_turn1]
  refine wpAny_noted (wpAny_bind (wpAny_standAt (wpAny_bind (toNo (wpAny_mono (turn n s hJ) (fun r s1 h1 => ?_) fun _ _ z => z)))))
  cases r with
  | none => exact wpAny_pure h1
  | some v =>
    refine wpAny_bind (toNo (wpAny_mono h1 (fun _ s2 h2 => ?_) fun _ _ z => z))
    refine wpAny_bind (toNo (wpAny_mono h2 (fun _ s3 h3 => ?_) fun _ _ z => z))
    refine wpAny_bind (wpAny_tests_nil ?_)
    refine wpAny_bind (wpAny_bind (toNo (wpAny_mono h3 (fun x s4 h4 => ?_) fun _ _ z => z)))
    exact wpAny_bind (wpAny_standAt (wpAny_bind (toNo (wpAny_mono h4 (fun _ s5 h5 => wpAny_pure (wpAny_pure ⟨rfl, h5⟩)) fun _ _ z => z))))
/-- where the second clause starts -/
theorem sc2_start (go : codeAny (model prog w) A (.compLoop (SC2 elt t0 i0 t1 i1 scope pos) 1 it acc env) R s)
    (h : wpAny (model prog w) A (pyIter it) (fun j s1 => codeAny (model prog w) A (.compLoop (SC2 elt t0 i0 t1 i1 scope pos) 1 j acc env) R s1) (notedBy (model prog w) A env fun x s1 => R (.error x) s1) s) :
    codeAny (model prog w) A (.compStart (SC2 elt t0 i0 t1 i1 scope pos) 1 it acc env) R s := by
  refine codeAny_of_tree ?_
  show wpAny _ _ ((compStart (SC2 elt t0 i0 t1 i1 scope pos) 1 it acc env).onRaise (fun x => do noteFrame x env; standAt theWindowsPlace)) _ _ s
  refine wpAny_notedAt ?_
  unfold compStart
  show wpAny _ _ (ask >>= _) _ _ s
  refine wpAny_bind (wpAny_askSetting (wpAny_ite ?_))
  split
  · first
      | exact wpAny_pure ⟨rfl, go⟩
      | exact wpAny_bind (wpAny_pure (wpAny_pure ⟨rfl, go⟩))
  · refine wpAny_bind (wpAny_rule ?_)
    first
      | exact wpAny_bind (wpAny_standAt (wpAny_bind (wpAny_mono h (fun j s1 q => wpAny_pure ⟨rfl, q⟩) fun _ _ x => x)))
      | (show wpAny _ _ (standAt i1.pos >>= _) _ _ s; exact wpAny_bind (wpAny_standAt (wpAny_bind (wpAny_mono h (fun j s1 q => wpAny_pure ⟨rfl, q⟩) fun _ _ x => x))))
end
section
variable {X : Cx}
/-- the reading: the sources J, J1 turn by turn; D the new set; vs the names of the block, vs1 those of the second target -/
def tSc2 (P : Program) (w : World) (wi : TI) (g : TG) (wi1 : TI) (g1 : TG) (te : TE) (vs vs1 : List Nat) : TE := fun σ H Q => wi σ H fun J H1 => ∀ D, H1 D = none → ∃ W : Nat → Nat → Hp → Prop, (∃ m, W 0 m (upd H1 D (SetGO P w D (fun _ => false) 0))) ∧ ∀ i m H, W i m H →
  (J.stop i H ∧ Q (.ref D) H) ∨ (J.go i H ∧ ∃ Nx : Hp → Prop, (∀ H', Nx H' → ∃ m', m' < m ∧ W (i + 1) m' H') ∧ ∀ x H', J.yld i H x H' → g x (wipe σ vs) H' fun σ2 H2 => wipe σ2 vs = wipe σ vs ∧
    wi1 σ2 H2 fun J1 H4 => ∃ W1 : Nat → Nat → Hp → Prop, (∃ m, W1 0 m H4) ∧ ∀ j k H, W1 j k H →
      (J1.stop j H ∧ Nx H) ∨ (J1.go j H ∧ ∃ Nx1 : Hp → Prop, (∀ H', Nx1 H' → ∃ k', k' < k ∧ W1 (j + 1) k' H') ∧ ∀ x H', J1.yld j H x H' → g1 x (wipe σ2 vs1) H' fun σ3 H5 => wipe σ3 vs1 = wipe σ2 vs1 ∧
        te σ3 H5 fun y H7 => ∃ (c : Key) (S : Key → Bool) (n : Nat), y = kV c ∧ H7 D = some (SetGO P w D S n) ∧ n + 1 < scanBound ∧ Nx1 (upd H7 D (SetGO P w D (fun j => S j || decide (j = c)) (if S c = true then n else n + 1)))))
theorem pe_sc2 {elt t0 i0 t1 i1 : Expr} {scope : Scope} {own : List (Str × Nat)} {vs1 : List Nat} {pos : Pos} {wi wi1 : TI} {g g1 : TG} {te : TE} (hc : X.calm = true) (hN : X.N.Nodup) (hi : PI X t0 i0 wi) (ok : BlkOk X.N X.env.scope scope own) (hv : ∀ i ∈ vs1, i ∈ own.map (·.2))
    (hg : ∀ (s : Shared) (H : Hp) (C : Addr) (cl : List (Str × Addr)) (fp : List Addr), PG (X.blk s H scope (compEnvC scope cl C X.env) fp) t0 g) (hi1 : ∀ (s : Shared) (H : Hp) (C : Addr) (cl : List (Str × Addr)) (fp : List Addr), PI (X.blk s H scope (compEnvC scope cl C X.env) fp) t1 i1 wi1)
    (hg1 : ∀ (s : Shared) (H : Hp) (C : Addr) (cl : List (Str × Addr)) (fp : List Addr), PG (X.blk s H scope (compEnvC scope cl C X.env) fp) t1 g1) (he : ∀ (s : Shared) (H : Hp) (C : Addr) (cl : List (Str × Addr)) (fp : List Addr), PE (X.blk s H scope (compEnvC scope cl C X.env) fp) elt te)
    (hs : ∀ x, foldedSetIterable i0 X.env x = pure x := by intro _; rfl) (hs1 : ∀ env x, foldedSetIterable i1 env x = pure x := by intro _ _; rfl) :
    PE X (SC2 elt t0 i0 t1 i1 scope pos) (tSc2 X.prog X.w wi g wi1 g1 te (own.map (·.2)) vs1) := by
  refine ⟨fun pins s σ H Q I h => ?_⟩
  show wpAny _ _ (eval (.SetComp elt [⟨t0, i0, [], 0⟩, ⟨t1, i1, [], 0⟩] scope pos) X.env) _ _ s
  rw [PpSet.eval_SetComp]
  have frees : ∀ y ∈ scope.names, y.2 = .free → ∃ c, X.env.cells.lookup y.1 = some c := fun y hy e => (ok.free y hy e).elim (fun k => I.ok.has _ (.inl k)) fun k => I.ok.has _ (.inr k)
  refine wpAny_comprehension_free rfl hs (closure_ok frees) ok.kind (fun y hy e => by rw [ok.uniq y hy, e]) (thn (hi.run pins s σ H _ I h) fun x0 s1 hx => thn hx fun j0 s2 h2 => ?_)
  obtain ⟨it, fp, tn, J, H2, rfl, I2, T, st2, f2, q⟩ := h2
  refine PpSet.newSet_ok (newEnv_comp ?_)
  obtain ⟨D, eD⟩ : ∃ D, D = s2.heap.objs.size := ⟨_, rfl⟩
  rw [← eD]
  have dn : H2 D = none := I2.hok.fresh (Nat.le_of_eq eD.symm)
  obtain ⟨W, ⟨m0, w0⟩, turn⟩ := q D dn
  obtain ⟨s3, e3⟩ : ∃ s3 : Shared, s3 = { s2 with heap := s2.heap.push { cls := .type "set", dict := none, data := .set #[] 0 (.fresh 0 0 (!X.w.params.followText "set-order")) } } := ⟨_, rfl⟩
  rw [← e3]
  have heap3 : s3.heap = s2.heap.push { cls := .type "set", dict := none, data := .set #[] 0 (.fresh 0 0 (!X.w.params.followText "set-order")) } := by rw [e3]
  have I3 : Inv X pins σ (upd H2 D (SetGO X.prog X.w D (fun _ => false) 0)) s3 := by
    rw [e3]
    refine I2.laid (t' := s2.toks) (fun b o e => Heap.get?_push_of_some _ e) (Nat.le_of_eq eD.symm) (setGO_new (setG_fresh ?_))
    rw [eD]
    exact Heap.get?_push_size _ rfl
  have fp3 : ∀ b ∈ fp, FpOk X pins (upd H2 D (SetGO X.prog X.w D (fun _ => false) 0)) b ∧ b < s3.heap.objs.size := fun b hb => by
    obtain ⟨o, e, _⟩ := T.obj _ _ st2 b hb
    have lt := Heap.lt_size e
    refine ⟨⟨?_, (f2 b hb).2⟩, by rw [heap3, Heap.size_push]; exact Nat.lt_succ_of_lt lt⟩
    rw [upd_ne (by rw [eD]; exact Nat.ne_of_lt lt)]
    exact (f2 b hb).1
  have tn3 : tn 0 s3.heap := T.keep _ _ _ st2 fun b _ o e => by rw [heap3]; exact Heap.get?_push_of_some _ e
  have I4 := block_start I3 ok hN fp3
  have G0 := hg s3 (upd H2 D (SetGO X.prog X.w D (fun _ => false) 0)) s3.heap.objs.size (cellsFrom (s3.heap.objs.size + 1) scope.names (cloFrom X.env.cells scope.names [])) fp
  have S1 := hi1 s3 (upd H2 D (SetGO X.prog X.w D (fun _ => false) 0)) s3.heap.objs.size (cellsFrom (s3.heap.objs.size + 1) scope.names (cloFrom X.env.cells scope.names [])) fp
  have G1 := hg1 s3 (upd H2 D (SetGO X.prog X.w D (fun _ => false) 0)) s3.heap.objs.size (cellsFrom (s3.heap.objs.size + 1) scope.names (cloFrom X.env.cells scope.names [])) fp
  have E1 := he s3 (upd H2 D (SetGO X.prog X.w D (fun _ => false) 0)) s3.heap.objs.size (cellsFrom (s3.heap.objs.size + 1) scope.names (cloFrom X.env.cells scope.names [])) fp
  show codeAny _ _ (.compStart (SC2 elt t0 i0 t1 i1 scope pos) 0 (.ref it) (.ref D) (compEnvC scope (cellsFrom (s3.heap.objs.size + 1) scope.names (cloFrom X.env.cells scope.names [])) s3.heap.objs.size X.env)) (compPost (model X.prog X.w) X.A X.xe none (EP X pins σ Q) (.ref D) s3.heap.objs.size)
    { s3 with heap := pushCells (s3.heap.push { cls := .type "dict", data := .dict #[] }) scope.names }
  have free3 : ∀ b ∈ fp, (upd H2 D (SetGO X.prog X.w D (fun _ => false) 0)) b = none := fun b hb => (fp3 b hb).1.1
  generalize hce : compEnvC scope (cellsFrom (s3.heap.objs.size + 1) scope.names (cloFrom X.env.cells scope.names [])) s3.heap.objs.size X.env = ce at I4 G0 S1 G1 E1 ⊢
  have loc : ce.locals = s3.heap.objs.size := by subst hce; rfl
  generalize upd H2 D (SetGO X.prog X.w D (fun _ => false) 0) = H3 at I3 I4 G0 S1 G1 E1 w0 free3 fp3
  obtain ⟨s4, e4⟩ : ∃ s4 : Shared, s4 = { s3 with heap := pushCells (s3.heap.push { cls := .type "dict", data := .dict #[] }) scope.names } := ⟨_, rfl⟩
  rw [← e4] at I4 ⊢
  have tn4 : tn 0 s4.heap := T.keep _ _ _ tn3 fun b _ o e => by rw [e4]; exact pushCells_keeps _ _ _ _ (Heap.get?_push_of_some _ e)
  have spot : ∀ {σ' : L2.St} {H' : Hp} {s' : Shared}, Inv (X.blk s3 H3 scope ce fp) [] σ' H' s' → (∀ b ∈ fp, H' b = none) → ∀ b ∈ fp, FpOk (X.blk s3 H3 scope ce fp) [] H' b := fun {σ' H' s'} J' no b hb =>
    ⟨no b hb, (J'.ok.exf b hb).1, J'.ok.exfs b hb, .inl hb, fun x c e => (J'.ok.exf b hb).2 x c e, fun p hp => absurd (show p ∈ ([] : List (Addr × Obj)) ++ [] from hp) (by simp)⟩
  have all : codeAny (model X.prog X.w) X.A (.compLoop (SC2 elt t0 i0 t1 i1 scope pos) 0 (.ref it) (.ref D) ce) (compPost (model X.prog X.w) X.A X.xe none (EP X pins σ Q) (.ref D) s3.heap.objs.size) s4 := by
    refine sc2_loop0 (hs1 ce) (fun m s' => ∃ i H', Inv (X.blk s3 H3 scope ce fp) [] (wipe σ (own.map (·.2))) H' s' ∧ tn i s'.heap ∧ (∀ b ∈ fp, H' b = none) ∧ W i m H') ?_ m0 ⟨0, H3, I4, tn4, free3, w0⟩
    rintro m s5 ⟨i, H5, I5, tn5, free5, w5⟩
    rcases turn i m H5 w5 with ⟨stop, end5⟩ | ⟨go, Nx, back, step⟩
    · refine thnF (T.done (X.blk s3 H3 scope ce fp) rfl rfl rfl hc i [] s5 _ H5 NoX I5 (spot I5 free5) tn5 stop) fun r s6 ⟨hr, I6⟩ => ?_
      subst hr
      have I7 : Inv X pins σ H5 s6 := I3.call' (ch := fp) I6.os I6.base I6.hok I6.bare fun b hb => ⟨(fp3 b hb).1.2.2.2.1, (fp3 b hb).1.2.1, (fp3 b hb).1.2.2.2.2.1, (fp3 b hb).1.2.2.2.2.2⟩
      have noC : H5 s3.heap.objs.size = none := loc ▸ (show H5 ce.locals = none from I6.free)
      obtain ⟨ns, hn, _⟩ := I6.loc
      have hn : s6.heap.Ns ce.locals ns := hn
      rw [loc] at hn
      obtain ⟨f0, f1, f2', f3, f4, f5⟩ := I3.fpOk (H' := H5) (Nat.le_refl _) noC
      exact ⟨ns, hn, fun h'' sb => ⟨.ref D, H5, I7.turned (t' := s6.toks) (fun b o hb e => (sb.2 b hb).trans e) f0 f1 f3 f4 f5, rfl, end5⟩⟩
    · refine thnF (T.item (X.blk s3 H3 scope ce fp) rfl rfl rfl hc i [] s5 _ H5 NoX I5 (spot I5 free5) tn5 go) fun r s6 ⟨u, hr, h6⟩ => ?_
      subst hr
      refine thnF h6 fun _ s7 ⟨x, H7, I7, r7, y7, tn7, free7⟩ => ?_
      have I7' := I7.pinned (spot I7 free7) (T.obj _ _ tn7)
      refine thnF (G0.run _ s7 _ H7 x u _ I7' r7 (step x H7 y7)) fun _ s8 ⟨σ8, H8, I8, wp8, q8⟩ => ?_
      have next : ∀ {σ9 : L2.St} {s' : Shared} {H' : Hp}, Inv (X.blk s3 H3 scope ce fp) ([] ++ pinsAt fp s7.heap) σ9 H' s' → (wipe σ (own.map (·.2))).length = σ9.length → (∀ (j : Nat) v, (wipe σ (own.map (·.2)))[j]? = some (some v) → σ9[j]? = some (some v)) → Nx H' →
          ∃ l, l < m ∧ ∃ i H', Inv (X.blk s3 H3 scope ce fp) [] (wipe σ (own.map (·.2))) H' s' ∧ tn i s'.heap ∧ (∀ b ∈ fp, H' b = none) ∧ W i l H' := by
        intro σ9 s' H' I' same know nx
        obtain ⟨l, lt, w'⟩ := back H' nx
        have stays : ∀ b ∈ fp, ∀ o, s7.heap.get? b = some o → s'.heap.get? b = some o ∧ H' b = none := fun b hb o e =>
          have z := I'.pin (b, o) (List.mem_append_right _ (List.mem_append_right _ (mem_pinsAt hb e)))
          ⟨z.1, z.2.1⟩
        refine ⟨l, lt, i + 1, H', (I'.unpinned (pins := [])).weak same know, T.keep _ _ _ tn7 fun b hb o e => (stays b hb o e).1, fun b hb => ?_, w'⟩
        obtain ⟨o, e, _⟩ := T.obj _ _ tn7 b hb
        exact (stays b hb o e).2
      have same9 : (wipe σ (own.map (·.2))).length = (wipe σ8 vs1).length := by rw [← wp8, wipe_length, wipe_length]
      have know9 : ∀ (j : Nat) v, (wipe σ (own.map (·.2)))[j]? = some (some v) → (wipe σ8 vs1)[j]? = some (some v) := fun j v e => by
        rw [← wp8] at e
        obtain ⟨k1, k2⟩ := wipe_some e
        rw [wipe_out fun z => k2 (hv j z)]
        exact k1
      refine thnF (S1.run _ s8 σ8 H8 _ I8 q8) fun x1 s9 hx1 => thnF hx1 fun j1 s10 h10 => ?_
      obtain ⟨it1, fp1, tn1, J1, H10, rfl, I10, T1, st10, f10, W1, ⟨m1, w1⟩, turn1⟩ := h10
      have spot1 : ∀ {H' : Hp}, (∀ b ∈ fp1, H' b = none) → ∀ b ∈ fp1, FpOk (X.blk s3 H3 scope ce fp) ([] ++ pinsAt fp s7.heap) H' b := fun no b hb => ⟨no b hb, (f10 b hb).2⟩
      have inner : codeAny (model X.prog X.w) X.A (.compLoop (SC2 elt t0 i0 t1 i1 scope pos) 1 (.ref it1) (.ref D) ce) (fun r s' => (∃ f, r = .ok f) ∧ ∃ l, l < m ∧ ∃ i H', Inv (X.blk s3 H3 scope ce fp) [] (wipe σ (own.map (·.2))) H' s' ∧ tn i s'.heap ∧ (∀ b ∈ fp, H' b = none) ∧ W i l H') s10 := by
        refine sc2_loop1 (fun k s' => ∃ j H', Inv (X.blk s3 H3 scope ce fp) ([] ++ pinsAt fp s7.heap) (wipe σ8 vs1) H' s' ∧ tn1 j s'.heap ∧ (∀ b ∈ fp1, H' b = none) ∧ W1 j k H') ?_ m1 ⟨0, H10, I10.weak (wipe_length _ _) (fun j v e => (wipe_some e).1), st10, fun b hb => (f10 b hb).1, w1⟩
        rintro k s11 ⟨j, H11, I11, tn11, free11, w11⟩
        rcases turn1 j k H11 w11 with ⟨stop1, nx1⟩ | ⟨go1, Nx1, back1, step1⟩
        · refine thnF (T1.done (X.blk s3 H3 scope ce fp) rfl rfl rfl hc j _ s11 (wipe σ8 vs1) H11 NoX I11 (spot1 free11) tn11 stop1) fun r s12 ⟨hr, I12⟩ => ?_
          subst hr
          exact ⟨⟨_, rfl⟩, next I12 same9 know9 nx1⟩
        · refine thnF (T1.item (X.blk s3 H3 scope ce fp) rfl rfl rfl hc j _ s11 (wipe σ8 vs1) H11 NoX I11 (spot1 free11) tn11 go1) fun r s12 ⟨u1, hr, h12⟩ => ?_
          subst hr
          refine thnF h12 fun _ s13 ⟨y1, H13, I13, r13, y13, tn13, free13⟩ => ?_
          have I13' := I13.pinned (spot1 free13) (T1.obj _ _ tn13)
          refine thnF (G1.run _ s13 (wipe σ8 vs1) H13 y1 u1 _ I13' r13 (step1 y1 H13 y13)) fun _ s14 ⟨σ14, H14, I14, wp14, q14⟩ => ?_
          refine thnF (E1.run _ s14 σ14 H14 _ I14 q14) fun z s15 ⟨yv, H15, I15, r15, c, S, n, ey, eD15, room, nx⟩ => ?_
          subst ey
          refine addG_ok (X := X.blk s3 H3 scope ce fp) I15 eD15 room r15 fun s16 I16 => ?_
          obtain ⟨l, lt, w'⟩ := back1 _ nx
          have stays1 : ∀ b ∈ fp1, ∀ o, s13.heap.get? b = some o → s16.heap.get? b = some o ∧ _ = none := fun b hb o e =>
            have z := I16.pin (b, o) (List.mem_append_right _ (List.mem_append_right _ (mem_pinsAt hb e)))
            ⟨z.1, z.2.1⟩
          refine ⟨l, lt, j + 1, _, I16.unpinned.weak (by rw [← wp14, wipe_length]) (fun j v e => by rw [← wp14] at e; exact (wipe_some e).1), T1.keep _ _ _ tn13 fun b hb o e => (stays1 b hb o e).1, fun b hb => ?_, w'⟩
          obtain ⟨o, e, _⟩ := T1.obj _ _ tn13 b hb
          exact (stays1 b hb o e).2
      exact sc2_start inner (T1.self X.A 0 _ _ _ st10 inner)
  exact PpSet.codeAny_compStart_set all (T.self X.A 0 _ _ _ tn4 all)
end
/-! ### several dicts locked while an expression runs -/
def tLockN (t : TE) : List Addr → TE
  | [] => t
  | d :: ds => fun σ H Q => ∃ u, H d = some u ∧ Mut (some u) ∧ ∀ od, tLockN t ds σ (upd H d (.frz od u)) fun v H' => H' d = some (.frz od u) ∧ Q v (upd H' d u)
def tLocks (t : TE) : TE := fun σ H Q => ∃ ds, tLockN t ds σ H Q
theorem pe_locks {X : Cx} {e : Expr} {t : TE} (h : PE X e t) : PE X e (tLocks t) := by
  have one : ∀ ds : List Addr, PE X e (tLockN t ds) := by
    intro ds
    induction ds with
    | nil => exact h
    | cons d ds ih =>
      refine ⟨fun pins s σ H Q I hw => ?_⟩
      obtain ⟨u, hd, mu, hw⟩ := hw
      obtain ⟨od, I1⟩ := I.lock hd mu
      exact thn (ih.run pins s σ _ _ I1 (hw od)) fun v s1 ⟨x, H1, I2, r, e2, q⟩ => ⟨x, _, I2.unlock e2 (I.nofrz hd mu), r, q⟩
  exact ⟨fun pins s σ H Q I ⟨ds, hw⟩ => (one ds).run pins s σ H Q I hw⟩
theorem lockN_by {t : TE} {σ : L2.St} (f : Addr → HO) : ∀ (as : List Addr) (G : V → Hp → Prop) (H : Hp) (Q : VK), as.Nodup → (∀ a ∈ as, H a = some (f a)) → (∀ a ∈ as, Mut (some (f a))) →
    (∀ (H1 : Hp) (R : VK), (∀ a ∈ as, ∃ od, H1 a = some (.frz od (f a))) → (∀ b, b ∉ as → H1 b = H b) → (∀ v H', (∀ a ∈ as, H' a = H1 a) → G v H' → R v H') → t σ H1 R) →
    (∀ v H' H2, G v H' → (∀ a ∈ as, H2 a = some (f a)) → (∀ b, b ∉ as → H2 b = H' b) → Q v H2) → tLockN t as σ H Q
  | [], G, H, Q, _, _, _, run, fin => run H Q (fun _ h => by cases h) (fun _ _ => rfl) fun v H' _ g => fin v H' H' g (fun _ h => by cases h) fun _ _ => rfl
  | d :: ds, G, H, Q, nd, at0, mu, run, fin => by
    rw [List.nodup_cons] at nd
    refine ⟨f d, at0 d List.mem_cons_self, mu d List.mem_cons_self, fun od => ?_⟩
    have ne : ∀ a ∈ ds, a ≠ d := fun a ha e => nd.1 (e ▸ ha)
    refine lockN_by f ds (fun v H' => H' d = some (.frz od (f d)) ∧ G v H') _ _ nd.2 (fun a ha => by rw [upd_ne (ne a ha)]; exact at0 a (List.mem_cons_of_mem _ ha)) (fun a ha => mu a (List.mem_cons_of_mem _ ha)) ?_ ?_
    · intro H1 R lock rest cont
      have hd : H1 d = some (.frz od (f d)) := by rw [rest d nd.1, upd_same]
      refine run H1 R (fun a ha => ?_) (fun b hb => ?_) fun v H' same g => ?_
      · rcases List.mem_cons.mp ha with rfl | ha
        · exact ⟨od, hd⟩
        · exact lock a ha
      · have nb : b ≠ d := fun e => hb (e ▸ List.mem_cons_self)
        rw [rest b fun z => hb (List.mem_cons_of_mem _ z), upd_ne nb]
      · exact cont v H' (fun a ha => same a (List.mem_cons_of_mem _ ha)) ⟨(same d List.mem_cons_self).trans hd, g⟩
    · rintro v H' H2 ⟨hd, g⟩ back rest
      refine ⟨(rest d nd.1).trans hd, fin v H' _ g (fun a ha => ?_) fun b hb => ?_⟩
      · rcases List.mem_cons.mp ha with rfl | ha
        · exact upd_same
        · rw [upd_ne (ne a ha)]
          exact back a ha
      · have nb : b ≠ d := fun e => hb (e ▸ List.mem_cons_self)
        rw [upd_ne nb]
        exact rest b fun z => hb (List.mem_cons_of_mem _ z)
end L2
/-! sum of a tuple of whole numbers. -/
namespace L2
open PySem PySem.Spec PyProof.Rows
section
variable {prog : Program} {w : World} {A : Around} {E : Value → Shared → Prop} {s : Shared}
theorem sum_rawT {t : Addr} {its : List Value} {ns : List Int} {Q : Value → Shared → Prop} (hh : A.handled = none) (ht : s.heap.IsTuple t its.toArray) (hi : IntsAre its ns)
    (h : ∀ h' tk t', (∀ b o, s.heap.get? b = some o → h'.get? b = some o) → Q (.int ns.sum t') { s with heap := h', toks := tk }) : wpAny (model prog w) A (call (.builtin "sum") [.ref t]) Q E s := by
  obtain ⟨xs, e⟩ := hi.allInts.items
  have hn : numsOf (intItems xs).toList = ns := by rw [← e]; exact hi.numsOf
  rw [nums_intItems] at hn
  rw [e] at ht
  have lt : t < s.heap.objs.size := by obtain ⟨o, ho, _⟩ := ht; exact Heap.lt_size ho
  refine PySem.call_sum_walkG (wpAny_pyIter_tuple ht ?_)
  have sz : (s.heap.push { cls := .type "tuple_iterator", data := .fields #[.ref t, .int 0 0] }).objs.size = s.heap.objs.size + 1 := Heap.size_push ..
  refine ⟨_, _, _, _, _, _, numAt xs, rfl, Walks.tuple (A := A.in1) hh _ t (Nat.ne_of_lt lt) (intItems xs), ⟨⟨_, Heap.get?_push_size _ rfl, rfl, rfl⟩, ?_⟩, ?_, (fun _ _ => intItems_at), fun h' tk t' hk => ?_⟩
  · obtain ⟨o, ho, r⟩ := ht
    exact ⟨o, Heap.get?_push_of_some _ ho, r⟩
  · intro b hb
    simp only [List.mem_cons, List.not_mem_nil, or_false] at hb
    show b < (s.heap.push { cls := .type "tuple_iterator", data := .fields #[.ref t, .int 0 0] }).objs.size
    rw [sz]
    rcases hb with rfl | rfl
    · exact Nat.lt_succ_self _
    · exact Nat.lt_succ_of_lt lt
  · have := h h' tk t' fun b o q => hk b o (by
      simp only [List.mem_cons, List.not_mem_nil, or_false]
      exact Nat.ne_of_lt (Heap.lt_size q)) (Heap.get?_push_of_some _ q)
    have z : preSum (numAt xs) (intItems xs).size = ns.sum := by
      rw [show (intItems xs).size = xs.size by simp [intItems], preSum_eq, List.take_of_length_le (by simp), hn]
    rw [z]
    exact this
end
section
variable {X : Cx}
def rSumT (K : PySem.W.Frag) : List V → Hp → VK → Prop := fun vs H Q => ∃ (a : Addr) (ns : List Int), vs = [V.ref a] ∧ SqT K H a (ns.map V.int) ∧ Q (.int ns.sum) H
theorem cr_sumT (hc : X.calm = true) : CallR X (.builtin "sum") (rSumT X.K) := by
  intro pins s σ H vs us Q I r h
  obtain ⟨a, ns, rfl, hs, q⟩ := h
  obtain ⟨its, rv, tup, _⟩ := I.tuple hs
  rw [Vals.ref1 r]
  exact sum_rawT (I.ok.hd hc) tup rv.ints fun h' tk t' hk => ⟨.int _, H, I.kept hk, ⟨_, rfl⟩, q⟩
end
end L2
/-! The pure layer: what a reading computes, as a function on data. Values stand for data (PyData); a slot of a frame holds shared data (s), a thing of its own that may be changed (o), or one that was lent by the caller (p).
Z: what is never changed; Y: what is kept privately, by callers and by what waits. -/
namespace Pu
open PySem PySem.Spec PyProof.Rows L2
abbrev D := PyData
/-- a test that no machine looks into -/
noncomputable def gd (p : Prop) : Bool := @decide p (Classical.propDecidable p)
theorem gd_iff {p : Prop} : gd p = true ↔ p := by
  unfold gd
  exact @decide_eq_true_iff p (Classical.propDecidable p)
@[simp] theorem gd_eq (p : Prop) : (gd p = true) = p := propext gd_iff
theorem gd_of {p : Prop} (h : p) : gd p = true := gd_iff.mpr h
/-- an instance, as data: no real dict has such a first key -/
def insD (c : Str) (fs : List (Str × D)) : D := .dict ((.list [], .str c) :: fs.map fun p => (.str p.1, p.2))
inductive Sl
  | un
  | s (d : D)
  | o (d : D)
  | p (d : D)
abbrev En := List Sl
/-- the table of classes -/
abbrev Cl := Str → Addr
def Wr (K : PySem.W.Frag) (a : Addr) (xs : List V) : Prop := ∃ (its : List Value) (n : Nat), K.lookup a = some { cls := .type "list", dict := none, data := .seq its.toArray n, slots := #[] } ∧ its.length ≤ sizeLine ∧ Vals xs its
/-- a list that stays -/
def LsR (K : PySem.W.Frag) (Z : Addr → Prop) (H : Hp) (a : Addr) (xs : List V) : Prop := (Z a ∧ H a = some (.lst xs)) ∨ (∃ o, H a = some (.frz o (.lst xs))) ∨ Wr K a xs
theorem LsR.sq {K : PySem.W.Frag} {Z : Addr → Prop} {H : Hp} {a : Addr} {xs : List V} (h : LsR K Z H a xs) : SqL K H a xs := by
  rcases h with ⟨_, h⟩ | ⟨o, h⟩ | h
  · exact .inl (.inl h)
  · exact .inl (.inr ⟨o, h⟩)
  · obtain ⟨its, n, e, z, r⟩ := h
    exact .inr ⟨_, its.toArray, n, e, rfl, rfl, rfl, by simpa using z, by simpa using r⟩
/-- such a list, in the machine's heap -/
theorem LsR.at {X : Cx} {pins : List (Addr × Obj)} {σ : L2.St} {H : Hp} {s : Shared} {Z : Addr → Prop} {a : Addr} {xs : List V} (I : Inv X pins σ H s) (h : LsR X.K Z H a xs) :
    xs.length ≤ sizeLine ∧ ∃ (its : List Value) (n : Nat), Vals xs its ∧ s.heap.get? a = some { cls := .type "list", dict := none, data := .seq its.toArray n, slots := #[] } := by
  rcases h with ⟨_, h⟩ | ⟨o, h⟩ | ⟨its, n, e, z, r⟩
  · obtain ⟨z, its, n, r, _, e⟩ := I.lstM h
    exact ⟨z, its, n, r, e⟩
  · obtain ⟨_, q⟩ := I.hok a _ h
    obtain ⟨z, its, n, r, e⟩ := q
    exact ⟨z, its, n, r, e⟩
  · exact ⟨by rw [r.length]; exact z, its, n, r, I.kIn a _ e⟩
def keyD : Key → D
  | .inl i => .int i
  | .inr x => .str x
mutual
/-- v stands for d, for good -/
inductive Rep (K : PySem.W.Frag) (cl : Cl) (Z : Addr → Prop) (H : Hp) : V → D → Prop
  | non : Rep K cl Z H .non .none
  | bl (b : Bool) : Rep K cl Z H (.bl b) (.bool b)
  | int (i : Int) : Rep K cl Z H (.int i) (.int i)
  | str (x : Str) : Rep K cl Z H (.str x) (.str x)
  | tup {a : Addr} {xs : List V} {ds : List D} : SqT K H a xs → RepAll K cl Z H xs ds → Rep K cl Z H (.ref a) (.tuple ds)
  | lst {a : Addr} {xs : List V} {ds : List D} : LsR K Z H a xs → RepAll K cl Z H xs ds → Rep K cl Z H (.ref a) (.list ds)
  | dct {a : Addr} {kvs : List (Key × V)} {ds : List D} : Z a → H a = some (.dK kvs) → RepAll K cl Z H (kvs.map (·.2)) ds → Rep K cl Z H (.ref a) (.dict ((kvs.map fun p => keyD p.1).zip ds))
  | ins {a dx : Addr} {c : Str} {vs : List (Str × V)} {ds : List D} : Z a → H a = some (.ins (cl c) dx vs) → RepAll K cl Z H (vs.map (·.2)) ds → Rep K cl Z H (.ref a) (insD c ((vs.map (·.1)).zip ds))
inductive RepAll (K : PySem.W.Frag) (cl : Cl) (Z : Addr → Prop) (H : Hp) : List V → List D → Prop
  | nil : RepAll K cl Z H [] []
  | cons {v : V} {vs : List V} {d : D} {ds : List D} : Rep K cl Z H v d → RepAll K cl Z H vs ds → RepAll K cl Z H (v :: vs) (d :: ds)
end
/-- what is kept from H to H' -/
structure Ext (Y Z : Addr → Prop) (H : Hp) (Z' : Addr → Prop) (H' : Hp) : Prop where
  sub : ∀ a, Z a → Z' a
  keep : ∀ a o, (Z a ∨ Y a) → H a = some o → H' a = some o
  tup : ∀ a xs, H a = some (.tup xs) → H' a = some (.tup xs)
  frz : ∀ a o u, H a = some (.frz o u) → H' a = some (.frz o u)
  dom : ∀ a, H a ≠ none → H' a ≠ none
section
variable {K : PySem.W.Frag} {cl : Cl} {Y Y' Z Z' Z2 : Addr → Prop} {H H' H2 : Hp}
theorem Ext.refl : Ext Y Z H Z H := ⟨fun _ h => h, fun _ _ _ e => e, fun _ _ e => e, fun _ _ _ e => e, fun _ e => e⟩
theorem Ext.trans (a : Ext Y Z H Z' H') (b : Ext Y Z' H' Z2 H2) : Ext Y Z H Z2 H2 :=
  ⟨fun x h => b.sub x (a.sub x h), fun x o h e => b.keep x o (h.imp (a.sub x) id) (a.keep x o h e), fun x xs e => b.tup x xs (a.tup x xs e), fun x o u e => b.frz x o u (a.frz x o u e), fun x e => b.dom x (a.dom x e)⟩
theorem Ext.less (a : Ext Y Z H Z' H') (h : ∀ x, Y' x → Y x) : Ext Y' Z H Z' H' := ⟨a.sub, fun x o k e => a.keep x o (k.imp id (h x)) e, a.tup, a.frz, a.dom⟩
theorem Ext.same (k : Same H H') : Ext Y Z H Z H' := ⟨fun _ h => h, fun a o _ e => k a o e, fun a xs e => k a _ e, fun a o u e => k a _ e, fun a e z => by
  cases q : H a with
  | none => exact e q
  | some o => rw [k a o q] at z; cases z⟩
theorem Ext.more (h : ∀ a, Z a → Z' a) : Ext Y Z H Z' H := ⟨h, fun _ _ _ e => e, fun _ _ e => e, fun _ _ _ e => e, fun _ e => e⟩
theorem SqT.ext {a : Addr} {xs : List V} (x : Ext Y Z H Z' H') (h : SqT K H a xs) : SqT K H' a xs := by
  rcases h with (h | ⟨o, h⟩) | h
  · exact .inl (.inl (x.tup a xs h))
  · exact .inl (.inr ⟨o, x.frz a o _ h⟩)
  · exact .inr h
theorem LsR.ext {a : Addr} {xs : List V} (x : Ext Y Z H Z' H') (h : LsR K Z H a xs) : LsR K Z' H' a xs := by
  rcases h with ⟨z, h⟩ | ⟨o, h⟩ | h
  · exact .inl ⟨x.sub a z, x.keep a _ (.inl z) h⟩
  · exact .inr (.inl ⟨o, x.frz a o _ h⟩)
  · exact .inr (.inr h)
mutual
theorem Rep.ext (x : Ext Y Z H Z' H') : ∀ {v : V} {d : D}, Rep K cl Z H v d → Rep K cl Z' H' v d
  | _, _, .non => .non
  | _, _, .bl b => .bl b
  | _, _, .int i => .int i
  | _, _, .str s => .str s
  | _, _, .tup h a => .tup (SqT.ext x h) (RepAll.ext x a)
  | _, _, .lst h a => .lst (LsR.ext x h) (RepAll.ext x a)
  | _, _, .dct z h a => .dct (x.sub _ z) (x.keep _ _ (.inl z) h) (RepAll.ext x a)
  | _, _, .ins z h a => .ins (x.sub _ z) (x.keep _ _ (.inl z) h) (RepAll.ext x a)
theorem RepAll.ext (x : Ext Y Z H Z' H') : ∀ {vs : List V} {ds : List D}, RepAll K cl Z H vs ds → RepAll K cl Z' H' vs ds
  | _, _, .nil => .nil
  | _, _, .cons h t => .cons (Rep.ext x h) (RepAll.ext x t)
end
theorem RepAll.length : ∀ {vs : List V} {ds : List D}, RepAll K cl Z H vs ds → vs.length = ds.length
  | _, _, .nil => rfl
  | _, _, .cons _ t => by rw [List.length_cons, List.length_cons, RepAll.length t]
theorem RepAll.get : ∀ {vs : List V} {ds : List D} {i : Nat} {d : D}, RepAll K cl Z H vs ds → ds[i]? = some d → ∃ v, vs[i]? = some v ∧ Rep K cl Z H v d
  | _, _, _, _, .nil, e => by simp at e
  | _, _, 0, _, .cons h _, e => by simp at e; subst e; exact ⟨_, rfl, h⟩
  | _, _, i + 1, _, .cons _ t, e => by
    obtain ⟨v, e1, e2⟩ := RepAll.get (i := i) t (by simpa using e)
    exact ⟨v, by simpa using e1, e2⟩
theorem RepAll.append : ∀ {vs ws : List V} {ds es : List D}, RepAll K cl Z H vs ds → RepAll K cl Z H ws es → RepAll K cl Z H (vs ++ ws) (ds ++ es)
  | _, _, _, _, .nil, s => s
  | _, _, _, _, .cons h t, s => .cons h (RepAll.append t s)
theorem RepAll.take : ∀ {vs : List V} {ds : List D} (n : Nat), RepAll K cl Z H vs ds → RepAll K cl Z H (vs.take n) (ds.take n)
  | _, _, 0, _ => .nil
  | _, _, _ + 1, .nil => .nil
  | _, _, n + 1, .cons h t => .cons h (RepAll.take n t)
theorem RepAll.drop : ∀ {vs : List V} {ds : List D} (n : Nat), RepAll K cl Z H vs ds → RepAll K cl Z H (vs.drop n) (ds.drop n)
  | _, _, 0, h => h
  | _, _, _ + 1, .nil => .nil
  | _, _, n + 1, .cons _ t => RepAll.drop n t
theorem RepAll.set {v : V} {d : D} (h : Rep K cl Z H v d) : ∀ {vs : List V} {ds : List D} (i : Nat), RepAll K cl Z H vs ds → RepAll K cl Z H (vs.set i v) (ds.set i d)
  | _, _, _, .nil => .nil
  | _, _, 0, .cons _ t => .cons h t
  | _, _, i + 1, .cons q t => .cons q (RepAll.set h i t)
/-- v is d as it stands now: a list's own place may be anywhere -/
def RepS (K : PySem.W.Frag) (cl : Cl) (Z : Addr → Prop) (H : Hp) (v : V) : D → Prop
  | .list ds => ∃ a xs, v = .ref a ∧ LsR K (fun _ => True) H a xs ∧ RepAll K cl Z H xs ds
  | d => Rep K cl Z H v d
theorem LsR.any {a : Addr} {xs : List V} (h : LsR K Z H a xs) : LsR K (fun _ => True) H a xs := h.imp (fun q => ⟨trivial, q.2⟩) id
theorem Rep.s {v : V} {d : D} (h : Rep K cl Z H v d) : RepS K cl Z H v d := by
  cases h with
  | lst l a => exact ⟨_, _, rfl, l.any, a⟩
  | non => exact .non
  | bl b => exact .bl b
  | int i => exact .int i
  | str x => exact .str x
  | tup h a => exact .tup h a
  | dct z h a => exact .dct z h a
  | ins z h a => exact .ins z h a
/-- a thing of one's own -/
def OwnR (K : PySem.W.Frag) (cl : Cl) (Z : Addr → Prop) (H : Hp) (a : Addr) : D → Prop
  | .list ds => ∃ vs, H a = some (.lst vs) ∧ RepAll K cl Z H vs ds
  | .dict kvs => (∃ (vs : List (Key × V)) (ds : List D), H a = some (.dK vs) ∧ RepAll K cl Z H (vs.map (·.2)) ds ∧ kvs = (vs.map fun p => keyD p.1).zip ds) ∨
      ∃ (c : Str) (dx : Addr) (vs : List (Str × V)) (ds : List D), H a = some (.ins (cl c) dx vs) ∧ RepAll K cl Z H (vs.map (·.2)) ds ∧ PyData.dict kvs = insD c ((vs.map (·.1)).zip ds)
  | _ => False
theorem OwnR.there {a : Addr} : ∀ {d : D}, OwnR K cl Z H a d → H a ≠ none
  | .list ds, h => by obtain ⟨vs, e, _⟩ := h; rw [e]; exact fun z => by cases z
  | .dict kvs, h => by
    rcases h with ⟨_, _, e, _⟩ | ⟨_, _, _, _, e, _⟩ <;> rw [e] <;> exact fun z => by cases z
theorem OwnR.ext {a : Addr} (x : Ext Y Z H Z' H') (k : ∀ o, H a = some o → H' a = some o) : ∀ {d : D}, OwnR K cl Z H a d → OwnR K cl Z' H' a d
  | .list ds, h => by obtain ⟨vs, e, r⟩ := h; exact ⟨vs, k _ e, r.ext x⟩
  | .dict kvs, h => by
    rcases h with ⟨vs, ds, e, r, q⟩ | ⟨c, dx, vs, ds, e, r, q⟩
    · exact .inl ⟨vs, ds, k _ e, r.ext x, q⟩
    · exact .inr ⟨c, dx, vs, ds, k _ e, r.ext x, q⟩
theorem OwnR.repS {a : Addr} : ∀ {ds : List D}, OwnR K cl Z H a (.list ds) → RepS K cl Z H (.ref a) (.list ds)
  | _, ⟨vs, e, r⟩ => ⟨a, vs, rfl, .inl ⟨trivial, e⟩, r⟩
/-- given up: it stays for good -/
theorem OwnR.rep {a : Addr} (z : Z a) : ∀ {d : D}, OwnR K cl Z H a d → Rep K cl Z H (.ref a) d
  | .list ds, h => by obtain ⟨vs, e, r⟩ := h; exact .lst (.inl ⟨z, e⟩) r
  | .dict kvs, h => by
    rcases h with ⟨vs, ds, e, r, rfl⟩ | ⟨c, dx, vs, ds, e, r, q⟩
    · exact .dct z e r
    · rw [q]; exact .ins z e r
/-- a slot -/
def SlR (K : PySem.W.Frag) (cl : Cl) (Y Z : Addr → Prop) (H : Hp) (x : Option (Option V)) : Sl → Prop
  | .un => True
  | .s d => ∃ v, x = some (some v) ∧ Rep K cl Z H v d
  | .o d => ∃ a, x = some (some (.ref a)) ∧ OwnR K cl Z H a d ∧ ¬ Z a ∧ ¬ Y a
  | .p d => ∃ a, x = some (some (.ref a)) ∧ OwnR K cl Z H a d ∧ ¬ Z a ∧ ¬ Y a
def Own (σ : L2.St) (ρ : En) (i : Nat) (a : Addr) : Prop := σ[i]? = some (some (.ref a)) ∧ ∃ d, ρ[i]? = some (.o d) ∨ ρ[i]? = some (.p d)
/-- a frame as it stands -/
structure Fit (K : PySem.W.Frag) (cl : Cl) (L : Nat → Addr → Prop) (Y Z : Addr → Prop) (H : Hp) (σ : L2.St) (ρ : En) : Prop where
  zd : ∀ a, Z a → H a ≠ none
  yd : ∀ a, Y a → H a ≠ none
  yz : ∀ a, Y a → ¬ Z a
  len : σ.length = ρ.length
  sl : ∀ (i : Nat) (x : Sl), ρ[i]? = some x → SlR K cl Y Z H σ[i]? x
  ap : ∀ (i j : Nat) (a : Addr), Own σ ρ i a → Own σ ρ j a → i = j
  ln : ∀ (i : Nat) (a : Addr), L i a ↔ (σ[i]? = some (some (.ref a)) ∧ ∃ d, ρ[i]? = some (.p d))
variable {σ : L2.St} {ρ ρ' : En} {L : Nat → Addr → Prop}
theorem Fit.own (g : Fit K cl L Y Z H σ ρ) {i : Nat} {a : Addr} (h : Own σ ρ i a) : H a ≠ none ∧ ¬ Z a ∧ ¬ Y a := by
  obtain ⟨e, d, q⟩ := h
  rcases q with q | q
  · obtain ⟨b, e1, e2, e3, e4⟩ := g.sl i _ q
    rw [e] at e1; cases e1
    exact ⟨e2.there, e3, e4⟩
  · obtain ⟨b, e1, e2, e3, e4⟩ := g.sl i _ q
    rw [e] at e1; cases e1
    exact ⟨e2.there, e3, e4⟩
theorem SlR.ext {x : Option (Option V)} (e : Ext Y Z H Z' H') (hz : ∀ a, x = some (some (.ref a)) → ¬ Z a → ¬ Y a → H a ≠ none → (∀ o, H a = some o → H' a = some o) ∧ ¬ Z' a ∧ ¬ Y' a) : ∀ {s : Sl}, SlR K cl Y Z H x s → SlR K cl Y' Z' H' x s
  | .un, _ => trivial
  | .s d, h => by obtain ⟨v, e1, e2⟩ := h; exact ⟨v, e1, e2.ext e⟩
  | .o d, h => by
    obtain ⟨a, e1, e2, e3, e4⟩ := h
    obtain ⟨k1, k2, k3⟩ := hz a e1 e3 e4 e2.there
    exact ⟨a, e1, e2.ext e k1, k2, k3⟩
  | .p d, h => by
    obtain ⟨a, e1, e2, e3, e4⟩ := h
    obtain ⟨k1, k2, k3⟩ := hz a e1 e3 e4 e2.there
    exact ⟨a, e1, e2.ext e k1, k2, k3⟩
/-- nothing was changed, something may have been added -/
theorem Fit.same (g : Fit K cl L Y Z H σ ρ) (k : Same H H') : Fit K cl L Y Z H' σ ρ := by
  have e : Ext Y Z H Z H' := .same k
  exact ⟨fun a z => e.dom a (g.zd a z), fun a z => e.dom a (g.yd a z), g.yz, g.len, fun i x h => (g.sl i x h).ext e fun a _ h1 h2 _ => ⟨k a, h1, h2⟩, g.ap, g.ln⟩
/-- what is new may be kept privately -/
theorem Fit.priv {a : Addr} (g : Fit K cl L Y Z H σ ρ) (k : Same H H') (n : H a = none) (t : H' a ≠ none) : Fit K cl L (fun b => Y b ∨ b = a) Z H' σ ρ := by
  have e : Ext Y Z H Z H' := .same k
  refine ⟨fun b z => e.dom b (g.zd b z), fun b z => ?_, fun b z hz => ?_, g.len, fun i x h => (g.sl i x h).ext e fun b _ h1 h2 h3 => ⟨k b, h1, fun z => ?_⟩, g.ap, g.ln⟩
  · rcases z with z | rfl
    · exact e.dom b (g.yd b z)
    · exact t
  · rcases z with z | rfl
    · exact g.yz b z hz
    · exact g.zd b hz n
  · rcases z with z | rfl
    · exact h2 z
    · exact h3 n
/-- what was private is given up -/
theorem Fit.give {a : Addr} (g : Fit K cl L (fun b => Y b ∨ b = a) Z H σ ρ) (ha : ¬ Y a) : Fit K cl L Y (fun b => Z b ∨ b = a) H σ ρ := by
  have e : Ext Y Z H (fun b => Z b ∨ b = a) H := .more fun _ h => .inl h
  have e' : Ext (fun b => Y b ∨ b = a) Z H (fun b => Z b ∨ b = a) H := .more fun _ h => .inl h
  refine ⟨fun b z => ?_, fun b z => g.yd b (.inl z), fun b z hz => ?_, g.len, fun i x h => (g.sl i x h).ext e' fun b _ h1 h2 h3 => ⟨fun _ q => q, fun z => ?_, fun z => h2 (.inl z)⟩, g.ap, g.ln⟩
  · rcases z with z | rfl
    · exact g.zd b z
    · exact g.yd b (.inr rfl)
  · rcases hz with hz | rfl
    · exact g.yz b (.inl z) hz
    · exact ha z
  · rcases z with z | rfl
    · exact h1 z
    · exact h2 (.inr rfl)
/-- .. or forgotten -/
theorem Fit.less (g : Fit K cl L Y Z H σ ρ) (h : ∀ a, Y' a → Y a) : Fit K cl L Y' Z H σ ρ :=
  ⟨g.zd, fun a z => g.yd a (h a z), fun a z => g.yz a (h a z), g.len, fun i x q => (g.sl i x q).ext .refl fun a _ h1 h2 _ => ⟨fun _ e => e, h1, fun z => h2 (h a z)⟩, g.ap, g.ln⟩
/-! ### readings and what they compute -/
def Sl.d : Sl → Option D
  | .s d => some d
  | .o d => some d
  | _ => none
variable (K cl)
/-- data -/
def SemV (t : TE) (f : En → Option (D × En)) : Prop := ∀ (L : Nat → Addr → Prop) (Y Z : Addr → Prop) (H : Hp) (σ : L2.St) (ρ : En) (d : D) (ρ' : En) (Q : VK), Fit K cl L Y Z H σ ρ → f ρ = some (d, ρ') →
  (∀ v Z' H', Ext Y Z H Z' H' → Fit K cl L Y Z' H' σ ρ' → Rep K cl Z' H' v d → Q v H') → t σ H Q
/-- data, or a new thing of its own -/
def SemE (t : TE) (f : En → Option (Sl × En)) : Prop := ∀ (L : Nat → Addr → Prop) (Y Z : Addr → Prop) (H : Hp) (σ : L2.St) (ρ : En) (r : Sl) (ρ' : En) (Q : VK), Fit K cl L Y Z H σ ρ → f ρ = some (r, ρ') →
  (∀ d, r = .s d → ∀ v Z' H', Ext Y Z H Z' H' → Fit K cl L Y Z' H' σ ρ' → Rep K cl Z' H' v d → Q v H') →
  (∀ d, r = .o d → ∀ a Z' H', Ext Y Z H Z' H' → ¬ Y a → Fit K cl L (fun b => Y b ∨ b = a) Z' H' σ ρ' → OwnR K cl Z' H' a d → Q (.ref a) H') →
  (∃ d, r.d = some d) → t σ H Q
def SemT (t : TT) (f : En → Option (Bool × En)) : Prop := ∀ (L : Nat → Addr → Prop) (Y Z : Addr → Prop) (H : Hp) (σ : L2.St) (ρ : En) (b : Bool) (ρ' : En) (Q : Bool → Hp → Prop), Fit K cl L Y Z H σ ρ → f ρ = some (b, ρ') →
  (∀ Z' H', Ext Y Z H Z' H' → Fit K cl L Y Z' H' σ ρ' → Q b H') → t σ H Q
variable {K cl}
/-- the functions' own bind -/
def bnd {α β : Type} (f : En → Option (α × En)) (g : α → En → Option (β × En)) : En → Option (β × En) := fun ρ => match f ρ with
  | some (a, ρ') => g a ρ'
  | none => none
theorem bnd_some {α β : Type} {f : En → Option (α × En)} {g : α → En → Option (β × En)} {ρ ρ2 : En} {b : β} (h : bnd f g ρ = some (b, ρ2)) : ∃ a ρ1, f ρ = some (a, ρ1) ∧ g a ρ1 = some (b, ρ2) := by
  unfold bnd at h
  split at h
  · exact ⟨_, _, by assumption, h⟩
  · cases h
def vf (f : En → Option (Sl × En)) : En → Option (D × En) := bnd f fun r ρ => match r.d with
  | some d => some (d, ρ)
  | none => none
def ef (f : En → Option (D × En)) : En → Option (Sl × En) := bnd f fun d ρ => some (.s d, ρ)
theorem SemE.v {t : TE} {f : En → Option (Sl × En)} (h : SemE K cl t f) : SemV K cl t (vf f) := by
  intro L Y Z H σ ρ d ρ' Q g e q
  obtain ⟨r, ρ1, e1, e2⟩ := bnd_some e
  split at e2
  · rename_i d' hd
    cases e2
    refine h L Y Z H σ ρ r ρ' Q g e1 (fun d' z v Z' H' x g' r' => ?_) (fun d' z a Z' H' x na g' r' => ?_) ⟨_, hd⟩
    · subst z; cases hd; exact q v Z' H' x g' r'
    · subst z; cases hd
      have g2 := g'.give na
      have e3 : Ext Y Z' H' (fun b => Z' b ∨ b = a) H' := .more fun _ h => .inl h
      exact q _ _ _ (x.trans e3) g2 ((r'.ext e3 fun _ z => z).rep (.inr rfl))
  · cases e2
theorem SemV.e {t : TE} {f : En → Option (D × En)} (h : SemV K cl t f) : SemE K cl t (ef f) := by
  intro L Y Z H σ ρ r ρ' Q g e q1 q2 q3
  obtain ⟨d, ρ1, e1, e2⟩ := bnd_some e
  cases e2
  exact h L Y Z H σ ρ d _ Q g e1 fun v Z' H' x g' r' => q1 d rfl v Z' H' x g' r'
end
end Pu
/-! The pure layer: expressions. -/
namespace Pu
open PySem PySem.Spec PyProof.Rows L2
section
variable {K : PySem.W.Frag} {cl : Cl} {L : Nat → Addr → Prop}
/-! ### values by rules -/
/-- what a rule by values is asked for -/
def VR (K : PySem.W.Frag) (cl : Cl) (Z : Addr → Prop) (H : Hp) (Q : VK) (r : Sl) : Prop :=
  (∀ d, r = .s d → ∀ v H', Same H H' → Rep K cl Z H' v d → Q v H') ∧ (∀ d, r = .o d → ∀ a H', Same H H' → H a = none → OwnR K cl Z H' a d → Q (.ref a) H')
variable (K cl)
def RS1 (r : V → Hp → VK → Prop) (g : D → Option D) : Prop := ∀ (Z : Addr → Prop) (H : Hp) x dx d (Q : VK), RepS K cl Z H x dx → g dx = some d → (∀ v H', Same H H' → Rep K cl Z H' v d → Q v H') → r x H Q
def RS2 (r : R2) (g : D → D → Option D) : Prop := ∀ (Z : Addr → Prop) (H : Hp) x y dx dy d (Q : VK), RepS K cl Z H x dx → RepS K cl Z H y dy → g dx dy = some d → (∀ v H', Same H H' → Rep K cl Z H' v d → Q v H') → r x y H Q
def RS2e (r : R2) (g : D → D → Option Sl) : Prop := ∀ (Z : Addr → Prop) (H : Hp) x y dx dy s (Q : VK), RepS K cl Z H x dx → RepS K cl Z H y dy → g dx dy = some s → VR K cl Z H Q s → r x y H Q
inductive RepSs (K : PySem.W.Frag) (cl : Cl) (Z : Addr → Prop) (H : Hp) : List V → List D → Prop
  | nil : RepSs K cl Z H [] []
  | cons {v : V} {vs : List V} {d : D} {ds : List D} : RepS K cl Z H v d → RepSs K cl Z H vs ds → RepSs K cl Z H (v :: vs) (d :: ds)
def RSn (r : List V → Hp → VK → Prop) (g : List D → Option D) : Prop := ∀ (Z : Addr → Prop) (H : Hp) xs ds d (Q : VK), RepSs K cl Z H xs ds → g ds = some d → (∀ v H', Same H H' → Rep K cl Z H' v d → Q v H') → r xs H Q
def RSne (r : List V → Hp → VK → Prop) (g : List D → Option Sl) : Prop := ∀ (Z : Addr → Prop) (H : Hp) xs ds s (Q : VK), RepSs K cl Z H xs ds → g ds = some s → VR K cl Z H Q s → r xs H Q
/-- values in a row -/
def SemL (t : TA) (f : En → Option (List D × En)) : Prop := ∀ (L : Nat → Addr → Prop) (Y Z : Addr → Prop) (H : Hp) (σ : L2.St) (ρ : En) (ds : List D) (ρ' : En) (Q : List V → Hp → Prop), Fit K cl L Y Z H σ ρ → f ρ = some (ds, ρ') →
  (∀ vs Z' H', Ext Y Z H Z' H' → Fit K cl L Y Z' H' σ ρ' → RepAll K cl Z' H' vs ds → Q vs H') → t σ H Q
variable {K cl}
def fNil : En → Option (List D × En) := fun ρ => some ([], ρ)
def fCons (f : En → Option (D × En)) (fs : En → Option (List D × En)) : En → Option (List D × En) := bnd f fun d => bnd fs fun ds ρ => some (d :: ds, ρ)
theorem sl_nil : SemL K cl tNil fNil := fun L Y Z H σ ρ ds ρ' Q g e q => by cases e; exact q _ _ _ .refl g .nil
theorem sl_cons {t : TE} {ts : TA} {f fs} (h : SemV K cl t f) (hs : SemL K cl ts fs) : SemL K cl (tCons t ts) (fCons f fs) := by
  intro L Y Z H σ ρ ds ρ' Q g e q
  obtain ⟨d, ρ1, e1, e2⟩ := bnd_some e
  obtain ⟨ds', ρ2, e3, e4⟩ := bnd_some e2
  cases e4
  refine h L Y Z H σ ρ d ρ1 _ g e1 fun v Z1 H1 x1 g1 r1 => hs L Y Z1 H1 σ ρ1 ds' _ _ g1 e3 fun vs Z2 H2 x2 g2 r2 => ?_
  exact q _ _ _ (x1.trans x2) g2 (.cons (r1.ext x2) r2)
/-- *e -/
def itemsD : D → Option (List D)
  | .list ds => some ds
  | .tuple ds => some ds
  | _ => none
def fStar (f : En → Option (D × En)) (fs : En → Option (List D × En)) : En → Option (List D × En) := bnd f fun d => bnd fs fun ds ρ => (itemsD d).bind fun es => some (es ++ ds, ρ)
/-! ### names, constants -/
def fVar (i : Nat) : En → Option (D × En) := fun ρ => match ρ[i]? with
  | some (.s d) => some (d, ρ)
  | some (.o d) => some (d, ρ.set i (.s d))
  | _ => none
def fMv (i : Nat) : En → Option (Sl × En) := fun ρ => match ρ[i]? with
  | some (.s d) => some (.s d, ρ)
  | some (.o d) => some (.o d, ρ.set i .un)
  | _ => none
theorem own_set {σ : L2.St} {ρ : En} {i j : Nat} {a : Addr} {x : Sl} (hx : ∀ d, x ≠ .o d ∧ x ≠ .p d) (h : Own σ (ρ.set i x) j a) : Own σ ρ j a ∧ j ≠ i := by
  obtain ⟨e, d, q⟩ := h
  by_cases hj : i = j
  · subst hj
    rw [List.getElem?_set_self'] at q
    cases z : ρ[i]? with
    | none => rw [z] at q; simp at q
    | some y =>
      rw [z] at q
      simp only [Functor.map, Option.map] at q
      rcases q with q | q
      · injection q with q; exact absurd q (hx d).1
      · injection q with q; exact absurd q (hx d).2
  · rw [List.getElem?_set_ne hj] at q
    exact ⟨⟨e, d, q⟩, fun z => hj z.symm⟩
theorem lent_set {σ : L2.St} {ρ : En} {i j : Nat} {b : Addr} {x : Sl} (hi : ∀ d, ρ[i]? ≠ some (.p d)) (hx : ∀ d, x ≠ .p d) : (σ[j]? = some (some (.ref b)) ∧ ∃ d, ρ[j]? = some (.p d)) ↔ (σ[j]? = some (some (.ref b)) ∧ ∃ d, (ρ.set i x)[j]? = some (.p d)) := by
  refine and_congr_right fun _ => ⟨fun ⟨d, q⟩ => ⟨d, ?_⟩, fun ⟨d, q⟩ => ⟨d, ?_⟩⟩
  · have ne : i ≠ j := by
      rintro rfl
      exact hi d q
    rw [List.getElem?_set_ne ne]
    exact q
  · have ne : i ≠ j := by
      rintro rfl
      rw [List.getElem?_set_self'] at q
      cases z : ρ[i]? with
      | none => rw [z] at q; simp at q
      | some y => rw [z] at q; simp at q; exact hx d q
    rw [List.getElem?_set_ne ne] at q
    exact q
theorem Fit.slot {Y Y' Yx Z Z' : Addr → Prop} {H H' : Hp} {σ : L2.St} {ρ : En} {i : Nat} {s : Sl} (g : Fit K cl L Y Z H σ ρ) (x : Ext Yx Z H Z' H') (hz : ∀ a, Own σ ρ i a → (∀ o, H a = some o → H' a = some o) ∧ ¬ Z' a ∧ ¬ Y' a)
    (h : ρ[i]? = some s) : SlR K cl Y' Z' H' σ[i]? s := by
  have q := g.sl i s h
  cases s with
  | un => trivial
  | s d => obtain ⟨v, e1, e2⟩ := q; exact ⟨v, e1, e2.ext x⟩
  | o d =>
    obtain ⟨a, e1, e2, e3, e4⟩ := q
    obtain ⟨k1, k2, k3⟩ := hz a ⟨e1, d, .inl h⟩
    exact ⟨a, e1, e2.ext x k1, k2, k3⟩
  | p d =>
    obtain ⟨a, e1, e2, e3, e4⟩ := q
    obtain ⟨k1, k2, k3⟩ := hz a ⟨e1, d, .inr h⟩
    exact ⟨a, e1, e2.ext x k1, k2, k3⟩
/-- what a slot held is given up or let go -/
theorem Fit.shed {Y Z : Addr → Prop} {H : Hp} {σ : L2.St} {ρ : En} {i : Nat} {d : D} (g : Fit K cl L Y Z H σ ρ) (hi : ρ[i]? = some (.o d)) :
    ∃ a, σ[i]? = some (some (.ref a)) ∧ Fit K cl L Y (fun b => Z b ∨ b = a) H σ (ρ.set i (.s d)) ∧ Rep K cl (fun b => Z b ∨ b = a) H (.ref a) d ∧ Fit K cl L (fun b => Y b ∨ b = a) Z H σ (ρ.set i .un) ∧ OwnR K cl Z H a d ∧ ¬ Y a := by
  obtain ⟨a, ha, e2, e3, e4⟩ := g.sl i _ hi
  have x : Ext Y Z H (fun b => Z b ∨ b = a) H := .more fun _ h => .inl h
  have r : Rep K cl (fun b => Z b ∨ b = a) H (.ref a) d := (e2.ext x fun _ z => z).rep (.inr rfl)
  have own : Own σ ρ i a := ⟨ha, d, .inl hi⟩
  have apart : ∀ j b, i ≠ j → Own σ ρ j b → b ≠ a := fun j b hj h z => hj (g.ap i j a own (z ▸ h))
  refine ⟨a, ha, ⟨fun b z => ?_, g.yd, fun b z hz => ?_, by rw [List.length_set]; exact g.len, fun j y h => ?_, fun j l b h1 h2 => ?_, fun j b => (g.ln j b).trans (lent_set (by rw [hi]; simp) (by simp))⟩, r, ⟨g.zd, fun b z => ?_, fun b z hz => ?_, by rw [List.length_set]; exact g.len, fun j y h => ?_, fun j l b h1 h2 => ?_, fun j b => (g.ln j b).trans (lent_set (by rw [hi]; simp) (by simp))⟩, e2, e4⟩
  · rcases z with z | rfl
    · exact g.zd b z
    · exact e2.there
  · rcases hz with hz | rfl
    · exact g.yz b z hz
    · exact e4 z
  · by_cases hj : i = j
    · subst hj
      rw [List.getElem?_set_self', hi] at h
      cases h
      exact ⟨_, ha, r⟩
    · rw [List.getElem?_set_ne hj] at h
      refine g.slot x (fun b hb => ⟨fun _ q => q, fun z => ?_, (g.own hb).2.2⟩) h
      rcases z with z | z
      · exact (g.own hb).2.1 z
      · exact apart j b hj hb z
  · exact g.ap j l b (own_set (fun _ => ⟨by simp, by simp⟩) h1).1 (own_set (fun _ => ⟨by simp, by simp⟩) h2).1
  · rcases z with z | rfl
    · exact g.yd b z
    · exact e2.there
  · rcases z with z | rfl
    · exact g.yz b z hz
    · exact e3 hz
  · by_cases hj : i = j
    · subst hj
      rw [List.getElem?_set_self', hi] at h
      cases h
      trivial
    · rw [List.getElem?_set_ne hj] at h
      refine g.slot (Ext.refl (Y := Y)) (fun b hb => ⟨fun _ q => q, (g.own hb).2.1, fun z => ?_⟩) h
      rcases z with z | z
      · exact (g.own hb).2.2 z
      · exact apart j b hj hb z
  · exact g.ap j l b (own_set (fun _ => ⟨by simp, by simp⟩) h1).1 (own_set (fun _ => ⟨by simp, by simp⟩) h2).1
theorem se_var (i : Nat) : SemV K cl (tVar i) (fVar i) := by
  intro L Y Z H σ ρ d ρ' Q g e q
  unfold fVar at e
  split at e
  · rename_i d' h
    cases e
    obtain ⟨v, e1, e2⟩ := g.sl i _ h
    exact ⟨v, e1, q v Z H .refl g e2⟩
  · rename_i d' h
    cases e
    obtain ⟨a, e1, g1, r1, _⟩ := g.shed h
    exact ⟨_, e1, q _ _ _ (.more fun _ h => .inl h) g1 r1⟩
  · cases e
theorem se_mv (i : Nat) : SemE K cl (tVar i) (fMv i) := by
  intro L Y Z H σ ρ r ρ' Q g e q1 q2 _
  unfold fMv at e
  split at e
  · rename_i d' h
    cases e
    obtain ⟨v, e1, e2⟩ := g.sl i _ h
    exact ⟨v, e1, q1 d' rfl v Z H .refl g e2⟩
  · rename_i d' h
    cases e
    obtain ⟨a, e1, _, _, g1, o1, n1⟩ := g.shed h
    exact ⟨_, e1, q2 d' rfl a Z H .refl n1 g1 o1⟩
  · cases e
def fC (d : D) : En → Option (D × En) := fun ρ => some (d, ρ)
theorem se_c {v : V} {d : D} (h : ∀ Z H, Rep K cl Z H v d) : SemV K cl (tC v) (fC d) := fun L Y Z H σ ρ d' ρ' Q g e q => by cases e; exact q v Z H .refl g (h Z H)
theorem se_int {i : Int} : SemV K cl (tC (.int i)) (fC (.int i)) := se_c fun _ _ => .int i
theorem se_bl {b : Bool} : SemV K cl (tC (.bl b)) (fC (.bool b)) := se_c fun _ _ => .bl b
theorem se_str {x : Str} : SemV K cl (tC (.str x)) (fC (.str x)) := se_c fun _ _ => .str x
theorem se_non : SemV K cl (tC .non) (fC .none) := se_c fun _ _ => .non
/-! ### operands: a name is looked up when it is used -/
inductive Lv
  | v (d : D)
  | b (i : Nat)
def ownD (ρ : En) (i : Nat) : Option D := match ρ[i]? with
  | some (.o d) => some d
  | some (.p d) => some d
  | _ => none
def look (ρ : En) : Lv → Option D
  | .v d => some d
  | .b i => ownD ρ i
def LvR (K : PySem.W.Frag) (cl : Cl) (σ : L2.St) (Z : Addr → Prop) (H : Hp) (v : V) : Lv → Prop
  | .v d => Rep K cl Z H v d
  | .b i => σ[i]? = some (some v)
theorem LvR.ext {Y Z Z' : Addr → Prop} {H H' : Hp} {σ : L2.St} {v : V} {l : Lv} (x : Ext Y Z H Z' H') (h : LvR K cl σ Z H v l) : LvR K cl σ Z' H' v l := by
  cases l with
  | v d => exact Rep.ext x h
  | b i => exact h
theorem ownD_at {L : Nat → Addr → Prop} {Y Z : Addr → Prop} {H : Hp} {σ : L2.St} {ρ : En} {i : Nat} {d : D} (g : Fit K cl L Y Z H σ ρ) (h : ownD ρ i = some d) : ∃ a, Own σ ρ i a ∧ OwnR K cl Z H a d := by
  unfold ownD at h
  split at h
  · rename_i d' e
    cases h
    obtain ⟨a, e1, e2, _⟩ := g.sl i _ e
    exact ⟨a, ⟨e1, d, .inl e⟩, e2⟩
  · rename_i d' e
    cases h
    obtain ⟨a, e1, e2, _⟩ := g.sl i _ e
    exact ⟨a, ⟨e1, d, .inr e⟩, e2⟩
  · cases h
/-- own dicts and instances are not looked at in this way -/
def lookS (ρ : En) : Lv → Option D
  | .v d => some d
  | .b i => match ownD ρ i with
    | some (.list ds) => some (.list ds)
    | _ => none
theorem LvR.look {Y Z : Addr → Prop} {H : Hp} {σ : L2.St} {ρ : En} {v : V} {l : Lv} {d : D} (g : Fit K cl L Y Z H σ ρ) (h : LvR K cl σ Z H v l) (e : lookS ρ l = some d) : RepS K cl Z H v d := by
  cases l with
  | v d' => cases e; exact Rep.s h
  | b i =>
    simp only [lookS] at e
    split at e
    · rename_i ds e1
      cases e
      obtain ⟨a, o, r⟩ := ownD_at g e1
      have h' : σ[i]? = some (some v) := h
      rw [o.1] at h'
      cases h'
      exact r.repS
    · cases e
variable (K cl)
def SemW (t : TE) (f : En → Option (Lv × En)) : Prop := ∀ (L : Nat → Addr → Prop) (Y Z : Addr → Prop) (H : Hp) (σ : L2.St) (ρ : En) (l : Lv) (ρ' : En) (Q : VK), Fit K cl L Y Z H σ ρ → f ρ = some (l, ρ') →
  (∀ v Z' H', Ext Y Z H Z' H' → Fit K cl L Y Z' H' σ ρ' → LvR K cl σ Z' H' v l → Q v H') → t σ H Q
def SemLw (t : TA) (f : En → Option (List Lv × En)) : Prop := ∀ (L : Nat → Addr → Prop) (Y Z : Addr → Prop) (H : Hp) (σ : L2.St) (ρ : En) (ls : List Lv) (ρ' : En) (Q : List V → Hp → Prop), Fit K cl L Y Z H σ ρ → f ρ = some (ls, ρ') →
  (∀ vs Z' H', Ext Y Z H Z' H' → Fit K cl L Y Z' H' σ ρ' → Paired (fun v l => LvR K cl σ Z' H' v l) vs ls → Q vs H') → t σ H Q
variable {K cl}
def wf (f : En → Option (D × En)) : En → Option (Lv × En) := bnd f fun d ρ => some (.v d, ρ)
def wNm (i : Nat) : En → Option (Lv × En) := fun ρ => match ρ[i]? with
  | some (.s d) => some (.v d, ρ)
  | some (.o _) => some (.b i, ρ)
  | some (.p _) => some (.b i, ρ)
  | _ => none
theorem SemV.w {t f} (h : SemV K cl t f) : SemW K cl t (wf f) := by
  intro L Y Z H σ ρ l ρ' Q g e q
  obtain ⟨d, ρ1, e1, e2⟩ := bnd_some e
  cases e2
  exact h L Y Z H σ ρ d _ Q g e1 fun v Z' H' x g' r => q v Z' H' x g' r
theorem sw_nm (i : Nat) : SemW K cl (tVar i) (wNm i) := by
  intro L Y Z H σ ρ l ρ' Q g e q
  unfold wNm at e
  split at e
  · rename_i d h
    cases e
    obtain ⟨v, e1, e2⟩ := g.sl i _ h
    exact ⟨v, e1, q v Z H .refl g e2⟩
  · rename_i d h
    cases e
    obtain ⟨a, e1, _⟩ := g.sl i _ h
    exact ⟨_, e1, q _ Z H .refl g e1⟩
  · rename_i d h
    cases e
    obtain ⟨a, e1, _⟩ := g.sl i _ h
    exact ⟨_, e1, q _ Z H .refl g e1⟩
  · cases e
def wNil : En → Option (List Lv × En) := fun ρ => some ([], ρ)
def wCons (f : En → Option (Lv × En)) (fs : En → Option (List Lv × En)) : En → Option (List Lv × En) := bnd f fun l => bnd fs fun ls ρ => some (l :: ls, ρ)
theorem sw_nil : SemLw K cl tNil wNil := fun L Y Z H σ ρ ls ρ' Q g e q => by cases e; exact q _ _ _ .refl g .nil
theorem pairs_ext {Y Z Z' : Addr → Prop} {H H' : Hp} {σ : L2.St} (x : Ext Y Z H Z' H') : ∀ {vs : List V} {ls : List Lv}, Paired (fun v l => LvR K cl σ Z H v l) vs ls → Paired (fun v l => LvR K cl σ Z' H' v l) vs ls
  | _, _, .nil => .nil
  | _, _, .cons r t => .cons (LvR.ext x r) (pairs_ext x t)
theorem sw_cons {t : TE} {ts : TA} {f fs} (h : SemW K cl t f) (hs : SemLw K cl ts fs) : SemLw K cl (tCons t ts) (wCons f fs) := by
  intro L Y Z H σ ρ ds ρ' Q g e q
  obtain ⟨d, ρ1, e1, e2⟩ := bnd_some e
  obtain ⟨ds', ρ2, e3, e4⟩ := bnd_some e2
  cases e4
  refine h L Y Z H σ ρ d ρ1 _ g e1 fun v Z1 H1 x1 g1 r1 => hs L Y Z1 H1 σ ρ1 ds' _ _ g1 e3 fun vs Z2 H2 x2 g2 r2 => ?_
  exact q _ _ _ (x1.trans x2) g2 (.cons (LvR.ext x2 r1) r2)
def looks (ρ : En) : List Lv → Option (List D)
  | [] => some []
  | l :: ls => match lookS ρ l, looks ρ ls with
    | some d, some ds => some (d :: ds)
    | _, _ => none
theorem looks_ok {Y Z : Addr → Prop} {H : Hp} {σ : L2.St} {ρ : En} (g : Fit K cl L Y Z H σ ρ) : ∀ {vs : List V} {ls : List Lv} {ds : List D}, Paired (fun v l => LvR K cl σ Z H v l) vs ls → looks ρ ls = some ds → RepSs K cl Z H vs ds
  | _, _, _, .nil, e => by cases e; exact .nil
  | _, _, _, .cons r t, e => by
    simp only [looks] at e
    split at e
    · rename_i d ds e1 e2
      cases e
      exact .cons (LvR.look g r e1) (looks_ok g t e2)
    · cases e
/-! ### operators -/
theorem omap {α β : Type} {o : Option α} {f : α → β} {b : β} (h : o.map f = some b) : ∃ a, o = some a ∧ f a = b := by
  cases o with
  | none => cases h
  | some a => exact ⟨a, rfl, Option.some.inj h⟩
theorem obnd {α β : Type} {o : Option α} {f : α → Option β} {b : β} (h : o.bind f = some b) : ∃ a, o = some a ∧ f a = some b := by
  cases o with
  | none => cases h
  | some a => exact ⟨a, rfl, h⟩
/-- what two operands are, when both have come -/
def two {α : Type} (ρ : En) (a b : Lv) (g : D → D → Option α) : Option α := match lookS ρ a, lookS ρ b with
  | some x, some y => g x y
  | _, _ => none
theorem two_some {α : Type} {ρ : En} {a b : Lv} {g : D → D → Option α} {r : α} (h : two ρ a b g = some r) : ∃ x y, lookS ρ a = some x ∧ lookS ρ b = some y ∧ g x y = some r := by
  unfold two at h
  split at h
  · exact ⟨_, _, by assumption, by assumption, h⟩
  · cases h
def fOp (g : D → D → Option D) (f1 f2 : En → Option (Lv × En)) : En → Option (D × En) := bnd f1 fun a => bnd f2 fun b ρ => (two ρ a b g).map fun d => (d, ρ)
def fOpE (g : D → D → Option Sl) (f1 f2 : En → Option (Lv × En)) : En → Option (Sl × En) := bnd f1 fun a => bnd f2 fun b ρ => (two ρ a b g).map fun d => (d, ρ)
def fUn (g : D → Option D) (f1 : En → Option (Lv × En)) : En → Option (D × En) := bnd f1 fun a ρ => ((lookS ρ a).bind g).map fun d => (d, ρ)
theorem se_op {r : R2} {g t1 t2 f1 f2} (hr : RS2 K cl r g) (h1 : SemW K cl t1 f1) (h2 : SemW K cl t2 f2) : SemV K cl (tOp r t1 t2) (fOp g f1 f2) := by
  intro L Y Z H σ ρ d ρ' Q G e q
  obtain ⟨a, ρ1, e1, e2⟩ := bnd_some e
  obtain ⟨b, ρ2, e3, e4⟩ := bnd_some e2
  obtain ⟨d', e5, e6⟩ := omap e4
  cases e6
  obtain ⟨dx, dy, ex, ey, e5⟩ := two_some e5
  refine h1 L Y Z H σ ρ a ρ1 _ G e1 fun v Z1 H1 x1 g1 r1 => h2 L Y Z1 H1 σ ρ1 b _ _ g1 e3 fun w Z2 H2 x2 g2 r2 => ?_
  refine hr Z2 H2 v w dx dy d Q (LvR.look g2 (LvR.ext x2 r1) ex) (LvR.look g2 r2 ey) e5 fun u H3 k3 r3 => ?_
  exact q u Z2 H3 ((x1.trans x2).trans (.same k3)) (g2.same k3) r3
theorem se_opE {r : R2} {g t1 t2 f1 f2} (hr : RS2e K cl r g) (h1 : SemW K cl t1 f1) (h2 : SemW K cl t2 f2) : SemE K cl (tOp r t1 t2) (fOpE g f1 f2) := by
  intro L Y Z H σ ρ s ρ' Q G e q q' _
  obtain ⟨a, ρ1, e1, e2⟩ := bnd_some e
  obtain ⟨b, ρ2, e3, e4⟩ := bnd_some e2
  obtain ⟨s', e5, e6⟩ := omap e4
  cases e6
  obtain ⟨dx, dy, ex, ey, e5⟩ := two_some e5
  refine h1 L Y Z H σ ρ a ρ1 _ G e1 fun v Z1 H1 x1 g1 r1 => h2 L Y Z1 H1 σ ρ1 b _ _ g1 e3 fun w Z2 H2 x2 g2 r2 => ?_
  refine hr Z2 H2 v w dx dy s Q (LvR.look g2 (LvR.ext x2 r1) ex) (LvR.look g2 r2 ey) e5 ⟨fun d hd u H3 k3 r3 => ?_, fun d hd p H3 k3 np r3 => ?_⟩
  · exact q d hd u Z2 H3 ((x1.trans x2).trans (.same k3)) (g2.same k3) r3
  · exact q' d hd p Z2 H3 ((x1.trans x2).trans (.same k3)) (fun y => g2.yd p y np) (g2.priv k3 np r3.there) r3
theorem se_un {r : V → Hp → VK → Prop} {g t1 f1} (hr : RS1 K cl r g) (h1 : SemW K cl t1 f1) : SemV K cl (tUn r t1) (fUn g f1) := by
  intro L Y Z H σ ρ d ρ' Q G e q
  obtain ⟨a, ρ1, e1, e4⟩ := bnd_some e
  obtain ⟨d', e5, e6⟩ := omap e4
  cases e6
  obtain ⟨dx, ex, e5⟩ := obnd e5
  refine h1 L Y Z H σ ρ a _ _ G e1 fun v Z1 H1 x1 g1 r1 => hr Z1 H1 v dx d Q (LvR.look g1 r1 ex) e5 fun u H3 k3 r3 => ?_
  exact q u Z1 H3 (x1.trans (.same k3)) (g1.same k3) r3
/-- a call of what is given values -/
def fCB (g : List D → Option D) (fs : En → Option (List Lv × En)) : En → Option (D × En) := bnd fs fun ls ρ => ((looks ρ ls).bind g).map fun d => (d, ρ)
def fCBE (g : List D → Option Sl) (fs : En → Option (List Lv × En)) : En → Option (Sl × En) := bnd fs fun ls ρ => ((looks ρ ls).bind g).map fun d => (d, ρ)
theorem se_cb {r : List V → Hp → VK → Prop} {g ts fs} (hr : RSn K cl r g) (h1 : SemLw K cl ts fs) : SemV K cl (tCB r ts) (fCB g fs) := by
  intro L Y Z H σ ρ d ρ' Q G e q
  obtain ⟨a, ρ1, e1, e4⟩ := bnd_some e
  obtain ⟨d', e5, e6⟩ := omap e4
  cases e6
  obtain ⟨ds, ex, e5⟩ := obnd e5
  refine h1 L Y Z H σ ρ a _ _ G e1 fun v Z1 H1 x1 g1 r1 => hr Z1 H1 v ds d Q (looks_ok g1 r1 ex) e5 fun u H3 k3 r3 => ?_
  exact q u Z1 H3 (x1.trans (.same k3)) (g1.same k3) r3
theorem se_cbE {r : List V → Hp → VK → Prop} {g ts fs} (hr : RSne K cl r g) (h1 : SemLw K cl ts fs) : SemE K cl (tCB r ts) (fCBE g fs) := by
  intro L Y Z H σ ρ s ρ' Q G e q q' _
  obtain ⟨a, ρ1, e1, e4⟩ := bnd_some e
  obtain ⟨d', e5, e6⟩ := omap e4
  cases e6
  obtain ⟨ds, ex, e5⟩ := obnd e5
  refine h1 L Y Z H σ ρ a _ _ G e1 fun v Z1 H1 x1 g1 r1 => hr Z1 H1 v ds s Q (looks_ok g1 r1 ex) e5 ⟨fun d hd u H3 k3 r3 => ?_, fun d hd p H3 k3 np r3 => ?_⟩
  · exact q d hd u Z1 H3 (x1.trans (.same k3)) (g1.same k3) r3
  · exact q' d hd p Z1 H3 (x1.trans (.same k3)) (fun y => g1.yd p y np) (g1.priv k3 np r3.there) r3
/-! ### displays -/
noncomputable def fTup (fs : En → Option (List D × En)) : En → Option (D × En) := bnd fs fun ds ρ => if gd (ds.length ≤ sizeLine) = true then some (.tuple ds, ρ) else none
noncomputable def fLst (fs : En → Option (List D × En)) : En → Option (Sl × En) := bnd fs fun ds ρ => if gd (ds.length ≤ sizeLine) = true then some (.o (.list ds), ρ) else none
theorem se_tup {ts fs} (h1 : SemL K cl ts fs) : SemV K cl (tTup ts) (fTup fs) := by
  intro L Y Z H σ ρ d ρ' Q G e q
  obtain ⟨ds, ρ1, e1, e4⟩ := bnd_some e
  split at e4
  · rename_i hz
    have hz := gd_iff.mp hz
    cases e4
    refine h1 L Y Z H σ ρ ds _ _ G e1 fun vs Z1 H1 x1 g1 r1 => ⟨by rw [r1.length]; exact hz, fun p np => ?_⟩
    have k : Same H1 (upd H1 p (.tup vs)) := fun b o e => by rw [upd_ne (ne_of_none e np)]; exact e
    exact q _ Z1 _ (x1.trans (.same k)) (g1.same k) (.tup (.of upd_same) (r1.ext (Ext.same (Y := Y) k)))
  · cases e4
theorem se_lst {ts fs} (h1 : SemL K cl ts fs) : SemE K cl (tLst ts) (fLst fs) := by
  intro L Y Z H σ ρ s ρ' Q G e _ q _
  obtain ⟨ds, ρ1, e1, e4⟩ := bnd_some e
  split at e4
  · rename_i hz
    have hz := gd_iff.mp hz
    cases e4
    refine h1 L Y Z H σ ρ ds _ _ G e1 fun vs Z1 H1 x1 g1 r1 => ⟨by rw [r1.length]; exact hz, fun p np => ?_⟩
    have k : Same H1 (upd H1 p (.lst vs)) := fun b o e => by rw [upd_ne (ne_of_none e np)]; exact e
    exact q _ rfl p Z1 _ (x1.trans (.same k)) (fun y => g1.yd p y np) (g1.priv k np (by rw [upd_same]; simp)) ⟨vs, upd_same, r1.ext (Ext.same (Y := Y) k)⟩
  · cases e4
/-! ### truth, tests -/
noncomputable def tru : D → Option Bool
  | .none => some false
  | .bool b => some b
  | .int i => some (i != 0)
  | .str x => if gd (x.length ≤ sizeLine) = true then some ((x.length : Int) != 0) else none
  | .list ds => some (!ds.isEmpty)
  | .tuple ds => some (!ds.isEmpty)
  | _ => none
theorem isEmpty_of_len {α β : Type} {a : List α} {b : List β} (h : a.length = b.length) : a.isEmpty = b.isEmpty := by
  cases a <;> cases b <;> simp at h ⊢
theorem tru_ok' {Z : Addr → Prop} {H : Hp} {v : V} {d : D} {k : Bool} (r : RepS K cl Z H v d) (e : tru d = some k) : TruV K v H k := by
  cases d with
  | list ds =>
    obtain ⟨a, xs, rfl, ls, ra⟩ := r
    cases e
    exact .inl ⟨_, ls.sq, by rw [isEmpty_of_len ra.length]⟩
  | none => cases r; cases e; rfl
  | bool b => cases r; cases e; rfl
  | int i => cases r; cases e; rfl
  | str x =>
    cases r
    simp only [tru] at e
    split at e
    · rename_i hz; cases e; exact ⟨gd_iff.mp hz, rfl⟩
    · cases e
  | tuple ds =>
    cases r with
    | tup h a => cases e; exact .inr (.inl ⟨_, h, by rw [isEmpty_of_len a.length]⟩)
  | dict kvs => cases e
noncomputable def fTru (f : En → Option (Lv × En)) : En → Option (Bool × En) := bnd f fun l ρ => ((lookS ρ l).bind tru).map fun k => (k, ρ)
theorem st_truth {t f} (h : SemW K cl t f) : SemT K cl (fun σ H Q => t σ H fun x H' => ∃ k, TruV K x H' k ∧ Q k H') (fTru f) := by
  intro L Y Z H σ ρ b ρ' Q G e q
  obtain ⟨l, ρ1, e1, e4⟩ := bnd_some e
  obtain ⟨k, e5, e6⟩ := omap e4
  cases e6
  obtain ⟨d, ex, e5⟩ := obnd e5
  exact h L Y Z H σ ρ l _ _ G e1 fun v Z1 H1 x1 g1 r1 => ⟨b, tru_ok' (LvR.look g1 r1 ex) e5, q Z1 H1 x1 g1⟩
def boolD : D → Option Bool
  | .bool b => some b
  | _ => none
def fTst (f : En → Option (D × En)) : En → Option (Bool × En) := bnd f fun d ρ => (boolD d).map fun k => (k, ρ)
theorem st_test {t f} (h : SemV K cl t f) : SemT K cl (tTest t) (fTst f) := by
  intro L Y Z H σ ρ b ρ' Q G e q
  obtain ⟨d, ρ1, e1, e4⟩ := bnd_some e
  obtain ⟨k, e5, e6⟩ := omap e4
  cases e6
  refine h L Y Z H σ ρ d _ _ G e1 fun v Z1 H1 x1 g1 r1 => ?_
  cases r1 with
  | bl c => cases e5; exact ⟨b, rfl, q Z1 H1 x1 g1⟩
  | _ => cases e5
def fAndS (f1 f2 : En → Option (Bool × En)) : En → Option (Bool × En) := bnd f1 fun a ρ => if a = true then f2 ρ else some (false, ρ)
def fOrS (f1 f2 : En → Option (Bool × En)) : En → Option (Bool × En) := bnd f1 fun a ρ => if a = true then some (true, ρ) else f2 ρ
def fNotS (f1 : En → Option (Bool × En)) : En → Option (Bool × En) := bnd f1 fun a ρ => some (!a, ρ)
theorem st_and {t1 t2 f1 f2} (h1 : SemT K cl t1 f1) (h2 : SemT K cl t2 f2) : SemT K cl (tAnd t1 t2) (fAndS f1 f2) := by
  intro L Y Z H σ ρ b ρ' Q G e q
  obtain ⟨a, ρ1, e1, e2⟩ := bnd_some e
  refine h1 L Y Z H σ ρ a ρ1 _ G e1 fun Z1 H1 x1 g1 => ?_
  split at e2
  · rename_i ha
    rw [if_pos ha]
    exact h2 L Y Z1 H1 σ ρ1 b ρ' _ g1 e2 fun Z2 H2 x2 g2 => q _ _ (x1.trans x2) g2
  · rename_i ha
    rw [if_neg ha]
    cases e2
    exact q _ _ x1 g1
theorem st_or {t1 t2 f1 f2} (h1 : SemT K cl t1 f1) (h2 : SemT K cl t2 f2) : SemT K cl (tOr t1 t2) (fOrS f1 f2) := by
  intro L Y Z H σ ρ b ρ' Q G e q
  obtain ⟨a, ρ1, e1, e2⟩ := bnd_some e
  refine h1 L Y Z H σ ρ a ρ1 _ G e1 fun Z1 H1 x1 g1 => ?_
  split at e2
  · rename_i ha
    rw [if_pos ha]
    cases e2
    exact q _ _ x1 g1
  · rename_i ha
    rw [if_neg ha]
    exact h2 L Y Z1 H1 σ ρ1 b ρ' _ g1 e2 fun Z2 H2 x2 g2 => q _ _ (x1.trans x2) g2
theorem st_not {t1 f1} (h1 : SemT K cl t1 f1) : SemT K cl (tNot t1) (fNotS f1) := by
  intro L Y Z H σ ρ b ρ' Q G e q
  obtain ⟨a, ρ1, e1, e2⟩ := bnd_some e
  cases e2
  exact h1 L Y Z H σ ρ a _ _ G e1 fun Z1 H1 x1 g1 => q _ _ x1 g1
def fIf {α : Type} (c : En → Option (Bool × En)) (f1 f2 : En → Option (α × En)) : En → Option (α × En) := bnd c fun b ρ => if b = true then f1 ρ else f2 ρ
theorem se_if {c t1 t2 fc f1 f2} (hc : SemT K cl c fc) (h1 : SemE K cl t1 f1) (h2 : SemE K cl t2 f2) : SemE K cl (tIf c t1 t2) (fIf fc f1 f2) := by
  intro L Y Z H σ ρ s ρ' Q G e q q' q3
  obtain ⟨b, ρ1, e1, e2⟩ := bnd_some e
  refine hc L Y Z H σ ρ b ρ1 _ G e1 fun Z1 H1 x1 g1 => ?_
  split at e2
  · rename_i ha
    rw [if_pos ha]
    exact h1 L Y Z1 H1 σ ρ1 s ρ' Q g1 e2 (fun d hd v Z2 H2 x2 g2 r2 => q d hd v Z2 H2 (x1.trans x2) g2 r2) (fun d hd a Z2 H2 x2 n2 g2 r2 => q' d hd a Z2 H2 (x1.trans x2) n2 g2 r2) q3
  · rename_i ha
    rw [if_neg ha]
    exact h2 L Y Z1 H1 σ ρ1 s ρ' Q g1 e2 (fun d hd v Z2 H2 x2 g2 r2 => q d hd v Z2 H2 (x1.trans x2) g2 r2) (fun d hd a Z2 H2 x2 n2 g2 r2 => q' d hd a Z2 H2 (x1.trans x2) n2 g2 r2) q3
theorem se_ifV {c t1 t2 fc f1 f2} (hc : SemT K cl c fc) (h1 : SemV K cl t1 f1) (h2 : SemV K cl t2 f2) : SemV K cl (tIf c t1 t2) (fIf fc f1 f2) := by
  intro L Y Z H σ ρ s ρ' Q G e q
  obtain ⟨b, ρ1, e1, e2⟩ := bnd_some e
  refine hc L Y Z H σ ρ b ρ1 _ G e1 fun Z1 H1 x1 g1 => ?_
  split at e2
  · rename_i ha
    rw [if_pos ha]
    exact h1 L Y Z1 H1 σ ρ1 s ρ' Q g1 e2 (fun v Z2 H2 x2 g2 r2 => q v Z2 H2 (x1.trans x2) g2 r2)
  · rename_i ha
    rw [if_neg ha]
    exact h2 L Y Z1 H1 σ ρ1 s ρ' Q g1 e2 (fun v Z2 H2 x2 g2 r2 => q v Z2 H2 (x1.trans x2) g2 r2)
/-- and, or, not as values -/
noncomputable def fAndV (f1 f2 : En → Option (D × En)) : En → Option (D × En) := bnd f1 fun d ρ => match tru d with
  | some true => f2 ρ
  | some false => some (d, ρ)
  | none => none
noncomputable def fOrV (f1 f2 : En → Option (D × En)) : En → Option (D × En) := bnd f1 fun d ρ => match tru d with
  | some true => some (d, ρ)
  | some false => f2 ρ
  | none => none
noncomputable def fNotV (f1 : En → Option (D × En)) : En → Option (D × En) := bnd f1 fun d ρ => (tru d).map fun k => (.bool !k, ρ)
theorem se_and {t1 t2 f1 f2} (h1 : SemV K cl t1 f1) (h2 : SemV K cl t2 f2) : SemV K cl (tAndT K t1 t2) (fAndV f1 f2) := by
  intro L Y Z H σ ρ d ρ' Q G e q
  obtain ⟨a, ρ1, e1, e2⟩ := bnd_some e
  refine h1 L Y Z H σ ρ a ρ1 _ G e1 fun v Z1 H1 x1 g1 r1 => ?_
  split at e2
  · rename_i ha
    exact ⟨true, tru_ok' r1.s ha, (if_pos rfl).mpr (h2 L Y Z1 H1 σ ρ1 d ρ' _ g1 e2 fun w Z2 H2 x2 g2 r2 => q _ _ _ (x1.trans x2) g2 r2)⟩
  · rename_i ha
    cases e2
    exact ⟨false, tru_ok' r1.s ha, (if_neg (by decide)).mpr (q _ _ _ x1 g1 r1)⟩
  · cases e2
theorem se_or {t1 t2 f1 f2} (h1 : SemV K cl t1 f1) (h2 : SemV K cl t2 f2) : SemV K cl (tOrT K t1 t2) (fOrV f1 f2) := by
  intro L Y Z H σ ρ d ρ' Q G e q
  obtain ⟨a, ρ1, e1, e2⟩ := bnd_some e
  refine h1 L Y Z H σ ρ a ρ1 _ G e1 fun v Z1 H1 x1 g1 r1 => ?_
  split at e2
  · rename_i ha
    cases e2
    exact ⟨true, tru_ok' r1.s ha, (if_pos rfl).mpr (q _ _ _ x1 g1 r1)⟩
  · rename_i ha
    exact ⟨false, tru_ok' r1.s ha, (if_neg (by decide)).mpr (h2 L Y Z1 H1 σ ρ1 d ρ' _ g1 e2 fun w Z2 H2 x2 g2 r2 => q _ _ _ (x1.trans x2) g2 r2)⟩
  · cases e2
theorem se_not {t1 f1} (h1 : SemV K cl t1 f1) : SemV K cl (tNotT K t1) (fNotV f1) := by
  intro L Y Z H σ ρ d ρ' Q G e q
  obtain ⟨a, ρ1, e1, e2⟩ := bnd_some e
  obtain ⟨k, e5, e6⟩ := omap e2
  cases e6
  exact h1 L Y Z H σ ρ a _ _ G e1 fun v Z1 H1 x1 g1 r1 => ⟨k, tru_ok' r1.s e5, q _ _ _ x1 g1 (.bl _)⟩
/-- a < b < c -/
def fChain (g g' : D → D → Option D) (f1 f2 f3 : En → Option (Lv × En)) : En → Option (D × En) := bnd f1 fun a => bnd f2 fun b ρ => match two ρ a b g with
  | some (.bool true) => (bnd f3 fun c ρ => (two ρ b c g').map fun d => (d, ρ)) ρ
  | some (.bool false) => some (.bool false, ρ)
  | _ => none
theorem se_chain {r r' : R2} {g g' t1 t2 t3 f1 f2 f3} (hr : RS2 K cl r g) (hr' : RS2 K cl r' g') (h1 : SemW K cl t1 f1) (h2 : SemW K cl t2 f2) (h3 : SemW K cl t3 f3) : SemV K cl (tChain r r' t1 t2 t3) (fChain g g' f1 f2 f3) := by
  intro L Y Z H σ ρ d ρ' Q G e q
  obtain ⟨a, ρ1, e1, e2⟩ := bnd_some e
  obtain ⟨b, ρ2, e3, e4⟩ := bnd_some e2
  refine h1 L Y Z H σ ρ a ρ1 _ G e1 fun v Z1 H1 x1 g1 r1 => h2 L Y Z1 H1 σ ρ1 b _ _ g1 e3 fun w Z2 H2 x2 g2 r2 => ?_
  split at e4
  · rename_i ha
    obtain ⟨dx, dy, ex, ey, ha⟩ := two_some ha
    refine hr Z2 H2 v w dx dy _ _ (LvR.look g2 (LvR.ext x2 r1) ex) (LvR.look g2 r2 ey) ha fun u H3 k3 r3 => ?_
    cases r3
    refine ⟨true, rfl, (if_pos rfl).mpr ?_⟩
    obtain ⟨c, ρ3, e5, e6⟩ := bnd_some e4
    obtain ⟨d', e7, e8⟩ := omap e6
    cases e8
    obtain ⟨dy', dz, ey', ez, e7⟩ := two_some e7
    have x3 : Ext Y Z2 H2 Z2 H3 := .same k3
    refine h3 L Y Z2 H3 σ ρ2 c _ _ (g2.same k3) e5 fun y Z4 H4 x4 g4 r4 => hr' Z4 H4 w y dy' dz d Q (LvR.look g4 (LvR.ext x4 (LvR.ext x3 r2)) ey') (LvR.look g4 r4 ez) e7 fun u5 H5 k5 r5 => ?_
    exact q _ _ _ ((((x1.trans x2).trans x3).trans x4).trans (.same k5)) (g4.same k5) r5
  · rename_i ha
    cases e4
    obtain ⟨dx, dy, ex, ey, ha⟩ := two_some ha
    refine hr Z2 H2 v w dx dy _ _ (LvR.look g2 (LvR.ext x2 r1) ex) (LvR.look g2 r2 ey) ha fun u H3 k3 r3 => ?_
    cases r3
    exact ⟨false, rfl, (if_neg (by decide)).mpr (q _ _ _ ((x1.trans x2).trans (.same k3)) (g2.same k3) (.bl _))⟩
  · cases e4
end
end Pu
/-! The pure layer: statements, loops. -/
namespace Pu
open PySem PySem.Spec PyProof.Rows L2
inductive Fl
  | nx
  | bk
  | ct
  | rt (r : Sl)
abbrev FS := En → Option (Fl × En)
section
variable (K : PySem.W.Frag) (cl : Cl)
/-- a value of this kind is at hand -/
def Has (L : Nat → Addr → Prop) (Y Z : Addr → Prop) (H : Hp) (σ : L2.St) (ρ : En) (v : V) : Sl → Prop
  | .s d => Fit K cl L Y Z H σ ρ ∧ Rep K cl Z H v d
  | .o d => ∃ a, v = .ref a ∧ ¬ Y a ∧ Fit K cl L (fun b => Y b ∨ b = a) Z H σ ρ ∧ OwnR K cl Z H a d
  | _ => False
/-- what is wanted behind a statement, given by data -/
def After (L : Nat → Addr → Prop) (Y Z : Addr → Prop) (H : Hp) (D' : Ends) (ρ' : En) : Fl → Prop
  | .nx => ∀ σ' Z' H', Ext Y Z H Z' H' → Fit K cl L Y Z' H' σ' ρ' → D'.nx σ' H'
  | .bk => ∀ σ' Z' H', Ext Y Z H Z' H' → Fit K cl L Y Z' H' σ' ρ' → D'.bk σ' H'
  | .ct => ∀ σ' Z' H', Ext Y Z H Z' H' → Fit K cl L Y Z' H' σ' ρ' → D'.ct σ' H'
  | .rt r => ∀ σ' Z' H' v, Ext Y Z H Z' H' → Has K cl L Y Z' H' σ' ρ' v r → D'.rt v H'
def SemS (t : TS) (f : FS) : Prop := ∀ (L : Nat → Addr → Prop) (Y Z : Addr → Prop) (H : Hp) (σ : L2.St) (ρ : En) (fl : Fl) (ρ' : En) (D' : Ends), Fit K cl L Y Z H σ ρ → f ρ = some (fl, ρ') → After K cl L Y Z H D' ρ' fl → t D' σ H
variable {K cl} {L : Nat → Addr → Prop}
theorem After.mono {Y Z Z1 : Addr → Prop} {H H1 : Hp} {ρ' : En} {D' : Ends} {fl : Fl} (x : Ext Y Z H Z1 H1) (h : After K cl L Y Z H D' ρ' fl) : After K cl L Y Z1 H1 D' ρ' fl := by
  cases fl with
  | nx => exact fun σ' Z' H' x' g' => h σ' Z' H' (x.trans x') g'
  | bk => exact fun σ' Z' H' x' g' => h σ' Z' H' (x.trans x') g'
  | ct => exact fun σ' Z' H' x' g' => h σ' Z' H' (x.trans x') g'
  | rt r => exact fun σ' Z' H' v x' g' => h σ' Z' H' v (x.trans x') g'
/-- SemE, by Has -/
theorem SemE.has {t : TE} {f : En → Option (Sl × En)} (h : SemE K cl t f) {Y Z : Addr → Prop} {H : Hp} {σ : L2.St} {ρ ρ' : En} {r : Sl} {Q : VK} (g : Fit K cl L Y Z H σ ρ) (e : f ρ = some (r, ρ')) (hr : ∃ d, r.d = some d)
    (q : ∀ v Z' H', Ext Y Z H Z' H' → Has K cl L Y Z' H' σ ρ' v r → Q v H') : t σ H Q := by
  refine h L Y Z H σ ρ r ρ' Q g e (fun d hd v Z' H' x g' r' => ?_) (fun d hd a Z' H' x n g' r' => ?_) hr
  · subst hd; exact q v Z' H' x ⟨g', r'⟩
  · subst hd; exact q _ Z' H' x ⟨a, rfl, n, g', r'⟩
/-! ### small statements, blocks -/
def sNx : FS := fun ρ => some (.nx, ρ)
theorem ss_nil : SemS K cl tNext sNx := fun L Y Z H σ ρ fl ρ' D' g e q => by cases e; exact q σ Z H .refl g
def sBk : FS := fun ρ => some (.bk, ρ)
theorem ss_break : SemS K cl tBreak sBk := fun L Y Z H σ ρ fl ρ' D' g e q => by cases e; exact q σ Z H .refl g
def sCt : FS := fun ρ => some (.ct, ρ)
theorem ss_cont : SemS K cl tCont sCt := fun L Y Z H σ ρ fl ρ' D' g e q => by cases e; exact q σ Z H .refl g
def sSeq (f g : FS) : FS := fun ρ => match f ρ with
  | some (.nx, ρ1) => g ρ1
  | some (.bk, ρ1) => some (.bk, ρ1)
  | some (.ct, ρ1) => some (.ct, ρ1)
  | some (.rt r, ρ1) => some (.rt r, ρ1)
  | none => none
theorem ss_cons {t u f g} (h1 : SemS K cl t f) (h2 : SemS K cl u g) : SemS K cl (tSeq t u) (sSeq f g) := by
  intro L Y Z H σ ρ fl ρ' D' G e q
  unfold sSeq at e
  split at e
  · rename_i ρ1 e1
    refine h1 L Y Z H σ ρ .nx ρ1 _ G e1 fun σ1 Z1 H1 x1 g1 => ?_
    exact h2 L Y Z1 H1 σ1 ρ1 fl ρ' D' g1 e (q.mono x1)
  · cases e; exact h1 L Y Z H σ ρ .bk ρ' _ G (by assumption) q
  · cases e; exact h1 L Y Z H σ ρ .ct ρ' _ G (by assumption) q
  · cases e; exact h1 L Y Z H σ ρ (.rt _) ρ' _ G (by assumption) q
  · cases e
def sDrop (f : En → Option (D × En)) : FS := fun ρ => match f ρ with
  | some (_, ρ1) => some (.nx, ρ1)
  | none => none
theorem ss_drop {t f} (h : SemV K cl t f) : SemS K cl (tDrop t) (sDrop f) := by
  intro L Y Z H σ ρ fl ρ' D' G e q
  unfold sDrop at e
  split at e
  · rename_i d ρ1 e1
    cases e
    exact h L Y Z H σ ρ d ρ' _ G e1 fun v Z' H' x g' r' => q σ Z' H' x g'
  · cases e
def sRet (f : En → Option (Sl × En)) : FS := fun ρ => match f ρ with
  | some (.s d, ρ1) => some (.rt (.s d), ρ1)
  | some (.o d, ρ1) => some (.rt (.o d), ρ1)
  | _ => none
theorem ss_ret {t f} (h : SemE K cl t f) : SemS K cl (tRet t) (sRet f) := by
  intro L Y Z H σ ρ fl ρ' D' G e q
  unfold sRet at e
  split at e
  · cases e
    exact h.has G (by assumption) ⟨_, rfl⟩ fun v Z' H' x g' => q σ Z' H' v x g'
  · cases e
    exact h.has G (by assumption) ⟨_, rfl⟩ fun v Z' H' x g' => q σ Z' H' v x g'
  · cases e
def sRetN : FS := fun ρ => some (.rt (.s .none), ρ)
theorem ss_retN : SemS K cl tRetN sRetN := fun L Y Z H σ ρ fl ρ' D' g e q => by cases e; exact q σ Z H .non .refl ⟨g, .non⟩
def sIf (c : En → Option (Bool × En)) (f g : FS) : FS := fun ρ => match c ρ with
  | some (true, ρ1) => f ρ1
  | some (false, ρ1) => g ρ1
  | none => none
theorem ss_if {tc t u c f g} (hc : SemT K cl tc c) (h1 : SemS K cl t f) (h2 : SemS K cl u g) : SemS K cl (tIfS tc t u) (sIf c f g) := by
  intro L Y Z H σ ρ fl ρ' D' G e q
  unfold sIf at e
  split at e
  · rename_i ρ1 e1
    exact hc L Y Z H σ ρ true ρ1 _ G e1 fun Z1 H1 x1 g1 => (if_pos rfl).mpr (h1 L Y Z1 H1 σ ρ1 fl ρ' D' g1 e (q.mono x1))
  · rename_i ρ1 e1
    exact hc L Y Z H σ ρ false ρ1 _ G e1 fun Z1 H1 x1 g1 => (if_neg (by decide)).mpr (h2 L Y Z1 H1 σ ρ1 fl ρ' D' g1 e (q.mono x1))
  · cases e
/-- code that is never come to -/
def sNo : FS := fun _ => none
theorem ss_never : SemS K cl tNever sNo := fun L Y Z H σ ρ fl ρ' D' g e q => by cases e
/-! ### targets -/
variable (K cl)
def SemG (g : TG) (f : Sl → En → Option En) (fv : List Nat) : Prop := ∀ (L : Nat → Addr → Prop) (Y Z : Addr → Prop) (H : Hp) (σ : L2.St) (ρ : En) (v : V) (r : Sl) (ρ' : En) (Q : L2.St → Hp → Prop), Has K cl L Y Z H σ ρ v r → f r ρ = some ρ' →
  (∀ σ' Z' H', Ext Y Z H Z' H' → σ'.length = σ.length → (∀ i, i ∉ fv → σ'[i]? = σ[i]?) → Fit K cl L Y Z' H' σ' ρ' → Q σ' H') → g v σ H Q
variable {K cl}
/-- a slot is filled -/
def put (i : Nat) : Sl → En → Option En := fun r ρ => match ρ[i]? with
  | some (.p _) => none
  | _ => some (ρ.set i r)
theorem put_some {i : Nat} {r : Sl} {ρ ρ' : En} (h : put i r ρ = some ρ') : ρ' = ρ.set i r ∧ ∀ d, ρ[i]? ≠ some (.p d) := by
  unfold put at h
  split at h
  · cases h
  · rename_i hn
    cases h
    exact ⟨rfl, fun d e => hn d e⟩
theorem lent_put {σ : L2.St} {ρ : En} {i j : Nat} {b : Addr} {x : Sl} {v : V} (hi : ∀ d, ρ[i]? ≠ some (.p d)) (hx : ∀ d, x ≠ .p d) :
    (σ[j]? = some (some (.ref b)) ∧ ∃ d, ρ[j]? = some (.p d)) ↔ ((σ.set i (some v))[j]? = some (some (.ref b)) ∧ ∃ d, (ρ.set i x)[j]? = some (.p d)) := by
  rw [lent_set (σ := σ) (j := j) (b := b) hi hx]
  by_cases hj : i = j
  · subst hj
    refine ⟨fun ⟨_, d, q⟩ => ?_, fun ⟨_, d, q⟩ => ?_⟩ <;>
    · rw [List.getElem?_set_self'] at q
      cases z : ρ[i]? with
      | none => rw [z] at q; simp at q
      | some y => rw [z] at q; simp at q; exact absurd q (hx d)
  · rw [List.getElem?_set_ne hj, List.getElem?_set_ne hj]
theorem Has.put {Y Z : Addr → Prop} {H : Hp} {σ : L2.St} {ρ ρ' : En} {v : V} {r : Sl} {i : Nat} (h : Has K cl L Y Z H σ ρ v r) (e : Pu.put i r ρ = some ρ') : Fit K cl L Y Z H (σ.set i (some v)) ρ' := by
  obtain ⟨rfl, np⟩ := put_some e
  cases r with
  | un => exact h.elim
  | p d => exact h.elim
  | s d =>
    obtain ⟨g, r⟩ := h
    refine ⟨g.zd, g.yd, g.yz, by rw [List.length_set, List.length_set]; exact g.len, fun j y h => ?_, fun j l b h1 h2 => ?_, fun j b => ?_⟩
    · by_cases hj : i = j
      · subst hj
        have hlt : i < ρ.length := by
          have := (List.getElem?_eq_some_iff.mp h).1
          rwa [List.length_set] at this
        rw [List.getElem?_set_self hlt] at h
        cases h
        exact ⟨v, by rw [List.getElem?_set_self (by rw [g.len]; exact hlt)], r⟩
      · rw [List.getElem?_set_ne hj] at h ⊢
        exact g.sl j y h
    · have own : ∀ {j b}, Own (σ.set i (some v)) (ρ.set i (.s d)) j b → Own σ ρ j b := by
        intro j b ⟨e1, d', e2⟩
        by_cases hj : i = j
        · subst hj
          rw [List.getElem?_set_self'] at e2
          cases z : ρ[i]? with
          | none => rw [z] at e2; simp at e2
          | some y => rw [z] at e2; simp at e2
        · rw [List.getElem?_set_ne hj] at e1 e2
          exact ⟨e1, d', e2⟩
      exact g.ap j l b (own h1) (own h2)
    · exact (g.ln j b).trans (lent_put np (by simp))
  | o d =>
    obtain ⟨a, rfl, na, g, r⟩ := h
    have za : ¬ Z a := g.yz a (.inr rfl)
    have noown : ∀ j, ¬ Own σ ρ j a := fun j h => (g.own h).2.2 (.inr rfl)
    refine ⟨g.zd, fun b y => g.yd b (.inl y), fun b y => g.yz b (.inl y), by rw [List.length_set, List.length_set]; exact g.len, fun j y h => ?_, fun j l b h1 h2 => ?_, fun j b => ?_⟩
    · by_cases hj : i = j
      · subst hj
        have hlt : i < ρ.length := by
          have := (List.getElem?_eq_some_iff.mp h).1
          rwa [List.length_set] at this
        rw [List.getElem?_set_self hlt] at h
        cases h
        exact ⟨a, by rw [List.getElem?_set_self (by rw [g.len]; exact hlt)], r, za, na⟩
      · rw [List.getElem?_set_ne hj] at h ⊢
        exact (g.less (Y' := Y) fun _ z => .inl z).sl j y h
    · have own : ∀ {j b}, Own (σ.set i (some (.ref a))) (ρ.set i (.o d)) j b → (j = i ∧ b = a) ∨ (j ≠ i ∧ Own σ ρ j b) := by
        intro j b ⟨e1, d', e2⟩
        by_cases hj : i = j
        · subst hj
          refine .inl ⟨rfl, ?_⟩
          rw [List.getElem?_set_self'] at e1
          cases z : σ[i]? with
          | none => rw [z] at e1; simp at e1
          | some y => rw [z] at e1; simp at e1; exact e1.symm
        · rw [List.getElem?_set_ne hj] at e1 e2
          exact .inr ⟨fun z => hj z.symm, e1, d', e2⟩
      rcases own h1 with ⟨rfl, rfl⟩ | ⟨n1, o1⟩
      · rcases own h2 with ⟨rfl, _⟩ | ⟨n2, o2⟩
        · rfl
        · exact absurd o2 (noown _)
      · rcases own h2 with ⟨rfl, rfl⟩ | ⟨n2, o2⟩
        · exact absurd o1 (noown _)
        · exact g.ap j l b o1 o2
    · exact (g.ln j b).trans (lent_put np (by simp))
theorem Has.fit {Y Z : Addr → Prop} {H : Hp} {σ : L2.St} {ρ : En} {v : V} {r : Sl} (h : Has K cl L Y Z H σ ρ v r) : Fit K cl L Y Z H σ ρ := by
  cases r with
  | un => exact h.elim
  | p d => exact h.elim
  | s d => exact h.1
  | o d => obtain ⟨a, _, _, g, _⟩ := h; exact g.less fun _ z => .inl z
/-- given up -/
theorem Has.rep {Y Z : Addr → Prop} {H : Hp} {σ : L2.St} {ρ : En} {v : V} {r : Sl} {d : D} (h : Has K cl L Y Z H σ ρ v r) (e : r.d = some d) : ∃ Z', Ext Y Z H Z' H ∧ Fit K cl L Y Z' H σ ρ ∧ Rep K cl Z' H v d := by
  cases r with
  | un => exact h.elim
  | p d => exact h.elim
  | s d' => cases e; exact ⟨Z, .refl, h.1, h.2⟩
  | o d' =>
    cases e
    obtain ⟨a, rfl, n, g, r⟩ := h
    have x : Ext Y Z H (fun b => Z b ∨ b = a) H := .more fun _ h => .inl h
    exact ⟨_, x, g.give n, (r.ext x fun _ z => z).rep (.inr rfl)⟩
theorem sg_name (i : Nat) : SemG K cl (gName i) (put i) [i] := by
  intro L Y Z H σ ρ v r ρ' Q h e q
  refine q _ Z H .refl (by rw [List.length_set]) (fun j hj => ?_) (h.put e)
  rw [List.getElem?_set_ne (fun z => hj (by simp [z]))]
/-- several targets -/
def SemGs (K : PySem.W.Frag) (cl : Cl) (g : TGs) (f : List D → En → Option En) (fv : List Nat) : Prop := ∀ (L : Nat → Addr → Prop) (Y Z : Addr → Prop) (H : Hp) (σ : L2.St) (ρ : En) (vs : List V) (ds : List D) (ρ' : En) (Q : L2.St → Hp → Prop), Fit K cl L Y Z H σ ρ → RepAll K cl Z H vs ds → f ds ρ = some ρ' →
  (∀ σ' Z' H', Ext Y Z H Z' H' → σ'.length = σ.length → (∀ i, i ∉ fv → σ'[i]? = σ[i]?) → Fit K cl L Y Z' H' σ' ρ' → Q σ' H') → g vs σ H Q
def puNil : List D → En → Option En := fun ds ρ => match ds with
  | [] => some ρ
  | _ => none
def puCons (f : Sl → En → Option En) (fs : List D → En → Option En) : List D → En → Option En := fun ds ρ => match ds with
  | d :: r => (f (.s d) ρ).bind fun ρ1 => fs r ρ1
  | [] => none
theorem sgs_nil : SemGs K cl gNil puNil [] := by
  intro L Y Z H σ ρ vs ds ρ' Q g r e q
  cases r with
  | nil => cases e; exact ⟨rfl, q σ Z H .refl rfl (fun _ _ => rfl) g⟩
  | cons => cases e
theorem sgs_cons {g gs f fs fv fvs} (h1 : SemG K cl g f fv) (h2 : SemGs K cl gs fs fvs) : SemGs K cl (gCons g gs) (puCons f fs) (fv ++ fvs) := by
  intro L Y Z H σ ρ vs ds ρ' Q G r e q
  cases r with
  | nil => cases e
  | cons r rs =>
    rename_i v vs d ds
    simp only [puCons] at e
    cases e1 : f (.s d) ρ with
    | none => rw [e1] at e; cases e
    | some ρ1 =>
      rw [e1] at e
      refine ⟨_, _, rfl, h1 L Y Z H σ ρ v (.s d) ρ1 _ ⟨G, r⟩ e1 fun σ1 Z1 H1 x1 l1 k1 g1 => h2 L Y Z1 H1 σ1 ρ1 vs ds ρ' Q g1 (rs.ext x1) e fun σ2 Z2 H2 x2 l2 k2 g2 => ?_⟩
      refine q σ2 Z2 H2 (x1.trans x2) (l2.trans l1) (fun i hi => ?_) g2
      rw [List.mem_append, not_or] at hi
      rw [k2 i hi.2, k1 i hi.1]
def puTup (n : Nat) (f : List D → En → Option En) : Sl → En → Option En := fun r ρ => match r with
  | .s (.tuple ds) => if ds.length = n then f ds ρ else none
  | _ => none
theorem sg_tup {n : Nat} {g f fv} (h : SemGs K cl g f fv) : SemG K cl (gTup K n g) (puTup n f) fv := by
  intro L Y Z H σ ρ v r ρ' Q hv e q
  unfold puTup at e
  split at e
  · rename_i ds
    obtain ⟨G, r⟩ := hv
    split at e
    · rename_i hn
      cases r with
      | tup hs ha => exact ⟨_, _, rfl, hs, by rw [ha.length]; exact hn, h L Y Z H σ ρ _ ds ρ' Q G ha e q⟩
    · cases e
  · cases e
def sAsg (f : En → Option (Sl × En)) (g : Sl → En → Option En) : FS := fun ρ => match f ρ with
  | some (r, ρ1) => (match r.d with | some _ => (g r ρ1).map fun ρ2 => (.nx, ρ2) | none => none)
  | none => none
theorem ss_asg {t f g p fv} (h : SemE K cl t f) (hg : SemG K cl g p fv) : SemS K cl (tAsg t g) (sAsg f p) := by
  intro L Y Z H σ ρ fl ρ' D' G e q
  unfold sAsg at e
  split at e
  · rename_i r ρ1 e1
    split at e
    · rename_i d hd
      obtain ⟨ρ2, e2, e3⟩ := omap e
      cases e3
      refine h.has G e1 ⟨d, hd⟩ fun v Z1 H1 x1 h1 => hg L Y Z1 H1 σ ρ1 v r ρ' _ h1 e2 fun σ2 Z2 H2 x2 _ _ g2 => ?_
      exact q σ2 Z2 H2 (x1.trans x2) g2
    · cases e
  · cases e
/-! ### what is walked -/
/-- the iterator gives these, one by one -/
def ItR (Y Z : Addr → Prop) (H : Hp) (J : It) (ds : List D) : Prop := ∀ Z1 H1, Ext (fun _ => False) Z H Z1 H1 → J.stop ds.length H1 ∧ ∀ i d, ds[i]? = some d → J.go i H1 ∧ ∀ x H2, J.yld i H1 x H2 →
  Same H1 H2 ∧ Rep K cl Z1 H2 x d
def SemI (K : PySem.W.Frag) (cl : Cl) (wi : TI) (f : En → Option (List D × En)) : Prop := ∀ (L : Nat → Addr → Prop) (Y Z : Addr → Prop) (H : Hp) (σ : L2.St) (ρ : En) (ds : List D) (ρ' : En) (R : It → Hp → Prop), Fit K cl L Y Z H σ ρ → f ρ = some (ds, ρ') →
  (∀ J Z' H', Ext Y Z H Z' H' → Fit K cl L Y Z' H' σ ρ' → ItR (K := K) (cl := cl) Y Z' H' J ds → R J H') → wi σ H R
def loopF (g : Sl → En → Option En) (b : FS) : List D → En → Option (Fl × En)
  | [], ρ => some (.nx, ρ)
  | d :: ds, ρ => match g (.s d) ρ with
    | none => none
    | some ρ1 => match b ρ1 with
      | some (.nx, ρ2) => loopF g b ds ρ2
      | some (.ct, ρ2) => loopF g b ds ρ2
      | some (.bk, ρ2) => some (.nx, ρ2)
      | some (.rt r, ρ2) => some (.rt r, ρ2)
      | none => none
def sFor (fi : En → Option (List D × En)) (g : Sl → En → Option En) (b : FS) : FS := fun ρ => match fi ρ with
  | some (ds, ρ1) => loopF g b ds ρ1
  | none => none
theorem ss_for {wi fi g p fv tb fb} (hi : SemI K cl wi fi) (hg : SemG K cl g p fv) (hb : SemS K cl tb fb) : SemS K cl (tFor wi g tb) (sFor fi p fb) := by
  intro L Y Z H σ ρ fl ρ' D' G e q
  unfold sFor at e
  split at e
  · rename_i ds ρ1 e1
    refine hi L Y Z H σ ρ ds ρ1 _ G e1 fun J Z1 H1 x1 g1 it => ?_
    refine ⟨fun i m σ' H' => m = ds.length - i ∧ i ≤ ds.length ∧ ∃ Z' ρ2, Ext Y Z1 H1 Z' H' ∧ Fit K cl L Y Z' H' σ' ρ2 ∧ loopF p fb (ds.drop i) ρ2 = some (fl, ρ'), ⟨_, rfl, Nat.zero_le _, Z1, ρ1, .refl, g1, e⟩, ?_⟩
    rintro i m σ' H' ⟨rfl, hi, Z2, ρ2, x2, g2, e2⟩
    obtain ⟨it1, it2⟩ := it Z2 H' (x2.less fun _ z => z.elim)
    have q1 : After K cl L Y Z2 H' D' ρ' fl := q.mono (x1.trans x2)
    by_cases hlt : i < ds.length
    · rw [List.drop_eq_getElem_cons hlt] at e2
      obtain ⟨go, yl⟩ := it2 i _ (List.getElem?_eq_getElem hlt)
      refine .inr ⟨go, _, fun σ3 H3 n => n, fun x H3 y => ?_⟩
      obtain ⟨k3, r3⟩ := yl x H3 y
      have x3 : Ext Y Z2 H' Z2 H3 := .same k3
      simp only [loopF] at e2
      split at e2
      · cases e2
      · rename_i ρ3 e3
        refine hg L Y Z2 H3 σ' ρ2 x (.s ds[i]) ρ3 _ ⟨g2.same k3, r3⟩ e3 fun σ4 Z4 H4 x4 _ _ g4 => ?_
        have q4 : After K cl L Y Z4 H4 D' ρ' fl := q1.mono (x3.trans x4)
        have next : ∀ {ρ5 : En}, loopF p fb (ds.drop (i + 1)) ρ5 = some (fl, ρ') → ∀ σ5 Z5 H5, Ext Y Z4 H4 Z5 H5 → Fit K cl L Y Z5 H5 σ5 ρ5 → ∃ m', m' < ds.length - i ∧ (m' = ds.length - (i + 1) ∧ i + 1 ≤ ds.length ∧ ∃ Z' ρ2, Ext Y Z1 H1 Z' H5 ∧ Fit K cl L Y Z' H5 σ5 ρ2 ∧ loopF p fb (ds.drop (i + 1)) ρ2 = some (fl, ρ')) :=
          fun e5 σ5 Z5 H5 x5 g5 => ⟨_, by omega, rfl, hlt, Z5, _, ((x2.trans x3).trans x4).trans x5, g5, e5⟩
        split at e2
        · rename_i ρ5 e5
          exact hb L Y Z4 H4 σ4 ρ3 .nx ρ5 _ g4 e5 (next e2)
        · rename_i ρ5 e5
          exact hb L Y Z4 H4 σ4 ρ3 .ct ρ5 _ g4 e5 (next e2)
        · rename_i ρ5 e5
          cases e2
          exact hb L Y Z4 H4 σ4 ρ3 .bk ρ' _ g4 e5 q4
        · rename_i r ρ5 e5
          cases e2
          exact hb L Y Z4 H4 σ4 ρ3 (.rt r) ρ' _ g4 e5 q4
        · cases e2
    · have e3 : i = ds.length := by omega
      subst e3
      rw [List.drop_length] at e2
      cases e2
      exact .inl ⟨it1, q1 σ' Z2 H' .refl g2⟩
  · cases e
/-- while, with fuel -/
def loopW (c : En → Option (Bool × En)) (b : FS) : Nat → En → Option (Fl × En)
  | 0, _ => none
  | n + 1, ρ => match c ρ with
    | some (true, ρ1) => (match b ρ1 with
      | some (.nx, ρ2) => loopW c b n ρ2
      | some (.ct, ρ2) => loopW c b n ρ2
      | some (.bk, ρ2) => some (.nx, ρ2)
      | some (.rt r, ρ2) => some (.rt r, ρ2)
      | none => none)
    | some (false, ρ1) => some (.nx, ρ1)
    | none => none
theorem ss_while {tc c tb fb} (fuel : Nat) (hc : SemT K cl tc c) (hb : SemS K cl tb fb) : SemS K cl (tWhile tc tb) (loopW c fb fuel) := by
  intro L Y Z H σ ρ fl ρ' D' G e q
  refine ⟨fun m σ' H' => ∃ Z' ρ2, Ext Y Z H Z' H' ∧ Fit K cl L Y Z' H' σ' ρ2 ∧ loopW c fb m ρ2 = some (fl, ρ'), ⟨fuel, Z, ρ, .refl, G, e⟩, ?_⟩
  rintro m σ' H' ⟨Z2, ρ2, x2, g2, e2⟩
  cases m with
  | zero => cases e2
  | succ m =>
    simp only [loopW] at e2
    have q2 : After K cl L Y Z2 H' D' ρ' fl := q.mono x2
    split at e2
    · rename_i ρ3 e3
      refine hc L Y Z2 H' σ' ρ2 true ρ3 _ g2 e3 fun Z3 H3 x3 g3 => (if_pos rfl).mpr ⟨_, fun σ5 H5 n => n, ?_⟩
      have q3 : After K cl L Y Z3 H3 D' ρ' fl := q2.mono x3
      have next : ∀ {ρ5 : En}, loopW c fb m ρ5 = some (fl, ρ') → ∀ σ5 Z5 H5, Ext Y Z3 H3 Z5 H5 → Fit K cl L Y Z5 H5 σ5 ρ5 → ∃ m', m' < m + 1 ∧ ∃ Z' ρ2, Ext Y Z H Z' H5 ∧ Fit K cl L Y Z' H5 σ5 ρ2 ∧ loopW c fb m' ρ2 = some (fl, ρ') :=
        fun e5 σ5 Z5 H5 x5 g5 => ⟨m, by omega, Z5, _, (x2.trans x3).trans x5, g5, e5⟩
      split at e2
      · rename_i ρ5 e5
        exact hb L Y Z3 H3 σ' ρ3 .nx ρ5 _ g3 e5 (next e2)
      · rename_i ρ5 e5
        exact hb L Y Z3 H3 σ' ρ3 .ct ρ5 _ g3 e5 (next e2)
      · rename_i ρ5 e5
        cases e2
        exact hb L Y Z3 H3 σ' ρ3 .bk ρ' _ g3 e5 q3
      · rename_i r ρ5 e5
        cases e2
        exact hb L Y Z3 H3 σ' ρ3 (.rt r) ρ' _ g3 e5 q3
      · cases e2
    · rename_i ρ3 e3
      cases e2
      exact hc L Y Z2 H' σ' ρ2 false ρ' _ g2 e3 fun Z3 H3 x3 g3 => (if_neg (by decide)).mpr (q2 σ' Z3 H3 x3 g3)
    · cases e2
end
end Pu
/-! The pure layer: comprehensions. -/
namespace Pu
open PySem PySem.Spec PyProof.Rows L2
def wipeE (ρ : En) : List Nat → En
  | [] => ρ
  | v :: vs => (wipeE ρ vs).set v .un
/-- the slots at vs as they were in ρ0 -/
def backE (ρ0 ρ : En) : List Nat → En
  | [] => ρ
  | v :: vs => (backE ρ0 ρ vs).set v (ρ0.getD v .un)
def noOwn (ρ : En) (v : Nat) : Bool := match ρ[v]? with
  | some (.o _) => false
  | some (.p _) => false
  | _ => true
theorem wipeE_len (ρ : En) : ∀ vs, (wipeE ρ vs).length = ρ.length
  | [] => rfl
  | v :: vs => by rw [wipeE, List.length_set, wipeE_len ρ vs]
theorem backE_len (ρ0 ρ : En) : ∀ vs, (backE ρ0 ρ vs).length = ρ.length
  | [] => rfl
  | v :: vs => by rw [backE, List.length_set, backE_len ρ0 ρ vs]
theorem wipeE_out {ρ : En} {i : Nat} : ∀ {vs : List Nat}, i ∉ vs → (wipeE ρ vs)[i]? = ρ[i]?
  | [], _ => rfl
  | v :: vs, h => by
    rw [List.mem_cons, not_or] at h
    rw [wipeE, List.getElem?_set_ne (fun z => h.1 z.symm), wipeE_out h.2]
theorem wipeE_in {ρ : En} {i : Nat} : ∀ {vs : List Nat}, i ∈ vs → ∀ y, (wipeE ρ vs)[i]? = some y → y = .un
  | v :: vs, h, y, e => by
    by_cases hv : v = i
    · subst hv
      rw [wipeE, List.getElem?_set_self'] at e
      cases q : (wipeE ρ vs)[v]? with
      | none => rw [q] at e; simp at e
      | some z => rw [q] at e; simp at e; exact e.symm
    · rw [wipeE, List.getElem?_set_ne hv] at e
      rcases List.mem_cons.mp h with z | z
      · exact absurd z.symm hv
      · exact wipeE_in z y e
theorem backE_out {ρ0 ρ : En} {i : Nat} : ∀ {vs : List Nat}, i ∉ vs → (backE ρ0 ρ vs)[i]? = ρ[i]?
  | [], _ => rfl
  | v :: vs, h => by
    rw [List.mem_cons, not_or] at h
    rw [backE, List.getElem?_set_ne (fun z => h.1 z.symm), backE_out h.2]
theorem backE_in {ρ0 ρ : En} {i : Nat} : ∀ {vs : List Nat}, i ∈ vs → ∀ y, (backE ρ0 ρ vs)[i]? = some y → y = ρ0.getD i .un
  | v :: vs, h, y, e => by
    by_cases hv : v = i
    · subst hv
      rw [backE, List.getElem?_set_self'] at e
      cases q : (backE ρ0 ρ vs)[v]? with
      | none => rw [q] at e; simp at e
      | some z => rw [q] at e; simp at e; exact e.symm
    · rw [backE, List.getElem?_set_ne hv] at e
      rcases List.mem_cons.mp h with z | z
      · exact absurd z.symm hv
      · exact backE_in z y e
theorem wipe_outV {σ : L2.St} {i : Nat} : ∀ {vs : List Nat}, i ∉ vs → (wipe σ vs)[i]? = σ[i]?
  | [], _ => rfl
  | v :: vs, h => by
    rw [List.mem_cons, not_or] at h
    rw [wipe, List.getElem?_set_ne (fun z => h.1 z.symm), wipe_outV h.2]
theorem wipe_inV {σ : L2.St} {i : Nat} : ∀ {vs : List Nat}, i ∈ vs → i < σ.length → (wipe σ vs)[i]? = some none
  | v :: vs, h, hl => by
    by_cases hv : v = i
    · subst hv
      rw [wipe, List.getElem?_set_self (by rw [wipe_length]; exact hl)]
    · rw [wipe, List.getElem?_set_ne hv]
      rcases List.mem_cons.mp h with z | z
      · exact absurd z.symm hv
      · exact wipe_inV z hl
/-- equal but for the slots at vs -/
theorem wipe_eq {σ σ2 : L2.St} {vs : List Nat} (hl : σ2.length = σ.length) (h : ∀ i, i ∉ vs → σ2[i]? = σ[i]?) : wipe σ2 vs = wipe σ vs := by
  refine List.ext_getElem? fun i => ?_
  by_cases hi : i ∈ vs
  · by_cases hlt : i < σ.length
    · rw [wipe_inV hi (by omega), wipe_inV hi hlt]
    · rw [List.getElem?_eq_none (by rw [wipe_length]; omega), List.getElem?_eq_none (by rw [wipe_length]; omega)]
  · rw [wipe_outV hi, wipe_outV hi, h i hi]
section
variable {K : PySem.W.Frag} {cl : Cl} {L : Nat → Addr → Prop} {Y Z Z' : Addr → Prop} {H H' : Hp} {σ σ2 : L2.St} {ρ ρ2 : En} {vs : List Nat}
theorem noOwn_own {v : Nat} {a : Addr} (h : noOwn ρ v = true) (o : Own σ ρ v a) : False := by
  obtain ⟨_, d, q⟩ := o
  rcases q with q | q <;> · unfold noOwn at h; rw [q] at h; cases h
theorem noOwn_p {v : Nat} {d : D} (h : noOwn ρ v = true) (q : ρ[v]? = some (.p d)) : False := by
  unfold noOwn at h; rw [q] at h; cases h
theorem Fit.wipe (g : Fit K cl L Y Z H σ ρ) (h : ∀ v ∈ vs, noOwn ρ v = true) : Fit K cl L Y Z H (L2.wipe σ vs) (wipeE ρ vs) := by
  have own : ∀ {i a}, Own (L2.wipe σ vs) (wipeE ρ vs) i a → Own σ ρ i a := by
    intro i a ⟨e, d, q⟩
    by_cases hi : i ∈ vs
    · rcases q with q | q <;> exact absurd (wipeE_in hi _ q) (by simp)
    · rw [wipe_outV hi] at e
      rw [wipeE_out hi] at q
      exact ⟨e, d, q⟩
  refine ⟨g.zd, g.yd, g.yz, by rw [wipe_length, wipeE_len]; exact g.len, fun i x q => ?_, fun i j a h1 h2 => g.ap i j a (own h1) (own h2), fun i a => (g.ln i a).trans ?_⟩
  · by_cases hi : i ∈ vs
    · rw [wipeE_in hi _ q]; trivial
    · rw [wipeE_out hi] at q
      rw [wipe_outV hi]
      exact g.sl i x q
  · by_cases hi : i ∈ vs
    · refine ⟨fun ⟨_, d, q⟩ => (noOwn_p (h i hi) q).elim, fun ⟨_, d, q⟩ => absurd (wipeE_in hi _ q) (by simp)⟩
    · rw [wipe_outV hi, wipeE_out hi]
theorem Fit.back {Y2 : Addr → Prop} (g : Fit K cl L Y Z H σ ρ) (h : ∀ v ∈ vs, noOwn ρ v = true) (x : Ext Y2 Z H Z' H') (g2 : Fit K cl L Y Z' H' σ2 ρ2) (hl : σ2.length = σ.length) (hs : ∀ i, i ∉ vs → σ2[i]? = σ[i]?) : Fit K cl L Y Z' H' σ (backE ρ ρ2 vs) := by
  have inn : ∀ {i : Nat} {y : Sl}, i ∈ vs → (backE ρ ρ2 vs)[i]? = some y → y = .un ∨ ρ[i]? = some y := by
    intro i y hi e
    have z := backE_in hi y e
    rw [List.getD_eq_getElem?_getD] at z
    cases q : ρ[i]? with
    | none => rw [q] at z; exact .inl z
    | some w => rw [q] at z; exact .inr (by rw [z]; rfl)
  have own : ∀ {i a}, Own σ (backE ρ ρ2 vs) i a → Own σ2 ρ2 i a := by
    intro i a ⟨e, d, q⟩
    by_cases hi : i ∈ vs
    · rcases q with q | q
      · rcases inn hi q with z | z
        · cases z
        · exact (noOwn_own (h i hi) ⟨e, d, .inl z⟩).elim
      · rcases inn hi q with z | z
        · cases z
        · exact (noOwn_own (h i hi) ⟨e, d, .inr z⟩).elim
    · rw [backE_out hi] at q
      exact ⟨by rw [hs i hi]; exact e, d, q⟩
  refine ⟨g2.zd, g2.yd, g2.yz, by rw [backE_len, ← g2.len, hl], fun i y q => ?_, fun i j a h1 h2 => g2.ap i j a (own h1) (own h2), fun i a => ?_⟩
  · by_cases hi : i ∈ vs
    · rcases inn hi q with z | z
      · rw [z]; trivial
      · have w := g.sl i y z
        cases y with
        | un => trivial
        | s d => obtain ⟨v, e1, e2⟩ := w; exact ⟨v, e1, e2.ext x⟩
        | o d => exact (show False by have := h i hi; unfold noOwn at this; rw [z] at this; cases this).elim
        | p d => exact (show False by have := h i hi; unfold noOwn at this; rw [z] at this; cases this).elim
    · rw [backE_out hi] at q
      rw [← hs i hi]
      exact g2.sl i y q
  · by_cases hi : i ∈ vs
    · refine ⟨fun l => ?_, fun ⟨_, d, q⟩ => ?_⟩
      · obtain ⟨_, d, q⟩ := (g.ln i a).mp l
        exact (noOwn_p (h i hi) q).elim
      · rcases inn hi q with z | z
        · cases z
        · exact (noOwn_p (h i hi) z).elim
    · rw [backE_out hi, ← hs i hi]
      exact g2.ln i a
/-- what is kept privately may be changed by him who keeps it -/
theorem Fit.chg {D : Addr} {o : HO} (g : Fit K cl L (fun b => Y b ∨ b = D) Z H σ ρ) (nt : ∃ xs, H D = some (.lst xs)) (ny : ¬ Y D) : Fit K cl L (fun b => Y b ∨ b = D) Z (upd H D o) σ ρ ∧ Ext Y Z H Z (upd H D o) := by
  obtain ⟨xs, hx⟩ := nt
  have zD : ¬ Z D := g.yz D (.inr rfl)
  have k : ∀ b, b ≠ D → upd H D o b = H b := fun b n => upd_ne n
  have there : ∀ b, H b ≠ none → upd H D o b ≠ none := fun b e => by
    by_cases q : b = D
    · rw [q, upd_same]; simp
    · rw [k b q]; exact e
  have x : Ext Y Z H Z (upd H D o) := by
    refine ⟨fun _ z => z, fun a u h e => ?_, fun a ys e => ?_, fun a u w e => ?_, there⟩
    · rw [k a (fun z => by rw [z] at h; exact h.elim zD ny)]; exact e
    · rw [k a (fun z => by rw [z, hx] at e; cases e)]; exact e
    · rw [k a (fun z => by rw [z, hx] at e; cases e)]; exact e
  refine ⟨⟨fun a z => there a (g.zd a z), fun a z => there a (g.yd a z), g.yz, g.len, fun i y q => ?_, g.ap, g.ln⟩, x⟩
  refine g.slot x (fun a h => ?_) q
  obtain ⟨h1, h2, h3⟩ := g.own h
  exact ⟨fun u e => by rw [k a (fun z => h3 (.inr z))]; exact e, h2, h3⟩
/-! ### [e for g in it if t] -/
noncomputable def lcF (g : Sl → En → Option En) (ft : En → Option (Bool × En)) (fe : En → Option (D × En)) (vs : List Nat) : List D → List D → En → Option (List D × En)
  | [], acc, ρ => some (acc, ρ)
  | d :: ds, acc, ρ => match g (.s d) (wipeE ρ vs) with
    | none => none
    | some ρ1 => match ft ρ1 with
      | some (true, ρ2) => (match fe ρ2 with
        | some (y, ρ3) => if gd (acc.length < sizeLine) = true then lcF g ft fe vs ds (acc ++ [y]) (backE ρ ρ3 vs) else none
        | none => none)
      | some (false, ρ2) => lcF g ft fe vs ds acc (backE ρ ρ2 vs)
      | none => none
noncomputable def fLc (fi : En → Option (List D × En)) (g : Sl → En → Option En) (ft : En → Option (Bool × En)) (fe : En → Option (D × En)) (vs : List Nat) : En → Option (Sl × En) := fun ρ => match fi ρ with
  | some (ds, ρ1) => if vs.all (noOwn ρ1) = true then (lcF g ft fe vs ds [] ρ1).map fun r => (.o (.list r.1), r.2) else none
  | none => none
def fYes : En → Option (Bool × En) := fun ρ => some (true, ρ)
theorem st_yes : SemT K cl tYes fYes := fun L Y Z H σ ρ b ρ' Q g e q => by cases e; exact q Z H .refl g
theorem noOwn_back {ρ0 ρ : En} (h : ∀ v ∈ vs, noOwn ρ0 v = true) : ∀ v ∈ vs, noOwn (backE ρ0 ρ vs) v = true := by
  intro v hv
  unfold noOwn
  cases q : (backE ρ0 ρ vs)[v]? with
  | none => rfl
  | some y =>
    have z := backE_in hv y q
    rw [List.getD_eq_getElem?_getD] at z
    have w := h v hv
    unfold noOwn at w
    cases q2 : ρ0[v]? with
    | none => rw [q2] at z; rw [z]; rfl
    | some y2 =>
      rw [q2] at z w
      have e : y = y2 := z
      rw [e]
      cases y2 <;> first | rfl | exact w
theorem se_lc {wi fi g p fv tt ft te fe} (hi : SemI K cl wi fi) (hg : SemG K cl g p fv) (ht : SemT K cl tt ft) (he : SemV K cl te fe) (hv : ∀ i ∈ fv, i ∈ vs) : SemE K cl (tLc wi g tt te vs) (fLc fi p ft fe vs) := by
  intro L Y Z H σ ρ r ρ' Q G e _ q _
  unfold fLc at e
  split at e
  · rename_i ds ρ1 e1
    split at e
    · rename_i hn
      obtain ⟨⟨res, ρf⟩, e2, e3⟩ := omap e
      cases e3
      have no : ∀ v ∈ vs, noOwn ρ1 v = true := fun v h => List.all_eq_true.mp hn v h
      refine hi L Y Z H σ ρ ds ρ1 _ G e1 fun J Z1 H1 x1 g1 it D hD => ?_
      have nY : ¬ Y D := fun y => g1.yd D y hD
      have k0 : Same H1 (upd H1 D (.lst [])) := fun b o e => by rw [upd_ne (ne_of_none e hD)]; exact e
      refine ⟨fun i m H' => m = ds.length - i ∧ i ≤ ds.length ∧ ∃ Z' ρ2 acc va, Ext Y Z1 H1 Z' H' ∧ Fit K cl L (fun b => Y b ∨ b = D) Z' H' σ ρ2 ∧ (∀ v ∈ vs, noOwn ρ2 v = true) ∧ H' D = some (.lst va) ∧ RepAll K cl Z' H' va acc ∧ lcF p ft fe vs (ds.drop i) acc ρ2 = some (res, ρf),
        ⟨_, rfl, Nat.zero_le _, Z1, ρ1, [], [], .same k0, g1.priv k0 hD (by rw [upd_same]; simp), no, upd_same, .nil, e2⟩, ?_⟩
      rintro i m H2 ⟨rfl, hil, Z2, ρ2, acc, va, x2, g2, no2, hD2, ra, e4⟩
      obtain ⟨it1, it2⟩ := it Z2 H2 (x2.less fun _ z => z.elim)
      by_cases hlt : i < ds.length
      · rw [List.drop_eq_getElem_cons hlt] at e4
        obtain ⟨go, yl⟩ := it2 i _ (List.getElem?_eq_getElem hlt)
        refine .inr ⟨go, _, fun H3 n => n, fun x H3 y => ?_⟩
        obtain ⟨k3, r3⟩ := yl x H3 y
        have x3 : Ext (fun b => Y b ∨ b = D) Z2 H2 Z2 H3 := .same k3
        have g3 := g2.same k3
        have x3' : Ext Y Z2 H2 Z2 H3 := .same k3
        simp only [lcF] at e4
        split at e4
        · cases e4
        · rename_i ρ3 e5
          refine hg L (fun b => Y b ∨ b = D) Z2 H3 (L2.wipe σ vs) (wipeE ρ2 vs) x (.s ds[i]) ρ3 _ ⟨g3.wipe no2, r3⟩ e5 fun σ4 Z4 H4 x4 l4 s4 g4 => ?_
          have l4' : σ4.length = σ.length := by rw [l4, wipe_length]
          have s4' : ∀ i, i ∉ vs → σ4[i]? = σ[i]? := fun i hi => by rw [s4 i (fun z => hi (hv i z)), wipe_outV hi]
          refine ⟨wipe_eq l4' s4', ?_⟩
          split at e4
          · rename_i ρ5 e6
            split at e4
            · rename_i y ρ6 e7
              split at e4
              · rename_i hz
                have hz := gd_iff.mp hz
                refine ht L (fun b => Y b ∨ b = D) Z4 H4 σ4 ρ3 true ρ5 _ g4 e6 fun Z5 H5 x5 g5 => (if_pos rfl).mpr ?_
                refine he L (fun b => Y b ∨ b = D) Z5 H5 σ4 ρ5 y ρ6 _ g5 e7 fun w Z6 H6 x6 g6 r6 => ?_
                have x36 := (x3.trans x4).trans (x5.trans x6)
                have hD6 : H6 D = some (.lst va) := x36.keep D _ (.inr (.inr rfl)) hD2
                refine ⟨va, hD6, by rw [ra.length]; exact hz, _, ?_, rfl, hlt, Z6, backE ρ2 ρ6 vs, acc ++ [y], va ++ [w], ?_, ?_, noOwn_back no2, upd_same, ?_, e4⟩
                · omega
                · exact (x2.trans (x36.less fun _ z => .inl z)).trans (g6.chg ⟨va, hD6⟩ nY).2
                · exact (Fit.back g2 no2 x36 g6 l4' s4').chg ⟨va, hD6⟩ nY |>.1
                · exact ((ra.ext x36).append (.cons r6 .nil)).ext (g6.chg ⟨va, hD6⟩ nY).2
              · cases e4
            · cases e4
          · rename_i ρ5 e6
            refine ht L (fun b => Y b ∨ b = D) Z4 H4 σ4 ρ3 false ρ5 _ g4 e6 fun Z5 H5 x5 g5 => (if_neg (by decide)).mpr ?_
            have x35 := (x3.trans x4).trans x5
            have hD5 : H5 D = some (.lst va) := x35.keep D _ (.inr (.inr rfl)) hD2
            exact ⟨_, by omega, rfl, hlt, Z5, backE ρ2 ρ5 vs, acc, va, x2.trans (x35.less fun _ z => .inl z), Fit.back g2 no2 x35 g5 l4' s4', noOwn_back no2, hD5, ra.ext x35, e4⟩
          · cases e4
      · have e5 : i = ds.length := by omega
        subst e5
        rw [List.drop_length] at e4
        cases e4
        exact .inl ⟨it1, q _ rfl D Z2 H2 (x1.trans x2) nY g2 ⟨va, hD2, ra⟩⟩
    · cases e
  · cases e
end
end Pu
/-! The pure layer: calls of defs. -/
namespace Pu
open PySem PySem.Spec PyProof.Rows L2
/-- an argument: shared data, a new thing, what stands in a slot (lent) -/
inductive Arg
  | s (d : D)
  | t (d : D)
  | b (i : Nat)
/-- a def's function: what it is given, what it returns, what became of what was lent -/
abbrev FF := List Sl → Option (Sl × List Sl)
def maskP (n : Nat) (ρ : En) : List Sl := (List.range n).map fun (i : Nat) => match ρ[i]? with
  | some (.p d) => .p d
  | _ => .un
def fnF (k : Nat) (b : FS) : FF := fun ins => match b (ins ++ List.replicate k .un) with
  | some (.rt r, ρ') => some (r, maskP ins.length ρ')
  | some (.nx, ρ') => some (.s .none, maskP ins.length ρ')
  | _ => none
def okIn : Sl → Prop
  | .s _ => True
  | .p _ => True
  | _ => False
def lentBy (vs : List V) (ins : List Sl) (i : Nat) (a : Addr) : Prop := vs[i]? = some (.ref a) ∧ ∃ d, ins[i]? = some (.p d)
section
variable {K : PySem.W.Frag} {cl : Cl}
/-- the promise that the function tells -/
def FSp (K : PySem.W.Frag) (cl : Cl) (n : Nat) (F : FF) : Sp := fun vs H Q _ => vs.length = n ∧ ∃ (Y Z : Addr → Prop) (ins outs : List Sl) (r : Sl), Fit K cl (lentBy vs ins) Y Z H (vs.map some) ins ∧ F ins = some (r, outs) ∧
  ∀ v Z' H', Ext Y Z H Z' H' → Has K cl (lentBy vs ins) Y Z' H' (vs.map some) outs v r → Q v H'
theorem maskP_get {n : Nat} {ρ : En} {i : Nat} {x : Sl} (h : (maskP n ρ)[i]? = some x) : i < n ∧ ((∃ d, ρ[i]? = some (.p d) ∧ x = .p d) ∨ ((∀ d, ρ[i]? ≠ some (.p d)) ∧ x = .un)) := by
  unfold maskP at h
  rw [List.getElem?_map] at h
  by_cases hi : i < n
  · rw [List.getElem?_range hi] at h
    refine ⟨hi, ?_⟩
    simp only [Option.map_some, Option.some.injEq] at h
    split at h
    · rename_i d e
      exact .inl ⟨d, e, h.symm⟩
    · rename_i e
      exact .inr ⟨fun d z => e d z, h.symm⟩
  · rw [List.getElem?_eq_none (by rw [List.length_range]; omega)] at h
    cases h
theorem maskP_p {n : Nat} {ρ : En} {i : Nat} {d : D} (hi : i < n) (h : ρ[i]? = some (.p d)) : (maskP n ρ)[i]? = some (.p d) := by
  unfold maskP
  rw [List.getElem?_map, List.getElem?_range hi]
  simp only [Option.map_some, h]
theorem mask_fit {L : Nat → Addr → Prop} {Y Z : Addr → Prop} {H : Hp} {σ : L2.St} {ρ : En} {vs : List V} {ins : List Sl} (hl : ins.length = vs.length) (hL : ∀ i a, lentBy vs ins i a ↔ L i a)
    (g : Fit K cl L Y Z H σ ρ) : Fit K cl (lentBy vs ins) Y Z H (vs.map some) (maskP ins.length ρ) := by
  have at_ : ∀ {i : Nat} {d : D}, ρ[i]? = some (.p d) → (vs.map some)[i]? = σ[i]? := by
    intro i d e
    obtain ⟨a, e1, _⟩ := g.sl i _ e
    obtain ⟨e2, _⟩ := (hL i a).mpr ((g.ln i a).mpr ⟨e1, d, e⟩)
    rw [List.getElem?_map, e2, e1]
    rfl
  have own : ∀ {i a}, Own (vs.map some) (maskP ins.length ρ) i a → Own σ ρ i a := by
    intro i a ⟨e, d, q⟩
    rcases q with q | q
    · obtain ⟨_, h⟩ := maskP_get q
      rcases h with ⟨_, _, z⟩ | ⟨_, z⟩ <;> cases z
    · obtain ⟨hi, h⟩ := maskP_get q
      rcases h with ⟨d', ey, z⟩ | ⟨_, z⟩
      · rw [at_ ey] at e
        exact ⟨e, d', .inr ey⟩
      · cases z
  refine ⟨g.zd, g.yd, g.yz, by unfold maskP; rw [List.length_map, List.length_map, List.length_range]; omega, fun i x q => ?_, fun i j a h1 h2 => g.ap i j a (own h1) (own h2), fun i a => ⟨fun l => ?_, fun ⟨e, d, q⟩ => ?_⟩⟩
  · obtain ⟨hi, h⟩ := maskP_get q
    rcases h with ⟨d', ey, z⟩ | ⟨_, z⟩
    · subst z
      rw [at_ ey]
      exact g.sl i _ ey
    · subst z; trivial
  · obtain ⟨e1, d, e2⟩ := (g.ln i a).mp ((hL i a).mp l)
    have hi : i < ins.length := (List.getElem?_eq_some_iff.mp l.2.choose_spec).1
    exact ⟨by rw [at_ e2]; exact e1, d, maskP_p hi e2⟩
  · obtain ⟨hi, h⟩ := maskP_get q
    rcases h with ⟨d', ey, z⟩ | ⟨_, z⟩
    · rw [at_ ey] at e
      exact (hL i a).mpr ((g.ln i a).mpr ⟨e, d', ey⟩)
    · cases z
/-- a body's reading gives the promise -/
theorem body_ok {t : TS} {b : FS} {n k : Nat} {N : List Str} {vs : List V} {H : Hp} {Q : VK} {E : XK} (hS : SemS K cl t b) (hn : N.length = n + k) (h : FSp K cl n (fnF k b) vs H Q E) :
    t { nx := fun _ H' => Q .non H', rt := Q } (L2.start N vs) H := by
  obtain ⟨hl, Y, Z, ins, outs, r, g, e, q⟩ := h
  have li : ins.length = vs.length := by rw [← g.len, List.length_map]
  have hst : L2.start N vs = vs.map some ++ List.replicate k none := by unfold L2.start; rw [hn, hl, Nat.add_sub_cancel_left]
  have g0 : Fit K cl (lentBy vs ins) Y Z H (L2.start N vs) (ins ++ List.replicate k .un) := by
    rw [hst]
    have late : ∀ {i : Nat} {x : Sl}, ¬ i < ins.length → (ins ++ List.replicate k Sl.un)[i]? = some x → x = .un := by
      intro i x hi q
      rw [List.getElem?_append_right (by omega), List.getElem?_replicate] at q
      split at q
      · cases q; rfl
      · cases q
    have own : ∀ {i a}, Own (vs.map some ++ List.replicate k none) (ins ++ List.replicate k .un) i a → Own (vs.map some) ins i a := by
      intro i a ⟨e, d, q⟩
      by_cases hi : i < ins.length
      · rw [List.getElem?_append_left hi] at q
        rw [List.getElem?_append_left (by rw [List.length_map]; omega)] at e
        exact ⟨e, d, q⟩
      · rcases q with q | q <;> exact absurd (late hi q) (by simp)
    refine ⟨g.zd, g.yd, g.yz, by simp [li], fun i x q => ?_, fun i j a h1 h2 => g.ap i j a (own h1) (own h2), fun i a => (g.ln i a).trans ?_⟩
    · by_cases hi : i < ins.length
      · rw [List.getElem?_append_left hi] at q
        rw [List.getElem?_append_left (by rw [List.length_map]; omega)]
        exact g.sl i x q
      · rw [late hi q]; trivial
    · by_cases hi : i < ins.length
      · rw [List.getElem?_append_left (by rw [List.length_map]; omega), List.getElem?_append_left hi]
      · refine ⟨fun ⟨_, d, q⟩ => absurd (List.getElem?_eq_some_iff.mp q).1 hi, fun ⟨_, d, q⟩ => absurd (late hi q) (by simp)⟩
  unfold fnF at e
  split at e
  · rename_i r' ρ' e1
    cases e
    refine hS (lentBy vs ins) Y Z H _ _ (.rt r) ρ' _ g0 e1 fun σ' Z' H' v x h => ?_
    refine q v Z' H' x ?_
    cases r with
    | un => exact h.elim
    | p d => exact h.elim
    | s d => exact ⟨mask_fit li (fun _ _ => .rfl) h.1, h.2⟩
    | o d => obtain ⟨a, ea, na, ga, ra⟩ := h; exact ⟨a, ea, na, mask_fit li (fun _ _ => .rfl) ga, ra⟩
  · rename_i ρ' e1
    cases e
    refine hS (lentBy vs ins) Y Z H _ _ .nx ρ' _ g0 e1 fun σ' Z' H' x h => ?_
    exact q .non Z' H' x ⟨mask_fit li (fun _ _ => .rfl) h, .non⟩
  · cases e
/-! ### arguments -/
/-- vs are these arguments; l: where the new things stand -/
inductive ArgR (K : PySem.W.Frag) (cl : Cl) (σ : L2.St) (Z : Addr → Prop) (H : Hp) : List V → List Arg → List Addr → Prop
  | nil : ArgR K cl σ Z H [] [] []
  | s {v : V} {d : D} {vs : List V} {as : List Arg} {l : List Addr} : Rep K cl Z H v d → ArgR K cl σ Z H vs as l → ArgR K cl σ Z H (v :: vs) (.s d :: as) l
  | t {a : Addr} {d : D} {vs : List V} {as : List Arg} {l : List Addr} : OwnR K cl Z H a d → a ∉ l → ArgR K cl σ Z H vs as l → ArgR K cl σ Z H (.ref a :: vs) (.t d :: as) (a :: l)
  | b {i : Nat} {v : V} {vs : List V} {as : List Arg} {l : List Addr} : σ[i]? = some (some v) → ArgR K cl σ Z H vs as l → ArgR K cl σ Z H (v :: vs) (.b i :: as) l
def SemA (K : PySem.W.Frag) (cl : Cl) (t : TA) (f : En → Option (List Arg × En)) : Prop := ∀ (L : Nat → Addr → Prop) (Y Z : Addr → Prop) (H : Hp) (σ : L2.St) (ρ : En) (as : List Arg) (ρ' : En) (Q : List V → Hp → Prop), Fit K cl L Y Z H σ ρ → f ρ = some (as, ρ') →
  (∀ vs l Z' H', Ext Y Z H Z' H' → (∀ a ∈ l, ¬ Y a) → Fit K cl L (fun b => Y b ∨ b ∈ l) Z' H' σ ρ' → ArgR K cl σ Z' H' vs as l → Q vs H') → t σ H Q
def aNil : En → Option (List Arg × En) := fun ρ => some ([], ρ)
def aS (f : En → Option (D × En)) (fs : En → Option (List Arg × En)) : En → Option (List Arg × En) := bnd f fun d => bnd fs fun as ρ => some (.s d :: as, ρ)
def aE (f : En → Option (Sl × En)) (fs : En → Option (List Arg × En)) : En → Option (List Arg × En) := bnd f fun r => bnd fs fun as ρ => match r with
  | .s d => some (.s d :: as, ρ)
  | .o d => some (.t d :: as, ρ)
  | _ => none
def aB (i : Nat) (fs : En → Option (List Arg × En)) : En → Option (List Arg × En) := fun ρ => match ρ[i]? with
  | some (.s d) => bnd fs (fun as ρ => some (.s d :: as, ρ)) ρ
  | some (.o _) => bnd fs (fun as ρ => some (.b i :: as, ρ)) ρ
  | some (.p _) => bnd fs (fun as ρ => some (.b i :: as, ρ)) ρ
  | _ => none
theorem Fit.lst {L : Nat → Addr → Prop} {Y Y' Z : Addr → Prop} {H : Hp} {σ : L2.St} {ρ : En} (g : Fit K cl L Y Z H σ ρ) (h : ∀ a, Y' a ↔ Y a) : Fit K cl L Y' Z H σ ρ := g.less fun a z => (h a).mp z
theorem sa_nil : SemA K cl tNil aNil := fun L Y Z H σ ρ as ρ' Q g e q => by
  cases e
  exact q [] [] Z H .refl (fun _ z => by cases z) (g.lst fun a => by simp) .nil
theorem ArgR.ext {σ : L2.St} {Y Z Z' : Addr → Prop} {H H' : Hp} (x : Ext Y Z H Z' H') {vs as l} (k : ∀ a ∈ l, ∀ o, H a = some o → H' a = some o) (h : ArgR K cl σ Z H vs as l) : ArgR K cl σ Z' H' vs as l := by
  induction h with
  | nil => exact .nil
  | s r _ ih => exact .s (r.ext x) (ih k)
  | t r n _ ih => exact .t (r.ext x (k _ (by simp))) n (ih fun a h => k a (List.mem_cons_of_mem _ h))
  | b e _ ih => exact .b e (ih k)
theorem sa_s {t ts f fs} (h : SemV K cl t f) (hs : SemA K cl ts fs) : SemA K cl (tCons t ts) (aS f fs) := by
  intro L Y Z H σ ρ as ρ' Q g e q
  obtain ⟨d, ρ1, e1, e2⟩ := bnd_some e
  obtain ⟨as', ρ2, e3, e4⟩ := bnd_some e2
  cases e4
  refine h L Y Z H σ ρ d ρ1 _ g e1 fun v Z1 H1 x1 g1 r1 => hs L Y Z1 H1 σ ρ1 as' _ _ g1 e3 fun vs l Z2 H2 x2 n2 g2 r2 => ?_
  exact q _ l _ _ (x1.trans x2) n2 g2 (.s (r1.ext x2) r2)
theorem sa_e {t ts f fs} (h : SemE K cl t f) (hs : SemA K cl ts fs) : SemA K cl (tCons t ts) (aE f fs) := by
  intro L Y Z H σ ρ as ρ' Q g e q
  obtain ⟨r, ρ1, e1, e2⟩ := bnd_some e
  obtain ⟨as', ρ2, e3, e4⟩ := bnd_some e2
  split at e4
  · rename_i d
    cases e4
    refine h.has g e1 ⟨d, rfl⟩ fun v Z1 H1 x1 h1 => hs L Y Z1 H1 σ ρ1 as' _ _ h1.1 e3 fun vs l Z2 H2 x2 n2 g2 r2 => ?_
    exact q _ l _ _ (x1.trans x2) n2 g2 (.s (h1.2.ext x2) r2)
  · rename_i d
    cases e4
    refine h.has g e1 ⟨d, rfl⟩ fun v Z1 H1 x1 h1 => ?_
    obtain ⟨a, rfl, na, g1, o1⟩ := h1
    refine hs L _ Z1 H1 σ ρ1 as' _ _ g1 e3 fun vs l Z2 H2 x2 n2 g2 r2 => ?_
    have nal : a ∉ l := fun z => n2 a z (.inr rfl)
    refine q _ (a :: l) Z2 H2 (x1.trans (x2.less fun _ z => .inl z)) (fun b hb => ?_) (g2.lst fun b => ?_) (.t (o1.ext x2 fun o e => x2.keep a o (.inr (.inr rfl)) e) nal r2)
    · rcases List.mem_cons.mp hb with rfl | hb
      · exact na
      · exact fun z => n2 b hb (.inl z)
    · rw [List.mem_cons, or_assoc]
  · cases e4
theorem sa_b {ts fs} (i : Nat) (hs : SemA K cl ts fs) : SemA K cl (tCons (tVar i) ts) (aB i fs) := by
  intro L Y Z H σ ρ as ρ' Q g e q
  unfold aB at e
  split at e
  · rename_i d hd
    obtain ⟨as', ρ2, e3, e4⟩ := bnd_some e
    cases e4
    obtain ⟨v, e1, r1⟩ := g.sl i _ hd
    exact ⟨v, e1, hs L Y Z H σ ρ as' _ _ g e3 fun vs l Z2 H2 x2 n2 g2 r2 => q _ l _ _ x2 n2 g2 (.s (r1.ext x2) r2)⟩
  · rename_i d hd
    obtain ⟨as', ρ2, e3, e4⟩ := bnd_some e
    cases e4
    obtain ⟨v, e1, r1⟩ := g.sl i _ hd
    exact ⟨_, e1, hs L Y Z H σ ρ as' _ _ g e3 fun vs l Z2 H2 x2 n2 g2 r2 => q _ l _ _ x2 n2 g2 (.b e1 r2)⟩
  · rename_i d hd
    obtain ⟨as', ρ2, e3, e4⟩ := bnd_some e
    cases e4
    obtain ⟨v, e1, r1⟩ := g.sl i _ hd
    exact ⟨_, e1, hs L Y Z H σ ρ as' _ _ g e3 fun vs l Z2 H2 x2 n2 g2 r2 => q _ l _ _ x2 n2 g2 (.b e1 r2)⟩
  · cases e
/-! ### a call -/
def resolve (ρ : En) : List Arg → Option (List Sl)
  | [] => some []
  | .s d :: as => (resolve ρ as).map fun xs => .s d :: xs
  | .t d :: as => (resolve ρ as).map fun xs => .p d :: xs
  | .b i :: as => match ρ[i]? with
    | some (.o d) => (resolve ρ as).map fun xs => .p d :: xs
    | some (.p d) => (resolve ρ as).map fun xs => .p d :: xs
    | _ => none
def putBack : List Arg → List Sl → En → En
  | .b i :: as, .p d :: os, ρ => putBack as os (match ρ[i]? with
    | some (.o _) => ρ.set i (.o d)
    | some (.p _) => ρ.set i (.p d)
    | _ => ρ)
  | _ :: as, _ :: os, ρ => putBack as os ρ
  | _, _, ρ => ρ
def slots : List Arg → List Nat
  | [] => []
  | .b i :: as => i :: slots as
  | _ :: as => slots as
def nodupB : List Nat → Bool
  | [] => true
  | i :: l => !l.contains i && nodupB l
theorem nodupB_iff : ∀ {l : List Nat}, nodupB l = true → l.Nodup
  | [], _ => List.nodup_nil
  | i :: l, h => by
    simp only [nodupB, Bool.and_eq_true, Bool.not_eq_true', List.contains_eq_mem, decide_eq_false_iff_not] at h
    exact List.nodup_cons.mpr ⟨h.1, nodupB_iff h.2⟩
def callF (n : Nat) (F : FF) (dds : List D) (as : List Arg) (ρ : En) : Option (Sl × En) :=
  if nodupB (slots as) = true ∧ as.length + dds.length = n then
    match resolve ρ as with
    | some ins => (match F (ins ++ dds.map .s) with
      | some (.s d, os) => some (.s d, putBack as os ρ)
      | some (.o d, os) => some (.o d, putBack as os ρ)
      | _ => none)
    | none => none
  else none
def fCall (n : Nat) (F : FF) (dds : List D) (fa : En → Option (List Arg × En)) : En → Option (Sl × En) := bnd fa fun as ρ => callF n F dds as ρ
theorem resolve_ok {L : Nat → Addr → Prop} {Y Z : Addr → Prop} {H : Hp} {σ : L2.St} {ρ : En} : ∀ {vs : List V} {as : List Arg} {l : List Addr} {ins : List Sl}, ArgR K cl σ Z H vs as l → resolve ρ as = some ins → (slots as).Nodup → (∀ a ∈ l, ∀ i, ¬ Own σ ρ i a) → (∀ i j a, Own σ ρ i a → Own σ ρ j a → i = j) →
    Fit K cl L Y Z H σ ρ → vs.length = ins.length ∧ vs.length = as.length ∧
    (∀ (j : Nat) x, ins[j]? = some x → ∃ v, vs[j]? = some v ∧ ((∃ d, x = .s d ∧ Rep K cl Z H v d) ∨ ∃ a d, x = .p d ∧ v = .ref a ∧ OwnR K cl Z H a d ∧ (a ∈ l ∨ ∃ i ∈ slots as, Own σ ρ i a))) ∧
    (∀ (j j' : Nat) a d d', ins[j]? = some (.p d) → ins[j']? = some (.p d') → vs[j]? = some (.ref a) → vs[j']? = some (.ref a) → j = j') ∧
    (∀ (j : Nat) i, as[j]? = some (.b i) → ∃ a d, vs[j]? = some (.ref a) ∧ Own σ ρ i a ∧ ins[j]? = some (.p d)) := by
  intro vs as l ins h
  induction h generalizing ins with
  | nil =>
    intro e _ _ _ _
    cases e
    exact ⟨rfl, rfl, fun j x h => by simp at h, fun j j' a d d' h => by simp at h, fun j i h => by simp at h⟩
  | @s v d vs as l r hr ih =>
    intro e nd nl ap g
    obtain ⟨xs, e1, e2⟩ := omap e
    subst e2
    obtain ⟨i1, i1', i2, i3, i4⟩ := ih e1 nd nl ap g
    refine ⟨by rw [List.length_cons, List.length_cons, i1], by rw [List.length_cons, List.length_cons, i1'], fun j x h => ?_, fun j j' a d d' h h' w w' => ?_, fun j i h => ?_⟩
    · cases j with
      | zero => cases h; exact ⟨v, rfl, .inl ⟨d, rfl, r⟩⟩
      | succ j => exact i2 j x h
    · cases j with
      | zero => cases h
      | succ j =>
        cases j' with
        | zero => cases h'
        | succ j' => rw [i3 j j' a d d' h h' w w']
    · cases j with
      | zero => cases h
      | succ j => exact i4 j i h
  | @t a d vs as l r hn hr ih =>
    intro e nd nl ap g
    obtain ⟨xs, e1, e2⟩ := omap e
    subst e2
    obtain ⟨i1, i1', i2, i3, i4⟩ := ih e1 nd (fun b hb => nl b (List.mem_cons_of_mem _ hb)) ap g
    have far : ∀ (j : Nat) (b : Addr) (d' : D), xs[j]? = some (.p d') → vs[j]? = some (.ref b) → b ≠ a := by
      intro j b d' h w z
      subst z
      obtain ⟨v, w', q⟩ := i2 j _ h
      rw [w] at w'; cases w'
      rcases q with ⟨_, q, _⟩ | ⟨a', _, _, q, _, q'⟩
      · cases q
      · cases q
        rcases q' with q' | ⟨i, _, o⟩
        · exact hn q'
        · exact nl _ (by simp) i o
    refine ⟨by rw [List.length_cons, List.length_cons, i1], by rw [List.length_cons, List.length_cons, i1'], fun j x h => ?_, fun j j' b d1 d2 h h' w w' => ?_, fun j i h => ?_⟩
    · cases j with
      | zero => cases h; exact ⟨_, rfl, .inr ⟨a, d, rfl, rfl, r, .inl (by simp)⟩⟩
      | succ j =>
        obtain ⟨v, w, q⟩ := i2 j x h
        refine ⟨v, w, q.imp id fun ⟨b, d', q1, q2, q3, q4⟩ => ⟨b, d', q1, q2, q3, q4.imp (fun z => List.mem_cons_of_mem _ z) id⟩⟩
    · cases j with
      | zero =>
        cases j' with
        | zero => rfl
        | succ j' => cases w; exact absurd rfl (far j' _ d2 h' w')
      | succ j =>
        cases j' with
        | zero => cases w'; exact absurd rfl (far j _ d1 h w)
        | succ j' => rw [i3 j j' b d1 d2 h h' w w']
    · cases j with
      | zero => cases h
      | succ j => exact i4 j i h
  | @b i v vs as l hv hr ih =>
    intro e nd nl ap g
    have key : ∃ a d xs, v = .ref a ∧ Own σ ρ i a ∧ OwnR K cl Z H a d ∧ resolve ρ as = some xs ∧ ins = .p d :: xs := by
      simp only [resolve] at e
      split at e
      · rename_i d hd
        obtain ⟨xs, e1, e2⟩ := omap e
        obtain ⟨a, w1, w2, _⟩ := g.sl i _ hd
        rw [hv] at w1
        have w3 : v = .ref a := by injection w1 with w1; injection w1
        exact ⟨a, d, xs, w3, ⟨by rw [hv, w3], d, .inl hd⟩, w2, e1, e2.symm⟩
      · rename_i d hd
        obtain ⟨xs, e1, e2⟩ := omap e
        obtain ⟨a, w1, w2, _⟩ := g.sl i _ hd
        rw [hv] at w1
        have w3 : v = .ref a := by injection w1 with w1; injection w1
        exact ⟨a, d, xs, w3, ⟨by rw [hv, w3], d, .inr hd⟩, w2, e1, e2.symm⟩
      · cases e
    obtain ⟨a, d, xs, rfl, oa, ra, e1, rfl⟩ := key
    obtain ⟨nd1, nd2⟩ := List.nodup_cons.mp nd
    obtain ⟨i1, i1', i2, i3, i4⟩ := ih e1 nd2 nl ap g
    have far : ∀ (j : Nat) (b : Addr) (d' : D), xs[j]? = some (.p d') → vs[j]? = some (.ref b) → b ≠ a := by
      intro j b d' h w z
      subst z
      obtain ⟨v, w', q⟩ := i2 j _ h
      rw [w] at w'; cases w'
      rcases q with ⟨_, q, _⟩ | ⟨a', _, _, q, _, q'⟩
      · cases q
      · cases q
        rcases q' with q' | ⟨i', hi', o⟩
        · exact nl _ q' i oa
        · rw [ap i i' _ oa o] at nd1
          exact nd1 hi'
    refine ⟨by rw [List.length_cons, List.length_cons, i1], by rw [List.length_cons, List.length_cons, i1'], fun j x h => ?_, fun j j' b d1 d2 h h' w w' => ?_, fun j i' h => ?_⟩
    · cases j with
      | zero => cases h; exact ⟨_, rfl, .inr ⟨a, d, rfl, rfl, ra, .inr ⟨i, by simp [slots], oa⟩⟩⟩
      | succ j =>
        obtain ⟨v, w, q⟩ := i2 j x h
        refine ⟨v, w, q.imp id fun ⟨b, d', q1, q2, q3, q4⟩ => ⟨b, d', q1, q2, q3, q4.imp id fun ⟨i', h1, h2⟩ => ⟨i', by simp [slots, h1], h2⟩⟩⟩
    · cases j with
      | zero =>
        cases j' with
        | zero => rfl
        | succ j' => cases w; exact absurd rfl (far j' _ d2 h' w')
      | succ j =>
        cases j' with
        | zero => cases w'; exact absurd rfl (far j _ d1 h w)
        | succ j' => rw [i3 j j' b d1 d2 h h' w w']
    · cases j with
      | zero => cases h; exact ⟨a, d, rfl, oa, rfl⟩
      | succ j => exact i4 j i' h
theorem putBack_len : ∀ (as : List Arg) (os : List Sl) (ρ : En), (putBack as os ρ).length = ρ.length
  | [], _, _ => by simp [putBack]
  | .s _ :: as, [], ρ => by simp [putBack]
  | .s _ :: as, _ :: os, ρ => by simp only [putBack]; exact putBack_len as os ρ
  | .t _ :: as, [], ρ => by simp [putBack]
  | .t _ :: as, _ :: os, ρ => by simp only [putBack]; exact putBack_len as os ρ
  | .b i :: as, [], ρ => by simp [putBack]
  | .b i :: as, .un :: os, ρ => by simp only [putBack]; exact putBack_len as os ρ
  | .b i :: as, .s _ :: os, ρ => by simp only [putBack]; exact putBack_len as os ρ
  | .b i :: as, .o _ :: os, ρ => by simp only [putBack]; exact putBack_len as os ρ
  | .b i :: as, .p d :: os, ρ => by
    simp only [putBack]
    rw [putBack_len as os]
    split <;> simp
def tagd (x : Option Sl) (d : D) : Option Sl := match x with
  | some (.o _) => some (.o d)
  | some (.p _) => some (.p d)
  | y => y
theorem putBack_get : ∀ (as : List Arg) (os : List Sl) (ρ : En) (i : Nat), (slots as).Nodup → (i ∉ slots as → (putBack as os ρ)[i]? = ρ[i]?) ∧ ∀ (j : Nat) d, as[j]? = some (.b i) → os[j]? = some (.p d) → (putBack as os ρ)[i]? = tagd ρ[i]? d
  | [], os, ρ, i, _ => by simp [putBack]
  | .s _ :: as, [], ρ, i, _ => by simp [putBack]
  | .t _ :: as, [], ρ, i, _ => by simp [putBack]
  | .b _ :: as, [], ρ, i, _ => by simp [putBack]
  | .s _ :: as, o :: os, ρ, i, h => by
    obtain ⟨h1, h2⟩ := putBack_get as os ρ i h
    simp only [putBack]
    refine ⟨h1, fun j d e e' => ?_⟩
    cases j with
    | zero => cases e
    | succ j => exact h2 j d e e'
  | .t _ :: as, o :: os, ρ, i, h => by
    obtain ⟨h1, h2⟩ := putBack_get as os ρ i h
    simp only [putBack]
    refine ⟨h1, fun j d e e' => ?_⟩
    cases j with
    | zero => cases e
    | succ j => exact h2 j d e e'
  | .b k :: as, o :: os, ρ, i, h => by
    obtain ⟨n1, n2⟩ := List.nodup_cons.mp (show (k :: slots as).Nodup from h)
    cases o with
    | p d0 =>
      simp only [putBack]
      obtain ⟨h1, h2⟩ := putBack_get as os (match ρ[k]? with
        | some (.o _) => ρ.set k (.o d0)
        | some (.p _) => ρ.set k (.p d0)
        | _ => ρ) i n2
      have at_k : ∀ m, m ≠ k → (match ρ[k]? with
        | some (.o _) => ρ.set k (.o d0)
        | some (.p _) => ρ.set k (.p d0)
        | _ => ρ)[m]? = ρ[m]? := by
        intro m hm
        split
        · rw [List.getElem?_set_ne (fun z => hm z.symm)]
        · rw [List.getElem?_set_ne (fun z => hm z.symm)]
        · rfl
      refine ⟨fun hi => ?_, fun j d e e' => ?_⟩
      · simp only [slots, List.mem_cons, not_or] at hi
        rw [h1 hi.2, at_k i hi.1]
      · cases j with
        | zero =>
          cases e
          cases e'
          rw [h1 n1]
          unfold tagd
          split
          · rename_i z hz
            rw [List.getElem?_set_self (List.getElem?_eq_some_iff.mp hz).1]
          · rename_i z hz
            rw [List.getElem?_set_self (List.getElem?_eq_some_iff.mp hz).1]
          · rfl
        | succ j =>
          have hi : i ∈ slots as := by
            have : ∀ {as : List Arg} {j : Nat}, as[j]? = some (.b i) → i ∈ slots as := by
              intro as
              induction as with
              | nil => intro j h; simp at h
              | cons a as ih =>
                intro j h
                cases j with
                | zero => cases h; simp [slots]
                | succ j =>
                  have := ih (j := j) h
                  cases a <;> simp [slots, this]
            exact this e
          rw [h2 j d e e', at_k i (fun z => n1 (z ▸ hi))]
    | un =>
      simp only [putBack]
      obtain ⟨h1, h2⟩ := putBack_get as os ρ i n2
      refine ⟨fun hi => h1 (fun z => hi (by simp [slots, z])), fun j d e e' => ?_⟩
      cases j with
      | zero => cases e'
      | succ j => exact h2 j d e e'
    | s _ =>
      simp only [putBack]
      obtain ⟨h1, h2⟩ := putBack_get as os ρ i n2
      refine ⟨fun hi => h1 (fun z => hi (by simp [slots, z])), fun j d e e' => ?_⟩
      cases j with
      | zero => cases e'
      | succ j => exact h2 j d e e'
    | o _ =>
      simp only [putBack]
      obtain ⟨h1, h2⟩ := putBack_get as os ρ i n2
      refine ⟨fun hi => h1 (fun z => hi (by simp [slots, z])), fun j d e e' => ?_⟩
      cases j with
      | zero => cases e'
      | succ j => exact h2 j d e e'
end
end Pu
/-! The pure layer: the call, by the callee's function. -/
namespace Pu
open PySem PySem.Spec PyProof.Rows L2
section
variable {K : PySem.W.Frag} {cl : Cl}
theorem map_s_get {dds : List D} {j : Nat} {x : Sl} (h : (dds.map Sl.s)[j]? = some x) : ∃ d, dds[j]? = some d ∧ x = .s d := by
  rw [List.getElem?_map] at h
  cases q : dds[j]? with
  | none => rw [q] at h; cases h
  | some d => rw [q] at h; exact ⟨d, rfl, (Option.some.inj h).symm⟩
theorem own_slot {as : List Arg} {j i : Nat} : as[j]? = some (.b i) → i ∈ slots as := by
  induction as generalizing j with
  | nil => intro h; simp at h
  | cons a as ih =>
    intro h
    cases j with
    | zero => cases h; simp [slots]
    | succ j => have := ih (j := j) h; cases a <;> simp [slots, this]
theorem slot_at {as : List Arg} {i : Nat} : i ∈ slots as → ∃ j : Nat, as[j]? = some (.b i) := by
  induction as with
  | nil => intro h; cases h
  | cons a as ih =>
    intro h
    cases a with
    | b k =>
      rcases List.mem_cons.mp (show i ∈ k :: slots as from h) with rfl | h
      · exact ⟨0, rfl⟩
      · obtain ⟨j, e⟩ := ih h; exact ⟨j + 1, e⟩
    | s _ => obtain ⟨j, e⟩ := ih h; exact ⟨j + 1, e⟩
    | t _ => obtain ⟨j, e⟩ := ih h; exact ⟨j + 1, e⟩
theorem tagd_own {σ : L2.St} {ρ ρ2 : En} {i : Nat} {a : Addr} {d : D} (h : ρ2[i]? = tagd ρ[i]? d) (o : Own σ ρ2 i a) : Own σ ρ i a := by
  obtain ⟨e, d', q⟩ := o
  rw [h] at q
  unfold tagd at q
  split at q
  · rename_i d0 h0; exact ⟨e, d0, .inl h0⟩
  · rename_i d0 h0; exact ⟨e, d0, .inr h0⟩
  · rename_i y n1 n2
    rcases q with q | q
    · exact absurd q (n1 d')
    · exact absurd q (n2 d')
/-- the call: arguments are at hand, the function tells, the caller goes on -/
theorem call_ok {L : Nat → Addr → Prop} {Y Z : Addr → Prop} {H : Hp} {σ : L2.St} {ρ ρ2 : En} {vs dvs : List V} {dds : List D} {as : List Arg} {l : List Addr} {n : Nat} {F : FF} {r : Sl} {Q : VK} {E : XK}
    (hd : RepAll K cl Z H dvs dds) (g : Fit K cl L (fun b => Y b ∨ b ∈ l) Z H σ ρ) (ny : ∀ a ∈ l, ¬ Y a) (ha : ArgR K cl σ Z H vs as l) (e : callF n F dds as ρ = some (r, ρ2))
    (q : ∀ v Z' H', Ext Y Z H Z' H' → Has K cl L Y Z' H' σ ρ2 v r → Q v H') : FSp K cl n F (vs ++ dvs) H Q E := by
  unfold callF at e
  split at e
  · rename_i hc
    obtain ⟨hc, hlen⟩ := hc
    have nd := nodupB_iff hc
    cases er : resolve ρ as with
    | none => rw [er] at e; cases e
    | some ins =>
      rw [er] at e
      obtain ⟨i1, i1', i2, i3, i4⟩ := resolve_ok ha er nd (fun a hl i o => (g.own o).2.2 (.inr hl)) g.ap g
      have key : ∃ os, F (ins ++ dds.map .s) = some (r, os) ∧ ρ2 = putBack as os ρ ∧ ∃ d, r.d = some d := by
        simp only at e
        split at e
        · rename_i d os h
          cases e
          exact ⟨os, h, rfl, d, rfl⟩
        · rename_i d os h
          cases e
          exact ⟨os, h, rfl, d, rfl⟩
        · cases e
      clear e
      obtain ⟨os, eF, rfl, hr⟩ := key
      have ld := hd.length
      let Yc : Addr → Prop := fun b => Y b ∨ ∃ i, Own σ ρ i b ∧ i ∉ slots as
      have getL : ∀ {j : Nat}, j < vs.length → (vs ++ dvs)[j]? = vs[j]? ∧ (ins ++ dds.map Sl.s)[j]? = ins[j]? := fun hj => ⟨List.getElem?_append_left hj, List.getElem?_append_left (by omega)⟩
      have pL : ∀ {j : Nat} {d : D}, (ins ++ dds.map Sl.s)[j]? = some (.p d) → j < vs.length ∧ ins[j]? = some (.p d) := by
        intro j d h
        by_cases hj : j < vs.length
        · exact ⟨hj, by rw [← (getL hj).2]; exact h⟩
        · rw [List.getElem?_append_right (by omega)] at h
          obtain ⟨_, _, z⟩ := map_s_get h
          cases z
      -- what a lent thing is
      have lent : ∀ {j : Nat} {d : D} {a : Addr}, ins[j]? = some (.p d) → vs[j]? = some (.ref a) → OwnR K cl Z H a d ∧ ¬ Z a ∧ ¬ Yc a := by
        intro j d a h w
        obtain ⟨v, w', z⟩ := i2 j _ h
        rw [w] at w'; cases w'
        rcases z with ⟨_, z, _⟩ | ⟨a', d', z1, z2, z3, z4⟩
        · cases z
        · cases z1; cases z2
          refine ⟨z3, ?_, ?_⟩
          · rcases z4 with z4 | ⟨i, _, o⟩
            · exact g.yz _ (.inr z4)
            · exact (g.own o).2.1
          · rintro (y | ⟨k, ok, nk⟩)
            · rcases z4 with z4 | ⟨i, _, o⟩
              · exact ny _ z4 y
              · exact (g.own o).2.2 (.inl y)
            · rcases z4 with z4 | ⟨i, hi, o⟩
              · exact (g.own ok).2.2 (.inr z4)
              · rw [g.ap k i _ ok o] at nk; exact nk hi
      have ownIn : ∀ {j : Nat} {a : Addr}, Own ((vs ++ dvs).map some) (ins ++ dds.map Sl.s) j a → ∃ d, ins[j]? = some (.p d) ∧ vs[j]? = some (.ref a) := by
        rintro j a ⟨w, d, h⟩
        have h' : (ins ++ dds.map Sl.s)[j]? = some (.p d) := by
          rcases h with h | h
          · exfalso
            by_cases hj : j < vs.length
            · rw [(getL hj).2] at h
              obtain ⟨v, _, z⟩ := i2 j _ h
              rcases z with ⟨_, z, _⟩ | ⟨_, _, z, _⟩ <;> cases z
            · rw [List.getElem?_append_right (by omega)] at h
              obtain ⟨_, _, z⟩ := map_s_get h
              cases z
          · exact h
        obtain ⟨hj, hp⟩ := pL h'
        refine ⟨d, hp, ?_⟩
        rw [List.getElem?_map, (getL hj).1] at w
        cases z : vs[j]? with
        | none => rw [z] at w; cases w
        | some v => rw [z] at w; injection w with w
      have fit : Fit K cl (lentBy (vs ++ dvs) (ins ++ dds.map Sl.s)) Yc Z H ((vs ++ dvs).map some) (ins ++ dds.map Sl.s) := by
        refine ⟨g.zd, fun a y => ?_, fun a y hz => ?_, by simp [i1, ld], fun j x h => ?_, fun j j' a o o' => ?_, fun j a => ?_⟩
        · rcases y with y | ⟨i, o, _⟩
          · exact g.yd a (.inl y)
          · exact (g.own o).1
        · rcases y with y | ⟨i, o, _⟩
          · exact g.yz a (.inl y) hz
          · exact (g.own o).2.1 hz
        · by_cases hj : j < vs.length
          · rw [(getL hj).2] at h
            obtain ⟨v, w, z⟩ := i2 j x h
            have w2 : ((vs ++ dvs).map some)[j]? = some (some v) := by rw [List.getElem?_map, (getL hj).1, w]; rfl
            rcases z with ⟨d, rfl, z⟩ | ⟨a, d, rfl, rfl, z3, _⟩
            · exact ⟨v, w2, z⟩
            · obtain ⟨l1, l2, l3⟩ := lent h w
              exact ⟨a, w2, l1, l2, l3⟩
          · rw [List.getElem?_append_right (by omega)] at h
            obtain ⟨d, z1, z2⟩ := map_s_get h
            subst z2
            obtain ⟨v, w, z⟩ := hd.get z1
            exact ⟨v, by rw [List.getElem?_map, List.getElem?_append_right (by omega), i1, w]; rfl, z⟩
        · obtain ⟨d, h, w⟩ := ownIn o
          obtain ⟨d', h', w'⟩ := ownIn o'
          exact i3 j j' a d d' h h' w w'
        · unfold lentBy
          rw [List.getElem?_map]
          refine and_congr_left fun _ => ?_
          cases (vs ++ dvs)[j]? with
          | none => simp
          | some v => simp
      refine ⟨by rw [List.length_append]; omega, Yc, Z, _, os, r, fit, eF, fun v Z' H' x h => ?_⟩
      -- behind the call
      have xY : Ext Y Z H Z' H' := x.less fun _ z => .inl z
      have back : ∀ {Ya : Addr → Prop}, (∀ b, Y b → Ya b) → (∀ b, Ya b → Y b ∨ ¬ Yc b ∧ True) → Fit K cl (lentBy (vs ++ dvs) (ins ++ dds.map Sl.s)) (fun b => Yc b ∨ Ya b) Z' H' ((vs ++ dvs).map some) os → Fit K cl L Ya Z' H' σ (putBack as os ρ) := by
        intro Ya hY hY2 g2
        -- a lent slot's new content
        have cont : ∀ {i j : Nat}, as[j]? = some (.b i) → ∃ a d, σ[i]? = some (some (.ref a)) ∧ os[j]? = some (.p d) ∧ OwnR K cl Z' H' a d ∧ ¬ Z' a ∧ ¬ Ya a ∧ (putBack as os ρ)[i]? = tagd ρ[i]? d := by
          intro i j h
          obtain ⟨a, d0, w, o, hp⟩ := i4 j i h
          have hj : j < vs.length := (List.getElem?_eq_some_iff.mp w).1
          obtain ⟨w1, d, hd⟩ := (g2.ln j a).mp ⟨by rw [(getL hj).1]; exact w, d0, by rw [(getL hj).2]; exact hp⟩
          obtain ⟨b, w2, w3, w4, w5⟩ := g2.sl j _ hd
          rw [w1] at w2; cases w2
          exact ⟨a, d, o.1, hd, w3, w4, fun z => w5 (.inr z), (putBack_get as os ρ i nd).2 j d h hd⟩
        have ownB : ∀ {i : Nat} {a : Addr}, Own σ (putBack as os ρ) i a → Own σ ρ i a := by
          intro i a o
          by_cases hi : i ∈ slots as
          · obtain ⟨j, h⟩ := slot_at hi
            obtain ⟨_, d, _, _, _, _, _, z⟩ := cont h
            exact tagd_own z o
          · obtain ⟨w, d, q⟩ := o
            rw [(putBack_get as os ρ i nd).1 hi] at q
            exact ⟨w, d, q⟩
        refine ⟨g2.zd, fun a y => g2.yd a (.inr y), fun a y => g2.yz a (.inr y), by rw [putBack_len]; exact g.len, fun i s h => ?_, fun i j a o o' => g.ap i j a (ownB o) (ownB o'), fun i a => ?_⟩
        · by_cases hi : i ∈ slots as
          · obtain ⟨j, hj⟩ := slot_at hi
            obtain ⟨a, d, w, _, w3, w4, w5, z⟩ := cont hj
            rw [z] at h
            unfold tagd at h
            split at h
            · cases h; exact ⟨a, w, w3, w4, w5⟩
            · cases h; exact ⟨a, w, w3, w4, w5⟩
            · rename_i y n1 n2
              obtain ⟨_, _, _, ⟨_, d', o | o⟩, _⟩ := i4 j i hj
              · exact absurd o (n1 d')
              · exact absurd o (n2 d')
          · rw [(putBack_get as os ρ i nd).1 hi] at h
            refine g.slot x (fun a o => ⟨fun u hu => x.keep a u (.inr (.inr ⟨i, o, hi⟩)) hu, fun z => g2.yz a (.inl (.inr ⟨i, o, hi⟩)) z, fun y => ?_⟩) h
            rcases hY2 a y with y | ⟨y, _⟩
            · exact (g.own o).2.2 (.inl y)
            · exact y (.inr ⟨i, o, hi⟩)
        · rw [g.ln i a]
          by_cases hi : i ∈ slots as
          · obtain ⟨j, hj⟩ := slot_at hi
            obtain ⟨_, d, _, _, _, _, _, z⟩ := cont hj
            rw [z]
            refine and_congr_right fun _ => ?_
            unfold tagd
            split
            · rename_i d0 h0; rw [h0]; simp
            · rename_i d0 h0; rw [h0]; simp
            · rfl
          · rw [(putBack_get as os ρ i nd).1 hi]
      refine q v Z' H' xY ?_
      cases r with
      | un => exact h.elim
      | p d => exact h.elim
      | s d => exact ⟨back (fun _ y => y) (fun _ y => .inl y) (h.1.lst fun a => ⟨fun z => z.elim id fun y => .inl y, .inl⟩), h.2⟩
      | o d =>
        obtain ⟨a, rfl, na, ga, ra⟩ := h
        refine ⟨a, rfl, fun y => na (.inl y), back (Ya := fun b => Y b ∨ b = a) (fun _ y => .inl y) (fun b y => y.imp id fun z => ⟨by rw [z]; exact na, trivial⟩) (ga.lst fun b => ⟨fun z => ?_, fun z => ?_⟩), ra⟩
        · rcases z with z | z | z
          · exact .inl z
          · exact .inl (.inl z)
          · exact .inr z
        · rcases z with z | z
          · exact .inl z
          · exact .inr (.inr z)
  · cases e
theorem se_call {n : Nat} {F : FF} {dvs : List V} {dds : List D} {E : XK} {ta : TA} {fa} (hd : ∀ Z H, RepAll K cl Z H dvs dds) (ha : SemA K cl ta fa) : SemE K cl (tCall (FSp K cl n F) dvs E ta) (fCall n F dds fa) := by
  intro L Y Z H σ ρ r ρ' Q g e q1 q2 hr
  obtain ⟨as, ρ1, e1, e2⟩ := bnd_some e
  refine ha L Y Z H σ ρ as ρ1 _ g e1 fun vs l Z1 H1 x1 n1 g1 a1 => call_ok (hd Z1 H1) g1 n1 a1 e2 fun v Z2 H2 x2 h2 => ?_
  cases r with
  | un => exact h2.elim
  | p d => exact h2.elim
  | s d => exact q1 d rfl v Z2 H2 (x1.trans x2) h2.1 h2.2
  | o d =>
    obtain ⟨a, rfl, na, ga, ra⟩ := h2
    exact q2 d rfl a Z2 H2 (x1.trans x2) na ga ra
end
end Pu
/-! The pure layer: operators and built-in calls on data. -/
namespace Pu
open PySem PySem.Spec PyProof.Rows L2
/-! ### readings given by functions -/
section
variable (K : PySem.W.Frag) (cl : Cl)
def rG1 (g : D → Option D) : V → Hp → VK → Prop := fun x H Q => ∃ (Z : Addr → Prop) (dx d : D), RepS K cl Z H x dx ∧ g dx = some d ∧ ∀ v H', Same H H' → Rep K cl Z H' v d → Q v H'
def rG2 (g : D → D → Option D) : R2 := fun x y H Q => ∃ (Z : Addr → Prop) (dx dy d : D), RepS K cl Z H x dx ∧ RepS K cl Z H y dy ∧ g dx dy = some d ∧ ∀ v H', Same H H' → Rep K cl Z H' v d → Q v H'
def rG2e (g : D → D → Option Sl) : R2 := fun x y H Q => ∃ (Z : Addr → Prop) (dx dy : D) (s : Sl), RepS K cl Z H x dx ∧ RepS K cl Z H y dy ∧ g dx dy = some s ∧ VR K cl Z H Q s
def rGn (g : List D → Option D) : List V → Hp → VK → Prop := fun xs H Q => ∃ (Z : Addr → Prop) (ds : List D) (d : D), RepSs K cl Z H xs ds ∧ g ds = some d ∧ ∀ v H', Same H H' → Rep K cl Z H' v d → Q v H'
def rGne (g : List D → Option Sl) : List V → Hp → VK → Prop := fun xs H Q => ∃ (Z : Addr → Prop) (ds : List D) (s : Sl), RepSs K cl Z H xs ds ∧ g ds = some s ∧ VR K cl Z H Q s
variable {K cl}
theorem rs1 {g} : RS1 K cl (rG1 K cl g) g := fun Z H x dx d Q h e q => ⟨Z, dx, d, h, e, q⟩
theorem rs2 {g} : RS2 K cl (rG2 K cl g) g := fun Z H x y dx dy d Q h h' e q => ⟨Z, dx, dy, d, h, h', e, q⟩
theorem rs2e {g} : RS2e K cl (rG2e K cl g) g := fun Z H x y dx dy s Q h h' e q => ⟨Z, dx, dy, s, h, h', e, q⟩
theorem rsn {g} : RSn K cl (rGn K cl g) g := fun Z H xs ds d Q h e q => ⟨Z, ds, d, h, e, q⟩
theorem rsne {g} : RSne K cl (rGne K cl g) g := fun Z H xs ds s Q h e q => ⟨Z, ds, s, h, e, q⟩
theorem Same.up {H : Hp} {p : Addr} {o : HO} (h : H p = none) : Same H (upd H p o) := fun b u e => by rw [upd_ne (ne_of_none e h)]; exact e
theorem RepAll.same {Z : Addr → Prop} {H H' : Hp} {vs : List V} {ds : List D} (h : RepAll K cl Z H vs ds) (k : Same H H') : RepAll K cl Z H' vs ds := h.ext (Ext.same (Y := fun _ => False) k)
theorem Rep.same {Z : Addr → Prop} {H H' : Hp} {v : V} {d : D} (h : Rep K cl Z H v d) (k : Same H H') : Rep K cl Z H' v d := h.ext (Ext.same (Y := fun _ => False) k)
/-- a new list, a new tuple -/
theorem vr_new {Z : Addr → Prop} {H : Hp} {Q : VK} {vs : List V} {ds : List D} (r : RepAll K cl Z H vs ds) (q : VR K cl Z H Q (.o (.list ds))) : ∀ p, H p = none → Q (.ref p) (upd H p (.lst vs)) := fun p np =>
  q.2 _ rfl p _ (Same.up np) np ⟨vs, upd_same, r.same (Same.up np)⟩
theorem vr_tup {Z : Addr → Prop} {H : Hp} {Q : VK} {vs : List V} {ds : List D} (r : RepAll K cl Z H vs ds) (q : ∀ v H', Same H H' → Rep K cl Z H' v (.tuple ds) → Q v H') : ∀ p, H p = none → Q (.ref p) (upd H p (.tup vs)) := fun p np =>
  q _ _ (Same.up np) (.tup (.of upd_same) (r.same (Same.up np)))
/-! ### data that the kit knows -/
mutual
theorem Rep.dp {Z : Addr → Prop} {H : Hp} : ∀ {v : V} {d : D}, Rep K cl Z H v d → d.hasDict = false → Dp K H v d
  | _, _, .non, _ => .non
  | _, _, .bl b, _ => .bl b
  | _, _, .int i, _ => .int i
  | _, _, .str s, _ => .str s
  | _, _, .tup h a, e => .tup h (RepAll.dp a (by simpa [PyData.hasDict] using e))
  | _, _, .lst h a, e => .lst h.sq (RepAll.dp a (by simpa [PyData.hasDict] using e))
  | _, _, .dct _ _ _, e => by simp [PyData.hasDict] at e
  | _, _, .ins _ _ _, e => by simp [PyData.hasDict, insD] at e
theorem RepAll.dp {Z : Addr → Prop} {H : Hp} : ∀ {vs : List V} {ds : List D}, RepAll K cl Z H vs ds → PyData.hasDictAll ds = false → DpAll K H vs ds
  | _, _, .nil, _ => .nil
  | _, _, .cons h t, e => by
    simp only [PyData.hasDictAll, Bool.or_eq_false_iff] at e
    exact .cons (Rep.dp h e.1) (RepAll.dp t e.2)
end
theorem RepS.dp {Z : Addr → Prop} {H : Hp} {v : V} {d : D} (h : RepS K cl Z H v d) (e : d.hasDict = false) : Dp K H v d := by
  cases d with
  | list ds =>
    obtain ⟨a, xs, rfl, ls, ra⟩ := h
    exact .lst ls.sq (ra.dp (by simpa [PyData.hasDict] using e))
  | _ => exact Rep.dp (K := K) (cl := cl) (Z := Z) h e
theorem nodict_of_shaped {d : D} (h : SeqAt.shaped d = true) : d.hasDict = false := PyData.hasDict_of_canLay d (SeqAt.canLay_of_shaped h)
end
/-! ### arithmetic -/
noncomputable def addD : D → D → Option Sl
  | .int a, .int b => some (.s (.int (a + b)))
  | .str a, .str b => if gd (a.length + b.length ≤ sizeLine) = true then some (.s (.str (a ++ b))) else none
  | .tuple a, .tuple b => if gd (a.length + b.length ≤ sizeLine) = true then some (.s (.tuple (a ++ b))) else none
  | .list a, .list b => if gd (a.length + b.length ≤ sizeLine) = true then some (.o (.list (a ++ b))) else none
  | _, _ => none
def subD : D → D → Option D
  | .int a, .int b => some (.int (a - b))
  | _, _ => none
/-- sizes that the kit knows to be no trouble -/
noncomputable def small64 (i : Int) : Bool := gd (-(2 ^ 64) < i ∧ i < 2 ^ 64)
noncomputable def bitsOk (i j : Int) : Bool := small64 i || small64 j || gd ((Builtin.Int.intBits i : Int) + (Builtin.Int.intBits j : Int) ≤ 134217728)
noncomputable def mulI : D → D → Option D
  | .int a, .int b => if bitsOk a b = true then some (.int (a * b)) else none
  | _, _ => none
noncomputable def fdivD : D → D → Option D
  | .int a, .int b => if gd (0 < b ∧ b < 1073741824) = true then some (.int (a / b)) else none
  | _, _ => none
noncomputable def modD : D → D → Option D
  | .int a, .int b => if gd (0 < b) = true then some (.int (a % b)) else none
  | _, _ => none
noncomputable def powD : D → D → Option D
  | .int a, .int b => if gd (0 ≤ b ∧ b ≤ 1000000 ∧ a.natAbs < 2 ^ 64) = true then some (.int (a ^ b.toNat)) else none
  | _, _ => none
noncomputable def shlD : D → D → Option D
  | .int a, .int b => if gd (0 ≤ b ∧ b ≤ 1000000 ∧ a.natAbs < 2 ^ 64) = true then some (.int (a * 2 ^ b.toNat)) else none
  | _, _ => none
noncomputable def shrD : D → D → Option D
  | .int a, .int b => if gd (0 ≤ b) = true then some (.int (a / 2 ^ b.toNat)) else none
  | _, _ => none
def andD : D → D → Option D
  | .int a, .int b => some (.int (Builtin.bitAnd a b))
  | _, _ => none
def orD : D → D → Option D
  | .int a, .int b => some (.int (Builtin.bitOr a b))
  | _, _ => none
def negD : D → Option D
  | .int a => some (.int (-a))
  | _ => none
section
variable {X : Cx} {K : PySem.W.Frag} {cl : Cl}
theorem u_add (hK : X.K = K := by rfl) : OpR X (binaryOp .Add) (rG2e K cl addD) := by
  subst hK
  intro pins s σ H x y v u Q I rx ry h
  obtain ⟨Z, dx, dy, r, hx, hy, e, q⟩ := h
  unfold addD at e
  split at e
  · cases hx; cases hy; cases e
    exact op_add pins s σ H _ _ v u Q I rx ry ⟨_, _, rfl, rfl, q.1 _ rfl _ _ (fun _ _ e => e) (.int _)⟩
  · split at e
    · rename_i hz
      have hz := gd_iff.mp hz
      cases hx; cases hy; cases e
      exact op_add_str pins s σ H _ _ v u Q I rx ry ⟨_, _, rfl, rfl, hz, q.1 _ rfl _ _ (fun _ _ e => e) (.str _)⟩
    · cases e
  · split at e
    · rename_i hz
      have hz := gd_iff.mp hz
      cases e
      cases hx with
      | tup h1 a1 =>
        cases hy with
        | tup h2 a2 => exact op_catW pins s σ H _ _ v u Q I rx ry ⟨_, _, _, _, rfl, rfl, h1, h2, by rw [a1.length, a2.length]; exact hz, fun p H' k t => q.1 _ rfl _ _ k (.tup t ((a1.append a2).same k))⟩
    · cases e
  · split at e
    · rename_i hz
      have hz := gd_iff.mp hz
      cases e
      obtain ⟨a, xs, rfl, h1, a1⟩ := hx
      obtain ⟨b, ys, rfl, h2, a2⟩ := hy
      cases rx
      cases ry
      obtain ⟨z1, its1, n1, r1, e1⟩ := h1.at I
      obtain ⟨z2, its2, n2, r2, e2⟩ := h2.at I
      have l1 := r1.length
      have l2 := r2.length
      have l3 := a1.length
      have l4 := a2.length
      refine PySem.P.add_list e1 e2 ?_ (by rw [List.size_toArray, List.size_toArray]; omega)
      have ea : its1.toArray ++ its2.toArray = (its1 ++ its2).toArray := by simp
      rw [ea]
      exact ⟨.ref _, _, I.lnew (t' := s.toks) (r1.append r2) (by rw [List.length_append]; omega), rfl, vr_new (a1.append a2) q _ I.fresh⟩
    · cases e
  · cases e
theorem u_int2 {op : Operator} {C : Int → Int → Prop} {f : Int → Int → Int} {g : D → D → Option D} (h : OpR X (binaryOp op) (rI C fun i j => .int (f i j))) (hg : ∀ dx dy d, g dx dy = some d → ∃ a b, dx = .int a ∧ dy = .int b ∧ C a b ∧ d = .int (f a b)) :
    OpR X (binaryOp op) (rG2 K cl g) := by
  intro pins s σ H x y v u Q I rx ry hh
  obtain ⟨Z, dx, dy, d, hx, hy, e, q⟩ := hh
  obtain ⟨a, b, rfl, rfl, c, rfl⟩ := hg _ _ _ e
  cases hx
  cases hy
  exact h pins s σ H _ _ v u Q I rx ry ⟨a, b, rfl, rfl, c, q _ _ (fun _ _ e => e) (.int _)⟩
theorem opI_of {op : Operator} {f : Int → Int → Int} (h : OpR X (binaryOp op) (rI0 fun i j => .int (f i j))) : OpR X (binaryOp op) (rI (fun _ _ => True) fun i j => .int (f i j)) := by
  intro pins s σ H x y v u Q I rx ry ⟨i, j, e1, e2, _, q⟩
  exact h pins s σ H x y v u Q I rx ry ⟨i, j, e1, e2, q⟩
theorem u_sub : OpR X (binaryOp .Sub) (rG2 K cl subD) := u_int2 (opI_of op_sub) (fun dx dy d e => by
  unfold subD at e
  split at e
  · cases e; exact ⟨_, _, rfl, rfl, trivial, rfl⟩
  · cases e)
theorem u_band : OpR X (binaryOp .BitAnd) (rG2 K cl andD) := u_int2 (opI_of op_and) (fun dx dy d e => by
  unfold andD at e
  split at e
  · cases e; exact ⟨_, _, rfl, rfl, trivial, rfl⟩
  · cases e)
theorem u_bor : OpR X (binaryOp .BitOr) (rG2 K cl orD) := u_int2 (opI_of op_or) (fun dx dy d e => by
  unfold orD at e
  split at e
  · cases e; exact ⟨_, _, rfl, rfl, trivial, rfl⟩
  · cases e)
theorem small64_iff {i : Int} (h : small64 i = true) : -(2 ^ 64) < i ∧ i < 2 ^ 64 := by
  exact gd_iff.mp h
theorem u_mulI : OpR X (binaryOp .Mult) (rG2 K cl mulI) := by
  intro pins s σ H x y v u Q I rx ry hh
  obtain ⟨Z, dx, dy, d, hx, hy, e, q⟩ := hh
  unfold mulI at e
  split at e
  · rename_i a b
    split at e
    · rename_i c
      cases e
      cases hx
      cases hy
      unfold bitsOk at c
      simp only [Bool.or_eq_true] at c
      have q' := q _ _ (fun _ _ e => e) (.int _)
      rcases c with (c | c) | c
      · exact op_mul pins s σ H _ _ v u Q I rx ry ⟨a, b, rfl, rfl, .inl (small64_iff c), q'⟩
      · exact op_mul pins s σ H _ _ v u Q I rx ry ⟨a, b, rfl, rfl, .inr (small64_iff c), q'⟩
      · exact op_mulX pins s σ H _ _ v u Q I rx ry ⟨a, b, rfl, rfl, gd_iff.mp c, q'⟩
    · cases e
  · cases e
theorem u_fdiv : OpR X (binaryOp .FloorDiv) (rG2 K cl fdivD) := u_int2 op_fdiv (fun dx dy d e => by
  unfold fdivD at e
  split at e
  · split at e
    · rename_i c; cases e; exact ⟨_, _, rfl, rfl, gd_iff.mp c, rfl⟩
    · cases e
  · cases e)
theorem u_mod : OpR X (binaryOp .Mod) (rG2 K cl modD) := u_int2 op_mod (fun dx dy d e => by
  unfold modD at e
  split at e
  · split at e
    · rename_i c; cases e; exact ⟨_, _, rfl, rfl, gd_iff.mp c, rfl⟩
    · cases e
  · cases e)
theorem u_pow : OpR X (binaryOp .Pow) (rG2 K cl powD) := u_int2 op_pow (fun dx dy d e => by
  unfold powD at e
  split at e
  · split at e
    · rename_i c; cases e; exact ⟨_, _, rfl, rfl, gd_iff.mp c, rfl⟩
    · cases e
  · cases e)
theorem u_shl : OpR X (binaryOp .LShift) (rG2 K cl shlD) := u_int2 op_shl (fun dx dy d e => by
  unfold shlD at e
  split at e
  · split at e
    · rename_i c; cases e; exact ⟨_, _, rfl, rfl, gd_iff.mp c, rfl⟩
    · cases e
  · cases e)
theorem u_shr : OpR X (binaryOp .RShift) (rG2 K cl shrD) := u_int2 op_shr (fun dx dy d e => by
  unfold shrD at e
  split at e
  · split at e
    · rename_i c; cases e; exact ⟨_, _, rfl, rfl, gd_iff.mp c, rfl⟩
    · cases e
  · cases e)
theorem u_neg : UnR X (unaryOp .USub) (rG1 K cl negD) := by
  intro pins s σ H x v Q I rx hh
  obtain ⟨Z, dx, d, hx, e, q⟩ := hh
  unfold negD at e
  split at e
  · cases hx; cases e; exact un_neg pins s σ H _ v Q I rx ⟨_, rfl, q _ _ (fun _ _ e => e) (.int _)⟩
  · cases e
/-! ### comparisons -/
def ordD (fi : Int → Int → Bool) (fs : List Nat → List Nat → Bool) : D → D → Option D
  | .int a, .int b => some (.bool (fi a b))
  | .str a, .str b => some (.bool (fs a.cps.toList b.cps.toList))
  | _, _ => none
def ltD := ordD (fun a b => decide (a < b)) (fun a b => decide (a < b))
def leD' := ordD (fun a b => decide (a ≤ b)) (fun a b => !decide (b < a))
def gtD := ordD (fun a b => decide (b < a)) (fun a b => decide (b < a))
def geD := ordD (fun a b => decide (b ≤ a)) (fun a b => !decide (a < b))
theorem u_ord {op : CmpOp} {fi fs} (h1 : OpR X (compareOp op) (rI0 fun i j => .bl (fi i j))) (h2 : OpR X (compareOp op) (fun x y H Q => ∃ i j, x = .str i ∧ y = .str j ∧ Q (.bl (fs i.cps.toList j.cps.toList)) H)) : OpR X (compareOp op) (rG2 K cl (ordD fi fs)) := by
  intro pins s σ H x y v u Q I rx ry hh
  obtain ⟨Z, dx, dy, d, hx, hy, e, q⟩ := hh
  unfold ordD at e
  split at e
  · cases e; cases hx; cases hy
    exact h1 pins s σ H _ _ v u Q I rx ry ⟨_, _, rfl, rfl, q _ _ (fun _ _ e => e) (.bl _)⟩
  · cases e; cases hx; cases hy
    exact h2 pins s σ H _ _ v u Q I rx ry ⟨_, _, rfl, rfl, q _ _ (fun _ _ e => e) (.bl _)⟩
  · cases e
theorem u_lt : OpR X (compareOp .Lt) (rG2 K cl ltD) := u_ord op_lt op_lt_str
theorem u_le : OpR X (compareOp .LtE) (rG2 K cl leD') := u_ord op_le op_le_str
theorem u_gt : OpR X (compareOp .Gt) (rG2 K cl gtD) := u_ord op_gt op_gt_str
theorem u_ge : OpR X (compareOp .GtE) (rG2 K cl geD) := u_ord op_ge op_ge_str
/-- x is None -/
def isNo : D → Bool
  | .none => true
  | _ => false
def isND : D → D → Option D
  | d, .none => some (.bool (isNo d))
  | _, _ => none
def notND : D → D → Option D
  | d, .none => some (.bool !(isNo d))
  | _, _ => none
theorem is_no {Z : Addr → Prop} {H : Hp} {x : V} {d : D} (h : RepS K cl Z H x d) : decide (x = V.non) = isNo d := by
  cases d with
  | list ds => obtain ⟨a, xs, rfl, _⟩ := h; rfl
  | _ => cases h <;> rfl
theorem u_isN : OpR X (compareOp .Is) (rG2 K cl isND) := by
  intro pins s σ H x y v u Q I rx ry hh
  obtain ⟨Z, dx, dy, d, hx, hy, e, q⟩ := hh
  unfold isND at e
  split at e
  · cases hy
    cases e
    have e2 : decide (x = V.non) = isNo _ := is_no hx
    exact op_isN pins s σ H _ _ v u Q I rx ry ⟨rfl, by rw [e2]; exact q _ _ (fun _ _ e => e) (.bl _)⟩
  · cases e
theorem u_notN : OpR X (compareOp .IsNot) (rG2 K cl notND) := by
  intro pins s σ H x y v u Q I rx ry hh
  obtain ⟨Z, dx, dy, d, hx, hy, e, q⟩ := hh
  unfold notND at e
  split at e
  · cases hy
    cases e
    have e2 : (!decide (x = V.non)) = !(isNo _) := congrArg Bool.not (is_no hx)
    exact op_notN pins s σ H _ _ v u Q I rx ry ⟨rfl, by rw [e2]; exact q _ _ (fun _ _ e => e) (.bl _)⟩
  · cases e
/-- == of data -/
def sc2 : D → D → Bool
  | .str _, .str _ => true
  | .int _, .int _ => true
  | .bool _, .bool _ => true
  | .none, .none => true
  | .none, .int _ => true
  | .int _, .none => true
  | .none, .bool _ => true
  | .bool _, .none => true
  | .none, .str _ => true
  | .str _, .none => true
  | .int _, .str _ => true
  | .str _, .int _ => true
  | .bool _, .str _ => true
  | .str _, .bool _ => true
  | _, _ => false
theorem sc2_ok {Z : Addr → Prop} {H : Hp} {x y : V} {a b : D} (hx : RepS K cl Z H x a) (hy : RepS K cl Z H y b) (h : sc2 a b = true) : scal x y = true ∧ decide (x = y) = PyData.eqv a b := by
  have key : ∀ {v : V} {d : D}, RepS K cl Z H v d → (d = .none → v = .non) ∧ (∀ b, d = .bool b → v = .bl b) ∧ (∀ i, d = .int i → v = .int i) ∧ (∀ s, d = .str s → v = .str s) := by
    intro v d h
    refine ⟨?_, ?_, ?_, ?_⟩
    · rintro rfl; cases h; rfl
    · rintro b rfl; cases h; rfl
    · rintro b rfl; cases h; rfl
    · rintro b rfl; cases h; rfl
  obtain ⟨x1, x2, x3, x4⟩ := key hx
  obtain ⟨y1, y2, y3, y4⟩ := key hy
  cases a <;> cases b <;> first | (cases h; done) | skip
  all_goals first | (cases x1 rfl) | (cases x2 _ rfl) | (cases x3 _ rfl) | (cases x4 _ rfl)
  all_goals first | (cases y1 rfl) | (cases y2 _ rfl) | (cases y3 _ rfl) | (cases y4 _ rfl)
  all_goals refine ⟨rfl, ?_⟩
  all_goals simp only [PyData.eqv]
  all_goals first | rfl | (rw [Bool.eq_iff_iff]; simp)
def eqB (a b : D) : Option Bool := if sc2 a b = true ∨ (SeqAt.shaped a = true ∧ SeqAt.shaped b = true) then some (PyData.eqv a b) else none
def eqD (a b : D) : Option D := (eqB a b).map .bool
def neD (a b : D) : Option D := (eqB a b).map fun k => .bool !k
theorem u_eq (hu : X.A.units + 64 < cLine) (hK : X.K = K := by rfl) : OpR X (compareOp .Eq) (rG2 K cl eqD) := by
  subst hK
  intro pins s σ H x y v u Q I rx ry hh
  obtain ⟨Z, dx, dy, d, hx, hy, e, q⟩ := hh
  obtain ⟨k, e1, e2⟩ := omap (show (eqB dx dy).map _ = _ from e)
  subst e2
  clear e
  have e := e1
  clear e1
  unfold eqB at e
  split at e
  · rename_i c
    cases e
    rcases c with c | c
    · obtain ⟨c1, c2⟩ := sc2_ok hx hy c
      exact op_eq pins s σ H _ _ v u Q I rx ry ⟨c1, by rw [c2]; exact q _ _ (fun _ _ e => e) (.bl _)⟩
    · exact op_eqD hu pins s σ H _ _ v u Q I rx ry ⟨dx, dy, hx.dp (nodict_of_shaped c.1), hy.dp (nodict_of_shaped c.2), c.1, c.2, q _ _ (fun _ _ e => e) (.bl _)⟩
  · cases e
theorem u_ne (hu : X.A.units + 64 < cLine) (hK : X.K = K := by rfl) : OpR X (compareOp .NotEq) (rG2 K cl neD) := by
  subst hK
  intro pins s σ H x y v u Q I rx ry hh
  obtain ⟨Z, dx, dy, d, hx, hy, e, q⟩ := hh
  obtain ⟨k, e1, e2⟩ := omap (show (eqB dx dy).map _ = _ from e)
  subst e2
  clear e
  have e := e1
  clear e1
  unfold eqB at e
  split at e
  · rename_i c
    cases e
    rcases c with c | c
    · obtain ⟨c1, c2⟩ := sc2_ok hx hy c
      exact op_ne pins s σ H _ _ v u Q I rx ry ⟨c1, by rw [c2]; exact q _ _ (fun _ _ e => e) (.bl _)⟩
    · exact op_neD hu pins s σ H _ _ v u Q I rx ry ⟨dx, dy, hx.dp (nodict_of_shaped c.1), hy.dp (nodict_of_shaped c.2), c.1, c.2, q _ _ (fun _ _ e => e) (.bl _)⟩
  · cases e
/-- in -/
def inSt (a b : Str) : Bool := !(Builtin.Str.occurrences b a 0 b.length 1).isEmpty
theorem inSt_one (c : Nat) (z : Str) : inSt ⟨#[c]⟩ z = decide (c ∈ z.cps.toList) := PySem.StrLaws.found_one z c
def flatD : D → Bool
  | .none => true
  | .bool _ => true
  | .int _ => true
  | .str _ => true
  | _ => false
theorem flat_rep {Z : Addr → Prop} {H : Hp} {x : V} {d : D} (h : RepS K cl Z H x d) (f : flatD d = true) : flatV x = true := by
  cases d with
  | list _ => cases f
  | tuple _ => cases f
  | dict _ => cases f
  | none => cases h; rfl
  | bool b => cases h; rfl
  | int i => cases h; rfl
  | str s => cases h; rfl
theorem flat_eqv {Z : Addr → Prop} {H : Hp} {x y : V} {d e : D} (hx : RepS K cl Z H x d) (hy : RepS K cl Z H y e) (f : flatD d = true) (f' : flatD e = true) : eqV y x = PyData.eqv e d := by
  have key : ∀ {v : V} {d : D}, RepS K cl Z H v d → (d = .none → v = .non) ∧ (∀ b, d = .bool b → v = .bl b) ∧ (∀ i, d = .int i → v = .int i) ∧ (∀ s, d = .str s → v = .str s) := by
    intro v d h
    refine ⟨?_, ?_, ?_, ?_⟩
    · rintro rfl; cases h; rfl
    · rintro b rfl; cases h; rfl
    · rintro b rfl; cases h; rfl
    · rintro b rfl; cases h; rfl
  obtain ⟨x1, x2, x3, x4⟩ := key hx
  obtain ⟨y1, y2, y3, y4⟩ := key hy
  cases d <;> cases e <;> first | (cases f; done) | (cases f'; done) | skip
  all_goals first | (cases x1 rfl) | (cases x2 _ rfl) | (cases x3 _ rfl) | (cases x4 _ rfl)
  all_goals first | (cases y1 rfl) | (cases y2 _ rfl) | (cases y3 _ rfl) | (cases y4 _ rfl)
  all_goals simp only [PyData.eqv, eqV]
theorem flat_all {Z : Addr → Prop} {H : Hp} {x : V} {d : D} (hx : RepS K cl Z H x d) (f : flatD d = true) : ∀ {xs : List V} {ds : List D}, RepAll K cl Z H xs ds → ds.all flatD = true → xs.all flatV = true ∧ inV x xs = ds.any fun z => PyData.eqv z d
  | _, _, .nil, _ => ⟨rfl, rfl⟩
  | _, _, .cons r t, h => by
    rw [List.all_cons, Bool.and_eq_true] at h
    obtain ⟨i1, i2⟩ := flat_all hx f t h.2
    refine ⟨by rw [List.all_cons, flat_rep r.s h.1, i1]; rfl, ?_⟩
    unfold inV at i2 ⊢
    rw [List.any_cons, List.any_cons, i2, flat_eqv hx r.s f h.1]
def inB : D → D → Option Bool
  | .str a, .str b => some (inSt a b)
  | d, .list ds => if (flatD d && ds.all flatD) = true ∨ (SeqAt.shaped d = true ∧ SeqAt.shaped (.list ds) = true) then some (ds.any fun z => PyData.eqv z d) else none
  | d, .tuple ds => if (flatD d && ds.all flatD) = true ∨ (SeqAt.shaped d = true ∧ SeqAt.shaped (.tuple ds) = true) then some (ds.any fun z => PyData.eqv z d) else none
  | _, _ => none
def inD (a b : D) : Option D := (inB a b).map .bool
def notInD (a b : D) : Option D := (inB a b).map fun k => .bool !k
theorem u_in (hu : X.A.units + 65 < cLine) (hK : X.K = K := by rfl) : OpR X (compareOp .In) (rG2 K cl inD) := by
  subst hK
  intro pins s σ H x y v u Q I rx ry hh
  obtain ⟨Z, dx, dy, d, hx, hy, e, q⟩ := hh
  obtain ⟨k, e1, e2⟩ := omap e
  subst e2
  clear e
  have e := e1
  unfold inB at e
  split at e
  · cases e; cases hx; cases hy
    exact op_in_str pins s σ H _ _ v u Q I rx ry ⟨_, _, rfl, rfl, q _ _ (fun _ _ e => e) (.bl _)⟩
  · split at e
    · rename_i c
      cases e
      rcases c with c | c
      · rw [Bool.and_eq_true] at c
        obtain ⟨a, xs, rfl, ls, ra⟩ := hy
        obtain ⟨c1, c2⟩ := flat_all hx c.1 ra c.2
        exact op_in_seq pins s σ H _ _ v u Q I rx ry ⟨_, _, rfl, .inl ls.sq, flat_rep hx c.1, c1, by rw [c2]; exact q _ _ (fun _ _ e => e) (.bl _)⟩
      · exact op_inD hu pins s σ H _ _ v u Q I rx ry ⟨_, _, hx.dp (nodict_of_shaped c.1), hy.dp (nodict_of_shaped c.2), c.1, c.2, q _ _ (fun _ _ e => e) (.bl _)⟩
    · cases e
  · split at e
    · rename_i c
      cases e
      rcases c with c | c
      · rw [Bool.and_eq_true] at c
        cases hy with
        | tup ls ra =>
          obtain ⟨c1, c2⟩ := flat_all hx c.1 ra c.2
          exact op_in_seq pins s σ H _ _ v u Q I rx ry ⟨_, _, rfl, .inr ls, flat_rep hx c.1, c1, by rw [c2]; exact q _ _ (fun _ _ e => e) (.bl _)⟩
      · exact op_inTD hu pins s σ H _ _ v u Q I rx ry ⟨_, _, hx.dp (nodict_of_shaped c.1), hy.dp (nodict_of_shaped c.2), c.1, c.2, q _ _ (fun _ _ e => e) (.bl _)⟩
    · cases e
  · cases e
theorem u_notIn (hu : X.A.units + 65 < cLine) (hK : X.K = K := by rfl) : OpR X (compareOp .NotIn) (rG2 K cl notInD) := by
  subst hK
  intro pins s σ H x y v u Q I rx ry hh
  obtain ⟨Z, dx, dy, d, hx, hy, e, q⟩ := hh
  obtain ⟨k, e1, e2⟩ := omap e
  subst e2
  clear e
  have e := e1
  unfold inB at e
  split at e
  · cases e; cases hx; cases hy
    exact op_notin_str pins s σ H _ _ v u Q I rx ry ⟨_, _, rfl, rfl, q _ _ (fun _ _ e => e) (.bl _)⟩
  · split at e
    · rename_i c
      cases e
      rcases c with c | c
      · rw [Bool.and_eq_true] at c
        obtain ⟨a, xs, rfl, ls, ra⟩ := hy
        obtain ⟨c1, c2⟩ := flat_all hx c.1 ra c.2
        exact op_notIn_seq pins s σ H _ _ v u Q I rx ry ⟨_, _, rfl, .inl ls.sq, flat_rep hx c.1, c1, by rw [c2]; exact q _ _ (fun _ _ e => e) (.bl _)⟩
      · exact op_notInD hu pins s σ H _ _ v u Q I rx ry ⟨_, _, hx.dp (nodict_of_shaped c.1), hy.dp (nodict_of_shaped c.2), c.1, c.2, q _ _ (fun _ _ e => e) (.bl _)⟩
    · cases e
  · split at e
    · rename_i c
      cases e
      rcases c with c | c
      · rw [Bool.and_eq_true] at c
        cases hy with
        | tup ls ra =>
          obtain ⟨c1, c2⟩ := flat_all hx c.1 ra c.2
          exact op_notIn_seq pins s σ H _ _ v u Q I rx ry ⟨_, _, rfl, .inr ls, flat_rep hx c.1, c1, by rw [c2]; exact q _ _ (fun _ _ e => e) (.bl _)⟩
      · exact op_notInTD hu pins s σ H _ _ v u Q I rx ry ⟨_, _, hx.dp (nodict_of_shaped c.1), hy.dp (nodict_of_shaped c.2), c.1, c.2, q _ _ (fun _ _ e => e) (.bl _)⟩
    · cases e
  · cases e
end
end Pu
/-! The pure layer: what is walked; subscripts, slices; what changes a thing of one's own. -/
namespace Pu
open PySem PySem.Spec PyProof.Rows L2
/-! ### iterables -/
def iU (K : PySem.W.Frag) (tl : TE) : TI := fun σ H R => tl σ H fun x H1 => (∃ a xs, x = .ref a ∧ SqL K H1 a xs ∧ R (Itl K a) H1) ∨ (∃ a xs, x = .ref a ∧ SqT K H1 a xs ∧ R (Itt K a) H1) ∨ ∃ z, x = .str z ∧ R (Its z) H1
section
variable {X : Cx} {K : PySem.W.Frag} {cl : Cl}
theorem pi_u {tg l : Expr} {tl : TE} (hl : PE X l tl) (hK : X.K = K := by rfl) : PI X tg l (iU K tl) := by
  subst hK
  constructor
  intro pins s σ H R inv read
  refine thn (hl.run pins s σ H _ inv read) ?_
  rintro val s1 ⟨x, H1, inv1, rel, way⟩
  rcases way with ⟨a, xs, rfl, seq, q⟩ | ⟨a, xs, rfl, seq, q⟩ | ⟨z, rfl, q⟩
  · cases rel
    obtain ⟨its, rv, pl, _⟩ := inv1.list seq
    exact wpAny_pyIter_list pl.isList (pi_one (tk := s1.toks) inv1 _ (turn_list a _) ⟨_, Heap.get?_push_size _ rfl, rfl, rfl⟩ q)
  · cases rel
    obtain ⟨its, rv, pl, _⟩ := inv1.tuple seq
    exact wpAny_pyIter_tuple (show s1.heap.IsTuple a its.toArray from pl) (pi_one (tk := s1.toks) inv1 _ (turn_tuple a _) ⟨_, Heap.get?_push_size _ rfl, rfl, rfl⟩ q)
  · obtain ⟨tok, rfl⟩ := rel
    cases small : z.cps.all (· < 128) with
    | false => exact wpAny_pyIter_wide small (pi_one (tk := s1.toks) inv1 _ (turn_str _ z tok "str_iterator" (.inr rfl)) ⟨_, Heap.get?_push_size _ rfl, rfl, rfl⟩ q)
    | true => exact wpAny_pyIter_ascii small (pi_one (tk := s1.toks) inv1 _ (turn_str _ z tok "str_ascii_iterator" (.inl rfl)) ⟨_, Heap.get?_push_size _ rfl, rfl, rfl⟩ q)
/-- what a datum gives to a walk -/
def walkD : D → Option (List D)
  | .list ds => some ds
  | .tuple ds => some ds
  | .str z => some (z.cps.toList.map fun c => .str ⟨#[c]⟩)
  | _ => none
def iVal (f : En → Option (D × En)) : En → Option (List D × En) := bnd f fun d ρ => (walkD d).map fun ds => (ds, ρ)
theorem si_u {t f} (h : SemV K cl t f) : SemI K cl (iU K t) (iVal f) := by
  intro L Y Z H σ ρ ds ρ' R g e q
  obtain ⟨d, ρ1, e1, e2⟩ := bnd_some e
  obtain ⟨ds', e3, e4⟩ := omap e2
  cases e4
  refine h L Y Z H σ ρ d _ _ g e1 fun v Z1 H1 x1 g1 r1 => ?_
  cases r1 with
  | lst ls ra =>
    cases e3
    refine .inl ⟨_, _, rfl, ls.sq, q _ _ _ x1 g1 fun Z2 H2 x2 => ?_⟩
    have ls2 := (ls.ext x2).sq
    have ra2 := ra.ext x2
    refine ⟨⟨_, ls2, by rw [ra2.length]; exact Nat.le_refl _⟩, fun i d hd => ?_⟩
    obtain ⟨v, e5, e6⟩ := ra2.get hd
    refine ⟨⟨_, v, ls2, e5⟩, fun x H3 y => ?_⟩
    obtain ⟨rfl, y⟩ := y
    have e7 := y _ ls2
    rw [e5] at e7; cases e7
    exact ⟨fun _ _ e => e, e6⟩
  | tup ls ra =>
    cases e3
    refine .inr (.inl ⟨_, _, rfl, ls, q _ _ _ x1 g1 fun Z2 H2 x2 => ?_⟩)
    have ls2 := SqT.ext x2 ls
    have ra2 := ra.ext x2
    refine ⟨⟨_, ls2, by rw [ra2.length]; exact Nat.le_refl _⟩, fun i d hd => ?_⟩
    obtain ⟨v, e5, e6⟩ := ra2.get hd
    refine ⟨⟨_, v, ls2, e5⟩, fun x H3 y => ?_⟩
    obtain ⟨rfl, y⟩ := y
    have e7 := y _ ls2
    rw [e5] at e7; cases e7
    exact ⟨fun _ _ e => e, e6⟩
  | str z =>
    cases e3
    refine .inr (.inr ⟨z, rfl, q _ _ _ x1 g1 fun Z2 H2 x2 => ?_⟩)
    have hl : (z.cps.toList.map fun c => (PyData.str ⟨#[c]⟩ : D)).length = z.cps.size := by simp
    refine ⟨?_, fun i d hd => ?_⟩
    · show z.cps.size ≤ _
      omega
    · have hi : i < z.cps.size := by rw [← hl]; exact (List.getElem?_eq_some_iff.mp hd).1
      refine ⟨hi, fun x H3 y => ?_⟩
      obtain ⟨rfl, c, hc, rfl⟩ := y
      refine ⟨fun _ _ e => e, ?_⟩
      rw [List.getElem?_map, Array.getElem?_toList, hc] at hd
      cases hd
      exact .str _
  | _ => cases e3
def rngD (lo : Int) (n : Nat) : List D := (List.range n).map fun i : Nat => .int (lo + (i : Nat))
theorem itr_ok {Y Z : Addr → Prop} {H : Hp} (lo : Int) (n : Nat) : ItR (K := K) (cl := cl) Y Z H (Itr lo n) (rngD lo n) := by
  intro Z2 H2 x2
  have hl : (rngD lo n).length = n := by simp [rngD]
  refine ⟨by rw [hl]; exact Nat.le_refl n, fun i d hd => ?_⟩
  have hi : i < n := by rw [← hl]; exact (List.getElem?_eq_some_iff.mp hd).1
  refine ⟨hi, fun x H3 y => ?_⟩
  obtain ⟨rfl, rfl⟩ := y
  refine ⟨fun _ _ e => e, ?_⟩
  unfold rngD at hd
  rw [List.getElem?_map, List.getElem?_range hi] at hd
  cases hd
  exact .int _
noncomputable def in62 (i : Int) : Bool := gd (-(2 ^ 62) ≤ i ∧ i < 2 ^ 62)
theorem in62_iff {i : Int} (h : in62 i = true) : -(2 ^ 62) ≤ i ∧ i < 2 ^ 62 := by
  exact gd_iff.mp h
noncomputable def iRn1 (fs : En → Option (List D × En)) : En → Option (List D × En) := bnd fs fun ds ρ => match ds with
  | [.int j] => if in62 j = true then some (rngD 0 j.toNat, ρ) else none
  | _ => none
theorem si_range1 {ts fs} (h : SemL K cl ts fs) : SemI K cl (iRng1 ts) (iRn1 fs) := by
  intro L Y Z H σ ρ ds ρ' R g e q
  obtain ⟨as, ρ1, e1, e2⟩ := bnd_some e
  refine h L Y Z H σ ρ as _ _ g e1 fun vs Z1 H1 x1 g1 r1 => ?_
  split at e2
  · rename_i j
    split at e2
    · rename_i hj
      cases e2
      cases r1 with
      | cons r rs =>
        cases r
        cases rs
        have b := in62_iff hj
        exact ⟨j, rfl, b.1, b.2, q _ _ _ x1 g1 (itr_ok 0 _)⟩
    · cases e2
  · cases e2
noncomputable def iRn2 (fs : En → Option (List D × En)) : En → Option (List D × En) := bnd fs fun ds ρ => match ds with
  | [.int i, .int j] => if in62 i = true ∧ in62 j = true then some (rngD i (j - i).toNat, ρ) else none
  | _ => none
theorem si_range2 {ts fs} (h : SemL K cl ts fs) : SemI K cl (iRng2 ts) (iRn2 fs) := by
  intro L Y Z H σ ρ ds ρ' R g e q
  obtain ⟨as, ρ1, e1, e2⟩ := bnd_some e
  refine h L Y Z H σ ρ as _ _ g e1 fun vs Z1 H1 x1 g1 r1 => ?_
  split at e2
  · rename_i i j
    split at e2
    · rename_i hj
      cases e2
      cases r1 with
      | cons r rs =>
        cases r
        cases rs with
        | cons r rs =>
          cases r
          cases rs
          have b := in62_iff hj.1
          have b2 := in62_iff hj.2
          exact ⟨i, j, rfl, ⟨b.1, b.2, b2.1, b2.2⟩, q _ _ _ x1 g1 (itr_ok i _)⟩
    · cases e2
  · cases e2
/-! ### subscripts -/
noncomputable def ixD : D → D → Option D
  | .list ds, .int i => atI ds i
  | .tuple ds, .int i => atI ds i
  | .str z, .int i => if gd (z.length ≤ sizeLine) = true then (atI z.cps.toList i).map fun c => .str ⟨#[c]⟩ else none
  | _, _ => none
theorem atI_rep {Z : Addr → Prop} {H : Hp} {xs : List V} {ds : List D} {i : Int} {d : D} (r : RepAll K cl Z H xs ds) (e : atI ds i = some d) : ∃ v, atI xs i = some v ∧ Rep K cl Z H v d := by
  unfold atI at e ⊢
  rw [r.length]
  cases q : ixN ds.length i with
  | none => rw [q] at e; cases e
  | some j =>
    rw [q] at e
    exact r.get e
theorem u_ix (hK : X.K = K := by rfl) : L2.IxR X (rG2 K cl ixD) := by
  subst hK
  intro value slice pins s σ H x y v u Q I rx ry hh hs
  obtain ⟨Z, dx, dy, d, hx, hy, e, q⟩ := hh
  unfold ixD at e
  split at e
  · obtain ⟨a, xs, rfl, ls, ra⟩ := hx
    cases hy
    obtain ⟨w, e1, e2⟩ := atI_rep ra e
    exact ix_list value slice pins s σ H _ _ v u Q I rx ry ⟨_, _, _, w, rfl, rfl, ls.sq, e1, q _ _ (fun _ _ e => e) e2⟩ hs
  · cases hx with
    | tup ls ra =>
      cases hy
      obtain ⟨w, e1, e2⟩ := atI_rep ra e
      exact ix_tup value slice pins s σ H _ _ v u Q I rx ry ⟨_, _, _, w, rfl, rfl, ls, e1, q _ _ (fun _ _ e => e) e2⟩ hs
  · split at e
    · rename_i hz
      have hz := gd_iff.mp hz
      obtain ⟨c, e1, e2⟩ := omap e
      subst e2
      cases hx
      cases hy
      exact ix_str value slice pins s σ H _ _ v u Q I rx ry ⟨_, _, c, rfl, rfl, hz, e1, q _ _ (fun _ _ e => e) (.str _)⟩ hs
    · cases e
  · cases e
/-! ### slices -/
def cutL (ds : List D) (lo hi : Option Int) : List D := (ds.drop (HT.sIx ds.length 0 lo)).take (HT.sIx ds.length ds.length hi - HT.sIx ds.length 0 lo)
theorem cut_rep {Z : Addr → Prop} {H : Hp} {xs : List V} {ds : List D} (r : RepAll K cl Z H xs ds) (lo hi : Option Int) : RepAll K cl Z H (cutV xs lo hi) (cutL ds lo hi) := by
  unfold cutV cutL
  rw [r.length]
  exact (r.drop _).take _
noncomputable def sliceD : D → Option Int → Option Int → Option Sl
  | .list ds, lo, hi => some (.o (.list (cutL ds lo hi)))
  | .tuple ds, lo, hi => some (.s (.tuple (cutL ds lo hi)))
  | .str z, lo, hi => if gd (z.length ≤ sizeLine) = true then some (.s (.str (cutS z lo hi))) else none
  | _, _, _ => none
def rGs (K : PySem.W.Frag) (cl : Cl) : V → Option Int → Option Int → Hp → VK → Prop := fun x lo hi H Q => ∃ (Z : Addr → Prop) (dx : D) (r : Sl), RepS K cl Z H x dx ∧ sliceD dx lo hi = some r ∧ VR K cl Z H Q r
theorem u_slice (hK : X.K = K := by rfl) : L2.SlR X (rGs K cl) := by
  subst hK
  intro pins s σ H x v vl vu lo hi sl Q I rx hs pl pu hh
  obtain ⟨Z, dx, r, hx, e, q⟩ := hh
  unfold sliceD at e
  split at e
  · cases e
    obtain ⟨a, xs, rfl, ls, ra⟩ := hx
    exact sl_list pins s σ H _ v vl vu _ _ sl Q I rx hs pl pu ⟨_, _, rfl, ls.sq, vr_new (cut_rep ra _ _) q⟩
  · cases e
    cases hx with
    | tup ls ra => exact sl_tupW pins s σ H _ v vl vu _ _ sl Q I rx hs pl pu ⟨_, _, rfl, ls, fun p H' k t => q.1 _ rfl _ _ k (.tup t ((cut_rep ra _ _).same k))⟩
  · split at e
    · rename_i hz
      have hz := gd_iff.mp hz
      cases e
      cases hx
      exact sl_str pins s σ H _ v vl vu _ _ sl Q I rx hs pl pu ⟨_, rfl, hz, q.1 _ rfl _ _ (fun _ _ e => e) (.str _)⟩
    · cases e
  · cases e
/-- a slice's part -/
def SemO (K : PySem.W.Frag) (cl : Cl) (t : TO) (f : En → Option (Option Int × En)) : Prop := ∀ (L : Nat → Addr → Prop) (Y Z : Addr → Prop) (H : Hp) (σ : L2.St) (ρ : En) (o : Option Int) (ρ' : En) (Q : Option Int → Hp → Prop), Fit K cl L Y Z H σ ρ → f ρ = some (o, ρ') →
  (∀ Z' H', Ext Y Z H Z' H' → Fit K cl L Y Z' H' σ ρ' → Q o H') → t σ H Q
def oNo : En → Option (Option Int × En) := fun ρ => some (none, ρ)
def oSo (f : En → Option (D × En)) : En → Option (Option Int × En) := bnd f fun d ρ => match d with
  | .int i => some (some i, ρ)
  | _ => none
theorem so_none : SemO K cl tNoPart oNo := fun L Y Z H σ ρ o ρ' Q g e q => by cases e; exact q Z H .refl g
theorem so_some {t f} (h : SemV K cl t f) : SemO K cl (tPart t) (oSo f) := by
  intro L Y Z H σ ρ o ρ' Q g e q
  obtain ⟨d, ρ1, e1, e2⟩ := bnd_some e
  split at e2
  · cases e2
    refine h L Y Z H σ ρ _ _ _ g e1 fun v Z1 H1 x1 g1 r1 => ?_
    cases r1
    exact ⟨_, rfl, q _ _ x1 g1⟩
  · cases e2
noncomputable def fSl (f : En → Option (Lv × En)) (fl fh : En → Option (Option Int × En)) : En → Option (Sl × En) := bnd f fun l => bnd fl fun lo => bnd fh fun hi ρ => ((lookS ρ l).bind fun d => sliceD d lo hi).map fun r => (r, ρ)
theorem se_slice {t tl th f fl fh} (h : SemW K cl t f) (hl : SemO K cl tl fl) (hh : SemO K cl th fh) : SemE K cl (tSl (rGs K cl) t tl th) (fSl f fl fh) := by
  intro L Y Z H σ ρ s ρ' Q G e q q' _
  obtain ⟨l, ρ1, e1, e2⟩ := bnd_some e
  obtain ⟨lo, ρ2, e3, e4⟩ := bnd_some e2
  obtain ⟨hi, ρ3, e5, e6⟩ := bnd_some e4
  obtain ⟨r, e7, e8⟩ := omap e6
  cases e8
  obtain ⟨d, ex, e7⟩ := obnd e7
  refine h L Y Z H σ ρ l ρ1 _ G e1 fun v Z1 H1 x1 g1 r1 => hl L Y Z1 H1 σ ρ1 lo ρ2 _ g1 e3 fun Z2 H2 x2 g2 => hh L Y Z2 H2 σ ρ2 hi _ _ g2 e5 fun Z3 H3 x3 g3 => ?_
  have x := (x1.trans x2).trans x3
  refine ⟨Z3, d, s, LvR.look g3 (LvR.ext x3 (LvR.ext x2 r1)) ex, e7, fun d' hd u H4 k4 r4 => ?_, fun d' hd p H4 k4 np r4 => ?_⟩
  · exact q d' hd u Z3 H4 (x.trans (.same k4)) (g3.same k4) r4
  · exact q' d' hd p Z3 H4 (x.trans (.same k4)) (fun y => g3.yd p y np) (g3.priv k4 np r4.there) r4
/-! ### things of one's own are changed -/
/-- the new content of what stands in slot i -/
def chgE (ρ : En) (i : Nat) (d : D) : En := match ρ[i]? with
  | some (.o _) => ρ.set i (.o d)
  | some (.p _) => ρ.set i (.p d)
  | _ => ρ
theorem chg_get (ρ : En) (i j : Nat) (d : D) : (chgE ρ i d)[j]? = if i = j then tagd ρ[j]? d else ρ[j]? := by
  unfold chgE tagd
  by_cases h : i = j
  · subst h
    rw [if_pos rfl]
    split
    · rename_i y e; (try rw [e]); simp [List.getElem?_set_self (List.getElem?_eq_some_iff.mp e).1]
    · rename_i y e; (try rw [e]); simp [List.getElem?_set_self (List.getElem?_eq_some_iff.mp e).1]
    · rename_i n1 n2
      cases e : ρ[i]? with
      | none => rfl
      | some y =>
        cases y with
        | o d' => exact absurd e (n1 d')
        | p d' => exact absurd e (n2 d')
        | _ => rfl
  · rw [if_neg h]
    split <;> first | rw [List.getElem?_set_ne h] | rfl
theorem OwnR.kind {Z : Addr → Prop} {H : Hp} {a : Addr} : ∀ {d : D}, OwnR K cl Z H a d → (∀ xs, H a ≠ some (.tup xs)) ∧ ∀ o u, H a ≠ some (.frz o u)
  | .list ds, h => by obtain ⟨vs, e, _⟩ := h; rw [e]; exact ⟨by simp, by simp⟩
  | .dict kvs, h => by rcases h with ⟨_, _, e, _⟩ | ⟨_, _, _, _, e, _⟩ <;> rw [e] <;> exact ⟨by simp, by simp⟩
theorem Fit.mut {L : Nat → Addr → Prop} {Y Z : Addr → Prop} {H : Hp} {σ : L2.St} {ρ : En} {i : Nat} {a : Addr} {d d' : D} {o : HO} (g : Fit K cl L Y Z H σ ρ) (h : Own σ ρ i a) (r : OwnR K cl Z H a d) (r' : OwnR K cl Z (upd H a o) a d') :
    Ext Y Z H Z (upd H a o) ∧ Fit K cl L Y Z (upd H a o) σ (chgE ρ i d') := by
  obtain ⟨_, za, ya⟩ := g.own h
  obtain ⟨k1, k2⟩ := r.kind
  have k : ∀ b, b ≠ a → upd H a o b = H b := fun b n => upd_ne n
  have there : ∀ b, H b ≠ none → upd H a o b ≠ none := fun b e => by
    by_cases q : b = a
    · rw [q, upd_same]; simp
    · rw [k b q]; exact e
  have x : Ext Y Z H Z (upd H a o) := by
    refine ⟨fun _ z => z, fun b u z e => ?_, fun b ys e => ?_, fun b u w e => ?_, there⟩
    · rw [k b (fun q => by rw [q] at z; exact z.elim za ya)]; exact e
    · rw [k b (fun q => by rw [q] at e; exact k1 _ e)]; exact e
    · rw [k b (fun q => by rw [q] at e; exact k2 _ _ e)]; exact e
  have ownB : ∀ {j b}, Own σ (chgE ρ i d') j b → Own σ ρ j b := by
    intro j b q
    by_cases hj : i = j
    · subst hj
      exact tagd_own (by rw [chg_get, if_pos rfl]) q
    · obtain ⟨e, d0, w⟩ := q
      rw [chg_get, if_neg hj] at w
      exact ⟨e, d0, w⟩
  refine ⟨x, fun b z => there b (g.zd b z), fun b z => there b (g.yd b z), g.yz, ?_, fun j y q => ?_, fun j l b o1 o2 => g.ap j l b (ownB o1) (ownB o2), fun j b => (g.ln j b).trans (and_congr_right fun _ => ?_)⟩
  · unfold chgE; split <;> simp [g.len]
  · by_cases hj : i = j
    · subst hj
      rw [chg_get, if_pos rfl] at q
      obtain ⟨ea, d0, w⟩ := h
      unfold tagd at q
      rcases w with w | w <;> rw [w] at q <;> cases q <;> exact ⟨a, ea, r', za, ya⟩
    · rw [chg_get, if_neg hj] at q
      refine g.slot x (fun b ob => ?_) q
      obtain ⟨_, z1, z2⟩ := g.own ob
      exact ⟨fun u e => by rw [k b (fun z => by rw [z] at ob; exact hj (g.ap i j a h ob))]; exact e, z1, z2⟩
  · rw [chg_get]
    by_cases hj : i = j
    · rw [if_pos hj]
      unfold tagd
      split
      · rename_i e; rw [e]; simp
      · rename_i e; rw [e]; simp
      · rfl
    · rw [if_neg hj]
/-- a method of a list, by what it does to the list -/
def MuL (K : PySem.W.Frag) (cl : Cl) (r : V → List V → Hp → VK → Prop) (g : List D → List D → Option (D × List D)) : Prop := ∀ (Z : Addr → Prop) (H : Hp) (l : Addr) (xs : List V) (ds : List D) (ws : List V) (as : List D) (d : D) (ds' : List D) (Q : VK),
  H l = some (.lst xs) → RepAll K cl Z H xs ds → RepAll K cl Z H ws as → g ds as = some (d, ds') → (∀ v xs', RepAll K cl Z H xs' ds' → Rep K cl Z H v d → Q v (upd H l (.lst xs'))) → r (.ref l) ws H Q
def fMu (i : Nat) (g : List D → List D → Option (D × List D)) (fs : En → Option (List D × En)) : En → Option (D × En) := fun ρ => match ownD ρ i with
  | some (.list _) => bnd fs (fun as ρ1 => match ownD ρ1 i with
    | some (.list ds) => (g ds as).map fun r => (r.1, chgE ρ1 i (.list r.2))
    | _ => none) ρ
  | _ => none
theorem Fit.ownSlot {L : Nat → Addr → Prop} {Y Z : Addr → Prop} {H : Hp} {σ : L2.St} {ρ : En} {i : Nat} {d : D} (g : Fit K cl L Y Z H σ ρ) (h : ownD ρ i = some d) : ∃ a, σ[i]? = some (some (.ref a)) ∧ Own σ ρ i a ∧ OwnR K cl Z H a d := by
  obtain ⟨a, o, r⟩ := ownD_at g h
  exact ⟨a, o.1, o, r⟩
theorem se_mut {i : Nat} {r g ts fs} (hr : MuL K cl r g) (hs : SemL K cl ts fs) : SemV K cl (tBM K "list" r (tVar i) ts) (fMu i g fs) := by
  intro L Y Z H σ ρ d ρ' Q G e q
  unfold fMu at e
  split at e
  · rename_i ds0 e0
    obtain ⟨as, ρ1, e1, e2⟩ := bnd_some e
    split at e2
    · rename_i ds e3
      obtain ⟨⟨res, ds'⟩, e4, e5⟩ := omap e2
      cases e5
      obtain ⟨a, s1, o1, vs0, h1, r1⟩ := G.ownSlot e0
      refine ⟨_, s1, .inl ⟨rfl, _, .of h1⟩, ?_⟩
      refine hs L Y Z H σ ρ as ρ1 _ G e1 fun ws Z1 H1 x1 g1 rw1 => ?_
      obtain ⟨b, s2, o2, vs, h2, r2⟩ := g1.ownSlot e3
      rw [s1] at s2; cases s2
      refine hr Z1 H1 a vs ds ws as _ ds' Q h2 r2 rw1 e4 fun v xs' ra rv => ?_
      have x0 : Ext Y Z1 H1 Z1 (upd H1 a (.lst xs')) := by
        obtain ⟨_, za, ya⟩ := g1.own o2
        refine ⟨fun _ z => z, fun b u z e => ?_, fun b ys e => ?_, fun b u w e => ?_, fun b e => ?_⟩
        · rw [upd_ne (fun q => by rw [q] at z; exact z.elim za ya)]; exact e
        · rw [upd_ne (fun q => by rw [q, h2] at e; cases e)]; exact e
        · rw [upd_ne (fun q => by rw [q, h2] at e; cases e)]; exact e
        · by_cases q : b = a
          · rw [q, upd_same]; simp
          · rw [upd_ne q]; exact e
      obtain ⟨x2, g2⟩ := Fit.mut (d := .list ds) (d' := .list ds') (o := .lst xs') g1 o2 ⟨vs, h2, r2⟩ ⟨xs', upd_same, ra.ext x0⟩
      exact q v Z1 _ (x1.trans x2) g2 (rv.ext x2)
    · cases e2
  · cases e
/-- .append, .pop .. -/
noncomputable def apD : List D → List D → Option (D × List D)
  | ds, [d] => if gd (ds.length < sizeLine) = true then some (.none, ds ++ [d]) else none
  | _, _ => none
theorem mu_append : MuL K cl rAppend apD := by
  intro Z H l xs ds ws as d ds' Q h r rw e q
  unfold apD at e
  split at e
  · rename_i d0
    split at e
    · rename_i hz
      have hz := gd_iff.mp hz
      cases e
      cases rw with
      | cons r1 rs =>
        cases rs
        exact ⟨l, xs, _, rfl, rfl, h, by rw [r.length]; exact hz, q _ _ (r.append (.cons r1 .nil)) .non⟩
    · cases e
  · cases e
noncomputable def popAtD : List D → List D → Option (D × List D)
  | ds, [.int i] => if gd (-(2 ^ 63) ≤ i ∧ i < 2 ^ 63) = true then (match seqIndex? i ds.length with
    | some k => (ds[k]?).map fun d => (d, ds.eraseIdx k)
    | none => none) else none
  | _, _ => none
theorem RepAll.erase {Z : Addr → Prop} {H : Hp} : ∀ {vs : List V} {ds : List D} (i : Nat), RepAll K cl Z H vs ds → RepAll K cl Z H (vs.eraseIdx i) (ds.eraseIdx i)
  | _, _, _, .nil => .nil
  | _, _, 0, .cons _ t => t
  | _, _, i + 1, .cons h t => .cons h (RepAll.erase i t)
theorem mu_popAt : MuL K cl rPopAt popAtD := by
  intro Z H l xs ds ws as d ds' Q h r rw e q
  unfold popAtD at e
  split at e
  · rename_i i
    split at e
    · rename_i hz
      have hz := gd_iff.mp hz
      split at e
      · rename_i k hk
        obtain ⟨d0, e1, e2⟩ := omap e
        cases e2
        cases rw with
        | cons r1 rs =>
          cases rs
          cases r1
          obtain ⟨v, e3, e4⟩ := r.get e1
          exact ⟨l, xs, i, k, v, rfl, rfl, h, hz.1, hz.2, by rw [r.length]; exact hk, e3, q _ _ (r.erase k) e4⟩
      · cases e
    · cases e
  · cases e
/-- x[i] = .., x a list of one's own -/
def fSub (i : Nat) (fi : En → Option (D × En)) : Sl → En → Option En := fun r ρ => match r.d with
  | some d => (match ownD ρ i with
    | some (.list _) => (match fi ρ with
      | some (.int k, ρ1) => (match ownD ρ1 i with
        | some (.list ds) => (ixN ds.length k).map fun j => chgE ρ1 i (.list (ds.set j d))
        | _ => none)
      | _ => none)
    | _ => none)
  | none => none
theorem sg_sub {i : Nat} {ti fi} (hi : SemV K cl ti fi) : SemG K cl (gSub (tVar i) ti rSetL) (fSub i fi) [] := by
  intro L Y Z H σ ρ v r ρ' Q hv e q
  unfold fSub at e
  split at e
  · rename_i d hd
    obtain ⟨Z0, x0, g0, r0⟩ := hv.rep hd
    split at e
    · rename_i ds0 e0
      split at e
      · rename_i k ρ1 e1
        split at e
        · rename_i ds e3
          obtain ⟨j, e4, e5⟩ := omap e
          subst e5
          obtain ⟨a, s1, o1, vs0, h1, r1⟩ := g0.ownSlot e0
          refine ⟨_, s1, hi L Y Z0 H σ ρ _ ρ1 _ g0 e1 fun w Z1 H1 x1 g1 rw1 => ?_⟩
          obtain ⟨b, s2, o2, vs, h2, r2⟩ := g1.ownSlot e3
          rw [s1] at s2; cases s2
          cases rw1
          have n1 : vs.length = ds.length := r2.length
          refine ⟨a, vs, k, j, rfl, rfl, h2, by rw [n1]; exact e4, ?_⟩
          have r3 : RepAll K cl Z1 H1 (vs.set j v) (ds.set j d) := r2.set (r0.ext x1) j
          have x2 : Ext Y Z1 H1 Z1 (upd H1 a (.lst (vs.set j v))) := by
            obtain ⟨_, za, ya⟩ := g1.own o2
            refine ⟨fun _ z => z, fun b u z e => ?_, fun b ys e => ?_, fun b u w e => ?_, fun b e => ?_⟩
            · rw [upd_ne (fun q => by rw [q] at z; exact z.elim za ya)]; exact e
            · rw [upd_ne (fun q => by rw [q, h2] at e; cases e)]; exact e
            · rw [upd_ne (fun q => by rw [q, h2] at e; cases e)]; exact e
            · by_cases q : b = a
              · rw [q, upd_same]; simp
              · rw [upd_ne q]; exact e
          obtain ⟨x3, g3⟩ := Fit.mut (d := .list ds) (d' := .list (ds.set j d)) (o := .lst (vs.set j v)) g1 o2 ⟨vs, h2, r2⟩ ⟨_, upd_same, r3.ext x2⟩
          exact q σ Z1 _ ((x0.trans x1).trans x3) rfl (fun _ _ => rfl) g3
        · cases e
      · cases e
    · cases e
  · cases e
/-- what a slot of one's own is read for: without being given up -/
def fPeek (i : Nat) (g : D → Option D) : En → Option (D × En) := fun ρ => match ownD ρ i with
  | some d => (g d).map fun r => (r, ρ)
  | none => none
end
end Pu
/-! The pure layer: built-in calls, calls by keywords, the def's end. -/
namespace Pu
open PySem PySem.Spec PyProof.Rows L2
section
variable {X : Cx} {K : PySem.W.Frag} {cl : Cl}
/-! ### rules that name K -/
theorem pe_orK {a b : Expr} {rest : List Expr} {pos : Pos} {ta tb : TE} (ha : PE X a ta) (hb : PE X (.BoolOp .Or (b :: rest) pos) tb) (hK : X.K = K := by rfl) : PE X (.BoolOp .Or (a :: b :: rest) pos) (tOrT K ta tb) := hK ▸ pe_orT ha hb
theorem pe_andK {a b : Expr} {rest : List Expr} {pos : Pos} {ta tb : TE} (ha : PE X a ta) (hb : PE X (.BoolOp .And (b :: rest) pos) tb) (hK : X.K = K := by rfl) : PE X (.BoolOp .And (a :: b :: rest) pos) (tAndT K ta tb) := hK ▸ pe_andT ha hb
theorem pe_notK {a : Expr} {pos : Pos} {ta : TE} (ha : PE X a ta) (hK : X.K = K := by rfl) : PE X (.UnaryOp .Not a pos) (tNotT K ta) := hK ▸ pe_notT ha
theorem pt_truthK {a : Expr} {ta : TE} (ha : PE X a ta) (he : ∀ whole, isTrue a X.env whole = (do let v ← whole; standAt a.pos; holding [v] (truthy v))) (hK : X.K = K := by rfl) : PT X a (fun σ H Q => ta σ H fun x H' => ∃ k, TruV K x H' k ∧ Q k H') := hK ▸ pt_truth ha he
theorem pg_tupK {es : List Expr} {k : Nat} {t : TGs} {n : Nat} {pos : Pos} (hc : X.calm = true) (h : PGs X es t) (hK : X.K = K := by rfl)
    (hn : (assignEach es X.env).length = n := by rfl) (hst : (assignEach es X.env).findIdx? (·.1) = none := by rfl) : PG X (.Tuple es k pos) (gTup K n t) := hK ▸ pg_tup hc h hn hst
theorem pe_bmK {T name id : String} {o e : Expr} {es : List Expr} {to : TE} {t : TA} {apos cpos : Pos} {r : V → List V → Hp → VK → Prop} (pa : PlainAttrs T) (slot : Slot T name id) (hty : typeOf (.builtin id) = pure (.type "method_descriptor")) (hm : L2.MtR X id r) (ho : PE X o to) (ha : PA X (e :: es) t) (hK : X.K = K := by rfl)
    (hbase : attributeBase o name X.env (eval o X.env) = eval o X.env := by rfl)
    (hfew : ((backTo cpos (starEach (e :: es) X.env)).all (fun x => !x.1) && (backToKw cpos (keywordEach [] X.env)).all (fun x => x.1.isSome) && decide ((e :: es).length + ([] : List Keyword).length + (if ([] : List Keyword).isEmpty then 0 else 1) < 30)) = true := by rfl)
    (hline : (apos.endLine == cpos.line) = true := by rfl) (hs : starEach (e :: es) X.env = (false, eval e X.env) :: starEach es X.env := by rfl) (hplain : (backTo cpos (starEach es X.env)).any (·.1) = false := by rfl) :
    PE X (.Call (.Attribute o name apos) (e :: es) [] cpos) (tBM K T r to t) := hK ▸ pe_bm pa slot hty hm ho ha hbase hfew hline hs hplain
theorem pa_starK {e : Expr} {es : List Expr} {p : Pos} {te : TE} {t : TA} (he : PE X e te) (hr : PA X es t) (hK : X.K = K := by rfl) (hs : starEach (.Starred e p :: es) X.env = (true, eval e X.env) :: starEach es X.env := by rfl) : PA X (.Starred e p :: es) (StX.tStar K te t) := hK ▸ StX.pa_star he hr hs
/-! ### built-in calls -/
theorem RepSs.one {Z : Addr → Prop} {H : Hp} {xs : List V} {d : D} (h : RepSs K cl Z H xs [d]) : ∃ x, xs = [x] ∧ RepS K cl Z H x d := by
  cases h with
  | cons r t => cases t; exact ⟨_, rfl, r⟩
theorem RepSs.two {Z : Addr → Prop} {H : Hp} {xs : List V} {d e : D} (h : RepSs K cl Z H xs [d, e]) : ∃ x y, xs = [x, y] ∧ RepS K cl Z H x d ∧ RepS K cl Z H y e := by
  cases h with
  | cons r t =>
    obtain ⟨y, rfl, q⟩ := t.one
    exact ⟨_, y, rfl, r, q⟩
noncomputable def lenD : List D → Option D
  | [.list ds] => some (.int ds.length)
  | [.tuple ds] => some (.int ds.length)
  | [.str z] => if gd (z.length ≤ sizeLine) = true then some (.int z.length) else none
  | _ => none
theorem u_len (hK : X.K = K := by rfl) : CallR X (.builtin "len") (rGn K cl lenD) := by
  subst hK
  intro pins s σ H xs us Q I r h
  obtain ⟨Z, ds, d, hx, e, q⟩ := h
  unfold lenD at e
  split at e
  · cases e
    obtain ⟨x, rfl, a, ys, rfl, ls, ra⟩ := hx.one
    exact call_len pins s σ H _ us Q I r ⟨_, _, rfl, .inl ⟨_, ls.sq, rfl⟩, by rw [ra.length]; exact q _ _ (fun _ _ e => e) (.int _)⟩
  · cases e
    obtain ⟨x, rfl, hq⟩ := hx.one
    cases hq with
    | tup ls ra => exact call_len pins s σ H _ us Q I r ⟨_, _, rfl, .inr ⟨_, ls, rfl⟩, by rw [ra.length]; exact q _ _ (fun _ _ e => e) (.int _)⟩
  · split at e
    · cases e
      obtain ⟨x, rfl, hq⟩ := hx.one
      cases hq
      exact call_len pins s σ H _ us Q I r ⟨_, _, rfl, ⟨gd_iff.mp (by assumption), rfl⟩, q _ _ (fun _ _ e => e) (.int _)⟩
    · cases e
  · cases e
def intD : List D → Option D
  | [.int i] => some (.int i)
  | [.bool b] => some (.int (if b then 1 else 0))
  | _ => none
theorem u_int : CallR X (.type "int") (rGn K cl intD) := by
  intro pins s σ H xs us Q I r h
  obtain ⟨Z, ds, d, hx, e, q⟩ := h
  unfold intD at e
  split at e
  · cases e
    obtain ⟨x, rfl, hq⟩ := hx.one
    cases hq
    exact call_int1 pins s σ H _ us Q I r (.inl ⟨_, rfl, q _ _ (fun _ _ e => e) (.int _)⟩)
  · cases e
    obtain ⟨x, rfl, hq⟩ := hx.one
    cases hq
    exact call_int1 pins s σ H _ us Q I r (.inr ⟨_, rfl, q _ _ (fun _ _ e => e) (.int _)⟩)
  · cases e
def absD : List D → Option D
  | [.int i] => some (.int (if i < 0 then -i else i))
  | _ => none
theorem u_abs : CallR X (.builtin "abs") (rGn K cl absD) := by
  intro pins s σ H xs us Q I r h
  obtain ⟨Z, ds, d, hx, e, q⟩ := h
  unfold absD at e
  split at e
  · cases e
    obtain ⟨x, rfl, hq⟩ := hx.one
    cases hq
    exact call_abs pins s σ H _ us Q I r ⟨_, rfl, q _ _ (fun _ _ e => e) (.int _)⟩
  · cases e
/-- the ints of a list or tuple -/
def intsOf : List D → Option (List Int)
  | [] => some []
  | .int i :: ds => (intsOf ds).map fun l => i :: l
  | _ => none
theorem ints_rep {Z : Addr → Prop} {H : Hp} : ∀ {xs : List V} {ds : List D} {ns : List Int}, RepAll K cl Z H xs ds → intsOf ds = some ns → xs = ns.map V.int
  | _, _, _, .nil, e => by cases e; rfl
  | _, _, _, .cons h t, e => by
    cases h with
    | int i =>
      obtain ⟨l, e1, e2⟩ := omap (show (intsOf _).map _ = _ from e)
      subst e2
      rw [List.map_cons, ints_rep t e1]
    | _ => cases e
theorem intsOf_map (ns : List Int) : intsOf (ns.map .int) = some ns := by
  induction ns with
  | nil => rfl
  | cons n ns ih => rw [List.map_cons, intsOf, ih]; rfl
def boolsOf : List D → Option (List Bool)
  | [] => some []
  | .bool b :: ds => (boolsOf ds).map fun l => b :: l
  | _ => none
theorem bools_rep {Z : Addr → Prop} {H : Hp} : ∀ {xs : List V} {ds : List D} {ns : List Bool}, RepAll K cl Z H xs ds → boolsOf ds = some ns → xs = ns.map V.bl
  | _, _, _, .nil, e => by cases e; rfl
  | _, _, _, .cons h t, e => by
    cases h with
    | bl i =>
      obtain ⟨l, e1, e2⟩ := omap (show (boolsOf _).map _ = _ from e)
      subst e2
      rw [List.map_cons, bools_rep t e1]
    | _ => cases e
theorem boolsOf_map (bs : List Bool) : boolsOf (bs.map .bool) = some bs := by
  induction bs with
  | nil => rfl
  | cons n ns ih => rw [List.map_cons, boolsOf, ih]; rfl
def strsOf : List D → Option (List Str)
  | [] => some []
  | .str b :: ds => (strsOf ds).map fun l => b :: l
  | _ => none
theorem strs_rep {Z : Addr → Prop} {H : Hp} : ∀ {xs : List V} {ds : List D} {ns : List Str}, RepAll K cl Z H xs ds → strsOf ds = some ns → xs = ns.map V.str
  | _, _, _, .nil, e => by cases e; rfl
  | _, _, _, .cons h t, e => by
    cases h with
    | str i =>
      obtain ⟨l, e1, e2⟩ := omap (show (strsOf _).map _ = _ from e)
      subst e2
      rw [List.map_cons, strs_rep t e1]
    | _ => cases e
theorem strsOf_map (bs : List Str) : strsOf (bs.map .str) = some bs := by
  induction bs with
  | nil => rfl
  | cons n ns ih => rw [List.map_cons, strsOf, ih]; rfl
def sumD : List D → Option D
  | [.list ds] => (intsOf ds).map fun ns => .int ns.sum
  | [.tuple ds] => (intsOf ds).map fun ns => .int ns.sum
  | _ => none
theorem u_sum (hc : X.calm = true) (hK : X.K = K := by rfl) : CallR X (.builtin "sum") (rGn K cl sumD) := by
  subst hK
  intro pins s σ H xs us Q I r h
  obtain ⟨Z, ds, d, hx, e, q⟩ := h
  unfold sumD at e
  split at e
  · obtain ⟨ns, e1, rfl⟩ := omap e
    obtain ⟨x, rfl, a, ys, rfl, ls, ra⟩ := hx.one
    have := ints_rep ra e1
    subst this
    exact cr_sum hc pins s σ H _ us Q I r ⟨_, ns, rfl, ls.sq, q _ _ (fun _ _ e => e) (.int _)⟩
  · obtain ⟨ns, e1, rfl⟩ := omap e
    obtain ⟨x, rfl, hq⟩ := hx.one
    cases hq with
    | tup ls ra =>
      have := ints_rep ra e1
      subst this
      exact cr_sumT hc pins s σ H _ us Q I r ⟨_, ns, rfl, ls, q _ _ (fun _ _ e => e) (.int _)⟩
  · cases e
def allD : List D → Option D
  | [.list ds] => (boolsOf ds).map fun bs => .bool (bs.all id)
  | _ => none
def anyD : List D → Option D
  | [.list ds] => (boolsOf ds).map fun bs => .bool (bs.any id)
  | _ => none
theorem u_all (hc : X.calm = true) (hK : X.K = K := by rfl) : CallR X (.builtin "all") (rGn K cl allD) := by
  subst hK
  intro pins s σ H xs us Q I r h
  obtain ⟨Z, ds, d, hx, e, q⟩ := h
  unfold allD at e
  split at e
  · obtain ⟨ns, e1, rfl⟩ := omap e
    obtain ⟨x, rfl, a, ys, rfl, ls, ra⟩ := hx.one
    have := bools_rep ra e1
    subst this
    exact cr_all hc pins s σ H _ us Q I r ⟨_, ns, rfl, ls.sq, q _ _ (fun _ _ e => e) (.bl _)⟩
  · cases e
theorem u_any (hc : X.calm = true) (hK : X.K = K := by rfl) : CallR X (.builtin "any") (rGn K cl anyD) := by
  subst hK
  intro pins s σ H xs us Q I r h
  obtain ⟨Z, ds, d, hx, e, q⟩ := h
  unfold anyD at e
  split at e
  · obtain ⟨ns, e1, rfl⟩ := omap e
    obtain ⟨x, rfl, a, ys, rfl, ls, ra⟩ := hx.one
    have := bools_rep ra e1
    subst this
    exact cr_any hc pins s σ H _ us Q I r ⟨_, ns, rfl, ls.sq, q _ _ (fun _ _ e => e) (.bl _)⟩
  · cases e
/-- max, min: of two ints, of a list of ints -/
def maxL : List Int → Option Int
  | [] => none
  | n :: ns => some (ns.foldl max n)
def minL : List Int → Option Int
  | [] => none
  | n :: ns => some (ns.foldl min n)
theorem foldl_max (ns : List Int) : ∀ n : Int, (ns.foldl max n = n ∨ ns.foldl max n ∈ ns) ∧ n ≤ ns.foldl max n ∧ ∀ y ∈ ns, y ≤ ns.foldl max n := by
  induction ns with
  | nil => intro n; exact ⟨.inl rfl, by simp, fun y h => by cases h⟩
  | cons m ns ih =>
    intro n
    obtain ⟨h1, h2, h3⟩ := ih (max n m)
    rw [List.foldl_cons]
    refine ⟨?_, by omega, fun y h => ?_⟩
    · rcases h1 with h1 | h1
      · rw [h1]
        by_cases h : n ≤ m
        · exact .inr (by rw [Int.max_eq_right h]; simp)
        · exact .inl (Int.max_eq_left (by omega))
      · exact .inr (by simp [h1])
    · rcases List.mem_cons.mp h with rfl | h
      · omega
      · exact h3 y h
theorem foldl_min (ns : List Int) : ∀ n : Int, (ns.foldl min n = n ∨ ns.foldl min n ∈ ns) ∧ ns.foldl min n ≤ n ∧ ∀ y ∈ ns, ns.foldl min n ≤ y := by
  induction ns with
  | nil => intro n; exact ⟨.inl rfl, by simp, fun y h => by cases h⟩
  | cons m ns ih =>
    intro n
    obtain ⟨h1, h2, h3⟩ := ih (min n m)
    rw [List.foldl_cons]
    refine ⟨?_, by omega, fun y h => ?_⟩
    · rcases h1 with h1 | h1
      · rw [h1]
        by_cases h : n ≤ m
        · exact .inl (Int.min_eq_left h)
        · exact .inr (by rw [Int.min_eq_right (by omega)]; simp)
      · exact .inr (by simp [h1])
    · rcases List.mem_cons.mp h with rfl | h
      · omega
      · exact h3 y h
def max2 (i j : Int) : Int := if j > i then j else i
def min2 (i j : Int) : Int := if j < i then j else i
def maxD : List D → Option D
  | [.int i, .int j] => some (.int (max2 i j))
  | [.list ds] => (intsOf ds).bind fun ns => (maxL ns).map .int
  | _ => none
def minD : List D → Option D
  | [.int i, .int j] => some (.int (min2 i j))
  | [.list ds] => (intsOf ds).bind fun ns => (minL ns).map .int
  | _ => none
theorem u_max (hc : X.calm = true) (hK : X.K = K := by rfl) : CallR X (.builtin "max") (rGn K cl maxD) := by
  subst hK
  intro pins s σ H xs us Q I r h
  obtain ⟨Z, ds, d, hx, e, q⟩ := h
  unfold maxD at e
  split at e
  · cases e
    obtain ⟨x, y, rfl, hq, hy⟩ := hx.two
    cases hq; cases hy
    exact call_max2 hc pins s σ H _ us Q I r ⟨_, _, rfl, q _ _ (fun _ _ e => e) (.int _)⟩
  · obtain ⟨ns, e1, e2⟩ := obnd e
    obtain ⟨m, e3, rfl⟩ := omap e2
    obtain ⟨x, rfl, a, ys, rfl, ls, ra⟩ := hx.one
    have := ints_rep ra e1
    subst this
    cases ns with
    | nil => cases e3
    | cons n ns =>
      cases e3
      refine cr_max hc pins s σ H _ us Q I r ⟨_, n :: ns, rfl, ls.sq, by simp, fun m' h1 h2 => ?_⟩
      obtain ⟨f1, f2, f3⟩ := foldl_max ns n
      have e4 : m' = ns.foldl max n := by
        have a1 : m' ≤ ns.foldl max n := by
          rcases List.mem_cons.mp h1 with rfl | h1
          · exact f2
          · exact f3 _ h1
        have a2 : ns.foldl max n ≤ m' := by
          rcases f1 with f1 | f1
          · rw [f1]; exact h2 _ (by simp)
          · exact h2 _ (by simp [f1])
        omega
      rw [e4]
      exact q _ _ (fun _ _ e => e) (.int _)
  · cases e
theorem u_min (hc : X.calm = true) (hK : X.K = K := by rfl) : CallR X (.builtin "min") (rGn K cl minD) := by
  subst hK
  intro pins s σ H xs us Q I r h
  obtain ⟨Z, ds, d, hx, e, q⟩ := h
  unfold minD at e
  split at e
  · cases e
    obtain ⟨x, y, rfl, hq, hy⟩ := hx.two
    cases hq; cases hy
    exact call_min2 hc pins s σ H _ us Q I r ⟨_, _, rfl, q _ _ (fun _ _ e => e) (.int _)⟩
  · obtain ⟨ns, e1, e2⟩ := obnd e
    obtain ⟨m, e3, rfl⟩ := omap e2
    obtain ⟨x, rfl, a, ys, rfl, ls, ra⟩ := hx.one
    have := ints_rep ra e1
    subst this
    cases ns with
    | nil => cases e3
    | cons n ns =>
      cases e3
      refine cr_min hc pins s σ H _ us Q I r ⟨_, n :: ns, rfl, ls.sq, by simp, fun m' h1 h2 => ?_⟩
      obtain ⟨f1, f2, f3⟩ := foldl_min ns n
      have e4 : m' = ns.foldl min n := by
        have a1 : ns.foldl min n ≤ m' := by
          rcases List.mem_cons.mp h1 with rfl | h1
          · exact f2
          · exact f3 _ h1
        have a2 : m' ≤ ns.foldl min n := by
          rcases f1 with f1 | f1
          · rw [f1]; exact h2 _ (by simp)
          · exact h2 _ (by simp [f1])
        omega
      rw [e4]
      exact q _ _ (fun _ _ e => e) (.int _)
  · cases e
noncomputable def divmodD : List D → Option D
  | [.int i, .int j] => if gd (0 < j ∧ j < 1073741824) = true then some (.tuple [.int (i / j), .int (i % j)]) else none
  | _ => none
theorem u_divmod : CallR X (.builtin "divmod") (rGn K cl divmodD) := by
  intro pins s σ H xs us Q I r h
  obtain ⟨Z, ds, d, hx, e, q⟩ := h
  unfold divmodD at e
  split at e
  · split at e
    · rename_i c
      cases e
      obtain ⟨x, y, rfl, hq, hy⟩ := hx.two
      cases hq; cases hy
      refine call_divmod pins s σ H _ us Q I r ⟨_, _, rfl, gd_iff.mp c, fun p np => ?_⟩
      exact q _ _ (Same.up np) (.tup (.of upd_same) (.cons (.int _) (.cons (.int _) .nil)))
    · cases e
  · cases e
def tupleD : List D → Option D
  | [.list ds] => some (.tuple ds)
  | [.tuple ds] => some (.tuple ds)
  | _ => none
theorem u_tuple (hK : X.K = K := by rfl) : CallR X (.type "tuple") (rGn K cl tupleD) := by
  subst hK
  intro pins s σ H xs us Q I r h
  obtain ⟨Z, ds, d, hx, e, q⟩ := h
  unfold tupleD at e
  split at e
  · cases e
    obtain ⟨x, rfl, a, ys, rfl, ls, ra⟩ := hx.one
    exact call_tuple_of pins s σ H _ us Q I r ⟨_, _, rfl, .inl ⟨ls.sq, vr_tup ra q⟩⟩
  · cases e
    obtain ⟨x, rfl, hq⟩ := hx.one
    cases hq with
    | tup ls ra => exact call_tuple_of pins s σ H _ us Q I r ⟨_, _, rfl, .inr ⟨ls, q _ _ (fun _ _ e => e) (.tup ls ra)⟩⟩
  · cases e
def listD : List D → Option Sl
  | [.list ds] => some (.o (.list ds))
  | [.tuple ds] => some (.o (.list ds))
  | _ => none
theorem u_list (hK : X.K = K := by rfl) : CallR X (.type "list") (rGne K cl listD) := by
  subst hK
  intro pins s σ H xs us Q I r h
  obtain ⟨Z, ds, d, hx, e, q⟩ := h
  unfold listD at e
  split at e
  · cases e
    obtain ⟨x, rfl, a, ys, rfl, ls, ra⟩ := hx.one
    exact call_list_of pins s σ H _ us Q I r ⟨_, _, rfl, .inl ls.sq, vr_new ra q⟩
  · cases e
    obtain ⟨x, rfl, hq⟩ := hx.one
    cases hq with
    | tup ls ra => exact call_list_of pins s σ H _ us Q I r ⟨_, _, rfl, .inr ls, vr_new ra q⟩
  · cases e
noncomputable def reprD : List D → Option D
  | [d] => if gd (d.showable = true ∧ d.hasDict = false ∧ d.shown.length ≤ sizeLine ∧ d.depth ≤ 60) = true then some (.str d.shown) else none
  | _ => none
theorem u_repr (gd : X.A.guards = some []) (hu : X.A.units + 64 < cLine) (hK : X.K = K := by rfl) : CallR X (.builtin "repr") (rGn K cl reprD) := by
  subst hK
  intro pins s σ H xs us Q I r h
  obtain ⟨Z, ds, d, hx, e, q⟩ := h
  unfold reprD at e
  split at e
  · rename_i d0
    split at e
    · rename_i c
      have c := gd_iff.mp c
      cases e
      obtain ⟨x, rfl, hq⟩ := hx.one
      exact call_reprV gd hu pins s σ H _ us Q I r ⟨x, d0, rfl, .inl (hq.dp c.2.1), c.1, .inr c.2.1, c.2.2.1, c.2.2.2, q _ _ (fun _ _ e => e) (.str _)⟩
    · cases e
  · cases e
/-- isinstance(x, a built-in class) -/
def tyD : D → String
  | .none => "NoneType"
  | .bool _ => "bool"
  | .int _ => "int"
  | .str _ => "str"
  | .list _ => "list"
  | .tuple _ => "tuple"
  | .dict _ => "dict"
def isiD (n : String) (d : D) : Option D := match d with
  | .dict _ => none
  | _ => (kitB (tyD d) n).map .bool
theorem ty_rep {Z : Addr → Prop} {H : Hp} {v : V} {d : D} (h : RepS K cl Z H v d) (hn : ∀ kvs, d ≠ .dict kvs) : TyX K H v (.type (tyD d)) := by
  cases d with
  | dict kvs => exact absurd rfl (hn kvs)
  | list ds =>
    obtain ⟨a, xs, rfl, ls, _⟩ := h
    rcases ls with ⟨_, ls⟩ | ⟨o, ls⟩ | ⟨its, n, e, _⟩
    · exact .base (.lst ls)
    · exact .base (.frz ls)
    · exact .kList e rfl
  | tuple ds =>
    cases h with
    | tup s _ =>
      rcases s with (s | ⟨o, s⟩) | ⟨o, its, n, e, c, _⟩
      · exact .base (.tup s)
      · exact .fTuple s
      · exact .kTuple e c
  | none => cases h; exact .base .non
  | bool b => cases h; exact .base (.bl b)
  | int i => cases h; exact .base (.int i)
  | str x => cases h; exact .base (.str x)
end
end Pu
/-! The pure layer: further built-ins; pairs stored; calls by keywords; the def's end. -/
namespace Pu
open PySem PySem.Spec PyProof.Rows L2
section
variable {X : Cx} {K : PySem.W.Frag} {cl : Cl}
/-! ### isinstance of a built-in class -/
theorem isi_ok {n : String} {Z : Addr → Prop} {H : Hp} {v : V} {d r : D} (h : RepS K cl Z H v d) (e : isiD n d = some r) : ∃ b, r = .bool b ∧ ∃ t, TyX K H v t ∧ PySem.W.kitOne K t (.type n) = some b := by
  have nd : ∀ kvs, d ≠ .dict kvs := by rintro kvs rfl; cases e
  have ty := ty_rep h nd
  have e2 : (kitB (tyD d) n).map PyData.bool = some r := by
    cases d <;> first | exact e | exact absurd rfl (nd _)
  obtain ⟨b, e3, rfl⟩ := omap e2
  exact ⟨b, rfl, _, ty, kit_ty e3⟩
theorem se_isi {n : String} {t f} (h : SemW K cl t f) : SemV K cl (tCB (rIsi K) (tCons t (tCons (tC (.ty n)) tNil))) (fUn (isiD n) f) := by
  intro L Y Z H σ ρ d ρ' Q G e q
  obtain ⟨l, ρ1, e1, e4⟩ := bnd_some e
  obtain ⟨d', e5, e6⟩ := omap e4
  cases e6
  obtain ⟨dx, ex, e5⟩ := obnd e5
  refine h L Y Z H σ ρ l _ _ G e1 fun v Z1 H1 x1 g1 r1 => ?_
  obtain ⟨b, rfl, t', ty, k⟩ := isi_ok (LvR.look g1 r1 ex) e5
  exact ⟨v, .ty n, t', .type n, b, rfl, .ty n, ty, k, q _ Z1 H1 x1 g1 (.bl b)⟩
theorem call_isiK (hK : X.K = K := by rfl) : CallR X (.builtin "isinstance") (rIsi K) := hK ▸ call_isi
/-! ### sign.join(texts) -/
noncomputable def joinD : D → D → Option D
  | .str a, .list ds => (strsOf ds).bind fun ys => if gd ((ys.map (·.length)).sum + ys.length * a.length ≤ 16777216) = true then some (.str (Txt.join a ys)) else none
  | .str a, .tuple ds => (strsOf ds).bind fun ys => if gd ((ys.map (·.length)).sum + ys.length * a.length ≤ 16777216) = true then some (.str (Txt.join a ys)) else none
  | _, _ => none
def rJn (K : PySem.W.Frag) : V → List V → Hp → VK → Prop := fun x xs H Q => ∃ a p, ∃ ys : List Str, x = .str a ∧ xs = [.ref p] ∧ (SqL K H p (ys.map V.str) ∨ SqT K H p (ys.map V.str)) ∧ (ys.map (·.length)).sum + ys.length * a.length ≤ 16777216 ∧ Q (.str (Txt.join a ys)) H
theorem pe_joinK {o e : Expr} {to te : TE} {apos pos : Pos} (ho : PE X o to) (he : PE X e te) (hK : X.K = K := by rfl) (hs : starEach [e] X.env = [(false, eval e X.env)] := by rfl) (hbase : attributeBase o "join" X.env (eval o X.env) = eval o X.env := by rfl) (hline : (apos.endLine == pos.line) = true := by rfl) :
    PE X (.Call (.Attribute o "join" apos) [e] [] pos) (tM1 (rJn K) to te) := by
  subst hK
  exact pe_join ho he hs hbase hline
theorem se_join {t1 t2 f1 f2} (h1 : SemW K cl t1 f1) (h2 : SemW K cl t2 f2) : SemV K cl (tM1 (rJn K) t1 t2) (fOp joinD f1 f2) := by
  intro L Y Z H σ ρ d ρ' Q G e q
  obtain ⟨a, ρ1, e1, e2⟩ := bnd_some e
  obtain ⟨b, ρ2, e3, e4⟩ := bnd_some e2
  obtain ⟨d', e5, e6⟩ := omap e4
  cases e6
  obtain ⟨dx, dy, ex, ey, e5⟩ := two_some e5
  refine h1 L Y Z H σ ρ a ρ1 _ G e1 fun v Z1 H1 x1 g1 r1 => ?_
  have str_of : ∀ {z : Str} {Z' : Addr → Prop} {H' : Hp}, RepS K cl Z' H' v (.str z) → v = .str z := fun h => by cases h; rfl
  have isS : ∃ z, dx = .str z := by
    unfold joinD at e5
    split at e5
    · exact ⟨_, rfl⟩
    · exact ⟨_, rfl⟩
    · cases e5
  obtain ⟨z, rfl⟩ := isS
  have vz : v = .str z := by
    cases a with
    | v d0 => cases ex; exact str_of (Rep.s r1)
    | b i =>
      simp only [lookS] at ex
      split at ex <;> cases ex
  refine ⟨⟨z, vz⟩, h2 L Y Z1 H1 σ ρ1 b _ _ g1 e3 fun w Z2 H2 x2 g2 r2 => ?_⟩
  have hy := LvR.look g2 r2 ey
  unfold joinD at e5
  split at e5
  · rename_i a' ds e7
    cases e7
    obtain ⟨ys, e8, e9⟩ := obnd e5
    split at e9
    · rename_i c
      have c := gd_iff.mp c
      cases e9
      obtain ⟨p, xs, rfl, ls, ra⟩ := hy
      have := strs_rep ra e8
      subst this
      exact ⟨z, p, ys, vz, rfl, .inl ls.sq, c, q _ Z2 H2 (x1.trans x2) g2 (.str _)⟩
    · cases e9
  · rename_i a' ds e7
    cases e7
    obtain ⟨ys, e8, e9⟩ := obnd e5
    split at e9
    · rename_i c
      have c := gd_iff.mp c
      cases e9
      cases hy with
      | tup ls ra =>
        have := strs_rep ra e8
        subst this
        exact ⟨z, _, ys, vz, rfl, .inr ls, c, q _ Z2 H2 (x1.trans x2) g2 (.str _)⟩
    · cases e9
  · cases e5
theorem dummyJ : True := trivial
/-! ### texts' methods of one text -/
def strB (g : Str → Str → D) : D → D → Option D
  | .str a, .str b => some (g a b)
  | _, _ => none
theorem se_m1 {r : V → List V → Hp → VK → Prop} {g : Str → Str → D} {t1 t2 f1 f2} (hr : ∀ (Z : Addr → Prop) a b H (Q : VK), (∀ v, Rep K cl Z H v (g a b) → Q v H) → r (.str a) [.str b] H Q) (h1 : SemW K cl t1 f1) (h2 : SemW K cl t2 f2) : SemV K cl (tM1 r t1 t2) (fOp (strB g) f1 f2) := by
  intro L Y Z H σ ρ d ρ' Q G e q
  obtain ⟨a, ρ1, e1, e2⟩ := bnd_some e
  obtain ⟨b, ρ2, e3, e4⟩ := bnd_some e2
  obtain ⟨d', e5, e6⟩ := omap e4
  cases e6
  obtain ⟨dx, dy, ex, ey, e5⟩ := two_some e5
  unfold strB at e5
  split at e5
  · rename_i x y
    cases e5
    refine h1 L Y Z H σ ρ a ρ1 _ G e1 fun v Z1 H1 x1 g1 r1 => ?_
    have vz : v = .str x := by
      cases a with
      | v d0 => cases ex; cases r1; rfl
      | b i =>
        simp only [lookS] at ex
        split at ex <;> cases ex
    subst vz
    refine ⟨⟨x, rfl⟩, h2 L Y Z1 H1 σ ρ1 b _ _ g1 e3 fun w Z2 H2 x2 g2 r2 => ?_⟩
    have hy := LvR.look g2 r2 ey
    cases hy
    exact hr Z2 x y H2 Q fun v rv => q v Z2 H2 (x1.trans x2) g2 rv
  · cases e5
/-! ### sorted(set(..)) -/
def ddp : List Key → List Key
  | [] => []
  | k :: ks => if hasK ks k = true then ddp ks else k :: ddp ks
theorem ddp_mem {k : Key} : ∀ {ks : List Key}, k ∈ ddp ks ↔ k ∈ ks
  | [] => Iff.rfl
  | j :: ks => by
    simp only [ddp]
    split
    · rename_i h
      rw [ddp_mem, List.mem_cons]
      exact ⟨.inr, fun q => q.elim (fun e => e ▸ hasK_iff.mp h) id⟩
    · rw [List.mem_cons, List.mem_cons, ddp_mem]
theorem ddp_nodup : ∀ ks : List Key, (ddp ks).Nodup
  | [] => List.nodup_nil
  | j :: ks => by
    simp only [ddp]
    split
    · exact ddp_nodup ks
    · rename_i h
      exact List.nodup_cons.mpr ⟨fun q => h (hasK_iff.mpr (ddp_mem.mp q)), ddp_nodup ks⟩
def keysOf : List D → Option (List Key)
  | [] => some []
  | .int i :: ds => (keysOf ds).map fun l => .inl i :: l
  | .str x :: ds => (keysOf ds).map fun l => .inr x :: l
  | _ => none
theorem keys_rep {Z : Addr → Prop} {H : Hp} : ∀ {xs : List V} {ds : List D} {ks : List Key}, RepAll K cl Z H xs ds → keysOf ds = some ks → xs = ks.map kV
  | _, _, _, .nil, e => by cases e; rfl
  | _, _, _, .cons h t, e => by
    cases h with
    | int i =>
      obtain ⟨l, e1, e2⟩ := omap (show (keysOf _).map _ = _ from e)
      subst e2
      rw [List.map_cons, keys_rep t e1]; rfl
    | str i =>
      obtain ⟨l, e1, e2⟩ := omap (show (keysOf _).map _ = _ from e)
      subst e2
      rw [List.map_cons, keys_rep t e1]; rfl
    | _ => cases e
def isL : Key → Bool
  | .inl _ => true
  | .inr _ => false
/-- all of one kind -/
def oneKind (ks : List Key) : Bool := ks.all isL || ks.all fun k => !isL k
def keyLe : Key → Key → Bool := PySem.W.dataLe false kD
def sortK (ks : List Key) : List D := ((ddp ks).mergeSort keyLe).map keyD
noncomputable def sortSetD : D → Option Sl
  | .list ds => (keysOf ds).bind fun ks => if gd (oneKind ks = true ∧ ks.length + 1 < scanBound) = true then some (.o (.list (sortK ks))) else none
  | _ => none
theorem keyLe_ll (a b : Int) : keyLe (.inl a) (.inl b) = decide (a ≤ b) := by
  show (!PySem.W.dataLt (.int b) (.int a)) = _
  rw [PySem.W.dataLt_int]
  by_cases h : b < a
  · rw [decide_eq_true h, decide_eq_false (by omega)]; rfl
  · rw [decide_eq_false h, decide_eq_true (by omega)]; rfl
theorem keyLe_rr (a b : Str) : keyLe (.inr a) (.inr b) = !decide (b.cps.toList < a.cps.toList) := by
  show (!PySem.W.dataLt (.str b) (.str a)) = _
  rw [PySem.W.dataLt_str]
theorem alike_kind {j k : Key} (h : isL j = isL k) : PySem.W.alike (kD j) (kD k) = true := by
  cases j <;> cases k <;> first | rfl | cases h
theorem keyLe_total {j k : Key} (h : isL j = isL k) : keyLe j k = true ∨ keyLe k j = true := by
  cases j <;> cases k <;> first | cases h | skip
  · rw [keyLe_ll, keyLe_ll, decide_eq_true_eq, decide_eq_true_eq]; omega
  · rename_i a b
    rw [keyLe_rr, keyLe_rr]
    by_cases q : b.cps.toList < a.cps.toList
    · right
      have : ¬ a.cps.toList < b.cps.toList := List.lt_asymm q
      simp [this]
    · left; simp [q]
theorem keyLe_anti {j k : Key} (h : isL j = isL k) (h1 : keyLe j k = true) (h2 : keyLe k j = true) : j = k := by
  cases j <;> cases k <;> first | cases h | skip
  · rw [keyLe_ll, decide_eq_true_eq] at h1 h2; congr 1; omega
  · rename_i a b
    rw [keyLe_rr] at h1 h2
    simp only [Bool.not_eq_true', decide_eq_false_iff_not] at h1 h2
    congr 1
    exact PySem.W.str_of_cps (List.le_antisymm h1 h2)
theorem keyLe_trans {i j k : Key} (h : isL i = isL j) (h' : isL j = isL k) (h1 : keyLe i j = true) (h2 : keyLe j k = true) : keyLe i k = true := by
  cases i <;> cases j <;> cases k <;> simp only [isL, reduceCtorEq] at h h'
  · rw [keyLe_ll, decide_eq_true_eq] at *; omega
  · rw [keyLe_rr] at *
    simp only [Bool.not_eq_true', decide_eq_false_iff_not] at *
    exact List.le_trans h1 h2
theorem oneKind_iff {ks : List Key} (h : oneKind ks = true) : ∀ j ∈ ks, ∀ k ∈ ks, isL j = isL k := by
  unfold oneKind at h
  simp only [Bool.or_eq_true, List.all_eq_true, Bool.not_eq_true'] at h
  intro j hj k hk
  rcases h with h | h <;> rw [h j hj, h k hk]
theorem sortK_of {ks ks' : List Key} (h1 : oneKind ks = true) (nd : ks'.Nodup) (mem : ∀ k, k ∈ ks' ↔ k ∈ ks) : (ks'.mergeSort keyLe) = (ddp ks).mergeSort keyLe := by
  have hk := oneKind_iff h1
  have perm : ks'.Perm (ddp ks) := (List.perm_ext_iff_of_nodup nd (ddp_nodup ks)).mpr fun k => by rw [mem, ddp_mem]
  have srt : ∀ l : List Key, (∀ k ∈ l, k ∈ ks) → (l.mergeSort keyLe).Pairwise fun a b => keyLe a b = true := by
    intro l hl
    have e : l.mergeSort keyLe = ((l.attach.map fun x => (⟨x.1, hl x.1 x.2⟩ : { k // k ∈ ks })).mergeSort fun a b => keyLe a.1 b.1).map Subtype.val := by
      rw [List.map_mergeSort (r := fun a b : { k // k ∈ ks } => keyLe a.1 b.1) (s := keyLe) (fun a _ b _ => rfl)]
      congr 1
      rw [List.map_map]
      exact (List.attach_map_subtype_val l).symm
    rw [e, List.pairwise_map]
    exact List.pairwise_mergeSort (le := fun (a b : { k // k ∈ ks }) => keyLe a.1 b.1) (fun a b c x y => keyLe_trans (hk _ a.2 _ b.2) (hk _ b.2 _ c.2) x y) (fun a b => by
      have := keyLe_total (hk _ a.2 _ b.2)
      simpa [Bool.or_eq_true] using this) _
  refine List.Perm.eq_of_pairwise (le := fun a b => keyLe a b = true) (fun a b ha hb x y => ?_) (srt ks' fun k h => (mem k).mp h) (srt (ddp ks) fun k h => ddp_mem.mp h) ((List.mergeSort_perm _ _).trans (perm.trans (List.mergeSort_perm _ _).symm))
  rw [List.mem_mergeSort] at ha hb
  exact keyLe_anti (hk _ ((mem a).mp ha) _ (ddp_mem.mp hb)) x y
/-- sorted(set(xs)) -/
theorem RepAll.keys {Z : Addr → Prop} {H : Hp} (ks : List Key) : RepAll K cl Z H (ks.map kV) (ks.map keyD) := by
  induction ks with
  | nil => exact .nil
  | cons k ks ih =>
    refine .cons ?_ ih
    cases k with
    | inl i => exact .int i
    | inr x => exact .str x
noncomputable def fSortSet (f : En → Option (Lv × En)) : En → Option (Sl × En) := bnd f fun l ρ => ((lookS ρ l).bind sortSetD).map fun r => (r, ρ)
theorem se_sortSet {P : Program} {w : World} {t f} (h : SemW K cl t f) : SemE K cl (tCB (rSortG P w) (tCons (tCB (rSetG K P w) (tCons t tNil)) tNil)) (fSortSet f) := by
  intro L Y Z H σ ρ s ρ' Q G e _ q _
  obtain ⟨l, ρ1, e1, e4⟩ := bnd_some e
  obtain ⟨s', e5, e6⟩ := omap e4
  cases e6
  obtain ⟨dx, ex, e5⟩ := obnd e5
  refine h L Y Z H σ ρ l _ _ G e1 fun v Z1 H1 x1 g1 r1 => ?_
  have hx := LvR.look g1 r1 ex
  unfold sortSetD at e5
  split at e5
  · rename_i ds
    obtain ⟨ks, e7, e8⟩ := obnd e5
    split at e8
    · rename_i c
      have c := gd_iff.mp c
      cases e8
      obtain ⟨a, xs, rfl, ls, ra⟩ := hx
      have := keys_rep ra e7
      subst this
      refine ⟨a, ks, rfl, ls.sq, c.2, fun p n np hn => ⟨p, hasK ks, n, rfl, upd_same, fun j k hj hk => alike_kind (oneKind_iff c.1 _ (hasK_iff.mp hj) _ (hasK_iff.mp hk)), fun ks' p' nd mem _ np' => ?_⟩⟩
      have k1 : Same H1 (upd H1 p (SetGO P w p (hasK ks) n)) := Same.up np
      have k2 : Same H1 (upd (upd H1 p (SetGO P w p (hasK ks) n)) p' (.lst ((ks'.mergeSort (PySem.W.dataLe false kD)).map kV))) := fun b o e => Same.up np' b o (k1 b o e)
      have np1 : H1 p' = none := by
        cases z : H1 p' with
        | none => rfl
        | some o => rw [k1 _ _ z] at np'; cases np'
      have es : (ks'.mergeSort (PySem.W.dataLe false kD)) = (ddp ks).mergeSort keyLe := sortK_of c.1 nd fun k => by rw [mem, hasK_iff]
      refine q _ rfl p' Z1 _ (x1.trans (.same k2)) (fun y => g1.yd p' y np1) (g1.priv k2 np1 (by rw [upd_same]; simp)) ⟨_, upd_same, ?_⟩
      rw [es]
      exact RepAll.keys _
    · cases e8
  · cases e5
theorem call_setK {P : Program} {w : World} (hc : X.calm = true) (hK : X.K = K := by rfl) (hP : X.prog = P := by rfl) (hw : X.w = w := by rfl) : CallR X (.type "set") (rSetG K P w) := by subst hK hP hw; exact call_setG hc
theorem cr_sortK {P : Program} {w : World} (hc : X.calm = true) (hu : X.A.units + 64 < cLine) (hP : X.prog = P := by rfl) (hw : X.w = w := by rfl) : CallR X (.builtin "sorted") (rSortG P w) := by subst hP hw; exact cr_sortG hc hu
/-! ### a, b = x, y -/
def putAll : List Nat → List Arg → En → Option En
  | [], [], ρ => some ρ
  | i :: is, .s d :: as, ρ => (put i (.s d) ρ).bind (putAll is as)
  | i :: is, .t d :: as, ρ => (put i (.o d) ρ).bind (putAll is as)
  | _, _, _ => none
def setAll : List Nat → List V → L2.St → L2.St
  | i :: is, v :: vs, σ => setAll is vs (σ.set i (some v))
  | _, _, σ => σ
theorem putAll_ok {L : Nat → Addr → Prop} {Y Z : Addr → Prop} {H : Hp} {σ0 : L2.St} : ∀ {is : List Nat} {vs : List V} {as : List Arg} {l : List Addr} {σ : L2.St} {ρ ρ' : En}, ArgR K cl σ0 Z H vs as l → (∀ a ∈ l, ¬ Y a) → Fit K cl L (fun b => Y b ∨ b ∈ l) Z H σ ρ → putAll is as ρ = some ρ' →
    Fit K cl L Y Z H (setAll is vs σ) ρ' ∧ vs.length = is.length
  | [], _, [], _, σ, ρ, ρ', h, n, g, e => by cases h; cases e; exact ⟨g.lst fun a => by simp, rfl⟩
  | [], _, .s _ :: _, _, _, _, _, _, _, _, e => by cases e
  | [], _, .t _ :: _, _, _, _, _, _, _, _, e => by cases e
  | [], _, .b _ :: _, _, _, _, _, _, _, _, e => by cases e
  | _ :: _, _, [], _, _, _, _, _, _, _, e => by cases e
  | _ :: _, _, .b _ :: _, _, _, _, _, _, _, _, e => by cases e
  | i :: is, _, .s d :: as, l, σ, ρ, ρ', h, n, g, e => by
    cases h with
    | s r t =>
      obtain ⟨ρ1, e1, e2⟩ := obnd (show (put i (.s d) ρ).bind (putAll is as) = some ρ' from e)
      have g1 := Has.put (r := .s d) ⟨g, r⟩ e1
      obtain ⟨a, b⟩ := putAll_ok t n g1 e2
      exact ⟨a, by rw [List.length_cons, List.length_cons, b]⟩
  | i :: is, _, .t d :: as, _, σ, ρ, ρ', h, n, g, e => by
    cases h with
    | @t a _ vs _ l r hn t =>
      obtain ⟨ρ1, e1, e2⟩ := obnd (show (put i (.o d) ρ).bind (putAll is as) = some ρ' from e)
      have na : ¬ (Y a ∨ a ∈ l) := fun z => z.elim (n a (by simp)) hn
      have g1 := Has.put (K := K) (cl := cl) (L := L) (Y := fun b => Y b ∨ b ∈ l) (v := .ref a) (r := .o d) ⟨a, rfl, na, g.lst fun b => by rw [List.mem_cons]; exact ⟨fun z => z.elim (fun z => z.elim .inl fun z => .inr (.inr z)) fun z => .inr (.inl z), fun z => z.elim (fun z => .inl (.inl z)) fun z => z.elim .inr fun z => .inl (.inr z)⟩, r⟩ e1
      obtain ⟨x, y⟩ := putAll_ok t (fun b hb => n b (List.mem_cons_of_mem _ hb)) g1 e2
      exact ⟨x, by rw [List.length_cons, List.length_cons, y]⟩
def sPar (is : List Nat) (fa : En → Option (List Arg × En)) : FS := fun ρ => match fa ρ with
  | some (as, ρ1) => (putAll is as ρ1).map fun ρ2 => (.nx, ρ2)
  | none => none
theorem ss_par {i j : Nat} {ta fa} (ha : SemA K cl ta fa) : SemS K cl (tPar i j ta) (sPar [i, j] fa) := by
  intro L Y Z H σ ρ fl ρ' D' G e q
  unfold sPar at e
  split at e
  · rename_i as ρ1 e1
    obtain ⟨ρ2, e2, e3⟩ := omap e
    cases e3
    refine ha L Y Z H σ ρ as ρ1 _ G e1 fun vs l Z1 H1 x1 n1 g1 a1 => ?_
    obtain ⟨g2, len⟩ := putAll_ok a1 n1 g1 e2
    match vs, len with
    | [v, w], _ => exact ⟨v, w, rfl, q _ Z1 H1 x1 g2⟩
  · cases e
/-! ### calls by keywords -/
theorem ArgR.app_s {σ : L2.St} {Z : Addr → Prop} {H : Hp} {vs as l} (h : ArgR K cl σ Z H vs as l) {zs : List V} {ds : List D} (r : RepAll K cl Z H zs ds) : ArgR K cl σ Z H (vs ++ zs) (as ++ ds.map .s) l := by
  induction h with
  | nil =>
    have : ∀ {zs : List V} {ds : List D}, RepAll K cl Z H zs ds → ArgR K cl σ Z H zs (ds.map .s) [] := by
      intro zs
      induction zs with
      | nil => intro ds r; cases r; exact .nil
      | cons z zs ih => intro ds r; cases r with | cons r t => exact .s r (ih t)
    exact this r
  | s r' _ ih => exact .s r' ih
  | t r' n _ ih => exact .t r' n ih
  | b e _ ih => exact .b e ih
theorem RepAll.pick {Z : Addr → Prop} {H : Hp} {zs : List V} {ds : List D} (r : RepAll K cl Z H zs ds) : ∀ ix : List Nat, RepAll K cl Z H (ix.filterMap fun i => zs[i]?) (ix.filterMap fun i => ds[i]?)
  | [] => .nil
  | i :: ix => by
    rw [List.filterMap_cons, List.filterMap_cons]
    cases e : ds[i]? with
    | none =>
      have : zs[i]? = none := List.getElem?_eq_none (by rw [r.length]; exact List.getElem?_eq_none_iff.mp e)
      rw [this]
      exact r.pick ix
    | some d =>
      obtain ⟨v, e1, e2⟩ := r.get e
      rw [e1]
      exact .cons e2 (r.pick ix)
/-- f(a, .., k = b, ..): p positional ones, then k by name, as ix says -/
def fCallK (n p k : Nat) (ix : List Nat) (F : FF) (fa : En → Option (List Arg × En)) (fk : En → Option (List D × En)) : En → Option (Sl × En) := bnd fa fun as => bnd fk fun ds ρ =>
  if as.length = p ∧ ds.length = k then callF n F [] (as ++ (ix.filterMap fun i => ds[i]?).map .s) ρ else none
theorem ArgR.len {σ : L2.St} {Z : Addr → Prop} {H : Hp} {vs as l} (h : ArgR K cl σ Z H vs as l) : vs.length = as.length := by
  induction h with
  | nil => rfl
  | s _ _ ih => simp [ih]
  | t _ _ _ ih => simp [ih]
  | b _ _ ih => simp [ih]
theorem se_callK {n p k : Nat} {ix : List Nat} {F : FF} {gV : List V → List V → List V} {E : XK} {ta tk : TA} {fa fk} (hg : ∀ vs zs : List V, vs.length = p → zs.length = k → gV vs zs = vs ++ ix.filterMap fun i => zs[i]?) (ha : SemA K cl ta fa) (hk : SemL K cl tk fk) :
    SemE K cl (tCallK (FSp K cl n F) gV E ta tk) (fCallK n p k ix F fa fk) := by
  intro L Y Z H σ ρ r ρ' Q g e q1 q2 hr
  obtain ⟨as, ρ1, e1, e2⟩ := bnd_some e
  obtain ⟨ds, ρ2, e3, e4⟩ := bnd_some e2
  split at e4
  · rename_i c
    refine ha L Y Z H σ ρ as ρ1 _ g e1 fun vs l Z1 H1 x1 n1 g1 a1 => hk L _ Z1 H1 σ ρ1 ds ρ2 _ g1 e3 fun zs Z2 H2 x2 g2 r2 => ?_
    have a2 := (a1.ext x2 fun a hl o e => x2.keep a o (.inr (.inr hl)) e).app_s (r2.pick ix)
    rw [hg vs zs (by rw [a1.len, c.1]) (by rw [r2.length, c.2])]
    have x12 : Ext Y Z H Z2 H2 := x1.trans (x2.less fun _ z => .inl z)
    have fin := call_ok (K := K) (cl := cl) (E := E) (dvs := []) (dds := []) (Q := Q) .nil g2 n1 a2 e4 fun v Z3 H3 x3 h3 => by
      cases r with
      | un => exact h3.elim
      | p d => exact h3.elim
      | s d => exact q1 d rfl v Z3 H3 (x12.trans x3) h3.1 h3.2
      | o d =>
        obtain ⟨a, rfl, na, ga, ra⟩ := h3
        exact q2 d rfl a Z3 H3 (x12.trans x3) na ga ra
    rw [List.append_nil] at fin
    exact fin
  · cases e4
theorem kbP_eq {p k : Nat} {ix : List Nat} : ∀ vs zs : List V, vs.length = p → zs.length = k → kbP p k ix vs zs = vs ++ ix.filterMap fun i => zs[i]? := fun vs zs h1 h2 => by unfold kbP; rw [if_pos ⟨h1, h2⟩]
theorem kbG_eq {p k : Nat} : ∀ vs zs : List V, vs.length = p → zs.length = k → kbG p k vs zs = vs ++ (List.range k).filterMap fun i => zs[i]? := fun vs zs h1 h2 => by
  unfold kbG
  rw [if_pos ⟨h1, h2⟩]
  congr 1
  subst h2
  clear h1
  induction zs with
  | nil => rfl
  | cons z zs ih =>
    rw [List.length_cons, List.range_succ_eq_map, List.filterMap_cons]
    simp only [List.getElem?_cons_zero, List.filterMap_map]
    congr 1
/-- the callee, its arguments bound by name, where no guard stands -/
theorem run_kG {CX : CXT} {k : Nat} {f : Addr} {fd : FuncData} {ps ks : List Str} {sp : Sp} {E : XK} {kws : List Keyword} {tk : TA} {g : List Value → List Value → List Value} {gV : List V → List V → List V} {pos : Pos} {pins : List (Addr × Obj)} {σ : L2.St} {H1 : Hp} {Q : VK} {vs : List V} {us : List Value} {s1 : Shared}
    (gd : X.A.guards = some []) (F : FnG X.prog X.w X.K X.mg X.base CX k f fd ps sp) (hr : Room k X.A) (hb : KBinds X.K fd ps ks g gV) (hx : Passes CX X E) (hkw : PK X kws tk) (inv1 : L2.Inv X pins σ H1 s1) (rv : Vals vs us) (q1 : tk σ H1 fun zs H2 => sp (gV vs zs) H2 Q E) :
    wpAny (model X.prog X.w) X.A (evalAll ((backToKw pos (keywordEach kws X.env)).map (·.2))) (fun ws s₂ => X.K.In s₂.heap ∧ wpAny (model X.prog X.w) X.A (call (.ref f) us (ks.zip ws)) (EP X pins σ Q) X.xe s₂) X.xe s1 := by
  refine thn (hkw.run pos pins s1 σ H1 _ inv1 q1) ?_
  rintro ws s2 ⟨zs, H2, inv2, rz, q2⟩
  refine ⟨inv2.kIn, ?_⟩
  have both := hb.rel rv rz
  have len : (g us ws).length = ps.length := both.length.symm.trans (F.len _ _ _ _ q2)
  refine wpAny_call (codeAny_mono (F.run X.A X.stack s2 H2 ⟨us, ks.zip ws⟩ (g us ws) (gV vs zs) Q E gd hr inv2.env0 (hb.to s2 us ws inv2.kIn len) both q2) ?_)
  intro res s3 post
  cases res with
  | error z => exact hx pins σ H2 s2 z s3 inv2 post
  | ok way =>
    cases way with
    | ret u => exact inv2.after post
    | next => cases post
    | brk => cases post
    | cont => cases post
section
variable {CX : CXT} {k : Nat} {f : Addr} {fd : FuncData} {ps ks : List Str} {sp : Sp} {E : XK} {x : Str} {p pos : Pos} {e : Expr} {es : List Expr} {kws : List Keyword} {t tk : TA} {g : List Value → List Value → List Value} {gV : List V → List V → List V}
theorem pe_callKG (gd : X.A.guards = some []) (F : FnG X.prog X.w X.K X.mg X.base CX k f fd ps sp) (hr : Room k X.A) (hg : Gl X x) (hm : X.mg x = some (.ref f)) (hk : PySem.W.keepIn X.K (.ref f) = true) (hb : KBinds X.K fd ps ks g gV) (hx : Passes CX X E)
    (ha : PA X (e :: es) t) (hkw : PK X kws tk) (hall : (backToKw pos (keywordEach kws X.env)).all (·.1.isSome) = true := by rfl) (hks : (backToKw pos (keywordEach kws X.env)).filterMap (·.1) = ks := by rfl)
    (hdb : (x == ("__debug__" : Str)) = false := by decide) (he : starEach (e :: es) X.env = (false, eval e X.env) :: starEach es X.env := by rfl)
    (hpl : ((backTo pos (starEach (e :: es) X.env)).any (·.1) || (backToKw pos (keywordEach kws X.env)).any (·.1.isNone)) = false := by rfl) :
    PE X (.Call (.Name x p) (e :: es) kws pos) (tCallK sp gV E t tk) := by
  constructor
  intro pins s σ H Q inv read
  refine wpAny_Call_Name_kw (ld_glob inv hg hm ?_ hdb)
  refine PySem.W.callWith_KW (h₀ := X.base) inv.ok.mod.kin hk hall (thn (ha.run pos pins s σ H _ inv read) ?_) hpl he
  rintro us s1 ⟨vs, H1, inv1, rv, q1⟩
  rw [hks]
  exact run_kG gd F hr hb hx hkw inv1 rv q1
theorem pe_callKG0 (gd : X.A.guards = some []) (F : FnG X.prog X.w X.K X.mg X.base CX k f fd ps sp) (hr : Room k X.A) (hg : Gl X x) (hm : X.mg x = some (.ref f)) (hk : PySem.W.keepIn X.K (.ref f) = true) (hb : KBinds X.K fd ps ks g gV) (hx : Passes CX X E)
    (hkw : PK X kws tk) (hall : (backToKw pos (keywordEach kws X.env)).all (·.1.isSome) = true := by rfl) (hks : (backToKw pos (keywordEach kws X.env)).filterMap (·.1) = ks := by rfl)
    (hdb : (x == ("__debug__" : Str)) = false := by decide) (hpl : ((backTo pos (starEach [] X.env)).any (·.1) || (backToKw pos (keywordEach kws X.env)).any (·.1.isNone)) = false := by rfl) :
    PE X (.Call (.Name x p) [] kws pos) (tCallK sp gV E tNil tk) := by
  constructor
  intro pins s σ H Q inv read
  refine wpAny_Call_Name_kw (ld_glob inv hg hm ?_ hdb)
  refine PySem.W.callWith_KW0 (first := []) (h₀ := X.base) inv.ok.mod.kin hk hall ?_ hpl
  rw [hks]
  exact run_kG gd F hr hb hx hkw inv .nil read
theorem pe_callG0 {dvs : List V} {ds : List Value} (gd : X.A.guards = some []) (F : FnG X.prog X.w X.K X.mg X.base CX k f fd ps sp) (hr : Room k X.A) (hg : Gl X x) (hm : X.mg x = some (.ref f)) (hk : PySem.W.keepIn X.K (.ref f) = true) (hb : Binds X.K fd ps ds) (hd : Vals dvs ds) (hx : Passes CX X E)
    (hdb : (x == ("__debug__" : Str)) = false := by decide) : PE X (.Call (.Name x p) [] [] pos) (tCall sp dvs E tNil) := by
  constructor
  intro pins s σ H Q inv read
  refine wpAny_Call_Name_kw (ld_glob inv hg hm ?_ hdb)
  exact PySem.W.callWith_K0 inv.kIn hk (run_fnG (us := []) gd F hr hb hd hx inv .nil read)
end
end
/-! ### a def keeps what its function tells -/
section
variable {P : Program} {w : World} {K : PySem.W.Frag} {mg : Str → Option Value} {base : Heap} {cl : Cl}
theorem okP {x qual : Str} {st : Stmt} {f : Addr} {fd : FuncData} {N ps : List Str} {lv k : Nat} {fb : FS} (F : L2.Fun K x qual st f fd) (S : FnScope N ps (defScope st)) (hk : N.length = ps.length + k)
    (walk : ∀ (cdv : Value) (A : Around) (outer : List Env) (s : Shared) (H : Hp) (E : XK), (A.deeper (envOfC qual (defScope st) s.heap.objs.size f cdv)).guards = some [] → Room lv (A.deeper (envOfC qual (defScope st) s.heap.objs.size f cdv)) →
      ∃ t, PSs (cxOf CX0 P w K mg base N qual (defScope st) f cdv A outer s H E).nox (defBody st) t ∧ SemS K cl t fb) : FnG P w K mg base CX0 (lv + 1) f fd ps (FSp K cl ps.length (fnF k fb)) :=
  F.okG S (fun vs H Q E h => h.1) fun cdv A outer s H vs Q E gd hr h => by
    obtain ⟨t, t1, t2⟩ := walk cdv A outer s H E gd hr
    exact ⟨t, t1, body_ok t2 hk h⟩
/-- nothing is promised -/
def noF : FF := fun _ => none
theorem ok_no {f : Addr} {fd : FuncData} {ps : List Str} {lv : Nat} : FnG P w K mg base CX0 lv f fd ps (FSp K cl ps.length noF) := by
  refine ⟨fun vs H Q E h => h.1, fun A outer s H args us vs Q E _ _ _ _ _ h => ?_⟩
  obtain ⟨_, _, _, _, _, _, _, e, _⟩ := h
  cases e
theorem FnG.lift {CX : CXT} {f : Addr} {fd : FuncData} {ps : List Str} {j k : Nat} {sp : Sp} (F : FnG P w K mg base CX j f fd ps sp) (h : j ≤ k) : FnG P w K mg base CX k f fd ps sp :=
  ⟨F.len, fun A outer s H args us vs Q E gd hr => F.run A outer s H args us vs Q E gd (hr.mono h)⟩
end
end Pu
/-! The pure layer: comprehensions of two fors; stars; pairs walked. -/
namespace Pu
open PySem PySem.Spec PyProof.Rows L2 RZ
section
variable {K : PySem.W.Frag} {cl : Cl} {L : Nat → Addr → Prop} {Y Z : Addr → Prop} {H : Hp} {σ : L2.St} {ρ : En} {vs : List Nat}
theorem lc_loop {g : TG} {p fv tt ft te fe} (hg : SemG K cl g p fv) (ht : SemT K cl tt ft) (he : SemV K cl te fe) (hv : ∀ i ∈ fv, i ∈ vs) {J : It} {ds acc res : List D} {ρf : En} {Dl : Addr} {va : List V} {Qd : Hp → Prop}
    (g0 : Fit K cl L (fun b => Y b ∨ b = Dl) Z H σ ρ) (nY : ¬ Y Dl) (no : ∀ v ∈ vs, noOwn ρ v = true) (hD : H Dl = some (.lst va)) (ra : RepAll K cl Z H va acc) (it : ItR (K := K) (cl := cl) (fun b => Y b) Z H J ds) (e : lcF p ft fe vs ds acc ρ = some (res, ρf))
    (q : ∀ Z' H' va', Ext Y Z H Z' H' → Fit K cl L (fun b => Y b ∨ b = Dl) Z' H' σ ρf → (∀ v ∈ vs, noOwn ρf v = true) → H' Dl = some (.lst va') → RepAll K cl Z' H' va' res → Qd H') :
    ∃ W : Nat → Nat → Hp → Prop, (∃ m, W 0 m H) ∧ ∀ i m H, W i m H → (J.stop i H ∧ Qd H) ∨ (J.go i H ∧ ∃ Nx : Hp → Prop, (∀ H', Nx H' → ∃ m', m' < m ∧ W (i + 1) m' H') ∧ ∀ x H', J.yld i H x H' → g x (L2.wipe σ vs) H' fun σ2 H2 => L2.wipe σ2 vs = L2.wipe σ vs ∧ tt σ2 H2 fun b H3 =>
      if b = true then te σ2 H3 fun y H4 => ∃ acc, H4 Dl = some (.lst acc) ∧ acc.length < sizeLine ∧ Nx (upd H4 Dl (.lst (acc ++ [y]))) else Nx H3) := by
  refine ⟨fun i m H' => m = ds.length - i ∧ i ≤ ds.length ∧ ∃ Z' ρ2 acc va, Ext Y Z H Z' H' ∧ Fit K cl L (fun b => Y b ∨ b = Dl) Z' H' σ ρ2 ∧ (∀ v ∈ vs, noOwn ρ2 v = true) ∧ H' Dl = some (.lst va) ∧ RepAll K cl Z' H' va acc ∧ lcF p ft fe vs (ds.drop i) acc ρ2 = some (res, ρf),
    ⟨_, rfl, Nat.zero_le _, Z, ρ, acc, va, .refl, g0, no, hD, ra, e⟩, ?_⟩
  rintro i m H2 ⟨rfl, hil, Z2, ρ2, acc, va, x2, g2, no2, hD2, ra, e4⟩
  obtain ⟨it1, it2⟩ := it Z2 H2 (x2.less fun _ z => z.elim)
  by_cases hlt : i < ds.length
  · rw [List.drop_eq_getElem_cons hlt] at e4
    obtain ⟨go, yl⟩ := it2 i _ (List.getElem?_eq_getElem hlt)
    refine .inr ⟨go, _, fun H3 n => n, fun x H3 y => ?_⟩
    obtain ⟨k3, r3⟩ := yl x H3 y
    have x3 : Ext (fun b => Y b ∨ b = Dl) Z2 H2 Z2 H3 := .same k3
    have g3 := g2.same k3
    simp only [lcF] at e4
    split at e4
    · cases e4
    · rename_i ρ3 e5
      refine hg L (fun b => Y b ∨ b = Dl) Z2 H3 (L2.wipe σ vs) (wipeE ρ2 vs) x (.s ds[i]) ρ3 _ ⟨g3.wipe no2, r3⟩ e5 fun σ4 Z4 H4 x4 l4 s4 g4 => ?_
      have l4' : σ4.length = σ.length := by rw [l4, wipe_length]
      have s4' : ∀ i, i ∉ vs → σ4[i]? = σ[i]? := fun i hi => by rw [s4 i (fun z => hi (hv i z)), wipe_outV hi]
      refine ⟨wipe_eq l4' s4', ?_⟩
      split at e4
      · rename_i ρ5 e6
        split at e4
        · rename_i y ρ6 e7
          split at e4
          · rename_i hz
            have hz := gd_iff.mp hz
            refine ht L (fun b => Y b ∨ b = Dl) Z4 H4 σ4 ρ3 true ρ5 _ g4 e6 fun Z5 H5 x5 g5 => (if_pos rfl).mpr ?_
            refine he L (fun b => Y b ∨ b = Dl) Z5 H5 σ4 ρ5 y ρ6 _ g5 e7 fun w Z6 H6 x6 g6 r6 => ?_
            have x36 := (x3.trans x4).trans (x5.trans x6)
            have hD6 : H6 Dl = some (.lst va) := x36.keep Dl _ (.inr (.inr rfl)) hD2
            refine ⟨va, hD6, by rw [ra.length]; exact hz, _, ?_, rfl, hlt, Z6, backE ρ2 ρ6 vs, acc ++ [y], va ++ [w], ?_, ?_, noOwn_back no2, upd_same, ?_, e4⟩
            · omega
            · exact (x2.trans (x36.less fun _ z => .inl z)).trans (g6.chg ⟨va, hD6⟩ nY).2
            · exact (Fit.back g2 no2 x36 g6 l4' s4').chg ⟨va, hD6⟩ nY |>.1
            · exact ((ra.ext x36).append (.cons r6 .nil)).ext (g6.chg ⟨va, hD6⟩ nY).2
          · cases e4
        · cases e4
      · rename_i ρ5 e6
        refine ht L (fun b => Y b ∨ b = Dl) Z4 H4 σ4 ρ3 false ρ5 _ g4 e6 fun Z5 H5 x5 g5 => (if_neg (by decide)).mpr ?_
        have x35 := (x3.trans x4).trans x5
        have hD5 : H5 Dl = some (.lst va) := x35.keep Dl _ (.inr (.inr rfl)) hD2
        exact ⟨_, by omega, rfl, hlt, Z5, backE ρ2 ρ5 vs, acc, va, x2.trans (x35.less fun _ z => .inl z), Fit.back g2 no2 x35 g5 l4' s4', noOwn_back no2, hD5, ra.ext x35, e4⟩
      · cases e4
  · have e5 : i = ds.length := by omega
    subst e5
    rw [List.drop_length] at e4
    cases e4
    exact .inl ⟨it1, q Z2 H2 va x2 g2 no2 hD2 ra⟩
/-- [e for g in it if t for g1 in it1 if t1] -/
noncomputable def lcF2 (g : Sl → En → Option En) (ft : En → Option (Bool × En)) (fi1 : En → Option (List D × En)) (g1 : Sl → En → Option En) (ft1 : En → Option (Bool × En)) (fe : En → Option (D × En)) (vs vs1 : List Nat) : List D → List D → En → Option (List D × En)
  | [], acc, ρ => some (acc, ρ)
  | d :: ds, acc, ρ => match g (.s d) (wipeE ρ vs) with
    | none => none
    | some ρ1 => match ft ρ1 with
      | some (true, ρ2) => (match fi1 ρ2 with
        | some (ds1, ρ3) => if vs1.all (noOwn ρ3) = true then (match lcF g1 ft1 fe vs1 ds1 acc ρ3 with
          | some (acc', ρ4) => lcF2 g ft fi1 g1 ft1 fe vs vs1 ds acc' (backE ρ ρ4 vs)
          | none => none) else none
        | none => none)
      | some (false, ρ2) => lcF2 g ft fi1 g1 ft1 fe vs vs1 ds acc (backE ρ ρ2 vs)
      | none => none
noncomputable def fLc2 (fi : En → Option (List D × En)) (g : Sl → En → Option En) (ft : En → Option (Bool × En)) (fi1 : En → Option (List D × En)) (g1 : Sl → En → Option En) (ft1 : En → Option (Bool × En)) (fe : En → Option (D × En)) (vs vs1 : List Nat) : En → Option (Sl × En) := fun ρ => match fi ρ with
  | some (ds, ρ1) => if vs.all (noOwn ρ1) = true then (lcF2 g ft fi1 g1 ft1 fe vs vs1 ds [] ρ1).map fun r => (.o (.list r.1), r.2) else none
  | none => none
theorem se_lc2 {vs1 : List Nat} {wi fi g p fv tt ft wi1 fi1 g1 p1 fv1 tt1 ft1 te fe} (hi : SemI K cl wi fi) (hg : SemG K cl g p fv) (ht : SemT K cl tt ft) (hi1 : SemI K cl wi1 fi1) (hg1 : SemG K cl g1 p1 fv1) (ht1 : SemT K cl tt1 ft1) (he : SemV K cl te fe) (hv : ∀ i ∈ fv, i ∈ vs) (hv1 : ∀ i ∈ fv1, i ∈ vs1) :
    SemE K cl (tLc2 wi g tt wi1 g1 tt1 te vs vs1) (fLc2 fi p ft fi1 p1 ft1 fe vs vs1) := by
  intro L Y Z H σ ρ r ρ' Q G e _ q _
  unfold fLc2 at e
  split at e
  · rename_i ds ρ1 e1
    split at e
    · rename_i hn
      obtain ⟨⟨res, ρf⟩, e2, e3⟩ := omap e
      cases e3
      have no : ∀ v ∈ vs, noOwn ρ1 v = true := fun v h => List.all_eq_true.mp hn v h
      refine hi L Y Z H σ ρ ds ρ1 _ G e1 fun J Z1 H1 x1 g1' it D hD => ?_
      have nY : ¬ Y D := fun y => g1'.yd D y hD
      have k0 : Same H1 (upd H1 D (.lst [])) := fun b o e => by rw [upd_ne (ne_of_none e hD)]; exact e
      refine ⟨fun i m H' => m = ds.length - i ∧ i ≤ ds.length ∧ ∃ Z' ρ2 acc va, Ext Y Z1 H1 Z' H' ∧ Fit K cl L (fun b => Y b ∨ b = D) Z' H' σ ρ2 ∧ (∀ v ∈ vs, noOwn ρ2 v = true) ∧ H' D = some (.lst va) ∧ RepAll K cl Z' H' va acc ∧ lcF2 p ft fi1 p1 ft1 fe vs vs1 (ds.drop i) acc ρ2 = some (res, ρf),
        ⟨_, rfl, Nat.zero_le _, Z1, ρ1, [], [], .same k0, g1'.priv k0 hD (by rw [upd_same]; simp), no, upd_same, .nil, e2⟩, ?_⟩
      rintro i m H2 ⟨rfl, hil, Z2, ρ2, acc, va, x2, g2, no2, hD2, ra, e4⟩
      obtain ⟨it1, it2⟩ := it Z2 H2 (x2.less fun _ z => z.elim)
      by_cases hlt : i < ds.length
      · rw [List.drop_eq_getElem_cons hlt] at e4
        obtain ⟨go, yl⟩ := it2 i _ (List.getElem?_eq_getElem hlt)
        refine .inr ⟨go, _, fun H3 n => n, fun x H3 y => ?_⟩
        obtain ⟨k3, r3⟩ := yl x H3 y
        have x3 : Ext (fun b => Y b ∨ b = D) Z2 H2 Z2 H3 := .same k3
        have g3 := g2.same k3
        simp only [lcF2] at e4
        split at e4
        · cases e4
        · rename_i ρ3 e5
          refine hg L (fun b => Y b ∨ b = D) Z2 H3 (L2.wipe σ vs) (wipeE ρ2 vs) x (.s ds[i]) ρ3 _ ⟨g3.wipe no2, r3⟩ e5 fun σ4 Z4 H4 x4 l4 s4 g4 => ?_
          have l4' : σ4.length = σ.length := by rw [l4, wipe_length]
          have s4' : ∀ i, i ∉ vs → σ4[i]? = σ[i]? := fun i hi => by rw [s4 i (fun z => hi (hv i z)), wipe_outV hi]
          refine ⟨wipe_eq l4' s4', ?_⟩
          split at e4
          · rename_i ρ5 e6
            refine ht L (fun b => Y b ∨ b = D) Z4 H4 σ4 ρ3 true ρ5 _ g4 e6 fun Z5 H5 x5 g5 => (if_pos rfl).mpr ?_
            split at e4
            · rename_i ds1 ρ6 e7
              split at e4
              · rename_i hn1
                split at e4
                · rename_i acc' ρ7 e8
                  refine hi1 L (fun b => Y b ∨ b = D) Z5 H5 σ4 ρ5 ds1 ρ6 _ g5 e7 fun J1 Z6 H6 x6 g6 itt => ?_
                  have x36 := (x3.trans x4).trans (x5.trans x6)
                  have hD6 : H6 D = some (.lst va) := x36.keep D _ (.inr (.inr rfl)) hD2
                  refine lc_loop hg1 ht1 he hv1 g6 nY (fun v h => List.all_eq_true.mp hn1 v h) hD6 (ra.ext x36) itt e8 fun Z7 H7 va7 x7 g7 _ hD7 ra7 => ?_
                  have x37 : Ext Y Z2 H2 Z7 H7 := (x36.less fun _ z => .inl z).trans x7
                  exact ⟨_, by omega, rfl, hlt, Z7, backE ρ2 ρ7 vs, acc', va7, x2.trans x37, Fit.back g2 no2 x37 g7 l4' s4', noOwn_back no2, hD7, ra7, e4⟩
                · cases e4
              · cases e4
            · cases e4
          · rename_i ρ5 e6
            refine ht L (fun b => Y b ∨ b = D) Z4 H4 σ4 ρ3 false ρ5 _ g4 e6 fun Z5 H5 x5 g5 => (if_neg (by decide)).mpr ?_
            have x35 := (x3.trans x4).trans x5
            have hD5 : H5 D = some (.lst va) := x35.keep D _ (.inr (.inr rfl)) hD2
            exact ⟨_, by omega, rfl, hlt, Z5, backE ρ2 ρ5 vs, acc, va, x2.trans (x35.less fun _ z => .inl z), Fit.back g2 no2 x35 g5 l4' s4', noOwn_back no2, hD5, ra.ext x35, e4⟩
          · cases e4
      · have e5 : i = ds.length := by omega
        subst e5
        rw [List.drop_length] at e4
        cases e4
        exact .inl ⟨it1, q _ rfl D Z2 H2 (x1.trans x2) nY g2 ⟨va, hD2, ra⟩⟩
    · cases e
  · cases e
/-! ### stars in displays -/
theorem sl_star {t : TE} {ts : TA} {f fs} (h : SemV K cl t f) (hs : SemL K cl ts fs) : SemL K cl (StX.tStar K t ts) (fStar f fs) := by
  intro L Y Z H σ ρ ds ρ' Q g e q
  obtain ⟨d, ρ1, e1, e2⟩ := bnd_some e
  obtain ⟨ds', ρ2, e3, e4⟩ := bnd_some e2
  obtain ⟨es, e5, e6⟩ := obnd e4
  cases e6
  refine h L Y Z H σ ρ d ρ1 _ g e1 fun v Z1 H1 x1 g1 r1 => ?_
  cases r1 with
  | lst ls ra =>
    cases e5
    refine ⟨_, _, rfl, .inr ls.sq, hs L Y Z1 H1 σ ρ1 ds' _ _ g1 e3 fun vs Z2 H2 x2 g2 r2 => ?_⟩
    exact q _ _ _ (x1.trans x2) g2 ((ra.ext x2).append r2)
  | tup ls ra =>
    cases e5
    refine ⟨_, _, rfl, .inl ls, hs L Y Z1 H1 σ ρ1 ds' _ _ g1 e3 fun vs Z2 H2 x2 g2 r2 => ?_⟩
    exact q _ _ _ (x1.trans x2) g2 ((ra.ext x2).append r2)
  | _ => cases e5
/-! ### pairs walked -/
def pairUp : List D → List D → List D
  | a :: as, b :: bs => .tuple [a, b] :: pairUp as bs
  | _, _ => []
theorem pairUp_get : ∀ {as bs : List D} {i : Nat} {d : D}, (pairUp as bs)[i]? = some d → ∃ a b, as[i]? = some a ∧ bs[i]? = some b ∧ d = .tuple [a, b]
  | [], _, _, _, h => by simp [pairUp] at h
  | _ :: _, [], _, _, h => by simp [pairUp] at h
  | a :: as, b :: bs, 0, _, h => by cases h; exact ⟨a, b, rfl, rfl, rfl⟩
  | a :: as, b :: bs, i + 1, d, h => by
    obtain ⟨x, y, h1, h2, h3⟩ := pairUp_get (as := as) (bs := bs) (i := i) (by simpa [pairUp] using h)
    exact ⟨x, y, h1, h2, h3⟩
theorem pairUp_len : ∀ as bs : List D, (pairUp as bs).length = min as.length bs.length
  | [], bs => by simp [pairUp]
  | _ :: _, [] => by simp [pairUp]
  | a :: as, b :: bs => by simp [pairUp, pairUp_len as bs]
def iZp (fs : En → Option (List D × En)) : En → Option (List D × En) := bnd fs fun ds ρ => match ds with
  | [.list as, .list bs] => some (pairUp as bs, ρ)
  | [.tuple as, .tuple bs] => some (pairUp as bs, ρ)
  | _ => none
theorem si_zip {ts fs} (h : SemL K cl ts fs) : SemI K cl (iZipA K ts) (iZp fs) := by
  intro L Y Z H σ ρ ds ρ' R g e q
  obtain ⟨as, ρ1, e1, e2⟩ := bnd_some e
  refine h L Y Z H σ ρ as _ _ g e1 fun vs Z1 H1 x1 g1 r1 => ?_
  split at e2
  · cases e2
    cases r1 with
    | cons r rs =>
      cases rs with
      | cons r' rs =>
        cases rs
        cases r with
        | lst l1 a1 =>
          cases r' with
          | lst l2 a2 =>
            refine ⟨_, _, _, _, rfl, .inl ⟨l1.sq, l2.sq, q _ _ _ x1 g1 fun Z2 H2 x2 => ?_⟩⟩
            have b1 := a1.ext x2
            have b2 := a2.ext x2
            have s1 := (l1.ext x2).sq
            have s2 := (l2.ext x2).sq
            refine ⟨⟨_, _, s1, s2, by rw [pairUp_len, b1.length, b2.length]; omega⟩, fun i d hd => ?_⟩
            obtain ⟨a, b, h1, h2, rfl⟩ := pairUp_get hd
            obtain ⟨v1, w1, p1⟩ := b1.get h1
            obtain ⟨v2, w2, p2⟩ := b2.get h2
            refine ⟨⟨_, _, v1, v2, s1, s2, w1, w2⟩, fun x H3 y => ?_⟩
            obtain ⟨T, y1, y2, rfl, nT, rfl, z1, z2⟩ := y
            have e1 := z1 _ s1
            have e2 := z2 _ s2
            rw [w1] at e1; rw [w2] at e2
            cases e1; cases e2
            have k := Same.up (o := .tup [v1, v2]) nT
            exact ⟨k, .tup (.of upd_same) (.cons (p1.same k) (.cons (p2.same k) .nil))⟩
  · cases e2
    cases r1 with
    | cons r rs =>
      cases rs with
      | cons r' rs =>
        cases rs
        cases r with
        | tup l1 a1 =>
          cases r' with
          | tup l2 a2 =>
            refine ⟨_, _, _, _, rfl, .inr ⟨l1, l2, q _ _ _ x1 g1 fun Z2 H2 x2 => ?_⟩⟩
            have b1 := a1.ext x2
            have b2 := a2.ext x2
            have s1 := SqT.ext x2 l1
            have s2 := SqT.ext x2 l2
            refine ⟨⟨_, _, s1, s2, by rw [pairUp_len, b1.length, b2.length]; omega⟩, fun i d hd => ?_⟩
            obtain ⟨a, b, h1, h2, rfl⟩ := pairUp_get hd
            obtain ⟨v1, w1, p1⟩ := b1.get h1
            obtain ⟨v2, w2, p2⟩ := b2.get h2
            refine ⟨⟨_, _, v1, v2, s1, s2, w1, w2⟩, fun x H3 y => ?_⟩
            obtain ⟨T, y1, y2, rfl, nT, rfl, z1, z2⟩ := y
            have e1 := z1 _ s1
            have e2 := z2 _ s2
            rw [w1] at e1; rw [w2] at e2
            cases e1; cases e2
            have k := Same.up (o := .tup [v1, v2]) nT
            exact ⟨k, .tup (.of upd_same) (.cons (p1.same k) (.cons (p2.same k) .nil))⟩
  · cases e2
theorem pi_zipU {X : Cx} {e e2 : Expr} {ta : TA} {p pos tpos : Pos} {elts : List Expr} {kk : Nat} (hg : Gl X "zip") (hm : X.mg "zip" = none) (ha : PA X [e, e2] ta) (hK : X.K = K := by rfl)
    (hs : starEach [e, e2] X.env = (false, eval e X.env) :: starEach [e2] X.env := by rfl) (hpl : (backTo pos (starEach [e2] X.env)).any (·.1) = false := by rfl) :
    PI X (.Tuple elts kk tpos) (.Call (.Name "zip" p) [e, e2] [] pos) (iZipA K ta) := by
  subst hK
  exact pi_zipA hg hm ha hs hpl
/-- enumerate(list) -/
def iEnL (fs : En → Option (List D × En)) : En → Option (List D × En) := bnd fs fun ds ρ => match ds with
  | [.list as] => some (pairUp (rngD 0 as.length) as, ρ)
  | _ => none
def iEnT (fs : En → Option (List D × En)) : En → Option (List D × En) := bnd fs fun ds ρ => match ds with
  | [.tuple as] => some (pairUp (rngD 0 as.length) as, ρ)
  | _ => none
theorem rng_at {n i : Nat} {d : D} (h : (rngD 0 n)[i]? = some d) : d = .int (i : Nat) := by
  unfold rngD at h
  rw [List.getElem?_map] at h
  by_cases hi : i < n
  · rw [List.getElem?_range hi] at h
    cases h
    show PyData.int _ = _
    congr 1
    omega
  · rw [List.getElem?_eq_none (by simp; omega)] at h; cases h
theorem rngD_len (lo : Int) (n : Nat) : (rngD lo n).length = n := by simp [rngD]
theorem si_enumL {ts fs} (h : SemL K cl ts fs) : SemI K cl (iEnum K ts) (iEnL fs) := by
  intro L Y Z H σ ρ ds ρ' R g e q
  obtain ⟨as, ρ1, e1, e2⟩ := bnd_some e
  refine h L Y Z H σ ρ as _ _ g e1 fun vs Z1 H1 x1 g1 r1 => ?_
  split at e2
  · cases e2
    cases r1 with
    | cons r rs =>
      cases rs
      cases r with
      | lst l1 a1 =>
        refine ⟨_, _, rfl, l1.sq, q _ _ _ x1 g1 fun Z2 H2 x2 => ?_⟩
        have b1 := a1.ext x2
        have s1 := (l1.ext x2).sq
        refine ⟨⟨_, s1, by rw [pairUp_len, rngD_len, b1.length]; omega⟩, fun i d hd => ?_⟩
        obtain ⟨a, b, h1, h2, rfl⟩ := pairUp_get hd
        obtain ⟨v2, w2, p2⟩ := b1.get h2
        have ea := rng_at h1
        subst ea
        refine ⟨⟨_, v2, s1, w2⟩, fun x H3 y => ?_⟩
        obtain ⟨T, y2, rfl, nT, rfl, z2⟩ := y
        have e2 := z2 _ s1
        rw [w2] at e2
        cases e2
        have k := Same.up (o := .tup [.int (i : Nat), v2]) nT
        exact ⟨k, .tup (.of upd_same) (.cons (.int _) (.cons (p2.same k) .nil))⟩
  · cases e2
theorem si_enumT {ts fs} (h : SemL K cl ts fs) : SemI K cl (iEnumT K ts) (iEnT fs) := by
  intro L Y Z H σ ρ ds ρ' R g e q
  obtain ⟨as, ρ1, e1, e2⟩ := bnd_some e
  refine h L Y Z H σ ρ as _ _ g e1 fun vs Z1 H1 x1 g1 r1 => ?_
  split at e2
  · cases e2
    cases r1 with
    | cons r rs =>
      cases rs
      cases r with
      | tup l1 a1 =>
        refine ⟨_, _, rfl, l1, q _ _ _ x1 g1 fun Z2 H2 x2 => ?_⟩
        have b1 := a1.ext x2
        have s1 := SqT.ext x2 l1
        refine ⟨⟨_, s1, by rw [pairUp_len, rngD_len, b1.length]; omega⟩, fun i d hd => ?_⟩
        obtain ⟨a, b, h1, h2, rfl⟩ := pairUp_get hd
        obtain ⟨v2, w2, p2⟩ := b1.get h2
        have ea := rng_at h1
        subst ea
        refine ⟨⟨_, v2, s1, w2⟩, fun x H3 y => ?_⟩
        obtain ⟨T, y2, rfl, nT, rfl, z2⟩ := y
        have e2 := z2 _ s1
        rw [w2] at e2
        cases e2
        have k := Same.up (o := .tup [.int (i : Nat), v2]) nT
        exact ⟨k, .tup (.of upd_same) (.cons (.int _) (.cons (p2.same k) .nil))⟩
  · cases e2
theorem pi_enumLU {X : Cx} {e : Expr} {ta : TA} {p pos tpos : Pos} {elts : List Expr} {kk : Nat} (hg : Gl X "enumerate") (hm : X.mg "enumerate" = none) (ha : PA X [e] ta) (hK : X.K = K := by rfl) (hs : starEach [e] X.env = [(false, eval e X.env)] := by rfl) :
    PI X (.Tuple elts kk tpos) (.Call (.Name "enumerate" p) [e] [] pos) (iEnum K ta) := by
  subst hK
  exact pi_enum hg hm ha hs
theorem pi_enumTU {X : Cx} {e : Expr} {ta : TA} {p pos tpos : Pos} {elts : List Expr} {kk : Nat} (hg : Gl X "enumerate") (hm : X.mg "enumerate" = none) (ha : PA X [e] ta) (hK : X.K = K := by rfl) (hs : starEach [e] X.env = [(false, eval e X.env)] := by rfl) :
    PI X (.Tuple elts kk tpos) (.Call (.Name "enumerate" p) [e] [] pos) (iEnumT K ta) := by
  subst hK
  exact pi_enumT hg hm ha hs
end
end Pu
/-! The pure layer: the law's end. -/
namespace Pu
open PySem PySem.Spec PyProof.Rows L2
section
variable {P : Program} {w : World} {K : PySem.W.Frag} {mg mb : Str → Option Value} {a : Addr} {s : Shared} {vs : List Value}
/-- the script stands for good -/
abbrev Script (K : PySem.W.Frag) (H : Hp) (a : Addr) (ns : List Int) : Prop := LsR K (fun _ => False) H a (ns.map V.int)
theorem law_callP {CX : CXT} {k : Nat} {fa : Addr} {fd : FuncData} {x : Str} {sp : Sp} {ns : List Int} (frag : K.In s.heap) (names : s.heap.Ns mainGlobals mg) (blt : s.heap.Ns builtinsNs mb) (blts : ∀ x : Str, x ≠ "__name__" → mb x = bootBuiltins x) (lim : s.heap.NoLimit) (gens : s.gens = #[])
    (at_a : s.heap.get? a = some { cls := .type "list", data := .seq vs.toArray }) (all_int : IntsAre vs ns) (short : ns.length ≤ sizeLine) (room : Room k callerA)
    (F : ∀ base : Heap, K.In base → base.Ns mainGlobals mg → FnG P w K mg base CX k fa fd [x] sp) (bind : ∀ (s : Shared) (u : Value), BindsTo s fd ⟨[u], []⟩ [(x, u)])
    (want : ∀ H : Hp, Script K H a ns → sp [.ref a] H (fun v _ => v = .bl true) fun _ _ _ => False) (raise : ∀ H e s', CX [] H s (fun _ _ _ => False) e s' → False) :
    codeAny (model P w) callerA (.call (.ref fa) ⟨[.ref a], []⟩) (fun r s' => r = .ok (.ret (.bool true)) ∧ OldK s.heap s'.heap ∧ s'.os = s.os ∧ AllBare s'.gens) s := by
  have rel := vals_ints all_int
  have run : ∀ H : Hp, Lone a H → (H a ≠ none → K.lookup a = none) → HOk P w H s.heap → Script K H a ns →
      codeAny (model P w) callerA (.call (.ref fa) ⟨[.ref a], []⟩) (fun r s' => r = .ok (.ret (.bool true)) ∧ OldK s.heap s'.heap ∧ s'.os = s.os ∧ AllBare s'.gens) s := by
    intro H lone own ok script
    obtain ⟨g1, g2, env⟩ := ground_of frag names blt blts lim gens at_a lone own ok
    refine codeAny_mono ((F _ g1 g2).run callerA [] s H ⟨[.ref a], []⟩ [.ref a] [.ref a] _ _ rfl room env (bind s (.ref a)) (.cons rfl .nil) (want H script)) ?_
    exact fun r s' post => end_of lone ok (raise H) post
  cases known : K.lookup a with
  | some o =>
    have here := frag a o known
    rw [at_a] at here
    cases here
    exact run (fun _ => none) (fun b u z => nomatch z) (fun z => absurd rfl z) (fun b u z => nomatch z) (.inr (.inr ⟨vs, _, known, by rw [all_int.length]; exact short, rel⟩))
  | none =>
    let O : HO := .frz { cls := .type "list", data := .seq vs.toArray } (.lst (ns.map V.int))
    have here : upd (fun _ => none) a O a = some O := upd_same
    have one : ∀ b u, upd (fun _ => none) a O b = some u → b = a ∧ u = O := by
      intro b u z
      by_cases c : b = a
      · subst c
        rw [here] at z
        exact ⟨rfl, (Option.some.inj z).symm⟩
      · rw [upd_ne c] at z
        cases z
    refine run (upd (fun _ => none) a O) (fun b u z => ⟨(one b u z).1, _, _, (one b u z).2⟩) (fun _ => known) (fun b u z => ?_) (.inr (.inl ⟨_, here⟩))
    obtain ⟨rfl, rfl⟩ := one b u z
    exact ⟨at_a, by rw [List.length_map]; exact short, vs, _, rel, at_a⟩
end
theorem walk_ofP {l : PySem.W.OpenLaw} {n k : Nat} {q : Program} {loose : List Str} {XP : (Str → Option Value) → Heap → Prop} {YP : World → Heap → Prop} {d : DefRec} {K : Params → PySem.W.Frag} {CX : World → CXT} {sp : World → Sp} {x : Str}
    (most : l.most = some n) (short : n ≤ sizeLine) (plain : d.params.defaults = []) (room : Room k callerA) (frag : ∀ (w : World) (h : Heap), YP w h → (K w.params).In h)
    (F : ∀ (w : World) (mg : Str → Option Value) (fa : Addr) (h : Heap), (K w.params).In h → h.Ns mainGlobals mg → mg d.name = some (.ref fa) →
      ∃ fd : FuncData, (∀ (s : Shared) (u : Value), BindsTo s fd ⟨[u], []⟩ [(x, u)]) ∧ ∀ base : Heap, (K w.params).In base → base.Ns mainGlobals mg → FnG l.prog w (K w.params) mg base (CX w) k fa fd [x] (sp w))
    (want : ∀ (w : World) (H : Hp) (a : Addr) (ns : List Int), ns.length ≤ n → Script (K w.params) H a ns → sp w [.ref a] H (fun v _ => v = .bl true) fun _ _ _ => False)
    (raise : ∀ (w : World) (H : Hp) (s : Shared) (e : Value) (s' : Shared), CX w [] H s (fun _ _ _ => False) e s' → False) : PySem.W.WalkO q loose XP YP l.row.toRowW d [] (fun f vs => PySem.call f vs) := by
  refine Att.attach_call most plain ?_
  intro w s₀ s₁ mg mb fa o pm cd doc a vs ns G Y _ _ _ named script all_int len gens
  obtain ⟨fd, bind, fn⟩ := F w mg fa _ (frag w _ Y) G.T.g named
  exact law_callP (frag w _ Y) G.T.g G.T.b G.T.builtins G.T.nolimit gens script all_int (Nat.le_trans len short) room fn bind (fun H sc => want w H a ns len sc) fun H e s' => raise w H s₁ e s'
/-- what the law's def promises, when its function tells True -/
def spLaw (K : PySem.W.Frag) : Sp := fun vs H Q _ => ∃ (a : Addr) (ns : List Int), vs = [.ref a] ∧ Script K H a ns ∧ ns.length ≤ 63 ∧ ∀ H', Q (.bl true) H'
theorem law_ok {P : Program} {w : World} {K : PySem.W.Frag} {mg : Str → Option Value} {base : Heap} {cl : Cl} {lv : Nat} {f : Addr} {fd : FuncData} {x : Str} {F : FF} (ok : FnG P w K mg base CX0 lv f fd [x] (FSp K cl 1 F))
    (hF : ∀ ns : List Int, ns.length ≤ 63 → ∃ os, F [.s (.list (ns.map .int))] = some (.s (.bool true), os)) : FnG P w K mg base CX0 lv f fd [x] (spLaw K) := by
  have key : ∀ vs H Q E, spLaw K vs H Q E → FSp K cl 1 F vs H Q E := by
    rintro vs H Q E ⟨a, ns, rfl, sc, len, q⟩
    obtain ⟨os, e⟩ := hF ns len
    have intsR : ∀ ns : List Int, RepAll K cl (fun _ => False) H (ns.map V.int) (ns.map .int) := by
      intro ns
      induction ns with
      | nil => exact .nil
      | cons n ns ih => exact .cons (.int n) ih
    refine ⟨rfl, fun _ => False, fun _ => False, [.s (.list (ns.map .int))], os, _, ⟨fun _ z => z.elim, fun _ z => z.elim, fun _ z => z.elim, rfl, fun i s h => ?_, fun i j b h _ => ?_, fun i b => ?_⟩, e, fun v Z' H' _ h => ?_⟩
    · cases i with
      | zero => cases h; exact ⟨_, rfl, .lst sc (intsR ns)⟩
      | succ i => cases h
    · obtain ⟨_, d, z⟩ := h
      cases i with
      | zero => rcases z with z | z <;> cases z
      | succ i => rcases z with z | z <;> cases z
    · unfold lentBy
      refine ⟨fun ⟨_, d, z⟩ => ?_, fun ⟨_, d, z⟩ => ?_⟩ <;>
      · cases i with
        | zero => cases z
        | succ i => cases z
    · obtain ⟨_, r⟩ := h
      cases r
      exact q H'
  exact ⟨fun vs H Q E h => ok.len vs H Q E (key _ _ _ _ h), fun A outer s H args us vs Q E gd hr env b rv h => ok.run A outer s H args us vs Q E gd hr env b rv (key _ _ _ _ h)⟩
end Pu
/-! The pure layer: what simp is to know. -/
namespace Pu
open PySem PySem.Spec PyProof.Rows
section
variable {α β : Type} {ρ : En}
@[simp] theorem bnd_ap (f : En → Option (α × En)) (g : α → En → Option (β × En)) : bnd f g ρ = match f ρ with
  | some (a, ρ') => g a ρ'
  | none => none := by first | rfl
@[simp] theorem vf_ap (f) : vf f ρ = match f ρ with
  | some (.s d, ρ') => some (d, ρ')
  | some (.o d, ρ') => some (d, ρ')
  | _ => none := by
  unfold vf
  simp only [bnd_ap]
  cases f ρ with
  | none => rfl
  | some p =>
    obtain ⟨r, ρ'⟩ := p
    cases r <;> rfl
@[simp] theorem ef_ap (f) : ef f ρ = match f ρ with
  | some (d, ρ') => some (.s d, ρ')
  | none => none := by
  simp only [ef, bnd, two, ownD]
  repeat' split
  all_goals first | rfl | (simp_all; done) | skip
@[simp] theorem wf_ap (f) : wf f ρ = match f ρ with
  | some (d, ρ') => some (.v d, ρ')
  | none => none := by
  simp only [wf, bnd, two, ownD]
  repeat' split
  all_goals first | rfl | (simp_all; done) | skip
@[simp] theorem fC_ap (d : D) : fC d ρ = some (d, ρ) := by first | rfl
@[simp] theorem fVar_ap (i : Nat) : fVar i ρ = match ρ[i]? with
  | some (.s d) => some (d, ρ)
  | some (.o d) => some (d, ρ.set i (.s d))
  | _ => none := by first | rfl
@[simp] theorem fMv_ap (i : Nat) : fMv i ρ = match ρ[i]? with
  | some (.s d) => some (.s d, ρ)
  | some (.o d) => some (.o d, ρ.set i .un)
  | _ => none := by first | rfl
@[simp] theorem wNm_ap (i : Nat) : wNm i ρ = match ρ[i]? with
  | some (.s d) => some (.v d, ρ)
  | some (.o _) => some (.b i, ρ)
  | some (.p _) => some (.b i, ρ)
  | _ => none := by first | rfl
@[simp] theorem lookS_v (d : D) : lookS ρ (.v d) = some d := by first | rfl
@[simp] theorem lookS_b (i : Nat) : lookS ρ (.b i) = match ρ[i]? with
  | some (.o (.list ds)) => some (.list ds)
  | some (.p (.list ds)) => some (.list ds)
  | _ => none := by
  simp only [lookS, ownD]
  cases h : ρ[i]? with
  | none => rfl
  | some x => cases x <;> first | rfl | (rename_i d; cases d <;> rfl)
@[simp] theorem fOp_ap (g) (f1 f2) : fOp g f1 f2 ρ = match f1 ρ with
  | some (a, ρ1) => (match f2 ρ1 with
    | some (b, ρ2) => (match lookS ρ2 a, lookS ρ2 b with
      | some x, some y => (match g x y with
        | some d => some (d, ρ2)
        | none => none)
      | _, _ => none)
    | none => none)
  | none => none := by
  unfold fOp two
  simp only [bnd_ap]
  cases f1 ρ with
  | none => rfl
  | some p =>
    obtain ⟨a, ρ1⟩ := p
    simp only
    cases f2 ρ1 with
    | none => rfl
    | some p =>
      obtain ⟨b, ρ2⟩ := p
      simp only
      cases lookS ρ2 a <;> cases lookS ρ2 b <;> first | rfl | (rename_i x y; simp only; cases g x y <;> rfl)
@[simp] theorem fOpE_ap (g) (f1 f2) : fOpE g f1 f2 ρ = match f1 ρ with
  | some (a, ρ1) => (match f2 ρ1 with
    | some (b, ρ2) => (match lookS ρ2 a, lookS ρ2 b with
      | some x, some y => (match g x y with
        | some d => some (d, ρ2)
        | none => none)
      | _, _ => none)
    | none => none)
  | none => none := by
  unfold fOpE two
  simp only [bnd_ap]
  cases f1 ρ with
  | none => rfl
  | some p =>
    obtain ⟨a, ρ1⟩ := p
    simp only
    cases f2 ρ1 with
    | none => rfl
    | some p =>
      obtain ⟨b, ρ2⟩ := p
      simp only
      cases lookS ρ2 a <;> cases lookS ρ2 b <;> first | rfl | (rename_i x y; simp only; cases g x y <;> rfl)
@[simp] theorem fUn_ap (g) (f) : fUn g f ρ = match f ρ with
  | some (a, ρ1) => (match lookS ρ1 a with
    | some x => (match g x with
      | some d => some (d, ρ1)
      | none => none)
    | none => none)
  | none => none := by
  unfold fUn
  simp only [bnd_ap]
  cases f ρ with
  | none => rfl
  | some p =>
    obtain ⟨a, ρ1⟩ := p
    simp only
    cases lookS ρ1 a with
    | none => rfl
    | some x => simp only [Option.bind_some]; cases g x <;> rfl
@[simp] theorem wNil_ap : wNil ρ = some ([], ρ) := by first | rfl
@[simp] theorem wCons_ap (f fs) : wCons f fs ρ = match f ρ with
  | some (l, ρ1) => (match fs ρ1 with
    | some (ls, ρ2) => some (l :: ls, ρ2)
    | none => none)
  | none => none := by
  simp only [wCons, bnd, two, ownD]
  repeat' split
  all_goals first | rfl | (simp_all; done) | skip
@[simp] theorem looks_nil : looks ρ [] = some [] := by first | rfl
@[simp] theorem looks_cons (l ls) : looks ρ (l :: ls) = match lookS ρ l, looks ρ ls with
  | some d, some ds => some (d :: ds)
  | _, _ => none := by first | rfl
@[simp] theorem fCB_ap (g) (fs) : fCB g fs ρ = match fs ρ with
  | some (ls, ρ1) => (match looks ρ1 ls with
    | some ds => (match g ds with
      | some d => some (d, ρ1)
      | none => none)
    | none => none)
  | none => none := by
  unfold fCB
  simp only [bnd_ap]
  cases fs ρ with
  | none => rfl
  | some p =>
    obtain ⟨a, ρ1⟩ := p
    simp only
    cases looks ρ1 a with
    | none => rfl
    | some x => simp only [Option.bind_some]; cases g x <;> rfl
@[simp] theorem fCBE_ap (g) (fs) : fCBE g fs ρ = match fs ρ with
  | some (ls, ρ1) => (match looks ρ1 ls with
    | some ds => (match g ds with
      | some d => some (d, ρ1)
      | none => none)
    | none => none)
  | none => none := by
  unfold fCBE
  simp only [bnd_ap]
  cases fs ρ with
  | none => rfl
  | some p =>
    obtain ⟨a, ρ1⟩ := p
    simp only
    cases looks ρ1 a with
    | none => rfl
    | some x => simp only [Option.bind_some]; cases g x <;> rfl
@[simp] theorem fNil_ap : fNil ρ = some ([], ρ) := by first | rfl
@[simp] theorem fCons_ap (f fs) : fCons f fs ρ = match f ρ with
  | some (d, ρ1) => (match fs ρ1 with
    | some (ds, ρ2) => some (d :: ds, ρ2)
    | none => none)
  | none => none := by
  simp only [fCons, bnd, two, ownD]
  repeat' split
  all_goals first | rfl | (simp_all; done) | skip
@[simp] theorem fTup_ap (fs) : fTup fs ρ = match fs ρ with
  | some (ds, ρ1) => if gd (ds.length ≤ sizeLine) = true then some (.tuple ds, ρ1) else none
  | none => none := by
  unfold fTup bnd
  cases h : fs ρ with
  | none => rfl
  | some p => obtain ⟨a, b⟩ := p; rfl
@[simp] theorem fLst_ap (fs) : fLst fs ρ = match fs ρ with
  | some (ds, ρ1) => if gd (ds.length ≤ sizeLine) = true then some (.o (.list ds), ρ1) else none
  | none => none := by
  unfold fLst bnd
  cases h : fs ρ with
  | none => rfl
  | some p => obtain ⟨a, b⟩ := p; rfl
@[simp] theorem fTru_ap (f) : fTru f ρ = match f ρ with
  | some (a, ρ1) => (match lookS ρ1 a with
    | some x => (match tru x with
      | some d => some (d, ρ1)
      | none => none)
    | none => none)
  | none => none := by
  unfold fTru
  simp only [bnd_ap]
  cases f ρ with
  | none => rfl
  | some p =>
    obtain ⟨a, ρ1⟩ := p
    simp only
    cases lookS ρ1 a with
    | none => rfl
    | some x => simp only [Option.bind_some]; cases tru x <;> rfl
@[simp] theorem fTst_ap (f) : fTst f ρ = match f ρ with
  | some (.bool b, ρ1) => some (b, ρ1)
  | _ => none := by
  unfold fTst
  simp only [bnd_ap]
  cases f ρ with
  | none => rfl
  | some p =>
    obtain ⟨a, ρ1⟩ := p
    cases a <;> rfl
@[simp] theorem fAndS_ap (f1 f2) : fAndS f1 f2 ρ = match f1 ρ with
  | some (a, ρ1) => if a = true then f2 ρ1 else some (false, ρ1)
  | none => none := by
  simp only [fAndS, bnd, two, ownD]
  repeat' split
  all_goals first | rfl | (simp_all; done) | skip
@[simp] theorem fOrS_ap (f1 f2) : fOrS f1 f2 ρ = match f1 ρ with
  | some (a, ρ1) => if a = true then some (true, ρ1) else f2 ρ1
  | none => none := by
  simp only [fOrS, bnd, two, ownD]
  repeat' split
  all_goals first | rfl | (simp_all; done) | skip
@[simp] theorem fNotS_ap (f1) : fNotS f1 ρ = match f1 ρ with
  | some (a, ρ1) => some (!a, ρ1)
  | none => none := by
  simp only [fNotS, bnd, two, ownD]
  repeat' split
  all_goals first | rfl | (simp_all; done) | skip
@[simp] theorem fIf_ap (c) (f1 f2 : En → Option (α × En)) : fIf c f1 f2 ρ = match c ρ with
  | some (b, ρ1) => if b = true then f1 ρ1 else f2 ρ1
  | none => none := by
  simp only [fIf, bnd, two, ownD]
  repeat' split
  all_goals first | rfl | (simp_all; done) | skip
@[simp] theorem fAndV_ap (f1 f2) : fAndV f1 f2 ρ = match f1 ρ with
  | some (d, ρ1) => (match tru d with
    | some true => f2 ρ1
    | some false => some (d, ρ1)
    | none => none)
  | none => none := by
  simp only [fAndV, bnd, two, ownD]
  repeat' split
  all_goals first | rfl | (simp_all; done) | skip
@[simp] theorem fOrV_ap (f1 f2) : fOrV f1 f2 ρ = match f1 ρ with
  | some (d, ρ1) => (match tru d with
    | some true => some (d, ρ1)
    | some false => f2 ρ1
    | none => none)
  | none => none := by
  simp only [fOrV, bnd, two, ownD]
  repeat' split
  all_goals first | rfl | (simp_all; done) | skip
@[simp] theorem fNotV_ap (f1) : fNotV f1 ρ = match f1 ρ with
  | some (d, ρ1) => (match tru d with
    | some k => some (.bool !k, ρ1)
    | none => none)
  | none => none := by
  unfold fNotV
  simp only [bnd_ap]
  cases f1 ρ with
  | none => rfl
  | some p =>
    obtain ⟨a, ρ1⟩ := p
    simp only
    cases tru a <;> rfl
@[simp] theorem fChain_ap (g g' f1 f2 f3) : fChain g g' f1 f2 f3 ρ = match f1 ρ with
  | some (a, ρ1) => (match f2 ρ1 with
    | some (b, ρ2) => (match two ρ2 a b g with
      | some (.bool true) => (match f3 ρ2 with
        | some (c, ρ3) => (match two ρ3 b c g' with
          | some d => some (d, ρ3)
          | none => none)
        | none => none)
      | some (.bool false) => some (.bool false, ρ2)
      | _ => none)
    | none => none)
  | none => none := by
  simp only [fChain, bnd, two, ownD]
  repeat' split
  all_goals first | rfl | (simp_all; done) | skip
@[simp] theorem two_ap {a b : Lv} {g : D → D → Option α} : two ρ a b g = match lookS ρ a, lookS ρ b with
  | some x, some y => g x y
  | _, _ => none := by first | rfl
/-! statements -/
@[simp] theorem sNx_ap : sNx ρ = some (.nx, ρ) := by first | rfl
@[simp] theorem sBk_ap : sBk ρ = some (.bk, ρ) := by first | rfl
@[simp] theorem sCt_ap : sCt ρ = some (.ct, ρ) := by first | rfl
@[simp] theorem sNo_ap : sNo ρ = none := by first | rfl
@[simp] theorem sRetN_ap : sRetN ρ = some (.rt (.s .none), ρ) := by first | rfl
@[simp] theorem sSeq_ap (f g : FS) : sSeq f g ρ = match f ρ with
  | some (.nx, ρ1) => g ρ1
  | some (.bk, ρ1) => some (.bk, ρ1)
  | some (.ct, ρ1) => some (.ct, ρ1)
  | some (.rt r, ρ1) => some (.rt r, ρ1)
  | none => none := by first | rfl
@[simp] theorem sDrop_ap (f) : sDrop f ρ = match f ρ with
  | some (_, ρ1) => some (.nx, ρ1)
  | none => none := by first | rfl
@[simp] theorem sRet_ap (f) : sRet f ρ = match f ρ with
  | some (.s d, ρ1) => some (.rt (.s d), ρ1)
  | some (.o d, ρ1) => some (.rt (.o d), ρ1)
  | _ => none := by first | rfl
@[simp] theorem sIf_ap (c f g) : sIf c f g ρ = match c ρ with
  | some (true, ρ1) => f ρ1
  | some (false, ρ1) => g ρ1
  | none => none := by first | rfl
@[simp] theorem sAsg_ap (f g) : sAsg f g ρ = match f ρ with
  | some (r, ρ1) => (match r.d with
    | some _ => (match g r ρ1 with
      | some ρ2 => some (.nx, ρ2)
      | none => none)
    | none => none)
  | none => none := by
  unfold sAsg
  cases f ρ with
  | none => rfl
  | some p =>
    obtain ⟨a, ρ1⟩ := p
    simp only
    cases a.d with
    | none => rfl
    | some d => simp only; cases g a ρ1 <;> rfl
@[simp] theorem Sl_d_s (d : D) : (Sl.s d).d = some d := by first | rfl
@[simp] theorem Sl_d_o (d : D) : (Sl.o d).d = some d := by first | rfl
@[simp] theorem put_ap (i : Nat) (r : Sl) : put i r ρ = match ρ[i]? with
  | some (.p _) => none
  | _ => some (ρ.set i r) := by first | rfl
@[simp] theorem puNil_ap : puNil [] ρ = some ρ := by first | rfl
@[simp] theorem puCons_ap (f fs) (d : D) (r : List D) : puCons f fs (d :: r) ρ = match f (.s d) ρ with
  | some ρ1 => fs r ρ1
  | none => none := by
  simp only [puCons]
  cases f (.s d) ρ <;> rfl
@[simp] theorem puTup_ap (n : Nat) (f) (ds : List D) : puTup n f (.s (.tuple ds)) ρ = if ds.length = n then f ds ρ else none := by first | rfl
@[simp] theorem fSub_ap (i : Nat) (fi) (r : Sl) : fSub i fi r ρ = match r.d with
  | some d => (match ownD ρ i with
    | some (.list _) => (match fi ρ with
      | some (.int k, ρ1) => (match ownD ρ1 i with
        | some (.list ds) => (match L2.ixN ds.length k with
          | some j => some (chgE ρ1 i (.list (ds.set j d)))
          | none => none)
        | _ => none)
      | _ => none)
    | _ => none)
  | none => none := by
  simp only [fSub, bnd, two, ownD]
  repeat' split
  all_goals first | rfl | (simp_all; done) | skip
@[simp] theorem ownD_ap (i : Nat) : ownD ρ i = match ρ[i]? with
  | some (.o d) => some d
  | some (.p d) => some d
  | _ => none := by first | rfl
@[simp] theorem chgE_ap (i : Nat) (d : D) : chgE ρ i d = match ρ[i]? with
  | some (.o _) => ρ.set i (.o d)
  | some (.p _) => ρ.set i (.p d)
  | _ => ρ := by first | rfl
@[simp] theorem fMu_ap (i : Nat) (g) (fs) : fMu i g fs ρ = match ownD ρ i with
  | some (.list _) => (match fs ρ with
    | some (as, ρ1) => (match ownD ρ1 i with
      | some (.list ds) => (match g ds as with
        | some r => some (r.1, chgE ρ1 i (.list r.2))
        | none => none)
      | _ => none)
    | none => none)
  | _ => none := by
  simp only [fMu, bnd, two, ownD]
  repeat' split
  all_goals first | rfl | (simp_all; done) | skip
@[simp] theorem sFor_ap (fi g b) : sFor fi g b ρ = match fi ρ with
  | some (ds, ρ1) => loopF g b ds ρ1
  | none => none := by first | rfl
@[simp] theorem loopF_nil (g b) : loopF g b [] ρ = some (.nx, ρ) := by first | rfl
@[simp] theorem sPar_ap (is fa) : sPar is fa ρ = match fa ρ with
  | some (as, ρ1) => (match putAll is as ρ1 with
    | some ρ2 => some (.nx, ρ2)
    | none => none)
  | none => none := by
  unfold sPar
  cases fa ρ with
  | none => rfl
  | some p =>
    obtain ⟨a, ρ1⟩ := p
    simp only
    cases putAll is a ρ1 <;> rfl
@[simp] theorem putAll_nil : putAll [] [] ρ = some ρ := by first | rfl
@[simp] theorem putAll_s (i is d as) : putAll (i :: is) (.s d :: as) ρ = match put i (.s d) ρ with
  | some ρ1 => putAll is as ρ1
  | none => none := by
  simp only [putAll]
  cases put i (.s d) ρ <;> rfl
@[simp] theorem putAll_t (i is d as) : putAll (i :: is) (.t d :: as) ρ = match put i (.o d) ρ with
  | some ρ1 => putAll is as ρ1
  | none => none := by
  simp only [putAll]
  cases put i (.o d) ρ <;> rfl
/-! arguments, calls -/
@[simp] theorem aNil_ap : aNil ρ = some ([], ρ) := by first | rfl
@[simp] theorem aS_ap (f fs) : aS f fs ρ = match f ρ with
  | some (d, ρ1) => (match fs ρ1 with
    | some (as, ρ2) => some (.s d :: as, ρ2)
    | none => none)
  | none => none := by
  simp only [aS, bnd, two, ownD]
  repeat' split
  all_goals first | rfl | (simp_all; done) | skip
@[simp] theorem aE_ap (f fs) : aE f fs ρ = match f ρ with
  | some (.s d, ρ1) => (match fs ρ1 with
    | some (as, ρ2) => some (.s d :: as, ρ2)
    | none => none)
  | some (.o d, ρ1) => (match fs ρ1 with
    | some (as, ρ2) => some (.t d :: as, ρ2)
    | none => none)
  | _ => none := by
  unfold aE
  simp only [bnd_ap]
  cases f ρ with
  | none => rfl
  | some p =>
    obtain ⟨r, ρ1⟩ := p
    cases r <;> simp only <;> cases fs ρ1 <;> rfl
@[simp] theorem aB_ap (i : Nat) (fs) : aB i fs ρ = match ρ[i]? with
  | some (.s d) => (match fs ρ with
    | some (as, ρ2) => some (.s d :: as, ρ2)
    | none => none)
  | some (.o _) => (match fs ρ with
    | some (as, ρ2) => some (.b i :: as, ρ2)
    | none => none)
  | some (.p _) => (match fs ρ with
    | some (as, ρ2) => some (.b i :: as, ρ2)
    | none => none)
  | _ => none := by
  simp only [aB, bnd, two, ownD]
  repeat' split
  all_goals first | rfl | (simp_all; done) | skip
@[simp] theorem resolve_nil : resolve ρ [] = some [] := by first | rfl
@[simp] theorem resolve_s (d as) : resolve ρ (.s d :: as) = match resolve ρ as with
  | some xs => some (.s d :: xs)
  | none => none := by
  simp only [resolve]
  cases resolve ρ as <;> rfl
@[simp] theorem resolve_t (d as) : resolve ρ (.t d :: as) = match resolve ρ as with
  | some xs => some (.p d :: xs)
  | none => none := by
  simp only [resolve]
  cases resolve ρ as <;> rfl
@[simp] theorem resolve_b (i as) : resolve ρ (.b i :: as) = match ownD ρ i with
  | some d => (match resolve ρ as with
    | some xs => some (.p d :: xs)
    | none => none)
  | none => none := by
  simp only [resolve, ownD]
  cases resolve ρ as <;> cases ρ[i]? <;> first | rfl | (rename_i x; cases x <;> rfl)
@[simp] theorem slots_nil : slots [] = [] := by first | rfl
@[simp] theorem slots_s (d as) : slots (.s d :: as) = slots as := by first | rfl
@[simp] theorem slots_t (d as) : slots (.t d :: as) = slots as := by first | rfl
@[simp] theorem slots_b (i as) : slots (.b i :: as) = i :: slots as := by first | rfl
@[simp] theorem nodupB_nil : nodupB [] = true := by first | rfl
@[simp] theorem nodupB_cons (i l) : nodupB (i :: l) = (!l.contains i && nodupB l) := by first | rfl
@[simp] theorem putBack_nil (os) : putBack [] os ρ = ρ := by cases os <;> rfl
@[simp] theorem putBack_s (d as o os) : putBack (.s d :: as) (o :: os) ρ = putBack as os ρ := by cases o <;> rfl
@[simp] theorem putBack_t (d as o os) : putBack (.t d :: as) (o :: os) ρ = putBack as os ρ := by cases o <;> rfl
@[simp] theorem putBack_b (i as d os) : putBack (.b i :: as) (.p d :: os) ρ = putBack as os (chgE ρ i d) := by first | rfl
@[simp] theorem callF_ap (n F dds as) : callF n F dds as ρ = if nodupB (slots as) = true ∧ as.length + dds.length = n then (match resolve ρ as with
  | some ins => (match F (ins ++ dds.map .s) with
    | some (.s d, os) => some (.s d, putBack as os ρ)
    | some (.o d, os) => some (.o d, putBack as os ρ)
    | _ => none)
  | none => none) else none := by first | rfl
@[simp] theorem fCall_ap (n F dds fa) : fCall n F dds fa ρ = match fa ρ with
  | some (as, ρ1) => callF n F dds as ρ1
  | none => none := by
  simp only [fCall, bnd, two, ownD]
  repeat' split
  all_goals first | rfl | (simp_all; done) | skip
@[simp] theorem fCallK_ap (n p k ix F fa fk) : fCallK n p k ix F fa fk ρ = match fa ρ with
  | some (as, ρ1) => (match fk ρ1 with
    | some (ds, ρ2) => if as.length = p ∧ ds.length = k then callF n F [] (as ++ (ix.filterMap fun i => ds[i]?).map .s) ρ2 else none
    | none => none)
  | none => none := by
  simp only [fCallK, bnd, two, ownD]
  repeat' split
  all_goals first | rfl | (simp_all; done) | skip
/-! walks, slices -/
@[simp] theorem iVal_ap (f) : iVal f ρ = match f ρ with
  | some (d, ρ1) => (match walkD d with
    | some ds => some (ds, ρ1)
    | none => none)
  | none => none := by
  unfold iVal
  simp only [bnd_ap]
  cases f ρ with
  | none => rfl
  | some p =>
    obtain ⟨a, ρ1⟩ := p
    simp only
    cases walkD a <;> rfl
@[simp] theorem iRn1_ap (fs) : iRn1 fs ρ = match fs ρ with
  | some ([.int j], ρ1) => if in62 j = true then some (rngD 0 j.toNat, ρ1) else none
  | _ => none := by
  unfold iRn1
  simp only [bnd_ap]
  cases fs ρ with
  | none => rfl
  | some p =>
    obtain ⟨a, ρ1⟩ := p
    simp only
    split
    · rfl
    · rename_i h
      split
      · rename_i e; cases e; exact absurd rfl (h _)
      · rfl
@[simp] theorem iRn2_ap (fs) : iRn2 fs ρ = match fs ρ with
  | some ([.int i, .int j], ρ1) => if in62 i = true ∧ in62 j = true then some (rngD i (j - i).toNat, ρ1) else none
  | _ => none := by
  unfold iRn2
  simp only [bnd_ap]
  cases fs ρ with
  | none => rfl
  | some p =>
    obtain ⟨a, ρ1⟩ := p
    simp only
    split
    · rfl
    · rename_i h
      split
      · rename_i e; cases e; exact absurd rfl (h _ _)
      · rfl
@[simp] theorem oNo_ap : oNo ρ = some (none, ρ) := by first | rfl
@[simp] theorem oSo_ap (f) : oSo f ρ = match f ρ with
  | some (.int i, ρ1) => some (some i, ρ1)
  | _ => none := by
  unfold oSo
  simp only [bnd_ap]
  cases f ρ with
  | none => rfl
  | some p =>
    obtain ⟨a, ρ1⟩ := p
    cases a <;> rfl
@[simp] theorem fSl_ap (f fl fh) : fSl f fl fh ρ = match f ρ with
  | some (l, ρ1) => (match fl ρ1 with
    | some (lo, ρ2) => (match fh ρ2 with
      | some (hi, ρ3) => (match lookS ρ3 l with
        | some d => (match sliceD d lo hi with
          | some r => some (r, ρ3)
          | none => none)
        | none => none)
      | none => none)
    | none => none)
  | none => none := by
  unfold fSl
  simp only [bnd_ap]
  cases f ρ with
  | none => rfl
  | some p =>
    obtain ⟨l, ρ1⟩ := p
    simp only
    cases fl ρ1 with
    | none => rfl
    | some p =>
      obtain ⟨lo, ρ2⟩ := p
      simp only
      cases fh ρ2 with
      | none => rfl
      | some p =>
        obtain ⟨hi, ρ3⟩ := p
        simp only
        cases lookS ρ3 l with
        | none => rfl
        | some d => simp only [Option.bind_some]; cases sliceD d lo hi <;> rfl
@[simp] theorem fSortSet_ap (f) : fSortSet f ρ = match f ρ with
  | some (l, ρ1) => (match lookS ρ1 l with
    | some d => (match sortSetD d with
      | some r => some (r, ρ1)
      | none => none)
    | none => none)
  | none => none := by
  unfold fSortSet
  simp only [bnd_ap]
  cases f ρ with
  | none => rfl
  | some p =>
    obtain ⟨l, ρ1⟩ := p
    simp only
    cases lookS ρ1 l with
    | none => rfl
    | some d => simp only [Option.bind_some]; cases sortSetD d <;> rfl
@[simp] theorem fYes_ap : fYes ρ = some (true, ρ) := by first | rfl
@[simp] theorem fLc_ap (fi g ft fe vs) : fLc fi g ft fe vs ρ = match fi ρ with
  | some (ds, ρ1) => if vs.all (noOwn ρ1) = true then (match lcF g ft fe vs ds [] ρ1 with
    | some (r, ρ2) => some (.o (.list r), ρ2)
    | none => none) else none
  | none => none := by
  unfold fLc
  cases fi ρ with
  | none => rfl
  | some p =>
    obtain ⟨a, ρ1⟩ := p
    simp only
    split
    · cases lcF g ft fe vs a [] ρ1 with
      | none => rfl
      | some p => obtain ⟨x, y⟩ := p; rfl
    · rfl
@[simp] theorem fLc2_ap (fi g ft fi1 g1 ft1 fe vs vs1) : fLc2 fi g ft fi1 g1 ft1 fe vs vs1 ρ = match fi ρ with
  | some (ds, ρ1) => if vs.all (noOwn ρ1) = true then (match lcF2 g ft fi1 g1 ft1 fe vs vs1 ds [] ρ1 with
    | some (r, ρ2) => some (.o (.list r), ρ2)
    | none => none) else none
  | none => none := by
  unfold fLc2
  cases fi ρ with
  | none => rfl
  | some p =>
    obtain ⟨a, ρ1⟩ := p
    simp only
    split
    · cases lcF2 g ft fi1 g1 ft1 fe vs vs1 a [] ρ1 with
      | none => rfl
      | some p => obtain ⟨x, y⟩ := p; rfl
    · rfl
/-! data -/
@[simp] theorem noOwn_ap (v : Nat) : noOwn ρ v = match ρ[v]? with
  | some (.o _) => false
  | some (.p _) => false
  | _ => true := by first | rfl
/-! a def's run -/
theorem fnF_rt {k : Nat} {b : FS} {ins os : List Sl} {r : Sl} {ρ' : En} (h : b (ins ++ List.replicate k .un) = some (.rt r, ρ')) (hm : maskP ins.length ρ' = os) : fnF k b ins = some (r, os) := by
  unfold fnF
  rw [h, ← hm]
theorem fnF_nx {k : Nat} {b : FS} {ins os : List Sl} {ρ' : En} (h : b (ins ++ List.replicate k .un) = some (.nx, ρ')) (hm : maskP ins.length ρ' = os) : fnF k b ins = some (.s .none, os) := by
  unfold fnF
  rw [h, ← hm]
theorem range1 : List.range 1 = [0] := rfl
theorem range2 : List.range 2 = [0, 1] := rfl
theorem range3 : List.range 3 = [0, 1, 2] := rfl
theorem range4 : List.range 4 = [0, 1, 2, 3] := rfl
theorem range5 : List.range 5 = [0, 1, 2, 3, 4] := rfl
theorem range6 : List.range 6 = [0, 1, 2, 3, 4, 5] := rfl
@[simp] theorem wipeE_nil : wipeE ρ [] = ρ := by first | rfl
@[simp] theorem wipeE_cons (v vs) : wipeE ρ (v :: vs) = (wipeE ρ vs).set v .un := by first | rfl
@[simp] theorem backE_nil (ρ0) : backE ρ0 ρ [] = ρ := by first | rfl
@[simp] theorem backE_cons (ρ0 v vs) : backE ρ0 ρ (v :: vs) = (backE ρ0 ρ vs).set v (ρ0.getD v .un) := by first | rfl
end
end Pu
/-! The pure layer: loops by invariants, comprehensions by maps; small facts. -/
namespace Pu
open PySem PySem.Spec PyProof.Rows
section
variable {ρ : En} {vs : List Nat} {g : Sl → En → Option En} {ft : En → Option (Bool × En)} {fe : En → Option (D × En)} {b : FS}
/-- one turn of a comprehension: what it adds, the frame behind it -/
def lcOne (g : Sl → En → Option En) (ft : En → Option (Bool × En)) (fe : En → Option (D × En)) (vs : List Nat) (d : D) (ρ : En) : Option (Option D × En) := match g (.s d) (wipeE ρ vs) with
  | none => none
  | some ρ1 => match ft ρ1 with
    | some (true, ρ2) => (match fe ρ2 with
      | some (y, ρ3) => some (some y, backE ρ ρ3 vs)
      | none => none)
    | some (false, ρ2) => some (none, backE ρ ρ2 vs)
    | none => none
theorem lcF_add {d y : D} {ds acc : List D} {ρ' : En} (h : lcOne g ft fe vs d ρ = some (some y, ρ')) (hz : acc.length < sizeLine) : lcF g ft fe vs (d :: ds) acc ρ = lcF g ft fe vs ds (acc ++ [y]) ρ' := by
  unfold lcOne at h
  rw [lcF]
  split at h
  · cases h
  · split at h
    · split at h
      · cases h
        skip
        have hg := gd_of hz
        clear hz
        simp only [*, if_true]
      · cases h
    · cases h
    · cases h
theorem lcF_skip {d : D} {ds acc : List D} {ρ' : En} (h : lcOne g ft fe vs d ρ = some (none, ρ')) : lcF g ft fe vs (d :: ds) acc ρ = lcF g ft fe vs ds acc ρ' := by
  unfold lcOne at h
  rw [lcF]
  split at h
  · cases h
  · split at h
    · split at h <;> cases h
    · cases h
      skip
      simp only [*]
    · cases h
/-- each turn adds something of which P holds and keeps I -/
theorem lcF_inv {I : En → Prop} {P : D → Prop} : ∀ {ds acc : List D} {ρ : En}, (∀ d ∈ ds, ∀ ρ, I ρ → ∃ y ρ', lcOne g ft fe vs d ρ = some (some y, ρ') ∧ I ρ' ∧ P y) → acc.length + ds.length ≤ sizeLine → I ρ →
    ∃ ys ρ', lcF g ft fe vs ds acc ρ = some (acc ++ ys, ρ') ∧ I ρ' ∧ ys.length = ds.length ∧ ∀ y ∈ ys, P y
  | [], acc, ρ, _, _, h0 => ⟨[], ρ, by rw [lcF, List.append_nil], h0, rfl, fun y h => by cases h⟩
  | d :: ds, acc, ρ, h, hz, h0 => by
    rw [List.length_cons] at hz
    obtain ⟨y, ρ1, e1, i1, p1⟩ := h d (by simp) ρ h0
    obtain ⟨ys, ρ2, e2, i2, l2, p2⟩ := lcF_inv (ds := ds) (acc := acc ++ [y]) (fun d hd => h d (List.mem_cons_of_mem _ hd)) (by rw [List.length_append]; simp; omega) i1
    refine ⟨y :: ys, ρ2, ?_, i2, by rw [List.length_cons, List.length_cons, l2], fun z hz => ?_⟩
    · rw [lcF_add e1 (by omega), e2, List.append_assoc]; rfl
    · rcases List.mem_cons.mp hz with rfl | hz
      · exact p1
      · exact p2 z hz
/-- each turn adds φ d, if that is something, and leaves the frame as it is -/
theorem lcF_fm {φ : D → Option D} : ∀ {ds acc : List D}, (∀ d ∈ ds, lcOne g ft fe vs d ρ = some (φ d, ρ)) → acc.length + ds.length ≤ sizeLine → lcF g ft fe vs ds acc ρ = some (acc ++ ds.filterMap φ, ρ)
  | [], acc, _, _ => by rw [lcF, List.filterMap_nil, List.append_nil]
  | d :: ds, acc, h, hz => by
    rw [List.length_cons] at hz
    have h1 := h d (by simp)
    cases e : φ d with
    | none =>
      rw [e] at h1
      rw [lcF_skip h1, lcF_fm (fun d hd => h d (List.mem_cons_of_mem _ hd)) (by omega), List.filterMap_cons, e]
    | some y =>
      rw [e] at h1
      rw [lcF_add h1 (by omega), lcF_fm (fun d hd => h d (List.mem_cons_of_mem _ hd)) (by rw [List.length_append]; simp; omega), List.filterMap_cons, e, List.append_assoc]
      rfl
theorem lcF_map {φ : D → D} {ds acc : List D} (h : ∀ d ∈ ds, lcOne g ft fe vs d ρ = some (some (φ d), ρ)) (hz : acc.length + ds.length ≤ sizeLine) : lcF g ft fe vs ds acc ρ = some (acc ++ ds.map φ, ρ) := by
  rw [lcF_fm (φ := fun d => some (φ d)) h hz]
  congr 3
  induction ds with
  | nil => rfl
  | cons d ds ih => simp [List.filterMap_cons]
/-- one turn of a for -/
def turnF (g : Sl → En → Option En) (b : FS) (d : D) (ρ : En) : Option (Fl × En) := match g (.s d) ρ with
  | none => none
  | some ρ1 => b ρ1
theorem loopF_nx {d : D} {ds : List D} {ρ' : En} (h : turnF g b d ρ = some (.nx, ρ') ∨ turnF g b d ρ = some (.ct, ρ')) : loopF g b (d :: ds) ρ = loopF g b ds ρ' := by
  unfold turnF at h
  rw [loopF]
  split at h
  · rcases h with h | h <;> cases h
  · rename_i e
    (try simp only [e])
    rcases h with h | h <;> rw [h]
theorem loopF_rt {d : D} {ds : List D} {ρ' : En} {r : Sl} (h : turnF g b d ρ = some (.rt r, ρ')) : loopF g b (d :: ds) ρ = some (.rt r, ρ') := by
  unfold turnF at h
  rw [loopF]
  split at h
  · cases h
  · rename_i e
    simp only [e, h]
theorem loopF_inv {I : Nat → En → Prop} : ∀ {ds : List D} {ρ : En} (k : Nat), (∀ i d ρ, ds[i]? = some d → I (k + i) ρ → ∃ ρ', turnF g b d ρ = some (.nx, ρ') ∧ I (k + i + 1) ρ') → I k ρ → ∃ ρ', loopF g b ds ρ = some (.nx, ρ') ∧ I (k + ds.length) ρ'
  | [], ρ, k, _, h0 => ⟨ρ, rfl, h0⟩
  | d :: ds, ρ, k, h, h0 => by
    obtain ⟨ρ1, e1, i1⟩ := h 0 d ρ rfl h0
    obtain ⟨ρ2, e2, i2⟩ := loopF_inv (ds := ds) (ρ := ρ1) (k + 1) (fun i d ρ hd hi => by
      have := h (i + 1) d ρ (by simpa using hd) (by rw [show k + (i + 1) = k + 1 + i by omega]; exact hi)
      rw [show k + (i + 1) + 1 = k + 1 + i + 1 by omega] at this
      exact this) i1
    refine ⟨ρ2, by rw [loopF_nx (.inl e1), e2], ?_⟩
    rw [List.length_cons, show k + (ds.length + 1) = k + 1 + ds.length by omega]
    exact i2
end
/-! ### small facts -/
theorem bits_l {i j : Int} (h1 : -(2 ^ 64) < i) (h2 : i < 2 ^ 64) : bitsOk i j = true := by
  unfold bitsOk small64; rw [gd_of ⟨h1, h2⟩]; rfl
theorem bits_r {i j : Int} (h1 : -(2 ^ 64) < j) (h2 : j < 2 ^ 64) : bitsOk i j = true := by
  unfold bitsOk small64; rw [gd_of (p := -(2 ^ 64) < j ∧ j < 2 ^ 64) ⟨h1, h2⟩]; simp
@[simp] theorem shaped_none : SeqAt.shaped .none = true := rfl
@[simp] theorem shaped_bool (b : Bool) : SeqAt.shaped (.bool b) = true := rfl
@[simp] theorem shaped_int (i : Int) : SeqAt.shaped (.int i) = true := rfl
@[simp] theorem eqv_str (x y : Str) : PyData.eqv (.str x) (.str y) = (x == y) := by simp only [PyData.eqv]
@[simp] theorem eqv_int (x y : Int) : PyData.eqv (.int x) (.int y) = (x == y) := by simp only [PyData.eqv]
@[simp] theorem eqv_bool (x y : Bool) : PyData.eqv (.bool x) (.bool y) = (x == y) := by simp only [PyData.eqv]
theorem atI_get {α : Type} {xs : List α} {k : Int} (h0 : 0 ≤ k) (h1 : k < xs.length) : ∃ x, L2.atI xs k = some x ∧ xs[k.toNat]? = some x := by
  have hk : k.toNat < xs.length := by omega
  refine ⟨xs[k.toNat], ?_, List.getElem?_eq_getElem hk⟩
  have := L2.atI_nat (List.getElem?_eq_getElem hk)
  rwa [Int.toNat_of_nonneg h0] at this
theorem line_of {n : Nat} (h : n ≤ 16777216) : n ≤ sizeLine := by rw [sizeLine_eq]; exact h
end Pu
/-! The pure layer: comprehensions over lists of records. -/
namespace Pu
open PySem PySem.Spec PyProof.Rows
section
variable {α : Type} {ρ : En} {vs vs1 : List Nat} {g g1 : Sl → En → Option En} {ft ft1 : En → Option (Bool × En)} {fe : En → Option (D × En)} {fi1 : En → Option (List D × En)}
theorem lcF_maps {dd φ : α → D} : ∀ {ps : List α} {acc : List D}, (∀ p ∈ ps, lcOne g ft fe vs (dd p) ρ = some (some (φ p), ρ)) → acc.length + ps.length ≤ sizeLine → lcF g ft fe vs (ps.map dd) acc ρ = some (acc ++ ps.map φ, ρ)
  | [], acc, _, _ => by rw [List.map_nil, lcF, List.map_nil, List.append_nil]
  | p :: ps, acc, h, hz => by
    rw [List.length_cons] at hz
    rw [List.map_cons, lcF_add (h p (by simp)) (by omega), lcF_maps (fun d hd => h d (List.mem_cons_of_mem _ hd)) (by rw [List.length_append]; simp; omega), List.map_cons, List.append_assoc]
    rfl
/-- what the inner walk of a comprehension goes over, and the frame in it -/
def lc2One (g : Sl → En → Option En) (ft : En → Option (Bool × En)) (fi1 : En → Option (List D × En)) (vs : List Nat) (d : D) (ρ : En) : Option (List D × En) := match g (.s d) (wipeE ρ vs) with
  | none => none
  | some ρ1 => match ft ρ1 with
    | some (true, ρ2) => fi1 ρ2
    | _ => none
theorem lcF2_one {d : D} {ds acc acc' xs : List D} {ρ3 ρ4 : En} (h : lc2One g ft fi1 vs d ρ = some (xs, ρ3)) (hn : vs1.all (noOwn ρ3) = true) (h1 : lcF g1 ft1 fe vs1 xs acc ρ3 = some (acc', ρ4)) :
    lcF2 g ft fi1 g1 ft1 fe vs vs1 (d :: ds) acc ρ = lcF2 g ft fi1 g1 ft1 fe vs vs1 ds acc' (backE ρ ρ4 vs) := by
  unfold lc2One at h
  rw [lcF2]
  split at h
  · cases h
  · split at h
    · rename_i e1 _ _ e2
      simp only [e1, e2, h, hn, if_true, h1]
    · cases h
theorem lcF2_flat {dd : α → D} {φ : α → List D} {ρA : α → En} : ∀ {ps : List α} {acc : List D}, (∀ p ∈ ps, lc2One g ft fi1 vs (dd p) ρ = some (φ p, ρA p) ∧ vs1.all (noOwn (ρA p)) = true ∧ backE ρ (ρA p) vs = ρ ∧ ∀ y ∈ φ p, lcOne g1 ft1 fe vs1 y (ρA p) = some (some y, ρA p)) →
    acc.length + (ps.flatMap φ).length ≤ sizeLine → lcF2 g ft fi1 g1 ft1 fe vs vs1 (ps.map dd) acc ρ = some (acc ++ ps.flatMap φ, ρ)
  | [], acc, _, _ => by rw [List.map_nil, lcF2, List.flatMap_nil, List.append_nil]
  | p :: ps, acc, h, hz => by
    obtain ⟨h1, h2, h3, h4⟩ := h p (by simp)
    rw [List.flatMap_cons, List.length_append] at hz
    have e := lcF_map (g := g1) (ft := ft1) (fe := fe) (vs := vs1) (φ := fun y => y) (ds := φ p) (acc := acc) (ρ := ρA p) h4 (by omega)
    rw [show (φ p).map (fun y => y) = φ p from List.map_id' _] at e
    rw [List.map_cons, lcF2_one h1 h2 e, h3, lcF2_flat (fun d hd => h d (List.mem_cons_of_mem _ hd)) (by rw [List.length_append]; omega), List.flatMap_cons, List.append_assoc]
end
theorem bools_const {α : Type} (b : Bool) (ps : List α) : boolsOf (ps.map fun _ => (.bool b : D)) = some (ps.map fun _ => b) := by
  have := boolsOf_map (ps.map fun _ => b)
  rwa [List.map_map] at this
theorem ints_fn {α : Type} (f : α → Int) (ps : List α) : intsOf (ps.map fun p => (.int (f p) : D)) = some (ps.map f) := by
  have := intsOf_map (ps.map f)
  rwa [List.map_map] at this
theorem all_true {α : Type} (ps : List α) : (ps.map fun _ => true).all id = true := by simp
theorem any_false {α : Type} (ps : List α) : (ps.map fun _ => false).any id = false := by simp
end Pu
/-! The pure layer: ord, startswith, dict displays and what stands in them. -/
namespace Pu
open PySem PySem.Spec PyProof.Rows L2
section
variable {K : PySem.W.Frag} {cl : Cl} {X : Cx}
/-! ### ord -/
noncomputable def ordC : List D → Option D
  | [.str x] => if gd (x.length = 1) = true then some (.int (x.cps.getD 0 0 : Nat)) else none
  | _ => none
theorem u_ordC : CallR X (.builtin "ord") (rGn K cl ordC) := by
  intro pins s σ H xs us Q I r h
  obtain ⟨Z, ds, d, hx, e, q⟩ := h
  unfold ordC at e
  split at e
  · split at e
    · rename_i c
      cases e
      obtain ⟨x, rfl, hq⟩ := hx.one
      cases hq
      exact call_ord pins s σ H _ us Q I r ⟨_, rfl, gd_iff.mp c, q _ _ (fun _ _ e => e) (.int _)⟩
    · cases e
  · cases e
/-! ### x.startswith(y) -/
def rSw : V → List V → Hp → VK → Prop := fun x xs H Q => ∃ a b, x = .str a ∧ xs = [.str b] ∧ Q (.bl (Txt.startswith a b)) H
theorem se_starts {t1 t2 f1 f2} (h1 : SemW K cl t1 f1) (h2 : SemW K cl t2 f2) : SemV K cl (tM1 rSw t1 t2) (fOp (strB fun a b => .bool (Txt.startswith a b)) f1 f2) :=
  se_m1 (fun Z a b H Q q => ⟨a, b, rfl, rfl, q _ (.bl _)⟩) h1 h2
/-! ### d[k] -/
def keyOf : D → Option Key
  | .int i => some (.inl i)
  | .str x => some (.inr x)
  | _ => none
theorem key_rep {Z : Addr → Prop} {H : Hp} {v : V} {d : D} {k : Key} (h : Rep K cl Z H v d) (e : keyOf d = some k) : v = kV k := by
  cases h <;> simp only [keyOf] at e <;> cases e <;> rfl
theorem keyOf_D (k : Key) : keyOf (keyD k) = some k := by cases k <;> rfl
def lookK : List (D × D) → Key → Option D
  | [], _ => none
  | (d, v) :: r, k => match keyOf d with
    | none => none
    | some j => if j = k then some v else lookK r k
theorem look_rep {Z : Addr → Prop} {H : Hp} {k : Key} {d : D} : ∀ {vs : List (Key × V)} {ds : List D}, RepAll K cl Z H (vs.map (·.2)) ds → lookK ((vs.map fun p => keyD p.1).zip ds) k = some d → ∃ v, valV vs k = some v ∧ Rep K cl Z H v d
  | [], ds, h, e => by cases h; cases e
  | p :: vs, ds, h, e => by
    cases h with
    | cons h t =>
      simp only [List.map_cons, List.zip_cons_cons, lookK, keyOf_D] at e
      split at e
      · rename_i hk
        cases e
        exact ⟨p.2, valV_pos hk, h⟩
      · rename_i hk
        obtain ⟨v, e1, e2⟩ := look_rep t e
        exact ⟨v, by rw [valV_neg hk]; exact e1, e2⟩
def ixK : D → D → Option D
  | .dict kvs, k => (keyOf k).bind (lookK kvs)
  | _, _ => none
def rDG : R2 := fun x y H Q => ∃ a v, x = .ref a ∧ DGet H a y (some v) ∧ Q v H
theorem rsDG : RS2 K cl rDG ixK := by
  intro Z H x y dx dy d Q hx hy e q
  unfold ixK at e
  split at e
  · rename_i kvs
    obtain ⟨k, e1, e2⟩ := obnd e
    have hy' : Rep K cl Z H y dy := by
      cases dy <;> first | exact hy | cases e1
    have ek := key_rep hy' e1
    subst ek
    have hx : Rep K cl Z H x (.dict kvs) := hx
    generalize hD : PyData.dict kvs = dd at hx
    cases hx with
    | @dct a vs ds z h r =>
      cases hD
      obtain ⟨v, e3, e4⟩ := look_rep r e2
      refine ⟨_, v, rfl, ?_, q v H (fun _ _ e => e) e4⟩
      rw [← e3]
      exact .k h
    | ins z h r =>
      exfalso
      unfold insD at hD
      cases hD
      simp [lookK, keyOf] at e2
    | _ => cases hD
  · cases e
/-! ### {k: v, ..} -/
def SemP (K : PySem.W.Frag) (cl : Cl) (trs : List (TE × TE)) (f : En → Option (List (Key × D) × En)) : Prop := ∀ (L : Nat → Addr → Prop) (Y Z : Addr → Prop) (H : Hp) (σ : L2.St) (ρ : En) (kds : List (Key × D)) (ρ' : En) (Q : List (V × V) → Hp → Prop), Fit K cl L Y Z H σ ρ → f ρ = some (kds, ρ') →
  (∀ (vs : List V) Z' H', Ext Y Z H Z' H' → Fit K cl L Y Z' H' σ ρ' → RepAll K cl Z' H' vs (kds.map (·.2)) → Q ((kds.map fun p => kV p.1).zip vs) H') → tPairs trs σ H Q
def pNil : En → Option (List (Key × D) × En) := fun ρ => some ([], ρ)
def pCons (fk fv : En → Option (D × En)) (fr : En → Option (List (Key × D) × En)) : En → Option (List (Key × D) × En) := bnd fk fun k => bnd fv fun v => bnd fr fun r ρ => (keyOf k).map fun j => ((j, v) :: r, ρ)
theorem sp_nil : SemP K cl [] pNil := by
  intro L Y Z H σ ρ kds ρ' Q G e q
  cases e
  exact q [] Z H .refl G .nil
theorem sp_cons {tk tv trs fk fv fr} (hk : SemV K cl tk fk) (hv : SemV K cl tv fv) (hr : SemP K cl trs fr) : SemP K cl ((tk, tv) :: trs) (pCons fk fv fr) := by
  intro L Y Z H σ ρ kds ρ' Q G e q
  obtain ⟨k, ρ1, e1, e2⟩ := bnd_some e
  obtain ⟨v, ρ2, e3, e4⟩ := bnd_some e2
  obtain ⟨r, ρ3, e5, e6⟩ := bnd_some e4
  obtain ⟨j, e7, e8⟩ := omap e6
  cases e8
  refine hk L Y Z H σ ρ k _ _ G e1 fun x Z1 H1 x1 g1 r1 => hv L Y Z1 H1 σ ρ1 v _ _ g1 e3 fun y Z2 H2 x2 g2 r2 => hr L Y Z2 H2 σ ρ2 r _ _ g2 e5 fun vs Z3 H3 x3 g3 r3 => ?_
  have := key_rep r1 e7
  subst this
  exact q (y :: vs) Z3 H3 (x1.trans (x2.trans x3)) g3 (.cons (r2.ext x3) r3)
/-- the keys differ -/
def apart : List (Key × D) → Bool
  | [] => true
  | p :: r => !(r.any fun q => decide (q.1 = p.1)) && apart r
noncomputable def fDisp (fp : En → Option (List (Key × D) × En)) : En → Option (Sl × En) := bnd fp fun kds ρ => if apart kds = true ∧ kds.length ≤ 15 then some (.o (.dict (kds.map fun p => (keyD p.1, p.2))), ρ) else none
theorem merge_apart : ∀ (kds : List (Key × D)) (vs : List V) (acc : List (Key × V)), apart kds = true → vs.length = kds.length → (∀ p ∈ acc, ∀ q ∈ kds, p.1 ≠ q.1) →
    mergeK acc ((kds.map (·.1)).zip vs) = acc ++ (kds.map (·.1)).zip vs
  | [], vs, acc, _, _, _ => by simp [mergeK]
  | p :: kds, [], acc, _, hl, _ => by simp at hl
  | p :: kds, v :: vs, acc, ha, hl, hd => by
    simp only [apart, Bool.and_eq_true, Bool.not_eq_true', List.any_eq_false, decide_eq_true_eq] at ha
    have hn : (acc.any fun kv => decide (kv.1 = p.1)) = false := by
      rw [List.any_eq_false]
      intro x hx
      simp only [decide_eq_true_eq]
      exact hd x hx p (by simp)
    have e : putK acc p.1 v = acc ++ [(p.1, v)] := by
      unfold putK
      rw [hn]
      rfl
    simp only [List.map_cons, List.zip_cons_cons]
    have step : mergeK acc ((p.1, v) :: (kds.map (·.1)).zip vs) = mergeK (putK acc p.1 v) ((kds.map (·.1)).zip vs) := rfl
    rw [step, e, merge_apart kds vs (acc ++ [(p.1, v)]) ha.2 (by simpa using hl) (fun x hx q hq => by
      rcases List.mem_append.mp hx with hx | hx
      · exact hd x hx q (List.mem_cons_of_mem _ hq)
      · rw [List.mem_singleton.mp hx]
        exact fun z => ha.1 q hq z.symm), List.append_assoc]
    rfl
theorem Fit.chgK {L : Nat → Addr → Prop} {Y Z : Addr → Prop} {H : Hp} {σ : L2.St} {ρ : En} {D : Addr} {o : HO} (g : Fit K cl L (fun b => Y b ∨ b = D) Z H σ ρ) (nt : ∃ xs, H D = some (.dK xs)) (ny : ¬ Y D) : Fit K cl L (fun b => Y b ∨ b = D) Z (upd H D o) σ ρ ∧ Ext Y Z H Z (upd H D o) := by
  obtain ⟨xs, hx⟩ := nt
  have zD : ¬ Z D := g.yz D (.inr rfl)
  have k : ∀ b, b ≠ D → upd H D o b = H b := fun b n => upd_ne n
  have there : ∀ b, H b ≠ none → upd H D o b ≠ none := fun b e => by
    by_cases q : b = D
    · rw [q, upd_same]; simp
    · rw [k b q]; exact e
  have x : Ext Y Z H Z (upd H D o) := by
    refine ⟨fun _ z => z, fun a u h e => ?_, fun a ys e => ?_, fun a u w e => ?_, there⟩
    · rw [k a (fun z => by rw [z] at h; exact h.elim zD ny)]; exact e
    · rw [k a (fun z => by rw [z, hx] at e; cases e)]; exact e
    · rw [k a (fun z => by rw [z, hx] at e; cases e)]; exact e
  refine ⟨⟨fun a z => there a (g.zd a z), fun a z => there a (g.yd a z), g.yz, g.len, fun i y q => ?_, g.ap, g.ln⟩, x⟩
  refine g.slot x (fun a h => ?_) q
  obtain ⟨h1, h2, h3⟩ := g.own h
  exact ⟨fun u e => by rw [k a (fun z => h3 (.inr z))]; exact e, h2, h3⟩
theorem zip_k : ∀ (kds : List (Key × D)) (vs : List V), (kds.map fun p => kV p.1).zip vs = ((kds.map (·.1)).zip vs).map fun kv => (kV kv.1, kv.2)
  | [], vs => by simp
  | p :: kds, [] => by simp
  | p :: kds, v :: vs => by simp only [List.map_cons, List.zip_cons_cons, zip_k kds vs]
theorem zip_d : ∀ (kds : List (Key × D)) (vs : List V), vs.length = kds.length → (kds.map fun p => (keyD p.1, p.2)) = ((((kds.map (·.1)).zip vs)).map fun p => keyD p.1).zip (kds.map (·.2))
  | [], vs, _ => by simp
  | p :: kds, [], h => by simp at h
  | p :: kds, v :: vs, h => by simp only [List.map_cons, List.zip_cons_cons]; rw [← zip_d kds vs (by simpa using h)]
theorem se_disp {trs fp} (h : SemP K cl trs fp) : SemE K cl (tDisp trs) (fDisp fp) := by
  intro L Y Z H σ ρ s ρ' Q G e _ q _
  obtain ⟨kds, ρ1, e1, e4⟩ := bnd_some e
  split at e4
  · rename_i hc
    cases e4
    intro p np
    have nY : ¬ Y p := fun y => G.yd p y np
    have k0 : Same H (upd H p (.dK [])) := fun b o e => by rw [upd_ne (ne_of_none e np)]; exact e
    have g0 := G.priv k0 np (by rw [upd_same]; simp)
    refine h L (fun b => Y b ∨ b = p) Z _ σ ρ kds _ _ g0 e1 fun vs Z2 H2 x2 g2 r2 => ?_
    have hp : H2 p = some (.dK []) := x2.keep p _ (.inr (.inr rfl)) upd_same
    have hl : vs.length = kds.length := by rw [r2.length, List.length_map]
    refine ⟨hp, (kds.map (·.1)).zip vs, ?_, ?_, ?_⟩
    · exact zip_k kds vs
    · rw [List.length_zip, List.length_map, hl, Nat.min_self]; exact hc.2
    · rw [merge_apart kds vs [] hc.1 hl (fun x hx => by cases hx), List.nil_append]
      obtain ⟨g3, x3⟩ := g2.chgK (o := .dK ((kds.map (·.1)).zip vs)) ⟨[], hp⟩ nY
      refine q _ rfl p Z2 _ (((Ext.same (Y := Y) k0).trans (x2.less fun _ z => .inl z)).trans x3) nY g3 (.inl ⟨(kds.map (·.1)).zip vs, kds.map (·.2), upd_same, ?_, ?_⟩)
      · have : ((kds.map (·.1)).zip vs).map (·.2) = vs := List.map_snd_zip (by rw [List.length_map, hl]; exact Nat.le_refl _)
        rw [this]
        exact r2.ext x3
      · exact zip_d kds vs hl
  · cases e4
end
end Pu
/-! The pure layer: tuple * int. -/
namespace Pu
open PySem PySem.Spec PyProof.Rows L2
theorem tuple_mul0 (l : Addr) (items : Array Value) (n : Nat) (dd : Option Addr) (sl : Array (Option Value)) (x : Int) (u : Tok) (c0 : (decide (x < -(2 ^ 63)) || decide (x ≥ 2 ^ 63)) = false) (c1 : (items.isEmpty || x == 1) = false) (c2 : (decide (x ≤ 0) || items.isEmpty) = true) :
    Meets (Builtin.«tuple.__mul__» ⟨[.ref l, .int x u], []⟩) (fun _ R s => s.heap.get? l = some { cls := .type "tuple", dict := dd, data := .seq items n, slots := sl } ∧
      R (.ok (.ret (Value.ref s.heap.objs.size))) { s with heap := s.heap.push { cls := Value.type "tuple", data := Data.seq #[] }, toks := s.toks }) :=
  .of_wp fun prog w A R s h => by
    obtain ⟨hp, g, d, tk, os⟩ := s
    obtain ⟨hl, h⟩ := h
    have f1 := AutoSeq1.idx_int
    wp_walk using wpAny_loadPart' hl
    repeat (first
      | (refine wpAny_ite_false (decide_eq_false (by rw [c0]; exact Bool.false_ne_true)) ?_; wp_walk using wpAny_loadPart' hl)
      | (refine wpAny_ite_false (decide_eq_false (by rw [c1]; exact Bool.false_ne_true)) ?_; wp_walk using wpAny_loadPart' hl)
      | (refine wpAny_ite_true (decide_eq_true c2) ?_; wp_walk using wpAny_loadPart' hl))
    exact ⟨_, rfl, h⟩
theorem tuple_mul1 (l : Addr) (items : Array Value) (n : Nat) (dd : Option Addr) (sl : Array (Option Value)) (x : Int) (u : Tok) (c0 : (decide (x < -(2 ^ 63)) || decide (x ≥ 2 ^ 63)) = false) (c1 : (items.isEmpty || x == 1) = true) :
    Meets (Builtin.«tuple.__mul__» ⟨[.ref l, .int x u], []⟩) (fun _ R s => s.heap.get? l = some { cls := .type "tuple", dict := dd, data := .seq items n, slots := sl } ∧
      R (.ok (.ret (Value.ref l))) s) :=
  .of_wp fun prog w A R s h => by
    obtain ⟨hp, g, d, tk, os⟩ := s
    obtain ⟨hl, h⟩ := h
    have f1 := AutoSeq1.idx_int
    wp_walk using wpAny_loadPart' hl
    repeat (first
      | (refine wpAny_ite_false (decide_eq_false (by rw [c0]; exact Bool.false_ne_true)) ?_; wp_walk using wpAny_loadPart' hl)
      | (refine wpAny_ite_true (decide_eq_true c1) ?_; wp_walk using wpAny_loadPart' hl))
    exact ⟨_, rfl, h⟩
section
variable {K : PySem.W.Frag} {cl : Cl} {X : Cx}
def repL (k : Int) (ds : List D) : List D := (List.replicate k.toNat ds).flatten
noncomputable def mulT : D → D → Option D
  | .tuple ds, .int k => if gd (ds.length ≤ 1000 ∧ -1000 ≤ k ∧ k ≤ 1000) = true then some (.tuple (repL k ds)) else none
  | _, _ => none
theorem rep_many {Z : Addr → Prop} {H : Hp} {xs : List V} {ds : List D} (h : RepAll K cl Z H xs ds) : ∀ n, RepAll K cl Z H (List.replicate n xs).flatten (List.replicate n ds).flatten
  | 0 => .nil
  | n + 1 => by
    rw [List.replicate_succ, List.replicate_succ, List.flatten_cons, List.flatten_cons]
    exact h.append (rep_many h n)
theorem u_mulT (hK : X.K = K := by rfl) : OpR X (binaryOp .Mult) (rG2 K cl mulT) := by
  subst hK
  intro pins s σ H x y v u Q I rx ry h
  obtain ⟨Z, dx, dy, d, hx, hy, e, q⟩ := h
  unfold mulT at e
  split at e
  · rename_i ds k
    split at e
    · rename_i c
      obtain ⟨c1, c2, c3⟩ := gd_iff.mp c
      cases e
      cases hy
      have hx : Rep X.K cl Z H x (.tuple ds) := hx
      cases hx with
      | @tup a xs _ hT ra =>
        have lx : xs.length = ds.length := ra.length
        by_cases big : xs ≠ [] ∧ 2 ≤ k
        · refine op_repT pins s σ H _ _ v u Q I rx ry ⟨a, k, xs, rfl, rfl, hT, big.1, big.2, c3, by omega, fun p np => ?_⟩
          have kk : Same H (upd H p (.tup (List.replicate k.toNat xs).flatten)) := fun b o e => by rw [upd_ne (ne_of_none e np)]; exact e
          exact q _ _ kk (.tup (.inl (.inl upd_same)) ((rep_many ra k.toNat).ext (Ext.same (Y := fun _ => False) kk)))
        · cases rx
          obtain ⟨t, rfl⟩ := ry
          obtain ⟨its, r, ⟨⟨cls, dd, data, sl⟩, ho, hc, n, hd⟩, hs⟩ := I.tuple hT
          simp only at hc hd
          subst hc hd
          have hle : its.length = xs.length := r.length.symm
          have c0 : (decide (k < -(2 ^ 63)) || decide (k ≥ 2 ^ 63)) = false := by
            rw [decide_eq_false (by omega), decide_eq_false (by omega)] <;> rfl
          by_cases one : (its.toArray.isEmpty || k == 1) = true
          · refine wpAny_binaryOp_repeat_ref (T := "tuple") (U := "int") (by decide) ⟨_, ho, rfl⟩ (fun s' => typeIs_int s' k t) noFill_tuple_mul F.fills_int_mul F.slot_int_rmul repeat_tuple F.slot_int_index.lookup
              (call_meets F.slot_int_rmul (typeIs_int s k t) F.entry_int_rmul (F.args_int_rmul_2 _ _) (int_rmul_tuple k t a its.toArray n dd sl)
                ⟨ho, rfl, ⟨_, ho, rfl⟩, call_meets F.slot_tuple_mul ⟨_, ho, rfl⟩ F.entry_tuple_mul (F.args_tuple_mul_2 _ _) (tuple_mul1 a its.toArray n dd sl k t c0 one) ⟨ho, ?_⟩⟩)
            refine ⟨.ref a, _, I, rfl, q _ _ (fun _ _ e => e) ?_⟩
            have er : repL k ds = ds := by
              simp only [Bool.or_eq_true, beq_iff_eq] at one
              rcases one with one | one
              · have : ds = [] := List.eq_nil_of_length_eq_zero (by rw [← lx, ← hle]; simpa using one)
                rw [this]
                simp [repL]
              · rw [one]; simp [repL]
            rw [er]
            exact .tup hT ra
          · have one : (its.toArray.isEmpty || k == 1) = false := by simpa using one
            have zero : (decide (k ≤ 0) || its.toArray.isEmpty) = true := by
              have k0 : k ≤ 0 := by
                simp only [Bool.or_eq_false_iff, beq_eq_false_iff_ne, ne_eq] at one
                have nn : xs ≠ [] := fun z => by
                  rw [z] at hle
                  have : its = [] := List.eq_nil_of_length_eq_zero hle
                  rw [this] at one
                  simp at one
                have : ¬ 2 ≤ k := fun z => big ⟨nn, z⟩
                omega
              rw [decide_eq_true k0]; rfl
            have k0 : k ≤ 0 := by
              simp only [Bool.or_eq_true, decide_eq_true_eq] at zero
              rcases zero with z | z
              · exact z
              · rw [z] at one; cases one
            refine wpAny_binaryOp_repeat_ref (T := "tuple") (U := "int") (by decide) ⟨_, ho, rfl⟩ (fun s' => typeIs_int s' k t) noFill_tuple_mul F.fills_int_mul F.slot_int_rmul repeat_tuple F.slot_int_index.lookup
              (call_meets F.slot_int_rmul (typeIs_int s k t) F.entry_int_rmul (F.args_int_rmul_2 _ _) (int_rmul_tuple k t a its.toArray n dd sl)
                ⟨ho, rfl, ⟨_, ho, rfl⟩, call_meets F.slot_tuple_mul ⟨_, ho, rfl⟩ F.entry_tuple_mul (F.args_tuple_mul_2 _ _) (tuple_mul0 a its.toArray n dd sl k t c0 one zero) ⟨ho, ?_⟩⟩)
            have np := I.hok.fresh (Nat.le_refl s.heap.objs.size)
            have kk : Same H (upd H s.heap.objs.size (.tup [])) := fun b o e => by rw [upd_ne (ne_of_none e np)]; exact e
            refine ⟨.ref s.heap.objs.size, _, I.laid (t' := s.toks) (o := .tup []) (fun b ob q => Heap.get?_push_of_some _ q) (Nat.le_refl _) ⟨by simp, _, .nil, IsTup.new _ _⟩, rfl, q _ _ kk ?_⟩
            have er : repL k ds = [] := by
              unfold repL
              rw [show k.toNat = 0 by omega]
              rfl
            rw [er]
            exact .tup (.inl (.inl upd_same)) .nil
    · cases e
  · cases e
noncomputable def mulA (a b : D) : Option D := match a with
  | .tuple ds => mulT (.tuple ds) b
  | a => mulI a b
theorem u_mulA (hK : X.K = K := by rfl) : OpR X (binaryOp .Mult) (rG2 K cl mulA) := by
  intro pins s σ H x y v u Q I rx ry h
  obtain ⟨Z, dx, dy, d, hx, hy, e, q⟩ := h
  unfold mulA at e
  split at e
  · exact u_mulT hK pins s σ H x y v u Q I rx ry ⟨Z, _, dy, d, hx, hy, e, q⟩
  · exact u_mulI pins s σ H x y v u Q I rx ry ⟨Z, _, dy, d, hx, hy, e, q⟩
end
end Pu
/-! The pure layer: applied equations of the newer ones. -/
namespace Pu
open PySem PySem.Spec PyProof.Rows
theorem hu1 {A : Around} {k : Nat} (hr : L2.Room k A) : A.units + 1 < cLine := by have := hr.un; omega
section
variable {ρ : En}
@[simp] theorem iEnT_ap (fs) : iEnT fs ρ = match fs ρ with
  | some ([.tuple as], ρ1) => some (pairUp (rngD 0 as.length) as, ρ1)
  | _ => none := by
  unfold iEnT
  simp only [bnd_ap]
  cases fs ρ with
  | none => rfl
  | some p =>
    obtain ⟨a, ρ1⟩ := p
    simp only
    split
    · rfl
    · rename_i h
      split
      · rename_i e; cases e; exact absurd rfl (h _)
      · rfl
@[simp] theorem pNil_ap : pNil ρ = some ([], ρ) := by first | rfl
@[simp] theorem pCons_ap (fk fv fr) : pCons fk fv fr ρ = match fk ρ with
  | some (k, ρ1) => (match fv ρ1 with
    | some (v, ρ2) => (match fr ρ2 with
      | some (r, ρ3) => (keyOf k).map fun j => ((j, v) :: r, ρ3)
      | none => none)
    | none => none)
  | none => none := by
  simp only [pCons, bnd_ap]
  cases fk ρ with
  | none => rfl
  | some p =>
    obtain ⟨a, ρ1⟩ := p
    simp only
    cases fv ρ1 with
    | none => rfl
    | some p =>
      obtain ⟨b, ρ2⟩ := p
      simp only
      cases fr ρ2 with
      | none => rfl
      | some p => rfl
@[simp] theorem fDisp_ap (fp) : fDisp fp ρ = match fp ρ with
  | some (kds, ρ1) => if apart kds = true ∧ kds.length ≤ 15 then some (.o (.dict (kds.map fun p => (keyD p.1, p.2))), ρ1) else none
  | none => none := by
  simp only [fDisp, bnd_ap]
  cases fp ρ with
  | none => rfl
  | some p => rfl
end
end Pu
/-! The pure layer: range downwards. -/
namespace Pu
open PySem PySem.Spec PyProof.Rows L2
section
variable {K : PySem.W.Frag} {cl : Cl}
def dnD (i : Int) (n : Nat) : List D := (List.range n).map fun k : Nat => .int (i - (k : Int))
theorem dnD_len (i : Int) (n : Nat) : (dnD i n).length = n := by simp [dnD]
theorem itc_ok {Y Z : Addr → Prop} {H : Hp} (i : Int) (n : Nat) : ItR (K := K) (cl := cl) Y Z H (Itc i (-1) n) (dnD i n) := by
  intro Z2 H2 x2
  refine ⟨by rw [dnD_len]; exact Nat.le_refl n, fun k d hd => ?_⟩
  have hi : k < n := by rw [← dnD_len i n]; exact (List.getElem?_eq_some_iff.mp hd).1
  refine ⟨hi, fun x H3 y => ?_⟩
  obtain ⟨rfl, rfl⟩ := y
  refine ⟨fun _ _ e => e, ?_⟩
  unfold dnD at hd
  rw [List.getElem?_map, List.getElem?_range hi] at hd
  cases hd
  have e : i + (k : Int) * (-1) = i - (k : Int) := by omega
  rw [e]
  exact .int _
noncomputable def iRn3 (fs : En → Option (List D × En)) : En → Option (List D × En) := bnd fs fun ds ρ => match ds with
  | [.int i, .int j, .int c] => if in62 i = true ∧ in62 j = true ∧ c = -1 then some (dnD i (i - j).toNat, ρ) else none
  | _ => none
theorem si_range3 {ts fs} (h : SemL K cl ts fs) : SemI K cl (iRng3 ts) (iRn3 fs) := by
  intro L Y Z H σ ρ ds ρ' R g e q
  obtain ⟨as, ρ1, e1, e2⟩ := bnd_some e
  refine h L Y Z H σ ρ as _ _ g e1 fun vs Z1 H1 x1 g1 r1 => ?_
  split at e2
  · rename_i i j c
    split at e2
    · rename_i hj
      obtain ⟨h1, h2, rfl⟩ := hj
      cases e2
      cases r1 with
      | cons r rs =>
        cases r
        cases rs with
        | cons r rs =>
          cases r
          cases rs with
          | cons r rs =>
            cases r
            cases rs
            have b := in62_iff h1
            have b2 := in62_iff h2
            exact ⟨i, j, -1, _, rfl, RgC.neg b.1 b.2 b2.1 b2.2, q _ _ _ x1 g1 (itc_ok i _)⟩
    · cases e2
  · cases e2
variable {ρ : En}
@[simp] theorem iRn3_ap (fs) : iRn3 fs ρ = match fs ρ with
  | some ([.int i, .int j, .int c], ρ1) => if in62 i = true ∧ in62 j = true ∧ c = -1 then some (dnD i (i - j).toNat, ρ1) else none
  | _ => none := by
  unfold iRn3
  simp only [bnd_ap]
  cases fs ρ with
  | none => rfl
  | some p =>
    obtain ⟨a, ρ1⟩ := p
    simp only
    split
    · rfl
    · rename_i h
      split
      · rename_i e; cases e; exact absurd rfl (h _ _ _)
      · rfl
/-! ### a, b, c = x, y, z, where some name is a cell: the tuple is made and taken apart -/
def gNs : List Nat → TGs
  | [] => gNil
  | i :: is => gCons (gName i) (gNs is)
theorem gNs_ok : ∀ {is : List Nat} {vs : List V} {σ : L2.St} {H : Hp} {Q : L2.St → Hp → Prop}, vs.length = is.length → Q (setAll is vs σ) H → gNs is vs σ H Q
  | [], [], _, _, _, _, q => ⟨rfl, q⟩
  | [], _ :: _, _, _, _, h, _ => by simp at h
  | _ :: _, [], _, _, _, h, _ => by simp at h
  | i :: is, v :: vs, σ, H, Q, h, q => ⟨v, vs, rfl, gNs_ok (is := is) (vs := vs) (σ := σ.set i (some v)) (by simpa using h) q⟩
theorem ss_parT {n : Nat} {is : List Nat} {ta fa} (ha : SemA K cl ta fa) (hn : is.length = n) (hz : n ≤ 1000) : SemS K cl (tAsg (tTup ta) (gTup K n (gNs is))) (sPar is fa) := by
  intro L Y Z H σ ρ fl ρ' D' G e q
  unfold sPar at e
  split at e
  · rename_i as ρ1 e1
    obtain ⟨ρ2, e2, e3⟩ := omap e
    cases e3
    refine ha L Y Z H σ ρ as ρ1 _ G e1 fun vs l Z1 H1 x1 n1 g1 a1 => ?_
    obtain ⟨g2, len⟩ := putAll_ok a1 n1 g1 e2
    refine ⟨line_of (by omega), fun p np => ?_⟩
    have k : Same H1 (upd H1 p (.tup vs)) := fun b o e => by rw [upd_ne (ne_of_none e np)]; exact e
    exact ⟨p, vs, rfl, .inl (.inl upd_same), by omega, gNs_ok len (q _ Z1 _ (x1.trans (.same k)) (g2.same k))⟩
  · cases e
end
end Pu
/-! The pure layer: applied equations of zip. -/
namespace Pu
open PySem PySem.Spec PyProof.Rows
section
variable {ρ : En}
@[simp] theorem iZp_ap (fs) : iZp fs ρ = match fs ρ with
  | some ([.list as, .list bs], ρ1) => some (pairUp as bs, ρ1)
  | some ([.tuple as, .tuple bs], ρ1) => some (pairUp as bs, ρ1)
  | _ => none := by
  unfold iZp
  simp only [bnd_ap]
  cases fs ρ with
  | none => rfl
  | some p =>
    obtain ⟨a, ρ1⟩ := p
    simp only
    split
    · rfl
    · rfl
    · rename_i h1 h2
      split
      · rename_i e; cases e; exact absurd rfl (h1 _ _)
      · rename_i e; cases e; exact absurd rfl (h2 _ _)
      · rfl
theorem pairUp_map {α : Type} (f g : α → D) : ∀ ps : List α, pairUp (ps.map f) (ps.map g) = ps.map fun p => .tuple [f p, g p]
  | [] => rfl
  | p :: ps => by simp [pairUp, pairUp_map f g ps]
end
end Pu
namespace K26
open PySem Pu
/-- is_whole: slots 0 value -/
noncomputable def b_is_whole : FS := (sRet (ef (fAndV (fUn (isiD "int") (wNm 0)) (fNotV (fUn (isiD "bool") (wNm 0))))))
theorem b_is_whole_def : b_is_whole = (sRet (ef (fAndV (fUn (isiD "int") (wNm 0)) (fNotV (fUn (isiD "bool") (wNm 0)))))) := by first | rfl
noncomputable def F_is_whole : FF := fnF 0 b_is_whole
theorem F_is_whole_def : F_is_whole = fnF 0 b_is_whole := by first | rfl
/-- is_number: slots 0 value 1 low 2 high -/
noncomputable def b_is_number_1 : FS := (sIf (fOrS (fNotS (fTru (wf (vf (fCall 1 F_is_whole [] (aS (fVar 0) aNil)))))) (fAndS (fTst (fOp notND (wNm 1) (wf (fC .none)))) (fTst (fOp ltD (wNm 0) (wNm 1)))))
      (sRet (ef (fC (.bool false)))) sNx)
theorem b_is_number_1_def : b_is_number_1 = (sIf (fOrS (fNotS (fTru (wf (vf (fCall 1 F_is_whole [] (aS (fVar 0) aNil)))))) (fAndS (fTst (fOp notND (wNm 1) (wf (fC .none)))) (fTst (fOp ltD (wNm 0) (wNm 1)))))
      (sRet (ef (fC (.bool false)))) sNx) := by first | rfl
noncomputable def b_is_number_2 : FS := (sRet (ef (fOrV (fOp isND (wNm 2) (wf (fC .none))) (fOp leD' (wNm 0) (wNm 2)))))
theorem b_is_number_2_def : b_is_number_2 = (sRet (ef (fOrV (fOp isND (wNm 2) (wf (fC .none))) (fOp leD' (wNm 0) (wNm 2))))) := by first | rfl
noncomputable def b_is_number : FS := (sSeq b_is_number_1 b_is_number_2)
theorem b_is_number_def : b_is_number = (sSeq b_is_number_1 b_is_number_2) := by first | rfl
noncomputable def F_is_number : FF := fnF 0 b_is_number
theorem F_is_number_def : F_is_number = fnF 0 b_is_number := by first | rfl
/-- is_tuple_of: slots 0 value 1 many -/
noncomputable def b_is_tuple_of : FS := (sRet (ef (fAndV (fUn (isiD "tuple") (wNm 0)) (fOp eqD (wf (fCB lenD (wCons (wNm 0) wNil))) (wNm 1)))))
theorem b_is_tuple_of_def : b_is_tuple_of = (sRet (ef (fAndV (fUn (isiD "tuple") (wNm 0)) (fOp eqD (wf (fCB lenD (wCons (wNm 0) wNil))) (wNm 1))))) := by first | rfl
noncomputable def F_is_tuple_of : FF := fnF 0 b_is_tuple_of
theorem F_is_tuple_of_def : F_is_tuple_of = fnF 0 b_is_tuple_of := by first | rfl
/-- is_sign: slots 0 sign 1 code -/
noncomputable def b_is_sign_1 : FS := (sAsg (ef (fCB ordC (wCons (wNm 0) wNil))) (put 1))
theorem b_is_sign_1_def : b_is_sign_1 = (sAsg (ef (fCB ordC (wCons (wNm 0) wNil))) (put 1)) := by first | rfl
noncomputable def b_is_sign_2 : FS := (sRet (ef (fAndV (fChain leD' leD' (wf (fC (.int 32))) (wNm 1) (wf (fC (.int 126)))) (fOp neD (wNm 1) (wf (fC (.int 37)))))))
theorem b_is_sign_2_def : b_is_sign_2 = (sRet (ef (fAndV (fChain leD' leD' (wf (fC (.int 32))) (wNm 1) (wf (fC (.int 126)))) (fOp neD (wNm 1) (wf (fC (.int 37))))))) := by first | rfl
noncomputable def b_is_sign : FS := (sSeq b_is_sign_1 b_is_sign_2)
theorem b_is_sign_def : b_is_sign = (sSeq b_is_sign_1 b_is_sign_2) := by first | rfl
noncomputable def F_is_sign : FF := fnF 1 b_is_sign
theorem F_is_sign_def : F_is_sign = fnF 1 b_is_sign := by first | rfl
/-- is_string: slots 0 value 1 most 2 sign -/
noncomputable def b_is_string : FS := (sRet (ef (fAndV (fUn (isiD "str") (wNm 0)) (fAndV (fOp leD' (wf (fCB lenD (wCons (wNm 0) wNil))) (wNm 1)) (fCB allD (wCons (wf (vf (fLc (iVal (fVar 0)) (put 2) fYes (vf (fCall 1 F_is_sign [] (aS (fVar 2) aNil))) [2]))) wNil))))))
theorem b_is_string_def : b_is_string = (sRet (ef (fAndV (fUn (isiD "str") (wNm 0)) (fAndV (fOp leD' (wf (fCB lenD (wCons (wNm 0) wNil))) (wNm 1)) (fCB allD (wCons (wf (vf (fLc (iVal (fVar 0)) (put 2) fYes (vf (fCall 1 F_is_sign [] (aS (fVar 2) aNil))) [2]))) wNil)))))) := by first | rfl
noncomputable def F_is_string : FF := fnF 1 b_is_string
theorem F_is_string_def : F_is_string = fnF 1 b_is_string := by first | rfl
/-- is_made_of: slots 0 value 1 signs 2 least 3 most 4 sign -/
noncomputable def b_is_made_of_1 : FS := (sIf (fOrS (fNotS (fTru (wf (fUn (isiD "str") (wNm 0))))) (fNotS (fTst (fChain leD' leD' (wNm 2) (wf (fCB lenD (wCons (wNm 0) wNil))) (wNm 3)))))
      (sRet (ef (fC (.bool false)))) sNx)
theorem b_is_made_of_1_def : b_is_made_of_1 = (sIf (fOrS (fNotS (fTru (wf (fUn (isiD "str") (wNm 0))))) (fNotS (fTst (fChain leD' leD' (wNm 2) (wf (fCB lenD (wCons (wNm 0) wNil))) (wNm 3)))))
      (sRet (ef (fC (.bool false)))) sNx) := by first | rfl
noncomputable def b_is_made_of_2 : FS := (sRet (ef (fCB allD (wCons (wf (vf (fLc (iVal (fVar 0)) (put 4) fYes (fOp inD (wNm 4) (wNm 1)) [4]))) wNil))))
theorem b_is_made_of_2_def : b_is_made_of_2 = (sRet (ef (fCB allD (wCons (wf (vf (fLc (iVal (fVar 0)) (put 4) fYes (fOp inD (wNm 4) (wNm 1)) [4]))) wNil)))) := by first | rfl
noncomputable def b_is_made_of : FS := (sSeq b_is_made_of_1 b_is_made_of_2)
theorem b_is_made_of_def : b_is_made_of = (sSeq b_is_made_of_1 b_is_made_of_2) := by first | rfl
noncomputable def F_is_made_of : FF := fnF 1 b_is_made_of
theorem F_is_made_of_def : F_is_made_of = fnF 1 b_is_made_of := by first | rfl
/-- is_named: slots 0 value -/
noncomputable def b_is_named : FS := (sRet (fCall 4 F_is_made_of [] (aS (fVar 0) (aS (vf (fOpE addD (wf (fC (.str "abcdefghijklmnopqrstuvwxyz"))) (wf (fC (.str "0123456789"))))) (aS (fC (.int 1)) (aS (fC (.int 12)) aNil))))))
theorem b_is_named_def : b_is_named = (sRet (fCall 4 F_is_made_of [] (aS (fVar 0) (aS (vf (fOpE addD (wf (fC (.str "abcdefghijklmnopqrstuvwxyz"))) (wf (fC (.str "0123456789"))))) (aS (fC (.int 1)) (aS (fC (.int 12)) aNil)))))) := by first | rfl
noncomputable def F_is_named : FF := fnF 0 b_is_named
theorem F_is_named_def : F_is_named = fnF 0 b_is_named := by first | rfl
/-- is_begin: slots 0 value -/
noncomputable def b_is_begin : FS := (sRet (fCall 4 F_is_made_of [] (aS (fVar 0) (aS (vf (fOpE addD (wf (fC (.str "abcdefghijklmnopqrstuvwxyz"))) (wf (fC (.str "0123456789"))))) (aS (fC (.int 1)) (aS (fC (.int 6)) aNil))))))
theorem b_is_begin_def : b_is_begin = (sRet (fCall 4 F_is_made_of [] (aS (fVar 0) (aS (vf (fOpE addD (wf (fC (.str "abcdefghijklmnopqrstuvwxyz"))) (wf (fC (.str "0123456789"))))) (aS (fC (.int 1)) (aS (fC (.int 6)) aNil)))))) := by first | rfl
noncomputable def F_is_begin : FF := fnF 0 b_is_begin
theorem F_is_begin_def : F_is_begin = fnF 0 b_is_begin := by first | rfl
/-- is_spaceless: slots 0 value 1 most -/
noncomputable def b_is_spaceless : FS := (sRet (ef (fAndV (vf (fCall 2 F_is_string [] (aS (fVar 0) (aS (fVar 1) aNil)))) (fOp notInD (wf (fC (.str " "))) (wNm 0)))))
theorem b_is_spaceless_def : b_is_spaceless = (sRet (ef (fAndV (vf (fCall 2 F_is_string [] (aS (fVar 0) (aS (fVar 1) aNil)))) (fOp notInD (wf (fC (.str " "))) (wNm 0))))) := by first | rfl
noncomputable def F_is_spaceless : FF := fnF 0 b_is_spaceless
theorem F_is_spaceless_def : F_is_spaceless = fnF 0 b_is_spaceless := by first | rfl
/-- is_term: slots 0 value -/
noncomputable def b_is_term : FS := (sRet (ef (fAndV (vf (fCall 2 F_is_spaceless [] (aS (fVar 0) (aS (fC (.int 210)) aNil)))) (fOp neD (wNm 0) (wf (fC (.str "")))))))
theorem b_is_term_def : b_is_term = (sRet (ef (fAndV (vf (fCall 2 F_is_spaceless [] (aS (fVar 0) (aS (fC (.int 210)) aNil)))) (fOp neD (wNm 0) (wf (fC (.str ""))))))) := by first | rfl
noncomputable def F_is_term : FF := fnF 0 b_is_term
theorem F_is_term_def : F_is_term = fnF 0 b_is_term := by first | rfl
/-- is_rowed: slots 0 value 1 term -/
noncomputable def b_is_rowed_1 : FS := (sIf (fOrS (fNotS (fTru (wf (fUn (isiD "tuple") (wNm 0))))) (fTst (fOp gtD (wf (fCB lenD (wCons (wNm 0) wNil))) (wf (fC (.int 400))))))
      (sRet (ef (fC (.bool false)))) sNx)
theorem b_is_rowed_1_def : b_is_rowed_1 = (sIf (fOrS (fNotS (fTru (wf (fUn (isiD "tuple") (wNm 0))))) (fTst (fOp gtD (wf (fCB lenD (wCons (wNm 0) wNil))) (wf (fC (.int 400))))))
      (sRet (ef (fC (.bool false)))) sNx) := by first | rfl
noncomputable def b_is_rowed_2 : FS := (sRet (ef (fCB allD (wCons (wf (vf (fLc (iVal (fVar 0)) (put 1) fYes (fOrV (fOp isND (wNm 1) (wf (fC .none))) (vf (fCall 1 F_is_term [] (aS (fVar 1) aNil)))) [1]))) wNil))))
theorem b_is_rowed_2_def : b_is_rowed_2 = (sRet (ef (fCB allD (wCons (wf (vf (fLc (iVal (fVar 0)) (put 1) fYes (fOrV (fOp isND (wNm 1) (wf (fC .none))) (vf (fCall 1 F_is_term [] (aS (fVar 1) aNil)))) [1]))) wNil)))) := by first | rfl
noncomputable def b_is_rowed : FS := (sSeq b_is_rowed_1 b_is_rowed_2)
theorem b_is_rowed_def : b_is_rowed = (sSeq b_is_rowed_1 b_is_rowed_2) := by first | rfl
noncomputable def F_is_rowed : FF := fnF 1 b_is_rowed
theorem F_is_rowed_def : F_is_rowed = fnF 1 b_is_rowed := by first | rfl
/-- check_row: slots 0 value -/
noncomputable def b_check_row_1 : FS := (sIf (fNotS (fTru (wf (vf (fCall 1 F_is_rowed [] (aS (fVar 0) aNil))))))
      sNo sNx)
theorem b_check_row_1_def : b_check_row_1 = (sIf (fNotS (fTru (wf (vf (fCall 1 F_is_rowed [] (aS (fVar 0) aNil))))))
      sNo sNx) := by first | rfl
noncomputable def b_check_row : FS := b_check_row_1
theorem b_check_row_def : b_check_row = b_check_row_1 := by first | rfl
noncomputable def F_check_row : FF := fnF 0 b_check_row
theorem F_check_row_def : F_check_row = fnF 0 b_check_row := by first | rfl
/-- are_terms: slots 0 value 1 each -/
noncomputable def b_are_terms_1 : FS := (sIf (fOrS (fNotS (fTru (wf (fUn (isiD "tuple") (wNm 0))))) (fNotS (fTst (fChain leD' leD' (wf (fC (.int 2))) (wf (fCB lenD (wCons (wNm 0) wNil))) (wf (fC (.int 4)))))))
      (sRet (ef (fC (.bool false)))) sNx)
theorem b_are_terms_1_def : b_are_terms_1 = (sIf (fOrS (fNotS (fTru (wf (fUn (isiD "tuple") (wNm 0))))) (fNotS (fTst (fChain leD' leD' (wf (fC (.int 2))) (wf (fCB lenD (wCons (wNm 0) wNil))) (wf (fC (.int 4)))))))
      (sRet (ef (fC (.bool false)))) sNx) := by first | rfl
noncomputable def b_are_terms_2 : FS := (sRet (ef (fCB allD (wCons (wf (vf (fLc (iVal (fVar 0)) (put 1) fYes (vf (fCall 1 F_is_named [] (aS (fVar 1) aNil))) [1]))) wNil))))
theorem b_are_terms_2_def : b_are_terms_2 = (sRet (ef (fCB allD (wCons (wf (vf (fLc (iVal (fVar 0)) (put 1) fYes (vf (fCall 1 F_is_named [] (aS (fVar 1) aNil))) [1]))) wNil)))) := by first | rfl
noncomputable def b_are_terms : FS := (sSeq b_are_terms_1 b_are_terms_2)
theorem b_are_terms_def : b_are_terms = (sSeq b_are_terms_1 b_are_terms_2) := by first | rfl
noncomputable def F_are_terms : FF := fnF 1 b_are_terms
theorem F_are_terms_def : F_are_terms = fnF 1 b_are_terms := by first | rfl
/-- is_atom: slots 0 value 1 word 2 field -/
noncomputable def b_is_atom_1 : FS := (sIf (fOrS (fNotS (fTru (wf (fUn (isiD "tuple") (wNm 0))))) (fTst (fOp ltD (wf (fCB lenD (wCons (wNm 0) wNil))) (wf (fC (.int 3))))))
      (sRet (ef (fC (.bool false)))) sNx)
theorem b_is_atom_1_def : b_is_atom_1 = (sIf (fOrS (fNotS (fTru (wf (fUn (isiD "tuple") (wNm 0))))) (fTst (fOp ltD (wf (fCB lenD (wCons (wNm 0) wNil))) (wf (fC (.int 3))))))
      (sRet (ef (fC (.bool false)))) sNx) := by first | rfl
noncomputable def b_is_atom_2 : FS := (sPar [1, 2] (aE (ef (fOp ixD (wNm 0) (wf (fC (.int 0))))) (aE (ef (fOp ixD (wNm 0) (wf (fC (.int 1))))) aNil)))
theorem b_is_atom_2_def : b_is_atom_2 = (sPar [1, 2] (aE (ef (fOp ixD (wNm 0) (wf (fC (.int 0))))) (aE (ef (fOp ixD (wNm 0) (wf (fC (.int 1))))) aNil))) := by first | rfl
noncomputable def b_is_atom_3 : FS := (sIf (fOrS (fNotS (fTru (wf (fUn (isiD "str") (wNm 1))))) (fOrS (fNotS (fTru (wf (fUn (isiD "str") (wNm 2))))) (fTst (fOp notInD (wNm 2) (wf (fC (.tuple [.str "head", .str "body", .str "any"])))))))
      (sRet (ef (fC (.bool false)))) sNx)
theorem b_is_atom_3_def : b_is_atom_3 = (sIf (fOrS (fNotS (fTru (wf (fUn (isiD "str") (wNm 1))))) (fOrS (fNotS (fTru (wf (fUn (isiD "str") (wNm 2))))) (fTst (fOp notInD (wNm 2) (wf (fC (.tuple [.str "head", .str "body", .str "any"])))))))
      (sRet (ef (fC (.bool false)))) sNx) := by first | rfl
noncomputable def b_is_atom_4 : FS := (sIf (fTst (fOp eqD (wNm 1) (wf (fC (.str "near")))))
      (sRet (ef (fAndV (fOp eqD (wf (fCB lenD (wCons (wNm 0) wNil))) (wf (fC (.int 5)))) (fAndV (vf (fCall 1 F_is_named [] (aS (fOp ixD (wNm 0) (wf (fC (.int 2)))) aNil))) (fAndV (vf (fCall 1 F_is_named [] (aS (fOp ixD (wNm 0) (wf (fC (.int 3)))) aNil))) (vf (fCall 3 F_is_number [] (aS (fOp ixD (wNm 0) (wf (fC (.int 4)))) (aS (fC (.int 1)) (aS (fC (.int 6)) aNil)))))))))) sNx)
theorem b_is_atom_4_def : b_is_atom_4 = (sIf (fTst (fOp eqD (wNm 1) (wf (fC (.str "near")))))
      (sRet (ef (fAndV (fOp eqD (wf (fCB lenD (wCons (wNm 0) wNil))) (wf (fC (.int 5)))) (fAndV (vf (fCall 1 F_is_named [] (aS (fOp ixD (wNm 0) (wf (fC (.int 2)))) aNil))) (fAndV (vf (fCall 1 F_is_named [] (aS (fOp ixD (wNm 0) (wf (fC (.int 3)))) aNil))) (vf (fCall 3 F_is_number [] (aS (fOp ixD (wNm 0) (wf (fC (.int 4)))) (aS (fC (.int 1)) (aS (fC (.int 6)) aNil)))))))))) sNx) := by first | rfl
noncomputable def b_is_atom_5 : FS := (sIf (fTst (fOp neD (wf (fCB lenD (wCons (wNm 0) wNil))) (wf (fC (.int 3)))))
      (sRet (ef (fC (.bool false)))) sNx)
theorem b_is_atom_5_def : b_is_atom_5 = (sIf (fTst (fOp neD (wf (fCB lenD (wCons (wNm 0) wNil))) (wf (fC (.int 3)))))
      (sRet (ef (fC (.bool false)))) sNx) := by first | rfl
noncomputable def b_is_atom_6 : FS := (sIf (fTst (fOp eqD (wNm 1) (wf (fC (.str "word")))))
      (sRet (fCall 1 F_is_named [] (aS (fOp ixD (wNm 0) (wf (fC (.int 2)))) aNil))) sNx)
theorem b_is_atom_6_def : b_is_atom_6 = (sIf (fTst (fOp eqD (wNm 1) (wf (fC (.str "word")))))
      (sRet (fCall 1 F_is_named [] (aS (fOp ixD (wNm 0) (wf (fC (.int 2)))) aNil))) sNx) := by first | rfl
noncomputable def b_is_atom_7 : FS := (sIf (fTst (fOp eqD (wNm 1) (wf (fC (.str "starts")))))
      (sRet (fCall 1 F_is_begin [] (aS (fOp ixD (wNm 0) (wf (fC (.int 2)))) aNil))) sNx)
theorem b_is_atom_7_def : b_is_atom_7 = (sIf (fTst (fOp eqD (wNm 1) (wf (fC (.str "starts")))))
      (sRet (fCall 1 F_is_begin [] (aS (fOp ixD (wNm 0) (wf (fC (.int 2)))) aNil))) sNx) := by first | rfl
noncomputable def b_is_atom_8 : FS := (sRet (ef (fAndV (fOp eqD (wNm 1) (wf (fC (.str "row")))) (vf (fCall 1 F_are_terms [] (aS (fOp ixD (wNm 0) (wf (fC (.int 2)))) aNil))))))
theorem b_is_atom_8_def : b_is_atom_8 = (sRet (ef (fAndV (fOp eqD (wNm 1) (wf (fC (.str "row")))) (vf (fCall 1 F_are_terms [] (aS (fOp ixD (wNm 0) (wf (fC (.int 2)))) aNil)))))) := by first | rfl
noncomputable def b_is_atom : FS := (sSeq b_is_atom_1 (sSeq b_is_atom_2 (sSeq b_is_atom_3 (sSeq b_is_atom_4 (sSeq b_is_atom_5 (sSeq b_is_atom_6 (sSeq b_is_atom_7 b_is_atom_8)))))))
theorem b_is_atom_def : b_is_atom = (sSeq b_is_atom_1 (sSeq b_is_atom_2 (sSeq b_is_atom_3 (sSeq b_is_atom_4 (sSeq b_is_atom_5 (sSeq b_is_atom_6 (sSeq b_is_atom_7 b_is_atom_8))))))) := by first | rfl
noncomputable def F_is_atom : FF := fnF 2 b_is_atom
theorem F_is_atom_def : F_is_atom = fnF 2 b_is_atom := by first | rfl
/-- inside_of: slots 0 value 1 word 2 inner -/
noncomputable def b_inside_of_1 : FS := (sIf (fOrS (fNotS (fTru (wf (vf (fCall 2 F_is_tuple_of [] (aS (fVar 0) (aS (fC (.int 2)) aNil))))))) (fNotS (fTru (wf (fUn (isiD "str") (wf (fOp ixD (wNm 0) (wf (fC (.int 0))))))))))
      (sRet (ef (fC .none))) sNx)
theorem b_inside_of_1_def : b_inside_of_1 = (sIf (fOrS (fNotS (fTru (wf (vf (fCall 2 F_is_tuple_of [] (aS (fVar 0) (aS (fC (.int 2)) aNil))))))) (fNotS (fTru (wf (fUn (isiD "str") (wf (fOp ixD (wNm 0) (wf (fC (.int 0))))))))))
      (sRet (ef (fC .none))) sNx) := by first | rfl
noncomputable def b_inside_of_2 : FS := (sAsg (ef (fVar 0)) (puTup 2 (puCons (put 1) (puCons (put 2) puNil))))
theorem b_inside_of_2_def : b_inside_of_2 = (sAsg (ef (fVar 0)) (puTup 2 (puCons (put 1) (puCons (put 2) puNil)))) := by first | rfl
noncomputable def b_inside_of_3 : FS := (sIf (fTst (fOp eqD (wNm 1) (wf (fC (.str "not")))))
      (sRet (ef (fTup (fCons (fVar 2) fNil)))) sNx)
theorem b_inside_of_3_def : b_inside_of_3 = (sIf (fTst (fOp eqD (wNm 1) (wf (fC (.str "not")))))
      (sRet (ef (fTup (fCons (fVar 2) fNil)))) sNx) := by first | rfl
noncomputable def b_inside_of_4 : FS := (sIf (fOrS (fTst (fOp notInD (wNm 1) (wf (fTup (fCons (fC (.str "all")) (fCons (fC (.str "any")) fNil)))))) (fOrS (fNotS (fTru (wf (fUn (isiD "tuple") (wNm 2))))) (fNotS (fTst (fChain leD' leD' (wf (fC (.int 1))) (wf (fCB lenD (wCons (wNm 2) wNil))) (wf (fC (.int 6))))))))
      (sRet (ef (fC .none))) sNx)
theorem b_inside_of_4_def : b_inside_of_4 = (sIf (fOrS (fTst (fOp notInD (wNm 1) (wf (fTup (fCons (fC (.str "all")) (fCons (fC (.str "any")) fNil)))))) (fOrS (fNotS (fTru (wf (fUn (isiD "tuple") (wNm 2))))) (fNotS (fTst (fChain leD' leD' (wf (fC (.int 1))) (wf (fCB lenD (wCons (wNm 2) wNil))) (wf (fC (.int 6))))))))
      (sRet (ef (fC .none))) sNx) := by first | rfl
noncomputable def b_inside_of_5 : FS := (sRet (fMv 2))
theorem b_inside_of_5_def : b_inside_of_5 = (sRet (fMv 2)) := by first | rfl
noncomputable def b_inside_of : FS := (sSeq b_inside_of_1 (sSeq b_inside_of_2 (sSeq b_inside_of_3 (sSeq b_inside_of_4 b_inside_of_5))))
theorem b_inside_of_def : b_inside_of = (sSeq b_inside_of_1 (sSeq b_inside_of_2 (sSeq b_inside_of_3 (sSeq b_inside_of_4 b_inside_of_5)))) := by first | rfl
noncomputable def F_inside_of : FF := fnF 2 b_inside_of
theorem F_inside_of_def : F_inside_of = fnF 2 b_inside_of := by first | rfl
/-- counted: slots 0 value 1 levels 2 inner 3 sizes 4 each 5 size 6 _ 7 atoms 8 nodes -/
noncomputable def b_counted_1 (Fs : FF) : FS := (sIf (fTst (fOp eqD (wNm 1) (wf (fC (.int 0)))))
      (sRet (ef (fC .none))) sNx)
theorem b_counted_1_def (Fs : FF) : b_counted_1 Fs = (sIf (fTst (fOp eqD (wNm 1) (wf (fC (.int 0)))))
      (sRet (ef (fC .none))) sNx) := by first | rfl
noncomputable def b_counted_2 (Fs : FF) : FS := (sIf (fTru (wf (vf (fCall 1 F_is_atom [] (aS (fVar 0) aNil)))))
      (sRet (ef (fTup (fCons (fC (.int 1)) (fCons (fC (.int 1)) fNil))))) sNx)
theorem b_counted_2_def (Fs : FF) : b_counted_2 Fs = (sIf (fTru (wf (vf (fCall 1 F_is_atom [] (aS (fVar 0) aNil)))))
      (sRet (ef (fTup (fCons (fC (.int 1)) (fCons (fC (.int 1)) fNil))))) sNx) := by first | rfl
noncomputable def b_counted_3 (Fs : FF) : FS := (sAsg (fCall 1 F_inside_of [] (aS (fVar 0) aNil)) (put 2))
theorem b_counted_3_def (Fs : FF) : b_counted_3 Fs = (sAsg (fCall 1 F_inside_of [] (aS (fVar 0) aNil)) (put 2)) := by first | rfl
noncomputable def b_counted_4 (Fs : FF) : FS := (sIf (fTst (fOp isND (wNm 2) (wf (fC .none))))
      (sRet (ef (fC .none))) sNx)
theorem b_counted_4_def (Fs : FF) : b_counted_4 Fs = (sIf (fTst (fOp isND (wNm 2) (wf (fC .none))))
      (sRet (ef (fC .none))) sNx) := by first | rfl
noncomputable def b_counted_5 (Fs : FF) : FS := (sAsg (fLc (iVal (fVar 2)) (put 4) fYes (vf (fCall 2 Fs [] (aS (fVar 4) (aS (fOp subD (wNm 1) (wf (fC (.int 1)))) aNil)))) [4]) (put 3))
theorem b_counted_5_def (Fs : FF) : b_counted_5 Fs = (sAsg (fLc (iVal (fVar 2)) (put 4) fYes (vf (fCall 2 Fs [] (aS (fVar 4) (aS (fOp subD (wNm 1) (wf (fC (.int 1)))) aNil)))) [4]) (put 3)) := by first | rfl
noncomputable def b_counted_6 (Fs : FF) : FS := (sIf (fTru (wf (fCB anyD (wCons (wf (vf (fLc (iVal (fVar 3)) (put 5) fYes (fOp isND (wNm 5) (wf (fC .none))) [5]))) wNil))))
      (sRet (ef (fC .none))) sNx)
theorem b_counted_6_def (Fs : FF) : b_counted_6 Fs = (sIf (fTru (wf (fCB anyD (wCons (wf (vf (fLc (iVal (fVar 3)) (put 5) fYes (fOp isND (wNm 5) (wf (fC .none))) [5]))) wNil))))
      (sRet (ef (fC .none))) sNx) := by first | rfl
noncomputable def b_counted_7 (Fs : FF) : FS := (sRet (ef (fTup (fCons (vf (fOpE addD (wf (fC (.int 1))) (wf (fCB sumD (wCons (wf (vf (fLc (iVal (fVar 3)) (puTup 2 (puCons (put 8) (puCons (put 6) puNil))) fYes (fVar 8) [8, 6]))) wNil))))) (fCons (fCB sumD (wCons (wf (vf (fLc (iVal (fVar 3)) (puTup 2 (puCons (put 6) (puCons (put 7) puNil))) fYes (fVar 7) [6, 7]))) wNil)) fNil)))))
theorem b_counted_7_def (Fs : FF) : b_counted_7 Fs = (sRet (ef (fTup (fCons (vf (fOpE addD (wf (fC (.int 1))) (wf (fCB sumD (wCons (wf (vf (fLc (iVal (fVar 3)) (puTup 2 (puCons (put 8) (puCons (put 6) puNil))) fYes (fVar 8) [8, 6]))) wNil))))) (fCons (fCB sumD (wCons (wf (vf (fLc (iVal (fVar 3)) (puTup 2 (puCons (put 6) (puCons (put 7) puNil))) fYes (fVar 7) [6, 7]))) wNil)) fNil))))) := by first | rfl
noncomputable def b_counted (Fs : FF) : FS := (sSeq (b_counted_1 Fs) (sSeq (b_counted_2 Fs) (sSeq (b_counted_3 Fs) (sSeq (b_counted_4 Fs) (sSeq (b_counted_5 Fs) (sSeq (b_counted_6 Fs) (b_counted_7 Fs)))))))
theorem b_counted_def (Fs : FF) : b_counted Fs = (sSeq (b_counted_1 Fs) (sSeq (b_counted_2 Fs) (sSeq (b_counted_3 Fs) (sSeq (b_counted_4 Fs) (sSeq (b_counted_5 Fs) (sSeq (b_counted_6 Fs) (b_counted_7 Fs))))))) := by first | rfl
noncomputable def F_counted : Nat → FF
  | 0 => noF
  | m + 1 => fnF 7 (b_counted (F_counted m))
theorem F_counted_def (m : Nat) : F_counted (m + 1) = fnF 7 (b_counted (F_counted m)) := by first | rfl
/-- is_question_by: slots 0 value 1 size -/
noncomputable def b_is_question_by_1 : FS := (sAsg (fCall 2 (F_counted 4) [] (aS (fVar 0) (aS (fC (.int 4)) aNil))) (put 1))
theorem b_is_question_by_1_def : b_is_question_by_1 = (sAsg (fCall 2 (F_counted 4) [] (aS (fVar 0) (aS (fC (.int 4)) aNil))) (put 1)) := by first | rfl
noncomputable def b_is_question_by_2 : FS := (sRet (ef (fAndV (fOp notND (wNm 1) (wf (fC .none))) (fAndV (fOp leD' (wf (fOp ixD (wNm 1) (wf (fC (.int 0))))) (wf (fC (.int 12)))) (fOp leD' (wf (fOp ixD (wNm 1) (wf (fC (.int 1))))) (wf (fC (.int 6))))))))
theorem b_is_question_by_2_def : b_is_question_by_2 = (sRet (ef (fAndV (fOp notND (wNm 1) (wf (fC .none))) (fAndV (fOp leD' (wf (fOp ixD (wNm 1) (wf (fC (.int 0))))) (wf (fC (.int 12)))) (fOp leD' (wf (fOp ixD (wNm 1) (wf (fC (.int 1))))) (wf (fC (.int 6)))))))) := by first | rfl
noncomputable def b_is_question_by : FS := (sSeq b_is_question_by_1 b_is_question_by_2)
theorem b_is_question_by_def : b_is_question_by = (sSeq b_is_question_by_1 b_is_question_by_2) := by first | rfl
noncomputable def F_is_question_by : FF := fnF 1 b_is_question_by
theorem F_is_question_by_def : F_is_question_by = fnF 1 b_is_question_by := by first | rfl
/-- all_atoms: slots 0 question 1 each 2 atom -/
noncomputable def b_all_atoms_1 (Fs : FF) : FS := (sIf (fTru (wf (vf (fCall 1 F_is_atom [] (aS (fVar 0) aNil)))))
      (sRet (fLst (fCons (fVar 0) fNil))) sNx)
theorem b_all_atoms_1_def (Fs : FF) : b_all_atoms_1 Fs = (sIf (fTru (wf (vf (fCall 1 F_is_atom [] (aS (fVar 0) aNil)))))
      (sRet (fLst (fCons (fVar 0) fNil))) sNx) := by first | rfl
noncomputable def b_all_atoms_2 (Fs : FF) : FS := (sRet (fLc2 (iVal (vf (fCall 1 F_inside_of [] (aS (fVar 0) aNil)))) (put 1) fYes (iVal (vf (fCall 1 Fs [] (aS (fVar 1) aNil)))) (put 2) fYes (fVar 2) [1, 2] [2]))
theorem b_all_atoms_2_def (Fs : FF) : b_all_atoms_2 Fs = (sRet (fLc2 (iVal (vf (fCall 1 F_inside_of [] (aS (fVar 0) aNil)))) (put 1) fYes (iVal (vf (fCall 1 Fs [] (aS (fVar 1) aNil)))) (put 2) fYes (fVar 2) [1, 2] [2])) := by first | rfl
noncomputable def b_all_atoms (Fs : FF) : FS := (sSeq (b_all_atoms_1 Fs) (b_all_atoms_2 Fs))
theorem b_all_atoms_def (Fs : FF) : b_all_atoms Fs = (sSeq (b_all_atoms_1 Fs) (b_all_atoms_2 Fs)) := by first | rfl
noncomputable def F_all_atoms : Nat → FF
  | 0 => noF
  | m + 1 => fnF 2 (b_all_atoms (F_all_atoms m))
theorem F_all_atoms_def (m : Nat) : F_all_atoms (m + 1) = fnF 2 (b_all_atoms (F_all_atoms m)) := by first | rfl
/-- unlike: slots 0 row 1 found 2 each -/
noncomputable def b_unlike_2f_1 : FS := (sIf (fTst (fOp notInD (wNm 2) (wNm 1)))
      (sDrop (fMu 1 apD (fCons (fVar 2) fNil))) sNx)
theorem b_unlike_2f_1_def : b_unlike_2f_1 = (sIf (fTst (fOp notInD (wNm 2) (wNm 1)))
      (sDrop (fMu 1 apD (fCons (fVar 2) fNil))) sNx) := by first | rfl
noncomputable def b_unlike_1 : FS := (sAsg (fLst fNil) (put 1))
theorem b_unlike_1_def : b_unlike_1 = (sAsg (fLst fNil) (put 1)) := by first | rfl
noncomputable def b_unlike_2 : FS := (sFor (iVal (fVar 0)) (put 2)
      b_unlike_2f_1)
theorem b_unlike_2_def : b_unlike_2 = (sFor (iVal (fVar 0)) (put 2)
      b_unlike_2f_1) := by first | rfl
noncomputable def b_unlike_3 : FS := (sRet (ef (fCB tupleD (wCons (wNm 1) wNil))))
theorem b_unlike_3_def : b_unlike_3 = (sRet (ef (fCB tupleD (wCons (wNm 1) wNil)))) := by first | rfl
noncomputable def b_unlike : FS := (sSeq b_unlike_1 (sSeq b_unlike_2 b_unlike_3))
theorem b_unlike_def : b_unlike = (sSeq b_unlike_1 (sSeq b_unlike_2 b_unlike_3)) := by first | rfl
noncomputable def F_unlike : FF := fnF 2 b_unlike
theorem F_unlike_def : F_unlike = fnF 2 b_unlike := by first | rfl
/-- looks_by: slots 0 question 1 other 2 atom -/
noncomputable def b_looks_by : FS := (sRet (fCall 1 F_unlike [] (aS (vf (fLc (iVal (vf (fOpE addD (wf (vf (fCall 1 (F_all_atoms 4) [] (aS (fVar 0) aNil)))) (wf (vf (fCall 1 (F_all_atoms 4) [] (aS (fVar 1) aNil))))))) (put 2) fYes (vf (fOpE addD (wf (vf (fSl (wNm 2) oNo (oSo (fC (.int 1)))))) (wf (vf (fSl (wNm 2) (oSo (fC (.int 2))) oNo))))) [2])) aNil)))
theorem b_looks_by_def : b_looks_by = (sRet (fCall 1 F_unlike [] (aS (vf (fLc (iVal (vf (fOpE addD (wf (vf (fCall 1 (F_all_atoms 4) [] (aS (fVar 0) aNil)))) (wf (vf (fCall 1 (F_all_atoms 4) [] (aS (fVar 1) aNil))))))) (put 2) fYes (vf (fOpE addD (wf (vf (fSl (wNm 2) oNo (oSo (fC (.int 1)))))) (wf (vf (fSl (wNm 2) (oSo (fC (.int 2))) oNo))))) [2])) aNil))) := by first | rfl
noncomputable def F_looks_by : FF := fnF 1 b_looks_by
theorem F_looks_by_def : F_looks_by = fnF 1 b_looks_by := by first | rfl
/-- first_states: slots 0 looks 1 look -/
noncomputable def b_first_states : FS := (sRet (ef (fCB tupleD (wCons (wf (vf (fLc (iVal (fVar 0)) (put 1) fYes (fIf (fTst (fOp eqD (wf (fOp ixD (wNm 1) (wf (fC (.int 0))))) (wf (fC (.str "near"))))) (fTup (fCons (fC (.int 0)) (fCons (fC (.int 0)) fNil))) (fC (.int 0))) [1]))) wNil))))
theorem b_first_states_def : b_first_states = (sRet (ef (fCB tupleD (wCons (wf (vf (fLc (iVal (fVar 0)) (put 1) fYes (fIf (fTst (fOp eqD (wf (fOp ixD (wNm 1) (wf (fC (.int 0))))) (wf (fC (.str "near"))))) (fTup (fCons (fC (.int 0)) (fCons (fC (.int 0)) fNil))) (fC (.int 0))) [1]))) wNil)))) := by first | rfl
noncomputable def F_first_states : FF := fnF 1 b_first_states
theorem F_first_states_def : F_first_states = fnF 1 b_first_states := by first | rfl
/-- row_step: slots 0 terms 1 state 2 thing 3 last 4 many -/
noncomputable def b_row_step_3f_1 : FS := (sIf (fTst (fOp eqD (wf (vf (fSl (wNm 3) (oSo (fOp subD (wf (fCB lenD (wCons (wNm 3) wNil))) (wNm 4))) oNo))) (wf (vf (fSl (wNm 0) oNo (oSo (fVar 4)))))))
      (sRet (fMv 4)) sNx)
theorem b_row_step_3f_1_def : b_row_step_3f_1 = (sIf (fTst (fOp eqD (wf (vf (fSl (wNm 3) (oSo (fOp subD (wf (fCB lenD (wCons (wNm 3) wNil))) (wNm 4))) oNo))) (wf (vf (fSl (wNm 0) oNo (oSo (fVar 4)))))))
      (sRet (fMv 4)) sNx) := by first | rfl
noncomputable def b_row_step_1 : FS := (sIf (fTst (fOp eqD (wNm 1) (wf (fCB lenD (wCons (wNm 0) wNil)))))
      (sRet (fMv 1)) sNx)
theorem b_row_step_1_def : b_row_step_1 = (sIf (fTst (fOp eqD (wNm 1) (wf (fCB lenD (wCons (wNm 0) wNil)))))
      (sRet (fMv 1)) sNx) := by first | rfl
noncomputable def b_row_step_2 : FS := (sAsg (fOpE addD (wf (vf (fSl (wNm 0) oNo (oSo (fVar 1))))) (wf (fTup (fCons (fVar 2) fNil)))) (put 3))
theorem b_row_step_2_def : b_row_step_2 = (sAsg (fOpE addD (wf (vf (fSl (wNm 0) oNo (oSo (fVar 1))))) (wf (fTup (fCons (fVar 2) fNil)))) (put 3)) := by first | rfl
noncomputable def b_row_step_3 : FS := (sFor (iRn3 (fCons (vf (fOpE addD (wNm 1) (wf (fC (.int 1))))) (fCons (fC (.int 0)) (fCons (fUn negD (wf (fC (.int 1)))) fNil)))) (put 4)
      b_row_step_3f_1)
theorem b_row_step_3_def : b_row_step_3 = (sFor (iRn3 (fCons (vf (fOpE addD (wNm 1) (wf (fC (.int 1))))) (fCons (fC (.int 0)) (fCons (fUn negD (wf (fC (.int 1)))) fNil)))) (put 4)
      b_row_step_3f_1) := by first | rfl
noncomputable def b_row_step_4 : FS := (sRet (ef (fC (.int 0))))
theorem b_row_step_4_def : b_row_step_4 = (sRet (ef (fC (.int 0)))) := by first | rfl
noncomputable def b_row_step : FS := (sSeq b_row_step_1 (sSeq b_row_step_2 (sSeq b_row_step_3 b_row_step_4)))
theorem b_row_step_def : b_row_step = (sSeq b_row_step_1 (sSeq b_row_step_2 (sSeq b_row_step_3 b_row_step_4))) := by first | rfl
noncomputable def F_row_step : FF := fnF 2 b_row_step
theorem F_row_step_def : F_row_step = fnF 2 b_row_step := by first | rfl
/-- ago: slots 0 state 1 is_here 2 most -/
noncomputable def b_ago_1 : FS := (sIf (fTru (wNm 1))
      (sRet (ef (fC (.int 1)))) sNx)
theorem b_ago_1_def : b_ago_1 = (sIf (fTru (wNm 1))
      (sRet (ef (fC (.int 1)))) sNx) := by first | rfl
noncomputable def b_ago_2 : FS := (sRet (fIf (fTst (fChain ltD ltD (wf (fC (.int 0))) (wNm 0) (wNm 2))) (fOpE addD (wNm 0) (wf (fC (.int 1)))) (ef (fC (.int 0)))))
theorem b_ago_2_def : b_ago_2 = (sRet (fIf (fTst (fChain ltD ltD (wf (fC (.int 0))) (wNm 0) (wNm 2))) (fOpE addD (wNm 0) (wf (fC (.int 1)))) (ef (fC (.int 0))))) := by first | rfl
noncomputable def b_ago : FS := (sSeq b_ago_1 b_ago_2)
theorem b_ago_def : b_ago = (sSeq b_ago_1 b_ago_2) := by first | rfl
noncomputable def F_ago : FF := fnF 0 b_ago
theorem F_ago_def : F_ago = fnF 0 b_ago := by first | rfl
/-- near_step: slots 0 look 1 state 2 thing 3 _ 4 first 5 second 6 most -/
noncomputable def b_near_step_1 : FS := (sAsg (ef (fVar 0)) (puTup 4 (puCons (put 3) (puCons (put 4) (puCons (put 5) (puCons (put 6) puNil))))))
theorem b_near_step_1_def : b_near_step_1 = (sAsg (ef (fVar 0)) (puTup 4 (puCons (put 3) (puCons (put 4) (puCons (put 5) (puCons (put 6) puNil)))))) := by first | rfl
noncomputable def b_near_step_2 : FS := (sIf (fOrS (fTst (fOp eqD (wNm 1) (wf (fC (.tuple [.int 9, .int 9]))))) (fOrS (fAndS (fTst (fOp eqD (wNm 2) (wNm 4))) (fTst (fOp gtD (wf (fOp ixD (wNm 1) (wf (fC (.int 1))))) (wf (fC (.int 0)))))) (fAndS (fTst (fOp eqD (wNm 2) (wNm 5))) (fTst (fOp gtD (wf (fOp ixD (wNm 1) (wf (fC (.int 0))))) (wf (fC (.int 0))))))))
      (sRet (ef (fC (.tuple [.int 9, .int 9])))) sNx)
theorem b_near_step_2_def : b_near_step_2 = (sIf (fOrS (fTst (fOp eqD (wNm 1) (wf (fC (.tuple [.int 9, .int 9]))))) (fOrS (fAndS (fTst (fOp eqD (wNm 2) (wNm 4))) (fTst (fOp gtD (wf (fOp ixD (wNm 1) (wf (fC (.int 1))))) (wf (fC (.int 0)))))) (fAndS (fTst (fOp eqD (wNm 2) (wNm 5))) (fTst (fOp gtD (wf (fOp ixD (wNm 1) (wf (fC (.int 0))))) (wf (fC (.int 0))))))))
      (sRet (ef (fC (.tuple [.int 9, .int 9])))) sNx) := by first | rfl
noncomputable def b_near_step_3 : FS := (sRet (ef (fTup (fCons (vf (fCall 3 F_ago [] (aS (fOp ixD (wNm 1) (wf (fC (.int 0)))) (aS (fOp eqD (wNm 2) (wNm 4)) (aS (fVar 6) aNil))))) (fCons (vf (fCall 3 F_ago [] (aS (fOp ixD (wNm 1) (wf (fC (.int 1)))) (aS (fOp eqD (wNm 2) (wNm 5)) (aS (fVar 6) aNil))))) fNil)))))
theorem b_near_step_3_def : b_near_step_3 = (sRet (ef (fTup (fCons (vf (fCall 3 F_ago [] (aS (fOp ixD (wNm 1) (wf (fC (.int 0)))) (aS (fOp eqD (wNm 2) (wNm 4)) (aS (fVar 6) aNil))))) (fCons (vf (fCall 3 F_ago [] (aS (fOp ixD (wNm 1) (wf (fC (.int 1)))) (aS (fOp eqD (wNm 2) (wNm 5)) (aS (fVar 6) aNil))))) fNil))))) := by first | rfl
noncomputable def b_near_step : FS := (sSeq b_near_step_1 (sSeq b_near_step_2 b_near_step_3))
theorem b_near_step_def : b_near_step = (sSeq b_near_step_1 (sSeq b_near_step_2 b_near_step_3)) := by first | rfl
noncomputable def F_near_step : FF := fnF 4 b_near_step
theorem F_near_step_def : F_near_step = fnF 4 b_near_step := by first | rfl
/-- look_step: slots 0 look 1 state 2 thing -/
noncomputable def b_look_step_1 : FS := (sIf (fTst (fOp eqD (wf (fOp ixD (wNm 0) (wf (fC (.int 0))))) (wf (fC (.str "word")))))
      (sRet (ef (fIf (fTst (fOp eqD (wNm 2) (wf (fOp ixD (wNm 0) (wf (fC (.int 1))))))) (fC (.int 1)) (fVar 1)))) sNx)
theorem b_look_step_1_def : b_look_step_1 = (sIf (fTst (fOp eqD (wf (fOp ixD (wNm 0) (wf (fC (.int 0))))) (wf (fC (.str "word")))))
      (sRet (ef (fIf (fTst (fOp eqD (wNm 2) (wf (fOp ixD (wNm 0) (wf (fC (.int 1))))))) (fC (.int 1)) (fVar 1)))) sNx) := by first | rfl
noncomputable def b_look_step_2 : FS := (sIf (fTst (fOp eqD (wf (fOp ixD (wNm 0) (wf (fC (.int 0))))) (wf (fC (.str "starts")))))
      (sRet (ef (fIf (fAndS (fTst (fOp notND (wNm 2) (wf (fC .none)))) (fTru (wf (fOp (strB fun a b => .bool (Txt.startswith a b)) (wNm 2) (wf (fOp ixD (wNm 0) (wf (fC (.int 1))))))))) (fC (.int 1)) (fVar 1)))) sNx)
theorem b_look_step_2_def : b_look_step_2 = (sIf (fTst (fOp eqD (wf (fOp ixD (wNm 0) (wf (fC (.int 0))))) (wf (fC (.str "starts")))))
      (sRet (ef (fIf (fAndS (fTst (fOp notND (wNm 2) (wf (fC .none)))) (fTru (wf (fOp (strB fun a b => .bool (Txt.startswith a b)) (wNm 2) (wf (fOp ixD (wNm 0) (wf (fC (.int 1))))))))) (fC (.int 1)) (fVar 1)))) sNx) := by first | rfl
noncomputable def b_look_step_3 : FS := (sIf (fTst (fOp eqD (wf (fOp ixD (wNm 0) (wf (fC (.int 0))))) (wf (fC (.str "row")))))
      (sRet (fCall 3 F_row_step [] (aS (fOp ixD (wNm 0) (wf (fC (.int 1)))) (aS (fVar 1) (aS (fVar 2) aNil))))) sNx)
theorem b_look_step_3_def : b_look_step_3 = (sIf (fTst (fOp eqD (wf (fOp ixD (wNm 0) (wf (fC (.int 0))))) (wf (fC (.str "row")))))
      (sRet (fCall 3 F_row_step [] (aS (fOp ixD (wNm 0) (wf (fC (.int 1)))) (aS (fVar 1) (aS (fVar 2) aNil))))) sNx) := by first | rfl
noncomputable def b_look_step_4 : FS := (sRet (fCall 3 F_near_step [] (aS (fVar 0) (aS (fVar 1) (aS (fVar 2) aNil)))))
theorem b_look_step_4_def : b_look_step_4 = (sRet (fCall 3 F_near_step [] (aS (fVar 0) (aS (fVar 1) (aS (fVar 2) aNil))))) := by first | rfl
noncomputable def b_look_step : FS := (sSeq b_look_step_1 (sSeq b_look_step_2 (sSeq b_look_step_3 b_look_step_4)))
theorem b_look_step_def : b_look_step = (sSeq b_look_step_1 (sSeq b_look_step_2 (sSeq b_look_step_3 b_look_step_4))) := by first | rfl
noncomputable def F_look_step : FF := fnF 0 b_look_step
theorem F_look_step_def : F_look_step = fnF 0 b_look_step := by first | rfl
/-- step_on: slots 0 looks 1 states 2 thing 3 look 4 state -/
noncomputable def b_step_on : FS := (sRet (ef (fCB tupleD (wCons (wf (vf (fLc (iZp (fCons (fVar 0) (fCons (fVar 1) fNil))) (puTup 2 (puCons (put 3) (puCons (put 4) puNil))) fYes (vf (fCall 3 F_look_step [] (aS (fVar 3) (aS (fVar 4) (aS (fVar 2) aNil))))) [3, 4]))) wNil))))
theorem b_step_on_def : b_step_on = (sRet (ef (fCB tupleD (wCons (wf (vf (fLc (iZp (fCons (fVar 0) (fCons (fVar 1) fNil))) (puTup 2 (puCons (put 3) (puCons (put 4) puNil))) fYes (vf (fCall 3 F_look_step [] (aS (fVar 3) (aS (fVar 4) (aS (fVar 2) aNil))))) [3, 4]))) wNil)))) := by first | rfl
noncomputable def F_step_on : FF := fnF 2 b_step_on
theorem F_step_on_def : F_step_on = fnF 2 b_step_on := by first | rfl
/-- state_behind: slots 0 looks 1 row 2 found 3 thing -/
noncomputable def b_state_behind_1 : FS := (sAsg (fCall 1 F_first_states [] (aS (fVar 0) aNil)) (put 2))
theorem b_state_behind_1_def : b_state_behind_1 = (sAsg (fCall 1 F_first_states [] (aS (fVar 0) aNil)) (put 2)) := by first | rfl
noncomputable def b_state_behind_2 : FS := (sFor (iVal (fVar 1)) (put 3)
      (sAsg (fCall 3 F_step_on [] (aS (fVar 0) (aS (fVar 2) (aS (fVar 3) aNil)))) (put 2)))
theorem b_state_behind_2_def : b_state_behind_2 = (sFor (iVal (fVar 1)) (put 3)
      (sAsg (fCall 3 F_step_on [] (aS (fVar 0) (aS (fVar 2) (aS (fVar 3) aNil)))) (put 2))) := by first | rfl
noncomputable def b_state_behind_3 : FS := (sRet (fMv 2))
theorem b_state_behind_3_def : b_state_behind_3 = (sRet (fMv 2)) := by first | rfl
noncomputable def b_state_behind : FS := (sSeq b_state_behind_1 (sSeq b_state_behind_2 b_state_behind_3))
theorem b_state_behind_def : b_state_behind = (sSeq b_state_behind_1 (sSeq b_state_behind_2 b_state_behind_3)) := by first | rfl
noncomputable def F_state_behind : FF := fnF 2 b_state_behind
theorem F_state_behind_def : F_state_behind = fnF 2 b_state_behind := by first | rfl
/-- check_question: slots 0 value -/
noncomputable def b_check_question_1 : FS := (sIf (fNotS (fTru (wf (vf (fCall 1 F_is_question_by [] (aS (fVar 0) aNil))))))
      sNo sNx)
theorem b_check_question_1_def : b_check_question_1 = (sIf (fNotS (fTru (wf (vf (fCall 1 F_is_question_by [] (aS (fVar 0) aNil))))))
      sNo sNx) := by first | rfl
noncomputable def b_check_question : FS := b_check_question_1
theorem b_check_question_def : b_check_question = b_check_question_1 := by first | rfl
noncomputable def F_check_question : FF := fnF 0 b_check_question
theorem F_check_question_def : F_check_question = fnF 0 b_check_question := by first | rfl
/-- check_two: slots 0 question 1 other -/
noncomputable def b_check_two_1 : FS := (sDrop (vf (fCall 1 F_check_question [] (aS (fVar 0) aNil))))
theorem b_check_two_1_def : b_check_two_1 = (sDrop (vf (fCall 1 F_check_question [] (aS (fVar 0) aNil)))) := by first | rfl
noncomputable def b_check_two_2 : FS := (sDrop (vf (fCall 1 F_check_question [] (aS (fVar 1) aNil))))
theorem b_check_two_2_def : b_check_two_2 = (sDrop (vf (fCall 1 F_check_question [] (aS (fVar 1) aNil)))) := by first | rfl
noncomputable def b_check_two : FS := (sSeq b_check_two_1 b_check_two_2)
theorem b_check_two_def : b_check_two = (sSeq b_check_two_1 b_check_two_2) := by first | rfl
noncomputable def F_check_two : FF := fnF 0 b_check_two
theorem F_check_two_def : F_check_two = fnF 0 b_check_two := by first | rfl
/-- looks_of: slots 0 question 1 other -/
noncomputable def b_looks_of_1 : FS := (sDrop (vf (fCall 2 F_check_two [] (aS (fVar 0) (aS (fVar 1) aNil)))))
theorem b_looks_of_1_def : b_looks_of_1 = (sDrop (vf (fCall 2 F_check_two [] (aS (fVar 0) (aS (fVar 1) aNil))))) := by first | rfl
noncomputable def b_looks_of_2 : FS := (sRet (fCall 2 F_looks_by [] (aS (fVar 0) (aS (fVar 1) aNil))))
theorem b_looks_of_2_def : b_looks_of_2 = (sRet (fCall 2 F_looks_by [] (aS (fVar 0) (aS (fVar 1) aNil)))) := by first | rfl
noncomputable def b_looks_of : FS := (sSeq b_looks_of_1 b_looks_of_2)
theorem b_looks_of_def : b_looks_of = (sSeq b_looks_of_1 b_looks_of_2) := by first | rfl
noncomputable def F_looks_of : FF := fnF 0 b_looks_of
theorem F_looks_of_def : F_looks_of = fnF 0 b_looks_of := by first | rfl
/-- state_of: slots 0 question 1 other 2 row -/
noncomputable def b_state_of_1 : FS := (sDrop (vf (fCall 2 F_check_two [] (aS (fVar 0) (aS (fVar 1) aNil)))))
theorem b_state_of_1_def : b_state_of_1 = (sDrop (vf (fCall 2 F_check_two [] (aS (fVar 0) (aS (fVar 1) aNil))))) := by first | rfl
noncomputable def b_state_of_2 : FS := (sDrop (vf (fCall 1 F_check_row [] (aS (fVar 2) aNil))))
theorem b_state_of_2_def : b_state_of_2 = (sDrop (vf (fCall 1 F_check_row [] (aS (fVar 2) aNil)))) := by first | rfl
noncomputable def b_state_of_3 : FS := (sRet (fCall 2 F_state_behind [] (aS (vf (fCall 2 F_looks_by [] (aS (fVar 0) (aS (fVar 1) aNil)))) (aS (fVar 2) aNil))))
theorem b_state_of_3_def : b_state_of_3 = (sRet (fCall 2 F_state_behind [] (aS (vf (fCall 2 F_looks_by [] (aS (fVar 0) (aS (fVar 1) aNil)))) (aS (fVar 2) aNil)))) := by first | rfl
noncomputable def b_state_of : FS := (sSeq b_state_of_1 (sSeq b_state_of_2 b_state_of_3))
theorem b_state_of_def : b_state_of = (sSeq b_state_of_1 (sSeq b_state_of_2 b_state_of_3)) := by first | rfl
noncomputable def F_state_of : FF := fnF 0 b_state_of
theorem F_state_of_def : F_state_of = fnF 0 b_state_of := by first | rfl
/-- _law_jar: slots 0 script 1 turn 2 stirred 3 each 4 cell -/
noncomputable def b_law_jar_1 : FS := (sAsg (fOpE addD (wf (fC (.int 91009))) (wf (fOp mulI (wf (fC (.int 7027))) (wNm 1)))) (put 2))
theorem b_law_jar_1_def : b_law_jar_1 = (sAsg (fOpE addD (wf (fC (.int 91009))) (wf (fOp mulI (wf (fC (.int 7027))) (wNm 1)))) (put 2)) := by first | rfl
noncomputable def b_law_jar_2 : FS := (sFor (iVal (vf (fSl (wNm 0) oNo (oSo (fC (.int 8)))))) (put 3)
      (sAsg (ef (fOp modD (wf (fCB intD (wCons (wf (vf (fOpE addD (wf (vf (fOpE addD (wf (fOp mulI (wNm 2) (wf (fC (.int 48271))))) (wf (fOp modD (wf (fCB intD (wCons (wNm 3) wNil))) (wf (fC (.int 2147483399)))))))) (wf (fC (.int 31)))))) wNil))) (wf (fC (.int 2147483647))))) (put 2)))
theorem b_law_jar_2_def : b_law_jar_2 = (sFor (iVal (vf (fSl (wNm 0) oNo (oSo (fC (.int 8)))))) (put 3)
      (sAsg (ef (fOp modD (wf (fCB intD (wCons (wf (vf (fOpE addD (wf (vf (fOpE addD (wf (fOp mulI (wNm 2) (wf (fC (.int 48271))))) (wf (fOp modD (wf (fCB intD (wCons (wNm 3) wNil))) (wf (fC (.int 2147483399)))))))) (wf (fC (.int 31)))))) wNil))) (wf (fC (.int 2147483647))))) (put 2))) := by first | rfl
noncomputable def b_law_jar_3 : FS := (sAsg (ef (fIf (fTst (fOp ltD (wNm 1) (wf (fCB lenD (wCons (wNm 0) wNil))))) (fCB intD (wCons (wf (fOp ixD (wNm 0) (wNm 1))) wNil)) (fC (.int 0)))) (put 4))
theorem b_law_jar_3_def : b_law_jar_3 = (sAsg (ef (fIf (fTst (fOp ltD (wNm 1) (wf (fCB lenD (wCons (wNm 0) wNil))))) (fCB intD (wCons (wf (fOp ixD (wNm 0) (wNm 1))) wNil)) (fC (.int 0)))) (put 4)) := by first | rfl
noncomputable def b_law_jar_4 : FS := (sRet (fLst (fCons (fIf (fOrS (fTst (fOp ltD (wNm 4) (wf (fC (.int 0))))) (fTst (fOp geD (wNm 4) (wf (fOp powD (wf (fC (.int 10))) (wf (fC (.int 18)))))))) (fCB absD (wCons (wNm 4) wNil)) (fC (.int 0))) (fCons (fVar 2) (fCons (fC (.int 0)) fNil)))))
theorem b_law_jar_4_def : b_law_jar_4 = (sRet (fLst (fCons (fIf (fOrS (fTst (fOp ltD (wNm 4) (wf (fC (.int 0))))) (fTst (fOp geD (wNm 4) (wf (fOp powD (wf (fC (.int 10))) (wf (fC (.int 18)))))))) (fCB absD (wCons (wNm 4) wNil)) (fC (.int 0))) (fCons (fVar 2) (fCons (fC (.int 0)) fNil))))) := by first | rfl
noncomputable def b_law_jar : FS := (sSeq b_law_jar_1 (sSeq b_law_jar_2 (sSeq b_law_jar_3 b_law_jar_4)))
theorem b_law_jar_def : b_law_jar = (sSeq b_law_jar_1 (sSeq b_law_jar_2 (sSeq b_law_jar_3 b_law_jar_4))) := by first | rfl
noncomputable def F_law_jar : FF := fnF 3 b_law_jar
theorem F_law_jar_def : F_law_jar = fnF 3 b_law_jar := by first | rfl
/-- _law_deal: slots 0 jar 1 many 2 digit -/
noncomputable def b_law_deal_1a_1 : FS := (sAsg (ef (fCB divmodD (wCons (wf (fOp ixD (wNm 0) (wf (fC (.int 0))))) (wCons (wNm 1) wNil)))) (puTup 2 (puCons (fSub 0 (fC (.int 0))) (puCons (put 2) puNil))))
theorem b_law_deal_1a_1_def : b_law_deal_1a_1 = (sAsg (ef (fCB divmodD (wCons (wf (fOp ixD (wNm 0) (wf (fC (.int 0))))) (wCons (wNm 1) wNil)))) (puTup 2 (puCons (fSub 0 (fC (.int 0))) (puCons (put 2) puNil)))) := by first | rfl
noncomputable def b_law_deal_1a_2 : FS := (sRet (fMv 2))
theorem b_law_deal_1a_2_def : b_law_deal_1a_2 = (sRet (fMv 2)) := by first | rfl
noncomputable def b_law_deal_1 : FS := (sIf (fTst (fOp gtD (wf (fOp ixD (wNm 0) (wf (fC (.int 0))))) (wf (fC (.int 0)))))
      (sSeq b_law_deal_1a_1 b_law_deal_1a_2) sNx)
theorem b_law_deal_1_def : b_law_deal_1 = (sIf (fTst (fOp gtD (wf (fOp ixD (wNm 0) (wf (fC (.int 0))))) (wf (fC (.int 0)))))
      (sSeq b_law_deal_1a_1 b_law_deal_1a_2) sNx) := by first | rfl
noncomputable def b_law_deal_2 : FS := (sAsg (fOpE addD (wf (fOp ixD (wNm 0) (wf (fC (.int 2))))) (wf (fC (.int 1)))) (fSub 0 (fC (.int 2))))
theorem b_law_deal_2_def : b_law_deal_2 = (sAsg (fOpE addD (wf (fOp ixD (wNm 0) (wf (fC (.int 2))))) (wf (fC (.int 1)))) (fSub 0 (fC (.int 2)))) := by first | rfl
noncomputable def b_law_deal_3 : FS := (sAsg (ef (fOp modD (wf (fCB intD (wCons (wf (vf (fOpE addD (wf (vf (fOpE addD (wf (fOp mulI (wf (fOp ixD (wNm 0) (wf (fC (.int 1))))) (wf (vf (fOpE addD (wf (fC (.int 40009))) (wf (fOp modD (wf (fCB intD (wCons (wf (fOp ixD (wNm 0) (wf (fC (.int 1))))) wNil))) (wf (fC (.int 9973)))))))))) (wf (fOp mulI (wf (fC (.int 60013))) (wf (fOp ixD (wNm 0) (wf (fC (.int 2)))))))))) (wf (fC (.int 11)))))) wNil))) (wf (fC (.int 2147483647))))) (fSub 0 (fC (.int 1))))
theorem b_law_deal_3_def : b_law_deal_3 = (sAsg (ef (fOp modD (wf (fCB intD (wCons (wf (vf (fOpE addD (wf (vf (fOpE addD (wf (fOp mulI (wf (fOp ixD (wNm 0) (wf (fC (.int 1))))) (wf (vf (fOpE addD (wf (fC (.int 40009))) (wf (fOp modD (wf (fCB intD (wCons (wf (fOp ixD (wNm 0) (wf (fC (.int 1))))) wNil))) (wf (fC (.int 9973)))))))))) (wf (fOp mulI (wf (fC (.int 60013))) (wf (fOp ixD (wNm 0) (wf (fC (.int 2)))))))))) (wf (fC (.int 11)))))) wNil))) (wf (fC (.int 2147483647))))) (fSub 0 (fC (.int 1)))) := by first | rfl
noncomputable def b_law_deal_4 : FS := (sRet (ef (fOp modD (wf (fCB intD (wCons (wf (fOp fdivD (wf (fOp ixD (wNm 0) (wf (fC (.int 1))))) (wf (fC (.int 512))))) wNil))) (wNm 1))))
theorem b_law_deal_4_def : b_law_deal_4 = (sRet (ef (fOp modD (wf (fCB intD (wCons (wf (fOp fdivD (wf (fOp ixD (wNm 0) (wf (fC (.int 1))))) (wf (fC (.int 512))))) wNil))) (wNm 1)))) := by first | rfl
noncomputable def b_law_deal : FS := (sSeq b_law_deal_1 (sSeq b_law_deal_2 (sSeq b_law_deal_3 b_law_deal_4)))
theorem b_law_deal_def : b_law_deal = (sSeq b_law_deal_1 (sSeq b_law_deal_2 (sSeq b_law_deal_3 b_law_deal_4))) := by first | rfl
noncomputable def F_law_deal : FF := fnF 1 b_law_deal
theorem F_law_deal_def : F_law_deal = fnF 1 b_law_deal := by first | rfl
/-- _law_any: slots 0 jar 1 some -/
noncomputable def b_law_any : FS := (sRet (ef (fOp ixD (wNm 1) (wf (vf (fCall 2 F_law_deal [] (aB 0 (aS (fCB lenD (wCons (wNm 1) wNil)) aNil))))))))
theorem b_law_any_def : b_law_any = (sRet (ef (fOp ixD (wNm 1) (wf (vf (fCall 2 F_law_deal [] (aB 0 (aS (fCB lenD (wCons (wNm 1) wNil)) aNil)))))))) := by first | rfl
noncomputable def F_law_any : FF := fnF 0 b_law_any
theorem F_law_any_def : F_law_any = fnF 0 b_law_any := by first | rfl
/-- _law_word: slots 0 jar 1 size 2 signs 3 turn -/
noncomputable def b_law_word_1 : FS := (sAsg (ef (fC (.str "abcdefghijklmnopqrstuvwxyz0123456789"))) (put 2))
theorem b_law_word_1_def : b_law_word_1 = (sAsg (ef (fC (.str "abcdefghijklmnopqrstuvwxyz0123456789"))) (put 2)) := by first | rfl
noncomputable def b_law_word_2 : FS := (sRet (ef (fOp joinD (wf (fC (.str ""))) (wf (vf (fLc (iRn1 (fCons (fVar 1) fNil)) (put 3) fYes (fOp ixD (wNm 2) (wf (vf (fCall 2 F_law_deal [] (aB 0 (aS (fC (.int 36)) aNil)))))) [3]))))))
theorem b_law_word_2_def : b_law_word_2 = (sRet (ef (fOp joinD (wf (fC (.str ""))) (wf (vf (fLc (iRn1 (fCons (fVar 1) fNil)) (put 3) fYes (fOp ixD (wNm 2) (wf (vf (fCall 2 F_law_deal [] (aB 0 (aS (fC (.int 36)) aNil)))))) [3])))))) := by first | rfl
noncomputable def b_law_word : FS := (sSeq b_law_word_1 b_law_word_2)
theorem b_law_word_def : b_law_word = (sSeq b_law_word_1 b_law_word_2) := by first | rfl
noncomputable def F_law_word : FF := fnF 2 b_law_word
theorem F_law_word_def : F_law_word = fnF 2 b_law_word := by first | rfl
/-- _law_pool: slots 0 jar 1 many 2 found 3 turn 4 word 5 sign -/
noncomputable def b_law_pool_2f_1 : FS := (sAsg (fCall 2 F_law_word [] (aB 0 (aS (vf (fCall 2 F_law_any [] (aB 0 (aS (vf (fLst (fCons (fC (.int 1)) (fCons (fC (.int 1)) (fCons (fC (.int 2)) (fCons (fC (.int 2)) (fCons (fC (.int 3)) (fCons (fC (.int 5)) (fCons (fC (.int 12)) fNil))))))))) aNil)))) aNil))) (put 4))
theorem b_law_pool_2f_1_def : b_law_pool_2f_1 = (sAsg (fCall 2 F_law_word [] (aB 0 (aS (vf (fCall 2 F_law_any [] (aB 0 (aS (vf (fLst (fCons (fC (.int 1)) (fCons (fC (.int 1)) (fCons (fC (.int 2)) (fCons (fC (.int 2)) (fCons (fC (.int 3)) (fCons (fC (.int 5)) (fCons (fC (.int 12)) fNil))))))))) aNil)))) aNil))) (put 4)) := by first | rfl
noncomputable def b_law_pool_2f_2 : FS := (sIf (fAndS (fTst (fOp neD (wNm 2) (wf (vf (fLst fNil))))) (fTst (fOp eqD (wf (vf (fCall 2 F_law_deal [] (aB 0 (aS (fC (.int 2)) aNil))))) (wf (fC (.int 0))))))
      (sAsg (fSl (wf (vf (fOpE addD (wf (fOp ixD (wNm 2) (wf (vf (fCall 2 F_law_deal [] (aB 0 (aS (fCB lenD (wCons (wNm 2) wNil)) aNil))))))) (wNm 4)))) oNo (oSo (fC (.int 12)))) (put 4)) sNx)
theorem b_law_pool_2f_2_def : b_law_pool_2f_2 = (sIf (fAndS (fTst (fOp neD (wNm 2) (wf (vf (fLst fNil))))) (fTst (fOp eqD (wf (vf (fCall 2 F_law_deal [] (aB 0 (aS (fC (.int 2)) aNil))))) (wf (fC (.int 0))))))
      (sAsg (fSl (wf (vf (fOpE addD (wf (fOp ixD (wNm 2) (wf (vf (fCall 2 F_law_deal [] (aB 0 (aS (fCB lenD (wCons (wNm 2) wNil)) aNil))))))) (wNm 4)))) oNo (oSo (fC (.int 12)))) (put 4)) sNx) := by first | rfl
noncomputable def b_law_pool_2f_3 : FS := (sIf (fTst (fOp inD (wNm 4) (wNm 2)))
      (sAsg (ef (fOp ixD (wf (vf (fLc (iVal (fC (.str "0123456789"))) (put 5) (fTst (fOp notInD (wf (vf (fOpE addD (wf (vf (fSl (wNm 4) oNo (oSo (fC (.int 11)))))) (wNm 5)))) (wNm 2))) (vf (fOpE addD (wf (vf (fSl (wNm 4) oNo (oSo (fC (.int 11)))))) (wNm 5))) [5]))) (wf (fC (.int 0))))) (put 4)) sNx)
theorem b_law_pool_2f_3_def : b_law_pool_2f_3 = (sIf (fTst (fOp inD (wNm 4) (wNm 2)))
      (sAsg (ef (fOp ixD (wf (vf (fLc (iVal (fC (.str "0123456789"))) (put 5) (fTst (fOp notInD (wf (vf (fOpE addD (wf (vf (fSl (wNm 4) oNo (oSo (fC (.int 11)))))) (wNm 5)))) (wNm 2))) (vf (fOpE addD (wf (vf (fSl (wNm 4) oNo (oSo (fC (.int 11)))))) (wNm 5))) [5]))) (wf (fC (.int 0))))) (put 4)) sNx) := by first | rfl
noncomputable def b_law_pool_2f_4 : FS := (sDrop (fMu 2 apD (fCons (fVar 4) fNil)))
theorem b_law_pool_2f_4_def : b_law_pool_2f_4 = (sDrop (fMu 2 apD (fCons (fVar 4) fNil))) := by first | rfl
noncomputable def b_law_pool_1 : FS := (sAsg (fLst fNil) (put 2))
theorem b_law_pool_1_def : b_law_pool_1 = (sAsg (fLst fNil) (put 2)) := by first | rfl
noncomputable def b_law_pool_2 : FS := (sFor (iRn1 (fCons (fVar 1) fNil)) (put 3)
      (sSeq b_law_pool_2f_1 (sSeq b_law_pool_2f_2 (sSeq b_law_pool_2f_3 b_law_pool_2f_4))))
theorem b_law_pool_2_def : b_law_pool_2 = (sFor (iRn1 (fCons (fVar 1) fNil)) (put 3)
      (sSeq b_law_pool_2f_1 (sSeq b_law_pool_2f_2 (sSeq b_law_pool_2f_3 b_law_pool_2f_4)))) := by first | rfl
noncomputable def b_law_pool_3 : FS := (sRet (fMv 2))
theorem b_law_pool_3_def : b_law_pool_3 = (sRet (fMv 2)) := by first | rfl
noncomputable def b_law_pool : FS := (sSeq b_law_pool_1 (sSeq b_law_pool_2 b_law_pool_3))
theorem b_law_pool_def : b_law_pool = (sSeq b_law_pool_1 (sSeq b_law_pool_2 b_law_pool_3)) := by first | rfl
noncomputable def F_law_pool : FF := fnF 4 b_law_pool
theorem F_law_pool_def : F_law_pool = fnF 4 b_law_pool := by first | rfl
/-- _law_strange: slots 0 jar 1 pool 2 word 3 begin -/
noncomputable def b_law_strange_1 : FS := (sAsg (fCall 2 F_law_any [] (aB 0 (aS (fVar 1) aNil))) (put 2))
theorem b_law_strange_1_def : b_law_strange_1 = (sAsg (fCall 2 F_law_any [] (aB 0 (aS (fVar 1) aNil))) (put 2)) := by first | rfl
noncomputable def b_law_strange_2 : FS := (sAsg (fSl (wNm 2) oNo (oSo (vf (fOpE addD (wf (fC (.int 1))) (wf (vf (fCall 2 F_law_deal [] (aB 0 (aS (fCB lenD (wCons (wNm 2) wNil)) aNil))))))))) (put 3))
theorem b_law_strange_2_def : b_law_strange_2 = (sAsg (fSl (wNm 2) oNo (oSo (vf (fOpE addD (wf (fC (.int 1))) (wf (vf (fCall 2 F_law_deal [] (aB 0 (aS (fCB lenD (wCons (wNm 2) wNil)) aNil))))))))) (put 3)) := by first | rfl
noncomputable def b_law_strange_3 : FS := (sRet (fOpE addD (wf (vf (fCall 2 F_law_any [] (aB 0 (aS (vf (fLst (fCons (fC (.str "")) (fCons (fVar 3) (fCons (fVar 3) (fCons (fVar 2) fNil)))))) aNil))))) (wf (vf (fCall 2 F_law_any [] (aB 0 (aS (vf (fLst (fCons (fC (.str "!")) (fCons (fC (.str "-x")) (fCons (fC (.str "Zz")) (fCons (fC (.str "~~")) fNil)))))) aNil)))))))
theorem b_law_strange_3_def : b_law_strange_3 = (sRet (fOpE addD (wf (vf (fCall 2 F_law_any [] (aB 0 (aS (vf (fLst (fCons (fC (.str "")) (fCons (fVar 3) (fCons (fVar 3) (fCons (fVar 2) fNil)))))) aNil))))) (wf (vf (fCall 2 F_law_any [] (aB 0 (aS (vf (fLst (fCons (fC (.str "!")) (fCons (fC (.str "-x")) (fCons (fC (.str "Zz")) (fCons (fC (.str "~~")) fNil)))))) aNil))))))) := by first | rfl
noncomputable def b_law_strange : FS := (sSeq b_law_strange_1 (sSeq b_law_strange_2 b_law_strange_3))
theorem b_law_strange_def : b_law_strange = (sSeq b_law_strange_1 (sSeq b_law_strange_2 b_law_strange_3)) := by first | rfl
noncomputable def F_law_strange : FF := fnF 2 b_law_strange
theorem F_law_strange_def : F_law_strange = fnF 2 b_law_strange := by first | rfl
/-- _law_row: slots 0 jar 1 pool 2 most 3 found 4 turn 5 way -/
noncomputable def b_law_row_2f_1 : FS := (sAsg (fCall 2 F_law_deal [] (aB 0 (aS (fC (.int 8)) aNil))) (put 5))
theorem b_law_row_2f_1_def : b_law_row_2f_1 = (sAsg (fCall 2 F_law_deal [] (aB 0 (aS (fC (.int 8)) aNil))) (put 5)) := by first | rfl
noncomputable def b_law_row_2f_2 : FS := (sDrop (fMu 3 apD (fCons (vf (fIf (fTst (fOp eqD (wNm 5) (wf (fC (.int 0))))) (ef (fC .none)) (fIf (fTst (fOp eqD (wNm 5) (wf (fC (.int 1))))) (fCall 2 F_law_strange [] (aB 0 (aS (fVar 1) aNil))) (fCall 2 F_law_any [] (aB 0 (aS (fVar 1) aNil)))))) fNil)))
theorem b_law_row_2f_2_def : b_law_row_2f_2 = (sDrop (fMu 3 apD (fCons (vf (fIf (fTst (fOp eqD (wNm 5) (wf (fC (.int 0))))) (ef (fC .none)) (fIf (fTst (fOp eqD (wNm 5) (wf (fC (.int 1))))) (fCall 2 F_law_strange [] (aB 0 (aS (fVar 1) aNil))) (fCall 2 F_law_any [] (aB 0 (aS (fVar 1) aNil)))))) fNil))) := by first | rfl
noncomputable def b_law_row_1 : FS := (sAsg (fLst fNil) (put 3))
theorem b_law_row_1_def : b_law_row_1 = (sAsg (fLst fNil) (put 3)) := by first | rfl
noncomputable def b_law_row_2 : FS := (sFor (iRn1 (fCons (vf (fCall 2 F_law_deal [] (aB 0 (aS (vf (fOpE addD (wNm 2) (wf (fC (.int 1))))) aNil)))) fNil)) (put 4)
      (sSeq b_law_row_2f_1 b_law_row_2f_2))
theorem b_law_row_2_def : b_law_row_2 = (sFor (iRn1 (fCons (vf (fCall 2 F_law_deal [] (aB 0 (aS (vf (fOpE addD (wNm 2) (wf (fC (.int 1))))) aNil)))) fNil)) (put 4)
      (sSeq b_law_row_2f_1 b_law_row_2f_2)) := by first | rfl
noncomputable def b_law_row_3 : FS := (sRet (ef (fCB tupleD (wCons (wNm 3) wNil))))
theorem b_law_row_3_def : b_law_row_3 = (sRet (ef (fCB tupleD (wCons (wNm 3) wNil)))) := by first | rfl
noncomputable def b_law_row : FS := (sSeq b_law_row_1 (sSeq b_law_row_2 b_law_row_3))
theorem b_law_row_def : b_law_row = (sSeq b_law_row_1 (sSeq b_law_row_2 b_law_row_3)) := by first | rfl
noncomputable def F_law_row : FF := fnF 3 b_law_row
theorem F_law_row_def : F_law_row = fnF 3 b_law_row := by first | rfl
/-- _law_atom: slots 0 jar 1 pool 2 kind 3 field 4 word 5 turn -/
noncomputable def b_law_atom_3a_1 : FS := (sAsg (fCall 2 F_law_any [] (aB 0 (aS (fVar 1) aNil))) (put 4))
theorem b_law_atom_3a_1_def : b_law_atom_3a_1 = (sAsg (fCall 2 F_law_any [] (aB 0 (aS (fVar 1) aNil))) (put 4)) := by first | rfl
noncomputable def b_law_atom_3a_2 : FS := (sRet (ef (fTup (fCons (fVar 2) (fCons (fVar 3) (fCons (vf (fSl (wNm 4) oNo (oSo (vf (fOpE addD (wf (fC (.int 1))) (wf (vf (fCall 2 F_law_deal [] (aB 0 (aS (fCB minD (wCons (wf (fCB lenD (wCons (wNm 4) wNil))) (wCons (wf (fC (.int 6))) wNil))) aNil)))))))))) fNil))))))
theorem b_law_atom_3a_2_def : b_law_atom_3a_2 = (sRet (ef (fTup (fCons (fVar 2) (fCons (fVar 3) (fCons (vf (fSl (wNm 4) oNo (oSo (vf (fOpE addD (wf (fC (.int 1))) (wf (vf (fCall 2 F_law_deal [] (aB 0 (aS (fCB minD (wCons (wf (fCB lenD (wCons (wNm 4) wNil))) (wCons (wf (fC (.int 6))) wNil))) aNil)))))))))) fNil)))))) := by first | rfl
noncomputable def b_law_atom_1 : FS := (sPar [2, 3] (aE (fCall 2 F_law_any [] (aB 0 (aS (vf (fLst (fCons (fC (.str "word")) (fCons (fC (.str "word")) (fCons (fC (.str "starts")) (fCons (fC (.str "row")) (fCons (fC (.str "near")) fNil))))))) aNil))) (aE (fCall 2 F_law_any [] (aB 0 (aS (vf (fLst (fCons (fC (.str "head")) (fCons (fC (.str "body")) (fCons (fC (.str "any")) fNil))))) aNil))) aNil)))
theorem b_law_atom_1_def : b_law_atom_1 = (sPar [2, 3] (aE (fCall 2 F_law_any [] (aB 0 (aS (vf (fLst (fCons (fC (.str "word")) (fCons (fC (.str "word")) (fCons (fC (.str "starts")) (fCons (fC (.str "row")) (fCons (fC (.str "near")) fNil))))))) aNil))) (aE (fCall 2 F_law_any [] (aB 0 (aS (vf (fLst (fCons (fC (.str "head")) (fCons (fC (.str "body")) (fCons (fC (.str "any")) fNil))))) aNil))) aNil))) := by first | rfl
noncomputable def b_law_atom_2 : FS := (sIf (fTst (fOp eqD (wNm 2) (wf (fC (.str "word")))))
      (sRet (ef (fTup (fCons (fVar 2) (fCons (fVar 3) (fCons (vf (fCall 2 F_law_any [] (aB 0 (aS (fVar 1) aNil)))) fNil)))))) sNx)
theorem b_law_atom_2_def : b_law_atom_2 = (sIf (fTst (fOp eqD (wNm 2) (wf (fC (.str "word")))))
      (sRet (ef (fTup (fCons (fVar 2) (fCons (fVar 3) (fCons (vf (fCall 2 F_law_any [] (aB 0 (aS (fVar 1) aNil)))) fNil)))))) sNx) := by first | rfl
noncomputable def b_law_atom_3 : FS := (sIf (fTst (fOp eqD (wNm 2) (wf (fC (.str "starts")))))
      (sSeq b_law_atom_3a_1 b_law_atom_3a_2) sNx)
theorem b_law_atom_3_def : b_law_atom_3 = (sIf (fTst (fOp eqD (wNm 2) (wf (fC (.str "starts")))))
      (sSeq b_law_atom_3a_1 b_law_atom_3a_2) sNx) := by first | rfl
noncomputable def b_law_atom_4 : FS := (sIf (fTst (fOp eqD (wNm 2) (wf (fC (.str "row")))))
      (sRet (ef (fTup (fCons (fVar 2) (fCons (fVar 3) (fCons (fCB tupleD (wCons (wf (vf (fLc (iRn1 (fCons (vf (fOpE addD (wf (fC (.int 2))) (wf (vf (fCall 2 F_law_any [] (aB 0 (aS (vf (fLst (fCons (fC (.int 0)) (fCons (fC (.int 0)) (fCons (fC (.int 1)) (fCons (fC (.int 2)) fNil)))))) aNil))))))) fNil)) (put 5) fYes (vf (fCall 2 F_law_any [] (aB 0 (aS (fVar 1) aNil)))) [5]))) wNil)) fNil)))))) sNx)
theorem b_law_atom_4_def : b_law_atom_4 = (sIf (fTst (fOp eqD (wNm 2) (wf (fC (.str "row")))))
      (sRet (ef (fTup (fCons (fVar 2) (fCons (fVar 3) (fCons (fCB tupleD (wCons (wf (vf (fLc (iRn1 (fCons (vf (fOpE addD (wf (fC (.int 2))) (wf (vf (fCall 2 F_law_any [] (aB 0 (aS (vf (fLst (fCons (fC (.int 0)) (fCons (fC (.int 0)) (fCons (fC (.int 1)) (fCons (fC (.int 2)) fNil)))))) aNil))))))) fNil)) (put 5) fYes (vf (fCall 2 F_law_any [] (aB 0 (aS (fVar 1) aNil)))) [5]))) wNil)) fNil)))))) sNx) := by first | rfl
noncomputable def b_law_atom_5 : FS := (sRet (ef (fTup (fCons (fVar 2) (fCons (fVar 3) (fCons (vf (fCall 2 F_law_any [] (aB 0 (aS (fVar 1) aNil)))) (fCons (vf (fCall 2 F_law_any [] (aB 0 (aS (fVar 1) aNil)))) (fCons (vf (fOpE addD (wf (fC (.int 1))) (wf (vf (fCall 2 F_law_deal [] (aB 0 (aS (fC (.int 6)) aNil))))))) fNil))))))))
theorem b_law_atom_5_def : b_law_atom_5 = (sRet (ef (fTup (fCons (fVar 2) (fCons (fVar 3) (fCons (vf (fCall 2 F_law_any [] (aB 0 (aS (fVar 1) aNil)))) (fCons (vf (fCall 2 F_law_any [] (aB 0 (aS (fVar 1) aNil)))) (fCons (vf (fOpE addD (wf (fC (.int 1))) (wf (vf (fCall 2 F_law_deal [] (aB 0 (aS (fC (.int 6)) aNil))))))) fNil)))))))) := by first | rfl
noncomputable def b_law_atom : FS := (sSeq b_law_atom_1 (sSeq b_law_atom_2 (sSeq b_law_atom_3 (sSeq b_law_atom_4 b_law_atom_5))))
theorem b_law_atom_def : b_law_atom = (sSeq b_law_atom_1 (sSeq b_law_atom_2 (sSeq b_law_atom_3 (sSeq b_law_atom_4 b_law_atom_5)))) := by first | rfl
noncomputable def F_law_atom : FF := fnF 4 b_law_atom
theorem F_law_atom_def : F_law_atom = fnF 4 b_law_atom := by first | rfl
/-- _law_question: slots 0 jar 1 pool 2 levels 3 left 4 way 5 found 6 turn -/
noncomputable def b_law_question_3a_1 (Fs : FF) : FS := (sAsg (ef (fOp subD (wf (fOp ixD (wNm 3) (wf (fC (.int 1))))) (wf (fC (.int 1))))) (fSub 3 (fC (.int 1))))
theorem b_law_question_3a_1_def (Fs : FF) : b_law_question_3a_1 Fs = (sAsg (ef (fOp subD (wf (fOp ixD (wNm 3) (wf (fC (.int 1))))) (wf (fC (.int 1))))) (fSub 3 (fC (.int 1)))) := by first | rfl
noncomputable def b_law_question_3a_2 (Fs : FF) : FS := (sRet (fCall 2 F_law_atom [] (aB 0 (aS (fVar 1) aNil))))
theorem b_law_question_3a_2_def (Fs : FF) : b_law_question_3a_2 Fs = (sRet (fCall 2 F_law_atom [] (aB 0 (aS (fVar 1) aNil)))) := by first | rfl
noncomputable def b_law_question_6f_1 (Fs : FF) : FS := (sIf (fOrS (fTst (fOp eqD (wNm 6) (wf (fC (.int 0))))) (fAndS (fTst (fOp gtD (wf (fOp ixD (wNm 3) (wf (fC (.int 0))))) (wf (fC (.int 1))))) (fTst (fOp gtD (wf (fOp ixD (wNm 3) (wf (fC (.int 1))))) (wf (fC (.int 1)))))))
      (sDrop (fMu 5 apD (fCons (vf (fCall 4 Fs [] (aB 0 (aS (fVar 1) (aS (fOp subD (wNm 2) (wf (fC (.int 1)))) (aB 3 aNil)))))) fNil))) sNx)
theorem b_law_question_6f_1_def (Fs : FF) : b_law_question_6f_1 Fs = (sIf (fOrS (fTst (fOp eqD (wNm 6) (wf (fC (.int 0))))) (fAndS (fTst (fOp gtD (wf (fOp ixD (wNm 3) (wf (fC (.int 0))))) (wf (fC (.int 1))))) (fTst (fOp gtD (wf (fOp ixD (wNm 3) (wf (fC (.int 1))))) (wf (fC (.int 1)))))))
      (sDrop (fMu 5 apD (fCons (vf (fCall 4 Fs [] (aB 0 (aS (fVar 1) (aS (fOp subD (wNm 2) (wf (fC (.int 1)))) (aB 3 aNil)))))) fNil))) sNx) := by first | rfl
noncomputable def b_law_question_1 (Fs : FF) : FS := (sAsg (ef (fOp subD (wf (fOp ixD (wNm 3) (wf (fC (.int 0))))) (wf (fC (.int 1))))) (fSub 3 (fC (.int 0))))
theorem b_law_question_1_def (Fs : FF) : b_law_question_1 Fs = (sAsg (ef (fOp subD (wf (fOp ixD (wNm 3) (wf (fC (.int 0))))) (wf (fC (.int 1))))) (fSub 3 (fC (.int 0)))) := by first | rfl
noncomputable def b_law_question_2 (Fs : FF) : FS := (sAsg (fCall 2 F_law_deal [] (aB 0 (aS (fC (.int 5)) aNil))) (put 4))
theorem b_law_question_2_def (Fs : FF) : b_law_question_2 Fs = (sAsg (fCall 2 F_law_deal [] (aB 0 (aS (fC (.int 5)) aNil))) (put 4)) := by first | rfl
noncomputable def b_law_question_3 (Fs : FF) : FS := (sIf (fOrS (fTst (fOp eqD (wNm 2) (wf (fC (.int 1))))) (fOrS (fTst (fOp ltD (wf (fOp ixD (wNm 3) (wf (fC (.int 0))))) (wf (fC (.int 2))))) (fOrS (fTst (fOp ltD (wf (fOp ixD (wNm 3) (wf (fC (.int 1))))) (wf (fC (.int 2))))) (fTst (fOp eqD (wNm 4) (wf (fC (.int 0))))))))
      (sSeq (b_law_question_3a_1 Fs) (b_law_question_3a_2 Fs)) sNx)
theorem b_law_question_3_def (Fs : FF) : b_law_question_3 Fs = (sIf (fOrS (fTst (fOp eqD (wNm 2) (wf (fC (.int 1))))) (fOrS (fTst (fOp ltD (wf (fOp ixD (wNm 3) (wf (fC (.int 0))))) (wf (fC (.int 2))))) (fOrS (fTst (fOp ltD (wf (fOp ixD (wNm 3) (wf (fC (.int 1))))) (wf (fC (.int 2))))) (fTst (fOp eqD (wNm 4) (wf (fC (.int 0))))))))
      (sSeq (b_law_question_3a_1 Fs) (b_law_question_3a_2 Fs)) sNx) := by first | rfl
noncomputable def b_law_question_4 (Fs : FF) : FS := (sIf (fTst (fOp eqD (wNm 4) (wf (fC (.int 1)))))
      (sRet (ef (fTup (fCons (fC (.str "not")) (fCons (vf (fCall 4 Fs [] (aB 0 (aS (fVar 1) (aS (fOp subD (wNm 2) (wf (fC (.int 1)))) (aB 3 aNil)))))) fNil))))) sNx)
theorem b_law_question_4_def (Fs : FF) : b_law_question_4 Fs = (sIf (fTst (fOp eqD (wNm 4) (wf (fC (.int 1)))))
      (sRet (ef (fTup (fCons (fC (.str "not")) (fCons (vf (fCall 4 Fs [] (aB 0 (aS (fVar 1) (aS (fOp subD (wNm 2) (wf (fC (.int 1)))) (aB 3 aNil)))))) fNil))))) sNx) := by first | rfl
noncomputable def b_law_question_5 (Fs : FF) : FS := (sAsg (fLst fNil) (put 5))
theorem b_law_question_5_def (Fs : FF) : b_law_question_5 Fs = (sAsg (fLst fNil) (put 5)) := by first | rfl
noncomputable def b_law_question_6 (Fs : FF) : FS := (sFor (iRn1 (fCons (vf (fOpE addD (wf (fC (.int 1))) (wf (vf (fCall 2 F_law_deal [] (aB 0 (aS (fC (.int 4)) aNil))))))) fNil)) (put 6)
      (b_law_question_6f_1 Fs))
theorem b_law_question_6_def (Fs : FF) : b_law_question_6 Fs = (sFor (iRn1 (fCons (vf (fOpE addD (wf (fC (.int 1))) (wf (vf (fCall 2 F_law_deal [] (aB 0 (aS (fC (.int 4)) aNil))))))) fNil)) (put 6)
      (b_law_question_6f_1 Fs)) := by first | rfl
noncomputable def b_law_question_7 (Fs : FF) : FS := (sRet (ef (fTup (fCons (vf (fCall 2 F_law_any [] (aB 0 (aS (vf (fLst (fCons (fC (.str "all")) (fCons (fC (.str "any")) fNil)))) aNil)))) (fCons (fCB tupleD (wCons (wNm 5) wNil)) fNil)))))
theorem b_law_question_7_def (Fs : FF) : b_law_question_7 Fs = (sRet (ef (fTup (fCons (vf (fCall 2 F_law_any [] (aB 0 (aS (vf (fLst (fCons (fC (.str "all")) (fCons (fC (.str "any")) fNil)))) aNil)))) (fCons (fCB tupleD (wCons (wNm 5) wNil)) fNil))))) := by first | rfl
noncomputable def b_law_question (Fs : FF) : FS := (sSeq (b_law_question_1 Fs) (sSeq (b_law_question_2 Fs) (sSeq (b_law_question_3 Fs) (sSeq (b_law_question_4 Fs) (sSeq (b_law_question_5 Fs) (sSeq (b_law_question_6 Fs) (b_law_question_7 Fs)))))))
theorem b_law_question_def (Fs : FF) : b_law_question Fs = (sSeq (b_law_question_1 Fs) (sSeq (b_law_question_2 Fs) (sSeq (b_law_question_3 Fs) (sSeq (b_law_question_4 Fs) (sSeq (b_law_question_5 Fs) (sSeq (b_law_question_6 Fs) (b_law_question_7 Fs))))))) := by first | rfl
noncomputable def F_law_question : Nat → FF
  | 0 => noF
  | m + 1 => fnF 3 (b_law_question (F_law_question m))
theorem F_law_question_def (m : Nat) : F_law_question (m + 1) = fnF 3 (b_law_question (F_law_question m)) := by first | rfl
/-- _law_asked: slots 0 jar 1 pool 2 nodes 3 leaves -/
noncomputable def b_law_asked_1 : FS := (sAsg (fCall 2 F_law_any [] (aB 0 (aS (vf (fLst (fCons (fTup (fCons (fC (.int 1)) (fCons (fC (.int 1)) fNil))) (fCons (fTup (fCons (fC (.int 4)) (fCons (fC (.int 3)) fNil))) (fCons (fTup (fCons (fC (.int 7)) (fCons (fC (.int 4)) fNil))) (fCons (fTup (fCons (fC (.int 12)) (fCons (fC (.int 6)) fNil))) fNil)))))) aNil))) (puTup 2 (puCons (put 2) (puCons (put 3) puNil))))
theorem b_law_asked_1_def : b_law_asked_1 = (sAsg (fCall 2 F_law_any [] (aB 0 (aS (vf (fLst (fCons (fTup (fCons (fC (.int 1)) (fCons (fC (.int 1)) fNil))) (fCons (fTup (fCons (fC (.int 4)) (fCons (fC (.int 3)) fNil))) (fCons (fTup (fCons (fC (.int 7)) (fCons (fC (.int 4)) fNil))) (fCons (fTup (fCons (fC (.int 12)) (fCons (fC (.int 6)) fNil))) fNil)))))) aNil))) (puTup 2 (puCons (put 2) (puCons (put 3) puNil)))) := by first | rfl
noncomputable def b_law_asked_2 : FS := (sRet (fCall 4 (F_law_question 5) [] (aB 0 (aS (fVar 1) (aS (fC (.int 4)) (aE (fLst (fCons (fVar 2) (fCons (fVar 3) fNil))) aNil))))))
theorem b_law_asked_2_def : b_law_asked_2 = (sRet (fCall 4 (F_law_question 5) [] (aB 0 (aS (fVar 1) (aS (fC (.int 4)) (aE (fLst (fCons (fVar 2) (fCons (fVar 3) fNil))) aNil)))))) := by first | rfl
noncomputable def b_law_asked : FS := (sSeq b_law_asked_1 b_law_asked_2)
theorem b_law_asked_def : b_law_asked = (sSeq b_law_asked_1 b_law_asked_2) := by first | rfl
noncomputable def F_law_asked : FF := fnF 2 b_law_asked
theorem F_law_asked_def : F_law_asked = fnF 2 b_law_asked := by first | rfl
/-- _law_atoms: slots 0 question 1 found 2 each -/
noncomputable def b_law_atoms_2a_1 (Fs : FF) : FS := (sAsg (fLst fNil) (put 1))
theorem b_law_atoms_2a_1_def (Fs : FF) : b_law_atoms_2a_1 Fs = (sAsg (fLst fNil) (put 1)) := by first | rfl
noncomputable def b_law_atoms_2a_2 (Fs : FF) : FS := (sFor (iVal (fOp ixD (wNm 0) (wf (fC (.int 1))))) (put 2)
      (sAsg (fOpE addD (wNm 1) (wf (vf (fCall 1 Fs [] (aS (fVar 2) aNil))))) (put 1)))
theorem b_law_atoms_2a_2_def (Fs : FF) : b_law_atoms_2a_2 Fs = (sFor (iVal (fOp ixD (wNm 0) (wf (fC (.int 1))))) (put 2)
      (sAsg (fOpE addD (wNm 1) (wf (vf (fCall 1 Fs [] (aS (fVar 2) aNil))))) (put 1))) := by first | rfl
noncomputable def b_law_atoms_2a_3 (Fs : FF) : FS := (sRet (fMv 1))
theorem b_law_atoms_2a_3_def (Fs : FF) : b_law_atoms_2a_3 Fs = (sRet (fMv 1)) := by first | rfl
noncomputable def b_law_atoms_1 (Fs : FF) : FS := (sIf (fTst (fOp eqD (wf (fOp ixD (wNm 0) (wf (fC (.int 0))))) (wf (fC (.str "not")))))
      (sRet (fCall 1 Fs [] (aS (fOp ixD (wNm 0) (wf (fC (.int 1)))) aNil))) sNx)
theorem b_law_atoms_1_def (Fs : FF) : b_law_atoms_1 Fs = (sIf (fTst (fOp eqD (wf (fOp ixD (wNm 0) (wf (fC (.int 0))))) (wf (fC (.str "not")))))
      (sRet (fCall 1 Fs [] (aS (fOp ixD (wNm 0) (wf (fC (.int 1)))) aNil))) sNx) := by first | rfl
noncomputable def b_law_atoms_2 (Fs : FF) : FS := (sIf (fAndS (fTst (fOp inD (wf (fOp ixD (wNm 0) (wf (fC (.int 0))))) (wf (fTup (fCons (fC (.str "all")) (fCons (fC (.str "any")) fNil)))))) (fTru (wf (fUn (isiD "tuple") (wf (fOp ixD (wNm 0) (wf (fC (.int 1)))))))))
      (sSeq (b_law_atoms_2a_1 Fs) (sSeq (b_law_atoms_2a_2 Fs) (b_law_atoms_2a_3 Fs))) sNx)
theorem b_law_atoms_2_def (Fs : FF) : b_law_atoms_2 Fs = (sIf (fAndS (fTst (fOp inD (wf (fOp ixD (wNm 0) (wf (fC (.int 0))))) (wf (fTup (fCons (fC (.str "all")) (fCons (fC (.str "any")) fNil)))))) (fTru (wf (fUn (isiD "tuple") (wf (fOp ixD (wNm 0) (wf (fC (.int 1)))))))))
      (sSeq (b_law_atoms_2a_1 Fs) (sSeq (b_law_atoms_2a_2 Fs) (b_law_atoms_2a_3 Fs))) sNx) := by first | rfl
noncomputable def b_law_atoms_3 (Fs : FF) : FS := (sRet (fLst (fCons (fVar 0) fNil)))
theorem b_law_atoms_3_def (Fs : FF) : b_law_atoms_3 Fs = (sRet (fLst (fCons (fVar 0) fNil))) := by first | rfl
noncomputable def b_law_atoms (Fs : FF) : FS := (sSeq (b_law_atoms_1 Fs) (sSeq (b_law_atoms_2 Fs) (b_law_atoms_3 Fs)))
theorem b_law_atoms_def (Fs : FF) : b_law_atoms Fs = (sSeq (b_law_atoms_1 Fs) (sSeq (b_law_atoms_2 Fs) (b_law_atoms_3 Fs))) := by first | rfl
noncomputable def F_law_atoms : Nat → FF
  | 0 => noF
  | m + 1 => fnF 2 (b_law_atoms (F_law_atoms m))
theorem F_law_atoms_def (m : Nat) : F_law_atoms (m + 1) = fnF 2 (b_law_atoms (F_law_atoms m)) := by first | rfl
/-- _law_once: slots 0 some 1 found 2 each -/
noncomputable def b_law_once_2f_1 : FS := (sIf (fTst (fOp notInD (wNm 2) (wNm 1)))
      (sDrop (fMu 1 apD (fCons (fVar 2) fNil))) sNx)
theorem b_law_once_2f_1_def : b_law_once_2f_1 = (sIf (fTst (fOp notInD (wNm 2) (wNm 1)))
      (sDrop (fMu 1 apD (fCons (fVar 2) fNil))) sNx) := by first | rfl
noncomputable def b_law_once_1 : FS := (sAsg (fLst fNil) (put 1))
theorem b_law_once_1_def : b_law_once_1 = (sAsg (fLst fNil) (put 1)) := by first | rfl
noncomputable def b_law_once_2 : FS := (sFor (iVal (fVar 0)) (put 2)
      b_law_once_2f_1)
theorem b_law_once_2_def : b_law_once_2 = (sFor (iVal (fVar 0)) (put 2)
      b_law_once_2f_1) := by first | rfl
noncomputable def b_law_once_3 : FS := (sRet (fMv 1))
theorem b_law_once_3_def : b_law_once_3 = (sRet (fMv 1)) := by first | rfl
noncomputable def b_law_once : FS := (sSeq b_law_once_1 (sSeq b_law_once_2 b_law_once_3))
theorem b_law_once_def : b_law_once = (sSeq b_law_once_1 (sSeq b_law_once_2 b_law_once_3)) := by first | rfl
noncomputable def F_law_once : FF := fnF 2 b_law_once
theorem F_law_once_def : F_law_once = fnF 2 b_law_once := by first | rfl
/-- _law_look: slots 0 atom -/
noncomputable def b_law_look : FS := (sRet (fOpE addD (wf (fTup (fCons (fOp ixD (wNm 0) (wf (fC (.int 0)))) fNil))) (wf (vf (fSl (wNm 0) (oSo (fC (.int 2))) oNo)))))
theorem b_law_look_def : b_law_look = (sRet (fOpE addD (wf (fTup (fCons (fOp ixD (wNm 0) (wf (fC (.int 0)))) fNil))) (wf (vf (fSl (wNm 0) (oSo (fC (.int 2))) oNo))))) := by first | rfl
noncomputable def F_law_look : FF := fnF 0 b_law_look
theorem F_law_look_def : F_law_look = fnF 0 b_law_look := by first | rfl
/-- _law_is_true_of: slots 0 look 1 row 2 ones 3 twos 4 k 5 each 6 j -/
noncomputable def b_law_is_true_of_1 : FS := (sIf (fTst (fOp eqD (wf (fOp ixD (wNm 0) (wf (fC (.int 0))))) (wf (fC (.str "word")))))
      (sRet (ef (fOp inD (wf (fOp ixD (wNm 0) (wf (fC (.int 1))))) (wNm 1)))) sNx)
theorem b_law_is_true_of_1_def : b_law_is_true_of_1 = (sIf (fTst (fOp eqD (wf (fOp ixD (wNm 0) (wf (fC (.int 0))))) (wf (fC (.str "word")))))
      (sRet (ef (fOp inD (wf (fOp ixD (wNm 0) (wf (fC (.int 1))))) (wNm 1)))) sNx) := by first | rfl
noncomputable def b_law_is_true_of_2 : FS := (sIf (fTst (fOp eqD (wf (fOp ixD (wNm 0) (wf (fC (.int 0))))) (wf (fC (.str "starts")))))
      (sRet (ef (fOp neD (wf (vf (fLc (iVal (fVar 1)) (put 5) (fAndS (fTst (fOp notND (wNm 5) (wf (fC .none)))) (fTst (fOp eqD (wf (vf (fSl (wNm 5) oNo (oSo (fCB lenD (wCons (wf (fOp ixD (wNm 0) (wf (fC (.int 1))))) wNil)))))) (wf (fOp ixD (wNm 0) (wf (fC (.int 1)))))))) (fVar 5) [5]))) (wf (vf (fLst fNil)))))) sNx)
theorem b_law_is_true_of_2_def : b_law_is_true_of_2 = (sIf (fTst (fOp eqD (wf (fOp ixD (wNm 0) (wf (fC (.int 0))))) (wf (fC (.str "starts")))))
      (sRet (ef (fOp neD (wf (vf (fLc (iVal (fVar 1)) (put 5) (fAndS (fTst (fOp notND (wNm 5) (wf (fC .none)))) (fTst (fOp eqD (wf (vf (fSl (wNm 5) oNo (oSo (fCB lenD (wCons (wf (fOp ixD (wNm 0) (wf (fC (.int 1))))) wNil)))))) (wf (fOp ixD (wNm 0) (wf (fC (.int 1)))))))) (fVar 5) [5]))) (wf (vf (fLst fNil)))))) sNx) := by first | rfl
noncomputable def b_law_is_true_of_3 : FS := (sIf (fTst (fOp eqD (wf (fOp ixD (wNm 0) (wf (fC (.int 0))))) (wf (fC (.str "row")))))
      (sRet (ef (fOp neD (wf (vf (fLc (iRn1 (fCons (fCB lenD (wCons (wNm 1) wNil)) fNil)) (put 4) (fTst (fOp eqD (wf (vf (fSl (wNm 1) (oSo (fVar 4)) (oSo (vf (fOpE addD (wNm 4) (wf (fCB lenD (wCons (wf (fOp ixD (wNm 0) (wf (fC (.int 1))))) wNil))))))))) (wf (fOp ixD (wNm 0) (wf (fC (.int 1))))))) (fVar 4) [4]))) (wf (vf (fLst fNil)))))) sNx)
theorem b_law_is_true_of_3_def : b_law_is_true_of_3 = (sIf (fTst (fOp eqD (wf (fOp ixD (wNm 0) (wf (fC (.int 0))))) (wf (fC (.str "row")))))
      (sRet (ef (fOp neD (wf (vf (fLc (iRn1 (fCons (fCB lenD (wCons (wNm 1) wNil)) fNil)) (put 4) (fTst (fOp eqD (wf (vf (fSl (wNm 1) (oSo (fVar 4)) (oSo (vf (fOpE addD (wNm 4) (wf (fCB lenD (wCons (wf (fOp ixD (wNm 0) (wf (fC (.int 1))))) wNil))))))))) (wf (fOp ixD (wNm 0) (wf (fC (.int 1))))))) (fVar 4) [4]))) (wf (vf (fLst fNil)))))) sNx) := by first | rfl
noncomputable def b_law_is_true_of_4 : FS := (sAsg (ef (fTup (fCons (vf (fLc (iRn1 (fCons (fCB lenD (wCons (wNm 1) wNil)) fNil)) (put 4) (fTst (fOp eqD (wf (fOp ixD (wNm 1) (wNm 4))) (wf (fOp ixD (wNm 0) (wf (fC (.int 1))))))) (fVar 4) [4])) (fCons (vf (fLc (iRn1 (fCons (fCB lenD (wCons (wNm 1) wNil)) fNil)) (put 4) (fTst (fOp eqD (wf (fOp ixD (wNm 1) (wNm 4))) (wf (fOp ixD (wNm 0) (wf (fC (.int 2))))))) (fVar 4) [4])) fNil)))) (puTup 2 (puCons (put 2) (puCons (put 3) puNil))))
theorem b_law_is_true_of_4_def : b_law_is_true_of_4 = (sAsg (ef (fTup (fCons (vf (fLc (iRn1 (fCons (fCB lenD (wCons (wNm 1) wNil)) fNil)) (put 4) (fTst (fOp eqD (wf (fOp ixD (wNm 1) (wNm 4))) (wf (fOp ixD (wNm 0) (wf (fC (.int 1))))))) (fVar 4) [4])) (fCons (vf (fLc (iRn1 (fCons (fCB lenD (wCons (wNm 1) wNil)) fNil)) (put 4) (fTst (fOp eqD (wf (fOp ixD (wNm 1) (wNm 4))) (wf (fOp ixD (wNm 0) (wf (fC (.int 2))))))) (fVar 4) [4])) fNil)))) (puTup 2 (puCons (put 2) (puCons (put 3) puNil)))) := by first | rfl
noncomputable def b_law_is_true_of_5 : FS := (sRet (ef (fCB anyD (wCons (wf (vf (fLc (iVal (fVar 2)) (put 4) fYes (fOp neD (wf (vf (fLc (iVal (fVar 3)) (put 6) (fAndS (fTst (fOp neD (wNm 6) (wNm 4))) (fTst (fOp leD' (wf (fCB absD (wCons (wf (fOp subD (wNm 6) (wNm 4))) wNil))) (wf (fOp ixD (wNm 0) (wf (fC (.int 3)))))))) (fVar 6) [6]))) (wf (vf (fLst fNil)))) [4]))) wNil))))
theorem b_law_is_true_of_5_def : b_law_is_true_of_5 = (sRet (ef (fCB anyD (wCons (wf (vf (fLc (iVal (fVar 2)) (put 4) fYes (fOp neD (wf (vf (fLc (iVal (fVar 3)) (put 6) (fAndS (fTst (fOp neD (wNm 6) (wNm 4))) (fTst (fOp leD' (wf (fCB absD (wCons (wf (fOp subD (wNm 6) (wNm 4))) wNil))) (wf (fOp ixD (wNm 0) (wf (fC (.int 3)))))))) (fVar 6) [6]))) (wf (vf (fLst fNil)))) [4]))) wNil)))) := by first | rfl
noncomputable def b_law_is_true_of : FS := (sSeq b_law_is_true_of_1 (sSeq b_law_is_true_of_2 (sSeq b_law_is_true_of_3 (sSeq b_law_is_true_of_4 b_law_is_true_of_5))))
theorem b_law_is_true_of_def : b_law_is_true_of = (sSeq b_law_is_true_of_1 (sSeq b_law_is_true_of_2 (sSeq b_law_is_true_of_3 (sSeq b_law_is_true_of_4 b_law_is_true_of_5)))) := by first | rfl
noncomputable def F_law_is_true_of : FF := fnF 5 b_law_is_true_of
theorem F_law_is_true_of_def : F_law_is_true_of = fnF 5 b_law_is_true_of := by first | rfl
/-- _law_looks: slots 0 one 1 two 2 atom -/
noncomputable def b_law_looks : FS := (sRet (fCall 1 F_law_once [] (aS (vf (fLc (iVal (vf (fOpE addD (wf (vf (fCall 1 (F_law_atoms 6) [] (aS (fVar 0) aNil)))) (wf (vf (fCall 1 (F_law_atoms 6) [] (aS (fVar 1) aNil))))))) (put 2) fYes (vf (fCall 1 F_law_look [] (aS (fVar 2) aNil))) [2])) aNil)))
theorem b_law_looks_def : b_law_looks = (sRet (fCall 1 F_law_once [] (aS (vf (fLc (iVal (vf (fOpE addD (wf (vf (fCall 1 (F_law_atoms 6) [] (aS (fVar 0) aNil)))) (wf (vf (fCall 1 (F_law_atoms 6) [] (aS (fVar 1) aNil))))))) (put 2) fYes (vf (fCall 1 F_law_look [] (aS (fVar 2) aNil))) [2])) aNil))) := by first | rfl
noncomputable def F_law_looks : FF := fnF 1 b_law_looks
theorem F_law_looks_def : F_law_looks = fnF 1 b_law_looks := by first | rfl
/-- _law_ago: slots 0 row 1 term 2 most 3 found 4 back -/
noncomputable def b_law_ago_1 : FS := (sAsg (fLc (iRn2 (fCons (fC (.int 1)) (fCons (vf (fOpE addD (wf (fCB minD (wCons (wNm 2) (wCons (wf (fCB lenD (wCons (wNm 0) wNil))) wNil)))) (wf (fC (.int 1))))) fNil))) (put 4) (fTst (fOp eqD (wf (fOp ixD (wNm 0) (wf (fOp subD (wf (fCB lenD (wCons (wNm 0) wNil))) (wNm 4))))) (wNm 1))) (fVar 4) [4]) (put 3))
theorem b_law_ago_1_def : b_law_ago_1 = (sAsg (fLc (iRn2 (fCons (fC (.int 1)) (fCons (vf (fOpE addD (wf (fCB minD (wCons (wNm 2) (wCons (wf (fCB lenD (wCons (wNm 0) wNil))) wNil)))) (wf (fC (.int 1))))) fNil))) (put 4) (fTst (fOp eqD (wf (fOp ixD (wNm 0) (wf (fOp subD (wf (fCB lenD (wCons (wNm 0) wNil))) (wNm 4))))) (wNm 1))) (fVar 4) [4]) (put 3)) := by first | rfl
noncomputable def b_law_ago_2 : FS := (sRet (ef (fIf (fTst (fOp neD (wNm 3) (wf (vf (fLst fNil))))) (fOp ixD (wNm 3) (wf (fC (.int 0)))) (fC (.int 0)))))
theorem b_law_ago_2_def : b_law_ago_2 = (sRet (ef (fIf (fTst (fOp neD (wNm 3) (wf (vf (fLst fNil))))) (fOp ixD (wNm 3) (wf (fC (.int 0)))) (fC (.int 0))))) := by first | rfl
noncomputable def b_law_ago : FS := (sSeq b_law_ago_1 b_law_ago_2)
theorem b_law_ago_def : b_law_ago = (sSeq b_law_ago_1 b_law_ago_2) := by first | rfl
noncomputable def F_law_ago : FF := fnF 2 b_law_ago
theorem F_law_ago_def : F_law_ago = fnF 2 b_law_ago := by first | rfl
/-- _law_state_of: slots 0 look 1 row 2 fits 3 k -/
noncomputable def b_law_state_of_2a_1 : FS := (sIf (fTru (wf (vf (fCall 2 F_law_is_true_of [] (aS (fVar 0) (aS (fVar 1) aNil))))))
      (sRet (ef (fCB lenD (wCons (wf (fOp ixD (wNm 0) (wf (fC (.int 1))))) wNil)))) sNx)
theorem b_law_state_of_2a_1_def : b_law_state_of_2a_1 = (sIf (fTru (wf (vf (fCall 2 F_law_is_true_of [] (aS (fVar 0) (aS (fVar 1) aNil))))))
      (sRet (ef (fCB lenD (wCons (wf (fOp ixD (wNm 0) (wf (fC (.int 1))))) wNil)))) sNx) := by first | rfl
noncomputable def b_law_state_of_2a_2 : FS := (sAsg (fLc (iRn1 (fCons (vf (fOpE addD (wf (fCB minD (wCons (wf (fOp subD (wf (fCB lenD (wCons (wf (fOp ixD (wNm 0) (wf (fC (.int 1))))) wNil))) (wf (fC (.int 1))))) (wCons (wf (fCB lenD (wCons (wNm 1) wNil))) wNil)))) (wf (fC (.int 1))))) fNil)) (put 3) (fTst (fOp eqD (wf (vf (fSl (wNm 1) (oSo (fOp subD (wf (fCB lenD (wCons (wNm 1) wNil))) (wNm 3))) oNo))) (wf (vf (fSl (wf (fOp ixD (wNm 0) (wf (fC (.int 1))))) oNo (oSo (fVar 3))))))) (fVar 3) [3]) (put 2))
theorem b_law_state_of_2a_2_def : b_law_state_of_2a_2 = (sAsg (fLc (iRn1 (fCons (vf (fOpE addD (wf (fCB minD (wCons (wf (fOp subD (wf (fCB lenD (wCons (wf (fOp ixD (wNm 0) (wf (fC (.int 1))))) wNil))) (wf (fC (.int 1))))) (wCons (wf (fCB lenD (wCons (wNm 1) wNil))) wNil)))) (wf (fC (.int 1))))) fNil)) (put 3) (fTst (fOp eqD (wf (vf (fSl (wNm 1) (oSo (fOp subD (wf (fCB lenD (wCons (wNm 1) wNil))) (wNm 3))) oNo))) (wf (vf (fSl (wf (fOp ixD (wNm 0) (wf (fC (.int 1))))) oNo (oSo (fVar 3))))))) (fVar 3) [3]) (put 2)) := by first | rfl
noncomputable def b_law_state_of_2a_3 : FS := (sRet (ef (fCB maxD (wCons (wNm 2) wNil))))
theorem b_law_state_of_2a_3_def : b_law_state_of_2a_3 = (sRet (ef (fCB maxD (wCons (wNm 2) wNil)))) := by first | rfl
noncomputable def b_law_state_of_1 : FS := (sIf (fTst (fOp inD (wf (fOp ixD (wNm 0) (wf (fC (.int 0))))) (wf (fTup (fCons (fC (.str "word")) (fCons (fC (.str "starts")) fNil))))))
      (sRet (ef (fCB intD (wCons (wf (vf (fCall 2 F_law_is_true_of [] (aS (fVar 0) (aS (fVar 1) aNil))))) wNil)))) sNx)
theorem b_law_state_of_1_def : b_law_state_of_1 = (sIf (fTst (fOp inD (wf (fOp ixD (wNm 0) (wf (fC (.int 0))))) (wf (fTup (fCons (fC (.str "word")) (fCons (fC (.str "starts")) fNil))))))
      (sRet (ef (fCB intD (wCons (wf (vf (fCall 2 F_law_is_true_of [] (aS (fVar 0) (aS (fVar 1) aNil))))) wNil)))) sNx) := by first | rfl
noncomputable def b_law_state_of_2 : FS := (sIf (fTst (fOp eqD (wf (fOp ixD (wNm 0) (wf (fC (.int 0))))) (wf (fC (.str "row")))))
      (sSeq b_law_state_of_2a_1 (sSeq b_law_state_of_2a_2 b_law_state_of_2a_3)) sNx)
theorem b_law_state_of_2_def : b_law_state_of_2 = (sIf (fTst (fOp eqD (wf (fOp ixD (wNm 0) (wf (fC (.int 0))))) (wf (fC (.str "row")))))
      (sSeq b_law_state_of_2a_1 (sSeq b_law_state_of_2a_2 b_law_state_of_2a_3)) sNx) := by first | rfl
noncomputable def b_law_state_of_3 : FS := (sIf (fTru (wf (vf (fCall 2 F_law_is_true_of [] (aS (fVar 0) (aS (fVar 1) aNil))))))
      (sRet (ef (fTup (fCons (fC (.int 9)) (fCons (fC (.int 9)) fNil))))) sNx)
theorem b_law_state_of_3_def : b_law_state_of_3 = (sIf (fTru (wf (vf (fCall 2 F_law_is_true_of [] (aS (fVar 0) (aS (fVar 1) aNil))))))
      (sRet (ef (fTup (fCons (fC (.int 9)) (fCons (fC (.int 9)) fNil))))) sNx) := by first | rfl
noncomputable def b_law_state_of_4 : FS := (sRet (ef (fTup (fCons (vf (fCall 3 F_law_ago [] (aS (fVar 1) (aS (fOp ixD (wNm 0) (wf (fC (.int 1)))) (aS (fOp ixD (wNm 0) (wf (fC (.int 3)))) aNil))))) (fCons (vf (fCall 3 F_law_ago [] (aS (fVar 1) (aS (fOp ixD (wNm 0) (wf (fC (.int 2)))) (aS (fOp ixD (wNm 0) (wf (fC (.int 3)))) aNil))))) fNil)))))
theorem b_law_state_of_4_def : b_law_state_of_4 = (sRet (ef (fTup (fCons (vf (fCall 3 F_law_ago [] (aS (fVar 1) (aS (fOp ixD (wNm 0) (wf (fC (.int 1)))) (aS (fOp ixD (wNm 0) (wf (fC (.int 3)))) aNil))))) (fCons (vf (fCall 3 F_law_ago [] (aS (fVar 1) (aS (fOp ixD (wNm 0) (wf (fC (.int 2)))) (aS (fOp ixD (wNm 0) (wf (fC (.int 3)))) aNil))))) fNil))))) := by first | rfl
noncomputable def b_law_state_of : FS := (sSeq b_law_state_of_1 (sSeq b_law_state_of_2 (sSeq b_law_state_of_3 b_law_state_of_4)))
theorem b_law_state_of_def : b_law_state_of = (sSeq b_law_state_of_1 (sSeq b_law_state_of_2 (sSeq b_law_state_of_3 b_law_state_of_4))) := by first | rfl
noncomputable def F_law_state_of : FF := fnF 2 b_law_state_of
theorem F_law_state_of_def : F_law_state_of = fnF 2 b_law_state_of := by first | rfl
/-- _law_states_of: slots 0 looks 1 row 2 look -/
noncomputable def b_law_states_of : FS := (sRet (ef (fCB tupleD (wCons (wf (vf (fLc (iVal (fVar 0)) (put 2) fYes (vf (fCall 2 F_law_state_of [] (aS (fVar 2) (aS (fVar 1) aNil)))) [2]))) wNil))))
theorem b_law_states_of_def : b_law_states_of = (sRet (ef (fCB tupleD (wCons (wf (vf (fLc (iVal (fVar 0)) (put 2) fYes (vf (fCall 2 F_law_state_of [] (aS (fVar 2) (aS (fVar 1) aNil)))) [2]))) wNil)))) := by first | rfl
noncomputable def F_law_states_of : FF := fnF 1 b_law_states_of
theorem F_law_states_of_def : F_law_states_of = fnF 1 b_law_states_of := by first | rfl
/-- _law_long: slots 0 jar 1 pool 2 filling 3 many 4 found 5 spots 6 place 7 turn -/
noncomputable def b_law_long_1 : FS := (sPar [2, 3, 4] (aE (fCall 2 F_law_any [] (aB 0 (aS (vf (fLst (fCons (fC .none) (fCons (fC (.str "!")) (fCons (vf (fOpE addD (wf (fOp ixD (wNm 1) (wf (fC (.int 0))))) (wf (fC (.str "!"))))) fNil))))) aNil))) (aE (fCall 2 F_law_any [] (aB 0 (aS (vf (fLst (fCons (fC (.int 400)) (fCons (fC (.int 399)) (fCons (fC (.int 60)) fNil))))) aNil))) (aE (fLst fNil) aNil))))
theorem b_law_long_1_def : b_law_long_1 = (sPar [2, 3, 4] (aE (fCall 2 F_law_any [] (aB 0 (aS (vf (fLst (fCons (fC .none) (fCons (fC (.str "!")) (fCons (vf (fOpE addD (wf (fOp ixD (wNm 1) (wf (fC (.int 0))))) (wf (fC (.str "!"))))) fNil))))) aNil))) (aE (fCall 2 F_law_any [] (aB 0 (aS (vf (fLst (fCons (fC (.int 400)) (fCons (fC (.int 399)) (fCons (fC (.int 60)) fNil))))) aNil))) (aE (fLst fNil) aNil)))) := by first | rfl
noncomputable def b_law_long_2 : FS := (sAsg (fOpE addD (wf (vf (fLc (iRn1 (fCons (fC (.int 3)) fNil)) (put 7) fYes (vf (fCall 2 F_law_deal [] (aB 0 (aS (fVar 3) aNil)))) [7]))) (wf (vf (fLc (iRn1 (fCons (fC (.int 3)) fNil)) (put 7) fYes (fOp subD (wf (fOp subD (wNm 3) (wf (fC (.int 1))))) (wf (vf (fCall 2 F_law_deal [] (aB 0 (aS (fC (.int 6)) aNil)))))) [7])))) (put 5))
theorem b_law_long_2_def : b_law_long_2 = (sAsg (fOpE addD (wf (vf (fLc (iRn1 (fCons (fC (.int 3)) fNil)) (put 7) fYes (vf (fCall 2 F_law_deal [] (aB 0 (aS (fVar 3) aNil)))) [7]))) (wf (vf (fLc (iRn1 (fCons (fC (.int 3)) fNil)) (put 7) fYes (fOp subD (wf (fOp subD (wNm 3) (wf (fC (.int 1))))) (wf (vf (fCall 2 F_law_deal [] (aB 0 (aS (fC (.int 6)) aNil)))))) [7])))) (put 5)) := by first | rfl
noncomputable def b_law_long_3 : FS := (sFor (iRn1 (fCons (fVar 3) fNil)) (put 6)
      (sDrop (fMu 4 apD (fCons (vf (fIf (fTst (fOp inD (wNm 6) (wNm 5))) (fCall 2 F_law_any [] (aB 0 (aS (fVar 1) aNil))) (ef (fVar 2)))) fNil))))
theorem b_law_long_3_def : b_law_long_3 = (sFor (iRn1 (fCons (fVar 3) fNil)) (put 6)
      (sDrop (fMu 4 apD (fCons (vf (fIf (fTst (fOp inD (wNm 6) (wNm 5))) (fCall 2 F_law_any [] (aB 0 (aS (fVar 1) aNil))) (ef (fVar 2)))) fNil)))) := by first | rfl
noncomputable def b_law_long_4 : FS := (sRet (ef (fCB tupleD (wCons (wNm 4) wNil))))
theorem b_law_long_4_def : b_law_long_4 = (sRet (ef (fCB tupleD (wCons (wNm 4) wNil)))) := by first | rfl
noncomputable def b_law_long : FS := (sSeq b_law_long_1 (sSeq b_law_long_2 (sSeq b_law_long_3 b_law_long_4)))
theorem b_law_long_def : b_law_long = (sSeq b_law_long_1 (sSeq b_law_long_2 (sSeq b_law_long_3 b_law_long_4))) := by first | rfl
noncomputable def F_law_long : FF := fnF 6 b_law_long
theorem F_law_long_def : F_law_long = fnF 6 b_law_long := by first | rfl
/-- _law_right: slots 0 jar 1 pool 2 turn 3 one 4 two 5 atom 6 looks 7 row 8 due -/
noncomputable def b_law_right_2f_3a_1 : FS := (sAsg (ef (fTup (fCons (fC (.str "all")) (fCons (fTup (fCons (fVar 5) (fCons (fTup (fCons (fC (.str "not")) (fCons (vf (fOpE addD (wf (fTup (fCons (fOp ixD (wNm 5) (wf (fC (.int 0)))) (fCons (fC (.str "body")) fNil)))) (wf (vf (fSl (wNm 5) (oSo (fC (.int 2))) oNo))))) fNil))) fNil))) fNil)))) (put 3))
theorem b_law_right_2f_3a_1_def : b_law_right_2f_3a_1 = (sAsg (ef (fTup (fCons (fC (.str "all")) (fCons (fTup (fCons (fVar 5) (fCons (fTup (fCons (fC (.str "not")) (fCons (vf (fOpE addD (wf (fTup (fCons (fOp ixD (wNm 5) (wf (fC (.int 0)))) (fCons (fC (.str "body")) fNil)))) (wf (vf (fSl (wNm 5) (oSo (fC (.int 2))) oNo))))) fNil))) fNil))) fNil)))) (put 3)) := by first | rfl
noncomputable def b_law_right_2f_3a_2 : FS := (sAsg (ef (fTup (fCons (fC (.str "any")) (fCons (fTup (fCons (vf (fOpE addD (wf (fTup (fCons (fOp ixD (wNm 5) (wf (fC (.int 0)))) (fCons (fC (.str "any")) fNil)))) (wf (vf (fSl (wNm 5) (oSo (fC (.int 2))) oNo))))) (fCons (fVar 5) fNil))) fNil)))) (put 4))
theorem b_law_right_2f_3a_2_def : b_law_right_2f_3a_2 = (sAsg (ef (fTup (fCons (fC (.str "any")) (fCons (fTup (fCons (vf (fOpE addD (wf (fTup (fCons (fOp ixD (wNm 5) (wf (fC (.int 0)))) (fCons (fC (.str "any")) fNil)))) (wf (vf (fSl (wNm 5) (oSo (fC (.int 2))) oNo))))) (fCons (fVar 5) fNil))) fNil)))) (put 4)) := by first | rfl
noncomputable def b_law_right_2f_6f_1 : FS := (sAsg (fCall 2 F_law_states_of [] (aS (fVar 6) (aS (fVar 7) aNil))) (put 8))
theorem b_law_right_2f_6f_1_def : b_law_right_2f_6f_1 = (sAsg (fCall 2 F_law_states_of [] (aS (fVar 6) (aS (fVar 7) aNil))) (put 8)) := by first | rfl
noncomputable def b_law_right_2f_6f_2 : FS := (sIf (fTst (fOp neD (wf (fCB reprD (wCons (wf (vf (fLst (fCons (vf (fCall 3 F_state_of [] (aS (fVar 3) (aS (fVar 4) (aS (fVar 7) aNil))))) (fCons (vf (fCallK 3 0 3 [2, 1, 0] F_state_of aNil (fCons (fVar 7) (fCons (fVar 4) (fCons (fVar 3) fNil))))) fNil))))) wNil))) (wf (fCB reprD (wCons (wf (vf (fLst (fCons (fVar 8) (fCons (fVar 8) fNil))))) wNil)))))
      (sRet (ef (fC (.bool false)))) sNx)
theorem b_law_right_2f_6f_2_def : b_law_right_2f_6f_2 = (sIf (fTst (fOp neD (wf (fCB reprD (wCons (wf (vf (fLst (fCons (vf (fCall 3 F_state_of [] (aS (fVar 3) (aS (fVar 4) (aS (fVar 7) aNil))))) (fCons (vf (fCallK 3 0 3 [2, 1, 0] F_state_of aNil (fCons (fVar 7) (fCons (fVar 4) (fCons (fVar 3) fNil))))) fNil))))) wNil))) (wf (fCB reprD (wCons (wf (vf (fLst (fCons (fVar 8) (fCons (fVar 8) fNil))))) wNil)))))
      (sRet (ef (fC (.bool false)))) sNx) := by first | rfl
noncomputable def b_law_right_2f_1 : FS := (sPar [3, 4] (aE (fCall 2 F_law_asked [] (aB 0 (aS (fVar 1) aNil))) (aE (fCall 2 F_law_asked [] (aB 0 (aS (fVar 1) aNil))) aNil)))
theorem b_law_right_2f_1_def : b_law_right_2f_1 = (sPar [3, 4] (aE (fCall 2 F_law_asked [] (aB 0 (aS (fVar 1) aNil))) (aE (fCall 2 F_law_asked [] (aB 0 (aS (fVar 1) aNil))) aNil))) := by first | rfl
noncomputable def b_law_right_2f_2 : FS := (sAsg (fCall 2 F_law_atom [] (aB 0 (aS (fVar 1) aNil))) (put 5))
theorem b_law_right_2f_2_def : b_law_right_2f_2 = (sAsg (fCall 2 F_law_atom [] (aB 0 (aS (fVar 1) aNil))) (put 5)) := by first | rfl
noncomputable def b_law_right_2f_3 : FS := (sIf (fTst (fOp eqD (wf (vf (fCall 2 F_law_deal [] (aB 0 (aS (fC (.int 2)) aNil))))) (wf (fC (.int 0)))))
      (sSeq b_law_right_2f_3a_1 b_law_right_2f_3a_2) sNx)
theorem b_law_right_2f_3_def : b_law_right_2f_3 = (sIf (fTst (fOp eqD (wf (vf (fCall 2 F_law_deal [] (aB 0 (aS (fC (.int 2)) aNil))))) (wf (fC (.int 0)))))
      (sSeq b_law_right_2f_3a_1 b_law_right_2f_3a_2) sNx) := by first | rfl
noncomputable def b_law_right_2f_4 : FS := (sAsg (ef (fCB tupleD (wCons (wf (vf (fCall 2 F_law_looks [] (aS (fVar 3) (aS (fVar 4) aNil))))) wNil))) (put 6))
theorem b_law_right_2f_4_def : b_law_right_2f_4 = (sAsg (ef (fCB tupleD (wCons (wf (vf (fCall 2 F_law_looks [] (aS (fVar 3) (aS (fVar 4) aNil))))) wNil))) (put 6)) := by first | rfl
noncomputable def b_law_right_2f_5 : FS := (sIf (fTst (fOp neD (wf (fCB reprD (wCons (wf (vf (fLst (fCons (vf (fCall 2 F_looks_of [] (aS (fVar 3) (aS (fVar 4) aNil)))) (fCons (vf (fCallK 2 0 2 [1, 0] F_looks_of aNil (fCons (fVar 4) (fCons (fVar 3) fNil)))) fNil))))) wNil))) (wf (fCB reprD (wCons (wf (vf (fLst (fCons (fVar 6) (fCons (fVar 6) fNil))))) wNil)))))
      (sRet (ef (fC (.bool false)))) sNx)
theorem b_law_right_2f_5_def : b_law_right_2f_5 = (sIf (fTst (fOp neD (wf (fCB reprD (wCons (wf (vf (fLst (fCons (vf (fCall 2 F_looks_of [] (aS (fVar 3) (aS (fVar 4) aNil)))) (fCons (vf (fCallK 2 0 2 [1, 0] F_looks_of aNil (fCons (fVar 4) (fCons (fVar 3) fNil)))) fNil))))) wNil))) (wf (fCB reprD (wCons (wf (vf (fLst (fCons (fVar 6) (fCons (fVar 6) fNil))))) wNil)))))
      (sRet (ef (fC (.bool false)))) sNx) := by first | rfl
noncomputable def b_law_right_2f_6 : FS := (sFor (iVal (vf (fLst (fCons (fTup fNil) (fCons (vf (fCall 3 F_law_row [] (aB 0 (aS (fVar 1) (aS (fC (.int 3)) aNil))))) (fCons (vf (fCall 3 F_law_row [] (aB 0 (aS (fVar 1) (aS (fC (.int 9)) aNil))))) (fCons (vf (fCall 3 F_law_row [] (aB 0 (aS (fVar 1) (aS (fC (.int 9)) aNil))))) (fCons (vf (fCall 2 F_law_long [] (aB 0 (aS (fVar 1) aNil)))) fNil)))))))) (put 7)
      (sSeq b_law_right_2f_6f_1 b_law_right_2f_6f_2))
theorem b_law_right_2f_6_def : b_law_right_2f_6 = (sFor (iVal (vf (fLst (fCons (fTup fNil) (fCons (vf (fCall 3 F_law_row [] (aB 0 (aS (fVar 1) (aS (fC (.int 3)) aNil))))) (fCons (vf (fCall 3 F_law_row [] (aB 0 (aS (fVar 1) (aS (fC (.int 9)) aNil))))) (fCons (vf (fCall 3 F_law_row [] (aB 0 (aS (fVar 1) (aS (fC (.int 9)) aNil))))) (fCons (vf (fCall 2 F_law_long [] (aB 0 (aS (fVar 1) aNil)))) fNil)))))))) (put 7)
      (sSeq b_law_right_2f_6f_1 b_law_right_2f_6f_2)) := by first | rfl
noncomputable def b_law_right_1 : FS := (sAsg (fCall 2 F_law_pool [] (aB 0 (aS (fC (.int 3)) aNil))) (put 1))
theorem b_law_right_1_def : b_law_right_1 = (sAsg (fCall 2 F_law_pool [] (aB 0 (aS (fC (.int 3)) aNil))) (put 1)) := by first | rfl
noncomputable def b_law_right_2 : FS := (sFor (iRn1 (fCons (fC (.int 3)) fNil)) (put 2)
      (sSeq b_law_right_2f_1 (sSeq b_law_right_2f_2 (sSeq b_law_right_2f_3 (sSeq b_law_right_2f_4 (sSeq b_law_right_2f_5 b_law_right_2f_6))))))
theorem b_law_right_2_def : b_law_right_2 = (sFor (iRn1 (fCons (fC (.int 3)) fNil)) (put 2)
      (sSeq b_law_right_2f_1 (sSeq b_law_right_2f_2 (sSeq b_law_right_2f_3 (sSeq b_law_right_2f_4 (sSeq b_law_right_2f_5 b_law_right_2f_6)))))) := by first | rfl
noncomputable def b_law_right_3 : FS := (sRet (ef (fC (.bool true))))
theorem b_law_right_3_def : b_law_right_3 = (sRet (ef (fC (.bool true)))) := by first | rfl
noncomputable def b_law_right : FS := (sSeq b_law_right_1 (sSeq b_law_right_2 b_law_right_3))
theorem b_law_right_def : b_law_right = (sSeq b_law_right_1 (sSeq b_law_right_2 b_law_right_3)) := by first | rfl
noncomputable def F_law_right : FF := fnF 8 b_law_right
theorem F_law_right_def : F_law_right = fnF 8 b_law_right := by first | rfl
/-- law: slots 0 script 1 turn -/
noncomputable def b_law : FS := (sRet (ef (fCB allD (wCons (wf (vf (fLc (iRn1 (fCons (fCB maxD (wCons (wf (fC (.int 2))) (wCons (wf (fCB minD (wCons (wf (fCB lenD (wCons (wNm 0) wNil))) (wCons (wf (fC (.int 4))) wNil)))) wNil))) fNil)) (put 1) fYes (vf (fCall 1 F_law_right [] (aE (fCall 2 F_law_jar [] (aS (fVar 0) (aS (fVar 1) aNil))) aNil))) [1]))) wNil))))
theorem b_law_def : b_law = (sRet (ef (fCB allD (wCons (wf (vf (fLc (iRn1 (fCons (fCB maxD (wCons (wf (fC (.int 2))) (wCons (wf (fCB minD (wCons (wf (fCB lenD (wCons (wNm 0) wNil))) (wCons (wf (fC (.int 4))) wNil)))) wNil))) fNil)) (put 1) fYes (vf (fCall 1 F_law_right [] (aE (fCall 2 F_law_jar [] (aS (fVar 0) (aS (fVar 1) aNil))) aNil))) [1]))) wNil)))) := by first | rfl
noncomputable def F_law : FF := fnF 1 b_law
theorem F_law_def : F_law = fnF 1 b_law := by first | rfl
end K26
namespace K26
open PySem PySem.Spec PyProof.Rows L2 Pu
def top (i : Nat) : Stmt := PySem.Challenge.pw_plainscan_k26_whole_looks_and_states_of.main.body.getD i (.Pass ⟨0, 0, 0, 0⟩)
abbrev s_is_whole : Stmt := top 14
abbrev N_is_whole : List Str := ["value"]
theorem sc_is_whole : FnScope N_is_whole ["value"] (defScope s_is_whole) := ⟨rfl, rfl, rfl, by decide +kernel, rfl, by decide +kernel, by decide +kernel⟩
abbrev s_is_number : Stmt := top 15
abbrev N_is_number : List Str := ["value", "low", "high"]
theorem sc_is_number : FnScope N_is_number ["value", "low", "high"] (defScope s_is_number) := ⟨rfl, rfl, rfl, by decide +kernel, rfl, by decide +kernel, by decide +kernel⟩
abbrev s_is_tuple_of : Stmt := top 16
abbrev N_is_tuple_of : List Str := ["value", "many"]
theorem sc_is_tuple_of : FnScope N_is_tuple_of ["value", "many"] (defScope s_is_tuple_of) := ⟨rfl, rfl, rfl, by decide +kernel, rfl, by decide +kernel, by decide +kernel⟩
abbrev s_is_sign : Stmt := top 17
abbrev N_is_sign : List Str := ["sign", "code"]
theorem sc_is_sign : FnScope N_is_sign ["sign"] (defScope s_is_sign) := ⟨rfl, rfl, rfl, by decide +kernel, rfl, by decide +kernel, by decide +kernel⟩
abbrev s_is_string : Stmt := top 18
abbrev N_is_string : List Str := ["value", "most", "sign"]
theorem sc_is_string : FnScope N_is_string ["value", "most"] (defScope s_is_string) := ⟨rfl, rfl, rfl, by decide +kernel, rfl, by decide +kernel, by decide +kernel⟩
abbrev s_is_made_of : Stmt := top 19
abbrev N_is_made_of : List Str := ["value", "signs", "least", "most", "sign"]
theorem sc_is_made_of : FnScope N_is_made_of ["value", "signs", "least", "most"] (defScope s_is_made_of) := ⟨rfl, rfl, rfl, by decide +kernel, rfl, by decide +kernel, by decide +kernel⟩
abbrev s_is_named : Stmt := top 20
abbrev N_is_named : List Str := ["value"]
theorem sc_is_named : FnScope N_is_named ["value"] (defScope s_is_named) := ⟨rfl, rfl, rfl, by decide +kernel, rfl, by decide +kernel, by decide +kernel⟩
abbrev s_is_begin : Stmt := top 21
abbrev N_is_begin : List Str := ["value"]
theorem sc_is_begin : FnScope N_is_begin ["value"] (defScope s_is_begin) := ⟨rfl, rfl, rfl, by decide +kernel, rfl, by decide +kernel, by decide +kernel⟩
abbrev s_is_spaceless : Stmt := top 22
abbrev N_is_spaceless : List Str := ["value", "most"]
theorem sc_is_spaceless : FnScope N_is_spaceless ["value", "most"] (defScope s_is_spaceless) := ⟨rfl, rfl, rfl, by decide +kernel, rfl, by decide +kernel, by decide +kernel⟩
abbrev s_is_term : Stmt := top 23
abbrev N_is_term : List Str := ["value"]
theorem sc_is_term : FnScope N_is_term ["value"] (defScope s_is_term) := ⟨rfl, rfl, rfl, by decide +kernel, rfl, by decide +kernel, by decide +kernel⟩
abbrev s_is_rowed : Stmt := top 24
abbrev N_is_rowed : List Str := ["value", "term"]
theorem sc_is_rowed : FnScope N_is_rowed ["value"] (defScope s_is_rowed) := ⟨rfl, rfl, rfl, by decide +kernel, rfl, by decide +kernel, by decide +kernel⟩
abbrev s_check_row : Stmt := top 25
abbrev N_check_row : List Str := ["value"]
theorem sc_check_row : FnScope N_check_row ["value"] (defScope s_check_row) := ⟨rfl, rfl, rfl, by decide +kernel, rfl, by decide +kernel, by decide +kernel⟩
abbrev s_are_terms : Stmt := top 34
abbrev N_are_terms : List Str := ["value", "each"]
theorem sc_are_terms : FnScope N_are_terms ["value"] (defScope s_are_terms) := ⟨rfl, rfl, rfl, by decide +kernel, rfl, by decide +kernel, by decide +kernel⟩
abbrev s_is_atom : Stmt := top 35
abbrev N_is_atom : List Str := ["value", "word", "field"]
theorem sc_is_atom : FnScope N_is_atom ["value"] (defScope s_is_atom) := ⟨rfl, rfl, rfl, by decide +kernel, rfl, by decide +kernel, by decide +kernel⟩
abbrev s_inside_of : Stmt := top 36
abbrev N_inside_of : List Str := ["value", "word", "inner"]
theorem sc_inside_of : FnScope N_inside_of ["value"] (defScope s_inside_of) := ⟨rfl, rfl, rfl, by decide +kernel, rfl, by decide +kernel, by decide +kernel⟩
abbrev s_counted : Stmt := top 37
abbrev N_counted : List Str := ["value", "levels", "inner", "sizes", "each", "size", "_", "atoms", "nodes"]
theorem sc_counted : FnScope N_counted ["value", "levels"] (defScope s_counted) := ⟨rfl, rfl, rfl, by decide +kernel, rfl, by decide +kernel, by decide +kernel⟩
abbrev s_is_question_by : Stmt := top 38
abbrev N_is_question_by : List Str := ["value", "size"]
theorem sc_is_question_by : FnScope N_is_question_by ["value"] (defScope s_is_question_by) := ⟨rfl, rfl, rfl, by decide +kernel, rfl, by decide +kernel, by decide +kernel⟩
abbrev s_all_atoms : Stmt := top 39
abbrev N_all_atoms : List Str := ["question", "each", "atom"]
theorem sc_all_atoms : FnScope N_all_atoms ["question"] (defScope s_all_atoms) := ⟨rfl, rfl, rfl, by decide +kernel, rfl, by decide +kernel, by decide +kernel⟩
abbrev s_unlike : Stmt := top 40
abbrev N_unlike : List Str := ["row", "found", "each"]
theorem sc_unlike : FnScope N_unlike ["row"] (defScope s_unlike) := ⟨rfl, rfl, rfl, by decide +kernel, rfl, by decide +kernel, by decide +kernel⟩
abbrev s_looks_by : Stmt := top 43
abbrev N_looks_by : List Str := ["question", "other", "atom"]
theorem sc_looks_by : FnScope N_looks_by ["question", "other"] (defScope s_looks_by) := ⟨rfl, rfl, rfl, by decide +kernel, rfl, by decide +kernel, by decide +kernel⟩
abbrev s_first_states : Stmt := top 44
abbrev N_first_states : List Str := ["looks", "look"]
theorem sc_first_states : FnScope N_first_states ["looks"] (defScope s_first_states) := ⟨rfl, rfl, rfl, by decide +kernel, rfl, by decide +kernel, by decide +kernel⟩
abbrev s_row_step : Stmt := top 45
abbrev N_row_step : List Str := ["terms", "state", "thing", "last", "many"]
theorem sc_row_step : FnScope N_row_step ["terms", "state", "thing"] (defScope s_row_step) := ⟨rfl, rfl, rfl, by decide +kernel, rfl, by decide +kernel, by decide +kernel⟩
abbrev s_ago : Stmt := top 46
abbrev N_ago : List Str := ["state", "is_here", "most"]
theorem sc_ago : FnScope N_ago ["state", "is_here", "most"] (defScope s_ago) := ⟨rfl, rfl, rfl, by decide +kernel, rfl, by decide +kernel, by decide +kernel⟩
abbrev s_near_step : Stmt := top 47
abbrev N_near_step : List Str := ["look", "state", "thing", "_", "first", "second", "most"]
theorem sc_near_step : FnScope N_near_step ["look", "state", "thing"] (defScope s_near_step) := ⟨rfl, rfl, rfl, by decide +kernel, rfl, by decide +kernel, by decide +kernel⟩
abbrev s_look_step : Stmt := top 48
abbrev N_look_step : List Str := ["look", "state", "thing"]
theorem sc_look_step : FnScope N_look_step ["look", "state", "thing"] (defScope s_look_step) := ⟨rfl, rfl, rfl, by decide +kernel, rfl, by decide +kernel, by decide +kernel⟩
abbrev s_step_on : Stmt := top 49
abbrev N_step_on : List Str := ["looks", "states", "thing", "look", "state"]
theorem sc_step_on : FnScope N_step_on ["looks", "states", "thing"] (defScope s_step_on) := ⟨rfl, rfl, rfl, by decide +kernel, rfl, by decide +kernel, by decide +kernel⟩
abbrev s_state_behind : Stmt := top 50
abbrev N_state_behind : List Str := ["looks", "row", "found", "thing"]
theorem sc_state_behind : FnScope N_state_behind ["looks", "row"] (defScope s_state_behind) := ⟨rfl, rfl, rfl, by decide +kernel, rfl, by decide +kernel, by decide +kernel⟩
abbrev s_check_question : Stmt := top 52
abbrev N_check_question : List Str := ["value"]
theorem sc_check_question : FnScope N_check_question ["value"] (defScope s_check_question) := ⟨rfl, rfl, rfl, by decide +kernel, rfl, by decide +kernel, by decide +kernel⟩
abbrev s_check_two : Stmt := top 54
abbrev N_check_two : List Str := ["question", "other"]
theorem sc_check_two : FnScope N_check_two ["question", "other"] (defScope s_check_two) := ⟨rfl, rfl, rfl, by decide +kernel, rfl, by decide +kernel, by decide +kernel⟩
abbrev s_looks_of : Stmt := top 55
abbrev N_looks_of : List Str := ["question", "other"]
theorem sc_looks_of : FnScope N_looks_of ["question", "other"] (defScope s_looks_of) := ⟨rfl, rfl, rfl, by decide +kernel, rfl, by decide +kernel, by decide +kernel⟩
abbrev s_state_of : Stmt := top 56
abbrev N_state_of : List Str := ["question", "other", "row"]
theorem sc_state_of : FnScope N_state_of ["question", "other", "row"] (defScope s_state_of) := ⟨rfl, rfl, rfl, by decide +kernel, rfl, by decide +kernel, by decide +kernel⟩
abbrev s_law_jar : Stmt := top 58
abbrev N_law_jar : List Str := ["script", "turn", "stirred", "each", "cell"]
theorem sc_law_jar : FnScope N_law_jar ["script", "turn"] (defScope s_law_jar) := ⟨rfl, rfl, rfl, by decide +kernel, rfl, by decide +kernel, by decide +kernel⟩
abbrev s_law_deal : Stmt := top 59
abbrev N_law_deal : List Str := ["jar", "many", "digit"]
theorem sc_law_deal : FnScope N_law_deal ["jar", "many"] (defScope s_law_deal) := ⟨rfl, rfl, rfl, by decide +kernel, rfl, by decide +kernel, by decide +kernel⟩
abbrev s_law_any : Stmt := top 60
abbrev N_law_any : List Str := ["jar", "some"]
theorem sc_law_any : FnScope N_law_any ["jar", "some"] (defScope s_law_any) := ⟨rfl, rfl, rfl, by decide +kernel, rfl, by decide +kernel, by decide +kernel⟩
abbrev s_law_word : Stmt := top 61
abbrev N_law_word : List Str := ["jar", "size", "signs", "turn"]
theorem sc_law_word : FnScope N_law_word ["jar", "size"] (defScope s_law_word) := ⟨rfl, rfl, rfl, by decide +kernel, rfl, by decide +kernel, by decide +kernel⟩
abbrev s_law_pool : Stmt := top 62
abbrev N_law_pool : List Str := ["jar", "many", "found", "turn", "word", "sign"]
theorem sc_law_pool : FnScope N_law_pool ["jar", "many"] (defScope s_law_pool) := ⟨rfl, rfl, rfl, by decide +kernel, rfl, by decide +kernel, by decide +kernel⟩
abbrev s_law_strange : Stmt := top 63
abbrev N_law_strange : List Str := ["jar", "pool", "word", "begin"]
theorem sc_law_strange : FnScope N_law_strange ["jar", "pool"] (defScope s_law_strange) := ⟨rfl, rfl, rfl, by decide +kernel, rfl, by decide +kernel, by decide +kernel⟩
abbrev s_law_row : Stmt := top 64
abbrev N_law_row : List Str := ["jar", "pool", "most", "found", "turn", "way"]
theorem sc_law_row : FnScope N_law_row ["jar", "pool", "most"] (defScope s_law_row) := ⟨rfl, rfl, rfl, by decide +kernel, rfl, by decide +kernel, by decide +kernel⟩
abbrev s_law_atom : Stmt := top 65
abbrev N_law_atom : List Str := ["jar", "pool", "kind", "field", "word", "turn"]
theorem sc_law_atom : FnScope N_law_atom ["jar", "pool"] (defScope s_law_atom) := ⟨rfl, rfl, rfl, by decide +kernel, rfl, by decide +kernel, by decide +kernel⟩
abbrev s_law_question : Stmt := top 66
abbrev N_law_question : List Str := ["jar", "pool", "levels", "left", "way", "found", "turn"]
theorem sc_law_question : FnScope N_law_question ["jar", "pool", "levels", "left"] (defScope s_law_question) := ⟨rfl, rfl, rfl, by decide +kernel, rfl, by decide +kernel, by decide +kernel⟩
abbrev s_law_asked : Stmt := top 67
abbrev N_law_asked : List Str := ["jar", "pool", "nodes", "leaves"]
theorem sc_law_asked : FnScope N_law_asked ["jar", "pool"] (defScope s_law_asked) := ⟨rfl, rfl, rfl, by decide +kernel, rfl, by decide +kernel, by decide +kernel⟩
abbrev s_law_atoms : Stmt := top 68
abbrev N_law_atoms : List Str := ["question", "found", "each"]
theorem sc_law_atoms : FnScope N_law_atoms ["question"] (defScope s_law_atoms) := ⟨rfl, rfl, rfl, by decide +kernel, rfl, by decide +kernel, by decide +kernel⟩
abbrev s_law_once : Stmt := top 69
abbrev N_law_once : List Str := ["some", "found", "each"]
theorem sc_law_once : FnScope N_law_once ["some"] (defScope s_law_once) := ⟨rfl, rfl, rfl, by decide +kernel, rfl, by decide +kernel, by decide +kernel⟩
abbrev s_law_look : Stmt := top 70
abbrev N_law_look : List Str := ["atom"]
theorem sc_law_look : FnScope N_law_look ["atom"] (defScope s_law_look) := ⟨rfl, rfl, rfl, by decide +kernel, rfl, by decide +kernel, by decide +kernel⟩
abbrev s_law_is_true_of : Stmt := top 71
abbrev N_law_is_true_of : List Str := ["look", "row", "ones", "twos", "k", "each", "j"]
theorem sc_law_is_true_of : FnScope N_law_is_true_of ["look", "row"] (defScope s_law_is_true_of) := ⟨rfl, rfl, rfl, by decide +kernel, rfl, by decide +kernel, by decide +kernel⟩
abbrev s_law_looks : Stmt := top 72
abbrev N_law_looks : List Str := ["one", "two", "atom"]
theorem sc_law_looks : FnScope N_law_looks ["one", "two"] (defScope s_law_looks) := ⟨rfl, rfl, rfl, by decide +kernel, rfl, by decide +kernel, by decide +kernel⟩
abbrev s_law_ago : Stmt := top 73
abbrev N_law_ago : List Str := ["row", "term", "most", "found", "back"]
theorem sc_law_ago : FnScope N_law_ago ["row", "term", "most"] (defScope s_law_ago) := ⟨rfl, rfl, rfl, by decide +kernel, rfl, by decide +kernel, by decide +kernel⟩
abbrev s_law_state_of : Stmt := top 74
abbrev N_law_state_of : List Str := ["look", "row", "fits", "k"]
theorem sc_law_state_of : FnScope N_law_state_of ["look", "row"] (defScope s_law_state_of) := ⟨rfl, rfl, rfl, by decide +kernel, rfl, by decide +kernel, by decide +kernel⟩
abbrev s_law_states_of : Stmt := top 75
abbrev N_law_states_of : List Str := ["looks", "row", "look"]
theorem sc_law_states_of : FnScope N_law_states_of ["looks", "row"] (defScope s_law_states_of) := ⟨rfl, rfl, rfl, by decide +kernel, rfl, by decide +kernel, by decide +kernel⟩
abbrev s_law_long : Stmt := top 76
abbrev N_law_long : List Str := ["jar", "pool", "filling", "many", "found", "spots", "place", "turn"]
theorem sc_law_long : FnScope N_law_long ["jar", "pool"] (defScope s_law_long) := ⟨rfl, rfl, rfl, by decide +kernel, rfl, by decide +kernel, by decide +kernel⟩
abbrev s_law_right : Stmt := top 77
abbrev N_law_right : List Str := ["jar", "pool", "turn", "one", "two", "atom", "looks", "row", "due"]
theorem sc_law_right : FnScope N_law_right ["jar"] (defScope s_law_right) := ⟨rfl, rfl, rfl, by decide +kernel, rfl, by decide +kernel, by decide +kernel⟩
abbrev s_law : Stmt := top 78
abbrev N_law : List Str := ["script", "turn"]
theorem sc_law : FnScope N_law ["script"] (defScope s_law) := ⟨rfl, rfl, rfl, by decide +kernel, rfl, by decide +kernel, by decide +kernel⟩
/-- what the program's top has written -/
structure Txt (P : Program) (K : PySem.W.Frag) (mg : Str → Option Value) where
  f_is_whole : Addr
  d_is_whole : FuncData
  F_is_whole : Fun K "is_whole" "is_whole" s_is_whole f_is_whole d_is_whole
  b_is_whole : Binds K d_is_whole ["value"] []
  g_is_whole : mg "is_whole" = some (.ref f_is_whole)
  f_is_number : Addr
  d_is_number : FuncData
  F_is_number : Fun K "is_number" "is_number" s_is_number f_is_number d_is_number
  b_is_number : Binds K d_is_number ["value", "low", "high"] []
  g_is_number : mg "is_number" = some (.ref f_is_number)
  f_is_tuple_of : Addr
  d_is_tuple_of : FuncData
  F_is_tuple_of : Fun K "is_tuple_of" "is_tuple_of" s_is_tuple_of f_is_tuple_of d_is_tuple_of
  b_is_tuple_of : Binds K d_is_tuple_of ["value", "many"] []
  g_is_tuple_of : mg "is_tuple_of" = some (.ref f_is_tuple_of)
  f_is_sign : Addr
  d_is_sign : FuncData
  F_is_sign : Fun K "is_sign" "is_sign" s_is_sign f_is_sign d_is_sign
  b_is_sign : Binds K d_is_sign ["sign"] []
  g_is_sign : mg "is_sign" = some (.ref f_is_sign)
  f_is_string : Addr
  d_is_string : FuncData
  F_is_string : Fun K "is_string" "is_string" s_is_string f_is_string d_is_string
  b_is_string : Binds K d_is_string ["value", "most"] []
  g_is_string : mg "is_string" = some (.ref f_is_string)
  f_is_made_of : Addr
  d_is_made_of : FuncData
  F_is_made_of : Fun K "is_made_of" "is_made_of" s_is_made_of f_is_made_of d_is_made_of
  b_is_made_of : Binds K d_is_made_of ["value", "signs", "least", "most"] []
  g_is_made_of : mg "is_made_of" = some (.ref f_is_made_of)
  f_is_named : Addr
  d_is_named : FuncData
  F_is_named : Fun K "is_named" "is_named" s_is_named f_is_named d_is_named
  b_is_named : Binds K d_is_named ["value"] []
  g_is_named : mg "is_named" = some (.ref f_is_named)
  f_is_begin : Addr
  d_is_begin : FuncData
  F_is_begin : Fun K "is_begin" "is_begin" s_is_begin f_is_begin d_is_begin
  b_is_begin : Binds K d_is_begin ["value"] []
  g_is_begin : mg "is_begin" = some (.ref f_is_begin)
  f_is_spaceless : Addr
  d_is_spaceless : FuncData
  F_is_spaceless : Fun K "is_spaceless" "is_spaceless" s_is_spaceless f_is_spaceless d_is_spaceless
  b_is_spaceless : Binds K d_is_spaceless ["value", "most"] []
  g_is_spaceless : mg "is_spaceless" = some (.ref f_is_spaceless)
  f_is_term : Addr
  d_is_term : FuncData
  F_is_term : Fun K "is_term" "is_term" s_is_term f_is_term d_is_term
  b_is_term : Binds K d_is_term ["value"] []
  g_is_term : mg "is_term" = some (.ref f_is_term)
  f_is_rowed : Addr
  d_is_rowed : FuncData
  F_is_rowed : Fun K "is_rowed" "is_rowed" s_is_rowed f_is_rowed d_is_rowed
  b_is_rowed : Binds K d_is_rowed ["value"] []
  g_is_rowed : mg "is_rowed" = some (.ref f_is_rowed)
  f_check_row : Addr
  d_check_row : FuncData
  F_check_row : Fun K "check_row" "check_row" s_check_row f_check_row d_check_row
  b_check_row : Binds K d_check_row ["value"] []
  g_check_row : mg "check_row" = some (.ref f_check_row)
  f_are_terms : Addr
  d_are_terms : FuncData
  F_are_terms : Fun K "are_terms" "are_terms" s_are_terms f_are_terms d_are_terms
  b_are_terms : Binds K d_are_terms ["value"] []
  g_are_terms : mg "are_terms" = some (.ref f_are_terms)
  f_is_atom : Addr
  d_is_atom : FuncData
  F_is_atom : Fun K "is_atom" "is_atom" s_is_atom f_is_atom d_is_atom
  b_is_atom : Binds K d_is_atom ["value"] []
  g_is_atom : mg "is_atom" = some (.ref f_is_atom)
  f_inside_of : Addr
  d_inside_of : FuncData
  F_inside_of : Fun K "inside_of" "inside_of" s_inside_of f_inside_of d_inside_of
  b_inside_of : Binds K d_inside_of ["value"] []
  g_inside_of : mg "inside_of" = some (.ref f_inside_of)
  f_counted : Addr
  d_counted : FuncData
  F_counted : Fun K "counted" "counted" s_counted f_counted d_counted
  b_counted : Binds K d_counted ["value", "levels"] []
  g_counted : mg "counted" = some (.ref f_counted)
  f_is_question_by : Addr
  d_is_question_by : FuncData
  F_is_question_by : Fun K "is_question_by" "is_question_by" s_is_question_by f_is_question_by d_is_question_by
  b_is_question_by : Binds K d_is_question_by ["value"] []
  g_is_question_by : mg "is_question_by" = some (.ref f_is_question_by)
  f_all_atoms : Addr
  d_all_atoms : FuncData
  F_all_atoms : Fun K "all_atoms" "all_atoms" s_all_atoms f_all_atoms d_all_atoms
  b_all_atoms : Binds K d_all_atoms ["question"] []
  g_all_atoms : mg "all_atoms" = some (.ref f_all_atoms)
  f_unlike : Addr
  d_unlike : FuncData
  F_unlike : Fun K "unlike" "unlike" s_unlike f_unlike d_unlike
  b_unlike : Binds K d_unlike ["row"] []
  g_unlike : mg "unlike" = some (.ref f_unlike)
  f_looks_by : Addr
  d_looks_by : FuncData
  F_looks_by : Fun K "looks_by" "looks_by" s_looks_by f_looks_by d_looks_by
  b_looks_by : Binds K d_looks_by ["question", "other"] []
  g_looks_by : mg "looks_by" = some (.ref f_looks_by)
  f_first_states : Addr
  d_first_states : FuncData
  F_first_states : Fun K "first_states" "first_states" s_first_states f_first_states d_first_states
  b_first_states : Binds K d_first_states ["looks"] []
  g_first_states : mg "first_states" = some (.ref f_first_states)
  f_row_step : Addr
  d_row_step : FuncData
  F_row_step : Fun K "row_step" "row_step" s_row_step f_row_step d_row_step
  b_row_step : Binds K d_row_step ["terms", "state", "thing"] []
  g_row_step : mg "row_step" = some (.ref f_row_step)
  f_ago : Addr
  d_ago : FuncData
  F_ago : Fun K "ago" "ago" s_ago f_ago d_ago
  b_ago : Binds K d_ago ["state", "is_here", "most"] []
  g_ago : mg "ago" = some (.ref f_ago)
  f_near_step : Addr
  d_near_step : FuncData
  F_near_step : Fun K "near_step" "near_step" s_near_step f_near_step d_near_step
  b_near_step : Binds K d_near_step ["look", "state", "thing"] []
  g_near_step : mg "near_step" = some (.ref f_near_step)
  f_look_step : Addr
  d_look_step : FuncData
  F_look_step : Fun K "look_step" "look_step" s_look_step f_look_step d_look_step
  b_look_step : Binds K d_look_step ["look", "state", "thing"] []
  g_look_step : mg "look_step" = some (.ref f_look_step)
  f_step_on : Addr
  d_step_on : FuncData
  F_step_on : Fun K "step_on" "step_on" s_step_on f_step_on d_step_on
  b_step_on : Binds K d_step_on ["looks", "states", "thing"] []
  g_step_on : mg "step_on" = some (.ref f_step_on)
  f_state_behind : Addr
  d_state_behind : FuncData
  F_state_behind : Fun K "state_behind" "state_behind" s_state_behind f_state_behind d_state_behind
  b_state_behind : Binds K d_state_behind ["looks", "row"] []
  g_state_behind : mg "state_behind" = some (.ref f_state_behind)
  f_check_question : Addr
  d_check_question : FuncData
  F_check_question : Fun K "check_question" "check_question" s_check_question f_check_question d_check_question
  b_check_question : Binds K d_check_question ["value"] []
  g_check_question : mg "check_question" = some (.ref f_check_question)
  f_check_two : Addr
  d_check_two : FuncData
  F_check_two : Fun K "check_two" "check_two" s_check_two f_check_two d_check_two
  b_check_two : Binds K d_check_two ["question", "other"] []
  g_check_two : mg "check_two" = some (.ref f_check_two)
  f_looks_of : Addr
  d_looks_of : FuncData
  F_looks_of : Fun K "looks_of" "looks_of" s_looks_of f_looks_of d_looks_of
  b_looks_of : Binds K d_looks_of ["question", "other"] []
  kb_looks_of_other_question : KBinds K d_looks_of ["question", "other"] ["other", "question"] (fun us ws => kbP 0 2 [1, 0] us ws) (fun us ws => kbP 0 2 [1, 0] us ws)
  g_looks_of : mg "looks_of" = some (.ref f_looks_of)
  f_state_of : Addr
  d_state_of : FuncData
  F_state_of : Fun K "state_of" "state_of" s_state_of f_state_of d_state_of
  b_state_of : Binds K d_state_of ["question", "other", "row"] []
  kb_state_of_row_other_question : KBinds K d_state_of ["question", "other", "row"] ["row", "other", "question"] (fun us ws => kbP 0 3 [2, 1, 0] us ws) (fun us ws => kbP 0 3 [2, 1, 0] us ws)
  g_state_of : mg "state_of" = some (.ref f_state_of)
  f_law_jar : Addr
  d_law_jar : FuncData
  F_law_jar : Fun K "_law_jar" "_law_jar" s_law_jar f_law_jar d_law_jar
  b_law_jar : Binds K d_law_jar ["script", "turn"] []
  g__law_jar : mg "_law_jar" = some (.ref f_law_jar)
  f_law_deal : Addr
  d_law_deal : FuncData
  F_law_deal : Fun K "_law_deal" "_law_deal" s_law_deal f_law_deal d_law_deal
  b_law_deal : Binds K d_law_deal ["jar", "many"] []
  g__law_deal : mg "_law_deal" = some (.ref f_law_deal)
  f_law_any : Addr
  d_law_any : FuncData
  F_law_any : Fun K "_law_any" "_law_any" s_law_any f_law_any d_law_any
  b_law_any : Binds K d_law_any ["jar", "some"] []
  g__law_any : mg "_law_any" = some (.ref f_law_any)
  f_law_word : Addr
  d_law_word : FuncData
  F_law_word : Fun K "_law_word" "_law_word" s_law_word f_law_word d_law_word
  b_law_word : Binds K d_law_word ["jar", "size"] []
  g__law_word : mg "_law_word" = some (.ref f_law_word)
  f_law_pool : Addr
  d_law_pool : FuncData
  F_law_pool : Fun K "_law_pool" "_law_pool" s_law_pool f_law_pool d_law_pool
  b_law_pool : Binds K d_law_pool ["jar", "many"] []
  g__law_pool : mg "_law_pool" = some (.ref f_law_pool)
  f_law_strange : Addr
  d_law_strange : FuncData
  F_law_strange : Fun K "_law_strange" "_law_strange" s_law_strange f_law_strange d_law_strange
  b_law_strange : Binds K d_law_strange ["jar", "pool"] []
  g__law_strange : mg "_law_strange" = some (.ref f_law_strange)
  f_law_row : Addr
  d_law_row : FuncData
  F_law_row : Fun K "_law_row" "_law_row" s_law_row f_law_row d_law_row
  b_law_row : Binds K d_law_row ["jar", "pool", "most"] []
  g__law_row : mg "_law_row" = some (.ref f_law_row)
  f_law_atom : Addr
  d_law_atom : FuncData
  F_law_atom : Fun K "_law_atom" "_law_atom" s_law_atom f_law_atom d_law_atom
  b_law_atom : Binds K d_law_atom ["jar", "pool"] []
  g__law_atom : mg "_law_atom" = some (.ref f_law_atom)
  f_law_question : Addr
  d_law_question : FuncData
  F_law_question : Fun K "_law_question" "_law_question" s_law_question f_law_question d_law_question
  b_law_question : Binds K d_law_question ["jar", "pool", "levels", "left"] []
  g__law_question : mg "_law_question" = some (.ref f_law_question)
  f_law_asked : Addr
  d_law_asked : FuncData
  F_law_asked : Fun K "_law_asked" "_law_asked" s_law_asked f_law_asked d_law_asked
  b_law_asked : Binds K d_law_asked ["jar", "pool"] []
  g__law_asked : mg "_law_asked" = some (.ref f_law_asked)
  f_law_atoms : Addr
  d_law_atoms : FuncData
  F_law_atoms : Fun K "_law_atoms" "_law_atoms" s_law_atoms f_law_atoms d_law_atoms
  b_law_atoms : Binds K d_law_atoms ["question"] []
  g__law_atoms : mg "_law_atoms" = some (.ref f_law_atoms)
  f_law_once : Addr
  d_law_once : FuncData
  F_law_once : Fun K "_law_once" "_law_once" s_law_once f_law_once d_law_once
  b_law_once : Binds K d_law_once ["some"] []
  g__law_once : mg "_law_once" = some (.ref f_law_once)
  f_law_look : Addr
  d_law_look : FuncData
  F_law_look : Fun K "_law_look" "_law_look" s_law_look f_law_look d_law_look
  b_law_look : Binds K d_law_look ["atom"] []
  g__law_look : mg "_law_look" = some (.ref f_law_look)
  f_law_is_true_of : Addr
  d_law_is_true_of : FuncData
  F_law_is_true_of : Fun K "_law_is_true_of" "_law_is_true_of" s_law_is_true_of f_law_is_true_of d_law_is_true_of
  b_law_is_true_of : Binds K d_law_is_true_of ["look", "row"] []
  g__law_is_true_of : mg "_law_is_true_of" = some (.ref f_law_is_true_of)
  f_law_looks : Addr
  d_law_looks : FuncData
  F_law_looks : Fun K "_law_looks" "_law_looks" s_law_looks f_law_looks d_law_looks
  b_law_looks : Binds K d_law_looks ["one", "two"] []
  g__law_looks : mg "_law_looks" = some (.ref f_law_looks)
  f_law_ago : Addr
  d_law_ago : FuncData
  F_law_ago : Fun K "_law_ago" "_law_ago" s_law_ago f_law_ago d_law_ago
  b_law_ago : Binds K d_law_ago ["row", "term", "most"] []
  g__law_ago : mg "_law_ago" = some (.ref f_law_ago)
  f_law_state_of : Addr
  d_law_state_of : FuncData
  F_law_state_of : Fun K "_law_state_of" "_law_state_of" s_law_state_of f_law_state_of d_law_state_of
  b_law_state_of : Binds K d_law_state_of ["look", "row"] []
  g__law_state_of : mg "_law_state_of" = some (.ref f_law_state_of)
  f_law_states_of : Addr
  d_law_states_of : FuncData
  F_law_states_of : Fun K "_law_states_of" "_law_states_of" s_law_states_of f_law_states_of d_law_states_of
  b_law_states_of : Binds K d_law_states_of ["looks", "row"] []
  g__law_states_of : mg "_law_states_of" = some (.ref f_law_states_of)
  f_law_long : Addr
  d_law_long : FuncData
  F_law_long : Fun K "_law_long" "_law_long" s_law_long f_law_long d_law_long
  b_law_long : Binds K d_law_long ["jar", "pool"] []
  g__law_long : mg "_law_long" = some (.ref f_law_long)
  f_law_right : Addr
  d_law_right : FuncData
  F_law_right : Fun K "_law_right" "_law_right" s_law_right f_law_right d_law_right
  b_law_right : Binds K d_law_right ["jar"] []
  g__law_right : mg "_law_right" = some (.ref f_law_right)
  f_law : Addr
  d_law : FuncData
  F_law : Fun K "law" "law" s_law f_law d_law
  b_law : Binds K d_law ["script"] []
  g_law : mg "law" = some (.ref f_law)
  t_SMALL_LETTERS : Tok
  g_SMALL_LETTERS : mg "SMALL_LETTERS" = some (.str "abcdefghijklmnopqrstuvwxyz" t_SMALL_LETTERS)
  t_FIGURES : Tok
  g_FIGURES : mg "FIGURES" = some (.str "0123456789" t_FIGURES)
  t_LEAST_CODE : Tok
  g_LEAST_CODE : mg "LEAST_CODE" = some (.int 32 t_LEAST_CODE)
  t_MOST_CODE : Tok
  g_MOST_CODE : mg "MOST_CODE" = some (.int 126 t_MOST_CODE)
  t_BARRED_CODE : Tok
  g_BARRED_CODE : mg "BARRED_CODE" = some (.int 37 t_BARRED_CODE)
  t_MOST_IN_TERM : Tok
  g_MOST_IN_TERM : mg "MOST_IN_TERM" = some (.int 210 t_MOST_IN_TERM)
  t_MOST_IN_NAME : Tok
  g_MOST_IN_NAME : mg "MOST_IN_NAME" = some (.int 12 t_MOST_IN_NAME)
  t_MOST_IN_BEGIN : Tok
  g_MOST_IN_BEGIN : mg "MOST_IN_BEGIN" = some (.int 6 t_MOST_IN_BEGIN)
  t_MOST_IN_ROW : Tok
  g_MOST_IN_ROW : mg "MOST_IN_ROW" = some (.int 400 t_MOST_IN_ROW)
  a_FIELDS : Addr
  g_FIELDS : mg "FIELDS" = some (.ref a_FIELDS)
  q_FIELDS : ∀ H, SqT K H a_FIELDS [V.str "head", V.str "body", V.str "any"]
  t_MOST_TERMS : Tok
  g_MOST_TERMS : mg "MOST_TERMS" = some (.int 4 t_MOST_TERMS)
  t_MOST_NEAR : Tok
  g_MOST_NEAR : mg "MOST_NEAR" = some (.int 6 t_MOST_NEAR)
  t_MOST_INSIDE : Tok
  g_MOST_INSIDE : mg "MOST_INSIDE" = some (.int 6 t_MOST_INSIDE)
  t_MOST_NODES : Tok
  g_MOST_NODES : mg "MOST_NODES" = some (.int 12 t_MOST_NODES)
  t_MOST_LEVELS : Tok
  g_MOST_LEVELS : mg "MOST_LEVELS" = some (.int 4 t_MOST_LEVELS)
  t_MOST_ATOMS : Tok
  g_MOST_ATOMS : mg "MOST_ATOMS" = some (.int 6 t_MOST_ATOMS)
  a_NEAR_SO : Addr
  g_NEAR_SO : mg "NEAR_SO" = some (.ref a_NEAR_SO)
  q_NEAR_SO : ∀ H, SqT K H a_NEAR_SO [V.int 9, V.int 9]
  z_abs : mg "abs" = none
  z_all : mg "all" = none
  z_any : mg "any" = none
  z_bool : mg "bool" = none
  z_divmod : mg "divmod" = none
  z_int : mg "int" = none
  z_isinstance : mg "isinstance" = none
  z_len : mg "len" = none
  z_max : mg "max" = none
  z_min : mg "min" = none
  z_ord : mg "ord" = none
  z_range : mg "range" = none
  z_repr : mg "repr" = none
  z_str : mg "str" = none
  z_sum : mg "sum" = none
  z_tuple : mg "tuple" = none
  z_zip : mg "zip" = none
def clT {P : Program} {K : PySem.W.Frag} {mg : Str → Option Value} (T : Txt P K mg) : Cl := fun c =>
  0
section
variable {P : Program} {w : World} {K : PySem.W.Frag} {mg : Str → Option Value} {base : Heap}
theorem ok_is_whole (T : Txt P K mg) : FnG P w K mg base CX0 1 T.f_is_whole T.d_is_whole ["value"] (FSp K (clT T) 1 F_is_whole) :=
  okP (lv := 0) (k := 0) (fb := b_is_whole) T.F_is_whole sc_is_whole rfl (fun cdv A outer s H E gd hr => ⟨_, (pss_one (ps_ret (pe_andK (K := K) (pe_callB (call_isiK (K := K)) rfl T.z_isinstance (by decide +kernel) (pa_cons (pv 0) (pa_cons (pe_bltn (v := .ty "int") (u := .type "int") rfl T.z_int (by decide +kernel) rfl) pa_nil))) (pe_one (pe_notK (K := K) (pe_callB (call_isiK (K := K)) rfl T.z_isinstance (by decide +kernel) (pa_cons (pv 0) (pa_cons (pe_bltn (v := .ty "bool") (u := .type "bool") rfl T.z_bool (by decide +kernel) rfl) pa_nil)))))))), (ss_ret (SemV.e (se_and (se_isi (sw_nm 0)) (se_not (se_isi (sw_nm 0))))))⟩)
theorem ok_is_number (T : Txt P K mg) : FnG P w K mg base CX0 2 T.f_is_number T.d_is_number ["value", "low", "high"] (FSp K (clT T) 3 F_is_number) :=
  okP (lv := 1) (k := 0) (fb := b_is_number) T.F_is_number sc_is_number rfl (fun cdv A outer s H E gd hr => ⟨_, (pss_cons (ps_if (PW.pt (pw_or (pt_not (pt_truthK (K := K) (pe_callG (E := fun _ _ _ => True) (by exact gd) (ok_is_whole T) (hr.mono (by omega)) rfl T.g_is_whole T.F_is_whole.kp T.b_is_whole .nil pass0 (pa_cons (pv 0) pa_nil)) (by intro _; rfl))) (pw_or1 (PW.pt (pw_and (pt_cmpR (u_notN (K := K) (cl := clT T)) (pv 1) pe_non (nomark _)) (pw_and1 (pt_cmpR (u_lt (K := K) (cl := clT T)) (pv 0) (pv 1) (nomark _))))))))
      (pss_one (ps_ret pe_bl)) pss_nil)
      (pss_one (ps_ret (pe_orK (K := K) (pe_cmpR (u_isN (K := K) (cl := clT T)) (pv 2) pe_non (nomark _)) (pe_one (pe_cmpR (u_le (K := K) (cl := clT T)) (pv 0) (pv 2) (nomark _))))))), (ss_cons (ss_if (st_or (st_not (st_truth (SemV.w (SemE.v (se_call (fun _ _ => .nil) (sa_s (se_var 0) sa_nil)))))) (st_and (st_test (se_op rs2 (sw_nm 1) (SemV.w se_non))) (st_test (se_op rs2 (sw_nm 0) (sw_nm 1)))))
      (ss_ret (SemV.e se_bl)) ss_nil)
      (ss_ret (SemV.e (se_or (se_op rs2 (sw_nm 2) (SemV.w se_non)) (se_op rs2 (sw_nm 0) (sw_nm 2))))))⟩)
theorem ok_is_tuple_of (T : Txt P K mg) : FnG P w K mg base CX0 1 T.f_is_tuple_of T.d_is_tuple_of ["value", "many"] (FSp K (clT T) 2 F_is_tuple_of) :=
  okP (lv := 0) (k := 0) (fb := b_is_tuple_of) T.F_is_tuple_of sc_is_tuple_of rfl (fun cdv A outer s H E gd hr => ⟨_, (pss_one (ps_ret (pe_andK (K := K) (pe_callB (call_isiK (K := K)) rfl T.z_isinstance (by decide +kernel) (pa_cons (pv 0) (pa_cons (pe_bltn (v := .ty "tuple") (u := .type "tuple") rfl T.z_tuple (by decide +kernel) rfl) pa_nil))) (pe_one (pe_cmpR (u_eq (K := K) (cl := clT T) (by exact hu64 hr)) (pe_callB (u_len (K := K) (cl := clT T)) rfl T.z_len (by decide +kernel) (pa_cons (pv 0) pa_nil)) (pv 1) (nomark _)))))), (ss_ret (SemV.e (se_and (se_isi (sw_nm 0)) (se_op rs2 (SemV.w (se_cb rsn (sw_cons (sw_nm 0) sw_nil))) (sw_nm 1)))))⟩)
theorem ok_is_sign (T : Txt P K mg) : FnG P w K mg base CX0 1 T.f_is_sign T.d_is_sign ["sign"] (FSp K (clT T) 1 F_is_sign) :=
  okP (lv := 0) (k := 1) (fb := b_is_sign) T.F_is_sign sc_is_sign rfl (fun cdv A outer s H E gd hr => ⟨_, (pss_cons (ps_set (i := 1) sc_is_sign.nd rfl (Or.inl rfl) (pe_callB (u_ordC (K := K) (cl := clT T)) rfl T.z_ord (by decide +kernel) (pa_cons (pv 0) pa_nil)))
      (pss_one (ps_ret (pe_andK (K := K) (pe_chain (u_le (K := K) (cl := clT T)) (u_le (K := K) (cl := clT T)) (pe_glob (v := .int (32)) rfl T.g_LEAST_CODE ⟨_, rfl⟩) (pv 1) (pe_glob (v := .int (126)) rfl T.g_MOST_CODE ⟨_, rfl⟩)) (pe_one (pe_cmpR (u_ne (K := K) (cl := clT T) (by exact hu64 hr)) (pv 1) (pe_glob (v := .int (37)) rfl T.g_BARRED_CODE ⟨_, rfl⟩) (nomark _))))))), (ss_cons (ss_asg (SemV.e (se_cb rsn (sw_cons (sw_nm 0) sw_nil))) (sg_name 1))
      (ss_ret (SemV.e (se_and (se_chain rs2 rs2 (SemV.w se_int) (sw_nm 1) (SemV.w se_int)) (se_op rs2 (sw_nm 1) (SemV.w se_int))))))⟩)
theorem ok_is_string (T : Txt P K mg) : FnG P w K mg base CX0 2 T.f_is_string T.d_is_string ["value", "most"] (FSp K (clT T) 2 F_is_string) :=
  okP (lv := 1) (k := 1) (fb := b_is_string) T.F_is_string sc_is_string rfl (fun cdv A outer s H E gd hr => ⟨_, (pss_one (ps_ret (pe_andK (K := K) (pe_callB (call_isiK (K := K)) rfl T.z_isinstance (by decide +kernel) (pa_cons (pv 0) (pa_cons (pe_bltn (v := .ty "str") (u := .type "str") rfl T.z_str (by decide +kernel) rfl) pa_nil))) (pe_andK (K := K) (pe_cmpR (u_le (K := K) (cl := clT T)) (pe_callB (u_len (K := K) (cl := clT T)) rfl T.z_len (by decide +kernel) (pa_cons (pv 0) pa_nil)) (pv 1) (nomark _)) (pe_one (pe_callB (u_all (K := K) (cl := clT T) rfl) rfl T.z_all (by decide +kernel) (pa_cons (pe_lc (own := [("sign", 2)]) rfl sc_is_string.nd (pi_u (K := K) (pv 0)) (blkOk_by (own := [("sign", 2)]) (N := N_is_string) (sc := defScope s_is_string) (by decide +kernel)) (fun _ _ _ _ _ => (pg_name (i := 2) sc_is_string.nd rfl (by first | exact Or.inl rfl | exact Or.inr rfl))) (fun _ _ _ _ _ => (by exact pts_nil)) (fun _ _ _ _ _ => (by exact (pe_callG (E := fun _ _ _ => True) (by exact gd) (ok_is_sign T) (hr.mono (by omega)) rfl T.g_is_sign T.F_is_sign.kp T.b_is_sign .nil pass0 (pa_cons (pv 2) pa_nil))))) pa_nil))))))), (ss_ret (SemV.e (se_and (se_isi (sw_nm 0)) (se_and (se_op rs2 (SemV.w (se_cb rsn (sw_cons (sw_nm 0) sw_nil))) (sw_nm 1)) (se_cb rsn (sw_cons (SemV.w (SemE.v (se_lc (vs := [2]) (si_u (se_var 0)) (sg_name 2) st_yes (SemE.v (se_call (fun _ _ => .nil) (sa_s (se_var 2) sa_nil))) (by decide)))) sw_nil))))))⟩)
theorem ok_is_made_of (T : Txt P K mg) : FnG P w K mg base CX0 1 T.f_is_made_of T.d_is_made_of ["value", "signs", "least", "most"] (FSp K (clT T) 4 F_is_made_of) :=
  okP (lv := 0) (k := 1) (fb := b_is_made_of) T.F_is_made_of sc_is_made_of rfl (fun cdv A outer s H E gd hr => ⟨_, (pss_cons (ps_if (PW.pt (pw_or (pt_not (pt_truthK (K := K) (pe_callB (call_isiK (K := K)) rfl T.z_isinstance (by decide +kernel) (pa_cons (pv 0) (pa_cons (pe_bltn (v := .ty "str") (u := .type "str") rfl T.z_str (by decide +kernel) rfl) pa_nil))) (by intro _; rfl))) (pw_or1 (pt_not (pt_chain (u_le (K := K) (cl := clT T)) (u_le (K := K) (cl := clT T)) (pv 2) (pe_callB (u_len (K := K) (cl := clT T)) rfl T.z_len (by decide +kernel) (pa_cons (pv 0) pa_nil)) (pv 3))))))
      (pss_one (ps_ret pe_bl)) pss_nil)
      (pss_one (ps_ret (pe_callB (u_all (K := K) (cl := clT T) rfl) rfl T.z_all (by decide +kernel) (pa_cons (pe_lc (own := [("sign", 4)]) rfl sc_is_made_of.nd (pi_u (K := K) (pv 0)) (blkOk_by (own := [("sign", 4)]) (N := N_is_made_of) (sc := defScope s_is_made_of) (by decide +kernel)) (fun _ _ _ _ _ => (pg_name (i := 4) sc_is_made_of.nd rfl (by first | exact Or.inl rfl | exact Or.inr rfl))) (fun _ _ _ _ _ => (by exact pts_nil)) (fun _ _ _ _ _ => (by exact (pe_cmpR (u_in (K := K) (cl := clT T) (by exact hu65 hr)) (pv 4) (pv 1) (by rfl))))) pa_nil))))), (ss_cons (ss_if (st_or (st_not (st_truth (SemV.w (se_isi (sw_nm 0))))) (st_not (st_test (se_chain rs2 rs2 (sw_nm 2) (SemV.w (se_cb rsn (sw_cons (sw_nm 0) sw_nil))) (sw_nm 3)))))
      (ss_ret (SemV.e se_bl)) ss_nil)
      (ss_ret (SemV.e (se_cb rsn (sw_cons (SemV.w (SemE.v (se_lc (vs := [4]) (si_u (se_var 0)) (sg_name 4) st_yes (se_op rs2 (sw_nm 4) (sw_nm 1)) (by decide)))) sw_nil)))))⟩)
theorem ok_is_named (T : Txt P K mg) : FnG P w K mg base CX0 2 T.f_is_named T.d_is_named ["value"] (FSp K (clT T) 1 F_is_named) :=
  okP (lv := 1) (k := 0) (fb := b_is_named) T.F_is_named sc_is_named rfl (fun cdv A outer s H E gd hr => ⟨_, (pss_one (ps_ret (pe_callG (E := fun _ _ _ => True) (by exact gd) (ok_is_made_of T) (hr.mono (by omega)) rfl T.g_is_made_of T.F_is_made_of.kp T.b_is_made_of .nil pass0 (pa_cons (pv 0) (pa_cons (pe_op (u_add (K := K) (cl := clT T)) (pe_glob (v := .str "abcdefghijklmnopqrstuvwxyz") rfl T.g_SMALL_LETTERS ⟨_, rfl⟩) (pe_glob (v := .str "0123456789") rfl T.g_FIGURES ⟨_, rfl⟩)) (pa_cons pe_int (pa_cons (pe_glob (v := .int (12)) rfl T.g_MOST_IN_NAME ⟨_, rfl⟩) pa_nil))))))), (ss_ret (se_call (fun _ _ => .nil) (sa_s (se_var 0) (sa_s (SemE.v (se_opE rs2e (SemV.w se_str) (SemV.w se_str))) (sa_s se_int (sa_s se_int sa_nil))))))⟩)
theorem ok_is_begin (T : Txt P K mg) : FnG P w K mg base CX0 2 T.f_is_begin T.d_is_begin ["value"] (FSp K (clT T) 1 F_is_begin) :=
  okP (lv := 1) (k := 0) (fb := b_is_begin) T.F_is_begin sc_is_begin rfl (fun cdv A outer s H E gd hr => ⟨_, (pss_one (ps_ret (pe_callG (E := fun _ _ _ => True) (by exact gd) (ok_is_made_of T) (hr.mono (by omega)) rfl T.g_is_made_of T.F_is_made_of.kp T.b_is_made_of .nil pass0 (pa_cons (pv 0) (pa_cons (pe_op (u_add (K := K) (cl := clT T)) (pe_glob (v := .str "abcdefghijklmnopqrstuvwxyz") rfl T.g_SMALL_LETTERS ⟨_, rfl⟩) (pe_glob (v := .str "0123456789") rfl T.g_FIGURES ⟨_, rfl⟩)) (pa_cons pe_int (pa_cons (pe_glob (v := .int (6)) rfl T.g_MOST_IN_BEGIN ⟨_, rfl⟩) pa_nil))))))), (ss_ret (se_call (fun _ _ => .nil) (sa_s (se_var 0) (sa_s (SemE.v (se_opE rs2e (SemV.w se_str) (SemV.w se_str))) (sa_s se_int (sa_s se_int sa_nil))))))⟩)
theorem ok_is_spaceless (T : Txt P K mg) : FnG P w K mg base CX0 3 T.f_is_spaceless T.d_is_spaceless ["value", "most"] (FSp K (clT T) 2 F_is_spaceless) :=
  okP (lv := 2) (k := 0) (fb := b_is_spaceless) T.F_is_spaceless sc_is_spaceless rfl (fun cdv A outer s H E gd hr => ⟨_, (pss_one (ps_ret (pe_andK (K := K) (pe_callG (E := fun _ _ _ => True) (by exact gd) (ok_is_string T) (hr.mono (by omega)) rfl T.g_is_string T.F_is_string.kp T.b_is_string .nil pass0 (pa_cons (pv 0) (pa_cons (pv 1) pa_nil))) (pe_one (pe_cmpR (u_notIn (K := K) (cl := clT T) (by exact hu65 hr)) pe_str (pv 0) (by rfl)))))), (ss_ret (SemV.e (se_and (SemE.v (se_call (fun _ _ => .nil) (sa_s (se_var 0) (sa_s (se_var 1) sa_nil)))) (se_op rs2 (SemV.w se_str) (sw_nm 0)))))⟩)
theorem ok_is_term (T : Txt P K mg) : FnG P w K mg base CX0 4 T.f_is_term T.d_is_term ["value"] (FSp K (clT T) 1 F_is_term) :=
  okP (lv := 3) (k := 0) (fb := b_is_term) T.F_is_term sc_is_term rfl (fun cdv A outer s H E gd hr => ⟨_, (pss_one (ps_ret (pe_andK (K := K) (pe_callG (E := fun _ _ _ => True) (by exact gd) (ok_is_spaceless T) (hr.mono (by omega)) rfl T.g_is_spaceless T.F_is_spaceless.kp T.b_is_spaceless .nil pass0 (pa_cons (pv 0) (pa_cons (pe_glob (v := .int (210)) rfl T.g_MOST_IN_TERM ⟨_, rfl⟩) pa_nil))) (pe_one (pe_cmpR (u_ne (K := K) (cl := clT T) (by exact hu64 hr)) (pv 0) pe_str (nomark _)))))), (ss_ret (SemV.e (se_and (SemE.v (se_call (fun _ _ => .nil) (sa_s (se_var 0) (sa_s se_int sa_nil)))) (se_op rs2 (sw_nm 0) (SemV.w se_str)))))⟩)
theorem ok_is_rowed (T : Txt P K mg) : FnG P w K mg base CX0 5 T.f_is_rowed T.d_is_rowed ["value"] (FSp K (clT T) 1 F_is_rowed) :=
  okP (lv := 4) (k := 1) (fb := b_is_rowed) T.F_is_rowed sc_is_rowed rfl (fun cdv A outer s H E gd hr => ⟨_, (pss_cons (ps_if (PW.pt (pw_or (pt_not (pt_truthK (K := K) (pe_callB (call_isiK (K := K)) rfl T.z_isinstance (by decide +kernel) (pa_cons (pv 0) (pa_cons (pe_bltn (v := .ty "tuple") (u := .type "tuple") rfl T.z_tuple (by decide +kernel) rfl) pa_nil))) (by intro _; rfl))) (pw_or1 (pt_cmpR (u_gt (K := K) (cl := clT T)) (pe_callB (u_len (K := K) (cl := clT T)) rfl T.z_len (by decide +kernel) (pa_cons (pv 0) pa_nil)) (pe_glob (v := .int (400)) rfl T.g_MOST_IN_ROW ⟨_, rfl⟩) (nomark _)))))
      (pss_one (ps_ret pe_bl)) pss_nil)
      (pss_one (ps_ret (pe_callB (u_all (K := K) (cl := clT T) rfl) rfl T.z_all (by decide +kernel) (pa_cons (pe_lc (own := [("term", 1)]) rfl sc_is_rowed.nd (pi_u (K := K) (pv 0)) (blkOk_by (own := [("term", 1)]) (N := N_is_rowed) (sc := defScope s_is_rowed) (by decide +kernel)) (fun _ _ _ _ _ => (pg_name (i := 1) sc_is_rowed.nd rfl (by first | exact Or.inl rfl | exact Or.inr rfl))) (fun _ _ _ _ _ => (by exact pts_nil)) (fun _ _ _ _ _ => (by exact (pe_orK (K := K) (pe_cmpR (u_isN (K := K) (cl := clT T)) (pv 1) pe_non (nomark _)) (pe_one (pe_callG (E := fun _ _ _ => True) (by exact gd) (ok_is_term T) (hr.mono (by omega)) rfl T.g_is_term T.F_is_term.kp T.b_is_term .nil pass0 (pa_cons (pv 1) pa_nil))))))) pa_nil))))), (ss_cons (ss_if (st_or (st_not (st_truth (SemV.w (se_isi (sw_nm 0))))) (st_test (se_op rs2 (SemV.w (se_cb rsn (sw_cons (sw_nm 0) sw_nil))) (SemV.w se_int))))
      (ss_ret (SemV.e se_bl)) ss_nil)
      (ss_ret (SemV.e (se_cb rsn (sw_cons (SemV.w (SemE.v (se_lc (vs := [1]) (si_u (se_var 0)) (sg_name 1) st_yes (se_or (se_op rs2 (sw_nm 1) (SemV.w se_non)) (SemE.v (se_call (fun _ _ => .nil) (sa_s (se_var 1) sa_nil)))) (by decide)))) sw_nil)))))⟩)
theorem ok_check_row (T : Txt P K mg) : FnG P w K mg base CX0 6 T.f_check_row T.d_check_row ["value"] (FSp K (clT T) 1 F_check_row) :=
  okP (lv := 5) (k := 0) (fb := b_check_row) T.F_check_row sc_check_row rfl (fun cdv A outer s H E gd hr => ⟨_, (pss_one (ps_if (pt_not (pt_truthK (K := K) (pe_callG (E := fun _ _ _ => True) (by exact gd) (ok_is_rowed T) (hr.mono (by omega)) rfl T.g_is_rowed T.F_is_rowed.kp T.b_is_rowed .nil pass0 (pa_cons (pv 0) pa_nil)) (by intro _; rfl)))
      (pss_one ps_never) pss_nil)), (ss_if (st_not (st_truth (SemV.w (SemE.v (se_call (fun _ _ => .nil) (sa_s (se_var 0) sa_nil))))))
      ss_never ss_nil)⟩)
theorem ok_are_terms (T : Txt P K mg) : FnG P w K mg base CX0 3 T.f_are_terms T.d_are_terms ["value"] (FSp K (clT T) 1 F_are_terms) :=
  okP (lv := 2) (k := 1) (fb := b_are_terms) T.F_are_terms sc_are_terms rfl (fun cdv A outer s H E gd hr => ⟨_, (pss_cons (ps_if (PW.pt (pw_or (pt_not (pt_truthK (K := K) (pe_callB (call_isiK (K := K)) rfl T.z_isinstance (by decide +kernel) (pa_cons (pv 0) (pa_cons (pe_bltn (v := .ty "tuple") (u := .type "tuple") rfl T.z_tuple (by decide +kernel) rfl) pa_nil))) (by intro _; rfl))) (pw_or1 (pt_not (pt_chain (u_le (K := K) (cl := clT T)) (u_le (K := K) (cl := clT T)) pe_int (pe_callB (u_len (K := K) (cl := clT T)) rfl T.z_len (by decide +kernel) (pa_cons (pv 0) pa_nil)) (pe_glob (v := .int (4)) rfl T.g_MOST_TERMS ⟨_, rfl⟩))))))
      (pss_one (ps_ret pe_bl)) pss_nil)
      (pss_one (ps_ret (pe_callB (u_all (K := K) (cl := clT T) rfl) rfl T.z_all (by decide +kernel) (pa_cons (pe_lc (own := [("each", 1)]) rfl sc_are_terms.nd (pi_u (K := K) (pv 0)) (blkOk_by (own := [("each", 1)]) (N := N_are_terms) (sc := defScope s_are_terms) (by decide +kernel)) (fun _ _ _ _ _ => (pg_name (i := 1) sc_are_terms.nd rfl (by first | exact Or.inl rfl | exact Or.inr rfl))) (fun _ _ _ _ _ => (by exact pts_nil)) (fun _ _ _ _ _ => (by exact (pe_callG (E := fun _ _ _ => True) (by exact gd) (ok_is_named T) (hr.mono (by omega)) rfl T.g_is_named T.F_is_named.kp T.b_is_named .nil pass0 (pa_cons (pv 1) pa_nil))))) pa_nil))))), (ss_cons (ss_if (st_or (st_not (st_truth (SemV.w (se_isi (sw_nm 0))))) (st_not (st_test (se_chain rs2 rs2 (SemV.w se_int) (SemV.w (se_cb rsn (sw_cons (sw_nm 0) sw_nil))) (SemV.w se_int)))))
      (ss_ret (SemV.e se_bl)) ss_nil)
      (ss_ret (SemV.e (se_cb rsn (sw_cons (SemV.w (SemE.v (se_lc (vs := [1]) (si_u (se_var 0)) (sg_name 1) st_yes (SemE.v (se_call (fun _ _ => .nil) (sa_s (se_var 1) sa_nil))) (by decide)))) sw_nil)))))⟩)
theorem ok_is_atom (T : Txt P K mg) : FnG P w K mg base CX0 4 T.f_is_atom T.d_is_atom ["value"] (FSp K (clT T) 1 F_is_atom) :=
  okP (lv := 3) (k := 2) (fb := b_is_atom) T.F_is_atom sc_is_atom rfl (fun cdv A outer s H E gd hr => ⟨_, (pss_cons (ps_if (PW.pt (pw_or (pt_not (pt_truthK (K := K) (pe_callB (call_isiK (K := K)) rfl T.z_isinstance (by decide +kernel) (pa_cons (pv 0) (pa_cons (pe_bltn (v := .ty "tuple") (u := .type "tuple") rfl T.z_tuple (by decide +kernel) rfl) pa_nil))) (by intro _; rfl))) (pw_or1 (pt_cmpR (u_lt (K := K) (cl := clT T)) (pe_callB (u_len (K := K) (cl := clT T)) rfl T.z_len (by decide +kernel) (pa_cons (pv 0) pa_nil)) pe_int (nomark _)))))
      (pss_one (ps_ret pe_bl)) pss_nil)
      (pss_cons (ps_par (i := 1) (j := 2) rfl sc_is_atom.nd rfl rfl (by decide) rfl rfl (pa_cons (pe_ix (u_ix (K := K) (cl := clT T)) (pv 0) pe_int (fun _ _ => rfl)) (pa_cons (pe_ix (u_ix (K := K) (cl := clT T)) (pv 0) pe_int (fun _ _ => rfl)) pa_nil)) (by rfl))
      (pss_cons (ps_if (PW.pt (pw_or (pt_not (pt_truthK (K := K) (pe_callB (call_isiK (K := K)) rfl T.z_isinstance (by decide +kernel) (pa_cons (pv 1) (pa_cons (pe_bltn (v := .ty "str") (u := .type "str") rfl T.z_str (by decide +kernel) rfl) pa_nil))) (by intro _; rfl))) (pw_or (pt_not (pt_truthK (K := K) (pe_callB (call_isiK (K := K)) rfl T.z_isinstance (by decide +kernel) (pa_cons (pv 2) (pa_cons (pe_bltn (v := .ty "str") (u := .type "str") rfl T.z_str (by decide +kernel) rfl) pa_nil))) (by intro _; rfl))) (pw_or1 (pt_cmpR (u_notIn (K := K) (cl := clT T) (by exact hu65 hr)) (pv 2) (pe_glob (v := .ref T.a_FIELDS) rfl T.g_FIELDS rfl) (by rfl))))))
      (pss_one (ps_ret pe_bl)) pss_nil)
      (pss_cons (ps_if (pt_cmpR (u_eq (K := K) (cl := clT T) (by exact hu64 hr)) (pv 1) pe_str (nomark _))
      (pss_one (ps_ret (pe_andK (K := K) (pe_cmpR (u_eq (K := K) (cl := clT T) (by exact hu64 hr)) (pe_callB (u_len (K := K) (cl := clT T)) rfl T.z_len (by decide +kernel) (pa_cons (pv 0) pa_nil)) pe_int (nomark _)) (pe_andK (K := K) (pe_callG (E := fun _ _ _ => True) (by exact gd) (ok_is_named T) (hr.mono (by omega)) rfl T.g_is_named T.F_is_named.kp T.b_is_named .nil pass0 (pa_cons (pe_ix (u_ix (K := K) (cl := clT T)) (pv 0) pe_int (fun _ _ => rfl)) pa_nil)) (pe_andK (K := K) (pe_callG (E := fun _ _ _ => True) (by exact gd) (ok_is_named T) (hr.mono (by omega)) rfl T.g_is_named T.F_is_named.kp T.b_is_named .nil pass0 (pa_cons (pe_ix (u_ix (K := K) (cl := clT T)) (pv 0) pe_int (fun _ _ => rfl)) pa_nil)) (pe_one (pe_callG (E := fun _ _ _ => True) (by exact gd) (ok_is_number T) (hr.mono (by omega)) rfl T.g_is_number T.F_is_number.kp T.b_is_number .nil pass0 (pa_cons (pe_ix (u_ix (K := K) (cl := clT T)) (pv 0) pe_int (fun _ _ => rfl)) (pa_cons pe_int (pa_cons (pe_glob (v := .int (6)) rfl T.g_MOST_NEAR ⟨_, rfl⟩) pa_nil)))))))))) pss_nil)
      (pss_cons (ps_if (pt_cmpR (u_ne (K := K) (cl := clT T) (by exact hu64 hr)) (pe_callB (u_len (K := K) (cl := clT T)) rfl T.z_len (by decide +kernel) (pa_cons (pv 0) pa_nil)) pe_int (nomark _))
      (pss_one (ps_ret pe_bl)) pss_nil)
      (pss_cons (ps_if (pt_cmpR (u_eq (K := K) (cl := clT T) (by exact hu64 hr)) (pv 1) pe_str (nomark _))
      (pss_one (ps_ret (pe_callG (E := fun _ _ _ => True) (by exact gd) (ok_is_named T) (hr.mono (by omega)) rfl T.g_is_named T.F_is_named.kp T.b_is_named .nil pass0 (pa_cons (pe_ix (u_ix (K := K) (cl := clT T)) (pv 0) pe_int (fun _ _ => rfl)) pa_nil)))) pss_nil)
      (pss_cons (ps_if (pt_cmpR (u_eq (K := K) (cl := clT T) (by exact hu64 hr)) (pv 1) pe_str (nomark _))
      (pss_one (ps_ret (pe_callG (E := fun _ _ _ => True) (by exact gd) (ok_is_begin T) (hr.mono (by omega)) rfl T.g_is_begin T.F_is_begin.kp T.b_is_begin .nil pass0 (pa_cons (pe_ix (u_ix (K := K) (cl := clT T)) (pv 0) pe_int (fun _ _ => rfl)) pa_nil)))) pss_nil)
      (pss_one (ps_ret (pe_andK (K := K) (pe_cmpR (u_eq (K := K) (cl := clT T) (by exact hu64 hr)) (pv 1) pe_str (nomark _)) (pe_one (pe_callG (E := fun _ _ _ => True) (by exact gd) (ok_are_terms T) (hr.mono (by omega)) rfl T.g_are_terms T.F_are_terms.kp T.b_are_terms .nil pass0 (pa_cons (pe_ix (u_ix (K := K) (cl := clT T)) (pv 0) pe_int (fun _ _ => rfl)) pa_nil))))))))))))), (ss_cons (ss_if (st_or (st_not (st_truth (SemV.w (se_isi (sw_nm 0))))) (st_test (se_op rs2 (SemV.w (se_cb rsn (sw_cons (sw_nm 0) sw_nil))) (SemV.w se_int))))
      (ss_ret (SemV.e se_bl)) ss_nil)
      (ss_cons (ss_par (sa_e (SemV.e (se_op rs2 (sw_nm 0) (SemV.w se_int))) (sa_e (SemV.e (se_op rs2 (sw_nm 0) (SemV.w se_int))) sa_nil)))
      (ss_cons (ss_if (st_or (st_not (st_truth (SemV.w (se_isi (sw_nm 1))))) (st_or (st_not (st_truth (SemV.w (se_isi (sw_nm 2))))) (st_test (se_op rs2 (sw_nm 2) (SemV.w (se_c (fun Z H => .tup (T.q_FIELDS H) (.cons (.str _) (.cons (.str _) (.cons (.str _) .nil))))))))))
      (ss_ret (SemV.e se_bl)) ss_nil)
      (ss_cons (ss_if (st_test (se_op rs2 (sw_nm 1) (SemV.w se_str)))
      (ss_ret (SemV.e (se_and (se_op rs2 (SemV.w (se_cb rsn (sw_cons (sw_nm 0) sw_nil))) (SemV.w se_int)) (se_and (SemE.v (se_call (fun _ _ => .nil) (sa_s (se_op rs2 (sw_nm 0) (SemV.w se_int)) sa_nil))) (se_and (SemE.v (se_call (fun _ _ => .nil) (sa_s (se_op rs2 (sw_nm 0) (SemV.w se_int)) sa_nil))) (SemE.v (se_call (fun _ _ => .nil) (sa_s (se_op rs2 (sw_nm 0) (SemV.w se_int)) (sa_s se_int (sa_s se_int sa_nil)))))))))) ss_nil)
      (ss_cons (ss_if (st_test (se_op rs2 (SemV.w (se_cb rsn (sw_cons (sw_nm 0) sw_nil))) (SemV.w se_int)))
      (ss_ret (SemV.e se_bl)) ss_nil)
      (ss_cons (ss_if (st_test (se_op rs2 (sw_nm 1) (SemV.w se_str)))
      (ss_ret (se_call (fun _ _ => .nil) (sa_s (se_op rs2 (sw_nm 0) (SemV.w se_int)) sa_nil))) ss_nil)
      (ss_cons (ss_if (st_test (se_op rs2 (sw_nm 1) (SemV.w se_str)))
      (ss_ret (se_call (fun _ _ => .nil) (sa_s (se_op rs2 (sw_nm 0) (SemV.w se_int)) sa_nil))) ss_nil)
      (ss_ret (SemV.e (se_and (se_op rs2 (sw_nm 1) (SemV.w se_str)) (SemE.v (se_call (fun _ _ => .nil) (sa_s (se_op rs2 (sw_nm 0) (SemV.w se_int)) sa_nil)))))))))))))⟩)
theorem ok_inside_of (T : Txt P K mg) : FnG P w K mg base CX0 2 T.f_inside_of T.d_inside_of ["value"] (FSp K (clT T) 1 F_inside_of) :=
  okP (lv := 1) (k := 2) (fb := b_inside_of) T.F_inside_of sc_inside_of rfl (fun cdv A outer s H E gd hr => ⟨_, (pss_cons (ps_if (PW.pt (pw_or (pt_not (pt_truthK (K := K) (pe_callG (E := fun _ _ _ => True) (by exact gd) (ok_is_tuple_of T) (hr.mono (by omega)) rfl T.g_is_tuple_of T.F_is_tuple_of.kp T.b_is_tuple_of .nil pass0 (pa_cons (pv 0) (pa_cons pe_int pa_nil))) (by intro _; rfl))) (pw_or1 (pt_not (pt_truthK (K := K) (pe_callB (call_isiK (K := K)) rfl T.z_isinstance (by decide +kernel) (pa_cons (pe_ix (u_ix (K := K) (cl := clT T)) (pv 0) pe_int (fun _ _ => rfl)) (pa_cons (pe_bltn (v := .ty "str") (u := .type "str") rfl T.z_str (by decide +kernel) rfl) pa_nil))) (by intro _; rfl))))))
      (pss_one (ps_ret pe_non)) pss_nil)
      (pss_cons (ps_asg (pv 0) (pg_tupK (K := K) (n := 2) rfl (pgs_cons (pg_name (i := 1) sc_inside_of.nd rfl (by first | exact Or.inl rfl | exact Or.inr rfl)) (pgs_cons (pg_name (i := 2) sc_inside_of.nd rfl (by first | exact Or.inl rfl | exact Or.inr rfl)) pgs_nil))))
      (pss_cons (ps_if (pt_cmpR (u_eq (K := K) (cl := clT T) (by exact hu64 hr)) (pv 1) pe_str (nomark _))
      (pss_one (ps_ret (pe_tup (pa_cons (pv 2) pa_nil)))) pss_nil)
      (pss_cons (ps_if (PW.pt (pw_or (pt_cmpR (u_notIn (K := K) (cl := clT T) (by exact hu65 hr)) (pv 1) (pe_tup (pa_cons pe_str (pa_cons pe_str pa_nil))) (by rfl)) (pw_or (pt_not (pt_truthK (K := K) (pe_callB (call_isiK (K := K)) rfl T.z_isinstance (by decide +kernel) (pa_cons (pv 2) (pa_cons (pe_bltn (v := .ty "tuple") (u := .type "tuple") rfl T.z_tuple (by decide +kernel) rfl) pa_nil))) (by intro _; rfl))) (pw_or1 (pt_not (pt_chain (u_le (K := K) (cl := clT T)) (u_le (K := K) (cl := clT T)) pe_int (pe_callB (u_len (K := K) (cl := clT T)) rfl T.z_len (by decide +kernel) (pa_cons (pv 2) pa_nil)) (pe_glob (v := .int (6)) rfl T.g_MOST_INSIDE ⟨_, rfl⟩)))))))
      (pss_one (ps_ret pe_non)) pss_nil)
      (pss_one (ps_ret (pv 2))))))), (ss_cons (ss_if (st_or (st_not (st_truth (SemV.w (SemE.v (se_call (fun _ _ => .nil) (sa_s (se_var 0) (sa_s se_int sa_nil))))))) (st_not (st_truth (SemV.w (se_isi (SemV.w (se_op rs2 (sw_nm 0) (SemV.w se_int))))))))
      (ss_ret (SemV.e se_non)) ss_nil)
      (ss_cons (ss_asg (SemV.e (se_var 0)) (sg_tup (sgs_cons (sg_name 1) (sgs_cons (sg_name 2) sgs_nil))))
      (ss_cons (ss_if (st_test (se_op rs2 (sw_nm 1) (SemV.w se_str)))
      (ss_ret (SemV.e (se_tup (sl_cons (se_var 2) sl_nil)))) ss_nil)
      (ss_cons (ss_if (st_or (st_test (se_op rs2 (sw_nm 1) (SemV.w (se_tup (sl_cons se_str (sl_cons se_str sl_nil)))))) (st_or (st_not (st_truth (SemV.w (se_isi (sw_nm 2))))) (st_not (st_test (se_chain rs2 rs2 (SemV.w se_int) (SemV.w (se_cb rsn (sw_cons (sw_nm 2) sw_nil))) (SemV.w se_int))))))
      (ss_ret (SemV.e se_non)) ss_nil)
      (ss_ret (se_mv 2))))))⟩)
theorem ok_counted (T : Txt P K mg) : ∀ m, FnG P w K mg base CX0 (4 + m) T.f_counted T.d_counted ["value", "levels"] (FSp K (clT T) 2 (F_counted m))
  | 0 => ok_no
  | m + 1 => by
    have ih := ok_counted T m
    exact okP (lv := 4 + m) (k := 7) (fb := b_counted (F_counted m)) T.F_counted sc_counted rfl (fun cdv A outer s H E gd hr => ⟨_, (pss_cons (ps_if (pt_cmpR (u_eq (K := K) (cl := clT T) (by exact hu64 hr)) (pv 1) pe_int (nomark _))
      (pss_one (ps_ret pe_non)) pss_nil)
      (pss_cons (ps_if (pt_truthK (K := K) (pe_callG (E := fun _ _ _ => True) (by exact gd) (ok_is_atom T) (hr.mono (by omega)) rfl T.g_is_atom T.F_is_atom.kp T.b_is_atom .nil pass0 (pa_cons (pv 0) pa_nil)) (by intro _; rfl))
      (pss_one (ps_ret (pe_tup (pa_cons pe_int (pa_cons pe_int pa_nil))))) pss_nil)
      (pss_cons (ps_set (i := 2) sc_counted.nd rfl (Or.inl rfl) (pe_callG (E := fun _ _ _ => True) (by exact gd) (ok_inside_of T) (hr.mono (by omega)) rfl T.g_inside_of T.F_inside_of.kp T.b_inside_of .nil pass0 (pa_cons (pv 0) pa_nil)))
      (pss_cons (ps_if (pt_cmpR (u_isN (K := K) (cl := clT T)) (pv 2) pe_non (nomark _))
      (pss_one (ps_ret pe_non)) pss_nil)
      (pss_cons (ps_setLc (i := 3) (own := [("each", 4)]) rfl sc_counted.nd rfl rfl (sw_true rfl rfl rfl (by decide +kernel)) (pi_u (K := K) (pv 2)) (blkOk_by (own := [("each", 4)]) (N := N_counted) (sc := defScope s_counted) (by decide +kernel)) (fun _ _ _ _ _ => (pg_name (i := 4) sc_counted.nd rfl (by first | exact Or.inl rfl | exact Or.inr rfl))) (fun _ _ _ _ _ => (by exact pts_nil)) (fun _ _ _ _ _ => (by exact (pe_callG (E := fun _ _ _ => True) (by exact gd) ih (hr.mono (by omega)) rfl T.g_counted T.F_counted.kp T.b_counted .nil pass0 (pa_cons (pv 4) (pa_cons (pe_op (u_sub (K := K) (cl := clT T)) (pv 1) pe_int) pa_nil))))))
      (pss_cons (ps_if (pt_truthK (K := K) (pe_callB (u_any (K := K) (cl := clT T) rfl) rfl T.z_any (by decide +kernel) (pa_cons (pe_lc (own := [("size", 5)]) rfl sc_counted.nd (pi_u (K := K) (pv 3)) (blkOk_by (own := [("size", 5)]) (N := N_counted) (sc := defScope s_counted) (by decide +kernel)) (fun _ _ _ _ _ => (pg_name (i := 5) sc_counted.nd rfl (by first | exact Or.inl rfl | exact Or.inr rfl))) (fun _ _ _ _ _ => (by exact pts_nil)) (fun _ _ _ _ _ => (by exact (pe_cmpR (u_isN (K := K) (cl := clT T)) (pv 5) pe_non (nomark _))))) pa_nil)) (by intro _; rfl))
      (pss_one (ps_ret pe_non)) pss_nil)
      (pss_one (ps_ret (pe_tup (pa_cons (pe_op (u_add (K := K) (cl := clT T)) pe_int (pe_callB (u_sum (K := K) (cl := clT T) rfl) rfl T.z_sum (by decide +kernel) (pa_cons (pe_lc (own := [("nodes", 8), ("_", 6)]) rfl sc_counted.nd (pi_u (K := K) (pv 3)) (blkOk_by (own := [("nodes", 8), ("_", 6)]) (N := N_counted) (sc := defScope s_counted) (by decide +kernel)) (fun _ _ _ _ _ => (pg_tupK (K := K) (n := 2) rfl (pgs_cons (pg_name (i := 8) sc_counted.nd rfl (by first | exact Or.inl rfl | exact Or.inr rfl)) (pgs_cons (pg_name (i := 6) sc_counted.nd rfl (by first | exact Or.inl rfl | exact Or.inr rfl)) pgs_nil)))) (fun _ _ _ _ _ => (by exact pts_nil)) (fun _ _ _ _ _ => (by exact (pv 8)))) pa_nil))) (pa_cons (pe_callB (u_sum (K := K) (cl := clT T) rfl) rfl T.z_sum (by decide +kernel) (pa_cons (pe_lc (own := [("_", 6), ("atoms", 7)]) rfl sc_counted.nd (pi_u (K := K) (pv 3)) (blkOk_by (own := [("_", 6), ("atoms", 7)]) (N := N_counted) (sc := defScope s_counted) (by decide +kernel)) (fun _ _ _ _ _ => (pg_tupK (K := K) (n := 2) rfl (pgs_cons (pg_name (i := 6) sc_counted.nd rfl (by first | exact Or.inl rfl | exact Or.inr rfl)) (pgs_cons (pg_name (i := 7) sc_counted.nd rfl (by first | exact Or.inl rfl | exact Or.inr rfl)) pgs_nil)))) (fun _ _ _ _ _ => (by exact pts_nil)) (fun _ _ _ _ _ => (by exact (pv 7)))) pa_nil)) pa_nil))))))))))), (ss_cons (ss_if (st_test (se_op rs2 (sw_nm 1) (SemV.w se_int)))
      (ss_ret (SemV.e se_non)) ss_nil)
      (ss_cons (ss_if (st_truth (SemV.w (SemE.v (se_call (fun _ _ => .nil) (sa_s (se_var 0) sa_nil)))))
      (ss_ret (SemV.e (se_tup (sl_cons se_int (sl_cons se_int sl_nil))))) ss_nil)
      (ss_cons (ss_asg (se_call (fun _ _ => .nil) (sa_s (se_var 0) sa_nil)) (sg_name 2))
      (ss_cons (ss_if (st_test (se_op rs2 (sw_nm 2) (SemV.w se_non)))
      (ss_ret (SemV.e se_non)) ss_nil)
      (ss_cons (ss_asg (se_lc (vs := [4]) (si_u (se_var 2)) (sg_name 4) st_yes (SemE.v (se_call (fun _ _ => .nil) (sa_s (se_var 4) (sa_s (se_op rs2 (sw_nm 1) (SemV.w se_int)) sa_nil)))) (by decide)) (sg_name 3))
      (ss_cons (ss_if (st_truth (SemV.w (se_cb rsn (sw_cons (SemV.w (SemE.v (se_lc (vs := [5]) (si_u (se_var 3)) (sg_name 5) st_yes (se_op rs2 (sw_nm 5) (SemV.w se_non)) (by decide)))) sw_nil))))
      (ss_ret (SemV.e se_non)) ss_nil)
      (ss_ret (SemV.e (se_tup (sl_cons (SemE.v (se_opE rs2e (SemV.w se_int) (SemV.w (se_cb rsn (sw_cons (SemV.w (SemE.v (se_lc (vs := [8, 6]) (si_u (se_var 3)) (sg_tup (sgs_cons (sg_name 8) (sgs_cons (sg_name 6) sgs_nil))) st_yes (se_var 8) (by decide)))) sw_nil))))) (sl_cons (se_cb rsn (sw_cons (SemV.w (SemE.v (se_lc (vs := [6, 7]) (si_u (se_var 3)) (sg_tup (sgs_cons (sg_name 6) (sgs_cons (sg_name 7) sgs_nil))) st_yes (se_var 7) (by decide)))) sw_nil)) sl_nil)))))))))))⟩)
theorem ok_is_question_by (T : Txt P K mg) : FnG P w K mg base CX0 9 T.f_is_question_by T.d_is_question_by ["value"] (FSp K (clT T) 1 F_is_question_by) :=
  okP (lv := 8) (k := 1) (fb := b_is_question_by) T.F_is_question_by sc_is_question_by rfl (fun cdv A outer s H E gd hr => ⟨_, (pss_cons (ps_set (i := 1) sc_is_question_by.nd rfl (Or.inl rfl) (pe_callG (E := fun _ _ _ => True) (by exact gd) (ok_counted (mg := mg) (w := w) (base := base) T 4) (hr.mono (by omega)) rfl T.g_counted T.F_counted.kp T.b_counted .nil pass0 (pa_cons (pv 0) (pa_cons (pe_glob (v := .int (4)) rfl T.g_MOST_LEVELS ⟨_, rfl⟩) pa_nil))))
      (pss_one (ps_ret (pe_andK (K := K) (pe_cmpR (u_notN (K := K) (cl := clT T)) (pv 1) pe_non (nomark _)) (pe_andK (K := K) (pe_cmpR (u_le (K := K) (cl := clT T)) (pe_ix (u_ix (K := K) (cl := clT T)) (pv 1) pe_int (fun _ _ => rfl)) (pe_glob (v := .int (12)) rfl T.g_MOST_NODES ⟨_, rfl⟩) (nomark _)) (pe_one (pe_cmpR (u_le (K := K) (cl := clT T)) (pe_ix (u_ix (K := K) (cl := clT T)) (pv 1) pe_int (fun _ _ => rfl)) (pe_glob (v := .int (6)) rfl T.g_MOST_ATOMS ⟨_, rfl⟩) (nomark _)))))))), (ss_cons (ss_asg (se_call (fun _ _ => .nil) (sa_s (se_var 0) (sa_s se_int sa_nil))) (sg_name 1))
      (ss_ret (SemV.e (se_and (se_op rs2 (sw_nm 1) (SemV.w se_non)) (se_and (se_op rs2 (SemV.w (se_op rs2 (sw_nm 1) (SemV.w se_int))) (SemV.w se_int)) (se_op rs2 (SemV.w (se_op rs2 (sw_nm 1) (SemV.w se_int))) (SemV.w se_int)))))))⟩)
theorem ok_all_atoms (T : Txt P K mg) : ∀ m, FnG P w K mg base CX0 (4 + m) T.f_all_atoms T.d_all_atoms ["question"] (FSp K (clT T) 1 (F_all_atoms m))
  | 0 => ok_no
  | m + 1 => by
    have ih := ok_all_atoms T m
    exact okP (lv := 4 + m) (k := 2) (fb := b_all_atoms (F_all_atoms m)) T.F_all_atoms sc_all_atoms rfl (fun cdv A outer s H E gd hr => ⟨_, (pss_cons (ps_if (pt_truthK (K := K) (pe_callG (E := fun _ _ _ => True) (by exact gd) (ok_is_atom T) (hr.mono (by omega)) rfl T.g_is_atom T.F_is_atom.kp T.b_is_atom .nil pass0 (pa_cons (pv 0) pa_nil)) (by intro _; rfl))
      (pss_one (ps_ret (pe_lst (pa_cons (pv 0) pa_nil)))) pss_nil)
      (pss_one (ps_ret (pe_lc2 (own := [("each", 1), ("atom", 2)]) (vs1 := [2]) rfl sc_all_atoms.nd (pi_u (K := K) (pe_callG (E := fun _ _ _ => True) (by exact gd) (ok_inside_of T) (hr.mono (by omega)) rfl T.g_inside_of T.F_inside_of.kp T.b_inside_of .nil pass0 (pa_cons (pv 0) pa_nil))) (blkOk_by (own := [("each", 1), ("atom", 2)]) (N := N_all_atoms) (sc := defScope s_all_atoms) (by decide +kernel)) (by decide) (fun _ _ _ _ _ => (pg_name (i := 1) sc_all_atoms.nd rfl (by first | exact Or.inl rfl | exact Or.inr rfl))) (fun _ _ _ _ _ => (by exact pts_nil)) (fun _ _ _ _ _ => (by exact (pi_u (K := K) (pe_callG (E := fun _ _ _ => True) (by exact gd) ih (hr.mono (by omega)) rfl T.g_all_atoms T.F_all_atoms.kp T.b_all_atoms .nil pass0 (pa_cons (pv 1) pa_nil))))) (fun _ _ _ _ _ => (pg_name (i := 2) sc_all_atoms.nd rfl (by first | exact Or.inl rfl | exact Or.inr rfl))) (fun _ _ _ _ _ => (by exact pts_nil)) (fun _ _ _ _ _ => (by exact (pv 2))))))), (ss_cons (ss_if (st_truth (SemV.w (SemE.v (se_call (fun _ _ => .nil) (sa_s (se_var 0) sa_nil)))))
      (ss_ret (se_lst (sl_cons (se_var 0) sl_nil))) ss_nil)
      (ss_ret (se_lc2 (vs := [1, 2]) (vs1 := [2]) (si_u (SemE.v (se_call (fun _ _ => .nil) (sa_s (se_var 0) sa_nil)))) (sg_name 1) st_yes (si_u (SemE.v (se_call (fun _ _ => .nil) (sa_s (se_var 1) sa_nil)))) (sg_name 2) st_yes (se_var 2) (by decide) (by decide))))⟩)
theorem ok_unlike (T : Txt P K mg) : FnG P w K mg base CX0 1 T.f_unlike T.d_unlike ["row"] (FSp K (clT T) 1 F_unlike) :=
  okP (lv := 0) (k := 2) (fb := b_unlike) T.F_unlike sc_unlike rfl (fun cdv A outer s H E gd hr => ⟨_, (pss_cons (ps_set (i := 1) sc_unlike.nd rfl (Or.inl rfl) (pe_lst pa_nil))
      (pss_cons (ps_for PassesOwn.never rfl (pi_u (K := K) (pv 0)) (pg_name (i := 2) sc_unlike.nd rfl (by first | exact Or.inl rfl | exact Or.inr rfl))
      (pss_one (ps_if (pt_cmpR (u_notIn (K := K) (cl := clT T) (by exact hu65 hr)) (pv 2) (pv 1) (by rfl))
      (pss_one (ps_expr (pe_bmK (K := K) PySem.F.plainAttrs_list PySem.F.slot_list_append PySem.F.type_list_append mt_append (pv 1) (pa_cons (pv 2) pa_nil)))) pss_nil)))
      (pss_one (ps_ret (pe_callTy (u_tuple (K := K) (cl := clT T)) rfl T.z_tuple (by decide +kernel) (pa_cons (pv 1) pa_nil)))))), (ss_cons (ss_asg (se_lst sl_nil) (sg_name 1))
      (ss_cons (ss_for (si_u (se_var 0)) (sg_name 2)
      (ss_if (st_test (se_op rs2 (sw_nm 2) (sw_nm 1)))
      (ss_drop (se_mut mu_append (sl_cons (se_var 2) sl_nil))) ss_nil))
      (ss_ret (SemV.e (se_cb rsn (sw_cons (sw_nm 1) sw_nil))))))⟩)
theorem ok_looks_by (T : Txt P K mg) : FnG P w K mg base CX0 9 T.f_looks_by T.d_looks_by ["question", "other"] (FSp K (clT T) 2 F_looks_by) :=
  okP (lv := 8) (k := 1) (fb := b_looks_by) T.F_looks_by sc_looks_by rfl (fun cdv A outer s H E gd hr => ⟨_, (pss_one (ps_ret (pe_callG (E := fun _ _ _ => True) (by exact gd) (ok_unlike T) (hr.mono (by omega)) rfl T.g_unlike T.F_unlike.kp T.b_unlike .nil pass0 (pa_cons (pe_lc (own := [("atom", 2)]) rfl sc_looks_by.nd (pi_u (K := K) (pe_op (u_add (K := K) (cl := clT T)) (pe_callG (E := fun _ _ _ => True) (by exact gd) (ok_all_atoms (mg := mg) (w := w) (base := base) T 4) (hr.mono (by omega)) rfl T.g_all_atoms T.F_all_atoms.kp T.b_all_atoms .nil pass0 (pa_cons (pv 0) pa_nil)) (pe_callG (E := fun _ _ _ => True) (by exact gd) (ok_all_atoms (mg := mg) (w := w) (base := base) T 4) (hr.mono (by omega)) rfl T.g_all_atoms T.F_all_atoms.kp T.b_all_atoms .nil pass0 (pa_cons (pv 1) pa_nil)))) (blkOk_by (own := [("atom", 2)]) (N := N_looks_by) (sc := defScope s_looks_by) (by decide +kernel)) (fun _ _ _ _ _ => (pg_name (i := 2) sc_looks_by.nd rfl (by first | exact Or.inl rfl | exact Or.inr rfl))) (fun _ _ _ _ _ => (by exact pts_nil)) (fun _ _ _ _ _ => (by exact (pe_op (u_add (K := K) (cl := clT T)) (pe_slice (u_slice (K := K) (cl := clT T)) (pv 2) po_none (po_some pe_int)) (pe_slice (u_slice (K := K) (cl := clT T)) (pv 2) (po_some pe_int) po_none))))) pa_nil)))), (ss_ret (se_call (fun _ _ => .nil) (sa_s (SemE.v (se_lc (vs := [2]) (si_u (SemE.v (se_opE rs2e (SemV.w (SemE.v (se_call (fun _ _ => .nil) (sa_s (se_var 0) sa_nil)))) (SemV.w (SemE.v (se_call (fun _ _ => .nil) (sa_s (se_var 1) sa_nil))))))) (sg_name 2) st_yes (SemE.v (se_opE rs2e (SemV.w (SemE.v (se_slice (sw_nm 2) so_none (so_some se_int)))) (SemV.w (SemE.v (se_slice (sw_nm 2) (so_some se_int) so_none))))) (by decide))) sa_nil)))⟩)
theorem ok_first_states (T : Txt P K mg) : FnG P w K mg base CX0 1 T.f_first_states T.d_first_states ["looks"] (FSp K (clT T) 1 F_first_states) :=
  okP (lv := 0) (k := 1) (fb := b_first_states) T.F_first_states sc_first_states rfl (fun cdv A outer s H E gd hr => ⟨_, (pss_one (ps_ret (pe_callTy (u_tuple (K := K) (cl := clT T)) rfl T.z_tuple (by decide +kernel) (pa_cons (pe_lc (own := [("look", 1)]) rfl sc_first_states.nd (pi_u (K := K) (pv 0)) (blkOk_by (own := [("look", 1)]) (N := N_first_states) (sc := defScope s_first_states) (by decide +kernel)) (fun _ _ _ _ _ => (pg_name (i := 1) sc_first_states.nd rfl (by first | exact Or.inl rfl | exact Or.inr rfl))) (fun _ _ _ _ _ => (by exact pts_nil)) (fun _ _ _ _ _ => (by exact (pe_ifExp (pt_cmpR (u_eq (K := K) (cl := clT T) (by exact hu64 hr)) (pe_ix (u_ix (K := K) (cl := clT T)) (pv 1) pe_int (fun _ _ => rfl)) pe_str (nomark _)) (pe_tup (pa_cons pe_int (pa_cons pe_int pa_nil))) pe_int)))) pa_nil)))), (ss_ret (SemV.e (se_cb rsn (sw_cons (SemV.w (SemE.v (se_lc (vs := [1]) (si_u (se_var 0)) (sg_name 1) st_yes (se_ifV (st_test (se_op rs2 (SemV.w (se_op rs2 (sw_nm 1) (SemV.w se_int))) (SemV.w se_str))) (se_tup (sl_cons se_int (sl_cons se_int sl_nil))) se_int) (by decide)))) sw_nil))))⟩)
theorem ok_row_step (T : Txt P K mg) : FnG P w K mg base CX0 1 T.f_row_step T.d_row_step ["terms", "state", "thing"] (FSp K (clT T) 3 F_row_step) :=
  okP (lv := 0) (k := 2) (fb := b_row_step) T.F_row_step sc_row_step rfl (fun cdv A outer s H E gd hr => ⟨_, (pss_cons (ps_if (pt_cmpR (u_eq (K := K) (cl := clT T) (by exact hu64 hr)) (pv 1) (pe_callB (u_len (K := K) (cl := clT T)) rfl T.z_len (by decide +kernel) (pa_cons (pv 0) pa_nil)) (nomark _))
      (pss_one (ps_ret (pv 1))) pss_nil)
      (pss_cons (ps_set (i := 3) sc_row_step.nd rfl (Or.inl rfl) (pe_op (u_add (K := K) (cl := clT T)) (pe_slice (u_slice (K := K) (cl := clT T)) (pv 0) po_none (po_some (pv 1))) (pe_tup (pa_cons (pv 2) pa_nil))))
      (pss_cons (ps_for PassesOwn.never rfl (pi_range3 rfl T.z_range (pa_cons (pe_op (u_add (K := K) (cl := clT T)) (pv 1) pe_int) (pa_cons pe_int (pa_cons (pe_un (u_neg (K := K) (cl := clT T)) pe_int) pa_nil)))) (pg_name (i := 4) sc_row_step.nd rfl (by first | exact Or.inl rfl | exact Or.inr rfl))
      (pss_one (ps_if (pt_cmpR (u_eq (K := K) (cl := clT T) (by exact hu64 hr)) (pe_slice (u_slice (K := K) (cl := clT T)) (pv 3) (po_some (pe_op (u_sub (K := K) (cl := clT T)) (pe_callB (u_len (K := K) (cl := clT T)) rfl T.z_len (by decide +kernel) (pa_cons (pv 3) pa_nil)) (pv 4))) po_none) (pe_slice (u_slice (K := K) (cl := clT T)) (pv 0) po_none (po_some (pv 4))) (nomark _))
      (pss_one (ps_ret (pv 4))) pss_nil)))
      (pss_one (ps_ret pe_int))))), (ss_cons (ss_if (st_test (se_op rs2 (sw_nm 1) (SemV.w (se_cb rsn (sw_cons (sw_nm 0) sw_nil)))))
      (ss_ret (se_mv 1)) ss_nil)
      (ss_cons (ss_asg (se_opE rs2e (SemV.w (SemE.v (se_slice (sw_nm 0) so_none (so_some (se_var 1))))) (SemV.w (se_tup (sl_cons (se_var 2) sl_nil)))) (sg_name 3))
      (ss_cons (ss_for (si_range3 (sl_cons (SemE.v (se_opE rs2e (sw_nm 1) (SemV.w se_int))) (sl_cons se_int (sl_cons (se_un rs1 (SemV.w se_int)) sl_nil)))) (sg_name 4)
      (ss_if (st_test (se_op rs2 (SemV.w (SemE.v (se_slice (sw_nm 3) (so_some (se_op rs2 (SemV.w (se_cb rsn (sw_cons (sw_nm 3) sw_nil))) (sw_nm 4))) so_none))) (SemV.w (SemE.v (se_slice (sw_nm 0) so_none (so_some (se_var 4)))))))
      (ss_ret (se_mv 4)) ss_nil))
      (ss_ret (SemV.e se_int)))))⟩)
theorem ok_ago (T : Txt P K mg) : FnG P w K mg base CX0 1 T.f_ago T.d_ago ["state", "is_here", "most"] (FSp K (clT T) 3 F_ago) :=
  okP (lv := 0) (k := 0) (fb := b_ago) T.F_ago sc_ago rfl (fun cdv A outer s H E gd hr => ⟨_, (pss_cons (ps_if (pt_truthK (K := K) (pv 1) (by intro _; rfl))
      (pss_one (ps_ret pe_int)) pss_nil)
      (pss_one (ps_ret (pe_ifExp (pt_chain (u_lt (K := K) (cl := clT T)) (u_lt (K := K) (cl := clT T)) pe_int (pv 0) (pv 2)) (pe_op (u_add (K := K) (cl := clT T)) (pv 0) pe_int) pe_int)))), (ss_cons (ss_if (st_truth (sw_nm 1))
      (ss_ret (SemV.e se_int)) ss_nil)
      (ss_ret (se_if (st_test (se_chain rs2 rs2 (SemV.w se_int) (sw_nm 0) (sw_nm 2))) (se_opE rs2e (sw_nm 0) (SemV.w se_int)) (SemV.e se_int))))⟩)
theorem ok_near_step (T : Txt P K mg) : FnG P w K mg base CX0 2 T.f_near_step T.d_near_step ["look", "state", "thing"] (FSp K (clT T) 3 F_near_step) :=
  okP (lv := 1) (k := 4) (fb := b_near_step) T.F_near_step sc_near_step rfl (fun cdv A outer s H E gd hr => ⟨_, (pss_cons (ps_asg (pv 0) (pg_tupK (K := K) (n := 4) rfl (pgs_cons (pg_name (i := 3) sc_near_step.nd rfl (by first | exact Or.inl rfl | exact Or.inr rfl)) (pgs_cons (pg_name (i := 4) sc_near_step.nd rfl (by first | exact Or.inl rfl | exact Or.inr rfl)) (pgs_cons (pg_name (i := 5) sc_near_step.nd rfl (by first | exact Or.inl rfl | exact Or.inr rfl)) (pgs_cons (pg_name (i := 6) sc_near_step.nd rfl (by first | exact Or.inl rfl | exact Or.inr rfl)) pgs_nil))))))
      (pss_cons (ps_if (PW.pt (pw_or (pt_cmpR (u_eq (K := K) (cl := clT T) (by exact hu64 hr)) (pv 1) (pe_glob (v := .ref T.a_NEAR_SO) rfl T.g_NEAR_SO rfl) (nomark _)) (pw_or (PW.pt (pw_and (pt_cmpR (u_eq (K := K) (cl := clT T) (by exact hu64 hr)) (pv 2) (pv 4) (nomark _)) (pw_and1 (pt_cmpR (u_gt (K := K) (cl := clT T)) (pe_ix (u_ix (K := K) (cl := clT T)) (pv 1) pe_int (fun _ _ => rfl)) pe_int (nomark _))))) (pw_or1 (PW.pt (pw_and (pt_cmpR (u_eq (K := K) (cl := clT T) (by exact hu64 hr)) (pv 2) (pv 5) (nomark _)) (pw_and1 (pt_cmpR (u_gt (K := K) (cl := clT T)) (pe_ix (u_ix (K := K) (cl := clT T)) (pv 1) pe_int (fun _ _ => rfl)) pe_int (nomark _)))))))))
      (pss_one (ps_ret (pe_glob (v := .ref T.a_NEAR_SO) rfl T.g_NEAR_SO rfl))) pss_nil)
      (pss_one (ps_ret (pe_tup (pa_cons (pe_callG (E := fun _ _ _ => True) (by exact gd) (ok_ago T) (hr.mono (by omega)) rfl T.g_ago T.F_ago.kp T.b_ago .nil pass0 (pa_cons (pe_ix (u_ix (K := K) (cl := clT T)) (pv 1) pe_int (fun _ _ => rfl)) (pa_cons (pe_cmpR (u_eq (K := K) (cl := clT T) (by exact hu64 hr)) (pv 2) (pv 4) (nomark _)) (pa_cons (pv 6) pa_nil)))) (pa_cons (pe_callG (E := fun _ _ _ => True) (by exact gd) (ok_ago T) (hr.mono (by omega)) rfl T.g_ago T.F_ago.kp T.b_ago .nil pass0 (pa_cons (pe_ix (u_ix (K := K) (cl := clT T)) (pv 1) pe_int (fun _ _ => rfl)) (pa_cons (pe_cmpR (u_eq (K := K) (cl := clT T) (by exact hu64 hr)) (pv 2) (pv 5) (nomark _)) (pa_cons (pv 6) pa_nil)))) pa_nil))))))), (ss_cons (ss_asg (SemV.e (se_var 0)) (sg_tup (sgs_cons (sg_name 3) (sgs_cons (sg_name 4) (sgs_cons (sg_name 5) (sgs_cons (sg_name 6) sgs_nil))))))
      (ss_cons (ss_if (st_or (st_test (se_op rs2 (sw_nm 1) (SemV.w (se_c (fun Z H => .tup (T.q_NEAR_SO H) (.cons (.int _) (.cons (.int _) .nil))))))) (st_or (st_and (st_test (se_op rs2 (sw_nm 2) (sw_nm 4))) (st_test (se_op rs2 (SemV.w (se_op rs2 (sw_nm 1) (SemV.w se_int))) (SemV.w se_int)))) (st_and (st_test (se_op rs2 (sw_nm 2) (sw_nm 5))) (st_test (se_op rs2 (SemV.w (se_op rs2 (sw_nm 1) (SemV.w se_int))) (SemV.w se_int))))))
      (ss_ret (SemV.e (se_c (fun Z H => .tup (T.q_NEAR_SO H) (.cons (.int _) (.cons (.int _) .nil)))))) ss_nil)
      (ss_ret (SemV.e (se_tup (sl_cons (SemE.v (se_call (fun _ _ => .nil) (sa_s (se_op rs2 (sw_nm 1) (SemV.w se_int)) (sa_s (se_op rs2 (sw_nm 2) (sw_nm 4)) (sa_s (se_var 6) sa_nil))))) (sl_cons (SemE.v (se_call (fun _ _ => .nil) (sa_s (se_op rs2 (sw_nm 1) (SemV.w se_int)) (sa_s (se_op rs2 (sw_nm 2) (sw_nm 5)) (sa_s (se_var 6) sa_nil))))) sl_nil)))))))⟩)
theorem ok_look_step (T : Txt P K mg) : FnG P w K mg base CX0 3 T.f_look_step T.d_look_step ["look", "state", "thing"] (FSp K (clT T) 3 F_look_step) :=
  okP (lv := 2) (k := 0) (fb := b_look_step) T.F_look_step sc_look_step rfl (fun cdv A outer s H E gd hr => ⟨_, (pss_cons (ps_if (pt_cmpR (u_eq (K := K) (cl := clT T) (by exact hu64 hr)) (pe_ix (u_ix (K := K) (cl := clT T)) (pv 0) pe_int (fun _ _ => rfl)) pe_str (nomark _))
      (pss_one (ps_ret (pe_ifExp (pt_cmpR (u_eq (K := K) (cl := clT T) (by exact hu64 hr)) (pv 2) (pe_ix (u_ix (K := K) (cl := clT T)) (pv 0) pe_int (fun _ _ => rfl)) (nomark _)) pe_int (pv 1)))) pss_nil)
      (pss_cons (ps_if (pt_cmpR (u_eq (K := K) (cl := clT T) (by exact hu64 hr)) (pe_ix (u_ix (K := K) (cl := clT T)) (pv 0) pe_int (fun _ _ => rfl)) pe_str (nomark _))
      (pss_one (ps_ret (pe_ifExp (PW.pt (pw_and (pt_cmpR (u_notN (K := K) (cl := clT T)) (pv 2) pe_non (nomark _)) (pw_and1 (pt_truthK (K := K) (pe_m1 PySem.F.slot_str_startswith PySem.F.type_str_startswith mt_startswith (pv 2) (pe_ix (u_ix (K := K) (cl := clT T)) (pv 0) pe_int (fun _ _ => rfl))) (by intro _; rfl))))) pe_int (pv 1)))) pss_nil)
      (pss_cons (ps_if (pt_cmpR (u_eq (K := K) (cl := clT T) (by exact hu64 hr)) (pe_ix (u_ix (K := K) (cl := clT T)) (pv 0) pe_int (fun _ _ => rfl)) pe_str (nomark _))
      (pss_one (ps_ret (pe_callG (E := fun _ _ _ => True) (by exact gd) (ok_row_step T) (hr.mono (by omega)) rfl T.g_row_step T.F_row_step.kp T.b_row_step .nil pass0 (pa_cons (pe_ix (u_ix (K := K) (cl := clT T)) (pv 0) pe_int (fun _ _ => rfl)) (pa_cons (pv 1) (pa_cons (pv 2) pa_nil)))))) pss_nil)
      (pss_one (ps_ret (pe_callG (E := fun _ _ _ => True) (by exact gd) (ok_near_step T) (hr.mono (by omega)) rfl T.g_near_step T.F_near_step.kp T.b_near_step .nil pass0 (pa_cons (pv 0) (pa_cons (pv 1) (pa_cons (pv 2) pa_nil))))))))), (ss_cons (ss_if (st_test (se_op rs2 (SemV.w (se_op rs2 (sw_nm 0) (SemV.w se_int))) (SemV.w se_str)))
      (ss_ret (SemV.e (se_ifV (st_test (se_op rs2 (sw_nm 2) (SemV.w (se_op rs2 (sw_nm 0) (SemV.w se_int))))) se_int (se_var 1)))) ss_nil)
      (ss_cons (ss_if (st_test (se_op rs2 (SemV.w (se_op rs2 (sw_nm 0) (SemV.w se_int))) (SemV.w se_str)))
      (ss_ret (SemV.e (se_ifV (st_and (st_test (se_op rs2 (sw_nm 2) (SemV.w se_non))) (st_truth (SemV.w (se_starts (sw_nm 2) (SemV.w (se_op rs2 (sw_nm 0) (SemV.w se_int))))))) se_int (se_var 1)))) ss_nil)
      (ss_cons (ss_if (st_test (se_op rs2 (SemV.w (se_op rs2 (sw_nm 0) (SemV.w se_int))) (SemV.w se_str)))
      (ss_ret (se_call (fun _ _ => .nil) (sa_s (se_op rs2 (sw_nm 0) (SemV.w se_int)) (sa_s (se_var 1) (sa_s (se_var 2) sa_nil))))) ss_nil)
      (ss_ret (se_call (fun _ _ => .nil) (sa_s (se_var 0) (sa_s (se_var 1) (sa_s (se_var 2) sa_nil))))))))⟩)
theorem ok_step_on (T : Txt P K mg) : FnG P w K mg base CX0 4 T.f_step_on T.d_step_on ["looks", "states", "thing"] (FSp K (clT T) 3 F_step_on) :=
  okP (lv := 3) (k := 2) (fb := b_step_on) T.F_step_on sc_step_on rfl (fun cdv A outer s H E gd hr => ⟨_, (pss_one (ps_ret (pe_callTy (u_tuple (K := K) (cl := clT T)) rfl T.z_tuple (by decide +kernel) (pa_cons (pe_lc (own := [("look", 3), ("state", 4)]) rfl sc_step_on.nd (pi_zipU (K := K) rfl T.z_zip (pa_cons (pv 0) (pa_cons (pv 1) pa_nil))) (blkOk_by (own := [("look", 3), ("state", 4)]) (N := N_step_on) (sc := defScope s_step_on) (by decide +kernel)) (fun _ _ _ _ _ => (pg_tupK (K := K) (n := 2) rfl (pgs_cons (pg_name (i := 3) sc_step_on.nd rfl (by first | exact Or.inl rfl | exact Or.inr rfl)) (pgs_cons (pg_name (i := 4) sc_step_on.nd rfl (by first | exact Or.inl rfl | exact Or.inr rfl)) pgs_nil)))) (fun _ _ _ _ _ => (by exact pts_nil)) (fun _ _ _ _ _ => (by exact (pe_callG (E := fun _ _ _ => True) (by exact gd) (ok_look_step T) (hr.mono (by omega)) rfl T.g_look_step T.F_look_step.kp T.b_look_step .nil pass0 (pa_cons (pv 3) (pa_cons (pv 4) (pa_cons (pv 2) pa_nil))))))) pa_nil)))), (ss_ret (SemV.e (se_cb rsn (sw_cons (SemV.w (SemE.v (se_lc (vs := [3, 4]) (si_zip (sl_cons (se_var 0) (sl_cons (se_var 1) sl_nil))) (sg_tup (sgs_cons (sg_name 3) (sgs_cons (sg_name 4) sgs_nil))) st_yes (SemE.v (se_call (fun _ _ => .nil) (sa_s (se_var 3) (sa_s (se_var 4) (sa_s (se_var 2) sa_nil))))) (by decide)))) sw_nil))))⟩)
theorem ok_state_behind (T : Txt P K mg) : FnG P w K mg base CX0 5 T.f_state_behind T.d_state_behind ["looks", "row"] (FSp K (clT T) 2 F_state_behind) :=
  okP (lv := 4) (k := 2) (fb := b_state_behind) T.F_state_behind sc_state_behind rfl (fun cdv A outer s H E gd hr => ⟨_, (pss_cons (ps_set (i := 2) sc_state_behind.nd rfl (Or.inl rfl) (pe_callG (E := fun _ _ _ => True) (by exact gd) (ok_first_states T) (hr.mono (by omega)) rfl T.g_first_states T.F_first_states.kp T.b_first_states .nil pass0 (pa_cons (pv 0) pa_nil)))
      (pss_cons (ps_for PassesOwn.never rfl (pi_u (K := K) (pv 1)) (pg_name (i := 3) sc_state_behind.nd rfl (by first | exact Or.inl rfl | exact Or.inr rfl))
      (pss_one (ps_set (i := 2) sc_state_behind.nd rfl (Or.inl rfl) (pe_callG (E := fun _ _ _ => True) (by exact gd) (ok_step_on T) (hr.mono (by omega)) rfl T.g_step_on T.F_step_on.kp T.b_step_on .nil pass0 (pa_cons (pv 0) (pa_cons (pv 2) (pa_cons (pv 3) pa_nil)))))))
      (pss_one (ps_ret (pv 2))))), (ss_cons (ss_asg (se_call (fun _ _ => .nil) (sa_s (se_var 0) sa_nil)) (sg_name 2))
      (ss_cons (ss_for (si_u (se_var 1)) (sg_name 3)
      (ss_asg (se_call (fun _ _ => .nil) (sa_s (se_var 0) (sa_s (se_var 2) (sa_s (se_var 3) sa_nil)))) (sg_name 2)))
      (ss_ret (se_mv 2))))⟩)
theorem ok_check_question (T : Txt P K mg) : FnG P w K mg base CX0 10 T.f_check_question T.d_check_question ["value"] (FSp K (clT T) 1 F_check_question) :=
  okP (lv := 9) (k := 0) (fb := b_check_question) T.F_check_question sc_check_question rfl (fun cdv A outer s H E gd hr => ⟨_, (pss_one (ps_if (pt_not (pt_truthK (K := K) (pe_callG (E := fun _ _ _ => True) (by exact gd) (ok_is_question_by T) (hr.mono (by omega)) rfl T.g_is_question_by T.F_is_question_by.kp T.b_is_question_by .nil pass0 (pa_cons (pv 0) pa_nil)) (by intro _; rfl)))
      (pss_one ps_never) pss_nil)), (ss_if (st_not (st_truth (SemV.w (SemE.v (se_call (fun _ _ => .nil) (sa_s (se_var 0) sa_nil))))))
      ss_never ss_nil)⟩)
theorem ok_check_two (T : Txt P K mg) : FnG P w K mg base CX0 11 T.f_check_two T.d_check_two ["question", "other"] (FSp K (clT T) 2 F_check_two) :=
  okP (lv := 10) (k := 0) (fb := b_check_two) T.F_check_two sc_check_two rfl (fun cdv A outer s H E gd hr => ⟨_, (pss_cons (ps_expr (pe_callG (E := fun _ _ _ => True) (by exact gd) (ok_check_question T) (hr.mono (by omega)) rfl T.g_check_question T.F_check_question.kp T.b_check_question .nil pass0 (pa_cons (pv 0) pa_nil)))
      (pss_one (ps_expr (pe_callG (E := fun _ _ _ => True) (by exact gd) (ok_check_question T) (hr.mono (by omega)) rfl T.g_check_question T.F_check_question.kp T.b_check_question .nil pass0 (pa_cons (pv 1) pa_nil))))), (ss_cons (ss_drop (SemE.v (se_call (fun _ _ => .nil) (sa_s (se_var 0) sa_nil))))
      (ss_drop (SemE.v (se_call (fun _ _ => .nil) (sa_s (se_var 1) sa_nil)))))⟩)
theorem ok_looks_of (T : Txt P K mg) : FnG P w K mg base CX0 12 T.f_looks_of T.d_looks_of ["question", "other"] (FSp K (clT T) 2 F_looks_of) :=
  okP (lv := 11) (k := 0) (fb := b_looks_of) T.F_looks_of sc_looks_of rfl (fun cdv A outer s H E gd hr => ⟨_, (pss_cons (ps_expr (pe_callG (E := fun _ _ _ => True) (by exact gd) (ok_check_two T) (hr.mono (by omega)) rfl T.g_check_two T.F_check_two.kp T.b_check_two .nil pass0 (pa_cons (pv 0) (pa_cons (pv 1) pa_nil))))
      (pss_one (ps_ret (pe_callG (E := fun _ _ _ => True) (by exact gd) (ok_looks_by T) (hr.mono (by omega)) rfl T.g_looks_by T.F_looks_by.kp T.b_looks_by .nil pass0 (pa_cons (pv 0) (pa_cons (pv 1) pa_nil)))))), (ss_cons (ss_drop (SemE.v (se_call (fun _ _ => .nil) (sa_s (se_var 0) (sa_s (se_var 1) sa_nil)))))
      (ss_ret (se_call (fun _ _ => .nil) (sa_s (se_var 0) (sa_s (se_var 1) sa_nil)))))⟩)
theorem ok_state_of (T : Txt P K mg) : FnG P w K mg base CX0 12 T.f_state_of T.d_state_of ["question", "other", "row"] (FSp K (clT T) 3 F_state_of) :=
  okP (lv := 11) (k := 0) (fb := b_state_of) T.F_state_of sc_state_of rfl (fun cdv A outer s H E gd hr => ⟨_, (pss_cons (ps_expr (pe_callG (E := fun _ _ _ => True) (by exact gd) (ok_check_two T) (hr.mono (by omega)) rfl T.g_check_two T.F_check_two.kp T.b_check_two .nil pass0 (pa_cons (pv 0) (pa_cons (pv 1) pa_nil))))
      (pss_cons (ps_expr (pe_callG (E := fun _ _ _ => True) (by exact gd) (ok_check_row T) (hr.mono (by omega)) rfl T.g_check_row T.F_check_row.kp T.b_check_row .nil pass0 (pa_cons (pv 2) pa_nil)))
      (pss_one (ps_ret (pe_callG (E := fun _ _ _ => True) (by exact gd) (ok_state_behind T) (hr.mono (by omega)) rfl T.g_state_behind T.F_state_behind.kp T.b_state_behind .nil pass0 (pa_cons (pe_callG (E := fun _ _ _ => True) (by exact gd) (ok_looks_by T) (hr.mono (by omega)) rfl T.g_looks_by T.F_looks_by.kp T.b_looks_by .nil pass0 (pa_cons (pv 0) (pa_cons (pv 1) pa_nil))) (pa_cons (pv 2) pa_nil))))))), (ss_cons (ss_drop (SemE.v (se_call (fun _ _ => .nil) (sa_s (se_var 0) (sa_s (se_var 1) sa_nil)))))
      (ss_cons (ss_drop (SemE.v (se_call (fun _ _ => .nil) (sa_s (se_var 2) sa_nil))))
      (ss_ret (se_call (fun _ _ => .nil) (sa_s (SemE.v (se_call (fun _ _ => .nil) (sa_s (se_var 0) (sa_s (se_var 1) sa_nil)))) (sa_s (se_var 2) sa_nil))))))⟩)
theorem ok_law_jar (T : Txt P K mg) : FnG P w K mg base CX0 1 T.f_law_jar T.d_law_jar ["script", "turn"] (FSp K (clT T) 2 F_law_jar) :=
  okP (lv := 0) (k := 3) (fb := b_law_jar) T.F_law_jar sc_law_jar rfl (fun cdv A outer s H E gd hr => ⟨_, (pss_cons (ps_set (i := 2) sc_law_jar.nd rfl (Or.inl rfl) (pe_op (u_add (K := K) (cl := clT T)) pe_int (pe_op (u_mulI (K := K) (cl := clT T)) pe_int (pv 1))))
      (pss_cons (ps_for PassesOwn.never rfl (pi_u (K := K) (pe_slice (u_slice (K := K) (cl := clT T)) (pv 0) po_none (po_some pe_int))) (pg_name (i := 3) sc_law_jar.nd rfl (by first | exact Or.inl rfl | exact Or.inr rfl))
      (pss_one (ps_set (i := 2) sc_law_jar.nd rfl (Or.inl rfl) (pe_op (u_mod (K := K) (cl := clT T)) (pe_callTy (u_int (K := K) (cl := clT T)) rfl T.z_int (by decide +kernel) (pa_cons (pe_op (u_add (K := K) (cl := clT T)) (pe_op (u_add (K := K) (cl := clT T)) (pe_op (u_mulI (K := K) (cl := clT T)) (pv 2) pe_int) (pe_op (u_mod (K := K) (cl := clT T)) (pe_callTy (u_int (K := K) (cl := clT T)) rfl T.z_int (by decide +kernel) (pa_cons (pv 3) pa_nil)) pe_int)) pe_int) pa_nil)) pe_int))))
      (pss_cons (ps_set (i := 4) sc_law_jar.nd rfl (Or.inl rfl) (pe_ifExp (pt_cmpR (u_lt (K := K) (cl := clT T)) (pv 1) (pe_callB (u_len (K := K) (cl := clT T)) rfl T.z_len (by decide +kernel) (pa_cons (pv 0) pa_nil)) (nomark _)) (pe_callTy (u_int (K := K) (cl := clT T)) rfl T.z_int (by decide +kernel) (pa_cons (pe_ix (u_ix (K := K) (cl := clT T)) (pv 0) (pv 1) (fun _ _ => rfl)) pa_nil)) pe_int))
      (pss_one (ps_ret (pe_lst (pa_cons (pe_ifExp (PW.pt (pw_or (pt_cmpR (u_lt (K := K) (cl := clT T)) (pv 4) pe_int (nomark _)) (pw_or1 (pt_cmpR (u_ge (K := K) (cl := clT T)) (pv 4) (pe_op (u_pow (K := K) (cl := clT T)) pe_int pe_int) (nomark _))))) (pe_callB (u_abs (K := K) (cl := clT T)) rfl T.z_abs (by decide +kernel) (pa_cons (pv 4) pa_nil)) pe_int) (pa_cons (pv 2) (pa_cons pe_int pa_nil))))))))), (ss_cons (ss_asg (se_opE rs2e (SemV.w se_int) (SemV.w (se_op rs2 (SemV.w se_int) (sw_nm 1)))) (sg_name 2))
      (ss_cons (ss_for (si_u (SemE.v (se_slice (sw_nm 0) so_none (so_some se_int)))) (sg_name 3)
      (ss_asg (SemV.e (se_op rs2 (SemV.w (se_cb rsn (sw_cons (SemV.w (SemE.v (se_opE rs2e (SemV.w (SemE.v (se_opE rs2e (SemV.w (se_op rs2 (sw_nm 2) (SemV.w se_int))) (SemV.w (se_op rs2 (SemV.w (se_cb rsn (sw_cons (sw_nm 3) sw_nil))) (SemV.w se_int)))))) (SemV.w se_int)))) sw_nil))) (SemV.w se_int))) (sg_name 2)))
      (ss_cons (ss_asg (SemV.e (se_ifV (st_test (se_op rs2 (sw_nm 1) (SemV.w (se_cb rsn (sw_cons (sw_nm 0) sw_nil))))) (se_cb rsn (sw_cons (SemV.w (se_op rs2 (sw_nm 0) (sw_nm 1))) sw_nil)) se_int)) (sg_name 4))
      (ss_ret (se_lst (sl_cons (se_ifV (st_or (st_test (se_op rs2 (sw_nm 4) (SemV.w se_int))) (st_test (se_op rs2 (sw_nm 4) (SemV.w (se_op rs2 (SemV.w se_int) (SemV.w se_int)))))) (se_cb rsn (sw_cons (sw_nm 4) sw_nil)) se_int) (sl_cons (se_var 2) (sl_cons se_int sl_nil))))))))⟩)
theorem ok_law_deal (T : Txt P K mg) : FnG P w K mg base CX0 1 T.f_law_deal T.d_law_deal ["jar", "many"] (FSp K (clT T) 2 F_law_deal) :=
  okP (lv := 0) (k := 1) (fb := b_law_deal) T.F_law_deal sc_law_deal rfl (fun cdv A outer s H E gd hr => ⟨_, (pss_cons (ps_if (pt_cmpR (u_gt (K := K) (cl := clT T)) (pe_ix (u_ix (K := K) (cl := clT T)) (pv 0) pe_int (fun _ _ => rfl)) pe_int (nomark _))
      (pss_cons (ps_asg (pe_callB (u_divmod (K := K) (cl := clT T)) rfl T.z_divmod (by decide +kernel) (pa_cons (pe_ix (u_ix (K := K) (cl := clT T)) (pv 0) pe_int (fun _ _ => rfl)) (pa_cons (pv 1) pa_nil))) (pg_tupK (K := K) (n := 2) rfl (pgs_cons (pg_sub (pv 0) pe_int set_list) (pgs_cons (pg_name (i := 2) sc_law_deal.nd rfl (by first | exact Or.inl rfl | exact Or.inr rfl)) pgs_nil))))
      (pss_one (ps_ret (pv 2)))) pss_nil)
      (pss_cons (ps_asg (pe_op (u_add (K := K) (cl := clT T)) (pe_ix (u_ix (K := K) (cl := clT T)) (pv 0) pe_int (fun _ _ => rfl)) pe_int) (pg_sub (pv 0) pe_int set_list))
      (pss_cons (ps_asg (pe_op (u_mod (K := K) (cl := clT T)) (pe_callTy (u_int (K := K) (cl := clT T)) rfl T.z_int (by decide +kernel) (pa_cons (pe_op (u_add (K := K) (cl := clT T)) (pe_op (u_add (K := K) (cl := clT T)) (pe_op (u_mulI (K := K) (cl := clT T)) (pe_ix (u_ix (K := K) (cl := clT T)) (pv 0) pe_int (fun _ _ => rfl)) (pe_op (u_add (K := K) (cl := clT T)) pe_int (pe_op (u_mod (K := K) (cl := clT T)) (pe_callTy (u_int (K := K) (cl := clT T)) rfl T.z_int (by decide +kernel) (pa_cons (pe_ix (u_ix (K := K) (cl := clT T)) (pv 0) pe_int (fun _ _ => rfl)) pa_nil)) pe_int))) (pe_op (u_mulI (K := K) (cl := clT T)) pe_int (pe_ix (u_ix (K := K) (cl := clT T)) (pv 0) pe_int (fun _ _ => rfl)))) pe_int) pa_nil)) pe_int) (pg_sub (pv 0) pe_int set_list))
      (pss_one (ps_ret (pe_op (u_mod (K := K) (cl := clT T)) (pe_callTy (u_int (K := K) (cl := clT T)) rfl T.z_int (by decide +kernel) (pa_cons (pe_op (u_fdiv (K := K) (cl := clT T)) (pe_ix (u_ix (K := K) (cl := clT T)) (pv 0) pe_int (fun _ _ => rfl)) pe_int) pa_nil)) (pv 1))))))), (ss_cons (ss_if (st_test (se_op rs2 (SemV.w (se_op rs2 (sw_nm 0) (SemV.w se_int))) (SemV.w se_int)))
      (ss_cons (ss_asg (SemV.e (se_cb rsn (sw_cons (SemV.w (se_op rs2 (sw_nm 0) (SemV.w se_int))) (sw_cons (sw_nm 1) sw_nil)))) (sg_tup (sgs_cons (sg_sub se_int) (sgs_cons (sg_name 2) sgs_nil))))
      (ss_ret (se_mv 2))) ss_nil)
      (ss_cons (ss_asg (se_opE rs2e (SemV.w (se_op rs2 (sw_nm 0) (SemV.w se_int))) (SemV.w se_int)) (sg_sub se_int))
      (ss_cons (ss_asg (SemV.e (se_op rs2 (SemV.w (se_cb rsn (sw_cons (SemV.w (SemE.v (se_opE rs2e (SemV.w (SemE.v (se_opE rs2e (SemV.w (se_op rs2 (SemV.w (se_op rs2 (sw_nm 0) (SemV.w se_int))) (SemV.w (SemE.v (se_opE rs2e (SemV.w se_int) (SemV.w (se_op rs2 (SemV.w (se_cb rsn (sw_cons (SemV.w (se_op rs2 (sw_nm 0) (SemV.w se_int))) sw_nil))) (SemV.w se_int)))))))) (SemV.w (se_op rs2 (SemV.w se_int) (SemV.w (se_op rs2 (sw_nm 0) (SemV.w se_int)))))))) (SemV.w se_int)))) sw_nil))) (SemV.w se_int))) (sg_sub se_int))
      (ss_ret (SemV.e (se_op rs2 (SemV.w (se_cb rsn (sw_cons (SemV.w (se_op rs2 (SemV.w (se_op rs2 (sw_nm 0) (SemV.w se_int))) (SemV.w se_int))) sw_nil))) (sw_nm 1)))))))⟩)
theorem ok_law_any (T : Txt P K mg) : FnG P w K mg base CX0 2 T.f_law_any T.d_law_any ["jar", "some"] (FSp K (clT T) 2 F_law_any) :=
  okP (lv := 1) (k := 0) (fb := b_law_any) T.F_law_any sc_law_any rfl (fun cdv A outer s H E gd hr => ⟨_, (pss_one (ps_ret (pe_ix (u_ix (K := K) (cl := clT T)) (pv 1) (pe_callG (E := fun _ _ _ => True) (by exact gd) (ok_law_deal T) (hr.mono (by omega)) rfl T.g__law_deal T.F_law_deal.kp T.b_law_deal .nil pass0 (pa_cons (pv 0) (pa_cons (pe_callB (u_len (K := K) (cl := clT T)) rfl T.z_len (by decide +kernel) (pa_cons (pv 1) pa_nil)) pa_nil))) (fun _ _ => rfl)))), (ss_ret (SemV.e (se_op rs2 (sw_nm 1) (SemV.w (SemE.v (se_call (fun _ _ => .nil) (sa_b 0 (sa_s (se_cb rsn (sw_cons (sw_nm 1) sw_nil)) sa_nil))))))))⟩)
theorem ok_law_word (T : Txt P K mg) : FnG P w K mg base CX0 2 T.f_law_word T.d_law_word ["jar", "size"] (FSp K (clT T) 2 F_law_word) :=
  okP (lv := 1) (k := 2) (fb := b_law_word) T.F_law_word sc_law_word rfl (fun cdv A outer s H E gd hr => ⟨_, (pss_cons (ps_set (i := 2) sc_law_word.nd rfl (Or.inr rfl) pe_str)
      (pss_one (ps_ret (pe_joinK (K := K) pe_str (pe_lc (own := [("turn", 3)]) rfl sc_law_word.nd (pi_range1 rfl T.z_range (pa_cons (pv 1) pa_nil)) (blkOk_by (own := [("turn", 3)]) (N := N_law_word) (sc := defScope s_law_word) (by decide +kernel)) (fun _ _ _ _ _ => (pg_name (i := 3) sc_law_word.nd rfl (by first | exact Or.inl rfl | exact Or.inr rfl))) (fun _ _ _ _ _ => (by exact pts_nil)) (fun _ _ _ _ _ => (by exact (pe_ix (u_ix (K := K) (cl := clT T)) (pv 2) (pe_callG (E := fun _ _ _ => True) (by exact gd) (ok_law_deal T) (hr.mono (by omega)) rfl T.g__law_deal T.F_law_deal.kp T.b_law_deal .nil pass0 (pa_cons (pv 0) (pa_cons pe_int pa_nil))) (fun _ _ => rfl))))))))), (ss_cons (ss_asg (SemV.e se_str) (sg_name 2))
      (ss_ret (SemV.e (se_join (SemV.w se_str) (SemV.w (SemE.v (se_lc (vs := [3]) (si_range1 (sl_cons (se_var 1) sl_nil)) (sg_name 3) st_yes (se_op rs2 (sw_nm 2) (SemV.w (SemE.v (se_call (fun _ _ => .nil) (sa_b 0 (sa_s se_int sa_nil)))))) (by decide))))))))⟩)
theorem ok_law_pool (T : Txt P K mg) : FnG P w K mg base CX0 3 T.f_law_pool T.d_law_pool ["jar", "many"] (FSp K (clT T) 2 F_law_pool) :=
  okP (lv := 2) (k := 4) (fb := b_law_pool) T.F_law_pool sc_law_pool rfl (fun cdv A outer s H E gd hr => ⟨_, (pss_cons (ps_set (i := 2) sc_law_pool.nd rfl (Or.inr rfl) (pe_lst pa_nil))
      (pss_cons (ps_for PassesOwn.never rfl (pi_range1 rfl T.z_range (pa_cons (pv 1) pa_nil)) (pg_name (i := 3) sc_law_pool.nd rfl (by first | exact Or.inl rfl | exact Or.inr rfl))
      (pss_cons (ps_set (i := 4) sc_law_pool.nd rfl (Or.inr rfl) (pe_callG (E := fun _ _ _ => True) (by exact gd) (ok_law_word T) (hr.mono (by omega)) rfl T.g__law_word T.F_law_word.kp T.b_law_word .nil pass0 (pa_cons (pv 0) (pa_cons (pe_callG (E := fun _ _ _ => True) (by exact gd) (ok_law_any T) (hr.mono (by omega)) rfl T.g__law_any T.F_law_any.kp T.b_law_any .nil pass0 (pa_cons (pv 0) (pa_cons (pe_lst (pa_cons pe_int (pa_cons pe_int (pa_cons pe_int (pa_cons pe_int (pa_cons pe_int (pa_cons pe_int (pa_cons pe_int pa_nil)))))))) pa_nil))) pa_nil))))
      (pss_cons (ps_if (PW.pt (pw_and (pt_cmpR (u_ne (K := K) (cl := clT T) (by exact hu64 hr)) (pv 2) (pe_lst pa_nil) (nomark _)) (pw_and1 (pt_cmpR (u_eq (K := K) (cl := clT T) (by exact hu64 hr)) (pe_callG (E := fun _ _ _ => True) (by exact gd) (ok_law_deal T) (hr.mono (by omega)) rfl T.g__law_deal T.F_law_deal.kp T.b_law_deal .nil pass0 (pa_cons (pv 0) (pa_cons pe_int pa_nil))) pe_int (nomark _)))))
      (pss_one (ps_set (i := 4) sc_law_pool.nd rfl (Or.inr rfl) (pe_slice (u_slice (K := K) (cl := clT T)) (pe_op (u_add (K := K) (cl := clT T)) (pe_ix (u_ix (K := K) (cl := clT T)) (pv 2) (pe_callG (E := fun _ _ _ => True) (by exact gd) (ok_law_deal T) (hr.mono (by omega)) rfl T.g__law_deal T.F_law_deal.kp T.b_law_deal .nil pass0 (pa_cons (pv 0) (pa_cons (pe_callB (u_len (K := K) (cl := clT T)) rfl T.z_len (by decide +kernel) (pa_cons (pv 2) pa_nil)) pa_nil))) (fun _ _ => rfl)) (pv 4)) po_none (po_some pe_int)))) pss_nil)
      (pss_cons (ps_if (pt_cmpR (u_in (K := K) (cl := clT T) (by exact hu65 hr)) (pv 4) (pv 2) (by rfl))
      (pss_one (ps_set (i := 4) sc_law_pool.nd rfl (Or.inr rfl) (pe_ix (u_ix (K := K) (cl := clT T)) (pe_lc (own := [("sign", 5)]) rfl sc_law_pool.nd (pi_u (K := K) pe_str) (blkOk_by (own := [("sign", 5)]) (N := N_law_pool) (sc := defScope s_law_pool) (by decide +kernel)) (fun _ _ _ _ _ => (pg_name (i := 5) sc_law_pool.nd rfl (by first | exact Or.inl rfl | exact Or.inr rfl))) (fun _ _ _ _ _ => (by exact (pts_one (pt_cmpR (u_notIn (K := K) (cl := clT T) (by exact hu65 hr)) (pe_op (u_add (K := K) (cl := clT T)) (pe_slice (u_slice (K := K) (cl := clT T)) (pv 4) po_none (po_some pe_int)) (pv 5)) (pv 2) (by rfl))))) (fun _ _ _ _ _ => (by exact (pe_op (u_add (K := K) (cl := clT T)) (pe_slice (u_slice (K := K) (cl := clT T)) (pv 4) po_none (po_some pe_int)) (pv 5))))) pe_int (fun _ _ => rfl)))) pss_nil)
      (pss_one (ps_expr (pe_bmK (K := K) PySem.F.plainAttrs_list PySem.F.slot_list_append PySem.F.type_list_append mt_append (pv 2) (pa_cons (pv 4) pa_nil))))))))
      (pss_one (ps_ret (pv 2))))), (ss_cons (ss_asg (se_lst sl_nil) (sg_name 2))
      (ss_cons (ss_for (si_range1 (sl_cons (se_var 1) sl_nil)) (sg_name 3)
      (ss_cons (ss_asg (se_call (fun _ _ => .nil) (sa_b 0 (sa_s (SemE.v (se_call (fun _ _ => .nil) (sa_b 0 (sa_s (SemE.v (se_lst (sl_cons se_int (sl_cons se_int (sl_cons se_int (sl_cons se_int (sl_cons se_int (sl_cons se_int (sl_cons se_int sl_nil))))))))) sa_nil)))) sa_nil))) (sg_name 4))
      (ss_cons (ss_if (st_and (st_test (se_op rs2 (sw_nm 2) (SemV.w (SemE.v (se_lst sl_nil))))) (st_test (se_op rs2 (SemV.w (SemE.v (se_call (fun _ _ => .nil) (sa_b 0 (sa_s se_int sa_nil))))) (SemV.w se_int))))
      (ss_asg (se_slice (SemV.w (SemE.v (se_opE rs2e (SemV.w (se_op rs2 (sw_nm 2) (SemV.w (SemE.v (se_call (fun _ _ => .nil) (sa_b 0 (sa_s (se_cb rsn (sw_cons (sw_nm 2) sw_nil)) sa_nil))))))) (sw_nm 4)))) so_none (so_some se_int)) (sg_name 4)) ss_nil)
      (ss_cons (ss_if (st_test (se_op rs2 (sw_nm 4) (sw_nm 2)))
      (ss_asg (SemV.e (se_op rs2 (SemV.w (SemE.v (se_lc (vs := [5]) (si_u se_str) (sg_name 5) (st_test (se_op rs2 (SemV.w (SemE.v (se_opE rs2e (SemV.w (SemE.v (se_slice (sw_nm 4) so_none (so_some se_int)))) (sw_nm 5)))) (sw_nm 2))) (SemE.v (se_opE rs2e (SemV.w (SemE.v (se_slice (sw_nm 4) so_none (so_some se_int)))) (sw_nm 5))) (by decide)))) (SemV.w se_int))) (sg_name 4)) ss_nil)
      (ss_drop (se_mut mu_append (sl_cons (se_var 4) sl_nil)))))))
      (ss_ret (se_mv 2))))⟩)
theorem ok_law_strange (T : Txt P K mg) : FnG P w K mg base CX0 3 T.f_law_strange T.d_law_strange ["jar", "pool"] (FSp K (clT T) 2 F_law_strange) :=
  okP (lv := 2) (k := 2) (fb := b_law_strange) T.F_law_strange sc_law_strange rfl (fun cdv A outer s H E gd hr => ⟨_, (pss_cons (ps_set (i := 2) sc_law_strange.nd rfl (Or.inl rfl) (pe_callG (E := fun _ _ _ => True) (by exact gd) (ok_law_any T) (hr.mono (by omega)) rfl T.g__law_any T.F_law_any.kp T.b_law_any .nil pass0 (pa_cons (pv 0) (pa_cons (pv 1) pa_nil))))
      (pss_cons (ps_set (i := 3) sc_law_strange.nd rfl (Or.inl rfl) (pe_slice (u_slice (K := K) (cl := clT T)) (pv 2) po_none (po_some (pe_op (u_add (K := K) (cl := clT T)) pe_int (pe_callG (E := fun _ _ _ => True) (by exact gd) (ok_law_deal T) (hr.mono (by omega)) rfl T.g__law_deal T.F_law_deal.kp T.b_law_deal .nil pass0 (pa_cons (pv 0) (pa_cons (pe_callB (u_len (K := K) (cl := clT T)) rfl T.z_len (by decide +kernel) (pa_cons (pv 2) pa_nil)) pa_nil)))))))
      (pss_one (ps_ret (pe_op (u_add (K := K) (cl := clT T)) (pe_callG (E := fun _ _ _ => True) (by exact gd) (ok_law_any T) (hr.mono (by omega)) rfl T.g__law_any T.F_law_any.kp T.b_law_any .nil pass0 (pa_cons (pv 0) (pa_cons (pe_lst (pa_cons pe_str (pa_cons (pv 3) (pa_cons (pv 3) (pa_cons (pv 2) pa_nil))))) pa_nil))) (pe_callG (E := fun _ _ _ => True) (by exact gd) (ok_law_any T) (hr.mono (by omega)) rfl T.g__law_any T.F_law_any.kp T.b_law_any .nil pass0 (pa_cons (pv 0) (pa_cons (pe_lst (pa_cons pe_str (pa_cons pe_str (pa_cons pe_str (pa_cons pe_str pa_nil))))) pa_nil)))))))), (ss_cons (ss_asg (se_call (fun _ _ => .nil) (sa_b 0 (sa_s (se_var 1) sa_nil))) (sg_name 2))
      (ss_cons (ss_asg (se_slice (sw_nm 2) so_none (so_some (SemE.v (se_opE rs2e (SemV.w se_int) (SemV.w (SemE.v (se_call (fun _ _ => .nil) (sa_b 0 (sa_s (se_cb rsn (sw_cons (sw_nm 2) sw_nil)) sa_nil))))))))) (sg_name 3))
      (ss_ret (se_opE rs2e (SemV.w (SemE.v (se_call (fun _ _ => .nil) (sa_b 0 (sa_s (SemE.v (se_lst (sl_cons se_str (sl_cons (se_var 3) (sl_cons (se_var 3) (sl_cons (se_var 2) sl_nil)))))) sa_nil))))) (SemV.w (SemE.v (se_call (fun _ _ => .nil) (sa_b 0 (sa_s (SemE.v (se_lst (sl_cons se_str (sl_cons se_str (sl_cons se_str (sl_cons se_str sl_nil)))))) sa_nil)))))))))⟩)
theorem ok_law_row (T : Txt P K mg) : FnG P w K mg base CX0 4 T.f_law_row T.d_law_row ["jar", "pool", "most"] (FSp K (clT T) 3 F_law_row) :=
  okP (lv := 3) (k := 3) (fb := b_law_row) T.F_law_row sc_law_row rfl (fun cdv A outer s H E gd hr => ⟨_, (pss_cons (ps_set (i := 3) sc_law_row.nd rfl (Or.inl rfl) (pe_lst pa_nil))
      (pss_cons (ps_for PassesOwn.never rfl (pi_range1 rfl T.z_range (pa_cons (pe_callG (E := fun _ _ _ => True) (by exact gd) (ok_law_deal T) (hr.mono (by omega)) rfl T.g__law_deal T.F_law_deal.kp T.b_law_deal .nil pass0 (pa_cons (pv 0) (pa_cons (pe_op (u_add (K := K) (cl := clT T)) (pv 2) pe_int) pa_nil))) pa_nil)) (pg_name (i := 4) sc_law_row.nd rfl (by first | exact Or.inl rfl | exact Or.inr rfl))
      (pss_cons (ps_set (i := 5) sc_law_row.nd rfl (Or.inl rfl) (pe_callG (E := fun _ _ _ => True) (by exact gd) (ok_law_deal T) (hr.mono (by omega)) rfl T.g__law_deal T.F_law_deal.kp T.b_law_deal .nil pass0 (pa_cons (pv 0) (pa_cons pe_int pa_nil))))
      (pss_one (ps_expr (pe_bmK (K := K) PySem.F.plainAttrs_list PySem.F.slot_list_append PySem.F.type_list_append mt_append (pv 3) (pa_cons (pe_ifExp (pt_cmpR (u_eq (K := K) (cl := clT T) (by exact hu64 hr)) (pv 5) pe_int (nomark _)) pe_non (pe_ifExp (pt_cmpR (u_eq (K := K) (cl := clT T) (by exact hu64 hr)) (pv 5) pe_int (nomark _)) (pe_callG (E := fun _ _ _ => True) (by exact gd) (ok_law_strange T) (hr.mono (by omega)) rfl T.g__law_strange T.F_law_strange.kp T.b_law_strange .nil pass0 (pa_cons (pv 0) (pa_cons (pv 1) pa_nil))) (pe_callG (E := fun _ _ _ => True) (by exact gd) (ok_law_any T) (hr.mono (by omega)) rfl T.g__law_any T.F_law_any.kp T.b_law_any .nil pass0 (pa_cons (pv 0) (pa_cons (pv 1) pa_nil))))) pa_nil))))))
      (pss_one (ps_ret (pe_callTy (u_tuple (K := K) (cl := clT T)) rfl T.z_tuple (by decide +kernel) (pa_cons (pv 3) pa_nil)))))), (ss_cons (ss_asg (se_lst sl_nil) (sg_name 3))
      (ss_cons (ss_for (si_range1 (sl_cons (SemE.v (se_call (fun _ _ => .nil) (sa_b 0 (sa_s (SemE.v (se_opE rs2e (sw_nm 2) (SemV.w se_int))) sa_nil)))) sl_nil)) (sg_name 4)
      (ss_cons (ss_asg (se_call (fun _ _ => .nil) (sa_b 0 (sa_s se_int sa_nil))) (sg_name 5))
      (ss_drop (se_mut mu_append (sl_cons (SemE.v (se_if (st_test (se_op rs2 (sw_nm 5) (SemV.w se_int))) (SemV.e se_non) (se_if (st_test (se_op rs2 (sw_nm 5) (SemV.w se_int))) (se_call (fun _ _ => .nil) (sa_b 0 (sa_s (se_var 1) sa_nil))) (se_call (fun _ _ => .nil) (sa_b 0 (sa_s (se_var 1) sa_nil)))))) sl_nil)))))
      (ss_ret (SemV.e (se_cb rsn (sw_cons (sw_nm 3) sw_nil))))))⟩)
theorem ok_law_atom (T : Txt P K mg) : FnG P w K mg base CX0 3 T.f_law_atom T.d_law_atom ["jar", "pool"] (FSp K (clT T) 2 F_law_atom) :=
  okP (lv := 2) (k := 4) (fb := b_law_atom) T.F_law_atom sc_law_atom rfl (fun cdv A outer s H E gd hr => ⟨_, (pss_cons (ps_par (i := 2) (j := 3) rfl sc_law_atom.nd rfl rfl (by decide) rfl rfl (pa_cons (pe_callG (E := fun _ _ _ => True) (by exact gd) (ok_law_any T) (hr.mono (by omega)) rfl T.g__law_any T.F_law_any.kp T.b_law_any .nil pass0 (pa_cons (pv 0) (pa_cons (pe_lst (pa_cons pe_str (pa_cons pe_str (pa_cons pe_str (pa_cons pe_str (pa_cons pe_str pa_nil)))))) pa_nil))) (pa_cons (pe_callG (E := fun _ _ _ => True) (by exact gd) (ok_law_any T) (hr.mono (by omega)) rfl T.g__law_any T.F_law_any.kp T.b_law_any .nil pass0 (pa_cons (pv 0) (pa_cons (pe_lst (pa_cons pe_str (pa_cons pe_str (pa_cons pe_str pa_nil)))) pa_nil))) pa_nil)) (by rfl))
      (pss_cons (ps_if (pt_cmpR (u_eq (K := K) (cl := clT T) (by exact hu64 hr)) (pv 2) pe_str (nomark _))
      (pss_one (ps_ret (pe_tup (pa_cons (pv 2) (pa_cons (pv 3) (pa_cons (pe_callG (E := fun _ _ _ => True) (by exact gd) (ok_law_any T) (hr.mono (by omega)) rfl T.g__law_any T.F_law_any.kp T.b_law_any .nil pass0 (pa_cons (pv 0) (pa_cons (pv 1) pa_nil))) pa_nil)))))) pss_nil)
      (pss_cons (ps_if (pt_cmpR (u_eq (K := K) (cl := clT T) (by exact hu64 hr)) (pv 2) pe_str (nomark _))
      (pss_cons (ps_set (i := 4) sc_law_atom.nd rfl (Or.inl rfl) (pe_callG (E := fun _ _ _ => True) (by exact gd) (ok_law_any T) (hr.mono (by omega)) rfl T.g__law_any T.F_law_any.kp T.b_law_any .nil pass0 (pa_cons (pv 0) (pa_cons (pv 1) pa_nil))))
      (pss_one (ps_ret (pe_tup (pa_cons (pv 2) (pa_cons (pv 3) (pa_cons (pe_slice (u_slice (K := K) (cl := clT T)) (pv 4) po_none (po_some (pe_op (u_add (K := K) (cl := clT T)) pe_int (pe_callG (E := fun _ _ _ => True) (by exact gd) (ok_law_deal T) (hr.mono (by omega)) rfl T.g__law_deal T.F_law_deal.kp T.b_law_deal .nil pass0 (pa_cons (pv 0) (pa_cons (pe_callB (u_min (K := K) (cl := clT T) rfl) rfl T.z_min (by decide +kernel) (pa_cons (pe_callB (u_len (K := K) (cl := clT T)) rfl T.z_len (by decide +kernel) (pa_cons (pv 4) pa_nil)) (pa_cons pe_int pa_nil))) pa_nil)))))) pa_nil))))))) pss_nil)
      (pss_cons (ps_if (pt_cmpR (u_eq (K := K) (cl := clT T) (by exact hu64 hr)) (pv 2) pe_str (nomark _))
      (pss_one (ps_ret (pe_tup (pa_cons (pv 2) (pa_cons (pv 3) (pa_cons (pe_callTy (u_tuple (K := K) (cl := clT T)) rfl T.z_tuple (by decide +kernel) (pa_cons (pe_lc (own := [("turn", 5)]) rfl sc_law_atom.nd (pi_range1 rfl T.z_range (pa_cons (pe_op (u_add (K := K) (cl := clT T)) pe_int (pe_callG (E := fun _ _ _ => True) (by exact gd) (ok_law_any T) (hr.mono (by omega)) rfl T.g__law_any T.F_law_any.kp T.b_law_any .nil pass0 (pa_cons (pv 0) (pa_cons (pe_lst (pa_cons pe_int (pa_cons pe_int (pa_cons pe_int (pa_cons pe_int pa_nil))))) pa_nil)))) pa_nil)) (blkOk_by (own := [("turn", 5)]) (N := N_law_atom) (sc := defScope s_law_atom) (by decide +kernel)) (fun _ _ _ _ _ => (pg_name (i := 5) sc_law_atom.nd rfl (by first | exact Or.inl rfl | exact Or.inr rfl))) (fun _ _ _ _ _ => (by exact pts_nil)) (fun _ _ _ _ _ => (by exact (pe_callG (E := fun _ _ _ => True) (by exact gd) (ok_law_any T) (hr.mono (by omega)) rfl T.g__law_any T.F_law_any.kp T.b_law_any .nil pass0 (pa_cons (pv 0) (pa_cons (pv 1) pa_nil)))))) pa_nil)) pa_nil)))))) pss_nil)
      (pss_one (ps_ret (pe_tup (pa_cons (pv 2) (pa_cons (pv 3) (pa_cons (pe_callG (E := fun _ _ _ => True) (by exact gd) (ok_law_any T) (hr.mono (by omega)) rfl T.g__law_any T.F_law_any.kp T.b_law_any .nil pass0 (pa_cons (pv 0) (pa_cons (pv 1) pa_nil))) (pa_cons (pe_callG (E := fun _ _ _ => True) (by exact gd) (ok_law_any T) (hr.mono (by omega)) rfl T.g__law_any T.F_law_any.kp T.b_law_any .nil pass0 (pa_cons (pv 0) (pa_cons (pv 1) pa_nil))) (pa_cons (pe_op (u_add (K := K) (cl := clT T)) pe_int (pe_callG (E := fun _ _ _ => True) (by exact gd) (ok_law_deal T) (hr.mono (by omega)) rfl T.g__law_deal T.F_law_deal.kp T.b_law_deal .nil pass0 (pa_cons (pv 0) (pa_cons pe_int pa_nil)))) pa_nil)))))))))))), (ss_cons (ss_par (sa_e (se_call (fun _ _ => .nil) (sa_b 0 (sa_s (SemE.v (se_lst (sl_cons se_str (sl_cons se_str (sl_cons se_str (sl_cons se_str (sl_cons se_str sl_nil))))))) sa_nil))) (sa_e (se_call (fun _ _ => .nil) (sa_b 0 (sa_s (SemE.v (se_lst (sl_cons se_str (sl_cons se_str (sl_cons se_str sl_nil))))) sa_nil))) sa_nil)))
      (ss_cons (ss_if (st_test (se_op rs2 (sw_nm 2) (SemV.w se_str)))
      (ss_ret (SemV.e (se_tup (sl_cons (se_var 2) (sl_cons (se_var 3) (sl_cons (SemE.v (se_call (fun _ _ => .nil) (sa_b 0 (sa_s (se_var 1) sa_nil)))) sl_nil)))))) ss_nil)
      (ss_cons (ss_if (st_test (se_op rs2 (sw_nm 2) (SemV.w se_str)))
      (ss_cons (ss_asg (se_call (fun _ _ => .nil) (sa_b 0 (sa_s (se_var 1) sa_nil))) (sg_name 4))
      (ss_ret (SemV.e (se_tup (sl_cons (se_var 2) (sl_cons (se_var 3) (sl_cons (SemE.v (se_slice (sw_nm 4) so_none (so_some (SemE.v (se_opE rs2e (SemV.w se_int) (SemV.w (SemE.v (se_call (fun _ _ => .nil) (sa_b 0 (sa_s (se_cb rsn (sw_cons (SemV.w (se_cb rsn (sw_cons (sw_nm 4) sw_nil))) (sw_cons (SemV.w se_int) sw_nil))) sa_nil)))))))))) sl_nil))))))) ss_nil)
      (ss_cons (ss_if (st_test (se_op rs2 (sw_nm 2) (SemV.w se_str)))
      (ss_ret (SemV.e (se_tup (sl_cons (se_var 2) (sl_cons (se_var 3) (sl_cons (se_cb rsn (sw_cons (SemV.w (SemE.v (se_lc (vs := [5]) (si_range1 (sl_cons (SemE.v (se_opE rs2e (SemV.w se_int) (SemV.w (SemE.v (se_call (fun _ _ => .nil) (sa_b 0 (sa_s (SemE.v (se_lst (sl_cons se_int (sl_cons se_int (sl_cons se_int (sl_cons se_int sl_nil)))))) sa_nil))))))) sl_nil)) (sg_name 5) st_yes (SemE.v (se_call (fun _ _ => .nil) (sa_b 0 (sa_s (se_var 1) sa_nil)))) (by decide)))) sw_nil)) sl_nil)))))) ss_nil)
      (ss_ret (SemV.e (se_tup (sl_cons (se_var 2) (sl_cons (se_var 3) (sl_cons (SemE.v (se_call (fun _ _ => .nil) (sa_b 0 (sa_s (se_var 1) sa_nil)))) (sl_cons (SemE.v (se_call (fun _ _ => .nil) (sa_b 0 (sa_s (se_var 1) sa_nil)))) (sl_cons (SemE.v (se_opE rs2e (SemV.w se_int) (SemV.w (SemE.v (se_call (fun _ _ => .nil) (sa_b 0 (sa_s se_int sa_nil))))))) sl_nil))))))))))))⟩)
theorem ok_law_question (T : Txt P K mg) : ∀ m, FnG P w K mg base CX0 (3 + m) T.f_law_question T.d_law_question ["jar", "pool", "levels", "left"] (FSp K (clT T) 4 (F_law_question m))
  | 0 => ok_no
  | m + 1 => by
    have ih := ok_law_question T m
    exact okP (lv := 3 + m) (k := 3) (fb := b_law_question (F_law_question m)) T.F_law_question sc_law_question rfl (fun cdv A outer s H E gd hr => ⟨_, (pss_cons (ps_asg (pe_op (u_sub (K := K) (cl := clT T)) (pe_ix (u_ix (K := K) (cl := clT T)) (pv 3) pe_int (fun _ _ => rfl)) pe_int) (pg_sub (pv 3) pe_int set_list))
      (pss_cons (ps_set (i := 4) sc_law_question.nd rfl (Or.inl rfl) (pe_callG (E := fun _ _ _ => True) (by exact gd) (ok_law_deal T) (hr.mono (by omega)) rfl T.g__law_deal T.F_law_deal.kp T.b_law_deal .nil pass0 (pa_cons (pv 0) (pa_cons pe_int pa_nil))))
      (pss_cons (ps_if (PW.pt (pw_or (pt_cmpR (u_eq (K := K) (cl := clT T) (by exact hu64 hr)) (pv 2) pe_int (nomark _)) (pw_or (pt_cmpR (u_lt (K := K) (cl := clT T)) (pe_ix (u_ix (K := K) (cl := clT T)) (pv 3) pe_int (fun _ _ => rfl)) pe_int (nomark _)) (pw_or (pt_cmpR (u_lt (K := K) (cl := clT T)) (pe_ix (u_ix (K := K) (cl := clT T)) (pv 3) pe_int (fun _ _ => rfl)) pe_int (nomark _)) (pw_or1 (pt_cmpR (u_eq (K := K) (cl := clT T) (by exact hu64 hr)) (pv 4) pe_int (nomark _)))))))
      (pss_cons (ps_asg (pe_op (u_sub (K := K) (cl := clT T)) (pe_ix (u_ix (K := K) (cl := clT T)) (pv 3) pe_int (fun _ _ => rfl)) pe_int) (pg_sub (pv 3) pe_int set_list))
      (pss_one (ps_ret (pe_callG (E := fun _ _ _ => True) (by exact gd) (ok_law_atom T) (hr.mono (by omega)) rfl T.g__law_atom T.F_law_atom.kp T.b_law_atom .nil pass0 (pa_cons (pv 0) (pa_cons (pv 1) pa_nil)))))) pss_nil)
      (pss_cons (ps_if (pt_cmpR (u_eq (K := K) (cl := clT T) (by exact hu64 hr)) (pv 4) pe_int (nomark _))
      (pss_one (ps_ret (pe_tup (pa_cons pe_str (pa_cons (pe_callG (E := fun _ _ _ => True) (by exact gd) ih (hr.mono (by omega)) rfl T.g__law_question T.F_law_question.kp T.b_law_question .nil pass0 (pa_cons (pv 0) (pa_cons (pv 1) (pa_cons (pe_op (u_sub (K := K) (cl := clT T)) (pv 2) pe_int) (pa_cons (pv 3) pa_nil))))) pa_nil))))) pss_nil)
      (pss_cons (ps_set (i := 5) sc_law_question.nd rfl (Or.inl rfl) (pe_lst pa_nil))
      (pss_cons (ps_for PassesOwn.never rfl (pi_range1 rfl T.z_range (pa_cons (pe_op (u_add (K := K) (cl := clT T)) pe_int (pe_callG (E := fun _ _ _ => True) (by exact gd) (ok_law_deal T) (hr.mono (by omega)) rfl T.g__law_deal T.F_law_deal.kp T.b_law_deal .nil pass0 (pa_cons (pv 0) (pa_cons pe_int pa_nil)))) pa_nil)) (pg_name (i := 6) sc_law_question.nd rfl (by first | exact Or.inl rfl | exact Or.inr rfl))
      (pss_one (ps_if (PW.pt (pw_or (pt_cmpR (u_eq (K := K) (cl := clT T) (by exact hu64 hr)) (pv 6) pe_int (nomark _)) (pw_or1 (PW.pt (pw_and (pt_cmpR (u_gt (K := K) (cl := clT T)) (pe_ix (u_ix (K := K) (cl := clT T)) (pv 3) pe_int (fun _ _ => rfl)) pe_int (nomark _)) (pw_and1 (pt_cmpR (u_gt (K := K) (cl := clT T)) (pe_ix (u_ix (K := K) (cl := clT T)) (pv 3) pe_int (fun _ _ => rfl)) pe_int (nomark _))))))))
      (pss_one (ps_expr (pe_bmK (K := K) PySem.F.plainAttrs_list PySem.F.slot_list_append PySem.F.type_list_append mt_append (pv 5) (pa_cons (pe_callG (E := fun _ _ _ => True) (by exact gd) ih (hr.mono (by omega)) rfl T.g__law_question T.F_law_question.kp T.b_law_question .nil pass0 (pa_cons (pv 0) (pa_cons (pv 1) (pa_cons (pe_op (u_sub (K := K) (cl := clT T)) (pv 2) pe_int) (pa_cons (pv 3) pa_nil))))) pa_nil)))) pss_nil)))
      (pss_one (ps_ret (pe_tup (pa_cons (pe_callG (E := fun _ _ _ => True) (by exact gd) (ok_law_any T) (hr.mono (by omega)) rfl T.g__law_any T.F_law_any.kp T.b_law_any .nil pass0 (pa_cons (pv 0) (pa_cons (pe_lst (pa_cons pe_str (pa_cons pe_str pa_nil))) pa_nil))) (pa_cons (pe_callTy (u_tuple (K := K) (cl := clT T)) rfl T.z_tuple (by decide +kernel) (pa_cons (pv 5) pa_nil)) pa_nil))))))))))), (ss_cons (ss_asg (SemV.e (se_op rs2 (SemV.w (se_op rs2 (sw_nm 3) (SemV.w se_int))) (SemV.w se_int))) (sg_sub se_int))
      (ss_cons (ss_asg (se_call (fun _ _ => .nil) (sa_b 0 (sa_s se_int sa_nil))) (sg_name 4))
      (ss_cons (ss_if (st_or (st_test (se_op rs2 (sw_nm 2) (SemV.w se_int))) (st_or (st_test (se_op rs2 (SemV.w (se_op rs2 (sw_nm 3) (SemV.w se_int))) (SemV.w se_int))) (st_or (st_test (se_op rs2 (SemV.w (se_op rs2 (sw_nm 3) (SemV.w se_int))) (SemV.w se_int))) (st_test (se_op rs2 (sw_nm 4) (SemV.w se_int))))))
      (ss_cons (ss_asg (SemV.e (se_op rs2 (SemV.w (se_op rs2 (sw_nm 3) (SemV.w se_int))) (SemV.w se_int))) (sg_sub se_int))
      (ss_ret (se_call (fun _ _ => .nil) (sa_b 0 (sa_s (se_var 1) sa_nil))))) ss_nil)
      (ss_cons (ss_if (st_test (se_op rs2 (sw_nm 4) (SemV.w se_int)))
      (ss_ret (SemV.e (se_tup (sl_cons se_str (sl_cons (SemE.v (se_call (fun _ _ => .nil) (sa_b 0 (sa_s (se_var 1) (sa_s (se_op rs2 (sw_nm 2) (SemV.w se_int)) (sa_b 3 sa_nil)))))) sl_nil))))) ss_nil)
      (ss_cons (ss_asg (se_lst sl_nil) (sg_name 5))
      (ss_cons (ss_for (si_range1 (sl_cons (SemE.v (se_opE rs2e (SemV.w se_int) (SemV.w (SemE.v (se_call (fun _ _ => .nil) (sa_b 0 (sa_s se_int sa_nil))))))) sl_nil)) (sg_name 6)
      (ss_if (st_or (st_test (se_op rs2 (sw_nm 6) (SemV.w se_int))) (st_and (st_test (se_op rs2 (SemV.w (se_op rs2 (sw_nm 3) (SemV.w se_int))) (SemV.w se_int))) (st_test (se_op rs2 (SemV.w (se_op rs2 (sw_nm 3) (SemV.w se_int))) (SemV.w se_int)))))
      (ss_drop (se_mut mu_append (sl_cons (SemE.v (se_call (fun _ _ => .nil) (sa_b 0 (sa_s (se_var 1) (sa_s (se_op rs2 (sw_nm 2) (SemV.w se_int)) (sa_b 3 sa_nil)))))) sl_nil))) ss_nil))
      (ss_ret (SemV.e (se_tup (sl_cons (SemE.v (se_call (fun _ _ => .nil) (sa_b 0 (sa_s (SemE.v (se_lst (sl_cons se_str (sl_cons se_str sl_nil)))) sa_nil)))) (sl_cons (se_cb rsn (sw_cons (sw_nm 5) sw_nil)) sl_nil)))))))))))⟩)
theorem ok_law_asked (T : Txt P K mg) : FnG P w K mg base CX0 9 T.f_law_asked T.d_law_asked ["jar", "pool"] (FSp K (clT T) 2 F_law_asked) :=
  okP (lv := 8) (k := 2) (fb := b_law_asked) T.F_law_asked sc_law_asked rfl (fun cdv A outer s H E gd hr => ⟨_, (pss_cons (ps_asg (pe_callG (E := fun _ _ _ => True) (by exact gd) (ok_law_any T) (hr.mono (by omega)) rfl T.g__law_any T.F_law_any.kp T.b_law_any .nil pass0 (pa_cons (pv 0) (pa_cons (pe_lst (pa_cons (pe_tup (pa_cons pe_int (pa_cons pe_int pa_nil))) (pa_cons (pe_tup (pa_cons pe_int (pa_cons pe_int pa_nil))) (pa_cons (pe_tup (pa_cons pe_int (pa_cons pe_int pa_nil))) (pa_cons (pe_tup (pa_cons pe_int (pa_cons pe_int pa_nil))) pa_nil))))) pa_nil))) (pg_tupK (K := K) (n := 2) rfl (pgs_cons (pg_name (i := 2) sc_law_asked.nd rfl (by first | exact Or.inl rfl | exact Or.inr rfl)) (pgs_cons (pg_name (i := 3) sc_law_asked.nd rfl (by first | exact Or.inl rfl | exact Or.inr rfl)) pgs_nil))))
      (pss_one (ps_ret (pe_callG (E := fun _ _ _ => True) (by exact gd) (ok_law_question (mg := mg) (w := w) (base := base) T 5) (hr.mono (by omega)) rfl T.g__law_question T.F_law_question.kp T.b_law_question .nil pass0 (pa_cons (pv 0) (pa_cons (pv 1) (pa_cons pe_int (pa_cons (pe_lst (pa_cons (pv 2) (pa_cons (pv 3) pa_nil))) pa_nil)))))))), (ss_cons (ss_asg (se_call (fun _ _ => .nil) (sa_b 0 (sa_s (SemE.v (se_lst (sl_cons (se_tup (sl_cons se_int (sl_cons se_int sl_nil))) (sl_cons (se_tup (sl_cons se_int (sl_cons se_int sl_nil))) (sl_cons (se_tup (sl_cons se_int (sl_cons se_int sl_nil))) (sl_cons (se_tup (sl_cons se_int (sl_cons se_int sl_nil))) sl_nil)))))) sa_nil))) (sg_tup (sgs_cons (sg_name 2) (sgs_cons (sg_name 3) sgs_nil))))
      (ss_ret (se_call (fun _ _ => .nil) (sa_b 0 (sa_s (se_var 1) (sa_s se_int (sa_e (se_lst (sl_cons (se_var 2) (sl_cons (se_var 3) sl_nil))) sa_nil)))))))⟩)
theorem ok_law_atoms (T : Txt P K mg) : ∀ m, FnG P w K mg base CX0 (0 + m) T.f_law_atoms T.d_law_atoms ["question"] (FSp K (clT T) 1 (F_law_atoms m))
  | 0 => ok_no
  | m + 1 => by
    have ih := ok_law_atoms T m
    exact okP (lv := 0 + m) (k := 2) (fb := b_law_atoms (F_law_atoms m)) T.F_law_atoms sc_law_atoms rfl (fun cdv A outer s H E gd hr => ⟨_, (pss_cons (ps_if (pt_cmpR (u_eq (K := K) (cl := clT T) (by exact hu64 hr)) (pe_ix (u_ix (K := K) (cl := clT T)) (pv 0) pe_int (fun _ _ => rfl)) pe_str (nomark _))
      (pss_one (ps_ret (pe_callG (E := fun _ _ _ => True) (by exact gd) ih (hr.mono (by omega)) rfl T.g__law_atoms T.F_law_atoms.kp T.b_law_atoms .nil pass0 (pa_cons (pe_ix (u_ix (K := K) (cl := clT T)) (pv 0) pe_int (fun _ _ => rfl)) pa_nil)))) pss_nil)
      (pss_cons (ps_if (PW.pt (pw_and (pt_cmpR (u_in (K := K) (cl := clT T) (by exact hu65 hr)) (pe_ix (u_ix (K := K) (cl := clT T)) (pv 0) pe_int (fun _ _ => rfl)) (pe_tup (pa_cons pe_str (pa_cons pe_str pa_nil))) (by rfl)) (pw_and1 (pt_truthK (K := K) (pe_callB (call_isiK (K := K)) rfl T.z_isinstance (by decide +kernel) (pa_cons (pe_ix (u_ix (K := K) (cl := clT T)) (pv 0) pe_int (fun _ _ => rfl)) (pa_cons (pe_bltn (v := .ty "tuple") (u := .type "tuple") rfl T.z_tuple (by decide +kernel) rfl) pa_nil))) (by intro _; rfl)))))
      (pss_cons (ps_set (i := 1) sc_law_atoms.nd rfl (Or.inl rfl) (pe_lst pa_nil))
      (pss_cons (ps_for PassesOwn.never rfl (pi_u (K := K) (pe_ix (u_ix (K := K) (cl := clT T)) (pv 0) pe_int (fun _ _ => rfl))) (pg_name (i := 2) sc_law_atoms.nd rfl (by first | exact Or.inl rfl | exact Or.inr rfl))
      (pss_one (ps_set (i := 1) sc_law_atoms.nd rfl (Or.inl rfl) (pe_op (u_add (K := K) (cl := clT T)) (pv 1) (pe_callG (E := fun _ _ _ => True) (by exact gd) ih (hr.mono (by omega)) rfl T.g__law_atoms T.F_law_atoms.kp T.b_law_atoms .nil pass0 (pa_cons (pv 2) pa_nil))))))
      (pss_one (ps_ret (pv 1))))) pss_nil)
      (pss_one (ps_ret (pe_lst (pa_cons (pv 0) pa_nil)))))), (ss_cons (ss_if (st_test (se_op rs2 (SemV.w (se_op rs2 (sw_nm 0) (SemV.w se_int))) (SemV.w se_str)))
      (ss_ret (se_call (fun _ _ => .nil) (sa_s (se_op rs2 (sw_nm 0) (SemV.w se_int)) sa_nil))) ss_nil)
      (ss_cons (ss_if (st_and (st_test (se_op rs2 (SemV.w (se_op rs2 (sw_nm 0) (SemV.w se_int))) (SemV.w (se_tup (sl_cons se_str (sl_cons se_str sl_nil)))))) (st_truth (SemV.w (se_isi (SemV.w (se_op rs2 (sw_nm 0) (SemV.w se_int)))))))
      (ss_cons (ss_asg (se_lst sl_nil) (sg_name 1))
      (ss_cons (ss_for (si_u (se_op rs2 (sw_nm 0) (SemV.w se_int))) (sg_name 2)
      (ss_asg (se_opE rs2e (sw_nm 1) (SemV.w (SemE.v (se_call (fun _ _ => .nil) (sa_s (se_var 2) sa_nil))))) (sg_name 1)))
      (ss_ret (se_mv 1)))) ss_nil)
      (ss_ret (se_lst (sl_cons (se_var 0) sl_nil)))))⟩)
theorem ok_law_once (T : Txt P K mg) : FnG P w K mg base CX0 1 T.f_law_once T.d_law_once ["some"] (FSp K (clT T) 1 F_law_once) :=
  okP (lv := 0) (k := 2) (fb := b_law_once) T.F_law_once sc_law_once rfl (fun cdv A outer s H E gd hr => ⟨_, (pss_cons (ps_set (i := 1) sc_law_once.nd rfl (Or.inl rfl) (pe_lst pa_nil))
      (pss_cons (ps_for PassesOwn.never rfl (pi_u (K := K) (pv 0)) (pg_name (i := 2) sc_law_once.nd rfl (by first | exact Or.inl rfl | exact Or.inr rfl))
      (pss_one (ps_if (pt_cmpR (u_notIn (K := K) (cl := clT T) (by exact hu65 hr)) (pv 2) (pv 1) (by rfl))
      (pss_one (ps_expr (pe_bmK (K := K) PySem.F.plainAttrs_list PySem.F.slot_list_append PySem.F.type_list_append mt_append (pv 1) (pa_cons (pv 2) pa_nil)))) pss_nil)))
      (pss_one (ps_ret (pv 1))))), (ss_cons (ss_asg (se_lst sl_nil) (sg_name 1))
      (ss_cons (ss_for (si_u (se_var 0)) (sg_name 2)
      (ss_if (st_test (se_op rs2 (sw_nm 2) (sw_nm 1)))
      (ss_drop (se_mut mu_append (sl_cons (se_var 2) sl_nil))) ss_nil))
      (ss_ret (se_mv 1))))⟩)
theorem ok_law_look (T : Txt P K mg) : FnG P w K mg base CX0 1 T.f_law_look T.d_law_look ["atom"] (FSp K (clT T) 1 F_law_look) :=
  okP (lv := 0) (k := 0) (fb := b_law_look) T.F_law_look sc_law_look rfl (fun cdv A outer s H E gd hr => ⟨_, (pss_one (ps_ret (pe_op (u_add (K := K) (cl := clT T)) (pe_tup (pa_cons (pe_ix (u_ix (K := K) (cl := clT T)) (pv 0) pe_int (fun _ _ => rfl)) pa_nil)) (pe_slice (u_slice (K := K) (cl := clT T)) (pv 0) (po_some pe_int) po_none)))), (ss_ret (se_opE rs2e (SemV.w (se_tup (sl_cons (se_op rs2 (sw_nm 0) (SemV.w se_int)) sl_nil))) (SemV.w (SemE.v (se_slice (sw_nm 0) (so_some se_int) so_none)))))⟩)
theorem ok_law_is_true_of (T : Txt P K mg) : FnG P w K mg base CX0 1 T.f_law_is_true_of T.d_law_is_true_of ["look", "row"] (FSp K (clT T) 2 F_law_is_true_of) :=
  okP (lv := 0) (k := 5) (fb := b_law_is_true_of) T.F_law_is_true_of sc_law_is_true_of rfl (fun cdv A outer s H E gd hr => ⟨_, (pss_cons (ps_if (pt_cmpR (u_eq (K := K) (cl := clT T) (by exact hu64 hr)) (pe_ix (u_ix (K := K) (cl := clT T)) (pv 0) pe_int (fun _ _ => rfl)) pe_str (nomark _))
      (pss_one (ps_ret (pe_cmpR (u_in (K := K) (cl := clT T) (by exact hu65 hr)) (pe_ix (u_ix (K := K) (cl := clT T)) (pv 0) pe_int (fun _ _ => rfl)) (pv 1) (by rfl)))) pss_nil)
      (pss_cons (ps_if (pt_cmpR (u_eq (K := K) (cl := clT T) (by exact hu64 hr)) (pe_ix (u_ix (K := K) (cl := clT T)) (pv 0) pe_int (fun _ _ => rfl)) pe_str (nomark _))
      (pss_one (ps_ret (pe_cmpR (u_ne (K := K) (cl := clT T) (by exact hu64 hr)) (pe_lc (own := [("each", 5)]) rfl sc_law_is_true_of.nd (pi_u (K := K) (pv 1)) (blkOk_by (own := [("each", 5)]) (N := N_law_is_true_of) (sc := defScope s_law_is_true_of) (by decide +kernel)) (fun _ _ _ _ _ => (pg_name (i := 5) sc_law_is_true_of.nd rfl (by first | exact Or.inl rfl | exact Or.inr rfl))) (fun _ _ _ _ _ => (by exact (pts_one (PW.pt (pw_and (pt_cmpR (u_notN (K := K) (cl := clT T)) (pv 5) pe_non (nomark _)) (pw_and1 (pt_cmpR (u_eq (K := K) (cl := clT T) (by exact hu64 hr)) (pe_slice (u_slice (K := K) (cl := clT T)) (pv 5) po_none (po_some (pe_callB (u_len (K := K) (cl := clT T)) rfl T.z_len (by decide +kernel) (pa_cons (pe_ix (u_ix (K := K) (cl := clT T)) (pv 0) pe_int (fun _ _ => rfl)) pa_nil)))) (pe_ix (u_ix (K := K) (cl := clT T)) (pv 0) pe_int (fun _ _ => rfl)) (nomark _)))))))) (fun _ _ _ _ _ => (by exact (pv 5)))) (pe_lst pa_nil) (nomark _)))) pss_nil)
      (pss_cons (ps_if (pt_cmpR (u_eq (K := K) (cl := clT T) (by exact hu64 hr)) (pe_ix (u_ix (K := K) (cl := clT T)) (pv 0) pe_int (fun _ _ => rfl)) pe_str (nomark _))
      (pss_one (ps_ret (pe_cmpR (u_ne (K := K) (cl := clT T) (by exact hu64 hr)) (pe_lc (own := [("k", 4)]) rfl sc_law_is_true_of.nd (pi_range1 rfl T.z_range (pa_cons (pe_callB (u_len (K := K) (cl := clT T)) rfl T.z_len (by decide +kernel) (pa_cons (pv 1) pa_nil)) pa_nil)) (blkOk_by (own := [("k", 4)]) (N := N_law_is_true_of) (sc := defScope s_law_is_true_of) (by decide +kernel)) (fun _ _ _ _ _ => (pg_name (i := 4) sc_law_is_true_of.nd rfl (by first | exact Or.inl rfl | exact Or.inr rfl))) (fun _ _ _ _ _ => (by exact (pts_one (pt_cmpR (u_eq (K := K) (cl := clT T) (by exact hu64 hr)) (pe_slice (u_slice (K := K) (cl := clT T)) (pv 1) (po_some (pv 4)) (po_some (pe_op (u_add (K := K) (cl := clT T)) (pv 4) (pe_callB (u_len (K := K) (cl := clT T)) rfl T.z_len (by decide +kernel) (pa_cons (pe_ix (u_ix (K := K) (cl := clT T)) (pv 0) pe_int (fun _ _ => rfl)) pa_nil))))) (pe_ix (u_ix (K := K) (cl := clT T)) (pv 0) pe_int (fun _ _ => rfl)) (nomark _))))) (fun _ _ _ _ _ => (by exact (pv 4)))) (pe_lst pa_nil) (nomark _)))) pss_nil)
      (pss_cons (ps_asg (pe_tup (pa_cons (pe_lc (own := [("k", 4)]) rfl sc_law_is_true_of.nd (pi_range1 rfl T.z_range (pa_cons (pe_callB (u_len (K := K) (cl := clT T)) rfl T.z_len (by decide +kernel) (pa_cons (pv 1) pa_nil)) pa_nil)) (blkOk_by (own := [("k", 4)]) (N := N_law_is_true_of) (sc := defScope s_law_is_true_of) (by decide +kernel)) (fun _ _ _ _ _ => (pg_name (i := 4) sc_law_is_true_of.nd rfl (by first | exact Or.inl rfl | exact Or.inr rfl))) (fun _ _ _ _ _ => (by exact (pts_one (pt_cmpR (u_eq (K := K) (cl := clT T) (by exact hu64 hr)) (pe_ix (u_ix (K := K) (cl := clT T)) (pv 1) (pv 4) (fun _ _ => rfl)) (pe_ix (u_ix (K := K) (cl := clT T)) (pv 0) pe_int (fun _ _ => rfl)) (nomark _))))) (fun _ _ _ _ _ => (by exact (pv 4)))) (pa_cons (pe_lc (own := [("k", 4)]) rfl sc_law_is_true_of.nd (pi_range1 rfl T.z_range (pa_cons (pe_callB (u_len (K := K) (cl := clT T)) rfl T.z_len (by decide +kernel) (pa_cons (pv 1) pa_nil)) pa_nil)) (blkOk_by (own := [("k", 4)]) (N := N_law_is_true_of) (sc := defScope s_law_is_true_of) (by decide +kernel)) (fun _ _ _ _ _ => (pg_name (i := 4) sc_law_is_true_of.nd rfl (by first | exact Or.inl rfl | exact Or.inr rfl))) (fun _ _ _ _ _ => (by exact (pts_one (pt_cmpR (u_eq (K := K) (cl := clT T) (by exact hu64 hr)) (pe_ix (u_ix (K := K) (cl := clT T)) (pv 1) (pv 4) (fun _ _ => rfl)) (pe_ix (u_ix (K := K) (cl := clT T)) (pv 0) pe_int (fun _ _ => rfl)) (nomark _))))) (fun _ _ _ _ _ => (by exact (pv 4)))) pa_nil))) (pg_tupK (K := K) (n := 2) rfl (pgs_cons (pg_name (i := 2) sc_law_is_true_of.nd rfl (by first | exact Or.inl rfl | exact Or.inr rfl)) (pgs_cons (pg_name (i := 3) sc_law_is_true_of.nd rfl (by first | exact Or.inl rfl | exact Or.inr rfl)) pgs_nil))))
      (pss_one (ps_ret (pe_callB (u_any (K := K) (cl := clT T) rfl) rfl T.z_any (by decide +kernel) (pa_cons (pe_lc (own := [("k", 4)]) rfl sc_law_is_true_of.nd (pi_u (K := K) (pv 2)) (blkOk_by (own := [("k", 4)]) (N := N_law_is_true_of) (sc := defScope s_law_is_true_of) (by decide +kernel)) (fun _ _ _ _ _ => (pg_name (i := 4) sc_law_is_true_of.nd rfl (by first | exact Or.inl rfl | exact Or.inr rfl))) (fun _ _ _ _ _ => (by exact pts_nil)) (fun _ _ _ _ _ => (by exact (pe_cmpR (u_ne (K := K) (cl := clT T) (by exact hu64 hr)) (pe_lc (own := [("j", 6)]) rfl sc_law_is_true_of.nd (pi_u (K := K) (pv 3)) (by refine blkOk_by (own := [("j", 6)]) (N := N_law_is_true_of) ?_; kernel_rfl) (fun _ _ _ _ _ => (pg_name (i := 6) sc_law_is_true_of.nd rfl (by first | exact Or.inl rfl | exact Or.inr rfl))) (fun _ _ _ _ _ => (by exact (pts_one (PW.pt (pw_and (pt_cmpR (u_ne (K := K) (cl := clT T) (by exact hu64 hr)) (pv 6) (pv 4) (nomark _)) (pw_and1 (pt_cmpR (u_le (K := K) (cl := clT T)) (pe_callB (u_abs (K := K) (cl := clT T)) rfl T.z_abs (by decide +kernel) (pa_cons (pe_op (u_sub (K := K) (cl := clT T)) (pv 6) (pv 4)) pa_nil)) (pe_ix (u_ix (K := K) (cl := clT T)) (pv 0) pe_int (fun _ _ => rfl)) (nomark _)))))))) (fun _ _ _ _ _ => (by exact (pv 6)))) (pe_lst pa_nil) (nomark _))))) pa_nil)))))))), (ss_cons (ss_if (st_test (se_op rs2 (SemV.w (se_op rs2 (sw_nm 0) (SemV.w se_int))) (SemV.w se_str)))
      (ss_ret (SemV.e (se_op rs2 (SemV.w (se_op rs2 (sw_nm 0) (SemV.w se_int))) (sw_nm 1)))) ss_nil)
      (ss_cons (ss_if (st_test (se_op rs2 (SemV.w (se_op rs2 (sw_nm 0) (SemV.w se_int))) (SemV.w se_str)))
      (ss_ret (SemV.e (se_op rs2 (SemV.w (SemE.v (se_lc (vs := [5]) (si_u (se_var 1)) (sg_name 5) (st_and (st_test (se_op rs2 (sw_nm 5) (SemV.w se_non))) (st_test (se_op rs2 (SemV.w (SemE.v (se_slice (sw_nm 5) so_none (so_some (se_cb rsn (sw_cons (SemV.w (se_op rs2 (sw_nm 0) (SemV.w se_int))) sw_nil)))))) (SemV.w (se_op rs2 (sw_nm 0) (SemV.w se_int)))))) (se_var 5) (by decide)))) (SemV.w (SemE.v (se_lst sl_nil)))))) ss_nil)
      (ss_cons (ss_if (st_test (se_op rs2 (SemV.w (se_op rs2 (sw_nm 0) (SemV.w se_int))) (SemV.w se_str)))
      (ss_ret (SemV.e (se_op rs2 (SemV.w (SemE.v (se_lc (vs := [4]) (si_range1 (sl_cons (se_cb rsn (sw_cons (sw_nm 1) sw_nil)) sl_nil)) (sg_name 4) (st_test (se_op rs2 (SemV.w (SemE.v (se_slice (sw_nm 1) (so_some (se_var 4)) (so_some (SemE.v (se_opE rs2e (sw_nm 4) (SemV.w (se_cb rsn (sw_cons (SemV.w (se_op rs2 (sw_nm 0) (SemV.w se_int))) sw_nil))))))))) (SemV.w (se_op rs2 (sw_nm 0) (SemV.w se_int))))) (se_var 4) (by decide)))) (SemV.w (SemE.v (se_lst sl_nil)))))) ss_nil)
      (ss_cons (ss_asg (SemV.e (se_tup (sl_cons (SemE.v (se_lc (vs := [4]) (si_range1 (sl_cons (se_cb rsn (sw_cons (sw_nm 1) sw_nil)) sl_nil)) (sg_name 4) (st_test (se_op rs2 (SemV.w (se_op rs2 (sw_nm 1) (sw_nm 4))) (SemV.w (se_op rs2 (sw_nm 0) (SemV.w se_int))))) (se_var 4) (by decide))) (sl_cons (SemE.v (se_lc (vs := [4]) (si_range1 (sl_cons (se_cb rsn (sw_cons (sw_nm 1) sw_nil)) sl_nil)) (sg_name 4) (st_test (se_op rs2 (SemV.w (se_op rs2 (sw_nm 1) (sw_nm 4))) (SemV.w (se_op rs2 (sw_nm 0) (SemV.w se_int))))) (se_var 4) (by decide))) sl_nil)))) (sg_tup (sgs_cons (sg_name 2) (sgs_cons (sg_name 3) sgs_nil))))
      (ss_ret (SemV.e (se_cb rsn (sw_cons (SemV.w (SemE.v (se_lc (vs := [4]) (si_u (se_var 2)) (sg_name 4) st_yes (se_op rs2 (SemV.w (SemE.v (se_lc (vs := [6]) (si_u (se_var 3)) (sg_name 6) (st_and (st_test (se_op rs2 (sw_nm 6) (sw_nm 4))) (st_test (se_op rs2 (SemV.w (se_cb rsn (sw_cons (SemV.w (se_op rs2 (sw_nm 6) (sw_nm 4))) sw_nil))) (SemV.w (se_op rs2 (sw_nm 0) (SemV.w se_int)))))) (se_var 6) (by decide)))) (SemV.w (SemE.v (se_lst sl_nil)))) (by decide)))) sw_nil))))))))⟩)
theorem ok_law_looks (T : Txt P K mg) : FnG P w K mg base CX0 7 T.f_law_looks T.d_law_looks ["one", "two"] (FSp K (clT T) 2 F_law_looks) :=
  okP (lv := 6) (k := 1) (fb := b_law_looks) T.F_law_looks sc_law_looks rfl (fun cdv A outer s H E gd hr => ⟨_, (pss_one (ps_ret (pe_callG (E := fun _ _ _ => True) (by exact gd) (ok_law_once T) (hr.mono (by omega)) rfl T.g__law_once T.F_law_once.kp T.b_law_once .nil pass0 (pa_cons (pe_lc (own := [("atom", 2)]) rfl sc_law_looks.nd (pi_u (K := K) (pe_op (u_add (K := K) (cl := clT T)) (pe_callG (E := fun _ _ _ => True) (by exact gd) (ok_law_atoms (mg := mg) (w := w) (base := base) T 6) (hr.mono (by omega)) rfl T.g__law_atoms T.F_law_atoms.kp T.b_law_atoms .nil pass0 (pa_cons (pv 0) pa_nil)) (pe_callG (E := fun _ _ _ => True) (by exact gd) (ok_law_atoms (mg := mg) (w := w) (base := base) T 6) (hr.mono (by omega)) rfl T.g__law_atoms T.F_law_atoms.kp T.b_law_atoms .nil pass0 (pa_cons (pv 1) pa_nil)))) (blkOk_by (own := [("atom", 2)]) (N := N_law_looks) (sc := defScope s_law_looks) (by decide +kernel)) (fun _ _ _ _ _ => (pg_name (i := 2) sc_law_looks.nd rfl (by first | exact Or.inl rfl | exact Or.inr rfl))) (fun _ _ _ _ _ => (by exact pts_nil)) (fun _ _ _ _ _ => (by exact (pe_callG (E := fun _ _ _ => True) (by exact gd) (ok_law_look T) (hr.mono (by omega)) rfl T.g__law_look T.F_law_look.kp T.b_law_look .nil pass0 (pa_cons (pv 2) pa_nil))))) pa_nil)))), (ss_ret (se_call (fun _ _ => .nil) (sa_s (SemE.v (se_lc (vs := [2]) (si_u (SemE.v (se_opE rs2e (SemV.w (SemE.v (se_call (fun _ _ => .nil) (sa_s (se_var 0) sa_nil)))) (SemV.w (SemE.v (se_call (fun _ _ => .nil) (sa_s (se_var 1) sa_nil))))))) (sg_name 2) st_yes (SemE.v (se_call (fun _ _ => .nil) (sa_s (se_var 2) sa_nil))) (by decide))) sa_nil)))⟩)
theorem ok_law_ago (T : Txt P K mg) : FnG P w K mg base CX0 1 T.f_law_ago T.d_law_ago ["row", "term", "most"] (FSp K (clT T) 3 F_law_ago) :=
  okP (lv := 0) (k := 2) (fb := b_law_ago) T.F_law_ago sc_law_ago rfl (fun cdv A outer s H E gd hr => ⟨_, (pss_cons (ps_setLc (i := 3) (own := [("back", 4)]) rfl sc_law_ago.nd rfl rfl (sw_true rfl rfl rfl (by decide +kernel)) (pi_range2 rfl T.z_range (pa_cons pe_int (pa_cons (pe_op (u_add (K := K) (cl := clT T)) (pe_callB (u_min (K := K) (cl := clT T) rfl) rfl T.z_min (by decide +kernel) (pa_cons (pv 2) (pa_cons (pe_callB (u_len (K := K) (cl := clT T)) rfl T.z_len (by decide +kernel) (pa_cons (pv 0) pa_nil)) pa_nil))) pe_int) pa_nil))) (blkOk_by (own := [("back", 4)]) (N := N_law_ago) (sc := defScope s_law_ago) (by decide +kernel)) (fun _ _ _ _ _ => (pg_name (i := 4) sc_law_ago.nd rfl (by first | exact Or.inl rfl | exact Or.inr rfl))) (fun _ _ _ _ _ => (by exact (pts_one (pt_cmpR (u_eq (K := K) (cl := clT T) (by exact hu64 hr)) (pe_ix (u_ix (K := K) (cl := clT T)) (pv 0) (pe_op (u_sub (K := K) (cl := clT T)) (pe_callB (u_len (K := K) (cl := clT T)) rfl T.z_len (by decide +kernel) (pa_cons (pv 0) pa_nil)) (pv 4)) (fun _ _ => rfl)) (pv 1) (nomark _))))) (fun _ _ _ _ _ => (by exact (pv 4))))
      (pss_one (ps_ret (pe_ifExp (pt_cmpR (u_ne (K := K) (cl := clT T) (by exact hu64 hr)) (pv 3) (pe_lst pa_nil) (nomark _)) (pe_ix (u_ix (K := K) (cl := clT T)) (pv 3) pe_int (fun _ _ => rfl)) pe_int)))), (ss_cons (ss_asg (se_lc (vs := [4]) (si_range2 (sl_cons se_int (sl_cons (SemE.v (se_opE rs2e (SemV.w (se_cb rsn (sw_cons (sw_nm 2) (sw_cons (SemV.w (se_cb rsn (sw_cons (sw_nm 0) sw_nil))) sw_nil)))) (SemV.w se_int))) sl_nil))) (sg_name 4) (st_test (se_op rs2 (SemV.w (se_op rs2 (sw_nm 0) (SemV.w (se_op rs2 (SemV.w (se_cb rsn (sw_cons (sw_nm 0) sw_nil))) (sw_nm 4))))) (sw_nm 1))) (se_var 4) (by decide)) (sg_name 3))
      (ss_ret (SemV.e (se_ifV (st_test (se_op rs2 (sw_nm 3) (SemV.w (SemE.v (se_lst sl_nil))))) (se_op rs2 (sw_nm 3) (SemV.w se_int)) se_int))))⟩)
theorem ok_law_state_of (T : Txt P K mg) : FnG P w K mg base CX0 2 T.f_law_state_of T.d_law_state_of ["look", "row"] (FSp K (clT T) 2 F_law_state_of) :=
  okP (lv := 1) (k := 2) (fb := b_law_state_of) T.F_law_state_of sc_law_state_of rfl (fun cdv A outer s H E gd hr => ⟨_, (pss_cons (ps_if (pt_cmpR (u_in (K := K) (cl := clT T) (by exact hu65 hr)) (pe_ix (u_ix (K := K) (cl := clT T)) (pv 0) pe_int (fun _ _ => rfl)) (pe_tup (pa_cons pe_str (pa_cons pe_str pa_nil))) (by rfl))
      (pss_one (ps_ret (pe_callTy (u_int (K := K) (cl := clT T)) rfl T.z_int (by decide +kernel) (pa_cons (pe_callG (E := fun _ _ _ => True) (by exact gd) (ok_law_is_true_of T) (hr.mono (by omega)) rfl T.g__law_is_true_of T.F_law_is_true_of.kp T.b_law_is_true_of .nil pass0 (pa_cons (pv 0) (pa_cons (pv 1) pa_nil))) pa_nil)))) pss_nil)
      (pss_cons (ps_if (pt_cmpR (u_eq (K := K) (cl := clT T) (by exact hu64 hr)) (pe_ix (u_ix (K := K) (cl := clT T)) (pv 0) pe_int (fun _ _ => rfl)) pe_str (nomark _))
      (pss_cons (ps_if (pt_truthK (K := K) (pe_callG (E := fun _ _ _ => True) (by exact gd) (ok_law_is_true_of T) (hr.mono (by omega)) rfl T.g__law_is_true_of T.F_law_is_true_of.kp T.b_law_is_true_of .nil pass0 (pa_cons (pv 0) (pa_cons (pv 1) pa_nil))) (by intro _; rfl))
      (pss_one (ps_ret (pe_callB (u_len (K := K) (cl := clT T)) rfl T.z_len (by decide +kernel) (pa_cons (pe_ix (u_ix (K := K) (cl := clT T)) (pv 0) pe_int (fun _ _ => rfl)) pa_nil)))) pss_nil)
      (pss_cons (ps_setLc (i := 2) (own := [("k", 3)]) rfl sc_law_state_of.nd rfl rfl (sw_true rfl rfl rfl (by decide +kernel)) (pi_range1 rfl T.z_range (pa_cons (pe_op (u_add (K := K) (cl := clT T)) (pe_callB (u_min (K := K) (cl := clT T) rfl) rfl T.z_min (by decide +kernel) (pa_cons (pe_op (u_sub (K := K) (cl := clT T)) (pe_callB (u_len (K := K) (cl := clT T)) rfl T.z_len (by decide +kernel) (pa_cons (pe_ix (u_ix (K := K) (cl := clT T)) (pv 0) pe_int (fun _ _ => rfl)) pa_nil)) pe_int) (pa_cons (pe_callB (u_len (K := K) (cl := clT T)) rfl T.z_len (by decide +kernel) (pa_cons (pv 1) pa_nil)) pa_nil))) pe_int) pa_nil)) (blkOk_by (own := [("k", 3)]) (N := N_law_state_of) (sc := defScope s_law_state_of) (by decide +kernel)) (fun _ _ _ _ _ => (pg_name (i := 3) sc_law_state_of.nd rfl (by first | exact Or.inl rfl | exact Or.inr rfl))) (fun _ _ _ _ _ => (by exact (pts_one (pt_cmpR (u_eq (K := K) (cl := clT T) (by exact hu64 hr)) (pe_slice (u_slice (K := K) (cl := clT T)) (pv 1) (po_some (pe_op (u_sub (K := K) (cl := clT T)) (pe_callB (u_len (K := K) (cl := clT T)) rfl T.z_len (by decide +kernel) (pa_cons (pv 1) pa_nil)) (pv 3))) po_none) (pe_slice (u_slice (K := K) (cl := clT T)) (pe_ix (u_ix (K := K) (cl := clT T)) (pv 0) pe_int (fun _ _ => rfl)) po_none (po_some (pv 3))) (nomark _))))) (fun _ _ _ _ _ => (by exact (pv 3))))
      (pss_one (ps_ret (pe_callB (u_max (K := K) (cl := clT T) rfl) rfl T.z_max (by decide +kernel) (pa_cons (pv 2) pa_nil)))))) pss_nil)
      (pss_cons (ps_if (pt_truthK (K := K) (pe_callG (E := fun _ _ _ => True) (by exact gd) (ok_law_is_true_of T) (hr.mono (by omega)) rfl T.g__law_is_true_of T.F_law_is_true_of.kp T.b_law_is_true_of .nil pass0 (pa_cons (pv 0) (pa_cons (pv 1) pa_nil))) (by intro _; rfl))
      (pss_one (ps_ret (pe_tup (pa_cons pe_int (pa_cons pe_int pa_nil))))) pss_nil)
      (pss_one (ps_ret (pe_tup (pa_cons (pe_callG (E := fun _ _ _ => True) (by exact gd) (ok_law_ago T) (hr.mono (by omega)) rfl T.g__law_ago T.F_law_ago.kp T.b_law_ago .nil pass0 (pa_cons (pv 1) (pa_cons (pe_ix (u_ix (K := K) (cl := clT T)) (pv 0) pe_int (fun _ _ => rfl)) (pa_cons (pe_ix (u_ix (K := K) (cl := clT T)) (pv 0) pe_int (fun _ _ => rfl)) pa_nil)))) (pa_cons (pe_callG (E := fun _ _ _ => True) (by exact gd) (ok_law_ago T) (hr.mono (by omega)) rfl T.g__law_ago T.F_law_ago.kp T.b_law_ago .nil pass0 (pa_cons (pv 1) (pa_cons (pe_ix (u_ix (K := K) (cl := clT T)) (pv 0) pe_int (fun _ _ => rfl)) (pa_cons (pe_ix (u_ix (K := K) (cl := clT T)) (pv 0) pe_int (fun _ _ => rfl)) pa_nil)))) pa_nil)))))))), (ss_cons (ss_if (st_test (se_op rs2 (SemV.w (se_op rs2 (sw_nm 0) (SemV.w se_int))) (SemV.w (se_tup (sl_cons se_str (sl_cons se_str sl_nil))))))
      (ss_ret (SemV.e (se_cb rsn (sw_cons (SemV.w (SemE.v (se_call (fun _ _ => .nil) (sa_s (se_var 0) (sa_s (se_var 1) sa_nil))))) sw_nil)))) ss_nil)
      (ss_cons (ss_if (st_test (se_op rs2 (SemV.w (se_op rs2 (sw_nm 0) (SemV.w se_int))) (SemV.w se_str)))
      (ss_cons (ss_if (st_truth (SemV.w (SemE.v (se_call (fun _ _ => .nil) (sa_s (se_var 0) (sa_s (se_var 1) sa_nil))))))
      (ss_ret (SemV.e (se_cb rsn (sw_cons (SemV.w (se_op rs2 (sw_nm 0) (SemV.w se_int))) sw_nil)))) ss_nil)
      (ss_cons (ss_asg (se_lc (vs := [3]) (si_range1 (sl_cons (SemE.v (se_opE rs2e (SemV.w (se_cb rsn (sw_cons (SemV.w (se_op rs2 (SemV.w (se_cb rsn (sw_cons (SemV.w (se_op rs2 (sw_nm 0) (SemV.w se_int))) sw_nil))) (SemV.w se_int))) (sw_cons (SemV.w (se_cb rsn (sw_cons (sw_nm 1) sw_nil))) sw_nil)))) (SemV.w se_int))) sl_nil)) (sg_name 3) (st_test (se_op rs2 (SemV.w (SemE.v (se_slice (sw_nm 1) (so_some (se_op rs2 (SemV.w (se_cb rsn (sw_cons (sw_nm 1) sw_nil))) (sw_nm 3))) so_none))) (SemV.w (SemE.v (se_slice (SemV.w (se_op rs2 (sw_nm 0) (SemV.w se_int))) so_none (so_some (se_var 3))))))) (se_var 3) (by decide)) (sg_name 2))
      (ss_ret (SemV.e (se_cb rsn (sw_cons (sw_nm 2) sw_nil)))))) ss_nil)
      (ss_cons (ss_if (st_truth (SemV.w (SemE.v (se_call (fun _ _ => .nil) (sa_s (se_var 0) (sa_s (se_var 1) sa_nil))))))
      (ss_ret (SemV.e (se_tup (sl_cons se_int (sl_cons se_int sl_nil))))) ss_nil)
      (ss_ret (SemV.e (se_tup (sl_cons (SemE.v (se_call (fun _ _ => .nil) (sa_s (se_var 1) (sa_s (se_op rs2 (sw_nm 0) (SemV.w se_int)) (sa_s (se_op rs2 (sw_nm 0) (SemV.w se_int)) sa_nil))))) (sl_cons (SemE.v (se_call (fun _ _ => .nil) (sa_s (se_var 1) (sa_s (se_op rs2 (sw_nm 0) (SemV.w se_int)) (sa_s (se_op rs2 (sw_nm 0) (SemV.w se_int)) sa_nil))))) sl_nil))))))))⟩)
theorem ok_law_states_of (T : Txt P K mg) : FnG P w K mg base CX0 3 T.f_law_states_of T.d_law_states_of ["looks", "row"] (FSp K (clT T) 2 F_law_states_of) :=
  okP (lv := 2) (k := 1) (fb := b_law_states_of) T.F_law_states_of sc_law_states_of rfl (fun cdv A outer s H E gd hr => ⟨_, (pss_one (ps_ret (pe_callTy (u_tuple (K := K) (cl := clT T)) rfl T.z_tuple (by decide +kernel) (pa_cons (pe_lc (own := [("look", 2)]) rfl sc_law_states_of.nd (pi_u (K := K) (pv 0)) (blkOk_by (own := [("look", 2)]) (N := N_law_states_of) (sc := defScope s_law_states_of) (by decide +kernel)) (fun _ _ _ _ _ => (pg_name (i := 2) sc_law_states_of.nd rfl (by first | exact Or.inl rfl | exact Or.inr rfl))) (fun _ _ _ _ _ => (by exact pts_nil)) (fun _ _ _ _ _ => (by exact (pe_callG (E := fun _ _ _ => True) (by exact gd) (ok_law_state_of T) (hr.mono (by omega)) rfl T.g__law_state_of T.F_law_state_of.kp T.b_law_state_of .nil pass0 (pa_cons (pv 2) (pa_cons (pv 1) pa_nil)))))) pa_nil)))), (ss_ret (SemV.e (se_cb rsn (sw_cons (SemV.w (SemE.v (se_lc (vs := [2]) (si_u (se_var 0)) (sg_name 2) st_yes (SemE.v (se_call (fun _ _ => .nil) (sa_s (se_var 2) (sa_s (se_var 1) sa_nil)))) (by decide)))) sw_nil))))⟩)
theorem ok_law_long (T : Txt P K mg) : FnG P w K mg base CX0 3 T.f_law_long T.d_law_long ["jar", "pool"] (FSp K (clT T) 2 F_law_long) :=
  okP (lv := 2) (k := 6) (fb := b_law_long) T.F_law_long sc_law_long rfl (fun cdv A outer s H E gd hr => ⟨_, (pss_cons (ps_asg (pe_tup (pa_cons (pe_callG (E := fun _ _ _ => True) (by exact gd) (ok_law_any T) (hr.mono (by omega)) rfl T.g__law_any T.F_law_any.kp T.b_law_any .nil pass0 (pa_cons (pv 0) (pa_cons (pe_lst (pa_cons pe_non (pa_cons pe_str (pa_cons (pe_op (u_add (K := K) (cl := clT T)) (pe_ix (u_ix (K := K) (cl := clT T)) (pv 1) pe_int (fun _ _ => rfl)) pe_str) pa_nil)))) pa_nil))) (pa_cons (pe_callG (E := fun _ _ _ => True) (by exact gd) (ok_law_any T) (hr.mono (by omega)) rfl T.g__law_any T.F_law_any.kp T.b_law_any .nil pass0 (pa_cons (pv 0) (pa_cons (pe_lst (pa_cons pe_int (pa_cons pe_int (pa_cons pe_int pa_nil)))) pa_nil))) (pa_cons (pe_lst pa_nil) pa_nil)))) (pg_tupK (K := K) (n := 3) rfl (pgs_cons (pg_name (i := 2) sc_law_long.nd rfl (by first | exact Or.inl rfl | exact Or.inr rfl)) (pgs_cons (pg_name (i := 3) sc_law_long.nd rfl (by first | exact Or.inl rfl | exact Or.inr rfl)) (pgs_cons (pg_name (i := 4) sc_law_long.nd rfl (by first | exact Or.inl rfl | exact Or.inr rfl)) pgs_nil)))))
      (pss_cons (ps_set (i := 5) sc_law_long.nd rfl (Or.inl rfl) (pe_op (u_add (K := K) (cl := clT T)) (pe_lc (own := [("turn", 7)]) rfl sc_law_long.nd (pi_range1 rfl T.z_range (pa_cons pe_int pa_nil)) (blkOk_by (own := [("turn", 7)]) (N := N_law_long) (sc := defScope s_law_long) (by decide +kernel)) (fun _ _ _ _ _ => (pg_name (i := 7) sc_law_long.nd rfl (by first | exact Or.inl rfl | exact Or.inr rfl))) (fun _ _ _ _ _ => (by exact pts_nil)) (fun _ _ _ _ _ => (by exact (pe_callG (E := fun _ _ _ => True) (by exact gd) (ok_law_deal T) (hr.mono (by omega)) rfl T.g__law_deal T.F_law_deal.kp T.b_law_deal .nil pass0 (pa_cons (pv 0) (pa_cons (pv 3) pa_nil)))))) (pe_lc (own := [("turn", 7)]) rfl sc_law_long.nd (pi_range1 rfl T.z_range (pa_cons pe_int pa_nil)) (blkOk_by (own := [("turn", 7)]) (N := N_law_long) (sc := defScope s_law_long) (by decide +kernel)) (fun _ _ _ _ _ => (pg_name (i := 7) sc_law_long.nd rfl (by first | exact Or.inl rfl | exact Or.inr rfl))) (fun _ _ _ _ _ => (by exact pts_nil)) (fun _ _ _ _ _ => (by exact (pe_op (u_sub (K := K) (cl := clT T)) (pe_op (u_sub (K := K) (cl := clT T)) (pv 3) pe_int) (pe_callG (E := fun _ _ _ => True) (by exact gd) (ok_law_deal T) (hr.mono (by omega)) rfl T.g__law_deal T.F_law_deal.kp T.b_law_deal .nil pass0 (pa_cons (pv 0) (pa_cons pe_int pa_nil)))))))))
      (pss_cons (ps_for PassesOwn.never rfl (pi_range1 rfl T.z_range (pa_cons (pv 3) pa_nil)) (pg_name (i := 6) sc_law_long.nd rfl (by first | exact Or.inl rfl | exact Or.inr rfl))
      (pss_one (ps_expr (pe_bmK (K := K) PySem.F.plainAttrs_list PySem.F.slot_list_append PySem.F.type_list_append mt_append (pv 4) (pa_cons (pe_ifExp (pt_cmpR (u_in (K := K) (cl := clT T) (by exact hu65 hr)) (pv 6) (pv 5) (by rfl)) (pe_callG (E := fun _ _ _ => True) (by exact gd) (ok_law_any T) (hr.mono (by omega)) rfl T.g__law_any T.F_law_any.kp T.b_law_any .nil pass0 (pa_cons (pv 0) (pa_cons (pv 1) pa_nil))) (pv 2)) pa_nil)))))
      (pss_one (ps_ret (pe_callTy (u_tuple (K := K) (cl := clT T)) rfl T.z_tuple (by decide +kernel) (pa_cons (pv 4) pa_nil))))))), (ss_cons (ss_parT (n := 3) (is := [2, 3, 4]) (sa_e (se_call (fun _ _ => .nil) (sa_b 0 (sa_s (SemE.v (se_lst (sl_cons se_non (sl_cons se_str (sl_cons (SemE.v (se_opE rs2e (SemV.w (se_op rs2 (sw_nm 1) (SemV.w se_int))) (SemV.w se_str))) sl_nil))))) sa_nil))) (sa_e (se_call (fun _ _ => .nil) (sa_b 0 (sa_s (SemE.v (se_lst (sl_cons se_int (sl_cons se_int (sl_cons se_int sl_nil))))) sa_nil))) (sa_e (se_lst sl_nil) sa_nil))) rfl (by decide))
      (ss_cons (ss_asg (se_opE rs2e (SemV.w (SemE.v (se_lc (vs := [7]) (si_range1 (sl_cons se_int sl_nil)) (sg_name 7) st_yes (SemE.v (se_call (fun _ _ => .nil) (sa_b 0 (sa_s (se_var 3) sa_nil)))) (by decide)))) (SemV.w (SemE.v (se_lc (vs := [7]) (si_range1 (sl_cons se_int sl_nil)) (sg_name 7) st_yes (se_op rs2 (SemV.w (se_op rs2 (sw_nm 3) (SemV.w se_int))) (SemV.w (SemE.v (se_call (fun _ _ => .nil) (sa_b 0 (sa_s se_int sa_nil)))))) (by decide))))) (sg_name 5))
      (ss_cons (ss_for (si_range1 (sl_cons (se_var 3) sl_nil)) (sg_name 6)
      (ss_drop (se_mut mu_append (sl_cons (SemE.v (se_if (st_test (se_op rs2 (sw_nm 6) (sw_nm 5))) (se_call (fun _ _ => .nil) (sa_b 0 (sa_s (se_var 1) sa_nil))) (SemV.e (se_var 2)))) sl_nil))))
      (ss_ret (SemV.e (se_cb rsn (sw_cons (sw_nm 4) sw_nil)))))))⟩)
theorem ok_law_right (T : Txt P K mg) : FnG P w K mg base CX0 13 T.f_law_right T.d_law_right ["jar"] (FSp K (clT T) 1 F_law_right) :=
  okP (lv := 12) (k := 8) (fb := b_law_right) T.F_law_right sc_law_right rfl (fun cdv A outer s H E gd hr => ⟨_, (pss_cons (ps_set (i := 1) sc_law_right.nd rfl (Or.inl rfl) (pe_callG (E := fun _ _ _ => True) (by exact gd) (ok_law_pool T) (hr.mono (by omega)) rfl T.g__law_pool T.F_law_pool.kp T.b_law_pool .nil pass0 (pa_cons (pv 0) (pa_cons pe_int pa_nil))))
      (pss_cons (ps_for PassesOwn.never rfl (pi_range1 rfl T.z_range (pa_cons pe_int pa_nil)) (pg_name (i := 2) sc_law_right.nd rfl (by first | exact Or.inl rfl | exact Or.inr rfl))
      (pss_cons (ps_par (i := 3) (j := 4) rfl sc_law_right.nd rfl rfl (by decide) rfl rfl (pa_cons (pe_callG (E := fun _ _ _ => True) (by exact gd) (ok_law_asked T) (hr.mono (by omega)) rfl T.g__law_asked T.F_law_asked.kp T.b_law_asked .nil pass0 (pa_cons (pv 0) (pa_cons (pv 1) pa_nil))) (pa_cons (pe_callG (E := fun _ _ _ => True) (by exact gd) (ok_law_asked T) (hr.mono (by omega)) rfl T.g__law_asked T.F_law_asked.kp T.b_law_asked .nil pass0 (pa_cons (pv 0) (pa_cons (pv 1) pa_nil))) pa_nil)) (by rfl))
      (pss_cons (ps_set (i := 5) sc_law_right.nd rfl (Or.inl rfl) (pe_callG (E := fun _ _ _ => True) (by exact gd) (ok_law_atom T) (hr.mono (by omega)) rfl T.g__law_atom T.F_law_atom.kp T.b_law_atom .nil pass0 (pa_cons (pv 0) (pa_cons (pv 1) pa_nil))))
      (pss_cons (ps_if (pt_cmpR (u_eq (K := K) (cl := clT T) (by exact hu64 hr)) (pe_callG (E := fun _ _ _ => True) (by exact gd) (ok_law_deal T) (hr.mono (by omega)) rfl T.g__law_deal T.F_law_deal.kp T.b_law_deal .nil pass0 (pa_cons (pv 0) (pa_cons pe_int pa_nil))) pe_int (nomark _))
      (pss_cons (ps_set (i := 3) sc_law_right.nd rfl (Or.inl rfl) (pe_tup (pa_cons pe_str (pa_cons (pe_tup (pa_cons (pv 5) (pa_cons (pe_tup (pa_cons pe_str (pa_cons (pe_op (u_add (K := K) (cl := clT T)) (pe_tup (pa_cons (pe_ix (u_ix (K := K) (cl := clT T)) (pv 5) pe_int (fun _ _ => rfl)) (pa_cons pe_str pa_nil))) (pe_slice (u_slice (K := K) (cl := clT T)) (pv 5) (po_some pe_int) po_none)) pa_nil))) pa_nil))) pa_nil))))
      (pss_one (ps_set (i := 4) sc_law_right.nd rfl (Or.inl rfl) (pe_tup (pa_cons pe_str (pa_cons (pe_tup (pa_cons (pe_op (u_add (K := K) (cl := clT T)) (pe_tup (pa_cons (pe_ix (u_ix (K := K) (cl := clT T)) (pv 5) pe_int (fun _ _ => rfl)) (pa_cons pe_str pa_nil))) (pe_slice (u_slice (K := K) (cl := clT T)) (pv 5) (po_some pe_int) po_none)) (pa_cons (pv 5) pa_nil))) pa_nil)))))) pss_nil)
      (pss_cons (ps_set (i := 6) sc_law_right.nd rfl (Or.inl rfl) (pe_callTy (u_tuple (K := K) (cl := clT T)) rfl T.z_tuple (by decide +kernel) (pa_cons (pe_callG (E := fun _ _ _ => True) (by exact gd) (ok_law_looks T) (hr.mono (by omega)) rfl T.g__law_looks T.F_law_looks.kp T.b_law_looks .nil pass0 (pa_cons (pv 3) (pa_cons (pv 4) pa_nil))) pa_nil)))
      (pss_cons (ps_if (pt_cmpR (u_ne (K := K) (cl := clT T) (by exact hu64 hr)) (pe_callB (u_repr (K := K) (cl := clT T) (by exact gd) (by exact hu64 hr)) rfl T.z_repr (by decide +kernel) (pa_cons (pe_lst (pa_cons (pe_callG (E := fun _ _ _ => True) (by exact gd) (ok_looks_of T) (hr.mono (by omega)) rfl T.g_looks_of T.F_looks_of.kp T.b_looks_of .nil pass0 (pa_cons (pv 3) (pa_cons (pv 4) pa_nil))) (pa_cons (pe_callKG0 (E := fun _ _ _ => True) (by exact gd) (ok_looks_of T) (hr.mono (by omega)) rfl T.g_looks_of T.F_looks_of.kp T.kb_looks_of_other_question pass0 (pk_cons (pv 4) (pk_cons (pv 3) pk_nil))) pa_nil))) pa_nil)) (pe_callB (u_repr (K := K) (cl := clT T) (by exact gd) (by exact hu64 hr)) rfl T.z_repr (by decide +kernel) (pa_cons (pe_lst (pa_cons (pv 6) (pa_cons (pv 6) pa_nil))) pa_nil)) (nomark _))
      (pss_one (ps_ret pe_bl)) pss_nil)
      (pss_one (ps_for PassesOwn.never rfl (pi_u (K := K) (pe_lst (pa_cons (pe_tup pa_nil) (pa_cons (pe_callG (E := fun _ _ _ => True) (by exact gd) (ok_law_row T) (hr.mono (by omega)) rfl T.g__law_row T.F_law_row.kp T.b_law_row .nil pass0 (pa_cons (pv 0) (pa_cons (pv 1) (pa_cons pe_int pa_nil)))) (pa_cons (pe_callG (E := fun _ _ _ => True) (by exact gd) (ok_law_row T) (hr.mono (by omega)) rfl T.g__law_row T.F_law_row.kp T.b_law_row .nil pass0 (pa_cons (pv 0) (pa_cons (pv 1) (pa_cons pe_int pa_nil)))) (pa_cons (pe_callG (E := fun _ _ _ => True) (by exact gd) (ok_law_row T) (hr.mono (by omega)) rfl T.g__law_row T.F_law_row.kp T.b_law_row .nil pass0 (pa_cons (pv 0) (pa_cons (pv 1) (pa_cons pe_int pa_nil)))) (pa_cons (pe_callG (E := fun _ _ _ => True) (by exact gd) (ok_law_long T) (hr.mono (by omega)) rfl T.g__law_long T.F_law_long.kp T.b_law_long .nil pass0 (pa_cons (pv 0) (pa_cons (pv 1) pa_nil))) pa_nil))))))) (pg_name (i := 7) sc_law_right.nd rfl (by first | exact Or.inl rfl | exact Or.inr rfl))
      (pss_cons (ps_set (i := 8) sc_law_right.nd rfl (Or.inl rfl) (pe_callG (E := fun _ _ _ => True) (by exact gd) (ok_law_states_of T) (hr.mono (by omega)) rfl T.g__law_states_of T.F_law_states_of.kp T.b_law_states_of .nil pass0 (pa_cons (pv 6) (pa_cons (pv 7) pa_nil))))
      (pss_one (ps_if (pt_cmpR (u_ne (K := K) (cl := clT T) (by exact hu64 hr)) (pe_callB (u_repr (K := K) (cl := clT T) (by exact gd) (by exact hu64 hr)) rfl T.z_repr (by decide +kernel) (pa_cons (pe_lst (pa_cons (pe_callG (E := fun _ _ _ => True) (by exact gd) (ok_state_of T) (hr.mono (by omega)) rfl T.g_state_of T.F_state_of.kp T.b_state_of .nil pass0 (pa_cons (pv 3) (pa_cons (pv 4) (pa_cons (pv 7) pa_nil)))) (pa_cons (pe_callKG0 (E := fun _ _ _ => True) (by exact gd) (ok_state_of T) (hr.mono (by omega)) rfl T.g_state_of T.F_state_of.kp T.kb_state_of_row_other_question pass0 (pk_cons (pv 7) (pk_cons (pv 4) (pk_cons (pv 3) pk_nil)))) pa_nil))) pa_nil)) (pe_callB (u_repr (K := K) (cl := clT T) (by exact gd) (by exact hu64 hr)) rfl T.z_repr (by decide +kernel) (pa_cons (pe_lst (pa_cons (pv 8) (pa_cons (pv 8) pa_nil))) pa_nil)) (nomark _))
      (pss_one (ps_ret pe_bl)) pss_nil)))))))))))
      (pss_one (ps_ret pe_bl)))), (ss_cons (ss_asg (se_call (fun _ _ => .nil) (sa_b 0 (sa_s se_int sa_nil))) (sg_name 1))
      (ss_cons (ss_for (si_range1 (sl_cons se_int sl_nil)) (sg_name 2)
      (ss_cons (ss_par (sa_e (se_call (fun _ _ => .nil) (sa_b 0 (sa_s (se_var 1) sa_nil))) (sa_e (se_call (fun _ _ => .nil) (sa_b 0 (sa_s (se_var 1) sa_nil))) sa_nil)))
      (ss_cons (ss_asg (se_call (fun _ _ => .nil) (sa_b 0 (sa_s (se_var 1) sa_nil))) (sg_name 5))
      (ss_cons (ss_if (st_test (se_op rs2 (SemV.w (SemE.v (se_call (fun _ _ => .nil) (sa_b 0 (sa_s se_int sa_nil))))) (SemV.w se_int)))
      (ss_cons (ss_asg (SemV.e (se_tup (sl_cons se_str (sl_cons (se_tup (sl_cons (se_var 5) (sl_cons (se_tup (sl_cons se_str (sl_cons (SemE.v (se_opE rs2e (SemV.w (se_tup (sl_cons (se_op rs2 (sw_nm 5) (SemV.w se_int)) (sl_cons se_str sl_nil)))) (SemV.w (SemE.v (se_slice (sw_nm 5) (so_some se_int) so_none))))) sl_nil))) sl_nil))) sl_nil)))) (sg_name 3))
      (ss_asg (SemV.e (se_tup (sl_cons se_str (sl_cons (se_tup (sl_cons (SemE.v (se_opE rs2e (SemV.w (se_tup (sl_cons (se_op rs2 (sw_nm 5) (SemV.w se_int)) (sl_cons se_str sl_nil)))) (SemV.w (SemE.v (se_slice (sw_nm 5) (so_some se_int) so_none))))) (sl_cons (se_var 5) sl_nil))) sl_nil)))) (sg_name 4))) ss_nil)
      (ss_cons (ss_asg (SemV.e (se_cb rsn (sw_cons (SemV.w (SemE.v (se_call (fun _ _ => .nil) (sa_s (se_var 3) (sa_s (se_var 4) sa_nil))))) sw_nil))) (sg_name 6))
      (ss_cons (ss_if (st_test (se_op rs2 (SemV.w (se_cb rsn (sw_cons (SemV.w (SemE.v (se_lst (sl_cons (SemE.v (se_call (fun _ _ => .nil) (sa_s (se_var 3) (sa_s (se_var 4) sa_nil)))) (sl_cons (SemE.v (se_callK (ix := [1, 0]) kbP_eq sa_nil (sl_cons (se_var 4) (sl_cons (se_var 3) sl_nil)))) sl_nil))))) sw_nil))) (SemV.w (se_cb rsn (sw_cons (SemV.w (SemE.v (se_lst (sl_cons (se_var 6) (sl_cons (se_var 6) sl_nil))))) sw_nil)))))
      (ss_ret (SemV.e se_bl)) ss_nil)
      (ss_for (si_u (SemE.v (se_lst (sl_cons (se_tup sl_nil) (sl_cons (SemE.v (se_call (fun _ _ => .nil) (sa_b 0 (sa_s (se_var 1) (sa_s se_int sa_nil))))) (sl_cons (SemE.v (se_call (fun _ _ => .nil) (sa_b 0 (sa_s (se_var 1) (sa_s se_int sa_nil))))) (sl_cons (SemE.v (se_call (fun _ _ => .nil) (sa_b 0 (sa_s (se_var 1) (sa_s se_int sa_nil))))) (sl_cons (SemE.v (se_call (fun _ _ => .nil) (sa_b 0 (sa_s (se_var 1) sa_nil)))) sl_nil)))))))) (sg_name 7)
      (ss_cons (ss_asg (se_call (fun _ _ => .nil) (sa_s (se_var 6) (sa_s (se_var 7) sa_nil))) (sg_name 8))
      (ss_if (st_test (se_op rs2 (SemV.w (se_cb rsn (sw_cons (SemV.w (SemE.v (se_lst (sl_cons (SemE.v (se_call (fun _ _ => .nil) (sa_s (se_var 3) (sa_s (se_var 4) (sa_s (se_var 7) sa_nil))))) (sl_cons (SemE.v (se_callK (ix := [2, 1, 0]) kbP_eq sa_nil (sl_cons (se_var 7) (sl_cons (se_var 4) (sl_cons (se_var 3) sl_nil))))) sl_nil))))) sw_nil))) (SemV.w (se_cb rsn (sw_cons (SemV.w (SemE.v (se_lst (sl_cons (se_var 8) (sl_cons (se_var 8) sl_nil))))) sw_nil)))))
      (ss_ret (SemV.e se_bl)) ss_nil)))))))))
      (ss_ret (SemV.e se_bl))))⟩)
theorem ok_law (T : Txt P K mg) : FnG P w K mg base CX0 14 T.f_law T.d_law ["script"] (FSp K (clT T) 1 F_law) :=
  okP (lv := 13) (k := 1) (fb := b_law) T.F_law sc_law rfl (fun cdv A outer s H E gd hr => ⟨_, (pss_one (ps_ret (pe_callB (u_all (K := K) (cl := clT T) rfl) rfl T.z_all (by decide +kernel) (pa_cons (pe_lc (own := [("turn", 1)]) rfl sc_law.nd (pi_range1 rfl T.z_range (pa_cons (pe_callB (u_max (K := K) (cl := clT T) rfl) rfl T.z_max (by decide +kernel) (pa_cons pe_int (pa_cons (pe_callB (u_min (K := K) (cl := clT T) rfl) rfl T.z_min (by decide +kernel) (pa_cons (pe_callB (u_len (K := K) (cl := clT T)) rfl T.z_len (by decide +kernel) (pa_cons (pv 0) pa_nil)) (pa_cons pe_int pa_nil))) pa_nil))) pa_nil)) (blkOk_by (own := [("turn", 1)]) (N := N_law) (sc := defScope s_law) (by decide +kernel)) (fun _ _ _ _ _ => (pg_name (i := 1) sc_law.nd rfl (by first | exact Or.inl rfl | exact Or.inr rfl))) (fun _ _ _ _ _ => (by exact pts_nil)) (fun _ _ _ _ _ => (by exact (pe_callG (E := fun _ _ _ => True) (by exact gd) (ok_law_right T) (hr.mono (by omega)) rfl T.g__law_right T.F_law_right.kp T.b_law_right .nil pass0 (pa_cons (pe_callG (E := fun _ _ _ => True) (by exact gd) (ok_law_jar T) (hr.mono (by omega)) rfl T.g__law_jar T.F_law_jar.kp T.b_law_jar .nil pass0 (pa_cons (pv 0) (pa_cons (pv 1) pa_nil))) pa_nil))))) pa_nil)))), (ss_ret (SemV.e (se_cb rsn (sw_cons (SemV.w (SemE.v (se_lc (vs := [1]) (si_range1 (sl_cons (se_cb rsn (sw_cons (SemV.w se_int) (sw_cons (SemV.w (se_cb rsn (sw_cons (SemV.w (se_cb rsn (sw_cons (sw_nm 0) sw_nil))) (sw_cons (SemV.w se_int) sw_nil)))) sw_nil))) sl_nil)) (sg_name 1) st_yes (SemE.v (se_call (fun _ _ => .nil) (sa_e (se_call (fun _ _ => .nil) (sa_s (se_var 0) (sa_s (se_var 1) sa_nil))) sa_nil))) (by decide)))) sw_nil))))⟩)
end
end K26
/-! k22, plain: the draws. -/
namespace K26
open PySem Pu
def jarD (a s n : Int) : D := .list [.int a, .int s, .int n]
def IsJar (j : D) : Prop := ∃ a s n, j = jarD a s n
theorem deal_ex {j : D} {m : Int} (hj : IsJar j) (h0 : 0 < m) (h1 : m < 1073741824) : ∃ k j', F_law_deal [.p j, .s (.int m)] = some (.s (.int k), [.p j', .un]) ∧ 0 ≤ k ∧ k < m ∧ IsJar j' := by
  obtain ⟨a, s, n, rfl⟩ := hj
  have b1 : bitsOk s (40009 + s % 9973) = true := bits_r (by omega) (by omega)
  have b2 : ∀ j, bitsOk 60013 j = true := fun j => bits_l (by decide) (by decide)
  by_cases h : a > 0
  · refine ⟨a % m, jarD (a / m) s n, ?_, Int.emod_nonneg _ (by omega), Int.emod_lt_of_pos _ h0, _, _, _, rfl⟩
    rw [F_law_deal_def]
    refine fnF_rt (ρ' := [.p (jarD (a / m) s n), .s (.int m), .s (.int (a % m))]) ?_ (by simp [maskP, range2])
    rw [b_law_deal_def]
    simp [b_law_deal_1a_1_def, b_law_deal_1a_2_def, b_law_deal_1_def, b_law_deal_2_def, b_law_deal_3_def, b_law_deal_4_def, jarD, h, h0, h1, ixD, L2.atI, L2.ixN, gtD, ordD, boolD, divmodD]
  · refine ⟨((s * (40009 + s % 9973) + 60013 * (n + 1) + 11) % 2147483647 / 512) % m, jarD a ((s * (40009 + s % 9973) + 60013 * (n + 1) + 11) % 2147483647) (n + 1), ?_, Int.emod_nonneg _ (by omega), Int.emod_lt_of_pos _ h0, _, _, _, rfl⟩
    rw [F_law_deal_def]
    refine fnF_rt (ρ' := [.p (jarD a ((s * (40009 + s % 9973) + 60013 * (n + 1) + 11) % 2147483647) (n + 1)), .s (.int m), .un]) ?_ (by simp [maskP, range2])
    rw [b_law_deal_def]
    simp [b_law_deal_1a_1_def, b_law_deal_1a_2_def, b_law_deal_1_def, b_law_deal_2_def, b_law_deal_3_def, b_law_deal_4_def, jarD, h, h0, h1, b1, b2, ixD, L2.atI, L2.ixN, gtD, ordD, boolD, divmodD, addD, mulI, modD, fdivD, intD]
theorem any_ex {j : D} {ds : List D} (hj : IsJar j) (h0 : 0 < ds.length) (h1 : ds.length < 1073741824) : ∃ d j', F_law_any [.p j, .s (.list ds)] = some (.s d, [.p j', .un]) ∧ d ∈ ds ∧ IsJar j' := by
  obtain ⟨k, j', e, k0, k1, hj'⟩ := deal_ex (m := ds.length) hj (by omega) (by omega)
  obtain ⟨x, e1, e2⟩ := atI_get (xs := ds) k0 k1
  refine ⟨x, j', ?_, List.mem_of_getElem? e2, hj'⟩
  rw [F_law_any_def]
  refine fnF_rt (ρ' := [.p j', .s (.list ds)]) ?_ (by simp [maskP, range2])
  rw [b_law_any_def]
  simp [e, lenD, ixD, e1]
/-! ### words -/
@[irreducible] def AL : Str := "abcdefghijklmnopqrstuvwxyz0123456789"
theorem AL_def : Str.ofString "abcdefghijklmnopqrstuvwxyz0123456789" = AL := by unfold AL; rfl
abbrev S (cs : List Nat) : Str := ⟨cs.toArray⟩
theorem AL_len : AL.cps.toList.length = 36 := by rw [← AL_def]; decide +kernel
theorem join_one : ∀ ys : List Nat, Txt.join (S []) (ys.map fun c => S [c]) = S ys := by
  intro ys
  have e : ys.map (fun c => S [c]) = (ys.map fun c => [c]).map SX.S := by rw [List.map_map]; rfl
  have j := SX.join_S [] (ys.map fun c => [c])
  rw [e]
  refine j.trans ?_
  show SX.S _ = SX.S ys
  congr 1
  clear j e
  induction ys with
  | nil => rfl
  | cons a ys ih =>
    cases ys with
    | nil => rfl
    | cons b ys => simp [TL.joinL] at ih ⊢
                   exact ih
/-- signs of words, one by one -/
def Sg (y : D) : Prop := ∃ c ∈ AL.cps.toList, y = .str (S [c])
theorem sg_list : ∀ {ys : List D}, (∀ y ∈ ys, Sg y) → ∃ cs : List Nat, ys = cs.map (fun c => .str (S [c])) ∧ (∀ c ∈ cs, c ∈ AL.cps.toList) ∧ cs.length = ys.length
  | [], _ => ⟨[], rfl, (fun c h => by cases h), rfl⟩
  | y :: ys, h => by
    obtain ⟨c, hc, rfl⟩ := h y (by simp)
    obtain ⟨cs, rfl, h2, h3⟩ := sg_list (ys := ys) fun y hy => h y (List.mem_cons_of_mem _ hy)
    refine ⟨c :: cs, rfl, fun d hd => ?_, by simp⟩
    rcases List.mem_cons.mp hd with rfl | hd
    · exact hc
    · exact h2 d hd
/-- a word of such signs -/
structure Wd (w : Str) (lo hi : Nat) : Prop where
  ge : lo ≤ w.cps.size
  le : w.cps.size ≤ hi
  sg : ∀ c ∈ w.cps.toList, c ∈ AL.cps.toList
theorem strs_S (cs : List Nat) : strsOf (cs.map fun c => (.str (S [c]) : D)) = some (cs.map fun c => S [c]) := by
  rw [← strsOf_map, List.map_map]; rfl
theorem in62_nat {n : Nat} (h : n ≤ 1000000) : in62 (n : Int) = true := by
  exact gd_of ⟨by omega, by omega⟩
theorem sum_one (cs : List Nat) : ((cs.map fun c => S [c]).map (·.length)).sum = cs.length := by
  rw [List.map_map]
  induction cs with
  | nil => rfl
  | cons c cs ih => rw [List.map_cons, List.sum_cons, ih, List.length_cons]; show 1 + cs.length = _; omega
theorem nil_def : Str.ofString "" = S [] := rfl
theorem join_D {cs : List Nat} (h : cs.length ≤ 16777216) : joinD (.str (S [])) (.list (cs.map fun c => (.str (S [c]) : D))) = some (.str (S cs)) := by
  have z : (S []).length = 0 := rfl
  have b : ((cs.map fun c => S [c]).map (·.length)).sum + (cs.map fun c => S [c]).length * (S []).length ≤ 16777216 := by rw [sum_one, z, Nat.mul_zero, Nat.add_zero]; exact h
  simp only [joinD, strs_S, Option.bind_some, gd_of b, if_true, join_one]
theorem word_ex {j : D} {n : Nat} (hj : IsJar j) (hn : n ≤ 12) : ∃ w j', F_law_word [.p j, .s (.int n)] = some (.s (.str w), [.p j', .un]) ∧ Wd w n n ∧ IsJar j' := by
  have z : AL.length ≤ sizeLine := line_of (by rw [← AL_def]; decide +kernel)
  obtain ⟨ys, ρ', e1, ⟨j', hj', rfl⟩, len, sg⟩ := lcF_inv (I := fun ρ => ∃ j, IsJar j ∧ ρ = [.p j, .s (.int n), .s (.str AL), .un]) (P := Sg) (g := put 3) (ft := fYes)
    (fe := fOp ixD (wNm 2) (wf (vf (fCall 2 F_law_deal [] (aB 0 (aS (fC (.int 36)) aNil)))))) (vs := [3]) (ds := rngD 0 n) (acc := []) (ρ := [.p j, .s (.int n), .s (.str AL), .un]) (by
      rintro d _ _ ⟨j, hj, rfl⟩
      obtain ⟨k, j', e, k0, k1, hj'⟩ := deal_ex (m := 36) hj (by decide) (by decide)
      obtain ⟨x, e1, e2⟩ := atI_get (xs := AL.cps.toList) k0 (by rw [AL_len]; exact k1)
      refine ⟨.str (S [x]), _, ?_, ⟨j', hj', rfl⟩, x, List.mem_of_getElem? e2, rfl⟩
      simp [lcOne, e, ixD, e1, z]) (by rw [rngD_len]; exact line_of (by rw [List.length_nil]; omega)) ⟨j, hj, rfl⟩
  obtain ⟨cs, rfl, h2, h3⟩ := sg_list sg
  rw [rngD_len] at len
  rw [len] at h3
  refine ⟨S cs, j', ?_, ⟨by show n ≤ cs.toArray.size; rw [List.size_toArray, h3]; exact Nat.le_refl _, by show cs.toArray.size ≤ n; rw [List.size_toArray, h3]; exact Nat.le_refl _, fun c hc => h2 c (by simpa using hc)⟩, hj'⟩
  have in_ := in62_nat (n := n) (by omega)
  have jn := join_D (cs := cs) (by omega)
  rw [List.nil_append] at e1
  rw [F_law_word_def]
  refine fnF_rt (ρ' := [.p j', .s (.int n), .s (.str AL), .un]) ?_ (by simp [maskP, range2])
  rw [b_law_word_def, b_law_word_1_def, b_law_word_2_def, AL_def, nil_def]
  simp [in_, e1, jn]
end K26
/-! k22, plain: pools of words. -/
namespace K26
open PySem Pu
open PySem.Spec
theorem app_list (a b : Str) : (a ++ b).cps.toList = a.cps.toList ++ b.cps.toList := by
  show (a.cps ++ b.cps).toList = _
  simp
theorem len_list (a : Str) : a.length = a.cps.toList.length := by
  show a.cps.size = _
  simp
theorem cut_list (z : Str) (k : Nat) : (L2.cutS z none (some (k : Int))).cps.toList = z.cps.toList.take k := by
  unfold L2.cutS
  have e : HT.sIx z.length z.length (some (k : Int)) = min k z.length := HT.sIx_nat _ _ _
  rw [e]
  show (List.toArray _).toList = _
  rw [show HT.sIx z.length 0 none = 0 from rfl, List.drop_zero, Nat.sub_zero, List.take_eq_take_min, len_list]
  simp [List.take_eq_take_iff]
theorem Wd.sz {w : Str} {lo hi : Nat} (h : Wd w lo hi) : lo ≤ w.cps.toList.length ∧ w.cps.toList.length ≤ hi := by
  have a := h.ge
  have b := h.le
  rw [← Array.length_toList] at a b
  exact ⟨a, b⟩
theorem wd_of {w : Str} {lo hi : Nat} (h1 : lo ≤ w.cps.toList.length) (h2 : w.cps.toList.length ≤ hi) (h3 : ∀ c ∈ w.cps.toList, c ∈ AL.cps.toList) : Wd w lo hi := by
  rw [Array.length_toList] at h1 h2
  exact ⟨h1, h2, h3⟩
theorem wd_cut {a b : Str} (ha : Wd a 1 12) (hb : Wd b 1 12) : Wd (L2.cutS (a ++ b) none (some 12)) 1 12 := by
  have e := cut_list (a ++ b) 12
  have sa := ha.sz
  have sb := hb.sz
  refine wd_of ?_ ?_ fun c hc => ?_
  · rw [show (12 : Int) = ((12 : Nat) : Int) from rfl, e, List.length_take, app_list, List.length_append]; omega
  · rw [show (12 : Int) = ((12 : Nat) : Int) from rfl, e, List.length_take]; omega
  · rw [show (12 : Int) = ((12 : Nat) : Int) from rfl, e] at hc
    have := List.mem_of_mem_take hc
    rw [app_list] at this
    rcases List.mem_append.mp this with h | h
    · exact ha.sg c h
    · exact hb.sg c h
abbrev ws (l : List Str) : D := .list (l.map .str)
theorem p1 {j : D} {m f t x : Sl} (hj : IsJar j) (hx : x = .un ∨ ∃ d, x = .s d) : ∃ w j', b_law_pool_2f_1 [.p j, m, f, t, x, .un] = some (.nx, [.p j', m, f, t, .s (.str w), .un]) ∧ Wd w 1 12 ∧ IsJar j' := by
  obtain ⟨d, j1, e1, hd, hj1⟩ := any_ex (ds := [.int 1, .int 1, .int 2, .int 2, .int 3, .int 5, .int 12]) hj (by simp) (by simp)
  have hn : ∃ n : Nat, 1 ≤ n ∧ n ≤ 12 ∧ d = .int n := by
    simp only [List.mem_cons, List.not_mem_nil, or_false] at hd
    rcases hd with rfl | rfl | rfl | rfl | rfl | rfl | rfl
    · exact ⟨1, by omega, by omega, rfl⟩
    · exact ⟨1, by omega, by omega, rfl⟩
    · exact ⟨2, by omega, by omega, rfl⟩
    · exact ⟨2, by omega, by omega, rfl⟩
    · exact ⟨3, by omega, by omega, rfl⟩
    · exact ⟨5, by omega, by omega, rfl⟩
    · exact ⟨12, by omega, by omega, rfl⟩
  obtain ⟨n, n1, n2, rfl⟩ := hn
  obtain ⟨w, j2, e2, hw, hj2⟩ := word_ex (n := n) hj1 n2
  refine ⟨w, j2, ?_, ⟨by have := hw.ge; omega, by have := hw.le; omega, hw.sg⟩, hj2⟩
  rw [b_law_pool_2f_1_def]
  rcases hx with rfl | ⟨d, rfl⟩ <;> simp [e1, e2, sizeLine_eq]
theorem str_ok {w : Str} {lo hi : Nat} (h : Wd w lo hi) : PyData.strOk w = true := by
  have all : ∀ c ∈ AL.cps.toList, c < 0x110000 := by rw [← AL_def]; decide +kernel
  unfold PyData.strOk
  rw [Array.all_eq_true']
  intro c hc
  exact decide_eq_true (all c (h.sg c (by simpa using hc)))
theorem ws_shaped {l : List Str} (h : ∀ w ∈ l, PyData.strOk w = true) : SeqAt.shaped (ws l) = true := by
  refine L2.shaped_of ?_ ?_
  · show L2.tidyAll _ = true
    exact L2.tidyAll_map fun w hw => h w hw
  · show PyData.depthAll _ + 1 ≤ 60
    have := L2.depth_map (f := PyData.str) (n := 0) (l := l) fun w _ => by simp only [PyData.depth]; exact Nat.le_refl _
    omega
theorem eqv_nil (l : List Str) : PyData.eqv (ws l) (.list []) = l.isEmpty := by
  cases l <;> simp [ws, PyData.eqv, PyData.eqvAll]
theorem p2 {j : D} {m t : Sl} {l : List Str} {w : Str} (hj : IsJar j) (hl : ∀ w ∈ l, Wd w 1 12) (hlen : l.length ≤ 1000) (hw : Wd w 1 12) :
    ∃ w' j', b_law_pool_2f_2 [.p j, m, .o (ws l), t, .s (.str w), .un] = some (.nx, [.p j', m, .o (ws l), t, .s (.str w'), .un]) ∧ Wd w' 1 12 ∧ IsJar j' := by
  have sh : SeqAt.shaped (.list (l.map .str)) = true := ws_shaped fun w h => str_ok (hl w h)
  have sh0 : SeqAt.shaped (.list []) = true := rfl
  have ne : neD (.list (l.map .str)) (.list []) = some (.bool !l.isEmpty) := by
    unfold neD eqB
    rw [if_pos (.inr ⟨sh, sh0⟩), eqv_nil]
    rfl
  rw [b_law_pool_2f_2_def]
  cases l with
  | nil =>
    refine ⟨w, j, ?_, hw, hj⟩
    simp [ws, sizeLine_eq, ne] at ne ⊢
    simp [ne]
  | cons a r =>
    obtain ⟨k, j1, e1, k0, k1, hj1⟩ := deal_ex (m := 2) hj (by decide) (by decide)
    have eq0 : eqD (.int k) (.int 0) = some (.bool (k == 0)) := by simp [eqD, eqB, sc2]
    by_cases hk : k = 0
    · subst hk
      have eq0 : eqD (.int 0) (.int 0) = some (.bool true) := rfl
      obtain ⟨i, j2, e2, i0, i1, hj2⟩ := deal_ex (m := ((a :: r).length : Nat)) hj1 (by simp) (by omega)
      obtain ⟨x, e3, e4⟩ := atI_get (xs := (a :: r).map PyData.str) i0 (by rw [List.length_map]; exact i1)
      obtain ⟨b, hb, rfl⟩ := List.mem_map.mp (List.mem_of_getElem? e4)
      refine ⟨_, j2, ?_, wd_cut (hl b hb) hw, hj2⟩
      have sa := (hl b hb).sz
      have sw := hw.sz
      have z1 : b.length + w.length ≤ 16777216 := by rw [len_list, len_list]; omega
      have z2 : (b ++ w).length ≤ 16777216 := by rw [len_list, app_list, List.length_append]; omega
      simp at e2 e3
      simp [ws, sizeLine_eq] at ne ⊢
      simp [ne, e1, eq0, lenD, e2, ixD, e3, addD, sliceD, sizeLine_eq, z1, z2]
    · have eq0 : eqD (.int k) (.int 0) = some (.bool false) := by simp [eqD, eqB, sc2, hk]
      refine ⟨w, j1, ?_, hw, hj1⟩
      simp [ws, sizeLine_eq] at ne ⊢
      simp [ne, e1, eq0]
theorem in_ws (w : Str) (l : List Str) : inD (.str w) (.list (l.map .str)) = some (.bool (l.any fun z => z == w)) ∧ notInD (.str w) (.list (l.map .str)) = some (.bool !(l.any fun z => z == w)) := by
  have f : (flatD (.str w) && (l.map PyData.str).all flatD) = true := by
    rw [List.all_map]
    simp [flatD, Function.comp_def]
  have e : inB (.str w) (.list (l.map .str)) = some (l.any fun z => z == w) := by
    show (if _ then _ else _) = _
    rw [if_pos (.inl f), List.any_map]
    simp [Function.comp_def]
  unfold inD notInD
  rw [e]
  exact ⟨rfl, rfl⟩
def DG : List Nat := (("0123456789" : Str)).cps.toList
theorem DG_eq : DG = [48, 49, 50, 51, 52, 53, 54, 55, 56, 57] := by unfold DG; decide +kernel
theorem DG_AL : ∀ c ∈ DG, c ∈ AL.cps.toList := by rw [DG_eq, ← AL_def]; decide +kernel
/-- the word with another last sign -/
def cand (w : Str) (c : Nat) : Str := L2.cutS w none (some 11) ++ S [c]
theorem cand_list (w : Str) (c : Nat) : (cand w c).cps.toList = w.cps.toList.take 11 ++ [c] := by
  unfold cand
  rw [app_list, show (11 : Int) = ((11 : Nat) : Int) from rfl, cut_list]
theorem cand_wd {w : Str} {c : Nat} (h : Wd w 1 12) (hc : c ∈ DG) : Wd (cand w c) 1 12 := by
  refine wd_of ?_ ?_ fun d hd => ?_
  · rw [cand_list, List.length_append]; simp
  · rw [cand_list, List.length_append, List.length_take]; simp; omega
  · rw [cand_list] at hd
    rcases List.mem_append.mp hd with hd | hd
    · exact h.sg d (List.mem_of_mem_take hd)
    · rw [List.mem_singleton.mp hd]; exact DG_AL c hc
theorem cand_inj {w : Str} {c d : Nat} (h : cand w c = cand w d) : c = d := by
  have e : (cand w c).cps.toList = (cand w d).cps.toList := by rw [h]
  rw [cand_list, cand_list] at e
  have := List.append_cancel_left e
  simpa using this
/-- one of ten is not there -/
theorem one_free {w : Str} {l : List Str} (hl : l.length < 10) : ∃ y r, (DG.map fun c => (.str (S [c]) : D)).filterMap (fun d => match d with
    | .str x => if (l.any fun z => z == (L2.cutS w none (some 11) ++ x)) = true then none else some (PyData.str (L2.cutS w none (some 11) ++ x))
    | _ => none) = .str (cand w y) :: r ∧ y ∈ DG := by
  by_cases h : ∃ c ∈ DG, (l.any fun z => z == cand w c) = false
  · obtain ⟨c, hc, h⟩ := h
    generalize DG = L at hc ⊢
    induction L with
    | nil => cases hc
    | cons a L ih =>
      rw [List.map_cons, List.filterMap_cons]
      by_cases ha : (l.any fun z => z == cand w a) = true
      · have hc' : c ∈ L := by
          rcases List.mem_cons.mp hc with rfl | h'
          · rw [h] at ha; cases ha
          · exact h'
        obtain ⟨y, r, e, hy⟩ := ih hc'
        have ha' : (l.any fun z => z == (L2.cutS w none (some 11) ++ S [a])) = true := ha
        simp only [ha', if_true]
        exact ⟨y, r, e, List.mem_cons_of_mem _ hy⟩
      · have ha' : (l.any fun z => z == (L2.cutS w none (some 11) ++ S [a])) = false := by
          cases q : l.any fun z => z == (L2.cutS w none (some 11) ++ S [a]) with
          | false => rfl
          | true => exact absurd q ha
        simp only [ha', Bool.false_eq_true, if_false]
        exact ⟨a, _, rfl, List.mem_cons_self⟩
  · exfalso
    have all : ∀ c ∈ DG, cand w c ∈ l := by
      intro c hc
      have : (l.any fun z => z == cand w c) = true := by
        cases q : l.any fun z => z == cand w c with
        | true => rfl
        | false => exact absurd ⟨c, hc, q⟩ h
      obtain ⟨z, hz, e⟩ := List.any_eq_true.mp this
      rw [← eq_of_beq e]
      exact hz
    have nd : (DG.map (cand w)).Nodup := by
      refine List.pairwise_map.mpr ?_
      have : DG.Nodup := by rw [DG_eq]; decide
      exact this.imp fun h e => h (cand_inj e)
    have := List.Nodup.length_le_of_subset nd (l₂ := l) fun x hx => by
      obtain ⟨c, hc, rfl⟩ := List.mem_map.mp hx
      exact all c hc
    rw [List.length_map, DG_eq] at this
    simp at this
    omega
def phi (w : Str) (l : List Str) : D → Option D := fun d => match d with
    | .str x => if (l.any fun z => z == (L2.cutS w none (some 11) ++ x)) = true then none else some (PyData.str (L2.cutS w none (some 11) ++ x))
    | _ => none
theorem dg_def : Str.ofString "0123456789" = ⟨DG.toArray⟩ := by
  unfold DG
  simp
theorem p3 {j : D} {m t : Sl} {l : List Str} {w : Str} (hl : l.length < 10) (hw : Wd w 1 12) :
    ∃ w', b_law_pool_2f_3 [.p j, m, .o (ws l), t, .s (.str w), .un] = some (.nx, [.p j, m, .o (ws l), t, .s (.str w'), .un]) ∧ Wd w' 1 12 := by
  obtain ⟨i1, i2⟩ := in_ws w l
  rw [b_law_pool_2f_3_def, dg_def]
  cases h : l.any fun z => z == w with
  | false =>
    rw [h] at i1
    refine ⟨w, ?_, hw⟩
    simp [ws, i1]
  | true =>
    rw [h] at i1
    obtain ⟨y, r, e, hy⟩ := one_free (w := w) hl
    have sw := hw.sz
    have lc : lcF (put 5) (fTst (fOp notInD (wf (vf (fOpE addD (wf (vf (fSl (wNm 4) oNo (oSo (fC (.int 11)))))) (wNm 5)))) (wNm 2))) (vf (fOpE addD (wf (vf (fSl (wNm 4) oNo (oSo (fC (.int 11)))))) (wNm 5))) [5] (DG.map fun c => (.str (S [c]) : D)) []
        [.p j, m, .o (ws l), t, .s (.str w), .un] = some ([] ++ (DG.map fun c => (.str (S [c]) : D)).filterMap (phi w l), [.p j, m, .o (ws l), t, .s (.str w), .un]) := by
      refine lcF_fm ?_ (line_of (by rw [List.length_map, DG_eq]; decide))
      intro d hd
      obtain ⟨c, hc, rfl⟩ := List.mem_map.mp hd
      have z0 : w.length ≤ 16777216 := by rw [len_list]; omega
      have z1 : (L2.cutS w none (some 11)).length + (S [c]).length ≤ 16777216 := by
        rw [len_list, show (11 : Int) = ((11 : Nat) : Int) from rfl, cut_list, List.length_take]
        show _ + 1 ≤ _
        omega
      obtain ⟨_, n2⟩ := in_ws (L2.cutS w none (some 11) ++ S [c]) l
      cases q : l.any fun z => z == (L2.cutS w none (some 11) ++ S [c]) with
      | false =>
        rw [q] at n2
        have ph : phi w l (.str (S [c])) = some (.str (L2.cutS w none (some 11) ++ S [c])) := by simp only [phi, q]; rfl
        rw [ph]
        simp [lcOne, ws, sliceD, addD, sizeLine_eq, z0, z1, n2]
      | true =>
        rw [q] at n2
        have ph : phi w l (.str (S [c])) = none := by simp only [phi, q]; rfl
        rw [ph]
        simp [lcOne, ws, sliceD, addD, sizeLine_eq, z0, z1, n2]
    have e' : (DG.map fun c => (.str (S [c]) : D)).filterMap (phi w l) = .str (cand w y) :: r := e
    rw [e', List.nil_append] at lc
    have wk : walkD (.str ⟨DG.toArray⟩) = some (DG.map fun c => (.str (S [c]) : D)) := by simp [walkD]
    refine ⟨cand w y, ?_, cand_wd hw hy⟩
    simp [ws] at lc
    simp [ws, i1, wk, lc, ixD, L2.atI, L2.ixN]
theorem p4 {j : D} {m t : Sl} {l : List Str} {w : Str} (hl : l.length < 1000) : b_law_pool_2f_4 [.p j, m, .o (ws l), t, .s (.str w), .un] = some (.nx, [.p j, m, .o (ws (l ++ [w])), t, .s (.str w), .un]) := by
  rw [b_law_pool_2f_4_def]
  have z : l.length < 16777216 := by omega
  simp [ws, apD, sizeLine_eq, z]
theorem pool_ex {j : D} {n : Nat} (hj : IsJar j) (hn : n ≤ 5) : ∃ l j', F_law_pool [.p j, .s (.int n)] = some (.o (ws l), [.p j', .un]) ∧ l.length = n ∧ (∀ w ∈ l, Wd w 1 12) ∧ IsJar j' := by
  obtain ⟨ρ', e1, j', l, t, x, rfl, hj', len, hl, tx⟩ := loopF_inv (g := put 3) (b := sSeq b_law_pool_2f_1 (sSeq b_law_pool_2f_2 (sSeq b_law_pool_2f_3 b_law_pool_2f_4)))
    (I := fun i ρ => ∃ j l t x, ρ = [.p j, .s (.int n), .o (ws l), t, x, .un] ∧ IsJar j ∧ l.length = i ∧ (∀ w ∈ l, Wd w 1 12) ∧ ((t = .un ∧ x = .un) ∨ ∃ d e, t = .s d ∧ x = .s e))
    (ds := rngD 0 n) (ρ := [.p j, .s (.int n), .o (ws []), .un, .un, .un]) 0 (by
      rintro i d _ hd ⟨j, l, t, x, rfl, hj, len, hl, tx⟩
      have hi : i < n := by have := (List.getElem?_eq_some_iff.mp hd).1; rwa [rngD_len] at this
      obtain ⟨w1, j1, e1, h1, hj1⟩ := p1 (m := .s (.int n)) (f := .o (ws l)) (t := .s d) (x := x) hj (by rcases tx with ⟨_, h⟩ | ⟨_, e, _, h⟩; exact .inl h; exact .inr ⟨e, h⟩)
      obtain ⟨w2, j2, e2, h2, hj2⟩ := p2 (m := .s (.int n)) (t := .s d) hj1 hl (by omega) h1
      obtain ⟨w3, e3, h3⟩ := p3 (j := j2) (m := .s (.int n)) (t := .s d) (l := l) (by omega) h2
      have e4 := p4 (j := j2) (m := .s (.int n)) (t := .s d) (l := l) (w := w3) (by omega)
      refine ⟨_, ?_, j2, l ++ [w3], .s d, .s (.str w3), rfl, hj2, by rw [List.length_append, len]; simp, fun w hw => ?_, .inr ⟨_, _, rfl, rfl⟩⟩
      · rcases tx with ⟨rfl, rfl⟩ | ⟨a, b, rfl, rfl⟩ <;> simp [turnF, e1, e2, e3, e4]
      · rcases List.mem_append.mp hw with hw | hw
        · exact hl w hw
        · rw [List.mem_singleton.mp hw]; exact h3) ⟨j, [], .un, .un, rfl, hj, rfl, (fun w h => by cases h), .inl ⟨rfl, rfl⟩⟩
  rw [rngD_len] at len
  refine ⟨l, j', ?_, by omega, hl, hj'⟩
  rw [F_law_pool_def]
  refine fnF_rt (ρ' := [.p j', .s (.int n), .un, t, x, .un]) ?_ (by simp [maskP, range2])
  have in_ := in62_nat (n := n) (by omega)
  simp [ws] at e1
  rw [b_law_pool_def, b_law_pool_1_def, b_law_pool_2_def, b_law_pool_3_def]
  simp [in_, ws, e1, sizeLine_eq]
end K26
/-! k22, plain: jars and atoms. -/
namespace K26
open PySem Pu
open PySem.Spec
theorem cutL_mem {xs : List D} {lo hi : Option Int} {x : D} (h : x ∈ Pu.cutL xs lo hi) : x ∈ xs := by
  unfold Pu.cutL at h
  exact List.mem_of_mem_drop (List.mem_of_mem_take h)
theorem jar_ex {ns : List Int} {t : Nat} (hl : ns.length ≤ 1000) : ∃ j, F_law_jar [.s (.list (ns.map .int)), .s (.int t)] = some (.o j, [.un, .un]) ∧ IsJar j := by
  obtain ⟨ρ', e1, s, x, rfl, _⟩ := loopF_inv (g := put 3) (b := sAsg (ef (fOp modD (wf (fCB intD (wCons (wf (vf (fOpE addD (wf (vf (fOpE addD (wf (fOp mulI (wNm 2) (wf (fC (.int 48271))))) (wf (fOp modD (wf (fCB intD (wCons (wNm 3) wNil))) (wf (fC (.int 2147483399)))))))) (wf (fC (.int 31)))))) wNil))) (wf (fC (.int 2147483647))))) (put 2))
    (I := fun _ ρ => ∃ (s : Int) (x : Sl), ρ = [.s (.list (ns.map .int)), .s (.int t), .s (.int s), x, .un] ∧ (x = .un ∨ ∃ d, x = .s d))
    (ds := Pu.cutL (ns.map PyData.int) none (some 8)) (ρ := [.s (.list (ns.map .int)), .s (.int t), .s (.int (91009 + 7027 * t)), .un, .un]) 0 (by
      rintro i d _ hd ⟨s, x, rfl, hx⟩
      obtain ⟨n, hn, rfl⟩ := List.mem_map.mp (cutL_mem (List.mem_of_getElem? hd))
      have b : ∀ s, bitsOk s 48271 = true := fun s => bits_r (by decide) (by decide)
      refine ⟨_, ?_, (s * 48271 + n % 2147483399 + 31) % 2147483647, .s (.int n), rfl, .inr ⟨_, rfl⟩⟩
      rcases hx with rfl | ⟨_, rfl⟩ <;> simp [turnF, mulI, b, addD, intD, modD]) ⟨_, .un, rfl, .inl rfl⟩
  have b : ∀ s, bitsOk 7027 s = true := fun s => bits_l (by decide) (by decide)
  have z : ns.length ≤ 16777216 := by omega
  rw [F_law_jar_def]
  by_cases h : t < ns.length
  · obtain ⟨y, e2, e3⟩ := atI_get (xs := ns.map PyData.int) (k := t) (by omega) (by rw [List.length_map]; omega)
    obtain ⟨n, hn, rfl⟩ := List.mem_map.mp (List.mem_of_getElem? e3)
    refine ⟨jarD (if n < 0 then -n else if n ≥ 1000000000000000000 then n else 0) s 0, fnF_rt (ρ' := [.s (.list (ns.map .int)), .s (.int t), .s (.int s), x, .s (.int n)]) ?_ (by simp [maskP, range2]), _, _, _, rfl⟩
    rw [b_law_jar_def, b_law_jar_1_def, b_law_jar_2_def, b_law_jar_3_def, b_law_jar_4_def]
    by_cases h1 : n < 0
    · simp [mulI, b, addD, sliceD, walkD, e1, ltD, ordD, boolD, lenD, sizeLine_eq, z, h, ixD, e2, intD, h1, absD, jarD]
    · by_cases h2 : n ≥ 1000000000000000000
      · simp [mulI, b, addD, sliceD, walkD, e1, ltD, geD, ordD, boolD, lenD, sizeLine_eq, z, h, ixD, e2, intD, h1, h2, absD, jarD, powD]
      · simp [mulI, b, addD, sliceD, walkD, e1, ltD, geD, ordD, boolD, lenD, sizeLine_eq, z, h, ixD, e2, intD, h1, h2, absD, jarD, powD]
  · refine ⟨jarD 0 s 0, fnF_rt (ρ' := [.s (.list (ns.map .int)), .s (.int t), .s (.int s), x, .s (.int 0)]) ?_ (by simp [maskP, range2]), _, _, _, rfl⟩
    rw [b_law_jar_def, b_law_jar_1_def, b_law_jar_2_def, b_law_jar_3_def, b_law_jar_4_def]
    simp [mulI, b, addD, sliceD, walkD, e1, ltD, geD, ordD, boolD, lenD, sizeLine_eq, z, h, ixD, intD, absD, jarD, powD]
end K26
/-! k22, plain: atoms. -/
namespace K26
open PySem Pu
open PySem.Spec
@[simp] theorem q_word_starts : (Str.ofString "word" == Str.ofString "starts") = false := by decide +kernel
@[simp] theorem q'_word_starts : (Str.ofString "word" = Str.ofString "starts") = False := eq_false (by decide +kernel)
@[simp] theorem q_word_row : (Str.ofString "word" == Str.ofString "row") = false := by decide +kernel
@[simp] theorem q'_word_row : (Str.ofString "word" = Str.ofString "row") = False := eq_false (by decide +kernel)
@[simp] theorem q_word_near : (Str.ofString "word" == Str.ofString "near") = false := by decide +kernel
@[simp] theorem q'_word_near : (Str.ofString "word" = Str.ofString "near") = False := eq_false (by decide +kernel)
@[simp] theorem q_word_not : (Str.ofString "word" == Str.ofString "not") = false := by decide +kernel
@[simp] theorem q'_word_not : (Str.ofString "word" = Str.ofString "not") = False := eq_false (by decide +kernel)
@[simp] theorem q_word_all : (Str.ofString "word" == Str.ofString "all") = false := by decide +kernel
@[simp] theorem q'_word_all : (Str.ofString "word" = Str.ofString "all") = False := eq_false (by decide +kernel)
@[simp] theorem q_word_any : (Str.ofString "word" == Str.ofString "any") = false := by decide +kernel
@[simp] theorem q'_word_any : (Str.ofString "word" = Str.ofString "any") = False := eq_false (by decide +kernel)
@[simp] theorem q_word_head : (Str.ofString "word" == Str.ofString "head") = false := by decide +kernel
@[simp] theorem q'_word_head : (Str.ofString "word" = Str.ofString "head") = False := eq_false (by decide +kernel)
@[simp] theorem q_word_body : (Str.ofString "word" == Str.ofString "body") = false := by decide +kernel
@[simp] theorem q'_word_body : (Str.ofString "word" = Str.ofString "body") = False := eq_false (by decide +kernel)
@[simp] theorem q_starts_word : (Str.ofString "starts" == Str.ofString "word") = false := by decide +kernel
@[simp] theorem q'_starts_word : (Str.ofString "starts" = Str.ofString "word") = False := eq_false (by decide +kernel)
@[simp] theorem q_starts_row : (Str.ofString "starts" == Str.ofString "row") = false := by decide +kernel
@[simp] theorem q'_starts_row : (Str.ofString "starts" = Str.ofString "row") = False := eq_false (by decide +kernel)
@[simp] theorem q_starts_near : (Str.ofString "starts" == Str.ofString "near") = false := by decide +kernel
@[simp] theorem q'_starts_near : (Str.ofString "starts" = Str.ofString "near") = False := eq_false (by decide +kernel)
@[simp] theorem q_starts_not : (Str.ofString "starts" == Str.ofString "not") = false := by decide +kernel
@[simp] theorem q'_starts_not : (Str.ofString "starts" = Str.ofString "not") = False := eq_false (by decide +kernel)
@[simp] theorem q_starts_all : (Str.ofString "starts" == Str.ofString "all") = false := by decide +kernel
@[simp] theorem q'_starts_all : (Str.ofString "starts" = Str.ofString "all") = False := eq_false (by decide +kernel)
@[simp] theorem q_starts_any : (Str.ofString "starts" == Str.ofString "any") = false := by decide +kernel
@[simp] theorem q'_starts_any : (Str.ofString "starts" = Str.ofString "any") = False := eq_false (by decide +kernel)
@[simp] theorem q_starts_head : (Str.ofString "starts" == Str.ofString "head") = false := by decide +kernel
@[simp] theorem q'_starts_head : (Str.ofString "starts" = Str.ofString "head") = False := eq_false (by decide +kernel)
@[simp] theorem q_starts_body : (Str.ofString "starts" == Str.ofString "body") = false := by decide +kernel
@[simp] theorem q'_starts_body : (Str.ofString "starts" = Str.ofString "body") = False := eq_false (by decide +kernel)
@[simp] theorem q_row_word : (Str.ofString "row" == Str.ofString "word") = false := by decide +kernel
@[simp] theorem q'_row_word : (Str.ofString "row" = Str.ofString "word") = False := eq_false (by decide +kernel)
@[simp] theorem q_row_starts : (Str.ofString "row" == Str.ofString "starts") = false := by decide +kernel
@[simp] theorem q'_row_starts : (Str.ofString "row" = Str.ofString "starts") = False := eq_false (by decide +kernel)
@[simp] theorem q_row_near : (Str.ofString "row" == Str.ofString "near") = false := by decide +kernel
@[simp] theorem q'_row_near : (Str.ofString "row" = Str.ofString "near") = False := eq_false (by decide +kernel)
@[simp] theorem q_row_not : (Str.ofString "row" == Str.ofString "not") = false := by decide +kernel
@[simp] theorem q'_row_not : (Str.ofString "row" = Str.ofString "not") = False := eq_false (by decide +kernel)
@[simp] theorem q_row_all : (Str.ofString "row" == Str.ofString "all") = false := by decide +kernel
@[simp] theorem q'_row_all : (Str.ofString "row" = Str.ofString "all") = False := eq_false (by decide +kernel)
@[simp] theorem q_row_any : (Str.ofString "row" == Str.ofString "any") = false := by decide +kernel
@[simp] theorem q'_row_any : (Str.ofString "row" = Str.ofString "any") = False := eq_false (by decide +kernel)
@[simp] theorem q_row_head : (Str.ofString "row" == Str.ofString "head") = false := by decide +kernel
@[simp] theorem q'_row_head : (Str.ofString "row" = Str.ofString "head") = False := eq_false (by decide +kernel)
@[simp] theorem q_row_body : (Str.ofString "row" == Str.ofString "body") = false := by decide +kernel
@[simp] theorem q'_row_body : (Str.ofString "row" = Str.ofString "body") = False := eq_false (by decide +kernel)
@[simp] theorem q_near_word : (Str.ofString "near" == Str.ofString "word") = false := by decide +kernel
@[simp] theorem q'_near_word : (Str.ofString "near" = Str.ofString "word") = False := eq_false (by decide +kernel)
@[simp] theorem q_near_starts : (Str.ofString "near" == Str.ofString "starts") = false := by decide +kernel
@[simp] theorem q'_near_starts : (Str.ofString "near" = Str.ofString "starts") = False := eq_false (by decide +kernel)
@[simp] theorem q_near_row : (Str.ofString "near" == Str.ofString "row") = false := by decide +kernel
@[simp] theorem q'_near_row : (Str.ofString "near" = Str.ofString "row") = False := eq_false (by decide +kernel)
@[simp] theorem q_near_not : (Str.ofString "near" == Str.ofString "not") = false := by decide +kernel
@[simp] theorem q'_near_not : (Str.ofString "near" = Str.ofString "not") = False := eq_false (by decide +kernel)
@[simp] theorem q_near_all : (Str.ofString "near" == Str.ofString "all") = false := by decide +kernel
@[simp] theorem q'_near_all : (Str.ofString "near" = Str.ofString "all") = False := eq_false (by decide +kernel)
@[simp] theorem q_near_any : (Str.ofString "near" == Str.ofString "any") = false := by decide +kernel
@[simp] theorem q'_near_any : (Str.ofString "near" = Str.ofString "any") = False := eq_false (by decide +kernel)
@[simp] theorem q_near_head : (Str.ofString "near" == Str.ofString "head") = false := by decide +kernel
@[simp] theorem q'_near_head : (Str.ofString "near" = Str.ofString "head") = False := eq_false (by decide +kernel)
@[simp] theorem q_near_body : (Str.ofString "near" == Str.ofString "body") = false := by decide +kernel
@[simp] theorem q'_near_body : (Str.ofString "near" = Str.ofString "body") = False := eq_false (by decide +kernel)
@[simp] theorem q_not_word : (Str.ofString "not" == Str.ofString "word") = false := by decide +kernel
@[simp] theorem q'_not_word : (Str.ofString "not" = Str.ofString "word") = False := eq_false (by decide +kernel)
@[simp] theorem q_not_starts : (Str.ofString "not" == Str.ofString "starts") = false := by decide +kernel
@[simp] theorem q'_not_starts : (Str.ofString "not" = Str.ofString "starts") = False := eq_false (by decide +kernel)
@[simp] theorem q_not_row : (Str.ofString "not" == Str.ofString "row") = false := by decide +kernel
@[simp] theorem q'_not_row : (Str.ofString "not" = Str.ofString "row") = False := eq_false (by decide +kernel)
@[simp] theorem q_not_near : (Str.ofString "not" == Str.ofString "near") = false := by decide +kernel
@[simp] theorem q'_not_near : (Str.ofString "not" = Str.ofString "near") = False := eq_false (by decide +kernel)
@[simp] theorem q_not_all : (Str.ofString "not" == Str.ofString "all") = false := by decide +kernel
@[simp] theorem q'_not_all : (Str.ofString "not" = Str.ofString "all") = False := eq_false (by decide +kernel)
@[simp] theorem q_not_any : (Str.ofString "not" == Str.ofString "any") = false := by decide +kernel
@[simp] theorem q'_not_any : (Str.ofString "not" = Str.ofString "any") = False := eq_false (by decide +kernel)
@[simp] theorem q_not_head : (Str.ofString "not" == Str.ofString "head") = false := by decide +kernel
@[simp] theorem q'_not_head : (Str.ofString "not" = Str.ofString "head") = False := eq_false (by decide +kernel)
@[simp] theorem q_not_body : (Str.ofString "not" == Str.ofString "body") = false := by decide +kernel
@[simp] theorem q'_not_body : (Str.ofString "not" = Str.ofString "body") = False := eq_false (by decide +kernel)
@[simp] theorem q_all_word : (Str.ofString "all" == Str.ofString "word") = false := by decide +kernel
@[simp] theorem q'_all_word : (Str.ofString "all" = Str.ofString "word") = False := eq_false (by decide +kernel)
@[simp] theorem q_all_starts : (Str.ofString "all" == Str.ofString "starts") = false := by decide +kernel
@[simp] theorem q'_all_starts : (Str.ofString "all" = Str.ofString "starts") = False := eq_false (by decide +kernel)
@[simp] theorem q_all_row : (Str.ofString "all" == Str.ofString "row") = false := by decide +kernel
@[simp] theorem q'_all_row : (Str.ofString "all" = Str.ofString "row") = False := eq_false (by decide +kernel)
@[simp] theorem q_all_near : (Str.ofString "all" == Str.ofString "near") = false := by decide +kernel
@[simp] theorem q'_all_near : (Str.ofString "all" = Str.ofString "near") = False := eq_false (by decide +kernel)
@[simp] theorem q_all_not : (Str.ofString "all" == Str.ofString "not") = false := by decide +kernel
@[simp] theorem q'_all_not : (Str.ofString "all" = Str.ofString "not") = False := eq_false (by decide +kernel)
@[simp] theorem q_all_any : (Str.ofString "all" == Str.ofString "any") = false := by decide +kernel
@[simp] theorem q'_all_any : (Str.ofString "all" = Str.ofString "any") = False := eq_false (by decide +kernel)
@[simp] theorem q_all_head : (Str.ofString "all" == Str.ofString "head") = false := by decide +kernel
@[simp] theorem q'_all_head : (Str.ofString "all" = Str.ofString "head") = False := eq_false (by decide +kernel)
@[simp] theorem q_all_body : (Str.ofString "all" == Str.ofString "body") = false := by decide +kernel
@[simp] theorem q'_all_body : (Str.ofString "all" = Str.ofString "body") = False := eq_false (by decide +kernel)
@[simp] theorem q_any_word : (Str.ofString "any" == Str.ofString "word") = false := by decide +kernel
@[simp] theorem q'_any_word : (Str.ofString "any" = Str.ofString "word") = False := eq_false (by decide +kernel)
@[simp] theorem q_any_starts : (Str.ofString "any" == Str.ofString "starts") = false := by decide +kernel
@[simp] theorem q'_any_starts : (Str.ofString "any" = Str.ofString "starts") = False := eq_false (by decide +kernel)
@[simp] theorem q_any_row : (Str.ofString "any" == Str.ofString "row") = false := by decide +kernel
@[simp] theorem q'_any_row : (Str.ofString "any" = Str.ofString "row") = False := eq_false (by decide +kernel)
@[simp] theorem q_any_near : (Str.ofString "any" == Str.ofString "near") = false := by decide +kernel
@[simp] theorem q'_any_near : (Str.ofString "any" = Str.ofString "near") = False := eq_false (by decide +kernel)
@[simp] theorem q_any_not : (Str.ofString "any" == Str.ofString "not") = false := by decide +kernel
@[simp] theorem q'_any_not : (Str.ofString "any" = Str.ofString "not") = False := eq_false (by decide +kernel)
@[simp] theorem q_any_all : (Str.ofString "any" == Str.ofString "all") = false := by decide +kernel
@[simp] theorem q'_any_all : (Str.ofString "any" = Str.ofString "all") = False := eq_false (by decide +kernel)
@[simp] theorem q_any_head : (Str.ofString "any" == Str.ofString "head") = false := by decide +kernel
@[simp] theorem q'_any_head : (Str.ofString "any" = Str.ofString "head") = False := eq_false (by decide +kernel)
@[simp] theorem q_any_body : (Str.ofString "any" == Str.ofString "body") = false := by decide +kernel
@[simp] theorem q'_any_body : (Str.ofString "any" = Str.ofString "body") = False := eq_false (by decide +kernel)
@[simp] theorem q_head_body : (Str.ofString "head" == Str.ofString "body") = false := by decide +kernel
@[simp] theorem q'_head_body : (Str.ofString "head" = Str.ofString "body") = False := eq_false (by decide +kernel)
@[simp] theorem q_head_word : (Str.ofString "head" == Str.ofString "word") = false := by decide +kernel
@[simp] theorem q'_head_word : (Str.ofString "head" = Str.ofString "word") = False := eq_false (by decide +kernel)
@[simp] theorem q_head_starts : (Str.ofString "head" == Str.ofString "starts") = false := by decide +kernel
@[simp] theorem q'_head_starts : (Str.ofString "head" = Str.ofString "starts") = False := eq_false (by decide +kernel)
@[simp] theorem q_head_row : (Str.ofString "head" == Str.ofString "row") = false := by decide +kernel
@[simp] theorem q'_head_row : (Str.ofString "head" = Str.ofString "row") = False := eq_false (by decide +kernel)
@[simp] theorem q_head_near : (Str.ofString "head" == Str.ofString "near") = false := by decide +kernel
@[simp] theorem q'_head_near : (Str.ofString "head" = Str.ofString "near") = False := eq_false (by decide +kernel)
@[simp] theorem q_head_not : (Str.ofString "head" == Str.ofString "not") = false := by decide +kernel
@[simp] theorem q'_head_not : (Str.ofString "head" = Str.ofString "not") = False := eq_false (by decide +kernel)
@[simp] theorem q_head_all : (Str.ofString "head" == Str.ofString "all") = false := by decide +kernel
@[simp] theorem q'_head_all : (Str.ofString "head" = Str.ofString "all") = False := eq_false (by decide +kernel)
@[simp] theorem q_head_any : (Str.ofString "head" == Str.ofString "any") = false := by decide +kernel
@[simp] theorem q'_head_any : (Str.ofString "head" = Str.ofString "any") = False := eq_false (by decide +kernel)
@[simp] theorem q_body_head : (Str.ofString "body" == Str.ofString "head") = false := by decide +kernel
@[simp] theorem q'_body_head : (Str.ofString "body" = Str.ofString "head") = False := eq_false (by decide +kernel)
@[simp] theorem q_body_word : (Str.ofString "body" == Str.ofString "word") = false := by decide +kernel
@[simp] theorem q'_body_word : (Str.ofString "body" = Str.ofString "word") = False := eq_false (by decide +kernel)
@[simp] theorem q_body_starts : (Str.ofString "body" == Str.ofString "starts") = false := by decide +kernel
@[simp] theorem q'_body_starts : (Str.ofString "body" = Str.ofString "starts") = False := eq_false (by decide +kernel)
@[simp] theorem q_body_row : (Str.ofString "body" == Str.ofString "row") = false := by decide +kernel
@[simp] theorem q'_body_row : (Str.ofString "body" = Str.ofString "row") = False := eq_false (by decide +kernel)
@[simp] theorem q_body_near : (Str.ofString "body" == Str.ofString "near") = false := by decide +kernel
@[simp] theorem q'_body_near : (Str.ofString "body" = Str.ofString "near") = False := eq_false (by decide +kernel)
@[simp] theorem q_body_not : (Str.ofString "body" == Str.ofString "not") = false := by decide +kernel
@[simp] theorem q'_body_not : (Str.ofString "body" = Str.ofString "not") = False := eq_false (by decide +kernel)
@[simp] theorem q_body_all : (Str.ofString "body" == Str.ofString "all") = false := by decide +kernel
@[simp] theorem q'_body_all : (Str.ofString "body" = Str.ofString "all") = False := eq_false (by decide +kernel)
@[simp] theorem q_body_any : (Str.ofString "body" == Str.ofString "any") = false := by decide +kernel
@[simp] theorem q'_body_any : (Str.ofString "body" = Str.ofString "any") = False := eq_false (by decide +kernel)
def Fld (f : Str) : Prop := f = "head" ∨ f = "body" ∨ f = "any"
inductive At : D → Prop
  | word {f w : Str} : Fld f → Wd w 1 12 → At (.tuple [.str "word", .str f, .str w])
  | starts {f w : Str} : Fld f → Wd w 1 6 → At (.tuple [.str "starts", .str f, .str w])
  | row {f : Str} {l : List Str} : Fld f → 2 ≤ l.length → l.length ≤ 4 → (∀ w ∈ l, Wd w 1 12) → At (.tuple [.str "row", .str f, .tuple (l.map .str)])
  | near {f a b : Str} {n : Int} : Fld f → Wd a 1 12 → Wd b 1 12 → 1 ≤ n → n ≤ 6 → At (.tuple [.str "near", .str f, .str a, .str b, .int n])
theorem pick_ex {j : D} {l : List Str} (hj : IsJar j) (h0 : 0 < l.length) (h1 : l.length ≤ 1000) : ∃ w j', F_law_any [.p j, .s (.list (l.map .str))] = some (.s (.str w), [.p j', .un]) ∧ w ∈ l ∧ IsJar j' := by
  obtain ⟨d, j', e, hd, hj'⟩ := any_ex (ds := l.map PyData.str) hj (by rw [List.length_map]; exact h0) (by rw [List.length_map]; omega)
  obtain ⟨w, hw, rfl⟩ := List.mem_map.mp hd
  exact ⟨w, j', e, hw, hj'⟩
theorem lens {w : Str} {lo hi : Nat} (h : Wd w lo hi) : lo ≤ w.length ∧ w.length ≤ hi := by
  rw [len_list]; exact h.sz
theorem strs_of {P : Str → Prop} : ∀ {ys : List D}, (∀ y ∈ ys, ∃ w, y = .str w ∧ P w) → ∃ ws : List Str, ys = ws.map .str ∧ (∀ w ∈ ws, P w) ∧ ws.length = ys.length
  | [], _ => ⟨[], rfl, (fun c h => by cases h), rfl⟩
  | y :: ys, h => by
    obtain ⟨w, rfl, hw⟩ := h y (by simp)
    obtain ⟨ws, rfl, h2, h3⟩ := strs_of (ys := ys) fun y hy => h y (List.mem_cons_of_mem _ hy)
    refine ⟨w :: ws, rfl, fun d hd => ?_, by simp⟩
    rcases List.mem_cons.mp hd with rfl | hd
    · exact hw
    · exact h2 d hd
theorem wd_cut6 {w : Str} {n : Int} (h : Wd w 1 12) (h0 : 0 ≤ n) (h1 : n < 6) : Wd (L2.cutS w none (some (1 + n))) 1 6 := by
  have e : (1 + n : Int) = ((n.toNat + 1 : Nat) : Int) := by omega
  have sw := h.sz
  rw [e]
  refine wd_of ?_ ?_ fun c hc => ?_
  · rw [cut_list, List.length_take]; omega
  · rw [cut_list, List.length_take]; omega
  · rw [cut_list] at hc
    exact h.sg c (List.mem_of_mem_take hc)
theorem atom_ex {j : D} {l : List Str} (hj : IsJar j) (h0 : 0 < l.length) (h1 : l.length ≤ 1000) (hl : ∀ w ∈ l, Wd w 1 12) : ∃ d j', F_law_atom [.p j, .s (ws l)] = some (.s d, [.p j', .un]) ∧ At d ∧ IsJar j' := by
  obtain ⟨k, j1, e1, hk, hj1⟩ := any_ex (ds := [.str "word", .str "word", .str "starts", .str "row", .str "near"]) hj (by simp) (by simp)
  obtain ⟨f', j2, e2, hf, hj2⟩ := any_ex (ds := [.str "head", .str "body", .str "any"]) hj1 (by simp) (by simp)
  have hf' : ∃ f, Fld f ∧ f' = .str f := by
    simp only [List.mem_cons, List.not_mem_nil, or_false] at hf
    rcases hf with rfl | rfl | rfl
    · exact ⟨_, .inl rfl, rfl⟩
    · exact ⟨_, .inr (.inl rfl), rfl⟩
    · exact ⟨_, .inr (.inr rfl), rfl⟩
  obtain ⟨f, hF, rfl⟩ := hf'
  have a1 : b_law_atom_1 [.p j, .s (ws l), .un, .un, .un, .un] = some (.nx, [.p j2, .s (ws l), .s k, .s (.str f), .un, .un]) := by
    rw [b_law_atom_1_def]
    simp [e1, e2, sizeLine_eq]
  have key : ∃ d j' ρ', F_law_atom [.p j, .s (ws l)] = some (.s d, [.p j', .un]) ∧ At d ∧ IsJar j' ∧ ρ' = () := by
    simp only [List.mem_cons, List.not_mem_nil, or_false] at hk
    have hk : k = .str "word" ∨ k = .str "starts" ∨ k = .str "row" ∨ k = .str "near" := by
      rcases hk with h | h | h | h | h
      · exact .inl h
      · exact .inl h
      · exact .inr (.inl h)
      · exact .inr (.inr (.inl h))
      · exact .inr (.inr (.inr h))
    obtain ⟨w, j3, e3, hw, hj3⟩ := pick_ex hj2 h0 h1
    rcases hk with rfl | rfl | rfl | rfl
    · refine ⟨_, j3, (), ?_, .word hF (hl w hw), hj3, rfl⟩
      rw [F_law_atom_def]
      refine fnF_rt (ρ' := [.p j3, .s (ws l), .s (.str "word"), .s (.str f), .un, .un]) ?_ (by simp [maskP, range2])
      rw [b_law_atom_def]
      simp [a1, b_law_atom_2_def, eqD, eqB, sc2, e3, ws, sizeLine_eq]
    · have sw := lens (hl w hw)
      obtain ⟨n, j4, e4, n0, n1, hj4⟩ := deal_ex (m := min2 w.length 6) hj3 (by simp [min2]; split <;> omega) (by simp [min2]; split <;> omega)
      refine ⟨_, j4, (), ?_, .starts hF (w := L2.cutS w none (some (1 + n))) ?_, hj4, rfl⟩
      · rw [F_law_atom_def]
        refine fnF_rt (ρ' := [.p j4, .s (ws l), .s (.str "starts"), .s (.str f), .s (.str w), .un]) ?_ (by simp [maskP, range2])
        rw [b_law_atom_def]
        have z : w.length ≤ 16777216 := by omega
        simp [a1, b_law_atom_2_def, b_law_atom_3_def, b_law_atom_3a_1_def, b_law_atom_3a_2_def, eqD, eqB, sc2, e3, ws, sizeLine_eq, z, lenD, minD, e4, addD, sliceD]
      · exact wd_cut6 (hl w hw) n0 (by simp [min2] at n1; split at n1 <;> omega)
    · clear e3 hj3 j3
      obtain ⟨m', j3, e3, hm, hj3⟩ := any_ex (ds := [.int 0, .int 0, .int 1, .int 2]) hj2 (by simp) (by simp)
      have hm : ∃ m : Nat, m ≤ 2 ∧ m' = .int m := by
        simp only [List.mem_cons, List.not_mem_nil, or_false] at hm
        rcases hm with rfl | rfl | rfl | rfl
        · exact ⟨0, by omega, rfl⟩
        · exact ⟨0, by omega, rfl⟩
        · exact ⟨1, by omega, rfl⟩
        · exact ⟨2, by omega, rfl⟩
      obtain ⟨m, m2, rfl⟩ := hm
      obtain ⟨ys, _, e4, ⟨j4, hj4, rfl⟩, len, st⟩ := lcF_inv (I := fun ρ => ∃ j, IsJar j ∧ ρ = [.p j, .s (ws l), .s (.str "row"), .s (.str f), .un, .un]) (P := fun y => ∃ w, y = .str w ∧ Wd w 1 12) (g := put 5) (ft := fYes)
        (fe := vf (fCall 2 F_law_any [] (aB 0 (aS (fVar 1) aNil)))) (vs := [5]) (ds := rngD 0 (2 + m)) (acc := []) (ρ := [.p j3, .s (ws l), .s (.str "row"), .s (.str f), .un, .un]) (by
          rintro d _ _ ⟨j, hj, rfl⟩
          obtain ⟨w, j', e, hw, hj'⟩ := pick_ex hj h0 h1
          refine ⟨.str w, _, ?_, ⟨j', hj', rfl⟩, w, rfl, hl w hw⟩
          simp [lcOne, ws, e]) (by rw [rngD_len]; exact line_of (by rw [List.length_nil]; omega)) ⟨j3, hj3, rfl⟩
      obtain ⟨vs, rfl, vs1, vs2⟩ := strs_of st
      rw [rngD_len] at len
      rw [len] at vs2
      refine ⟨_, j4, (), ?_, .row hF (l := vs) (by omega) (by omega) vs1, hj4, rfl⟩
      have in_ := in62_nat (n := 2 + m) (by omega)
      rw [F_law_atom_def]
      refine fnF_rt (ρ' := [.p j4, .s (ws l), .s (.str "row"), .s (.str f), .un, .un]) ?_ (by simp [maskP, range2])
      rw [b_law_atom_def]
      have e0 : (2 : Int) + (m : Int) = ((2 + m : Nat) : Int) := by omega
      rw [← e0] at in_
      have e00 : ((2 : Int) + (m : Int)).toNat = 2 + m := by omega
      simp [ws] at e4
      simp [a1, b_law_atom_2_def, b_law_atom_3_def, b_law_atom_4_def, eqD, eqB, sc2, e3, ws, sizeLine_eq, addD, in_, e00, e4, tupleD]
    · obtain ⟨v, j4, e4, hv, hj4⟩ := pick_ex hj3 h0 h1
      obtain ⟨n, j5, e5, n0, n1, hj5⟩ := deal_ex (m := 6) hj4 (by omega) (by omega)
      refine ⟨_, j5, (), ?_, .near hF (hl w hw) (hl v hv) (n := 1 + n) (by omega) (by omega), hj5, rfl⟩
      rw [F_law_atom_def]
      refine fnF_rt (ρ' := [.p j5, .s (ws l), .s (.str "near"), .s (.str f), .un, .un]) ?_ (by simp [maskP, range2])
      rw [b_law_atom_def]
      simp [a1, b_law_atom_2_def, b_law_atom_3_def, b_law_atom_4_def, b_law_atom_5_def, eqD, eqB, sc2, e3, ws, sizeLine_eq, addD, e4, e5]
  obtain ⟨d, j', _, h⟩ := key
  exact ⟨d, j', h.1, h.2.1, h.2.2.1⟩
end K26
/-! k22, plain: questions. -/
namespace K26
open PySem Pu
open PySem.Spec
/-- a question with its atoms, its open atoms and its number of nodes -/
structure QI where
  d : D
  a : List D
  o : List D
  n : Nat
abbrev dsQ (ps : List QI) : List D := ps.map (·.d)
def sumN (ps : List QI) : Nat := (ps.map (·.n)).sum
def QP : Nat → QI → Prop
  | 0, _ => False
  | k + 1, q => (At q.d ∧ q.a = [q.d] ∧ q.o = [q.d] ∧ q.n = 1) ∨
      (∃ p, QP k p ∧ q.d = .tuple [.str "not", p.d] ∧ q.a = p.a ∧ q.o = [] ∧ q.n = 1 + p.n) ∨
      (∃ (w : Str) (ps : List QI), (w = "all" ∨ w = "any") ∧ (∀ p ∈ ps, QP k p) ∧ 1 ≤ ps.length ∧ ps.length ≤ 6 ∧ q.d = .tuple [.str w, .tuple (dsQ ps)] ∧ q.a = ps.flatMap (·.a) ∧ q.o = ps.flatMap (·.o) ∧ q.n = 1 + sumN ps)
theorem QP.up : ∀ {k q}, QP k q → QP (k + 1) q
  | 0, _, h => h.elim
  | k + 1, q, h => by
    rcases h with h | ⟨p, hp, h⟩ | ⟨w, ps, hw, hp, h⟩
    · exact .inl h
    · exact .inr (.inl ⟨p, hp.up, h⟩)
    · exact .inr (.inr ⟨w, ps, hw, fun p h => (hp p h).up, h⟩)
theorem QP.mono {k m : Nat} {q : QI} (h : QP k q) (hm : k ≤ m) : QP m q := by
  induction hm with
  | refl => exact h
  | step _ ih => exact ih.up
theorem rng_get {n i : Nat} {d : D} (h : (rngD 0 n)[i]? = some d) : d = .int i ∧ i < n := by
  unfold rngD at h
  rw [List.getElem?_map] at h
  have hi : i < n := by
    cases q : (List.range n)[i]? with
    | none => rw [q] at h; cases h
    | some z => have := (List.getElem?_eq_some_iff.mp q).1; simpa using this
  rw [List.getElem?_range hi] at h
  simp at h
  exact ⟨h.symm, hi⟩
theorem sumN_app (ps : List QI) (q : QI) : sumN (ps ++ [q]) = sumN ps + q.n := by
  simp [sumN]
def sumA (ps : List QI) : Nat := (ps.map (·.a.length)).sum
theorem sumA_app (ps : List QI) (q : QI) : sumA (ps ++ [q]) = sumA ps + q.a.length := by
  simp [sumA]
theorem sumA_len (ps : List QI) : (ps.flatMap (·.a)).length = sumA ps := by
  simp [sumA, List.length_flatMap]
abbrev lf (x y : Int) : D := .list [.int x, .int y]
section
variable {Fs : FF} {j : D} {l : List Str} {i x y w : Int}
theorem g3_leaf {t5 t6 : Sl} (hj : IsJar j) (h0 : 0 < l.length) (h1 : l.length ≤ 1000) (hl : ∀ w ∈ l, Wd w 1 12) (h : i = 1 ∨ x < 2 ∨ y < 2 ∨ w = 0) :
    ∃ d j', b_law_question_3 Fs [.p j, .s (ws l), .s (.int i), .p (lf x y), .s (.int w), t5, t6] = some (.rt (.s d), [.p j', .s (ws l), .s (.int i), .p (lf x (y - 1)), .s (.int w), t5, t6]) ∧ At d ∧ IsJar j' := by
  obtain ⟨d, j', e, hd, hj'⟩ := atom_ex hj h0 h1 hl
  refine ⟨d, j', ?_, hd, hj'⟩
  rw [b_law_question_3_def, b_law_question_3a_1_def, b_law_question_3a_2_def]
  by_cases a1 : i = 1
  · subst a1
    simp [eqD, eqB, sc2, lf, ixD, L2.atI, L2.ixN, subD, e]
  · by_cases a2 : x < 2
    · simp [eqD, eqB, sc2, lf, ixD, L2.atI, L2.ixN, subD, e, a1, a2, ltD, ordD, boolD]
    · by_cases a3 : y < 2
      · simp [eqD, eqB, sc2, lf, ixD, L2.atI, L2.ixN, subD, e, a1, a2, a3, ltD, ordD, boolD]
      · have a4 : w = 0 := by omega
        subst a4
        simp [eqD, eqB, sc2, lf, ixD, L2.atI, L2.ixN, subD, e, a1, a2, a3, ltD, ordD, boolD]
theorem g3_on {t5 t6 : Sl} (h : ¬ (i = 1 ∨ x < 2 ∨ y < 2 ∨ w = 0)) :
    b_law_question_3 Fs [.p j, .s (ws l), .s (.int i), .p (lf x y), .s (.int w), t5, t6] = some (.nx, [.p j, .s (ws l), .s (.int i), .p (lf x y), .s (.int w), t5, t6]) := by
  have a1 : ¬ i = 1 := by omega
  have a2 : ¬ x < 2 := by omega
  have a3 : ¬ y < 2 := by omega
  have a4 : (w == 0) = false := by simp; omega
  have a5 : (i == 1) = false := by simp; omega
  rw [b_law_question_3_def]
  simp [a5, eqD, eqB, sc2, lf, ixD, L2.atI, L2.ixN, subD, a1, a2, a3, a4, ltD, ordD, boolD]
end
def Asks (F : FF) (L : Nat) : Prop := ∀ (j : D) (l : List Str) (i x y : Int), IsJar j → 0 < l.length → l.length ≤ 1000 → (∀ w ∈ l, Wd w 1 12) → i = L → 1 ≤ x → 1 ≤ y →
  ∃ q j' x' y', F [.p j, .s (ws l), .s (.int i), .p (lf x y)] = some (.s q.d, [.p j', .un, .un, .p (lf x' y')]) ∧ QP L q ∧ IsJar j' ∧ x' = x - q.n ∧ y' = y - q.a.length ∧ 0 ≤ x' ∧ 0 ≤ y'
theorem asks {L : Nat} : ∀ {m : Nat}, 1 ≤ L → L ≤ m → Asks (F_law_question m) L := by
  induction L with
  | zero => intro m h; omega
  | succ L ih =>
    intro m hL hm
    obtain ⟨m, rfl⟩ : ∃ k, m = k + 1 := ⟨m - 1, by omega⟩
    intro j l i x y hj h0 h1 hl hi hx hy
    obtain ⟨wy, j1, e1, w0, w5, hj1⟩ := deal_ex (m := 5) hj (by decide) (by decide)
    have s1 : b_law_question_1 (F_law_question m) [.p j, .s (ws l), .s (.int i), .p (lf x y), .un, .un, .un] = some (.nx, [.p j, .s (ws l), .s (.int i), .p (lf (x - 1) y), .un, .un, .un]) := by
      rw [b_law_question_1_def]
      simp [lf, ixD, L2.atI, L2.ixN, subD]
    have s2 : b_law_question_2 (F_law_question m) [.p j, .s (ws l), .s (.int i), .p (lf (x - 1) y), .un, .un, .un] = some (.nx, [.p j1, .s (ws l), .s (.int i), .p (lf (x - 1) y), .s (.int wy), .un, .un]) := by
      rw [b_law_question_2_def]
      simp [e1]
    rw [F_law_question_def]
    by_cases leaf : i = 1 ∨ x - 1 < 2 ∨ y < 2 ∨ wy = 0
    · obtain ⟨d, j2, e2, hd, hj2⟩ := g3_leaf (Fs := F_law_question m) (t5 := .un) (t6 := .un) hj1 h0 h1 hl leaf
      refine ⟨⟨d, [d], [d], 1⟩, j2, x - 1, y - 1, fnF_rt (ρ' := [.p j2, .s (ws l), .s (.int i), .p (lf (x - 1) (y - 1)), .s (.int wy), .un, .un]) ?_ (by simp [maskP, range4]), .inl ⟨hd, rfl, rfl, rfl⟩, hj2, by simp, by simp, by omega, by omega⟩
      rw [b_law_question_def]
      simp [s1, s2, e2]
    · have s3 := g3_on (Fs := F_law_question m) (j := j1) (l := l) (t5 := .un) (t6 := .un) leaf
      have ask : Asks (F_law_question m) L := ih (by omega) (by omega)
      by_cases hw : wy = 1
      · subst hw
        obtain ⟨q, j2, x', y', e2, hq, hj2, hx', hy', px, py⟩ := ask j1 l (i - 1) (x - 1) y hj1 h0 h1 hl (by omega) (by omega) hy
        refine ⟨⟨.tuple [.str "not", q.d], q.a, [], 1 + q.n⟩, j2, x', y', fnF_rt (ρ' := [.p j2, .s (ws l), .s (.int i), .p (lf x' y'), .s (.int 1), .un, .un]) ?_ (by simp [maskP, range4]), .inr (.inl ⟨q, hq, rfl, rfl, rfl, rfl⟩), hj2, by simp; omega, by simp; omega, px, py⟩
        rw [b_law_question_def, b_law_question_4_def]
        simp [s1, s2, s3, eqD, eqB, sc2, subD, e2, sizeLine_eq]
      · obtain ⟨n', j2, e2, n0, n1, hj2⟩ := deal_ex (m := 4) hj1 (by decide) (by decide)
        obtain ⟨n, rfl⟩ : ∃ n : Nat, n' = n := ⟨n'.toNat, by omega⟩
        obtain ⟨ρ', e3, j3, ps, x3, y3, t, rfl, hj3, hps, hx3, hy3, px3, py3, up3, at0, at1, ht⟩ := loopF_inv (g := put 6) (b := b_law_question_6f_1 (F_law_question m))
          (I := fun k ρ => ∃ (j : D) (ps : List QI) (x3 y3 : Int) (t : Sl), ρ = [.p j, .s (ws l), .s (.int i), .p (lf x3 y3), .s (.int wy), .o (.list (dsQ ps)), t] ∧ IsJar j ∧ (∀ p ∈ ps, QP L p) ∧ x3 = x - 1 - sumN ps ∧ y3 = y - sumA ps ∧ 0 ≤ x3 ∧ 0 ≤ y3 ∧ ps.length ≤ k ∧ (k = 0 → 1 ≤ x3 ∧ 1 ≤ y3) ∧ (0 < k → 1 ≤ ps.length) ∧ (t = .un ∨ ∃ d, t = .s d))
          (ds := rngD 0 (1 + n)) (ρ := [.p j2, .s (ws l), .s (.int i), .p (lf (x - 1) y), .s (.int wy), .o (.list []), .un]) 0 (by
            rintro k d _ hd ⟨j, ps, x3, y3, t, rfl, hj, hps, hx3, hy3, px, py, up, at0, at1, ht⟩
            obtain ⟨rfl, hk⟩ := rng_get hd
            by_cases go : k = 0 ∨ (x3 > 1 ∧ y3 > 1)
            · obtain ⟨q, j2, x', y', e2, hq, hj2, hx', hy', px', py'⟩ := ask j l (i - 1) x3 y3 hj h0 h1 hl (by omega) (by omega) (by omega)
              refine ⟨_, ?_, j2, ps ++ [q], x', y', .s (.int k), rfl, hj2, ?_, by rw [sumN_app]; omega, by rw [sumA_app]; omega, px', py', by simp; omega, by omega, by simp, .inr ⟨_, rfl⟩⟩
              · rw [b_law_question_6f_1_def]
                have z : ps.length < 16777216 := by omega
                by_cases k0 : k = 0
                · subst k0
                  rcases ht with rfl | ⟨_, rfl⟩ <;> simp [turnF, eqD, eqB, sc2, subD, e2, apD, sizeLine_eq, z]
                · have g : x3 > 1 ∧ y3 > 1 := by omega
                  have k0' : ¬ (k : Int) = 0 := by omega
                  rcases ht with rfl | ⟨_, rfl⟩ <;> simp [turnF, eqD, eqB, sc2, subD, e2, apD, sizeLine_eq, z, k0, lf, ixD, L2.atI, L2.ixN, gtD, ordD, boolD, g]
              · intro p hp
                rcases List.mem_append.mp hp with hp | hp
                · exact hps p hp
                · rw [List.mem_singleton.mp hp]; exact hq
            · have k0 : ¬ k = 0 := by omega
              refine ⟨_, ?_, j, ps, x3, y3, .s (.int k), rfl, hj, hps, hx3, hy3, px, py, by omega, by omega, by omega, .inr ⟨_, rfl⟩⟩
              rw [b_law_question_6f_1_def]
              by_cases g : x3 > 1
              · have g2 : ¬ y3 > 1 := by omega
                rcases ht with rfl | ⟨_, rfl⟩ <;> simp [turnF, eqD, eqB, sc2, subD, k0, lf, ixD, L2.atI, L2.ixN, gtD, ordD, boolD, g, g2]
              · rcases ht with rfl | ⟨_, rfl⟩ <;> simp [turnF, eqD, eqB, sc2, subD, k0, lf, ixD, L2.atI, L2.ixN, gtD, ordD, boolD, g])
          ⟨j2, [], x - 1, y, .un, rfl, hj2, (fun p h => by cases h), by simp [sumN], by simp [sumA], by omega, by omega, by simp, by omega, by omega, .inl rfl⟩
        rw [rngD_len] at up3 at1
        obtain ⟨w', j4, e4, hw', hj4⟩ := any_ex (ds := [.str "all", .str "any"]) hj3 (by simp) (by simp)
        have hw' : ∃ w : Str, (w = "all" ∨ w = "any") ∧ w' = .str w := by
          simp only [List.mem_cons, List.not_mem_nil, or_false] at hw'
          rcases hw' with rfl | rfl
          · exact ⟨_, .inl rfl, rfl⟩
          · exact ⟨_, .inr rfl, rfl⟩
        obtain ⟨w, hW, rfl⟩ := hw'
        refine ⟨⟨.tuple [.str w, .tuple (dsQ ps)], ps.flatMap (·.a), ps.flatMap (·.o), 1 + sumN ps⟩, j4, x3, y3, fnF_rt (ρ' := [.p j4, .s (ws l), .s (.int i), .p (lf x3 y3), .s (.int wy), .o (.list (dsQ ps)), t]) ?_ (by simp [maskP, range4]), .inr (.inr ⟨w, ps, hW, hps, at1 (by omega), by omega, rfl, rfl, rfl, rfl⟩), hj4, by simp; omega, by simp only [sumA_len]; omega, px3, py3⟩
        have in_ := in62_nat (n := 1 + n) (by omega)
        have hwb : (wy == 1) = false := by simp; omega
        have e0 : (1 : Int) + (n : Int) = ((1 + n : Nat) : Int) := by omega
        have e00 : ((1 : Int) + (n : Int)).toNat = 1 + n := by omega
        rw [← e0] at in_
        rw [b_law_question_def, b_law_question_4_def, b_law_question_5_def, b_law_question_6_def, b_law_question_7_def]
        simp [s1, s2, s3, eqD, eqB, sc2, hwb, e2, addD, in_, e00, e3, e4, tupleD, sizeLine_eq]
end K26
/-! k22, plain: what is asked. -/
namespace K26
open PySem Pu
open PySem.Spec
structure QF (q : QI) : Prop where
  p : QP 4 q
  n : q.n ≤ 12
  a : q.a.length ≤ 6
def at_ (d : D) : QI := ⟨d, [d], [d], 1⟩
theorem at_ok {d : D} (h : At d) (k : Nat) : QP (k + 1) (at_ d) := .inl ⟨h, rfl, rfl, rfl⟩
def neg_ (q : QI) : QI := ⟨.tuple [.str "not", q.d], q.a, [], 1 + q.n⟩
theorem neg_ok {q : QI} {k : Nat} (h : QP k q) : QP (k + 1) (neg_ q) := .inr (.inl ⟨q, h, rfl, rfl, rfl, rfl⟩)
def of_ (w : Str) (ps : List QI) : QI := ⟨.tuple [.str w, .tuple (dsQ ps)], ps.flatMap (·.a), ps.flatMap (·.o), 1 + sumN ps⟩
theorem of_ok {w : Str} {ps : List QI} {k : Nat} (hw : w = "all" ∨ w = "any") (h : ∀ p ∈ ps, QP k p) (h1 : 1 ≤ ps.length) (h6 : ps.length ≤ 6) : QP (k + 1) (of_ w ps) :=
  .inr (.inr ⟨w, ps, hw, h, h1, h6, rfl, rfl, rfl, rfl⟩)
theorem asked_ex {j : D} {l : List Str} (hj : IsJar j) (h0 : 0 < l.length) (h1 : l.length ≤ 1000) (hl : ∀ w ∈ l, Wd w 1 12) :
    ∃ q j', F_law_asked [.p j, .s (ws l)] = some (.s q.d, [.p j', .un]) ∧ QF q ∧ IsJar j' := by
  obtain ⟨t, j1, e1, ht, hj1⟩ := any_ex (ds := [.tuple [.int 1, .int 1], .tuple [.int 4, .int 3], .tuple [.int 7, .int 4], .tuple [.int 12, .int 6]]) hj (by simp) (by simp)
  have ht : ∃ x y : Int, t = .tuple [.int x, .int y] ∧ 1 ≤ x ∧ x ≤ 12 ∧ 1 ≤ y ∧ y ≤ 6 := by
    simp only [List.mem_cons, List.not_mem_nil, or_false] at ht
    rcases ht with rfl | rfl | rfl | rfl
    · exact ⟨_, _, rfl, by decide, by decide, by decide, by decide⟩
    · exact ⟨_, _, rfl, by decide, by decide, by decide, by decide⟩
    · exact ⟨_, _, rfl, by decide, by decide, by decide, by decide⟩
    · exact ⟨_, _, rfl, by decide, by decide, by decide, by decide⟩
  obtain ⟨x, y, rfl, x1, x2, y1, y2⟩ := ht
  obtain ⟨q, j2, x', y', e2, hq, hj2, hx, hy, px, py⟩ := asks (L := 4) (m := 5) (by decide) (by decide) j1 l 4 x y hj1 h0 h1 hl (by simp) x1 y1
  refine ⟨q, j2, ?_, ⟨hq, by omega, by omega⟩, hj2⟩
  rw [F_law_asked_def]
  refine fnF_rt (ρ' := [.p j2, .s (ws l), .s (.int x), .s (.int y)]) ?_ (by simp [maskP, range2])
  rw [b_law_asked_def, b_law_asked_1_def, b_law_asked_2_def]
  simp only [lf] at e2
  simp [sizeLine_eq, e1, e2]
end K26
/-! k22, plain: the program on atoms. -/
namespace K26
open PySem Pu
open PySem.Spec
theorem made {w : Str} {lo hi : Nat} (h : Wd w lo hi) (hh : hi ≤ 1000) : F_is_made_of [.s (.str w), .s (.str AL), .s (.int lo), .s (.int hi)] = some (.s (.bool true), [.un, .un, .un, .un]) := by
  have sw := lens h
  have z : w.length ≤ 16777216 := by omega
  have e : lcF (put 4) fYes (fOp inD (wNm 4) (wNm 1)) [4] (w.cps.toList.map fun c => (.str ⟨#[c]⟩ : D)) [] [.s (.str w), .s (.str AL), .s (.int lo), .s (.int hi), .un] = some ([] ++ w.cps.toList.map fun _ => (.bool true : D), [.s (.str w), .s (.str AL), .s (.int lo), .s (.int hi), .un]) :=
    lcF_maps (fun c hc => by
      have m : inSt ⟨#[c]⟩ AL = true := by rw [inSt_one]; exact decide_eq_true (h.sg c hc)
      simp [lcOne, inD, inB, m]) (line_of (by rw [List.length_nil, ← len_list]; omega))
  rw [F_is_made_of_def]
  refine fnF_rt (ρ' := [.s (.str w), .s (.str AL), .s (.int lo), .s (.int hi), .un]) ?_ (by simp [maskP, range4])
  rw [b_is_made_of_def, b_is_made_of_1_def, b_is_made_of_2_def]
  have a1 : (lo : Int) ≤ (w.length : Int) := by omega
  have a2 : (w.length : Int) ≤ (hi : Int) := by omega
  simp at e
  simp [isiD, tru, L2.kitB, tyD, lenD, sizeLine_eq, z, leD', ordD, boolD, a1, a2, walkD, e, allD, bools_const, all_true]
theorem AL_split : Str.ofString "abcdefghijklmnopqrstuvwxyz" ++ Str.ofString "0123456789" = AL := by rw [← AL_def]; decide +kernel
theorem lets_len : (Str.ofString "abcdefghijklmnopqrstuvwxyz").length + (Str.ofString "0123456789").length ≤ 16777216 := by decide +kernel
theorem named {w : Str} (h : Wd w 1 12) : F_is_named [.s (.str w)] = some (.s (.bool true), [.un]) := by
  have e := made h (by decide)
  rw [F_is_named_def]
  refine fnF_rt (ρ' := [.s (.str w)]) ?_ (by simp [maskP, range1])
  rw [b_is_named_def]
  have z := lets_len
  simp at e
  simp [addD, sizeLine_eq, z, AL_split, e]
theorem begins {w : Str} (h : Wd w 1 6) : F_is_begin [.s (.str w)] = some (.s (.bool true), [.un]) := by
  have e := made h (by decide)
  rw [F_is_begin_def]
  refine fnF_rt (ρ' := [.s (.str w)]) ?_ (by simp [maskP, range1])
  rw [b_is_begin_def]
  have z := lets_len
  simp at e
  simp [addD, sizeLine_eq, z, AL_split, e]
theorem terms {l : List Str} (h2 : 2 ≤ l.length) (h4 : l.length ≤ 4) (h : ∀ w ∈ l, Wd w 1 12) : F_are_terms [.s (.tuple (l.map .str))] = some (.s (.bool true), [.un]) := by
  have e : lcF (put 1) fYes (vf (fCall 1 F_is_named [] (aS (fVar 1) aNil))) [1] (l.map .str) [] [.s (.tuple (l.map .str)), .un] = some ([] ++ l.map fun _ => (.bool true : D), [.s (.tuple (l.map .str)), .un]) :=
    lcF_maps (fun c hc => by
      have m := named (h c hc)
      simp [lcOne, m]) (line_of (by rw [List.length_nil]; omega))
  rw [F_are_terms_def]
  refine fnF_rt (ρ' := [.s (.tuple (l.map .str)), .un]) ?_ (by simp [maskP, range1])
  rw [b_are_terms_def, b_are_terms_1_def, b_are_terms_2_def]
  have a1 : (2 : Int) ≤ (l.length : Int) := by omega
  have a2 : (l.length : Int) ≤ 4 := by omega
  have z : l.length ≤ 16777216 := by omega
  simp at e
  simp [isiD, tru, L2.kitB, tyD, lenD, sizeLine_eq, z, leD', ordD, boolD, a1, a2, walkD, e, allD, bools_const, all_true]
theorem int_bool (n : Int) : isiD "bool" (.int n) = some (.bool false) := by
  have e : L2.kitB "int" "bool" = some false := by decide +kernel
  simp only [isiD, tyD, e, Option.map]
theorem int_int (n : Int) : isiD "int" (.int n) = some (.bool true) := by
  have e : L2.kitB "int" "int" = some true := by decide +kernel
  simp only [isiD, tyD, e, Option.map]
theorem number {n : Int} (h1 : 1 ≤ n) (h6 : n ≤ 6) : F_is_number [.s (.int n), .s (.int 1), .s (.int 6)] = some (.s (.bool true), [.un, .un, .un]) := by
  have e : F_is_whole [.s (.int n)] = some (.s (.bool true), [.un]) := by
    rw [F_is_whole_def]
    refine fnF_rt (ρ' := [.s (.int n)]) ?_ (by simp [maskP, range1])
    rw [b_is_whole_def]
    simp [int_bool, int_int, tru]
  rw [F_is_number_def]
  refine fnF_rt (ρ' := [.s (.int n), .s (.int 1), .s (.int 6)]) ?_ (by simp [maskP, range3])
  rw [b_is_number_def, b_is_number_1_def, b_is_number_2_def]
  have a : ¬ n < 1 := by omega
  simp [e, tru, notND, isND, isNo, ltD, leD', ordD, boolD, a, h6]
theorem fld_in {f : Str} (h : Fld f) : notInD (.str f) (.tuple [.str "head", .str "body", .str "any"]) = some (.bool false) := by
  unfold notInD inB
  rcases h with rfl | rfl | rfl <;> simp [flatD]
theorem is_at {d : D} (h : At d) : F_is_atom [.s d] = some (.s (.bool true), [.un]) := by
  rw [F_is_atom_def]
  cases h with
  | @word f w hf hw =>
    have fi := fld_in hf
    refine fnF_rt (ρ' := [.s (.tuple [.str "word", .str f, .str w]), .s (.str "word"), .s (.str f)]) ?_ (by simp [maskP, range1])
    rw [b_is_atom_def, b_is_atom_1_def, b_is_atom_2_def, b_is_atom_3_def, b_is_atom_4_def, b_is_atom_5_def, b_is_atom_6_def]
    simp [isiD, tru, L2.kitB, tyD, lenD, sizeLine_eq, ltD, ordD, boolD, ixD, L2.atI, L2.ixN, fi, eqD, neD, eqB, sc2, named hw]
  | @starts f w hf hw =>
    have fi := fld_in hf
    refine fnF_rt (ρ' := [.s (.tuple [.str "starts", .str f, .str w]), .s (.str "starts"), .s (.str f)]) ?_ (by simp [maskP, range1])
    rw [b_is_atom_def, b_is_atom_1_def, b_is_atom_2_def, b_is_atom_3_def, b_is_atom_4_def, b_is_atom_5_def, b_is_atom_6_def, b_is_atom_7_def]
    simp [isiD, tru, L2.kitB, tyD, lenD, sizeLine_eq, ltD, ordD, boolD, ixD, L2.atI, L2.ixN, fi, eqD, neD, eqB, sc2, begins hw]
  | @row f l hf h2 h4 hw =>
    have fi := fld_in hf
    refine fnF_rt (ρ' := [.s (.tuple [.str "row", .str f, .tuple (l.map .str)]), .s (.str "row"), .s (.str f)]) ?_ (by simp [maskP, range1])
    rw [b_is_atom_def, b_is_atom_1_def, b_is_atom_2_def, b_is_atom_3_def, b_is_atom_4_def, b_is_atom_5_def, b_is_atom_6_def, b_is_atom_7_def, b_is_atom_8_def]
    simp [isiD, tru, L2.kitB, tyD, lenD, sizeLine_eq, ltD, ordD, boolD, ixD, L2.atI, L2.ixN, fi, eqD, neD, eqB, sc2, terms h2 h4 hw]
  | @near f a b n hf ha hb h1 h6 =>
    have fi := fld_in hf
    refine fnF_rt (ρ' := [.s (.tuple [.str "near", .str f, .str a, .str b, .int n]), .s (.str "near"), .s (.str f)]) ?_ (by simp [maskP, range1])
    rw [b_is_atom_def, b_is_atom_1_def, b_is_atom_2_def, b_is_atom_3_def, b_is_atom_4_def]
    simp [isiD, tru, L2.kitB, tyD, lenD, sizeLine_eq, ltD, ordD, boolD, ixD, L2.atI, L2.ixN, fi, eqD, neD, eqB, sc2, named ha, named hb, number h1 h6]
theorem no_at {x y : D} : F_is_atom [.s (.tuple [x, y])] = some (.s (.bool false), [.un]) := by
  rw [F_is_atom_def]
  refine fnF_rt (ρ' := [.s (.tuple [x, y]), .un, .un]) ?_ (by simp [maskP, range1])
  rw [b_is_atom_def, b_is_atom_1_def]
  simp [isiD, tru, L2.kitB, tyD, lenD, sizeLine_eq, ltD, ordD, boolD]
theorem in_not {e : D} : F_inside_of [.s (.tuple [.str "not", e])] = some (.s (.tuple [e]), [.un]) := by
  have t : F_is_tuple_of [.s (.tuple [.str "not", e]), .s (.int 2)] = some (.s (.bool true), [.un, .un]) := by
    rw [F_is_tuple_of_def]
    refine fnF_rt (ρ' := [.s (.tuple [.str "not", e]), .s (.int 2)]) ?_ (by simp [maskP, range2])
    rw [b_is_tuple_of_def]
    simp [isiD, tru, L2.kitB, tyD, lenD, sizeLine_eq, eqD, eqB, sc2]
  rw [F_inside_of_def]
  refine fnF_rt (ρ' := [.s (.tuple [.str "not", e]), .s (.str "not"), .s e]) ?_ (by simp [maskP, range1])
  rw [b_inside_of_def, b_inside_of_1_def, b_inside_of_2_def, b_inside_of_3_def]
  simp [t, isiD, tru, L2.kitB, tyD, lenD, sizeLine_eq, eqD, eqB, sc2, ixD, L2.atI, L2.ixN]
theorem in_of {w : Str} {ds : List D} (hw : w = "all" ∨ w = "any") (h1 : 1 ≤ ds.length) (h6 : ds.length ≤ 6) : F_inside_of [.s (.tuple [.str w, .tuple ds])] = some (.s (.tuple ds), [.un]) := by
  have t : F_is_tuple_of [.s (.tuple [.str w, .tuple ds]), .s (.int 2)] = some (.s (.bool true), [.un, .un]) := by
    rw [F_is_tuple_of_def]
    refine fnF_rt (ρ' := [.s (.tuple [.str w, .tuple ds]), .s (.int 2)]) ?_ (by simp [maskP, range2])
    rw [b_is_tuple_of_def]
    simp [isiD, tru, L2.kitB, tyD, lenD, sizeLine_eq, eqD, eqB, sc2]
  have wn : eqD (.str w) (.str "not") = some (.bool false) := by rcases hw with rfl | rfl <;> simp [eqD, eqB, sc2]
  have wi : notInD (.str w) (.tuple [.str "all", .str "any"]) = some (.bool false) := by
    unfold notInD inB
    rcases hw with rfl | rfl <;> simp [flatD]
  have a1 : (1 : Int) ≤ (ds.length : Int) := by omega
  have a2 : (ds.length : Int) ≤ 6 := by omega
  have z : ds.length ≤ 16777216 := by omega
  rw [F_inside_of_def]
  refine fnF_rt (ρ' := [.s (.tuple [.str w, .tuple ds]), .s (.str w), .s (.tuple ds)]) ?_ (by simp [maskP, range1])
  rw [b_inside_of_def, b_inside_of_1_def, b_inside_of_2_def, b_inside_of_3_def, b_inside_of_4_def, b_inside_of_5_def]
  simp [t, isiD, tru, L2.kitB, tyD, lenD, sizeLine_eq, wn, wi, ixD, L2.atI, L2.ixN, leD', ordD, boolD, a1, a2, z]
end K26
/-! k22, plain: the program on questions. -/
namespace K26
open PySem Pu
open PySem.Spec
theorem sum_cast (f : QI → Nat) (ps : List QI) : (ps.map fun p => ((f p : Nat) : Int)).sum = (((ps.map f).sum : Nat) : Int) := by
  induction ps with
  | nil => rfl
  | cons p ps ih => rw [List.map_cons, List.sum_cons, List.map_cons, List.sum_cons, ih]; omega
theorem any_no {α : Type} (ps : List α) : (ps.any fun _ => false) = false := by
  induction ps with
  | nil => rfl
  | cons p ps ih => rw [List.any_cons, ih]; rfl
def szD (p : QI) : D := .tuple [.int p.n, .int p.a.length]
theorem counts : ∀ {k m : Nat} {q : QI} {i : Int}, QP k q → k ≤ m → (k : Int) ≤ i → F_counted m [.s q.d, .s (.int i)] = some (.s (szD q), [.un, .un])
  | 0, _, _, _, h, _, _ => h.elim
  | k + 1, m, q, i, h, hm, hi => by
    obtain ⟨m, rfl⟩ : ∃ k, m = k + 1 := ⟨m - 1, by omega⟩
    have i0 : (i == 0) = false := by simp; omega
    have c1 : ∀ (t2 t3 t4 t5 t6 t7 t8 : Sl), b_counted_1 (F_counted m) [.s q.d, .s (.int i), t2, t3, t4, t5, t6, t7, t8] = some (.nx, [.s q.d, .s (.int i), t2, t3, t4, t5, t6, t7, t8]) := by
      intros
      rw [b_counted_1_def]
      simp [eqD, eqB, sc2, i0]
    rw [F_counted_def]
    rcases h with ⟨ha, e1, e2, e3⟩ | h
    · refine fnF_rt (ρ' := [.s q.d, .s (.int i), .un, .un, .un, .un, .un, .un, .un]) ?_ (by simp [maskP, range2])
      have A := is_at ha
      rw [b_counted_def, b_counted_2_def]
      simp [c1, A, tru, sizeLine_eq, szD, e1, e3]
    · have ex : ∃ ps : List QI, (∀ p ∈ ps, QP k p) ∧ ps.length ≤ 6 ∧ F_inside_of [.s q.d] = some (.s (.tuple (dsQ ps)), [.un]) ∧ F_is_atom [.s q.d] = some (.s (.bool false), [.un]) ∧ q.n = 1 + sumN ps ∧ q.a.length = sumA ps := by
        rcases h with ⟨p, hp, e1, e2, e3, e4⟩ | ⟨w, ps, hw, hp, h1, h6, e1, e2, e3, e4⟩
        · exact ⟨[p], by simpa using hp, by simp, by rw [e1]; exact in_not, by rw [e1]; exact no_at, by simp [e4, sumN], by simp [e2, sumA]⟩
        · exact ⟨ps, hp, h6, by rw [e1]; exact in_of hw (by simpa using h1) (by simpa using h6), by rw [e1]; exact no_at, e4, by rw [e2, sumA_len]⟩
      obtain ⟨ps, hp, h6, I, A, en, ea⟩ := ex
      have z6 : ps.length ≤ 16777216 := by omega
      have l1 : lcF (put 4) fYes (vf (fCall 2 (F_counted m) [] (aS (fVar 4) (aS (fOp subD (wNm 1) (wf (fC (.int 1)))) aNil)))) [4] (dsQ ps) [] [.s q.d, .s (.int i), .s (.tuple (dsQ ps)), .un, .un, .un, .un, .un, .un] = some ([] ++ ps.map szD, [.s q.d, .s (.int i), .s (.tuple (dsQ ps)), .un, .un, .un, .un, .un, .un]) :=
        lcF_maps (fun p h => by
          have e := counts (hp p h) (show k ≤ m by omega) (show (k : Int) ≤ i - 1 by omega)
          simp [lcOne, subD, e]) (line_of (by rw [List.length_nil]; omega))
      have l2 : lcF (put 5) fYes (fOp isND (wNm 5) (wf (fC .none))) [5] (ps.map szD) [] [.s q.d, .s (.int i), .s (.tuple (dsQ ps)), .s (.list (ps.map szD)), .un, .un, .un, .un, .un] = some ([] ++ ps.map fun _ => (.bool false : D), [.s q.d, .s (.int i), .s (.tuple (dsQ ps)), .s (.list (ps.map szD)), .un, .un, .un, .un, .un]) :=
        lcF_maps (fun p h => by simp [lcOne, isND, isNo, szD]) (line_of (by rw [List.length_nil]; omega))
      have l3 : lcF (puTup 2 (puCons (put 8) (puCons (put 6) puNil))) fYes (fVar 8) [8, 6] (ps.map szD) [] [.s q.d, .s (.int i), .s (.tuple (dsQ ps)), .s (.list (ps.map szD)), .un, .un, .un, .un, .un] = some ([] ++ ps.map fun p => (.int p.n : D), [.s q.d, .s (.int i), .s (.tuple (dsQ ps)), .s (.list (ps.map szD)), .un, .un, .un, .un, .un]) :=
        lcF_maps (fun p h => by simp [lcOne, szD]) (line_of (by rw [List.length_nil]; omega))
      have l4 : lcF (puTup 2 (puCons (put 6) (puCons (put 7) puNil))) fYes (fVar 7) [6, 7] (ps.map szD) [] [.s q.d, .s (.int i), .s (.tuple (dsQ ps)), .s (.list (ps.map szD)), .un, .un, .un, .un, .un] = some ([] ++ ps.map fun p => (.int p.a.length : D), [.s q.d, .s (.int i), .s (.tuple (dsQ ps)), .s (.list (ps.map szD)), .un, .un, .un, .un, .un]) :=
        lcF_maps (fun p h => by simp [lcOne, szD]) (line_of (by rw [List.length_nil]; omega))
      have s1 : (ps.map fun p => (p.n : Int)).sum = (sumN ps : Int) := sum_cast (·.n) ps
      have s2 : (ps.map fun p => (p.a.length : Int)).sum = (sumA ps : Int) := sum_cast (·.a.length) ps
      simp only [List.nil_append] at l1 l2 l3 l4
      refine fnF_rt (ρ' := [.s q.d, .s (.int i), .s (.tuple (dsQ ps)), .s (.list (ps.map szD)), .un, .un, .un, .un, .un]) ?_ (by simp [maskP, range2])
      rw [b_counted_def, b_counted_2_def, b_counted_3_def, b_counted_4_def, b_counted_5_def, b_counted_6_def, b_counted_7_def]
      simp only [dsQ] at l1 l2 l3 l4 I
      simp [c1, A, tru, I, isND, isNo, dsQ, walkD, l1, l2, anyD, bools_const, any_no, l3, l4, sumD, ints_fn, s1, s2, addD, sizeLine_eq, szD, en, ea]
end K26
/-! k22, plain: the atoms of a question, twice. -/
namespace K26
open PySem Pu
open PySem.Spec
theorem check {q : QI} (h : QF q) : F_check_question [.s q.d] = some (.s .none, [.un]) := by
  have c := counts (m := 4) (i := 4) h.p (by decide) (by decide)
  have n := h.n
  have a := h.a
  have b : F_is_question_by [.s q.d] = some (.s (.bool true), [.un]) := by
    rw [F_is_question_by_def]
    refine fnF_rt (ρ' := [.s q.d, .s (szD q)]) ?_ (by simp [maskP, range1])
    rw [b_is_question_by_def, b_is_question_by_1_def, b_is_question_by_2_def]
    have n' : (q.n : Int) ≤ 12 := by omega
    have a' : (q.a.length : Int) ≤ 6 := by omega
    simp only [szD] at c
    simp [c, notND, isNo, tru, ixD, L2.atI, L2.ixN, leD', ordD, boolD, n', a', szD]
  rw [F_check_question_def]
  refine fnF_nx (ρ' := [.s q.d]) ?_ (by simp [maskP, range1])
  rw [b_check_question_def, b_check_question_1_def]
  simp [b, tru]
theorem len_flat {α β : Type} (f : α → List β) {ps : List α} {p : α} (h : p ∈ ps) : (f p).length ≤ (ps.flatMap f).length := by
  induction ps with
  | nil => cases h
  | cons x ps ih =>
    rw [List.flatMap_cons, List.length_append]
    rcases List.mem_cons.mp h with rfl | h
    · omega
    · have := ih h; omega
theorem alls : ∀ {k m : Nat} {q : QI}, QP k q → k ≤ m → q.a.length ≤ 1000 → F_all_atoms m [.s q.d] = some (.o (.list q.a), [.un])
  | 0, _, _, h, _, _ => h.elim
  | k + 1, m, q, h, hm, hl => by
    obtain ⟨m, rfl⟩ : ∃ k, m = k + 1 := ⟨m - 1, by omega⟩
    rw [F_all_atoms_def]
    refine fnF_rt (ρ' := [.s q.d, .un, .un]) ?_ (by simp [maskP, range1])
    rw [b_all_atoms_def, b_all_atoms_1_def, b_all_atoms_2_def]
    rcases h with ⟨ha, e1, e2, e3⟩ | h
    · have A := is_at ha
      simp [A, tru, sizeLine_eq, e1]
    · have ex : ∃ ps : List QI, (∀ p ∈ ps, QP k p) ∧ F_inside_of [.s q.d] = some (.s (.tuple (dsQ ps)), [.un]) ∧ F_is_atom [.s q.d] = some (.s (.bool false), [.un]) ∧ q.a = ps.flatMap (·.a) := by
        rcases h with ⟨p, hp, e1, e2, e3, e4⟩ | ⟨w, ps, hw, hp, h1, h6, e1, e2, e3, e4⟩
        · exact ⟨[p], by simpa using hp, by rw [e1]; exact in_not, by rw [e1]; exact no_at, by simp [e2]⟩
        · exact ⟨ps, hp, by rw [e1]; exact in_of hw (by simpa using h1) (by simpa using h6), by rw [e1]; exact no_at, e2⟩
      obtain ⟨ps, hp, I, A, ea⟩ := ex
      rw [ea] at hl
      have l1 : lcF2 (put 1) fYes (iVal (vf (fCall 1 (F_all_atoms m) [] (aS (fVar 1) aNil)))) (put 2) fYes (fVar 2) [1, 2] [2] (dsQ ps) [] [.s q.d, .un, .un] = some ([] ++ ps.flatMap (·.a), [.s q.d, .un, .un]) :=
        lcF2_flat (ρA := fun p => [.s q.d, .s p.d, .un]) (fun p h => by
          have e := alls (hp p h) (show k ≤ m by omega) (Nat.le_trans (len_flat (·.a) h) hl)
          refine ⟨?_, ?_, ?_, fun y hy => ?_⟩
          · simp [lc2One, e, walkD]
          · simp
          · simp
          · simp [lcOne]) (line_of (by simp only [List.length_nil]; omega))
      simp only [dsQ, List.nil_append] at l1 I
      simp [A, tru, I, walkD, l1, ea]
/-- what an atom's first part is -/
theorem at_head {d : D} (h : At d) : ∃ w r, d = .tuple (.str w :: r) ∧ eqD (.str w) (.str "not") = some (.bool false) ∧ inD (.str w) (.tuple [.str "all", .str "any"]) = some (.bool false) := by
  cases h <;> exact ⟨_, _, rfl, by simp [eqD, eqB, sc2], by unfold inD inB; simp [flatD]⟩
section
variable {q : QI} {Fs : FF} {f : QI → List D}
theorem take_flat {ps : List QI} {i : Nat} {p : QI} (h : ps[i]? = some p) : (ps.take (i + 1)).flatMap f = (ps.take i).flatMap f ++ f p := by
  rw [List.take_add_one, h, List.flatMap_append]
  simp
theorem fold_loop {ps : List QI} (hf : ∀ p ∈ ps, Fs [.s p.d] = some (.o (.list (f p)), [.un])) (hl : (ps.flatMap f).length ≤ 1000) :
    ∃ t, loopF (put 2) (sAsg (fOpE addD (wNm 1) (wf (vf (fCall 1 Fs [] (aS (fVar 2) aNil))))) (put 1)) (dsQ ps) [.s q.d, .o (.list []), .un] = some (.nx, [.s q.d, .o (.list (ps.flatMap f)), t]) ∧ (t = .un ∨ ∃ d, t = .s d) := by
  obtain ⟨ρ', e, t, rfl, ht⟩ := loopF_inv (g := put 2) (b := sAsg (fOpE addD (wNm 1) (wf (vf (fCall 1 Fs [] (aS (fVar 2) aNil))))) (put 1)) (ds := dsQ ps)
    (I := fun i ρ => ∃ t, ρ = [.s q.d, .o (.list ((ps.take i).flatMap f)), t] ∧ (t = .un ∨ ∃ d, t = .s d)) (ρ := [.s q.d, .o (.list []), .un]) 0 (by
      rintro i d _ hd ⟨t, rfl, ht⟩
      rw [List.getElem?_map] at hd
      cases hp : ps[i]? with
      | none => rw [hp] at hd; cases hd
      | some p =>
        rw [hp] at hd
        cases hd
        have hm := List.mem_of_getElem? hp
        have e := hf p hm
        have z : ((ps.take i).flatMap f).length + (f p).length ≤ 16777216 := by
          have : ((ps.take (i + 1)).flatMap f).length ≤ (ps.flatMap f).length := by
            conv => rhs; rw [← List.take_append_drop (i + 1) ps, List.flatMap_append, List.length_append]
            omega
          rw [take_flat hp, List.length_append] at this
          omega
        refine ⟨_, ?_, .s p.d, by rw [Nat.zero_add, take_flat hp], .inr ⟨_, rfl⟩⟩
        rw [Nat.zero_add]
        generalize (ps.take i).flatMap f = X at z ⊢
        rcases ht with rfl | ⟨_, rfl⟩ <;> simp [turnF, e, addD, sizeLine_eq, z]) ⟨.un, by simp, .inl rfl⟩
  refine ⟨t, ?_, ht⟩
  rw [e]
  simp
end
theorem lalls : ∀ {k m : Nat} {q : QI}, QP k q → k ≤ m → q.a.length ≤ 1000 → F_law_atoms m [.s q.d] = some (.o (.list q.a), [.un])
  | 0, _, _, h, _, _ => h.elim
  | k + 1, m, q, h, hm, hl => by
    obtain ⟨m, rfl⟩ : ∃ k, m = k + 1 := ⟨m - 1, by omega⟩
    rw [F_law_atoms_def]
    rcases h with ⟨ha, e1, e2, e3⟩ | ⟨p, hp, e1, e2, e3, e4⟩ | ⟨w, ps, hw, hp, h1, h6, e1, e2, e3, e4⟩
    · refine fnF_rt (ρ' := [.s q.d, .un, .un]) ?_ (by simp [maskP, range1])
      rw [b_law_atoms_def, b_law_atoms_1_def, b_law_atoms_2_def, b_law_atoms_3_def]
      obtain ⟨w, r, e, n1, n2⟩ := at_head ha
      simp [e, ixD, L2.atI, L2.ixN, n1, n2, sizeLine_eq, e1, boolD]
    · refine fnF_rt (ρ' := [.s q.d, .un, .un]) ?_ (by simp [maskP, range1])
      rw [b_law_atoms_def, b_law_atoms_1_def]
      have e := lalls hp (show k ≤ m by omega) (by rw [← e2]; exact hl)
      simp [e1, ixD, L2.atI, L2.ixN, eqD, eqB, sc2, e, e2]
    · have wn : eqD (.str w) (.str "not") = some (.bool false) := by rcases hw with rfl | rfl <;> simp [eqD, eqB, sc2]
      have wi : inD (.str w) (.tuple [.str "all", .str "any"]) = some (.bool true) := by unfold inD inB; rcases hw with rfl | rfl <;> simp [flatD]
      rw [e2] at hl
      obtain ⟨t, e, ht⟩ := fold_loop (q := q) (Fs := F_law_atoms m) (f := (·.a)) (fun p h => lalls (hp p h) (show k ≤ m by omega) (Nat.le_trans (len_flat (·.a) h) hl)) hl
      refine fnF_rt (ρ' := [.s q.d, .un, t]) ?_ (by simp [maskP, range1])
      rw [b_law_atoms_def, b_law_atoms_1_def, b_law_atoms_2_def, b_law_atoms_2a_1_def, b_law_atoms_2a_2_def, b_law_atoms_2a_3_def]
      rw [e1] at e ⊢
      simp only [dsQ] at e
      simp [ixD, L2.atI, L2.ixN, wn, wi, boolD, isiD, tyD, L2.kitB, tru, sizeLine_eq, walkD, e, e2]
end K26
/-! k22, plain: each once, the scored terms, their reprs. -/
namespace K26
open PySem Pu
open PySem.Spec
theorem QP.ats : ∀ {k q}, QP k q → (∀ d ∈ q.a, At d) ∧ (∀ d ∈ q.o, At d) ∧ q.o.length ≤ q.a.length
  | 0, _, h => h.elim
  | k + 1, q, h => by
    rcases h with ⟨ha, e1, e2, e3⟩ | ⟨p, hp, e1, e2, e3, e4⟩ | ⟨w, ps, hw, hp, h1, h6, e1, e2, e3, e4⟩
    · rw [e1, e2]; exact ⟨by simpa using ha, by simpa using ha, Nat.le_refl _⟩
    · rw [e2, e3]; exact ⟨hp.ats.1, (fun d h => by cases h), Nat.zero_le _⟩
    · rw [e2, e3]
      refine ⟨fun d hd => ?_, fun d hd => ?_, ?_⟩
      · obtain ⟨p, hp', hd⟩ := List.mem_flatMap.mp hd
        exact (hp p hp').ats.1 d hd
      · obtain ⟨p, hp', hd⟩ := List.mem_flatMap.mp hd
        exact (hp p hp').ats.2.1 d hd
      · clear e1 e2 e3 e4 h1 h6
        induction ps with
        | nil => simp
        | cons p ps ih =>
          rw [List.flatMap_cons, List.flatMap_cons, List.length_append, List.length_append]
          have := (hp p (by simp)).ats.2.2
          have := ih fun p h => hp p (List.mem_cons_of_mem _ h)
          omega
theorem fld_ok {f : Str} (h : Fld f) : PyData.strOk f = true ∧ f.cps.size ≤ 4 := by
  rcases h with rfl | rfl | rfl <;> exact ⟨by decide +kernel, by decide +kernel⟩
structure Nice (d : D) : Prop where
  t : L2.tidy d = true
  b : d.bulk ≤ 200
  p : d.depth ≤ 4
theorem at_nice {d : D} (h : At d) : Nice d := by
  have k1 : PyData.strOk (Str.ofString "word") = true ∧ (Str.ofString "word").cps.size ≤ 10 := ⟨by decide +kernel, by decide +kernel⟩
  have k2 : PyData.strOk (Str.ofString "starts") = true ∧ (Str.ofString "starts").cps.size ≤ 10 := ⟨by decide +kernel, by decide +kernel⟩
  have k3 : PyData.strOk (Str.ofString "row") = true ∧ (Str.ofString "row").cps.size ≤ 10 := ⟨by decide +kernel, by decide +kernel⟩
  have k4 : PyData.strOk (Str.ofString "near") = true ∧ (Str.ofString "near").cps.size ≤ 10 := ⟨by decide +kernel, by decide +kernel⟩
  cases h with
  | @word f w hf hw =>
    have a := fld_ok hf
    have b := str_ok hw
    have c := hw.le
    exact ⟨by simp [L2.tidy, L2.tidyAll, k1.1, a.1, b], by simp only [PyData.bulk, PyData.bulkAll]; omega, by simp [PyData.depth, PyData.depthAll]⟩
  | @starts f w hf hw =>
    have a := fld_ok hf
    have b := str_ok hw
    have c := hw.le
    exact ⟨by simp [L2.tidy, L2.tidyAll, k2.1, a.1, b], by simp only [PyData.bulk, PyData.bulkAll]; omega, by simp [PyData.depth, PyData.depthAll]⟩
  | @row f l hf h2 h4 hw =>
    have a := fld_ok hf
    have b : L2.tidyAll (l.map PyData.str) = true := L2.tidyAll_map fun w h => str_ok (hw w h)
    have c : PyData.bulkAll (l.map PyData.str) ≤ l.length * (12 + 1) := L2.bulk_map fun w h => (hw w h).le
    have e : PyData.depthAll (l.map PyData.str) ≤ 0 := L2.depth_map fun w h => by simp [PyData.depth]
    exact ⟨by simp [L2.tidy, L2.tidyAll, k3.1, a.1, b], by simp only [PyData.bulk, PyData.bulkAll]; omega, by simp only [PyData.depth, PyData.depthAll]; omega⟩
  | @near f a b n hf ha hb h1 h6 =>
    have q := fld_ok hf
    have b1 := str_ok ha
    have c1 := ha.le
    have b2 := str_ok hb
    have c2 := hb.le
    have i : n.natAbs < 10 ^ 38 := by omega
    exact ⟨by simp [L2.tidy, L2.tidyAll, k4.1, q.1, b1, b2, i], by simp only [PyData.bulk, PyData.bulkAll]; omega, by simp [PyData.depth, PyData.depthAll]⟩
theorem str_nice {w : Str} (h : Wd w 1 12) : Nice (.str w) := ⟨by simp only [L2.tidy]; exact str_ok h, by have := h.le; simp only [PyData.bulk]; omega, by simp [PyData.depth]⟩
theorem all_tidy {ds : List D} (h : ∀ d ∈ ds, Nice d) : L2.tidyAll ds = true := L2.tidyAll_of fun d hd => (h d hd).t
theorem all_bulk {ds : List D} (h : ∀ d ∈ ds, Nice d) : PyData.bulkAll ds ≤ ds.length * 201 := by
  have := L2.bulk_map (f := fun d : D => d) (n := 200) (l := ds) fun d hd => (h d hd).b
  rwa [List.map_id'] at this
theorem all_depth {ds : List D} (h : ∀ d ∈ ds, Nice d) : PyData.depthAll ds ≤ 4 := by
  have := L2.depth_map (f := fun d : D => d) (n := 4) (l := ds) fun d hd => (h d hd).p
  rwa [List.map_id'] at this
theorem nice_shaped {d : D} (h : Nice d) : SeqAt.shaped d = true := L2.shaped_of h.t (by have := h.p; omega)
theorem all_shaped {ds : List D} (h : ∀ d ∈ ds, Nice d) : SeqAt.shaped (.list ds) = true := L2.shaped_of (by simp only [L2.tidy]; exact all_tidy h) (by have := all_depth h; simp only [PyData.depth]; omega)
/-! ### each once -/
def onceL (acc : List D) : List D → List D
  | [] => acc
  | d :: ds => onceL (if (acc.any fun z => PyData.eqv z d) = true then acc else acc ++ [d]) ds
theorem once_mem {x : D} : ∀ {ds acc : List D}, x ∈ onceL acc ds → x ∈ acc ∨ x ∈ ds
  | [], acc, h => .inl h
  | d :: ds, acc, h => by
    rcases once_mem (ds := ds) h with h | h
    · split at h
      · exact .inl h
      · rcases List.mem_append.mp h with h | h
        · exact .inl h
        · exact .inr (by rw [List.mem_singleton.mp h]; exact List.mem_cons_self)
    · exact .inr (List.mem_cons_of_mem _ h)
theorem once_len : ∀ {ds acc : List D}, (onceL acc ds).length ≤ acc.length + ds.length
  | [], acc => by simp [onceL]
  | d :: ds, acc => by
    have := once_len (ds := ds) (acc := if (acc.any fun z => PyData.eqv z d) = true then acc else acc ++ [d])
    have e : onceL acc (d :: ds) = onceL (if (acc.any fun z => PyData.eqv z d) = true then acc else acc ++ [d]) ds := rfl
    rw [e, List.length_cons]
    by_cases q : (acc.any fun z => PyData.eqv z d) = true
    · rw [if_pos q] at this ⊢; omega
    · rw [if_neg q] at this ⊢; rw [List.length_append, List.length_singleton] at this; omega
theorem not_in {d : D} {acc : List D} (hd : At d) (ha : ∀ d ∈ acc, At d) : notInD d (.list acc) = some (.bool !(acc.any fun z => PyData.eqv z d)) := by
  have s1 := nice_shaped (at_nice hd)
  have s2 := all_shaped fun d h => at_nice (ha d h)
  have e : inB d (.list acc) = some (acc.any fun z => PyData.eqv z d) := by
    cases hd <;> (show (if _ then _ else _) = _) <;> exact if_pos (.inr ⟨s1, s2⟩)
  unfold notInD
  rw [e]
  rfl
theorem once_loop {x : Sl} : ∀ {ds acc : List D} {t : Sl}, (∀ d ∈ ds, At d) → (∀ d ∈ acc, At d) → acc.length + ds.length ≤ 1000 → (t = .un ∨ ∃ d, t = .s d) →
    ∃ t', loopF (put 2) b_unlike_2f_1 ds [x, .o (.list acc), t] = some (.nx, [x, .o (.list (onceL acc ds)), t'])
  | [], acc, t, _, _, _, _ => ⟨t, rfl⟩
  | d :: ds, acc, t, h1, h2, hl, ht => by
    rw [List.length_cons] at hl
    have n := not_in (h1 d (by simp)) h2
    have z : acc.length < 16777216 := by omega
    have e0 : onceL acc (d :: ds) = onceL (if (acc.any fun z => PyData.eqv z d) = true then acc else acc ++ [d]) ds := rfl
    cases q : acc.any fun z => PyData.eqv z d with
    | true =>
      rw [q] at n
      have e : turnF (put 2) b_unlike_2f_1 d [x, .o (.list acc), t] = some (.nx, [x, .o (.list acc), .s d]) := by
        rw [b_unlike_2f_1_def]
        rcases ht with rfl | ⟨_, rfl⟩ <;> simp [turnF, n]
      obtain ⟨t', e'⟩ := once_loop (x := x) (ds := ds) (acc := acc) (t := .s d) (fun d h => h1 d (List.mem_cons_of_mem _ h)) h2 (by omega) (.inr ⟨_, rfl⟩)
      exact ⟨t', by rw [loopF_nx (.inl e), e', e0, q]; rfl⟩
    | false =>
      rw [q] at n
      have e : turnF (put 2) b_unlike_2f_1 d [x, .o (.list acc), t] = some (.nx, [x, .o (.list (acc ++ [d])), .s d]) := by
        rw [b_unlike_2f_1_def]
        rcases ht with rfl | ⟨_, rfl⟩ <;> simp [turnF, n, apD, sizeLine_eq, z]
      obtain ⟨t', e'⟩ := once_loop (x := x) (ds := ds) (acc := acc ++ [d]) (t := .s d) (fun d h => h1 d (List.mem_cons_of_mem _ h)) (fun y hy => by
        rcases List.mem_append.mp hy with hy | hy
        · exact h2 y hy
        · rw [List.mem_singleton.mp hy]; exact h1 d (by simp)) (by simp; omega) (.inr ⟨_, rfl⟩)
      exact ⟨t', by rw [loopF_nx (.inl e), e', e0, q]; rfl⟩
theorem unlike {ds : List D} (h : ∀ d ∈ ds, At d) (hl : ds.length ≤ 1000) : F_unlike [.s (.list ds)] = some (.s (.tuple (onceL [] ds)), [.un]) := by
  obtain ⟨t, e⟩ := once_loop (x := .s (.list ds)) (acc := []) (t := .un) h (fun d h => by cases h) (by simpa using hl) (.inl rfl)
  rw [F_unlike_def]
  refine fnF_rt (ρ' := [.s (.list ds), .o (.list (onceL [] ds)), t]) ?_ (by simp [maskP, range1])
  rw [b_unlike_def, b_unlike_1_def, b_unlike_2_def, b_unlike_3_def]
  simp [sizeLine_eq, walkD, e, tupleD]
theorem once {ds : List D} (h : ∀ d ∈ ds, At d) (hl : ds.length ≤ 1000) : F_law_once [.s (.list ds)] = some (.o (.list (onceL [] ds)), [.un]) := by
  obtain ⟨t, e⟩ := once_loop (x := .s (.list ds)) (acc := []) (t := .un) h (fun d h => by cases h) (by simpa using hl) (.inl rfl)
  rw [F_law_once_def]
  have b : b_law_once_2f_1 = b_unlike_2f_1 := by rw [b_law_once_2f_1_def, b_unlike_2f_1_def]
  refine fnF_rt (ρ' := [.s (.list ds), .un, t]) ?_ (by simp [maskP, range1])
  rw [b_law_once_def, b_law_once_1_def, b_law_once_2_def, b_law_once_3_def, b]
  simp [sizeLine_eq, walkD, e]
/-! ### scored terms -/
end K26
/-! rows of words, plain. -/
namespace K26
open PySem Pu
open PySem.Spec
def Gc (c : Nat) : Prop := 33 ≤ c ∧ c ≤ 126 ∧ c ≠ 37
structure Tm (w : Str) : Prop where
  ge : 1 ≤ w.length
  le : w.length ≤ 210
  sg : ∀ c ∈ w.cps.toList, Gc c
def tD : Option Str → D
  | none => .none
  | some w => .str w
abbrev rowD (ts : List (Option Str)) : D := .tuple (ts.map tD)
structure RowOk (ts : List (Option Str)) : Prop where
  le : ts.length ≤ 400
  tm : ∀ w, some w ∈ ts → Tm w
theorem sign_ok {c : Nat} (h : Gc c) : F_is_sign [.s (.str ⟨#[c]⟩)] = some (.s (.bool true), [.un]) := by
  obtain ⟨h1, h2, h3⟩ := h
  have e : ordC [.str ⟨#[c]⟩] = some (.int (c : Int)) := by
    have g := gd_of (p := (⟨#[c]⟩ : Str).length = 1) rfl
    simp only [ordC, g, if_true]
    rfl
  have a1 : (32 : Int) ≤ (c : Int) := by omega
  have a2 : (c : Int) ≤ 126 := by omega
  have a3 : ((c : Int) == 37) = false := by simp; omega
  rw [F_is_sign_def]
  refine fnF_rt (ρ' := [.s (.str ⟨#[c]⟩), .s (.int c)]) ?_ (by simp [maskP, range1])
  rw [b_is_sign_def, b_is_sign_1_def, b_is_sign_2_def]
  simp [e, leD', ordD, boolD, a1, a2, neD, eqB, sc2, a3, tru]
theorem string_ok {w : Str} (h : Tm w) : F_is_string [.s (.str w), .s (.int 210)] = some (.s (.bool true), [.un, .un]) := by
  have le := h.le
  have z : w.length ≤ 16777216 := by omega
  have e : lcF (put 2) fYes (vf (fCall 1 F_is_sign [] (aS (fVar 2) aNil))) [2] (w.cps.toList.map fun c => (.str ⟨#[c]⟩ : D)) [] [.s (.str w), .s (.int 210), .un] = some ([] ++ w.cps.toList.map fun _ => (.bool true : D), [.s (.str w), .s (.int 210), .un]) :=
    lcF_maps (fun c hc => by
      have m := sign_ok (h.sg c hc)
      simp [lcOne, m]) (line_of (by rw [List.length_nil, ← len_list]; omega))
  have a1 : (w.length : Int) ≤ 210 := by omega
  rw [F_is_string_def]
  refine fnF_rt (ρ' := [.s (.str w), .s (.int 210), .un]) ?_ (by simp [maskP, range2])
  rw [b_is_string_def]
  simp at e
  simp [isiD, tru, L2.kitB, tyD, lenD, sizeLine_eq, z, leD', ordD, boolD, a1, walkD, e, allD, bools_const, all_true]
theorem term_ok {w : Str} (h : Tm w) : F_is_term [.s (.str w)] = some (.s (.bool true), [.un]) := by
  have s := string_ok h
  have n : notInD (.str (Str.ofString " ")) (.str w) = some (.bool true) := by
    have e : Str.ofString " " = ⟨#[32]⟩ := by decide +kernel
    have m : inSt ⟨#[32]⟩ w = false := by
      rw [inSt_one]
      exact decide_eq_false fun z => by have := (h.sg 32 z).1; omega
    simp [notInD, inB, e, m]
  have sp : F_is_spaceless [.s (.str w), .s (.int 210)] = some (.s (.bool true), [.un, .un]) := by
    rw [F_is_spaceless_def]
    refine fnF_rt (ρ' := [.s (.str w), .s (.int 210)]) ?_ (by simp [maskP, range2])
    rw [b_is_spaceless_def]
    simp [s, tru, n]
  have q : (w == Str.ofString "") = false := by
    rw [beq_eq_false_iff_ne]
    intro z
    have := h.ge
    rw [z] at this
    revert this
    decide +kernel
  rw [F_is_term_def]
  refine fnF_rt (ρ' := [.s (.str w)]) ?_ (by simp [maskP, range1])
  rw [b_is_term_def]
  simp [sp, tru, neD, eqB, sc2, q]
theorem row_ok {ts : List (Option Str)} (h : RowOk ts) : F_check_row [.s (rowD ts)] = some (.s .none, [.un]) := by
  have le := h.le
  have z : ts.length ≤ 16777216 := by omega
  have e : lcF (put 1) fYes (fOrV (fOp isND (wNm 1) (wf (fC .none))) (vf (fCall 1 F_is_term [] (aS (fVar 1) aNil)))) [1] (ts.map tD) [] [.s (rowD ts), .un] = some ([] ++ ts.map fun _ => (.bool true : D), [.s (rowD ts), .un]) :=
    lcF_maps (fun t ht => by
      cases t with
      | none => simp [lcOne, tD, isND, isNo, tru]
      | some w =>
        have m := term_ok (h.tm w ht)
        simp [lcOne, tD, isND, isNo, tru, m]) (line_of (by rw [List.length_nil]; omega))
  have r : F_is_rowed [.s (rowD ts)] = some (.s (.bool true), [.un]) := by
    have a1 : ¬ (400 : Int) < (ts.length : Int) := by omega
    have a2 : ¬ 400 < ts.length := by omega
    rw [F_is_rowed_def]
    refine fnF_rt (ρ' := [.s (rowD ts), .un]) ?_ (by simp [maskP, range1])
    rw [b_is_rowed_def, b_is_rowed_1_def, b_is_rowed_2_def]
    simp at e
    simp [isiD, tru, L2.kitB, tyD, lenD, sizeLine_eq, z, gtD, ordD, boolD, a1, a2, walkD, e, allD, bools_const, all_true]
  rw [F_check_row_def]
  refine fnF_nx (ρ' := [.s (rowD ts)]) ?_ (by simp [maskP, range1])
  rw [b_check_row_def, b_check_row_1_def]
  simp only [rowD] at r
  simp [r, tru]
/-! ### rows drawn -/
theorem al_good : ∀ c ∈ AL.cps.toList, Gc c := by
  have : ∀ c ∈ (Str.ofString "abcdefghijklmnopqrstuvwxyz0123456789").cps.toList, 33 ≤ c ∧ c ≤ 126 ∧ c ≠ 37 := by decide +kernel
  rw [← AL_def]
  exact this
theorem wd_tm {w : Str} (h : Wd w 1 12) : Tm w := ⟨(lens h).1, by have := (lens h).2; omega, fun c hc => al_good c (h.sg c hc)⟩
/-- short, of small letters and figures -/
def Sh (x : Str) : Prop := x.length ≤ 12 ∧ ∀ c ∈ x.cps.toList, Gc c
theorem wd_sh {w : Str} (h : Wd w 1 12) : Sh w := ⟨(lens h).2, fun c hc => al_good c (h.sg c hc)⟩
theorem cut_sh {w : Str} {n : Int} (h : Wd w 1 12) (h0 : 0 ≤ n) : Sh (L2.cutS w none (some (1 + n))) := by
  have e : (1 + n : Int) = ((n.toNat + 1 : Nat) : Int) := by omega
  have sw := h.sz
  rw [e]
  refine ⟨?_, fun c hc => ?_⟩
  · rw [len_list, cut_list, List.length_take]; omega
  · rw [cut_list] at hc
    exact al_good c (h.sg c (List.mem_of_mem_take hc))
theorem tail_ok : ∀ y : Str, y = "!" ∨ y = "-x" ∨ y = "Zz" ∨ y = "~~" → 1 ≤ y.length ∧ y.length ≤ 2 ∧ ∀ c ∈ y.cps.toList, Gc c := by
  have g : ∀ y : Str, (1 ≤ y.length ∧ y.length ≤ 2 ∧ ∀ c ∈ y.cps.toList, 33 ≤ c ∧ c ≤ 126 ∧ c ≠ 37) → 1 ≤ y.length ∧ y.length ≤ 2 ∧ ∀ c ∈ y.cps.toList, Gc c := fun y h => h
  rintro y (rfl | rfl | rfl | rfl) <;> exact g _ (by decide +kernel)
theorem app_tm {x y : Str} (hx : Sh x) (hy : 1 ≤ y.length ∧ y.length ≤ 2 ∧ ∀ c ∈ y.cps.toList, Gc c) : Tm (x ++ y) ∧ x.length + y.length ≤ 14 := by
  have l : (x ++ y).length = x.length + y.length := by rw [len_list, app_list, List.length_append, ← len_list, ← len_list]
  refine ⟨⟨by omega, by have := hx.1; omega, fun c hc => ?_⟩, by have := hx.1; omega⟩
  rw [app_list] at hc
  rcases List.mem_append.mp hc with hc | hc
  · exact hx.2 c hc
  · exact hy.2.2 c hc
theorem strange_ex {j : D} {l : List Str} (hj : IsJar j) (h0 : 0 < l.length) (h1 : l.length ≤ 1000) (hl : ∀ w ∈ l, Wd w 1 12) :
    ∃ w j', F_law_strange [.p j, .s (ws l)] = some (.s (.str w), [.p j', .un]) ∧ Tm w ∧ IsJar j' := by
  obtain ⟨w, j1, e1, hw, hj1⟩ := pick_ex hj h0 h1
  have sw := lens (hl w hw)
  obtain ⟨k, j2, e2, k0, k1, hj2⟩ := deal_ex (m := (w.length : Nat)) hj1 (by omega) (by omega)
  have hb := cut_sh (hl w hw) k0
  obtain ⟨x', j3, e3, hx, hj3⟩ := any_ex (ds := [.str "", .str (L2.cutS w none (some (1 + k))), .str (L2.cutS w none (some (1 + k))), .str w]) hj2 (by simp) (by simp)
  obtain ⟨y', j4, e4, hy, hj4⟩ := any_ex (ds := [.str "!", .str "-x", .str "Zz", .str "~~"]) hj3 (by simp) (by simp)
  have hx : ∃ x : Str, x' = .str x ∧ Sh x := by
    simp only [List.mem_cons, List.not_mem_nil, or_false] at hx
    rcases hx with rfl | rfl | rfl | rfl
    · exact ⟨_, rfl, by decide +kernel, fun c hc => by
        have : (Str.ofString "").cps.toList = [] := by decide +kernel
        rw [this] at hc; cases hc⟩
    · exact ⟨_, rfl, hb⟩
    · exact ⟨_, rfl, hb⟩
    · exact ⟨_, rfl, wd_sh (hl w hw)⟩
  have hy : ∃ y : Str, y' = .str y ∧ (y = "!" ∨ y = "-x" ∨ y = "Zz" ∨ y = "~~") := by
    simp only [List.mem_cons, List.not_mem_nil, or_false] at hy
    rcases hy with rfl | rfl | rfl | rfl
    · exact ⟨_, rfl, .inl rfl⟩
    · exact ⟨_, rfl, .inr (.inl rfl)⟩
    · exact ⟨_, rfl, .inr (.inr (.inl rfl))⟩
    · exact ⟨_, rfl, .inr (.inr (.inr rfl))⟩
  obtain ⟨x, rfl, hx2⟩ := hx
  obtain ⟨y, rfl, hy2⟩ := hy
  obtain ⟨tm, ln⟩ := app_tm hx2 (tail_ok y hy2)
  refine ⟨x ++ y, j4, ?_, tm, hj4⟩
  rw [F_law_strange_def]
  refine fnF_rt (ρ' := [.p j4, .s (ws l), .s (.str w), .s (.str (L2.cutS w none (some (1 + k))))]) ?_ (by simp [maskP, range2])
  rw [b_law_strange_def, b_law_strange_1_def, b_law_strange_2_def, b_law_strange_3_def]
  have z : w.length ≤ 16777216 := by omega
  have z2 : x.length + y.length ≤ 16777216 := by omega
  simp [ws, e1, lenD, sizeLine_eq, z, e2, addD, sliceD, e3, e4, z2]
theorem row_ex {j : D} {l : List Str} {m : Nat} (hm : m ≤ 100) (hj : IsJar j) (h0 : 0 < l.length) (h1 : l.length ≤ 1000) (hl : ∀ w ∈ l, Wd w 1 12) :
    ∃ ts j', F_law_row [.p j, .s (ws l), .s (.int m)] = some (.s (rowD ts), [.p j', .un, .un]) ∧ ts.length ≤ m ∧ (∀ w, some w ∈ ts → Tm w) ∧ IsJar j' := by
  obtain ⟨n', j1, e1, n0, n1, hj1⟩ := deal_ex (m := ((m : Nat) : Int) + 1) hj (by omega) (by omega)
  obtain ⟨n, rfl⟩ : ∃ n : Nat, n' = n := ⟨n'.toNat, by omega⟩
  obtain ⟨ρ', e2, j2, ts, a, b, rfl, hj2, lt, tm, ab⟩ := loopF_inv (g := put 4) (b := sSeq b_law_row_2f_1 b_law_row_2f_2)
    (I := fun i ρ => ∃ (j : D) (ts : List (Option Str)) (a b : Sl), ρ = [.p j, .s (ws l), .s (.int m), .o (.list (ts.map tD)), a, b] ∧ IsJar j ∧ ts.length = i ∧ (∀ w, some w ∈ ts → Tm w) ∧ ((a = .un ∧ b = .un) ∨ ∃ d e, a = .s d ∧ b = .s e))
    (ds := rngD 0 n) (ρ := [.p j1, .s (ws l), .s (.int m), .o (.list []), .un, .un]) 0 (by
      rintro i d _ hd ⟨j, ts, a, b, rfl, hj, lt, tm, ab⟩
      obtain ⟨w, j1, e1, w0, w1, hj1⟩ := deal_ex (m := 8) hj (by decide) (by decide)
      have hi : i < n := by have := (List.getElem?_eq_some_iff.mp hd).1; rwa [rngD_len] at this
      have z : ts.length < 16777216 := by omega
      have st : ∃ t j2, turnF (put 4) (sSeq b_law_row_2f_1 b_law_row_2f_2) d [.p j, .s (ws l), .s (.int m), .o (.list (ts.map tD)), a, b] = some (.nx, [.p j2, .s (ws l), .s (.int m), .o (.list ((ts ++ [t]).map tD)), .s d, .s (.int w)]) ∧ (∀ w, t = some w → Tm w) ∧ IsJar j2 := by
        rw [b_law_row_2f_1_def, b_law_row_2f_2_def]
        by_cases w0 : w = 0
        · subst w0
          refine ⟨none, j1, ?_, (fun w h => by cases h), hj1⟩
          rcases ab with ⟨rfl, rfl⟩ | ⟨_, _, rfl, rfl⟩ <;> simp [turnF, e1, eqD, eqB, sc2, apD, sizeLine_eq, z, tD]
        · have b0 : (w == 0) = false := by simp [w0]
          by_cases w1 : w = 1
          · subst w1
            obtain ⟨v, j2, e2, hv, hj2⟩ := strange_ex hj1 h0 h1 hl
            refine ⟨some v, j2, ?_, (fun w h => by cases h; exact hv), hj2⟩
            rcases ab with ⟨rfl, rfl⟩ | ⟨_, _, rfl, rfl⟩ <;> simp [turnF, e1, eqD, eqB, sc2, apD, sizeLine_eq, z, tD, e2]
          · have b1 : (w == 1) = false := by simp [w1]
            obtain ⟨v, j2, e2, hv, hj2⟩ := pick_ex hj1 h0 h1
            refine ⟨some v, j2, ?_, (fun w h => by cases h; exact wd_tm (hl v hv)), hj2⟩
            simp only [ws] at *
            rcases ab with ⟨rfl, rfl⟩ | ⟨_, _, rfl, rfl⟩ <;> simp [turnF, e1, eqD, eqB, sc2, apD, sizeLine_eq, z, tD, b0, b1, e2]
      obtain ⟨t, j2, e, ht, hj2⟩ := st
      refine ⟨_, e, j2, ts ++ [t], .s d, .s (.int w), rfl, hj2, by rw [List.length_append, lt]; simp, fun v hv => ?_, .inr ⟨_, _, rfl, rfl⟩⟩
      rcases List.mem_append.mp hv with hv | hv
      · exact tm v hv
      · exact ht v (List.mem_singleton.mp hv).symm) ⟨j1, [], .un, .un, rfl, hj1, rfl, (fun w h => by cases h), .inl ⟨rfl, rfl⟩⟩
  rw [rngD_len] at lt
  refine ⟨ts, j2, ?_, by omega, tm, hj2⟩
  rw [F_law_row_def]
  refine fnF_rt (ρ' := [.p j2, .s (ws l), .s (.int m), .o (.list (ts.map tD)), a, b]) ?_ (by simp [maskP, range3])
  have in_ := in62_nat (n := n) (by omega)
  rw [b_law_row_def, b_law_row_1_def, b_law_row_2_def, b_law_row_3_def]
  simp [addD, e1, in_, e2, sizeLine_eq, tupleD]
end K26
/-! atoms on rows, plain. -/
namespace K26
open PySem Pu
open PySem.Spec
section
variable {α β : Type} {ρ : En} {vs vs1 : List Nat} {g g1 : Sl → En → Option En} {ft ft1 : En → Option (Bool × En)} {fe : En → Option (D × En)} {fi1 : En → Option (List D × En)}
theorem lcF_filt {dd e : α → D} {p : α → Bool} : ∀ {ps : List α} {acc : List D}, (∀ a ∈ ps, lcOne g ft fe vs (dd a) ρ = some (if p a = true then some (e a) else none, ρ)) → acc.length + ps.length ≤ sizeLine → lcF g ft fe vs (ps.map dd) acc ρ = some (acc ++ (ps.filter p).map e, ρ)
  | [], acc, _, _ => by rw [List.map_nil, lcF, List.filter_nil, List.map_nil, List.append_nil]
  | a :: ps, acc, h, hz => by
    rw [List.length_cons] at hz
    have h1 := h a (by simp)
    cases q : p a with
    | true =>
      rw [q, if_pos rfl] at h1
      rw [List.map_cons, lcF_add h1 (by omega), lcF_filt (fun d hd => h d (List.mem_cons_of_mem _ hd)) (by rw [List.length_append]; simp; omega), List.filter_cons, q, if_pos rfl, List.map_cons, List.append_assoc]
      rfl
    | false =>
      rw [q, if_neg (by decide)] at h1
      rw [List.map_cons, lcF_skip h1, lcF_filt (fun d hd => h d (List.mem_cons_of_mem _ hd)) (by omega), List.filter_cons, q, if_neg (by decide)]
theorem lcF2_maps {dd : α → D} {qs : List β} {dd2 : β → D} {e : α → β → D} {ρA : α → En} : ∀ {ps : List α} {acc : List D}, (∀ p ∈ ps, lc2One g ft fi1 vs (dd p) ρ = some (qs.map dd2, ρA p) ∧ vs1.all (noOwn (ρA p)) = true ∧ backE ρ (ρA p) vs = ρ ∧ ∀ y ∈ qs, lcOne g1 ft1 fe vs1 (dd2 y) (ρA p) = some (some (e p y), ρA p)) →
    acc.length + ps.length * qs.length ≤ sizeLine → lcF2 g ft fi1 g1 ft1 fe vs vs1 (ps.map dd) acc ρ = some (acc ++ ps.flatMap (fun p => qs.map (e p)), ρ)
  | [], acc, _, _ => by rw [List.map_nil, lcF2, List.flatMap_nil, List.append_nil]
  | p :: ps, acc, h, hz => by
    obtain ⟨h1, h2, h3, h4⟩ := h p (by simp)
    rw [List.length_cons, Nat.add_mul, Nat.one_mul] at hz
    have e := lcF_maps (g := g1) (ft := ft1) (fe := fe) (vs := vs1) (dd := dd2) (φ := e p) (ps := qs) (acc := acc) (ρ := ρA p) h4 (by omega)
    rw [List.map_cons, lcF2_one h1 h2 e, h3, lcF2_maps (fun d hd => h d (List.mem_cons_of_mem _ hd)) (by rw [List.length_append, List.length_map]; omega), List.flatMap_cons, List.append_assoc]
end
theorem bools_fn {α : Type} (f : α → Bool) (ps : List α) : boolsOf (ps.map fun p => (.bool (f p) : D)) = some (ps.map f) := by
  have := boolsOf_map (ps.map f)
  rwa [List.map_map] at this
/-! ### words in rows -/
def eqt (t : Option Str) (w : Str) : Bool := PyData.eqv (tD t) (.str w)
theorem eqD_t (t : Option Str) (w : Str) : eqD (tD t) (.str w) = some (.bool (eqt t w)) := by
  cases t with
  | none =>
    have s : SeqAt.shaped (PyData.str w) = true ∨ True := .inr trivial
    unfold eqD eqB eqt tD
    simp [sc2]
  | some v => simp [eqD, eqB, eqt, tD, sc2]
theorem in_row (ts : List (Option Str)) (w : Str) : inD (.str w) (.tuple (ts.map tD)) = some (.bool (ts.any fun t => eqt t w)) := by
  have f : (flatD (.str w) && (ts.map tD).all flatD) = true := by
    rw [List.all_map]
    simp only [flatD, Bool.true_and, List.all_eq_true]
    intro t _
    cases t <;> rfl
  have e : inB (.str w) (.tuple (ts.map tD)) = some (ts.any fun t => eqt t w) := by
    show (if _ then _ else _) = _
    rw [if_pos (.inl f), List.any_map]
    rfl
  unfold inD
  rw [e]
  rfl
theorem cut2 (a b : D) (r : List D) (h : r.length ≤ 100) : Pu.cutL (a :: b :: r) (some 2) none = r := by
  unfold Pu.cutL
  have e : HT.sIx (a :: b :: r).length 0 (some (2 : Int)) = 2 := by
    have := HT.sIx_nat (a :: b :: r).length 0 2
    rw [show ((2 : Nat) : Int) = 2 from rfl] at this
    rw [this]
    simp
  have e2 : HT.sIx (a :: b :: r).length (a :: b :: r).length none = (a :: b :: r).length := rfl
  rw [e, e2]
  simp
/-- what stands behind the atom's field -/
inductive Lk : D → D → Prop
  | word {f w : Str} : Fld f → Wd w 1 12 → Lk (.tuple [.str "word", .str f, .str w]) (.tuple [.str "word", .str w])
  | starts {f w : Str} : Fld f → Wd w 1 6 → Lk (.tuple [.str "starts", .str f, .str w]) (.tuple [.str "starts", .str w])
  | row {f : Str} {l : List Str} : Fld f → 2 ≤ l.length → l.length ≤ 4 → (∀ w ∈ l, Wd w 1 12) → Lk (.tuple [.str "row", .str f, .tuple (l.map .str)]) (.tuple [.str "row", .tuple (l.map .str)])
  | near {f a b : Str} {n : Int} : Fld f → Wd a 1 12 → Wd b 1 12 → 1 ≤ n → n ≤ 6 → Lk (.tuple [.str "near", .str f, .str a, .str b, .int n]) (.tuple [.str "near", .str a, .str b, .int n])
theorem lk_of {d : D} (h : At d) : ∃ k, Lk d k := by
  cases h with
  | word a b => exact ⟨_, .word a b⟩
  | starts a b => exact ⟨_, .starts a b⟩
  | row a b c d => exact ⟨_, .row a b c d⟩
  | near a b c d e => exact ⟨_, .near a b c d e⟩
theorem look_ok {d k : D} (h : Lk d k) : F_law_look [.s d] = some (.s k, [.un]) := by
  rw [F_law_look_def]
  refine fnF_rt (ρ' := [.s d]) ?_ (by simp [maskP, range1])
  rw [b_law_look_def]
  cases h <;> simp [ixD, L2.atI, L2.ixN, sizeLine_eq, sliceD, cut2, addD]
/-! ### a word -/
section
variable {ts : List (Option Str)} {f w : Str}
theorem word_l : F_law_is_true_of [.s (.tuple [.str "word", .str w]), .s (rowD ts)] = some (.s (.bool (ts.any fun t => eqt t w)), [.un, .un]) := by
  have i := in_row ts w
  rw [F_law_is_true_of_def]
  refine fnF_rt (ρ' := [.s (.tuple [.str "word", .str w]), .s (rowD ts), .un, .un, .un, .un, .un]) ?_ (by simp [maskP, range2])
  rw [b_law_is_true_of_def, b_law_is_true_of_1_def]
  simp [ixD, L2.atI, L2.ixN, eqD, eqB, sc2, i]
/-! ### a beginning -/
theorem starts_cut (x y : Str) : Txt.startswith x y = (L2.cutS x none (some (y.length : Int)) == y) := by
  have hc := cut_list x y.length
  have e1 : (L2.cutS x none (some (y.length : Int)) == y) = decide (x.cps.toList.take y.length = y.cps.toList) := by
    rw [Bool.eq_iff_iff, beq_iff_eq, decide_eq_true_eq, ← hc]
    constructor
    · intro h; rw [h]
    · intro h; exact W.str_of_cps h
  have e2 : Txt.startswith x y = decide (x.cps.toList.take y.length = y.cps.toList) := by
    unfold Txt.startswith
    rw [Bool.eq_iff_iff, Bool.and_eq_true, decide_eq_true_eq, decide_eq_true_eq]
    constructor
    · rintro ⟨_, h⟩
      rw [StrLaws.subAt_eq, beq_iff_eq, List.drop_zero] at h
      exact h
    · intro h
      have hs : Builtin.Str.subAt x y 0 = true := by rw [StrLaws.subAt_eq, beq_iff_eq, List.drop_zero]; exact h
      refine ⟨?_, hs⟩
      have := congrArg List.length h
      rw [List.length_take, ← len_list, ← len_list] at this
      omega
  rw [e1, e2]
def swt (b : Str) : Option Str → Bool
  | none => false
  | some w => Txt.startswith w b
theorem tm_ok {w : Str} (h : Tm w) : PyData.strOk w = true := by
  unfold PyData.strOk
  rw [Array.all_eq_true']
  intro c hc
  exact decide_eq_true (by have := h.sg c (by simpa using hc); unfold Gc at this; omega)
theorem tD_tidy {ts : List (Option Str)} (h : ∀ w, some w ∈ ts → Tm w) : ∀ d ∈ ts.map tD, L2.tidy d = true ∧ d.depth ≤ 0 := by
  intro d hd
  obtain ⟨t, ht, rfl⟩ := List.mem_map.mp hd
  cases t with
  | none => exact ⟨rfl, Nat.le_refl _⟩
  | some w => exact ⟨by simp only [tD, L2.tidy]; exact tm_ok (h w ht), by simp [tD, PyData.depth]⟩
theorem shaped_list {ds : List D} (h : ∀ d ∈ ds, L2.tidy d = true ∧ d.depth ≤ 0) : SeqAt.shaped (.list ds) = true ∧ SeqAt.shaped (.tuple ds) = true := by
  have t : L2.tidyAll ds = true := L2.tidyAll_of fun d hd => (h d hd).1
  have p := L2.depth_map (f := fun d : D => d) (n := 0) (l := ds) fun d hd => (h d hd).2
  rw [List.map_id'] at p
  exact ⟨L2.shaped_of (by simp only [L2.tidy]; exact t) (by simp only [PyData.depth]; omega), L2.shaped_of (by simp only [L2.tidy]; exact t) (by simp only [PyData.depth]; omega)⟩
theorem ne_nil {ds : List D} (h : SeqAt.shaped (.list ds) = true) : neD (.list ds) (.list []) = some (.bool !ds.isEmpty) := by
  unfold neD eqB
  rw [if_pos (.inr ⟨h, rfl⟩)]
  cases ds <;> simp [PyData.eqv, PyData.eqvAll]
theorem any_filter {α : Type} (p : α → Bool) (e : α → D) (ps : List α) : (!((ps.filter p).map e).isEmpty) = ps.any p := by
  induction ps with
  | nil => rfl
  | cons a ps ih =>
    rw [List.filter_cons, List.any_cons]
    cases q : p a with
    | true => simp
    | false => simpa using ih
theorem starts_l (hr : RowOk ts) (hw : w.length ≤ 12) : F_law_is_true_of [.s (.tuple [.str "starts", .str w]), .s (rowD ts)] = some (.s (.bool (ts.any (swt w))), [.un, .un]) := by
  have le := hr.le
  have z : w.length ≤ 16777216 := by omega
  have e : lcF (put 5) (fAndS (fTst (fOp notND (wNm 5) (wf (fC .none)))) (fTst (fOp eqD (wf (vf (fSl (wNm 5) oNo (oSo (fCB lenD (wCons (wf (fOp ixD (wNm 0) (wf (fC (.int 1))))) wNil)))))) (wf (fOp ixD (wNm 0) (wf (fC (.int 1)))))))) (fVar 5) [5] (ts.map tD) [] [.s (.tuple [.str "starts", .str w]), .s (rowD ts), .un, .un, .un, .un, .un]
      = some ([] ++ (ts.filter (swt w)).map tD, [.s (.tuple [.str "starts", .str w]), .s (rowD ts), .un, .un, .un, .un, .un]) :=
    lcF_filt (fun t ht => by
      cases t with
      | none => simp [lcOne, tD, notND, isNo, swt, boolD]
      | some v =>
        have tm := hr.tm v ht
        have zv : v.length ≤ 16777216 := by have := tm.le; omega
        have c := starts_cut v w
        cases q : Txt.startswith v w with
        | true =>
          rw [q] at c
          simp [lcOne, tD, notND, isNo, swt, boolD, ixD, L2.atI, L2.ixN, lenD, sizeLine_eq, z, zv, sliceD, eqD, eqB, sc2, ← c, q]
        | false =>
          rw [q] at c
          simp [lcOne, tD, notND, isNo, swt, boolD, ixD, L2.atI, L2.ixN, lenD, sizeLine_eq, z, zv, sliceD, eqD, eqB, sc2, ← c, q]) (line_of (by rw [List.length_nil]; omega))
  have sh : SeqAt.shaped (.list ((ts.filter (swt w)).map tD)) = true := (shaped_list (tD_tidy fun v hv => hr.tm v (List.mem_filter.mp hv).1)).1
  have n := ne_nil sh
  rw [any_filter] at n
  rw [F_law_is_true_of_def]
  refine fnF_rt (ρ' := [.s (.tuple [.str "starts", .str w]), .s (rowD ts), .un, .un, .un, .un, .un]) ?_ (by simp [maskP, range2])
  rw [b_law_is_true_of_def, b_law_is_true_of_1_def, b_law_is_true_of_2_def]
  have q0 : eqD (.str "starts") (.str "word") = some (.bool false) := by simp [eqD, eqB, sc2]
  have q1 : eqD (.str "starts") (.str "starts") = some (.bool true) := by simp [eqD, eqB, sc2]
  simp only [rowD, List.nil_append] at e
  simp [ixD, L2.atI, L2.ixN, q0, q1, walkD, e, sizeLine_eq, n]
end
end K26
/-! rows and nearness, plain. -/
namespace K26
open PySem Pu
open PySem.Spec
theorem pair_at : ∀ (as bs : List D) (i : Nat), (pairUp as bs)[i]? = match as[i]?, bs[i]? with
    | some a, some b => some (.tuple [a, b])
    | _, _ => none
  | [], bs, i => by simp [pairUp]
  | a :: as, [], i => by cases h : (a :: as)[i]? <;> simp [pairUp]
  | a :: as, b :: bs, 0 => by simp [pairUp]
  | a :: as, b :: bs, i + 1 => by simp only [pairUp, List.getElem?_cons_succ]; exact pair_at as bs i
theorem rng_map (n : Nat) : rngD 0 n = (List.range n).map fun i : Nat => (.int (i : Int) : D) := by
  unfold rngD
  simp
theorem enum_row (ts : List (Option Str)) : pairUp (rngD 0 ts.length) (ts.map tD) = (List.range ts.length).map fun i : Nat => (.tuple [.int (i : Int), tD (ts.getD i none)] : D) := by
  refine List.ext_getElem? fun i => ?_
  rw [pair_at, rng_map, List.getElem?_map, List.getElem?_map, List.getElem?_map]
  by_cases h : i < ts.length
  · rw [List.getElem?_range h, List.getElem?_eq_getElem h]
    simp [h]
  · rw [List.getElem?_eq_none (by simpa using h), List.getElem?_eq_none (by simpa using h)]
    rfl
theorem at_row {ts : List (Option Str)} {i : Nat} (h : i < ts.length) : L2.atI (ts.map tD) (i : Int) = some (tD (ts.getD i none)) := by
  refine L2.atI_nat ?_
  rw [List.getElem?_map, List.getElem?_eq_getElem h]
  simp [h]
def onesL (ts : List (Option Str)) (w : Str) : List Nat := (List.range ts.length).filter fun i => eqt (ts.getD i none) w
theorem ones_len (ts : List (Option Str)) (w : Str) : (onesL ts w).length ≤ ts.length := by
  unfold onesL
  have := List.length_filter_le (fun i => eqt (ts.getD i none) w) (List.range ts.length)
  rwa [List.length_range] at this
theorem ones_lt {ts : List (Option Str)} {w : Str} {i : Nat} (h : i ∈ onesL ts w) : i < ts.length := by
  unfold onesL at h
  have := (List.mem_filter.mp h).1
  exact List.mem_range.mp this
abbrev natD (i : Nat) : D := .int (i : Int)
section
variable {ts : List (Option Str)} {f w : Str}
theorem law_ones {ρ : En} {v4 v2 v3 : Sl} {look : D} {x : Int} (hr : RowOk ts) (hx : ixD look (.int x) = some (.str w)) :
    lcF (put 4) (fTst (fOp eqD (wf (fOp ixD (wNm 1) (wNm 4))) (wf (fOp ixD (wNm 0) (wf (fC (.int x))))))) (fVar 4) [4] (rngD 0 ts.length) [] [.s look, .s (rowD ts), .un, .un, .un, .un, .un] = some ((onesL ts w).map natD, [.s look, .s (rowD ts), .un, .un, .un, .un, .un]) := by
  have le := hr.le
  rw [rng_map]
  have := lcF_filt (g := put 4) (ft := fTst (fOp eqD (wf (fOp ixD (wNm 1) (wNm 4))) (wf (fOp ixD (wNm 0) (wf (fC (.int x))))))) (fe := fVar 4) (vs := [4]) (dd := natD) (e := natD) (p := fun i => eqt (ts.getD i none) w) (ps := List.range ts.length) (acc := []) (ρ := [.s look, .s (rowD ts), .un, .un, .un, .un, .un]) (fun i hi => by
    have hi := List.mem_range.mp hi
    have a := at_row hi
    have c := eqD_t (ts.getD i none) w
    have ia : ixD (rowD ts) (.int (i : Int)) = some (tD (ts.getD i none)) := by simp only [ixD, rowD]; exact a
    simp only [List.getD_eq_getElem?_getD] at c ia
    cases q : eqt (ts[i]?.getD none) w with
    | true => rw [q] at c; simp [lcOne, ia, hx, c, q]
    | false => rw [q] at c; simp [lcOne, ia, hx, c, q]) (line_of (by rw [List.length_nil, List.length_range]; omega))
  rwa [List.nil_append] at this
theorem nats_shaped {l : List Nat} (h : ∀ i ∈ l, i ≤ 1000) : SeqAt.shaped (.list (l.map natD)) = true :=
  (shaped_list fun d hd => by
    obtain ⟨i, hi, rfl⟩ := List.mem_map.mp hd
    have := h i hi
    have z : (natD i) = .int (i : Int) := rfl
    refine ⟨?_, by simp [PyData.depth]⟩
    simp only [natD, L2.tidy, decide_eq_true_eq]
    omega).1
/-! ### a row of terms -/
def win (ts : List (Option Str)) (l : List Str) (i : Nat) : Bool := PyData.eqv (.tuple (Pu.cutL (ts.map tD) (some (i : Int)) (some ((i : Int) + (l.length : Int))))) (.tuple (l.map .str))
theorem win_eq (hr : RowOk ts) {l : List Str} (hl : ∀ w ∈ l, Wd w 1 12) (i : Nat) : eqD (.tuple (Pu.cutL (ts.map tD) (some (i : Int)) (some ((i : Int) + (l.length : Int))))) (.tuple (l.map .str)) = some (.bool (win ts l i)) := by
  have s1 := (shaped_list (ds := Pu.cutL (ts.map tD) (some (i : Int)) (some ((i : Int) + (l.length : Int)))) fun d hd => tD_tidy hr.tm d (cutL_mem hd)).2
  have s2 := (shaped_list (ds := l.map PyData.str) fun d hd => by
    obtain ⟨w, hw, rfl⟩ := List.mem_map.mp hd
    exact ⟨by simp only [L2.tidy]; exact str_ok (hl w hw), by simp [PyData.depth]⟩).2
  unfold eqD eqB
  rw [if_pos (.inr ⟨s1, s2⟩)]
  rfl
theorem win_head {a : Str} {r : List Str} {i : Nat} (hi : i < ts.length) (h : win ts (a :: r) i = true) : eqt (ts.getD i none) a = true := by
  unfold win Pu.cutL at h
  have e1 : HT.sIx (ts.map tD).length 0 (some (i : Int)) = i := by
    rw [HT.sIx_nat, List.length_map]; omega
  have e2 : HT.sIx (ts.map tD).length (ts.map tD).length (some ((i : Int) + ((a :: r).length : Int))) = min (i + (r.length + 1)) ts.length := by
    rw [show (i : Int) + ((a :: r).length : Int) = ((i + (r.length + 1) : Nat) : Int) by simp, HT.sIx_nat, List.length_map]
  rw [e1, e2] at h
  have e3 : (ts.map tD).drop i = tD (ts.getD i none) :: (ts.map tD).drop (i + 1) := by
    rw [List.drop_eq_getElem_cons (by rw [List.length_map]; exact hi), List.getElem_map]
    simp [hi]
  obtain ⟨k, hk⟩ : ∃ k, min (i + (r.length + 1)) ts.length - i = k + 1 := ⟨min (i + (r.length + 1)) ts.length - i - 1, by omega⟩
  rw [e3, hk, List.take_succ_cons, List.map_cons] at h
  simp only [PyData.eqv, PyData.eqvAll, Bool.and_eq_true] at h
  exact h.1
theorem win_any (ts : List (Option Str)) (a : Str) (r : List Str) : ((onesL ts a).any (win ts (a :: r))) = (List.range ts.length).any (win ts (a :: r)) := by
  rw [Bool.eq_iff_iff, List.any_eq_true, List.any_eq_true]
  constructor
  · rintro ⟨i, hi, h⟩
    exact ⟨i, List.mem_range.mpr (ones_lt hi), h⟩
  · rintro ⟨i, hi, h⟩
    exact ⟨i, List.mem_filter.mpr ⟨hi, win_head (List.mem_range.mp hi) h⟩, h⟩
theorem row_l {l : List Str} (hr : RowOk ts) (hlen : l.length ≤ 4) (hl : ∀ w ∈ l, Wd w 1 12) : F_law_is_true_of [.s (.tuple [.str "row", .tuple (l.map .str)]), .s (rowD ts)] = some (.s (.bool ((List.range ts.length).any (win ts l))), [.un, .un]) := by
  have le := hr.le
  have z : l.length ≤ 16777216 := by omega
  have z2 : ts.length ≤ 16777216 := by omega
  have in_ := in62_nat (n := ts.length) (by omega)
  have e : lcF (put 4) (fTst (fOp eqD (wf (vf (fSl (wNm 1) (oSo (fVar 4)) (oSo (vf (fOpE addD (wNm 4) (wf (fCB lenD (wCons (wf (fOp ixD (wNm 0) (wf (fC (.int 1))))) wNil))))))))) (wf (fOp ixD (wNm 0) (wf (fC (.int 1))))))) (fVar 4) [4] ((List.range ts.length).map natD) [] [.s (.tuple [.str "row", .tuple (l.map .str)]), .s (rowD ts), .un, .un, .un, .un, .un]
      = some ([] ++ ((List.range ts.length).filter (win ts l)).map natD, [.s (.tuple [.str "row", .tuple (l.map .str)]), .s (rowD ts), .un, .un, .un, .un, .un]) :=
    lcF_filt (fun i hi => by
      have w := win_eq hr hl i
      cases q : win ts l i with
      | true => rw [q] at w; simp [lcOne, sliceD, lenD, sizeLine_eq, addD, z, ixD, L2.atI, L2.ixN, w, boolD]
      | false => rw [q] at w; simp [lcOne, sliceD, lenD, sizeLine_eq, addD, z, ixD, L2.atI, L2.ixN, w, boolD]) (line_of (by rw [List.length_nil, List.length_range]; omega))
  have sh : SeqAt.shaped (.list (((List.range ts.length).filter (win ts l)).map natD)) = true := nats_shaped fun i hi => by
    have := List.mem_range.mp (List.mem_filter.mp hi).1
    omega
  have n := ne_nil sh
  rw [any_filter] at n
  have rm := rng_map ts.length
  have q0 : eqD (.str "row") (.str "word") = some (.bool false) := by simp [eqD, eqB, sc2]
  have q1 : eqD (.str "row") (.str "starts") = some (.bool false) := by simp [eqD, eqB, sc2]
  have q2 : eqD (.str "row") (.str "row") = some (.bool true) := by simp [eqD, eqB, sc2]
  rw [F_law_is_true_of_def]
  refine fnF_rt (ρ' := [.s (.tuple [.str "row", .tuple (l.map .str)]), .s (rowD ts), .un, .un, .un, .un, .un]) ?_ (by simp [maskP, range2])
  rw [b_law_is_true_of_def, b_law_is_true_of_1_def, b_law_is_true_of_2_def, b_law_is_true_of_3_def]
  simp only [rowD, List.nil_append] at e
  simp [ixD, L2.atI, L2.ixN, q0, q1, q2, lenD, sizeLine_eq, z2, in_, rm, e, n]
end
end K26
/-! nearness, plain. -/
namespace K26
open PySem Pu
open PySem.Spec
section
variable {ts : List (Option Str)} {f a b : Str} {n : Int}
def nr (n : Int) (k j : Nat) : Bool := decide (k ≠ j) && decide ((if (k : Int) - j < 0 then -((k : Int) - j) else (k : Int) - j) ≤ n)
theorem bools_flat (c : Nat → Nat → Bool) (qs : List Nat) : ∀ ps : List Nat, boolsOf (ps.flatMap fun k => qs.map fun j => (.bool (c k j) : D)) = some (ps.flatMap fun k => qs.map (c k)) := by
  intro ps
  have e : (ps.flatMap fun k => qs.map fun j => (.bool (c k j) : D)) = (ps.flatMap fun k => qs.map (c k)).map .bool := by
    rw [List.map_flatMap]
    congr 1
    funext k
    rw [List.map_map]
    rfl
  rw [e, boolsOf_map]
theorem any_flat (c : Nat → Nat → Bool) (qs ps : List Nat) : (ps.flatMap fun k => qs.map (c k)).any id = ps.any fun k => qs.any (c k) := by
  rw [List.any_flatMap]
  congr 1
  funext k
  rw [List.any_map]
  rfl
theorem near_one {r : Sl} {x : D} {y : Sl} {t4 : Sl} {k j : Nat} :
    lcOne (put 6) fYes (fChain ltD leD' (wf (fC (.int 0))) (wf (fCB absD (wCons (wf (fOp subD (wNm 5) (wNm 6))) wNil))) (wNm 3)) [6] (natD j) [r, y, .s x, .s (.int n), t4, .s (natD k), .un] = some (some (.bool (nr n k j)), [r, y, .s x, .s (.int n), t4, .s (natD k), .un]) := by
  by_cases h : (k : Int) - j < 0
  · by_cases h2 : -((k : Int) - j) ≤ n
    · have h3 : k ≠ j := by omega
      have h4 : (0 : Int) < -((k : Int) - j) := by omega
      simp [lcOne, subD, absD, ltD, leD', ordD, boolD, nr, h, h2, h3]
    · have h3 : k ≠ j := by omega
      simp [lcOne, subD, absD, ltD, leD', ordD, boolD, nr, h, h2, h3]
  · by_cases h3 : k = j
    · subst h3
      simp [lcOne, subD, absD, ltD, leD', ordD, boolD, nr]
    · have h4 : (0 : Int) < (k : Int) - j := by omega
      have h5 : ¬ (k : Int) < j := by omega
      have h6 : (j : Int) < k := by omega
      have h7 : j < k := by omega
      have h8 : ¬ k < j := by omega
      by_cases h2 : (k : Int) - j ≤ n
      · simp [lcOne, subD, absD, ltD, leD', ordD, boolD, nr, h, h2, h3, h4, h5, h6, h7, h8]
      · simp [lcOne, subD, absD, ltD, leD', ordD, boolD, nr, h, h2, h3, h4, h5, h6, h7, h8]
abbrev nrF : En → Option (D × En) := fChain ltD leD' (wf (fC (.int 0))) (wf (fCB absD (wCons (wf (fOp subD (wNm 5) (wNm 6))) wNil))) (wNm 3)
theorem near_flat {r y : Sl} {x : D} {os tw : List Nat} (h1 : os.length ≤ 400) (h2 : tw.length ≤ 400) :
    ∃ t4, lcF2 (put 5) fYes (iVal (fVar 4)) (put 6) fYes nrF [5, 6] [6] (os.map natD) [] [r, y, .s x, .s (.int n), .o (.list (tw.map natD)), .un, .un] = some (os.flatMap fun k => tw.map fun j => (.bool (nr n k j) : D), [r, y, .s x, .s (.int n), t4, .un, .un]) ∧ (t4 = .o (.list (tw.map natD)) ∨ t4 = .s (.list (tw.map natD))) := by
  cases os with
  | nil => exact ⟨.o (.list (tw.map natD)), rfl, .inl rfl⟩
  | cons k ks =>
    refine ⟨.s (.list (tw.map natD)), ?_, .inr rfl⟩
    have l1 : lc2One (put 5) fYes (iVal (fVar 4)) [5, 6] (natD k) [r, y, .s x, .s (.int n), .o (.list (tw.map natD)), .un, .un] = some (tw.map natD, [r, y, .s x, .s (.int n), .s (.list (tw.map natD)), .s (natD k), .un]) := by
      simp [lc2One, walkD]
    have l2 : lcF (put 6) fYes nrF [6] (tw.map natD) [] [r, y, .s x, .s (.int n), .s (.list (tw.map natD)), .s (natD k), .un] = some ([] ++ tw.map fun j => (.bool (nr n k j) : D), [r, y, .s x, .s (.int n), .s (.list (tw.map natD)), .s (natD k), .un]) :=
      lcF_maps (fun j _ => near_one) (line_of (by rw [List.length_nil]; omega))
    rw [List.length_cons] at h1
    have m : ks.length * tw.length ≤ 400 * 400 := Nat.mul_le_mul (by omega) h2
    have l3 := lcF2_maps (g := put 5) (ft := fYes) (fi1 := iVal (fVar 4)) (g1 := put 6) (ft1 := fYes) (fe := nrF) (vs := [5, 6]) (vs1 := [6]) (dd := natD) (dd2 := natD) (qs := tw) (e := fun k j => (.bool (nr n k j) : D)) (ρA := fun k => [r, y, .s x, .s (.int n), .s (.list (tw.map natD)), .s (natD k), .un]) (ps := ks) (acc := tw.map fun j => (.bool (nr n k j) : D)) (ρ := [r, y, .s x, .s (.int n), .s (.list (tw.map natD)), .un, .un])
      (fun k _ => ⟨by simp [lc2One, walkD], by simp, by simp, fun j _ => near_one⟩) (line_of (by rw [List.length_map]; omega))
    rw [List.map_cons, lcF2_one l1 (by simp) l2, List.nil_append, List.flatMap_cons, ← l3]
    simp
theorem near_two {r y o t : Sl} {k j : Nat} :
    lcOne (put 6) (fAndS (fTst (fOp neD (wNm 6) (wNm 4))) (fTst (fOp leD' (wf (fCB absD (wCons (wf (fOp subD (wNm 6) (wNm 4))) wNil))) (wf (fOp ixD (wNm 0) (wf (fC (.int 3)))))))) (fVar 6) [6] (natD j) [.s (.tuple [.str "near", .str a, .str b, .int n]), y, o, t, .s (natD k), .un, .un] = some (if nr n k j = true then some (natD j) else none, [.s (.tuple [.str "near", .str a, .str b, .int n]), y, o, t, .s (natD k), .un, .un]) := by
  by_cases h3 : k = j
  · subst h3
    simp [lcOne, neD, eqB, sc2, nr, boolD]
  · have h3' : ¬ j = k := fun z => h3 z.symm
    have h3b : ((j : Int) == (k : Int)) = false := by simp; omega
    by_cases h2 : (if (k : Int) - j < 0 then -((k : Int) - j) else (k : Int) - j) ≤ n
    · have h4 : (if (j : Int) - k < 0 then -((j : Int) - k) else (j : Int) - k) ≤ n := by
        split at h2 <;> split <;> omega
      have q : nr n k j = true := by simp only [nr, decide_eq_true h2, decide_eq_true h3, Bool.and_self]
      have h5 := decide_eq_true h4
      simp [lcOne, neD, eqB, sc2, q, boolD, h3b, subD, absD, ixD, L2.atI, L2.ixN, leD', ordD, h5]
    · have h4 : ¬ (if (j : Int) - k < 0 then -((j : Int) - k) else (j : Int) - k) ≤ n := by
        split at h2 <;> split <;> omega
      have q : nr n k j = false := by simp only [nr, decide_eq_false h2, Bool.and_false]
      have h5 := decide_eq_false h4
      simp [lcOne, neD, eqB, sc2, q, boolD, h3b, subD, absD, ixD, L2.atI, L2.ixN, leD', ordD, h5]
theorem near_l (hr : RowOk ts) : F_law_is_true_of [.s (.tuple [.str "near", .str a, .str b, .int n]), .s (rowD ts)] = some (.s (.bool ((onesL ts a).any fun k => (onesL ts b).any (nr n k))), [.un, .un]) := by
  have le := hr.le
  have o1 := ones_len ts a
  have o2 := ones_len ts b
  have z2 : ts.length ≤ 16777216 := by omega
  have in_ := in62_nat (n := ts.length) (by omega)
  have q0 : eqD (.str "near") (.str "word") = some (.bool false) := by simp [eqD, eqB, sc2]
  have q1 : eqD (.str "near") (.str "starts") = some (.bool false) := by simp [eqD, eqB, sc2]
  have q2 : eqD (.str "near") (.str "row") = some (.bool false) := by simp [eqD, eqB, sc2]
  have a1 := law_ones (w := a) (ρ := []) (v4 := .un) (v2 := .un) (v3 := .un) (look := .tuple [.str "near", .str a, .str b, .int n]) (x := 1) hr rfl
  have a2 := law_ones (w := b) (ρ := []) (v4 := .un) (v2 := .un) (v3 := .un) (look := .tuple [.str "near", .str a, .str b, .int n]) (x := 2) hr rfl
  have e : lcF (put 4) fYes (fOp neD (wf (vf (fLc (iVal (fVar 3)) (put 6) (fAndS (fTst (fOp neD (wNm 6) (wNm 4))) (fTst (fOp leD' (wf (fCB absD (wCons (wf (fOp subD (wNm 6) (wNm 4))) wNil))) (wf (fOp ixD (wNm 0) (wf (fC (.int 3)))))))) (fVar 6) [6]))) (wf (vf (fLst fNil)))) [4] ((onesL ts a).map natD) []
      [.s (.tuple [.str "near", .str a, .str b, .int n]), .s (rowD ts), .s (.list ((onesL ts a).map natD)), .s (.list ((onesL ts b).map natD)), .un, .un, .un]
      = some ([] ++ (onesL ts a).map fun k => (.bool ((onesL ts b).any (nr n k)) : D), [.s (.tuple [.str "near", .str a, .str b, .int n]), .s (rowD ts), .s (.list ((onesL ts a).map natD)), .s (.list ((onesL ts b).map natD)), .un, .un, .un]) :=
    lcF_maps (fun k hk => by
      have l := lcF_filt (dd := natD) (e := natD) (p := nr n k) (ps := onesL ts b) (acc := []) (fun j _ => near_two (a := a) (b := b) (n := n) (r := .un) (y := .s (rowD ts)) (o := .s (.list ((onesL ts a).map natD))) (t := .s (.list ((onesL ts b).map natD))) (k := k) (j := j)) (line_of (by rw [List.length_nil]; omega))
      have sh : SeqAt.shaped (.list (((onesL ts b).filter (nr n k)).map natD)) = true := nats_shaped fun i hi => by
        have := ones_lt (List.mem_filter.mp hi).1
        omega
      have nn := ne_nil sh
      rw [any_filter] at nn
      rw [List.nil_append] at l
      simp only [natD] at l
      simp [lcOne, walkD, l, sizeLine_eq, nn]) (line_of (by rw [List.length_nil]; omega))
  rw [F_law_is_true_of_def]
  refine fnF_rt (ρ' := [.s (.tuple [.str "near", .str a, .str b, .int n]), .s (rowD ts), .s (.list ((onesL ts a).map natD)), .s (.list ((onesL ts b).map natD)), .un, .un, .un]) ?_ (by simp [maskP, range2])
  rw [b_law_is_true_of_def, b_law_is_true_of_1_def, b_law_is_true_of_2_def, b_law_is_true_of_3_def, b_law_is_true_of_4_def, b_law_is_true_of_5_def]
  simp only [rowD, List.nil_append] at e a1 a2
  simp [ixD, L2.atI, L2.ixN, q0, q1, q2, lenD, sizeLine_eq, z2, in_, a1, a2, walkD, e, anyD, bools_fn, List.any_map, Function.comp_def]
end
end K26
/-! k26, lists alone: the longest beginning that a row ends with; how long ago. -/
namespace K26
variable {α : Type}
/-- r ends with the first k of p -/
def bd (p r : List α) (k : Nat) : Prop := k ≤ r.length ∧ k ≤ p.length ∧ r.drop (r.length - k) = p.take k
theorem bd_zero (p r : List α) : bd p r 0 := ⟨Nat.zero_le _, Nat.zero_le _, by simp⟩
theorem bd_snoc {p r : List α} {x : α} {k : Nat} (hk : k < p.length) : bd p (r ++ [x]) (k + 1) ↔ bd p r k ∧ p[k]? = some x := by
  unfold bd
  have e1 : (r ++ [x]).length - (k + 1) = r.length - k := by rw [List.length_append]; simp
  have e2 : p.take (k + 1) = p.take k ++ [p[k]] := by rw [List.take_add_one, List.getElem?_eq_getElem hk]; rfl
  rw [e1, e2, List.drop_append_of_le_length (by omega), List.getElem?_eq_getElem hk]
  constructor
  · rintro ⟨h1, h2, h3⟩
    obtain ⟨a, b⟩ := List.append_inj' h3 rfl
    refine ⟨⟨by rw [List.length_append] at h1; simpa using h1, by omega, a⟩, ?_⟩
    simp at b
    rw [b]
  · rintro ⟨⟨h1, h2, h3⟩, h4⟩
    cases h4
    exact ⟨by rw [List.length_append]; simp; exact h1, by omega, by rw [h3]⟩
theorem bd_in {p r : List α} {s k : Nat} (hs : bd p r s) (hk : k ≤ s) : bd p r k ↔ (p.take s).drop (s - k) = p.take k := by
  obtain ⟨h1, h2, h3⟩ := hs
  have e : r.drop (r.length - k) = (p.take s).drop (s - k) := by
    rw [← h3, List.drop_drop]
    congr 1
    omega
  unfold bd
  rw [e]
  exact ⟨fun h => h.2.2, fun h => ⟨by omega, by omega, h⟩⟩
/-- what the program looks at -/
theorem bd_step {p r : List α} {x : α} {s k : Nat} (hs : bd p r s) (hk : k ≤ s) (hp : s < p.length) : (p.take s ++ [x]).drop (s - k) = p.take (k + 1) ↔ bd p (r ++ [x]) (k + 1) := by
  rw [bd_snoc (by omega), bd_in hs hk, List.drop_append_of_le_length (by rw [List.length_take]; omega)]
  have hk' : k < p.length := by omega
  have e2 : p.take (k + 1) = p.take k ++ [p[k]] := by rw [List.take_add_one, List.getElem?_eq_getElem hk']; rfl
  rw [e2, List.getElem?_eq_getElem hk']
  constructor
  · intro h
    obtain ⟨a, b⟩ := List.append_inj' h rfl
    simp at b
    exact ⟨a, by rw [b]⟩
  · rintro ⟨a, b⟩
    cases b
    rw [a]
def Full (p r : List α) : Prop := ∃ i, i + p.length ≤ r.length ∧ (r.drop i).take p.length = p
theorem full_snoc {p r : List α} {x : α} (hp : 0 < p.length) : Full p (r ++ [x]) ↔ Full p r ∨ bd p (r ++ [x]) p.length := by
  unfold Full
  constructor
  · rintro ⟨i, h1, h2⟩
    rw [List.length_append, List.length_singleton] at h1
    by_cases hi : i + p.length ≤ r.length
    · left
      refine ⟨i, hi, ?_⟩
      rw [List.drop_append_of_le_length (by omega), List.take_append_of_le_length (by rw [List.length_drop]; omega)] at h2
      exact h2
    · right
      have hi' : i = (r ++ [x]).length - p.length := by rw [List.length_append, List.length_singleton]; omega
      refine ⟨by rw [List.length_append, List.length_singleton]; omega, Nat.le_refl _, ?_⟩
      rw [← hi', List.take_length]
      rw [List.take_of_length_le (by rw [List.length_drop, List.length_append, List.length_singleton]; omega)] at h2
      exact h2
  · rintro (⟨i, h1, h2⟩ | ⟨h1, h2, h3⟩)
    · refine ⟨i, by rw [List.length_append]; omega, ?_⟩
      rw [List.drop_append_of_le_length (by omega), List.take_append_of_le_length (by rw [List.length_drop]; omega)]
      exact h2
    · refine ⟨(r ++ [x]).length - p.length, by omega, ?_⟩
      rw [h3, List.take_length, List.take_length]
/-- the state behind a row -/
def RInv (p r : List α) (s : Nat) : Prop := (Full p r ∧ s = p.length) ∨ (¬ Full p r ∧ s < p.length ∧ bd p r s ∧ ∀ k, k < p.length → bd p r k → k ≤ s)
theorem rinv_nil {p : List α} (hp : 0 < p.length) : RInv p [] 0 := by
  refine .inr ⟨?_, hp, bd_zero _ _, fun k _ h => by have := h.1; simpa using this⟩
  rintro ⟨i, h, _⟩
  have h' : i + p.length ≤ 0 := h
  omega
/-- the greatest m from n down to 1 with c, or 0 -/
def gr (c : Nat → Bool) : Nat → Nat
  | 0 => 0
  | m + 1 => if c (m + 1) = true then m + 1 else gr c m
theorem gr_spec (c : Nat → Bool) : ∀ n, gr c n ≤ n ∧ (gr c n = 0 ∨ c (gr c n) = true) ∧ ∀ m, 1 ≤ m → m ≤ n → c m = true → m ≤ gr c n
  | 0 => ⟨Nat.le_refl _, .inl rfl, fun m h1 h2 _ => by omega⟩
  | n + 1 => by
    obtain ⟨h1, h2, h3⟩ := gr_spec c n
    by_cases h : c (n + 1) = true
    · have e : gr c (n + 1) = n + 1 := by rw [gr, if_pos h]
      rw [e]
      exact ⟨Nat.le_refl _, .inr h, fun m _ hm _ => hm⟩
    · have e : gr c (n + 1) = gr c n := by rw [gr, if_neg h]
      rw [e]
      refine ⟨by omega, h2, fun m m1 m2 hm => ?_⟩
      by_cases q : m = n + 1
      · subst q; exact absurd hm h
      · exact h3 m m1 (by omega) hm
theorem rinv_step {p r : List α} {x : α} {s : Nat} {c : Nat → Bool} (hp : 0 < p.length) (h : RInv p r s) (hc : ∀ m, 1 ≤ m → m ≤ s + 1 → (c m = true ↔ (p.take s ++ [x]).drop (s + 1 - m) = p.take m)) :
    RInv p (r ++ [x]) (if s = p.length then s else gr c (s + 1)) := by
  rcases h with ⟨hf, hs⟩ | ⟨hf, hs, hb, hm⟩
  · rw [if_pos hs]
    exact .inl ⟨(full_snoc hp).mpr (.inl hf), hs⟩
  · rw [if_neg (by omega)]
    obtain ⟨g1, g2, g3⟩ := gr_spec c (s + 1)
    have key : ∀ m, 1 ≤ m → m ≤ s + 1 → (c m = true ↔ bd p (r ++ [x]) m) := by
      intro m m1 m2
      obtain ⟨k, rfl⟩ : ∃ k, m = k + 1 := ⟨m - 1, by omega⟩
      rw [hc (k + 1) m1 m2, show s + 1 - (k + 1) = s - k by omega]
      exact bd_step hb (by omega) hs
    have up : ∀ m, m ≤ p.length → bd p (r ++ [x]) m → m ≤ gr c (s + 1) := by
      intro m ml mb
      cases m with
      | zero => omega
      | succ k =>
        have := (bd_snoc (by omega)).mp mb
        have hk : k ≤ s := hm k (by omega) this.1
        exact g3 (k + 1) (by omega) (by omega) ((key (k + 1) (by omega) (by omega)).mpr mb)
    have bg : bd p (r ++ [x]) (gr c (s + 1)) := by
      rcases g2 with g | g
      · rw [g]; exact bd_zero _ _
      · by_cases z : gr c (s + 1) = 0
        · rw [z]; exact bd_zero _ _
        · exact (key _ (by omega) g1).mp g
    by_cases full : gr c (s + 1) = p.length
    · exact .inl ⟨(full_snoc hp).mpr (.inr (by rw [← full]; exact bg)), full⟩
    · refine .inr ⟨fun z => ?_, by have := bg.2.1; omega, bg, fun k k1 k2 => up k (by omega) k2⟩
      rcases (full_snoc hp).mp z with z | z
      · exact hf z
      · have := up _ (Nat.le_refl _) z
        have := bg.2.1
        omega
/-! ### how long ago -/
/-- s tells how far back t stands last, if at most n, or 0 -/
def AInv (t : α) (n : Nat) (r : List α) (s : Nat) : Prop :=
  (s = 0 ∧ ∀ b, 1 ≤ b → b ≤ n → b ≤ r.length → r[r.length - b]? ≠ some t) ∨ (1 ≤ s ∧ s ≤ n ∧ s ≤ r.length ∧ r[r.length - s]? = some t ∧ ∀ b, 1 ≤ b → b < s → r[r.length - b]? ≠ some t)
theorem ainv_nil (t : α) (n : Nat) : AInv t n [] 0 := .inl ⟨rfl, fun b h1 _ h => by have h' : b ≤ 0 := h; omega⟩
theorem get_last (r : List α) (x : α) : (r ++ [x])[(r ++ [x]).length - 1]? = some x := by
  rw [List.length_append, List.length_singleton, Nat.add_sub_cancel, List.getElem?_append_right (Nat.le_refl _)]
  simp
theorem get_prev {r : List α} {x : α} {b : Nat} (h1 : 1 ≤ b) (h2 : b ≤ r.length) : (r ++ [x])[(r ++ [x]).length - (b + 1)]? = r[r.length - b]? := by
  rw [List.length_append, List.length_singleton, show r.length + 1 - (b + 1) = r.length - b by omega, List.getElem?_append_left (by omega)]
theorem ainv_here {t : α} {n : Nat} {r : List α} (hn : 1 ≤ n) : AInv t n (r ++ [t]) 1 :=
  .inr ⟨Nat.le_refl _, hn, by simp, get_last r t, fun b h1 h2 => by omega⟩
theorem ainv_not {t x : α} {n s : Nat} {r : List α} (h : AInv t n r s) (hx : x ≠ t) : AInv t n (r ++ [x]) (if 0 < s ∧ s < n then s + 1 else 0) := by
  have l : (r ++ [x]).length = r.length + 1 := by simp
  have one : (r ++ [x])[(r ++ [x]).length - 1]? ≠ some t := by rw [get_last]; intro z; cases z; exact hx rfl
  rcases h with ⟨rfl, h⟩ | ⟨h1, h2, h3, h4, h5⟩
  · rw [if_neg (by omega)]
    refine .inl ⟨rfl, fun b b1 b2 b3 => ?_⟩
    by_cases q : b = 1
    · subst q; exact one
    · obtain ⟨c, rfl⟩ : ∃ c, b = c + 1 := ⟨b - 1, by omega⟩
      rw [get_prev (by omega) (by omega)]
      exact h c (by omega) (by omega) (by omega)
  · by_cases q : s < n
    · rw [if_pos ⟨by omega, q⟩]
      refine .inr ⟨by omega, by omega, by omega, by rw [get_prev h1 h3]; exact h4, fun b b1 b2 => ?_⟩
      by_cases q : b = 1
      · subst q; exact one
      · obtain ⟨c, rfl⟩ : ∃ c, b = c + 1 := ⟨b - 1, by omega⟩
        rw [get_prev (by omega) (by omega)]
        exact h5 c (by omega) (by omega)
    · rw [if_neg (by omega)]
      refine .inl ⟨rfl, fun b b1 b2 b3 => ?_⟩
      by_cases q : b = 1
      · subst q; exact one
      · obtain ⟨c, rfl⟩ : ∃ c, b = c + 1 := ⟨b - 1, by omega⟩
        rw [get_prev (by omega) (by omega)]
        exact h5 c (by omega) (by omega)
/-! ### near one another -/
def Near (a b : α) (n : Nat) (r : List α) : Prop := ∃ k j, k ≠ j ∧ r[k]? = some a ∧ r[j]? = some b ∧ k - j ≤ n ∧ j - k ≤ n
theorem ago_pos {t : α} {n s : Nat} {r : List α} (h : AInv t n r s) : 0 < s ↔ ∃ b, 1 ≤ b ∧ b ≤ n ∧ b ≤ r.length ∧ r[r.length - b]? = some t := by
  rcases h with ⟨rfl, h⟩ | ⟨h1, h2, h3, h4, h5⟩
  · exact ⟨fun z => by omega, fun ⟨b, b1, b2, b3, b4⟩ => absurd b4 (h b b1 b2 b3)⟩
  · exact ⟨fun _ => ⟨s, h1, h2, h3, h4⟩, fun _ => h1⟩
theorem near_snoc {a b x : α} {n sa sb : Nat} {r : List α} (ha : AInv a n r sa) (hb : AInv b n r sb) : Near a b n (r ++ [x]) ↔ Near a b n r ∨ (x = a ∧ 0 < sb) ∨ (x = b ∧ 0 < sa) := by
  have l : (r ++ [x]).length = r.length + 1 := by simp
  have old : ∀ {i : Nat}, i < r.length → (r ++ [x])[i]? = r[i]? := fun h => List.getElem?_append_left h
  have new : (r ++ [x])[r.length]? = some x := by rw [List.getElem?_append_right (Nat.le_refl _)]; simp
  have lt : ∀ {i : Nat} {y : α}, (r ++ [x])[i]? = some y → i < r.length ∨ i = r.length := fun h => by
    have := (List.getElem?_eq_some_iff.mp h).1
    rw [l] at this
    omega
  rw [ago_pos ha, ago_pos hb]
  constructor
  · rintro ⟨k, j, hkj, h1, h2, h3, h4⟩
    rcases lt h1 with k1 | k1 <;> rcases lt h2 with j1 | j1
    · rw [old k1] at h1; rw [old j1] at h2
      exact .inl ⟨k, j, hkj, h1, h2, h3, h4⟩
    · rw [old k1] at h1; rw [j1, new] at h2
      cases h2
      exact .inr (.inr ⟨rfl, r.length - k, by omega, by omega, by omega, by rw [show r.length - (r.length - k) = k by omega]; exact h1⟩)
    · rw [old j1] at h2; rw [k1, new] at h1
      cases h1
      exact .inr (.inl ⟨rfl, r.length - j, by omega, by omega, by omega, by rw [show r.length - (r.length - j) = j by omega]; exact h2⟩)
    · omega
  · rintro (⟨k, j, hkj, h1, h2, h3, h4⟩ | ⟨rfl, c, c1, c2, c3, c4⟩ | ⟨rfl, c, c1, c2, c3, c4⟩)
    · exact ⟨k, j, hkj, by rw [old (List.getElem?_eq_some_iff.mp h1).1]; exact h1, by rw [old (List.getElem?_eq_some_iff.mp h2).1]; exact h2, h3, h4⟩
    · exact ⟨r.length, r.length - c, by omega, new, by rw [old (by omega)]; exact c4, by omega, by omega⟩
    · exact ⟨r.length - c, r.length, by omega, by rw [old (by omega)]; exact c4, new, by omega, by omega⟩
end K26
/-! k26, plain: steps of looks. -/
namespace K26
open PySem Pu
open PySem.Spec
theorem ago_ok {s m : Int} {h : Bool} : F_ago [.s (.int s), .s (.bool h), .s (.int m)] = some (.s (.int (if h = true then 1 else if 0 < s ∧ s < m then s + 1 else 0)), [.un, .un, .un]) := by
  rw [F_ago_def]
  refine fnF_rt (ρ' := [.s (.int s), .s (.bool h), .s (.int m)]) ?_ (by simp [maskP, range3])
  rw [b_ago_def, b_ago_1_def, b_ago_2_def]
  cases h with
  | true => simp [tru]
  | false =>
    by_cases h1 : 0 < s
    · by_cases h2 : s < m
      · simp [tru, ltD, ordD, boolD, h1, h2, addD]
      · simp [tru, ltD, ordD, boolD, h1, h2, addD]
    · simp [tru, ltD, ordD, boolD, h1, addD]
/-! ### rows as lists: what is equal as data is equal -/
theorem eqt_iff {t : Option Str} {w : Str} : eqt t w = true ↔ t = some w := by
  cases t with
  | none => simp [eqt, tD, PyData.eqv]
  | some v => simp [eqt, tD]
theorem eqv_tD (a b : Option Str) : PyData.eqv (tD a) (tD b) = true ↔ a = b := by
  cases a <;> cases b <;> simp [tD, PyData.eqv]
theorem eqvAll_tD : ∀ (a b : List (Option Str)), PyData.eqvAll (a.map tD) (b.map tD) = true ↔ a = b
  | [], [] => by simp [PyData.eqvAll]
  | [], _ :: _ => by simp [PyData.eqvAll]
  | _ :: _, [] => by simp [PyData.eqvAll]
  | x :: a, y :: b => by
    simp only [List.map_cons, PyData.eqvAll, Bool.and_eq_true, eqv_tD, eqvAll_tD a b, List.cons.injEq]
theorem eqD_rows {a b : List (Option Str)} (ha : ∀ w, some w ∈ a → Tm w) (hb : ∀ w, some w ∈ b → Tm w) : eqD (.tuple (a.map tD)) (.tuple (b.map tD)) = some (.bool (decide (a = b))) := by
  have s1 := (shaped_list (tD_tidy ha)).2
  have s2 := (shaped_list (tD_tidy hb)).2
  unfold eqD eqB
  rw [if_pos (.inr ⟨s1, s2⟩)]
  have e : PyData.eqv (.tuple (a.map tD)) (.tuple (b.map tD)) = decide (a = b) := by
    rw [Bool.eq_iff_iff, decide_eq_true_eq]
    simp only [PyData.eqv]
    exact eqvAll_tD a b
  rw [e]
  rfl
theorem cut_lo {ds : List D} {k : Nat} (h : k ≤ ds.length) : Pu.cutL ds (some (k : Int)) none = ds.drop k := by
  unfold Pu.cutL
  have e : HT.sIx ds.length 0 (some (k : Int)) = k := by rw [HT.sIx_nat]; omega
  have e2 : HT.sIx ds.length ds.length none = ds.length := rfl
  rw [e, e2]
  exact List.take_of_length_le (by rw [List.length_drop]; omega)
theorem cut_hi {ds : List D} {k : Nat} : Pu.cutL ds none (some (k : Int)) = ds.take k := by
  unfold Pu.cutL
  have e : HT.sIx ds.length ds.length (some (k : Int)) = min k ds.length := HT.sIx_nat _ _ _
  have e2 : HT.sIx ds.length 0 none = 0 := rfl
  rw [e, e2, List.drop_zero, Nat.sub_zero, List.take_eq_take_min]
  simp [List.take_eq_take_iff]
def Ot (t : Option Str) : Prop := ∀ w, t = some w → Tm w
/-! ### the step of a row of terms -/
def cR (p : List (Option Str)) (s : Nat) (x : Option Str) (m : Nat) : Bool := decide ((p.take s ++ [x]).drop (s + 1 - m) = p.take m)
theorem down {b : FS} {g : Sl → En → Option En} {c : Nat → Bool} {N : Nat} {mk : Sl → En} (hn : ∀ (m : Nat) (t : Sl), (t = .un ∨ ∃ d, t = .s d) → 1 ≤ m → m ≤ N → c m = false → turnF g b (.int (m : Int)) (mk t) = some (.nx, mk (.s (.int (m : Int)))))
    (hy : ∀ (m : Nat) (t : Sl), (t = .un ∨ ∃ d, t = .s d) → 1 ≤ m → m ≤ N → c m = true → turnF g b (.int (m : Int)) (mk t) = some (.rt (.s (.int (m : Int))), mk (.s (.int (m : Int))))) :
    ∀ (n : Nat) (t : Sl), n ≤ N → (t = .un ∨ ∃ d, t = .s d) → ∃ t', (t' = .un ∨ ∃ d, t' = .s d) ∧ loopF g b (dnD (n : Int) n) (mk t) = some (if gr c n = 0 then .nx else .rt (.s (.int (gr c n : Nat))), mk t')
  | 0, t, _, ht => ⟨t, ht, by simp [dnD, loopF, gr]⟩
  | n + 1, t, hN, ht => by
    have e : dnD ((n + 1 : Nat) : Int) (n + 1) = .int ((n + 1 : Nat) : Int) :: dnD (n : Int) n := by
      unfold dnD
      have h0 : ((n + 1 : Nat) : Int) - ((0 : Nat) : Int) = ((n + 1 : Nat) : Int) := by omega
      have h1 : ∀ k : Nat, ((n + 1 : Nat) : Int) - ((Nat.succ k : Nat) : Int) = (n : Int) - (k : Int) := fun k => by omega
      rw [List.range_succ_eq_map, List.map_cons, List.map_map, h0]
      refine congrArg _ (List.map_congr_left fun k _ => ?_)
      simp only [Function.comp, h1]
    cases q : c (n + 1) with
    | true =>
      refine ⟨.s (.int ((n + 1 : Nat) : Int)), .inr ⟨_, rfl⟩, ?_⟩
      rw [e, loopF_rt (hy (n + 1) t ht (by omega) hN q)]
      simp [gr, q]
    | false =>
      obtain ⟨t', h', e'⟩ := down hn hy n (.s (.int ((n + 1 : Nat) : Int))) (by omega) (.inr ⟨_, rfl⟩)
      refine ⟨t', h', ?_⟩
      rw [e, loopF_nx (.inl (hn (n + 1) t ht (by omega) hN q)), e']
      simp [gr, q]
theorem row_step_ok {p : List (Option Str)} {x : Option Str} {s : Nat} (hp : ∀ w, some w ∈ p → Tm w) (hx : Ot x) (l4 : p.length ≤ 10) (hs : s ≤ p.length) :
    F_row_step [.s (.tuple (p.map tD)), .s (.int (s : Int)), .s (tD x)] = some (.s (.int ((if s = p.length then s else gr (cR p s x) (s + 1) : Nat) : Int)), [.un, .un, .un]) := by
  rw [F_row_step_def]
  have z : p.length ≤ 16777216 := by omega
  by_cases h : s = p.length
  · refine fnF_rt (ρ' := [.s (.tuple (p.map tD)), .s (.int (s : Int)), .s (tD x), .un, .un]) ?_ (by simp [maskP, range3])
    rw [b_row_step_def, b_row_step_1_def]
    simp [lenD, sizeLine_eq, z, eqD, eqB, sc2, h]
  · have last : p.take s ++ [x] = p.take s ++ [x] := rfl
    have ll : (p.take s ++ [x]).length = s + 1 := by rw [List.length_append, List.length_take]; simp; omega
    have tl : ∀ w, some w ∈ p.take s ++ [x] → Tm w := fun w hw => by
      rcases List.mem_append.mp hw with hw | hw
      · exact hp w (List.mem_of_mem_take hw)
      · exact hx w (List.mem_singleton.mp hw).symm
    have body : ∀ (m : Nat) (t : Sl), (t = .un ∨ ∃ d, t = .s d) → 1 ≤ m → m ≤ s + 1 → turnF (put 4) b_row_step_3f_1 (.int (m : Int)) [.s (.tuple (p.map tD)), .s (.int (s : Int)), .s (tD x), .s (.tuple ((p.take s ++ [x]).map tD)), t]
        = some (if cR p s x m = true then .rt (.s (.int (m : Int))) else .nx, [.s (.tuple (p.map tD)), .s (.int (s : Int)), .s (tD x), .s (.tuple ((p.take s ++ [x]).map tD)), .s (.int (m : Int))]) := by
      intro m t ht m1 m2
      have e1 : Pu.cutL ((p.take s ++ [x]).map tD) (some (((s : Int) + 1) - (m : Int))) none = ((p.take s ++ [x]).drop (s + 1 - m)).map tD := by
        rw [show ((s : Int) + 1) - (m : Int) = ((s + 1 - m : Nat) : Int) by omega, cut_lo (by rw [List.length_map, ll]; omega), List.map_drop]
      have e2 : Pu.cutL (p.map tD) none (some (m : Int)) = (p.take m).map tD := by rw [cut_hi, List.map_take]
      have e3 := eqD_rows (a := (p.take s ++ [x]).drop (s + 1 - m)) (b := p.take m) (fun w hw => tl w (List.mem_of_mem_drop hw)) (fun w hw => hp w (List.mem_of_mem_take hw))
      have e4 : lenD [.tuple ((p.take s ++ [x]).map tD)] = some (.int ((s : Int) + 1)) := by
        simp only [lenD, List.length_map, ll]
        rfl
      rw [b_row_step_3f_1_def]
      generalize hL : (p.take s ++ [x]).map tD = Ld at e1 e4 ⊢
      generalize hD : ((p.take s ++ [x]).drop (s + 1 - m)).map tD = Dd at e1 e3
      generalize hT : (p.take m).map tD = Td at e2 e3
      have cr : cR p s x m = decide ((p.take s ++ [x]).drop (s + 1 - m) = p.take m) := rfl
      rw [← cr] at e3
      cases q : cR p s x m with
      | true => rw [q] at e3; rcases ht with rfl | ⟨_, rfl⟩ <;> simp [turnF, e4, subD, sliceD, e1, e2, e3, boolD]
      | false => rw [q] at e3; rcases ht with rfl | ⟨_, rfl⟩ <;> simp [turnF, e4, subD, sliceD, e1, e2, e3, boolD]
    have z2 : (p.take s ++ [x]).length ≤ 16777216 := by omega
    have zt : (p.take s).length + 1 ≤ 16777216 := by rw [List.length_take]; omega
    have in1 := in62_nat (n := s + 1) (by omega)
    have in0 := in62_nat (n := 0) (by omega)
    -- the walk downwards, from s + 1
    have wk : ∃ t', loopF (put 4) b_row_step_3f_1 (dnD ((s + 1 : Nat) : Int) (s + 1)) [.s (.tuple (p.map tD)), .s (.int (s : Int)), .s (tD x), .s (.tuple ((p.take s ++ [x]).map tD)), .un]
        = some (if gr (cR p s x) (s + 1) = 0 then .nx else .rt (.s (.int (gr (cR p s x) (s + 1) : Nat))), [.s (.tuple (p.map tD)), .s (.int (s : Int)), .s (tD x), .s (.tuple ((p.take s ++ [x]).map tD)), t']) ∧ (t' = .un ∨ ∃ d, t' = .s d) := by
      obtain ⟨t', h1, h2⟩ := down (b := b_row_step_3f_1) (g := put 4) (c := cR p s x) (N := s + 1) (mk := fun t => [.s (.tuple (p.map tD)), .s (.int (s : Int)), .s (tD x), .s (.tuple ((p.take s ++ [x]).map tD)), t])
        (fun m t ht m1 m2 q => by rw [body m t ht m1 m2, q]; rfl) (fun m t ht m1 m2 q => by rw [body m t ht m1 m2, q]; rfl) (s + 1) .un (Nat.le_refl _) (.inl rfl)
      exact ⟨t', h2, h1⟩
    obtain ⟨t', wk, ht'⟩ := wk
    have hi : Pu.cutL (p.map tD) none (some (s : Int)) = (p.take s).map tD := by rw [cut_hi, List.map_take]
    have ap : addD (.tuple ((p.take s).map tD)) (.tuple [tD x]) = some (.s (.tuple ((p.take s ++ [x]).map tD))) := by
      have g := gd_of (p := ((p.take s).map tD).length + [tD x].length ≤ sizeLine) (line_of (by rw [List.length_map]; exact zt))
      simp only [addD, g, if_true, List.map_append, List.map_cons, List.map_nil]
    have bq : ((s : Int) == (p.length : Int)) = false := by simp; omega
    have p1 : b_row_step_1 [.s (.tuple (p.map tD)), .s (.int (s : Int)), .s (tD x), .un, .un] = some (.nx, [.s (.tuple (p.map tD)), .s (.int (s : Int)), .s (tD x), .un, .un]) := by
      rw [b_row_step_1_def]
      simp [lenD, sizeLine_eq, z, eqD, eqB, sc2, bq]
    have p2 : b_row_step_2 [.s (.tuple (p.map tD)), .s (.int (s : Int)), .s (tD x), .un, .un] = some (.nx, [.s (.tuple (p.map tD)), .s (.int (s : Int)), .s (tD x), .s (.tuple ((p.take s ++ [x]).map tD)), .un]) := by
      rw [b_row_step_2_def]
      generalize (p.take s ++ [x]).map tD = R at ap ⊢
      generalize (p.take s).map tD = R2 at hi ap
      simp [sliceD, hi, sizeLine_eq, ap]
    have e1 : ((s : Int) + 1 - 0).toNat = s + 1 := by omega
    have in1' : in62 ((s : Int) + 1) = true := in1
    have in0' : in62 (0 : Int) = true := in0
    have p3 : b_row_step_3 [.s (.tuple (p.map tD)), .s (.int (s : Int)), .s (tD x), .s (.tuple ((p.take s ++ [x]).map tD)), .un] = some (if gr (cR p s x) (s + 1) = 0 then .nx else .rt (.s (.int (gr (cR p s x) (s + 1) : Nat))), [.s (.tuple (p.map tD)), .s (.int (s : Int)), .s (tD x), .s (.tuple ((p.take s ++ [x]).map tD)), t']) := by
      rw [b_row_step_3_def]
      generalize (p.take s ++ [x]).map tD = R at wk ⊢
      have wk' : loopF (put 4) b_row_step_3f_1 (dnD ((s : Int) + 1) (s + 1)) [.s (.tuple (p.map tD)), .s (.int (s : Int)), .s (tD x), .s (.tuple R), .un] = some (if gr (cR p s x) (s + 1) = 0 then .nx else .rt (.s (.int (gr (cR p s x) (s + 1) : Nat))), [.s (.tuple (p.map tD)), .s (.int (s : Int)), .s (tD x), .s (.tuple R), t']) := wk
      simp [addD, negD, in1', in0', e1, wk']
    refine fnF_rt (ρ' := [.s (.tuple (p.map tD)), .s (.int (s : Int)), .s (tD x), .s (.tuple ((p.take s ++ [x]).map tD)), t']) ?_ (by simp [maskP, range3])
    rw [b_row_step_def, if_neg h]
    by_cases g0 : gr (cR p s x) (s + 1) = 0
    · rw [if_pos g0] at p3
      rw [g0]
      generalize (p.take s ++ [x]).map tD = R at p2 p3 ⊢
      simp [p1, p2, p3, b_row_step_4_def]
    · rw [if_neg g0] at p3
      generalize (p.take s ++ [x]).map tD = R at p2 p3 ⊢
      simp [p1, p2, p3]
end K26
/-! k26, plain: steps of nearness. -/
namespace K26
open PySem Pu
open PySem.Spec
theorem eq99 {sa sb : Nat} (h1 : sa ≤ 100) (h2 : sb ≤ 100) : eqD (.tuple [.int (sa : Int), .int (sb : Int)]) (.tuple [.int 9, .int 9]) = some (.bool (decide (sa = 9 ∧ sb = 9))) := by
  have s1 : SeqAt.shaped (.tuple [.int (sa : Int), .int (sb : Int)]) = true := (shaped_list (ds := [.int (sa : Int), .int (sb : Int)]) fun d hd => by
    simp only [List.mem_cons, List.not_mem_nil, or_false] at hd
    rcases hd with rfl | rfl <;> exact ⟨by simp only [L2.tidy, decide_eq_true_eq]; omega, by simp [PyData.depth]⟩).2
  have s2 : SeqAt.shaped (.tuple [.int 9, .int 9]) = true := (shaped_list (ds := [.int 9, .int 9]) fun d hd => by
    simp only [List.mem_cons, List.not_mem_nil, or_false] at hd
    rcases hd with rfl | rfl <;> exact ⟨by simp only [L2.tidy, decide_eq_true_eq]; omega, by simp [PyData.depth]⟩).2
  have e : PyData.eqv (.tuple [.int (sa : Int), .int (sb : Int)]) (.tuple [.int 9, .int 9]) = decide (sa = 9 ∧ sb = 9) := by
    rw [Bool.eq_iff_iff, decide_eq_true_eq]
    simp only [PyData.eqv, PyData.eqvAll, Bool.and_eq_true, beq_iff_eq, Bool.and_true]
    omega
  unfold eqD eqB
  rw [if_pos (.inr ⟨s1, s2⟩), e]
  rfl
def nxt (h : Bool) (s : Nat) (n : Int) : Int := if h = true then 1 else if 0 < (s : Int) ∧ (s : Int) < n then (s : Int) + 1 else 0
theorem near_step_ok {a b : Str} {n : Int} {x : Option Str} {sa sb : Nat} (h1 : sa ≤ 100) (h2 : sb ≤ 100) :
    ∃ os, F_near_step [.s (.tuple [.str "near", .str a, .str b, .int n]), .s (.tuple [.int (sa : Int), .int (sb : Int)]), .s (tD x)] = some (.s (if (sa = 9 ∧ sb = 9) ∨ (eqt x a = true ∧ 0 < sb) ∨ (eqt x b = true ∧ 0 < sa) then .tuple [.int 9, .int 9] else .tuple [.int (nxt (eqt x a) sa n), .int (nxt (eqt x b) sb n)]), os) ∧ os = [.un, .un, .un] := by
  have c9 := eq99 h1 h2
  have ca := eqD_t x a
  have cb := eqD_t x b
  have ga := @ago_ok (sa : Int) n (eqt x a)
  have gb := @ago_ok (sb : Int) n (eqt x b)
  refine ⟨_, ?_, rfl⟩
  rw [F_near_step_def]
  refine fnF_rt (ρ' := [.s (.tuple [.str "near", .str a, .str b, .int n]), .s (.tuple [.int (sa : Int), .int (sb : Int)]), .s (tD x), .s (.str "near"), .s (.str a), .s (.str b), .s (.int n)]) ?_ (by simp [maskP, range3])
  rw [b_near_step_def, b_near_step_1_def, b_near_step_2_def, b_near_step_3_def]
  have pa : ((0 : Int) < (sa : Int)) ↔ 0 < sa := by omega
  have pb : ((0 : Int) < (sb : Int)) ↔ 0 < sb := by omega
  by_cases q9 : sa = 9 ∧ sb = 9
  · rw [if_pos (.inl q9)]
    rw [decide_eq_true q9] at c9
    simp [c9, boolD]
  · rw [decide_eq_false q9] at c9
    cases ea : eqt x a <;> cases eb : eqt x b <;> rw [ea] at ca ga <;> rw [eb] at cb gb <;> by_cases z1 : 0 < sa <;> by_cases z2 : 0 < sb <;>
      simp [c9, ca, cb, boolD, ixD, L2.atI, L2.ixN, gtD, ordD, q9, z1, z2, ga, gb, sizeLine_eq, nxt]
end K26
/-! k26, plain: the law's ago. -/
namespace K26
open PySem Pu
open PySem.Spec
theorem ainv_uniq {α : Type} {t : α} {n : Nat} {r : List α} {s s' : Nat} (h : AInv t n r s) (h' : AInv t n r s') : s = s' := by
  rcases h with ⟨rfl, h⟩ | ⟨h1, h2, h3, h4, h5⟩ <;> rcases h' with ⟨rfl, h'⟩ | ⟨g1, g2, g3, g4, g5⟩
  · rfl
  · exact absurd g4 (h s' g1 g2 g3)
  · exact absurd h4 (h' s h1 h2 h3)
  · rcases Nat.lt_trichotomy s s' with q | q | q
    · exact absurd h4 (g5 s h1 q)
    · exact q
    · exact absurd g4 (h5 s' g1 q)
theorem head_filter (p : Nat → Bool) (m : Nat) : ((List.range m).filter p = [] ∧ ∀ i, i < m → p i = false) ∨ ∃ k r, (List.range m).filter p = k :: r ∧ k < m ∧ p k = true ∧ ∀ i, i < k → p i = false := by
  induction m with
  | zero => exact .inl ⟨rfl, fun i h => by omega⟩
  | succ m ih =>
    rw [List.range_succ, List.filter_append]
    rcases ih with ⟨e, h⟩ | ⟨k, r, e, h1, h2, h3⟩
    · rw [e, List.nil_append]
      cases q : p m with
      | true => exact .inr ⟨m, [], by simp [q], by omega, q, h⟩
      | false => exact .inl ⟨by simp [q], fun i hi => by
          by_cases z : i = m
          · rw [z]; exact q
          · exact h i (by omega)⟩
    · exact .inr ⟨k, _, by rw [e, List.cons_append], by omega, h2, h3⟩
theorem law_ago_ok {ts : List (Option Str)} {t : Str} {n : Nat} (hr : RowOk ts) (hn : n ≤ 6) : ∃ s : Nat, F_law_ago [.s (rowD ts), .s (.str t), .s (.int (n : Int))] = some (.s (.int (s : Int)), [.un, .un, .un]) ∧ AInv (some t) n ts s := by
  have le := hr.le
  have z : ts.length ≤ 16777216 := by omega
  obtain ⟨m, em, m1⟩ : ∃ m : Nat, min2 (n : Int) (ts.length : Int) = m ∧ m = min n ts.length := ⟨min n ts.length, by unfold min2; split <;> omega, rfl⟩
  have p0 : ∀ i, i < m → ts.length - (i + 1) < ts.length := fun i hi => by omega
  have e : lcF (put 4) (fTst (fOp eqD (wf (fOp ixD (wNm 0) (wf (fOp subD (wf (fCB lenD (wCons (wNm 0) wNil))) (wNm 4))))) (wNm 1))) (fVar 4) [4] ((List.range m).map fun i : Nat => (.int (1 + (i : Int)) : D)) [] [.s (rowD ts), .s (.str t), .s (.int (n : Int)), .un, .un]
      = some ([] ++ ((List.range m).filter fun i => eqt (ts.getD (ts.length - (i + 1)) none) t).map (fun i : Nat => (.int (1 + (i : Int)) : D)), [.s (rowD ts), .s (.str t), .s (.int (n : Int)), .un, .un]) :=
    lcF_filt (fun i hi => by
      have hi := List.mem_range.mp hi
      have a := at_row (ts := ts) (p0 i hi)
      have c := eqD_t (ts.getD (ts.length - (i + 1)) none) t
      have ix : ixD (rowD ts) (.int ((ts.length : Int) - (1 + (i : Int)))) = some (tD (ts.getD (ts.length - (i + 1)) none)) := by
        rw [show (ts.length : Int) - (1 + (i : Int)) = ((ts.length - (i + 1) : Nat) : Int) by omega]
        simp only [ixD, rowD]
        exact a
      generalize ts.getD (ts.length - (i + 1)) none = y at c ix
      cases q : eqt y t with
      | true => rw [q] at c; simp [lcOne, lenD, sizeLine_eq, z, subD, ix, c]
      | false => rw [q] at c; simp [lcOne, lenD, sizeLine_eq, z, subD, ix, c]) (line_of (by rw [List.length_nil, List.length_range]; omega))
  rw [List.nil_append] at e
  have rg : rngD 1 m = (List.range m).map fun i : Nat => (.int (1 + (i : Int)) : D) := rfl
  have in1 := in62_nat (n := 1) (by omega)
  have in2 := in62_nat (n := m + 1) (by omega)
  have in1' : in62 (1 : Int) = true := in1
  have in2' : in62 ((m : Int) + 1) = true := in2
  have nm : ((m : Int) + 1 - 1).toNat = m := by omega
  have spec : ∀ i, i < m → (eqt (ts.getD (ts.length - (i + 1)) none) t = true ↔ ts[ts.length - (i + 1)]? = some (some t)) := fun i hi => by
    rw [eqt_iff, List.getD_eq_getElem?_getD, List.getElem?_eq_getElem (p0 i hi)]
    simp
  rcases head_filter (fun i => eqt (ts.getD (ts.length - (i + 1)) none) t) m with ⟨hf, ha⟩ | ⟨k, r, hf, k1, k2, k3⟩
  · rw [hf] at e
    refine ⟨0, ?_, .inl ⟨rfl, fun b b1 b2 b3 hb => ?_⟩⟩
    · rw [F_law_ago_def]
      refine fnF_rt (ρ' := [.s (rowD ts), .s (.str t), .s (.int (n : Int)), .o (.list []), .un]) ?_ (by simp [maskP, range3])
      rw [b_law_ago_def, b_law_ago_1_def, b_law_ago_2_def]
      have ne : neD (.list []) (.list []) = some (.bool false) := ne_nil rfl
      simp only [List.map_nil] at e
      rw [← rg] at e
      simp [lenD, sizeLine_eq, z, minD, em, addD, in1', in2', nm, e, ne, boolD]
    · have := ha (b - 1) (by omega)
      have h2 := (spec (b - 1) (by omega)).mpr (by rw [show b - 1 + 1 = b by omega]; exact hb)
      rw [h2] at this
      cases this
  · rw [hf] at e
    refine ⟨k + 1, ?_, .inr ⟨by omega, by omega, by omega, (spec k k1).mp k2, fun b b1 b2 hb => ?_⟩⟩
    · rw [F_law_ago_def]
      refine fnF_rt (ρ' := [.s (rowD ts), .s (.str t), .s (.int (n : Int)), .o (.list ((k :: r).map fun i : Nat => (.int (1 + (i : Int)) : D))), .un]) ?_ (by simp [maskP, range3])
      rw [b_law_ago_def, b_law_ago_1_def, b_law_ago_2_def]
      have sh : SeqAt.shaped (.list ((k :: r).map fun i : Nat => (.int (1 + (i : Int)) : D))) = true := (shaped_list fun d hd => by
        obtain ⟨i, hi, rfl⟩ := List.mem_map.mp hd
        have := List.mem_range.mp (List.mem_filter.mp (by rw [hf]; exact hi)).1
        exact ⟨by simp only [L2.tidy, decide_eq_true_eq]; omega, by simp [PyData.depth]⟩).1
      have ne := ne_nil sh
      rw [← rg] at e
      have one : (1 : Int) + (k : Int) = (k : Int) + 1 := by omega
      simp only [List.map_cons, List.isEmpty_cons, Bool.not_false] at e ne
      rw [one] at e ne
      simp [lenD, sizeLine_eq, z, minD, em, addD, in1', in2', nm, e, ne, boolD, ixD, L2.atI, L2.ixN, one]
    · have := k3 (b - 1) (by omega)
      have h2 := (spec (b - 1) (by omega)).mpr (by rw [show b - 1 + 1 = b by omega]; exact hb)
      rw [h2] at this
      cases this
end K26
/-! k26, plain: windows and beginnings. -/
namespace K26
open PySem Pu
open PySem.Spec
theorem cut_win {ts : List (Option Str)} {i n : Nat} (hi : i ≤ ts.length) : Pu.cutL (ts.map tD) (some (i : Int)) (some ((i : Int) + (n : Int))) = ((ts.drop i).take n).map tD := by
  unfold Pu.cutL
  have e1 : HT.sIx (ts.map tD).length 0 (some (i : Int)) = i := by rw [HT.sIx_nat, List.length_map]; omega
  have e2 : HT.sIx (ts.map tD).length (ts.map tD).length (some ((i : Int) + (n : Int))) = min (i + n) ts.length := by
    rw [show (i : Int) + (n : Int) = ((i + n : Nat) : Int) by omega, HT.sIx_nat, List.length_map]
  rw [e1, e2, ← List.map_drop, ← List.map_take]
  congr 1
  rw [List.take_eq_take_iff, List.length_drop]
  omega
theorem strs_opt (l : List Str) : l.map PyData.str = (l.map some).map tD := by simp [tD, Function.comp_def]
theorem win_iff {ts : List (Option Str)} {l : List Str} {i : Nat} (hi : i ≤ ts.length) : win ts l i = true ↔ (ts.drop i).take l.length = l.map some := by
  unfold win
  rw [cut_win hi, strs_opt]
  simp only [PyData.eqv]
  exact eqvAll_tD _ _
theorem win_full {ts : List (Option Str)} {l : List Str} (hl : 0 < l.length) : (List.range ts.length).any (win ts l) = true ↔ Full (l.map some) ts := by
  rw [List.any_eq_true]
  constructor
  · rintro ⟨i, hi, h⟩
    have hi := List.mem_range.mp hi
    have e := (win_iff (by omega)).mp h
    have len := congrArg List.length e
    rw [List.length_take, List.length_drop, List.length_map] at len
    exact ⟨i, by rw [List.length_map]; omega, by rw [List.length_map]; exact e⟩
  · rintro ⟨i, h1, h2⟩
    rw [List.length_map] at h1 h2
    exact ⟨i, List.mem_range.mpr (by omega), (win_iff (by omega)).mpr h2⟩
end K26
/-! k26, plain: the law's state of a row of terms. -/
namespace K26
open PySem Pu
open PySem.Spec
theorem max_nat {ks : List Nat} (h : ks ≠ []) : ∃ s ∈ ks, maxD [.list (ks.map natD)] = some (.int (s : Int)) ∧ ∀ k ∈ ks, k ≤ s := by
  cases ks with
  | nil => exact absurd rfl h
  | cons k r =>
    have e := ints_fn (fun i : Nat => (i : Int)) (k :: r)
    obtain ⟨f1, f2, f3⟩ := foldl_max (r.map fun i : Nat => (i : Int)) (k : Int)
    have mx : maxD [.list ((k :: r).map natD)] = some (.int ((r.map fun i : Nat => (i : Int)).foldl max (k : Int))) := by
      have e' : intsOf ((k :: r).map natD) = some ((k :: r).map fun i : Nat => (i : Int)) := e
      show (intsOf ((k :: r).map natD)).bind _ = _
      rw [e']
      rfl
    rcases f1 with f1 | f1
    · refine ⟨k, by simp, by rw [mx, f1], fun y hy => ?_⟩
      rcases List.mem_cons.mp hy with rfl | hy
      · exact Nat.le_refl _
      · have := f3 (y : Int) (List.mem_map.mpr ⟨y, hy, rfl⟩)
        rw [f1] at this
        omega
    · obtain ⟨s, hs, es⟩ := List.mem_map.mp f1
      refine ⟨s, List.mem_cons_of_mem _ hs, by rw [mx, ← es], fun y hy => ?_⟩
      rw [← es] at f2 f3
      rcases List.mem_cons.mp hy with rfl | hy
      · omega
      · have := f3 (y : Int) (List.mem_map.mpr ⟨y, hy, rfl⟩)
        omega
theorem law_row_ok {ts : List (Option Str)} {l : List Str} (hr : RowOk ts) (h2 : 2 ≤ l.length) (h4 : l.length ≤ 4) (hl : ∀ w ∈ l, Wd w 1 12) : ∃ s : Nat, F_law_state_of [.s (.tuple [.str "row", .tuple (l.map .str)]), .s (rowD ts)] = some (.s (.int (s : Int)), [.un, .un]) ∧ RInv (l.map some) ts s := by
  have le := hr.le
  have z : l.length ≤ 16777216 := by omega
  have zt : ts.length ≤ 16777216 := by omega
  have tr := row_l hr h4 hl
  have pl : ∀ w, some w ∈ l.map some → Tm w := fun w hw => by
    obtain ⟨v, hv, e⟩ := List.mem_map.mp hw
    cases e
    exact wd_tm (hl _ hv)
  have q1 : inD (.str "row") (.tuple [.str "word", .str "starts"]) = some (.bool false) := by unfold inD inB; simp [flatD]
  have q2 : eqD (.str "row") (.str "row") = some (.bool true) := by simp [eqD, eqB, sc2]
  rw [F_law_state_of_def]
  cases w : (List.range ts.length).any (win ts l) with
  | true =>
    rw [w] at tr
    refine ⟨l.length, fnF_rt (ρ' := [.s (.tuple [.str "row", .tuple (l.map .str)]), .s (rowD ts), .un, .un]) ?_ (by simp [maskP, range2]), .inl ⟨(win_full (by omega)).mp w, by rw [List.length_map]⟩⟩
    rw [b_law_state_of_def, b_law_state_of_1_def, b_law_state_of_2_def, b_law_state_of_2a_1_def]
    simp [ixD, L2.atI, L2.ixN, q1, q2, boolD, tr, tru, lenD, sizeLine_eq, z]
  | false =>
    rw [w] at tr
    have nf : ¬ Full (l.map some) ts := fun z => by rw [(win_full (by omega)).mpr z] at w; cases w
    obtain ⟨m, em, m1⟩ : ∃ m : Nat, min2 ((l.length : Int) - 1) (ts.length : Int) = m ∧ m = min (l.length - 1) ts.length := ⟨min (l.length - 1) ts.length, by unfold min2; split <;> omega, rfl⟩
    have e : lcF (put 3) (fTst (fOp eqD (wf (vf (fSl (wNm 1) (oSo (fOp subD (wf (fCB lenD (wCons (wNm 1) wNil))) (wNm 3))) oNo))) (wf (vf (fSl (wf (fOp ixD (wNm 0) (wf (fC (.int 1))))) oNo (oSo (fVar 3))))))) (fVar 3) [3] ((List.range (m + 1)).map natD) [] [.s (.tuple [.str "row", .tuple (l.map .str)]), .s (rowD ts), .un, .un]
        = some ([] ++ ((List.range (m + 1)).filter fun k => decide (ts.drop (ts.length - k) = (l.map some).take k)).map natD, [.s (.tuple [.str "row", .tuple (l.map .str)]), .s (rowD ts), .un, .un]) :=
      lcF_filt (fun k hk => by
        have hk := List.mem_range.mp hk
        have e1 : Pu.cutL (ts.map tD) (some ((ts.length : Int) - (k : Int))) none = (ts.drop (ts.length - k)).map tD := by
          rw [show (ts.length : Int) - (k : Int) = ((ts.length - k : Nat) : Int) by omega, cut_lo (by rw [List.length_map]; omega), List.map_drop]
        have e2 : Pu.cutL (l.map PyData.str) none (some (k : Int)) = ((l.map some).take k).map tD := by rw [strs_opt, cut_hi, List.map_take]
        have e3 := eqD_rows (a := ts.drop (ts.length - k)) (b := (l.map some).take k) (fun w hw => hr.tm w (List.mem_of_mem_drop hw)) (fun w hw => pl w (List.mem_of_mem_take hw))
        generalize (ts.drop (ts.length - k)).map tD = A at e1 e3
        generalize ((l.map some).take k).map tD = B at e2 e3
        cases q : decide (ts.drop (ts.length - k) = (l.map some).take k) with
        | true => rw [q] at e3; simp [lcOne, lenD, sizeLine_eq, zt, subD, sliceD, e1, e2, e3, ixD, L2.atI, L2.ixN, boolD]
        | false => rw [q] at e3; simp [lcOne, lenD, sizeLine_eq, zt, subD, sliceD, e1, e2, e3, ixD, L2.atI, L2.ixN, boolD]) (line_of (by rw [List.length_nil, List.length_range]; omega))
    rw [List.nil_append] at e
    generalize hks : (List.range (m + 1)).filter (fun k => decide (ts.drop (ts.length - k) = (l.map some).take k)) = ks at e
    have mem : ∀ k, k ∈ ks ↔ k ≤ m ∧ ts.drop (ts.length - k) = (l.map some).take k := fun k => by
      rw [← hks, List.mem_filter, List.mem_range, decide_eq_true_eq]
      exact ⟨fun h => ⟨by have := h.1; omega, h.2⟩, fun h => ⟨by have := h.1; omega, h.2⟩⟩
    have k0 : 0 ∈ ks := (mem 0).mpr ⟨by omega, by simp⟩
    obtain ⟨s, hs, emx, smax⟩ := max_nat (ks := ks) (fun z => by rw [z] at k0; cases k0)
    obtain ⟨s1, s2⟩ := (mem s).mp hs
    refine ⟨s, fnF_rt (ρ' := [.s (.tuple [.str "row", .tuple (l.map .str)]), .s (rowD ts), .o (.list (ks.map natD)), .un]) ?_ (by simp [maskP, range2]), .inr ⟨nf, by rw [List.length_map]; omega, ⟨by omega, by rw [List.length_map]; omega, s2⟩, fun k k1 kb => smax k ((mem k).mpr ⟨by rw [List.length_map] at k1; have := kb.1; omega, kb.2.2⟩)⟩⟩
    have in1 := in62_nat (n := m + 1) (by omega)
    have in1' : in62 ((m : Int) + 1) = true := in1
    have nm : ((m : Int) + 1).toNat = m + 1 := by omega
    have rg := rng_map (m + 1)
    rw [b_law_state_of_def, b_law_state_of_1_def, b_law_state_of_2_def, b_law_state_of_2a_1_def, b_law_state_of_2a_2_def, b_law_state_of_2a_3_def]
    simp [ixD, L2.atI, L2.ixN, q1, q2, boolD, tr, tru, lenD, sizeLine_eq, z, zt, subD, minD, em, addD, in1', nm, rg, e, emx]
end K26
/-! k26, plain: nearness, both sides. -/
namespace K26
open PySem Pu
open PySem.Spec
theorem ones_iff {ts : List (Option Str)} {w : Str} {i : Nat} : i ∈ onesL ts w ↔ ts[i]? = some (some w) := by
  unfold onesL
  rw [List.mem_filter, List.mem_range]
  constructor
  · rintro ⟨h1, h2⟩
    have := eqt_iff.mp h2
    rw [List.getD_eq_getElem?_getD, List.getElem?_eq_getElem h1] at this
    rw [List.getElem?_eq_getElem h1]
    simpa using this
  · intro h
    have h1 := (List.getElem?_eq_some_iff.mp h).1
    refine ⟨h1, eqt_iff.mpr ?_⟩
    rw [List.getD_eq_getElem?_getD, h]
    rfl
theorem nr_iff {n k j : Nat} : nr (n : Int) k j = true ↔ k ≠ j ∧ k - j ≤ n ∧ j - k ≤ n := by
  unfold nr
  rw [Bool.and_eq_true, decide_eq_true_eq, decide_eq_true_eq]
  constructor
  · rintro ⟨h1, h2⟩
    refine ⟨h1, ?_, ?_⟩ <;> split at h2 <;> omega
  · rintro ⟨h1, h2, h3⟩
    refine ⟨h1, ?_⟩
    split <;> omega
theorem near_iff {ts : List (Option Str)} {a b : Str} {n : Nat} : ((onesL ts a).any fun k => (onesL ts b).any (nr (n : Int) k)) = true ↔ Near (some a) (some b) n ts := by
  rw [List.any_eq_true]
  constructor
  · rintro ⟨k, hk, h⟩
    obtain ⟨j, hj, h⟩ := List.any_eq_true.mp h
    obtain ⟨h1, h2, h3⟩ := nr_iff.mp h
    exact ⟨k, j, h1, ones_iff.mp hk, ones_iff.mp hj, h2, h3⟩
  · rintro ⟨k, j, h1, h2, h3, h4, h5⟩
    exact ⟨k, ones_iff.mpr h2, List.any_eq_true.mpr ⟨j, ones_iff.mpr h3, nr_iff.mpr ⟨h1, h4, h5⟩⟩⟩
/-- the state of nearness behind a row -/
def NInv (a b : Str) (n : Nat) (ts : List (Option Str)) (st : D) : Prop :=
  (Near (some a) (some b) n ts ∧ st = .tuple [.int 9, .int 9]) ∨ (¬ Near (some a) (some b) n ts ∧ ∃ sa sb : Nat, st = .tuple [.int (sa : Int), .int (sb : Int)] ∧ AInv (some a) n ts sa ∧ AInv (some b) n ts sb)
theorem ainv_le {α : Type} {t : α} {n : Nat} {r : List α} {s : Nat} (h : AInv t n r s) : s ≤ n := by
  rcases h with ⟨rfl, _⟩ | ⟨_, h, _⟩
  · exact Nat.zero_le _
  · exact h
theorem law_near_ok {ts : List (Option Str)} {a b : Str} {n : Nat} (hr : RowOk ts) (hn : n ≤ 6) : ∃ st, F_law_state_of [.s (.tuple [.str "near", .str a, .str b, .int (n : Int)]), .s (rowD ts)] = some (.s st, [.un, .un]) ∧ NInv a b n ts st := by
  have tr := near_l (a := a) (b := b) (n := (n : Int)) hr
  have q1 : inD (.str "near") (.tuple [.str "word", .str "starts"]) = some (.bool false) := by unfold inD inB; simp [flatD]
  have q2 : eqD (.str "near") (.str "row") = some (.bool false) := by simp [eqD, eqB, sc2]
  rw [F_law_state_of_def]
  cases w : (onesL ts a).any fun k => (onesL ts b).any (nr (n : Int) k) with
  | true =>
    rw [w] at tr
    refine ⟨_, fnF_rt (ρ' := [.s (.tuple [.str "near", .str a, .str b, .int (n : Int)]), .s (rowD ts), .un, .un]) (r := .s (.tuple [.int 9, .int 9])) ?_ (by simp [maskP, range2]), .inl ⟨near_iff.mp w, rfl⟩⟩
    rw [b_law_state_of_def, b_law_state_of_1_def, b_law_state_of_2_def, b_law_state_of_3_def]
    simp [ixD, L2.atI, L2.ixN, q1, q2, boolD, tr, tru, sizeLine_eq]
  | false =>
    rw [w] at tr
    obtain ⟨sa, ea, ia⟩ := law_ago_ok (t := a) hr hn
    obtain ⟨sb, eb, ib⟩ := law_ago_ok (t := b) hr hn
    refine ⟨_, fnF_rt (ρ' := [.s (.tuple [.str "near", .str a, .str b, .int (n : Int)]), .s (rowD ts), .un, .un]) (r := .s (.tuple [.int (sa : Int), .int (sb : Int)])) ?_ (by simp [maskP, range2]), .inr ⟨fun z => (by rw [near_iff.mpr z] at w; cases w), sa, sb, rfl, ia, ib⟩⟩
    rw [b_law_state_of_def, b_law_state_of_1_def, b_law_state_of_2_def, b_law_state_of_3_def, b_law_state_of_4_def]
    simp [ixD, L2.atI, L2.ixN, q1, q2, boolD, tr, tru, sizeLine_eq, ea, eb]
theorem nxt_inv {ts : List (Option Str)} {t : Str} {n s : Nat} {x : Option Str} (hn : 1 ≤ n) (h : AInv (some t) n ts s) : ∃ s' : Nat, nxt (eqt x t) s (n : Int) = (s' : Int) ∧ AInv (some t) n (ts ++ [x]) s' := by
  cases q : eqt x t with
  | true =>
    have := eqt_iff.mp q
    subst this
    exact ⟨1, rfl, ainv_here hn⟩
  | false =>
    have hx : x ≠ some t := fun z => by rw [eqt_iff.mpr z] at q; cases q
    refine ⟨_, ?_, ainv_not h hx⟩
    unfold nxt
    simp only [Bool.false_eq_true, if_false]
    by_cases c : 0 < s ∧ s < n
    · rw [if_pos c, if_pos ⟨by omega, by omega⟩]; omega
    · rw [if_neg c, if_neg (by omega)]; rfl
theorem near_keep {ts : List (Option Str)} {a b : Str} {n : Nat} {x : Option Str} {st : D} (hn : 1 ≤ n) (hn6 : n ≤ 6) (h : NInv a b n ts st) :
    ∃ st', F_near_step [.s (.tuple [.str "near", .str a, .str b, .int (n : Int)]), .s st, .s (tD x)] = some (.s st', [.un, .un, .un]) ∧ NInv a b n (ts ++ [x]) st' := by
  have sn : ∀ {sa sb : Nat}, AInv (some a) n ts sa → AInv (some b) n ts sb → (Near (some a) (some b) n (ts ++ [x]) ↔ Near (some a) (some b) n ts ∨ (x = some a ∧ 0 < sb) ∨ (x = some b ∧ 0 < sa)) := fun ha hb => near_snoc ha hb
  rcases h with ⟨hn', rfl⟩ | ⟨hn', sa, sb, rfl, ha, hb⟩
  · obtain ⟨os, e, rfl⟩ := near_step_ok (a := a) (b := b) (n := (n : Int)) (x := x) (sa := 9) (sb := 9) (by omega) (by omega)
    rw [if_pos (.inl ⟨rfl, rfl⟩)] at e
    refine ⟨_, e, .inl ⟨?_, rfl⟩⟩
    obtain ⟨k, j, h1, h2, h3, h4, h5⟩ := hn'
    exact ⟨k, j, h1, by rw [List.getElem?_append_left (List.getElem?_eq_some_iff.mp h2).1]; exact h2, by rw [List.getElem?_append_left (List.getElem?_eq_some_iff.mp h3).1]; exact h3, h4, h5⟩
  · have la := ainv_le ha
    have lb := ainv_le hb
    obtain ⟨os, e, rfl⟩ := near_step_ok (a := a) (b := b) (n := (n : Int)) (x := x) (sa := sa) (sb := sb) (by omega) (by omega)
    by_cases c : (x = some a ∧ 0 < sb) ∨ (x = some b ∧ 0 < sa)
    · rw [if_pos (by rw [eqt_iff, eqt_iff]; exact .inr c)] at e
      exact ⟨_, e, .inl ⟨(sn ha hb).mpr (.inr c), rfl⟩⟩
    · rw [if_neg (by rw [eqt_iff, eqt_iff]; rintro (z | z); omega; exact c z)] at e
      obtain ⟨sa', ea, ia⟩ := nxt_inv (x := x) hn ha
      obtain ⟨sb', eb, ib⟩ := nxt_inv (x := x) hn hb
      rw [ea, eb] at e
      refine ⟨_, e, .inr ⟨fun z => ?_, sa', sb', rfl, ia, ib⟩⟩
      rcases (sn ha hb).mp z with z | z
      · exact hn' z
      · exact c z
end K26
/-! k26, plain: states of looks, both sides. -/
namespace K26
open PySem Pu
open PySem.Spec
def b01 (b : Bool) : D := .int (if b = true then 1 else 0)
/-- the state st of the look k behind the row ts -/
inductive LI : D → List (Option Str) → D → Prop
  | word {w : Str} {ts : List (Option Str)} : LI (.tuple [.str "word", .str w]) ts (b01 (ts.any fun t => eqt t w))
  | starts {w : Str} {ts : List (Option Str)} : LI (.tuple [.str "starts", .str w]) ts (b01 (ts.any (swt w)))
  | row {l : List Str} {ts : List (Option Str)} {s : Nat} : RInv (l.map some) ts s → LI (.tuple [.str "row", .tuple (l.map .str)]) ts (.int (s : Int))
  | near {a b : Str} {n : Nat} {ts : List (Option Str)} {st : D} : NInv a b n ts st → LI (.tuple [.str "near", .str a, .str b, .int (n : Int)]) ts st
theorem law_state {d k : D} {ts : List (Option Str)} (h : Lk d k) (hr : RowOk ts) : ∃ st, F_law_state_of [.s k, .s (rowD ts)] = some (.s st, [.un, .un]) ∧ LI k ts st := by
  cases h with
  | @word f w hf hw =>
    have q1 : inD (.str "word") (.tuple [.str "word", .str "starts"]) = some (.bool true) := by unfold inD inB; simp [flatD]
    have tr := word_l (ts := ts) (w := w)
    refine ⟨_, ?_, .word⟩
    rw [F_law_state_of_def]
    refine fnF_rt (ρ' := [.s (.tuple [.str "word", .str w]), .s (rowD ts), .un, .un]) ?_ (by simp [maskP, range2])
    rw [b_law_state_of_def, b_law_state_of_1_def]
    simp only [rowD] at tr
    generalize (ts.any fun t => eqt t w) = b at tr ⊢
    simp [ixD, L2.atI, L2.ixN, q1, boolD, tr, intD, b01, sizeLine_eq]
  | @starts f w hf hw =>
    have q1 : inD (.str "starts") (.tuple [.str "word", .str "starts"]) = some (.bool true) := by unfold inD inB; simp [flatD]
    have tr := starts_l (ts := ts) (w := w) hr (by have := (lens hw).2; omega)
    refine ⟨_, ?_, .starts⟩
    rw [F_law_state_of_def]
    refine fnF_rt (ρ' := [.s (.tuple [.str "starts", .str w]), .s (rowD ts), .un, .un]) ?_ (by simp [maskP, range2])
    rw [b_law_state_of_def, b_law_state_of_1_def]
    simp only [rowD] at tr
    generalize ts.any (swt w) = b at tr ⊢
    simp [ixD, L2.atI, L2.ixN, q1, boolD, tr, intD, b01, sizeLine_eq]
  | row hf h2 h4 hw =>
    obtain ⟨s, e, i⟩ := law_row_ok hr h2 h4 hw
    exact ⟨_, e, .row i⟩
  | @near f a b n hf ha hb h1 h6 =>
    obtain ⟨m, rfl⟩ : ∃ m : Nat, n = m := ⟨n.toNat, by omega⟩
    obtain ⟨st, e, i⟩ := law_near_ok (a := a) (b := b) (n := m) hr (by omega)
    exact ⟨_, e, .near i⟩
theorem step_word {w : Str} {ts : List (Option Str)} {x : Option Str} : F_look_step [.s (.tuple [.str "word", .str w]), .s (b01 (ts.any fun t => eqt t w)), .s (tD x)] = some (.s (b01 ((ts ++ [x]).any fun t => eqt t w)), [.un, .un, .un]) := by
  have c := eqD_t x w
  have e : (ts ++ [x]).any (fun t => eqt t w) = ((ts.any fun t => eqt t w) || eqt x w) := by rw [List.any_append]; simp
  rw [e, F_look_step_def]
  generalize (ts.any fun t => eqt t w) = b
  refine fnF_rt (ρ' := [.s (.tuple [.str "word", .str w]), .s (b01 b), .s (tD x)]) ?_ (by simp [maskP, range3])
  rw [b_look_step_def, b_look_step_1_def]
  have k0 : eqD (.str "word") (.str "word") = some (.bool true) := by simp [eqD, eqB, sc2]
  cases q : eqt x w <;> rw [q] at c <;> cases b <;> simp [ixD, L2.atI, L2.ixN, k0, c, boolD, b01]
theorem step_starts {w : Str} {ts : List (Option Str)} {x : Option Str} : F_look_step [.s (.tuple [.str "starts", .str w]), .s (b01 (ts.any (swt w))), .s (tD x)] = some (.s (b01 ((ts ++ [x]).any (swt w))), [.un, .un, .un]) := by
  have e : (ts ++ [x]).any (swt w) = (ts.any (swt w) || swt w x) := by rw [List.any_append]; simp
  rw [e, F_look_step_def]
  generalize ts.any (swt w) = b
  refine fnF_rt (ρ' := [.s (.tuple [.str "starts", .str w]), .s (b01 b), .s (tD x)]) ?_ (by simp [maskP, range3])
  rw [b_look_step_def, b_look_step_1_def, b_look_step_2_def]
  have k0 : eqD (.str "starts") (.str "word") = some (.bool false) := by simp [eqD, eqB, sc2]
  have k1 : eqD (.str "starts") (.str "starts") = some (.bool true) := by simp [eqD, eqB, sc2]
  cases x with
  | none => cases b <;> simp [ixD, L2.atI, L2.ixN, k0, k1, boolD, b01, swt, tD, notND, isNo]
  | some v =>
    cases q : Txt.startswith v w <;> cases b <;> simp [ixD, L2.atI, L2.ixN, k0, k1, boolD, b01, swt, tD, notND, isNo, strB, q, tru]
theorem step_near {a b : Str} {n : Nat} {ts : List (Option Str)} {x : Option Str} {st : D} (hn : 1 ≤ n) (hn6 : n ≤ 6) (h : NInv a b n ts st) :
    ∃ st', F_look_step [.s (.tuple [.str "near", .str a, .str b, .int (n : Int)]), .s st, .s (tD x)] = some (.s st', [.un, .un, .un]) ∧ NInv a b n (ts ++ [x]) st' := by
  obtain ⟨st', e, i⟩ := near_keep (x := x) hn hn6 h
  refine ⟨st', ?_, i⟩
  rw [F_look_step_def]
  refine fnF_rt (ρ' := [.s (.tuple [.str "near", .str a, .str b, .int (n : Int)]), .s st, .s (tD x)]) ?_ (by simp [maskP, range3])
  rw [b_look_step_def, b_look_step_1_def, b_look_step_2_def, b_look_step_3_def, b_look_step_4_def]
  have k0 : eqD (.str "near") (.str "word") = some (.bool false) := by simp [eqD, eqB, sc2]
  have k1 : eqD (.str "near") (.str "starts") = some (.bool false) := by simp [eqD, eqB, sc2]
  have k2 : eqD (.str "near") (.str "row") = some (.bool false) := by simp [eqD, eqB, sc2]
  simp [ixD, L2.atI, L2.ixN, k0, k1, k2, boolD, e]
theorem step_row {l : List Str} {ts : List (Option Str)} {x : Option Str} {s : Nat} (h2 : 2 ≤ l.length) (h4 : l.length ≤ 4) (hl : ∀ w ∈ l, Wd w 1 12) (hx : Ot x) (h : RInv (l.map some) ts s) :
    ∃ s' : Nat, F_look_step [.s (.tuple [.str "row", .tuple (l.map .str)]), .s (.int (s : Int)), .s (tD x)] = some (.s (.int (s' : Int)), [.un, .un, .un]) ∧ RInv (l.map some) (ts ++ [x]) s' := by
  have pl : ∀ w, some w ∈ l.map some → Tm w := fun w hw => by
    obtain ⟨v, hv, e⟩ := List.mem_map.mp hw
    cases e
    exact wd_tm (hl _ hv)
  have sl : s ≤ (l.map some).length := by
    rcases h with ⟨_, h⟩ | ⟨_, h, _⟩ <;> omega
  have e := row_step_ok (p := l.map some) (x := x) (s := s) pl hx (by rw [List.length_map]; omega) sl
  have i := rinv_step (x := x) (c := cR (l.map some) s x) (by rw [List.length_map]; omega) h (fun m m1 m2 => by unfold cR; rw [decide_eq_true_eq])
  refine ⟨_, ?_, i⟩
  rw [← strs_opt] at e
  rw [F_look_step_def]
  refine fnF_rt (ρ' := [.s (.tuple [.str "row", .tuple (l.map .str)]), .s (.int (s : Int)), .s (tD x)]) ?_ (by simp [maskP, range3])
  rw [b_look_step_def, b_look_step_1_def, b_look_step_2_def, b_look_step_3_def]
  have k0 : eqD (.str "row") (.str "word") = some (.bool false) := by simp [eqD, eqB, sc2]
  have k1 : eqD (.str "row") (.str "starts") = some (.bool false) := by simp [eqD, eqB, sc2]
  have k2 : eqD (.str "row") (.str "row") = some (.bool true) := by simp [eqD, eqB, sc2]
  generalize (if s = (l.map some).length then s else gr (cR (l.map some) s x) (s + 1)) = s' at e ⊢
  simp [ixD, L2.atI, L2.ixN, k0, k1, k2, boolD, e]
theorem look_keep {d k st : D} {ts : List (Option Str)} {x : Option Str} (hk : Lk d k) (hx : Ot x) (h : LI k ts st) : ∃ st', F_look_step [.s k, .s st, .s (tD x)] = some (.s st', [.un, .un, .un]) ∧ LI k (ts ++ [x]) st' := by
  cases hk with
  | word hf hw =>
    cases h with
    | word => exact ⟨_, step_word, .word⟩
  | starts hf hw =>
    cases h with
    | starts => exact ⟨_, step_starts, .starts⟩
  | @row f l hf h2 h4 hl =>
    generalize hD : PyData.tuple [.str "row", .tuple (l.map .str)] = kk at h ⊢
    cases h with
    | word => simp at hD
    | starts => simp at hD
    | near _ => simp at hD
    | @row l' _ s hs =>
      simp only [PyData.tuple.injEq, List.cons.injEq, true_and, and_true] at hD
      have e : l' = l := by
        have := strsOf_map l'
        have q := strsOf_map l
        rw [hD] at q
        rw [q] at this
        exact (Option.some.inj this).symm
      subst e
      obtain ⟨s', e1, i1⟩ := step_row h2 h4 hl hx hs
      exact ⟨_, e1, .row i1⟩
  | near hf ha hb h1 h6 =>
    cases h with
    | near hN =>
      obtain ⟨st', e1, i1⟩ := step_near (x := x) (by omega) (by omega) hN
      exact ⟨_, e1, .near i1⟩
end K26
/-! k26: one state alone. -/
namespace K26
open PySem Pu
theorem rinv_uniq {α : Type} {p r : List α} {s s' : Nat} (h : RInv p r s) (h' : RInv p r s') : s = s' := by
  rcases h with ⟨f, rfl⟩ | ⟨f, h1, h2, h3⟩ <;> rcases h' with ⟨g, rfl⟩ | ⟨g, g1, g2, g3⟩
  · rfl
  · exact absurd f g
  · exact absurd g f
  · have a := h3 s' g1 g2
    have b := g3 s h1 h2
    omega
theorem ninv_uniq {a b : Str} {n : Nat} {ts : List (Option Str)} {st st' : D} (h : NInv a b n ts st) (h' : NInv a b n ts st') : st = st' := by
  rcases h with ⟨f, rfl⟩ | ⟨f, sa, sb, rfl, h1, h2⟩ <;> rcases h' with ⟨g, rfl⟩ | ⟨g, sa', sb', rfl, g1, g2⟩
  · rfl
  · exact absurd f g
  · exact absurd g f
  · rw [ainv_uniq h1 g1, ainv_uniq h2 g2]
theorem ninv_nil (a b : Str) (n : Nat) : NInv a b n [] (.tuple [.int 0, .int 0]) := by
  refine .inr ⟨?_, 0, 0, rfl, ainv_nil _ _, ainv_nil _ _⟩
  rintro ⟨k, j, _, h, _⟩
  cases h
end K26
/-! k26, plain: the states of all looks. -/
namespace K26
open PySem Pu
open PySem.Spec
theorem li_row {l : List Str} {ts : List (Option Str)} {st : D} (h : LI (.tuple [.str "row", .tuple (l.map .str)]) ts st) : ∃ s : Nat, st = .int (s : Int) ∧ RInv (l.map some) ts s := by
  generalize hD : PyData.tuple [.str "row", .tuple (l.map .str)] = kk at h
  cases h with
  | word => simp at hD
  | starts => simp at hD
  | near _ => simp at hD
  | @row l' _ s hs =>
    simp only [PyData.tuple.injEq, List.cons.injEq, true_and, and_true] at hD
    have e : l' = l := by
      have := strsOf_map l'
      have q := strsOf_map l
      rw [hD] at q
      rw [q] at this
      exact (Option.some.inj this).symm
    subst e
    exact ⟨s, rfl, hs⟩
theorem li_uniq {d k st st' : D} {ts : List (Option Str)} (hk : Lk d k) (h : LI k ts st) (h' : LI k ts st') : st = st' := by
  cases hk with
  | word hf hw => cases h; cases h'; rfl
  | starts hf hw => cases h; cases h'; rfl
  | row hf h2 h4 hl =>
    obtain ⟨s, rfl, i⟩ := li_row h
    obtain ⟨s', rfl, i'⟩ := li_row h'
    rw [rinv_uniq i i']
  | near hf ha hb h1 h6 =>
    cases h with
    | near hN =>
      generalize hst : st' = z at h'
      cases h' with
      | near hN' => exact ninv_uniq hN hN'
noncomputable def stOf (k : D) (ts : List (Option Str)) : D := @Classical.epsilon D ⟨.none⟩ fun st => LI k ts st
theorem st_li {k st : D} {ts : List (Option Str)} (h : LI k ts st) : LI k ts (stOf k ts) := @Classical.epsilon_spec D (fun st => LI k ts st) ⟨st, h⟩
theorem st_of {d k st : D} {ts : List (Option Str)} (hk : Lk d k) (h : LI k ts st) : st = stOf k ts := li_uniq hk h (st_li h)
theorem law_st {d k : D} {ts : List (Option Str)} (h : Lk d k) (hr : RowOk ts) : F_law_state_of [.s k, .s (rowD ts)] = some (.s (stOf k ts), [.un, .un]) ∧ LI k ts (stOf k ts) := by
  obtain ⟨st, e, i⟩ := law_state h hr
  rw [e, ← st_of h i]
  exact ⟨rfl, i⟩
theorem step_st {d k : D} {ts : List (Option Str)} {x : Option Str} (hk : Lk d k) (hx : Ot x) (h : LI k ts (stOf k ts)) : F_look_step [.s k, .s (stOf k ts), .s (tD x)] = some (.s (stOf k (ts ++ [x])), [.un, .un, .un]) ∧ LI k (ts ++ [x]) (stOf k (ts ++ [x])) := by
  obtain ⟨st, e, i⟩ := look_keep hk hx h
  rw [e, ← st_of hk i]
  exact ⟨rfl, i⟩
/-- what the first state of a look is -/
def st0 : D → D
  | .tuple (.str w :: _) => if w = "near" then .tuple [.int 0, .int 0] else .int 0
  | _ => .int 0
theorem li_nil {d k : D} (hk : Lk d k) : LI k [] (st0 k) := by
  cases hk with
  | word hf hw => exact .word
  | starts hf hw => exact .starts
  | row hf h2 h4 hl =>
    have := @LI.row _ [] 0 (rinv_nil (p := (‹List Str› : List Str).map some) (by rw [List.length_map]; omega))
    exact this
  | @near f a b n hf ha hb h1 h6 =>
    obtain ⟨m, rfl⟩ : ∃ m : Nat, n = m := ⟨n.toNat, by omega⟩
    exact .near (ninv_nil _ _ _)
theorem st_nil {d k : D} (hk : Lk d k) : stOf k [] = st0 k := (st_of hk (li_nil hk)).symm
def IsLk (k : D) : Prop := ∃ d, Lk d k
theorem lk_shape {k : D} (h : IsLk k) : ∃ w r, k = .tuple (.str w :: r) := by
  obtain ⟨d, h⟩ := h
  cases h <;> exact ⟨_, _, rfl⟩
theorem first_ok {ks : List D} (h : ∀ k ∈ ks, IsLk k) (hl : ks.length ≤ 1000) : F_first_states [.s (.tuple ks)] = some (.s (.tuple (ks.map fun k => stOf k [])), [.un]) := by
  rw [F_first_states_def]
  refine fnF_rt (ρ' := [.s (.tuple ks), .un]) ?_ (by simp [maskP, range1])
  rw [b_first_states_def]
  have e : lcF (put 1) fYes (fIf (fTst (fOp eqD (wf (fOp ixD (wNm 1) (wf (fC (.int 0))))) (wf (fC (.str "near"))))) (fTup (fCons (fC (.int 0)) (fCons (fC (.int 0)) fNil))) (fC (.int 0))) [1] ks [] [.s (.tuple ks), .un] = some ([] ++ ks.map fun k => stOf k [], [.s (.tuple ks), .un]) :=
    lcF_map (fun k hk => by
      obtain ⟨d, hd⟩ := h k hk
      rw [st_nil hd]
      obtain ⟨w, r, rfl⟩ := lk_shape (h k hk)
      by_cases q : w = "near"
      · subst q
        have c : eqD (.str "near") (.str "near") = some (.bool true) := by simp [eqD, eqB, sc2]
        simp [lcOne, ixD, L2.atI, L2.ixN, c, boolD, st0, sizeLine_eq]
      · have c : eqD (.str w) (.str "near") = some (.bool false) := by simp [eqD, eqB, sc2, q]
        simp [lcOne, ixD, L2.atI, L2.ixN, c, boolD, st0, q, sizeLine_eq]) (line_of (by rw [List.length_nil]; omega))
  rw [List.nil_append] at e
  simp [walkD, e, tupleD]
end K26
/-! k26, plain: states behind rows. -/
namespace K26
open PySem Pu
open PySem.Spec
theorem li_at {k : D} {ts : List (Option Str)} (h : IsLk k) (hr : RowOk ts) : LI k ts (stOf k ts) := by
  obtain ⟨d, h⟩ := h
  exact (law_st h hr).2
noncomputable abbrev stsOf (ks : List D) (ts : List (Option Str)) : D := .tuple (ks.map fun k => stOf k ts)
theorem step_on_ok {ks : List D} {ts : List (Option Str)} {x : Option Str} (h : ∀ k ∈ ks, IsLk k) (hl : ks.length ≤ 1000) (hr : RowOk ts) (hx : Ot x) :
    F_step_on [.s (.tuple ks), .s (stsOf ks ts), .s (tD x)] = some (.s (stsOf ks (ts ++ [x])), [.un, .un, .un]) := by
  rw [F_step_on_def]
  refine fnF_rt (ρ' := [.s (.tuple ks), .s (stsOf ks ts), .s (tD x), .un, .un]) ?_ (by simp [maskP, range3])
  rw [b_step_on_def]
  have e : lcF (puTup 2 (puCons (put 3) (puCons (put 4) puNil))) fYes (vf (fCall 3 F_look_step [] (aS (fVar 3) (aS (fVar 4) (aS (fVar 2) aNil))))) [3, 4] (ks.map fun k => .tuple [k, stOf k ts]) [] [.s (.tuple ks), .s (stsOf ks ts), .s (tD x), .un, .un]
      = some ([] ++ ks.map fun k => stOf k (ts ++ [x]), [.s (.tuple ks), .s (stsOf ks ts), .s (tD x), .un, .un]) :=
    lcF_maps (fun k hk => by
      obtain ⟨d, hd⟩ := h k hk
      have st := (step_st hd hx (li_at (h k hk) hr)).1
      generalize stsOf ks ts = S
      simp [lcOne, st]) (line_of (by rw [List.length_nil]; omega))
  have p := pairUp_map (fun k : D => k) (fun k => stOf k ts) ks
  rw [List.map_id'] at p
  rw [List.nil_append] at e
  simp only [stsOf] at e p ⊢
  generalize (ks.map fun k => stOf k (ts ++ [x])) = W at e ⊢
  generalize (ks.map fun k => stOf k ts) = V at e p ⊢
  simp [p, e, tupleD]
theorem row_take {ts : List (Option Str)} (hr : RowOk ts) (i : Nat) : RowOk (ts.take i) := ⟨by rw [List.length_take]; have := hr.le; omega, fun w hw => hr.tm w (List.mem_of_mem_take hw)⟩
theorem behind_ok {ks : List D} {ts : List (Option Str)} (h : ∀ k ∈ ks, IsLk k) (hl : ks.length ≤ 1000) (hr : RowOk ts) :
    F_state_behind [.s (.tuple ks), .s (rowD ts)] = some (.s (stsOf ks ts), [.un, .un]) := by
  rw [F_state_behind_def]
  have e0 := first_ok h hl
  obtain ⟨ρ', e, t, rfl, ht⟩ := loopF_inv (g := put 3) (b := sAsg (fCall 3 F_step_on [] (aS (fVar 0) (aS (fVar 2) (aS (fVar 3) aNil)))) (put 2)) (ds := ts.map tD)
    (I := fun i ρ => ∃ t, ρ = [.s (.tuple ks), .s (rowD ts), .s (stsOf ks (ts.take i)), t] ∧ (t = .un ∨ ∃ d, t = .s d)) (ρ := [.s (.tuple ks), .s (rowD ts), .s (stsOf ks []), .un]) 0 (by
      rintro i d _ hd ⟨t, rfl, ht⟩
      rw [List.getElem?_map] at hd
      cases hp : ts[i]? with
      | none => rw [hp] at hd; cases hd
      | some x =>
        rw [hp] at hd
        cases hd
        have hm := List.mem_of_getElem? hp
        have st := step_on_ok (x := x) h hl (row_take hr i) (fun w hw => hr.tm w (hw ▸ hm))
        have tk : ts.take (i + 1) = ts.take i ++ [x] := by rw [List.take_add_one, hp]; rfl
        refine ⟨_, ?_, .s (tD x), by rw [Nat.zero_add, tk], .inr ⟨_, rfl⟩⟩
        rw [Nat.zero_add]
        generalize rowD ts = R
        generalize stsOf ks (ts.take i ++ [x]) = A at st ⊢
        generalize stsOf ks (ts.take i) = B at st ⊢
        generalize tD x = y at st ⊢
        rcases ht with rfl | ⟨_, rfl⟩ <;> simp [turnF, st]) ⟨.un, by simp, .inl rfl⟩
  rw [Nat.zero_add, List.length_map, List.take_length] at e
  refine fnF_rt (ρ' := [.s (.tuple ks), .s (rowD ts), .s (stsOf ks ts), t]) ?_ (by simp [maskP, range2])
  rw [b_state_behind_def, b_state_behind_1_def, b_state_behind_2_def, b_state_behind_3_def]
  have w : walkD (rowD ts) = some (ts.map tD) := rfl
  generalize rowD ts = R at e w ⊢
  simp only [stsOf] at e e0 ⊢
  generalize (ks.map fun k => stOf k ts) = V at e ⊢
  generalize (ks.map fun k => stOf k []) = V0 at e e0 ⊢
  simp [e0, e, w]
theorem law_states_ok {ks : List D} {ts : List (Option Str)} (h : ∀ k ∈ ks, IsLk k) (hl : ks.length ≤ 1000) (hr : RowOk ts) :
    F_law_states_of [.s (.tuple ks), .s (rowD ts)] = some (.s (stsOf ks ts), [.un, .un]) := by
  rw [F_law_states_of_def]
  refine fnF_rt (ρ' := [.s (.tuple ks), .s (rowD ts), .un]) ?_ (by simp [maskP, range2])
  rw [b_law_states_of_def]
  have e : lcF (put 2) fYes (vf (fCall 2 F_law_state_of [] (aS (fVar 2) (aS (fVar 1) aNil)))) [2] ks [] [.s (.tuple ks), .s (rowD ts), .un] = some ([] ++ ks.map fun k => stOf k ts, [.s (.tuple ks), .s (rowD ts), .un]) :=
    lcF_map (fun k hk => by
      obtain ⟨d, hd⟩ := h k hk
      have st := (law_st hd hr).1
      generalize rowD ts = R at st ⊢
      simp [lcOne, st]) (line_of (by rw [List.length_nil]; omega))
  rw [List.nil_append] at e
  generalize rowD ts = R at e ⊢
  simp only [stsOf]
  generalize (ks.map fun k => stOf k ts) = V at e ⊢
  simp [walkD, e, tupleD]
/-! ### looks of two questions -/
theorem look_nice {k : D} (h : IsLk k) : Nice k ∧ ∃ ds, k = .tuple ds := by
  have k1 : PyData.strOk (Str.ofString "word") = true ∧ (Str.ofString "word").cps.size ≤ 10 := ⟨by decide +kernel, by decide +kernel⟩
  have k2 : PyData.strOk (Str.ofString "starts") = true ∧ (Str.ofString "starts").cps.size ≤ 10 := ⟨by decide +kernel, by decide +kernel⟩
  have k3 : PyData.strOk (Str.ofString "row") = true ∧ (Str.ofString "row").cps.size ≤ 10 := ⟨by decide +kernel, by decide +kernel⟩
  have k4 : PyData.strOk (Str.ofString "near") = true ∧ (Str.ofString "near").cps.size ≤ 10 := ⟨by decide +kernel, by decide +kernel⟩
  obtain ⟨d, h⟩ := h
  cases h with
  | @word f w hf hw =>
    have b := str_ok hw
    have c := hw.le
    exact ⟨⟨by simp [L2.tidy, L2.tidyAll, k1.1, b], by simp only [PyData.bulk, PyData.bulkAll]; omega, by simp [PyData.depth, PyData.depthAll]⟩, _, rfl⟩
  | @starts f w hf hw =>
    have b := str_ok hw
    have c := hw.le
    exact ⟨⟨by simp [L2.tidy, L2.tidyAll, k2.1, b], by simp only [PyData.bulk, PyData.bulkAll]; omega, by simp [PyData.depth, PyData.depthAll]⟩, _, rfl⟩
  | @row f l hf h2 h4 hw =>
    have b : L2.tidyAll (l.map PyData.str) = true := L2.tidyAll_map fun w h => str_ok (hw w h)
    have c : PyData.bulkAll (l.map PyData.str) ≤ l.length * (12 + 1) := L2.bulk_map fun w h => (hw w h).le
    have e : PyData.depthAll (l.map PyData.str) ≤ 0 := L2.depth_map fun w h => by simp [PyData.depth]
    exact ⟨⟨by simp [L2.tidy, L2.tidyAll, k3.1, b], by simp only [PyData.bulk, PyData.bulkAll]; omega, by simp only [PyData.depth, PyData.depthAll]; omega⟩, _, rfl⟩
  | @near f a b n hf ha hb h1 h6 =>
    have b1 := str_ok ha
    have c1 := ha.le
    have b2 := str_ok hb
    have c2 := hb.le
    have i : n.natAbs < 10 ^ 38 := by omega
    exact ⟨⟨by simp [L2.tidy, L2.tidyAll, k4.1, b1, b2, i], by simp only [PyData.bulk, PyData.bulkAll]; omega, by simp [PyData.depth, PyData.depthAll]⟩, _, rfl⟩
theorem not_in_k {d : D} {acc : List D} (hd : IsLk d) (ha : ∀ d ∈ acc, IsLk d) : notInD d (.list acc) = some (.bool !(acc.any fun z => PyData.eqv z d)) := by
  obtain ⟨nd, ds, rfl⟩ := look_nice hd
  have s1 := nice_shaped nd
  have s2 := all_shaped fun d h => (look_nice (ha d h)).1
  have e : inB (.tuple ds) (.list acc) = some (acc.any fun z => PyData.eqv z (.tuple ds)) := by
    show (if _ then _ else _) = _
    exact if_pos (.inr ⟨s1, s2⟩)
  unfold notInD
  rw [e]
  rfl
theorem once_loop_k {x : Sl} : ∀ {ds acc : List D} {t : Sl}, (∀ d ∈ ds, IsLk d) → (∀ d ∈ acc, IsLk d) → acc.length + ds.length ≤ 1000 → (t = .un ∨ ∃ d, t = .s d) →
    ∃ t', loopF (put 2) b_unlike_2f_1 ds [x, .o (.list acc), t] = some (.nx, [x, .o (.list (onceL acc ds)), t'])
  | [], acc, t, _, _, _, _ => ⟨t, rfl⟩
  | d :: ds, acc, t, h1, h2, hl, ht => by
    rw [List.length_cons] at hl
    have n := not_in_k (h1 d (by simp)) h2
    have z : acc.length < 16777216 := by omega
    have e0 : onceL acc (d :: ds) = onceL (if (acc.any fun z => PyData.eqv z d) = true then acc else acc ++ [d]) ds := rfl
    cases q : acc.any fun z => PyData.eqv z d with
    | true =>
      rw [q] at n
      have e : turnF (put 2) b_unlike_2f_1 d [x, .o (.list acc), t] = some (.nx, [x, .o (.list acc), .s d]) := by
        rw [b_unlike_2f_1_def]
        rcases ht with rfl | ⟨_, rfl⟩ <;> simp [turnF, n]
      obtain ⟨t', e'⟩ := once_loop_k (x := x) (ds := ds) (acc := acc) (t := .s d) (fun d h => h1 d (List.mem_cons_of_mem _ h)) h2 (by omega) (.inr ⟨_, rfl⟩)
      exact ⟨t', by rw [loopF_nx (.inl e), e', e0, q]; rfl⟩
    | false =>
      rw [q] at n
      have e : turnF (put 2) b_unlike_2f_1 d [x, .o (.list acc), t] = some (.nx, [x, .o (.list (acc ++ [d])), .s d]) := by
        rw [b_unlike_2f_1_def]
        rcases ht with rfl | ⟨_, rfl⟩ <;> simp [turnF, n, apD, sizeLine_eq, z]
      obtain ⟨t', e'⟩ := once_loop_k (x := x) (ds := ds) (acc := acc ++ [d]) (t := .s d) (fun d h => h1 d (List.mem_cons_of_mem _ h)) (fun y hy => by
        rcases List.mem_append.mp hy with hy | hy
        · exact h2 y hy
        · rw [List.mem_singleton.mp hy]; exact h1 d (by simp)) (by simp; omega) (.inr ⟨_, rfl⟩)
      exact ⟨t', by rw [loopF_nx (.inl e), e', e0, q]; rfl⟩
theorem unlike_k {ds : List D} (h : ∀ d ∈ ds, IsLk d) (hl : ds.length ≤ 1000) : F_unlike [.s (.list ds)] = some (.s (.tuple (onceL [] ds)), [.un]) := by
  obtain ⟨t, e⟩ := once_loop_k (x := .s (.list ds)) (acc := []) (t := .un) h (fun d h => by cases h) (by simpa using hl) (.inl rfl)
  rw [F_unlike_def]
  refine fnF_rt (ρ' := [.s (.list ds), .o (.list (onceL [] ds)), t]) ?_ (by simp [maskP, range1])
  rw [b_unlike_def, b_unlike_1_def, b_unlike_2_def, b_unlike_3_def]
  simp [sizeLine_eq, walkD, e, tupleD]
theorem once_k {ds : List D} (h : ∀ d ∈ ds, IsLk d) (hl : ds.length ≤ 1000) : F_law_once [.s (.list ds)] = some (.o (.list (onceL [] ds)), [.un]) := by
  obtain ⟨t, e⟩ := once_loop_k (x := .s (.list ds)) (acc := []) (t := .un) h (fun d h => by cases h) (by simpa using hl) (.inl rfl)
  rw [F_law_once_def]
  have b : b_law_once_2f_1 = b_unlike_2f_1 := by rw [b_law_once_2f_1_def, b_unlike_2f_1_def]
  refine fnF_rt (ρ' := [.s (.list ds), .un, t]) ?_ (by simp [maskP, range1])
  rw [b_law_once_def, b_law_once_1_def, b_law_once_2_def, b_law_once_3_def, b]
  simp [sizeLine_eq, walkD, e]
/-- an atom without its field -/
def lkf : D → D
  | .tuple (a :: _ :: r) => .tuple (a :: r)
  | d => d
theorem lkf_ok {d : D} (h : At d) : Lk d (lkf d) := by
  cases h with
  | word a b => exact .word a b
  | starts a b => exact .starts a b
  | row a b c d => exact .row a b c d
  | near a b c d e => exact .near a b c d e
theorem at_cut {d : D} (h : At d) : ∃ x y r, d = .tuple (x :: y :: r) ∧ r.length ≤ 3 := by
  cases h <;> exact ⟨_, _, _, rfl, by simp⟩
theorem cut1 (a : D) (r : List D) : Pu.cutL (a :: r) none (some 1) = [a] := by
  unfold Pu.cutL
  have e : HT.sIx (a :: r).length (a :: r).length (some (1 : Int)) = 1 := by
    have := HT.sIx_nat (a :: r).length (a :: r).length 1
    rw [show ((1 : Nat) : Int) = 1 from rfl] at this
    rw [this]
    simp
  have e2 : HT.sIx (a :: r).length 0 none = 0 := rfl
  rw [e, e2]
  simp
/-- the looks of two questions -/
abbrev lks (p q : QI) : List D := onceL [] ((p.a ++ q.a).map lkf)
theorem lks_all {p q : QI} (hp : QF p) (hq : QF q) : (∀ k ∈ (p.a ++ q.a).map lkf, IsLk k) ∧ ((p.a ++ q.a).map lkf).length ≤ 12 := by
  refine ⟨fun k hk => ?_, ?_⟩
  · obtain ⟨d, hd, rfl⟩ := List.mem_map.mp hk
    rcases List.mem_append.mp hd with hd | hd
    · exact ⟨d, lkf_ok (hp.p.ats.1 d hd)⟩
    · exact ⟨d, lkf_ok (hq.p.ats.1 d hd)⟩
  · have := hp.a
    have := hq.a
    rw [List.length_map, List.length_append]
    omega
theorem lks_ok {p q : QI} (hp : QF p) (hq : QF q) : (∀ k ∈ lks p q, IsLk k) ∧ (lks p q).length ≤ 12 := by
  obtain ⟨h1, h2⟩ := lks_all hp hq
  refine ⟨fun k hk => ?_, ?_⟩
  · rcases once_mem hk with hk | hk
    · cases hk
    · exact h1 k hk
  · have := once_len (ds := (p.a ++ q.a).map lkf) (acc := [])
    rw [List.length_nil] at this
    exact Nat.le_trans this (by omega)
theorem ats_all {p q : QI} (hp : QF p) (hq : QF q) : ∀ d ∈ p.a ++ q.a, At d := fun d hd => by
  rcases List.mem_append.mp hd with hd | hd
  · exact hp.p.ats.1 d hd
  · exact hq.p.ats.1 d hd
theorem looks_by_ok {p q : QI} (hp : QF p) (hq : QF q) : F_looks_by [.s p.d, .s q.d] = some (.s (.tuple (lks p q)), [.un, .un]) := by
  have a1 := alls (m := 4) hp.p (by decide) (by have := hp.a; omega)
  have a2 := alls (m := 4) hq.p (by decide) (by have := hq.a; omega)
  obtain ⟨k1, k2⟩ := lks_all hp hq
  have u := unlike_k k1 (by omega)
  rw [F_looks_by_def]
  refine fnF_rt (ρ' := [.s p.d, .s q.d, .un]) ?_ (by simp [maskP, range2])
  rw [b_looks_by_def]
  have z : p.a.length + q.a.length ≤ 16777216 := by have := hp.a; have := hq.a; omega
  have e : lcF (put 2) fYes (vf (fOpE addD (wf (vf (fSl (wNm 2) oNo (oSo (fC (.int 1)))))) (wf (vf (fSl (wNm 2) (oSo (fC (.int 2))) oNo))))) [2] (p.a ++ q.a) [] [.s p.d, .s q.d, .un] = some ([] ++ (p.a ++ q.a).map lkf, [.s p.d, .s q.d, .un]) :=
    lcF_map (fun d hd => by
      obtain ⟨x, y, r, rfl, hr⟩ := at_cut (ats_all hp hq d hd)
      have c2 := cut2 x y r (by omega)
      have c1 := cut1 x (y :: r)
      have z : 1 + r.length ≤ 16777216 := by omega
      simp [lcOne, sliceD, c1, c2, addD, sizeLine_eq, z, lkf, show r.length + 1 ≤ 16777216 by omega]) (line_of (by rw [List.length_nil, List.length_append]; omega))
  rw [List.nil_append] at e
  simp [a1, a2, addD, sizeLine_eq, z, walkD]
  rw [e]
  simp only [lks, List.map_append] at u ⊢
  simp [u]
theorem law_looks_ok {p q : QI} (hp : QF p) (hq : QF q) : F_law_looks [.s p.d, .s q.d] = some (.o (.list (lks p q)), [.un, .un]) := by
  have a1 := lalls (m := 6) hp.p (by decide) (by have := hp.a; omega)
  have a2 := lalls (m := 6) hq.p (by decide) (by have := hq.a; omega)
  obtain ⟨k1, k2⟩ := lks_all hp hq
  have u := once_k k1 (by omega)
  rw [F_law_looks_def]
  refine fnF_rt (ρ' := [.s p.d, .s q.d, .un]) ?_ (by simp [maskP, range2])
  rw [b_law_looks_def]
  have z : p.a.length + q.a.length ≤ 16777216 := by have := hp.a; have := hq.a; omega
  have e : lcF (put 2) fYes (vf (fCall 1 F_law_look [] (aS (fVar 2) aNil))) [2] (p.a ++ q.a) [] [.s p.d, .s q.d, .un] = some ([] ++ (p.a ++ q.a).map lkf, [.s p.d, .s q.d, .un]) :=
    lcF_map (fun d hd => by
      have l := look_ok (lkf_ok (ats_all hp hq d hd))
      simp [lcOne, l]) (line_of (by rw [List.length_nil, List.length_append]; omega))
  rw [List.nil_append] at e
  simp [a1, a2, addD, sizeLine_eq, z, walkD]
  rw [e]
  simp only [lks, List.map_append] at u ⊢
  simp [u]
end K26
/-! k26, plain: long rows. -/
namespace K26
open PySem Pu
open PySem.Spec
theorem in_ints {k : Int} {ds : List D} (h : ∀ d ∈ ds, ∃ i : Int, d = .int i) : ∃ b, inD (.int k) (.list ds) = some (.bool b) := by
  refine ⟨ds.any fun z => PyData.eqv z (.int k), ?_⟩
  have f : ds.all flatD = true := List.all_eq_true.mpr fun d hd => by obtain ⟨i, rfl⟩ := h d hd; rfl
  have e : inB (.int k) (.list ds) = some (ds.any fun z => PyData.eqv z (.int k)) := by
    show (if _ then _ else _) = _
    exact if_pos (.inl (by rw [f]; rfl))
  unfold inD
  rw [e]
  rfl
theorem bang_tm : Tm (Str.ofString "!") := ⟨by decide +kernel, by decide +kernel, by
  intro c hc
  have e : (Str.ofString "!").cps.toList = [33] := by decide +kernel
  rw [e] at hc
  simp at hc
  subst hc
  exact ⟨by decide, by decide, by decide⟩⟩
theorem fill_ex {l : List Str} (h0 : 0 < l.length) (hl : ∀ w ∈ l, Wd w 1 12) : ∃ u v, l = u :: v ∧ Tm (u ++ Str.ofString "!") ∧ u.length + (Str.ofString "!").length ≤ 16777216 := by
  cases l with
  | nil => simp at h0
  | cons u v =>
    have := app_tm (wd_sh (hl u (by simp))) (tail_ok (Str.ofString "!") (.inl rfl))
    exact ⟨u, v, rfl, this.1, by omega⟩
theorem long_ex {j : D} {l : List Str} (hj : IsJar j) (h0 : 0 < l.length) (h1 : l.length ≤ 1000) (hl : ∀ w ∈ l, Wd w 1 12) :
    ∃ ts j', F_law_long [.p j, .s (ws l)] = some (.s (rowD ts), [.p j', .un]) ∧ RowOk ts ∧ IsJar j' := by
  obtain ⟨u, v, el, tu, zu⟩ := fill_ex h0 hl
  obtain ⟨f, j1, e1, hf, hj1⟩ := any_ex (ds := [.none, .str (Str.ofString "!"), .str (u ++ Str.ofString "!")]) hj (by simp) (by simp)
  have hf : ∃ t : Option Str, f = tD t ∧ ∀ w, t = some w → Tm w := by
    simp only [List.mem_cons, List.not_mem_nil, or_false] at hf
    rcases hf with rfl | rfl | rfl
    · exact ⟨none, rfl, fun w h => by cases h⟩
    · exact ⟨some _, rfl, fun w h => by cases h; exact bang_tm⟩
    · exact ⟨some _, rfl, fun w h => by cases h; exact tu⟩
  obtain ⟨ft, rfl, hft⟩ := hf
  obtain ⟨m, j2, e2, hm, hj2⟩ := any_ex (ds := [.int 400, .int 399, .int 60]) hj1 (by simp) (by simp)
  have hm : ∃ n : Nat, m = .int (n : Int) ∧ 1 ≤ n ∧ n ≤ 400 := by
    simp only [List.mem_cons, List.not_mem_nil, or_false] at hm
    rcases hm with rfl | rfl | rfl
    · exact ⟨400, rfl, by decide, by decide⟩
    · exact ⟨399, rfl, by decide, by decide⟩
    · exact ⟨60, rfl, by decide, by decide⟩
  obtain ⟨n, rfl, n1, n4⟩ := hm
  have p1 : b_law_long_1 [.p j, .s (ws l), .un, .un, .un, .un, .un, .un] = some (.nx, [.p j2, .s (ws l), .s (tD ft), .s (.int n), .o (.list []), .un, .un, .un]) := by
    rw [b_law_long_1_def]
    have ix : ixD (ws l) (.int 0) = some (.str u) := by rw [el]; simp [ws, ixD, L2.atI, L2.ixN]
    generalize ws l = W at ix ⊢
    simp [ix, addD, sizeLine_eq, zu, e1, e2]
  -- the spots
  obtain ⟨ys, ρ1, e3, ⟨j3, rfl, hj3⟩, l3, py⟩ := lcF_inv (g := put 7) (ft := fYes) (fe := vf (fCall 2 F_law_deal [] (aB 0 (aS (fVar 3) aNil)))) (vs := [7])
    (I := fun ρ => ∃ j, ρ = [.p j, .s (ws l), .s (tD ft), .s (.int n), .o (.list []), .un, .un, .un] ∧ IsJar j) (P := fun y => ∃ i : Int, y = .int i) (ds := rngD 0 3) (acc := []) (ρ := [.p j2, .s (ws l), .s (tD ft), .s (.int n), .o (.list []), .un, .un, .un]) (by
      rintro d _ _ ⟨j, rfl, hj⟩
      obtain ⟨k, j', e, _, _, hj'⟩ := deal_ex (m := (n : Int)) hj (by omega) (by omega)
      exact ⟨.int k, _, by simp [lcOne, e], ⟨j', rfl, hj'⟩, k, rfl⟩) (line_of (by rw [rngD_len]; simp)) ⟨j2, rfl, hj2⟩
  obtain ⟨zs, ρ2, e4, ⟨j4, rfl, hj4⟩, l4, pz⟩ := lcF_inv (g := put 7) (ft := fYes) (fe := fOp subD (wf (fOp subD (wNm 3) (wf (fC (.int 1))))) (wf (vf (fCall 2 F_law_deal [] (aB 0 (aS (fC (.int 6)) aNil)))))) (vs := [7])
    (I := fun ρ => ∃ j, ρ = [.p j, .s (ws l), .s (tD ft), .s (.int n), .o (.list []), .un, .un, .un] ∧ IsJar j) (P := fun y => ∃ i : Int, y = .int i) (ds := rngD 0 3) (acc := []) (ρ := [.p j3, .s (ws l), .s (tD ft), .s (.int n), .o (.list []), .un, .un, .un]) (by
      rintro d _ _ ⟨j, rfl, hj⟩
      obtain ⟨k, j', e, _, _, hj'⟩ := deal_ex (m := 6) hj (by decide) (by decide)
      exact ⟨.int ((n : Int) - 1 - k), _, by simp [lcOne, e, subD], ⟨j', rfl, hj'⟩, _, rfl⟩) (line_of (by rw [rngD_len]; simp)) ⟨j3, rfl, hj3⟩
  rw [List.nil_append] at e3 e4
  rw [rngD_len] at l3 l4
  have intz : ∀ d ∈ ys ++ zs, ∃ i : Int, d = .int i := fun d hd => (List.mem_append.mp hd).elim (py d) (pz d)
  have in3 := in62_nat (n := 3) (by omega)
  have p2 : b_law_long_2 [.p j2, .s (ws l), .s (tD ft), .s (.int n), .o (.list []), .un, .un, .un] = some (.nx, [.p j4, .s (ws l), .s (tD ft), .s (.int n), .o (.list []), .o (.list (ys ++ zs)), .un, .un]) := by
    rw [b_law_long_2_def]
    generalize ws l = W at e3 e4 ⊢
    simp only [show ((3 : Nat) : Int) = 3 from rfl] at in3
    simp [in3, e3, e4, addD, sizeLine_eq, l3, l4]
  generalize hS : ys ++ zs = S at p2 intz
  obtain ⟨ρ5, e5, j5, ts, t, rfl, hj5, lt, tm, ht⟩ := loopF_inv (g := put 6) (b := sDrop (fMu 4 apD (fCons (vf (fIf (fTst (fOp inD (wNm 6) (wNm 5))) (fCall 2 F_law_any [] (aB 0 (aS (fVar 1) aNil))) (ef (fVar 2)))) fNil)))
    (I := fun i ρ => ∃ (j : D) (ts : List (Option Str)) (t : Sl), ρ = [.p j, .s (ws l), .s (tD ft), .s (.int n), .o (.list (ts.map tD)), .o (.list S), t, .un] ∧ IsJar j ∧ ts.length = i ∧ (∀ w, some w ∈ ts → Tm w) ∧ (t = .un ∨ ∃ d, t = .s d))
    (ds := rngD 0 n) (ρ := [.p j4, .s (ws l), .s (tD ft), .s (.int n), .o (.list []), .o (.list S), .un, .un]) 0 (by
      rintro i d _ hd ⟨j, ts, t, rfl, hj, lt, tm, ht⟩
      obtain ⟨rfl, hi⟩ := rng_get hd
      have z : ts.length < 16777216 := by omega
      obtain ⟨b, eb⟩ := in_ints (k := (i : Int)) intz
      cases b with
      | true =>
        obtain ⟨w, j', e, hw, hj'⟩ := pick_ex hj h0 h1
        refine ⟨_, ?_, j', ts ++ [some w], .s (.int i), rfl, hj', by rw [List.length_append, lt]; rfl, fun x hx => ?_, .inr ⟨_, rfl⟩⟩
        · simp only [ws] at *
          rcases ht with rfl | ⟨_, rfl⟩ <;> simp [turnF, eb, e, apD, sizeLine_eq, z, tD]
        · rcases List.mem_append.mp hx with hx | hx
          · exact tm x hx
          · cases List.mem_singleton.mp hx; exact wd_tm (hl w hw)
      | false =>
        refine ⟨_, ?_, j, ts ++ [ft], .s (.int i), rfl, hj, by rw [List.length_append, lt]; rfl, fun x hx => ?_, .inr ⟨_, rfl⟩⟩
        · rcases ht with rfl | ⟨_, rfl⟩ <;> simp [turnF, eb, apD, sizeLine_eq, z]
        · rcases List.mem_append.mp hx with hx | hx
          · exact tm x hx
          · exact hft x (List.mem_singleton.mp hx).symm) ⟨j4, [], .un, rfl, hj4, rfl, (fun w h => by cases h), .inl rfl⟩
  rw [rngD_len] at lt
  refine ⟨ts, j5, ?_, ⟨by omega, tm⟩, hj5⟩
  have inn := in62_nat (n := n) (by omega)
  have p3 : b_law_long_3 [.p j4, .s (ws l), .s (tD ft), .s (.int n), .o (.list []), .o (.list S), .un, .un] = some (.nx, [.p j5, .s (ws l), .s (tD ft), .s (.int n), .o (.list (ts.map tD)), .o (.list S), t, .un]) := by
    rw [b_law_long_3_def]
    generalize ws l = W at e5 ⊢
    simp [inn, e5]
  rw [F_law_long_def]
  refine fnF_rt (ρ' := [.p j5, .s (ws l), .s (tD ft), .s (.int n), .o (.list (ts.map tD)), .o (.list S), t, .un]) ?_ (by simp [maskP, range2])
  rw [b_law_long_def, b_law_long_4_def]
  generalize ws l = W at p1 p2 p3 ⊢
  simp [p1, p2, p3, tupleD]
end K26
/-! k26, plain: what is told, reprs. -/
namespace K26
open PySem Pu
open PySem.Spec
structure Tiny (d : D) : Prop where
  t : L2.tidy d = true
  b : d.bulk ≤ 20
  p : d.depth ≤ 2
theorem int_tiny {n : Nat} (h : n ≤ 100) : Tiny (.int (n : Int)) := ⟨by simp only [L2.tidy, decide_eq_true_eq]; omega, by simp only [PyData.bulk]; omega, by simp [PyData.depth]⟩
theorem two_tiny {a b : Nat} (h : a ≤ 100) (h' : b ≤ 100) : Tiny (.tuple [.int (a : Int), .int (b : Int)]) := by
  refine ⟨?_, ?_, ?_⟩
  · simp only [L2.tidy, L2.tidyAll, Bool.and_eq_true, decide_eq_true_eq]
    refine ⟨by omega, by omega, trivial⟩
  · simp only [PyData.bulk, PyData.bulkAll]; omega
  · simp [PyData.depth, PyData.depthAll]
theorem st_tiny {k : D} {ts : List (Option Str)} (h : IsLk k) (hr : RowOk ts) : Tiny (stOf k ts) := by
  have i := li_at h hr
  generalize stOf k ts = s at i ⊢
  obtain ⟨d, hk⟩ := h
  cases hk with
  | word hf hw => cases i; unfold b01; split <;> first | exact int_tiny (n := 1) (by decide) | exact int_tiny (n := 0) (by decide)
  | starts hf hw => cases i; unfold b01; split <;> first | exact int_tiny (n := 1) (by decide) | exact int_tiny (n := 0) (by decide)
  | row hf h2 h4 hl =>
    obtain ⟨s', e, i'⟩ := li_row i
    clear i
    subst e
    refine int_tiny ?_
    rcases i' with ⟨_, h⟩ | ⟨_, h, _⟩ <;> rw [List.length_map] at h <;> omega
  | near hf ha hb h1 h6 =>
    cases i with
    | near hN =>
      rcases hN with ⟨_, rfl⟩ | ⟨_, sa, sb, rfl, ha, hb⟩
      · exact two_tiny (a := 9) (b := 9) (by decide) (by decide)
      · have := ainv_le ha
        have := ainv_le hb
        exact two_tiny (by omega) (by omega)
theorem rep_d {d : D} (t : L2.tidy d = true) (b : d.bulk ≤ 300000) (p : d.depth ≤ 60) : reprD [d] = some (.str d.shown) := by
  have g := gd_of (p := d.showable = true ∧ d.hasDict = false ∧ d.shown.length ≤ sizeLine ∧ d.depth ≤ 60) ⟨(L2.tidy_ok _ t).2.1, (L2.tidy_ok _ t).2.2.1, L2.shown_short t b, p⟩
  unfold reprD
  exact if_pos g
theorem rep_2 {ds : List D} (h1 : L2.tidyAll ds = true) (h2 : PyData.bulkAll ds ≤ 100000) (h3 : PyData.depthAll ds ≤ 10) : reprD [.list [.tuple ds, .tuple ds]] = some (.str (PyData.list [.tuple ds, .tuple ds]).shown) := by
  refine rep_d ?_ ?_ ?_
  · simp only [L2.tidy, L2.tidyAll, Bool.and_eq_true, h1]; simp
  · simp only [PyData.bulk, PyData.bulkAll]; omega
  · simp only [PyData.depth, PyData.depthAll]; omega
theorem rep_lks {ks : List D} (h : ∀ k ∈ ks, IsLk k) (hl : ks.length ≤ 100) : reprD [.list [.tuple ks, .tuple ks]] = some (.str (PyData.list [.tuple ks, .tuple ks]).shown) := by
  have hn : ∀ k ∈ ks, Nice k := fun k hk => (look_nice (h k hk)).1
  have b := all_bulk hn
  have p := all_depth hn
  exact rep_2 (all_tidy hn) (by omega) (by omega)
theorem rep_sts {ks : List D} {ts : List (Option Str)} (h : ∀ k ∈ ks, IsLk k) (hl : ks.length ≤ 100) (hr : RowOk ts) : reprD [.list [stsOf ks ts, stsOf ks ts]] = some (.str (PyData.list [stsOf ks ts, stsOf ks ts]).shown) := by
  have b : PyData.bulkAll (ks.map fun k => stOf k ts) ≤ ks.length * (20 + 1) := L2.bulk_map fun k hk => (st_tiny (h k hk) hr).b
  have p : PyData.depthAll (ks.map fun k => stOf k ts) ≤ 2 := L2.depth_map fun k hk => (st_tiny (h k hk) hr).p
  exact rep_2 (L2.tidyAll_map fun k hk => (st_tiny (h k hk) hr).t) (by omega) (by omega)
/-! ### the program's answers -/
theorem two_ok {p q : QI} (hp : QF p) (hq : QF q) : F_check_two [.s p.d, .s q.d] = some (.s .none, [.un, .un]) := by
  have c1 := check hp
  have c2 := check hq
  rw [F_check_two_def]
  refine fnF_nx (ρ' := [.s p.d, .s q.d]) ?_ (by simp [maskP, range2])
  rw [b_check_two_def, b_check_two_1_def, b_check_two_2_def]
  simp [c1, c2]
theorem looks_of_ok {p q : QI} (hp : QF p) (hq : QF q) : F_looks_of [.s p.d, .s q.d] = some (.s (.tuple (lks p q)), [.un, .un]) := by
  have c := two_ok hp hq
  have l := looks_by_ok hp hq
  rw [F_looks_of_def]
  refine fnF_rt (ρ' := [.s p.d, .s q.d]) ?_ (by simp [maskP, range2])
  rw [b_looks_of_def, b_looks_of_1_def, b_looks_of_2_def]
  generalize lks p q = ks at l ⊢
  simp [c, l]
theorem state_of_ok {p q : QI} {ts : List (Option Str)} (hp : QF p) (hq : QF q) (hr : RowOk ts) : F_state_of [.s p.d, .s q.d, .s (rowD ts)] = some (.s (stsOf (lks p q) ts), [.un, .un, .un]) := by
  have c := two_ok hp hq
  have l := looks_by_ok hp hq
  have r := row_ok hr
  obtain ⟨k1, k2⟩ := lks_ok hp hq
  have b := behind_ok (ts := ts) k1 (by omega) hr
  rw [F_state_of_def]
  refine fnF_rt (ρ' := [.s p.d, .s q.d, .s (rowD ts)]) ?_ (by simp [maskP, range3])
  rw [b_state_of_def, b_state_of_1_def, b_state_of_2_def, b_state_of_3_def]
  generalize stsOf (lks p q) ts = S at b ⊢
  generalize lks p q = ks at l b ⊢
  generalize rowD ts = R at b r ⊢
  simp [c, l, r, b]
/-! ### an atom in another field -/
def withF (g : Str) : D → D
  | .tuple (a :: _ :: r) => .tuple (a :: .str g :: r)
  | d => d
theorem withF_ok {g : Str} {d : D} (hg : Fld g) (h : At d) : At (withF g d) := by
  cases h with
  | word a b => exact .word hg b
  | starts a b => exact .starts hg b
  | row a b c d => exact .row hg b c d
  | near a b c d e => exact .near hg b c d e
def q1 (d : D) : QI := of_ "all" [at_ d, neg_ (at_ (withF "body" d))]
def q2 (d : D) : QI := of_ "any" [at_ (withF "any" d), at_ d]
theorem q1_ok {d : D} (h : At d) : QF (q1 d) := by
  refine ⟨of_ok (.inl rfl) (fun p hp => ?_) (by simp) (by simp), by simp [q1, of_, sumN, at_, neg_], by simp [q1, of_, at_, neg_]⟩
  simp only [List.mem_cons, List.not_mem_nil, or_false] at hp
  rcases hp with rfl | rfl
  · exact at_ok h 2
  · exact neg_ok (at_ok (withF_ok (.inr (.inl rfl)) h) 1)
theorem q2_ok {d : D} (h : At d) : QF (q2 d) := by
  refine ⟨of_ok (.inr rfl) (fun p hp => ?_) (by simp) (by simp), by simp [q2, of_, sumN, at_, neg_], by simp [q2, of_, at_, neg_]⟩
  simp only [List.mem_cons, List.not_mem_nil, or_false] at hp
  rcases hp with rfl | rfl
  · exact at_ok (withF_ok (.inr (.inr rfl)) h) 2
  · exact at_ok h 2
end K26
/-! the law, plain. -/
namespace K26
open PySem Pu
open PySem.Spec
def Fr (t : Sl) : Prop := t = .un ∨ ∃ d, t = .s d
noncomputable abbrev inner : FS := sSeq b_law_right_2f_6f_1 b_law_right_2f_6f_2
theorem inner_turn {p q : QI} {ts : List (Option Str)} {t0 t1 t2 t5 t7 t8 : Sl} (hp : QF p) (hq : QF q) (hr : RowOk ts) (h7 : Fr t7) (h8 : Fr t8) :
    turnF (put 7) inner (rowD ts) [t0, t1, t2, .s p.d, .s q.d, t5, .s (.tuple (lks p q)), t7, t8] = some (.nx, [t0, t1, t2, .s p.d, .s q.d, t5, .s (.tuple (lks p q)), .s (rowD ts), .s (stsOf (lks p q) ts)]) := by
  obtain ⟨k1, k2⟩ := lks_ok hp hq
  have e1 := law_states_ok (ts := ts) k1 (by omega) hr
  have e2 := state_of_ok hp hq hr
  have rp := rep_sts (ts := ts) k1 (by omega) hr
  generalize stsOf (lks p q) ts = S at e1 e2 rp ⊢
  generalize lks p q = ks at e1 ⊢
  generalize rowD ts = R at e1 e2 ⊢
  generalize (PyData.list [S, S]).shown = X at rp
  have ne : neD (.str X) (.str X) = some (.bool false) := by simp [neD, eqB, sc2]
  have s0 : turnF (put 7) inner R [t0, t1, t2, .s p.d, .s q.d, t5, .s (.tuple ks), t7, t8] = inner [t0, t1, t2, .s p.d, .s q.d, t5, .s (.tuple ks), .s R, t8] := by
    rcases h7 with rfl | ⟨_, rfl⟩ <;> simp [turnF]
  have s1 : b_law_right_2f_6f_1 [t0, t1, t2, .s p.d, .s q.d, t5, .s (.tuple ks), .s R, t8] = some (.nx, [t0, t1, t2, .s p.d, .s q.d, t5, .s (.tuple ks), .s R, .s S]) := by
    rw [b_law_right_2f_6f_1_def]
    rcases h8 with rfl | ⟨_, rfl⟩ <;> simp [e1]
  have s2 : b_law_right_2f_6f_2 [t0, t1, t2, .s p.d, .s q.d, t5, .s (.tuple ks), .s R, .s S] = some (.nx, [t0, t1, t2, .s p.d, .s q.d, t5, .s (.tuple ks), .s R, .s S]) := by
    rw [b_law_right_2f_6f_2_def]
    simp [sizeLine_eq, e2, rp, ne]
  rw [s0]
  simp [inner, s1, s2]
noncomputable abbrev outer : FS := sSeq b_law_right_2f_1 (sSeq b_law_right_2f_2 (sSeq b_law_right_2f_3 (sSeq b_law_right_2f_4 (sSeq b_law_right_2f_5 b_law_right_2f_6))))
/-- the questions of a turn -/
theorem asked_two {dd : D} {l : List Str} {j : D} {PP t3 t4 t5 t6 t7 t8 : Sl} (hl : ∀ w ∈ l, Wd w 1 12) (h0 : 0 < l.length) (h1 : l.length ≤ 100) (hP : PP = .o (ws l) ∨ PP = .s (ws l)) (hj : IsJar j) (h3 : Fr t3) (h4 : Fr t4) (h5 : Fr t5) :
    ∃ (p q : QI) (d0 j1 j2 j3 : D), b_law_right_2f_1 [.p j, PP, .s dd, t3, t4, t5, t6, t7, t8] = some (.nx, [.p j1, .s (ws l), .s dd, .s p.d, .s q.d, t5, t6, t7, t8]) ∧
      b_law_right_2f_2 [.p j1, .s (ws l), .s dd, .s p.d, .s q.d, t5, t6, t7, t8] = some (.nx, [.p j2, .s (ws l), .s dd, .s p.d, .s q.d, .s d0, t6, t7, t8]) ∧
      ∃ p' q' : QI, b_law_right_2f_3 [.p j2, .s (ws l), .s dd, .s p.d, .s q.d, .s d0, t6, t7, t8] = some (.nx, [.p j3, .s (ws l), .s dd, .s p'.d, .s q'.d, .s d0, t6, t7, t8]) ∧ QF p' ∧ QF q' ∧ IsJar j3 := by
  obtain ⟨p, ja, e1, hp, hja⟩ := asked_ex hj h0 (by omega) hl
  obtain ⟨q, jb, e2, hq, hjb⟩ := asked_ex hja h0 (by omega) hl
  obtain ⟨d0, jc, e3, hd, hjc⟩ := atom_ex hjb h0 (by omega) hl
  obtain ⟨k, jd, e4, _, _, hjd⟩ := deal_ex (m := 2) hjc (by decide) (by decide)
  refine ⟨p, q, d0, jb, jc, jd, ?_, ?_, ?_⟩
  · rw [b_law_right_2f_1_def]
    rcases hP with rfl | rfl <;> rcases h3 with rfl | ⟨_, rfl⟩ <;> rcases h4 with rfl | ⟨_, rfl⟩ <;> simp [e1, e2]
  · rw [b_law_right_2f_2_def]
    rcases h5 with rfl | ⟨_, rfl⟩ <;> simp [e3]
  · by_cases k0 : k = 0
    · subst k0
      refine ⟨q1 d0, q2 d0, ?_, q1_ok hd, q2_ok hd, hjd⟩
      obtain ⟨x, y, r, rfl, hr⟩ := at_cut hd
      have c2 := cut2 x y r (by omega)
      have z : 2 + r.length ≤ 16777216 := by omega
      have z1 : 1 + 1 + r.length ≤ 16777216 := by omega
      have ix : ixD (.tuple (x :: y :: r)) (.int 0) = some x := by
        have zz : (0 : Int) < (r.length : Int) + 1 + 1 := by omega
        simp [ixD, L2.atI, L2.ixN, zz]
      rw [b_law_right_2f_3_def, b_law_right_2f_3a_1_def, b_law_right_2f_3a_2_def]
      simp [e4, eqD, eqB, sc2, ix, sliceD, c2, addD, sizeLine_eq, z, q1, q2, of_, at_, neg_, withF, show r.length + 1 + 1 ≤ 16777216 by omega]
    · have b0 : (k == 0) = false := by simp [k0]
      refine ⟨p, q, ?_, hp, hq, hjd⟩
      rw [b_law_right_2f_3_def]
      simp [e4, eqD, eqB, sc2, b0]
theorem outer_turn {dd : D} {l : List Str} {j : D} {PP t2 t3 t4 t5 t6 t7 t8 : Sl} (hl : ∀ w ∈ l, Wd w 1 12) (h0 : 0 < l.length) (h1 : l.length ≤ 100) (hP : PP = .o (ws l) ∨ PP = .s (ws l)) (hj : IsJar j) (h2 : Fr t2) (h3 : Fr t3) (h4 : Fr t4) (h5 : Fr t5) (h6 : Fr t6) (h7 : Fr t7) (h8 : Fr t8) :
    ∃ (j' : D) (t3' t4' t5' t6' t7' t8' : Sl), turnF (put 2) outer dd [.p j, PP, t2, t3, t4, t5, t6, t7, t8] = some (.nx, [.p j', .s (ws l), .s dd, t3', t4', t5', t6', t7', t8']) ∧ IsJar j' ∧ Fr t3' ∧ Fr t4' ∧ Fr t5' ∧ Fr t6' ∧ Fr t7' ∧ Fr t8' := by
  obtain ⟨p0, q0, d0, j1, j2, j3, s1, s2, p, q, s3, hp, hq, hj3⟩ := asked_two (dd := dd) (t6 := t6) (t7 := t7) (t8 := t8) hl h0 h1 hP hj h3 h4 h5
  have s0 : turnF (put 2) outer dd [.p j, PP, t2, t3, t4, t5, t6, t7, t8] = outer [.p j, PP, .s dd, t3, t4, t5, t6, t7, t8] := by
    rcases h2 with rfl | ⟨_, rfl⟩ <;> simp [turnF]
  obtain ⟨k1, k2⟩ := lks_ok hp hq
  have s4 : b_law_right_2f_4 [.p j3, .s (ws l), .s dd, .s p.d, .s q.d, .s d0, t6, t7, t8] = some (.nx, [.p j3, .s (ws l), .s dd, .s p.d, .s q.d, .s d0, .s (.tuple (lks p q)), t7, t8]) := by
    have e := law_looks_ok hp hq
    rw [b_law_right_2f_4_def]
    generalize lks p q = ks at e ⊢
    rcases h6 with rfl | ⟨_, rfl⟩ <;> simp [e, tupleD]
  have s5 : b_law_right_2f_5 [.p j3, .s (ws l), .s dd, .s p.d, .s q.d, .s d0, .s (.tuple (lks p q)), t7, t8] = some (.nx, [.p j3, .s (ws l), .s dd, .s p.d, .s q.d, .s d0, .s (.tuple (lks p q)), t7, t8]) := by
    have e := looks_of_ok hp hq
    have rp := rep_lks k1 (by omega)
    rw [b_law_right_2f_5_def]
    generalize lks p q = ks at e rp ⊢
    generalize (PyData.list [.tuple ks, .tuple ks]).shown = X at rp
    have ne : neD (.str X) (.str X) = some (.bool false) := by simp [neD, eqB, sc2]
    simp [e, sizeLine_eq, rp, ne]
  obtain ⟨r1, j4, e1, l1, tm1, hj4⟩ := row_ex (m := 3) (by decide) hj3 h0 (by omega) hl
  obtain ⟨r2, j5, e2, l2, tm2, hj5⟩ := row_ex (m := 9) (by decide) hj4 h0 (by omega) hl
  obtain ⟨r3, j6, e3, l3, tm3, hj6⟩ := row_ex (m := 9) (by decide) hj5 h0 (by omega) hl
  obtain ⟨r4, j7, e4, k4, hj7⟩ := long_ex hj6 h0 (by omega) hl
  have hr : ∀ r ∈ [[], r1, r2, r3, r4], RowOk r := by
    intro r hr
    simp only [List.mem_cons, List.not_mem_nil, or_false] at hr
    rcases hr with rfl | rfl | rfl | rfl | rfl
    · exact ⟨by simp, fun w h => by cases h⟩
    · exact ⟨by omega, tm1⟩
    · exact ⟨by omega, tm2⟩
    · exact ⟨by omega, tm3⟩
    · exact k4
  have rw0 : rowD [] = .tuple [] := rfl
  generalize hrows : [[], r1, r2, r3, r4] = rows at hr
  have hds : [.tuple [], rowD r1, rowD r2, rowD r3, rowD r4] = rows.map rowD := by rw [← hrows]; rfl
  obtain ⟨ρ', e5, a7, a8, rfl, b7, b8⟩ := loopF_inv (g := put 7) (b := inner)
    (I := fun _ ρ => ∃ t7 t8 : Sl, ρ = [.p j7, .s (ws l), .s dd, .s p.d, .s q.d, .s d0, .s (.tuple (lks p q)), t7, t8] ∧ Fr t7 ∧ Fr t8)
    (ds := rows.map rowD) (ρ := [.p j7, .s (ws l), .s dd, .s p.d, .s q.d, .s d0, .s (.tuple (lks p q)), t7, t8]) 0 (by
      rintro i x _ hx ⟨t7, t8, rfl, h7, h8⟩
      obtain ⟨r, hm, rfl⟩ := List.mem_map.mp (List.mem_of_getElem? hx)
      exact ⟨_, inner_turn hp hq (hr r hm) h7 h8, _, _, rfl, .inr ⟨_, rfl⟩, .inr ⟨_, rfl⟩⟩) ⟨t7, t8, rfl, h7, h8⟩
  refine ⟨j7, .s p.d, .s q.d, .s d0, .s (.tuple (lks p q)), a7, a8, ?_, hj7, .inr ⟨_, rfl⟩, .inr ⟨_, rfl⟩, .inr ⟨_, rfl⟩, .inr ⟨_, rfl⟩, b7, b8⟩
  have s6 : b_law_right_2f_6 [.p j3, .s (ws l), .s dd, .s p.d, .s q.d, .s d0, .s (.tuple (lks p q)), t7, t8] = some (.nx, [.p j7, .s (ws l), .s dd, .s p.d, .s q.d, .s d0, .s (.tuple (lks p q)), a7, a8]) := by
    rw [b_law_right_2f_6_def]
    simp only [inner] at e5
    rw [← hds] at e5
    simp only [show ((3 : Nat) : Int) = 3 from rfl, show ((9 : Nat) : Int) = 9 from rfl] at e1 e2 e3
    generalize lks p q = ks at e5 ⊢
    generalize rowD r1 = R1 at e1 e5
    generalize rowD r2 = R2 at e2 e5
    generalize rowD r3 = R3 at e3 e5
    generalize rowD r4 = R4 at e4 e5
    simp [e1, e2, e3, e4, sizeLine_eq, walkD, e5]
  rw [s0]
  generalize lks p q = ks at s4 s5 s6 ⊢
  simp [outer, s1, s2, s3, s4, s5, s6]
theorem right_ex {j : D} (hj : IsJar j) : ∃ j', F_law_right [.p j] = some (.s (.bool true), [.p j']) := by
  obtain ⟨l, j1, e1, ll, hl, hj1⟩ := pool_ex hj (n := 3) (by omega)
  obtain ⟨ρ', e2, j2, PP, t2, t3, t4, t5, t6, t7, t8, rfl, hj2, hP, _⟩ := loopF_inv (g := put 2) (b := outer)
    (I := fun _ ρ => ∃ (j : D) (PP t2 t3 t4 t5 t6 t7 t8 : Sl), ρ = [.p j, PP, t2, t3, t4, t5, t6, t7, t8] ∧ IsJar j ∧ (PP = .o (ws l) ∨ PP = .s (ws l)) ∧ Fr t2 ∧ Fr t3 ∧ Fr t4 ∧ Fr t5 ∧ Fr t6 ∧ Fr t7 ∧ Fr t8)
    (ds := rngD 0 3) (ρ := [.p j1, .o (ws l), .un, .un, .un, .un, .un, .un, .un]) 0 (by
      rintro i x _ _ ⟨j, PP, t2, t3, t4, t5, t6, t7, t8, rfl, hj, hP, h2, h3, h4, h5, h6, h7, h8⟩
      obtain ⟨j', t3', t4', t5', t6', t7', t8', e, hj', f3, f4, f5, f6, f7, f8⟩ := outer_turn (dd := x) hl (by omega) (by omega) hP hj h2 h3 h4 h5 h6 h7 h8
      exact ⟨_, e, j', _, _, _, _, _, _, _, _, rfl, hj', .inr rfl, .inr ⟨_, rfl⟩, f3, f4, f5, f6, f7, f8⟩) ⟨j1, _, _, _, _, _, _, _, _, rfl, hj1, .inl rfl, .inl rfl, .inl rfl, .inl rfl, .inl rfl, .inl rfl, .inl rfl, .inl rfl⟩
  have p1 : b_law_right_1 [.p j, .un, .un, .un, .un, .un, .un, .un, .un] = some (.nx, [.p j1, .o (ws l), .un, .un, .un, .un, .un, .un, .un]) := by
    rw [b_law_right_1_def]
    simp only [show ((3 : Nat) : Int) = 3 from rfl] at e1
    simp [e1]
  have in_ := in62_nat (n := 3) (by omega)
  have p2 : b_law_right_2 [.p j1, .o (ws l), .un, .un, .un, .un, .un, .un, .un] = some (.nx, [.p j2, PP, t2, t3, t4, t5, t6, t7, t8]) := by
    rw [b_law_right_2_def]
    simp only [show ((3 : Nat) : Int) = 3 from rfl] at in_
    simp only [outer] at e2
    generalize ws l = W at e2 ⊢
    simp [in_, e2]
  rw [F_law_right_def]
  refine ⟨j2, fnF_rt (ρ' := [.p j2, PP, t2, t3, t4, t5, t6, t7, t8]) ?_ (by simp [maskP, range1])⟩
  rw [b_law_right_def, b_law_right_3_def]
  simp [p1, p2]
theorem hF (ns : List Int) (hl : ns.length ≤ 63) : ∃ os, F_law [.s (.list (ns.map .int))] = some (.s (.bool true), os) := by
  rw [F_law_def]
  have z : ns.length ≤ 16777216 := by omega
  refine ⟨_, fnF_rt (ρ' := [.s (.list (ns.map .int)), .un]) ?_ rfl⟩
  rw [b_law_def]
  have mm : ∃ m : Nat, m ≤ 4 ∧ max2 2 (min2 (ns.length : Int) 4) = m := by
    refine ⟨(max2 2 (min2 (ns.length : Int) 4)).toNat, ?_, ?_⟩
    · unfold max2 min2; split <;> split <;> omega
    · unfold max2 min2; split <;> split <;> omega
  obtain ⟨m, m4, em⟩ := mm
  have in_ := in62_nat (n := m) (by omega)
  have l1 : lcF (put 1) fYes (vf (fCall 1 F_law_right [] (aE (fCall 2 F_law_jar [] (aS (fVar 0) (aS (fVar 1) aNil))) aNil))) [1] (rngD 0 m) [] [.s (.list (ns.map .int)), .un] = some ([] ++ (rngD 0 m).map fun _ => (.bool true : D), [.s (.list (ns.map .int)), .un]) := by
    refine lcF_map (fun d hd => ?_) (line_of (by rw [rngD_len, List.length_nil]; omega))
    obtain ⟨i, hi⟩ := List.getElem?_of_mem hd
    rw [rng_map] at hi
    rw [List.getElem?_map] at hi
    obtain ⟨i', _, rfl⟩ := Option.map_eq_some_iff.mp hi
    obtain ⟨j, e, hj⟩ := jar_ex (ns := ns) (t := i') (by omega)
    obtain ⟨os', e'⟩ := right_ex hj
    simp [lcOne, e, e']
  rw [List.nil_append] at l1
  simp [lenD, sizeLine_eq, z, minD, maxD, em, in_, l1, allD, bools_const]
end K26
namespace K26
open PySem PySem.Spec PyProof.Rows L2 Pu
theorem kb_looks_of_other_question {K : PySem.W.Frag} {kV dc pm cd ct : Value} {an : Option Addr} : KBinds K (PySem.W.fnOf "looks_of" "looks_of" (defArgs s_looks_of) (defBody s_looks_of) (defScope s_looks_of) .none kV dc pm an cd ct) ["question", "other"] ["other", "question"] (fun us ws => kbP 0 2 [1, 0] us ws) (fun us ws => kbP 0 2 [1, 0] us ws) where
  to := fun s us ws _ hl => by
    obtain ⟨h1, h2⟩ := kbP_len hl (by decide)
    match us, h1, ws, h2 with
    | [], _, [_, _], _ => exact .of_eq rfl
  rel := fun a b => kbP_rel a b
theorem kb_state_of_row_other_question {K : PySem.W.Frag} {kV dc pm cd ct : Value} {an : Option Addr} : KBinds K (PySem.W.fnOf "state_of" "state_of" (defArgs s_state_of) (defBody s_state_of) (defScope s_state_of) .none kV dc pm an cd ct) ["question", "other", "row"] ["row", "other", "question"] (fun us ws => kbP 0 3 [2, 1, 0] us ws) (fun us ws => kbP 0 3 [2, 1, 0] us ws) where
  to := fun s us ws _ hl => by
    obtain ⟨h1, h2⟩ := kbP_len hl (by decide)
    match us, h1, ws, h2 with
    | [], _, [_, _, _], _ => exact .of_eq rfl
  rel := fun a b => kbP_rel a b
theorem txt_mk {P : Program} {K : PySem.W.Frag} {h : Heap} {mg : Str → Option Value} {f_is_whole f_is_number f_is_tuple_of f_is_sign f_is_string f_is_made_of f_is_named f_is_begin f_is_spaceless f_is_term f_is_rowed f_check_row f_are_terms f_is_atom f_inside_of f_counted f_is_question_by f_all_atoms f_unlike f_looks_by f_first_states f_row_step f_ago f_near_step f_look_step f_step_on f_state_behind f_check_question f_check_two f_looks_of f_state_of f_law_jar f_law_deal f_law_any f_law_word f_law_pool f_law_strange f_law_row f_law_atom f_law_question f_law_asked f_law_atoms f_law_once f_law_look f_law_is_true_of f_law_looks f_law_ago f_law_state_of f_law_states_of f_law_long f_law_right f_law a_FIELDS a_NEAR_SO : Addr} {od_is_whole an_is_whole od_is_number an_is_number od_is_tuple_of an_is_tuple_of od_is_sign an_is_sign od_is_string an_is_string od_is_made_of an_is_made_of od_is_named an_is_named od_is_begin an_is_begin od_is_spaceless an_is_spaceless od_is_term an_is_term od_is_rowed an_is_rowed od_check_row an_check_row od_are_terms an_are_terms od_is_atom an_is_atom od_inside_of an_inside_of od_counted an_counted od_is_question_by an_is_question_by od_all_atoms an_all_atoms od_unlike an_unlike od_looks_by an_looks_by od_first_states an_first_states od_row_step an_row_step od_ago an_ago od_near_step an_near_step od_look_step an_look_step od_step_on an_step_on od_state_behind an_state_behind od_check_question an_check_question od_check_two an_check_two od_looks_of an_looks_of od_state_of an_state_of od_law_jar an_law_jar od_law_deal an_law_deal od_law_any an_law_any od_law_word an_law_word od_law_pool an_law_pool od_law_strange an_law_strange od_law_row an_law_row od_law_atom an_law_atom od_law_question an_law_question od_law_asked an_law_asked od_law_atoms an_law_atoms od_law_once an_law_once od_law_look an_law_look od_law_is_true_of an_law_is_true_of od_law_looks an_law_looks od_law_ago an_law_ago od_law_state_of an_law_state_of od_law_states_of an_law_states_of od_law_long an_law_long od_law_right an_law_right od_law an_law : Option Addr} {sl_is_whole sl_is_number sl_is_tuple_of sl_is_sign sl_is_string sl_is_made_of sl_is_named sl_is_begin sl_is_spaceless sl_is_term sl_is_rowed sl_check_row sl_are_terms sl_is_atom sl_inside_of sl_counted sl_is_question_by sl_all_atoms sl_unlike sl_looks_by sl_first_states sl_row_step sl_ago sl_near_step sl_look_step sl_step_on sl_state_behind sl_check_question sl_check_two sl_looks_of sl_state_of sl_law_jar sl_law_deal sl_law_any sl_law_word sl_law_pool sl_law_strange sl_law_row sl_law_atom sl_law_question sl_law_asked sl_law_atoms sl_law_once sl_law_look sl_law_is_true_of sl_law_looks sl_law_ago sl_law_state_of sl_law_states_of sl_law_long sl_law_right sl_law : Array (Option Value)} {oc_is_whole kV_is_whole dc_is_whole pm_is_whole cd_is_whole ct_is_whole oc_is_number kV_is_number dc_is_number pm_is_number cd_is_number ct_is_number oc_is_tuple_of kV_is_tuple_of dc_is_tuple_of pm_is_tuple_of cd_is_tuple_of ct_is_tuple_of oc_is_sign kV_is_sign dc_is_sign pm_is_sign cd_is_sign ct_is_sign oc_is_string kV_is_string dc_is_string pm_is_string cd_is_string ct_is_string oc_is_made_of kV_is_made_of dc_is_made_of pm_is_made_of cd_is_made_of ct_is_made_of oc_is_named kV_is_named dc_is_named pm_is_named cd_is_named ct_is_named oc_is_begin kV_is_begin dc_is_begin pm_is_begin cd_is_begin ct_is_begin oc_is_spaceless kV_is_spaceless dc_is_spaceless pm_is_spaceless cd_is_spaceless ct_is_spaceless oc_is_term kV_is_term dc_is_term pm_is_term cd_is_term ct_is_term oc_is_rowed kV_is_rowed dc_is_rowed pm_is_rowed cd_is_rowed ct_is_rowed oc_check_row kV_check_row dc_check_row pm_check_row cd_check_row ct_check_row oc_are_terms kV_are_terms dc_are_terms pm_are_terms cd_are_terms ct_are_terms oc_is_atom kV_is_atom dc_is_atom pm_is_atom cd_is_atom ct_is_atom oc_inside_of kV_inside_of dc_inside_of pm_inside_of cd_inside_of ct_inside_of oc_counted kV_counted dc_counted pm_counted cd_counted ct_counted oc_is_question_by kV_is_question_by dc_is_question_by pm_is_question_by cd_is_question_by ct_is_question_by oc_all_atoms kV_all_atoms dc_all_atoms pm_all_atoms cd_all_atoms ct_all_atoms oc_unlike kV_unlike dc_unlike pm_unlike cd_unlike ct_unlike oc_looks_by kV_looks_by dc_looks_by pm_looks_by cd_looks_by ct_looks_by oc_first_states kV_first_states dc_first_states pm_first_states cd_first_states ct_first_states oc_row_step kV_row_step dc_row_step pm_row_step cd_row_step ct_row_step oc_ago kV_ago dc_ago pm_ago cd_ago ct_ago oc_near_step kV_near_step dc_near_step pm_near_step cd_near_step ct_near_step oc_look_step kV_look_step dc_look_step pm_look_step cd_look_step ct_look_step oc_step_on kV_step_on dc_step_on pm_step_on cd_step_on ct_step_on oc_state_behind kV_state_behind dc_state_behind pm_state_behind cd_state_behind ct_state_behind oc_check_question kV_check_question dc_check_question pm_check_question cd_check_question ct_check_question oc_check_two kV_check_two dc_check_two pm_check_two cd_check_two ct_check_two oc_looks_of kV_looks_of dc_looks_of pm_looks_of cd_looks_of ct_looks_of oc_state_of kV_state_of dc_state_of pm_state_of cd_state_of ct_state_of oc_law_jar kV_law_jar dc_law_jar pm_law_jar cd_law_jar ct_law_jar oc_law_deal kV_law_deal dc_law_deal pm_law_deal cd_law_deal ct_law_deal oc_law_any kV_law_any dc_law_any pm_law_any cd_law_any ct_law_any oc_law_word kV_law_word dc_law_word pm_law_word cd_law_word ct_law_word oc_law_pool kV_law_pool dc_law_pool pm_law_pool cd_law_pool ct_law_pool oc_law_strange kV_law_strange dc_law_strange pm_law_strange cd_law_strange ct_law_strange oc_law_row kV_law_row dc_law_row pm_law_row cd_law_row ct_law_row oc_law_atom kV_law_atom dc_law_atom pm_law_atom cd_law_atom ct_law_atom oc_law_question kV_law_question dc_law_question pm_law_question cd_law_question ct_law_question oc_law_asked kV_law_asked dc_law_asked pm_law_asked cd_law_asked ct_law_asked oc_law_atoms kV_law_atoms dc_law_atoms pm_law_atoms cd_law_atoms ct_law_atoms oc_law_once kV_law_once dc_law_once pm_law_once cd_law_once ct_law_once oc_law_look kV_law_look dc_law_look pm_law_look cd_law_look ct_law_look oc_law_is_true_of kV_law_is_true_of dc_law_is_true_of pm_law_is_true_of cd_law_is_true_of ct_law_is_true_of oc_law_looks kV_law_looks dc_law_looks pm_law_looks cd_law_looks ct_law_looks oc_law_ago kV_law_ago dc_law_ago pm_law_ago cd_law_ago ct_law_ago oc_law_state_of kV_law_state_of dc_law_state_of pm_law_state_of cd_law_state_of ct_law_state_of oc_law_states_of kV_law_states_of dc_law_states_of pm_law_states_of cd_law_states_of ct_law_states_of oc_law_long kV_law_long dc_law_long pm_law_long cd_law_long ct_law_long oc_law_right kV_law_right dc_law_right pm_law_right cd_law_right ct_law_right oc_law kV_law dc_law pm_law cd_law ct_law : Value}
    {t_SMALL_LETTERS : Tok} {t_FIGURES : Tok} {t_LEAST_CODE : Tok} {t_MOST_CODE : Tok} {t_BARRED_CODE : Tok} {t_MOST_IN_TERM : Tok} {t_MOST_IN_NAME : Tok} {t_MOST_IN_BEGIN : Tok} {t_MOST_IN_ROW : Tok} {od_FIELDS : Option Addr} {sl_FIELDS : Array (Option Value)} {ep_FIELDS : Nat} {t0_FIELDS : Tok} {t1_FIELDS : Tok} {t2_FIELDS : Tok} {t_MOST_TERMS : Tok} {t_MOST_NEAR : Tok} {t_MOST_INSIDE : Tok} {t_MOST_NODES : Tok} {t_MOST_LEVELS : Tok} {t_MOST_ATOMS : Tok} {od_NEAR_SO : Option Addr} {sl_NEAR_SO : Array (Option Value)} {ep_NEAR_SO : Nat} {t0_NEAR_SO : Tok} {t1_NEAR_SO : Tok} (X : K.In h) (G : h.Ns mainGlobals mg)
    (a_is_whole : PySem.W.nsIn K mainGlobals "is_whole" = some (some (.ref f_is_whole)))
    (l_is_whole : K.lookup f_is_whole = some ⟨oc_is_whole, od_is_whole, .func (PySem.W.fnOf "is_whole" "is_whole" (defArgs s_is_whole) (defBody s_is_whole) (defScope s_is_whole) .none kV_is_whole dc_is_whole pm_is_whole an_is_whole cd_is_whole ct_is_whole), sl_is_whole⟩)
    (c_is_whole : PySem.W.codeIn K cd_is_whole "is_whole" = true)
    (k_is_whole : PySem.W.keepIn K (.ref f_is_whole) = true)
    (a_is_number : PySem.W.nsIn K mainGlobals "is_number" = some (some (.ref f_is_number)))
    (l_is_number : K.lookup f_is_number = some ⟨oc_is_number, od_is_number, .func (PySem.W.fnOf "is_number" "is_number" (defArgs s_is_number) (defBody s_is_number) (defScope s_is_number) .none kV_is_number dc_is_number pm_is_number an_is_number cd_is_number ct_is_number), sl_is_number⟩)
    (c_is_number : PySem.W.codeIn K cd_is_number "is_number" = true)
    (k_is_number : PySem.W.keepIn K (.ref f_is_number) = true)
    (a_is_tuple_of : PySem.W.nsIn K mainGlobals "is_tuple_of" = some (some (.ref f_is_tuple_of)))
    (l_is_tuple_of : K.lookup f_is_tuple_of = some ⟨oc_is_tuple_of, od_is_tuple_of, .func (PySem.W.fnOf "is_tuple_of" "is_tuple_of" (defArgs s_is_tuple_of) (defBody s_is_tuple_of) (defScope s_is_tuple_of) .none kV_is_tuple_of dc_is_tuple_of pm_is_tuple_of an_is_tuple_of cd_is_tuple_of ct_is_tuple_of), sl_is_tuple_of⟩)
    (c_is_tuple_of : PySem.W.codeIn K cd_is_tuple_of "is_tuple_of" = true)
    (k_is_tuple_of : PySem.W.keepIn K (.ref f_is_tuple_of) = true)
    (a_is_sign : PySem.W.nsIn K mainGlobals "is_sign" = some (some (.ref f_is_sign)))
    (l_is_sign : K.lookup f_is_sign = some ⟨oc_is_sign, od_is_sign, .func (PySem.W.fnOf "is_sign" "is_sign" (defArgs s_is_sign) (defBody s_is_sign) (defScope s_is_sign) .none kV_is_sign dc_is_sign pm_is_sign an_is_sign cd_is_sign ct_is_sign), sl_is_sign⟩)
    (c_is_sign : PySem.W.codeIn K cd_is_sign "is_sign" = true)
    (k_is_sign : PySem.W.keepIn K (.ref f_is_sign) = true)
    (a_is_string : PySem.W.nsIn K mainGlobals "is_string" = some (some (.ref f_is_string)))
    (l_is_string : K.lookup f_is_string = some ⟨oc_is_string, od_is_string, .func (PySem.W.fnOf "is_string" "is_string" (defArgs s_is_string) (defBody s_is_string) (defScope s_is_string) .none kV_is_string dc_is_string pm_is_string an_is_string cd_is_string ct_is_string), sl_is_string⟩)
    (c_is_string : PySem.W.codeIn K cd_is_string "is_string" = true)
    (k_is_string : PySem.W.keepIn K (.ref f_is_string) = true)
    (a_is_made_of : PySem.W.nsIn K mainGlobals "is_made_of" = some (some (.ref f_is_made_of)))
    (l_is_made_of : K.lookup f_is_made_of = some ⟨oc_is_made_of, od_is_made_of, .func (PySem.W.fnOf "is_made_of" "is_made_of" (defArgs s_is_made_of) (defBody s_is_made_of) (defScope s_is_made_of) .none kV_is_made_of dc_is_made_of pm_is_made_of an_is_made_of cd_is_made_of ct_is_made_of), sl_is_made_of⟩)
    (c_is_made_of : PySem.W.codeIn K cd_is_made_of "is_made_of" = true)
    (k_is_made_of : PySem.W.keepIn K (.ref f_is_made_of) = true)
    (a_is_named : PySem.W.nsIn K mainGlobals "is_named" = some (some (.ref f_is_named)))
    (l_is_named : K.lookup f_is_named = some ⟨oc_is_named, od_is_named, .func (PySem.W.fnOf "is_named" "is_named" (defArgs s_is_named) (defBody s_is_named) (defScope s_is_named) .none kV_is_named dc_is_named pm_is_named an_is_named cd_is_named ct_is_named), sl_is_named⟩)
    (c_is_named : PySem.W.codeIn K cd_is_named "is_named" = true)
    (k_is_named : PySem.W.keepIn K (.ref f_is_named) = true)
    (a_is_begin : PySem.W.nsIn K mainGlobals "is_begin" = some (some (.ref f_is_begin)))
    (l_is_begin : K.lookup f_is_begin = some ⟨oc_is_begin, od_is_begin, .func (PySem.W.fnOf "is_begin" "is_begin" (defArgs s_is_begin) (defBody s_is_begin) (defScope s_is_begin) .none kV_is_begin dc_is_begin pm_is_begin an_is_begin cd_is_begin ct_is_begin), sl_is_begin⟩)
    (c_is_begin : PySem.W.codeIn K cd_is_begin "is_begin" = true)
    (k_is_begin : PySem.W.keepIn K (.ref f_is_begin) = true)
    (a_is_spaceless : PySem.W.nsIn K mainGlobals "is_spaceless" = some (some (.ref f_is_spaceless)))
    (l_is_spaceless : K.lookup f_is_spaceless = some ⟨oc_is_spaceless, od_is_spaceless, .func (PySem.W.fnOf "is_spaceless" "is_spaceless" (defArgs s_is_spaceless) (defBody s_is_spaceless) (defScope s_is_spaceless) .none kV_is_spaceless dc_is_spaceless pm_is_spaceless an_is_spaceless cd_is_spaceless ct_is_spaceless), sl_is_spaceless⟩)
    (c_is_spaceless : PySem.W.codeIn K cd_is_spaceless "is_spaceless" = true)
    (k_is_spaceless : PySem.W.keepIn K (.ref f_is_spaceless) = true)
    (a_is_term : PySem.W.nsIn K mainGlobals "is_term" = some (some (.ref f_is_term)))
    (l_is_term : K.lookup f_is_term = some ⟨oc_is_term, od_is_term, .func (PySem.W.fnOf "is_term" "is_term" (defArgs s_is_term) (defBody s_is_term) (defScope s_is_term) .none kV_is_term dc_is_term pm_is_term an_is_term cd_is_term ct_is_term), sl_is_term⟩)
    (c_is_term : PySem.W.codeIn K cd_is_term "is_term" = true)
    (k_is_term : PySem.W.keepIn K (.ref f_is_term) = true)
    (a_is_rowed : PySem.W.nsIn K mainGlobals "is_rowed" = some (some (.ref f_is_rowed)))
    (l_is_rowed : K.lookup f_is_rowed = some ⟨oc_is_rowed, od_is_rowed, .func (PySem.W.fnOf "is_rowed" "is_rowed" (defArgs s_is_rowed) (defBody s_is_rowed) (defScope s_is_rowed) .none kV_is_rowed dc_is_rowed pm_is_rowed an_is_rowed cd_is_rowed ct_is_rowed), sl_is_rowed⟩)
    (c_is_rowed : PySem.W.codeIn K cd_is_rowed "is_rowed" = true)
    (k_is_rowed : PySem.W.keepIn K (.ref f_is_rowed) = true)
    (a_check_row : PySem.W.nsIn K mainGlobals "check_row" = some (some (.ref f_check_row)))
    (l_check_row : K.lookup f_check_row = some ⟨oc_check_row, od_check_row, .func (PySem.W.fnOf "check_row" "check_row" (defArgs s_check_row) (defBody s_check_row) (defScope s_check_row) .none kV_check_row dc_check_row pm_check_row an_check_row cd_check_row ct_check_row), sl_check_row⟩)
    (c_check_row : PySem.W.codeIn K cd_check_row "check_row" = true)
    (k_check_row : PySem.W.keepIn K (.ref f_check_row) = true)
    (a_are_terms : PySem.W.nsIn K mainGlobals "are_terms" = some (some (.ref f_are_terms)))
    (l_are_terms : K.lookup f_are_terms = some ⟨oc_are_terms, od_are_terms, .func (PySem.W.fnOf "are_terms" "are_terms" (defArgs s_are_terms) (defBody s_are_terms) (defScope s_are_terms) .none kV_are_terms dc_are_terms pm_are_terms an_are_terms cd_are_terms ct_are_terms), sl_are_terms⟩)
    (c_are_terms : PySem.W.codeIn K cd_are_terms "are_terms" = true)
    (k_are_terms : PySem.W.keepIn K (.ref f_are_terms) = true)
    (a_is_atom : PySem.W.nsIn K mainGlobals "is_atom" = some (some (.ref f_is_atom)))
    (l_is_atom : K.lookup f_is_atom = some ⟨oc_is_atom, od_is_atom, .func (PySem.W.fnOf "is_atom" "is_atom" (defArgs s_is_atom) (defBody s_is_atom) (defScope s_is_atom) .none kV_is_atom dc_is_atom pm_is_atom an_is_atom cd_is_atom ct_is_atom), sl_is_atom⟩)
    (c_is_atom : PySem.W.codeIn K cd_is_atom "is_atom" = true)
    (k_is_atom : PySem.W.keepIn K (.ref f_is_atom) = true)
    (a_inside_of : PySem.W.nsIn K mainGlobals "inside_of" = some (some (.ref f_inside_of)))
    (l_inside_of : K.lookup f_inside_of = some ⟨oc_inside_of, od_inside_of, .func (PySem.W.fnOf "inside_of" "inside_of" (defArgs s_inside_of) (defBody s_inside_of) (defScope s_inside_of) .none kV_inside_of dc_inside_of pm_inside_of an_inside_of cd_inside_of ct_inside_of), sl_inside_of⟩)
    (c_inside_of : PySem.W.codeIn K cd_inside_of "inside_of" = true)
    (k_inside_of : PySem.W.keepIn K (.ref f_inside_of) = true)
    (a_counted : PySem.W.nsIn K mainGlobals "counted" = some (some (.ref f_counted)))
    (l_counted : K.lookup f_counted = some ⟨oc_counted, od_counted, .func (PySem.W.fnOf "counted" "counted" (defArgs s_counted) (defBody s_counted) (defScope s_counted) .none kV_counted dc_counted pm_counted an_counted cd_counted ct_counted), sl_counted⟩)
    (c_counted : PySem.W.codeIn K cd_counted "counted" = true)
    (k_counted : PySem.W.keepIn K (.ref f_counted) = true)
    (a_is_question_by : PySem.W.nsIn K mainGlobals "is_question_by" = some (some (.ref f_is_question_by)))
    (l_is_question_by : K.lookup f_is_question_by = some ⟨oc_is_question_by, od_is_question_by, .func (PySem.W.fnOf "is_question_by" "is_question_by" (defArgs s_is_question_by) (defBody s_is_question_by) (defScope s_is_question_by) .none kV_is_question_by dc_is_question_by pm_is_question_by an_is_question_by cd_is_question_by ct_is_question_by), sl_is_question_by⟩)
    (c_is_question_by : PySem.W.codeIn K cd_is_question_by "is_question_by" = true)
    (k_is_question_by : PySem.W.keepIn K (.ref f_is_question_by) = true)
    (a_all_atoms : PySem.W.nsIn K mainGlobals "all_atoms" = some (some (.ref f_all_atoms)))
    (l_all_atoms : K.lookup f_all_atoms = some ⟨oc_all_atoms, od_all_atoms, .func (PySem.W.fnOf "all_atoms" "all_atoms" (defArgs s_all_atoms) (defBody s_all_atoms) (defScope s_all_atoms) .none kV_all_atoms dc_all_atoms pm_all_atoms an_all_atoms cd_all_atoms ct_all_atoms), sl_all_atoms⟩)
    (c_all_atoms : PySem.W.codeIn K cd_all_atoms "all_atoms" = true)
    (k_all_atoms : PySem.W.keepIn K (.ref f_all_atoms) = true)
    (a_unlike : PySem.W.nsIn K mainGlobals "unlike" = some (some (.ref f_unlike)))
    (l_unlike : K.lookup f_unlike = some ⟨oc_unlike, od_unlike, .func (PySem.W.fnOf "unlike" "unlike" (defArgs s_unlike) (defBody s_unlike) (defScope s_unlike) .none kV_unlike dc_unlike pm_unlike an_unlike cd_unlike ct_unlike), sl_unlike⟩)
    (c_unlike : PySem.W.codeIn K cd_unlike "unlike" = true)
    (k_unlike : PySem.W.keepIn K (.ref f_unlike) = true)
    (a_looks_by : PySem.W.nsIn K mainGlobals "looks_by" = some (some (.ref f_looks_by)))
    (l_looks_by : K.lookup f_looks_by = some ⟨oc_looks_by, od_looks_by, .func (PySem.W.fnOf "looks_by" "looks_by" (defArgs s_looks_by) (defBody s_looks_by) (defScope s_looks_by) .none kV_looks_by dc_looks_by pm_looks_by an_looks_by cd_looks_by ct_looks_by), sl_looks_by⟩)
    (c_looks_by : PySem.W.codeIn K cd_looks_by "looks_by" = true)
    (k_looks_by : PySem.W.keepIn K (.ref f_looks_by) = true)
    (a_first_states : PySem.W.nsIn K mainGlobals "first_states" = some (some (.ref f_first_states)))
    (l_first_states : K.lookup f_first_states = some ⟨oc_first_states, od_first_states, .func (PySem.W.fnOf "first_states" "first_states" (defArgs s_first_states) (defBody s_first_states) (defScope s_first_states) .none kV_first_states dc_first_states pm_first_states an_first_states cd_first_states ct_first_states), sl_first_states⟩)
    (c_first_states : PySem.W.codeIn K cd_first_states "first_states" = true)
    (k_first_states : PySem.W.keepIn K (.ref f_first_states) = true)
    (a_row_step : PySem.W.nsIn K mainGlobals "row_step" = some (some (.ref f_row_step)))
    (l_row_step : K.lookup f_row_step = some ⟨oc_row_step, od_row_step, .func (PySem.W.fnOf "row_step" "row_step" (defArgs s_row_step) (defBody s_row_step) (defScope s_row_step) .none kV_row_step dc_row_step pm_row_step an_row_step cd_row_step ct_row_step), sl_row_step⟩)
    (c_row_step : PySem.W.codeIn K cd_row_step "row_step" = true)
    (k_row_step : PySem.W.keepIn K (.ref f_row_step) = true)
    (a_ago : PySem.W.nsIn K mainGlobals "ago" = some (some (.ref f_ago)))
    (l_ago : K.lookup f_ago = some ⟨oc_ago, od_ago, .func (PySem.W.fnOf "ago" "ago" (defArgs s_ago) (defBody s_ago) (defScope s_ago) .none kV_ago dc_ago pm_ago an_ago cd_ago ct_ago), sl_ago⟩)
    (c_ago : PySem.W.codeIn K cd_ago "ago" = true)
    (k_ago : PySem.W.keepIn K (.ref f_ago) = true)
    (a_near_step : PySem.W.nsIn K mainGlobals "near_step" = some (some (.ref f_near_step)))
    (l_near_step : K.lookup f_near_step = some ⟨oc_near_step, od_near_step, .func (PySem.W.fnOf "near_step" "near_step" (defArgs s_near_step) (defBody s_near_step) (defScope s_near_step) .none kV_near_step dc_near_step pm_near_step an_near_step cd_near_step ct_near_step), sl_near_step⟩)
    (c_near_step : PySem.W.codeIn K cd_near_step "near_step" = true)
    (k_near_step : PySem.W.keepIn K (.ref f_near_step) = true)
    (a_look_step : PySem.W.nsIn K mainGlobals "look_step" = some (some (.ref f_look_step)))
    (l_look_step : K.lookup f_look_step = some ⟨oc_look_step, od_look_step, .func (PySem.W.fnOf "look_step" "look_step" (defArgs s_look_step) (defBody s_look_step) (defScope s_look_step) .none kV_look_step dc_look_step pm_look_step an_look_step cd_look_step ct_look_step), sl_look_step⟩)
    (c_look_step : PySem.W.codeIn K cd_look_step "look_step" = true)
    (k_look_step : PySem.W.keepIn K (.ref f_look_step) = true)
    (a_step_on : PySem.W.nsIn K mainGlobals "step_on" = some (some (.ref f_step_on)))
    (l_step_on : K.lookup f_step_on = some ⟨oc_step_on, od_step_on, .func (PySem.W.fnOf "step_on" "step_on" (defArgs s_step_on) (defBody s_step_on) (defScope s_step_on) .none kV_step_on dc_step_on pm_step_on an_step_on cd_step_on ct_step_on), sl_step_on⟩)
    (c_step_on : PySem.W.codeIn K cd_step_on "step_on" = true)
    (k_step_on : PySem.W.keepIn K (.ref f_step_on) = true)
    (a_state_behind : PySem.W.nsIn K mainGlobals "state_behind" = some (some (.ref f_state_behind)))
    (l_state_behind : K.lookup f_state_behind = some ⟨oc_state_behind, od_state_behind, .func (PySem.W.fnOf "state_behind" "state_behind" (defArgs s_state_behind) (defBody s_state_behind) (defScope s_state_behind) .none kV_state_behind dc_state_behind pm_state_behind an_state_behind cd_state_behind ct_state_behind), sl_state_behind⟩)
    (c_state_behind : PySem.W.codeIn K cd_state_behind "state_behind" = true)
    (k_state_behind : PySem.W.keepIn K (.ref f_state_behind) = true)
    (a_check_question : PySem.W.nsIn K mainGlobals "check_question" = some (some (.ref f_check_question)))
    (l_check_question : K.lookup f_check_question = some ⟨oc_check_question, od_check_question, .func (PySem.W.fnOf "check_question" "check_question" (defArgs s_check_question) (defBody s_check_question) (defScope s_check_question) .none kV_check_question dc_check_question pm_check_question an_check_question cd_check_question ct_check_question), sl_check_question⟩)
    (c_check_question : PySem.W.codeIn K cd_check_question "check_question" = true)
    (k_check_question : PySem.W.keepIn K (.ref f_check_question) = true)
    (a_check_two : PySem.W.nsIn K mainGlobals "check_two" = some (some (.ref f_check_two)))
    (l_check_two : K.lookup f_check_two = some ⟨oc_check_two, od_check_two, .func (PySem.W.fnOf "check_two" "check_two" (defArgs s_check_two) (defBody s_check_two) (defScope s_check_two) .none kV_check_two dc_check_two pm_check_two an_check_two cd_check_two ct_check_two), sl_check_two⟩)
    (c_check_two : PySem.W.codeIn K cd_check_two "check_two" = true)
    (k_check_two : PySem.W.keepIn K (.ref f_check_two) = true)
    (a_looks_of : PySem.W.nsIn K mainGlobals "looks_of" = some (some (.ref f_looks_of)))
    (l_looks_of : K.lookup f_looks_of = some ⟨oc_looks_of, od_looks_of, .func (PySem.W.fnOf "looks_of" "looks_of" (defArgs s_looks_of) (defBody s_looks_of) (defScope s_looks_of) .none kV_looks_of dc_looks_of pm_looks_of an_looks_of cd_looks_of ct_looks_of), sl_looks_of⟩)
    (c_looks_of : PySem.W.codeIn K cd_looks_of "looks_of" = true)
    (k_looks_of : PySem.W.keepIn K (.ref f_looks_of) = true)
    (a_state_of : PySem.W.nsIn K mainGlobals "state_of" = some (some (.ref f_state_of)))
    (l_state_of : K.lookup f_state_of = some ⟨oc_state_of, od_state_of, .func (PySem.W.fnOf "state_of" "state_of" (defArgs s_state_of) (defBody s_state_of) (defScope s_state_of) .none kV_state_of dc_state_of pm_state_of an_state_of cd_state_of ct_state_of), sl_state_of⟩)
    (c_state_of : PySem.W.codeIn K cd_state_of "state_of" = true)
    (k_state_of : PySem.W.keepIn K (.ref f_state_of) = true)
    (a_law_jar : PySem.W.nsIn K mainGlobals "_law_jar" = some (some (.ref f_law_jar)))
    (l_law_jar : K.lookup f_law_jar = some ⟨oc_law_jar, od_law_jar, .func (PySem.W.fnOf "_law_jar" "_law_jar" (defArgs s_law_jar) (defBody s_law_jar) (defScope s_law_jar) .none kV_law_jar dc_law_jar pm_law_jar an_law_jar cd_law_jar ct_law_jar), sl_law_jar⟩)
    (c_law_jar : PySem.W.codeIn K cd_law_jar "_law_jar" = true)
    (k_law_jar : PySem.W.keepIn K (.ref f_law_jar) = true)
    (a_law_deal : PySem.W.nsIn K mainGlobals "_law_deal" = some (some (.ref f_law_deal)))
    (l_law_deal : K.lookup f_law_deal = some ⟨oc_law_deal, od_law_deal, .func (PySem.W.fnOf "_law_deal" "_law_deal" (defArgs s_law_deal) (defBody s_law_deal) (defScope s_law_deal) .none kV_law_deal dc_law_deal pm_law_deal an_law_deal cd_law_deal ct_law_deal), sl_law_deal⟩)
    (c_law_deal : PySem.W.codeIn K cd_law_deal "_law_deal" = true)
    (k_law_deal : PySem.W.keepIn K (.ref f_law_deal) = true)
    (a_law_any : PySem.W.nsIn K mainGlobals "_law_any" = some (some (.ref f_law_any)))
    (l_law_any : K.lookup f_law_any = some ⟨oc_law_any, od_law_any, .func (PySem.W.fnOf "_law_any" "_law_any" (defArgs s_law_any) (defBody s_law_any) (defScope s_law_any) .none kV_law_any dc_law_any pm_law_any an_law_any cd_law_any ct_law_any), sl_law_any⟩)
    (c_law_any : PySem.W.codeIn K cd_law_any "_law_any" = true)
    (k_law_any : PySem.W.keepIn K (.ref f_law_any) = true)
    (a_law_word : PySem.W.nsIn K mainGlobals "_law_word" = some (some (.ref f_law_word)))
    (l_law_word : K.lookup f_law_word = some ⟨oc_law_word, od_law_word, .func (PySem.W.fnOf "_law_word" "_law_word" (defArgs s_law_word) (defBody s_law_word) (defScope s_law_word) .none kV_law_word dc_law_word pm_law_word an_law_word cd_law_word ct_law_word), sl_law_word⟩)
    (c_law_word : PySem.W.codeIn K cd_law_word "_law_word" = true)
    (k_law_word : PySem.W.keepIn K (.ref f_law_word) = true)
    (a_law_pool : PySem.W.nsIn K mainGlobals "_law_pool" = some (some (.ref f_law_pool)))
    (l_law_pool : K.lookup f_law_pool = some ⟨oc_law_pool, od_law_pool, .func (PySem.W.fnOf "_law_pool" "_law_pool" (defArgs s_law_pool) (defBody s_law_pool) (defScope s_law_pool) .none kV_law_pool dc_law_pool pm_law_pool an_law_pool cd_law_pool ct_law_pool), sl_law_pool⟩)
    (c_law_pool : PySem.W.codeIn K cd_law_pool "_law_pool" = true)
    (k_law_pool : PySem.W.keepIn K (.ref f_law_pool) = true)
    (a_law_strange : PySem.W.nsIn K mainGlobals "_law_strange" = some (some (.ref f_law_strange)))
    (l_law_strange : K.lookup f_law_strange = some ⟨oc_law_strange, od_law_strange, .func (PySem.W.fnOf "_law_strange" "_law_strange" (defArgs s_law_strange) (defBody s_law_strange) (defScope s_law_strange) .none kV_law_strange dc_law_strange pm_law_strange an_law_strange cd_law_strange ct_law_strange), sl_law_strange⟩)
    (c_law_strange : PySem.W.codeIn K cd_law_strange "_law_strange" = true)
    (k_law_strange : PySem.W.keepIn K (.ref f_law_strange) = true)
    (a_law_row : PySem.W.nsIn K mainGlobals "_law_row" = some (some (.ref f_law_row)))
    (l_law_row : K.lookup f_law_row = some ⟨oc_law_row, od_law_row, .func (PySem.W.fnOf "_law_row" "_law_row" (defArgs s_law_row) (defBody s_law_row) (defScope s_law_row) .none kV_law_row dc_law_row pm_law_row an_law_row cd_law_row ct_law_row), sl_law_row⟩)
    (c_law_row : PySem.W.codeIn K cd_law_row "_law_row" = true)
    (k_law_row : PySem.W.keepIn K (.ref f_law_row) = true)
    (a_law_atom : PySem.W.nsIn K mainGlobals "_law_atom" = some (some (.ref f_law_atom)))
    (l_law_atom : K.lookup f_law_atom = some ⟨oc_law_atom, od_law_atom, .func (PySem.W.fnOf "_law_atom" "_law_atom" (defArgs s_law_atom) (defBody s_law_atom) (defScope s_law_atom) .none kV_law_atom dc_law_atom pm_law_atom an_law_atom cd_law_atom ct_law_atom), sl_law_atom⟩)
    (c_law_atom : PySem.W.codeIn K cd_law_atom "_law_atom" = true)
    (k_law_atom : PySem.W.keepIn K (.ref f_law_atom) = true)
    (a_law_question : PySem.W.nsIn K mainGlobals "_law_question" = some (some (.ref f_law_question)))
    (l_law_question : K.lookup f_law_question = some ⟨oc_law_question, od_law_question, .func (PySem.W.fnOf "_law_question" "_law_question" (defArgs s_law_question) (defBody s_law_question) (defScope s_law_question) .none kV_law_question dc_law_question pm_law_question an_law_question cd_law_question ct_law_question), sl_law_question⟩)
    (c_law_question : PySem.W.codeIn K cd_law_question "_law_question" = true)
    (k_law_question : PySem.W.keepIn K (.ref f_law_question) = true)
    (a_law_asked : PySem.W.nsIn K mainGlobals "_law_asked" = some (some (.ref f_law_asked)))
    (l_law_asked : K.lookup f_law_asked = some ⟨oc_law_asked, od_law_asked, .func (PySem.W.fnOf "_law_asked" "_law_asked" (defArgs s_law_asked) (defBody s_law_asked) (defScope s_law_asked) .none kV_law_asked dc_law_asked pm_law_asked an_law_asked cd_law_asked ct_law_asked), sl_law_asked⟩)
    (c_law_asked : PySem.W.codeIn K cd_law_asked "_law_asked" = true)
    (k_law_asked : PySem.W.keepIn K (.ref f_law_asked) = true)
    (a_law_atoms : PySem.W.nsIn K mainGlobals "_law_atoms" = some (some (.ref f_law_atoms)))
    (l_law_atoms : K.lookup f_law_atoms = some ⟨oc_law_atoms, od_law_atoms, .func (PySem.W.fnOf "_law_atoms" "_law_atoms" (defArgs s_law_atoms) (defBody s_law_atoms) (defScope s_law_atoms) .none kV_law_atoms dc_law_atoms pm_law_atoms an_law_atoms cd_law_atoms ct_law_atoms), sl_law_atoms⟩)
    (c_law_atoms : PySem.W.codeIn K cd_law_atoms "_law_atoms" = true)
    (k_law_atoms : PySem.W.keepIn K (.ref f_law_atoms) = true)
    (a_law_once : PySem.W.nsIn K mainGlobals "_law_once" = some (some (.ref f_law_once)))
    (l_law_once : K.lookup f_law_once = some ⟨oc_law_once, od_law_once, .func (PySem.W.fnOf "_law_once" "_law_once" (defArgs s_law_once) (defBody s_law_once) (defScope s_law_once) .none kV_law_once dc_law_once pm_law_once an_law_once cd_law_once ct_law_once), sl_law_once⟩)
    (c_law_once : PySem.W.codeIn K cd_law_once "_law_once" = true)
    (k_law_once : PySem.W.keepIn K (.ref f_law_once) = true)
    (a_law_look : PySem.W.nsIn K mainGlobals "_law_look" = some (some (.ref f_law_look)))
    (l_law_look : K.lookup f_law_look = some ⟨oc_law_look, od_law_look, .func (PySem.W.fnOf "_law_look" "_law_look" (defArgs s_law_look) (defBody s_law_look) (defScope s_law_look) .none kV_law_look dc_law_look pm_law_look an_law_look cd_law_look ct_law_look), sl_law_look⟩)
    (c_law_look : PySem.W.codeIn K cd_law_look "_law_look" = true)
    (k_law_look : PySem.W.keepIn K (.ref f_law_look) = true)
    (a_law_is_true_of : PySem.W.nsIn K mainGlobals "_law_is_true_of" = some (some (.ref f_law_is_true_of)))
    (l_law_is_true_of : K.lookup f_law_is_true_of = some ⟨oc_law_is_true_of, od_law_is_true_of, .func (PySem.W.fnOf "_law_is_true_of" "_law_is_true_of" (defArgs s_law_is_true_of) (defBody s_law_is_true_of) (defScope s_law_is_true_of) .none kV_law_is_true_of dc_law_is_true_of pm_law_is_true_of an_law_is_true_of cd_law_is_true_of ct_law_is_true_of), sl_law_is_true_of⟩)
    (c_law_is_true_of : PySem.W.codeIn K cd_law_is_true_of "_law_is_true_of" = true)
    (k_law_is_true_of : PySem.W.keepIn K (.ref f_law_is_true_of) = true)
    (a_law_looks : PySem.W.nsIn K mainGlobals "_law_looks" = some (some (.ref f_law_looks)))
    (l_law_looks : K.lookup f_law_looks = some ⟨oc_law_looks, od_law_looks, .func (PySem.W.fnOf "_law_looks" "_law_looks" (defArgs s_law_looks) (defBody s_law_looks) (defScope s_law_looks) .none kV_law_looks dc_law_looks pm_law_looks an_law_looks cd_law_looks ct_law_looks), sl_law_looks⟩)
    (c_law_looks : PySem.W.codeIn K cd_law_looks "_law_looks" = true)
    (k_law_looks : PySem.W.keepIn K (.ref f_law_looks) = true)
    (a_law_ago : PySem.W.nsIn K mainGlobals "_law_ago" = some (some (.ref f_law_ago)))
    (l_law_ago : K.lookup f_law_ago = some ⟨oc_law_ago, od_law_ago, .func (PySem.W.fnOf "_law_ago" "_law_ago" (defArgs s_law_ago) (defBody s_law_ago) (defScope s_law_ago) .none kV_law_ago dc_law_ago pm_law_ago an_law_ago cd_law_ago ct_law_ago), sl_law_ago⟩)
    (c_law_ago : PySem.W.codeIn K cd_law_ago "_law_ago" = true)
    (k_law_ago : PySem.W.keepIn K (.ref f_law_ago) = true)
    (a_law_state_of : PySem.W.nsIn K mainGlobals "_law_state_of" = some (some (.ref f_law_state_of)))
    (l_law_state_of : K.lookup f_law_state_of = some ⟨oc_law_state_of, od_law_state_of, .func (PySem.W.fnOf "_law_state_of" "_law_state_of" (defArgs s_law_state_of) (defBody s_law_state_of) (defScope s_law_state_of) .none kV_law_state_of dc_law_state_of pm_law_state_of an_law_state_of cd_law_state_of ct_law_state_of), sl_law_state_of⟩)
    (c_law_state_of : PySem.W.codeIn K cd_law_state_of "_law_state_of" = true)
    (k_law_state_of : PySem.W.keepIn K (.ref f_law_state_of) = true)
    (a_law_states_of : PySem.W.nsIn K mainGlobals "_law_states_of" = some (some (.ref f_law_states_of)))
    (l_law_states_of : K.lookup f_law_states_of = some ⟨oc_law_states_of, od_law_states_of, .func (PySem.W.fnOf "_law_states_of" "_law_states_of" (defArgs s_law_states_of) (defBody s_law_states_of) (defScope s_law_states_of) .none kV_law_states_of dc_law_states_of pm_law_states_of an_law_states_of cd_law_states_of ct_law_states_of), sl_law_states_of⟩)
    (c_law_states_of : PySem.W.codeIn K cd_law_states_of "_law_states_of" = true)
    (k_law_states_of : PySem.W.keepIn K (.ref f_law_states_of) = true)
    (a_law_long : PySem.W.nsIn K mainGlobals "_law_long" = some (some (.ref f_law_long)))
    (l_law_long : K.lookup f_law_long = some ⟨oc_law_long, od_law_long, .func (PySem.W.fnOf "_law_long" "_law_long" (defArgs s_law_long) (defBody s_law_long) (defScope s_law_long) .none kV_law_long dc_law_long pm_law_long an_law_long cd_law_long ct_law_long), sl_law_long⟩)
    (c_law_long : PySem.W.codeIn K cd_law_long "_law_long" = true)
    (k_law_long : PySem.W.keepIn K (.ref f_law_long) = true)
    (a_law_right : PySem.W.nsIn K mainGlobals "_law_right" = some (some (.ref f_law_right)))
    (l_law_right : K.lookup f_law_right = some ⟨oc_law_right, od_law_right, .func (PySem.W.fnOf "_law_right" "_law_right" (defArgs s_law_right) (defBody s_law_right) (defScope s_law_right) .none kV_law_right dc_law_right pm_law_right an_law_right cd_law_right ct_law_right), sl_law_right⟩)
    (c_law_right : PySem.W.codeIn K cd_law_right "_law_right" = true)
    (k_law_right : PySem.W.keepIn K (.ref f_law_right) = true)
    (a_law : PySem.W.nsIn K mainGlobals "law" = some (some (.ref f_law)))
    (l_law : K.lookup f_law = some ⟨oc_law, od_law, .func (PySem.W.fnOf "law" "law" (defArgs s_law) (defBody s_law) (defScope s_law) .none kV_law dc_law pm_law an_law cd_law ct_law), sl_law⟩)
    (c_law : PySem.W.codeIn K cd_law "law" = true)
    (k_law : PySem.W.keepIn K (.ref f_law) = true)
    (n_SMALL_LETTERS : PySem.W.nsIn K mainGlobals "SMALL_LETTERS" = some (some (.str "abcdefghijklmnopqrstuvwxyz" t_SMALL_LETTERS)))
    (n_FIGURES : PySem.W.nsIn K mainGlobals "FIGURES" = some (some (.str "0123456789" t_FIGURES)))
    (n_LEAST_CODE : PySem.W.nsIn K mainGlobals "LEAST_CODE" = some (some (.int (32) t_LEAST_CODE)))
    (n_MOST_CODE : PySem.W.nsIn K mainGlobals "MOST_CODE" = some (some (.int (126) t_MOST_CODE)))
    (n_BARRED_CODE : PySem.W.nsIn K mainGlobals "BARRED_CODE" = some (some (.int (37) t_BARRED_CODE)))
    (n_MOST_IN_TERM : PySem.W.nsIn K mainGlobals "MOST_IN_TERM" = some (some (.int (210) t_MOST_IN_TERM)))
    (n_MOST_IN_NAME : PySem.W.nsIn K mainGlobals "MOST_IN_NAME" = some (some (.int (12) t_MOST_IN_NAME)))
    (n_MOST_IN_BEGIN : PySem.W.nsIn K mainGlobals "MOST_IN_BEGIN" = some (some (.int (6) t_MOST_IN_BEGIN)))
    (n_MOST_IN_ROW : PySem.W.nsIn K mainGlobals "MOST_IN_ROW" = some (some (.int (400) t_MOST_IN_ROW)))
    (n_FIELDS : PySem.W.nsIn K mainGlobals "FIELDS" = some (some (.ref a_FIELDS)))
    (lt_FIELDS : K.lookup a_FIELDS = some ⟨.type "tuple", od_FIELDS, .seq #[.str "head" t0_FIELDS, .str "body" t1_FIELDS, .str "any" t2_FIELDS] ep_FIELDS, sl_FIELDS⟩)
    (n_MOST_TERMS : PySem.W.nsIn K mainGlobals "MOST_TERMS" = some (some (.int (4) t_MOST_TERMS)))
    (n_MOST_NEAR : PySem.W.nsIn K mainGlobals "MOST_NEAR" = some (some (.int (6) t_MOST_NEAR)))
    (n_MOST_INSIDE : PySem.W.nsIn K mainGlobals "MOST_INSIDE" = some (some (.int (6) t_MOST_INSIDE)))
    (n_MOST_NODES : PySem.W.nsIn K mainGlobals "MOST_NODES" = some (some (.int (12) t_MOST_NODES)))
    (n_MOST_LEVELS : PySem.W.nsIn K mainGlobals "MOST_LEVELS" = some (some (.int (4) t_MOST_LEVELS)))
    (n_MOST_ATOMS : PySem.W.nsIn K mainGlobals "MOST_ATOMS" = some (some (.int (6) t_MOST_ATOMS)))
    (n_NEAR_SO : PySem.W.nsIn K mainGlobals "NEAR_SO" = some (some (.ref a_NEAR_SO)))
    (lt_NEAR_SO : K.lookup a_NEAR_SO = some ⟨.type "tuple", od_NEAR_SO, .seq #[.int 9 t0_NEAR_SO, .int 9 t1_NEAR_SO] ep_NEAR_SO, sl_NEAR_SO⟩)
    (z_abs : PySem.W.nsIn K mainGlobals "abs" = some none)
    (z_all : PySem.W.nsIn K mainGlobals "all" = some none)
    (z_any : PySem.W.nsIn K mainGlobals "any" = some none)
    (z_bool : PySem.W.nsIn K mainGlobals "bool" = some none)
    (z_divmod : PySem.W.nsIn K mainGlobals "divmod" = some none)
    (z_int : PySem.W.nsIn K mainGlobals "int" = some none)
    (z_isinstance : PySem.W.nsIn K mainGlobals "isinstance" = some none)
    (z_len : PySem.W.nsIn K mainGlobals "len" = some none)
    (z_max : PySem.W.nsIn K mainGlobals "max" = some none)
    (z_min : PySem.W.nsIn K mainGlobals "min" = some none)
    (z_ord : PySem.W.nsIn K mainGlobals "ord" = some none)
    (z_range : PySem.W.nsIn K mainGlobals "range" = some none)
    (z_repr : PySem.W.nsIn K mainGlobals "repr" = some none)
    (z_str : PySem.W.nsIn K mainGlobals "str" = some none)
    (z_sum : PySem.W.nsIn K mainGlobals "sum" = some none)
    (z_tuple : PySem.W.nsIn K mainGlobals "tuple" = some none)
    (z_zip : PySem.W.nsIn K mainGlobals "zip" = some none) : ∃ T : Txt P K mg, T.f_law = f_law := by
  have F_is_whole := fun_mk (st := s_is_whole) l_is_whole c_is_whole k_is_whole
  have b_is_whole := F_is_whole.binds (ps := ["value"]) fun _ _ _ _ _ _ us hl => match us, hl with | [_], _ => rfl
  have F_is_number := fun_mk (st := s_is_number) l_is_number c_is_number k_is_number
  have b_is_number := F_is_number.binds (ps := ["value", "low", "high"]) fun _ _ _ _ _ _ us hl => match us, hl with | [_, _, _], _ => rfl
  have F_is_tuple_of := fun_mk (st := s_is_tuple_of) l_is_tuple_of c_is_tuple_of k_is_tuple_of
  have b_is_tuple_of := F_is_tuple_of.binds (ps := ["value", "many"]) fun _ _ _ _ _ _ us hl => match us, hl with | [_, _], _ => rfl
  have F_is_sign := fun_mk (st := s_is_sign) l_is_sign c_is_sign k_is_sign
  have b_is_sign := F_is_sign.binds (ps := ["sign"]) fun _ _ _ _ _ _ us hl => match us, hl with | [_], _ => rfl
  have F_is_string := fun_mk (st := s_is_string) l_is_string c_is_string k_is_string
  have b_is_string := F_is_string.binds (ps := ["value", "most"]) fun _ _ _ _ _ _ us hl => match us, hl with | [_, _], _ => rfl
  have F_is_made_of := fun_mk (st := s_is_made_of) l_is_made_of c_is_made_of k_is_made_of
  have b_is_made_of := F_is_made_of.binds (ps := ["value", "signs", "least", "most"]) fun _ _ _ _ _ _ us hl => match us, hl with | [_, _, _, _], _ => rfl
  have F_is_named := fun_mk (st := s_is_named) l_is_named c_is_named k_is_named
  have b_is_named := F_is_named.binds (ps := ["value"]) fun _ _ _ _ _ _ us hl => match us, hl with | [_], _ => rfl
  have F_is_begin := fun_mk (st := s_is_begin) l_is_begin c_is_begin k_is_begin
  have b_is_begin := F_is_begin.binds (ps := ["value"]) fun _ _ _ _ _ _ us hl => match us, hl with | [_], _ => rfl
  have F_is_spaceless := fun_mk (st := s_is_spaceless) l_is_spaceless c_is_spaceless k_is_spaceless
  have b_is_spaceless := F_is_spaceless.binds (ps := ["value", "most"]) fun _ _ _ _ _ _ us hl => match us, hl with | [_, _], _ => rfl
  have F_is_term := fun_mk (st := s_is_term) l_is_term c_is_term k_is_term
  have b_is_term := F_is_term.binds (ps := ["value"]) fun _ _ _ _ _ _ us hl => match us, hl with | [_], _ => rfl
  have F_is_rowed := fun_mk (st := s_is_rowed) l_is_rowed c_is_rowed k_is_rowed
  have b_is_rowed := F_is_rowed.binds (ps := ["value"]) fun _ _ _ _ _ _ us hl => match us, hl with | [_], _ => rfl
  have F_check_row := fun_mk (st := s_check_row) l_check_row c_check_row k_check_row
  have b_check_row := F_check_row.binds (ps := ["value"]) fun _ _ _ _ _ _ us hl => match us, hl with | [_], _ => rfl
  have F_are_terms := fun_mk (st := s_are_terms) l_are_terms c_are_terms k_are_terms
  have b_are_terms := F_are_terms.binds (ps := ["value"]) fun _ _ _ _ _ _ us hl => match us, hl with | [_], _ => rfl
  have F_is_atom := fun_mk (st := s_is_atom) l_is_atom c_is_atom k_is_atom
  have b_is_atom := F_is_atom.binds (ps := ["value"]) fun _ _ _ _ _ _ us hl => match us, hl with | [_], _ => rfl
  have F_inside_of := fun_mk (st := s_inside_of) l_inside_of c_inside_of k_inside_of
  have b_inside_of := F_inside_of.binds (ps := ["value"]) fun _ _ _ _ _ _ us hl => match us, hl with | [_], _ => rfl
  have F_counted := fun_mk (st := s_counted) l_counted c_counted k_counted
  have b_counted := F_counted.binds (ps := ["value", "levels"]) fun _ _ _ _ _ _ us hl => match us, hl with | [_, _], _ => rfl
  have F_is_question_by := fun_mk (st := s_is_question_by) l_is_question_by c_is_question_by k_is_question_by
  have b_is_question_by := F_is_question_by.binds (ps := ["value"]) fun _ _ _ _ _ _ us hl => match us, hl with | [_], _ => rfl
  have F_all_atoms := fun_mk (st := s_all_atoms) l_all_atoms c_all_atoms k_all_atoms
  have b_all_atoms := F_all_atoms.binds (ps := ["question"]) fun _ _ _ _ _ _ us hl => match us, hl with | [_], _ => rfl
  have F_unlike := fun_mk (st := s_unlike) l_unlike c_unlike k_unlike
  have b_unlike := F_unlike.binds (ps := ["row"]) fun _ _ _ _ _ _ us hl => match us, hl with | [_], _ => rfl
  have F_looks_by := fun_mk (st := s_looks_by) l_looks_by c_looks_by k_looks_by
  have b_looks_by := F_looks_by.binds (ps := ["question", "other"]) fun _ _ _ _ _ _ us hl => match us, hl with | [_, _], _ => rfl
  have F_first_states := fun_mk (st := s_first_states) l_first_states c_first_states k_first_states
  have b_first_states := F_first_states.binds (ps := ["looks"]) fun _ _ _ _ _ _ us hl => match us, hl with | [_], _ => rfl
  have F_row_step := fun_mk (st := s_row_step) l_row_step c_row_step k_row_step
  have b_row_step := F_row_step.binds (ps := ["terms", "state", "thing"]) fun _ _ _ _ _ _ us hl => match us, hl with | [_, _, _], _ => rfl
  have F_ago := fun_mk (st := s_ago) l_ago c_ago k_ago
  have b_ago := F_ago.binds (ps := ["state", "is_here", "most"]) fun _ _ _ _ _ _ us hl => match us, hl with | [_, _, _], _ => rfl
  have F_near_step := fun_mk (st := s_near_step) l_near_step c_near_step k_near_step
  have b_near_step := F_near_step.binds (ps := ["look", "state", "thing"]) fun _ _ _ _ _ _ us hl => match us, hl with | [_, _, _], _ => rfl
  have F_look_step := fun_mk (st := s_look_step) l_look_step c_look_step k_look_step
  have b_look_step := F_look_step.binds (ps := ["look", "state", "thing"]) fun _ _ _ _ _ _ us hl => match us, hl with | [_, _, _], _ => rfl
  have F_step_on := fun_mk (st := s_step_on) l_step_on c_step_on k_step_on
  have b_step_on := F_step_on.binds (ps := ["looks", "states", "thing"]) fun _ _ _ _ _ _ us hl => match us, hl with | [_, _, _], _ => rfl
  have F_state_behind := fun_mk (st := s_state_behind) l_state_behind c_state_behind k_state_behind
  have b_state_behind := F_state_behind.binds (ps := ["looks", "row"]) fun _ _ _ _ _ _ us hl => match us, hl with | [_, _], _ => rfl
  have F_check_question := fun_mk (st := s_check_question) l_check_question c_check_question k_check_question
  have b_check_question := F_check_question.binds (ps := ["value"]) fun _ _ _ _ _ _ us hl => match us, hl with | [_], _ => rfl
  have F_check_two := fun_mk (st := s_check_two) l_check_two c_check_two k_check_two
  have b_check_two := F_check_two.binds (ps := ["question", "other"]) fun _ _ _ _ _ _ us hl => match us, hl with | [_, _], _ => rfl
  have F_looks_of := fun_mk (st := s_looks_of) l_looks_of c_looks_of k_looks_of
  have b_looks_of := F_looks_of.binds (ps := ["question", "other"]) fun _ _ _ _ _ _ us hl => match us, hl with | [_, _], _ => rfl
  have kb_looks_of_other_question : KBinds K (PySem.W.fnOf "looks_of" "looks_of" (defArgs s_looks_of) (defBody s_looks_of) (defScope s_looks_of) .none kV_looks_of dc_looks_of pm_looks_of an_looks_of cd_looks_of ct_looks_of) ["question", "other"] ["other", "question"] (fun us ws => kbP 0 2 [1, 0] us ws) (fun us ws => kbP 0 2 [1, 0] us ws) := kb_looks_of_other_question
  have F_state_of := fun_mk (st := s_state_of) l_state_of c_state_of k_state_of
  have b_state_of := F_state_of.binds (ps := ["question", "other", "row"]) fun _ _ _ _ _ _ us hl => match us, hl with | [_, _, _], _ => rfl
  have kb_state_of_row_other_question : KBinds K (PySem.W.fnOf "state_of" "state_of" (defArgs s_state_of) (defBody s_state_of) (defScope s_state_of) .none kV_state_of dc_state_of pm_state_of an_state_of cd_state_of ct_state_of) ["question", "other", "row"] ["row", "other", "question"] (fun us ws => kbP 0 3 [2, 1, 0] us ws) (fun us ws => kbP 0 3 [2, 1, 0] us ws) := kb_state_of_row_other_question
  have F_law_jar := fun_mk (st := s_law_jar) l_law_jar c_law_jar k_law_jar
  have b_law_jar := F_law_jar.binds (ps := ["script", "turn"]) fun _ _ _ _ _ _ us hl => match us, hl with | [_, _], _ => rfl
  have F_law_deal := fun_mk (st := s_law_deal) l_law_deal c_law_deal k_law_deal
  have b_law_deal := F_law_deal.binds (ps := ["jar", "many"]) fun _ _ _ _ _ _ us hl => match us, hl with | [_, _], _ => rfl
  have F_law_any := fun_mk (st := s_law_any) l_law_any c_law_any k_law_any
  have b_law_any := F_law_any.binds (ps := ["jar", "some"]) fun _ _ _ _ _ _ us hl => match us, hl with | [_, _], _ => rfl
  have F_law_word := fun_mk (st := s_law_word) l_law_word c_law_word k_law_word
  have b_law_word := F_law_word.binds (ps := ["jar", "size"]) fun _ _ _ _ _ _ us hl => match us, hl with | [_, _], _ => rfl
  have F_law_pool := fun_mk (st := s_law_pool) l_law_pool c_law_pool k_law_pool
  have b_law_pool := F_law_pool.binds (ps := ["jar", "many"]) fun _ _ _ _ _ _ us hl => match us, hl with | [_, _], _ => rfl
  have F_law_strange := fun_mk (st := s_law_strange) l_law_strange c_law_strange k_law_strange
  have b_law_strange := F_law_strange.binds (ps := ["jar", "pool"]) fun _ _ _ _ _ _ us hl => match us, hl with | [_, _], _ => rfl
  have F_law_row := fun_mk (st := s_law_row) l_law_row c_law_row k_law_row
  have b_law_row := F_law_row.binds (ps := ["jar", "pool", "most"]) fun _ _ _ _ _ _ us hl => match us, hl with | [_, _, _], _ => rfl
  have F_law_atom := fun_mk (st := s_law_atom) l_law_atom c_law_atom k_law_atom
  have b_law_atom := F_law_atom.binds (ps := ["jar", "pool"]) fun _ _ _ _ _ _ us hl => match us, hl with | [_, _], _ => rfl
  have F_law_question := fun_mk (st := s_law_question) l_law_question c_law_question k_law_question
  have b_law_question := F_law_question.binds (ps := ["jar", "pool", "levels", "left"]) fun _ _ _ _ _ _ us hl => match us, hl with | [_, _, _, _], _ => rfl
  have F_law_asked := fun_mk (st := s_law_asked) l_law_asked c_law_asked k_law_asked
  have b_law_asked := F_law_asked.binds (ps := ["jar", "pool"]) fun _ _ _ _ _ _ us hl => match us, hl with | [_, _], _ => rfl
  have F_law_atoms := fun_mk (st := s_law_atoms) l_law_atoms c_law_atoms k_law_atoms
  have b_law_atoms := F_law_atoms.binds (ps := ["question"]) fun _ _ _ _ _ _ us hl => match us, hl with | [_], _ => rfl
  have F_law_once := fun_mk (st := s_law_once) l_law_once c_law_once k_law_once
  have b_law_once := F_law_once.binds (ps := ["some"]) fun _ _ _ _ _ _ us hl => match us, hl with | [_], _ => rfl
  have F_law_look := fun_mk (st := s_law_look) l_law_look c_law_look k_law_look
  have b_law_look := F_law_look.binds (ps := ["atom"]) fun _ _ _ _ _ _ us hl => match us, hl with | [_], _ => rfl
  have F_law_is_true_of := fun_mk (st := s_law_is_true_of) l_law_is_true_of c_law_is_true_of k_law_is_true_of
  have b_law_is_true_of := F_law_is_true_of.binds (ps := ["look", "row"]) fun _ _ _ _ _ _ us hl => match us, hl with | [_, _], _ => rfl
  have F_law_looks := fun_mk (st := s_law_looks) l_law_looks c_law_looks k_law_looks
  have b_law_looks := F_law_looks.binds (ps := ["one", "two"]) fun _ _ _ _ _ _ us hl => match us, hl with | [_, _], _ => rfl
  have F_law_ago := fun_mk (st := s_law_ago) l_law_ago c_law_ago k_law_ago
  have b_law_ago := F_law_ago.binds (ps := ["row", "term", "most"]) fun _ _ _ _ _ _ us hl => match us, hl with | [_, _, _], _ => rfl
  have F_law_state_of := fun_mk (st := s_law_state_of) l_law_state_of c_law_state_of k_law_state_of
  have b_law_state_of := F_law_state_of.binds (ps := ["look", "row"]) fun _ _ _ _ _ _ us hl => match us, hl with | [_, _], _ => rfl
  have F_law_states_of := fun_mk (st := s_law_states_of) l_law_states_of c_law_states_of k_law_states_of
  have b_law_states_of := F_law_states_of.binds (ps := ["looks", "row"]) fun _ _ _ _ _ _ us hl => match us, hl with | [_, _], _ => rfl
  have F_law_long := fun_mk (st := s_law_long) l_law_long c_law_long k_law_long
  have b_law_long := F_law_long.binds (ps := ["jar", "pool"]) fun _ _ _ _ _ _ us hl => match us, hl with | [_, _], _ => rfl
  have F_law_right := fun_mk (st := s_law_right) l_law_right c_law_right k_law_right
  have b_law_right := F_law_right.binds (ps := ["jar"]) fun _ _ _ _ _ _ us hl => match us, hl with | [_], _ => rfl
  have F_law := fun_mk (st := s_law) l_law c_law k_law
  have b_law := F_law.binds (ps := ["script"]) fun _ _ _ _ _ _ us hl => match us, hl with | [_], _ => rfl
  exact ⟨{ f_is_whole := f_is_whole, d_is_whole := _, F_is_whole := F_is_whole, b_is_whole := b_is_whole, g_is_whole := PySem.W.mg_of X G a_is_whole, f_is_number := f_is_number, d_is_number := _, F_is_number := F_is_number, b_is_number := b_is_number, g_is_number := PySem.W.mg_of X G a_is_number, f_is_tuple_of := f_is_tuple_of, d_is_tuple_of := _, F_is_tuple_of := F_is_tuple_of, b_is_tuple_of := b_is_tuple_of, g_is_tuple_of := PySem.W.mg_of X G a_is_tuple_of, f_is_sign := f_is_sign, d_is_sign := _, F_is_sign := F_is_sign, b_is_sign := b_is_sign, g_is_sign := PySem.W.mg_of X G a_is_sign, f_is_string := f_is_string, d_is_string := _, F_is_string := F_is_string, b_is_string := b_is_string, g_is_string := PySem.W.mg_of X G a_is_string, f_is_made_of := f_is_made_of, d_is_made_of := _, F_is_made_of := F_is_made_of, b_is_made_of := b_is_made_of, g_is_made_of := PySem.W.mg_of X G a_is_made_of, f_is_named := f_is_named, d_is_named := _, F_is_named := F_is_named, b_is_named := b_is_named, g_is_named := PySem.W.mg_of X G a_is_named, f_is_begin := f_is_begin, d_is_begin := _, F_is_begin := F_is_begin, b_is_begin := b_is_begin, g_is_begin := PySem.W.mg_of X G a_is_begin, f_is_spaceless := f_is_spaceless, d_is_spaceless := _, F_is_spaceless := F_is_spaceless, b_is_spaceless := b_is_spaceless, g_is_spaceless := PySem.W.mg_of X G a_is_spaceless, f_is_term := f_is_term, d_is_term := _, F_is_term := F_is_term, b_is_term := b_is_term, g_is_term := PySem.W.mg_of X G a_is_term, f_is_rowed := f_is_rowed, d_is_rowed := _, F_is_rowed := F_is_rowed, b_is_rowed := b_is_rowed, g_is_rowed := PySem.W.mg_of X G a_is_rowed, f_check_row := f_check_row, d_check_row := _, F_check_row := F_check_row, b_check_row := b_check_row, g_check_row := PySem.W.mg_of X G a_check_row, f_are_terms := f_are_terms, d_are_terms := _, F_are_terms := F_are_terms, b_are_terms := b_are_terms, g_are_terms := PySem.W.mg_of X G a_are_terms, f_is_atom := f_is_atom, d_is_atom := _, F_is_atom := F_is_atom, b_is_atom := b_is_atom, g_is_atom := PySem.W.mg_of X G a_is_atom, f_inside_of := f_inside_of, d_inside_of := _, F_inside_of := F_inside_of, b_inside_of := b_inside_of, g_inside_of := PySem.W.mg_of X G a_inside_of, f_counted := f_counted, d_counted := _, F_counted := F_counted, b_counted := b_counted, g_counted := PySem.W.mg_of X G a_counted, f_is_question_by := f_is_question_by, d_is_question_by := _, F_is_question_by := F_is_question_by, b_is_question_by := b_is_question_by, g_is_question_by := PySem.W.mg_of X G a_is_question_by, f_all_atoms := f_all_atoms, d_all_atoms := _, F_all_atoms := F_all_atoms, b_all_atoms := b_all_atoms, g_all_atoms := PySem.W.mg_of X G a_all_atoms, f_unlike := f_unlike, d_unlike := _, F_unlike := F_unlike, b_unlike := b_unlike, g_unlike := PySem.W.mg_of X G a_unlike, f_looks_by := f_looks_by, d_looks_by := _, F_looks_by := F_looks_by, b_looks_by := b_looks_by, g_looks_by := PySem.W.mg_of X G a_looks_by, f_first_states := f_first_states, d_first_states := _, F_first_states := F_first_states, b_first_states := b_first_states, g_first_states := PySem.W.mg_of X G a_first_states, f_row_step := f_row_step, d_row_step := _, F_row_step := F_row_step, b_row_step := b_row_step, g_row_step := PySem.W.mg_of X G a_row_step, f_ago := f_ago, d_ago := _, F_ago := F_ago, b_ago := b_ago, g_ago := PySem.W.mg_of X G a_ago, f_near_step := f_near_step, d_near_step := _, F_near_step := F_near_step, b_near_step := b_near_step, g_near_step := PySem.W.mg_of X G a_near_step, f_look_step := f_look_step, d_look_step := _, F_look_step := F_look_step, b_look_step := b_look_step, g_look_step := PySem.W.mg_of X G a_look_step, f_step_on := f_step_on, d_step_on := _, F_step_on := F_step_on, b_step_on := b_step_on, g_step_on := PySem.W.mg_of X G a_step_on, f_state_behind := f_state_behind, d_state_behind := _, F_state_behind := F_state_behind, b_state_behind := b_state_behind, g_state_behind := PySem.W.mg_of X G a_state_behind, f_check_question := f_check_question, d_check_question := _, F_check_question := F_check_question, b_check_question := b_check_question, g_check_question := PySem.W.mg_of X G a_check_question, f_check_two := f_check_two, d_check_two := _, F_check_two := F_check_two, b_check_two := b_check_two, g_check_two := PySem.W.mg_of X G a_check_two, f_looks_of := f_looks_of, d_looks_of := _, F_looks_of := F_looks_of, b_looks_of := b_looks_of, kb_looks_of_other_question := kb_looks_of_other_question, g_looks_of := PySem.W.mg_of X G a_looks_of, f_state_of := f_state_of, d_state_of := _, F_state_of := F_state_of, b_state_of := b_state_of, kb_state_of_row_other_question := kb_state_of_row_other_question, g_state_of := PySem.W.mg_of X G a_state_of, f_law_jar := f_law_jar, d_law_jar := _, F_law_jar := F_law_jar, b_law_jar := b_law_jar, g__law_jar := PySem.W.mg_of X G a_law_jar, f_law_deal := f_law_deal, d_law_deal := _, F_law_deal := F_law_deal, b_law_deal := b_law_deal, g__law_deal := PySem.W.mg_of X G a_law_deal, f_law_any := f_law_any, d_law_any := _, F_law_any := F_law_any, b_law_any := b_law_any, g__law_any := PySem.W.mg_of X G a_law_any, f_law_word := f_law_word, d_law_word := _, F_law_word := F_law_word, b_law_word := b_law_word, g__law_word := PySem.W.mg_of X G a_law_word, f_law_pool := f_law_pool, d_law_pool := _, F_law_pool := F_law_pool, b_law_pool := b_law_pool, g__law_pool := PySem.W.mg_of X G a_law_pool, f_law_strange := f_law_strange, d_law_strange := _, F_law_strange := F_law_strange, b_law_strange := b_law_strange, g__law_strange := PySem.W.mg_of X G a_law_strange, f_law_row := f_law_row, d_law_row := _, F_law_row := F_law_row, b_law_row := b_law_row, g__law_row := PySem.W.mg_of X G a_law_row, f_law_atom := f_law_atom, d_law_atom := _, F_law_atom := F_law_atom, b_law_atom := b_law_atom, g__law_atom := PySem.W.mg_of X G a_law_atom, f_law_question := f_law_question, d_law_question := _, F_law_question := F_law_question, b_law_question := b_law_question, g__law_question := PySem.W.mg_of X G a_law_question, f_law_asked := f_law_asked, d_law_asked := _, F_law_asked := F_law_asked, b_law_asked := b_law_asked, g__law_asked := PySem.W.mg_of X G a_law_asked, f_law_atoms := f_law_atoms, d_law_atoms := _, F_law_atoms := F_law_atoms, b_law_atoms := b_law_atoms, g__law_atoms := PySem.W.mg_of X G a_law_atoms, f_law_once := f_law_once, d_law_once := _, F_law_once := F_law_once, b_law_once := b_law_once, g__law_once := PySem.W.mg_of X G a_law_once, f_law_look := f_law_look, d_law_look := _, F_law_look := F_law_look, b_law_look := b_law_look, g__law_look := PySem.W.mg_of X G a_law_look, f_law_is_true_of := f_law_is_true_of, d_law_is_true_of := _, F_law_is_true_of := F_law_is_true_of, b_law_is_true_of := b_law_is_true_of, g__law_is_true_of := PySem.W.mg_of X G a_law_is_true_of, f_law_looks := f_law_looks, d_law_looks := _, F_law_looks := F_law_looks, b_law_looks := b_law_looks, g__law_looks := PySem.W.mg_of X G a_law_looks, f_law_ago := f_law_ago, d_law_ago := _, F_law_ago := F_law_ago, b_law_ago := b_law_ago, g__law_ago := PySem.W.mg_of X G a_law_ago, f_law_state_of := f_law_state_of, d_law_state_of := _, F_law_state_of := F_law_state_of, b_law_state_of := b_law_state_of, g__law_state_of := PySem.W.mg_of X G a_law_state_of, f_law_states_of := f_law_states_of, d_law_states_of := _, F_law_states_of := F_law_states_of, b_law_states_of := b_law_states_of, g__law_states_of := PySem.W.mg_of X G a_law_states_of, f_law_long := f_law_long, d_law_long := _, F_law_long := F_law_long, b_law_long := b_law_long, g__law_long := PySem.W.mg_of X G a_law_long, f_law_right := f_law_right, d_law_right := _, F_law_right := F_law_right, b_law_right := b_law_right, g__law_right := PySem.W.mg_of X G a_law_right, f_law := f_law, d_law := _, F_law := F_law, b_law := b_law, g_law := PySem.W.mg_of X G a_law, t_SMALL_LETTERS := _, g_SMALL_LETTERS := PySem.W.mg_of X G n_SMALL_LETTERS, t_FIGURES := _, g_FIGURES := PySem.W.mg_of X G n_FIGURES, t_LEAST_CODE := _, g_LEAST_CODE := PySem.W.mg_of X G n_LEAST_CODE, t_MOST_CODE := _, g_MOST_CODE := PySem.W.mg_of X G n_MOST_CODE, t_BARRED_CODE := _, g_BARRED_CODE := PySem.W.mg_of X G n_BARRED_CODE, t_MOST_IN_TERM := _, g_MOST_IN_TERM := PySem.W.mg_of X G n_MOST_IN_TERM, t_MOST_IN_NAME := _, g_MOST_IN_NAME := PySem.W.mg_of X G n_MOST_IN_NAME, t_MOST_IN_BEGIN := _, g_MOST_IN_BEGIN := PySem.W.mg_of X G n_MOST_IN_BEGIN, t_MOST_IN_ROW := _, g_MOST_IN_ROW := PySem.W.mg_of X G n_MOST_IN_ROW, a_FIELDS := _, g_FIELDS := PySem.W.mg_of X G n_FIELDS, q_FIELDS := fun H => .inr ⟨_, _, _, lt_FIELDS, rfl, rfl, by show 3 ≤ sizeLine; decide, (.cons ⟨_, rfl⟩ (.cons ⟨_, rfl⟩ (.cons ⟨_, rfl⟩ .nil)))⟩, t_MOST_TERMS := _, g_MOST_TERMS := PySem.W.mg_of X G n_MOST_TERMS, t_MOST_NEAR := _, g_MOST_NEAR := PySem.W.mg_of X G n_MOST_NEAR, t_MOST_INSIDE := _, g_MOST_INSIDE := PySem.W.mg_of X G n_MOST_INSIDE, t_MOST_NODES := _, g_MOST_NODES := PySem.W.mg_of X G n_MOST_NODES, t_MOST_LEVELS := _, g_MOST_LEVELS := PySem.W.mg_of X G n_MOST_LEVELS, t_MOST_ATOMS := _, g_MOST_ATOMS := PySem.W.mg_of X G n_MOST_ATOMS, a_NEAR_SO := _, g_NEAR_SO := PySem.W.mg_of X G n_NEAR_SO, q_NEAR_SO := fun H => .inr ⟨_, _, _, lt_NEAR_SO, rfl, rfl, by show 2 ≤ sizeLine; decide, (.cons ⟨_, rfl⟩ (.cons ⟨_, rfl⟩ .nil))⟩, z_abs := PySem.W.mg_none_of X G z_abs, z_all := PySem.W.mg_none_of X G z_all, z_any := PySem.W.mg_none_of X G z_any, z_bool := PySem.W.mg_none_of X G z_bool, z_divmod := PySem.W.mg_none_of X G z_divmod, z_int := PySem.W.mg_none_of X G z_int, z_isinstance := PySem.W.mg_none_of X G z_isinstance, z_len := PySem.W.mg_none_of X G z_len, z_max := PySem.W.mg_none_of X G z_max, z_min := PySem.W.mg_none_of X G z_min, z_ord := PySem.W.mg_none_of X G z_ord, z_range := PySem.W.mg_none_of X G z_range, z_repr := PySem.W.mg_none_of X G z_repr, z_str := PySem.W.mg_none_of X G z_str, z_sum := PySem.W.mg_none_of X G z_sum, z_tuple := PySem.W.mg_none_of X G z_tuple, z_zip := PySem.W.mg_none_of X G z_zip }, rfl⟩
theorem walk {q : Program} {loose : List Str} {XP : (Str → Option Value) → Heap → Prop} {YP : World → Heap → Prop} {d : DefRec} {K : Params → PySem.W.Frag} (hdn : d.name = "law") (hdf : d.params.defaults = [])
    (hY : ∀ (w : World) (h : Heap), YP w h → (K w.params).In h)
    (F : ∀ (w : World) (mg : Str → Option Value) (h : Heap), (K w.params).In h → h.Ns mainGlobals mg → ∃ T : Txt PySem.Challenge.pw_plainscan_k26_whole_looks_and_states_of (K w.params) mg, True) :
    PySem.W.WalkO q loose XP YP PySem.Challenge.rw_plainscan_k26_whole_looks_and_states_of.row.toRowW d [] (fun f vs => PySem.call f vs) :=
  Pu.walk_ofP (n := 63) (k := 14) (x := "script") (CX := fun _ => CX0) (sp := fun w => Pu.spLaw (K w.params)) rfl (by decide) hdf ⟨rfl, by decide, by decide⟩ hY (fun w mg fa h KX G hfa => by
    obtain ⟨T, _⟩ := F w mg h KX G
    have e : fa = T.f_law := by
      have z := T.g_law
      rw [hdn] at hfa
      rw [hfa] at z
      cases z
      rfl
    subst e
    refine ⟨T.d_law, fun s v => ?_, fun base _ _ => Pu.law_ok (ok_law T) hF⟩
    have z := T.F_law.ex
    obtain ⟨_, _, _, _, _, _, _, _, _, e, _⟩ := z
    rw [e]
    exact .of_eq rfl) (fun _ _ a ns hl sc => ⟨a, ns, rfl, sc, hl, fun _ => rfl⟩) fun _ _ _ _ _ z => z

end K26
open PySem PySem.W PyProof.Rows in
set_option maxRecDepth 100000 in
set_option maxHeartbeats 0 in
theorem PySem.Challenge.cw_plainscan_k26_whole_looks_and_states_of_holds : PySem.Challenge.rw_plainscan_k26_whole_looks_and_states_of.Holds := by
  w_on; o_law; k_head; (case hw => w_witness2)
  k_fill
  refine K26.walk rfl rfl (fun w h Y => PySem.W.kIn_of Y) ?F
  case F =>
    intro w mg h KX G
    refine' Exists.elim (K26.txt_mk KX G ?a_is_whole ?l_is_whole ?c_is_whole ?k_is_whole ?a_is_number ?l_is_number ?c_is_number ?k_is_number ?a_is_tuple_of ?l_is_tuple_of ?c_is_tuple_of ?k_is_tuple_of ?a_is_sign ?l_is_sign ?c_is_sign ?k_is_sign ?a_is_string ?l_is_string ?c_is_string ?k_is_string ?a_is_made_of ?l_is_made_of ?c_is_made_of ?k_is_made_of ?a_is_named ?l_is_named ?c_is_named ?k_is_named ?a_is_begin ?l_is_begin ?c_is_begin ?k_is_begin ?a_is_spaceless ?l_is_spaceless ?c_is_spaceless ?k_is_spaceless ?a_is_term ?l_is_term ?c_is_term ?k_is_term ?a_is_rowed ?l_is_rowed ?c_is_rowed ?k_is_rowed ?a_check_row ?l_check_row ?c_check_row ?k_check_row ?a_are_terms ?l_are_terms ?c_are_terms ?k_are_terms ?a_is_atom ?l_is_atom ?c_is_atom ?k_is_atom ?a_inside_of ?l_inside_of ?c_inside_of ?k_inside_of ?a_counted ?l_counted ?c_counted ?k_counted ?a_is_question_by ?l_is_question_by ?c_is_question_by ?k_is_question_by ?a_all_atoms ?l_all_atoms ?c_all_atoms ?k_all_atoms ?a_unlike ?l_unlike ?c_unlike ?k_unlike ?a_looks_by ?l_looks_by ?c_looks_by ?k_looks_by ?a_first_states ?l_first_states ?c_first_states ?k_first_states ?a_row_step ?l_row_step ?c_row_step ?k_row_step ?a_ago ?l_ago ?c_ago ?k_ago ?a_near_step ?l_near_step ?c_near_step ?k_near_step ?a_look_step ?l_look_step ?c_look_step ?k_look_step ?a_step_on ?l_step_on ?c_step_on ?k_step_on ?a_state_behind ?l_state_behind ?c_state_behind ?k_state_behind ?a_check_question ?l_check_question ?c_check_question ?k_check_question ?a_check_two ?l_check_two ?c_check_two ?k_check_two ?a_looks_of ?l_looks_of ?c_looks_of ?k_looks_of ?a_state_of ?l_state_of ?c_state_of ?k_state_of ?a_law_jar ?l_law_jar ?c_law_jar ?k_law_jar ?a_law_deal ?l_law_deal ?c_law_deal ?k_law_deal ?a_law_any ?l_law_any ?c_law_any ?k_law_any ?a_law_word ?l_law_word ?c_law_word ?k_law_word ?a_law_pool ?l_law_pool ?c_law_pool ?k_law_pool ?a_law_strange ?l_law_strange ?c_law_strange ?k_law_strange ?a_law_row ?l_law_row ?c_law_row ?k_law_row ?a_law_atom ?l_law_atom ?c_law_atom ?k_law_atom ?a_law_question ?l_law_question ?c_law_question ?k_law_question ?a_law_asked ?l_law_asked ?c_law_asked ?k_law_asked ?a_law_atoms ?l_law_atoms ?c_law_atoms ?k_law_atoms ?a_law_once ?l_law_once ?c_law_once ?k_law_once ?a_law_look ?l_law_look ?c_law_look ?k_law_look ?a_law_is_true_of ?l_law_is_true_of ?c_law_is_true_of ?k_law_is_true_of ?a_law_looks ?l_law_looks ?c_law_looks ?k_law_looks ?a_law_ago ?l_law_ago ?c_law_ago ?k_law_ago ?a_law_state_of ?l_law_state_of ?c_law_state_of ?k_law_state_of ?a_law_states_of ?l_law_states_of ?c_law_states_of ?k_law_states_of ?a_law_long ?l_law_long ?c_law_long ?k_law_long ?a_law_right ?l_law_right ?c_law_right ?k_law_right ?a_law ?l_law ?c_law ?k_law ?n_SMALL_LETTERS ?n_FIGURES ?n_LEAST_CODE ?n_MOST_CODE ?n_BARRED_CODE ?n_MOST_IN_TERM ?n_MOST_IN_NAME ?n_MOST_IN_BEGIN ?n_MOST_IN_ROW ?n_FIELDS ?lt_FIELDS ?n_MOST_TERMS ?n_MOST_NEAR ?n_MOST_INSIDE ?n_MOST_NODES ?n_MOST_LEVELS ?n_MOST_ATOMS ?n_NEAR_SO ?lt_NEAR_SO ?z_abs ?z_all ?z_any ?z_bool ?z_divmod ?z_int ?z_isinstance ?z_len ?z_max ?z_min ?z_ord ?z_range ?z_repr ?z_str ?z_sum ?z_tuple ?z_zip) (fun T _ => ⟨T, trivial⟩)
    (case a_is_whole => k_is)
    (case l_is_whole => k_is)
    (case c_is_whole => k_is)
    (case k_is_whole => k_is)
    (case a_is_number => k_is)
    (case l_is_number => k_is)
    (case c_is_number => k_is)
    (case k_is_number => k_is)
    (case a_is_tuple_of => k_is)
    (case l_is_tuple_of => k_is)
    (case c_is_tuple_of => k_is)
    (case k_is_tuple_of => k_is)
    (case a_is_sign => k_is)
    (case l_is_sign => k_is)
    (case c_is_sign => k_is)
    (case k_is_sign => k_is)
    (case a_is_string => k_is)
    (case l_is_string => k_is)
    (case c_is_string => k_is)
    (case k_is_string => k_is)
    (case a_is_made_of => k_is)
    (case l_is_made_of => k_is)
    (case c_is_made_of => k_is)
    (case k_is_made_of => k_is)
    (case a_is_named => k_is)
    (case l_is_named => k_is)
    (case c_is_named => k_is)
    (case k_is_named => k_is)
    (case a_is_begin => k_is)
    (case l_is_begin => k_is)
    (case c_is_begin => k_is)
    (case k_is_begin => k_is)
    (case a_is_spaceless => k_is)
    (case l_is_spaceless => k_is)
    (case c_is_spaceless => k_is)
    (case k_is_spaceless => k_is)
    (case a_is_term => k_is)
    (case l_is_term => k_is)
    (case c_is_term => k_is)
    (case k_is_term => k_is)
    (case a_is_rowed => k_is)
    (case l_is_rowed => k_is)
    (case c_is_rowed => k_is)
    (case k_is_rowed => k_is)
    (case a_check_row => k_is)
    (case l_check_row => k_is)
    (case c_check_row => k_is)
    (case k_check_row => k_is)
    (case a_are_terms => k_is)
    (case l_are_terms => k_is)
    (case c_are_terms => k_is)
    (case k_are_terms => k_is)
    (case a_is_atom => k_is)
    (case l_is_atom => k_is)
    (case c_is_atom => k_is)
    (case k_is_atom => k_is)
    (case a_inside_of => k_is)
    (case l_inside_of => k_is)
    (case c_inside_of => k_is)
    (case k_inside_of => k_is)
    (case a_counted => k_is)
    (case l_counted => k_is)
    (case c_counted => k_is)
    (case k_counted => k_is)
    (case a_is_question_by => k_is)
    (case l_is_question_by => k_is)
    (case c_is_question_by => k_is)
    (case k_is_question_by => k_is)
    (case a_all_atoms => k_is)
    (case l_all_atoms => k_is)
    (case c_all_atoms => k_is)
    (case k_all_atoms => k_is)
    (case a_unlike => k_is)
    (case l_unlike => k_is)
    (case c_unlike => k_is)
    (case k_unlike => k_is)
    (case a_looks_by => k_is)
    (case l_looks_by => k_is)
    (case c_looks_by => k_is)
    (case k_looks_by => k_is)
    (case a_first_states => k_is)
    (case l_first_states => k_is)
    (case c_first_states => k_is)
    (case k_first_states => k_is)
    (case a_row_step => k_is)
    (case l_row_step => k_is)
    (case c_row_step => k_is)
    (case k_row_step => k_is)
    (case a_ago => k_is)
    (case l_ago => k_is)
    (case c_ago => k_is)
    (case k_ago => k_is)
    (case a_near_step => k_is)
    (case l_near_step => k_is)
    (case c_near_step => k_is)
    (case k_near_step => k_is)
    (case a_look_step => k_is)
    (case l_look_step => k_is)
    (case c_look_step => k_is)
    (case k_look_step => k_is)
    (case a_step_on => k_is)
    (case l_step_on => k_is)
    (case c_step_on => k_is)
    (case k_step_on => k_is)
    (case a_state_behind => k_is)
    (case l_state_behind => k_is)
    (case c_state_behind => k_is)
    (case k_state_behind => k_is)
    (case a_check_question => k_is)
    (case l_check_question => k_is)
    (case c_check_question => k_is)
    (case k_check_question => k_is)
    (case a_check_two => k_is)
    (case l_check_two => k_is)
    (case c_check_two => k_is)
    (case k_check_two => k_is)
    (case a_looks_of => k_is)
    (case l_looks_of => k_is)
    (case c_looks_of => k_is)
    (case k_looks_of => k_is)
    (case a_state_of => k_is)
    (case l_state_of => k_is)
    (case c_state_of => k_is)
    (case k_state_of => k_is)
    (case a_law_jar => k_is)
    (case l_law_jar => k_is)
    (case c_law_jar => k_is)
    (case k_law_jar => k_is)
    (case a_law_deal => k_is)
    (case l_law_deal => k_is)
    (case c_law_deal => k_is)
    (case k_law_deal => k_is)
    (case a_law_any => k_is)
    (case l_law_any => k_is)
    (case c_law_any => k_is)
    (case k_law_any => k_is)
    (case a_law_word => k_is)
    (case l_law_word => k_is)
    (case c_law_word => k_is)
    (case k_law_word => k_is)
    (case a_law_pool => k_is)
    (case l_law_pool => k_is)
    (case c_law_pool => k_is)
    (case k_law_pool => k_is)
    (case a_law_strange => k_is)
    (case l_law_strange => k_is)
    (case c_law_strange => k_is)
    (case k_law_strange => k_is)
    (case a_law_row => k_is)
    (case l_law_row => k_is)
    (case c_law_row => k_is)
    (case k_law_row => k_is)
    (case a_law_atom => k_is)
    (case l_law_atom => k_is)
    (case c_law_atom => k_is)
    (case k_law_atom => k_is)
    (case a_law_question => k_is)
    (case l_law_question => k_is)
    (case c_law_question => k_is)
    (case k_law_question => k_is)
    (case a_law_asked => k_is)
    (case l_law_asked => k_is)
    (case c_law_asked => k_is)
    (case k_law_asked => k_is)
    (case a_law_atoms => k_is)
    (case l_law_atoms => k_is)
    (case c_law_atoms => k_is)
    (case k_law_atoms => k_is)
    (case a_law_once => k_is)
    (case l_law_once => k_is)
    (case c_law_once => k_is)
    (case k_law_once => k_is)
    (case a_law_look => k_is)
    (case l_law_look => k_is)
    (case c_law_look => k_is)
    (case k_law_look => k_is)
    (case a_law_is_true_of => k_is)
    (case l_law_is_true_of => k_is)
    (case c_law_is_true_of => k_is)
    (case k_law_is_true_of => k_is)
    (case a_law_looks => k_is)
    (case l_law_looks => k_is)
    (case c_law_looks => k_is)
    (case k_law_looks => k_is)
    (case a_law_ago => k_is)
    (case l_law_ago => k_is)
    (case c_law_ago => k_is)
    (case k_law_ago => k_is)
    (case a_law_state_of => k_is)
    (case l_law_state_of => k_is)
    (case c_law_state_of => k_is)
    (case k_law_state_of => k_is)
    (case a_law_states_of => k_is)
    (case l_law_states_of => k_is)
    (case c_law_states_of => k_is)
    (case k_law_states_of => k_is)
    (case a_law_long => k_is)
    (case l_law_long => k_is)
    (case c_law_long => k_is)
    (case k_law_long => k_is)
    (case a_law_right => k_is)
    (case l_law_right => k_is)
    (case c_law_right => k_is)
    (case k_law_right => k_is)
    (case a_law => k_is)
    (case l_law => k_is)
    (case c_law => k_is)
    (case k_law => k_is)
    (case n_SMALL_LETTERS => k_is)
    (case n_FIGURES => k_is)
    (case n_LEAST_CODE => k_is)
    (case n_MOST_CODE => k_is)
    (case n_BARRED_CODE => k_is)
    (case n_MOST_IN_TERM => k_is)
    (case n_MOST_IN_NAME => k_is)
    (case n_MOST_IN_BEGIN => k_is)
    (case n_MOST_IN_ROW => k_is)
    (case n_FIELDS => k_is)
    (case lt_FIELDS => k_is)
    (case n_MOST_TERMS => k_is)
    (case n_MOST_NEAR => k_is)
    (case n_MOST_INSIDE => k_is)
    (case n_MOST_NODES => k_is)
    (case n_MOST_LEVELS => k_is)
    (case n_MOST_ATOMS => k_is)
    (case n_NEAR_SO => k_is)
    (case lt_NEAR_SO => k_is)
    (case z_abs => k_is)
    (case z_all => k_is)
    (case z_any => k_is)
    (case z_bool => k_is)
    (case z_divmod => k_is)
    (case z_int => k_is)
    (case z_isinstance => k_is)
    (case z_len => k_is)
    (case z_max => k_is)
    (case z_min => k_is)
    (case z_ord => k_is)
    (case z_range => k_is)
    (case z_repr => k_is)
    (case z_str => k_is)
    (case z_sum => k_is)
    (case z_tuple => k_is)
    (case z_zip => k_is)
