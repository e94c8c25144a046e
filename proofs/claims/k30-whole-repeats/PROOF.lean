import PyProof.Rows.All
import Wide.All
import OpenK.AllK
import Wide.FinOn
import KE.KStateDown
import Lean
import HandS.Head0
import HandS.Head1
import HandS.Head2
import HandS.HeadEnd
import HandS.Base
import HandS.Call
import HandS.Ends
import PyProof.Rows.FStr
import HandS.HeadHook4
import KE.KExcIs
import HandS.TryMany
import HandS.CallLocal
import KE.KSuper
import KE.KExcSuper
import KE.KExcInit
import HandS.Exc
import HandS.ExcOwn
import HandS.ExcField
import HandS.ExcIs
import HandS.ForMost
import HandS.ForExc
import HandS.Defaults
import HandS.HeadHook1
import HandS.HeadHook2
import HandS.HeadHook3
import PySem.Challenge.RW_redolots_k30_whole_repeats
import HandS.IsInst
import HandS.Iter
import KE.GoesMore
import PyProof.EnumMake
import PyProof.EnumFor
import PyProof.StrBlock2
import HandS.Strs
import HandS.SortInts
import HandS.StrMore
import HandS.Conv
import HandS.Style
import HandS.TupAny
import HandS.SortRule
import HandS.Deep
import HandS.SetFor
import HandS.More
import HandS.Walk
import HandS.Evl
/-! ## RdErr1 -/
set_option Elab.async false
set_option linter.all false
set_option maxRecDepth 100000
set_option maxHeartbeats 4000000
/-! # The program's errors: what their __init__ leaves. -/
namespace PySem
namespace RdX
open PySem.W PySem.Calls PyProof.Rows PySem.HandSPX PySem.Builtin
def iA (nm : Str) (p1 p2 : Pos) : Arguments := { posonlyargs := [], args := [{ arg := "self", annotation := none, pos := p1 }, { arg := nm, annotation := none, pos := p2 }], vararg := none, kwonlyargs := [], kw_defaults := [], kwarg := none, defaults := [] }
def iB (nm : Str) (J : List Expr) (jp q1 q2 q3 q4 q5 r1 r2 r3 r4 : Pos) : List Stmt :=
  [.Expr (.Call (.Attribute (.Call (.Name "super" q1) [] [] q2) "__init__" q3) [.JoinedStr J jp] [] q4) q5, .Assign [.Attribute (.Name "self" r1) nm r2] (.Name nm r3) r4]
def iS (nm : Str) : Scope := { kind := .function, names := [(PySem.Str.ofString "self", .local), (nm, .local), (PySem.Str.ofString "__class__", .free), (PySem.Str.ofString "super", .globalImplicit)], isGenerator := false, isCoroutine := false, more := [] }
/-- a short text comes out of the text's expression, if the name nm holds a small number -/
def JOk (nm : Str) (J : List Expr) : Prop := ∀ (prog : Program) (w : World) (A : Around) (E : Value → Shared → Prop) (s : Shared) (env : Env) (L : Addr) (m : Str → Option Value) (i : Int) (t : Tok) (Q : Value → Shared → Prop),
  env.scope.kind = .function → env.kindOf nm = some .local → env.locals = L → s.heap.Ns L m → m nm = some (.int i t) → -1 ≤ i → i < 64 → (∀ u tk tk', Q (.str u tk) { s with toks := tk' }) → ∀ jp, wpAny (model prog w) A (eval (.JoinedStr J jp) env) Q E s
/-- how the call super().__init__(..) runs, at these places of the text -/
def McOk (J : List Expr) (jp q1 q2 q3 q4 : Pos) : Prop := ∀ env, ∃ pl, eval (.Call (.Attribute (.Call (.Name "super" q1) [] [] q2) "__init__" q3) [.JoinedStr J jp] [] q4) env = (do
      let ov ← attributeBase (.Call (.Name "super" q1) [] [] q2) "__init__" env (eval (.Call (.Name "super" q1) [] [] q2) env)
      standAt q3.atName
      let (f, first) ← holding [ov] (getMethod ov "__init__" pl)
      callWith q4 f first (backTo q4 (starEach [.JoinedStr J jp] env)) [])
structure ErrTxt (P : Program) (K : Frag) (mg : Str → Option Value) (x nm : Str) (J : List Expr) (C fI : Addr) : Prop where
  nmOk : nm = "at" ∨ nm = "block"
  jOk : JOk nm J
  gC : mg x = some (.ref C)
  gS : mg "super" = none
  cls : ∃ nm q N bs bm sn sub ab col dd k0 k1 k2 k3 k5, K.lookup C = some (excClassObj nm q C N bs bm true sn sub ab col dd k0 k1 k2 k3 k5 "ValueError.__new__") ∧ refsVE bm = true ∧ alongIn K "__init__" bm = some (some (.builtin "ValueError.__init__"))
  tp : nsIn K cStatics "thirdparty.any" = some none
  sa : findIn K (.ref C) "__setattr__" = some (some (.builtin "object.__setattr__"))
  ga : findIn K (.ref C) "__getattribute__" = some (some (.builtin "BaseException.__getattribute__"))
  gg : findIn K (.ref C) "__getattr__" = some none
  noN : findIn K (.ref C) nm = some none
  iC : findIn K (.ref C) "__init__" = some (some (.ref fI))
  tC : typeIn K (.ref fI) = some (.type "function")
  kC : keepIn K (.ref C) = true
  exC : subIn K (.ref C) (.type "BaseException") = some true
  veC : subIn K (.ref C) (.type "ValueError") = some true
  tyC : typeIn K (.ref C) = some (.type "type")
  hdC : hasDictIn K C = true
  top : (P.main.scope.names.lookup ("super" : Str)).isSome = false
  fn : ∃ (oc ccl cl : Value) (od cdd cld : Option Addr) (doc pm ct : Value) (an : Option Addr) (cda cc : Addr) (vs : Array Value) (file : Str) (tf : Tok) (osl ccs csl : Array (Option Value)) (qual : Str) (p1 p2 jp q1 q2 q3 q4 q5 r1 r2 r3 r4 : Pos),
    K.lookup fI = some ⟨oc, od, .func (ksFn "__init__" qual (iA nm p1 p2) (iB nm J jp q1 q2 q3 q4 q5 r1 r2 r3 r4) (iS nm) .none .none doc pm an (.ref cda) ct cc), osl⟩ ∧ codeIn K (.ref cda) qual = true ∧
    K.lookup cda = some ⟨ccl, cdd, .fields vs, ccs⟩ ∧ vs[2]? = some (.str file tf) ∧ ((P.main.file : Str) == file) = true ∧ K.lookup cc = some ⟨cl, cld, .cell (some (.ref C)), csl⟩ ∧ McOk J jp q1 q2 q3 q4
/-- what __init__ leaves of a fresh exception at x -/
structure InitEnd (h h' : Heap) (x C dx : Addr) (nm : Str) (v : Value) : Prop where
  keep : ∀ b o, b ≠ x → h.get? b = some o → h'.get? b = some o
  obj : ∃ t1 : Addr, h'.get? x = some { cls := .ref C, dict := some dx, data := .fields #[.ref t1, .none, .none, .none, .bool false, .none] }
  dbig : h.objs.size ≤ dx
  dne : dx ≠ x
  ns : h'.Ns1 dx (fun y => if y = nm then some v else none)
section
variable {prog : Program} {w : World} {A : Around} {E : Value → Shared → Prop} {R : Result → Shared → Prop} {s : Shared} {K : Frag} {mg : Str → Option Value} {C fI : Addr} {xn nm : Str} {J : List Expr}
theorem lk_super (h : nm = "at" ∨ nm = "block") : (iS nm).names.lookup ("super" : Str) = some .globalImplicit := by rcases h with e | e <;> (rw [e]; rfl)
theorem lk_class (h : nm = "at" ∨ nm = "block") : (iS nm).names.lookup ("__class__" : Str) = some .free := by rcases h with e | e <;> (rw [e]; rfl)
theorem lk_self (h : nm = "at" ∨ nm = "block") : (iS nm).names.lookup ("self" : Str) = some .local := by rcases h with e | e <;> (rw [e]; rfl)
theorem lk_nm (h : nm = "at" ∨ nm = "block") : (iS nm).names.lookup nm = some .local := by rcases h with e | e <;> (rw [e]; rfl)
theorem ne_dbg (h : nm = "at" ∨ nm = "block") : (nm == ("__debug__" : Str)) = false := by rcases h with e | e <;> (rw [e]; decide)
theorem bv_self (h : nm = "at" ∨ nm = "block") (a b : Value) : ([(("self" : Str), a), (nm, b)].reverse).lookup ("self" : Str) = some a := by rcases h with e | e <;> (rw [e]; rfl)
theorem bv_nm (h : nm = "at" ∨ nm = "block") (a b : Value) : ([(("self" : Str), a), (nm, b)].reverse).lookup nm = some b := by rcases h with e | e <;> (rw [e]; rfl)
theorem call_mw {u e t0 : Addr} {rest : List Value} {Q : Value → Shared → Prop} {cn q : Str} {N : Addr} {bs bm : List Value} {hdct : Bool} {sn : List Str} {sub : List Value} {ab : Bool} {col : Option Bool} {dd : Option Addr} {k0 k1 k2 k3 k5 : Option Value}
    (hC : s.heap.get? C = some (excClassObj cn q C N bs bm hdct sn sub ab col dd k0 k1 k2 k3 k5 "ValueError.__new__")) (he : s.heap.get? e = some (excO C t0)) (hu : s.heap.get? u = some (kxs_mw "ValueError.__init__" e)) (hrest : rest.length ≤ sizeLine)
    (hq : ∀ h' t1, (∀ b o, b ≠ e → s.heap.get? b = some o → h'.get? b = some o) → h'.get? e = some (excO C t1) → Q .none { s with heap := h' }) :
    wpAny (model prog w) A (call (.ref u) rest) Q E s := by
  obtain ⟨hh, g, d, tk, os⟩ := s
  have FB := F.excBase_ValueError
  refine wpAny_call (codeAny_of_tree ?_)
  show wpAny _ A.in1 (callAny (.ref u) ⟨rest, []⟩) _ _ _
  simp only [callAny]
  refine wpAny_bind (wpAny_load hu ?_)
  simp only [kxs_mw, show (Value.type "method-wrapper" == Value.type "method" || Value.type "method-wrapper" == Value.type "builtin_function_or_method" || Value.type "method-wrapper" == Value.type "method-wrapper") = true by decide, if_true]
  refine KFB.if_so (by decide) ?_
  refine wpAny_bind (check_bound_init FB.toExcCallFacts hC he rfl ?_)
  refine wpAny_bind (wpAny_pure (wpAny_pure ?_))
  refine ⟨plainId_quiet FB.init.plain _, codeAny_builtin FB.initEntry ?_⟩
  exact exc_init_tree (cls := .ref C) (t0 := t0) (dv := none) (c2 := .none) (c3 := .none) (b4 := .bool false) he hrest (fun h' k e' _ => hq h' _ k e')
theorem one_size (v : Value) : [v].length ≤ sizeLine := by
  rw [sizeLine_eq]
  exact (by decide : 1 ≤ 16777216)
theorem err_init (T : ErrTxt prog K mg xn nm J C fI) {x t0 : Addr} {i : Int} {ti : Tok} (h1 : -1 ≤ i) (h2 : i < 64) (X : K.In s.heap) (hlim : s.heap.NoLimit) (hg : s.heap.Ns mainGlobals mg) (hb : ∃ mb, s.heap.Ns builtinsNs mb ∧ mb "super" = some (.type "super"))
    (hx : s.heap.get? x = some (excO C t0)) (hnx : K.lookup x = none) (hroom : A.depth < recursionLimit)
    (hq : ∀ h' tk dx, InitEnd s.heap h' x C dx nm (.int i ti) → R (.ok (.ret .none)) { s with heap := h', toks := tk }) :
    codeAny (model prog w) A (.call (.ref fI) ⟨[.ref x, .int i ti], []⟩) R s := by
  obtain ⟨oc, ccl, cl, od, cdd, cld, doc, pm, ct, an, cda, cc, vs, file, tf, osl, ccs, csl, qual, p1, p2, jp, q1, q2, q3, q4, q5, r1, r2, r3, r4, hf, hcd, hcode, hvs, hfile, hcell, hmc⟩ := T.fn
  obtain ⟨cn, q, N, bs, bm, sn, sub, ab, col, dd, k0, k1, k2, k3, k5, hC, hbm, hal⟩ := T.cls
  have hcl : clsIn K C = some { name := cn, bases := bs, mro := .ref C :: bm, ns := N, qualname := q, hasDict := true, slotNames := sn, subclasses := sub, abstract := ab, collection := col, hasDel := false } := by unfold clsIn; rw [hC] <;> rfl
  have hxC : x ≠ C := fun z => by rw [z, hC] at hnx; cases hnx
  refine ks_codeAny_call_defAt (fd := ksFn "__init__" qual (iA nm p1 p2) (iB nm J jp q1 q2 q3 q4 q5 r1 r2 r3 r4) (iS nm) .none .none doc pm an (.ref cda) ct cc) (body := iB nm J jp q1 q2 q3 q4 q5 r1 r2 r3 r4) (binds := [("self", .ref x), (nm, .int i ti)])
    hroom (X _ _ hf) rfl hlim (codeRec_of X hcd) rfl (BindsTo.of_eq (by rcases T.nmOk with e | e <;> (rw [e]; rfl))) (by rcases T.nmOk with e | e <;> (rw [e]; show ∀ x ∈ (iS _).names, x.2 ≠ .cell; decide)) (by rcases T.nmOk with e | e <;> (rw [e]; exact locs rfl)) (fun h₀ hns hk₀ => ?_) rfl rfl rfl
  have hks := lk_super T.nmOk
  have hkc := lk_class T.nmOk
  have hself := lk_self T.nmOk
  have hnm := lk_nm T.nmOk
  have X₀ : K.In h₀ := X.keeps hk₀
  obtain ⟨mb, hb1, hb2⟩ := hb
  obtain ⟨pl, hmc⟩ := hmc (callEnv (ksFn "__init__" qual (iA nm p1 p2) (iB nm J jp q1 q2 q3 q4 q5 r1 r2 r3 r4) (iS nm) .none .none doc pm an (.ref cda) ct cc) s.heap.objs.size fI)
  refine ks_wpAt_execs_cons (ks_wpAt_Expr_any (ks_wpAt_MethodCall (pl := pl) ?_ hmc) rfl rfl)
  refine ks_wpAt_super_base (env := callEnv (ksFn "__init__" qual (iA nm p1 p2) (iB nm J jp q1 q2 q3 q4 q5 r1 r2 r3 r4) (iS nm) .none .none doc pm an (.ref cda) ct cc) s.heap.objs.size fI) hks hkc rfl rfl (X₀ _ _ hf) rfl rfl rfl (X₀ _ _ hcode) rfl hvs hfile T.top ?_
  refine ks_loadName_global rfl hks (loadGlobal_builtin (hg.keeps hk₀) T.gS (hb1.keeps hk₀) hb2 ⟨rfl, ?_⟩)
  refine wpAny_loadName_free rfl hkc rfl ⟨_, X₀ _ _ hcell, rfl⟩ ?_
  refine wpAny_loadName_local rfl hself hns (bv_self T.nmOk _ _) ?_
  refine ks_wpAny_isType_cls (X₀ _ _ hC) rfl ⟨rfl, ?_⟩
  have hx₀ := hk₀ _ _ hx
  have hCC : Looks (model prog w) h₀ (isSubtype (.ref C) (.ref C)) true := looks_mroIn X₀ (by unfold mroIn; rw [hcl, Option.bind_some]; simp)
  refine ks_wpAny_call_super (X₀ _ _ hC) rfl hx₀ rfl (fun c e => by cases e) hCC (fun h₂ e₂ k₂ => ?_)
  have X₂ : K.In h₂ := X₀.keeps k₂
  have hx₂ := k₂ _ _ hx₀
  have I₂ : InstAt h₂ x (excO C t0) C none := ⟨hx₂, rfl, rfl, trivial⟩
  refine kxs_getMethod kxs_ValueError e₂ (looks_opaque X₂ T.tp) (l₀ := .ref C :: bm) (fun A Q E s k q => wpAny_bind ((looks_clsIn X₂ hcl) A _ E s k (wpAny_pure q))) rfl X₂ (by
    have z : ((Value.ref C :: bm).dropWhile (· != .ref C)).drop 1 = bm := by simp [List.dropWhile_cons]
    rw [z]
    exact hal) (I₂.type.andThen (looks_subIn X₂ T.veC)) hxC rfl ?_
  have k₃ : ∀ b o, h₂.get? b = some o → (h₂.push (kxs_mw "ValueError.__init__" x)).get? b = some o := fun b o e => Heap.get?_push_of_some _ e
  have hu₃ : (h₂.push (kxs_mw "ValueError.__init__" x)).get? h₂.objs.size = some (kxs_mw "ValueError.__init__" x) := Heap.get?_push_at rfl rfl
  have hns₃ := (hns.keeps k₂).keeps k₃
  refine kxs_callWith (i := "ValueError.__init__") (x := x) rfl ?_
  refine evalArgs_plain (Calls.spliced_cons (T.jOk prog w _ _ _ (callEnv (ksFn "__init__" qual (iA nm p1 p2) (iB nm J jp q1 q2 q3 q4 q5 r1 r2 r3 r4) (iS nm) .none .none doc pm an (.ref cda) ct cc) s.heap.objs.size fI) s.heap.objs.size _ i ti _ rfl hnm rfl hns₃ (bv_nm T.nmOk _ _) h1 h2 (fun u tk tk' => ?_) jp))
  refine Calls.spliced_nil ⟨hu₃, ?_⟩
  refine call_mw (k₃ _ _ (X₂ _ _ hC)) (k₃ _ _ hx₂) hu₃ (one_size _) (fun h₄ t1 k₄ hx₄ => ?_)
  have kk : ∀ b o, b ≠ x → s.heap.get? b = some o → h₄.get? b = some o := fun b o hb e => k₄ b o hb (k₃ _ _ (k₂ _ _ (hk₀ _ _ e)))
  have X₄ : K.In h₄ := fun b o e => kk b o (fun z => by rw [z, hnx] at e; cases e) (X b o e)
  have hxL : s.heap.objs.size ≠ x := Nat.ne_of_gt (Heap.lt_size hx)
  have hns₄ := hns₃.at (h' := h₄) (fun o e => k₄ _ o hxL e)
  refine wpAt_of_wpAny ?_
  show wpAny _ _ (execs _ _) _ _ _
  refine wpAny_execs_cons (plainObj_wpAny_Assign_Attribute ?_)
  refine wpAny_Name (wpAny_loadName_local rfl hnm hns₄ (bv_nm T.nmOk _ _) ?_) (ne_dbg T.nmOk)
  refine wpAny_Name (wpAny_loadName_local rfl hself hns₄ (bv_self T.nmOk _ _) ?_) (by decide)
  refine set_plain X₄ (ox := excO C t1) (od := none) ⟨hx₄, rfl, rfl, trivial⟩ T.sa ?_
  refine exc_osa X₄ hx₄ hcl (show refsVE (.ref C :: bm) = true from hbm) rfl T.noN (fun h₅ tk₅ dx k₅ dn dne hx₅ hn₅ => ?_)
  show wpAny _ _ (execs _ _) _ _ _
  have z : s.heap.objs.size < h₄.objs.size := hns₄.lt
  exact wpAny_execs_nil (hq h₅ tk₅ dx ⟨fun b o hb e => k₅ b o hb (kk b o hb e), ⟨t1, hx₅⟩, Nat.le_of_lt (Nat.lt_of_lt_of_le z dn), dne, hn₅⟩)
/-- a made error -/
structure OwnMade (h h' : Heap) (e C d : Addr) (nm : Str) (v : Value) : Prop where
  keep : ∀ b o, h.get? b = some o → h'.get? b = some o
  new : h.objs.size ≤ e
  obj : ∃ oe vs, h'.get? e = some oe ∧ oe.cls = .ref C ∧ oe.dict = some d ∧ oe.data = .fields vs ∧ vs[1]? = some .none
  dbig : h.objs.size ≤ d
  dne : d ≠ e
  ns : h'.Ns1 d (fun y => if y = nm then some v else none)
theorem err_made (T : ErrTxt prog K mg xn nm J C fI) {i : Int} {ti : Tok} (h1 : -1 ≤ i) (h2 : i < 64) (X : K.In s.heap) (hlim : s.heap.NoLimit) (hg : s.heap.Ns mainGlobals mg) (hb : ∃ mb, s.heap.Ns builtinsNs mb ∧ mb "super" = some (.type "super"))
    (hroom : A.depth + 1 < recursionLimit) (hq : ∀ h' tk e d, OwnMade s.heap h' e C d nm (.int i ti) → R (.ok (.ret (.ref e))) { s with heap := h', toks := tk }) :
    codeAny (model prog w) A (.call (.ref C) ⟨[.int i ti], []⟩) R s := by
  obtain ⟨nm', q, N, bs, bm, sn, sub, ab, col, dd, k0, k1, k2, k3, k5, hC, hbm, _⟩ := T.cls
  obtain ⟨mb, hb1, hb2⟩ := hb
  obtain ⟨hp, g, dr, tk, os⟩ := s
  have k : ∀ b o, hp.get? b = some o → ((hp.push (kdv_tup [.int i ti])).push (excO C hp.objs.size)).get? b = some o := fun b o e => Heap.get?_push_of_some _ (Heap.get?_push_of_some _ e)
  have hget : ((hp.push (kdv_tup [.int i ti])).push (excO C hp.objs.size)).get? (hp.objs.size + 1) = some (excO C hp.objs.size) := by heap_get
  have hnx : K.lookup (hp.objs.size + 1) = none := by
    cases e : K.lookup (hp.objs.size + 1) with
    | none => rfl
    | some o =>
      have z : hp.get? (hp.objs.size + 1) = some o := X _ _ e
      exact absurd (Nat.lt_of_succ_lt (Heap.lt_size z)) (Nat.lt_irrefl _)
  refine call_own F.excBase_ValueError (fun X => refsVE_contains X bm hbm) (X _ _ hC) (looks_findIn X T.iC) (fun self => bind_fn X self T.tC) (one_size (.int i ti)) ?_
  refine err_init (s := ⟨(hp.push (kdv_tup [.int i ti])).push (excO C hp.objs.size), g, dr, tk, os⟩) T h1 h2 (X.keeps k) (hlim.keeps k) (hg.keeps k) ⟨mb, hb1.keeps k, hb2⟩ hget hnx ?_ fun h' tk' dx ⟨k', ⟨t1, hx⟩, dn, dne, hns⟩ => ?_
  · show A.depth + 1 < recursionLimit
    exact hroom
  · have old : ∀ b o, hp.get? b = some o → h'.get? b = some o := fun b o e => k' b o (Nat.ne_of_lt (Nat.lt_succ_of_lt (Heap.lt_size e))) (k b o e)
    have z : hp.objs.size + 1 + 1 ≤ dx := by
      first
        | (simpa only [Heap.size_push] using dn)
        | exact dn
        | (have q := dn; rw [Heap.size_push, Heap.size_push] at q; exact q)
    exact ⟨rfl, hq h' tk' (hp.objs.size + 1) dx ⟨old, Nat.le_succ _, ⟨_, _, hx, rfl, rfl, rfl, rfl⟩, Nat.le_trans (Nat.le_trans (Nat.le_succ _) (Nat.le_succ _)) z, dne, hns⟩⟩
end
end RdX
end PySem
namespace Rw
open PySem PySem.Spec PyProof.Rows L2
theorem relO_fld {nm : Str} {v : V} {v' : Value} (r : RelV v v') (f : Str) : RelO (List.lookup f [(nm, v)]) (if f = nm then some v' else none) := by
  by_cases hw : f = nm
  · subst hw
    rw [if_pos rfl]
    have q : List.lookup f [(f, v)] = some v := by simp [List.lookup]
    rw [q]
    exact r
  · rw [if_neg hw]
    have qw : (f == nm) = false := by simpa using hw
    have q2 : List.lookup f [(nm, v)] = none := by simp [List.lookup, qw]
    rw [q2]
    trivial
section
variable {X : Cx} {C fI : Addr} {x nm : Str} {J : List Expr}
/-- x(e), x an error of the program -/
def tMkE (C : Addr) (nm : Str) (ta : TA) : L2.St → Hp → XK → Prop := fun σ H Q => ta σ H fun vs H1 => ∃ i : Int, vs = [.int i] ∧ -1 ≤ i ∧ i < 64 ∧ ∀ d, H1 d = none → Q (.ref C) (some d) (upd H1 d (.xd [(nm, .int i)]))
theorem pmk_err {a : Expr} {ta : TA} {p pos : Pos} {k : Nat} (T : PySem.RdX.ErrTxt X.prog X.K X.mg x nm J C fI) (hr : Room k X.A) (ha : PA X [a] ta) (hg : Gl X x)
    (hd : (x == ("__debug__" : Str)) = false := by decide) (he : starEach (a :: []) X.env = (false, eval a X.env) :: starEach [] X.env := by rfl) (hpl : (backTo pos (starEach [] X.env)).any (·.1) = false := by rfl) :
    PMk X (.Call (.Name x p) [a] [] pos) (tMkE C nm ta) := by
  intro pins s σ H Q I h
  refine wpAny_Call_Name_kw (ld_glob I hg T.gC ?_ hd)
  refine PySem.W.callWith_K (h₀ := X.base) I.ok.mod.kin T.kC (thn (ha.run pos pins s σ H _ I h) fun us s1 hh => ?_) he hpl
  obtain ⟨vs, H1, I1, r1, i, ev, h1, h2, q1⟩ := hh
  subst ev
  refine ⟨I1.kIn, ?_⟩
  cases r1 with
  | cons rv rn =>
    rename_i v' us'
    cases rn
    obtain ⟨ti, rfl⟩ := rv
    show wpAny _ _ (call (.ref C) [.int i ti]) _ _ _
    have hlim := I1.nolimit
    obtain ⟨mb, hb1, hb2⟩ := I1.mod.blt
    have hgl : s1.heap.Ns mainGlobals X.mg := I1.mod.glob.keeps I1.bk
    have hbl : s1.heap.Ns builtinsNs mb := hb1.keeps I1.bk
    have rv : RelV (.int i) (.int i ti) := ⟨ti, rfl⟩
    obtain ⟨hp, g, dr, tk, os⟩ := s1
    refine wpAny_call (PySem.RdX.err_made T h1 h2 I1.kIn hlim hgl ⟨mb, hbl, hb2 _ (by decide)⟩ (by have := hr.dp; omega) fun h' tk' e d M => ?_)
    show MkP X pins σ Q (.ref e) ⟨h', g, dr, tk', os⟩
    obtain ⟨oe, fv, hoe, hc, hd, hdat, h1⟩ := M.obj
    have hns := M.ns
    obtain ⟨G', g1, g2⟩ := restrict h' fun b => decide (b ≠ e)
    have gk : ∀ b, b ≠ e → G'.get? b = h'.get? b := fun b hb => g1 b (decide_eq_true hb)
    have ge : G'.get? e = none := g2 e (by simp)
    have old : ∀ b o, hp.get? b = some o → G'.get? b = some o := fun b o q => (gk b (Nat.ne_of_lt (Nat.lt_of_lt_of_le (Heap.lt_size q) M.new))).trans (M.keep b o q)
    have ob : ObjOk X.prog X.w (upd H1 d (.xd [(nm, .int i)])) G' d (.xd [(nm, .int i)]) :=
      ⟨_, hns.at (fun o q => (gk d M.dne).trans q), fun f => relO_fld rv f⟩
    have J : Inv X pins σ (upd H1 d (.xd [(nm, .int i)])) ⟨G', g, dr, tk', os⟩ := I1.laid (t' := tk') old M.dbig ob
    refine ⟨e, oe, fv, ⟨G', g, dr, tk', os⟩, _, .ref C, some d, rfl, J, fun b o q => ?_, ge, hoe, ⟨hc, hd⟩, hdat, h1, ?_, rfl, I1.bare, raises_own T.exC T.tyC, q1 d (I1.hok.fresh M.dbig)⟩
    · by_cases hb : b = e
      · have q' : G'.get? b = some o := q
        rw [hb, ge] at q'; cases q'
      · exact (gk b hb).symm.trans q
    · rw [upd_ne (Ne.symm M.dne)]
      exact I1.hok.fresh M.new
/-- raise x(e) -/
def tRaiseE (C : Addr) (nm : Str) (W : WX) (ta : TA) : TS := fun _ σ H => tMkE C nm ta σ H fun cls d H' => W cls d σ H'
theorem ps_raiseE {a : Expr} {ta : TA} {W : WX} {p pos pos2 : Pos} {k : Nat} (hc : X.calm = true) (T : PySem.RdX.ErrTxt X.prog X.K X.mg x nm J C fI) (hr : Room k X.A) (tk : Takes X W) (ha : PA X [a] ta) (hg : Gl X x)
    (hd : (x == ("__debug__" : Str)) = false := by decide) (he : starEach (a :: []) X.env = (false, eval a X.env) :: starEach [] X.env := by rfl) (hpl : (backTo pos (starEach [] X.env)).any (·.1) = false := by rfl) :
    PS X (.Raise (some (.Call (.Name x p) [a] [] pos)) none pos2) (tRaiseE C nm W ta) := ps_raise hc tk (pmk_err T hr ha hg hd he hpl)
/-- e.nm, e the error that the suite holds (at a; its class cls, its dict d) -/
def tFldE (C : Addr) (nm : Str) (a : Addr) (cls : Value) (d : Option Addr) (te : TE) : TE := fun σ H Q => te σ H fun y H1 => y = .ref a ∧ cls = .ref C ∧ ∃ (dd : Addr) (v : V), d = some dd ∧ H1 dd = some (.xd [(nm, v)]) ∧ Q v H1
theorem pe_fldE {a : Addr} {oe : Obj} {cls : Value} {d : Option Addr} {pn : List (Addr × Obj)} {e : Expr} {te : TE} {pos : Pos} (T : PySem.RdX.ErrTxt X.prog X.K X.mg x nm J C fI) (hz : Zc cls d oe) (hf : ∃ vs, oe.data = .fields vs) (he : PE (X.suite a ((a, oe) :: pn)) e te)
    (hb : attributeBase e nm X.env (eval e X.env) = eval e X.env := by rfl) :
    PE (X.suite a ((a, oe) :: pn)) (.Attribute e nm pos) (tFldE C nm a cls d te) := by
  refine ⟨fun pins s σ H Q I h => ?_⟩
  refine attr_of hb (thn (he.run pins s σ H _ I h) fun u s1 hh => ?_)
  obtain ⟨y, H1, I1, rx, ex, ec, dd, v, ed, ea, q⟩ := hh
  subst ex
  obtain rfl : u = Value.ref a := rx
  subst ec
  subst ed
  obtain ⟨ha, _⟩ := I1.pin (a, oe) (List.mem_append_left _ List.mem_cons_self)
  obtain ⟨vs, hd⟩ := hf
  have hx : ObjOk X.prog X.w H1 s1.heap dd (.xd [(nm, v)]) := I1.hok dd _ ea
  obtain ⟨mA, hns, hr⟩ := hx
  obtain ⟨od, ho, hl⟩ := lookIn_ns hns
  have l : List.lookup nm [(nm, v)] = some v := by simp [List.lookup]
  obtain ⟨u, hu, ru⟩ := RelO.some_of (v := v) (o := mA nm) (by rw [← l]; exact hr nm)
  have J : PySem.W.InstAt s1.heap a oe C (some od) := ⟨ha, hz.1, by unfold PySem.W.notCls; rw [hd] <;> rfl, by rw [hz.2]; exact ho⟩
  exact HandSPX.exc_get I1.kIn J T.ga T.gg T.exC (PySem.W.findObj_own T.hdC T.noN rfl (by rw [hl, hu])) (handed_of ru) ⟨v, H1, I1.tok _, ru, q⟩
end
end Rw
/-! ## RdErr2 -/
/-! # Clauses with a name, isinstance of a caught error, calls that may raise. -/
namespace Rw
open PySem PySem.Spec PyProof.Rows L2
/-- isinstance(e, c), e the error that the suite holds (its class cls, its dict d) -/
def rIsX (K : PySem.W.Frag) (a : Addr) (cls : Value) (d : Option Addr) : List V → Hp → VK → Prop := fun xs H Q => ∃ (D : Addr) (c : V) (cv : Value) (b : Bool) (dd : Addr) (fs : List (Str × V)), xs = [.ref a, c] ∧ ExcC K D ∧ cls = .ref D ∧ d = some dd ∧ H dd = some (.xd fs) ∧
  (∀ u, RelV c u → u = cv) ∧ PySem.W.kitOne K (.ref D) cv = some b ∧ Q (.bl b) H
theorem call_isX {X : Cx} {a : Addr} {cls : Value} {d : Option Addr} {oe : Obj} {pn : List (Addr × Obj)} (hz : Zc cls d oe) (hf : ∃ vs, oe.data = .fields vs) : CallR (X.suite a ((a, oe) :: pn)) (.builtin "isinstance") (rIsX X.K a cls d) := by
  intro pins s σ H xs us Q I r h
  obtain ⟨D, c, cv, b, dd, fs, rfl, C, ec, ed, hdd, hcv, e, q⟩ := h
  subst ec ed
  match us, r with
  | [_, _], .cons rx (.cons rt .nil) =>
    cases rx
    rw [hcv _ rt]
    obtain ⟨there, _⟩ := I.pin (a, oe) (List.mem_append_left _ List.mem_cons_self)
    obtain ⟨vs, hv⟩ := hf
    have hx : ObjOk X.prog X.w H s.heap dd (.xd fs) := I.hok dd _ hdd
    obtain ⟨mA, hns, _⟩ := hx
    obtain ⟨od, ho, _⟩ := lookIn_ns hns
    have inst : PySem.W.InstAt s.heap a oe D (some od) := ⟨there, hz.1, by unfold PySem.W.notCls; rw [hv] <;> rfl, by rw [hz.2]; exact ho⟩
    have hcl : (PySem.W.clsIn X.K D).isSome = true := by
      obtain ⟨cd, hc, _⟩ := PySem.W.any_some C.hd
      rw [hc]
      rfl
    exact PySem.W.kia_one (PySem.W.kitx_exc hcl C.hg C.hk C.hs C.ha C.hn C.ht C.hm) I.kIn inst e (fun z => nomatch z) fun tk => ⟨.bl b, H, I.kept (t' := tk) fun _ _ z => z, rfl, q⟩
/-! ### several clauses, each with the same name -/
abbrev Clause := Value × (Addr → Value → Option Addr → TS)
/-- the ends of a suite: the name's slot is emptied -/
def endsAs (i : Nat) (D : Ends) : Ends := { nx := fun σ H => D.nx (σ.set i none) H, rt := D.rt, bk := fun σ H => D.bk (σ.set i none) H, ct := fun σ H => D.ct (σ.set i none) H }
def wAsM (K : PySem.W.Frag) (i : Nat) (Wout : WX) (D : Ends) : List Clause → WX
  | [] => Wout
  | q :: r => fun cls d σ H => ∃ b, PySem.W.exmOne K cls q.1 = some b ∧ (b = true → ∀ a, H a = none → q.2 a cls d (endsAs i D) (σ.set i (some (.ref a))) H) ∧ (b = false → wAsM K i Wout D r cls d σ H)
inductive ClsOk (X : Cx) (n : Str) : List ExceptHandler → List Clause → Prop
  | nil : ClsOk X n [] []
  | cons {x : Str} {c : Value} {ts : Addr → Value → Option Addr → TS} {b0 : Stmt} {suite : List Stmt} {np pos : Pos} {hds : List ExceptHandler} {l : List Clause} : Names X x c →
      (∀ (a : Addr) (oe : Obj) (cls : Value) (d : Option Addr) (pn : List (Addr × Obj)), Zc cls d oe → (∃ vs, oe.data = .fields vs) → PSs (X.suite a ((a, oe) :: pn)) (b0 :: suite) (ts a cls d)) → ClsOk X n hds l →
      ClsOk X n (.ExceptHandler (some (.Name x np)) (some n) (b0 :: suite) pos :: hds) ((c, ts) :: l)
section
variable {X : Cx} {i : Nat} {n : Str} {body : List Stmt} {h0 : ExceptHandler} {hds : List ExceptHandler} {l : List Clause} {pos : Pos} {tb : WX → TS} {Wout : WX}
theorem ps_try_asM (hs : X.stack = X.env :: X.outer) (hf : X.env.frame = some X.env.locals) (hN : X.N.Nodup) (hi : X.N[i]? = some n) (hln : X.env.kindOf n = some .local) (tk : Takes X Wout)
    (hb : ∀ (W : WX) (pn : List (Addr × Obj)) (xe : Value → Shared → Prop), Takes (X.tr pn xe) W → PassesOwn (model X.prog X.w) X.A X.env xe → PSs (X.tr pn xe) body (tb W))
    (hh : ClsOk X n (h0 :: hds) l) : PS X (.Try body (h0 :: hds) [] [] pos) (fun D σ H => tb (wAsM X.K i Wout D l) D σ H) := by
  refine ⟨fun pins s σ H D I h => ?_⟩
  have ok := I.ok
  have hloc : Loc X.env.scope n := .inl hln
  have hfr : X.A.frames = some (X.env :: X.outer) := by rw [ok.frames, hs]
  -- what the clauses do with an exception of the body
  have after : ∀ u s', XE (X.tr (X.pn ++ pins) (fun e s₁ => wpAny (model X.prog X.w) X.A (noteFrame e X.env) (fun _ s₂ => wpAny (model X.prog X.w) X.A (setFlight e none) (fun _ s₃ =>
      wpAny (model X.prog X.w) X.A (handleBy e X.env (h0 :: hds)) (SP X pins D) X.xe s₃) X.xe s₂) X.xe s₁)) (wAsM X.K i Wout D l) u s' →
      wpAny (model X.prog X.w) X.A (noteFrame u X.env) (fun _ s₂ => wpAny (model X.prog X.w) X.A (setFlight u none) (fun _ s₃ => wpAny (model X.prog X.w) X.A (handleBy u X.env (h0 :: hds)) (SP X pins D) X.xe s₃) X.xe s₂) X.xe s' := by
    rintro u s' ⟨a, B, sI, pins', σ', H', cls, d, rfl, J', nb, up, sky, na, os, ag, w⟩
    have J : Inv X pins σ' H' sI := J'.ofTry ok
    have sky' : Sky B (X.env :: X.outer) a (Zc cls d) X.env.locals s'.heap := by rw [← hs]; exact sky
    refine Sky.land Zc.steady hfr hf sky' fun h3 fl3 up3 => ?_
    have J3 : Inv X pins σ' H' { s' with heap := h3 } := J.landed nb fl3.1 (up.trans up3) os ag
    obtain ⟨oe3, vs3, he3, hz3, hd3⟩ := fl3.there
    have noFrame : a ∉ frs (X.env :: X.outer) := fun hm => by
      obtain ⟨_, o', e', hnf⟩ := fl3.2.2.1.mem hm
      rw [he3] at e'
      cases e'
      exact hnf _ hd3
    have nL : a ≠ X.env.locals := fun z => noFrame (List.mem_filterMap.mpr ⟨X.env, List.mem_cons_self, by rw [hf, z]⟩)
    have nF : a ∉ X.fs := fun hm => by
      obtain ⟨e, he, q⟩ := List.mem_filterMap.mp hm
      exact noFrame (List.mem_filterMap.mpr ⟨e, List.mem_cons_of_mem _ he, q⟩)
    have S3 := J3.suite he3 hd3 na nL nF
    -- clause by clause
    have each : ∀ {hs' : List ExceptHandler} {l' : List Clause}, ClsOk X n hs' l' → wAsM X.K i Wout D l' cls d σ' H' → wpAny (model X.prog X.w) X.A (handleBy (.ref a) X.env hs') (SP X pins D) X.xe { s' with heap := h3 } := by
      intro hs' l' hk
      induction hk with
      | nil =>
        intro w
        refine wpAny_handleBy_nil ?_
        obtain ⟨_, _, _, oe, vs, T, _, _, he, _, hd, h1, _⟩ := id fl3
        have on : wpAny (model X.prog X.w) X.A (setFlight (.ref a) X.env.frame) (fun _ s4 => wpAny (model X.prog X.w) X.A (throw (.ref a) : Sem Flow) (SP X pins D) X.xe s4) X.xe { s' with heap := h3 } := by
          rw [hf]
          exact HandSPX.setFlight_upZ fl3 fun h4 hh4 up4 => wpAny_throw (tk _ _ ⟨a, B, sI, pins, σ', H', cls, d, rfl, J, nb, (up.trans up3).trans up4, .inr (.inr (by rw [hs]; exact hh4)), na, os, ag, w⟩)
        unfold PySem.passOn
        refine wpAny_bind (wpAny_field he hd h1 ?_)
        rw [if_neg (show ¬ ((Value.ref T == Value.none) = true) from by simp)]
        first
          | exact wpAny_bind (wpAny_pure (wpAny_bind on))
          | exact wpAny_bind on
      | @cons x c ts b0 suite np p hds2 l2 hc hsu _ ih =>
        rintro ⟨b, hb1, hyes, hno⟩
        refine wpAny_handleBy_cons (codeAny_handlers_test ?_) (by intro q; cases q)
        have LT : PySem.W.Looks (model X.prog X.w) h3 (typeOf (.ref a)) cls := fun A Q E s k q => wpAny_typeOf_ref (k _ _ he3) (by rw [hz3.1]; exact q)
        have LM := PySem.W.exm_one (M := model X.prog X.w) J3.kIn LT hb1
        have named : ∀ {Q : Value → Shared → Prop} {E : Value → Shared → Prop}, Q c { s' with heap := h3 } → wpAny (model X.prog X.w) (X.A.mark (some (.ref a))) (eval (.Name x np) X.env) Q E { s' with heap := h3 } := fun {Q E} q => by
          obtain ⟨hg, hdbg, hm | ⟨hm, hv, hnn⟩⟩ := hc
          · exact ld_glob (X := X.suite a ((a, oe3) :: (X.pn ++ pins))) S3 hg hm q hdbg
          · exact ld_blt (X := X.suite a ((a, oe3) :: (X.pn ++ pins))) S3 hg hm hv q hnn hdbg
        refine named (LM.here ?_)
        cases b with
        | false =>
          show wpAny _ X.A (handleBy (.ref a) X.env hds2) _ _ _
          exact ih (hno rfl)
        | true =>
          refine codeAny_handlers_suite_as ?_
          refine HandSPX.lands_againZ fl3 fun h4 fl4 up4 => ?_
          have J4 : Inv X pins σ' H' { s' with heap := h4 } := J.landed nb fl4.1 ((up.trans up3).trans up4) os ag
          obtain ⟨oe4, vs4, he4, hz4, hd4⟩ := fl4.there
          have S4 := J4.suite he4 hd4 na nL nF
          refine store_ok (X := X.suite a ((a, oe4) :: (X.pn ++ pins))) (v := .ref a) S4 hN hi hloc rfl (fun s5 S5 => ?_) (.inr hln)
          refine wpAny_mono ((hsu a oe4 cls d (X.pn ++ pins) hz4 ⟨_, hd4⟩).run [] s5 _ H' _ S5 (hyes rfl a na)) (fun f s6 hsp => ?_) (fun _ _ z => False.elim z)
          have gone : ∀ {σ6 : L2.St} {H6 : Hp} {Q : Shared → Prop}, Inv (X.suite a ((a, oe4) :: (X.pn ++ pins))) [] σ6 H6 s6 → (∀ s7, Inv X pins (σ6.set i none) H6 s7 → Q s7) →
              wpAny (model X.prog X.w) X.A (do bindName X.env n .none; unbindBehindTheSuite X.env n p) (fun _ s7 => Q s7) X.xe s6 := fun {σ6 H6 Q} S6 hq => gone_ok (S6.unsuite ok) hN hi hln hq
          cases f with
          | next => obtain ⟨σ6, H6, S6, q6⟩ := hsp; exact gone S6 fun s7 J7 => ⟨_, _, J7, q6⟩
          | brk => obtain ⟨σ6, H6, S6, q6⟩ := hsp; exact gone S6 fun s7 J7 => ⟨_, _, J7, q6⟩
          | cont => obtain ⟨σ6, H6, S6, q6⟩ := hsp; exact gone S6 fun s7 J7 => ⟨_, _, J7, q6⟩
          | ret u => obtain ⟨v6, σ6, H6, S6, r6, q6⟩ := hsp; exact gone S6 fun s7 J7 => ⟨_, _, _, J7, r6, q6⟩
    exact each hh w
  refine wpAny_Try_except (wpAny_mono ((hb _ (X.pn ++ pins) _ (fun u s' xx => after u s' xx) PassesOwn.looking).run [] s σ H D (I.toTry _) h) (fun f s1 hsp => ?_) (fun e s1 he => he))
  cases f with
  | next => obtain ⟨σ', H', J', q⟩ := hsp; exact wpAny_execs_nil ⟨σ', H', J'.ofTry ok, q⟩
  | brk => obtain ⟨σ', H', J', q⟩ := hsp; exact ⟨σ', H', J'.ofTry ok, q⟩
  | cont => obtain ⟨σ', H', J', q⟩ := hsp; exact ⟨σ', H', J'.ofTry ok, q⟩
  | ret u => obtain ⟨v, σ', H', J', r, q⟩ := hsp; exact ⟨v, σ', H', J'.ofTry ok, r, q⟩
end
end Rw
/-! ## RdText -/
/-! # The text by places, the facts of the top. -/
namespace Rw
open PySem PySem.Spec PyProof.Rows L2
def topS (i : Nat) : Stmt := PySem.Challenge.pw_redolots_k30_whole_repeats.main.body.getD i (.Pass ⟨0, 0, 0, 0⟩)
abbrev s_check_image : Stmt := topS 11
abbrev s_home : Stmt := topS 12
abbrev s_has_guard_signs : Stmt := topS 16
abbrev s_is_index : Stmt := topS 17
abbrev s_is_guard : Stmt := topS 18
abbrev s_check_line : Stmt := topS 19
abbrev s_check_script : Stmt := topS 20
abbrev s_pairs : Stmt := topS 22
abbrev s_check_log : Stmt := topS 23
abbrev s_last_writes : Stmt := topS 24
abbrev s_way_table : Stmt := topS 26
abbrev s_reach_of : Stmt := topS 27
abbrev s_mutual_sets : Stmt := topS 28
abbrev s_within_reach : Stmt := topS 29
abbrev s_knots : Stmt := topS 30
abbrev s_grown : Stmt := topS 32
abbrev s_late_lots : Stmt := topS 33
abbrev s_sources_first : Stmt := topS 34
abbrev s_common : Stmt := topS 35
abbrev s_settled_from : Stmt := topS 36
abbrev s_settled : Stmt := topS 37
abbrev s_repeats : Stmt := topS 38
abbrev s_law_purse : Stmt := topS 40
abbrev s_law_take : Stmt := topS 41
abbrev s_law_turned : Stmt := topS 42
abbrev s_law_line : Stmt := topS 43
abbrev s_law_trees : Stmt := topS 44
abbrev s_law_extra : Stmt := topS 45
abbrev s_law_grown : Stmt := topS 46
abbrev s_law_links : Stmt := topS 47
abbrev s_law_same : Stmt := topS 48
abbrev s_law_guard : Stmt := topS 49
abbrev s_law_not_plain : Stmt := topS 50
abbrev s_law_no_line : Stmt := topS 51
abbrev s_law_odd : Stmt := topS 52
abbrev s_law_refusal : Stmt := topS 53
abbrev s_law_reach : Stmt := topS 54
abbrev s_law_strong : Stmt := topS 55
abbrev s_law_closed : Stmt := topS 56
abbrev s_law_late : Stmt := topS 57
abbrev s_law_after : Stmt := topS 58
abbrev s_law_spread : Stmt := topS 59
abbrev s_law_ends : Stmt := topS 60
abbrev s_law_single : Stmt := topS 61
abbrev s_law_settled : Stmt := topS 62
abbrev s_law_all_single : Stmt := topS 63
abbrev s_law_fewest : Stmt := topS 64
abbrev s_law_repeated : Stmt := topS 65
abbrev s_law_longer : Stmt := topS 66
abbrev s_law_holds : Stmt := topS 67
abbrev s_law : Stmt := topS 68
def d_check_image : He.DefD := ⟨("check_image", none), "check_image", "check_image", defArgs s_check_image, defBody s_check_image, defScope s_check_image, [], []⟩
def d_home : He.DefD := ⟨("home", none), "home", "home", defArgs s_home, defBody s_home, defScope s_home, [], []⟩
def d_has_guard_signs : He.DefD := ⟨("has_guard_signs", none), "has_guard_signs", "has_guard_signs", defArgs s_has_guard_signs, defBody s_has_guard_signs, defScope s_has_guard_signs, [], []⟩
def d_is_index : He.DefD := ⟨("is_index", none), "is_index", "is_index", defArgs s_is_index, defBody s_is_index, defScope s_is_index, [], []⟩
def d_is_guard : He.DefD := ⟨("is_guard", none), "is_guard", "is_guard", defArgs s_is_guard, defBody s_is_guard, defScope s_is_guard, [], []⟩
def d_check_line : He.DefD := ⟨("check_line", none), "check_line", "check_line", defArgs s_check_line, defBody s_check_line, defScope s_check_line, [], []⟩
def d_check_script : He.DefD := ⟨("check_script", none), "check_script", "check_script", defArgs s_check_script, defBody s_check_script, defScope s_check_script, [], []⟩
def d_pairs : He.DefD := ⟨("pairs", none), "pairs", "pairs", defArgs s_pairs, defBody s_pairs, defScope s_pairs, [], []⟩
def d_check_log : He.DefD := ⟨("check_log", none), "check_log", "check_log", defArgs s_check_log, defBody s_check_log, defScope s_check_log, [], []⟩
def d_last_writes : He.DefD := ⟨("last_writes", none), "last_writes", "last_writes", defArgs s_last_writes, defBody s_last_writes, defScope s_last_writes, [], []⟩
def d_way_table : He.DefD := ⟨("_way_table", none), "_way_table", "_way_table", defArgs s_way_table, defBody s_way_table, defScope s_way_table, [], []⟩
def d_reach_of : He.DefD := ⟨("_reach_of", none), "_reach_of", "_reach_of", defArgs s_reach_of, defBody s_reach_of, defScope s_reach_of, [], []⟩
def d_mutual_sets : He.DefD := ⟨("_mutual_sets", none), "_mutual_sets", "_mutual_sets", defArgs s_mutual_sets, defBody s_mutual_sets, defScope s_mutual_sets, [], []⟩
def d_within_reach : He.DefD := ⟨("within_reach", none), "within_reach", "within_reach", defArgs s_within_reach, defBody s_within_reach, defScope s_within_reach, [], []⟩
def d_knots : He.DefD := ⟨("knots", none), "knots", "knots", defArgs s_knots, defBody s_knots, defScope s_knots, [], []⟩
def d_grown : He.DefD := ⟨("_grown", none), "_grown", "_grown", defArgs s_grown, defBody s_grown, defScope s_grown, [], []⟩
def d_late_lots : He.DefD := ⟨("late_lots", none), "late_lots", "late_lots", defArgs s_late_lots, defBody s_late_lots, defScope s_late_lots, [], []⟩
def d_sources_first : He.DefD := ⟨("_sources_first", none), "_sources_first", "_sources_first", defArgs s_sources_first, defBody s_sources_first, defScope s_sources_first, [], []⟩
def d_common : He.DefD := ⟨("_common", none), "_common", "_common", defArgs s_common, defBody s_common, defScope s_common, [], []⟩
def d_settled_from : He.DefD := ⟨("_settled_from", none), "_settled_from", "_settled_from", defArgs s_settled_from, defBody s_settled_from, defScope s_settled_from, [], []⟩
def d_settled : He.DefD := ⟨("settled", none), "settled", "settled", defArgs s_settled, defBody s_settled, defScope s_settled, [], []⟩
def d_repeats : He.DefD := ⟨("repeats", none), "repeats", "repeats", defArgs s_repeats, defBody s_repeats, defScope s_repeats, [], []⟩
def d_law_purse : He.DefD := ⟨("_law_purse", none), "_law_purse", "_law_purse", defArgs s_law_purse, defBody s_law_purse, defScope s_law_purse, [], []⟩
def d_law_take : He.DefD := ⟨("_law_take", none), "_law_take", "_law_take", defArgs s_law_take, defBody s_law_take, defScope s_law_take, [], []⟩
def d_law_turned : He.DefD := ⟨("_law_turned", none), "_law_turned", "_law_turned", defArgs s_law_turned, defBody s_law_turned, defScope s_law_turned, [], []⟩
def d_law_line : He.DefD := ⟨("_law_line", none), "_law_line", "_law_line", defArgs s_law_line, defBody s_law_line, defScope s_law_line, [], []⟩
def d_law_trees : He.DefD := ⟨("_law_trees", none), "_law_trees", "_law_trees", defArgs s_law_trees, defBody s_law_trees, defScope s_law_trees, [], []⟩
def d_law_extra : He.DefD := ⟨("_law_extra", none), "_law_extra", "_law_extra", defArgs s_law_extra, defBody s_law_extra, defScope s_law_extra, [], []⟩
def d_law_grown : He.DefD := ⟨("_law_grown", none), "_law_grown", "_law_grown", defArgs s_law_grown, defBody s_law_grown, defScope s_law_grown, [], []⟩
def d_law_links : He.DefD := ⟨("_law_links", none), "_law_links", "_law_links", defArgs s_law_links, defBody s_law_links, defScope s_law_links, [], []⟩
def d_law_same : He.DefD := ⟨("_law_same", none), "_law_same", "_law_same", defArgs s_law_same, defBody s_law_same, defScope s_law_same, [], []⟩
def d_law_guard : He.DefD := ⟨("_law_guard", none), "_law_guard", "_law_guard", defArgs s_law_guard, defBody s_law_guard, defScope s_law_guard, [], []⟩
def d_law_not_plain : He.DefD := ⟨("_law_not_plain", none), "_law_not_plain", "_law_not_plain", defArgs s_law_not_plain, defBody s_law_not_plain, defScope s_law_not_plain, [], []⟩
def d_law_no_line : He.DefD := ⟨("_law_no_line", none), "_law_no_line", "_law_no_line", defArgs s_law_no_line, defBody s_law_no_line, defScope s_law_no_line, [], []⟩
def d_law_odd : He.DefD := ⟨("_law_odd", none), "_law_odd", "_law_odd", defArgs s_law_odd, defBody s_law_odd, defScope s_law_odd, [], []⟩
def d_law_refusal : He.DefD := ⟨("_law_refusal", none), "_law_refusal", "_law_refusal", defArgs s_law_refusal, defBody s_law_refusal, defScope s_law_refusal, [], []⟩
def d_law_reach : He.DefD := ⟨("_law_reach", none), "_law_reach", "_law_reach", defArgs s_law_reach, defBody s_law_reach, defScope s_law_reach, [], []⟩
def d_law_strong : He.DefD := ⟨("_law_strong", none), "_law_strong", "_law_strong", defArgs s_law_strong, defBody s_law_strong, defScope s_law_strong, [], []⟩
def d_law_closed : He.DefD := ⟨("_law_closed", none), "_law_closed", "_law_closed", defArgs s_law_closed, defBody s_law_closed, defScope s_law_closed, [], []⟩
def d_law_late : He.DefD := ⟨("_law_late", none), "_law_late", "_law_late", defArgs s_law_late, defBody s_law_late, defScope s_law_late, [], []⟩
def d_law_after : He.DefD := ⟨("_law_after", none), "_law_after", "_law_after", defArgs s_law_after, defBody s_law_after, defScope s_law_after, [], []⟩
def d_law_spread : He.DefD := ⟨("_law_spread", none), "_law_spread", "_law_spread", defArgs s_law_spread, defBody s_law_spread, defScope s_law_spread, [], []⟩
def d_law_ends : He.DefD := ⟨("_law_ends", none), "_law_ends", "_law_ends", defArgs s_law_ends, defBody s_law_ends, defScope s_law_ends, [], []⟩
def d_law_single : He.DefD := ⟨("_law_single", none), "_law_single", "_law_single", defArgs s_law_single, defBody s_law_single, defScope s_law_single, [], []⟩
def d_law_settled : He.DefD := ⟨("_law_settled", none), "_law_settled", "_law_settled", defArgs s_law_settled, defBody s_law_settled, defScope s_law_settled, [], []⟩
def d_law_all_single : He.DefD := ⟨("_law_all_single", none), "_law_all_single", "_law_all_single", defArgs s_law_all_single, defBody s_law_all_single, defScope s_law_all_single, [], []⟩
def d_law_fewest : He.DefD := ⟨("_law_fewest", none), "_law_fewest", "_law_fewest", defArgs s_law_fewest, defBody s_law_fewest, defScope s_law_fewest, [], []⟩
def d_law_repeated : He.DefD := ⟨("_law_repeated", none), "_law_repeated", "_law_repeated", defArgs s_law_repeated, defBody s_law_repeated, defScope s_law_repeated, [], []⟩
def d_law_longer : He.DefD := ⟨("_law_longer", none), "_law_longer", "_law_longer", defArgs s_law_longer, defBody s_law_longer, defScope s_law_longer, [], []⟩
def d_law_holds : He.DefD := ⟨("_law_holds", none), "_law_holds", "_law_holds", defArgs s_law_holds, defBody s_law_holds, defScope s_law_holds, [], []⟩
def d_law : He.DefD := ⟨("law", none), "law", "law", defArgs s_law, defBody s_law, defScope s_law, [], []⟩
def fn0 : List He.DefD := [d_check_image, d_home, d_has_guard_signs, d_is_index, d_is_guard, d_check_line, d_check_script, d_pairs, d_check_log, d_last_writes, d_way_table, d_reach_of, d_mutual_sets, d_within_reach, d_knots, d_grown, d_late_lots, d_sources_first, d_common, d_settled_from]
def fn1 : List He.DefD := [d_settled, d_repeats, d_law_purse, d_law_take, d_law_turned, d_law_line, d_law_trees, d_law_extra, d_law_grown, d_law_links, d_law_same, d_law_guard, d_law_not_plain, d_law_no_line, d_law_odd, d_law_refusal, d_law_reach, d_law_strong, d_law_closed, d_law_late]
def fn2 : List He.DefD := [d_law_after, d_law_spread, d_law_ends, d_law_single, d_law_settled, d_law_all_single, d_law_fewest, d_law_repeated, d_law_longer, d_law_holds, d_law]
def fn : List He.DefD := fn0 ++ fn1 ++ fn2
def fa0 : List He.Fa := [.free "len", .free "range", .free "tuple", .free "list", .free "sorted", .free "enumerate", .free "isinstance", .free "max", .free "min", .free "repr", .free "int", .free "str", .free "bool", .free "ValueError", .free "super", .int "EMPTY" (-1), .int "FREE" (-2), .int "MOST_BLOCKS" (12), .int "MOST_VALUE" (999), .int "MOST_LINES" (60), .str "GUARD_SIGNS" ".*-0123456789"]
def fag : List He.Fa := fn.map fun d => .glo d.name
def fae : List He.Fa := [.glo "RedoError", .glo "InvalidLine", .glo "NotPlain", .glo "InvalidImage", .glo "Unsettled"]
def fa : List He.Fa := fa0 ++ (fae ++ fag)
/-- what the top has written -/
structure Txt (K : PySem.W.Frag) (mg : Str → Option Value) : Prop where
  b_len : mg "len" = none
  b_range : mg "range" = none
  b_tuple : mg "tuple" = none
  b_list : mg "list" = none
  b_sorted : mg "sorted" = none
  b_enumerate : mg "enumerate" = none
  b_isinstance : mg "isinstance" = none
  b_max : mg "max" = none
  b_min : mg "min" = none
  b_repr : mg "repr" = none
  b_int : mg "int" = none
  b_str : mg "str" = none
  b_bool : mg "bool" = none
  b_ValueError : mg "ValueError" = none
  b_super : mg "super" = none
  c_EMPTY : ∃ t, mg "EMPTY" = some (.int (-1) t)
  c_FREE : ∃ t, mg "FREE" = some (.int (-2) t)
  c_MOST_BLOCKS : ∃ t, mg "MOST_BLOCKS" = some (.int (12) t)
  c_MOST_VALUE : ∃ t, mg "MOST_VALUE" = some (.int (999) t)
  c_MOST_LINES : ∃ t, mg "MOST_LINES" = some (.int (60) t)
  c_GUARD_SIGNS : ∃ t, mg "GUARD_SIGNS" = some (.str ".*-0123456789" t)
  k_RedoError : mg "RedoError" = some (.ref (He.ga K "RedoError"))
  k_InvalidLine : mg "InvalidLine" = some (.ref (He.ga K "InvalidLine"))
  k_NotPlain : mg "NotPlain" = some (.ref (He.ga K "NotPlain"))
  k_InvalidImage : mg "InvalidImage" = some (.ref (He.ga K "InvalidImage"))
  k_Unsettled : mg "Unsettled" = some (.ref (He.ga K "Unsettled"))
  defs : ∀ d ∈ fn, ∃ fd, FunD K d.name d.qual d.params d.body d.scope (d.dvs K) (d.kws K) (He.fAd K d.at_) fd
  globs : ∀ d ∈ fn, mg d.name = some (.ref (He.ga K d.name))
end Rw
/-! ## RdErr3 -/
/-! # What the top tells of the errors' classes: checks, and what they say. -/
namespace Rw
open PySem PySem.Spec PyProof.Rows L2
open PySem.RdX (iA iB iS JOk ErrTxt McOk)
/-! ### the texts of the errors -/
def jIL : List Expr := [.Constant (.str "invalid line or script at index ") 0 ⟨7, 27, 7, 59⟩, .FormattedValue (.Name "at" ⟨7, 60, 7, 62⟩) (-1) none ⟨7, 59, 7, 63⟩]
def jNP : List Expr := [.Constant (.str "not a copy with the empty guard at index ") 0 ⟨12, 27, 12, 68⟩, .FormattedValue (.Name "at" ⟨12, 69, 12, 71⟩) (-1) none ⟨12, 68, 12, 72⟩]
def jUN : List Expr := [.Constant (.str "block ") 0 ⟨22, 27, 22, 33⟩, .FormattedValue (.Name "block" ⟨22, 34, 22, 39⟩) (-1) none ⟨22, 33, 22, 40⟩, .Constant (.str " has no settled number") 0 ⟨22, 40, 22, 62⟩]
def bIL : List Stmt := iB "at" jIL ⟨7, 25, 7, 64⟩ ⟨7, 8, 7, 13⟩ ⟨7, 8, 7, 15⟩ ⟨7, 8, 7, 24⟩ ⟨7, 8, 7, 65⟩ ⟨7, 8, 7, 65⟩ ⟨8, 8, 8, 12⟩ ⟨8, 8, 8, 15⟩ ⟨8, 18, 8, 20⟩ ⟨8, 8, 8, 20⟩
def bNP : List Stmt := iB "at" jNP ⟨12, 25, 12, 73⟩ ⟨12, 8, 12, 13⟩ ⟨12, 8, 12, 15⟩ ⟨12, 8, 12, 24⟩ ⟨12, 8, 12, 74⟩ ⟨12, 8, 12, 74⟩ ⟨13, 8, 13, 12⟩ ⟨13, 8, 13, 15⟩ ⟨13, 18, 13, 20⟩ ⟨13, 8, 13, 20⟩
def bUN : List Stmt := iB "block" jUN ⟨22, 25, 22, 63⟩ ⟨22, 8, 22, 13⟩ ⟨22, 8, 22, 15⟩ ⟨22, 8, 22, 24⟩ ⟨22, 8, 22, 64⟩ ⟨22, 8, 22, 64⟩ ⟨23, 8, 23, 12⟩ ⟨23, 8, 23, 18⟩ ⟨23, 21, 23, 26⟩ ⟨23, 8, 23, 26⟩
theorem mc_IL : McOk jIL ⟨7, 25, 7, 64⟩ ⟨7, 8, 7, 13⟩ ⟨7, 8, 7, 15⟩ ⟨7, 8, 7, 24⟩ ⟨7, 8, 7, 65⟩ := fun env => ⟨_, rfl⟩
theorem mc_NP : McOk jNP ⟨12, 25, 12, 73⟩ ⟨12, 8, 12, 13⟩ ⟨12, 8, 12, 15⟩ ⟨12, 8, 12, 24⟩ ⟨12, 8, 12, 74⟩ := fun env => ⟨_, rfl⟩
theorem mc_UN : McOk jUN ⟨22, 25, 22, 63⟩ ⟨22, 8, 22, 13⟩ ⟨22, 8, 22, 15⟩ ⟨22, 8, 22, 24⟩ ⟨22, 8, 22, 64⟩ := fun env => ⟨_, rfl⟩
theorem short_int {i : Int} (h1 : -1 ≤ i) (h2 : i < 64) : (Str.ofString (toString i)).length ≤ 10 := by
  have key : ∀ n : Fin 65, (Str.ofString (toString (((n : Nat) : Int) - 1))).length ≤ 10 := by decide +kernel
  have q := key ⟨(i + 1).toNat, by omega⟩
  have e : (((i + 1).toNat : Nat) : Int) - 1 = i := by omega
  rw [← e]
  exact q
theorem log_small {i : Int} (h1 : -1 ≤ i) (h2 : i < 64) : i.natAbs.log2 < 1920 := by
  have h : i.natAbs < 2 ^ 7 := by
    have e : (2 : Nat) ^ 7 = 128 := by decide
    omega
  by_cases z : i.natAbs = 0
  · rw [z]
    decide
  · exact Nat.lt_of_lt_of_le ((Nat.log2_lt z).mpr h) (by decide)
theorem len_line {n : Nat} (h : n ≤ 1000) : n ≤ sizeLine := Nat.le_trans h (by rw [sizeLine_eq]; decide)
theorem jok2 {nm : Str} {c : Str} {k : Nat} {p1 p2 p3 : Pos} (hd : (nm == ("__debug__" : Str)) = false) (hc : c.length ≤ 100) : JOk nm [.Constant (.str c) k p1, .FormattedValue (.Name nm p2) (-1) none p3] := by
  intro prog w A E s env L m i t Q hk hl hL hn hv h1 h2 hq jp
  refine JoinedStr_many ?_
  have hs := short_int h1 h2
  refine joinParts_cons (Calls.Constant_str ?_)
  refine ⟨by show (Str.empty ++ c).length ≤ sizeLine; exact len_line (by rw [strLen_append]; show 0 + c.length ≤ 1000; omega), ?_⟩
  refine joinParts_cons (FormattedValue_plain (wpAny_Name (wpAny_loadName_local hk hl (by rw [hL]; exact hn) hv ?_) hd))
  refine formatField_int_small (log_small h1 h2) ?_
  refine ⟨len_line ?_, ?_⟩
  · rw [strLen_append, strLen_append]
    show 0 + c.length + (Str.ofString (toString i)).length ≤ 1000
    omega
  refine joinParts_nil (hq _ _ _) (len_line ?_)
  rw [strLen_append, strLen_append]
  show 0 + c.length + (Str.ofString (toString i)).length ≤ 1000
  omega
theorem jok3 {nm : Str} {c c2 : Str} {k k2 : Nat} {p1 p2 p3 p4 : Pos} (hd : (nm == ("__debug__" : Str)) = false) (hc : c.length ≤ 100) (hc2 : c2.length ≤ 100) : JOk nm [.Constant (.str c) k p1, .FormattedValue (.Name nm p2) (-1) none p3, .Constant (.str c2) k2 p4] := by
  intro prog w A E s env L m i t Q hk hl hL hn hv h1 h2 hq jp
  refine JoinedStr_many ?_
  have hs := short_int h1 h2
  refine joinParts_cons (Calls.Constant_str ?_)
  refine ⟨by show (Str.empty ++ c).length ≤ sizeLine; exact len_line (by rw [strLen_append]; show 0 + c.length ≤ 1000; omega), ?_⟩
  refine joinParts_cons (FormattedValue_plain (wpAny_Name (wpAny_loadName_local hk hl (by rw [hL]; exact hn) hv ?_) hd))
  refine formatField_int_small (log_small h1 h2) ?_
  refine ⟨len_line ?_, ?_⟩
  · rw [strLen_append, strLen_append]
    show 0 + c.length + (Str.ofString (toString i)).length ≤ 1000
    omega
  refine joinParts_cons (Calls.Constant_str ?_)
  refine ⟨len_line ?_, joinParts_nil (hq _ _ _) (len_line ?_)⟩
  · rw [strLen_append, strLen_append, strLen_append]
    show 0 + c.length + (Str.ofString (toString i)).length + c2.length ≤ 1000
    omega
  · rw [strLen_append, strLen_append, strLen_append]
    show 0 + c.length + (Str.ofString (toString i)).length + c2.length ≤ 1000
    omega
theorem jok_IL : JOk "at" jIL := jok2 (by decide) (by decide)
theorem jok_NP : JOk "at" jNP := jok2 (by decide) (by decide)
theorem jok_UN : JOk "block" jUN := jok3 (by decide) (by decide) (by decide)
/-! ### checks -/
def iniAd (K : PySem.W.Frag) (x : Str) : Addr := He.ma K (He.ga K x) "__init__"
abbrev IniW := Option (Str × Str × Arguments × FuncBody × Scope × Addr × Addr)
def iniW (K : PySem.W.Frag) (x : Str) : IniW := match K.lookup (iniAd K x) with
  | some ⟨_, _, .func fd, _⟩ => some (fd.name, fd.qualname, fd.params, fd.body, fd.scope, fd.globals, fd.builtins)
  | _ => none
def inis (K : PySem.W.Frag) : List IniW := [iniW K "InvalidLine", iniW K "NotPlain", iniW K "Unsettled"]
def inisVal : List IniW :=
  [some ("__init__", "InvalidLine.__init__", iA "at" ⟨6, 17, 6, 21⟩ ⟨6, 23, 6, 25⟩, .stmts bIL, iS "at", mainGlobals, builtinsNs),
   some ("__init__", "NotPlain.__init__", iA "at" ⟨11, 17, 11, 21⟩ ⟨11, 23, 11, 25⟩, .stmts bNP, iS "at", mainGlobals, builtinsNs),
   some ("__init__", "Unsettled.__init__", iA "block" ⟨21, 17, 21, 21⟩ ⟨21, 23, 21, 28⟩, .stmts bUN, iS "block", mainGlobals, builtinsNs)]
def isNon : Value → Bool
  | .none => true
  | _ => false
def cellB (K : PySem.W.Frag) (C : Addr) (cl : List (Str × Addr)) : Bool := match cl with
  | [(n, cc)] => n == ("__class__" : Str) && (match K.lookup cc with
    | some ⟨_, _, .cell (some (.ref D)), _⟩ => D == C
    | _ => false)
  | _ => false
def fileB (K : PySem.W.Frag) (qual file : Str) (cd : Value) : Bool := match cd with
  | .ref a => PySem.W.codeIn K (.ref a) qual && (match K.lookup a with
    | some ⟨_, _, .fields vs, _⟩ => (match (vs[2]? : Option Value) with
      | some (Value.str f _) => file == f
      | _ => false)
    | _ => false)
  | _ => false
def iniB (K : PySem.W.Frag) (x qual file : Str) : Bool := match K.lookup (iniAd K x) with
  | some ⟨_, _, .func fd, _⟩ => isNon fd.defaults && (isNon fd.kwdefaults && (cellB K (He.ga K x) fd.closure && fileB K qual file fd.code))
  | _ => false
def clsB (K : PySem.W.Frag) (C : Addr) : Bool := match K.lookup C with
  | some ⟨.type t, _, .cls cd, sl⟩ => (match cd.mro, sl.toList with
    | .ref D :: bm, [_, _, _, _, some (.builtin n), _] => decide (t = "type") && (D == C && (decide (n = "ValueError.__new__") && (!cd.hasDel && (cd.hasDict && (PySem.HandSPX.refsVE bm && decide (PySem.W.alongIn K "__init__" bm = some (some (.builtin "ValueError.__init__"))))))))
    | _, _ => false)
  | _ => false
def excB (K : PySem.W.Frag) (C : Addr) : Bool :=
  decide (PySem.W.findIn K (.ref C) "__getattribute__" = some (some (.builtin "BaseException.__getattribute__"))) && (decide (PySem.W.findIn K (.ref C) "__getattr__" = some none) && (decide (PySem.W.subIn K (.ref C) (.type "BaseException") = some true) &&
    (PySem.W.hasDictIn K C && (decide (PySem.W.findIn K (.ref C) "__class__" = some (some (.builtin "object.__class__"))) && (decide (PySem.W.specialIn K (.builtin "object.__class__") "__get__" = some (some (.builtin "getset_descriptor.__get__"))) &&
    (decide (PySem.W.takesIn K (.builtin "object.__class__") = some true) && decide (PySem.W.mroIn K C (.type "object") = some true)))))))
def errB (K : PySem.W.Frag) (x nm qual file : Str) : Bool :=
  clsB K (He.ga K x) && (iniB K x qual file && (excB K (He.ga K x) && (decide (PySem.W.nsIn K cStatics "thirdparty.any" = some none) && (decide (PySem.W.findIn K (.ref (He.ga K x)) "__setattr__" = some (some (.builtin "object.__setattr__"))) &&
    (decide (PySem.W.findIn K (.ref (He.ga K x)) nm = some none) && (decide (PySem.W.findIn K (.ref (He.ga K x)) "__init__" = some (some (.ref (iniAd K x)))) && (decide (PySem.W.typeIn K (.ref (iniAd K x)) = some (.type "function")) &&
    (PySem.W.keepIn K (.ref (He.ga K x)) && (decide (PySem.W.subIn K (.ref (He.ga K x)) (.type "ValueError") = some true) && decide (PySem.W.typeIn K (.ref (He.ga K x)) = some (.type "type")))))))))))
def relB (K : PySem.W.Frag) (x : Str) : Bool :=
  decide (PySem.W.exmOne K (.ref (He.ga K x)) (.ref (He.ga K x)) = some true) && (decide (PySem.W.kitOne K (.ref (He.ga K x)) (.ref (He.ga K "RedoError")) = some true) && decide (PySem.W.kitOne K (.ref (He.ga K x)) (.type "ValueError") = some true))
def exR (file : Str) (K : PySem.W.Frag) : Bool :=
  errB K "InvalidLine" "at" "InvalidLine.__init__" file && (errB K "NotPlain" "at" "NotPlain.__init__" file && (errB K "Unsettled" "block" "Unsettled.__init__" file &&
    (relB K "InvalidLine" && (relB K "NotPlain" && (relB K "Unsettled" && (decide (PySem.W.exmOne K (.ref (He.ga K "NotPlain")) (.ref (He.ga K "InvalidLine")) = some false) && decide (PySem.W.kitOne K (.ref (He.ga K "InvalidLine")) (.ref (He.ga K "NotPlain")) = some false)))))))
/-! ### what they say -/
theorem isNon_ok {v : Value} (h : isNon v = true) : v = .none := by
  cases v with
  | none => rfl
  | _ => cases h
theorem cellB_ok {K : PySem.W.Frag} {C : Addr} {cl : List (Str × Addr)} (h : cellB K C cl = true) : ∃ (cc : Addr) (c : Value) (d : Option Addr) (sl : Array (Option Value)), cl = [(("__class__" : Str), cc)] ∧ K.lookup cc = some ⟨c, d, .cell (some (.ref C)), sl⟩ := by
  unfold cellB at h
  split at h
  · rename_i n cc
    obtain ⟨h1, h2⟩ := He.ba h
    have e1 : n = ("__class__" : Str) := beq_iff_eq.mp h1
    subst e1
    split at h2
    · rename_i c d D sl q
      have e2 : D = C := beq_iff_eq.mp h2
      subst e2
      exact ⟨cc, c, d, sl, rfl, q⟩
    · cases h2
  · cases h
theorem fileB_ok {K : PySem.W.Frag} {qual file : Str} {cd : Value} (h : fileB K qual file cd = true) : ∃ (a : Addr) (c : Value) (d : Option Addr) (vs : Array Value) (sl : Array (Option Value)) (f : Str) (t : Tok), cd = .ref a ∧ PySem.W.codeIn K (.ref a) qual = true ∧ K.lookup a = some ⟨c, d, .fields vs, sl⟩ ∧ vs[2]? = some (.str f t) ∧ (file == f) = true := by
  unfold fileB at h
  split at h
  · rename_i a
    obtain ⟨h1, h2⟩ := He.ba h
    split at h2
    · rename_i c d vs sl q
      split at h2
      · rename_i f t q2
        exact ⟨a, c, d, vs, sl, f, t, rfl, h1, q, q2, h2⟩
      · cases h2
    · cases h2
  · cases h
theorem clsB_ok {K : PySem.W.Frag} {C : Addr} (h : clsB K C = true) : ∃ nm q N bs bm sn sub ab col dd k0 k1 k2 k3 k5, K.lookup C = some (excClassObj nm q C N bs bm true sn sub ab col dd k0 k1 k2 k3 k5 "ValueError.__new__") ∧ PySem.HandSPX.refsVE bm = true ∧ PySem.W.alongIn K "__init__" bm = some (some (.builtin "ValueError.__init__")) := by
  unfold clsB at h
  split at h
  · rename_i t dd cd sl q
    split at h
    · rename_i D bm k0 k1 k2 k3 n k5 hm hs
      obtain ⟨h0, h⟩ := He.ba h
      obtain ⟨h1, h⟩ := He.ba h
      obtain ⟨h2, h⟩ := He.ba h
      obtain ⟨h3, h⟩ := He.ba h
      obtain ⟨h4, h⟩ := He.ba h
      obtain ⟨h5, h6⟩ := He.ba h
      have e0 := of_decide_eq_true h0
      have e1 : D = C := beq_iff_eq.mp h1
      have e2 := of_decide_eq_true h2
      subst e0 e1 e2
      obtain ⟨nm, bs, mro, ns, qn, hd, sn, sub, ab, col, del⟩ := cd
      have e3 : del = false := by simpa using h3
      have e4 : hd = true := h4
      dsimp only at hm
      subst e3 e4 hm
      have e5 : sl = #[k0, k1, k2, k3, some (.builtin "ValueError.__new__"), k5] := by
        obtain ⟨l⟩ := sl
        simp only at hs
        rw [hs]
      subst e5
      exact ⟨nm, qn, ns, bs, bm, sn, sub, ab, col, dd, k0, k1, k2, k3, k5, q, h5, of_decide_eq_true h6⟩
    · cases h
  · cases h
theorem excB_ok {K : PySem.W.Frag} {C : Addr} (h : excB K C = true) : ExcC K C := by
  obtain ⟨h1, h⟩ := He.ba h
  obtain ⟨h2, h⟩ := He.ba h
  obtain ⟨h3, h⟩ := He.ba h
  obtain ⟨h4, h⟩ := He.ba h
  obtain ⟨h5, h⟩ := He.ba h
  obtain ⟨h6, h⟩ := He.ba h
  obtain ⟨h7, h8⟩ := He.ba h
  exact ⟨of_decide_eq_true h1, of_decide_eq_true h2, of_decide_eq_true h3, h4, of_decide_eq_true h5, of_decide_eq_true h6, of_decide_eq_true h7, of_decide_eq_true h8⟩
theorem err_of {P : Program} {K : PySem.W.Frag} {mg : Str → Option Value} {x nm qual : Str} {J : List Expr} {p1 p2 jp q1 q2 q3 q4 q5 r1 r2 r3 r4 : Pos} (h : errB K x nm qual P.main.file = true)
    (hi : iniW K x = some (("__init__" : Str), qual, iA nm p1 p2, FuncBody.stmts (iB nm J jp q1 q2 q3 q4 q5 r1 r2 r3 r4), iS nm, mainGlobals, builtinsNs)) (hn : nm = "at" ∨ nm = "block") (hj : JOk nm J) (hm : McOk J jp q1 q2 q3 q4)
    (gC : mg x = some (.ref (He.ga K x))) (gS : mg "super" = none) (top : (P.main.scope.names.lookup ("super" : Str)).isSome = false) : ErrTxt P K mg x nm J (He.ga K x) (iniAd K x) ∧ ExcC K (He.ga K x) := by
  obtain ⟨h1, h⟩ := He.ba h
  obtain ⟨h2, h⟩ := He.ba h
  obtain ⟨h3, h⟩ := He.ba h
  obtain ⟨h4, h⟩ := He.ba h
  obtain ⟨h5, h⟩ := He.ba h
  obtain ⟨h6, h⟩ := He.ba h
  obtain ⟨h7, h⟩ := He.ba h
  obtain ⟨h8, h⟩ := He.ba h
  obtain ⟨h9, h⟩ := He.ba h
  obtain ⟨h10, h11⟩ := He.ba h
  have ec := excB_ok h3
  refine ⟨⟨hn, hj, gC, gS, clsB_ok h1, of_decide_eq_true h4, of_decide_eq_true h5, ec.hg, ec.hk, of_decide_eq_true h6, of_decide_eq_true h7, of_decide_eq_true h8, h9, ec.hs, of_decide_eq_true h10, of_decide_eq_true h11, ec.hd, top, ?_⟩, ec⟩
  unfold iniB at h2
  unfold iniW at hi
  split at h2
  · rename_i oc od fd osl q
    rw [q] at hi
    obtain ⟨a1, h2⟩ := He.ba h2
    obtain ⟨a2, h2⟩ := He.ba h2
    obtain ⟨a3, a4⟩ := He.ba h2
    obtain ⟨n1, n2, n3, n4, n5, n6, n7, n8, n9, n10, n11, n12, n13, n14, n15⟩ := fd
    have e := Option.some.inj hi
    simp only [Prod.mk.injEq] at e
    obtain ⟨b1, b2, b3, b4, b5, b6, b7⟩ := e
    have c8 : n8 = .none := isNon_ok a1
    have c9 : n9 = .none := isNon_ok a2
    obtain ⟨cc, cl, cld, csl, c7, hcell⟩ := cellB_ok a3
    obtain ⟨cda, ccl, cdd, vs, ccs, file, tf, c13, hcd, hcode, hvs, hfile⟩ := fileB_ok a4
    dsimp only at c7 c13
    subst b1 b2 b3 b4 b5 b6 b7 c8 c9 c7 c13
    exact ⟨oc, ccl, cl, od, cdd, cld, n10, n11, n14, n12, cda, cc, vs, file, tf, osl, ccs, csl, _, p1, p2, jp, q1, q2, q3, q4, q5, r1, r2, r3, r4, q, hcd, hcode, hvs, hfile, hcell, hm⟩
  · cases h2
/-- the errors of the program -/
structure Errs (P : Program) (K : PySem.W.Frag) (mg : Str → Option Value) : Prop where
  il : ErrTxt P K mg "InvalidLine" "at" jIL (He.ga K "InvalidLine") (iniAd K "InvalidLine")
  np : ErrTxt P K mg "NotPlain" "at" jNP (He.ga K "NotPlain") (iniAd K "NotPlain")
  un : ErrTxt P K mg "Unsettled" "block" jUN (He.ga K "Unsettled") (iniAd K "Unsettled")
  xil : ExcC K (He.ga K "InvalidLine")
  xnp : ExcC K (He.ga K "NotPlain")
  xun : ExcC K (He.ga K "Unsettled")
  ril : relB K "InvalidLine" = true
  rnp : relB K "NotPlain" = true
  run : relB K "Unsettled" = true
  e1 : PySem.W.exmOne K (.ref (He.ga K "NotPlain")) (.ref (He.ga K "InvalidLine")) = some false
  k1 : PySem.W.kitOne K (.ref (He.ga K "InvalidLine")) (.ref (He.ga K "NotPlain")) = some false
theorem rel_ok {K : PySem.W.Frag} {x : Str} (h : relB K x = true) : PySem.W.exmOne K (.ref (He.ga K x)) (.ref (He.ga K x)) = some true ∧ PySem.W.kitOne K (.ref (He.ga K x)) (.ref (He.ga K "RedoError")) = some true ∧ PySem.W.kitOne K (.ref (He.ga K x)) (.type "ValueError") = some true := by
  obtain ⟨h1, h⟩ := He.ba h
  obtain ⟨h2, h3⟩ := He.ba h
  exact ⟨of_decide_eq_true h1, of_decide_eq_true h2, of_decide_eq_true h3⟩
theorem errs_of {P : Program} {K : PySem.W.Frag} {mg : Str → Option Value} (h : exR P.main.file K = true) (hi : inis K = inisVal) (T : Txt K mg) (top : (P.main.scope.names.lookup ("super" : Str)).isSome = false) : Errs P K mg := by
  obtain ⟨h1, h⟩ := He.ba h
  obtain ⟨h2, h⟩ := He.ba h
  obtain ⟨h3, h⟩ := He.ba h
  obtain ⟨h4, h⟩ := He.ba h
  obtain ⟨h5, h⟩ := He.ba h
  obtain ⟨h6, h⟩ := He.ba h
  obtain ⟨h7, h8⟩ := He.ba h
  have i1 : iniW K "InvalidLine" = _ := (List.cons.inj hi).1
  have i2 : iniW K "NotPlain" = _ := (List.cons.inj (List.cons.inj hi).2).1
  have i3 : iniW K "Unsettled" = _ := (List.cons.inj (List.cons.inj (List.cons.inj hi).2).2).1
  have a := err_of (P := P) h1 i1 (.inl rfl) jok_IL mc_IL T.k_InvalidLine T.b_super top
  have b := err_of (P := P) h2 i2 (.inl rfl) jok_NP mc_NP T.k_NotPlain T.b_super top
  have c := err_of (P := P) h3 i3 (.inr rfl) jok_UN mc_UN T.k_Unsettled T.b_super top
  exact ⟨a.1, b.1, c.1, a.2, b.2, c.2, h4, h5, h6, of_decide_eq_true h7, of_decide_eq_true h8⟩
end Rw
/-! ## RdHead -/
/-! # The head: the top run once. -/
namespace Rw
open PySem PySem.Spec PyProof.Rows L2
def loose0 : List Str := ["RedoError", "InvalidLine", "NotPlain", "InvalidImage", "Unsettled", "EMPTY", "FREE", "MOST_BLOCKS", "MOST_VALUE", "check_image", "home", "MOST_LINES", "GUARD_SIGNS", "has_guard_signs", "is_index", "is_guard", "check_line", "check_script", "pairs", "check_log", "last_writes", "_way_table", "_reach_of", "_mutual_sets", "within_reach"]
def loose1 : List Str := ["knots", "_grown", "late_lots", "_sources_first", "_common", "_settled_from", "settled", "repeats", "_law_purse", "_law_take", "_law_turned", "_law_line", "_law_trees", "_law_extra", "_law_grown", "_law_links", "_law_same", "_law_guard", "_law_not_plain", "_law_no_line", "_law_odd", "_law_refusal", "_law_reach", "_law_strong", "_law_closed"]
def loose2 : List Str := ["_law_late", "_law_after", "_law_spread", "_law_ends", "_law_single", "_law_settled", "_law_all_single", "_law_fewest", "_law_repeated", "_law_longer", "_law_holds"]
def loose : List Str := loose0 ++ loose1 ++ loose2
abbrev TheRow : PySem.W.OpenRow := PySem.W.OpenLaw.row PySem.Challenge.rw_redolots_k30_whole_repeats
/-- the written part by the objects that the top names, and the one at 2 -/
def oneAt (g : Addr → Option Obj) (a : Addr) : PySem.W.Frag := match g a with
  | some o => if He.emptyTab o then [] else [(a, o)]
  | none => []
def frR (g : Addr → Option Obj) : PySem.W.Frag := He.frT g (He.asD g 5) ++ oneAt g cStatics
theorem frR_in {h : Heap} : (frR h.get?).In h := fun a o e => by
  unfold frR at e
  rw [List.lookup_append] at e
  cases q : (He.frT h.get? (He.asD h.get? 5)).lookup a with
  | some o' =>
    rw [q] at e
    cases e
    exact He.frT_in _ _ q
  | none =>
    rw [q] at e
    have e2 : (oneAt h.get? cStatics).lookup a = some o := e
    unfold oneAt at e2
    split at e2
    · rename_i o' q2
      split at e2
      · cases e2
      · have z := He.lookup_mem e2
        rw [List.mem_singleton] at z
        cases z
        exact q2
    · cases e2
abbrev AlR : Type := He.AlD × List IniW × Bool
def obsK (K : PySem.W.Frag) : AlR := (He.obsD fa fn K, inis K, exR TheRow.prog.main.file K)
def valR : AlR := (He.valD fn, inisVal, true)
def hk : PySem.W.Hook where
  α := AlR
  obs := fun s => obsK (frR s.heap.get?)
  val := fun _ => valR
  says := fun _ h => ∃ K : PySem.W.Frag, K.In h ∧ obsK K = valR
  of := fun _ _ e => ⟨_, frR_in, e⟩
  keeps := fun _ _ _ ⟨K, hK, c⟩ k => ⟨K, PySem.W.Frag.In.keeps hK k, c⟩
def ob (s : PySem.W.SharedT) : AlR := obsK (frR (HandSHeadRun.getT s))
theorem ob_eq (s : PySem.W.SharedT) : ob s = hk.obs s.abs := by
  have e : HandSHeadRun.getT s = s.abs.heap.get? := funext (HandSHeadRun.getT_eq s)
  show obsK (frR (HandSHeadRun.getT s)) = obsK (frR s.abs.heap.get?)
  rw [e]
theorem run (w : World) : HandSHeadRun.RunEq TheRow (PySem.W.view TheRow.prog [68]) hk ob 3400 loose w := by
  intro os
  kernel_rfl
theorem txt_of {K : PySem.W.Frag} {mg : Str → Option Value} {h : Heap} (X : K.In h) (G : h.Ns mainGlobals mg) (c : He.SaysD fa fn K) : Txt K mg where
  b_len := He.free_ok X G (c.fact 0 (f := .free "len") rfl)
  b_range := He.free_ok X G (c.fact 1 (f := .free "range") rfl)
  b_tuple := He.free_ok X G (c.fact 2 (f := .free "tuple") rfl)
  b_list := He.free_ok X G (c.fact 3 (f := .free "list") rfl)
  b_sorted := He.free_ok X G (c.fact 4 (f := .free "sorted") rfl)
  b_enumerate := He.free_ok X G (c.fact 5 (f := .free "enumerate") rfl)
  b_isinstance := He.free_ok X G (c.fact 6 (f := .free "isinstance") rfl)
  b_max := He.free_ok X G (c.fact 7 (f := .free "max") rfl)
  b_min := He.free_ok X G (c.fact 8 (f := .free "min") rfl)
  b_repr := He.free_ok X G (c.fact 9 (f := .free "repr") rfl)
  b_int := He.free_ok X G (c.fact 10 (f := .free "int") rfl)
  b_str := He.free_ok X G (c.fact 11 (f := .free "str") rfl)
  b_bool := He.free_ok X G (c.fact 12 (f := .free "bool") rfl)
  b_ValueError := He.free_ok X G (c.fact 13 (f := .free "ValueError") rfl)
  b_super := He.free_ok X G (c.fact 14 (f := .free "super") rfl)
  c_EMPTY := He.int_ok X G (c.fact 15 (f := .int "EMPTY" (-1)) rfl)
  c_FREE := He.int_ok X G (c.fact 16 (f := .int "FREE" (-2)) rfl)
  c_MOST_BLOCKS := He.int_ok X G (c.fact 17 (f := .int "MOST_BLOCKS" (12)) rfl)
  c_MOST_VALUE := He.int_ok X G (c.fact 18 (f := .int "MOST_VALUE" (999)) rfl)
  c_MOST_LINES := He.int_ok X G (c.fact 19 (f := .int "MOST_LINES" (60)) rfl)
  c_GUARD_SIGNS := He.str_ok X G (c.fact 20 (f := .str "GUARD_SIGNS" ".*-0123456789") rfl)
  k_RedoError := He.glo_ok X G (c.fact 21 (f := .glo "RedoError") rfl)
  k_InvalidLine := He.glo_ok X G (c.fact 22 (f := .glo "InvalidLine") rfl)
  k_NotPlain := He.glo_ok X G (c.fact 23 (f := .glo "NotPlain") rfl)
  k_InvalidImage := He.glo_ok X G (c.fact 24 (f := .glo "InvalidImage") rfl)
  k_Unsettled := He.glo_ok X G (c.fact 25 (f := .glo "Unsettled") rfl)
  defs := fun d hd => c.defs hd
  globs := fun d hd => He.glo_ok X G (c.facts (f := .glo d.name) (List.mem_append_right _ (List.mem_append_right _ (List.mem_map.mpr ⟨d, hd, rfl⟩))))
theorem errs_ok {K : PySem.W.Frag} {mg : Str → Option Value} (c : obsK K = valR) (T : Txt K mg) : Errs TheRow.prog K mg := errs_of (congrArg (fun z : AlR => z.2.2) c) (congrArg (fun z : AlR => z.2.1) c) T (by decide +kernel)
theorem says_ok {K : PySem.W.Frag} (c : obsK K = valR) : He.SaysD fa fn K := congrArg (fun z : AlR => z.1) c
end Rw
/-! ## RdTopG -/
/-! # The outermost def: it runs where nothing stands around it, so repr's own guards are known to be none. -/
namespace Rw
open PySem PySem.Spec PyProof.Rows L2
/-- what the outermost def promises where the claim calls it -/
def RunG (P : Program) (w : World) (K : PySem.W.Frag) (mg : Str → Option Value) (base : Heap) (CX : CXT) (g : Addr) (fd : FuncData) (ps : List Str) (sp : Sp) : Prop :=
  ∀ (t : Shared) (G : Hp) (bs : Args) (ws : List Value) (zs : List V) (Q : VK) (E : XK), Env0 P w K mg base callerA [] t G → BindsTo t fd bs (ps.zip ws) → Vals zs ws → sp zs G Q E →
    codeAny (model P w) callerA (.call (.ref g) bs) (CR CX [] P w G t Q E) t
section
variable {P : Program} {w : World} {K : PySem.W.Frag} {mg : Str → Option Value} {base : Heap}
theorem runG_of {x : Str} {st : Stmt} {N ps : List Str} {k : Nat} {sp : Sp} {fd : FuncData} (F : FunD K x x (defArgs st) (defBody st) (defScope st) [] [] (He.ga K x) fd) (S : FnScope N ps (defScope st)) (hr : Room (k + 1) callerA)
    (len : ∀ vs H Q E, sp vs H Q E → vs.length = ps.length)
    (hbody : ∀ (cdv : Value) (t : Shared) (G : Hp) (zs : List V) (Q : VK) (E : XK), Room k (callerA.deeper (envOfC x (defScope st) t.heap.objs.size (He.ga K x) cdv)) → sp zs G Q E →
      ∃ r, PSs (cxOf CX0 P w K mg base N x (defScope st) (He.ga K x) cdv callerA [] t G E).nox (defBody st) r ∧ r { nx := fun _ G' => Q .non G', rt := Q } (start N zs) G) : RunG P w K mg base CX0 (He.ga K x) fd ps sp := by
  obtain ⟨c1, c2, d1, d2, doc, pm, an, cdv, ct, sl, rfl, look, hcode, _, _⟩ := F.ex
  intro t G bs ws zs Q E en bd rel good
  have hlen := len _ _ _ _ good
  have inK : K.In t.heap := en.mod.kin.keeps fun b o e => (en.bs b o e).1
  have nolim : t.heap.NoLimit := en.mod.nolimit.keeps fun b o e => (en.bs b o e).1
  have kinds : ∀ y ∈ ps.zip ws, (defScope st).names.lookup y.1 = some .local ∨ ((defScope st).names.lookup y.1 = some .cell ∧ ((cellsFrom (t.heap.objs.size + 1) (defScope st).names []).lookup y.1).isSome = true) := fun ⟨n, v⟩ hy =>
    (S.par n (List.of_mem_zip hy).1).imp id fun q => ⟨q, PySem.W.cellsFrom_some _ _ _ (.inl q)⟩
  refine codeAny_call_function hr.depth (inK _ _ look) rfl S.co S.gen rfl (PySem.W.codeRec_of inK hcode) (bd _ _ _ _ ?_)
  refine wpAny_newFunctionEnv_cells S.kind kinds fun env ee t1 inn => ?_
  subst ee
  refine ⟨nolim.keeps inn.toInCall.keep, codeAny_func ?_⟩
  obtain ⟨r, ht, hq⟩ := hbody cdv t G zs Q E (hr.deeper _) good
  have J0 : Inv (cxOf CX0 P w K mg base N x (defScope st) (He.ga K x) cdv callerA [] t G E) [] (start N zs) G t1 := inv_start S hr.hd en hlen rel inn
  refine wpAny_mono (ht.nox.run [] t1 (start N zs) G _ J0 hq) (fun fl t2 out => ?_) fun e t2 out => out
  cases fl with
  | ret u =>
    obtain ⟨v, σ2, G2, J, rv, q⟩ := out
    exact ⟨v, G2, J.os, J.bare, J.base, J.hok, rv, q⟩
  | next =>
    obtain ⟨σ2, G2, J, q⟩ := out
    exact ⟨V.non, G2, J.os, J.bare, J.base, J.hok, rfl, q⟩
  | brk => exact (show False from out.choose_spec.choose_spec.2).elim
  | cont => exact (show False from out.choose_spec.choose_spec.2).elim
end
theorem law_callG {P : Program} {w : World} {K : PySem.W.Frag} {mg mb : Str → Option Value} {CX : CXT} {g a : Addr} {fd : FuncData} {x : Str} {sp : Sp} {t : Shared} {vs : List Value} {ns : List Int}
    (inK : K.In t.heap) (hns : t.heap.Ns mainGlobals mg) (hb : t.heap.Ns builtinsNs mb) (hbb : ∀ y : Str, y ≠ "__name__" → mb y = bootBuiltins y) (nolim : t.heap.NoLimit) (bare : t.gens = #[])
    (obj : t.heap.get? a = some { cls := .type "list", data := .seq vs.toArray }) (hints : IntsAre vs ns) (small : ns.length ≤ sizeLine)
    (F : ∀ base : Heap, K.In base → base.Ns mainGlobals mg → RunG P w K mg base CX g fd [x] sp) (bind : ∀ (s : Shared) (u : Value), BindsTo s fd ⟨[u], []⟩ [(x, u)])
    (good : ∀ H : Hp, Only H → SqL K H a (ns.map V.int) → sp [.ref a] H (fun v _ => v = .bl true) fun _ _ _ => False)
    (noX : ∀ H e s', CX [] H t (fun _ _ _ => False) e s' → False) :
    codeAny (model P w) callerA (.call (.ref g) ⟨[.ref a], []⟩) (fun r t' => r = .ok (.ret (.bool true)) ∧ OldK t.heap t'.heap ∧ t'.os = t.os ∧ AllBare t'.gens) t := by
  have rel := vals_ints hints
  have lens := hints.length
  have main : ∀ H : Hp, Only H → SqL K H a (ns.map V.int) → HOk P w H t.heap → (∀ b, H b ≠ none → b = a) → (H a ≠ none → K.lookup a = none) →
      codeAny (model P w) callerA (.call (.ref g) ⟨[.ref a], []⟩) (fun r t' => r = .ok (.ret (.bool true)) ∧ OldK t.heap t'.heap ∧ t'.os = t.os ∧ AllBare t'.gens) t := by
    intro H only sq hok onlyA outK
    have seen : ∀ {b : Addr} {o : Obj}, t.heap.get? b = some o → H b = none → (hidT t.heap H).get? b = some o := fun e n => hidT_get e n
    have noDict : ∀ {b : Addr} {o : Obj} {es : Array DictEntry} {ep : Nat}, t.heap.get? b = some o → o.data = .dict es ep → H b = none := fun {b o es ep} e d => by
      refine Classical.byContradiction fun q => ?_
      obtain rfl : b = a := onlyA b q
      rw [obj] at e
      cases e
      exact nomatch (show Data.seq vs.toArray _ = Data.dict es ep from d)
    have names : ∀ {b : Addr} {m : Str → Option Value}, t.heap.Ns b m → (hidT t.heap H).Ns b m := fun ⟨o, es, ep, e, d, r⟩ => ⟨o, es, ep, seen e (noDict e d), d, r⟩
    have keyIn : K.In (hidT t.heap H) := fun b o e => seen (inK b o e) (Classical.byContradiction fun q => by
      obtain rfl : b = a := onlyA b q
      rw [outK q] at e
      cases e)
    have mod : Mod K mg (hidT t.heap H) := ⟨keyIn, names hns, ⟨mb, names hb, hbb⟩, let ⟨mc, h1, h2⟩ := nolim; ⟨mc, names h1, h2⟩⟩
    have en : Env0 P w K mg (hidT t.heap H) callerA [] t H := ⟨rfl, mod, fun b o e => of_hidT e, Nat.le_of_eq (hidT_size _ _), trivial, fun b hb => absurd hb List.not_mem_nil, hok, .of_eq bare⟩
    refine codeAny_mono (F _ keyIn (names hns) t H ⟨[.ref a], []⟩ [.ref a] [.ref a] _ _ en (bind t (.ref a)) (.cons rfl .nil) (good H only sq)) fun r t2 out => ?_
    match r, out with
    | .error e, out => exact (noX H e t2 out).elim
    | .ok .next, out => exact False.elim out
    | .ok .brk, out => exact False.elim out
    | .ok .cont, out => exact False.elim out
    | .ok (.ret u), out =>
      obtain ⟨v, H2, os, bare2, un, hok2, rv, q⟩ := out
      obtain rfl : v = .bl true := q
      obtain rfl : u = Value.bool true := rv
      refine ⟨rfl, OldK.of_keep fun b o e => ?_, os, bare2⟩
      cases q : H b with
      | none => exact un.keep b o e q List.not_mem_nil List.not_mem_nil
      | some u =>
        rcases only b with z | ⟨ob, xs, z⟩
        · rw [q] at z
          cases z
        · have z1 := (hok b _ z).1
          have z2 := (hok2 b _ (un.frzs b ob _ z)).1
          rw [e] at z1
          cases z1
          exact z2
  cases inside : K.lookup a with
  | some o =>
    have e := inK a o inside
    rw [obj] at e
    cases e
    exact main (fun _ => none) (fun _ => .inl rfl) (.inr ⟨_, vs.toArray, _, inside, rfl, rfl, rfl, by rw [List.size_toArray, lens]; exact small, by simpa using rel⟩) (fun b u z => nomatch (show (none : Option HO) = some u from z)) (fun b z => absurd rfl z) fun z => absurd rfl z
  | none =>
    refine main (fun b => if b = a then some (.frz { cls := .type "list", data := .seq vs.toArray } (.lst (ns.map V.int))) else none) (fun b => ?_) (.inl (.inr ⟨{ cls := .type "list", data := .seq vs.toArray }, if_pos rfl⟩)) (fun b u z => ?_) (fun b z => ?_) fun _ => inside
    · by_cases hb : b = a
      · exact .inr ⟨_, _, if_pos hb⟩
      · exact .inl (if_neg hb)
    · by_cases hb : b = a
      · subst hb
        cases (if_pos rfl).symm.trans z
        exact ⟨obj, by rw [List.length_map]; exact small, vs, _, rel, obj⟩
      · cases (if_neg hb).symm.trans z
    · exact Classical.byContradiction fun hb => z (if_neg hb)
theorem walk_ofG {l : PySem.W.OpenLaw} {n : Nat} {q : Program} {loose : List Str} {XP : (Str → Option Value) → Heap → Prop} {YP : World → Heap → Prop} {d : DefRec} {CX : CXT} {x : Str}
    (most : l.most = some n) (small : n ≤ sizeLine) (nodef : d.params.defaults = [])
    (F : ∀ (w : World) (mg : Str → Option Value) (g : Addr) (h : Heap), YP w h → h.Ns mainGlobals mg → mg d.name = some (.ref g) →
      ∃ (K : PySem.W.Frag) (fd : FuncData) (sp : Sp), K.In h ∧ (∀ (s : Shared) (u : Value), BindsTo s fd ⟨[u], []⟩ [(x, u)]) ∧
        (∀ (H : Hp) (a : Addr) (ns : List Int), ns.length ≤ n → Only H → SqL K H a (ns.map V.int) → sp [.ref a] H (fun v _ => v = .bl true) fun _ _ _ => False) ∧
        ∀ base : Heap, K.In base → base.Ns mainGlobals mg → RunG l.prog w K mg base CX g fd [x] sp)
    (noX : ∀ (H : Hp) (s : Shared) (e : Value) (s' : Shared), CX [] H s (fun _ _ _ => False) e s' → False) :
    PySem.W.WalkO q loose XP YP l.row.toRowW d [] (fun f vs => PySem.call f vs) := by
  refine Att.attach_call most nodef fun w s0 s1 mg mb g o pm cd doc a vs ns G Y ho hd hcd hmg obj hints hlen bare => ?_
  obtain ⟨K, fd, sp, inK, bind, good, hF⟩ := F w mg g _ Y G.T.g hmg
  exact law_callG inK G.T.g G.T.b G.T.builtins G.T.nolimit bare obj hints (Nat.le_trans hlen small) hF bind (fun H hO hS => good H a ns hlen hO hS) fun H e s' => noX H s1 e s'
end Rw
/-! ## RdMath1 -/
set_option maxHeartbeats 1000000
/-! # The plain law, part 1: lots as masks, the closing pass, late lots. -/
namespace Rd
abbrev Lk := Nat × Nat
def gL (L : List Nat) (b : Nat) : Nat := L.getD b 0
def bit (L : List Nat) (b v : Nat) : Bool := (gL L b).testBit v
theorem gL_eq {L : List Nat} {b : Nat} (h : b < L.length) : gL L b = L[b] := by
  simp [gL, List.getD_eq_getElem?_getD, h]
theorem gL_out {L : List Nat} {b : Nat} (h : L.length ≤ b) : gL L b = 0 := by
  simp [gL, List.getD_eq_getElem?_getD, h]
theorem gL_set_self {L : List Nat} {i x : Nat} (h : i < L.length) : gL (L.set i x) i = x := by
  simp [gL, List.getD_eq_getElem?_getD, h]
theorem gL_set_ne {L : List Nat} {i b x : Nat} (h : b ≠ i) : gL (L.set i x) b = gL L b := by
  simp [gL, List.getD_eq_getElem?_getD, List.getElem?_set, Ne.symm h]
theorem bit_out {L : List Nat} {b v : Nat} (h : L.length ≤ b) : bit L b v = false := by
  simp [bit, gL_out h]
theorem lt_of_bit {L : List Nat} {b v : Nat} (h : bit L b v = true) : b < L.length := by
  by_cases c : b < L.length
  · exact c
  · rw [bit_out (by omega)] at h
    cases h
theorem lots_ext {L M : List Nat} (hl : L.length = M.length) (h : ∀ b v, bit L b v = bit M b v) : L = M := by
  apply List.ext_getElem hl
  intro i h1 h2
  apply Nat.eq_of_testBit_eq
  intro v
  have q := h i v
  rw [bit, bit, gL_eq h1, gL_eq h2] at q
  exact q
theorem list_gL {L M : List Nat} (hl : L.length = M.length) (h : ∀ b, b < L.length → gL L b = gL M b) : L = M := by
  apply List.ext_getElem hl
  intro i h1 h2
  have q := h i h1
  rw [gL_eq h1, gL_eq h2] at q
  exact q
/-- what is below what -/
def Le (L M : List Nat) : Prop := ∀ b v, bit L b v = true → bit M b v = true
theorem Le.refl (L : List Nat) : Le L L := fun _ _ h => h
theorem Le.trans {L M N : List Nat} (a : Le L M) (b : Le M N) : Le L N := fun x v h => b x v (a x v h)
theorem Le.antisymm {L M : List Nat} (hl : L.length = M.length) (a : Le L M) (b : Le M L) : L = M :=
  lots_ext hl fun x v => Bool.eq_iff_iff.mpr ⟨a x v, b x v⟩
def Cl (ls : List Lk) (L : List Nat) : Prop := ∀ l ∈ ls, ∀ v, bit L l.2 v = true → bit L l.1 v = true
def Clv (v : Nat) (ls : List Lk) (L : List Nat) : Prop := ∀ l ∈ ls, bit L l.2 v = true → bit L l.1 v = true
def Okl (n : Nat) (ls : List Lk) : Prop := ∀ l ∈ ls, l.1 < n ∧ l.2 < n ∧ l.1 ≠ l.2
theorem Okl.tail {n : Nat} {l : Lk} {ls : List Lk} (h : Okl n (l :: ls)) : Okl n ls := fun x hx => h x (List.mem_cons_of_mem _ hx)
theorem Okl.head {n : Nat} {l : Lk} {ls : List Lk} (h : Okl n (l :: ls)) : l.1 < n ∧ l.2 < n ∧ l.1 ≠ l.2 := h l List.mem_cons_self
theorem Okl.take {n : Nat} {ls : List Lk} (k : Nat) (h : Okl n ls) : Okl n (ls.take k) := fun x hx => h x (List.mem_of_mem_take hx)
theorem Okl.append {n : Nat} {ls ms : List Lk} (a : Okl n ls) (b : Okl n ms) : Okl n (ls ++ ms) := fun x hx => (List.mem_append.mp hx).elim (a x) (b x)
def join1 (L : List Nat) (l : Lk) : List Nat := L.set l.1 (gL L l.1 ||| gL L l.2)
def pass (ls : List Lk) (L : List Nat) : List Nat := ls.foldl join1 L
def it (ls : List Lk) : Nat → List Nat → List Nat
  | 0, L => L
  | k + 1, L => pass ls (it ls k L)
def clo (n : Nat) (ls : List Lk) (L : List Nat) : List Nat := it ls n L
theorem len_join1 (L : List Nat) (l : Lk) : (join1 L l).length = L.length := by simp [join1]
theorem len_pass (ls : List Lk) : ∀ L : List Nat, (pass ls L).length = L.length := by
  induction ls with
  | nil => intro L; rfl
  | cons l ls ih =>
    intro L
    show (pass ls (join1 L l)).length = _
    rw [ih, len_join1]
theorem len_it (ls : List Lk) (L : List Nat) : ∀ k, (it ls k L).length = L.length
  | 0 => rfl
  | k + 1 => by rw [it, len_pass, len_it ls L k]
theorem len_clo (n : Nat) (ls : List Lk) (L : List Nat) : (clo n ls L).length = L.length := len_it ls L n
theorem bit_join1 {L : List Nat} {l : Lk} (h : l.1 < L.length) (b v : Nat) : bit (join1 L l) b v = (bit L b v || (decide (b = l.1) && bit L l.2 v)) := by
  by_cases e : b = l.1
  · subst e
    simp [bit, join1, gL_set_self h, Nat.testBit_or]
  · simp [bit, join1, gL_set_ne e, e]
theorem le_join1 {L : List Nat} {l : Lk} (h : l.1 < L.length) : Le L (join1 L l) := fun b v q => by rw [bit_join1 h, q, Bool.true_or]
theorem le_pass {n : Nat} : ∀ {ls : List Lk} {L : List Nat}, Okl n ls → L.length = n → Le L (pass ls L) := by
  intro ls
  induction ls with
  | nil => intro L _ _; exact Le.refl L
  | cons l ls ih =>
    intro L ho hl
    exact (le_join1 (by rw [hl]; exact ho.head.1)).trans (ih ho.tail (by rw [len_join1, hl]))
theorem pass_adds {n : Nat} : ∀ {ls : List Lk} {L : List Nat}, Okl n ls → L.length = n → ∀ l ∈ ls, ∀ v, bit L l.2 v = true → bit (pass ls L) l.1 v = true := by
  intro ls
  induction ls with
  | nil => intro L _ _ l hl; cases hl
  | cons h ls ih =>
    intro L ho hl l hm v q
    have hh : h.1 < L.length := by rw [hl]; exact ho.head.1
    rcases List.mem_cons.mp hm with e | hm
    · subst e
      refine le_pass ho.tail (by rw [len_join1, hl]) _ _ ?_
      rw [bit_join1 hh, q]
      simp
    · exact ih ho.tail (by rw [len_join1, hl]) l hm v (le_join1 hh _ _ q)
theorem pass_le {n : Nat} : ∀ {ls : List Lk} {L M : List Nat}, Okl n ls → L.length = n → Cl ls M → Le L M → Le (pass ls L) M := by
  intro ls
  induction ls with
  | nil => intro L M _ _ _ h; exact h
  | cons l ls ih =>
    intro L M ho hl hc h
    refine ih ho.tail (by rw [len_join1, hl]) (fun x hx => hc x (List.mem_cons_of_mem _ hx)) (fun b v q => ?_)
    rw [bit_join1 (by rw [hl]; exact ho.head.1)] at q
    rcases Bool.or_eq_true_iff.mp q with q | q
    · exact h b v q
    · obtain ⟨e, q⟩ := Bool.and_eq_true_iff.mp q
      rw [of_decide_eq_true e]
      exact hc l List.mem_cons_self v (h _ _ q)
theorem pass_eq {n : Nat} {ls : List Lk} {L : List Nat} (ho : Okl n ls) (hl : L.length = n) (hc : Cl ls L) : pass ls L = L :=
  Le.antisymm (len_pass ls L) (pass_le ho hl hc (Le.refl L)) (le_pass ho hl)
theorem cl_of_pass {n : Nat} {ls : List Lk} {L : List Nat} (ho : Okl n ls) (hl : L.length = n) (h : pass ls L = L) : Cl ls L := fun l hm v q => by
  have z := pass_adds ho hl l hm v q
  rw [h] at z
  exact z
/-! ### the pass reaches the end within n rounds: number by number -/
theorem pass_clv {n v : Nat} : ∀ {ls : List Lk} {L : List Nat}, Okl n ls → L.length = n → Clv v ls L → ∀ b, bit (pass ls L) b v = bit L b v := by
  intro ls
  induction ls with
  | nil => intro L _ _ _ b; rfl
  | cons l ls ih =>
    intro L ho hl hc b
    have hh : l.1 < L.length := by rw [hl]; exact ho.head.1
    have same : ∀ c, bit (join1 L l) c v = bit L c v := fun c => by
      rw [bit_join1 hh]
      by_cases e : c = l.1
      · subst e
        cases q : bit L l.2 v with
        | false => simp
        | true => rw [hc l List.mem_cons_self q]; rfl
      · simp [e]
    show bit (pass ls (join1 L l)) b v = _
    rw [ih ho.tail (by rw [len_join1, hl]) (fun x hx q => by rw [same] at q ⊢; exact hc x (List.mem_cons_of_mem _ hx) q) b, same]
def cnt (n v : Nat) (L : List Nat) : Nat := ((List.range n).filter fun b => bit L b v).length
theorem filter_le {α : Type} {p q : α → Bool} : ∀ (l : List α), (∀ x ∈ l, p x = true → q x = true) → (l.filter p).length ≤ (l.filter q).length := by
  intro l
  induction l with
  | nil => intro _; exact Nat.le_refl _
  | cons x l ih =>
    intro h
    have i := ih fun y hy => h y (List.mem_cons_of_mem _ hy)
    cases hp : p x with
    | true =>
      rw [List.filter_cons_of_pos hp, List.filter_cons_of_pos (h x List.mem_cons_self hp)]
      simpa using i
    | false =>
      rw [List.filter_cons_of_neg (by simp [hp])]
      cases hq : q x with
      | true => rw [List.filter_cons_of_pos hq, List.length_cons]; omega
      | false => rw [List.filter_cons_of_neg (by simp [hq])]; exact i
theorem filter_lt {α : Type} {p q : α → Bool} : ∀ (l : List α), (∀ x ∈ l, p x = true → q x = true) → (∃ x ∈ l, q x = true ∧ p x = false) → (l.filter p).length < (l.filter q).length := by
  intro l
  induction l with
  | nil => rintro _ ⟨x, hx, _⟩; cases hx
  | cons x l ih =>
    rintro h ⟨y, hy, hq, hp⟩
    have h' : ∀ z ∈ l, p z = true → q z = true := fun z hz => h z (List.mem_cons_of_mem _ hz)
    rcases List.mem_cons.mp hy with e | hy
    · subst e
      rw [List.filter_cons_of_neg (by simp [hp]), List.filter_cons_of_pos hq, List.length_cons]
      have := filter_le l h'
      omega
    · have i := ih h' ⟨y, hy, hq, hp⟩
      cases hpx : p x with
      | true =>
        rw [List.filter_cons_of_pos hpx, List.filter_cons_of_pos (h x List.mem_cons_self hpx)]
        simpa using i
      | false =>
        rw [List.filter_cons_of_neg (by simp [hpx])]
        cases hqx : q x with
        | true => rw [List.filter_cons_of_pos hqx, List.length_cons]; omega
        | false => rw [List.filter_cons_of_neg (by simp [hqx])]; exact i
theorem cnt_le (n v : Nat) (L : List Nat) : cnt n v L ≤ n := by
  have h := List.length_filter_le (fun b => bit L b v) (List.range n)
  rw [List.length_range] at h
  exact h
theorem cnt_lt {n v : Nat} {ls : List Lk} {L : List Nat} (ho : Okl n ls) (hl : L.length = n) (h : ¬ Clv v ls L) : cnt n v L < cnt n v (pass ls L) := by
  have : ∃ l ∈ ls, bit L l.2 v = true ∧ bit L l.1 v = false := by
    apply Classical.byContradiction
    intro q
    refine h fun l hm hb => ?_
    cases e : bit L l.1 v with
    | true => rfl
    | false => exact absurd ⟨l, hm, hb, e⟩ q
  obtain ⟨l, hm, h1, h2⟩ := this
  refine filter_lt _ (fun b _ q => le_pass ho hl b v q) ⟨l.1, List.mem_range.mpr (ho l hm).1, pass_adds ho hl l hm v h1, h2⟩
theorem it_clv {n v : Nat} {ls : List Lk} {L : List Nat} (ho : Okl n ls) (hl : L.length = n) : ∀ k, Clv v ls (it ls k L) ∨ k + 1 ≤ cnt n v (it ls k L)
  | 0 => by
    by_cases c : cnt n v L = 0
    · refine .inl fun l hm q => ?_
      have e := List.eq_nil_of_length_eq_zero c
      have z : l.2 ∈ (List.range n).filter fun b => bit L b v := List.mem_filter.mpr ⟨List.mem_range.mpr (ho l hm).2.1, q⟩
      rw [e] at z
      cases z
    · exact .inr (by show 0 + 1 ≤ cnt n v L; omega)
  | k + 1 => by
    have hk : (it ls k L).length = n := by rw [len_it, hl]
    rcases it_clv (v := v) ho hl k with h | h
    · refine .inl fun l hm q => ?_
      rw [it, pass_clv ho hk h] at q ⊢
      exact h l hm q
    · by_cases c : Clv v ls (it ls k L)
      · refine .inl fun l hm q => ?_
        rw [it, pass_clv ho hk c] at q ⊢
        exact c l hm q
      · have := cnt_lt ho hk c
        exact .inr (by rw [it]; omega)
theorem it_cl {n : Nat} {ls : List Lk} {L : List Nat} (ho : Okl n ls) (hl : L.length = n) {k : Nat} (hk : n ≤ k) : Cl ls (it ls k L) := fun l hm v q => by
  rcases it_clv (v := v) ho hl k with h | h
  · exact h l hm q
  · have := cnt_le n v (it ls k L)
    omega
theorem le_it {n : Nat} {ls : List Lk} {L : List Nat} (ho : Okl n ls) (hl : L.length = n) : ∀ k, Le L (it ls k L)
  | 0 => Le.refl L
  | k + 1 => (le_it ho hl k).trans (le_pass ho (by rw [len_it, hl]))
theorem it_le {n : Nat} {ls : List Lk} {L M : List Nat} (ho : Okl n ls) (hl : L.length = n) (hc : Cl ls M) (h : Le L M) : ∀ k, Le (it ls k L) M
  | 0 => h
  | k + 1 => pass_le ho (by rw [len_it, hl]) hc (it_le ho hl hc h k)
theorem clo_cl {n : Nat} {ls : List Lk} {L : List Nat} (ho : Okl n ls) (hl : L.length = n) : Cl ls (clo n ls L) := it_cl ho hl (Nat.le_refl n)
theorem le_clo {n : Nat} {ls : List Lk} {L : List Nat} (ho : Okl n ls) (hl : L.length = n) : Le L (clo n ls L) := le_it ho hl n
theorem clo_le {n : Nat} {ls : List Lk} {L M : List Nat} (ho : Okl n ls) (hl : L.length = n) (hc : Cl ls M) (h : Le L M) : Le (clo n ls L) M := it_le ho hl hc h n
/-- where the pass stands still, the closing has come -/
theorem clo_of_cl {n : Nat} {ls : List Lk} {L : List Nat} (ho : Okl n ls) (hl : L.length = n) {k : Nat} (h : Cl ls (it ls k L)) : it ls k L = clo n ls L :=
  Le.antisymm (by rw [len_it, len_clo]) (it_le ho hl (clo_cl ho hl) (le_clo ho hl) k) (clo_le ho hl h (le_it ho hl k))
theorem clo_of_still {n : Nat} {ls : List Lk} {L : List Nat} (ho : Okl n ls) (hl : L.length = n) {k : Nat} (h : pass ls (it ls k L) = it ls k L) : it ls k L = clo n ls L :=
  clo_of_cl ho hl (cl_of_pass ho (by rw [len_it, hl]) h)
theorem moved_lt {n : Nat} {ls : List Lk} {L : List Nat} (ho : Okl n ls) (hl : L.length = n) {k : Nat} (h : pass ls (it ls k L) ≠ it ls k L) : k < n := by
  apply Classical.byContradiction
  intro q
  exact h (pass_eq ho (by rw [len_it, hl]) (it_cl ho hl (by omega)))
theorem clo_self {n : Nat} {ls : List Lk} {L : List Nat} (ho : Okl n ls) (hl : L.length = n) (h : Cl ls L) : clo n ls L = L := (clo_of_cl (k := 0) ho hl h).symm
theorem clo_congr {n : Nat} {ls ms : List Lk} {L : List Nat} (ho : Okl n ls) (hl : L.length = n) (h : ∀ l, l ∈ ls ↔ l ∈ ms) : clo n ls L = clo n ms L := by
  have ho' : Okl n ms := fun l hm => ho l ((h l).mpr hm)
  exact Le.antisymm (by rw [len_clo, len_clo]) (clo_le ho hl (fun l hm => clo_cl ho' hl l ((h l).mp hm)) (le_clo ho' hl)) (clo_le ho' hl (fun l hm => clo_cl ho hl l ((h l).mpr hm)) (le_clo ho hl))
/-! ### a line executed once more -/
def app (n : Nat) (ls : List Lk) (L : List Nat) (l : Lk) : List Nat := clo n ls (L.set l.1 (gL L l.2))
/-- the union of the sources' lots -/
def uni (ls : List Lk) (L : List Nat) (t : Nat) : Nat := (ls.filter fun l => l.1 == t).foldl (fun m l => m ||| gL L l.2) 0
theorem bit_fold (L : List Nat) (v : Nat) : ∀ (ms : List Lk) (m : Nat), (ms.foldl (fun m l => m ||| gL L l.2) m).testBit v = (m.testBit v || ms.any fun l => bit L l.2 v) := by
  intro ms
  induction ms with
  | nil => intro m; simp
  | cons l ms ih =>
    intro m
    rw [List.foldl_cons, ih, Nat.testBit_or, List.any_cons, Bool.or_assoc]
    rfl
theorem bit_uni {ls : List Lk} {L : List Nat} {t v : Nat} : (uni ls L t).testBit v = true ↔ ∃ l ∈ ls, l.1 = t ∧ bit L l.2 v = true := by
  rw [uni, bit_fold, Nat.zero_testBit, Bool.false_or, List.any_eq_true]
  constructor
  · rintro ⟨l, hm, h⟩
    obtain ⟨h1, h2⟩ := List.mem_filter.mp hm
    exact ⟨l, h1, beq_iff_eq.mp h2, h⟩
  · rintro ⟨l, hm, h1, h2⟩
    exact ⟨l, List.mem_filter.mpr ⟨hm, beq_iff_eq.mpr h1⟩, h2⟩
theorem len_app (n : Nat) (ls : List Lk) (L : List Nat) (l : Lk) : (app n ls L l).length = L.length := by simp [app, len_clo]
theorem app_eq {n : Nat} {ls : List Lk} {L : List Nat} {l : Lk} (ho : Okl n ls) (hl : L.length = n) (hc : Cl ls L) (hm : l ∈ ls) : app n ls L l = L.set l.1 (uni ls L l.1) := by
  have ht : l.1 < L.length := by rw [hl]; exact (ho l hm).1
  have hset : (L.set l.1 (gL L l.2)).length = n := by simp [hl]
  have bM : ∀ b v, b ≠ l.1 → bit (L.set l.1 (uni ls L l.1)) b v = bit L b v := fun b v h => by rw [bit, gL_set_ne h, bit]
  have bMt : ∀ v, bit (L.set l.1 (uni ls L l.1)) l.1 v = (uni ls L l.1).testBit v := fun v => by rw [bit, gL_set_self ht]
  refine Le.antisymm (by simp [len_app]) (clo_le ho hset (fun k hk v q => ?_) (fun b v q => ?_)) (fun b v q => ?_)
  · -- the new lots are closed
    by_cases e : k.1 = l.1
    · rw [e, bMt]
      refine bit_uni.mpr ⟨k, hk, e, ?_⟩
      rwa [bM _ _ (fun z => (ho k hk).2.2 (e.trans z.symm))] at q
    · rw [bM _ _ e]
      by_cases e2 : k.2 = l.1
      · rw [e2, bMt] at q
        obtain ⟨j, hj, e3, q⟩ := bit_uni.mp q
        have q1 := hc j hj v q
        rw [e3, ← e2] at q1
        exact hc k hk v q1
      · rw [bM _ _ e2] at q
        exact hc k hk v q
  · -- they hold what is laid
    by_cases e : b = l.1
    · subst e
      rw [bMt]
      rw [bit, gL_set_self ht] at q
      exact bit_uni.mpr ⟨l, hm, rfl, q⟩
    · rw [bM _ _ e]
      rwa [bit, gL_set_ne e] at q
  · by_cases e : b = l.1
    · subst e
      rw [bMt] at q
      obtain ⟨j, hj, e, q⟩ := bit_uni.mp q
      have z : bit (L.set l.1 (gL L l.2)) j.2 v = true := by
        rw [bit, gL_set_ne (fun z => (ho j hj).2.2 (e.trans z.symm))]
        exact q
      have z2 := clo_cl ho hset j hj v (le_clo ho hset _ _ z)
      rw [e] at z2
      exact z2
    · rw [bM _ _ e] at q
      refine le_clo ho hset _ _ ?_
      rw [bit, gL_set_ne e]
      exact q
/-! ### late lots -/
def home (n : Nat) : List Nat := (List.range n).map fun b => 2 ^ b
def lateF (n : Nat) (ls : List Lk) : Nat → List Nat
  | 0 => home n
  | k + 1 => clo n (ls.take (k + 1)) ((lateF n ls k).set (ls.getD k (0, 0)).1 (gL (lateF n ls k) (ls.getD k (0, 0)).2))
def late (n : Nat) (ls : List Lk) : List Nat := lateF n ls ls.length
theorem len_home (n : Nat) : (home n).length = n := by simp [home]
theorem len_lateF (n : Nat) (ls : List Lk) : ∀ k, (lateF n ls k).length = n
  | 0 => len_home n
  | k + 1 => by rw [lateF, len_clo, List.length_set, len_lateF n ls k]
theorem len_late (n : Nat) (ls : List Lk) : (late n ls).length = n := len_lateF n ls _
theorem lateF_append (n : Nat) (ls ms : List Lk) : ∀ k, k ≤ ls.length → lateF n (ls ++ ms) k = lateF n ls k
  | 0, _ => rfl
  | k + 1, h => by
    have e1 : (ls ++ ms).take (k + 1) = ls.take (k + 1) := List.take_append_of_le_length h
    have e2 : (ls ++ ms).getD k (0, 0) = ls.getD k (0, 0) := by
      rw [List.getD_eq_getElem?_getD, List.getD_eq_getElem?_getD, List.getElem?_append_left (by omega)]
    rw [lateF, lateF, e1, e2, lateF_append n ls ms k (by omega)]
theorem late_snoc (n : Nat) (ls : List Lk) (l : Lk) : late n (ls ++ [l]) = clo n (ls ++ [l]) ((late n ls).set l.1 (gL (late n ls) l.2)) := by
  have e1 : (ls ++ [l]).take (ls.length + 1) = ls ++ [l] := List.take_of_length_le (by simp)
  have e2 : (ls ++ [l]).getD ls.length (0, 0) = l := by simp [List.getD_eq_getElem?_getD]
  show lateF n (ls ++ [l]) (ls ++ [l]).length = _
  rw [List.length_append, List.length_singleton, lateF, e1, e2, lateF_append n ls [l] ls.length (Nat.le_refl _)]
  rfl
theorem late_cl {n : Nat} {ls : List Lk} (ho : Okl n ls) : Cl ls (late n ls) := by
  cases h : ls.length with
  | zero =>
    have e := List.eq_nil_of_length_eq_zero h
    subst e
    intro l hm
    cases hm
  | succ k =>
    have e : ls.take (k + 1) = ls := List.take_of_length_le (by omega)
    rw [late, h, lateF, e]
    exact clo_cl ho (by rw [List.length_set, len_lateF])
theorem late_more {n : Nat} {ls : List Lk} (ho : Okl n ls) : ∀ (ex : List Lk), (∀ l ∈ ex, l ∈ ls) → late n (ls ++ ex) = ex.foldl (app n ls) (late n ls) := by
  have key : ∀ (k : Nat) (ex : List Lk), ex.length = k → (∀ l ∈ ex, l ∈ ls) → late n (ls ++ ex) = ex.foldl (app n ls) (late n ls) := by
    intro k
    induction k with
    | zero =>
      intro ex h _
      have e := List.eq_nil_of_length_eq_zero h
      subst e
      simp
    | succ k ih =>
      intro ex h hs
      have hne : ex ≠ [] := by
        intro z
        subst z
        cases h
      have e := List.dropLast_concat_getLast hne
      have hlast := hs _ (List.getLast_mem hne)
      have hdrop : ∀ l ∈ ex.dropLast, l ∈ ls := fun l hm => hs l (List.dropLast_subset _ hm)
      have i := ih ex.dropLast (by rw [List.length_dropLast]; omega) hdrop
      rw [← e, ← List.append_assoc, late_snoc, List.foldl_append, List.foldl_cons, List.foldl_nil, ← i, app]
      refine (clo_congr ho (by rw [List.length_set, len_late]) fun l => ?_).symm
      constructor
      · intro hm
        exact List.mem_append_left _ (List.mem_append_left _ hm)
      · intro hm
        rcases List.mem_append.mp hm with hm | hm
        · rcases List.mem_append.mp hm with hm | hm
          · exact hm
          · exact hdrop l hm
        · rw [List.mem_singleton.mp hm]
          exact hlast
  exact fun ex h => key ex.length ex rfl h
/-! ### what holds of all lots -/
/-- n lots, each with a number, all numbers below n -/
structure Good (n : Nat) (L : List Nat) : Prop where
  len : L.length = n
  some : ∀ b, b < n → ∃ v, bit L b v = true
  low : ∀ b v, bit L b v = true → v < n
theorem Good.home (n : Nat) : Good n (Rd.home n) := by
  have e : ∀ b, b < n → gL (Rd.home n) b = 2 ^ b := fun b h => by rw [gL_eq (by rw [len_home]; exact h)]; simp [Rd.home]
  refine ⟨len_home n, fun b h => ⟨b, ?_⟩, fun b v h => ?_⟩
  · rw [bit, e b h]
    simp
  · have hb : b < n := by have := lt_of_bit h; rwa [len_home] at this
    rw [bit, e b hb, Nat.testBit_two_pow] at h
    have := of_decide_eq_true h
    omega
theorem gL_home {n b : Nat} (h : b < n) : gL (home n) b = 2 ^ b := by rw [gL_eq (by rw [len_home]; exact h)]; simp [home]
theorem Good.set {n : Nat} {L : List Nat} {t s : Nat} (g : Good n L) (ht : t < n) (hs : s < n) : Good n (L.set t (gL L s)) := by
  have hl := g.len
  refine ⟨by simp [hl], fun b h => ?_, fun b v h => ?_⟩
  · by_cases e : b = t
    · subst e
      obtain ⟨v, q⟩ := g.some s hs
      exact ⟨v, by rw [bit, gL_set_self (by omega)]; exact q⟩
    · obtain ⟨v, q⟩ := g.some b h
      exact ⟨v, by rw [bit, gL_set_ne e]; exact q⟩
  · by_cases e : b = t
    · subst e
      rw [bit, gL_set_self (by omega)] at h
      exact g.low s v h
    · rw [bit, gL_set_ne e] at h
      exact g.low b v h
theorem Good.join1 {n : Nat} {L : List Nat} {l : Lk} (g : Good n L) (h1 : l.1 < n) : Good n (Rd.join1 L l) := by
  have hl := g.len
  refine ⟨by rw [len_join1, hl], fun b h => ?_, fun b v h => ?_⟩
  · obtain ⟨v, q⟩ := g.some b h
    exact ⟨v, le_join1 (by omega) _ _ q⟩
  · rw [bit_join1 (by omega)] at h
    rcases Bool.or_eq_true_iff.mp h with q | q
    · exact g.low b v q
    · exact g.low _ v (Bool.and_eq_true_iff.mp q).2
theorem Good.pass {n : Nat} : ∀ {ls : List Lk} {L : List Nat}, Okl n ls → Good n L → Good n (Rd.pass ls L) := by
  intro ls
  induction ls with
  | nil => intro L _ g; exact g
  | cons l ls ih => intro L ho g; exact ih ho.tail (g.join1 ho.head.1)
theorem Good.it {n : Nat} {ls : List Lk} {L : List Nat} (ho : Okl n ls) (g : Good n L) : ∀ k, Good n (Rd.it ls k L)
  | 0 => g
  | k + 1 => (Good.it ho g k).pass ho
theorem Good.clo {n : Nat} {ls : List Lk} {L : List Nat} (ho : Okl n ls) (g : Good n L) : Good n (Rd.clo n ls L) := Good.it ho g n
theorem okl_getD {n : Nat} {ls : List Lk} (ho : Okl n ls) {k : Nat} (h : k < ls.length) : ls.getD k (0, 0) ∈ ls := by
  rw [List.getD_eq_getElem?_getD, List.getElem?_eq_getElem h]
  exact List.getElem_mem h
theorem Good.lateF {n : Nat} {ls : List Lk} (ho : Okl n ls) : ∀ k, k ≤ ls.length → Good n (Rd.lateF n ls k)
  | 0, _ => Good.home n
  | k + 1, h => by
    have hm := ho _ (okl_getD ho (show k < ls.length by omega))
    exact ((Good.lateF ho k (by omega)).set hm.1 hm.2.1).clo (ho.take _)
theorem Good.late {n : Nat} {ls : List Lk} (ho : Okl n ls) : Good n (Rd.late n ls) := Good.lateF ho _ (Nat.le_refl _)
theorem Good.app {n : Nat} {ls : List Lk} {L : List Nat} {l : Lk} (ho : Okl n ls) (g : Good n L) (hm : l ∈ ls) : Good n (Rd.app n ls L l) := (g.set (ho l hm).1 (ho l hm).2.1).clo ho
/-- a block that no line writes on keeps its lot -/
theorem pass_keep {b : Nat} : ∀ {ls : List Lk} {L : List Nat}, (∀ l ∈ ls, l.1 ≠ b) → gL (pass ls L) b = gL L b := by
  intro ls
  induction ls with
  | nil => intro L _; rfl
  | cons l ls ih =>
    intro L h
    show gL (pass ls (join1 L l)) b = _
    rw [ih fun x hx => h x (List.mem_cons_of_mem _ hx), join1, gL_set_ne (Ne.symm (h l List.mem_cons_self))]
theorem it_keep {b : Nat} {ls : List Lk} {L : List Nat} (h : ∀ l ∈ ls, l.1 ≠ b) : ∀ k, gL (it ls k L) b = gL L b
  | 0 => rfl
  | k + 1 => by rw [it, pass_keep h, it_keep h k]
theorem lateF_keep {n b : Nat} {ls : List Lk} (hb : b < n) (h : ∀ l ∈ ls, l.1 ≠ b) : ∀ k, k ≤ ls.length → gL (lateF n ls k) b = 2 ^ b
  | 0, _ => gL_home hb
  | k + 1, hk => by
    have hm : ls.getD k (0, 0) ∈ ls := by
      rw [List.getD_eq_getElem?_getD, List.getElem?_eq_getElem (by omega)]
      exact List.getElem_mem _
    rw [lateF, clo, it_keep fun l hl => h l (List.mem_of_mem_take hl), gL_set_ne (Ne.symm (h _ hm)), lateF_keep hb h k (by omega)]
theorem late_keep {n b : Nat} {ls : List Lk} (hb : b < n) (h : ∀ l ∈ ls, l.1 ≠ b) : gL (late n ls) b = 2 ^ b := lateF_keep hb h _ (Nat.le_refl _)
end Rd
/-! ## RdMath2 -/
/-! # The plain law, part 2: reach, knots, settled numbers. -/
namespace Rd
/-! ### reach: the table after each middle block -/
def base (n : Nat) (ls : List Lk) : List Nat := ls.foldl (fun T l => T.set l.2 (gL T l.2 ||| 2 ^ l.1)) (home n)
def wst (T : List Nat) (m : Nat) : List Nat := T.map fun row => if row.testBit m then row ||| gL T m else row
def W (n : Nat) (ls : List Lk) : Nat → List Nat
  | 0 => base n ls
  | k + 1 => wst (W n ls k) k
def R (n : Nat) (ls : List Lk) (a b : Nat) : Bool := bit (W n ls n) a b
theorem len_base (n : Nat) (ls : List Lk) : (base n ls).length = n := by
  have key : ∀ (ms : List Lk) (T : List Nat), (ms.foldl (fun T l => T.set l.2 (gL T l.2 ||| 2 ^ l.1)) T).length = T.length := by
    intro ms
    induction ms with
    | nil => intro T; rfl
    | cons l ms ih => intro T; rw [List.foldl_cons, ih, List.length_set]
  rw [base, key, len_home]
theorem len_W (n : Nat) (ls : List Lk) : ∀ k, (W n ls k).length = n
  | 0 => len_base n ls
  | k + 1 => by rw [W, wst, List.length_map, len_W n ls k]
theorem bit_home {n a b : Nat} : bit (home n) a b = (decide (a < n) && decide (a = b)) := by
  by_cases h : a < n
  · rw [bit, gL_home h, Nat.testBit_two_pow]
    simp [h]
  · rw [bit_out (by rw [len_home]; omega)]
    simp [h]
theorem bit_set_or {T : List Nat} {i x a b : Nat} (h : i < T.length) : bit (T.set i (gL T i ||| 2 ^ x)) a b = (bit T a b || (decide (a = i) && decide (x = b))) := by
  by_cases e : a = i
  · subst e
    simp [bit, gL_set_self h, Nat.testBit_or, Nat.testBit_two_pow]
  · simp [bit, gL_set_ne e, e]
theorem bit_base {n : Nat} {ls : List Lk} (ho : Okl n ls) (a b : Nat) : bit (base n ls) a b = true ↔ (a < n ∧ a = b) ∨ (b, a) ∈ ls := by
  have key : ∀ (ms : List Lk) (T : List Nat), Okl n ms → T.length = n → (bit (ms.foldl (fun T l => T.set l.2 (gL T l.2 ||| 2 ^ l.1)) T) a b = true ↔ bit T a b = true ∨ (b, a) ∈ ms) := by
    intro ms
    induction ms with
    | nil => intro T _ _; simp
    | cons l ms ih =>
      intro T hm hl
      have hi : l.2 < T.length := by rw [hl]; exact hm.head.2.1
      rw [List.foldl_cons, ih _ hm.tail (by rw [List.length_set, hl]), bit_set_or hi, Bool.or_eq_true_iff, Bool.and_eq_true_iff, decide_eq_true_eq, decide_eq_true_eq, List.mem_cons]
      constructor
      · rintro ((h | ⟨h1, h2⟩) | h)
        · exact .inl h
        · refine .inr (.inl ?_)
          rw [h1, ← h2]
        · exact .inr (.inr h)
      · rintro (h | h | h)
        · exact .inl (.inl h)
        · refine .inl (.inr ?_)
          rw [← h]
          exact ⟨rfl, rfl⟩
        · exact .inr h
  rw [base, key ls (home n) ho (len_home n), bit_home, Bool.and_eq_true_iff, decide_eq_true_eq, decide_eq_true_eq]
theorem gL_wst {T : List Nat} {m a : Nat} : gL (wst T m) a = if (gL T a).testBit m then gL T a ||| gL T m else gL T a := by
  by_cases h : a < T.length
  · rw [gL_eq (by simp [wst, h]), gL_eq h]
    simp [wst]
  · rw [gL_out (by simp [wst]; omega), gL_out (L := T) (by omega)]
    simp
theorem bit_W_succ (n : Nat) (ls : List Lk) (k a b : Nat) : bit (W n ls (k + 1)) a b = (bit (W n ls k) a b || (bit (W n ls k) a k && bit (W n ls k) k b)) := by
  rw [W, bit, gL_wst]
  show _ = ((gL (W n ls k) a).testBit b || ((gL (W n ls k) a).testBit k && (gL (W n ls k) k).testBit b))
  cases h : (gL (W n ls k) a).testBit k with
  | true => rw [if_pos rfl, Nat.testBit_or, Bool.true_and]
  | false => rw [if_neg Bool.false_ne_true, Bool.false_and, Bool.or_false]
theorem bit_W_mono {n : Nat} {ls : List Lk} {a b : Nat} (h : bit (base n ls) a b = true) : ∀ k, bit (W n ls k) a b = true
  | 0 => h
  | k + 1 => by rw [bit_W_succ, bit_W_mono h k, Bool.true_or]
theorem W_trans {n : Nat} {ls : List Lk} : ∀ (k j a b : Nat), j < k → bit (W n ls k) a j = true → bit (W n ls k) j b = true → bit (W n ls k) a b = true
  | 0, j, a, b, h, _, _ => absurd h (by omega)
  | k + 1, j, a, b, hj, h1, h2 => by
    have ih := W_trans (n := n) (ls := ls) k
    rw [bit_W_succ] at h1 h2 ⊢
    simp only [Bool.or_eq_true, Bool.and_eq_true] at h1 h2 ⊢
    by_cases e : j = k
    · subst e
      have a1 : bit (W n ls j) a j = true := h1.elim id And.left
      have a2 : bit (W n ls j) j b = true := h2.elim id And.right
      exact .inr ⟨a1, a2⟩
    · have hjk : j < k := by omega
      rcases h1 with h1 | ⟨h1, h3⟩
      · rcases h2 with h2 | ⟨h2, h4⟩
        · exact .inl (ih j a b hjk h1 h2)
        · exact .inr ⟨ih j a k hjk h1 h2, h4⟩
      · rcases h2 with h2 | ⟨h2, h4⟩
        · exact .inr ⟨h1, ih j k b hjk h3 h2⟩
        · exact .inr ⟨h1, h4⟩
theorem R_refl {n : Nat} {ls : List Lk} (ho : Okl n ls) {a : Nat} (h : a < n) : R n ls a a = true := bit_W_mono ((bit_base ho a a).mpr (.inl ⟨h, rfl⟩)) n
theorem R_link {n : Nat} {ls : List Lk} (ho : Okl n ls) {l : Lk} (h : l ∈ ls) : R n ls l.2 l.1 = true := bit_W_mono ((bit_base ho l.2 l.1).mpr (.inr h)) n
theorem R_trans {n : Nat} {ls : List Lk} {a b c : Nat} (hb : b < n) (h1 : R n ls a b = true) (h2 : R n ls b c = true) : R n ls a c = true := W_trans n b a c hb h1 h2
/-- the least such relation -/
theorem R_min {n : Nat} {ls : List Lk} (ho : Okl n ls) {S : Nat → Nat → Prop} (hr : ∀ a, a < n → S a a) (hs : ∀ l ∈ ls, S l.2 l.1) (ht : ∀ a b c, S a b → S b c → S a c) {a b : Nat} (h : R n ls a b = true) : S a b := by
  have key : ∀ (k a b : Nat), bit (W n ls k) a b = true → S a b := by
    intro k
    induction k with
    | zero =>
      intro a b h
      rcases (bit_base ho a b).mp h with ⟨h1, h2⟩ | h
      · subst h2
        exact hr a h1
      · exact hs _ h
    | succ k ih =>
      intro a b h
      rw [bit_W_succ] at h
      rcases Bool.or_eq_true_iff.mp h with h | h
      · exact ih a b h
      · obtain ⟨h1, h2⟩ := Bool.and_eq_true_iff.mp h
        exact ht a k b (ih a k h1) (ih k b h2)
  exact key n a b h
theorem R_lt {n : Nat} {ls : List Lk} (ho : Okl n ls) {a b : Nat} (h : R n ls a b = true) : a < n ∧ b < n := by
  have := R_min ho (S := fun a b => a < n ∧ b < n) (fun a h => ⟨h, h⟩) (fun l hl => ⟨(ho l hl).2.1, (ho l hl).1⟩) (fun a b c x y => ⟨x.1, y.2⟩) h
  exact this
theorem R_congr {n : Nat} {ls ms : List Lk} (ho : Okl n ls) (h : ∀ l, l ∈ ls ↔ l ∈ ms) (a b : Nat) : R n ls a b = R n ms a b := by
  have ho' : Okl n ms := fun l hm => ho l ((h l).mpr hm)
  refine Bool.eq_iff_iff.mpr ⟨fun q => ?_, fun q => ?_⟩
  · exact (R_min ho (S := fun a b => R n ms a b = true ∧ b < n) (fun a h => ⟨R_refl ho' h, h⟩) (fun l hl => ⟨R_link ho' ((h l).mp hl), (ho l hl).1⟩) (fun a b c x y => ⟨R_trans x.2 x.1 y.1, y.2⟩) q).1
  · exact (R_min ho' (S := fun a b => R n ls a b = true ∧ b < n) (fun a h => ⟨R_refl ho h, h⟩) (fun l hl => ⟨R_link ho ((h l).mpr hl), (ho' l hl).1⟩) (fun a b c x y => ⟨R_trans x.2 x.1 y.1, y.2⟩) q).1
/-- what is within reach takes in the lot -/
theorem R_lot {n : Nat} {ls : List Lk} {L : List Nat} (ho : Okl n ls) (hc : Cl ls L) {a b : Nat} (h : R n ls a b = true) (v : Nat) : bit L a v = true → bit L b v = true :=
  R_min ho (S := fun a b => bit L a v = true → bit L b v = true) (fun _ _ q => q) (fun l hl q => hc l hl v q) (fun _ _ _ x y q => y (x q)) h
/-! ### the table as a def finds it, in place -/
/-- one middle block, from block 0 on, in place -/
def wstI (m : Nat) (T : List Nat) (b : Nat) : List Nat := if (gL T b).testBit m then T.set b (gL T b ||| gL T m) else T
theorem wstI_row {m : Nat} : ∀ (k : Nat) (T : List Nat), k ≤ T.length → (∀ b, gL ((List.range k).foldl (wstI m) T) b = if b < k then gL (wst T m) b else gL T b) ∧ ((List.range k).foldl (wstI m) T).length = T.length := by
  intro k
  induction k with
  | zero => intro T _; exact ⟨fun b => by simp, rfl⟩
  | succ k ih =>
    intro T hk
    obtain ⟨h, hl⟩ := ih T (by omega)
    rw [List.range_succ, List.foldl_append, List.foldl_cons, List.foldl_nil]
    have hm : gL ((List.range k).foldl (wstI m) T) m = gL T m := by
      rw [h]
      split
      · rw [gL_wst]
        split
        · exact Nat.or_self _
        · rfl
      · rfl
    have hkk : gL ((List.range k).foldl (wstI m) T) k = gL T k := by rw [h, if_neg (by omega)]
    have hlen : k < ((List.range k).foldl (wstI m) T).length := by omega
    refine ⟨fun b => ?_, ?_⟩
    · rw [wstI, hm, hkk]
      by_cases e : b = k
      · subst e
        have e3 : (if b < b + 1 then gL (wst T m) b else gL T b) = gL (wst T m) b := if_pos (by omega)
        rw [e3, gL_wst]
        by_cases c : (gL T b).testBit m = true
        · rw [if_pos c, if_pos c, gL_set_self hlen]
        · rw [if_neg c, if_neg c, hkk]
      · have e2 : gL (if (gL T k).testBit m then ((List.range k).foldl (wstI m) T).set k (gL T k ||| gL T m) else (List.range k).foldl (wstI m) T) b = gL ((List.range k).foldl (wstI m) T) b := by
          split
          · exact gL_set_ne e
          · rfl
        rw [e2, h]
        by_cases c : b < k
        · rw [if_pos c, if_pos (by omega)]
        · rw [if_neg c, if_neg (by omega)]
    · rw [wstI]
      split
      · rw [List.length_set, hl]
      · exact hl
theorem wstI_all {m : Nat} (T : List Nat) : (List.range T.length).foldl (wstI m) T = wst T m := by
  obtain ⟨h, hl⟩ := wstI_row (m := m) T.length T (Nat.le_refl _)
  refine list_gL (by rw [hl]; simp [wst]) fun b hb => ?_
  rw [h, if_pos (by omega)]
/-! ### knots, sources, the numbers of the blocks that reach a block -/
def kn (n : Nat) (ls : List Lk) (b : Nat) : Bool := decide (1 < ((List.range n).filter fun o => R n ls b o && R n ls o b).length)
/-- the sources of the lines that write on b -/
def wr (ls : List Lk) (b : Nat) : List Nat := (ls.filter fun l => l.1 == b).map (·.2)
def rk (n : Nat) (ls : List Lk) (b : Nat) : Nat := ((List.range n).filter fun a => R n ls a b).length
theorem mem_wr {ls : List Lk} {b s : Nat} : s ∈ wr ls b ↔ (b, s) ∈ ls := by
  constructor
  · intro h
    obtain ⟨l, hm, e⟩ := List.mem_map.mp h
    obtain ⟨h1, h2⟩ := List.mem_filter.mp hm
    have : l = (b, s) := by rw [← e, ← beq_iff_eq.mp h2]
    rwa [← this]
  · intro h
    exact List.mem_map.mpr ⟨(b, s), List.mem_filter.mpr ⟨h, by simp⟩, rfl⟩
theorem wr_nil {ls : List Lk} {b : Nat} : wr ls b = [] ↔ ∀ l ∈ ls, l.1 ≠ b := by
  constructor
  · intro h l hl e
    have : l.2 ∈ wr ls b := mem_wr.mpr (by rw [← e]; exact hl)
    rw [h] at this
    cases this
  · intro h
    cases e : wr ls b with
    | nil => rfl
    | cons s r =>
      have : s ∈ wr ls b := by rw [e]; exact List.mem_cons_self
      exact absurd rfl (h _ (mem_wr.mp this))
theorem nodup_one {α : Type} [DecidableEq α] {b : α} : ∀ {l : List α}, l.Nodup → 1 < l.length → ∃ o ∈ l, o ≠ b := by
  intro l hn hl
  match l, hn, hl with
  | x :: y :: r, hn, _ =>
    have hxy : x ≠ y := (List.nodup_cons.mp hn).1 |> fun h e => h (by rw [e]; exact List.mem_cons_self)
    by_cases e : x = b
    · exact ⟨y, List.mem_cons_of_mem _ List.mem_cons_self, fun z => hxy (e.trans z.symm)⟩
    · exact ⟨x, List.mem_cons_self, e⟩
theorem two_len {α : Type} [DecidableEq α] {a b : α} {l : List α} (ha : a ∈ l) (hb : b ∈ l) (h : a ≠ b) : 1 < l.length := by
  match l, ha, hb with
  | [x], ha, hb => exact absurd ((List.mem_singleton.mp ha).trans (List.mem_singleton.mp hb).symm) h
  | x :: y :: r, _, _ => simp
theorem kn_iff {n : Nat} {ls : List Lk} (ho : Okl n ls) {b : Nat} (hb : b < n) : kn n ls b = true ↔ ∃ o, o ≠ b ∧ R n ls b o = true ∧ R n ls o b = true := by
  rw [kn, decide_eq_true_eq]
  constructor
  · intro h
    obtain ⟨o, hm, hne⟩ := nodup_one (b := b) (List.nodup_range.filter _) h
    obtain ⟨_, h2⟩ := List.mem_filter.mp hm
    obtain ⟨h3, h4⟩ := Bool.and_eq_true_iff.mp h2
    exact ⟨o, hne, h3, h4⟩
  · rintro ⟨o, hne, h1, h2⟩
    refine two_len (a := o) (b := b) ?_ ?_ hne
    · exact List.mem_filter.mpr ⟨List.mem_range.mpr (R_lt ho h1).2, by rw [h1, h2]; rfl⟩
    · exact List.mem_filter.mpr ⟨List.mem_range.mpr hb, by rw [R_refl ho hb]; rfl⟩
theorem rk_pos {n : Nat} {ls : List Lk} (ho : Okl n ls) {b : Nat} (hb : b < n) : 0 < rk n ls b := by
  have h : b ∈ (List.range n).filter fun a => R n ls a b := List.mem_filter.mpr ⟨List.mem_range.mpr hb, R_refl ho hb⟩
  cases e : (List.range n).filter fun a => R n ls a b with
  | nil => rw [e] at h; cases h
  | cons x r => rw [rk, e]; simp
theorem rk_le (n : Nat) (ls : List Lk) (b : Nat) : rk n ls b ≤ n := by
  have h := List.length_filter_le (fun a => R n ls a b) (List.range n)
  rw [List.length_range] at h
  exact h
theorem rk_lt {n : Nat} {ls : List Lk} (ho : Okl n ls) {b s : Nat} (hs : s ∈ wr ls b) (hk : kn n ls b = false) : rk n ls s < rk n ls b := by
  have hm := mem_wr.mp hs
  obtain ⟨h1, h2, h3⟩ := ho _ hm
  refine filter_lt _ (fun a _ q => R_trans h2 q (R_link ho hm)) ⟨b, List.mem_range.mpr h1, R_refl ho h1, ?_⟩
  cases e : R n ls b s with
  | false => rfl
  | true =>
    have : kn n ls b = true := (kn_iff ho h1).mpr ⟨s, fun z => h3 z.symm, e, R_link ho hm⟩
    rw [hk] at this
    cases this
/-! ### settled numbers -/
/-- the number of a lot with one number, or -2 -/
def sing (n m : Nat) : Int := match (List.range n).find? fun v => m == 2 ^ v with
  | some v => (v : Int)
  | none => -2
theorem sing_pow {n v : Nat} (h : v < n) : sing n (2 ^ v) = (v : Int) := by
  have : (List.range n).find? (fun w => 2 ^ v == 2 ^ w) = some v := by
    cases e : (List.range n).find? (fun w => 2 ^ v == 2 ^ w) with
    | none =>
      have q := List.find?_eq_none.mp e v (List.mem_range.mpr h)
      simp at q
    | some w =>
      have q := List.find?_some e
      have q2 : 2 ^ v = 2 ^ w := beq_iff_eq.mp q
      have q3 : (2 ^ v).testBit w = true := by rw [q2]; simp
      rw [Nat.testBit_two_pow] at q3
      rw [of_decide_eq_true q3]
  rw [sing, this]
theorem sing_some {n m v : Nat} (h : sing n m = (v : Int)) : m = 2 ^ v ∧ v < n := by
  unfold sing at h
  cases e : (List.range n).find? (fun w => m == 2 ^ w) with
  | none => rw [e] at h; exact absurd h (by simp only; omega)
  | some w =>
    rw [e] at h
    have hw : w = v := by simp only at h; omega
    subst hw
    exact ⟨beq_iff_eq.mp (List.find?_some (p := fun w => m == 2 ^ w) e), List.mem_range.mp (List.mem_of_find?_eq_some e)⟩
theorem sing_cases (n m : Nat) : sing n m = -2 ∨ ∃ v, sing n m = ((v : Nat) : Int) := by
  unfold sing
  cases (List.range n).find? (fun w => m == 2 ^ w) with
  | none => exact .inl rfl
  | some v => exact .inr ⟨v, rfl⟩
/-- the number that all entries are, or -2 -/
def common : List Int → Int
  | [] => -2
  | x :: r => if (x :: r).all (· == x) then x else -2
theorem common_all {xs : List Int} {x : Int} (hne : xs ≠ []) (h : ∀ y ∈ xs, y = x) : common xs = x := by
  cases xs with
  | nil => exact absurd rfl hne
  | cons y r =>
    have e := h y List.mem_cons_self
    subst e
    rw [common, if_pos (List.all_eq_true.mpr fun z hz => beq_iff_eq.mpr (h z hz))]
theorem common_ne {xs : List Int} (h : common xs ≠ -2) : ∀ y ∈ xs, y = common xs := by
  cases xs with
  | nil => exact absurd rfl h
  | cons x r =>
    rw [common] at h ⊢
    by_cases c : (x :: r).all (· == x) = true
    · rw [if_pos c]
      exact fun y hy => beq_iff_eq.mp (List.all_eq_true.mp c y hy)
    · rw [if_neg c] at h
      exact absurd rfl h
theorem common_congr {xs ys : List Int} (h : ∀ x, x ∈ xs ↔ x ∈ ys) : common xs = common ys := by
  by_cases c : common xs = -2
  · by_cases d : common ys = -2
    · rw [c, d]
    · have q := common_ne d
      by_cases e : xs = []
      · subst e
        cases ys with
        | nil => rfl
        | cons y r => exact absurd ((h y).mpr List.mem_cons_self) (by simp)
      · exact common_all e fun x hx => q x ((h x).mp hx)
  · have q := common_ne c
    have e : ys ≠ [] := by
      rintro rfl
      cases xs with
      | nil => exact c rfl
      | cons x r => exact absurd ((h x).mp List.mem_cons_self) (by simp)
    exact (common_all e fun y hy => q y ((h y).mpr hy)).symm
def svF (n : Nat) (ls : List Lk) (L : List Nat) : Nat → Nat → Int
  | 0, _ => -2
  | k + 1, b => if kn n ls b then sing n (gL L b) else if wr ls b = [] then (b : Int) else common ((wr ls b).map (svF n ls L k))
def sv (n : Nat) (ls : List Lk) (L : List Nat) : List Int := (List.range n).map (svF n ls L n)
def gI (f : List Int) (b : Nat) : Int := f.getD b 0
theorem len_sv (n : Nat) (ls : List Lk) (L : List Nat) : (sv n ls L).length = n := by simp [sv]
theorem gI_sv {n : Nat} {ls : List Lk} {L : List Nat} {b : Nat} (h : b < n) : gI (sv n ls L) b = svF n ls L n b := by
  simp [gI, sv, List.getD_eq_getElem?_getD, h]
/-- what the settled numbers are said to be -/
def Sets (n : Nat) (ls : List Lk) (L : List Nat) (f : Nat → Int) : Prop :=
  ∀ b, b < n → f b = if kn n ls b then sing n (gL L b) else if wr ls b = [] then (b : Int) else common ((wr ls b).map f)
theorem svF_stable {n : Nat} {ls : List Lk} {L : List Nat} (ho : Okl n ls) : ∀ (k b : Nat), b < n → rk n ls b ≤ k → svF n ls L k b = svF n ls L (k + 1) b
  | 0, b, hb, h => absurd (rk_pos ho hb) (by omega)
  | k + 1, b, hb, h => by
    rw [svF, svF]
    cases e : kn n ls b with
    | true => rfl
    | false =>
      rw [if_neg Bool.false_ne_true, if_neg Bool.false_ne_true]
      by_cases c : wr ls b = []
      · rw [if_pos c, if_pos c]
      · rw [if_neg c, if_neg c]
        congr 1
        refine List.map_congr_left fun s hs => ?_
        have h1 := rk_lt ho hs e
        exact svF_stable ho k s (ho _ (mem_wr.mp hs)).2.1 (by omega)
theorem sets_sv {n : Nat} {ls : List Lk} {L : List Nat} (ho : Okl n ls) : Sets n ls L (gI (sv n ls L)) := by
  intro b hb
  rw [gI_sv hb, svF_stable ho n b hb (rk_le n ls b), svF]
  cases e : kn n ls b with
  | true => rfl
  | false =>
    rw [if_neg Bool.false_ne_true, if_neg Bool.false_ne_true]
    by_cases c : wr ls b = []
    · rw [if_pos c, if_pos c]
    · rw [if_neg c, if_neg c]
      congr 1
      exact List.map_congr_left fun s hs => (gI_sv (ho _ (mem_wr.mp hs)).2.1).symm
theorem sets_unique {n : Nat} {ls : List Lk} {L : List Nat} {f g : Nat → Int} (ho : Okl n ls) (hf : Sets n ls L f) (hg : Sets n ls L g) : ∀ b, b < n → f b = g b := by
  have key : ∀ (k b : Nat), b < n → rk n ls b ≤ k → f b = g b := by
    intro k
    induction k with
    | zero => intro b hb h; exact absurd (rk_pos ho hb) (by omega)
    | succ k ih =>
      intro b hb h
      rw [hf b hb, hg b hb]
      cases e : kn n ls b with
      | true => rfl
      | false =>
        rw [if_neg Bool.false_ne_true, if_neg Bool.false_ne_true]
        by_cases c : wr ls b = []
        · rw [if_pos c, if_pos c]
        · rw [if_neg c, if_neg c]
          congr 1
          refine List.map_congr_left fun s hs => ?_
          have h1 := rk_lt ho hs e
          exact ih s (ho _ (mem_wr.mp hs)).2.1 (by omega)
  exact fun b hb => key n b hb (rk_le n ls b)
theorem sv_of_sets {n : Nat} {ls : List Lk} {L : List Nat} {f : List Int} (ho : Okl n ls) (hl : f.length = n) (h : Sets n ls L (gI f)) : f = sv n ls L := by
  refine List.ext_getElem (by rw [hl, len_sv]) fun b h1 h2 => ?_
  have q := sets_unique ho h (sets_sv ho) b (by omega)
  simpa [gI, List.getD_eq_getElem?_getD, h1, h2] using q
end Rd
/-! ## RdMath3 -/
/-! # The plain law, part 3: the states that own lines lead to, the fewest lines. -/
namespace Rd
/-- how many lots have several numbers -/
def ns (n : Nat) (L : List Nat) : Nat := (L.filter fun m => sing n m == -2).length
/-- the lots that late lines of a log leave -/
structure Root (n : Nat) (ls : List Lk) (L0 : List Nat) : Prop where
  ok : Okl n ls
  good : Good n L0
  cl : Cl ls L0
  own : ∀ b, b < n → wr ls b = [] → gL L0 b = 2 ^ b
theorem Root.late {n : Nat} {ls : List Lk} (ho : Okl n ls) : Root n ls (late n ls) :=
  ⟨ho, Good.late ho, late_cl ho, fun b hb h => late_keep hb (wr_nil.mp h)⟩
/-- a state behind some own lines -/
structure St (n : Nat) (ls : List Lk) (L0 L : List Nat) : Prop where
  good : Good n L
  cl : Cl ls L
  fix : ∀ b, b < n → kn n ls b = true ∨ wr ls b = [] → gL L b = gL L0 b
theorem Root.st {n : Nat} {ls : List Lk} {L0 : List Nat} (r : Root n ls L0) : St n ls L0 L0 := ⟨r.good, r.cl, fun _ _ _ => rfl⟩
theorem R_last {n : Nat} {ls : List Lk} (ho : Okl n ls) {a b : Nat} (h : R n ls a b = true) : a = b ∨ ∃ s ∈ wr ls b, R n ls a s = true := by
  have q := R_min ho (S := fun a b => (R n ls a b = true ∧ b < n) ∧ (a = b ∨ ∃ s ∈ wr ls b, R n ls a s = true)) (fun a h => ⟨⟨R_refl ho h, h⟩, .inl rfl⟩)
    (fun l hl => ⟨⟨R_link ho hl, (ho l hl).1⟩, .inr ⟨l.2, mem_wr.mpr hl, R_refl ho (ho l hl).2.1⟩⟩)
    (fun a b c x y => ⟨⟨R_trans x.1.2 x.1.1 y.1.1, y.1.2⟩, by
      rcases y.2 with e | ⟨s, hs, q⟩
      · subst e
        exact x.2
      · exact .inr ⟨s, hs, R_trans x.1.2 x.1.1 q⟩⟩) h
  exact q.2
theorem knot_uni {n : Nat} {ls : List Lk} {L : List Nat} (ho : Okl n ls) (hc : Cl ls L) {b : Nat} (hb : b < n) (hk : kn n ls b = true) : uni ls L b = gL L b := by
  apply Nat.eq_of_testBit_eq
  intro v
  refine Bool.eq_iff_iff.mpr ⟨fun h => ?_, fun h => ?_⟩
  · obtain ⟨l, hl, e, q⟩ := bit_uni.mp h
    have z := hc l hl v q
    rw [e] at z
    exact z
  · obtain ⟨o, hne, h1, h2⟩ := (kn_iff ho hb).mp hk
    rcases R_last ho h2 with e | ⟨s, hs, q⟩
    · exact absurd e hne
    · have hbs : R n ls b s = true := R_trans (R_lt ho h1).2 h1 q
      exact bit_uni.mpr ⟨(b, s), mem_wr.mp hs, rfl, R_lot ho hc hbs v h⟩
theorem St.app {n : Nat} {ls : List Lk} {L0 L : List Nat} {l : Lk} (ho : Okl n ls) (s : St n ls L0 L) (hl : l ∈ ls) : St n ls L0 (app n ls L l) := by
  refine ⟨s.good.app ho hl, clo_cl ho (by simp [s.good.len]), fun b hb h => ?_⟩
  rw [app_eq ho s.good.len s.cl hl]
  by_cases e : b = l.1
  · subst e
    rw [gL_set_self (by rw [s.good.len]; exact hb)]
    rcases h with h | h
    · rw [knot_uni ho s.cl hb h]
      exact s.fix _ hb (.inl h)
    · exact absurd rfl (wr_nil.mp h l hl)
  · rw [gL_set_ne e]
    exact s.fix b hb h
theorem filter_set {α : Type} (p : α → Bool) (d : α) : ∀ (l : List α) (i : Nat) (x : α), i < l.length → ((l.set i x).filter p).length + (if p (l.getD i d) then 1 else 0) = (l.filter p).length + (if p x then 1 else 0) := by
  intro l
  induction l with
  | nil => intro i x h; cases h
  | cons y l ih =>
    intro i x h
    cases i with
    | zero =>
      show ((x :: l).filter p).length + (if p y then 1 else 0) = _
      rw [List.filter_cons, List.filter_cons]
      cases p x <;> cases p y <;> simp
    | succ i =>
      have q := ih i x (by simpa using h)
      have e : (y :: l).getD (i + 1) d = l.getD i d := by simp [List.getD_eq_getElem?_getD]
      rw [e, List.set_cons_succ, List.filter_cons, List.filter_cons]
      cases p y with
      | true =>
        simp only [if_true, List.length_cons] at q ⊢
        omega
      | false =>
        simp only [Bool.false_eq_true, if_false]
        exact q
theorem ns_set {n : Nat} {L : List Nat} {t x : Nat} (h : t < L.length) : ns n (L.set t x) + (if sing n (gL L t) == -2 then 1 else 0) = ns n L + (if sing n x == -2 then 1 else 0) := by
  have q := filter_set (fun m => sing n m == -2) 0 L t x h
  exact q
theorem ns_app {n : Nat} {ls : List Lk} {L0 L : List Nat} {l : Lk} (ho : Okl n ls) (s : St n ls L0 L) (hl : l ∈ ls) : ns n L ≤ ns n (app n ls L l) + 1 := by
  have q := ns_set (n := n) (L := L) (t := l.1) (x := uni ls L l.1) (by rw [s.good.len]; exact (ho l hl).1)
  rw [app_eq ho s.good.len s.cl hl]
  revert q
  cases (sing n (gL L l.1) == -2) <;> cases (sing n (uni ls L l.1) == -2) <;> simp <;> omega
theorem ns_zero {n : Nat} {L : List Nat} (h : ns n L = 0) {b : Nat} (hb : b < L.length) : sing n (gL L b) ≠ -2 := by
  intro e
  have hm : gL L b ∈ L.filter fun m => sing n m == -2 := List.mem_filter.mpr ⟨by rw [gL_eq hb]; exact List.getElem_mem hb, beq_iff_eq.mpr e⟩
  rw [List.eq_nil_of_length_eq_zero h] at hm
  cases hm
theorem ns_of_all {n : Nat} {L : List Nat} (h : ∀ b, b < L.length → sing n (gL L b) ≠ -2) : ns n L = 0 := by
  have e : (L.filter fun m => sing n m == -2) = [] := by
    rw [List.filter_eq_nil_iff]
    intro m hm q
    obtain ⟨i, hi, e⟩ := List.getElem_of_mem hm
    have z := h i hi
    rw [gL_eq hi, e] at z
    exact z (beq_iff_eq.mp q)
  rw [ns, e]
  rfl
/-- a lot with one number -/
theorem sing_ne {n m : Nat} (h : sing n m ≠ -2) : ∃ v, sing n m = ((v : Nat) : Int) ∧ m = 2 ^ v ∧ v < n := by
  rcases sing_cases n m with e | ⟨v, e⟩
  · exact absurd e h
  · exact ⟨v, e, sing_some e⟩
theorem bits_pow {m v : Nat} (h : ∀ u, m.testBit u = true ↔ u = v) : m = 2 ^ v := by
  apply Nat.eq_of_testBit_eq
  intro u
  rw [Nat.testBit_two_pow]
  refine Bool.eq_iff_iff.mpr ?_
  rw [h u, decide_eq_true_eq]
  exact ⟨fun e => e.symm, fun e => e.symm⟩
/-- a lot with one number holds the settled number -/
theorem single_val {n : Nat} {ls : List Lk} {L0 L : List Nat} (r : Root n ls L0) (s : St n ls L0 L) : ∀ b, b < n → sing n (gL L b) ≠ -2 → gI (sv n ls L0) b = sing n (gL L b) := by
  have ho := r.ok
  have key : ∀ (k b : Nat), b < n → rk n ls b ≤ k → sing n (gL L b) ≠ -2 → gI (sv n ls L0) b = sing n (gL L b) := by
    intro k
    induction k with
    | zero => intro b hb h; exact absurd (rk_pos ho hb) (by omega)
    | succ k ih =>
      intro b hb h hs
      rw [sets_sv ho b hb]
      cases e : kn n ls b with
      | true => rw [if_pos rfl, s.fix b hb (.inl e)]
      | false =>
        rw [if_neg Bool.false_ne_true]
        by_cases c : wr ls b = []
        · rw [if_pos c, s.fix b hb (.inr c), r.own b hb c, sing_pow hb]
        · rw [if_neg c]
          obtain ⟨w, e1, e2, hw⟩ := sing_ne hs
          refine common_all (fun z => c (List.map_eq_nil_iff.mp z)) fun y hy => ?_
          obtain ⟨u, hu, rfl⟩ := List.mem_map.mp hy
          have hm := mem_wr.mp hu
          have hun := (ho _ hm).2.1
          have sub : ∀ v, bit L u v = true → v = w := fun v q => by
            have z := s.cl _ hm v q
            have z2 : (gL L b).testBit v = true := z
            rw [e2, Nat.testBit_two_pow] at z2
            exact (of_decide_eq_true z2).symm
          have e3 : gL L u = 2 ^ w := bits_pow fun v => ⟨sub v, fun z => by
            obtain ⟨x, hx⟩ := s.good.some u hun
            rw [z, ← sub x hx]
            exact hx⟩
          have e4 : sing n (gL L u) = (w : Int) := by rw [e3, sing_pow hw]
          rw [ih u hun (by have := rk_lt ho hu e; omega) (by rw [e4]; omega), e4, e1]
  exact fun b hb => key n b hb (rk_le n ls b)
/-- if own lines make all lots single, each block has a settled number -/
theorem settled_of_zero {n : Nat} {ls : List Lk} {L0 L : List Nat} (r : Root n ls L0) (s : St n ls L0 L) (h : ns n L = 0) : ∀ b, b < n → gI (sv n ls L0) b ≠ -2 := fun b hb => by
  have q := ns_zero h (b := b) (by rw [s.good.len]; exact hb)
  rw [single_val r s b hb q]
  exact q
/-- one more own line, behind those of its sources -/
theorem uni_one {n : Nat} {ls : List Lk} {L0 L : List Nat} (r : Root n ls L0) (s : St n ls L0 L) {b : Nat} (hb : b < n) (hv : gI (sv n ls L0) b ≠ -2) (hm : sing n (gL L b) = -2) (hs : ∀ u ∈ wr ls b, sing n (gL L u) ≠ -2) :
    kn n ls b = false ∧ wr ls b ≠ [] ∧ ∃ w, w < n ∧ gI (sv n ls L0) b = ((w : Nat) : Int) ∧ uni ls L b = 2 ^ w := by
  have ho := r.ok
  have hv' := hv
  rw [sets_sv ho b hb] at hv'
  cases e : kn n ls b with
  | true =>
    rw [e, if_pos rfl, ← s.fix b hb (.inl e)] at hv'
    exact absurd hm hv'
  | false =>
    rw [e, if_neg Bool.false_ne_true] at hv'
    by_cases c : wr ls b = []
    · rw [s.fix b hb (.inr c), r.own b hb c, sing_pow hb] at hm
      omega
    · rw [if_neg c] at hv'
      have hall := common_ne hv'
      have eb : gI (sv n ls L0) b = common ((wr ls b).map (gI (sv n ls L0))) := by
        rw [sets_sv ho b hb, e, if_neg Bool.false_ne_true, if_neg c]
      obtain ⟨u0, hu0⟩ : ∃ u, u ∈ wr ls b := by
        cases q : wr ls b with
        | nil => exact absurd q c
        | cons x r => exact ⟨x, List.mem_cons_self⟩
      have hun : ∀ u ∈ wr ls b, u < n := fun u hu => (ho _ (mem_wr.mp hu)).2.1
      obtain ⟨w, e1, e2, hw⟩ := sing_ne (hs u0 hu0)
      have val : ∀ u ∈ wr ls b, gI (sv n ls L0) u = gI (sv n ls L0) b := fun u hu => by
        rw [eb]
        exact hall _ (List.mem_map.mpr ⟨u, hu, rfl⟩)
      have ew : gI (sv n ls L0) b = (w : Int) := by
        rw [← val u0 hu0, single_val r s u0 (hun u0 hu0) (hs u0 hu0), e1]
      have one : ∀ u ∈ wr ls b, gL L u = 2 ^ w := fun u hu => by
        have q := single_val r s u (hun u hu) (hs u hu)
        rw [val u hu, ew] at q
        exact (sing_some q.symm).1
      refine ⟨rfl, c, w, hw, ew, bits_pow fun v => ?_⟩
      rw [bit_uni]
      constructor
      · rintro ⟨l, hl, h1, h2⟩
        have hu : l.2 ∈ wr ls b := mem_wr.mpr (by rw [← h1]; exact hl)
        rw [bit, one _ hu, Nat.testBit_two_pow] at h2
        exact (of_decide_eq_true h2).symm
      · intro z
        refine ⟨(b, u0), mem_wr.mp hu0, rfl, ?_⟩
        rw [bit, one u0 hu0, Nat.testBit_two_pow, z]
        simp
/-! ### the list of lines -/
/-- the blocks in an order in which each has its sources first -/
structure Ord (n : Nat) (ls : List Lk) (od : List Nat) : Prop where
  mem : ∀ b, b ∈ od ↔ b < n
  nodup : od.Nodup
  asc : od.Pairwise fun a b => rk n ls a ≤ rk n ls b
def multi (n : Nat) (L : List Nat) (b : Nat) : Bool := sing n (gL L b) == -2
theorem fold_reps {n : Nat} {ls : List Lk} {L0 : List Nat} {od : List Nat} {lw : Nat → Lk} (r : Root n ls L0) (hv : ∀ b, b < n → gI (sv n ls L0) b ≠ -2) (o : Ord n ls od) (hlw : ∀ b, b < n → wr ls b ≠ [] → lw b ∈ ls ∧ (lw b).1 = b) :
    ∀ (post pre : List Nat) (L : List Nat), od = pre ++ post → St n ls L0 L → (∀ b ∈ pre, sing n (gL L b) ≠ -2) → (∀ b ∈ post, gL L b = gL L0 b) →
      (∀ l ∈ (post.filter (multi n L0)).map lw, l ∈ ls) ∧ St n ls L0 (((post.filter (multi n L0)).map lw).foldl (app n ls) L) ∧ ∀ b ∈ od, sing n (gL (((post.filter (multi n L0)).map lw).foldl (app n ls) L) b) ≠ -2 := by
  have ho := r.ok
  intro post
  induction post with
  | nil =>
    intro pre L e s h1 _
    refine ⟨(by simp), s, fun b hb => h1 b ?_⟩
    rw [e, List.append_nil] at hb
    exact hb
  | cons b post ih =>
    intro pre L e s h1 h2
    have hb : b < n := (o.mem b).mp (by rw [e]; exact List.mem_append_right _ List.mem_cons_self)
    have e' : od = (pre ++ [b]) ++ post := by rw [e, List.append_assoc]; rfl
    have hnd := o.nodup
    rw [e] at hnd
    have hbpost : b ∉ post := (List.nodup_cons.mp (List.nodup_append.mp hnd).2.1).1
    have hbpre : b ∉ pre := fun z => (List.nodup_append.mp hnd).2.2 b z b List.mem_cons_self rfl
    cases hm : multi n L0 b with
    | false =>
      rw [List.filter_cons_of_neg (by simp [hm])]
      refine ih (pre ++ [b]) L e' s (fun c hc => ?_) (fun c hc => h2 c (List.mem_cons_of_mem _ hc))
      rcases List.mem_append.mp hc with hc | hc
      · exact h1 c hc
      · rw [List.mem_singleton.mp hc, h2 b List.mem_cons_self]
        intro z
        rw [multi, z] at hm
        simp at hm
    | true =>
      rw [List.filter_cons_of_pos hm, List.map_cons, List.foldl_cons]
      have hsb : sing n (gL L b) = -2 := by
        rw [h2 b List.mem_cons_self]
        exact beq_iff_eq.mp hm
      have hkn : kn n ls b = false := by
        cases q : kn n ls b with
        | false => rfl
        | true =>
          have z := hv b hb
          rw [sets_sv ho b hb, q, if_pos rfl, ← s.fix b hb (.inl q)] at z
          exact absurd hsb z
      have src : ∀ u ∈ wr ls b, sing n (gL L u) ≠ -2 := fun u hu => by
        have hlt := rk_lt ho hu hkn
        have hun := (ho _ (mem_wr.mp hu)).2.1
        have hmem := (o.mem u).mpr hun
        rw [e] at hmem
        rcases List.mem_append.mp hmem with q | q
        · exact h1 u q
        · have hpw := o.asc
          rw [e] at hpw
          have hpw2 := (List.pairwise_append.mp hpw).2.1
          rcases List.mem_cons.mp q with q | q
          · rw [q] at hlt
            omega
          · have := (List.pairwise_cons.mp hpw2).1 u q
            omega
      obtain ⟨_, hw, w, hwn, ew, eu⟩ := uni_one r s hb (hv b hb) hsb src
      obtain ⟨hl1, hl2⟩ := hlw b hb hw
      have ea : app n ls L (lw b) = L.set b (2 ^ w) := by rw [app_eq ho s.good.len s.cl hl1, hl2, eu]
      have p1 : ∀ c ∈ pre ++ [b], sing n (gL (app n ls L (lw b)) c) ≠ -2 := fun c hc => by
        rw [ea]
        rcases List.mem_append.mp hc with hc | hc
        · have hcb : c ≠ b := fun z => hbpre (by rw [← z]; exact hc)
          rw [gL_set_ne hcb]
          exact h1 c hc
        · rw [List.mem_singleton.mp hc, gL_set_self (by rw [s.good.len]; exact hb), sing_pow hwn]
          omega
      have p2 : ∀ c ∈ post, gL (app n ls L (lw b)) c = gL L0 c := fun c hc => by
        have hcb : c ≠ b := fun z => hbpost (by rw [← z]; exact hc)
        rw [ea, gL_set_ne hcb]
        exact h2 c (List.mem_cons_of_mem _ hc)
      obtain ⟨i1, i2, i3⟩ := ih (pre ++ [b]) (app n ls L (lw b)) e' (s.app ho hl1) p1 p2
      exact ⟨fun l hl => (List.mem_cons.mp hl).elim (fun z => by rw [z]; exact hl1) (i1 l), i2, i3⟩
/-- the lines that `repeats` tells make all lots single, and these hold the settled numbers -/
theorem reps_ok {n : Nat} {ls : List Lk} {L0 : List Nat} {od : List Nat} {lw : Nat → Lk} (r : Root n ls L0) (hv : ∀ b, b < n → gI (sv n ls L0) b ≠ -2) (o : Ord n ls od) (hlw : ∀ b, b < n → wr ls b ≠ [] → lw b ∈ ls ∧ (lw b).1 = b) :
    (∀ l ∈ (od.filter (multi n L0)).map lw, l ∈ ls) ∧ St n ls L0 (((od.filter (multi n L0)).map lw).foldl (app n ls) L0) ∧
      ∀ b, b < n → sing n (gL (((od.filter (multi n L0)).map lw).foldl (app n ls) L0) b) = gI (sv n ls L0) b := by
  obtain ⟨h1, h2, h3⟩ := fold_reps r hv o hlw od [] L0 rfl r.st (fun _ h => nomatch h) (fun _ _ => rfl)
  refine ⟨h1, h2, fun b hb => ?_⟩
  have q := h3 b ((o.mem b).mpr hb)
  exact (single_val r h2 b hb q).symm
theorem filter_len_perm {α : Type} {p : α → Bool} {l m : List α} (h : l.Perm m) : (l.filter p).length = (m.filter p).length := (h.filter p).length_eq
theorem perm_of_ord {n : Nat} {ls : List Lk} {od : List Nat} (o : Ord n ls od) : od.Perm (List.range n) := by
  refine (List.perm_ext_iff_of_nodup o.nodup List.nodup_range).mpr fun b => ?_
  rw [o.mem b, List.mem_range]
theorem ns_range {n : Nat} {L : List Nat} (hl : L.length = n) : ns n L = ((List.range n).filter (multi n L)).length := by
  have e : L = (List.range n).map (gL L) := by
    refine List.ext_getElem (by simp [hl]) fun i h1 h2 => ?_
    simp [gL_eq h1]
  conv => lhs; rw [ns, e]
  rw [List.filter_map, List.length_map]
  rfl
theorem reps_len {n : Nat} {ls : List Lk} {L0 : List Nat} {od : List Nat} (r : Root n ls L0) (o : Ord n ls od) : (od.filter (multi n L0)).length = ns n L0 := by
  rw [ns_range r.good.len]
  exact filter_len_perm (perm_of_ord o)
end Rd
/-! ## RdMath4 -/
/-! # The plain law, part 4: the longer log, the search for the fewest lines, all runs. -/
namespace Rd
/-! ### the longer log -/
def masks (f : List Int) : List Nat := f.map fun v => 2 ^ v.toNat
theorem kn_congr {n : Nat} {ls ms : List Lk} (ho : Okl n ls) (h : ∀ l, l ∈ ls ↔ l ∈ ms) (b : Nat) : kn n ls b = kn n ms b := by
  have e : (fun o => R n ls b o && R n ls o b) = fun o => R n ms b o && R n ms o b := by
    funext o
    rw [R_congr ho h, R_congr ho h]
  rw [kn, kn, e]
theorem gL_masks {f : List Int} {b : Nat} (h : b < f.length) : gL (masks f) b = 2 ^ (gI f b).toNat := by
  rw [gL_eq (by simp [masks, h])]
  simp [masks, gI, List.getD_eq_getElem?_getD, h]
structure Longer (n : Nat) (ls ls2 : List Lk) : Prop where
  ok : Okl n ls2
  lots : late n ls2 = masks (sv n ls (late n ls))
  set : sv n ls2 (late n ls2) = sv n ls (late n ls)
  zero : ns n (late n ls2) = 0
  nat : ∀ b, b < n → ∃ w : Nat, w < n ∧ gI (sv n ls (late n ls)) b = (w : Int)
theorem longer_ok {n : Nat} {ls : List Lk} {od : List Nat} {lw : Nat → Lk} (ho : Okl n ls) (hv : ∀ b, b < n → gI (sv n ls (late n ls)) b ≠ -2) (o : Ord n ls od) (hlw : ∀ b, b < n → wr ls b ≠ [] → lw b ∈ ls ∧ (lw b).1 = b) :
    Longer n ls (ls ++ (od.filter (multi n (late n ls))).map lw) := by
  have r := Root.late ho
  obtain ⟨h1, h2, h3⟩ := reps_ok r hv o hlw
  have hmem : ∀ l, l ∈ ls ↔ l ∈ ls ++ (od.filter (multi n (late n ls))).map lw := fun l => ⟨List.mem_append_left _, fun h => (List.mem_append.mp h).elim id (h1 l)⟩
  have ho2 : Okl n (ls ++ (od.filter (multi n (late n ls))).map lw) := fun l hl => ho l ((hmem l).mpr hl)
  have el := late_more ho _ h1
  have one : ∀ b, b < n → ∃ w : Nat, w < n ∧ gI (sv n ls (late n ls)) b = (w : Int) ∧ gL (late n (ls ++ (od.filter (multi n (late n ls))).map lw)) b = 2 ^ w := fun b hb => by
    have q := h3 b hb
    obtain ⟨w, e1, e2, hw⟩ := sing_ne (n := n) (m := gL (((od.filter (multi n (late n ls))).map lw).foldl (app n ls) (late n ls)) b) (by rw [q]; exact hv b hb)
    exact ⟨w, hw, by rw [← q, e1], by rw [el, e2]⟩
  have lots : late n (ls ++ (od.filter (multi n (late n ls))).map lw) = masks (sv n ls (late n ls)) := by
    refine list_gL (by rw [len_late, masks, List.length_map, len_sv]) fun b hb => ?_
    rw [len_late] at hb
    obtain ⟨w, _, e1, e2⟩ := one b hb
    rw [gL_masks (by rw [len_sv]; exact hb), e1, e2]
    rfl
  refine ⟨ho2, lots, ?_, ?_, fun b hb => let ⟨w, h1, h2, _⟩ := one b hb; ⟨w, h1, h2⟩⟩
  · refine (sv_of_sets ho2 (len_sv _ _ _) fun b hb => ?_).symm
    rw [← kn_congr ho hmem]
    cases e : kn n ls b with
    | true =>
      obtain ⟨w, hw, e1, e2⟩ := one b hb
      rw [if_pos rfl, e2, sing_pow hw, e1]
    | false =>
      rw [if_neg Bool.false_ne_true, sets_sv ho b hb, e, if_neg Bool.false_ne_true]
      have hwr : wr ls b = [] ↔ wr (ls ++ (od.filter (multi n (late n ls))).map lw) b = [] := by
        rw [wr_nil, wr_nil]
        exact ⟨fun h l hl => h l ((hmem l).mpr hl), fun h l hl => h l ((hmem l).mp hl)⟩
      by_cases c : wr ls b = []
      · rw [if_pos c, if_pos (hwr.mp c)]
      · rw [if_neg c, if_neg fun z => c (hwr.mpr z)]
        refine common_congr fun x => ?_
        rw [List.mem_map, List.mem_map]
        constructor
        · rintro ⟨u, hu, e⟩
          exact ⟨u, mem_wr.mpr ((hmem _).mp (mem_wr.mp hu)), e⟩
        · rintro ⟨u, hu, e⟩
          exact ⟨u, mem_wr.mpr ((hmem _).mpr (mem_wr.mp hu)), e⟩
  · refine ns_of_all fun b hb => ?_
    rw [len_late] at hb
    obtain ⟨w, hw, e1, e2⟩ := one b hb
    rw [e2, sing_pow hw]
    omega
/-! ### an order and lines -/
def ordOf (n : Nat) (ls : List Lk) : List Nat := (List.range n).mergeSort fun a b => decide (rk n ls a ≤ rk n ls b)
theorem ord_ok (n : Nat) (ls : List Lk) : Ord n ls (ordOf n ls) := by
  have p : (ordOf n ls).Perm (List.range n) := List.mergeSort_perm _ _
  refine ⟨fun b => by rw [p.mem_iff, List.mem_range], p.nodup_iff.mpr List.nodup_range, ?_⟩
  have q := List.pairwise_mergeSort (le := fun a b => decide (rk n ls a ≤ rk n ls b)) (fun a b c h1 h2 => by
    have h1 := of_decide_eq_true h1
    have h2 := of_decide_eq_true h2
    exact decide_eq_true (Nat.le_trans h1 h2)) (fun a b => by
    rcases Nat.le_total (rk n ls a) (rk n ls b) with h | h
    · rw [decide_eq_true h, Bool.true_or]
    · rw [decide_eq_true h, Bool.or_true]) (List.range n)
  exact q.imp fun h => of_decide_eq_true h
def lwOf (ls : List Lk) (b : Nat) : Lk := (b, (wr ls b).headD 0)
theorem lw_ok {ls : List Lk} {b : Nat} (h : wr ls b ≠ []) : lwOf ls b ∈ ls ∧ (lwOf ls b).1 = b := by
  refine ⟨mem_wr.mp ?_, rfl⟩
  cases e : wr ls b with
  | nil => exact absurd e h
  | cons x r => exact List.mem_cons_self
/-! ### the search -/
abbrev Rows := List (List Nat)
def bfsLink (n : Nat) (ls : List Lk) (row : List Nat) (p : Rows × Rows) (l : Lk) : Rows × Rows := if p.1.contains (app n ls row l) then p else (p.1 ++ [app n ls row l], p.2 ++ [app n ls row l])
def bfsRow (n : Nat) (ls : List Lk) (p : Rows × Rows) (row : List Nat) : Rows × Rows := ls.foldl (bfsLink n ls row) p
def bfsLevel (n : Nat) (ls : List Lk) (kn fr : Rows) : Rows × Rows := fr.foldl (bfsRow n ls) (kn, [])
def bfs (n : Nat) (ls : List Lk) : Nat → Rows → Rows → Nat → Int
  | 0, _, _, _ => -1
  | t + 1, kn, fr, c => if fr.any (fun r => ns n r == 0) then (c : Int) else bfs n ls t (bfsLevel n ls kn fr).1 (bfsLevel n ls kn fr).2 (c + 1)
def fewest (n : Nat) (ls : List Lk) (L0 : List Nat) : Int := bfs n ls (n * n + 1) [L0] [L0] 0
/-- what holds of the known rows: all differ, all are states; the later ones are the last of them -/
structure KnOk (n : Nat) (ls : List Lk) (L0 : List Nat) (kn0 : Rows) (p : Rows × Rows) : Prop where
  nodup : p.1.Nodup
  st : ∀ r ∈ p.1, St n ls L0 r
  eq : p.1 = kn0 ++ p.2
theorem KnOk.link {n : Nat} {ls : List Lk} {L0 : List Nat} {kn0 : Rows} {p : Rows × Rows} {row : List Nat} {l : Lk} (ho : Okl n ls) (k : KnOk n ls L0 kn0 p) (hr : St n ls L0 row) (hl : l ∈ ls) : KnOk n ls L0 kn0 (bfsLink n ls row p l) := by
  rw [bfsLink]
  by_cases c : p.1.contains (app n ls row l) = true
  · rw [if_pos c]
    exact k
  · rw [if_neg c]
    have hn : app n ls row l ∉ p.1 := fun z => c (List.contains_iff_mem.mpr z)
    refine ⟨?_, fun r hr' => ?_, ?_⟩
    · refine List.nodup_append.mpr ⟨k.nodup, by simp, fun a ha b hb => ?_⟩
      rw [List.mem_singleton.mp hb]
      exact fun z => hn (by rw [← z]; exact ha)
    · rcases List.mem_append.mp hr' with q | q
      · exact k.st r q
      · rw [List.mem_singleton.mp q]
        exact hr.app ho hl
    · show p.1 ++ _ = kn0 ++ (p.2 ++ _)
      rw [k.eq, List.append_assoc]
theorem KnOk.rowTake {n : Nat} {ls : List Lk} {L0 : List Nat} {kn0 : Rows} {row : List Nat} (ho : Okl n ls) (hr : St n ls L0 row) : ∀ (ms : List Lk) (p : Rows × Rows), (∀ l ∈ ms, l ∈ ls) → KnOk n ls L0 kn0 p → KnOk n ls L0 kn0 (ms.foldl (bfsLink n ls row) p) := by
  intro ms
  induction ms with
  | nil => intro p _ k; exact k
  | cons l ms ih => intro p h k; exact ih _ (fun x hx => h x (List.mem_cons_of_mem _ hx)) (k.link ho hr (h l List.mem_cons_self))
theorem KnOk.level {n : Nat} {ls : List Lk} {L0 : List Nat} {kn0 : Rows} (ho : Okl n ls) : ∀ (fr : Rows) (p : Rows × Rows), (∀ r ∈ fr, St n ls L0 r) → KnOk n ls L0 kn0 p → KnOk n ls L0 kn0 (fr.foldl (bfsRow n ls) p) := by
  intro fr
  induction fr with
  | nil => intro p _ k; exact k
  | cons r fr ih => intro p h k; exact ih _ (fun x hx => h x (List.mem_cons_of_mem _ hx)) (KnOk.rowTake ho (h r List.mem_cons_self) ls p (fun _ z => z) k)
theorem KnOk.begin {n : Nat} {ls : List Lk} {L0 : List Nat} {kn0 : Rows} (h1 : kn0.Nodup) (h2 : ∀ r ∈ kn0, St n ls L0 r) : KnOk n ls L0 kn0 (kn0, []) := ⟨h1, h2, by simp⟩
/-! #### how many rows there can be -/
theorem nodup_lt : ∀ (N : Nat) (l : List Nat), l.Nodup → (∀ x ∈ l, x < N) → l.length ≤ N
  | 0, l, _, h => by
    cases l with
    | nil => exact Nat.le_refl _
    | cons x l => exact absurd (h x List.mem_cons_self) (by omega)
  | N + 1, l, hn, h => by
    by_cases c : N ∈ l
    · have q := nodup_lt N (l.erase N) (hn.erase N) fun x hx => by
        obtain ⟨h1, h2⟩ := (hn.mem_erase_iff).mp hx
        have := h x h2
        omega
      rw [List.length_erase_of_mem c] at q
      omega
    · have q := nodup_lt N l hn fun x hx => by
        have h1 := h x hx
        have h2 : x ≠ N := fun z => c (by rw [← z]; exact hx)
        omega
      omega
def code (bs : List Nat) (r : List Nat) : Nat := bs.foldr (fun b acc => gL r b + 32 * acc) 0
theorem code_lt {r : List Nat} (h : ∀ b, gL r b < 32) : ∀ bs : List Nat, code bs r < 32 ^ bs.length
  | [] => by simp [code]
  | b :: bs => by
    have q := code_lt h bs
    have := h b
    show gL r b + 32 * code bs r < 32 ^ (bs.length + 1)
    rw [Nat.pow_succ]
    omega
theorem code_inj {r s : List Nat} (h : ∀ b, gL r b < 32) (h' : ∀ b, gL s b < 32) : ∀ bs : List Nat, code bs r = code bs s → ∀ b ∈ bs, gL r b = gL s b
  | [], _ => fun _ hb => nomatch hb
  | b :: bs, e => by
    have h1 := h b
    have h2 := h' b
    have e' : gL r b + 32 * code bs r = gL s b + 32 * code bs s := e
    intro c hc
    rcases List.mem_cons.mp hc with hc | hc
    · rw [hc]
      omega
    · exact code_inj h h' bs (by omega) c hc
theorem rows_le {bs : List Nat} (rows : Rows) (hn : rows.Nodup) (hb : ∀ r ∈ rows, ∀ b, gL r b < 32) (hi : ∀ r ∈ rows, ∀ s ∈ rows, (∀ b ∈ bs, gL r b = gL s b) → r = s) : rows.length ≤ 32 ^ bs.length := by
  have q := nodup_lt (32 ^ bs.length) (rows.map (code bs)) (by
    refine List.pairwise_map.mpr (List.Pairwise.imp_of_mem (fun {a b} ha hb' hab => ?_) hn)
    exact fun z => hab (hi a ha b hb' (code_inj (hb a ha) (hb b hb') bs z))) (fun x hx => by
    obtain ⟨r, hr, e⟩ := List.mem_map.mp hx
    rw [← e]
    exact code_lt (hb r hr) bs)
  rwa [List.length_map] at q
/-- some block keeps its lot -/
theorem fixed_some {n : Nat} {ls : List Lk} (ho : Okl n ls) : ∀ (k b : Nat), b < n → rk n ls b ≤ k → ∃ c, c < n ∧ (kn n ls c = true ∨ wr ls c = []) := by
  intro k
  induction k with
  | zero => intro b hb h; exact absurd (rk_pos ho hb) (by omega)
  | succ k ih =>
    intro b hb h
    cases e : kn n ls b with
    | true => exact ⟨b, hb, .inl e⟩
    | false =>
      cases c : wr ls b with
      | nil => exact ⟨b, hb, .inr c⟩
      | cons s r =>
        have hs : s ∈ wr ls b := by rw [c]; exact List.mem_cons_self
        have := rk_lt ho hs e
        exact ih s (ho _ (mem_wr.mp hs)).2.1 (by omega)
theorem good_lt {n : Nat} {L : List Nat} (hn : n ≤ 5) (g : Good n L) (b : Nat) : gL L b < 32 := by
  have h : gL L b < 2 ^ n := by
    apply Nat.lt_pow_two_of_testBit
    intro i hi
    cases e : (gL L b).testBit i with
    | false => rfl
    | true => exact absurd (g.low b i e) (by omega)
  have h2 : 2 ^ n ≤ 2 ^ 5 := Nat.pow_le_pow_right (by omega) hn
  omega
theorem known_le {n : Nat} {ls : List Lk} {L0 : List Nat} (ho : Okl n ls) (h0 : 0 < n) (hn : n ≤ 5) (rows : Rows) (hd : rows.Nodup) (hs : ∀ r ∈ rows, St n ls L0 r) : rows.length ≤ 1048576 := by
  obtain ⟨c, hc, hf⟩ := fixed_some ho n 0 h0 (rk_le n ls 0)
  have q := rows_le (bs := (List.range n).filter fun b => b != c) rows hd (fun r hr b => good_lt hn (hs r hr).good b) (fun r hr s hr' h => by
    refine list_gL (by rw [(hs r hr).good.len, (hs s hr').good.len]) fun b hb => ?_
    rw [(hs r hr).good.len] at hb
    by_cases e : b = c
    · rw [e, (hs r hr).fix c hc hf, (hs s hr').fix c hc hf]
    · exact h b (List.mem_filter.mpr ⟨List.mem_range.mpr hb, by simp [e]⟩))
  have hl : ((List.range n).filter fun b => b != c).length ≤ 4 := by
    have q2 := filter_lt (p := fun b => b != c) (q := fun _ => true) (List.range n) (fun _ _ _ => rfl) ⟨c, List.mem_range.mpr hc, rfl, by simp⟩
    have e : (List.range n).filter (fun _ => true) = List.range n := List.filter_eq_self.mpr fun _ _ => rfl
    rw [e, List.length_range] at q2
    omega
  have h2 : 32 ^ ((List.range n).filter fun b => b != c).length ≤ 32 ^ 4 := Nat.pow_le_pow_right (by omega) hl
  omega
/-! #### what it finds -/
theorem foldl_ns {n : Nat} {ls : List Lk} {L0 : List Nat} (ho : Okl n ls) : ∀ (ms : List Lk) (L : List Nat), (∀ l ∈ ms, l ∈ ls) → St n ls L0 L → ns n L ≤ ns n (ms.foldl (app n ls) L) + ms.length ∧ St n ls L0 (ms.foldl (app n ls) L) := by
  intro ms
  induction ms with
  | nil => intro L _ s; exact ⟨Nat.le_refl _, s⟩
  | cons l ms ih =>
    intro L h s
    have hl := h l List.mem_cons_self
    obtain ⟨h1, h2⟩ := ih _ (fun x hx => h x (List.mem_cons_of_mem _ hx)) (s.app ho hl)
    have h3 := ns_app ho s hl
    refine ⟨?_, h2⟩
    rw [List.foldl_cons, List.length_cons]
    omega
structure JInv (n : Nat) (ls : List Lk) (L0 : List Nat) (k c : Nat) (kn : Rows) (p : Rows × Rows) : Prop where
  st : ∀ r ∈ p.1, St n ls L0 r ∧ k ≤ ns n r + (c + 1)
  old : ∀ r ∈ p.1, r ∈ kn ∨ r ∈ p.2
  sub : ∀ r ∈ p.2, r ∈ p.1
theorem JInv.link {n : Nat} {ls : List Lk} {L0 : List Nat} {k c : Nat} {kn : Rows} {p : Rows × Rows} {row : List Nat} {l : Lk} (ho : Okl n ls) (j : JInv n ls L0 k c kn p) (hr : St n ls L0 row) (hk : k ≤ ns n row + c) (hl : l ∈ ls) :
    JInv n ls L0 k c kn (bfsLink n ls row p l) ∧ (∀ x ∈ p.2, x ∈ (bfsLink n ls row p l).2) ∧ (app n ls row l ∉ kn → app n ls row l ∈ (bfsLink n ls row p l).2) := by
  rw [bfsLink]
  by_cases q : p.1.contains (app n ls row l) = true
  · rw [if_pos q]
    refine ⟨j, fun _ h => h, fun h => ?_⟩
    exact (j.old _ (List.contains_iff_mem.mp q)).resolve_left h
  · rw [if_neg q]
    refine ⟨⟨fun r h => ?_, fun r h => ?_, fun r h => ?_⟩, fun x h => List.mem_append_left _ h, fun _ => List.mem_append_right _ List.mem_cons_self⟩
    · rcases List.mem_append.mp h with h | h
      · exact j.st r h
      · rw [List.mem_singleton.mp h]
        have := ns_app ho hr hl
        exact ⟨hr.app ho hl, by omega⟩
    · rcases List.mem_append.mp h with h | h
      · exact (j.old r h).imp id (List.mem_append_left _)
      · exact .inr (List.mem_append_right _ h)
    · rcases List.mem_append.mp h with h | h
      · exact List.mem_append_left _ (j.sub r h)
      · exact List.mem_append_right _ h
theorem JInv.row {n : Nat} {ls : List Lk} {L0 : List Nat} {k c : Nat} {kn : Rows} {row : List Nat} (ho : Okl n ls) (hr : St n ls L0 row) (hk : k ≤ ns n row + c) : ∀ (ms : List Lk) (p : Rows × Rows), (∀ l ∈ ms, l ∈ ls) → JInv n ls L0 k c kn p →
    JInv n ls L0 k c kn (ms.foldl (bfsLink n ls row) p) ∧ (∀ x ∈ p.2, x ∈ (ms.foldl (bfsLink n ls row) p).2) ∧ ∀ l ∈ ms, app n ls row l ∉ kn → app n ls row l ∈ (ms.foldl (bfsLink n ls row) p).2 := by
  intro ms
  induction ms with
  | nil => intro p _ j; exact ⟨j, fun _ h => h, fun _ h => nomatch h⟩
  | cons l ms ih =>
    intro p h j
    obtain ⟨j1, m1, a1⟩ := j.link ho hr hk (h l List.mem_cons_self)
    obtain ⟨j2, m2, a2⟩ := ih _ (fun x hx => h x (List.mem_cons_of_mem _ hx)) j1
    refine ⟨j2, fun x hx => m2 x (m1 x hx), fun x hx hn => ?_⟩
    rcases List.mem_cons.mp hx with hx | hx
    · rw [hx] at hn ⊢
      exact m2 _ (a1 hn)
    · exact a2 x hx hn
theorem JInv.level {n : Nat} {ls : List Lk} {L0 : List Nat} {k c : Nat} {kn : Rows} (ho : Okl n ls) : ∀ (fr : Rows) (p : Rows × Rows), (∀ r ∈ fr, St n ls L0 r ∧ k ≤ ns n r + c) → JInv n ls L0 k c kn p →
    JInv n ls L0 k c kn (fr.foldl (bfsRow n ls) p) ∧ (∀ x ∈ p.2, x ∈ (fr.foldl (bfsRow n ls) p).2) ∧ ∀ r ∈ fr, ∀ l ∈ ls, app n ls r l ∉ kn → app n ls r l ∈ (fr.foldl (bfsRow n ls) p).2 := by
  intro fr
  induction fr with
  | nil => intro p _ j; exact ⟨j, fun _ h => h, fun _ h => nomatch h⟩
  | cons r fr ih =>
    intro p h j
    obtain ⟨hr, hk⟩ := h r List.mem_cons_self
    obtain ⟨j1, m1, a1⟩ := JInv.row ho hr hk ls p (fun _ z => z) j
    obtain ⟨j2, m2, a2⟩ := ih _ (fun x hx => h x (List.mem_cons_of_mem _ hx)) j1
    refine ⟨j2, fun x hx => m2 x (m1 x hx), fun x hx l hl hn => ?_⟩
    rcases List.mem_cons.mp hx with hx | hx
    · rw [hx] at hn ⊢
      exact m2 _ (a1 l hl hn)
    · exact a2 x hx l hl hn
theorem any_zero {n : Nat} {fr : Rows} {r : List Nat} (h : r ∈ fr) (e : ns n r = 0) : fr.any (fun r => ns n r == 0) = true := List.any_eq_true.mpr ⟨r, h, by rw [e]; rfl⟩
theorem none_zero {n : Nat} {fr : Rows} (h : ∀ r ∈ fr, ns n r ≠ 0) : fr.any (fun r => ns n r == 0) = false := by
  rw [List.any_eq_false]
  intro r hr
  simp [h r hr]
theorem bfs_none {n : Nat} {ls : List Lk} {L0 : List Nat} (r : Root n ls L0) (hv : ¬ ∀ b, b < n → gI (sv n ls L0) b ≠ -2) : ∀ (t : Nat) (kn fr : Rows) (c : Nat), kn.Nodup → (∀ x ∈ kn, St n ls L0 x) → (∀ x ∈ fr, x ∈ kn) → bfs n ls t kn fr c = -1 := by
  intro t
  induction t with
  | zero => intro kn fr c _ _ _; rfl
  | succ t ih =>
    intro kn fr c hd hk hf
    rw [bfs, none_zero fun x hx z => hv (settled_of_zero r (hk x (hf x hx)) z), if_neg Bool.false_ne_true]
    have k := KnOk.level r.ok fr (kn, []) (fun x hx => hk x (hf x hx)) (KnOk.begin hd hk)
    exact ih _ _ _ k.nodup k.st fun x hx => by
      have e := k.eq
      show x ∈ (fr.foldl (bfsRow n ls) (kn, [])).1
      rw [e]
      exact List.mem_append_right _ hx
theorem bfs_some {n : Nat} {ls : List Lk} {L0 : List Nat} {ms : List Lk} (r : Root n ls L0) (hms : ∀ l ∈ ms, l ∈ ls) (hfin : ns n (ms.foldl (app n ls) L0) = 0) (hlen : ms.length = ns n L0) :
    ∀ (t : Nat) (kn fr : Rows) (c : Nat), c ≤ ms.length → ms.length < c + t → ((ms.take c).foldl (app n ls) L0) ∈ fr → (∀ x ∈ kn, St n ls L0 x ∧ ms.length ≤ ns n x + c) → (∀ x ∈ fr, x ∈ kn) → bfs n ls t kn fr c = (ms.length : Int) := by
  have ho := r.ok
  have val : ∀ c, c ≤ ms.length → ns n ((ms.take c).foldl (app n ls) L0) = ms.length - c := fun c hc => by
    obtain ⟨h1, h2⟩ := foldl_ns ho (ms.take c) L0 (fun l hl => hms l (List.mem_of_mem_take hl)) r.st
    obtain ⟨h3, _⟩ := foldl_ns ho (ms.drop c) _ (fun l hl => hms l (List.mem_of_mem_drop hl)) h2
    rw [← List.foldl_append, List.take_append_drop, hfin] at h3
    rw [List.length_take] at h1
    rw [List.length_drop] at h3
    omega
  intro t
  induction t with
  | zero => intro kn fr c h1 h2; omega
  | succ t ih =>
    intro kn fr c h1 h2 hm hk hf
    by_cases e : c = ms.length
    · rw [bfs, any_zero hm (by rw [val c h1]; omega), if_pos rfl, e]
    · rw [bfs, none_zero fun x hx z => by have := (hk x (hf x hx)).2; omega, if_neg Bool.false_ne_true]
      obtain ⟨j, _, a⟩ := JInv.level (k := ms.length) (c := c) (kn := kn) ho fr (kn, []) (fun x hx => hk x (hf x hx)) ⟨fun x hx => ⟨(hk x hx).1, by have := (hk x hx).2; omega⟩, fun x hx => .inl hx, fun _ h => nomatch h⟩
      refine ih _ _ (c + 1) (by omega) (by omega) ?_ j.st j.sub
      have hc : c < ms.length := by omega
      have et : ms.take (c + 1) = ms.take c ++ [ms[c]] := by rw [List.take_succ, List.getElem?_eq_getElem hc]; rfl
      have es : (ms.take (c + 1)).foldl (app n ls) L0 = app n ls ((ms.take c).foldl (app n ls) L0) ms[c] := by rw [et, List.foldl_append]; rfl
      rw [es]
      refine a _ hm _ (hms _ (List.getElem_mem hc)) fun z => ?_
      have q := (hk _ z).2
      rw [← es, val (c + 1) (by omega)] at q
      omega
theorem fewest_none {n : Nat} {ls : List Lk} {L0 : List Nat} (r : Root n ls L0) (hv : ¬ ∀ b, b < n → gI (sv n ls L0) b ≠ -2) : fewest n ls L0 = -1 :=
  bfs_none r hv _ _ _ _ (by simp) (fun x hx => by rw [List.mem_singleton.mp hx]; exact r.st) (fun _ h => h)
theorem ns_le {n : Nat} {L : List Nat} (h : L.length = n) : ns n L ≤ n := by
  have q := List.length_filter_le (fun m => sing n m == -2) L
  rw [h] at q
  exact q
theorem fewest_some {n : Nat} {ls : List Lk} {L0 : List Nat} (r : Root n ls L0) (hv : ∀ b, b < n → gI (sv n ls L0) b ≠ -2) : fewest n ls L0 = (ns n L0 : Int) := by
  obtain ⟨h1, h2, h3⟩ := reps_ok r hv (ord_ok n ls) (lw := lwOf ls) fun b _ h => lw_ok h
  have hl : (((ordOf n ls).filter (multi n L0)).map (lwOf ls)).length = ns n L0 := by rw [List.length_map, reps_len r (ord_ok n ls)]
  have hz : ns n ((((ordOf n ls).filter (multi n L0)).map (lwOf ls)).foldl (app n ls) L0) = 0 := ns_of_all fun b hb => by
    rw [h2.good.len] at hb
    rw [h3 b hb]
    exact hv b hb
  rw [← hl]
  have hle := ns_le (n := n) r.good.len
  have hnn : n ≤ n * n + 0 ∨ n = 0 := by
    rcases Nat.eq_zero_or_pos n with h | h
    · exact .inr h
    · exact .inl (by have := Nat.mul_le_mul_left n h; omega)
  refine bfs_some r h1 hz hl _ _ _ 0 (Nat.zero_le _) (by omega) (by simp) (fun x hx => ?_) (fun _ h => h)
  rw [List.mem_singleton.mp hx, hl]
  exact ⟨r.st, Nat.le_refl _⟩
/-! ### all runs -/
def aft (im : List Nat) (l : Lk) : List Nat := im.set l.1 (gL im l.2)
/-- an image whose entries stand in the lots -/
def Im (n : Nat) (L : List Nat) (im : List Nat) : Prop := im.length = n ∧ ∀ b, b < n → bit L b (gL im b) = true
theorem Im.home (n : Nat) : Im n (home n) (List.range n) := ⟨List.length_range, fun b hb => by
  rw [gL_eq (L := List.range n) (by simpa using hb), List.getElem_range, bit_home]
  simp [hb]⟩
theorem Im.first {n : Nat} {ls : List Lk} {L im : List Nat} {l : Lk} (ho : Okl n ls) (hL : L.length = n) (h : Im n L im) (h1 : l.1 < n) (h2 : l.2 < n) : Im n (clo n ls (L.set l.1 (gL L l.2))) (aft im l) := by
  obtain ⟨hl, hb⟩ := h
  refine ⟨by simp [aft, hl], fun b hbn => le_clo ho (by simp [hL]) _ _ ?_⟩
  by_cases e : b = l.1
  · subst e
    rw [aft, gL_set_self (by omega), bit, gL_set_self (by omega)]
    exact hb l.2 h2
  · rw [aft, gL_set_ne e, bit, gL_set_ne e]
    exact hb b hbn
theorem Im.next {n : Nat} {ls : List Lk} {L im : List Nat} {l : Lk} (ho : Okl n ls) (hc : Cl ls L) (h : Im n L im) (hm : l ∈ ls) : Im n L (aft im l) := by
  obtain ⟨hl, hb⟩ := h
  refine ⟨by simp [aft, hl], fun b hbn => ?_⟩
  by_cases e : b = l.1
  · subst e
    rw [aft, gL_set_self (by omega)]
    exact hc l hm _ (hb l.2 (ho l hm).2.1)
  · rw [aft, gL_set_ne e]
    exact hb b hbn
theorem Im.one {n : Nat} {d : List Nat} {im : List Nat} (hd : d.length = n) (h : Im n (d.map fun v => 2 ^ v) im) : im = d := by
  obtain ⟨hl, hb⟩ := h
  refine list_gL (by omega) fun b hbn => ?_
  have q := hb b (by omega)
  rw [bit, gL_eq (by simp; omega), List.getElem_map, Nat.testBit_two_pow] at q
  rw [gL_eq (by omega), gL_eq (by omega)]
  have := of_decide_eq_true q
  rw [gL_eq (by omega)] at this
  exact this.symm
theorem Im.lt {n : Nat} {L im : List Nat} (g : Good n L) (h : Im n L im) (b : Nat) : gL im b < n ∨ n ≤ b := by
  by_cases c : b < n
  · exact .inl (g.low _ _ (h.2 b c))
  · exact .inr (by omega)
/-- the images at hand: all differ, all stand in the lots -/
theorem ims_le {n : Nat} {L : List Nat} (hn : n ≤ 4) (g : Good n L) (rows : Rows) (hd : rows.Nodup) (hs : ∀ r ∈ rows, Im n L r) : rows.length ≤ 1048576 := by
  have q := rows_le (bs := List.range n) rows hd (fun r hr b => by
    rcases (hs r hr).lt g b with h | h
    · omega
    · rw [gL_out (by rw [(hs r hr).1]; exact h)]
      omega) (fun r hr s hr' h => list_gL (by rw [(hs r hr).1, (hs s hr').1]) fun b hb => h b (List.mem_range.mpr (by rw [(hs r hr).1] at hb; exact hb)))
  rw [List.length_range] at q
  have h2 : 32 ^ n ≤ 32 ^ 4 := Nat.pow_le_pow_right (by omega) hn
  omega
theorem all_one {α : Type} {x : α} : ∀ {l : List α}, l.Nodup → l ≠ [] → (∀ y ∈ l, y = x) → l = [x] := by
  intro l hn hne h
  match l, hn, hne with
  | [y], _, _ => rw [h y List.mem_cons_self]
  | y :: z :: r, hn, _ =>
    have e1 := h y List.mem_cons_self
    have e2 := h z (List.mem_cons_of_mem _ List.mem_cons_self)
    exact absurd (e1.trans e2.symm) fun e => (List.nodup_cons.mp hn).1 (by rw [e]; exact List.mem_cons_self)
end Rd
/-! ## RdBase -/
set_option maxHeartbeats 4000000
/-! # Short words for the walk: defs by their names, data in the heap, more rules. -/
namespace Rw
open PySem PySem.Spec PyProof.Rows L2
/-! ### a def by its name -/
structure Okd (P : Program) (w : World) (K : PySem.W.Frag) (mg : Str → Option Value) (base : Heap) (CX : CXT) (k : Nat) (x : Str) (ps : List Str) (sp : Sp) : Prop where
  ex : ∃ fd : FuncData, FnOk P w K mg base CX k (He.ga K x) fd ps sp ∧ Binds K fd ps [] ∧ PySem.W.keepIn K (.ref (He.ga K x)) = true
  mg : mg x = some (.ref (He.ga K x))
abbrev defD (x : Str) (st : Stmt) : He.DefD := ⟨(x, none), x, x, defArgs st, defBody st, defScope st, [], []⟩
section
variable {P : Program} {w : World} {K : PySem.W.Frag} {mg : Str → Option Value} {base : Heap} {CX : CXT}
theorem okd_mk {x : Str} {st : Stmt} {N ps : List Str} {k : Nat} {sp : Sp} (T : Txt K mg) (hd : defD x st ∈ fn) (S : FnScope N ps (defScope st)) (len : ∀ vs H Q E, sp vs H Q E → vs.length = ps.length)
    (hb : ∀ (kV doc pm : Value) (an : Option Addr) (cdv ct : Value) (us : List Value), us.length = ps.length → bindArgs (PySem.W.fnOf x x (defArgs st) (defBody st) (defScope st) .none kV doc pm an cdv ct) ⟨us, []⟩ = pure (ps.zip us))
    (hbody : ∀ (f : Addr) (cdv : Value) (A : Around) (outer : List Env) (s : Shared) (H : Hp) (vs : List V) (Q : VK) (E : XK), Room k (A.deeper (envOfC x (defScope st) s.heap.objs.size f cdv)) → sp vs H Q E →
      ∃ t, PSs (cxOf CX P w K mg base N x (defScope st) f cdv A outer s H E) (defBody st) t ∧ t { nx := fun _ H' => Q .non H', rt := Q } (start N vs) H) : Okd P w K mg base CX (k + 1) x ps sp := by
  obtain ⟨fd, F⟩ := T.defs _ hd
  have F' : FunD K x x (defArgs st) (defBody st) (defScope st) [] [] (He.ga K x) fd := F
  exact ⟨⟨fd, F'.ok S len fun cdv A outer s H vs Q E hr h => hbody _ cdv A outer s H vs Q E hr h, F'.bindsN hb, F'.kp⟩, T.globs _ hd⟩
/-- .. that lets nothing out -/
theorem okd0 {x : Str} {st : Stmt} {N ps : List Str} {k : Nat} {sp : Sp} (T : Txt K mg) (hd : defD x st ∈ fn) (S : FnScope N ps (defScope st)) (len : ∀ vs H Q E, sp vs H Q E → vs.length = ps.length)
    (hb : ∀ (kV doc pm : Value) (an : Option Addr) (cdv ct : Value) (us : List Value), us.length = ps.length → bindArgs (PySem.W.fnOf x x (defArgs st) (defBody st) (defScope st) .none kV doc pm an cdv ct) ⟨us, []⟩ = pure (ps.zip us))
    (hbody : ∀ (f : Addr) (cdv : Value) (A : Around) (outer : List Env) (s : Shared) (H : Hp) (vs : List V) (Q : VK) (E : XK), Room k (A.deeper (envOfC x (defScope st) s.heap.objs.size f cdv)) → sp vs H Q E →
      ∃ t, PSs (cxOf CX0 P w K mg base N x (defScope st) f cdv A outer s H E).nox (defBody st) t ∧ t { nx := fun _ H' => Q .non H', rt := Q } (start N vs) H) : Okd P w K mg base CX0 (k + 1) x ps sp :=
  okd_mk T hd S len hb fun f cdv A outer s H vs Q E hr h => by
    obtain ⟨t, h1, h2⟩ := hbody f cdv A outer s H vs Q E hr h
    exact ⟨t, h1.nox, h2⟩
end
/-- its call -/
def tCallD (sp : Sp) (E : XK) (t : TA) : TE := fun σ H Q => t σ H fun vs H1 => sp vs H1 Q E
section
variable {X : Cx} {CX : CXT} {k j : Nat} {x : Str} {ps : List Str} {sp : Sp} {E : XK} {e : Expr} {es : List Expr} {t : TA} {p pos : Pos}
theorem pe_cdE (c : Okd X.prog X.w X.K X.mg X.base CX k x ps sp) (hr : Room j X.A) (hk : k ≤ j) (hg : Gl X x) (hx : Passes CX X E) (ha : PA X (e :: es) t)
    (hdb : (x == ("__debug__" : Str)) = false := by decide) (he : starEach (e :: es) X.env = (false, eval e X.env) :: starEach es X.env := by rfl) (hpl : (backTo pos (starEach es X.env)).any (·.1) = false := by rfl) :
    PE X (.Call (.Name x p) (e :: es) [] pos) (tCallD sp E t) := by
  obtain ⟨fd, F, b, kp⟩ := c.ex
  refine ⟨fun pins s σ H Q I h => (pe_call F (hr.mono hk) hg c.mg kp b .nil hx ha hdb he hpl).run pins s σ H Q I ?_⟩
  have e0 : (fun (vs : List V) (H1 : Hp) => sp (vs ++ []) H1 Q E) = fun vs H1 => sp vs H1 Q E := by
    funext vs H1
    rw [List.append_nil]
  show t σ H (fun vs H1 => sp (vs ++ []) H1 Q E)
  rw [e0]
  exact h
theorem pe_cd (c : Okd X.prog X.w X.K X.mg X.base CX0 k x ps sp) (hr : Room j X.A) (hk : k ≤ j) (hg : Gl X x) (ha : PA X (e :: es) t)
    (hdb : (x == ("__debug__" : Str)) = false := by decide) (he : starEach (e :: es) X.env = (false, eval e X.env) :: starEach es X.env := by rfl) (hpl : (backTo pos (starEach es X.env)).any (·.1) = false := by rfl) :
    PE X (.Call (.Name x p) (e :: es) [] pos) (tCallD sp E0 t) := pe_cdE c hr hk hg pass0 ha hdb he hpl
end
theorem hu64 {A : Around} {k : Nat} (hr : Room k A) : A.units + 64 < cLine := by have := hr.un; omega
/-! ### data in the heap, all of it tracked -/
mutual
inductive Dt (H : Hp) : V → PyData → Prop
  | non : Dt H .non .none
  | bl (b : Bool) : Dt H (.bl b) (.bool b)
  | int (i : Int) : Dt H (.int i) (.int i)
  | str (x : Str) : Dt H (.str x) (.str x)
  | lst {a : Addr} {xs : List V} {ds : List PyData} : H a = some (.lst xs) → DtAll H xs ds → Dt H (.ref a) (.list ds)
  | tup {a : Addr} {xs : List V} {ds : List PyData} : H a = some (.tup xs) → DtAll H xs ds → Dt H (.ref a) (.tuple ds)
inductive DtAll (H : Hp) : List V → List PyData → Prop
  | nil : DtAll H [] []
  | cons {v : V} {vs : List V} {d : PyData} {ds : List PyData} : Dt H v d → DtAll H vs ds → DtAll H (v :: vs) (d :: ds)
end
mutual
theorem Dt.same {H H' : Hp} (e : Same H H') : ∀ (d : PyData) (v : V), Dt H v d → Dt H' v d
  | .none, _, h => by cases h; exact .non
  | .bool b, _, h => by cases h; exact .bl b
  | .int i, _, h => by cases h; exact .int i
  | .str x, _, h => by cases h; exact .str x
  | .list ds, _, h => by
    cases h with
    | lst h1 h2 => exact .lst (e _ _ h1) (DtAll.same e ds _ h2)
  | .tuple ds, _, h => by
    cases h with
    | tup h1 h2 => exact .tup (e _ _ h1) (DtAll.same e ds _ h2)
  | .dict _, _, h => by cases h
theorem DtAll.same {H H' : Hp} (e : Same H H') : ∀ (ds : List PyData) (vs : List V), DtAll H vs ds → DtAll H' vs ds
  | [], _, h => by cases h; exact .nil
  | d :: ds, _, h => by
    cases h with
    | cons h1 h2 => exact .cons (Dt.same e d _ h1) (DtAll.same e ds _ h2)
end
mutual
theorem Dt.dp {K : PySem.W.Frag} {H : Hp} : ∀ (d : PyData) (v : V), Dt H v d → Dp K H v d
  | .none, _, h => by cases h; exact .non
  | .bool b, _, h => by cases h; exact .bl b
  | .int i, _, h => by cases h; exact .int i
  | .str x, _, h => by cases h; exact .str x
  | .list ds, _, h => by
    cases h with
    | lst h1 h2 => exact .lst (SqL.of h1) (DtAll.dp ds _ h2)
  | .tuple ds, _, h => by
    cases h with
    | tup h1 h2 => exact .tup (SqT.of h1) (DtAll.dp ds _ h2)
  | .dict _, _, h => by cases h
theorem DtAll.dp {K : PySem.W.Frag} {H : Hp} : ∀ (ds : List PyData) (vs : List V), DtAll H vs ds → DpAll K H vs ds
  | [], _, h => by cases h; exact .nil
  | d :: ds, _, h => by
    cases h with
    | cons h1 h2 => exact .cons (Dt.dp d _ h1) (DtAll.dp ds _ h2)
end
section
variable {H H' : Hp} {v : V} {vs ws : List V} {d : PyData} {ds es : List PyData}
theorem Dt.to (h : Dt H v d) (e : Same H H') : Dt H' v d := Dt.same e d v h
theorem DtAll.to (h : DtAll H vs ds) (e : Same H H') : DtAll H' vs ds := DtAll.same e ds vs h
theorem Dt.list_inv (h : Dt H v (.list ds)) : ∃ a xs, v = .ref a ∧ H a = some (.lst xs) ∧ DtAll H xs ds := by
  cases h with
  | lst h1 h2 => exact ⟨_, _, rfl, h1, h2⟩
theorem Dt.tuple_inv (h : Dt H v (.tuple ds)) : ∃ a xs, v = .ref a ∧ H a = some (.tup xs) ∧ DtAll H xs ds := by
  cases h with
  | tup h1 h2 => exact ⟨_, _, rfl, h1, h2⟩
theorem Dt.int_inv {i : Int} (h : Dt H v (.int i)) : v = .int i := by cases h; rfl
theorem Dt.str_inv {x : Str} (h : Dt H v (.str x)) : v = .str x := by cases h; rfl
theorem Dt.none_inv (h : Dt H v .none) : v = .non := by cases h; rfl
theorem DtAll.len : ∀ {vs : List V} {ds : List PyData}, DtAll H vs ds → vs.length = ds.length
  | [], _, h => by cases h; rfl
  | v :: vs, _, h => by
    cases h with
    | cons h1 h2 => simp [DtAll.len h2]
theorem DtAll.get : ∀ {vs : List V} {ds : List PyData} {i : Nat} {d : PyData}, DtAll H vs ds → ds[i]? = some d → ∃ v, vs[i]? = some v ∧ Dt H v d
  | _, [], _, _, _, e => by simp at e
  | _, d :: ds, i, d', h, e => by
    cases h with
    | cons h1 h2 =>
      cases i with
      | zero =>
        have e' : d = d' := by simpa using e
        subst e'
        exact ⟨_, rfl, h1⟩
      | succ i =>
        obtain ⟨v, q1, q2⟩ := DtAll.get (i := i) (d := d') h2 (by simpa using e)
        exact ⟨v, by simpa using q1, q2⟩
theorem DtAll.of_get : ∀ {vs : List V} {ds : List PyData} {i : Nat} {v : V}, DtAll H vs ds → vs[i]? = some v → ∃ d, ds[i]? = some d ∧ Dt H v d
  | [], _, _, _, _, e => by simp at e
  | v :: vs, ds, i, v', h, e => by
    cases h with
    | @cons _ _ d ds h1 h2 =>
      cases i with
      | zero =>
        have e' : v = v' := by simpa using e
        subst e'
        exact ⟨d, rfl, h1⟩
      | succ i =>
        obtain ⟨d', q1, q2⟩ := DtAll.of_get (i := i) (v := v') h2 (by simpa using e)
        exact ⟨d', by simpa using q1, q2⟩
theorem DtAll.append : ∀ {vs ws : List V} {ds es : List PyData}, DtAll H vs ds → DtAll H ws es → DtAll H (vs ++ ws) (ds ++ es)
  | [], _, _, _, h, k => by cases h; exact k
  | v :: vs, _, _, _, h, k => by
    cases h with
    | cons h1 h2 => exact .cons h1 (DtAll.append h2 k)
theorem DtAll.snoc (h : DtAll H vs ds) (k : Dt H v d) : DtAll H (vs ++ [v]) (ds ++ [d]) := h.append (.cons k .nil)
theorem DtAll.take : ∀ {vs : List V} {ds : List PyData} (n : Nat), DtAll H vs ds → DtAll H (vs.take n) (ds.take n)
  | _, _, 0, _ => .nil
  | [], _, _ + 1, h => by cases h; exact .nil
  | v :: vs, _, n + 1, h => by
    cases h with
    | cons h1 h2 => exact .cons h1 (DtAll.take n h2)
theorem DtAll.drop : ∀ {vs : List V} {ds : List PyData} (n : Nat), DtAll H vs ds → DtAll H (vs.drop n) (ds.drop n)
  | _, _, 0, h => h
  | [], _, _ + 1, h => by cases h; exact .nil
  | v :: vs, _, n + 1, h => by
    cases h with
    | cons h1 h2 => exact DtAll.drop n h2
theorem DtAll.set : ∀ {vs : List V} {ds : List PyData} (i : Nat), DtAll H vs ds → Dt H v d → DtAll H (vs.set i v) (ds.set i d)
  | [], _, _, h, _ => by cases h; exact .nil
  | _ :: _, _, 0, h, k => by
    cases h with
    | cons h1 h2 => exact .cons k h2
  | _ :: _, _, i + 1, h, k => by
    cases h with
    | cons h1 h2 => exact .cons h1 (DtAll.set i h2 k)
/-- ints -/
theorem dt_ints : ∀ (ns : List Int), DtAll H (ns.map V.int) (ns.map PyData.int)
  | [] => .nil
  | n :: ns => .cons (.int n) (dt_ints ns)
theorem ints_dt : ∀ {ns : List Int} {vs : List V}, DtAll H vs (ns.map PyData.int) → vs = ns.map V.int
  | [], _, h => by cases h; rfl
  | n :: ns, _, h => by
    cases h with
    | cons h1 h2 =>
      rw [h1.int_inv, ints_dt h2]
      rfl
end
/-! ### lines, logs, lots as data -/
abbrev Lk := Rd.Lk
def lkD (l : Lk) : PyData := .tuple [.int l.1, .int l.2]
def lksD (ls : List Lk) : PyData := .list (ls.map lkD)
def lnD (l : Lk) : PyData := .tuple [.str "copy", .int l.1, .int l.2, .str ""]
def logD (ls : List Lk) : PyData := .list (ls.map lnD)
theorem lk_inv {H : Hp} {v : V} {l : Lk} (h : Dt H v (lkD l)) : ∃ a, v = .ref a ∧ H a = some (.tup [.int l.1, .int l.2]) := by
  obtain ⟨a, xs, rfl, h1, h2⟩ := h.tuple_inv
  refine ⟨a, rfl, ?_⟩
  have e := ints_dt (ns := [(l.1 : Int), (l.2 : Int)]) h2
  rw [h1, e]
  rfl
theorem dt_lk {H : Hp} {a : Addr} {l : Lk} (h : H a = some (.tup [.int l.1, .int l.2])) : Dt H (.ref a) (lkD l) := .tup h (dt_ints [(l.1 : Int), (l.2 : Int)])
/-- the list of links at a -/
theorem lks_inv {H : Hp} {v : V} {ls : List Lk} (h : Dt H v (lksD ls)) : ∃ a xs, v = .ref a ∧ H a = some (.lst xs) ∧ xs.length = ls.length ∧ ∀ (i : Nat) x, xs[i]? = some x → ∃ p l, x = .ref p ∧ ls[i]? = some l ∧ H p = some (.tup [.int l.1, .int l.2]) := by
  obtain ⟨a, xs, rfl, h1, h2⟩ := h.list_inv
  refine ⟨a, xs, rfl, h1, by rw [h2.len]; simp, fun i x e => ?_⟩
  obtain ⟨d, q1, q2⟩ := h2.of_get e
  rw [List.getElem?_map] at q1
  cases q : ls[i]? with
  | none => rw [q] at q1; cases q1
  | some l =>
    rw [q] at q1
    have e : lkD l = d := Option.some.inj q1
    subst e
    obtain ⟨p, rfl, q3⟩ := lk_inv q2
    exact ⟨p, l, rfl, rfl, q3⟩
theorem get_map {α β : Type} {f : α → β} {l : List α} {i : Nat} {y : β} (h : (l.map f)[i]? = some y) : ∃ x, l[i]? = some x ∧ y = f x := by
  rw [List.getElem?_map] at h
  cases e : l[i]? with
  | none => rw [e] at h; cases h
  | some x => rw [e] at h; exact ⟨x, rfl, (Option.some.inj h).symm⟩
theorem get_lt {α : Type} {l : List α} {i : Nat} {x : α} (h : l[i]? = some x) : i < l.length := (List.getElem?_eq_some_iff.mp h).1
theorem take_succ_get {α : Type} {l : List α} {i : Nat} {x : α} (h : l[i]? = some x) : l.take (i + 1) = l.take i ++ [x] := by
  rw [List.take_add_one, h]
  rfl
theorem at_map {α : Type} {f : α → V} {l : List α} {i : Nat} {x : α} (h : l[i]? = some x) : atI (l.map f) (i : Int) = some (f x) := atI_nat (by rw [List.getElem?_map, h]; rfl)
/-- a list of natural numbers as ints -/
def nV (L : List Nat) : List V := L.map fun m => V.int (m : Nat)
theorem nV_len (L : List Nat) : (nV L).length = L.length := by simp [nV]
theorem nV_at {L : List Nat} {b : Nat} (h : b < L.length) : atI (nV L) (b : Int) = some (.int (Rd.gL L b : Nat)) := by
  refine atI_nat ?_
  rw [nV, List.getElem?_map, List.getElem?_eq_getElem h, Rd.gL_eq h]
  rfl
theorem nV_set {L : List Nat} {b m : Nat} : (nV L).set b (.int (m : Nat)) = nV (L.set b m) := by
  simp [nV, List.map_set]
theorem ix_nat {n b : Nat} (h : b < n) : ixN n (b : Int) = some b := by
  unfold ixN
  rw [if_pos (by omega), if_pos (by omega)]
  simp
theorem seq_nat {n b : Nat} (h : b < n) : seqIndex? (b : Int) n = some b := (ixN_seq (ix_nat h)).1
/-- bits -/
theorem bitOr_nat (a b : Nat) : Builtin.bitOr (a : Int) (b : Int) = ((a ||| b : Nat) : Int) := by
  have q := Bits.bitOr_pp (Int.natCast_nonneg a) (Int.natCast_nonneg b)
  simpa using q
theorem bitAnd_nat (a b : Nat) : Builtin.bitAnd (a : Int) (b : Int) = ((a &&& b : Nat) : Int) := by
  first
    | rfl
    | simp [Builtin.bitAnd]
theorem shl_nat (i : Nat) : (1 : Int) * 2 ^ ((i : Nat) : Int).toNat = ((2 ^ i : Nat) : Int) := by simp
theorem shr_nat (a i : Nat) : (a : Int) / 2 ^ ((i : Nat) : Int).toNat = ((a >>> i : Nat) : Int) := by
  rw [Nat.shiftRight_eq_div_pow]
  simp
section
variable {X : Cx}
theorem op_orN : OpR X (binaryOp .BitOr) (fun x y H Q => ∃ a b : Nat, x = .int (a : Int) ∧ y = .int (b : Int) ∧ Q (.int ((a ||| b : Nat) : Int)) H) := by
  intro pins s σ H x y v u Q I rx ry h
  obtain ⟨a, b, rfl, rfl, q⟩ := h
  rw [← bitOr_nat] at q
  exact op_or pins s σ H _ _ v u Q I rx ry ⟨_, _, rfl, rfl, q⟩
theorem op_andN : OpR X (binaryOp .BitAnd) (fun x y H Q => ∃ a b : Nat, x = .int (a : Int) ∧ y = .int (b : Int) ∧ Q (.int ((a &&& b : Nat) : Int)) H) := by
  intro pins s σ H x y v u Q I rx ry h
  obtain ⟨a, b, rfl, rfl, q⟩ := h
  rw [← bitAnd_nat] at q
  exact op_and pins s σ H _ _ v u Q I rx ry ⟨_, _, rfl, rfl, q⟩
theorem op_shl1 : OpR X (binaryOp .LShift) (fun x y H Q => ∃ b : Nat, x = .int 1 ∧ y = .int (b : Int) ∧ b ≤ 1000000 ∧ Q (.int ((2 ^ b : Nat) : Int)) H) := by
  intro pins s σ H x y v u Q I rx ry h
  obtain ⟨b, rfl, rfl, hb, q⟩ := h
  rw [← shl_nat] at q
  exact op_shl pins s σ H _ _ v u Q I rx ry ⟨_, _, rfl, rfl, ⟨by omega, by omega, by decide⟩, q⟩
theorem op_shrB : OpR X (binaryOp .RShift) (fun x y H Q => ∃ a b : Nat, x = .int (a : Int) ∧ y = .int (b : Int) ∧ Q (.int ((a >>> b : Nat) : Int)) H) := by
  intro pins s σ H x y v u Q I rx ry h
  obtain ⟨a, b, rfl, rfl, q⟩ := h
  rw [← shr_nat] at q
  exact op_shr pins s σ H _ _ v u Q I rx ry ⟨_, _, rfl, rfl, by omega, q⟩
end
/-! ### tests -/
theorem iteI {a b : Int} {A B : Prop} (h1 : a = b → A) (h2 : a ≠ b → B) : if decide (V.int a = V.int b) = true then A else B :=
  ite2 (fun c => h1 (V.int.inj (of_decide_eq_true c))) (fun c => h2 fun e => c (decide_eq_true (by rw [e])))
theorem iteNI {a b : Int} {A B : Prop} (h1 : a ≠ b → A) (h2 : a = b → B) : if (!decide (V.int a = V.int b)) = true then A else B := by
  by_cases e : a = b
  · rw [if_neg (by simp [e])]
    exact h2 e
  · rw [if_pos (by simp [e])]
    exact h1 e
theorem iteD {p : Prop} [Decidable p] {A B : Prop} (h1 : p → A) (h2 : ¬ p → B) : if decide p = true then A else B :=
  ite2 (fun c => h1 (of_decide_eq_true c)) (fun c => h2 fun e => c (decide_eq_true e))
theorem iteB {b : Bool} {A B : Prop} (h1 : b = true → A) (h2 : b = false → B) : if b = true then A else B := by
  cases b with
  | true => rw [if_pos rfl]; exact h1 rfl
  | false => rw [if_neg Bool.false_ne_true]; exact h2 rfl
/-- range(n): the turn's number as it is -/
theorem for_rng {n : Nat} {g : TG} {tb : TS} {D : Ends} {σ : L2.St} {H : Hp} (Pv : Nat → L2.St → Hp → Prop) (h0 : Pv 0 σ H)
    (hs : ∀ i σ H, i < n → Pv i σ H → g (.int (i : Nat)) σ H fun σ2 H2 => tb { D with nx := Pv (i + 1), ct := Pv (i + 1), bk := D.nx } σ2 H2) (hd : ∀ σ H, Pv n σ H → D.nx σ H) :
    ∃ W : Nat → Nat → L2.St → Hp → Prop, (∃ m, W 0 m σ H) ∧ ∀ i m σ H, W i m σ H →
      ((Itr 0 n).stop i H ∧ D.nx σ H) ∨ ((Itr 0 n).go i H ∧ ∃ N : L2.St → Hp → Prop, (∀ σ' H', N σ' H' → ∃ m', m' < m ∧ W (i + 1) m' σ' H') ∧ ∀ x H', (Itr 0 n).yld i H x H' → g x σ H' fun σ2 H2 => tb { D with nx := N, ct := N, bk := D.nx } σ2 H2) :=
  for_range (lo := 0) Pv h0 (fun i σ H hi p => by rw [Int.zero_add]; exact hs i σ H hi p) hd
theorem lc_rng {n : Nat} {g : TG} {tt : TT} {te : TE} {vs : List Nat} {σ : L2.St} {H1 : Hp} {D : Addr} {Qd : Hp → Prop} (Pv : Nat → Hp → Prop) (h0 : Pv 0 (upd H1 D (.lst [])))
    (hs : ∀ i H, i < n → Pv i H → g (.int (i : Nat)) (wipe σ vs) H fun σ2 H2 => wipe σ2 vs = wipe σ vs ∧ tt σ2 H2 fun b H3 =>
      if b = true then te σ2 H3 fun y H4 => ∃ acc, H4 D = some (.lst acc) ∧ acc.length < sizeLine ∧ Pv (i + 1) (upd H4 D (.lst (acc ++ [y]))) else Pv (i + 1) H3) (hd : ∀ H, Pv n H → Qd H) :
    ∃ W : Nat → Nat → Hp → Prop, (∃ m, W 0 m (upd H1 D (.lst []))) ∧ ∀ i m H, W i m H →
      ((Itr 0 n).stop i H ∧ Qd H) ∨ ((Itr 0 n).go i H ∧ ∃ Nx : Hp → Prop, (∀ H', Nx H' → ∃ m', m' < m ∧ W (i + 1) m' H') ∧ ∀ x H', (Itr 0 n).yld i H x H' → g x (wipe σ vs) H' fun σ2 H2 => wipe σ2 vs = wipe σ vs ∧ tt σ2 H2 fun b H3 =>
        if b = true then te σ2 H3 fun y H4 => ∃ acc, H4 D = some (.lst acc) ∧ acc.length < sizeLine ∧ Nx (upd H4 D (.lst (acc ++ [y]))) else Nx H3) :=
  lc_range (lo := 0) Pv h0 (fun i H hi p => by rw [Int.zero_add]; exact hs i H hi p) hd
/-- heaps -/
theorem _root_.L2.Same.new {H : Hp} {p : Addr} {o : HO} (h : H p = none) : Same H (upd H p o) := fun a u e => by
  rw [upd_ne (ne_of_none e h)]
  exact e
theorem _root_.L2.Same.to {H H' : Hp} {p : Addr} {o : HO} (S : Same H H') (h : H' p = none) : Same H (upd H' p o) := S.trans (Same.new h)
/-- an object that H does not know may change -/
theorem _root_.L2.Same.mut {H H' : Hp} {p : Addr} {o : HO} (e : Same H H') (h : H p = none) : Same H (upd H' p o) := fun a u ha => by
  rw [upd_ne (ne_of_none ha h)]
  exact e a u ha
end Rw
/-! ## RdBase2 -/
/-! # More short words: slices, sums of tuples, a heap without an object. -/
namespace Rw
open PySem PySem.Spec PyProof.Rows L2
theorem nV_snoc (L : List Nat) (m : Nat) : nV L ++ [V.int (m : Nat)] = nV (L ++ [m]) := by simp [nV]
theorem nV_append (L M : List Nat) : nV L ++ nV M = nV (L ++ M) := by simp [nV]
theorem nV_take (L : List Nat) (k : Nat) : (nV L).take k = nV (L.take k) := by simp [nV, List.map_take]
theorem nV_drop (L : List Nat) (k : Nat) : (nV L).drop k = nV (L.drop k) := by simp [nV, List.map_drop]
theorem nV_get {L : List Nat} {i : Nat} {x : V} (h : (nV L)[i]? = some x) : i < L.length ∧ x = .int (Rd.gL L i : Nat) := by
  obtain ⟨m, h1, h2⟩ := get_map h
  have hi := get_lt h1
  refine ⟨hi, ?_⟩
  rw [h2, Rd.gL_eq hi]
  rw [List.getElem?_eq_getElem hi] at h1
  rw [Option.some.inj h1]
theorem small_line {n : Nat} (h : n ≤ 10000000) : n < sizeLine := Nat.lt_of_le_of_lt h (by decide)
theorem small_le {n : Nat} (h : n ≤ 10000000) : n ≤ sizeLine := Nat.le_of_lt (small_line h)
theorem tb_iff {a m : Nat} : ((a >>> m &&& 1 : Nat) : Int) = 1 ↔ a.testBit m = true := by
  have e0 : 1 &&& a >>> m = a >>> m % 2 := by rw [Nat.and_comm, Nat.and_one_is_mod]
  rw [Nat.testBit, Nat.and_comm, e0]
  have : a >>> m % 2 = 0 ∨ a >>> m % 2 = 1 := by omega
  rcases this with e | e <;> simp [e]
theorem home_succ (i : Nat) : (List.range (i + 1)).map (fun b => 2 ^ b) = (List.range i).map (fun b => 2 ^ b) ++ [2 ^ i] := by
  rw [List.range_succ, List.map_append]
  rfl
theorem at_cons0 {α : Type} (x : α) (xs : List α) : atI (x :: xs) (0 : Int) = some x := atI_nat (j := 0) rfl
theorem cut_take (xs : List V) (k : Nat) : cutV xs none (some (k : Int)) = xs.take k := by
  rw [cutV, HT.sIx_none, HT.sIx_nat, List.drop_zero, Nat.sub_zero]
  by_cases h : k ≤ xs.length
  · rw [Nat.min_eq_left h]
  · rw [Nat.min_eq_right (by omega), List.take_of_length_le (Nat.le_refl _), List.take_of_length_le (by omega)]
theorem cut_drop (xs : List V) (k : Nat) : cutV xs (some (k : Int)) none = xs.drop k := by
  rw [cutV, HT.sIx_none, HT.sIx_nat]
  by_cases h : k ≤ xs.length
  · rw [Nat.min_eq_left h, List.take_of_length_le (by simp)]
  · rw [Nat.min_eq_right (by omega), List.drop_of_length_le (by omega), List.drop_of_length_le (by omega)]
    simp
section
variable {K : PySem.W.Frag} {H : Hp} {Q : VK} {a b : Addr} {xs ys : List V}
theorem slA_any {lo hi : Option Int} (h : H a = some (.tup xs)) (q : ∀ r H', Same H H' → H' r = some (.tup (cutV xs lo hi)) → Q (.ref r) H') : rSlA K (.ref a) lo hi H Q := by
  refine ⟨a, xs, rfl, SqT.of h, fun ⟨e1, e2⟩ => q a H (Same.refl H) ?_, fun _ p hp => q p _ (.new hp) upd_same⟩
  rw [cutV, e1, e2, List.drop_zero, Nat.sub_zero, List.take_of_length_le (Nat.le_refl _)]
  exact h
theorem catA_any (h1 : H a = some (.tup xs)) (h2 : H b = some (.tup ys)) (hz : xs.length + ys.length ≤ sizeLine) (q : ∀ r H', Same H H' → H' r = some (.tup (xs ++ ys)) → Q (.ref r) H') : rCatA K (.ref a) (.ref b) H Q := by
  refine ⟨a, b, xs, ys, rfl, rfl, SqT.of h1, SqT.of h2, hz, fun e => q b H (Same.refl H) ?_, fun _ e => q a H (Same.refl H) ?_, fun _ _ p hp => q p _ (.new hp) upd_same⟩
  · rw [e]
    exact h2
  · rw [e, List.append_nil]
    exact h1
end
/-! ### the heap without the object at p -/
def wo (H : Hp) (p : Addr) : Hp := fun b => if b = p then none else H b
theorem wo_ne {H : Hp} {p b : Addr} (h : b ≠ p) : wo H p b = H b := if_neg h
theorem wo_self {H : Hp} {p : Addr} : wo H p p = none := if_pos rfl
theorem wo_same {H : Hp} {p : Addr} : Same (wo H p) H := fun b o e => by
  by_cases h : b = p
  · rw [h, wo_self] at e
    cases e
  · rw [wo_ne h] at e
    exact e
theorem same_wo {H H' : Hp} {p : Addr} (S : Same H H') (h : H p = none) : Same H (wo H' p) := fun b o e => by
  rw [wo_ne (ne_of_none e h)]
  exact S b o e
/-- the list of the items as it is -/
theorem dt_list_at {H : Hp} {a : Addr} {xs : List V} {ds : List PyData} (h : H a = some (.lst xs)) (d : DtAll H xs ds) : Dt H (.ref a) (.list ds) := .lst h d
theorem lks_dt {H : Hp} {v : V} {ls : List Lk} (h : Dt H v (lksD ls)) : ∃ a xs, v = .ref a ∧ H a = some (.lst xs) ∧ xs.length = ls.length ∧ DtAll H xs (ls.map lkD) ∧ ∀ (i : Nat) x, xs[i]? = some x → ∃ p l, x = .ref p ∧ ls[i]? = some l ∧ H p = some (.tup [.int l.1, .int l.2]) := by
  obtain ⟨a, xs, rfl, h1, h2⟩ := h.list_inv
  obtain ⟨a', xs', e, h1', h3, h4⟩ := lks_inv h
  cases e
  rw [h1] at h1'
  cases h1'
  exact ⟨a, xs, rfl, h1, h3, h2, h4⟩
/-- the i-th link -/
theorem lk_at {H : Hp} {xs : List V} {ls : List Lk} {i : Nat} {l : Lk} (d : DtAll H xs (ls.map lkD)) (h : ls[i]? = some l) : ∃ p, atI xs (i : Int) = some (.ref p) ∧ H p = some (.tup [.int l.1, .int l.2]) := by
  obtain ⟨v, h1, h2⟩ := d.get (i := i) (d := lkD l) (by rw [List.getElem?_map, h]; rfl)
  obtain ⟨p, rfl, h3⟩ := lk_inv h2
  exact ⟨p, atI_nat h1, h3⟩
end Rw
/-! ## RdMath5 -/
set_option maxHeartbeats 1000000
/-! # The plain law, part 5: the law's own way to the settled numbers, turn by turn. -/
namespace Rd
def fO (fs : List (Option Int)) (b : Nat) : Option Int := fs.getD b none
structure SetInv (n : Nat) (ls : List Lk) (L : List Nat) (i j : Nat) (fs : List (Option Int)) : Prop where
  len : fs.length = n
  val : ∀ b v, b < n → fO fs b = some v → v = gI (sv n ls L) b
  non : ∀ b, b < n → fO fs b = none → kn n ls b = false ∧ wr ls b ≠ []
  done : ∀ b, b < n → (rk n ls b ≤ i ∨ (rk n ls b ≤ i + 1 ∧ b < j)) → fO fs b ≠ none
theorem fO_set_self {fs : List (Option Int)} {b : Nat} {v : Option Int} (h : b < fs.length) : fO (fs.set b v) b = v := by
  simp [fO, List.getD_eq_getElem?_getD, h]
theorem fO_set_ne {fs : List (Option Int)} {b c : Nat} {v : Option Int} (h : c ≠ b) : fO (fs.set b v) c = fO fs c := by
  simp [fO, List.getD_eq_getElem?_getD, Ne.symm h]
theorem SetInv.keep {n : Nat} {ls : List Lk} {L : List Nat} {i j : Nat} {fs : List (Option Int)} (s : SetInv n ls L i j fs) (h : fO fs j ≠ none) : SetInv n ls L i (j + 1) fs := by
  refine ⟨s.len, s.val, s.non, fun b hb q => ?_⟩
  by_cases e : b = j
  · rw [e]
    exact h
  · exact s.done b hb (q.imp id fun z => ⟨z.1, by omega⟩)
theorem SetInv.wait {n : Nat} {ls : List Lk} {L : List Nat} {i j : Nat} {fs : List (Option Int)} (ho : Okl n ls) (s : SetInv n ls L i j fs) (hj : j < n) (h : fO fs j = none) (hs : ∃ u ∈ wr ls j, fO fs u = none) : SetInv n ls L i (j + 1) fs := by
  obtain ⟨u, hu, e⟩ := hs
  refine ⟨s.len, s.val, s.non, fun b hb q => ?_⟩
  by_cases eb : b = j
  · subst eb
    have hkn := (s.non b hb h).1
    have hlt := rk_lt ho hu hkn
    have hun := (ho _ (mem_wr.mp hu)).2.1
    have hno : ¬ rk n ls u ≤ i := fun z => s.done u hun (.inl z) e
    rcases q with q | q
    · omega
    · omega
  · exact s.done b hb (q.imp id fun z => ⟨z.1, by omega⟩)
theorem SetInv.put {n : Nat} {ls : List Lk} {L : List Nat} {i j : Nat} {fs : List (Option Int)} (ho : Okl n ls) (s : SetInv n ls L i j fs) (hj : j < n) (h : fO fs j = none) :
    SetInv n ls L i (j + 1) (fs.set j (some (common ((wr ls j).map (gI (sv n ls L)))))) := by
  obtain ⟨h1, h2⟩ := s.non j hj h
  have hl : j < fs.length := by rw [s.len]; exact hj
  have ev : gI (sv n ls L) j = common ((wr ls j).map (gI (sv n ls L))) := by
    rw [sets_sv ho j hj, h1, if_neg Bool.false_ne_true, if_neg h2]
  refine ⟨by rw [List.length_set, s.len], fun b v hb q => ?_, fun b hb q => ?_, fun b hb q => ?_⟩
  · by_cases e : b = j
    · subst e
      rw [fO_set_self hl] at q
      rw [← Option.some.inj q, ← ev]
    · rw [fO_set_ne e] at q
      exact s.val b v hb q
  · by_cases e : b = j
    · subst e
      rw [fO_set_self hl] at q
      cases q
    · rw [fO_set_ne e] at q
      exact s.non b hb q
  · by_cases e : b = j
    · subst e
      rw [fO_set_self hl]
      exact fun z => nomatch z
    · rw [fO_set_ne e]
      exact s.done b hb (q.imp id fun z => ⟨z.1, by omega⟩)
theorem SetInv.turn {n : Nat} {ls : List Lk} {L : List Nat} {i : Nat} {fs : List (Option Int)} (s : SetInv n ls L i n fs) : SetInv n ls L (i + 1) 0 fs :=
  ⟨s.len, s.val, s.non, fun b hb q => s.done b hb (.inr ⟨q.elim id fun z => absurd z.2 (by omega), hb⟩)⟩
/-- the list ahead of the turns -/
def f0 (n : Nat) (ls : List Lk) (L : List Nat) (b : Nat) : Option Int := if kn n ls b then some (sing n (gL L b)) else if wr ls b = [] then some (b : Int) else none
theorem SetInv.start {n : Nat} {ls : List Lk} {L : List Nat} (ho : Okl n ls) : SetInv n ls L 0 0 ((List.range n).map (f0 n ls L)) := by
  have e : ∀ b, b < n → fO ((List.range n).map (f0 n ls L)) b = f0 n ls L b := fun b hb => by
    simp [fO, List.getD_eq_getElem?_getD, hb]
  refine ⟨by simp, fun b v hb q => ?_, fun b hb q => ?_, fun b hb q => ?_⟩
  · rw [e b hb, f0] at q
    rw [sets_sv ho b hb]
    cases c : kn n ls b with
    | true =>
      rw [c, if_pos rfl] at q
      rw [if_pos rfl]
      exact (Option.some.inj q).symm
    | false =>
      rw [c, if_neg Bool.false_ne_true] at q
      rw [if_neg Bool.false_ne_true]
      by_cases d : wr ls b = []
      · rw [if_pos d] at q
        rw [if_pos d]
        exact (Option.some.inj q).symm
      · rw [if_neg d] at q
        cases q
  · rw [e b hb, f0] at q
    cases c : kn n ls b with
    | true =>
      rw [c, if_pos rfl] at q
      cases q
    | false =>
      rw [c, if_neg Bool.false_ne_true] at q
      refine ⟨rfl, fun d => ?_⟩
      rw [if_pos d] at q
      cases q
  · have := rk_pos ho hb
    rcases q with q | q
    · omega
    · omega
theorem SetInv.fin {n : Nat} {ls : List Lk} {L : List Nat} {fs : List (Option Int)} (s : SetInv n ls L n 0 fs) : fs = (sv n ls L).map some := by
  refine List.ext_getElem (by rw [s.len, List.length_map, len_sv]) fun b h1 h2 => ?_
  have hb : b < n := by rw [← s.len]; exact h1
  have hne := s.done b hb (.inl (rk_le n ls b))
  have ef : fO fs b = fs[b] := by simp [fO, List.getD_eq_getElem?_getD, h1]
  cases q : fO fs b with
  | none => exact absurd q hne
  | some v =>
    have ev := s.val b v hb q
    rw [← ef, q, List.getElem_map, ev]
    have h3 : b < (sv n ls L).length := by rw [len_sv]; exact hb
    simp [gI, List.getD_eq_getElem?_getD, h3]
theorem wr_snoc (ls : List Lk) (l : Lk) (b : Nat) : wr (ls ++ [l]) b = wr ls b ++ (if l.1 = b then [l.2] else []) := by
  rw [wr, List.filter_append, List.map_append]
  congr 1
  by_cases e : l.1 = b
  · simp [e]
  · simp [e]
theorem common_count {x : Int} {r : List Int} : common (x :: r) = if (x :: r).count x = (x :: r).length then x else -2 := by
  by_cases h : (x :: r).count x = (x :: r).length
  · rw [if_pos h]
    exact common_all (by simp) fun y hy => (List.count_eq_length.mp h y hy).symm
  · rw [if_neg h, common, if_neg fun q => h (List.count_eq_length.mpr fun y hy => (beq_iff_eq.mp (List.all_eq_true.mp q y hy)).symm)]
end Rd
/-! ## RdBase3 -/
set_option maxHeartbeats 4000000
/-! # Rows of numbers: as data, as keys of a dict; a heap without two objects. -/
namespace Rw
open PySem PySem.Spec PyProof.Rows L2
def rowD (L : List Nat) : PyData := .tuple (L.map fun m => .int (m : Nat))
def rowsD (rows : List (List Nat)) : PyData := .list (rows.map rowD)
theorem row_ints (L : List Nat) : (L.map fun m => PyData.int (m : Nat)) = (L.map fun m => ((m : Nat) : Int)).map PyData.int := by simp
theorem dt_row {H : Hp} {a : Addr} {L : List Nat} (h : H a = some (.tup (nV L))) : Dt H (.ref a) (rowD L) := by
  refine .tup h ?_
  rw [row_ints]
  have e : nV L = (L.map fun m => ((m : Nat) : Int)).map V.int := by simp [nV]
  rw [e]
  exact dt_ints _
theorem row_inv {H : Hp} {v : V} {L : List Nat} (h : Dt H v (rowD L)) : ∃ a, v = .ref a ∧ H a = some (.tup (nV L)) := by
  obtain ⟨a, xs, rfl, h1, h2⟩ := h.tuple_inv
  refine ⟨a, rfl, ?_⟩
  rw [row_ints] at h2
  rw [h1, ints_dt h2]
  simp [nV]
theorem rows_at {H : Hp} {xs : List V} {rows : List (List Nat)} {i : Nat} (d : DtAll H xs (rows.map rowD)) (h : i < rows.length) : ∃ a, xs[i]? = some (.ref a) ∧ H a = some (.tup (nV rows[i])) := by
  obtain ⟨v, h1, h2⟩ := d.get (i := i) (d := rowD rows[i]) (by rw [List.getElem?_map, List.getElem?_eq_getElem h]; rfl)
  obtain ⟨a, rfl, h3⟩ := row_inv h2
  exact ⟨a, h1, h3⟩
theorem rows_of {H : Hp} {xs : List V} {rows : List (List Nat)} {i : Nat} {x : V} (d : DtAll H xs (rows.map rowD)) (h : xs[i]? = some x) : ∃ a r, x = .ref a ∧ rows[i]? = some r ∧ H a = some (.tup (nV r)) := by
  obtain ⟨dd, h1, h2⟩ := d.of_get h
  obtain ⟨r, h3, rfl⟩ := get_map h1
  obtain ⟨a, rfl, h4⟩ := row_inv h2
  exact ⟨a, r, rfl, h3, h4⟩
/-! ### keys -/
def kN (L : List Nat) : List Key := L.map fun m => Sum.inl ((m : Nat) : Int)
theorem kN_kV (L : List Nat) : (kN L).map kV = nV L := by
  rw [kN, List.map_map]
  rfl
theorem kN_inj : ∀ {L M : List Nat}, kN L = kN M → L = M
  | [], [], _ => rfl
  | [], _ :: _, h => by simp [kN] at h
  | _ :: _, [], h => by simp [kN] at h
  | l :: L, m :: M, h => by
    have h1 : (Sum.inl (l : Int) : Key) = Sum.inl (m : Int) ∧ kN L = kN M := by simpa [kN] using h
    rw [Int.ofNat.inj (Sum.inl.inj h1.1), kN_inj h1.2]
def knV (rows : List (List Nat)) : List (List Key × V) := rows.map fun r => (kN r, V.bl true)
theorem knV_some (rows : List (List Nat)) (r : List Nat) : (valV (knV rows) (kN r)).isSome = rows.contains r := by
  rw [← valV_any, knV, List.any_map]
  refine Bool.eq_iff_iff.mpr ?_
  rw [List.any_eq_true, List.contains_iff_mem]
  constructor
  · rintro ⟨x, hx, e⟩
    rw [← kN_inj (of_decide_eq_true e)]
    exact hx
  · exact fun h => ⟨r, h, decide_eq_true rfl⟩
theorem knV_put {rows : List (List Nat)} {r : List Nat} (h : rows.contains r = false) : putK (knV rows) (kN r) (V.bl true) = knV (rows ++ [r]) := by
  have e : valV (knV rows) (kN r) = none := by
    have q := knV_some rows r
    rw [h] at q
    cases z : valV (knV rows) (kN r) with
    | none => rfl
    | some v => rw [z] at q; cases q
  rw [putK_new _ e]
  simp [knV]
theorem knV_len (rows : List (List Nat)) : (knV rows).length = rows.length := by simp [knV]
theorem none_of {H H1 : Hp} {p : Addr} (S : Same H H1) (h : H1 p = none) : H p = none := by
  cases e : H p with
  | none => rfl
  | some o => rw [S _ _ e] at h; cases h
theorem rgV_nat (n : Nat) : rgV 0 (n : Int) = nV (List.range n) := by
  have e : ((n : Int) - 0).toNat = n := by omega
  rw [rgV, e, nV]
  exact List.map_congr_left fun i _ => by rw [Int.zero_add]
/-! ### without an object -/
theorem wo_mono {H H' : Hp} {p : Addr} (S : Same H H') : Same (wo H p) (wo H' p) := fun b o e => by
  by_cases h : b = p
  · rw [h, wo_self] at e
    cases e
  · rw [wo_ne h] at e ⊢
    exact S _ _ e
theorem wo_upd {H : Hp} {p : Addr} {o : HO} : wo (upd H p o) p = wo H p := by
  funext b
  by_cases h : b = p
  · rw [h, wo_self, wo_self]
  · rw [wo_ne h, wo_ne h, upd_ne h]
theorem wo_upd_ne {H : Hp} {p q : Addr} {o : HO} (h : q ≠ p) : wo (upd H q o) p = upd (wo H p) q o := by
  funext b
  by_cases e : b = p
  · rw [e, wo_self, upd_ne h.symm, wo_self]
  · rw [wo_ne e]
    by_cases e2 : b = q
    · rw [e2, upd_same, upd_same]
    · rw [upd_ne e2, upd_ne e2, wo_ne e]
/-- the heap without the objects at p and d -/
def wo2 (H : Hp) (p d : Addr) : Hp := wo (wo H p) d
theorem wo2_same {H : Hp} {p d : Addr} : Same (wo2 H p d) H := wo_same.trans wo_same
theorem wo2_mono {H H' : Hp} {p d : Addr} (S : Same H H') : Same (wo2 H p d) (wo2 H' p d) := wo_mono (wo_mono S)
theorem wo2_p {H : Hp} {p d : Addr} {o : HO} : wo2 (upd H p o) p d = wo2 H p d := by rw [wo2, wo_upd]; rfl
theorem wo2_d {H : Hp} {p d : Addr} {o : HO} (h : d ≠ p) : wo2 (upd H d o) p d = wo2 H p d := by rw [wo2, wo_upd_ne h, wo_upd]; rfl
theorem wo2_ne {H : Hp} {p d b : Addr} (h1 : b ≠ p) (h2 : b ≠ d) : wo2 H p d b = H b := by rw [wo2, wo_ne h2, wo_ne h1]
theorem same_wo2 {H H' : Hp} {p d : Addr} (S : Same H H') (h1 : H p = none) (h2 : H d = none) : Same H (wo2 H' p d) := same_wo (same_wo S h1) h2
end Rw
/-! ## RdRa -/
/-! # Rules that the layer lacks: enumerate of a tuple, sorted of a tuple of ints, its index, text times number; calls that may raise. -/
namespace PySem
open Sem (wp)
open AutoSeq1 (wpAny_loadPart')
theorem rd_enum_newT (l : Addr) (items : Array Value) (n : Nat) (dct : Option Addr) (sl : Array (Option Value)) :
    Meets (Builtin.«enumerate.__new__» ⟨[.type "enumerate", .ref l], []⟩) (fun _ R s => s.heap.get? l = some { cls := .type "tuple", dict := dct, data := .seq items n, slots := sl } ∧
      R (.ok (.ret (.ref (s.heap.push { cls := .type "tuple_iterator", data := .fields #[.ref l, .int 0 0] }).objs.size)))
        { s with heap := (s.heap.push { cls := .type "tuple_iterator", data := .fields #[.ref l, .int 0 0] }).push { cls := .type "enumerate", data := .fields #[.none, .bool false, .ref s.heap.objs.size, rawInt 0, .none, .none] } }) :=
  .of_wp fun prog w A R s h => by
    obtain ⟨hp, g, d, tk, os⟩ := s
    obtain ⟨hl, h⟩ := h
    have hsub := sub_enumerate
    have hL : Heap.IsTuple (Shared.heap ⟨hp, g, d, tk, os⟩) l items := ⟨_, hl, rfl, n, rfl⟩
    wp_walk using wpAny_loadPart' hl
    refine wpAny_stack_any fun st => wpAny_pure ?_
    split
    · rename_i c _ _ _ _ _
      cases (c == Value.type "enumerate")
      · wp_walk using wpAny_loadPart' hl, wpAny_pyIter_tuple hL
        exact ⟨_, rfl, h⟩
      · wp_walk using wpAny_loadPart' hl, wpAny_pyIter_tuple hL
        exact ⟨_, rfl, h⟩
    · wp_walk using wpAny_loadPart' hl, wpAny_pyIter_tuple hL
      exact ⟨_, rfl, h⟩
theorem rd_call_enumT {prog : Program} {w : World} {A : Around} {E : Value → Shared → Prop} {s : Shared} {l : Addr} {items : Array Value} {Q : Value → Shared → Prop} (hL : s.heap.IsTuple l items)
    (h : ∀ h', IsEnum h' (s.heap.objs.size + 1) s.heap.objs.size 0 .none → h'.IsTupleIter s.heap.objs.size l 0 → h'.objs.size = s.heap.objs.size + 2 →
      (∀ b o, s.heap.get? b = some o → h'.get? b = some o) → Q (.ref (s.heap.objs.size + 1)) { s with heap := h' }) : wpAny (model prog w) A (call (.type "enumerate") [.ref l]) Q E s := by
  obtain ⟨⟨c, dct, dt, sl⟩, hl, hc, n, hd⟩ := hL
  have ec : c = .type "tuple" := hc
  have ed : dt = .seq items n := hd
  subst ec ed
  have hz : (s.heap.push { cls := .type "tuple_iterator", data := .fields #[.ref l, .int 0 0] }).objs.size = s.heap.objs.size + 1 := Heap.size_push ..
  refine callType_new F.called_enumerate (by decide) (F.typeCall_enumerate_1 _) (F.newCall_enumerate_1 _) (fun obj => F.args_object_init_2 obj _) F.entry_enumerate_new (rd_enum_newT l items n dct sl) ⟨hl, ?_⟩
  show _ ∧ _
  rw [hz]
  have he : IsEnum ((s.heap.push { cls := .type "tuple_iterator", data := .fields #[.ref l, .int 0 0] }).push
      { cls := .type "enumerate", data := .fields #[.none, .bool false, .ref s.heap.objs.size, rawInt 0, .none, .none] }) (s.heap.objs.size + 1) s.heap.objs.size 0 .none := by
    have z := Heap.get?_push_size (s.heap.push { cls := .type "tuple_iterator", data := .fields #[.ref l, .int 0 0] })
      (o := { cls := .type "enumerate", data := .fields #[.none, .bool false, .ref s.heap.objs.size, rawInt 0, .none, .none] }) rfl
    rw [hz] at z
    exact z
  exact ⟨⟨_, he, rfl⟩, h _ he ⟨_, Heap.get?_push_of_some _ (Heap.get?_push_size _ rfl), rfl, rfl⟩ (by rw [Heap.size_push, hz]) fun b o x => Heap.get?_push_of_some _ (Heap.get?_push_of_some _ x)⟩
end PySem
/-! ## RdRb -/
/-! # Rules that the layer lacks: enumerate of a tuple, sorted of a tuple of ints, its index, text times number; calls that may raise. -/
namespace Rw
open PySem PySem.Spec PyProof.Rows L2
/-! ### enumerate(tuple) -/
/-- the tuple at a, each item in a new pair -/
def IteT (K : PySem.W.Frag) (a : Addr) : It :=
  ⟨fun i H => ∃ (xs : List V) (x : V), SqT K H a xs ∧ xs[i]? = some x, fun i H v H' => ∃ T x, v = .ref T ∧ H T = none ∧ H' = upd H T (.tup [.int (i : Nat), x]) ∧ ∀ xs, SqT K H a xs → xs[i]? = some x, fun i H => ∃ xs : List V, SqT K H a xs ∧ xs.length ≤ i⟩
theorem turn_enumT {P : Program} {w : World} {K : PySem.W.Frag} {elts : List Expr} {kk : Nat} {tpos : Pos} (a e it : Addr) :
    Turn P w K (.Tuple elts kk tpos) (IteT K a) [e, it] e (fun i h => (∃ old, IsEnum h e it ((i : Nat) : Int) old) ∧ h.IsTupleIter it a i ∧ e ≠ it) where
  mem := by simp
  obj := fun i h st b hb => by
    obtain ⟨⟨old, he⟩, ⟨o, ho, hc, hd⟩, _⟩ := st
    have e' : b = e ∨ b = it := by simpa using hb
    rcases e' with z | z
    · rw [z]; exact ⟨_, he, fun v q => nomatch q⟩
    · rw [z]; exact ⟨o, ho, fun v q => by rw [hd] at q; cases q⟩
  keep := fun i h h' st k => let ⟨⟨old, he⟩, hi, hne⟩ := st; ⟨⟨old, k e (by simp) _ he⟩, hi.at fun o q => k it (by simp) o q, hne⟩
  item := by
    intro X hP hw hK hc i pins s σ H E I hf st hg
    subst hP hw hK
    obtain ⟨⟨old, he⟩, hit, hne⟩ := st
    obtain ⟨xs, x, hq, hx⟩ := hg
    obtain ⟨its, rv, p, hz⟩ := I.tuple hq
    have p' : s.heap.IsTuple a its.toArray := p
    obtain ⟨u, hu, ru⟩ := rv.get hx
    have hel : e < s.heap.objs.size := Heap.lt_size he
    have hil : it < s.heap.objs.size := by obtain ⟨_, q, _⟩ := hit; exact Heap.lt_size q
    have ait : a ≠ it := fun z => by
      obtain ⟨o1, q1, _, n1, d1⟩ := p'
      obtain ⟨o2, q2, c2, d2⟩ := hit
      rw [z, q2] at q1
      cases q1
      rw [d2] at d1
      cases d1
    have ae : e ≠ a := fun z => by
      obtain ⟨o1, q1, _, n1, d1⟩ := p'
      rw [← z, he] at q1
      cases q1
      cases d1
    have hil2 : i < its.toArray.size := by
      have := (List.getElem?_eq_some_iff.mp hu).1
      simpa using this
    refine wpAny_pyNext_enum_itemD (Draws.tuple (prog := X.prog) (w := X.w) (A := X.A.in1) (I.ok.hd hc) it a ait its.toArray) he ⟨hit, p'⟩ hil2 hne (by intro z; rcases List.mem_cons.mp z with z | z; exact hne z; exact ae (List.mem_singleton.mp z)) fun y h' tk hy ho hit' hT hsz hk => ?_
    have ey : y = u := by
      have hy' : its[i]? = some y := by simpa using hy
      rw [hu] at hy'
      exact (Option.some.inj hy').symm
    subst ey
    refine ⟨_, rfl, wpAny_letOwnedTupleGo_enum (s := { s with heap := h', toks := tk + 1 }) ho fun h'' he' sb => ?_⟩
    have hT2 : h''.get? s.heap.objs.size = some { cls := .type "tuple", data := .seq #[.int i tk, y] } := (sb.2 _ (Nat.ne_of_gt hel)).trans hT
    have new : ObjOk X.prog X.w (upd H s.heap.objs.size (.tup [.int (i : Nat), x])) h'' s.heap.objs.size (.tup [.int (i : Nat), x]) :=
      ⟨by show 2 ≤ sizeLine; decide, [.int i tk, y], .cons ⟨_, rfl⟩ (.cons ru .nil), ⟨_, hT2, rfl, _, rfl⟩⟩
    have I1 : Inv X pins σ (upd H s.heap.objs.size (.tup [.int (i : Nat), x])) { s with heap := h'', toks := tk + 1 } :=
      I.turnedNew (ch := [e, it]) (fun b ob hb q => (sb.2 b (fun z => hb (by simp [z]))).trans (hk b ob (fun z => hb (by simp [z])) (fun z => hb (by simp [z])) q)) hf (Nat.le_refl _) new
    refine ⟨.ref s.heap.objs.size, _, I1, rfl, ⟨_, x, rfl, I.hok.fresh (Nat.le_refl _), rfl, fun ys hy => by rw [I.tuple_inj hy hq]; exact hx⟩, ⟨⟨y, ?_⟩, hit'.1.at fun o q => (sb.2 it (Ne.symm hne)).trans q, hne⟩, fun b hb => ?_⟩
    · have e1 : ((i + 1 : Nat) : Int) = (i : Int) + 1 := by omega
      rw [e1]; exact he'
    · have hb' : b < s.heap.objs.size := by
        have e' : b = e ∨ b = it := by simpa using hb
        rcases e' with z | z
        · rw [z]; exact hel
        · rw [z]; exact hil
      rw [upd_ne (Nat.ne_of_lt hb')]
      exact (hf b hb).1
  done := by
    intro X hP hw hK hc i pins s σ H E I hf st hg
    subst hP hw hK
    obtain ⟨⟨old, he⟩, hit, hne⟩ := st
    obtain ⟨xs, hq, hx⟩ := hg
    obtain ⟨its, rv, p, hz⟩ := I.tuple hq
    have p' : s.heap.IsTuple a its.toArray := p
    obtain ⟨f0, f1, f2, f3, f4, f5⟩ := hf it (by simp)
    have hl := rv.length
    have hT : s.TypeIs (.ref e) "enumerate" := ⟨_, he, rfl⟩
    unfold pyNext
    refine wpAny_bind (wpAny_attempt (wpAny_callSpecial?_slot (name := Str.ofString "__next__") hT F.slot_enumerate_next (wpAny_call_entry F.slot_enumerate_next hT F.entry_enumerate_next ?_ (F.args_enumerate_next_1 _))))
    show wpAny _ _ (field (.ref e) 2 >>= _) _ _ _
    refine wpAny_bind (wpAny_field he rfl (x := .ref it) rfl ?_)
    refine wpAny_bind (wpAny_nextOf_tuple_end (I.ok.hd hc) hit p' (by simp; omega) fun h' x he' hx' => ?_)
    obtain ⟨o, ho, hcl⟩ := hx'
    refine wpAny_bind (wpAny_isInstance (T := "StopIteration") (b := true) ⟨o, ho, hcl⟩ isSubtype_stop ?_)
    exact wpAny_pure ⟨rfl, I.turned (t' := s.toks) (fun b o hb q => he' b o hb q) f0 f1 f3 f4 f5⟩
  self := fun A i s Q E st h => let ⟨⟨_, he⟩, _⟩ := st; wpAny_pyIter_enum he h
def iEnumT (K : PySem.W.Frag) (ta : TA) : TI := fun σ H R => ta σ H fun vs H1 => ∃ a xs, vs = [.ref a] ∧ SqT K H1 a xs ∧ R (IteT K a) H1
theorem pi_enumT {X : Cx} {e : Expr} {ta : TA} {p pos tpos : Pos} {elts : List Expr} {kk : Nat} (hg : Gl X "enumerate") (hm : X.mg "enumerate" = none) (ha : PA X [e] ta) (hs : starEach [e] X.env = [(false, eval e X.env)] := by rfl) :
    PI X (.Tuple elts kk tpos) (.Call (.Name "enumerate" p) [e] [] pos) (iEnumT X.K ta) := by
  refine ⟨fun pins s σ H R I h => ?_⟩
  refine Call_ (ld_blt I hg hm boot_enumerate (PyProof.Rows.callWith_type1 (thn (ha.run pos pins s σ H _ I h) fun us s1 ⟨vs, H1, I1, r1, q1⟩ => ?_) hs rfl))
  obtain ⟨a, xs, ex, hq, q⟩ := q1
  subst ex
  cases r1 with
  | cons r rr =>
    cases rr
    cases r
    obtain ⟨its, rv, p', hz⟩ := I1.tuple hq
    refine rd_call_enumT (show s1.heap.IsTuple a its.toArray from p') fun h' he hit hsz hk => wpAny_pyIter_enum he ?_
    have I2 : Inv X pins σ H1 { s1 with heap := h' } := I1.kept (t' := s1.toks) hk
    refine ⟨s1.heap.objs.size + 1, [s1.heap.objs.size + 1, s1.heap.objs.size], _, _, H1, rfl, I2, turn_enumT a (s1.heap.objs.size + 1) s1.heap.objs.size, ⟨⟨.none, he⟩, hit, Nat.succ_ne_self _⟩, fun b hb => ?_, q⟩
    have e' : b = s1.heap.objs.size + 1 ∨ b = s1.heap.objs.size := by simpa using hb
    have hle : s1.heap.objs.size ≤ b := by
      rcases e' with z | z
      · rw [z]; exact Nat.le_add_right _ _
      · rw [z]; exact Nat.le_refl _
    exact I1.fpOk hle (I1.hok.fresh hle)
end Rw
/-! ## RdRc -/
/-! # Rules that the layer lacks: enumerate of a tuple, sorted of a tuple of ints, its index, text times number; calls that may raise. -/
namespace Rw
open PySem PySem.Spec PyProof.Rows L2
/-! ### t.index(x), ints -/
section
variable {X : Cx}
theorem mt_tup_indexI : MtR X "tuple.index" (fun x xs H Q => ∃ (p : Addr) (ys : List Int) (z : Int) (j : Nat), x = .ref p ∧ xs = [.int z] ∧ SqT X.K H p (ys.map V.int) ∧ ys[j]? = some z ∧ (∀ m, m < j → ys[m]? ≠ some z) ∧ Q (.int (j : Nat)) H) := by
  intro pins s σ H x xs v us Q I rx rs h
  obtain ⟨p, ys, z, j, rfl, rfl, hq, hy, hno, q⟩ := h
  cases rx
  obtain ⟨u, rfl, t, rfl⟩ := vals1 rs
  obtain ⟨its, r, ⟨⟨cls, dd, dt, sl⟩, ho, hc, n, hd⟩, hz⟩ := I.tuple hq
  have ec : cls = .type "tuple" := hc
  have ed : dt = .seq its.toArray n := hd
  subst ec ed
  have hl : its.toArray.size = ys.length := by rw [List.size_toArray, ← r.length, List.length_map]
  have hj : j < its.toArray.size := by rw [hl]; exact (List.getElem?_eq_some_iff.mp hy).1
  have there : ∀ (m : Nat) (hm : m < its.toArray.size), ∃ y t', ys[m]? = some y ∧ its.toArray[m] = Value.int y t' := fun m hm => by
    have hm' : m < ys.length := by rw [← hl]; exact hm
    obtain ⟨w, hw, t', hw'⟩ := r.get (i := m) (x := .int ys[m]) (by simp [hm'])
    refine ⟨ys[m], t', List.getElem?_eq_getElem hm', ?_⟩
    have e := (List.getElem?_eq_some_iff.mp hw).2
    rw [← hw', ← e]
    simp
  have fl : (ys.map V.int).all flatV = true := by
    rw [List.all_map]
    exact List.all_eq_true.mpr fun _ _ => rfl
  refine call_meets PySem.F.slot_tuple_index ⟨_, ho, rfl⟩ PySem.F.entry_tuple_index (PySem.F.args_tuple_index_2 _ _) (TI.tuple_indexAt p its.toArray n dd sl (.int z t) (eqU (.int z)) j hj ?_ ?_)
    ⟨ho, fun w hw => mem_eqAt (x := .int z) ⟨t, rfl⟩ rfl r fl w (by simpa using hw), ⟨.int (j : Nat), H, I.tok _, ⟨_, rfl⟩, q⟩⟩
  · obtain ⟨y, t', h1, h2⟩ := there j hj
    rw [hy] at h1
    cases h1
    rw [h2]
    show (z == z) = true
    exact beq_self_eq_true z
  · intro m hm hmj
    obtain ⟨y, t', h1, h2⟩ := there m hm
    rw [h2]
    show (y == z) = false
    exact beq_eq_false_iff_ne.mpr fun e => hno m hmj (e ▸ h1)
end
end Rw
/-! ## RdRd -/
/-! # More rules: text times number, sorted of a tuple of ints, dead statements, calls that may raise. -/
namespace PySem
open PySem.W PySem.Calls PyProof.Rows
section
variable {prog : Program} {w : World} {A : Around} {E : Value → Shared → Prop} {s : Shared}
theorem rd_collectT {l : Addr} {vs : List Value} {Q : List Value → Shared → Prop} (hl : s.heap.IsTuple l vs.toArray) (h : Q vs { s with heap := (s.heap.push (seqObj "list" #[] 0)).update s.heap.objs.size (Obj.mapSeq (· ++ vs.toArray)) }) (hsz : vs.length ≤ sizeLine) :
    wpAny (model prog w) A (collect (.ref l)) Q E s := by
  obtain ⟨o, ho, hc, n, hd⟩ := id hl
  unfold collect
  refine wpAny_bind (wpAny_runValue (codeAny_builtin entry_proto_collect' ?_))
  show wpAny _ _ (do again (.builtin "list.__iadd__" ⟨[← newList [], .ref l], []⟩)) _ _ s
  refine wpAny_bind (wpAny_newList (wpAny_pure ⟨Code.quiet_builtin _ (by decide +kernel), codeAny_builtin entry_list_iadd' ?_⟩))
  show wpAny _ _ (Builtin.List.listExtendWith (.ref s.heap.objs.size) (.ref l) (.ref s.heap.objs.size)) _ _ { s with heap := s.heap.push (seqObj "list" #[] 0) }
  unfold Builtin.List.listExtendWith
  have ho' : (s.heap.push (seqObj "list" #[] 0)).get? l = some o := Heap.get?_push_of_some _ ho
  refine wpAny_bind (wpAny_typeOf (T := "tuple") ⟨o, ho', hc⟩ ?_)
  have ht : (Value.type "tuple" == Value.type "tuple") = true := by rfl
  rw [if_pos (by rw [ht]; simp)]
  refine wpAny_bind (listItems_at ho' hd ?_)
  refine wpAny_bind (listItems_at (xs := #[]) (n := 0) (Heap.get?_push_size _ rfl) rfl ?_)
  rw [if_neg (by simp)]
  refine wpAny_bind (listUpdate_at (xs := #[]) (n := 0) (Heap.get?_push_size _ rfl) rfl ?_ (Nat.zero_le _) (by show (#[] ++ vs.toArray).size ≤ sizeLine + 1; simp only [Array.size_append, List.size_toArray, List.length_nil]; omega))
  refine wpAny_pure ?_
  show wpAny (model prog w) A (do
      let o ← load s.heap.objs.size
      match o.data with
      | .seq xs _ => pure xs.toList
      | _ => unsupported "internal:collect") Q E { s with heap := (s.heap.push (seqObj "list" #[] 0)).update s.heap.objs.size (Obj.mapSeq (· ++ vs.toArray)) }
  refine wpAny_bind (wpAny_load (get?_update_seq (Heap.get?_push_size _ rfl) _) ?_)
  show wpAny _ _ (pure ((#[] : Array Value) ++ vs.toArray).toList) Q E _
  rw [show ((#[] : Array Value) ++ vs.toArray).toList = vs by simp]
  exact wpAny_pure h
theorem rd_sortedT {l : Addr} {vs : List Value} {ltv : Value → Value → Bool} {Q : Value → Shared → Prop} (O : SrtO.Swo ltv) (hl : s.heap.IsTuple l vs.toArray) (hz : vs.length ≤ sizeLine)
    (hS : 2 ≤ vs.length → ∀ (h₁ : Heap) (a : Addr), h₁.get? a = some (seqObj "list" vs.toArray 0) → SrtO.SortableO prog w A.in1.in1 { s with heap := h₁ } a vs ltv)
    (h : ∀ out : List Value, SrtO.Srtd ltv out → SrtO.Stb ltv out vs → Q (.ref (s.heap.objs.size + 1)) { s with heap := sortedAll s.heap vs out.toArray }) :
    wpAny (model prog w) A (call (.builtin "sorted") [.ref l]) Q E s := by
  refine Calls.call_function_entry kind_sorted plain_sorted entry_sorted (args_sorted1 _) ?_
  unfold Builtin.«sorted»
  refine wpAny_bind (m := checkCount "sorted" 1 1 _) (wpAny_pure ?_)
  refine wpAny_bind (rd_collectT hl ?_ hz)
  refine wpAny_bind (wpAny_newList ?_ hz)
  have size1 : ((s.heap.push (seqObj "list" #[] 0)).update s.heap.objs.size (Obj.mapSeq (· ++ vs.toArray))).objs.size = s.heap.objs.size + 1 := by
    rw [Heap.size_update, size_push']
  have there : (((s.heap.push (seqObj "list" #[] 0)).update s.heap.objs.size (Obj.mapSeq (· ++ vs.toArray))).push (seqObj "list" vs.toArray 0)).get? (s.heap.objs.size + 1) = some (seqObj "list" vs.toArray 0) := by
    rw [← size1]; exact Heap.get?_push_size _ rfl
  show wpAny _ _ _ _ _ { s with heap := ((s.heap.push (seqObj "list" #[] 0)).update s.heap.objs.size (Obj.mapSeq (· ++ vs.toArray))).push (seqObj "list" vs.toArray 0) }
  rw [size1]
  refine wpAny_bind (wpAny_holding (wpAny_call_entry slot_list_sort ⟨_, there, rfl⟩ entry_list_sort (SrtO.list_sort_ord O there hz (fun h2 => hS h2 _ _ there) fun out hs hb => ⟨_, rfl, ?_⟩) (args_list_sort _)))
  exact wpAny_pure ⟨_, rfl, h out hs hb⟩
end
end PySem
namespace Rw
open PySem PySem.Spec PyProof.Rows L2
section
variable {X : Cx}
/-- sorted(t), a tuple of ints -/
def rSortedTup (K : PySem.W.Frag) : List V → Hp → VK → Prop := fun vs H Q => ∃ (a : Addr) (ns : List Int), vs = [V.ref a] ∧ SqT K H a (ns.map V.int) ∧
  ∀ (ns' : List Int) (p : Addr), ns'.Perm ns → ns'.Pairwise (· ≤ ·) → H p = none → Q (.ref p) (upd H p (.lst (ns'.map V.int)))
theorem cr_sortedTup : CallR X (.builtin "sorted") (rSortedTup X.K) := by
  intro pins s σ H vs us Q I r h
  obtain ⟨a, ns, rfl, hs, q⟩ := h
  obtain ⟨its, rv, hl, hz⟩ := I.tuple hs
  rw [Vals.ref1 r]
  have hi := rv.ints
  refine rd_sortedT SrtO.swo_int (show s.heap.IsTuple a its.toArray from hl) (by rw [← rv.length]; exact hz) (fun h2 h₁ a' _ => SrtO.ints_sortable hi h2) fun out h1 h2 => ?_
  obtain ⟨k1, k2, k3⟩ := SrtO.ints_out hi h1 h2
  obtain ⟨ep, he'⟩ := PyProof.Rows.sortedAll_at s.heap its out.toArray
  have hlen : ((out.map SrtO.iv).map V.int).length ≤ sizeLine := by
    rw [List.length_map, k2.length_eq]
    rw [List.length_map] at hz
    exact hz
  exact ⟨.ref _, upd H (s.heap.objs.size + 1) (.lst ((out.map SrtO.iv).map V.int)), I.laid (t' := s.toks) (fun _ _ => PyProof.Rows.sortedAll_old) (Nat.le_succ _) ⟨hlen, out, ep, vals_of_ints k1, he'⟩, rfl, q _ _ k2 k3 (I.hok.fresh (Nat.le_succ _))⟩
/-- a text, times a number -/
theorem op_mulS : OpR X (binaryOp .Mult) (fun x y H Q => ∃ (a : Str) (n : Int), x = .str a ∧ y = .int n ∧ MulOk a n ∧ Q (.str (Txt.mul a n)) H) := by
  intro pins s σ H x y v u Q I rx ry h
  obtain ⟨a, n, rfl, rfl, ok, q⟩ := h
  obtain ⟨t, rfl⟩ := rx
  obtain ⟨t', rfl⟩ := ry
  exact SB.mul ok fun tk k => ⟨.str _, H, I.tok _, ⟨_, rfl⟩, q⟩
/-- a statement that is never reached -/
theorem ps_dead {st : Stmt} : PS X st (fun _ _ _ => False) := ⟨fun _ _ _ _ _ _ h => h.elim⟩
variable {k j : Nat} {x : Str} {ps : List Str} {sp : Sp} {W : WX} {e : Expr} {es : List Expr} {t : TA} {p pos : Pos}
/-- a call of a def that may raise -/
theorem pe_cdX (c : Okd X.prog X.w X.K X.mg X.base (L2.CX X.prog X.w) k x ps sp) (hr : Room j X.A) (hk : k ≤ j) (hg : Gl X x) (tk : Takes X W) (ha : PA X (e :: es) t)
    (hdb : (x == ("__debug__" : Str)) = false := by decide) (he : starEach (e :: es) X.env = (false, eval e X.env) :: starEach es X.env := by rfl) (hpl : (backTo pos (starEach es X.env)).any (·.1) = false := by rfl) :
    PE X (.Call (.Name x p) (e :: es) [] pos) (tCallS sp (WE W) t) := by
  obtain ⟨fd, F, b, kp⟩ := c.ex
  exact pe_callS F (hr.mono hk) hg c.mg kp b (fun σ => passAt tk σ) ha hdb he hpl
/-- .. that does not raise here -/
theorem pe_cdN (c : Okd X.prog X.w X.K X.mg X.base (L2.CX X.prog X.w) k x ps sp) (hr : Room j X.A) (hk : k ≤ j) (hg : Gl X x) (ha : PA X (e :: es) t)
    (hdb : (x == ("__debug__" : Str)) = false := by decide) (he : starEach (e :: es) X.env = (false, eval e X.env) :: starEach es X.env := by rfl) (hpl : (backTo pos (starEach es X.env)).any (·.1) = false := by rfl) :
    PE X (.Call (.Name x p) (e :: es) [] pos) (tCallD sp E0 t) :=
  pe_cdE c hr hk hg (fun _ _ _ _ _ _ _ z => by
    obtain ⟨_, _, _, _, _, _, _, _, _, _, _, _, w⟩ := z
    exact w.elim) ha hdb he hpl
/-- a call of a local name that holds one of several defs that may raise -/
structure HeldX (P : Program) (w : World) (K : PySem.W.Frag) (mg : Str → Option Value) (base : Heap) (k : Nat) (f : Addr) (sp : Sp) : Prop where
  ex : ∃ (fd : FuncData) (ps : List Str), FnOk P w K mg base (L2.CX P w) k f fd ps sp ∧ PySem.W.keepIn K (.ref f) = true ∧ Binds K fd ps []
def tCallF (i : Nat) (S : Addr → Prop) (sp : Sp) (E : L2.St → XK) (t : TA) : TE := fun σ H Q => ∃ f, σ[i]? = some (some (.ref f)) ∧ S f ∧ t σ H fun vs H1 => sp vs H1 Q (E σ)
theorem pe_callF {i : Nat} {S : Addr → Prop} (A : ∀ f, S f → HeldX X.prog X.w X.K X.mg X.base k f sp) (hr : Room j X.A) (hk : k ≤ j) (hN : X.N[i]? = some x) (hv : Vis X.env.scope x) (tk : Takes X W) (ha : PA X (e :: es) t)
    (hdb : (x == ("__debug__" : Str)) = false := by decide) (hcd : (x == ("__classdict__" : Str)) = false := by decide)
    (he : starEach (e :: es) X.env = (false, eval e X.env) :: starEach es X.env := by rfl) (hpl : (backTo pos (starEach es X.env)).any (·.1) = false := by rfl) : PE X (.Call (.Name x p) (e :: es) [] pos) (tCallF i S sp (WE W) t) := by
  refine ⟨fun pins s σ H Q I h => ?_⟩
  obtain ⟨f, hs, hS, ht⟩ := h
  obtain ⟨fd, ps, F, hkp, hb⟩ := (A f hS).ex
  refine wpAny_Call_Name_kw (thn ((pe_var (pos := p) hN hv hdb hcd).run pins s σ H (fun v H1 => v = .ref f ∧ H1 = H) I ⟨.ref f, hs, rfl, rfl⟩) fun u s1 ⟨v, H1, I1, r1, q1⟩ => ?_)
  obtain ⟨rfl, rfl⟩ := q1
  cases r1
  exact PySem.W.callWith_K (h₀ := X.base) I.ok.mod.kin hkp (thn (ha.run pos pins s1 σ _ _ I1 ht) fun us s2 ⟨vs, H2, I2, r, q⟩ => ⟨I2.kIn, run_fnS F (hr.mono hk) hb (passAt tk σ) I2 r q⟩) he hpl
end
end Rw
/-! ## RdFine -/
/-! # Data that repr shows: short texts, short numbers; the rule for repr of such data. -/
namespace Rw
open PySem PySem.Spec PyProof.Rows L2
abbrev gOk (g : Str) : Prop := g.length ≤ 400 ∧ PyData.strOk g = true
theorem gk0 : gOk "" := ⟨by decide, by decide +kernel⟩
theorem gk1 : gOk "copy" := ⟨by decide, by decide +kernel⟩
abbrev iOk (i : Int) : Prop := -1000 ≤ i ∧ i ≤ 1000
structure Fine (w D : Nat) (d : PyData) : Prop where
  lay : d.canLay0 = true
  sho : d.showable = true
  nums : d.intsShort 13 = true
  dep : d.depth ≤ D
  wei : d.weight ≤ w
structure FineAll (w D : Nat) (ds : List PyData) : Prop where
  lay : PyData.canLayAll0 ds = true
  sho : PyData.showableAll ds = true
  nums : PyData.intsShortAll 13 ds = true
  dep : PyData.depthAll ds ≤ D
  wei : PyData.weightAll ds ≤ w
theorem fine_non {w D : Nat} : Fine w D .none := ⟨rfl, rfl, rfl, Nat.zero_le _, Nat.zero_le _⟩
theorem fine_str {w D : Nat} {g : Str} (h : gOk g) (hw : 400 ≤ w) : Fine w D (.str g) :=
  ⟨by rw [PyData.canLay0]; exact h.2, by rw [PyData.showable], by rw [PyData.intsShort], by rw [PyData.depth]; exact Nat.zero_le _, by rw [PyData.weight]; exact Nat.le_trans h.1 hw⟩
theorem log_le {n k : Nat} (hk : n < 2 ^ k) (h0 : 0 < k) : n.log2 < k := by
  by_cases e : n = 0
  · rw [e]
    exact h0
  · exact (Nat.log2_lt e).mpr hk
theorem fine_int {w D : Nat} {i : Int} (h : iOk i) (hw : 11 ≤ w) : Fine w D (.int i) := by
  obtain ⟨h1, h2⟩ := h
  have hn : i.natAbs < 2 ^ 10 := by omega
  have hl := log_le hn (by decide)
  refine ⟨by rw [PyData.canLay0], by rw [PyData.showable]; exact decide_eq_true (by omega), ?_, by rw [PyData.depth]; exact Nat.zero_le _, ?_⟩
  · rw [PyData.intsShort]
    refine decide_eq_true ?_
    rw [PyData.shown]
    have q := int_text_length_le10 (a := i) (k := 4) (by decide) (by omega)
    have e : (Str.ofString (toString i)).length ≤ 13 := by
      rw [PySem.ofString_length]
      omega
    exact e
  · rw [PyData.weight]
    split <;> omega
theorem FineAll.nil {w D : Nat} : FineAll w D [] := ⟨by rw [PyData.canLayAll0], by rw [PyData.showableAll], by rw [PyData.intsShortAll], by rw [PyData.depthAll]; exact Nat.zero_le _, by rw [PyData.weightAll]; exact Nat.zero_le _⟩
theorem FineAll.cons {w v D : Nat} {d : PyData} {ds : List PyData} (h : Fine v D d) (hs : FineAll w D ds) : FineAll (v + 1 + w) D (d :: ds) := by
  refine ⟨?_, ?_, ?_, ?_, ?_⟩
  · rw [PyData.canLayAll0, h.lay, hs.lay]; rfl
  · rw [PyData.showableAll, h.sho, hs.sho]; rfl
  · rw [PyData.intsShortAll, h.nums, hs.nums]; rfl
  · rw [PyData.depthAll]
    exact Nat.max_le.mpr ⟨h.dep, hs.dep⟩
  · rw [PyData.weightAll]
    have := h.wei
    have := hs.wei
    omega
theorem FineAll.of {w D : Nat} : ∀ {ds : List PyData}, (∀ d ∈ ds, Fine w D d) → FineAll ((w + 1) * ds.length) D ds
  | [], _ => by
    rw [List.length_nil, Nat.mul_zero]
    exact FineAll.nil
  | d :: ds, h => by
    have q := FineAll.cons (h d (List.mem_cons_self ..)) (FineAll.of (ds := ds) fun e he => h e (List.mem_cons_of_mem _ he))
    rw [List.length_cons, Nat.mul_succ, Nat.add_comm]
    exact q
theorem FineAll.mono {w v D E : Nat} {ds : List PyData} (h : FineAll w D ds) (hw : w ≤ v) (hd : D ≤ E) : FineAll v E ds := ⟨h.lay, h.sho, h.nums, Nat.le_trans h.dep hd, Nat.le_trans h.wei hw⟩
theorem FineAll.list {w D : Nat} {ds : List PyData} (h : FineAll w D ds) : Fine w (D + 1) (.list ds) :=
  ⟨by rw [PyData.canLay0]; exact h.lay, by rw [PyData.showable]; exact h.sho, by rw [PyData.intsShort]; exact h.nums, by rw [PyData.depth]; exact Nat.succ_le_succ h.dep, by rw [PyData.weight]; exact h.wei⟩
theorem FineAll.tuple {w D : Nat} {ds : List PyData} (h : FineAll w D ds) : Fine w (D + 1) (.tuple ds) :=
  ⟨by rw [PyData.canLay0]; exact h.lay, by rw [PyData.showable]; exact h.sho, by rw [PyData.intsShort]; exact h.nums, by rw [PyData.depth]; exact Nat.succ_le_succ h.dep, by rw [PyData.weight]; exact h.wei⟩
theorem Fine.short {w D : Nat} {d : PyData} (h : Fine w D d) (hw : w ≤ 1048576) (hD : D ≤ 60) : d.shown.length ≤ sizeLine := by
  have hl : d.layable0 = true := by
    show (PyData.canLay0 d && decide (PyData.depth d ≤ 64) && decide (PyData.weight d ≤ 2 ^ 20)) = true
    rw [h.lay, decide_eq_true (Nat.le_trans h.dep (by omega)), decide_eq_true (Nat.le_trans h.wei (by omega))]
    rfl
  exact Nat.le_trans (shown_le13 hl h.nums) (by decide)
theorem Fine.shaped {w D : Nat} {d : PyData} (h : Fine w D d) (hD : D ≤ 60) : SeqAt.shaped d = true := by
  show (PyData.canLay0 d && decide (PyData.depth d ≤ 64)) = true
  rw [h.lay, decide_eq_true (Nat.le_trans h.dep (by omega))]
  rfl
/-- what repr of data needs -/
def rReprD (K : PySem.W.Frag) : List V → Hp → VK → Prop := fun xs H Q => (xs = [.non] ∧ Q (.str "None") H) ∨ ∃ (a : Addr) (d : PyData) (w D : Nat), xs = [.ref a] ∧ Dt H (.ref a) d ∧ Fine w D d ∧ w ≤ 1048576 ∧ D ≤ 60 ∧ Q (.str d.shown) H
theorem cr_reprD {X : Cx} (hu : X.A.units + 64 < cLine) (hg : X.A.guards = some []) : CallR X (.builtin "repr") (rReprD X.K) := by
  intro pins s σ H xs us Q I r h
  rcases h with ⟨rfl, q⟩ | ⟨a, d, w, D, rfl, hd, hf, hw, hD, q⟩
  · obtain ⟨u, rfl, t⟩ := vals1 r
    obtain rfl : u = Value.none := t
    exact PySem.P.repr_of_none ⟨.str _, H, I.tok _, ⟨_, rfl⟩, q⟩
  · obtain ⟨u, rfl, t⟩ := vals1 r
    obtain rfl : u = Value.ref a := t
    obtain ⟨as, rd⟩ := Dp.reads I d (.ref a) (.ref a) (hd.dp d _) rfl
    refine repr_of_reads' rd hf.sho (PyData.noDict_hsm (PyData.hasDict_of_canLay d hf.lay)) hg ?_ (fun _ _ e => e) (fun h' u tk hk => ⟨.str _, H, I.kept hk, ⟨_, rfl⟩, q⟩) (hf.short hw hD)
    have := hf.dep
    omega
end Rw
/-! ## RdLines -/
/-! # Lines and scripts as the law draws them, plain and odd; what the program says of them. -/
namespace Rw
open PySem PySem.Spec PyProof.Rows L2
/-! ### walked things -/
theorem for_str {x : Str} {g : TG} {tb : TS} {D : Ends} {σ : L2.St} {H : Hp} (Pv : Nat → L2.St → Hp → Prop) (h0 : Pv 0 σ H)
    (hs : ∀ i c σ H, x.cps[i]? = some c → Pv i σ H → g (.str ⟨#[c]⟩) σ H fun σ2 H2 => tb { D with nx := Pv (i + 1), ct := Pv (i + 1), bk := D.nx } σ2 H2) (hd : ∀ σ H, Pv x.cps.size σ H → D.nx σ H) :
    ∃ W : Nat → Nat → L2.St → Hp → Prop, (∃ m, W 0 m σ H) ∧ ∀ i m σ H, W i m σ H →
      ((Its x).stop i H ∧ D.nx σ H) ∨ ((Its x).go i H ∧ ∃ N : L2.St → Hp → Prop, (∀ σ' H', N σ' H' → ∃ m', m' < m ∧ W (i + 1) m' σ' H') ∧ ∀ v H', (Its x).yld i H v H' → g v σ H' fun σ2 H2 => tb { D with nx := N, ct := N, bk := D.nx } σ2 H2) := by
  refine ⟨fun i m σ H => m = x.cps.size - i ∧ i ≤ x.cps.size ∧ Pv i σ H, ⟨_, rfl, Nat.zero_le _, h0⟩, ?_⟩
  rintro i m σ H ⟨rfl, hi, p⟩
  by_cases c : i < x.cps.size
  · refine .inr ⟨c, Pv (i + 1), fun σ' H' p' => ⟨x.cps.size - (i + 1), by omega, rfl, c, p'⟩, ?_⟩
    rintro v H' ⟨rfl, ch, h1, rfl⟩
    exact hs i ch σ _ h1 p
  · have e : i = x.cps.size := by omega
    subst e
    exact .inl ⟨Nat.le_refl _, hd _ _ p⟩
theorem for_enumL {K : PySem.W.Frag} {a : Addr} {xs : List V} {g : TG} {tb : TS} {D : Ends} {σ : L2.St} {H : Hp} (Pv : Nat → L2.St → Hp → Prop) (h0 : Pv 0 σ H) (hq : ∀ i σ H, Pv i σ H → SqL K H a xs)
    (hs : ∀ (i : Nat) (x : V) (T : Addr) (σ : L2.St) (H : Hp), xs[i]? = some x → Pv i σ H → H T = none → g (.ref T) σ (upd H T (.tup [.int (i : Nat), x])) fun σ2 H2 => tb { D with nx := Pv (i + 1), ct := Pv (i + 1), bk := D.nx } σ2 H2) (hd : ∀ σ H, Pv xs.length σ H → D.nx σ H) :
    ∃ W : Nat → Nat → L2.St → Hp → Prop, (∃ m, W 0 m σ H) ∧ ∀ i m σ H, W i m σ H →
      ((Ite K a).stop i H ∧ D.nx σ H) ∨ ((Ite K a).go i H ∧ ∃ N : L2.St → Hp → Prop, (∀ σ' H', N σ' H' → ∃ m', m' < m ∧ W (i + 1) m' σ' H') ∧ ∀ v H', (Ite K a).yld i H v H' → g v σ H' fun σ2 H2 => tb { D with nx := N, ct := N, bk := D.nx } σ2 H2) := by
  refine ⟨fun i m σ H => m = xs.length - i ∧ i ≤ xs.length ∧ Pv i σ H, ⟨_, rfl, Nat.zero_le _, h0⟩, ?_⟩
  rintro i m σ H ⟨rfl, hi, p⟩
  have q := hq i σ H p
  by_cases c : i < xs.length
  · refine .inr ⟨⟨xs, xs[i], q, List.getElem?_eq_getElem c⟩, Pv (i + 1), fun σ' H' p' => ⟨xs.length - (i + 1), by omega, rfl, c, p'⟩, ?_⟩
    rintro v H' ⟨T, x, rfl, hT, rfl, hx⟩
    exact hs i x T σ H (hx xs q) p hT
  · have e : i = xs.length := by omega
    subst e
    exact .inl ⟨⟨xs, q, Nat.le_refl _⟩, hd _ _ p⟩
theorem for_enumT {K : PySem.W.Frag} {a : Addr} {xs : List V} {g : TG} {tb : TS} {D : Ends} {σ : L2.St} {H : Hp} (Pv : Nat → L2.St → Hp → Prop) (h0 : Pv 0 σ H) (hq : ∀ i σ H, Pv i σ H → SqT K H a xs)
    (hs : ∀ (i : Nat) (x : V) (T : Addr) (σ : L2.St) (H : Hp), xs[i]? = some x → Pv i σ H → H T = none → g (.ref T) σ (upd H T (.tup [.int (i : Nat), x])) fun σ2 H2 => tb { D with nx := Pv (i + 1), ct := Pv (i + 1), bk := D.nx } σ2 H2) (hd : ∀ σ H, Pv xs.length σ H → D.nx σ H) :
    ∃ W : Nat → Nat → L2.St → Hp → Prop, (∃ m, W 0 m σ H) ∧ ∀ i m σ H, W i m σ H →
      ((IteT K a).stop i H ∧ D.nx σ H) ∨ ((IteT K a).go i H ∧ ∃ N : L2.St → Hp → Prop, (∀ σ' H', N σ' H' → ∃ m', m' < m ∧ W (i + 1) m' σ' H') ∧ ∀ v H', (IteT K a).yld i H v H' → g v σ H' fun σ2 H2 => tb { D with nx := N, ct := N, bk := D.nx } σ2 H2) := by
  refine ⟨fun i m σ H => m = xs.length - i ∧ i ≤ xs.length ∧ Pv i σ H, ⟨_, rfl, Nat.zero_le _, h0⟩, ?_⟩
  rintro i m σ H ⟨rfl, hi, p⟩
  have q := hq i σ H p
  by_cases c : i < xs.length
  · refine .inr ⟨⟨xs, xs[i], q, List.getElem?_eq_getElem c⟩, Pv (i + 1), fun σ' H' p' => ⟨xs.length - (i + 1), by omega, rfl, c, p'⟩, ?_⟩
    rintro v H' ⟨T, x, rfl, hT, rfl, hx⟩
    exact hs i x T σ H (hx xs q) p hT
  · have e : i = xs.length := by omega
    subst e
    exact .inl ⟨⟨xs, q, Nat.le_refl _⟩, hd _ _ p⟩
/-! ### isinstance of data -/
def dty : PyData → String
  | .none => "NoneType"
  | .bool _ => "bool"
  | .int _ => "int"
  | .str _ => "str"
  | .list _ => "list"
  | .tuple _ => "tuple"
  | _ => "dict"
theorem Dt.ty {K : PySem.W.Frag} {H : Hp} {v : V} {d : PyData} (h : Dt H v d) : TyX K H v (.type (dty d)) := by
  cases h with
  | non => exact .base .non
  | bl b => exact .base (.bl b)
  | int i => exact .base (.int i)
  | str x => exact .base (.str x)
  | lst h1 _ => exact .base (.lst h1)
  | tup h1 _ => exact .base (.tup h1)
theorem isi {K : PySem.W.Frag} {H : Hp} {Q : VK} {x : V} {n m : String} (b : Bool) (ty : TyX K H x (.type n)) (h : kitB n m = some b) (q : Q (.bl b) H) : rIsi K [x, .ty m] H Q := ⟨_, _, _, _, b, rfl, .ty m, ty, kit_ty h, q⟩
/-! ### lines -/
/-- a line: four parts, or something else -/
inductive LnX where
  | quad (op : Str) (t s : Int) (g : Str)
  | non
  | lst (ds : List PyData)
  | tri (op : Str) (t s : Int)
def LnX.toD : LnX → PyData
  | .quad op t s g => .tuple [.str op, .int t, .int s, .str g]
  | .non => .none
  | .lst ds => .list ds
  | .tri op t s => .tuple [.str op, .int t, .int s]
def signs : Str := ".*-0123456789"
def isIx (i : Int) (n : Nat) : Bool := decide (0 ≤ i) && decide (i < n)
def isGd (g : Str) (n : Nat) : Bool := decide (g = "") || (decide (g.length = n) && g.cps.toList.all fun c => decide (c ∈ signs.cps.toList))
def LnX.small : LnX → Prop
  | .quad op t s g => gOk op ∧ gOk g ∧ iOk t ∧ iOk s
  | .non => True
  | .lst ds => FineAll 900 2 ds
  | .tri op t s => gOk op ∧ iOk t ∧ iOk s
theorem sq {op g : Str} {t s : Int} (h1 : gOk op) (h2 : gOk g) (h3 : iOk t) (h4 : iOk s) : (LnX.quad op t s g).small := ⟨h1, h2, h3, h4⟩
theorem LnX.fine {x : LnX} (h : x.small) : Fine 900 3 x.toD := by
  cases x with
  | quad op t s g =>
    obtain ⟨h1, h2, h3, h4⟩ := h
    exact (FineAll.tuple (D := 2) (((((FineAll.nil (w := 0)).cons (fine_str h2 (Nat.le_refl 400))).cons (fine_int h4 (Nat.le_refl 11))).cons (fine_int h3 (Nat.le_refl 11))).cons (fine_str h1 (Nat.le_refl 400)) |>.mono (by decide) (Nat.le_refl _)))
  | non => exact fine_non
  | lst ds => exact FineAll.list (D := 2) h
  | tri op t s =>
    obtain ⟨h1, h3, h4⟩ := h
    exact (FineAll.tuple (D := 2) ((((FineAll.nil (w := 0)).cons (fine_int h4 (Nat.le_refl 11))).cons (fine_int h3 (Nat.le_refl 11))).cons (fine_str h1 (Nat.le_refl 400)) |>.mono (by decide) (Nat.le_refl _)))
def LnX.ok (n : Nat) : LnX → Bool
  | .quad op t s g => isIx t n && (isGd g n && (if op = "clear" then decide (s = -1) else if op = "copy" ∨ op = "move" then isIx s n && decide (s ≠ t) else false))
  | _ => false
def LnX.plain : LnX → Bool
  | .quad op _ _ g => decide (op = "copy") && decide (g = "")
  | _ => false
/-- a script: a list of lines, or something else -/
inductive Scr where
  | lst (ls : List LnX)
  | tup (ls : List LnX)
  | non
def Scr.toD : Scr → PyData
  | .lst ls => .list (ls.map LnX.toD)
  | .tup ls => .tuple (ls.map LnX.toD)
  | .non => .none
def firstBad (p : LnX → Bool) (ls : List LnX) : Option Nat := ls.findIdx? fun x => !p x
/-- what check_script finds -/
def Scr.fault (n : Nat) : Scr → Option Int
  | .lst ls => if 60 < ls.length then some (-1) else (firstBad (LnX.ok n) ls).map fun i => ((i : Nat) : Int)
  | _ => some (-1)
def LnX.lk : LnX → Lk
  | .quad _ t s _ => (t.toNat, s.toNat)
  | _ => (0, 0)
def plainLn (l : Lk) : LnX := .quad "copy" l.1 l.2 ""
theorem plain_toD (l : Lk) : (plainLn l).toD = lnD l := rfl
theorem plain_ok {n : Nat} {l : Lk} (h1 : l.1 < n) (h2 : l.2 < n) (h3 : l.1 ≠ l.2) : (plainLn l).ok n = true := by
  have e1 : isIx (l.1 : Int) n = true := by simp [isIx]; omega
  have e2 : isIx (l.2 : Int) n = true := by simp [isIx]; omega
  have e3 : isGd "" n = true := by simp [isGd]
  have c1 : ¬ (("copy" : Str) = "clear") := by decide
  show (isIx (l.1 : Int) n && (isGd "" n && (if ("copy" : Str) = "clear" then decide ((l.2 : Int) = -1) else if ("copy" : Str) = "copy" ∨ ("copy" : Str) = "move" then isIx (l.2 : Int) n && decide ((l.2 : Int) ≠ (l.1 : Int)) else false))) = true
  rw [if_neg c1, if_pos (.inl rfl), e1, e2, e3]
  simp
  omega
theorem plain_small {l : Lk} (h1 : l.1 < 100) (h2 : l.2 < 100) : (plainLn l).small := sq gk1 gk0 ⟨by omega, by omega⟩ ⟨by omega, by omega⟩
theorem plain_plain (l : Lk) : (plainLn l).plain = true := by simp [plainLn, LnX.plain]
theorem ok_quad {n : Nat} {x : LnX} (h : x.ok n = true) : ∃ op t s g, x = .quad op t s g := by
  cases x with
  | quad op t s g => exact ⟨op, t, s, g, rfl⟩
  | _ => cases h
theorem ok_plain {n : Nat} {x : LnX} (h : x.ok n = true) (hp : x.plain = true) : x = plainLn x.lk ∧ x.lk.1 < n ∧ x.lk.2 < n ∧ x.lk.1 ≠ x.lk.2 := by
  obtain ⟨op, t, s, g, rfl⟩ := ok_quad h
  have hp' : op = "copy" ∧ g = "" := by simpa [LnX.plain] using hp
  obtain ⟨rfl, rfl⟩ := hp'
  have c1 : ¬ (("copy" : Str) = "clear") := by decide
  have h' : (isIx t n && (isGd "" n && (if ("copy" : Str) = "clear" then decide (s = -1) else if ("copy" : Str) = "copy" ∨ ("copy" : Str) = "move" then isIx s n && decide (s ≠ t) else false))) = true := h
  rw [if_neg c1, if_pos (.inl rfl)] at h'
  simp [isIx] at h'
  obtain ⟨⟨a1, a2⟩, _, ⟨a3, a4⟩, a5⟩ := h'
  refine ⟨?_, ?_, ?_, ?_⟩
  · show LnX.quad "copy" t s "" = LnX.quad "copy" ((t.toNat : Nat) : Int) ((s.toNat : Nat) : Int) ""
    rw [Int.toNat_of_nonneg a1, Int.toNat_of_nonneg a3]
  · show t.toNat < n
    omega
  · show s.toNat < n
    omega
  · show t.toNat ≠ s.toNat
    omega
/-- what check_log makes of a script: links, or which error, where -/
inductive Out where
  | good (ls : List Lk)
  | bad (plain : Bool) (i : Int)
def Scr.lines : Scr → List LnX
  | .lst ls => ls
  | .tup ls => ls
  | .non => []
def Scr.out (n : Nat) (sc : Scr) : Out := match sc.fault n with
  | some i => .bad false i
  | none => match firstBad LnX.plain sc.lines with
    | some i => .bad true ((i : Nat) : Int)
    | none => .good (sc.lines.map LnX.lk)
theorem Scr.fine {sc : Scr} (h : ∀ x ∈ sc.lines, x.small) (hl : sc.lines.length ≤ 1000) : Fine 1048576 4 sc.toD := by
  have key : ∀ ls : List LnX, (∀ x ∈ ls, x.small) → ls.length ≤ 1000 → FineAll 1048576 3 (ls.map LnX.toD) := fun ls hs hn => by
    refine (FineAll.of (w := 900) fun d hd => ?_).mono ?_ (Nat.le_refl _)
    · obtain ⟨x, hx, rfl⟩ := List.mem_map.mp hd
      exact LnX.fine (hs x hx)
    · rw [List.length_map]
      omega
  cases sc with
  | lst ls => exact (key ls h hl).list
  | tup ls => exact (key ls h hl).tuple
  | non => exact fine_non
theorem first_none {p : LnX → Bool} {ls : List LnX} (h : firstBad p ls = none) : ∀ x ∈ ls, p x = true := fun x hx => by
  have q := List.findIdx?_eq_none_iff.mp h x hx
  simpa using q
theorem first_some {p : LnX → Bool} {ls : List LnX} {i : Nat} (h : firstBad p ls = some i) : ∃ hi : i < ls.length, p ls[i] = false ∧ ∀ (j : Nat) (hj : j < i), p (ls[j]'(Nat.lt_trans hj hi)) = true := by
  obtain ⟨h1, h2, h3⟩ := List.findIdx?_eq_some_iff_getElem.mp h
  exact ⟨h1, by simpa using h2, fun j hj => by simpa using h3 j hj⟩
theorem good_out {n : Nat} {ls : List Lk} (ho : Rd.Okl n ls) (hl : ls.length ≤ 60) : (Scr.lst (ls.map plainLn)).out n = .good ls := by
  have e1 : firstBad (LnX.ok n) (ls.map plainLn) = none := by
    refine List.findIdx?_eq_none_iff.mpr fun x hx => ?_
    obtain ⟨l, hl2, rfl⟩ := List.mem_map.mp hx
    obtain ⟨o1, o2, o3⟩ := ho l hl2
    rw [plain_ok o1 o2 o3]
    rfl
  have e2 : firstBad LnX.plain (ls.map plainLn) = none := by
    refine List.findIdx?_eq_none_iff.mpr fun x hx => ?_
    obtain ⟨l, hl2, rfl⟩ := List.mem_map.mp hx
    rw [plain_plain]
    rfl
  have e3 : (Scr.lst (ls.map plainLn)).fault n = none := by
    rw [Scr.fault, if_neg (by rw [List.length_map]; omega), e1]
    rfl
  rw [Scr.out, e3]
  show (match firstBad LnX.plain (ls.map plainLn) with | some i => Out.bad true ((i : Nat) : Int) | none => Out.good ((ls.map plainLn).map LnX.lk)) = _
  rw [e2]
  show Out.good ((ls.map plainLn).map LnX.lk) = Out.good ls
  rw [List.map_map]
  have e4 : (LnX.lk ∘ plainLn) = id := by
    funext l
    simp [LnX.lk, plainLn]
  rw [e4, List.map_id]
theorem log_toD (ls : List Lk) : (Scr.lst (ls.map plainLn)).toD = logD ls := by
  rw [Scr.toD, logD, List.map_map]
  rfl
end Rw
/-! ## FWays -/
namespace Rw
open PySem PySem.Spec PyProof.Rows L2
abbrev way_table_N : List Str := ["log", "blocks", "ways", "target", "source", "inner", "tail", "first", "last", "row", "end"]
theorem sc_way_table : FnScope way_table_N ["log", "blocks"] (defScope s_way_table) := ⟨rfl, rfl, rfl, by decide +kernel, rfl, by decide +kernel, by decide +kernel⟩
theorem m_way_table : d_way_table ∈ fn := List.mem_of_getElem? (i := 10) rfl
abbrev reach_of_N : List Str := ["log", "blocks", "found", "row", "block"]
theorem sc_reach_of : FnScope reach_of_N ["log", "blocks"] (defScope s_reach_of) := ⟨rfl, rfl, rfl, by decide +kernel, rfl, by decide +kernel, by decide +kernel⟩
theorem m_reach_of : d_reach_of ∈ fn := List.mem_of_getElem? (i := 11) rfl
/-- what is new in H' over H -/
def mns (H H' : Hp) : Hp := fun b => if (H b).isSome then none else H' b
theorem mns_at {H H' : Hp} {b : Addr} (h : H b = none) : mns H H' b = H' b := by
  rw [mns, h]
  rfl
theorem mns_old {H H' : Hp} {b : Addr} {o : HO} (h : H b = some o) : mns H H' b = none := by
  rw [mns, h]
  rfl
theorem mns_same {H H' : Hp} : Same (mns H H') H' := fun b o e => by
  cases h : H b with
  | none => rwa [mns_at h] at e
  | some o' => rw [mns_old h] at e; cases e
theorem mns_mut {H H' H2 : Hp} {r : Addr} {o o' : HO} (S : Same (mns H H') H2) (h : H r = some o) : Same (mns H H') (upd H2 r o') := fun b u e => by
  rw [upd_ne fun z => by rw [z, mns_old h] at e; cases e]
  exact S _ _ e
/-- a row of bits -/
def bR (n m : Nat) : List V := (List.range n).map fun b => V.bl (m.testBit b)
theorem bR_len (n m : Nat) : (bR n m).length = n := by simp [bR]
theorem bR_at {n m b : Nat} (h : b < n) : atI (bR n m) (b : Int) = some (.bl (m.testBit b)) := atI_nat (by simp [bR, h])
theorem bR_set {n m t : Nat} (h : t < n) : (bR n m).set t (.bl true) = bR n (m ||| 2 ^ t) := by
  refine List.ext_getElem? fun b => ?_
  rw [List.getElem?_set, bR_len]
  by_cases e : t = b
  · subst e
    rw [if_pos rfl, if_pos h]
    simp [bR, h, Nat.testBit_or, Nat.testBit_two_pow]
  · rw [if_neg e]
    by_cases hb : b < n
    · simp [bR, hb, Nat.testBit_or, Nat.testBit_two_pow, e]
    · simp [bR, hb]
def boolD (n m : Nat) : PyData := .list ((List.range n).map fun b => .bool (m.testBit b))
theorem dt_bools {H : Hp} (n m : Nat) : DtAll H (bR n m) ((List.range n).map fun b => .bool (m.testBit b)) := by
  have key : ∀ l : List Nat, DtAll H (l.map fun b => V.bl (m.testBit b)) (l.map fun b => PyData.bool (m.testBit b)) := by
    intro l
    induction l with
    | nil => exact .nil
    | cons b l ih => exact .cons (.bl _) ih
  exact key _
theorem bools_dt {H : Hp} {v : V} {n m : Nat} (h : Dt H v (boolD n m)) : ∃ a, v = .ref a ∧ H a = some (.lst (bR n m)) := by
  obtain ⟨a, xs, rfl, h1, h2⟩ := h.list_inv
  refine ⟨a, rfl, ?_⟩
  have key : ∀ (l : List Nat) (xs : List V), DtAll H xs (l.map fun b => PyData.bool (m.testBit b)) → xs = l.map fun b => V.bl (m.testBit b) := by
    intro l
    induction l with
    | nil => intro xs h; cases h; rfl
    | cons b l ih =>
      intro xs h
      cases h with
      | cons a1 a2 =>
        cases a1
        rw [ih _ a2]
        rfl
  rw [h1, key _ _ h2]
  rfl
def waysD (n : Nat) (T : List Nat) : PyData := .list (T.map fun m => boolD n m)
/-- the table of ways at wp, its rows at qs -/
structure Wy (G H : Hp) (wp : Addr) (qs : List Addr) (n : Nat) (T : List Nat) : Prop where
  same : Same G H
  hw : H wp = some (.lst (qs.map V.ref))
  nodup : qs.Nodup
  len : qs.length = T.length
  rows : ∀ (a : Nat) (q : Addr), qs[a]? = some q → H q = some (.lst (bR n (Rd.gL T a)))
  gw : G wp = none
  gq : ∀ q ∈ qs, G q = none
  nq : wp ∉ qs
theorem Wy.nil {H : Hp} {wp : Addr} {n : Nat} (h : H wp = none) : Wy H (upd H wp (.lst [])) wp [] n [] :=
  ⟨.new h, upd_same, List.nodup_nil, rfl, fun a q h => by simp at h, h, fun q h => by simp at h, fun h => by simp at h⟩
theorem Wy.rebase {G0 G H : Hp} {wp : Addr} {qs : List Addr} {n : Nat} {T : List Nat} (y : Wy G H wp qs n T) (S : Same G0 G) : Wy G0 H wp qs n T :=
  ⟨S.trans y.same, y.hw, y.nodup, y.len, y.rows, none_of S y.gw, fun q h => none_of S (y.gq q h), y.nq⟩
theorem Wy.data {G H : Hp} {wp : Addr} {qs : List Addr} {n : Nat} {T : List Nat} (y : Wy G H wp qs n T) : Dt (mns G H) (.ref wp) (waysD n T) := by
  refine .lst (by rw [mns_at y.gw]; exact y.hw) ?_
  have key : ∀ (qs : List Addr) (T : List Nat), qs.length = T.length → (∀ (a : Nat) (q : Addr), qs[a]? = some q → mns G H q = some (.lst (bR n (Rd.gL T a)))) → DtAll (mns G H) (qs.map V.ref) (T.map fun m => boolD n m) := by
    intro qs
    induction qs with
    | nil =>
      intro T hl _
      cases T with
      | nil => exact .nil
      | cons _ _ => cases hl
    | cons q qs ih =>
      intro T hl hr
      cases T with
      | nil => cases hl
      | cons m T =>
        refine .cons (.lst (hr 0 q rfl) (dt_bools n m)) (ih T (by simpa using hl) fun a q' h => ?_)
        exact hr (a + 1) q' (by simpa using h)
  exact key qs T y.len fun a q h => by rw [mns_at (y.gq q (List.mem_of_getElem? h))]; exact y.rows a q h
theorem Wy.more {G H H' : Hp} {wp d : Addr} {qs : List Addr} {n m : Nat} {T : List Nat} (y : Wy G H wp qs n T) (S : Same H H') (hd : H d = none) (hd2 : H' d = some (.lst (bR n m))) : Wy G (upd H' wp (.lst (qs.map V.ref ++ [.ref d]))) wp (qs ++ [d]) n (T ++ [m]) := by
  have hw' := S _ _ y.hw
  have hdw : d ≠ wp := fun z => by rw [z, y.hw] at hd; cases hd
  have hdq : d ∉ qs := fun z => by
    obtain ⟨a, ha⟩ := List.mem_iff_getElem?.mp z
    have := y.rows a d ha
    rw [hd] at this
    cases this
  refine ⟨(y.same.trans S).mut y.gw, by rw [upd_same, List.map_append]; rfl, List.nodup_append.mpr ⟨y.nodup, by simp, fun a ha b hb e => ?_⟩, by simp [y.len], fun a q h => ?_, y.gw, fun q hq => ?_, fun z => ?_⟩
  · rw [List.mem_singleton.mp hb] at e
    exact hdq (e ▸ ha)
  · by_cases c : a < qs.length
    · rw [List.getElem?_append_left c] at h
      have hq : q ∈ qs := List.mem_of_getElem? h
      have hqw : q ≠ wp := fun z => by rw [z] at hq; exact y.nq hq
      rw [upd_ne hqw, S _ _ (y.rows a q h)]
      have e : Rd.gL (T ++ [m]) a = Rd.gL T a := by
        have c2 : a < T.length := by rw [← y.len]; exact c
        simp [Rd.gL, List.getD_eq_getElem?_getD, List.getElem?_append_left c2]
      rw [e]
    · rw [List.getElem?_append_right (by omega)] at h
      have e : a - qs.length = 0 := by
        have := get_lt h
        simp at this
        omega
      rw [e] at h
      have e2 : d = q := by simpa using h
      subst e2
      rw [upd_ne hdw, hd2]
      have e3 : Rd.gL (T ++ [m]) a = m := by
        have c2 : a = T.length := by rw [← y.len]; omega
        simp [Rd.gL, List.getD_eq_getElem?_getD, c2]
      rw [e3]
  · rcases List.mem_append.mp hq with hq | hq
    · exact y.gq q hq
    · rw [List.mem_singleton.mp hq]
      exact none_of y.same hd
  · rcases List.mem_append.mp z with z | z
    · exact y.nq z
    · exact hdw (List.mem_singleton.mp z).symm
def spWays : Sp := fun vs H Q _ => ∃ (vl : V) (n : Nat) (ls : List Lk), vs = [vl, .int (n : Int)] ∧ n ≤ 100 ∧ Rd.Okl n ls ∧ Dt H vl (lksD ls) ∧ ∀ p H', Same H H' → Dt (mns H H') (.ref p) (waysD n (Rd.W n ls n)) → Q (.ref p) H'
/-- the bits of a mask, as numbers -/
def lotL (n m : Nat) : List Nat := (List.range n).filter fun b => m.testBit b
def reachD (n : Nat) (T : List Nat) : PyData := .tuple (T.map fun m => rowD (lotL n m))
def spReachOf : Sp := fun vs H Q _ => ∃ (vl : V) (n : Nat) (ls : List Lk), vs = [vl, .int (n : Int)] ∧ n ≤ 100 ∧ Rd.Okl n ls ∧ Dt H vl (lksD ls) ∧ ∀ p H', Same H H' → Dt H' (.ref p) (reachD n (Rd.W n ls n)) → Q (.ref p) H'
section
variable {P : Program} {w : World} {K : PySem.W.Frag} {mg : Str → Option Value} {base : Heap}
theorem ok_ways (T : Txt K mg) : Okd P w K mg base CX0 1 "_way_table" ["log", "blocks"] spWays := by
  refine okd0 (st := s_way_table) T m_way_table sc_way_table (fun vs H Q E h => ?_) (fun _ _ _ _ _ _ us hl => match us, hl with | [_, _], _ => rfl) (fun f cdv A outer s H vs Q E hr h => ⟨_, (pss_cons (ps_setLc (i := 2) (own := [("first", 7)]) (g := (gName 7)) (tt := tYes) rfl sc_way_table.nd rfl rfl (sw_true rfl rfl rfl (by decide +kernel)) (pi_range1 (by rfl) T.b_range (pa_cons (pv 1) pa_nil)) (blkOk_by (N := way_table_N) (sc := defScope s_way_table) (by decide +kernel)) (fun _ _ _ _ _ => (pg_name (i := 7) sc_way_table.nd rfl (Or.inr rfl))) (fun _ _ _ _ _ => pts_nil) (fun _ _ _ _ _ => (pe_lc (own := [("last", 8)]) (g := (gName 8)) (tt := tYes) rfl sc_way_table.nd (pi_range1 (by rfl) T.b_range (pa_cons (pv 1) pa_nil)) (blkOk_by (N := way_table_N) (sc := { kind := .function, names := [(PySem.Str.ofString ".0", PySem.NameKind.local), (PySem.Str.ofString "first", PySem.NameKind.cell), (PySem.Str.ofString "range", PySem.NameKind.globalImplicit), (PySem.Str.ofString "blocks", PySem.NameKind.cell)], isGenerator := false, isCoroutine := false, more := [] }) (by decide +kernel)) (fun _ _ _ _ _ => (pg_name (i := 8) sc_way_table.nd rfl (Or.inl rfl))) (fun _ _ _ _ _ => pts_nil) (fun _ _ _ _ _ => (pe_cmpR op_eq (pv 7) (pv 8) (nomark _))))))
  (pss_cons (ps_for PassesOwn.never rfl (pi_list (pv 0)) (pg_tup rfl (pgs_cons (pg_name (i := 3) sc_way_table.nd rfl (Or.inl rfl)) (pgs_cons (pg_name (i := 4) sc_way_table.nd rfl (Or.inl rfl)) pgs_nil)))
    (pss_one (ps_asg pe_bl (pg_sub (pe_ix ix_list (pv 2) (pv 4) (fun _ _ => rfl)) (pv 3) set_list))))
  (pss_cons (ps_for PassesOwn.never rfl (pi_range1 (by rfl) T.b_range (pa_cons (pv 1) pa_nil)) (pg_name (i := 5) sc_way_table.nd rfl (Or.inr rfl))
    (pss_cons (ps_set (i := 6) sc_way_table.nd rfl (Or.inr rfl) (pe_ix ix_list (pv 2) (pv 5) (fun _ _ => rfl)))
    (pss_one (ps_setLc (i := 2) (own := [("row", 9)]) (g := (gName 9)) (tt := tYes) rfl sc_way_table.nd rfl rfl (sw_true rfl rfl rfl (by decide +kernel)) (pi_list (pv 2)) (blkOk_by (N := way_table_N) (sc := defScope s_way_table) (by decide +kernel)) (fun _ _ _ _ _ => (pg_name (i := 9) sc_way_table.nd rfl (Or.inr rfl))) (fun _ _ _ _ _ => pts_nil) (fun _ _ _ _ _ => (pe_lc (own := [("end", 10)]) (g := (gName 10)) (tt := tYes) rfl sc_way_table.nd (pi_range1 (by rfl) T.b_range (pa_cons (pv 1) pa_nil)) (blkOk_by (N := way_table_N) (sc := { kind := .function, names := [(PySem.Str.ofString ".0", PySem.NameKind.local), (PySem.Str.ofString "row", PySem.NameKind.cell), (PySem.Str.ofString "range", PySem.NameKind.globalImplicit), (PySem.Str.ofString "blocks", PySem.NameKind.cell), (PySem.Str.ofString "inner", PySem.NameKind.cell), (PySem.Str.ofString "tail", PySem.NameKind.cell)], isGenerator := false, isCoroutine := false, more := [] }) (by decide +kernel)) (fun _ _ _ _ _ => (pg_name (i := 10) sc_way_table.nd rfl (Or.inl rfl))) (fun _ _ _ _ _ => pts_nil) (fun _ _ _ _ _ => (pe_or (pe_ix (r := rIxL K) ix_list (pv 9) (pv 10) (fun _ _ => rfl)) (pe_one (pe_and (pe_ix (r := rIxL K) ix_list (pv 9) (pv 5) (fun _ _ => rfl)) (pe_one (pe_ix (r := rIxL K) ix_list (pv 6) (pv 10) (fun _ _ => rfl)))))))))))))
  (pss_one (ps_ret (pv 2)))))), ?_⟩)
  · obtain ⟨vl, n, ls, rfl, _⟩ := h
    rfl
  · obtain ⟨vl, n, ls, rfl, hn, ho, hv, k⟩ := h
    obtain ⟨a, xs, rfl, ha, hxl, hx⟩ := lks_inv hv
    refine ⟨_, rfl, n, rfl, by omega, by omega, fun wp hwp => ?_⟩
    refine lc_rng (n := n) (fun i H1 => ∃ qs, Wy H H1 wp qs n ((List.range i).map fun b => 2 ^ b)) ⟨[], Wy.nil hwp⟩ ?_ ?_
    · rintro i H1 hi ⟨qs, Y⟩
      refine ⟨rfl, _, rfl, n, rfl, by omega, by omega, fun d hd => ?_⟩
      refine lc_rng (n := n) (fun j H2 => Same H1 H2 ∧ H2 d = some (.lst ((List.range j).map fun b => V.bl (decide (V.int (i : Nat) = V.int (b : Nat)))))) ⟨.new hd, upd_same⟩ ?_ ?_
      · rintro j H2 hj ⟨S2, h2⟩
        refine ⟨rfl, _, rfl, _, rfl, rfl, _, h2, small_line (by simp; omega), S2.mut hd, ?_⟩
        rw [upd_same, List.range_succ, List.map_append]
        rfl
      · rintro H2 ⟨S2, h2⟩
        have e : ((List.range n).map fun b => V.bl (decide (V.int (i : Nat) = V.int (b : Nat)))) = bR n (2 ^ i) := by
          refine List.map_congr_left fun b hb => ?_
          rw [Nat.testBit_two_pow]
          congr 1
          exact decide_eq_decide.mpr ⟨fun z => by have := V.int.inj z; omega, fun z => by rw [z]⟩
        rw [e] at h2
        refine ⟨_, S2 _ _ Y.hw, small_line (by rw [List.length_map, Y.len]; simp; omega), qs ++ [d], ?_⟩
        rw [home_succ]
        exact Y.more S2 hd h2
    · rintro H1 ⟨qs, Y⟩
      refine ⟨_, rfl, a, rfl, ⟨_, SqL.of (Y.same _ _ ha)⟩, for_list (K := K) (a := a) (xs := xs) (fun i σ H2 => (∃ v3 v4, σ = [some (.ref a), some (.int n), some (.ref wp), v3, v4, none, none, none, none, none, none]) ∧ Wy H H2 wp qs n ((ls.take i).foldl (fun T l => T.set l.2 (Rd.gL T l.2 ||| 2 ^ l.1)) (Rd.home n))) ⟨⟨_, _, rfl⟩, Y⟩ (fun i σ H2 _ z => SqL.of (z.2.same _ _ ha)) ?_ ?_⟩
      · rintro i x σ H2 hxi ⟨⟨v3, v4, rfl⟩, Y2⟩
        obtain ⟨q, l, rfl, hli, hq⟩ := hx i x hxi
        obtain ⟨o1, o2, o3⟩ := ho l (List.mem_of_getElem? hli)
        rw [take_succ_get hli, List.foldl_append]
        have hTl : ((ls.take i).foldl (fun T l => T.set l.2 (Rd.gL T l.2 ||| 2 ^ l.1)) (Rd.home n)).length = n := Rd.len_base n (ls.take i)
        generalize (ls.take i).foldl (fun T l => T.set l.2 (Rd.gL T l.2 ||| 2 ^ l.1)) (Rd.home n) = TT at Y2 hTl ⊢
        have hql : l.2 < qs.length := by rw [Y2.len, hTl]; exact o2
        have hrow := Y2.rows l.2 qs[l.2] (List.getElem?_eq_getElem hql)
        have at2 : atI (qs.map V.ref) (l.2 : Int) = some (.ref qs[l.2]) := atI_nat (by rw [List.getElem?_map, List.getElem?_eq_getElem hql]; rfl)
        refine ⟨q, _, rfl, SqT.of (Y2.same _ _ hq), rfl, _, _, rfl, _, _, rfl, rfl, ?_⟩
        refine ⟨_, rfl, _, rfl, wp, _, _, _, rfl, rfl, SqL.of Y2.hw, at2, _, rfl, qs[l.2], _, _, l.1, rfl, rfl, hrow, ix_nat (by rw [bR_len]; exact o1), ⟨_, _, rfl⟩, ?_⟩
        rw [bR_set o1]
        have hne : wp ≠ qs[l.2] := fun z => Y2.nq (z ▸ List.getElem_mem hql)
        refine ⟨Y2.same.mut (Y2.gq _ (List.getElem_mem hql)), by rw [upd_ne hne]; exact Y2.hw, Y2.nodup, by simp [Y2.len], fun b q' hb => ?_, Y2.gw, Y2.gq, Y2.nq⟩
        by_cases e : b = l.2
        · have e2 : q' = qs[l.2] := by
            rw [e, List.getElem?_eq_getElem hql] at hb
            exact (Option.some.inj hb).symm
          rw [e2, upd_same, e]
          show some (HO.lst (bR n (Rd.gL TT l.2 ||| 2 ^ l.1))) = some (.lst (bR n (Rd.gL (TT.set l.2 (Rd.gL TT l.2 ||| 2 ^ l.1)) l.2)))
          rw [Rd.gL_set_self (by omega)]
        · have hbl := get_lt hb
          have hne2 : q' ≠ qs[l.2] := fun z => by
            rw [List.getElem?_eq_getElem hbl] at hb
            have z2 : qs[b] = qs[l.2] := (Option.some.inj hb).trans z
            rcases Nat.lt_or_gt_of_ne e with c | c
            · exact List.pairwise_iff_getElem.mp Y2.nodup b l.2 hbl hql c z2
            · exact List.pairwise_iff_getElem.mp Y2.nodup l.2 b hql hbl c z2.symm
          rw [upd_ne hne2]
          show H2 q' = some (.lst (bR n (Rd.gL (TT.set l.2 (Rd.gL TT l.2 ||| 2 ^ l.1)) b)))
          rw [Rd.gL_set_ne e]
          exact Y2.rows b q' hb
      · rintro σ H2 ⟨⟨v3, v4, rfl⟩, Y2⟩
        rw [hxl, List.take_of_length_le (Nat.le_refl _)] at Y2
        refine ⟨_, rfl, n, rfl, by omega, by omega, ?_⟩
        refine for_rng (n := n) (fun i σ H3 => (∃ wq v5 v6, σ = [some (.ref a), some (.int n), some (.ref wq), v3, v4, v5, v6, none, none, none, none] ∧ ∃ qs, Wy H H3 wq qs n (Rd.W n ls i))) ⟨_, _, _, rfl, qs, Y2⟩ ?_ ?_
        · rintro i σ H3 hi ⟨wq, v5, v6, rfl, qs, Y3⟩
          have hWl : (Rd.W n ls i).length = n := Rd.len_W n ls i
          have hqi : i < qs.length := by rw [Y3.len, hWl]; exact hi
          have at1 : atI (qs.map V.ref) (i : Int) = some (.ref qs[i]) := atI_nat (by rw [List.getElem?_map, List.getElem?_eq_getElem hqi]; rfl)
          have htail := Y3.rows i qs[i] (List.getElem?_eq_getElem hqi)
          refine ⟨_, rfl, _, rfl, wq, _, _, _, rfl, rfl, SqL.of Y3.hw, at1, ?_⟩
          refine ⟨_, rfl, wq, rfl, ⟨_, SqL.of Y3.hw⟩, fun np hnp => ?_⟩
          have Gn := none_of Y3.same hnp
          refine lc_list (K := K) (a := wq) (xs := qs.map V.ref) (fun j H4 => Same H3 H4 ∧ ∃ ps, Wy H3 H4 np ps n ((Rd.wst (Rd.W n ls i) i).take j)) ⟨.new hnp, [], Wy.nil hnp⟩ (fun j H4 _ z => SqL.of (z.1 _ _ Y3.hw)) ?_ ?_
          · rintro j x H4 hxj ⟨S4, ps, Y4⟩
            obtain ⟨q, hqj, rfl⟩ := get_map hxj
            have hjl := get_lt hqj
            have hjn : j < n := by rw [Y3.len, hWl] at hjl; exact hjl
            have hrow := S4 _ _ (Y3.rows j q hqj)
            have htail4 := S4 _ _ htail
            refine ⟨rfl, _, rfl, n, rfl, by omega, by omega, fun d hd => ?_⟩
            have Nd := none_of S4 hd
            refine lc_rng (n := n) (fun b H5 => Same H4 H5 ∧ H5 d = some (.lst ((List.range b).map fun b => V.bl ((Rd.gL (Rd.wst (Rd.W n ls i) i) j).testBit b)))) ⟨.new hd, upd_same⟩ ?_ ?_
            · rintro b H5 hb ⟨S5, h5⟩
              have fin : ∀ (c : Bool), c = (Rd.gL (Rd.wst (Rd.W n ls i) i) j).testBit b → ∃ acc, H5 d = some (.lst acc) ∧ acc.length < sizeLine ∧ Same H4 (upd H5 d (.lst (acc ++ [.bl c]))) ∧ upd H5 d (.lst (acc ++ [.bl c])) d = some (.lst ((List.range (b + 1)).map fun b => V.bl ((Rd.gL (Rd.wst (Rd.W n ls i) i) j).testBit b))) := fun c e => by
                refine ⟨_, h5, small_line (by simp; omega), S5.mut hd, ?_⟩
                rw [upd_same, List.range_succ, List.map_append, e]
                rfl
              refine ⟨rfl, _, rfl, _, rfl, q, _, _, _, rfl, rfl, SqL.of (S5 _ _ hrow), bR_at hb, _, rfl, ?_⟩
              cases c1 : (Rd.gL (Rd.W n ls i) j).testBit b with
              | true =>
                refine iteT (fin true ?_)
                rw [Rd.gL_wst]
                by_cases c2 : (Rd.gL (Rd.W n ls i) j).testBit i = true
                · rw [if_pos c2, Nat.testBit_or, c1, Bool.true_or]
                · rw [if_neg c2, c1]
              | false =>
                refine iteF ?_
                refine ⟨_, rfl, _, rfl, q, _, _, _, rfl, rfl, SqL.of (S5 _ _ hrow), bR_at hi, _, rfl, ?_⟩
                cases c2 : (Rd.gL (Rd.W n ls i) j).testBit i with
                | false =>
                  refine iteF (fin false ?_)
                  rw [Rd.gL_wst, if_neg (by rw [c2]; exact Bool.false_ne_true), c1]
                | true =>
                  refine iteT ?_
                  refine ⟨_, rfl, _, rfl, qs[i], _, _, _, rfl, rfl, SqL.of (S5 _ _ htail4), bR_at hb, ?_⟩
                  refine fin _ ?_
                  rw [Rd.gL_wst, if_pos c2, Nat.testBit_or, c1, Bool.false_or]
            · rintro H5 ⟨S5, h5⟩
              refine ⟨_, S5 _ _ Y4.hw, small_line ?_, (S4.trans S5).mut hnp, ps ++ [d], ?_⟩
              · rw [List.length_map, Y4.len, List.length_take]
                omega
              · have hget : (Rd.wst (Rd.W n ls i) i)[j]? = some (Rd.gL (Rd.wst (Rd.W n ls i) i) j) := by
                  have hl2 : j < (Rd.wst (Rd.W n ls i) i).length := by
                    show j < (List.map _ (Rd.W n ls i)).length
                    rw [List.length_map, hWl]
                    exact hjn
                  rw [Rd.gL_eq hl2]
                  exact List.getElem?_eq_getElem hl2
                rw [take_succ_get hget]
                exact Y4.more S5 hd h5
          · rintro H4 ⟨S4, ps, Y4⟩
            rw [List.length_map, Y3.len, hWl, List.take_of_length_le (by show (List.map _ (Rd.W n ls i)).length ≤ n; rw [List.length_map, hWl]; exact Nat.le_refl _)] at Y4
            exact ⟨_, _, _, rfl, ps, Y4.rebase Y3.same⟩
        · rintro σ H3 ⟨wq, v5, v6, rfl, qs, Y3⟩
          exact ⟨_, rfl, k wq _ Y3.same Y3.data⟩
theorem ok_reach_of (T : Txt K mg) : Okd P w K mg base CX0 2 "_reach_of" ["log", "blocks"] spReachOf := by
  have c_way_table : Okd P w K mg base CX0 1 "_way_table" ["log", "blocks"] spWays := ok_ways T
  refine okd0 (st := s_reach_of) T m_reach_of sc_reach_of (fun vs H Q E h => ?_) (fun _ _ _ _ _ _ us hl => match us, hl with | [_, _], _ => rfl) (fun f cdv A outer s H vs Q E hr h => ⟨_, (pss_cons (ps_set (i := 2) sc_reach_of.nd rfl (Or.inl rfl) (pe_lst pa_nil))
  (pss_cons (ps_for PassesOwn.never rfl (pi_list (pe_cd c_way_table hr (by decide) rfl (pa_cons (pv 0) (pa_cons (pv 1) pa_nil)))) (pg_name (i := 3) sc_reach_of.nd rfl (Or.inr rfl))
    (pss_one (ps_expr (pe_bm PySem.F.plainAttrs_list PySem.F.slot_list_append PySem.F.type_list_append mt_append (pv 2) (pa_cons (pe_callTy call_tuple_of (by rfl) T.b_tuple (by decide +kernel) (pa_cons (pe_lc (own := [("block", 4)]) (g := (gName 4)) rfl sc_reach_of.nd (pi_range1 (by rfl) T.b_range (pa_cons (pv 1) pa_nil)) (blkOk_by (N := reach_of_N) (sc := defScope s_reach_of) (by decide +kernel)) (fun _ _ _ _ _ => (pg_name (i := 4) sc_reach_of.nd rfl (Or.inl rfl))) (fun _ _ _ _ _ => (pts_one (pt_val (pe_ix (r := rIxL K) ix_list (pv 3) (pv 4) (fun _ _ => rfl))))) (fun _ _ _ _ _ => (pv 4))) pa_nil)) pa_nil)))))
  (pss_one (ps_ret (pe_callTy call_tuple_of (by rfl) T.b_tuple (by decide +kernel) (pa_cons (pv 2) pa_nil)))))), ?_⟩)
  · obtain ⟨vl, n, ls, rfl, _⟩ := h
    rfl
  · obtain ⟨vl, n, ls, rfl, hn, ho, hv, k⟩ := h
    refine ⟨Nat.zero_le _, fun r hr0 => ?_⟩
    have S0 : Same H (upd H r (.lst [])) := .new hr0
    refine ⟨_, rfl, _, rfl, vl, n, ls, rfl, hn, ho, hv.to S0, fun wp H1 S1 hw => ?_⟩
    have hr1 := S1 _ _ (upd_same (a := r) (o := .lst []))
    have hWl : (Rd.W n ls n).length = n := Rd.len_W n ls n
    generalize Rd.W n ls n = TT at hw k hWl
    obtain ⟨wa, ws, e, hwa, hws⟩ := hw.list_inv
    cases e
    have hwl : ws.length = n := by rw [hws.len, List.length_map, hWl]
    have hmr : mns (upd H r (.lst [])) H1 r = none := mns_old upd_same
    refine ⟨wp, rfl, ⟨_, SqL.of (mns_same _ _ hwa)⟩, for_list (K := K) (a := wp) (xs := ws) (fun i σ H2 => (∃ v3, σ = [some vl, some (.int n), some (.ref r), v3, none]) ∧ Same H H2 ∧ Same (mns (upd H r (.lst [])) H1) H2 ∧ ∃ zs, H2 r = some (.lst zs) ∧ DtAll (wo H2 r) zs ((TT.take i).map fun m => rowD (lotL n m))) ⟨⟨_, rfl⟩, S0.trans S1, mns_same, [], hr1, .nil⟩ (fun i σ H2 _ z => SqL.of (z.2.2.1 _ _ hwa)) ?_ ?_⟩
    · rintro i x σ H2 hxi ⟨⟨v3, rfl⟩, S2, M2, zs, hz, hzs⟩
      obtain ⟨dd, hd1, hd2⟩ := hws.of_get hxi
      obtain ⟨m, hm, rfl⟩ := get_map hd1
      obtain ⟨q, rfl, hq⟩ := bools_dt hd2
      have hil := get_lt hm
      refine ⟨_, rfl, .inl ⟨rfl, _, SqL.of hz⟩, _, rfl, n, rfl, by omega, by omega, fun d hd => ?_⟩
      refine lc_rng (n := n) (fun b H3 => Same H2 H3 ∧ H3 d = some (.lst (nV ((List.range b).filter fun b => m.testBit b)))) ⟨.new hd, upd_same⟩ ?_ ?_
      · rintro b H3 hb ⟨S3, h3⟩
        refine ⟨rfl, _, rfl, _, rfl, q, _, _, _, rfl, rfl, SqL.of (S3 _ _ (M2 _ _ hq)), bR_at hb, _, rfl, ?_⟩
        rw [List.range_succ, List.filter_append]
        cases c : m.testBit b with
        | true =>
          refine iteT ⟨_, rfl, _, h3, small_line ?_, S3.mut hd, ?_⟩
          · rw [nV_len]
            have := List.length_filter_le (fun b => m.testBit b) (List.range b)
            rw [List.length_range] at this
            omega
          · rw [upd_same, nV_snoc]
            simp [c]
        | false =>
          refine iteF ⟨S3, ?_⟩
          rw [h3]
          simp [c]
      · rintro H3 ⟨S3, h3⟩
        refine ⟨d, _, rfl, .inl ⟨SqL.of h3, fun t ht => ?_⟩⟩
        have S4 : Same H2 (upd H3 t (.tup (nV (lotL n m)))) := S3.to ht
        have hz4 := S4 _ _ hz
        have htr : t ≠ r := fun z => by
          rw [z] at ht
          have := S3 _ _ hz
          rw [ht] at this
          cases this
        refine ⟨r, _, _, rfl, rfl, hz4, small_line ?_, ⟨_, rfl⟩, (S2.trans S4).mut hr0, mns_mut (M2.trans S4) upd_same, _, upd_same, ?_⟩
        · rw [hzs.len, List.length_map, List.length_take]
          omega
        · rw [wo_upd, take_succ_get hm, List.map_append]
          exact (hzs.to (wo_mono S4)).snoc (dt_row (by rw [wo_ne htr, upd_same]))
    · rintro σ H2 ⟨⟨v3, rfl⟩, S2, M2, zs, hz, hzs⟩
      rw [hwl, List.take_of_length_le (Nat.le_of_eq hWl)] at hzs
      refine ⟨_, rfl, r, _, rfl, .inl ⟨SqL.of hz, fun t ht => ?_⟩⟩
      exact k t _ (S2.to ht) (.tup upd_same (hzs.to (wo_same.trans (Same.new ht))))
end
end Rw
/-! ## FCheck -/
namespace Rw
open PySem PySem.Spec PyProof.Rows L2
abbrev check_image_N : List Str := ["image", "block", "entry"]
theorem sc_check_image : FnScope check_image_N ["image"] (defScope s_check_image) := ⟨rfl, rfl, rfl, by decide +kernel, rfl, by decide +kernel, by decide +kernel⟩
theorem m_check_image : d_check_image ∈ fn := List.mem_of_getElem? (i := 0) rfl
abbrev home_N : List Str := ["blocks"]
theorem sc_home : FnScope home_N ["blocks"] (defScope s_home) := ⟨rfl, rfl, rfl, by decide +kernel, rfl, by decide +kernel, by decide +kernel⟩
theorem m_home : d_home ∈ fn := List.mem_of_getElem? (i := 1) rfl
abbrev has_guard_signs_N : List Str := ["guard", "sign"]
theorem sc_has_guard_signs : FnScope has_guard_signs_N ["guard"] (defScope s_has_guard_signs) := ⟨rfl, rfl, rfl, by decide +kernel, rfl, by decide +kernel, by decide +kernel⟩
theorem m_has_guard_signs : d_has_guard_signs ∈ fn := List.mem_of_getElem? (i := 2) rfl
abbrev is_index_N : List Str := ["number", "blocks"]
theorem sc_is_index : FnScope is_index_N ["number", "blocks"] (defScope s_is_index) := ⟨rfl, rfl, rfl, by decide +kernel, rfl, by decide +kernel, by decide +kernel⟩
theorem m_is_index : d_is_index ∈ fn := List.mem_of_getElem? (i := 3) rfl
abbrev is_guard_N : List Str := ["guard", "blocks"]
theorem sc_is_guard : FnScope is_guard_N ["guard", "blocks"] (defScope s_is_guard) := ⟨rfl, rfl, rfl, by decide +kernel, rfl, by decide +kernel, by decide +kernel⟩
theorem m_is_guard : d_is_guard ∈ fn := List.mem_of_getElem? (i := 4) rfl
abbrev check_line_N : List Str := ["line", "blocks", "op", "target", "source", "guard"]
theorem sc_check_line : FnScope check_line_N ["line", "blocks"] (defScope s_check_line) := ⟨rfl, rfl, rfl, by decide +kernel, rfl, by decide +kernel, by decide +kernel⟩
theorem m_check_line : d_check_line ∈ fn := List.mem_of_getElem? (i := 5) rfl
def spImage : Sp := fun vs H Q _ => ∃ (p : Addr) (n : Nat), vs = [.ref p] ∧ 1 ≤ n ∧ n ≤ 12 ∧ H p = some (.tup (nV (List.range n))) ∧ ∀ H', Same H H' → Q .non H'
def spHome : Sp := fun vs H Q _ => ∃ (n : Nat), vs = [.int (n : Int)] ∧ n ≤ 100 ∧ ∀ p H', Same H H' → H' p = some (.tup (nV (List.range n))) → Q (.ref p) H'
def spSigns : Sp := fun vs H Q _ => ∃ (g : Str), vs = [.str g] ∧ Q (.bl (g.cps.toList.all fun c => decide (c ∈ signs.cps.toList))) H
def spIndex : Sp := fun vs H Q _ => ∃ (i : Int) (n : Nat), vs = [.int i, .int (n : Int)] ∧ Q (.bl (isIx i n)) H
def spGuard : Sp := fun vs H Q _ => ∃ (g : Str) (n : Nat), vs = [.str g, .int (n : Int)] ∧ g.length ≤ 1000 ∧ Q (.bl (isGd g n)) H
section
variable {P : Program} {w : World} {K : PySem.W.Frag} {mg : Str → Option Value} {base : Heap}
theorem ok_home (T : Txt K mg) : Okd P w K mg base CX0 1 "home" ["blocks"] spHome := by
  refine okd0 (st := s_home) T m_home sc_home (fun vs H Q E h => ?_) (fun _ _ _ _ _ _ us hl => match us, hl with | [_], _ => rfl) (fun f cdv A outer s H vs Q E hr h => ⟨_, (pss_one (ps_ret (pe_tupRg rfl (by rfl) T.b_tuple (prg_1 (by rfl) T.b_range (pv 0))))), ?_⟩)
  · obtain ⟨n, rfl, _⟩ := h
    rfl
  · obtain ⟨n, rfl, hn, k⟩ := h
    refine ⟨_, rfl, n, rfl, ⟨by omega, by omega, by omega, by omega, by omega⟩, fun t ht => ?_⟩
    rw [rgV_nat]
    exact k t _ (Same.new ht) upd_same
theorem ok_signs (T : Txt K mg) : Okd P w K mg base CX0 1 "has_guard_signs" ["guard"] spSigns := by
  obtain ⟨_, h_GUARD_SIGNS⟩ := T.c_GUARD_SIGNS
  refine okd0 (st := s_has_guard_signs) T m_has_guard_signs sc_has_guard_signs (fun vs H Q E h => ?_) (fun _ _ _ _ _ _ us hl => match us, hl with | [_], _ => rfl) (fun f cdv A outer s H vs Q E hr h => ⟨_, (pss_cons (ps_for PassesOwn.never rfl (pi_str (pv 0)) (pg_name (i := 1) sc_has_guard_signs.nd rfl (Or.inl rfl))
    (pss_one (ps_if (pt_cmpR op_notIn_sign (pv 1) (pe_glob (v := .str ".*-0123456789") rfl h_GUARD_SIGNS ⟨_, rfl⟩) (by rfl))
      (pss_one (ps_ret pe_bl))
      pss_nil)))
  (pss_one (ps_ret pe_bl))), ?_⟩)
  · obtain ⟨g, rfl, _⟩ := h
    rfl
  · obtain ⟨g, rfl, k⟩ := h
    refine ⟨_, rfl, g, rfl, for_str (x := g) (fun i σ H1 => H1 = H ∧ (∃ v, σ = [some (.str g), v]) ∧ ∀ j, j < i → ∀ c, g.cps[j]? = some c → c ∈ signs.cps.toList) ⟨rfl, ⟨_, rfl⟩, fun j h => absurd h (Nat.not_lt_zero _)⟩ ?_ ?_⟩
    · rintro i c σ H1 hc ⟨rfl, ⟨v, rfl⟩, hall⟩
      refine ⟨_, rfl, c, signs, rfl, rfl, _, rfl, ?_⟩
      by_cases m : c ∈ signs.cps.toList
      · rw [decide_eq_true m]
        refine iteF ⟨rfl, ⟨_, rfl⟩, fun j hj d hd => ?_⟩
        by_cases e : j = i
        · rw [e, hc] at hd
          cases hd
          exact m
        · exact hall j (by omega) d hd
      · rw [decide_eq_false m]
        refine iteT ?_
        have e : (g.cps.toList.all fun c => decide (c ∈ signs.cps.toList)) = false := by
          refine Bool.eq_false_iff.mpr fun z => m ?_
          have q := List.all_eq_true.mp z c (List.mem_of_getElem? (i := i) (by simpa using hc))
          exact of_decide_eq_true q
        rw [e] at k
        exact k
    · rintro σ H1 ⟨rfl, ⟨v, rfl⟩, hall⟩
      have e : (g.cps.toList.all fun c => decide (c ∈ signs.cps.toList)) = true := by
        refine List.all_eq_true.mpr fun c hc => decide_eq_true ?_
        obtain ⟨j, hj⟩ := List.mem_iff_getElem?.mp hc
        have hj' : g.cps[j]? = some c := by simpa using hj
        exact hall j (Array.getElem?_eq_some_iff.mp hj').1 c hj'
      rw [e] at k
      exact k
theorem ok_index (T : Txt K mg) : Okd P w K mg base CX0 1 "is_index" ["number", "blocks"] spIndex := by
  refine okd0 (st := s_is_index) T m_is_index sc_is_index (fun vs H Q E h => ?_) (fun _ _ _ _ _ _ us hl => match us, hl with | [_, _], _ => rfl) (fun f cdv A outer s H vs Q E hr h => ⟨_, (pss_one (ps_ret (pe_and (pe_callB call_isi (by rfl) T.b_isinstance (by decide +kernel) (pa_cons (pv 0) (pa_cons (pe_bltn (v := .ty "int") (by rfl) T.b_int (by decide +kernel) rfl) pa_nil))) (pe_one (pe_chain op_le op_lt pe_int (pv 0) (pv 1)))))), ?_⟩)
  · obtain ⟨i, n, rfl, _⟩ := h
    rfl
  · obtain ⟨i, n, rfl, k⟩ := h
    refine ⟨_, rfl, _, _, .type "int", _, true, rfl, .ty "int", .base (.int i), kit_ty (a := "int") (b := "int") (by decide +kernel), _, rfl, ?_⟩
    refine iteT ?_
    refine ⟨_, rfl, _, _, rfl, rfl, _, rfl, ?_⟩
    refine iteD (fun c => ?_) (fun c => ?_)
    · refine ⟨_, rfl, _, _, rfl, rfl, ?_⟩
      have e : isIx i n = decide (i < (n : Int)) := by
        rw [isIx, decide_eq_true c, Bool.true_and]
      rw [e] at k
      exact k
    · have e : isIx i n = false := by
        rw [isIx, decide_eq_false c, Bool.false_and]
      rw [e] at k
      exact k
theorem ok_guard (T : Txt K mg) : Okd P w K mg base CX0 2 "is_guard" ["guard", "blocks"] spGuard := by
  have c_has_guard_signs : Okd P w K mg base CX0 1 "has_guard_signs" ["guard"] spSigns := ok_signs T
  refine okd0 (st := s_is_guard) T m_is_guard sc_is_guard (fun vs H Q E h => ?_) (fun _ _ _ _ _ _ us hl => match us, hl with | [_, _], _ => rfl) (fun f cdv A outer s H vs Q E hr h => ⟨_, (pss_cons (ps_if (pt_not (pt_val (pe_callB call_isi (by rfl) T.b_isinstance (by decide +kernel) (pa_cons (pv 0) (pa_cons (pe_bltn (v := .ty "str") (by rfl) T.b_str (by decide +kernel) rfl) pa_nil)))))
    (pss_one (ps_ret pe_bl))
    pss_nil)
  (pss_cons (ps_if (pt_cmpR op_eq (pv 0) pe_str (nomark _))
    (pss_one (ps_ret pe_bl))
    pss_nil)
  (pss_one (ps_ret (pe_and (pe_cmpR op_eq (pe_callB call_len_str (by rfl) T.b_len PySem.boot_len (pa_cons (pv 0) pa_nil)) (pv 1) (nomark _)) (pe_one (pe_cd c_has_guard_signs hr (by decide) rfl (pa_cons (pv 0) pa_nil)))))))), ?_⟩)
  · obtain ⟨g, n, rfl, _⟩ := h
    rfl
  · obtain ⟨g, n, rfl, hl, k⟩ := h
    refine ⟨_, rfl, _, _, .type "str", _, true, rfl, .ty "str", .base (.str g), kit_ty (a := "str") (b := "str") (by decide +kernel), _, rfl, ?_⟩
    refine iteF ?_
    refine ⟨_, rfl, rfl, _, rfl, ?_⟩
    by_cases c : g = ""
    · rw [decide_eq_true (show V.str g = V.str "" by rw [c])]
      refine iteT ?_
      have e : isGd g n = true := by rw [isGd, decide_eq_true c, Bool.true_or]
      rw [e] at k
      exact k
    · rw [decide_eq_false (fun z => c (V.str.inj z))]
      refine iteF ?_
      have e0 : isGd g n = (decide (g.length = n) && g.cps.toList.all fun c => decide (c ∈ signs.cps.toList)) := by rw [isGd, decide_eq_false c, Bool.false_or]
      rw [e0] at k
      refine ⟨_, rfl, g, rfl, len_line hl, _, rfl, rfl, _, rfl, ?_⟩
      refine iteI (fun e1 => ?_) (fun e1 => ?_)
      · have c2 : g.length = n := by omega
        refine ⟨_, rfl, g, rfl, ?_⟩
        rw [decide_eq_true c2, Bool.true_and] at k
        exact k
      · have c2 : ¬ g.length = n := fun z => e1 (by rw [z])
        rw [decide_eq_false c2, Bool.false_and] at k
        exact k
def spLine1 : Sp := fun vs H Q _ => ∃ (v : V) (n : Nat) (x : LnX), vs = [v, .int (n : Int)] ∧ Dt H v x.toD ∧ x.small ∧ Q (.bl (x.ok n)) H
theorem ok_check_line (T : Txt K mg) : Okd P w K mg base CX0 3 "check_line" ["line", "blocks"] spLine1 := by
  have c_is_index : Okd P w K mg base CX0 1 "is_index" ["number", "blocks"] spIndex := ok_index T
  have c_is_guard : Okd P w K mg base CX0 2 "is_guard" ["guard", "blocks"] spGuard := ok_guard T
  obtain ⟨_, h_EMPTY⟩ := T.c_EMPTY
  refine okd0 (st := s_check_line) T m_check_line sc_check_line (fun vs H Q E h => ?_) (fun _ _ _ _ _ _ us hl => match us, hl with | [_, _], _ => rfl) (fun f cdv A outer s H vs Q E hr h => ⟨_, (pss_cons (ps_if (PW.pt (pw_or (pt_not (pt_val (pe_callB call_isi (by rfl) T.b_isinstance (by decide +kernel) (pa_cons (pv 0) (pa_cons (pe_bltn (v := .ty "tuple") (by rfl) T.b_tuple (by decide +kernel) rfl) pa_nil))))) (pw_or1 (pt_cmpR op_ne (pe_callB call_len_seq (by rfl) T.b_len PySem.boot_len (pa_cons (pv 0) pa_nil)) pe_int (nomark _)))))
    (pss_one (ps_ret pe_bl))
    pss_nil)
  (pss_cons (ps_asg (pv 0) (pg_tup rfl (pgs_cons (pg_name (i := 2) sc_check_line.nd rfl (Or.inl rfl)) (pgs_cons (pg_name (i := 3) sc_check_line.nd rfl (Or.inl rfl)) (pgs_cons (pg_name (i := 4) sc_check_line.nd rfl (Or.inl rfl)) (pgs_cons (pg_name (i := 5) sc_check_line.nd rfl (Or.inl rfl)) pgs_nil))))))
  (pss_cons (ps_if (PW.pt (pw_or (pt_not (pt_val (pe_cd c_is_index hr (by decide) rfl (pa_cons (pv 3) (pa_cons (pv 1) pa_nil))))) (pw_or1 (pt_not (pt_val (pe_cd c_is_guard hr (by decide) rfl (pa_cons (pv 5) (pa_cons (pv 1) pa_nil))))))))
    (pss_one (ps_ret pe_bl))
    pss_nil)
  (pss_cons (ps_if (pt_cmpR op_eq (pv 2) pe_str (nomark _))
    (pss_one (ps_ret (pe_and (pe_callB call_isi (by rfl) T.b_isinstance (by decide +kernel) (pa_cons (pv 4) (pa_cons (pe_bltn (v := .ty "int") (by rfl) T.b_int (by decide +kernel) rfl) pa_nil))) (pe_one (pe_cmpR op_eq (pv 4) (pe_glob (v := .int (-1)) rfl h_EMPTY ⟨_, rfl⟩) (nomark _))))))
    pss_nil)
  (pss_cons (ps_if (PW.pt (pw_or (pt_cmpR op_eq (pv 2) pe_str (nomark _)) (pw_or1 (pt_cmpR op_eq (pv 2) pe_str (nomark _)))))
    (pss_one (ps_ret (pe_and (pe_cd c_is_index hr (by decide) rfl (pa_cons (pv 4) (pa_cons (pv 1) pa_nil))) (pe_one (pe_cmpR op_ne (pv 4) (pv 3) (nomark _))))))
    pss_nil)
  (pss_one (ps_ret pe_bl))))))), ?_⟩)
  · obtain ⟨v, n, x, rfl, _⟩ := h
    rfl
  · obtain ⟨v, n, x, rfl, hv, hs, k⟩ := h
    have ty := hv.ty (K := K)
    cases x with
    | non =>
      refine ⟨_, rfl, _, _, .type "NoneType", _, false, rfl, .ty "tuple", ty, kit_ty (a := "NoneType") (b := "tuple") (by decide +kernel), _, rfl, ?_⟩
      exact iteT k
    | lst ds =>
      refine ⟨_, rfl, _, _, .type "list", _, false, rfl, .ty "tuple", ty, kit_ty (a := "list") (b := "tuple") (by decide +kernel), _, rfl, ?_⟩
      exact iteT k
    | tri op t s =>
      refine ⟨_, rfl, _, _, .type "tuple", _, true, rfl, .ty "tuple", ty, kit_ty (a := "tuple") (b := "tuple") (by decide +kernel), _, rfl, ?_⟩
      refine iteF ?_
      obtain ⟨a, xs, rfl, h1, h2⟩ := hv.tuple_inv
      refine ⟨_, rfl, a, _, rfl, .inr (SqT.of h1), rfl, _, rfl, ?_⟩
      rw [h2.len]
      exact iteT k
    | quad op t s g =>
      refine ⟨_, rfl, _, _, .type "tuple", _, true, rfl, .ty "tuple", ty, kit_ty (a := "tuple") (b := "tuple") (by decide +kernel), _, rfl, ?_⟩
      refine iteF ?_
      obtain ⟨a, xs, rfl, h1, h2⟩ := hv.tuple_inv
      refine ⟨_, rfl, a, _, rfl, .inr (SqT.of h1), rfl, _, rfl, ?_⟩
      rw [h2.len]
      refine iteF ?_
      have ex : xs = [.str op, .int t, .int s, .str g] := by
        match xs, h2 with
        | [_, _, _, _], .cons a1 (.cons a2 (.cons a3 (.cons a4 .nil))) => rw [a1.str_inv, a2.int_inv, a3.int_inv, a4.str_inv]
      subst ex
      refine ⟨_, rfl, a, _, rfl, SqT.of h1, rfl, _, _, rfl, _, _, rfl, _, _, rfl, _, _, rfl, rfl, ?_⟩
      have e0 : LnX.ok n (.quad op t s g) = (isIx t n && (isGd g n && (if op = "clear" then decide (s = -1) else if op = "copy" ∨ op = "move" then isIx s n && decide (s ≠ t) else false))) := rfl
      rw [e0] at k
      refine ⟨_, rfl, _, rfl, t, n, rfl, _, rfl, ?_⟩
      cases c1 : isIx t n with
      | false =>
        rw [c1] at k
        exact iteT k
      | true =>
        rw [c1, Bool.true_and] at k
        refine iteF ?_
        refine ⟨_, rfl, _, rfl, g, n, rfl, Nat.le_trans hs.2.1.1 (by decide), _, rfl, ?_⟩
        cases c2 : isGd g n with
        | false =>
          rw [c2] at k
          exact iteT k
        | true =>
          rw [c2, Bool.true_and] at k
          refine iteF ?_
          refine ⟨_, rfl, rfl, _, rfl, ?_⟩
          by_cases c3 : op = "clear"
          · rw [if_pos c3] at k
            rw [decide_eq_true (show V.str op = V.str "clear" by rw [c3])]
            refine iteT ?_
            refine ⟨_, rfl, _, _, .type "int", _, true, rfl, .ty "int", .base (.int s), kit_ty (a := "int") (b := "int") (by decide +kernel), _, rfl, ?_⟩
            refine iteT ?_
            refine ⟨_, rfl, rfl, ?_⟩
            have e : decide (V.int s = V.int (-1)) = decide (s = -1) := decide_eq_decide.mpr ⟨fun z => V.int.inj z, fun z => by rw [z]⟩
            rw [e]
            exact k
          · rw [if_neg c3] at k
            rw [decide_eq_false (fun z => c3 (V.str.inj z))]
            refine iteF ?_
            refine ⟨_, rfl, rfl, _, rfl, ?_⟩
            by_cases c4 : op = "copy"
            · rw [if_pos (.inl c4)] at k
              rw [decide_eq_true (show V.str op = V.str "copy" by rw [c4])]
              refine iteT ?_
              refine ⟨_, rfl, _, rfl, s, n, rfl, _, rfl, ?_⟩
              cases c6 : isIx s n with
              | false =>
                rw [c6] at k
                exact iteF k
              | true =>
                rw [c6, Bool.true_and] at k
                refine iteT ⟨_, rfl, _, rfl, rfl, ?_⟩
                have e : (!decide (V.int s = V.int t)) = decide (s ≠ t) := by
                  by_cases z : s = t
                  · simp [z]
                  · simp [z]
                rw [e]
                exact k
            · rw [decide_eq_false (fun z => c4 (V.str.inj z))]
              refine iteF ?_
              refine ⟨_, rfl, rfl, _, rfl, ?_⟩
              by_cases c5 : op = "move"
              · rw [if_pos (.inr c5)] at k
                rw [decide_eq_true (show V.str op = V.str "move" by rw [c5])]
                refine iteT ?_
                refine ⟨_, rfl, _, rfl, s, n, rfl, _, rfl, ?_⟩
                cases c6 : isIx s n with
                | false =>
                  rw [c6] at k
                  exact iteF k
                | true =>
                  rw [c6, Bool.true_and] at k
                  refine iteT ⟨_, rfl, _, rfl, rfl, ?_⟩
                  have e : (!decide (V.int s = V.int t)) = decide (s ≠ t) := by
                    by_cases z : s = t
                    · simp [z]
                    · simp [z]
                  rw [e]
                  exact k
              · rw [if_neg (fun z => z.elim c4 c5)] at k
                rw [decide_eq_false (fun z => c5 (V.str.inj z))]
                exact iteF k
end
end Rw
/-! ## FLog -/
namespace Rw
open PySem PySem.Spec PyProof.Rows L2
abbrev check_script_N : List Str := ["script", "image", "at", "line"]
theorem sc_check_script : FnScope check_script_N ["script", "image"] (defScope s_check_script) := ⟨rfl, rfl, rfl, by decide +kernel, rfl, by decide +kernel, by decide +kernel⟩
theorem m_check_script : d_check_script ∈ fn := List.mem_of_getElem? (i := 6) rfl
abbrev pairs_N : List Str := ["script", "found", "at", "line", "op", "target", "source", "guard"]
theorem sc_pairs : FnScope pairs_N ["script"] (defScope s_pairs) := ⟨rfl, rfl, rfl, by decide +kernel, rfl, by decide +kernel, by decide +kernel⟩
theorem m_pairs : d_pairs ∈ fn := List.mem_of_getElem? (i := 7) rfl
abbrev check_log_N : List Str := ["script", "blocks"]
theorem sc_check_log : FnScope check_log_N ["script", "blocks"] (defScope s_check_log) := ⟨rfl, rfl, rfl, by decide +kernel, rfl, by decide +kernel, by decide +kernel⟩
theorem m_check_log : d_check_log ∈ fn := List.mem_of_getElem? (i := 8) rfl
abbrev ilA (K : PySem.W.Frag) : Addr := He.ga K "InvalidLine"
abbrev npA (K : PySem.W.Frag) : Addr := He.ga K "NotPlain"
/-- what raising leaves: the error's class, where -/
def Raised (K : PySem.W.Frag) (pl : Bool) (i : Int) (H : Hp) (E : XK) : Prop := ∀ d H', Same H H' → H' d = some (.xd [("at", .int i)]) → E (.ref (if pl then npA K else ilA K)) (some d) H'
theorem Raised.from {K : PySem.W.Frag} {pl : Bool} {i : Int} {H H1 : Hp} {E : XK} (r : Raised K pl i H E) (S : Same H H1) : Raised K pl i H1 E := fun d H' S' e => r d H' (S.trans S') e
def spScript (K : PySem.W.Frag) : Sp := fun vs H Q E => ∃ (v : V) (p : Addr) (n : Nat) (sc : Scr), vs = [v, .ref p] ∧ 1 ≤ n ∧ n ≤ 12 ∧ H p = some (.tup (nV (List.range n))) ∧ Dt H v sc.toD ∧ (∀ x ∈ sc.lines, x.small) ∧ sc.lines.length ≤ 1000 ∧
  (match sc.fault n with
    | none => ∀ H', Same H H' → Q .non H'
    | some i => Raised K false i H E)
def spPairs (K : PySem.W.Frag) : Sp := fun vs H Q E => ∃ (v : V) (n : Nat) (ls : List LnX), vs = [v] ∧ Dt H v (.list (ls.map LnX.toD)) ∧ (∀ x ∈ ls, x.ok n = true) ∧ ls.length ≤ 60 ∧
  (match firstBad LnX.plain ls with
    | none => ∀ r H', Same H H' → Dt H' (.ref r) (lksD (ls.map LnX.lk)) → Q (.ref r) H'
    | some i => Raised K true ((i : Nat) : Int) H E)
def spLog (K : PySem.W.Frag) : Sp := fun vs H Q E => ∃ (v : V) (n : Nat) (sc : Scr), vs = [v, .int (n : Int)] ∧ 1 ≤ n ∧ n ≤ 12 ∧ Dt H v sc.toD ∧ (∀ x ∈ sc.lines, x.small) ∧ sc.lines.length ≤ 1000 ∧
  (match sc.out n with
    | .good ls => ∀ r H', Same H H' → Dt H' (.ref r) (lksD ls) → Q (.ref r) H'
    | .bad pl i => Raised K pl i H E)
theorem quads_at {H : Hp} {xs : List V} {ls : List LnX} {i : Nat} {x : V} (d : DtAll H xs (ls.map LnX.toD)) (h : xs[i]? = some x) : ∃ l, ls[i]? = some l ∧ Dt H x l.toD := by
  obtain ⟨dd, h1, h2⟩ := d.of_get h
  obtain ⟨l, h3, rfl⟩ := get_map h1
  exact ⟨l, h3, h2⟩
theorem quad_inv {H : Hp} {x : V} {op : Str} {t s : Int} {g : Str} (h : Dt H x (LnX.quad op t s g).toD) : ∃ a, x = .ref a ∧ H a = some (.tup [.str op, .int t, .int s, .str g]) := by
  obtain ⟨a, xs, rfl, h1, h2⟩ := h.tuple_inv
  refine ⟨a, rfl, ?_⟩
  match xs, h2 with
  | [_, _, _, _], .cons a1 (.cons a2 (.cons a3 (.cons a4 .nil))) => rw [h1, a1.str_inv, a2.int_inv, a3.int_inv, a4.str_inv]
theorem first_at {p : LnX → Bool} {ls : List LnX} {i : Nat} {x : LnX} (h : ls[i]? = some x) (hp : p x = false) (hb : ∀ j, j < i → ∀ y, ls[j]? = some y → p y = true) : firstBad p ls = some i := by
  have hi := get_lt h
  refine List.findIdx?_eq_some_iff_getElem.mpr ⟨hi, ?_, fun j hj => ?_⟩
  · rw [List.getElem?_eq_getElem hi] at h
    rw [Option.some.inj h, hp]
    rfl
  · have hj2 := Nat.lt_trans hj hi
    rw [hb j hj ls[j] (List.getElem?_eq_getElem hj2)]
    decide
theorem first_all {p : LnX → Bool} {ls : List LnX} (hb : ∀ j, j < ls.length → ∀ y, ls[j]? = some y → p y = true) : firstBad p ls = none := by
  refine List.findIdx?_eq_none_iff.mpr fun x hx => ?_
  obtain ⟨j, hj⟩ := List.mem_iff_getElem?.mp hx
  rw [hb j (get_lt hj) x hj]
  rfl
section
variable {P : Program} {w : World} {K : PySem.W.Frag} {mg : Str → Option Value} {base : Heap}
theorem ok_image (T : Txt K mg) : Okd P w K mg base CX0 1 "check_image" ["image"] spImage := by
  obtain ⟨_, h_MOST_BLOCKS⟩ := T.c_MOST_BLOCKS
  obtain ⟨_, h_MOST_VALUE⟩ := T.c_MOST_VALUE
  obtain ⟨_, h_EMPTY⟩ := T.c_EMPTY
  refine okd0 (st := s_check_image) T m_check_image sc_check_image (fun vs H Q E h => ?_) (fun _ _ _ _ _ _ us hl => match us, hl with | [_], _ => rfl) (fun f cdv A outer s H vs Q E hr h => ⟨_, (pss_cons (ps_if (PW.pt (pw_or (pt_not (pt_val (pe_callB call_isi (by rfl) T.b_isinstance (by decide +kernel) (pa_cons (pv 0) (pa_cons (pe_bltn (v := .ty "tuple") (by rfl) T.b_tuple (by decide +kernel) rfl) pa_nil))))) (pw_or1 (pt_not (pt_chain op_le op_le pe_int (pe_callB call_len_seq (by rfl) T.b_len PySem.boot_len (pa_cons (pv 0) pa_nil)) (pe_glob (v := .int 12) rfl h_MOST_BLOCKS ⟨_, rfl⟩))))))
    (pss_one ps_dead)
    pss_nil)
  (pss_one (ps_for PassesOwn.never rfl (pi_enumT (by rfl) T.b_enumerate (pa_cons (pv 0) pa_nil)) (pg_tup rfl (pgs_cons (pg_name (i := 1) sc_check_image.nd rfl (Or.inl rfl)) (pgs_cons (pg_name (i := 2) sc_check_image.nd rfl (Or.inl rfl)) pgs_nil)))
    (pss_one (ps_if (PW.pt (pw_or (pt_not (pt_val (pe_callB call_isi (by rfl) T.b_isinstance (by decide +kernel) (pa_cons (pv 2) (pa_cons (pe_bltn (v := .ty "int") (by rfl) T.b_int (by decide +kernel) rfl) pa_nil))))) (pw_or1 (pt_not (pt_chain op_le op_le (pe_glob (v := .int (-1)) rfl h_EMPTY ⟨_, rfl⟩) (pv 2) (pe_glob (v := .int 999) rfl h_MOST_VALUE ⟨_, rfl⟩))))))
      (pss_one ps_dead)
      pss_nil))))), ?_⟩)
  · obtain ⟨p, n, rfl, _⟩ := h
    rfl
  · obtain ⟨p, n, rfl, hn1, hn, hp, k⟩ := h
    refine ⟨_, rfl, _, _, .type "tuple", _, true, rfl, .ty "tuple", .base (.tup hp), kit_ty (a := "tuple") (b := "tuple") (by decide +kernel), _, rfl, ?_⟩
    refine iteF ?_
    refine ⟨_, rfl, p, _, rfl, .inr (SqT.of hp), _, _, rfl, rfl, _, rfl, ?_⟩
    rw [nV_len, List.length_range]
    refine iteD (fun _ => ?_) (fun c => absurd (show (1 : Int) ≤ (n : Int) by omega) c)
    refine ⟨_, _, rfl, rfl, _, rfl, ?_⟩
    rw [decide_eq_true (show (n : Int) ≤ 12 by omega)]
    refine iteF ?_
    refine ⟨_, rfl, p, _, rfl, SqT.of hp, for_enumT (K := K) (a := p) (xs := nV (List.range n)) (fun i σ H1 => Same H H1 ∧ ∃ v1 v2, σ = [some (.ref p), v1, v2]) ⟨Same.refl _, _, _, rfl⟩ (fun i σ H1 z => SqT.of (z.1 _ _ hp)) ?_ ?_⟩
    · rintro i x T' σ H1 hx ⟨S, v1, v2, rfl⟩ hT
      obtain ⟨hi, rfl⟩ := nV_get hx
      have hg : Rd.gL (List.range n) i < n := by
        rw [Rd.gL_eq hi, List.getElem_range]
        rw [List.length_range] at hi
        exact hi
      refine ⟨T', _, rfl, SqT.of upd_same, rfl, _, _, rfl, _, _, rfl, rfl, ?_⟩
      refine ⟨_, rfl, _, _, .type "int", _, true, rfl, .ty "int", .base (.int _), kit_ty (a := "int") (b := "int") (by decide +kernel), _, rfl, ?_⟩
      refine iteF ?_
      refine ⟨_, rfl, _, _, rfl, rfl, _, rfl, ?_⟩
      refine iteD (fun _ => ?_) (fun c => absurd (show (-1 : Int) ≤ ((Rd.gL (List.range n) i : Nat) : Int) by omega) c)
      refine ⟨_, _, rfl, rfl, _, rfl, ?_⟩
      rw [decide_eq_true (show ((Rd.gL (List.range n) i : Nat) : Int) ≤ 999 by omega)]
      exact iteF ⟨S.to hT, _, _, rfl⟩
    · rintro σ H1 ⟨S, v1, v2, rfl⟩
      exact k _ S
theorem ok_script (T : Txt K mg) (TE : Errs P K mg) : Okd P w K mg base (L2.CX P w) 4 "check_script" ["script", "image"] (spScript K) := by
  have c_check_image : Okd P w K mg base CX0 1 "check_image" ["image"] spImage := ok_image T
  have c_check_line : Okd P w K mg base CX0 3 "check_line" ["line", "blocks"] spLine1 := ok_check_line T
  obtain ⟨_, h_MOST_LINES⟩ := T.c_MOST_LINES
  refine okd_mk (st := s_check_script) T m_check_script sc_check_script (fun vs H Q E h => ?_) (fun _ _ _ _ _ _ us hl => match us, hl with | [_, _], _ => rfl) (fun f cdv A outer s H vs Q E hr h => ⟨_, (pss_cons (ps_expr (pe_cd c_check_image hr (by decide) rfl (pa_cons (pv 1) pa_nil)))
  (pss_cons (ps_if (PW.pt (pw_or (pt_not (pt_val (pe_callB call_isi (by rfl) T.b_isinstance (by decide +kernel) (pa_cons (pv 0) (pa_cons (pe_bltn (v := .ty "list") (by rfl) T.b_list (by decide +kernel) rfl) pa_nil))))) (pw_or1 (pt_cmpR op_gt (pe_callB call_len_seq (by rfl) T.b_len PySem.boot_len (pa_cons (pv 0) pa_nil)) (pe_glob (v := .int 60) rfl h_MOST_LINES ⟨_, rfl⟩) (nomark _)))))
    (pss_one (ps_raiseE rfl TE.il hr (takes_of rfl rfl rfl rfl) (pa_cons (pe_un un_neg pe_int) pa_nil) rfl))
    pss_nil)
  (pss_one (ps_for (passes_of rfl) rfl (pi_enum (by rfl) T.b_enumerate (pa_cons (pv 0) pa_nil)) (pg_tup rfl (pgs_cons (pg_name (i := 2) sc_check_script.nd rfl (Or.inl rfl)) (pgs_cons (pg_name (i := 3) sc_check_script.nd rfl (Or.inl rfl)) pgs_nil)))
    (pss_one (ps_if (pt_not (pt_val (pe_cd c_check_line hr (by decide) rfl (pa_cons (pv 3) (pa_cons (pe_callB call_len_seq (by rfl) T.b_len PySem.boot_len (pa_cons (pv 1) pa_nil)) pa_nil)))))
      (pss_one (ps_raiseE rfl TE.il hr (takes_of rfl rfl rfl rfl) (pa_cons (pv 2) pa_nil) rfl))
      pss_nil)))))), ?_⟩)
  · obtain ⟨v, p, n, sc, rfl, _⟩ := h
    rfl
  · obtain ⟨v, p, n, sc, rfl, hn1, hn, hp, hv, hsm, hsl, k⟩ := h
    have ty := hv.ty (K := K)
    refine ⟨_, rfl, p, n, rfl, hn1, hn, hp, fun H1 S1 => ?_⟩
    cases sc with
    | non =>
      refine ⟨_, rfl, _, _, .type "NoneType", _, false, rfl, .ty "list", (hv.to S1).ty, kit_ty (a := "NoneType") (b := "list") (by decide +kernel), _, rfl, ?_⟩
      refine iteT (iteT ?_)
      exact ⟨_, rfl, -1, rfl, by decide, by decide, fun d hd => k d _ (S1.to hd) upd_same⟩
    | tup ls =>
      refine ⟨_, rfl, _, _, .type "tuple", _, false, rfl, .ty "list", (hv.to S1).ty, kit_ty (a := "tuple") (b := "list") (by decide +kernel), _, rfl, ?_⟩
      refine iteT (iteT ?_)
      exact ⟨_, rfl, -1, rfl, by decide, by decide, fun d hd => k d _ (S1.to hd) upd_same⟩
    | lst ls =>
      obtain ⟨a, xs, rfl, ha, hx⟩ := (hv.to S1).list_inv
      refine ⟨_, rfl, _, _, .type "list", _, true, rfl, .ty "list", .base (.lst ha), kit_ty (a := "list") (b := "list") (by decide +kernel), _, rfl, ?_⟩
      refine iteF ?_
      have hxl : xs.length = ls.length := by rw [hx.len, List.length_map]
      refine ⟨_, rfl, a, _, rfl, .inl (SqL.of ha), _, _, rfl, rfl, _, rfl, ?_⟩
      refine iteD (fun c => ?_) (fun c => ?_)
      · have e : (Scr.lst ls).fault n = some (-1) := by rw [Scr.fault, if_pos (by omega)]
        rw [e] at k
        exact ⟨_, rfl, -1, rfl, by decide, by decide, fun d hd => k d _ (S1.to hd) upd_same⟩
      · have hl60 : ls.length ≤ 60 := by omega
        have e0 : (Scr.lst ls).fault n = (firstBad (LnX.ok n) ls).map fun i => ((i : Nat) : Int) := by rw [Scr.fault, if_neg (by omega)]
        rw [e0] at k
        refine ⟨_, rfl, a, _, rfl, SqL.of ha, for_enumL (K := K) (a := a) (xs := xs) (fun i σ H2 => Same H1 H2 ∧ (∃ v2 v3, σ = [some (.ref a), some (.ref p), v2, v3]) ∧ ∀ j, j < i → ∀ y, ls[j]? = some y → y.ok n = true) ⟨Same.refl _, ⟨_, _, rfl⟩, fun j h => absurd h (Nat.not_lt_zero _)⟩ (fun i σ H2 z => SqL.of (z.1 _ _ ha)) ?_ ?_⟩
        · rintro i x T' σ H2 hxi ⟨S2, ⟨v2, v3, rfl⟩, hok⟩ hT
          obtain ⟨l, hl, hd⟩ := quads_at hx hxi
          have hil := get_lt hl
          have S3 : Same H1 (upd H2 T' (.tup [.int (i : Nat), x])) := S2.to hT
          have hp3 := S3 _ _ (S1 _ _ hp)
          refine ⟨T', _, rfl, SqT.of upd_same, rfl, _, _, rfl, _, _, rfl, rfl, ?_⟩
          refine ⟨_, rfl, _, rfl, p, _, rfl, .inr (SqT.of hp3), x, n, l, (by rw [nV_len, List.length_range]), hd.to S3, hsm l (List.mem_of_getElem? hl), _, rfl, ?_⟩
          cases c1 : l.ok n with
          | true =>
            refine iteF ⟨S3, ⟨_, _, rfl⟩, fun j hj y hy => ?_⟩
            by_cases e : j = i
            · rw [e, hl] at hy
              cases hy
              exact c1
            · exact hok j (by omega) y hy
          | false =>
            refine iteT ?_
            rw [first_at hl c1 hok] at k
            refine ⟨_, rfl, i, rfl, by omega, by omega, fun d hd0 => ?_⟩
            exact k d _ ((S1.trans S3).to hd0) upd_same
        · rintro σ H2 ⟨S2, ⟨v2, v3, rfl⟩, hok⟩
          rw [first_all (fun j hj y hy => hok j (by omega) y hy)] at k
          exact k _ (S1.trans S2)
theorem ok_pairs (T : Txt K mg) (TE : Errs P K mg) : Okd P w K mg base (L2.CX P w) 2 "pairs" ["script"] (spPairs K) := by
  refine okd_mk (st := s_pairs) T m_pairs sc_pairs (fun vs H Q E h => ?_) (fun _ _ _ _ _ _ us hl => match us, hl with | [_], _ => rfl) (fun f cdv A outer s H vs Q E hr h => ⟨_, (pss_cons (ps_set (i := 1) sc_pairs.nd rfl (Or.inl rfl) (pe_lst pa_nil))
  (pss_cons (ps_for (passes_of rfl) rfl (pi_enum (by rfl) T.b_enumerate (pa_cons (pv 0) pa_nil)) (pg_tup rfl (pgs_cons (pg_name (i := 2) sc_pairs.nd rfl (Or.inl rfl)) (pgs_cons (pg_name (i := 3) sc_pairs.nd rfl (Or.inl rfl)) pgs_nil)))
    (pss_cons (ps_asg (pv 3) (pg_tup rfl (pgs_cons (pg_name (i := 4) sc_pairs.nd rfl (Or.inl rfl)) (pgs_cons (pg_name (i := 5) sc_pairs.nd rfl (Or.inl rfl)) (pgs_cons (pg_name (i := 6) sc_pairs.nd rfl (Or.inl rfl)) (pgs_cons (pg_name (i := 7) sc_pairs.nd rfl (Or.inl rfl)) pgs_nil))))))
    (pss_cons (ps_if (PW.pt (pw_or (pt_cmpR op_ne (pv 4) pe_str (nomark _)) (pw_or1 (pt_cmpR op_ne (pv 7) pe_str (nomark _)))))
      (pss_one (ps_raiseE rfl TE.np hr (takes_of rfl rfl rfl rfl) (pa_cons (pv 2) pa_nil) rfl))
      pss_nil)
    (pss_one (ps_expr (pe_bm PySem.F.plainAttrs_list PySem.F.slot_list_append PySem.F.type_list_append mt_append (pv 1) (pa_cons (pe_tup (pa_cons (pv 5) (pa_cons (pv 6) pa_nil))) pa_nil)))))))
  (pss_one (ps_ret (pv 1))))), ?_⟩)
  · obtain ⟨v, n, ls, rfl, _⟩ := h
    rfl
  · obtain ⟨v, n, ls, rfl, hv, hok, hl60, k⟩ := h
    obtain ⟨a, xs, rfl, ha, hx⟩ := hv.list_inv
    have hxl : xs.length = ls.length := by rw [hx.len, List.length_map]
    refine ⟨Nat.zero_le _, fun r hr0 => ?_⟩
    have S0 : Same H (upd H r (.lst [])) := .new hr0
    refine ⟨_, rfl, a, _, rfl, SqL.of (S0 _ _ ha), for_enumL (K := K) (a := a) (xs := xs) (fun i σ H2 => Same H H2 ∧ (∃ v2 v3 v4 v5 v6 v7, σ = [some (.ref a), some (.ref r), v2, v3, v4, v5, v6, v7]) ∧ (∀ j, j < i → ∀ y, ls[j]? = some y → y.plain = true) ∧ ∃ zs, H2 r = some (.lst zs) ∧ DtAll (wo H2 r) zs (((ls.take i).map LnX.lk).map lkD)) ⟨S0, ⟨_, _, _, _, _, _, rfl⟩, fun j h => absurd h (Nat.not_lt_zero _), [], upd_same, .nil⟩ (fun i σ H2 z => SqL.of (z.1 _ _ ha)) ?_ ?_⟩
    · rintro i x T' σ H2 hxi ⟨S2, ⟨v2, v3, v4, v5, v6, v7, rfl⟩, hpl, zs, hz, hzs⟩ hT
      obtain ⟨l, hl, hd⟩ := quads_at hx hxi
      have hil := get_lt hl
      have hlok := hok l (List.mem_of_getElem? hl)
      obtain ⟨op, t, s', g, rfl⟩ := ok_quad hlok
      obtain ⟨q, rfl, hq⟩ := quad_inv hd
      have S3 : Same H2 (upd H2 T' (.tup [.int (i : Nat), .ref q])) := .new hT
      have hq3 := (S2.trans S3) _ _ hq
      refine ⟨T', _, rfl, SqT.of upd_same, rfl, _, _, rfl, _, _, rfl, rfl, ?_⟩
      refine ⟨_, rfl, q, _, rfl, SqT.of hq3, rfl, _, _, rfl, _, _, rfl, _, _, rfl, _, _, rfl, rfl, ?_⟩
      refine ⟨_, rfl, rfl, _, rfl, ?_⟩
      by_cases c1 : op = "copy"
      · rw [decide_eq_true (show V.str op = V.str "copy" by rw [c1])]
        refine iteF ?_
        refine ⟨_, rfl, rfl, _, rfl, ?_⟩
        by_cases c2 : g = ""
        · rw [decide_eq_true (show V.str g = V.str "" by rw [c2])]
          refine iteF ?_
          have hp : (LnX.quad op t s' g).plain = true := by simp [LnX.plain, c1, c2]
          obtain ⟨e, o1, o2, o3⟩ := ok_plain hlok hp
          have et : t = (((LnX.quad op t s' g).lk.1 : Nat) : Int) := by injection e
          have es : s' = (((LnX.quad op t s' g).lk.2 : Nat) : Int) := by injection e
          refine ⟨_, rfl, .inl ⟨rfl, _, SqL.of (S3 _ _ hz)⟩, _, rfl, _, rfl, (by show 2 ≤ sizeLine; decide), fun y hy => ?_⟩
          have S4 : Same (upd H2 T' (.tup [.int (i : Nat), .ref q])) (upd (upd H2 T' (.tup [.int (i : Nat), .ref q])) y (.tup [.int t, .int s'])) := .new hy
          have hz4 := S4 _ _ (S3 _ _ hz)
          have hyr : y ≠ r := fun z => by
            rw [z] at hy
            have := S3 _ _ hz
            rw [hy] at this
            cases this
          refine ⟨r, _, _, rfl, rfl, hz4, small_line ?_, ((S2.trans S3).trans S4).mut hr0, ⟨_, _, _, _, _, _, rfl⟩, fun j hj y' hy' => ?_, _, upd_same, ?_⟩
          · rw [hzs.len, List.length_map, List.length_map, List.length_take]
            omega
          · by_cases e : j = i
            · rw [e, hl] at hy'
              cases hy'
              exact hp
            · exact hpl j (by omega) y' hy'
          · rw [wo_upd, take_succ_get hl, List.map_append, List.map_append]
            refine (hzs.to (wo_mono (S3.trans S4))).snoc (dt_lk ?_)
            rw [wo_ne hyr, upd_same, ← et, ← es]
        · rw [decide_eq_false (fun z => c2 (V.str.inj z))]
          refine iteT ?_
          rw [first_at hl (show (LnX.quad op t s' g).plain = false by simp [LnX.plain, c2]) hpl] at k
          exact ⟨_, rfl, i, rfl, by omega, by omega, fun d hd0 => k d _ ((S2.trans S3).to hd0) upd_same⟩
      · rw [decide_eq_false (fun z => c1 (V.str.inj z))]
        refine iteT (iteT ?_)
        rw [first_at hl (show (LnX.quad op t s' g).plain = false by simp [LnX.plain, c1]) hpl] at k
        exact ⟨_, rfl, i, rfl, by omega, by omega, fun d hd0 => k d _ ((S2.trans S3).to hd0) upd_same⟩
    · rintro σ H2 ⟨S2, ⟨v2, v3, v4, v5, v6, v7, rfl⟩, hpl, zs, hz, hzs⟩
      rw [hxl, List.take_of_length_le (Nat.le_refl _)] at hzs
      rw [first_all (fun j hj y hy => hpl j (by omega) y hy)] at k
      exact ⟨_, rfl, k r _ S2 (.lst hz (hzs.to wo_same))⟩
theorem ok_log (T : Txt K mg) (TE : Errs P K mg) : Okd P w K mg base (L2.CX P w) 5 "check_log" ["script", "blocks"] (spLog K) := by
  have c_check_script : Okd P w K mg base (L2.CX P w) 4 "check_script" ["script", "image"] (spScript K) := ok_script T TE
  have c_pairs : Okd P w K mg base (L2.CX P w) 2 "pairs" ["script"] (spPairs K) := ok_pairs T TE
  have c_home : Okd P w K mg base CX0 1 "home" ["blocks"] spHome := ok_home T
  refine okd_mk (st := s_check_log) T m_check_log sc_check_log (fun vs H Q E h => ?_) (fun _ _ _ _ _ _ us hl => match us, hl with | [_, _], _ => rfl) (fun f cdv A outer s H vs Q E hr h => ⟨_, (pss_cons (ps_expr (pe_cdX c_check_script hr (by decide) rfl (takes_of rfl rfl rfl rfl) (pa_cons (pv 0) (pa_cons (pe_cd c_home hr (by decide) rfl (pa_cons (pv 1) pa_nil)) pa_nil))))
  (pss_one (ps_ret (pe_cdX c_pairs hr (by decide) rfl (takes_of rfl rfl rfl rfl) (pa_cons (pv 0) pa_nil))))), ?_⟩)
  · obtain ⟨v, n, sc, rfl, _⟩ := h
    rfl
  · obtain ⟨v, n, sc, rfl, hn1, hn, hv, hsm, hsl, k⟩ := h
    refine ⟨_, rfl, _, rfl, n, rfl, by omega, fun p H1 S1 hp => ?_⟩
    refine ⟨v, p, n, sc, rfl, hn1, hn, hp, hv.to S1, hsm, hsl, ?_⟩
    cases ef : sc.fault n with
    | some i =>
      rw [Scr.out, ef] at k
      exact Raised.from (K := K) (pl := false) k S1
    | none =>
      intro H2 S2
      rw [Scr.out, ef] at k
      cases sc with
      | non => cases ef
      | tup ls => cases ef
      | lst ls =>
        have hl60 : ls.length ≤ 60 := by
          rw [Scr.fault] at ef
          by_cases c : 60 < ls.length
          · rw [if_pos c] at ef
            cases ef
          · omega
        have hall : firstBad (LnX.ok n) ls = none := by
          rw [Scr.fault, if_neg (by omega)] at ef
          cases z : firstBad (LnX.ok n) ls with
          | none => rfl
          | some j => rw [z] at ef; cases ef
        have S12 := S1.trans S2
        refine ⟨_, rfl, v, n, ls, rfl, hv.to S12, first_none hall, hl60, ?_⟩
        cases eb : firstBad LnX.plain ls with
        | some i =>
          have k' : Raised K true ((i : Nat) : Int) H E := by
            have eb' : firstBad LnX.plain (Scr.lst ls).lines = some i := eb
            rw [eb'] at k
            exact k
          exact k'.from S12
        | none =>
          intro r H3 S3 d
          have eb' : firstBad LnX.plain (Scr.lst ls).lines = none := eb
          rw [eb'] at k
          exact k r H3 (S12.trans S3) d
end
end Rw
/-! ## FSingle -/
namespace Rw
open PySem PySem.Spec PyProof.Rows L2
abbrev law_single_N : List Str := ["_law_lot", "_law_blocks", "_law_number"]
theorem sc_law_single : FnScope law_single_N ["_law_lot", "_law_blocks"] (defScope s_law_single) := ⟨rfl, rfl, rfl, by decide +kernel, rfl, by decide +kernel, by decide +kernel⟩
theorem m_law_single : d_law_single ∈ fn := List.mem_of_getElem? (i := 43) rfl
/-- the number of a lot with one number, or -2 -/
def spSingle : Sp := fun vs H Q _ => ∃ (m n : Nat), vs = [.int (m : Int), .int (n : Int)] ∧ n ≤ 100 ∧ Q (.int (Rd.sing n m)) H
theorem sing_step {n m i : Nat} (h : ∀ j, j < i → m ≠ 2 ^ j) (hi : i < n) (e : m = 2 ^ i) : Rd.sing n m = (i : Int) := by
  rw [e, Rd.sing_pow hi]
theorem sing_end {n m : Nat} (h : ∀ j, j < n → m ≠ 2 ^ j) : Rd.sing n m = -2 := by
  rcases Rd.sing_cases n m with e | ⟨v, e⟩
  · exact e
  · obtain ⟨h1, h2⟩ := Rd.sing_some e
    exact absurd h1 (h v h2)
section
variable {P : Program} {w : World} {K : PySem.W.Frag} {mg : Str → Option Value} {base : Heap}
theorem ok_single (T : Txt K mg) : Okd P w K mg base CX0 1 "_law_single" ["_law_lot", "_law_blocks"] spSingle := by
  refine okd0 (st := s_law_single) T m_law_single sc_law_single (fun vs H Q E h => ?_) (fun _ _ _ _ _ _ us hl => match us, hl with | [_, _], _ => rfl) (fun f cdv A outer s H vs Q E hr h => ⟨_, (pss_cons (ps_for PassesOwn.never rfl (pi_range1 (by rfl) T.b_range (pa_cons (pv 1) pa_nil)) (pg_name (i := 2) sc_law_single.nd rfl (Or.inl rfl))
    (pss_one (ps_if (pt_cmpR op_eq (pv 0) (pe_op op_shl1 pe_int (pv 2)) (nomark _))
      (pss_one (ps_ret (pv 2)))
      pss_nil)))
  (pss_one (ps_ret (pe_un un_neg pe_int)))), ?_⟩)
  · obtain ⟨m, n, rfl, _⟩ := h
    rfl
  · obtain ⟨m, n, rfl, hn, k⟩ := h
    refine ⟨_, rfl, n, rfl, by omega, by omega, ?_⟩
    refine for_rng (n := n) (fun i σ H' => H' = H ∧ (∃ v, σ = [some (.int m), some (.int n), v]) ∧ ∀ j, j < i → m ≠ 2 ^ j) ⟨rfl, ⟨_, rfl⟩, fun j hj => absurd hj (by omega)⟩ ?_ ?_
    · rintro i σ H' hi ⟨rfl, ⟨v, rfl⟩, hno⟩
      refine ⟨_, rfl, _, rfl, _, rfl, rfl, by omega, rfl, _, rfl, ?_⟩
      refine iteI (fun c => ?_) (fun c => ?_)
      · refine ⟨_, rfl, ?_⟩
        rw [sing_step hno hi (Int.ofNat.inj c)] at k
        exact k
      · refine ⟨rfl, ⟨_, rfl⟩, fun j hj => ?_⟩
        by_cases ej : j = i
        · subst ej
          exact fun z => c (by rw [z])
        · exact hno j (by omega)
    · rintro σ H' ⟨rfl, _, hno⟩
      refine ⟨_, rfl, ?_⟩
      have e := sing_end hno
      rw [e] at k
      exact k
end
end Rw
/-! ## FReach -/
namespace Rw
open PySem PySem.Spec PyProof.Rows L2
abbrev law_reach_N : List Str := ["_law_links_here", "_law_blocks", "_law_both", "_law_block", "_law_near", "_law_link", "_law_middle"]
theorem sc_law_reach : FnScope law_reach_N ["_law_links_here", "_law_blocks", "_law_both"] (defScope s_law_reach) := ⟨rfl, rfl, rfl, by decide +kernel, rfl, by decide +kernel, by decide +kernel⟩
theorem m_law_reach : d_law_reach ∈ fn := List.mem_of_getElem? (i := 36) rfl
def baseT (T : List Nat) (l : Lk) : List Nat := T.set l.2 (Rd.gL T l.2 ||| 2 ^ l.1)
theorem base_len : ∀ (ms : List Lk) (T : List Nat), (ms.foldl baseT T).length = T.length := by
  intro ms
  induction ms with
  | nil => intro T; rfl
  | cons l ms ih => intro T; rw [List.foldl_cons, ih, baseT, List.length_set]
theorem base_take {ls : List Lk} {T : List Nat} {j : Nat} {l : Lk} (h : ls[j]? = some l) : (ls.take (j + 1)).foldl baseT T = baseT ((ls.take j).foldl baseT T) l := by
  rw [take_succ_get h, List.foldl_append]
  rfl
def spReach : Sp := fun vs H Q _ => ∃ (vl : V) (n : Nat) (ls : List Lk), vs = [vl, .int (n : Int), .bl false] ∧ n ≤ 100 ∧ Rd.Okl n ls ∧ Dt H vl (lksD ls) ∧
  ∀ p H', Same H H' → H p = none → H' p = some (.lst (nV (Rd.W n ls n))) → Q (.ref p) H'
section
variable {P : Program} {w : World} {K : PySem.W.Frag} {mg : Str → Option Value} {base : Heap}
theorem ok_reach (T : Txt K mg) : Okd P w K mg base CX0 1 "_law_reach" ["_law_links_here", "_law_blocks", "_law_both"] spReach := by
  refine okd0 (st := s_law_reach) T m_law_reach sc_law_reach (fun vs H Q E h => ?_) (fun _ _ _ _ _ _ us hl => match us, hl with | [_, _, _], _ => rfl) (fun f cdv A outer s H vs Q E hr h => ⟨_, (pss_cons (ps_setLc (i := 4) (own := [("_law_block", 3)]) (g := (gName 3)) (tt := tYes) rfl sc_law_reach.nd rfl rfl (sw_true rfl rfl rfl (by decide +kernel)) (pi_range1 (by rfl) T.b_range (pa_cons (pv 1) pa_nil)) (blkOk_by (N := law_reach_N) (sc := defScope s_law_reach) (by decide +kernel)) (fun _ _ _ _ _ => (pg_name (i := 3) sc_law_reach.nd rfl (Or.inl rfl))) (fun _ _ _ _ _ => pts_nil) (fun _ _ _ _ _ => (pe_op op_shl1 pe_int (pv 3))))
  (pss_cons (ps_for PassesOwn.never rfl (pi_list (pv 0)) (pg_name (i := 5) sc_law_reach.nd rfl (Or.inl rfl))
    (pss_cons (ps_asg (pe_op op_orN (pe_ix ix_list (pv 4) (pe_ix ix_tup (pv 5) pe_int (fun _ _ => rfl)) (fun _ _ => rfl)) (pe_op op_shl1 pe_int (pe_ix ix_tup (pv 5) pe_int (fun _ _ => rfl)))) (pg_sub (pv 4) (pe_ix ix_tup (pv 5) pe_int (fun _ _ => rfl)) set_list))
    (pss_one (ps_if (pt_val (pv 2))
      (pss_one (ps_asg (pe_op op_orN (pe_ix ix_list (pv 4) (pe_ix ix_tup (pv 5) pe_int (fun _ _ => rfl)) (fun _ _ => rfl)) (pe_op op_shl1 pe_int (pe_ix ix_tup (pv 5) pe_int (fun _ _ => rfl)))) (pg_sub (pv 4) (pe_ix ix_tup (pv 5) pe_int (fun _ _ => rfl)) set_list)))
      pss_nil))))
  (pss_cons (ps_for PassesOwn.never rfl (pi_range1 (by rfl) T.b_range (pa_cons (pv 1) pa_nil)) (pg_name (i := 6) sc_law_reach.nd rfl (Or.inl rfl))
    (pss_one (ps_for PassesOwn.never rfl (pi_range1 (by rfl) T.b_range (pa_cons (pv 1) pa_nil)) (pg_name (i := 3) sc_law_reach.nd rfl (Or.inl rfl))
      (pss_one (ps_if (pt_cmpR op_eq (pe_op op_andN (pe_op op_shrB (pe_ix ix_list (pv 4) (pv 3) (fun _ _ => rfl)) (pv 6)) pe_int) pe_int (nomark _))
        (pss_one (ps_asg (pe_op op_orN (pe_ix ix_list (pv 4) (pv 3) (fun _ _ => rfl)) (pe_ix ix_list (pv 4) (pv 6) (fun _ _ => rfl))) (pg_sub (pv 4) (pv 3) set_list)))
        pss_nil)))))
  (pss_one (ps_ret (pv 4)))))), ?_⟩)
  · obtain ⟨vl, n, ls, rfl, _⟩ := h
    rfl
  · obtain ⟨vl, n, ls, rfl, hn, ho, hv, k⟩ := h
    obtain ⟨a, xs, rfl, ha, hxl, hx⟩ := lks_inv hv
    refine ⟨_, rfl, n, rfl, by omega, by omega, fun p hp0 => ?_⟩
    refine lc_rng (n := n) (fun i H1 => Same H H1 ∧ H1 p = some (.lst (nV ((List.range i).map fun b => 2 ^ b)))) ⟨.new hp0, upd_same⟩ ?_ ?_
    · rintro i H1 hi ⟨S, h1⟩
      refine ⟨rfl, _, rfl, i, rfl, rfl, by omega, _, h1, ?_, S.mut hp0, ?_⟩
      · rw [nV_len, List.length_map, List.length_range]
        exact small_line (by omega)
      · rw [upd_same, home_succ, nV_snoc]
    · rintro H1 ⟨S, h1⟩
      refine ⟨_, rfl, a, rfl, ⟨_, SqL.of (S _ _ ha)⟩, for_list (K := K) (a := a) (xs := xs) (fun j σ H2 => (∃ v3 v5 v6, σ = [some (.ref a), some (.int n), some (.bl false), v3, some (.ref p), v5, v6]) ∧ Same H H2 ∧ H2 p = some (.lst (nV ((ls.take j).foldl baseT (Rd.home n))))) ⟨⟨_, _, _, rfl⟩, S, h1⟩ ?_ ?_ ?_⟩
      · rintro j σ H2 _ ⟨_, S2, _⟩
        exact SqL.of (S2 _ _ ha)
      · rintro j x σ H2 hxj ⟨⟨v3, v5, v6, rfl⟩, S2, hp2⟩
        obtain ⟨q, l, rfl, hlj, hq⟩ := hx j x hxj
        obtain ⟨o1, o2, o3⟩ := ho l (List.mem_of_getElem? hlj)
        have hq2 := S2 _ _ hq
        have hlen : ((ls.take j).foldl baseT (Rd.home n)).length = n := by rw [base_len, Rd.len_home]
        have e2 := nV_at (L := (ls.take j).foldl baseT (Rd.home n)) (b := l.2) (by omega)
        refine ⟨_, rfl, _, rfl, q, _, _, _, rfl, rfl, SqT.of hq2, rfl, p, _, _, _, rfl, rfl, SqL.of hp2, e2, _, rfl, q, _, _, _, rfl, rfl, SqT.of hq2, rfl, _, rfl, rfl, by omega, _, _, rfl, rfl, ?_⟩
        refine ⟨_, rfl, _, rfl, q, _, _, _, rfl, rfl, SqT.of hq2, rfl, p, _, _, l.2, rfl, rfl, hp2, ix_nat (by rw [nV_len]; omega), ?_⟩
        refine ⟨_, rfl, false, rfl, iteF ⟨⟨_, _, _, rfl⟩, S2.mut hp0, ?_⟩⟩
        rw [upd_same, base_take hlj, nV_set]
        rfl
      · rintro σ H2 ⟨⟨v3, v5, v6, rfl⟩, S2, hp2⟩
        rw [List.take_of_length_le (show ls.length ≤ xs.length by omega)] at hp2
        have hp2' : H2 p = some (.lst (nV (Rd.W n ls 0))) := hp2
        refine ⟨_, rfl, n, rfl, by omega, by omega, ?_⟩
        refine for_rng (n := n) (fun m σ H3 => (∃ v3 v5 v6, σ = [some (.ref a), some (.int n), some (.bl false), v3, some (.ref p), v5, v6]) ∧ Same H H3 ∧ H3 p = some (.lst (nV (Rd.W n ls m)))) ⟨⟨_, _, _, rfl⟩, S2, hp2'⟩ ?_ ?_
        · rintro m σ H3 hm ⟨⟨v3, v5, v6, rfl⟩, S3, hp3⟩
          have hW : (Rd.W n ls m).length = n := Rd.len_W n ls m
          refine ⟨_, rfl, n, rfl, by omega, by omega, ?_⟩
          refine for_rng (n := n) (fun b σ H4 => (∃ v3 v5, σ = [some (.ref a), some (.int n), some (.bl false), v3, some (.ref p), v5, some (.int m)]) ∧ Same H H4 ∧ H4 p = some (.lst (nV ((List.range b).foldl (Rd.wstI m) (Rd.W n ls m))))) ⟨⟨_, _, rfl⟩, S3, hp3⟩ ?_ ?_
          · rintro b σ H4 hb ⟨⟨v3, v5, rfl⟩, S4, hp4⟩
            have hlen : ((List.range b).foldl (Rd.wstI m) (Rd.W n ls m)).length = n := by rw [(Rd.wstI_row (m := m) b (Rd.W n ls m) (by omega)).2, hW]
            have es : (List.range (b + 1)).foldl (Rd.wstI m) (Rd.W n ls m) = Rd.wstI m ((List.range b).foldl (Rd.wstI m) (Rd.W n ls m)) b := by
              rw [List.range_succ, List.foldl_append]
              rfl
            rw [es]
            generalize (List.range b).foldl (Rd.wstI m) (Rd.W n ls m) = T0 at hp4 hlen ⊢
            have e1 := nV_at (L := T0) (b := b) (by omega)
            have e2 := nV_at (L := T0) (b := m) (by omega)
            refine ⟨_, rfl, _, rfl, p, _, _, _, rfl, rfl, SqL.of hp4, e1, _, rfl, _, _, rfl, rfl, _, 1, rfl, rfl, rfl, _, rfl, ?_⟩
            refine iteI (fun c => ?_) (fun c => ?_)
            · have c2 := tb_iff.mp c
              refine ⟨_, rfl, _, rfl, p, _, _, _, rfl, rfl, SqL.of hp4, e1, _, rfl, _, rfl, p, _, _, _, rfl, rfl, SqL.of hp4, e2, _, _, rfl, rfl, ?_⟩
              refine ⟨_, rfl, _, rfl, p, _, _, b, rfl, rfl, hp4, ix_nat (by rw [nV_len]; omega), ?_⟩
              refine ⟨⟨_, _, rfl⟩, S4.mut hp0, ?_⟩
              rw [upd_same, nV_set, Rd.wstI, if_pos c2]
            · have c2 : ¬ (Rd.gL T0 b).testBit m = true := fun z => c (tb_iff.mpr z)
              refine ⟨⟨_, _, rfl⟩, S4, ?_⟩
              rw [Rd.wstI, if_neg c2]
              exact hp4
          · rintro σ H4 ⟨⟨v3, v5, rfl⟩, S4, hp4⟩
            have e := Rd.wstI_all (m := m) (Rd.W n ls m)
            rw [hW] at e
            rw [e] at hp4
            exact ⟨⟨_, _, _, rfl⟩, S4, hp4⟩
        · rintro σ H3 ⟨⟨v3, v5, v6, rfl⟩, S3, hp3⟩
          exact ⟨_, rfl, k p _ S3 hp0 hp3⟩
end
end Rw
/-! ## FClosed -/
namespace Rw
open PySem PySem.Spec PyProof.Rows L2
abbrev law_closed_N : List Str := ["_law_lots", "_law_links_here", "_law_blocks", "_law_turn", "_law_grown_here", "_law_link", "_law_joined"]
theorem sc_law_closed : FnScope law_closed_N ["_law_lots", "_law_links_here", "_law_blocks"] (defScope s_law_closed) := ⟨rfl, rfl, rfl, by decide +kernel, rfl, by decide +kernel, by decide +kernel⟩
theorem m_law_closed : d_law_closed ∈ fn := List.mem_of_getElem? (i := 38) rfl
theorem join1_same {L : List Nat} {l : Lk} (h : Rd.gL L l.1 ||| Rd.gL L l.2 = Rd.gL L l.1) : Rd.join1 L l = L := by
  rw [Rd.join1, h]
  refine Rd.list_gL (by simp) fun b _ => ?_
  by_cases e : b = l.1
  · subst e
    by_cases c : l.1 < L.length
    · rw [Rd.gL_set_self c]
    · rw [Rd.gL_out (by simp; omega), Rd.gL_out (by omega)]
  · rw [Rd.gL_set_ne e]
/-- the lots at p are closed under the links -/
def spClosed : Sp := fun vs H Q _ => ∃ (p : Addr) (vl : V) (n : Nat) (ls : List Lk) (L : List Nat) (H0 : Hp), vs = [.ref p, vl, .int (n : Int)] ∧ n ≤ 100 ∧ Rd.Okl n ls ∧ L.length = n ∧ Same H0 H ∧ H0 p = none ∧ H p = some (.lst (nV L)) ∧ Dt H0 vl (lksD ls) ∧
  ∀ H', Same H0 H' → H' p = some (.lst (nV (Rd.clo n ls L))) → Q (.ref p) H'
theorem pass_take {ls : List Lk} {L : List Nat} {j : Nat} {l : Lk} (h : ls[j]? = some l) : Rd.pass (ls.take (j + 1)) L = Rd.join1 (Rd.pass (ls.take j) L) l := by
  rw [take_succ_get h, Rd.pass, List.foldl_append]
  rfl
section
variable {P : Program} {w : World} {K : PySem.W.Frag} {mg : Str → Option Value} {base : Heap}
theorem ok_closed (T : Txt K mg) : Okd P w K mg base CX0 1 "_law_closed" ["_law_lots", "_law_links_here", "_law_blocks"] spClosed := by
  refine okd0 (st := s_law_closed) T m_law_closed sc_law_closed (fun vs H Q E h => ?_) (fun _ _ _ _ _ _ us hl => match us, hl with | [_, _, _], _ => rfl) (fun f cdv A outer s H vs Q E hr h => ⟨_, (pss_cons (ps_for PassesOwn.never rfl (pi_range1 (by rfl) T.b_range (pa_cons (pv 2) pa_nil)) (pg_name (i := 3) sc_law_closed.nd rfl (Or.inl rfl))
    (pss_cons (ps_set (i := 4) sc_law_closed.nd rfl (Or.inl rfl) pe_bl)
    (pss_cons (ps_for PassesOwn.never rfl (pi_list (pv 1)) (pg_name (i := 5) sc_law_closed.nd rfl (Or.inl rfl))
      (pss_cons (ps_set (i := 6) sc_law_closed.nd rfl (Or.inl rfl) (pe_op op_orN (pe_ix ix_list (pv 0) (pe_ix ix_tup (pv 5) pe_int (fun _ _ => rfl)) (fun _ _ => rfl)) (pe_ix ix_list (pv 0) (pe_ix ix_tup (pv 5) pe_int (fun _ _ => rfl)) (fun _ _ => rfl))))
      (pss_one (ps_if (pt_cmpR op_ne (pv 6) (pe_ix ix_list (pv 0) (pe_ix ix_tup (pv 5) pe_int (fun _ _ => rfl)) (fun _ _ => rfl)) (nomark _))
        (pss_cons (ps_asg (pv 6) (pg_sub (pv 0) (pe_ix ix_tup (pv 5) pe_int (fun _ _ => rfl)) set_list))
        (pss_one (ps_set (i := 4) sc_law_closed.nd rfl (Or.inl rfl) pe_bl)))
        pss_nil))))
    (pss_one (ps_if (pt_not (pt_val (pv 4)))
      (pss_one ps_break)
      pss_nil)))))
  (pss_one (ps_ret (pv 0)))), ?_⟩)
  · obtain ⟨p, vl, n, ls, L, H0, rfl, _⟩ := h
    rfl
  · obtain ⟨p, vl, n, ls, L, H0, rfl, hn, ho, hL, S, hp0, hp, hv, k⟩ := h
    obtain ⟨a, xs, rfl, ha, hxl, hx⟩ := lks_inv hv
    refine ⟨_, rfl, n, rfl, by omega, by omega, ?_⟩
    refine for_rng (n := n) (fun i σ H' => (∃ v3 v4 v5 v6, σ = [some (.ref p), some (.ref a), some (.int n), v3, v4, v5, v6]) ∧ Same H0 H' ∧ H' p = some (.lst (nV (Rd.it ls i L)))) ⟨⟨_, _, _, _, rfl⟩, S, hp⟩ ?_ ?_
    · rintro i σ H' hi ⟨⟨v3, v4, v5, v6, rfl⟩, S', hp'⟩
      have hli : (Rd.it ls i L).length = n := by rw [Rd.len_it, hL]
      refine ⟨_, rfl, a, rfl, ⟨_, SqL.of (S' _ _ ha)⟩, for_list (K := K) (a := a) (xs := xs) (fun j σ H2 => (∃ (b : Bool) (v5 v6 : Option V), σ = [some (.ref p), some (.ref a), some (.int n), some (.int i), some (.bl b), v5, v6] ∧ (b = false → Rd.pass (ls.take j) (Rd.it ls i L) = Rd.it ls i L)) ∧ Same H0 H2 ∧ H2 p = some (.lst (nV (Rd.pass (ls.take j) (Rd.it ls i L))))) ?_ ?_ ?_ ?_⟩
      · exact ⟨⟨false, _, _, rfl, fun _ => rfl⟩, S', hp'⟩
      · rintro j σ H2 _ ⟨_, S2, _⟩
        exact SqL.of (S2 _ _ ha)
      · rintro j x σ H2 hxj ⟨⟨b, v5, v6, rfl, hb⟩, S2, hp2⟩
        obtain ⟨q, l, rfl, hlj, hq⟩ := hx j x hxj
        obtain ⟨o1, o2, o3⟩ := ho l (List.mem_of_getElem? hlj)
        have hlen : (Rd.pass (ls.take j) (Rd.it ls i L)).length = n := by rw [Rd.len_pass, hli]
        have hq2 := S2 _ _ hq
        have e1 := nV_at (L := Rd.pass (ls.take j) (Rd.it ls i L)) (b := l.1) (by omega)
        have e2 := nV_at (L := Rd.pass (ls.take j) (Rd.it ls i L)) (b := l.2) (by omega)
        refine ⟨_, rfl, _, rfl, q, _, _, _, rfl, rfl, SqT.of hq2, rfl, p, _, _, _, rfl, rfl, SqL.of hp2, e1, _, rfl, _, rfl, q, _, _, _, rfl, rfl, SqT.of hq2, rfl, p, _, _, _, rfl, rfl, SqL.of hp2, e2, _, _, rfl, rfl, ?_⟩
        refine ⟨_, rfl, _, rfl, _, rfl, q, _, _, _, rfl, rfl, SqT.of hq2, rfl, p, _, _, _, rfl, rfl, SqL.of hp2, e1, rfl, _, rfl, ?_⟩
        refine iteNI (fun c => ?_) (fun c => ?_)
        · refine ⟨_, rfl, _, rfl, _, rfl, q, _, _, _, rfl, rfl, SqT.of hq2, rfl, p, _, _, l.1, rfl, rfl, hp2, ix_nat (by rw [nV_len]; omega), ?_⟩
          refine ⟨⟨true, _, _, rfl, fun z => nomatch z⟩, S2.mut hp0, ?_⟩
          rw [upd_same, pass_take hlj, nV_set]
          rfl
        · have c2 := join1_same (Int.ofNat.inj c)
          refine ⟨⟨b, _, _, rfl, fun z => ?_⟩, S2, ?_⟩
          · rw [pass_take hlj, c2]
            exact hb z
          · rw [pass_take hlj, c2]
            exact hp2
      · rintro σ H2 ⟨⟨b, v5, v6, rfl, hb⟩, S2, hp2⟩
        have et : ls.take xs.length = ls := List.take_of_length_le (by omega)
        rw [et] at hp2 hb
        refine ⟨_, rfl, b, rfl, ?_⟩
        refine iteB (fun c => ?_) (fun c => ?_)
        · have hb0 : b = false := by simpa using c
          have still := hb hb0
          rw [still, Rd.clo_of_still ho hL still] at hp2
          exact ⟨_, rfl, k _ S2 hp2⟩
        · exact ⟨⟨_, _, _, _, rfl⟩, S2, hp2⟩
    · rintro σ H' ⟨⟨v3, v4, v5, v6, rfl⟩, S', hp'⟩
      exact ⟨_, rfl, k _ S' hp'⟩
end
end Rw
/-! ## FLate -/
namespace Rw
open PySem PySem.Spec PyProof.Rows L2
abbrev law_strong_N : List Str := ["_law_near", "_law_block", "_law_found", "_law_other"]
theorem sc_law_strong : FnScope law_strong_N ["_law_near", "_law_block"] (defScope s_law_strong) := ⟨rfl, rfl, rfl, by decide +kernel, rfl, by decide +kernel, by decide +kernel⟩
theorem m_law_strong : d_law_strong ∈ fn := List.mem_of_getElem? (i := 37) rfl
abbrev law_late_N : List Str := ["_law_links_here", "_law_blocks", "_law_lots", "_law_k", "_law_block"]
theorem sc_law_late : FnScope law_late_N ["_law_links_here", "_law_blocks"] (defScope s_law_late) := ⟨rfl, rfl, rfl, by decide +kernel, rfl, by decide +kernel, by decide +kernel⟩
theorem m_law_late : d_law_late ∈ fn := List.mem_of_getElem? (i := 39) rfl
abbrev law_after_N : List Str := ["_law_image", "_law_link"]
theorem sc_law_after : FnScope law_after_N ["_law_image", "_law_link"] (defScope s_law_after) := ⟨rfl, rfl, rfl, by decide +kernel, rfl, by decide +kernel, by decide +kernel⟩
theorem m_law_after : d_law_after ∈ fn := List.mem_of_getElem? (i := 40) rfl
/-- the blocks within mutual reach, by the rows -/
def strongL (T : List Nat) (n b : Nat) : List Nat := (List.range n).filter fun o => (Rd.gL T b).testBit o && (Rd.gL T o).testBit b
def spStrong : Sp := fun vs H Q _ => ∃ (p : Addr) (n b : Nat) (T : List Nat), vs = [.ref p, .int (b : Int)] ∧ n ≤ 100 ∧ T.length = n ∧ b < n ∧ H p = some (.lst (nV T)) ∧
  ∀ r H', Same H H' → H' r = some (.tup (nV (strongL T n b))) → Q (.ref r) H'
def spLate : Sp := fun vs H Q _ => ∃ (vl : V) (n : Nat) (ls : List Lk), vs = [vl, .int (n : Int)] ∧ n ≤ 100 ∧ ls.length ≤ 1000 ∧ Rd.Okl n ls ∧ Dt H vl (lksD ls) ∧
  ∀ p H', Same H H' → H p = none → H' p = some (.lst (nV (Rd.late n ls))) → Q (.ref p) H'
/-- one line executed: a new image -/
def spAfter : Sp := fun vs H Q _ => ∃ (p q : Addr) (im : List Nat) (l : Lk), vs = [.ref p, .ref q] ∧ im.length ≤ 1000 ∧ l.1 < im.length ∧ l.2 < im.length ∧ H p = some (.tup (nV im)) ∧ H q = some (.tup [.int l.1, .int l.2]) ∧
  ∀ r H', Same H H' → H' r = some (.tup (nV (Rd.aft im l))) → Q (.ref r) H'
theorem aft_eq {im : List Nat} {l : Lk} (h : l.1 < im.length) : im.take l.1 ++ [Rd.gL im l.2] ++ im.drop (l.1 + 1) = Rd.aft im l := by
  rw [Rd.aft, List.set_eq_take_append_cons_drop, if_pos h, List.append_assoc]
  rfl
section
variable {P : Program} {w : World} {K : PySem.W.Frag} {mg : Str → Option Value} {base : Heap}
theorem ok_strong (T : Txt K mg) : Okd P w K mg base CX0 1 "_law_strong" ["_law_near", "_law_block"] spStrong := by
  refine okd0 (st := s_law_strong) T m_law_strong sc_law_strong (fun vs H Q E h => ?_) (fun _ _ _ _ _ _ us hl => match us, hl with | [_, _], _ => rfl) (fun f cdv A outer s H vs Q E hr h => ⟨_, (pss_cons (ps_set (i := 2) sc_law_strong.nd rfl (Or.inl rfl) (pe_lst pa_nil))
  (pss_cons (ps_for PassesOwn.never rfl (pi_range1 (by rfl) T.b_range (pa_cons (pe_callB call_len_seq (by rfl) T.b_len PySem.boot_len (pa_cons (pv 0) pa_nil)) pa_nil)) (pg_name (i := 3) sc_law_strong.nd rfl (Or.inl rfl))
    (pss_one (ps_if (PW.pt (pw_and (pt_cmpR op_eq (pe_op op_andN (pe_op op_shrB (pe_ix ix_list (pv 0) (pv 1) (fun _ _ => rfl)) (pv 3)) pe_int) pe_int (nomark _)) (pw_and1 (pt_cmpR op_eq (pe_op op_andN (pe_op op_shrB (pe_ix ix_list (pv 0) (pv 3) (fun _ _ => rfl)) (pv 1)) pe_int) pe_int (nomark _)))))
      (pss_one (ps_expr (pe_bm PySem.F.plainAttrs_list PySem.F.slot_list_append PySem.F.type_list_append mt_append (pv 2) (pa_cons (pv 3) pa_nil))))
      pss_nil)))
  (pss_one (ps_ret (pe_callTy call_tuple_of (by rfl) T.b_tuple (by decide +kernel) (pa_cons (pv 2) pa_nil)))))), ?_⟩)
  · obtain ⟨p, n, b, T, rfl, _⟩ := h
    rfl
  · obtain ⟨p, n, b, R, rfl, hn, hR, hb, hp, k⟩ := h
    refine ⟨Nat.zero_le _, fun d hd => ?_⟩
    have hlen : (nV R).length = n := by rw [nV_len, hR]
    refine ⟨_, rfl, p, _, rfl, .inl (SqL.of (Same.new hd p _ hp)), (nV R).length, rfl, by omega, by omega, ?_⟩
    rw [hlen]
    refine for_rng (n := n) (fun i σ H1 => (∃ v3, σ = [some (.ref p), some (.int b), some (.ref d), v3]) ∧ Same H H1 ∧ H1 d = some (.lst (nV ((List.range i).filter fun o => (Rd.gL R b).testBit o && (Rd.gL R o).testBit b)))) ⟨⟨_, rfl⟩, .new hd, upd_same⟩ ?_ ?_
    · rintro i σ H1 hi ⟨⟨v3, rfl⟩, S, h1⟩
      have hp1 := S _ _ hp
      have e1 := nV_at (L := R) (b := b) (by omega)
      have e2 := nV_at (L := R) (b := i) (by omega)
      rw [List.range_succ, List.filter_append]
      refine ⟨_, rfl, _, rfl, p, _, _, _, rfl, rfl, SqL.of hp1, e1, _, rfl, _, _, rfl, rfl, _, 1, rfl, rfl, rfl, _, rfl, ?_⟩
      refine iteI (fun c => ?_) (fun c => ?_)
      · refine ⟨_, rfl, _, rfl, p, _, _, _, rfl, rfl, SqL.of hp1, e2, _, rfl, _, _, rfl, rfl, _, 1, rfl, rfl, rfl, _, rfl, ?_⟩
        refine iteI (fun c2 => ?_) (fun c2 => ?_)
        · refine ⟨_, rfl, .inl ⟨rfl, _, SqL.of h1⟩, _, rfl, d, _, _, rfl, rfl, h1, small_line ?_, ⟨_, rfl⟩, S.mut hd, ?_⟩
          · rw [nV_len]
            have := List.length_filter_le (fun o => (Rd.gL R b).testBit o && (Rd.gL R o).testBit b) (List.range i)
            rw [List.length_range] at this
            omega
          · rw [upd_same, nV_snoc, List.filter_cons_of_pos (by rw [tb_iff.mp c, tb_iff.mp c2]; rfl)]
            rfl
        · refine ⟨⟨_, rfl⟩, S, ?_⟩
          have c3 : (Rd.gL R i).testBit b = false := by
            cases z : (Rd.gL R i).testBit b with
            | false => rfl
            | true => exact absurd (tb_iff.mpr z) c2
          rw [List.filter_cons_of_neg (by rw [c3]; simp), List.filter_nil, List.append_nil]
          exact h1
      · refine iteF ?_
        refine ⟨⟨_, rfl⟩, S, ?_⟩
        have c3 : (Rd.gL R b).testBit i = false := by
          cases z : (Rd.gL R b).testBit i with
          | false => rfl
          | true => exact absurd (tb_iff.mpr z) c
        rw [List.filter_cons_of_neg (by rw [c3]; simp), List.filter_nil, List.append_nil]
        exact h1
    · rintro σ H1 ⟨⟨v3, rfl⟩, S, h1⟩
      exact ⟨_, rfl, d, _, rfl, .inl ⟨SqL.of h1, fun r hr' => k r _ (S.to hr') upd_same⟩⟩
theorem ok_late (T : Txt K mg) : Okd P w K mg base CX0 2 "_law_late" ["_law_links_here", "_law_blocks"] spLate := by
  have c_law_closed : Okd P w K mg base CX0 1 "_law_closed" ["_law_lots", "_law_links_here", "_law_blocks"] spClosed := ok_closed T
  refine okd0 (st := s_law_late) T m_law_late sc_law_late (fun vs H Q E h => ?_) (fun _ _ _ _ _ _ us hl => match us, hl with | [_, _], _ => rfl) (fun f cdv A outer s H vs Q E hr h => ⟨_, (pss_cons (ps_setLc (i := 2) (own := [("_law_block", 4)]) (g := (gName 4)) (tt := tYes) rfl sc_law_late.nd rfl rfl (sw_true rfl rfl rfl (by decide +kernel)) (pi_range1 (by rfl) T.b_range (pa_cons (pv 1) pa_nil)) (blkOk_by (N := law_late_N) (sc := defScope s_law_late) (by decide +kernel)) (fun _ _ _ _ _ => (pg_name (i := 4) sc_law_late.nd rfl (Or.inl rfl))) (fun _ _ _ _ _ => pts_nil) (fun _ _ _ _ _ => (pe_op op_shl1 pe_int (pv 4))))
  (pss_cons (ps_for PassesOwn.never rfl (pi_range1 (by rfl) T.b_range (pa_cons (pe_callB call_len_seq (by rfl) T.b_len PySem.boot_len (pa_cons (pv 0) pa_nil)) pa_nil)) (pg_name (i := 3) sc_law_late.nd rfl (Or.inl rfl))
    (pss_cons (ps_asg (pe_ix ix_list (pv 2) (pe_ix ix_tup (pe_ix ix_list (pv 0) (pv 3) (fun _ _ => rfl)) pe_int (fun _ _ => rfl)) (fun _ _ => rfl)) (pg_sub (pv 2) (pe_ix ix_tup (pe_ix ix_list (pv 0) (pv 3) (fun _ _ => rfl)) pe_int (fun _ _ => rfl)) set_list))
    (pss_one (ps_set (i := 2) sc_law_late.nd rfl (Or.inl rfl) (pe_cd c_law_closed hr (by decide) rfl (pa_cons (pv 2) (pa_cons (pe_slice sl_list (pv 0) po_none (po_some (pe_op op_add (pv 3) pe_int))) (pa_cons (pv 1) pa_nil))))))))
  (pss_one (ps_ret (pv 2))))), ?_⟩)
  · obtain ⟨vl, n, ls, rfl, _⟩ := h
    rfl
  · obtain ⟨vl, n, ls, rfl, hn, hll, ho, hv, k⟩ := h
    obtain ⟨a, xs, rfl, ha, hxl, hd, hx⟩ := lks_dt hv
    refine ⟨_, rfl, n, rfl, by omega, by omega, fun p hp0 => ?_⟩
    refine lc_rng (n := n) (fun i H1 => Same H H1 ∧ H1 p = some (.lst (nV ((List.range i).map fun b => 2 ^ b)))) ⟨.new hp0, upd_same⟩ ?_ ?_
    · rintro i H1 hi ⟨S, h1⟩
      refine ⟨rfl, _, rfl, i, rfl, rfl, by omega, _, h1, ?_, S.mut hp0, ?_⟩
      · rw [nV_len, List.length_map, List.length_range]
        exact small_line (by omega)
      · rw [upd_same, home_succ, nV_snoc]
    · rintro H1 ⟨S, h1⟩
      refine ⟨_, rfl, a, _, rfl, .inl (SqL.of (S _ _ ha)), xs.length, rfl, by omega, by omega, ?_⟩
      rw [hxl]
      refine for_rng (n := ls.length) (fun i σ H2 => (∃ v3 v4, σ = [some (.ref a), some (.int n), some (.ref p), v3, v4]) ∧ Same H H2 ∧ H2 p = some (.lst (nV (Rd.lateF n ls i)))) ⟨⟨_, _, rfl⟩, S, h1⟩ ?_ ?_
      · rintro i σ H2 hi ⟨⟨v3, v4, rfl⟩, S2, hp2⟩
        obtain ⟨l, hli⟩ : ∃ l, ls[i]? = some l := ⟨ls[i], List.getElem?_eq_getElem hi⟩
        obtain ⟨q, hat, hq⟩ := lk_at hd hli
        obtain ⟨o1, o2, o3⟩ := ho l (List.mem_of_getElem? hli)
        have hlen : (Rd.lateF n ls i).length = n := Rd.len_lateF n ls i
        have hq2 := S2 _ _ hq
        have ha2 := S2 _ _ ha
        have e2 := nV_at (L := Rd.lateF n ls i) (b := l.2) (by omega)
        refine ⟨_, rfl, _, rfl, _, rfl, a, _, _, _, rfl, rfl, SqL.of ha2, hat, q, _, _, _, rfl, rfl, SqT.of hq2, rfl, p, _, _, _, rfl, rfl, SqL.of hp2, e2, ?_⟩
        refine ⟨_, rfl, _, rfl, _, rfl, a, _, _, _, rfl, rfl, SqL.of ha2, hat, q, _, _, _, rfl, rfl, SqT.of hq2, rfl, p, _, _, l.1, rfl, rfl, hp2, ix_nat (by rw [nV_len]; omega), ?_⟩
        rw [nV_set]
        generalize hL3 : (Rd.lateF n ls i).set l.1 (Rd.gL (Rd.lateF n ls i) l.2) = L3
        have hlen3 : L3.length = n := by rw [← hL3, List.length_set, hlen]
        have S3 : Same H (upd H2 p (.lst (nV L3))) := S2.mut hp0
        have hp3 : upd H2 p (.lst (nV L3)) p = some (.lst (nV L3)) := upd_same
        generalize upd H2 p (.lst (nV L3)) = H3 at S3 hp3 ⊢
        refine ⟨_, rfl, _, rfl, _, rfl, _, _, rfl, rfl, _, rfl, a, _, rfl, SqL.of (S3 _ _ ha), fun z hz => ?_⟩
        have ek : ((i : Int) + 1) = ((i + 1 : Nat) : Int) := by omega
        rw [ek, cut_take]
        have hzp : z ≠ p := (ne_of_none hp3 hz).symm
        have S4 : Same H (upd H3 z (.lst (xs.take (i + 1)))) := S3.to hz
        refine ⟨_, rfl, p, .ref z, n, ls.take (i + 1), L3, wo (upd H3 z (.lst (xs.take (i + 1)))) p, rfl, hn, ho.take _, hlen3, wo_same, wo_self, by rw [upd_ne hzp.symm]; exact hp3, ?_, fun H5 S5 hp5 => ?_⟩
        · refine dt_list_at (by rw [wo_ne hzp, upd_same]) ?_
          rw [List.map_take]
          exact (hd.take (i + 1)).to (same_wo S4 hp0)
        · refine ⟨⟨_, _, rfl⟩, (same_wo S4 hp0).trans S5, ?_⟩
          have el : ls.getD i (0, 0) = l := by rw [List.getD_eq_getElem?_getD, hli]; rfl
          rw [hp5, Rd.lateF, el, hL3]
      · rintro σ H2 ⟨⟨v3, v4, rfl⟩, S2, hp2⟩
        exact ⟨_, rfl, k p _ S2 hp0 hp2⟩
theorem ok_after (T : Txt K mg) : Okd P w K mg base CX0 1 "_law_after" ["_law_image", "_law_link"] spAfter := by
  refine okd0 (st := s_law_after) T m_law_after sc_law_after (fun vs H Q E h => ?_) (fun _ _ _ _ _ _ us hl => match us, hl with | [_, _], _ => rfl) (fun f cdv A outer s H vs Q E hr h => ⟨_, (pss_one (ps_ret (pe_op op_catA (pe_op op_catA (pe_slice sl_tupA (pv 0) po_none (po_some (pe_ix ix_tup (pv 1) pe_int (fun _ _ => rfl)))) (pe_tup (pa_cons (pe_ix ix_tup (pv 0) (pe_ix ix_tup (pv 1) pe_int (fun _ _ => rfl)) (fun _ _ => rfl)) pa_nil))) (pe_slice sl_tupA (pv 0) (po_some (pe_op op_add (pe_ix ix_tup (pv 1) pe_int (fun _ _ => rfl)) pe_int)) po_none)))), ?_⟩)
  · obtain ⟨p, q, im, l, rfl, _⟩ := h
    rfl
  · obtain ⟨p, q, im, l, rfl, hl, h1, h2, hp, hq, k⟩ := h
    refine ⟨_, rfl, _, rfl, q, _, _, _, rfl, rfl, SqT.of hq, rfl, _, rfl, ?_⟩
    refine slA_any hp fun r1 H1 S1 hr1 => ?_
    rw [cut_take, nV_take] at hr1
    have e2 : atI (nV im) (l.2 : Int) = some (.int (Rd.gL im l.2 : Nat)) := nV_at h2
    refine ⟨_, rfl, _, rfl, q, _, _, _, rfl, rfl, SqT.of (S1 _ _ hq), rfl, p, _, _, _, rfl, rfl, SqT.of (S1 _ _ hp), e2, (by show 1 ≤ sizeLine; decide), fun t ht => ?_⟩
    have hr2 := Same.new (o := .tup [.int (Rd.gL im l.2 : Nat)]) ht r1 _ hr1
    have S2 := S1.to (o := .tup [.int (Rd.gL im l.2 : Nat)]) ht
    refine catA_any hr2 upd_same ?_ fun r3 H3 S3 hr3 => ?_
    · rw [nV_len, List.length_take]
      exact small_le (by simp; omega)
    have S13 := S2.trans S3
    refine ⟨_, rfl, _, rfl, q, _, _, _, rfl, rfl, SqT.of (S13 _ _ hq), rfl, _, _, rfl, rfl, _, rfl, ?_⟩
    show rSlA K (.ref p) (some ((l.1 : Int) + 1)) none H3 (fun y H2 => rCatA K (.ref r3) y H2 Q)
    refine slA_any (S13 _ _ hp) fun r4 H4 S4 hr4 => ?_
    have e4 : (l.1 : Int) + 1 = ((l.1 + 1 : Nat) : Int) := by omega
    rw [e4, cut_drop, nV_drop] at hr4
    refine catA_any (S4 _ _ hr3) hr4 ?_ fun r5 H5 S5 hr5 => ?_
    · rw [nV_len, List.length_drop, List.length_append, nV_len, List.length_take]
      exact small_le (by simp; omega)
    refine k r5 H5 ((S13.trans S4).trans S5) ?_
    rw [hr5, ← aft_eq h1, ← nV_append, ← nV_append]
    rfl
end
end Rw
/-! ## FSettled -/
namespace Rw
open PySem PySem.Spec PyProof.Rows L2
abbrev law_all_single_N : List Str := ["_law_lots", "_law_blocks", "_law_lot"]
theorem sc_law_all_single : FnScope law_all_single_N ["_law_lots", "_law_blocks"] (defScope s_law_all_single) := ⟨rfl, rfl, rfl, by decide +kernel, rfl, by decide +kernel, by decide +kernel⟩
theorem m_law_all_single : d_law_all_single ∈ fn := List.mem_of_getElem? (i := 45) rfl
abbrev law_settled_N : List Str := ["_law_links_here", "_law_lots", "_law_blocks", "_law_near", "_law_targets", "_law_found", "_law_block", "_law_turn", "_law_told", "_law_link"]
theorem sc_law_settled : FnScope law_settled_N ["_law_links_here", "_law_lots", "_law_blocks"] (defScope s_law_settled) := ⟨rfl, rfl, rfl, by decide +kernel, rfl, by decide +kernel, by decide +kernel⟩
theorem m_law_settled : d_law_settled ∈ fn := List.mem_of_getElem? (i := 44) rfl
def spAllSingle : Sp := fun vs H Q _ => ∃ (p : Addr) (n : Nat) (L : List Nat), vs = [.ref p, .int (n : Int)] ∧ n ≤ 100 ∧ L.length ≤ 1000 ∧ H p = some (.tup (nV L)) ∧ ∀ H', Same H H' → Q (.bl (Rd.ns n L == 0)) H'
theorem filter_take_succ {α : Type} {p : α → Bool} {l : List α} {i : Nat} {x : α} (h : l[i]? = some x) : (l.take (i + 1)).filter p = (l.take i).filter p ++ (if p x then [x] else []) := by
  rw [take_succ_get h, List.filter_append]
  congr 1
  by_cases c : p x <;> simp [c]
theorem decZ (m : Nat) : decide (V.int (m : Int) = V.int 0) = (m == 0) := by
  by_cases e : m = 0
  · subst e
    rfl
  · rw [decide_eq_false (fun z => e (by injection z with z; omega))]
    simp [e]
def oV : Option Int → V
  | none => .non
  | some i => .int i
def oVs (fs : List (Option Int)) : List V := fs.map oV
theorem oVs_at {fs : List (Option Int)} {b : Nat} (h : b < fs.length) : atI (oVs fs) (b : Int) = some (oV (Rd.fO fs b)) := by
  refine atI_nat ?_
  rw [oVs, List.getElem?_map, List.getElem?_eq_getElem h]
  simp [Rd.fO, List.getD_eq_getElem?_getD, h]
def spLSettled : Sp := fun vs H Q _ => ∃ (vl : V) (p : Addr) (n : Nat) (ls : List Lk) (L : List Nat), vs = [vl, .ref p, .int (n : Int)] ∧ n ≤ 100 ∧ ls.length ≤ 1000 ∧ Rd.Okl n ls ∧ Dt H vl (lksD ls) ∧ L.length = n ∧ H p = some (.lst (nV L)) ∧
  ∀ r H', Same H H' → H' r = some (.tup ((Rd.sv n ls L).map V.int)) → Q (.ref r) H'
theorem inV_ints {b : Int} {ms : List Int} : inV (.int b) (ms.map V.int) = decide (b ∈ ms) := by
  induction ms with
  | nil => simp [inV]
  | cons m ms ih =>
    have e : inV (.int b) (V.int m :: ms.map V.int) = ((m == b) || inV (.int b) (ms.map V.int)) := rfl
    rw [List.map_cons, e, ih]
    by_cases c : m = b
    · subst c
      simp
    · have c2 : ¬ b = m := fun z => c z.symm
      simp [c, c2]
theorem flat_ints (ms : List Int) : (ms.map V.int).all flatV = true := by
  rw [List.all_eq_true]
  intro x hx
  obtain ⟨m, _, rfl⟩ := List.mem_map.mp hx
  rfl
theorem flat_oVs (fs : List (Option Int)) : (oVs fs).all flatV = true := by
  rw [List.all_eq_true]
  intro x hx
  obtain ⟨m, _, rfl⟩ := List.mem_map.mp hx
  cases m <;> rfl
theorem inV_non {fs : List (Option Int)} : inV .non (oVs fs) = decide (none ∈ fs) := by
  induction fs with
  | nil => simp [inV, oVs]
  | cons m fs ih =>
    have e : inV .non (oVs (m :: fs)) = (eqV (oV m) .non || inV .non (oVs fs)) := rfl
    rw [e, ih]
    cases m with
    | none => simp [oV, eqV]
    | some i => simp [oV, eqV]
/-- the told entries of the sources -/
def toldO (ls : List Lk) (fs : List (Option Int)) (b : Nat) : List (Option Int) := (Rd.wr ls b).map (Rd.fO fs)
theorem told_snoc {ls : List Lk} {fs : List (Option Int)} {b j : Nat} {l : Lk} (h : ls[j]? = some l) : toldO (ls.take (j + 1)) fs b = toldO (ls.take j) fs b ++ (if l.1 = b then [Rd.fO fs l.2] else []) := by
  rw [toldO, take_succ_get h, Rd.wr_snoc, List.map_append]
  by_cases e : l.1 = b <;> simp [e, toldO]
theorem told_len (ls : List Lk) (fs : List (Option Int)) (b : Nat) : (toldO ls fs b).length ≤ ls.length := by
  rw [toldO, List.length_map, Rd.wr, List.length_map]
  exact List.length_filter_le _ _
section
variable {P : Program} {w : World} {K : PySem.W.Frag} {mg : Str → Option Value} {base : Heap}
theorem ok_all_single (T : Txt K mg) : Okd P w K mg base CX0 2 "_law_all_single" ["_law_lots", "_law_blocks"] spAllSingle := by
  have c_law_single : Okd P w K mg base CX0 1 "_law_single" ["_law_lot", "_law_blocks"] spSingle := ok_single T
  refine okd0 (st := s_law_all_single) T m_law_all_single sc_law_all_single (fun vs H Q E h => ?_) (fun _ _ _ _ _ _ us hl => match us, hl with | [_, _], _ => rfl) (fun f cdv A outer s H vs Q E hr h => ⟨_, (pss_one (ps_ret (pe_cmpR op_eq (pe_callB call_len_seq (by rfl) T.b_len PySem.boot_len (pa_cons (pe_lc (own := [("_law_lot", 2)]) (g := (gName 2)) rfl sc_law_all_single.nd (pi_tup (pv 0)) (blkOk_by (N := law_all_single_N) (sc := defScope s_law_all_single) (by decide +kernel)) (fun _ _ _ _ _ => (pg_name (i := 2) sc_law_all_single.nd rfl (Or.inl rfl))) (fun _ _ _ _ _ => (pts_one (pt_cmpR op_eq (pe_cd c_law_single hr (by decide) rfl (pa_cons (pv 2) (pa_cons (pv 1) pa_nil))) (pe_un un_neg pe_int) (nomark _)))) (fun _ _ _ _ _ => (pv 2))) pa_nil)) pe_int (nomark _)))), ?_⟩)
  · obtain ⟨p, n, L, rfl, _⟩ := h
    rfl
  · obtain ⟨p, n, L, rfl, hn, hL, hp, k⟩ := h
    refine ⟨_, rfl, p, rfl, ⟨_, SqT.of hp⟩, fun d hd => ?_⟩
    refine lc_tup (K := K) (a := p) (xs := nV L) (fun i H1 => Same H H1 ∧ H1 d = some (.lst (nV ((L.take i).filter fun m => Rd.sing n m == -2)))) ⟨.new hd, upd_same⟩ (fun i H1 _ q => SqT.of (q.1 _ _ hp)) ?_ ?_
    · rintro i x H1 hx ⟨S, h1⟩
      obtain ⟨m, hm, rfl⟩ := get_map hx
      have hi := get_lt hm
      rw [filter_take_succ hm]
      refine ⟨rfl, _, rfl, _, rfl, m, n, rfl, hn, _, rfl, rfl, _, rfl, ?_⟩
      refine iteI (fun c => ?_) (fun c => ?_)
      · refine ⟨_, rfl, _, h1, small_line ?_, S.mut hd, ?_⟩
        · rw [nV_len]
          have := List.length_filter_le (fun m => Rd.sing n m == -2) (L.take i)
          rw [List.length_take] at this
          omega
        · rw [upd_same, nV_snoc, if_pos (beq_iff_eq.mpr c)]
      · refine ⟨S, ?_⟩
        rw [if_neg (fun z => c (beq_iff_eq.mp z)), List.append_nil]
        exact h1
    · rintro H1 ⟨S, h1⟩
      rw [List.take_of_length_le (by rw [nV_len]; exact Nat.le_refl _)] at h1
      refine ⟨d, _, rfl, .inl (SqL.of h1), rfl, ?_⟩
      rw [nV_len, decZ]
      exact k _ S
theorem ok_lsettled (T : Txt K mg) : Okd P w K mg base CX0 2 "_law_settled" ["_law_links_here", "_law_lots", "_law_blocks"] spLSettled := by
  have c_law_single : Okd P w K mg base CX0 1 "_law_single" ["_law_lot", "_law_blocks"] spSingle := ok_single T
  have c_law_reach : Okd P w K mg base CX0 1 "_law_reach" ["_law_links_here", "_law_blocks", "_law_both"] spReach := ok_reach T
  have c_law_strong : Okd P w K mg base CX0 1 "_law_strong" ["_law_near", "_law_block"] spStrong := ok_strong T
  refine okd0 (st := s_law_settled) T m_law_settled sc_law_settled (fun vs H Q E h => ?_) (fun _ _ _ _ _ _ us hl => match us, hl with | [_, _, _], _ => rfl) (fun f cdv A outer s H vs Q E hr h => ⟨_, (pss_cons (ps_set (i := 3) sc_law_settled.nd rfl (Or.inl rfl) (pe_cd c_law_reach hr (by decide) rfl (pa_cons (pv 0) (pa_cons (pv 2) (pa_cons pe_bl pa_nil)))))
  (pss_cons (ps_setLc (i := 4) (own := [("_law_link", 9)]) (g := (gName 9)) (tt := tYes) rfl sc_law_settled.nd rfl rfl (sw_true rfl rfl rfl (by decide +kernel)) (pi_list (pv 0)) (blkOk_by (N := law_settled_N) (sc := defScope s_law_settled) (by decide +kernel)) (fun _ _ _ _ _ => (pg_name (i := 9) sc_law_settled.nd rfl (Or.inl rfl))) (fun _ _ _ _ _ => pts_nil) (fun _ _ _ _ _ => (pe_ix (r := rIxT K) ix_tup (pv 9) pe_int (fun _ _ => rfl))))
  (pss_cons (ps_set (i := 5) sc_law_settled.nd rfl (Or.inr rfl) (pe_lst pa_nil))
  (pss_cons (ps_for PassesOwn.never rfl (pi_range1 (by rfl) T.b_range (pa_cons (pv 2) pa_nil)) (pg_name (i := 6) sc_law_settled.nd rfl (Or.inr rfl))
    (pss_one (ps_if (pt_cmpR op_gt (pe_callB call_len_seq (by rfl) T.b_len PySem.boot_len (pa_cons (pe_cd c_law_strong hr (by decide) rfl (pa_cons (pv 3) (pa_cons (pv 6) pa_nil))) pa_nil)) pe_int (nomark _))
      (pss_one (ps_expr (pe_bm PySem.F.plainAttrs_list PySem.F.slot_list_append PySem.F.type_list_append mt_append (pv 5) (pa_cons (pe_cd c_law_single hr (by decide) rfl (pa_cons (pe_ix ix_list (pv 1) (pv 6) (fun _ _ => rfl)) (pa_cons (pv 2) pa_nil))) pa_nil))))
      (pss_one (ps_if (pt_cmpR op_in_seq (pv 6) (pv 4) (by rfl))
        (pss_one (ps_expr (pe_bm PySem.F.plainAttrs_list PySem.F.slot_list_append PySem.F.type_list_append mt_append (pv 5) (pa_cons pe_non pa_nil))))
        (pss_one (ps_expr (pe_bm PySem.F.plainAttrs_list PySem.F.slot_list_append PySem.F.type_list_append mt_append (pv 5) (pa_cons (pv 6) pa_nil)))))))))
  (pss_cons (ps_for PassesOwn.never rfl (pi_range1 (by rfl) T.b_range (pa_cons (pv 2) pa_nil)) (pg_name (i := 7) sc_law_settled.nd rfl (Or.inl rfl))
    (pss_one (ps_for PassesOwn.never rfl (pi_range1 (by rfl) T.b_range (pa_cons (pv 2) pa_nil)) (pg_name (i := 6) sc_law_settled.nd rfl (Or.inr rfl))
      (pss_one (ps_if (pt_cmpR op_isN (pe_ix ix_list (pv 5) (pv 6) (fun _ _ => rfl)) pe_non (nomark _))
        (pss_cons (ps_setLc (i := 8) (own := [("_law_link", 9)]) (g := (gName 9)) rfl sc_law_settled.nd rfl rfl (sw_true rfl rfl rfl (by decide +kernel)) (pi_list (pv 0)) (blkOk_by (N := law_settled_N) (sc := defScope s_law_settled) (by decide +kernel)) (fun _ _ _ _ _ => (pg_name (i := 9) sc_law_settled.nd rfl (Or.inl rfl))) (fun _ _ _ _ _ => (pts_one (pt_cmpR op_eq (pe_ix (r := rIxT K) ix_tup (pv 9) pe_int (fun _ _ => rfl)) (pv 6) (nomark _)))) (fun _ _ _ _ _ => (pe_ix (r := rIxL K) ix_list (pv 5) (pe_ix (r := rIxT K) ix_tup (pv 9) pe_int (fun _ _ => rfl)) (fun _ _ => rfl))))
        (pss_one (ps_if (pt_cmpR op_notIn_seq pe_non (pv 8) (by rfl))
          (pss_cons (ps_asg (pe_ix ix_list (pv 8) pe_int (fun _ _ => rfl)) (pg_sub (pv 5) (pv 6) set_list))
          (pss_one (ps_if (pt_cmpR op_ne (pe_bm PySem.F.plainAttrs_list PySem.F.slot_list_count PySem.F.type_list_count mt_lcount (pv 8) (pa_cons (pe_ix ix_list (pv 8) pe_int (fun _ _ => rfl)) pa_nil)) (pe_callB call_len_seq (by rfl) T.b_len PySem.boot_len (pa_cons (pv 8) pa_nil)) (nomark _))
            (pss_one (ps_asg (pe_un un_neg pe_int) (pg_sub (pv 5) (pv 6) set_list)))
            pss_nil)))
          pss_nil)))
        pss_nil)))))
  (pss_one (ps_ret (pe_callTy call_tuple_of (by rfl) T.b_tuple (by decide +kernel) (pa_cons (pv 5) pa_nil))))))))), ?_⟩)
  · obtain ⟨vl, p, n, ls, L, rfl, _⟩ := h
    rfl
  · obtain ⟨vl, p, n, ls, L, rfl, hn, hll, ho, hv, hL, hp, k⟩ := h
    obtain ⟨a, xs, e, ha, hxl, hd, hx⟩ := lks_dt hv
    -- near
    refine ⟨_, rfl, _, rfl, vl, n, ls, rfl, hn, ho, hv, fun pn H1 S1 _ hpn => ?_⟩
    subst e
    -- targets
    refine ⟨_, rfl, a, rfl, ⟨_, SqL.of (S1 _ _ ha)⟩, fun pt hpt => ?_⟩
    refine lc_list (K := K) (a := a) (xs := xs) (fun i H2 => Same H1 H2 ∧ H2 pt = some (.lst (((ls.take i).map fun l => (l.1 : Int)).map V.int))) ⟨.new hpt, upd_same⟩ (fun i H2 _ q => SqL.of (q.1 _ _ (S1 _ _ ha))) ?_ ?_
    · rintro j x H2 hxj ⟨S2, h2⟩
      obtain ⟨q, l, rfl, hlj, hq⟩ := hx j x hxj
      refine ⟨rfl, _, rfl, q, _, _, _, rfl, rfl, SqT.of ((S1.trans S2) _ _ hq), rfl, _, h2, small_line ?_, S2.mut hpt, ?_⟩
      · rw [List.length_map, List.length_map, List.length_take]
        omega
      · rw [upd_same, take_succ_get hlj, List.map_append, List.map_append]
        rfl
    · rintro H2 ⟨S2, hpt2⟩
      rw [List.take_of_length_le (show ls.length ≤ xs.length by omega)] at hpt2
      -- found
      refine ⟨Nat.zero_le _, fun pf hpf => ?_⟩
      have hSf : Same H2 (upd H2 pf (.lst [])) := .new hpf
      refine ⟨_, rfl, n, rfl, by omega, by omega, ?_⟩
      refine for_rng (n := n) (fun i σ H3 => (∃ v6, σ = [some (.ref a), some (.ref p), some (.int n), some (.ref pn), some (.ref pt), some (.ref pf), v6, none, none, none]) ∧ Same H2 H3 ∧ H3 pf = some (.lst (oVs ((List.range i).map (Rd.f0 n ls L))))) ⟨⟨_, rfl⟩, hSf, upd_same⟩ ?_ ?_
      · rintro i σ H3 hi ⟨⟨v6, rfl⟩, S3, hf3⟩
        have S13 := S2.trans S3
        have hsz : (oVs ((List.range i).map (Rd.f0 n ls L))).length < sizeLine := small_line (by simp [oVs]; omega)
        have hnext : ∀ v, v = oV (Rd.f0 n ls L i) → oVs ((List.range i).map (Rd.f0 n ls L)) ++ [v] = oVs ((List.range (i + 1)).map (Rd.f0 n ls L)) := fun v ev => by
          rw [ev, List.range_succ, List.map_append]
          simp [oVs]
        refine ⟨_, rfl, _, rfl, pn, n, i, Rd.W n ls n, rfl, hn, Rd.len_W n ls n, hi, S13 _ _ hpn, fun r H4 S4 hr4 => ?_⟩
        refine ⟨r, _, rfl, .inr (SqT.of hr4), _, _, rfl, rfl, _, rfl, ?_⟩
        have hf4 := S4 _ _ hf3
        have S24 : Same H2 H4 := S3.trans S4
        have ekn : Rd.kn n ls i = decide ((1 : Int) < ((nV (strongL (Rd.W n ls n) n i)).length : Int)) := by
          rw [nV_len, Rd.kn]
          exact decide_eq_decide.mpr ⟨fun z => by exact_mod_cast z, fun z => by exact_mod_cast z⟩
        refine iteD (fun c => ?_) (fun c => ?_)
        · have hk1 : Rd.kn n ls i = true := ekn.trans (decide_eq_true c)
          have e1 := nV_at (L := L) (b := i) (by omega)
          refine ⟨_, rfl, .inl ⟨rfl, _, SqL.of hf4⟩, _, rfl, _, rfl, p, _, _, _, rfl, rfl, SqL.of (((S1.trans S2).trans S24) _ _ hp), e1, _, rfl, _, n, rfl, hn, pf, _, _, rfl, rfl, hf4, hsz, ⟨_, rfl⟩, S24.mut hpf, ?_⟩
          rw [upd_same, hnext _ (by rw [Rd.f0, hk1, if_pos rfl]; rfl)]
        · have hk0 : Rd.kn n ls i = false := ekn.trans (decide_eq_false c)
          refine ⟨_, rfl, _, rfl, pt, _, rfl, .inl (SqL.of (S24 _ _ hpt2)), rfl, flat_ints _, _, rfl, ?_⟩
          rw [if_neg Bool.false_ne_true, inV_ints]
          refine iteD (fun c2 => ?_) (fun c2 => ?_)
          · have hw : Rd.wr ls i ≠ [] := fun z => by
              obtain ⟨l, hl, e⟩ := List.mem_map.mp c2
              exact Rd.wr_nil.mp z l hl (by omega)
            refine ⟨_, rfl, .inl ⟨rfl, _, SqL.of hf4⟩, pf, _, _, rfl, rfl, hf4, hsz, ⟨_, rfl⟩, S24.mut hpf, ?_⟩
            rw [upd_same, hnext _ (by rw [Rd.f0, hk0, if_neg Bool.false_ne_true, if_neg hw]; rfl)]
          · have hw : Rd.wr ls i = [] := Rd.wr_nil.mpr fun l hl e => c2 (List.mem_map.mpr ⟨l, hl, by omega⟩)
            refine ⟨_, rfl, .inl ⟨rfl, _, SqL.of hf4⟩, _, rfl, pf, _, _, rfl, rfl, hf4, hsz, ⟨_, rfl⟩, S24.mut hpf, ?_⟩
            rw [upd_same, hnext _ (by rw [Rd.f0, hk0, if_neg Bool.false_ne_true, if_pos hw]; rfl)]
      · rintro σ H3 ⟨⟨v6, rfl⟩, S3, hf3⟩
        refine ⟨_, rfl, n, rfl, by omega, by omega, ?_⟩
        refine for_rng (n := n) (fun i σ H4 => (∃ v6 v7 v8, σ = [some (.ref a), some (.ref p), some (.int n), some (.ref pn), some (.ref pt), some (.ref pf), v6, v7, v8, none]) ∧ Same H2 H4 ∧ ∃ fs, Rd.SetInv n ls L i 0 fs ∧ H4 pf = some (.lst (oVs fs))) ⟨⟨_, _, _, rfl⟩, S3, _, Rd.SetInv.start ho, hf3⟩ ?_ ?_
        · rintro i σ H4 hi ⟨⟨v6, v7, v8, rfl⟩, S4, fs0, I0, hf4⟩
          refine ⟨_, rfl, n, rfl, by omega, by omega, ?_⟩
          refine for_rng (n := n) (fun j σ H5 => (∃ v6 v8, σ = [some (.ref a), some (.ref p), some (.int n), some (.ref pn), some (.ref pt), some (.ref pf), v6, some (.int i), v8, none]) ∧ Same H2 H5 ∧ ∃ fs, Rd.SetInv n ls L i j fs ∧ H5 pf = some (.lst (oVs fs))) ⟨⟨_, _, rfl⟩, S4, _, I0, hf4⟩ ?_ ?_
          · rintro j σ H5 hj ⟨⟨v6, v8, rfl⟩, S5, fs, I5, hf5⟩
            have hjl : j < fs.length := by rw [I5.len]; exact hj
            refine ⟨_, rfl, _, rfl, pf, _, _, _, rfl, rfl, SqL.of hf5, oVs_at hjl, rfl, _, rfl, ?_⟩
            cases hfo : Rd.fO fs j with
            | some v => exact iteF ⟨⟨_, _, rfl⟩, S5, fs, I5.keep (by rw [hfo]; exact fun z => nomatch z), hf5⟩
            | none =>
              refine iteT ?_
              have S15 := (S1.trans S2).trans S5
              refine ⟨_, rfl, a, rfl, ⟨_, SqL.of (S15 _ _ ha)⟩, fun pd hpd => ?_⟩
              have hpfd : pf ≠ pd := ne_of_none hf5 hpd
              refine lc_list (K := K) (a := a) (xs := xs) (fun m H6 => Same H5 H6 ∧ H6 pd = some (.lst (oVs (toldO (ls.take m) fs j)))) ⟨.new hpd, upd_same⟩ (fun m H6 _ q => SqL.of (q.1 _ _ (S15 _ _ ha))) ?_ ?_
              · rintro m x H6 hxm ⟨S6, h6⟩
                obtain ⟨q, l, rfl, hlm, hq⟩ := hx m x hxm
                have hq6 := S6 _ _ (S15 _ _ hq)
                obtain ⟨o1, o2, o3⟩ := ho l (List.mem_of_getElem? hlm)
                rw [told_snoc hlm]
                refine ⟨rfl, _, rfl, q, _, _, _, rfl, rfl, SqT.of hq6, rfl, _, rfl, rfl, _, rfl, ?_⟩
                refine iteI (fun c => ?_) (fun c => ?_)
                · have c2 : l.1 = j := by omega
                  refine ⟨_, rfl, _, rfl, q, _, _, _, rfl, rfl, SqT.of hq6, rfl, pf, _, _, _, rfl, rfl, SqL.of (S6 _ _ hf5), oVs_at (by rw [I5.len]; exact o2), _, h6, small_line ?_, S6.mut hpd, ?_⟩
                  · have := told_len (ls.take m) fs j
                    rw [List.length_take] at this
                    rw [oVs, List.length_map]
                    omega
                  · rw [upd_same, if_pos c2]
                    simp [oVs]
                · have c2 : ¬ l.1 = j := fun z => c (by omega)
                  refine ⟨S6, ?_⟩
                  rw [if_neg c2, List.append_nil]
                  exact h6
              · rintro H6 ⟨S6, h6⟩
                rw [List.take_of_length_le (show ls.length ≤ xs.length by omega)] at h6
                have hf6 := S6 _ _ hf5
                have S26 : Same H2 H6 := S5.trans S6
                refine ⟨_, rfl, pd, _, rfl, .inl (SqL.of h6), rfl, flat_oVs _, _, rfl, ?_⟩
                rw [if_pos rfl, inV_non]
                by_cases hin : none ∈ toldO ls fs j
                · rw [decide_eq_true hin]
                  refine iteF ⟨⟨_, _, rfl⟩, S26, fs, I5.wait ho hj hfo ?_, hf6⟩
                  obtain ⟨u, hu, e⟩ := List.mem_map.mp hin
                  exact ⟨u, hu, e⟩
                · rw [decide_eq_false hin]
                  refine iteT ?_
                  have hw := (I5.non j hj hfo).2
                  have etold : oVs (toldO ls fs j) = ((Rd.wr ls j).map (Rd.gI (Rd.sv n ls L))).map V.int := by
                    rw [oVs, toldO, List.map_map, List.map_map]
                    refine List.map_congr_left fun u hu => ?_
                    have hun := (ho _ (Rd.mem_wr.mp hu)).2.1
                    cases q : Rd.fO fs u with
                    | none => exact absurd (List.mem_map.mpr ⟨u, hu, q⟩) hin
                    | some v =>
                      show oV (Rd.fO fs u) = V.int (Rd.gI (Rd.sv n ls L) u)
                      rw [q, ← I5.val u v hun q]
                      rfl
                  rw [etold] at h6
                  have Ip := I5.put ho hj hfo
                  cases ew : (Rd.wr ls j).map (Rd.gI (Rd.sv n ls L)) with
                  | nil => exact absurd (List.map_eq_nil_iff.mp ew) hw
                  | cons t0 tr =>
                    rw [ew] at h6 Ip
                    refine ⟨_, rfl, pd, _, _, _, rfl, rfl, SqL.of h6, at_cons0 _ _, ?_⟩
                    refine ⟨_, rfl, _, rfl, pf, _, _, j, rfl, rfl, hf6, ix_nat (by rw [oVs, List.length_map]; exact hjl), ?_⟩
                    have S27 : Same H2 (upd H6 pf (.lst ((oVs fs).set j (.int t0)))) := S26.mut hpf
                    have h7 : upd H6 pf (.lst ((oVs fs).set j (.int t0))) pd = some (.lst ((t0 :: tr).map V.int)) := by rw [upd_ne hpfd.symm]; exact h6
                    have hf7 : upd H6 pf (.lst ((oVs fs).set j (.int t0))) pf = some (.lst (oVs (fs.set j (some t0)))) := by
                      rw [upd_same]
                      simp [oVs, List.map_set, oV]
                    generalize upd H6 pf (.lst ((oVs fs).set j (.int t0))) = H7 at S27 h7 hf7 ⊢
                    refine ⟨_, rfl, .inl ⟨rfl, _, SqL.of h7⟩, _, rfl, pd, _, _, _, rfl, rfl, SqL.of h7, at_cons0 _ _, pd, _, t0, rfl, rfl, SqL.of h7, _, rfl, pd, _, rfl, .inl (SqL.of h7), rfl, _, rfl, ?_⟩
                    rw [List.length_map]
                    rw [Rd.common_count] at Ip
                    refine iteNI (fun c => ?_) (fun c => ?_)
                    · rw [if_neg (fun z => c (by rw [z]))] at Ip
                      refine ⟨_, rfl, _, rfl, _, rfl, pf, _, _, j, rfl, rfl, hf7, ix_nat (by simp [oVs]; exact hjl), ⟨_, _, rfl⟩, S27.mut hpf, _, Ip, ?_⟩
                      rw [upd_same]
                      simp [oVs, List.map_set, oV]
                    · rw [if_pos (Int.ofNat.inj c)] at Ip
                      exact ⟨⟨_, _, rfl⟩, S27, _, Ip, hf7⟩
          · rintro σ H5 ⟨⟨v6, v8, rfl⟩, S5, fs, I5, hf5⟩
            exact ⟨⟨_, _, _, rfl⟩, S5, fs, I5.turn, hf5⟩
        · rintro σ H4 ⟨⟨v6, v7, v8, rfl⟩, S4, fs, I4, hf4⟩
          rw [I4.fin] at hf4
          refine ⟨_, rfl, pf, _, rfl, .inl ⟨SqL.of hf4, fun r hr' => k r _ ((((S1.trans S2).trans S4)).to hr') ?_⟩⟩
          rw [upd_same]
          simp [oVs, oV]
end
end Rw
/-! ## FSets -/
namespace Rw
open PySem PySem.Spec PyProof.Rows L2
abbrev mutual_sets_N : List Str := ["reach", "found", "block", "members", "other"]
theorem sc_mutual_sets : FnScope mutual_sets_N ["reach"] (defScope s_mutual_sets) := ⟨rfl, rfl, rfl, by decide +kernel, rfl, by decide +kernel, by decide +kernel⟩
theorem m_mutual_sets : d_mutual_sets ∈ fn := List.mem_of_getElem? (i := 12) rfl
abbrev within_reach_N : List Str := ["script", "blocks"]
theorem sc_within_reach : FnScope within_reach_N ["script", "blocks"] (defScope s_within_reach) := ⟨rfl, rfl, rfl, by decide +kernel, rfl, by decide +kernel, by decide +kernel⟩
theorem m_within_reach : d_within_reach ∈ fn := List.mem_of_getElem? (i := 13) rfl
abbrev knots_N : List Str := ["script", "blocks", "reach", "members"]
theorem sc_knots : FnScope knots_N ["script", "blocks"] (defScope s_knots) := ⟨rfl, rfl, rfl, by decide +kernel, rfl, by decide +kernel, by decide +kernel⟩
theorem m_knots : d_knots ∈ fn := List.mem_of_getElem? (i := 14) rfl
theorem inV_nat {b : Nat} {L : List Nat} : inV (.int (b : Nat)) (nV L) = decide (b ∈ L) := by
  have e : nV L = (L.map fun m => ((m : Nat) : Int)).map V.int := by simp [nV]
  rw [e, inV_ints]
  refine decide_eq_decide.mpr ⟨fun h => ?_, fun h => List.mem_map.mpr ⟨b, h, rfl⟩⟩
  obtain ⟨m, hm, e⟩ := List.mem_map.mp h
  have : m = b := by omega
  exact this ▸ hm
theorem flat_nats (L : List Nat) : (nV L).all flatV = true := by
  rw [List.all_eq_true]
  intro x hx
  obtain ⟨m, _, rfl⟩ := List.mem_map.mp hx
  rfl
theorem mem_lotL {n m b : Nat} : b ∈ lotL n m ↔ b < n ∧ m.testBit b = true := by
  rw [lotL, List.mem_filter, List.mem_range]
theorem lotL_len (n m : Nat) : (lotL n m).length ≤ n := by
  have := List.length_filter_le (fun b => m.testBit b) (List.range n)
  rw [List.length_range] at this
  exact this
/-- the blocks that reach b and are reached from it -/
def memL (n : Nat) (T : List Nat) (b : Nat) : List Nat := (lotL n (Rd.gL T b)).filter fun o => (Rd.gL T o).testBit b
def mutL (n : Nat) (T : List Nat) : List (List Nat) := ((List.range n).filter fun b => Rd.gL (memL n T b) 0 == b).map (memL n T)
theorem memL_len (n : Nat) (T : List Nat) (b : Nat) : (memL n T b).length ≤ n := Nat.le_trans (List.length_filter_le _ _) (lotL_len _ _)
theorem memL_self {n : Nat} {T : List Nat} {b : Nat} (hb : b < n) (h : (Rd.gL T b).testBit b = true) : b ∈ memL n T b := List.mem_filter.mpr ⟨mem_lotL.mpr ⟨hb, h⟩, h⟩
def spMutual : Sp := fun vs H Q _ => ∃ (v : V) (n : Nat) (TT : List Nat), vs = [v] ∧ n ≤ 100 ∧ TT.length = n ∧ Dt H v (reachD n TT) ∧ (∀ b, b < n → (Rd.gL TT b).testBit b = true) ∧ ∀ r H', Same H H' → Dt H' (.ref r) (rowsD (mutL n TT)) → Q (.ref r) H'
/-- a log of the law -/
def GoodLog (H : Hp) (v : V) (n : Nat) (ls : List Lk) : Prop := 1 ≤ n ∧ n ≤ 12 ∧ ls.length ≤ 60 ∧ Rd.Okl n ls ∧ Dt H v (logD ls)
theorem GoodLog.to {H H' : Hp} {v : V} {n : Nat} {ls : List Lk} (g : GoodLog H v n ls) (S : Same H H') : GoodLog H' v n ls := ⟨g.1, g.2.1, g.2.2.1, g.2.2.2.1, g.2.2.2.2.to S⟩
/-- check_log at such a log -/
theorem GoodLog.sc {H : Hp} {v : V} {n : Nat} {ls : List Lk} (g : GoodLog H v n ls) : ∃ sc : Scr, 1 ≤ n ∧ n ≤ 12 ∧ Dt H v sc.toD ∧ (∀ x ∈ sc.lines, x.small) ∧ sc.lines.length ≤ 1000 ∧ sc.out n = .good ls := by
  obtain ⟨h1, h2, h3, ho, hv⟩ := g
  refine ⟨.lst (ls.map plainLn), h1, h2, by rw [log_toD]; exact hv, fun x hx => ?_, by show (ls.map plainLn).length ≤ 1000; rw [List.length_map]; omega, good_out ho h3⟩
  obtain ⟨l, hl, rfl⟩ := List.mem_map.mp (show x ∈ ls.map plainLn from hx)
  obtain ⟨o1, o2, _⟩ := ho l hl
  exact plain_small (by omega) (by omega)
def spWithin : Sp := fun vs H Q _ => ∃ (v : V) (n : Nat) (ls : List Lk), vs = [v, .int (n : Int)] ∧ GoodLog H v n ls ∧ ∀ r H', Same H H' → Dt H' (.ref r) (reachD n (Rd.W n ls n)) → Q (.ref r) H'
def knotL (n : Nat) (T : List Nat) : List (List Nat) := (mutL n T).filter fun m => decide (1 < m.length)
def spKnots : Sp := fun vs H Q _ => ∃ (v : V) (n : Nat) (ls : List Lk), vs = [v, .int (n : Int)] ∧ GoodLog H v n ls ∧ ∀ r H', Same H H' → Dt H' (.ref r) (rowsD (knotL n (Rd.W n ls n))) → Q (.ref r) H'
theorem reach_at {H : Hp} {n : Nat} {TT : List Nat} {xs : List V} {b : Nat} (d : DtAll H xs (TT.map fun m => rowD (lotL n m))) (h : b < TT.length) : ∃ a, atI xs (b : Int) = some (.ref a) ∧ H a = some (.tup (nV (lotL n (Rd.gL TT b)))) := by
  obtain ⟨v, h1, h2⟩ := d.get (i := b) (d := rowD (lotL n (Rd.gL TT b))) (by rw [List.getElem?_map, List.getElem?_eq_getElem h, Rd.gL_eq h]; rfl)
  obtain ⟨a, rfl, h3⟩ := row_inv h2
  exact ⟨a, atI_nat h1, h3⟩
section
variable {P : Program} {w : World} {K : PySem.W.Frag} {mg : Str → Option Value} {base : Heap}
theorem ok_mutual (T : Txt K mg) : Okd P w K mg base CX0 1 "_mutual_sets" ["reach"] spMutual := by
  refine okd0 (st := s_mutual_sets) T m_mutual_sets sc_mutual_sets (fun vs H Q E h => ?_) (fun _ _ _ _ _ _ us hl => match us, hl with | [_], _ => rfl) (fun f cdv A outer s H vs Q E hr h => ⟨_, (pss_cons (ps_set (i := 1) sc_mutual_sets.nd rfl (Or.inl rfl) (pe_lst pa_nil))
  (pss_cons (ps_for PassesOwn.never rfl (pi_range1 (by rfl) T.b_range (pa_cons (pe_callB call_len_seq (by rfl) T.b_len PySem.boot_len (pa_cons (pv 0) pa_nil)) pa_nil)) (pg_name (i := 2) sc_mutual_sets.nd rfl (Or.inr rfl))
    (pss_cons (ps_set (i := 3) sc_mutual_sets.nd rfl (Or.inl rfl) (pe_callTy call_tuple_of (by rfl) T.b_tuple (by decide +kernel) (pa_cons (pe_lc (own := [("other", 4)]) (g := (gName 4)) rfl sc_mutual_sets.nd (pi_tup (pe_ix ix_tup (pv 0) (pv 2) (fun _ _ => rfl))) (blkOk_by (N := mutual_sets_N) (sc := defScope s_mutual_sets) (by decide +kernel)) (fun _ _ _ _ _ => (pg_name (i := 4) sc_mutual_sets.nd rfl (Or.inl rfl))) (fun _ _ _ _ _ => (pts_one (pt_cmpR (r := rIn K false) op_in_seq (pv 2) (pe_ix (r := rIxT K) ix_tup (pv 0) (pv 4) (fun _ _ => rfl)) (by rfl)))) (fun _ _ _ _ _ => (pv 4))) pa_nil)))
    (pss_one (ps_if (pt_cmpR op_eq (pe_ix ix_tup (pv 3) pe_int (fun _ _ => rfl)) (pv 2) (nomark _))
      (pss_one (ps_expr (pe_bm PySem.F.plainAttrs_list PySem.F.slot_list_append PySem.F.type_list_append mt_append (pv 1) (pa_cons (pv 3) pa_nil))))
      pss_nil))))
  (pss_one (ps_ret (pv 1))))), ?_⟩)
  · obtain ⟨v, n, TT, rfl, _⟩ := h
    rfl
  · obtain ⟨v, n, TT, rfl, hn, hTl, hv, hrf, k⟩ := h
    obtain ⟨a, xs, rfl, ha, hx⟩ := hv.tuple_inv
    have hxl : xs.length = n := by rw [hx.len, List.length_map, hTl]
    refine ⟨Nat.zero_le _, fun r hr0 => ?_⟩
    have S0 : Same H (upd H r (.lst [])) := .new hr0
    refine ⟨_, rfl, a, _, rfl, .inr (SqT.of (S0 _ _ ha)), xs.length, rfl, by omega, by omega, ?_⟩
    rw [hxl]
    refine for_rng (n := n) (fun i σ H2 => (∃ v2 v3, σ = [some (.ref a), some (.ref r), v2, v3, none]) ∧ Same H H2 ∧ ∃ zs, H2 r = some (.lst zs) ∧ DtAll (wo H2 r) zs ((((List.range i).filter fun b => Rd.gL (memL n TT b) 0 == b).map (memL n TT)).map rowD)) ⟨⟨_, _, rfl⟩, S0, [], upd_same, .nil⟩ ?_ ?_
    · rintro i σ H2 hi ⟨⟨v2, v3, rfl⟩, S2, zs, hz, hzs⟩
      obtain ⟨q, hat, hq⟩ := reach_at hx (b := i) (by omega)
      refine ⟨_, rfl, _, rfl, a, _, _, _, rfl, rfl, SqT.of (S2 _ _ ha), hat, q, rfl, ⟨_, SqT.of (S2 _ _ hq)⟩, fun d hd => ?_⟩
      refine lc_tup (K := K) (a := q) (xs := nV (lotL n (Rd.gL TT i))) (fun j H3 => Same H2 H3 ∧ H3 d = some (.lst (nV (((lotL n (Rd.gL TT i)).take j).filter fun o => (Rd.gL TT o).testBit i)))) ⟨.new hd, upd_same⟩ (fun j H3 _ z => SqT.of (z.1 _ _ (S2 _ _ hq))) ?_ ?_
      · rintro j x H3 hxj ⟨S3, h3⟩
        obtain ⟨o, ho, rfl⟩ := get_map hxj
        have hon : o < n := (mem_lotL.mp (List.mem_of_getElem? ho)).1
        obtain ⟨q2, hat2, hq2⟩ := reach_at hx (b := o) (by omega)
        have S23 := S2.trans S3
        rw [filter_take_succ ho]
        refine ⟨rfl, _, rfl, _, rfl, _, rfl, a, _, _, _, rfl, rfl, SqT.of (S23 _ _ ha), hat2, q2, _, rfl, .inr (SqT.of (S23 _ _ hq2)), rfl, flat_nats _, _, rfl, ?_⟩
        rw [if_neg Bool.false_ne_true, inV_nat]
        refine iteD (fun c => ?_) (fun c => ?_)
        · rw [if_pos (mem_lotL.mp c).2]
          refine ⟨_, rfl, _, h3, small_line ?_, S3.mut hd, ?_⟩
          · rw [nV_len]
            have h1 := List.length_filter_le (fun o => (Rd.gL TT o).testBit i) ((lotL n (Rd.gL TT i)).take j)
            have h2 := lotL_len n (Rd.gL TT i)
            rw [List.length_take] at h1
            omega
          · rw [upd_same, nV_snoc]
        · rw [if_neg (fun z => c (mem_lotL.mpr ⟨hi, z⟩)), List.append_nil]
          exact ⟨S3, h3⟩
      · rintro H3 ⟨S3, h3⟩
        rw [nV_len, List.take_of_length_le (Nat.le_refl _)] at h3
        have h3' : H3 d = some (.lst (nV (memL n TT i))) := h3
        refine ⟨d, _, rfl, .inl ⟨SqL.of h3', fun t ht => ?_⟩⟩
        have S4 : Same H2 (upd H3 t (.tup (nV (memL n TT i)))) := S3.to ht
        have hz4 := S4 _ _ hz
        have ht4 : upd H3 t (.tup (nV (memL n TT i))) t = some (.tup (nV (memL n TT i))) := upd_same
        have htr : t ≠ r := fun z => by
          rw [z] at ht
          have := S3 _ _ hz
          rw [ht] at this
          cases this
        have hpos : 0 < (memL n TT i).length := List.length_pos_of_mem (memL_self hi (hrf i hi))
        refine ⟨_, rfl, t, _, _, _, rfl, rfl, SqT.of ht4, nV_at hpos, _, rfl, rfl, _, rfl, ?_⟩
        rw [List.range_succ, List.filter_append, List.map_append, List.map_append]
        refine iteI (fun c => ?_) (fun c => ?_)
        · have c2 : (Rd.gL (memL n TT i) 0 == i) = true := beq_iff_eq.mpr (Int.ofNat.inj c)
          refine ⟨_, rfl, .inl ⟨rfl, _, SqL.of hz4⟩, _, rfl, r, _, _, rfl, rfl, hz4, small_line ?_, ⟨_, _, rfl⟩, (S2.trans S4).mut hr0, _, upd_same, ?_⟩
          · rw [hzs.len, List.length_map, List.length_map]
            have := List.length_filter_le (fun b => Rd.gL (memL n TT b) 0 == b) (List.range i)
            rw [List.length_range] at this
            omega
          · rw [wo_upd]
            refine (hzs.to (wo_mono S4)).append ?_
            rw [List.filter_cons, if_pos c2]
            exact .cons (dt_row (by rw [wo_ne htr]; exact ht4)) .nil
        · have c2 : (Rd.gL (memL n TT i) 0 == i) = false := beq_eq_false_iff_ne.mpr (fun z => c (by rw [z]))
          refine ⟨⟨_, _, rfl⟩, S2.trans S4, zs, hz4, ?_⟩
          rw [List.filter_cons, if_neg (by rw [c2]; exact Bool.false_ne_true)]
          simp only [List.filter_nil, List.map_nil, List.append_nil]
          exact hzs.to (wo_mono S4)
    · rintro σ H2 ⟨⟨v2, v3, rfl⟩, S2, zs, hz, hzs⟩
      exact ⟨_, rfl, k r _ S2 (.lst hz (hzs.to wo_same))⟩
theorem ok_within (T : Txt K mg) (TE : Errs P K mg) : Okd P w K mg base (L2.CX P w) 6 "within_reach" ["script", "blocks"] spWithin := by
  have c_reach_of : Okd P w K mg base CX0 2 "_reach_of" ["log", "blocks"] spReachOf := ok_reach_of T
  have c_check_log : Okd P w K mg base (L2.CX P w) 5 "check_log" ["script", "blocks"] (spLog K) := ok_log T TE
  refine okd_mk (st := s_within_reach) T m_within_reach sc_within_reach (fun vs H Q E h => ?_) (fun _ _ _ _ _ _ us hl => match us, hl with | [_, _], _ => rfl) (fun f cdv A outer s H vs Q E hr h => ⟨_, (pss_one (ps_ret (pe_cd c_reach_of hr (by decide) rfl (pa_cons (pe_cdX c_check_log hr (by decide) rfl (takes_of rfl rfl rfl rfl) (pa_cons (pv 0) (pa_cons (pv 1) pa_nil))) (pa_cons (pv 1) pa_nil))))), ?_⟩)
  · obtain ⟨v, n, ls, rfl, _⟩ := h
    rfl
  · obtain ⟨v, n, ls, rfl, g, k⟩ := h
    obtain ⟨sc, c1, c2, c3, c4, c5, c6⟩ := g.sc
    refine ⟨_, rfl, _, rfl, v, n, sc, rfl, c1, c2, c3, c4, c5, ?_⟩
    rw [c6]
    intro r H1 S1 d1
    exact ⟨_, rfl, .ref r, n, ls, rfl, by omega, g.2.2.2.1, d1, fun p H2 S2 d2 => k p H2 (S1.trans S2) d2⟩
theorem ok_knots (T : Txt K mg) (TE : Errs P K mg) : Okd P w K mg base (L2.CX P w) 7 "knots" ["script", "blocks"] spKnots := by
  have c_within_reach : Okd P w K mg base (L2.CX P w) 6 "within_reach" ["script", "blocks"] spWithin := ok_within T TE
  have c_mutual_sets : Okd P w K mg base CX0 1 "_mutual_sets" ["reach"] spMutual := ok_mutual T
  refine okd_mk (st := s_knots) T m_knots sc_knots (fun vs H Q E h => ?_) (fun _ _ _ _ _ _ us hl => match us, hl with | [_, _], _ => rfl) (fun f cdv A outer s H vs Q E hr h => ⟨_, (pss_cons (ps_set (i := 2) sc_knots.nd rfl (Or.inl rfl) (pe_cdX c_within_reach hr (by decide) rfl (takes_of rfl rfl rfl rfl) (pa_cons (pv 0) (pa_cons (pv 1) pa_nil))))
  (pss_one (ps_ret (pe_lc (own := [("members", 3)]) (g := (gName 3)) rfl sc_knots.nd (pi_list (pe_cd c_mutual_sets hr (by decide) rfl (pa_cons (pv 2) pa_nil))) (blkOk_by (N := knots_N) (sc := defScope s_knots) (by decide +kernel)) (fun _ _ _ _ _ => (pg_name (i := 3) sc_knots.nd rfl (Or.inl rfl))) (fun _ _ _ _ _ => (pts_one (pt_cmpR op_gt (pe_callB (r := Evl.rLenS K) call_len_seq (by rfl) T.b_len PySem.boot_len (pa_cons (pv 3) pa_nil)) pe_int (nomark _)))) (fun _ _ _ _ _ => (pv 3)))))), ?_⟩)
  · obtain ⟨v, n, ls, rfl, _⟩ := h
    rfl
  · obtain ⟨v, n, ls, rfl, g, k⟩ := h
    refine ⟨_, rfl, _, rfl, v, n, ls, rfl, g, fun r1 H1 S1 d1 => ?_⟩
    have h2 := g.2.1
    have ho := g.2.2.2.1
    refine ⟨_, rfl, .ref r1, n, Rd.W n ls n, rfl, by omega, Rd.len_W n ls n, d1, fun b hb => Rd.R_refl ho hb, fun r2 H2 S2 d2 => ?_⟩
    generalize Rd.W n ls n = TT at d2 k
    obtain ⟨a, xs, e, ha, hx⟩ := d2.list_inv
    cases e
    have hml : (mutL n TT).length ≤ n := by
      rw [mutL, List.length_map]
      have := List.length_filter_le (fun b => Rd.gL (memL n TT b) 0 == b) (List.range n)
      rw [List.length_range] at this
      exact this
    refine ⟨r2, rfl, ⟨_, SqL.of ha⟩, fun d hd => ?_⟩
    refine lc_list (K := K) (a := r2) (xs := xs) (fun i H3 => Same H2 H3 ∧ ∃ zs, H3 d = some (.lst zs) ∧ DtAll (wo H3 d) zs ((((mutL n TT).take i).filter fun m => decide (1 < m.length)).map rowD)) ⟨.new hd, [], upd_same, .nil⟩ (fun i H3 _ z => SqL.of (z.1 _ _ ha)) ?_ ?_
    · rintro i x H3 hxi ⟨S3, zs, hz, hzs⟩
      obtain ⟨q, m, rfl, hm, hq⟩ := rows_of hx hxi
      have hil := get_lt hm
      rw [filter_take_succ hm]
      refine ⟨rfl, _, rfl, q, _, rfl, .inr (SqT.of (S3 _ _ hq)), _, _, rfl, rfl, _, rfl, ?_⟩
      rw [nV_len]
      have hqd : q ≠ d := fun z => by
        rw [z] at hq
        rw [hd] at hq
        cases hq
      refine iteD (fun c => ?_) (fun c => ?_)
      · have c2 : decide (1 < m.length) = true := decide_eq_true (by omega)
        refine ⟨_, rfl, zs, hz, small_line ?_, S3.mut hd, _, upd_same, ?_⟩
        · rw [hzs.len, List.length_map]
          have := List.length_filter_le (fun m => decide (1 < m.length)) ((mutL n TT).take i)
          rw [List.length_take] at this
          omega
        · rw [wo_upd, if_pos c2, List.map_append]
          exact hzs.snoc (dt_row (by rw [wo_ne hqd]; exact S3 _ _ hq))
      · rw [if_neg (by rw [decide_eq_false (show ¬ 1 < m.length by omega)]; exact Bool.false_ne_true), List.append_nil]
        exact ⟨S3, zs, hz, hzs⟩
    · rintro H3 ⟨S3, zs, hz, hzs⟩
      have hxl : xs.length = (mutL n TT).length := by rw [hx.len, List.length_map]
      rw [hxl, List.take_of_length_le (Nat.le_refl _)] at hzs
      exact k d H3 ((S1.trans S2).trans S3) (.lst hz (hzs.to wo_same))
end
end Rw
/-! ## FOrder -/
namespace Rw
open PySem PySem.Spec PyProof.Rows L2
abbrev sources_first_N : List Str := ["reach", "rows", "block", "before", "_", "other"]
theorem sc_sources_first : FnScope sources_first_N ["reach"] (defScope s_sources_first) := ⟨rfl, rfl, rfl, by decide +kernel, rfl, by decide +kernel, by decide +kernel⟩
theorem m_sources_first : d_sources_first ∈ fn := List.mem_of_getElem? (i := 17) rfl
abbrev common_N : List Str := ["entries", "entry"]
theorem sc_common : FnScope common_N ["entries"] (defScope s_common) := ⟨rfl, rfl, rfl, by decide +kernel, rfl, by decide +kernel, by decide +kernel⟩
theorem m_common : d_common ∈ fn := List.mem_of_getElem? (i := 18) rfl
abbrev last_writes_N : List Str := ["log", "blocks", "writes", "at", "target", "_"]
theorem sc_last_writes : FnScope last_writes_N ["log", "blocks"] (defScope s_last_writes) := ⟨rfl, rfl, rfl, by decide +kernel, rfl, by decide +kernel, by decide +kernel⟩
theorem m_last_writes : d_last_writes ∈ fn := List.mem_of_getElem? (i := 9) rfl
def rkT (n : Nat) (T : List Nat) (b : Nat) : Nat := ((List.range n).filter fun a => (Rd.gL T a).testBit b).length
/-- the blocks, those with fewer before them first -/
structure OrdT (n : Nat) (T : List Nat) (od : List Nat) : Prop where
  perm : od.Perm (List.range n)
  asc : od.Pairwise fun a b => rkT n T a ≤ rkT n T b
def spOrder : Sp := fun vs H Q _ => ∃ (v : V) (n : Nat) (TT : List Nat), vs = [v] ∧ n ≤ 100 ∧ TT.length = n ∧ Dt H v (reachD n TT) ∧ ∀ r H' (od : List Nat), OrdT n TT od → Same H H' → H r = none → H' r = some (.lst (nV od)) → Q (.ref r) H'
def spCommonT : Sp := fun vs H Q _ => ∃ (p : Addr) (xs : List Int), vs = [.ref p] ∧ xs ≠ [] ∧ H p = some (.tup (xs.map V.int)) ∧ Q (.int (Rd.common xs)) H
def spCommonL : Sp := fun vs H Q _ => ∃ (p : Addr) (xs : List Int), vs = [.ref p] ∧ xs ≠ [] ∧ H p = some (.lst (xs.map V.int)) ∧ Q (.int (Rd.common xs)) H
/-- the last line that writes on each block -/
structure LastW (n : Nat) (ls : List Lk) (W : List Int) : Prop where
  len : W.length = n
  at_ : ∀ b, b < n → (Rd.gI W b = -1 ∧ Rd.wr ls b = []) ∨ ∃ (j : Nat) (l : Lk), Rd.gI W b = (j : Int) ∧ ls[j]? = some l ∧ l.1 = b
def spLastW : Sp := fun vs H Q _ => ∃ (vl : V) (n : Nat) (ls : List Lk), vs = [vl, .int (n : Int)] ∧ n ≤ 100 ∧ ls.length ≤ 1000 ∧ Rd.Okl n ls ∧ Dt H vl (lksD ls) ∧ ∀ r H' W, LastW n ls W → Same H H' → H' r = some (.lst (W.map V.int)) → Q (.ref r) H'
theorem common_take {x : Int} {xs : List Int} (h : ∀ j, j < xs.length → xs[j]? = some x) (hne : xs ≠ []) : Rd.common xs = x := Rd.common_all hne fun y hy => by
  obtain ⟨j, hj⟩ := List.mem_iff_getElem?.mp hy
  have := h j (get_lt hj)
  rw [hj] at this
  exact Option.some.inj this
theorem common_not {x y : Int} {r : List Int} (hy : y ∈ x :: r) (h : y ≠ x) : Rd.common (x :: r) = -2 := by
  rw [Rd.common, if_neg]
  intro z
  exact h (beq_iff_eq.mp (List.all_eq_true.mp z y hy))
theorem gI_set_self {W : List Int} {i : Nat} {x : Int} (h : i < W.length) : Rd.gI (W.set i x) i = x := by
  simp [Rd.gI, List.getD_eq_getElem?_getD, h]
theorem gI_set_ne {W : List Int} {i b : Nat} {x : Int} (h : b ≠ i) : Rd.gI (W.set i x) b = Rd.gI W b := by
  simp only [Rd.gI, List.getD_eq_getElem?_getD, List.getElem?_set]
  rw [if_neg (fun z => h z.symm)]
theorem LastW.snoc {n : Nat} {ls : List Lk} {W : List Int} {l : Lk} (w : LastW n ls W) (h : l.1 < n) : LastW n (ls ++ [l]) (W.set l.1 (ls.length : Int)) := by
  refine ⟨by rw [List.length_set]; exact w.len, fun b hb => ?_⟩
  by_cases e : b = l.1
  · rw [e, gI_set_self (by rw [w.len]; exact h)]
    exact .inr ⟨ls.length, l, rfl, by simp, rfl⟩
  · rw [gI_set_ne e]
    rcases w.at_ b hb with ⟨h1, h2⟩ | ⟨j, l', h1, h2, h3⟩
    · refine .inl ⟨h1, ?_⟩
      rw [Rd.wr_snoc, h2, if_neg (fun z => e z.symm)]
      rfl
    · exact .inr ⟨j, l', h1, by rw [List.getElem?_append_left (get_lt h2)]; exact h2, h3⟩
section
variable {P : Program} {w : World} {K : PySem.W.Frag} {mg : Str → Option Value} {base : Heap}
theorem ok_commonT (T : Txt K mg) : Okd P w K mg base CX0 1 "_common" ["entries"] spCommonT := by
  obtain ⟨_, h_FREE⟩ := T.c_FREE
  refine okd0 (st := s_common) T m_common sc_common (fun vs H Q E h => ?_) (fun _ _ _ _ _ _ us hl => match us, hl with | [_], _ => rfl) (fun f cdv A outer s H vs Q E hr h => ⟨_, (pss_cons (ps_for PassesOwn.never rfl (pi_tup (pv 0)) (pg_name (i := 1) sc_common.nd rfl (Or.inl rfl))
    (pss_one (ps_if (pt_cmpR op_ne (pv 1) (pe_ix ix_tup (pv 0) pe_int (fun _ _ => rfl)) (nomark _))
      (pss_one (ps_ret (pe_glob (v := .int (-2)) rfl h_FREE ⟨_, rfl⟩)))
      pss_nil)))
  (pss_one (ps_ret (pe_ix ix_tup (pv 0) pe_int (fun _ _ => rfl))))), ?_⟩)
  · obtain ⟨p, xs, rfl, _⟩ := h
    rfl
  · obtain ⟨p, xs, rfl, hne, hp, k⟩ := h
    cases xs with
    | nil => exact absurd rfl hne
    | cons x0 xr =>
      refine ⟨_, rfl, p, rfl, ⟨_, SqT.of hp⟩, for_tup (K := K) (a := p) (xs := (x0 :: xr).map V.int) (fun i σ H1 => H1 = H ∧ (∃ v1, σ = [some (.ref p), v1]) ∧ ∀ j, j < i → j < (x0 :: xr).length → (x0 :: xr)[j]? = some x0) ⟨rfl, ⟨_, rfl⟩, fun j h => absurd h (Nat.not_lt_zero _)⟩ (fun i σ H1 _ z => by rw [z.1]; exact SqT.of hp) ?_ ?_⟩
      · rintro i x σ H1 hx ⟨rfl, ⟨v1, rfl⟩, hall⟩
        obtain ⟨y, hy, rfl⟩ := get_map hx
        refine ⟨_, rfl, _, rfl, p, _, _, _, rfl, rfl, SqT.of hp, at_cons0 _ _, rfl, _, rfl, ?_⟩
        refine iteNI (fun c => ?_) (fun c => ?_)
        · rw [common_not (List.mem_of_getElem? hy) c] at k
          exact k
        · refine ⟨rfl, ⟨_, rfl⟩, fun j hj hjl => ?_⟩
          by_cases e : j = i
          · rw [e, hy, c]
          · exact hall j (by omega) hjl
      · rintro σ H1 ⟨rfl, ⟨v1, rfl⟩, hall⟩
        rw [common_take (fun j hj => hall j (by rw [List.length_map]; exact hj) hj) hne] at k
        exact ⟨_, rfl, p, _, _, _, rfl, rfl, SqT.of hp, at_cons0 _ _, k⟩
theorem ok_commonL (T : Txt K mg) : Okd P w K mg base CX0 1 "_common" ["entries"] spCommonL := by
  obtain ⟨_, h_FREE⟩ := T.c_FREE
  refine okd0 (st := s_common) T m_common sc_common (fun vs H Q E h => ?_) (fun _ _ _ _ _ _ us hl => match us, hl with | [_], _ => rfl) (fun f cdv A outer s H vs Q E hr h => ⟨_, (pss_cons (ps_for PassesOwn.never rfl (pi_list (pv 0)) (pg_name (i := 1) sc_common.nd rfl (Or.inl rfl))
    (pss_one (ps_if (pt_cmpR op_ne (pv 1) (pe_ix ix_list (pv 0) pe_int (fun _ _ => rfl)) (nomark _))
      (pss_one (ps_ret (pe_glob (v := .int (-2)) rfl h_FREE ⟨_, rfl⟩)))
      pss_nil)))
  (pss_one (ps_ret (pe_ix ix_list (pv 0) pe_int (fun _ _ => rfl))))), ?_⟩)
  · obtain ⟨p, xs, rfl, _⟩ := h
    rfl
  · obtain ⟨p, xs, rfl, hne, hp, k⟩ := h
    cases xs with
    | nil => exact absurd rfl hne
    | cons x0 xr =>
      refine ⟨_, rfl, p, rfl, ⟨_, SqL.of hp⟩, for_list (K := K) (a := p) (xs := (x0 :: xr).map V.int) (fun i σ H1 => H1 = H ∧ (∃ v1, σ = [some (.ref p), v1]) ∧ ∀ j, j < i → j < (x0 :: xr).length → (x0 :: xr)[j]? = some x0) ⟨rfl, ⟨_, rfl⟩, fun j h => absurd h (Nat.not_lt_zero _)⟩ (fun i σ H1 _ z => by rw [z.1]; exact SqL.of hp) ?_ ?_⟩
      · rintro i x σ H1 hx ⟨rfl, ⟨v1, rfl⟩, hall⟩
        obtain ⟨y, hy, rfl⟩ := get_map hx
        refine ⟨_, rfl, _, rfl, p, _, _, _, rfl, rfl, SqL.of hp, at_cons0 _ _, rfl, _, rfl, ?_⟩
        refine iteNI (fun c => ?_) (fun c => ?_)
        · rw [common_not (List.mem_of_getElem? hy) c] at k
          exact k
        · refine ⟨rfl, ⟨_, rfl⟩, fun j hj hjl => ?_⟩
          by_cases e : j = i
          · rw [e, hy, c]
          · exact hall j (by omega) hjl
      · rintro σ H1 ⟨rfl, ⟨v1, rfl⟩, hall⟩
        rw [common_take (fun j hj => hall j (by rw [List.length_map]; exact hj) hj) hne] at k
        exact ⟨_, rfl, p, _, _, _, rfl, rfl, SqL.of hp, at_cons0 _ _, k⟩
theorem ok_last (T : Txt K mg) : Okd P w K mg base CX0 1 "last_writes" ["log", "blocks"] spLastW := by
  refine okd0 (st := s_last_writes) T m_last_writes sc_last_writes (fun vs H Q E h => ?_) (fun _ _ _ _ _ _ us hl => match us, hl with | [_, _], _ => rfl) (fun f cdv A outer s H vs Q E hr h => ⟨_, (pss_cons (ps_set (i := 2) sc_last_writes.nd rfl (Or.inl rfl) (pe_op op_rep (pe_lst (pa_cons (pe_un un_neg pe_int) pa_nil)) (pv 1)))
  (pss_cons (ps_for PassesOwn.never rfl (pi_enum (by rfl) T.b_enumerate (pa_cons (pv 0) pa_nil)) (pg_tup rfl (pgs_cons (pg_name (i := 3) sc_last_writes.nd rfl (Or.inl rfl)) (pgs_cons (pg_tup rfl (pgs_cons (pg_name (i := 4) sc_last_writes.nd rfl (Or.inl rfl)) (pgs_cons (pg_name (i := 5) sc_last_writes.nd rfl (Or.inl rfl)) pgs_nil))) pgs_nil)))
    (pss_one (ps_asg (pv 3) (pg_sub (pv 2) (pv 4) set_list))))
  (pss_one (ps_ret (pv 2))))), ?_⟩)
  · obtain ⟨vl, n, ls, rfl, _⟩ := h
    rfl
  · obtain ⟨vl, n, ls, rfl, hn, hll, ho, hv, k⟩ := h
    obtain ⟨a, xs, rfl, ha, hxl, hd, hx⟩ := lks_dt hv
    refine ⟨_, rfl, (by show 1 ≤ sizeLine; decide), fun q hq => ?_⟩
    refine ⟨_, rfl, q, n, _, rfl, rfl, upd_same, by omega, by omega, small_le (by simp; omega), fun p hp => ?_⟩
    have e1 : ((n : Int)).toNat = n := by omega
    have e0 : (List.replicate ((n : Int)).toNat [V.int (-1)]).flatten = (List.replicate n (-1 : Int)).map V.int := by
      rw [e1, List.map_replicate]
      simp
    have hqp : q ≠ p := ne_of_none upd_same hp
    have S0 : Same H (upd (upd H q (.lst [V.int (-1)])) p (.lst (List.replicate ((n : Int)).toNat [V.int (-1)]).flatten)) := (Same.new hq).to hp
    have hp0 : H p = none := none_of (Same.new hq) hp
    have hpp : upd (upd H q (.lst [V.int (-1)])) p (.lst (List.replicate ((n : Int)).toNat [V.int (-1)]).flatten) p = some (.lst ((List.replicate n (-1 : Int)).map V.int)) := by rw [upd_same, e0]
    generalize upd (upd H q (.lst [V.int (-1)])) p (.lst (List.replicate ((n : Int)).toNat [V.int (-1)]).flatten) = H0 at S0 hpp ⊢
    refine ⟨_, rfl, a, _, rfl, SqL.of (S0 _ _ ha), for_enumL (K := K) (a := a) (xs := xs) (fun i σ H2 => i ≤ ls.length ∧ Same H H2 ∧ (∃ v3 v4 v5, σ = [some (.ref a), some (.int n), some (.ref p), v3, v4, v5]) ∧ ∃ W, LastW n (ls.take i) W ∧ H2 p = some (.lst (W.map V.int))) ⟨Nat.zero_le _, S0, ⟨_, _, _, rfl⟩, _, ⟨by simp, fun b hb => .inl ⟨by simp [Rd.gI, List.getD_eq_getElem?_getD, hb], rfl⟩⟩, hpp⟩ (fun i σ H2 z => SqL.of (z.2.1 _ _ ha)) ?_ ?_⟩
    · rintro i x T' σ H2 hxi ⟨hi, S2, ⟨v3, v4, v5, rfl⟩, W, hW, hw⟩ hT
      obtain ⟨q', l, rfl, hl, hq'⟩ := hx i x hxi
      have hil := get_lt hl
      obtain ⟨o1, o2, o3⟩ := ho l (List.mem_of_getElem? hl)
      have S3 : Same H2 (upd H2 T' (.tup [.int (i : Nat), .ref q'])) := .new hT
      have hq3 := (S2.trans S3) _ _ hq'
      have hp3 := S3 _ _ hw
      refine ⟨T', _, rfl, SqT.of upd_same, rfl, _, _, rfl, _, _, rfl, q', _, rfl, SqT.of hq3, rfl, _, _, rfl, _, _, rfl, rfl, rfl, ?_⟩
      refine ⟨_, rfl, _, rfl, _, rfl, p, _, _, l.1, rfl, rfl, hp3, ix_nat (by rw [List.length_map, hW.len]; exact o1), hil, (S2.trans S3).mut hp0, ⟨_, _, _, rfl⟩, W.set l.1 (i : Int), ?_, ?_⟩
      · rw [take_succ_get hl]
        have := hW.snoc (l := l) o1
        rw [List.length_take, Nat.min_eq_left hi] at this
        exact this
      · rw [upd_same, List.map_set]
    · rintro σ H2 ⟨hi, S2, ⟨v3, v4, v5, rfl⟩, W, hW, hw⟩
      rw [hxl, List.take_of_length_le (Nat.le_refl _)] at hW
      exact ⟨_, rfl, k p _ W hW S2 hw⟩
/-- the two ints of a pair -/
def keyP (H : Hp) (x : V) : Int × Int := match x with
  | .ref t => match H t with
    | some (.tup [.int a, .int b]) => (a, b)
    | _ => (0, 0)
  | _ => (0, 0)
theorem keyP_at {H : Hp} {t : Addr} {a b : Int} (h : H t = some (.tup [.int a, .int b])) : keyP H (.ref t) = (a, b) := by
  simp [keyP, h]
theorem ok_order (T : Txt K mg) : Okd P w K mg base CX0 1 "_sources_first" ["reach"] spOrder := by
  refine okd0 (st := s_sources_first) T m_sources_first sc_sources_first (fun vs H Q E h => ?_) (fun _ _ _ _ _ _ us hl => match us, hl with | [_], _ => rfl) (fun f cdv A outer s H vs Q E hr h => ⟨_, (pss_cons (ps_set (i := 1) sc_sources_first.nd rfl (Or.inl rfl) (pe_lst pa_nil))
  (pss_cons (ps_for PassesOwn.never rfl (pi_range1 (by rfl) T.b_range (pa_cons (pe_callB call_len_seq (by rfl) T.b_len PySem.boot_len (pa_cons (pv 0) pa_nil)) pa_nil)) (pg_name (i := 2) sc_sources_first.nd rfl (Or.inr rfl))
    (pss_cons (ps_setLc (i := 3) (own := [("other", 5)]) (g := (gName 5)) rfl sc_sources_first.nd rfl rfl (sw_true rfl rfl rfl (by decide +kernel)) (pi_range1 (by rfl) T.b_range (pa_cons (pe_callB call_len_seq (by rfl) T.b_len PySem.boot_len (pa_cons (pv 0) pa_nil)) pa_nil)) (blkOk_by (N := sources_first_N) (sc := defScope s_sources_first) (by decide +kernel)) (fun _ _ _ _ _ => (pg_name (i := 5) sc_sources_first.nd rfl (Or.inl rfl))) (fun _ _ _ _ _ => (pts_one (pt_cmpR (r := rIn K false) op_in_seq (pv 2) (pe_ix (r := rIxT K) ix_tup (pv 0) (pv 5) (fun _ _ => rfl)) (by rfl)))) (fun _ _ _ _ _ => (pv 5)))
    (pss_one (ps_expr (pe_bm PySem.F.plainAttrs_list PySem.F.slot_list_append PySem.F.type_list_append mt_append (pv 1) (pa_cons (pe_tup (pa_cons (pe_callB call_len_seq (by rfl) T.b_len PySem.boot_len (pa_cons (pv 3) pa_nil)) (pa_cons (pv 2) pa_nil))) pa_nil))))))
  (pss_one (ps_ret (pe_lc (own := [("_", 4), ("block", 2)]) (g := (gTup K 2 (gCons (gName 4) (gCons (gName 2) gNil)))) (tt := tYes) rfl sc_sources_first.nd (pi_list (pe_callB cr_sortedPO (by rfl) T.b_sorted (by decide +kernel) (pa_cons (pv 1) pa_nil))) (blkOk_by (N := sources_first_N) (sc := defScope s_sources_first) (by decide +kernel)) (fun _ _ _ _ _ => (pg_tup rfl (pgs_cons (pg_name (i := 4) sc_sources_first.nd rfl (Or.inl rfl)) (pgs_cons (pg_name (i := 2) sc_sources_first.nd rfl (Or.inl rfl)) pgs_nil)))) (fun _ _ _ _ _ => pts_nil) (fun _ _ _ _ _ => (pv 2))))))), ?_⟩)
  · obtain ⟨v, n, TT, rfl, _⟩ := h
    rfl
  · obtain ⟨v, n, TT, rfl, hn, hTl, hv, k⟩ := h
    obtain ⟨a, xs, rfl, ha, hx⟩ := hv.tuple_inv
    have hxl : xs.length = n := by rw [hx.len, List.length_map, hTl]
    refine ⟨Nat.zero_le _, fun r hr0 => ?_⟩
    have S0 : Same H (upd H r (.lst [])) := .new hr0
    refine ⟨_, rfl, a, _, rfl, .inr (SqT.of (S0 _ _ ha)), xs.length, rfl, by omega, by omega, ?_⟩
    rw [hxl]
    refine for_rng (n := n) (fun i σ H2 => (∃ v2 v3, σ = [some (.ref a), some (.ref r), v2, v3, none, none]) ∧ Same H H2 ∧ ∃ zs, H2 r = some (.lst zs) ∧ DtAll (wo H2 r) zs (((List.range i).map fun b => [rkT n TT b, b]).map rowD)) ⟨⟨_, _, rfl⟩, S0, [], upd_same, .nil⟩ ?_ ?_
    · rintro i σ H2 hi ⟨⟨v2, v3, rfl⟩, S2, zs, hz, hzs⟩
      refine ⟨_, rfl, a, _, rfl, .inr (SqT.of (S2 _ _ ha)), xs.length, rfl, by omega, by omega, fun d hd => ?_⟩
      rw [hxl]
      refine lc_rng (n := n) (fun j H3 => Same H2 H3 ∧ H3 d = some (.lst (nV ((List.range j).filter fun o => (Rd.gL TT o).testBit i)))) ⟨.new hd, upd_same⟩ ?_ ?_
      · rintro j H3 hj ⟨S3, h3⟩
        obtain ⟨q2, hat2, hq2⟩ := reach_at hx (b := j) (by omega)
        have S23 := S2.trans S3
        refine ⟨rfl, _, rfl, _, rfl, _, rfl, a, _, _, _, rfl, rfl, SqT.of (S23 _ _ ha), hat2, q2, _, rfl, .inr (SqT.of (S23 _ _ hq2)), rfl, flat_nats _, _, rfl, ?_⟩
        rw [if_neg Bool.false_ne_true, inV_nat, List.range_succ, List.filter_append]
        have hlen : (nV ((List.range j).filter fun o => (Rd.gL TT o).testBit i)).length < sizeLine := small_line (by
          rw [nV_len]
          have := List.length_filter_le (fun o => (Rd.gL TT o).testBit i) (List.range j)
          rw [List.length_range] at this
          omega)
        refine iteD (fun c => ?_) (fun c => ?_)
        · have c2 := (mem_lotL.mp c).2
          refine ⟨_, rfl, _, h3, hlen, S3.mut hd, ?_⟩
          rw [upd_same, nV_snoc]
          simp [c2]
        · have c2 : (Rd.gL TT j).testBit i = false := Bool.eq_false_iff.mpr fun z => c (mem_lotL.mpr ⟨hi, z⟩)
          refine ⟨S3, ?_⟩
          rw [h3]
          simp [c2]
      · rintro H3 ⟨S3, h3⟩
        have hz3 := S3 _ _ hz
        have hl : (nV ((List.range n).filter fun o => (Rd.gL TT o).testBit i)).length = rkT n TT i := by rw [nV_len]; rfl
        refine ⟨_, rfl, .inl ⟨rfl, _, SqL.of hz3⟩, _, rfl, d, _, rfl, .inl (SqL.of h3), _, rfl, (by show 2 ≤ sizeLine; decide), fun t ht => ?_⟩
        rw [hl]
        have S4 : Same H2 (upd H3 t (.tup [.int (rkT n TT i : Nat), .int (i : Nat)])) := S3.to ht
        have htr : t ≠ r := fun z => by
          rw [z, hz3] at ht
          cases ht
        refine ⟨r, _, _, rfl, rfl, S4 _ _ hz, small_line ?_, ⟨_, _, rfl⟩, (S2.trans S4).mut hr0, _, upd_same, ?_⟩
        · rw [hzs.len, List.length_map, List.length_map, List.length_range]
          omega
        · rw [wo_upd, List.range_succ, List.map_append, List.map_append]
          exact (hzs.to (wo_mono S4)).snoc (dt_row (L := [rkT n TT i, i]) (by rw [wo_ne htr, upd_same]; rfl))
    · rintro σ H2 ⟨⟨v2, v3, rfl⟩, S2, zs, hz, hzs⟩
      have item : ∀ (j : Nat) x, zs[j]? = some x → ∃ t, x = .ref t ∧ j < n ∧ H2 t = some (.tup [.int (rkT n TT j : Nat), .int (j : Nat)]) := fun j x hx' => by
        obtain ⟨t, rr, rfl, hrr, ht⟩ := rows_of hzs hx'
        obtain ⟨b, hb, e⟩ := get_map hrr
        have hjb : j < n ∧ b = j := by
          have h1 := get_lt hb
          rw [List.length_range] at h1
          rw [List.getElem?_range h1] at hb
          exact ⟨h1, (Option.some.inj hb).symm⟩
        obtain ⟨h1, rfl⟩ := hjb
        rw [e] at ht
        exact ⟨t, rfl, h1, wo_same _ _ ht⟩
      have keys : ∀ x ∈ zs, ∃ t, x = .ref t ∧ H2 t = some (.tup [.int (keyP H2 x).1, .int (keyP H2 x).2]) := fun x hx' => by
        obtain ⟨j, hj⟩ := List.mem_iff_getElem?.mp hx'
        obtain ⟨t, rfl, _, ht⟩ := item j x hj
        exact ⟨t, rfl, by rw [keyP_at ht]; exact ht⟩
      have snd : ∀ x ∈ zs, ∃ b : Nat, b < n ∧ keyP H2 x = (((rkT n TT b : Nat) : Int), (b : Int)) := fun x hx' => by
        obtain ⟨j, hj⟩ := List.mem_iff_getElem?.mp hx'
        obtain ⟨t, rfl, h1, ht⟩ := item j x hj
        exact ⟨j, h1, keyP_at ht⟩
      have all : zs.map (fun x => (keyP H2 x).2.toNat) = List.range n := by
        refine List.ext_getElem? fun j => ?_
        rw [List.getElem?_map]
        have hzl : zs.length = n := by rw [hzs.len, List.length_map, List.length_map, List.length_range]
        by_cases c : j < n
        · obtain ⟨t, e, _, ht⟩ := item j zs[j] (List.getElem?_eq_getElem (by omega))
          rw [List.getElem?_eq_getElem (by omega : j < zs.length), List.getElem?_range c, e]
          show some (keyP H2 (.ref t)).2.toNat = some j
          rw [keyP_at ht]
          simp
        · rw [List.getElem?_eq_none (by omega), List.getElem?_eq_none (by simp; omega)]
          rfl
      refine ⟨_, rfl, r, zs, keyP H2, rfl, SqL.of hz, keys, fun ys p hs hb hp => ?_⟩
      have od : OrdT n TT (ys.map fun x => (keyP H2 x).2.toNat) := by
        refine ⟨?_, ?_⟩
        · rw [← all]
          exact hb.perm.map _
        · refine List.pairwise_map.mpr (List.Pairwise.imp_of_mem (fun {x y} hx' hy' h => ?_) hs)
          obtain ⟨b, _, e1⟩ := snd x (hb.perm.mem_iff.mp hx')
          obtain ⟨c, _, e2⟩ := snd y (hb.perm.mem_iff.mp hy')
          have h' : SrtO.lexB (keyP H2 y) (keyP H2 x) = false := h
          rw [e1, e2] at h'
          have := SrtO.lexB_no.mp h'
          rw [e1, e2]
          simp only [Int.toNat_natCast]
          omega
      have S3 : Same H2 (upd H2 p (.lst ys)) := .new hp
      have hp3 : upd H2 p (.lst ys) p = some (.lst ys) := upd_same
      generalize upd H2 p (.lst ys) = H3 at S3 hp3 ⊢
      refine ⟨p, rfl, ⟨_, SqL.of hp3⟩, fun d hd => ?_⟩
      refine lc_list (K := K) (a := p) (xs := ys) (fun j H4 => Same H3 H4 ∧ H4 d = some (.lst (nV ((ys.take j).map fun x => (keyP H2 x).2.toNat)))) ⟨.new hd, upd_same⟩ (fun j H4 _ z => SqL.of (z.1 _ _ hp3)) ?_ ?_
      · rintro j x H4 hxj ⟨S4, h4⟩
        have hxz := hb.perm.mem_iff.mp (List.mem_of_getElem? hxj)
        obtain ⟨t, rfl, ht⟩ := keys x hxz
        obtain ⟨b, hbn, e1⟩ := snd _ hxz
        have hyl : ys.length = n := by rw [hb.perm.length_eq, hzs.len, List.length_map, List.length_map, List.length_range]
        refine ⟨t, _, rfl, SqT.of ((S3.trans S4) _ _ ht), rfl, _, _, rfl, _, _, rfl, rfl, rfl, _, rfl, _, h4, small_line ?_, S4.mut hd, ?_⟩
        · rw [nV_len, List.length_map, List.length_take]
          omega
        · rw [upd_same, take_succ_get hxj, List.map_append, List.map_singleton, ← nV_snoc, e1]
          simp
      · rintro H4 ⟨S4, h4⟩
        rw [List.take_of_length_le (Nat.le_refl _)] at h4
        exact k d H4 _ od ((S2.trans S3).trans S4) (none_of (S2.trans S3) hd) h4
end
end Rw
/-! ## FGrow2 -/
namespace Rw
open PySem PySem.Spec PyProof.Rows L2
abbrev grown_N : List Str := ["held", "log", "lots", "changed", "target", "source", "missing", "number"]
theorem sc_grown : FnScope grown_N ["held", "log"] (defScope s_grown) := ⟨rfl, rfl, rfl, by decide +kernel, rfl, by decide +kernel, by decide +kernel⟩
theorem m_grown : d_grown ∈ fn := List.mem_of_getElem? (i := 15) rfl
theorem lotL_asc (n m : Nat) : ((lotL n m).map fun v => ((v : Nat) : Int)).Pairwise (· ≤ ·) := by
  refine List.pairwise_map.mpr ?_
  have h : (List.range n).Pairwise (· < ·) := List.pairwise_lt_range
  exact (h.filter _).imp fun {a b} q => by omega
theorem lotL_nodup (n m : Nat) : (lotL n m).Nodup := List.nodup_range.filter _
/-- the union of two lots, sorted -/
theorem lotL_join {n a b : Nat} {ns : List Int} (hp : ns.Perm ((lotL n a ++ (lotL n b).filter fun v => !decide (v ∈ lotL n a)).map fun v => ((v : Nat) : Int))) (hs : ns.Pairwise (· ≤ ·)) : ns = (lotL n (a ||| b)).map fun v => ((v : Nat) : Int) := by
  refine List.Perm.eq_of_pairwise (le := (· ≤ ·)) (fun x y _ _ h1 h2 => Int.le_antisymm h1 h2) hs (lotL_asc _ _) (hp.trans (List.Perm.map _ ?_))
  refine (List.perm_ext_iff_of_nodup ?_ (lotL_nodup _ _)).mpr fun v => ?_
  · refine List.nodup_append.mpr ⟨lotL_nodup _ _, (lotL_nodup _ _).filter _, fun x hx y hy e => ?_⟩
    have := (List.mem_filter.mp hy).2
    rw [← e] at this
    simp [hx] at this
  · constructor
    · intro h
      rcases List.mem_append.mp h with h | h
      · obtain ⟨h1, h2⟩ := mem_lotL.mp h
        exact mem_lotL.mpr ⟨h1, by rw [Nat.testBit_or, h2, Bool.true_or]⟩
      · obtain ⟨h1, h2⟩ := mem_lotL.mp (List.mem_filter.mp h).1
        exact mem_lotL.mpr ⟨h1, by rw [Nat.testBit_or, h2, Bool.or_true]⟩
    · intro h
      obtain ⟨h1, h2⟩ := mem_lotL.mp h
      rw [Nat.testBit_or] at h2
      by_cases c : a.testBit v = true
      · exact List.mem_append_left _ (mem_lotL.mpr ⟨h1, c⟩)
      · refine List.mem_append_right _ (List.mem_filter.mpr ⟨mem_lotL.mpr ⟨h1, by simpa [c] using h2⟩, ?_⟩)
        have : v ∉ lotL n a := fun z => c (mem_lotL.mp z).2
        simp [this]
theorem nV_ints (L : List Nat) : nV L = (L.map fun v => ((v : Nat) : Int)).map V.int := by
  rw [nV, List.map_map]
  rfl
def lotsD (n : Nat) (L : List Nat) : List PyData := (L.map (lotL n)).map rowD
theorem lots_at {H : Hp} {n : Nat} {L : List Nat} {xs : List V} {b : Nat} (d : DtAll H xs (lotsD n L)) (h : b < L.length) : ∃ a, atI xs (b : Int) = some (.ref a) ∧ H a = some (.tup (nV (lotL n (Rd.gL L b)))) := by
  obtain ⟨v, h1, h2⟩ := d.get (i := b) (d := rowD (lotL n (Rd.gL L b))) (by rw [lotsD, List.getElem?_map, List.getElem?_map, List.getElem?_eq_getElem h, Rd.gL_eq h]; rfl)
  obtain ⟨a, rfl, h3⟩ := row_inv h2
  exact ⟨a, atI_nat h1, h3⟩
theorem lots_set {H : Hp} {n : Nat} {L : List Nat} {xs : List V} {b m : Nat} {v : V} (d : DtAll H xs (lotsD n L)) (h : Dt H v (rowD (lotL n m))) : DtAll H (xs.set b v) (lotsD n (L.set b m)) := by
  have e : lotsD n (L.set b m) = (lotsD n L).set b (rowD (lotL n m)) := by simp [lotsD, List.map_set]
  rw [e]
  exact d.set b h
/-- what is missing -/
def missL (n a b : Nat) : List Nat := (lotL n b).filter fun v => !decide (v ∈ lotL n a)
theorem miss_none {n : Nat} {L : List Nat} {l : Lk} (g : Rd.Good n L) (h : missL n (Rd.gL L l.1) (Rd.gL L l.2) = []) : Rd.join1 L l = L := by
  refine join1_same ?_
  refine Nat.eq_of_testBit_eq fun v => ?_
  rw [Nat.testBit_or]
  cases c : (Rd.gL L l.2).testBit v with
  | false => rw [Bool.or_false]
  | true =>
    have hv : v < n := g.low l.2 v c
    have q := List.filter_eq_nil_iff.mp h v (mem_lotL.mpr ⟨hv, c⟩)
    have q2 : v ∈ lotL n (Rd.gL L l.1) := by simpa using q
    rw [(mem_lotL.mp q2).2]
    rfl
theorem miss_some {n : Nat} {L : List Nat} {l : Lk} (h1 : l.1 < L.length) (h : missL n (Rd.gL L l.1) (Rd.gL L l.2) ≠ []) : ∃ v, Rd.bit (Rd.join1 L l) l.1 v = true ∧ Rd.bit L l.1 v = false := by
  cases e : missL n (Rd.gL L l.1) (Rd.gL L l.2) with
  | nil => exact absurd e h
  | cons v r =>
    have hv : v ∈ missL n (Rd.gL L l.1) (Rd.gL L l.2) := by rw [e]; exact List.mem_cons_self
    obtain ⟨h2, h3⟩ := List.mem_filter.mp hv
    obtain ⟨h4, h5⟩ := mem_lotL.mp h2
    refine ⟨v, ?_, ?_⟩
    · rw [Rd.bit_join1 h1]
      have : Rd.bit L l.2 v = true := h5
      rw [this]
      simp
    · have h6 : v ∉ lotL n (Rd.gL L l.1) := by simpa using h3
      exact Bool.eq_false_iff.mpr fun z => h6 (mem_lotL.mpr ⟨h4, z⟩)
def spGrown2 : Sp := fun vs H Q _ => ∃ (vh vl : V) (n : Nat) (ls : List Lk) (L : List Nat), vs = [vh, vl] ∧ n ≤ 100 ∧ Rd.Okl n ls ∧ Rd.Good n L ∧ Dt H vh (.list (lotsD n L)) ∧ Dt H vl (lksD ls) ∧
  ∀ r H' zs, Same H H' → H r = none → H' r = some (.lst zs) → DtAll (wo H' r) zs (lotsD n (Rd.clo n ls L)) → Q (.ref r) H'
section
variable {P : Program} {w : World} {K : PySem.W.Frag} {mg : Str → Option Value} {base : Heap}
theorem ok_grown2 (T : Txt K mg) : Okd P w K mg base CX0 1 "_grown" ["held", "log"] spGrown2 := by
  refine okd0 (st := s_grown) T m_grown sc_grown (fun vs H Q E h => ?_) (fun _ _ _ _ _ _ us hl => match us, hl with | [_, _], _ => rfl) (fun f cdv A outer s H vs Q E hr h => ⟨_, (pss_cons (ps_set (i := 2) sc_grown.nd rfl (Or.inr rfl) (pe_callTy call_list_of (by rfl) T.b_list (by decide +kernel) (pa_cons (pv 0) pa_nil)))
  (pss_cons (ps_set (i := 3) sc_grown.nd rfl (Or.inl rfl) pe_bl)
  (pss_cons (ps_while PassesOwn.never (pt_val (pv 3))
    (pss_cons (ps_set (i := 3) sc_grown.nd rfl (Or.inl rfl) pe_bl)
    (pss_one (ps_for PassesOwn.never rfl (pi_list (pv 1)) (pg_tup rfl (pgs_cons (pg_name (i := 4) sc_grown.nd rfl (Or.inr rfl)) (pgs_cons (pg_name (i := 5) sc_grown.nd rfl (Or.inl rfl)) pgs_nil)))
      (pss_cons (ps_setLc (i := 6) (own := [("number", 7)]) (g := (gName 7)) rfl sc_grown.nd rfl rfl (sw_true rfl rfl rfl (by decide +kernel)) (pi_tup (pe_ix ix_list (pv 2) (pv 5) (fun _ _ => rfl))) (blkOk_by (N := grown_N) (sc := defScope s_grown) (by decide +kernel)) (fun _ _ _ _ _ => (pg_name (i := 7) sc_grown.nd rfl (Or.inl rfl))) (fun _ _ _ _ _ => (pts_one (pt_cmpR (r := rIn K true) op_notIn_seq (pv 7) (pe_ix (r := rIxL K) ix_list (pv 2) (pv 4) (fun _ _ => rfl)) (by rfl)))) (fun _ _ _ _ _ => (pv 7)))
      (pss_one (ps_if (pt_truth (pv 6) (by intro _; rfl))
        (pss_cons (ps_asg (pe_callTy call_tuple_of (by rfl) T.b_tuple (by decide +kernel) (pa_cons (pe_callB cr_sortedTup (by rfl) T.b_sorted (by decide +kernel) (pa_cons (pe_op op_catA (pe_ix ix_list (pv 2) (pv 4) (fun _ _ => rfl)) (pe_callTy call_tuple_of (by rfl) T.b_tuple (by decide +kernel) (pa_cons (pv 6) pa_nil))) pa_nil)) pa_nil)) (pg_sub (pv 2) (pv 4) set_list))
        (pss_one (ps_set (i := 3) sc_grown.nd rfl (Or.inl rfl) pe_bl)))
        pss_nil)))))))
  (pss_one (ps_ret (pv 2)))))), ?_⟩)
  · obtain ⟨vh, vl, n, ls, L, rfl, _⟩ := h
    rfl
  · obtain ⟨vh, vl, n, ls, L, rfl, hn, ho, g, hh, hv, k⟩ := h
    obtain ⟨a, xs, rfl, ha, hxl, hx⟩ := lks_inv hv
    obtain ⟨b, hs, rfl, hb, hhs⟩ := hh.list_inv
    have hgl : L.length = n := g.len
    refine ⟨_, rfl, b, _, rfl, .inl (SqL.of hb), fun r hr0 => ?_⟩
    have W0 : DtAll (wo (upd H r (.lst hs)) r) hs (lotsD n L) := hhs.to (same_wo (Same.new hr0) hr0)
    refine ⟨fun m σ H1 => ∃ (c : Bool) (v4 v5 v6 : Option V) (kk : Nat), σ = [some (.ref b), some (.ref a), some (.ref r), some (.bl c), v4, v5, v6, none] ∧ Same H H1 ∧ (∃ zs, H1 r = some (.lst zs) ∧ DtAll (wo H1 r) zs (lotsD n (Rd.it ls kk L))) ∧ kk + m = n + 1 ∧ (c = false → Rd.it ls kk L = Rd.clo n ls L) ∧ (c = true → 0 < m), ⟨n + 1, true, _, _, _, 0, rfl, .new hr0, ⟨hs, upd_same, W0⟩, by omega, (fun z => nomatch z), fun _ => by omega⟩, ?_⟩
    rintro m σ H1 ⟨c, v4, v5, v6, kk, rfl, S1, ⟨zs, hz, hzs⟩, hm, hc, hc'⟩
    refine ⟨_, rfl, c, rfl, ?_⟩
    refine iteB (fun c1 => ?_) (fun c1 => ?_)
    · have hm0 := hc' c1
      have gk : Rd.Good n (Rd.it ls kk L) := Rd.Good.it ho g kk
      refine ⟨fun σ' H' => ∃ (c : Bool) (v4 v5 v6 : Option V), σ' = [some (.ref b), some (.ref a), some (.ref r), some (.bl c), v4, v5, v6, none] ∧ Same H H' ∧ (∃ zs, H' r = some (.lst zs) ∧ DtAll (wo H' r) zs (lotsD n (Rd.it ls (kk + 1) L))) ∧ (c = false → Rd.it ls (kk + 1) L = Rd.clo n ls L) ∧ (c = true → kk < n), ?_, ?_⟩
      · rintro σ' H' ⟨c, v4, v5, v6, rfl, S', hzz, h1, h2⟩
        exact ⟨m - 1, by omega, c, v4, v5, v6, kk + 1, rfl, S', hzz, by omega, h1, fun z => by have := h2 z; omega⟩
      · refine ⟨_, rfl, a, rfl, ⟨_, SqL.of (S1 _ _ ha)⟩, for_list (K := K) (a := a) (xs := xs) (fun j σ H2 => ∃ (c : Bool) (v4 v5 v6 : Option V), σ = [some (.ref b), some (.ref a), some (.ref r), some (.bl c), v4, v5, v6, none] ∧ Same H H2 ∧ (∃ zs, H2 r = some (.lst zs) ∧ DtAll (wo H2 r) zs (lotsD n (Rd.pass (ls.take j) (Rd.it ls kk L)))) ∧ (c = false → Rd.pass (ls.take j) (Rd.it ls kk L) = Rd.it ls kk L) ∧ (c = true → ∃ t v, Rd.bit (Rd.pass (ls.take j) (Rd.it ls kk L)) t v = true ∧ Rd.bit (Rd.it ls kk L) t v = false)) ⟨false, _, _, _, rfl, S1, ⟨zs, hz, hzs⟩, fun _ => rfl, fun z => nomatch z⟩ ?_ ?_ ?_⟩
        · rintro j σ H2 _ ⟨_, _, _, _, _, S2, _⟩
          exact SqL.of (S2 _ _ ha)
        · rintro j x σ H2 hxj ⟨c, v4, v5, v6, rfl, S2, ⟨zs, hz, hzs⟩, h1, h2⟩
          obtain ⟨q, l, rfl, hlj, hq⟩ := hx j x hxj
          obtain ⟨o1, o2, o3⟩ := ho l (List.mem_of_getElem? hlj)
          have gp : Rd.Good n (Rd.pass (ls.take j) (Rd.it ls kk L)) := Rd.Good.pass (ho.take j) gk
          have lep : Rd.Le (Rd.it ls kk L) (Rd.pass (ls.take j) (Rd.it ls kk L)) := Rd.le_pass (ho.take j) gk.len
          rw [pass_take hlj]
          generalize Rd.pass (ls.take j) (Rd.it ls kk L) = M at hzs h1 h2 gp lep ⊢
          have hMl := gp.len
          obtain ⟨q1, hat1, hq1⟩ := lots_at hzs (b := l.1) (by omega)
          obtain ⟨q2, hat2, hq2⟩ := lots_at hzs (b := l.2) (by omega)
          have hq1' := wo_same _ _ hq1
          have hq2' := wo_same _ _ hq2
          refine ⟨q, _, rfl, SqT.of (S2 _ _ hq), rfl, _, _, rfl, _, _, rfl, rfl, ?_⟩
          refine ⟨_, rfl, _, rfl, r, _, _, _, rfl, rfl, SqL.of hz, hat2, q2, rfl, ⟨_, SqT.of hq2'⟩, fun d hd => ?_⟩
          refine lc_tup (K := K) (a := q2) (xs := nV (lotL n (Rd.gL M l.2))) (fun i H3 => Same H2 H3 ∧ H3 d = some (.lst (nV (((lotL n (Rd.gL M l.2)).take i).filter fun v => !decide (v ∈ lotL n (Rd.gL M l.1)))))) ⟨.new hd, upd_same⟩ (fun i H3 _ z => SqT.of (z.1 _ _ hq2')) ?_ ?_
          · rintro i x H3 hxi ⟨S3, h3⟩
            obtain ⟨v, hv', rfl⟩ := get_map hxi
            rw [filter_take_succ hv']
            refine ⟨rfl, _, rfl, _, rfl, _, rfl, r, _, _, _, rfl, rfl, SqL.of (S3 _ _ hz), hat1, q1, _, rfl, .inr (SqT.of (S3 _ _ hq1')), rfl, flat_nats _, _, rfl, ?_⟩
            rw [if_pos rfl, inV_nat]
            refine iteB (fun c2 => ?_) (fun c2 => ?_)
            · rw [if_pos c2]
              refine ⟨_, rfl, _, h3, small_line ?_, S3.mut hd, ?_⟩
              · rw [nV_len]
                have a1 := List.length_filter_le (fun v => !decide (v ∈ lotL n (Rd.gL M l.1))) ((lotL n (Rd.gL M l.2)).take i)
                have a2 := lotL_len n (Rd.gL M l.2)
                rw [List.length_take] at a1
                omega
              · rw [upd_same, nV_snoc]
            · rw [if_neg (by rw [c2]; exact Bool.false_ne_true), List.append_nil]
              exact ⟨S3, h3⟩
          · rintro H3 ⟨S3, h3⟩
            rw [nV_len, List.take_of_length_le (Nat.le_refl _)] at h3
            have h3' : H3 d = some (.lst (nV (missL n (Rd.gL M l.1) (Rd.gL M l.2)))) := h3
            have hz3 := S3 _ _ hz
            have S23 := S2.trans S3
            have hzs3 := hzs.to (wo_mono S3)
            refine ⟨_, rfl, _, .inl ⟨_, SqL.of h3', rfl⟩, ?_⟩
            by_cases e : missL n (Rd.gL M l.1) (Rd.gL M l.2) = []
            · rw [e]
              refine iteF ⟨c, _, _, _, rfl, S23, ⟨zs, hz3, ?_⟩, fun z => ?_, fun z => ?_⟩
              · rw [miss_none gp e]
                exact hzs3
              · rw [miss_none gp e]
                exact h1 z
              · rw [miss_none gp e]
                exact h2 z
            · have e2 : (!(nV (missL n (Rd.gL M l.1) (Rd.gL M l.2))).isEmpty) = true := by
                cases hm' : missL n (Rd.gL M l.1) (Rd.gL M l.2) with
                | nil => exact absurd hm' e
                | cons _ _ => rfl
              rw [e2]
              refine iteT ?_
              refine ⟨_, rfl, _, rfl, r, _, _, _, rfl, rfl, SqL.of hz3, hat1, _, rfl, d, _, rfl, .inl ⟨SqL.of h3', fun t2 ht2 => ?_⟩⟩
              have S4 : Same H3 (upd H3 t2 (.tup (nV (missL n (Rd.gL M l.1) (Rd.gL M l.2))))) := .new ht2
              have ht4 : upd H3 t2 (.tup (nV (missL n (Rd.gL M l.1) (Rd.gL M l.2)))) t2 = some (.tup (nV (missL n (Rd.gL M l.1) (Rd.gL M l.2)))) := upd_same
              have mlen : (missL n (Rd.gL M l.1) (Rd.gL M l.2)).length ≤ n := Nat.le_trans (List.length_filter_le _ _) (lotL_len _ _)
              refine catA_any ((S3.trans S4) _ _ hq1') ht4 (small_le (by rw [nV_len, nV_len]; have := lotL_len n (Rd.gL M l.1); omega)) fun r3 H5 S5 hr3 => ?_
              rw [nV_append] at hr3
              have e3 : nV (lotL n (Rd.gL M l.1) ++ missL n (Rd.gL M l.1) (Rd.gL M l.2)) = ((lotL n (Rd.gL M l.1) ++ missL n (Rd.gL M l.1) (Rd.gL M l.2)).map fun v => ((v : Nat) : Int)).map V.int := nV_ints _
              rw [e3] at hr3
              refine ⟨r3, _, rfl, SqT.of hr3, fun ns p pm pw hp => ?_⟩
              have ens := lotL_join pm pw
              refine ⟨p, _, rfl, .inl ⟨SqL.of upd_same, fun t3 ht3 => ?_⟩⟩
              have S6 : Same H5 (upd (upd H5 p (.lst (ns.map V.int))) t3 (.tup (ns.map V.int))) := (Same.new hp).to ht3
              have S36 := (S4.trans S5).trans S6
              have hz6 := S36 _ _ hz3
              have ht6 : upd (upd H5 p (.lst (ns.map V.int))) t3 (.tup (ns.map V.int)) t3 = some (.tup (nV (lotL n (Rd.gL M l.1 ||| Rd.gL M l.2)))) := by
                rw [upd_same, ens, nV_ints]
              generalize upd (upd H5 p (.lst (ns.map V.int))) t3 (.tup (ns.map V.int)) = H6 at S6 S36 hz6 ht6 ⊢
              have htr : t3 ≠ r := fun z => by
                rw [z, hz6] at ht6
                cases ht6
              have hzl : zs.length = n := by rw [hzs.len, lotsD, List.length_map, List.length_map, hMl]
              refine ⟨_, rfl, _, rfl, r, _, _, l.1, rfl, rfl, hz6, ix_nat (by omega), ?_⟩
              obtain ⟨v, b1, b2⟩ := miss_some (l := l) (by omega) e
              refine ⟨true, _, _, _, rfl, (S23.trans S36).mut hr0, ⟨_, upd_same, ?_⟩, (fun z => nomatch z), fun _ => ⟨l.1, v, b1, Bool.eq_false_iff.mpr fun z => ?_⟩⟩
              · rw [wo_upd]
                exact lots_set (hzs3.to (wo_mono S36)) (dt_row (by rw [wo_ne htr]; exact ht6))
              · rw [lep _ _ z] at b2
                cases b2
        · rintro σ H2 ⟨c, v4, v5, v6, rfl, S2, hzz, h1, h2⟩
          rw [hxl, List.take_of_length_le (Nat.le_refl _)] at hzz h1 h2
          refine ⟨c, v4, v5, v6, rfl, S2, hzz, fun z => ?_, fun z => ?_⟩
          · have st := h1 z
            show Rd.pass ls (Rd.it ls kk L) = _
            rw [st]
            exact Rd.clo_of_still ho hgl st
          · obtain ⟨t, v, a1, a2⟩ := h2 z
            exact Rd.moved_lt ho hgl fun st => by rw [st, a2] at a1; cases a1
    · rw [hc c1] at hzs
      exact ⟨_, rfl, k r H1 zs S1 hr0 hz hzs⟩
end
end Rw
/-! ## FLots -/
namespace Rw
open PySem PySem.Spec PyProof.Rows L2
abbrev late_lots_N : List Str := ["script", "blocks", "log", "held", "at", "target", "source", "block"]
theorem sc_late_lots : FnScope late_lots_N ["script", "blocks"] (defScope s_late_lots) := ⟨rfl, rfl, rfl, by decide +kernel, rfl, by decide +kernel, by decide +kernel⟩
theorem m_late_lots : d_late_lots ∈ fn := List.mem_of_getElem? (i := 16) rfl
theorem out_good {n : Nat} {sc : Scr} {ls : List Lk} (h : sc.out n = .good ls) : ls.length ≤ 60 ∧ Rd.Okl n ls ∧ sc.toD = logD ls := by
  cases ef : sc.fault n with
  | some i => rw [Scr.out, ef] at h; cases h
  | none =>
    rw [Scr.out, ef] at h
    cases sc with
    | non => cases ef
    | tup ls' => cases ef
    | lst ls' =>
      have h' : (match firstBad LnX.plain ls' with | some i => Out.bad true ((i : Nat) : Int) | none => Out.good (ls'.map LnX.lk)) = Out.good ls := h
      cases eb : firstBad LnX.plain ls' with
      | some i => rw [eb] at h'; cases h'
      | none =>
        rw [eb] at h'
        have e : ls'.map LnX.lk = ls := by injection h'
        subst e
        by_cases c : 60 < ls'.length
        · rw [Scr.fault, if_pos c] at ef
          cases ef
        · rw [Scr.fault, if_neg c] at ef
          have hall : firstBad (LnX.ok n) ls' = none := by
            cases z : firstBad (LnX.ok n) ls' with
            | none => rfl
            | some j => rw [z] at ef; cases ef
          have h1 := first_none hall
          have h2 := first_none eb
          refine ⟨by rw [List.length_map]; omega, fun l hl => ?_, ?_⟩
          · obtain ⟨x, hx, rfl⟩ := List.mem_map.mp hl
            exact (ok_plain (h1 x hx) (h2 x hx)).2
          · rw [Scr.toD, logD, List.map_map]
            congr 1
            refine List.map_congr_left fun x hx => ?_
            have e := (ok_plain (h1 x hx) (h2 x hx)).1
            show x.toD = lnD x.lk
            rw [e, plain_toD]
            rfl
/-- what is passed to the defs of the program -/
structure Passed (H : Hp) (v : V) (n : Nat) (sc : Scr) : Prop where
  n1 : 1 ≤ n
  n2 : n ≤ 12
  dt : Dt H v sc.toD
  small : ∀ x ∈ sc.lines, x.small
  few : sc.lines.length ≤ 1000
theorem Passed.to {H H' : Hp} {v : V} {n : Nat} {sc : Scr} (p : Passed H v n sc) (S : Same H H') : Passed H' v n sc := ⟨p.n1, p.n2, p.dt.to S, p.small, p.few⟩
theorem Passed.good {H : Hp} {v : V} {n : Nat} {sc : Scr} {ls : List Lk} (p : Passed H v n sc) (h : sc.out n = .good ls) : GoodLog H v n ls := by
  obtain ⟨h1, h2, h3⟩ := out_good h
  exact ⟨p.n1, p.n2, h1, h2, by rw [← h3]; exact p.dt⟩
theorem GoodLog.passed {H : Hp} {v : V} {n : Nat} {ls : List Lk} (g : GoodLog H v n ls) : ∃ sc, Passed H v n sc ∧ sc.out n = .good ls := by
  obtain ⟨sc, h1, h2, h3, h4, h5, h6⟩ := g.sc
  exact ⟨sc, ⟨h1, h2, h3, h4, h5⟩, h6⟩
def spLots (K : PySem.W.Frag) : Sp := fun vs H Q E => ∃ (v : V) (n : Nat) (sc : Scr), vs = [v, .int (n : Int)] ∧ Passed H v n sc ∧
  (match sc.out n with
    | .good ls => ∀ r H', Same H H' → Dt H' (.ref r) (.tuple (lotsD n (Rd.late n ls))) → Q (.ref r) H'
    | .bad pl i => Raised K pl i H E)
theorem lotL_pow {n b : Nat} (h : b < n) : lotL n (2 ^ b) = [b] := by
  refine List.Perm.eq_of_pairwise (le := (· ≤ ·)) (fun x y _ _ h1 h2 => Nat.le_antisymm h1 h2) ?_ (by simp) ?_
  · have q : (List.range n).Pairwise (· < ·) := List.pairwise_lt_range
    exact (q.filter _).imp fun {a b} z => Nat.le_of_lt z
  · refine (List.perm_ext_iff_of_nodup (lotL_nodup _ _) (by simp)).mpr fun v => ?_
    rw [mem_lotL, Nat.testBit_two_pow, List.mem_singleton]
    constructor
    · rintro ⟨_, h2⟩
      have := of_decide_eq_true h2
      omega
    · rintro rfl
      exact ⟨h, by simp⟩
section
variable {P : Program} {w : World} {K : PySem.W.Frag} {mg : Str → Option Value} {base : Heap}
theorem ok_lots (T : Txt K mg) (TE : Errs P K mg) : Okd P w K mg base (L2.CX P w) 6 "late_lots" ["script", "blocks"] (spLots K) := by
  have c_check_log : Okd P w K mg base (L2.CX P w) 5 "check_log" ["script", "blocks"] (spLog K) := ok_log T TE
  have c_grown : Okd P w K mg base CX0 1 "_grown" ["held", "log"] spGrown2 := ok_grown2 T
  refine okd_mk (st := s_late_lots) T m_late_lots sc_late_lots (fun vs H Q E h => ?_) (fun _ _ _ _ _ _ us hl => match us, hl with | [_, _], _ => rfl) (fun f cdv A outer s H vs Q E hr h => ⟨_, (pss_cons (ps_set (i := 2) sc_late_lots.nd rfl (Or.inl rfl) (pe_cdX c_check_log hr (by decide) rfl (takes_of rfl rfl rfl rfl) (pa_cons (pv 0) (pa_cons (pv 1) pa_nil))))
  (pss_cons (ps_setLc (i := 3) (own := [("block", 7)]) (g := (gName 7)) (tt := tYes) rfl sc_late_lots.nd rfl rfl (sw_true rfl rfl rfl (by decide +kernel)) (pi_range1 (by rfl) T.b_range (pa_cons (pv 1) pa_nil)) (blkOk_by (N := late_lots_N) (sc := defScope s_late_lots) (by decide +kernel)) (fun _ _ _ _ _ => (pg_name (i := 7) sc_late_lots.nd rfl (Or.inl rfl))) (fun _ _ _ _ _ => pts_nil) (fun _ _ _ _ _ => (pe_tup (pa_cons (pv 7) pa_nil))))
  (pss_cons (ps_for (passes_of rfl) rfl (pi_enum (by rfl) T.b_enumerate (pa_cons (pv 2) pa_nil)) (pg_tup rfl (pgs_cons (pg_name (i := 4) sc_late_lots.nd rfl (Or.inl rfl)) (pgs_cons (pg_tup rfl (pgs_cons (pg_name (i := 5) sc_late_lots.nd rfl (Or.inl rfl)) (pgs_cons (pg_name (i := 6) sc_late_lots.nd rfl (Or.inl rfl)) pgs_nil))) pgs_nil)))
    (pss_cons (ps_asg (pe_ix ix_list (pv 3) (pv 6) (fun _ _ => rfl)) (pg_sub (pv 3) (pv 5) set_list))
    (pss_one (ps_set (i := 3) sc_late_lots.nd rfl (Or.inl rfl) (pe_cd c_grown hr (by decide) rfl (pa_cons (pv 3) (pa_cons (pe_slice sl_list (pv 2) po_none (po_some (pe_op op_add (pv 4) pe_int))) pa_nil)))))))
  (pss_one (ps_ret (pe_callTy call_tuple_of (by rfl) T.b_tuple (by decide +kernel) (pa_cons (pv 3) pa_nil))))))), ?_⟩)
  · obtain ⟨v, n, sc, rfl, _⟩ := h
    rfl
  · obtain ⟨v, n, sc, rfl, ps, k⟩ := h
    refine ⟨_, rfl, _, rfl, v, n, sc, rfl, ps.n1, ps.n2, ps.dt, ps.small, ps.few, ?_⟩
    cases eo : sc.out n with
    | bad pl i =>
      rw [eo] at k
      exact k
    | good ls =>
      rw [eo] at k
      obtain ⟨h60, ho, _⟩ := out_good eo
      have hn12 := ps.n2
      intro r0 H1 S1 d1
      obtain ⟨a, xs, e, ha, hxl, hdx, hx⟩ := lks_dt d1
      cases e
      refine ⟨_, rfl, n, rfl, by omega, by omega, fun q0 hq0 => ?_⟩
      have Hq0 := none_of S1 hq0
      refine lc_rng (n := n) (fun i H2 => Same H1 H2 ∧ ∃ zs, H2 q0 = some (.lst zs) ∧ DtAll (wo H2 q0) zs (((List.range i).map fun b => [b]).map rowD)) ⟨.new hq0, [], upd_same, .nil⟩ ?_ ?_
      · rintro i H2 hi ⟨S2, zs, hz, hzs⟩
        refine ⟨rfl, _, rfl, (by show 1 ≤ sizeLine; decide), fun t ht => ?_⟩
        have S3 : Same H2 (upd H2 t (.tup [.int (i : Nat)])) := .new ht
        have htq : t ≠ q0 := fun z => by rw [z, hz] at ht; cases ht
        refine ⟨zs, S3 _ _ hz, small_line ?_, (S2.trans S3).mut hq0, _, upd_same, ?_⟩
        · rw [hzs.len, List.length_map, List.length_map, List.length_range]
          omega
        · rw [wo_upd, List.range_succ, List.map_append, List.map_append]
          exact (hzs.to (wo_mono S3)).snoc (dt_row (L := [i]) (by rw [wo_ne htq, upd_same]; rfl))
      · rintro H2 ⟨S2, zs, hz, hzs⟩
        have e0 : (((List.range n).map fun b => [b]).map rowD) = lotsD n (Rd.lateF n ls 0) := by
          show _ = ((Rd.home n).map (lotL n)).map rowD
          have e1 : (Rd.home n).map (lotL n) = (List.range n).map fun b => [b] := by
            rw [Rd.home, List.map_map]
            exact List.map_congr_left fun b hb => lotL_pow (List.mem_range.mp hb)
          rw [e1]
        rw [e0] at hzs
        have S12 := S1.trans S2
        refine ⟨_, rfl, r0, _, rfl, SqL.of (S2 _ _ ha), for_enumL (K := K) (a := r0) (xs := xs) (fun i σ H3 => i ≤ ls.length ∧ Same H1 H3 ∧ ∃ q v4 v5 v6, σ = [some v, some (.int n), some (.ref r0), some (.ref q), v4, v5, v6, none] ∧ H1 q = none ∧ ∃ zs, H3 q = some (.lst zs) ∧ DtAll (wo H3 q) zs (lotsD n (Rd.lateF n ls i))) ⟨Nat.zero_le _, S2, q0, _, _, _, rfl, hq0, zs, hz, hzs⟩ (fun i σ H3 z => SqL.of (z.2.1 _ _ ha)) ?_ ?_⟩
        · rintro i x T' σ H3 hxi ⟨hi, S3, q, v4, v5, v6, rfl, hq1, zs, hz, hzs⟩ hT
          obtain ⟨p, l, rfl, hl, hp⟩ := hx i x hxi
          have hil := get_lt hl
          obtain ⟨o1, o2, o3⟩ := ho l (List.mem_of_getElem? hl)
          have S4 : Same H3 (upd H3 T' (.tup [.int (i : Nat), .ref p])) := .new hT
          have hp4 := (S3.trans S4) _ _ hp
          have hz4 := S4 _ _ hz
          have hzs4 := hzs.to (wo_mono S4)
          have S34 := S3.trans S4
          have hT4 : upd H3 T' (.tup [.int (i : Nat), .ref p]) T' = some (.tup [.int (i : Nat), .ref p]) := upd_same
          generalize upd H3 T' (.tup [.int (i : Nat), .ref p]) = H4 at S4 hp4 hz4 hzs4 S34 hT4 ⊢
          have gl := Rd.Good.lateF ho i hi
          have hLl := gl.len
          obtain ⟨q2, hat2, hq2⟩ := lots_at hzs4 (b := l.2) (by omega)
          have hzl : zs.length = n := by rw [hzs4.len, lotsD, List.length_map, List.length_map, hLl]
          refine ⟨T', _, rfl, SqT.of hT4, rfl, _, _, rfl, _, _, rfl, p, _, rfl, SqT.of hp4, rfl, _, _, rfl, _, _, rfl, rfl, rfl, ?_⟩
          refine ⟨_, rfl, _, rfl, q, _, _, _, rfl, rfl, SqL.of hz4, hat2, _, rfl, _, rfl, q, _, _, l.1, rfl, rfl, hz4, ix_nat (by omega), ?_⟩
          have S5 : Same H1 (upd H4 q (.lst (zs.set l.1 (.ref q2)))) := S34.mut hq1
          have d5 : DtAll (wo (upd H4 q (.lst (zs.set l.1 (.ref q2)))) q) (zs.set l.1 (.ref q2)) (lotsD n ((Rd.lateF n ls i).set l.1 (Rd.gL (Rd.lateF n ls i) l.2))) := by
            rw [wo_upd]
            exact lots_set hzs4 (dt_row hq2)
          have hq5 : upd H4 q (.lst (zs.set l.1 (.ref q2))) q = some (.lst (zs.set l.1 (.ref q2))) := upd_same
          generalize upd H4 q (.lst (zs.set l.1 (.ref q2))) = H5 at S5 d5 hq5 ⊢
          have ek : ((i : Int) + 1) = ((i + 1 : Nat) : Int) := by omega
          refine ⟨_, rfl, _, rfl, _, rfl, _, _, rfl, rfl, _, rfl, r0, _, rfl, SqL.of (S5 _ _ ha), fun z hz0 => ?_⟩
          rw [ek, cut_take]
          have S6 : Same H5 (upd H5 z (.lst (xs.take (i + 1)))) := .new hz0
          refine ⟨.ref q, .ref z, n, ls.take (i + 1), _, rfl, by omega, ho.take _, gl.set o1 o2, .lst (S6 _ _ hq5) ((d5.to wo_same).to S6), ?_, fun r' H7 zs' S7 hr' hz7 d7 => ?_⟩
          · refine .lst upd_same ?_
            rw [List.map_take]
            exact (hdx.take (i + 1)).to (S5.trans S6)
          · have el : ls.getD i (0, 0) = l := by rw [List.getD_eq_getElem?_getD, hl]; rfl
            refine ⟨hil, (S5.trans S6).trans S7, r', _, _, _, rfl, none_of (S5.trans S6) hr', zs', hz7, ?_⟩
            rw [Rd.lateF, el]
            exact d7
        · rintro σ H3 ⟨hi, S3, q, v4, v5, v6, rfl, hq1, zs, hz, hzs⟩
          rw [hxl] at hzs
          refine ⟨_, rfl, q, _, rfl, .inl ⟨SqL.of hz, fun t ht => ?_⟩⟩
          exact k t _ ((S1.trans S3).to ht) (.tup upd_same (hzs.to (wo_same.trans (Same.new ht))))
end
end Rw
/-! ## FTake -/
namespace Rw
open PySem PySem.Spec PyProof.Rows L2
/-! ### the purse: what the law draws its numbers from -/
structure Purse (p g : Addr) (H0 H : Hp) : Prop where
  same : Same H0 H
  np : H0 p = none
  ng : H0 g = none
  ne : p ≠ g
  ex : ∃ (ns : List Int) (a c d : Int), H p = some (.lst [.ref g, .int a, .int c, .int d]) ∧ H g = some (.lst (ns.map V.int)) ∧ (∀ x ∈ ns, 0 ≤ x) ∧ 0 ≤ a ∧ 0 ≤ d ∧ d < 2147483647
theorem Purse.new {p g q : Addr} {H0 H : Hp} {o : HO} (P : Purse p g H0 H) (h : H q = none) : Purse p g (upd H0 q o) (upd H q o) := by
  obtain ⟨ns, a, c, d, h1, h2, h3⟩ := P.ex
  have e1 : p ≠ q := ne_of_none h1 h
  have e2 : g ≠ q := ne_of_none h2 h
  refine ⟨fun b u e => ?_, by rw [upd_ne e1]; exact P.np, by rw [upd_ne e2]; exact P.ng, P.ne, ns, a, c, d, by rw [upd_ne e1]; exact h1, by rw [upd_ne e2]; exact h2, h3⟩
  by_cases c : b = q
  · rw [c, upd_same] at e ⊢
    exact e
  · rw [upd_ne c] at e ⊢
    exact P.same _ _ e
theorem Purse.put {p g q : Addr} {H0 H : Hp} {o o' : HO} (P : Purse p g H0 H) (h : H0 q = some o') : Purse p g (upd H0 q o) (upd H q o) := by
  obtain ⟨ns, a, c, d, h1, h2, h3⟩ := P.ex
  have e1 : p ≠ q := fun z => by have n := P.np; rw [z, h] at n; cases n
  have e2 : g ≠ q := fun z => by have n := P.ng; rw [z, h] at n; cases n
  refine ⟨fun b u e => ?_, by rw [upd_ne e1]; exact P.np, by rw [upd_ne e2]; exact P.ng, P.ne, ns, a, c, d, by rw [upd_ne e1]; exact h1, by rw [upd_ne e2]; exact h2, h3⟩
  by_cases c : b = q
  · rw [c, upd_same] at e ⊢
    exact e
  · rw [upd_ne c] at e ⊢
    exact P.same _ _ e
theorem Purse.same0 {p g : Addr} {H0 H1 H : Hp} (P : Purse p g H0 H) (h : Same H1 H0) : Same H1 H := h.trans P.same
abbrev law_take_N : List Str := ["_law_purse_here", "_law_size", "_law_greats", "_law_number", "_law_turn", "_law_first", "_law_second", "_law_third"]
theorem sc_law_take : FnScope law_take_N ["_law_purse_here", "_law_size"] (defScope s_law_take) := ⟨rfl, rfl, rfl, by decide +kernel, rfl, by decide +kernel, by decide +kernel⟩
theorem m_law_take : d_law_take ∈ fn := List.mem_of_getElem? (i := 23) rfl
/-- a number below z is drawn -/
def spTake : Sp := fun vs H Q _ => ∃ (p g : Addr) (H0 : Hp) (z : Nat), vs = [.ref p, .int (z : Int)] ∧ 1 ≤ z ∧ z ≤ 1000000 ∧ Purse p g H0 H ∧ ∀ (r : Nat) H', r < z → Purse p g H0 H' → Q (.int (r : Int)) H'
theorem take_fin {z : Nat} {x : Int} (hz : 1 ≤ z) {Q : VK} {H : Hp} (k : ∀ r : Nat, r < z → Q (.int (r : Int)) H) : Q (.int (x % (z : Int))) H := by
  have h1 : 0 ≤ x % (z : Int) := Int.emod_nonneg _ (by omega)
  have h2 : x % (z : Int) < z := Int.emod_lt_of_pos _ (by omega)
  have e : x % (z : Int) = ((x % (z : Int)).toNat : Int) := by omega
  rw [e]
  exact k _ (by omega)
section
variable {P : Program} {w : World} {K : PySem.W.Frag} {mg : Str → Option Value} {base : Heap}
theorem ok_take (T : Txt K mg) : Okd P w K mg base CX0 1 "_law_take" ["_law_purse_here", "_law_size"] spTake := by
  refine okd0 (st := s_law_take) T m_law_take sc_law_take (fun vs H Q E h => ?_) (fun _ _ _ _ _ _ us hl => match us, hl with | [_, _], _ => rfl) (fun f cdv A outer s H vs Q E hr h => ⟨_, (pss_cons (ps_set (i := 2) sc_law_take.nd rfl (Or.inl rfl) (pe_ix ix_list (pv 0) pe_int (fun _ _ => rfl)))
  (pss_cons (ps_asg (pe_op op_add (pe_ix ix_list (pv 0) pe_int (fun _ _ => rfl)) pe_int) (pg_sub (pv 0) pe_int set_list))
  (Evl.pss_cut (ps_if (PW.pt (pw_and (pt_cmpR op_eq (pe_ix ix_list (pv 0) pe_int (fun _ _ => rfl)) pe_int (nomark _)) (pw_and1 (pt_cmpR op_gt (pe_callB call_len_seq (by rfl) T.b_len PySem.boot_len (pa_cons (pv 2) pa_nil)) pe_int (nomark _)))))
    (pss_one (ps_asg (pe_bm PySem.F.plainAttrs_list PySem.F.slot_list_pop PySem.F.type_list_pop mt_popAt (pv 2) (pa_cons pe_int pa_nil)) (pg_sub (pv 0) pe_int set_list)))
    pss_nil)
  (pss_cons (ps_set (i := 3) sc_law_take.nd rfl (Or.inl rfl) (pe_ix ix_list (pv 0) pe_int (fun _ _ => rfl)))
  (pss_cons (ps_if (pt_cmpR op_gt (pv 3) pe_int (nomark _))
    (pss_cons (ps_asg (pe_op op_fdiv (pv 3) (pv 1)) (pg_sub (pv 0) pe_int set_list))
    (pss_one (ps_ret (pe_op op_mod (pe_callTy call_int1 (by rfl) T.b_int (by decide +kernel) (pa_cons (pv 3) pa_nil)) (pv 1)))))
    pss_nil)
  (pss_cons (ps_set (i := 4) sc_law_take.nd rfl (Or.inl rfl) (pe_ix ix_list (pv 0) pe_int (fun _ _ => rfl)))
  (pss_cons (ps_set (i := 5) sc_law_take.nd rfl (Or.inl rfl) (pe_op op_mod (pe_callTy call_int1 (by rfl) T.b_int (by decide +kernel) (pa_cons (pe_op op_add (pe_op op_mul (pe_ix ix_list (pv 0) pe_int (fun _ _ => rfl)) pe_int) (pe_op op_mul (pv 4) pe_int)) pa_nil)) pe_int))
  (pss_cons (ps_set (i := 6) sc_law_take.nd rfl (Or.inl rfl) (pe_op op_mod (pe_callTy call_int1 (by rfl) T.b_int (by decide +kernel) (pa_cons (pe_op op_add (pe_op op_mul (pv 5) (pv 5)) (pe_op op_mul (pv 4) pe_int)) pa_nil)) pe_int))
  (pss_cons (ps_set (i := 7) sc_law_take.nd rfl (Or.inl rfl) (pe_op op_mod (pe_callTy call_int1 (by rfl) T.b_int (by decide +kernel) (pa_cons (pe_op op_add (pe_op op_mul (pv 6) (pv 6)) (pv 5)) pa_nil)) pe_int))
  (pss_one (ps_ret (pe_op op_mod (pe_callTy call_int1 (by rfl) T.b_int (by decide +kernel) (pa_cons (pe_op op_fdiv (pv 7) pe_int) pa_nil)) (pv 1))))))))))))), ?_⟩)
  · obtain ⟨p, g, H0, z, rfl, _⟩ := h
    rfl
  · obtain ⟨p, g, H0, z, rfl, hz1, hz2, Pu, k⟩ := h
    obtain ⟨ns, a, c, d, hp, hg, hns, ha, hd1, hd2⟩ := Pu.ex
    have hpg := Pu.ne
    -- greats, the turn's count
    refine ⟨_, rfl, _, _, _, _, rfl, rfl, SqL.of hp, rfl, ?_⟩
    refine ⟨_, rfl, _, _, _, _, rfl, rfl, SqL.of hp, rfl, _, _, rfl, rfl, _, rfl, _, _, _, _, rfl, rfl, hp, rfl, ?_⟩
    have hp1 : upd H p (.lst [.ref g, .int a, .int (c + 1), .int d]) p = some (.lst [.ref g, .int a, .int (c + 1), .int d]) := upd_same
    have hg1 : upd H p (.lst [.ref g, .int a, .int (c + 1), .int d]) g = some (.lst (ns.map V.int)) := by rw [upd_ne hpg.symm]; exact hg
    have hs1 : Same H0 (upd H p (.lst [.ref g, .int a, .int (c + 1), .int d])) := Pu.same.mut Pu.np
    refine ⟨fun σ' H1 => σ' = [some (.ref p), some (.int z), some (.ref g), none, none, none, none, none] ∧ Same H0 H1 ∧ ∃ (x : Int) (ms : List Int), 0 ≤ x ∧ (∀ y ∈ ms, 0 ≤ y) ∧ H1 p = some (.lst [.ref g, .int x, .int (c + 1), .int d]) ∧ H1 g = some (.lst (ms.map V.int)), ?_, ?_⟩
    · -- the first if
      refine ⟨_, rfl, _, _, _, _, rfl, rfl, SqL.of hp1, rfl, rfl, _, rfl, ?_⟩
      have stay : ∃ (x : Int) (ms : List Int), 0 ≤ x ∧ (∀ y ∈ ms, 0 ≤ y) ∧ upd H p (.lst [.ref g, .int a, .int (c + 1), .int d]) p = some (.lst [.ref g, .int x, .int (c + 1), .int d]) ∧ upd H p (.lst [.ref g, .int a, .int (c + 1), .int d]) g = some (.lst (ms.map V.int)) := ⟨a, ns, ha, hns, hp1, hg1⟩
      refine iteI (fun e => ?_) (fun e => iteF ⟨rfl, hs1, stay⟩)
      refine ⟨_, rfl, g, _, rfl, .inl (SqL.of hg1), _, _, rfl, rfl, _, rfl, ?_⟩
      refine iteD (fun l => ?_) (fun l => ⟨rfl, hs1, stay⟩)
      cases ns with
      | nil => exact absurd l (by decide)
      | cons y ms =>
        refine ⟨_, rfl, .inl ⟨rfl, _, SqL.of hg1⟩, g, _, 0, 0, .int y, rfl, rfl, hg1, by decide, by decide, seq_nat (b := 0) (by simp), rfl, ?_⟩
        have hp2 : upd (upd H p (.lst [.ref g, .int a, .int (c + 1), .int d])) g (.lst (ms.map V.int)) p = some (.lst [.ref g, .int a, .int (c + 1), .int d]) := by rw [upd_ne hpg]; exact hp1
        refine ⟨_, rfl, _, _, _, _, rfl, rfl, hp2, rfl, rfl, (hs1.mut Pu.ng).mut Pu.np, y, ms, hns y List.mem_cons_self, fun z hz => hns z (List.mem_cons_of_mem _ hz), upd_same, ?_⟩
        rw [upd_ne hpg.symm]
        exact upd_same
    · rintro σ' H1 ⟨rfl, hs, x, ms, hx, hms, h1, h2⟩
      refine ⟨_, rfl, _, _, _, _, rfl, rfl, SqL.of h1, rfl, ?_⟩
      refine ⟨_, rfl, _, _, rfl, rfl, _, rfl, ?_⟩
      refine iteD (fun l => ?_) (fun l => ?_)
      · refine ⟨_, rfl, _, rfl, _, _, rfl, rfl, ⟨by omega, by omega⟩, ?_⟩
        refine ⟨_, rfl, _, _, _, _, rfl, rfl, h1, rfl, ?_⟩
        refine ⟨_, rfl, .inl ⟨_, rfl, _, rfl, _, _, rfl, rfl, by omega, ?_⟩⟩
        refine take_fin (Q := Q) hz1 fun r hr' => k r _ hr' ⟨hs.mut Pu.np, Pu.np, Pu.ng, hpg, ms, x / (z : Int), c + 1, d, upd_same, by rw [upd_ne hpg.symm]; exact h2, hms, Int.ediv_nonneg hx (by omega), hd1, hd2⟩
      · refine ⟨_, rfl, _, _, _, _, rfl, rfl, SqL.of h1, rfl, ?_⟩
        -- the three mixed numbers
        refine ⟨_, rfl, _, _, _, _, rfl, rfl, SqL.of h1, rfl, _, _, rfl, rfl, .inr ⟨by decide, by decide⟩, _, rfl, _, _, rfl, rfl, .inr ⟨by decide, by decide⟩, _, _, rfl, rfl, .inl ⟨_, rfl, _, _, rfl, rfl, (by show (0 : Int) < 2147483647; decide), ?_⟩⟩
        have b1 := Int.emod_nonneg (d * 48271 + (c + 1) * 69621) (b := 2147483647) (by decide)
        have b2 := Int.emod_lt_of_pos (d * 48271 + (c + 1) * 69621) (b := 2147483647) (by decide)
        generalize (d * 48271 + (c + 1) * 69621) % 2147483647 = f1 at b1 b2
        refine ⟨_, rfl, _, rfl, _, _, rfl, rfl, .inr ⟨by omega, by omega⟩, _, rfl, _, _, rfl, rfl, .inr ⟨by decide, by decide⟩, _, _, rfl, rfl, .inl ⟨_, rfl, _, _, rfl, rfl, (by show (0 : Int) < 2147483399; decide), ?_⟩⟩
        have b3 := Int.emod_nonneg (f1 * f1 + (c + 1) * 40692) (b := 2147483399) (by decide)
        have b4 := Int.emod_lt_of_pos (f1 * f1 + (c + 1) * 40692) (b := 2147483399) (by decide)
        generalize (f1 * f1 + (c + 1) * 40692) % 2147483399 = f2 at b3 b4
        refine ⟨_, rfl, _, rfl, _, _, rfl, rfl, .inr ⟨by omega, by omega⟩, _, rfl, _, _, rfl, rfl, .inl ⟨_, rfl, _, _, rfl, rfl, (by show (0 : Int) < 2147483647; decide), ?_⟩⟩
        refine ⟨_, rfl, _, _, rfl, rfl, ⟨by decide, by decide⟩, .inl ⟨_, rfl, _, rfl, _, _, rfl, rfl, by omega, ?_⟩⟩
        exact take_fin (Q := Q) hz1 fun r hr' => k r _ hr' ⟨hs, Pu.np, Pu.ng, hpg, ms, x, c + 1, d, h1, h2, hms, hx, hd1, hd2⟩
end
end Rw
/-! ## FLine -/
namespace Rw
open PySem PySem.Spec PyProof.Rows L2
abbrev law_turned_N : List Str := ["_law_purse_here", "_law_rows", "_law_rest", "_law_found", "_law_k"]
theorem sc_law_turned : FnScope law_turned_N ["_law_purse_here", "_law_rows"] (defScope s_law_turned) := ⟨rfl, rfl, rfl, by decide +kernel, rfl, by decide +kernel, by decide +kernel⟩
theorem m_law_turned : d_law_turned ∈ fn := List.mem_of_getElem? (i := 24) rfl
abbrev law_line_N : List Str := ["_law_purse_here", "_law_blocks", "_law_target"]
theorem sc_law_line : FnScope law_line_N ["_law_purse_here", "_law_blocks"] (defScope s_law_line) := ⟨rfl, rfl, rfl, by decide +kernel, rfl, by decide +kernel, by decide +kernel⟩
theorem m_law_line : d_law_line ∈ fn := List.mem_of_getElem? (i := 25) rfl
abbrev law_extra_N : List Str := ["_law_purse_here", "_law_tree", "_law_ways", "_law_late_here", "_law_early"]
theorem sc_law_extra : FnScope law_extra_N ["_law_purse_here", "_law_tree", "_law_ways"] (defScope s_law_extra) := ⟨rfl, rfl, rfl, by decide +kernel, rfl, by decide +kernel, by decide +kernel⟩
theorem m_law_extra : d_law_extra ∈ fn := List.mem_of_getElem? (i := 27) rfl
/-- x is a link of two blocks below n -/
def LkV (G : Hp) (n : Nat) (x : V) : Prop := ∃ (q : Addr) (l : Lk), x = .ref q ∧ G q = some (.tup [.int (l.1 : Nat), .int (l.2 : Nat)]) ∧ l.1 < n ∧ l.2 < n ∧ l.1 ≠ l.2
theorem LkV.to {G G' : Hp} {n : Nat} {x : V} (h : LkV G n x) (S : Same G G') : LkV G' n x := by
  obtain ⟨q, l, e, h1, h2⟩ := h
  exact ⟨q, l, e, S _ _ h1, h2⟩
/-- links all, as data -/
theorem lkv_all {G : Hp} {n : Nat} : ∀ {xs : List V}, (∀ x ∈ xs, LkV G n x) → ∃ ls : List Lk, DtAll G xs (ls.map lkD) ∧ Rd.Okl n ls ∧ ls.length = xs.length
  | [], _ => ⟨[], .nil, (fun _ h => by cases h), rfl⟩
  | x :: xs, h => by
    obtain ⟨ls, h1, h2, h3⟩ := lkv_all (fun y hy => h y (List.mem_cons_of_mem _ hy))
    obtain ⟨q, l, rfl, k1, k2⟩ := h x List.mem_cons_self
    refine ⟨l :: ls, .cons (dt_lk k1) h1, fun y hy => ?_, by simp [h3]⟩
    rcases List.mem_cons.mp hy with hy | hy
    · rw [hy]
      exact k2
    · exact h2 y hy
def spTurned : Sp := fun vs H Q _ => ∃ (p g a : Addr) (G : Hp) (xs : List V), vs = [.ref p, .ref a] ∧ xs.length ≤ 1000 ∧ G a = some (.lst xs) ∧ Purse p g G H ∧
  ∀ q G' H' ys, Same G G' → G q = none → Purse p g G' H' → G' q = some (.lst ys) → ys.Perm xs → Q (.ref q) H'
def spLine : Sp := fun vs H Q _ => ∃ (p g : Addr) (G : Hp) (n : Nat), vs = [.ref p, .int (n : Int)] ∧ 2 ≤ n ∧ n ≤ 100 ∧ Purse p g G H ∧
  ∀ q G' H', Same G G' → Purse p g G' H' → LkV G' n (.ref q) → Q (.ref q) H'
def spExtra : Sp := fun vs H Q _ => ∃ (p g t : Addr) (w : Int) (G : Hp) (n : Nat) (L : List Nat), vs = [.ref p, .ref t, .int w] ∧ 2 ≤ L.length ∧ L.length ≤ 100 ∧ L.Nodup ∧ (∀ b ∈ L, b < n) ∧ G t = some (.lst (nV L)) ∧ Purse p g G H ∧
  ∀ q G' H', Same G G' → Purse p g G' H' → LkV G' n (.ref q) → Q (.ref q) H'
theorem gL_nodup {L : List Nat} (h : L.Nodup) {i j : Nat} (hi : i < L.length) (hj : j < L.length) (e : i ≠ j) : Rd.gL L i ≠ Rd.gL L j := by
  rw [Rd.gL_eq hi, Rd.gL_eq hj]
  rcases Nat.lt_or_gt_of_ne e with c | c
  · exact List.pairwise_iff_getElem.mp h i j hi hj c
  · exact fun z => List.pairwise_iff_getElem.mp h j i hj hi c z.symm
theorem erase_perm {α : Type} : ∀ (l : List α) (i : Nat) (h : i < l.length), (l[i] :: l.eraseIdx i).Perm l
  | x :: l, 0, _ => .refl _
  | x :: l, i + 1, h => (List.Perm.swap x (l[i]'(by simpa using h)) (l.eraseIdx i)).trans ((erase_perm l i (by simpa using h)).cons x)
theorem gL_mem {L : List Nat} {i : Nat} (hi : i < L.length) : Rd.gL L i ∈ L := by
  rw [Rd.gL_eq hi]
  exact List.getElem_mem hi
section
variable {P : Program} {w : World} {K : PySem.W.Frag} {mg : Str → Option Value} {base : Heap}
theorem ok_turned (T : Txt K mg) : Okd P w K mg base CX0 2 "_law_turned" ["_law_purse_here", "_law_rows"] spTurned := by
  have c_law_take : Okd P w K mg base CX0 1 "_law_take" ["_law_purse_here", "_law_size"] spTake := ok_take T
  refine okd0 (st := s_law_turned) T m_law_turned sc_law_turned (fun vs H Q E h => ?_) (fun _ _ _ _ _ _ us hl => match us, hl with | [_, _], _ => rfl) (fun f cdv A outer s H vs Q E hr h => ⟨_, (pss_cons (ps_set (i := 2) sc_law_turned.nd rfl (Or.inl rfl) (pe_callTy call_list_of (by rfl) T.b_list (by decide +kernel) (pa_cons (pv 1) pa_nil)))
  (pss_cons (ps_set (i := 3) sc_law_turned.nd rfl (Or.inl rfl) (pe_lst pa_nil))
  (pss_cons (ps_for PassesOwn.never rfl (pi_range1 (by rfl) T.b_range (pa_cons (pe_callB call_len_seq (by rfl) T.b_len PySem.boot_len (pa_cons (pv 1) pa_nil)) pa_nil)) (pg_name (i := 4) sc_law_turned.nd rfl (Or.inl rfl))
    (pss_one (ps_expr (pe_bm PySem.F.plainAttrs_list PySem.F.slot_list_append PySem.F.type_list_append mt_append (pv 3) (pa_cons (pe_bm PySem.F.plainAttrs_list PySem.F.slot_list_pop PySem.F.type_list_pop mt_popAt (pv 2) (pa_cons (pe_cd c_law_take hr (by decide) rfl (pa_cons (pv 0) (pa_cons (pe_callB call_len_seq (by rfl) T.b_len PySem.boot_len (pa_cons (pv 2) pa_nil)) pa_nil))) pa_nil)) pa_nil)))))
  (pss_one (ps_ret (pv 3)))))), ?_⟩)
  · obtain ⟨p, g, a, G, xs, rfl, _⟩ := h
    rfl
  · obtain ⟨p, g, a, G, xs, rfl, hxl, ha, Pu, k⟩ := h
    refine ⟨_, rfl, a, _, rfl, .inl (SqL.of (Pu.same _ _ ha)), fun r hr0 => ?_⟩
    have Gr := none_of Pu.same hr0
    have P1 := Pu.new (o := .lst xs) hr0
    refine ⟨Nat.zero_le _, fun f hf => ?_⟩
    have hrf : r ≠ f := ne_of_none upd_same hf
    have Gf1 := none_of P1.same hf
    have Gf : G f = none := by rw [upd_ne hrf.symm] at Gf1; exact Gf1
    have P2 := P1.new (o := .lst []) hf
    have S2 : Same G (upd (upd G r (.lst xs)) f (.lst [])) := (Same.new Gr).to Gf1
    have hr2 : upd (upd G r (.lst xs)) f (.lst []) r = some (.lst xs) := by rw [upd_ne hrf, upd_same]
    have hf2 : upd (upd G r (.lst xs)) f (.lst []) f = some (.lst []) := upd_same
    generalize upd (upd G r (.lst xs)) f (.lst []) = G2 at P2 S2 hr2 hf2 ⊢
    refine ⟨_, rfl, a, _, rfl, .inl (SqL.of (P2.same _ _ (S2 _ _ ha))), xs.length, rfl, by omega, by omega, ?_⟩
    refine for_rng (n := xs.length) (fun i σ H3 => (∃ v4, σ = [some (.ref p), some (.ref a), some (.ref r), some (.ref f), v4]) ∧ ∃ G3 rs fs, Same G G3 ∧ Purse p g G3 H3 ∧ G3 r = some (.lst rs) ∧ G3 f = some (.lst fs) ∧ (fs ++ rs).Perm xs ∧ rs.length + i = xs.length) ⟨⟨_, rfl⟩, G2, xs, [], S2, P2, hr2, hf2, .refl _, rfl⟩ ?_ ?_
    · rintro i σ H3 hi ⟨⟨v4, rfl⟩, G3, rs, fs, S3, P3, hr3, hf3, pm, hl⟩
      refine ⟨_, rfl, .inl ⟨rfl, _, SqL.of (P3.same _ _ hf3)⟩, _, rfl, .inl ⟨rfl, _, SqL.of (P3.same _ _ hr3)⟩, _, rfl, _, rfl, r, _, rfl, .inl (SqL.of (P3.same _ _ hr3)), p, g, G3, rs.length, rfl, by omega, by omega, P3, fun m H4 hm P4 => ?_⟩
      have P5 := P4.put (o := .lst (rs.eraseIdx m)) hr3
      have hf5 : upd G3 r (.lst (rs.eraseIdx m)) f = some (.lst fs) := by rw [upd_ne hrf.symm]; exact hf3
      have P6 := P5.put (o := .lst (fs ++ [rs[m]])) hf5
      refine ⟨r, rs, m, m, rs[m], rfl, rfl, P4.same _ _ hr3, by omega, by omega, seq_nat hm, List.getElem?_eq_getElem hm, f, fs, _, rfl, rfl, P5.same _ _ hf5, small_line ?_, ⟨_, rfl⟩, _, rs.eraseIdx m, fs ++ [rs[m]], (S3.mut Gr).mut Gf, P6, by rw [upd_ne hrf, upd_same], upd_same, ?_, ?_⟩
      · have := pm.length_eq
        rw [List.length_append] at this
        omega
      · rw [List.append_assoc]
        exact ((erase_perm rs m hm).append_left fs).trans pm
      · rw [List.length_eraseIdx_of_lt hm]
        omega
    · rintro σ H3 ⟨⟨v4, rfl⟩, G3, rs, fs, S3, P3, hr3, hf3, pm, hl⟩
      have e : rs = [] := List.length_eq_zero_iff.mp (by omega)
      rw [e, List.append_nil] at pm
      exact ⟨_, rfl, k f G3 _ fs S3 Gf P3 hf3 pm⟩
theorem ok_line (T : Txt K mg) : Okd P w K mg base CX0 2 "_law_line" ["_law_purse_here", "_law_blocks"] spLine := by
  have c_law_take : Okd P w K mg base CX0 1 "_law_take" ["_law_purse_here", "_law_size"] spTake := ok_take T
  refine okd0 (st := s_law_line) T m_law_line sc_law_line (fun vs H Q E h => ?_) (fun _ _ _ _ _ _ us hl => match us, hl with | [_, _], _ => rfl) (fun f cdv A outer s H vs Q E hr h => ⟨_, (pss_cons (ps_set (i := 2) sc_law_line.nd rfl (Or.inl rfl) (pe_cd c_law_take hr (by decide) rfl (pa_cons (pv 0) (pa_cons (pv 1) pa_nil))))
  (pss_one (ps_ret (pe_tup (pa_cons (pv 2) (pa_cons (pe_op op_mod (pe_callTy call_int1 (by rfl) T.b_int (by decide +kernel) (pa_cons (pe_op op_add (pe_op op_add (pv 2) pe_int) (pe_cd c_law_take hr (by decide) rfl (pa_cons (pv 0) (pa_cons (pe_op op_sub (pv 1) pe_int) pa_nil)))) pa_nil)) (pv 1)) pa_nil)))))), ?_⟩)
  · obtain ⟨p, g, G, n, rfl, _⟩ := h
    rfl
  · obtain ⟨p, g, G, n, rfl, h2, hn, Pu, k⟩ := h
    refine ⟨_, rfl, _, rfl, p, g, G, n, rfl, by omega, by omega, Pu, fun t H1 ht P1 => ?_⟩
    have e1 : (n : Int) - 1 = ((n - 1 : Nat) : Int) := by omega
    refine ⟨_, rfl, _, rfl, _, _, rfl, rfl, _, rfl, _, rfl, _, _, rfl, rfl, p, g, G, n - 1, (by rw [← e1]), by omega, by omega, P1, fun r H2 hr2 P2 => ?_⟩
    refine ⟨_, _, rfl, rfl, .inl ⟨_, rfl, _, rfl, _, _, rfl, rfl, by omega, (by show 2 ≤ sizeLine; decide), fun q hq => ?_⟩⟩
    have Gq := none_of P2.same hq
    have e2 : ((t : Int) + 1 + (r : Int)) % (n : Int) = (((t + 1 + r) % n : Nat) : Int) := by push_cast; rfl
    show Q (.ref q) (upd H2 q (.tup [.int (t : Nat), .int (((t : Int) + 1 + (r : Int)) % (n : Int))]))
    rw [e2]
    refine k q _ _ (Same.new Gq) (P2.new hq) ⟨q, (t, (t + 1 + r) % n), rfl, upd_same, ht, Nat.mod_lt _ (by omega), ?_⟩
    show t ≠ (t + 1 + r) % n
    intro z
    by_cases c : t + 1 + r < n
    · rw [Nat.mod_eq_of_lt c] at z
      omega
    · rw [Nat.mod_eq_sub_mod (by omega), Nat.mod_eq_of_lt (by omega)] at z
      omega
theorem ok_extra (T : Txt K mg) : Okd P w K mg base CX0 2 "_law_extra" ["_law_purse_here", "_law_tree", "_law_ways"] spExtra := by
  have c_law_take : Okd P w K mg base CX0 1 "_law_take" ["_law_purse_here", "_law_size"] spTake := ok_take T
  refine okd0 (st := s_law_extra) T m_law_extra sc_law_extra (fun vs H Q E h => ?_) (fun _ _ _ _ _ _ us hl => match us, hl with | [_, _, _], _ => rfl) (fun f cdv A outer s H vs Q E hr h => ⟨_, (pss_cons (ps_set (i := 3) sc_law_extra.nd rfl (Or.inl rfl) (pe_op op_add pe_int (pe_cd c_law_take hr (by decide) rfl (pa_cons (pv 0) (pa_cons (pe_op op_sub (pe_callB call_len_seq (by rfl) T.b_len PySem.boot_len (pa_cons (pv 1) pa_nil)) pe_int) pa_nil)))))
  (pss_cons (ps_set (i := 4) sc_law_extra.nd rfl (Or.inl rfl) (pe_cd c_law_take hr (by decide) rfl (pa_cons (pv 0) (pa_cons (pv 3) pa_nil))))
  (Evl.pss_cut (ps_if (PW.pt (pw_and (pt_cmpR op_eq (pv 2) pe_int (nomark _)) (pw_and1 (pt_cmpR op_eq (pe_cd c_law_take hr (by decide) rfl (pa_cons (pv 0) (pa_cons pe_int pa_nil))) pe_int (nomark _)))))
    (pss_one (ps_ret (pe_tup (pa_cons (pe_ix ix_list (pv 1) (pv 4) (fun _ _ => rfl)) (pa_cons (pe_ix ix_list (pv 1) (pv 3) (fun _ _ => rfl)) pa_nil)))))
    pss_nil)
  (pss_one (ps_ret (pe_tup (pa_cons (pe_ix ix_list (pv 1) (pv 3) (fun _ _ => rfl)) (pa_cons (pe_ix ix_list (pv 1) (pv 4) (fun _ _ => rfl)) pa_nil)))))))), ?_⟩)
  · obtain ⟨p, g, t, w, G, n, L, rfl, _⟩ := h
    rfl
  · obtain ⟨p, g, t, w, G, n, L, rfl, h2, hl, hnd, hb, ht, Pu, k⟩ := h
    have e1 : ((nV L).length : Int) - 1 = ((L.length - 1 : Nat) : Int) := by rw [nV_len]; omega
    refine ⟨_, rfl, _, rfl, t, _, rfl, .inl (SqL.of (Pu.same _ _ ht)), _, _, rfl, rfl, p, g, G, L.length - 1, (by rw [← e1]), by omega, by omega, Pu, fun r H1 hr1 P1 => ?_⟩
    have e2 : (1 : Int) + (r : Int) = ((r + 1 : Nat) : Int) := by omega
    have at3 : atI (nV L) ((1 : Int) + (r : Int)) = some (.int (Rd.gL L (r + 1) : Nat)) := by rw [e2]; exact nV_at (by omega)
    refine ⟨_, _, rfl, rfl, ?_⟩
    refine ⟨_, rfl, _, rfl, p, g, G, r + 1, (by show [V.ref p, V.int ((1 : Int) + (r : Int))] = _; rw [e2]), by omega, by omega, P1, fun s H2 hs2 P2 => ?_⟩
    have at4 : atI (nV L) (s : Int) = some (.int (Rd.gL L s : Nat)) := nV_at (by omega)
    have fin : ∀ (i j : Nat) (H3 : Hp), i < L.length → j < L.length → i ≠ j → Purse p g G H3 → ∀ q, H3 q = none → Q (.ref q) (upd H3 q (.tup [.int (Rd.gL L i : Nat), .int (Rd.gL L j : Nat)])) := fun i j H3 hi hj hij P3 q hq =>
      k q _ _ (Same.new (none_of P3.same hq)) (P3.new hq) ⟨q, (Rd.gL L i, Rd.gL L j), rfl, upd_same, hb _ (gL_mem hi), hb _ (gL_mem hj), gL_nodup hnd hi hj hij⟩
    refine ⟨fun σ' H3 => σ' = [some (.ref p), some (.ref t), some (.int w), some (.int ((1 : Int) + (r : Int))), some (.int (s : Nat))] ∧ Purse p g G H3, ?_, ?_⟩
    · refine ⟨_, rfl, rfl, _, rfl, ?_⟩
      refine iteI (fun _ => ?_) (fun _ => iteF ⟨rfl, P2⟩)
      refine ⟨_, rfl, p, g, G, 2, rfl, by omega, by omega, P2, fun u H3 hu P3 => ⟨rfl, _, rfl, ?_⟩⟩
      refine iteI (fun _ => ?_) (fun _ => ⟨rfl, P3⟩)
      exact ⟨_, rfl, _, rfl, t, _, _, _, rfl, rfl, SqL.of (P3.same _ _ ht), at4, _, rfl, _, rfl, t, _, _, _, rfl, rfl, SqL.of (P3.same _ _ ht), at3, (by show 2 ≤ sizeLine; decide), fin s (r + 1) H3 (by omega) (by omega) (by omega) P3⟩
    · rintro σ' H3 ⟨rfl, P3⟩
      exact ⟨_, rfl, _, rfl, t, _, _, _, rfl, rfl, SqL.of (P3.same _ _ ht), at3, _, rfl, _, rfl, t, _, _, _, rfl, rfl, SqL.of (P3.same _ _ ht), at4, (by show 2 ≤ sizeLine; decide), fin (r + 1) s H3 (by omega) (by omega) (by omega) P3⟩
end
end Rw
/-! ## RdRe -/
/-! # A tuple that is known to the object: tuple(list), a method of it. -/
namespace Rw
open PySem PySem.Spec PyProof.Rows L2
section
variable {X : Cx}
theorem call_tuple_ofZ : CallR X (.type "tuple") (fun xs H Q => ∃ p ys, xs = [.ref p] ∧ SqL X.K H p ys ∧ ∀ l o, H l = none → o.cls = .type "tuple" → o.dict = none → Q (.ref l) (upd H l (.frz o (.tup ys)))) := by
  intro pins s σ H xs us Q I r h
  obtain ⟨p, ys, rfl, hq, q⟩ := h
  obtain ⟨u, rfl, rx⟩ := vals1 r
  cases rx
  obtain ⟨its, r', pl, hz⟩ := I.list hq
  have hlen := r'.length
  refine call_tuple_list pl.isList (fun h' kp => ?_) (by simp only [List.size_toArray] <;> omega)
  have I1 : Inv X pins σ H { s with heap := h' } := I.kept (t' := s.toks) kp
  have I2 : Inv X pins σ (upd H h'.objs.size (.frz { cls := .type "tuple", data := .seq its.toArray } (.tup ys))) { s with heap := h'.push { cls := .type "tuple", data := .seq its.toArray } } :=
    I1.laid (t' := s.toks) (fun b o e => Heap.get?_push_of_some _ e) (Nat.le_refl _) (show ObjOk X.prog X.w _ _ _ (.frz _ (.tup ys)) from ⟨Heap.get?_push_size _ rfl, hz, its, r', IsTup.new _ _⟩)
  exact ⟨.ref h'.objs.size, _, I2, rfl, q _ _ (I1.hok.fresh (Nat.le_refl _)) rfl rfl⟩
/-- a method of a tuple known to the object -/
def tBMT (r : V → List V → Hp → VK → Prop) (to : TE) (t : TA) : TE := fun σ H Q => to σ H fun x H1 => (∃ p o u, x = .ref p ∧ H1 p = some (.frz o u) ∧ o.cls = .type "tuple" ∧ o.dict = none) ∧ t σ H1 fun xs H2 => r x xs H2 Q
theorem pe_bmT {o e : Expr} {es : List Expr} {to : TE} {t : TA} {name : Str} {apos cpos : Pos} {id : String} {r : V → List V → Hp → VK → Prop} (pa : PlainAttrs "tuple") (slot : Slot "tuple" name id) (hty : typeOf (.builtin id) = pure (.type "method_descriptor")) (hm : MtR X id r) (ho : PE X o to) (ha : PA X (e :: es) t)
    (hbase : attributeBase o name X.env (eval o X.env) = eval o X.env := by rfl)
    (hfew : ((backTo cpos (starEach (e :: es) X.env)).all (fun x => !x.1) && (backToKw cpos (keywordEach [] X.env)).all (fun x => x.1.isSome)
      && decide ((e :: es).length + ([] : List Keyword).length + (if ([] : List Keyword).isEmpty then 0 else 1) < 30)) = true := by rfl)
    (hline : (apos.endLine == cpos.line) = true := by rfl) (hs : starEach (e :: es) X.env = (false, eval e X.env) :: starEach es X.env := by rfl) (hplain : (backTo cpos (starEach es X.env)).any (·.1) = false := by rfl) :
    PE X (.Call (.Attribute o name apos) (e :: es) [] cpos) (tBMT r to t) := by
  refine ⟨fun pins s σ H Q I h => ?_⟩
  refine wpAny_Call_method_late hbase hfew hline rfl (thn (ho.run pins s σ H _ I h) fun v s1 ⟨x, H1, I1, r1, ⟨p, oo, u, e0, h0, hc, hd⟩, q1⟩ => ?_)
  subst e0
  cases r1
  have hg : s1.heap.get? p = some oo := (I1.hok p _ h0).1
  refine ⟨"tuple", id, pa, slot, hty, ⟨oo, hg, hc⟩, fun a e => by cases e; exact ⟨oo, hg, hd⟩, ?_⟩
  have hA := ha.run cpos pins s1 σ H1 _ I1 q1
  rw [hs] at hA ⊢
  refine Calls.callWith_builtin (by show (false || (backTo cpos (starEach es X.env)).any (·.1)) = false; rw [hplain] <;> rfl) (Calls.evalArgs_plain ?_)
  exact thn hA fun us s2 ⟨vs, H2, I2, r2, q2⟩ => hm pins s2 σ H2 (.ref p) vs (.ref p) us Q I2 rfl r2 q2
theorem sqt_frz {K : PySem.W.Frag} {H : Hp} {a : Addr} {xs : List V} {o : Obj} (h : H a = some (.frz o (.tup xs))) : SqT K H a xs := .inl (.inr ⟨o, h⟩)
end
end Rw
/-! ## FSettle2 -/
namespace Rw
open PySem PySem.Spec PyProof.Rows L2
abbrev settled_from_N : List Str := ["script", "blocks", "held", "log", "block", "knotted", "numbers", "writers", "members", "target", "source"]
theorem sc_settled_from : FnScope settled_from_N ["script", "blocks", "held"] (defScope s_settled_from) := ⟨rfl, rfl, rfl, by decide +kernel, rfl, by decide +kernel, by decide +kernel⟩
theorem m_settled_from : d_settled_from ∈ fn := List.mem_of_getElem? (i := 19) rfl
theorem memL_eq {n : Nat} {ls : List Lk} {b : Nat} : memL n (Rd.W n ls n) b = (List.range n).filter fun o => Rd.R n ls b o && Rd.R n ls o b := by
  rw [memL, lotL, List.filter_filter]
  refine List.filter_congr fun o _ => ?_
  show ((Rd.gL (Rd.W n ls n) o).testBit b && (Rd.gL (Rd.W n ls n) b).testBit o) = ((Rd.gL (Rd.W n ls n) b).testBit o && (Rd.gL (Rd.W n ls n) o).testBit b)
  rw [Bool.and_comm]
theorem memL_kn {n : Nat} {ls : List Lk} {b : Nat} : decide (1 < (memL n (Rd.W n ls n) b).length) = Rd.kn n ls b := by
  rw [memL_eq]
  rfl
theorem memL_mem {n : Nat} {ls : List Lk} {b o : Nat} : o ∈ memL n (Rd.W n ls n) b ↔ o < n ∧ Rd.R n ls b o = true ∧ Rd.R n ls o b = true := by
  rw [memL_eq, List.mem_filter, List.mem_range, Bool.and_eq_true]
theorem memL_class {n : Nat} {ls : List Lk} {b c : Nat} (hb : b < n) (hc : c < n) (h1 : Rd.R n ls b c = true) (h2 : Rd.R n ls c b = true) : memL n (Rd.W n ls n) b = memL n (Rd.W n ls n) c := by
  rw [memL_eq, memL_eq]
  refine List.filter_congr fun o _ => ?_
  refine Bool.eq_iff_iff.mpr ?_
  rw [Bool.and_eq_true, Bool.and_eq_true]
  constructor
  · rintro ⟨a1, a2⟩
    exact ⟨Rd.R_trans hb h2 a1, Rd.R_trans hb a2 h1⟩
  · rintro ⟨a1, a2⟩
    exact ⟨Rd.R_trans hc h1 a1, Rd.R_trans hc a2 h2⟩
/-- the blocks of the knots -/
theorem knot_mem {n : Nat} {ls : List Lk} (ho : Rd.Okl n ls) {b : Nat} (hb : b < n) : b ∈ (knotL n (Rd.W n ls n)).flatten ↔ Rd.kn n ls b = true := by
  rw [List.mem_flatten]
  constructor
  · rintro ⟨m, hm, hbm⟩
    obtain ⟨h1, h2⟩ := List.mem_filter.mp hm
    obtain ⟨c, hc, rfl⟩ := List.mem_map.mp h1
    obtain ⟨hc1, _⟩ := List.mem_filter.mp hc
    have hcn := List.mem_range.mp hc1
    obtain ⟨_, r1, r2⟩ := memL_mem.mp hbm
    rw [← memL_kn, memL_class hb hcn r2 r1]
    exact h2
  · intro h
    have hself : b ∈ memL n (Rd.W n ls n) b := memL_mem.mpr ⟨hb, Rd.R_refl ho hb, Rd.R_refl ho hb⟩
    have hpos := List.length_pos_of_mem hself
    have hcm : Rd.gL (memL n (Rd.W n ls n) b) 0 ∈ memL n (Rd.W n ls n) b := gL_mem hpos
    obtain ⟨c1, r1, r2⟩ := memL_mem.mp hcm
    have ec := memL_class c1 hb r2 r1
    refine ⟨memL n (Rd.W n ls n) b, List.mem_filter.mpr ⟨?_, by rw [memL_kn]; exact h⟩, hself⟩
    refine List.mem_map.mpr ⟨Rd.gL (memL n (Rd.W n ls n) b) 0, List.mem_filter.mpr ⟨List.mem_range.mpr c1, ?_⟩, ec⟩
    rw [ec]
    exact beq_self_eq_true _
/-- one number of a lot, if it has just one -/
theorem common_lot {n m : Nat} (hs : ∃ v, m.testBit v = true) (hl : ∀ v, m.testBit v = true → v < n) : Rd.common ((lotL n m).map fun v => ((v : Nat) : Int)) = Rd.sing n m := by
  obtain ⟨v0, hv0⟩ := hs
  have hm0 : v0 ∈ lotL n m := mem_lotL.mpr ⟨hl v0 hv0, hv0⟩
  rcases Rd.sing_cases n m with e | ⟨v, e⟩
  · rw [e]
    cases q : (lotL n m).map fun v => ((v : Nat) : Int) with
    | nil =>
      have := List.map_eq_nil_iff.mp q
      rw [this] at hm0
      cases hm0
    | cons x r =>
      by_cases c : ∃ y ∈ x :: r, y ≠ x
      · obtain ⟨y, hy, hne⟩ := c
        exact common_not hy hne
      · exfalso
        have all : ∀ u, m.testBit u = true → ((u : Nat) : Int) = x := fun u hu => by
          have h1 : ((u : Nat) : Int) ∈ x :: r := by rw [← q]; exact List.mem_map.mpr ⟨u, mem_lotL.mpr ⟨hl u hu, hu⟩, rfl⟩
          exact Classical.byContradiction fun z => c ⟨_, h1, z⟩
        have em : m = 2 ^ v0 := Rd.bits_pow fun u => by
          constructor
          · intro hu
            have h1 := all u hu
            have h2 := all v0 hv0
            omega
          · rintro rfl
            exact hv0
        rw [em, Rd.sing_pow (hl v0 hv0)] at e
        omega
  · rw [e]
    obtain ⟨em, hvn⟩ := Rd.sing_some e
    rw [em, lotL_pow hvn]
    simp [Rd.common]
theorem rkT_rk (n : Nat) (ls : List Lk) (b : Nat) : rkT n (Rd.W n ls n) b = Rd.rk n ls b := rfl
theorem OrdT.ord {n : Nat} {ls : List Lk} {od : List Nat} (o : OrdT n (Rd.W n ls n) od) : Rd.Ord n ls od :=
  ⟨fun b => by rw [o.perm.mem_iff, List.mem_range], o.perm.nodup_iff.mpr List.nodup_range, o.asc⟩
/-- the sources come first -/
theorem src_first {n : Nat} {ls : List Lk} {od : List Nat} (ho : Rd.Okl n ls) (o : Rd.Ord n ls od) {i b s : Nat} (hi : od[i]? = some b) (hs : s ∈ Rd.wr ls b) (hk : Rd.kn n ls b = false) : s ∈ od.take i := by
  have hsn := (ho _ (Rd.mem_wr.mp hs)).2.1
  obtain ⟨j, hj⟩ := List.mem_iff_getElem?.mp ((o.mem s).mpr hsn)
  have hlt := Rd.rk_lt ho hs hk
  have hjl := get_lt hj
  have hil := get_lt hi
  have hji : j < i := by
    refine Classical.byContradiction fun c => ?_
    rcases Nat.lt_or_ge i j with h | h
    · have q := List.pairwise_iff_getElem.mp o.asc i j hil hjl h
      rw [List.getElem?_eq_getElem hil] at hi
      rw [List.getElem?_eq_getElem hjl] at hj
      rw [Option.some.inj hi, Option.some.inj hj] at q
      omega
    · have e : i = j := by omega
      rw [e, hj] at hi
      have := Option.some.inj hi
      subst this
      omega
  exact List.mem_of_getElem? (i := j) (by rw [List.getElem?_take]; simp [hji, hj])
def spFrom : Sp := fun vs H Q _ => ∃ (v : V) (p : Addr) (n : Nat) (ls : List Lk) (L : List Nat), vs = [v, .int (n : Int), .ref p] ∧ GoodLog H v n ls ∧ Rd.Good n L ∧ Dt H (.ref p) (.tuple (lotsD n L)) ∧
  ∀ r o H', Same H H' → o.cls = .type "tuple" → o.dict = none → H' r = some (.frz o (.tup ((Rd.sv n ls L).map V.int))) → Q (.ref r) H'
/-- a walk over a list, or a tuple, whatever is done at each turn -/
theorem itl_run {K : PySem.W.Frag} {a : Addr} {xs : List V} {H0 : Hp} {B : V → Hp → (Hp → Prop) → Prop} {Qd : Hp → Prop} (Pv : Nat → Hp → Prop) (h0 : Pv 0 H0) (hl : ∀ i H, i ≤ xs.length → Pv i H → SqL K H a xs)
    (hs : ∀ i x H, xs[i]? = some x → Pv i H → B x H (Pv (i + 1))) (hd : ∀ H, Pv xs.length H → Qd H) :
    ∃ W : Nat → Nat → Hp → Prop, (∃ m, W 0 m H0) ∧ ∀ i m H, W i m H →
      ((Itl K a).stop i H ∧ Qd H) ∨ ((Itl K a).go i H ∧ ∃ Nx : Hp → Prop, (∀ H', Nx H' → ∃ m', m' < m ∧ W (i + 1) m' H') ∧ ∀ x H', (Itl K a).yld i H x H' → B x H' Nx) := by
  refine ⟨fun i m H => m = xs.length - i ∧ i ≤ xs.length ∧ Pv i H, ⟨xs.length, by simp, Nat.zero_le _, h0⟩, ?_⟩
  rintro i m H ⟨rfl, hi, p⟩
  have q := hl i H hi p
  by_cases hlt : i < xs.length
  · refine .inr ⟨⟨xs, xs[i], q, by simp [hlt]⟩, Pv (i + 1), fun H' p' => ⟨xs.length - (i + 1), by omega, rfl, hlt, p'⟩, fun x H' y => ?_⟩
    obtain ⟨e, y⟩ := y
    subst e
    exact hs i x _ (y xs q) p
  · have e : i = xs.length := by omega
    subst e
    exact .inl ⟨⟨xs, q, Nat.le_refl _⟩, hd H p⟩
theorem itt_run {K : PySem.W.Frag} {a : Addr} {xs : List V} {H0 : Hp} {B : V → Hp → (Hp → Prop) → Prop} {Qd : Hp → Prop} (Pv : Nat → Hp → Prop) (h0 : Pv 0 H0) (hl : ∀ i H, i ≤ xs.length → Pv i H → SqT K H a xs)
    (hs : ∀ i x H, xs[i]? = some x → Pv i H → B x H (Pv (i + 1))) (hd : ∀ H, Pv xs.length H → Qd H) :
    ∃ W : Nat → Nat → Hp → Prop, (∃ m, W 0 m H0) ∧ ∀ i m H, W i m H →
      ((Itt K a).stop i H ∧ Qd H) ∨ ((Itt K a).go i H ∧ ∃ Nx : Hp → Prop, (∀ H', Nx H' → ∃ m', m' < m ∧ W (i + 1) m' H') ∧ ∀ x H', (Itt K a).yld i H x H' → B x H' Nx) := by
  refine ⟨fun i m H => m = xs.length - i ∧ i ≤ xs.length ∧ Pv i H, ⟨xs.length, by simp, Nat.zero_le _, h0⟩, ?_⟩
  rintro i m H ⟨rfl, hi, p⟩
  have q := hl i H hi p
  by_cases hlt : i < xs.length
  · refine .inr ⟨⟨xs, xs[i], q, by simp [hlt]⟩, Pv (i + 1), fun H' p' => ⟨xs.length - (i + 1), by omega, rfl, hlt, p'⟩, fun x H' y => ?_⟩
    obtain ⟨e, y⟩ := y
    subst e
    exact hs i x _ (y xs q) p
  · have e : i = xs.length := by omega
    subst e
    exact .inl ⟨⟨xs, q, Nat.le_refl _⟩, hd H p⟩
theorem flatten_len {n : Nat} : ∀ {Ls : List (List Nat)}, (∀ m ∈ Ls, m.length ≤ n) → Ls.flatten.length ≤ Ls.length * n
  | [], _ => by simp
  | m :: Ls, h => by
    have h1 := h m List.mem_cons_self
    have h2 := flatten_len (Ls := Ls) fun m' hm => h m' (List.mem_cons_of_mem _ hm)
    rw [List.flatten_cons, List.length_append, List.length_cons, Nat.succ_mul]
    omega
theorem knotL_len (n : Nat) (T : List Nat) : (knotL n T).length ≤ n := by
  refine Nat.le_trans (List.length_filter_le _ _) ?_
  rw [mutL, List.length_map]
  have := List.length_filter_le (fun b => Rd.gL (memL n T b) 0 == b) (List.range n)
  rwa [List.length_range] at this
theorem knotL_each {n : Nat} {T : List Nat} {m : List Nat} (h : m ∈ knotL n T) : m.length ≤ n := by
  obtain ⟨c, _, rfl⟩ := List.mem_map.mp (List.mem_filter.mp h).1
  exact memL_len n T c
/-- the numbers when the first i blocks of the order are done -/
structure NumI (n : Nat) (ls : List Lk) (L : List Nat) (od : List Nat) (i : Nat) (N : List Int) : Prop where
  len : N.length = n
  done : ∀ b, b < n → b ∈ od.take i → Rd.gI N b = Rd.gI (Rd.sv n ls L) b
  not : ∀ b, b < n → b ∉ od.take i → Rd.gI N b = (b : Int)
theorem NumI.start (n : Nat) (ls : List Lk) (L : List Nat) (od : List Nat) : NumI n ls L od 0 ((List.range n).map fun v => ((v : Nat) : Int)) :=
  ⟨by simp, fun b _ h => by simp at h, fun b hb _ => by simp [Rd.gI, List.getD_eq_getElem?_getD, hb]⟩
theorem NumI.put {n : Nat} {ls : List Lk} {L od : List Nat} {i b : Nat} {N : List Int} (w : NumI n ls L od i N) (hi : od[i]? = some b) (hb : b < n) : NumI n ls L od (i + 1) (N.set b (Rd.gI (Rd.sv n ls L) b)) := by
  refine ⟨by rw [List.length_set]; exact w.len, fun c hc h => ?_, fun c hc h => ?_⟩
  · rw [take_succ_get hi] at h
    by_cases e : c = b
    · subst e
      rw [gI_set_self (by rw [w.len]; exact hc)]
    · rw [gI_set_ne e]
      rcases List.mem_append.mp h with h | h
      · exact w.done c hc h
      · exact absurd (List.mem_singleton.mp h) e
  · rw [take_succ_get hi] at h
    have e : c ≠ b := fun z => h (List.mem_append_right _ (by rw [z]; exact List.mem_cons_self))
    rw [gI_set_ne e]
    exact w.not c hc fun z => h (List.mem_append_left _ z)
theorem set_gI {N : List Int} {b : Nat} (h : b < N.length) : N.set b (Rd.gI N b) = N := by
  refine List.ext_getElem? fun j => ?_
  rw [List.getElem?_set]
  by_cases e : b = j
  · subst e
    rw [if_pos rfl, if_pos h, Rd.gI, List.getD_eq_getElem?_getD, List.getElem?_eq_getElem h]
    rfl
  · rw [if_neg e]
theorem not_take {od : List Nat} {i b : Nat} (hn : od.Nodup) (hi : od[i]? = some b) : b ∉ od.take i := fun h => by
  obtain ⟨j, hj⟩ := List.mem_iff_getElem?.mp h
  rw [List.getElem?_take] at hj
  by_cases c : j < i
  · rw [if_pos c] at hj
    have := (List.getElem?_inj (get_lt hi) hn).mp (hi.trans hj.symm)
    omega
  · rw [if_neg c] at hj
    cases hj
theorem NumI.skip {n : Nat} {ls : List Lk} {L od : List Nat} {i b : Nat} {N : List Int} (w : NumI n ls L od i N) (hn : od.Nodup) (hi : od[i]? = some b) (hb : b < n) (e : Rd.gI (Rd.sv n ls L) b = (b : Int)) : NumI n ls L od (i + 1) N := by
  have h := w.put hi hb
  rw [e, ← w.not b hb (not_take hn hi), set_gI (by rw [w.len]; exact hb)] at h
  exact h
theorem NumI.fin {n : Nat} {ls : List Lk} {L od : List Nat} {N : List Int} (w : NumI n ls L od od.length N) (h : ∀ b, b ∈ od ↔ b < n) : N = Rd.sv n ls L := by
  refine List.ext_getElem? fun b => ?_
  by_cases hb : b < n
  · have h1 := w.done b hb (by rw [List.take_of_length_le (Nat.le_refl _)]; exact (h b).mpr hb)
    have hl := w.len
    have hs := Rd.len_sv n ls L
    rw [Rd.gI, Rd.gI, List.getD_eq_getElem?_getD, List.getD_eq_getElem?_getD, List.getElem?_eq_getElem (by omega), List.getElem?_eq_getElem (by omega)] at h1
    rw [List.getElem?_eq_getElem (by omega), List.getElem?_eq_getElem (by omega)]
    exact congrArg some h1
  · rw [List.getElem?_eq_none (by rw [w.len]; omega), List.getElem?_eq_none (by rw [Rd.len_sv]; omega)]
theorem wr_take_succ {ls : List Lk} {m b : Nat} {l : Lk} (h : ls[m]? = some l) : Rd.wr (ls.take (m + 1)) b = Rd.wr (ls.take m) b ++ (if l.1 = b then [l.2] else []) := by
  rw [take_succ_get h, Rd.wr_snoc]
theorem wr_len (ls : List Lk) (b : Nat) : (Rd.wr ls b).length ≤ ls.length := by
  rw [Rd.wr, List.length_map]
  exact List.length_filter_le _ _
theorem ints_atI {W : List Int} {b : Nat} (h : b < W.length) : atI (W.map V.int) (b : Int) = some (.int (Rd.gI W b)) := by
  refine atI_nat ?_
  rw [List.getElem?_map, Rd.gI, List.getD_eq_getElem?_getD, List.getElem?_eq_getElem h]
  rfl
section
variable {P : Program} {w : World} {K : PySem.W.Frag} {mg : Str → Option Value} {base : Heap}
theorem ok_from (T : Txt K mg) (TE : Errs P K mg) : Okd P w K mg base (L2.CX P w) 8 "_settled_from" ["script", "blocks", "held"] spFrom := by
  have c_check_log : Okd P w K mg base (L2.CX P w) 5 "check_log" ["script", "blocks"] (spLog K) := ok_log T TE
  have c_within_reach : Okd P w K mg base (L2.CX P w) 6 "within_reach" ["script", "blocks"] spWithin := ok_within T TE
  have c_knots : Okd P w K mg base (L2.CX P w) 7 "knots" ["script", "blocks"] spKnots := ok_knots T TE
  have c_sources_first : Okd P w K mg base CX0 1 "_sources_first" ["reach"] spOrder := ok_order T
  have c_commonT : Okd P w K mg base CX0 1 "_common" ["entries"] spCommonT := ok_commonT T
  have c_commonL : Okd P w K mg base CX0 1 "_common" ["entries"] spCommonL := ok_commonL T
  refine okd_mk (st := s_settled_from) T m_settled_from sc_settled_from (fun vs H Q E h => ?_) (fun _ _ _ _ _ _ us hl => match us, hl with | [_, _, _], _ => rfl) (fun f cdv A outer s H vs Q E hr h => ⟨_, (pss_cons (ps_set (i := 3) sc_settled_from.nd rfl (Or.inl rfl) (pe_cdX c_check_log hr (by decide) rfl (takes_of rfl rfl rfl rfl) (pa_cons (pv 0) (pa_cons (pv 1) pa_nil))))
  (pss_cons (ps_setLc2 (i := 5) (own := [("members", 8), ("block", 4)]) (vs1 := [4]) (wi1 := iTup K (tVar 8)) (g := (gName 8)) (g1 := (gName 4)) (tt := tYes) (tt1 := tYes) rfl sc_settled_from.nd rfl rfl (sw_true rfl rfl rfl (by decide +kernel)) (pi_list (pe_cdX c_knots hr (by decide) rfl (takes_of rfl rfl rfl rfl) (pa_cons (pv 0) (pa_cons (pv 1) pa_nil)))) (blkOk_by (N := settled_from_N) (sc := defScope s_settled_from) (by decide +kernel)) (by decide) (fun _ _ _ _ _ => (pg_name (i := 8) sc_settled_from.nd rfl (Or.inl rfl))) (fun _ _ _ _ _ => pts_nil) (fun _ _ _ _ _ => (pi_tup (pv 8))) (fun _ _ _ _ _ => (pg_name (i := 4) sc_settled_from.nd rfl (Or.inl rfl))) (fun _ _ _ _ _ => pts_nil) (fun _ _ _ _ _ => (pv 4)))
  (pss_cons (ps_set (i := 6) sc_settled_from.nd rfl (Or.inr rfl) (pe_listRg rfl (by rfl) T.b_list (prg_1 (by rfl) T.b_range (pv 1))))
  (pss_cons (ps_for (passes_of rfl) rfl (pi_list (pe_cd c_sources_first hr (by decide) rfl (pa_cons (pe_cdX c_within_reach hr (by decide) rfl (takes_of rfl rfl rfl rfl) (pa_cons (pv 0) (pa_cons (pv 1) pa_nil))) pa_nil))) (pg_name (i := 4) sc_settled_from.nd rfl (Or.inr rfl))
    (pss_cons (ps_setLc (i := 7) (own := [("target", 9), ("source", 10)]) (g := (gTup K 2 (gCons (gName 9) (gCons (gName 10) gNil)))) rfl sc_settled_from.nd rfl rfl (sw_true rfl rfl rfl (by decide +kernel)) (pi_list (pv 3)) (blkOk_by (N := settled_from_N) (sc := defScope s_settled_from) (by decide +kernel)) (fun _ _ _ _ _ => (pg_tup rfl (pgs_cons (pg_name (i := 9) sc_settled_from.nd rfl (Or.inl rfl)) (pgs_cons (pg_name (i := 10) sc_settled_from.nd rfl (Or.inl rfl)) pgs_nil)))) (fun _ _ _ _ _ => (pts_one (pt_cmpR op_eq (pv 9) (pv 4) (nomark _)))) (fun _ _ _ _ _ => (pv 10)))
    (pss_one (ps_if (pt_cmpR op_in_seq (pv 4) (pv 5) (by rfl))
      (pss_one (ps_asg (pe_cd c_commonT hr (by decide) rfl (pa_cons (pe_ix ix_tup (pv 2) (pv 4) (fun _ _ => rfl)) pa_nil)) (pg_sub (pv 6) (pv 4) set_list)))
      (pss_one (ps_if (pt_truth (pv 7) (by intro _; rfl))
        (pss_one (ps_asg (pe_cd c_commonL hr (by decide) rfl (pa_cons (pe_lc (own := [("source", 10)]) (g := (gName 10)) (tt := tYes) rfl sc_settled_from.nd (pi_list (pv 7)) (blkOk_by (N := settled_from_N) (sc := defScope s_settled_from) (by decide +kernel)) (fun _ _ _ _ _ => (pg_name (i := 10) sc_settled_from.nd rfl (Or.inl rfl))) (fun _ _ _ _ _ => pts_nil) (fun _ _ _ _ _ => (pe_ix (r := rIxL K) ix_list (pv 6) (pv 10) (fun _ _ => rfl)))) pa_nil)) (pg_sub (pv 6) (pv 4) set_list)))
        pss_nil))))))
  (pss_one (ps_ret (pe_callTy call_tuple_ofZ (by rfl) T.b_tuple (by decide +kernel) (pa_cons (pv 6) pa_nil)))))))), ?_⟩)
  · obtain ⟨v, p, n, ls, L, rfl, _⟩ := h
    rfl
  · obtain ⟨v, p, n, ls, L, rfl, gl, g, hld, k⟩ := h
    obtain ⟨sc, c1, c2, c3, c4, c5, c6⟩ := gl.sc
    refine ⟨_, rfl, _, rfl, v, n, sc, rfl, c1, c2, c3, c4, c5, ?_⟩
    rw [c6]
    intro r0 H1 S1 d1
    have hn1 := gl.1
    have hn12 := gl.2.1
    have h60 := gl.2.2.1
    have ho := gl.2.2.2.1
    obtain ⟨a, xs, e, ha, hxl, hdx, hx⟩ := lks_dt d1
    cases e
    refine ⟨_, rfl, _, rfl, v, n, ls, rfl, gl.to S1, fun r2 H2 S2 d2 => ?_⟩
    obtain ⟨a2, ys, e, ha2, hy⟩ := d2.list_inv
    cases e
    have hyl : ys.length = (knotL n (Rd.W n ls n)).length := by rw [hy.len, List.length_map]
    refine ⟨r2, rfl, ⟨_, SqL.of ha2⟩, fun d hd => ?_⟩
    refine itl_run (K := K) (a := r2) (xs := ys) (fun i H3 => Same H2 H3 ∧ H3 d = some (.lst (nV ((knotL n (Rd.W n ls n)).take i).flatten))) ⟨.new hd, upd_same⟩ (fun i H3 _ z => SqL.of (z.1 _ _ ha2)) ?_ ?_
    · rintro i x H3 hxi ⟨S3, h3⟩
      obtain ⟨q, m, rfl, hm, hq⟩ := rows_of hy hxi
      have hml := knotL_each (List.mem_of_getElem? hm)
      have hfl : ((knotL n (Rd.W n ls n)).take i).flatten.length ≤ 144 := by
        have h1 := flatten_len (n := n) (Ls := (knotL n (Rd.W n ls n)).take i) fun m hm => knotL_each (List.mem_of_mem_take hm)
        have h2 : ((knotL n (Rd.W n ls n)).take i).length ≤ 12 := by
          have := knotL_len n (Rd.W n ls n)
          rw [List.length_take]
          omega
        have h3 := Nat.mul_le_mul h2 hn12
        omega
      refine ⟨rfl, _, rfl, q, rfl, ⟨_, SqT.of (S3 _ _ hq)⟩, ?_⟩
      refine itt_run (K := K) (a := q) (xs := nV m) (fun j H4 => Same H2 H4 ∧ H4 d = some (.lst (nV (((knotL n (Rd.W n ls n)).take i).flatten ++ m.take j)))) ⟨S3, by rw [List.take_zero, List.append_nil]; exact h3⟩ (fun j H4 _ z => SqT.of (z.1 _ _ hq)) ?_ ?_
      · rintro j y H4 hyj ⟨S4, h4⟩
        obtain ⟨o, hmo, rfl⟩ := get_map hyj
        refine ⟨rfl, _, rfl, _, h4, small_line ?_, S4.mut hd, ?_⟩
        · rw [nV_len, List.length_append, List.length_take]
          omega
        · rw [upd_same, nV_snoc, take_succ_get hmo, List.append_assoc]
      · rintro H4 ⟨S4, h4⟩
        rw [nV_len, List.take_of_length_le (Nat.le_refl _)] at h4
        refine ⟨S4, ?_⟩
        rw [take_succ_get hm, List.flatten_append, List.flatten_singleton]
        exact h4
    · rintro H3 ⟨S3, h3⟩
      rw [hyl, List.take_of_length_le (Nat.le_refl _)] at h3
      have S13 := (S1.trans S2).trans S3
      refine ⟨_, rfl, n, rfl, ⟨by omega, by omega, by omega, by omega, by omega⟩, fun t ht => ?_⟩
      rw [rgV_nat, nV_ints]
      have S4 : Same H3 (upd H3 t (.lst (((List.range n).map fun v => ((v : Nat) : Int)).map V.int))) := .new ht
      have ht4 : upd H3 t (.lst (((List.range n).map fun v => ((v : Nat) : Int)).map V.int)) t = some (.lst (((List.range n).map fun v => ((v : Nat) : Int)).map V.int)) := upd_same
      have S14 := S13.trans S4
      have Ht : H t = none := none_of S13 ht
      generalize upd H3 t (.lst (((List.range n).map fun v => ((v : Nat) : Int)).map V.int)) = H4 at S4 ht4 S14 ⊢
      refine ⟨_, rfl, _, rfl, v, n, ls, rfl, gl.to S14, fun r5 H5 S5 d5 => ?_⟩
      refine ⟨.ref r5, n, Rd.W n ls n, rfl, by omega, Rd.len_W n ls n, d5, fun ro H6 od hod S6 hrn hr6 => ?_⟩
      have oo := hod.ord
      have hro : ro ≠ t := fun z => by
        rw [z, S5 _ _ ht4] at hrn
        cases hrn
      have SG : Same H3 (wo H6 t) := same_wo (S4.trans (S5.trans S6)) ht
      have SH : Same H (wo H6 t) := S13.trans SG
      have ht6 := S6 _ _ (S5 _ _ ht4)
      have hr6' : wo H6 t ro = some (.lst (nV od)) := by rw [wo_ne hro]; exact hr6
      have ha6 := SG _ _ (S3 _ _ (S2 _ _ ha))
      have hd6 := SG _ _ h3
      have SX : Same H1 (wo H6 t) := (S2.trans S3).trans SG
      obtain ⟨p9, zs, e, hp6, hz6⟩ := (hld.to SH).tuple_inv
      cases e
      have S60 : Same (wo H6 t) H6 := wo_same
      have Gt : wo H6 t t = none := wo_self
      generalize wo H6 t = G at SG SH hr6' ha6 hd6 SX hp6 hz6 S60 Gt
      refine ⟨ro, rfl, ⟨_, SqL.of hr6⟩, ?_⟩
      refine for_list (K := K) (a := ro) (xs := nV od) (fun i σ H7 => Same G H7 ∧ (∃ v4 v7, σ = [some v, some (.int n), some (.ref p), some (.ref r0), v4, some (.ref d), some (.ref t), v7, none, none, none]) ∧ ∃ N, NumI n ls L od i N ∧ H7 t = some (.lst (N.map V.int))) ⟨S60, ⟨_, _, rfl⟩, _, NumI.start n ls L od, ht6⟩ (fun i σ H7 _ z => SqL.of (z.1 _ _ hr6')) ?_ ?_
      · rintro i x σ H7 hxi ⟨S7, ⟨v4, v7, rfl⟩, N, hN, h7⟩
        obtain ⟨b, hb, rfl⟩ := get_map hxi
        have hbn : b < n := (oo.mem b).mp (List.mem_of_getElem? hb)
        have hsv := Rd.sets_sv (L := L) ho b hbn
        have hNl := hN.len
        refine ⟨_, rfl, r0, rfl, ⟨_, SqL.of (S7 _ _ ha6)⟩, fun w hw => ?_⟩
        refine lc_list (K := K) (a := r0) (xs := xs) (fun m H8 => Same H7 H8 ∧ H8 w = some (.lst (nV (Rd.wr (ls.take m) b)))) ⟨.new hw, upd_same⟩ (fun m H8 _ z => SqL.of (z.1 _ _ (S7 _ _ ha6))) ?_ ?_
        · rintro m x H8 hxm ⟨S8, h8⟩
          obtain ⟨q, l, rfl, hl, hq⟩ := hx m x hxm
          have hq8 := S8 _ _ (S7 _ _ (SX _ _ hq))
          refine ⟨q, _, rfl, SqT.of hq8, rfl, _, _, rfl, _, _, rfl, rfl, rfl, _, rfl, _, rfl, rfl, _, rfl, ?_⟩
          rw [wr_take_succ hl]
          refine iteI (fun c => ?_) (fun c => ?_)
          · have c2 : l.1 = b := by omega
            refine ⟨_, rfl, _, h8, small_line ?_, S8.mut hw, ?_⟩
            · have := wr_len (ls.take m) b
              rw [List.length_take] at this
              rw [nV_len]
              omega
            · rw [upd_same, nV_snoc, if_pos c2]
          · rw [if_neg (fun z => c (by omega)), List.append_nil]
            exact ⟨S8, h8⟩
        · rintro H8 ⟨S8, h8⟩
          rw [List.take_of_length_le (show ls.length ≤ xs.length by omega)] at h8
          have S78 := S7.trans S8
          have h7' := S8 _ _ h7
          have hwt : w ≠ t := fun z => by
            rw [z, h7] at hw
            cases hw
          refine ⟨_, rfl, _, rfl, d, _, rfl, .inl (SqL.of (S78 _ _ hd6)), rfl, flat_nats _, _, rfl, ?_⟩
          rw [if_neg Bool.false_ne_true, inV_nat]
          refine iteD (fun c => ?_) (fun c => ?_)
          · have hk : Rd.kn n ls b = true := (knot_mem ho hbn).mp c
            rw [if_pos hk] at hsv
            obtain ⟨q, hat, hq⟩ := lots_at hz6 (b := b) (by rw [g.len]; exact hbn)
            have hv := g.some b hbn
            refine ⟨_, rfl, _, rfl, p, _, _, _, rfl, rfl, SqT.of (S78 _ _ hp6), hat, q, (lotL n (Rd.gL L b)).map fun v => ((v : Nat) : Int), rfl, fun z => ?_, by rw [← nV_ints]; exact S78 _ _ hq, ?_⟩
            · obtain ⟨u, hu⟩ := hv
              have : u ∈ lotL n (Rd.gL L b) := mem_lotL.mpr ⟨g.low b u hu, hu⟩
              rw [List.map_eq_nil_iff.mp z] at this
              cases this
            · rw [common_lot hv (g.low b), ← hsv]
              refine ⟨_, rfl, _, rfl, t, _, _, b, rfl, rfl, h7', ix_nat (by rw [List.length_map]; omega), S78.mut Gt, ⟨_, _, rfl⟩, _, hN.put hb hbn, ?_⟩
              rw [upd_same, List.map_set]
          · have hk : Rd.kn n ls b = false := Bool.eq_false_iff.mpr fun z => c ((knot_mem ho hbn).mpr z)
            rw [if_neg (by rw [hk]; exact Bool.false_ne_true)] at hsv
            refine ⟨_, rfl, _, .inl ⟨_, SqL.of h8, rfl⟩, ?_⟩
            by_cases hw0 : Rd.wr ls b = []
            · rw [if_pos hw0] at hsv
              rw [hw0]
              exact iteF ⟨S78, ⟨_, _, rfl⟩, N, hN.skip oo.nodup hb hbn hsv, h7'⟩
            · rw [if_neg hw0] at hsv
              have e2 : (!(nV (Rd.wr ls b)).isEmpty) = true := by
                cases hm' : Rd.wr ls b with
                | nil => exact absurd hm' hw0
                | cons _ _ => rfl
              rw [e2]
              refine iteT ?_
              refine ⟨_, rfl, w, rfl, ⟨_, SqL.of h8⟩, fun z hz => ?_⟩
              refine lc_list (K := K) (a := w) (xs := nV (Rd.wr ls b)) (fun m H9 => Same H8 H9 ∧ H9 z = some (.lst ((((Rd.wr ls b).take m).map (Rd.gI N)).map V.int))) ⟨.new hz, upd_same⟩ (fun m H9 _ q => SqL.of (q.1 _ _ h8)) ?_ ?_
              · rintro m x H9 hxm ⟨S9, h9⟩
                obtain ⟨u, hu, rfl⟩ := get_map hxm
                have hun := (ho _ (Rd.mem_wr.mp (List.mem_of_getElem? hu))).2.1
                refine ⟨rfl, _, rfl, _, rfl, t, _, _, _, rfl, rfl, SqL.of (S9 _ _ h7'), ints_atI (by rw [hNl]; exact hun), _, h9, small_line ?_, S9.mut hz, ?_⟩
                · have := wr_len ls b
                  rw [List.length_map, List.length_map, List.length_take]
                  omega
                · rw [upd_same, take_succ_get hu, List.map_append, List.map_append]
                  rfl
              · rintro H9 ⟨S9, h9⟩
                rw [nV_len, List.take_of_length_le (Nat.le_refl _)] at h9
                have ec : (Rd.wr ls b).map (Rd.gI N) = (Rd.wr ls b).map (Rd.gI (Rd.sv n ls L)) := List.map_congr_left fun u hu => by
                  have hun := (ho _ (Rd.mem_wr.mp hu)).2.1
                  exact hN.done u hun (src_first ho oo hb hu hk)
                rw [ec] at h9
                refine ⟨z, _, rfl, fun q => hw0 (List.map_eq_nil_iff.mp q), h9, ?_⟩
                rw [← hsv]
                refine ⟨_, rfl, _, rfl, t, _, _, b, rfl, rfl, S9 _ _ h7', ix_nat (by rw [List.length_map]; omega), (S78.trans S9).mut Gt, ⟨_, _, rfl⟩, _, hN.put hb hbn, ?_⟩
                rw [upd_same, List.map_set]
      · rintro σ H7 ⟨S7, ⟨v4, v7, rfl⟩, N, hN, h7⟩
        rw [nV_len] at hN
        rw [hN.fin oo.mem] at h7
        exact ⟨_, rfl, t, _, rfl, SqL.of h7, fun z o hz hc hdd => k z o _ ((SH.trans S7).to hz) hc hdd upd_same⟩
end
end Rw
/-! ## FAns -/
namespace Rw
open PySem PySem.Spec PyProof.Rows L2
abbrev settled_N : List Str := ["script", "blocks"]
theorem sc_settled : FnScope settled_N ["script", "blocks"] (defScope s_settled) := ⟨rfl, rfl, rfl, by decide +kernel, rfl, by decide +kernel, by decide +kernel⟩
theorem m_settled : d_settled ∈ fn := List.mem_of_getElem? (i := 20) rfl
abbrev repeats_N : List Str := ["script", "blocks", "held", "numbers", "writes", "order", "block"]
theorem sc_repeats : FnScope repeats_N ["script", "blocks"] (defScope s_repeats) := ⟨rfl, rfl, rfl, by decide +kernel, rfl, by decide +kernel, by decide +kernel⟩
theorem m_repeats : d_repeats ∈ fn := List.mem_of_getElem? (i := 21) rfl
abbrev unA (K : PySem.W.Frag) : Addr := He.ga K "Unsettled"
def RaisedU (K : PySem.W.Frag) (b : Nat) (H : Hp) (E : XK) : Prop := ∀ d H', Same H H' → H' d = some (.xd [("block", .int (b : Int))]) → E (.ref (unA K)) (some d) H'
theorem RaisedU.from {K : PySem.W.Frag} {b : Nat} {H H1 : Hp} {E : XK} (r : RaisedU K b H E) (S : Same H H1) : RaisedU K b H1 E := fun d H' S' e => r d H' (S.trans S') e
abbrev svL (n : Nat) (ls : List Lk) : List Int := Rd.sv n ls (Rd.late n ls)
def spSettled2 (K : PySem.W.Frag) : Sp := fun vs H Q E => ∃ (v : V) (n : Nat) (sc : Scr), vs = [v, .int (n : Int)] ∧ Passed H v n sc ∧
  (match sc.out n with
    | .good ls => ∀ r o H', Same H H' → H' r = some (.frz o (.tup ((svL n ls).map V.int))) → Q (.ref r) H'
    | .bad pl i => Raised K pl i H E)
def spRepeats (K : PySem.W.Frag) : Sp := fun vs H Q E => ∃ (v : V) (n : Nat) (sc : Scr), vs = [v, .int (n : Int)] ∧ Passed H v n sc ∧
  (match sc.out n with
    | .good ls => ((∀ b, b < n → Rd.gI (svL n ls) b ≠ -2) → ∀ r H' W od, LastW n ls W → Rd.Ord n ls od → Same H H' → H' r = some (.lst (((od.filter (Rd.multi n (Rd.late n ls))).map (Rd.gI W)).map V.int)) → Q (.ref r) H') ∧
        (∀ b0, b0 < n → Rd.gI (svL n ls) b0 = -2 → (∀ c, c < b0 → Rd.gI (svL n ls) c ≠ -2) → RaisedU K b0 H E)
    | .bad pl i => Raised K pl i H E)
/-- the lots of more than one number -/
theorem lot_multi {n : Nat} {L : List Nat} {b : Nat} (g : Rd.Good n L) (hb : b < n) : decide (1 < (lotL n (Rd.gL L b)).length) = Rd.multi n L b := by
  obtain ⟨v0, hv0⟩ := g.some b hb
  have hm0 : v0 ∈ lotL n (Rd.gL L b) := mem_lotL.mpr ⟨g.low b v0 hv0, hv0⟩
  rw [Rd.multi]
  rcases Rd.sing_cases n (Rd.gL L b) with e | ⟨v, e⟩
  · rw [e]
    refine decide_eq_true ?_
    refine Classical.byContradiction fun c => ?_
    cases q : lotL n (Rd.gL L b) with
    | nil => rw [q] at hm0; cases hm0
    | cons x r =>
      cases r with
      | cons y r => rw [q] at c; exact c (by simp)
      | nil =>
        have all : ∀ u, (Rd.gL L b).testBit u = true → u = x := fun u hu => by
          have h1 : u ∈ lotL n (Rd.gL L b) := mem_lotL.mpr ⟨g.low b u hu, hu⟩
          rw [q] at h1
          exact List.mem_singleton.mp h1
        have em : Rd.gL L b = 2 ^ v0 := Rd.bits_pow fun u => by
          constructor
          · intro hu
            rw [all u hu, all v0 hv0]
          · rintro rfl
            exact hv0
        rw [em, Rd.sing_pow (g.low b v0 hv0)] at e
        omega
  · obtain ⟨em, hvn⟩ := Rd.sing_some e
    rw [e, em, lotL_pow hvn]
    refine (decide_eq_false (by simp)).trans ?_
    exact (beq_eq_false_iff_ne.mpr (by omega)).symm
theorem first_int {z : Int} : ∀ {W : List Int}, z ∈ W → ∃ j : Nat, W[j]? = some z ∧ ∀ m, m < j → W[m]? ≠ some z
  | [], h => nomatch h
  | x :: r, h => by
    by_cases e : x = z
    · exact ⟨0, by rw [e]; rfl, fun m hm => absurd hm (Nat.not_lt_zero _)⟩
    · obtain ⟨j, h1, h2⟩ := first_int (W := r) ((List.mem_cons.mp h).resolve_left fun q => e q.symm)
      refine ⟨j + 1, by rw [List.getElem?_cons_succ]; exact h1, fun m hm => ?_⟩
      cases m with
      | zero => exact fun q => e (Option.some.inj q)
      | succ m => rw [List.getElem?_cons_succ]; exact h2 m (by omega)
section
variable {P : Program} {w : World} {K : PySem.W.Frag} {mg : Str → Option Value} {base : Heap}
theorem ok_settled2 (T : Txt K mg) (TE : Errs P K mg) : Okd P w K mg base (L2.CX P w) 9 "settled" ["script", "blocks"] (spSettled2 K) := by
  have c_late_lots : Okd P w K mg base (L2.CX P w) 6 "late_lots" ["script", "blocks"] (spLots K) := ok_lots T TE
  have c_settled_from : Okd P w K mg base (L2.CX P w) 8 "_settled_from" ["script", "blocks", "held"] spFrom := ok_from T TE
  refine okd_mk (st := s_settled) T m_settled sc_settled (fun vs H Q E h => ?_) (fun _ _ _ _ _ _ us hl => match us, hl with | [_, _], _ => rfl) (fun f cdv A outer s H vs Q E hr h => ⟨_, (pss_one (ps_ret (pe_cdX c_settled_from hr (by decide) rfl (takes_of rfl rfl rfl rfl) (pa_cons (pv 0) (pa_cons (pv 1) (pa_cons (pe_cdX c_late_lots hr (by decide) rfl (takes_of rfl rfl rfl rfl) (pa_cons (pv 0) (pa_cons (pv 1) pa_nil))) pa_nil)))))), ?_⟩)
  · obtain ⟨v, n, sc, rfl, _⟩ := h
    rfl
  · obtain ⟨v, n, sc, rfl, ps, k⟩ := h
    refine ⟨_, rfl, _, rfl, _, rfl, _, rfl, v, n, sc, rfl, ps, ?_⟩
    cases eo : sc.out n with
    | bad pl i =>
      rw [eo] at k
      exact k
    | good ls =>
      rw [eo] at k
      obtain ⟨h60, ho, _⟩ := out_good eo
      intro r0 H1 S1 d1
      exact ⟨v, r0, n, ls, Rd.late n ls, rfl, (ps.good eo).to S1, Rd.Good.late ho, d1, fun r o H2 S2 _ _ h2 => k r o H2 (S1.trans S2) h2⟩
theorem ok_repeats (T : Txt K mg) (TE : Errs P K mg) : Okd P w K mg base (L2.CX P w) 9 "repeats" ["script", "blocks"] (spRepeats K) := by
  have c_check_log : Okd P w K mg base (L2.CX P w) 5 "check_log" ["script", "blocks"] (spLog K) := ok_log T TE
  have c_within_reach : Okd P w K mg base (L2.CX P w) 6 "within_reach" ["script", "blocks"] spWithin := ok_within T TE
  have c_sources_first : Okd P w K mg base CX0 1 "_sources_first" ["reach"] spOrder := ok_order T
  have c_last_writes : Okd P w K mg base CX0 1 "last_writes" ["log", "blocks"] spLastW := ok_last T
  have c_late_lots : Okd P w K mg base (L2.CX P w) 6 "late_lots" ["script", "blocks"] (spLots K) := ok_lots T TE
  have c_settled_from : Okd P w K mg base (L2.CX P w) 8 "_settled_from" ["script", "blocks", "held"] spFrom := ok_from T TE
  obtain ⟨_, h_FREE⟩ := T.c_FREE
  refine okd_mk (st := s_repeats) T m_repeats sc_repeats (fun vs H Q E h => ?_) (fun _ _ _ _ _ _ us hl => match us, hl with | [_, _], _ => rfl) (fun f cdv A outer s H vs Q E hr h => ⟨_, (pss_cons (ps_set (i := 2) sc_repeats.nd rfl (Or.inr rfl) (pe_cdX c_late_lots hr (by decide) rfl (takes_of rfl rfl rfl rfl) (pa_cons (pv 0) (pa_cons (pv 1) pa_nil))))
  (pss_cons (ps_set (i := 3) sc_repeats.nd rfl (Or.inl rfl) (pe_cdX c_settled_from hr (by decide) rfl (takes_of rfl rfl rfl rfl) (pa_cons (pv 0) (pa_cons (pv 1) (pa_cons (pv 2) pa_nil)))))
  (pss_cons (ps_if (pt_cmpR op_in_seq (pe_glob (v := .int (-2)) rfl h_FREE ⟨_, rfl⟩) (pv 3) (by rfl))
    (pss_one (ps_raiseE rfl TE.un hr (takes_of rfl rfl rfl rfl) (pa_cons (pe_bmT PySem.F.plainAttrs_tuple PySem.F.slot_tuple_index PySem.F.type_tuple_index mt_tup_indexI (pv 3) (pa_cons (pe_glob (v := .int (-2)) rfl h_FREE ⟨_, rfl⟩) pa_nil)) pa_nil) rfl))
    pss_nil)
  (pss_cons (ps_set (i := 4) sc_repeats.nd rfl (Or.inr rfl) (pe_cd c_last_writes hr (by decide) rfl (pa_cons (pe_cdX c_check_log hr (by decide) rfl (takes_of rfl rfl rfl rfl) (pa_cons (pv 0) (pa_cons (pv 1) pa_nil))) (pa_cons (pv 1) pa_nil))))
  (pss_cons (ps_set (i := 5) sc_repeats.nd rfl (Or.inl rfl) (pe_cd c_sources_first hr (by decide) rfl (pa_cons (pe_cdX c_within_reach hr (by decide) rfl (takes_of rfl rfl rfl rfl) (pa_cons (pv 0) (pa_cons (pv 1) pa_nil))) pa_nil)))
  (pss_one (ps_ret (pe_lc (own := [("block", 6)]) (g := (gName 6)) rfl sc_repeats.nd (pi_list (pv 5)) (blkOk_by (N := repeats_N) (sc := defScope s_repeats) (by decide +kernel)) (fun _ _ _ _ _ => (pg_name (i := 6) sc_repeats.nd rfl (Or.inl rfl))) (fun _ _ _ _ _ => (pts_one (pt_cmpR op_gt (pe_callB (r := Evl.rLenS K) call_len_seq (by rfl) T.b_len PySem.boot_len (pa_cons (pe_ix (r := rIxT K) ix_tup (pv 2) (pv 6) (fun _ _ => rfl)) pa_nil)) pe_int (nomark _)))) (fun _ _ _ _ _ => (pe_ix (r := rIxL K) ix_list (pv 4) (pv 6) (fun _ _ => rfl))))))))))), ?_⟩)
  · obtain ⟨v, n, sc, rfl, _⟩ := h
    rfl
  · obtain ⟨v, n, sc, rfl, ps, k⟩ := h
    refine ⟨_, rfl, _, rfl, v, n, sc, rfl, ps, ?_⟩
    cases eo : sc.out n with
    | bad pl i =>
      rw [eo] at k
      exact k
    | good ls =>
      rw [eo] at k
      obtain ⟨k1, k2⟩ := k
      obtain ⟨h60, ho, _⟩ := out_good eo
      have hn12 := ps.n2
      have hn1 := ps.n1
      intro r0 H1 S1 d1
      refine ⟨_, rfl, _, rfl, _, rfl, v, r0, n, ls, Rd.late n ls, rfl, (ps.good eo).to S1, Rd.Good.late ho, d1, fun r oo H2 S2 hoc hod h2 => ?_⟩
      have S12 := S1.trans S2
      refine ⟨_, rfl, r, _, rfl, .inr (sqt_frz h2), rfl, flat_ints _, _, rfl, ?_⟩
      rw [if_neg Bool.false_ne_true, inV_ints]
      have hsl := Rd.len_sv n ls (Rd.late n ls)
      refine iteD (fun c => ?_) (fun c => ?_)
      · obtain ⟨b0, e0, hno⟩ := first_int c
        have hb0 := get_lt e0
        have at_ : ∀ m, m < n → (svL n ls)[m]? = some (Rd.gI (svL n ls) m) := fun m hm => by
          have hm' : m < (svL n ls).length := by rw [hsl]; exact hm
          rw [List.getElem?_eq_getElem hm', Rd.gI, List.getD_eq_getElem?_getD, List.getElem?_eq_getElem hm']
          rfl
        have hbn : b0 < n := by rw [← hsl]; exact hb0
        have e0' := at_ b0 hbn
        rw [e0] at e0'
        have q := k2 b0 hbn (Option.some.inj e0').symm fun m hm z => hno m hm (by rw [at_ m (by omega), z])
        exact ⟨_, rfl, ⟨_, _, _, rfl, h2, hoc, hod⟩, r, _, -2, b0, rfl, rfl, sqt_frz h2, e0, hno, b0, rfl, by omega, by omega, fun d hd0 => q d _ (S12.to hd0) upd_same⟩
      · have hv : ∀ b, b < n → Rd.gI (svL n ls) b ≠ -2 := fun b hb z => c (by
          have hb' : b < (svL n ls).length := by rw [hsl]; exact hb
          refine List.mem_of_getElem? (i := b) ?_
          rw [List.getElem?_eq_getElem hb', ← z, Rd.gI, List.getD_eq_getElem?_getD, List.getElem?_eq_getElem hb']
          rfl)
        have g2 := (ps.good eo).to S12
        obtain ⟨sc', c1, c2, c3, c4, c5, c6⟩ := g2.sc
        refine ⟨_, rfl, _, rfl, v, n, sc', rfl, c1, c2, c3, c4, c5, ?_⟩
        rw [c6]
        intro r3 H3 S3 d3
        refine ⟨_, rfl, .ref r3, n, ls, rfl, by omega, by omega, ho, d3, fun rW H4 W hW S4 hrW => ?_⟩
        have S14 := S12.trans (S3.trans S4)
        refine ⟨_, rfl, _, rfl, v, n, ls, rfl, (ps.good eo).to S14, fun r5 H5 S5 d5 => ?_⟩
        refine ⟨.ref r5, n, Rd.W n ls n, rfl, by omega, Rd.len_W n ls n, d5, fun ro H6 od hod2 S6 hrn hr6 => ?_⟩
        have oo := hod2.ord
        have S16 := S14.trans (S5.trans S6)
        have S26 : Same H1 H6 := S2.trans (S3.trans (S4.trans (S5.trans S6)))
        obtain ⟨a9, zs, e, hp6, hz6⟩ := (d1.to S26).tuple_inv
        cases e
        have hW6 := S6 _ _ (S5 _ _ hrW)
        have hWl := hW.len
        refine ⟨_, rfl, ro, rfl, ⟨_, SqL.of hr6⟩, fun d hd => ?_⟩
        refine lc_list (K := K) (a := ro) (xs := nV od) (fun i H7 => Same H6 H7 ∧ H7 d = some (.lst ((((od.take i).filter (Rd.multi n (Rd.late n ls))).map (Rd.gI W)).map V.int))) ⟨.new hd, upd_same⟩ (fun i H7 _ z => SqL.of (z.1 _ _ hr6)) ?_ ?_
        · rintro i x H7 hxi ⟨S7, h7⟩
          obtain ⟨b, hb, rfl⟩ := get_map hxi
          have hbn : b < n := (oo.mem b).mp (List.mem_of_getElem? hb)
          have gl := Rd.Good.late ho
          obtain ⟨q, hat, hq⟩ := lots_at hz6 (b := b) (by rw [gl.len]; exact hbn)
          refine ⟨rfl, _, rfl, _, rfl, r0, _, _, _, rfl, rfl, SqT.of (S7 _ _ hp6), hat, q, _, rfl, .inr (SqT.of (S7 _ _ hq)), _, _, rfl, rfl, _, rfl, ?_⟩
          rw [nV_len, filter_take_succ hb, ← lot_multi gl hbn]
          refine iteD (fun c => ?_) (fun c => ?_)
          · rw [if_pos (decide_eq_true (by omega))]
            refine ⟨_, rfl, _, rfl, rW, _, _, _, rfl, rfl, SqL.of (S7 _ _ hW6), ints_atI (by omega), _, h7, small_line ?_, S7.mut hd, ?_⟩
            · have h1 := List.length_filter_le (Rd.multi n (Rd.late n ls)) (od.take i)
              have h2 := hod2.perm.length_eq
              rw [List.length_range] at h2
              rw [List.length_take] at h1
              rw [List.length_map, List.length_map]
              omega
            · rw [upd_same, List.map_append, List.map_append]
              rfl
          · rw [if_neg (by rw [decide_eq_false (by omega)]; exact Bool.false_ne_true), List.append_nil]
            exact ⟨S7, h7⟩
        · rintro H7 ⟨S7, h7⟩
          rw [nV_len, List.take_of_length_le (Nat.le_refl _)] at h7
          exact k1 hv d H7 W od hW oo (S16.trans S7) h7
end
end Rw
/-! ## FAsk -/
namespace Rw
open PySem PySem.Spec PyProof.Rows L2
abbrev law_refusal_N : List Str := ["_law_ask", "_law_script", "_law_blocks", "e"]
theorem sc_law_refusal : FnScope law_refusal_N ["_law_ask", "_law_script", "_law_blocks"] (defScope s_law_refusal) := ⟨rfl, rfl, rfl, by decide +kernel, rfl, by decide +kernel, by decide +kernel⟩
theorem m_law_refusal : d_law_refusal ∈ fn := List.mem_of_getElem? (i := 35) rfl
abbrev law_repeated_N : List Str := ["_law_log", "_law_blocks", "_law_told", "e"]
theorem sc_law_repeated : FnScope law_repeated_N ["_law_log", "_law_blocks"] (defScope s_law_repeated) := ⟨rfl, rfl, rfl, by decide +kernel, rfl, by decide +kernel, by decide +kernel⟩
theorem m_law_repeated : d_law_repeated ∈ fn := List.mem_of_getElem? (i := 47) rfl
/-- nothing is let out -/
abbrev WF : WX := fun _ _ _ _ => False
theorem takes_none {X : Cx} : Takes X WF := fun u s' h => by
  obtain ⟨_, _, _, _, _, _, _, _, _, _, _, _, _, _, _, _, w⟩ := h
  exact w.elim
/-- what settled and repeats do with a script that check_log refuses -/
def spBad (K : PySem.W.Frag) : Sp := fun vs H Q E => ∃ (v : V) (n : Nat) (sc : Scr) (pl : Bool) (i : Int), vs = [v, .int (n : Int)] ∧ Passed H v n sc ∧ sc.out n = .bad pl i ∧ Raised K pl i H E
abbrev isAsk (K : PySem.W.Frag) (f : Addr) : Prop := f = He.ga K "settled" ∨ f = He.ga K "repeats"
def spRefusal (K : PySem.W.Frag) : Sp := fun vs H Q _ => ∃ (f : Addr) (v : V) (n : Nat) (sc : Scr) (pl : Bool) (i : Int), vs = [.ref f, v, .int (n : Int)] ∧ isAsk K f ∧ Passed H v n sc ∧ sc.out n = .bad pl i ∧
  ∀ r H', Same H H' → H' r = some (.tup [.int (if pl then 1 else 2), .int i]) → Q (.ref r) H'
def spRepeated : Sp := fun vs H Q _ => ∃ (v : V) (n : Nat) (ls : List Lk), vs = [v, .int (n : Int)] ∧ GoodLog H v n ls ∧
  ((∀ b, b < n → Rd.gI (svL n ls) b ≠ -2) → ∀ r q H' W od, LastW n ls W → Rd.Ord n ls od → Same H H' → H' r = some (.lst [.int 0, .ref q]) → H' q = some (.lst (((od.filter (Rd.multi n (Rd.late n ls))).map (Rd.gI W)).map V.int)) → Q (.ref r) H') ∧
  (∀ b0, b0 < n → Rd.gI (svL n ls) b0 = -2 → (∀ c, c < b0 → Rd.gI (svL n ls) c ≠ -2) → ∀ r H', Same H H' → H' r = some (.lst [.int 1, .int (b0 : Int)]) → Q (.ref r) H')
section
variable {P : Program} {w : World} {K : PySem.W.Frag} {mg : Str → Option Value} {base : Heap}
theorem held_ask (T : Txt K mg) (TE : Errs P K mg) : ∀ f, isAsk K f → HeldX P w K mg base 9 f (spBad K) := fun f hf => by
  have h1 : Okd P w K mg base (L2.CX P w) 9 "settled" ["script", "blocks"] (spSettled2 K) := ok_settled2 T TE
  have h2 : Okd P w K mg base (L2.CX P w) 9 "repeats" ["script", "blocks"] (spRepeats K) := ok_repeats T TE
  rcases hf with rfl | rfl
  · obtain ⟨fd, F, b, kp⟩ := h1.ex
    exact ⟨fd, _, F.imp fun vs H Q E ⟨v, n, sc, pl, i, e, ps, eo, ra⟩ => ⟨v, n, sc, e, ps, by rw [eo]; exact ra⟩, kp, b⟩
  · obtain ⟨fd, F, b, kp⟩ := h2.ex
    exact ⟨fd, _, F.imp fun vs H Q E ⟨v, n, sc, pl, i, e, ps, eo, ra⟩ => ⟨v, n, sc, e, ps, by rw [eo]; exact ra⟩, kp, b⟩
theorem ok_refusal (T : Txt K mg) (TE : Errs P K mg) : Okd P w K mg base CX0 10 "_law_refusal" ["_law_ask", "_law_script", "_law_blocks"] (spRefusal K) := by
  have A_ask : ∀ f, isAsk K f → HeldX P w K mg base 9 f (spBad K) := held_ask T TE
  refine okd0 (st := s_law_refusal) T m_law_refusal sc_law_refusal (fun vs H Q E h => ?_) (fun _ _ _ _ _ _ us hl => match us, hl with | [_, _, _], _ => rfl) (fun f cdv A outer s H vs Q E hr h => ⟨_, (pss_cons (ps_try_asM (i := 3) (Wout := WF) rfl rfl sc_law_refusal.nd rfl rfl takes_none (fun W pn xe tkw pas => (pss_one (ps_expr (pe_callF (i := 0) A_ask hr (by decide) rfl (Or.inl rfl) tkw (pa_cons (pv 1) (pa_cons (pv 2) pa_nil))))))
  (ClsOk.cons ⟨rfl, by decide, .inl T.k_InvalidLine⟩ (fun a oe cls d pn hz hf => (pss_cons (ps_if (PW.pt (pw_or (pt_val (pe_callB (call_isX hz hf) (by rfl) T.b_isinstance (by decide +kernel) (pa_cons (pv 3) (pa_cons (pe_glob (v := .ref (He.ga K "NotPlain")) rfl T.k_NotPlain rfl) pa_nil)))) (pw_or (pt_not (pt_val (pe_callB (call_isX hz hf) (by rfl) T.b_isinstance (by decide +kernel) (pa_cons (pv 3) (pa_cons (pe_glob (v := .ref (He.ga K "RedoError")) rfl T.k_RedoError rfl) pa_nil))))) (pw_or1 (pt_not (pt_val (pe_callB (call_isX hz hf) (by rfl) T.b_isinstance (by decide +kernel) (pa_cons (pv 3) (pa_cons (pe_bltn (v := .ty "ValueError") (by rfl) T.b_ValueError (by decide +kernel) rfl) pa_nil)))))))))
      (pss_one (ps_ret (pe_tup (pa_cons pe_int (pa_cons pe_int pa_nil)))))
      pss_nil)
    (pss_one (ps_ret (pe_tup (pa_cons pe_int (pa_cons (pe_fldE TE.il hz hf (pv 3)) pa_nil)))))))
  (ClsOk.cons ⟨rfl, by decide, .inl T.k_NotPlain⟩ (fun a oe cls d pn hz hf => (pss_cons (ps_if (PW.pt (pw_or (pt_not (pt_val (pe_callB (call_isX hz hf) (by rfl) T.b_isinstance (by decide +kernel) (pa_cons (pv 3) (pa_cons (pe_glob (v := .ref (He.ga K "RedoError")) rfl T.k_RedoError rfl) pa_nil))))) (pw_or1 (pt_not (pt_val (pe_callB (call_isX hz hf) (by rfl) T.b_isinstance (by decide +kernel) (pa_cons (pv 3) (pa_cons (pe_bltn (v := .ty "ValueError") (by rfl) T.b_ValueError (by decide +kernel) rfl) pa_nil))))))))
      (pss_one (ps_ret (pe_tup (pa_cons pe_int (pa_cons pe_int pa_nil)))))
      pss_nil)
    (pss_one (ps_ret (pe_tup (pa_cons pe_int (pa_cons (pe_fldE TE.np hz hf (pv 3)) pa_nil)))))))
  ClsOk.nil)))
  (pss_one (ps_ret (pe_tup (pa_cons pe_int (pa_cons pe_int pa_nil)))))), ?_⟩)
  · obtain ⟨f, v, n, sc, pl, i, rfl, _⟩ := h
    rfl
  · obtain ⟨f, v, n, sc, pl, i, rfl, hf, ps, eo, k⟩ := h
    refine ⟨f, rfl, hf, _, rfl, _, rfl, v, n, sc, pl, i, rfl, ps, eo, fun d H' S' hd => ?_⟩
    cases pl with
    | false =>
      obtain ⟨r1, r2, r3⟩ := rel_ok TE.ril
      refine ⟨true, r1, fun _ a ha => ?_, fun z => nomatch z⟩
      refine ⟨_, rfl, ilA K, _, _, false, d, _, rfl, TE.xil, rfl, rfl, hd, fun u hu => hu, TE.k1, _, rfl, ?_⟩
      refine iteF ?_
      refine ⟨_, rfl, ilA K, _, _, true, d, _, rfl, TE.xil, rfl, rfl, hd, fun u hu => hu, r2, _, rfl, ?_⟩
      refine iteF ?_
      refine ⟨_, rfl, ilA K, _, _, true, d, _, rfl, TE.xil, rfl, rfl, hd, fun u hu => hu, r3, _, rfl, ?_⟩
      refine iteF ?_
      refine ⟨_, rfl, rfl, rfl, d, _, rfl, hd, (by show 2 ≤ sizeLine; decide), fun r hr => ?_⟩
      exact k r _ (S'.to hr) upd_same
    | true =>
      obtain ⟨r1, r2, r3⟩ := rel_ok TE.rnp
      refine ⟨false, TE.e1, (fun z => nomatch z), fun _ => ⟨true, r1, fun _ a ha => ?_, fun z => nomatch z⟩⟩
      refine ⟨_, rfl, npA K, _, _, true, d, _, rfl, TE.xnp, rfl, rfl, hd, fun u hu => hu, r2, _, rfl, ?_⟩
      refine iteF ?_
      refine ⟨_, rfl, npA K, _, _, true, d, _, rfl, TE.xnp, rfl, rfl, hd, fun u hu => hu, r3, _, rfl, ?_⟩
      refine iteF ?_
      refine ⟨_, rfl, rfl, rfl, d, _, rfl, hd, (by show 2 ≤ sizeLine; decide), fun r hr => ?_⟩
      exact k r _ (S'.to hr) upd_same
theorem ok_repeated (T : Txt K mg) (TE : Errs P K mg) : Okd P w K mg base CX0 10 "_law_repeated" ["_law_log", "_law_blocks"] spRepeated := by
  have c_repeats : Okd P w K mg base (L2.CX P w) 9 "repeats" ["script", "blocks"] (spRepeats K) := ok_repeats T TE
  refine okd0 (st := s_law_repeated) T m_law_repeated sc_law_repeated (fun vs H Q E h => ?_) (fun _ _ _ _ _ _ us hl => match us, hl with | [_, _], _ => rfl) (fun f cdv A outer s H vs Q E hr h => ⟨_, (pss_cons (ps_try_asM (i := 3) (Wout := WF) rfl rfl sc_law_repeated.nd rfl rfl takes_none (fun W pn xe tkw pas => (pss_one (ps_set (i := 2) sc_law_repeated.nd rfl (Or.inl rfl) (pe_cdX c_repeats hr (by decide) rfl tkw (pa_cons (pv 0) (pa_cons (pv 1) pa_nil))))))
  (ClsOk.cons ⟨rfl, by decide, .inl T.k_Unsettled⟩ (fun a oe cls d pn hz hf => (pss_cons (ps_if (PW.pt (pw_or (pt_not (pt_val (pe_callB (call_isX hz hf) (by rfl) T.b_isinstance (by decide +kernel) (pa_cons (pv 3) (pa_cons (pe_glob (v := .ref (He.ga K "RedoError")) rfl T.k_RedoError rfl) pa_nil))))) (pw_or1 (pt_not (pt_val (pe_callB (call_isX hz hf) (by rfl) T.b_isinstance (by decide +kernel) (pa_cons (pv 3) (pa_cons (pe_bltn (v := .ty "ValueError") (by rfl) T.b_ValueError (by decide +kernel) rfl) pa_nil))))))))
      (pss_one (ps_ret (pe_lst (pa_cons pe_int (pa_cons pe_int pa_nil)))))
      pss_nil)
    (pss_one (ps_ret (pe_lst (pa_cons pe_int (pa_cons (pe_fldE TE.un hz hf (pv 3)) pa_nil)))))))
  ClsOk.nil))
  (pss_one (ps_ret (pe_lst (pa_cons pe_int (pa_cons (pv 2) pa_nil)))))), ?_⟩)
  · obtain ⟨v, n, ls, rfl, _⟩ := h
    rfl
  · obtain ⟨v, n, ls, rfl, gl, k1, k2⟩ := h
    obtain ⟨sc, ps, eo⟩ := gl.passed
    refine ⟨_, rfl, _, rfl, v, n, sc, rfl, ps, ?_⟩
    rw [eo]
    refine ⟨fun hv r H' W od hW oo S' hr => ?_, fun b0 hb e0 hno d H' S' hd => ?_⟩
    · refine ⟨_, rfl, (by show 2 ≤ sizeLine; decide), fun t ht => ?_⟩
      exact k1 hv t r _ W od hW oo (S'.to ht) upd_same ((Same.new ht) _ _ hr)
    · obtain ⟨r1, r2, r3⟩ := rel_ok TE.run
      refine ⟨true, r1, fun _ a ha => ?_, fun z => nomatch z⟩
      refine ⟨_, rfl, unA K, _, _, true, d, _, rfl, TE.xun, rfl, rfl, hd, fun u hu => hu, r2, _, rfl, ?_⟩
      refine iteF ?_
      refine ⟨_, rfl, unA K, _, _, true, d, _, rfl, TE.xun, rfl, rfl, hd, fun u hu => hu, r3, _, rfl, ?_⟩
      refine iteF ?_
      refine ⟨_, rfl, rfl, rfl, d, _, rfl, hd, (by show 2 ≤ sizeLine; decide), fun r hr => ?_⟩
      exact k2 b0 hb e0 hno r _ (S'.to hr) upd_same
end
end Rw
/-! ## FSame -/
namespace Rw
open PySem PySem.Spec PyProof.Rows L2
abbrev law_same_N : List Str := ["_law_told", "_law_due", "_law_k"]
theorem sc_law_same : FnScope law_same_N ["_law_told", "_law_due"] (defScope s_law_same) := ⟨rfl, rfl, rfl, by decide +kernel, rfl, by decide +kernel, by decide +kernel⟩
theorem m_law_same : d_law_same ∈ fn := List.mem_of_getElem? (i := 30) rfl
/-- two values that are the same data: ints, lists, tuples -/
def Eqv (H : Hp) : Nat → V → V → Prop
  | 0, x, y => ∃ i, x = .int i ∧ y = .int i
  | D + 1, x, y => (∃ i, x = .int i ∧ y = .int i) ∨
      (∃ a b xs ys, x = .ref a ∧ y = .ref b ∧ H a = some (.lst xs) ∧ H b = some (.lst ys) ∧ xs.length = ys.length ∧ ys.length ≤ 1000 ∧ ∀ (i : Nat) u v, xs[i]? = some u → ys[i]? = some v → Eqv H D u v) ∨
      (∃ a b xs ys, x = .ref a ∧ y = .ref b ∧ Rd H a (.tup xs) ∧ Rd H b (.tup ys) ∧ xs.length = ys.length ∧ ys.length ≤ 1000 ∧ ∀ (i : Nat) u v, xs[i]? = some u → ys[i]? = some v → Eqv H D u v)
def spSame : Nat → Sp
  | 0 => fun _ _ _ _ => False
  | D + 1 => fun vs H Q _ => ∃ x y, vs = [x, y] ∧ Eqv H D x y ∧ Q (.bl true) H
theorem rd_sqt {K : PySem.W.Frag} {H : Hp} {a : Addr} {xs : List V} (h : Rd H a (.tup xs)) : SqT K H a xs := .inl h
theorem rd_ty {K : PySem.W.Frag} {H : Hp} {a : Addr} {xs : List V} (h : Rd H a (.tup xs)) : TyX K H (.ref a) (.type "tuple") := by
  rcases h with h | ⟨o, h⟩
  · exact .base (.tup h)
  · exact .fTuple h
theorem get_ex {α : Type} {l : List α} {i : Nat} (h : i < l.length) : ∃ x, l[i]? = some x := ⟨_, List.getElem?_eq_getElem h⟩
/-- what two such values are, one step -/
theorem Eqv.cases {K : PySem.W.Frag} {H : Hp} {D : Nat} {x y : V} (h : Eqv H D x y) : (∃ i, x = .int i ∧ y = .int i) ∨
    (∃ a b xs ys, x = .ref a ∧ y = .ref b ∧ H a = some (.lst xs) ∧ H b = some (.lst ys) ∧ xs.length = ys.length ∧ ys.length ≤ 1000 ∧ ∀ (i : Nat) u v, xs[i]? = some u → ys[i]? = some v → ∀ (Q : VK) (E : XK), Q (.bl true) H → spSame D [u, v] H Q E) ∨
    (∃ a b xs ys, x = .ref a ∧ y = .ref b ∧ Rd H a (.tup xs) ∧ Rd H b (.tup ys) ∧ xs.length = ys.length ∧ ys.length ≤ 1000 ∧ ∀ (i : Nat) u v, xs[i]? = some u → ys[i]? = some v → ∀ (Q : VK) (E : XK), Q (.bl true) H → spSame D [u, v] H Q E) := by
  cases D with
  | zero => exact .inl h
  | succ D =>
    rcases h with h | ⟨a, b, xs, ys, h1, h2, h3, h4, h5, h6, h7⟩ | ⟨a, b, xs, ys, h1, h2, h3, h4, h5, h6, h7⟩
    · exact .inl h
    · exact .inr (.inl ⟨a, b, xs, ys, h1, h2, h3, h4, h5, h6, fun i u v hu hv Q E q => ⟨u, v, rfl, h7 i u v hu hv, q⟩⟩)
    · exact .inr (.inr ⟨a, b, xs, ys, h1, h2, h3, h4, h5, h6, fun i u v hu hv Q E q => ⟨u, v, rfl, h7 i u v hu hv, q⟩⟩)
section
variable {P : Program} {w : World} {K : PySem.W.Frag} {mg : Str → Option Value} {base : Heap}
theorem ok_same (T : Txt K mg) : ∀ D, Okd P w K mg base CX0 (D + 1) "_law_same" ["_law_told", "_law_due"] (spSame D)
  | 0 => okd0 (st := s_law_same) T m_law_same sc_law_same (fun vs H Q E h => (show False from h).elim) (fun _ _ _ _ _ _ us hl => match us, hl with | [_, _], _ => rfl) (fun f cdv A outer s H vs Q E hr h => (show False from h).elim)
  | D + 1 => by
    have c_law_same : Okd P w K mg base CX0 (D + 1) "_law_same" ["_law_told", "_law_due"] (spSame D) := ok_same T D
    refine okd0 (st := s_law_same) T m_law_same sc_law_same (fun vs H Q E h => ?_) (fun _ _ _ _ _ _ us hl => match us, hl with | [_, _], _ => rfl) (fun f cdv A outer s H vs Q E hr h => ⟨_, (pss_cons (ps_if (pt_val (pe_callB call_isi (by rfl) T.b_isinstance (by decide +kernel) (pa_cons (pv 1) (pa_cons (pe_bltn (v := .ty "int") (by rfl) T.b_int (by decide +kernel) rfl) pa_nil))))
    (pss_one (ps_ret (pe_and (pe_callB call_isi (by rfl) T.b_isinstance (by decide +kernel) (pa_cons (pv 0) (pa_cons (pe_bltn (v := .ty "int") (by rfl) T.b_int (by decide +kernel) rfl) pa_nil))) (pe_and (pe_not (pe_callB call_isi (by rfl) T.b_isinstance (by decide +kernel) (pa_cons (pv 0) (pa_cons (pe_bltn (v := .ty "bool") (by rfl) T.b_bool (by decide +kernel) rfl) pa_nil)))) (pe_one (pe_cmpR op_eq (pv 0) (pv 1) (nomark _)))))))
    pss_nil)
  (pss_cons (ps_if (pt_val (pe_callB call_isi (by rfl) T.b_isinstance (by decide +kernel) (pa_cons (pv 1) (pa_cons (pe_bltn (v := .ty "list") (by rfl) T.b_list (by decide +kernel) rfl) pa_nil))))
    (pss_one (ps_if (pt_not (pt_val (pe_callB call_isi (by rfl) T.b_isinstance (by decide +kernel) (pa_cons (pv 0) (pa_cons (pe_bltn (v := .ty "list") (by rfl) T.b_list (by decide +kernel) rfl) pa_nil)))))
      (pss_one (ps_ret pe_bl))
      pss_nil))
    (pss_one (ps_if (pt_not (pt_val (pe_callB call_isi (by rfl) T.b_isinstance (by decide +kernel) (pa_cons (pv 0) (pa_cons (pe_bltn (v := .ty "tuple") (by rfl) T.b_tuple (by decide +kernel) rfl) pa_nil)))))
      (pss_one (ps_ret pe_bl))
      pss_nil)))
  (pss_cons (ps_if (pt_cmpR op_ne (pe_callB call_len_seq (by rfl) T.b_len PySem.boot_len (pa_cons (pv 0) pa_nil)) (pe_callB call_len_seq (by rfl) T.b_len PySem.boot_len (pa_cons (pv 1) pa_nil)) (nomark _))
    (pss_one (ps_ret pe_bl))
    pss_nil)
  (pss_cons (ps_for PassesOwn.never rfl (pi_range1 (by rfl) T.b_range (pa_cons (pe_callB call_len_seq (by rfl) T.b_len PySem.boot_len (pa_cons (pv 1) pa_nil)) pa_nil)) (pg_name (i := 2) sc_law_same.nd rfl (Or.inl rfl))
    (pss_one (ps_if (pt_not (pt_val (pe_cd c_law_same hr (Nat.le_refl _) rfl (pa_cons (pe_ix ix_seq (pv 0) (pv 2) (fun _ _ => rfl)) (pa_cons (pe_ix ix_seq (pv 1) (pv 2) (fun _ _ => rfl)) pa_nil)))))
      (pss_one (ps_ret pe_bl))
      pss_nil)))
  (pss_one (ps_ret pe_bl)))))), ?_⟩)
    · obtain ⟨x, y, rfl, _⟩ := h
      rfl
    · obtain ⟨x, y, rfl, h, k⟩ := h
      rcases h.cases (K := K) with ⟨i, rfl, rfl⟩ | ⟨a, b, xs, ys, rfl, rfl, ha, hb, hl, hz, hs⟩ | ⟨a, b, xs, ys, rfl, rfl, ha, hb, hl, hz, hs⟩
      · refine ⟨_, rfl, _, _, .type "int", _, true, rfl, .ty "int", .base (.int i), kit_ty (a := "int") (b := "int") (by decide +kernel), _, rfl, ?_⟩
        refine iteT ?_
        refine ⟨_, rfl, _, _, .type "int", _, true, rfl, .ty "int", .base (.int i), kit_ty (a := "int") (b := "int") (by decide +kernel), _, rfl, ?_⟩
        refine iteT ?_
        refine ⟨_, rfl, _, _, .type "int", _, false, rfl, .ty "bool", .base (.int i), kit_ty (a := "int") (b := "bool") (by decide +kernel), _, rfl, _, rfl, ?_⟩
        refine iteT ?_
        refine ⟨_, rfl, _, rfl, rfl, ?_⟩
        rw [decide_eq_true rfl]
        exact k
      · refine ⟨_, rfl, _, _, .type "list", _, false, rfl, .ty "int", .base (.lst hb), kit_ty (a := "list") (b := "int") (by decide +kernel), _, rfl, ?_⟩
        refine iteF ?_
        refine ⟨_, rfl, _, _, .type "list", _, true, rfl, .ty "list", .base (.lst hb), kit_ty (a := "list") (b := "list") (by decide +kernel), _, rfl, ?_⟩
        refine iteT ?_
        refine ⟨_, rfl, _, _, .type "list", _, true, rfl, .ty "list", .base (.lst ha), kit_ty (a := "list") (b := "list") (by decide +kernel), _, rfl, ?_⟩
        refine iteF ?_
        refine ⟨_, rfl, a, _, rfl, .inl (SqL.of ha), _, rfl, b, _, rfl, .inl (SqL.of hb), rfl, _, rfl, ?_⟩
        refine iteNI (fun c => absurd (by omega) c) (fun _ => ?_)
        refine ⟨_, rfl, b, _, rfl, .inl (SqL.of hb), ys.length, rfl, by omega, by omega, ?_⟩
        refine for_rng (n := ys.length) (fun i σ H' => H' = H ∧ ∃ v2, σ = [some (.ref a), some (.ref b), v2]) ⟨rfl, _, rfl⟩ ?_ ?_
        · rintro i σ H' hi ⟨rfl, v2, rfl⟩
          obtain ⟨u, hu⟩ := get_ex (l := xs) (i := i) (by omega)
          obtain ⟨v, hv⟩ := get_ex (l := ys) (i := i) hi
          refine ⟨_, rfl, _, rfl, .inl ⟨a, _, _, u, rfl, rfl, (SqL.of ha), atI_nat hu, _, rfl, _, rfl, .inl ⟨b, _, _, v, rfl, rfl, (SqL.of hb), atI_nat hv, ?_⟩⟩⟩
          refine hs i u v hu hv _ _ ⟨true, rfl, ?_⟩
          exact iteF ⟨rfl, _, rfl⟩
        · rintro σ H' ⟨rfl, v2, rfl⟩
          exact k
      · refine ⟨_, rfl, _, _, .type "tuple", _, false, rfl, .ty "int", (rd_ty hb), kit_ty (a := "tuple") (b := "int") (by decide +kernel), _, rfl, ?_⟩
        refine iteF ?_
        refine ⟨_, rfl, _, _, .type "tuple", _, false, rfl, .ty "list", (rd_ty hb), kit_ty (a := "tuple") (b := "list") (by decide +kernel), _, rfl, ?_⟩
        refine iteF ?_
        refine ⟨_, rfl, _, _, .type "tuple", _, true, rfl, .ty "tuple", (rd_ty ha), kit_ty (a := "tuple") (b := "tuple") (by decide +kernel), _, rfl, ?_⟩
        refine iteF ?_
        refine ⟨_, rfl, a, _, rfl, .inr (rd_sqt ha), _, rfl, b, _, rfl, .inr (rd_sqt hb), rfl, _, rfl, ?_⟩
        refine iteNI (fun c => absurd (by omega) c) (fun _ => ?_)
        refine ⟨_, rfl, b, _, rfl, .inr (rd_sqt hb), ys.length, rfl, by omega, by omega, ?_⟩
        refine for_rng (n := ys.length) (fun i σ H' => H' = H ∧ ∃ v2, σ = [some (.ref a), some (.ref b), v2]) ⟨rfl, _, rfl⟩ ?_ ?_
        · rintro i σ H' hi ⟨rfl, v2, rfl⟩
          obtain ⟨u, hu⟩ := get_ex (l := xs) (i := i) (by omega)
          obtain ⟨v, hv⟩ := get_ex (l := ys) (i := i) hi
          refine ⟨_, rfl, _, rfl, .inr <| .inl ⟨a, _, _, u, rfl, rfl, (rd_sqt ha), atI_nat hu, _, rfl, _, rfl, .inr <| .inl ⟨b, _, _, v, rfl, rfl, (rd_sqt hb), atI_nat hv, ?_⟩⟩⟩
          refine hs i u v hu hv _ _ ⟨true, rfl, ?_⟩
          exact iteF ⟨rfl, _, rfl⟩
        · rintro σ H' ⟨rfl, v2, rfl⟩
          exact k
end
end Rw
/-! ## FEnds -/
namespace Rw
open PySem PySem.Spec PyProof.Rows L2
abbrev law_spread_N : List Str := ["_law_starts", "_law_links_here", "_law_known", "_law_found", "_law_image", "_law_at", "_law_link", "_law_later"]
theorem sc_law_spread : FnScope law_spread_N ["_law_starts", "_law_links_here"] (defScope s_law_spread) := ⟨rfl, rfl, rfl, by decide +kernel, rfl, by decide +kernel, by decide +kernel⟩
theorem m_law_spread : d_law_spread ∈ fn := List.mem_of_getElem? (i := 41) rfl
abbrev law_ends_N : List Str := ["_law_links_here", "_law_blocks", "_law_found", "_law_k", "_law_image"]
theorem sc_law_ends : FnScope law_ends_N ["_law_links_here", "_law_blocks"] (defScope s_law_ends) := ⟨rfl, rfl, rfl, by decide +kernel, rfl, by decide +kernel, by decide +kernel⟩
theorem m_law_ends : d_law_ends ∈ fn := List.mem_of_getElem? (i := 42) rfl
/-- all images that late lines lead to -/
def spSpread : Sp := fun vs H Q _ => ∃ (v0 vl : V) (n : Nat) (ls : List Lk) (st : List (List Nat)) (Pi : List Nat → Prop), vs = [v0, vl] ∧ n ≤ 100 ∧ ls.length ≤ 1000 ∧ Rd.Okl n ls ∧ Dt H v0 (rowsD st) ∧ Dt H vl (lksD ls) ∧ st ≠ [] ∧
  (∀ im ∈ st, Pi im) ∧ (∀ im, Pi im → im.length = n) ∧ (∀ im, Pi im → ∀ l ∈ ls, Pi (Rd.aft im l)) ∧ (∀ rows : List (List Nat), rows.Nodup → (∀ r ∈ rows, Pi r) → rows.length ≤ 1048576) ∧
  ∀ r H' (rows : List (List Nat)), Same H H' → Dt H' (.ref r) (rowsD rows) → rows.Nodup → rows ≠ [] → (∀ im ∈ rows, Pi im) → Q (.ref r) H'
/-- the state of the search: the dict at d and the list at p hold the rows -/
structure Found (H H1 : Hp) (p d : Addr) (Pi : List Nat → Prop) (rows : List (List Nat)) : Prop where
  same : Same H H1
  hd : H1 d = some (.dT (knV rows))
  ex : ∃ xs, H1 p = some (.lst xs) ∧ DtAll (wo2 H1 p d) xs (rows.map rowD)
  nodup : rows.Nodup
  all : ∀ r ∈ rows, Pi r
theorem Found.len {H H1 : Hp} {p d : Addr} {Pi : List Nat → Prop} {rows : List (List Nat)} (f : Found H H1 p d Pi rows) {xs : List V} (h : H1 p = some (.lst xs)) : xs.length = rows.length := by
  obtain ⟨ys, h1, h2⟩ := f.ex
  rw [h] at h1
  cases h1
  rw [h2.len, List.length_map]
/-- one more row -/
theorem Found.more {H H1 : Hp} {p d : Addr} {Pi : List Nat → Prop} {rows : List (List Nat)} (f : Found H H1 p d Pi rows) (hp : H p = none) (hd : H d = none) (hne : d ≠ p) {xs : List V} (h : H1 p = some (.lst xs)) {q : Addr} {r : List Nat} (hq : H1 q = some (.tup (nV r)))
    (hn : rows.contains r = false) (hr : Pi r) : Found H (upd (upd H1 d (.dT (putK (knV rows) (kN r) (V.bl true)))) p (.lst (xs ++ [.ref q]))) p d Pi (rows ++ [r]) := by
  obtain ⟨ys, h1, h2⟩ := f.ex
  rw [h] at h1
  cases h1
  have hqp : q ≠ p := fun z => by rw [z, h] at hq; cases hq
  have hqd : q ≠ d := fun z => by rw [z, f.hd] at hq; cases hq
  refine ⟨(f.same.mut hd).mut hp, ?_, ⟨_, upd_same, ?_⟩, ?_, fun x hx => ?_⟩
  · rw [upd_ne hne, upd_same, knV_put hn]
  · rw [wo2_p, wo2_d hne, List.map_append]
    exact h2.snoc (dt_row (by rw [wo2_ne hqp hqd]; exact hq))
  · refine List.nodup_append.mpr ⟨f.nodup, by simp, fun a ha b hb => ?_⟩
    rw [List.mem_singleton.mp hb]
    intro z
    rw [← z, List.contains_iff_mem.mpr ha] at hn
    cases hn
  · rcases List.mem_append.mp hx with hx | hx
    · exact f.all x hx
    · rw [List.mem_singleton.mp hx]
      exact hr
theorem Found.step {H H1 H2 : Hp} {p d : Addr} {Pi : List Nat → Prop} {rows : List (List Nat)} (f : Found H H1 p d Pi rows) (S : Same H1 H2) : Found H H2 p d Pi rows := by
  obtain ⟨xs, h1, h2⟩ := f.ex
  exact ⟨f.same.trans S, S _ _ f.hd, ⟨xs, S _ _ h1, h2.to (wo2_mono S)⟩, f.nodup, f.all⟩
def spEnds : Sp := fun vs H Q _ => ∃ (vl : V) (n : Nat) (ls : List Lk), vs = [vl, .int (n : Int)] ∧ n ≤ 4 ∧ ls.length ≤ 1000 ∧ Rd.Okl n ls ∧ Dt H vl (lksD ls) ∧
  ∀ r H' (rows : List (List Nat)), Same H H' → Dt H' (.ref r) (rowsD rows) → rows.Nodup → rows ≠ [] → (∀ im ∈ rows, Rd.Im n (Rd.late n ls) im) → Q (.ref r) H'
section
variable {P : Program} {w : World} {K : PySem.W.Frag} {mg : Str → Option Value} {base : Heap}
theorem ok_spread (T : Txt K mg) : Okd P w K mg base CX0 2 "_law_spread" ["_law_starts", "_law_links_here"] spSpread := by
  have c_law_after : Okd P w K mg base CX0 1 "_law_after" ["_law_image", "_law_link"] spAfter := ok_after T
  refine okd0 (st := s_law_spread) T m_law_spread sc_law_spread (fun vs H Q E h => ?_) (fun _ _ _ _ _ _ us hl => match us, hl with | [_, _], _ => rfl) (fun f cdv A outer s H vs Q E hr h => ?_)
  · obtain ⟨v0, vl, n, ls, st, Pi, rfl, _⟩ := h
    rfl
  · have hu := hu_of hr
    refine ⟨_, (pss_cons (ps_set (i := 2) sc_law_spread.nd rfl (Or.inl rfl) pe_dnewT)
  (pss_cons (ps_set (i := 3) sc_law_spread.nd rfl (Or.inl rfl) (pe_lst pa_nil))
  (pss_cons (ps_for PassesOwn.never rfl (pi_list (pv 0)) (pg_name (i := 4) sc_law_spread.nd rfl (Or.inl rfl))
    (pss_one (ps_if (pt_cmp (pc_dnotin hu (pv 4) (pv 2)) rfl)
      (pss_cons (ps_dput hu (pv 2) (pv 4) pe_bl rfl)
      (pss_one (ps_expr (pe_bm PySem.F.plainAttrs_list PySem.F.slot_list_append PySem.F.type_list_append mt_append (pv 3) (pa_cons (pv 4) pa_nil)))))
      pss_nil)))
  (pss_cons (ps_set (i := 5) sc_law_spread.nd rfl (Or.inl rfl) pe_int)
  (pss_cons (ps_while PassesOwn.never (pt_cmpR op_lt (pv 5) (pe_callB call_len_seq (by rfl) T.b_len PySem.boot_len (pa_cons (pv 3) pa_nil)) (nomark _))
    (pss_cons (ps_for PassesOwn.never rfl (pi_list (pv 1)) (pg_name (i := 6) sc_law_spread.nd rfl (Or.inl rfl))
      (pss_cons (ps_set (i := 7) sc_law_spread.nd rfl (Or.inl rfl) (pe_cd c_law_after hr (by decide) rfl (pa_cons (pe_ix ix_list (pv 3) (pv 5) (fun _ _ => rfl)) (pa_cons (pv 6) pa_nil))))
      (pss_one (ps_if (pt_cmp (pc_dnotin hu (pv 7) (pv 2)) rfl)
        (pss_cons (ps_dput hu (pv 2) (pv 7) pe_bl rfl)
        (pss_one (ps_expr (pe_bm PySem.F.plainAttrs_list PySem.F.slot_list_append PySem.F.type_list_append mt_append (pv 3) (pa_cons (pv 7) pa_nil)))))
        pss_nil))))
    (pss_one (ps_set (i := 5) sc_law_spread.nd rfl (Or.inl rfl) (pe_op op_add (pv 5) pe_int)))))
  (pss_one (ps_ret (pv 3)))))))), ?_⟩
    obtain ⟨v0, vl, n, ls, st, Pi, rfl, hn, hll, ho, h0, hv, hst, a1, a2, a3, a4, k⟩ := h
    obtain ⟨a, xs, rfl, ha, hxl, hd, hx⟩ := lks_dt hv
    obtain ⟨b, ys, rfl, hb, hy⟩ := h0.list_inv
    refine fun d hd0 => ?_
    refine ⟨Nat.zero_le _, fun p hp0' => ?_⟩
    have hdp : d ≠ p := ne_of_none upd_same hp0'
    have hp0 : H p = none := by rw [upd_ne hdp.symm] at hp0'; exact hp0'
    have F0 : Found H (upd (upd H d (.dT [])) p (.lst [])) p d Pi [] := ⟨(Same.new hd0).to hp0', by rw [upd_ne hdp]; exact upd_same, ⟨[], upd_same, .nil⟩, List.nodup_nil, fun _ h => nomatch h⟩
    have hyl : ys.length = st.length := by rw [hy.len, List.length_map]
    refine ⟨_, rfl, b, rfl, ⟨_, SqL.of (F0.same _ _ hb)⟩, for_list (K := K) (a := b) (xs := ys) (fun i σ H1 => (∃ v4, σ = [some (.ref b), some (.ref a), some (.ref d), some (.ref p), v4, none, none, none]) ∧ ∃ rows, Found H H1 p d Pi rows ∧ (0 < i → rows ≠ [])) ⟨⟨_, rfl⟩, [], F0, fun z => absurd z (by decide)⟩ ?_ ?_ ?_⟩
    · rintro i σ H1 _ ⟨_, rows, F, _⟩
      exact SqL.of (F.same _ _ hb)
    · rintro i x σ H1 hxi ⟨⟨v4, rfl⟩, rows, F, hne⟩
      obtain ⟨q, r, rfl, hri, hq⟩ := rows_of hy hxi
      have hq1 := F.same _ _ hq
      have hPr := a1 r (List.mem_of_getElem? hri)
      refine ⟨_, rfl, _, rfl, d, _, rfl, DGet.t F.hd (k := kN r) (by rw [kN_kV]; exact hq1), _, rfl, ?_⟩
      rw [knV_some]
      cases hc : rows.contains r with
      | true => exact iteF ⟨⟨_, rfl⟩, rows, F, fun _ z => by rw [z] at hc; cases hc⟩
      | false =>
        refine iteT ?_
        obtain ⟨xs1, h1, _⟩ := F.ex
        have hsz := a4 rows F.nodup F.all
        have h1' : upd H1 d (.dT (putK (knV rows) (kN r) (V.bl true))) p = some (.lst xs1) := by rw [upd_ne hdp.symm]; exact h1
        refine ⟨_, rfl, _, rfl, d, _, rfl, DPut.t F.hd (k := kN r) (by rw [kN_kV]; exact hq1) (small_line (by rw [knV_len]; omega)), ?_⟩
        refine ⟨_, rfl, .inl ⟨rfl, _, SqL.of h1'⟩, _, rfl, p, _, _, rfl, rfl, h1', small_line (by rw [F.len h1]; omega), ⟨_, rfl⟩, rows ++ [r], F.more hp0 hd0 hdp h1 hq1 hc hPr, fun _ => by simp⟩
    · rintro σ H1 ⟨⟨v4, rfl⟩, rows, F, hne⟩
      have hne' : rows ≠ [] := hne (by
        rw [hyl]
        cases st with
        | nil => exact absurd rfl hst
        | cons _ _ => simp)
      refine ⟨fun m σ H2 => ∃ (at_ : Nat) (v4 v6 v7 : Option V), σ = [some (.ref b), some (.ref a), some (.ref d), some (.ref p), v4, some (.int at_), v6, v7] ∧ ∃ rows, Found H H2 p d Pi rows ∧ rows ≠ [] ∧ at_ ≤ rows.length ∧ m + at_ = 1048577, ⟨1048577, 0, _, _, _, rfl, rows, F, hne', Nat.zero_le _, rfl⟩, ?_⟩
      rintro m σ H2 ⟨at_, v4, v6, v7, rfl, rows, F, hne, hat, hm⟩
      obtain ⟨xs2, h2, hd2⟩ := F.ex
      have hl2 := F.len h2
      refine ⟨_, rfl, _, rfl, p, _, rfl, .inl (SqL.of h2), _, _, rfl, rfl, _, rfl, ?_⟩
      refine iteD (fun c => ?_) (fun c => ?_)
      · have hlt : at_ < rows.length := by omega
        refine ⟨fun σ' H' => ∃ (v4 v6 v7 : Option V), σ' = [some (.ref b), some (.ref a), some (.ref d), some (.ref p), v4, some (.int ((at_ + 1 : Nat) : Int)), v6, v7] ∧ ∃ rows', Found H H' p d Pi rows' ∧ rows' ≠ [] ∧ at_ + 1 ≤ rows'.length, ?_, ?_⟩
        · rintro σ' H' ⟨v4, v6, v7, rfl, rows', F', hne', hat'⟩
          have := a4 rows F.nodup F.all
          exact ⟨m - 1, by omega, at_ + 1, v4, v6, v7, rfl, rows', F', hne', hat', by omega⟩
        · refine ⟨_, rfl, a, rfl, ⟨_, SqL.of (F.same _ _ ha)⟩, for_list (K := K) (a := a) (xs := xs) (fun j σ H3 => (∃ v4 v6 v7, σ = [some (.ref b), some (.ref a), some (.ref d), some (.ref p), v4, some (.int at_), v6, v7]) ∧ ∃ rows', Found H H3 p d Pi rows' ∧ at_ < rows'.length) ⟨⟨_, _, _, rfl⟩, rows, F, hlt⟩ ?_ ?_ ?_⟩
          · rintro j σ H3 _ ⟨_, rows', F', _⟩
            exact SqL.of (F'.same _ _ ha)
          · rintro j x σ H3 hxj ⟨⟨v4, v6, v7, rfl⟩, rows', F', hlt'⟩
            obtain ⟨q, l, rfl, hlj, hq⟩ := hx j x hxj
            have hml := List.mem_of_getElem? hlj
            obtain ⟨o1, o2, o3⟩ := ho l hml
            obtain ⟨xs3, h3, hd3⟩ := F'.ex
            obtain ⟨z, hz1, hz2⟩ := rows_at hd3 hlt'
            have hPz := F'.all _ (List.getElem_mem hlt')
            have hzl := a2 _ hPz
            refine ⟨_, rfl, _, rfl, p, _, _, _, rfl, rfl, SqL.of h3, atI_nat hz1, _, rfl, z, q, rows'[at_], l, rfl, by omega, by omega, by omega, wo2_same _ _ hz2, F'.same _ _ hq, fun t H4 S4 ht => ?_⟩
            have F4 := F'.step S4
            have hPt := a3 _ hPz l hml
            generalize Rd.aft rows'[at_] l = r at ht hPt
            refine ⟨_, rfl, _, rfl, d, _, rfl, DGet.t F4.hd (k := kN r) (by rw [kN_kV]; exact ht), _, rfl, ?_⟩
            rw [knV_some]
            cases hc : rows'.contains r with
            | true => exact iteF ⟨⟨_, _, _, rfl⟩, rows', F4, hlt'⟩
            | false =>
              refine iteT ?_
              have h4 := S4 _ _ h3
              have hsz := a4 rows' F'.nodup F'.all
              have h4' : upd H4 d (.dT (putK (knV rows') (kN r) (V.bl true))) p = some (.lst xs3) := by rw [upd_ne hdp.symm]; exact h4
              refine ⟨_, rfl, _, rfl, d, _, rfl, DPut.t F4.hd (k := kN r) (by rw [kN_kV]; exact ht) (small_line (by rw [knV_len]; omega)), ?_⟩
              refine ⟨_, rfl, .inl ⟨rfl, _, SqL.of h4'⟩, _, rfl, p, _, _, rfl, rfl, h4', small_line (by rw [F4.len h4]; omega), ⟨_, _, _, rfl⟩, rows' ++ [r], F4.more hp0 hd0 hdp h4 ht hc hPt, by rw [List.length_append]; omega⟩
          · rintro σ H3 ⟨⟨v4, v6, v7, rfl⟩, rows', F', hlt'⟩
            refine ⟨_, rfl, _, _, rfl, rfl, v4, v6, v7, rfl, rows', F', ?_, hlt'⟩
            intro z
            rw [z] at hlt'
            exact absurd hlt' (Nat.not_lt_zero _)
      · refine ⟨_, rfl, k p H2 rows F.same (.lst h2 (hd2.to wo2_same)) F.nodup hne F.all⟩
theorem ok_ends (T : Txt K mg) : Okd P w K mg base CX0 3 "_law_ends" ["_law_links_here", "_law_blocks"] spEnds := by
  have c_law_after : Okd P w K mg base CX0 1 "_law_after" ["_law_image", "_law_link"] spAfter := ok_after T
  have c_law_spread : Okd P w K mg base CX0 2 "_law_spread" ["_law_starts", "_law_links_here"] spSpread := ok_spread T
  refine okd0 (st := s_law_ends) T m_law_ends sc_law_ends (fun vs H Q E h => ?_) (fun _ _ _ _ _ _ us hl => match us, hl with | [_, _], _ => rfl) (fun f cdv A outer s H vs Q E hr h => ⟨_, (pss_cons (ps_set (i := 2) sc_law_ends.nd rfl (Or.inl rfl) (pe_lst (pa_cons (pe_tupRg rfl (by rfl) T.b_tuple (prg_1 (by rfl) T.b_range (pv 1))) pa_nil)))
  (pss_cons (ps_for PassesOwn.never rfl (pi_range1 (by rfl) T.b_range (pa_cons (pe_callB call_len_seq (by rfl) T.b_len PySem.boot_len (pa_cons (pv 0) pa_nil)) pa_nil)) (pg_name (i := 3) sc_law_ends.nd rfl (Or.inr rfl))
    (pss_one (ps_set (i := 2) sc_law_ends.nd rfl (Or.inl rfl) (pe_cd c_law_spread hr (by decide) rfl (pa_cons (pe_lc (own := [("_law_image", 4)]) (g := (gName 4)) (tt := tYes) rfl sc_law_ends.nd (pi_list (pv 2)) (blkOk_by (N := law_ends_N) (sc := defScope s_law_ends) (by decide +kernel)) (fun _ _ _ _ _ => (pg_name (i := 4) sc_law_ends.nd rfl (Or.inl rfl))) (fun _ _ _ _ _ => pts_nil) (fun _ _ _ _ _ => (pe_cd c_law_after hr (by decide) rfl (pa_cons (pv 4) (pa_cons (pe_ix (r := rIxL K) ix_list (pv 0) (pv 3) (fun _ _ => rfl)) pa_nil))))) (pa_cons (pe_slice sl_list (pv 0) po_none (po_some (pe_op op_add (pv 3) pe_int))) pa_nil))))))
  (pss_one (ps_ret (pv 2))))), ?_⟩)
  · obtain ⟨vl, n, ls, rfl, _⟩ := h
    rfl
  · obtain ⟨vl, n, ls, rfl, hn, hll, ho, hv, k⟩ := h
    obtain ⟨a, xs, rfl, ha, hxl, hd, hx⟩ := lks_dt hv
    refine ⟨_, rfl, n, rfl, ⟨by omega, by omega, by omega, by omega, by omega⟩, fun t ht => ?_⟩
    rw [rgV_nat]
    refine ⟨by show 1 ≤ sizeLine; decide, fun p hp => ?_⟩
    have S0 : Same H (upd (upd H t (.tup (nV (List.range n)))) p (.lst [.ref t])) := (Same.new ht).to hp
    have D0 : Dt (upd (upd H t (.tup (nV (List.range n)))) p (.lst [.ref t])) (.ref p) (rowsD [List.range n]) := .lst upd_same (.cons (dt_row (by rw [upd_ne (ne_of_none upd_same hp), upd_same])) .nil)
    generalize upd (upd H t (.tup (nV (List.range n)))) p (.lst [.ref t]) = H1 at S0 D0 ⊢
    refine ⟨_, rfl, a, _, rfl, .inl (SqL.of (S0 _ _ ha)), xs.length, rfl, by omega, by omega, ?_⟩
    rw [hxl]
    refine for_rng (n := ls.length) (fun i σ H2 => ∃ q v3 v4, σ = [some (.ref a), some (.int n), some (.ref q), v3, v4] ∧ Same H H2 ∧ ∃ rows, Dt H2 (.ref q) (rowsD rows) ∧ rows.Nodup ∧ rows ≠ [] ∧ ∀ im ∈ rows, Rd.Im n (Rd.lateF n ls i) im) ⟨_, _, _, rfl, S0, _, D0, by simp, by simp, fun im hm => by rw [List.mem_singleton.mp hm]; exact Rd.Im.home n⟩ ?_ ?_
    · rintro i σ H2 hi ⟨q, v3, v4, rfl, S2, rows, d2, hnd, hne, hall⟩
      obtain ⟨l, hli⟩ : ∃ l, ls[i]? = some l := ⟨ls[i], List.getElem?_eq_getElem hi⟩
      obtain ⟨o1, o2, o3⟩ := ho l (List.mem_of_getElem? hli)
      have el : ls.getD i (0, 0) = l := by rw [List.getD_eq_getElem?_getD, hli]; rfl
      have G := Rd.Good.lateF ho i (by omega)
      have hsz := Rd.ims_le hn G rows hnd hall
      obtain ⟨q', ys, e, hq, hy⟩ := d2.list_inv
      cases e
      have hyl : ys.length = rows.length := by rw [hy.len, List.length_map]
      refine ⟨_, rfl, q, rfl, ⟨_, SqL.of hq⟩, fun pd hpd => ?_⟩
      refine lc_list (K := K) (a := q) (xs := ys) (fun j H3 => Same H2 H3 ∧ ∃ zs, H3 pd = some (.lst zs) ∧ DtAll (wo H3 pd) zs ((((rows.take j).map fun r => Rd.aft r l)).map rowD)) ⟨.new hpd, [], upd_same, .nil⟩ (fun j H3 _ q => SqL.of (q.1 _ _ hq)) ?_ ?_
      · rintro j x H3 hxj ⟨S3, zs, h3, hz⟩
        obtain ⟨b, r, rfl, hrj, hb⟩ := rows_of hy hxj
        have hrl := (hall r (List.mem_of_getElem? hrj)).1
        obtain ⟨c, hat, hc⟩ := lk_at hd hli
        have S23 := S2.trans S3
        refine ⟨rfl, _, rfl, _, rfl, _, rfl, a, _, _, _, rfl, rfl, SqL.of (S23 _ _ ha), hat, b, c, r, l, rfl, by omega, by omega, by omega, S3 _ _ hb, S23 _ _ hc, fun y H4 S4 hy4 => ?_⟩
        have h4 := S4 _ _ h3
        have hypd : y ≠ pd := fun z => by rw [z, h4] at hy4; cases hy4
        refine ⟨_, h4, small_line ?_, ((S3.trans S4).mut hpd), _, upd_same, ?_⟩
        · rw [hz.len, List.length_map, List.length_map, List.length_take]
          omega
        · rw [wo_upd, take_succ_get hrj, List.map_append, List.map_append]
          exact (hz.to (wo_mono S4)).snoc (dt_row (by rw [wo_ne hypd]; exact hy4))
      · rintro H3 ⟨S3, zs, h3, hz⟩
        rw [hyl, List.take_of_length_le (Nat.le_refl _)] at hz
        have ek : ((i : Int) + 1) = ((i + 1 : Nat) : Int) := by omega
        have S23 := S2.trans S3
        refine ⟨_, rfl, _, rfl, _, _, rfl, rfl, _, rfl, a, _, rfl, SqL.of (S23 _ _ ha), fun z hz0 => ?_⟩
        rw [ek, cut_take]
        have S34 : Same H3 (upd H3 z (.lst (xs.take (i + 1)))) := .new hz0
        refine ⟨.ref pd, .ref z, n, ls.take (i + 1), rows.map fun r => Rd.aft r l, Rd.Im n (Rd.lateF n ls (i + 1)), rfl, by omega, by rw [List.length_take]; omega, ho.take _, ?_, ?_, ?_, ?_, fun im h => h.1, ?_, ?_, ?_⟩
        · exact (Dt.lst h3 (hz.to wo_same)).to S34
        · refine .lst upd_same ?_
          rw [List.map_take]
          exact (hd.take (i + 1)).to (S23.trans S34)
        · intro z
          exact hne (List.map_eq_nil_iff.mp z)
        · intro im him
          obtain ⟨r, hr, rfl⟩ := List.mem_map.mp him
          rw [Rd.lateF, el]
          exact (hall r hr).first (ho.take _) G.len o1 o2
        · intro im him l' hl'
          have cl : Rd.Cl (ls.take (i + 1)) (Rd.lateF n ls (i + 1)) := Rd.clo_cl (ho.take _) (by rw [List.length_set]; exact G.len)
          exact him.next (ho.take _) cl hl'
        · exact fun rows hnd hs => Rd.ims_le hn (Rd.Good.lateF ho (i + 1) hi) rows hnd hs
        · intro r H4 rows' S4 d4 hnd' hne' hall'
          exact ⟨r, _, _, rfl, (S23.trans S34).trans S4, rows', d4, hnd', hne', hall'⟩
    · rintro σ H2 ⟨q, v3, v4, rfl, S2, rows, d2, hnd, hne, hall⟩
      exact ⟨_, rfl, k q _ rows S2 d2 hnd hne hall⟩
end
end Rw
/-! ## FHolds -/
namespace Rw
open PySem PySem.Spec PyProof.Rows L2
abbrev law_longer_N : List Str := ["_law_told", "_law_links_here", "_law_count", "_law_place"]
theorem sc_law_longer : FnScope law_longer_N ["_law_told", "_law_links_here", "_law_count"] (defScope s_law_longer) := ⟨rfl, rfl, rfl, by decide +kernel, rfl, by decide +kernel, by decide +kernel⟩
theorem m_law_longer : d_law_longer ∈ fn := List.mem_of_getElem? (i := 48) rfl
def moreL (ls : List Lk) (ns : List Int) : List Lk := ls ++ ns.map fun x => ls.getD x.toNat (0, 0)
def spLonger : Sp := fun vs H Q _ => ∃ (q : Addr) (vl : V) (ls : List Lk) (ns : List Int), vs = [.ref q, vl, .int ((ns.length : Nat) : Int)] ∧ H q = some (.lst (ns.map V.int)) ∧ (∀ x ∈ ns, 0 ≤ x ∧ x < ls.length) ∧ ls.length ≤ 1000 ∧ ns.length ≤ 1000 ∧ Dt H vl (lksD ls) ∧
  ∀ r H', Same H H' → Dt H' (.ref r) (lksD (moreL ls ns)) → Q (.ref r) H'
section
variable {P : Program} {w : World} {K : PySem.W.Frag} {mg : Str → Option Value} {base : Heap}
theorem ok_longer (T : Txt K mg) : Okd P w K mg base CX0 1 "_law_longer" ["_law_told", "_law_links_here", "_law_count"] spLonger := by
  refine okd0 (st := s_law_longer) T m_law_longer sc_law_longer (fun vs H Q E h => ?_) (fun _ _ _ _ _ _ us hl => match us, hl with | [_, _, _], _ => rfl) (fun f cdv A outer s H vs Q E hr h => ⟨_, (pss_cons (ps_if (PW.pt (pw_or (pt_not (pt_val (pe_callB call_isi (by rfl) T.b_isinstance (by decide +kernel) (pa_cons (pv 0) (pa_cons (pe_bltn (v := .ty "list") (by rfl) T.b_list (by decide +kernel) rfl) pa_nil))))) (pw_or1 (pt_cmpR op_ne (pe_callB call_len_seq (by rfl) T.b_len PySem.boot_len (pa_cons (pv 0) pa_nil)) (pv 2) (nomark _)))))
    (pss_one (ps_ret pe_non))
    pss_nil)
  (pss_cons (ps_for PassesOwn.never rfl (pi_list (pv 0)) (pg_name (i := 3) sc_law_longer.nd rfl (Or.inl rfl))
    (pss_one (ps_if (PW.pt (pw_or (pt_not (pt_val (pe_callB call_isi (by rfl) T.b_isinstance (by decide +kernel) (pa_cons (pv 3) (pa_cons (pe_bltn (v := .ty "int") (by rfl) T.b_int (by decide +kernel) rfl) pa_nil))))) (pw_or (pt_val (pe_callB call_isi (by rfl) T.b_isinstance (by decide +kernel) (pa_cons (pv 3) (pa_cons (pe_bltn (v := .ty "bool") (by rfl) T.b_bool (by decide +kernel) rfl) pa_nil)))) (pw_or (pt_cmpR op_lt (pv 3) pe_int (nomark _)) (pw_or1 (pt_cmpR op_ge (pv 3) (pe_callB call_len_seq (by rfl) T.b_len PySem.boot_len (pa_cons (pv 1) pa_nil)) (nomark _)))))))
      (pss_one (ps_ret pe_non))
      pss_nil)))
  (pss_one (ps_ret (pe_op op_cat (pv 1) (pe_lc (own := [("_law_place", 3)]) (g := (gName 3)) (tt := tYes) rfl sc_law_longer.nd (pi_list (pv 0)) (blkOk_by (N := law_longer_N) (sc := defScope s_law_longer) (by decide +kernel)) (fun _ _ _ _ _ => (pg_name (i := 3) sc_law_longer.nd rfl (Or.inl rfl))) (fun _ _ _ _ _ => pts_nil) (fun _ _ _ _ _ => (pe_ix (r := rIxL K) ix_list (pv 1) (pv 3) (fun _ _ => rfl))))))))), ?_⟩)
  · obtain ⟨q, vl, ls, ns, rfl, _⟩ := h
    rfl
  · obtain ⟨q, vl, ls, ns, rfl, hq, hns, hll, hnl, hd, k⟩ := h
    obtain ⟨a, xs, rfl, ha, hxl, hdx, hx⟩ := lks_dt hd
    refine ⟨_, rfl, _, _, .type "list", _, true, rfl, .ty "list", .base (.lst hq), kit_ty (a := "list") (b := "list") (by decide +kernel), _, rfl, ?_⟩
    refine iteF ?_
    refine ⟨_, rfl, q, _, rfl, .inl (SqL.of hq), _, rfl, rfl, _, rfl, ?_⟩
    rw [List.length_map]
    refine iteNI (fun c => absurd rfl c) (fun _ => ?_)
    refine ⟨_, rfl, q, rfl, ⟨_, SqL.of hq⟩, ?_⟩
    refine for_list (K := K) (a := q) (xs := ns.map V.int) (fun i σ H1 => H1 = H ∧ ∃ v3, σ = [some (.ref q), some (.ref a), some (.int ((ns.length : Nat) : Int)), v3]) ⟨rfl, _, rfl⟩ (fun i σ H1 _ z => by rw [z.1]; exact SqL.of hq) ?_ ?_
    · rintro i x σ H1 hxi ⟨rfl, v3, rfl⟩
      obtain ⟨y, hy, rfl⟩ := get_map hxi
      obtain ⟨b1, b2⟩ := hns y (List.mem_of_getElem? hy)
      refine ⟨_, rfl, _, _, .type "int", _, true, rfl, .ty "int", .base (.int y), kit_ty (a := "int") (b := "int") (by decide +kernel), _, rfl, ?_⟩
      refine iteF ?_
      refine ⟨_, rfl, _, _, .type "int", _, false, rfl, .ty "bool", .base (.int y), kit_ty (a := "int") (b := "bool") (by decide +kernel), _, rfl, ?_⟩
      refine iteF ?_
      refine ⟨_, rfl, _, _, rfl, rfl, _, rfl, ?_⟩
      refine iteD (fun c => absurd c (by omega)) (fun _ => ?_)
      refine ⟨_, rfl, _, rfl, a, _, rfl, .inl (SqL.of ha), _, _, rfl, rfl, _, rfl, ?_⟩
      refine iteD (fun c => absurd c (by omega)) (fun _ => ⟨rfl, _, rfl⟩)
    · rintro σ H1 ⟨rfl, v3, rfl⟩
      refine ⟨_, rfl, _, rfl, q, rfl, ⟨_, SqL.of hq⟩, fun d hd0 => ?_⟩
      refine lc_list (K := K) (a := q) (xs := ns.map V.int) (fun i H2 => Same H1 H2 ∧ ∃ ys, H2 d = some (.lst ys) ∧ ys.length = i ∧ DtAll H1 ys (((ns.take i).map fun x => ls.getD x.toNat (0, 0)).map lkD)) ⟨.new hd0, [], upd_same, rfl, .nil⟩ (fun i H2 _ z => SqL.of (z.1 _ _ hq)) ?_ ?_
      · rintro i x H2 hxi ⟨S2, ys, h2, hyl, hys⟩
        obtain ⟨y, hy, rfl⟩ := get_map hxi
        have hin := get_lt hy
        obtain ⟨b1, b2⟩ := hns y (List.mem_of_getElem? hy)
        have ey : y = ((y.toNat : Nat) : Int) := by omega
        have hyn : y.toNat < ls.length := by omega
        have hl : ls[y.toNat]? = some (ls.getD y.toNat (0, 0)) := by
          rw [List.getD_eq_getElem?_getD, List.getElem?_eq_getElem hyn]
          rfl
        obtain ⟨t, hat, ht⟩ := lk_at hdx hl
        rw [← ey] at hat
        refine ⟨rfl, _, rfl, _, rfl, a, _, _, _, rfl, rfl, SqL.of (S2 _ _ ha), hat, ys, h2, small_line (by omega), S2.mut hd0, _, upd_same, by rw [List.length_append, hyl]; rfl, ?_⟩
        rw [take_succ_get hy, List.map_append, List.map_append]
        exact hys.snoc (dt_lk ht)
      · rintro H2 ⟨S2, ys, h2, hyl, hys⟩
        rw [List.take_of_length_le (by rw [List.length_map]; exact Nat.le_refl _)] at hys
        refine ⟨a, d, _, _, rfl, rfl, S2 _ _ ha, h2, small_le (by rw [hyl, List.length_map]; omega), fun p hp => ?_⟩
        refine k p _ (S2.to hp) ?_
        rw [lksD, moreL, List.map_append]
        exact .lst upd_same ((hdx.append hys).to (S2.to hp))
end
end Rw
/-! ## FHold2 -/
namespace Rw
open PySem PySem.Spec PyProof.Rows L2
abbrev law_holds_N : List Str := ["_law_longer_here", "_law_blocks", "_law_due", "_law_masks", "_law_log", "_law_again", "_law_number", "_law_link"]
theorem sc_law_holds : FnScope law_holds_N ["_law_longer_here", "_law_blocks", "_law_due"] (defScope s_law_holds) := ⟨rfl, rfl, rfl, by decide +kernel, rfl, by decide +kernel, by decide +kernel⟩
theorem m_law_holds : d_law_holds ∈ fn := List.mem_of_getElem? (i := 49) rfl
/-! ### values that are the same -/
theorem eqv_int {H : Hp} : ∀ D (i : Int), Eqv H D (.int i) (.int i)
  | 0, i => ⟨i, rfl, rfl⟩
  | _ + 1, i => .inl ⟨i, rfl, rfl⟩
theorem eqv_tup {H : Hp} {D : Nat} {a b : Addr} {xs : List Int} (h1 : Rd H a (.tup (xs.map V.int))) (h2 : Rd H b (.tup (xs.map V.int))) (hl : xs.length ≤ 1000) : Eqv H (D + 1) (.ref a) (.ref b) :=
  .inr (.inr ⟨a, b, _, _, rfl, rfl, h1, h2, rfl, by rw [List.length_map]; exact hl, fun i u v hu hv => by
    rw [hu] at hv
    cases hv
    obtain ⟨x, _, rfl⟩ := get_map hu
    exact eqv_int _ _⟩)
theorem eqv_lst {H : Hp} {D : Nat} {a b : Addr} {xs : List Int} (h1 : H a = some (.lst (xs.map V.int))) (h2 : H b = some (.lst (xs.map V.int))) (hl : xs.length ≤ 1000) : Eqv H (D + 1) (.ref a) (.ref b) :=
  .inr (.inl ⟨a, b, _, _, rfl, rfl, h1, h2, rfl, by rw [List.length_map]; exact hl, fun i u v hu hv => by
    rw [hu] at hv
    cases hv
    obtain ⟨x, _, rfl⟩ := get_map hu
    exact eqv_int _ _⟩)
theorem eqv_rows {H : Hp} {a b : Addr} {rows : List (List Nat)} (h1 : Dt H (.ref a) (.tuple (rows.map rowD))) (h2 : Dt H (.ref b) (.tuple (rows.map rowD))) (hl : rows.length ≤ 1000) (hs : ∀ r ∈ rows, r.length ≤ 1000) : Eqv H 2 (.ref a) (.ref b) := by
  obtain ⟨a', xs, e, ha, hx⟩ := h1.tuple_inv
  cases e
  obtain ⟨b', ys, e, hb, hy⟩ := h2.tuple_inv
  cases e
  refine .inr (.inr ⟨a, b, _, _, rfl, rfl, .inl ha, .inl hb, by rw [hx.len, hy.len], by rw [hy.len, List.length_map]; exact hl, fun i u v hu hv => ?_⟩)
  obtain ⟨p, r, rfl, hr, hp⟩ := rows_of hx hu
  obtain ⟨q, r', rfl, hr', hq⟩ := rows_of hy hv
  rw [hr] at hr'
  cases hr'
  rw [nV_ints] at hp hq
  exact eqv_tup (D := 0) (.inl hp) (.inl hq) (by rw [List.length_map]; exact hs r (List.mem_of_getElem? hr))
/-! ### lists of numbers as data -/
def numsD (L : List Nat) : PyData := .list (L.map fun m => .int (m : Nat))
theorem dt_nums {H : Hp} {a : Addr} {L : List Nat} (h : H a = some (.lst (nV L))) : Dt H (.ref a) (numsD L) := by
  refine .lst h ?_
  rw [row_ints, nV_ints]
  exact dt_ints _
theorem nums_lay : ∀ L : List Nat, PyData.canLayAll0 (L.map fun m => PyData.int (m : Nat)) = true ∧ PyData.depthAll (L.map fun m => PyData.int (m : Nat)) = 0
  | [] => ⟨by rw [List.map_nil, PyData.canLayAll0], by rw [List.map_nil, PyData.depthAll]⟩
  | m :: L => by
    obtain ⟨h1, h2⟩ := nums_lay L
    refine ⟨?_, ?_⟩
    · rw [List.map_cons, PyData.canLayAll0, h1, PyData.canLay0]
      rfl
    · rw [List.map_cons, PyData.depthAll, h2, PyData.depth]
      rfl
theorem nums_can (L : List Nat) : (numsD L).canLay0 = true := by
  rw [numsD, PyData.canLay0]
  exact (nums_lay L).1
theorem nums_shaped (L : List Nat) : SeqAt.shaped (numsD L) = true := by
  show (PyData.canLay0 (numsD L) && decide (PyData.depth (numsD L) ≤ 64)) = true
  rw [nums_can, numsD, PyData.depth, (nums_lay L).2]
  rfl
/-! ### the log of links -/
theorem dt_ln {H : Hp} {a : Addr} {l : Lk} (h : H a = some (.tup [.str "copy", .int l.1, .int l.2, .str ""])) : Dt H (.ref a) (lnD l) := .tup h (.cons (.str _) (.cons (.int _) (.cons (.int _) (.cons (.str _) .nil))))
def spHolds : Sp := fun vs H Q _ => ∃ (vl : V) (t : Addr) (n : Nat) (ls ls2 : List Lk) (D : List Nat), vs = [vl, .int (n : Int), .ref t] ∧ 1 ≤ n ∧ n ≤ 12 ∧ ls2.length ≤ 60 ∧ Rd.Longer n ls ls2 ∧ svL n ls = D.map (fun m => ((m : Nat) : Int)) ∧ (∀ x ∈ D, x < n) ∧ Dt H vl (lksD ls2) ∧ H t = some (.tup (nV D)) ∧
  ∀ H', Same H H' → Q (.bl true) H'
theorem masks_eq {f : List Int} {D : List Nat} (e : f = D.map fun m => ((m : Nat) : Int)) : Rd.masks f = D.map fun m => 2 ^ m := by
  rw [e, Rd.masks, List.map_map]
  rfl
theorem lots_one {n : Nat} {D : List Nat} (h : ∀ x ∈ D, x < n) : lotsD n (D.map fun m => 2 ^ m) = (D.map fun m => [m]).map rowD := by
  rw [lotsD]
  refine congrArg (List.map rowD) ?_
  rw [List.map_map]
  exact List.map_congr_left fun m hm => lotL_pow (h m hm)
theorem no_multi {n : Nat} {L : List Nat} {od : List Nat} (h : Rd.ns n L = 0) (hl : L.length = n) (ho : ∀ b ∈ od, b < n) : od.filter (Rd.multi n L) = [] := by
  rw [List.filter_eq_nil_iff]
  intro b hb q
  exact Rd.ns_zero h (b := b) (by rw [hl]; exact ho b hb) (beq_iff_eq.mp q)
section
variable {P : Program} {w : World} {K : PySem.W.Frag} {mg : Str → Option Value} {base : Heap}
theorem ok_holds (T : Txt K mg) (TE : Errs P K mg) : Okd P w K mg base CX0 11 "_law_holds" ["_law_longer_here", "_law_blocks", "_law_due"] spHolds := by
  have c_law_late : Okd P w K mg base CX0 2 "_law_late" ["_law_links_here", "_law_blocks"] spLate := ok_late T
  have c_law_same : Okd P w K mg base CX0 4 "_law_same" ["_law_told", "_law_due"] (spSame 3) := ok_same T 3
  have c_late_lots : Okd P w K mg base (L2.CX P w) 6 "late_lots" ["script", "blocks"] (spLots K) := ok_lots T TE
  have c_settled : Okd P w K mg base (L2.CX P w) 9 "settled" ["script", "blocks"] (spSettled2 K) := ok_settled2 T TE
  have c_law_repeated : Okd P w K mg base CX0 10 "_law_repeated" ["_law_log", "_law_blocks"] spRepeated := ok_repeated T TE
  refine okd0 (st := s_law_holds) T m_law_holds sc_law_holds (fun vs H Q E h => ?_) (fun _ _ _ _ _ _ us hl => match us, hl with | [_, _, _], _ => rfl) (fun f cdv A outer s H vs Q E hr h => ?_)
  · obtain ⟨vl, t, n, ls, ls2, D, rfl, _⟩ := h
    rfl
  have hu := hr.units
  refine ⟨_, (pss_cons (ps_setLc (i := 3) (own := [("_law_number", 6)]) (g := (gName 6)) (tt := tYes) rfl sc_law_holds.nd rfl rfl (sw_true rfl rfl rfl (by decide +kernel)) (pi_tup (pv 2)) (blkOk_by (N := law_holds_N) (sc := defScope s_law_holds) (by decide +kernel)) (fun _ _ _ _ _ => (pg_name (i := 6) sc_law_holds.nd rfl (Or.inl rfl))) (fun _ _ _ _ _ => pts_nil) (fun _ _ _ _ _ => (pe_op op_shl1 pe_int (pv 6))))
  (pss_cons (ps_if (pt_cmpR (op_neD hu) (pe_cd c_law_late hr (by decide) rfl (pa_cons (pv 0) (pa_cons (pv 1) pa_nil))) (pv 3) (nomark _))
    (pss_one (ps_ret pe_bl))
    pss_nil)
  (pss_cons (ps_setLc (i := 4) (own := [("_law_link", 7)]) (g := (gName 7)) (tt := tYes) rfl sc_law_holds.nd rfl rfl (sw_true rfl rfl rfl (by decide +kernel)) (pi_list (pv 0)) (blkOk_by (N := law_holds_N) (sc := defScope s_law_holds) (by decide +kernel)) (fun _ _ _ _ _ => (pg_name (i := 7) sc_law_holds.nd rfl (Or.inl rfl))) (fun _ _ _ _ _ => pts_nil) (fun _ _ _ _ _ => (pe_tup (pa_cons pe_str (pa_cons (pe_ix (r := rIxT K) ix_tup (pv 7) pe_int (fun _ _ => rfl)) (pa_cons (pe_ix (r := rIxT K) ix_tup (pv 7) pe_int (fun _ _ => rfl)) (pa_cons pe_str pa_nil)))))))
  (pss_cons (ps_if (pt_not (pt_val (pe_cd c_law_same hr (by decide) rfl (pa_cons (pe_cdN c_late_lots hr (by decide) rfl (pa_cons (pv 4) (pa_cons (pv 1) pa_nil))) (pa_cons (pe_callTy call_tuple_of (by rfl) T.b_tuple (by decide +kernel) (pa_cons (pe_lc (own := [("_law_number", 6)]) (g := (gName 6)) (tt := tYes) rfl sc_law_holds.nd (pi_tup (pv 2)) (blkOk_by (N := law_holds_N) (sc := defScope s_law_holds) (by decide +kernel)) (fun _ _ _ _ _ => (pg_name (i := 6) sc_law_holds.nd rfl (Or.inl rfl))) (fun _ _ _ _ _ => pts_nil) (fun _ _ _ _ _ => (pe_tup (pa_cons (pv 6) pa_nil)))) pa_nil)) pa_nil)))))
    (pss_one (ps_ret pe_bl))
    pss_nil)
  (pss_cons (ps_if (pt_not (pt_val (pe_cd c_law_same hr (by decide) rfl (pa_cons (pe_cdN c_settled hr (by decide) rfl (pa_cons (pv 4) (pa_cons (pv 1) pa_nil))) (pa_cons (pv 2) pa_nil)))))
    (pss_one (ps_ret pe_bl))
    pss_nil)
  (pss_cons (ps_set (i := 5) sc_law_holds.nd rfl (Or.inl rfl) (pe_cd c_law_repeated hr (by decide) rfl (pa_cons (pv 4) (pa_cons (pv 1) pa_nil))))
  (pss_one (ps_ret (pe_and (pe_cmpR op_eq (pe_ix ix_list (pv 5) pe_int (fun _ _ => rfl)) pe_int (nomark _)) (pe_one (pe_cd c_law_same hr (by decide) rfl (pa_cons (pe_ix ix_list (pv 5) pe_int (fun _ _ => rfl)) (pa_cons (pe_lst pa_nil) pa_nil))))))))))))), ?_⟩
  · obtain ⟨vl, t, n, ls, ls2, D, rfl, hn1, hn, hl2, lg, eD, hD, hd, ht, k⟩ := h
    have hDl : D.length = n := by
      have := congrArg List.length eD
      rw [List.length_map, Rd.len_sv] at this
      exact this.symm
    refine ⟨_, rfl, t, rfl, ⟨_, SqT.of ht⟩, fun d hd0 => ?_⟩
    refine lc_tup (K := K) (a := t) (xs := nV D) (fun i H1 => Same H H1 ∧ H1 d = some (.lst (nV ((D.take i).map fun m => 2 ^ m)))) ⟨.new hd0, upd_same⟩ (fun i H1 _ q => SqT.of (q.1 _ _ ht)) ?_ ?_
    · rintro i x H1 hxi ⟨S, h1⟩
      obtain ⟨m, hm, rfl⟩ := get_map hxi
      have hmn := hD m (List.mem_of_getElem? hm)
      have hi := get_lt hm
      refine ⟨rfl, _, rfl, m, rfl, rfl, by omega, _, h1, small_line ?_, S.mut hd0, ?_⟩
      · rw [nV_len, List.length_map, List.length_take]
        omega
      · rw [upd_same, nV_snoc, take_succ_get hm, List.map_append]
        rfl
    rintro H1 ⟨S1, h1⟩
    rw [nV_len, List.take_of_length_le (Nat.le_refl _)] at h1
    refine ⟨_, rfl, _, rfl, vl, n, ls2, rfl, by omega, by omega, lg.ok, hd.to S1, fun p H2 S2 hpn hp => ?_⟩
    have h2 := S2 _ _ h1
    rw [lg.lots, masks_eq eD] at hp
    refine ⟨_, rfl, numsD (D.map fun m => 2 ^ m), numsD (D.map fun m => 2 ^ m), (dt_nums hp).dp _ _, (dt_nums h2).dp _ _, nums_shaped _, nums_shaped _, _, rfl, ?_⟩
    rw [SeqAt.eqv_refl _ (nums_can _)]
    refine iteF ?_
    have S02 := S1.trans S2
    obtain ⟨a, xs, rfl, ha, hxl, hdx, hx⟩ := lks_dt (hd.to S02)
    refine ⟨_, rfl, a, rfl, ⟨_, SqL.of ha⟩, fun e he => ?_⟩
    refine lc_list (K := K) (a := a) (xs := xs) (fun i H3 => Same H2 H3 ∧ ∃ ys, H3 e = some (.lst ys) ∧ ys.length = i ∧ DtAll (wo H3 e) ys ((ls2.take i).map lnD)) ⟨.new he, [], upd_same, rfl, .nil⟩ (fun i H3 _ z => SqL.of (z.1 _ _ ha)) ?_ ?_
    · rintro i x H3 hxi ⟨S3, ys, h3, hyl, hys⟩
      obtain ⟨q, l, rfl, hl, hq⟩ := hx i x hxi
      have hq3 := S3 _ _ hq
      have hi := get_lt hl
      refine ⟨rfl, _, rfl, q, _, _, _, rfl, rfl, SqT.of hq3, rfl, _, rfl, q, _, _, _, rfl, rfl, SqT.of hq3, rfl, (by show 4 ≤ sizeLine; decide), fun u hu => ?_⟩
      have hne : u ≠ e := fun z => by rw [z, h3] at hu; cases hu
      have S4 : Same H3 (upd H3 u (.tup [.str "copy", .int (l.1 : Nat), .int (l.2 : Nat), .str ""])) := .new hu
      refine ⟨ys, S4 _ _ h3, small_line (by omega), (S3.trans S4).mut he, _, upd_same, by rw [List.length_append, hyl]; rfl, ?_⟩
      rw [wo_upd, take_succ_get hl, List.map_append]
      exact (hys.to (wo_mono S4)).snoc (dt_ln (by rw [wo_ne hne]; exact upd_same))
    rintro H3 ⟨S3, ys, h3, hyl, hys⟩
    rw [hxl, List.take_of_length_le (Nat.le_refl _)] at hys
    have gl : GoodLog H3 (.ref e) n ls2 := ⟨hn1, hn, hl2, lg.ok, .lst h3 (hys.to wo_same)⟩
    obtain ⟨sc, ps, eo⟩ := gl.passed
    have ht3 := S3 _ _ (S02 _ _ ht)
    refine ⟨_, rfl, _, rfl, .ref e, n, sc, rfl, ps, ?_⟩
    rw [eo]
    intro r H4 S4 d4
    rw [lg.lots, masks_eq eD, lots_one hD] at d4
    have ht4 := S4 _ _ ht3
    refine ⟨_, rfl, t, rfl, ⟨_, SqT.of ht4⟩, fun d2 hd2 => ?_⟩
    refine lc_tup (K := K) (a := t) (xs := nV D) (fun i H5 => Same H4 H5 ∧ ∃ ys, H5 d2 = some (.lst ys) ∧ ys.length = i ∧ DtAll (wo H5 d2) ys ((D.take i).map fun m => rowD [m])) ⟨.new hd2, [], upd_same, rfl, .nil⟩ (fun i H5 _ z => SqT.of (z.1 _ _ ht4)) ?_ ?_
    · rintro i x H5 hxi ⟨S5, ys, h5, hyl, hys⟩
      obtain ⟨m, hm, rfl⟩ := get_map hxi
      have hi := get_lt hm
      refine ⟨rfl, _, rfl, (by show 1 ≤ sizeLine; decide), fun u hu => ?_⟩
      have hne : u ≠ d2 := fun z => by rw [z, h5] at hu; cases hu
      have S6 : Same H5 (upd H5 u (.tup [.int (m : Nat)])) := .new hu
      refine ⟨ys, S6 _ _ h5, small_line (by omega), (S5.trans S6).mut hd2, _, upd_same, by rw [List.length_append, hyl]; rfl, ?_⟩
      rw [wo_upd, take_succ_get hm, List.map_append]
      exact (hys.to (wo_mono S6)).snoc (dt_row (L := [m]) (by rw [wo_ne hne]; exact upd_same))
    rintro H5 ⟨S5, zs, h5, hzl, hzs⟩
    rw [nV_len, List.take_of_length_le (Nat.le_refl _)] at hzs
    refine ⟨d2, _, rfl, .inl ⟨SqL.of h5, fun u hu => ?_⟩⟩
    have S6 : Same H5 (upd H5 u (.tup zs)) := .new hu
    have d6 : Dt (upd H5 u (.tup zs)) (.ref u) (.tuple ((D.map fun m => [m]).map rowD)) := by
      refine .tup upd_same ?_
      rw [List.map_map]
      exact (hzs.to wo_same).to S6
    have S36 := S4.trans (S5.trans S6)
    refine ⟨_, _, rfl, eqv_rows ((d4.to S5).to S6) d6 (by rw [List.length_map]; omega) (fun r hr => by obtain ⟨m, _, rfl⟩ := List.mem_map.mp hr; show 1 ≤ 1000; decide), true, rfl, ?_⟩
    refine iteF ?_
    generalize upd H5 u (.tup zs) = H6 at S36 S6 d6 ⊢
    obtain ⟨sc2, ps2, eo2⟩ := (gl.to S36).passed
    refine ⟨_, rfl, _, rfl, .ref e, n, sc2, rfl, ps2, ?_⟩
    rw [eo2]
    intro r7 o7 H7 S7 h7
    have e7 : svL n ls2 = D.map (fun m => ((m : Nat) : Int)) := lg.set.trans eD
    rw [e7] at h7
    have S37 := S36.trans S7
    have ht7 := S37 _ _ ht3
    rw [nV_ints] at ht7
    refine ⟨_, rfl, _, _, rfl, eqv_tup (D := 1) (.inr ⟨o7, h7⟩) (.inl ht7) (by rw [List.length_map]; omega), true, rfl, ?_⟩
    refine iteF ?_
    refine ⟨_, rfl, _, rfl, .ref e, n, ls2, rfl, gl.to S37, fun hv r8 q8 H8 W od hW oo S8 hr8 hq8 => ?_, fun b0 hb e0 _ => ?_⟩
    · rw [no_multi lg.zero (Rd.len_late _ _) (fun b hb => (oo.mem b).mp hb)] at hq8
      refine ⟨_, rfl, r8, _, _, _, rfl, rfl, SqL.of hr8, rfl, rfl, _, rfl, ?_⟩
      refine iteT ?_
      refine ⟨_, rfl, r8, _, _, _, rfl, rfl, SqL.of hr8, rfl, (by show 0 ≤ sizeLine; decide), fun u8 hu8 => ?_⟩
      refine ⟨_, _, rfl, eqv_lst (D := 1) (xs := []) ((Same.new hu8) _ _ hq8) upd_same (by decide), ?_⟩
      exact k _ ((S02.trans (S3.trans (S37.trans S8))).to hu8)
    · obtain ⟨w0, _, h0⟩ := lg.nat b0 hb
      rw [svL, lg.set, h0] at e0
      omega
end
end Rw
/-! ## FFewest -/
namespace Rw
open PySem PySem.Spec PyProof.Rows L2
abbrev law_fewest_N : List Str := ["_law_links_here", "_law_lots", "_law_blocks", "_law_front", "_law_known", "_law_count", "_law_row", "_law_later", "_law_link", "_law_after_here"]
theorem sc_law_fewest : FnScope law_fewest_N ["_law_links_here", "_law_lots", "_law_blocks"] (defScope s_law_fewest) := ⟨rfl, rfl, rfl, by decide +kernel, rfl, by decide +kernel, by decide +kernel⟩
theorem m_law_fewest : d_law_fewest ∈ fn := List.mem_of_getElem? (i := 46) rfl
/-- one level of the search: the dict at d and the list at p -/
structure Lvl (G H1 : Hp) (p d : Addr) (pp : Rd.Rows × Rd.Rows) : Prop where
  same : Same G H1
  hd : H1 d = some (.dT (knV pp.1))
  ex : ∃ xs, H1 p = some (.lst xs) ∧ DtAll (wo2 H1 p d) xs (pp.2.map rowD)
theorem Lvl.more {G H1 : Hp} {p d : Addr} {pp : Rd.Rows × Rd.Rows} (f : Lvl G H1 p d pp) (hp : G p = none) (hd : G d = none) (hne : d ≠ p) {xs : List V} (h : H1 p = some (.lst xs)) {q : Addr} {r : List Nat} (hq : H1 q = some (.tup (nV r)))
    (hn : pp.1.contains r = false) : Lvl G (upd (upd H1 d (.dT (putK (knV pp.1) (kN r) (V.bl true)))) p (.lst (xs ++ [.ref q]))) p d (pp.1 ++ [r], pp.2 ++ [r]) := by
  obtain ⟨ys, h1, h2⟩ := f.ex
  rw [h] at h1
  cases h1
  have hqp : q ≠ p := fun z => by rw [z, h] at hq; cases hq
  have hqd : q ≠ d := fun z => by rw [z, f.hd] at hq; cases hq
  refine ⟨(f.same.mut hd).mut hp, ?_, ⟨_, upd_same, ?_⟩⟩
  · rw [upd_ne hne, upd_same, knV_put hn]
  · rw [wo2_p, wo2_d hne, List.map_append]
    exact h2.snoc (dt_row (by rw [wo2_ne hqp hqd]; exact hq))
theorem Lvl.step {G H1 H2 : Hp} {p d : Addr} {pp : Rd.Rows × Rd.Rows} (f : Lvl G H1 p d pp) (S : Same H1 H2) : Lvl G H2 p d pp := by
  obtain ⟨xs, h1, h2⟩ := f.ex
  exact ⟨f.same.trans S, S _ _ f.hd, ⟨xs, S _ _ h1, h2.to (wo2_mono S)⟩⟩
theorem Lvl.len {G H1 : Hp} {p d : Addr} {pp : Rd.Rows × Rd.Rows} (f : Lvl G H1 p d pp) {xs : List V} (h : H1 p = some (.lst xs)) : xs.length = pp.2.length := by
  obtain ⟨ys, h1, h2⟩ := f.ex
  rw [h] at h1
  cases h1
  rw [h2.len, List.length_map]
theorem any_take_succ {α : Type} {p : α → Bool} {l : List α} {i : Nat} {x : α} (h : l[i]? = some x) : (l.take (i + 1)).any p = ((l.take i).any p || p x) := by
  rw [take_succ_get h, List.any_append]
  simp
theorem level_succ {n : Nat} {ls : List Lk} {fr : Rd.Rows} {pp : Rd.Rows × Rd.Rows} {i : Nat} {r : List Nat} (h : fr[i]? = some r) : (fr.take (i + 1)).foldl (Rd.bfsRow n ls) pp = Rd.bfsRow n ls ((fr.take i).foldl (Rd.bfsRow n ls) pp) r := by
  rw [take_succ_get h, List.foldl_append]
  rfl
theorem row_succ {n : Nat} {ls : List Lk} {r : List Nat} {pp : Rd.Rows × Rd.Rows} {i : Nat} {l : Lk} (h : ls[i]? = some l) : (ls.take (i + 1)).foldl (Rd.bfsLink n ls r) pp = Rd.bfsLink n ls r ((ls.take i).foldl (Rd.bfsLink n ls r) pp) l := by
  rw [take_succ_get h, List.foldl_append]
  rfl
def spFewest : Sp := fun vs H Q _ => ∃ (vl : V) (p : Addr) (n : Nat) (ls : List Lk) (L : List Nat), vs = [vl, .ref p, .int (n : Int)] ∧ 0 < n ∧ n ≤ 5 ∧ ls.length ≤ 1000 ∧ Rd.Root n ls L ∧ Dt H vl (lksD ls) ∧ H p = some (.lst (nV L)) ∧
  ∀ H', Same H H' → Q (.int (Rd.fewest n ls L)) H'
section
variable {P : Program} {w : World} {K : PySem.W.Frag} {mg : Str → Option Value} {base : Heap}
theorem ok_fewest (T : Txt K mg) : Okd P w K mg base CX0 3 "_law_fewest" ["_law_links_here", "_law_lots", "_law_blocks"] spFewest := by
  have c_law_closed : Okd P w K mg base CX0 1 "_law_closed" ["_law_lots", "_law_links_here", "_law_blocks"] spClosed := ok_closed T
  have c_law_all_single : Okd P w K mg base CX0 2 "_law_all_single" ["_law_lots", "_law_blocks"] spAllSingle := ok_all_single T
  refine okd0 (st := s_law_fewest) T m_law_fewest sc_law_fewest (fun vs H Q E h => ?_) (fun _ _ _ _ _ _ us hl => match us, hl with | [_, _, _], _ => rfl) (fun f cdv A outer s H vs Q E hr h => ?_)
  · obtain ⟨vl, p, n, ls, L, rfl, _⟩ := h
    rfl
  · have hu := hu_of hr
    refine ⟨_, (pss_cons (ps_set (i := 3) sc_law_fewest.nd rfl (Or.inl rfl) (pe_lst (pa_cons (pe_callTy call_tuple_of (by rfl) T.b_tuple (by decide +kernel) (pa_cons (pv 1) pa_nil)) pa_nil)))
  (pss_cons (ps_set (i := 4) sc_law_fewest.nd rfl (Or.inl rfl) pe_dnewT)
  (pss_cons (ps_dput hu (pv 4) (pe_ix ix_list (pv 3) pe_int (fun _ _ => rfl)) pe_bl rfl)
  (pss_cons (ps_for PassesOwn.never rfl (pi_range1 (by rfl) T.b_range (pa_cons (pe_op op_add (pe_op op_mul (pv 2) (pv 2)) pe_int) pa_nil)) (pg_name (i := 5) sc_law_fewest.nd rfl (Or.inl rfl))
    (pss_cons (ps_for PassesOwn.never rfl (pi_list (pv 3)) (pg_name (i := 6) sc_law_fewest.nd rfl (Or.inl rfl))
      (pss_one (ps_if (pt_val (pe_cd c_law_all_single hr (by decide) rfl (pa_cons (pv 6) (pa_cons (pv 2) pa_nil))))
        (pss_one (ps_ret (pv 5)))
        pss_nil)))
    (pss_cons (ps_set (i := 7) sc_law_fewest.nd rfl (Or.inl rfl) (pe_lst pa_nil))
    (pss_cons (ps_for PassesOwn.never rfl (pi_list (pv 3)) (pg_name (i := 6) sc_law_fewest.nd rfl (Or.inl rfl))
      (pss_one (ps_for PassesOwn.never rfl (pi_list (pv 0)) (pg_name (i := 8) sc_law_fewest.nd rfl (Or.inl rfl))
        (pss_cons (ps_set (i := 9) sc_law_fewest.nd rfl (Or.inl rfl) (pe_callTy call_list_of (by rfl) T.b_list (by decide +kernel) (pa_cons (pv 6) pa_nil)))
        (pss_cons (ps_asg (pe_ix ix_list (pv 9) (pe_ix ix_tup (pv 8) pe_int (fun _ _ => rfl)) (fun _ _ => rfl)) (pg_sub (pv 9) (pe_ix ix_tup (pv 8) pe_int (fun _ _ => rfl)) set_list))
        (pss_cons (ps_set (i := 9) sc_law_fewest.nd rfl (Or.inl rfl) (pe_callTy call_tuple_of (by rfl) T.b_tuple (by decide +kernel) (pa_cons (pe_cd c_law_closed hr (by decide) rfl (pa_cons (pv 9) (pa_cons (pv 0) (pa_cons (pv 2) pa_nil)))) pa_nil)))
        (pss_one (ps_if (pt_cmp (pc_dnotin hu (pv 9) (pv 4)) rfl)
          (pss_cons (ps_dput hu (pv 4) (pv 9) pe_bl rfl)
          (pss_one (ps_expr (pe_bm PySem.F.plainAttrs_list PySem.F.slot_list_append PySem.F.type_list_append mt_append (pv 7) (pa_cons (pv 9) pa_nil)))))
          pss_nil))))))))
    (pss_one (ps_set (i := 3) sc_law_fewest.nd rfl (Or.inl rfl) (pv 7)))))))
  (pss_one (ps_ret (pe_un un_neg pe_int))))))), ?_⟩
    obtain ⟨vl, a0, n, ls, L, rfl, hn0, hn, hll, ro, hv, hL, k⟩ := h
    have ho := ro.ok
    obtain ⟨a, xs, rfl, ha, hxl, hd, hx⟩ := lks_dt hv
    refine ⟨_, rfl, a0, _, rfl, .inl ⟨SqL.of hL, fun t ht => ?_⟩⟩
    refine ⟨by show 1 ≤ sizeLine; decide, fun p0 hp0 => fun d hd0 => ?_⟩
    have S0 : Same H (upd (upd H t (.tup (nV L))) p0 (.lst [.ref t])) := (Same.new ht).to hp0
    have D0 : Dt (upd (upd H t (.tup (nV L))) p0 (.lst [.ref t])) (.ref p0) (rowsD [L]) := .lst upd_same (.cons (dt_row (by rw [upd_ne (ne_of_none upd_same hp0), upd_same])) .nil)
    have hp00 : upd (upd H t (.tup (nV L))) p0 (.lst [.ref t]) p0 = some (.lst [.ref t]) := upd_same
    have ht0 : upd (upd H t (.tup (nV L))) p0 (.lst [.ref t]) t = some (.tup (nV L)) := by rw [upd_ne (ne_of_none upd_same hp0), upd_same]
    generalize upd (upd H t (.tup (nV L))) p0 (.lst [.ref t]) = H0 at S0 D0 hp00 ht0 hd0 ⊢
    have Sd : Same H0 (upd H0 d (.dT [])) := .new hd0
    have hdn : H d = none := none_of S0 hd0
    refine ⟨_, rfl, _, rfl, p0, _, _, _, rfl, rfl, SqL.of (Sd _ _ hp00), at_cons0 _ _, d, _, rfl, DPut.t upd_same (k := kN L) (by rw [kN_kV]; exact Sd _ _ ht0) (small_line (by simp)), ?_⟩
    have hnn : n * n ≤ 25 := Nat.mul_le_mul hn hn
    have hk0 : putK [] (kN L) (V.bl true) = knV [L] := knV_put (rows := []) rfl
    rw [hk0]
    refine ⟨_, rfl, _, rfl, _, _, rfl, rfl, .inl ⟨by omega, by omega⟩, _, _, rfl, rfl, ((n * n + 1 : Nat) : Int), (by push_cast; rfl), by omega, by omega, ?_⟩
    refine for_rng (n := n * n + 1) (fun i σ H1 => ∃ q v5 v6 v7 v8 v9, σ = [some (.ref a), some (.ref a0), some (.int n), some (.ref q), some (.ref d), v5, v6, v7, v8, v9] ∧ Same H H1 ∧ ∃ kn fr : Rd.Rows, H1 d = some (.dT (knV kn)) ∧ Dt (wo H1 d) (.ref q) (rowsD fr) ∧ kn.Nodup ∧ (∀ x ∈ kn, Rd.St n ls L x) ∧ (∀ x ∈ fr, x ∈ kn) ∧ Rd.bfs n ls (n * n + 1 - i) kn fr i = Rd.fewest n ls L) ?_ ?_ ?_
    · refine ⟨_, _, _, _, _, _, rfl, (S0.mut hdn).mut hdn, [L], [L], upd_same, ?_, by simp, fun x hx => ?_, fun _ h => h, rfl⟩
      · rw [wo_upd, wo_upd]
        exact D0.to (same_wo (Same.refl _) hd0)
      · rw [List.mem_singleton.mp hx]
        exact ro.st
    · rintro i σ H1 hi ⟨q, v5, v6, v7, v8, v9, rfl, S1, kn, fr, hd1, Dq, hnd, hst, hsub, hbf⟩
      obtain ⟨q', ys, e, hq, hy⟩ := Dq.list_inv
      cases e
      have hq1 : H1 q = some (.lst ys) := wo_same _ _ hq
      have hyl : ys.length = fr.length := by rw [hy.len, List.length_map]
      have e1 : n * n + 1 - i = (n * n + 1 - (i + 1)) + 1 := by omega
      rw [e1, Rd.bfs] at hbf
      refine ⟨_, rfl, q, rfl, ⟨_, SqL.of hq1⟩, for_list (K := K) (a := q) (xs := ys) (fun j σ H2 => (∃ v6, σ = [some (.ref a), some (.ref a0), some (.int n), some (.ref q), some (.ref d), some (.int i), v6, v7, v8, v9]) ∧ Same H1 H2 ∧ (fr.take j).any (fun r => Rd.ns n r == 0) = false) ⟨⟨_, rfl⟩, Same.refl _, rfl⟩ (fun j σ H2 _ z => SqL.of (z.2.1 _ _ hq1)) ?_ ?_⟩
      · rintro j x σ H2 hxj ⟨⟨v6, rfl⟩, S2, hany⟩
        obtain ⟨c, r, rfl, hrj, hc⟩ := rows_of hy hxj
        have hr0 := hst r (hsub r (List.mem_of_getElem? hrj))
        refine ⟨_, rfl, _, rfl, c, n, r, rfl, by omega, by rw [hr0.good.len]; omega, S2 _ _ (wo_same _ _ hc), fun H3 S3 => ⟨_, rfl, ?_⟩⟩
        refine iteB (fun z => ?_) (fun z => ?_)
        · rw [if_pos (Rd.any_zero (List.mem_of_getElem? hrj) (by simpa using z))] at hbf
          refine ⟨_, rfl, ?_⟩
          rw [hbf]
          exact k _ ((S1.trans S2).trans S3)
        · refine ⟨⟨_, rfl⟩, S2.trans S3, ?_⟩
          rw [any_take_succ hrj, hany, z]
          rfl
      · rintro σ H2 ⟨⟨v6, rfl⟩, S2, hany⟩
        rw [hyl, List.take_of_length_le (Nat.le_refl _)] at hany
        rw [if_neg (by rw [hany]; exact Bool.false_ne_true)] at hbf
        refine ⟨Nat.zero_le _, fun p hp => ?_⟩
        have hd2 := S2 _ _ hd1
        have hdp : d ≠ p := ne_of_none hd2 hp
        have Gd : wo H2 d d = none := wo_self
        have Gp : wo H2 d p = none := none_of wo_same hp
        have SG : Same (wo H2 d) H2 := wo_same
        have Hn1 : Same H (wo H2 d) := same_wo (S1.trans S2) hdn
        have hyG : DtAll (wo H2 d) ys (fr.map rowD) := hy.to (wo_mono S2)
        have hqG : wo H2 d q = some (.lst ys) := wo_mono S2 _ _ hq
        have F0 : Lvl (wo H2 d) (upd H2 p (.lst [])) p d (kn, []) := ⟨SG.to hp, by rw [upd_ne hdp]; exact hd2, [], upd_same, .nil⟩
        have hsf : ∀ x ∈ fr, Rd.St n ls L x := fun x hx => hst x (hsub x hx)
        refine ⟨_, rfl, q, rfl, ⟨_, SqL.of (F0.same _ _ hqG)⟩, for_list (K := K) (a := q) (xs := ys) (fun j σ H3 => (∃ v6 v8 v9, σ = [some (.ref a), some (.ref a0), some (.int n), some (.ref q), some (.ref d), some (.int i), v6, some (.ref p), v8, v9]) ∧ Lvl (wo H2 d) H3 p d ((fr.take j).foldl (Rd.bfsRow n ls) (kn, []))) ⟨⟨_, _, _, rfl⟩, F0⟩ (fun j σ H3 _ z => SqL.of (z.2.same _ _ hqG)) ?_ ?_⟩
        · rintro j x σ H3 hxj ⟨⟨v6, v8, v9, rfl⟩, F⟩
          obtain ⟨c, r, rfl, hrj, hc⟩ := rows_of hyG hxj
          have hr0 := hsf r (List.mem_of_getElem? hrj)
          have KO := Rd.KnOk.level ho (fr.take j) (kn, []) (fun x hx => hsf x (List.mem_of_mem_take hx)) (Rd.KnOk.begin hnd hst)
          rw [level_succ hrj]
          generalize (fr.take j).foldl (Rd.bfsRow n ls) (kn, []) = pp at F KO ⊢
          refine ⟨_, rfl, a, rfl, ⟨_, SqL.of ((Hn1.trans F.same) _ _ ha)⟩, for_list (K := K) (a := a) (xs := xs) (fun m σ H4 => (∃ v8 v9, σ = [some (.ref a), some (.ref a0), some (.int n), some (.ref q), some (.ref d), some (.int i), some (.ref c), some (.ref p), v8, v9]) ∧ Lvl (wo H2 d) H4 p d ((ls.take m).foldl (Rd.bfsLink n ls r) pp)) ⟨⟨_, _, rfl⟩, F⟩ (fun m σ H4 _ z => SqL.of ((Hn1.trans z.2.same) _ _ ha)) ?_ ?_⟩
          · rintro m x σ H4 hxm ⟨⟨v8, v9, rfl⟩, F4⟩
            obtain ⟨b, l, rfl, hlm, hb⟩ := hx m x hxm
            have hml := List.mem_of_getElem? hlm
            obtain ⟨o1, o2, o3⟩ := ho l hml
            have KO4 := Rd.KnOk.rowTake ho hr0 (ls.take m) pp (fun x hx => List.mem_of_mem_take hx) KO
            rw [row_succ hlm]
            generalize (ls.take m).foldl (Rd.bfsLink n ls r) pp = p4 at F4 KO4 ⊢
            have hc4 := F4.same _ _ hc
            have S04 := Hn1.trans F4.same
            refine ⟨_, rfl, c, _, rfl, .inr (SqT.of hc4), fun y hy0 => ?_⟩
            have S5 : Same H4 (upd H4 y (.lst (nV r))) := .new hy0
            have hb5 := S5 _ _ (S04 _ _ hb)
            have hrl : r.length = n := hr0.good.len
            refine ⟨_, rfl, _, rfl, b, _, _, _, rfl, rfl, SqT.of hb5, rfl, y, _, _, _, rfl, rfl, SqL.of upd_same, nV_at (by omega), ?_⟩
            refine ⟨_, rfl, _, rfl, b, _, _, _, rfl, rfl, SqT.of hb5, rfl, y, _, _, l.1, rfl, rfl, upd_same, ix_nat (by rw [nV_len]; omega), ?_⟩
            rw [nV_set]
            have S6 : Same H4 (upd (upd H4 y (.lst (nV r))) y (.lst (nV (r.set l.1 (Rd.gL r l.2))))) := S5.mut hy0
            have hy6 : upd (upd H4 y (.lst (nV r))) y (.lst (nV (r.set l.1 (Rd.gL r l.2)))) y = some (.lst (nV (r.set l.1 (Rd.gL r l.2)))) := upd_same
            generalize upd (upd H4 y (.lst (nV r))) y (.lst (nV (r.set l.1 (Rd.gL r l.2)))) = H6 at S6 hy6 ⊢
            refine ⟨_, rfl, _, rfl, _, rfl, y, .ref a, n, ls, _, wo H6 y, rfl, by omega, ho, by rw [List.length_set]; exact hrl, wo_same, wo_self, hy6, hv.to (S04.trans (same_wo S6 hy0)), fun H7 S7 hy7 => ?_⟩
            have S47 : Same H4 H7 := (same_wo S6 hy0).trans S7
            refine ⟨y, _, rfl, .inl ⟨SqL.of hy7, fun t ht => ?_⟩⟩
            have F8 := F4.step (S47.to (o := .tup (nV (Rd.app n ls r l))) ht)
            have ht8 : upd H7 t (.tup (nV (Rd.app n ls r l))) t = some (.tup (nV (Rd.app n ls r l))) := upd_same
            have ht9 : upd H7 t (.tup (nV (Rd.clo n ls (r.set l.1 (Rd.gL r l.2))))) t = some (.tup (nV (Rd.app n ls r l))) := upd_same
            have F9 : Lvl (wo H2 d) (upd H7 t (.tup (nV (Rd.clo n ls (r.set l.1 (Rd.gL r l.2)))))) p d p4 := F8
            generalize upd H7 t (.tup (nV (Rd.clo n ls (r.set l.1 (Rd.gL r l.2))))) = H9 at F9 ht9 ⊢
            rw [Rd.bfsLink]
            generalize Rd.app n ls r l = rr at ht9 ⊢
            refine ⟨_, rfl, _, rfl, d, _, rfl, DGet.t F9.hd (k := kN rr) (by rw [kN_kV]; exact ht9), _, rfl, ?_⟩
            rw [knV_some]
            have hsz := Rd.known_le ho hn0 hn p4.1 KO4.nodup KO4.st
            have hsz2 : p4.2.length ≤ p4.1.length := by rw [KO4.eq, List.length_append]; omega
            cases hcn : p4.1.contains rr with
            | true =>
              refine iteF ⟨⟨_, _, rfl⟩, ?_⟩
              rw [if_pos rfl]
              exact F9
            | false =>
              refine iteT ?_
              rw [if_neg Bool.false_ne_true]
              obtain ⟨zs, h9, _⟩ := F9.ex
              have h9' : upd H9 d (.dT (putK (knV p4.1) (kN rr) (V.bl true))) p = some (.lst zs) := by rw [upd_ne hdp.symm]; exact h9
              refine ⟨_, rfl, _, rfl, d, _, rfl, DPut.t F9.hd (k := kN rr) (by rw [kN_kV]; exact ht9) (small_line (by rw [knV_len]; omega)), ?_⟩
              exact ⟨_, rfl, .inl ⟨rfl, _, SqL.of h9'⟩, _, rfl, p, _, _, rfl, rfl, h9', small_line (by rw [F9.len h9]; omega), ⟨_, _, rfl⟩, F9.more Gp Gd hdp h9 ht9 hcn⟩
          · rintro σ H4 ⟨⟨v8, v9, rfl⟩, F4⟩
            rw [List.take_of_length_le (show ls.length ≤ xs.length by omega)] at F4
            exact ⟨⟨_, _, _, rfl⟩, F4⟩
        · rintro σ H3 ⟨⟨v6, v8, v9, rfl⟩, F⟩
          rw [hyl, List.take_of_length_le (Nat.le_refl _)] at F
          have KO := Rd.KnOk.level ho fr (kn, []) hsf (Rd.KnOk.begin hnd hst)
          obtain ⟨zs, h3, hz⟩ := F.ex
          refine ⟨_, rfl, p, _, _, _, _, _, rfl, Hn1.trans F.same, _, _, F.hd, .lst (by rw [wo_ne hdp.symm]; exact h3) (hz.to (wo_mono wo_same)), KO.nodup, KO.st, fun x hx => ?_, hbf⟩
          rw [KO.eq]
          exact List.mem_append_right _ hx
    · rintro σ H1 ⟨q, v5, v6, v7, v8, v9, rfl, S1, kn, fr, hd1, Dq, hnd, hst, hsub, hbf⟩
      rw [Nat.sub_self] at hbf
      refine ⟨_, rfl, ?_⟩
      show Q (V.int (-1)) H1
      have e : (-1 : Int) = Rd.fewest n ls L := hbf
      rw [e]
      exact k _ S1
end
end Rw
/-! ## RdStr -/
/-! # Texts of the scripts: guards. -/
namespace Rw
open PySem PySem.Spec PyProof.Rows L2
def chS (c : Nat) : Str := ⟨#[c]⟩
theorem join_ch (cs : List Nat) : Txt.join "" (cs.map chS) = ⟨cs.toArray⟩ := by
  have e0 := TL.tl_join "" (cs.map chS)
  have e1 : (cs.map chS).map TL.tl = cs.map fun c => [c] := by
    rw [List.map_map]
    exact List.map_congr_left fun c _ => rfl
  have e2 : ∀ cs : List Nat, TL.joinL [] (cs.map fun c => [c]) = cs := fun cs => by
    induction cs with
    | nil => rfl
    | cons c r ih =>
      cases r with
      | nil => rfl
      | cons d r =>
        show [c] ++ ([] ++ TL.joinL [] ((d :: r).map fun c => [c])) = c :: d :: r
        rw [ih]
        rfl
  rw [e1] at e0
  exact TL.ext_tl ((congrArg TL.tl (TL.join_eq "" (cs.map chS))).trans (e0.trans (e2 cs)))
theorem ch_len (c : Nat) : (chS c).length = 1 := rfl
theorem chs_sum (cs : List Nat) : ((cs.map chS).map (·.length)).sum = cs.length := by
  induction cs with
  | nil => rfl
  | cons c r ih =>
    rw [List.map_cons, List.map_cons, List.sum_cons, ih, ch_len, List.length_cons]
    omega
/-- a guard of all blocks -/
def GdN (n : Nat) (g : Str) : Prop := g.length = n ∧ g.cps.toList.all (fun c => decide (c ∈ signs.cps.toList)) = true
theorem GdN.is {n : Nat} {g : Str} (h : GdN n g) : isGd g n = true := by
  rw [isGd, h.1, h.2]
  simp
theorem GdN.ne {n : Nat} {g : Str} (h : GdN n g) (hn : 1 ≤ n) : g ≠ "" := fun z => by
  have := h.1
  rw [z] at this
  have e : ("" : Str).length = 0 := rfl
  omega
theorem gd_chs {cs : List Nat} {n : Nat} (hl : cs.length = n) (h : ∀ c ∈ cs, c ∈ signs.cps.toList) : GdN n ⟨cs.toArray⟩ := by
  refine ⟨by rw [← hl]; show cs.toArray.size = _; simp, ?_⟩
  rw [List.all_eq_true]
  intro c hc
  exact decide_eq_true (h c (by simpa using hc))
theorem sign_small : signs.cps.toList.all (fun c => decide (c < 1114112)) = true := by decide +kernel
theorem GdN.gok {n : Nat} {g : Str} (h : GdN n g) (hn : n ≤ 100) : gOk g := by
  refine ⟨by rw [h.1]; omega, ?_⟩
  rw [PyData.strOk, Array.all_eq_true']
  intro c hc
  have q := List.all_eq_true.mp h.2 c (by simpa using hc)
  exact List.all_eq_true.mp sign_small c (of_decide_eq_true q)
theorem at_sign {r : Nat} (h : r < 13) : ∃ c, atI signs.cps.toList (r : Int) = some c ∧ c ∈ signs.cps.toList := by
  have e : signs.cps.toList.length = 13 := by decide +kernel
  have h' : r < signs.cps.toList.length := by omega
  exact ⟨signs.cps.toList[r], atI_nat (List.getElem?_eq_getElem h'), List.getElem_mem h'⟩
def mulDash : List Nat := List.range 14
def dashB (n : Nat) : Bool := decide (n = 0) || (decide ((Txt.mul "-" (n : Int)).length = n) && (Txt.mul "-" (n : Int)).cps.toList.all (fun c => decide (c ∈ signs.cps.toList)))
theorem dash_all : mulDash.all dashB = true := by decide +kernel
theorem dash_ok {n : Nat} (h1 : 1 ≤ n) (h2 : n ≤ 13) : GdN n (Txt.mul "-" (n : Int)) := by
  have q := List.all_eq_true.mp dash_all n (List.mem_range.mpr (by omega))
  rw [dashB, Bool.or_eq_true] at q
  rcases q with q | q
  · have := of_decide_eq_true q
    omega
  · rw [Bool.and_eq_true] at q
    exact ⟨of_decide_eq_true q.1, q.2⟩
def exB (n : Nat) : Bool := decide (n = 0) || (!isGd (Txt.mul "x" (n : Int)) n && decide (gOk (Txt.mul "x" (n : Int))))
theorem ex_all : mulDash.all exB = true := by decide +kernel
theorem ex_bad {n : Nat} (h1 : 1 ≤ n) (h2 : n ≤ 13) : isGd (Txt.mul "x" (n : Int)) n = false ∧ gOk (Txt.mul "x" (n : Int)) := by
  have q := List.all_eq_true.mp ex_all n (List.mem_range.mpr (by omega))
  rw [exB, Bool.or_eq_true] at q
  rcases q with q | q
  · have := of_decide_eq_true q
    omega
  · rw [Bool.and_eq_true] at q
    exact ⟨by simpa using q.1, of_decide_eq_true q.2⟩
theorem mul_ok1 {s : Str} {n : Nat} (hs : s.length = 1) (h1 : 1 ≤ n) (h2 : n ≤ 13) : MulOk s (n : Int) := by
  refine ⟨?_, fun _ _ => ?_, fun _ _ => ?_⟩
  · rw [decide_eq_false (by omega), decide_eq_false (by omega)]
    rfl
  · rw [hs]
    have : (13 : Int) ≤ (2 ^ 63 - 1) / 13 := by decide
    intro c
    have h3 : (2 ^ 63 - 1) / (n : Int) < 1 := c
    have h4 := Int.lt_mul_of_ediv_lt (show (0 : Int) < n by omega) h3
    omega
  · rw [hs]
    show decide (1 * ((n : Int)).toNat > sizeLine) = false
    refine decide_eq_false ?_
    have e : ((n : Int)).toNat = n := by omega
    have e2 : (13 : Nat) ≤ sizeLine := by decide
    rw [e]
    omega
end Rw
/-! ## FOddA -/
namespace Rw
open PySem PySem.Spec PyProof.Rows L2
abbrev law_guard_N : List Str := ["_law_purse_here", "_law_blocks", "_law_k"]
theorem sc_law_guard : FnScope law_guard_N ["_law_purse_here", "_law_blocks"] (defScope s_law_guard) := ⟨rfl, rfl, rfl, by decide +kernel, rfl, by decide +kernel, by decide +kernel⟩
theorem m_law_guard : d_law_guard ∈ fn := List.mem_of_getElem? (i := 31) rfl
abbrev law_not_plain_N : List Str := ["_law_purse_here", "_law_blocks", "_law_pick", "_law_guard_here", "_law_link"]
theorem sc_law_not_plain : FnScope law_not_plain_N ["_law_purse_here", "_law_blocks"] (defScope s_law_not_plain) := ⟨rfl, rfl, rfl, by decide +kernel, rfl, by decide +kernel, by decide +kernel⟩
theorem m_law_not_plain : d_law_not_plain ∈ fn := List.mem_of_getElem? (i := 32) rfl
abbrev law_no_line_N : List Str := ["_law_purse_here", "_law_blocks", "_law_pick", "_law_far", "_law_target", "_law_source"]
theorem sc_law_no_line : FnScope law_no_line_N ["_law_purse_here", "_law_blocks"] (defScope s_law_no_line) := ⟨rfl, rfl, rfl, by decide +kernel, rfl, by decide +kernel, by decide +kernel⟩
theorem m_law_no_line : d_law_no_line ∈ fn := List.mem_of_getElem? (i := 33) rfl
/-- what is new in G' -/
def nw (G G' : Hp) : Hp := fun a => match G a with
  | none => G' a
  | some _ => none
theorem nwq {G G' : Hp} {a : Addr} {o : HO} (h : G a = none) (h' : G' a = some o) : nw G G' a = some o := by
  rw [nw, h]
  exact h'
theorem nw_inv {G G' : Hp} {a : Addr} {o : HO} (h : nw G G' a = some o) : G a = none ∧ G' a = some o := by
  rw [nw] at h
  cases e : G a with
  | none =>
    rw [e] at h
    exact ⟨rfl, h⟩
  | some u =>
    rw [e] at h
    cases h
theorem nw_wo {G G' : Hp} {d : Addr} {o : HO} (h : G d = some o) : Same (nw G G') (wo G' d) := fun a u e => by
  obtain ⟨h1, h2⟩ := nw_inv e
  rw [wo_ne (fun z => by rw [z, h] at h1; cases h1)]
  exact h2
theorem nw_same {G G' : Hp} : Same (nw G G') G' := fun a u e => (nw_inv e).2
def spGuardG : Sp := fun vs H Q _ => ∃ (p g : Addr) (G : Hp) (n : Nat), vs = [.ref p, .int (n : Int)] ∧ 1 ≤ n ∧ n ≤ 100 ∧ Purse p g G H ∧ ∀ s G' H', GdN n s → Same G G' → Purse p g G' H' → Q (.str s) H'
def spLineX (b : Bool) : Sp := fun vs H Q _ => ∃ (p g : Addr) (G : Hp) (n : Nat), vs = [.ref p, .int (n : Int)] ∧ 1 ≤ n ∧ n ≤ 12 ∧ Purse p g G H ∧
  ∀ (v : V) (x : LnX) (G' H' : Hp), Same G G' → Purse p g G' H' → Dt (nw G G') v x.toD → x.small → x.ok n = b → x.plain = false → Q v H'
def spNoLine : Sp := fun vs H Q _ => ∃ (p g : Addr) (G : Hp) (n : Nat), vs = [.ref p, .int (n : Int)] ∧ 1 ≤ n ∧ n ≤ 12 ∧ Purse p g G H ∧
  ∀ (v : V) (x : LnX) (G' H' : Hp), Same G G' → Purse p g G' H' → Dt (nw G G') v x.toD → x.small → x.ok n = false → Q v H'
theorem clear_ok {n t : Nat} {g : Str} (ht : t < n) (hg : isGd g n = true) : (LnX.quad "clear" (t : Int) (-1) g).ok n = true := by
  have e : (LnX.quad "clear" (t : Int) (-1) g).ok n = (isIx (t : Int) n && (isGd g n && decide ((-1 : Int) = -1))) := rfl
  rw [e, hg]
  simp [isIx]
  omega
theorem clear_plain {t s : Int} {g : Str} : (LnX.quad "clear" t s g).plain = false := by
  have h : ("clear" : Str) ≠ "copy" := by decide
  simp [LnX.plain, h]
theorem move_plain {t s : Int} {g : Str} : (LnX.quad "move" t s g).plain = false := by
  have h : ("move" : Str) ≠ "copy" := by decide
  simp [LnX.plain, h]
theorem copy_plain {t s : Int} {g : Str} (h : g ≠ "") : (LnX.quad "copy" t s g).plain = false := by
  simp [LnX.plain, h]
theorem link_ok {op : Str} {n : Nat} {l : Lk} {g : Str} (hop : op = "copy" ∨ op = "move") (h1 : l.1 < n) (h2 : l.2 < n) (h3 : l.1 ≠ l.2) (hg : isGd g n = true) : (LnX.quad op (l.1 : Nat) (l.2 : Nat) g).ok n = true := by
  have hc : op ≠ "clear" := by rcases hop with rfl | rfl <;> decide
  show (isIx ((l.1 : Nat) : Int) n && (isGd g n && (if op = "clear" then decide (((l.2 : Nat) : Int) = -1) else if op = "copy" ∨ op = "move" then isIx ((l.2 : Nat) : Int) n && decide (((l.2 : Nat) : Int) ≠ ((l.1 : Nat) : Int)) else false))) = true
  rw [if_neg hc, if_pos hop, hg]
  simp [isIx]
  omega
theorem gd_empty (n : Nat) : isGd "" n = true := by simp [isGd]
theorem dt_quad {H : Hp} {q : Addr} {op g : Str} {t s : Int} (h : H q = some (.tup [.str op, .int t, .int s, .str g])) : Dt H (.ref q) (LnX.quad op t s g).toD :=
  .tup h (.cons (.str _) (.cons (.int _) (.cons (.int _) (.cons (.str _) .nil))))
theorem bad_t {op g : Str} {t s : Int} {n : Nat} (h : isIx t n = false) : (LnX.quad op t s g).ok n = false := by
  show (isIx t n && _) = false
  rw [h, Bool.false_and]
theorem bad_g {op g : Str} {t s : Int} {n : Nat} (h : isGd g n = false) : (LnX.quad op t s g).ok n = false := by
  show (isIx t n && (isGd g n && _)) = false
  rw [h, Bool.false_and, Bool.and_false]
theorem bad_op {op g : Str} {t s : Int} {n : Nat} (h : (if op = "clear" then decide (s = -1) else if op = "copy" ∨ op = "move" then isIx s n && decide (s ≠ t) else false) = false) : (LnX.quad op t s g).ok n = false := by
  show (isIx t n && (isGd g n && (if op = "clear" then decide (s = -1) else if op = "copy" ∨ op = "move" then isIx s n && decide (s ≠ t) else false))) = false
  rw [h, Bool.and_false, Bool.and_false]
theorem ix_far {i : Int} {n : Nat} (h : (n : Int) ≤ i) : isIx i n = false := by
  rw [isIx, decide_eq_false (show ¬ i < (n : Int) by omega), Bool.and_false]
theorem ix_neg (n : Nat) : isIx (-1) n = false := by
  rw [isIx, decide_eq_false (show ¬ (0 : Int) ≤ -1 by omega), Bool.false_and]
theorem gd_long {n : Nat} {g : Str} (h : GdN (n + 1) g) : isGd g n = false := by
  have h1 := h.1
  have h2 := h.ne (by omega)
  rw [isGd, decide_eq_false h2, decide_eq_false (by omega)]
  rfl
section
variable {P : Program} {w : World} {K : PySem.W.Frag} {mg : Str → Option Value} {base : Heap}
theorem ok_guardG (T : Txt K mg) : Okd P w K mg base CX0 2 "_law_guard" ["_law_purse_here", "_law_blocks"] spGuardG := by
  have c_law_take : Okd P w K mg base CX0 1 "_law_take" ["_law_purse_here", "_law_size"] spTake := ok_take T
  refine okd0 (st := s_law_guard) T m_law_guard sc_law_guard (fun vs H Q E h => ?_) (fun _ _ _ _ _ _ us hl => match us, hl with | [_, _], _ => rfl) (fun f cdv A outer s H vs Q E hr h => ⟨_, (pss_one (ps_ret (pe_bm PySem.F.plainAttrs_str PySem.F.slot_str_join PySem.F.type_str_join mt_join pe_str (pa_cons (pe_lc (own := [("_law_k", 2)]) (g := (gName 2)) (tt := tYes) rfl sc_law_guard.nd (pi_range1 (by rfl) T.b_range (pa_cons (pv 1) pa_nil)) (blkOk_by (N := law_guard_N) (sc := defScope s_law_guard) (by decide +kernel)) (fun _ _ _ _ _ => (pg_name (i := 2) sc_law_guard.nd rfl (Or.inl rfl))) (fun _ _ _ _ _ => pts_nil) (fun _ _ _ _ _ => (pe_ix ix_str pe_str (pe_cd c_law_take hr (by decide) rfl (pa_cons (pv 0) (pa_cons pe_int pa_nil))) (fun _ _ => rfl)))) pa_nil)))), ?_⟩)
  · obtain ⟨p, g, G, n, rfl, _⟩ := h
    rfl
  · obtain ⟨p, g, G, n, rfl, hn1, hn, Pu, k⟩ := h
    refine ⟨rfl, _, rfl, n, rfl, by omega, by omega, fun d hd => ?_⟩
    have Gd := none_of Pu.same hd
    refine lc_rng (n := n) (fun i H3 => ∃ G3, Same G G3 ∧ Purse p g G3 H3 ∧ ∃ cs : List Nat, G3 d = some (.lst ((cs.map chS).map V.str)) ∧ cs.length = i ∧ ∀ c ∈ cs, c ∈ signs.cps.toList) ⟨_, Same.new Gd, Pu.new hd, [], upd_same, rfl, fun _ h => by cases h⟩ ?_ ?_
    · rintro i H3 hi ⟨G3, S3, P3, cs, hd3, hcl, hcs⟩
      refine ⟨rfl, _, rfl, p, g, G3, 13, rfl, by omega, by omega, P3, fun r H4 hr4 P4 => ?_⟩
      obtain ⟨c, hc, hcm⟩ := at_sign hr4
      refine ⟨_, _, c, rfl, rfl, by decide, hc, _, P4.same _ _ hd3, small_line (by rw [List.length_map, List.length_map]; omega), _, S3.mut Gd, P4.put hd3, cs ++ [c], ?_, by rw [List.length_append, hcl]; rfl, fun x hx => ?_⟩
      · rw [upd_same, List.map_append, List.map_append]
        rfl
      · rcases List.mem_append.mp hx with hx | hx
        · exact hcs x hx
        · rw [List.mem_singleton.mp hx]
          exact hcm
    · rintro H3 ⟨G3, S3, P3, cs, hd3, hcl, hcs⟩
      refine ⟨"", d, cs.map chS, rfl, rfl, .inl (SqL.of (P3.same _ _ hd3)), ?_, ?_⟩
      · rw [chs_sum, List.length_map]
        show cs.length + cs.length * 0 ≤ _
        omega
      · rw [join_ch]
        exact k _ G3 H3 (gd_chs hcl hcs) S3 P3
theorem ok_not_plain (T : Txt K mg) : Okd P w K mg base CX0 3 "_law_not_plain" ["_law_purse_here", "_law_blocks"] (spLineX true) := by
  have c_law_take : Okd P w K mg base CX0 1 "_law_take" ["_law_purse_here", "_law_size"] spTake := ok_take T
  have c_law_line : Okd P w K mg base CX0 2 "_law_line" ["_law_purse_here", "_law_blocks"] spLine := ok_line T
  have c_law_guard : Okd P w K mg base CX0 2 "_law_guard" ["_law_purse_here", "_law_blocks"] spGuardG := ok_guardG T
  refine okd0 (st := s_law_not_plain) T m_law_not_plain sc_law_not_plain (fun vs H Q E h => ?_) (fun _ _ _ _ _ _ us hl => match us, hl with | [_, _], _ => rfl) (fun f cdv A outer s H vs Q E hr h => ⟨_, (pss_cons (ps_set (i := 2) sc_law_not_plain.nd rfl (Or.inl rfl) (pe_cd c_law_take hr (by decide) rfl (pa_cons (pv 0) (pa_cons pe_int pa_nil))))
  (pss_cons (ps_if (PW.pt (pw_or (pt_cmpR op_eq (pv 2) pe_int (nomark _)) (pw_or1 (pt_cmpR op_eq (pv 1) pe_int (nomark _)))))
    (pss_cons (ps_set (i := 3) sc_law_not_plain.nd rfl (Or.inl rfl) (pe_ix ix_list (pe_lst (pa_cons pe_str (pa_cons (pe_cd c_law_guard hr (by decide) rfl (pa_cons (pv 0) (pa_cons (pv 1) pa_nil))) pa_nil))) (pe_cd c_law_take hr (by decide) rfl (pa_cons (pv 0) (pa_cons pe_int pa_nil))) (fun _ _ => rfl)))
    (pss_one (ps_ret (pe_tup (pa_cons pe_str (pa_cons (pe_cd c_law_take hr (by decide) rfl (pa_cons (pv 0) (pa_cons (pv 1) pa_nil))) (pa_cons (pe_un un_neg pe_int) (pa_cons (pv 3) pa_nil))))))))
    pss_nil)
  (pss_cons (ps_set (i := 4) sc_law_not_plain.nd rfl (Or.inl rfl) (pe_cd c_law_line hr (by decide) rfl (pa_cons (pv 0) (pa_cons (pv 1) pa_nil))))
  (pss_cons (ps_if (pt_cmpR op_eq (pv 2) pe_int (nomark _))
    (pss_one (ps_ret (pe_tup (pa_cons pe_str (pa_cons (pe_ix ix_tup (pv 4) pe_int (fun _ _ => rfl)) (pa_cons (pe_ix ix_tup (pv 4) pe_int (fun _ _ => rfl)) (pa_cons pe_str pa_nil)))))))
    pss_nil)
  (pss_cons (ps_if (pt_cmpR op_eq (pv 2) pe_int (nomark _))
    (pss_one (ps_ret (pe_tup (pa_cons pe_str (pa_cons (pe_ix ix_tup (pv 4) pe_int (fun _ _ => rfl)) (pa_cons (pe_ix ix_tup (pv 4) pe_int (fun _ _ => rfl)) (pa_cons (pe_cd c_law_guard hr (by decide) rfl (pa_cons (pv 0) (pa_cons (pv 1) pa_nil))) pa_nil)))))))
    pss_nil)
  (pss_cons (ps_if (pt_cmpR op_eq (pv 2) pe_int (nomark _))
    (pss_one (ps_ret (pe_tup (pa_cons pe_str (pa_cons (pe_ix ix_tup (pv 4) pe_int (fun _ _ => rfl)) (pa_cons (pe_ix ix_tup (pv 4) pe_int (fun _ _ => rfl)) (pa_cons (pe_op op_mulS pe_str (pv 1)) pa_nil)))))))
    pss_nil)
  (pss_one (ps_ret (pe_tup (pa_cons pe_str (pa_cons (pe_ix ix_tup (pv 4) pe_int (fun _ _ => rfl)) (pa_cons (pe_ix ix_tup (pv 4) pe_int (fun _ _ => rfl)) (pa_cons (pe_cd c_law_guard hr (by decide) rfl (pa_cons (pv 0) (pa_cons (pv 1) pa_nil))) pa_nil))))))))))))), ?_⟩)
  · obtain ⟨p, g, G, n, rfl, _⟩ := h
    rfl
  · obtain ⟨p, g, G, n, rfl, hn1, hn, Pu, k⟩ := h
    refine ⟨_, rfl, p, g, G, 5, rfl, by omega, by omega, Pu, fun pk H1 hpk P1 => ?_⟩
    refine ⟨_, rfl, rfl, _, rfl, ?_⟩
    refine iteI (fun c => ?_) (fun c => ?_)
    · refine iteT ?_
      refine ⟨_, rfl, _, rfl, p, g, G, n, rfl, hn1, by omega, P1, fun gs G2 H2 hgs S2 P2 => ⟨(by show 2 ≤ sizeLine; decide), fun q hq => ?_⟩⟩
      have Gq := none_of P2.same hq
      refine ⟨_, rfl, p, g, _, 2, rfl, by omega, by omega, P2.new hq, fun r H3 hr3 P3 => ?_⟩
      obtain ⟨s0, hat, hs0, hsl⟩ : ∃ s0, atI [V.str "", V.str gs] (r : Int) = some (V.str s0) ∧ isGd s0 n = true ∧ gOk s0 := by
        by_cases z : r = 0
        · rw [z]
          exact ⟨"", rfl, gd_empty n, gk0⟩
        · have : r = 1 := by omega
          rw [this]
          exact ⟨gs, rfl, hgs.is, hgs.gok (by omega)⟩
      refine ⟨q, _, _, _, rfl, rfl, SqL.of (P3.same _ _ upd_same), hat, ?_⟩
      refine ⟨_, rfl, _, rfl, p, g, _, n, rfl, hn1, by omega, P3, fun u H4 hu P4 => ⟨_, rfl, _, rfl, (by show 4 ≤ sizeLine; decide), fun q2 hq2 => ?_⟩⟩
      exact k (.ref q2) (.quad "clear" (u : Int) (-1) s0) _ _ ((S2.to Gq).to (none_of P4.same hq2)) (P4.new hq2) (dt_quad (nwq (none_of (S2.to Gq) (none_of P4.same hq2)) upd_same)) (sq ⟨by decide, by decide +kernel⟩ hsl ⟨by omega, by omega⟩ ⟨by omega, by omega⟩) (clear_ok hu hs0) clear_plain
    refine ⟨_, rfl, rfl, _, rfl, ?_⟩
    refine iteI (fun c1 => ?_) (fun c1 => ?_)
    · refine ⟨_, rfl, _, rfl, p, g, G, n, rfl, hn1, by omega, P1, fun gs G2 H2 hgs S2 P2 => ⟨(by show 2 ≤ sizeLine; decide), fun q hq => ?_⟩⟩
      have Gq := none_of P2.same hq
      refine ⟨_, rfl, p, g, _, 2, rfl, by omega, by omega, P2.new hq, fun r H3 hr3 P3 => ?_⟩
      obtain ⟨s0, hat, hs0, hsl⟩ : ∃ s0, atI [V.str "", V.str gs] (r : Int) = some (V.str s0) ∧ isGd s0 n = true ∧ gOk s0 := by
        by_cases z : r = 0
        · rw [z]
          exact ⟨"", rfl, gd_empty n, gk0⟩
        · have : r = 1 := by omega
          rw [this]
          exact ⟨gs, rfl, hgs.is, hgs.gok (by omega)⟩
      refine ⟨q, _, _, _, rfl, rfl, SqL.of (P3.same _ _ upd_same), hat, ?_⟩
      refine ⟨_, rfl, _, rfl, p, g, _, n, rfl, hn1, by omega, P3, fun u H4 hu P4 => ⟨_, rfl, _, rfl, (by show 4 ≤ sizeLine; decide), fun q2 hq2 => ?_⟩⟩
      exact k (.ref q2) (.quad "clear" (u : Int) (-1) s0) _ _ ((S2.to Gq).to (none_of P4.same hq2)) (P4.new hq2) (dt_quad (nwq (none_of (S2.to Gq) (none_of P4.same hq2)) upd_same)) (sq ⟨by decide, by decide +kernel⟩ hsl ⟨by omega, by omega⟩ ⟨by omega, by omega⟩) (clear_ok hu hs0) clear_plain
    refine ⟨_, rfl, _, rfl, p, g, G, n, rfl, by omega, by omega, P1, fun q G2 H2 S2 P2 hl => ?_⟩
    obtain ⟨q', l, e, hq, l1, l2, l3⟩ := hl
    cases e
    have hq2 := P2.same _ _ hq
    refine ⟨_, rfl, rfl, _, rfl, ?_⟩
    refine iteI (fun c2 => ?_) (fun c2 => ?_)
    · refine ⟨_, rfl, q, _, _, _, rfl, rfl, SqT.of hq2, rfl, _, rfl, q, _, _, _, rfl, rfl, SqT.of hq2, rfl, (by show 4 ≤ sizeLine; decide), fun q2 hn2 => ?_⟩
      exact k (.ref q2) (.quad "move" (l.1 : Nat) (l.2 : Nat) "") _ _ (S2.to (none_of P2.same hn2)) (P2.new hn2) (dt_quad (nwq (none_of S2 (none_of P2.same hn2)) upd_same)) (sq ⟨by decide, by decide +kernel⟩ gk0 ⟨by omega, by omega⟩ ⟨by omega, by omega⟩) (link_ok (.inr rfl) l1 l2 l3 (gd_empty n)) move_plain
    refine ⟨_, rfl, rfl, _, rfl, ?_⟩
    refine iteI (fun c3 => ?_) (fun c3 => ?_)
    · refine ⟨_, rfl, q, _, _, _, rfl, rfl, SqT.of hq2, rfl, _, rfl, q, _, _, _, rfl, rfl, SqT.of hq2, rfl, _, rfl, _, rfl, p, g, G2, n, rfl, hn1, by omega, P2, fun gs G3 H3 hgs S3 P3 => ⟨(by show 4 ≤ sizeLine; decide), fun q2 hn2 => ?_⟩⟩
      exact k (.ref q2) (.quad "move" (l.1 : Nat) (l.2 : Nat) gs) _ _ ((S2.trans S3).to (none_of P3.same hn2)) (P3.new hn2) (dt_quad (nwq (none_of (S2.trans S3) (none_of P3.same hn2)) upd_same)) (sq ⟨by decide, by decide +kernel⟩ (hgs.gok (by omega)) ⟨by omega, by omega⟩ ⟨by omega, by omega⟩) (link_ok (.inr rfl) l1 l2 l3 hgs.is) move_plain
    refine ⟨_, rfl, rfl, _, rfl, ?_⟩
    refine iteI (fun c4 => ?_) (fun c4 => ?_)
    · have hgs := dash_ok hn1 (show n ≤ 13 by omega)
      refine ⟨_, rfl, q, _, _, _, rfl, rfl, SqT.of hq2, rfl, _, rfl, q, _, _, _, rfl, rfl, SqT.of hq2, rfl, _, rfl, "-", (n : Int), rfl, rfl, mul_ok1 rfl hn1 (by omega), (by show 4 ≤ sizeLine; decide), fun q2 hn2 => ?_⟩
      exact k (.ref q2) (.quad "copy" (l.1 : Nat) (l.2 : Nat) (Txt.mul "-" (n : Int))) _ _ (S2.to (none_of P2.same hn2)) (P2.new hn2) (dt_quad (nwq (none_of S2 (none_of P2.same hn2)) upd_same)) (sq ⟨by decide, by decide +kernel⟩ (hgs.gok (by omega)) ⟨by omega, by omega⟩ ⟨by omega, by omega⟩) (link_ok (.inl rfl) l1 l2 l3 hgs.is) (copy_plain (hgs.ne hn1))
    refine ⟨_, rfl, q, _, _, _, rfl, rfl, SqT.of hq2, rfl, _, rfl, q, _, _, _, rfl, rfl, SqT.of hq2, rfl, _, rfl, _, rfl, p, g, G2, n, rfl, hn1, by omega, P2, fun gs G3 H3 hgs S3 P3 => ⟨(by show 4 ≤ sizeLine; decide), fun q2 hn2 => ?_⟩⟩
    exact k (.ref q2) (.quad "copy" (l.1 : Nat) (l.2 : Nat) gs) _ _ ((S2.trans S3).to (none_of P3.same hn2)) (P3.new hn2) (dt_quad (nwq (none_of (S2.trans S3) (none_of P3.same hn2)) upd_same)) (sq ⟨by decide, by decide +kernel⟩ (hgs.gok (by omega)) ⟨by omega, by omega⟩ ⟨by omega, by omega⟩) (link_ok (.inl rfl) l1 l2 l3 hgs.is) (copy_plain (hgs.ne hn1))
theorem ok_no_line (T : Txt K mg) : Okd P w K mg base CX0 3 "_law_no_line" ["_law_purse_here", "_law_blocks"] spNoLine := by
  have c_law_take : Okd P w K mg base CX0 1 "_law_take" ["_law_purse_here", "_law_size"] spTake := ok_take T
  refine okd0 (st := s_law_no_line) T m_law_no_line sc_law_no_line (fun vs H Q E h => ?_) (fun _ _ _ _ _ _ us hl => match us, hl with | [_, _], _ => rfl) (fun f cdv A outer s H vs Q E hr h => ⟨_, (pss_cons (ps_set (i := 2) sc_law_no_line.nd rfl (Or.inl rfl) (pe_cd c_law_take hr (by decide) rfl (pa_cons (pv 0) (pa_cons pe_int pa_nil))))
  (pss_cons (ps_set (i := 3) sc_law_no_line.nd rfl (Or.inl rfl) (pe_op op_add (pv 1) (pe_cd c_law_take hr (by decide) rfl (pa_cons (pv 0) (pa_cons pe_int pa_nil)))))
  (pss_cons (ps_set (i := 4) sc_law_no_line.nd rfl (Or.inl rfl) (pe_cd c_law_take hr (by decide) rfl (pa_cons (pv 0) (pa_cons (pv 1) pa_nil))))
  (pss_cons (ps_set (i := 5) sc_law_no_line.nd rfl (Or.inl rfl) (pe_op op_mod (pe_callTy call_int1 (by rfl) T.b_int (by decide +kernel) (pa_cons (pe_op op_add (pv 4) pe_int) pa_nil)) (pv 1)))
  (pss_cons (ps_if (pt_cmpR op_eq (pv 2) pe_int (nomark _))
    (pss_one (ps_ret pe_non))
    pss_nil)
  (pss_cons (ps_if (pt_cmpR op_eq (pv 2) pe_int (nomark _))
    (pss_one (ps_ret (pe_lst (pa_cons pe_str (pa_cons (pv 4) (pa_cons (pv 5) (pa_cons pe_str pa_nil)))))))
    pss_nil)
  (pss_cons (ps_if (pt_cmpR op_eq (pv 2) pe_int (nomark _))
    (pss_one (ps_ret (pe_tup (pa_cons pe_str (pa_cons (pv 4) (pa_cons (pv 5) pa_nil))))))
    pss_nil)
  (pss_cons (ps_if (pt_cmpR op_eq (pv 2) pe_int (nomark _))
    (pss_one (ps_ret (pe_tup (pa_cons pe_str (pa_cons (pv 4) (pa_cons (pv 5) (pa_cons pe_str pa_nil)))))))
    pss_nil)
  (pss_cons (ps_if (pt_cmpR op_eq (pv 2) pe_int (nomark _))
    (pss_one (ps_ret (pe_tup (pa_cons pe_str (pa_cons (pv 3) (pa_cons (pv 5) (pa_cons pe_str pa_nil)))))))
    pss_nil)
  (pss_cons (ps_if (pt_cmpR op_eq (pv 2) pe_int (nomark _))
    (pss_one (ps_ret (pe_tup (pa_cons pe_str (pa_cons (pe_un un_neg pe_int) (pa_cons (pv 5) (pa_cons pe_str pa_nil)))))))
    pss_nil)
  (pss_cons (ps_if (pt_cmpR op_eq (pv 2) pe_int (nomark _))
    (pss_one (ps_ret (pe_tup (pa_cons pe_str (pa_cons (pv 4) (pa_cons (pv 4) (pa_cons pe_str pa_nil)))))))
    pss_nil)
  (pss_cons (ps_if (pt_cmpR op_eq (pv 2) pe_int (nomark _))
    (pss_one (ps_ret (pe_tup (pa_cons pe_str (pa_cons (pv 4) (pa_cons (pv 3) (pa_cons pe_str pa_nil)))))))
    pss_nil)
  (pss_cons (ps_if (pt_cmpR op_eq (pv 2) pe_int (nomark _))
    (pss_one (ps_ret (pe_tup (pa_cons pe_str (pa_cons (pv 4) (pa_cons (pe_un un_neg pe_int) (pa_cons pe_str pa_nil)))))))
    pss_nil)
  (pss_cons (ps_if (pt_cmpR op_eq (pv 2) pe_int (nomark _))
    (pss_one (ps_ret (pe_tup (pa_cons pe_str (pa_cons (pv 4) (pa_cons (pv 5) (pa_cons pe_str pa_nil)))))))
    pss_nil)
  (pss_cons (ps_if (pt_cmpR op_eq (pv 2) pe_int (nomark _))
    (pss_one (ps_ret (pe_tup (pa_cons pe_str (pa_cons (pv 4) (pa_cons (pv 5) (pa_cons (pe_op op_mulS pe_str (pe_op op_add (pv 1) pe_int)) pa_nil)))))))
    pss_nil)
  (pss_one (ps_ret (pe_tup (pa_cons pe_str (pa_cons (pv 4) (pa_cons (pv 5) (pa_cons (pe_op op_mulS pe_str (pv 1)) pa_nil)))))))))))))))))))))), ?_⟩)
  · obtain ⟨p, g, G, n, rfl, _⟩ := h
    rfl
  · obtain ⟨p, g, G, n, rfl, hn1, hn, Pu, k⟩ := h
    refine ⟨_, rfl, p, g, G, 12, rfl, by omega, by omega, Pu, fun pk H1 hpk P1 => ?_⟩
    refine ⟨_, rfl, _, rfl, p, g, G, 3, rfl, by omega, by omega, P1, fun f H2 hf P2 => ⟨_, _, rfl, rfl, ?_⟩⟩
    refine ⟨_, rfl, _, rfl, p, g, G, n, rfl, hn1, by omega, P2, fun tg H3 ht P3 => ?_⟩
    refine ⟨_, rfl, _, _, rfl, rfl, .inl ⟨_, rfl, _, rfl, _, _, rfl, rfl, by omega, ?_⟩⟩
    have hso0 : 0 ≤ ((tg : Int) + 1) % (n : Int) := Int.emod_nonneg _ (by omega)
    have hso1 : ((tg : Int) + 1) % (n : Int) < n := Int.emod_lt_of_pos _ (by omega)
    refine ⟨_, rfl, rfl, _, rfl, ?_⟩
    refine iteI (fun c0 => ?_) (fun c0 => ?_)
    · exact k .non .non _ _ (fun _ _ e => e) P3 .non trivial rfl
    refine ⟨_, rfl, rfl, _, rfl, ?_⟩
    refine iteI (fun c1 => ?_) (fun c1 => ?_)
    · refine ⟨_, rfl, _, rfl, (by show 4 ≤ sizeLine; decide), fun q hq => ?_⟩
      exact k (.ref q) (.lst [.str "copy", .int tg, .int (((tg : Int) + 1) % (n : Int)), .str ""]) _ _ (Same.new (none_of P3.same hq)) (P3.new hq) (.lst (nwq (none_of P3.same hq) upd_same) (.cons (.str _) (.cons (.int _) (.cons (.int _) (.cons (.str _) .nil))))) ((((((FineAll.nil (w := 0)).cons (fine_str gk0 (Nat.le_refl 400))).cons (fine_int ⟨by omega, by omega⟩ (Nat.le_refl 11))).cons (fine_int ⟨by omega, by omega⟩ (Nat.le_refl 11))).cons (fine_str gk1 (Nat.le_refl 400))).mono (by decide) (Nat.le_refl _)) rfl
    refine ⟨_, rfl, rfl, _, rfl, ?_⟩
    refine iteI (fun c2 => ?_) (fun c2 => ?_)
    · refine ⟨_, rfl, _, rfl, (by show 3 ≤ sizeLine; decide), fun q hq => ?_⟩
      exact k (.ref q) (.tri "copy" tg (((tg : Int) + 1) % (n : Int))) _ _ (Same.new (none_of P3.same hq)) (P3.new hq) (.tup (nwq (none_of P3.same hq) upd_same) (.cons (.str _) (.cons (.int _) (.cons (.int _) .nil)))) ⟨gk1, ⟨by omega, by omega⟩, ⟨by omega, by omega⟩⟩ rfl
    refine ⟨_, rfl, rfl, _, rfl, ?_⟩
    refine iteI (fun c3 => ?_) (fun c3 => ?_)
    · refine ⟨_, rfl, _, rfl, (by show 4 ≤ sizeLine; decide), fun q hq => ?_⟩
      exact k (.ref q) (.quad "swap" (tg : Int) (((tg : Int) + 1) % (n : Int)) "") _ _ (Same.new (none_of P3.same hq)) (P3.new hq) (dt_quad (nwq (none_of P3.same hq) upd_same)) (sq ⟨by decide, by decide +kernel⟩ gk0 ⟨by omega, by omega⟩ ⟨by omega, by omega⟩) (bad_op (by rw [if_neg (by decide), if_neg (by decide)]))
    refine ⟨_, rfl, rfl, _, rfl, ?_⟩
    refine iteI (fun c4 => ?_) (fun c4 => ?_)
    · refine ⟨_, rfl, _, rfl, (by show 4 ≤ sizeLine; decide), fun q hq => ?_⟩
      exact k (.ref q) (.quad "copy" ((n : Int) + (f : Int)) (((tg : Int) + 1) % (n : Int)) "") _ _ (Same.new (none_of P3.same hq)) (P3.new hq) (dt_quad (nwq (none_of P3.same hq) upd_same)) (sq ⟨by decide, by decide +kernel⟩ gk0 ⟨by omega, by omega⟩ ⟨by omega, by omega⟩) (bad_t (ix_far (by omega)))
    refine ⟨_, rfl, rfl, _, rfl, ?_⟩
    refine iteI (fun c5 => ?_) (fun c5 => ?_)
    · refine ⟨_, rfl, _, rfl, (by show 4 ≤ sizeLine; decide), fun q hq => ?_⟩
      exact k (.ref q) (.quad "copy" (-1) (((tg : Int) + 1) % (n : Int)) "") _ _ (Same.new (none_of P3.same hq)) (P3.new hq) (dt_quad (nwq (none_of P3.same hq) upd_same)) (sq ⟨by decide, by decide +kernel⟩ gk0 ⟨by omega, by omega⟩ ⟨by omega, by omega⟩) (bad_t (ix_neg n))
    refine ⟨_, rfl, rfl, _, rfl, ?_⟩
    refine iteI (fun c6 => ?_) (fun c6 => ?_)
    · refine ⟨_, rfl, _, rfl, (by show 4 ≤ sizeLine; decide), fun q hq => ?_⟩
      exact k (.ref q) (.quad "move" (tg : Int) (tg : Int) "") _ _ (Same.new (none_of P3.same hq)) (P3.new hq) (dt_quad (nwq (none_of P3.same hq) upd_same)) (sq ⟨by decide, by decide +kernel⟩ gk0 ⟨by omega, by omega⟩ ⟨by omega, by omega⟩) (bad_op (by rw [if_neg (by decide), if_pos (.inr rfl), decide_eq_false (fun z => z rfl), Bool.and_false]))
    refine ⟨_, rfl, rfl, _, rfl, ?_⟩
    refine iteI (fun c7 => ?_) (fun c7 => ?_)
    · refine ⟨_, rfl, _, rfl, (by show 4 ≤ sizeLine; decide), fun q hq => ?_⟩
      exact k (.ref q) (.quad "copy" (tg : Int) ((n : Int) + (f : Int)) "") _ _ (Same.new (none_of P3.same hq)) (P3.new hq) (dt_quad (nwq (none_of P3.same hq) upd_same)) (sq ⟨by decide, by decide +kernel⟩ gk0 ⟨by omega, by omega⟩ ⟨by omega, by omega⟩) (bad_op (by rw [if_neg (by decide), if_pos (.inl rfl), ix_far (by omega), Bool.false_and]))
    refine ⟨_, rfl, rfl, _, rfl, ?_⟩
    refine iteI (fun c8 => ?_) (fun c8 => ?_)
    · refine ⟨_, rfl, _, rfl, (by show 4 ≤ sizeLine; decide), fun q hq => ?_⟩
      exact k (.ref q) (.quad "copy" (tg : Int) (-1) "") _ _ (Same.new (none_of P3.same hq)) (P3.new hq) (dt_quad (nwq (none_of P3.same hq) upd_same)) (sq ⟨by decide, by decide +kernel⟩ gk0 ⟨by omega, by omega⟩ ⟨by omega, by omega⟩) (bad_op (by rw [if_neg (by decide), if_pos (.inl rfl), ix_neg, Bool.false_and]))
    refine ⟨_, rfl, rfl, _, rfl, ?_⟩
    refine iteI (fun c9 => ?_) (fun c9 => ?_)
    · refine ⟨_, rfl, _, rfl, (by show 4 ≤ sizeLine; decide), fun q hq => ?_⟩
      exact k (.ref q) (.quad "clear" (tg : Int) (((tg : Int) + 1) % (n : Int)) "") _ _ (Same.new (none_of P3.same hq)) (P3.new hq) (dt_quad (nwq (none_of P3.same hq) upd_same)) (sq ⟨by decide, by decide +kernel⟩ gk0 ⟨by omega, by omega⟩ ⟨by omega, by omega⟩) (bad_op (by rw [if_pos rfl]; exact decide_eq_false (by omega)))
    refine ⟨_, rfl, rfl, _, rfl, ?_⟩
    refine iteI (fun c10 => ?_) (fun c10 => ?_)
    · have en : (n : Int) + 1 = ((n + 1 : Nat) : Int) := by omega
      have hg := dash_ok (n := n + 1) (by omega) (by omega)
      have hgl : gOk (Txt.mul "-" ((n : Int) + 1)) := by
        rw [en]
        exact hg.gok (by omega)
      refine ⟨_, rfl, _, rfl, _, rfl, _, _, rfl, rfl, "-", (n : Int) + 1, rfl, rfl, (by rw [en]; exact mul_ok1 rfl (by omega) (by omega)), (by show 4 ≤ sizeLine; decide), fun q hq => ?_⟩
      exact k (.ref q) (.quad "copy" (tg : Int) (((tg : Int) + 1) % (n : Int)) (Txt.mul "-" ((n : Int) + 1))) _ _ (Same.new (none_of P3.same hq)) (P3.new hq) (dt_quad (nwq (none_of P3.same hq) upd_same)) (sq ⟨by decide, by decide +kernel⟩ hgl ⟨by omega, by omega⟩ ⟨by omega, by omega⟩) (bad_g (by rw [en]; exact gd_long hg))
    obtain ⟨hb, hgl⟩ := ex_bad hn1 (show n ≤ 13 by omega)
    refine ⟨_, rfl, _, rfl, _, rfl, "x", (n : Int), rfl, rfl, mul_ok1 rfl hn1 (by omega), (by show 4 ≤ sizeLine; decide), fun q hq => ?_⟩
    exact k (.ref q) (.quad "copy" (tg : Int) (((tg : Int) + 1) % (n : Int)) (Txt.mul "x" (n : Int))) _ _ (Same.new (none_of P3.same hq)) (P3.new hq) (dt_quad (nwq (none_of P3.same hq) upd_same)) (sq ⟨by decide, by decide +kernel⟩ hgl ⟨by omega, by omega⟩ ⟨by omega, by omega⟩) (bad_g hb)
end
end Rw
/-! ## FOddB -/
namespace Rw
open PySem PySem.Spec PyProof.Rows L2
abbrev law_odd_N : List Str := ["_law_purse_here", "_law_links_here", "_law_blocks", "_law_rows", "_law_pick", "_law_k", "_law_mark", "_law_line_here", "_law_marks", "_law_worst", "_law_link", "_law_row"]
theorem sc_law_odd : FnScope law_odd_N ["_law_purse_here", "_law_links_here", "_law_blocks"] (defScope s_law_odd) := ⟨rfl, rfl, rfl, by decide +kernel, rfl, by decide +kernel, by decide +kernel⟩
theorem m_law_odd : d_law_odd ∈ fn := List.mem_of_getElem? (i := 34) rfl
/-- a row of _law_odd: a line, its mark -/
def rowD2 (r : LnX × Int) : PyData := .list [r.1.toD, .int r.2]
def RowOk (n : Nat) (r : LnX × Int) : Prop := r.1.small ∧ ((r.2 = 0 ∧ r.1.ok n = true ∧ r.1.plain = true) ∨ (r.2 = 1 ∧ r.1.ok n = true ∧ r.1.plain = false) ∨ (r.2 = 2 ∧ r.1.ok n = false))
def Verd (n : Nat) (sc : Scr) (m i : Int) : Prop := ∃ pl, sc.out n = .bad pl i ∧ m = if pl then 1 else 2
theorem verd_of {n : Nat} {rs : List (LnX × Int)} (h : ∀ r ∈ rs, RowOk n r) (hl : rs.length ≤ 60) {m : Int} (hmax : ∀ y, y ∈ rs.map Prod.snd → y ≤ m) (h1 : 1 ≤ m) {j : Nat} (hj : (rs.map Prod.snd)[j]? = some m) (hno : ∀ i, i < j → (rs.map Prod.snd)[i]? ≠ some m) : Verd n (.lst (rs.map Prod.fst)) m (j : Int) := by
  obtain ⟨r, hr, em⟩ := get_map hj
  have hrm := List.mem_of_getElem? hr
  have hg : (rs.map Prod.fst)[j]? = some r.1 := by rw [List.getElem?_map, hr]; rfl
  have hlen : ¬ 60 < (rs.map Prod.fst).length := by rw [List.length_map]; omega
  rcases (h r hrm).2 with ⟨z, _⟩ | ⟨z, hok, hpl⟩ | ⟨z, hok⟩
  · omega
  · refine ⟨true, ?_, by show m = 1; omega⟩
    have e1 : firstBad (LnX.ok n) (rs.map Prod.fst) = none := by
      refine List.findIdx?_eq_none_iff.mpr fun x hx => ?_
      obtain ⟨r', hr', rfl⟩ := List.mem_map.mp hx
      rcases (h r' hr').2 with ⟨_, q, _⟩ | ⟨_, q, _⟩ | ⟨q, _⟩
      · rw [q]; rfl
      · rw [q]; rfl
      · have := hmax r'.2 (List.mem_map.mpr ⟨r', hr', rfl⟩)
        omega
    have e2 : firstBad LnX.plain (rs.map Prod.fst) = some j := first_at hg hpl fun i hi y hy => by
      obtain ⟨r', hr', rfl⟩ := get_map hy
      rcases (h r' (List.mem_of_getElem? hr')).2 with ⟨_, _, q⟩ | ⟨q, _, _⟩ | ⟨q, _⟩
      · exact q
      · exact absurd (show (rs.map Prod.snd)[i]? = some m by rw [List.getElem?_map, hr', em, z, ← q]; rfl) (hno i hi)
      · have := hmax r'.2 (List.mem_map.mpr ⟨r', List.mem_of_getElem? hr', rfl⟩)
        omega
    have e3 : (Scr.lst (rs.map Prod.fst)).fault n = none := by
      rw [Scr.fault, if_neg hlen, e1]
      rfl
    rw [Scr.out, e3]
    show (match firstBad LnX.plain (rs.map Prod.fst) with | some i => Out.bad true ((i : Nat) : Int) | none => Out.good ((rs.map Prod.fst).map LnX.lk)) = _
    rw [e2]
  · refine ⟨false, ?_, by show m = 2; omega⟩
    have e1 : firstBad (LnX.ok n) (rs.map Prod.fst) = some j := first_at hg hok fun i hi y hy => by
      obtain ⟨r', hr', rfl⟩ := get_map hy
      rcases (h r' (List.mem_of_getElem? hr')).2 with ⟨_, q, _⟩ | ⟨_, q, _⟩ | ⟨q, _⟩
      · exact q
      · exact q
      · exact absurd (show (rs.map Prod.snd)[i]? = some m by rw [List.getElem?_map, hr', em, z, ← q]; rfl) (hno i hi)
    have e3 : (Scr.lst (rs.map Prod.fst)).fault n = some (j : Int) := by
      rw [Scr.fault, if_neg hlen, e1]
      rfl
    rw [Scr.out, e3]
theorem row_inv2 {H : Hp} {x : V} {r : LnX × Int} (h : Dt H x (rowD2 r)) : ∃ t v, x = .ref t ∧ H t = some (.lst [v, .int r.2]) ∧ Dt H v r.1.toD := by
  obtain ⟨t, ys, rfl, ht, hy⟩ := h.list_inv
  cases hy with
  | cons h1 h2 => cases h2 with
    | cons h3 h4 =>
      cases h4
      cases h3
      exact ⟨t, _, rfl, ht, h1⟩
/-- the lines of the rows -/
theorem rows_split {H : Hp} : ∀ {zs : List V} {rs : List (LnX × Int)}, DtAll H zs (rs.map rowD2) → ∃ vs, vs.length = zs.length ∧ DtAll H vs ((rs.map Prod.fst).map LnX.toD) ∧ ∀ (i : Nat) x, zs[i]? = some x → ∃ t v r, x = .ref t ∧ vs[i]? = some v ∧ rs[i]? = some r ∧ H t = some (.lst [v, .int r.2])
  | [], [], _ => ⟨[], rfl, .nil, fun i x h => by simp at h⟩
  | [], _ :: _, h => by cases h
  | _ :: _, [], h => by cases h
  | z :: zs, r :: rs, h => by
    cases h with
    | cons h1 h2 =>
      obtain ⟨t, v, rfl, ht, hv⟩ := row_inv2 h1
      obtain ⟨vs, e1, e2, e3⟩ := rows_split h2
      refine ⟨v :: vs, by simp [e1], .cons hv e2, fun i x hx => ?_⟩
      cases i with
      | zero =>
        cases hx
        exact ⟨t, v, r, rfl, rfl, rfl, ht⟩
      | succ i => exact e3 i x (by simpa using hx)
theorem dt_row2 {H : Hp} {t : Addr} {v : V} {x : LnX} {m : Int} (h : H t = some (.lst [v, .int m])) (hv : Dt H v x.toD) : Dt H (.ref t) (rowD2 (x, m)) := .lst h (.cons hv (.cons (.int _) .nil))
theorem dtall_rep {H : Hp} {vs : List V} {ds : List PyData} (h : DtAll H vs ds) : ∀ k, DtAll H (List.replicate k vs).flatten (List.replicate k ds).flatten
  | 0 => .nil
  | k + 1 => by
    rw [List.replicate_succ, List.replicate_succ, List.flatten_cons, List.flatten_cons]
    exact h.append (dtall_rep h k)
theorem rep_len {α : Type} (l : List α) (k : Nat) : (List.replicate k l).flatten.length = k * l.length := by
  induction k with
  | zero => simp
  | succ k ih => rw [List.replicate_succ, List.flatten_cons, List.length_append, ih, Nat.succ_mul, Nat.add_comm]
theorem rep_map {α β : Type} (f : α → β) (l : List α) (k : Nat) : (List.replicate k (l.map f)).flatten = ((List.replicate k l).flatten).map f := by
  induction k with
  | zero => rfl
  | succ k ih => rw [List.replicate_succ, List.flatten_cons, ih, List.replicate_succ, List.flatten_cons, List.map_append]
theorem rep_mem {α : Type} {l : List α} {k : Nat} {x : α} (h : x ∈ (List.replicate k l).flatten) : x ∈ l := by
  obtain ⟨m, hm, hx⟩ := List.mem_flatten.mp h
  rw [List.eq_of_mem_replicate hm] at hx
  exact hx
theorem long_bad {n : Nat} {ls : List LnX} (h : 60 < ls.length) : (Scr.lst ls).out n = .bad false (-1) := by
  have e : (Scr.lst ls).fault n = some (-1) := by rw [Scr.fault, if_pos h]
  rw [Scr.out, e]
def spOdd : Sp := fun vs H Q _ => ∃ (p g : Addr) (vl : V) (G : Hp) (n : Nat) (ls : List Lk), vs = [.ref p, vl, .int (n : Int)] ∧ 1 ≤ n ∧ n ≤ 12 ∧ ls.length ≤ 1000 ∧ Rd.Okl n ls ∧ Dt G vl (lksD ls) ∧ Purse p g G H ∧
  ∀ (r : Addr) (v : V) (m i : Int) (sc : Scr) (G' H' : Hp), Same G G' → Purse p g G' H' → G' r = some (.lst [v, .int m, .int i]) → Dt G' v sc.toD → (∀ x ∈ sc.lines, x.small) → sc.lines.length ≤ 1000 → Verd n sc m i → Q (.ref r) H'
section
variable {P : Program} {w : World} {K : PySem.W.Frag} {mg : Str → Option Value} {base : Heap}
theorem ok_odd (T : Txt K mg) : Okd P w K mg base CX0 4 "_law_odd" ["_law_purse_here", "_law_links_here", "_law_blocks"] spOdd := by
  have c_law_take : Okd P w K mg base CX0 1 "_law_take" ["_law_purse_here", "_law_size"] spTake := ok_take T
  have c_law_not_plain : Okd P w K mg base CX0 3 "_law_not_plain" ["_law_purse_here", "_law_blocks"] (spLineX true) := ok_not_plain T
  have c_law_no_line : Okd P w K mg base CX0 3 "_law_no_line" ["_law_purse_here", "_law_blocks"] spNoLine := ok_no_line T
  refine okd0 (st := s_law_odd) T m_law_odd sc_law_odd (fun vs H Q E h => ?_) (fun _ _ _ _ _ _ us hl => match us, hl with | [_, _, _], _ => rfl) (fun f cdv A outer s H vs Q E hr h => ⟨_, (pss_cons (ps_setLc (i := 3) (own := [("_law_link", 10)]) (g := (gName 10)) (tt := tYes) rfl sc_law_odd.nd rfl rfl (sw_true rfl rfl rfl (by decide +kernel)) (pi_list (pe_slice sl_list (pv 1) po_none (po_some pe_int))) (blkOk_by (N := law_odd_N) (sc := defScope s_law_odd) (by decide +kernel)) (fun _ _ _ _ _ => (pg_name (i := 10) sc_law_odd.nd rfl (Or.inl rfl))) (fun _ _ _ _ _ => pts_nil) (fun _ _ _ _ _ => (pe_lst (pa_cons (pe_tup (pa_cons pe_str (pa_cons (pe_ix (r := rIxT K) ix_tup (pv 10) pe_int (fun _ _ => rfl)) (pa_cons (pe_ix (r := rIxT K) ix_tup (pv 10) pe_int (fun _ _ => rfl)) (pa_cons pe_str pa_nil))))) (pa_cons pe_int pa_nil)))))
  (pss_cons (ps_set (i := 4) sc_law_odd.nd rfl (Or.inl rfl) (pe_cd c_law_take hr (by decide) rfl (pa_cons (pv 0) (pa_cons pe_int pa_nil))))
  (pss_cons (ps_if (pt_cmpR op_eq (pv 4) pe_int (nomark _))
    (pss_one (ps_ret (pe_lst (pa_cons (pe_callTy call_tuple_of (by rfl) T.b_tuple (by decide +kernel) (pa_cons (pe_lc (own := [("_law_row", 11)]) (g := (gName 11)) (tt := tYes) rfl sc_law_odd.nd (pi_list (pv 3)) (blkOk_by (N := law_odd_N) (sc := defScope s_law_odd) (by decide +kernel)) (fun _ _ _ _ _ => (pg_name (i := 11) sc_law_odd.nd rfl (Or.inl rfl))) (fun _ _ _ _ _ => pts_nil) (fun _ _ _ _ _ => (pe_ix (r := rIxL K) ix_list (pv 11) pe_int (fun _ _ => rfl)))) pa_nil)) (pa_cons pe_int (pa_cons (pe_un un_neg pe_int) pa_nil))))))
    pss_nil)
  (pss_cons (ps_if (pt_cmpR op_eq (pv 4) pe_int (nomark _))
    (pss_one (ps_ret (pe_lst (pa_cons pe_non (pa_cons pe_int (pa_cons (pe_un un_neg pe_int) pa_nil))))))
    pss_nil)
  (Evl.pss_cut (ps_if (PW.pt (pw_and (pt_cmpR op_eq (pv 4) pe_int (nomark _)) (pw_and1 (pt_cmpR op_gt (pe_callB call_len_seq (by rfl) T.b_len PySem.boot_len (pa_cons (pv 3) pa_nil)) pe_int (nomark _)))))
    (pss_one (ps_ret (pe_lst (pa_cons (pe_slice sl_list (pe_op op_rep (pe_lc (own := [("_law_row", 11)]) (g := (gName 11)) (tt := tYes) rfl sc_law_odd.nd (pi_list (pv 3)) (blkOk_by (N := law_odd_N) (sc := defScope s_law_odd) (by decide +kernel)) (fun _ _ _ _ _ => (pg_name (i := 11) sc_law_odd.nd rfl (Or.inl rfl))) (fun _ _ _ _ _ => pts_nil) (fun _ _ _ _ _ => (pe_ix (r := rIxL K) ix_list (pv 11) pe_int (fun _ _ => rfl)))) pe_int) po_none (po_some pe_int)) (pa_cons pe_int (pa_cons (pe_un un_neg pe_int) pa_nil))))))
    pss_nil)
  (pss_cons (ps_for PassesOwn.never rfl (pi_range1 (by rfl) T.b_range (pa_cons (pe_op op_add pe_int (pe_cd c_law_take hr (by decide) rfl (pa_cons (pv 0) (pa_cons pe_int pa_nil)))) pa_nil)) (pg_name (i := 5) sc_law_odd.nd rfl (Or.inl rfl))
    (pss_cons (ps_set (i := 6) sc_law_odd.nd rfl (Or.inl rfl) (pe_op op_add pe_int (pe_cd c_law_take hr (by decide) rfl (pa_cons (pv 0) (pa_cons pe_int pa_nil)))))
    (pss_cons (ps_set (i := 7) sc_law_odd.nd rfl (Or.inl rfl) pe_non)
    (Evl.pss_cut (ps_if (pt_cmpR op_eq (pv 6) pe_int (nomark _))
      (pss_one (ps_set (i := 7) sc_law_odd.nd rfl (Or.inl rfl) (pe_cd c_law_not_plain hr (by decide) rfl (pa_cons (pv 0) (pa_cons (pv 2) pa_nil)))))
      (pss_one (ps_set (i := 7) sc_law_odd.nd rfl (Or.inl rfl) (pe_cd c_law_no_line hr (by decide) rfl (pa_cons (pv 0) (pa_cons (pv 2) pa_nil))))))
    (pss_one (ps_expr (pe_bm PySem.F.plainAttrs_list PySem.F.slot_list_insert PySem.F.type_list_insert mt_insert (pv 3) (pa_cons (pe_cd c_law_take hr (by decide) rfl (pa_cons (pv 0) (pa_cons (pe_op op_add (pe_callB call_len_seq (by rfl) T.b_len PySem.boot_len (pa_cons (pv 3) pa_nil)) pe_int) pa_nil))) (pa_cons (pe_lst (pa_cons (pv 7) (pa_cons (pv 6) pa_nil))) pa_nil)))))))))
  (pss_cons (ps_setLc (i := 8) (own := [("_law_row", 11)]) (g := (gName 11)) (tt := tYes) rfl sc_law_odd.nd rfl rfl (sw_true rfl rfl rfl (by decide +kernel)) (pi_list (pv 3)) (blkOk_by (N := law_odd_N) (sc := defScope s_law_odd) (by decide +kernel)) (fun _ _ _ _ _ => (pg_name (i := 11) sc_law_odd.nd rfl (Or.inl rfl))) (fun _ _ _ _ _ => pts_nil) (fun _ _ _ _ _ => (pe_ix (r := rIxL K) ix_list (pv 11) pe_int (fun _ _ => rfl))))
  (pss_cons (ps_set (i := 9) sc_law_odd.nd rfl (Or.inl rfl) (pe_callB (cr_max rfl) (by rfl) T.b_max (by decide +kernel) (pa_cons (pv 8) pa_nil)))
  (pss_one (ps_ret (pe_lst (pa_cons (pe_lc (own := [("_law_row", 11)]) (g := (gName 11)) (tt := tYes) rfl sc_law_odd.nd (pi_list (pv 3)) (blkOk_by (N := law_odd_N) (sc := defScope s_law_odd) (by decide +kernel)) (fun _ _ _ _ _ => (pg_name (i := 11) sc_law_odd.nd rfl (Or.inl rfl))) (fun _ _ _ _ _ => pts_nil) (fun _ _ _ _ _ => (pe_ix (r := rIxL K) ix_list (pv 11) pe_int (fun _ _ => rfl)))) (pa_cons (pv 9) (pa_cons (pe_bm PySem.F.plainAttrs_list PySem.F.slot_list_index PySem.F.type_list_index mt_index (pv 8) (pa_cons (pv 9) pa_nil)) pa_nil)))))))))))))), ?_⟩)
  · obtain ⟨p, g, vl, G, n, ls, rfl, _⟩ := h
    rfl
  · obtain ⟨p, g, vl, G, n, ls, rfl, hn1, hn, hll, ho, hd, Pu, k⟩ := h
    have hn100 : n ≤ 100 := by omega
    obtain ⟨a, xs, rfl, ha, hxl, hdx, hx⟩ := lks_dt hd
    refine ⟨_, rfl, _, rfl, a, _, rfl, SqL.of (Pu.same _ _ ha), fun c hc => ?_⟩
    have ecut : cutV xs none (some 50) = xs.take 50 := cut_take xs 50
    rw [ecut]
    have P0 := Pu.new (o := .lst (xs.take 50)) hc
    have Gc := none_of Pu.same hc
    have SG0 : Same G (upd G c (.lst (xs.take 50))) := .new Gc
    have hc0 : upd G c (.lst (xs.take 50)) c = some (.lst (xs.take 50)) := upd_same
    generalize upd G c (.lst (xs.take 50)) = G0 at P0 SG0 hc0
    generalize upd H c (.lst (xs.take 50)) = H0 at P0 ⊢
    refine ⟨c, rfl, ⟨_, SqL.of (P0.same _ _ hc0)⟩, fun d hd0 => ?_⟩
    have Gd0 := none_of P0.same hd0
    have Gd : G d = none := none_of SG0 Gd0
    refine lc_list (K := K) (a := c) (xs := xs.take 50) (fun i H3 => ∃ G3 zs rs, Same G0 G3 ∧ Purse p g G3 H3 ∧ G3 d = some (.lst zs) ∧ DtAll (wo G3 d) zs (rs.map rowD2) ∧ rs.length = i ∧ ∀ r ∈ rs, RowOk n r) ⟨_, [], [], Same.new Gd0, P0.new hd0, upd_same, .nil, rfl, fun _ h => by cases h⟩ (fun i H3 _ ⟨G3, zs, rs, S3, P3, _⟩ => SqL.of (P3.same _ _ (S3 _ _ hc0))) ?_ ?_
    · rintro i x H3 hxi ⟨G3, zs, rs, S3, P3, hz3, hzs, hrl, hrs⟩
      have hi50 : i < 50 := by
        have := get_lt hxi
        rw [List.length_take] at this
        omega
      have hxi' : xs[i]? = some x := by
        rw [List.getElem?_take, if_pos hi50] at hxi
        exact hxi
      obtain ⟨q, l, rfl, hl, hq⟩ := hx i x hxi'
      obtain ⟨o1, o2, o3⟩ := ho l (List.mem_of_getElem? hl)
      have hq3 := P3.same _ _ (S3 _ _ (SG0 _ _ hq))
      refine ⟨rfl, _, rfl, q, _, _, _, rfl, rfl, SqT.of hq3, rfl, _, rfl, q, _, _, _, rfl, rfl, SqT.of hq3, rfl, (by show 4 ≤ sizeLine; decide), fun t ht => ⟨(by show 2 ≤ sizeLine; decide), fun t2 ht2 => ?_⟩⟩
      have P4 := P3.new (o := .tup [.str "copy", .int (l.1 : Nat), .int (l.2 : Nat), .str ""]) ht
      have Gt := none_of P3.same ht
      have S4 : Same G3 (upd G3 t (.tup [.str "copy", .int (l.1 : Nat), .int (l.2 : Nat), .str ""])) := .new Gt
      have h4 : upd G3 t (.tup [.str "copy", .int (l.1 : Nat), .int (l.2 : Nat), .str ""]) t = some (.tup [.str "copy", .int (l.1 : Nat), .int (l.2 : Nat), .str ""]) := upd_same
      have P5 := P4.new (o := .lst [.ref t, .int 0]) ht2
      have Gt2 := none_of P4.same ht2
      generalize upd G3 t (.tup [.str "copy", .int (l.1 : Nat), .int (l.2 : Nat), .str ""]) = G4 at P4 S4 h4 P5 Gt2
      have S5 : Same G4 (upd G4 t2 (.lst [.ref t, .int 0])) := .new Gt2
      have h5 : upd G4 t2 (.lst [.ref t, .int 0]) t2 = some (.lst [.ref t, .int 0]) := upd_same
      have h45 := S5 _ _ h4
      have hz4 := S4 _ _ hz3
      have hz5 := S5 _ _ hz4
      have htd : t ≠ d := fun z => by rw [z, hz3] at Gt; cases Gt
      have ht2d : t2 ≠ d := fun z => by rw [z, hz4] at Gt2; cases Gt2
      generalize upd G4 t2 (.lst [.ref t, .int 0]) = G5 at P5 S5 h5 h45 hz5
      refine ⟨zs, P5.same _ _ hz5, small_line ?_, _, _, rs ++ [(plainLn l, 0)], ((S3.trans S4).trans S5).mut Gd0, P5.put hz5, upd_same, ?_, by rw [List.length_append, hrl]; rfl, fun r hr => ?_⟩
      · rw [hzs.len, List.length_map]
        omega
      · rw [wo_upd, List.map_append]
        exact (hzs.to (wo_mono (S4.trans S5))).snoc (dt_row2 (by rw [wo_ne ht2d]; exact h5) (dt_quad (by rw [wo_ne htd]; exact h45)))
      · rcases List.mem_append.mp hr with hr | hr
        · exact hrs r hr
        · rw [List.mem_singleton.mp hr]
          exact ⟨plain_small (by omega) (by omega), .inl ⟨rfl, plain_ok o1 o2 o3, plain_plain l⟩⟩
    · rintro H3 ⟨G3, zs, rs, S3, P3, hz3, hzs, hrl, hrs⟩
      have hr50 : rs.length ≤ 50 := by
        rw [hrl, List.length_take]
        omega
      obtain ⟨vs, hvl, hvd, hvs⟩ := rows_split hzs
      have hzl : zs.length = rs.length := by rw [hzs.len, List.length_map]
      have hsm : ∀ x ∈ rs.map Prod.fst, x.small := fun x hx => by
        obtain ⟨r, hr, rfl⟩ := List.mem_map.mp hx
        exact (hrs r hr).1
      have SGG : Same G G3 := SG0.trans S3
      have S3w : Same (wo G3 d) G3 := wo_same
      refine ⟨_, rfl, p, g, G3, 8, rfl, by omega, by omega, P3, fun pk H4 hpk P4 => ?_⟩
      refine ⟨_, rfl, rfl, _, rfl, ?_⟩
      refine iteI (fun c0 => ?_) (fun c0 => ?_)
      · refine ⟨_, rfl, d, rfl, ⟨_, SqL.of (P4.same _ _ hz3)⟩, fun e he => ?_⟩
        have Ge := none_of P4.same he
        refine lc_list (K := K) (a := d) (xs := zs) (fun i H5 => ∃ G5, Same G3 G5 ∧ Purse p g G5 H5 ∧ G5 e = some (.lst (vs.take i))) ⟨_, Same.new Ge, P4.new he, by rw [upd_same]; rfl⟩ (fun i H5 _ ⟨G5, S5, P5, _⟩ => SqL.of (P5.same _ _ (S5 _ _ hz3))) ?_ ?_
        · rintro i x H5 hxi ⟨G5, S5, P5, h5⟩
          obtain ⟨t, v, r, rfl, hv, hr, ht⟩ := hvs i x hxi
          have hil := get_lt hv
          refine ⟨rfl, _, rfl, t, _, _, _, rfl, rfl, SqL.of (P5.same _ _ (S5 _ _ (S3w _ _ ht))), rfl, _, P5.same _ _ h5, small_line ?_, _, S5.mut Ge, P5.put h5, ?_⟩
          · rw [List.length_take]
            omega
          · rw [upd_same, take_succ_get hv]
        · rintro H5 ⟨G5, S5, P5, h5⟩
          rw [List.take_of_length_le (by omega)] at h5
          refine ⟨e, _, rfl, .inl ⟨SqL.of (P5.same _ _ h5), fun t ht => ⟨_, rfl, (by show 3 ≤ sizeLine; decide), fun r hr => ?_⟩⟩⟩
          have P6 := P5.new (o := .tup vs) ht
          have Gt := none_of P5.same ht
          have Gr := none_of P6.same hr
          exact k r (.ref t) 2 (-1) (.tup (rs.map Prod.fst)) _ _ ((SGG.trans S5).to Gt |>.to Gr) (P6.new hr) upd_same (.tup ((Same.new Gr) _ _ upd_same) (hvd.to (((S3w.trans S5).to Gt).to Gr))) hsm (by show (rs.map Prod.fst).length ≤ 1000; rw [List.length_map]; omega) ⟨false, rfl, rfl⟩
      refine ⟨_, rfl, rfl, _, rfl, ?_⟩
      refine iteI (fun c1 => ?_) (fun c1 => ?_)
      · refine ⟨_, rfl, (by show 3 ≤ sizeLine; decide), fun r hr => ?_⟩
        exact k r .non 2 (-1) .non _ _ (SGG.to (none_of P4.same hr)) (P4.new hr) upd_same .non (fun _ h => by cases h) (Nat.zero_le _) ⟨false, rfl, rfl⟩
      refine ⟨fun σ' H' => σ' = [some (.ref p), some (.ref a), some (.int n), some (.ref d), some (.int pk), none, none, none, none, none, none, none] ∧ Purse p g G3 H', ?_, ?_⟩
      · refine ⟨_, rfl, rfl, _, rfl, ?_⟩
        refine iteI (fun c2 => ?_) (fun c2 => iteF ⟨rfl, P4⟩)
        refine ⟨_, rfl, d, _, rfl, .inl (SqL.of (P4.same _ _ hz3)), _, _, rfl, rfl, _, rfl, ?_⟩
        refine iteD (fun c3 => ?_) (fun c3 => ⟨rfl, P4⟩)
        refine ⟨_, rfl, d, rfl, ⟨_, SqL.of (P4.same _ _ hz3)⟩, fun e he => ?_⟩
        have Ge := none_of P4.same he
        refine lc_list (K := K) (a := d) (xs := zs) (fun i H5 => ∃ G5, Same G3 G5 ∧ Purse p g G5 H5 ∧ G5 e = some (.lst (vs.take i))) ⟨_, Same.new Ge, P4.new he, by rw [upd_same]; rfl⟩ (fun i H5 _ ⟨G5, S5, P5, _⟩ => SqL.of (P5.same _ _ (S5 _ _ hz3))) ?_ ?_
        · rintro i x H5 hxi ⟨G5, S5, P5, h5⟩
          obtain ⟨t, v, r, rfl, hv, hr, ht⟩ := hvs i x hxi
          have hil := get_lt hv
          refine ⟨rfl, _, rfl, t, _, _, _, rfl, rfl, SqL.of (P5.same _ _ (S5 _ _ (S3w _ _ ht))), rfl, _, P5.same _ _ h5, small_line ?_, _, S5.mut Ge, P5.put h5, ?_⟩
          · rw [List.length_take]
            omega
          · rw [upd_same, take_succ_get hv]
        · rintro H5 ⟨G5, S5, P5, h5⟩
          rw [List.take_of_length_le (by omega)] at h5
          refine ⟨e, _, _, rfl, rfl, P5.same _ _ h5, by decide, by decide, small_le (show vs.length * 61 ≤ _ by omega), fun t ht => ?_⟩
          have P6 := P5.new (o := .lst (List.replicate (61 : Int).toNat vs).flatten) ht
          have Gt := none_of P5.same ht
          refine ⟨_, rfl, t, _, rfl, SqL.of upd_same, fun t2 ht2 => ⟨_, rfl, (by show 3 ≤ sizeLine; decide), fun r hr => ?_⟩⟩
          have P7 := P6.new (o := .lst (cutV (List.replicate (61 : Int).toNat vs).flatten none (some 61))) ht2
          have Gt2 := none_of P6.same ht2
          have Gr := none_of P7.same hr
          have et : cutV (List.replicate (61 : Int).toNat vs).flatten none (some 61) = ((List.replicate 61 vs).flatten).take 61 := cut_take _ 61
          have hll2 : (((List.replicate 61 (rs.map Prod.fst)).flatten).take 61).length = 61 := by
            rw [List.length_take, rep_len, List.length_map]
            omega
          have hd7 : DtAll (wo G3 d) (((List.replicate 61 vs).flatten).take 61) ((((List.replicate 61 (rs.map Prod.fst)).flatten).take 61).map LnX.toD) := by
            rw [List.map_take, ← rep_map]
            exact (dtall_rep hvd 61).take 61
          exact k r (.ref t2) 2 (-1) (.lst (((List.replicate 61 (rs.map Prod.fst)).flatten).take 61)) _ _ (((SGG.trans S5).to Gt |>.to Gt2).to Gr) (P7.new hr) upd_same (.lst ((Same.new Gr) _ _ (by rw [upd_same, et])) (hd7.to ((((S3w.trans S5).to Gt).to Gt2).to Gr)))
            (fun x hx => hsm x (rep_mem (List.mem_of_mem_take hx))) (by show (((List.replicate 61 (rs.map Prod.fst)).flatten).take 61).length ≤ 1000; omega) ⟨false, long_bad (by omega), rfl⟩
      · rintro σ' H5 ⟨rfl, P5⟩
        refine ⟨_, rfl, p, g, G3, 3, rfl, by omega, by omega, P5, fun cnt H6 hcnt P6 => ⟨_, _, rfl, rfl, cnt + 1, congrArg (fun z => [V.int z]) (by omega), by omega, by omega, ?_⟩⟩
        refine for_rng (n := cnt + 1) (fun i σ H5 => (∃ v5 v6 v7, σ = [some (.ref p), some (.ref a), some (.int n), some (.ref d), some (.int pk), v5, v6, v7, none, none, none, none]) ∧ ∃ G5 zs rs, Same G G5 ∧ Purse p g G5 H5 ∧ G5 d = some (.lst zs) ∧ DtAll (wo G5 d) zs (rs.map rowD2) ∧ rs.length ≤ 50 + i ∧ (∀ r ∈ rs, RowOk n r) ∧ (0 < i → ∃ r ∈ rs, 1 ≤ r.2)) ⟨⟨_, _, _, rfl⟩, G3, zs, rs, SGG, P6, hz3, hzs, by omega, hrs, fun h => absurd h (Nat.lt_irrefl _)⟩ ?_ ?_
        · rintro i σ H7 hi ⟨⟨v5, v6, v7, rfl⟩, G5, zs, rs, S5, P7, hz5, hzs, hrl, hrs, hone⟩
          have hzl : zs.length = rs.length := by rw [hzs.len, List.length_map]
          refine ⟨_, rfl, p, g, G5, 2, rfl, by omega, by omega, P7, fun mk H8 hmk P8 => ⟨_, _, rfl, rfl, ?_⟩⟩
          refine ⟨fun σ' H' => ∃ v, σ' = [some (.ref p), some (.ref a), some (.int n), some (.ref d), some (.int pk), some (.int i), some (.int (1 + (mk : Int))), some v, none, none, none, none] ∧ ∃ G7 x, Same G5 G7 ∧ Purse p g G7 H' ∧ Dt (nw G5 G7) v x.toD ∧ RowOk n (x, 1 + (mk : Int)), ?_, ?_⟩
          · refine ⟨_, rfl, rfl, _, rfl, ?_⟩
            refine iteI (fun c => ?_) (fun c => ?_)
            · refine ⟨_, rfl, _, rfl, p, g, G5, n, rfl, hn1, hn, P8, fun v x G7 H9 S7 P9 hdx hsm hok hpl => ?_⟩
              exact ⟨v, rfl, G7, x, S7, P9, hdx, hsm, .inr (.inl ⟨c, hok, hpl⟩)⟩
            · refine ⟨_, rfl, _, rfl, p, g, G5, n, rfl, hn1, hn, P8, fun v x G7 H9 S7 P9 hdx hsm hok => ?_⟩
              exact ⟨v, rfl, G7, x, S7, P9, hdx, hsm, .inr (.inr ⟨by show 1 + (mk : Int) = 2; omega, hok⟩)⟩
          · rintro σ' H9 ⟨v, rfl, G7, x, S7, P9, hdx, hrow⟩
            have hz7 := S7 _ _ hz5
            have hz9 := P9.same _ _ hz7
            refine ⟨_, rfl, .inl ⟨rfl, _, SqL.of hz9⟩, _, rfl, _, rfl, d, _, rfl, .inl (SqL.of hz9), _, _, rfl, rfl, p, g, G7, zs.length + 1, congrArg (fun z => [V.ref p, V.int z]) (by omega), by omega, by omega, P9, fun at' H10 hat P10 => ?_⟩
            refine ⟨_, rfl, _, rfl, (by show 2 ≤ sizeLine; decide), fun t ht => ?_⟩
            have P11 := P10.new (o := .lst [v, .int (1 + (mk : Int))]) ht
            have Gt := none_of P10.same ht
            have htd : t ≠ d := fun z => by rw [z, hz7] at Gt; cases Gt
            have S11 : Same G7 (upd G7 t (.lst [v, .int (1 + (mk : Int))])) := .new Gt
            have h11 : upd G7 t (.lst [v, .int (1 + (mk : Int))]) t = some (.lst [v, .int (1 + (mk : Int))]) := upd_same
            generalize upd G7 t (.lst [v, .int (1 + (mk : Int))]) = G11 at P11 S11 h11
            have hz11 := S11 _ _ hz7
            have S5b : Same G5 G11 := S7.trans S11
            have ea : ((at' : Int)).toNat = at' := by omega
            refine ⟨d, _, _, .ref t, rfl, rfl, P11.same _ _ hz11, small_line (by omega), by omega, by omega, ?_⟩
            rw [ea]
            refine ⟨⟨_, _, _, rfl⟩, _, _, rs.take at' ++ [(x, 1 + (mk : Int))] ++ rs.drop at', (S5.trans S5b).mut Gd, P11.put hz11, upd_same, ?_, ?_, fun r hr => ?_, fun _ => ⟨(x, 1 + (mk : Int)), by simp, by show 1 ≤ 1 + (mk : Int); omega⟩⟩
            · rw [wo_upd, List.map_append, List.map_append, List.map_take, List.map_drop]
              have hzs' := hzs.to (wo_mono (p := d) S5b)
              exact ((hzs'.take at').snoc (dt_row2 (by rw [wo_ne htd]; exact h11) (hdx.to ((nw_wo hz5).trans (wo_mono S11))))).append (hzs'.drop at')
            · simp only [List.length_append, List.length_take, List.length_drop, List.length_singleton]
              omega
            · rcases List.mem_append.mp hr with hr | hr
              · rcases List.mem_append.mp hr with hr | hr
                · exact hrs r (List.mem_of_mem_take hr)
                · rw [List.mem_singleton.mp hr]
                  exact hrow
              · exact hrs r (List.mem_of_mem_drop hr)
        · rintro σ H7 ⟨⟨v5, v6, v7, rfl⟩, Gz, zs, rs, Sz, P7, hz5, hzs, hrl, hrs, hone⟩
          have hzl : zs.length = rs.length := by rw [hzs.len, List.length_map]
          obtain ⟨vs, hvl, hvd, hvs⟩ := rows_split hzs
          have Szw : Same (wo Gz d) Gz := wo_same
          obtain ⟨r1, hr1, h1r⟩ := hone (by omega)
          have hml : ((rs.map Prod.snd).map V.int).length = rs.length := by rw [List.length_map, List.length_map]
          refine ⟨_, rfl, d, rfl, ⟨_, SqL.of (P7.same _ _ hz5)⟩, fun e he => ?_⟩
          have Ge := none_of P7.same he
          refine lc_list (K := K) (a := d) (xs := zs) (fun i H5 => ∃ G20, Same Gz G20 ∧ Purse p g G20 H5 ∧ G20 e = some (.lst (((rs.map Prod.snd).map V.int).take i))) ⟨_, Same.new Ge, P7.new he, by rw [upd_same]; rfl⟩ (fun i H5 _ ⟨G20, S5, P5, _⟩ => SqL.of (P5.same _ _ (S5 _ _ hz5))) ?_ ?_
          · rintro i x H5 hxi ⟨G20, S5, P5, h5⟩
            obtain ⟨t, v, r, rfl, hv, hr, ht⟩ := hvs i x hxi
            have hil := get_lt hv
            refine ⟨rfl, _, rfl, t, _, _, _, rfl, rfl, SqL.of (P5.same _ _ (S5 _ _ (Szw _ _ ht))), rfl, _, P5.same _ _ h5, small_line ?_, _, S5.mut Ge, P5.put h5, ?_⟩
            · rw [List.length_take]
              omega
            · rw [upd_same, take_succ_get (show ((rs.map Prod.snd).map V.int)[i]? = some (V.int r.2) by rw [List.getElem?_map, List.getElem?_map, hr]; rfl)]
          · rintro H20 ⟨G20, S20, P20, h20⟩
            rw [List.take_of_length_le (by omega)] at h20
            refine ⟨_, rfl, e, rs.map Prod.snd, rfl, SqL.of (P20.same _ _ h20), by rw [List.length_map]; exact List.length_pos_of_mem hr1, fun m hm hmax => ?_⟩
            have hz20 := S20 _ _ hz5
            have Szw2 := Szw.trans S20
            refine ⟨_, rfl, d, rfl, ⟨_, SqL.of (P20.same _ _ hz20)⟩, fun e2 he2 => ?_⟩
            have Ge2 := none_of P20.same he2
            refine lc_list (K := K) (a := d) (xs := zs) (fun i H5 => ∃ G21, Same G20 G21 ∧ Purse p g G21 H5 ∧ G21 e2 = some (.lst (vs.take i))) ⟨_, Same.new Ge2, P20.new he2, by rw [upd_same]; rfl⟩ (fun i H5 _ ⟨G21, S5, P5, _⟩ => SqL.of (P5.same _ _ (S5 _ _ hz20))) ?_ ?_
            · rintro i x H5 hxi ⟨G21, S5, P5, h5⟩
              obtain ⟨t, v, r, rfl, hv, hr, ht⟩ := hvs i x hxi
              have hil := get_lt hv
              refine ⟨rfl, _, rfl, t, _, _, _, rfl, rfl, SqL.of (P5.same _ _ (S5 _ _ (Szw2 _ _ ht))), rfl, _, P5.same _ _ h5, small_line ?_, _, S5.mut Ge2, P5.put h5, ?_⟩
              · rw [List.length_take]
                omega
              · rw [upd_same, take_succ_get hv]
            · rintro H21 ⟨G21, S21, P21, h21⟩
              rw [List.take_of_length_le (by omega)] at h21
              obtain ⟨j, hj, hno⟩ := first_int hm
              have h20' := S21 _ _ h20
              refine ⟨_, rfl, _, rfl, .inl ⟨rfl, _, SqL.of (P21.same _ _ h20')⟩, _, rfl, e, _, .int m, j, .int m, rfl, rfl, SqL.of (P21.same _ _ h20'), rfl, flat_ints _, (by rw [List.getElem?_map, hj]; rfl), (by show decide (m = m) = true; exact decide_eq_true rfl), fun i z' hi hz' => ?_, (by show 3 ≤ sizeLine; decide), fun r hr => ?_⟩
              · obtain ⟨y, hy, rfl⟩ := get_map hz'
                show decide (y = m) = false
                exact decide_eq_false fun z => hno i hi (by rw [hy, z])
              · have Gr := none_of P21.same hr
                have hv := verd_of hrs (by omega) hmax (Int.le_trans h1r (hmax _ (List.mem_map.mpr ⟨r1, hr1, rfl⟩))) hj hno
                exact k r (.ref e2) m (j : Int) (.lst (rs.map Prod.fst)) _ _ (((Sz.trans S20).trans S21).to Gr) (P21.new hr) upd_same (.lst ((Same.new Gr) _ _ h21) (hvd.to ((Szw2.trans S21).to Gr)))
                  (fun x hx => by
                    obtain ⟨r, hr, rfl⟩ := List.mem_map.mp hx
                    exact (hrs r hr).1) (by show (rs.map Prod.fst).length ≤ 1000; rw [List.length_map]; omega) hv
end
end Rw
/-! ## RdGlue -/
/-! # What the law needs of the plain law, in its own words. -/
namespace Rw
open PySem PySem.Spec PyProof.Rows L2
theorem gI_at {S : List Int} {b : Nat} (h : b < S.length) : S[b]? = some (Rd.gI S b) := by
  rw [List.getElem?_eq_getElem h, Rd.gI, List.getD_eq_getElem?_getD, List.getElem?_eq_getElem h]
  rfl
/-- the list that repeats returns, in the links -/
theorem more_longer {n : Nat} {ls : List Lk} {od : List Nat} {W : List Int} (ho : Rd.Okl n ls) (hv : ∀ b, b < n → Rd.gI (svL n ls) b ≠ -2) (oo : Rd.Ord n ls od) (hW : LastW n ls W) :
    Rd.Longer n ls (moreL ls ((od.filter (Rd.multi n (Rd.late n ls))).map (Rd.gI W))) ∧ ∀ x ∈ (od.filter (Rd.multi n (Rd.late n ls))).map (Rd.gI W), 0 ≤ x ∧ x < ls.length := by
  have at_ : ∀ b, b < n → Rd.wr ls b ≠ [] → ∃ (j : Nat) (l : Lk), Rd.gI W b = (j : Int) ∧ ls[j]? = some l ∧ l.1 = b := fun b hb c => (hW.at_ b hb).resolve_left fun z => c z.2
  constructor
  · have e : moreL ls ((od.filter (Rd.multi n (Rd.late n ls))).map (Rd.gI W)) = ls ++ (od.filter (Rd.multi n (Rd.late n ls))).map fun b => ls.getD (Rd.gI W b).toNat (0, 0) := by
      rw [moreL, List.map_map]
      rfl
    rw [e]
    refine Rd.longer_ok ho hv oo fun b hb c => ?_
    obtain ⟨j, l, h1, h2, h3⟩ := at_ b hb c
    have e2 : ls.getD (Rd.gI W b).toNat (0, 0) = l := by
      rw [h1, Int.toNat_natCast, List.getD_eq_getElem?_getD, h2]
      rfl
    rw [e2]
    exact ⟨List.mem_of_getElem? h2, h3⟩
  · intro x hx
    obtain ⟨b, hb, rfl⟩ := List.mem_map.mp hx
    obtain ⟨h1, h2⟩ := List.mem_filter.mp hb
    have hbn := (oo.mem b).mp h1
    have c : Rd.wr ls b ≠ [] := fun c => by
      have q := beq_iff_eq.mp h2
      rw [(Rd.Root.late ho).own b hbn c, Rd.sing_pow hbn] at q
      omega
    obtain ⟨j, l, h1, h2, h3⟩ := at_ b hbn c
    have := get_lt h2
    rw [h1]
    omega
theorem nats_of {n : Nat} {S : List Int} (hl : S.length = n) (h : ∀ b, b < n → ∃ w : Nat, w < n ∧ Rd.gI S b = (w : Int)) : ∃ D : List Nat, S = D.map (fun m => ((m : Nat) : Int)) ∧ ∀ x ∈ D, x < n := by
  have at_ : ∀ x ∈ S, ∃ w : Nat, w < n ∧ x = (w : Int) := fun x hx => by
    obtain ⟨b, hb⟩ := List.mem_iff_getElem?.mp hx
    have hbl := get_lt hb
    rw [gI_at hbl] at hb
    rw [← Option.some.inj hb]
    exact h b (by omega)
  refine ⟨S.map Int.toNat, ?_, fun x hx => ?_⟩
  · rw [List.map_map]
    refine (List.map_id S).symm.trans (List.map_congr_left fun x hx => ?_)
    obtain ⟨w, _, rfl⟩ := at_ x hx
    rfl
  · obtain ⟨y, hy, rfl⟩ := List.mem_map.mp hx
    obtain ⟨w, h1, rfl⟩ := at_ y hy
    exact h1
/-- the blocks without a settled number -/
def noFree (S : List Int) (n : Nat) : List Nat := (List.range n).filter fun b => decide (Rd.gI S b = -2)
theorem noFree_none {S : List Int} {n : Nat} : noFree S n = [] ↔ ∀ b, b < n → Rd.gI S b ≠ -2 := by
  rw [noFree, List.filter_eq_nil_iff]
  constructor
  · exact fun h b hb e => h b (List.mem_range.mpr hb) (decide_eq_true e)
  · exact fun h b hb e => h b (List.mem_range.mp hb) (of_decide_eq_true e)
theorem noFree_some {S : List Int} {n b0 : Nat} (hb : b0 < n) (e : Rd.gI S b0 = -2) (hno : ∀ c, c < b0 → Rd.gI S c ≠ -2) : (noFree S n).take 1 = [b0] ∧ noFree S n ≠ [] := by
  have e1 : n = b0 + (1 + (n - b0 - 1)) := by omega
  have e2 : List.range n = List.range b0 ++ (b0 :: (List.range (n - b0 - 1)).map fun x => b0 + 1 + x) := by
    have q := List.range_add (n := b0) (m := n - b0)
    rw [show b0 + (n - b0) = n by omega] at q
    rw [q]
    congr 1
    rw [show n - b0 = (n - b0 - 1) + 1 by omega, List.range_succ_eq_map, List.map_cons, List.map_map]
    exact congrArg (List.cons b0) (List.map_congr_left fun x _ => show b0 + (x + 1) = b0 + 1 + x by omega)
  have e3 : (List.range b0).filter (fun b => decide (Rd.gI S b = -2)) = [] := by
    rw [List.filter_eq_nil_iff]
    exact fun b hb z => hno b (List.mem_range.mp hb) (of_decide_eq_true z)
  have e4 : noFree S n = b0 :: ((List.range (n - b0 - 1)).map fun x => b0 + 1 + x).filter fun b => decide (Rd.gI S b = -2) := by
    rw [noFree, e2, List.filter_append, e3, List.nil_append]
    exact List.filter_cons_of_pos (decide_eq_true e)
  rw [e4]
  exact ⟨rfl, fun z => nomatch z⟩
/-- the number of further lines: none if a block has no settled number -/
def fewF (n : Nat) (ls : List Lk) : Int := if noFree (svL n ls) n = [] then ((Rd.ns n (Rd.late n ls) : Nat) : Int) else -1
theorem fewF_eq {n : Nat} {ls : List Lk} (ho : Rd.Okl n ls) : Rd.fewest n ls (Rd.late n ls) = fewF n ls := by
  rw [fewF]
  by_cases c : noFree (svL n ls) n = []
  · rw [if_pos c]
    exact Rd.fewest_some (Rd.Root.late ho) (noFree_none.mp c)
  · rw [if_neg c]
    exact Rd.fewest_none (Rd.Root.late ho) fun z => c (noFree_none.mpr z)
theorem Purse.later {p g : Addr} {G H H' : Hp} (P : Purse p g G H) (S : Same H H') : Purse p g (wo2 H' p g) H' := by
  obtain ⟨ns, a, c, d, h1, h2, h3⟩ := P.ex
  refine ⟨wo2_same, ?_, wo_self, P.ne, ns, a, c, d, S _ _ h1, S _ _ h2, h3⟩
  rw [wo2, wo_ne P.ne, wo_self]
theorem Purse.keeps {p g : Addr} {G H H' : Hp} (P : Purse p g G H) (S : Same H H') : Same G (wo2 H' p g) := same_wo2 (P.same.trans S) P.np P.ng
theorem row1_can (D : List Nat) : (rowsD [D]).canLay0 = true := by
  show PyData.canLay0 (.list [rowD D]) = true
  rw [PyData.canLay0, PyData.canLayAll0, PyData.canLayAll0, rowD, PyData.canLay0, (nums_lay D).1]
  rfl
theorem row1_shaped (D : List Nat) : SeqAt.shaped (rowsD [D]) = true := by
  show (PyData.canLay0 (rowsD [D]) && decide (PyData.depth (rowsD [D]) ≤ 64)) = true
  rw [row1_can]
  have e : PyData.depth (rowsD [D]) = 2 := by
    show PyData.depth (.list [rowD D]) = 2
    rw [PyData.depth, PyData.depthAll, PyData.depthAll, rowD, PyData.depth, (nums_lay D).2]
    rfl
  rw [e]
  rfl
theorem iteNS {x : V} {A B : Prop} (h : B) : if (!decide (x = x)) = true then A else B := by
  rw [decide_eq_true rfl]
  exact iteF h
theorem filter_rng_succ {p : Nat → Bool} {i : Nat} : (List.range (i + 1)).filter p = (List.range i).filter p ++ (if p i = true then [i] else []) := by
  rw [List.range_succ, List.filter_append]
  by_cases c : p i = true <;> simp [c]
/-- what repr needs of a script, of a log -/
theorem log_fine {H : Hp} {v : V} {n : Nat} {ls : List Lk} (g : GoodLog H v n ls) : Fine 1048576 4 (logD ls) := by
  obtain ⟨h1, h2, h3, ho, hv⟩ := g
  rw [← log_toD ls]
  refine Scr.fine (sc := .lst (ls.map plainLn)) (fun x hx => ?_) (by show (ls.map plainLn).length ≤ 1000; rw [List.length_map]; omega)
  obtain ⟨l, hl, rfl⟩ := List.mem_map.mp (show x ∈ ls.map plainLn from hx)
  obtain ⟨o1, o2, _⟩ := ho l hl
  exact plain_small (by omega) (by omega)
theorem sc_form {H : Hp} {v : V} {sc : Scr} (hd : Dt H v sc.toD) : (v = .non ∧ sc.toD.shown = "None") ∨ ∃ a, v = .ref a := by
  cases sc with
  | lst ls =>
    obtain ⟨a, _, e, _⟩ := hd.list_inv
    exact .inr ⟨a, e⟩
  | tup ls =>
    obtain ⟨a, _, e, _⟩ := hd.tuple_inv
    exact .inr ⟨a, e⟩
  | non =>
    refine .inl ⟨?_, ?_⟩
    · cases hd
      rfl
    · rw [Scr.toD, PyData.shown]
end Rw
/-! ## FTrees -/
namespace Rw
open PySem PySem.Spec PyProof.Rows L2
abbrev law_trees_N : List Str := ["_law_purse_here", "_law_blocks", "_law_fresh", "_law_trees_here", "_law_links_here", "_law_block", "_law_tree", "_law_early", "_law_one"]
theorem sc_law_trees : FnScope law_trees_N ["_law_purse_here", "_law_blocks"] (defScope s_law_trees) := ⟨rfl, rfl, rfl, by decide +kernel, rfl, by decide +kernel, by decide +kernel⟩
theorem m_law_trees : d_law_trees ∈ fn := List.mem_of_getElem? (i := 26) rfl
theorem LkV.put {G : Hp} {n : Nat} {x : V} {t : Addr} {ys : List V} {o : HO} (h : LkV G n x) (ht : G t = some (.lst ys)) : LkV (upd G t o) n x := by
  obtain ⟨q, l, e, h1, h2⟩ := h
  refine ⟨q, l, e, ?_, h2⟩
  rw [upd_ne fun z => by rw [z, ht] at h1; cases h1]
  exact h1
/-- x is a tree of blocks -/
def TrV (G G3 : Hp) (tp lp oa : Addr) (Os : List Nat) (x : V) : Prop := ∃ (t : Addr) (L : List Nat), x = .ref t ∧ G3 t = some (.lst (nV L)) ∧ L ≠ [] ∧ L.Nodup ∧ (∀ b ∈ L, b ∈ Os) ∧ t ≠ tp ∧ t ≠ lp ∧ t ≠ oa ∧ G t = none
structure Tr (G G3 : Hp) (n : Nat) (tp lp oa : Addr) (O : List Nat) (i : Nat) (ts xs : List V) : Prop where
  same : Same G G3
  ht : G3 tp = some (.lst ts)
  hl : G3 lp = some (.lst xs)
  ho : G3 oa = some (.lst (nV O))
  tr : ∀ x ∈ ts, TrV G G3 tp lp oa (O.take i) x
  lk : ∀ x ∈ xs, LkV G3 n x
  tl : ts.length ≤ i
  xl : xs.length ≤ i
section
variable {G G3 : Hp} {n : Nat} {tp lp oa : Addr} {O : List Nat} {i : Nat} {ts xs : List V}
theorem Tr.one (T : Tr G G3 n tp lp oa O i ts xs) (h1 : tp ≠ lp) (h2 : tp ≠ oa) (h3 : lp ≠ oa) (n1 : G tp = none) {t : Addr} {b : Nat} (ht : G3 t = none) (hb : b ∈ O.take (i + 1)) (hsub : ∀ c ∈ O.take i, c ∈ O.take (i + 1)) :
    Tr G (upd (upd G3 t (.lst (nV [b]))) tp (.lst (ts ++ [.ref t]))) n tp lp oa O (i + 1) (ts ++ [.ref t]) xs := by
  have e1 : t ≠ tp := fun z => by rw [z, T.ht] at ht; cases ht
  have e2 : t ≠ lp := fun z => by rw [z, T.hl] at ht; cases ht
  have e3 : t ≠ oa := fun z => by rw [z, T.ho] at ht; cases ht
  refine ⟨(T.same.to ht).mut n1, upd_same, ?_, ?_, fun x hx => ?_, fun x hx => ?_, ?_, Nat.le_succ_of_le T.xl⟩
  · rw [upd_ne h1.symm, upd_ne e2.symm]
    exact T.hl
  · rw [upd_ne h2.symm, upd_ne e3.symm]
    exact T.ho
  · rcases List.mem_append.mp hx with hx | hx
    · obtain ⟨t', L, e, k1, k2, k3, k4, k5, k6, k7, k8⟩ := T.tr x hx
      refine ⟨t', L, e, ?_, k2, k3, fun c hc => hsub c (k4 c hc), k5, k6, k7, k8⟩
      rw [upd_ne k5, upd_ne fun z => by rw [z, ht] at k1; cases k1]
      exact k1
    · rw [List.mem_singleton.mp hx]
      refine ⟨t, [b], rfl, by rw [upd_ne e1, upd_same], by simp, by simp, fun c hc => by rw [List.mem_singleton.mp hc]; exact hb, e1, e2, e3, none_of T.same ht⟩
  · exact ((T.lk x hx).to (Same.new ht)).put (t := tp) (ys := ts) (by rw [upd_ne e1.symm]; exact T.ht)
  · rw [List.length_append, List.length_singleton]
    exact Nat.succ_le_succ T.tl
theorem Tr.two (T : Tr G G3 n tp lp oa O i ts xs) (h1 : tp ≠ lp) (h3 : lp ≠ oa) (n2 : G lp = none) {t q : Addr} {L : List Nat} {b c : Nat} (ht : G3 t = some (.lst (nV L))) (hne : L ≠ []) (hnd : L.Nodup) (hL : ∀ b ∈ L, b ∈ O.take i)
    (t1 : t ≠ tp) (t2 : t ≠ lp) (t3 : t ≠ oa) (t4 : G t = none) (hq : G3 q = none) (hb : b ∈ O.take (i + 1)) (hbn : b < n) (hbL : b ∉ L) (hc : c ∈ L) (hcn : c < n) (hsub : ∀ c ∈ O.take i, c ∈ O.take (i + 1)) :
    Tr G (upd (upd (upd G3 q (.tup [.int (b : Nat), .int (c : Nat)])) lp (.lst (xs ++ [.ref q]))) t (.lst (nV L ++ [.int (b : Nat)]))) n tp lp oa O (i + 1) ts (xs ++ [.ref q]) := by
  have e1 : q ≠ tp := fun z => by rw [z, T.ht] at hq; cases hq
  have e2 : q ≠ lp := fun z => by rw [z, T.hl] at hq; cases hq
  have e3 : q ≠ oa := fun z => by rw [z, T.ho] at hq; cases hq
  have e4 : q ≠ t := fun z => by rw [z, ht] at hq; cases hq
  have hl4 : upd G3 q (.tup [.int (b : Nat), .int (c : Nat)]) lp = some (.lst xs) := by rw [upd_ne e2.symm]; exact T.hl
  have ht5 : upd (upd G3 q (.tup [.int (b : Nat), .int (c : Nat)])) lp (.lst (xs ++ [.ref q])) t = some (.lst (nV L)) := by rw [upd_ne t2, upd_ne e4.symm]; exact ht
  refine ⟨(((T.same.to hq).mut n2).mut t4), ?_, ?_, ?_, fun x hx => ?_, fun x hx => ?_, Nat.le_succ_of_le T.tl, ?_⟩
  · rw [upd_ne t1.symm, upd_ne h1, upd_ne e1.symm]
    exact T.ht
  · rw [upd_ne t2.symm, upd_same]
  · rw [upd_ne t3.symm, upd_ne h3.symm, upd_ne e3.symm]
    exact T.ho
  · obtain ⟨t', L', e, k1, k2, k3, k4, k5, k6, k7, k8⟩ := T.tr x hx
    by_cases z : t' = t
    · subst z
      refine ⟨t', L ++ [b], e, by rw [upd_same, nV_snoc], by simp, List.nodup_append.mpr ⟨hnd, by simp, fun x hx y hy => ?_⟩, fun x hx => ?_, t1, t2, t3, t4⟩
      · rw [List.mem_singleton.mp hy]
        exact fun z => hbL (z ▸ hx)
      · rcases List.mem_append.mp hx with hx | hx
        · exact hsub x (hL x hx)
        · rw [List.mem_singleton.mp hx]
          exact hb
    · refine ⟨t', L', e, ?_, k2, k3, fun c hc => hsub c (k4 c hc), k5, k6, k7, k8⟩
      rw [upd_ne z, upd_ne k6, upd_ne fun z => by rw [z, hq] at k1; cases k1]
      exact k1
  · refine LkV.put ?_ ht5
    rcases List.mem_append.mp hx with hx | hx
    · exact ((T.lk x hx).to (Same.new hq)).put hl4
    · rw [List.mem_singleton.mp hx]
      refine LkV.put ⟨q, (b, c), rfl, upd_same, hbn, hcn, fun z => ?_⟩ hl4
      have z' : b = c := z
      exact hbL (z' ▸ hc)
  · rw [List.length_append, List.length_singleton]
    exact Nat.succ_le_succ T.xl
end
/-- a tree of at least two blocks -/
def TreeV (G : Hp) (n : Nat) (x : V) : Prop := ∃ (t : Addr) (L : List Nat), x = .ref t ∧ G t = some (.lst (nV L)) ∧ 2 ≤ L.length ∧ L.length ≤ n ∧ L.Nodup ∧ ∀ b ∈ L, b < n
theorem TreeV.to {G G' : Hp} {n : Nat} {x : V} (h : TreeV G n x) (S : Same G G') : TreeV G' n x := by
  obtain ⟨q, l, e, h1, h2⟩ := h
  exact ⟨q, l, e, S _ _ h1, h2⟩
def spTrees : Sp := fun vs H Q _ => ∃ (p g : Addr) (G : Hp) (n : Nat), vs = [.ref p, .int (n : Int)] ∧ 1 ≤ n ∧ n ≤ 100 ∧ Purse p g G H ∧
  ∀ r G' H' ta la ts xs, Same G G' → Purse p g G' H' → G' r = some (.lst [.ref ta, .ref la]) → G' ta = some (.lst ts) → G' la = some (.lst xs) → (∀ x ∈ ts, TreeV G' n x) → ts.length ≤ n → (∀ x ∈ xs, LkV G' n x) → xs.length ≤ n → Q (.ref r) H'
theorem perm_nV {L : List Nat} {ys : List V} (h : ys.Perm (nV L)) : ∃ O : List Nat, ys = nV O ∧ O.Perm L := by
  have key : ∀ (ys : List V), (∀ y ∈ ys, ∃ m : Nat, y = .int (m : Nat)) → ∃ O : List Nat, ys = nV O := by
    intro ys
    induction ys with
    | nil => exact fun _ => ⟨[], rfl⟩
    | cons y ys ih =>
      intro h
      obtain ⟨m, e⟩ := h y List.mem_cons_self
      obtain ⟨O, e2⟩ := ih fun z hz => h z (List.mem_cons_of_mem _ hz)
      exact ⟨m :: O, by rw [e, e2]; rfl⟩
  obtain ⟨O, e⟩ := key ys fun y hy => by
    obtain ⟨m, _, e⟩ := List.mem_map.mp (h.mem_iff.mp hy)
    exact ⟨m, e.symm⟩
  refine ⟨O, e, ?_⟩
  rw [e] at h
  have q := h.map fun v => match v with
    | V.int i => i.toNat
    | _ => 0
  have e3 : ∀ M : List Nat, (nV M).map (fun v => match v with
    | V.int i => i.toNat
    | _ => 0) = M := fun M => by
    rw [nV, List.map_map]
    exact (List.map_congr_left fun m _ => by simp).trans (List.map_id M)
  rwa [e3, e3] at q
section
variable {P : Program} {w : World} {K : PySem.W.Frag} {mg : Str → Option Value} {base : Heap}
theorem ok_trees (T : Txt K mg) : Okd P w K mg base CX0 3 "_law_trees" ["_law_purse_here", "_law_blocks"] spTrees := by
  have c_law_take : Okd P w K mg base CX0 1 "_law_take" ["_law_purse_here", "_law_size"] spTake := ok_take T
  have c_law_turned : Okd P w K mg base CX0 2 "_law_turned" ["_law_purse_here", "_law_rows"] spTurned := ok_turned T
  refine okd0 (st := s_law_trees) T m_law_trees sc_law_trees (fun vs H Q E h => ?_) (fun _ _ _ _ _ _ us hl => match us, hl with | [_, _], _ => rfl) (fun f cdv A outer s H vs Q E hr h => ⟨_, (pss_cons (ps_set (i := 2) sc_law_trees.nd rfl (Or.inl rfl) (pe_op op_add pe_int (pe_cd c_law_take hr (by decide) rfl (pa_cons (pv 0) (pa_cons pe_int pa_nil)))))
  (pss_cons (ps_set (i := 3) sc_law_trees.nd rfl (Or.inl rfl) (pe_lst pa_nil))
  (pss_cons (ps_set (i := 4) sc_law_trees.nd rfl (Or.inl rfl) (pe_lst pa_nil))
  (pss_cons (ps_for PassesOwn.never rfl (pi_list (pe_cd c_law_turned hr (by decide) rfl (pa_cons (pv 0) (pa_cons (pe_listRg rfl (by rfl) T.b_list (prg_1 (by rfl) T.b_range (pv 1))) pa_nil)))) (pg_name (i := 5) sc_law_trees.nd rfl (Or.inl rfl))
    (pss_one (ps_if (PW.pt (pw_or (pt_cmpR op_eq (pe_callB call_len_seq (by rfl) T.b_len PySem.boot_len (pa_cons (pv 3) pa_nil)) pe_int (nomark _)) (pw_or1 (pt_cmpR op_eq (pe_cd c_law_take hr (by decide) rfl (pa_cons (pv 0) (pa_cons (pv 2) pa_nil))) pe_int (nomark _)))))
      (pss_one (ps_expr (pe_bm PySem.F.plainAttrs_list PySem.F.slot_list_append PySem.F.type_list_append mt_append (pv 3) (pa_cons (pe_lst (pa_cons (pv 5) pa_nil)) pa_nil))))
      (pss_cons (ps_set (i := 6) sc_law_trees.nd rfl (Or.inl rfl) (pe_ix ix_list (pv 3) (pe_cd c_law_take hr (by decide) rfl (pa_cons (pv 0) (pa_cons (pe_callB call_len_seq (by rfl) T.b_len PySem.boot_len (pa_cons (pv 3) pa_nil)) pa_nil))) (fun _ _ => rfl)))
      (pss_cons (ps_set (i := 7) sc_law_trees.nd rfl (Or.inl rfl) (pe_cd c_law_take hr (by decide) rfl (pa_cons (pv 0) (pa_cons (pe_op op_mul pe_int (pe_callB call_len_seq (by rfl) T.b_len PySem.boot_len (pa_cons (pv 6) pa_nil))) pa_nil))))
      (pss_cons (ps_expr (pe_bm PySem.F.plainAttrs_list PySem.F.slot_list_append PySem.F.type_list_append mt_append (pv 4) (pa_cons (pe_tup (pa_cons (pv 5) (pa_cons (pe_ix ix_list (pv 6) (pe_callB (call_min2 rfl) (by rfl) T.b_min (by decide +kernel) (pa_cons (pv 7) (pa_cons (pe_op op_sub (pe_callB call_len_seq (by rfl) T.b_len PySem.boot_len (pa_cons (pv 6) pa_nil)) pe_int) pa_nil))) (fun _ _ => rfl)) pa_nil))) pa_nil)))
      (pss_one (ps_expr (pe_bm PySem.F.plainAttrs_list PySem.F.slot_list_append PySem.F.type_list_append mt_append (pv 6) (pa_cons (pv 5) pa_nil))))))))))
  (pss_one (ps_ret (pe_lst (pa_cons (pe_lc (own := [("_law_one", 8)]) (g := (gName 8)) rfl sc_law_trees.nd (pi_list (pv 3)) (blkOk_by (N := law_trees_N) (sc := defScope s_law_trees) (by decide +kernel)) (fun _ _ _ _ _ => (pg_name (i := 8) sc_law_trees.nd rfl (Or.inl rfl))) (fun _ _ _ _ _ => (pts_one (pt_cmpR op_gt (pe_callB (r := Evl.rLenS K) call_len_seq (by rfl) T.b_len PySem.boot_len (pa_cons (pv 8) pa_nil)) pe_int (nomark _)))) (fun _ _ _ _ _ => (pv 8))) (pa_cons (pv 4) pa_nil))))))))), ?_⟩)
  · obtain ⟨p, g, G, n, rfl, _⟩ := h
    rfl
  · obtain ⟨p, g, G, n, rfl, hn1, hn, Pu, k⟩ := h
    refine ⟨_, rfl, p, g, G, 12, rfl, by omega, by omega, Pu, fun r H1 hr1 P1 => ?_⟩
    have e1 : (2 : Int) + (r : Int) = ((r + 2 : Nat) : Int) := by omega
    refine ⟨_, _, rfl, rfl, ?_⟩
    refine ⟨Nat.zero_le _, fun tp htp => ⟨Nat.zero_le _, fun lp hlp => ?_⟩⟩
    have P2 := P1.new (o := .lst []) htp
    have P3 := P2.new (o := .lst []) hlp
    have h1 : tp ≠ lp := ne_of_none upd_same hlp
    have Gtp := none_of P1.same htp
    have Glp1 := none_of P2.same hlp
    have Glp : G lp = none := none_of (Same.new Gtp) Glp1
    have S3 : Same G (upd (upd G tp (.lst [])) lp (.lst [])) := (Same.new Gtp).to Glp1
    have htp3 : upd (upd G tp (.lst [])) lp (.lst []) tp = some (.lst []) := by rw [upd_ne h1, upd_same]
    have hlp3 : upd (upd G tp (.lst [])) lp (.lst []) lp = some (.lst []) := upd_same
    generalize upd (upd G tp (.lst [])) lp (.lst []) = G3 at P3 S3 htp3 hlp3
    generalize upd (upd H1 tp (.lst [])) lp (.lst []) = H3 at P3 ⊢
    refine ⟨_, rfl, _, rfl, n, rfl, ⟨by omega, by omega, by omega, by omega, by omega⟩, fun z hz => ?_⟩
    rw [rgV_nat]
    have P4 := P3.new (o := .lst (nV (List.range n))) hz
    refine ⟨p, g, z, _, _, rfl, by rw [nV_len, List.length_range]; omega, upd_same, P4, fun oa G5 H5 ys S5 _ P5 hoa pm => ?_⟩
    obtain ⟨O, rfl, pmO⟩ := perm_nV pm
    have hOl : O.length = n := by rw [pmO.length_eq, List.length_range]
    have hOn : O.Nodup := pmO.nodup_iff.mpr List.nodup_range
    have hOb : ∀ b ∈ O, b < n := fun b hb => List.mem_range.mp (pmO.mem_iff.mp hb)
    have S35 : Same G3 G5 := (Same.new (none_of P3.same hz)).trans S5
    have htp5 := S35 _ _ htp3
    have hlp5 := S35 _ _ hlp3
    have hno : ∀ q, G5 q = some (.lst []) → q ≠ oa := fun q e z => by
      rw [z, hoa] at e
      have e' : nV O = [] := by simpa using e
      have := nV_len O
      rw [e', hOl, List.length_nil] at this
      omega
    have h2 := hno tp htp5
    have h3 := hno lp hlp5
    refine ⟨oa, rfl, ⟨_, SqL.of (P5.same _ _ hoa)⟩, for_list (K := K) (a := oa) (xs := nV O) (fun i σ H6 => (∃ v5 v6 v7, σ = [some (.ref p), some (.int n), some (.int ((2 : Int) + (r : Int))), some (.ref tp), some (.ref lp), v5, v6, v7, none]) ∧ ∃ G6 ts xs, Tr G G6 n tp lp oa O i ts xs ∧ Purse p g G6 H6) ⟨⟨_, _, _, rfl⟩, G5, [], [], ⟨S3.trans S35, htp5, hlp5, hoa, (fun _ h => by cases h), (fun _ h => by cases h), Nat.le_refl _, Nat.le_refl _⟩, P5⟩ ?_ ?_ ?_⟩
    · rintro i σ H6 _ ⟨_, G6, ts, xs, TT, P6⟩
      exact SqL.of (P6.same _ _ TT.ho)
    · rintro i x σ H6 hxi ⟨⟨v5, v6, v7, rfl⟩, G6, ts, xs, TT, P6⟩
      obtain ⟨hi, rfl⟩ := nV_get hxi
      have hgi : O[i]? = some (Rd.gL O i) := by rw [Rd.gL_eq hi]; exact List.getElem?_eq_getElem hi
      have et := take_succ_get hgi
      have hsub : ∀ c ∈ O.take i, c ∈ O.take (i + 1) := fun c hc => by rw [et]; exact List.mem_append_left _ hc
      have hbi : Rd.gL O i ∈ O.take (i + 1) := by rw [et]; exact List.mem_append_right _ List.mem_cons_self
      have hbn : Rd.gL O i < n := hOb _ (gL_mem hi)
      have hni : Rd.gL O i ∉ O.take i := fun z => by
        have q := hOn
        rw [← List.take_append_drop (i + 1) O, et] at q
        have q2 := (List.nodup_append.mp q).1
        exact (List.nodup_append.mp q2).2.2 _ z _ List.mem_cons_self rfl
      generalize Rd.gL O i = b at hgi et hbi hbn hni ⊢
      have small : ∀ m, m ≤ i → m < sizeLine := fun m hm => small_line (by omega)
      refine ⟨_, rfl, tp, _, rfl, .inl (SqL.of (P6.same _ _ TT.ht)), rfl, _, rfl, ?_⟩
      refine iteI (fun c => ?_) (fun c => ?_)
      · refine ⟨_, rfl, .inl ⟨rfl, _, SqL.of (P6.same _ _ TT.ht)⟩, _, rfl, (by show 1 ≤ sizeLine; decide), fun t ht => ?_⟩
        have P7 := P6.new (o := .lst (nV [b])) ht
        have Gt := none_of P6.same ht
        have htp7 : upd G6 t (.lst (nV [b])) tp = some (.lst ts) := (Same.new Gt) _ _ TT.ht
        exact ⟨tp, ts, _, rfl, rfl, P7.same _ _ htp7, small _ TT.tl, ⟨_, _, _, rfl⟩, _, _, xs, TT.one h1 h2 h3 Gtp Gt hbi hsub, P7.put htp7⟩
      · refine ⟨_, rfl, _, rfl, p, g, G6, r + 2, (by show [V.ref p, V.int ((2 : Int) + (r : Int))] = _; rw [e1]), by omega, by omega, P6, fun u H7 hu P7 => ⟨rfl, _, rfl, ?_⟩⟩
        refine iteI (fun c => ?_) (fun c => ?_)
        · refine ⟨_, rfl, .inl ⟨rfl, _, SqL.of (P7.same _ _ TT.ht)⟩, _, rfl, (by show 1 ≤ sizeLine; decide), fun t ht => ?_⟩
          have P8 := P7.new (o := .lst (nV [b])) ht
          have Gt := none_of P7.same ht
          have htp8 : upd G6 t (.lst (nV [b])) tp = some (.lst ts) := (Same.new Gt) _ _ TT.ht
          exact ⟨tp, ts, _, rfl, rfl, P8.same _ _ htp8, small _ TT.tl, ⟨_, _, _, rfl⟩, _, _, xs, TT.one h1 h2 h3 Gtp Gt hbi hsub, P8.put htp8⟩
        · have hts : 1 ≤ ts.length := by omega
          refine ⟨_, rfl, _, rfl, _, rfl, tp, _, rfl, .inl (SqL.of (P7.same _ _ TT.ht)), p, g, G6, ts.length, rfl, by omega, by have := TT.tl; omega, P7, fun m H8 hm P8 => ?_⟩
          obtain ⟨t, L, et', k1, k2, k3, k4, k5, k6, k7, k8⟩ := TT.tr ts[m] (List.getElem_mem hm)
          have hLl : L.length ≤ n := Rd.nodup_lt n L k3 fun x hx => hOb x (List.mem_of_mem_take (k4 x hx))
          have hL0 : 0 < L.length := List.length_pos_iff.mpr k2
          have at1 : atI ts (m : Int) = some (.ref t) := atI_nat (by rw [List.getElem?_eq_getElem hm, et'])
          refine ⟨tp, _, _, _, rfl, rfl, SqL.of (P8.same _ _ TT.ht), at1, ?_⟩
          have e2 : (2 : Int) * ((nV L).length : Int) = ((2 * L.length : Nat) : Int) := by rw [nV_len]; push_cast; rfl
          refine ⟨_, rfl, _, rfl, t, _, rfl, .inl (SqL.of (P8.same _ _ k1)), _, _, rfl, rfl, .inl ⟨by omega, by omega⟩, p, g, G6, 2 * L.length, (by rw [← e2]), by omega, by omega, P8, fun s H9 hs P9 => ?_⟩
          obtain ⟨j, hj, ej⟩ : ∃ j, j < L.length ∧ (if ((nV L).length : Int) - 1 < (s : Int) then ((nV L).length : Int) - 1 else (s : Int)) = (j : Int) := by
            rw [nV_len]
            by_cases c : (L.length : Int) - 1 < (s : Int)
            · exact ⟨L.length - 1, by omega, by rw [if_pos c]; omega⟩
            · exact ⟨s, by omega, by rw [if_neg c]⟩
          have at2 : atI (nV L) (if ((nV L).length : Int) - 1 < (s : Int) then ((nV L).length : Int) - 1 else (s : Int)) = some (.int (Rd.gL L j : Nat)) := by rw [ej]; exact nV_at hj
          refine ⟨_, rfl, .inl ⟨rfl, _, SqL.of (P9.same _ _ TT.hl)⟩, _, rfl, _, rfl, _, rfl, _, rfl, t, _, rfl, .inl (SqL.of (P9.same _ _ k1)), _, _, rfl, rfl, _, _, rfl, t, _, _, _, rfl, rfl, SqL.of (P9.same _ _ k1), at2, (by show 2 ≤ sizeLine; decide), fun q hq => ?_⟩
          have Gq := none_of P9.same hq
          have P10 := P9.new (o := .tup [.int (b : Nat), .int (Rd.gL L j : Nat)]) hq
          have hl10 : upd G6 q (.tup [.int (b : Nat), .int (Rd.gL L j : Nat)]) lp = some (.lst xs) := (Same.new Gq) _ _ TT.hl
          have P11 := P10.put (o := .lst (xs ++ [.ref q])) hl10
          have hqt : q ≠ t := fun z => by rw [z, k1] at Gq; cases Gq
          have ht11 : upd (upd G6 q (.tup [.int (b : Nat), .int (Rd.gL L j : Nat)])) lp (.lst (xs ++ [.ref q])) t = some (.lst (nV L)) := by rw [upd_ne k6, upd_ne hqt.symm]; exact k1
          have TT2 := TT.two (b := b) (c := Rd.gL L j) h1 h3 Glp k1 k2 k3 k4 k5 k6 k7 k8 Gq hbi hbn (fun z => hni (k4 b z)) (gL_mem hj) (hOb _ (List.mem_of_mem_take (k4 _ (gL_mem hj)))) hsub
          exact ⟨lp, xs, _, rfl, rfl, P10.same _ _ hl10, small _ TT.xl, _, rfl, .inl ⟨rfl, _, SqL.of (P11.same _ _ ht11)⟩, _, rfl, t, _, _, rfl, rfl, P11.same _ _ ht11, small_line (by rw [nV_len]; omega), ⟨_, _, _, rfl⟩, _, ts, _, TT2, P11.put ht11⟩
    · rintro σ H6 ⟨⟨v5, v6, v7, rfl⟩, G6, ts, xs, TT, P6⟩
      rw [nV_len, hOl] at TT
      refine ⟨_, rfl, tp, rfl, ⟨_, SqL.of (P6.same _ _ TT.ht)⟩, fun d hd => ?_⟩
      have Gd := none_of P6.same hd
      refine lc_list (K := K) (a := tp) (xs := ts) (fun i H7 => ∃ G7 zs, Same G6 G7 ∧ Purse p g G7 H7 ∧ G7 d = some (.lst zs) ∧ (∀ x ∈ zs, TreeV G6 n x) ∧ zs.length ≤ i) ⟨_, [], Same.new Gd, P6.new hd, upd_same, (fun _ h => by cases h), Nat.le_refl _⟩ (fun i H7 _ q => by obtain ⟨G7, zs, S7, P7, _⟩ := q; exact SqL.of (P7.same _ _ (S7 _ _ TT.ht))) ?_ ?_
      · rintro i x H7 hxi ⟨G7, zs, S7, P7, hd7, hzs, hzl⟩
        obtain ⟨t, L, rfl, k1, k2, k3, k4, k5, k6, k7, k8⟩ := TT.tr x (List.mem_of_getElem? hxi)
        have hLl : L.length ≤ n := Rd.nodup_lt n L k3 fun x hx => hOb x (List.mem_of_mem_take (k4 x hx))
        have hi := get_lt hxi
        refine ⟨rfl, _, rfl, t, _, rfl, .inl (SqL.of (P7.same _ _ (S7 _ _ k1))), _, _, rfl, rfl, _, rfl, ?_⟩
        refine iteD (fun c => ?_) (fun c => ⟨G7, zs, S7, P7, hd7, hzs, by omega⟩)
        refine ⟨_, rfl, zs, P7.same _ _ hd7, small_line (by have := TT.tl; omega), _, _, S7.mut Gd, P7.put hd7, upd_same, fun x hx => ?_, by rw [List.length_append, List.length_singleton]; omega⟩
        rcases List.mem_append.mp hx with hx | hx
        · exact hzs x hx
        · rw [List.mem_singleton.mp hx]
          rw [nV_len] at c
          exact ⟨t, L, rfl, k1, by omega, hLl, k3, fun b hb => hOb b (List.mem_of_mem_take (k4 b hb))⟩
      · rintro H7 ⟨G7, zs, S7, P7, hd7, hzs, hzl⟩
        refine ⟨_, rfl, (by show 2 ≤ sizeLine; decide), fun rr hrr => ?_⟩
        have Gr := none_of P7.same hrr
        have S78 : Same G7 (upd G7 rr (.lst [.ref d, .ref lp])) := Same.new Gr
        exact k rr _ _ d lp zs xs ((TT.same.trans S7).trans S78) (P7.new hrr) upd_same (S78 _ _ hd7) (S78 _ _ (S7 _ _ TT.hl)) (fun x hx => (hzs x hx).to (S7.trans S78)) (by have := TT.tl; omega) (fun x hx => (TT.lk x hx).to (S7.trans S78)) TT.xl
end
end Rw
/-! ## FGrown -/
namespace Rw
open PySem PySem.Spec PyProof.Rows L2
abbrev law_grown_N : List Str := ["_law_purse_here", "_law_blocks", "_law_most", "_law_drawn", "_law_trees_here", "_law_links_here", "_law_cut", "_law_head", "_law_tail", "_law_back", "_law_ways", "_law_room", "_law_k", "_law_turn"]
theorem sc_law_grown : FnScope law_grown_N ["_law_purse_here", "_law_blocks", "_law_most"] (defScope s_law_grown) := ⟨rfl, rfl, rfl, by decide +kernel, rfl, by decide +kernel, by decide +kernel⟩
theorem m_law_grown : d_law_grown ∈ fn := List.mem_of_getElem? (i := 28) rfl
abbrev law_links_N : List Str := ["_law_purse_here", "_law_blocks", "_law_most", "_law_k"]
theorem sc_law_links : FnScope law_links_N ["_law_purse_here", "_law_blocks", "_law_most"] (defScope s_law_links) := ⟨rfl, rfl, rfl, by decide +kernel, rfl, by decide +kernel, by decide +kernel⟩
theorem m_law_links : d_law_links ∈ fn := List.mem_of_getElem? (i := 29) rfl
structure Gw (G G3 : Hp) (n m : Nat) (hp tp : Addr) (xs ys : List V) : Prop where
  same : Same G G3
  nh : G hp = none
  nt : G tp = none
  ne : hp ≠ tp
  hh : G3 hp = some (.lst xs)
  ht : G3 tp = some (.lst ys)
  lh : ∀ x ∈ xs, LkV G3 n x
  lt : ∀ x ∈ ys, LkV G3 n x
  len : xs.length + ys.length ≤ m
section
variable {G G3 G4 : Hp} {n m m' : Nat} {hp tp : Addr} {xs ys zs : List V} {x : V}
theorem Gw.step (T : Gw G G3 n m hp tp xs ys) (S : Same G3 G4) : Gw G G4 n m hp tp xs ys :=
  ⟨T.same.trans S, T.nh, T.nt, T.ne, S _ _ T.hh, S _ _ T.ht, fun x hx => (T.lh x hx).to S, fun x hx => (T.lt x hx).to S, T.len⟩
theorem Gw.mono (T : Gw G G3 n m hp tp xs ys) (h : m ≤ m') : Gw G G3 n m' hp tp xs ys := ⟨T.same, T.nh, T.nt, T.ne, T.hh, T.ht, T.lh, T.lt, Nat.le_trans T.len h⟩
theorem Gw.exact (T : Gw G G3 n m hp tp xs ys) (h : xs.length + ys.length ≤ m') : Gw G G3 n m' hp tp xs ys := ⟨T.same, T.nh, T.nt, T.ne, T.hh, T.ht, T.lh, T.lt, h⟩
theorem Gw.setH (T : Gw G G3 n m hp tp xs ys) (h : ∀ x ∈ zs, LkV G3 n x) (hl : zs.length + ys.length ≤ m') : Gw G (upd G3 hp (.lst zs)) n m' hp tp zs ys :=
  ⟨T.same.mut T.nh, T.nh, T.nt, T.ne, upd_same, by rw [upd_ne T.ne.symm]; exact T.ht, fun x hx => (h x hx).put T.hh, fun x hx => (T.lt x hx).put T.hh, hl⟩
theorem Gw.setT (T : Gw G G3 n m hp tp xs ys) (h : ∀ x ∈ zs, LkV G3 n x) (hl : xs.length + zs.length ≤ m') : Gw G (upd G3 tp (.lst zs)) n m' hp tp xs zs :=
  ⟨T.same.mut T.nt, T.nh, T.nt, T.ne, by rw [upd_ne T.ne]; exact T.hh, upd_same, fun x hx => (T.lh x hx).put T.ht, fun x hx => (h x hx).put T.ht, hl⟩
end
theorem mem_snoc {α : Type} {P : α → Prop} {xs : List α} {y : α} (h : ∀ x ∈ xs, P x) (hy : P y) : ∀ x ∈ xs ++ [y], P x := fun x hx => by
  rcases List.mem_append.mp hx with hx | hx
  · exact h x hx
  · rw [List.mem_singleton.mp hx]
    exact hy
def spGrown : Sp := fun vs H Q _ => ∃ (p g : Addr) (G : Hp) (n m : Nat), vs = [.ref p, .int (n : Int), .int (m : Int)] ∧ 2 ≤ n ∧ n ≤ 100 ∧ m ≤ 100 ∧ Purse p g G H ∧
  ∀ q G' H' xs, Same G G' → Purse p g G' H' → G' q = some (.lst xs) → (∀ x ∈ xs, LkV G' n x) → xs.length ≤ m → Q (.ref q) H'
def spLinks : Sp := fun vs H Q _ => ∃ (p g : Addr) (G : Hp) (n m : Nat), vs = [.ref p, .int (n : Int), .int (m : Int)] ∧ 1 ≤ n ∧ n ≤ 100 ∧ m ≤ 100 ∧ Purse p g G H ∧
  ∀ q G' H' xs, Same G G' → Purse p g G' H' → G' q = some (.lst xs) → (∀ x ∈ xs, LkV G' n x) → xs.length ≤ m → Q (.ref q) H'
section
variable {P : Program} {w : World} {K : PySem.W.Frag} {mg : Str → Option Value} {base : Heap}
theorem ok_grown (T : Txt K mg) : Okd P w K mg base CX0 4 "_law_grown" ["_law_purse_here", "_law_blocks", "_law_most"] spGrown := by
  have c_law_take : Okd P w K mg base CX0 1 "_law_take" ["_law_purse_here", "_law_size"] spTake := ok_take T
  have c_law_turned : Okd P w K mg base CX0 2 "_law_turned" ["_law_purse_here", "_law_rows"] spTurned := ok_turned T
  have c_law_line : Okd P w K mg base CX0 2 "_law_line" ["_law_purse_here", "_law_blocks"] spLine := ok_line T
  have c_law_extra : Okd P w K mg base CX0 2 "_law_extra" ["_law_purse_here", "_law_tree", "_law_ways"] spExtra := ok_extra T
  have c_law_trees : Okd P w K mg base CX0 3 "_law_trees" ["_law_purse_here", "_law_blocks"] spTrees := ok_trees T
  refine okd0 (st := s_law_grown) T m_law_grown sc_law_grown (fun vs H Q E h => ?_) (fun _ _ _ _ _ _ us hl => match us, hl with | [_, _, _], _ => rfl) (fun f cdv A outer s H vs Q E hr h => ⟨_, (pss_cons (ps_set (i := 3) sc_law_grown.nd rfl (Or.inl rfl) (pe_cd c_law_trees hr (by decide) rfl (pa_cons (pv 0) (pa_cons (pv 1) pa_nil))))
  (pss_cons (ps_set (i := 4) sc_law_grown.nd rfl (Or.inl rfl) (pe_ix ix_list (pv 3) pe_int (fun _ _ => rfl)))
  (pss_cons (ps_set (i := 5) sc_law_grown.nd rfl (Or.inl rfl) (pe_slice sl_list (pe_ix ix_list (pv 3) pe_int (fun _ _ => rfl)) po_none (po_some (pv 2))))
  (pss_cons (ps_set (i := 6) sc_law_grown.nd rfl (Or.inl rfl) (pe_op op_mul (pe_cd c_law_take hr (by decide) rfl (pa_cons (pv 0) (pa_cons pe_int pa_nil))) (pe_cd c_law_take hr (by decide) rfl (pa_cons (pv 0) (pa_cons (pe_op op_add (pe_callB call_len_seq (by rfl) T.b_len PySem.boot_len (pa_cons (pv 5) pa_nil)) pe_int) pa_nil)))))
  (pss_cons (ps_set (i := 7) sc_law_grown.nd rfl (Or.inl rfl) (pe_slice sl_list (pv 5) po_none (po_some (pv 6))))
  (pss_cons (ps_set (i := 8) sc_law_grown.nd rfl (Or.inl rfl) (pe_slice sl_list (pv 5) (po_some (pv 6)) po_none))
  (Evl.pss_cut (ps_if (PW.pt (pw_and (pt_cmpR op_gt (pv 6) pe_int (nomark _)) (pw_and (pt_cmpR op_lt (pe_callB call_len_seq (by rfl) T.b_len PySem.boot_len (pa_cons (pv 5) pa_nil)) (pv 2) (nomark _)) (pw_and1 (pt_cmpR op_eq (pe_cd c_law_take hr (by decide) rfl (pa_cons (pv 0) (pa_cons pe_int pa_nil))) pe_int (nomark _))))))
    (pss_cons (ps_set (i := 9) sc_law_grown.nd rfl (Or.inl rfl) (pe_ix ix_list (pv 7) (pe_cd c_law_take hr (by decide) rfl (pa_cons (pv 0) (pa_cons (pv 6) pa_nil))) (fun _ _ => rfl)))
    (pss_one (ps_expr (pe_bm PySem.F.plainAttrs_list PySem.F.slot_list_append PySem.F.type_list_append mt_append (pv 7) (pa_cons (pe_tup (pa_cons (pe_ix ix_tup (pv 9) pe_int (fun _ _ => rfl)) (pa_cons (pe_ix ix_tup (pv 9) pe_int (fun _ _ => rfl)) pa_nil))) pa_nil)))))
    pss_nil)
  (pss_cons (ps_set (i := 10) sc_law_grown.nd rfl (Or.inl rfl) (pe_cd c_law_take hr (by decide) rfl (pa_cons (pv 0) (pa_cons pe_int pa_nil))))
  (pss_cons (ps_set (i := 11) sc_law_grown.nd rfl (Or.inl rfl) (pe_op op_fdiv (pe_op op_sub (pe_op op_sub (pv 2) (pe_callB call_len_seq (by rfl) T.b_len PySem.boot_len (pa_cons (pv 7) pa_nil))) (pe_callB call_len_seq (by rfl) T.b_len PySem.boot_len (pa_cons (pv 8) pa_nil))) (pe_op op_add pe_int (pe_cd c_law_take hr (by decide) rfl (pa_cons (pv 0) (pa_cons pe_int pa_nil))))))
  (pss_cons (ps_for PassesOwn.never rfl (pi_range1 (by rfl) T.b_range (pa_cons (pe_cd c_law_take hr (by decide) rfl (pa_cons (pv 0) (pa_cons (pe_op op_add (pv 11) pe_int) pa_nil))) pa_nil)) (pg_name (i := 12) sc_law_grown.nd rfl (Or.inl rfl))
    (pss_one (ps_if (pt_cmpR op_gt (pe_callB call_len_seq (by rfl) T.b_len PySem.boot_len (pa_cons (pv 4) pa_nil)) pe_int (nomark _))
      (pss_one (ps_expr (pe_bm PySem.F.plainAttrs_list PySem.F.slot_list_append PySem.F.type_list_append mt_append (pv 8) (pa_cons (pe_cd c_law_extra hr (by decide) rfl (pa_cons (pv 0) (pa_cons (pe_ix ix_list (pv 4) (pe_cd c_law_take hr (by decide) rfl (pa_cons (pv 0) (pa_cons (pe_callB call_len_seq (by rfl) T.b_len PySem.boot_len (pa_cons (pv 4) pa_nil)) pa_nil))) (fun _ _ => rfl)) (pa_cons (pv 10) pa_nil)))) pa_nil))))
      pss_nil)))
  (Evl.pss_cut (ps_if (PW.pt (pw_and (pt_cmpR op_lt (pe_op op_add (pe_callB call_len_seq (by rfl) T.b_len PySem.boot_len (pa_cons (pv 7) pa_nil)) (pe_callB call_len_seq (by rfl) T.b_len PySem.boot_len (pa_cons (pv 8) pa_nil))) (pv 2) (nomark _)) (pw_and1 (pt_cmpR op_eq (pe_cd c_law_take hr (by decide) rfl (pa_cons (pv 0) (pa_cons pe_int pa_nil))) pe_int (nomark _)))))
    (pss_one (ps_expr (pe_bm PySem.F.plainAttrs_list PySem.F.slot_list_insert PySem.F.type_list_insert mt_insert (pv 8) (pa_cons (pe_cd c_law_take hr (by decide) rfl (pa_cons (pv 0) (pa_cons (pe_op op_add (pe_callB call_len_seq (by rfl) T.b_len PySem.boot_len (pa_cons (pv 8) pa_nil)) pe_int) pa_nil))) (pa_cons (pe_cd c_law_line hr (by decide) rfl (pa_cons (pv 0) (pa_cons (pv 1) pa_nil))) pa_nil)))))
    pss_nil)
  (pss_cons (ps_set (i := 13) sc_law_grown.nd rfl (Or.inl rfl) (pe_cd c_law_take hr (by decide) rfl (pa_cons (pv 0) (pa_cons pe_int pa_nil))))
  (pss_cons (ps_if (pt_cmpR op_eq (pv 13) pe_int (nomark _))
    (pss_one (ps_ret (pe_op op_cat (pv 7) (pv 8))))
    pss_nil)
  (pss_cons (ps_if (pt_cmpR op_eq (pv 13) pe_int (nomark _))
    (pss_one (ps_ret (pe_op op_cat (pv 7) (pe_cd c_law_turned hr (by decide) rfl (pa_cons (pv 0) (pa_cons (pv 8) pa_nil))))))
    pss_nil)
  (pss_one (ps_ret (pe_op op_cat (pv 7) (pe_revL (pv 8))))))))))))))))))), ?_⟩)
  · obtain ⟨p, g, G, n, m, rfl, _⟩ := h
    rfl
  · obtain ⟨p, g, G, n, m, rfl, hn2, hn, hm, Pu, k⟩ := h
    refine ⟨_, rfl, _, rfl, p, g, G, n, rfl, by omega, by omega, Pu, fun dr G1 H1 ta la ts xs S1 P1 hdr hta hla hts htl hxs hxl => ?_⟩
    -- the two parts
    refine ⟨_, rfl, dr, _, _, _, rfl, rfl, SqL.of (P1.same _ _ hdr), at_cons0 _ _, ?_⟩
    refine ⟨_, rfl, dr, _, _, _, rfl, rfl, SqL.of (P1.same _ _ hdr), (atI_nat (j := 1) rfl), _, rfl, _, rfl, la, _, rfl, SqL.of (P1.same _ _ hla), fun li hli => ?_⟩
    rw [cut_take]
    have Gli := none_of P1.same hli
    have P2 := P1.new (o := .lst (xs.take m)) hli
    have S12 : Same G1 (upd G1 li (.lst (xs.take m))) := Same.new Gli
    have hli2 : upd G1 li (.lst (xs.take m)) li = some (.lst (xs.take m)) := upd_same
    have hys : ∀ x ∈ xs.take m, LkV (upd G1 li (.lst (xs.take m))) n x := fun x hx => (hxs x (List.mem_of_mem_take hx)).to S12
    have hyl : (xs.take m).length ≤ m := by rw [List.length_take]; omega
    generalize xs.take m = ys at P2 S12 hli2 hys hyl ⊢
    generalize upd G1 li (.lst ys) = G2 at P2 S12 hli2 hys
    generalize upd H1 li (.lst ys) = H2 at P2 ⊢
    -- the cut
    refine ⟨_, rfl, p, g, G2, 2, rfl, by omega, by omega, P2, fun a H3 ha P3 => ?_⟩
    have e1 : ((ys.length : Nat) : Int) + 1 = ((ys.length + 1 : Nat) : Int) := by omega
    refine ⟨_, rfl, _, rfl, li, _, rfl, .inl (SqL.of (P3.same _ _ hli2)), _, _, rfl, rfl, p, g, G2, ys.length + 1, (by rw [← e1]), by omega, by omega, P3, fun b H4 hb P4 => ?_⟩
    refine ⟨_, _, rfl, rfl, .inl ⟨by omega, by omega⟩, ?_⟩
    have ec : (a : Int) * (b : Int) = ((a * b : Nat) : Int) := by push_cast; rfl
    have hcl : a * b ≤ ys.length := by
      have : a = 0 ∨ a = 1 := by omega
      rcases this with e | e
      · rw [e, Nat.zero_mul]; omega
      · rw [e, Nat.one_mul]; omega
    have es : ∀ H Q, gName 6 (V.int ((a : Int) * (b : Int))) H Q = gName 6 (V.int ((a * b : Nat) : Int)) H Q := fun H Q => by rw [ec]
    show gName 6 (V.int ((a : Int) * (b : Int))) _ _ _
    rw [es]
    generalize a * b = c at hcl ⊢
    refine ⟨_, rfl, _, rfl, _, rfl, li, _, rfl, SqL.of (P4.same _ _ hli2), fun hp hhp => ?_⟩
    rw [cut_take]
    have P5 := P4.new (o := .lst (ys.take c)) hhp
    have Ghp := none_of P4.same hhp
    have hli5 : upd G2 hp (.lst (ys.take c)) li = some (.lst ys) := (Same.new Ghp) _ _ hli2
    refine ⟨_, rfl, _, rfl, _, rfl, li, _, rfl, SqL.of (P5.same _ _ hli5), fun tp htp => ?_⟩
    rw [cut_drop]
    have P6 := P5.new (o := .lst (ys.drop c)) htp
    have Gtp5 := none_of P5.same htp
    have hne : hp ≠ tp := ne_of_none upd_same Gtp5
    have Gtp : G2 tp = none := none_of (Same.new Ghp) Gtp5
    have S26 : Same G2 (upd (upd G2 hp (.lst (ys.take c))) tp (.lst (ys.drop c))) := (Same.new Ghp).to Gtp5
    have W0 : Gw G2 (upd (upd G2 hp (.lst (ys.take c))) tp (.lst (ys.drop c))) n m hp tp (ys.take c) (ys.drop c) :=
      ⟨S26, Ghp, Gtp, hne, by rw [upd_ne hne, upd_same], upd_same, fun x hx => (hys x (List.mem_of_mem_take hx)).to S26, fun x hx => (hys x (List.mem_of_mem_drop hx)).to S26, by rw [List.length_take, List.length_drop]; omega⟩
    have hsum : (ys.take c).length + (ys.drop c).length = ys.length := by rw [List.length_take, List.length_drop]; omega
    have hcl2 : (ys.take c).length = c := by rw [List.length_take]; omega
    generalize upd (upd G2 hp (.lst (ys.take c))) tp (.lst (ys.drop c)) = G6 at P6 W0 S26
    generalize upd (upd H4 hp (.lst (ys.take c))) tp (.lst (ys.drop c)) = H6 at P6 ⊢
    -- a first line turned around
    refine ⟨fun σ' H7 => ∃ v9 G7 us ws, σ' = [some (.ref p), some (.int n), some (.int m), some (.ref dr), some (.ref ta), some (.ref li), some (.int (c : Nat)), some (.ref hp), some (.ref tp), v9, none, none, none, none] ∧ Purse p g G7 H7 ∧ Gw G2 G7 n m hp tp us ws, ?_, ?_⟩
    · have stay : ∀ H7, Purse p g G6 H7 → ∃ v9 G7 us ws, [some (V.ref p), some (.int n), some (.int m), some (.ref dr), some (.ref ta), some (.ref li), some (.int (c : Nat)), some (.ref hp), some (.ref tp), none, none, none, none, none] = [some (.ref p), some (.int n), some (.int m), some (.ref dr), some (.ref ta), some (.ref li), some (.int (c : Nat)), some (.ref hp), some (.ref tp), v9, none, none, none, none] ∧ Purse p g G7 H7 ∧ Gw G2 G7 n m hp tp us ws := fun H7 P7 => ⟨_, G6, _, _, rfl, P7, W0⟩
      refine ⟨_, rfl, _, _, rfl, rfl, _, rfl, ?_⟩
      refine iteD (fun c0 => ?_) (fun _ => iteF (stay _ P6))
      refine ⟨_, rfl, li, _, rfl, .inl (SqL.of (P6.same _ _ (S26 _ _ hli2))), _, rfl, _, _, rfl, rfl, _, rfl, ?_⟩
      refine iteD (fun c1 => ?_) (fun _ => iteF (stay _ P6))
      refine ⟨_, rfl, p, g, G6, 2, rfl, by omega, by omega, P6, fun u H7 hu P7 => ⟨rfl, _, rfl, ?_⟩⟩
      refine iteI (fun c2 => ?_) (fun _ => stay _ P7)
      refine ⟨_, rfl, _, rfl, _, rfl, p, g, G6, c, rfl, by omega, by omega, P7, fun s H8 hs P8 => ?_⟩
      have hsl : s < (ys.take c).length := by omega
      obtain ⟨q, l, el, k1, k2, k3, k4⟩ := W0.lh (ys.take c)[s] (List.getElem_mem hsl)
      have at1 : atI (ys.take c) (s : Int) = some (.ref q) := atI_nat (by rw [List.getElem?_eq_getElem hsl, el])
      refine ⟨hp, _, _, _, rfl, rfl, SqL.of (P8.same _ _ W0.hh), at1, ?_⟩
      refine ⟨_, rfl, .inl ⟨rfl, _, SqL.of (P8.same _ _ W0.hh)⟩, _, rfl, q, _, _, _, rfl, rfl, SqT.of (P8.same _ _ k1), (atI_nat (j := 1) rfl), _, rfl, q, _, _, _, rfl, rfl, SqT.of (P8.same _ _ k1), at_cons0 _ _, (by show 2 ≤ sizeLine; decide), fun z hz => ?_⟩
      have Gz := none_of P8.same hz
      have P9 := P8.new (o := .tup [.int (l.2 : Nat), .int (l.1 : Nat)]) hz
      have W1 := W0.step (Same.new (o := .tup [.int (l.2 : Nat), .int (l.1 : Nat)]) Gz)
      have hz9 : LkV (upd G6 z (.tup [.int (l.2 : Nat), .int (l.1 : Nat)])) n (.ref z) := ⟨z, (l.2, l.1), rfl, upd_same, k3, k2, fun e => k4 e.symm⟩
      have W2 := W1.setH (m' := m) (mem_snoc W1.lh hz9) (by rw [List.length_append, List.length_singleton]; omega)
      exact ⟨hp, _, _, rfl, rfl, P9.same _ _ W1.hh, small_line (by omega), _, _, _, _, rfl, P9.put W1.hh, W2⟩
    · rintro σ' H7 ⟨v9, G7, us, ws, rfl, P7, W7⟩
      have hul := W7.len
      refine ⟨_, rfl, p, g, G7, 4, rfl, by omega, by omega, P7, fun wy H8 hwy P8 => ?_⟩
      refine ⟨_, rfl, _, rfl, hp, _, rfl, .inl (SqL.of (P8.same _ _ W7.hh)), _, _, rfl, rfl, _, rfl, tp, _, rfl, .inl (SqL.of (P8.same _ _ W7.ht)), _, _, rfl, rfl, _, rfl, p, g, G7, 3, rfl, by omega, by omega, P8, fun r H9 hr9 P9 => ?_⟩
      have er : ((m : Int) - (us.length : Int) - (ws.length : Int)) / ((1 : Int) + (r : Int)) = (((m - us.length - ws.length) / (1 + r) : Nat) : Int) := by
        rw [Int.natCast_ediv]
        congr 1
        · omega
      refine ⟨_, _, rfl, rfl, _, _, rfl, rfl, (by show (0 : Int) < 1 + (r : Int) ∧ (1 : Int) + (r : Int) < 1073741824; omega), ?_⟩
      have hro : (m - us.length - ws.length) / (1 + r) ≤ m - us.length - ws.length := Nat.div_le_self _ _
      have es : ∀ H Q, gName 11 (V.int (((m : Int) - (us.length : Int) - (ws.length : Int)) / ((1 : Int) + (r : Int)))) H Q = gName 11 (V.int (((m - us.length - ws.length) / (1 + r) : Nat) : Int)) H Q := fun H Q => by rw [er]
      show gName 11 (V.int (((m : Int) - (us.length : Int) - (ws.length : Int)) / ((1 : Int) + (r : Int)))) _ _ _
      rw [es]
      generalize (m - us.length - ws.length) / (1 + r) = ro at hro ⊢
      have e2 : (ro : Int) + 1 = ((ro + 1 : Nat) : Int) := by omega
      refine ⟨_, rfl, _, rfl, _, _, rfl, rfl, p, g, G7, ro + 1, (by show [V.ref p, V.int ((ro : Int) + 1)] = _; rw [e2]), by omega, by omega, P9, fun cnt H10 hcnt P10 => ?_⟩
      refine ⟨cnt, rfl, by omega, by omega, ?_⟩
      refine for_rng (n := cnt) (fun i σ H => (∃ v12, σ = [some (.ref p), some (.int n), some (.int m), some (.ref dr), some (.ref ta), some (.ref li), some (.int (c : Nat)), some (.ref hp), some (.ref tp), v9, some (.int (wy : Nat)), some (.int (ro : Nat)), v12, none]) ∧ ∃ G' ws', Purse p g G' H ∧ Gw G2 G' n (us.length + ws.length + i) hp tp us ws') ⟨⟨_, rfl⟩, G7, ws, P10, W7.exact (Nat.le_refl _)⟩ ?_ ?_
      · rintro i σ H11 hi ⟨⟨v12, rfl⟩, G11, ws', P11, W11⟩
        have hta11 := (S12.trans W11.same) _ _ hta
        refine ⟨_, rfl, ta, _, rfl, .inl (SqL.of (P11.same _ _ hta11)), _, _, rfl, rfl, _, rfl, ?_⟩
        refine iteD (fun c3 => ?_) (fun _ => ⟨⟨_, rfl⟩, G11, ws', P11, W11.mono (by omega)⟩)
        refine ⟨_, rfl, .inl ⟨rfl, _, SqL.of (P11.same _ _ W11.ht)⟩, _, rfl, _, rfl, _, rfl, _, rfl, ta, _, rfl, .inl (SqL.of (P11.same _ _ hta11)), p, g, G11, ts.length, rfl, by omega, by omega, P11, fun s H12 hs P12 => ?_⟩
        obtain ⟨t, L, el, k1, k2, k3, k4, k5⟩ := hts ts[s] (List.getElem_mem hs)
        have at1 : atI ts (s : Int) = some (.ref t) := atI_nat (by rw [List.getElem?_eq_getElem hs, el])
        refine ⟨ta, _, _, _, rfl, rfl, SqL.of (P12.same _ _ hta11), at1, _, rfl, p, g, t, _, G11, n, L, rfl, k2, by omega, k4, k5, (S12.trans W11.same) _ _ k1, P12, fun q G13 H13 S13 P13 hq => ?_⟩
        have W13 := W11.step S13
        have hwl := W13.len
        exact ⟨tp, _, _, rfl, rfl, P13.same _ _ W13.ht, small_line (by omega), ⟨_, rfl⟩, _, _, P13.put W13.ht, W13.setT (mem_snoc W13.lt hq) (by rw [List.length_append, List.length_singleton]; omega)⟩
      · rintro σ H11 ⟨⟨v12, rfl⟩, G11, ws', P11, W11⟩
        have W12 := W11.mono (show us.length + ws.length + cnt ≤ m by omega)
        have hwl := W12.len
        -- a line across
        refine ⟨fun σ' H12 => σ' = [some (.ref p), some (.int n), some (.int m), some (.ref dr), some (.ref ta), some (.ref li), some (.int (c : Nat)), some (.ref hp), some (.ref tp), v9, some (.int (wy : Nat)), some (.int (ro : Nat)), v12, none] ∧ ∃ G' ws', Purse p g G' H12 ∧ Gw G2 G' n m hp tp us ws', ?_, ?_⟩
        · refine ⟨_, rfl, hp, _, rfl, .inl (SqL.of (P11.same _ _ W12.hh)), _, rfl, tp, _, rfl, .inl (SqL.of (P11.same _ _ W12.ht)), _, _, rfl, rfl, _, rfl, _, _, rfl, rfl, _, rfl, ?_⟩
          refine iteD (fun c4 => ?_) (fun _ => iteF ⟨rfl, G11, ws', P11, W12⟩)
          refine ⟨_, rfl, p, g, G11, 2, rfl, by omega, by omega, P11, fun u H12 hu P12 => ⟨rfl, _, rfl, ?_⟩⟩
          refine iteI (fun c5 => ?_) (fun _ => ⟨rfl, G11, ws', P12, W12⟩)
          have e3 : (ws'.length : Int) + 1 = ((ws'.length + 1 : Nat) : Int) := by omega
          refine ⟨_, rfl, .inl ⟨rfl, _, SqL.of (P12.same _ _ W12.ht)⟩, _, rfl, _, rfl, tp, _, rfl, .inl (SqL.of (P12.same _ _ W12.ht)), _, _, rfl, rfl, p, g, G11, ws'.length + 1, (by rw [← e3]), by omega, by omega, P12, fun s H13 hs P13 => ?_⟩
          refine ⟨_, rfl, _, rfl, p, g, G11, n, rfl, hn2, hn, P13, fun q G14 H14 S14 P14 hq => ?_⟩
          have W14 := W12.step S14
          refine ⟨tp, _, _, _, rfl, rfl, P14.same _ _ W14.ht, small_line (by omega), by omega, by omega, rfl, _, _, P14.put W14.ht, W14.setT (fun x hx => ?_) ?_⟩
          · rcases List.mem_append.mp hx with hx | hx
            · exact mem_snoc (fun x hx => W14.lt x (List.mem_of_mem_take hx)) hq x hx
            · exact W14.lt x (List.mem_of_mem_drop hx)
          · simp only [List.length_append, List.length_take, List.length_drop, List.length_singleton]
            omega
        · rintro σ' H12 ⟨rfl, G12, zs, P12, W12⟩
          have hzl := W12.len
          have S01 : Same G G12 := (S1.trans S12).trans W12.same
          have fin : ∀ (G13 H13 : Hp) (rs : List V), Same G12 G13 → Purse p g G13 H13 → (∀ x ∈ rs, LkV G13 n x) → rs.length ≤ m → ∀ q, H13 q = none → Q (.ref q) (upd H13 q (.lst rs)) := fun G13 H13 rs S13 P13 hrs hrl q hq =>
            k q _ _ rs ((S01.trans S13).to (none_of P13.same hq)) (P13.new hq) upd_same (fun x hx => (hrs x hx).to (Same.new (none_of P13.same hq))) hrl
          refine ⟨_, rfl, p, g, G12, 4, rfl, by omega, by omega, P12, fun tu H13 htu P13 => ?_⟩
          refine ⟨_, rfl, rfl, _, rfl, ?_⟩
          refine iteI (fun _ => ?_) (fun _ => ?_)
          · refine ⟨_, rfl, _, rfl, hp, tp, _, _, rfl, rfl, P13.same _ _ W12.hh, P13.same _ _ W12.ht, small_le (by omega), fun q hq => ?_⟩
            exact fin G12 H13 _ (Same.refl _) P13 (fun x hx => (List.mem_append.mp hx).elim (W12.lh x) (W12.lt x)) (by rw [List.length_append]; exact hzl) q hq
          refine ⟨_, rfl, rfl, _, rfl, ?_⟩
          refine iteI (fun _ => ?_) (fun _ => ?_)
          · refine ⟨_, rfl, _, rfl, _, rfl, p, g, tp, G12, _, rfl, by omega, W12.ht, P13, fun r2 G14 H14 rs S14 _ P14 hr2 pm => ?_⟩
            refine ⟨hp, r2, _, _, rfl, rfl, P14.same _ _ (S14 _ _ W12.hh), P14.same _ _ hr2, small_le (by have := pm.length_eq; omega), fun q hq => ?_⟩
            exact fin G14 H14 _ S14 P14 (fun x hx => (List.mem_append.mp hx).elim (fun h => (W12.lh x h).to S14) (fun h => (W12.lt x (pm.mem_iff.mp h)).to S14)) (by rw [List.length_append, pm.length_eq]; exact hzl) q hq
          · refine ⟨_, rfl, _, rfl, tp, _, rfl, SqL.of (P13.same _ _ W12.ht), fun r2 hr2 => ?_⟩
            have G2n := none_of P13.same hr2
            have S14 : Same G12 (upd G12 r2 (.lst zs.reverse)) := Same.new G2n
            have P14 := P13.new (o := .lst zs.reverse) hr2
            refine ⟨hp, r2, _, _, rfl, rfl, P14.same _ _ (S14 _ _ W12.hh), P14.same _ _ upd_same, small_le (by rw [List.length_reverse]; omega), fun q hq => ?_⟩
            exact fin _ _ _ S14 P14 (fun x hx => (List.mem_append.mp hx).elim (fun h => (W12.lh x h).to S14) (fun h => (W12.lt x (List.mem_reverse.mp h)).to S14)) (by rw [List.length_append, List.length_reverse]; exact hzl) q hq
theorem ok_links (T : Txt K mg) : Okd P w K mg base CX0 5 "_law_links" ["_law_purse_here", "_law_blocks", "_law_most"] spLinks := by
  have c_law_take : Okd P w K mg base CX0 1 "_law_take" ["_law_purse_here", "_law_size"] spTake := ok_take T
  have c_law_line : Okd P w K mg base CX0 2 "_law_line" ["_law_purse_here", "_law_blocks"] spLine := ok_line T
  have c_law_grown : Okd P w K mg base CX0 4 "_law_grown" ["_law_purse_here", "_law_blocks", "_law_most"] spGrown := ok_grown T
  refine okd0 (st := s_law_links) T m_law_links sc_law_links (fun vs H Q E h => ?_) (fun _ _ _ _ _ _ us hl => match us, hl with | [_, _, _], _ => rfl) (fun f cdv A outer s H vs Q E hr h => ⟨_, (pss_cons (ps_if (pt_cmpR op_eq (pv 1) pe_int (nomark _))
    (pss_one (ps_ret (pe_lst pa_nil)))
    pss_nil)
  (pss_cons (ps_if (pt_cmpR op_eq (pe_cd c_law_take hr (by decide) rfl (pa_cons (pv 0) (pa_cons pe_int pa_nil))) pe_int (nomark _))
    (pss_one (ps_ret (pe_lc (own := [("_law_k", 3)]) (g := (gName 3)) (tt := tYes) rfl sc_law_links.nd (pi_range1 (by rfl) T.b_range (pa_cons (pe_cd c_law_take hr (by decide) rfl (pa_cons (pv 0) (pa_cons (pe_op op_add (pv 2) pe_int) pa_nil))) pa_nil)) (blkOk_by (N := law_links_N) (sc := defScope s_law_links) (by decide +kernel)) (fun _ _ _ _ _ => (pg_name (i := 3) sc_law_links.nd rfl (Or.inl rfl))) (fun _ _ _ _ _ => pts_nil) (fun _ _ _ _ _ => (pe_cd c_law_line hr (by decide) rfl (pa_cons (pv 0) (pa_cons (pv 1) pa_nil)))))))
    pss_nil)
  (pss_one (ps_ret (pe_cd c_law_grown hr (by decide) rfl (pa_cons (pv 0) (pa_cons (pv 1) (pa_cons (pv 2) pa_nil)))))))), ?_⟩)
  · obtain ⟨p, g, G, n, m, rfl, _⟩ := h
    rfl
  · obtain ⟨p, g, G, n, m, rfl, hn1, hn, hm, Pu, k⟩ := h
    refine ⟨_, rfl, rfl, _, rfl, ?_⟩
    refine iteI (fun _ => ?_) (fun c => ?_)
    · refine ⟨Nat.zero_le _, fun q hq => ?_⟩
      exact k q _ _ [] (Same.new (none_of Pu.same hq)) (Pu.new hq) upd_same (fun _ h => by cases h) (Nat.zero_le _)
    have hn2 : 2 ≤ n := by omega
    refine ⟨_, rfl, p, g, G, 4, rfl, by omega, by omega, Pu, fun r H1 hr1 P1 => ⟨rfl, _, rfl, ?_⟩⟩
    refine iteI (fun _ => ?_) (fun c => ?_)
    · have e1 : (m : Int) + 1 = ((m + 1 : Nat) : Int) := by omega
      refine ⟨_, rfl, _, rfl, _, _, rfl, rfl, p, g, G, m + 1, (by show [V.ref p, V.int ((m : Int) + 1)] = _; rw [e1]), by omega, by omega, P1, fun cnt H2 hc P2 => ?_⟩
      refine ⟨cnt, rfl, by omega, by omega, fun d hd => ?_⟩
      have Gd := none_of P2.same hd
      refine lc_rng (n := cnt) (fun i H3 => ∃ G3 xs, Same G G3 ∧ Purse p g G3 H3 ∧ G3 d = some (.lst xs) ∧ (∀ x ∈ xs, LkV G3 n x) ∧ xs.length = i) ⟨_, [], Same.new Gd, P2.new hd, upd_same, (fun _ h => by cases h), rfl⟩ ?_ ?_
      · rintro i H3 hi ⟨G3, xs, S3, P3, hd3, hxs, hxl⟩
        refine ⟨rfl, _, rfl, _, rfl, p, g, G3, n, rfl, hn2, hn, P3, fun q G4 H4 S4 P4 hq => ?_⟩
        have hd4 := S4 _ _ hd3
        refine ⟨xs, P4.same _ _ hd4, small_line (by omega), _, _, (S3.trans S4).mut Gd, P4.put hd4, upd_same, fun x hx => ?_, by rw [List.length_append, List.length_singleton, hxl]⟩
        exact (mem_snoc (fun x hx => (hxs x hx).to S4) hq x hx).put hd4
      · rintro H3 ⟨G3, xs, S3, P3, hd3, hxs, hxl⟩
        exact k d G3 H3 xs S3 P3 hd3 hxs (by omega)
    · exact ⟨_, rfl, _, rfl, _, rfl, p, g, G, n, m, rfl, hn2, hn, hm, P1, k⟩
end
end Rw
/-! ## FPurse -/
namespace Rw
open PySem PySem.Spec PyProof.Rows L2
abbrev law_purse_N : List Str := ["_law_script", "_law_seed", "_law_cell"]
theorem sc_law_purse : FnScope law_purse_N ["_law_script"] (defScope s_law_purse) := ⟨rfl, rfl, rfl, by decide +kernel, rfl, by decide +kernel, by decide +kernel⟩
theorem m_law_purse : d_law_purse ∈ fn := List.mem_of_getElem? (i := 22) rfl
def spPurse (K : PySem.W.Frag) : Sp := fun vs H Q _ => ∃ (a : Addr) (ns : List Int), vs = [.ref a] ∧ SqL K H a (ns.map V.int) ∧ ns.length ≤ 63 ∧ ∀ p g H', Purse p g H H' → Q (.ref p) H'
section
variable {P : Program} {w : World} {K : PySem.W.Frag} {mg : Str → Option Value} {base : Heap}
theorem ok_purse (T : Txt K mg) : Okd P w K mg base CX0 1 "_law_purse" ["_law_script"] (spPurse K) := by
  refine okd0 (st := s_law_purse) T m_law_purse sc_law_purse (fun vs H Q E h => ?_) (fun _ _ _ _ _ _ us hl => match us, hl with | [_], _ => rfl) (fun f cdv A outer s H vs Q E hr h => ⟨_, (pss_cons (ps_set (i := 1) sc_law_purse.nd rfl (Or.inl rfl) (pe_op op_add pe_int (pe_callB call_len_seq (by rfl) T.b_len PySem.boot_len (pa_cons (pv 0) pa_nil))))
  (pss_cons (ps_for PassesOwn.never rfl (pi_list (pv 0)) (pg_name (i := 2) sc_law_purse.nd rfl (Or.inl rfl))
    (pss_one (ps_set (i := 1) sc_law_purse.nd rfl (Or.inl rfl) (pe_op op_mod (pe_callTy call_int1 (by rfl) T.b_int (by decide +kernel) (pa_cons (pe_op op_add (pe_op op_mul (pv 1) pe_int) (pv 2)) pa_nil)) pe_int))))
  (pss_one (ps_ret (pe_lst (pa_cons (pe_lc (own := [("_law_cell", 2)]) (g := (gName 2)) rfl sc_law_purse.nd (pi_list (pv 0)) (blkOk_by (N := law_purse_N) (sc := defScope s_law_purse) (by decide +kernel)) (fun _ _ _ _ _ => (pg_name (i := 2) sc_law_purse.nd rfl (Or.inl rfl))) (fun _ _ _ _ _ => (pts_one (pt_cmpR op_ge (pv 2) (pe_op op_pow pe_int pe_int) (nomark _)))) (fun _ _ _ _ _ => (pv 2))) (pa_cons pe_int (pa_cons pe_int (pa_cons (pv 1) pa_nil))))))))), ?_⟩)
  · obtain ⟨a, ns, rfl, _⟩ := h
    rfl
  · obtain ⟨a, ns, rfl, hS, hl, k⟩ := h
    refine ⟨_, rfl, a, _, rfl, .inl hS, _, _, rfl, rfl, ?_⟩
    refine ⟨_, rfl, a, rfl, ⟨_, hS⟩, for_list (K := K) (a := a) (xs := ns.map V.int) (fun i σ H' => H' = H ∧ ∃ (d : Int) (v : Option V), σ = [some (.ref a), some (.int d), v] ∧ 0 ≤ d ∧ d < 2147483647) ?_ ?_ ?_ ?_⟩
    · refine ⟨rfl, 7919 + (ns.map V.int).length, none, rfl, by omega, ?_⟩
      rw [List.length_map]
      omega
    · rintro i σ H' _ ⟨rfl, _⟩
      exact hS
    · rintro i x σ H' hx ⟨rfl, d, v, rfl, h1, h2⟩
      obtain ⟨n, _, rfl⟩ := get_map hx
      refine ⟨_, rfl, _, _, rfl, rfl, .inr ⟨by decide, by decide⟩, _, rfl, _, _, rfl, rfl, .inl ⟨_, rfl, _, _, rfl, rfl, (by show (0 : Int) < 2147483629; decide), ?_⟩⟩
      exact ⟨rfl, _, _, rfl, Int.emod_nonneg _ (by decide), Int.lt_trans (Int.emod_lt_of_pos _ (by decide)) (by decide)⟩
    · rintro σ H' ⟨rfl, d, v, rfl, h1, h2⟩
      refine ⟨_, rfl, a, rfl, ⟨_, hS⟩, fun g hg => ?_⟩
      refine lc_list (K := K) (a := a) (xs := ns.map V.int) (fun i H1 => Same H' H1 ∧ ∃ ms : List Int, H1 g = some (.lst (ms.map V.int)) ∧ ms.length ≤ i ∧ ∀ y ∈ ms, 0 ≤ y) ⟨.new hg, [], upd_same, Nat.le_refl _, fun _ h => nomatch h⟩ (fun i H1 _ q => q.1.seq hS) ?_ ?_
      · rintro i x H1 hx ⟨S, ms, hm, hl2, hnn⟩
        obtain ⟨n, hn, rfl⟩ := get_map hx
        have hi := get_lt hn
        refine ⟨rfl, _, rfl, _, _, rfl, rfl, ⟨by decide, by decide, by decide⟩, _, _, rfl, rfl, _, rfl, ?_⟩
        refine iteD (fun c => ?_) (fun c => ⟨S, ms, hm, by omega, hnn⟩)
        refine ⟨_, rfl, _, hm, Nat.lt_of_le_of_lt (by rw [List.length_map]; omega) (show 100 < sizeLine by decide), S.mut hg, ms ++ [n], ?_, ?_, ?_⟩
        · rw [upd_same, List.map_append]
          rfl
        · rw [List.length_append, List.length_singleton]
          omega
        · intro y hy
          rcases List.mem_append.mp hy with hy | hy
          · exact hnn y hy
          · rw [List.mem_singleton.mp hy]
            exact Int.le_trans (by decide) c
      · rintro H1 ⟨S, ms, hm, hl2, hnn⟩
        refine ⟨_, rfl, (by show 4 ≤ sizeLine; decide), fun p hp => k p g _ ⟨S.to hp, S.free hp, hg, ?_, ms, 0, 0, d, upd_same, ?_, hnn, by decide, h1, h2⟩⟩
        · exact (ne_of_none hm hp).symm
        · rw [upd_ne (ne_of_none hm hp)]
          exact hm
end
end Rw
/-! ## FLaw -/
namespace Rw
open PySem PySem.Spec PyProof.Rows L2
abbrev law_N : List Str := ["_law_script", "_law_purse_here", "_law_odd_here", "_law_great", "_law_blocks", "_law_most", "_law_links_here", "_law_log", "_law_kept", "_law_lots", "_law_due", "_law_missing", "_law_fewest_here", "_law_told", "_law_longer_here", "_law_bad", "_law_ask", "_law_link", "_law_block", "_law_mask"]
theorem sc_law : FnScope law_N ["_law_script"] (defScope s_law) := ⟨rfl, rfl, rfl, by decide +kernel, rfl, by decide +kernel, by decide +kernel⟩
theorem m_law : d_law ∈ fn := List.mem_of_getElem? (i := 50) rfl
def spLaw (K : PySem.W.Frag) : Sp := fun vs H Q _ => ∃ (a : Addr) (ns : List Int), vs = [.ref a] ∧ SqL K H a (ns.map V.int) ∧ ns.length ≤ 63 ∧ ∀ H', Q (.bl true) H'
/-- what _law_repeated told -/
def Told (n : Nat) (ls : List Lk) (r : Addr) (H : Hp) : Prop :=
  (∃ (q : Addr) (W : List Int) (od : List Nat), noFree (svL n ls) n = [] ∧ LastW n ls W ∧ Rd.Ord n ls od ∧ H r = some (.lst [.int 0, .ref q]) ∧ H q = some (.lst (((od.filter (Rd.multi n (Rd.late n ls))).map (Rd.gI W)).map V.int))) ∨
  (∃ b0 : Nat, (noFree (svL n ls) n).take 1 = [b0] ∧ noFree (svL n ls) n ≠ [] ∧ H r = some (.lst [.int 1, .int (b0 : Int)]))
section
variable {P : Program} {w : World} {K : PySem.W.Frag} {mg : Str → Option Value} {base : Heap}
theorem body_law (T : Txt K mg) (TE : Errs P K mg) (cdv : Value) (t : Shared) (H : Hp) (vs : List V) (Q : VK) (E : XK) (hr : Room 15 (callerA.deeper (envOfC "law" (defScope s_law) t.heap.objs.size (He.ga K "law") cdv))) (h : spLaw K vs H Q E) :
    ∃ r, PSs (cxOf CX0 P w K mg base law_N "law" (defScope s_law) (He.ga K "law") cdv callerA [] t H E).nox (defBody s_law) r ∧ r { nx := fun _ G' => Q .non G', rt := Q } (start law_N vs) H := by
  have c_law_purse : Okd P w K mg base CX0 1 "_law_purse" ["_law_script"] (spPurse K) := ok_purse T
  have c_law_take : Okd P w K mg base CX0 1 "_law_take" ["_law_purse_here", "_law_size"] spTake := ok_take T
  have c_law_links : Okd P w K mg base CX0 5 "_law_links" ["_law_purse_here", "_law_blocks", "_law_most"] spLinks := ok_links T
  have c_law_late : Okd P w K mg base CX0 2 "_law_late" ["_law_links_here", "_law_blocks"] spLate := ok_late T
  have c_law_settled : Okd P w K mg base CX0 2 "_law_settled" ["_law_links_here", "_law_lots", "_law_blocks"] spLSettled := ok_lsettled T
  have c_law_fewest : Okd P w K mg base CX0 3 "_law_fewest" ["_law_links_here", "_law_lots", "_law_blocks"] spFewest := ok_fewest T
  have c_law_single : Okd P w K mg base CX0 1 "_law_single" ["_law_lot", "_law_blocks"] spSingle := ok_single T
  have c_law_repeated : Okd P w K mg base CX0 10 "_law_repeated" ["_law_log", "_law_blocks"] spRepeated := ok_repeated T TE
  have c_law_same : Okd P w K mg base CX0 4 "_law_same" ["_law_told", "_law_due"] (spSame 3) := ok_same T 3
  have c_settled : Okd P w K mg base (L2.CX P w) 9 "settled" ["script", "blocks"] (spSettled2 K) := ok_settled2 T TE
  have c_law_longer : Okd P w K mg base CX0 1 "_law_longer" ["_law_told", "_law_links_here", "_law_count"] spLonger := ok_longer T
  have c_law_holds : Okd P w K mg base CX0 11 "_law_holds" ["_law_longer_here", "_law_blocks", "_law_due"] spHolds := ok_holds T TE
  have c_law_ends : Okd P w K mg base CX0 3 "_law_ends" ["_law_links_here", "_law_blocks"] spEnds := ok_ends T
  have c_law_odd : Okd P w K mg base CX0 4 "_law_odd" ["_law_purse_here", "_law_links_here", "_law_blocks"] spOdd := ok_odd T
  have c_law_refusal : Okd P w K mg base CX0 10 "_law_refusal" ["_law_ask", "_law_script", "_law_blocks"] (spRefusal K) := ok_refusal T TE
  have hu := hr.units
  have hg : (callerA.deeper (envOfC "law" (defScope s_law) t.heap.objs.size (He.ga K "law") cdv)).guards = some [] := rfl
  refine ⟨_, (pss_cons (ps_set (i := 1) sc_law.nd rfl (Or.inl rfl) (pe_cd c_law_purse hr (by decide) rfl (pa_cons (pv 0) pa_nil)))
  (pss_cons (ps_set (i := 2) sc_law.nd rfl (Or.inl rfl) (pe_cd c_law_take hr (by decide) rfl (pa_cons (pv 1) (pa_cons pe_int pa_nil))))
  (pss_cons (ps_set (i := 3) sc_law.nd rfl (Or.inl rfl) (pe_cd c_law_take hr (by decide) rfl (pa_cons (pv 1) (pa_cons pe_int pa_nil))))
  (pss_cons (ps_set (i := 4) sc_law.nd rfl (Or.inr rfl) (pe_op op_add pe_int (pe_callB (call_max2 rfl) (by rfl) T.b_max (by decide +kernel) (pa_cons (pe_cd c_law_take hr (by decide) rfl (pa_cons (pv 1) (pa_cons pe_int pa_nil))) (pa_cons (pe_cd c_law_take hr (by decide) rfl (pa_cons (pv 1) (pa_cons pe_int pa_nil))) pa_nil)))))
  (pss_cons (ps_set (i := 5) sc_law.nd rfl (Or.inl rfl) pe_int)
  (Evl.pss_cut (ps_if (pt_cmpR op_eq (pv 3) pe_int (nomark _))
    (pss_cons (ps_set (i := 4) sc_law.nd rfl (Or.inr rfl) (pe_op op_add pe_int (pe_cd c_law_take hr (by decide) rfl (pa_cons (pv 1) (pa_cons pe_int pa_nil)))))
    (pss_one (ps_set (i := 5) sc_law.nd rfl (Or.inl rfl) pe_int)))
    pss_nil)
  (pss_cons (ps_set (i := 6) sc_law.nd rfl (Or.inl rfl) (pe_cd c_law_links hr (by decide) rfl (pa_cons (pv 1) (pa_cons (pv 4) (pa_cons (pv 5) pa_nil)))))
  (pss_cons (ps_setLc (i := 7) (own := [("_law_link", 17)]) (g := (gName 17)) (tt := tYes) rfl sc_law.nd rfl rfl (sw_true rfl rfl rfl (by decide +kernel)) (pi_list (pv 6)) (blkOk_by (N := law_N) (sc := defScope s_law) (by decide +kernel)) (fun _ _ _ _ _ => (pg_name (i := 17) sc_law.nd rfl (Or.inl rfl))) (fun _ _ _ _ _ => pts_nil) (fun _ _ _ _ _ => (pe_tup (pa_cons pe_str (pa_cons (pe_ix (r := rIxT K) ix_tup (pv 17) pe_int (fun _ _ => rfl)) (pa_cons (pe_ix (r := rIxT K) ix_tup (pv 17) pe_int (fun _ _ => rfl)) (pa_cons pe_str pa_nil)))))))
  (pss_cons (ps_set (i := 8) sc_law.nd rfl (Or.inl rfl) (pe_callB (cr_reprD hu hg) (by rfl) T.b_repr (by decide +kernel) (pa_cons (pv 7) pa_nil)))
  (pss_cons (ps_set (i := 9) sc_law.nd rfl (Or.inl rfl) (pe_cd c_law_late hr (by decide) rfl (pa_cons (pv 6) (pa_cons (pv 4) pa_nil))))
  (pss_cons (ps_set (i := 10) sc_law.nd rfl (Or.inr rfl) (pe_cd c_law_settled hr (by decide) rfl (pa_cons (pv 6) (pa_cons (pv 9) (pa_cons (pv 4) pa_nil)))))
  (pss_cons (ps_setLc (i := 11) (own := [("_law_block", 18)]) (g := (gName 18)) rfl sc_law.nd rfl rfl (sw_true rfl rfl rfl (by decide +kernel)) (pi_range1 (by rfl) T.b_range (pa_cons (pv 4) pa_nil)) (blkOk_by (N := law_N) (sc := defScope s_law) (by decide +kernel)) (fun _ _ _ _ _ => (pg_name (i := 18) sc_law.nd rfl (Or.inl rfl))) (fun _ _ _ _ _ => (pts_one (pt_cmpR op_eq (pe_ix (r := rIxT K) ix_tup (pv 10) (pv 18) (fun _ _ => rfl)) (pe_un un_neg pe_int) (nomark _)))) (fun _ _ _ _ _ => (pv 18)))
  (pss_cons (ps_set (i := 12) sc_law.nd rfl (Or.inl rfl) (pe_un un_neg pe_int))
  (Evl.pss_cut (ps_if (pt_cmpR op_gt (pv 3) pe_int (nomark _))
    (pss_one (ps_set (i := 12) sc_law.nd rfl (Or.inl rfl) (pe_cd c_law_fewest hr (by decide) rfl (pa_cons (pv 6) (pa_cons (pv 9) (pa_cons (pv 4) pa_nil))))))
    (pss_one (ps_if (pt_cmpR op_eq (pe_callB call_len_seq (by rfl) T.b_len PySem.boot_len (pa_cons (pv 11) pa_nil)) pe_int (nomark _))
      (pss_one (ps_set (i := 12) sc_law.nd rfl (Or.inl rfl) (pe_callB call_len_seq (by rfl) T.b_len PySem.boot_len (pa_cons (pe_lc (own := [("_law_mask", 19)]) (g := (gName 19)) rfl sc_law.nd (pi_list (pv 9)) (blkOk_by (N := law_N) (sc := defScope s_law) (by decide +kernel)) (fun _ _ _ _ _ => (pg_name (i := 19) sc_law.nd rfl (Or.inl rfl))) (fun _ _ _ _ _ => (pts_one (pt_cmpR op_eq (pe_cd c_law_single hr (by decide) rfl (pa_cons (pv 19) (pa_cons (pv 4) pa_nil))) (pe_un un_neg pe_int) (nomark _)))) (fun _ _ _ _ _ => (pv 19))) pa_nil))))
      pss_nil)))
  (Evl.pss_cut (ps_set (i := 13) sc_law.nd rfl (Or.inl rfl) (pe_cd c_law_repeated hr (by decide) rfl (pa_cons (pv 7) (pa_cons (pv 4) pa_nil))))
  (pss_cons (ps_if (PW.pt (pw_or (pt_not (pt_val (pe_cd c_law_same hr (by decide) rfl (pa_cons (pe_cdN c_settled hr (by decide) rfl (pa_cons (pv 7) (pa_cons (pv 4) pa_nil))) (pa_cons (pv 10) pa_nil))))) (pw_or1 (pt_cmpR op_ne (pe_callB (cr_reprD hu hg) (by rfl) T.b_repr (by decide +kernel) (pa_cons (pv 7) pa_nil)) (pv 8) (nomark _)))))
    (pss_one (ps_ret pe_bl))
    pss_nil)
  (Evl.pss_cut (ps_if (pt_cmpR op_lt (pv 12) pe_int (nomark _))
    (pss_one (ps_if (PW.pt (pw_or (pt_cmpR op_ne (pe_ix ix_list (pv 13) pe_int (fun _ _ => rfl)) pe_int (nomark _)) (pw_or1 (pt_not (pt_val (pe_cd c_law_same hr (by decide) rfl (pa_cons (pe_lst (pa_cons (pe_ix ix_list (pv 13) pe_int (fun _ _ => rfl)) pa_nil)) (pa_cons (pe_slice sl_list (pv 11) po_none (po_some pe_int)) pa_nil))))))))
      (pss_one (ps_ret pe_bl))
      pss_nil))
    (pss_cons (ps_set (i := 14) sc_law.nd rfl (Or.inl rfl) (pe_cd c_law_longer hr (by decide) rfl (pa_cons (pe_ix ix_list (pv 13) pe_int (fun _ _ => rfl)) (pa_cons (pv 6) (pa_cons (pv 12) pa_nil)))))
    (pss_cons (ps_if (PW.pt (pw_or (pt_cmpR op_ne (pe_ix ix_list (pv 13) pe_int (fun _ _ => rfl)) pe_int (nomark _)) (pw_or (pt_cmpR op_isN (pv 14) pe_non (nomark _)) (pw_or (pt_cmpR op_gt (pe_callB call_len_seq (by rfl) T.b_len PySem.boot_len (pa_cons (pv 11) pa_nil)) pe_int (nomark _)) (pw_or1 (pt_not (pt_val (pe_cd c_law_holds hr (by decide) rfl (pa_cons (pv 14) (pa_cons (pv 4) (pa_cons (pv 10) pa_nil)))))))))))
      (pss_one (ps_ret pe_bl))
      pss_nil)
    (pss_one (ps_if (PW.pt (pw_and (pt_cmpR op_lt (pv 4) pe_int (nomark _)) (pw_and (pt_cmpR op_lt (pe_callB call_len_seq (by rfl) T.b_len PySem.boot_len (pa_cons (pv 6) pa_nil)) pe_int (nomark _)) (pw_and1 (pt_cmpR (op_neD hu) (pe_cd c_law_ends hr (by decide) rfl (pa_cons (pv 14) (pa_cons (pv 4) pa_nil))) (pe_lst (pa_cons (pv 10) pa_nil)) (nomark _))))))
      (pss_one (ps_ret pe_bl))
      pss_nil)))))
  (pss_cons (ps_if (pt_cmpR op_gt (pv 2) pe_int (nomark _))
    (pss_one (ps_ret pe_bl))
    pss_nil)
  (pss_cons (ps_set (i := 15) sc_law.nd rfl (Or.inl rfl) (pe_cd c_law_odd hr (by decide) rfl (pa_cons (pv 1) (pa_cons (pv 6) (pa_cons (pv 4) pa_nil)))))
  (Evl.pss_cut (ps_set (i := 8) sc_law.nd rfl (Or.inl rfl) (pe_callB (cr_reprD hu hg) (by rfl) T.b_repr (by decide +kernel) (pa_cons (pe_ix ix_list (pv 15) pe_int (fun _ _ => rfl)) pa_nil)))
  (pss_cons (ps_for PassesOwn.never rfl (pi_tup (pe_tup (pa_cons (pe_glob (v := .ref (He.ga K "settled")) rfl (T.globs _ m_settled) rfl) (pa_cons (pe_glob (v := .ref (He.ga K "repeats")) rfl (T.globs _ m_repeats) rfl) pa_nil)))) (pg_name (i := 16) sc_law.nd rfl (Or.inl rfl))
    (pss_one (ps_if (pt_not (pt_val (pe_cd c_law_same hr (by decide) rfl (pa_cons (pe_cd c_law_refusal hr (by decide) rfl (pa_cons (pv 16) (pa_cons (pe_ix ix_list (pv 15) pe_int (fun _ _ => rfl)) (pa_cons (pv 4) pa_nil)))) (pa_cons (pe_tup (pa_cons (pe_ix ix_list (pv 15) pe_int (fun _ _ => rfl)) (pa_cons (pe_ix ix_list (pv 15) pe_int (fun _ _ => rfl)) pa_nil))) pa_nil)))))
      (pss_one (ps_ret pe_bl))
      pss_nil)))
  (pss_one (ps_ret (pe_cmpR op_eq (pe_callB (cr_reprD hu hg) (by rfl) T.b_repr (by decide +kernel) (pa_cons (pe_ix ix_list (pv 15) pe_int (fun _ _ => rfl)) pa_nil)) (pv 8) (nomark _))))))))))))))))))))))))), ?_⟩
  obtain ⟨a, ns, rfl, hs, hl, k⟩ := h
  refine ⟨_, rfl, a, ns, rfl, hs, hl, fun p g H1 P1 => ?_⟩
  refine ⟨_, rfl, p, g, _, 4, rfl, by omega, by omega, P1, fun od H2 hod P2 => ?_⟩
  refine ⟨_, rfl, p, g, _, 5, rfl, by omega, by omega, P2, fun gr H3 hgr P3 => ?_⟩
  refine ⟨_, rfl, p, g, _, 4, rfl, by omega, by omega, P3, fun x1 H4 hx1 P4 => ?_⟩
  refine ⟨_, rfl, p, g, _, 4, rfl, by omega, by omega, P4, fun x2 H5 hx2 P5 => ?_⟩
  refine ⟨_, _, rfl, _, _, rfl, rfl, ?_⟩
  refine ⟨fun σ H' => ∃ (n m : Nat), 1 ≤ n ∧ n ≤ 12 ∧ m ≤ 48 ∧ (gr ≠ 0 → n ≤ 5) ∧ σ = [some (.ref a), some (.ref p), some (.int (od : Nat)), some (.int (gr : Nat)), some (.int (n : Nat)), some (.int (m : Nat)), none, none, none, none, none, none, none, none, none, none, none, none, none, none] ∧ Purse p g H H', ?_, ?_⟩
  · refine ⟨_, rfl, rfl, _, rfl, ?_⟩
    refine iteI (fun c => ?_) (fun c => ?_)
    · refine ⟨_, rfl, p, g, _, 12, rfl, by omega, by omega, P5, fun y H6 hy P6 => ⟨_, _, rfl, rfl, ?_⟩⟩
      exact ⟨1 + y, 48, by omega, by omega, by omega, fun z => absurd (by omega) z, by rw [show ((1 + y : Nat) : Int) = (1 : Int) + (y : Int) by omega]; rfl, P6⟩
    · have e : (2 : Int) + (if (x2 : Int) > x1 then (x2 : Int) else x1) = ((2 + (if x2 > x1 then x2 else x1) : Nat) : Int) := by
        by_cases z : x2 > x1
        · rw [if_pos z, if_pos (by omega)]
          omega
        · rw [if_neg z, if_neg (by omega)]
          omega
      have e2 : (if x2 > x1 then x2 else x1) < 4 := by split <;> omega
      refine ⟨2 + (if x2 > x1 then x2 else x1), 8, by omega, by omega, by omega, fun _ => by omega, by rw [← e]; rfl, P5⟩
  rintro σ H6 ⟨n, m, hn1, hn, hm, hn5, rfl, P6⟩
  refine ⟨_, rfl, _, rfl, _, rfl, p, g, _, n, m, rfl, hn1, by omega, by omega, P6, fun q G7 H7 xs S7 P7 hq hx hxm => ?_⟩
  obtain ⟨ls, hdx, ho, hll⟩ := lkv_all hx
  have hdG : Dt G7 (.ref q) (lksD ls) := dt_list_at hq hdx
  have hd7 := hdG.to P7.same
  have hl48 : ls.length ≤ 48 := by omega
  clear hdx hx hq S7 P6 P5 P4 P3 P2 P1 hs
  obtain ⟨a1, xs1, e1, ha7, hxl, hdx7, hx7⟩ := lks_dt hd7
  cases e1
  refine ⟨_, rfl, q, rfl, ⟨_, SqL.of ha7⟩, fun e he => ?_⟩
  refine lc_list (K := K) (a := q) (xs := xs1) (fun i H3 => Same H7 H3 ∧ ∃ ys, H3 e = some (.lst ys) ∧ ys.length = i ∧ DtAll (wo H3 e) ys ((ls.take i).map lnD)) ⟨.new he, [], upd_same, rfl, .nil⟩ (fun i H3 _ z => SqL.of (z.1 _ _ ha7)) ?_ ?_
  · rintro i x H3 hxi ⟨S3, ys, h3, hyl, hys⟩
    obtain ⟨q1, l, rfl, hl, hq⟩ := hx7 i x hxi
    have hq3 := S3 _ _ hq
    have hi := get_lt hl
    refine ⟨rfl, _, rfl, q1, _, _, _, rfl, rfl, SqT.of hq3, rfl, _, rfl, q1, _, _, _, rfl, rfl, SqT.of hq3, rfl, (by show 4 ≤ sizeLine; decide), fun u hu => ?_⟩
    have hne : u ≠ e := fun z => by rw [z, h3] at hu; cases hu
    have S4 : Same H3 (upd H3 u (.tup [.str "copy", .int (l.1 : Nat), .int (l.2 : Nat), .str ""])) := .new hu
    refine ⟨ys, S4 _ _ h3, small_line (by omega), (S3.trans S4).mut he, _, upd_same, by rw [List.length_append, hyl]; rfl, ?_⟩
    rw [wo_upd, take_succ_get hl, List.map_append]
    exact (hys.to (wo_mono S4)).snoc (dt_ln (by rw [wo_ne hne]; exact upd_same))
  rintro H8 ⟨S8, ys, h8, hyl, hys⟩
  rw [hxl, List.take_of_length_le (Nat.le_refl _)] at hys
  have gl8 : GoodLog H8 (.ref e) n ls := ⟨hn1, hn, by omega, ho, .lst h8 (hys.to wo_same)⟩
  clear hys h8 hyl ha7 hdx7 hx7 hxl
  refine ⟨_, rfl, .inr ⟨e, logD ls, 1048576, 4, rfl, gl8.2.2.2.2, log_fine gl8, Nat.le_refl _, by decide, ?_⟩⟩
  have hd8 := hd7.to S8
  refine ⟨_, rfl, _, rfl, _, n, ls, rfl, by omega, by omega, ho, hd8, fun pl H9 S9 hpn hpl => ?_⟩
  have hlL := Rd.len_late n ls
  refine ⟨_, rfl, _, rfl, _, rfl, _, pl, n, ls, Rd.late n ls, rfl, by omega, by omega, ho, hd8.to S9, hlL, hpl, fun du H10 S10 hdu => ?_⟩
  have hdu : H10 du = some (.tup ((svL n ls).map V.int)) := hdu
  have hSl : (svL n ls).length = n := Rd.len_sv n ls _
  have hpl10 := S10 _ _ hpl
  have S710 := S8.trans (S9.trans S10)
  refine ⟨_, rfl, n, rfl, by omega, by omega, fun mi hmi => ?_⟩
  refine lc_rng (n := n) (fun i H3 => Same H10 H3 ∧ H3 mi = some (.lst (nV ((List.range i).filter fun b => decide (Rd.gI (svL n ls) b = -2))))) ⟨.new hmi, upd_same⟩ ?_ ?_
  · rintro i H3 hi ⟨S3, h3⟩
    refine ⟨rfl, _, rfl, _, rfl, du, _, _, _, rfl, rfl, SqT.of (S3 _ _ hdu), ints_atI (by omega), _, rfl, rfl, _, rfl, ?_⟩
    rw [filter_rng_succ]
    refine iteI (fun c => ?_) (fun c => ?_)
    · refine ⟨_, rfl, _, h3, small_line ?_, S3.mut hmi, ?_⟩
      · rw [nV_len]
        have := List.length_filter_le (fun b => decide (Rd.gI (svL n ls) b = -2)) (List.range i)
        rw [List.length_range] at this
        omega
      · rw [upd_same, nV_snoc, if_pos (decide_eq_true c)]
    · refine ⟨S3, ?_⟩
      rw [if_neg (by rw [decide_eq_false c]; exact Bool.false_ne_true), List.append_nil]
      exact h3
  rintro H11 ⟨S11, hmi11⟩
  have hmi11 : H11 mi = some (.lst (nV (noFree (svL n ls) n))) := hmi11
  refine ⟨_, rfl, ?_⟩
  have gl11 := gl8.to (S9.trans (S10.trans S11))
  have hd11 := hd7.to (S710.trans S11)
  have hpl11 := S11 _ _ hpl10
  have hdu11 := S11 _ _ hdu
  have P11 : Purse p g (wo2 H11 p g) H11 := P7.later (S710.trans S11)
  have hdP : Dt (wo2 H11 p g) (.ref q) (lksD ls) := hdG.to (P7.keeps (S710.trans S11))
  have hlf : fewF n ls = if noFree (svL n ls) n = [] then ((Rd.ns n (Rd.late n ls) : Nat) : Int) else -1 := rfl
  clear hdG hpl hpl10 hdu hd8 gl8 hd7 P7 hmi S8 S9 S10 S11 S710 he hpn
  refine ⟨fun σ H' => Same H11 H' ∧ ∃ v17 v18 v19, σ = [some (.ref a), some (.ref p), some (.int (od : Nat)), some (.int (gr : Nat)), some (.int (n : Nat)), some (.int (m : Nat)), some (.ref q), some (.ref e), some (.str (logD ls).shown), some (.ref pl), some (.ref du), some (.ref mi), some (.int (fewF n ls)), none, none, none, none, v17, v18, v19], ?_, ?_⟩
  · refine ⟨_, rfl, _, _, rfl, rfl, _, rfl, ?_⟩
    refine iteD (fun c => ?_) (fun c => ?_)
    · refine ⟨_, rfl, _, rfl, _, rfl, _, pl, n, ls, Rd.late n ls, rfl, by omega, hn5 (by omega), by omega, Rd.Root.late ho, hd11, hpl11, fun H' S' => ?_⟩
      rw [fewF_eq ho]
      exact ⟨S', _, _, _, rfl⟩
    · refine ⟨_, rfl, mi, _, rfl, .inl (SqL.of hmi11), rfl, _, rfl, ?_⟩
      rw [nV_len]
      refine iteI (fun c1 => ?_) (fun c1 => ?_)
      · have em : noFree (svL n ls) n = [] := List.eq_nil_of_length_eq_zero (by omega)
        refine ⟨_, rfl, pl, rfl, ⟨_, SqL.of hpl11⟩, fun d hd => ?_⟩
        refine lc_list (K := K) (a := pl) (xs := nV (Rd.late n ls)) (fun i H3 => Same H11 H3 ∧ H3 d = some (.lst (nV (((Rd.late n ls).take i).filter fun m => Rd.sing n m == -2)))) ⟨.new hd, upd_same⟩ (fun i H3 _ z => SqL.of (z.1 _ _ hpl11)) ?_ ?_
        · rintro i x H3 hx ⟨S, h3⟩
          obtain ⟨m1, hm1, rfl⟩ := get_map hx
          have hi := get_lt hm1
          rw [filter_take_succ hm1]
          refine ⟨rfl, _, rfl, _, rfl, m1, n, rfl, by omega, _, rfl, rfl, _, rfl, ?_⟩
          refine iteI (fun c2 => ?_) (fun c2 => ?_)
          · refine ⟨_, rfl, _, h3, small_line ?_, S.mut hd, ?_⟩
            · rw [nV_len]
              have := List.length_filter_le (fun m => Rd.sing n m == -2) ((Rd.late n ls).take i)
              rw [List.length_take] at this
              omega
            · rw [upd_same, nV_snoc, if_pos (beq_iff_eq.mpr c2)]
          · refine ⟨S, ?_⟩
            rw [if_neg (fun z => c2 (beq_iff_eq.mp z)), List.append_nil]
            exact h3
        · rintro H3 ⟨S, h3⟩
          rw [List.take_of_length_le (by rw [nV_len]; exact Nat.le_refl _)] at h3
          refine ⟨d, _, rfl, .inl (SqL.of h3), ?_⟩
          rw [hlf, if_pos em, nV_len]
          exact ⟨S, _, _, _, rfl⟩
      · refine ⟨Same.refl _, none, none, none, ?_⟩
        rw [hlf, if_neg fun z => c1 (by rw [z]; rfl)]
        rfl
  rintro σ H12 ⟨S12, v17, v18, v19, rfl⟩
  refine ⟨fun σ H' => Same H12 H' ∧ ∃ r, Told n ls r H' ∧ σ = [some (.ref a), some (.ref p), some (.int (od : Nat)), some (.int (gr : Nat)), some (.int (n : Nat)), some (.int (m : Nat)), some (.ref q), some (.ref e), some (.str (logD ls).shown), some (.ref pl), some (.ref du), some (.ref mi), some (.int (fewF n ls)), some (.ref r), none, none, none, v17, v18, v19], ?_, ?_⟩
  · refine ⟨_, rfl, _, rfl, .ref e, n, ls, rfl, gl11.to S12, fun hv r q1 H' W od hW oo S hr hq => ?_, fun b0 hb e0 hno r H' S hr => ?_⟩
    · exact ⟨S, r, .inl ⟨q1, W, od, noFree_none.mpr hv, hW, oo, hr, hq⟩, rfl⟩
    · obtain ⟨k1, k2⟩ := noFree_some hb e0 hno
      exact ⟨S, r, .inr ⟨b0, k1, k2, hr⟩, rfl⟩
  rintro σ H13 ⟨S13, r, td, rfl⟩
  have S1 := S12.trans S13
  obtain ⟨sc, ps, eo⟩ := (gl11.to S1).passed
  refine ⟨_, rfl, _, rfl, .ref e, n, sc, rfl, ps, ?_⟩
  rw [eo]
  intro r14 o14 H14 S14 h14
  have S114 := S1.trans S14
  refine ⟨_, rfl, _, _, rfl, eqv_tup (D := 1) (.inr ⟨o14, h14⟩) (.inl (S114 _ _ hdu11)) (by omega), true, rfl, ?_⟩
  refine iteF ?_
  refine ⟨_, rfl, .inr ⟨e, logD ls, 1048576, 4, rfl, (gl11.to S114).2.2.2.2, log_fine gl11, Nat.le_refl _, by decide, ?_⟩⟩
  refine ⟨_, rfl, rfl, _, rfl, ?_⟩
  refine iteNS ?_
  refine ⟨fun σ H' => Same H14 H' ∧ ∃ v14 v17 v18 v19, σ = [some (.ref a), some (.ref p), some (.int (od : Nat)), some (.int (gr : Nat)), some (.int (n : Nat)), some (.int (m : Nat)), some (.ref q), some (.ref e), some (.str (logD ls).shown), some (.ref pl), some (.ref du), some (.ref mi), some (.int (fewF n ls)), some (.ref r), v14, none, none, v17, v18, v19], ?_, ?_⟩
  · refine ⟨_, rfl, _, _, rfl, rfl, _, rfl, ?_⟩
    rcases td with ⟨q1, W, od1, em, hW, oo, hr1, hq1⟩ | ⟨b0, k1, k2, hr1⟩
    · have ef : fewF n ls = (((od1.filter (Rd.multi n (Rd.late n ls))).map (Rd.gI W)).length : Nat) := by
        rw [hlf, if_pos em, List.length_map, Rd.reps_len (Rd.Root.late ho) oo]
      obtain ⟨lg, hin⟩ := more_longer ho (noFree_none.mp em) oo hW
      have hns : ((od1.filter (Rd.multi n (Rd.late n ls))).map (Rd.gI W)).length ≤ 12 := by
        have h1 := Rd.ns_le (n := n) hlL
        rw [hlf, if_pos em] at ef
        omega
      generalize hM : (od1.filter (Rd.multi n (Rd.late n ls))).map (Rd.gI W) = M at ef lg hin hns hq1
      refine iteD (fun c => absurd c (by omega)) (fun _ => ?_)
      have hr14 := S14 _ _ hr1
      have hq14 := S14 _ _ hq1
      refine ⟨_, rfl, r, _, _, _, rfl, rfl, SqL.of hr14, rfl, _, rfl, _, rfl, q1, _, ls, M, congrArg (fun z => [V.ref q1, V.ref q, V.int z]) ef, hq14, hin, by omega, by omega, hd11.to S114, fun r2 H15 S15 hd15 => ?_⟩
      obtain ⟨D, eD, hD⟩ := nats_of hSl lg.nat
      have hdu15 := S15 _ _ (S114 _ _ hdu11)
      rw [eD, ← nV_ints] at hdu15
      refine ⟨_, rfl, r, _, _, _, rfl, rfl, SqL.of (S15 _ _ hr14), rfl, rfl, _, rfl, ?_⟩
      refine iteNI (fun c => absurd rfl c) (fun _ => ?_)
      refine ⟨_, rfl, rfl, _, rfl, ?_⟩
      refine iteF ?_
      refine ⟨_, rfl, mi, _, rfl, .inl (SqL.of (S15 _ _ (S114 _ _ hmi11))), _, _, rfl, rfl, _, rfl, ?_⟩
      rw [nV_len, em]
      refine iteF ?_
      have hlen2 : (moreL ls M).length ≤ 60 := by
        rw [moreL, List.length_append, List.length_map]
        omega
      refine ⟨_, rfl, _, rfl, _, rfl, .ref r2, du, n, ls, moreL ls M, D, rfl, hn1, hn, hlen2, lg, eD, hD, hd15, hdu15, fun H16 S16 => ⟨true, rfl, ?_⟩⟩
      refine iteF ?_
      have S416 := S15.trans S16
      refine ⟨_, rfl, _, _, rfl, rfl, _, rfl, ?_⟩
      refine iteD (fun c5 => ?_) (fun _ => ?_)
      · obtain ⟨aq, xq, eq, haq, hxq, _, _⟩ := lks_dt hd11
        cases eq
        refine ⟨_, rfl, q, _, rfl, .inl (SqL.of (S416 _ _ (S114 _ _ haq))), _, _, rfl, rfl, _, rfl, ?_⟩
        refine iteD (fun c6 => ?_) (fun _ => ?_)
        · refine ⟨_, rfl, _, rfl, .ref r2, n, moreL ls M, rfl, by omega, by omega, lg.ok, hd15.to S16, fun r5 H17 rows S17 d17 hnd hne him => ?_⟩
          have hDl : D.length = n := by
            have := congrArg List.length eD
            rw [List.length_map] at this
            omega
          have er : rows = [D] := Rd.all_one hnd hne fun y hy => Rd.Im.one hDl (by rw [← masks_eq eD, ← lg.lots]; exact him y hy)
          subst er
          refine ⟨_, rfl, (by show 1 ≤ sizeLine; decide), fun u hu => ?_⟩
          have hdu18 := Same.new (o := .lst [.ref du]) hu _ _ (S17 _ _ (S16 _ _ hdu15))
          refine ⟨rowsD [D], rowsD [D], (d17.to (.new hu)).dp _ _, Dt.dp _ _ (.lst upd_same (.cons (dt_row hdu18) .nil)), row1_shaped D, row1_shaped D, _, rfl, ?_⟩
          rw [SeqAt.eqv_refl _ (row1_can D)]
          refine iteF ?_
          exact ⟨(S416.trans S17).to hu, _, v17, v18, v19, rfl⟩
        · exact ⟨S416, _, v17, v18, v19, rfl⟩
      · exact ⟨S416, _, v17, v18, v19, rfl⟩
    · have ef : fewF n ls = -1 := by rw [hlf, if_neg k2]
      refine iteD (fun c => ?_) (fun c => absurd (by omega) c)
      have hr14 := S14 _ _ hr1
      refine ⟨_, rfl, r, _, _, _, rfl, rfl, SqL.of hr14, rfl, rfl, _, rfl, ?_⟩
      refine iteNI (fun c => absurd rfl c) (fun _ => ?_)
      refine ⟨_, rfl, r, _, _, _, rfl, rfl, SqL.of hr14, rfl, (by show 1 ≤ sizeLine; decide), fun u hu => ?_⟩
      have hmi15 := Same.new (o := .lst [.int (b0 : Int)]) hu _ _ (S114 _ _ hmi11)
      refine ⟨_, rfl, _, rfl, mi, _, rfl, SqL.of hmi15, fun z hz => ?_⟩
      have ez : cutV (nV (noFree (svL n ls) n)) none (some 1) = [(b0 : Int)].map V.int := by
        refine (cut_take _ 1).trans ?_
        rw [nV_take, k1]
        rfl
      refine ⟨_, _, rfl, eqv_lst (D := 1) (xs := [(b0 : Int)]) ((Same.new hz) _ _ upd_same) (by rw [upd_same, ez]) (by show 1 ≤ 1000; decide), true, rfl, ?_⟩
      refine iteF ?_
      exact ⟨(Same.new hu).to hz, none, v17, v18, v19, rfl⟩
  rintro σ H15 ⟨S15, v14, u17, u18, u19, rfl⟩
  have S115 := S114.trans S15
  refine ⟨_, rfl, _, _, rfl, rfl, _, rfl, ?_⟩
  refine iteD (fun _ => k _) (fun _ => ?_)
  have P15 := P11.later S115
  have hd15 := hdP.to (P11.keeps S115)
  refine ⟨_, rfl, _, rfl, _, rfl, p, g, .ref q, _, n, ls, rfl, hn1, hn, by omega, ho, hd15, P15, fun r8 v mm ix sc8 G8 H16 S8 P16 hr8 dv hsm hfew vd => ?_⟩
  obtain ⟨pl2, eo2, em⟩ := vd
  have hr16 := P16.same _ _ hr8
  have ps16 : Passed H16 v n sc8 := ⟨hn1, hn, dv.to P16.same, hsm, hfew⟩
  have fi := Scr.fine hsm hfew
  refine ⟨fun σ H' => H' = H16 ∧ σ = [some (.ref a), some (.ref p), some (.int (od : Nat)), some (.int (gr : Nat)), some (.int (n : Nat)), some (.int (m : Nat)), some (.ref q), some (.ref e), some (.str sc8.toD.shown), some (.ref pl), some (.ref du), some (.ref mi), some (.int (fewF n ls)), some (.ref r), v14, some (.ref r8), none, u17, u18, u19], ?_, ?_⟩
  · rcases sc_form ps16.dt with ⟨ev, es⟩ | ⟨av, ev⟩
    · subst ev
      refine ⟨_, rfl, r8, _, _, _, rfl, rfl, SqL.of hr16, rfl, .inl ⟨rfl, rfl, ?_⟩⟩
      rw [es]
      rfl
    · subst ev
      exact ⟨_, rfl, r8, _, _, _, rfl, rfl, SqL.of hr16, rfl, .inr ⟨av, sc8.toD, 1048576, 4, rfl, ps16.dt, fi, Nat.le_refl _, by decide, rfl, rfl⟩⟩
  rintro σ H16' ⟨rfl, rfl⟩
  refine ⟨(by show 2 ≤ sizeLine; decide), fun tt htt => ?_⟩
  have S17 : Same H16' (upd H16' tt (.tup [.ref (He.ga K "settled"), .ref (He.ga K "repeats")])) := .new htt
  refine ⟨tt, rfl, ⟨_, SqT.of upd_same⟩, ?_⟩
  generalize hH17 : upd H16' tt (.tup [.ref (He.ga K "settled"), .ref (He.ga K "repeats")]) = H17 at S17 ⊢
  have htt17 : H17 tt = some (.tup [.ref (He.ga K "settled"), .ref (He.ga K "repeats")]) := by rw [← hH17, upd_same]
  have hr17 := S17 _ _ hr16
  have ps17 := ps16.to S17
  refine for_tup (K := K) (a := tt) (xs := [.ref (He.ga K "settled"), .ref (He.ga K "repeats")]) (fun i σ H' => Same H17 H' ∧ ∃ v16, σ = [some (.ref a), some (.ref p), some (.int (od : Nat)), some (.int (gr : Nat)), some (.int (n : Nat)), some (.int (m : Nat)), some (.ref q), some (.ref e), some (.str sc8.toD.shown), some (.ref pl), some (.ref du), some (.ref mi), some (.int (fewF n ls)), some (.ref r), v14, some (.ref r8), v16, u17, u18, u19]) ⟨Same.refl _, none, rfl⟩ (fun i σ H' _ z => SqT.of (z.1 _ _ htt17)) ?_ ?_
  · rintro i x σ H18 hxi ⟨S18, v16, rfl⟩
    have hf : ∃ f, x = .ref f ∧ isAsk K f := by
      match i, hxi with
      | 0, h => cases h; exact ⟨_, rfl, .inl rfl⟩
      | 1, h => cases h; exact ⟨_, rfl, .inr rfl⟩
    obtain ⟨f, rfl, hf⟩ := hf
    have hr18 := S18 _ _ hr17
    refine ⟨_, rfl, _, rfl, r8, _, _, _, rfl, rfl, SqL.of hr18, rfl, _, rfl, f, v, n, sc8, pl2, ix, rfl, hf, ps17.to S18, eo2, fun rr H19 S19 hrr => ?_⟩
    have hr19 := S19 _ _ hr18
    refine ⟨_, rfl, r8, _, _, _, rfl, rfl, SqL.of hr19, rfl, _, rfl, r8, _, _, _, rfl, rfl, SqL.of hr19, rfl, (by show 2 ≤ sizeLine; decide), fun u hu => ?_⟩
    rw [← em] at hrr
    refine ⟨_, _, rfl, eqv_tup (D := 1) (xs := [mm, ix]) (.inl ((Same.new hu) _ _ hrr)) (.inl upd_same) (by show 2 ≤ 1000; decide), true, rfl, ?_⟩
    refine iteF ?_
    exact ⟨(S18.trans S19).to hu, _, rfl⟩
  · rintro σ H18 ⟨S18, v16, rfl⟩
    have hr18 := S18 _ _ hr17
    have ps18 := ps17.to S18
    rcases sc_form ps18.dt with ⟨ev, es⟩ | ⟨av, ev⟩
    · subst ev
      refine ⟨_, rfl, r8, _, _, _, rfl, rfl, SqL.of hr18, rfl, .inl ⟨rfl, _, rfl, rfl, ?_⟩⟩
      rw [es, decide_eq_true rfl]
      exact k _
    · subst ev
      refine ⟨_, rfl, r8, _, _, _, rfl, rfl, SqL.of hr18, rfl, .inr ⟨av, sc8.toD, 1048576, 4, rfl, ps18.dt, fi, Nat.le_refl _, by decide, _, rfl, rfl, ?_⟩⟩
      rw [decide_eq_true rfl]
      exact k _
end
end Rw
/-! ## RdEnd -/
set_option maxHeartbeats 0
namespace Rw
open PySem PySem.Spec PyProof.Rows L2
theorem room_law : Room 16 callerA := ⟨rfl, by decide, by decide⟩
theorem law_ok {w : World} {K : PySem.W.Frag} {mg : Str → Option Value} {h : Heap} (KX : K.In h) (c : obsK K = valR) (G : h.Ns mainGlobals mg) :
    ∃ fd : FuncData, (∀ (s : Shared) (u : Value), BindsTo s fd ⟨[u], []⟩ [("_law_script", u)]) ∧ mg "law" = some (.ref (He.ga K "law")) ∧
      ∀ base : Heap, K.In base → base.Ns mainGlobals mg → RunG TheRow.prog w K mg base CX0 (He.ga K "law") fd ["_law_script"] (spLaw K) := by
  have T : Txt K mg := txt_of KX G (says_ok c)
  have TE : Errs TheRow.prog K mg := errs_ok c T
  obtain ⟨fd, F⟩ := T.defs _ m_law
  have F' : FunD K "law" "law" (defArgs s_law) (defBody s_law) (defScope s_law) [] [] (He.ga K "law") fd := F
  refine ⟨fd, ?_, T.globs _ m_law, fun base kb nb => ?_⟩
  · intro s u
    obtain ⟨c1, c2, dv, kv, doc, pm, an, cdv, ct, sl, rfl, _, _, nd, _⟩ := F'.ex
    obtain rfl : dv = Value.none := nd.elim (fun z => z.2) fun z => absurd rfl z.1
    exact .of_eq rfl
  · exact runG_of F' sc_law room_law (fun vs H Q E h => by obtain ⟨a, ns, rfl, _⟩ := h; rfl) fun cdv t H vs Q E hr h => body_law T TE cdv t H vs Q E hr h
end Rw
open PySem PySem.W PySem.Calls PyProof.Rows
theorem PySem.Challenge.cw_redolots_k30_whole_repeats_holds : PySem.Challenge.rw_redolots_k30_whole_repeats.Holds := by
  w_on; o_law
  refine HandSHeadRun.head_any (r := OpenLaw.row PySem.Challenge.rw_redolots_k30_whole_repeats) (q := view (OpenLaw.row PySem.Challenge.rw_redolots_k30_whole_repeats).prog [68]) (H := Rw.hk) (ob := Rw.ob) (M := 3400) (loose := Rw.loose) (d := HandSHeadRun.topDef (OpenLaw.row PySem.Challenge.rw_redolots_k30_whole_repeats).prog 68) (kwd := []) Rw.ob_eq
    (by kernel_rfl) (fun s => by kernel_rfl) Rw.run (by kernel_rfl) (by kernel_rfl) (by kernel_rfl) (by rfl) (by first | assumption | decide +kernel) (by decide +kernel) ⟨rfl, rfl, rfl, rfl, rfl, by decide +kernel⟩ ?hw ?hc
  case hw => w_witness2
  case hc =>
    refine Rw.walk_ofG (l := PySem.Challenge.rw_redolots_k30_whole_repeats) (n := 63) (x := "_law_script") (CX := L2.CX0) rfl (by decide) (by kernel_rfl) ?F (fun _ _ _ _ z => z)
    intro w mg fa h Y G hmg0
    obtain ⟨K, KX, c⟩ := Y
    have hmg : mg ("law" : PySem.Str) = some (.ref fa) := by
      have e : (HandSHeadRun.topDef (OpenLaw.row PySem.Challenge.rw_redolots_k30_whole_repeats).prog 68).name = ("law" : PySem.Str) := by kernel_rfl
      rw [← e]
      exact hmg0
    obtain ⟨fd, hb, hm, hrun⟩ := Rw.law_ok (w := w) KX c G
    obtain rfl := Value.ref.inj (Option.some.inj (hmg.symm.trans hm))
    exact ⟨K, fd, Rw.spLaw K, KX, hb, fun H a ns hl _ hs => ⟨a, ns, rfl, hs, hl, fun _ => rfl⟩, hrun⟩
