import PyProof.Rows.All
import Wide.All
import OpenK.AllK
import Wide.FinOn
import HandS.ForMost
import HandS.ForExc
import HandS.Lambda
import HandS.ExcIs
import HandS.ExcField
import KE.KExcSuper
import KE.KSuper
import KE.KExcIs
import HandS.IsInst
import HandS.Wide
import HandS.TupLe
import HandS.TupAny
import HandS.Deep
import HandS.Zip
import HandS.Flow
import HandS.NoneIn
import HandS.EndTab
import KE.GoesEnum
import HandS.SetBool
import HandS.SetKeys
import HandS.Style
import HandS.Codes
import HandS.Property
import HandS.Star
import HandS.Strs
import HandS.DictComp
import KE.GoesMore
import KE.GoesZip
import KE.KDictZip
import KE.KDictPairs
import HandS.Defaults
import HandS.More
import HandS.TupMul
import HandS.MakeKwOnly
import HandS.Conv
import HandS.ExcValue
import KE.KIsAll
import KE.RegKSuper
import PySem.Challenge.RW_otherworths_k01_errors_by_hand
set_option Elab.async false
set_option linter.all false
set_option maxRecDepth 100000
set_option autoImplicit false
set_option maxHeartbeats 2000000
/-! own errors with one field, made by an __init__ that says super().__init__(f); self.f = f -/
namespace DX
open PySem PySem.W PySem.Calls PyProof.Rows PySem.HandSPX
def eA (f : Str) (p1 p2 : Pos) : Arguments := { posonlyargs := [], args := [{ arg := "self", annotation := none, pos := p1 }, { arg := f, annotation := none, pos := p2 }], vararg := none, kwonlyargs := [], kw_defaults := [], kwarg := none, defaults := [] }
def eB (f : Str) (q1 q2 q3 q4 q5 q6 q7 q8 q9 q10 : Pos) : List Stmt := [.Expr (.Call (.Attribute (.Call (.Name "super" q1) [] [] q2) "__init__" q3) [.Name f q4] [] q5) q6, .Assign [.Attribute (.Name "self" q7) f q8] (.Name f q9) q10]
def eS (f : Str) : Scope := { kind := .function, names := [(PySem.Str.ofString "self", .local), (f, .local), (PySem.Str.ofString "__class__", .free), (PySem.Str.ofString "super", .globalImplicit)], isGenerator := false, isCoroutine := false, more := [] }
/-- what the written part says of an error x, at C, with the field f -/
structure ErrF (P : Program) (K : Frag) (x f : Str) (C : Addr) : Prop where
  cls : ∃ nm q N bs bm sn sub ab col dd k0 k1 k2 k3 k5, K.lookup C = some (excClassObj nm q C N bs bm true sn sub ab col dd k0 k1 k2 k3 k5 "ValueError.__new__") ∧ refsVE bm = true
  sa : findIn K (.ref C) "__setattr__" = some (some (.builtin "object.__setattr__"))
  noN : findIn K (.ref C) f = some none
  kC : keepIn K (.ref C) = true
  exC : subIn K (.ref C) (.type "BaseException") = some true
  veC : subIn K (.ref C) (.type "ValueError") = some true
  tyC : typeIn K (.ref C) = some (.type "type")
  hdC : hasDictIn K C = true
  sin : ks_superIn K C C "__init__" = some (some (.builtin "ValueError.__init__"))
  mro : mroIn K C (.ref C) = some true
  opq : nsIn K cStatics "thirdparty.any" = some none
  top : (P.main.scope.names.lookup ("super" : Str)).isSome = false
  fn : ∃ (fI cc cda : Addr) (oc : Value) (od : Option Addr) (doc pm : Value) (an : Option Addr) (ct : Value) (osl : Array (Option Value)) (qual : Str) (p1 p2 q1 q2 q3 q4 q5 q6 q7 q8 q9 q10 : Pos),
    K.lookup fI = some ⟨oc, od, .func (ksFn "__init__" qual (eA f p1 p2) (eB f q1 q2 q3 q4 q5 q6 q7 q8 q9 q10) (eS f) .none .none doc pm an (.ref cda) ct cc), osl⟩ ∧ codeIn K (.ref cda) qual = true ∧
    findIn K (.ref C) "__init__" = some (some (.ref fI)) ∧ typeIn K (.ref fI) = some (.type "function") ∧
    (∃ pl : Sem Bool, ∀ L : Addr, eval (.Call (.Attribute (.Call (.Name "super" q1) [] [] q2) "__init__" q3) [.Name f q4] [] q5) (ksEnv qual (eS f) L fI (.ref cda) cc) = (do
      let ov ← attributeBase (.Call (.Name "super" q1) [] [] q2) "__init__" (ksEnv qual (eS f) L fI (.ref cda) cc) (eval (.Call (.Name "super" q1) [] [] q2) (ksEnv qual (eS f) L fI (.ref cda) cc))
      standAt q3.atName
      let (f1, first) ← holding [ov] (getMethod ov "__init__" pl)
      callWith q5 f1 first (backTo q5 (starEach [.Name f q4] (ksEnv qual (eS f) L fI (.ref cda) cc))) [])) ∧
    (∃ (ccl : Value) (cdd : Option Addr) (vs : Array Value) (ccs : Array (Option Value)) (file : Str) (tf : Tok), K.lookup cda = some ⟨ccl, cdd, .fields vs, ccs⟩ ∧ vs[2]? = some (.str file tf) ∧ ((P.main.file : Str) == file) = true) ∧
    (∃ (cl : Value) (cld : Option Addr) (csl : Array (Option Value)), K.lookup cc = some ⟨cl, cld, .cell (some (.ref C)), csl⟩)
/-- the names of the fields that bind by position -/
structure FldN (f : Str) : Prop where
  ns : f ≠ "self"
  nc : f ≠ "__class__"
  nu : f ≠ "super"
  bd : ∀ (s : Shared) (qual : Str) (doc pm ct : Value) (an : Option Addr) (cda cc : Addr) (p1 p2 q1 q2 q3 q4 q5 q6 q7 q8 q9 q10 : Pos) (a b : Value), BindsTo s (ksFn "__init__" qual (eA f p1 p2) (eB f q1 q2 q3 q4 q5 q6 q7 q8 q9 q10) (eS f) .none .none doc pm an (.ref cda) ct cc) ⟨[a, b], []⟩ [("self", a), (f, b)]
  dbg : (f == ("__debug__" : Str)) = false
  lk : (eS f).names.lookup f = some .local
  lkc : (eS f).names.lookup ("__class__" : Str) = some .free
  lks : (eS f).names.lookup ("super" : Str) = some .globalImplicit
theorem fld_part : FldN "part" := ⟨by decide, by decide, by decide, fun _ _ _ _ _ _ _ _ _ _ _ _ _ _ _ _ _ _ _ _ _ _ => BindsTo.of_eq rfl, by decide, by decide, by decide, by decide⟩
theorem fld_at : FldN "at" := ⟨by decide, by decide, by decide, fun _ _ _ _ _ _ _ _ _ _ _ _ _ _ _ _ _ _ _ _ _ _ => BindsTo.of_eq rfl, by decide, by decide, by decide, by decide⟩
theorem fld_most : FldN "most" := ⟨by decide, by decide, by decide, fun _ _ _ _ _ _ _ _ _ _ _ _ _ _ _ _ _ _ _ _ _ _ => BindsTo.of_eq rfl, by decide, by decide, by decide, by decide⟩
theorem fld_shown : FldN "shown" := ⟨by decide, by decide, by decide, fun _ _ _ _ _ _ _ _ _ _ _ _ _ _ _ _ _ _ _ _ _ _ => BindsTo.of_eq rfl, by decide, by decide, by decide, by decide⟩
theorem fld_row : FldN "row" := ⟨by decide, by decide, by decide, fun _ _ _ _ _ _ _ _ _ _ _ _ _ _ _ _ _ _ _ _ _ _ => BindsTo.of_eq rfl, by decide, by decide, by decide, by decide⟩
theorem one_size (v : Value) : [v].length ≤ sizeLine := by
  rw [sizeLine_eq]
  exact (by decide : 1 ≤ 16777216)
section
variable {prog : Program} {w : World} {A : Around} {E : Value → Shared → Prop} {h : Heap} {g : Array GenState} {d : Drawn} {t : Nat} {os : OsState}
variable {nm q : Str} {C N : Addr} {bs bm : List Value} {hdct : Bool} {sn : List Str} {sub : List Value} {ab : Bool} {col : Option Bool} {dd : Option Addr} {k0 k1 k2 k3 k5 : Option Value}
/-- the bound ValueError.__init__ is called -/
theorem call_mw {u e t0 : Addr} {rest : List Value} {Q : Value → Shared → Prop}
    (hC : h.get? C = some (excClassObj nm q C N bs bm hdct sn sub ab col dd k0 k1 k2 k3 k5 "ValueError.__new__")) (he : h.get? e = some (excO C t0)) (hu : h.get? u = some (kxs_mw "ValueError.__init__" e)) (hrest : rest.length ≤ sizeLine)
    (hq : ∀ h' t1, (∀ b o, b ≠ e → h.get? b = some o → h'.get? b = some o) → h'.get? e = some (excO C t1) → Q .none ⟨h', g, d, t, os⟩) :
    wpAny (model prog w) A (call (.ref u) rest) Q E ⟨h, g, d, t, os⟩ := by
  refine wpAny_call (codeAny_of_tree ?_)
  show wpAny _ A.in1 (callAny (.ref u) ⟨rest, []⟩) _ _ _
  simp only [callAny]
  refine wpAny_bind (wpAny_load hu ?_)
  have z1 : (Value.type "method-wrapper" == Value.type "method" || Value.type "method-wrapper" == Value.type "builtin_function_or_method" || Value.type "method-wrapper" == Value.type "method-wrapper") = true := by decide
  simp only [kxs_mw, z1, if_true]
  refine KFB.if_so (by decide) ?_
  refine wpAny_bind (check_bound_init F.excBase_ValueError.toExcCallFacts hC he rfl ?_)
  refine wpAny_bind (wpAny_pure (wpAny_pure ?_))
  refine ⟨plainId_quiet F.excBase_ValueError.init.plain _, codeAny_builtin F.excBase_ValueError.initEntry ?_⟩
  exact exc_init_tree (cls := .ref C) (t0 := t0) (dv := none) (c2 := .none) (c3 := .none) (b4 := .bool false) he hrest fun h' k1 k2 _ => hq h' _ k1 k2
end
structure InitEnd (h h' : Heap) (x C dx t1 : Addr) (f : Str) (v : Value) : Prop where
  keep : ∀ b o, b ≠ x → h.get? b = some o → h'.get? b = some o
  obj : h'.get? x = some { cls := .ref C, dict := some dx, data := .fields #[.ref t1, .none, .none, .none, .bool false, .none] }
  dbig : h.objs.size ≤ dx
  dne : dx ≠ x
  ns : h'.Ns1 dx (fun y => if y = f then some v else none)
/-- an error as it was made -/
structure Made (h h' : Heap) (e C d : Addr) (f : Str) (v : Value) : Prop where
  keep : ∀ b o, h.get? b = some o → h'.get? b = some o
  new : h.objs.size ≤ e
  obj : ∃ oe vs, h'.get? e = some oe ∧ oe.cls = .ref C ∧ oe.dict = some d ∧ oe.data = .fields vs ∧ vs[1]? = some .none
  dbig : h.objs.size ≤ d
  dne : d ≠ e
  ns : h'.Ns1 d (fun y => if y = f then some v else none)
section
variable {prog : Program} {w : World} {A : Around} {E : Value → Shared → Prop} {R : Result → Shared → Prop} {s : Shared} {K : Frag} {mg mb : Str → Option Value} {C fI : Addr} {xn f : Str}
theorem err_init (T : ErrF prog K xn f C) (N : FldN f) {x t0 : Addr} {v : Value} (X : K.In s.heap) (hlim : s.heap.NoLimit) (hg : s.heap.Ns mainGlobals mg) (hb : s.heap.Ns builtinsNs mb) (hsu : mg "super" = none) (hbb : mb "super" = some (.type "super")) (hx : s.heap.get? x = some (excO C t0)) (hnx : K.lookup x = none) (hroom : A.depth < recursionLimit)
    (hi : findIn K (.ref C) "__init__" = some (some (.ref fI)))
    (hq : ∀ h' tk dx t1, InitEnd s.heap h' x C dx t1 f v → R (.ok (.ret .none)) { s with heap := h', toks := tk }) :
    codeAny (model prog w) A (.call (.ref fI) ⟨[.ref x, v], []⟩) R s := by
  obtain ⟨fI', cc, cda, oc, od, doc, pm, an, ct, osl, qual, p1, p2, q1, q2, q3, q4, q5, q6, q7, q8, q9, q10, ho, hcd, hi', ht, ⟨pl, hev⟩, ⟨ccl, cdd, vs, ccs, file, tf, hcode, hvs, hfile⟩, cl, cld, csl, hcell⟩ := T.fn
  have e := hi'.symm.trans hi
  cases e
  obtain ⟨nm, q, N', bs, bm, sn, sub, ab, col, dd, k0, k1, k2, k3, k5, hC, hbm⟩ := T.cls
  have hcl : clsIn K C = some { name := nm, bases := bs, mro := .ref C :: bm, ns := N', qualname := q, hasDict := true, slotNames := sn, subclasses := sub, abstract := ab, collection := col, hasDel := false } := by unfold clsIn; rw [hC] <;> rfl
  refine ks_codeAny_call_defAt (fd := ksFn "__init__" qual (eA f p1 p2) (eB f q1 q2 q3 q4 q5 q6 q7 q8 q9 q10) (eS f) .none .none doc pm an (.ref cda) ct cc) (body := eB f q1 q2 q3 q4 q5 q6 q7 q8 q9 q10) (binds := [("self", .ref x), (f, v)]) hroom (X _ _ ho) rfl hlim (codeRec_of X hcd) rfl (N.bd _ _ _ _ _ _ _ _ _ _ _ _ _ _ _ _ _ _ _ _ _ _) ?_ ?_ (fun h₁ hns hk₁ => ?_) rfl rfl rfl
  · intro y hy
    simp only [eS, List.mem_cons, List.not_mem_nil, or_false] at hy
    rcases hy with rfl | rfl | rfl | rfl <;> simp
  · intro y hy
    simp only [List.mem_cons, List.not_mem_nil, or_false] at hy
    rcases hy with rfl | rfl
    · rfl
    · exact N.lk
  have X₁ : K.In h₁ := X.keeps hk₁
  have hx₁ := hk₁ _ _ hx
  have nx : s.heap.objs.size ≠ x := Nat.ne_of_gt (Heap.lt_size hx)
  have hg₁ : h₁.Ns mainGlobals mg := hg.keeps hk₁
  have hb₁ : h₁.Ns builtinsNs mb := hb.keeps hk₁
  have lx : (fun y => List.lookup y ([(("self" : Str), Value.ref x), (f, v)].reverse)) "self" = some (.ref x) := by
    show List.lookup ("self" : Str) [(f, v), (("self" : Str), Value.ref x)] = _
    have : (("self" : Str) == f) = false := by simpa using N.ns.symm
    simp [List.lookup, this]
  have lf : (fun y => List.lookup y ([(("self" : Str), Value.ref x), (f, v)].reverse)) f = some v := by
    show List.lookup f [(f, v), (("self" : Str), Value.ref x)] = _
    simp [List.lookup]
  refine ks_wpAt_execs_cons (ks_wpAt_Expr_any (ks_wpAt_MethodCall (pl := pl) ?_ (hev _)))
  refine ks_wpAt_super_base (env := ksEnv qual (eS f) s.heap.objs.size fI (.ref cda) cc) N.lks N.lkc rfl rfl (X₁ _ _ ho) rfl rfl rfl (X₁ _ _ hcode) rfl hvs hfile T.top ?_
  refine ks_loadName_global rfl N.lks (loadGlobal_builtin (env := ksEnv qual (eS f) s.heap.objs.size fI (.ref cda) cc) hg₁ hsu hb₁ hbb ⟨rfl, ?_⟩)
  refine wpAny_loadName_free rfl N.lkc rfl ⟨_, X₁ _ _ hcell, rfl⟩ ?_
  refine wpAny_loadName_local rfl rfl hns lx ?_
  refine ks_wpAny_isType_cls (X₁ _ _ hC) rfl ⟨rfl, ?_⟩
  refine ks_wpAny_call_super (X₁ _ _ hC) rfl hx₁ rfl (by intro c; simp) (looks_mroIn X₁ T.mro) (fun h₂ e2 k2 => ?_)
  have X₂ : K.In h₂ := X₁.keeps k2
  have hx₂ := k2 _ _ hx₁
  have hm : alongIn K "__init__" (((Value.ref C :: bm).dropWhile (· != .ref C)).drop 1) = some (some (.builtin "ValueError.__init__")) := by
    have := T.sin
    unfold ks_superIn at this
    rw [hcl] at this
    exact this
  have I₂ : InstAt h₂ x (excO C t0) C none := ⟨hx₂, rfl, rfl, trivial⟩
  have hI : Looks (model prog w) h₂ (isInstance (.ref x) (.type "ValueError")) true := I₂.type.andThen (looks_subIn X₂ T.veC)
  refine kxs_getMethod kxs_ValueError e2 (looks_opaque X₂ T.opq) (l₀ := .ref C :: bm) ?_ rfl X₂ hm hI (ks_ne X₂ I₂ hcl) rfl ?_
  · exact fun A Q E s k q => wpAny_bind ((looks_clsIn X₂ hcl) A _ E s k (wpAny_pure q))
  have hns₁ := hns
  obtain ⟨oL, esL, epL, hL, hLd⟩ := hns₁
  have neL : s.heap.objs.size ≠ x := nx
  have k3 : ∀ b o, h₁.get? b = some o → (h₂.push (kxs_mw "ValueError.__init__" x)).get? b = some o := fun b o e => Heap.get?_push_of_some _ (k2 _ _ e)
  have hns₃ : (h₂.push (kxs_mw "ValueError.__init__" x)).Ns s.heap.objs.size (fun y => List.lookup y ([(("self" : Str), Value.ref x), (f, v)].reverse)) := ⟨oL, esL, epL, k3 _ _ hL, hLd⟩
  refine kxs_callWith (i := "ValueError.__init__") (x := x) rfl (evalArgs_plain ?_)
  refine Calls.spliced_cons (wpAny_Name (wpAny_loadName_local rfl N.lk hns₃ lf ?_) N.dbg)
  refine Calls.spliced_nil ⟨Heap.get?_push_at rfl rfl, ?_⟩
  refine call_mw (k3 _ _ (X₁ _ _ hC)) (Heap.get?_push_of_some _ hx₂) (Heap.get?_push_at rfl rfl) (one_size v) fun h₄ t1 k4 hx₄ => ?_
  have k14 : ∀ b o, b ≠ x → h₁.get? b = some o → h₄.get? b = some o := fun b o hb e => k4 b o hb (k3 b o e)
  have X₄ : K.In h₄ := fun a o e => k14 a o (fun z => by rw [z, hnx] at e; cases e) (X₁ a o e)
  have hns₄ : h₄.Ns s.heap.objs.size (fun y => List.lookup y ([(("self" : Str), Value.ref x), (f, v)].reverse)) := ⟨oL, esL, epL, k14 _ _ neL hL, hLd⟩
  refine wpAt_of_wpAny ?_
  show wpAny _ _ (execs _ _) _ _ _
  refine wpAny_execs_cons (plainObj_wpAny_Assign_Attribute ?_)
  refine wpAny_Name (wpAny_loadName_local rfl N.lk hns₄ lf (wpAny_Name (wpAny_loadName_local rfl rfl hns₄ lx ?_) (by decide))) N.dbg
  refine set_plain X₄ (ox := excO C t1) (od := none) ⟨hx₄, rfl, rfl, trivial⟩ T.sa ?_
  refine exc_osa X₄ hx₄ hcl (show refsVE (.ref C :: bm) = true from hbm) rfl T.noN (fun h₅ tk₅ dx k₅ dn dne hx₅ hn₅ => ?_)
  show wpAny _ _ (execs _ _) _ _ _
  have z4 : h₄.get? s.heap.objs.size = some oL := k14 _ _ neL hL
  exact wpAny_execs_nil (hq h₅ tk₅ dx t1 ⟨fun b o hb e => k₅ b o hb (k14 b o hb (hk₁ b o e)), hx₅, Nat.le_of_lt (Nat.lt_of_lt_of_le (Heap.lt_size z4) dn), dne, hn₅⟩)
theorem err_made (T : ErrF prog K xn f C) (N : FldN f) {v : Value} (X : K.In s.heap) (hlim : s.heap.NoLimit) (hg : s.heap.Ns mainGlobals mg) (hb : s.heap.Ns builtinsNs mb) (hsu : mg "super" = none) (hbb : mb "super" = some (.type "super")) (hroom : A.depth + 1 < recursionLimit)
    (hq : ∀ h' tk e d, Made s.heap h' e C d f v → R (.ok (.ret (.ref e))) { s with heap := h', toks := tk }) :
    codeAny (model prog w) A (.call (.ref C) ⟨[v], []⟩) R s := by
  obtain ⟨nm, q, N', bs, bm, sn, sub, ab, col, dd, k0, k1, k2, k3, k5, hC, hbm⟩ := T.cls
  obtain ⟨fI, _, _, _, _, _, _, _, _, _, _, _, _, _, _, _, _, _, _, _, _, _, _, _, _, hi, ht, _⟩ := T.fn
  obtain ⟨hp, g, dr, tk, os⟩ := s
  have k : ∀ b o, hp.get? b = some o → ((hp.push (kdv_tup [v])).push (excO C hp.objs.size)).get? b = some o := fun b o e => Heap.get?_push_of_some _ (Heap.get?_push_of_some _ e)
  have hget : ((hp.push (kdv_tup [v])).push (excO C hp.objs.size)).get? (hp.objs.size + 1) = some (excO C hp.objs.size) := by heap_get
  have hnx : K.lookup (hp.objs.size + 1) = none := by
    cases e : K.lookup (hp.objs.size + 1) with
    | none => rfl
    | some o => exact absurd (Nat.lt_of_succ_lt (Heap.lt_size (show hp.get? (hp.objs.size + 1) = some o from X _ _ e))) (Nat.lt_irrefl _)
  refine call_own F.excBase_ValueError (fun X => refsVE_contains X bm hbm) (X _ _ hC) (looks_findIn X hi) (fun self => bind_fn X self ht) (one_size v) ?_
  refine err_init (s := ⟨(hp.push (kdv_tup [v])).push (excO C hp.objs.size), g, dr, tk, os⟩) (mg := mg) (mb := mb) T N (X.keeps k) (hlim.keeps k) (hg.keeps k) (hb.keeps k) hsu hbb hget hnx (show A.depth + 1 < recursionLimit from hroom) hi fun h' tk' dx t1 ⟨k', hx, dn, dne, hns⟩ => ?_
  have old : ∀ b o, hp.get? b = some o → h'.get? b = some o := fun b o e => k' b o (Nat.ne_of_lt (Nat.lt_succ_of_lt (Heap.lt_size e))) (k b o e)
  have z : hp.objs.size ≤ dx := by
    have dn := dn
    simp only [Heap.size_push] at dn
    omega
  exact ⟨rfl, hq h' tk' (hp.objs.size + 1) dx ⟨old, Nat.le_succ _, ⟨_, _, hx, rfl, rfl, rfl, rfl⟩, z, dne, hns⟩⟩
end
end DX
namespace DX
open PySem PySem.Spec PyProof.Rows L2
theorem boot_super : bootBuiltins "super" = some (.type "super") := by first | boot_by_name | kernel_rfl | rfl
theorem relO_fld {f : Str} {v : V} {v' : Value} (r : RelV v v') (y : Str) : RelO (List.lookup y [(f, v)]) (if y = f then some v' else none) := by
  by_cases hw : y = f
  · subst hw
    rw [if_pos rfl, show List.lookup y [(y, v)] = some v by simp [List.lookup]]
    exact r
  · rw [if_neg hw, show List.lookup y [(f, v)] = none by simp [List.lookup, (by simpa using hw : (y == f) = false)]]
    trivial
section
variable {X : Cx} {C : Addr} {x f : Str}
/-- x(e): the error with its field -/
def tMkF (C : Addr) (f : Str) (ta : TA) : L2.St → Hp → XK → Prop := fun σ H Q => ta σ H fun vs H1 => ∃ v, vs = [v] ∧ ∀ d, H1 d = none → Q (.ref C) (some d) (upd H1 d (.xd [(f, v)]))
theorem pmk_fld {a : Expr} {ta : TA} {p pos : Pos} {k : Nat} (T : ErrF X.prog X.K x f C) (N : FldN f) (gC : X.mg x = some (.ref C)) (hsu : X.mg "super" = none) (hr : Room k X.A) (ha : PA X [a] ta) (hg : Gl X x)
    (he : starEach (a :: []) X.env = (false, eval a X.env) :: starEach [] X.env) (hpl : (backTo pos (starEach [] X.env)).any (·.1) = false) (hdb : (x == ("__debug__" : Str)) = false) :
    PMk X (.Call (.Name x p) [a] [] pos) (tMkF C f ta) := by
  intro pins s σ H Q I h
  refine wpAny_Call_Name_kw (ld_glob I hg gC ?_ hdb)
  refine PySem.W.callWith_K (h₀ := X.base) I.ok.mod.kin T.kC (thn (ha.run pos pins s σ H _ I h) fun us s1 hh => ?_) he hpl
  obtain ⟨vs, H1, I1, r1, v, ev, q1⟩ := hh
  subst ev
  refine ⟨I1.kIn, ?_⟩
  cases r1 with
  | cons rv rn =>
    rename_i v' us'
    cases rn
    show wpAny _ _ (call (.ref C) [v']) _ _ _
    have hlim := I1.nolimit
    obtain ⟨mb, b1, b2⟩ := I1.mod.blt
    have hgl := I1.mod.glob.keeps I1.bk
    have hbl := b1.keeps I1.bk
    have hkin := I1.kIn
    obtain ⟨hp, g, dr, tk, os⟩ := s1
    refine wpAny_call (err_made (mg := X.mg) (mb := mb) T N hkin hlim hgl hbl hsu ((b2 "super" (by decide)).trans boot_super) (by have := hr.dp; omega) fun h' tk' e d M => ?_)
    show MkP X pins σ Q (.ref e) ⟨h', g, dr, tk', os⟩
    obtain ⟨oe, fv, hoe, hc, hd, hdat, h1⟩ := M.obj
    obtain ⟨G', g1, g2⟩ := restrict h' fun b => decide (b ≠ e)
    have gk : ∀ b, b ≠ e → G'.get? b = h'.get? b := fun b hb => g1 b (decide_eq_true hb)
    have ge : G'.get? e = none := g2 e (by simp)
    have old : ∀ b o, hp.get? b = some o → G'.get? b = some o := fun b o q => (gk b (Nat.ne_of_lt (Nat.lt_of_lt_of_le (Heap.lt_size q) M.new))).trans (M.keep b o q)
    have ob : ObjOk X.prog X.w (upd H1 d (.xd [(f, v)])) G' d (.xd [(f, v)]) := ⟨_, M.ns.at (fun o q => (gk d M.dne).trans q), fun y => relO_fld rv y⟩
    have J : Inv X pins σ (upd H1 d (.xd [(f, v)])) ⟨G', g, dr, tk', os⟩ := I1.laid (t' := tk') old M.dbig ob
    refine ⟨e, oe, fv, ⟨G', g, dr, tk', os⟩, _, .ref C, some d, rfl, J, fun b o q => ?_, ge, hoe, ⟨hc, hd⟩, hdat, h1, ?_, rfl, I1.bare, raises_own T.exC T.tyC, q1 d (I1.hok.fresh M.dbig)⟩
    · by_cases hb : b = e
      · have q' : G'.get? b = some o := q
        rw [hb, ge] at q'; cases q'
      · exact (gk b hb).symm.trans q
    · rw [upd_ne (Ne.symm M.dne)]
      exact I1.hok.fresh M.new
end
end DX

/-! an error that was caught is held as a value -/
namespace DX
open PySem PySem.Spec PyProof.Rows L2
def exV (cls : Value) (d : Option Addr) (a : Addr) : HO := .ext fun h => ∃ (oe : Obj) (vs : Array Value), h.get? a = some oe ∧ Zc cls d oe ∧ oe.data = .fields vs
theorem exV_ok {P : Program} {w : World} {H : Hp} {h : Heap} {a : Addr} {cls : Value} {d : Option Addr} {oe : Obj} {vs : Array Value} (e : h.get? a = some oe) (z : Zc cls d oe) (k : oe.data = .fields vs) : ObjOk P w H h a (exV cls d a) :=
  ⟨⟨oe, vs, e, z, k⟩, ⟨oe, e⟩, fun _ _ ⟨o, v, q, r⟩ kk => ⟨o, v, kk o q, r⟩⟩
theorem exV_at {P : Program} {w : World} {H : Hp} {h : Heap} {a : Addr} {cls : Value} {d : Option Addr} (hok : HOk P w H h) (he : H a = some (exV cls d a)) : ∃ (oe : Obj) (vs : Array Value), h.get? a = some oe ∧ Zc cls d oe ∧ oe.data = .fields vs := (hok a _ he).1
section
variable {X : Cx} {pins : List (Addr × Obj)} {σ : L2.St} {H : Hp} {s : Shared}
/-- what stands in the heap, new since the entry, is told from now on -/
theorem track {a : Addr} {oe : Obj} {o : HO} (I : Inv X ((a, oe) :: pins) σ H s) (new : X.s_0.heap.get? a = none) (ok : ObjOk X.prog X.w (upd H a o) s.heap a o) (hcl : ∀ x c, X.env.cells.lookup x = some c → c ≠ a) (hne : ∀ p ∈ X.pn ++ pins, p.1 ≠ a) : Inv X pins σ (upd H a o) s := by
  obtain ⟨ha, hn, nL, nF, _⟩ := I.pin (a, oe) (List.mem_append_right _ List.mem_cons_self)
  refine ⟨I.ok, I.os, I.bare, ⟨fun b u q n f x => I.base.keep b u q n f x, fun b u q n f x => I.base.slot b u q n f x, fun b u q n x => ?_, I.base.there, fun b xs q => ?_, fun b u v q => ?_, fun b ps q => ?_⟩, I.loc, I.cell, ?_, fun x c e => ?_, fun p hp => ?_, fun b u e => ?_, I.len⟩
  · rw [upd_ne (fun z => by rw [z, new] at q; cases q)]; exact I.base.free b u q n x
  · have := I.base.tups b xs q
    rw [upd_ne (ne_of_none this hn)]; exact this
  · have := I.base.frzs b u v q
    rw [upd_ne (ne_of_none this hn)]; exact this
  · obtain ⟨more, z⟩ := I.base.tbls b ps q
    exact ⟨more, by rw [upd_ne (ne_of_none z hn)]; exact z⟩
  · rw [upd_ne (Ne.symm nL)]; exact I.free
  · rw [upd_ne (hcl x c e)]; exact I.freeC x c e
  · obtain ⟨e1, e2, e3⟩ := I.pin p (by
      rcases List.mem_append.mp hp with h | h
      · exact List.mem_append_left _ h
      · exact List.mem_append_right _ (List.mem_cons_of_mem _ h))
    exact ⟨e1, by rw [upd_ne (hne p hp)]; exact e2, e3⟩
  · by_cases hb : b = a
    · subst hb
      rw [upd_same] at e
      cases e
      exact ok
    · rw [upd_ne hb] at e
      exact (I.hok b u e).stay (fun c v _ q => q) (fun c q => by rw [upd_ne (ne_of_none q hn)]; exact q) fun c xs q => by rw [upd_ne (ne_of_none q hn)]; exact q
end
/-- what the clause 'except x as n: y = n' wishes: slots i of n, j of y -/
def wHold (K : PySem.W.Frag) (c : Value) (n i j : Nat) (D : Ends) : WX := fun cls d σ H =>
  PySem.W.exmOne K cls c = some true ∧ (σ.length = n → ∀ a, H a = none → D.nx (((σ.set i (some (.ref a))).set j (some (.ref a))).set i none) (upd H a (exV cls d a)))
section
variable {X : Cx} {x n y : Str} {c : Value} {i j : Nat} {body : List Stmt} {np yp nq sp pos pos' : Pos} {tb : WX → TS}
theorem ps_try_hold (hs : X.stack = X.env :: X.outer) (hf : X.env.frame = some X.env.locals) (hex : X.ex = []) (hN : X.N.Nodup) (hi : X.N[i]? = some n) (hln : X.env.kindOf n = some .local) (hj : X.N[j]? = some y) (hlj : X.env.kindOf y = some .local) (hij : i ≠ j) (hnc : X.env.cells = []) (hfn : X.fn y = true ∨ X.env.scope.names.lookup y = some .local)
    (hd1 : (n == ("__debug__" : Str)) = false) (hd2 : (n == ("__classdict__" : Str)) = false) (hc : Names X x c)
    (hb : ∀ (W : WX) (pn : List (Addr × Obj)) (xe : Value → Shared → Prop), Takes (X.tr pn xe) W → PassesOwn (model X.prog X.w) X.A X.env xe → PSs (X.tr pn xe) body (tb W))
    (hsw : swapsWith (.Name n nq) (some (.Name y yp)) sp.line X.env = pure false := by rfl) :
    PS X (.Try body [.ExceptHandler (some (.Name x np)) (some n) [.Assign [.Name y yp] (.Name n nq) sp] pos'] [] [] pos) (fun D σ H => tb (wHold X.K c X.N.length i j D) D σ H) := by
  constructor
  intro pins s σ H D I h
  have ok := I.ok
  have hfr : X.A.frames = some (X.env :: X.outer) := by rw [ok.frames, hs]
  refine wpAny_Try_except (wpAny_mono ((hb (wHold X.K c X.N.length i j D) (X.pn ++ pins) (fun e s₁ => wpAny (model X.prog X.w) X.A (noteFrame e X.env) (fun _ s₂ => wpAny (model X.prog X.w) X.A (setFlight e none) (fun _ s₃ => wpAny (model X.prog X.w) X.A (handleBy e X.env [.ExceptHandler (some (.Name x np)) (some n) [.Assign [.Name y yp] (.Name n nq) sp] pos']) (SP X pins D) X.xe s₃) X.xe s₂) X.xe s₁) (fun u s' xx => ?_) PassesOwn.looking).run [] s σ H D (I.toTry _) h) (fun f s1 hsp => ?_) (fun e s1 he => he))
  · obtain ⟨a, B, sI, pins', σ', H', cls, d, rfl, J', nb, up, sky, na, os, ag, hb1, hyes⟩ := xx
    have J : Inv X pins σ' H' sI := J'.ofTry ok
    have sky' : Sky B (X.env :: X.outer) a (Zc cls d) X.env.locals s'.heap := hs ▸ sky
    show wpAny (model X.prog X.w) X.A (noteFrame (.ref a) X.env) _ _ _
    refine Sky.land Zc.steady hfr hf sky' fun h3 fl3 up3 => ?_
    have J3 : Inv X pins σ' H' { s' with heap := h3 } := J.landed nb fl3.1 (up.trans up3) os ag
    obtain ⟨oe3, vs3, he3, hz3, hd3⟩ := fl3.there
    have nfr : a ∉ frs (X.env :: X.outer) := fun hm => by
      obtain ⟨_, o', e', hnf⟩ := fl3.2.2.1.mem hm
      rw [he3] at e'; cases e'
      exact hnf _ hd3
    have nL : a ≠ X.env.locals := fun z => nfr (List.mem_filterMap.mpr ⟨X.env, List.mem_cons_self, by rw [hf, z]⟩)
    have nF : a ∉ X.fs := fun hm => by
      obtain ⟨e, he, q⟩ := List.mem_filterMap.mp hm
      exact nfr (List.mem_filterMap.mpr ⟨e, List.mem_cons_of_mem _ he, q⟩)
    have newI : sI.heap.get? a = none := by
      cases z : sI.heap.get? a with
      | none => rfl
      | some o' =>
        have q := nb a o' z (hs ▸ nfr)
        rw [fl3.2.1] at q
        cases q
    have new0 : X.s_0.heap.get? a = none := by
      cases z : X.s_0.heap.get? a with
      | none => rfl
      | some o =>
        obtain ⟨o', ho'⟩ := J.base.there a o z (by rw [hex]; simp)
        rw [newI] at ho'
        cases ho'
    have S3 := J3.suite he3 hd3 na nL nF
    refine wpAny_handleBy_cons (codeAny_handlers_test ?_) (by intro q; cases q)
    have LT : PySem.W.Looks (model X.prog X.w) h3 (typeOf (.ref a)) cls := fun A Q E s k q => wpAny_typeOf_ref (k _ _ he3) (by rw [hz3.1]; exact q)
    have LM := PySem.W.exm_one (M := model X.prog X.w) (J3.kIn) LT hb1
    have test : ∀ {Q : Value → Shared → Prop} {E : Value → Shared → Prop}, Q c { s' with heap := h3 } → wpAny (model X.prog X.w) (X.A.mark (some (.ref a))) (eval (.Name x np) X.env) Q E { s' with heap := h3 } := fun {Q E} q => by
      obtain ⟨hg, hdbg, hm | ⟨hm, hv, hnn⟩⟩ := hc
      · exact ld_glob (X := X.suite a ((a, oe3) :: (X.pn ++ pins))) S3 hg hm q hdbg
      · exact ld_blt (X := X.suite a ((a, oe3) :: (X.pn ++ pins))) S3 hg hm hv q hnn hdbg
    refine test (LM.here ?_)
    refine codeAny_handlers_suite_as (HandSPX.lands_againZ fl3 fun h4 fl4 up4 => ?_)
    have J4 : Inv X pins σ' H' { s' with heap := h4 } := J.landed nb fl4.1 ((up.trans up3).trans up4) os ag
    obtain ⟨oe4, vs4, he4, hz4, hd4⟩ := fl4.there
    have S4 := J4.suite he4 hd4 na nL nF
    refine store_ok (X := X.suite a ((a, oe4) :: (X.pn ++ pins))) (v := .ref a) S4 hN hi (.inl hln) rfl (fun s5 S5 => ?_) (.inr hln)
    have su : PSs (X.suite a ((a, oe4) :: (X.pn ++ pins))) [.Assign [.Name y yp] (.Name n nq) sp] _ := pss_one (ps_set (i := j) hN hj (.inl hlj) (pe_var (i := i) hi (.inl hln) hd1 hd2) hsw (by exact hfn))
    have li : i < σ'.length := by rw [J.len]; exact (List.getElem?_eq_some_iff.mp hi).1
    refine wpAny_mono (su.run [] s5 _ H' { nx := fun σ6 H6 => σ6 = (σ'.set i (some (.ref a))).set j (some (.ref a)) ∧ H6 = H', rt := fun _ _ => False } S5 ⟨.ref a, List.getElem?_set_self li, rfl, rfl⟩) (fun f s6 hsp => ?_) (fun _ _ z => False.elim z)
    cases f with
    | next =>
      obtain ⟨σ6, H6, S6, rfl, rfl⟩ := hsp
      have I6 : Inv X ((a, oe4) :: pins) ((σ'.set i (some (.ref a))).set j (some (.ref a))) H6 s6 := ⟨ok, S6.os, S6.bare, S6.base, S6.loc, S6.cell, S6.free, S6.freeC, fun p hp => S6.pin p (by
        rw [List.append_nil]
        rcases List.mem_append.mp hp with h | h
        · exact List.mem_cons_of_mem _ (List.mem_append_left _ h)
        · rcases List.mem_cons.mp h with rfl | h
          · exact List.mem_cons_self
          · exact List.mem_cons_of_mem _ (List.mem_append_right _ h)), S6.hok, S6.len⟩
      refine gone_ok I6 hN hi hln fun s7 J7 => ?_
      obtain ⟨g7, _⟩ := J7.pin (a, oe4) (List.mem_append_right _ List.mem_cons_self)
      refine ⟨_, _, track J7 new0 (exV_ok g7 hz4 hd4) (fun x c e => by rw [hnc] at e; cases e) (fun p hp z => ?_), hyes J.len a na⟩
      obtain ⟨e, _⟩ := J.pin p hp
      rw [z, newI] at e
      cases e
    | brk => obtain ⟨_, _, _, q⟩ := hsp; exact q.elim
    | cont => obtain ⟨_, _, _, q⟩ := hsp; exact q.elim
    | ret u => obtain ⟨_, _, _, _, _, q⟩ := hsp; exact q.elim
  · cases f with
    | next =>
      obtain ⟨σ', H', J', q⟩ := hsp
      exact wpAny_execs_nil ⟨σ', H', J'.ofTry ok, q⟩
    | brk =>
      obtain ⟨σ', H', J', q⟩ := hsp
      exact ⟨σ', H', J'.ofTry ok, q⟩
    | cont =>
      obtain ⟨σ', H', J', q⟩ := hsp
      exact ⟨σ', H', J'.ofTry ok, q⟩
    | ret u =>
      obtain ⟨v, σ', H', J', r, q⟩ := hsp
      exact ⟨v, σ', H', J'.ofTry ok, r, q⟩
end
end DX
namespace DX
open PySem PySem.Spec PyProof.Rows L2 LamX
/-- caught: y = None / try: a() / except e as n: y = n / return y -/
def TCaught (K : PySem.W.Frag) (CS : Addr) : (XK → Hp → VK → Prop) → Hp → VK → Prop := fun tl H Q =>
  tl (fun cls d H' => PySem.W.exmOne K cls (.ref CS) = some true ∧ ∀ p, H' p = none → Q (.ref p) (upd H' p (exV cls d p))) H (fun _ H' => ∃ v, (some (some V.non) : Option (Option V)) = some (some v) ∧ Q v H')
theorem nd3 : ([("_law_act" : Str), "_law_found", "_law_error"] : List Str).Nodup := by decide
theorem caught_gives {X : Cx} {x q : Str} {sg : Scope} {g CS : Addr} {cdg : Value} {j0 : Nat} {p1 p2 p3 p4 p5 p6 p7 p8 p9 p10 p11 p12 p13 p14 p15 : Pos} {e : Str} (hge : sg.names.lookup e = some .globalImplicit) (hme : X.mg e = some (.ref CS)) (hde : (e == ("__debug__" : Str)) = false) (hk : sg.names.lookup ("_law_found" : Str) = some .local) (hk1 : sg.names.lookup ("_law_error" : Str) = some .local) (hcl : ∀ n, cellsFrom n sg.names [] = []) (hvf : Vis sg "_law_found") :
    GivesTo X ["_law_act", "_law_found", "_law_error"] x sg g cdg [.Assign [.Name "_law_found" p1] (.Constant .none j0 p2) p3, .Try [.Expr (.Call (.Name "_law_act" p4) [] [] p5) p6] [.ExceptHandler (some (.Name e p7)) (some "_law_error") [.Assign [.Name "_law_found" p8] (.Name "_law_error" p9) p10] p11] [] [] p12, .Return (some (.Name "_law_found" p13)) p14] "_law_act" q (TCaught X.K CS) := by
  intro f c' s H Q tl act hc h
  have hgl : Gl (cxOf C8.CX0 X.prog X.w X.K X.mg X.base ["_law_act", "_law_found", "_law_error"] x sg g cdg X.A X.stack s H C8.E0).nox e := hge
  refine ⟨_, pss_cons (ps_set (i := 1) nd3 rfl (.inl hk) pe_non rfl (.inr hk)) (pss_cons (ps_try_hold (X := (cxOf C8.CX0 X.prog X.w X.K X.mg X.base ["_law_act", "_law_found", "_law_error"] x sg g cdg X.A X.stack s H C8.E0).nox) (c := .ref CS) (i := 2) (j := 1)
      (tb := fun W D σ H => ∃ Ech : XK, (∀ cls d σ' H', Ech cls d H' → W cls d σ' H') ∧ σ[0]? = some (some (.ref f)) ∧ H c' = some (CodeO c' q) ∧ tl Ech H fun _ H' => D.nx σ H')
      rfl rfl rfl nd3 rfl hk1 rfl hk (by decide) (hcl _) (.inr hk) (by decide) (by decide) ⟨hgl, hde, .inl hme⟩ (fun W pn xe tk _ => ?_)) (pss_one (ps_ret (pe_var (i := 1) rfl hvf)))), ?_⟩
  · refine ⟨fun pins s' σ H' D I h' => ?_⟩
    obtain ⟨Ech, hW, h1, h2, h3⟩ := h'
    exact (pss_one (ps_expr (act W pn xe Ech p4 p5 tk hW))).run pins s' σ H' D I ⟨h1, h2, h3⟩
  · refine ⟨fun cls d H' => PySem.W.exmOne X.K cls (.ref CS) = some true ∧ ∀ p, H' p = none → Q (.ref p) (upd H' p (exV cls d p)), fun cls d σ' H' hE => ⟨hE.1, fun hl a ha => ⟨.ref a, ?_, hE.2 a ha⟩⟩, rfl, hc, ?_⟩
    · match σ', hl with
      | [u0, u1, u2], _ => rfl
    · exact h
end DX
namespace DX
open PySem PySem.Spec PyProof.Rows L2
/-- isinstance(e, c) of an error that is held -/
def rIsV (K : PySem.W.Frag) : List V → Hp → VK → Prop := fun xs H Q => ∃ (a D : Addr) (d : Option Addr) (c : V) (cv : Value) (b : Bool), xs = [.ref a, c] ∧ H a = some (exV (.ref D) d a) ∧ (∀ dd, d = some dd → ∃ fs, H dd = some (.xd fs)) ∧ ExcC K D ∧ (∀ u, RelV c u → u = cv) ∧ PySem.W.kitOne K (.ref D) cv = some b ∧ Q (.bl b) H
theorem ns_obj {h : Heap} {a : Addr} {m : Str → Option Value} (n : h.Ns1 a m) : ∃ o, h.get? a = some o := by
  obtain ⟨od, ho, _⟩ := lookIn_ns n
  exact ⟨od, ho⟩
theorem call_isV {X : Cx} : CallR X (.builtin "isinstance") (rIsV X.K) := by
  intro pins s σ H xs us Q I r h
  obtain ⟨a, D, d, c, cv, b, rfl, hE, hD, C, hcv, e, q⟩ := h
  cases r with
  | cons rx rr =>
    cases rr with
    | cons rt rr =>
      cases rr
      cases rx
      have ec := hcv _ rt
      subst ec
      obtain ⟨oe, vs, hget, hz, hv⟩ := exV_at I.hok hE
      have hc := PySem.W.any_some C.hd
      have hcl : (PySem.W.clsIn X.K D).isSome = true := by
        obtain ⟨cd, hc, _⟩ := hc
        rw [hc]; rfl
      have nc : PySem.W.notCls oe = true := by unfold PySem.W.notCls; rw [hv] <;> rfl
      cases d with
      | none =>
        have J : PySem.W.InstAt s.heap a oe D none := ⟨hget, hz.1, nc, by rw [hz.2]; trivial⟩
        exact PySem.W.kia_one (PySem.W.kitx_exc hcl C.hg C.hk C.hs C.ha C.hn C.ht C.hm) I.kIn J e (fun z => nomatch z) fun tk => ⟨.bl b, H, I.kept (t' := tk) fun _ _ z => z, rfl, q⟩
      | some dd =>
        obtain ⟨fs, hfs⟩ := hD dd rfl
        obtain ⟨mA, hns, _⟩ : ObjOk X.prog X.w H s.heap dd (.xd fs) := I.hok dd _ hfs
        obtain ⟨od, ho⟩ := ns_obj hns
        have J : PySem.W.InstAt s.heap a oe D (some od) := ⟨hget, hz.1, nc, by rw [hz.2]; exact ho⟩
        exact PySem.W.kia_one (PySem.W.kitx_exc hcl C.hg C.hk C.hs C.ha C.hn C.ht C.hm) I.kIn J e (fun z => nomatch z) fun tk => ⟨.bl b, H, I.kept (t' := tk) fun _ _ z => z, rfl, q⟩
/-- e.f of an error that is held -/
def tXv (K : PySem.W.Frag) (f : Str) (te : TE) : TE := fun σ H Q => te σ H fun x H1 => ∃ (a C dd : Addr) (fs : List (Str × V)) (v : V), x = .ref a ∧ H1 a = some (exV (.ref C) (some dd) a) ∧ XfC K C ∧ PySem.W.findIn K (.ref C) f = some none ∧ H1 dd = some (.xd fs) ∧ fs.lookup f = some v ∧ Q v H1
theorem pe_xv {X : Cx} {e : Expr} {te : TE} {pos : Pos} {n : Str} (he : PE X e te) (hb : attributeBase e n X.env (eval e X.env) = eval e X.env := by rfl) : PE X (.Attribute e n pos) (tXv X.K n te) := by
  refine ⟨fun pins s σ H Q I h => ?_⟩
  refine attr_of hb (thn (he.run pins s σ H _ I h) fun u s1 hh => ?_)
  obtain ⟨x, H1, I1, rx, a, C, dd, fs, v, rfl, ha, T, hno, ea, l, q⟩ := hh
  obtain rfl : u = Value.ref a := rx
  obtain ⟨oe, vs, hget, hz, hv⟩ := exV_at I1.hok ha
  obtain ⟨mA, hns, hr⟩ : ObjOk X.prog X.w H1 s1.heap dd (.xd fs) := I1.hok dd _ ea
  obtain ⟨od, ho, hl⟩ := lookIn_ns hns
  obtain ⟨u, hu, ru⟩ := RelO.some_of (v := v) (o := mA n) (by rw [← l]; exact hr n)
  have J : PySem.W.InstAt s1.heap a oe C (some od) := ⟨hget, hz.1, by unfold PySem.W.notCls; rw [hv] <;> rfl, by rw [hz.2]; exact ho⟩
  exact HandSPX.exc_get I1.kIn J T.ga T.gg T.exC (PySem.W.findObj_own T.hdC hno rfl (by rw [hl, hu])) (handed_of ru) ⟨v, H1, I1.tok _, ru, q⟩
end DX

/-! The data layer: what a text computes, told by plain data. -/
namespace DL
open PySem L2

/-! ### data -/
inductive D where
  | non | bl (b : Bool) | int (i : Int) | str (x : Str) | lst (xs : List D) | tup (xs : List D) | dic (kvs : List (Key × D)) | dit (kvs : List (List Key × D)) | ins (C : Addr) (fs : List (Str × D)) | exc (C : Addr) (fs : List (Str × D)) | own (c : D) | obj (a : Addr) | ty (n : String) | dead
/-- a result: data, or a thing of one's own (the k-th cell) -/
inductive R where
  | v (d : D) | o (k : Nat)
abbrev Om := List (Option D)
abbrev Rho := List (Option R)

def Ex (H H' : Hp) : Prop := ∀ a o, H a = some o → H' a = some o
theorem Ex.refl (H : Hp) : Ex H H := fun _ _ h => h
theorem Ex.trans {H H1 H2 : Hp} (a : Ex H H1) (b : Ex H1 H2) : Ex H H2 := fun x o h => b x o (a x o h)
theorem Ex.new {H : Hp} {p : Addr} {o : HO} (h : H p = none) : Ex H (upd H p o) := fun a u e => by
  rw [upd_ne (ne_of_none e h)]
  exact e
theorem Ex.mut {H H' : Hp} {p : Addr} {o : HO} (e : Ex H H') (h : H p = none) : Ex H (upd H' p o) := fun a u ha => by
  rw [upd_ne (ne_of_none ha h)]
  exact e a u ha
theorem Ex.both {G H : Hp} {p : Addr} {o : HO} (e : Ex G H) : Ex (upd G p o) (upd H p o) := fun a u ha => by
  by_cases q : a = p
  · subst q; rw [upd_same] at ha ⊢; exact ha
  · rw [upd_ne q] at ha ⊢; exact e a u ha
theorem Ex.free {H H' : Hp} {p : Addr} (e : Ex H H') (h : H' p = none) : H p = none := by
  cases q : H p with
  | none => rfl
  | some o => rw [e p o q] at h; cases h
theorem Ex.rd {H H' : Hp} {a : Addr} {u : HO} (e : Ex H H') (h : Rd H a u) : Rd H' a u := by
  rcases h with h | ⟨o, h⟩
  · exact .inl (e a _ h)
  · exact .inr ⟨o, e a _ h⟩
theorem Ex.l {K : PySem.W.Frag} {H H' : Hp} {a : Addr} {xs : List V} (e : Ex H H') (h : SqL K H a xs) : SqL K H' a xs := by
  rcases h with h | h
  · exact .inl (e.rd h)
  · exact .inr h
theorem Ex.t {K : PySem.W.Frag} {H H' : Hp} {a : Addr} {xs : List V} (e : Ex H H') (h : SqT K H a xs) : SqT K H' a xs := by
  rcases h with h | h
  · exact .inl (e.rd h)
  · exact .inr h

mutual
inductive Is (K : PySem.W.Frag) (G : Hp) : V → D → Prop
  | non : Is K G .non .non
  | bl (b : Bool) : Is K G (.bl b) (.bl b)
  | int (i : Int) : Is K G (.int i) (.int i)
  | str (x : Str) : Is K G (.str x) (.str x)
  | ty (n : String) : Is K G (.ty n) (.ty n)
  | lst {a : Addr} {xs : List V} {ds : List D} : G a = some (.lst xs) → IsL K G xs ds → Is K G (.ref a) (.lst ds)
  | tup {a : Addr} {xs : List V} {ds : List D} : G a = some (.tup xs) → IsL K G xs ds → Is K G (.ref a) (.tup ds)
  | dic {a : Addr} {od : Obj} {kvs : List (Key × V)} {kds : List (Key × D)} : G a = some (.frz od (.dK kvs)) → IsD K G kvs kds → Is K G (.ref a) (.dic kds)
  | dit {a : Addr} {od : Obj} {kvs : List (List Key × V)} {kds : List (List Key × D)} : G a = some (.frz od (.dT kvs)) → IsD K G kvs kds → Is K G (.ref a) (.dit kds)
  | ins {a C dx : Addr} {fs : List (Str × V)} {fds : List (Str × D)} : G a = some (.ins C dx fs) → IsD K G fs fds → Is K G (.ref a) (.ins C fds)
  | exc0 {a C : Addr} : G a = some (DX.exV (.ref C) none a) → Is K G (.ref a) (.exc C [])
  | excF {a C d : Addr} {fs : List (Str × V)} {fds : List (Str × D)} : G a = some (DX.exV (.ref C) (some d) a) → G d = some (.xd fs) → IsD K G fs fds → Is K G (.ref a) (.exc C fds)
  | obj (a : Addr) : Is K G (.ref a) (.obj a)
inductive IsL (K : PySem.W.Frag) (G : Hp) : List V → List D → Prop
  | nil : IsL K G [] []
  | cons {v : V} {vs : List V} {d : D} {ds : List D} : Is K G v d → IsL K G vs ds → IsL K G (v :: vs) (d :: ds)
inductive IsD (K : PySem.W.Frag) (G : Hp) : {κ : Type} → List (κ × V) → List (κ × D) → Prop
  | nil {κ : Type} : IsD K G ([] : List (κ × V)) ([] : List (κ × D))
  | cons {κ : Type} {k : κ} {v : V} {vs : List (κ × V)} {d : D} {ds : List (κ × D)} : Is K G v d → IsD K G vs ds → IsD K G ((k, v) :: vs) ((k, d) :: ds)
end
section
variable {K : PySem.W.Frag} {G G' : Hp}
mutual
theorem Is.mono (e : Ex G G') : ∀ {v : V} {d : D}, Is K G v d → Is K G' v d
  | _, _, .non => .non
  | _, _, .bl b => .bl b
  | _, _, .int i => .int i
  | _, _, .str x => .str x
  | _, _, .ty n => .ty n
  | _, _, .lst h q => .lst (e _ _ h) (IsL.mono e q)
  | _, _, .tup h q => .tup (e _ _ h) (IsL.mono e q)
  | _, _, .dic h q => .dic (e _ _ h) (IsD.mono e q)
  | _, _, .dit h q => .dit (e _ _ h) (IsD.mono e q)
  | _, _, .ins h q => .ins (e _ _ h) (IsD.mono e q)
  | _, _, .exc0 h => .exc0 (e _ _ h)
  | _, _, .excF h h2 q => .excF (e _ _ h) (e _ _ h2) (IsD.mono e q)
  | _, _, .obj a => .obj a
theorem IsL.mono (e : Ex G G') : ∀ {v : List V} {d : List D}, IsL K G v d → IsL K G' v d
  | _, _, .nil => .nil
  | _, _, .cons h q => .cons (Is.mono e h) (IsL.mono e q)
theorem IsD.mono (e : Ex G G') : ∀ {κ : Type} {v : List (κ × V)} {d : List (κ × D)}, IsD K G v d → IsD K G' v d
  | _, _, _, .nil => .nil
  | _, _, _, .cons h q => .cons (Is.mono e h) (IsD.mono e q)
end
theorem IsL.length : ∀ {vs : List V} {ds : List D}, IsL K G vs ds → vs.length = ds.length
  | _, _, .nil => rfl
  | _, _, .cons _ q => congrArg (· + 1) (IsL.length q)
theorem IsL.get : ∀ {vs : List V} {ds : List D} {i : Nat} {d : D}, IsL K G vs ds → ds[i]? = some d → ∃ v, vs[i]? = some v ∧ Is K G v d
  | _, _, _, _, .nil, e => by simp at e
  | _, _, 0, _, .cons r _, e => by simp at e; subst e; exact ⟨_, rfl, r⟩
  | _, _, i + 1, d, .cons _ t, e => by
    obtain ⟨u, h1, h2⟩ := IsL.get (i := i) (d := d) t (by simpa using e)
    exact ⟨u, by simpa using h1, h2⟩
theorem IsL.get' : ∀ {vs : List V} {ds : List D} {i : Nat} {v : V}, IsL K G vs ds → vs[i]? = some v → ∃ d, ds[i]? = some d ∧ Is K G v d
  | _, _, _, _, .nil, e => by simp at e
  | _, _, 0, _, .cons r _, e => by simp at e; subst e; exact ⟨_, rfl, r⟩
  | _, _, i + 1, v, .cons _ t, e => by
    obtain ⟨u, h1, h2⟩ := IsL.get' (i := i) (v := v) t (by simpa using e)
    exact ⟨u, by simpa using h1, h2⟩
theorem IsL.append : ∀ {xs ys : List V} {us ws : List D}, IsL K G xs us → IsL K G ys ws → IsL K G (xs ++ ys) (us ++ ws)
  | _, _, _, _, .nil, s => s
  | _, _, _, _, .cons r t, s => .cons r (IsL.append t s)
theorem IsL.take : ∀ {xs : List V} {us : List D} (n : Nat), IsL K G xs us → IsL K G (xs.take n) (us.take n)
  | _, _, 0, _ => .nil
  | _, _, _ + 1, .nil => .nil
  | _, _, n + 1, .cons r t => .cons r (IsL.take n t)
theorem IsL.drop : ∀ {xs : List V} {us : List D} (n : Nat), IsL K G xs us → IsL K G (xs.drop n) (us.drop n)
  | _, _, 0, r => r
  | _, _, _ + 1, .nil => .nil
  | _, _, n + 1, .cons _ t => IsL.drop n t
theorem IsL.erase : ∀ {xs : List V} {us : List D} (n : Nat), IsL K G xs us → IsL K G (xs.eraseIdx n) (us.eraseIdx n)
  | _, _, _, .nil => .nil
  | _, _, 0, .cons _ t => t
  | _, _, n + 1, .cons r t => .cons r (IsL.erase n t)
theorem IsL.reverse : ∀ {xs : List V} {us : List D}, IsL K G xs us → IsL K G xs.reverse us.reverse
  | _, _, .nil => .nil
  | _, _, .cons r t => by
    rw [List.reverse_cons, List.reverse_cons]
    exact (IsL.reverse t).append (.cons r .nil)
theorem IsL.ints : ∀ (ns : List Int), IsL K G (ns.map V.int) (ns.map D.int)
  | [] => .nil
  | _ :: ns => .cons (.int _) (IsL.ints ns)
end

/-- what stands at a cell of one's own -/
def Cell (K : PySem.W.Frag) (G : Hp) (o : HO) : D → Prop
  | .lst ds => ∃ vs, o = .lst vs ∧ IsL K G vs ds
  | .dic kds => ∃ kvs, o = .dK kvs ∧ IsD K G kvs kds
  | .dit kds => ∃ kvs, o = .dT kvs ∧ IsD K G kvs kds
  | .ins C fds => ∃ dx fs, o = .ins C dx fs ∧ IsD K G fs fds
  | _ => False
theorem Cell.mono {K : PySem.W.Frag} {G G' : Hp} {o : HO} {d : D} (h : Cell K G o d) (e : Ex G G') : Cell K G' o d := by
  unfold Cell at h ⊢
  split at h
  · obtain ⟨vs, h1, h2⟩ := h; exact ⟨vs, h1, h2.mono e⟩
  · obtain ⟨vs, h1, h2⟩ := h; exact ⟨vs, h1, h2.mono e⟩
  · obtain ⟨vs, h1, h2⟩ := h; exact ⟨vs, h1, h2.mono e⟩
  · obtain ⟨dx, vs, h1, h2⟩ := h; exact ⟨dx, vs, h1, h2.mono e⟩
  · exact h.elim
def isDict : D → Bool
  | .dic _ => true | .dit _ => true | _ => false
theorem Cell.is {K : PySem.W.Frag} {G : Hp} {o : HO} {d : D} {p : Addr} (h : Cell K G o d) (n : isDict d = false) (e : G p = some o) : Is K G (.ref p) d := by
  unfold Cell at h
  split at h
  · obtain ⟨vs, rfl, h2⟩ := h; exact .lst e h2
  · cases n
  · cases n
  · obtain ⟨dx, vs, rfl, h2⟩ := h; exact .ins e h2
  · exact h.elim
/-- a dict that is data is locked -/
theorem Cell.isD {K : PySem.W.Frag} {G : Hp} {o : HO} {d : D} {p : Addr} {od : Obj} (h : Cell K G o d) (n : isDict d = true) (e : G p = some (.frz od o)) : Is K G (.ref p) d := by
  unfold Cell at h
  split at h
  · cases n
  · obtain ⟨vs, rfl, h2⟩ := h; exact .dic e h2
  · obtain ⟨vs, rfl, h2⟩ := h; exact .dit e h2
  · cases n
  · exact h.elim
theorem Cell.mut {K : PySem.W.Frag} {G : Hp} {o : HO} {d : D} (h : Cell K G o d) : Mut (some o) := by
  unfold Cell at h
  split at h
  · obtain ⟨vs, rfl, h2⟩ := h; trivial
  · obtain ⟨vs, rfl, h2⟩ := h; trivial
  · obtain ⟨vs, rfl, h2⟩ := h; trivial
  · obtain ⟨dx, vs, rfl, h2⟩ := h; trivial
  · exact h.elim
theorem Cell.noTab {K : PySem.W.Frag} {G : Hp} {o : HO} {d : D} (h : Cell K G o d) : (∀ ps, o ≠ .tbl ps) ∧ ∀ c q, o ≠ LamX.CodeO c q := by
  unfold Cell at h
  split at h
  · obtain ⟨vs, rfl, h2⟩ := h; exact ⟨fun _ z => (by cases z), fun _ _ z => (by unfold LamX.CodeO at z; cases z)⟩
  · obtain ⟨vs, rfl, h2⟩ := h; exact ⟨fun _ z => (by cases z), fun _ _ z => (by unfold LamX.CodeO at z; cases z)⟩
  · obtain ⟨vs, rfl, h2⟩ := h; exact ⟨fun _ z => (by cases z), fun _ _ z => (by unfold LamX.CodeO at z; cases z)⟩
  · obtain ⟨dx, vs, rfl, h2⟩ := h; exact ⟨fun _ z => (by cases z), fun _ _ z => (by unfold LamX.CodeO at z; cases z)⟩
  · exact h.elim
/-! ### the state of the draws, the anchor -/
structure Dr where
  d : Addr
  g : Addr
  c : Addr
  cs : List Int
  T : List (Addr × Str)
def DrawIn (H : Hp) (x : Dr) : Prop := ∃ (great : List Int) (cells : Unit) (rest turn : Int),
  H x.d = some (.dK [(.inr "great", .ref x.g), (.inr "rest", .int rest), (.inr "cells", .ref x.c), (.inr "turn", .int turn)]) ∧
  H x.g = some (.lst (great.map V.int)) ∧ H x.c = some (.lst (x.cs.map V.int))
def Off (x : Option Dr) (a : Addr) : Prop := ∀ y, x = some y → a ≠ y.d ∧ a ≠ y.g ∧ a ≠ y.c
def DrG (x : Option Dr) (G H : Hp) : Prop := ∀ y, x = some y → DrawIn H y ∧ G y.d = none ∧ G y.g = none ∧ G y.c = none ∧ LamX.Tabs y.T H
/-- no table -/
def NT (o : HO) : Prop := ∀ ps, o ≠ .tbl ps
/-- no table and no code object -/
def NoTab (o : HO) : Prop := (∀ ps, o ≠ .tbl ps) ∧ ∀ c q, o ≠ LamX.CodeO c q
theorem tabs_upd {T : List (Addr × Str)} {H : Hp} {p : Addr} {o : HO} (t : LamX.Tabs T H) (hp : ∀ u, H p = some u → NoTab u) : LamX.Tabs T (upd H p o) := fun q hq => by
  obtain ⟨ps, h1, h2, h3⟩ := t q hq
  have ne : q.1 ≠ p := fun z => by rw [z] at h1; exact (hp _ h1).1 ps rfl
  refine ⟨ps, by rw [upd_ne ne]; exact h1, h2, fun pos cv hc => ?_⟩
  obtain ⟨c, e1, e2⟩ := h3 pos cv hc
  have ne2 : c ≠ p := fun z => by rw [z] at e2; exact (hp _ e2).2 p q.2 rfl
  exact ⟨c, e1, by rw [upd_ne ne2]; exact e2⟩
theorem NoTab.none {H : Hp} {p : Addr} (hp : H p = none) : ∀ u, H p = some u → NoTab u := fun u h => by rw [hp] at h; cases h
/-- what a callee may count on: the heap without its tables -/
def strip (H : Hp) : Hp := fun a => match H a with
  | some (.tbl _) => none
  | o => o
theorem strip_some {H : Hp} {a : Addr} {o : HO} (h : strip H a = some o) : H a = some o ∧ NT o := by
  unfold strip at h
  split at h
  · cases h
  · rename_i n
    exact ⟨h, fun ps z => n ps (by rw [h, z])⟩
theorem strip_of {H : Hp} {a : Addr} {o : HO} (h : H a = some o) (n : NT o) : strip H a = some o := by
  unfold strip
  rw [h]
  cases o <;> first | rfl | exact absurd rfl (n _)
theorem strip_nt {H : Hp} {a : Addr} {ps : Array Value} : strip H a ≠ some (.tbl ps) := fun h => (strip_some h).2 ps rfl
/-- the entry: what stood there; whether a thing of one's own may be returned; cells whose places are known -/
structure An where
  G0 : Hp
  H0 : Hp
  ow : Bool
  ties : List (Nat × Addr)

inductive IsR (K : PySem.W.Frag) (G : Hp) (τ : List Addr) : V → R → Prop
  | v {x : V} {d : D} : Is K G x d → IsR K G τ x (.v d)
  | o {a : Addr} {k : Nat} : τ[k]? = some a → IsR K G τ (.ref a) (.o k)

/-- what is known of the heap H: G is the part that never changes -/
structure Good (K : PySem.W.Frag) (an : An) (dr : Option Dr) (om : Om) (τ : List Addr) (G H : Hp) : Prop where
  ex : Ex G H
  len : om.length = τ.length
  nd : τ.Nodup
  own : ∀ (k : Nat) (p : Addr) (d : D), τ[k]? = some p → om[k]? = some (some d) → G p = none ∧ an.H0 p = none ∧ Off dr p ∧ ∃ o, H p = some o ∧ Cell K G o d
  drg : DrG dr G H
  a1 : Ex an.G0 G
  a2 : ∀ a o, an.H0 a = some o → Off dr a → H a = some o
  a3 : ∀ a, an.H0 a ≠ none → an.G0 a = none → G a = none
  a4 : ∀ (k : Nat) (p : Addr), τ[k]? = some p → Off dr p ∧ ∃ o, H p = some o ∧ NT o
  gt : ∀ a o, G a = some o → NT o
  nt0 : ∀ a ps, an.H0 a ≠ some (.tbl ps)
  ti : ∀ t ∈ an.ties, τ[t.1]? = some t.2
def EnvIs (K : PySem.W.Frag) (G : Hp) (τ : List Addr) (σ : L2.St) (ρ : Rho) : Prop := ∀ (i : Nat) (r : R), ρ[i]? = some (some r) → ∃ v, σ[i]? = some (some v) ∧ IsR K G τ v r
structure Grow (G : Hp) (τ : List Addr) (G' : Hp) (τ' : List Addr) : Prop where
  ex : Ex G G'
  pre : ∀ (k : Nat) (p : Addr), τ[k]? = some p → τ'[k]? = some p
theorem Grow.refl (G : Hp) (τ : List Addr) : Grow G τ G τ := ⟨Ex.refl G, fun _ _ h => h⟩
theorem Grow.trans {G G1 G2 : Hp} {τ τ1 τ2 : List Addr} (a : Grow G τ G1 τ1) (b : Grow G1 τ1 G2 τ2) : Grow G τ G2 τ2 := ⟨a.ex.trans b.ex, fun k p h => b.pre k p (a.pre k p h)⟩
theorem IsR.mono {K : PySem.W.Frag} {G G' : Hp} {τ τ' : List Addr} {v : V} {r : R} (g : Grow G τ G' τ') (h : IsR K G τ v r) : IsR K G' τ' v r := by
  cases h with
  | v h => exact .v (h.mono g.ex)
  | o h => exact .o (g.pre _ _ h)
theorem EnvIs.mono {K : PySem.W.Frag} {G G' : Hp} {τ τ' : List Addr} {σ : L2.St} {ρ : Rho} (g : Grow G τ G' τ') (h : EnvIs K G τ σ ρ) : EnvIs K G' τ' σ ρ := fun i r e => by
  obtain ⟨v, h1, h2⟩ := h i r e
  exact ⟨v, h1, h2.mono g⟩

section
variable {K : PySem.W.Frag} {an : An} {dr : Option Dr} {om : Om} {τ : List Addr} {G H : Hp}
/-- a new thing that never changes -/
theorem Good.alloc {p : Addr} {o : HO} (g : Good K an dr om τ G H) (hp : H p = none) (ho : NT o := by intro _ z; cases z) : Good K an dr om τ (upd G p o) (upd H p o) where
  ex := g.ex.both
  len := g.len
  nd := g.nd
  own := fun k q ds h1 h2 => by
    obtain ⟨e1, e2, e3, vs, e4, e5⟩ := g.own k q ds h1 h2
    have nq : q ≠ p := ne_of_none e4 hp
    exact ⟨by rw [upd_ne nq]; exact e1, e2, e3, vs, by rw [upd_ne nq]; exact e4, e5.mono (Ex.new (g.ex.free hp))⟩
  drg := fun y hy => by
    obtain ⟨⟨gr, ce, re, tu, h1, h2, h3⟩, h4, h5, h6, h7⟩ := g.drg y hy
    have n1 : y.d ≠ p := ne_of_none h1 hp
    have n2 : y.g ≠ p := ne_of_none h2 hp
    have n3 : y.c ≠ p := ne_of_none h3 hp
    exact ⟨⟨gr, ce, re, tu, by rw [upd_ne n1]; exact h1, by rw [upd_ne n2]; exact h2, by rw [upd_ne n3]; exact h3⟩, by rw [upd_ne n1]; exact h4, by rw [upd_ne n2]; exact h5, by rw [upd_ne n3]; exact h6, tabs_upd h7 (NoTab.none hp)⟩
  a1 := g.a1.trans (Ex.new (g.ex.free hp))
  a2 := fun a o' h1 h2 => by
    have q := g.a2 a o' h1 h2
    rw [upd_ne (ne_of_none q hp)]; exact q
  a3 := fun a h1 h2 => by
    by_cases q : a = p
    · subst q
      cases e : an.H0 a with
      | none => exact absurd e h1
      | some o' =>
        exfalso
        by_cases hof : Off dr a
        · rw [g.a2 a o' e hof] at hp; cases hp
        · apply hof
          intro y hy
          obtain ⟨⟨gr, ce, re, tu, h1, h2, h3⟩, _⟩ := g.drg y hy
          exact ⟨(ne_of_none h1 hp).symm, (ne_of_none h2 hp).symm, (ne_of_none h3 hp).symm⟩
    · rw [upd_ne q]; exact g.a3 a h1 h2
  a4 := fun k q h1 => by
    obtain ⟨h0, o', h2, h3⟩ := g.a4 k q h1
    exact ⟨h0, o', by rw [upd_ne (ne_of_none h2 hp)]; exact h2, h3⟩
  gt := fun a u h => by
    by_cases q : a = p
    · subst q; rw [upd_same] at h; cases h; exact ho
    · rw [upd_ne q] at h; exact g.gt a u h
  nt0 := g.nt0
  ti := g.ti
theorem Good.grow {p : Addr} {o : HO} (g : Good K an dr om τ G H) (hp : H p = none) : Grow G τ (upd G p o) τ := ⟨Ex.new (g.ex.free hp), fun _ _ h => h⟩
theorem Good.off {p : Addr} (g : Good K an dr om τ G H) (hp : H p = none) : Off dr p := fun y hy => by
  obtain ⟨⟨gr, ce, re, tu, h1, h2, h3⟩, _⟩ := g.drg y hy
  exact ⟨(ne_of_none h1 hp).symm, (ne_of_none h2 hp).symm, (ne_of_none h3 hp).symm⟩
theorem Good.free0 {p : Addr} (g : Good K an dr om τ G H) (hp : H p = none) : an.H0 p = none := by
  cases e : an.H0 p with
  | none => rfl
  | some o => rw [g.a2 p o e (g.off hp)] at hp; cases hp
/-- a new thing of one's own -/
theorem Good.freshO {p : Addr} {o : HO} {d : D} (g : Good K an dr om τ G H) (hp : H p = none) (hi : Cell K G o d) : Good K an dr (om ++ [some d]) (τ ++ [p]) G (upd H p o) where
  ex := g.ex.mut (g.ex.free hp)
  len := by rw [List.length_append, List.length_append, g.len]; rfl
  nd := by
    rw [List.nodup_append]
    refine ⟨g.nd, by simp, fun a h1 b h2 => ?_⟩
    rw [List.mem_singleton] at h2
    subst h2
    obtain ⟨k, hk⟩ := List.getElem?_of_mem h1
    obtain ⟨_, o, ho, _⟩ := g.a4 k a hk
    exact ne_of_none ho hp
  own := fun k q es h1 h2 => by
    by_cases hk : k < τ.length
    · rw [List.getElem?_append_left hk] at h1
      rw [List.getElem?_append_left (by rw [g.len]; exact hk)] at h2
      obtain ⟨e1, e2, e3, us, e4, e5⟩ := g.own k q es h1 h2
      exact ⟨e1, e2, e3, us, by rw [upd_ne (ne_of_none e4 hp)]; exact e4, e5⟩
    · rw [List.getElem?_append_right (by omega)] at h1
      rw [List.getElem?_append_right (by rw [g.len]; omega), g.len] at h2
      have hz : k - τ.length = 0 := by
        have := (List.getElem?_eq_some_iff.mp h1).1
        simp at this
        omega
      rw [hz] at h1 h2
      simp at h1 h2
      subst h1 h2
      exact ⟨g.ex.free hp, g.free0 hp, g.off hp, o, upd_same, hi⟩
  drg := fun y hy => by
    obtain ⟨⟨gr, ce, re, tu, h1, h2, h3⟩, h4, h5, h6, h7⟩ := g.drg y hy
    exact ⟨⟨gr, ce, re, tu, by rw [upd_ne (ne_of_none h1 hp)]; exact h1, by rw [upd_ne (ne_of_none h2 hp)]; exact h2, by rw [upd_ne (ne_of_none h3 hp)]; exact h3⟩, h4, h5, h6, tabs_upd h7 (NoTab.none hp)⟩
  a1 := g.a1
  a2 := fun a o' h1 h2 => by
    have q := g.a2 a o' h1 h2
    rw [upd_ne (ne_of_none q hp)]; exact q
  a3 := g.a3
  a4 := fun k q h1 => by
    by_cases hk : k < τ.length
    · rw [List.getElem?_append_left hk] at h1
      obtain ⟨h0, o', h2, h3⟩ := g.a4 k q h1
      exact ⟨h0, o', by rw [upd_ne (ne_of_none h2 hp)]; exact h2, h3⟩
    · rw [List.getElem?_append_right (by omega)] at h1
      have hz : k - τ.length = 0 := by
        have := (List.getElem?_eq_some_iff.mp h1).1
        simp at this
        omega
      rw [hz] at h1
      simp at h1
      subst h1
      exact ⟨g.off hp, _, upd_same, hi.noTab.1⟩
  gt := g.gt
  nt0 := g.nt0
  ti := fun t ht => by
    have := g.ti t ht
    rw [List.getElem?_append_left (List.getElem?_eq_some_iff.mp this).1]; exact this
theorem Good.fresh {p : Addr} {vs : List V} {ds : List D} (g : Good K an dr om τ G H) (hp : H p = none) (hi : IsL K G vs ds) : Good K an dr (om ++ [some (.lst ds)]) (τ ++ [p]) G (upd H p (.lst vs)) := g.freshO hp ⟨_, rfl, hi⟩
theorem Good.growF {p : Addr} : Grow G τ G (τ ++ [p]) := ⟨Ex.refl G, fun k q h => by rw [List.getElem?_append_left (List.getElem?_eq_some_iff.mp h).1]; exact h⟩
/-- a thing of one's own changes -/
theorem Good.writeO {k : Nat} {p : Addr} {o : HO} {d es : D} (g : Good K an dr om τ G H) (hk : τ[k]? = some p) (ho : om[k]? = some (some es)) (hi : Cell K G o d) : Good K an dr (om.set k (some d)) τ G (upd H p o) := by
  obtain ⟨f1, f2, f3, us, f4, f5⟩ := g.own k p es hk ho
  exact {
    ex := g.ex.mut f1
    len := by rw [List.length_set]; exact g.len
    nd := g.nd
    own := fun j q fs h1 h2 => by
      by_cases hj : k = j
      · subst hj
        rw [hk] at h1
        cases h1
        rw [List.getElem?_set_self (by rw [g.len]; exact (List.getElem?_eq_some_iff.mp hk).1)] at h2
        cases h2
        exact ⟨f1, f2, f3, o, upd_same, hi⟩
      · rw [List.getElem?_set_ne hj] at h2
        obtain ⟨e1, e2, e3, ws, e4, e5⟩ := g.own j q fs h1 h2
        have nq : q ≠ p := by
          intro z
          subst z
          exact hj ((List.getElem?_inj (List.getElem?_eq_some_iff.mp hk).1 g.nd).mp (hk.trans h1.symm))
        exact ⟨e1, e2, e3, ws, by rw [upd_ne nq]; exact e4, e5⟩
    drg := fun y hy => by
      obtain ⟨⟨gr, ce, re, tu, h1, h2, h3⟩, h4, h5, h6, h7⟩ := g.drg y hy
      obtain ⟨n1, n2, n3⟩ := f3 y hy
      exact ⟨⟨gr, ce, re, tu, by rw [upd_ne n1.symm]; exact h1, by rw [upd_ne n2.symm]; exact h2, by rw [upd_ne n3.symm]; exact h3⟩, h4, h5, h6, tabs_upd h7 fun u hu => by rw [f4] at hu; cases hu; exact f5.noTab⟩
    a1 := g.a1
    a2 := fun a o' h1 h2 => by
      rw [upd_ne (ne_of_none h1 f2)]; exact g.a2 a o' h1 h2
    a3 := g.a3
    a4 := fun j q h1 => by
      obtain ⟨h0, o', h2, h3⟩ := g.a4 j q h1
      by_cases z : q = p
      · subst z; exact ⟨h0, _, upd_same, hi.noTab.1⟩
      · exact ⟨h0, o', by rw [upd_ne z]; exact h2, h3⟩
    gt := g.gt
    nt0 := g.nt0
    ti := g.ti }
theorem Good.write {k : Nat} {p : Addr} {vs : List V} {ds : List D} {es : D} (g : Good K an dr om τ G H) (hk : τ[k]? = some p) (ho : om[k]? = some (some es)) (hi : IsL K G vs ds) : Good K an dr (om.set k (some (.lst ds))) τ G (upd H p (.lst vs)) := g.writeO hk ho ⟨_, rfl, hi⟩
/-- a thing of one's own is closed: it never changes from now on -/
theorem Good.close {k : Nat} {p : Addr} {ds : D} {o : HO} (g : Good K an dr om τ G H) (hk : τ[k]? = some p) (ho : om[k]? = some (some ds)) (ht : NT o := by intro _ z; cases z) : Good K an dr (om.set k none) τ (upd G p o) (upd H p o) := by
  obtain ⟨f1, f2, f3, vs, f4, f5⟩ := g.own k p ds hk ho
  exact {
    ex := g.ex.both
    len := by rw [List.length_set]; exact g.len
    nd := g.nd
    own := fun j q fs h1 h2 => by
      by_cases hj : k = j
      · subst hj
        rw [List.getElem?_set_self (by rw [g.len]; exact (List.getElem?_eq_some_iff.mp hk).1)] at h2
        cases h2
      · rw [List.getElem?_set_ne hj] at h2
        obtain ⟨e1, e2, e3, ws, e4, e5⟩ := g.own j q fs h1 h2
        have nq : q ≠ p := by
          intro z
          subst z
          exact hj ((List.getElem?_inj (List.getElem?_eq_some_iff.mp hk).1 g.nd).mp (hk.trans h1.symm))
        exact ⟨by rw [upd_ne nq]; exact e1, e2, e3, ws, by rw [upd_ne nq]; exact e4, e5.mono (Ex.new f1)⟩
    drg := fun y hy => by
      obtain ⟨⟨gr, ce, re, tu, q1, q2, q3⟩, h4, h5, h6, h7⟩ := g.drg y hy
      obtain ⟨n1, n2, n3⟩ := f3 y hy
      exact ⟨⟨gr, ce, re, tu, by rw [upd_ne n1.symm]; exact q1, by rw [upd_ne n2.symm]; exact q2, by rw [upd_ne n3.symm]; exact q3⟩, by rw [upd_ne n1.symm]; exact h4, by rw [upd_ne n2.symm]; exact h5, by rw [upd_ne n3.symm]; exact h6, tabs_upd h7 fun u hu => by rw [f4] at hu; cases hu; exact f5.noTab⟩
    a1 := g.a1.trans (Ex.new f1)
    a2 := fun a o' h1 h2 => by
      rw [upd_ne (ne_of_none h1 f2)]; exact g.a2 a o' h1 h2
    a3 := fun a h1 h2 => by
      have z : a ≠ p := fun z => h1 (z ▸ f2)
      rw [upd_ne z]; exact g.a3 a h1 h2
    a4 := fun j q h1 => by
      obtain ⟨h0, o', h2, h3⟩ := g.a4 j q h1
      by_cases z : q = p
      · subst z; exact ⟨h0, _, upd_same, ht⟩
      · exact ⟨h0, o', by rw [upd_ne z]; exact h2, h3⟩
    gt := fun a u h => by
      by_cases q : a = p
      · subst q; rw [upd_same] at h; cases h; exact ht
      · rw [upd_ne q] at h; exact g.gt a u h
    nt0 := g.nt0
    ti := g.ti }
theorem upd_id {H : Hp} {p : Addr} {o : HO} (h : H p = some o) : upd H p o = H := by
  funext b
  by_cases z : b = p
  · subst z; rw [upd_same, h]
  · rw [upd_ne z]
theorem Good.freeze {k : Nat} {p : Addr} {ds : D} (g : Good K an dr om τ G H) (hk : τ[k]? = some p) (ho : om[k]? = some (some ds)) (n : isDict ds = false) :
    ∃ o, Good K an dr (om.set k none) τ (upd G p o) H ∧ Grow G τ (upd G p o) τ ∧ Is K (upd G p o) (.ref p) ds := by
  obtain ⟨f1, f2, f3, o, f4, f5⟩ := g.own k p ds hk ho
  have g' := g.close (o := o) hk ho f5.noTab.1
  rw [upd_id f4] at g'
  exact ⟨o, g', ⟨Ex.new f1, fun _ _ h => h⟩, (f5.mono (Ex.new f1)).is n upd_same⟩
/-- a dict is locked as it is closed -/
theorem Good.freezeD {k : Nat} {p : Addr} {ds : D} (g : Good K an dr om τ G H) (hk : τ[k]? = some p) (ho : om[k]? = some (some ds)) (n : isDict ds = true) :
    ∃ u, H p = some u ∧ Mut (some u) ∧ ∀ od, Good K an dr (om.set k none) τ (upd G p (.frz od u)) (upd H p (.frz od u)) ∧ Grow G τ (upd G p (.frz od u)) τ ∧ Is K (upd G p (.frz od u)) (.ref p) ds := by
  obtain ⟨f1, f2, f3, o, f4, f5⟩ := g.own k p ds hk ho
  exact ⟨o, f4, f5.mut, fun od => ⟨g.close hk ho (fun _ z => by cases z), ⟨Ex.new f1, fun _ _ h => h⟩, (f5.mono (Ex.new f1)).isD n upd_same⟩⟩
end
end DL

namespace DL
open PySem L2
/-! ### the judgements -/
section
variable (K : PySem.W.Frag) (an : An) (dr : Option Dr)
def tD (ρ : Rho) (om : Om) (Q : R → Om → Prop) : TE := fun σ H K' => ∃ τ G, Good K an dr om τ G H ∧ EnvIs K G τ σ ρ ∧
  ∀ v r om' τ' G' H', IsR K G' τ' v r → Q r om' → Good K an dr om' τ' G' H' → Grow G τ G' τ' → K' v H'
def tDT (ρ : Rho) (om : Om) (Q : Bool → Om → Prop) : TT := fun σ H K' => ∃ τ G, Good K an dr om τ G H ∧ EnvIs K G τ σ ρ ∧
  ∀ b om' τ' G' H', Q b om' → Good K an dr om' τ' G' H' → Grow G τ G' τ' → K' b H'
def tDA (ρ : Rho) (om : Om) (Q : List R → Om → Prop) : TA := fun σ H K' => ∃ τ G, Good K an dr om τ G H ∧ EnvIs K G τ σ ρ ∧
  ∀ vs rs om' τ' G' H', Paired (IsR K G' τ') vs rs → Q rs om' → Good K an dr om' τ' G' H' → Grow G τ G' τ' → K' vs H'
structure Ed where
  nx : Rho → Om → Prop
  rt : D → Prop
  bk : Rho → Om → Prop := fun _ _ => False
  ct : Rho → Om → Prop := fun _ _ => False
/-- a state that a statement leaves -/
def Left (G : Hp) (τ : List Addr) (n : Nat) (P : Rho → Om → Prop) (σ' : L2.St) (H' : Hp) : Prop :=
  ∃ ρ' om' τ' G', P ρ' om' ∧ Good K an dr om' τ' G' H' ∧ EnvIs K G' τ' σ' ρ' ∧ Grow G τ G' τ' ∧ σ'.length = n ∧ ρ'.length = n
def LeftV (G : Hp) (τ : List Addr) (P : D → Prop) (v : V) (H' : Hp) : Prop :=
  ∃ d om' τ' G', P d ∧ (Is K G' v d ∨ an.ow = true ∧ ∃ (k : Nat) (p : Addr) (c : D), d = .own c ∧ v = .ref p ∧ τ'[k]? = some p ∧ om'[k]? = some (some c)) ∧ Good K an dr om' τ' G' H' ∧ Grow G τ G' τ'
def tDS (ρ : Rho) (om : Om) (E : Ed) : TS := fun Z σ H => ∃ τ G, Good K an dr om τ G H ∧ EnvIs K G τ σ ρ ∧ σ.length = ρ.length ∧
  (∀ σ' H', Left K an dr G τ ρ.length E.nx σ' H' → Z.nx σ' H') ∧ (∀ v H', LeftV K an dr G τ E.rt v H' → Z.rt v H') ∧
  (∀ σ' H', Left K an dr G τ ρ.length E.bk σ' H' → Z.bk σ' H') ∧ (∀ σ' H', Left K an dr G τ ρ.length E.ct σ' H' → Z.ct σ' H')
end
def WE (X : Cx) (an : An) (dr : Option Dr) (ρ : Rho) (om : Om) (e : Expr) (Q : R → Om → Prop) : Prop := PE X e (tD X.K an dr ρ om Q)
def WT (X : Cx) (an : An) (dr : Option Dr) (ρ : Rho) (om : Om) (e : Expr) (Q : Bool → Om → Prop) : Prop := PT X e (tDT X.K an dr ρ om Q)
def WA (X : Cx) (an : An) (dr : Option Dr) (ρ : Rho) (om : Om) (es : List Expr) (Q : List R → Om → Prop) : Prop := PA X es (tDA X.K an dr ρ om Q)
def WS (X : Cx) (an : An) (dr : Option Dr) (ρ : Rho) (om : Om) (st : Stmt) (E : Ed) : Prop := PS X st (tDS X.K an dr ρ om E)
def WSs (X : Cx) (an : An) (dr : Option Dr) (ρ : Rho) (om : Om) (st : List Stmt) (E : Ed) : Prop := PSs X st (tDS X.K an dr ρ om E)

section
variable {X : Cx} {an : An} {dr : Option Dr} {ρ : Rho} {om : Om} {e a b c : Expr} {es : List Expr} {st : Stmt} {sts : List Stmt} {pos : Pos}
theorem peI {t t' : TE} (h : PE X e t) (i : ∀ σ H K', t' σ H K' → t σ H K') : PE X e t' := ⟨fun pins s σ H Q I q => h.run pins s σ H Q I (i σ H Q q)⟩
theorem ptI {t t' : TT} (h : PT X e t) (i : ∀ σ H K', t' σ H K' → t σ H K') : PT X e t' := ⟨fun pins s σ H Q I q => h.run pins s σ H Q I (i σ H Q q)⟩
theorem pwI {t t' : TT} (h : PW X e t) (i : ∀ σ H K', t' σ H K' → t σ H K') : PW X e t' := ⟨fun wh pins s σ H Q I q => h.run wh pins s σ H Q I (i σ H Q q)⟩
theorem paI {t t' : TA} (h : PA X es t) (i : ∀ σ H K', t' σ H K' → t σ H K') : PA X es t' := ⟨fun pos pins s σ H Q I q => h.run pos pins s σ H Q I (i σ H Q q)⟩
theorem psI {t t' : TS} (h : PS X st t) (i : ∀ Z σ H, t' Z σ H → t Z σ H) : PS X st t' := ⟨fun pins s σ H Z I q => h.run pins s σ H Z I (i Z σ H q)⟩
theorem pssI {t t' : TS} (h : PSs X sts t) (i : ∀ Z σ H, t' Z σ H → t Z σ H) : PSs X sts t' := ⟨fun pins s σ H Z I q => h.run pins s σ H Z I (i Z σ H q)⟩

/-! universal readings -/
def uE (X : Cx) (an : An) (dr : Option Dr) (e : Expr) : TE := fun σ H K' => ∃ ρ om Q, WE X an dr ρ om e Q ∧ tD X.K an dr ρ om Q σ H K'
def uT (X : Cx) (an : An) (dr : Option Dr) (e : Expr) : TT := fun σ H K' => ∃ ρ om Q, WT X an dr ρ om e Q ∧ tDT X.K an dr ρ om Q σ H K'
def uA (X : Cx) (an : An) (dr : Option Dr) (e : List Expr) : TA := fun σ H K' => ∃ ρ om Q, WA X an dr ρ om e Q ∧ tDA X.K an dr ρ om Q σ H K'
def uS (X : Cx) (an : An) (dr : Option Dr) (e : List Stmt) : TS := fun Z σ H => ∃ ρ om Q, WSs X an dr ρ om e Q ∧ tDS X.K an dr ρ om Q Z σ H
def uS1 (X : Cx) (an : An) (dr : Option Dr) (e : Stmt) : TS := fun Z σ H => ∃ ρ om Q, WS X an dr ρ om e Q ∧ tDS X.K an dr ρ om Q Z σ H
theorem pe_u : PE X e (uE X an dr e) := ⟨fun pins s σ H K' I ⟨ρ, om, Q, w, h⟩ => PE.run w pins s σ H K' I h⟩
theorem pt_u : PT X e (uT X an dr e) := ⟨fun pins s σ H K' I ⟨ρ, om, Q, w, h⟩ => PT.run w pins s σ H K' I h⟩
theorem pa_u : PA X es (uA X an dr es) := ⟨fun pos pins s σ H K' I ⟨ρ, om, Q, w, h⟩ => PA.run w pos pins s σ H K' I h⟩
theorem ps_u : PS X st (uS1 X an dr st) := ⟨fun pins s σ H K' I ⟨ρ, om, Q, w, h⟩ => PS.run w pins s σ H K' I h⟩
theorem pss_u : PSs X sts (uS X an dr sts) := ⟨fun pins s σ H K' I ⟨ρ, om, Q, w, h⟩ => PSs.run w pins s σ H K' I h⟩

/-- run an expression's word inside a reading -/
theorem uE_of {σ : L2.St} {H : Hp} {τ : List Addr} {G : Hp} {Q : R → Om → Prop} {K' : VK} (w : WE X an dr ρ om e Q) (g : Good X.K an dr om τ G H) (n : EnvIs X.K G τ σ ρ)
    (k : ∀ v r om' τ' G' H', IsR X.K G' τ' v r → Q r om' → Good X.K an dr om' τ' G' H' → Grow G τ G' τ' → EnvIs X.K G' τ' σ ρ → K' v H') : uE X an dr e σ H K' :=
  ⟨ρ, om, Q, w, τ, G, g, n, fun v r om' τ' G' H' h1 h2 h3 h4 => k v r om' τ' G' H' h1 h2 h3 h4 (n.mono h4)⟩
theorem uT_of {σ : L2.St} {H : Hp} {τ : List Addr} {G : Hp} {Q : Bool → Om → Prop} {K' : Bool → Hp → Prop} (w : WT X an dr ρ om e Q) (g : Good X.K an dr om τ G H) (n : EnvIs X.K G τ σ ρ)
    (k : ∀ b om' τ' G' H', Q b om' → Good X.K an dr om' τ' G' H' → Grow G τ G' τ' → EnvIs X.K G' τ' σ ρ → K' b H') : uT X an dr e σ H K' :=
  ⟨ρ, om, Q, w, τ, G, g, n, fun b om' τ' G' H' h2 h3 h4 => k b om' τ' G' H' h2 h3 h4 (n.mono h4)⟩
theorem uA_of {σ : L2.St} {H : Hp} {τ : List Addr} {G : Hp} {Q : List R → Om → Prop} {K' : List V → Hp → Prop} (w : WA X an dr ρ om es Q) (g : Good X.K an dr om τ G H) (n : EnvIs X.K G τ σ ρ)
    (k : ∀ vs rs om' τ' G' H', Paired (IsR X.K G' τ') vs rs → Q rs om' → Good X.K an dr om' τ' G' H' → Grow G τ G' τ' → EnvIs X.K G' τ' σ ρ → K' vs H') : uA X an dr es σ H K' :=
  ⟨ρ, om, Q, w, τ, G, g, n, fun vs rs om' τ' G' H' h1 h2 h3 h4 => k vs rs om' τ' G' H' h1 h2 h3 h4 (n.mono h4)⟩

theorem WE.imp {Q Q' : R → Om → Prop} (h : WE X an dr ρ om e Q) (i : ∀ r om', Q r om' → Q' r om') : WE X an dr ρ om e Q' :=
  peI h fun σ H K' ⟨τ, G, g, n, k⟩ => ⟨τ, G, g, n, fun v r om' τ' G' H' h1 h2 h3 h4 => k v r om' τ' G' H' h1 (i r om' h2) h3 h4⟩
theorem WT.imp {Q Q' : Bool → Om → Prop} (h : WT X an dr ρ om e Q) (i : ∀ r om', Q r om' → Q' r om') : WT X an dr ρ om e Q' :=
  ptI h fun σ H K' ⟨τ, G, g, n, k⟩ => ⟨τ, G, g, n, fun b om' τ' G' H' h2 h3 h4 => k b om' τ' G' H' (i b om' h2) h3 h4⟩

/-! ### names, constants -/
theorem we_name {i : Nat} {x : Str} {r : R} {Q : R → Om → Prop} (hN : X.N[i]? = some x) (hv : Vis X.env.scope x) (hr : ρ[i]? = some (some r)) (q : Q r om) (hd : (x == ("__debug__" : Str)) = false := by decide) (hcd : (x == ("__classdict__" : Str)) = false := by decide) :
    WE X an dr ρ om (.Name x pos) Q := peI (pe_var hN hv hd hcd) fun σ H K' ⟨τ, G, g, n, k⟩ => by
  obtain ⟨v, h1, h2⟩ := n i r hr
  exact ⟨v, h1, k v r om τ G H h2 q g (Grow.refl G τ)⟩
theorem we_c {v : V} {d : D} {Q : R → Om → Prop} (h : PE X e (tC v)) (i : ∀ G, Is X.K G v d) (q : Q (.v d) om) : WE X an dr ρ om e Q := peI h fun σ H K' ⟨τ, G, g, n, k⟩ =>
  k v _ om τ G H (.v (i G)) q g (Grow.refl G τ)
theorem we_int {i : Int} {j} {Q : R → Om → Prop} (q : Q (.v (.int i)) om) : WE X an dr ρ om (.Constant (.int i) j pos) Q := we_c pe_int (fun _ => .int i) q
theorem we_str {i : Str} {j} {Q : R → Om → Prop} (q : Q (.v (.str i)) om) : WE X an dr ρ om (.Constant (.str i) j pos) Q := we_c pe_str (fun _ => .str i) q
theorem we_bl {i : Bool} {j} {Q : R → Om → Prop} (q : Q (.v (.bl i)) om) : WE X an dr ρ om (.Constant (.bool i) j pos) Q := we_c pe_bl (fun _ => .bl i) q
theorem we_non {j} {Q : R → Om → Prop} (q : Q (.v .non) om) : WE X an dr ρ om (.Constant .none j pos) Q := we_c pe_non (fun _ => .non) q
/-- a constant of the module -/
theorem we_glob {x : Str} {v : V} {u : Value} {d : D} {Q : R → Om → Prop} (hm : X.mg x = some u) (r : RelV v u) (i : ∀ G, Is X.K G v d) (hg : Gl X x) (q : Q (.v d) om) (hd : (x == ("__debug__" : Str)) = false := by decide) : WE X an dr ρ om (.Name x pos) Q := we_c (pe_glob hg hm r hd) i q
theorem we_bltn {x : Str} {v : V} {u : Value} {d : D} {Q : R → Om → Prop} (hm : X.mg x = none) (hv : bootBuiltins x = some u) (r : RelV v u) (i : ∀ G, Is X.K G v d) (hg : Gl X x) (q : Q (.v d) om) (hn : x ≠ "__name__" := by decide) (hd : (x == ("__debug__" : Str)) = false := by decide) :
    WE X an dr ρ om (.Name x pos) Q := we_c (pe_bltn hg hm hv r hn hd) i q

/-! ### arguments -/
theorem wa_nil {Q : List R → Om → Prop} (q : Q [] om) : WA X an dr ρ om [] Q := paI pa_nil fun σ H K' ⟨τ, G, g, n, k⟩ => k [] [] om τ G H .nil q g (Grow.refl G τ)
theorem wa_cons {Q : List R → Om → Prop} (h : WE X an dr ρ om e fun r om1 => WA X an dr ρ om1 es fun rs om2 => Q (r :: rs) om2) (hs : starEach (e :: es) X.env = (false, eval e X.env) :: starEach es X.env := by rfl) : WA X an dr ρ om (e :: es) Q :=
  paI (pa_cons (pe_u (an := an) (dr := dr)) (pa_u (an := an) (dr := dr)) hs) fun σ H K' ⟨τ, G, g, n, k⟩ =>
    uE_of h g n fun v r om1 τ1 G1 H1 h1 w g1 gr1 n1 => uA_of w g1 n1 fun vs rs om2 τ2 G2 H2 h2 q g2 gr2 n2 => k (v :: vs) (r :: rs) om2 τ2 G2 H2 (.cons (h1.mono gr2) h2) q g2 (gr1.trans gr2)

/-! ### displays -/
def allV : List R → (List D → Prop) → Prop
  | [], K => K []
  | .v d :: rs, K => allV rs fun ds => K (d :: ds)
  | .o _ :: _, _ => False
theorem allV_is {K : PySem.W.Frag} {G : Hp} {τ : List Addr} : ∀ {vs : List V} {rs : List R} {P : List D → Prop}, Paired (IsR K G τ) vs rs → allV rs P → ∃ ds, IsL K G vs ds ∧ P ds
  | _, _, _, .nil, h => ⟨[], .nil, h⟩
  | _, _, _, .cons (.v a) t, h => by
    obtain ⟨ds, h1, h2⟩ := allV_is t h
    exact ⟨_, .cons a h1, h2⟩
  | _, _, _, .cons (.o _) _, h => h.elim
theorem we_tup {x1} {Q : R → Om → Prop} (h : WA X an dr ρ om es fun rs om1 => allV rs fun ds => ds.length ≤ sizeLine ∧ Q (.v (.tup ds)) om1) : WE X an dr ρ om (.Tuple es x1 pos) Q :=
  peI (pe_tup (pa_u (an := an) (dr := dr))) fun σ H K' ⟨τ, G, g, n, k⟩ => uA_of h g n fun vs rs om1 τ1 G1 H1 h1 q g1 gr1 n1 => by
    obtain ⟨ds, i, z, q⟩ := allV_is h1 q
    exact ⟨by rw [i.length]; exact z, fun p hp => k _ _ om1 τ1 _ _ (.v (.tup upd_same (i.mono (Ex.new (g1.ex.free hp))))) q (g1.alloc hp) (gr1.trans (g1.grow hp))⟩
theorem we_lst {Q : R → Om → Prop} (h : WA X an dr ρ om es fun rs om1 => allV rs fun ds => ds.length ≤ sizeLine ∧ Q (.v (.lst ds)) om1) : WE X an dr ρ om (.List es pos) Q :=
  peI (pe_lst (pa_u (an := an) (dr := dr))) fun σ H K' ⟨τ, G, g, n, k⟩ => uA_of h g n fun vs rs om1 τ1 G1 H1 h1 q g1 gr1 n1 => by
    obtain ⟨ds, i, z, q⟩ := allV_is h1 q
    exact ⟨by rw [i.length]; exact z, fun p hp => k _ _ om1 τ1 _ _ (.v (.lst upd_same (i.mono (Ex.new (g1.ex.free hp))))) q (g1.alloc hp) (gr1.trans (g1.grow hp))⟩
/-- .. as a list of one's own -/
theorem we_lstO {Q : R → Om → Prop} (h : WA X an dr ρ om es fun rs om1 => allV rs fun ds => ds.length ≤ sizeLine ∧ Q (.o om1.length) (om1 ++ [some (.lst ds)])) : WE X an dr ρ om (.List es pos) Q :=
  peI (pe_lst (pa_u (an := an) (dr := dr))) fun σ H K' ⟨τ, G, g, n, k⟩ => uA_of h g n fun vs rs om1 τ1 G1 H1 h1 q g1 gr1 n1 => by
    obtain ⟨ds, i, z, q⟩ := allV_is h1 q
    refine ⟨by rw [i.length]; exact z, fun p hp => k _ _ _ (τ1 ++ [p]) _ _ (.o ?_) q (g1.fresh hp i) (gr1.trans Good.growF)⟩
    rw [g1.len, List.getElem?_append_right (Nat.le_refl _), Nat.sub_self]
    rfl

/-! ### the view of a thing of one's own -/
def cellD : Option (Option D) → D
  | some (some d) => d
  | _ => .dead
def vw (om : Om) : R → D
  | .v d => d
  | .o k => cellD om[k]?
/-- what can stand in a cell, or is dead -/
def canMut : D → Bool
  | .lst _ => true | .dic _ => true | .dit _ => true | .ins _ _ => true | .dead => true | _ => false
theorem cellD_some {c : Option (Option D)} {d : D} (h : cellD c = d) (n : d ≠ .dead) : c = some (some d) := by
  match c, h with
  | some (some es), h => cases h; rfl
  | some none, h => exact absurd h.symm n
  | none, h => exact absurd h.symm n
theorem vw_cell {K : PySem.W.Frag} {τ : List Addr} {G H : Hp} {a : Addr} {k : Nat} {d : D} (g : Good K an dr om τ G H) (h : τ[k]? = some a) (e : vw om (.o k) = d) (n : d ≠ .dead) : ∃ o, H a = some o ∧ Cell K G o d := by
  obtain ⟨_, _, _, o, h1, h2⟩ := g.own k a d h (cellD_some e n)
  exact ⟨o, h1, h2⟩
theorem vw_lst {K : PySem.W.Frag} {τ : List Addr} {G H : Hp} {v : V} {r : R} {ds : List D} (g : Good K an dr om τ G H) (h : IsR K G τ v r) (e : vw om r = .lst ds) : ∃ p vs, v = .ref p ∧ H p = some (.lst vs) ∧ IsL K G vs ds := by
  cases h with
  | v h =>
    have e : _ = D.lst ds := e
    subst e
    cases h with
    | lst h1 h2 => exact ⟨_, _, rfl, g.ex _ _ h1, h2⟩
  | @o a k h =>
    obtain ⟨_, h1, vs, rfl, h2⟩ := vw_cell g h e (by simp)
    exact ⟨a, vs, rfl, h1, h2⟩
theorem vw_dic {K : PySem.W.Frag} {τ : List Addr} {G H : Hp} {v : V} {r : R} {ds : List (Key × D)} (g : Good K an dr om τ G H) (h : IsR K G τ v r) (e : vw om r = .dic ds) : ∃ p vs, v = .ref p ∧ Rd H p (.dK vs) ∧ IsD K G vs ds := by
  cases h with
  | v h =>
    have e : _ = D.dic ds := e
    subst e
    cases h with
    | dic h1 h2 => exact ⟨_, _, rfl, .inr ⟨_, g.ex _ _ h1⟩, h2⟩
  | @o a k h =>
    obtain ⟨_, h1, vs, rfl, h2⟩ := vw_cell g h e (by simp)
    exact ⟨a, vs, rfl, .inl h1, h2⟩
theorem vw_dit {K : PySem.W.Frag} {τ : List Addr} {G H : Hp} {v : V} {r : R} {ds : List (List Key × D)} (g : Good K an dr om τ G H) (h : IsR K G τ v r) (e : vw om r = .dit ds) : ∃ p vs, v = .ref p ∧ Rd H p (.dT vs) ∧ IsD K G vs ds := by
  cases h with
  | v h =>
    have e : _ = D.dit ds := e
    subst e
    cases h with
    | dit h1 h2 => exact ⟨_, _, rfl, .inr ⟨_, g.ex _ _ h1⟩, h2⟩
  | @o a k h =>
    obtain ⟨_, h1, vs, rfl, h2⟩ := vw_cell g h e (by simp)
    exact ⟨a, vs, rfl, .inl h1, h2⟩
theorem vw_ins {K : PySem.W.Frag} {τ : List Addr} {G H : Hp} {v : V} {r : R} {C : Addr} {fds : List (Str × D)} (g : Good K an dr om τ G H) (h : IsR K G τ v r) (e : vw om r = .ins C fds) : ∃ p dx fs, v = .ref p ∧ H p = some (.ins C dx fs) ∧ IsD K G fs fds := by
  cases h with
  | v h =>
    have e : _ = D.ins C fds := e
    subst e
    cases h with
    | ins h1 h2 => exact ⟨_, _, _, rfl, g.ex _ _ h1, h2⟩
  | @o a k h =>
    obtain ⟨_, h1, dx, vs, rfl, h2⟩ := vw_cell g h e (by simp)
    exact ⟨a, dx, vs, rfl, h1, h2⟩
/-- any other data -/
theorem vw_not {K : PySem.W.Frag} {τ : List Addr} {G H : Hp} {v : V} {r : R} {d : D} (g : Good K an dr om τ G H) (h : IsR K G τ v r) (e : vw om r = d) (nm : canMut d = false) : Is K G v d := by
  cases h with
  | v h => exact e ▸ h
  | @o a k h =>
    exfalso
    have nn : d ≠ .dead := by rintro rfl; cases nm
    obtain ⟨o, _, c⟩ := vw_cell g h e nn
    cases d <;> first | (simp [canMut] at nm; done) | exact False.elim c
end
end DL

namespace DL
open PySem L2
/-! ### what a new value leaves -/
section
variable {K : PySem.W.Frag} {an : An} {dr : Option Dr} {om : Om} {τ : List Addr} {G H : Hp}
/-- the end of an operation that gives data -/
def Fin (K : PySem.W.Frag) (an : An) (dr : Option Dr) (om : Om) (τ : List Addr) (G : Hp) (Q : VK) (d : D) : Prop := ∀ v G' H', Is K G' v d → Good K an dr om τ G' H' → Grow G τ G' τ → Q v H'
theorem Fin.flat {Q : VK} {d : D} {v : V} (f : Fin K an dr om τ G Q d) (g : Good K an dr om τ G H) (i : Is K G v d) : Q v H := f v G H i g (Grow.refl G τ)
theorem Fin.lst {Q : VK} {ds : List D} {vs : List V} (f : Fin K an dr om τ G Q (.lst ds)) (g : Good K an dr om τ G H) (i : IsL K G vs ds) (p : Addr) (hp : H p = none) : Q (.ref p) (upd H p (.lst vs)) :=
  f _ _ _ (.lst upd_same (i.mono (Ex.new (g.ex.free hp)))) (g.alloc hp) (g.grow hp)
theorem Fin.tup {Q : VK} {ds : List D} {vs : List V} (f : Fin K an dr om τ G Q (.tup ds)) (g : Good K an dr om τ G H) (i : IsL K G vs ds) (p : Addr) (hp : H p = none) : Q (.ref p) (upd H p (.tup vs)) :=
  f _ _ _ (.tup upd_same (i.mono (Ex.new (g.ex.free hp)))) (g.alloc hp) (g.grow hp)
end
theorem Is.int_inv {K : PySem.W.Frag} {G : Hp} {v : V} {i : Int} (h : Is K G v (.int i)) : v = .int i := by cases h; rfl
theorem Is.str_inv {K : PySem.W.Frag} {G : Hp} {v : V} {i : Str} (h : Is K G v (.str i)) : v = .str i := by cases h; rfl
theorem Is.bl_inv {K : PySem.W.Frag} {G : Hp} {v : V} {i : Bool} (h : Is K G v (.bl i)) : v = .bl i := by cases h; rfl
theorem Is.non_inv {K : PySem.W.Frag} {G : Hp} {v : V} (h : Is K G v .non) : v = .non := by cases h; rfl
theorem Is.tup_inv {K : PySem.W.Frag} {G : Hp} {v : V} {ds : List D} (h : Is K G v (.tup ds)) : ∃ a vs, v = .ref a ∧ G a = some (.tup vs) ∧ IsL K G vs ds := by cases h with | tup h1 h2 => exact ⟨_, _, rfl, h1, h2⟩
theorem Is.lst_inv {K : PySem.W.Frag} {G : Hp} {v : V} {ds : List D} (h : Is K G v (.lst ds)) : ∃ a vs, v = .ref a ∧ G a = some (.lst vs) ∧ IsL K G vs ds := by cases h with | lst h1 h2 => exact ⟨_, _, rfl, h1, h2⟩
section
variable {K : PySem.W.Frag} {an : An} {dr : Option Dr} {om : Om} {τ : List Addr} {G H : Hp} {v : V} {r : R}
theorem vw_int {i : Int} (g : Good K an dr om τ G H) (h : IsR K G τ v r) (e : vw om r = .int i) : v = .int i := (vw_not g h e rfl).int_inv
theorem vw_str {i : Str} (g : Good K an dr om τ G H) (h : IsR K G τ v r) (e : vw om r = .str i) : v = .str i := (vw_not g h e rfl).str_inv
theorem vw_bl {i : Bool} (g : Good K an dr om τ G H) (h : IsR K G τ v r) (e : vw om r = .bl i) : v = .bl i := (vw_not g h e rfl).bl_inv
theorem vw_tupH {ds : List D} (g : Good K an dr om τ G H) (h : IsR K G τ v r) (e : vw om r = .tup ds) : ∃ a vs, v = .ref a ∧ H a = some (.tup vs) ∧ IsL K G vs ds := by
  obtain ⟨a, vs, h1, h2, h3⟩ := (vw_not g h e rfl).tup_inv
  exact ⟨a, vs, h1, g.ex _ _ h2, h3⟩
theorem vw_tup {ds : List D} (g : Good K an dr om τ G H) (h : IsR K G τ v r) (e : vw om r = .tup ds) : ∃ a vs, v = .ref a ∧ SqT K H a vs ∧ IsL K G vs ds := by
  obtain ⟨a, vs, h1, h2, h3⟩ := vw_tupH g h e
  exact ⟨a, vs, h1, .inl (.inl h2), h3⟩
end

/-! ### two operands -/
def binD (op : Operator) (x y : D) (K : D → Prop) : Prop := match op, x, y with
  | .Add, .int i, .int j => K (.int (i + j))
  | .Add, .str a, .str b => a.length + b.length ≤ sizeLine ∧ K (.str (a ++ b))
  | .Add, .lst a, .lst b => a.length + b.length ≤ sizeLine ∧ K (.lst (a ++ b))
  | .Add, .tup a, .tup b => a.length + b.length ≤ sizeLine ∧ K (.tup (a ++ b))
  | .Sub, .int i, .int j => K (.int (i - j))
  | .Mult, .int i, .int j => CMul i j ∧ K (.int (i * j))
  | .FloorDiv, .int i, .int j => CDivW i j ∧ K (.int (i / j))
  | .Mod, .int i, .int j => 0 < j ∧ K (.int (i % j))
  | .Pow, .int i, .int j => CPow i j ∧ K (.int (i ^ j.toNat))
  | .Mult, .lst a, .int j => (-(2 ^ 63) ≤ j ∧ j < 2 ^ 63 ∧ a.length * j.toNat ≤ sizeLine) ∧ K (.lst (List.replicate j.toNat a).flatten)
  | _, _, _ => False
def rBin (X : Cx) (op : Operator) : R2 := fun x y H Q => ∃ an dr om τ G ra rb, Good X.K an dr om τ G H ∧ IsR X.K G τ x ra ∧ IsR X.K G τ y rb ∧ binD op (vw om ra) (vw om rb) (Fin X.K an dr om τ G Q)
theorem IsL.rep {K : PySem.W.Frag} {G : Hp} {vs : List V} {ds : List D} (h : IsL K G vs ds) : ∀ n, IsL K G (List.replicate n vs).flatten (List.replicate n ds).flatten
  | 0 => .nil
  | n + 1 => by
    rw [List.replicate_succ, List.replicate_succ, List.flatten_cons, List.flatten_cons]
    exact h.append (IsL.rep h n)
theorem op_bin {X : Cx} {op : Operator} : OpR X (binaryOp op) (rBin X op) := by
  intro pins s σ H x y v u Q I rx ry h
  obtain ⟨an, dr, om, τ, G, ra, rb, g, ha, hb, h⟩ := h
  unfold binD at h
  split at h
  · rename_i e1 e2
    obtain rfl := vw_int g ha e1
    obtain rfl := vw_int g hb e2
    exact op_add pins s σ H _ _ v u Q I rx ry ⟨_, _, rfl, rfl, h.flat g (.int _)⟩
  · rename_i e1 e2
    obtain rfl := vw_str g ha e1
    obtain rfl := vw_str g hb e2
    exact op_add_str pins s σ H _ _ v u Q I rx ry ⟨_, _, rfl, rfl, h.1, h.2.flat g (.str _)⟩
  · rename_i e1 e2
    obtain ⟨p, vs, rfl, hp, i1⟩ := vw_lst g ha e1
    obtain ⟨q, ws, rfl, hq, i2⟩ := vw_lst g hb e2
    exact op_cat pins s σ H _ _ v u Q I rx ry ⟨p, q, vs, ws, rfl, rfl, hp, hq, by rw [i1.length, i2.length]; exact h.1, fun l hl => h.2.lst g (i1.append i2) l hl⟩
  · rename_i e1 e2
    obtain ⟨p, vs, rfl, hp, i1⟩ := vw_tup g ha e1
    obtain ⟨q, ws, rfl, hq, i2⟩ := vw_tup g hb e2
    have i3 := i1.append i2
    have n1 := vw_not g ha e1 rfl
    have n2 := vw_not g hb e2 rfl
    refine op_catA pins s σ H _ _ v u Q I rx ry ⟨p, q, vs, ws, rfl, rfl, hp, hq, by rw [i1.length, i2.length]; exact h.1, fun z => ?_, fun z1 z => ?_, fun z1 z2 l hl => ?_⟩
    · subst z
      cases i1
      exact h.2.flat g n2
    · subst z
      cases i2
      have h2 := h.2
      rw [List.append_nil] at h2
      exact h2.flat g n1
    · exact h.2.tup g i3 l hl
  · rename_i e1 e2
    obtain rfl := vw_int g ha e1
    obtain rfl := vw_int g hb e2
    exact op_sub pins s σ H _ _ v u Q I rx ry ⟨_, _, rfl, rfl, h.flat g (.int _)⟩
  · rename_i e1 e2
    obtain rfl := vw_int g ha e1
    obtain rfl := vw_int g hb e2
    exact op_mul pins s σ H _ _ v u Q I rx ry ⟨_, _, rfl, rfl, h.1, h.2.flat g (.int _)⟩
  · rename_i e1 e2
    obtain rfl := vw_int g ha e1
    obtain rfl := vw_int g hb e2
    exact op_fdivW pins s σ H _ _ v u Q I rx ry ⟨_, _, rfl, rfl, h.1, h.2.flat g (.int _)⟩
  · rename_i e1 e2
    obtain rfl := vw_int g ha e1
    obtain rfl := vw_int g hb e2
    exact op_mod pins s σ H _ _ v u Q I rx ry ⟨_, _, rfl, rfl, h.1, h.2.flat g (.int _)⟩
  · rename_i e1 e2
    obtain rfl := vw_int g ha e1
    obtain rfl := vw_int g hb e2
    exact op_pow pins s σ H _ _ v u Q I rx ry ⟨_, _, rfl, rfl, h.1, h.2.flat g (.int _)⟩
  · rename_i e1 e2
    obtain ⟨p, vs, rfl, hp, i1⟩ := vw_lst g ha e1
    obtain rfl := vw_int g hb e2
    exact op_rep pins s σ H _ _ v u Q I rx ry ⟨p, _, vs, rfl, rfl, hp, h.1.1, h.1.2.1, by rw [i1.length]; exact h.1.2.2, fun l hl => h.2.lst g (i1.rep _) l hl⟩
  · exact h.elim
section
variable {X : Cx} {an : An} {dr : Option Dr} {ρ : Rho} {om : Om} {e a b c : Expr} {es : List Expr} {pos : Pos} {Q : R → Om → Prop}
theorem we_bin {op : Operator} (h : WE X an dr ρ om a fun ra om1 => WE X an dr ρ om1 b fun rb om2 => binD op (vw om2 ra) (vw om2 rb) fun d => Q (.v d) om2) : WE X an dr ρ om (.BinOp a op b pos) Q :=
  peI (pe_op op_bin (pe_u (an := an) (dr := dr)) (pe_u (an := an) (dr := dr))) fun σ H K' ⟨τ, G, g, n, k⟩ =>
    uE_of h g n fun v r om1 τ1 G1 H1 h1 w g1 gr1 n1 => uE_of w g1 n1 fun v2 r2 om2 τ2 G2 H2 h2 q g2 gr2 n2 =>
      ⟨an, dr, om2, τ2, G2, r, r2, g2, h1.mono gr2, h2, binD_imp q fun d q v' G' H' i' g' gr' => k v' _ om2 τ2 G' H' (.v i') q g' ((gr1.trans gr2).trans gr')⟩
where
  binD_imp {op : Operator} {x y : D} {P P' : D → Prop} (h : binD op x y P) (i : ∀ d, P d → P' d) : binD op x y P' := by
    unfold binD at h ⊢
    split at h
    all_goals first | exact h.elim | exact i _ h | exact ⟨h.1, i _ h.2⟩
end
end DL

namespace DL
open PySem L2
/-! ### data as the library's -/
mutual
def toP : D → PyData
  | .non => .none
  | .bl b => .bool b
  | .int i => .int i
  | .str x => .str x
  | .lst xs => .list (toPs xs)
  | .tup xs => .tuple (toPs xs)
  | _ => .dict []
def toPs : List D → List PyData
  | [] => []
  | d :: ds => toP d :: toPs ds
end
theorem toPs_map : ∀ ds : List D, toPs ds = ds.map toP
  | [] => by simp [toPs]
  | d :: ds => by simp [toPs, toPs_map ds]
section
variable {K : PySem.W.Frag} {G G' : Hp}
mutual
theorem Is.dp (e : Ex G G') : ∀ {v : V} {d : D}, Is K G v d → (toP d).canLay0 = true → Dp K G' v (toP d)
  | _, _, .non, _ => .non
  | _, _, .bl b, _ => .bl b
  | _, _, .int i, _ => .int i
  | _, _, .str x, _ => .str x
  | _, _, .ty n, h => by simp [toP, PyData.canLay0] at h
  | _, _, .lst h q, c => .lst (.inl (.inl (e _ _ h))) (IsL.dp e q (by simpa [toP, PyData.canLay0] using c))
  | _, _, .tup h q, c => .tup (.inl (.inl (e _ _ h))) (IsL.dp e q (by simpa [toP, PyData.canLay0] using c))
  | _, _, .dic h q, c => by simp [toP, PyData.canLay0] at c
  | _, _, .dit h q, c => by simp [toP, PyData.canLay0] at c
  | _, _, .ins h q, c => by simp [toP, PyData.canLay0] at c
  | _, _, .obj a, c => by simp [toP, PyData.canLay0] at c
theorem IsL.dp (e : Ex G G') : ∀ {v : List V} {d : List D}, IsL K G v d → PyData.canLayAll0 (toPs d) = true → DpAll K G' v (toPs d)
  | _, _, .nil, _ => by simp only [toPs]; exact .nil
  | _, _, .cons h q, c => by
    simp only [toPs, PyData.canLayAll0, Bool.and_eq_true] at c ⊢
    exact .cons (Is.dp e h c.1) (IsL.dp e q c.2)
end
end
def eqD (x y : D) : Bool := PyData.eqv (toP x) (toP y)
def shp (x : D) : Prop := SeqAt.shaped (toP x) = true
def eqK (x y : D) (K : Bool → Prop) : Prop := match x, y with
  | .int i, .int j => K (decide (i = j))
  | .str i, .str j => K (decide (i = j))
  | .bl i, .bl j => K (decide (i = j))
  | x, y => shp x ∧ shp y ∧ K (eqD x y)
def ltK (f : Int → Int → Bool) (h : List Nat → List Nat → Bool) (x y : D) (K : Bool → Prop) : Prop := match x, y with
  | .int i, .int j => K (f i j)
  | .str i, .str j => K (h i.cps.toList j.cps.toList)
  | _, _ => False
def flatD : D → Bool
  | .non => true | .bl _ => true | .int _ => true | .str _ => true | _ => false
def keyD : D → Option Key
  | .int i => some (.inl i) | .str x => some (.inr x) | _ => none
def inK (x y : D) (K : Bool → Prop) : Prop := match y with
  | .lst ds => shp x ∧ shp (.lst ds) ∧ K (ds.any fun z => eqD z x)
  | .tup ds => flatD x = true ∧ ds.all flatD = true ∧ K (ds.any fun z => eqD z x)
  | .str z => match x with
    | .str t => ∃ c, t = ⟨#[c]⟩ ∧ K (decide (c ∈ z.cps.toList))
    | _ => False
  | _ => False
def isK (x y : D) (K : Bool → Prop) : Prop := match x, y with
  | .bl a, .bl b => K (decide (a = b))
  | .non, .non => K true
  | .non, .bl _ => K false
  | .bl _, .non => K false
  | .int _, .non => K false
  | .str _, .non => K false
  | .lst _, .non => K false
  | .tup _, .non => K false
  | .dic _, .non => K false
  | .dit _, .non => K false
  | .ins _ _, .non => K false
  | .exc _ _, .non => K false
  | .obj _, .non => K false
  | _, _ => False
def cmpD (op : CmpOp) (x y : D) (K : Bool → Prop) : Prop := match op with
  | .Eq => eqK x y K
  | .NotEq => eqK x y fun b => K (!b)
  | .Lt => ltK (fun i j => decide (i < j)) (fun i j => decide (i < j)) x y K
  | .LtE => ltK (fun i j => decide (i ≤ j)) (fun i j => !decide (j < i)) x y K
  | .Gt => ltK (fun i j => decide (j < i)) (fun i j => decide (j < i)) x y K
  | .GtE => ltK (fun i j => decide (j ≤ i)) (fun i j => !decide (i < j)) x y K
  | .In => inK x y K
  | .NotIn => inK x y fun b => K (!b)
  | .Is => isK x y K
  | .IsNot => isK x y fun b => K (!b)
def rCmp (X : Cx) (op : CmpOp) : R2 := fun x y H Q => ∃ an dr om τ G ra rb, Good X.K an dr om τ G H ∧ IsR X.K G τ x ra ∧ IsR X.K G τ y rb ∧ cmpD op (vw om ra) (vw om rb) fun b => Q (.bl b) H
section
variable {X : Cx} {an : An} {dr : Option Dr} {om : Om} {τ : List Addr} {G H : Hp} {x y : V} {ra rb : R}
theorem vw_dp {K : PySem.W.Frag} {d : D} (g : Good K an dr om τ G H) (h : IsR K G τ x ra) (e : vw om ra = d) (c : shp d) : Dp K H x (toP d) := by
  have c0 := SeqAt.canLay_of_shaped c
  cases d with
  | lst ds =>
    obtain ⟨p, vs, rfl, hp, i⟩ := vw_lst g h e
    rw [toP] at c0 ⊢
    exact .lst (.inl (.inl hp)) (i.dp g.ex (by simpa [PyData.canLay0] using c0))
  | dead => simp [toP, PyData.canLay0] at c0
  | dit b => simp [toP, PyData.canLay0] at c0
  | ins b c => simp [toP, PyData.canLay0] at c0
  | exc b c => simp [toP, PyData.canLay0] at c0
  | own b => simp [toP, PyData.canLay0] at c0
  | non => exact (vw_not g h e rfl).dp g.ex c0
  | bl b => exact (vw_not g h e rfl).dp g.ex c0
  | int b => exact (vw_not g h e rfl).dp g.ex c0
  | str b => exact (vw_not g h e rfl).dp g.ex c0
  | tup b => exact (vw_not g h e rfl).dp g.ex c0
  | dic b => simp [toP, PyData.canLay0] at c0
  | obj b => exact (vw_not g h e rfl).dp g.ex c0
  | ty b => exact (vw_not g h e rfl).dp g.ex c0
theorem eq_run {pins : List (Addr × Obj)} {s : Shared} {σ : L2.St} {v u : Value} {P : Bool → Prop} {Q : VK} (neg : Bool) (hu : X.A.units + 65 < cLine) (I : Inv X pins σ H s) (rx : RelV x v) (ry : RelV y u) (g : Good X.K an dr om τ G H) (ha : IsR X.K G τ x ra) (hb : IsR X.K G τ y rb)
    (h : eqK (vw om ra) (vw om rb) P) (q : ∀ b, P b → Q (.bl (if neg then !b else b)) H) : wpAny (model X.prog X.w) X.A (compareOp (if neg then .NotEq else .Eq) v u) (EP X pins σ Q) X.xe s := by
  have hu' : X.A.units + 64 < cLine := by omega
  unfold eqK at h
  split at h
  · rename_i i j e1 e2
    obtain rfl := vw_int g ha e1
    obtain rfl := vw_int g hb e2
    have e : decide (V.int i = V.int j) = decide (i = j) := by by_cases z : i = j <;> simp [z]
    cases neg
    · exact op_eq pins s σ H _ _ v u Q I rx ry ⟨rfl, by rw [e]; exact q _ h⟩
    · exact op_ne pins s σ H _ _ v u Q I rx ry ⟨rfl, by rw [e]; exact q _ h⟩
  · rename_i i j e1 e2
    obtain rfl := vw_str g ha e1
    obtain rfl := vw_str g hb e2
    have e : decide (V.str i = V.str j) = decide (i = j) := by by_cases z : i = j <;> simp [z]
    cases neg
    · exact op_eq pins s σ H _ _ v u Q I rx ry ⟨rfl, by rw [e]; exact q _ h⟩
    · exact op_ne pins s σ H _ _ v u Q I rx ry ⟨rfl, by rw [e]; exact q _ h⟩
  · rename_i i j e1 e2
    obtain rfl := vw_bl g ha e1
    obtain rfl := vw_bl g hb e2
    have e : decide (V.bl i = V.bl j) = decide (i = j) := by by_cases z : i = j <;> simp [z]
    cases neg
    · exact op_eq pins s σ H _ _ v u Q I rx ry ⟨rfl, by rw [e]; exact q _ h⟩
    · exact op_ne pins s σ H _ _ v u Q I rx ry ⟨rfl, by rw [e]; exact q _ h⟩
  · obtain ⟨s1, s2, h⟩ := h
    have d1 := vw_dp g ha rfl s1
    have d2 := vw_dp g hb rfl s2
    cases neg
    · exact op_eqD hu' pins s σ H _ _ v u Q I rx ry ⟨_, _, d1, d2, s1, s2, q _ h⟩
    · exact op_neD hu' pins s σ H _ _ v u Q I rx ry ⟨_, _, d1, d2, s1, s2, q _ h⟩
theorem flat_eq {K : PySem.W.Frag} {d e : D} {v u : V} (h : Is K G v d) (h' : Is K G u e) (f : flatD d = true) (f' : flatD e = true) : flatV v = true ∧ flatV u = true ∧ eqV v u = eqD d e := by
  cases h <;> simp [flatD] at f <;> cases h' <;> simp [flatD] at f' <;> simp [flatV, eqV, eqD, toP, PyData.eqv]
theorem flat_all {K : PySem.W.Frag} {d : D} {v : V} (h : Is K G v d) (f : flatD d = true) : ∀ {vs : List V} {ds : List D}, IsL K G vs ds → ds.all flatD = true → vs.all flatV = true ∧ inV v vs = ds.any fun z => eqD z d
  | _, _, .nil, _ => ⟨rfl, rfl⟩
  | _, _, .cons a t, q => by
    rw [List.all_cons, Bool.and_eq_true] at q
    obtain ⟨f1, f2, f3⟩ := flat_eq a h q.1 f
    obtain ⟨g1, g2⟩ := flat_all h f t q.2
    refine ⟨by rw [List.all_cons, f1, g1]; rfl, ?_⟩
    unfold inV at g2 ⊢
    rw [List.any_cons, List.any_cons, f3, g2]
theorem vw_flat {d : D} {K : PySem.W.Frag} (g : Good K an dr om τ G H) (h : IsR K G τ x ra) (e : vw om ra = d) (f : flatD d = true) : Is K G x d := by
  refine vw_not g h e ?_
  cases d <;> first | rfl | (simp [flatD] at f)
theorem in_run {pins : List (Addr × Obj)} {s : Shared} {σ : L2.St} {v u : Value} {P : Bool → Prop} {Q : VK} (neg : Bool) (hu : X.A.units + 65 < cLine) (I : Inv X pins σ H s) (rx : RelV x v) (ry : RelV y u) (g : Good X.K an dr om τ G H) (ha : IsR X.K G τ x ra) (hb : IsR X.K G τ y rb)
    (h : inK (vw om ra) (vw om rb) P) (q : ∀ b, P b → Q (.bl (if neg then !b else b)) H) : wpAny (model X.prog X.w) X.A (compareOp (if neg then .NotIn else .In) v u) (EP X pins σ Q) X.xe s := by
  unfold inK at h
  split at h
  · rename_i ds e
    obtain ⟨s1, s2, h⟩ := h
    have d1 := vw_dp g ha rfl s1
    have d2 := vw_dp g hb e s2
    have e3 : ((toPs ds).any fun z => PyData.eqv z (toP (vw om ra))) = ds.any fun z => eqD z (vw om ra) := by
      rw [toPs_map, List.any_map]; rfl
    rw [toP] at d2
    have s2' : SeqAt.shaped (.list (toPs ds)) = true := by have z := s2; unfold shp at z; rw [toP] at z; exact z
    cases neg
    · exact op_inD hu pins s σ H _ _ v u Q I rx ry ⟨_, _, d1, d2, s1, s2', by rw [e3]; exact q _ h⟩
    · exact op_notInD hu pins s σ H _ _ v u Q I rx ry ⟨_, _, d1, d2, s1, s2', by rw [e3]; exact q _ h⟩
  · rename_i ds e
    obtain ⟨f1, f2, h⟩ := h
    have i1 := vw_flat g ha rfl f1
    obtain ⟨p, vs, rfl, hp, i2⟩ := vw_tup g hb e
    obtain ⟨f3, f4⟩ := flat_all i1 f1 i2 f2
    have f5 : flatV x = true := (flat_eq i1 i1 f1 f1).1
    have z := q _ h
    rw [← f4] at z
    cases neg
    · exact op_in_seq pins s σ H _ _ v u Q I rx ry ⟨p, vs, rfl, .inr hp, f5, f3, z⟩
    · exact op_notIn_seq pins s σ H _ _ v u Q I rx ry ⟨p, vs, rfl, .inr hp, f5, f3, z⟩
  · rename_i z e
    split at h
    · rename_i t e2
      obtain ⟨c, rfl, h⟩ := h
      obtain rfl := vw_str g ha e2
      obtain rfl := vw_str g hb e
      cases neg
      · exact op_in_sign pins s σ H _ _ v u Q I rx ry ⟨c, z, rfl, rfl, q _ h⟩
      · exact op_notIn_sign pins s σ H _ _ v u Q I rx ry ⟨c, z, rfl, rfl, q _ h⟩
    · exact h.elim
  · exact h.elim
theorem is_run {pins : List (Addr × Obj)} {s : Shared} {σ : L2.St} {v u : Value} {P : Bool → Prop} {Q : VK} (neg : Bool) (I : Inv X pins σ H s) (rx : RelV x v) (ry : RelV y u) (g : Good X.K an dr om τ G H) (ha : IsR X.K G τ x ra) (hb : IsR X.K G τ y rb)
    (h : isK (vw om ra) (vw om rb) P) (q : ∀ b, P b → Q (.bl (if neg then !b else b)) H) : wpAny (model X.prog X.w) X.A (compareOp (if neg then .IsNot else .Is) v u) (EP X pins σ Q) X.xe s := by
  have nn : ∀ {b : Bool}, vw om rb = .non → P b → (decide (x = V.non)) = b → wpAny (model X.prog X.w) X.A (compareOp (if neg then .IsNot else .Is) v u) (EP X pins σ Q) X.xe s := fun {b} e p z => by
    obtain rfl := (vw_not g hb e rfl).non_inv
    subst z
    cases neg
    · exact op_isN pins s σ H _ _ v u Q I rx ry ⟨rfl, q _ p⟩
    · exact op_notN pins s σ H _ _ v u Q I rx ry ⟨rfl, q _ p⟩
  unfold isK at h
  split at h
  · rename_i a b e1 e2
    obtain rfl := vw_bl g ha e1
    obtain rfl := vw_bl g hb e2
    cases neg
    · exact op_is_bl pins s σ H _ _ v u Q I rx ry ⟨a, b, rfl, rfl, q _ h⟩
    · exact op_isnot_bl pins s σ H _ _ v u Q I rx ry ⟨a, b, rfl, rfl, q _ h⟩
  · rename_i e1 e2
    obtain rfl := (vw_not g ha e1 rfl).non_inv
    exact nn e2 h rfl
  · rename_i a e1 e2
    obtain rfl := (vw_not g ha e1 rfl).non_inv
    obtain rfl := vw_bl g hb e2
    have rx' := rx
    cases rx'
    cases (show u = Value.bool a from ry)
    cases neg
    · exact wpAny_is_other rfl (fun z => by cases z) ⟨.bl false, H, I, rfl, q _ h⟩
    · exact wpAny_isNot_other rfl (fun z => by cases z) ⟨.bl true, H, I, rfl, q _ h⟩
  · rename_i a e1 e2
    obtain rfl := vw_bl g ha e1
    exact nn e2 h rfl
  · rename_i a e1 e2
    obtain rfl := vw_int g ha e1
    exact nn e2 h rfl
  · rename_i a e1 e2
    obtain rfl := vw_str g ha e1
    exact nn e2 h rfl
  · rename_i a e1 e2
    obtain ⟨p, vs, rfl, _⟩ := vw_lst g ha e1
    exact nn e2 h rfl
  · rename_i a e1 e2
    obtain ⟨p, vs, rfl, _⟩ := vw_tup g ha e1
    exact nn e2 h rfl
  · rename_i a e1 e2
    obtain ⟨p, vs, rfl, _⟩ := vw_dic g ha e1
    exact nn e2 h rfl
  · rename_i a e1 e2
    obtain ⟨p, vs, rfl, _⟩ := vw_dit g ha e1
    exact nn e2 h rfl
  · rename_i a fs e1 e2
    obtain ⟨p, dx, vs, rfl, _⟩ := vw_ins g ha e1
    exact nn e2 h rfl
  · rename_i a fs e1 e2
    have z := vw_not g ha e1 rfl
    cases z
    · exact nn e2 h rfl
    · exact nn e2 h rfl
  · rename_i a e1 e2
    have z := vw_not g ha e1 rfl
    cases z
    exact nn e2 h rfl
  · exact h.elim
theorem op_cmp {op : CmpOp} (hu : X.A.units + 65 < cLine) : OpR X (compareOp op) (rCmp X op) := by
  intro pins s σ H x y v u Q I rx ry h
  obtain ⟨an, dr, om, τ, G, ra, rb, g, ha, hb, h⟩ := h
  cases op with
  | Eq =>
    simp only [cmpD] at h
    exact eq_run false hu I rx ry g ha hb h fun b p => p
  | NotEq =>
    simp only [cmpD] at h
    exact eq_run true hu I rx ry g ha hb h fun b p => p
  | In =>
    simp only [cmpD] at h
    exact in_run false hu I rx ry g ha hb h fun b p => p
  | NotIn =>
    simp only [cmpD] at h
    exact in_run true hu I rx ry g ha hb h fun b p => p
  | Is =>
    simp only [cmpD] at h
    exact is_run false I rx ry g ha hb h fun b p => p
  | IsNot =>
    simp only [cmpD] at h
    exact is_run true I rx ry g ha hb h fun b p => p
  | Lt =>
    simp only [cmpD] at h
    unfold ltK at h
    split at h
    · rename_i e1 e2
      obtain rfl := vw_int g ha e1
      obtain rfl := vw_int g hb e2
      exact op_lt pins s σ H _ _ v u Q I rx ry ⟨_, _, rfl, rfl, h⟩
    · rename_i e1 e2
      obtain rfl := vw_str g ha e1
      obtain rfl := vw_str g hb e2
      exact op_lt_str pins s σ H _ _ v u Q I rx ry ⟨_, _, rfl, rfl, h⟩
    · exact h.elim
  | LtE =>
    simp only [cmpD] at h
    unfold ltK at h
    split at h
    · rename_i e1 e2
      obtain rfl := vw_int g ha e1
      obtain rfl := vw_int g hb e2
      exact op_le pins s σ H _ _ v u Q I rx ry ⟨_, _, rfl, rfl, h⟩
    · rename_i e1 e2
      obtain rfl := vw_str g ha e1
      obtain rfl := vw_str g hb e2
      exact op_le_str pins s σ H _ _ v u Q I rx ry ⟨_, _, rfl, rfl, h⟩
    · exact h.elim
  | Gt =>
    simp only [cmpD] at h
    unfold ltK at h
    split at h
    · rename_i e1 e2
      obtain rfl := vw_int g ha e1
      obtain rfl := vw_int g hb e2
      exact op_gt pins s σ H _ _ v u Q I rx ry ⟨_, _, rfl, rfl, h⟩
    · rename_i e1 e2
      obtain rfl := vw_str g ha e1
      obtain rfl := vw_str g hb e2
      exact op_gt_str pins s σ H _ _ v u Q I rx ry ⟨_, _, rfl, rfl, h⟩
    · exact h.elim
  | GtE =>
    simp only [cmpD] at h
    unfold ltK at h
    split at h
    · rename_i e1 e2
      obtain rfl := vw_int g ha e1
      obtain rfl := vw_int g hb e2
      exact op_ge pins s σ H _ _ v u Q I rx ry ⟨_, _, rfl, rfl, h⟩
    · rename_i e1 e2
      obtain rfl := vw_str g ha e1
      obtain rfl := vw_str g hb e2
      exact op_ge_str pins s σ H _ _ v u Q I rx ry ⟨_, _, rfl, rfl, h⟩
    · exact h.elim
end
theorem eqK_imp {x y : D} {P P' : Bool → Prop} (h : eqK x y P) (i : ∀ b, P b → P' b) : eqK x y P' := by
  unfold eqK at h ⊢
  split at h
  all_goals first | exact i _ h | exact ⟨h.1, h.2.1, i _ h.2.2⟩
theorem ltK_imp {f : Int → Int → Bool} {g : List Nat → List Nat → Bool} {x y : D} {P P' : Bool → Prop} (h : ltK f g x y P) (i : ∀ b, P b → P' b) : ltK f g x y P' := by
  unfold ltK at h ⊢
  split at h
  all_goals first | exact h.elim | exact i _ h
theorem inK_imp {x y : D} {P P' : Bool → Prop} (h : inK x y P) (i : ∀ b, P b → P' b) : inK x y P' := by
  unfold inK at h ⊢
  split at h
  · exact ⟨h.1, h.2.1, i _ h.2.2⟩
  · exact ⟨h.1, h.2.1, i _ h.2.2⟩
  · split at h
    · obtain ⟨c, e, h⟩ := h
      exact ⟨c, e, i _ h⟩
    · exact h.elim
  · exact h.elim
theorem isK_imp {x y : D} {P P' : Bool → Prop} (h : isK x y P) (i : ∀ b, P b → P' b) : isK x y P' := by
  unfold isK at h ⊢
  split at h
  all_goals first | exact h.elim | exact i _ h
theorem cmpD_imp {op : CmpOp} {x y : D} {P P' : Bool → Prop} (h : cmpD op x y P) (i : ∀ b, P b → P' b) : cmpD op x y P' := by
  cases op
  all_goals simp only [cmpD] at h ⊢
  all_goals first | exact eqK_imp h i | exact eqK_imp h (fun b => i _) | exact ltK_imp h i | exact inK_imp h i | exact inK_imp h (fun b => i _) | exact isK_imp h i | exact isK_imp h (fun b => i _)
section
variable {X : Cx} {an : An} {dr : Option Dr} {ρ : Rho} {om : Om} {e a b c : Expr} {es : List Expr} {pos : Pos} {Q : R → Om → Prop} {T : Bool → Om → Prop}
theorem we_cmp {op : CmpOp} (hu : X.A.units + 65 < cLine) (h : WE X an dr ρ om a fun ra om1 => WE X an dr ρ om1 b fun rb om2 => cmpD op (vw om2 ra) (vw om2 rb) fun t => Q (.v (.bl t)) om2) (hm : behindInMarks op b = false := by first | exact nobehind _ (by decide) (by decide) | rfl) :
    WE X an dr ρ om (.Compare a [op] [b] pos) Q :=
  peI (pe_cmpR (op_cmp hu) (pe_u (an := an) (dr := dr)) (pe_u (an := an) (dr := dr)) hm) fun σ H K' ⟨τ, G, g, n, k⟩ =>
    uE_of h g n fun v r om1 τ1 G1 H1 h1 w g1 gr1 n1 => uE_of w g1 n1 fun v2 r2 om2 τ2 G2 H2 h2 q g2 gr2 n2 =>
      ⟨an, dr, om2, τ2, G2, r, r2, g2, h1.mono gr2, h2, cmpD_imp q fun t q => k _ _ om2 τ2 G2 H2 (.v (.bl t)) q g2 (gr1.trans gr2)⟩
theorem wt_cmp {op : CmpOp} (hu : X.A.units + 65 < cLine) (h : WE X an dr ρ om a fun ra om1 => WE X an dr ρ om1 b fun rb om2 => cmpD op (vw om2 ra) (vw om2 rb) fun t => T t om2) (hm : behindInMarks op b = false := by first | exact nobehind _ (by decide) (by decide) | rfl) :
    WT X an dr ρ om (.Compare a [op] [b] pos) T :=
  ptI (pt_cmpR (op_cmp hu) (pe_u (an := an) (dr := dr)) (pe_u (an := an) (dr := dr)) hm) fun σ H K' ⟨τ, G, g, n, k⟩ =>
    uE_of h g n fun v r om1 τ1 G1 H1 h1 w g1 gr1 n1 => uE_of w g1 n1 fun v2 r2 om2 τ2 G2 H2 h2 q g2 gr2 n2 =>
      ⟨an, dr, om2, τ2, G2, r, r2, g2, h1.mono gr2, h2, cmpD_imp q fun t q => ⟨t, rfl, k _ om2 τ2 G2 H2 q g2 (gr1.trans gr2)⟩⟩
theorem wt_chain {op op' : CmpOp} (hu : X.A.units + 65 < cLine) (h : WE X an dr ρ om a fun ra om1 => WE X an dr ρ om1 b fun rb om2 => cmpD op (vw om2 ra) (vw om2 rb) fun t =>
      if t = true then WE X an dr ρ om2 c fun rc om3 => cmpD op' (vw om3 rb) (vw om3 rc) fun t' => T t' om3 else T false om2) (hm : lastMarks [op, op'] [b, c] = false := by with_unfolding_all rfl) :
    WT X an dr ρ om (.Compare a [op, op'] [b, c] pos) T :=
  ptI (pt_chain (op_cmp hu) (op_cmp hu) (pe_u (an := an) (dr := dr)) (pe_u (an := an) (dr := dr)) (pe_u (an := an) (dr := dr)) hm) fun σ H K' ⟨τ, G, g, n, k⟩ =>
    uE_of h g n fun v r om1 τ1 G1 H1 h1 w g1 gr1 n1 => uE_of w g1 n1 fun v2 r2 om2 τ2 G2 H2 h2 q g2 gr2 n2 =>
      ⟨an, dr, om2, τ2, G2, r, r2, g2, h1.mono gr2, h2, cmpD_imp q fun t q => ⟨t, rfl, by
        cases t with
        | true =>
          rw [if_pos rfl] at q ⊢
          exact uE_of q g2 n2 fun v3 r3 om3 τ3 G3 H3 h3 q3 g3 gr3 n3 => ⟨an, dr, om3, τ3, G3, r2, r3, g3, h2.mono gr3, h3, cmpD_imp q3 fun t' q4 => ⟨t', rfl, k _ om3 τ3 G3 H3 q4 g3 ((gr1.trans gr2).trans gr3)⟩⟩
        | false =>
          rw [if_neg Bool.false_ne_true] at q ⊢
          exact ⟨false, rfl, k _ om2 τ2 G2 H2 q g2 (gr1.trans gr2)⟩⟩⟩
theorem we_chain {op op' : CmpOp} (hu : X.A.units + 65 < cLine) (h : WE X an dr ρ om a fun ra om1 => WE X an dr ρ om1 b fun rb om2 => cmpD op (vw om2 ra) (vw om2 rb) fun t =>
      if t = true then WE X an dr ρ om2 c fun rc om3 => cmpD op' (vw om3 rb) (vw om3 rc) fun t' => Q (.v (.bl t')) om3 else Q (.v (.bl false)) om2) (hm : lastMarks [op, op'] [b, c] = false := by with_unfolding_all rfl) :
    WE X an dr ρ om (.Compare a [op, op'] [b, c] pos) Q :=
  peI (pe_chain (op_cmp hu) (op_cmp hu) (pe_u (an := an) (dr := dr)) (pe_u (an := an) (dr := dr)) (pe_u (an := an) (dr := dr)) hm) fun σ H K' ⟨τ, G, g, n, k⟩ =>
    uE_of h g n fun v r om1 τ1 G1 H1 h1 w g1 gr1 n1 => uE_of w g1 n1 fun v2 r2 om2 τ2 G2 H2 h2 q g2 gr2 n2 =>
      ⟨an, dr, om2, τ2, G2, r, r2, g2, h1.mono gr2, h2, cmpD_imp q fun t q => ⟨t, rfl, by
        cases t with
        | true =>
          rw [if_pos rfl] at q ⊢
          exact uE_of q g2 n2 fun v3 r3 om3 τ3 G3 H3 h3 q3 g3 gr3 n3 => ⟨an, dr, om3, τ3, G3, r2, r3, g3, h2.mono gr3, h3, cmpD_imp q3 fun t' q4 => k _ _ om3 τ3 G3 H3 (.v (.bl t')) q4 g3 ((gr1.trans gr2).trans gr3)⟩
        | false =>
          rw [if_neg Bool.false_ne_true] at q ⊢
          exact k _ _ om2 τ2 G2 H2 (.v (.bl false)) q g2 (gr1.trans gr2)⟩⟩
/-! ### tests -/
def blR (r : R) (K : Bool → Prop) : Prop := match r with
  | .v (.bl b) => K b
  | _ => False
theorem blR_is {K : PySem.W.Frag} {G : Hp} {τ : List Addr} {v : V} {r : R} {P : Bool → Prop} (h : IsR K G τ v r) (p : blR r P) : ∃ b, v = .bl b ∧ r = .v (.bl b) ∧ P b := by
  unfold blR at p
  split at p
  · cases h with | v h => exact ⟨_, h.bl_inv, rfl, p⟩
  · exact p.elim
theorem wt_val (h : WE X an dr ρ om e fun r om1 => blR r fun t => T t om1) (he : ∀ whole, isTrue e X.env whole = (do let v ← whole; standAt e.pos; holding [v] (truthy v)) := by intro _; rfl) : WT X an dr ρ om e T :=
  ptI (pt_val (pe_u (an := an) (dr := dr)) he) fun σ H K' ⟨τ, G, g, n, k⟩ => uE_of h g n fun v r om1 τ1 G1 H1 h1 w g1 gr1 n1 => by
    obtain ⟨t, rfl, _, w⟩ := blR_is h1 w
    exact ⟨t, rfl, k t om1 τ1 G1 H1 w g1 gr1⟩
theorem wt_not (h : WT X an dr ρ om a fun t om1 => T (!t) om1) : WT X an dr ρ om (.UnaryOp .Not a pos) T :=
  ptI (pt_not (pt_u (an := an) (dr := dr))) fun σ H K' ⟨τ, G, g, n, k⟩ => uT_of h g n fun t om1 τ1 G1 H1 w g1 gr1 n1 => k _ om1 τ1 G1 H1 w g1 gr1
theorem we_not (h : WE X an dr ρ om a fun r om1 => blR r fun t => Q (.v (.bl (!t))) om1) : WE X an dr ρ om (.UnaryOp .Not a pos) Q :=
  peI (pe_not (pe_u (an := an) (dr := dr))) fun σ H K' ⟨τ, G, g, n, k⟩ => uE_of h g n fun v r om1 τ1 G1 H1 h1 w g1 gr1 n1 => by
    obtain ⟨t, rfl, _, w⟩ := blR_is h1 w
    exact ⟨t, rfl, k _ _ om1 τ1 G1 H1 (.v (.bl _)) w g1 gr1⟩
/-- and, or: as tests; the rest of the row as one test -/
def WW (X : Cx) (an : An) (dr : Option Dr) (ρ : Rho) (om : Om) (e : Expr) (Q : Bool → Om → Prop) : Prop := PW X e (tDT X.K an dr ρ om Q)
def uW (X : Cx) (an : An) (dr : Option Dr) (e : Expr) : TT := fun σ H K' => ∃ ρ om Q, WW X an dr ρ om e Q ∧ tDT X.K an dr ρ om Q σ H K'
theorem pw_u : PW X e (uW X an dr e) := ⟨fun wh pins s σ H K' I ⟨ρ, om, Q, w, h⟩ => PW.run w wh pins s σ H K' I h⟩
theorem uW_of {σ : L2.St} {H : Hp} {τ : List Addr} {G : Hp} {K' : Bool → Hp → Prop} (w : WW X an dr ρ om e T) (g : Good X.K an dr om τ G H) (n : EnvIs X.K G τ σ ρ)
    (k : ∀ b om' τ' G' H', T b om' → Good X.K an dr om' τ' G' H' → Grow G τ G' τ' → K' b H') : uW X an dr e σ H K' := ⟨ρ, om, T, w, τ, G, g, n, k⟩
theorem WW.wt (h : WW X an dr ρ om e T) : WT X an dr ρ om e T := PW.pt h
theorem ww_and1 (h : WT X an dr ρ om a T) : WW X an dr ρ om (.BoolOp .And [a] pos) T := pw_and1 h
theorem ww_or1 (h : WT X an dr ρ om a T) : WW X an dr ρ om (.BoolOp .Or [a] pos) T := pw_or1 h
theorem ww_and (h : WT X an dr ρ om a fun t om1 => if t = true then WW X an dr ρ om1 (.BoolOp .And (b :: es) pos) T else T false om1) : WW X an dr ρ om (.BoolOp .And (a :: b :: es) pos) T :=
  pwI (pw_and (pt_u (an := an) (dr := dr)) (pw_u (an := an) (dr := dr))) fun σ H K' ⟨τ, G, g, n, k⟩ => uT_of h g n fun t om1 τ1 G1 H1 w g1 gr1 n1 => by
    cases t with
    | true => rw [if_pos rfl] at w ⊢; exact uW_of w g1 n1 fun t2 om2 τ2 G2 H2 w2 g2 gr2 => k t2 om2 τ2 G2 H2 w2 g2 (gr1.trans gr2)
    | false => rw [if_neg Bool.false_ne_true] at w ⊢; exact k _ om1 τ1 G1 H1 w g1 gr1
theorem ww_or (h : WT X an dr ρ om a fun t om1 => if t = true then T true om1 else WW X an dr ρ om1 (.BoolOp .Or (b :: es) pos) T) : WW X an dr ρ om (.BoolOp .Or (a :: b :: es) pos) T :=
  pwI (pw_or (pt_u (an := an) (dr := dr)) (pw_u (an := an) (dr := dr))) fun σ H K' ⟨τ, G, g, n, k⟩ => uT_of h g n fun t om1 τ1 G1 H1 w g1 gr1 n1 => by
    cases t with
    | true => rw [if_pos rfl] at w ⊢; exact k _ om1 τ1 G1 H1 w g1 gr1
    | false => rw [if_neg Bool.false_ne_true] at w ⊢; exact uW_of w g1 n1 fun t2 om2 τ2 G2 H2 w2 g2 gr2 => k t2 om2 τ2 G2 H2 w2 g2 (gr1.trans gr2)
theorem we_and1 (h : WE X an dr ρ om a Q) : WE X an dr ρ om (.BoolOp .And [a] pos) Q := pe_one h
theorem we_or1 (h : WE X an dr ρ om a Q) : WE X an dr ρ om (.BoolOp .Or [a] pos) Q := pe_one h
theorem we_and (h : WE X an dr ρ om a fun r om1 => blR r fun t => if t = true then WE X an dr ρ om1 (.BoolOp .And (b :: es) pos) Q else Q (.v (.bl false)) om1) : WE X an dr ρ om (.BoolOp .And (a :: b :: es) pos) Q :=
  peI (pe_and (pe_u (an := an) (dr := dr)) (pe_u (an := an) (dr := dr))) fun σ H K' ⟨τ, G, g, n, k⟩ => uE_of h g n fun v r om1 τ1 G1 H1 h1 w g1 gr1 n1 => by
    obtain ⟨t, rfl, _, w⟩ := blR_is h1 w
    refine ⟨t, rfl, ?_⟩
    cases t with
    | true => rw [if_pos rfl] at w ⊢; exact uE_of w g1 n1 fun v2 r2 om2 τ2 G2 H2 h2 w2 g2 gr2 n2 => k v2 r2 om2 τ2 G2 H2 h2 w2 g2 (gr1.trans gr2)
    | false => rw [if_neg Bool.false_ne_true] at w ⊢; exact k _ _ om1 τ1 G1 H1 (.v (.bl _)) w g1 gr1
theorem we_or (h : WE X an dr ρ om a fun r om1 => blR r fun t => if t = true then Q (.v (.bl true)) om1 else WE X an dr ρ om1 (.BoolOp .Or (b :: es) pos) Q) : WE X an dr ρ om (.BoolOp .Or (a :: b :: es) pos) Q :=
  peI (pe_or (pe_u (an := an) (dr := dr)) (pe_u (an := an) (dr := dr))) fun σ H K' ⟨τ, G, g, n, k⟩ => uE_of h g n fun v r om1 τ1 G1 H1 h1 w g1 gr1 n1 => by
    obtain ⟨t, rfl, _, w⟩ := blR_is h1 w
    refine ⟨t, rfl, ?_⟩
    cases t with
    | true => rw [if_pos rfl] at w ⊢; exact k _ _ om1 τ1 G1 H1 (.v (.bl _)) w g1 gr1
    | false => rw [if_neg Bool.false_ne_true] at w ⊢; exact uE_of w g1 n1 fun v2 r2 om2 τ2 G2 H2 h2 w2 g2 gr2 n2 => k v2 r2 om2 τ2 G2 H2 h2 w2 g2 (gr1.trans gr2)
theorem we_ifexp (h : WT X an dr ρ om c fun t om1 => if t = true then WE X an dr ρ om1 a Q else WE X an dr ρ om1 b Q) : WE X an dr ρ om (.IfExp c a b pos) Q :=
  peI (pe_ifExp (pt_u (an := an) (dr := dr)) (pe_u (an := an) (dr := dr)) (pe_u (an := an) (dr := dr))) fun σ H K' ⟨τ, G, g, n, k⟩ => uT_of h g n fun t om1 τ1 G1 H1 w g1 gr1 n1 => by
    cases t with
    | true => rw [if_pos rfl] at w ⊢; exact uE_of w g1 n1 fun v2 r2 om2 τ2 G2 H2 h2 w2 g2 gr2 n2 => k v2 r2 om2 τ2 G2 H2 h2 w2 g2 (gr1.trans gr2)
    | false => rw [if_neg Bool.false_ne_true] at w ⊢; exact uE_of w g1 n1 fun v2 r2 om2 τ2 G2 H2 h2 w2 g2 gr2 n2 => k v2 r2 om2 τ2 G2 H2 h2 w2 g2 (gr1.trans gr2)
end
end DL

namespace DL
open PySem L2
section
variable {K : PySem.W.Frag} {an : An} {dr : Option Dr} {G : Hp} {τ : List Addr} {n : Nat}
theorem Left.imp {P P' : Rho → Om → Prop} {σ : L2.St} {H : Hp} (h : Left K an dr G τ n P σ H) (i : ∀ ρ om, P ρ om → P' ρ om) : Left K an dr G τ n P' σ H := by
  obtain ⟨ρ, om, τ', G', h1, h2⟩ := h
  exact ⟨ρ, om, τ', G', i _ _ h1, h2⟩
theorem Left.grow {G' : Hp} {τ' : List Addr} {P : Rho → Om → Prop} {σ : L2.St} {H : Hp} (g : Grow G τ G' τ') (h : Left K an dr G' τ' n P σ H) : Left K an dr G τ n P σ H := by
  obtain ⟨ρ, om, τ2, G2, h1, h2, h3, h4, h5⟩ := h
  exact ⟨ρ, om, τ2, G2, h1, h2, h3, g.trans h4, h5⟩
theorem LeftV.grow {G' : Hp} {τ' : List Addr} {P : D → Prop} {v : V} {H : Hp} (g : Grow G τ G' τ') (h : LeftV K an dr G' τ' P v H) : LeftV K an dr G τ P v H := by
  obtain ⟨d, om, τ2, G2, h1, h2, h3, h4⟩ := h
  exact ⟨d, om, τ2, G2, h1, h2, h3, g.trans h4⟩
theorem EnvIs.set {σ : L2.St} {ρ : Rho} {i : Nat} {v : V} {r : R} (h : EnvIs K G τ σ ρ) (hl : σ.length = ρ.length) (hr : IsR K G τ v r) : EnvIs K G τ (σ.set i (some v)) (ρ.set i (some r)) := fun j q e => by
  by_cases hj : i = j
  · subst hj
    have hlt : i < ρ.length := by
      have := (List.getElem?_eq_some_iff.mp e).1
      rw [List.length_set] at this
      exact this
    rw [List.getElem?_set_self hlt] at e
    cases e
    exact ⟨v, List.getElem?_set_self (by rw [hl]; exact hlt), hr⟩
  · rw [List.getElem?_set_ne hj] at e
    obtain ⟨u, h1, h2⟩ := h j q e
    exact ⟨u, by rw [List.getElem?_set_ne hj]; exact h1, h2⟩
theorem EnvIs.wipe {σ : L2.St} {ρ : Rho} {i : Nat} {x : Option V} (h : EnvIs K G τ σ ρ) : EnvIs K G τ (σ.set i x) (ρ.set i none) := fun j q e => by
  by_cases hj : i = j
  · subst hj
    by_cases hlt : i < ρ.length
    · rw [List.getElem?_set_self hlt] at e; cases e
    · rw [List.getElem?_eq_none (by rw [List.length_set]; omega)] at e; cases e
  · rw [List.getElem?_set_ne hj] at e
    obtain ⟨u, h1, h2⟩ := h j q e
    exact ⟨u, by rw [List.getElem?_set_ne hj]; exact h1, h2⟩
end
section
variable {X : Cx} {an : An} {dr : Option Dr} {ρ : Rho} {om : Om} {e a b c : Expr} {es : List Expr} {st : Stmt} {sts sts' : List Stmt} {pos : Pos} {E : Ed}
/-! ### blocks -/
theorem uS1_of {σ : L2.St} {H : Hp} {τ : List Addr} {G : Hp} {Z : Ends} (w : WS X an dr ρ om st E) (g : Good X.K an dr om τ G H) (n : EnvIs X.K G τ σ ρ) (hl : σ.length = ρ.length)
    (h1 : ∀ σ' H', Left X.K an dr G τ ρ.length E.nx σ' H' → Z.nx σ' H') (h2 : ∀ v H', LeftV X.K an dr G τ E.rt v H' → Z.rt v H') (h3 : ∀ σ' H', Left X.K an dr G τ ρ.length E.bk σ' H' → Z.bk σ' H') (h4 : ∀ σ' H', Left X.K an dr G τ ρ.length E.ct σ' H' → Z.ct σ' H') : uS1 X an dr st Z σ H :=
  ⟨ρ, om, E, w, τ, G, g, n, hl, h1, h2, h3, h4⟩
theorem uS_of {σ : L2.St} {H : Hp} {τ : List Addr} {G : Hp} {Z : Ends} (w : WSs X an dr ρ om sts E) (g : Good X.K an dr om τ G H) (n : EnvIs X.K G τ σ ρ) (hl : σ.length = ρ.length)
    (h1 : ∀ σ' H', Left X.K an dr G τ ρ.length E.nx σ' H' → Z.nx σ' H') (h2 : ∀ v H', LeftV X.K an dr G τ E.rt v H' → Z.rt v H') (h3 : ∀ σ' H', Left X.K an dr G τ ρ.length E.bk σ' H' → Z.bk σ' H') (h4 : ∀ σ' H', Left X.K an dr G τ ρ.length E.ct σ' H' → Z.ct σ' H') : uS X an dr sts Z σ H :=
  ⟨ρ, om, E, w, τ, G, g, n, hl, h1, h2, h3, h4⟩
theorem wss_nil (h : E.nx ρ om) : WSs X an dr ρ om [] E := pssI pss_nil fun Z σ H ⟨τ, G, g, n, hl, h1, _⟩ => h1 σ H ⟨ρ, om, τ, G, h, g, n, Grow.refl G τ, hl, rfl⟩
theorem wss_cons (h : WS X an dr ρ om st { E with nx := fun ρ' om' => WSs X an dr ρ' om' sts E }) : WSs X an dr ρ om (st :: sts) E :=
  pssI (pss_cons (ps_u (an := an) (dr := dr)) (pss_u (an := an) (dr := dr))) fun Z σ H ⟨τ, G, g, n, hl, h1, h2, h3, h4⟩ =>
    uS1_of h g n hl (fun σ' H' ⟨ρ', om', τ', G', w, g', n', gr, l1, l2⟩ => uS_of w g' n' (l1.trans l2.symm)
      (fun σ2 H2 q => h1 σ2 H2 (Left.grow gr (l2 ▸ q))) (fun v H2 q => h2 v H2 (LeftV.grow gr q)) (fun σ2 H2 q => h3 σ2 H2 (Left.grow gr (l2 ▸ q))) (fun σ2 H2 q => h4 σ2 H2 (Left.grow gr (l2 ▸ q)))) h2 h3 h4
theorem wss_one (h : WS X an dr ρ om st E) : WSs X an dr ρ om [st] E := pss_one h
theorem WSs.imp {E' : Ed} (h : WSs X an dr ρ om sts E) (i1 : ∀ ρ om, E.nx ρ om → E'.nx ρ om) (i2 : ∀ d, E.rt d → E'.rt d) (i3 : ∀ ρ om, E.bk ρ om → E'.bk ρ om) (i4 : ∀ ρ om, E.ct ρ om → E'.ct ρ om) : WSs X an dr ρ om sts E' :=
  pssI h fun Z σ H ⟨τ, G, g, n, hl, h1, h2, h3, h4⟩ => ⟨τ, G, g, n, hl, fun σ' H' q => h1 σ' H' (q.imp i1), fun v H' ⟨d, om', τ', G', q, r⟩ => h2 v H' ⟨d, om', τ', G', i2 d q, r⟩, fun σ' H' q => h3 σ' H' (q.imp i3), fun σ' H' q => h4 σ' H' (q.imp i4)⟩
theorem ws_pass (h : E.nx ρ om) : WS X an dr ρ om (.Pass pos) E := psI ps_pass fun Z σ H ⟨τ, G, g, n, hl, h1, _⟩ => h1 σ H ⟨ρ, om, τ, G, h, g, n, Grow.refl G τ, hl, rfl⟩
theorem ws_break (h : E.bk ρ om) : WS X an dr ρ om (.Break pos) E := psI ps_break fun Z σ H ⟨τ, G, g, n, hl, _, _, h1, _⟩ => h1 σ H ⟨ρ, om, τ, G, h, g, n, Grow.refl G τ, hl, rfl⟩
theorem ws_continue (h : E.ct ρ om) : WS X an dr ρ om (.Continue pos) E := psI ps_continue fun Z σ H ⟨τ, G, g, n, hl, _, _, _, h1⟩ => h1 σ H ⟨ρ, om, τ, G, h, g, n, Grow.refl G τ, hl, rfl⟩
theorem ws_expr (h : WE X an dr ρ om e fun _ om1 => E.nx ρ om1) (hs : swapsWith e none pos.line X.env = pure false := by rfl) : WS X an dr ρ om (.Expr e pos) E :=
  psI (ps_expr (pe_u (an := an) (dr := dr)) hs) fun Z σ H ⟨τ, G, g, n, hl, h1, _⟩ => uE_of h g n fun v r om1 τ1 G1 H1 i1 w g1 gr1 n1 => h1 σ H1 ⟨ρ, om1, τ1, G1, w, g1, n1, gr1, hl, rfl⟩
/-- what may be returned: data; a list of one's own is closed -/
def retR (om : Om) (r : R) (K : D → Prop) : Prop := match r with
  | .v d => K d
  | .o k => ∃ d, om[k]? = some (some d) ∧ K d
def fzO (om : Om) : R → Om
  | .v _ => om
  | .o k => om.set k none
/-- behind an expression a thing may be locked for good -/
def tLk (t : TE) : TE := fun σ H Q => t σ H fun x H1 => Q x H1 ∨ ∃ d u, H1 d = some u ∧ Mut (some u) ∧ ∀ od, Q x (upd H1 d (.frz od u))
theorem pe_lk {t : TE} (h : PE X e t) : PE X e (tLk t) := ⟨fun pins s σ H Q I q => thn (h.run pins s σ H _ I q) fun v s1 ⟨x, H1, I1, r, q⟩ => by
  rcases q with q | ⟨d, u, hd, mu, q⟩
  · exact ⟨x, H1, I1, r, q⟩
  · obtain ⟨od, I2⟩ := I1.lock hd mu
    exact ⟨x, _, I2, r, q od⟩⟩
theorem retR_lk {τ : List Addr} {G H : Hp} {v : V} {r : R} {P : D → Prop} {Z : V → Hp → Prop} (g : Good X.K an dr om τ G H) (h : IsR X.K G τ v r) (p : retR om r P)
    (k : ∀ d G' H', P d → Is X.K G' v d → Good X.K an dr (fzO om r) τ G' H' → Grow G τ G' τ → Z v H') : Z v H ∨ ∃ d u, H d = some u ∧ Mut (some u) ∧ ∀ od, Z v (upd H d (.frz od u)) := by
  cases h with
  | v h => exact .inl (k _ G H p h g (Grow.refl G τ))
  | @o a j h =>
    obtain ⟨d, e, p⟩ := p
    cases n : isDict d with
    | false =>
      obtain ⟨o, g', gr, i⟩ := g.freeze h e n
      exact .inl (k d _ H p i g' gr)
    | true =>
      obtain ⟨u, hu, mu, q⟩ := g.freezeD h e n
      exact .inr ⟨a, u, hu, mu, fun od => k d _ _ p (q od).2.2 (q od).1 (q od).2.1⟩
theorem ws_ret (h : WE X an dr ρ om e fun r om1 => retR om1 r E.rt) : WS X an dr ρ om (.Return (some e) pos) E :=
  psI (ps_ret (pe_lk (pe_u (an := an) (dr := dr)))) fun Z σ H ⟨τ, G, g, n, hl, _, h2, _⟩ => uE_of h g n fun v r om1 τ1 G1 H1 i1 w g1 gr1 n1 => retR_lk g1 i1 w fun d G' H' p i g' gr => h2 v H' ⟨d, _, τ1, G', p, .inl i, g', gr1.trans gr⟩
theorem ws_retN (h : E.rt .non) : WS X an dr ρ om (.Return none pos) E :=
  psI ps_retN fun Z σ H ⟨τ, G, g, n, hl, _, h2, _⟩ => h2 .non H ⟨.non, om, τ, G, h, .inl .non, g, Grow.refl G τ⟩
theorem ws_if (h : WT X an dr ρ om c fun t om1 => if t = true then WSs X an dr ρ om1 sts E else WSs X an dr ρ om1 sts' E) : WS X an dr ρ om (.If c sts sts' pos) E :=
  psI (ps_if (pt_u (an := an) (dr := dr)) (pss_u (an := an) (dr := dr)) (pss_u (an := an) (dr := dr))) fun Z σ H ⟨τ, G, g, n, hl, h1, h2, h3, h4⟩ => uT_of h g n fun t om1 τ1 G1 H1 w g1 gr1 n1 => by
    cases t with
    | true => rw [if_pos rfl] at w ⊢; exact uS_of w g1 n1 hl (fun _ _ q => h1 _ _ (q.grow gr1)) (fun _ _ q => h2 _ _ (q.grow gr1)) (fun _ _ q => h3 _ _ (q.grow gr1)) (fun _ _ q => h4 _ _ (q.grow gr1))
    | false => rw [if_neg Bool.false_ne_true] at w ⊢; exact uS_of w g1 n1 hl (fun _ _ q => h1 _ _ (q.grow gr1)) (fun _ _ q => h2 _ _ (q.grow gr1)) (fun _ _ q => h3 _ _ (q.grow gr1)) (fun _ _ q => h4 _ _ (q.grow gr1))
/-- name = e -/
theorem ws_set {i : Nat} {x : Str} {pos' : Pos} (hN : X.N.Nodup) (hi : X.N[i]? = some x) (hx : Loc X.env.scope x) (h : WE X an dr ρ om e fun r om1 => E.nx (ρ.set i (some r)) om1) (hs : swapsWith e (some (.Name x pos')) pos.line X.env = pure false := by rfl)
    (hf : X.fn x = true ∨ X.env.scope.names.lookup x = some .local := by first | exact .inl rfl | exact .inr rfl | assumption) : WS X an dr ρ om (.Assign [.Name x pos'] e pos) E :=
  psI (ps_set (i := i) hN hi hx (pe_u (an := an) (dr := dr)) hs hf) fun Z σ H ⟨τ, G, g, n, hl, h1, _⟩ => uE_of h g n fun v r om1 τ1 G1 H1 i1 w g1 gr1 n1 =>
    h1 _ H1 ⟨_, om1, τ1, G1, w, g1, n1.set hl i1, gr1, by rw [List.length_set]; exact hl, by rw [List.length_set]⟩
/-- a list of one's own is closed, between two statements -/
def thaw (k : Nat) (ds : D) : Option R → Option R
  | some (.o j) => if j = k then some (.v ds) else some (.o j)
  | x => x
theorem wss_freeze (k : Nat) {ds : D} (ho : om[k]? = some (some ds)) (h : WSs X an dr (ρ.map (thaw k ds)) (om.set k none) sts E) (nd : isDict ds = false := by rfl) : WSs X an dr ρ om sts E :=
  pssI h fun Z σ H ⟨τ, G, g, n, hl, h1, h2, h3, h4⟩ => by
    have hlt : k < τ.length := by rw [← g.len]; exact (List.getElem?_eq_some_iff.mp ho).1
    obtain ⟨vs, g', gr, i⟩ := g.freeze (List.getElem?_eq_getElem hlt) ho nd
    have lm : (ρ.map (thaw k ds)).length = ρ.length := List.length_map _
    refine ⟨τ, _, g', fun j r e => ?_, by rw [lm]; exact hl, fun _ _ q => h1 _ _ (Left.grow gr (lm ▸ q)), fun _ _ q => h2 _ _ (LeftV.grow gr q), fun _ _ q => h3 _ _ (Left.grow gr (lm ▸ q)), fun _ _ q => h4 _ _ (Left.grow gr (lm ▸ q))⟩
    rw [List.getElem?_map] at e
    cases q : ρ[j]? with
    | none => rw [q] at e; cases e
    | some z =>
      rw [q] at e
      have e : thaw k ds z = some r := Option.some.inj e
      cases z with
      | none => cases e
      | some r0 =>
        obtain ⟨u, u1, u2⟩ := n j r0 q
        refine ⟨u, u1, ?_⟩
        cases r0 with
        | v d => cases e; exact u2.mono gr
        | o l =>
          have e : (if l = k then some (R.v ds) else some (R.o l)) = some r := e
          by_cases hk : l = k
          · rw [if_pos hk] at e
            cases e
            subst hk
            cases u2 with
            | o u3 =>
              rw [List.getElem?_eq_getElem hlt] at u3
              cases u3
              exact .v i
          · rw [if_neg hk] at e
            cases e
            exact u2.mono gr
/-! ### while -/
theorem ws_while (P : Nat → Rho → Om → Prop) (m : Nat) (h0 : P m ρ om) (hs : ∀ m ρ' om', ρ'.length = ρ.length → P m ρ' om' → WT X an dr ρ' om' c fun t om1 => if t = true then WSs X an dr ρ' om1 sts { nx := fun ρ2 om2 => ∃ m', m' < m ∧ P m' ρ2 om2, rt := E.rt, bk := E.nx, ct := fun ρ2 om2 => ∃ m', m' < m ∧ P m' ρ2 om2 } else E.nx ρ' om1)
    (hp : PassesOwn (model X.prog X.w) X.A X.env X.xe) : WS X an dr ρ om (.While c sts [] pos) E :=
  psI (ps_while hp (pt_u (an := an) (dr := dr)) (pss_u (an := an) (dr := dr))) fun Z σ H ⟨τ, G, g, n, hl, h1, h2, h3, h4⟩ => by
    refine ⟨fun m σ' H' => Left X.K an dr G τ ρ.length (P m) σ' H', ⟨m, ρ, om, τ, G, h0, g, n, Grow.refl G τ, hl, rfl⟩, ?_⟩
    rintro m σ1 H1 ⟨ρ1, om1, τ1, G1, p1, g1, n1, gr1, l1, l2⟩
    refine uT_of (hs m ρ1 om1 l2 p1) g1 n1 fun t om2 τ2 G2 H2 w g2 gr2 n2 => ?_
    cases t with
    | true =>
      simp only [if_true] at w ⊢
      refine ⟨_, fun σ' H' q => q, uS_of w g2 n2 (l1.trans l2.symm) (fun σ3 H3 q => ?_) (fun v H3 q => h2 v H3 (q.grow (gr1.trans gr2))) (fun σ3 H3 q => ?_) (fun σ3 H3 q => ?_)⟩
      · obtain ⟨ρ3, om3, τ3, G3, ⟨m', hm, p3⟩, g3, n3, gr3, l3, l4⟩ := q
        exact ⟨m', hm, ρ3, om3, τ3, G3, p3, g3, n3, (gr1.trans gr2).trans gr3, l3.trans l2, l4.trans l2⟩
      · exact h1 σ3 H3 (Left.grow (gr1.trans gr2) (l2 ▸ q))
      · obtain ⟨ρ3, om3, τ3, G3, ⟨m', hm, p3⟩, g3, n3, gr3, l3, l4⟩ := q
        exact ⟨m', hm, ρ3, om3, τ3, G3, p3, g3, n3, (gr1.trans gr2).trans gr3, l3.trans l2, l4.trans l2⟩
    | false =>
      simp only [Bool.false_eq_true, if_false] at w ⊢
      exact h1 σ1 H2 ⟨ρ1, om2, τ2, G2, w, g2, n2, gr1.trans gr2, l1, l2⟩
end
end DL

namespace DL
open PySem L2
/-! ### targets -/
abbrev TgF := D → Rho → (Rho → Prop) → Prop
abbrev TgFs := List D → Rho → (Rho → Prop) → Prop
/-- σ' differs from σ at the slots js alone -/
def Only (js : List Nat) (σ σ' : L2.St) : Prop := ∀ vs : List Nat, (∀ i ∈ js, i ∈ vs) → wipe σ' vs = wipe σ vs
theorem wipe_get (σ : L2.St) (j : Nat) : ∀ vs : List Nat, (wipe σ vs)[j]? = if j ∈ vs then (if j < σ.length then some none else none) else σ[j]?
  | [] => by simp [wipe]
  | v :: vs => by
    show ((wipe σ vs).set v none)[j]? = _
    by_cases h : v = j
    · subst h
      rw [if_pos List.mem_cons_self]
      by_cases hl : v < σ.length
      · rw [if_pos hl, List.getElem?_set_self (by rw [wipe_length]; exact hl)]
      · rw [if_neg hl, List.getElem?_eq_none (by rw [List.length_set, wipe_length]; omega)]
    · rw [List.getElem?_set_ne h, wipe_get σ j vs]
      by_cases h2 : j ∈ vs
      · rw [if_pos h2, if_pos (List.mem_cons_of_mem _ h2)]
      · rw [if_neg h2, if_neg (fun z => (List.mem_cons.mp z).elim (fun q => h q.symm) h2)]
theorem Only.one (σ : L2.St) (i : Nat) (x : Option V) : Only [i] σ (σ.set i x) := fun vs h => by
  apply List.ext_getElem?
  intro j
  rw [wipe_get, wipe_get, List.length_set]
  by_cases hj : j ∈ vs
  · rw [if_pos hj, if_pos hj]
  · rw [if_neg hj, if_neg hj, List.getElem?_set_ne]
    rintro rfl
    exact hj (h _ (List.mem_singleton.mpr rfl))
theorem Only.nil (σ : L2.St) : Only [] σ σ := fun vs h => rfl
theorem Only.app {js ks : List Nat} {σ σ1 σ2 : L2.St} (a : Only js σ σ1) (b : Only ks σ1 σ2) : Only (js ++ ks) σ σ2 := fun vs h => (b vs fun i hi => h i (List.mem_append_right _ hi)).trans (a vs fun i hi => h i (List.mem_append_left _ hi))
def tDG (K : PySem.W.Frag) (an : An) (dr : Option Dr) (js : List Nat) (f : TgF) : TG := fun v σ H Q => ∃ om τ G ρ d P, Good K an dr om τ G H ∧ EnvIs K G τ σ ρ ∧ σ.length = ρ.length ∧ Is K G v d ∧ f d ρ P ∧
  ∀ σ' ρ', P ρ' → EnvIs K G τ σ' ρ' → σ'.length = ρ.length → ρ'.length = ρ.length → Only js σ σ' → Q σ' H
def tDGs (K : PySem.W.Frag) (an : An) (dr : Option Dr) (js : List Nat) (f : TgFs) : TGs := fun vs σ H Q => ∃ om τ G ρ ds P, Good K an dr om τ G H ∧ EnvIs K G τ σ ρ ∧ σ.length = ρ.length ∧ IsL K G vs ds ∧ f ds ρ P ∧
  ∀ σ' ρ', P ρ' → EnvIs K G τ σ' ρ' → σ'.length = ρ.length → ρ'.length = ρ.length → Only js σ σ' → Q σ' H
def WG (X : Cx) (an : An) (dr : Option Dr) (tg : Expr) (js : List Nat) (f : TgF) : Prop := PG X tg (tDG X.K an dr js f) ∧ ∀ d ρ P P', (∀ ρ', P ρ' → P' ρ') → f d ρ P → f d ρ P'
def WGs (X : Cx) (an : An) (dr : Option Dr) (tg : List Expr) (js : List Nat) (f : TgFs) : Prop := PGs X tg (tDGs X.K an dr js f) ∧ ∀ d ρ P P', (∀ ρ', P ρ' → P' ρ') → f d ρ P → f d ρ P'
def fN (i : Nat) : TgF := fun d ρ P => P (ρ.set i (some (.v d)))
def fNil : TgFs := fun ds ρ P => match ds with
  | [] => P ρ
  | _ => False
def fCons (f : TgF) (fs : TgFs) : TgFs := fun ds ρ P => match ds with
  | d :: ds => f d ρ fun ρ1 => fs ds ρ1 P
  | [] => False
def fT (n : Nat) (fs : TgFs) : TgF := fun d ρ P => match d with
  | .tup ds => ds.length = n ∧ fs ds ρ P
  | .lst ds => ds.length = n ∧ fs ds ρ P
  | _ => False
section
variable {X : Cx} {an : An} {dr : Option Dr} {pos : Pos} {tg : Expr} {tgs : List Expr} {f : TgF} {fs : TgFs} {js ks : List Nat}
theorem pgI {t t' : TG} (h : PG X tg t) (i : ∀ v σ H Q, t' v σ H Q → t v σ H Q) : PG X tg t' := ⟨fun pins s σ H v u Q I r q => h.run pins s σ H v u Q I r (i v σ H Q q)⟩
theorem pgsI {t t' : TGs} (h : PGs X tgs t) (i : ∀ v σ H Q, t' v σ H Q → t v σ H Q) : PGs X tgs t' := ⟨fun pins s σ H v u Q I r q => h.run pins s σ H v u Q I r (i v σ H Q q)⟩
theorem wg_name {i : Nat} {x : Str} (hN : X.N.Nodup) (hi : X.N[i]? = some x) (hx : Loc X.env.scope x) (hf : X.fn x = true ∨ X.env.scope.names.lookup x = some .local := by first | exact .inl rfl | exact .inr rfl | assumption) : WG X an dr (.Name x pos) [i] (fN i) :=
  ⟨pgI (pg_name (i := i) hN hi hx hf) fun v σ H Q ⟨om, τ, G, ρ, d, P, g, n, hl, id, p, k⟩ => k _ _ p (n.set hl (.v id)) (by rw [List.length_set]; exact hl) (by rw [List.length_set]) (Only.one _ _ _), fun d ρ P P' i p => i _ p⟩
theorem wgs_nil : WGs X an dr [] [] fNil := by
  refine ⟨pgsI pgs_nil fun vs σ H Q ⟨om, τ, G, ρ, ds, P, g, n, hl, id, p, k⟩ => ?_, fun d ρ P P' i p => ?_⟩
  · cases id with
    | nil => exact ⟨rfl, k σ ρ p n hl rfl (Only.nil _)⟩
    | cons _ _ => exact p.elim
  · cases d with
    | nil => exact i _ p
    | cons _ _ => exact p.elim
theorem wgs_cons (h1 : WG X an dr tg js f) (h2 : WGs X an dr tgs ks fs) (hs : (assignEach (tg :: tgs) X.env).map (·.2) = assign tg X.env :: (assignEach tgs X.env).map (·.2) := by rfl) : WGs X an dr (tg :: tgs) (js ++ ks) (fCons f fs) := by
  refine ⟨pgsI (pgs_cons h1.1 h2.1 hs) fun vs σ H Q ⟨om, τ, G, ρ, ds, P, g, n, hl, id, p, k⟩ => ?_, fun d ρ P P' i p => ?_⟩
  · cases id with
    | nil => exact p.elim
    | @cons v vs d ds i1 i2 =>
      exact ⟨v, vs, rfl, om, τ, G, ρ, d, _, g, n, hl, i1, p, fun σ1 ρ1 p1 n1 l1 l2 o1 => ⟨om, τ, G, ρ1, ds, P, g, n1, l1.trans l2.symm, i2, p1, fun σ2 ρ2 p2 n2 l3 l4 o2 => k σ2 ρ2 p2 n2 (l3.trans l2) (l4.trans l2) (o1.app o2)⟩⟩
  · cases d with
    | nil => exact p.elim
    | cons d ds => exact h1.2 _ _ _ _ (fun ρ' q => h2.2 _ _ _ _ i q) p
theorem pg_seq {k : Nat} {t : TGs} {n : Nat} (hc : X.calm = true) (h : PGs X tgs t) (hn : (assignEach tgs X.env).length = n) (hst : (assignEach tgs X.env).findIdx? (·.1) = none) : PG X (.Tuple tgs k pos) (fun v σ H Q => gTup X.K n t v σ H Q ∨ gUnl X.K n t v σ H Q) :=
  ⟨fun pins s σ H v u Q I r q => q.elim (fun q => (pg_tup hc h hn hst).run pins s σ H v u Q I r q) fun q => (pg_unl hc h hn hst).run pins s σ H v u Q I r q⟩
theorem wg_tup {k : Nat} {n : Nat} (hc : X.calm = true) (h : WGs X an dr tgs js fs) (hn : (assignEach tgs X.env).length = n := by rfl) (hst : (assignEach tgs X.env).findIdx? (·.1) = none := by rfl) : WG X an dr (.Tuple tgs k pos) js (fT n fs) := by
  refine ⟨pgI (pg_seq hc h.1 hn hst) fun v σ H Q ⟨om, τ, G, ρ, d, P, g, nv, hl, id, p, kk⟩ => ?_, fun d ρ P P' i p => ?_⟩
  · unfold fT at p
    split at p
    · cases id with
      | tup h1 h2 => exact .inl ⟨_, _, rfl, .inl (.inl (g.ex _ _ h1)), by rw [h2.length]; exact p.1, om, τ, G, ρ, _, P, g, nv, hl, h2, p.2, kk⟩
    · cases id with
      | lst h1 h2 => exact .inr ⟨_, _, rfl, .inl (.inl (g.ex _ _ h1)), by rw [h2.length]; exact p.1, om, τ, G, ρ, _, P, g, nv, hl, h2, p.2, kk⟩
    · exact p.elim
  · unfold fT at p ⊢
    split at p
    · exact ⟨p.1, h.2 _ _ _ _ i p.2⟩
    · exact ⟨p.1, h.2 _ _ _ _ i p.2⟩
    · exact p.elim
/-- target = e -/
theorem retR_fz {om : Om} {τ : List Addr} {G H : Hp} {v : V} {r : R} {P : D → Prop} (g : Good X.K an dr om τ G H) (h : IsR X.K G τ v r) (p : retR om r P) (nd : ∀ d, P d → isDict d = false) : ∃ d G', P d ∧ Is X.K G' v d ∧ Good X.K an dr (fzO om r) τ G' H ∧ Grow G τ G' τ := by
  cases h with
  | v h => exact ⟨_, G, p, h, g, Grow.refl G τ⟩
  | @o a k h =>
    obtain ⟨ds, e, p⟩ := p
    obtain ⟨vs, g', gr, i⟩ := g.freeze h e (nd _ p)
    exact ⟨_, _, p, i, g', gr⟩
theorem ws_asg {ρ : Rho} {om : Om} {e : Expr} {E : Ed} (hg : WG X an dr tg js f) (h : WE X an dr ρ om e fun r om1 => retR om1 r fun d => f d ρ fun ρ' => E.nx ρ' (fzO om1 r)) (hs : swapsWithSole [tg] e pos.line X.env = pure false := by rfl) (hw : swappedStores [tg] e X.env = pure none := by rfl)
    (h1 : (assignEach [tg] X.env).map (·.2) = [assign tg X.env] := by rfl) : WS X an dr ρ om (.Assign [tg] e pos) E :=
  psI (ps_asg (pe_lk (pe_u (an := an) (dr := dr))) hg.1 hs hw h1) fun Z σ H ⟨τ, G, g, n, hl, h1, _⟩ => uE_of h g n fun v r om1 τ1 G1 H1 i1 w g1 gr1 n1 =>
    retR_lk (Z := fun v H2 => tDG X.K an dr js f v σ H2 Z.nx) g1 i1 w fun d G2 H2 p i g2 gr2 => ⟨_, τ1, G2, ρ, d, _, g2, n1.mono gr2, hl, i, p, fun σ' ρ' p' n' l1 l2 _ => h1 σ' H2 ⟨ρ', _, τ1, G2, p', g2, n', gr1.trans gr2, l1, l2⟩⟩
end
/-! ### what is walked -/
def JOk (K : PySem.W.Frag) (an : An) (dr : Option Dr) (J : It) (ds : List D) (G : Hp) (τ : List Addr) : Prop := ∀ om2 τ2 G2 H2, Good K an dr om2 τ2 G2 H2 → Grow G τ G2 τ2 → ∀ i : Nat, (i = ds.length → J.stop i H2) ∧
  ∀ d, ds[i]? = some d → J.go i H2 ∧ ∀ x H3, J.yld i H2 x H3 → ∃ G3, Good K an dr om2 τ2 G3 H3 ∧ Grow G2 τ2 G3 τ2 ∧ Is K G3 x d
def tDI (K : PySem.W.Frag) (an : An) (dr : Option Dr) (ρ : Rho) (om : Om) (Q : List D → Om → Prop) : TI := fun σ H Z => ∃ τ G, Good K an dr om τ G H ∧ EnvIs K G τ σ ρ ∧
  ∀ J ds om' τ' G' H', Q ds om' → ds.length ≤ sizeLine → Good K an dr om' τ' G' H' → Grow G τ G' τ' → (∀ an', JOk K an' dr J ds G' τ') → Z J H'
def WI (X : Cx) (an : An) (dr : Option Dr) (ρ : Rho) (om : Om) (tg iter : Expr) (Q : List D → Om → Prop) : Prop := PI X tg iter (tDI X.K an dr ρ om Q)
section
variable {K : PySem.W.Frag} {an : An} {dr : Option Dr} {G : Hp} {τ : List Addr}
theorem jok_list {a : Addr} {vs : List V} {ds : List D} (h : G a = some (.lst vs)) (i : IsL K G vs ds) : JOk K an dr (Itl K a) ds G τ := fun om2 τ2 G2 H2 g gr j => by
  have hs : SqL K H2 a vs := .inl (.inl (g.ex _ _ (gr.ex _ _ h)))
  refine ⟨fun hj => ⟨vs, hs, by rw [i.length]; omega⟩, fun d hd => ?_⟩
  obtain ⟨v, h1, h2⟩ := i.get hd
  refine ⟨⟨vs, v, hs, h1⟩, fun x H3 y => ?_⟩
  obtain ⟨rfl, y⟩ := y
  have e := (y vs hs).symm.trans h1
  cases e
  exact ⟨G2, g, Grow.refl _ _, h2.mono gr.ex⟩
theorem jok_tup {a : Addr} {vs : List V} {ds : List D} (h : G a = some (.tup vs)) (i : IsL K G vs ds) : JOk K an dr (Itt K a) ds G τ := fun om2 τ2 G2 H2 g gr j => by
  have hs : SqT K H2 a vs := .inl (.inl (g.ex _ _ (gr.ex _ _ h)))
  refine ⟨fun hj => ⟨vs, hs, by rw [i.length]; omega⟩, fun d hd => ?_⟩
  obtain ⟨v, h1, h2⟩ := i.get hd
  refine ⟨⟨vs, v, hs, h1⟩, fun x H3 y => ?_⟩
  obtain ⟨rfl, y⟩ := y
  have e := (y vs hs).symm.trans h1
  cases e
  exact ⟨G2, g, Grow.refl _ _, h2.mono gr.ex⟩
def signs (x : Str) : List D := x.cps.toList.map fun c => .str ⟨#[c]⟩
theorem jok_str {x : Str} : JOk K an dr (Its x) (signs x) G τ := fun om2 τ2 G2 H2 g gr j => by
  refine ⟨fun hj => ?_, fun d hd => ?_⟩
  · show x.cps.size ≤ j
    have := hj
    unfold signs at this
    simp at this
    omega
  · unfold signs at hd
    rw [List.getElem?_map] at hd
    cases e : x.cps.toList[j]? with
    | none => rw [e] at hd; cases hd
    | some c =>
      rw [e] at hd
      cases hd
      have e2 : x.cps[j]? = some c := by simpa using e
      refine ⟨?_, fun y H3 q => ?_⟩
      · show j < x.cps.size
        exact (Array.getElem?_eq_some_iff.mp e2).1
      · obtain ⟨rfl, c', h1, rfl⟩ := q
        rw [e2] at h1
        cases h1
        exact ⟨G2, g, Grow.refl _ _, .str _⟩
theorem jok_range {n : Nat} : JOk K an dr (Itr 0 n) ((List.range n).map fun (i : Nat) => D.int (i : Int)) G τ := fun om2 τ2 G2 H2 g gr j => by
  refine ⟨fun hj => ?_, fun d hd => ?_⟩
  · show n ≤ j
    simp at hj
    omega
  · rw [List.getElem?_map] at hd
    by_cases hj : j < n
    · rw [List.getElem?_range hj] at hd
      cases hd
      refine ⟨hj, fun x H3 q => ?_⟩
      obtain ⟨rfl, rfl⟩ := q
      refine ⟨G2, g, Grow.refl _ _, ?_⟩
      rw [Int.zero_add]
      exact .int _
    · rw [List.getElem?_eq_none (by simpa using hj)] at hd
      cases hd
end
section
variable {X : Cx} {an : An} {dr : Option Dr} {ρ : Rho} {om : Om} {e e2 : Expr} {tg : Expr} {pos : Pos}
def walkD (d : D) (K : List D → Prop) : Prop := match d with
  | .lst ds => K ds
  | .tup ds => K ds
  | .str x => x.cps.size ≤ sizeLine ∧ K (signs x)
  | _ => False
/-- over a list, a tuple, a text -/
theorem wi_seq {Q : List D → Om → Prop} (h : WE X an dr ρ om e fun r om1 => retR om1 r fun d => walkD d fun ds => Q ds (fzO om1 r)) : WI X an dr ρ om tg e Q := by
  refine ⟨fun pins s σ H Z I q => ?_⟩
  obtain ⟨τ, G, g, n, k⟩ := q
  refine thn (PE.run (pe_lk h) pins s σ H (fun v H1 => ∃ d om' τ' G', Is X.K G' v d ∧ Good X.K an dr om' τ' G' H1 ∧ Grow G τ G' τ' ∧ walkD d fun ds => Q ds om') I ⟨τ, G, g, n, fun v r om' τ' G' H' h1 h2 h3 h4 => ?_⟩) fun v s1 ⟨x, H1, I1, r1, d, om1, τ1, G1, i1, g1, gr1, q1⟩ => ?_
  · exact retR_lk (Z := fun v H1 => ∃ d om' τ' G', Is X.K G' v d ∧ Good X.K an dr om' τ' G' H1 ∧ Grow G τ G' τ' ∧ walkD d fun ds => Q ds om') h3 h1 h2 fun d G2 H2 p i g2 gr2 => ⟨d, _, τ', G2, i, g2, h4.trans gr2, p⟩
  · cases i1 with
    | lst hp il =>
      cases r1
      have hq : SqL X.K H1 _ _ := .inl (.inl (g1.ex _ _ hp))
      obtain ⟨its, rv, p, hz⟩ := I1.list hq
      refine wpAny_pyIter_list p.isList ?_
      refine ⟨s1.heap.objs.size, [s1.heap.objs.size], _, _, H1, rfl, I1.kept (t' := s1.toks) fun b o e => Heap.get?_push_of_some _ e, turn_list _ _, ⟨_, Heap.get?_push_size _ rfl, rfl, rfl⟩, fun b hb => ?_, k _ _ _ _ _ _ q1 (by rw [← il.length]; exact hz) g1 gr1 (fun _ => jok_list hp il)⟩
      have e : b = s1.heap.objs.size := by simpa using hb
      subst e
      exact I1.fpOk (Nat.le_refl _) (I1.hok.fresh (Nat.le_refl _))
    | tup hp il =>
      cases r1
      obtain ⟨its, rv, p, hz⟩ := I1.tuple (.inl (.inl (g1.ex _ _ hp)))
      refine wpAny_pyIter_tuple (show s1.heap.IsTuple _ its.toArray from p) ?_
      refine ⟨s1.heap.objs.size, [s1.heap.objs.size], _, _, H1, rfl, I1.kept (t' := s1.toks) fun b o e => Heap.get?_push_of_some _ e, turn_tuple _ _, ⟨_, Heap.get?_push_size _ rfl, rfl, rfl⟩, fun b hb => ?_, k _ _ _ _ _ _ q1 (by rw [← il.length]; exact hz) g1 gr1 (fun _ => jok_tup hp il)⟩
      have e : b = s1.heap.objs.size := by simpa using hb
      subst e
      exact I1.fpOk (Nat.le_refl _) (I1.hok.fresh (Nat.le_refl _))
    | str x =>
      obtain ⟨t, rfl⟩ := r1
      have kk := k _ _ _ _ _ _ q1.2 (by unfold signs; simpa using q1.1) g1 gr1 (fun _ => jok_str (x := x))
      cases ha : x.cps.all (· < 128)
      · exact wpAny_pyIter_wide ha (pi_one (tk := s1.toks) I1 _ (turn_str _ x t "str_iterator" (.inr rfl)) ⟨_, Heap.get?_push_size _ rfl, rfl, rfl⟩ kk)
      · exact wpAny_pyIter_ascii ha (pi_one (tk := s1.toks) I1 _ (turn_str _ x t "str_ascii_iterator" (.inl rfl)) ⟨_, Heap.get?_push_size _ rfl, rfl, rfl⟩ kk)
    | _ => exact q1.elim
theorem piI {wi wi' : TI} (h : PI X tg e wi) (i : ∀ σ H Z, wi' σ H Z → wi σ H Z) : PI X tg e wi' := ⟨fun pins s σ H Z I q => h.run pins s σ H Z I (i σ H Z q)⟩
def rngD (n : Nat) : List D := (List.range n).map fun (i : Nat) => D.int (i : Int)
def intR (r : R) (K : Int → Prop) : Prop := match r with
  | .v (.int i) => K i
  | _ => False
theorem intR_is {K : PySem.W.Frag} {G : Hp} {τ : List Addr} {v : V} {r : R} {P : Int → Prop} (h : IsR K G τ v r) (p : intR r P) : ∃ b, v = .int b ∧ r = .v (.int b) ∧ P b := by
  unfold intR at p
  split at p
  · cases h with | v h => exact ⟨_, h.int_inv, rfl, p⟩
  · exact p.elim
/-- range(n) -/
theorem wi_range {Q : List D → Om → Prop} {p : Pos} (hm : X.mg "range" = none) (h : WE X an dr ρ om e fun r om1 => intR r fun j => (-1000000 ≤ j ∧ j ≤ 1000000) ∧ Q (rngD j.toNat) om1) (hg : Gl X "range" := by rfl) (hs : starEach [e] X.env = [(false, eval e X.env)] := by rfl) : WI X an dr ρ om tg (.Call (.Name "range" p) [e] [] pos) Q :=
  piI (pi_range1 hg hm (pa_cons (pe_u (an := an) (dr := dr)) pa_nil hs) hs) fun σ H Z ⟨τ, G, g, n, k⟩ => uE_of h g n fun v r om1 τ1 G1 H1 h1 w g1 gr1 n1 => by
    obtain ⟨j, rfl, _, ⟨hj, hj2⟩, w⟩ := intR_is h1 w
    refine ⟨j, rfl, by omega, by omega, k _ _ _ _ _ _ w ?_ g1 gr1 (fun _ => jok_range)⟩
    have : j.toNat ≤ 1000000 := by omega
    unfold rngD
    rw [List.length_map, List.length_range]
    exact Nat.le_trans this (by decide : 1000000 ≤ sizeLine)
/-- enumerate(list), enumerate(tuple) -/
def enumD (ds : List D) : List D := ds.zipIdx.map fun p => .tup [.int (p.2 : Nat), p.1]
theorem enumD_get {ds : List D} {j : Nat} {d : D} (h : (enumD ds)[j]? = some d) : ∃ d0, ds[j]? = some d0 ∧ d = .tup [.int (j : Nat), d0] := by
  unfold enumD at h
  rw [List.getElem?_map, List.getElem?_zipIdx] at h
  cases e : ds[j]? with
  | none => rw [e] at h; cases h
  | some d0 =>
    rw [e] at h
    simp at h
    exact ⟨d0, rfl, h.symm⟩
theorem jok_enum {a : Addr} {vs : List V} {ds : List D} {G : Hp} {τ : List Addr} {K : PySem.W.Frag} (h : G a = some (.lst vs)) (i : IsL K G vs ds) : JOk K an dr (Ite K a) (enumD ds) G τ := fun om2 τ2 G2 H2 g gr j => by
  have hs : SqL K H2 a vs := .inl (.inl (g.ex _ _ (gr.ex _ _ h)))
  refine ⟨fun hj => ⟨vs, hs, by rw [i.length]; simp [enumD] at hj; omega⟩, fun d hd => ?_⟩
  obtain ⟨d0, hd0, rfl⟩ := enumD_get hd
  obtain ⟨v, h1, h2⟩ := i.get hd0
  refine ⟨⟨vs, v, hs, h1⟩, fun x H3 y => ?_⟩
  obtain ⟨T, y0, rfl, hT, rfl, y⟩ := y
  have e := (y vs hs).symm.trans h1
  cases e
  exact ⟨_, g.alloc hT, g.grow hT, .tup upd_same (.cons (.int _) (.cons (h2.mono (gr.ex.trans (Ex.new (g.ex.free hT)))) .nil))⟩
theorem wi_enumL {Q : List D → Om → Prop} {p tpos : Pos} {elts : List Expr} {kk : Nat} (hm : X.mg "enumerate" = none) (h : WE X an dr ρ om e fun r om1 => retR om1 r fun d => ∃ ds, d = .lst ds ∧ ds.length ≤ sizeLine ∧ Q (enumD ds) (fzO om1 r)) (hg : Gl X "enumerate" := by rfl) (hs : starEach [e] X.env = [(false, eval e X.env)] := by rfl) :
    WI X an dr ρ om (.Tuple elts kk tpos) (.Call (.Name "enumerate" p) [e] [] pos) Q :=
  piI (pi_enum hg hm (pa_cons (pe_u (an := an) (dr := dr)) pa_nil hs) hs) fun σ H Z ⟨τ, G, g, n, k⟩ => uE_of h g n fun v r om1 τ1 G1 H1 h1 w g1 gr1 n1 => by
    obtain ⟨d, G2, ⟨ds, rfl, hz, w⟩, i, g2, gr2⟩ := retR_fz g1 h1 w (fun d z => by obtain ⟨_, rfl, _⟩ := z; rfl)
    cases i with
    | lst hp il => exact ⟨_, _, rfl, .inl (.inl (g2.ex _ _ hp)), k _ _ _ _ _ _ w (by simpa [enumD] using hz) g2 (gr1.trans gr2) (fun _ => jok_enum hp il)⟩
/-- zip of two lists -/
def zipD (xs ys : List D) : List D := (xs.zip ys).map fun p => .tup [p.1, p.2]
theorem zipD_get {xs ys : List D} {j : Nat} {d : D} (h : (zipD xs ys)[j]? = some d) : ∃ a b, xs[j]? = some a ∧ ys[j]? = some b ∧ d = .tup [a, b] := by
  unfold zipD at h
  rw [List.getElem?_map] at h
  cases e : (xs.zip ys)[j]? with
  | none => rw [e] at h; cases h
  | some q =>
    rw [e] at h
    cases h
    obtain ⟨h1, h2⟩ := List.getElem?_zip_eq_some.mp e
    exact ⟨_, _, h1, h2, rfl⟩
theorem jok_zip {a b : Addr} {vs ws : List V} {ds es : List D} {G : Hp} {τ : List Addr} {K : PySem.W.Frag} (h : G a = some (.lst vs)) (i : IsL K G vs ds) (h' : G b = some (.lst ws)) (i' : IsL K G ws es) : JOk K an dr (Itz K a b) (zipD ds es) G τ := fun om2 τ2 G2 H2 g gr j => by
  have hs : SqL K H2 a vs := .inl (.inl (g.ex _ _ (gr.ex _ _ h)))
  have hs' : SqL K H2 b ws := .inl (.inl (g.ex _ _ (gr.ex _ _ h')))
  refine ⟨fun hj => ⟨vs, ws, hs, hs', ?_⟩, fun d hd => ?_⟩
  · rw [i.length, i'.length]
    simp [zipD] at hj
    omega
  · obtain ⟨d1, d2, hd1, hd2, rfl⟩ := zipD_get hd
    obtain ⟨v, h1, h2⟩ := i.get hd1
    obtain ⟨v', h1', h2'⟩ := i'.get hd2
    refine ⟨⟨vs, ws, v, v', hs, hs', h1, h1'⟩, fun x H3 y => ?_⟩
    obtain ⟨T, y0, y1, rfl, hT, rfl, y, y'⟩ := y
    have e := (y vs hs).symm.trans h1
    cases e
    have e := (y' ws hs').symm.trans h1'
    cases e
    exact ⟨_, g.alloc hT, g.grow hT, .tup upd_same (.cons (h2.mono (gr.ex.trans (Ex.new (g.ex.free hT)))) (.cons (h2'.mono (gr.ex.trans (Ex.new (g.ex.free hT)))) .nil))⟩
theorem wi_zipL {Q : List D → Om → Prop} {p tpos : Pos} {elts : List Expr} {kk : Nat} (hm : X.mg "zip" = none) (h : WA X an dr ρ om [e, e2] fun rs om1 => allV rs fun ds => ∃ xs ys, ds = [.lst xs, .lst ys] ∧ xs.length ≤ sizeLine ∧ Q (zipD xs ys) om1) (hg : Gl X "zip" := by rfl)
    (hs : starEach [e, e2] X.env = (false, eval e X.env) :: starEach [e2] X.env := by rfl) (hpl : (backTo pos (starEach [e2] X.env)).any (·.1) = false := by rfl) :
    WI X an dr ρ om (.Tuple elts kk tpos) (.Call (.Name "zip" p) [e, e2] [] pos) Q :=
  piI (pi_zip hg hm (pa_u (an := an) (dr := dr)) hs hpl) fun σ H Z ⟨τ, G, g, n, k⟩ => uA_of h g n fun vs rs om1 τ1 G1 H1 h1 w g1 gr1 n1 => by
    obtain ⟨ds, i, xs, ys, rfl, hz, w⟩ := allV_is h1 w
    cases i with
    | cons i1 i =>
      cases i with
      | cons i2 i =>
        cases i
        cases i1 with
        | lst hp il =>
          cases i2 with
          | lst hp' il' => exact ⟨_, _, _, _, rfl, .inl (.inl (g1.ex _ _ hp)), .inl (.inl (g1.ex _ _ hp')), k _ _ _ _ _ _ w (by simp [zipD]; omega) g1 gr1 (fun _ => jok_zip hp il hp' il')⟩
/-! ### for -/
theorem ws_for {f : TgF} {js : List Nat} {body : List Stmt} {E : Ed} {iter : Expr} (hp : PassesOwn (model X.prog X.w) X.A X.env X.xe) (hc : X.calm = true) (hg : WG X an dr tg js f)
    (hi : WI X an dr ρ om tg iter fun ds om1 => ∃ P : Nat → Rho → Om → Prop, P 0 ρ om1 ∧ (∀ i d ρ' om', ρ'.length = ρ.length → ds[i]? = some d → P i ρ' om' → f d ρ' fun ρ2 => WSs X an dr ρ2 om' body { nx := P (i + 1), rt := E.rt, bk := E.nx, ct := P (i + 1) }) ∧ ∀ ρ' om', ρ'.length = ρ.length → P ds.length ρ' om' → E.nx ρ' om')
    (hs : ∀ x, foldedSetIterable iter X.env x = pure x := by intro _; rfl) : WS X an dr ρ om (.For tg iter body [] pos) E :=
  psI (ps_for hp hc hi hg.1 (pss_u (an := an) (dr := dr)) hs) fun Z σ H ⟨τ, G, g, n, hl, h1, h2, h3, h4⟩ => ⟨τ, G, g, n, fun J ds om1 τ1 G1 H1 ⟨P, p0, ps, pe⟩ hz g1 gr1 jk => by
    have jk := jk an
    refine ⟨fun i m σ' H' => m = ds.length - i ∧ i ≤ ds.length ∧ Left X.K an dr G1 τ1 ρ.length (P i) σ' H', ⟨ds.length, by simp, Nat.zero_le _, ρ, om1, τ1, G1, p0, g1, n.mono gr1, Grow.refl _ _, hl, rfl⟩, ?_⟩
    rintro i m σ2 H2 ⟨rfl, hi, ρ2, om2, τ2, G2, p2, g2, n2, gr2, l1, l2⟩
    have J2 := jk om2 τ2 G2 H2 g2 gr2 i
    by_cases hlt : i < ds.length
    · have hd : ds[i]? = some ds[i] := List.getElem?_eq_getElem hlt
      obtain ⟨go, J3⟩ := J2.2 _ hd
      refine .inr ⟨go, fun σ' H' => Left X.K an dr G1 τ1 ρ.length (P (i + 1)) σ' H', fun σ' H' q => ⟨ds.length - (i + 1), by omega, rfl, hlt, q⟩, fun x H3 y => ?_⟩
      obtain ⟨G3, g3, gr3, i3⟩ := J3 x H3 y
      refine ⟨om2, τ2, G3, ρ2, _, _, g3, n2.mono gr3, l1.trans l2.symm, i3, ps i _ ρ2 om2 l2 hd p2, fun σ4 ρ4 w n4 l3 l4 _ => ?_⟩
      have l4' : ρ4.length = ρ.length := l4.trans l2
      refine uS_of w g3 n4 (l3.trans l4.symm) (fun σ5 H5 q => ?_) (fun v H5 q => ?_) (fun σ5 H5 q => ?_) (fun σ5 H5 q => ?_)
      · exact Left.grow (gr2.trans gr3) (l4' ▸ q)
      · exact h2 v H5 (LeftV.grow ((gr1.trans gr2).trans gr3) q)
      · exact h1 σ5 H5 (Left.grow ((gr1.trans gr2).trans gr3) (l4' ▸ q))
      · exact Left.grow (gr2.trans gr3) (l4' ▸ q)
    · have e : i = ds.length := by omega
      subst e
      exact .inl ⟨J2.1 rfl, h1 σ2 H2 ⟨ρ2, om2, τ2, G2, pe ρ2 om2 l2 p2, g2, n2, gr1.trans gr2, l1, l2⟩⟩⟩
end
end DL

namespace DL
open PySem L2
/-! ### comprehensions -/
abbrev XB (X : Cx) (scope : Scope) (s : Shared) (H : Hp) (C : Addr) (cl : List (Str × Addr)) (fp : List Addr) : Cx := X.blk s H scope (compEnvC scope cl C X.env) fp
def wipeR (ρ : Rho) : List Nat → Rho
  | [] => ρ
  | v :: vs => (wipeR ρ vs).set v none
theorem wipeR_length (ρ : Rho) : ∀ vs : List Nat, (wipeR ρ vs).length = ρ.length
  | [] => rfl
  | v :: vs => by show ((wipeR ρ vs).set v none).length = _; rw [List.length_set, wipeR_length ρ vs]
theorem EnvIs.wipes {K : PySem.W.Frag} {G : Hp} {τ : List Addr} {σ : L2.St} {ρ : Rho} (h : EnvIs K G τ σ ρ) : ∀ vs : List Nat, EnvIs K G τ (L2.wipe σ vs) (wipeR ρ vs)
  | [] => h
  | v :: vs => (EnvIs.wipes h vs).wipe
section
variable {X : Cx} {an : An} {dr : Option Dr} {ρ : Rho} {om : Om} {elt tg iter c : Expr} {scope : Scope} {pos : Pos} {Q : R → Om → Prop} {js : List Nat} {f : TgF} {own : List (Str × Nat)}
def uEb (X : Cx) (an : An) (dr : Option Dr) (scope : Scope) (e : Expr) : TE := fun σ H K' => ∃ ρ om Q, (∀ s H C cl fp, WE (XB X scope s H C cl fp) an dr ρ om e Q) ∧ tD X.K an dr ρ om Q σ H K'
def uTb (X : Cx) (an : An) (dr : Option Dr) (scope : Scope) (e : Expr) : TT := fun σ H K' => ∃ ρ om Q, (∀ s H C cl fp, WT (XB X scope s H C cl fp) an dr ρ om e Q) ∧ tDT X.K an dr ρ om Q σ H K'
theorem pe_ub (s : Shared) (H : Hp) (C : Addr) (cl : List (Str × Addr)) (fp : List Addr) {e : Expr} : PE (XB X scope s H C cl fp) e (uEb X an dr scope e) := ⟨fun pins s1 σ H1 K' I ⟨ρ, om, Q, w, h⟩ => PE.run (w s H C cl fp) pins s1 σ H1 K' I h⟩
theorem pt_ub (s : Shared) (H : Hp) (C : Addr) (cl : List (Str × Addr)) (fp : List Addr) {e : Expr} : PT (XB X scope s H C cl fp) e (uTb X an dr scope e) := ⟨fun pins s1 σ H1 K' I ⟨ρ, om, Q, w, h⟩ => PT.run (w s H C cl fp) pins s1 σ H1 K' I h⟩
theorem Good.drop {K : PySem.W.Frag} {om : Om} {x : Option D} {τ : List Addr} {p : Addr} {G H : Hp} (g : Good K an dr (om ++ [x]) (τ ++ [p]) G H) (ht : ∀ t ∈ an.ties, τ[t.1]? = some t.2) : Good K an dr om τ G H where
  ti := ht
  ex := g.ex
  len := by have := g.len; rw [List.length_append, List.length_append] at this; simpa using this
  nd := (List.nodup_append.mp g.nd).1
  own := fun k q ds h1 h2 => g.own k q ds (by rw [List.getElem?_append_left (List.getElem?_eq_some_iff.mp h1).1]; exact h1) (by rw [List.getElem?_append_left (List.getElem?_eq_some_iff.mp h2).1]; exact h2)
  drg := g.drg
  a1 := g.a1
  a2 := g.a2
  a3 := g.a3
  a4 := fun k q h1 => g.a4 k q (by rw [List.getElem?_append_left (List.getElem?_eq_some_iff.mp h1).1]; exact h1)
  gt := g.gt
  nt0 := g.nt0
/-- one turn's element -/
def Elt (X : Cx) (an : An) (dr : Option Dr) (scope : Scope) (elt : Expr) (ρ2 : Rho) (om : Om) (acc : List D) (N : List D → Prop) : Prop :=
  ∀ s H C cl fp, WE (XB X scope s H C cl fp) an dr ρ2 (om ++ [some (.lst acc)]) elt fun r om3 => om3 = om ++ [some (.lst acc)] ∧ retR om3 r fun d => (∃ d', r = .v d') ∧ N (acc ++ [d])
def Tst (X : Cx) (an : An) (dr : Option Dr) (scope : Scope) (c : Expr) (ρ2 : Rho) (om : Om) (acc : List D) (N : Bool → Prop) : Prop :=
  ∀ s H C cl fp, WT (XB X scope s H C cl fp) an dr ρ2 (om ++ [some (.lst acc)]) c fun b om3 => om3 = om ++ [some (.lst acc)] ∧ N b
theorem lc_go {te : TE} {tt : TT} {J : It} {ds : List D} {τ1 : List Addr} {G1 H1 : Hp} {om1 : Om} {σ : L2.St} {Z : VK} (P : Nat → List D → Prop) (hz : ds.length ≤ sizeLine) (g1 : Good X.K an dr om1 τ1 G1 H1) (n1 : EnvIs X.K G1 τ1 σ ρ) (hl : σ.length = ρ.length) (jk : JOk X.K an dr J ds G1 τ1) (p0 : P 0 [])
    (hj : ∀ i ∈ js, i ∈ own.map (·.2))
    (turn : ∀ i d acc, ds[i]? = some d → acc.length ≤ i → P i acc → f d (wipeR ρ (own.map (·.2))) fun ρ2 => ∀ σ2 τ2 G2 H2 (Y : Bool → Hp → Prop) (Y2 : VK), Good X.K an dr (om1 ++ [some (.lst acc)]) τ2 G2 H2 → EnvIs X.K G2 τ2 σ2 ρ2 →
      (∀ H3 τ3 G3, P (i + 1) acc → Good X.K an dr (om1 ++ [some (.lst acc)]) τ3 G3 H3 → Grow G2 τ2 G3 τ3 → Y false H3) →
      (∀ H3 τ3 G3 y d', P (i + 1) (acc ++ [d']) → Good X.K an dr (om1 ++ [some (.lst acc)]) τ3 G3 H3 → Grow G2 τ2 G3 τ3 → Is X.K G3 y d' → Y2 y H3) →
      tt σ2 H2 fun b H3 => if b = true then te σ2 H3 Y2 else Y false H3)
    (fin : ∀ acc, P ds.length acc → Fin X.K an dr om1 τ1 G1 Z (.lst acc)) :
    ∀ D0, H1 D0 = none → ∃ W : Nat → Nat → Hp → Prop, (∃ m, W 0 m (upd H1 D0 (.lst []))) ∧ ∀ i m H, W i m H →
      (J.stop i H ∧ Z (.ref D0) H) ∨ (J.go i H ∧ ∃ Nx : Hp → Prop, (∀ H', Nx H' → ∃ m', m' < m ∧ W (i + 1) m' H') ∧ ∀ x H', J.yld i H x H' → tDG X.K an dr js f x (L2.wipe σ (own.map (·.2))) H' fun σ2 H2 => L2.wipe σ2 (own.map (·.2)) = L2.wipe σ (own.map (·.2)) ∧ tt σ2 H2 fun b H3 =>
        if b = true then te σ2 H3 fun y H4 => ∃ acc, H4 D0 = some (.lst acc) ∧ acc.length < sizeLine ∧ Nx (upd H4 D0 (.lst (acc ++ [y]))) else Nx H3) := by
  intro D0 hD
  have g0 := g1.fresh (ds := []) hD .nil
  have kD : (τ1 ++ [D0])[om1.length]? = some D0 := by
    rw [g1.len, List.getElem?_append_right (Nat.le_refl _), Nat.sub_self]; rfl
  have oD : ∀ acc : List D, (om1 ++ [some (D.lst acc)])[om1.length]? = some (some (D.lst acc)) := fun acc => by
    rw [List.getElem?_append_right (Nat.le_refl _), Nat.sub_self]; rfl
  refine ⟨fun i m H => m = ds.length - i ∧ i ≤ ds.length ∧ ∃ acc τ2 G2, acc.length ≤ i ∧ P i acc ∧ Good X.K an dr (om1 ++ [some (.lst acc)]) τ2 G2 H ∧ Grow G1 (τ1 ++ [D0]) G2 τ2, ⟨ds.length, by simp, Nat.zero_le _, [], τ1 ++ [D0], G1, Nat.le_refl _, p0, g0, Grow.refl _ _⟩, ?_⟩
  rintro i m H ⟨rfl, hi, acc, τ2, G2, ha, p, g2, gr2⟩
  have gr12 : Grow G1 τ1 G2 τ2 := Good.growF.trans gr2
  have J2 := jk _ τ2 G2 H g2 gr12 i
  have kD2 := gr2.pre _ _ kD
  by_cases hlt : i < ds.length
  · have hd : ds[i]? = some ds[i] := List.getElem?_eq_getElem hlt
    obtain ⟨go, J3⟩ := J2.2 _ hd
    refine .inr ⟨go, fun H' => ∃ acc τ2 G2, acc.length ≤ i + 1 ∧ P (i + 1) acc ∧ Good X.K an dr (om1 ++ [some (.lst acc)]) τ2 G2 H' ∧ Grow G1 (τ1 ++ [D0]) G2 τ2, fun H' q => ⟨ds.length - (i + 1), by omega, rfl, hlt, q⟩, fun x H3 y => ?_⟩
    obtain ⟨G3, g3, gr3, i3⟩ := J3 x H3 y
    have n3 : EnvIs X.K G3 τ2 σ ρ := n1.mono (gr12.trans gr3)
    refine ⟨_, τ2, G3, _, _, _, g3, n3.wipes _, by rw [wipe_length, wipeR_length]; exact hl, i3, turn i _ acc hd ha p, fun σ4 ρ4 w n4 l3 l4 o4 => ⟨?_, ?_⟩⟩
    · have z := o4 (own.map (·.2)) hj
      rw [z]
      apply List.ext_getElem?
      intro j
      rw [wipe_get, wipe_get, wipe_length]
      by_cases hj : j ∈ own.map (·.2)
      · rw [if_pos hj, if_pos hj]
      · rw [if_neg hj, if_neg hj]
    · refine w σ4 τ2 G3 H3 (fun b H' => ∃ acc τ2 G2, acc.length ≤ i + 1 ∧ P (i + 1) acc ∧ Good X.K an dr (om1 ++ [some (.lst acc)]) τ2 G2 H' ∧ Grow G1 (τ1 ++ [D0]) G2 τ2) _ g3 n4 (fun H5 τ5 G5 p5 g5 gr5 => ⟨acc, τ5, G5, by omega, p5, g5, (gr2.trans gr3).trans gr5⟩) fun H5 τ5 G5 y d' p5 g5 gr5 i5 => ?_
      have kD5 := gr5.pre _ _ kD2
      obtain ⟨e1, e2, e3, _, e4, vs, rfl, e5⟩ := g5.own om1.length D0 (.lst acc) kD5 (oD acc)
      refine ⟨vs, e4, by rw [e5.length]; omega, acc ++ [d'], τ5, G5, by rw [List.length_append]; show acc.length + 1 ≤ i + 1; omega, p5, ?_, (gr2.trans gr3).trans gr5⟩
      have g6 := g5.write (vs := vs ++ [y]) (ds := acc ++ [d']) kD5 (oD acc) (e5.append (.cons i5 .nil))
      have e6 : (om1 ++ [some (D.lst acc)]).set om1.length (some (D.lst (acc ++ [d']))) = om1 ++ [some (D.lst (acc ++ [d']))] := by
        rw [List.set_append_right _ _ (Nat.le_refl _), Nat.sub_self]; rfl
      rw [e6] at g6
      exact g6
  · have e : i = ds.length := by omega
    subst e
    refine .inl ⟨J2.1 rfl, ?_⟩
    obtain ⟨vs, g', gr', i'⟩ := g2.freeze kD2 (oD acc) rfl
    have e6 : (om1 ++ [some (D.lst acc)]).set om1.length none = om1 ++ [none] := by
      rw [List.set_append_right _ _ (Nat.le_refl _), Nat.sub_self]; rfl
    rw [e6] at g'
    have l2 : τ2.length = τ1.length + 1 := by
      have := g2.len
      rw [List.length_append, g1.len] at this
      simpa using this.symm
    have e7 : τ2 = τ1 ++ [D0] := by
      apply List.ext_getElem?
      intro j
      by_cases hj : j < (τ1 ++ [D0]).length
      · rw [gr2.pre j _ (List.getElem?_eq_getElem hj), List.getElem?_eq_getElem hj]
      · rw [List.getElem?_eq_none (by rw [l2]; simpa using hj), List.getElem?_eq_none (by simpa using hj)]
    subst e7
    exact fin acc p _ _ _ i' (g'.drop g1.ti) ⟨gr2.ex.trans gr'.ex, fun _ _ h => h⟩
/-- [elt for tg in iter] -/
theorem we_lc (hc : X.calm = true) (hN : X.N.Nodup) (hl : X.N.length = ρ.length) (own : List (Str × Nat)) (ok : BlkOk X.N X.env.scope scope own) (hg : ∀ s H C cl fp, WG (XB X scope s H C cl fp) an dr tg js f) (hj : ∀ i ∈ js, i ∈ own.map (·.2))
    (hi : WI X an dr ρ om tg iter fun ds om1 => ∃ P : Nat → List D → Prop, P 0 [] ∧ (∀ i d acc, ds[i]? = some d → acc.length ≤ i → P i acc → f d (wipeR ρ (own.map (·.2))) fun ρ2 => Elt X an dr scope elt ρ2 om1 acc (P (i + 1))) ∧ ∀ acc, P ds.length acc → Q (.v (.lst acc)) om1)
    (hs : ∀ x, foldedSetIterable iter X.env x = pure x := by intro _; rfl) : WE X an dr ρ om (.ListComp elt [⟨tg, iter, [], 0⟩] scope pos) Q := by
  refine ⟨fun pins s σ H K' I q => (pe_lc (g := tDG X.K an dr js f) hc hN hi ok (fun s H C cl fp => (hg s H C cl fp).1) (fun _ _ _ _ _ => pts_nil) (fun s H C cl fp => pe_ub (an := an) (dr := dr) s H C cl fp) hs).run pins s σ H K' I ?_⟩
  obtain ⟨τ, G, g, n, k⟩ := q
  have hls : σ.length = ρ.length := I.len.trans hl
  refine ⟨τ, G, g, n, fun J ds om1 τ1 G1 H1 ⟨P, p0, ps, pe⟩ hz g1 gr1 jk => lc_go P hz g1 (n.mono gr1) hls (jk an) p0 hj (fun i d acc hd ha p => ?_) fun acc p v G' H' i' g' gr' => k _ _ _ _ _ _ (.v i') (pe acc p) g' (gr1.trans gr')⟩
  have w := ps i d acc hd ha p
  refine (hg s H 0 [] []).2 _ _ _ _ (fun ρ2 w σ2 τ2 G2 H2 Y Y2 g2 n2 y1 y2 => ⟨ρ2, _, _, w, τ2, G2, g2, n2, fun v r om3 τ3 G3 H3 h1 ⟨h2, h3⟩ g3 gr3 => by
    subst h2
    cases h1 with
    | v h1 => exact y2 H3 τ3 G3 v _ h3.2 g3 gr3 h1
    | o h1 => obtain ⟨_, _, ⟨_, z⟩, _⟩ := h3; cases z⟩) w
/-- [elt for tg in iter if c] -/
theorem we_lcIf (hc : X.calm = true) (hN : X.N.Nodup) (hl : X.N.length = ρ.length) (own : List (Str × Nat)) (ok : BlkOk X.N X.env.scope scope own) (hg : ∀ s H C cl fp, WG (XB X scope s H C cl fp) an dr tg js f) (hj : ∀ i ∈ js, i ∈ own.map (·.2))
    (hi : WI X an dr ρ om tg iter fun ds om1 => ∃ P : Nat → List D → Prop, P 0 [] ∧ (∀ i d acc, ds[i]? = some d → acc.length ≤ i → P i acc → f d (wipeR ρ (own.map (·.2))) fun ρ2 => Tst X an dr scope c ρ2 om1 acc fun b => if b = true then Elt X an dr scope elt ρ2 om1 acc (P (i + 1)) else P (i + 1) acc) ∧ ∀ acc, P ds.length acc → Q (.v (.lst acc)) om1)
    (hs : ∀ x, foldedSetIterable iter X.env x = pure x := by intro _; rfl) : WE X an dr ρ om (.ListComp elt [⟨tg, iter, [c], 0⟩] scope pos) Q := by
  refine ⟨fun pins s σ H K' I q => (pe_lc (g := tDG X.K an dr js f) hc hN hi ok (fun s H C cl fp => (hg s H C cl fp).1) (fun s H C cl fp => pts_one (pt_ub (an := an) (dr := dr) s H C cl fp)) (fun s H C cl fp => pe_ub (an := an) (dr := dr) s H C cl fp) hs).run pins s σ H K' I ?_⟩
  obtain ⟨τ, G, g, n, k⟩ := q
  have hls : σ.length = ρ.length := I.len.trans hl
  refine ⟨τ, G, g, n, fun J ds om1 τ1 G1 H1 ⟨P, p0, ps, pe⟩ hz g1 gr1 jk => lc_go P hz g1 (n.mono gr1) hls (jk an) p0 hj (fun i d acc hd ha p => ?_) fun acc p v G' H' i' g' gr' => k _ _ _ _ _ _ (.v i') (pe acc p) g' (gr1.trans gr')⟩
  have w := ps i d acc hd ha p
  refine (hg s H 0 [] []).2 _ _ _ _ (fun ρ2 w σ2 τ2 G2 H2 Y Y2 g2 n2 y1 y2 => ⟨ρ2, _, _, w, τ2, G2, g2, n2, fun b om3 τ3 G3 H3 ⟨h2, h3⟩ g3 gr3 => ?_⟩) w
  subst h2
  cases b with
  | true =>
    rw [if_pos rfl] at h3 ⊢
    refine ⟨ρ2, _, _, h3, τ3, G3, g3, n2.mono gr3, fun v r om4 τ4 G4 H4 h1 ⟨h2, h3⟩ g4 gr4 => ?_⟩
    subst h2
    cases h1 with
    | v h1 => exact y2 H4 τ4 G4 v _ h3.2 g4 (gr3.trans gr4) h1
    | o h1 => obtain ⟨_, _, ⟨_, z⟩, _⟩ := h3; cases z
  | false =>
    rw [if_neg Bool.false_ne_true] at h3 ⊢
    exact y1 H3 τ3 G3 h3 g3 gr3
/-- y = [elt for tg in iter] -/
theorem ws_setLc {i : Nat} {y : Str} {py spos : Pos} {E : Ed} (hc : X.calm = true) (hN : X.N.Nodup) (hl : X.N.length = ρ.length) (hy : X.N[i]? = some y) (hyl : X.env.scope.names.lookup y = some .local) (own : List (Str × Nat)) (ok : BlkOk X.N X.env.scope scope own) (hg : ∀ s H C cl fp, WG (XB X scope s H C cl fp) an dr tg js f) (hj : ∀ i ∈ js, i ∈ own.map (·.2))
    (hsw : swapsWith (.ListComp elt [⟨tg, iter, [], 0⟩] scope pos) (some (.Name y py)) spos.line X.env = pure true)
    (hi : WI X an dr ρ om tg iter fun ds om1 => ∃ P : Nat → List D → Prop, P 0 [] ∧ (∀ i d acc, ds[i]? = some d → acc.length ≤ i → P i acc → f d (wipeR ρ (own.map (·.2))) fun ρ2 => Elt X an dr scope elt ρ2 om1 acc (P (i + 1))) ∧ ∀ acc, P ds.length acc → E.nx (ρ.set i (some (.v (.lst acc)))) om1)
    (hs : ∀ x, foldedSetIterable iter X.env x = pure x := by intro _; rfl) : WS X an dr ρ om (.Assign [.Name y py] (.ListComp elt [⟨tg, iter, [], 0⟩] scope pos) spos) E := by
  refine psI (ps_setLc (g := tDG X.K an dr js f) hc hN hy hyl hsw hi ok (fun s H C cl fp => (hg s H C cl fp).1) (fun _ _ _ _ _ => pts_nil) (fun s H C cl fp => pe_ub (an := an) (dr := dr) s H C cl fp) hs) fun Z σ H ⟨τ, G, g, n, hls, h1, _⟩ => ?_
  refine ⟨τ, G, g, n, fun J ds om1 τ1 G1 H1 ⟨P, p0, ps, pe⟩ hz g1 gr1 jk => lc_go P hz g1 (n.mono gr1) hls (jk an) p0 hj (fun i d acc hd ha p => ?_) fun acc p v G' H' i' g' gr' => h1 _ _ ⟨_, _, _, _, pe acc p, g', EnvIs.set (n.mono (gr1.trans gr')) hls (.v i'), gr1.trans gr', by rw [List.length_set]; exact hls, by rw [List.length_set]⟩⟩
  have w := ps i d acc hd ha p
  refine (hg X.s_0 H 0 [] []).2 _ _ _ _ (fun ρ2 w σ2 τ2 G2 H2 Y Y2 g2 n2 y1 y2 => ⟨ρ2, _, _, w, τ2, G2, g2, n2, fun v r om3 τ3 G3 H3 h1 ⟨h2, h3⟩ g3 gr3 => by
    subst h2
    cases h1 with
    | v h1 => exact y2 H3 τ3 G3 v _ h3.2 g3 gr3 h1
    | o h1 => obtain ⟨_, _, ⟨_, z⟩, _⟩ := h3; cases z⟩) w
theorem ws_setLcIf {i : Nat} {y : Str} {py spos : Pos} {E : Ed} (hc : X.calm = true) (hN : X.N.Nodup) (hl : X.N.length = ρ.length) (hy : X.N[i]? = some y) (hyl : X.env.scope.names.lookup y = some .local) (own : List (Str × Nat)) (ok : BlkOk X.N X.env.scope scope own) (hg : ∀ s H C cl fp, WG (XB X scope s H C cl fp) an dr tg js f) (hj : ∀ i ∈ js, i ∈ own.map (·.2))
    (hsw : swapsWith (.ListComp elt [⟨tg, iter, [c], 0⟩] scope pos) (some (.Name y py)) spos.line X.env = pure true)
    (hi : WI X an dr ρ om tg iter fun ds om1 => ∃ P : Nat → List D → Prop, P 0 [] ∧ (∀ i d acc, ds[i]? = some d → acc.length ≤ i → P i acc → f d (wipeR ρ (own.map (·.2))) fun ρ2 => Tst X an dr scope c ρ2 om1 acc fun b => if b = true then Elt X an dr scope elt ρ2 om1 acc (P (i + 1)) else P (i + 1) acc) ∧ ∀ acc, P ds.length acc → E.nx (ρ.set i (some (.v (.lst acc)))) om1)
    (hs : ∀ x, foldedSetIterable iter X.env x = pure x := by intro _; rfl) : WS X an dr ρ om (.Assign [.Name y py] (.ListComp elt [⟨tg, iter, [c], 0⟩] scope pos) spos) E := by
  refine psI (ps_setLc (g := tDG X.K an dr js f) hc hN hy hyl hsw hi ok (fun s H C cl fp => (hg s H C cl fp).1) (fun s H C cl fp => pts_one (pt_ub (an := an) (dr := dr) s H C cl fp)) (fun s H C cl fp => pe_ub (an := an) (dr := dr) s H C cl fp) hs) fun Z σ H ⟨τ, G, g, n, hls, h1, _⟩ => ?_
  refine ⟨τ, G, g, n, fun J ds om1 τ1 G1 H1 ⟨P, p0, ps, pe⟩ hz g1 gr1 jk => lc_go P hz g1 (n.mono gr1) hls (jk an) p0 hj (fun i d acc hd ha p => ?_) fun acc p v G' H' i' g' gr' => h1 _ _ ⟨_, _, _, _, pe acc p, g', EnvIs.set (n.mono (gr1.trans gr')) hls (.v i'), gr1.trans gr', by rw [List.length_set]; exact hls, by rw [List.length_set]⟩⟩
  have w := ps i d acc hd ha p
  refine (hg X.s_0 H 0 [] []).2 _ _ _ _ (fun ρ2 w σ2 τ2 G2 H2 Y Y2 g2 n2 y1 y2 => ⟨ρ2, _, _, w, τ2, G2, g2, n2, fun b om3 τ3 G3 H3 ⟨h2, h3⟩ g3 gr3 => ?_⟩) w
  subst h2
  cases b with
  | true =>
    rw [if_pos rfl] at h3 ⊢
    refine ⟨ρ2, _, _, h3, τ3, G3, g3, n2.mono gr3, fun v r om4 τ4 G4 H4 h1 ⟨h2, h3⟩ g4 gr4 => ?_⟩
    subst h2
    cases h1 with
    | v h1 => exact y2 H4 τ4 G4 v _ h3.2 g4 (gr3.trans gr4) h1
    | o h1 => obtain ⟨_, _, ⟨_, z⟩, _⟩ := h3; cases z
  | false =>
    rw [if_neg Bool.false_ne_true] at h3 ⊢
    exact y1 H3 τ3 G3 h3 g3 gr3
end
end DL

namespace DL
open PySem L2 PyProof.Rows
/-! ### a def's promise, where no repr is under way -/
/-- a def as it stands behind the top, with defaults or without -/
structure FunA (K : PySem.W.Frag) (x qual : Str) (st : Stmt) (f : Addr) (fd : FuncData) : Prop where
  ex : ∃ (oc : Value) (od : Option Addr) (dV kV doc pm : Value) (an : Option Addr) (cdv ct : Value) (osl : Array (Option Value)), fd = PySem.W.fnOf x qual (defArgs st) (defBody st) (defScope st) dV kV doc pm an cdv ct ∧ K.lookup f = some ⟨oc, od, .func fd, osl⟩ ∧ PySem.W.codeIn K cdv qual = true
  kp : PySem.W.keepIn K (.ref f) = true
theorem FunA.ok {P : Program} {w : World} {K : PySem.W.Frag} {mg : Str → Option Value} {base : Heap} {x qual : Str} {st : Stmt} {f : Addr} {fd : FuncData} {N ps : List Str} {k : Nat} {sp : Sp} (F : FunA K x qual st f fd) (S : FnScope N ps (defScope st)) (len : ∀ vs H Q E, sp vs H Q E → vs.length = ps.length)
    (hb : ∀ (cdv : Value) (A : Around) (outer : List Env) (s : Shared) (H : Hp) (vs : List V) (Q : VK) (E : XK), Room k (A.deeper (PyProof.Rows.envOfC qual (defScope st) s.heap.objs.size f cdv)) → sp vs H Q E →
      ∃ t, PSs (cxOf CX0 P w K mg base N qual (defScope st) f cdv A outer s H E).nox (defBody st) t ∧ t { nx := fun _ H' => Q .non H', rt := Q } (start N vs) H) : FnOk P w K mg base CX0 (k + 1) f fd ps sp := by
  obtain ⟨oc, od, dV, kV, doc, pm, an, cdv, ct, osl, rfl, lk, hcd⟩ := F.ex
  exact fn_of lk hcd S len fun A outer s H vs Q E hr h => by
    obtain ⟨t, h1, h2⟩ := hb cdv A outer s H vs Q E hr h
    exact ⟨t, h1.nox, h2⟩
theorem funA_mk {K : PySem.W.Frag} {x qual : Str} {st : Stmt} {f : Addr} {oc : Value} {od an : Option Addr} {osl : Array (Option Value)} {dV kV doc pm cdv ct : Value} (l : K.lookup f = some ⟨oc, od, .func (PySem.W.fnOf x qual (defArgs st) (defBody st) (defScope st) dV kV doc pm an cdv ct), osl⟩)
    (c : PySem.W.codeIn K cdv qual = true) (k : PySem.W.keepIn K (.ref f) = true) : FunA K x qual st f (PySem.W.fnOf x qual (defArgs st) (defBody st) (defScope st) dV kV doc pm an cdv ct) := ⟨⟨oc, od, dV, kV, doc, pm, an, cdv, ct, osl, rfl, l, c⟩, k⟩
structure FnG (P : Program) (w : World) (K : PySem.W.Frag) (mg : Str → Option Value) (base : Heap) (CX : CXT) (k : Nat) (f : Addr) (fd : FuncData) (ps : List Str) (sp : Sp) : Prop where
  len : ∀ vs H Q E, sp vs H Q E → vs.length = ps.length
  run : ∀ (A : Around) (outer : List Env) (s : Shared) (H : Hp) (args : Args) (us : List Value) (vs : List V) (Q : VK) (E : XK), Room k A → A.guards = some [] → Env0 P w K mg base A outer s H → BindsTo s fd args (ps.zip us) → Vals vs us → sp vs H Q E →
    codeAny (model P w) A (.call (.ref f) args) (CR CX outer P w H s Q E) s
section
variable {P : Program} {w : World} {K : PySem.W.Frag} {mg : Str → Option Value} {base : Heap} {CX : CXT} {k : Nat} {f : Addr} {N ps : List Str} {sp : Sp}
theorem FnG.of {fd : FuncData} (F : FnOk P w K mg base CX k f fd ps sp) : FnG P w K mg base CX k f fd ps sp := ⟨F.len, fun A outer s H args us vs Q E hr _ => F.run A outer s H args us vs Q E hr⟩
/-- by its body -/
theorem FnG.by {x qual : Str} {st : Stmt} {fd : FuncData} (F : FunA K x qual st f fd) (S : FnScope N ps (defScope st)) (len : ∀ vs H Q E, sp vs H Q E → vs.length = ps.length)
    (hbody : ∀ (cdv : Value) (A : Around) (outer : List Env) (s : Shared) (H : Hp) (vs : List V) (Q : VK) (E : XK), Room k (A.deeper (envOfC qual (defScope st) s.heap.objs.size f cdv)) → A.guards = some [] → sp vs H Q E →
      ∃ t, PSs (cxOf CX P w K mg base N qual (defScope st) f cdv A outer s H E) (defBody st) t ∧ t { nx := fun _ H' => Q .non H', rt := Q } (L2.start N vs) H) : FnG P w K mg base CX (k + 1) f fd ps sp := by
  obtain ⟨oc, od, dV, kV, doc, pm, an, cdv, ct, osl, rfl, lk, hcd⟩ := F.ex
  constructor
  · exact len
  · intro A outer s H args us vs Q E room gd env bnd rel want
    have inB : ∀ b o, base.get? b = some o → s.heap.get? b = some o := fun b o e => (env.bs b o e).1
    have inK : K.In s.heap := env.mod.kin.keeps inB
    have kinds : ∀ y ∈ ps.zip us, (defScope st).names.lookup y.1 = some .local ∨ ((defScope st).names.lookup y.1 = some .cell ∧ ((cellsFrom (s.heap.objs.size + 1) (defScope st).names []).lookup y.1).isSome = true) := by
      rintro ⟨n, v⟩ hy
      rcases S.par n (List.of_mem_zip hy).1 with q | q
      · exact .inl q
      · exact .inr ⟨q, PySem.W.cellsFrom_some _ _ _ (.inl q)⟩
    refine codeAny_call_function room.depth (inK _ _ lk) rfl S.co S.gen rfl (PySem.W.codeRec_of inK hcd) (bnd _ _ _ _ (wpAny_newFunctionEnv_cells S.kind kinds ?_))
    rintro _ rfl s1 x
    refine ⟨(env.mod.nolimit.keeps inB).keeps x.toInCall.keep, codeAny_func ?_⟩
    obtain ⟨t, ht, hq⟩ := hbody cdv A outer s H vs Q E (room.deeper _) gd want
    have I := inv_start (CX := CX) (qual := qual) (f := f) (cd := cdv) (E := E) S room.hd env (len _ _ _ _ want) rel x
    refine wpAny_mono (ht.run [] s1 _ H _ I hq) ?_ fun e s' hs => hs
    rintro (_ | _ | _ | u) s' hs
    · obtain ⟨σ', H', J, q⟩ := hs
      exact ⟨V.non, H', J.os, J.bare, J.base, J.hok, rfl, q⟩
    · obtain ⟨_, _, _, q⟩ := hs
      exact q.elim
    · obtain ⟨_, _, _, q⟩ := hs
      exact q.elim
    · obtain ⟨v, σ', H', J, rv, q⟩ := hs
      exact ⟨v, H', J.os, J.bare, J.base, J.hok, rv, q⟩
end
section
variable {X : Cx} {CX : CXT} {k : Nat} {f : Addr} {fd : FuncData} {ps : List Str} {sp : Sp} {E : XK} {x : Str} {p pos : Pos} {e : Expr} {es : List Expr} {t : TA}
theorem pe_callG (F : FnG X.prog X.w X.K X.mg X.base CX k f fd ps sp) (hr : Room k X.A) (gd : X.A.guards = some []) (hg : Gl X x) (hm : X.mg x = some (.ref f)) (hk : PySem.W.keepIn X.K (.ref f) = true) (hb : Binds X.K fd ps []) (hx : Passes CX X E)
    (ha : PA X (e :: es) t) (hdb : (x == ("__debug__" : Str)) = false) (he : starEach (e :: es) X.env = (false, eval e X.env) :: starEach es X.env) (hpl : (backTo pos (starEach es X.env)).any (·.1) = false) :
    PE X (.Call (.Name x p) (e :: es) [] pos) (tCall sp [] E t) := by
  constructor
  intro pins s σ H Q I h
  refine wpAny_Call_Name_kw (ld_glob I hg hm (PySem.W.callWith_K (h₀ := X.base) I.ok.mod.kin hk (thn (ha.run pos pins s σ H _ I h) ?_) he hpl) hdb)
  rintro us s1 ⟨vs, H1, I1, r, q⟩
  have q : sp (vs ++ []) H1 Q E := q
  rw [List.append_nil] at q
  have hl : (us ++ ([] : List Value)).length = ps.length := by
    rw [List.append_nil, ← r.length]
    exact F.len _ _ _ _ q
  have bd := hb s1 us I1.kIn hl
  rw [List.append_nil] at bd
  refine ⟨I1.kIn, wpAny_call (codeAny_mono (F.run X.A X.stack s1 H1 ⟨us, []⟩ us vs Q E hr gd I1.env0 bd r q) ?_)⟩
  rintro (ex | (_ | _ | _ | u)) s' hq
  · exact hx pins σ H1 s1 ex s' I1 hq
  · exact False.elim hq
  · exact False.elim hq
  · exact False.elim hq
  · exact I1.after hq
end
/-! ### the end of a law's row -/
theorem end_law {P : Program} {w : World} {K : PySem.W.Frag} {mg mb : Str → Option Value} {k : Nat} {fa a : Addr} {fd : FuncData} {x : Str} {sp : Sp} {s : Shared} {vs : List Value} {ns : List Int}
    (KX : K.In s.heap) (hns : s.heap.Ns mainGlobals mg) (hb : s.heap.Ns builtinsNs mb) (hbb : ∀ y : Str, y ≠ "__name__" → mb y = bootBuiltins y) (hlim : s.heap.NoLimit) (hsy : ∃ mm, s.heap.Ns sysModules mm) (hg : s.gens = #[])
    (ha : s.heap.get? a = some { cls := .type "list", data := .seq vs.toArray }) (hi : IntsAre vs ns) (hl : ns.length ≤ sizeLine) (hr : Room k callerA)
    (F : ∀ base : Heap, K.In base → base.Ns mainGlobals mg → (∃ o, base.get? sysModules = some o) → FnG P w K mg base CX0 k fa fd [x] sp) (hbind : ∀ (s : Shared) (u : Value), BindsTo s fd ⟨[u], []⟩ [(x, u)])
    (hsp : ∀ H : Hp, L2.Only H → SqL K H a (ns.map V.int) → sp [.ref a] H (fun v _ => v = .bl true) fun _ _ _ => False) :
    codeAny (model P w) callerA (.call (.ref fa) ⟨[.ref a], []⟩) (fun r s' => r = .ok (.ret (.bool true)) ∧ OldK s.heap s'.heap ∧ s'.os = s.os ∧ AllBare s'.gens) s := by
  -- the script is tracked, locked, unless it is the module's own
  let H : Hp := fun b => if b = a ∧ K.lookup a = none then some (.frz { cls := .type "list", data := .seq vs.toArray } (.lst (ns.map V.int))) else none
  have at1 : K.lookup a = none → H a = some (.frz { cls := .type "list", data := .seq vs.toArray } (.lst (ns.map V.int))) := fun z => if_pos ⟨rfl, z⟩
  have known : ∀ b u, H b = some u → b = a ∧ K.lookup a = none ∧ u = .frz { cls := .type "list", data := .seq vs.toArray } (.lst (ns.map V.int)) := fun b u z => by
    by_cases c : b = a ∧ K.lookup a = none
    · have q := (if_pos c).symm.trans z
      exact ⟨c.1, c.2, (Option.some.inj q).symm⟩
    · have q := (if_neg c).symm.trans z
      cases q
  have rv := vals_ints hi
  have nl : (ns.map V.int).length ≤ sizeLine := by rw [List.length_map]; exact hl
  have only : L2.Only H := fun b => by
    cases q : H b with
    | none => exact .inl rfl
    | some u => exact .inr ⟨_, _, congrArg some (known b u q).2.2⟩
  have script : SqL K H a (ns.map V.int) := by
    cases hk : K.lookup a with
    | none => exact .inl (.inr ⟨_, at1 hk⟩)
    | some o =>
      have e := (KX a o hk).symm.trans ha
      cases e
      refine .inr ⟨_, vs.toArray, _, hk, rfl, rfl, rfl, ?_, by simpa using rv⟩
      rw [List.size_toArray, hi.length]
      exact hl
  have hok : HOk P w H s.heap := fun b u q => by
    obtain ⟨rfl, _, rfl⟩ := known b u q
    exact ⟨ha, nl, vs, _, rv, ha⟩
  have kp : ∀ {b : Addr} {o : Obj}, s.heap.get? b = some o → H b = none → (hidT s.heap H).get? b = some o := fun e n => hidT_get e n
  have kd : ∀ {b : Addr} {m : Str → Option Value}, s.heap.Ns b m → (hidT s.heap H).Ns b m := by
    rintro b m ⟨o, es, ep, e, d, r⟩
    refine ⟨o, es, ep, kp e ?_, d, r⟩
    cases q : H b with
    | none => rfl
    | some u =>
      obtain ⟨rfl, _⟩ := known b u q
      rw [ha] at e
      cases e
      cases d
  have kk : K.In (hidT s.heap H) := fun b o e => kp (KX b o e) (by
    cases q : H b with
    | none => rfl
    | some u =>
      obtain ⟨rfl, z, _⟩ := known b u q
      rw [z] at e
      cases e)
  obtain ⟨mc, c1, c2⟩ := hlim
  have env : Env0 P w K mg (hidT s.heap H) callerA [] s H := by
    refine ⟨rfl, ⟨kk, kd hns, ⟨mb, kd hb, hbb⟩, ⟨mc, kd c1, c2⟩⟩, fun b o e => of_hidT e, Nat.le_of_eq (hidT_size _ _), trivial, ?_, hok, .of_eq hg⟩
    intro b hb
    exact absurd (show b ∈ ([] : List Addr) from hb) List.not_mem_nil
  obtain ⟨mm, hmm⟩ := hsy
  obtain ⟨oy, _, _, hoy, _⟩ := kd hmm
  refine codeAny_mono ((F _ kk (kd hns) ⟨oy, hoy⟩).run callerA [] s H ⟨[.ref a], []⟩ [.ref a] [.ref a] _ _ hr rfl env (hbind s (.ref a)) (.cons rfl .nil) (hsp H only script)) ?_
  rintro (ex | (_ | _ | _ | u)) s' h
  · exact False.elim h
  · exact False.elim h
  · exact False.elim h
  · exact False.elim h
  · obtain ⟨v, H', os, bare, un, hok', r', (q : v = .bl true)⟩ := h
    subst q
    obtain rfl : u = Value.bool true := r'
    refine ⟨rfl, OldK.of_keep fun b o e => ?_, os, bare⟩
    cases q : H b with
    | none => exact un.keep b o e q (fun z => absurd (show b ∈ ([] : List Addr) from z) List.not_mem_nil) List.not_mem_nil
    | some u =>
      obtain ⟨rfl, z, rfl⟩ := known b u q
      obtain ⟨e2, _⟩ := hok' _ _ (un.frzs _ _ _ q)
      rw [ha] at e
      cases e
      exact e2
theorem walk_law {l : PySem.W.OpenLaw} {n k : Nat} {q : Program} {loose : List Str} {XP : (Str → Option Value) → Heap → Prop} {YP : World → Heap → Prop} {d : DefRec} {K : Params → PySem.W.Frag} {sp : PySem.W.Frag → Sp} {x : Str}
    (hn : l.most = some n) (hn2 : n ≤ sizeLine) (hq : importsNone q = true) (hdf : d.params.defaults = []) (hr : Room k callerA) (hY : ∀ (w : World) (h : Heap), YP w h → (K w.params).In h)
    (F : ∀ (w : World) (mg : Str → Option Value) (fa : Addr) (h : Heap), (K w.params).In h → h.Ns mainGlobals mg → mg d.name = some (.ref fa) →
      ∃ fd : FuncData, (∀ (s : Shared) (u : Value), BindsTo s fd ⟨[u], []⟩ [(x, u)]) ∧ ∀ base : Heap, (K w.params).In base → base.Ns mainGlobals mg → (∃ o, base.get? sysModules = some o) → FnG l.prog w (K w.params) mg base CX0 k fa fd [x] (sp (K w.params)))
    (hsp : ∀ (K : PySem.W.Frag) (H : Hp) (a : Addr) (ns : List Int), ns.length ≤ n → SqL K H a (ns.map V.int) → sp K [.ref a] H (fun v _ => v = .bl true) fun _ _ _ => False) :
    PySem.W.WalkO q loose XP YP l.row.toRowW d [] (fun f vs => PySem.call f vs) := by
  refine Att.attach_call hn hdf fun w s₀ s₁ mg mb fa o pm cd doc a vs ns G Y ho hd hcd hmg hobj hints hlen hg => ?_
  obtain ⟨fd, hb, hF⟩ := F w mg fa _ (hY w _ Y) G.T.g hmg
  exact end_law (hY w _ Y) G.T.g G.T.b G.T.builtins G.T.nolimit (by obtain ⟨mm, h1, _⟩ := (G.T.seer hq).mods; exact ⟨mm, h1⟩) hg hobj hints (Nat.le_trans hlen hn2) hr hF hb fun H _ hS => hsp (K w.params) H a ns hlen hS
end DL

namespace DL
open PySem L2 PyProof.Rows
/-! ### the end of a law's row, with tables of code objects -/
theorem end_lawT {P : Program} {w : World} {K : PySem.W.Frag} {mg mb : Str → Option Value} {k : Nat} {fa a : Addr} {cs : List (Addr × Addr)} {fd : FuncData} {x : Str} {sp : Sp} {s : Shared} {vs : List Value} {ns : List Int}
    (KX : K.In s.heap) (hns : s.heap.Ns mainGlobals mg) (hb : s.heap.Ns builtinsNs mb) (hbb : ∀ y : Str, y ≠ "__name__" → mb y = bootBuiltins y) (hlim : s.heap.NoLimit) (hsy : ∃ mm, s.heap.Ns sysModules mm) (hg : s.gens = #[])
    (hT : ∀ p ∈ cs, s.heap.get? p.2 = some { cls := .none, data := .fields #[] }) (nT : ∀ p ∈ cs, K.lookup p.2 = none) (C : ∀ p ∈ cs, PySem.W.CodeHd s.heap p.1 p.2)
    (hbm : ∃ (bm : Addr) (ob : Obj), mg "__builtins__" = some (.ref bm) ∧ bm ≠ builtinsNs ∧ s.heap.get? bm = some ob ∧ ob.cls = .type "module" ∧ ob.dict = some builtinsNs ∧ ob.data = .plain)
    (ha : s.heap.get? a = some { cls := .type "list", data := .seq vs.toArray }) (hi : IntsAre vs ns) (hl : ns.length ≤ sizeLine) (hr : Room k callerA)
    (F : ∀ base : Heap, K.In base → base.Ns mainGlobals mg → (∃ o, base.get? sysModules = some o) → (∀ p ∈ cs, LamX.TabB base mg p.1 p.2) → FnG P w K mg base CX0 k fa fd [x] sp) (hbind : ∀ (s : Shared) (u : Value), BindsTo s fd ⟨[u], []⟩ [(x, u)])
    (hsp : ∀ H : Hp, (∀ p ∈ cs, H p.2 = some (.tbl #[])) → (∀ b ps, H b = some (.tbl ps) → ∃ p ∈ cs, p.2 = b) → SqL K H a (ns.map V.int) → sp [.ref a] H (fun v _ => v = .bl true) fun _ _ _ => False) :
    codeAny (model P w) callerA (.call (.ref fa) ⟨[.ref a], []⟩) (fun r s' => r = .ok (.ret (.bool true)) ∧ OldK s.heap s'.heap ∧ s'.os = s.os ∧ AllBare s'.gens) s := by
  have isT : ∀ b : Addr, b ∈ cs.map (·.2) → s.heap.get? b = some { cls := .none, data := .fields #[] } := fun b hb => by
    obtain ⟨p, hp, rfl⟩ := List.mem_map.mp hb
    exact hT p hp
  let H : Hp := fun b => if b ∈ cs.map (·.2) then some (.tbl #[]) else if b = a ∧ K.lookup a = none then some (.frz { cls := .type "list", data := .seq vs.toArray } (.lst (ns.map V.int))) else none
  have inT : ∀ p ∈ cs, H p.2 = some (.tbl #[]) := fun p hp => if_pos (List.mem_map.mpr ⟨p, hp, rfl⟩)
  have aT : a ∉ cs.map (·.2) := fun z => by
    have q := (isT a z).symm.trans ha
    cases congrArg Obj.data (Option.some.inj q)
  have known : ∀ b u, H b = some u → (b ∈ cs.map (·.2) ∧ u = .tbl #[]) ∨ (b = a ∧ K.lookup a = none ∧ u = .frz { cls := .type "list", data := .seq vs.toArray } (.lst (ns.map V.int))) := fun b u z => by
    by_cases c0 : b ∈ cs.map (·.2)
    · exact .inl ⟨c0, (Option.some.inj ((if_pos c0).symm.trans z)).symm⟩
    · by_cases c : b = a ∧ K.lookup a = none
      · have q : H b = some (.frz { cls := .type "list", data := .seq vs.toArray } (.lst (ns.map V.int))) := (if_neg c0).trans (if_pos c)
        exact .inr ⟨c.1, c.2, (Option.some.inj (q.symm.trans z)).symm⟩
      · have q : H b = none := (if_neg c0).trans (if_neg c)
        rw [q] at z; cases z
  have rv := vals_ints hi
  have nl : (ns.map V.int).length ≤ sizeLine := by rw [List.length_map]; exact hl
  have script : SqL K H a (ns.map V.int) := by
    cases hk : K.lookup a with
    | none => exact .inl (.inr ⟨_, (if_neg aT).trans (if_pos ⟨rfl, hk⟩)⟩)
    | some o =>
      have e := (KX a o hk).symm.trans ha
      cases e
      refine .inr ⟨_, vs.toArray, _, hk, rfl, rfl, rfl, ?_, by simpa using rv⟩
      rw [List.size_toArray, hi.length]
      exact hl
  have hok : HOk P w H s.heap := fun b u q => by
    rcases known b u q with ⟨h1, rfl⟩ | ⟨rfl, _, rfl⟩
    · exact isT b h1
    · exact ⟨ha, nl, vs, _, rv, ha⟩
  have kp : ∀ {b : Addr} {o : Obj}, s.heap.get? b = some o → H b = none → (hidT s.heap H).get? b = some o := fun e n => hidT_get e n
  have noD : ∀ {b : Addr} {o : Obj}, s.heap.get? b = some o → (∀ vs n, o.data ≠ .seq vs n) → o.data ≠ .fields #[] → H b = none := fun {b o} e h1 h2 => by
    cases q : H b with
    | none => rfl
    | some u =>
      rcases known b u q with ⟨h3, _⟩ | ⟨rfl, _, _⟩
      · rw [isT b h3] at e; cases e; exact absurd rfl h2
      · rw [ha] at e; cases e; exact absurd rfl (h1 _ _)
  have kd : ∀ {b : Addr} {m : Str → Option Value}, s.heap.Ns b m → (hidT s.heap H).Ns b m := by
    rintro b m ⟨o, es, ep, e, d, r⟩
    exact ⟨o, es, ep, kp e (noD e (fun vs n z => by rw [d] at z; cases z) (fun z => by rw [d] at z; cases z)), d, r⟩
  have kk : K.In (hidT s.heap H) := fun b o e => kp (KX b o e) (by
    cases q : H b with
    | none => rfl
    | some u =>
      rcases known b u q with ⟨h3, _⟩ | ⟨rfl, z, _⟩
      · obtain ⟨p, hp, rfl⟩ := List.mem_map.mp h3
        rw [nT p hp] at e; cases e
      · rw [z] at e; cases e)
  have TB : ∀ p ∈ cs, LamX.TabB (hidT s.heap H) mg p.1 p.2 := fun p hp => by
    refine ⟨?_, ?_, fun z => ?_⟩
    · obtain ⟨o, us, file, tf, flags, tg, inF, text, tt, e1, r1, r2, r3, rs⟩ := C p hp
      refine ⟨o, us, file, tf, flags, tg, inF, text, tt, kp e1 (noD e1 (fun vs n z => by rw [r2] at z; cases z) fun z => ?_), r1, r2, r3, rs⟩
      rw [r2] at z
      cases z
      simp at r3
    · obtain ⟨bm, ob, b1, b2, b3, b4, b5, b6⟩ := hbm
      refine ⟨bm, ob, b1, b2, fun q => ?_, fun q => ?_, kp b3 (noD b3 (fun vs n z => by rw [b6] at z; cases z) fun z => by rw [b6] at z; cases z), b4, b5, b6⟩
      · obtain ⟨o, es, ep, e, hd, _⟩ := hns
        rw [q, e] at b3; cases b3
        rw [hd] at b6; cases b6
      · rw [q, hT p hp] at b3; cases b3; cases b6
    · obtain ⟨o, es, ep, e, hd, _⟩ := hns
      rw [z, hT p hp] at e; cases e; cases hd
  obtain ⟨mc, c1, c2⟩ := hlim
  have env : Env0 P w K mg (hidT s.heap H) callerA [] s H := by
    refine ⟨rfl, ⟨kk, kd hns, ⟨mb, kd hb, hbb⟩, ⟨mc, kd c1, c2⟩⟩, fun b o e => of_hidT e, Nat.le_of_eq (hidT_size _ _), trivial, ?_, hok, .of_eq hg⟩
    intro b hb
    exact absurd (show b ∈ ([] : List Addr) from hb) List.not_mem_nil
  obtain ⟨mm, hmm⟩ := hsy
  obtain ⟨oy, _, _, hoy, _⟩ := kd hmm
  have onlyT : ∀ b ps, H b = some (.tbl ps) → ∃ p ∈ cs, p.2 = b := fun b ps q => by
    rcases known b _ q with ⟨h3, _⟩ | ⟨_, _, z⟩
    · obtain ⟨p, hp, e⟩ := List.mem_map.mp h3; exact ⟨p, hp, e⟩
    · cases z
  refine codeAny_mono ((F _ kk (kd hns) ⟨oy, hoy⟩ TB).run callerA [] s H ⟨[.ref a], []⟩ [.ref a] [.ref a] _ _ hr rfl env (hbind s (.ref a)) (.cons rfl .nil) (hsp H inT onlyT script)) ?_
  rintro (ex | (_ | _ | _ | u)) s' h
  · exact False.elim h
  · exact False.elim h
  · exact False.elim h
  · exact False.elim h
  · obtain ⟨v, H', os, bare, un, hok', r', (q : v = .bl true)⟩ := h
    subst q
    obtain rfl : u = Value.bool true := r'
    have key : ∀ b o, b ∉ cs.map (·.2) → s.heap.get? b = some o → s'.heap.get? b = some o := fun b o nb e => by
      cases q : H b with
      | none => exact un.keep b o e q (fun z => absurd (show b ∈ ([] : List Addr) from z) List.not_mem_nil) List.not_mem_nil
      | some u =>
        rcases known b u q with ⟨h3, _⟩ | ⟨rfl, z, rfl⟩
        · exact absurd h3 nb
        · obtain ⟨e2, _⟩ := hok' _ _ (un.frzs _ _ _ q)
          rw [ha] at e
          cases e
          exact e2
    have grown : ∀ p ∈ cs, ∃ more : Array Value, s'.heap.get? p.2 = some { cls := .none, data := .fields more } := fun p hp => by
      obtain ⟨more, z⟩ := un.tbls p.2 #[] (inT p hp)
      exact ⟨_, hok' p.2 _ z⟩
    refine ⟨rfl, ⟨fun b o e => ?_, fun b o e => ?_⟩, os, bare⟩
    · by_cases hb : b ∈ cs.map (·.2)
      · obtain ⟨p, hp, rfl⟩ := List.mem_map.mp hb
        obtain ⟨more, hm⟩ := grown p hp
        rw [hT p hp] at e
        cases e
        exact .inr (.inl ⟨((C p hp).tab (hT p hp)).isCodeTable, rfl, #[], more, rfl, by rw [Array.empty_append]; exact hm⟩)
      · exact .inl (key b o hb e)
    · by_cases hb : b ∈ cs.map (·.2)
      · obtain ⟨p, hp, rfl⟩ := List.mem_map.mp hb
        obtain ⟨more, hm⟩ := grown p hp
        exact ⟨_, hm⟩
      · exact ⟨o, key b o hb e⟩
theorem walk_lawT {l : PySem.W.OpenLaw} {n k : Nat} {q : Program} {loose : List Str} {XP : (Str → Option Value) → Heap → Prop} {YP : World → Heap → Prop} {d : DefRec} {K : Params → PySem.W.Frag} {x : Str}
    (hn : l.most = some n) (hn2 : n ≤ sizeLine) (hq : importsNone q = true) (hdf : d.params.defaults = []) (hr : Room k callerA) (hY : ∀ (w : World) (h : Heap), YP w h → (K w.params).In h)
    (F : ∀ (w : World) (mg : Str → Option Value) (fa : Addr) (h : Heap), YP w h → (K w.params).In h → h.Ns mainGlobals mg → mg d.name = some (.ref fa) →
      ∃ (fd : FuncData) (cs : List (Addr × Addr)) (sp : Sp), (∀ p ∈ cs, h.get? p.2 = some { cls := .none, data := .fields #[] }) ∧ (∀ p ∈ cs, (K w.params).lookup p.2 = none) ∧ (∀ p ∈ cs, PySem.W.CodeHd h p.1 p.2) ∧ (∀ (s : Shared) (u : Value), BindsTo s fd ⟨[u], []⟩ [(x, u)]) ∧
        (∀ (H : Hp) (a : Addr) (ns : List Int), ns.length ≤ n → (∀ p ∈ cs, H p.2 = some (.tbl #[])) → (∀ b ps, H b = some (.tbl ps) → ∃ p ∈ cs, p.2 = b) → SqL (K w.params) H a (ns.map V.int) → sp [.ref a] H (fun v _ => v = .bl true) fun _ _ _ => False) ∧
        ∀ base : Heap, (K w.params).In base → base.Ns mainGlobals mg → (∃ o, base.get? sysModules = some o) → (∀ p ∈ cs, LamX.TabB base mg p.1 p.2) → FnG l.prog w (K w.params) mg base CX0 k fa fd [x] sp) :
    PySem.W.WalkO q loose XP YP l.row.toRowW d [] (fun f vs => PySem.call f vs) := by
  refine Att.attach_call hn hdf fun w s₀ s₁ mg mb fa o pm cd doc a vs ns G Y ho hd hcd hmg hobj hints hlen hg => ?_
  have KX := hY w _ Y
  obtain ⟨fd, cs, sp, hT, nT, C, hb, hsp, hF⟩ := F w mg fa _ Y KX G.T.g hmg
  exact end_lawT KX G.T.g G.T.b G.T.builtins G.T.nolimit (by obtain ⟨mm, h1, _⟩ := (G.T.seer hq).mods; exact ⟨mm, h1⟩) hg hT nT C G.T.bmain hobj hints (Nat.le_trans hlen hn2) hr hF hb fun H h1 h2 hS => hsp H a ns hlen h1 h2 hS
end DL

namespace DL
open PySem L2
/-! ### a def's promise, told by data -/
abbrev Wp := List D → (D → Prop) → Prop
/-- what a call leaves -/
structure Frm (dr : Option Dr) (G H G' H' : Hp) : Prop where
  e1 : Ex G G'
  e2 : Ex G' H'
  dg : DrG dr G' H'
  kk : ∀ a o, H a = some o → NT o → Off dr a → H' a = some o
  ff : ∀ a o, H a = some o → NT o → G a = none → G' a = none
  gt : ∀ a o, G' a = some o → NT o
/-- what a call may count on -/
structure Pre (dr : Option Dr) (G H : Hp) : Prop where
  ex : Ex G H
  dg : DrG dr G H
  gt : ∀ a o, G a = some o → NT o
theorem Good.frm {K : PySem.W.Frag} {dr : Option Dr} {om : Om} {τ : List Addr} {G H G' H' : Hp} {b : Bool} (g : Good K ⟨G, strip H, b, []⟩ dr om τ G' H') : Frm dr G H G' H' := ⟨g.a1, g.ex, g.drg, fun a o h n f => g.a2 a o (strip_of h n) f, fun a o h n q => g.a3 a (by show strip H a ≠ none; rw [strip_of h n]; exact fun z => nomatch z) q, g.gt⟩
theorem Good.pre {K : PySem.W.Frag} {an : An} {dr : Option Dr} {om : Om} {τ : List Addr} {G H : Hp} (g : Good K an dr om τ G H) : Pre dr G H := ⟨g.ex, g.drg, g.gt⟩
theorem Pre.good {K : PySem.W.Frag} {dr : Option Dr} {G H : Hp} {b : Bool} (p : Pre dr G H) : Good K ⟨G, strip H, b, []⟩ dr [] [] G H := ⟨p.ex, rfl, List.nodup_nil, fun k p ds h => by simp at h, p.dg, Ex.refl G, fun _ _ h _ => (strip_some h).1, fun _ _ h => h, fun k p h => by simp at h, p.gt, fun _ _ => strip_nt, fun t h => nomatch h⟩
theorem Frm.sub {dr : Option Dr} {G H H1 G' H' : Hp} (f : Frm dr G H G' H') (s : ∀ a o, H1 a = some o → H a = some o) : Frm dr G H1 G' H' := ⟨f.e1, f.e2, f.dg, fun a o h => f.kk a o (s a o h), fun a o h => f.ff a o (s a o h), f.gt⟩
def cut (H : Hp) (x : Addr) : Hp := fun a => if a = x then none else H a
theorem cut_some {H : Hp} {x a : Addr} {o : HO} (h : cut H x a = some o) : a ≠ x ∧ H a = some o := by
  unfold cut at h
  by_cases z : a = x
  · rw [if_pos z] at h; cases h
  · rw [if_neg z] at h; exact ⟨z, h⟩
theorem cut_of {H : Hp} {x a : Addr} {o : HO} (h : H a = some o) (n : a ≠ x) : cut H x a = some o := by unfold cut; rw [if_neg n]; exact h
def spD (K : PySem.W.Frag) (dr : Option Dr) (W : Wp) : Sp := fun vs H Q _ => ∃ G ds, Pre dr G H ∧ IsL K G vs ds ∧ W ds fun d => ∀ v G' H', Is K G' v d → Frm dr G H G' H' → Q v H'
def startR (N : List Str) (ds : List D) : Rho := ds.map (fun d => some (.v d)) ++ List.replicate (N.length - ds.length) none
/-- a def is there and keeps W -/
structure Has (P : Program) (w : World) (K : PySem.W.Frag) (mg : Str → Option Value) (base : Heap) (dr : Option Dr) (k : Nat) (x : Str) (ps : List Str) (W : Wp) : Prop where
  ex : ∃ f fd, FnG P w K mg base CX0 k f fd ps (spD K dr W) ∧ mg x = some (.ref f) ∧ PySem.W.keepIn K (.ref f) = true ∧ Binds K fd ps []
  mono : ∀ ds Q Q', (∀ d, Q d → Q' d) → W ds Q → W ds Q'
section
variable {P : Program} {w : World} {K : PySem.W.Frag} {mg : Str → Option Value} {base : Heap} {dr : Option Dr} {N ps : List Str} {W : Wp} {k : Nat}
theorem env_start {G : Hp} {vs : List V} {ds : List D} (i : IsL K G vs ds) : EnvIs K G [] (L2.start N vs) (startR N ds) := fun j r e => by
  unfold startR at e
  unfold L2.start
  by_cases hj : j < ds.length
  · rw [List.getElem?_append_left (by simpa using hj), List.getElem?_map] at e
    rw [List.getElem?_append_left (by rw [List.length_map, i.length]; exact hj), List.getElem?_map]
    cases q : ds[j]? with
    | none => rw [q] at e; cases e
    | some d =>
      rw [q] at e
      cases e
      obtain ⟨v, h1, h2⟩ := i.get q
      exact ⟨v, by rw [h1]; rfl, .v h2⟩
  · rw [List.getElem?_append_right (by simpa using hj), List.getElem?_replicate] at e
    split at e <;> cases e
theorem fnD {x qual : Str} {st : Stmt} {f : Addr} {fd : FuncData} (F : FunA K x qual st f fd) (S : FnScope N ps (defScope st)) (hlen : ∀ ds Q, W ds Q → ds.length = ps.length)
    (hb : ∀ (cdv : Value) (A : Around) (outer : List Env) (s : Shared) (H : Hp) (E : XK) (an : An) (ds : List D) (post : D → Prop), Room k (A.deeper (PyProof.Rows.envOfC qual (defScope st) s.heap.objs.size f cdv)) → A.guards = some [] → W ds post →
      WSs (cxOf CX0 P w K mg base N qual (defScope st) f cdv A outer s H E).nox an dr (startR N ds) [] (defBody st) { nx := fun _ _ => post .non, rt := post }) : FnG P w K mg base CX0 (k + 1) f fd ps (spD K dr W) := by
  refine FnG.by F S (fun vs H Q E h => ?_) (fun cdv A outer s H vs Q E hr gd h => ?_)
  · obtain ⟨G, ds, _, i, h⟩ := h
    rw [i.length]
    exact hlen _ _ h
  · obtain ⟨G, ds, pr, i, h⟩ := h
    refine ⟨_, PSs.nox (hb cdv A outer s H E ⟨G, strip H, false, []⟩ ds _ hr gd h), [], G, pr.good, env_start i, ?_, fun σ' H' q => ?_, fun v H' q => ?_, fun σ' H' q => ?_, fun σ' H' q => ?_⟩
    · unfold L2.start startR
      rw [List.length_append, List.length_append, List.length_map, List.length_map, List.length_replicate, List.length_replicate, i.length]
    · obtain ⟨ρ', om', τ', G', p, g, _, gr, _⟩ := q
      exact p .non G' H' .non g.frm
    · obtain ⟨d, om', τ', G', p, i', g, gr⟩ := q
      rcases i' with i' | ⟨z, _⟩
      · exact p v G' H' i' g.frm
      · cases z
    · obtain ⟨_, _, _, _, p, _⟩ := q
      exact p
    · obtain ⟨_, _, _, _, p, _⟩ := q
      exact p
theorem fn_len {n : Nat} (h : ps.length = n) (hW : ∀ ds Q, W ds Q → ds.length = n) : ∀ ds Q, W ds Q → ds.length = ps.length := fun ds Q q => (hW ds Q q).trans h.symm
end
theorem Good.call {K : PySem.W.Frag} {an : An} {dr : Option Dr} {om : Om} {τ : List Addr} {G H G' H' : Hp} (g : Good K an dr om τ G H) (f : Frm dr G H G' H') : Good K an dr om τ G' H' where
  ex := f.e2
  len := g.len
  nd := g.nd
  own := fun j p ds h1 h2 => by
    obtain ⟨f1, f2, f3, vs, f4, f5⟩ := g.own j p ds h1 h2
    exact ⟨f.ff p _ f4 f5.noTab.1 f1, f2, f3, vs, f.kk p _ f4 f5.noTab.1 f3, f5.mono f.e1⟩
  drg := f.dg
  a1 := g.a1.trans f.e1
  a2 := fun a o h1 h2 => f.kk a o (g.a2 a o h1 h2) (fun ps z => g.nt0 a ps (z ▸ h1)) h2
  a3 := fun a h1 h2 => by
    cases e : an.H0 a with
    | none => exact absurd e h1
    | some o =>
      by_cases hof : Off dr a
      · exact f.ff a o (g.a2 a o e hof) (fun ps z => g.nt0 a ps (z ▸ e)) (g.a3 a h1 h2)
      · cases q : G' a with
        | none => rfl
        | some u =>
          exfalso
          apply hof
          intro y hy
          obtain ⟨_, q1, q2, q3, _⟩ := f.dg y hy
          exact ⟨fun z => (by rw [z, q1] at q; cases q), fun z => (by rw [z, q2] at q; cases q), fun z => (by rw [z, q3] at q; cases q)⟩
  a4 := fun j p h1 => by
    obtain ⟨h0, o, h2, h3⟩ := g.a4 j p h1
    exact ⟨h0, o, f.kk p o h2 h3 h0, h3⟩
  gt := f.gt
  nt0 := g.nt0
  ti := g.ti
section
variable {X : Cx} {an : An} {dr : Option Dr} {ρ : Rho} {om : Om} {e e2 : Expr} {es : List Expr} {pos p : Pos} {Q : R → Om → Prop} {x : Str} {ps : List Str} {W : Wp} {k j : Nat}
theorem we_call (h : Has X.prog X.w X.K X.mg X.base dr k x ps W) (hr : Room j X.A) (gd : X.A.guards = some []) (hw : WA X an dr ρ om (e :: es) fun rs om1 => allV rs fun ds => W ds fun d => Q (.v d) om1) (hkj : k ≤ j := by decide) (hg : Gl X x := by rfl) (hdb : (x == ("__debug__" : Str)) = false := by decide)
    (he : starEach (e :: es) X.env = (false, eval e X.env) :: starEach es X.env := by rfl) (hpl : (backTo pos (starEach es X.env)).any (·.1) = false := by rfl) : WE X an dr ρ om (.Call (.Name x p) (e :: es) [] pos) Q := by
  obtain ⟨f, fd, F, hm, hk, hb⟩ := h.ex
  refine peI (pe_callG F (hr.mono hkj) gd hg hm hk hb pass0 (pa_u (an := an) (dr := dr)) hdb he hpl) fun σ H K' ⟨τ, G, g, n, k⟩ => uA_of hw g n fun vs rs om1 τ1 G1 H1 h1 w g1 gr1 n1 => ?_
  obtain ⟨ds, i, w⟩ := allV_is h1 w
  show spD X.K dr W (vs ++ []) H1 K' E0
  rw [List.append_nil]
  refine ⟨G1, ds, g1.pre, i, h.mono _ _ _ (fun d q v G' H' i' fr => ?_) w⟩
  exact k v _ om1 τ1 G' H' (.v i') q (g1.call fr) (gr1.trans ⟨fr.e1, fun _ _ h => h⟩)
/-! ### built-ins -/
def rB (X : Cx) (F : Wp) : List V → Hp → VK → Prop := fun xs H Q => ∃ an dr om τ G rs, Good X.K an dr om τ G H ∧ Paired (IsR X.K G τ) xs rs ∧ F (rs.map (vw om)) (Fin X.K an dr om τ G Q)
theorem we_blt {id : String} {F : Wp} (hc : CallR X (.builtin id) (rB X F)) (hm : X.mg x = none) (hv : bootBuiltins x = some (.builtin id)) (mono : ∀ ds Q Q', (∀ d, Q d → Q' d) → F ds Q → F ds Q') (h : WA X an dr ρ om (e :: es) fun rs om1 => F (rs.map (vw om1)) fun d => Q (.v d) om1)
    (hg : Gl X x := by rfl) (hn : x ≠ "__name__" := by decide) (hdb : (x == ("__debug__" : Str)) = false := by decide) (he : starEach (e :: es) X.env = (false, eval e X.env) :: starEach es X.env := by rfl) (hpl : (backTo pos (starEach es X.env)).any (·.1) = false := by rfl) :
    WE X an dr ρ om (.Call (.Name x p) (e :: es) [] pos) Q :=
  peI (pe_callB hc hg hm hv (pa_u (an := an) (dr := dr)) hn hdb he hpl) fun σ H K' ⟨τ, G, g, n, k⟩ => uA_of h g n fun vs rs om1 τ1 G1 H1 h1 w g1 gr1 n1 =>
    ⟨an, dr, om1, τ1, G1, rs, g1, h1, mono _ _ _ (fun d q v G' H' i' g' gr' => k v _ om1 τ1 G' H' (.v i') q g' (gr1.trans gr')) w⟩
theorem we_bty {id : String} {F : Wp} (hc : CallR X (.type id) (rB X F)) (hm : X.mg x = none) (hv : bootBuiltins x = some (.type id)) (mono : ∀ ds Q Q', (∀ d, Q d → Q' d) → F ds Q → F ds Q') (h : WA X an dr ρ om (e :: es) fun rs om1 => F (rs.map (vw om1)) fun d => Q (.v d) om1)
    (hg : Gl X x := by rfl) (hn : x ≠ "__name__" := by decide) (hdb : (x == ("__debug__" : Str)) = false := by decide) (he : starEach (e :: es) X.env = (false, eval e X.env) :: starEach es X.env := by rfl) (hpl : (backTo pos (starEach es X.env)).any (·.1) = false := by rfl) :
    WE X an dr ρ om (.Call (.Name x p) (e :: es) [] pos) Q :=
  peI (pe_callTy hc hg hm hv (pa_u (an := an) (dr := dr)) hn hdb he hpl) fun σ H K' ⟨τ, G, g, n, k⟩ => uA_of h g n fun vs rs om1 τ1 G1 H1 h1 w g1 gr1 n1 =>
    ⟨an, dr, om1, τ1, G1, rs, g1, h1, mono _ _ _ (fun d q v G' H' i' g' gr' => k v _ om1 τ1 G' H' (.v i') q g' (gr1.trans gr')) w⟩
def lenF : Wp := fun ds K => match ds with
  | [.lst xs] => K (.int (xs.length : Nat))
  | [.tup xs] => K (.int (xs.length : Nat))
  | [.str z] => z.length ≤ sizeLine ∧ K (.int (z.length : Nat))
  | _ => False
def absF : Wp := fun ds K => match ds with
  | [.int i] => K (.int (if i < 0 then -i else i))
  | _ => False
def intF : Wp := fun ds K => match ds with
  | [.int i] => K (.int i)
  | _ => False
def minF : Wp := fun ds K => match ds with
  | [.int i, .int j] => K (.int (if j < i then j else i))
  | _ => False
def maxF : Wp := fun ds K => match ds with
  | [.int i, .int j] => K (.int (if j > i then j else i))
  | _ => False
def listF : Wp := fun ds K => match ds with
  | [.lst xs] => K (.lst xs)
  | [.tup xs] => K (.lst xs)
  | _ => False
def tupF : Wp := fun ds K => match ds with
  | [.lst xs] => K (.tup xs)
  | [.tup xs] => K (.tup xs)
  | _ => False
def sumF : Wp := fun ds K => match ds with
  | [.lst xs] => ∃ ns : List Int, xs = ns.map D.int ∧ K (.int ns.sum)
  | _ => False
def allF : Wp := fun ds K => match ds with
  | [.lst xs] => ∃ ns : List Bool, xs = ns.map D.bl ∧ K (.bl (ns.all id))
  | _ => False
def anyF : Wp := fun ds K => match ds with
  | [.lst xs] => ∃ ns : List Bool, xs = ns.map D.bl ∧ K (.bl (ns.any id))
  | _ => False
theorem one_arg {K : PySem.W.Frag} {G : Hp} {τ : List Addr} {xs : List V} {rs : List R} {d : D} {om : Om} (h : Paired (IsR K G τ) xs rs) (e : rs.map (vw om) = [d]) : ∃ v r, xs = [v] ∧ rs = [r] ∧ IsR K G τ v r ∧ vw om r = d := by
  cases h with
  | nil => simp at e
  | cons a t =>
    cases t with
    | nil => exact ⟨_, _, rfl, rfl, a, by simpa using e⟩
    | cons _ _ => simp at e
theorem two_args {K : PySem.W.Frag} {G : Hp} {τ : List Addr} {xs : List V} {rs : List R} {d d' : D} {om : Om} (h : Paired (IsR K G τ) xs rs) (e : rs.map (vw om) = [d, d']) : ∃ v r v' r', xs = [v, v'] ∧ rs = [r, r'] ∧ IsR K G τ v r ∧ vw om r = d ∧ IsR K G τ v' r' ∧ vw om r' = d' := by
  cases h with
  | nil => simp at e
  | cons a t =>
    cases t with
    | nil => simp at e
    | cons b t =>
      cases t with
      | nil =>
        simp at e
        exact ⟨_, _, _, _, rfl, rfl, a, e.1, b, e.2⟩
      | cons _ _ => simp at e
theorem ints_inv {K : PySem.W.Frag} {G : Hp} : ∀ {vs : List V} (ns : List Int), IsL K G vs (ns.map D.int) → vs = ns.map V.int
  | _, [], .nil => rfl
  | _, _ :: ns, .cons a t => by rw [ints_inv ns t, a.int_inv]; rfl
theorem bls_inv {K : PySem.W.Frag} {G : Hp} : ∀ {vs : List V} (ns : List Bool), IsL K G vs (ns.map D.bl) → vs = ns.map V.bl
  | _, [], .nil => rfl
  | _, _ :: ns, .cons a t => by rw [bls_inv ns t, a.bl_inv]; rfl
theorem strs_inv {K : PySem.W.Frag} {G : Hp} : ∀ {vs : List V} (ns : List Str), IsL K G vs (ns.map D.str) → vs = ns.map V.str
  | _, [], .nil => rfl
  | _, _ :: ns, .cons a t => by rw [strs_inv ns t, a.str_inv]; rfl
theorem cb_len : CallR X (.builtin "len") (rB X lenF) := by
  intro pins s σ H xs us Q I r h
  obtain ⟨an, dr, om, τ, G, rs, g, hp, h⟩ := h
  unfold lenF at h
  split at h
  · rename_i ds e
    obtain ⟨v, r0, rfl, rfl, i, ev⟩ := one_arg hp e
    obtain ⟨p, vs, rfl, hp, il⟩ := vw_lst g i ev
    exact call_len_seq pins s σ H _ us Q I r ⟨p, vs, rfl, .inl (.inl (.inl hp)), by rw [il.length]; exact h.flat g (.int _)⟩
  · rename_i ds e
    obtain ⟨v, r0, rfl, rfl, i, ev⟩ := one_arg hp e
    obtain ⟨p, vs, rfl, hp, il⟩ := vw_tup g i ev
    exact call_len_seq pins s σ H _ us Q I r ⟨p, vs, rfl, .inr hp, by rw [il.length]; exact h.flat g (.int _)⟩
  · rename_i z e
    obtain ⟨v, r0, rfl, rfl, i, ev⟩ := one_arg hp e
    obtain rfl := vw_str g i ev
    exact call_len_str pins s σ H _ us Q I r ⟨_, rfl, h.1, h.2.flat g (.int _)⟩
  · exact h.elim
theorem cb_abs : CallR X (.builtin "abs") (rB X absF) := by
  intro pins s σ H xs us Q I r h
  obtain ⟨an, dr, om, τ, G, rs, g, hp, h⟩ := h
  unfold absF at h
  split at h
  · rename_i z e
    obtain ⟨v, r0, rfl, rfl, i, ev⟩ := one_arg hp e
    obtain rfl := vw_int g i ev
    exact call_abs pins s σ H _ us Q I r ⟨_, rfl, h.flat g (.int _)⟩
  · exact h.elim
theorem cb_int : CallR X (.type "int") (rB X intF) := by
  intro pins s σ H xs us Q I r h
  obtain ⟨an, dr, om, τ, G, rs, g, hp, h⟩ := h
  unfold intF at h
  split at h
  · rename_i z e
    obtain ⟨v, r0, rfl, rfl, i, ev⟩ := one_arg hp e
    obtain rfl := vw_int g i ev
    exact call_int1 pins s σ H _ us Q I r (.inl ⟨_, rfl, h.flat g (.int _)⟩)
  · exact h.elim
theorem cb_min (hc : X.calm = true) : CallR X (.builtin "min") (rB X minF) := by
  intro pins s σ H xs us Q I r h
  obtain ⟨an, dr, om, τ, G, rs, g, hp, h⟩ := h
  unfold minF at h
  split at h
  · rename_i z z' e
    obtain ⟨v, r0, v', r1, rfl, rfl, i, ev, i', ev'⟩ := two_args hp e
    obtain rfl := vw_int g i ev
    obtain rfl := vw_int g i' ev'
    exact call_min2 hc pins s σ H _ us Q I r ⟨_, _, rfl, h.flat g (.int _)⟩
  · exact h.elim
theorem cb_max (hc : X.calm = true) : CallR X (.builtin "max") (rB X maxF) := by
  intro pins s σ H xs us Q I r h
  obtain ⟨an, dr, om, τ, G, rs, g, hp, h⟩ := h
  unfold maxF at h
  split at h
  · rename_i z z' e
    obtain ⟨v, r0, v', r1, rfl, rfl, i, ev, i', ev'⟩ := two_args hp e
    obtain rfl := vw_int g i ev
    obtain rfl := vw_int g i' ev'
    exact call_max2 hc pins s σ H _ us Q I r ⟨_, _, rfl, h.flat g (.int _)⟩
  · exact h.elim
theorem cb_list : CallR X (.type "list") (rB X listF) := by
  intro pins s σ H xs us Q I r h
  obtain ⟨an, dr, om, τ, G, rs, g, hp, h⟩ := h
  unfold listF at h
  split at h
  · rename_i ds e
    obtain ⟨v, r0, rfl, rfl, i, ev⟩ := one_arg hp e
    obtain ⟨p, vs, rfl, hp, il⟩ := vw_lst g i ev
    exact call_list_of pins s σ H _ us Q I r ⟨p, vs, rfl, .inl (.inl (.inl hp)), fun l hl => h.lst g il l hl⟩
  · rename_i ds e
    obtain ⟨v, r0, rfl, rfl, i, ev⟩ := one_arg hp e
    obtain ⟨p, vs, rfl, hp, il⟩ := vw_tup g i ev
    exact call_list_of pins s σ H _ us Q I r ⟨p, vs, rfl, .inr hp, fun l hl => h.lst g il l hl⟩
  · exact h.elim
theorem cb_tup : CallR X (.type "tuple") (rB X tupF) := by
  intro pins s σ H xs us Q I r h
  obtain ⟨an, dr, om, τ, G, rs, g, hp, h⟩ := h
  unfold tupF at h
  split at h
  · rename_i ds e
    obtain ⟨v, r0, rfl, rfl, i, ev⟩ := one_arg hp e
    obtain ⟨p, vs, rfl, hp, il⟩ := vw_lst g i ev
    exact call_tuple_of pins s σ H _ us Q I r ⟨p, vs, rfl, .inl ⟨.inl (.inl hp), fun l hl => h.tup g il l hl⟩⟩
  · rename_i ds e
    obtain ⟨v, r0, rfl, rfl, i, ev⟩ := one_arg hp e
    have n1 := vw_not g i ev rfl
    obtain ⟨p, vs, rfl, hp, il⟩ := vw_tup g i ev
    exact call_tuple_of pins s σ H _ us Q I r ⟨p, vs, rfl, .inr ⟨hp, h.flat g n1⟩⟩
  · exact h.elim
theorem cb_sum (hc : X.calm = true) : CallR X (.builtin "sum") (rB X sumF) := by
  intro pins s σ H xs us Q I r h
  obtain ⟨an, dr, om, τ, G, rs, g, hp, h⟩ := h
  unfold sumF at h
  split at h
  · rename_i ds e
    obtain ⟨v, r0, rfl, rfl, i, ev⟩ := one_arg hp e
    obtain ⟨p, vs, rfl, hp, il⟩ := vw_lst g i ev
    obtain ⟨ns, rfl, h⟩ := h
    obtain rfl := ints_inv ns il
    exact cr_sum hc pins s σ H _ us Q I r ⟨p, ns, rfl, .inl (.inl hp), h.flat g (.int _)⟩
  · exact h.elim
theorem cb_all (hc : X.calm = true) : CallR X (.builtin "all") (rB X allF) := by
  intro pins s σ H xs us Q I r h
  obtain ⟨an, dr, om, τ, G, rs, g, hp, h⟩ := h
  unfold allF at h
  split at h
  · rename_i ds e
    obtain ⟨v, r0, rfl, rfl, i, ev⟩ := one_arg hp e
    obtain ⟨p, vs, rfl, hp, il⟩ := vw_lst g i ev
    obtain ⟨ns, rfl, h⟩ := h
    obtain rfl := bls_inv ns il
    exact cr_all hc pins s σ H _ us Q I r ⟨p, ns, rfl, .inl (.inl hp), h.flat g (.bl _)⟩
  · exact h.elim
theorem cb_any (hc : X.calm = true) : CallR X (.builtin "any") (rB X anyF) := by
  intro pins s σ H xs us Q I r h
  obtain ⟨an, dr, om, τ, G, rs, g, hp, h⟩ := h
  unfold anyF at h
  split at h
  · rename_i ds e
    obtain ⟨v, r0, rfl, rfl, i, ev⟩ := one_arg hp e
    obtain ⟨p, vs, rfl, hp, il⟩ := vw_lst g i ev
    obtain ⟨ns, rfl, h⟩ := h
    obtain rfl := bls_inv ns il
    exact cr_any hc pins s σ H _ us Q I r ⟨p, ns, rfl, .inl (.inl hp), h.flat g (.bl _)⟩
  · exact h.elim
end
end DL

namespace DL
open PySem L2
/-! ### isinstance -/
def tyN : D → Option String
  | .non => some "NoneType" | .bl _ => some "bool" | .int _ => some "int" | .str _ => some "str" | .lst _ => some "list" | .tup _ => some "tuple" | .dic _ => some "dict" | _ => none
def isT (x : D) (T : String) : Bool := match x with
  | .non => false
  | .bl _ => T == "bool" || T == "int"
  | .int _ => T == "int"
  | .str _ => T == "str"
  | .lst _ => T == "list"
  | .tup _ => T == "tuple"
  | .dic _ => T == "dict"
  | _ => false
def Kn (T : String) : Prop := T = "int" ∨ T = "bool" ∨ T = "str" ∨ T = "list" ∨ T = "tuple" ∨ T = "dict"
theorem kit_known {x : D} {n T : String} (h : tyN x = some n) (k : Kn T) : kitB n T = some (isT x T) := by
  cases x <;> simp only [tyN, Option.some.injEq, reduceCtorEq] at h <;> subst h <;> rcases k with rfl | rfl | rfl | rfl | rfl | rfl <;> simp only [isT] <;> decide +kernel
def isAny (x : D) : List D → Bool
  | [] => false
  | .ty T :: r => isT x T || isAny x r
  | _ :: r => isAny x r
def KnAll : List D → Prop
  | [] => True
  | .ty T :: r => Kn T ∧ KnAll r
  | _ => False
def isiF : Wp := fun ds K => match ds with
  | [x, .ty T] => (tyN x).isSome = true ∧ Kn T ∧ K (.bl (isT x T))
  | [x, .tup ts] => (tyN x).isSome = true ∧ KnAll ts ∧ K (.bl (isAny x ts))
  | _ => False
section
variable {X : Cx} {an : An} {dr : Option Dr} {ρ : Rho} {om : Om} {e e2 o : Expr} {es : List Expr} {pos p : Pos} {Q : R → Om → Prop} {τ : List Addr} {G H : Hp}
theorem vw_ty {K : PySem.W.Frag} {v : V} {r : R} {d : D} {n : String} (g : Good K an dr om τ G H) (h : IsR K G τ v r) (e : vw om r = d) (t : tyN d = some n) : TyX K H v (.type n) := by
  cases d with
  | lst ds =>
    obtain ⟨p, vs, rfl, hp, _⟩ := vw_lst g h e
    cases t
    exact .base (.lst hp)
  | tup ds =>
    obtain ⟨p, vs, rfl, hp, _⟩ := vw_tupH g h e
    cases t
    exact .base (.tup hp)
  | dic ds =>
    obtain ⟨p, vs, rfl, hp, _⟩ := vw_dic g h e
    cases t
    rcases hp with hp | ⟨ob, hp⟩
    · exact .base (.dK hp)
    · exact .fDict hp
  | non =>
    obtain rfl := (vw_not g h e rfl).non_inv
    cases t
    exact .base .non
  | bl b =>
    obtain rfl := vw_bl g h e
    cases t
    exact .base (.bl _)
  | int b =>
    obtain rfl := vw_int g h e
    cases t
    exact .base (.int _)
  | str b =>
    obtain rfl := vw_str g h e
    cases t
    exact .base (.str _)
  | obj b => cases t
  | ty b => cases t
  | dead => cases t
  | dit _ => cases t
  | ins _ _ => cases t
  | exc _ _ => cases t
  | own _ => cases t
theorem kn_all {K : PySem.W.Frag} {n : String} {x : D} (t : tyN x = some n) : ∀ {vs : List V} {ts : List D}, IsL K G vs ts → KnAll ts → ∃ us, Paired ClsV vs us ∧ PySem.W.kitAny K (.type n) us = some (isAny x ts)
  | _, _, .nil, _ => ⟨[], .nil, rfl⟩
  | _, _, .cons (.ty T) q, k => by
    obtain ⟨us, h1, h2⟩ := kn_all t q k.2
    refine ⟨_, .cons (.ty T) h1, kitAny_cons (kit_ty (kit_known t k.1)) (fun z => ?_) fun z => ?_⟩
    · rw [h2]; simp only [isAny]; rw [z]; rfl
    · simp only [isAny]; rw [z]; rfl
  | _, _, .cons .non _, k => k.elim
  | _, _, .cons (.bl _) _, k => k.elim
  | _, _, .cons (.int _) _, k => k.elim
  | _, _, .cons (.str _) _, k => k.elim
  | _, _, .cons (.lst _ _) _, k => k.elim
  | _, _, .cons (.tup _ _) _, k => k.elim
  | _, _, .cons (.dic _ _) _, k => k.elim
  | _, _, .cons (.dit _ _) _, k => k.elim
  | _, _, .cons (.ins _ _) _, k => k.elim
  | _, _, .cons (.exc0 _) _, k => k.elim
  | _, _, .cons (.excF _ _ _) _, k => k.elim
  | _, _, .cons (.obj _) _, k => k.elim
theorem cb_isi : CallR X (.builtin "isinstance") (rB X isiF) := by
  intro pins s σ H xs us Q I r h
  obtain ⟨an, dr, om, τ, G, rs, g, hp, h⟩ := h
  unfold isiF at h
  split at h
  · rename_i x T e
    obtain ⟨v, r0, v', r1, rfl, rfl, i, ev, i', ev'⟩ := two_args hp e
    obtain ⟨n, hn⟩ := Option.isSome_iff_exists.mp h.1
    have i2 := vw_not g i' ev' rfl
    cases i2
    exact call_isi pins s σ H _ us Q I r ⟨v, .ty T, .type n, .type T, _, rfl, .ty T, vw_ty g i ev hn, kit_ty (kit_known hn h.2.1), h.2.2.flat g (.bl _)⟩
  · rename_i x ts e
    obtain ⟨v, r0, v', r1, rfl, rfl, i, ev, i', ev'⟩ := two_args hp e
    obtain ⟨n, hn⟩ := Option.isSome_iff_exists.mp h.1
    obtain ⟨p, vs, rfl, hp, il⟩ := vw_tupH g i' ev'
    obtain ⟨us', k1, k2⟩ := kn_all (K := X.K) hn il h.2.1
    exact call_isiT pins s σ H _ us Q I r ⟨v, p, vs, .type n, us', _, rfl, hp, k1, vw_ty g i ev hn, k2, h.2.2.flat g (.bl _)⟩
  · exact h.elim
end
end DL

namespace DL
open PySem L2
/-! ### repr -/
def shw (d : D) : Str := (toP d).shown
def rprF : Wp := fun ds K => match ds with
  | [.lst xs] => (toP (.lst xs)).showable = true ∧ shp (.lst xs) ∧ (shw (.lst xs)).length ≤ sizeLine ∧ K (.str (shw (.lst xs)))
  | [.tup xs] => (toP (.tup xs)).showable = true ∧ shp (.tup xs) ∧ (shw (.tup xs)).length ≤ sizeLine ∧ K (.str (shw (.tup xs)))
  | [.bl b] => K (.str (if b then "True" else "False"))
  | [.non] => K (.str "None")
  | [.int i] => i.natAbs.log2 < 1920 ∧ K (.str (toString i))
  | [.str x] => (reprText x).length ≤ sizeLine ∧ K (.str (reprText x))
  | _ => False
section
variable {X : Cx}
theorem repr_ref {pins : List (Addr × Obj)} {s : Shared} {σ : L2.St} {H : Hp} {Q : VK} {a : Addr} {d : D} (gd : X.A.guards = some []) (hu : X.A.units + 66 < cLine) (I : Inv X pins σ H s) (h1 : (toP d).showable = true) (h2 : shp d) (h3 : (shw d).length ≤ sizeLine) (dp : Dp X.K H (.ref a) (toP d)) (q : Q (.str (shw d)) H) :
    wpAny (model X.prog X.w) X.A (call (.builtin "repr") [.ref a]) (EP X pins σ Q) X.xe s := by
  obtain ⟨as, rd⟩ := Dp.reads I _ _ (.ref a) dp rfl
  have nd := PyData.hasDict_of_canLay _ (SeqAt.canLay_of_shaped h2)
  have dd := SeqAt.depth_of_shaped h2
  refine PySem.repr_of_reads' rd h1 (fun z => by rw [nd] at z; cases z) gd (by omega) (fun _ _ e => e) (fun h' u tk hk => ?_) h3
  exact ⟨.str _, H, I.kept (t' := tk) hk, ⟨u, rfl⟩, q⟩
theorem cb_repr (gd : X.A.guards = some []) (hu : X.A.units + 66 < cLine) : CallR X (.builtin "repr") (rB X rprF) := by
  intro pins s σ H xs us Q I r h
  obtain ⟨an, dr, om, τ, G, rs, g, hp, h⟩ := h
  unfold rprF at h
  split at h
  · rename_i ds e
    obtain ⟨v, r0, rfl, rfl, i, ev⟩ := one_arg hp e
    have dp := vw_dp g i ev h.2.1
    obtain ⟨p, vs, rfl, _, _⟩ := vw_lst g i ev
    cases r with
    | cons r rr =>
      cases rr
      cases r
      exact repr_ref gd hu I h.1 h.2.1 h.2.2.1 dp (h.2.2.2.flat g (.str _))
  · rename_i ds e
    obtain ⟨v, r0, rfl, rfl, i, ev⟩ := one_arg hp e
    have dp := vw_dp g i ev h.2.1
    obtain ⟨p, vs, rfl, _, _⟩ := vw_tup g i ev
    cases r with
    | cons r rr =>
      cases rr
      cases r
      exact repr_ref gd hu I h.1 h.2.1 h.2.2.1 dp (h.2.2.2.flat g (.str _))
  · rename_i ds e
    obtain ⟨v, r0, rfl, rfl, i, ev⟩ := one_arg hp e
    obtain rfl := vw_bl g i ev
    cases r with
    | cons r rr =>
      cases rr
      cases r
      exact PySem.P.repr_of_bool ⟨.str _, H, I.tok _, ⟨_, rfl⟩, h.flat g (.str _)⟩
  · rename_i e
    obtain ⟨v, r0, rfl, rfl, i, ev⟩ := one_arg hp e
    obtain rfl := (vw_not g i ev rfl).non_inv
    cases r with
    | cons r rr =>
      cases rr
      cases r
      exact PySem.P.repr_of_none ⟨.str _, H, I.tok _, ⟨_, rfl⟩, h.flat g (.str _)⟩
  · rename_i ds e
    obtain ⟨v, r0, rfl, rfl, i, ev⟩ := one_arg hp e
    obtain rfl := vw_int g i ev
    cases r with
    | cons r rr =>
      cases rr
      obtain ⟨t, rfl⟩ := r
      exact PySem.P.repr_of_int h.1 ⟨.str _, H, I.tok _, ⟨_, rfl⟩, h.2.flat g (.str _)⟩
  · rename_i ds e
    obtain ⟨v, r0, rfl, rfl, i, ev⟩ := one_arg hp e
    obtain rfl := vw_str g i ev
    cases r with
    | cons r rr =>
      cases rr
      obtain ⟨t, rfl⟩ := r
      exact PySem.P.repr_of_str ⟨.str _, H, I.tok _, ⟨_, rfl⟩, h.2.flat g (.str _)⟩ h.1
  · exact h.elim
/-! ### subscripts -/
def ixD (x y : D) (K : D → Prop) : Prop := match x, y with
  | .lst xs, .int i => ∃ d, atI xs i = some d ∧ K d
  | .tup xs, .int i => ∃ d, atI xs i = some d ∧ K d
  | .str z, .int i => z.length ≤ sizeLine ∧ ∃ c, atI z.cps.toList i = some c ∧ K (.str ⟨#[c]⟩)
  | _, _ => False
theorem atI_is {K : PySem.W.Frag} {G : Hp} {vs : List V} {ds : List D} {i : Int} {d : D} (h : IsL K G vs ds) (e : atI ds i = some d) : ∃ v, atI vs i = some v ∧ Is K G v d := by
  unfold atI at e ⊢
  rw [h.length]
  cases q : ixN ds.length i with
  | none => rw [q] at e; cases e
  | some j =>
    rw [q] at e
    exact h.get e
def rIxD (X : Cx) : R2 := fun x y H Q => ∃ an dr om τ G ra rb, Good X.K an dr om τ G H ∧ IsR X.K G τ x ra ∧ IsR X.K G τ y rb ∧ ixD (vw om ra) (vw om rb) (Fin X.K an dr om τ G Q)
theorem ix_D : IxR X (rIxD X) := by
  intro ea eb pins s σ H x y v u Q I rx ry h hs
  refine ix_seq ea eb pins s σ H x y v u Q I rx ry ?_ hs
  obtain ⟨an, dr, om, τ, G, ra, rb, g, ha, hb, h⟩ := h
  unfold ixD at h
  split at h
  · rename_i xs i e1 e2
    obtain ⟨p, vs, rfl, hp, il⟩ := vw_lst g ha e1
    obtain rfl := vw_int g hb e2
    obtain ⟨d, ed, h⟩ := h
    obtain ⟨w, ew, iw⟩ := atI_is il ed
    exact .inl ⟨p, vs, i, w, rfl, rfl, .inl (.inl hp), ew, h.flat g iw⟩
  · rename_i xs i e1 e2
    obtain ⟨p, vs, rfl, hp, il⟩ := vw_tup g ha e1
    obtain rfl := vw_int g hb e2
    obtain ⟨d, ed, h⟩ := h
    obtain ⟨w, ew, iw⟩ := atI_is il ed
    exact .inr (.inl ⟨p, vs, i, w, rfl, rfl, hp, ew, h.flat g iw⟩)
  · rename_i z i e1 e2
    obtain rfl := vw_str g ha e1
    obtain rfl := vw_int g hb e2
    obtain ⟨hz, c, ec, h⟩ := h
    exact .inr (.inr ⟨z, i, c, rfl, rfl, hz, ec, h.flat g (.str _)⟩)
  · exact h.elim
theorem ixD_imp {x y : D} {P P' : D → Prop} (h : ixD x y P) (i : ∀ d, P d → P' d) : ixD x y P' := by
  unfold ixD at h ⊢
  split at h
  · obtain ⟨d, e, h⟩ := h; exact ⟨d, e, i _ h⟩
  · obtain ⟨d, e, h⟩ := h; exact ⟨d, e, i _ h⟩
  · obtain ⟨z, d, e, h⟩ := h; exact ⟨z, d, e, i _ h⟩
  · exact h.elim
variable {an : An} {dr : Option Dr} {ρ : Rho} {om : Om} {e a b o : Expr} {es : List Expr} {pos p : Pos} {Q : R → Om → Prop}
theorem we_ix (h : WE X an dr ρ om a fun ra om1 => WE X an dr ρ om1 b fun rb om2 => ixD (vw om2 ra) (vw om2 rb) fun d => Q (.v d) om2) (hs : PlainIx b := by exact fun _ _ => rfl) : WE X an dr ρ om (.Subscript a b pos) Q :=
  peI (pe_ix ix_D (pe_u (an := an) (dr := dr)) (pe_u (an := an) (dr := dr)) hs) fun σ H K' ⟨τ, G, g, n, k⟩ =>
    uE_of h g n fun v r om1 τ1 G1 H1 h1 w g1 gr1 n1 => uE_of w g1 n1 fun v2 r2 om2 τ2 G2 H2 h2 q g2 gr2 n2 =>
      ⟨an, dr, om2, τ2, G2, r, r2, g2, h1.mono gr2, h2, ixD_imp q fun d q v' G' H' i' g' gr' => k v' _ om2 τ2 G' H' (.v i') q g' ((gr1.trans gr2).trans gr')⟩
/-! ### slices -/
def cutD (xs : List D) (lo hi : Option Int) : List D := (xs.drop (HT.sIx xs.length 0 lo)).take (HT.sIx xs.length xs.length hi - HT.sIx xs.length 0 lo)
def slD (x : D) (lo hi : Option Int) (K : D → Prop) : Prop := match x with
  | .lst xs => K (.lst (cutD xs lo hi))
  | .tup xs => K (.tup (cutD xs lo hi))
  | .str z => z.length ≤ sizeLine ∧ K (.str (cutS z lo hi))
  | _ => False
theorem cut_is {K : PySem.W.Frag} {G : Hp} {vs : List V} {ds : List D} {lo hi : Option Int} (h : IsL K G vs ds) : IsL K G (cutV vs lo hi) (cutD ds lo hi) := by
  unfold cutV cutD
  rw [h.length]
  exact (h.drop _).take _
def rSlD (X : Cx) : V → Option Int → Option Int → Hp → VK → Prop := fun x lo hi H Q => ∃ an dr om τ G ra, Good X.K an dr om τ G H ∧ IsR X.K G τ x ra ∧ slD (vw om ra) lo hi (Fin X.K an dr om τ G Q)
theorem sl_D : SlR X (rSlD X) := by
  intro pins s σ H x v vl vu lo hi sl Q I rx hs pl pu q
  refine (SlR.or (SlR.or sl_list sl_tupA) sl_str) pins s σ H x v vl vu lo hi sl Q I rx hs pl pu ?_
  obtain ⟨an, dr, om, τ, G, ra, g, ha, h⟩ := q
  unfold slD at h
  split at h
  · rename_i xs e1
    obtain ⟨p, vs, rfl, hp, il⟩ := vw_lst g ha e1
    exact .inl (.inl ⟨p, vs, rfl, .inl (.inl hp), fun l hl => h.lst g (cut_is il) l hl⟩)
  · rename_i xs e1
    have n1 := vw_not g ha e1 rfl
    obtain ⟨p, vs, rfl, hp, il⟩ := vw_tup g ha e1
    refine .inl (.inr ⟨p, vs, rfl, hp, fun z => ?_, fun _ l hl => h.tup g (cut_is il) l hl⟩)
    have e : cutD xs lo hi = xs := by
      unfold cutD
      rw [← il.length, z.1, z.2, il.length]
      simp
    rw [e] at h
    exact h.flat g n1
  · rename_i z e1
    obtain rfl := vw_str g ha e1
    exact .inr ⟨z, rfl, h.1, h.2.flat g (.str _)⟩
  · exact h.elim
theorem slD_imp {x : D} {lo hi : Option Int} {P P' : D → Prop} (h : slD x lo hi P) (i : ∀ d, P d → P' d) : slD x lo hi P' := by
  unfold slD at h ⊢
  split at h
  all_goals first | exact h.elim | exact i _ h | exact ⟨h.1, i _ h.2⟩
/-- a part of a slice -/
def WO (X : Cx) (an : An) (dr : Option Dr) (ρ : Rho) (om : Om) (e : Option Expr) (Q : Option Int → Om → Prop) : Prop := match e with
  | none => Q none om
  | some e => WE X an dr ρ om e fun r om1 => intR r fun i => Q (some i) om1
def uO (X : Cx) (an : An) (dr : Option Dr) (e : Option Expr) : TO := fun σ H K' => ∃ ρ om Q τ G, WO X an dr ρ om e Q ∧ Good X.K an dr om τ G H ∧ EnvIs X.K G τ σ ρ ∧ ∀ i om' τ' G' H', Q i om' → Good X.K an dr om' τ' G' H' → Grow G τ G' τ' → K' i H'
theorem po_u {e : Option Expr} : PO X e (uO X an dr e) := by
  cases e with
  | none => exact ⟨fun pins s σ H K' I ⟨ρ, om, Q, τ, G, w, g, n, k⟩ => po_none.run pins s σ H K' I (k none om τ G H w g (Grow.refl G τ))⟩
  | some e =>
    refine ⟨fun pins s σ H K' I ⟨ρ, om, Q, τ, G, w, g, n, k⟩ => (po_some (pe_u (an := an) (dr := dr))).run pins s σ H K' I ?_⟩
    exact uE_of w g n fun v r om1 τ1 G1 H1 h1 w1 g1 gr1 n1 => by
      obtain ⟨i, rfl, _, w1⟩ := intR_is h1 w1
      exact ⟨i, rfl, k _ om1 τ1 G1 H1 w1 g1 gr1⟩
theorem we_sl {lo hi : Option Expr} {p2 : Pos} (h : WE X an dr ρ om a fun ra om1 => WO X an dr ρ om1 lo fun l om2 => WO X an dr ρ om2 hi fun u om3 => slD (vw om3 ra) l u fun d => Q (.v d) om3) : WE X an dr ρ om (.Subscript a (.Slice lo hi none p2) pos) Q :=
  peI (pe_slice sl_D (pe_u (an := an) (dr := dr)) (po_u (an := an) (dr := dr)) (po_u (an := an) (dr := dr))) fun σ H K' ⟨τ, G, g, n, k⟩ =>
    uE_of h g n fun v r om1 τ1 G1 H1 h1 w g1 gr1 n1 => ⟨ρ, om1, _, τ1, G1, w, g1, n1, fun l om2 τ2 G2 H2 w2 g2 gr2 => ⟨ρ, om2, _, τ2, G2, w2, g2, n1.mono gr2, fun u om3 τ3 G3 H3 w3 g3 gr3 =>
      ⟨an, dr, om3, τ3, G3, r, g3, h1.mono (gr2.trans gr3), slD_imp w3 fun d q v' G' H' i' g' gr' => k v' _ om3 τ3 G' H' (.v i') q g' (((gr1.trans gr2).trans gr3).trans gr')⟩⟩⟩
/-! ### methods of lists of one's own -/
theorem tyV_l {K : PySem.W.Frag} {H : Hp} {q : Addr} {vs : List V} (h : H q = some (.lst vs)) : tyV K "list" (.ref q) H := .inl ⟨rfl, vs, .inl (.inl h)⟩
/-- xs.append(e) -/
theorem we_append {apos : Pos} (h : WE X an dr ρ om o fun ro om1 => ∃ k, ro = .o k ∧ (∃ ds, om1[k]? = some (some (.lst ds))) ∧ WE X an dr ρ om1 e fun r om2 => ∃ d ds, r = .v d ∧ om2[k]? = some (some (.lst ds)) ∧ ds.length < sizeLine ∧ Q (.v .non) (om2.set k (some (.lst (ds ++ [d])))))
    (hbase : attributeBase o "append" X.env (eval o X.env) = eval o X.env := by rfl) (hfew : ((backTo pos (starEach [e] X.env)).all (fun x => !x.1) && (backToKw pos (keywordEach [] X.env)).all (fun x => x.1.isSome)
      && decide ([e].length + ([] : List Keyword).length + (if ([] : List Keyword).isEmpty then 0 else 1) < 30)) = true := by rfl)
    (hline : (apos.endLine == pos.line) = true := by rfl) (hs : starEach [e] X.env = (false, eval e X.env) :: starEach [] X.env := by rfl) (hpl : (backTo pos (starEach [] X.env)).any (·.1) = false := by rfl) :
    WE X an dr ρ om (.Call (.Attribute o "append" apos) [e] [] pos) Q :=
  peI (pe_bm PySem.F.plainAttrs_list PySem.F.slot_list_append PySem.F.type_list_append mt_append (pe_u (an := an) (dr := dr)) (pa_cons (pe_u (an := an) (dr := dr)) pa_nil hs) hbase hfew hline hs hpl) fun σ H K' ⟨τ, G, g, n, kk⟩ =>
    uE_of h g n fun v r om1 τ1 G1 H1 h1 w g1 gr1 n1 => by
      obtain ⟨k, rfl, ⟨ds1, ho1⟩, w⟩ := w
      cases h1 with
      | @o a _ h1 =>
        obtain ⟨_, _, _, _, e1, vs1, rfl, _⟩ := g1.own k a (.lst ds1) h1 ho1
        refine ⟨tyV_l e1, uE_of w g1 n1 fun v2 r2 om2 τ2 G2 H2 h2 w2 g2 gr2 n2 => ?_⟩
        obtain ⟨d, ds, rfl, ho, hz, q⟩ := w2
        have hk := gr2.pre _ _ h1
        obtain ⟨_, _, _, _, e4, vs, rfl, e5⟩ := g2.own k a (.lst ds) hk ho
        cases h2 with
        | v h2 => exact ⟨a, vs, v2, rfl, rfl, e4, by rw [e5.length]; exact hz, kk _ _ _ τ2 G2 _ (.v .non) q (g2.write hk ho (e5.append (.cons h2 .nil))) (gr1.trans gr2)⟩
/-- xs.pop(e) -/
theorem we_popAt {apos : Pos} (h : WE X an dr ρ om o fun ro om1 => ∃ k, ro = .o k ∧ (∃ ds, om1[k]? = some (some (.lst ds))) ∧ WE X an dr ρ om1 e fun r om2 => ∃ (i : Nat) (d : D) (ds : List D), r = .v (.int i) ∧ om2[k]? = some (some (.lst ds)) ∧ ds.length ≤ 1000000 ∧ ds[i]? = some d ∧ Q (.v d) (om2.set k (some (.lst (ds.eraseIdx i)))))
    (hbase : attributeBase o "pop" X.env (eval o X.env) = eval o X.env := by rfl) (hfew : ((backTo pos (starEach [e] X.env)).all (fun x => !x.1) && (backToKw pos (keywordEach [] X.env)).all (fun x => x.1.isSome)
      && decide ([e].length + ([] : List Keyword).length + (if ([] : List Keyword).isEmpty then 0 else 1) < 30)) = true := by rfl)
    (hline : (apos.endLine == pos.line) = true := by rfl) (hs : starEach [e] X.env = (false, eval e X.env) :: starEach [] X.env := by rfl) (hpl : (backTo pos (starEach [] X.env)).any (·.1) = false := by rfl) :
    WE X an dr ρ om (.Call (.Attribute o "pop" apos) [e] [] pos) Q :=
  peI (pe_bm PySem.F.plainAttrs_list PySem.F.slot_list_pop PySem.F.type_list_pop mt_popAt (pe_u (an := an) (dr := dr)) (pa_cons (pe_u (an := an) (dr := dr)) pa_nil hs) hbase hfew hline hs hpl) fun σ H K' ⟨τ, G, g, n, kk⟩ =>
    uE_of h g n fun v r om1 τ1 G1 H1 h1 w g1 gr1 n1 => by
      obtain ⟨k, rfl, ⟨ds1, ho1⟩, w⟩ := w
      cases h1 with
      | @o a _ h1 =>
        obtain ⟨_, _, _, _, e1, vs1, rfl, _⟩ := g1.own k a (.lst ds1) h1 ho1
        refine ⟨tyV_l e1, uE_of w g1 n1 fun v2 r2 om2 τ2 G2 H2 h2 w2 g2 gr2 n2 => ?_⟩
        obtain ⟨i, d, ds, rfl, ho, hz, hd, q⟩ := w2
        have hk := gr2.pre _ _ h1
        obtain ⟨_, _, _, _, e4, vs, rfl, e5⟩ := g2.own k a (.lst ds) hk ho
        obtain ⟨y, hy, iy⟩ := e5.get hd
        have hlt : i < ds.length := (List.getElem?_eq_some_iff.mp hd).1
        cases h2 with
        | v h2 =>
          obtain rfl := h2.int_inv
          refine ⟨a, vs, (i : Int), i, y, rfl, rfl, e4, by omega, by omega, ?_, hy, kk _ _ _ τ2 G2 _ (.v iy) q (g2.write hk ho (e5.erase i)) (gr1.trans gr2)⟩
          exact seqIndex_of (by omega) (by rw [e5.length]; omega)
end
end DL

namespace DL
open PySem L2
theorem ifE {t : Bool} {A B : Prop} (h1 : t = true → A) (h2 : t = false → B) : if t = true then A else B := by
  cases t
  · rw [if_neg Bool.false_ne_true]; exact h2 rfl
  · rw [if_pos rfl]; exact h1 rfl
theorem ifT {t : Bool} {A B : Prop} (e : t = true) (h : A) : if t = true then A else B := by rw [if_pos e]; exact h
theorem ifF {t : Bool} {A B : Prop} (e : t = false) (h : B) : if t = true then A else B := by rw [if_neg (by rw [e]; exact Bool.false_ne_true)]; exact h
theorem isiF_mono : ∀ ds Q Q', (∀ d, Q d → Q' d) → isiF ds Q → isiF ds Q' := fun ds Q Q' i h => by
  unfold isiF at h ⊢
  split at h
  · exact ⟨h.1, h.2.1, i _ h.2.2⟩
  · exact ⟨h.1, h.2.1, i _ h.2.2⟩
  · exact h.elim
theorem lenF_mono : ∀ ds Q Q', (∀ d, Q d → Q' d) → lenF ds Q → lenF ds Q' := fun ds Q Q' i h => by
  unfold lenF at h ⊢
  split at h
  all_goals first | exact h.elim | exact i _ h | exact ⟨h.1, i _ h.2⟩
theorem absF_mono : ∀ ds Q Q', (∀ d, Q d → Q' d) → absF ds Q → absF ds Q' := fun ds Q Q' i h => by
  unfold absF at h ⊢
  split at h
  all_goals first | exact h.elim | exact i _ h
theorem intF_mono : ∀ ds Q Q', (∀ d, Q d → Q' d) → intF ds Q → intF ds Q' := fun ds Q Q' i h => by
  unfold intF at h ⊢
  split at h
  all_goals first | exact h.elim | exact i _ h
theorem minF_mono : ∀ ds Q Q', (∀ d, Q d → Q' d) → minF ds Q → minF ds Q' := fun ds Q Q' i h => by
  unfold minF at h ⊢
  split at h
  all_goals first | exact h.elim | exact i _ h
theorem maxF_mono : ∀ ds Q Q', (∀ d, Q d → Q' d) → maxF ds Q → maxF ds Q' := fun ds Q Q' i h => by
  unfold maxF at h ⊢
  split at h
  all_goals first | exact h.elim | exact i _ h
theorem listF_mono : ∀ ds Q Q', (∀ d, Q d → Q' d) → listF ds Q → listF ds Q' := fun ds Q Q' i h => by
  unfold listF at h ⊢
  split at h
  all_goals first | exact h.elim | exact i _ h
theorem tupF_mono : ∀ ds Q Q', (∀ d, Q d → Q' d) → tupF ds Q → tupF ds Q' := fun ds Q Q' i h => by
  unfold tupF at h ⊢
  split at h
  all_goals first | exact h.elim | exact i _ h
theorem sumF_mono : ∀ ds Q Q', (∀ d, Q d → Q' d) → sumF ds Q → sumF ds Q' := fun ds Q Q' i h => by
  unfold sumF at h ⊢
  split at h
  · obtain ⟨n, e, h⟩ := h; exact ⟨n, e, i _ h⟩
  · exact h.elim
theorem allF_mono : ∀ ds Q Q', (∀ d, Q d → Q' d) → allF ds Q → allF ds Q' := fun ds Q Q' i h => by
  unfold allF at h ⊢
  split at h
  · obtain ⟨n, e, h⟩ := h; exact ⟨n, e, i _ h⟩
  · exact h.elim
theorem anyF_mono : ∀ ds Q Q', (∀ d, Q d → Q' d) → anyF ds Q → anyF ds Q' := fun ds Q Q' i h => by
  unfold anyF at h ⊢
  split at h
  · obtain ⟨n, e, h⟩ := h; exact ⟨n, e, i _ h⟩
  · exact h.elim
theorem rprF_mono : ∀ ds Q Q', (∀ d, Q d → Q' d) → rprF ds Q → rprF ds Q' := fun ds Q Q' i h => by
  unfold rprF at h ⊢
  split at h
  all_goals first | exact h.elim | exact i _ h | exact ⟨h.1, i _ h.2⟩ | exact ⟨h.1, h.2.1, h.2.2.1, i _ h.2.2.2⟩
section
variable {X : Cx} {an : An} {dr : Option Dr} {ρ : Rho} {om : Om} {e a b o : Expr} {es : List Expr} {pos p : Pos} {Q : R → Om → Prop}
theorem we_ty {x : Str} {T : String} (hm : X.mg x = none) (hv : bootBuiltins x = some (.type T)) (q : Q (.v (.ty T)) om) (hg : Gl X x := by rfl) (hn : x ≠ "__name__" := by decide) (hd : (x == ("__debug__" : Str)) = false := by decide) : WE X an dr ρ om (.Name x pos) Q :=
  we_bltn (v := .ty T) hm hv rfl (fun _ => .ty T) hg q hn hd
theorem boot_bool : bootBuiltins "bool" = some (.type "bool") := by decide +kernel
theorem boot_dict : bootBuiltins "dict" = some (.type "dict") := by decide +kernel
theorem boot_any : bootBuiltins "any" = some (.builtin "any") := by decide +kernel
theorem boot_max : bootBuiltins "max" = some (.builtin "max") := by decide +kernel
/-- a constant of the module: a text, an int -/
theorem we_gstr {x z : Str} (hm : ∃ t, X.mg x = some (.str z t)) (q : Q (.v (.str z)) om) (hg : Gl X x := by rfl) (hd : (x == ("__debug__" : Str)) = false := by decide) : WE X an dr ρ om (.Name x pos) Q := by
  obtain ⟨t, hm⟩ := hm
  exact we_glob (v := .str z) hm ⟨t, rfl⟩ (fun _ => .str z) hg q hd
theorem we_gint {x : Str} {i : Int} (hm : ∃ t, X.mg x = some (.int i t)) (q : Q (.v (.int i)) om) (hg : Gl X x := by rfl) (hd : (x == ("__debug__" : Str)) = false := by decide) : WE X an dr ρ om (.Name x pos) Q := by
  obtain ⟨t, hm⟩ := hm
  exact we_glob (v := .int i) hm ⟨t, rfl⟩ (fun _ => .int i) hg q hd
/-- sep.join(list of texts) -/
theorem we_join {apos : Pos} (h : WE X an dr ρ om o fun ro om1 => ∃ z : Str, ro = .v (.str z) ∧ WE X an dr ρ om1 e fun r om2 => ∃ ys : List Str, vw om2 r = .lst (ys.map D.str) ∧ (ys.map (·.length)).sum + ys.length * z.length ≤ 16777216 ∧ Q (.v (.str (Txt.join z ys))) om2)
    (hs : starEach [e] X.env = [(false, eval e X.env)] := by rfl) (hbase : attributeBase o "join" X.env (eval o X.env) = eval o X.env := by rfl) (hline : (apos.endLine == pos.line) = true := by rfl) : WE X an dr ρ om (.Call (.Attribute o "join" apos) [e] [] pos) Q :=
  peI (pe_join (pe_u (an := an) (dr := dr)) (pe_u (an := an) (dr := dr)) hs hbase hline) fun σ H K' ⟨τ, G, g, n, k⟩ => uE_of h g n fun v r om1 τ1 G1 H1 h1 w g1 gr1 n1 => by
    obtain ⟨z, rfl, w⟩ := w
    cases h1 with
    | v h1 =>
      obtain rfl := h1.str_inv
      refine ⟨⟨_, rfl⟩, uE_of w g1 n1 fun v2 r2 om2 τ2 G2 H2 h2 w2 g2 gr2 n2 => ?_⟩
      obtain ⟨ys, ev, hz, q⟩ := w2
      obtain ⟨p, vs, rfl, hp, il⟩ := vw_lst g2 h2 ev
      obtain rfl := strs_inv ys il
      exact ⟨z, p, ys, rfl, rfl, .inl (.inl (.inl hp)), hz, k _ _ om2 τ2 G2 H2 (.v (.str _)) q g2 (gr1.trans gr2)⟩
/-- a, b = x, y -/
theorem ws_par {i j : Nat} {x y : Str} {px py pt : Pos} {kt k2 pt2} {E : Ed} (hc : X.calm = true) (hN : X.N.Nodup) (hi : X.N[i]? = some x) (hj : X.N[j]? = some y) (hij : i ≠ j) (hx : X.env.scope.names.lookup x = some .local) (hy : X.env.scope.names.lookup y = some .local)
    (h : WA X an dr ρ om [a, b] fun rs om1 => ∃ r1 r2, rs = [r1, r2] ∧ E.nx ((ρ.set i (some r1)).set j (some r2)) om1)
    (hw : swappedStores [.Tuple [.Name x px, .Name y py] kt pt] (.Tuple [a, b] k2 pt2) X.env = pure (some [x, y]) := by rfl) (hs : swapsWithSole [.Tuple [.Name x px, .Name y py] kt pt] (.Tuple [a, b] k2 pt2) pos.line X.env = pure false := by rfl) :
    WS X an dr ρ om (.Assign [.Tuple [.Name x px, .Name y py] kt pt] (.Tuple [a, b] k2 pt2) pos) E :=
  psI (ps_par (i := i) (j := j) hc hN hi hj hij hx hy (pa_u (an := an) (dr := dr)) hw hs) fun Z σ H ⟨τ, G, g, n, hl, h1, _⟩ => uA_of h g n fun vs rs om1 τ1 G1 H1 i1 w g1 gr1 n1 => by
    obtain ⟨r1, r2, rfl, w⟩ := w
    cases i1 with
    | cons a1 i1 =>
      cases i1 with
      | cons a2 i1 =>
        cases i1
        exact ⟨_, _, rfl, h1 _ H1 ⟨_, om1, τ1, G1, w, g1, (n1.set hl a1).set (by rw [List.length_set, List.length_set]; exact hl) a2, gr1, by rw [List.length_set, List.length_set]; exact hl, by rw [List.length_set, List.length_set]⟩⟩
/-- list(x) as a list of one's own -/
theorem we_listO (hm : X.mg "list" = none) (h : WE X an dr ρ om e fun r om1 => ∃ ds, (vw om1 r = .lst ds ∨ vw om1 r = .tup ds) ∧ Q (.o om1.length) (om1 ++ [some (.lst ds)])) (hg : Gl X "list" := by rfl)
    (he : starEach [e] X.env = (false, eval e X.env) :: starEach [] X.env := by rfl) (hpl : (backTo pos (starEach [] X.env)).any (·.1) = false := by rfl) : WE X an dr ρ om (.Call (.Name "list" p) [e] [] pos) Q :=
  peI (pe_callTy call_list_of hg hm PyProof.Rows.boot_list (pa_cons (pe_u (an := an) (dr := dr)) pa_nil he) (by decide) (by decide) he hpl) fun σ H K' ⟨τ, G, g, n, k⟩ => uE_of h g n fun v r om1 τ1 G1 H1 h1 w g1 gr1 n1 => by
    obtain ⟨ds, ev, q⟩ := w
    have fin : ∀ {q : Addr} {vs : List V}, IsL X.K G1 vs ds → H1 q = none → K' (.ref q) (upd H1 q (.lst vs)) := fun {q vs} il hq => by
      refine k _ _ _ (τ1 ++ [q]) _ _ (.o ?_) ‹_› (g1.fresh hq il) (gr1.trans Good.growF)
      rw [g1.len, List.getElem?_append_right (Nat.le_refl _), Nat.sub_self]
      rfl
    rcases ev with ev | ev
    · obtain ⟨p, vs, rfl, hp, il⟩ := vw_lst g1 h1 ev
      exact ⟨p, vs, rfl, .inl (.inl (.inl hp)), fun l hl => fin il hl⟩
    · obtain ⟨p, vs, rfl, hp, il⟩ := vw_tup g1 h1 ev
      exact ⟨p, vs, rfl, .inr hp, fun l hl => fin il hl⟩
end
end DL

namespace DL
open PySem L2
/-! ### the draws -/
def drK (x : Dr) (re tu : Int) : List (Key × V) := [(.inr "great", .ref x.g), (.inr "rest", .int re), (.inr "cells", .ref x.c), (.inr "turn", .int tu)]
theorem drK_great (x : Dr) (re tu : Int) : valV (drK x re tu) (.inr "great") = some (.ref x.g) := rfl
theorem drK_rest (x : Dr) (re tu : Int) : valV (drK x re tu) (.inr "rest") = some (.int re) := rfl
theorem drK_cells (x : Dr) (re tu : Int) : valV (drK x re tu) (.inr "cells") = some (.ref x.c) := rfl
theorem drK_turn (x : Dr) (re tu : Int) : valV (drK x re tu) (.inr "turn") = some (.int tu) := rfl
theorem drP_rest (x : Dr) (re tu n : Int) : putK (drK x re tu) (.inr "rest") (.int n) = drK x n tu := rfl
theorem drP_turn (x : Dr) (re tu n : Int) : putK (drK x re tu) (.inr "turn") (.int n) = drK x re n := rfl
section
variable {K : PySem.W.Frag} {an : An} {x : Dr} {om : Om} {τ : List Addr} {G H : Hp}
/-- the dict of the draws changes -/
theorem Good.draw {gr : List Int} {re tu re' tu' : Int} (g : Good K an (some x) om τ G H) (h1 : H x.d = some (.dK (drK x re tu))) (h2 : H x.g = some (.lst (gr.map V.int))) (h3 : H x.c = some (.lst (x.cs.map V.int))) : Good K an (some x) om τ G (upd H x.d (.dK (drK x re' tu'))) := by
  obtain ⟨_, f1, f2, f3, f4⟩ := g.drg x rfl
  have ngd : x.g ≠ x.d := ne_of h2 h1 (by intro z; cases z)
  have ncd : x.c ≠ x.d := ne_of h3 h1 (by intro z; cases z)
  exact {
    ex := g.ex.mut f1
    len := g.len
    nd := g.nd
    own := fun k p ds e1 e2 => by
      obtain ⟨a1, a2, a3, vs, a4, a5⟩ := g.own k p ds e1 e2
      exact ⟨a1, a2, a3, vs, by rw [upd_ne (a3 x rfl).1]; exact a4, a5⟩
    drg := fun y hy => by
      cases hy
      exact ⟨⟨gr, (), re', tu', upd_same, by rw [upd_ne ngd]; exact h2, by rw [upd_ne ncd]; exact h3⟩, f1, f2, f3, tabs_upd f4 fun u hu => by rw [h1] at hu; cases hu; exact ⟨fun _ z => (by cases z), fun _ _ z => (by unfold LamX.CodeO at z; cases z)⟩⟩
    a1 := g.a1
    a2 := fun a o e1 e2 => by rw [upd_ne (e2 x rfl).1]; exact g.a2 a o e1 e2
    a3 := g.a3
    a4 := fun k p e1 => by
      obtain ⟨o1, o, e2, e3⟩ := g.a4 k p e1
      exact ⟨o1, o, by rw [upd_ne (o1 x rfl).1]; exact e2, e3⟩
    gt := g.gt
    nt0 := g.nt0
    ti := g.ti }
/-- the list of great numbers changes -/
theorem Good.drawG {gr gr' : List Int} {re tu : Int} (g : Good K an (some x) om τ G H) (h1 : H x.d = some (.dK (drK x re tu))) (h2 : H x.g = some (.lst (gr.map V.int))) (h3 : H x.c = some (.lst (x.cs.map V.int))) (hgc : x.c ≠ x.g) : Good K an (some x) om τ G (upd H x.g (.lst (gr'.map V.int))) := by
  obtain ⟨_, f1, f2, f3, f4⟩ := g.drg x rfl
  have ngd : x.d ≠ x.g := ne_of h1 h2 (by intro z; cases z)
  exact {
    ex := g.ex.mut f2
    len := g.len
    nd := g.nd
    own := fun k p ds e1 e2 => by
      obtain ⟨a1, a2, a3, vs, a4, a5⟩ := g.own k p ds e1 e2
      exact ⟨a1, a2, a3, vs, by rw [upd_ne (a3 x rfl).2.1]; exact a4, a5⟩
    drg := fun y hy => by
      cases hy
      exact ⟨⟨gr', (), re, tu, by rw [upd_ne ngd]; exact h1, upd_same, by rw [upd_ne hgc]; exact h3⟩, f1, f2, f3, tabs_upd f4 fun u hu => by rw [h2] at hu; cases hu; exact ⟨fun _ z => (by cases z), fun _ _ z => (by unfold LamX.CodeO at z; cases z)⟩⟩
    a1 := g.a1
    a2 := fun a o e1 e2 => by rw [upd_ne (e2 x rfl).2.1]; exact g.a2 a o e1 e2
    a3 := g.a3
    a4 := fun k p e1 => by
      obtain ⟨o1, o, e2, e3⟩ := g.a4 k p e1
      exact ⟨o1, o, by rw [upd_ne (o1 x rfl).2.1]; exact e2, e3⟩
    gt := g.gt
    nt0 := g.nt0
    ti := g.ti }
end
section
variable {X : Cx} {an : An} {x : Dr} {ρ : Rho} {om : Om} {e o tg : Expr} {pos p2 pos' : Pos} {Q : R → Om → Prop} {j : Nat}
/-- draw["rest"], draw["turn"] -/
theorem we_drRest (hu : X.A.units + 1 < cLine) (h : WE X an (some x) ρ om o fun r om1 => r = .v (.obj x.d) ∧ ∀ n : Int, Q (.v (.int n)) om1) : WE X an (some x) ρ om (.Subscript o (.Constant (.str "rest") j p2) pos) Q :=
  peI (pe_dget hu (pe_u (an := an) (dr := some x)) pe_str (fun _ _ => rfl)) fun σ H K' ⟨τ, G, g, n, k⟩ => uE_of h g n fun v r om1 τ1 G1 H1 h1 w g1 gr1 n1 => by
    obtain ⟨rfl, w⟩ := w
    cases h1 with
    | v h1 =>
      cases h1
      obtain ⟨⟨gr, _, re, tu, q1, q2, q3⟩, _⟩ := g1.drg x rfl
      exact ⟨x.d, .int re, rfl, DGet.k (k := .inr "rest") q1, k _ _ om1 τ1 G1 H1 (.v (.int re)) (w re) g1 gr1⟩
theorem we_drTurn (hu : X.A.units + 1 < cLine) (h : WE X an (some x) ρ om o fun r om1 => r = .v (.obj x.d) ∧ ∀ n : Int, Q (.v (.int n)) om1) : WE X an (some x) ρ om (.Subscript o (.Constant (.str "turn") j p2) pos) Q :=
  peI (pe_dget hu (pe_u (an := an) (dr := some x)) pe_str (fun _ _ => rfl)) fun σ H K' ⟨τ, G, g, n, k⟩ => uE_of h g n fun v r om1 τ1 G1 H1 h1 w g1 gr1 n1 => by
    obtain ⟨rfl, w⟩ := w
    cases h1 with
    | v h1 =>
      cases h1
      obtain ⟨⟨gr, _, re, tu, q1, q2, q3⟩, _⟩ := g1.drg x rfl
      exact ⟨x.d, .int tu, rfl, DGet.k (k := .inr "turn") q1, k _ _ om1 τ1 G1 H1 (.v (.int tu)) (w tu) g1 gr1⟩
/-- draw["rest"] = e -/
theorem ws_drRest {E : Ed} (hu : X.A.units + 1 < cLine) (h : WE X an (some x) ρ om e fun r om1 => intR r fun _ => WE X an (some x) ρ om1 o fun r2 om2 => r2 = .v (.obj x.d) ∧ E.nx ρ om2) (hs : swapsWith e (some (.Subscript o (.Constant (.str "rest") j p2) pos')) pos.line X.env = pure false := by rfl) :
    WS X an (some x) ρ om (.Assign [.Subscript o (.Constant (.str "rest") j p2) pos'] e pos) E :=
  psI (ps_dput hu (pe_u (an := an) (dr := some x)) pe_str (pe_u (an := an) (dr := some x)) hs) fun Z σ H ⟨τ, G, g, n, hl, h1, _⟩ => uE_of h g n fun v r om1 τ1 G1 H1 i1 w g1 gr1 n1 => by
    obtain ⟨m, rfl, _, w⟩ := intR_is i1 w
    refine uE_of w g1 n1 fun v2 r2 om2 τ2 G2 H2 i2 w2 g2 gr2 n2 => ?_
    obtain ⟨rfl, w2⟩ := w2
    cases i2 with
    | v i2 =>
      cases i2
      obtain ⟨⟨gr, _, re, tu, q1, q2, q3⟩, _⟩ := g2.drg x rfl
      exact ⟨x.d, _, rfl, DPut.k (k := .inr "rest") q1 (by show 4 < sizeLine; decide), h1 σ _ ⟨ρ, om2, τ2, G2, w2, g2.draw (re' := m) (tu' := tu) q1 q2 q3, n2, gr1.trans gr2, hl, rfl⟩⟩
theorem ws_drTurn {E : Ed} (hu : X.A.units + 1 < cLine) (h : WE X an (some x) ρ om e fun r om1 => intR r fun _ => WE X an (some x) ρ om1 o fun r2 om2 => r2 = .v (.obj x.d) ∧ E.nx ρ om2) (hs : swapsWith e (some (.Subscript o (.Constant (.str "turn") j p2) pos')) pos.line X.env = pure false := by rfl) :
    WS X an (some x) ρ om (.Assign [.Subscript o (.Constant (.str "turn") j p2) pos'] e pos) E :=
  psI (ps_dput hu (pe_u (an := an) (dr := some x)) pe_str (pe_u (an := an) (dr := some x)) hs) fun Z σ H ⟨τ, G, g, n, hl, h1, _⟩ => uE_of h g n fun v r om1 τ1 G1 H1 i1 w g1 gr1 n1 => by
    obtain ⟨m, rfl, _, w⟩ := intR_is i1 w
    refine uE_of w g1 n1 fun v2 r2 om2 τ2 G2 H2 i2 w2 g2 gr2 n2 => ?_
    obtain ⟨rfl, w2⟩ := w2
    cases i2 with
    | v i2 =>
      cases i2
      obtain ⟨⟨gr, _, re, tu, q1, q2, q3⟩, _⟩ := g2.drg x rfl
      exact ⟨x.d, _, rfl, DPut.k (k := .inr "turn") q1 (by show 4 < sizeLine; decide), h1 σ _ ⟨ρ, om2, τ2, G2, w2, g2.draw (re' := re) (tu' := m) q1 q2 q3, n2, gr1.trans gr2, hl, rfl⟩⟩
theorem jok_cells {K : PySem.W.Frag} {G : Hp} {τ : List Addr} : JOk K an (some x) (Itl K x.c) (x.cs.map D.int) G τ := fun om2 τ2 G2 H2 g gr i => by
  obtain ⟨⟨_, _, re, tu, q1, q2, q3⟩, _⟩ := g.drg x rfl
  have hs : SqL K H2 x.c (x.cs.map V.int) := .inl (.inl q3)
  refine ⟨fun hj => ⟨_, hs, by simp at hj ⊢; omega⟩, fun d hd => ?_⟩
  obtain ⟨v, h1, h2⟩ := (IsL.ints (K := K) (G := G2) x.cs).get hd
  refine ⟨⟨_, v, hs, h1⟩, fun y H3 q => ?_⟩
  obtain ⟨rfl, q⟩ := q
  have e := (q _ hs).symm.trans h1
  cases e
  exact ⟨G2, g, Grow.refl _ _, h2⟩
/-- for .. in draw["cells"] -/
theorem wi_drCells {Q : List D → Om → Prop} (hu : X.A.units + 1 < cLine) (hz : x.cs.length ≤ sizeLine) (h : WE X an (some x) ρ om o fun r om1 => r = .v (.obj x.d) ∧ Q (x.cs.map D.int) om1) : WI X an (some x) ρ om tg (.Subscript o (.Constant (.str "cells") j p2) pos) Q :=
  piI (pi_list (pe_dget hu (pe_u (an := an) (dr := some x)) pe_str (fun _ _ => rfl))) fun σ H Z ⟨τ, G, g, n, k⟩ => uE_of h g n fun v r om1 τ1 G1 H1 h1 w g1 gr1 n1 => by
    obtain ⟨rfl, w⟩ := w
    cases h1 with
    | v h1 =>
      cases h1
      obtain ⟨⟨gr, _, re, tu, q1, q2, q3⟩, _⟩ := g1.drg x rfl
      exact ⟨x.d, .ref x.c, rfl, DGet.k (k := .inr "cells") q1, x.c, rfl, ⟨_, .inl (.inl q3)⟩, k _ _ om1 τ1 G1 H1 w (by simpa using hz) g1 gr1 (fun _ => jok_cells)⟩
end
/-! ### how a draw is promised -/
def W_take (x : Dr) : Wp := fun ds P => ∃ n : Int, ds = [.obj x.d, .int n] ∧ (0 < n ∧ n < 2 ^ 64) ∧ ∀ k : Int, 0 ≤ k → k < n → P (.int k)
def W_blend (x : Dr) : Wp := fun ds P => ds = [.obj x.d] ∧ ∀ k : Int, P (.int k)
end DL

namespace DL
open PySem L2
/-! ### enumerate of a tuple -/
theorem meets_enum1 {v : Value} {o : Obj} {Hh : Heap → Prop} (B : Begins v o Hh) :
    Meets (Builtin.«enumerate.__new__» ⟨[.type "enumerate", v], []⟩) (fun _ Rr s => Hh s.heap ∧
      Rr (.ok (.ret (.ref (s.heap.push o).objs.size))) { s with heap := (s.heap.push o).push { cls := .type "enumerate", data := .fields #[.none, .bool false, .ref s.heap.objs.size, rawInt 0, .none, .none] } }) :=
  .of_wp fun prog w A Rr s h => by
    obtain ⟨hp, g, d, tk, os⟩ := s
    obtain ⟨h1, h⟩ := h
    have sub := sub_enumerate
    have q1 : ∀ {A' : Around} {E : Value → Shared → Prop} {Q : Value → Shared → Prop}, Q (.ref hp.objs.size) ⟨hp.push o, g, d, tk, os⟩ → wpAny (model prog w) A' (pyIter v) Q E ⟨hp, g, d, tk, os⟩ :=
      fun q => B.iter prog w _ _ ⟨hp, g, d, tk, os⟩ _ h1 q
    wp_walk using q1
    refine wpAny_stack_any fun st => wpAny_pure ?_
    split
    · rename_i c _ _ _ _ _
      cases (c == Value.type "enumerate")
      all_goals
        wp_walk using q1
        exact ⟨_, rfl, h⟩
    · wp_walk using q1
      exact ⟨_, rfl, h⟩
theorem call_enumT {prog : Program} {w : World} {A : Around} {E : Value → Shared → Prop} {s : Shared} {t : Addr} {items : Array Value} {Q : Value → Shared → Prop} (hT : s.heap.IsTuple t items)
    (h : ∀ h', IsEnum h' (s.heap.objs.size + 1) s.heap.objs.size 0 .none → h'.IsTupleIter s.heap.objs.size t 0 → (∀ b o, s.heap.get? b = some o → h'.get? b = some o) → Q (.ref (s.heap.objs.size + 1)) { s with heap := h' }) :
    wpAny (model prog w) A (call (.type "enumerate") [.ref t]) Q E s := by
  refine callType_new F.called_enumerate (by decide) (F.typeCall_enumerate_1 _) (F.newCall_enumerate_1 _) (fun obj => F.args_object_init_2 obj _) F.entry_enumerate_new (meets_enum1 (begins_tuple t items)) ⟨hT, ?_⟩
  have z : (s.heap.push { cls := .type "tuple_iterator", data := .fields #[.ref t, .int 0 0] }).objs.size = s.heap.objs.size + 1 := Heap.size_push ..
  show _ ∧ _
  rw [z]
  have e := Heap.get?_push_size (s.heap.push { cls := .type "tuple_iterator", data := .fields #[.ref t, .int 0 0] }) (o := { cls := .type "enumerate", data := .fields #[.none, .bool false, .ref s.heap.objs.size, rawInt 0, .none, .none] }) rfl
  rw [z] at e
  exact ⟨⟨_, e, rfl⟩, h _ e ⟨_, Heap.get?_push_of_some _ (Heap.get?_push_size _ rfl), rfl, rfl⟩ fun b o q => Heap.get?_push_of_some _ (Heap.get?_push_of_some _ q)⟩
/-- (0, t[0]), (1, t[1]), .. of the tuple at a -/
def IteT (K : PySem.W.Frag) (a : Addr) : It where
  go := fun i H => ∃ (xs : List V) (x : V), SqT K H a xs ∧ xs[i]? = some x
  yld := fun i H v H' => ∃ T x, v = .ref T ∧ H T = none ∧ H' = upd H T (.tup [.int (i : Nat), x]) ∧ ∀ xs, SqT K H a xs → xs[i]? = some x
  stop := fun i H => ∃ xs : List V, SqT K H a xs ∧ xs.length = i
theorem turn_enumT {P : Program} {w : World} {K : PySem.W.Frag} {elts : List Expr} {kk : Nat} {tpos : Pos} (a e it : Addr) (hai : a ≠ it) (hei : e ≠ it) (hea : e ≠ a) :
    Turn P w K (.Tuple elts kk tpos) (IteT K a) [e, it] e (fun i h => (∃ old, IsEnum h e it ((i : Nat) : Int) old) ∧ h.IsTupleIter it a i) where
  mem := List.mem_cons_self
  obj := fun i h st b hb => by
    obtain ⟨⟨old, he⟩, o, ho, _, hd⟩ := st
    rcases List.mem_cons.mp hb with rfl | hb
    · exact ⟨_, he, fun v q => nomatch q⟩
    · obtain rfl := List.mem_singleton.mp hb
      exact ⟨o, ho, fun v q => by rw [hd] at q; cases q⟩
  keep := fun i h h' st k => by
    obtain ⟨⟨old, he⟩, hi⟩ := st
    exact ⟨⟨old, k e List.mem_cons_self _ he⟩, hi.at fun o q => k it (List.mem_cons_of_mem _ List.mem_cons_self) o q⟩
  item := by
    rintro X rfl rfl rfl hc i pins s σ H E I hf ⟨⟨old, he⟩, hit⟩ ⟨xs, x, hq, hx⟩
    obtain ⟨its, rv, p, _⟩ := I.tuple hq
    obtain ⟨u, hu, ru⟩ := rv.get hx
    have hlt : i < its.toArray.size := by
      have := (List.getElem?_eq_some_iff.mp hu).1
      simpa using this
    have hel : e < s.heap.objs.size := Heap.lt_size he
    have hil : it < s.heap.objs.size := by obtain ⟨_, q, _⟩ := hit; exact Heap.lt_size q
    refine wpAny_pyNext_enum_itemD (Draws.tuple (A := X.A.in1) (I.ok.hd hc) it a hai its.toArray) he ⟨hit, p⟩ hlt hei (by simp [hei, hea]) fun y h' tk hy ho hst hT hsz hk => ?_
    have ey : y = u := by
      have z : its.toArray[i]? = some y := hy
      have z2 : its.toArray[i]? = some u := by simpa using hu
      exact Option.some.inj (z.symm.trans z2)
    subst ey
    refine ⟨_, rfl, wpAny_letOwnedTupleGo_enum (s := { s with heap := h', toks := tk + 1 }) ho fun h'' he' sb => ?_⟩
    have hT2 : h''.get? s.heap.objs.size = some { cls := .type "tuple", data := .seq #[.int i tk, y] } := (sb.2 _ (Nat.ne_of_gt hel)).trans hT
    have new : ObjOk X.prog X.w (upd H s.heap.objs.size (.tup [.int (i : Nat), x])) h'' s.heap.objs.size (.tup [.int (i : Nat), x]) := by
      refine ⟨?_, [.int i tk, y], .cons ⟨_, rfl⟩ (.cons ru .nil), ⟨_, hT2, rfl, _, rfl⟩⟩
      show 2 ≤ sizeLine
      decide
    have keep : ∀ b ob, b ∉ [e, it] → s.heap.get? b = some ob → h''.get? b = some ob := fun b ob hb q => by
      have n1 : b ≠ e := fun z => hb (by rw [z]; exact List.mem_cons_self)
      have n2 : b ≠ it := fun z => hb (by rw [z]; exact List.mem_cons_of_mem _ List.mem_cons_self)
      exact (sb.2 b n1).trans (hk b ob n1 n2 q)
    refine ⟨.ref s.heap.objs.size, _, I.turnedNew (t' := tk + 1) (ch := [e, it]) keep hf (Nat.le_refl _) new, rfl, ⟨_, x, rfl, I.hok.fresh (Nat.le_refl _), rfl, fun ys hy => ?_⟩, ⟨⟨y, ?_⟩, ?_⟩, fun b hb => ?_⟩
    · rw [I.tuple_inj hy hq]
      exact hx
    · have c : ((i + 1 : Nat) : Int) = (i : Int) + 1 := by omega
      rw [c]
      exact he'
    · exact hst.1.at fun o q => (sb.2 it (Ne.symm hei)).trans q
    · have hlt : b < s.heap.objs.size := by
        rcases List.mem_cons.mp hb with rfl | hb
        · exact hel
        · obtain rfl := List.mem_singleton.mp hb
          exact hil
      rw [upd_ne (Nat.ne_of_lt hlt)]
      exact (hf b hb).1
  done := by
    rintro X rfl rfl rfl hc i pins s σ H E I hf ⟨⟨old, he⟩, hit⟩ ⟨xs, hq, rfl⟩
    obtain ⟨its, rv, p, _⟩ := I.tuple hq
    obtain ⟨f0, f1, f2, f3, f4, f5⟩ := hf it (List.mem_cons_of_mem _ List.mem_cons_self)
    have hl : its.toArray.size = xs.length := by rw [rv.length]; simp
    refine wpAny_pyNext_enum_endD (Draws.tuple (A := X.A.in1) (I.ok.hd hc) it a hai its.toArray) he ⟨by rw [hl]; exact hit, p⟩ fun h' eb => ⟨rfl, ?_⟩
    exact I.turned (t' := s.toks) (fun b o hb q => eb b o hb q) f0 f1 f3 f4 f5
  self := fun A i s Q E st h => by
    obtain ⟨⟨_, he⟩, _⟩ := st
    exact wpAny_pyIter_enum he h
section
variable {X : Cx} {an : An} {dr : Option Dr} {ρ : Rho} {om : Om} {e : Expr} {pos : Pos}
theorem jok_enumT {a : Addr} {vs : List V} {ds : List D} {G : Hp} {τ : List Addr} {K : PySem.W.Frag} (h : G a = some (.tup vs)) (i : IsL K G vs ds) : JOk K an dr (IteT K a) (enumD ds) G τ := fun om2 τ2 G2 H2 g gr j => by
  have hs : SqT K H2 a vs := .inl (.inl (g.ex _ _ (gr.ex _ _ h)))
  refine ⟨fun hj => ⟨vs, hs, by rw [i.length, hj]; simp [enumD]⟩, fun d hd => ?_⟩
  obtain ⟨d0, hd0, rfl⟩ := enumD_get hd
  obtain ⟨v, h1, h2⟩ := i.get hd0
  refine ⟨⟨vs, v, hs, h1⟩, fun x H3 y => ?_⟩
  obtain ⟨T, y0, rfl, hT, rfl, y⟩ := y
  have e := (y vs hs).symm.trans h1
  cases e
  exact ⟨_, g.alloc hT, g.grow hT, .tup upd_same (.cons (.int _) (.cons (h2.mono (gr.ex.trans (Ex.new (g.ex.free hT)))) .nil))⟩
/-- enumerate(e), e a list or a tuple -/
theorem wi_enum {Q : List D → Om → Prop} {p tpos : Pos} {elts : List Expr} {kk : Nat} (hm : X.mg "enumerate" = none) (h : WE X an dr ρ om e fun r om1 => retR om1 r fun d => ∃ ds, (d = .lst ds ∨ d = .tup ds) ∧ Q (enumD ds) (fzO om1 r)) (hg : Gl X "enumerate" := by rfl) (hs : starEach [e] X.env = [(false, eval e X.env)] := by rfl) :
    WI X an dr ρ om (.Tuple elts kk tpos) (.Call (.Name "enumerate" p) [e] [] pos) Q := by
  refine ⟨fun pins s σ H Z I q => ?_⟩
  obtain ⟨τ, G, g, n, k⟩ := q
  have ha : PA X [e] (tCons (uE X an dr e) tNil) := pa_cons pe_u pa_nil hs
  refine PyProof.Rows.Call_ (ld_blt I hg hm PyProof.Rows.boot_enumerate (PyProof.Rows.callWith_type1 (thn (ha.run pos pins s σ H (fun vs H1 => ∃ v d om1 τ1 G1 ds, vs = [v] ∧ Is X.K G1 v d ∧ Good X.K an dr om1 τ1 G1 H1 ∧ Grow G τ G1 τ1 ∧ (d = .lst ds ∨ d = .tup ds) ∧ Q (enumD ds) om1) I ?_) ?_) hs rfl))
  · exact uE_of h g n fun v r om1 τ1 G1 H1 h1 w g1 gr1 n1 => by
      obtain ⟨d, G2, ⟨ds, ed, w⟩, i, g2, gr2⟩ := retR_fz g1 h1 w (fun d z => by obtain ⟨_, e, _⟩ := z; rcases e with rfl | rfl <;> rfl)
      exact ⟨v, d, _, τ1, G2, ds, rfl, i, g2, gr1.trans gr2, ed, w⟩
  · rintro us s1 ⟨vs, H1, I1, r1, v, d, om1, τ1, G1, ds, rfl, i1, g1, gr1, ed, q1⟩
    cases r1 with
    | cons r rr =>
      cases rr
      rcases ed with rfl | rfl
      · cases i1 with
        | lst hp il =>
          cases r
          obtain ⟨its, rv, p', hz⟩ := I1.list (.inl (.inl (g1.ex _ _ hp)))
          refine call_enumerate_list p'.isList fun h' he hit hsz hk => wpAny_pyIter_enum he ?_
          have I2 : Inv X pins σ H1 { s1 with heap := h' } := I1.kept (t' := s1.toks) hk
          refine ⟨s1.heap.objs.size + 1, [s1.heap.objs.size + 1, s1.heap.objs.size], _, _, H1, rfl, I2, turn_enum _ (s1.heap.objs.size + 1) s1.heap.objs.size, ⟨⟨.none, he⟩, hit, Nat.succ_ne_self _⟩, fun b hb => ?_, k _ _ _ _ _ _ q1 (by simp [enumD]; rw [← il.length]; exact hz) g1 gr1 (fun _ => jok_enum hp il)⟩
          rcases List.mem_cons.mp hb with rfl | hb
          · exact I1.fpOk (Nat.le_succ _) (I1.hok.fresh (Nat.le_succ _))
          · obtain rfl := List.mem_singleton.mp hb
            exact I1.fpOk (Nat.le_refl _) (I1.hok.fresh (Nat.le_refl _))
      · cases i1 with
        | tup hp il =>
          cases r
          obtain ⟨its, rv, p', hz⟩ := I1.tuple (.inl (.inl (g1.ex _ _ hp)))
          have hlt := I1.hok.lt (g1.ex _ _ hp)
          refine call_enumT p' fun h' he hit hk => wpAny_pyIter_enum he ?_
          have I2 : Inv X pins σ H1 { s1 with heap := h' } := I1.kept (t' := s1.toks) hk
          refine ⟨s1.heap.objs.size + 1, [s1.heap.objs.size + 1, s1.heap.objs.size], _, _, H1, rfl, I2, turn_enumT _ (s1.heap.objs.size + 1) s1.heap.objs.size (Nat.ne_of_lt hlt) (Nat.succ_ne_self _) (Nat.ne_of_gt (Nat.lt_succ_of_lt hlt)), ⟨⟨.none, he⟩, hit⟩, fun b hb => ?_, k _ _ _ _ _ _ q1 (by simp [enumD]; rw [← il.length]; exact hz) g1 gr1 (fun _ => jok_enumT hp il)⟩
          rcases List.mem_cons.mp hb with rfl | hb
          · exact I1.fpOk (Nat.le_succ _) (I1.hok.fresh (Nat.le_succ _))
          · obtain rfl := List.mem_singleton.mp hb
            exact I1.fpOk (Nat.le_refl _) (I1.hok.fresh (Nat.le_refl _))
end
end DL

namespace DL
open PySem L2 PyProof.Rows
/-! ### set comprehensions of ints and texts -/
def sK0 (P : Program) (w : World) (a : Addr) : HO := SetK P w a (fun _ => false) 0
def sKadd (P : Program) (w : World) (a : Addr) (S : Key → Bool) (n : Nat) (k : Key) : HO := SetK P w a (fun j => S j || decide (j = k)) (if S k = true then n else n + 1)
def tScK (P : Program) (w : World) (wi : TI) (g : TG) (tt : TT) (te : TE) (vs : List Nat) : TE := fun σ H Q => wi σ H fun J H1 => ∀ D0, H1 D0 = none → ∃ W : Nat → Nat → Hp → Prop, (∃ m, W 0 m (upd H1 D0 (sK0 P w D0))) ∧ ∀ i m H, W i m H →
  (J.stop i H ∧ Q (.ref D0) H) ∨ (J.go i H ∧ ∃ Nx : Hp → Prop, (∀ H', Nx H' → ∃ m', m' < m ∧ W (i + 1) m' H') ∧ ∀ x H', J.yld i H x H' → g x (L2.wipe σ vs) H' fun σ2 H2 => L2.wipe σ2 vs = L2.wipe σ vs ∧ tt σ2 H2 fun b H3 =>
    if b = true then te σ2 H3 fun y H4 => ∃ (c : Key) (S : Key → Bool) (n : Nat), y = kV c ∧ H4 D0 = some (SetK P w D0 S n) ∧ n + 1 < scanBound ∧ Nx (upd H4 D0 (sKadd P w D0 S n c)) else Nx H3)
section
variable {X : Cx}
theorem addK_ok {pins : List (Addr × Obj)} {σ : L2.St} {H : Hp} {s : Shared} {E : Value → Shared → Prop} {D0 : Addr} {S : Key → Bool} {n : Nat} {c : Key} {u : Value} {Q : Value → Shared → Prop} (I : Inv X pins σ H s) (hD : H D0 = some (SetK X.prog X.w D0 S n)) (room : n + 1 < scanBound) (r : RelV (kV c) u)
    (h : ∀ s', Inv X pins σ (upd H D0 (sKadd X.prog X.w D0 S n c)) s' → Q .none s') : wpAny (model X.prog X.w) X.A (call (.builtin "set.add") [.ref D0, u]) Q E s := by
  refine call_set_add (kV_is r) (key_scan r) (setK_get I hD) room fun h' sb new => ?_
  have old : ∃ o, h'.get? D0 = some o := by
    have ⟨o, _, _, _, ho, _⟩ := new
    exact ⟨o, ho⟩
  exact h _ (I.write (e := D0) (t' := s.toks + 1) (by rw [hD]; trivial) (.inl rfl) (fun b o hb ho => (sb.2 b hb).trans ho) old (setK_new new))
theorem pe_scK {elt tg iter : Expr} {ifs : List Expr} {scope : Scope} {own : List (PySem.Str × Nat)} {pos : Pos} {wi : TI} {g : TG} {tt : TT} {te : TE} (hc : X.calm = true) (hN : X.N.Nodup) (hi : PI X tg iter wi) (ok : BlkOk X.N X.env.scope scope own)
    (hg : ∀ s H C cl fp, PG (XB X scope s H C cl fp) tg g) (ht : ∀ s H C cl fp, PTs (XB X scope s H C cl fp) ifs tt) (he : ∀ s H C cl fp, PE (XB X scope s H C cl fp) elt te) (hs : ∀ x, foldedSetIterable iter X.env x = pure x := by intro _; rfl) :
    PE X (.SetComp elt [⟨tg, iter, ifs, 0⟩] scope pos) (tScK X.prog X.w wi g tt te (own.map (·.2))) := by
  constructor
  intro pins s σ H Q I h
  rw [PpSet.eval_SetComp]
  have caps : ∀ y ∈ scope.names, y.2 = .free → ∃ c, X.env.cells.lookup y.1 = some c := fun y hy e => I.ok.has _ (ok.free y hy e)
  refine wpAny_comprehension_free (use := none) rfl hs (closure_ok caps) ok.kind (fun y hy e => by rw [ok.uniq y hy, e]) (thn (hi.run pins s σ H _ I h) fun xv s1 hx => thn hx fun itv s2 h2 => ?_)
  obtain ⟨it, fp, tn, J, H2, rfl, I2, T, st2, f2, q⟩ := h2
  refine PpSet.newSet_ok (newEnv_comp ?_)
  -- the new set stands at D0
  generalize hD : s2.heap.objs.size = D0
  have free0 : H2 D0 = none := I2.hok.fresh (Nat.le_of_eq hD)
  obtain ⟨W, ⟨m0, w0⟩, turn⟩ := q D0 free0
  generalize hs3 : ({ s2 with heap := s2.heap.push { cls := .type "set", dict := none, data := .set #[] 0 (.fresh 0 0 (!X.w.params.followText "set-order")) } } : Shared) = s3
  have h3 : s3.heap = s2.heap.push { cls := .type "set", dict := none, data := .set #[] 0 (.fresh 0 0 (!X.w.params.followText "set-order")) } := by rw [← hs3]
  have new : ObjOk X.prog X.w (upd H2 D0 (sK0 X.prog X.w D0)) (s2.heap.push { cls := .type "set", dict := none, data := .set #[] 0 (.fresh 0 0 (!X.w.params.followText "set-order")) }) D0 (sK0 X.prog X.w D0) := by
    rw [← hD]
    exact setK_new ⟨_, #[], 0, _, Heap.get?_push_size _ rfl, ⟨rfl, rfl, rfl⟩, rfl, (fun e he => by simp at he), (fun k => by simp), (by decide), (by rfl), rfl⟩
  have I3 : Inv X pins σ (upd H2 D0 (sK0 X.prog X.w D0)) s3 := by
    rw [← hs3]
    exact I2.laid (t' := s2.toks) (fun b o e => Heap.get?_push_of_some _ e) (Nat.le_of_eq hD) new
  have below : ∀ b ∈ fp, b < s2.heap.objs.size := fun b hb => by
    obtain ⟨o, e, _⟩ := T.obj _ _ st2 b hb
    exact Heap.lt_size e
  have f3 : ∀ b ∈ fp, FpOk X pins (upd H2 D0 (sK0 X.prog X.w D0)) b ∧ b < s3.heap.objs.size := fun b hb => by
    have lt := below b hb
    constructor
    · refine ⟨?_, (f2 b hb).2⟩
      rw [upd_ne (by rw [← hD]; exact Nat.ne_of_lt lt)]
      exact (f2 b hb).1
    · rw [h3, Heap.size_push]
      exact Nat.lt_succ_of_lt lt
  have st3 : tn 0 s3.heap := T.keep _ _ _ st2 fun b _ o e => by rw [h3]; exact Heap.get?_push_of_some _ e
  have I4 := block_start I3 ok hN f3
  have pg := hg s3 (upd H2 D0 (sK0 X.prog X.w D0)) s3.heap.objs.size (cellsFrom (s3.heap.objs.size + 1) scope.names (cloFrom X.env.cells scope.names [])) fp
  have pt := ht s3 (upd H2 D0 (sK0 X.prog X.w D0)) s3.heap.objs.size (cellsFrom (s3.heap.objs.size + 1) scope.names (cloFrom X.env.cells scope.names [])) fp
  have pe := he s3 (upd H2 D0 (sK0 X.prog X.w D0)) s3.heap.objs.size (cellsFrom (s3.heap.objs.size + 1) scope.names (cloFrom X.env.cells scope.names [])) fp
  show codeAny _ _ (.compStart (.SetComp elt [⟨tg, iter, ifs, 0⟩] scope pos) 0 (.ref it) (.ref D0) (compEnvC scope (cellsFrom (s3.heap.objs.size + 1) scope.names (cloFrom X.env.cells scope.names [])) s3.heap.objs.size X.env)) _ { s3 with heap := pushCells (s3.heap.push { cls := .type "dict", data := .dict #[] }) scope.names }
  have nfp : ∀ b ∈ fp, (upd H2 D0 (sK0 X.prog X.w D0)) b = none := fun b hb => (f3 b hb).1.1
  simp only [XB] at pg pt pe
  generalize hce : compEnvC scope (cellsFrom (s3.heap.objs.size + 1) scope.names (cloFrom X.env.cells scope.names [])) s3.heap.objs.size X.env = ce at I4 pg pt pe ⊢
  have cL : ce.locals = s3.heap.objs.size := by subst hce; rfl
  generalize hH3 : upd H2 D0 (sK0 X.prog X.w D0) = H3 at I3 I4 pg pt pe w0 nfp f3
  generalize hs4 : ({ s3 with heap := pushCells (s3.heap.push { cls := .type "dict", data := .dict #[] }) scope.names } : Shared) = s4 at I4 ⊢
  have st4 : tn 0 s4.heap := T.keep _ _ _ st3 fun b _ o e => by rw [← hs4]; exact pushCells_keeps _ _ _ _ (Heap.get?_push_of_some _ e)
  have stat : ∀ {σ' : L2.St} {H' : Hp} {s' : Shared}, Inv (X.blk s3 H3 scope ce fp) [] σ' H' s' → (∀ b ∈ fp, H' b = none) → ∀ b ∈ fp, FpOk (X.blk s3 H3 scope ce fp) [] H' b := fun {σ' H' s'} I' hn b hb =>
    ⟨hn b hb, (I'.ok.exf b hb).1, I'.ok.exfs b hb, .inl hb, fun x c e => (I'.ok.exf b hb).2 x c e, fun p hp => absurd (show p ∈ ([] : List (Addr × Obj)) from hp) List.not_mem_nil⟩
  have loop : codeAny (model X.prog X.w) X.A (.compLoop (.SetComp elt [⟨tg, iter, ifs, 0⟩] scope pos) 0 (.ref it) (.ref D0) ce) (compPost (model X.prog X.w) X.A X.xe none (EP X pins σ Q) (.ref D0) s3.heap.objs.size) s4 := by
    refine PpSet.compLoopS_any (fun n s' => ∃ i H', Inv (X.blk s3 H3 scope ce fp) [] (L2.wipe σ (own.map (·.2))) H' s' ∧ tn i s'.heap ∧ (∀ b ∈ fp, H' b = none) ∧ W i n H') ?_ m0 ⟨0, H3, I4, st4, nfp, w0⟩
    rintro n s5 ⟨i, H5, I5, st5, n5, w5⟩
    rcases turn i n H5 w5 with ⟨stop, qq⟩ | ⟨go, Nx, hNx, step⟩
    · refine thnF (T.done (X.blk s3 H3 scope ce fp) rfl rfl rfl hc i [] s5 _ H5 (fun _ _ => False) I5 (stat I5 n5) st5 stop) ?_
      rintro _ s6 ⟨rfl, I6⟩
      have I7 : Inv X pins σ H5 s6 := I3.call' (ch := fp) I6.os I6.base I6.hok I6.bare fun b hb => by
        obtain ⟨⟨_, c1, _, c3, c4, c5⟩, _⟩ := f3 b hb
        exact ⟨c3, c1, c4, c5⟩
      have nC : H5 s3.heap.objs.size = none := cL ▸ (show H5 ce.locals = none from I6.free)
      obtain ⟨m, hn, _⟩ := I6.loc
      have hn : s6.heap.Ns s3.heap.objs.size m := cL ▸ (show s6.heap.Ns ce.locals m from hn)
      obtain ⟨c0, c1, c2, c3, c4, c5⟩ := I3.fpOk (Nat.le_refl _) nC
      exact ⟨m, hn, fun h'' sb => ⟨.ref D0, H5, I7.turned (t' := s6.toks) (fun b o hb e => (sb.2 b hb).trans e) c0 c1 c3 c4 c5, rfl, qq⟩⟩
    · refine thnF (T.item (X.blk s3 H3 scope ce fp) rfl rfl rfl hc i [] s5 _ H5 (fun _ _ => False) I5 (stat I5 n5) st5 go) ?_
      rintro _ s6 ⟨u, rfl, h6⟩
      refine thnF h6 ?_
      rintro _ s7 ⟨x, H7, I7, r7, y7, st7, n7⟩
      have I7' := I7.pinned (stat I7 n7) (T.obj _ _ st7)
      refine thnF (pg.run _ s7 _ H7 x u _ I7' r7 (step x H7 y7)) ?_
      rintro _ s8 ⟨σ8, H8, I8, hw8, q8⟩
      refine thnF (pt.run _ s8 σ8 H8 _ I8 q8) ?_
      rintro b s9 ⟨H9, I9, q9⟩
      have fin : ∀ {s' : Shared} {H' : Hp}, Inv (X.blk s3 H3 scope ce fp) ([] ++ pinsAt fp s7.heap) σ8 H' s' → Nx H' → ∃ m, m < n ∧ ∃ i H', Inv (X.blk s3 H3 scope ce fp) [] (L2.wipe σ (own.map (·.2))) H' s' ∧ tn i s'.heap ∧ (∀ b ∈ fp, H' b = none) ∧ W i m H' := fun {s' H'} I' nx => by
        obtain ⟨m', hm, w'⟩ := hNx H' nx
        have pin' : ∀ b ∈ fp, ∀ o, s7.heap.get? b = some o → s'.heap.get? b = some o ∧ H' b = none := fun b hb o e => by
          have z := I'.pin (b, o) (List.mem_append_right _ (List.mem_append_right _ (mem_pinsAt hb e)))
          exact ⟨z.1, z.2.1⟩
        have hl : (L2.wipe σ (own.map (·.2))).length = σ8.length := by rw [← hw8, wipe_length]
        refine ⟨m', hm, i + 1, H', (I'.unpinned (pins := [])).weak hl (fun j v e => ?_), T.keep _ _ _ st7 fun b hb o e => (pin' b hb o e).1, fun b hb => ?_, w'⟩
        · rw [← hw8] at e
          exact (wipe_some e).1
        · obtain ⟨o, e, _⟩ := T.obj _ _ st7 b hb
          exact (pin' b hb o e).2
      cases b with
      | false =>
        rw [if_neg Bool.false_ne_true] at q9 ⊢
        exact fin I9 q9
      | true =>
        rw [if_pos rfl] at q9 ⊢
        refine thnF (pe.run _ s9 σ8 H9 _ I9 q9) ?_
        rintro z s10 ⟨yv, H10, I10, r10, c, S0, n0, rfl, hD10, hz10, nx⟩
        exact addK_ok (X := X.blk s3 H3 scope ce fp) I10 hD10 hz10 r10 fun s11 I11 => fin I11 nx
  exact PpSet.codeAny_compStart_set loop (T.self X.A 0 _ _ _ st4 loop)
end
end DL
namespace DL
open PySem L2
def keyDat : Key → D
  | .inl i => .int i
  | .inr x => .str x
theorem keyDat_is {K : PySem.W.Frag} {G : Hp} {v : V} {k : Key} (h : Is K G v (keyDat k)) : v = kV k := by
  cases k with
  | inl i => exact h.int_inv
  | inr x => exact h.str_inv
instance decMemK (k : Key) (l : List Key) : Decidable (k ∈ l) := @List.instDecidableMemOfLawfulBEq Key instBEqOfDecidableEq inferInstance k l
def nub (l : List Key) : List Key := l.foldl (fun acc k => if k ∈ acc then acc else acc ++ [k]) []
theorem nub_snoc (l : List Key) (k : Key) : nub (l ++ [k]) = if k ∈ nub l then nub l else nub l ++ [k] := by
  unfold nub
  rw [List.foldl_append]
  rfl
theorem mem_nubR (l : List Key) (j : Key) : j ∈ nub l.reverse ↔ j ∈ l := by
  induction l with
  | nil => exact Iff.rfl
  | cons k l ih =>
    rw [List.reverse_cons, nub_snoc, List.mem_cons]
    split
    · rename_i h
      rw [ih]
      constructor
      · exact .inr
      · rintro (rfl | h2)
        · exact ih.mp h
        · exact h2
    · rw [List.mem_append, List.mem_singleton, ih]
      exact Or.comm
theorem mem_nub (l : List Key) (j : Key) : j ∈ nub l ↔ j ∈ l := by
  have h := mem_nubR l.reverse j
  rw [List.reverse_reverse, List.mem_reverse] at h
  exact h
theorem nub_leR (l : List Key) : (nub l.reverse).length ≤ l.length ∧ ((nub l.reverse).length = l.length ↔ l.Nodup) := by
  induction l with
  | nil => exact ⟨Nat.le_refl _, ⟨fun _ => List.nodup_nil, fun _ => rfl⟩⟩
  | cons k l ih =>
    rw [List.reverse_cons, nub_snoc, List.nodup_cons]
    split
    · rename_i h
      rw [mem_nubR] at h
      refine ⟨Nat.le_succ_of_le ih.1, ⟨fun z => ?_, fun z => absurd h z.1⟩⟩
      have := ih.1
      rw [List.length_cons] at z
      omega
    · rename_i h
      rw [mem_nubR] at h
      rw [List.length_append, List.length_cons]
      refine ⟨Nat.succ_le_succ ih.1, ⟨fun z => ⟨h, ih.2.mp (by simpa using z)⟩, fun z => ?_⟩⟩
      rw [ih.2.mpr z.2]
      rfl
theorem nub_le (l : List Key) : (nub l).length ≤ l.length := by
  have h := (nub_leR l.reverse).1
  rw [List.reverse_reverse, List.length_reverse] at h
  exact h
theorem nub_len (l : List Key) : (nub l).length = l.length ↔ l.Nodup := by
  have h := (nub_leR l.reverse).2
  rw [List.reverse_reverse, List.length_reverse, (List.reverse_perm l).nodup_iff] at h
  exact h
section
variable {X : Cx} {an : An} {dr : Option Dr} {ρ : Rho} {elt tg iter : Expr} {scope : Scope} {pos p pos' : Pos} {Q : R → Om → Prop} {js : List Nat} {f : TgF} {own : List (PySem.Str × Nat)}
theorem cb_lenK : CallR X (.builtin "len") (fun xs H Q => ∃ a S n, xs = [.ref a] ∧ H a = some (SetK X.prog X.w a S n) ∧ Q (.int (n : Nat)) H) := by
  intro pins s σ H xs us Q I r h
  obtain ⟨a, S, n, rfl, ha, q⟩ := h
  obtain ⟨u, rfl, rx⟩ := vals1 r
  cases rx
  obtain ⟨o, es, ep, t, ho, hex, hd, hel, hS, hb, hf, hn⟩ := setK_get I ha
  have hz : (es.size : Int) < 2 ^ 63 := by
    have : es.size < 2 ^ 62 := Nat.lt_trans hb (by decide)
    omega
  subst hn
  exact call_len_set ho hex hd hf hz ⟨.int _, H, I.tok _, ⟨_, rfl⟩, q⟩
theorem plainH : ∀ c : Nat, ∃ h : Heap, h.objs.size = c ∧ ∀ b o, h.get? b = some o → o.data = .plain
  | 0 => ⟨{}, rfl, fun b o e => by simp [Heap.get?] at e⟩
  | c + 1 => by
    obtain ⟨h, hs, hp⟩ := plainH c
    refine ⟨h.push { cls := .none, data := .plain }, by rw [Heap.size_push, hs], fun b o e => ?_⟩
    rcases Heap.get?_push_cases e with ⟨_, rfl⟩ | e
    · rfl
    · exact hp b o e
theorem setK_noTab {P : Program} {w : World} {a : Addr} {S : Key → Bool} {n : Nat} : NoTab (SetK P w a S n) := by
  refine ⟨fun ps z => (by unfold SetK at z; cases z), fun c q z => ?_⟩
  unfold SetK LamX.CodeO at z
  have e := HO.ext.inj z
  obtain ⟨h, hs, hp⟩ := plainH c
  have t : (fun h : Heap => ∃ (oc : Obj) (vs : Array Value) (t : Tok), h.get? c = some oc ∧ oc.data = .fields vs ∧ vs[1]? = some (.str q t)) (h.push { cls := .none, data := .fields #[.none, .str q default] }) := ⟨_, _, default, by rw [← hs]; exact Heap.get?_push_size h rfl, rfl, rfl⟩
  rw [← e] at t
  obtain ⟨o, es, ep, tt, h1, _, h2, _⟩ := t
  rcases Heap.get?_push_cases h1 with ⟨_, rfl⟩ | h1
  · cases h2
  · rw [hp _ _ h1] at h2; cases h2
/-- an object that nobody speaks of -/
theorem Good.junk {K : PySem.W.Frag} {om : Om} {τ : List Addr} {G H : Hp} {p : Addr} {o : HO} (g : Good K an dr om τ G H) (hp : H p = none) : Good K an dr om τ G (upd H p o) where
  gt := g.gt
  nt0 := g.nt0
  ti := g.ti
  ex := g.ex.mut (g.ex.free hp)
  len := g.len
  nd := g.nd
  own := fun k q ds h1 h2 => by
    obtain ⟨e1, e2, e3, vs, e4, e5⟩ := g.own k q ds h1 h2
    exact ⟨e1, e2, e3, vs, by rw [upd_ne (ne_of_none e4 hp)]; exact e4, e5⟩
  drg := fun y hy => by
    obtain ⟨⟨gr, ce, re, tu, h1, h2, h3⟩, h4, h5, h6, h7⟩ := g.drg y hy
    exact ⟨⟨gr, ce, re, tu, by rw [upd_ne (ne_of_none h1 hp)]; exact h1, by rw [upd_ne (ne_of_none h2 hp)]; exact h2, by rw [upd_ne (ne_of_none h3 hp)]; exact h3⟩, h4, h5, h6, tabs_upd h7 (NoTab.none hp)⟩
  a1 := g.a1
  a2 := fun a o' h1 h2 => by
    have q := g.a2 a o' h1 h2
    rw [upd_ne (ne_of_none q hp)]; exact q
  a3 := g.a3
  a4 := fun k q h1 => by
    obtain ⟨h0, o', h2, h3⟩ := g.a4 k q h1
    exact ⟨h0, o', by rw [upd_ne (ne_of_none h2 hp)]; exact h2, h3⟩
theorem Good.junkW {K : PySem.W.Frag} {G H : Hp} {p : Addr} {o : HO} (g : Good K an dr [] [] G H) (hG : G p = none) (h0 : an.H0 p = none) (hof : Off dr p) (hu : ∀ u, H p = some u → NoTab u) : Good K an dr [] [] G (upd H p o) where
  gt := g.gt
  nt0 := g.nt0
  ti := g.ti
  ex := g.ex.mut hG
  len := rfl
  nd := g.nd
  own := fun k q ds h1 _ => by simp at h1
  drg := fun y hy => by
    obtain ⟨⟨gr, ce, re, tu, h1, h2, h3⟩, h4, h5, h6, h7⟩ := g.drg y hy
    obtain ⟨n1, n2, n3⟩ := hof y hy
    exact ⟨⟨gr, ce, re, tu, by rw [upd_ne n1.symm]; exact h1, by rw [upd_ne n2.symm]; exact h2, by rw [upd_ne n3.symm]; exact h3⟩, h4, h5, h6, tabs_upd h7 hu⟩
  a1 := g.a1
  a2 := fun a o' h1 h2 => by
    rw [upd_ne (ne_of_none h1 h0)]; exact g.a2 a o' h1 h2
  a3 := g.a3
  a4 := fun k q h1 => by simp at h1
theorem Good.here {K : PySem.W.Frag} {G H : Hp} (g : Good K an dr [] [] G H) : Good K ⟨G, strip H, false, []⟩ dr [] [] G H := g.pre.good
/-- what a turn adds -/
def EltK (X : Cx) (dr : Option Dr) (scope : Scope) (elt : Expr) (ρ2 : Rho) (N : Key → Prop) : Prop :=
  ∀ an s H C cl fp, WE (XB X scope s H C cl fp) an dr ρ2 [] elt fun r om3 => om3 = [] ∧ ∃ k, r = .v (keyDat k) ∧ N k
/-- len({elt for tg in iter}) -/
theorem we_lenSc (hm : X.mg "len" = none) (hc : X.calm = true) (hN : X.N.Nodup) (hl : X.N.length = ρ.length) (own : List (PySem.Str × Nat)) (ok : BlkOk X.N X.env.scope scope own) (hg : ∀ an s H C cl fp, WG (XB X scope s H C cl fp) an dr tg js f) (hj : ∀ i ∈ js, i ∈ own.map (·.2))
    (hi : WI X an dr ρ [] tg iter fun ds om1 => om1 = [] ∧ ds.length ≤ 1000 ∧ ∃ P : Nat → List Key → Prop, P 0 [] ∧ (∀ i d acc, ds[i]? = some d → acc.length = i → P i acc → f d (wipeR ρ (own.map (·.2))) fun ρ2 => EltK X dr scope elt ρ2 fun k => P (i + 1) (acc ++ [k])) ∧ ∀ acc, acc.length = ds.length → P ds.length acc → Q (.v (.int ((nub acc).length : Nat))) [])
    (hgl : Gl X "len" := by rfl) (hs : ∀ x, foldedSetIterable iter X.env x = pure x := by intro _; rfl) (hst : starEach [.SetComp elt [⟨tg, iter, [], 0⟩] scope pos] X.env = (false, eval (.SetComp elt [⟨tg, iter, [], 0⟩] scope pos) X.env) :: starEach [] X.env := by rfl) (hpl : (backTo pos' (starEach [] X.env)).any (·.1) = false := by rfl) :
    WE X an dr ρ [] (.Call (.Name "len" p) [.SetComp elt [⟨tg, iter, [], 0⟩] scope pos] [] pos') Q := by
  have te : ∀ s H C cl fp, PE (XB X scope s H C cl fp) elt (fun σ H K' => ∃ ρ Q an, (∀ s H C cl fp, WE (XB X scope s H C cl fp) an dr ρ [] elt Q) ∧ tD X.K an dr ρ [] Q σ H K') := fun s H C cl fp => ⟨fun pins s1 σ H1 K' I ⟨ρ, Q, an, w, h⟩ => PE.run (w s H C cl fp) pins s1 σ H1 K' I h⟩
  have tgU : ∀ s H C cl fp, PG (XB X scope s H C cl fp) tg (fun v σ H Q => ∃ an, tDG X.K an dr js f v σ H Q) := fun s H C cl fp => ⟨fun pins s1 σ H1 v u Q I r ⟨an, h⟩ => (hg an s H C cl fp).1.run pins s1 σ H1 v u Q I r h⟩
  refine ⟨fun pins s σ H K' I q => (pe_callB cb_lenK hgl hm PySem.boot_len (pa_cons (pe_scK hc hN hi ok tgU (fun _ _ _ _ _ => pts_nil) te hs) pa_nil hst) (by decide) (by decide) hst hpl).run pins s σ H K' I ?_⟩
  obtain ⟨τ, G, g, n, k⟩ := q
  have hls : σ.length = ρ.length := I.len.trans hl
  refine ⟨τ, G, g, n, fun J ds om1 τ1 G1 H1 ⟨ho, hz, P, p0, ps, pe⟩ _ g1 gr1 jk D0 hD => ?_⟩
  subst ho
  obtain rfl : τ1 = [] := by have := g1.len; simpa using this.symm
  have gD : G1 D0 = none := g1.ex.free hD
  have z0 : an.H0 D0 = none := g1.free0 hD
  have zo : Off dr D0 := g1.off hD
  refine ⟨fun i m H => m = ds.length - i ∧ i ≤ ds.length ∧ ∃ acc G2 S, acc.length = i ∧ P i acc ∧ (∀ j, S j = decide (j ∈ acc)) ∧ H D0 = some (SetK X.prog X.w D0 S (nub acc).length) ∧ G2 D0 = none ∧ Good X.K an dr [] [] G2 H ∧ Grow G1 [] G2 [], ⟨ds.length, by simp, Nat.zero_le _, [], G1, _, rfl, p0, fun j => by simp, upd_same, gD, g1.junk hD, Grow.refl _ _⟩, ?_⟩
  rintro i m H ⟨rfl, hil, acc, G2, S, ha, p, hS, hset, gD2, g2, gr2⟩
  -- as seen from here, everything that stands stays
  have gh : Good X.K ⟨G2, strip H, false, []⟩ dr [] [] G2 H := g2.here
  have J2 := jk ⟨G2, strip H, false, []⟩ [] [] G2 H gh gr2 i
  by_cases hlt : i < ds.length
  · have hd : ds[i]? = some ds[i] := List.getElem?_eq_getElem hlt
    obtain ⟨go, J3⟩ := J2.2 _ hd
    refine .inr ⟨go, fun H' => ∃ acc G2 S, acc.length = i + 1 ∧ P (i + 1) acc ∧ (∀ j, S j = decide (j ∈ acc)) ∧ H' D0 = some (SetK X.prog X.w D0 S (nub acc).length) ∧ G2 D0 = none ∧ Good X.K an dr [] [] G2 H' ∧ Grow G1 [] G2 [], fun H' q => ⟨ds.length - (i + 1), by omega, rfl, hlt, q⟩, fun x H3 y => ?_⟩
    obtain ⟨G3, g3, gr3, i3⟩ := J3 x H3 y
    have n3 : EnvIs X.K G3 [] σ ρ := EnvIs.mono ((gr1.trans gr2).trans gr3) n
    refine ⟨⟨G2, strip H, false, []⟩, [], [], G3, _, _, _, g3, n3.wipes _, by rw [wipe_length, wipeR_length]; exact hls, i3, ps i _ acc hd ha p, fun σ4 ρ4 w n4 l3 l4 o4 => ⟨?_, ?_⟩⟩
    · have z := o4 (own.map (·.2)) hj
      rw [z]
      apply List.ext_getElem?
      intro j
      rw [wipe_get, wipe_get, wipe_length]
      by_cases hj : j ∈ own.map (·.2)
      · rw [if_pos hj, if_pos hj]
      · rw [if_neg hj, if_neg hj]
    · refine ⟨ρ4, _, ⟨G2, strip H, false, []⟩, w ⟨G2, strip H, false, []⟩, [], G3, g3, n4, fun v r om5 τ5 G5 H5 h5 ⟨ho5, c, hr, N⟩ g5 gr5 => ?_⟩
      subst ho5 hr
      obtain rfl : τ5 = [] := by have := g5.len; simpa using this.symm
      have set5 : H5 D0 = some (SetK X.prog X.w D0 S (nub acc).length) := g5.a2 D0 _ (strip_of hset setK_noTab.1) zo
      have gD5 : G5 D0 = none := g5.a3 D0 (by show strip H D0 ≠ none; rw [strip_of hset setK_noTab.1]; exact fun z => nomatch z) gD2
      have ev : v = kV c := by cases h5 with | v h5 => exact keyDat_is h5
      have room : (nub acc).length + 1 < scanBound := Nat.lt_of_le_of_lt (Nat.succ_le_succ (nub_le acc)) (Nat.lt_of_le_of_lt (by omega : acc.length + 1 ≤ 1001) (by decide))
      refine ⟨c, S, _, ev, set5, room, acc ++ [c], G5, fun j => S j || decide (j = c), by rw [List.length_append]; show acc.length + 1 = i + 1; omega, N, fun j => ?_, ?_, gD5, ?_, gr2.trans (gr3.trans gr5)⟩
      · show (S j || decide (j = c)) = _
        rw [hS j, Bool.eq_iff_iff, Bool.or_eq_true, decide_eq_true_eq, decide_eq_true_eq, decide_eq_true_eq, List.mem_append, List.mem_singleton]
      · rw [upd_same]
        unfold sKadd
        have e : (if S c = true then (nub acc).length else (nub acc).length + 1) = (nub (acc ++ [c])).length := by
          rw [nub_snoc, hS c]
          by_cases q : c ∈ acc
          · rw [if_pos (decide_eq_true q), if_pos ((mem_nub acc c).mpr q)]
          · rw [if_neg (by simp [q]), if_neg (fun z => q ((mem_nub acc c).mp z)), List.length_append]
            rfl
        rw [e]
      · have g6 := g2.call g5.frm
        exact g6.junkW gD5 z0 zo fun u hu => by rw [set5] at hu; cases hu; exact setK_noTab
  · have e : i = ds.length := by omega
    refine .inl ⟨J2.1 e, D0, S, _, rfl, hset, ?_⟩
    subst e
    exact k _ _ _ [] G2 H (.v (.int _)) (pe acc ha p) g2 (gr1.trans gr2)
end
end DL

namespace DL
open PySem L2
/-! ### pairs by key -/
section
variable {K : PySem.W.Frag} {G : Hp} {κ : Type}
theorem IsD.keys : ∀ {vs : List (κ × V)} {ds : List (κ × D)}, IsD K G vs ds → vs.map (·.1) = ds.map (·.1)
  | _, _, .nil => rfl
  | _, _, .cons _ q => by rw [List.map_cons, List.map_cons, IsD.keys q]
theorem IsD.length : ∀ {vs : List (κ × V)} {ds : List (κ × D)}, IsD K G vs ds → vs.length = ds.length
  | _, _, .nil => rfl
  | _, _, .cons _ q => congrArg (· + 1) (IsD.length q)
theorem IsD.none [BEq κ] {k : κ} : ∀ {vs : List (κ × V)} {ds : List (κ × D)}, IsD K G vs ds → ds.lookup k = none → vs.lookup k = none
  | _, _, .nil, _ => rfl
  | _, _, .cons (k := j) i q, e => by
    rw [List.lookup_cons] at e ⊢
    cases hb : k == j with
    | true => rw [hb] at e; cases e
    | false => rw [hb] at e; exact IsD.none q e
theorem IsD.some [BEq κ] {k : κ} {d : D} : ∀ {vs : List (κ × V)} {ds : List (κ × D)}, IsD K G vs ds → ds.lookup k = some d → ∃ v, vs.lookup k = some v ∧ Is K G v d
  | _, _, .nil, e => by cases e
  | _, _, .cons (k := j) (v := v) i q, e => by
    rw [List.lookup_cons] at e ⊢
    cases hb : k == j with
    | true => rw [hb] at e; cases e; exact ⟨v, rfl, i⟩
    | false => rw [hb] at e; exact IsD.some q e
def putD (f : Str) (v : D) : List (Str × D) → List (Str × D)
  | [] => [(f, v)]
  | (g, x) :: r => if g = f then (g, v) :: r else (g, x) :: putD f v r
theorem IsD.putF {f : Str} {v : V} {d : D} (i : Is K G v d) : ∀ {vs : List (Str × V)} {ds : List (Str × D)}, IsD K G vs ds → IsD K G (L2.putF f v vs) (putD f d ds)
  | _, _, .nil => .cons i .nil
  | _, _, .cons (k := j) h q => by
    unfold L2.putF putD
    by_cases e : j = f
    · rw [if_pos e, if_pos e]; exact .cons i q
    · rw [if_neg e, if_neg e]; exact .cons h (IsD.putF i q)
end
section
variable {X : Cx} {an : An} {dr : Option Dr} {ρ : Rho} {om : Om} {e a b o : Expr} {es : List Expr} {pos p : Pos} {Q : R → Om → Prop}
/-- -e -/
theorem we_neg (h : WE X an dr ρ om e fun r om1 => intR r fun i => Q (.v (.int (-i))) om1) : WE X an dr ρ om (.UnaryOp .USub e pos) Q :=
  peI (pe_un un_neg (pe_u (an := an) (dr := dr))) fun σ H K' ⟨τ, G, g, n, k⟩ => uE_of h g n fun v r om1 τ1 G1 H1 h1 w g1 gr1 n1 => by
    obtain ⟨i, rfl, _, w⟩ := intR_is h1 w
    exact ⟨i, rfl, k _ _ om1 τ1 G1 H1 (.v (.int _)) w g1 gr1⟩
/-- xs[::-1] -/
theorem we_rev {k0 : Nat} {p1 p2 p3 : Pos} (h : WE X an dr ρ om e fun r om1 => ∃ ds, vw om1 r = .lst ds ∧ Q (.v (.lst ds.reverse)) om1) : WE X an dr ρ om (.Subscript e (.Slice none none (some (.UnaryOp .USub (.Constant (.int 1) k0 p1) p2)) p3) pos) Q :=
  peI (pe_revL (pe_u (an := an) (dr := dr))) fun σ H K' ⟨τ, G, g, n, k⟩ => uE_of h g n fun v r om1 τ1 G1 H1 h1 w g1 gr1 n1 => by
    obtain ⟨ds, ev, q⟩ := w
    obtain ⟨q0, vs, rfl, hp, il⟩ := vw_lst g1 h1 ev
    exact ⟨q0, vs, rfl, .inl (.inl hp), fun l hl => k _ _ om1 τ1 _ _ (.v (.lst upd_same (il.reverse.mono (Ex.new (g1.ex.free hl))))) q (g1.alloc hl) (gr1.trans (g1.grow hl))⟩
/-- {} as data: locked -/
theorem we_dic0 (q : Q (.v (.dic [])) om) : WE X an dr ρ om (.Dict [] [] pos) Q :=
  peI (pe_lk pe_dnewK) fun σ H K' ⟨τ, G, g, n, k⟩ l hl => .inr ⟨l, _, upd_same, trivial, fun od => by
    rw [upd_upd]
    exact k _ _ om τ _ _ (.v (.dic upd_same .nil)) q (g.alloc hl) (g.grow hl)⟩
/-- {} as a dict of one's own -/
theorem we_dicO (q : Q (.o om.length) (om ++ [some (.dic [])])) : WE X an dr ρ om (.Dict [] [] pos) Q :=
  peI pe_dnewK fun σ H K' ⟨τ, G, g, n, k⟩ l hl => k _ _ _ (τ ++ [l]) _ _ (.o (by rw [g.len, List.getElem?_append_right (Nat.le_refl _), Nat.sub_self]; rfl)) q (g.freshO hl ⟨[], rfl, .nil⟩) Good.growF
theorem we_ditO (q : Q (.o om.length) (om ++ [some (.dit [])])) : WE X an dr ρ om (.Dict [] [] pos) Q :=
  peI pe_dnewT fun σ H K' ⟨τ, G, g, n, k⟩ l hl => k _ _ _ (τ ++ [l]) _ _ (.o (by rw [g.len, List.getElem?_append_right (Nat.le_refl _), Nat.sub_self]; rfl)) q (g.freshO hl ⟨[], rfl, .nil⟩) Good.growF
theorem tau_snoc {K : PySem.W.Frag} {om1 : Om} {x : Option D} {τ1 τ2 : List Addr} {D0 : Addr} {G1 G2 H2 : Hp} (h1 : om1.length = τ1.length) (g2 : Good K an dr (om1 ++ [x]) τ2 G2 H2) (gr : Grow G1 (τ1 ++ [D0]) G2 τ2) : τ2 = τ1 ++ [D0] := by
  have l2 : τ2.length = τ1.length + 1 := by
    have := g2.len
    rw [List.length_append, h1] at this
    simpa using this.symm
  apply List.ext_getElem?
  intro j
  by_cases hj : j < (τ1 ++ [D0]).length
  · rw [gr.pre j _ (List.getElem?_eq_getElem hj), List.getElem?_eq_getElem hj]
  · rw [List.getElem?_eq_none (by rw [l2]; simpa using hj), List.getElem?_eq_none (by simpa using hj)]
/-! ### {k: v, ..} -/
def putE {κ : Type} [DecidableEq κ] (kvs : List (κ × D)) (k : κ) (v : D) : List (κ × D) :=
  if (kvs.any fun kv => decide (kv.1 = k)) = true then kvs.map (fun kv => if kv.1 = k then (kv.1, v) else kv) else kvs ++ [(k, v)]
def mergeE (kvs more : List (Key × D)) : List (Key × D) := more.foldl (fun acc kv => putE acc kv.1 kv.2) kvs
theorem IsD.any {K : PySem.W.Frag} {G : Hp} {κ : Type} [DecidableEq κ] {k : κ} : ∀ {vs : List (κ × V)} {ds : List (κ × D)}, IsD K G vs ds → (vs.any fun kv => decide (kv.1 = k)) = (ds.any fun kv => decide (kv.1 = k))
  | _, _, .nil => rfl
  | _, _, .cons i q => by rw [List.any_cons, List.any_cons, IsD.any q]
theorem IsD.mapPut {K : PySem.W.Frag} {G : Hp} {κ : Type} [DecidableEq κ] {k : κ} {v : V} {d : D} (i : Is K G v d) : ∀ {vs : List (κ × V)} {ds : List (κ × D)}, IsD K G vs ds → IsD K G (vs.map fun kv => if kv.1 = k then (kv.1, v) else kv) (ds.map fun kv => if kv.1 = k then (kv.1, d) else kv)
  | _, _, .nil => .nil
  | _, _, .cons (k := j) h q => by
    rw [List.map_cons, List.map_cons]
    by_cases e : j = k
    · simp only [if_pos e]; exact .cons i (IsD.mapPut i q)
    · simp only [if_neg e]; exact .cons h (IsD.mapPut i q)
theorem IsD.snoc {K : PySem.W.Frag} {G : Hp} {κ : Type} {k : κ} {v : V} {d : D} (i : Is K G v d) : ∀ {vs : List (κ × V)} {ds : List (κ × D)}, IsD K G vs ds → IsD K G (vs ++ [(k, v)]) (ds ++ [(k, d)])
  | _, _, .nil => .cons i .nil
  | _, _, .cons h q => .cons h (IsD.snoc i q)
theorem IsD.put {K : PySem.W.Frag} {G : Hp} {κ : Type} [DecidableEq κ] {k : κ} {v : V} {d : D} {vs : List (κ × V)} {ds : List (κ × D)} (h : IsD K G vs ds) (i : Is K G v d) : IsD K G (putK vs k v) (putE ds k d) := by
  unfold putK putE
  rw [h.any (k := k)]
  split
  · exact h.mapPut i
  · exact h.snoc i
theorem IsD.merge {K : PySem.W.Frag} {G : Hp} : ∀ {ws : List (Key × V)} {es : List (Key × D)} {vs : List (Key × V)} {ds : List (Key × D)}, IsD K G ws es → IsD K G vs ds → IsD K G (mergeK vs ws) (mergeE ds es)
  | _, _, _, _, .nil, h => h
  | _, _, _, _, .cons i q, h => by
    unfold mergeK mergeE
    rw [List.foldl_cons, List.foldl_cons]
    exact IsD.merge q (h.put i)
/-- the pairs of a display -/
def WD (X : Cx) (an : An) (dr : Option Dr) (ρ : Rho) : List Expr → List Expr → Om → (List (Key × D) → Om → Prop) → Prop
  | [], [], om, Q => Q [] om
  | k :: ks, v :: vs, om, Q => WE X an dr ρ om k fun rk om1 => ∃ key, rk = .v (keyDat key) ∧ WE X an dr ρ om1 v fun rv om2 => ∃ d, rv = .v d ∧ WD X an dr ρ ks vs om2 fun kds om3 => Q ((key, d) :: kds) om3
  | _, _, _, _ => False
def trsU (X : Cx) (an : An) (dr : Option Dr) : List Expr → List Expr → List (TE × TE)
  | k :: ks, v :: vs => (uE X an dr k, uE X an dr v) :: trsU X an dr ks vs
  | _, _ => []
theorem pps_u : ∀ {ks vs : List Expr}, ks.length = vs.length → PPs X pos (ks.map some) vs (trsU X an dr ks vs)
  | [], [], _ => pps_nil
  | k :: ks, v :: vs, h => pps_cons pe_u pe_u (pps_u (Nat.succ.inj h))
theorem wd_run {σ : L2.St} : ∀ {ks vs : List Expr} {om : Om} {Q : List (Key × D) → Om → Prop} {τ : List Addr} {G H : Hp} {Z : List (V × V) → Hp → Prop}, WD X an dr ρ ks vs om Q → Good X.K an dr om τ G H → EnvIs X.K G τ σ ρ →
    (∀ kvs kds om' τ' G' H', Q kds om' → IsD X.K G' kvs kds → kds.length = ks.length → Good X.K an dr om' τ' G' H' → Grow G τ G' τ' → Z (kvs.map fun kv => (kV kv.1, kv.2)) H') → tPairs (trsU X an dr ks vs) σ H Z
  | [], [], om, Q, τ, G, H, Z, w, g, n, k => k [] [] om τ G H w .nil rfl g (Grow.refl _ _)
  | e :: ks, f :: vs, om, Q, τ, G, H, Z, w, g, n, k => by
    refine uE_of w g n fun v r om1 τ1 G1 H1 i1 w1 g1 gr1 n1 => ?_
    obtain ⟨key, rfl, w1⟩ := w1
    refine uE_of w1 g1 n1 fun v2 r2 om2 τ2 G2 H2 i2 w2 g2 gr2 n2 => ?_
    obtain ⟨d, rfl, w2⟩ := w2
    cases i1 with
    | v i1 =>
      cases i2 with
      | v i2 =>
        obtain rfl := keyDat_is i1
        exact wd_run w2 g2 n2 fun kvs kds om' τ' G' H' q id l g' gr' => k ((key, v2) :: kvs) ((key, d) :: kds) om' τ' G' H' q (.cons (i2.mono gr'.ex) id) (congrArg (· + 1) l) g' ((gr1.trans gr2).trans gr')
  | [], _ :: _, _, _, _, _, _, _, w, _, _, _ => w.elim
  | _ :: _, [], _, _, _, _, _, _, w, _, _, _ => w.elim
/-- {k: v, ..} of at most 15 pairs, as data -/
theorem we_disp {ks vs : List Expr} (hl : ks.length = vs.length) (h0 : ks ≠ []) (h15 : ks.length ≤ 15) (h : WD X an dr ρ ks vs (om ++ [some (.dic [])]) fun kds om1 => om1 = om ++ [some (.dic [])] ∧ Q (.v (.dic (mergeE [] kds))) om) : WE X an dr ρ om (.Dict (ks.map some) vs pos) Q := by
  refine peI (pe_lk (pe_disp (pps_u (an := an) (dr := dr) hl) (by simp) (by rw [List.length_map]; exact hl) (by simpa using h0) (by rw [List.length_map]; exact h15))) fun σ H K' ⟨τ, G, g, n, k⟩ D0 hD => ?_
  have gf := g.freshO (o := .dK []) (d := .dic []) hD ⟨[], rfl, .nil⟩
  refine wd_run h gf (n.mono Good.growF) fun kvs kds om' τ' G' H' q id l g' gr' => ?_
  obtain ⟨rfl, q⟩ := q
  have e7 := tau_snoc g.len g' gr'
  subst e7
  have hk : (τ ++ [D0])[om.length]? = some D0 := by rw [g.len, List.getElem?_append_right (Nat.le_refl _), Nat.sub_self]; rfl
  have ho : (om ++ [some (D.dic [])])[om.length]? = some (some (.dic [])) := by rw [List.getElem?_append_right (Nat.le_refl _), Nat.sub_self]; rfl
  obtain ⟨f1, _, _, o, f4, f5⟩ := g'.own om.length D0 _ hk ho
  obtain ⟨vs0, rfl, f6⟩ := f5
  cases f6
  refine ⟨f4, kvs, rfl, by rw [id.length, l]; exact h15, .inr ⟨D0, _, upd_same, trivial, fun od => ?_⟩⟩
  rw [upd_upd]
  have gc := g'.close (o := .frz od (.dK (mergeK [] kvs))) hk ho
  have e6 : (om ++ [some (D.dic [])]).set om.length none = om ++ [none] := by
    rw [List.set_append_right _ _ (Nat.le_refl _), Nat.sub_self]; rfl
  rw [e6] at gc
  exact k _ _ om τ _ _ (.v (.dic upd_same (IsD.merge (id.mono (Ex.new f1)) .nil))) q (gc.drop g.ti) ⟨gr'.ex.trans (Ex.new f1), fun _ _ h => h⟩
/-- len(script) -/
theorem we_lenScr {ad : Addr} {ns : List Int} (hS : SqL X.K an.H0 ad (ns.map V.int)) (hof : an.H0 ad ≠ none → Off dr ad) (hm : X.mg "len" = none) (h : WE X an dr ρ om e fun r om1 => r = .v (.obj ad) ∧ Q (.v (.int (ns.length : Nat))) om1) (hg : Gl X "len" := by rfl)
    (he : starEach [e] X.env = (false, eval e X.env) :: starEach [] X.env := by rfl) (hpl : (backTo pos (starEach [] X.env)).any (·.1) = false := by rfl) : WE X an dr ρ om (.Call (.Name "len" p) [e] [] pos) Q :=
  peI (pe_callB call_len_seq hg hm PySem.boot_len (pa_cons (pe_u (an := an) (dr := dr)) pa_nil he) (by decide) (by decide) he hpl) fun σ H K' ⟨τ, G, g, n, k⟩ => uE_of h g n fun v r om1 τ1 G1 H1 h1 w g1 gr1 n1 => by
    obtain ⟨rfl, w⟩ := w
    cases h1 with
    | v h1 =>
      cases h1
      have s1 : SqL X.K H1 ad (ns.map V.int) := by
        rcases hS with (h | ⟨o, h⟩) | h
        · exact .inl (.inl (g1.a2 _ _ h (hof (by rw [h]; exact fun z => nomatch z))))
        · exact .inl (.inr ⟨o, g1.a2 _ _ h (hof (by rw [h]; exact fun z => nomatch z))⟩)
        · exact .inr h
      exact ⟨ad, _, rfl, .inl s1, k _ _ om1 τ1 G1 H1 (.v (by rw [List.length_map]; exact .int _)) w g1 gr1⟩
def uSd (X : Cx) (an : An) (sts : List Stmt) : TS := fun Z σ H => ∃ dr, uS X an dr sts Z σ H
theorem pss_ud {sts : List Stmt} : PSs X sts (uSd X an sts) := ⟨fun pins s σ H Z I ⟨dr, h⟩ => pss_u.run pins s σ H Z I h⟩
end
/-- the law's promise -/
def spLaw (T : List (Addr × Str)) (K : PySem.W.Frag) : Sp := fun vs H Q _ => ∃ (a : Addr) (ns : List Int), vs = [.ref a] ∧ SqL K H a (ns.map V.int) ∧ ns.length ≤ 63 ∧ (∀ t ∈ T, H t.1 = some (.tbl #[])) ∧ ∀ v H', v = .bl true → Q v H'
/-- what begin promises: the draws' three objects are new -/
def spBegin (K : PySem.W.Frag) : Sp := fun vs H Q _ => ∃ (a : Addr) (ns : List Int), vs = [.ref a] ∧ SqL K H a (ns.map V.int) ∧ ns.length ≤ 63 ∧
  ∀ (x : Dr) (H' : Hp), H x.d = none → H x.g = none → H x.c = none → x.c ≠ x.g → x.cs.length ≤ sizeLine → DrawIn H' x → (∀ b o, H b = some o → H' b = some o) → Q (.ref x.d) H'
structure HasB (P : Program) (w : World) (K : PySem.W.Frag) (mg : Str → Option Value) (base : Heap) (k : Nat) (x : Str) (ps : List Str) : Prop where
  ex : ∃ f fd, FnG P w K mg base CX0 k f fd ps (spBegin K) ∧ mg x = some (.ref f) ∧ PySem.W.keepIn K (.ref f) = true ∧ Binds K fd ps []
section
variable {P : Program} {w : World} {K : PySem.W.Frag} {mg : Str → Option Value} {base : Heap} {N : List Str} {k : Nat}
/-- a law that begins with draw = begin(script) -/
theorem law_by (T : List (Addr × Str)) {qual : Str} {st : Stmt} {f : Addr} {fd : FuncData} {xs : Str} {pr : Str} {ps1 : List Str} {sts : List Stmt} {pd pn pa pc pb : Pos} {xd xb : Str} (F : FunA K "law" qual st f fd) (S : FnScope N [pr] (defScope st)) (hb : HasB P w K mg base k xb ps1) (hbd : defBody st = .Assign [.Name xd pd] (.Call (.Name xb pn) [.Name xs pa] [] pc) pb :: sts)
    (h0 : N[0]? = some xs) (h1 : N[1]? = some xd) (hv0 : Vis (defScope st) xs) (hl1 : Loc (defScope st) xd) (hgl : (defScope st).names.lookup xb = some .globalImplicit)
    (hd0 : (xs == ("__debug__" : Str)) = false) (hd1 : (xs == ("__classdict__" : Str)) = false) (hdb : (xb == ("__debug__" : Str)) = false)
    (hbody : ∀ (cdv : Value) (A : Around) (outer : List Env) (s : Shared) (H : Hp) (E : XK) (a : Addr) (ns : List Int) (x : Dr), Room k (A.deeper (PyProof.Rows.envOfC qual (defScope st) s.heap.objs.size f cdv)) → A.guards = some [] → SqL K H a (ns.map V.int) → ns.length ≤ 63 → (H a ≠ none → Off (some x) a) → x.c ≠ x.g → x.cs.length ≤ sizeLine → x.T = T →
      WSs (cxOf CX0 P w K mg base N qual (defScope st) f cdv A outer s H E).nox ⟨fun _ => none, strip H, false, []⟩ (some x) (some (.v (.obj a)) :: some (.v (.obj x.d)) :: List.replicate (N.length - 2) none) [] sts { nx := fun _ _ => False, rt := fun d => d = .bl true }) : FnG P w K mg base CX0 (k + 1) f fd [pr] (spLaw T K) := by
  obtain ⟨fB, fdB, FB, hm, hk, hbi⟩ := hb.ex
  refine FnG.by F S (fun vs H Q E h => ?_) (fun cdv A outer s H vs Q E hr gd h => ?_)
  · obtain ⟨a, ns, rfl, _⟩ := h
    rfl
  · obtain ⟨a, ns, rfl, hS, hlen, hT1, kk⟩ := h
    rw [hbd]
    have hpe : PE (cxOf CX0 P w K mg base N qual (defScope st) f cdv A outer s H E).nox (.Call (.Name xb pn) [.Name xs pa] [] pc) (tCall (spBegin K) [] E0 (tCons (tVar 0) tNil)) := by
      refine pe_callG FB hr gd ?_ hm hk hbi pass0 (pa_cons (pe_var h0 hv0 hd0 hd1) pa_nil rfl) hdb rfl rfl
      exact hgl
    refine ⟨_, PSs.nox (pss_cons (ps_set (i := 1) S.nd h1 hl1 hpe rfl (.inl rfl)) (pss_ud (an := ⟨fun _ => none, strip H, false, []⟩))), ?_⟩
    have l2 : 2 ≤ N.length := by
      have := (List.getElem?_eq_some_iff.mp h1).1
      omega
    have est : L2.start N [.ref a] = some (.ref a) :: none :: List.replicate (N.length - 2) none := by
      obtain ⟨m, hm2⟩ : ∃ m, N.length = m + 2 := ⟨N.length - 2, by omega⟩
      unfold L2.start
      rw [hm2]
      show some (V.ref a) :: List.replicate (m + 2 - 1) none = _
      have e1 : m + 2 - 1 = m + 1 := by omega
      have e2 : m + 2 - 2 = m := by omega
      rw [e1, e2, List.replicate_succ]
    rw [est]
    refine ⟨_, rfl, a, ns, rfl, hS, hlen, fun x0 H' z1 z2 z3 hgc hz dI same => ?_⟩
    let x : Dr := ⟨x0.d, x0.g, x0.c, x0.cs, T⟩
    have hof : H a ≠ none → Off (some x) a := fun z y hy => by
      cases hy
      refine ⟨fun q => ?_, fun q => ?_, fun q => ?_⟩
      · rw [q] at z; exact z z1
      · rw [q] at z; exact z z2
      · rw [q] at z; exact z z3
    refine ⟨some x, _, _, _, hbody cdv A outer s H E a ns x hr gd hS hlen hof hgc hz rfl, [], fun _ => none, ?_, fun i r e => ?_, ?_, fun σ' H' q => ?_, fun v H' q => ?_, fun σ' H' q => ?_, fun σ' H' q => ?_⟩
    · exact ⟨(fun _ _ q => by cases q), rfl, List.nodup_nil, fun k p ds q => by simp at q, fun y hy => by cases hy; exact ⟨dI, rfl, rfl, rfl, fun t ht => LamX.TabS.nil (same _ _ (hT1 t ht))⟩, (fun _ _ q => by cases q), fun b o q _ => same b o (strip_some q).1, fun _ _ _ => rfl, fun k p q => by simp at q, (fun _ _ q => by cases q), fun _ _ => strip_nt, fun t h => nomatch h⟩
    · match i, e with
      | 0, e => cases e; exact ⟨_, rfl, .v (.obj a)⟩
      | 1, e => cases e; exact ⟨_, rfl, .v (.obj x.d)⟩
      | i + 2, e =>
        have e' : (List.replicate (N.length - 2) (none : Option R))[i]? = some (some r) := e
        rw [List.getElem?_replicate] at e'
        split at e' <;> cases e'
    · show (List.length _) = _
      simp
    · obtain ⟨_, _, _, _, z, _⟩ := q
      exact z.elim
    · obtain ⟨d, _, _, _, rfl, i, _⟩ := q
      rcases i with i | ⟨z, _⟩
      · cases i
        exact kk _ _ rfl
      · cases z
    · obtain ⟨_, _, _, _, z, _⟩ := q
      exact z.elim
    · obtain ⟨_, _, _, _, z, _⟩ := q
      exact z.elim
end
end DL

namespace DL
open PySem L2
section
variable {X : Cx} {an : An} {dr : Option Dr} {ρ : Rho} {om : Om} {a b : Expr} {pos : Pos}
/-- a, b = x, y by way of a tuple (a name that a comprehension reads) -/
theorem ws_parC {i j : Nat} {x y : Str} {px py pt : Pos} {kt k2 pt2} {E : Ed} (hc : X.calm = true) (hN : X.N.Nodup) (hi : X.N[i]? = some x) (hj : X.N[j]? = some y) (hx : Loc X.env.scope x) (hy : Loc X.env.scope y)
    (h : WA X an dr ρ om [a, b] fun rs om1 => ∃ r1 r2, rs = [r1, r2] ∧ E.nx ((ρ.set i (some r1)).set j (some r2)) om1)
    (hw : swappedStores [.Tuple [.Name x px, .Name y py] kt pt] (.Tuple [a, b] k2 pt2) X.env = pure none := by rfl) (hs : swapsWithSole [.Tuple [.Name x px, .Name y py] kt pt] (.Tuple [a, b] k2 pt2) pos.line X.env = pure false := by rfl)
    (h1 : (assignEach [.Tuple [.Name x px, .Name y py] kt pt] X.env).map (·.2) = [assign (.Tuple [.Name x px, .Name y py] kt pt) X.env] := by rfl) (hn : (assignEach [.Name x px, .Name y py] X.env).length = 2 := by rfl) (hst : (assignEach [.Name x px, .Name y py] X.env).findIdx? (·.1) = none := by rfl)
    (hs1 : (assignEach [.Name x px, .Name y py] X.env).map (·.2) = assign (.Name x px) X.env :: (assignEach [.Name y py] X.env).map (·.2) := by rfl) (hs2 : (assignEach [.Name y py] X.env).map (·.2) = assign (.Name y py) X.env :: (assignEach [] X.env).map (·.2) := by rfl)
    (hfx : X.fn x = true ∨ X.env.scope.names.lookup x = some .local := by first | exact .inl rfl | exact .inr rfl | assumption) (hfy : X.fn y = true ∨ X.env.scope.names.lookup y = some .local := by first | exact .inl rfl | exact .inr rfl | assumption) :
    WS X an dr ρ om (.Assign [.Tuple [.Name x px, .Name y py] kt pt] (.Tuple [a, b] k2 pt2) pos) E :=
  psI (ps_asg (pe_tup (pa_u (an := an) (dr := dr))) (pg_seq hc (pgs_cons (pg_name (i := i) hN hi hx hfx) (pgs_cons (pg_name (i := j) hN hj hy hfy) pgs_nil hs2) hs1) hn hst) hs hw h1) fun Z σ H ⟨τ, G, g, n, hl, h1, _⟩ => uA_of h g n fun vs rs om1 τ1 G1 H1 i1 w g1 gr1 n1 => by
    obtain ⟨r1, r2, rfl, w⟩ := w
    cases i1 with
    | @cons v1 _ _ _ a1 i1 =>
      cases i1 with
      | @cons v2 _ _ _ a2 i1 =>
        cases i1
        refine ⟨by show 2 ≤ sizeLine; decide, fun p hp => .inl ⟨_, _, rfl, .inl (.inl upd_same), rfl, _, _, rfl, _, _, rfl, rfl, ?_⟩⟩
        have gr2 := g1.grow (o := .tup [v1, v2]) hp
        exact h1 _ _ ⟨_, om1, τ1, _, w, g1.alloc hp, ((n1.mono gr2).set hl (a1.mono gr2)).set (by rw [List.length_set, List.length_set]; exact hl) (a2.mono gr2), gr1.trans gr2, by rw [List.length_set, List.length_set]; exact hl, by rw [List.length_set, List.length_set]⟩
end
end DL

namespace DL
open PySem L2
/-! ### defs that ask nothing of the guards -/
structure HasK (P : Program) (w : World) (K : PySem.W.Frag) (mg : Str → Option Value) (base : Heap) (dr : Option Dr) (k : Nat) (x : Str) (ps : List Str) (W : Wp) : Prop where
  ex : ∃ f fd, FnOk P w K mg base CX0 k f fd ps (spD K dr W) ∧ mg x = some (.ref f) ∧ PySem.W.keepIn K (.ref f) = true ∧ Binds K fd ps []
  mono : ∀ ds Q Q', (∀ d, Q d → Q' d) → W ds Q → W ds Q'
theorem HasK.g {P : Program} {w : World} {K : PySem.W.Frag} {mg : Str → Option Value} {base : Heap} {dr : Option Dr} {k : Nat} {x : Str} {ps : List Str} {W : Wp} (h : HasK P w K mg base dr k x ps W) : Has P w K mg base dr k x ps W := by
  obtain ⟨f, fd, F, r⟩ := h.ex
  exact ⟨⟨f, fd, .of F, r⟩, h.mono⟩
section
variable {P : Program} {w : World} {K : PySem.W.Frag} {mg : Str → Option Value} {base : Heap} {dr : Option Dr} {N ps : List Str} {W : Wp} {k : Nat}
theorem fnK {x qual : Str} {st : Stmt} {f : Addr} {fd : FuncData} (F : FunA K x qual st f fd) (S : FnScope N ps (defScope st)) (hlen : ∀ ds Q, W ds Q → ds.length = ps.length)
    (hb : ∀ (cdv : Value) (A : Around) (outer : List Env) (s : Shared) (H : Hp) (E : XK) (an : An) (ds : List D) (post : D → Prop), Room k (A.deeper (PyProof.Rows.envOfC qual (defScope st) s.heap.objs.size f cdv)) → W ds post →
      WSs (cxOf CX0 P w K mg base N qual (defScope st) f cdv A outer s H E).nox an dr (startR N ds) [] (defBody st) { nx := fun _ _ => post .non, rt := post }) : FnOk P w K mg base CX0 (k + 1) f fd ps (spD K dr W) := by
  refine F.ok S (fun vs H Q E h => ?_) (fun cdv A outer s H vs Q E hr h => ?_)
  · obtain ⟨G, ds, _, i, h⟩ := h
    rw [i.length]
    exact hlen _ _ h
  · obtain ⟨G, ds, pr, i, h⟩ := h
    refine ⟨_, hb cdv A outer s H E ⟨G, strip H, false, []⟩ ds _ hr h, [], G, pr.good, env_start i, ?_, fun σ' H' q => ?_, fun v H' q => ?_, fun σ' H' q => ?_, fun σ' H' q => ?_⟩
    · unfold L2.start startR
      rw [List.length_append, List.length_append, List.length_map, List.length_map, List.length_replicate, List.length_replicate, i.length]
    · obtain ⟨ρ', om', τ', G', p, g, _, gr, _⟩ := q
      exact p .non G' H' .non g.frm
    · obtain ⟨d, om', τ', G', p, i', g, gr⟩ := q
      rcases i' with i' | ⟨z, _⟩
      · exact p v G' H' i' g.frm
      · cases z
    · obtain ⟨_, _, _, _, p, _⟩ := q
      exact p
    · obtain ⟨_, _, _, _, p, _⟩ := q
      exact p
end
/-! ### instances -/
section
variable {X : Cx} {an : An} {dr : Option Dr} {ρ : Rho} {om : Om} {e e2 o : Expr} {es : List Expr} {pos p apos : Pos} {Q : R → Om → Prop} {x f own m : Str} {ps : List Str} {W : Wp} {k j : Nat} {C : Addr}
theorem we_callK (h : HasK X.prog X.w X.K X.mg X.base dr k x ps W) (hr : Room j X.A) (hw : WA X an dr ρ om (e :: es) fun rs om1 => allV rs fun ds => W ds fun d => Q (.v d) om1) (hkj : k ≤ j := by decide) (hg : Gl X x := by rfl) (hdb : (x == ("__debug__" : Str)) = false := by decide)
    (he : starEach (e :: es) X.env = (false, eval e X.env) :: starEach es X.env := by rfl) (hpl : (backTo pos (starEach es X.env)).any (·.1) = false := by rfl) : WE X an dr ρ om (.Call (.Name x p) (e :: es) [] pos) Q := by
  obtain ⟨f, fd, F, hm, hk, hb⟩ := h.ex
  refine peI (pe_call F (hr.mono hkj) hg hm hk hb .nil pass0 (pa_u (an := an) (dr := dr)) hdb he hpl) fun σ H K' ⟨τ, G, g, n, k⟩ => uA_of hw g n fun vs rs om1 τ1 G1 H1 h1 w g1 gr1 n1 => ?_
  obtain ⟨ds, i, w⟩ := allV_is h1 w
  show spD X.K dr W (vs ++ []) H1 K' E0
  rw [List.append_nil]
  refine ⟨G1, ds, g1.pre, i, h.mono _ _ _ (fun d q v G' H' i' fr => ?_) w⟩
  exact k v _ om1 τ1 G' H' (.v i') q (g1.call fr) (gr1.trans ⟨fr.e1, fun _ _ h => h⟩)
/-- e.f, an attribute of the instance -/
theorem we_fld (c : Cls X.K C) (n : NoAttr X.K C f) (h : WE X an dr ρ om e fun r om1 => ∃ fds d, vw om1 r = .ins C fds ∧ fds.lookup f = some d ∧ Q (.v d) om1) (hb : attributeBase e f X.env (eval e X.env) = eval e X.env := by rfl) : WE X an dr ρ om (.Attribute e f pos) Q :=
  peI (pe_fld (pe_u (an := an) (dr := dr)) hb) fun σ H K' ⟨τ, G, g, n1, k⟩ => uE_of h g n1 fun v r om1 τ1 G1 H1 h1 w g1 gr1 n2 => by
    obtain ⟨fds, d, ev, hl, q⟩ := w
    obtain ⟨a, dx, fs, rfl, ha, i⟩ := vw_ins g1 h1 ev
    obtain ⟨u, hu, iu⟩ := i.some hl
    exact ⟨a, C, dx, fs, u, rfl, ha, c, n, hu, k _ _ om1 τ1 G1 H1 (.v iu) q g1 gr1⟩
/-- o.f = e, of an instance of one's own -/
theorem ws_fld {E : Ed} {pos' : Pos} (c : Cls X.K C) (n : NoAttr X.K C f) (h : WE X an dr ρ om e fun r om1 => ∃ d, r = .v d ∧ WE X an dr ρ om1 o fun ro om2 => ∃ k fds, ro = .o k ∧ om2[k]? = some (some (.ins C fds)) ∧ fds.length < 1000 ∧ E.nx ρ (om2.set k (some (.ins C (putD f d fds)))))
    (hs : swapsWith e (some (.Attribute o f pos')) pos.line X.env = pure false := by rfl) : WS X an dr ρ om (.Assign [.Attribute o f pos'] e pos) E :=
  psI (ps_fld (pe_u (an := an) (dr := dr)) (pe_u (an := an) (dr := dr)) hs) fun Z σ H ⟨τ, G, g, n1, hl, h1, _⟩ => uE_of h g n1 fun v r om1 τ1 G1 H1 i1 w g1 gr1 n2 => by
    obtain ⟨d, rfl, w⟩ := w
    refine uE_of w g1 n2 fun v2 r2 om2 τ2 G2 H2 i2 w2 g2 gr2 n3 => ?_
    obtain ⟨k, fds, rfl, hk, hz, q⟩ := w2
    cases i2 with
    | @o a _ ha =>
      obtain ⟨_, _, _, _, h3, dx, fs, rfl, i3⟩ := g2.own k a _ ha hk
      cases i1 with
      | v i1 => exact ⟨a, C, dx, fs, rfl, h3, c, n, by rw [i3.length]; exact hz, h1 σ _ ⟨ρ, _, τ2, G2, q, g2.writeO ha hk ⟨dx, _, rfl, i3.putF (i1.mono gr2.ex)⟩, n3, gr1.trans gr2, hl, rfl⟩⟩
/-- the class has the property f, which returns the attribute own -/
structure HasP (P : Program) (w : World) (K : PySem.W.Frag) (mg : Str → Option Value) (base : Heap) (k : Nat) (C : Addr) (f own : Str) : Prop where
  ex : ∃ p g fd, FnOk P w K mg base CX0 k g fd ["self"] (getSp C own) ∧ PropOf K C f p g ∧ Binds K fd ["self"] []
  cl : Cls K C
theorem we_prop (h : HasP X.prog X.w X.K X.mg X.base k C f own) (hr : Room j X.A) (hw : WE X an dr ρ om e fun r om1 => ∃ fds d, vw om1 r = .ins C fds ∧ fds.lookup own = some d ∧ Q (.v d) om1) (hkj : k + 1 ≤ j := by decide)
    (hb : attributeBase e f X.env (eval e X.env) = eval e X.env := by rfl) : WE X an dr ρ om (.Attribute e f pos) Q := by
  obtain ⟨p, g0, fd, F, hp, bi⟩ := h.ex
  refine peI (pe_prop (pe_u (an := an) (dr := dr)) h.cl hp F (hr.mono hkj) bi .nil pass0 hb) fun σ H K' ⟨τ, G, g, n1, k⟩ => uE_of hw g n1 fun v r om1 τ1 G1 H1 h1 w g1 gr1 n2 => ?_
  obtain ⟨fds, d, ev, hl, q⟩ := w
  obtain ⟨a, dx, fs, rfl, ha, i⟩ := vw_ins g1 h1 ev
  obtain ⟨u, hu, iu⟩ := i.some hl
  exact ⟨a, dx, fs, rfl, ha, a, dx, fs, u, rfl, ha, hu, k _ _ om1 τ1 G1 H1 (.v iu) q g1 gr1⟩
/-- the class has the method m -/
structure HasM (P : Program) (w : World) (K : PySem.W.Frag) (mg : Str → Option Value) (base : Heap) (dr : Option Dr) (k : Nat) (C : Addr) (m : Str) (ps : List Str) (W : Wp) : Prop where
  ex : ∃ f fd, FnOk P w K mg base CX0 k f fd ps (spD K dr W) ∧ Meth K C m f ∧ Binds K fd ps []
  cl : Cls K C
  mono : ∀ ds Q Q', (∀ d, Q d → Q' d) → W ds Q → W ds Q'
theorem we_meth {pl : Sem Bool} (h : HasM X.prog X.w X.K X.mg X.base dr k C m ps W) (hr : Room j X.A) (hw : WE X an dr ρ om o fun ro om1 => ∃ fds, ro = .v (.ins C fds) ∧ fds.lookup m = none ∧ WA X an dr ρ om1 (e :: es) fun rs om2 => allV rs fun ds => W (.ins C fds :: ds) fun d => Q (.v d) om2)
    (hkj : k ≤ j := by decide) (hst : starEach (e :: es) X.env = (false, eval e X.env) :: starEach es X.env := by rfl) (hpl : (backTo pos (starEach es X.env)).any (·.1) = false := by rfl)
    (ht : eval (.Call (.Attribute o m apos) (e :: es) [] pos) X.env = (do
      let ov ← eval o X.env
      standAt apos.atName
      let (f, first) ← holding [ov] (getMethod ov m pl)
      callWith pos f first (backTo pos (starEach (e :: es) X.env)) (backToKw pos (keywordEach [] X.env))) := by rfl) : WE X an dr ρ om (.Call (.Attribute o m apos) (e :: es) [] pos) Q := by
  obtain ⟨f, fd, F, hm, bi⟩ := h.ex
  refine peI (pe_meth (pl := pl) (pe_u (an := an) (dr := dr)) h.cl hm F (hr.mono hkj) bi .nil pass0 (pa_u (an := an) (dr := dr)) hst hpl ht) fun σ H K' ⟨τ, G, g, n1, k⟩ => uE_of hw g n1 fun v r om1 τ1 G1 H1 h1 w g1 gr1 n2 => ?_
  obtain ⟨fds, rfl, hl, w⟩ := w
  cases h1 with
  | v h1 =>
    cases h1 with
    | @ins a _ dx fs _ ha i =>
      refine ⟨a, dx, fs, rfl, g1.ex _ _ ha, i.none hl, uA_of w g1 n2 fun vs rs om2 τ2 G2 H2 h2 w2 g2 gr2 n3 => ?_⟩
      obtain ⟨ds, i2, w2⟩ := allV_is h2 w2
      rw [List.append_nil]
      refine ⟨G2, _, g2.pre, .cons (.ins (gr2.ex _ _ ha) (i.mono gr2.ex)) i2, h.mono _ _ _ (fun d q v G' H' i' fr => ?_) w2⟩
      exact k v _ om2 τ2 G' H' (.v i') q (g2.call fr) ((gr1.trans gr2).trans ⟨fr.e1, fun _ _ h => h⟩)
end
end DL

namespace DL
open PySem L2
/-! ### a new instance -/
def spI (K : PySem.W.Frag) (dr : Option Dr) (C : Addr) (W : Wp) : Sp := fun vs H Q _ => ∃ G ds x dx ws, vs = .ref x :: ws ∧ Pre dr G H ∧ IsL K G ws ds ∧ H x = some (.ins C dx []) ∧ G x = none ∧ Off dr x ∧ W ds fun d => ∀ G' H', Is K G' (.ref x) d → Frm dr G (cut H x) G' H' → Q .non H'
/-- the class C can be made; its __init__ keeps W: what it is made of, the instance -/
structure HasI (P : Program) (w : World) (K : PySem.W.Frag) (mg : Str → Option Value) (base : Heap) (dr : Option Dr) (k : Nat) (x : Str) (C : Addr) (ps : List Str) (W : Wp) : Prop where
  ex : ∃ f fd, FnOk P w K mg base CX0 k f fd ps (spI K dr C W) ∧ Mk K C f ∧ Binds K fd ps []
  at_ : mg x = some (.ref C)
  mono : ∀ ds Q Q', (∀ d, Q d → Q' d) → W ds Q → W ds Q'
section
variable {P : Program} {w : World} {K : PySem.W.Frag} {mg : Str → Option Value} {base : Heap} {dr : Option Dr} {N ps : List Str} {W : Wp} {k : Nat}
theorem fnI {x qual : Str} {st : Stmt} {f C : Addr} {fd : FuncData} (F : FunA K x qual st f fd) (S : FnScope N ps (defScope st)) (hlen : ∀ ds Q, W ds Q → ds.length + 1 = ps.length)
    (hb : ∀ (cdv : Value) (A : Around) (outer : List Env) (s : Shared) (H : Hp) (E : XK) (an : An) (ds : List D) (post : D → Prop), Room k (A.deeper (PyProof.Rows.envOfC qual (defScope st) s.heap.objs.size f cdv)) → W ds post →
      WSs (cxOf CX0 P w K mg base N qual (defScope st) f cdv A outer s H E).nox an dr (some (.o 0) :: (ds.map (fun d => some (.v d)) ++ List.replicate (N.length - (ds.length + 1)) none)) [some (.ins C [])] (defBody st) { nx := fun _ om => ∃ d, om[0]? = some (some d) ∧ isDict d = false ∧ post d, rt := fun _ => False }) : FnOk P w K mg base CX0 (k + 1) f fd ps (spI K dr C W) := by
  refine F.ok S (fun vs H Q E h => ?_) (fun cdv A outer s H vs Q E hr h => ?_)
  · obtain ⟨G, ds, x, dx, ws, rfl, _, i, _, _, _, h⟩ := h
    rw [List.length_cons, i.length]
    exact hlen _ _ h
  · obtain ⟨G, ds, x, dx, ws, rfl, pr, i, hx, gx, ox, h⟩ := h
    refine ⟨_, hb cdv A outer s H E ⟨G, strip (cut H x), false, []⟩ ds _ hr h, [x], G, ⟨pr.ex, rfl, by simp, fun j p d h1 h2 => ?_, pr.dg, Ex.refl G, fun a o h _ => (cut_some (strip_some h).1).2, fun _ _ h => h, fun j p h1 => ?_, pr.gt, fun _ _ => strip_nt, fun t h => nomatch h⟩, fun j r q => ?_, ?_, fun σ' H' q => ?_, fun v H' q => ?_, fun σ' H' q => ?_, fun σ' H' q => ?_⟩
    · match j, h1, h2 with
      | 0, h1, h2 =>
        cases h1
        cases h2
        refine ⟨gx, ?_, ox, _, hx, dx, [], rfl, .nil⟩
        cases q : strip (cut H x) x with
        | none => exact q
        | some o => exact absurd rfl (cut_some (strip_some q).1).1
      | j + 1, h1, h2 => cases h1
    · match j, h1 with
      | 0, h1 => cases h1; exact ⟨ox, _, hx, fun _ z => by cases z⟩
      | j + 1, h1 => cases h1
    · match j, q with
      | 0, q => cases q; exact ⟨_, rfl, .o rfl⟩
      | j + 1, q =>
        have q : (ds.map (fun d => some (R.v d)) ++ List.replicate (N.length - (ds.length + 1)) none)[j]? = some (some r) := q
        by_cases hj : j < ds.length
        · rw [List.getElem?_append_left (by simpa using hj), List.getElem?_map] at q
          cases q2 : ds[j]? with
          | none => rw [q2] at q; cases q
          | some d =>
            rw [q2] at q
            cases q
            obtain ⟨v, h1, h2⟩ := i.get q2
            refine ⟨v, ?_, .v h2⟩
            unfold L2.start
            show (List.map some ws ++ _)[j]? = _
            rw [List.getElem?_append_left (by rw [List.length_map, i.length]; exact hj), List.getElem?_map, h1]
            rfl
        · rw [List.getElem?_append_right (by simpa using hj), List.getElem?_replicate] at q
          split at q <;> cases q
    · unfold L2.start
      simp [i.length]
    · obtain ⟨ρ', om', τ', G', ⟨d, hd, nd, p⟩, g, _, gr, _⟩ := q
      have t0 : τ'[0]? = some x := gr.pre 0 x rfl
      obtain ⟨o, g2, gr2, i2⟩ := g.freeze t0 hd nd
      exact p _ H' i2 g2.frm
    · obtain ⟨d, om', τ', G', p, _⟩ := q
      exact p.elim
    · obtain ⟨_, _, _, _, p, _⟩ := q
      exact p
    · obtain ⟨_, _, _, _, p, _⟩ := q
      exact p
end
section
variable {X : Cx} {an : An} {dr : Option Dr} {ρ : Rho} {om : Om} {e e2 o : Expr} {es : List Expr} {pos p apos : Pos} {Q : R → Om → Prop} {x f own m : Str} {ps : List Str} {W : Wp} {k j : Nat} {C : Addr}
theorem we_make (h : HasI X.prog X.w X.K X.mg X.base dr k x C ps W) (hr : Room j X.A) (hw : WA X an dr ρ om (e :: es) fun rs om1 => allV rs fun ds => W ds fun d => Q (.v d) om1) (hkj : k + 1 ≤ j := by decide) (hg : Gl X x := by rfl) (hdb : (x == ("__debug__" : Str)) = false := by decide)
    (he : starEach (e :: es) X.env = (false, eval e X.env) :: starEach es X.env := by rfl) (hpl : (backTo pos (starEach es X.env)).any (·.1) = false := by rfl) : WE X an dr ρ om (.Call (.Name x p) (e :: es) [] pos) Q := by
  obtain ⟨f, fd, F, M, hb⟩ := h.ex
  refine peI (pe_make M F (hr.mono hkj) hg h.at_ hb .nil pass0 (pa_u (an := an) (dr := dr)) hdb he hpl) fun σ H K' ⟨τ, G, g, n, k⟩ => uA_of hw g n fun vs rs om1 τ1 G1 H1 h1 w g1 gr1 n1 => ?_
  obtain ⟨ds, i, w⟩ := allV_is h1 w
  intro a dx na ndx ne
  have e0 : Ex H1 (upd (upd H1 dx (.own a)) a (.ins C dx [])) := (Ex.new ndx).trans (Ex.new (by rw [upd_ne (fun z => ne z.symm)]; exact na))
  rw [List.append_nil]
  refine ⟨G1, ds, a, dx, vs, rfl, ⟨g1.ex.trans e0, fun y hy => ?_, g1.gt⟩, i, upd_same, g1.ex.free na, g1.off na, h.mono _ _ _ (fun d q G' H' i' fr => ⟨rfl, ?_⟩) w⟩
  · obtain ⟨⟨gr, ce, re, tu, q1, q2, q3⟩, q4, q5, q6, q7⟩ := g1.drg y hy
    exact ⟨⟨gr, ce, re, tu, e0 _ _ q1, e0 _ _ q2, e0 _ _ q3⟩, q4, q5, q6, q7.ext e0⟩
  · exact k _ _ om1 τ1 G' H' (.v i') q (g1.call (fr.sub fun b o q1 => cut_of (e0 _ _ q1) (ne_of_none q1 na))) (gr1.trans ⟨fr.e1, fun _ _ h => h⟩)
/-- isinstance(x, C) of a class of the text -/
def tyV : D → Option Value
  | .ins C _ => some (.ref C)
  | d => (tyN d).map Value.type
theorem tyV_of {d : D} {t : Value} (h : tyV d = some t) : (∃ C fs, d = .ins C fs ∧ t = .ref C) ∨ ∃ n, tyN d = some n ∧ t = .type n := by
  cases d
  case ins C fs => exact .inl ⟨C, fs, rfl, (Option.some.inj h).symm⟩
  all_goals
    refine .inr ?_
    simp only [tyV, Option.map_eq_some_iff] at h
    obtain ⟨n, hn, e⟩ := h
    exact ⟨n, hn, e.symm⟩
structure ClsX (K : PySem.W.Frag) (C : Addr) : Prop where
  cl : Cls K C
  ha : PySem.W.findIn K (.ref C) "__class__" = some (some (.builtin "object.__class__"))
  hn : PySem.W.specialIn K (.builtin "object.__class__") "__get__" = some (some (.builtin "getset_descriptor.__get__"))
  htk : PySem.W.takesIn K (.builtin "object.__class__") = some true
  hm : PySem.W.mroIn K C (.type "object") = some true
def isiU (K : PySem.W.Frag) : Wp := fun ds P => match ds with
  | [x, .obj C] => ∃ t b, tyV x = some t ∧ (∀ B fs, x = .ins B fs → ClsX K B) ∧ PySem.W.kitOne K t (.ref C) = some b ∧ P (.bl b)
  | _ => False
theorem isiU_mono {K : PySem.W.Frag} : ∀ ds Q Q', (∀ d, Q d → Q' d) → isiU K ds Q → isiU K ds Q' := fun ds Q Q' i h => by
  unfold isiU at h ⊢
  split at h
  · obtain ⟨t, b, h1, h2, h3, h4⟩ := h; exact ⟨t, b, h1, h2, h3, i _ h4⟩
  · exact h.elim
theorem cb_isiU : CallR X (.builtin "isinstance") (rB X (isiU X.K)) := by
  intro pins s σ H xs us Q I r h
  obtain ⟨an, dr, om, τ, G, rs, g, hp, h⟩ := h
  unfold isiU at h
  split at h
  · rename_i x C e
    obtain ⟨v, r0, v', r1, rfl, rfl, i, ev, i', ev'⟩ := two_args hp e
    obtain ⟨t, b, ht, hc, hk, q⟩ := h
    have i2 := vw_not g i' ev' rfl
    cases i2
    refine call_isi pins s σ H _ us Q I r ⟨v, .ref C, t, .ref C, b, rfl, ?_, ?_, hk, q.flat g (.bl _)⟩
    · constructor
    · rcases tyV_of ht with ⟨B, fs, rfl, rfl⟩ | ⟨n, hn, rfl⟩
      · obtain ⟨a, dx, ws, rfl, hx, _⟩ := vw_ins g i ev
        obtain ⟨c1, c2, c3, c4, c5⟩ := hc B fs rfl
        exact .base (.ins hx c1 c2 c3 c4 c5)
      · exact vw_ty g i ev hn
  · exact h.elim
end
end DL

namespace DL
open PySem L2
/-! ### dicts -/
def valE {κ : Type} [DecidableEq κ] (kds : List (κ × D)) (k : κ) : Option D := (kds.find? fun kv => decide (kv.1 = k)).map (·.2)
section
variable {K : PySem.W.Frag} {G : Hp} {κ : Type} [DecidableEq κ]
theorem valE_nil {k : κ} : valE ([] : List (κ × D)) k = none := rfl
theorem valE_pos {p : κ × D} {r : List (κ × D)} {k : κ} (e : p.1 = k) : valE (p :: r) k = some p.2 := by simp [valE, List.find?_cons, e]
theorem valE_neg {p : κ × D} {r : List (κ × D)} {k : κ} (e : ¬ p.1 = k) : valE (p :: r) k = valE r k := by simp [valE, List.find?_cons, e]
theorem isD_valS {k : κ} {d : D} : ∀ {vs : List (κ × V)} {ds : List (κ × D)}, IsD K G vs ds → valE ds k = some d → ∃ v, valV vs k = some v ∧ Is K G v d
  | _, _, .nil, e => by cases e
  | _, _, .cons (k := j) (v := v) i q, e => by
    by_cases h : j = k
    · rw [valE_pos h] at e; cases e; exact ⟨v, valV_pos h, i⟩
    · rw [valE_neg h] at e; rw [valV_neg h]; exact isD_valS q e
theorem isD_valN {k : κ} : ∀ {vs : List (κ × V)} {ds : List (κ × D)}, IsD K G vs ds → (valV vs k).isSome = (valE ds k).isSome
  | _, _, .nil => rfl
  | _, _, .cons (k := j) i q => by
    by_cases h : j = k
    · rw [valE_pos h, valV_pos h]; rfl
    · rw [valE_neg h, valV_neg h]; exact isD_valN q
end
theorem isD_at {K : PySem.W.Frag} {G : Hp} {κ : Type} {k : κ} {v : V} {z : κ × D} : ∀ {vs : List (κ × V)} {ds : List (κ × D)} {j : Nat}, IsD K G vs ds → vs[j]? = some (k, v) → ds[j]? = some z → z.1 = k ∧ Is K G v z.2
  | _, _, _, .nil, e, _ => by simp at e
  | _, _, 0, .cons i q, e, e2 => by
    cases e
    cases e2
    exact ⟨rfl, i⟩
  | _, _, j + 1, .cons i q, e, e2 => isD_at (j := j) q e e2
section
variable {X : Cx} {an : An} {dr : Option Dr} {ρ : Rho} {om : Om} {e e2 o i : Expr} {es : List Expr} {pos p apos : Pos} {Q : R → Om → Prop} {E : Ed} {τ : List Addr} {G H : Hp}
theorem keyDat_isR {K : PySem.W.Frag} {v : V} {k : Key} (h : IsR K G τ v (.v (keyDat k))) : v = kV k := by
  cases h with | v h => exact keyDat_is h
/-- d[k] -/
theorem we_dix (hu : X.A.units + 1 < cLine) (h : WE X an dr ρ om o fun ro om1 => WE X an dr ρ om1 i fun ri om2 => ∃ kds k d, vw om2 ro = .dic kds ∧ ri = .v (keyDat k) ∧ valE kds k = some d ∧ Q (.v d) om2) (hs : NoSl i := by intro _ _; rfl) : WE X an dr ρ om (.Subscript o i pos) Q :=
  peI (pe_dget hu (pe_u (an := an) (dr := dr)) (pe_u (an := an) (dr := dr)) hs) fun σ H K' ⟨τ, G, g, n, k⟩ => uE_of h g n fun v r om1 τ1 G1 H1 h1 w g1 gr1 n1 => uE_of w g1 n1 fun v2 r2 om2 τ2 G2 H2 h2 w2 g2 gr2 n2 => by
    obtain ⟨kds, key, d, ev, rfl, hd, q⟩ := w2
    obtain ⟨a, kvs, rfl, ha, id⟩ := vw_dic g2 (h1.mono gr2) ev
    obtain ⟨u, hu, iu⟩ := isD_valS id hd
    exact ⟨a, u, rfl, .inl ⟨kvs, key, ha, keyDat_isR h2, hu.symm⟩, k _ _ om2 τ2 G2 H2 (.v iu) q g2 (gr1.trans gr2)⟩
/-- k in d -/
theorem we_din (hu : X.A.units + 1 < cLine) (h : WE X an dr ρ om i fun ri om1 => WE X an dr ρ om1 o fun ro om2 => ∃ kds k, vw om2 ro = .dic kds ∧ ri = .v (keyDat k) ∧ Q (.v (.bl (valE kds k).isSome)) om2) (hm : behindInMarks .In o = false := by rfl) : WE X an dr ρ om (.Compare i [.In] [o] pos) Q :=
  peI (pe_cmp (pc_din hu (pe_u (an := an) (dr := dr)) (pe_u (an := an) (dr := dr))) hm) fun σ H K' ⟨τ, G, g, n, k⟩ => uE_of h g n fun v r om1 τ1 G1 H1 h1 w g1 gr1 n1 => uE_of w g1 n1 fun v2 r2 om2 τ2 G2 H2 h2 w2 g2 gr2 n2 => by
    obtain ⟨kds, key, ev, rfl, q⟩ := w2
    obtain ⟨a, kvs, rfl, ha, id⟩ := vw_dic g2 h2 ev
    refine ⟨a, valV kvs key, rfl, .inl ⟨kvs, key, ha, keyDat_isR h1, rfl⟩, ?_⟩
    rw [isD_valN id]
    exact k _ _ om2 τ2 G2 H2 (.v (.bl _)) q g2 (gr1.trans gr2)
theorem we_dnotin (hu : X.A.units + 1 < cLine) (h : WE X an dr ρ om i fun ri om1 => WE X an dr ρ om1 o fun ro om2 => ∃ kds k, vw om2 ro = .dic kds ∧ ri = .v (keyDat k) ∧ Q (.v (.bl (!(valE kds k).isSome))) om2) (hm : behindInMarks .NotIn o = false := by rfl) : WE X an dr ρ om (.Compare i [.NotIn] [o] pos) Q :=
  peI (pe_cmp (pc_dnotin hu (pe_u (an := an) (dr := dr)) (pe_u (an := an) (dr := dr))) hm) fun σ H K' ⟨τ, G, g, n, k⟩ => uE_of h g n fun v r om1 τ1 G1 H1 h1 w g1 gr1 n1 => uE_of w g1 n1 fun v2 r2 om2 τ2 G2 H2 h2 w2 g2 gr2 n2 => by
    obtain ⟨kds, key, ev, rfl, q⟩ := w2
    obtain ⟨a, kvs, rfl, ha, id⟩ := vw_dic g2 h2 ev
    refine ⟨a, valV kvs key, rfl, .inl ⟨kvs, key, ha, keyDat_isR h1, rfl⟩, ?_⟩
    rw [isD_valN id]
    exact k _ _ om2 τ2 G2 H2 (.v (.bl _)) q g2 (gr1.trans gr2)
/-- d[k] = v, of a dict of one's own -/
theorem ws_dput {pos' : Pos} (hu : X.A.units + 1 < cLine) (h : WE X an dr ρ om e fun r om1 => ∃ d, r = .v d ∧ WE X an dr ρ om1 o fun ro om2 => WE X an dr ρ om2 i fun ri om3 => ∃ c kds k, ro = .o c ∧ om3[c]? = some (some (.dic kds)) ∧ ri = .v (keyDat k) ∧ kds.length < sizeLine ∧ E.nx ρ (om3.set c (some (.dic (putE kds k d)))))
    (hs : swapsWith e (some (.Subscript o i pos')) pos.line X.env = pure false := by rfl) : WS X an dr ρ om (.Assign [.Subscript o i pos'] e pos) E :=
  psI (ps_dput hu (pe_u (an := an) (dr := dr)) (pe_u (an := an) (dr := dr)) (pe_u (an := an) (dr := dr)) hs) fun Z σ H ⟨τ, G, g, n, hl, h1, _⟩ => uE_of h g n fun v r om1 τ1 G1 H1 i1 w g1 gr1 n1 => by
    obtain ⟨d, rfl, w⟩ := w
    refine uE_of w g1 n1 fun v2 r2 om2 τ2 G2 H2 i2 w2 g2 gr2 n2 => uE_of w2 g2 n2 fun v3 r3 om3 τ3 G3 H3 i3 w3 g3 gr3 n3 => ?_
    obtain ⟨c, kds, key, rfl, hc, rfl, hz, q⟩ := w3
    cases i2 with
    | @o a _ ha =>
      have ha := gr3.pre _ _ ha
      obtain ⟨_, _, _, _, h3, kvs, rfl, id⟩ := g3.own c a _ ha hc
      cases i1 with
      | v i1 => exact ⟨a, _, rfl, .inl ⟨kvs, key, h3, keyDat_isR i3, by rw [id.length]; exact hz, rfl⟩, h1 σ _ ⟨ρ, _, τ3, G3, q, g3.writeO ha hc ⟨_, rfl, id.put (i1.mono (gr2.trans gr3).ex)⟩, n3, (gr1.trans gr2).trans gr3, hl, rfl⟩⟩
/-- for k in d: the keys -/
theorem jok_keys {K : PySem.W.Frag} {a : Addr} {od : Obj} {kvs : List (Key × V)} {kds : List (Key × D)} (h : G a = some (.frz od (.dK kvs))) (i : IsD K G kvs kds) : JOk K an dr (Itk a od kvs) (kds.map fun kv => keyDat kv.1) G τ := fun om2 τ2 G2 H2 g gr j => by
  have hs : H2 a = some (.frz od (.dK kvs)) := g.ex _ _ (gr.ex _ _ h)
  refine ⟨fun hj => ⟨hs, by rw [i.length]; simpa using Nat.le_of_eq hj.symm⟩, fun d hd => ?_⟩
  have hlt : j < kvs.length := by
    have := (List.getElem?_eq_some_iff.mp hd).1
    rw [List.length_map] at this
    rw [i.length]; exact this
  refine ⟨⟨hs, hlt⟩, fun x H3 y => ?_⟩
  obtain ⟨rfl, k, v, hk, rfl⟩ := y
  have e : kvs.map (·.1) = kds.map (·.1) := i.keys
  have e1 : (kvs.map (·.1))[j]? = some k := by rw [List.getElem?_map, hk]; rfl
  rw [e, List.getElem?_map] at e1
  rw [List.getElem?_map] at hd
  cases q : kds[j]? with
  | none => rw [q] at hd; cases hd
  | some z =>
    rw [q] at hd e1
    cases hd
    have e1 : z.1 = k := Option.some.inj e1
    refine ⟨G2, g, Grow.refl _ _, ?_⟩
    show Is K G2 (kV k) (keyDat z.1)
    rw [e1]
    cases k with
    | inl n => exact .int n
    | inr s => exact .str s
theorem wi_keys {tg : Expr} {Q : List D → Om → Prop} (h : WE X an dr ρ om e fun r om1 => ∃ kds, r = .v (.dic kds) ∧ kds.length ≤ sizeLine ∧ Q (kds.map fun kv => keyDat kv.1) om1) : WI X an dr ρ om tg e Q :=
  piI (pi_keys (pe_u (an := an) (dr := dr))) fun σ H Z ⟨τ, G, g, n, k⟩ => uE_of h g n fun v r om1 τ1 G1 H1 h1 w g1 gr1 n1 => by
    obtain ⟨kds, rfl, hz, q⟩ := w
    cases h1 with
    | v h1 =>
      cases h1 with
      | @dic a od kvs _ ha id => exact ⟨a, od, rfl, .inl ⟨kvs, g1.ex _ _ ha, k _ _ _ _ _ _ q (by rw [List.length_map]; exact hz) g1 gr1 (fun _ => jok_keys ha id)⟩⟩
/-- len(d) -/
def lenD : Wp := fun ds K => match ds with
  | [.dic kds] => K (.int (kds.length : Nat))
  | _ => False
theorem lenD_mono : ∀ ds Q Q', (∀ d, Q d → Q' d) → lenD ds Q → lenD ds Q' := fun ds Q Q' i h => by
  unfold lenD at h ⊢
  split at h
  · exact i _ h
  · exact h.elim
theorem cb_lenD : CallR X (.builtin "len") (rB X lenD) := by
  intro pins s σ H xs us Q I r h
  obtain ⟨an, dr, om, τ, G, rs, g, hp, h⟩ := h
  unfold lenD at h
  split at h
  · rename_i kds e
    obtain ⟨v, r0, rfl, rfl, i, ev⟩ := one_arg hp e
    obtain ⟨a, kvs, rfl, ha, id⟩ := vw_dic g i ev
    obtain ⟨u, rfl, ru⟩ := vals1 r
    cases ru
    refine d_len I ha fun t s' I' => ⟨.int kvs.length, H, I', ⟨t, rfl⟩, ?_⟩
    rw [id.length]
    exact h.flat g (.int _)
  · exact h.elim
/-- for k, v in d.items() -/
def itemsD (kds : List (Key × D)) : List D := kds.map fun kv => .tup [keyDat kv.1, kv.2]
theorem jok_items {K : PySem.W.Frag} {a : Addr} {od : Obj} {kvs : List (Key × V)} {kds : List (Key × D)} (h : G a = some (.frz od (.dK kvs))) (i : IsD K G kvs kds) : JOk K an dr (Iti a od kvs) (itemsD kds) G τ := fun om2 τ2 G2 H2 g gr j => by
  have hs : H2 a = some (.frz od (.dK kvs)) := g.ex _ _ (gr.ex _ _ h)
  refine ⟨fun hj => ⟨hs, by rw [i.length]; simpa [itemsD] using Nat.le_of_eq hj.symm⟩, fun d hd => ?_⟩
  have hlt : j < kvs.length := by
    have := (List.getElem?_eq_some_iff.mp hd).1
    unfold itemsD at this
    rw [List.length_map] at this
    rw [i.length]; exact this
  refine ⟨⟨hs, hlt⟩, fun x H3 y => ?_⟩
  obtain ⟨T, k, v, hk, rfl, hT, rfl⟩ := y
  unfold itemsD at hd
  rw [List.getElem?_map] at hd
  cases q : kds[j]? with
  | none => rw [q] at hd; cases hd
  | some z =>
    rw [q] at hd
    cases hd
    obtain ⟨e1, e2⟩ : z.1 = k ∧ Is K G v z.2 := isD_at i hk q
    refine ⟨_, g.alloc hT, g.grow hT, ?_⟩
    have ex := (gr.ex.trans (Ex.new (g.ex.free hT) (o := .tup [kV k, v])))
    refine .tup upd_same (.cons ?_ (.cons (e2.mono ex) .nil))
    rw [e1]
    cases k with
    | inl n => exact .int n
    | inr s => exact .str s
theorem wi_items {Q : List D → Om → Prop} {elts : List Expr} {kk : Nat} {tpos cpos : Pos} (h : WE X an dr ρ om e fun r om1 => ∃ kds, r = .v (.dic kds) ∧ kds.length ≤ sizeLine ∧ Q (itemsD kds) om1) (hbase : attributeBase e "items" X.env (eval e X.env) = eval e X.env := by rfl) (hline : (apos.endLine == cpos.line) = true := by rfl) :
    WI X an dr ρ om (.Tuple elts kk tpos) (.Call (.Attribute e "items" apos) [] [] cpos) Q :=
  piI (pi_items (pe_u (an := an) (dr := dr)) hbase hline) fun σ H Z ⟨τ, G, g, n, k⟩ => uE_of h g n fun v r om1 τ1 G1 H1 h1 w g1 gr1 n1 => by
    obtain ⟨kds, rfl, hz, q⟩ := w
    cases h1 with
    | v h1 =>
      cases h1 with
      | @dic a od kvs _ ha id => exact ⟨a, od, kvs, rfl, g1.ex _ _ ha, k _ _ _ _ _ _ q (by unfold itemsD; rw [List.length_map]; exact hz) g1 gr1 (fun _ => jok_items ha id)⟩
end
end DL

namespace DL
open PySem L2
section
variable {X : Cx} {an : An} {dr : Option Dr} {ρ : Rho} {om : Om} {e e2 o i : Expr} {es : List Expr} {pos p apos : Pos} {Q : R → Om → Prop} {E : Ed} {τ : List Addr} {G H : Hp}
theorem isL_pairs {K : PySem.W.Frag} : ∀ {vs : List V} {ds : List D}, IsL K G vs ds → Paired (IsR K G τ) vs (ds.map R.v)
  | _, _, .nil => .nil
  | _, _, .cons h q => .cons (.v h) (isL_pairs q)
theorem paired_app {α β : Type} {r : α → β → Prop} : ∀ {a c : List α} {b d : List β}, Paired r a b → Paired r c d → Paired r (a ++ c) (b ++ d)
  | _, _, _, _, .nil, h => h
  | _, _, _, _, .cons x q, h => .cons x (paired_app q h)
/-- *e, .. -/
theorem wa_star {Q : List R → Om → Prop} (h : WE X an dr ρ om e fun r om1 => ∃ ds, (vw om1 r = .lst ds ∨ vw om1 r = .tup ds) ∧ WA X an dr ρ om1 es fun rs om2 => Q (ds.map R.v ++ rs) om2) (hs : starEach (.Starred e p :: es) X.env = (true, eval e X.env) :: starEach es X.env := by rfl) : WA X an dr ρ om (.Starred e p :: es) Q :=
  paI (StX.pa_star (pe_u (an := an) (dr := dr)) (pa_u (an := an) (dr := dr)) hs) fun σ H K' ⟨τ, G, g, n, k⟩ =>
    uE_of h g n fun v r om1 τ1 G1 H1 h1 w g1 gr1 n1 => by
      obtain ⟨ds, ev, w⟩ := w
      have fin : ∀ {vs : List V}, IsL X.K G1 vs ds → uA X an dr es σ H1 fun ys H2 => K' (vs ++ ys) H2 := fun {vs} il => uA_of w g1 n1 fun us rs om2 τ2 G2 H2 h2 q g2 gr2 n2 => k _ _ om2 τ2 G2 H2 (paired_app (isL_pairs (il.mono gr2.ex)) h2) q g2 (gr1.trans gr2)
      rcases ev with ev | ev
      · obtain ⟨a, vs, rfl, ha, il⟩ := vw_lst g1 h1 ev
        exact ⟨a, vs, rfl, .inr (.inl (.inl ha)), fin il⟩
      · obtain ⟨a, vs, rfl, ha, il⟩ := vw_tupH g1 h1 ev
        exact ⟨a, vs, rfl, .inl (.inl (.inl ha)), fin il⟩
/-- sorted(xs), texts -/
def sortF : Wp := fun ds K => match ds with
  | [.lst xs] => ∃ zs : List Str, xs = zs.map D.str ∧ zs.length < 64 ∧ ∀ ys : List Str, ys.Perm zs → PyProof.Rows.sortedS ys = true → K (.lst (ys.map D.str))
  | _ => False
theorem sortF_mono : ∀ ds Q Q', (∀ d, Q d → Q' d) → sortF ds Q → sortF ds Q' := fun ds Q Q' i h => by
  unfold sortF at h ⊢
  split at h
  · obtain ⟨zs, e, hz, q⟩ := h; exact ⟨zs, e, hz, fun ys a b => i _ (q ys a b)⟩
  · exact h.elim
theorem isL_strs {K : PySem.W.Frag} : ∀ ys : List Str, IsL K G (ys.map V.str) (ys.map D.str)
  | [] => .nil
  | _ :: ys => .cons (.str _) (isL_strs ys)
theorem cb_sort : CallR X (.builtin "sorted") (rB X sortF) := by
  intro pins s σ H xs us Q I r h
  obtain ⟨an, dr, om, τ, G, rs, g, hp, h⟩ := h
  unfold sortF at h
  split at h
  · rename_i xs e
    obtain ⟨zs, rfl, hz, q⟩ := h
    obtain ⟨v, r0, rfl, rfl, i, ev⟩ := one_arg hp e
    obtain ⟨a, vs, rfl, ha, il⟩ := vw_lst g i ev
    obtain rfl := strs_inv zs il
    refine cr_sortedS pins s σ H _ us Q I r ⟨a, zs, rfl, .inl (.inl ha), hz, fun ys p h1 h2 hp => ?_⟩
    exact q ys h1 h2 _ _ _ (.lst upd_same (isL_strs ys)) (g.alloc hp) (g.grow hp)
  · exact h.elim
/-- zip of two tuples -/
theorem jok_zipT {K : PySem.W.Frag} {a b : Addr} {vs ws : List V} {ds es : List D} (h : G a = some (.tup vs)) (i : IsL K G vs ds) (h' : G b = some (.tup ws)) (i' : IsL K G ws es) : JOk K an dr (RZ.ItzT K a b) (zipD ds es) G τ := fun om2 τ2 G2 H2 g gr j => by
  have hs : SqT K H2 a vs := .inl (.inl (g.ex _ _ (gr.ex _ _ h)))
  have hs' : SqT K H2 b ws := .inl (.inl (g.ex _ _ (gr.ex _ _ h')))
  refine ⟨fun hj => ⟨vs, ws, hs, hs', ?_⟩, fun d hd => ?_⟩
  · rw [i.length, i'.length]
    simp [zipD] at hj
    omega
  · obtain ⟨d1, d2, hd1, hd2, rfl⟩ := zipD_get hd
    obtain ⟨v, h1, h2⟩ := i.get hd1
    obtain ⟨v', h1', h2'⟩ := i'.get hd2
    refine ⟨⟨vs, ws, v, v', hs, hs', h1, h1'⟩, fun x H3 y => ?_⟩
    obtain ⟨T, y0, y1, rfl, hT, rfl, y, y'⟩ := y
    have e := (y vs hs).symm.trans h1
    cases e
    have e := (y' ws hs').symm.trans h1'
    cases e
    exact ⟨_, g.alloc hT, g.grow hT, .tup upd_same (.cons (h2.mono (gr.ex.trans (Ex.new (g.ex.free hT)))) (.cons (h2'.mono (gr.ex.trans (Ex.new (g.ex.free hT)))) .nil))⟩
theorem wi_zipT {Q : List D → Om → Prop} {tpos : Pos} {elts : List Expr} {kk : Nat} (hm : X.mg "zip" = none) (h : WA X an dr ρ om [e, e2] fun rs om1 => allV rs fun ds => ∃ xs ys, ds = [.tup xs, .tup ys] ∧ xs.length ≤ sizeLine ∧ Q (zipD xs ys) om1) (hg : Gl X "zip" := by rfl)
    (hs : starEach [e, e2] X.env = (false, eval e X.env) :: starEach [e2] X.env := by rfl) (hpl : (backTo pos (starEach [e2] X.env)).any (·.1) = false := by rfl) :
    WI X an dr ρ om (.Tuple elts kk tpos) (.Call (.Name "zip" p) [e, e2] [] pos) Q :=
  piI (RZ.pi_zipA hg hm (pa_u (an := an) (dr := dr)) hs hpl) fun σ H Z ⟨τ, G, g, n, k⟩ => uA_of h g n fun vs rs om1 τ1 G1 H1 h1 w g1 gr1 n1 => by
    obtain ⟨ds, i, xs, ys, rfl, hz, w⟩ := allV_is h1 w
    cases i with
    | cons i1 i =>
      cases i with
      | cons i2 i =>
        cases i
        cases i1 with
        | tup hp il =>
          cases i2 with
          | tup hp' il' => exact ⟨_, _, _, _, rfl, .inr ⟨.inl (.inl (g1.ex _ _ hp)), .inl (.inl (g1.ex _ _ hp')), k _ _ _ _ _ _ w (by simp [zipD]; omega) g1 gr1 (fun _ => jok_zipT hp il hp' il')⟩⟩
end
end DL

namespace DL
open PySem L2
/-! ### a call that leaves out what has a default -/
structure HasKd (P : Program) (w : World) (K : PySem.W.Frag) (mg : Str → Option Value) (base : Heap) (dr : Option Dr) (k : Nat) (x : Str) (ps : List Str) (dds : List D) (W : Wp) : Prop where
  ex : ∃ f fd dvs ds, FnOk P w K mg base CX0 k f fd ps (spD K dr W) ∧ mg x = some (.ref f) ∧ PySem.W.keepIn K (.ref f) = true ∧ Binds K fd ps ds ∧ Vals dvs ds ∧ ∀ G, IsL K G dvs dds
  mono : ∀ ds Q Q', (∀ d, Q d → Q' d) → W ds Q → W ds Q'
section
variable {X : Cx} {an : An} {dr : Option Dr} {ρ : Rho} {om : Om} {e : Expr} {es : List Expr} {pos p : Pos} {Q : R → Om → Prop} {x : Str} {ps : List Str} {W : Wp} {k j : Nat} {dds : List D}
theorem we_callKd (h : HasKd X.prog X.w X.K X.mg X.base dr k x ps dds W) (hr : Room j X.A) (hw : WA X an dr ρ om (e :: es) fun rs om1 => allV rs fun ds => W (ds ++ dds) fun d => Q (.v d) om1) (hkj : k ≤ j := by decide) (hg : Gl X x := by rfl) (hdb : (x == ("__debug__" : Str)) = false := by decide)
    (he : starEach (e :: es) X.env = (false, eval e X.env) :: starEach es X.env := by rfl) (hpl : (backTo pos (starEach es X.env)).any (·.1) = false := by rfl) : WE X an dr ρ om (.Call (.Name x p) (e :: es) [] pos) Q := by
  obtain ⟨f, fd, dvs, dvals, F, hm, hk, hb, hv, idv⟩ := h.ex
  refine peI (pe_call F (hr.mono hkj) hg hm hk hb hv pass0 (pa_u (an := an) (dr := dr)) hdb he hpl) fun σ H K' ⟨τ, G, g, n, k⟩ => uA_of hw g n fun vs rs om1 τ1 G1 H1 h1 w g1 gr1 n1 => ?_
  obtain ⟨ds, i, w⟩ := allV_is h1 w
  show spD X.K dr W (vs ++ dvs) H1 K' E0
  refine ⟨G1, ds ++ dds, g1.pre, i.append (idv G1), h.mono _ _ _ (fun d q v G' H' i' fr => ?_) w⟩
  exact k v _ om1 τ1 G' H' (.v i') q (g1.call fr) (gr1.trans ⟨fr.e1, fun _ _ h => h⟩)
end
end DL

namespace DL
open PySem PySem.Spec PyProof.Rows
/-! ### set(xs), texts -/
def nubS (l : List Str) : List Str := l.foldl (fun acc k => if k ∈ acc then acc else acc ++ [k]) []
theorem nubS_snoc (l : List Str) (k : Str) : nubS (l ++ [k]) = if k ∈ nubS l then nubS l else nubS l ++ [k] := by
  unfold nubS
  rw [List.foldl_append]
  rfl
section
variable {prog : Program} {w : World} {A : Around} {R : Result → Shared → Prop} {I : Addr} {fp wr : List Addr} {G : Array GenState → Array GenState → Prop} {n : Nat} {P : Nat → Value → Prop} {St : Nat → Shared → Prop}
def hasS (l : List Str) : Str → Bool := fun j => decide (j ∈ nubS l)
theorem set_turns (W : WalksS prog w A.in1 I fp wr G n P St) (S : Addr) (off : S ∉ fp) (xs : List Str) (len : xs.length = n) (val : ∀ i v, P i v → ∃ t, v = .str (xs.getD i Str.empty) t) (few : n + 1 < scanBound) (le : ∀ l : List Str, (nubS l).length ≤ l.length) :
    ∀ (k i : Nat) (s : Shared), n - i = k → i ≤ n → St i s → s.heap.SetOf (PySem.strKind prog w) S (hasS (xs.take i)) (nubS (xs.take i)).length →
      (∀ s', Moved (S :: wr) G s s' → s'.heap.SetOf (PySem.strKind prog w) S (hasS xs) (nubS xs).length → R (.ok (.ret .none)) s') → codeAny (model prog w) A (.builtin "set.update.loop" ⟨[.ref S, .ref I], []⟩) R s := by
  have offW : S ∉ wr := fun h => off (W.sub _ h)
  have wider : ∀ b ∈ wr, b ∈ S :: wr := fun b hb => List.mem_cons_of_mem _ hb
  intro k
  induction k with
  | zero =>
    intro i s hk hi st held fin
    obtain rfl : i = n := by omega
    refine codeAny_builtin F.entry_set_update_loop ?_; rw [Around.under_plainId F.plain_set_update_loop _]; show wpAny _ A.in1 (pyNext (.ref I) >>= _) _ _ s
    refine wpAny_bind (W.done s _ _ st fun s' mv => ?_); show wpAny _ A.in1 (ret Value.none) _ _ s'
    refine wpAny_pure (fin s' (mv.mono wider) ?_)
    obtain ⟨o, es, ep, t, ho, rest⟩ := held
    rw [← len, List.take_length] at rest
    exact ⟨o, es, ep, t, mv.heap S _ offW ho, rest⟩
  | succ k ih =>
    intro i s hk hi st held fin
    have lt : i < n := by omega
    refine codeAny_builtin F.entry_set_update_loop ?_; rw [Around.under_plainId F.plain_set_update_loop _]; show wpAny _ A.in1 (pyNext (.ref I) >>= _) _ _ s
    refine wpAny_bind (W.item i s _ _ lt st fun v s' hP st' mv => ?_)
    obtain ⟨t, rfl⟩ := val i v hP
    have held' : s'.heap.SetOf (PySem.strKind prog w) S (hasS (xs.take i)) (nubS (xs.take i)).length := by
      obtain ⟨o, es, ep, tb, ho, rest⟩ := held
      exact ⟨o, es, ep, tb, mv.heap S _ offW ho, rest⟩
    have small := le (xs.take i)
    rw [List.length_take] at small
    show wpAny _ A.in1 (holding [Value.str (xs.getD i Str.empty) t] (setAdd S (.str (xs.getD i Str.empty) t)) >>= _) _ _ s'
    refine wpAny_bind (wpAny_holding ?_); unfold setAdd; refine wpAny_holding ?_
    refine wpAny_bind ((PySem.strKind prog w).pyHash (k := xs.getD i Str.empty) (strKind_is _ _ _ _) ?_)
    refine wpAny_setAddHashed_of (knd := PySem.strKind prog w) (s := { s' with toks := s'.toks + 1 }) (strKind_is _ _ _ _) rfl held' (by omega) fun h' sb held2 => ?_
    have et : xs.take (i + 1) = xs.take i ++ [xs.getD i Str.empty] := by
      rw [List.take_add_one, List.getElem?_eq_getElem (by omega), List.getD_eq_getElem?_getD, List.getElem?_eq_getElem (by omega)]; rfl
    have next : h'.SetOf (PySem.strKind prog w) S (hasS (xs.take (i + 1))) (nubS (xs.take (i + 1))).length := by
      refine SetOf_congr held2 (fun j => ?_) ?_
      · unfold hasS
        rw [et, nubS_snoc, Bool.eq_iff_iff, Bool.or_eq_true, decide_eq_true_eq, decide_eq_true_eq, decide_eq_true_eq]
        split
        · rename_i q; exact ⟨fun z => z.elim id fun z => z ▸ q, .inl⟩
        · rw [List.mem_append, List.mem_singleton]
      · rw [et, nubS_snoc]
        by_cases q : xs.getD i Str.empty ∈ nubS (xs.take i)
        · rw [if_pos q, if_pos (show hasS (xs.take i) (xs.getD i Str.empty) = true from decide_eq_true q)]
        · rw [if_neg q, List.length_append, if_neg (show ¬ hasS (xs.take i) (xs.getD i Str.empty) = true from fun z => q (of_decide_eq_true z))]; rfl
    refine wpAny_pure ⟨plainId_quiet F.plain_set_update_loop _, ih (i + 1) _ (by omega) lt (W.frame _ s' _ _ st' (Nat.le_succ _) fun b hb o e => ?_) next fun s'' mv2 held3 => ?_⟩
    · rw [sb.2 b (fun z : b = S => off (z ▸ hb))]; exact e
    · refine fin s'' (Moved.trans W.gtrans ((mv.mono wider).then_heap (Nat.le_succ _) fun b o hb e => ?_) mv2) held3
      rw [sb.2 b (fun z : b = S => hb (by rw [z]; exact List.mem_cons_self))]; exact e
end
end DL

namespace DL
open PySem PySem.Spec PyProof.Rows
theorem nubS_le : ∀ l : List Str, (nubS l).length ≤ l.length := by
  have key : ∀ (l acc : List Str), (l.foldl (fun acc k => if k ∈ acc then acc else acc ++ [k]) acc).length ≤ acc.length + l.length := by
    intro l
    induction l with
    | nil => intro acc; exact Nat.le_refl _
    | cons a l ih =>
      intro acc
      rw [List.foldl_cons, List.length_cons]
      split
      · have := ih acc; omega
      · have := ih (acc ++ [a]); rw [List.length_append] at this; have e : [a].length = 1 := rfl; omega
  intro l
  have := key l []
  simpa [nubS] using this
section
variable {prog : Program} {w : World} {A : Around} {E : Value → Shared → Prop} {s : Shared}
/-- set(xs) of a list of texts -/
theorem set_of_list {l : Addr} {its : Array Value} {xs : List Str} {Q : Value → Shared → Prop} (hh : A.handled = none) (hl : s.heap.IsList l its) (hi : PyProof.Rows.StrsAre its.toList xs) (few : xs.length + 1 < scanBound)
    (h : ∀ (h' : Heap) (tk : Nat), h'.SetOf (PySem.strKind prog w) s.heap.objs.size (hasS xs) (nubS xs).length → (∀ b o, b < s.heap.objs.size → s.heap.get? b = some o → h'.get? b = some o) → Q (.ref s.heap.objs.size) { s with heap := h', toks := tk }) :
    wpAny (model prog w) A (call (.type "set") [.ref l]) Q E s := by
  have made := PySem.F.called_set.made; have sub := PySem.F.called_set.sub; obtain ⟨c0, t0, mro⟩ := PySem.F.called_set.mro
  refine wpAny_call (codeAny_of_tree (show wpAny _ _ (callAny (.type "set") _) _ _ _ from wpAny_pure ⟨Code.quiet_builtin _ (by decide +kernel), codeAny_builtin PySem.F.entry_type_call ?_⟩))
  rw [Around.under_plain (weight_type_call_type "set" [.ref l] []) rfl]; have n1 := PySem.F.called_set.notType; have n2 := PySem.F.called_set.canCreate; have n3 := PySem.F.typeCall_set_1 (.ref l)
  repeat (any_goals (first | assumption | wp_step))

  refine codeAny_mono (code_set_new_1 (.ref l) (E := E) (Q₁ := fun obj s1 => ∃ b : Bool, obj = .ref s.heap.objs.size ∧ s1 = { s with heap := s.heap.push { cls := .type "set", dict := none, data := .set #[] 0 (.fresh 0 0 b) } }) fun b => ⟨b, rfl, rfl⟩) fun r s1 hr => ?_
  cases r with
  | error e => exact hr
  | ok fl =>
    cases fl with
    | ret obj =>
      obtain ⟨b, rfl, rfl⟩ := hr
      have at0 : (s.heap.push { cls := .type "set", dict := none, data := .set #[] 0 (.fresh 0 0 b) }).get? s.heap.objs.size = some { cls := .type "set", dict := none, data := .set #[] 0 (.fresh 0 0 b) } := Heap.get?_push_size _ rfl
      have ty0 : Shared.TypeIs { s with heap := s.heap.push { cls := .type "set", dict := none, data := .set #[] 0 (.fresh 0 0 b) } } (.ref s.heap.objs.size) "set" := ⟨_, at0, rfl⟩
      have i1 := PySem.F.called_set.init.lookup; have i2 := PySem.F.called_set.init.bind (.ref s.heap.objs.size)
      repeat (any_goals (first | assumption | wp_step))

      refine codeAny_mono (codeAny_call_builtin (R := wants (fun r s2 => r = .none ∧ ∃ h' tk, s2 = { s with heap := h', toks := tk } ∧ h'.SetOf (PySem.strKind prog w) s.heap.objs.size (hasS xs) (nubS xs).length ∧
          (∀ b o, b < s.heap.objs.size → s.heap.get? b = some o → h'.get? b = some o)) E) PySem.F.called_set.init.plain PySem.F.entry_set_init (check_set_init_1 ty0 ?_)) fun r2 s2 hr2 => ?_
      · obtain ⟨⟨oc, od, oa, os⟩, ho, hc, nl, hd⟩ := hl
        simp only at hc hd; subst hc; subst hd
        have ho2 : (s.heap.push { cls := .type "set", dict := none, data := .set #[] 0 (.fresh 0 0 b) }).get? l = some { cls := .type "list", dict := od, data := .seq its nl, slots := os } := Heap.get?_push_of_some _ ho
        have u1 := PySem.F.sub_list_set; have u2 := PySem.F.sub_list_frozenset; have u3 : (Value.type "list" == Value.type "dict") = false := by decide
        have hl1 : (s.heap.push { cls := .type "set", dict := none, data := .set #[] 0 (.fresh 0 0 b) }).IsList l its := ⟨_, ho2, rfl, nl, rfl⟩
        unfold Builtin.«set.__init__» noKeywords Builtin.Frozenset.updateFrom; generalize kept : pyIter = PI
        wp_walk
        subst kept
        refine wpAny_pyIter_list hl1 (wpAny_bind (wpAny_runValue ?_))
        have low : l < s.heap.objs.size := Heap.lt_size ho
        have h3 : A.in1.in1.in1.handled = none := by simp [hh]
        have ne1 : l ≠ (s.heap.push { cls := .type "set", dict := none, data := .set #[] 0 (.fresh 0 0 b) }).objs.size := by rw [Heap.size_push]; exact Nat.ne_of_lt (Nat.lt_succ_of_lt low)
        have off : s.heap.objs.size ∉ [(s.heap.push { cls := .type "set", dict := none, data := .set #[] 0 (.fresh 0 0 b) }).objs.size, l] := by
          rw [Heap.size_push]; simp only [List.mem_cons, List.mem_singleton, List.not_mem_nil, or_false, not_or]; exact ⟨Nat.ne_of_lt (Nat.lt_succ_self _), Nat.ne_of_gt low⟩
        have len : xs.length = its.size := by rw [← StrsAre.len_eq hi, Array.length_toList]
        have val : ∀ (i : Nat) (v : Value), its[i]? = some v → ∃ t, v = .str (xs.getD i Str.empty) t := fun i v hv => SS.strs_at hi i v (by rw [Array.getElem?_toList]; exact hv)
        refine set_turns ((Walks.list h3 _ l ne1 its).toS) s.heap.objs.size off xs len val (by rw [← len]; exact few) nubS_le (its.size - 0) 0 _ (by omega) (Nat.zero_le _) ⟨⟨_, Heap.get?_push_size _ rfl, rfl, rfl⟩, (hl1.push _)⟩ ?first ?last
        case first =>
          have got : ((s.heap.push { cls := .type "set", dict := none, data := .set #[] 0 (.fresh 0 0 b) }).push { cls := .type "list_iterator", data := .fields #[.ref l, .int 0 0] }).get? s.heap.objs.size = some { cls := .type "set", dict := none, data := .set #[] 0 (.fresh 0 0 b) } := Heap.get?_push_of_some _ at0
          exact PyProof.Rows.SetOf_congr ((PyProof.Rows.setObjOf_fresh (knd := PySem.strKind prog w) b).setOf got (by unfold scanBound; omega)) (fun _ => rfl) rfl
        case last =>
          intro s' mv held
          obtain ⟨h', g', d', tk', os'⟩ := s'
          obtain rfl : g' = s.gens := mv.gens; obtain rfl : d' = s.drawn := mv.drawn; obtain rfl : os' = s.os := mv.os
          refine wpAny_pure ?_
          show wpAny _ _ (ret Value.none) _ _ _
          refine wpAny_pure ⟨rfl, h', tk', rfl, held, fun b0 o hb e => ?_⟩
          refine mv.heap b0 o ?_ (Heap.get?_push_of_some _ (Heap.get?_push_of_some _ e))
          simp only [List.mem_cons, List.mem_singleton, List.not_mem_nil, or_false, not_or]; exact ⟨Nat.ne_of_lt hb, by rw [Heap.size_push]; exact Nat.ne_of_lt (Nat.lt_succ_of_lt hb)⟩

      · cases r2 with
        | error e => exact hr2
        | ok f2 =>
          cases f2 with
          | ret r =>
            obtain ⟨rfl, h', tk, rfl, held, keep⟩ := hr2
            repeat (any_goals (first | assumption | wp_step))
            exact h _ _ held keep
          | _ => exact hr2.elim
    | _ => exact hr.elim
end
end DL

namespace DL
open PySem PySem.Spec PyProof.Rows
section
variable {prog : Program} {w : World} {A : Around} {E : Value → Shared → Prop} {s : Shared}
/-- set(xs) of a tuple of texts -/
theorem set_of_tuple {l : Addr} {its : Array Value} {xs : List Str} {Q : Value → Shared → Prop} (hh : A.handled = none) (hl : s.heap.IsTuple l its) (hi : PyProof.Rows.StrsAre its.toList xs) (few : xs.length + 1 < scanBound)
    (h : ∀ (h' : Heap) (tk : Nat), h'.SetOf (PySem.strKind prog w) s.heap.objs.size (hasS xs) (nubS xs).length → (∀ b o, b < s.heap.objs.size → s.heap.get? b = some o → h'.get? b = some o) → Q (.ref s.heap.objs.size) { s with heap := h', toks := tk }) :
    wpAny (model prog w) A (call (.type "set") [.ref l]) Q E s := by
  have made := PySem.F.called_set.made; have sub := PySem.F.called_set.sub; obtain ⟨c0, t0, mro⟩ := PySem.F.called_set.mro
  refine wpAny_call (codeAny_of_tree (show wpAny _ _ (callAny (.type "set") _) _ _ _ from wpAny_pure ⟨Code.quiet_builtin _ (by decide +kernel), codeAny_builtin PySem.F.entry_type_call ?_⟩))
  rw [Around.under_plain (weight_type_call_type "set" [.ref l] []) rfl]; have n1 := PySem.F.called_set.notType; have n2 := PySem.F.called_set.canCreate; have n3 := PySem.F.typeCall_set_1 (.ref l)
  repeat (any_goals (first | assumption | wp_step))

  refine codeAny_mono (code_set_new_1 (.ref l) (E := E) (Q₁ := fun obj s1 => ∃ b : Bool, obj = .ref s.heap.objs.size ∧ s1 = { s with heap := s.heap.push { cls := .type "set", dict := none, data := .set #[] 0 (.fresh 0 0 b) } }) fun b => ⟨b, rfl, rfl⟩) fun r s1 hr => ?_
  cases r with
  | error e => exact hr
  | ok fl =>
    cases fl with
    | ret obj =>
      obtain ⟨b, rfl, rfl⟩ := hr
      have at0 : (s.heap.push { cls := .type "set", dict := none, data := .set #[] 0 (.fresh 0 0 b) }).get? s.heap.objs.size = some { cls := .type "set", dict := none, data := .set #[] 0 (.fresh 0 0 b) } := Heap.get?_push_size _ rfl
      have ty0 : Shared.TypeIs { s with heap := s.heap.push { cls := .type "set", dict := none, data := .set #[] 0 (.fresh 0 0 b) } } (.ref s.heap.objs.size) "set" := ⟨_, at0, rfl⟩
      have i1 := PySem.F.called_set.init.lookup; have i2 := PySem.F.called_set.init.bind (.ref s.heap.objs.size)
      repeat (any_goals (first | assumption | wp_step))

      refine codeAny_mono (codeAny_call_builtin (R := wants (fun r s2 => r = .none ∧ ∃ h' tk, s2 = { s with heap := h', toks := tk } ∧ h'.SetOf (PySem.strKind prog w) s.heap.objs.size (hasS xs) (nubS xs).length ∧
          (∀ b o, b < s.heap.objs.size → s.heap.get? b = some o → h'.get? b = some o)) E) PySem.F.called_set.init.plain PySem.F.entry_set_init (check_set_init_1 ty0 ?_)) fun r2 s2 hr2 => ?_
      · obtain ⟨⟨oc, od, oa, os⟩, ho, hc, nl, hd⟩ := hl
        simp only at hc hd; subst hc; subst hd
        have ho2 : (s.heap.push { cls := .type "set", dict := none, data := .set #[] 0 (.fresh 0 0 b) }).get? l = some { cls := .type "tuple", dict := od, data := .seq its nl, slots := os } := Heap.get?_push_of_some _ ho
        have u1 := PySem.F.sub_tuple_set; have u2 := PySem.F.sub_tuple_frozenset; have u3 : (Value.type "tuple" == Value.type "dict") = false := by decide
        have hl1 : (s.heap.push { cls := .type "set", dict := none, data := .set #[] 0 (.fresh 0 0 b) }).IsTuple l its := ⟨_, ho2, rfl, nl, rfl⟩
        unfold Builtin.«set.__init__» noKeywords Builtin.Frozenset.updateFrom; generalize kept : pyIter = PI
        wp_walk
        subst kept
        refine wpAny_pyIter_tuple hl1 (wpAny_bind (wpAny_runValue ?_))
        have low : l < s.heap.objs.size := Heap.lt_size ho
        have h3 : A.in1.in1.in1.handled = none := by simp [hh]
        have ne1 : l ≠ (s.heap.push { cls := .type "set", dict := none, data := .set #[] 0 (.fresh 0 0 b) }).objs.size := by rw [Heap.size_push]; exact Nat.ne_of_lt (Nat.lt_succ_of_lt low)
        have off : s.heap.objs.size ∉ [(s.heap.push { cls := .type "set", dict := none, data := .set #[] 0 (.fresh 0 0 b) }).objs.size, l] := by
          rw [Heap.size_push]; simp only [List.mem_cons, List.mem_singleton, List.not_mem_nil, or_false, not_or]; exact ⟨Nat.ne_of_lt (Nat.lt_succ_self _), Nat.ne_of_gt low⟩
        have len : xs.length = its.size := by rw [← StrsAre.len_eq hi, Array.length_toList]
        have val : ∀ (i : Nat) (v : Value), its[i]? = some v → ∃ t, v = .str (xs.getD i Str.empty) t := fun i v hv => SS.strs_at hi i v (by rw [Array.getElem?_toList]; exact hv)
        refine set_turns ((Walks.tuple h3 _ l ne1 its).toS) s.heap.objs.size off xs len val (by rw [← len]; exact few) nubS_le (its.size - 0) 0 _ (by omega) (Nat.zero_le _) ⟨⟨_, Heap.get?_push_size _ rfl, rfl, rfl⟩, (hl1.push _)⟩ ?first ?last
        case first =>
          have got : ((s.heap.push { cls := .type "set", dict := none, data := .set #[] 0 (.fresh 0 0 b) }).push { cls := .type "tuple_iterator", data := .fields #[.ref l, .int 0 0] }).get? s.heap.objs.size = some { cls := .type "set", dict := none, data := .set #[] 0 (.fresh 0 0 b) } := Heap.get?_push_of_some _ at0
          exact PyProof.Rows.SetOf_congr ((PyProof.Rows.setObjOf_fresh (knd := PySem.strKind prog w) b).setOf got (by unfold scanBound; omega)) (fun _ => rfl) rfl
        case last =>
          intro s' mv held
          obtain ⟨h', g', d', tk', os'⟩ := s'
          obtain rfl : g' = s.gens := mv.gens; obtain rfl : d' = s.drawn := mv.drawn; obtain rfl : os' = s.os := mv.os
          refine wpAny_pure ?_
          show wpAny _ _ (ret Value.none) _ _ _
          refine wpAny_pure ⟨rfl, h', tk', rfl, held, fun b0 o hb e => ?_⟩
          refine mv.heap b0 o ?_ (Heap.get?_push_of_some _ (Heap.get?_push_of_some _ e))
          simp only [List.mem_cons, List.mem_singleton, List.not_mem_nil, or_false, not_or]; exact ⟨Nat.ne_of_lt hb, by rw [Heap.size_push]; exact Nat.ne_of_lt (Nat.lt_succ_of_lt hb)⟩

      · cases r2 with
        | error e => exact hr2
        | ok f2 =>
          cases f2 with
          | ret r =>
            obtain ⟨rfl, h', tk, rfl, held, keep⟩ := hr2
            repeat (any_goals (first | assumption | wp_step))
            exact h _ _ held keep
          | _ => exact hr2.elim
    | _ => exact hr.elim
end
end DL

namespace DL
open PySem L2 PyProof.Rows PySem.Spec
section
variable {X : Cx} {an : An} {dr : Option Dr} {ρ : Rho} {om : Om} {e a : Expr} {es : List Expr} {pos p p2 q : Pos} {Q : R → Om → Prop}
def tLenS (K : PySem.W.Frag) (ta : TE) : TE := fun σ H Z => ta σ H fun x H1 => ∃ (l : Addr) (xs : List Str), x = .ref l ∧ (SqL K H1 l (xs.map V.str) ∨ SqT K H1 l (xs.map V.str)) ∧ xs.length ≤ 1000 ∧ Z (.int ((nubS xs).length : Nat)) H1
theorem pe_lenS {ta : TE} (hc : X.calm = true) (g1 : Gl X "len") (m1 : X.mg "len" = none) (g2 : Gl X "set") (m2 : X.mg "set" = none) (ha : PE X a ta) (na : starEach [a] X.env = (false, eval a X.env) :: starEach [] X.env) : PE X (.Call (.Name "len" p) [.Call (.Name "set" p2) [a] [] q] [] pos) (tLenS X.K ta) := by
  constructor
  intro pins s σ H Z I h
  refine Call_ (ld_blt I g1 m1 boot_len (PyProof.Rows.callWith_builtin1 (PyProof.Rows.args_cons (Call_ (ld_blt I g2 m2 boot_set (PyProof.Rows.callWith_type1 (PyProof.Rows.args_cons (thn (ha.run pins s σ H _ I h) ?_) na) na rfl))) rfl) rfl rfl))
  rintro v s1 ⟨x, H1, I1, r1, l, xs, rfl, sq, few, z⟩
  refine PyProof.Rows.args_nil ?_
  cases r1
  have bnd : xs.length + 1 < scanBound := Nat.lt_of_le_of_lt (Nat.succ_le_succ few) (by decide)
  have fin : ∀ (h' : Heap) (tk : Nat), h'.SetOf (PySem.strKind X.prog X.w) s1.heap.objs.size (hasS xs) (nubS xs).length → (∀ b o, b < s1.heap.objs.size → s1.heap.get? b = some o → h'.get? b = some o) →
      wpAny (model X.prog X.w) X.A (spliced (backTo pos (starEach [] X.env))) (fun vs s2 => wpAny (model X.prog X.w) X.A (call (.builtin "len") (Value.ref s1.heap.objs.size :: vs)) (EP X pins σ Z) X.xe s2) X.xe { s1 with heap := h', toks := tk } := fun h' tk hS hk => by
    refine PyProof.Rows.args_nil ?_
    obtain ⟨o, es, ep, t, ho, hex, hd, _, _, _, hf, hn⟩ := hS
    have I2 : Inv X pins σ H1 { s1 with heap := h', toks := tk } := I1.kept fun b o e => hk b o (Heap.lt_size e) e
    have le := nubS_le xs
    exact call_len_set ho hex hd hf (by rw [hn] <;> omega) ⟨.int ((nubS xs).length : Nat), H1, I2.tok _, ⟨_, by rw [hn]⟩, z⟩
  rcases sq with sq | sq
  · obtain ⟨its, r, pl, _⟩ := I1.list sq
    exact set_of_list (I1.ok.hd hc) pl.isList (by simpa using strsAre_of r) bnd fun h' tk hS hk => fin h' tk hS hk
  · obtain ⟨its, r, pl, _⟩ := I1.tuple sq
    exact set_of_tuple (I1.ok.hd hc) pl (by simpa using strsAre_of r) bnd fun h' tk hS hk => fin h' tk hS hk
/-- len(set(e)), e a list or a tuple of texts -/
theorem we_lenSet (hc : X.calm = true) (m1 : X.mg "len" = none) (m2 : X.mg "set" = none) (h : WE X an dr ρ om a fun r om1 => ∃ xs : List Str, (vw om1 r = .lst (xs.map D.str) ∨ vw om1 r = .tup (xs.map D.str)) ∧ xs.length ≤ 1000 ∧ Q (.v (.int ((nubS xs).length : Nat))) om1)
    (g1 : Gl X "len" := by rfl) (g2 : Gl X "set" := by rfl) (na : starEach [a] X.env = (false, eval a X.env) :: starEach [] X.env := by rfl) : WE X an dr ρ om (.Call (.Name "len" p) [.Call (.Name "set" p2) [a] [] q] [] pos) Q :=
  peI (pe_lenS hc g1 m1 g2 m2 (pe_u (an := an) (dr := dr)) na) fun σ H K' ⟨τ, G, g, n, k⟩ => uE_of h g n fun v r om1 τ1 G1 H1 h1 w g1 gr1 n1 => by
    obtain ⟨xs, ev, few, q⟩ := w
    have end_ := k _ _ om1 τ1 G1 H1 (.v (.int _)) q g1 gr1
    rcases ev with ev | ev
    · obtain ⟨l, vs, rfl, hl, il⟩ := vw_lst g1 h1 ev
      obtain rfl := strs_inv xs il
      exact ⟨l, xs, rfl, .inl (.inl (.inl hl)), few, end_⟩
    · obtain ⟨l, vs, rfl, hl, il⟩ := vw_tupH g1 h1 ev
      obtain rfl := strs_inv xs il
      exact ⟨l, xs, rfl, .inr (.inl (.inl hl)), few, end_⟩
end
end DL

namespace DL
open PySem L2
section
variable {X : Cx} {an : An} {dr : Option Dr} {ρ : Rho} {om : Om} {e elt c kx vx tg iter tg1 iter1 : Expr} {es : List Expr} {pos p : Pos} {Q : R → Om → Prop} {scope : Scope} {own : List (Str × Nat)} {js js1 : List Nat} {f f1 : TgF}
/-- a loop that fills a new cell: the last one of om -/
theorem cp_go {J : It} {ds : List D} {τ1 : List Addr} {G1 H1 : Hp} {om1 : Om} {σ : L2.St} {Z : VK} {o0 : HO} {c0 : D} {B : Addr → L2.St → Hp → (Hp → Prop) → Prop} (P : Nat → D → Prop) (hz : ds.length ≤ sizeLine) (g1 : Good X.K an dr om1 τ1 G1 H1) (n1 : EnvIs X.K G1 τ1 σ ρ) (hl : σ.length = ρ.length) (jk : JOk X.K an dr J ds G1 τ1)
    (ce : Cell X.K G1 o0 c0) (p0 : P 0 c0) (hj : ∀ i ∈ js, i ∈ own.map (·.2))
    (turn : ∀ D0 i d c, ds[i]? = some d → P i c → f d (wipeR ρ (own.map (·.2))) fun ρ2 => ∀ σ2 τ2 G2 H2 (Y : Hp → Prop), τ2[om1.length]? = some D0 → σ2.length = ρ2.length → Good X.K an dr (om1 ++ [some c]) τ2 G2 H2 → EnvIs X.K G2 τ2 σ2 ρ2 →
      (∀ H3 τ3 G3 c', P (i + 1) c' → Good X.K an dr (om1 ++ [some c']) τ3 G3 H3 → Grow G2 τ2 G3 τ3 → Y H3) → B D0 σ2 H2 Y)
    (fin : ∀ D0 c τ2 G2 H2, P ds.length c → H1 D0 = none → τ2 = τ1 ++ [D0] → Good X.K an dr (om1 ++ [some c]) τ2 G2 H2 → Grow G1 τ1 G2 τ2 → Z (.ref D0) H2) :
    ∀ D0, H1 D0 = none → ∃ W : Nat → Nat → Hp → Prop, (∃ m, W 0 m (upd H1 D0 o0)) ∧ ∀ i m H, W i m H →
      (J.stop i H ∧ Z (.ref D0) H) ∨ (J.go i H ∧ ∃ Nx : Hp → Prop, (∀ H', Nx H' → ∃ m', m' < m ∧ W (i + 1) m' H') ∧ ∀ x H', J.yld i H x H' → tDG X.K an dr js f x (L2.wipe σ (own.map (·.2))) H' fun σ2 H2 => L2.wipe σ2 (own.map (·.2)) = L2.wipe σ (own.map (·.2)) ∧ B D0 σ2 H2 Nx) := by
  intro D0 hD
  have g0 := g1.freshO hD ce
  have kD : (τ1 ++ [D0])[om1.length]? = some D0 := by
    rw [g1.len, List.getElem?_append_right (Nat.le_refl _), Nat.sub_self]; rfl
  refine ⟨fun i m H => m = ds.length - i ∧ i ≤ ds.length ∧ ∃ c τ2 G2, P i c ∧ Good X.K an dr (om1 ++ [some c]) τ2 G2 H ∧ Grow G1 (τ1 ++ [D0]) G2 τ2, ⟨ds.length, by simp, Nat.zero_le _, c0, τ1 ++ [D0], G1, p0, g0, Grow.refl _ _⟩, ?_⟩
  rintro i m H ⟨rfl, hi, c, τ2, G2, p, g2, gr2⟩
  have gr12 : Grow G1 τ1 G2 τ2 := Good.growF.trans gr2
  have J2 := jk _ τ2 G2 H g2 gr12 i
  have kD2 := gr2.pre _ _ kD
  have lD2 : τ2.length = om1.length + 1 := by
    have := g2.len
    rw [List.length_append] at this
    simpa using this.symm
  by_cases hlt : i < ds.length
  · have hd : ds[i]? = some ds[i] := List.getElem?_eq_getElem hlt
    obtain ⟨go, J3⟩ := J2.2 _ hd
    refine .inr ⟨go, fun H' => ∃ c τ2 G2, P (i + 1) c ∧ Good X.K an dr (om1 ++ [some c]) τ2 G2 H' ∧ Grow G1 (τ1 ++ [D0]) G2 τ2, fun H' q => ⟨ds.length - (i + 1), by omega, rfl, hlt, q⟩, fun x H3 y => ?_⟩
    obtain ⟨G3, g3, gr3, i3⟩ := J3 x H3 y
    have n3 : EnvIs X.K G3 τ2 σ ρ := n1.mono (gr12.trans gr3)
    refine ⟨_, τ2, G3, _, _, _, g3, n3.wipes _, by rw [wipe_length, wipeR_length]; exact hl, i3, turn D0 i _ c hd p, fun σ4 ρ4 w n4 l3 l4 o4 => ⟨?_, ?_⟩⟩
    · have z := o4 (own.map (·.2)) hj
      rw [z]
      apply List.ext_getElem?
      intro j
      rw [wipe_get, wipe_get, wipe_length]
      by_cases hj : j ∈ own.map (·.2)
      · rw [if_pos hj, if_pos hj]
      · rw [if_neg hj, if_neg hj]
    · exact w σ4 τ2 G3 H3 _ kD2 (l3.trans l4.symm) g3 n4 fun H5 τ5 G5 c' p5 g5 gr5 => ⟨c', τ5, G5, p5, g5, (gr2.trans gr3).trans gr5⟩
  · have e : i = ds.length := by omega
    subst e
    exact .inl ⟨J2.1 rfl, fin D0 c τ2 G2 H p hD (tau_snoc g1.len g2 gr2) g2 gr12⟩
/-- the end: the cell becomes data -/
theorem cp_end {om1 : Om} {τ1 τ2 : List Addr} {G1 G2 H2 : Hp} {D0 : Addr} {c : D} {Z : VK} (hl : om1.length = τ1.length) (ht : ∀ t ∈ an.ties, τ1[t.1]? = some t.2) (e : τ2 = τ1 ++ [D0]) (g : Good X.K an dr (om1 ++ [some c]) τ2 G2 H2) (gr : Grow G1 τ1 G2 τ2)
    (k : ∀ G' H', Is X.K G' (.ref D0) c → Good X.K an dr om1 τ1 G' H' → Grow G1 τ1 G' τ1 → Z (.ref D0) H') : Z (.ref D0) H2 ∨ ∃ d u, H2 d = some u ∧ Mut (some u) ∧ ∀ od, Z (.ref D0) (upd H2 d (.frz od u)) := by
  subst e
  have hk : (τ1 ++ [D0])[om1.length]? = some D0 := by rw [hl, List.getElem?_append_right (Nat.le_refl _), Nat.sub_self]; rfl
  have ho : (om1 ++ [some c])[om1.length]? = some (some c) := by rw [List.getElem?_append_right (Nat.le_refl _), Nat.sub_self]; rfl
  have e6 : (om1 ++ [some c]).set om1.length none = om1 ++ [none] := by
    rw [List.set_append_right _ _ (Nat.le_refl _), Nat.sub_self]; rfl
  refine retR_lk (P := fun d => d = c) g (.o hk) ⟨c, ho, rfl⟩ fun d G' H' ed i g' gr' => ?_
  subst ed
  have g' : Good X.K an dr ((om1 ++ [some d]).set om1.length none) (τ1 ++ [D0]) G' H' := g'
  rw [e6] at g'
  exact k G' H' i (g'.drop ht) ⟨gr.ex.trans gr'.ex, fun _ _ h => h⟩
/-- the cell is written -/
theorem cp_put {om1 : Om} {τ2 : List Addr} {G2 H2 : Hp} {D0 : Addr} {c c' : D} {o' : HO} (hk : τ2[om1.length]? = some D0) (g : Good X.K an dr (om1 ++ [some c]) τ2 G2 H2) (ce : Cell X.K G2 o' c') : Good X.K an dr (om1 ++ [some c']) τ2 G2 (upd H2 D0 o') := by
  have ho : (om1 ++ [some c])[om1.length]? = some (some c) := by rw [List.getElem?_append_right (Nat.le_refl _), Nat.sub_self]; rfl
  have g6 := g.writeO hk ho ce
  have e6 : (om1 ++ [some c]).set om1.length (some c') = om1 ++ [some c'] := by
    rw [List.set_append_right _ _ (Nat.le_refl _), Nat.sub_self]; rfl
  rw [e6] at g6
  exact g6
theorem cp_get {om1 : Om} {τ2 : List Addr} {G2 H2 : Hp} {D0 : Addr} {c : D} (hk : τ2[om1.length]? = some D0) (g : Good X.K an dr (om1 ++ [some c]) τ2 G2 H2) : ∃ o, H2 D0 = some o ∧ Cell X.K G2 o c := by
  have ho : (om1 ++ [some c])[om1.length]? = some (some c) := by rw [List.getElem?_append_right (Nat.le_refl _), Nat.sub_self]; rfl
  obtain ⟨_, _, _, o, h1, h2⟩ := g.own om1.length D0 c hk ho
  exact ⟨o, h1, h2⟩
/-! ### {k: v for tg in iter} -/
def EltD (X : Cx) (an : An) (dr : Option Dr) (scope : Scope) (kx vx : Expr) (ρ2 : Rho) (om : Om) (acc : List (Key × D)) (N : List (Key × D) → Prop) : Prop :=
  ∀ s H C cl fp, WE (XB X scope s H C cl fp) an dr ρ2 (om ++ [some (.dic acc)]) kx fun rk om2 => om2 = om ++ [some (.dic acc)] ∧ ∃ key, rk = .v (keyDat key) ∧ ∀ s H C cl fp, WE (XB X scope s H C cl fp) an dr ρ2 (om ++ [some (.dic acc)]) vx fun r om3 => om3 = om ++ [some (.dic acc)] ∧ ∃ d, r = .v d ∧ acc.length < sizeLine ∧ N (putE acc key d)
def TstC (X : Cx) (an : An) (dr : Option Dr) (scope : Scope) (c : Expr) (ρ2 : Rho) (om : Om) (acc : D) (N : Bool → Prop) : Prop :=
  ∀ s H C cl fp, WT (XB X scope s H C cl fp) an dr ρ2 (om ++ [some acc]) c fun b om3 => om3 = om ++ [some acc] ∧ N b
theorem dc_turn {om1 : Om} {scope : Scope} {ρ2 : Rho} {acc : List (Key × D)} {N : List (Key × D) → Prop} {D0 : Addr} {σ2 : L2.St} {τ2 : List Addr} {G2 H2 : Hp} {Y : Hp → Prop} (w : EltD X an dr scope kx vx ρ2 om1 acc N) (hk : τ2[om1.length]? = some D0) (g2 : Good X.K an dr (om1 ++ [some (.dic acc)]) τ2 G2 H2) (n2 : EnvIs X.K G2 τ2 σ2 ρ2)
    (y : ∀ H3 τ3 G3 acc', N acc' → Good X.K an dr (om1 ++ [some (.dic acc')]) τ3 G3 H3 → Grow G2 τ2 G3 τ3 → Y H3) :
    uEb X an dr scope kx σ2 H2 fun yk H4 => uEb X an dr scope vx σ2 H4 fun z H5 => ∃ kvs k, yk = kV k ∧ H5 D0 = some (.dK kvs) ∧ kvs.length < sizeLine ∧ Y (upd H5 D0 (.dK (putK kvs k z))) := by
  refine ⟨ρ2, _, _, w, τ2, G2, g2, n2, fun v r om3 τ3 G3 H3 h1 w1 g3 gr3 => ?_⟩
  obtain ⟨rfl, key, rfl, w1⟩ := w1
  refine ⟨ρ2, _, _, w1, τ3, G3, g3, n2.mono gr3, fun v2 r2 om4 τ4 G4 H4 h4 w2 g4 gr4 => ?_⟩
  obtain ⟨rfl, d, rfl, hz, q⟩ := w2
  have hk4 := gr4.pre _ _ (gr3.pre _ _ hk)
  obtain ⟨o, e4, kvs, rfl, id⟩ := cp_get hk4 g4
  cases h4 with
  | v h4 => exact ⟨kvs, key, keyDat_isR h1, e4, by rw [id.length]; exact hz, y _ τ4 G4 _ q (cp_put hk4 g4 ⟨_, rfl, id.put h4⟩) (gr3.trans gr4)⟩
theorem we_dc (hc : X.calm = true) (hN : X.N.Nodup) (hl : X.N.length = ρ.length) (own : List (Str × Nat)) (ok : BlkOk X.N X.env.scope scope own) (hg : ∀ s H C cl fp, WG (XB X scope s H C cl fp) an dr tg js f) (hj : ∀ i ∈ js, i ∈ own.map (·.2))
    (hi : WI X an dr ρ om tg iter fun ds om1 => ∃ P : Nat → List (Key × D) → Prop, P 0 [] ∧ (∀ i d acc, ds[i]? = some d → P i acc → f d (wipeR ρ (own.map (·.2))) fun ρ2 => EltD X an dr scope kx vx ρ2 om1 acc (P (i + 1))) ∧ ∀ acc, P ds.length acc → Q (.v (.dic acc)) om1)
    (hs : ∀ x, foldedSetIterable iter X.env x = pure x := by intro _; rfl) : WE X an dr ρ om (.DictComp kx vx [⟨tg, iter, [], 0⟩] scope pos) Q := by
  refine ⟨fun pins s σ H K' I q => (pe_lk (pe_dc (g := tDG X.K an dr js f) hc hN hi ok (fun s H C cl fp => (hg s H C cl fp).1) (fun _ _ _ _ _ => pts_nil) (fun s H C cl fp => pe_ub (an := an) (dr := dr) s H C cl fp) (fun s H C cl fp => pe_ub (an := an) (dr := dr) s H C cl fp) hs)).run pins s σ H K' I ?_⟩
  obtain ⟨τ, G, g, n, k⟩ := q
  have hls : σ.length = ρ.length := I.len.trans hl
  refine ⟨τ, G, g, n, fun J ds om1 τ1 G1 H1 ⟨P, p0, ps, pe⟩ hz g1 gr1 jk => cp_go (Z := fun x H1 => K' x H1 ∨ ∃ d u, H1 d = some u ∧ Mut (some u) ∧ ∀ od, K' x (upd H1 d (.frz od u))) (B := fun D0 σ2 H2 Nx => tYes σ2 H2 fun b H3 => if b = true then uEb X an dr scope kx σ2 H3 fun y H4 => uEb X an dr scope vx σ2 H4 fun z H5 => ∃ kvs k, y = kV k ∧ H5 D0 = some (.dK kvs) ∧ kvs.length < sizeLine ∧ Nx (upd H5 D0 (.dK (putK kvs k z))) else Nx H3)
    (fun i c => ∃ acc, c = .dic acc ∧ P i acc) hz g1 (n.mono gr1) hls (jk an) (o0 := .dK []) (c0 := .dic []) ⟨[], rfl, .nil⟩ ⟨[], rfl, p0⟩ hj (fun D0 i d c hd p => ?_) fun D0 c τ2 G2 H2 p hD e g2 gr2 => ?_⟩
  · obtain ⟨acc, rfl, p⟩ := p
    refine (hg s H 0 [] []).2 _ _ _ _ (fun ρ2 w σ2 τ2 G2 H2 Y hk hlt g2 n2 y => ?_) (ps i d acc hd p)
    exact dc_turn w hk g2 n2 fun H3 τ3 G3 acc' q g3 gr3 => y H3 τ3 G3 _ ⟨_, rfl, q⟩ g3 gr3
  · obtain ⟨acc, rfl, p⟩ := p
    exact cp_end g1.len g1.ti e g2 gr2 fun G' H' i' g' gr' => k _ _ _ _ _ _ (.v i') (pe acc p) g' (gr1.trans gr')
theorem we_dcIf (hc : X.calm = true) (hN : X.N.Nodup) (hl : X.N.length = ρ.length) (own : List (Str × Nat)) (ok : BlkOk X.N X.env.scope scope own) (hg : ∀ s H C cl fp, WG (XB X scope s H C cl fp) an dr tg js f) (hj : ∀ i ∈ js, i ∈ own.map (·.2))
    (hi : WI X an dr ρ om tg iter fun ds om1 => ∃ P : Nat → List (Key × D) → Prop, P 0 [] ∧ (∀ i d acc, ds[i]? = some d → P i acc → f d (wipeR ρ (own.map (·.2))) fun ρ2 => TstC X an dr scope c ρ2 om1 (.dic acc) fun b => if b = true then EltD X an dr scope kx vx ρ2 om1 acc (P (i + 1)) else P (i + 1) acc) ∧ ∀ acc, P ds.length acc → Q (.v (.dic acc)) om1)
    (hs : ∀ x, foldedSetIterable iter X.env x = pure x := by intro _; rfl) : WE X an dr ρ om (.DictComp kx vx [⟨tg, iter, [c], 0⟩] scope pos) Q := by
  refine ⟨fun pins s σ H K' I q => (pe_lk (pe_dc (g := tDG X.K an dr js f) hc hN hi ok (fun s H C cl fp => (hg s H C cl fp).1) (fun s H C cl fp => pts_one (pt_ub (an := an) (dr := dr) s H C cl fp)) (fun s H C cl fp => pe_ub (an := an) (dr := dr) s H C cl fp) (fun s H C cl fp => pe_ub (an := an) (dr := dr) s H C cl fp) hs)).run pins s σ H K' I ?_⟩
  obtain ⟨τ, G, g, n, k⟩ := q
  have hls : σ.length = ρ.length := I.len.trans hl
  refine ⟨τ, G, g, n, fun J ds om1 τ1 G1 H1 ⟨P, p0, ps, pe⟩ hz g1 gr1 jk => cp_go (Z := fun x H1 => K' x H1 ∨ ∃ d u, H1 d = some u ∧ Mut (some u) ∧ ∀ od, K' x (upd H1 d (.frz od u))) (B := fun D0 σ2 H2 Nx => uTb X an dr scope c σ2 H2 fun b H3 => if b = true then uEb X an dr scope kx σ2 H3 fun y H4 => uEb X an dr scope vx σ2 H4 fun z H5 => ∃ kvs k, y = kV k ∧ H5 D0 = some (.dK kvs) ∧ kvs.length < sizeLine ∧ Nx (upd H5 D0 (.dK (putK kvs k z))) else Nx H3)
    (fun i c => ∃ acc, c = .dic acc ∧ P i acc) hz g1 (n.mono gr1) hls (jk an) (o0 := .dK []) (c0 := .dic []) ⟨[], rfl, .nil⟩ ⟨[], rfl, p0⟩ hj (fun D0 i d c hd p => ?_) fun D0 c τ2 G2 H2 p hD e g2 gr2 => ?_⟩
  · obtain ⟨acc, rfl, p⟩ := p
    refine (hg s H 0 [] []).2 _ _ _ _ (fun ρ2 w σ2 τ2 G2 H2 Y hk hlt g2 n2 y => ⟨ρ2, _, _, w, τ2, G2, g2, n2, fun b om3 τ3 G3 H3 ⟨h2, h3⟩ g3 gr3 => ?_⟩) (ps i d acc hd p)
    subst h2
    cases b with
    | true =>
      rw [if_pos rfl] at h3 ⊢
      exact dc_turn h3 (gr3.pre _ _ hk) g3 (n2.mono gr3) fun H4 τ4 G4 acc' q g4 gr4 => y H4 τ4 G4 _ ⟨_, rfl, q⟩ g4 (gr3.trans gr4)
    | false =>
      rw [if_neg Bool.false_ne_true] at h3 ⊢
      exact y H3 τ3 G3 _ ⟨_, rfl, h3⟩ g3 gr3
  · obtain ⟨acc, rfl, p⟩ := p
    exact cp_end g1.len g1.ti e g2 gr2 fun G' H' i' g' gr' => k _ _ _ _ _ _ (.v i') (pe acc p) g' (gr1.trans gr')
end
end DL

namespace DL
open PySem L2
section
variable {X : Cx} {an : An} {dr : Option Dr} {ρ : Rho} {om : Om} {e elt c kx vx tg iter tg1 iter1 : Expr} {es ifs ifs1 : List Expr} {pos p : Pos} {Q : R → Om → Prop} {scope : Scope} {js js1 : List Nat} {f f1 : TgF}
/-! ### [elt for tg in iter if .. for tg1 in iter1 if ..] -/
def ttOf (X : Cx) (an : An) (dr : Option Dr) (scope : Scope) : List Expr → TT
  | [] => tYes
  | [c] => uTb X an dr scope c
  | _ => fun _ _ _ => False
def okIfs : List Expr → Bool
  | [] => true
  | [_] => true
  | _ => false
theorem pts_of (s : Shared) (H : Hp) (C : Addr) (cl : List (Str × Addr)) (fp : List Addr) : ∀ {ifs : List Expr}, okIfs ifs = true → PTs (XB X scope s H C cl fp) ifs (ttOf X an dr scope ifs)
  | [], _ => pts_nil
  | [c], _ => pts_one (pt_ub (an := an) (dr := dr) s H C cl fp)
def Tsts (X : Cx) (an : An) (dr : Option Dr) (scope : Scope) (ifs : List Expr) (ρ2 : Rho) (om : Om) (acc : D) (N : Bool → Prop) : Prop := match ifs with
  | [] => N true
  | [c] => TstC X an dr scope c ρ2 om acc N
  | _ => False
theorem tsts_nil {ρ2 : Rho} {acc : D} {A B : Prop} (h : A) : Tsts X an dr scope [] ρ2 om acc fun b => if b = true then A else B := by
  show if true = true then A else B
  rw [if_pos rfl]; exact h
theorem tsts_run {ρ2 : Rho} {acc : D} {N : Bool → Prop} {σ2 : L2.St} {τ2 : List Addr} {G2 H2 : Hp} {Y : Bool → Hp → Prop} (w : Tsts X an dr scope ifs ρ2 om acc N) (g2 : Good X.K an dr (om ++ [some acc]) τ2 G2 H2) (n2 : EnvIs X.K G2 τ2 σ2 ρ2)
    (y : ∀ b τ3 G3 H3, N b → Good X.K an dr (om ++ [some acc]) τ3 G3 H3 → Grow G2 τ2 G3 τ3 → EnvIs X.K G3 τ3 σ2 ρ2 → Y b H3) : ttOf X an dr scope ifs σ2 H2 Y := by
  match ifs, w with
  | [], w => exact y true τ2 G2 H2 w g2 (Grow.refl _ _) n2
  | [c], w =>
    refine ⟨ρ2, _, _, w, τ2, G2, g2, n2, fun b om3 τ3 G3 H3 ⟨h2, h3⟩ g3 gr3 => ?_⟩
    subst h2
    exact y b τ3 G3 H3 h3 g3 gr3 (n2.mono gr3)
  | _ :: _ :: _, w => exact w.elim
def EltL (X : Cx) (an : An) (dr : Option Dr) (scope : Scope) (elt : Expr) (ρ2 : Rho) (om : Om) (acc : List D) (N : List D → Prop) : Prop :=
  ∀ s H C cl fp, WE (XB X scope s H C cl fp) an dr ρ2 (om ++ [some (.lst acc)]) elt fun r om3 => om3 = om ++ [some (.lst acc)] ∧ ∃ d, r = .v d ∧ acc.length < sizeLine ∧ N (acc ++ [d])
def uIb (X : Cx) (an : An) (dr : Option Dr) (scope : Scope) (tg iter : Expr) : TI := fun σ H Z => ∃ ρ om Q, (∀ s H C cl fp, WI (XB X scope s H C cl fp) an dr ρ om tg iter Q) ∧ tDI X.K an dr ρ om Q σ H Z
theorem pi_ub (s : Shared) (H : Hp) (C : Addr) (cl : List (Str × Addr)) (fp : List Addr) : PI (XB X scope s H C cl fp) tg iter (uIb X an dr scope tg iter) := ⟨fun pins s1 σ H1 K' I ⟨ρ, om, Q, w, h⟩ => PI.run (w s H C cl fp) pins s1 σ H1 K' I h⟩
def In2 (X : Cx) (an : An) (dr : Option Dr) (scope : Scope) (tg1 iter1 elt : Expr) (ifs1 : List Expr) (f1 : TgF) (vs1 : List Nat) (ρ2 : Rho) (om1 : Om) (acc : List D) (N : List D → Prop) : Prop :=
  ∀ s H C cl fp, WI (XB X scope s H C cl fp) an dr ρ2 (om1 ++ [some (.lst acc)]) tg1 iter1 fun ds1 om2 => om2 = om1 ++ [some (.lst acc)] ∧ ∃ P1 : Nat → List D → Prop, P1 0 acc ∧ (∀ j d acc, ds1[j]? = some d → P1 j acc → f1 d (wipeR ρ2 vs1) fun ρ3 =>
    Tsts X an dr scope ifs1 ρ3 om1 (.lst acc) fun b => if b = true then EltL X an dr scope elt ρ3 om1 acc (P1 (j + 1)) else P1 (j + 1) acc) ∧ ∀ acc, P1 ds1.length acc → N acc
theorem in2_run {vs1 : List Nat} {om1 : Om} {ρ2 : Rho} {acc0 : List D} {N : List D → Prop} {D0 : Addr} {σ2 : L2.St} {τ2 : List Addr} {G2 H2 : Hp} {Nx : Hp → Prop} (w : In2 X an dr scope tg1 iter1 elt ifs1 f1 vs1 ρ2 om1 acc0 N) (hl : σ2.length = ρ2.length) (hg1 : ∀ s H C cl fp, WG (XB X scope s H C cl fp) an dr tg1 js1 f1) (hj1 : ∀ i ∈ js1, i ∈ vs1)
    (s0 : Shared) (hk : τ2[om1.length]? = some D0) (g2 : Good X.K an dr (om1 ++ [some (.lst acc0)]) τ2 G2 H2) (n2 : EnvIs X.K G2 τ2 σ2 ρ2)
    (y : ∀ H3 τ3 G3 acc', N acc' → Good X.K an dr (om1 ++ [some (.lst acc')]) τ3 G3 H3 → Grow G2 τ2 G3 τ3 → Nx H3) :
    uIb X an dr scope tg1 iter1 σ2 H2 fun J1 H4 => ∃ W1 : Nat → Nat → Hp → Prop, (∃ m, W1 0 m H4) ∧ ∀ j k H, W1 j k H →
      (J1.stop j H ∧ Nx H) ∨ (J1.go j H ∧ ∃ Nx1 : Hp → Prop, (∀ H', Nx1 H' → ∃ k', k' < k ∧ W1 (j + 1) k' H') ∧ ∀ x H', J1.yld j H x H' → tDG X.K an dr js1 f1 x (L2.wipe σ2 vs1) H' fun σ3 H5 => L2.wipe σ3 vs1 = L2.wipe σ2 vs1 ∧ ttOf X an dr scope ifs1 σ3 H5 fun b H6 =>
        if b = true then uEb X an dr scope elt σ3 H6 fun y H7 => ∃ acc, H7 D0 = some (.lst acc) ∧ acc.length < sizeLine ∧ Nx1 (upd H7 D0 (.lst (acc ++ [y]))) else Nx1 H6) := by
  refine ⟨ρ2, _, _, w, τ2, G2, g2, n2, fun J ds om2 τ3 G3 H3 ⟨h1, P1, p0, ps, pe⟩ hz g3 gr3 jk => ?_⟩
  subst h1
  have jk := jk an
  have hk3 := gr3.pre _ _ hk
  have n3 := n2.mono gr3
  refine ⟨fun j m H => m = ds.length - j ∧ j ≤ ds.length ∧ ∃ acc τ4 G4, P1 j acc ∧ Good X.K an dr (om1 ++ [some (.lst acc)]) τ4 G4 H ∧ Grow G3 τ3 G4 τ4, ⟨ds.length, by simp, Nat.zero_le _, acc0, τ3, G3, p0, g3, Grow.refl _ _⟩, ?_⟩
  rintro i m H ⟨rfl, hi, acc, τ4, G4, p, g4, gr4⟩
  have J2 := jk _ τ4 G4 H g4 gr4 i
  have hk4 := gr4.pre _ _ hk3
  by_cases hlt : i < ds.length
  · have hd : ds[i]? = some ds[i] := List.getElem?_eq_getElem hlt
    obtain ⟨go, J3⟩ := J2.2 _ hd
    refine .inr ⟨go, fun H' => ∃ acc τ4 G4, P1 (i + 1) acc ∧ Good X.K an dr (om1 ++ [some (.lst acc)]) τ4 G4 H' ∧ Grow G3 τ3 G4 τ4, fun H' q => ⟨ds.length - (i + 1), by omega, rfl, hlt, q⟩, fun x H5 y5 => ?_⟩
    obtain ⟨G5, g5, gr5, i5⟩ := J3 x H5 y5
    have n5 : EnvIs X.K G5 τ4 σ2 ρ2 := n3.mono (gr4.trans gr5)
    refine ⟨_, τ4, G5, _, _, _, g5, n5.wipes _, by rw [wipe_length, wipeR_length]; exact hl, i5, ps i _ acc hd p, fun σ6 ρ6 w6 n6 l6 l6' o6 => ⟨?_, ?_⟩⟩
    · have z := o6 vs1 hj1
      rw [z]
      apply List.ext_getElem?
      intro j
      rw [wipe_get, wipe_get, wipe_length]
      by_cases hj : j ∈ vs1
      · rw [if_pos hj, if_pos hj]
      · rw [if_neg hj, if_neg hj]
    · refine tsts_run w6 g5 n6 fun b τ7 G7 H7 h7 g7 gr7 n7 => ?_
      cases b with
      | true =>
        rw [if_pos rfl] at h7 ⊢
        refine ⟨ρ6, _, _, h7, τ7, G7, g7, n7, fun v r om8 τ8 G8 H8 i8 w8 g8 gr8 => ?_⟩
        obtain ⟨rfl, d, rfl, hz8, q⟩ := w8
        have hk8 := gr8.pre _ _ (gr7.pre _ _ hk4)
        obtain ⟨o, e8, vs, rfl, id⟩ := cp_get hk8 g8
        cases i8 with
        | v i8 => exact ⟨vs, e8, by rw [id.length]; exact hz8, _, τ8, G8, q, cp_put hk8 g8 ⟨_, rfl, id.append (.cons i8 .nil)⟩, ((gr4.trans gr5).trans gr7).trans gr8⟩
      | false =>
        rw [if_neg Bool.false_ne_true] at h7 ⊢
        exact ⟨acc, τ7, G7, h7, g7, (gr4.trans gr5).trans gr7⟩
  · have e : i = ds.length := by omega
    subst e
    exact .inl ⟨J2.1 rfl, y H τ4 G4 acc (pe acc p) g4 (gr3.trans gr4)⟩
theorem we_lc2 (hc : X.calm = true) (hN : X.N.Nodup) (hl : X.N.length = ρ.length) (own : List (Str × Nat)) (ok : BlkOk X.N X.env.scope scope own) (vs1 : List Nat) (hg : ∀ s H C cl fp, WG (XB X scope s H C cl fp) an dr tg js f) (hg1 : ∀ s H C cl fp, WG (XB X scope s H C cl fp) an dr tg1 js1 f1)
    (hv : ∀ i ∈ vs1, i ∈ own.map (·.2)) (hj : ∀ i ∈ js, i ∈ own.map (·.2)) (hj1 : ∀ i ∈ js1, i ∈ vs1) (o1 : okIfs ifs = true) (o2 : okIfs ifs1 = true)
    (hi : WI X an dr ρ om tg iter fun ds om1 => ∃ P : Nat → List D → Prop, P 0 [] ∧ (∀ i d acc, ds[i]? = some d → P i acc → f d (wipeR ρ (own.map (·.2))) fun ρ2 => Tsts X an dr scope ifs ρ2 om1 (.lst acc) fun b => if b = true then In2 X an dr scope tg1 iter1 elt ifs1 f1 vs1 ρ2 om1 acc (P (i + 1)) else P (i + 1) acc) ∧ ∀ acc, P ds.length acc → Q (.v (.lst acc)) om1)
    (hs : ∀ x, foldedSetIterable iter X.env x = pure x := by intro _; rfl) (hs1 : ∀ env x, foldedSetIterable iter1 env x = pure x := by intro _ _; rfl) : WE X an dr ρ om (.ListComp elt [⟨tg, iter, ifs, 0⟩, ⟨tg1, iter1, ifs1, 0⟩] scope pos) Q := by
  refine ⟨fun pins s σ H K' I q => (pe_lk (pe_lc2 (g := tDG X.K an dr js f) (g1 := tDG X.K an dr js1 f1) (vs1 := vs1) hc hN hi ok hv (fun s H C cl fp => (hg s H C cl fp).1) (fun s H C cl fp => pts_of (an := an) (dr := dr) s H C cl fp o1) (fun s H C cl fp => pi_ub (an := an) (dr := dr) s H C cl fp) (fun s H C cl fp => (hg1 s H C cl fp).1) (fun s H C cl fp => pts_of (an := an) (dr := dr) s H C cl fp o2) (fun s H C cl fp => pe_ub (an := an) (dr := dr) s H C cl fp) hs hs1)).run pins s σ H K' I ?_⟩
  obtain ⟨τ, G, g, n, k⟩ := q
  have hls : σ.length = ρ.length := I.len.trans hl
  refine ⟨τ, G, g, n, fun J ds om1 τ1 G1 H1 ⟨P, p0, ps, pe⟩ hz g1 gr1 jk => cp_go (Z := fun x H1 => K' x H1 ∨ ∃ d u, H1 d = some u ∧ Mut (some u) ∧ ∀ od, K' x (upd H1 d (.frz od u))) (B := fun D0 σ2 H2 Nx => ttOf X an dr scope ifs σ2 H2 fun b H3 => if b = true then uIb X an dr scope tg1 iter1 σ2 H3 fun J1 H4 => ∃ W1 : Nat → Nat → Hp → Prop, (∃ m, W1 0 m H4) ∧ ∀ j k H, W1 j k H →
      (J1.stop j H ∧ Nx H) ∨ (J1.go j H ∧ ∃ Nx1 : Hp → Prop, (∀ H', Nx1 H' → ∃ k', k' < k ∧ W1 (j + 1) k' H') ∧ ∀ x H', J1.yld j H x H' → tDG X.K an dr js1 f1 x (L2.wipe σ2 vs1) H' fun σ3 H5 => L2.wipe σ3 vs1 = L2.wipe σ2 vs1 ∧ ttOf X an dr scope ifs1 σ3 H5 fun b H6 =>
        if b = true then uEb X an dr scope elt σ3 H6 fun y H7 => ∃ acc, H7 D0 = some (.lst acc) ∧ acc.length < sizeLine ∧ Nx1 (upd H7 D0 (.lst (acc ++ [y]))) else Nx1 H6) else Nx H3)
    (fun i c => ∃ acc, c = .lst acc ∧ P i acc) hz g1 (n.mono gr1) hls (jk an) (o0 := .lst []) (c0 := .lst []) ⟨[], rfl, .nil⟩ ⟨[], rfl, p0⟩ hj (fun D0 i d c hd p => ?_) fun D0 c τ2 G2 H2 p hD e g2 gr2 => ?_⟩
  · obtain ⟨acc, rfl, p⟩ := p
    refine (hg s H 0 [] []).2 _ _ _ _ (fun ρ2 w σ2 τ2 G2 H2 Y hk hlt g2 n2 y => ?_) (ps i d acc hd p)
    refine tsts_run w g2 n2 fun b τ3 G3 H3 h3 g3 gr3 n3 => ?_
    cases b with
    | true =>
      rw [if_pos rfl] at h3 ⊢
      exact in2_run h3 hlt hg1 hj1 s (gr3.pre _ _ hk) g3 n3 fun H4 τ4 G4 acc' q g4 gr4 => y H4 τ4 G4 _ ⟨_, rfl, q⟩ g4 (gr3.trans gr4)
    | false =>
      rw [if_neg Bool.false_ne_true] at h3 ⊢
      exact y H3 τ3 G3 _ ⟨_, rfl, h3⟩ g3 gr3
  · obtain ⟨acc, rfl, p⟩ := p
    exact cp_end g1.len g1.ti e g2 gr2 fun G' H' i' g' gr' => k _ _ _ _ _ _ (.v i') (pe acc p) g' (gr1.trans gr')
end
end DL

/-! dict(zip(a, b)) over iterators of any kind -/
namespace DL
open PySem
section
variable {prog : Program} {w : World} {A : Around} {E : Value → Shared → Prop} {s : Shared} {q ti tO T i1 i2 : Addr} {fp1 fp2 : List Addr} {n1 n2 i : Nat} {P1 P2 : Nat → Value → Prop} {St1 St2 : Nat → Heap → Prop} {f : Bool} {oT : Obj}
/-- the next pair of a zip whose first tuple is still held by someone -/
theorem held_item {Q : Value → Shared → Prop} (S : ZipSep2 q ti tO i1 i2 fp1 fp2) (D1 : Draws prog w A i1 fp1 n1 P1 St1) (D2 : Draws prog w A i2 fp2 n2 P2 St2) (hq : IsZipHeld s.heap q ti tO T f) (hT : s.heap.get? T = some oT)
    (hi : IsTupOf2 s.heap ti (.ref i1) (.ref i2)) (st1 : St1 i s.heap) (st2 : St2 i s.heap) (l1 : i < n1) (l2 : i < n2)
    (k : ∀ x y h' tk, P1 i x → P2 i y → IsZipHeld h' q ti tO T true → St1 (i + 1) h' → St2 (i + 1) h' → IsTupOf2 h' s.heap.objs.size x y → (∀ c o, c ≠ q → c ≠ i1 → c ≠ i2 → s.heap.get? c = some o → h'.get? c = some o) → Q (.ref s.heap.objs.size) { s with heap := h', toks := tk }) :
    wpAny (model prog w) A (Builtin.«zip.__next__» ⟨[.ref q], []⟩) (fun r s' => ∃ v, r = .done (.ret v) ∧ Q v s') E s := by
  obtain ⟨h0, gl, dd, tk, os⟩ := s
  show wpAny _ _ (field (.ref q) 2 >>= _) _ _ _
  refine wpAny_bind (wpAny_field hq rfl (x := .bool false) rfl ?_)
  show wpAny _ _ (field (.ref q) 3 >>= _) _ _ _
  refine wpAny_bind (wpAny_field hq rfl (x := .ref ti) rfl (wpAny_bind (wpAny_seqItems hi rfl ?_)))
  show wpAny _ _ (Builtin.SmallTypes.ownedTupleIsFree (.ref q) >>= _) _ _ _
  refine wpAny_bind (wpAny_tupleHeld_zip hq hT fun ha hqa sa => ?_)
  replace sa : Heap.SameBut q h0 ha := sa
  simp only [if_false, Bool.false_eq_true]
  refine wpAny_bind ?_
  rw [← Array.forIn_toList]
  simp only [List.forIn_nil, List.forIn_cons]
  refine wpAny_bind (wpAny_bind (wpAny_holding ?_))
  show wpAny _ _ (Builtin.SmallTypes.nextOf (.ref i1) >>= _) _ _ ⟨ha, gl, dd, tk, os⟩
  refine wpAny_bind (D1.item i _ _ _ l1 (D1.over st1 sa S.zf1) fun x hb tb px sb1 sb => wpAny_pure (wpAny_pure ?_))
  replace sb : Heap.SameBut i1 ha hb := sb
  refine wpAny_bind (wpAny_bind (wpAny_holding ?_))
  show wpAny _ _ (Builtin.SmallTypes.nextOf (.ref i2) >>= _) _ _ ⟨hb, gl, dd, tb, os⟩
  refine wpAny_bind (D2.item i _ _ _ l2 (D2.over (D2.over st2 sa S.zf2) sb S.sep1_2) fun y hc tc py sc2 sc => wpAny_pure (wpAny_pure (wpAny_pure ?_)))
  replace sc : Heap.SameBut i2 hb hc := sc
  show wpAny _ _ (newTuple [x, y] >>= _) _ _ ⟨hc, gl, dd, tc, os⟩
  refine wpAny_bind (wpAny_newTuple (wpAny_pure ⟨_, rfl, ?_⟩))
  have sz : hc.objs.size = h0.objs.size := by rw [sc.1, sb.1, sa.1]
  have hqc : IsZipHeld hc q ti tO T true := sc.extBut _ _ S.zi2 (sb.extBut _ _ S.zi1 hqa)
  have keep : ∀ c o, c ≠ q → c ≠ i1 → c ≠ i2 → h0.get? c = some o → hc.get? c = some o := fun c o n0 n1 n2 e => sc.extBut _ _ n2 (sb.extBut _ _ n1 (sa.extBut _ _ n0 e))
  have st1c : St1 (i + 1) hc := D1.over sb1 sc S.sep2_1
  have tup : IsTupOf2 (hc.push { cls := .type "tuple", data := .seq #[x, y] }) hc.objs.size x y := Heap.get?_push_size _ rfl
  show Q (.ref hc.objs.size) _
  rw [sz] at tup ⊢
  exact k x y _ tc px py (Heap.get?_push_of_some _ hqc) (D1.frame _ _ _ st1c fun b _ o e => Heap.get?_push_of_some _ e) (D2.frame _ _ _ sc2 fun b _ o e => Heap.get?_push_of_some _ e) tup fun c o n0 n1 n2 e => Heap.get?_push_of_some _ (keep c o n0 n1 n2 e)
theorem held_end {Q : PySem.Fin → Shared → Prop} (S : ZipSep2 q ti tO i1 i2 fp1 fp2) (D1 : Draws prog w A i1 fp1 n1 P1 St1) (D2 : Draws prog w A i2 fp2 n2 P2 St2) (hq : IsZipHeld s.heap q ti tO T f) (hT : s.heap.get? T = some oT)
    (hi : IsTupOf2 s.heap ti (.ref i1) (.ref i2)) (st1 : St1 i s.heap) (st2 : St2 i s.heap) (l1 : i ≤ n1) (l2 : i ≤ n2) (en : i = n1 ∨ i = n2)
    (k : ∀ h' tk e, (∀ c o, c ≠ q → c ≠ i1 → c ≠ i2 → s.heap.get? c = some o → h'.get? c = some o) → (∃ o, h'.get? e = some o ∧ o.cls = .type "StopIteration") → E (.ref e) { s with heap := h', toks := tk }) :
    wpAny (model prog w) A (Builtin.«zip.__next__» ⟨[.ref q], []⟩) Q E s := by
  obtain ⟨h0, gl, dd, tk, os⟩ := s
  show wpAny _ _ (field (.ref q) 2 >>= _) _ _ _
  refine wpAny_bind (wpAny_field hq rfl (x := .bool false) rfl ?_)
  show wpAny _ _ (field (.ref q) 3 >>= _) _ _ _
  refine wpAny_bind (wpAny_field hq rfl (x := .ref ti) rfl (wpAny_bind (wpAny_seqItems hi rfl ?_)))
  show wpAny _ _ (Builtin.SmallTypes.ownedTupleIsFree (.ref q) >>= _) _ _ _
  refine wpAny_bind (wpAny_tupleHeld_zip hq hT fun ha hqa sa => ?_)
  replace sa : Heap.SameBut q h0 ha := sa
  simp only [if_false, Bool.false_eq_true]
  refine wpAny_bind ?_
  rw [← Array.forIn_toList]
  simp only [List.forIn_nil, List.forIn_cons]
  refine wpAny_bind (wpAny_bind (wpAny_holding ?_))
  show wpAny _ _ (Builtin.SmallTypes.nextOf (.ref i1) >>= _) _ _ ⟨ha, gl, dd, tk, os⟩
  by_cases c1 : i = n1
  · subst c1
    exact wpAny_bind (D1.done _ _ _ (D1.over st1 sa S.zf1) fun hb e sb he => k hb tk e (fun c o n0 n1 n2 x => sb _ _ n1 (sa.extBut _ _ n0 x)) he)
  · have c2 : i = n2 := en.resolve_left c1
    subst c2
    refine wpAny_bind (D1.item i _ _ _ (by omega) (D1.over st1 sa S.zf1) fun x hb tb px sb1 sb => wpAny_pure (wpAny_pure ?_))
    replace sb : Heap.SameBut i1 ha hb := sb
    refine wpAny_bind (wpAny_bind (wpAny_holding ?_))
    show wpAny _ _ (Builtin.SmallTypes.nextOf (.ref i2) >>= _) _ _ ⟨hb, gl, dd, tb, os⟩
    exact wpAny_bind (D2.done _ _ _ (D2.over (D2.over st2 sa S.zf2) sb S.sep1_2) fun hc e sc he => k hc tb e (fun c o n0 n1 n2 x => sc _ _ n2 (sb.extBut _ _ n1 (sa.extBut _ _ n0 x))) he)
theorem next_held_item {Q : Option Value → Shared → Prop} (S : ZipSep2 q ti tO i1 i2 fp1 fp2) (D1 : Draws prog w A.in1 i1 fp1 n1 P1 St1) (D2 : Draws prog w A.in1 i2 fp2 n2 P2 St2) (hq : IsZipHeld s.heap q ti tO T f) (hT : s.heap.get? T = some oT)
    (hi : IsTupOf2 s.heap ti (.ref i1) (.ref i2)) (st1 : St1 i s.heap) (st2 : St2 i s.heap) (l1 : i < n1) (l2 : i < n2)
    (k : ∀ x y h' tk, P1 i x → P2 i y → IsZipHeld h' q ti tO T true → St1 (i + 1) h' → St2 (i + 1) h' → IsTupOf2 h' s.heap.objs.size x y → (∀ c o, c ≠ q → c ≠ i1 → c ≠ i2 → s.heap.get? c = some o → h'.get? c = some o) → Q (some (.ref s.heap.objs.size)) { s with heap := h', toks := tk }) :
    wpAny (model prog w) A (pyNext (.ref q)) Q E s := by
  have ty : s.TypeIs (.ref q) "zip" := ⟨_, hq, rfl⟩
  unfold pyNext
  refine wpAny_bind (wpAny_attempt (wpAny_callSpecial?_slot (name := Str.ofString "__next__") ty F.slot_zip_next (wpAny_call_entry F.slot_zip_next ty F.entry_zip_next ?_ (F.args_zip_next_1 _))))
  exact held_item S D1 D2 hq hT hi st1 st2 l1 l2 fun x y h' tk a b c d e f g => wpAny_pure (k x y h' tk a b c d e f g)
theorem next_held_end {Q : Option Value → Shared → Prop} (S : ZipSep2 q ti tO i1 i2 fp1 fp2) (D1 : Draws prog w A.in1 i1 fp1 n1 P1 St1) (D2 : Draws prog w A.in1 i2 fp2 n2 P2 St2) (hq : IsZipHeld s.heap q ti tO T f) (hT : s.heap.get? T = some oT)
    (hi : IsTupOf2 s.heap ti (.ref i1) (.ref i2)) (st1 : St1 i s.heap) (st2 : St2 i s.heap) (l1 : i ≤ n1) (l2 : i ≤ n2) (en : i = n1 ∨ i = n2)
    (k : ∀ h' tk, (∀ c o, c ≠ q → c ≠ i1 → c ≠ i2 → s.heap.get? c = some o → h'.get? c = some o) → Q none { s with heap := h', toks := tk }) : wpAny (model prog w) A (pyNext (.ref q)) Q E s := by
  have ty : s.TypeIs (.ref q) "zip" := ⟨_, hq, rfl⟩
  unfold pyNext
  refine wpAny_bind (wpAny_attempt (wpAny_callSpecial?_slot (name := Str.ofString "__next__") ty F.slot_zip_next (wpAny_call_entry F.slot_zip_next ty F.entry_zip_next ?_ (F.args_zip_next_1 _))))
  refine held_end S D1 D2 hq hT hi st1 st2 l1 l2 en fun h' tk e kp ⟨o, ho, hc⟩ => ?_
  exact wpAny_bind (wpAny_isInstance (T := "StopIteration") (b := true) ⟨o, ho, hc⟩ isSubtype_stop (wpAny_pure (k _ _ kp)))
end
/-- a zip as the argument of dict() -/
theorem zipArg {prog : Program} {w : World} {q ti tO i1 i2 : Addr} {fp1 fp2 : List Addr} {n1 n2 : Nat} {P1 P2 : Nat → Value → Prop} {St1 St2 : Nat → Heap → Prop} (S : ZipSep2 q ti tO i1 i2 fp1 fp2) (D1 : ∀ A : Around, A.handled = none → Draws prog w A i1 fp1 n1 P1 St1) (D2 : ∀ A : Around, A.handled = none → Draws prog w A i2 fp2 n2 P2 St2)
    (v1 : ∀ h, St1 0 h → ∀ b ∈ fp1, ∃ o, h.get? b = some o) (v2 : ∀ h, St2 0 h → ∀ b ∈ fp2, ∃ o, h.get? b = some o) (A0 : Around) (hA0 : A0.handled = none) :
    PairArg prog w "zip" q (q :: ti :: tO :: (fp1 ++ fp2)) [q, tO, i1, i2] (min n1 n2) (fun i k v => P1 i k ∧ P2 i v)
      (fun h => IsZip h q ti tO .none ∧ IsTupOf2 h ti (.ref i1) (.ref i2) ∧ (∃ a b, IsTupOf2 h tO a b) ∧ St1 0 h ∧ St2 0 h) where
  type := fun s ok => ⟨_, ok.1, rfl⟩
  notDict := by decide
  keep := fun h h' ok hk => by
    obtain ⟨a1, a2, ⟨a, b, a3⟩, a4, a5⟩ := ok
    exact ⟨hk _ _ a1, hk _ _ a2, ⟨a, b, hk _ _ a3⟩, (D1 A0 hA0).frame _ _ _ a4 fun c _ o e => hk c o e, (D2 A0 hA0).frame _ _ _ a5 fun c _ o e => hk c o e⟩
  there := fun h ok b hb => by
    obtain ⟨a1, a2, ⟨a, c, a3⟩, a4, a5⟩ := ok
    rcases List.mem_cons.mp hb with rfl | hb
    · exact ⟨_, a1⟩
    rcases List.mem_cons.mp hb with rfl | hb
    · exact ⟨_, a2⟩
    rcases List.mem_cons.mp hb with rfl | hb
    · exact ⟨_, a3⟩
    rcases List.mem_append.mp hb with hb | hb
    · exact v1 h a4 b hb
    · exact v2 h a5 b hb
  sub := fun b hb => by
    have := S.mem1
    have := S.mem2
    simp only [List.mem_cons, List.not_mem_nil, or_false] at hb
    rcases hb with rfl | rfl | rfl | rfl <;> simp [*]
  noKeys := fun A s Q E hA ok h => getAttrOr_miss_zip ok.1 rfl rfl rfl zip_no_keys (by decide +kernel) hA h
  iter := fun A s d Q E hA ok hd nd h => by
    obtain ⟨a1, a2, ⟨a, b, a3⟩, a4, a5⟩ := ok
    have nq : d ≠ q := fun z => nd (by rw [z]; exact List.mem_cons_self ..)
    have nti : d ≠ ti := fun z => nd (by rw [z]; simp)
    have ntO : d ≠ tO := fun z => nd (by rw [z]; simp)
    have n1 : d ∉ fp1 := fun z => nd (by simp [z])
    have n2 : d ∉ fp2 := fun z => nd (by simp [z])
    have E1 := D1 A.in1 hA
    have E2 := D2 A.in1 hA
    refine wpAny_pyIter_zip a1 (h q [q, tO, i1, i2] (fun i h => IsTupOf2 h ti (.ref i1) (.ref i2) ∧ St1 i h ∧ St2 i h ∧ ((IsZip h q ti tO .none ∧ ∃ a b, IsTupOf2 h tO a b) ∨ ∃ T f oT, IsZipHeld h q ti tO T f ∧ h.get? T = some oT ∧ T ≠ q ∧ T ≠ i1 ∧ T ≠ i2 ∧ T ≠ d)) s.heap s.toks ?_
      ⟨a2, a4, a5, .inl ⟨a1, a, b, a3⟩⟩ (fun _ _ e => e) fun b hb => .inl hb)
    refine { off := fun hm => ?_, frame := fun i h1 h2 st hk => ?_, item := fun i s1 Q1 X1 hi st hds k => ?_, done := fun s1 Q1 X1 st k => ?_ }
    · simp only [List.mem_cons, List.not_mem_nil, or_false] at hm
      rcases hm with z | z | z | z
      · exact nq z
      · exact ntO z
      · exact n1 (z ▸ S.mem1)
      · exact n2 (z ▸ S.mem2)
    · obtain ⟨b2, b4, b5, b6⟩ := st
      refine ⟨hk _ _ (Ne.symm nti) b2, E1.frame _ _ _ b4 fun c hc o e => hk c o (fun z => n1 (z ▸ hc)) e, E2.frame _ _ _ b5 fun c hc o e => hk c o (fun z => n2 (z ▸ hc)) e, ?_⟩
      rcases b6 with ⟨c1, x, y, c2⟩ | ⟨T, f, oT, c1, c2, c3, c4, c5, c6⟩
      · exact .inl ⟨hk _ _ (Ne.symm nq) c1, x, y, hk _ _ (Ne.symm ntO) c2⟩
      · exact .inr ⟨T, f, oT, hk _ _ (Ne.symm nq) c1, hk _ _ c6 c2, c3, c4, c5, c6⟩
    · obtain ⟨b2, b4, b5, b6⟩ := st
      have m1 : s1.heap.objs.size ≠ i1 := by obtain ⟨_, e⟩ := E1.live _ _ b4; exact Nat.ne_of_gt (Heap.lt_size e)
      have m2 : s1.heap.objs.size ≠ i2 := by obtain ⟨_, e⟩ := E2.live _ _ b5; exact Nat.ne_of_gt (Heap.lt_size e)
      rcases b6 with ⟨c1, x, y, c2⟩ | ⟨T, f, oT, c1, c2, c3, c4, c5, c6⟩
      · refine wpAny_pyNext_zipD2_item S E1 E2 c1 b2 c2 b4 b5 (by omega) (by omega) fun x1 x2 h' tk p1 p2 d1 d2 d3 d4 d5 d6 kp => ?_
        refine k _ x1 x2 h' tk ⟨p1, p2⟩ (.inl ⟨_, d5, rfl, _, rfl⟩) ⟨kp _ _ S.TIz S.TITO S.TIi1 S.TIi2 b2, d3, d4, .inr ⟨_, false, _, d1, d5, Nat.ne_of_gt (Heap.lt_size c1), m1, m2, Nat.ne_of_gt hds⟩⟩ fun c o hc e => ?_
        simp only [List.mem_cons, List.not_mem_nil, or_false, not_or] at hc
        exact kp c o hc.1 hc.2.1 hc.2.2.1 hc.2.2.2 e
      · refine next_held_item S E1 E2 c1 c2 b2 b4 b5 (by omega) (by omega) fun x1 x2 h' tk p1 p2 d1 d3 d4 d5 kp => ?_
        refine k _ x1 x2 h' tk ⟨p1, p2⟩ (.inl ⟨_, d5, rfl, _, rfl⟩) ⟨kp _ _ S.TIz S.TIi1 S.TIi2 b2, d3, d4, .inr ⟨T, true, oT, d1, kp _ _ c3 c4 c5 c2, c3, c4, c5, c6⟩⟩ fun c o hc e => ?_
        simp only [List.mem_cons, List.not_mem_nil, or_false, not_or] at hc
        exact kp c o hc.1 hc.2.2.1 hc.2.2.2 e
    · obtain ⟨b2, b4, b5, b6⟩ := st
      rcases b6 with ⟨c1, x, y, c2⟩ | ⟨T, f, oT, c1, c2, c3, c4, c5, c6⟩
      · refine wpAny_pyNext_zipD2_end S E1 E2 c1 b2 c2 b4 b5 (by omega) (by omega) (by omega) fun h' tk kp => k h' tk fun c o hc e => ?_
        simp only [List.mem_cons, List.not_mem_nil, or_false, not_or] at hc
        exact kp c o hc.1 hc.2.1 hc.2.2.1 hc.2.2.2 e
      · refine next_held_end S E1 E2 c1 c2 b2 b4 b5 (by omega) (by omega) (by omega) fun h' tk kp => k h' tk fun c o hc e => ?_
        simp only [List.mem_cons, List.not_mem_nil, or_false, not_or] at hc
        exact kp c o hc.1 hc.2.2.1 hc.2.2.2 e
end DL

namespace DL
open PySem L2 PyProof.Rows PySem.Spec
section
variable {X : Cx} {an : An} {dr : Option Dr} {ρ : Rho} {om : Om} {e a b : Expr} {es : List Expr} {pos p p2 pos2 : Pos} {Q : R → Om → Prop}
/-- a list or a tuple, by a flag -/
def SqU (K : PySem.W.Frag) (H : Hp) (t : Bool) (l : Addr) (xs : List V) : Prop := if t = true then SqT K H l xs else SqL K H l xs
theorem sepZ (n l1 l2 : Nat) (h1 : l1 < n) (h2 : l2 < n) : ZipSep2 (n + 4) (n + 2) (n + 3) n (n + 1) [n, l1] [n + 1, l2] where
  TIz := (show n + 2 ≠ n + 4 from by omega)
  TOz := (show n + 3 ≠ n + 4 from by omega)
  TITO := (show n + 2 ≠ n + 3 from by omega)
  TIi1 := (show n + 2 ≠ n from by omega)
  mem1 := List.mem_cons_self ..
  zf1 := fun h => by
    have h : n + 4 = n ∨ n + 4 = l1 := by simpa using h
    omega
  Tf1 := fun h => by
    have h : n + 3 = n ∨ n + 3 = l1 := by simpa using h
    omega
  TIi2 := (show n + 2 ≠ n + 1 from by omega)
  mem2 := List.mem_cons_self ..
  zf2 := fun h => by
    have h : n + 4 = n + 1 ∨ n + 4 = l2 := by simpa using h
    omega
  Tf2 := fun h => by
    have h : n + 3 = n + 1 ∨ n + 3 = l2 := by simpa using h
    omega
  sep1_2 := fun h => by
    have h : n = n + 1 ∨ n = l2 := by simpa using h
    omega
  sep2_1 := fun h => by
    have h : n + 1 = n ∨ n + 1 = l1 := by simpa using h
    omega
/-- what is to be walked, at the machine's level -/
structure Srcs (P : Program) (w : World) (s : Shared) (l : Addr) (its : List Value) (n : Addr) where
  o : Obj
  Hh : Heap → Prop
  St : Nat → Heap → Prop
  B : Begins (.ref l) o Hh
  ok : Hh s.heap
  D : ∀ A : Around, A.handled = none → Draws P w A n [n, l] its.length (fun i v => its[i]? = some v) St
  go : ∀ h', h'.get? n = some o → (∀ c o, s.heap.get? c = some o → h'.get? c = some o) → St 0 h'
  th : ∀ h, St 0 h → ∀ b ∈ [n, l], ∃ o, h.get? b = some o
  lt : l < s.heap.objs.size
theorem src_of {pins : List (Addr × Obj)} {σ : L2.St} {H : Hp} {s : Shared} {t : Bool} {l : Addr} {xs : List V} (I : Inv X pins σ H s) (h : SqU X.K H t l xs) (n : Addr) (hn : s.heap.objs.size ≤ n) :
    ∃ its : List Value, Vals xs its ∧ its.length ≤ sizeLine ∧ Nonempty (Srcs X.prog X.w s l its n) := by
  cases t with
  | true =>
    obtain ⟨its, r, pl, hz⟩ := I.tuple h
    have pl : s.heap.IsTuple l its.toArray := pl
    have hz : xs.length ≤ sizeLine := hz
    have hl : l < s.heap.objs.size := by obtain ⟨o, ho, _⟩ := id pl; exact Heap.lt_size ho
    have hne : l ≠ n := Nat.ne_of_lt (Nat.lt_of_lt_of_le hl hn)
    refine ⟨its, r, by rw [← r.length]; exact hz, ⟨⟨_, _, fun i h => h.IsTupleIter n l i ∧ h.IsTuple l its.toArray, begins_tuple l its.toArray, pl, fun A hA => by simpa using Draws.tuple hA n l hne its.toArray, fun h' h1 h2 => ⟨⟨_, h1, rfl, rfl⟩, pl.at fun o e => h2 _ o e⟩, fun h ⟨⟨o, h1, _⟩, ⟨o2, h2, _⟩⟩ c hc => ?_, hl⟩⟩⟩
    simp only [List.mem_cons, List.not_mem_nil, or_false] at hc
    rcases hc with rfl | rfl
    · exact ⟨_, h1⟩
    · exact ⟨_, h2⟩
  | false =>
    obtain ⟨its, r, pl, hz⟩ := I.list h
    have pl : s.heap.IsList l its.toArray := pl.isList
    have hz : xs.length ≤ sizeLine := hz
    have hl : l < s.heap.objs.size := by obtain ⟨o, ho, _⟩ := id pl; exact Heap.lt_size ho
    have hne : l ≠ n := Nat.ne_of_lt (Nat.lt_of_lt_of_le hl hn)
    refine ⟨its, r, by rw [← r.length]; exact hz, ⟨⟨_, _, fun i h => h.IsListIter n l i ∧ h.IsList l its.toArray, begins_list l its.toArray, pl, fun A hA => by simpa using Draws.list hA n l hne its.toArray, fun h' h1 h2 => ⟨⟨_, h1, rfl, rfl⟩, pl.at fun o e => h2 _ o e⟩, fun h ⟨⟨o, h1, _⟩, ⟨o2, h2, _⟩⟩ c hc => ?_, hl⟩⟩⟩
    simp only [List.mem_cons, List.not_mem_nil, or_false] at hc
    rcases hc with rfl | rfl
    · exact ⟨_, h1⟩
    · exact ⟨_, h2⟩
theorem vals_back : ∀ {xs : List V} {us : List Value} {i : Nat} {u : Value}, Vals xs us → us[i]? = some u → ∃ x, xs[i]? = some x ∧ RelV x u
  | _, _, _, _, .nil, e => by simp at e
  | _, _, 0, _, .cons r _, e => by simp at e; subst e; exact ⟨_, rfl, r⟩
  | _, _, i + 1, u, .cons _ t, e => by
    obtain ⟨x, h1, h2⟩ := vals_back (i := i) (u := u) t (by simpa using e)
    exact ⟨x, by simpa using h1, h2⟩
theorem key_rel {k : Key} {u : Value} (h : RelV (kV k) u) : keyIs k u = true := by
  cases k with
  | inl n => obtain ⟨t, rfl⟩ := h; exact keyIs_int _ _
  | inr z => obtain ⟨t, rfl⟩ := h; exact keyIs_str _ _
theorem zip_vals {ys : List V} {us2 : List Value} (r2 : Vals ys us2) : ∀ {ks : List Key}, KV (ks.zip ys) (ks.zip us2) := by
  intro ks
  unfold KV
  induction r2 generalizing ks with
  | nil => simp; exact .nil
  | cons h t ih =>
    cases ks with
    | nil => exact .nil
    | cons k ks => exact .cons ⟨rfl, h⟩ ih
def tDictZip (K : PySem.W.Frag) (ta : TA) : TE := fun σ H Q => ta σ H fun vs H1 => ∃ (l1 l2 : Addr) (t1 t2 : Bool) (ks : List Key) (ys : List V), vs = [.ref l1, .ref l2] ∧ SqU K H1 t1 l1 (ks.map kV) ∧ SqU K H1 t2 l2 ys ∧ ∀ d, H1 d = none → Q (.ref d) (upd H1 d (.dK (mergeK [] (ks.zip ys))))
theorem pe_dictZip {ta : TA} (hc : X.calm = true) (g1 : Gl X "dict") (m1 : X.mg "dict" = none) (g2 : Gl X "zip") (m2 : X.mg "zip" = none) (ha : PA X [a, b] ta) (hs : starEach [a, b] X.env = (false, eval a X.env) :: starEach [b] X.env) (hpl : (backTo pos2 (starEach [b] X.env)).any (·.1) = false) :
    PE X (.Call (.Name "dict" p) [.Call (.Name "zip" p2) [a, b] [] pos2] [] pos) (tDictZip X.K ta) := by
  constructor
  intro pins s σ H Z I h
  refine Call_ (ld_blt I g1 m1 boot_dict (PyProof.Rows.callWith_type1 (PyProof.Rows.args_cons (Call_ (ld_blt I g2 m2 PyProof.Rows.boot_zip (PyProof.Rows.callWith_type1 (thn (ha.run pos2 pins s σ H _ I h) ?_) hs hpl))) rfl) rfl rfl))
  rintro us s1 ⟨vs, H1, I1, r1, l1, l2, t1, t2, ks, ys, rfl, q1, q2, z⟩
  cases r1 with
  | cons ra rr =>
    cases rr with
    | cons rb rr =>
      cases rr
      cases ra
      cases rb
      obtain ⟨ua, va, za, ⟨Sa⟩⟩ := src_of I1 q1 s1.heap.objs.size (Nat.le_refl _)
      obtain ⟨ub, vb, zb, ⟨Sb⟩⟩ := src_of I1 q2 (s1.heap.objs.size + 1) (Nat.le_succ _)
      refine zip_begins2 Sa.B Sb.B Sa.ok Sb.ok fun h' z1 z2 z3 z4 z5 z6 z7 => PyProof.Rows.args_nil ?_
      have hh := I1.ok.hd hc
      have PA := zipArg (prog := X.prog) (w := X.w) (sepZ s1.heap.objs.size l1 l2 Sa.lt Sb.lt) Sa.D Sb.D Sa.th Sb.th X.A hh
      refine PySem.call_dict_pairs (knd := mixKind X.prog X.w) (kvs := ks.zip ub) PA hh ⟨z1, z2, ⟨_, _, z3⟩, Sa.go h' z4 z7, Sb.go h' z5 z7⟩ ⟨?_, fun i key v ⟨e1, e2⟩ => ?_⟩ (Nat.le_trans (Nat.min_le_left _ _) za) fun h2 tk hd hk => ?_
      · have := va.length
        rw [List.length_map] at this
        rw [List.length_zip, this]
      · obtain ⟨x, hx, rx⟩ := vals_back va e1
        rw [List.getElem?_map] at hx
        cases hk : ks[i]? with
        | none => rw [hk] at hx; cases hx
        | some k =>
          rw [hk] at hx
          cases hx
          exact ⟨k, List.getElem?_zip_eq_some (z := (k, v)) |>.mpr ⟨hk, e2⟩, key_rel rx⟩
      · have big : s1.heap.objs.size ≤ h'.objs.size := by rw [z6]; exact Nat.le_add_right _ _
        have hm : (h'.objs.size == sysModules) = false := beq_eq_false_iff_ne.mpr (Nat.ne_of_gt (Nat.lt_of_lt_of_le I1.big big))
        have kp : ∀ c o, s1.heap.get? c = some o → h2.get? c = some o := fun c o e => by
          have lt := Heap.lt_size e
          have lt' : (c : Nat) < s1.heap.objs.size := lt
          refine hk c o (fun hm => ?_) (z7 c o e)
          have hm : c = s1.heap.objs.size + 4 ∨ c = s1.heap.objs.size + 3 ∨ c = s1.heap.objs.size ∨ c = s1.heap.objs.size + 1 := by simpa using hm
          rcases hm with q | q | q | q
          · exact absurd lt (Nat.not_lt.mpr (q ▸ Nat.le_add_right _ _))
          · exact absurd lt (Nat.not_lt.mpr (q ▸ Nat.le_add_right _ _))
          · exact absurd lt (Nat.not_lt.mpr (q ▸ Nat.le_refl _))
          · exact absurd lt (Nat.not_lt.mpr (q ▸ Nat.le_add_right _ _))
        have hlen : (mergeK [] (ks.zip ys)).length ≤ sizeLine := by
          refine Nat.le_trans (length_mergeK _ []) ?_
          have := va.length
          rw [List.length_map] at this
          rw [List.length_nil, Nat.zero_add, List.length_zip]
          omega
        exact ⟨.ref h'.objs.size, upd H1 h'.objs.size (.dK (mergeK [] (ks.zip ys))), I1.laid (t' := tk) kp big (show ObjOk X.prog X.w _ _ _ (.dK (mergeK [] (ks.zip ys))) from ⟨hlen, hm, merged [] (ks.zip ub), KV.merge (zip_vals vb) .nil, hd⟩), rfl, z _ (I1.hok.fresh big)⟩
end
end DL

/-! {**a, **b} -/
namespace DL
open PySem
section
variable {prog : Program} {w : World} {K : Type} [DecidableEq K] {knd : KeyKind prog w K} {A : Around} {E : Value → Shared → Prop} {s : Shared}
theorem put_pairs {d : Addr} {kvs : List (K × Value)} {k : K} {key v : Value} {Q : Unit → Shared → Prop} (hkey : knd.is k key = true) (hm : s.heap.DictOf knd d kvs) (hz : kvs.length ≤ sizeLine)
    (kq : ∀ h', h'.DictOf knd d (stored kvs k v) → Heap.SameBut d s.heap h' → Q () { s with heap := h' }) : wpAny (model prog w) A (dictPut d (knd.hash k) key v) Q E s := by
  obtain ⟨o, es, ep, ho, hc, hd, hk, hp, hn⟩ := hm
  have len : es.toList.length = kvs.length := hp.length
  have ix : (es.findIdx? fun e => knd.is k e.key) = kvs.findIdx? fun kv => decide (kv.1 = k) := (by obtain ⟨l⟩ := es; simp : (es.findIdx? fun e => knd.is k e.key) = es.toList.findIdx? fun e => knd.is k e.key).trans (hp.findIdx k)
  unfold dictPut
  refine wpAny_bind (wpAny_dictFind_of hkey ho hd hk ?_)
  cases q : es.findIdx? fun e => knd.is k e.key with
  | some i =>
    have q2 := ix ▸ q
    have any := any_of_findIdx_some q2
    have ql : (es.toList.findIdx? fun e => knd.is k e.key) = some i := (hp.findIdx k).trans q2
    have pm := hp.modify hn ql v
    have e1 : stored kvs k v = kvs.map fun kv => if kv.1 = k then (kv.1, v) else kv := if_pos any
    refine wpAny_updateDict ho hd (kq _ ⟨_, _, ep, Heap.get?_update_self _ ho (Obj.isFreed_of_dict (Obj.data_mapDict hd _)), hc.mapDict _, Obj.data_mapDict hd _, hk.modify _ _, ?_, ?_⟩ (Heap.SameBut.update ..))
    · rw [e1]; obtain ⟨l⟩ := es; simpa using pm
    · rw [e1, keys_map_store]; exact hn
  | none =>
    have q2 := ix ▸ q
    have no := not_mem_of_findIdx_none q2
    have na : ¬ (kvs.any fun kv => decide (kv.1 = k)) = true := fun h => by
      obtain ⟨kv, h1, h2⟩ := List.any_eq_true.mp h
      exact no (List.mem_map.mpr ⟨kv, h1, of_decide_eq_true h2⟩)
    have e1 : stored kvs k v = kvs ++ [(k, v)] := if_neg na
    have pa := hp.append hkey (knd.hash k) v
    refine wpAny_updateDictKeys (hz := by rw [← len] at hz; simpa using hz) ho hd (kq _ ⟨_, _, ep + 1, Heap.get?_update_self _ ho (Obj.isFreed_of_dict (Obj.data_mapDictKeys hd _)), hc.mapDictKeys _, Obj.data_mapDictKeys hd _, hk.push hkey _, ?_, ?_⟩ (Heap.SameBut.update ..))
    · rw [e1]; obtain ⟨l⟩ := es; simpa using pa
    · rw [e1, List.map_append]
      refine List.nodup_append.mpr ⟨hn, by simp, fun x hx y hy => ?_⟩
      have hy : y = k := by simpa using hy
      subst hy
      exact fun z => no (z ▸ hx)
theorem merge_plain {d a : Addr} {kvs more : List (K × Value)} {Q : Unit → Shared → Prop} (ne : d ≠ a) (ns : (a == sysModules) = false) (hd : s.heap.DictOf knd d kvs) (ha : s.heap.DictOf knd a more) (hz : kvs.length + more.length ≤ sizeLine)
    (kq : ∀ h', h'.DictOf knd d (merged kvs more) → Heap.SameBut d s.heap h' → Q () { s with heap := h' }) : wpAny (model prog w) A (mergeMapping d (.ref a) false) Q E s := by
  obtain ⟨od, esd, epd, d1, d2, d3, d4, d5, d6⟩ := id hd
  obtain ⟨oa, esa, epa, a1, a2, a3, a4, a5, a6⟩ := id ha
  have len : more.length = esa.size := by rw [← a5.length]; simp
  unfold mergeMapping
  refine wpAny_bind (wpAny_isInstance ha.typeIs isSubtype_dict_dict ?_)
  dsimp only
  rw [if_pos rfl]
  refine wpAny_bind (wpAny_specialOf ha.typeIs F.slot_dict_iter.lookup ?_)
  refine wpAny_bind (wpAny_pure ?_)
  rw [beq_self_eq_true]
  dsimp only
  rw [if_neg (by rw [ns]; exact Bool.false_ne_true)]
  refine wpAny_bind (wpAny_dictEntries d1 d3 ?_)
  split
  refine wpAny_bind (wpAny_dictEntries a1 a3 (wpAny_bind (wpAny_of_eq (a := PUnit.unit) ?_ ?_)))
  · rw [← Array.forIn_toList]
    refine forIn_yield_id _ fun e he c => ?_
    obtain ⟨k, hk, _⟩ := a4 e (Array.mem_toList_iff.mp he)
    have bv := knd.byValue k _ hk
    cases q : e.key <;> first | rfl | (rw [q] at bv; cases bv)
  all_goals
    refine wpAny_bind (wpAny_dictEntries a1 a3 (wpAny_bind (wpAny_dictEpoch a1 a3 (wpAny_bind ?_))))
    refine wpAny_forIn_list _ (fun rest _ s' => ∃ h' i, s' = { s with heap := h' } ∧ rest = (List.range esa.size).drop i ∧ i ≤ esa.size ∧ h'.DictOf knd d (merged kvs (more.take i)) ∧ Heap.SameBut d s.heap h') _ ?_ ?_ _ _ ⟨s.heap, 0, rfl, rfl, Nat.zero_le _, hd, Heap.SameBut.refl _ _⟩
    · rintro x rest b s' ⟨h', i, rfl, hr, hi, hd', hs'⟩
      have lt : i < esa.size := by
        rcases Nat.lt_or_ge i esa.size with h | h
        · exact h
        · rw [List.drop_of_length_le (by rw [List.length_range]; exact h)] at hr; cases hr
      rw [List.drop_eq_getElem_cons (by rw [List.length_range]; exact lt), List.getElem_range] at hr
      injection hr with hx hrest
      subst hx
      have a1' : h'.get? a = some oa := (hs'.2 a ne.symm).trans a1
      refine wpAny_bind (wpAny_dictEntries a1' a3 ?_)
      rw [Array.getElem?_eq_getElem lt]
      have lt2 : x < more.length := by rw [len]; exact lt
      have hkv : more[x]? = some more[x] := List.getElem?_eq_getElem lt2
      obtain ⟨h1, h2⟩ := a5.get? (e := esa[x]) (by simp [lt]) hkv
      obtain ⟨k', h3, h4⟩ := a4 esa[x] (Array.getElem_mem lt)
      have ek : k' = more[x].1 := knd.inj _ _ _ h3 h1
      subst ek
      have lm : (merged kvs (more.take x)).length ≤ sizeLine := by
        have q1 := merged_length_le kvs (more.take x)
        have q2 : (more.take x).length ≤ more.length := by rw [List.length_take]; omega
        omega
      dsimp only
      rw [if_neg Bool.false_ne_true, h4, h2]
      refine wpAny_bind (wpAny_holding (put_pairs h3 hd' lm fun h2 hd2 hs2 => ?_))
      have a2' : h2.get? a = some oa := (hs2.2 a ne.symm).trans a1'
      refine wpAny_bind (wpAny_dictEpoch a2' a3 ?_)
      rw [if_neg (by simp)]
      refine wpAny_pure ⟨h2, x + 1, rfl, hrest, lt, ?_, hs'.trans hs2⟩
      rw [merged_take_succ kvs more x _ hkv]
      exact hd2
    · rintro b s' ⟨h', i, rfl, hr, hi, hd', hs'⟩
      have ei : i = esa.size := by
        rcases Nat.lt_or_ge i esa.size with h | h
        · rw [List.drop_eq_getElem_cons (by rw [List.length_range]; exact h)] at hr; cases hr
        · omega
      rw [ei, ← len, List.take_length] at hd'
      exact wpAny_pure (kq h' hd' hs')
end
end DL

namespace DL
open PySem L2 PyProof.Rows PySem.Spec
section
variable {X : Cx} {an : An} {dr : Option Dr} {ρ : Rho} {om : Om} {e a b k v : Expr} {es : List Expr} {pos p p2 pos2 : Pos} {Q : R → Om → Prop}
theorem d_merge {pins : List (Addr × Obj)} {σ : L2.St} {H : Hp} {s : Shared} {d c : Addr} {ks ls : List (Key × V)} {Z : Unit → Shared → Prop} {E : Value → Shared → Prop} (I : Inv X pins σ H s) (e : H d = some (.dK ks)) (r : Rd H c (.dK ls)) (ne : d ≠ c) (hz : ks.length + ls.length ≤ sizeLine)
    (kk : ∀ s', Inv X pins σ (upd H d (.dK (mergeK ks ls))) s' → Z () s') : wpAny (model X.prog X.w) X.A (mergeMapping d (.ref c) false) Z E s := by
  obtain ⟨z1, n1, vs, r1, dd⟩ := dk_of I.hok e
  obtain ⟨z2, n2, ws, r2, dc⟩ := dk_rd I.hok r
  have l1 := r1.length
  have l2 := r2.length
  refine merge_plain ne n2 dd dc (by rw [← l1, ← l2]; exact hz) fun h' dd' hs => kk _ ?_
  have he : ∃ q, h'.get? d = some q := by obtain ⟨q, _, _, hq, _⟩ := id dd'; exact ⟨q, hq⟩
  have hl : (mergeK ks ls).length ≤ sizeLine := by have := length_mergeK ls ks; omega
  exact d_write (t' := s.toks) I (by rw [e]; exact True.intro) hs he (dk_new hl n1 (KV.merge r2 r1) dd')
def tDD2 (ta tb : TE) : TE := fun σ H Q => ∀ d, H d = none → ta σ (upd H d (.dK [])) fun x H1 => ∃ c ls, x = .ref c ∧ Rd H1 c (.dK ls) ∧ d ≠ c ∧ H1 d = some (.dK []) ∧ ls.length ≤ sizeLine ∧
  tb σ (upd H1 d (.dK (mergeK [] ls))) fun y H2 => ∃ c2 ms ks, y = .ref c2 ∧ Rd H2 c2 (.dK ms) ∧ d ≠ c2 ∧ H2 d = some (.dK ks) ∧ ks.length + ms.length ≤ sizeLine ∧ Q (.ref d) (upd H2 d (.dK (mergeK ks ms)))
theorem pe_dd2 {ta tb : TE} (ha : PE X a ta) (hb : PE X b tb) : PE X (.Dict [none, none] [a, b] pos) (tDD2 ta tb) := by
  constructor
  intro pins s σ H Z I h
  rw [arm_eval_Dict]
  refine wpAny_bind (wpAny_standAt ?_)
  have hn := I.hok.fresh (Nat.le_refl s.heap.objs.size)
  have I1 := I.laid (a := s.heap.objs.size) (o := .dK []) (h' := s.heap.push { cls := .type "dict", data := .dict #[] }) (t' := s.toks) (fun _ _ q => Heap.get?_push_of_some _ q) (Nat.le_refl _) (dk_empty s.heap I.big)
  have h := h _ hn
  show wpAny _ _ (dictDisplay [(none, _), (none, _)]) _ _ _
  unfold dictDisplay
  refine wpAny_bind ?_
  simp only [List.forIn_cons, List.forIn_nil, List.isEmpty_nil, if_true, pure_bind]
  refine wpAny_bind (wpAny_bind (wpAny_alloc (wpAny_bind (wpAny_holding (wpAny_bind (thn (ha.run pins _ σ _ _ I1 h) ?_))))))
  rintro u s1 ⟨x, H1, I2, rx, c, ls, rfl, rd, ne, hd, hz, h⟩
  cases rx
  refine wpAny_bind (wpAny_standAt (wpAny_pure ?_))
  refine wpAny_bind (wpAny_onRaise (wpAny_tryCatch (wpAny_onRaise (wpAny_holding (d_merge I2 hd rd ne (by simpa using hz) fun s2 I3 => ?_)))))
  refine wpAny_pure (wpAny_bind (wpAny_bind ?_))
  simp only [List.isEmpty_nil, if_true]
  refine wpAny_pure (wpAny_bind (wpAny_holding (wpAny_bind (thn (hb.run pins _ σ _ _ I3 h) ?_))))
  rintro u s3 ⟨x, H2, I4, rx, c2, ms, ks, rfl, rd2, ne2, hd2, hz2, h⟩
  cases rx
  refine wpAny_bind (wpAny_standAt (wpAny_pure ?_))
  refine wpAny_bind (wpAny_onRaise (wpAny_tryCatch (wpAny_onRaise (wpAny_holding (d_merge I4 hd2 rd2 ne2 hz2 fun s4 I5 => ?_)))))
  refine wpAny_pure (wpAny_pure (wpAny_bind ?_))
  simp only [List.isEmpty_nil, if_true]
  exact wpAny_pure (wpAny_pure ⟨.ref s.heap.objs.size, _, I5, rfl, h⟩)
/-- {**a, k: v}: the second dict, of the pair, is thrown away -/
def tDDk (ta tk tv : TE) : TE := fun σ H Q => ∀ d, H d = none → ta σ (upd H d (.dK [])) fun x H1 => ∃ c ls, x = .ref c ∧ Rd H1 c (.dK ls) ∧ d ≠ c ∧ H1 d = some (.dK []) ∧ ls.length ≤ sizeLine ∧
  ∀ d2, upd H1 d (.dK (mergeK [] ls)) d2 = none → tk σ (upd (upd H1 d (.dK (mergeK [] ls))) d2 (.dK [])) fun y H2 => tv σ H2 fun z H3 => ∃ key ks, y = kV key ∧ H3 d2 = some (.dK []) ∧ H3 d = some (.dK ks) ∧ ks.length < sizeLine ∧
    Q (.ref d) (upd (upd H3 d2 (.dK [(key, z)])) d (.dK (putK ks key z)))
theorem pe_ddk {ta tk tv : TE} (ha : PE X a ta) (hk : PE X k tk) (hv : PE X v tv) : PE X (.Dict [none, some k] [a, v] pos) (tDDk ta tk tv) := by
  constructor
  intro pins s σ H Z I h
  rw [arm_eval_Dict]
  refine wpAny_bind (wpAny_standAt ?_)
  have hn := I.hok.fresh (Nat.le_refl s.heap.objs.size)
  have I1 := I.laid (a := s.heap.objs.size) (o := .dK []) (h' := s.heap.push { cls := .type "dict", data := .dict #[] }) (t' := s.toks) (fun _ _ q => Heap.get?_push_of_some _ q) (Nat.le_refl _) (dk_empty s.heap I.big)
  have h := h _ hn
  show wpAny _ _ (dictDisplay [(none, _), (some _, _)]) _ _ _
  unfold dictDisplay
  refine wpAny_bind ?_
  simp only [List.forIn_cons, List.forIn_nil, List.isEmpty_nil, if_true, pure_bind]
  refine wpAny_bind (wpAny_bind (wpAny_alloc (wpAny_bind (wpAny_holding (wpAny_bind (thn (ha.run pins _ σ _ _ I1 h) ?_))))))
  rintro u s1 ⟨x, H1, I2, rx, c, ls, rfl, rd, ne, hd, hz, h⟩
  cases rx
  refine wpAny_bind (wpAny_standAt (wpAny_pure ?_))
  refine wpAny_bind (wpAny_onRaise (wpAny_tryCatch (wpAny_onRaise (wpAny_holding (d_merge I2 hd rd ne (by simpa using hz) fun s2 I3 => ?_)))))
  refine wpAny_pure (wpAny_bind ?_)
  simp only [List.nil_append, List.length_cons, List.length_nil]
  rw [if_neg (by decide)]
  refine wpAny_pure (wpAny_pure (wpAny_bind ?_))
  simp only [List.isEmpty_cons, Bool.false_eq_true, if_false]
  have hn2 := I3.hok.fresh (Nat.le_refl s2.heap.objs.size)
  have I4 := I3.laid (a := s2.heap.objs.size) (o := .dK []) (h' := s2.heap.push { cls := .type "dict", data := .dict #[] }) (t' := s2.toks) (fun _ _ q => Heap.get?_push_of_some _ q) (Nat.le_refl _) (dk_empty s2.heap I3.big)
  refine wpAny_bind (wpAny_holding (wpAny_subDict (knd := mixKind X.prog X.w) (show 1 ≤ 15 from by decide) (evalPairs_cons (thn (hk.run pins _ σ _ _ I4 (h _ hn2)) ?_))))
  rintro ku s3 ⟨y, H2, I5, ry, h⟩
  refine wpAny_bind (thn (hv.run pins _ σ _ _ I5 h) ?_)
  rintro vu s4 ⟨z, H3, I6, rz, key, ks, rfl, hd2, hd3, hz3, h⟩
  refine wpAny_bind (wpAny_standAt (wpAny_pure (evalPairs_nil ?_)))
  obtain ⟨_, nd2, vs0, r0, dd2⟩ := dk_of I6.hok hd2
  cases r0
  refine ⟨[(key, vu)], ⟨key_rel ry, rfl, trivial⟩, dd2, fun h' dd' hs => ?_⟩
  have he : ∃ q, h'.get? s2.heap.objs.size = some q := by obtain ⟨q, _, _, hq, _⟩ := id dd'; exact ⟨q, hq⟩
  have I7 : Inv X pins σ (upd H3 s2.heap.objs.size (.dK [(key, z)])) { s4 with heap := h', toks := s4.toks + [(ku, vu)].length } := d_write I6 (by rw [hd2]; exact True.intro) hs he (dk_new (kvs := [(key, z)]) (by show 1 ≤ sizeLine; decide) nd2 (show KV [(key, z)] (merged [] [(key, vu)]) from .cons ⟨rfl, rz⟩ .nil) dd')
  have ned : s.heap.objs.size ≠ s2.heap.objs.size := fun q => by rw [← q, upd_same] at hn2; cases hn2
  refine wpAny_bind (wpAny_onRaise (wpAny_holding (d_merge (ks := ks) (ls := [(key, z)]) I7 (by rw [upd_ne ned]; exact hd3) (.inl upd_same) ned hz3 fun s5 I8 => ?_)))
  exact wpAny_pure (wpAny_pure ⟨.ref s.heap.objs.size, _, I8, rfl, h⟩)
end
end DL

/-! repr of data, dicts among it -/
namespace DL
open PySem L2 PySem.Spec
def keyP : Key → PyData
  | .inl i => .int i
  | .inr x => .str x
mutual
def toU : D → PyData
  | .non => .none
  | .bl b => .bool b
  | .int i => .int i
  | .str x => .str x
  | .lst xs => .list (toUs xs)
  | .tup xs => .tuple (toUs xs)
  | .dic kvs => .dict (toUk kvs)
  | _ => .none
def toUs : List D → List PyData
  | [] => []
  | d :: ds => toU d :: toUs ds
def toUk : List (Key × D) → List (PyData × PyData)
  | [] => []
  | (k, d) :: r => (keyP k, toU d) :: toUk r
end
mutual
/-- data that repr can show -/
def okU : D → Bool
  | .non => true
  | .bl _ => true
  | .int _ => true
  | .str _ => true
  | .lst xs => okUs xs
  | .tup xs => okUs xs
  | .dic kvs => okUk kvs
  | _ => false
def okUs : List D → Bool
  | [] => true
  | d :: ds => okU d && okUs ds
def okUk : List (Key × D) → Bool
  | [] => true
  | (_, d) :: r => okU d && okUk r
end
theorem okUk_vals : ∀ kvs : List (Key × D), okUk kvs = okUs (kvs.map (·.2))
  | [] => by simp [okUk, okUs]
  | (k, d) :: r => by simp [okUk, okUs, okUk_vals r]
theorem toUk_vals : ∀ kvs : List (Key × D), (toUk kvs).map (·.2) = toUs (kvs.map (·.2))
  | [] => by simp [toUk, toUs]
  | (k, d) :: r => by simp [toUk, toUs, toUk_vals r]
theorem toUk_keys : ∀ kvs : List (Key × D), (toUk kvs).map (·.1) = kvs.map fun kv => keyP kv.1
  | [] => by simp [toUk]
  | (k, d) :: r => by simp [toUk, toUk_keys r]
theorem reads_keys {h : Heap} {P : Program} {w : World} : ∀ {es : List DictEntry} {vs : List (Key × Value)}, Pairs (mixKind P w) es vs → ReadsAll h (es.map (·.key)) (vs.map fun kv => keyP kv.1) []
  | _, _, .nil => .nil
  | _, _, .cons (kv := kv) h1 h2 t => by
    have h1 : keyIs kv.1 _ = true := h1
    rcases keyIs_shape h1 with ⟨i, tk, e1, e2⟩ | ⟨x, tk, e1, e2⟩
    · rw [List.map_cons, List.map_cons, e1, e2]
      exact ReadsAll.cons (as := []) (bs := []) (.int _ _) (reads_keys t)
    · rw [List.map_cons, List.map_cons, e1, e2]
      exact ReadsAll.cons (as := []) (bs := []) (.str _ _) (reads_keys t)
theorem pairs_vals {P : Program} {w : World} : ∀ {es : List DictEntry} {vs : List (Key × Value)}, Pairs (mixKind P w) es vs → es.map (·.val) = vs.map (·.2)
  | _, _, .nil => rfl
  | _, _, .cons h1 h2 t => by rw [List.map_cons, List.map_cons, pairs_vals t, h2]
theorem kv_vals : ∀ {kvs : List (Key × V)} {vs : List (Key × Value)}, KV kvs vs → Vals (kvs.map (·.2)) (vs.map (·.2)) ∧ kvs.map (·.1) = vs.map (·.1)
  | _, _, .nil => ⟨.nil, rfl⟩
  | _, _, .cons h t => ⟨.cons h.2 (kv_vals t).1, by rw [List.map_cons, List.map_cons, h.1, (kv_vals t).2]⟩
section
variable {X : Cx} {pins : List (Addr × Obj)} {σ : L2.St} {H G : Hp} {s : Shared}
theorem not_sys (I : Inv X pins σ H s) (hs : ∃ o, X.base.get? sysModules = some o) {a : Addr} {u : HO} (h : H a = some u) : a ≠ sysModules := by
  obtain ⟨o, ho⟩ := hs
  intro e
  rw [e, (I.bs _ _ ho).2] at h
  cases h
/-- a dict is read, its values being read -/
theorem reads_dict (I : Inv X pins σ H s) {a : Addr} {kvs : List (Key × V)} {kds : List (Key × D)} (hk : kvs.map (·.1) = kds.map (·.1)) (r : Rd H a (.dK kvs)) (vals : ∀ us, Vals (kvs.map (·.2)) us → ∃ as, ReadsAll s.heap us (toUs (kds.map (·.2))) as ∧ sysModules ∉ as) : ∃ as, Reads s.heap (.ref a) (toU (.dic kds)) as ∧ sysModules ∉ as := by
  obtain ⟨z, ns, vs, rel, o, es, ep, h1, h2, h3, h4, h5, h6⟩ := dk_rd I.hok r
  obtain ⟨r1, r2⟩ := kv_vals rel
  obtain ⟨bs, rb, nb⟩ := vals _ r1
  refine ⟨a :: [] ++ bs, ?_, ?_⟩
  · have e : toU (.dic kds) = .dict (toUk kds) := by simp [toU]
    rw [e]
    refine Reads.dict h1 h2.1 h3 ?_ ?_
    · have := reads_keys (h := s.heap) h5
      have e2 : (vs.map fun kv => keyP kv.1) = (kds.map fun kv => keyP kv.1) := by
        have := hk.symm.trans r2
        have e3 : (vs.map (·.1)).map keyP = (kds.map (·.1)).map keyP := by rw [this]
        rw [List.map_map, List.map_map] at e3
        exact e3
      rw [toUk_keys, ← e2]
      exact this
    · rw [toUk_vals, pairs_vals h5]
      exact rb
  · have na : a ≠ sysModules := by simpa using ns
    intro hm
    simp only [List.cons_append, List.nil_append, List.mem_cons] at hm
    rcases hm with e | e
    · exact na e.symm
    · exact nb e
mutual
theorem Is.reads (I : Inv X pins σ H s) (hs : ∃ o, X.base.get? sysModules = some o) (ex : Ex G H) : ∀ {v : V} {d : D} {u : Value}, Is X.K G v d → okU d = true → RelV v u → ∃ as, Reads s.heap u (toU d) as ∧ sysModules ∉ as
  | _, _, _, .non, _, r => by cases r; exact ⟨_, by simp only [toU]; exact Reads.none, by simp⟩
  | _, _, _, .bl b, _, r => by cases r; exact ⟨_, by simp only [toU]; exact Reads.bool b, by simp⟩
  | _, _, _, .int i, _, r => by obtain ⟨t, rfl⟩ := r; exact ⟨_, by simp only [toU]; exact Reads.int i t, by simp⟩
  | _, _, _, .str x, _, r => by obtain ⟨t, rfl⟩ := r; exact ⟨_, by simp only [toU]; exact Reads.str x t, by simp⟩
  | _, _, _, .ty n, c, r => by simp [okU] at c
  | _, _, _, .lst (a := a) h q, c, r => by
    cases r
    have h' := ex _ _ h
    obtain ⟨its, rv, ⟨o, n, ho, hc, _, hd⟩, _⟩ := I.list (.inl (.inl h'))
    obtain ⟨as, hr, nr⟩ := IsL.reads I hs ex q (by simpa only [okU] using c) rv
    refine ⟨a :: as, by simp only [toU]; exact Reads.list ho hc hd (by simpa using hr), fun hm => ?_⟩
    rcases List.mem_cons.mp hm with e | e
    · exact not_sys I hs h' e.symm
    · exact nr e
  | _, _, _, .tup h q, c, r => by
    cases r
    obtain ⟨its, rv, ⟨o, ho, hc, n, hd⟩, _⟩ := I.tuple (.inl (.inl (ex _ _ h)))
    obtain ⟨as, hr, nr⟩ := IsL.reads I hs ex q (by simpa only [okU] using c) rv
    exact ⟨as, by simp only [toU]; exact Reads.tuple ho hc hd (by simpa using hr), nr⟩
  | _, _, _, .dic h q, c, r => by
    cases r
    exact reads_dict I q.keys (.inr ⟨_, ex _ _ h⟩) fun us ru => IsD.reads I hs ex q (by rw [← okUk_vals]; simpa only [okU] using c) ru
  | _, _, _, .dit h q, c, r => by simp [okU] at c
  | _, _, _, .ins h q, c, r => by simp [okU] at c
  | _, _, _, .obj a, c, r => by simp [okU] at c
theorem IsL.reads (I : Inv X pins σ H s) (hs : ∃ o, X.base.get? sysModules = some o) (ex : Ex G H) : ∀ {v : List V} {d : List D} {u : List Value}, IsL X.K G v d → okUs d = true → Vals v u → ∃ as, ReadsAll s.heap u (toUs d) as ∧ sysModules ∉ as
  | _, _, _, .nil, _, r => by cases r; exact ⟨[], by simp only [toUs]; exact ReadsAll.nil, by simp⟩
  | _, _, _, .cons h q, c, r => by
    cases r with
    | cons r1 r2 =>
      simp only [okUs, Bool.and_eq_true] at c
      obtain ⟨as, h1, n1⟩ := Is.reads I hs ex h c.1 r1
      obtain ⟨bs, h2, n2⟩ := IsL.reads I hs ex q c.2 r2
      exact ⟨as ++ bs, by simp only [toUs]; exact ReadsAll.cons h1 h2, fun hm => (List.mem_append.mp hm).elim n1 n2⟩
theorem IsD.reads (I : Inv X pins σ H s) (hs : ∃ o, X.base.get? sysModules = some o) (ex : Ex G H) : ∀ {κ : Type} {v : List (κ × V)} {d : List (κ × D)} {u : List Value}, IsD X.K G v d → okUs (d.map (·.2)) = true → Vals (v.map (·.2)) u → ∃ as, ReadsAll s.heap u (toUs (d.map (·.2))) as ∧ sysModules ∉ as
  | _, _, _, _, .nil, _, r => by cases r; exact ⟨[], by simp only [List.map_nil, toUs]; exact ReadsAll.nil, by simp⟩
  | _, _, _, _, .cons h q, c, r => by
    cases r with
    | cons r1 r2 =>
      simp only [List.map_cons, okUs, Bool.and_eq_true] at c
      obtain ⟨as, h1, n1⟩ := Is.reads I hs ex h c.1 r1
      obtain ⟨bs, h2, n2⟩ := IsD.reads I hs ex q c.2 r2
      exact ⟨as ++ bs, by simp only [List.map_cons, toUs]; exact ReadsAll.cons h1 h2, fun hm => (List.mem_append.mp hm).elim n1 n2⟩
end
end
def shU (d : D) : Str := (toU d).shown
def rprU : Wp := fun ds K => match ds with
  | [d] => okU d = true ∧ (toU d).showable = true ∧ (toU d).depth ≤ 64 ∧ (shU d).length ≤ sizeLine ∧ K (.str (shU d))
  | _ => False
theorem rprU_mono : ∀ ds Q Q', (∀ d, Q d → Q' d) → rprU ds Q → rprU ds Q' := fun ds Q Q' i h => by
  unfold rprU at h ⊢
  split at h
  · exact ⟨h.1, h.2.1, h.2.2.1, h.2.2.2.1, i _ h.2.2.2.2⟩
  · exact h.elim
section
variable {X : Cx}
theorem vw_reads {pins : List (Addr × Obj)} {σ : L2.St} {s : Shared} {an : An} {dr : Option Dr} {om : Om} {τ : List Addr} {G H : Hp} {v : V} {r : R} {u : Value} {d : D} (I : Inv X pins σ H s) (hs : ∃ o, X.base.get? sysModules = some o) (g : Good X.K an dr om τ G H) (h : IsR X.K G τ v r) (e : vw om r = d) (c : okU d = true) (ru : RelV v u) : ∃ as, Reads s.heap u (toU d) as ∧ sysModules ∉ as := by
  cases h with
  | v h => exact Is.reads I hs g.ex (e ▸ h) c ru
  | @o a k h =>
    have nd : d ≠ .dead := by rintro rfl; simp [okU] at c
    obtain ⟨o, ho, ce⟩ := vw_cell g h e nd
    cases d <;> first | (simp [okU] at c; done) | exact False.elim ce | skip
    · obtain ⟨vs, rfl, il⟩ := ce
      cases ru
      obtain ⟨its, rv, ⟨ob, n, hob, hc, _, hd⟩, _⟩ := I.list (.inl (.inl ho))
      obtain ⟨as, hr, nr⟩ := IsL.reads I hs g.ex il (by simpa only [okU] using c) rv
      refine ⟨a :: as, by simp only [toU]; exact Reads.list hob hc hd (by simpa using hr), fun hm => ?_⟩
      rcases List.mem_cons.mp hm with e | e
      · exact not_sys I hs ho e.symm
      · exact nr e
    · obtain ⟨vs, rfl, id⟩ := ce
      cases ru
      exact reads_dict I id.keys (.inl ho) fun us ru => IsD.reads I hs g.ex id (by rw [← okUk_vals]; simpa only [okU] using c) ru
theorem cb_reprU (hs : ∃ o, X.base.get? sysModules = some o) (gd : X.A.guards = some []) (hu : X.A.units + 66 < cLine) : CallR X (.builtin "repr") (rB X rprU) := by
  intro pins s σ H xs us Q I r h
  have h0 := h
  obtain ⟨an, dr, om, τ, G, rs, g, hp, h⟩ := h
  unfold rprU at h
  split at h
  · rename_i d e
    obtain ⟨v, r0, rfl, rfl, i, ev⟩ := one_arg hp e
    obtain ⟨h1, h2, h3, h4, h5⟩ := h
    obtain ⟨u, rfl, ru⟩ := vals1 r
    have fin : ∀ (h' : Heap) (t : Tok) (tk : Nat), (∀ b o, s.heap.get? b = some o → h'.get? b = some o) → EP X pins σ Q (.str (shU d) t) { s with heap := h', toks := tk } := fun h' t tk hk => ⟨.str (shU d), H, I.kept (t' := tk) hk, ⟨t, rfl⟩, h5.flat g (.str _)⟩
    by_cases rf : ∃ a, v = .ref a
    · obtain ⟨a, rfl⟩ := rf
      obtain ⟨as, rd, ns⟩ := vw_reads I hs g i ev h1 ru
      cases ru
      exact PySem.repr_of_reads' rd h2 (fun _ => ns) gd (by omega) (fun _ _ e => e) (fun h' t tk hk => fin h' t tk hk) h4
    · refine cb_repr gd hu pins s σ H _ _ Q I r ⟨an, dr, om, τ, G, _, g, hp, ?_⟩
      rw [e]
      have nm : canMut d = false ∨ ∃ xs, d = .lst xs ∨ ∃ kvs, d = .dic kvs := by
        cases d <;> first | exact .inl rfl | (simp [okU] at h1; done) | exact .inr ⟨_, .inl rfl⟩ | exact .inr ⟨[], .inr ⟨_, rfl⟩⟩
      cases d with
      | non => exact h5
      | bl b => cases b <;> exact h5
      | int z => exact ⟨by simpa [toU, PyData.showable] using h2, h5⟩
      | str z => exact ⟨h4, h5⟩
      | lst xs => obtain ⟨p, vs, e, _⟩ := vw_lst g i ev; exact absurd ⟨p, e⟩ rf
      | tup xs => obtain ⟨p, vs, e, _⟩ := vw_tup g i ev; exact absurd ⟨p, e⟩ rf
      | dic kvs => obtain ⟨p, vs, e, _⟩ := vw_dic g i ev; exact absurd ⟨p, e⟩ rf
      | _ => simp [okU] at h1
  · exact h.elim
end
end DL

namespace DL
open PySem L2
/-! ### plain texts: what a text computes, in plain words with what follows -/
structure Cl where
  Shape : Addr
  Book : Addr
  Area : Addr
  Keeper : Addr
  Desk : Addr
  err : Nat → Addr
def forS {σ : Type} : List D → σ → (D → σ → (σ → Prop) → Prop) → (σ → Prop) → Prop
  | [], s, _, K => K s
  | d :: ds, s, b, K => b d s fun s' => forS ds s' b K
def whileS {σ : Type} : Nat → σ → (σ → (Bool → Prop) → Prop) → (σ → (σ → Prop) → Prop) → (σ → Prop) → Prop
  | 0, _, _, _, _ => False
  | n + 1, s, c, b, K => c s fun t => if t = true then b s fun s' => whileS n s' c b K else K s
def loopS {σ : Type} (s : σ) (c : σ → (Bool → Prop) → Prop) (b : σ → (σ → Prop) → Prop) (K : σ → Prop) : Prop := ∃ n, whileS n s c b K
def ifS (C : (Bool → Prop) → Prop) (A B : Prop) : Prop := C fun t => if t = true then A else B
def letS {α : Type} (R : α → Prop) (F : (α → Prop) → Prop) : Prop := F R
def joinS (A : (D → Prop) → Prop) (K : D → Prop) : Prop := A K
def blS (d : D) (K : Bool → Prop) : Prop := match d with
  | .bl b => K b
  | _ => False
def intS (d : D) (K : Int → Prop) : Prop := match d with
  | .int b => K b
  | _ => False
def seqS (d : D) (K : List D → Prop) : Prop := match d with
  | .lst ds => K ds
  | .tup ds => K ds
  | _ => False
def unp2 (d : D) (K : D → D → Prop) : Prop := match d with
  | .tup [a, b] => K a b
  | .lst [a, b] => K a b
  | _ => False
def unp3 (d : D) (K : D → D → D → Prop) : Prop := match d with
  | .tup [a, b, c] => K a b c
  | .lst [a, b, c] => K a b c
  | _ => False
def takeS (d : D) (K : D → Prop) : Prop := ∃ n : Int, d = .int n ∧ (0 < n ∧ n < 2 ^ 64) ∧ ∀ k : Int, 0 ≤ k → k < n → K (.int k)
def getO (o : Option D) (K : D → Prop) : Prop := match o with
  | some d => K d
  | none => False
def oR : Option D → Option R
  | some d => some (.v d)
  | none => none
def rngS (d : D) (K : List D → Prop) : Prop := match d with
  | .int j => (-1000000 ≤ j ∧ j ≤ 1000000) ∧ K (rngD j.toNat)
  | _ => False
def enumS (d : D) (K : List D → Prop) : Prop := match d with
  | .lst ds => K (enumD ds)
  | .tup ds => K (enumD ds)
  | _ => False
def zipTS (a b : D) (K : List D → Prop) : Prop := match a, b with
  | .tup xs, .tup ys => xs.length ≤ sizeLine ∧ K (zipD xs ys)
  | _, _ => False
def zipLS (a b : D) (K : List D → Prop) : Prop := match a, b with
  | .lst xs, .lst ys => xs.length ≤ sizeLine ∧ K (zipD xs ys)
  | _, _ => False
def keysS (d : D) (K : List D → Prop) : Prop := match d with
  | .dic kds => kds.length ≤ sizeLine ∧ K (kds.map fun kv => keyDat kv.1)
  | _ => False
def itemsS (d : D) (K : List D → Prop) : Prop := match d with
  | .dic kds => kds.length ≤ sizeLine ∧ K (itemsD kds)
  | _ => False
def appS (l x : D) (K : D → Prop) : Prop := match l with
  | .lst ds => ds.length < sizeLine ∧ K (.lst (ds ++ [x]))
  | _ => False
/-- l.pop(i): the item, the list behind it -/
def popS (l i : D) (K : D → D → Prop) : Prop := match l, i with
  | .lst ds, .int j => 0 ≤ j ∧ ds.length ≤ 1000000 ∧ match ds[j.toNat]? with
    | some d => K d (.lst (ds.eraseIdx j.toNat))
    | none => False
  | _, _ => False
def joinF (z l : D) (K : D → Prop) : Prop := match z, l with
  | .str z, .lst xs => ∃ ys : List Str, xs = ys.map D.str ∧ (ys.map (·.length)).sum + ys.length * z.length ≤ 16777216 ∧ K (.str (Txt.join z ys))
  | _, _ => False
def dputS (l k v : D) (K : D → Prop) : Prop := match l, keyD k with
  | .dic kds, some key => kds.length < sizeLine ∧ K (.dic (putE kds key v))
  | _, _ => False
def dixS (l k : D) (K : D → Prop) : Prop := match l, keyD k with
  | .dic kds, some key => match valE kds key with
    | some d => K d
    | none => False
  | _, _ => False
def dinS (k l : D) (K : Bool → Prop) : Prop := match l, keyD k with
  | .dic kds, some key => K (valE kds key).isSome
  | _, _ => False
def lenU (d : D) (K : D → Prop) : Prop := match d with
  | .dic kds => K (.int (kds.length : Nat))
  | d => lenF [d] K
def ixU (x y : D) (K : D → Prop) : Prop := match x with
  | .dic kds => dixS (.dic kds) y K
  | x => ixD x y K
def cmpU (op : CmpOp) (x y : D) (K : Bool → Prop) : Prop := match op, y with
  | .In, .dic kds => dinS x (.dic kds) K
  | .NotIn, .dic kds => dinS x (.dic kds) fun b => K (!b)
  | op, y => cmpD op x y K
/-- an attribute of an instance -/
def fldS (C : Addr) (f : Str) (d : D) (K : D → Prop) : Prop := match d with
  | .ins B fds => B = C ∧ match fds.lookup f with
    | some v => K v
    | none => False
  | _ => False
/-- a method is called of an instance -/
def metS (C : Addr) (m : Str) (d : D) (K : Prop) : Prop := match d with
  | .ins B fds => B = C ∧ fds.lookup m = none ∧ K
  | _ => False
/-- self.f = v -/
def sfldS (C : Addr) (f : Str) (d v : D) (K : D → Prop) : Prop := match d with
  | .ins B fds => B = C ∧ fds.length < 1000 ∧ K (.ins C (putD f v fds))
  | _ => False
def isAnyData : D → Bool
  | .obj _ => false | .ty _ => false | .dead => false | .dit _ => false | .exc _ _ => false | .own _ => false | _ => true
/-- isinstance(x, C), C a class without heirs -/
def isCS (C : Addr) (d : D) (K : Bool → Prop) : Prop := match d with
  | .ins B _ => B = C ∧ K true
  | d => isAnyData d = true ∧ K false
def dictZipS (a b : D) (K : D → Prop) : Prop := seqS a fun xs => seqS b fun ys => ∃ ks : List Key, xs = ks.map keyDat ∧ ks.length ≤ 1000 ∧ K (.dic (mergeE [] (ks.zip ys)))
def dictPairsS (a : D) (K : D → Prop) : Prop := match a with
  | .lst xs => ∃ kds : List (Key × D), xs = (kds.map fun kv => D.tup [keyDat kv.1, kv.2]) ∧ kds.length ≤ 1000 ∧ K (.dic (mergeE [] kds))
  | _ => False
/-- a dict of not too many pairs -/
def dicS (d : D) (K : List (Key × D) → Prop) : Prop := match d with
  | .dic xs => xs.length ≤ 1000 ∧ K xs
  | _ => False
/-- a step of a dict comprehension -/
def dstepS (acc : List (Key × D)) (k v : D) (K : List (Key × D) → Prop) : Prop := match keyD k with
  | some key => K (putE acc key v)
  | none => False
/-- an error of the program -/
def isErr (nE : Nat) (c : Cl) (d : D) : Prop := ∃ n fds, n < nE ∧ d = .exc (c.err n) fds
/-- isinstance(x, the n-th class of errors), or their base -/
def isES (nE : Nat) (c : Cl) (n : Option Nat) (d : D) (K : Bool → Prop) : Prop := match d with
  | .non => K false
  | .exc C _ => ∃ m, m < nE ∧ C = c.err m ∧ K (match n with | some n => decide (m = n) | none => true)
  | _ => False
/-- the field of an error -/
def fldE (nE : Nat) (c : Cl) (f : Str) (d : D) (K : D → Prop) : Prop := match d with
  | .exc C [(g, v)] => g = f ∧ (∃ m, m < nE ∧ C = c.err m) ∧ K v
  | _ => False
def lenSetS (a : D) (K : D → Prop) : Prop := seqS a fun ds => ∃ xs : List Str, ds = xs.map D.str ∧ xs.length ≤ 1000 ∧ K (.int ((nubS xs).length : Nat))
end DL

namespace DL
open PySem PySem.Spec L2
/-! ### from plain words to the rules -/
theorem ifE2 {t : Bool} {A B A' B' : Prop} (h : if t = true then A else B) (i1 : A → A') (i2 : B → B') : if t = true then A' else B' := by
  cases t
  · exact i2 (by simpa using h)
  · exact i1 (by simpa using h)
theorem keyD_dat {d : D} {k : Key} (h : keyD d = some k) : d = keyDat k := by
  unfold keyD at h
  split at h <;> cases h <;> rfl
theorem dix_inv {l k : D} {K : D → Prop} (h : dixS l k K) : ∃ kds key d, l = .dic kds ∧ k = keyDat key ∧ valE kds key = some d ∧ K d := by
  unfold dixS at h
  split at h
  · rename_i kds key e1
    split at h
    · rename_i d e2
      exact ⟨_, _, _, rfl, keyD_dat e1, e2, h⟩
    · exact h.elim
  · exact h.elim
theorem din_inv {l k : D} {K : Bool → Prop} (h : dinS k l K) : ∃ kds key, l = .dic kds ∧ k = keyDat key ∧ K (valE kds key).isSome := by
  unfold dinS at h
  split at h
  · rename_i kds key e1
    exact ⟨_, _, rfl, keyD_dat e1, h⟩
  · exact h.elim
theorem keyD_keyDat (k : Key) : keyD (keyDat k) = some k := by cases k <;> rfl
theorem dix_mk {kds : List (Key × D)} {key : Key} {d : D} {K : D → Prop} (e : valE kds key = some d) (h : K d) : dixS (.dic kds) (keyDat key) K := by
  unfold dixS
  rw [keyD_keyDat]
  simp only [e]
  exact h
theorem din_mk {kds : List (Key × D)} {key : Key} {K : Bool → Prop} (h : K (valE kds key).isSome) : dinS (keyDat key) (.dic kds) K := by
  unfold dinS
  rw [keyD_keyDat]
  exact h
theorem ixU_imp {x y : D} {P P' : D → Prop} (h : ixU x y P) (i : ∀ d, P d → P' d) : ixU x y P' := by
  unfold ixU at h ⊢
  split at h
  · obtain ⟨kds, key, d, e, rfl, e2, q⟩ := dix_inv h
    cases e
    exact dix_mk e2 (i _ q)
  · exact ixD_imp h i
theorem cmpU_imp {op : CmpOp} {x y : D} {P P' : Bool → Prop} (h : cmpU op x y P) (i : ∀ d, P d → P' d) : cmpU op x y P' := by
  unfold cmpU at h ⊢
  split at h
  · obtain ⟨kds, key, e, rfl, q⟩ := din_inv h
    cases e
    exact din_mk (i _ q)
  · obtain ⟨kds, key, e, rfl, q⟩ := din_inv h
    cases e
    exact din_mk (i _ q)
  · exact cmpD_imp h i
theorem lenU_imp {x : D} {P P' : D → Prop} (h : lenU x P) (i : ∀ d, P d → P' d) : lenU x P' := by
  unfold lenU at h ⊢
  split at h
  · exact i _ h
  · exact lenF_mono _ _ _ i h
theorem seqS_inv {d : D} {K : List D → Prop} (h : seqS d K) : ∃ ds, (d = .lst ds ∨ d = .tup ds) ∧ K ds := by
  unfold seqS at h
  split at h
  · exact ⟨_, .inl rfl, h⟩
  · exact ⟨_, .inr rfl, h⟩
  · exact h.elim
theorem blS_link {d : D} {K : Bool → Prop} {T : Bool → Prop} (h : blS d K) (i : ∀ t, K t → T t) : blR (.v d) T := by
  unfold blS at h
  unfold blR
  split at h
  · exact i _ h
  · exact h.elim
theorem intS_link {d : D} {K : Int → Prop} {T : Int → Prop} (h : intS d K) (i : ∀ t, K t → T t) : intR (.v d) T := by
  unfold intS at h
  unfold intR
  split at h
  · exact i _ h
  · exact h.elim
theorem walkD_imp {d : D} {P P' : List D → Prop} (h : walkD d P) (i : ∀ ds, P ds → P' ds) : walkD d P' := by
  unfold walkD at h ⊢
  split at h
  · exact i _ h
  · exact i _ h
  · exact ⟨h.1, i _ h.2⟩
  · exact h.elim
section
variable {X : Cx} {an : An} {dr : Option Dr} {ρ : Rho} {om : Om} {e a b c o : Expr} {es : List Expr} {st : Stmt} {sts sts' : List Stmt} {pos p : Pos} {Q : R → Om → Prop} {T : Bool → Om → Prop} {E : Ed}
/-! comparing, dicts among it -/
def rCmpU (X : Cx) (op : CmpOp) : R2 := fun x y H Q => ∃ an dr om τ G ra rb, Good X.K an dr om τ G H ∧ IsR X.K G τ x ra ∧ IsR X.K G τ y rb ∧ cmpU op (vw om ra) (vw om rb) fun b => Q (.bl b) H
theorem op_cmpU {op : CmpOp} (hu : X.A.units + 65 < cLine) : OpR X (compareOp op) (rCmpU X op) := by
  intro pins s σ H x y v u Q I rx ry h
  obtain ⟨an, dr, om, τ, G, ra, rb, g, ha, hb, h⟩ := h
  unfold cmpU at h
  split at h
  · rename_i kds e
    obtain ⟨kds', key, e1, e2, q⟩ := din_inv h
    cases e1
    obtain ⟨p, kvs, rfl, hp, id⟩ := vw_dic g hb e
    obtain rfl : u = .ref p := ry
    have hx : x = kV key := keyDat_is (vw_not g ha e2 (by cases key <;> rfl))
    refine d_in (by omega) I (.inl ⟨kvs, key, hp, hx, rfl⟩) rx fun s3 I3 => ⟨.bl _, H, I3, rfl, ?_⟩
    rw [isD_valN id]
    exact q
  · rename_i kds e
    obtain ⟨kds', key, e1, e2, q⟩ := din_inv h
    cases e1
    obtain ⟨p, kvs, rfl, hp, id⟩ := vw_dic g hb e
    obtain rfl : u = .ref p := ry
    have hx : x = kV key := keyDat_is (vw_not g ha e2 (by cases key <;> rfl))
    refine d_notIn (by omega) I (.inl ⟨kvs, key, hp, hx, rfl⟩) rx fun s3 I3 => ⟨.bl _, H, I3, rfl, ?_⟩
    rw [isD_valN id]
    exact q
  · exact op_cmp hu pins s σ H x y v u Q I rx ry ⟨an, dr, om, τ, G, ra, rb, g, ha, hb, h⟩
theorem we_cmpU {op : CmpOp} (hu : X.A.units + 65 < cLine) (h : WE X an dr ρ om a fun ra om1 => WE X an dr ρ om1 b fun rb om2 => cmpU op (vw om2 ra) (vw om2 rb) fun t => Q (.v (.bl t)) om2) (hm : behindInMarks op b = false := by first | exact nobehind _ (by decide) (by decide) | rfl) :
    WE X an dr ρ om (.Compare a [op] [b] pos) Q :=
  peI (pe_cmpR (op_cmpU hu) (pe_u (an := an) (dr := dr)) (pe_u (an := an) (dr := dr)) hm) fun σ H K' ⟨τ, G, g, n, k⟩ =>
    uE_of h g n fun v r om1 τ1 G1 H1 h1 w g1 gr1 n1 => uE_of w g1 n1 fun v2 r2 om2 τ2 G2 H2 h2 q g2 gr2 n2 =>
      ⟨an, dr, om2, τ2, G2, r, r2, g2, h1.mono gr2, h2, cmpU_imp q fun t q => k _ _ om2 τ2 G2 H2 (.v (.bl t)) q g2 (gr1.trans gr2)⟩
theorem wt_cmpU {op : CmpOp} (hu : X.A.units + 65 < cLine) (h : WE X an dr ρ om a fun ra om1 => WE X an dr ρ om1 b fun rb om2 => cmpU op (vw om2 ra) (vw om2 rb) fun t => T t om2) (hm : behindInMarks op b = false := by first | exact nobehind _ (by decide) (by decide) | rfl) :
    WT X an dr ρ om (.Compare a [op] [b] pos) T :=
  ptI (pt_cmpR (op_cmpU hu) (pe_u (an := an) (dr := dr)) (pe_u (an := an) (dr := dr)) hm) fun σ H K' ⟨τ, G, g, n, k⟩ =>
    uE_of h g n fun v r om1 τ1 G1 H1 h1 w g1 gr1 n1 => uE_of w g1 n1 fun v2 r2 om2 τ2 G2 H2 h2 q g2 gr2 n2 =>
      ⟨an, dr, om2, τ2, G2, r, r2, g2, h1.mono gr2, h2, cmpU_imp q fun t q => ⟨t, rfl, k _ om2 τ2 G2 H2 q g2 (gr1.trans gr2)⟩⟩
/-! subscripts, dicts among it -/
def rIxU (X : Cx) : R2 := fun x y H Q => ∃ an dr om τ G ra rb, Good X.K an dr om τ G H ∧ IsR X.K G τ x ra ∧ IsR X.K G τ y rb ∧ ixU (vw om ra) (vw om rb) (Fin X.K an dr om τ G Q)
theorem ix_U (hu : X.A.units + 1 < cLine) : IxR X (rIxU X) := by
  intro ea eb pins s σ H x y v u Q I rx ry h hs
  obtain ⟨an, dr, om, τ, G, ra, rb, g, ha, hb, h⟩ := h
  unfold ixU at h
  split at h
  · rename_i kds e
    obtain ⟨kds', key, d, e1, e2, e3, q⟩ := dix_inv h
    cases e1
    obtain ⟨p, kvs, rfl, hp, id⟩ := vw_dic g ha e
    obtain rfl : v = .ref p := rx
    have hx : y = kV key := keyDat_is (vw_not g hb e2 (by cases key <;> rfl))
    obtain ⟨w, hw, iw⟩ := isD_valS id e3
    have dg : DGet H p y (some w) := .inl ⟨kvs, key, hp, hx, hw.symm⟩
    have hT := dict_typeIs I dg
    unfold PyProof.Rows.subscriptTail
    refine wpAny_bind ?_
    rw [getitemInPython_of_ne hT.not_modules]
    refine wpAny_bind (wpAny_specialOf hT PySem.F.slot_dict_getitem.lookup ?_)
    have h2 : wpAny (model X.prog X.w) X.A (getItem (.ref p) u) (EP X pins σ Q) X.xe s := d_getItem hu I dg ry fun w' s3 I3 rw' => ⟨w, H, I3, rw', q.flat g iw⟩
    have fin : wpAny (model X.prog X.w) X.A (subscripted eb false (.ref p) u) (fun r s₃ => wpAny (model X.prog X.w) X.A (letTemporaryGo ea (.ref p) r >>= fun _ => pure r) (EP X pins σ Q) X.xe s₃) X.xe s := by
      rw [hs]
      exact wpAny_operating (wpAny_mono h2 (fun r s₃ h₃ => wpAny_bind (wpAny_letTemporaryGo (wpAny_pure h₃))) fun _ _ x => x)
    first
      | exact wpAny_pure (wpAny_bind fin)
      | exact wpAny_bind (wpAny_pure (wpAny_bind fin))
      | exact wpAny_bind fin
  · exact ix_D ea eb pins s σ H x y v u Q I rx ry ⟨an, dr, om, τ, G, ra, rb, g, ha, hb, h⟩ hs
theorem we_ixU (hu : X.A.units + 65 < cLine) (h : WE X an dr ρ om a fun ra om1 => WE X an dr ρ om1 b fun rb om2 => ixU (vw om2 ra) (vw om2 rb) fun d => Q (.v d) om2) (hs : PlainIx b := by exact fun _ _ => rfl) : WE X an dr ρ om (.Subscript a b pos) Q :=
  peI (pe_ix (ix_U (by omega)) (pe_u (an := an) (dr := dr)) (pe_u (an := an) (dr := dr)) hs) fun σ H K' ⟨τ, G, g, n, k⟩ =>
    uE_of h g n fun v r om1 τ1 G1 H1 h1 w g1 gr1 n1 => uE_of w g1 n1 fun v2 r2 om2 τ2 G2 H2 h2 q g2 gr2 n2 =>
      ⟨an, dr, om2, τ2, G2, r, r2, g2, h1.mono gr2, h2, ixU_imp q fun d q v' G' H' i' g' gr' => k v' _ om2 τ2 G' H' (.v i') q g' ((gr1.trans gr2).trans gr')⟩
/-! len -/
def lenUF : Wp := fun ds K => match ds with
  | [d] => lenU d K
  | _ => False
theorem cb_lenU : CallR X (.builtin "len") (rB X lenUF) := by
  intro pins s σ H xs us Q I r h
  obtain ⟨an, dr, om, τ, G, rs, g, hp, h⟩ := h
  have h0 := h
  unfold lenUF at h
  split at h
  · rename_i d e
    rw [e] at h0
    unfold lenU at h
    split at h
    · rename_i kds
      exact cb_lenD pins s σ H xs us Q I r ⟨an, dr, om, τ, G, rs, g, hp, by rw [e]; exact h⟩
    · exact cb_len pins s σ H xs us Q I r ⟨an, dr, om, τ, G, rs, g, hp, by rw [e]; exact h⟩
  · exact h.elim
theorem lenUF_mono : ∀ ds Q Q', (∀ d, Q d → Q' d) → lenUF ds Q → lenUF ds Q' := fun ds Q Q' i h => by
  unfold lenUF at h ⊢
  split at h
  · exact lenU_imp h i
  · exact h.elim
/-! values and tests that are joined -/
theorem we_joinS {A : (D → Prop) → Prop} {KS : D → Prop} (hW : joinS A KS) (h : A KS → WE X an dr ρ om e fun r om' => ∃ d, r = .v d ∧ om' = om ∧ KS d) (k : ∀ d, KS d → Q (.v d) om) : WE X an dr ρ om e Q :=
  WE.imp (h hW) fun r om' ⟨d, h1, h2, h3⟩ => by subst h1 h2; exact k d h3
theorem ws_ifS {C : (Bool → Prop) → Prop} {A B : Prop} (hW : ifS C A B) (h : ∀ KS, C KS → WT X an dr ρ om c fun t om' => om' = om ∧ KS t) (ht : A → WSs X an dr ρ om sts E) (hf : B → WSs X an dr ρ om sts' E) : WS X an dr ρ om (.If c sts sts' pos) E :=
  ws_if (WT.imp (h _ hW) fun t om' ⟨e, q⟩ => by
    subst e
    cases t
    · simp only [Bool.false_eq_true, if_false] at q ⊢; exact hf q
    · simp only [if_true] at q ⊢; exact ht q)
theorem we_ifexpS {C : (Bool → Prop) → Prop} {A B : Prop} (hW : ifS C A B) (h : ∀ KS, C KS → WT X an dr ρ om c fun t om' => om' = om ∧ KS t) (ht : A → WE X an dr ρ om a Q) (hf : B → WE X an dr ρ om b Q) : WE X an dr ρ om (.IfExp c a b pos) Q :=
  we_ifexp (WT.imp (h _ hW) fun t om' ⟨e, q⟩ => by
    subst e
    cases t
    · simp only [Bool.false_eq_true, if_false] at q ⊢; exact hf q
    · simp only [if_true] at q ⊢; exact ht q)
/-- an if behind which it goes on by one way -/
theorem ws_ifJ {α : Type} {RS : α → Prop} {F : (α → Prop) → Prop} {A B : (α → Prop) → Prop} {C : (Bool → Prop) → Prop} (RR : α → Rho → Om → Prop) (hW : letS RS fun rest => ifS C (A rest) (B rest)) (h : ∀ KS, C KS → WT X an dr ρ om c fun t om' => om' = om ∧ KS t)
    (ht : ∀ rest, A rest → WSs X an dr ρ om sts { E with nx := fun ρ' om' => ∃ s, RR s ρ' om' ∧ rest s }) (hf : ∀ rest, B rest → WSs X an dr ρ om sts' { E with nx := fun ρ' om' => ∃ s, RR s ρ' om' ∧ rest s })
    (hr : ∀ s ρ' om', RS s → RR s ρ' om' → E.nx ρ' om') : WS X an dr ρ om (.If c sts sts' pos) E := by
  have hW : ifS C (A RS) (B RS) := hW
  exact ws_ifS hW h (fun q => (ht _ q).imp (fun ρ' om' ⟨s, r, q⟩ => hr s ρ' om' q r) (fun _ q => q) (fun _ _ q => q) fun _ _ q => q) (fun q => (hf _ q).imp (fun ρ' om' ⟨s, r, q⟩ => hr s ρ' om' q r) (fun _ q => q) (fun _ _ q => q) fun _ _ q => q)
/-! loops -/
theorem forS_at {σ : Type} {ds : List D} {i : Nat} {d : D} {s : σ} {b : D → σ → (σ → Prop) → Prop} {K : σ → Prop} (hd : ds[i]? = some d) (h : forS (ds.drop i) s b K) : b d s fun s' => forS (ds.drop (i + 1)) s' b K := by
  obtain ⟨hi, e⟩ := List.getElem?_eq_some_iff.mp hd
  rw [List.drop_eq_getElem_cons hi, e] at h
  exact h
theorem forS_end {σ : Type} {ds : List D} {s : σ} {b : D → σ → (σ → Prop) → Prop} {K : σ → Prop} (h : forS (ds.drop ds.length) s b K) : K s := by
  rw [List.drop_length] at h
  exact h
theorem for_link {σ : Type} {ds : List D} {s0 : σ} {b : D → σ → (σ → Prop) → Prop} {KS : σ → Prop} {f : TgF} {body : List Stmt} (R : σ → Rho → Om → Prop) (hW : forS ds s0 b KS) (h0 : R s0 ρ om)
    (hb : ∀ d s ρ' om' rest, b d s rest → R s ρ' om' → f d ρ' fun ρ2 => WSs X an dr ρ2 om' body { nx := fun ρ3 om3 => ∃ s', R s' ρ3 om3 ∧ rest s', rt := E.rt, bk := E.nx, ct := fun ρ3 om3 => ∃ s', R s' ρ3 om3 ∧ rest s' })
    (he : ∀ s ρ' om', KS s → R s ρ' om' → E.nx ρ' om') :
    ∃ P : Nat → Rho → Om → Prop, P 0 ρ om ∧ (∀ i d ρ' om', ρ'.length = ρ.length → ds[i]? = some d → P i ρ' om' → f d ρ' fun ρ2 => WSs X an dr ρ2 om' body { nx := P (i + 1), rt := E.rt, bk := E.nx, ct := P (i + 1) }) ∧ ∀ ρ' om', ρ'.length = ρ.length → P ds.length ρ' om' → E.nx ρ' om' :=
  ⟨fun i ρ om => ∃ s, R s ρ om ∧ forS (ds.drop i) s b KS, ⟨s0, h0, hW⟩, fun i d ρ' om' hl hd ⟨s, hR, q⟩ => hb d s ρ' om' _ (forS_at hd q) hR, fun ρ' om' hl ⟨s, hR, q⟩ => he s ρ' om' (forS_end q) hR⟩
theorem lc_link {ds : List D} {b : D → List D → (List D → Prop) → Prop} {KS : List D → Prop} {f : TgF} {scope : Scope} {ρw : Rho} {Z : List D → Prop} (hW : forS ds [] b KS)
    (hb : ∀ d acc rest, b d acc rest → f d ρw fun ρ2 => Elt X an dr scope e ρ2 om acc rest) (he : ∀ acc, KS acc → Z acc) :
    ∃ P : Nat → List D → Prop, P 0 [] ∧ (∀ i d acc, ds[i]? = some d → acc.length ≤ i → P i acc → f d ρw fun ρ2 => Elt X an dr scope e ρ2 om acc (P (i + 1))) ∧ ∀ acc, P ds.length acc → Z acc :=
  ⟨fun i acc => forS (ds.drop i) acc b KS, hW, fun i d acc hd _ q => hb d acc _ (forS_at hd q), fun acc q => he acc (forS_end q)⟩
theorem lcIf_link {ds : List D} {b : D → List D → (List D → Prop) → Prop} {KS : List D → Prop} {f : TgF} {scope : Scope} {ρw : Rho} {Z : List D → Prop} (hW : forS ds [] b KS)
    (hb : ∀ d acc rest, b d acc rest → f d ρw fun ρ2 => Tst X an dr scope c ρ2 om acc fun t => if t = true then Elt X an dr scope e ρ2 om acc rest else rest acc) (he : ∀ acc, KS acc → Z acc) :
    ∃ P : Nat → List D → Prop, P 0 [] ∧ (∀ i d acc, ds[i]? = some d → acc.length ≤ i → P i acc → f d ρw fun ρ2 => Tst X an dr scope c ρ2 om acc fun t => if t = true then Elt X an dr scope e ρ2 om acc (P (i + 1)) else P (i + 1) acc) ∧ ∀ acc, P ds.length acc → Z acc :=
  ⟨fun i acc => forS (ds.drop i) acc b KS, hW, fun i d acc hd _ q => hb d acc _ (forS_at hd q), fun acc q => he acc (forS_end q)⟩
/-- the test of a comprehension -/
theorem tst_link {C : (Bool → Prop) → Prop} {A B : Prop} {scope : Scope} {ρ2 : Rho} {acc : List D} {N : List D → Prop} (hW : ifS C A B) (h : ∀ KS, C KS → ∀ s H C' cl fp, WT (XB X scope s H C' cl fp) an dr ρ2 (om ++ [some (.lst acc)]) c fun t om' => om' = om ++ [some (.lst acc)] ∧ KS t)
    (ht : A → Elt X an dr scope e ρ2 om acc N) (hf : B → N acc) : Tst X an dr scope c ρ2 om acc fun t => if t = true then Elt X an dr scope e ρ2 om acc N else N acc :=
  fun s H C' cl fp => WT.imp (h _ hW s H C' cl fp) fun t om' ⟨h1, q⟩ => ⟨h1, ifE2 q ht hf⟩
theorem while_link {σ : Type} {s0 : σ} {cS : σ → (Bool → Prop) → Prop} {b : σ → (σ → Prop) → Prop} {KS : σ → Prop} (R : σ → Rho → Om → Prop) (hW : loopS s0 cS b KS) (h0 : R s0 ρ om)
    (hc : ∀ s ρ' om' K1, cS s K1 → R s ρ' om' → WT X an dr ρ' om' c fun t om1 => om1 = om' ∧ K1 t)
    (hb : ∀ s ρ' om' rest, b s rest → R s ρ' om' → WSs X an dr ρ' om' sts { nx := fun ρ3 om3 => ∃ s', R s' ρ3 om3 ∧ rest s', rt := E.rt, bk := E.nx, ct := fun ρ3 om3 => ∃ s', R s' ρ3 om3 ∧ rest s' })
    (he : ∀ s ρ' om', KS s → R s ρ' om' → E.nx ρ' om') (hp : PassesOwn (model X.prog X.w) X.A X.env X.xe) : WS X an dr ρ om (.While c sts [] pos) E := by
  obtain ⟨n, hn⟩ := hW
  refine ws_while (fun m ρ om => ∃ s, R s ρ om ∧ whileS m s cS b KS) n ⟨s0, h0, hn⟩ (fun m ρ' om' hl ⟨s, hR, q⟩ => ?_) hp
  cases m with
  | zero => exact q.elim
  | succ m =>
    refine WT.imp (hc s ρ' om' _ q hR) fun t om1 ⟨e, q⟩ => ?_
    subst e
    cases t
    · simp only [Bool.false_eq_true, if_false] at q ⊢
      exact he s ρ' _ q hR
    · simp only [if_true] at q ⊢
      exact (hb s ρ' _ _ q hR).imp (fun ρ3 om3 ⟨s', r, q⟩ => ⟨m, by omega, s', r, q⟩) (fun _ q => q) (fun _ _ q => q) (fun ρ3 om3 ⟨s', r, q⟩ => ⟨m, by omega, s', r, q⟩)
/-! targets -/
theorem fN_link {i : Nat} {d : D} {ρ : Rho} {P : Rho → Prop} (h : P (ρ.set i (some (.v d)))) : fN i d ρ P := h
theorem unp2_link {f1 f2 : TgF} {d : D} {ρ : Rho} {P : Rho → Prop} {K : D → D → Prop} (h : unp2 d K) (i : ∀ a b, K a b → f1 a ρ fun ρ1 => f2 b ρ1 P) : fT 2 (fCons f1 (fCons f2 fNil)) d ρ P := by
  unfold unp2 at h
  split at h
  · exact ⟨rfl, i _ _ h⟩
  · exact ⟨rfl, i _ _ h⟩
  · exact h.elim
theorem unp3_link {f1 f2 f3 : TgF} {d : D} {ρ : Rho} {P : Rho → Prop} {K : D → D → D → Prop} (h : unp3 d K) (i : ∀ a b c, K a b c → f1 a ρ fun ρ1 => f2 b ρ1 fun ρ2 => f3 c ρ2 P) : fT 3 (fCons f1 (fCons f2 (fCons f3 fNil))) d ρ P := by
  unfold unp3 at h
  split at h
  · exact ⟨rfl, i _ _ _ h⟩
  · exact ⟨rfl, i _ _ _ h⟩
  · exact h.elim
/-! iterables -/
theorem rng_link {d : D} {K K' : List D → Prop} (h : rngS d K) (i : ∀ ds, K ds → K' ds) : intR (.v d) fun j => (-1000000 ≤ j ∧ j ≤ 1000000) ∧ K' (rngD j.toNat) := by
  unfold rngS at h
  unfold intR
  split at h
  · exact ⟨h.1, i _ h.2⟩
  · exact h.elim
theorem enum_link {d : D} {om : Om} {r : R} {K : List D → Prop} {K' : List D → Om → Prop} (h : enumS d K) (i : ∀ ds, K ds → K' ds om) : retR om (.v d) fun d => ∃ ds, (d = .lst ds ∨ d = .tup ds) ∧ K' (enumD ds) (fzO om (.v d)) := by
  unfold enumS at h
  split at h
  · exact ⟨_, .inl rfl, i _ h⟩
  · exact ⟨_, .inr rfl, i _ h⟩
  · exact h.elim
theorem keys_link {d : D} {om : Om} {K : List D → Prop} {K' : List D → Om → Prop} (h : keysS d K) (i : ∀ ds, K ds → K' ds om) : ∃ kds, R.v d = .v (.dic kds) ∧ kds.length ≤ sizeLine ∧ K' (kds.map fun kv => keyDat kv.1) om := by
  unfold keysS at h
  split at h
  · exact ⟨_, rfl, h.1, i _ h.2⟩
  · exact h.elim
theorem items_link {d : D} {om : Om} {K : List D → Prop} {K' : List D → Om → Prop} (h : itemsS d K) (i : ∀ ds, K ds → K' ds om) : ∃ kds, R.v d = .v (.dic kds) ∧ kds.length ≤ sizeLine ∧ K' (itemsD kds) om := by
  unfold itemsS at h
  split at h
  · exact ⟨_, rfl, h.1, i _ h.2⟩
  · exact h.elim
theorem zipT_link {a b : D} {K : List D → Prop} {K' : List D → Prop} (h : zipTS a b K) (i : ∀ ds, K ds → K' ds) : ∃ xs ys, [a, b] = [.tup xs, .tup ys] ∧ xs.length ≤ sizeLine ∧ K' (zipD xs ys) := by
  unfold zipTS at h
  split at h
  · exact ⟨_, _, rfl, h.1, i _ h.2⟩
  · exact h.elim
theorem zipL_link {a b : D} {K : List D → Prop} {K' : List D → Prop} (h : zipLS a b K) (i : ∀ ds, K ds → K' ds) : ∃ xs ys, [a, b] = [.lst xs, .lst ys] ∧ xs.length ≤ sizeLine ∧ K' (zipD xs ys) := by
  unfold zipLS at h
  split at h
  · exact ⟨_, _, rfl, h.1, i _ h.2⟩
  · exact h.elim
/-! things of one's own -/
theorem app_inv {l x : D} {K : D → Prop} (h : appS l x K) : ∃ ds, l = .lst ds ∧ ds.length < sizeLine ∧ K (.lst (ds ++ [x])) := by
  unfold appS at h
  split at h
  · exact ⟨_, rfl, h⟩
  · exact h.elim
theorem pop_inv {l i : D} {K : D → D → Prop} (h : popS l i K) : ∃ (ds : List D) (j : Nat) (d : D), l = .lst ds ∧ i = .int (j : Nat) ∧ ds.length ≤ 1000000 ∧ ds[j]? = some d ∧ K d (.lst (ds.eraseIdx j)) := by
  unfold popS at h
  split at h
  · rename_i ds j
    obtain ⟨h0, hl, h⟩ := h
    obtain ⟨k, rfl⟩ := Int.eq_ofNat_of_zero_le h0
    split at h
    · rename_i d e
      exact ⟨_, k, d, rfl, rfl, hl, e, h⟩
    · exact h.elim
  · exact h.elim
theorem dput_inv {l k v : D} {K : D → Prop} (h : dputS l k v K) : ∃ kds key, l = .dic kds ∧ k = keyDat key ∧ kds.length < sizeLine ∧ K (.dic (putE kds key v)) := by
  unfold dputS at h
  split at h
  · rename_i kds key e
    exact ⟨_, _, rfl, keyD_dat e, h⟩
  · exact h.elim
theorem fld_link {C : Addr} {f : Str} {d : D} {om : Om} {K : D → Prop} {Z : D → Prop} (h : fldS C f d K) (i : ∀ v, K v → Z v) : ∃ fds v, vw om (.v d) = .ins C fds ∧ fds.lookup f = some v ∧ Z v := by
  unfold fldS at h
  split at h
  · obtain ⟨rfl, h⟩ := h
    split at h
    · rename_i v e
      exact ⟨_, v, rfl, e, i _ h⟩
    · exact h.elim
  · exact h.elim
theorem met_link {C : Addr} {m : Str} {d : D} {K : Prop} {Z : List (Str × D) → Prop} (h : metS C m d K) (i : ∀ fds, d = .ins C fds → K → Z fds) : ∃ fds, R.v d = .v (.ins C fds) ∧ fds.lookup m = none ∧ Z fds := by
  unfold metS at h
  split at h
  · obtain ⟨rfl, h1, h2⟩ := h
    exact ⟨_, rfl, h1, i _ rfl h2⟩
  · exact h.elim
theorem sfld_inv {C : Addr} {f : Str} {d v : D} {K : D → Prop} (h : sfldS C f d v K) : ∃ fds, d = .ins C fds ∧ fds.length < 1000 ∧ K (.ins C (putD f v fds)) := by
  unfold sfldS at h
  split at h
  · obtain ⟨rfl, h1, h2⟩ := h
    exact ⟨_, rfl, h1, h2⟩
  · exact h.elim
theorem take_link {x : Dr} {d : D} {K Z : D → Prop} (h : takeS d K) (i : ∀ v, K v → Z v) : W_take x [.obj x.d, d] Z := by
  obtain ⟨n, rfl, hb, h⟩ := h
  exact ⟨n, rfl, hb, fun k a b => i _ (h k a b)⟩
theorem join_link {z d : D} {om : Om} {K Z : D → Prop} (h : joinF z d K) (i : ∀ v, K v → Z v) : ∃ z', z = .str z' ∧ ∃ ys : List Str, vw om (.v d) = .lst (ys.map D.str) ∧ (ys.map (·.length)).sum + ys.length * z'.length ≤ 16777216 ∧ Z (.str (Txt.join z' ys)) := by
  unfold joinF at h
  split at h
  · obtain ⟨ys, rfl, h1, h2⟩ := h
    exact ⟨_, rfl, ys, rfl, h1, i _ h2⟩
  · exact h.elim
theorem getO_inv {o : Option D} {K : D → Prop} (h : getO o K) : ∃ d, o = some d ∧ K d := by
  unfold getO at h
  split at h
  · exact ⟨_, rfl, h⟩
  · exact h.elim
theorem small_le {n : Nat} (h : n ≤ 1000) : n ≤ sizeLine := Nat.le_trans h (by decide)
theorem allV_v (ds : List D) (K : List D → Prop) : allV (ds.map R.v) K = K ds := by
  induction ds generalizing K with
  | nil => rfl
  | cons d ds ih => exact ih _
end
end DL

namespace DL
open PySem PySem.Spec L2
section
variable {X : Cx} {an : An} {dr : Option Dr} {ρ : Rho} {om : Om} {e e2 o : Expr} {es : List Expr} {pos p apos : Pos} {Q : R → Om → Prop} {E : Ed} {x f : Str} {i k : Nat} {C : Addr}
/-! lists of one's own -/
def lstS (l : D) (A : Prop) : Prop := match l with
  | .lst _ => A
  | _ => False
theorem appS_imp {l x : D} {K K' : D → Prop} (h : appS l x K) (i : ∀ d, K d → K' d) : appS l x K' := by
  obtain ⟨ds, rfl, h1, h2⟩ := app_inv h
  exact ⟨h1, i _ h2⟩
theorem popS_imp {l x : D} {K K' : D → D → Prop} (h : popS l x K) (i : ∀ d d', K d d' → K' d d') : popS l x K' := by
  obtain ⟨ds, j, d, rfl, rfl, h1, h2, h3⟩ := pop_inv h
  refine ⟨by omega, h1, ?_⟩
  show match ds[((j : Nat) : Int).toNat]? with
    | some d => K' d (.lst (ds.eraseIdx ((j : Nat) : Int).toNat))
    | none => False
  rw [Int.toNat_natCast, h2]
  exact i _ _ h3
theorem we_appS {l : D} {A : Prop} (hN : X.N[i]? = some x) (hv : Vis X.env.scope x) (hr : ρ[i]? = some (some (.o k))) (ho : om[k]? = some (some l)) (hW : lstS l A)
    (h : A → WE X an dr ρ om e fun r om2 => ∃ d l1, r = .v d ∧ om2[k]? = some (some l1) ∧ appS l1 d fun l2 => Q (.v .non) (om2.set k (some l2)))
    (hd : (x == ("__debug__" : Str)) = false := by decide) (hcd : (x == ("__classdict__" : Str)) = false := by decide)
    (hbase : attributeBase (.Name x p) "append" X.env (eval (.Name x p) X.env) = eval (.Name x p) X.env := by rfl) (hfew : ((backTo pos (starEach [e] X.env)).all (fun x => !x.1) && (backToKw pos (keywordEach [] X.env)).all (fun x => x.1.isSome)
      && decide ([e].length + ([] : List Keyword).length + (if ([] : List Keyword).isEmpty then 0 else 1) < 30)) = true := by rfl)
    (hline : (apos.endLine == pos.line) = true := by rfl) (hs : starEach [e] X.env = (false, eval e X.env) :: starEach [] X.env := by rfl) (hpl : (backTo pos (starEach [] X.env)).any (·.1) = false := by rfl) :
    WE X an dr ρ om (.Call (.Attribute (.Name x p) "append" apos) [e] [] pos) Q := by
  unfold lstS at hW
  split at hW
  · rename_i ds
    refine we_append (we_name hN hv hr ⟨k, rfl, ⟨_, ho⟩, WE.imp (h hW) fun r om2 ⟨d, l1, h1, h2, h3⟩ => ?_⟩ hd hcd) hbase hfew hline hs hpl
    obtain ⟨ds, rfl, h4, h5⟩ := app_inv h3
    exact ⟨d, ds, h1, h2, h4, h5⟩
  · exact hW.elim
theorem we_popS {l : D} {A : Prop} (hN : X.N[i]? = some x) (hv : Vis X.env.scope x) (hr : ρ[i]? = some (some (.o k))) (ho : om[k]? = some (some l)) (hW : lstS l A)
    (h : A → WE X an dr ρ om e fun r om2 => ∃ d l1, r = .v d ∧ om2[k]? = some (some l1) ∧ popS l1 d fun d2 l2 => Q (.v d2) (om2.set k (some l2)))
    (hd : (x == ("__debug__" : Str)) = false := by decide) (hcd : (x == ("__classdict__" : Str)) = false := by decide)
    (hbase : attributeBase (.Name x p) "pop" X.env (eval (.Name x p) X.env) = eval (.Name x p) X.env := by rfl) (hfew : ((backTo pos (starEach [e] X.env)).all (fun x => !x.1) && (backToKw pos (keywordEach [] X.env)).all (fun x => x.1.isSome)
      && decide ([e].length + ([] : List Keyword).length + (if ([] : List Keyword).isEmpty then 0 else 1) < 30)) = true := by rfl)
    (hline : (apos.endLine == pos.line) = true := by rfl) (hs : starEach [e] X.env = (false, eval e X.env) :: starEach [] X.env := by rfl) (hpl : (backTo pos (starEach [] X.env)).any (·.1) = false := by rfl) :
    WE X an dr ρ om (.Call (.Attribute (.Name x p) "pop" apos) [e] [] pos) Q := by
  unfold lstS at hW
  split at hW
  · rename_i ds
    refine we_popAt (we_name hN hv hr ⟨k, rfl, ⟨_, ho⟩, WE.imp (h hW) fun r om2 ⟨d, l1, h1, h2, h3⟩ => ?_⟩ hd hcd) hbase hfew hline hs hpl
    obtain ⟨ds, j, d2, rfl, rfl, h4, h5, h6⟩ := pop_inv h3
    exact ⟨j, d2, ds, h1, h2, h4, h5, h6⟩
  · exact hW.elim
/-! dicts of one's own -/
theorem dputS_imp {l k v : D} {K K' : D → Prop} (h : dputS l k v K) (i : ∀ d, K d → K' d) : dputS l k v K' := by
  obtain ⟨kds, key, rfl, rfl, h1, h2⟩ := dput_inv h
  unfold dputS
  rw [keyD_keyDat]
  exact ⟨h1, i _ h2⟩
theorem ws_dputS {ix : Expr} {pos' : Pos} (hu : X.A.units + 65 < cLine) (hN : X.N[i]? = some x) (hv : Vis X.env.scope x) (hr : ρ[i]? = some (some (.o k)))
    (h : WE X an dr ρ om e fun r om1 => ∃ d, r = .v d ∧ WE X an dr ρ om1 ix fun ri om3 => ∃ kx l1, ri = .v kx ∧ om3[k]? = some (some l1) ∧ dputS l1 kx d fun l2 => E.nx ρ (om3.set k (some l2)))
    (hd : (x == ("__debug__" : Str)) = false := by decide) (hcd : (x == ("__classdict__" : Str)) = false := by decide)
    (hs : swapsWith e (some (.Subscript (.Name x p) ix pos')) pos.line X.env = pure false := by rfl) : WS X an dr ρ om (.Assign [.Subscript (.Name x p) ix pos'] e pos) E := by
  refine ws_dput (by omega) (WE.imp h fun r om1 ⟨d, h1, h2⟩ => ⟨d, h1, we_name hN hv hr (WE.imp h2 fun ri om3 ⟨kx, l1, h3, h4, h5⟩ => ?_) hd hcd⟩) hs
  obtain ⟨kds, key, rfl, rfl, h6, h7⟩ := dput_inv h5
  exact ⟨k, kds, key, rfl, h4, h3, h6, h7⟩
/-! instances -/
def insS (d : D) (K : D → Prop) : Prop := match d with
  | .ins C fs => K (.ins C fs)
  | _ => False
theorem ins_link {d : D} {K P : D → Prop} (h : insS d K) (i : ∀ d, K d → P d) : ∃ d', ([some d] : Om)[0]? = some (some d') ∧ isDict d' = false ∧ P d' := by
  unfold insS at h
  split at h
  · exact ⟨_, rfl, rfl, i _ h⟩
  · exact h.elim
theorem sfldS_imp {l v : D} {K K' : D → Prop} (h : sfldS C f l v K) (i : ∀ d, K d → K' d) : sfldS C f l v K' := by
  obtain ⟨fds, rfl, h1, h2⟩ := sfld_inv h
  exact ⟨rfl, h1, i _ h2⟩
theorem ws_sfldS {pos' : Pos} (c : Cls X.K C) (n : NoAttr X.K C f) (hN : X.N[i]? = some x) (hv : Vis X.env.scope x) (hr : ρ[i]? = some (some (.o k)))
    (h : WE X an dr ρ om e fun r om1 => ∃ d l1, r = .v d ∧ om1[k]? = some (some l1) ∧ sfldS C f l1 d fun l2 => E.nx ρ (om1.set k (some l2)))
    (hd : (x == ("__debug__" : Str)) = false := by decide) (hcd : (x == ("__classdict__" : Str)) = false := by decide)
    (hs : swapsWith e (some (.Attribute (.Name x p) f pos')) pos.line X.env = pure false := by rfl) : WS X an dr ρ om (.Assign [.Attribute (.Name x p) f pos'] e pos) E := by
  refine ws_fld c n (WE.imp h fun r om1 ⟨d, l1, h1, h2, h3⟩ => ⟨d, h1, we_name hN hv hr ?_ hd hcd⟩) hs
  obtain ⟨fds, rfl, h4, h5⟩ := sfld_inv h3
  exact ⟨k, fds, rfl, h2, h4, h5⟩
/-! isinstance of a class of the text -/
structure IsCls (K : PySem.W.Frag) (mg : Str → Option Value) (x : Str) (C : Addr) : Prop where
  at_ : mg x = some (.ref C)
  cx : ClsX K C
  own : PySem.W.kitOne K (.ref C) (.ref C) = some true
  oth : ∀ n ∈ ["NoneType", "bool", "int", "str", "list", "tuple", "dict"], PySem.W.kitOne K (.type n) (.ref C) = some false
theorem isC_link {d : D} {K : Bool → Prop} {Z : Bool → Prop} (h : isCS C d K) (i : ∀ t, K t → Z t) : isCS C d Z := by
  unfold isCS at h ⊢
  split at h
  · exact ⟨h.1, i _ h.2⟩
  · exact ⟨h.1, i _ h.2⟩
theorem anyData_ty {d : D} (h : isAnyData d = true) (n : ∀ B fs, d ≠ .ins B fs) : ∃ m, tyN d = some m ∧ tyV d = some (.type m) ∧ m ∈ ["NoneType", "bool", "int", "str", "list", "tuple", "dict"] := by
  cases d <;> first | (simp [isAnyData] at h; done) | exact ⟨_, rfl, rfl, by decide⟩ | exact absurd rfl (n _ _)
theorem we_isC {p2 : Pos} (hm : X.mg "isinstance" = none) (hC : IsCls X.K X.mg x C) (h : WE X an dr ρ om e fun r om1 => isCS C (vw om1 r) fun t => Q (.v (.bl t)) om1) (hgx : Gl X x := by rfl) (hd : (x == ("__debug__" : Str)) = false := by decide) (hg : Gl X "isinstance" := by rfl)
    (hs : starEach [e, .Name x p2] X.env = (false, eval e X.env) :: starEach [.Name x p2] X.env := by rfl) (hs2 : starEach [.Name x p2] X.env = (false, eval (.Name x p2) X.env) :: starEach [] X.env := by rfl) (hpl : (backTo pos (starEach [.Name x p2] X.env)).any (·.1) = false := by rfl) : WE X an dr ρ om (.Call (.Name "isinstance" p) [e, .Name x p2] [] pos) Q := by
  refine we_blt cb_isiU hm PyProof.Rows.boot_isinstance isiU_mono (wa_cons (WE.imp h fun r om1 hq => wa_cons (we_glob (v := .ref C) hC.at_ rfl (fun _ => .obj C) hgx (wa_nil ?_) hd) hs2) hs) hg (by decide) (by decide) hs hpl
  show isiU X.K [vw om1 r, .obj C] _
  unfold isCS at hq
  split at hq
  · rename_i B fs ev
    obtain ⟨rfl, q⟩ := hq
    rw [ev]
    exact ⟨_, _, rfl, fun B fs z => by cases z; exact hC.cx, hC.own, q⟩
  · rename_i nd
    obtain ⟨m, t1, t2, t3⟩ := anyData_ty hq.1 nd
    exact ⟨_, _, t2, fun B fs z => absurd z (nd B fs), hC.oth m t3, hq.2⟩
/-! len(set(xs)) -/
theorem lenSet_link {d : D} {om : Om} {K Z : D → Prop} (h : lenSetS d K) (i : ∀ v, K v → Z v) : ∃ xs : List Str, (vw om (.v d) = .lst (xs.map D.str) ∨ vw om (.v d) = .tup (xs.map D.str)) ∧ xs.length ≤ 1000 ∧ Z (.int ((nubS xs).length : Nat)) := by
  obtain ⟨ds, e, xs, rfl, h1, h2⟩ := seqS_inv h
  exact ⟨xs, e, h1, i _ h2⟩
/-! join -/
theorem join_link2 {z : Str} {d : D} {om : Om} {K Z : D → Prop} (h : joinF (.str z) d K) (i : ∀ v, K v → Z v) : ∃ ys : List Str, vw om (.v d) = .lst (ys.map D.str) ∧ (ys.map (·.length)).sum + ys.length * z.length ≤ 16777216 ∧ Z (.str (Txt.join z ys)) := by
  obtain ⟨z', e, h⟩ := join_link (om := om) h i
  cases e
  exact h
end
end DL

namespace DL
open PySem PySem.Spec L2
section
variable {X : Cx} {an : An} {dr : Option Dr} {ρ : Rho} {om : Om} {e a b o : Expr} {es : List Expr} {pos p p2 pos2 apos : Pos} {Q : R → Om → Prop} {E : Ed} {x f : Str} {i k : Nat} {C : Addr}
/-! a new dict becomes data, or a cell -/
theorem new_dic {τ : List Addr} {G H : Hp} {kvs : List (Key × V)} {kds : List (Key × D)} {Z : VK} {d : Addr} (g : Good X.K an dr om τ G H) (hd : H d = none) (id : IsD X.K G kvs kds) (k : ∀ G' H', Is X.K G' (.ref d) (.dic kds) → Good X.K an dr om τ G' H' → Grow G τ G' τ → Z (.ref d) H') :
    Z (.ref d) (upd H d (.dK kvs)) ∨ ∃ c u, upd H d (.dK kvs) c = some u ∧ Mut (some u) ∧ ∀ od, Z (.ref d) (upd (upd H d (.dK kvs)) c (.frz od u)) :=
  .inr ⟨d, _, upd_same, trivial, fun od => by
    rw [upd_upd]
    exact k _ _ (.dic upd_same (id.mono (Ex.new (g.ex.free hd)))) (g.alloc hd) (g.grow hd)⟩
/-! dict(zip(a, b)) -/
theorem sq_of {τ : List Addr} {G H : Hp} {v : V} {r : R} {ds : List D} (g : Good X.K an dr om τ G H) (h : IsR X.K G τ v r) (e : vw om r = .lst ds ∨ vw om r = .tup ds) : ∃ l t vs, v = .ref l ∧ SqU X.K H t l vs ∧ IsL X.K G vs ds := by
  rcases e with e | e
  · obtain ⟨l, vs, rfl, hl, il⟩ := vw_lst g h e
    exact ⟨l, false, vs, rfl, .inl (.inl hl), il⟩
  · obtain ⟨l, vs, rfl, hl, il⟩ := vw_tupH g h e
    exact ⟨l, true, vs, rfl, .inl (.inl hl), il⟩
theorem keys_is {G : Hp} : ∀ {ks : List Key} {vs : List V}, IsL X.K G vs (ks.map keyDat) → vs = ks.map kV
  | [], _, .nil => rfl
  | k :: ks, _, .cons h q => by rw [List.map_cons, ← keys_is q, keyDat_is h]
theorem zip_is {G : Hp} : ∀ {ks : List Key} {vs : List V} {ds : List D}, IsL X.K G vs ds → IsD X.K G (ks.zip vs) (ks.zip ds)
  | [], _, _, _ => by simp; exact .nil
  | _ :: _, _, _, .nil => by simp; exact .nil
  | k :: ks, _, _, .cons h q => .cons h (zip_is q)
theorem dictZip_run {ta : TA} {ds : List D → Prop} {K' : VK} {σ : L2.St} {H : Hp} {τ : List Addr} {G : Hp} (h : WA X an dr ρ om [a, b] fun rs om1 => ∃ r1 r2, rs = [r1, r2] ∧ ∃ (ks : List Key) (ys : List D), (vw om1 r1 = .lst (ks.map keyDat) ∨ vw om1 r1 = .tup (ks.map keyDat)) ∧ (vw om1 r2 = .lst ys ∨ vw om1 r2 = .tup ys) ∧ Q (.v (.dic (mergeE [] (ks.zip ys)))) om1)
    (g : Good X.K an dr om τ G H) (n : EnvIs X.K G τ σ ρ)
    (k : ∀ kds kvs om1 τ1 G1 H1, Q (.v (.dic kds)) om1 → IsD X.K G1 kvs kds → Good X.K an dr om1 τ1 G1 H1 → Grow G τ G1 τ1 → ∀ d, H1 d = none → K' (.ref d) (upd H1 d (.dK kvs))) : tDictZip X.K (uA X an dr [a, b]) σ H K' :=
  uA_of h g n fun vs rs om1 τ1 G1 H1 h1 w g1 gr1 n1 => by
    obtain ⟨r1, r2, rfl, ks, ys, e1, e2, q⟩ := w
    cases h1 with
    | cons i1 h1 =>
      cases h1 with
      | cons i2 h1 =>
        cases h1
        obtain ⟨l1, t1, vs1, rfl, s1, il1⟩ := sq_of g1 i1 e1
        obtain ⟨l2, t2, vs2, rfl, s2, il2⟩ := sq_of g1 i2 e2
        obtain rfl := keys_is il1
        exact ⟨l1, l2, t1, t2, ks, vs2, rfl, s1, s2, k _ _ om1 τ1 G1 H1 q (IsD.merge (zip_is il2) .nil) g1 gr1⟩
theorem we_dictZip (hc : X.calm = true) (m1 : X.mg "dict" = none) (m2 : X.mg "zip" = none) (h : WA X an dr ρ om [a, b] fun rs om1 => ∃ r1 r2, rs = [r1, r2] ∧ ∃ (ks : List Key) (ys : List D), (vw om1 r1 = .lst (ks.map keyDat) ∨ vw om1 r1 = .tup (ks.map keyDat)) ∧ (vw om1 r2 = .lst ys ∨ vw om1 r2 = .tup ys) ∧ Q (.v (.dic (mergeE [] (ks.zip ys)))) om1)
    (g1 : Gl X "dict" := by rfl) (g2 : Gl X "zip" := by rfl) (hs : starEach [a, b] X.env = (false, eval a X.env) :: starEach [b] X.env := by rfl) (hpl : (backTo pos2 (starEach [b] X.env)).any (·.1) = false := by rfl) : WE X an dr ρ om (.Call (.Name "dict" p) [.Call (.Name "zip" p2) [a, b] [] pos2] [] pos) Q :=
  peI (pe_lk (pe_dictZip hc g1 m1 g2 m2 (pa_u (an := an) (dr := dr)) hs hpl)) fun σ H K' ⟨τ, G, g, n, k⟩ => dictZip_run (ta := uA X an dr [a, b]) (ds := fun _ => True) h g n fun kds kvs om1 τ1 G1 H1 q id g1 gr1 d hd =>
    new_dic g1 hd id fun G' H' i' g' gr' => k _ _ om1 τ1 G' H' (.v i') q g' (gr1.trans gr')
theorem we_dictZipO (hc : X.calm = true) (m1 : X.mg "dict" = none) (m2 : X.mg "zip" = none) (h : WA X an dr ρ om [a, b] fun rs om1 => ∃ r1 r2, rs = [r1, r2] ∧ ∃ (ks : List Key) (ys : List D), (vw om1 r1 = .lst (ks.map keyDat) ∨ vw om1 r1 = .tup (ks.map keyDat)) ∧ (vw om1 r2 = .lst ys ∨ vw om1 r2 = .tup ys) ∧ Q (.o om1.length) (om1 ++ [some (.dic (mergeE [] (ks.zip ys)))]))
    (g1 : Gl X "dict" := by rfl) (g2 : Gl X "zip" := by rfl) (hs : starEach [a, b] X.env = (false, eval a X.env) :: starEach [b] X.env := by rfl) (hpl : (backTo pos2 (starEach [b] X.env)).any (·.1) = false := by rfl) : WE X an dr ρ om (.Call (.Name "dict" p) [.Call (.Name "zip" p2) [a, b] [] pos2] [] pos) Q :=
  peI (pe_dictZip hc g1 m1 g2 m2 (pa_u (an := an) (dr := dr)) hs hpl) fun σ H K' ⟨τ, G, g, n, k⟩ => dictZip_run (ta := uA X an dr [a, b]) (ds := fun _ => True) (Q := fun r om1 => ∃ kds, r = .v (.dic kds) ∧ Q (.o om1.length) (om1 ++ [some (.dic kds)]))
    (paI h fun σ H K' ⟨τ, G, g, n, k⟩ => ⟨τ, G, g, n, fun vs rs om' τ' G' H' i w g' gr' => k vs rs om' τ' G' H' i (by obtain ⟨r1, r2, e, ks, ys, e1, e2, q⟩ := w; exact ⟨r1, r2, e, ks, ys, e1, e2, _, rfl, q⟩) g' gr'⟩) g n fun kds kvs om1 τ1 G1 H1 ⟨kds', e, q⟩ id g1 gr1 d hd => by
      cases e
      exact k _ _ _ (τ1 ++ [d]) _ _ (.o (by rw [g1.len, List.getElem?_append_right (Nat.le_refl _), Nat.sub_self]; rfl)) q (g1.freshO hd ⟨kvs, rfl, id⟩) (gr1.trans Good.growF)
theorem dictZip_inv {d1 d2 : D} {K : D → Prop} (h : dictZipS d1 d2 K) : ∃ (ks : List Key) (ys : List D), (d1 = .lst (ks.map keyDat) ∨ d1 = .tup (ks.map keyDat)) ∧ (d2 = .lst ys ∨ d2 = .tup ys) ∧ K (.dic (mergeE [] (ks.zip ys))) := by
  obtain ⟨xs, e1, h⟩ := seqS_inv h
  obtain ⟨ys, e2, ks, rfl, _, h⟩ := seqS_inv h
  exact ⟨ks, ys, e1, e2, h⟩
theorem dictZip_link {d1 d2 : D} {om : Om} {K Z : D → Prop} (h : dictZipS d1 d2 K) (i : ∀ d, K d → Z d) : ∃ r1 r2, [R.v d1, R.v d2] = [r1, r2] ∧ ∃ (ks : List Key) (ys : List D), (vw om r1 = .lst (ks.map keyDat) ∨ vw om r1 = .tup (ks.map keyDat)) ∧ (vw om r2 = .lst ys ∨ vw om r2 = .tup ys) ∧ Z (.dic (mergeE [] (ks.zip ys))) := by
  obtain ⟨ks, ys, e1, e2, q⟩ := dictZip_inv h
  exact ⟨_, _, rfl, ks, ys, e1, e2, i _ q⟩
/-! dict(pairs) -/
theorem pairs_is {G H : Hp} (ex : Ex G H) : ∀ {kds : List (Key × D)} {vs : List V}, IsL X.K G vs (kds.map fun kv => D.tup [keyDat kv.1, kv.2]) → ∃ ps kvs, vs = ps.map V.ref ∧ Paired (fun p kv => SqT X.K H p [kV kv.1, kv.2]) ps kvs ∧ IsD X.K G kvs kds
  | [], _, .nil => ⟨[], [], rfl, .nil, .nil⟩
  | (key, d) :: kds, _, .cons h q => by
    obtain ⟨ps, kvs, e, pp, id⟩ := pairs_is ex q
    obtain ⟨c, ws, rfl, hc, il⟩ := h.tup_inv
    cases il with
    | cons i1 il =>
      cases il with
      | cons i2 il =>
        cases il
        obtain rfl := keyDat_is i1
        exact ⟨c :: ps, (key, _) :: kvs, by rw [e]; rfl, .cons (.inl (.inl (ex _ _ hc))) pp, .cons i2 id⟩
theorem dictPairs_run {K' : VK} {σ : L2.St} {H : Hp} {τ : List Addr} {G : Hp} {R0 : List V → Hp → VK → Prop} (h : WE X an dr ρ om a fun r om1 => ∃ (kds : List (Key × D)), vw om1 r = .lst (kds.map fun kv => D.tup [keyDat kv.1, kv.2]) ∧ Q (.v (.dic (mergeE [] kds))) om1)
    (g : Good X.K an dr om τ G H) (n : EnvIs X.K G τ σ ρ)
    (k : ∀ v l ps kvs kds om1 τ1 G1 H1, v = V.ref l → SqL X.K H1 l (ps.map V.ref) → Paired (fun p kv => SqT X.K H1 p [kV kv.1, kv.2]) ps kvs → Q (.v (.dic (mergeE [] kds))) om1 → IsD X.K G1 kvs kds → Good X.K an dr om1 τ1 G1 H1 → Grow G τ G1 τ1 → K' v H1) : uE X an dr a σ H K' :=
  uE_of h g n fun v r om1 τ1 G1 H1 h1 w g1 gr1 n1 => by
    obtain ⟨kds, ev, q⟩ := w
    obtain ⟨l, vs, rfl, hl, il⟩ := vw_lst g1 h1 ev
    obtain ⟨ps, kvs, rfl, pp, id⟩ := pairs_is g1.ex il
    exact k _ l ps kvs kds om1 τ1 G1 H1 rfl (.inl (.inl hl)) pp q id g1 gr1
theorem we_dictPairs (hc : X.calm = true) (m1 : X.mg "dict" = none) (h : WE X an dr ρ om a fun r om1 => ∃ (kds : List (Key × D)), vw om1 r = .lst (kds.map fun kv => D.tup [keyDat kv.1, kv.2]) ∧ Q (.v (.dic (mergeE [] kds))) om1)
    (g1 : Gl X "dict" := by rfl) (he : starEach [a] X.env = (false, eval a X.env) :: starEach [] X.env := by rfl) (hpl : (backTo pos (starEach [] X.env)).any (·.1) = false := by rfl) : WE X an dr ρ om (.Call (.Name "dict" p) [a] [] pos) Q :=
  peI (pe_lk (pe_callTy (call_dictP hc) g1 m1 boot_dict (pa_cons (pe_u (an := an) (dr := dr)) pa_nil he) (by decide) (by decide) he hpl)) fun σ H K' ⟨τ, G, g, n, k⟩ => dictPairs_run (R0 := fun _ _ _ => True) h g n fun v l ps kvs kds om1 τ1 G1 H1 ev hl pp q id g1 gr1 =>
    ⟨l, ps, kvs, by rw [ev], hl, pp, fun d hd => new_dic g1 hd (IsD.merge id .nil) fun G' H' i' g' gr' => k _ _ om1 τ1 G' H' (.v i') q g' (gr1.trans gr')⟩
theorem dictPairs_link {d : D} {om : Om} {K Z : D → Prop} (h : dictPairsS d K) (i : ∀ d, K d → Z d) : ∃ (kds : List (Key × D)), vw om (.v d) = .lst (kds.map fun kv => D.tup [keyDat kv.1, kv.2]) ∧ Z (.dic (mergeE [] kds)) := by
  unfold dictPairsS at h
  split at h
  · obtain ⟨kds, rfl, _, q⟩ := h
    exact ⟨kds, rfl, i _ q⟩
  · exact h.elim
/-! {**a, **b} -/
theorem dicS_inv {d : D} {K : List (Key × D) → Prop} (h : dicS d K) : ∃ xs, d = .dic xs ∧ xs.length ≤ 1000 ∧ K xs := by
  unfold dicS at h
  split at h
  · exact ⟨_, rfl, h.1, h.2⟩
  · exact h.elim
theorem dicS_link {d : D} {om : Om} {K Z : List (Key × D) → Prop} (h : dicS d K) (i : ∀ xs, K xs → Z xs) : ∃ xs, vw om (.v d) = .dic xs ∧ xs.length ≤ 1000 ∧ Z xs := by
  obtain ⟨xs, e, h1, h2⟩ := dicS_inv h
  exact ⟨xs, e, h1, i _ h2⟩
theorem length_putE {κ : Type} [DecidableEq κ] (kvs : List (κ × D)) (k : κ) (v : D) : (putE kvs k v).length ≤ kvs.length + 1 := by
  unfold putE
  split
  · rw [List.length_map]; omega
  · rw [List.length_append]; exact Nat.le_refl _
theorem length_mergeE : ∀ (more kvs : List (Key × D)), (mergeE kvs more).length ≤ kvs.length + more.length
  | [], kvs => Nat.le_refl _
  | kv :: more, kvs => by
    have h1 := length_mergeE more (putE kvs kv.1 kv.2)
    have h2 := length_putE kvs kv.1 kv.2
    have h3 : mergeE kvs (kv :: more) = mergeE (putE kvs kv.1 kv.2) more := rfl
    rw [h3, List.length_cons]
    omega
/-- a dict that is not the new cell -/
theorem rd_dic {τ : List Addr} {G H : Hp} {v : V} {r : R} {c : D} {xs : List (Key × D)} {D0 : Addr} (hk : τ[om.length]? = some D0) (g : Good X.K an dr (om ++ [some c]) τ G H) (h : IsR X.K G τ v r) (e : vw om r = .dic xs) : ∃ q kvs, v = .ref q ∧ Rd H q (.dK kvs) ∧ D0 ≠ q ∧ IsD X.K G kvs xs := by
  have ho : (om ++ [some c])[om.length]? = some (some c) := by rw [List.getElem?_append_right (Nat.le_refl _), Nat.sub_self]; rfl
  obtain ⟨gd, _⟩ := g.own om.length D0 c hk ho
  cases h with
  | v h =>
    have e : _ = D.dic xs := e
    subst e
    cases h with
    | @dic q od kvs _ hq id => exact ⟨q, kvs, rfl, .inr ⟨od, g.ex _ _ hq⟩, (fun z => by rw [z, hq] at gd; cases gd), id⟩
  | @o q j h =>
    have e2 := cellD_some e (by simp)
    have lt : j < om.length := (List.getElem?_eq_some_iff.mp e2).1
    have e3 : (om ++ [some c])[j]? = some (some (.dic xs)) := by rw [List.getElem?_append_left lt]; exact e2
    obtain ⟨_, _, _, o, h1, kvs, rfl, id⟩ := g.own j q _ h e3
    refine ⟨q, kvs, rfl, .inl h1, fun z => ?_, id⟩
    subst z
    have := (List.getElem?_inj (List.getElem?_eq_some_iff.mp hk).1 g.nd).mp (hk.trans h.symm)
    omega
theorem we_merge (h : WE X an dr ρ (om ++ [some (.dic [])]) a fun ra om1 => om1 = om ++ [some (.dic [])] ∧ ∃ xs, vw om ra = .dic xs ∧ xs.length ≤ 1000 ∧ WE X an dr ρ (om ++ [some (.dic (mergeE [] xs))]) b fun rb om2 => om2 = om ++ [some (.dic (mergeE [] xs))] ∧ ∃ ys, vw om rb = .dic ys ∧ ys.length ≤ 1000 ∧ Q (.v (.dic (mergeE (mergeE [] xs) ys))) om) :
    WE X an dr ρ om (.Dict [none, none] [a, b] pos) Q := by
  refine peI (pe_lk (pe_dd2 (pe_u (an := an) (dr := dr)) (pe_u (an := an) (dr := dr)))) fun σ H K' ⟨τ, G, g, n, k⟩ D0 hD => ?_
  have gf := g.freshO (o := .dK []) (d := .dic []) hD ⟨[], rfl, .nil⟩
  have big : 2000 ≤ sizeLine := by decide
  refine uE_of h gf (n.mono Good.growF) fun v r om1 τ1 G1 H1 i1 w g1 gr1 n1 => ?_
  obtain ⟨rfl, xs, ev, hz, w⟩ := w
  have e1 := tau_snoc g.len g1 gr1
  subst e1
  have hk : (τ ++ [D0])[om.length]? = some D0 := by rw [g.len, List.getElem?_append_right (Nat.le_refl _), Nat.sub_self]; rfl
  obtain ⟨c, kvs, rfl, rd, ne, id⟩ := rd_dic hk g1 i1 ev
  obtain ⟨o1, ho1, vs0, rfl, id0⟩ := cp_get hk g1
  cases id0
  refine ⟨c, kvs, rfl, rd, ne, ho1, by rw [id.length]; omega, ?_⟩
  have g1' := cp_put (o' := .dK (mergeK [] kvs)) (c' := .dic (mergeE [] xs)) hk g1 ⟨_, rfl, IsD.merge id .nil⟩
  refine uE_of w g1' n1 fun v2 r2 om2 τ2 G2 H2 i2 w2 g2 gr2 n2 => ?_
  obtain ⟨rfl, ys, ev2, hz2, q⟩ := w2
  have e2 := tau_snoc g.len g2 (gr1.trans gr2)
  subst e2
  obtain ⟨c2, ms, rfl, rd2, ne2, id2⟩ := rd_dic hk g2 i2 ev2
  obtain ⟨o2, ho2, ks, rfl, id3⟩ := cp_get hk g2
  have lk : ks.length ≤ 1000 := by
    rw [id3.length]
    have := length_mergeE xs []
    simp at this
    omega
  refine ⟨c2, ms, ks, rfl, rd2, ne2, ho2, by rw [id2.length]; omega, ?_⟩
  have g2' := cp_put (o' := .dK (mergeK ks ms)) (c' := .dic (mergeE (mergeE [] xs) ys)) hk g2 ⟨_, rfl, IsD.merge id2 id3⟩
  exact cp_end (Z := K') g.len g.ti rfl g2' ((Good.growF (p := D0)).trans (gr1.trans gr2)) fun G' H' i' g' gr' => k _ _ om τ G' H' (.v i') q g' gr'
/-! {k: v for ..} -/
theorem dc_link {ds : List D} {b : D → List (Key × D) → (List (Key × D) → Prop) → Prop} {KS : List (Key × D) → Prop} {f : TgF} {scope : Scope} {kx vx : Expr} {ρw : Rho} {Z : List (Key × D) → Prop} (hW : forS ds [] b KS)
    (hb : ∀ d acc rest, b d acc rest → f d ρw fun ρ2 => EltD X an dr scope kx vx ρ2 om acc rest) (he : ∀ acc, KS acc → Z acc) :
    ∃ P : Nat → List (Key × D) → Prop, P 0 [] ∧ (∀ i d acc, ds[i]? = some d → P i acc → f d ρw fun ρ2 => EltD X an dr scope kx vx ρ2 om acc (P (i + 1))) ∧ ∀ acc, P ds.length acc → Z acc :=
  ⟨fun i acc => forS (ds.drop i) acc b KS, hW, fun i d acc hd q => hb d acc _ (forS_at hd q), fun acc q => he acc (forS_end q)⟩
/-! two clauses -/
theorem lc2_link {ds : List D} {b : D → List D → (List D → Prop) → Prop} {KS : List D → Prop} {f : TgF} {ρw : Rho} {Z : List D → Prop} {B : Rho → List D → (List D → Prop) → Prop} (hW : forS ds [] b KS)
    (hb : ∀ d acc rest, b d acc rest → f d ρw fun ρ2 => B ρ2 acc rest) (he : ∀ acc, KS acc → Z acc) :
    ∃ P : Nat → List D → Prop, P 0 [] ∧ (∀ i d acc, ds[i]? = some d → P i acc → f d ρw fun ρ2 => B ρ2 acc (P (i + 1))) ∧ ∀ acc, P ds.length acc → Z acc :=
  ⟨fun i acc => forS (ds.drop i) acc b KS, hW, fun i d acc hd q => hb d acc _ (forS_at hd q), fun acc q => he acc (forS_end q)⟩
theorem in2_link {ds : List D} {b : D → List D → (List D → Prop) → Prop} {KS N : List D → Prop} {f1 : TgF} {ρw : Rho} {acc0 : List D} {om1 : Om} {B : Rho → List D → (List D → Prop) → Prop} (hW : forS ds acc0 b KS)
    (hb : ∀ d acc rest, b d acc rest → f1 d ρw fun ρ3 => B ρ3 acc rest) (he : ∀ acc, KS acc → N acc) :
    om1 = om1 ∧ ∃ P1 : Nat → List D → Prop, P1 0 acc0 ∧ (∀ j d acc, ds[j]? = some d → P1 j acc → f1 d ρw fun ρ3 => B ρ3 acc (P1 (j + 1))) ∧ ∀ acc, P1 ds.length acc → N acc :=
  ⟨rfl, fun i acc => forS (ds.drop i) acc b KS, hW, fun i d acc hd q => hb d acc _ (forS_at hd q), fun acc q => he acc (forS_end q)⟩
end
end DL

namespace DL
open PySem PySem.Spec L2
def vR : R → D
  | .v d => d
  | .o _ => .dead
def twoR (rs : List R) (K : R → R → Prop) : Prop := match rs with
  | [a, b] => K a b
  | _ => False
section
variable {X : Cx} {an : An} {dr : Option Dr} {ρ : Rho} {om : Om} {e a b o tg : Expr} {es : List Expr} {pos p p2 pos2 apos : Pos} {Q : R → Om → Prop} {E : Ed} {x f own m : Str} {i k j : Nat} {C : Addr} {QI : List D → Om → Prop} {W : Wp} {ps : List Str}
theorem isR_v {K : PySem.W.Frag} {r : R} {d : D} (h : vR r = d) (n : d ≠ .dead) : r = .v d := by
  cases r with
  | v d' => exact congrArg R.v h
  | o k => exact absurd h.symm n
/-! what is walked -/
theorem wi_rangeU (hm : X.mg "range" = none) (h : WE X an dr ρ om e fun r om1 => rngS (vR r) fun ds => QI ds om1) (hg : Gl X "range" := by rfl) (hs : starEach [e] X.env = [(false, eval e X.env)] := by rfl) : WI X an dr ρ om tg (.Call (.Name "range" p) [e] [] pos) QI :=
  wi_range hm (WE.imp h fun r om1 q => by
    cases r with
    | v d =>
      unfold rngS at q
      split at q
      · rename_i z ez
        have ez : d = .int z := ez
        subst ez
        exact q
      · exact q.elim
    | o k => exact q.elim) hg hs
theorem rngS_imp {d : D} {P P' : List D → Prop} (h : rngS d P) (i : ∀ ds, P ds → P' ds) : rngS d P' := by
  unfold rngS at h ⊢
  split at h
  · exact ⟨h.1, i _ h.2⟩
  · exact h.elim
theorem wi_enumU {elts : List Expr} {kk : Nat} {tpos : Pos} (hm : X.mg "enumerate" = none) (h : WE X an dr ρ om e fun r om1 => enumS (vR r) fun ds => QI ds om1) (hg : Gl X "enumerate" := by rfl) (hs : starEach [e] X.env = [(false, eval e X.env)] := by rfl) :
    WI X an dr ρ om (.Tuple elts kk tpos) (.Call (.Name "enumerate" p) [e] [] pos) QI :=
  wi_enum hm (WE.imp h fun r om1 q => by
    cases r with
    | v d =>
      unfold enumS at q
      split at q
      · rename_i ds ez
        exact ⟨ds, .inl ez, q⟩
      · rename_i ds ez
        exact ⟨ds, .inr ez, q⟩
      · exact q.elim
    | o k => exact q.elim) hg hs
theorem enumS_imp {d : D} {P P' : List D → Prop} (h : enumS d P) (i : ∀ ds, P ds → P' ds) : enumS d P' := by
  unfold enumS at h ⊢
  split at h <;> first | exact i _ h | exact h.elim
theorem wi_keysU (h : WE X an dr ρ om e fun r om1 => keysS (vR r) fun ds => QI ds om1) : WI X an dr ρ om tg e QI :=
  wi_keys (WE.imp h fun r om1 q => by
    unfold keysS at q
    split at q
    · rename_i kds ez
      exact ⟨kds, isR_v (K := X.K) ez (by simp), q⟩
    · exact q.elim)
theorem keysS_imp {d : D} {P P' : List D → Prop} (h : keysS d P) (i : ∀ ds, P ds → P' ds) : keysS d P' := by
  unfold keysS at h ⊢
  split at h
  · exact ⟨h.1, i _ h.2⟩
  · exact h.elim
theorem wi_itemsU {elts : List Expr} {kk : Nat} {tpos cpos : Pos} (h : WE X an dr ρ om e fun r om1 => itemsS (vR r) fun ds => QI ds om1) (hbase : attributeBase e "items" X.env (eval e X.env) = eval e X.env := by rfl) (hline : (apos.endLine == cpos.line) = true := by rfl) :
    WI X an dr ρ om (.Tuple elts kk tpos) (.Call (.Attribute e "items" apos) [] [] cpos) QI :=
  wi_items (WE.imp h fun r om1 q => by
    unfold itemsS at q
    split at q
    · rename_i kds ez
      exact ⟨kds, isR_v (K := X.K) ez (by simp), q⟩
    · exact q.elim) hbase hline
theorem itemsS_imp {d : D} {P P' : List D → Prop} (h : itemsS d P) (i : ∀ ds, P ds → P' ds) : itemsS d P' := by
  unfold itemsS at h ⊢
  split at h
  · exact ⟨h.1, i _ h.2⟩
  · exact h.elim
theorem two_allV {rs : List R} {K : D → D → Prop} (h : twoR rs fun r1 r2 => K (vR r1) (vR r2)) (n1 : ∀ d, ¬ K .dead d) (n2 : ∀ d, ¬ K d .dead) : ∃ d1 d2, rs = [.v d1, .v d2] ∧ K d1 d2 := by
  unfold twoR at h
  split at h
  · rename_i r1 r2
    cases r1 with
    | o k => exact absurd h (n1 _)
    | v d1 =>
      cases r2 with
      | o k => exact absurd h (n2 _)
      | v d2 => exact ⟨d1, d2, rfl, h⟩
  · exact h.elim
theorem WA.imp {Q Q' : List R → Om → Prop} (h : WA X an dr ρ om es Q) (i : ∀ r om', Q r om' → Q' r om') : WA X an dr ρ om es Q' :=
  paI h fun σ H K' ⟨τ, G, g, n, k⟩ => ⟨τ, G, g, n, fun v r om' τ' G' H' h1 h2 h3 h4 => k v r om' τ' G' H' h1 (i r om' h2) h3 h4⟩
theorem wi_zipTU {tpos : Pos} {elts : List Expr} {kk : Nat} (hm : X.mg "zip" = none) (h : WA X an dr ρ om [a, b] fun rs om1 => twoR rs fun r1 r2 => zipTS (vR r1) (vR r2) fun ds => QI ds om1) (hg : Gl X "zip" := by rfl)
    (hs : starEach [a, b] X.env = (false, eval a X.env) :: starEach [b] X.env := by rfl) (hpl : (backTo pos (starEach [b] X.env)).any (·.1) = false := by rfl) : WI X an dr ρ om (.Tuple elts kk tpos) (.Call (.Name "zip" p) [a, b] [] pos) QI :=
  wi_zipT hm (WA.imp h fun rs om1 q => by
    obtain ⟨d1, d2, rfl, q2⟩ := two_allV (K := fun d1 d2 => zipTS d1 d2 fun ds => QI ds om1) q (fun d h => h) (fun d h => by unfold zipTS at h; split at h <;> simp_all)
    unfold zipTS at q2
    split at q2
    · exact ⟨_, _, rfl, q2⟩
    · exact q2.elim) hg hs hpl
theorem zipTS_imp {d1 d2 : D} {P P' : List D → Prop} (h : zipTS d1 d2 P) (i : ∀ ds, P ds → P' ds) : zipTS d1 d2 P' := by
  unfold zipTS at h ⊢
  split at h
  · exact ⟨h.1, i _ h.2⟩
  · exact h.elim
theorem wi_zipLU {tpos : Pos} {elts : List Expr} {kk : Nat} (hm : X.mg "zip" = none) (h : WA X an dr ρ om [a, b] fun rs om1 => twoR rs fun r1 r2 => zipLS (vR r1) (vR r2) fun ds => QI ds om1) (hg : Gl X "zip" := by rfl)
    (hs : starEach [a, b] X.env = (false, eval a X.env) :: starEach [b] X.env := by rfl) (hpl : (backTo pos (starEach [b] X.env)).any (·.1) = false := by rfl) : WI X an dr ρ om (.Tuple elts kk tpos) (.Call (.Name "zip" p) [a, b] [] pos) QI :=
  wi_zipL hm (WA.imp h fun rs om1 q => by
    obtain ⟨d1, d2, rfl, q2⟩ := two_allV (K := fun d1 d2 => zipLS d1 d2 fun ds => QI ds om1) q (fun d h => h) (fun d h => by unfold zipLS at h; split at h <;> simp_all)
    unfold zipLS at q2
    split at q2
    · exact ⟨_, _, rfl, q2⟩
    · exact q2.elim) hg hs hpl
theorem zipLS_imp {d1 d2 : D} {P P' : List D → Prop} (h : zipLS d1 d2 P) (i : ∀ ds, P ds → P' ds) : zipLS d1 d2 P' := by
  unfold zipLS at h ⊢
  split at h
  · exact ⟨h.1, i _ h.2⟩
  · exact h.elim
/-! attributes -/
theorem fldS_inv {d : D} {K : D → Prop} (h : fldS C f d K) : ∃ fds v, d = .ins C fds ∧ fds.lookup f = some v ∧ K v := by
  unfold fldS at h
  split at h
  · obtain ⟨rfl, h⟩ := h
    split at h
    · rename_i v ez
      exact ⟨_, v, rfl, ez, h⟩
    · exact h.elim
  · exact h.elim
theorem fldS_mk {fds : List (Str × D)} {v : D} {K : D → Prop} (e : fds.lookup f = some v) (h : K v) : fldS C f (.ins C fds) K := by
  refine ⟨rfl, ?_⟩
  rw [e]
  exact h
theorem fldS_imp {d : D} {P P' : D → Prop} (h : fldS C f d P) (i : ∀ v, P v → P' v) : fldS C f d P' := by
  obtain ⟨fds, v, rfl, e, q⟩ := fldS_inv h
  exact fldS_mk e (i _ q)
theorem we_fldU (c : Cls X.K C) (n : NoAttr X.K C f) (h : WE X an dr ρ om e fun r om1 => fldS C f (vw om1 r) fun d => Q (.v d) om1) (hb : attributeBase e f X.env (eval e X.env) = eval e X.env := by rfl) : WE X an dr ρ om (.Attribute e f pos) Q :=
  we_fld c n (WE.imp h fun r om1 q => fldS_inv q) hb
theorem we_propU (h : HasP X.prog X.w X.K X.mg X.base k C f own) (hr : Room j X.A) (hw : WE X an dr ρ om e fun r om1 => fldS C own (vw om1 r) fun d => Q (.v d) om1) (hkj : k + 1 ≤ j := by decide)
    (hb : attributeBase e f X.env (eval e X.env) = eval e X.env := by rfl) : WE X an dr ρ om (.Attribute e f pos) Q :=
  we_prop h hr (WE.imp hw fun r om1 q => fldS_inv q) hkj hb
theorem metS_inv {d : D} {A : Prop} (h : metS C m d A) : ∃ fds, d = .ins C fds ∧ fds.lookup m = none ∧ A := by
  unfold metS at h
  split at h
  · obtain ⟨rfl, h1, h2⟩ := h
    exact ⟨_, rfl, h1, h2⟩
  · exact h.elim
theorem metS_imp {d : D} {A A' : Prop} (h : metS C m d A) (i : A → A') : metS C m d A' := by
  obtain ⟨fds, rfl, h1, h2⟩ := metS_inv h
  exact ⟨rfl, h1, i h2⟩
theorem we_methU {pl : Sem Bool} (h : HasM X.prog X.w X.K X.mg X.base dr k C m ps W) (hr : Room j X.A) (hw : WE X an dr ρ om o fun ro om1 => metS C m (vR ro) (WA X an dr ρ om1 (e :: es) fun rs om2 => allV rs fun ds => W (vR ro :: ds) fun d => Q (.v d) om2))
    (hkj : k ≤ j := by decide) (hst : starEach (e :: es) X.env = (false, eval e X.env) :: starEach es X.env := by rfl) (hpl : (backTo pos (starEach es X.env)).any (·.1) = false := by rfl)
    (ht : eval (.Call (.Attribute o m apos) (e :: es) [] pos) X.env = (do
      let ov ← eval o X.env
      standAt apos.atName
      let (f, first) ← holding [ov] (getMethod ov m pl)
      callWith pos f first (backTo pos (starEach (e :: es) X.env)) (backToKw pos (keywordEach [] X.env))) := by rfl) : WE X an dr ρ om (.Call (.Attribute o m apos) (e :: es) [] pos) Q :=
  we_meth h hr (WE.imp hw fun ro om1 q => by
    obtain ⟨fds, e1, h1, h2⟩ := metS_inv q
    have e2 := isR_v (K := X.K) e1 (by simp)
    subst e2
    exact ⟨fds, rfl, h1, h2⟩) hkj hst hpl ht
/-! calls of built-ins -/
theorem lenSetS_imp {d : D} {P P' : D → Prop} (h : lenSetS d P) (i : ∀ v, P v → P' v) : lenSetS d P' := by
  unfold lenSetS at h ⊢
  obtain ⟨ds, e, xs, rfl, h1, h2⟩ := seqS_inv h
  rcases e with rfl | rfl
  · exact ⟨xs, rfl, h1, i _ h2⟩
  · exact ⟨xs, rfl, h1, i _ h2⟩
theorem we_lenSetU {q : Pos} (hc : X.calm = true) (m1 : X.mg "len" = none) (m2 : X.mg "set" = none) (h : WE X an dr ρ om a fun r om1 => lenSetS (vw om1 r) fun d => Q (.v d) om1)
    (g1 : Gl X "len" := by rfl) (g2 : Gl X "set" := by rfl) (na : starEach [a] X.env = (false, eval a X.env) :: starEach [] X.env := by rfl) : WE X an dr ρ om (.Call (.Name "len" p) [.Call (.Name "set" p2) [a] [] q] [] pos) Q :=
  we_lenSet hc m1 m2 (WE.imp h fun r om1 q => by
    obtain ⟨ds, e, xs, rfl, h1, h2⟩ := seqS_inv q
    exact ⟨xs, e, h1, h2⟩) g1 g2 na
theorem joinF_imp {z d : D} {P P' : D → Prop} (h : joinF z d P) (i : ∀ v, P v → P' v) : joinF z d P' := by
  unfold joinF at h ⊢
  split at h
  · obtain ⟨ys, e, h1, h2⟩ := h
    exact ⟨ys, e, h1, i _ h2⟩
  · exact h.elim
theorem we_joinU {z : Str} {kk : Nat} (h : WE X an dr ρ om e fun r om2 => joinF (.str z) (vw om2 r) fun d => Q (.v d) om2)
    (hs : starEach [e] X.env = [(false, eval e X.env)] := by rfl) (hbase : attributeBase (.Constant (.str z) kk p) "join" X.env (eval (.Constant (.str z) kk p) X.env) = eval (.Constant (.str z) kk p) X.env := by rfl) (hline : (apos.endLine == pos.line) = true := by rfl) : WE X an dr ρ om (.Call (.Attribute (.Constant (.str z) kk p) "join" apos) [e] [] pos) Q :=
  we_join (we_str ⟨z, rfl, WE.imp h fun r om2 q => by
    unfold joinF at q
    split at q
    · rename_i z' xs e1 e2
      cases e1
      obtain ⟨ys, rfl, h1, h2⟩ := q
      exact ⟨ys, e2, h1, h2⟩
    · exact q.elim⟩) hs hbase hline
theorem dictZipS_imp {d1 d2 : D} {P P' : D → Prop} (h : dictZipS d1 d2 P) (i : ∀ v, P v → P' v) : dictZipS d1 d2 P' := by
  unfold dictZipS at h ⊢
  obtain ⟨xs, e1, h2⟩ := seqS_inv h
  obtain ⟨ys, e2, ks, rfl, hl, h3⟩ := seqS_inv h2
  rcases e1 with rfl | rfl <;> rcases e2 with rfl | rfl <;> exact ⟨ks, rfl, hl, i _ h3⟩
theorem two_inv {rs : List R} {K : R → R → Prop} (h : twoR rs K) : ∃ r1 r2, rs = [r1, r2] ∧ K r1 r2 := by
  unfold twoR at h
  split at h
  · exact ⟨_, _, rfl, h⟩
  · exact h.elim
theorem we_dictZipU (hc : X.calm = true) (m1 : X.mg "dict" = none) (m2 : X.mg "zip" = none) (h : WA X an dr ρ om [a, b] fun rs om1 => twoR rs fun r1 r2 => dictZipS (vw om1 r1) (vw om1 r2) fun d => Q (.v d) om1)
    (g1 : Gl X "dict" := by rfl) (g2 : Gl X "zip" := by rfl) (hs : starEach [a, b] X.env = (false, eval a X.env) :: starEach [b] X.env := by rfl) (hpl : (backTo pos2 (starEach [b] X.env)).any (·.1) = false := by rfl) : WE X an dr ρ om (.Call (.Name "dict" p) [.Call (.Name "zip" p2) [a, b] [] pos2] [] pos) Q :=
  we_dictZip hc m1 m2 (WA.imp h fun rs om1 q => by
    obtain ⟨r1, r2, rfl, q2⟩ := two_inv q
    obtain ⟨ks, ys, e1, e2, q3⟩ := dictZip_inv q2
    exact ⟨r1, r2, rfl, ks, ys, e1, e2, q3⟩) g1 g2 hs hpl
theorem we_dictZipOU (hc : X.calm = true) (m1 : X.mg "dict" = none) (m2 : X.mg "zip" = none) (h : WA X an dr ρ om [a, b] fun rs om1 => twoR rs fun r1 r2 => dictZipS (vw om1 r1) (vw om1 r2) fun d => Q (.o om1.length) (om1 ++ [some d]))
    (g1 : Gl X "dict" := by rfl) (g2 : Gl X "zip" := by rfl) (hs : starEach [a, b] X.env = (false, eval a X.env) :: starEach [b] X.env := by rfl) (hpl : (backTo pos2 (starEach [b] X.env)).any (·.1) = false := by rfl) : WE X an dr ρ om (.Call (.Name "dict" p) [.Call (.Name "zip" p2) [a, b] [] pos2] [] pos) Q :=
  we_dictZipO hc m1 m2 (WA.imp h fun rs om1 q => by
    obtain ⟨r1, r2, rfl, q2⟩ := two_inv q
    obtain ⟨ks, ys, e1, e2, q3⟩ := dictZip_inv q2
    exact ⟨r1, r2, rfl, ks, ys, e1, e2, q3⟩) g1 g2 hs hpl
theorem dictPairsS_imp {d : D} {P P' : D → Prop} (h : dictPairsS d P) (i : ∀ v, P v → P' v) : dictPairsS d P' := by
  unfold dictPairsS at h ⊢
  split at h
  · obtain ⟨kds, e, h1, h2⟩ := h
    exact ⟨kds, e, h1, i _ h2⟩
  · exact h.elim
theorem we_dictPairsU (hc : X.calm = true) (m1 : X.mg "dict" = none) (h : WE X an dr ρ om a fun r om1 => dictPairsS (vw om1 r) fun d => Q (.v d) om1)
    (g1 : Gl X "dict" := by rfl) (he : starEach [a] X.env = (false, eval a X.env) :: starEach [] X.env := by rfl) (hpl : (backTo pos (starEach [] X.env)).any (·.1) = false := by rfl) : WE X an dr ρ om (.Call (.Name "dict" p) [a] [] pos) Q :=
  we_dictPairs hc m1 (WE.imp h fun r om1 q => by
    unfold dictPairsS at q
    split at q
    · rename_i xs ez
      obtain ⟨kds, rfl, _, q⟩ := q
      exact ⟨kds, ez, q⟩
    · exact q.elim) g1 he hpl
theorem dicS_imp {d : D} {P P' : List (Key × D) → Prop} (h : dicS d P) (i : ∀ v, P v → P' v) : dicS d P' := by
  unfold dicS at h ⊢
  split at h
  · exact ⟨h.1, i _ h.2⟩
  · exact h.elim
theorem we_mergeU (h : WE X an dr ρ (om ++ [some (.dic [])]) a fun ra om1 => om1 = om ++ [some (.dic [])] ∧ dicS (vw om ra) fun xs => WE X an dr ρ (om ++ [some (.dic (mergeE [] xs))]) b fun rb om2 => om2 = om ++ [some (.dic (mergeE [] xs))] ∧ dicS (vw om rb) fun ys => Q (.v (.dic (mergeE (mergeE [] xs) ys))) om) :
    WE X an dr ρ om (.Dict [none, none] [a, b] pos) Q :=
  we_merge (WE.imp h fun ra om1 ⟨e1, q⟩ => by
    obtain ⟨xs, e2, h1, q⟩ := dicS_inv q
    refine ⟨e1, xs, e2, h1, WE.imp q fun rb om2 ⟨e3, q⟩ => ?_⟩
    obtain ⟨ys, e4, h2, q⟩ := dicS_inv q
    exact ⟨e3, ys, e4, h2, q⟩)
/-! leaves of comprehensions -/
theorem dstepS_inv {acc : List (Key × D)} {kd v : D} {K : List (Key × D) → Prop} (h : dstepS acc kd v K) : ∃ key, kd = keyDat key ∧ K (putE acc key v) := by
  unfold dstepS at h
  split at h
  · rename_i key e
    exact ⟨key, keyD_dat e, h⟩
  · exact h.elim
def keyS (d : D) (K : Key → Prop) : Prop := match keyD d with
  | some key => K key
  | none => False
theorem keyS_inv {d : D} {K : Key → Prop} (h : keyS d K) : ∃ key, d = keyDat key ∧ K key := by
  unfold keyS at h
  split at h
  · rename_i key e
    exact ⟨key, keyD_dat e, h⟩
  · exact h.elim
theorem keyS_mk {key : Key} {K : Key → Prop} (h : K key) : keyS (keyDat key) K := by
  unfold keyS
  rw [keyD_keyDat]
  exact h
theorem lcA_link {ds : List D} {b : D → List D → (List D → Prop) → Prop} {KS : List D → Prop} {scope : Scope} {tg1 iter1 elt : Expr} {ifs ifs1 : List Expr} {f f1 : TgF} {vs1 : List Nat} {ρw : Rho} {Z : List D → Prop} (hW : forS ds [] b KS)
    (hb : ∀ d acc rest, b d acc rest → f d ρw fun ρ2 => Tsts X an dr scope ifs ρ2 om (.lst acc) fun t => if t = true then In2 X an dr scope tg1 iter1 elt ifs1 f1 vs1 ρ2 om acc rest else rest acc) (he : ∀ acc, KS acc → Z acc) :
    ∃ P : Nat → List D → Prop, P 0 [] ∧ (∀ i d acc, ds[i]? = some d → P i acc → f d ρw fun ρ2 => Tsts X an dr scope ifs ρ2 om (.lst acc) fun t => if t = true then In2 X an dr scope tg1 iter1 elt ifs1 f1 vs1 ρ2 om acc (P (i + 1)) else P (i + 1) acc) ∧ ∀ acc, P ds.length acc → Z acc :=
  ⟨fun i acc => forS (ds.drop i) acc b KS, hW, fun i d acc hd q => hb d acc _ (forS_at hd q), fun acc q => he acc (forS_end q)⟩
theorem lcB_link {ds : List D} {b : D → List D → (List D → Prop) → Prop} {KS N : List D → Prop} {scope : Scope} {elt : Expr} {ifs1 : List Expr} {f1 : TgF} {ρw : Rho} {acc0 : List D} {om1 : Om} (hW : forS ds acc0 b KS)
    (hb : ∀ d acc rest, b d acc rest → f1 d ρw fun ρ3 => Tsts X an dr scope ifs1 ρ3 om (.lst acc) fun t => if t = true then EltL X an dr scope elt ρ3 om acc rest else rest acc) (he : ∀ acc, KS acc → N acc) :
    om1 = om1 ∧ ∃ P1 : Nat → List D → Prop, P1 0 acc0 ∧ (∀ j d acc, ds[j]? = some d → P1 j acc → f1 d ρw fun ρ3 => Tsts X an dr scope ifs1 ρ3 om (.lst acc) fun t => if t = true then EltL X an dr scope elt ρ3 om acc (P1 (j + 1)) else P1 (j + 1) acc) ∧ ∀ acc, P1 ds.length acc → N acc :=
  ⟨rfl, fun i acc => forS (ds.drop i) acc b KS, hW, fun i d acc hd q => hb d acc _ (forS_at hd q), fun acc q => he acc (forS_end q)⟩
/-- the test of a clause -/
theorem tsts_link {C : (Bool → Prop) → Prop} {A B A' B' : Prop} {scope : Scope} {ρ2 : Rho} {acc : D} {c : Expr} (hW : ifS C A B) (h : ∀ KS, C KS → ∀ s H C' cl fp, WT (XB X scope s H C' cl fp) an dr ρ2 (om ++ [some acc]) c fun t om' => om' = om ++ [some acc] ∧ KS t)
    (ht : A → A') (hf : B → B') : Tsts X an dr scope [c] ρ2 om acc fun t => if t = true then A' else B' :=
  fun s H C' cl fp => WT.imp (h _ hW s H C' cl fp) fun t om' ⟨h1, q⟩ => ⟨h1, ifE2 q ht hf⟩
theorem walkV {d : D} {om : Om} {P Z : List D → Prop} (h : walkD d P) (i : ∀ ds, P ds → Z ds) : retR om (.v d) fun d' => walkD d' fun ds => Z ds := walkD_imp h i
theorem intV {i : Int} {K : Int → Prop} (h : K i) : intR (.v (.int i)) K := h
theorem allV1 {a0 : D} {K : List D → Prop} (h : K [a0]) : allV [.v a0] K := h
theorem allV2 {a0 a1 : D} {K : List D → Prop} (h : K [a0, a1]) : allV [.v a0, .v a1] K := h
theorem allV3 {a0 a1 a2 : D} {K : List D → Prop} (h : K [a0, a1, a2]) : allV [.v a0, .v a1, .v a2] K := h
theorem allV4 {a0 a1 a2 a3 : D} {K : List D → Prop} (h : K [a0, a1, a2, a3]) : allV [.v a0, .v a1, .v a2, .v a3] K := h
theorem allV5 {a0 a1 a2 a3 a4 : D} {K : List D → Prop} (h : K [a0, a1, a2, a3, a4]) : allV [.v a0, .v a1, .v a2, .v a3, .v a4] K := h
theorem allV6 {a0 a1 a2 a3 a4 a5 : D} {K : List D → Prop} (h : K [a0, a1, a2, a3, a4, a5]) : allV [.v a0, .v a1, .v a2, .v a3, .v a4, .v a5] K := h
theorem allV7 {a0 a1 a2 a3 a4 a5 a6 : D} {K : List D → Prop} (h : K [a0, a1, a2, a3, a4, a5, a6]) : allV [.v a0, .v a1, .v a2, .v a3, .v a4, .v a5, .v a6] K := h
theorem allV8 {a0 a1 a2 a3 a4 a5 a6 a7 : D} {K : List D → Prop} (h : K [a0, a1, a2, a3, a4, a5, a6, a7]) : allV [.v a0, .v a1, .v a2, .v a3, .v a4, .v a5, .v a6, .v a7] K := h
theorem allV9 {a0 a1 a2 a3 a4 a5 a6 a7 a8 : D} {K : List D → Prop} (h : K [a0, a1, a2, a3, a4, a5, a6, a7, a8]) : allV [.v a0, .v a1, .v a2, .v a3, .v a4, .v a5, .v a6, .v a7, .v a8] K := h
theorem twoV {a b : R} {K : R → R → Prop} (h : K a b) : twoR [a, b] K := h
theorem boot_sorted : bootBuiltins "sorted" = some (.builtin "sorted") := by decide +kernel
theorem wo_none {T : Option Int → Om → Prop} (h : T none om) : WO X an dr ρ om none T := h
theorem wo_some {T : Option Int → Om → Prop} (h : WE X an dr ρ om e fun r om1 => intR r fun i => T (some i) om1) : WO X an dr ρ om (some e) T := h
end
end DL

/-! calls by keywords alone -/
namespace DL
open PySem PySem.Spec L2
def pickL {α : Type} (perm : List Nat) (zs : List α) : List α := perm.filterMap (zs[·]?)
theorem pick_vals {zs : List V} {ws : List Value} (h : Vals zs ws) : ∀ perm : List Nat, Vals (pickL perm zs) (pickL perm ws)
  | [] => .nil
  | i :: perm => by
    have ih := pick_vals h perm
    unfold pickL at ih ⊢
    rw [List.filterMap_cons, List.filterMap_cons]
    cases q : zs[i]? with
    | none => rw [h.none_of q]; exact ih
    | some x =>
      obtain ⟨u, hu, r⟩ := h.get q
      rw [hu]
      exact .cons r ih
theorem pick_isL {K : PySem.W.Frag} {G : Hp} {vs : List V} {ds : List D} (h : IsL K G vs ds) : ∀ perm : List Nat, IsL K G (pickL perm vs) (pickL perm ds)
  | [] => .nil
  | i :: perm => by
    have ih := pick_isL h perm
    unfold pickL at ih ⊢
    rw [List.filterMap_cons, List.filterMap_cons]
    cases q : ds[i]? with
    | none =>
      have : vs[i]? = none := by
        rw [List.getElem?_eq_none_iff] at q ⊢
        rw [h.length]; exact q
      rw [this]; exact ih
    | some d =>
      obtain ⟨v, hv, iv⟩ := h.get q
      rw [hv]
      exact .cons iv ih
structure HasW (P : Program) (w : World) (K : PySem.W.Frag) (mg : Str → Option Value) (base : Heap) (dr : Option Dr) (k : Nat) (x : Str) (ps ks : List Str) (perm : List Nat) (W : Wp) : Prop where
  ex : ∃ f fd, FnOk P w K mg base CX0 k f fd ps (spD K dr W) ∧ mg x = some (.ref f) ∧ PySem.W.keepIn K (.ref f) = true ∧ KBn K fd ps 0 ks (fun _ ws => pickL perm ws) (fun _ zs => pickL perm zs)
  mono : ∀ ds Q Q', (∀ d, Q d → Q' d) → W ds Q → W ds Q'
def WK (X : Cx) (an : An) (dr : Option Dr) (ρ : Rho) (om : Om) (kws : List Keyword) (Q : List R → Om → Prop) : Prop := PK X kws (tDA X.K an dr ρ om Q)
def uK (X : Cx) (an : An) (dr : Option Dr) (e : List Keyword) : TA := fun σ H K' => ∃ ρ om Q, WK X an dr ρ om e Q ∧ tDA X.K an dr ρ om Q σ H K'
section
variable {X : Cx} {an : An} {dr : Option Dr} {ρ : Rho} {om : Om} {e a b o : Expr} {es : List Expr} {kws : List Keyword} {pos p kpos : Pos} {Q : R → Om → Prop} {x : Str} {nm : Option Str} {k j : Nat} {ps ks : List Str} {perm : List Nat} {W : Wp} {QA : List R → Om → Prop}
theorem pkI {t t' : TA} (h : PK X kws t) (i : ∀ σ H K', t' σ H K' → t σ H K') : PK X kws t' := ⟨fun pos pins s σ H Q I q => h.run pos pins s σ H Q I (i σ H Q q)⟩
theorem pk_u : PK X kws (uK X an dr kws) := ⟨fun pos pins s σ H K' I ⟨ρ, om, Q, w, h⟩ => PK.run w pos pins s σ H K' I h⟩
theorem uK_of {σ : L2.St} {H : Hp} {τ : List Addr} {G : Hp} {K' : List V → Hp → Prop} (w : WK X an dr ρ om kws QA) (g : Good X.K an dr om τ G H) (n : EnvIs X.K G τ σ ρ)
    (k : ∀ vs rs om' τ' G' H', Paired (IsR X.K G' τ') vs rs → QA rs om' → Good X.K an dr om' τ' G' H' → Grow G τ G' τ' → EnvIs X.K G' τ' σ ρ → K' vs H') : uK X an dr kws σ H K' :=
  ⟨ρ, om, QA, w, τ, G, g, n, fun vs rs om' τ' G' H' h1 h2 h3 h4 => k vs rs om' τ' G' H' h1 h2 h3 h4 (n.mono h4)⟩
theorem wk_nil (q : QA [] om) : WK X an dr ρ om [] QA := pkI pk_nil fun σ H K' ⟨τ, G, g, n, k⟩ => k [] [] om τ G H .nil q g (Grow.refl G τ)
theorem wk_cons (h : WE X an dr ρ om e fun r om1 => WK X an dr ρ om1 kws fun rs om2 => QA (r :: rs) om2) : WK X an dr ρ om (⟨nm, e, kpos⟩ :: kws) QA :=
  pkI (pk_cons (pe_u (an := an) (dr := dr)) (pk_u (an := an) (dr := dr))) fun σ H K' ⟨τ, G, g, n, k⟩ =>
    uE_of h g n fun v r om1 τ1 G1 H1 h1 w g1 gr1 n1 => uK_of w g1 n1 fun vs rs om2 τ2 G2 H2 h2 q g2 gr2 n2 => k (v :: vs) (r :: rs) om2 τ2 G2 H2 (.cons (h1.mono gr2) h2) q g2 (gr1.trans gr2)
def tCallW (m : Nat) (sp : Sp) (perm : List Nat) (tk : TA) : TE := fun σ H Q => tk σ H fun zs H2 => zs.length = m ∧ sp (pickL perm zs) H2 Q E0
theorem pe_callW {f : Addr} {fd : FuncData} {sp : Sp} {tk : TA} (F : FnOk X.prog X.w X.K X.mg X.base CX0 k f fd ps sp) (hr : Room k X.A) (hg : Gl X x) (hm : X.mg x = some (.ref f)) (hk : PySem.W.keepIn X.K (.ref f) = true) (hb : KBn X.K fd ps 0 ks (fun _ ws => pickL perm ws) (fun _ zs => pickL perm zs))
    (hkw : PK X kws tk) (hall : (backToKw pos (keywordEach kws X.env)).all (·.1.isSome) = true) (hks : (backToKw pos (keywordEach kws X.env)).filterMap (·.1) = ks) (hdb : (x == ("__debug__" : Str)) = false)
    (hpl : ((backTo pos (starEach [] X.env)).any (·.1) || (backToKw pos (keywordEach kws X.env)).any (·.1.isNone)) = false) : PE X (.Call (.Name x p) [] kws pos) (tCallW ks.length sp perm tk) := by
  refine ⟨fun pins s σ H Q I h => ?_⟩
  refine wpAny_Call_Name_kw (ld_glob I hg hm ?_ hdb)
  refine PySem.W.callWith_KW0 (h₀ := X.base) I.ok.mod.kin hk hall (thn (hkw.run pos pins s σ H _ I h) fun ws s2 ⟨zs, H2, I2, rz, l2, q2⟩ => ⟨I2.kIn, ?_⟩) hpl
  rw [hks]
  exact run_fnN (vs := []) F hr hb pass0 I2 .nil rz rfl l2 q2
theorem we_callW (h : HasW X.prog X.w X.K X.mg X.base dr k x ps ks perm W) (hr : Room j X.A) (hw : WK X an dr ρ om kws fun rs om1 => allV rs fun ds => ds.length = ks.length ∧ W (pickL perm ds) fun d => Q (.v d) om1) (hkj : k ≤ j := by decide) (hg : Gl X x := by rfl)
    (hall : (backToKw pos (keywordEach kws X.env)).all (·.1.isSome) = true := by rfl) (hks : (backToKw pos (keywordEach kws X.env)).filterMap (·.1) = ks := by rfl) (hdb : (x == ("__debug__" : Str)) = false := by decide)
    (hpl : ((backTo pos (starEach [] X.env)).any (·.1) || (backToKw pos (keywordEach kws X.env)).any (·.1.isNone)) = false := by rfl) : WE X an dr ρ om (.Call (.Name x p) [] kws pos) Q := by
  obtain ⟨f, fd, F, hm, hk, hb⟩ := h.ex
  refine peI (pe_callW F (hr.mono hkj) hg hm hk hb (pk_u (an := an) (dr := dr)) hall hks hdb hpl) fun σ H K' ⟨τ, G, g, n, k⟩ => uK_of hw g n fun vs rs om1 τ1 G1 H1 h1 w g1 gr1 n1 => ?_
  obtain ⟨ds, i, hl, w⟩ := allV_is h1 w
  refine ⟨by rw [i.length]; exact hl, G1, pickL perm ds, g1.pre, pick_isL i perm, h.mono _ _ _ (fun d q v G' H' i' fr => ?_) w⟩
  exact k v _ om1 τ1 G' H' (.v i') q (g1.call fr) (gr1.trans ⟨fr.e1, fun _ _ h => h⟩)
end
end DL

/-! the end of a row -/
namespace DL
open PySem PySem.Spec L2
theorem FnG.lift {P : Program} {w : World} {K : PySem.W.Frag} {mg : Str → Option Value} {base : Heap} {CX : CXT} {j k : Nat} {f : Addr} {fd : FuncData} {ps : List Str} {sp : Sp} (F : FnG P w K mg base CX j f fd ps sp) (h : j ≤ k) : FnG P w K mg base CX k f fd ps sp := ⟨F.len, fun A outer s H args us vs Q E hr => F.run A outer s H args us vs Q E (hr.mono h)⟩
theorem mono_take {x : Dr} : ∀ ds Q Q', (∀ d, Q d → Q' d) → W_take x ds Q → W_take x ds Q' := fun ds Q Q' i ⟨n, e, h, q⟩ => ⟨n, e, h, fun k a b => i _ (q k a b)⟩
theorem mono_blend {x : Dr} : ∀ ds Q Q', (∀ d, Q d → Q' d) → W_blend x ds Q → W_blend x ds Q' := fun ds Q Q' i ⟨e, q⟩ => ⟨e, fun k => i _ (q k)⟩
/-- a promise that asks what can't be -/
theorem ok_never {P : Program} {w : World} {K : PySem.W.Frag} {mg : Str → Option Value} {base : Heap} {k : Nat} {f : Addr} {fd : FuncData} {ps : List Str} {sp : Sp} (h : ∀ vs H Q E, ¬ sp vs H Q E) : FnOk P w K mg base CX0 k f fd ps sp where
  len := fun vs H Q E q => absurd q (h _ _ _ _)
  run := fun A outer s H args us vs Q E _ _ _ _ q => absurd q (h _ _ _ _)
theorem okG_never {P : Program} {w : World} {K : PySem.W.Frag} {mg : Str → Option Value} {base : Heap} {k : Nat} {f : Addr} {fd : FuncData} {ps : List Str} {sp : Sp} (h : ∀ vs H Q E, ¬ sp vs H Q E) : FnG P w K mg base CX0 k f fd ps sp := .of (ok_never h)
theorem spD_never {K : PySem.W.Frag} {dr : Option Dr} {W : Wp} (h : ∀ ds P, ¬ W ds P) : ∀ vs H Q E, ¬ spD K dr W vs H Q E := fun vs H Q E ⟨G, ds, _, _, q⟩ => h _ _ q
theorem prop_mk {P : Program} {w : World} {K : PySem.W.Frag} {mg : Str → Option Value} {base : Heap} {C p g : Addr} {f own name qual : Str} {st : Stmt} {oc : Value} {od an : Option Addr} {osl : Array (Option Value)} {kV doc pm cdv ct : Value} {rest : List Value} {p1 p2 p3 : Pos}
    (c : Cls K C) (n : NoAttr K C own) (a : PySem.W.findIn K (.ref C) f = some (some (.ref p))) (h1 : PySem.W.specialIn K (.ref p) "__get__" = some (some (.builtin "property.__get__"))) (h2 : PySem.W.takesIn K (.ref p) = some true) (h3 : PySem.W.recIn K p "property" = some (.ref g :: rest))
    (l : K.lookup g = some ⟨oc, od, .func (PySem.W.fnOf name qual (defArgs st) (defBody st) (defScope st) .none kV doc pm an cdv ct), osl⟩) (hc : PySem.W.codeIn K cdv qual = true) (S : FnScope ["self"] ["self"] (defScope st)) (hb : defBody st = [.Return (some (.Attribute (.Name "self" p1) own p2)) p3])
    (bi : ∀ us : List Value, us.length = 1 → bindArgs (PySem.W.fnOf name qual (defArgs st) (defBody st) (defScope st) .none kV doc pm an cdv ct) ⟨us, []⟩ = pure ((["self"] : List Str).zip us)) : HasP P w K mg base 1 C f own :=
  ⟨⟨p, g, _, fn_getter (k := 0) l hc S rfl hb c n, ⟨a, h1, h2, rest, h3⟩, .all bi⟩, c⟩
end DL

namespace DL
open PySem L2
section
variable {X : Cx} {an : An} {dr : Option Dr} {ρ : Rho} {om : Om} {e a b c : Expr} {pos p apos : Pos} {i k : Nat} {x : Str} {Q : R → Om → Prop} {E : Ed}
/-- a, b, c = x, y, z -/
theorem ws_par3 {i j l : Nat} {x y z : Str} {px py pz pt : Pos} {kt k2 pt2} (hc : X.calm = true) (hN : X.N.Nodup) (hi : X.N[i]? = some x) (hj : X.N[j]? = some y) (hl : X.N[l]? = some z) (hij : i ≠ j) (hil : i ≠ l) (hjl : j ≠ l)
    (hx : X.env.scope.names.lookup x = some .local) (hy : X.env.scope.names.lookup y = some .local) (hz : X.env.scope.names.lookup z = some .local)
    (h : WA X an dr ρ om [a, b, c] fun rs om1 => ∃ r1 r2 r3, rs = [r1, r2, r3] ∧ E.nx (((ρ.set i (some r1)).set j (some r2)).set l (some r3)) om1)
    (hw : swappedStores [.Tuple [.Name x px, .Name y py, .Name z pz] kt pt] (.Tuple [a, b, c] k2 pt2) X.env = pure (some [x, y, z]) := by rfl) (hs : swapsWithSole [.Tuple [.Name x px, .Name y py, .Name z pz] kt pt] (.Tuple [a, b, c] k2 pt2) pos.line X.env = pure false := by rfl) :
    WS X an dr ρ om (.Assign [.Tuple [.Name x px, .Name y py, .Name z pz] kt pt] (.Tuple [a, b, c] k2 pt2) pos) E :=
  psI (ps_par3 (i := i) (j := j) (l := l) hc hN hi hj hl hij hil hjl hx hy hz (pa_u (an := an) (dr := dr)) hw hs) fun Z σ H ⟨τ, G, g, n, hl, h1, _⟩ => uA_of h g n fun vs rs om1 τ1 G1 H1 i1 w g1 gr1 n1 => by
    obtain ⟨r1, r2, r3, rfl, w⟩ := w
    cases i1 with
    | cons a1 i1 =>
      cases i1 with
      | cons a2 i1 =>
        cases i1 with
        | cons a3 i1 =>
          cases i1
          exact ⟨_, _, _, rfl, h1 _ H1 ⟨_, om1, τ1, G1, w, g1, ((n1.set hl a1).set (by rw [List.length_set, List.length_set]; exact hl) a2).set (by rw [List.length_set, List.length_set, List.length_set, List.length_set]; exact hl) a3, gr1, by rw [List.length_set, List.length_set, List.length_set]; exact hl, by rw [List.length_set, List.length_set, List.length_set]⟩⟩
/-- xs[i] = e, a list of one's own -/
def lputS (l ix v : D) (K : D → Prop) : Prop := match l, ix with
  | .lst ds, .int i => ∃ j, ixN ds.length i = some j ∧ K (.lst (ds.set j v))
  | _, _ => False
theorem lput_inv {l ix v : D} {K : D → Prop} (h : lputS l ix v K) : ∃ ds i j, l = .lst ds ∧ ix = .int i ∧ ixN ds.length i = some j ∧ K (.lst (ds.set j v)) := by
  unfold lputS at h
  split at h
  · obtain ⟨j, h1, h2⟩ := h; exact ⟨_, _, j, rfl, rfl, h1, h2⟩
  · exact h.elim
theorem lputS_imp {l ix v : D} {K K' : D → Prop} (h : lputS l ix v K) (i : ∀ d, K d → K' d) : lputS l ix v K' := by
  obtain ⟨ds, n, j, rfl, rfl, h1, h2⟩ := lput_inv h
  exact ⟨j, h1, i _ h2⟩
theorem IsL.setAt {K : PySem.W.Frag} {G : Hp} {v : V} {d : D} (i : Is K G v d) : ∀ {vs : List V} {ds : List D} (j : Nat), IsL K G vs ds → IsL K G (vs.set j v) (ds.set j d)
  | _, _, _, .nil => .nil
  | _, _, 0, .cons _ t => .cons i t
  | _, _, j + 1, .cons r t => .cons r (IsL.setAt i j t)
theorem ws_lputS {ix : Expr} {pos' : Pos} (hN : X.N[i]? = some x) (hv : Vis X.env.scope x) (hr : ρ[i]? = some (some (.o k)))
    (h : WE X an dr ρ om e fun r om1 => ∃ d, r = .v d ∧ WE X an dr ρ om1 ix fun ri om3 => ∃ kx l1, ri = .v kx ∧ om3[k]? = some (some l1) ∧ lputS l1 kx d fun l2 => E.nx ρ (om3.set k (some l2)))
    (hd : (x == ("__debug__" : Str)) = false := by decide) (hcd : (x == ("__classdict__" : Str)) = false := by decide)
    (hs : swapsWithSole [.Subscript (.Name x p) ix pos'] e pos.line X.env = pure false := by rfl) (hw : swappedStores [.Subscript (.Name x p) ix pos'] e X.env = pure none := by rfl)
    (h1 : (assignEach [.Subscript (.Name x p) ix pos'] X.env).map (·.2) = [assign (.Subscript (.Name x p) ix pos') X.env] := by rfl)
    (ha : ∀ v, assign (.Subscript (.Name x p) ix pos') X.env v = (do
      let ov ← holding [v] (eval (.Name x p) X.env)
      let iv ← holding [v, ov] (eval ix X.env)
      standAt pos'
      holding [v, ov, iv] (setItem ov iv v)
      release [v, ov, iv] []) := by intro _; rfl) : WS X an dr ρ om (.Assign [.Subscript (.Name x p) ix pos'] e pos) E :=
  psI (ps_asg (pe_u (an := an) (dr := dr)) (pg_sub (pe_u (an := an) (dr := dr)) (pe_u (an := an) (dr := dr)) set_list ha) hs hw h1) fun Z σ H ⟨τ, G, g, n, hl, hz, _⟩ => uE_of h g n fun v r om1 τ1 G1 H1 i1 w g1 gr1 n1 => by
    obtain ⟨d, rfl, w⟩ := w
    refine uE_of (we_name (Q := fun r om2 => r = .o k ∧ om2 = om1) hN hv hr ⟨rfl, rfl⟩ hd hcd) g1 n1 fun v2 r2 om2 τ2 G2 H2 i2 w2 g2 gr2 n2 => ?_
    obtain ⟨rfl, rfl⟩ := w2
    refine uE_of w g2 n2 fun v3 r3 om3 τ3 G3 H3 i3 w3 g3 gr3 n3 => ?_
    obtain ⟨kx, l1, rfl, ho, w3⟩ := w3
    obtain ⟨ds, ii, j, rfl, rfl, hj, q⟩ := lput_inv w3
    cases i2 with
    | @o a _ ha =>
      have ha := gr3.pre _ _ ha
      obtain ⟨_, _, _, _, h3, vs, rfl, il⟩ := g3.own k a _ ha ho
      cases i3 with
      | v i3 =>
        obtain rfl := i3.int_inv
        cases i1 with
        | v i1 =>
          refine ⟨a, vs, ii, j, rfl, rfl, h3, by rw [il.length]; exact hj, hz σ _ ⟨ρ, _, τ3, G3, q, g3.write ha ho (IsL.setAt (i1.mono (gr2.trans gr3).ex) j il), n3, (gr1.trans gr2).trans gr3, hl, rfl⟩⟩
/-- xs.insert(i, e), a list of one's own -/
def insAtS (l ix v : D) (K : D → Prop) : Prop := match l, ix with
  | .lst ds, .int i => ds.length < sizeLine ∧ 0 ≤ i ∧ i < 2 ^ 63 ∧ K (.lst (ds.take i.toNat ++ [v] ++ ds.drop i.toNat))
  | _, _ => False
theorem insAt_inv {l ix v : D} {K : D → Prop} (h : insAtS l ix v K) : ∃ ds i, l = .lst ds ∧ ix = .int i ∧ ds.length < sizeLine ∧ 0 ≤ i ∧ i < 2 ^ 63 ∧ K (.lst (ds.take i.toNat ++ [v] ++ ds.drop i.toNat)) := by
  unfold insAtS at h
  split at h
  · exact ⟨_, _, rfl, rfl, h⟩
  · exact h.elim
theorem insAtS_imp {l ix v : D} {K K' : D → Prop} (h : insAtS l ix v K) (i : ∀ d, K d → K' d) : insAtS l ix v K' := by
  obtain ⟨ds, n, rfl, rfl, h1, h2, h3, h4⟩ := insAt_inv h
  exact ⟨h1, h2, h3, i _ h4⟩
theorem we_insAtS {l : D} {A : Prop} {e2 : Expr} (hN : X.N[i]? = some x) (hv : Vis X.env.scope x) (hr : ρ[i]? = some (some (.o k))) (ho : om[k]? = some (some l)) (hW : lstS l A)
    (h : A → WA X an dr ρ om [e, e2] fun rs om2 => ∃ d d2 l1, rs = [.v d, .v d2] ∧ om2[k]? = some (some l1) ∧ insAtS l1 d d2 fun l2 => Q (.v .non) (om2.set k (some l2)))
    (hd : (x == ("__debug__" : Str)) = false := by decide) (hcd : (x == ("__classdict__" : Str)) = false := by decide)
    (hbase : attributeBase (.Name x p) "insert" X.env (eval (.Name x p) X.env) = eval (.Name x p) X.env := by rfl) (hfew : ((backTo pos (starEach [e, e2] X.env)).all (fun x => !x.1) && (backToKw pos (keywordEach [] X.env)).all (fun x => x.1.isSome)
      && decide ([e, e2].length + ([] : List Keyword).length + (if ([] : List Keyword).isEmpty then 0 else 1) < 30)) = true := by rfl)
    (hline : (apos.endLine == pos.line) = true := by rfl) (hs : starEach [e, e2] X.env = (false, eval e X.env) :: starEach [e2] X.env := by rfl) (hpl : (backTo pos (starEach [e2] X.env)).any (·.1) = false := by rfl) :
    WE X an dr ρ om (.Call (.Attribute (.Name x p) "insert" apos) [e, e2] [] pos) Q := by
  unfold lstS at hW
  split at hW
  · rename_i ds0
    refine peI (pe_bm PySem.F.plainAttrs_list PySem.F.slot_list_insert PySem.F.type_list_insert mt_insert (pe_u (an := an) (dr := dr)) (pa_u (an := an) (dr := dr)) hbase hfew hline hs hpl) fun σ H K' ⟨τ, G, g, n, kk⟩ =>
      uE_of (we_name (Q := fun r om2 => r = .o k ∧ om2 = om) hN hv hr ⟨rfl, rfl⟩ hd hcd) g n fun v r om1 τ1 G1 H1 h1 w g1 gr1 n1 => ?_
    obtain ⟨rfl, rfl⟩ := w
    cases h1 with
    | @o a _ h1 =>
      obtain ⟨_, _, _, _, e1, vs1, rfl, _⟩ := g1.own k a (.lst ds0) h1 ho
      refine ⟨tyV_l e1, uA_of (h hW) g1 n1 fun vs2 rs om2 τ2 G2 H2 h2 w2 g2 gr2 n2 => ?_⟩
      obtain ⟨d, d2, l1, rfl, ho2, w2⟩ := w2
      obtain ⟨ds, ii, rfl, rfl, hz, z0, z1, q⟩ := insAt_inv w2
      have hk := gr2.pre _ _ h1
      obtain ⟨_, _, _, _, e4, vs, rfl, e5⟩ := g2.own k a (.lst ds) hk ho2
      cases h2 with
      | cons h2 h3 =>
        cases h3 with
        | cons h3 h4 =>
          cases h4
          cases h2 with
          | v h2 =>
            obtain rfl := h2.int_inv
            cases h3 with
            | v h3 =>
              exact ⟨a, vs, ii, _, rfl, rfl, e4, by rw [e5.length]; exact hz, z0, z1, kk _ _ _ τ2 G2 _ (.v .non) q (g2.write hk ho2 (((e5.take _).append (.cons h3 .nil)).append (e5.drop _))) (gr1.trans gr2)⟩
  · exact hW.elim
/-- a tuple, so many times -/
def tmulS (x y : D) (K : D → Prop) : Prop := match x, y with
  | .tup a, .int j => (a ≠ [] ∧ 2 ≤ j ∧ j ≤ 1000 ∧ a.length ≤ 1000) ∧ K (.tup (List.replicate j.toNat a).flatten)
  | _, _ => False
theorem tmul_inv {x y : D} {K : D → Prop} (h : tmulS x y K) : ∃ a j, x = .tup a ∧ y = .int j ∧ (a ≠ [] ∧ 2 ≤ j ∧ j ≤ 1000 ∧ a.length ≤ 1000) ∧ K (.tup (List.replicate j.toNat a).flatten) := by
  unfold tmulS at h
  split at h
  · exact ⟨_, _, rfl, rfl, h⟩
  · exact h.elim
theorem tmulS_imp {x y : D} {K K' : D → Prop} (h : tmulS x y K) (i : ∀ d, K d → K' d) : tmulS x y K' := by
  obtain ⟨a, j, rfl, rfl, h1, h2⟩ := tmul_inv h
  exact ⟨h1, i _ h2⟩
theorem we_tmulS (h : WE X an dr ρ om a fun ra om1 => WE X an dr ρ om1 b fun rb om2 => tmulS (vw om2 ra) (vw om2 rb) fun d => Q (.v d) om2) : WE X an dr ρ om (.BinOp a .Mult b pos) Q :=
  peI (pe_op op_repT (pe_u (an := an) (dr := dr)) (pe_u (an := an) (dr := dr))) fun σ H K' ⟨τ, G, g, n, k⟩ =>
    uE_of h g n fun v r om1 τ1 G1 H1 h1 w g1 gr1 n1 => uE_of w g1 n1 fun v2 r2 om2 τ2 G2 H2 h2 q g2 gr2 n2 => by
      obtain ⟨xs, j, e1, e2, ⟨c1, c2, c3, c4⟩, q⟩ := tmul_inv q
      obtain ⟨pa, vs, rfl, hp, il⟩ := vw_tup g2 (h1.mono gr2) e1
      obtain rfl := vw_int g2 h2 e2
      refine ⟨pa, j, vs, rfl, rfl, hp, fun z => c1 (by cases vs with | nil => cases il; rfl | cons _ _ => cases z), c2, c3, by rw [il.length]; exact c4, fun l hl => ?_⟩
      exact k _ _ om2 τ2 _ _ (.v (.tup upd_same ((il.rep _).mono (Ex.new (g2.ex.free hl))))) q (g2.alloc hl) ((gr1.trans gr2).trans (g2.grow hl))
/-- a tuple of texts of the module -/
structure GTup (K : PySem.W.Frag) (mg : Str → Option Value) (g : Str) (xs : List Str) : Prop where
  at_ : ∃ A : Addr, mg g = some (.ref A) ∧ ∀ H : Hp, SqT K H A (xs.map V.str)
def inGS (xs : List Str) (d : D) (K : Bool → Prop) : Prop := match d with
  | .str x => K (decide (x ∈ xs))
  | _ => False
theorem inG_inv {xs : List Str} {d : D} {K : Bool → Prop} (h : inGS xs d K) : ∃ x, d = .str x ∧ K (decide (x ∈ xs)) := by
  unfold inGS at h
  split at h
  · exact ⟨_, rfl, h⟩
  · exact h.elim
theorem inGS_imp {xs : List Str} {d : D} {K K' : Bool → Prop} (h : inGS xs d K) (i : ∀ t, K t → K' t) : inGS xs d K' := by
  obtain ⟨x, rfl, h⟩ := inG_inv h
  exact i _ h
theorem inV_strs {x : Str} : ∀ {xs : List Str}, inV (.str x) (xs.map V.str) = decide (x ∈ xs)
  | [] => rfl
  | y :: xs => by
    have ih := inV_strs (x := x) (xs := xs)
    unfold inV at ih ⊢
    rw [List.map_cons, List.any_cons, ih]
    by_cases e : x = y
    · subst e; simp [eqV]
    · have e2 : ¬ y = x := fun h => e h.symm
      simp [eqV, e, e2]
theorem wt_inG {xs : List Str} {g : Str} {pg : Pos} {T : Bool → Om → Prop} (neg : Bool) (hG : GTup X.K X.mg g xs) (hg : Gl X g) (h : WE X an dr ρ om a fun ra om1 => inGS xs (vw om1 ra) fun t => T (if neg then !t else t) om1)
    (hm : behindInMarks (if neg then .NotIn else .In) (.Name g pg) = false := by first | exact nobehind _ (by decide) (by decide) | rfl) (hdb : (g == ("__debug__" : Str)) = false := by decide) : WT X an dr ρ om (.Compare a [if neg then .NotIn else .In] [.Name g pg] pos) T := by
  obtain ⟨A, hA, hS⟩ := hG.at_
  have fl : (xs.map V.str).all flatV = true := by rw [List.all_map, List.all_eq_true]; exact fun _ _ => rfl
  cases neg
  · exact ptI (pt_cmpR op_in_seq (pe_u (an := an) (dr := dr)) (pe_glob hg hA (v := .ref A) rfl hdb) hm) fun σ H K' ⟨τ, G, g, n, k⟩ => uE_of h g n fun v r om1 τ1 G1 H1 h1 w g1 gr1 n1 => by
      obtain ⟨x, ex, w⟩ := inG_inv w
      obtain rfl := vw_str g1 h1 ex
      exact ⟨A, _, rfl, .inr (hS _), rfl, fl, by rw [inV_strs]; exact ⟨_, rfl, k _ om1 τ1 G1 H1 w g1 gr1⟩⟩
  · exact ptI (pt_cmpR op_notIn_seq (pe_u (an := an) (dr := dr)) (pe_glob hg hA (v := .ref A) rfl hdb) hm) fun σ H K' ⟨τ, G, g, n, k⟩ => uE_of h g n fun v r om1 τ1 G1 H1 h1 w g1 gr1 n1 => by
      obtain ⟨x, ex, w⟩ := inG_inv w
      obtain rfl := vw_str g1 h1 ex
      exact ⟨A, _, rfl, .inr (hS _), rfl, fl, by rw [inV_strs]; exact ⟨_, rfl, k _ om1 τ1 G1 H1 w g1 gr1⟩⟩
end
end DL

namespace DL
open PySem L2 PySem.Spec
/-! a thing of one's own becomes data between two statements -/
theorem EnvIs.retype {K : PySem.W.Frag} {G : Hp} {τ : List Addr} {σ : L2.St} {ρ : Rho} {i : Nat} {v : V} {r : R} (n : EnvIs K G τ σ ρ) (hv : σ[i]? = some (some v)) (hr : IsR K G τ v r) : EnvIs K G τ σ (ρ.set i (some r)) := fun j r' e => by
  by_cases h : i = j
  · subst h
    by_cases hl : i < ρ.length
    · rw [List.getElem?_set_self hl] at e
      cases e
      exact ⟨v, hv, hr⟩
    · rw [List.getElem?_eq_none (by rw [List.length_set]; omega)] at e
      cases e
  · rw [List.getElem?_set_ne h] at e
    exact n j r' e
section
variable {X : Cx} {an : An} {dr : Option Dr} {ρ : Rho} {om : Om} {sts : List Stmt} {E : Ed}
theorem wss_fz {i k : Nat} {d : D} (hr : ρ[i]? = some (some (.o k))) (ho : om[k]? = some (some d)) (nd : isDict d = false) (h : WSs X an dr (ρ.set i (some (.v d))) (om.set k none) sts E) : WSs X an dr ρ om sts E :=
  pssI h fun Z σ H ⟨τ, G, g, n, hl, h1, h2, h3, h4⟩ => by
    obtain ⟨v, hv, iv⟩ := n i _ hr
    cases iv with
    | @o p _ hk =>
      obtain ⟨o, g', gr, iz⟩ := g.freeze hk ho nd
      refine ⟨τ, upd G p o, g', (n.mono gr).retype hv (.v iz), by rw [List.length_set]; exact hl, ?_, ?_, ?_, ?_⟩
      · rintro σ' H' ⟨ρ', om', τ', G', p1, p2, p3, p4, p5, p6⟩
        rw [List.length_set] at p5 p6
        exact h1 σ' H' ⟨ρ', om', τ', G', p1, p2, p3, gr.trans p4, p5, p6⟩
      · rintro v' H' ⟨d', om', τ', G', p1, p2, p3, p4⟩
        exact h2 v' H' ⟨d', om', τ', G', p1, p2, p3, gr.trans p4⟩
      · rintro σ' H' ⟨ρ', om', τ', G', p1, p2, p3, p4, p5, p6⟩
        rw [List.length_set] at p5 p6
        exact h3 σ' H' ⟨ρ', om', τ', G', p1, p2, p3, gr.trans p4, p5, p6⟩
      · rintro σ' H' ⟨ρ', om', τ', G', p1, p2, p3, p4, p5, p6⟩
        rw [List.length_set] at p5 p6
        exact h4 σ' H' ⟨ρ', om', τ', G', p1, p2, p3, gr.trans p4, p5, p6⟩
theorem lstS_inv {d : D} {A : Prop} (h : lstS d A) : ∃ ds, d = .lst ds ∧ A := by
  unfold lstS at h
  split at h
  · exact ⟨_, rfl, h⟩
  · exact h.elim
theorem lstS_nd {d : D} {A : Prop} (h : lstS d A) : isDict d = false := by obtain ⟨ds, rfl, _⟩ := lstS_inv h; rfl
theorem lstS_get {d : D} {A : Prop} (h : lstS d A) : A := by obtain ⟨ds, rfl, h⟩ := lstS_inv h; exact h
/-! list(d), sorted(d), int(b) -/
def sortUF : Wp := fun ds K => match ds with
  | [.dic kds] => ∃ ks : List Str, kds.map (·.1) = ks.map Sum.inr ∧ ks.length < 64 ∧ ∀ ys : List Str, ys.Perm ks → PyProof.Rows.sortedS ys = true → K (.lst (ys.map D.str))
  | ds => sortF ds K
def listUF : Wp := fun ds K => match ds with
  | [.dic kds] => K (.lst (kds.map fun kv => keyDat kv.1))
  | ds => listF ds K
def intUF : Wp := fun ds K => match ds with
  | [.bl b] => K (.int (if b = true then 1 else 0))
  | ds => intF ds K
theorem sortUF_mono : ∀ ds Q Q', (∀ d, Q d → Q' d) → sortUF ds Q → sortUF ds Q' := fun ds Q Q' i h => by
  unfold sortUF at h ⊢
  split at h
  · obtain ⟨ks, h1, h2, h3⟩ := h; exact ⟨ks, h1, h2, fun ys a b => i _ (h3 ys a b)⟩
  · exact sortF_mono _ _ _ i h
theorem listUF_mono : ∀ ds Q Q', (∀ d, Q d → Q' d) → listUF ds Q → listUF ds Q' := fun ds Q Q' i h => by
  unfold listUF at h ⊢
  split at h
  · exact i _ h
  · exact listF_mono _ _ _ i h
theorem intUF_mono : ∀ ds Q Q', (∀ d, Q d → Q' d) → intUF ds Q → intUF ds Q' := fun ds Q Q' i h => by
  unfold intUF at h ⊢
  split at h
  · exact i _ h
  · exact intF_mono _ _ _ i h
theorem isD_keys {κ : Type} {K : PySem.W.Frag} {G : Hp} : ∀ {kvs : List (κ × V)} {kds : List (κ × D)}, IsD K G kvs kds → kvs.map (·.1) = kds.map (·.1)
  | _, _, .nil => rfl
  | _, _, .cons _ q => congrArg (_ :: ·) (isD_keys q)
theorem isL_keys {K : PySem.W.Frag} {G : Hp} : ∀ {kvs : List (Key × V)} {kds : List (Key × D)}, IsD K G kvs kds → IsL K G (kvs.map fun kv => kV kv.1) (kds.map fun kv => keyDat kv.1)
  | _, _, .nil => .nil
  | _, _, .cons (k := k) _ q => .cons (by cases k; exact .int _; exact .str _) (isL_keys q)
theorem cb_sortU (hc : X.calm = true) : CallR X (.builtin "sorted") (rB X sortUF) := by
  intro pins s σ H xs us Q I r h
  obtain ⟨an, dr, om, τ, G, rs, g, hp, h⟩ := h
  unfold sortUF at h
  split at h
  · rename_i kds e
    obtain ⟨ks, h1, h2, q⟩ := h
    obtain ⟨v, r0, rfl, rfl, i, ev⟩ := one_arg hp e
    obtain ⟨a, kvs, rfl, ha, id⟩ := vw_dic g i ev
    refine call_sortedD hc pins s σ H _ us Q I r ⟨a, kvs, ks, rfl, ha, (isD_keys id).trans h1, h2, fun ys p y1 y2 hp => ?_⟩
    exact q ys y1 y2 _ _ _ (.lst upd_same (isL_strs ys)) (g.alloc hp) (g.grow hp)
  · exact cb_sort pins s σ H xs us Q I r ⟨an, dr, om, τ, G, rs, g, hp, h⟩
theorem cb_listU (hc : X.calm = true) : CallR X (.type "list") (rB X listUF) := by
  intro pins s σ H xs us Q I r h
  obtain ⟨an, dr, om, τ, G, rs, g, hp, h⟩ := h
  unfold listUF at h
  split at h
  · rename_i kds e
    obtain ⟨v, r0, rfl, rfl, i, ev⟩ := one_arg hp e
    obtain ⟨a, kvs, rfl, ha, id⟩ := vw_dic g i ev
    exact call_listD hc pins s σ H _ us Q I r ⟨a, kvs, rfl, ha, fun p hp => h.lst g (isL_keys id) p hp⟩
  · exact cb_list pins s σ H xs us Q I r ⟨an, dr, om, τ, G, rs, g, hp, h⟩
theorem cb_intU : CallR X (.type "int") (rB X intUF) := by
  intro pins s σ H xs us Q I r h
  obtain ⟨an, dr, om, τ, G, rs, g, hp, h⟩ := h
  unfold intUF at h
  split at h
  · rename_i b e
    obtain ⟨v, r0, rfl, rfl, i, ev⟩ := one_arg hp e
    obtain rfl := vw_bl g i ev
    exact call_int1 pins s σ H _ us Q I r (.inr ⟨_, rfl, h.flat g (.int _)⟩)
  · exact cb_int pins s σ H xs us Q I r ⟨an, dr, om, τ, G, rs, g, hp, h⟩
def unp4 (d : D) (K : D → D → D → D → Prop) : Prop := match d with
  | .tup [a, b, c, d1] => K a b c d1
  | .lst [a, b, c, d1] => K a b c d1
  | _ => False
theorem unp4_link {f1 f2 f3 f4 : TgF} {d : D} {ρ : Rho} {P : Rho → Prop} {K : D → D → D → D → Prop} (h : unp4 d K) (i : ∀ a b c d1, K a b c d1 → f1 a ρ fun ρ1 => f2 b ρ1 fun ρ2 => f3 c ρ2 fun ρ3 => f4 d1 ρ3 P) : fT 4 (fCons f1 (fCons f2 (fCons f3 (fCons f4 fNil)))) d ρ P := by
  unfold unp4 at h
  split at h
  · exact ⟨rfl, i _ _ _ _ h⟩
  · exact ⟨rfl, i _ _ _ _ h⟩
  · exact h.elim
def unp5 (d : D) (K : D → D → D → D → D → Prop) : Prop := match d with
  | .tup [a, b, c, d1, e] => K a b c d1 e
  | .lst [a, b, c, d1, e] => K a b c d1 e
  | _ => False
theorem unp5_link {f1 f2 f3 f4 f5 : TgF} {d : D} {ρ : Rho} {P : Rho → Prop} {K : D → D → D → D → D → Prop} (h : unp5 d K) (i : ∀ a b c d1 e, K a b c d1 e → f1 a ρ fun ρ1 => f2 b ρ1 fun ρ2 => f3 c ρ2 fun ρ3 => f4 d1 ρ3 fun ρ4 => f5 e ρ4 P) : fT 5 (fCons f1 (fCons f2 (fCons f3 (fCons f4 (fCons f5 fNil))))) d ρ P := by
  unfold unp5 at h
  split at h
  · exact ⟨rfl, i _ _ _ _ _ h⟩
  · exact ⟨rfl, i _ _ _ _ _ h⟩
  · exact h.elim
/-! a property that computes -/
def prpS (C : Addr) (d : D) (A : Prop) : Prop := match d with
  | .ins B _ => B = C ∧ A
  | _ => False
theorem prpS_inv {C : Addr} {d : D} {A : Prop} (h : prpS C d A) : ∃ fds, d = .ins C fds ∧ A := by
  unfold prpS at h
  split at h
  · obtain ⟨rfl, h⟩ := h; exact ⟨_, rfl, h⟩
  · exact h.elim
theorem prpS_imp {C : Addr} {d : D} {A B : Prop} (h : prpS C d A) (i : A → B) : prpS C d B := by
  obtain ⟨fds, rfl, q⟩ := prpS_inv h
  exact ⟨rfl, i q⟩
structure HasQ (P : Program) (w : World) (K : PySem.W.Frag) (mg : Str → Option Value) (base : Heap) (dr : Option Dr) (k : Nat) (C : Addr) (f : Str) (ps : List Str) (W : Wp) : Prop where
  ex : ∃ p g fd, FnOk P w K mg base CX0 k g fd ps (spD K dr W) ∧ PropOf K C f p g ∧ Binds K fd ps []
  cl : Cls K C
  mono : ∀ ds Q Q', (∀ d, Q d → Q' d) → W ds Q → W ds Q'
theorem we_propF {e : Expr} {pos : Pos} {C : Addr} {f : Str} {ps : List Str} {W : Wp} {k j : Nat} {Q : R → Om → Prop} (h : HasQ X.prog X.w X.K X.mg X.base dr k C f ps W) (hr : Room j X.A) (hw : WE X an dr ρ om e fun r om1 => ∃ t, r = .v t ∧ prpS C t (W [t] fun d => Q (.v d) om1)) (hkj : k + 1 ≤ j := by decide)
    (hb : attributeBase e f X.env (eval e X.env) = eval e X.env := by rfl) : WE X an dr ρ om (.Attribute e f pos) Q := by
  obtain ⟨p, g0, fd, F, hp, bi⟩ := h.ex
  refine peI (pe_prop (pe_u (an := an) (dr := dr)) h.cl hp F (hr.mono hkj) bi .nil pass0 hb) fun σ H K' ⟨τ, G, g, n1, k⟩ => uE_of hw g n1 fun v r om1 τ1 G1 H1 h1 w g1 gr1 n2 => ?_
  obtain ⟨t, rfl, w⟩ := w
  obtain ⟨fds, rfl, w⟩ := prpS_inv w
  cases h1 with
  | v h1 =>
    cases h1 with
    | @ins a _ dx fs _ ha i =>
      refine ⟨a, dx, fs, rfl, g1.ex _ _ ha, ?_⟩
      refine ⟨G1, _, g1.pre, .cons (.ins ha i) .nil, h.mono _ _ _ (fun d q v G' H' i' fr => ?_) w⟩
      exact k v _ om1 τ1 G' H' (.v i') q (g1.call fr) (gr1.trans ⟨fr.e1, fun _ _ h => h⟩)
end
end DL

namespace DL
open PySem PySem.Spec L2 DL
/-! ### plain tools -/
theorem forS_go {σ : Type} {b : D → σ → (σ → Prop) → Prop} {K : σ → Prop} (P : Nat → σ → Prop) : ∀ (ds : List D) (j : Nat) (s : σ), P j s → (∀ i d s N, ds[i]? = some d → P (j + i) s → (∀ s', P (j + i + 1) s' → N s') → b d s N) → (∀ s, P (j + ds.length) s → K s) → forS ds s b K
  | [], j, s, p, _, k => k s p
  | d :: ds, j, s, p, h, k => by
    refine h 0 d s _ rfl p fun s' p' => forS_go P ds (j + 1) s' p' (fun i d s N hd q kk => ?_) (fun s q => k s ?_)
    · have e1 : j + 1 + i = j + (i + 1) := by omega
      rw [e1] at q kk
      exact h (i + 1) d s N (by simpa using hd) q kk
    · have e : j + (d :: ds).length = j + 1 + ds.length := by simp; omega
      rw [e]; exact q
theorem forS_of {σ : Type} {b : D → σ → (σ → Prop) → Prop} {K : σ → Prop} (P : Nat → σ → Prop) {ds : List D} {s : σ} (p : P 0 s) (h : ∀ i d s N, ds[i]? = some d → P i s → (∀ s', P (i + 1) s' → N s') → b d s N) (k : ∀ s, P ds.length s → K s) : forS ds s b K :=
  forS_go P ds 0 s p (fun i d s N hd q kk => h i d s N hd (by simpa using q) (fun s' q' => kk s' (by simpa using q'))) (fun s q => k s (by simpa using q))
/-- a loop whose state is of no matter -/
theorem forS_any {σ : Type} {b : D → σ → (σ → Prop) → Prop} {K : σ → Prop} (P : σ → Prop) {ds : List D} {s : σ} (h0 : P s) (h : ∀ d s N, d ∈ ds → P s → (∀ s', P s' → N s') → b d s N) (k : ∀ s, P s → K s) : forS ds s b K :=
  forS_of (fun _ s => P s) h0 (fun i d s N hd p kk => h d s N (List.mem_of_getElem? hd) p kk) k
theorem forS_map {b : D → List D → (List D → Prop) → Prop} {K : List D → Prop} (f : D → D) {ds : List D} (h : ∀ d acc N, d ∈ ds → N (acc ++ [f d]) → b d acc N) (k : K (ds.map f)) : forS ds [] b K :=
  forS_of (fun i acc => acc = (ds.take i).map f) rfl (fun i d acc N hd p kk => h d acc N (List.mem_of_getElem? hd) (kk _ (by rw [p, List.take_add_one, hd, List.map_append]; rfl))) (fun acc p => by rw [p, List.take_length]; exact k)
/-- pairs of what goes in and what comes out -/
inductive All2 {α β : Type} (R : α → β → Prop) : List α → List β → Prop
  | nil : All2 R [] []
  | cons {a : α} {b : β} {as : List α} {bs : List β} : R a b → All2 R as bs → All2 R (a :: as) (b :: bs)
theorem All2.snoc {α β : Type} {R : α → β → Prop} {a : α} {b : β} : ∀ {as : List α} {bs : List β}, All2 R as bs → R a b → All2 R (as ++ [a]) (bs ++ [b])
  | _, _, .nil, h => .cons h .nil
  | _, _, .cons x t, h => .cons x (t.snoc h)
theorem All2.length {α β : Type} {R : α → β → Prop} : ∀ {as : List α} {bs : List β}, All2 R as bs → as.length = bs.length
  | _, _, .nil => rfl
  | _, _, .cons _ t => congrArg (· + 1) t.length
theorem forS_mapR {b : D → List D → (List D → Prop) → Prop} {K : List D → Prop} (R : D → D → Prop) {ds : List D} (h : ∀ d acc N, d ∈ ds → (∀ e, R d e → N (acc ++ [e])) → b d acc N) (k : ∀ es, All2 R ds es → K es) : forS ds [] b K :=
  forS_of (fun i acc => All2 R (ds.take i) acc) .nil (fun i d acc N hd p kk => h d acc N (List.mem_of_getElem? hd) fun e r => kk _ (by rw [List.take_add_one, hd]; exact p.snoc r)) (fun acc p => by rw [List.take_length] at p; exact k _ p)
theorem forS_filter {b : D → List D → (List D → Prop) → Prop} {K : List D → Prop} (p : D → Bool) {ds : List D} (h : ∀ d acc N, d ∈ ds → N (if p d = true then acc ++ [d] else acc) → b d acc N) (k : K (ds.filter p)) : forS ds [] b K :=
  forS_of (fun i acc => acc = (ds.take i).filter p) rfl (fun i d acc N hd q kk => h d acc N (List.mem_of_getElem? hd) (kk _ (by
    rw [q, List.take_add_one, hd, List.filter_append]
    cases e : p d <;> simp [e]))) (fun acc q => by rw [q, List.take_length]; exact k)
theorem forS_sub {b : D → List D → (List D → Prop) → Prop} {K : List D → Prop} {ds : List D} (h : ∀ d acc N, d ∈ ds → N (acc ++ [d]) → N acc → b d acc N) (k : ∀ es, es.Sublist ds → K es) : forS ds [] b K :=
  forS_of (fun i acc => acc.Sublist (ds.take i)) (List.Sublist.refl _) (fun i d acc N hd q kk => h d acc N (List.mem_of_getElem? hd)
    (kk _ (by rw [List.take_add_one, hd]; exact q.append (List.Sublist.refl _)))
    (kk _ (by rw [List.take_add_one, hd]; exact q.trans (List.sublist_append_left _ _)))) (fun acc q => by rw [List.take_length] at q; exact k _ q)
/-! tests -/
theorem ifS_T {C : (Bool → Prop) → Prop} {A B : Prop} (h : C fun t => t = true ∧ A) (mono : ∀ P P' : Bool → Prop, (∀ b, P b → P' b) → C P → C P') : ifS C A B :=
  mono _ _ (fun b ⟨e, a⟩ => by subst e; simpa using a) h
theorem ifb_T {b : Bool} {A B : Prop} (e : b = true) (h : A) : if b = true then A else B := by rw [if_pos e]; exact h
theorem ifb_F {b : Bool} {A B : Prop} (e : b = false) (h : B) : if b = true then A else B := by rw [if_neg (by rw [e]; exact Bool.false_ne_true)]; exact h
theorem if_in {C : (Bool → Prop) → Prop} {A B : Prop} (h : C fun t => if t = true then A else B) : ifS C A B := h
theorem iF {b : Bool} {A B : Prop} (h : B) (e : b = false := by rfl) : if b = true then A else B := ifb_F e h
theorem iT {b : Bool} {A B : Prop} (h : A) (e : b = true := by rfl) : if b = true then A else B := ifb_T e h
theorem min_of {i j : Int} {K : D → Prop} (h : ∀ m : Int, m ≤ i → m ≤ j → (m = i ∨ m = j) → K (.int m)) : minF [.int i, .int j] K := by
  show K (.int (if j < i then j else i))
  by_cases e : j < i
  · rw [if_pos e]; exact h j (by omega) (by omega) (.inr rfl)
  · rw [if_neg e]; exact h i (by omega) (by omega) (.inl rfl)
/-! primitives -/
theorem isi_of {d : D} {T : String} {K : D → Prop} (h : (tyN d).isSome = true) (kn : Kn T) (k : K (.bl (isT d T))) : isiF [d, .ty T] K := ⟨h, kn, k⟩
theorem kn_int : Kn "int" := .inl rfl
theorem kn_bool : Kn "bool" := .inr (.inl rfl)
theorem kn_str : Kn "str" := .inr (.inr (.inl rfl))
theorem kn_list : Kn "list" := .inr (.inr (.inr (.inl rfl)))
theorem kn_tuple : Kn "tuple" := .inr (.inr (.inr (.inr (.inl rfl))))
theorem kn_dict : Kn "dict" := .inr (.inr (.inr (.inr (.inr rfl))))
/-- data that is told apart by its type -/
def tyd (d : D) : Prop := (tyN d).isSome = true
theorem small {n : Nat} (h : n ≤ 1000000) : n ≤ sizeLine := Nat.le_trans h (by decide)
theorem small' {n : Nat} (h : n ≤ 1000000) : n < sizeLine := Nat.lt_of_le_of_lt h (by decide)
theorem allF_of {xs : List D} {bs : List Bool} {K : D → Prop} (e : xs = bs.map D.bl) (h : K (.bl (bs.all id))) : allF [.lst xs] K := ⟨bs, e, h⟩
theorem allF_map {α : Type} {ds : List α} {f : α → Bool} {K : D → Prop} (h : K (.bl (ds.all f))) : allF [.lst (ds.map fun d => .bl (f d))] K :=
  ⟨ds.map f, by rw [List.map_map]; rfl, by rw [List.all_map]; exact h⟩
theorem walk_lst {ds : List D} {K : List D → Prop} (hz : ds.length ≤ 1000000) (h : K ds) : walkD (.lst ds) K := h
theorem walk_tup {ds : List D} {K : List D → Prop} (hz : ds.length ≤ 1000000) (h : K ds) : walkD (.tup ds) K := h
/-! ### what may be compared -/
def shE (d : D) : Prop := (toP d).canLay0 = true ∧ (toP d).depth ≤ 63
theorem shE_can : ∀ {xs : List D}, (∀ d ∈ xs, shE d) → PyData.canLayAll0 (toPs xs) = true ∧ PyData.depthAll (toPs xs) ≤ 63
  | [], _ => ⟨rfl, by simp [toPs, PyData.depthAll]⟩
  | d :: xs, h => by
    have h1 := h d List.mem_cons_self
    have h2 := shE_can (xs := xs) fun e he => h e (List.mem_cons_of_mem _ he)
    refine ⟨?_, ?_⟩
    · simp only [toPs, PyData.canLayAll0, Bool.and_eq_true]; exact ⟨h1.1, h2.1⟩
    · simp only [toPs, PyData.depthAll]
      have h3 := h1.2
      have h4 := h2.2
      omega
theorem shp_lst {xs : List D} (h : ∀ d ∈ xs, shE d) : shp (.lst xs) := by
  have h1 := shE_can h
  unfold shp SeqAt.shaped
  simp only [toP, PyData.canLay0, PyData.depth, Bool.and_eq_true, decide_eq_true_eq]
  exact ⟨h1.1, by omega⟩
theorem shE_int (i : Int) : shE (.int i) := ⟨rfl, by simp [toP, PyData.depth]⟩
theorem shE_bl (i : Bool) : shE (.bl i) := ⟨rfl, by simp [toP, PyData.depth]⟩
theorem shE_non : shE .non := ⟨rfl, by simp [toP, PyData.depth]⟩
theorem shp_nil : shp (.lst []) := shp_lst fun d h => by cases h
theorem eqD_nil (xs : List D) : eqD (.lst xs) (.lst []) = xs.isEmpty := by cases xs <;> simp [eqD, toP, toPs, PyData.eqv, PyData.eqvAll]
theorem eqD_str (a b : Str) : eqD (.str a) (.str b) = decide (a = b) := by
  simp only [eqD, toP, PyData.eqv]
  by_cases h : a = b
  · subst h; simp
  · rw [decide_eq_false h]
    cases e : a == b
    · rfl
    · exact absurd (eq_of_beq e) h
theorem shp_of {d : D} (h : shE d) : shp d := by
  unfold shp SeqAt.shaped
  rw [Bool.and_eq_true]
  exact ⟨h.1, decide_eq_true (by have := h.2; omega)⟩
/-! ### words -/
abbrev letters : Str := "abcdefghijklmnopqrstuvwxyz"
def nameS (z : Str) : Prop := 1 ≤ z.length ∧ z.length ≤ 8 ∧ ∀ c ∈ z.cps.toList, c ∈ letters.cps.toList
def sideS (z : Str) : Prop := nameS z ∨ z = ""
instance decName (z : Str) : Decidable (nameS z) := by unfold nameS; infer_instance
theorem let_small : ∀ c ∈ letters.cps.toList, c < 256 := by decide +kernel
theorem sideS_str {z : Str} (h : sideS z) : ∀ c ∈ z.cps.toList, c < 256 := by
  rcases h with h | rfl
  · exact fun c hc => let_small c (h.2.2 c hc)
  · decide +kernel
theorem shE_str {z : Str} (h : ∀ c ∈ z.cps.toList, c < 256) : shE (.str z) := by
  refine ⟨?_, by simp [toP, PyData.depth]⟩
  simp only [toP, PyData.canLay0, PyData.strOk]
  rw [← Array.all_toList, List.all_eq_true]
  intro c hc
  have := h c hc
  exact decide_eq_true (by omega)
theorem shE_side {z : Str} (h : sideS z) : shE (.str z) := shE_str (sideS_str h)
theorem nameS_ne {z : Str} (h : nameS z) : z ≠ "" := fun e => by rw [e] at h; exact absurd h.1 (by decide)
theorem pigeon {α : Type} [DecidableEq α] : ∀ {l m : List α}, l.Nodup → (∀ x ∈ l, x ∈ m) → l.length ≤ m.length
  | [], m, _, _ => Nat.zero_le _
  | a :: l, m, hn, hs => by
    have h1 := List.nodup_cons.mp hn
    have ha : a ∈ m := hs a List.mem_cons_self
    have ih := pigeon (l := l) (m := m.erase a) h1.2 fun y hy => (List.mem_erase_of_ne (fun (e : y = a) => h1.1 (e ▸ hy))).mpr (hs y (List.mem_cons_of_mem _ hy))
    rw [List.length_erase_of_mem ha] at ih
    have : 0 < m.length := List.length_pos_iff.mpr (fun e => by rw [e] at ha; cases ha)
    rw [List.length_cons]
    omega
def oneS (c : Nat) : Str := ⟨#[c]⟩
def nearS (w : Str) : List Str := [w] ++ (letters.cps.toList.map fun c => cutS w none (some 7) ++ oneS c)
theorem app_tl (a b : Str) : (a ++ b).cps.toList = a.cps.toList ++ b.cps.toList := TL.tl_append a b
theorem len_tl (a : Str) : a.length = a.cps.toList.length := by simp [Str.length]
theorem cut7_tl (w : Str) : (cutS w none (some 7)).cps.toList = w.cps.toList.take 7 := by
  show (List.take (HT.sIx w.length w.length (some ((7 : Nat) : Int)) - HT.sIx w.length 0 none) (List.drop (HT.sIx w.length 0 none) w.cps.toList)) = _
  rw [HT.sIx_nat, HT.sIx_none, Nat.sub_zero, List.drop_zero]
  by_cases h : 7 ≤ w.length
  · rw [Nat.min_eq_left h]
  · have := len_tl w
    rw [Nat.min_eq_right (by omega), List.take_of_length_le (by omega), List.take_of_length_le (by omega)]
theorem near_name {w : Str} (h : nameS w) : ∀ z ∈ nearS w, nameS z := by
  intro z hz
  unfold nearS at hz
  rcases List.mem_append.mp hz with hz | hz
  · rw [List.mem_singleton.mp hz]; exact h
  · obtain ⟨c, hc, rfl⟩ := List.mem_map.mp hz
    have e : (cutS w none (some 7) ++ oneS c).cps.toList = w.cps.toList.take 7 ++ [c] := by rw [app_tl, cut7_tl]; rfl
    have el : (cutS w none (some 7) ++ oneS c).length = (w.cps.toList.take 7).length + 1 := by rw [len_tl, e, List.length_append]; rfl
    refine ⟨by omega, by rw [el, List.length_take]; omega, ?_⟩
    rw [e]
    intro y hy
    rcases List.mem_append.mp hy with hy | hy
    · exact h.2.2 y (List.mem_of_mem_take hy)
    · rw [List.mem_singleton.mp hy]; exact hc
theorem let_nodup : letters.cps.toList.Nodup := by decide +kernel
theorem let_len : letters.cps.toList.length = 26 := by decide +kernel
def newS (fs : List Str) (z : Str) : Bool := !((fs.map D.str).any fun y => eqD y (.str z))
theorem newS_iff {fs : List Str} {z : Str} : newS fs z = true ↔ z ∉ fs := by
  unfold newS
  rw [Bool.not_eq_true', List.any_map, ← Bool.not_eq_true, List.any_eq_true]
  constructor
  · exact fun h hz => h ⟨z, hz, by show eqD (.str z) (.str z) = true; rw [eqD_str]; exact decide_eq_true rfl⟩
  · rintro h ⟨y, hy, e⟩
    have e : eqD (.str y) (.str z) = true := e
    rw [eqD_str] at e
    exact h (of_decide_eq_true e ▸ hy)
theorem any_str {fs : List Str} {z : Str} : ((fs.map D.str).any fun y => eqD y (.str z)) = decide (z ∈ fs) := by
  have h := newS_iff (fs := fs) (z := z)
  unfold newS at h
  by_cases e : z ∈ fs
  · rw [decide_eq_true e]
    cases q : (fs.map D.str).any fun y => eqD y (.str z)
    · rw [q] at h; exact absurd e (h.mp rfl)
    · rfl
  · rw [decide_eq_false e]
    have := h.mpr e
    cases q : (fs.map D.str).any fun y => eqD y (.str z)
    · rfl
    · rw [q] at this; cases this
theorem near_free {w : Str} {fs : List Str} (hl : fs.length ≤ 25) : ∃ z r, (nearS w).filter (newS fs) = z :: r ∧ z ∉ fs ∧ z ∈ nearS w := by
  cases e : (nearS w).filter (newS fs) with
  | cons z r =>
    have : z ∈ (nearS w).filter (newS fs) := by rw [e]; exact List.mem_cons_self
    have := List.mem_filter.mp this
    exact ⟨z, r, rfl, newS_iff.mp this.2, this.1⟩
  | nil =>
    have hn : ∀ z ∈ nearS w, z ∈ fs := fun z hz => by
      rw [List.filter_eq_nil_iff] at e
      have := e z hz
      rw [newS_iff] at this
      exact Classical.not_not.mp this
    have hp := pigeon (l := letters.cps.toList.map fun c => cutS w none (some 7) ++ oneS c) (m := fs) ?_ fun z hz => hn z (List.mem_append_right _ hz)
    · rw [List.length_map, let_len] at hp; omega
    · refine List.Pairwise.map _ (fun a b q e => q ?_) let_nodup
      have e := congrArg (fun z : Str => z.cps.toList) e
      simp only [app_tl] at e
      have := List.append_cancel_left e
      exact (List.cons.inj this).1
theorem join1 (cs : List Nat) : Txt.join "" (cs.map oneS) = SX.S cs := by
  have e2 : TL.joinL [] (cs.map fun c => [c]) = cs := by
    induction cs with
    | nil => rfl
    | cons c cs ih =>
      cases cs with
      | nil => rfl
      | cons d cs =>
        show [c] ++ ([] ++ TL.joinL [] ((d :: cs).map fun c => [c])) = _
        rw [ih]
        rfl
  have e := SX.join_S [] (cs.map fun c => [c])
  rw [List.map_map, e2] at e
  exact e
theorem sum_ones : ∀ cs : List Nat, (cs.map ((fun x : Str => x.length) ∘ oneS)).sum = cs.length
  | [] => rfl
  | c :: cs => by
    rw [List.map_cons, List.sum_cons, sum_ones cs, List.length_cons]
    show 1 + cs.length = _
    omega
theorem perm_erase {α : Type} {l : List α} {i : Nat} {d : α} (h : l[i]? = some d) : (d :: l.eraseIdx i).Perm l := by
  induction l generalizing i with
  | nil => cases h
  | cons a l ih =>
    cases i with
    | zero => cases h; exact List.Perm.refl _
    | succ i =>
      have h : l[i]? = some d := h
      exact (List.Perm.swap a d _).trans ((ih h).cons a)
theorem nubS_nodup : ∀ {l : List Str}, l.Nodup → nubS l = l := by
  have go : ∀ (l acc : List Str), (acc ++ l).Nodup → l.foldl (fun acc k => if k ∈ acc then acc else acc ++ [k]) acc = acc ++ l := by
    intro l
    induction l with
    | nil => intro acc _; simp
    | cons a l ih =>
      intro acc h
      have hn : a ∉ acc := fun hm => (List.nodup_append.mp h).2.2 a hm a List.mem_cons_self rfl
      rw [List.foldl_cons, if_neg hn, ih (acc ++ [a]) (by rw [List.append_assoc]; exact h), List.append_assoc]
      rfl
  intro l h
  exact go l [] (by simpa using h)
/-! ### dicts -/
theorem putE_new {kvs : List (Key × D)} {k : Key} {v : D} (h : k ∉ kvs.map (·.1)) : putE kvs k v = kvs ++ [(k, v)] := by
  unfold putE
  rw [if_neg]
  intro e
  obtain ⟨kv, hm, e⟩ := List.any_eq_true.mp e
  exact h (List.mem_map.mpr ⟨kv, hm, of_decide_eq_true e⟩)
theorem mergeE_new : ∀ {more acc : List (Key × D)}, ((acc ++ more).map (·.1)).Nodup → mergeE acc more = acc ++ more
  | [], acc, _ => by simp [mergeE]
  | kv :: r, acc, h => by
    have hn : kv.1 ∉ acc.map (·.1) := fun hm => by
      rw [List.map_append] at h
      exact (List.nodup_append.mp h).2.2 _ hm _ (List.mem_map.mpr ⟨kv, List.mem_cons_self, rfl⟩) rfl
    show mergeE (putE acc kv.1 kv.2) r = _
    rw [putE_new hn, mergeE_new (by rw [List.append_assoc]; exact h), List.append_assoc]
    rfl
theorem valE_mem : ∀ {kvs : List (Key × D)} {k : Key} {d : D}, (kvs.map (·.1)).Nodup → (k, d) ∈ kvs → valE kvs k = some d
  | [], _, _, _, h => by cases h
  | kv :: r, k, d, nd, h => by
    rw [List.map_cons] at nd
    have nd := List.nodup_cons.mp nd
    unfold valE
    rw [List.find?_cons]
    rcases List.mem_cons.mp h with rfl | h
    · rw [decide_eq_true rfl]; rfl
    · have : kv.1 ≠ k := fun e => nd.1 (e ▸ List.mem_map.mpr ⟨_, h, rfl⟩)
      rw [decide_eq_false this]
      exact valE_mem nd.2 h
theorem valE_isSome {kvs : List (Key × D)} {k : Key} (h : k ∈ kvs.map (·.1)) : (valE kvs k).isSome = true := by
  obtain ⟨kv, hm, rfl⟩ := List.mem_map.mp h
  unfold valE
  rw [Option.isSome_map, List.find?_isSome]
  exact ⟨kv, hm, decide_eq_true rfl⟩
/-! ### what repr shows -/
structure Rp (w dp : Nat) (d : D) : Prop where
  ok : okU d = true
  sh : (toU d).showable = true
  ls : (toU d).leavesShort 13 = true
  we : (toU d).weight ≤ w
  de : (toU d).depth ≤ dp
theorem Rp.mono {w w' dp dp' : Nat} {d : D} (h : Rp w dp d) (a : w ≤ w') (b : dp ≤ dp') : Rp w' dp' d := ⟨h.ok, h.sh, h.ls, Nat.le_trans h.we a, Nat.le_trans h.de b⟩
theorem Rp.run {w dp : Nat} {d : D} {K : D → Prop} (h : Rp w dp d) (hw : w ≤ 2 ^ 20) (hd : dp ≤ 64) (k : K (.str (shU d))) : rprU [d] K :=
  ⟨h.ok, h.sh, Nat.le_trans h.de hd, PyData.shown_fits (by decide) (by decide) h.ls (Nat.le_trans h.we hw), k⟩
theorem rp_non : Rp 0 0 .non := ⟨rfl, rfl, rfl, by simp [toU, PyData.weight], by simp [toU, PyData.depth]⟩
theorem rp_bl (b : Bool) : Rp 0 0 (.bl b) := ⟨rfl, rfl, rfl, by simp [toU, PyData.weight], by simp [toU, PyData.depth]⟩
theorem rp_int {i : Int} (h : i.natAbs < 10 ^ 12) : Rp 41 0 (.int i) := by
  have l : i.natAbs.log2 < 40 := by
    by_cases z : i.natAbs = 0
    · rw [z]; decide
    · exact (Nat.log2_lt z).mpr (by omega)
  refine ⟨rfl, ?_, ?_, ?_, by simp [toU, PyData.depth]⟩
  · simp only [toU, PyData.showable, decide_eq_true_eq]; omega
  · simp only [toU, PyData.leavesShort, decide_eq_true_eq]; exact PyData.shown_int_le h
  · simp only [toU, PyData.weight]; split <;> omega
theorem rp_str {z : Str} (hz : z.length ≤ 8) (h : ∀ c ∈ z.cps.toList, c < 256) : Rp 8 0 (.str z) := by
  refine ⟨rfl, rfl, ?_, ?_, by simp [toU, PyData.depth]⟩
  · simp only [toU, PyData.leavesShort, List.all_eq_true, decide_eq_true_eq]
    exact fun c hc => Nat.lt_of_lt_of_le (h c hc) (by decide)
  · simp only [toU, PyData.weight]; exact hz
theorem rp_side {z : Str} (h : sideS z) : Rp 8 0 (.str z) := rp_str (by rcases h with h | rfl; exact h.2.1; decide) (sideS_str h)
theorem rp_all {w dp : Nat} : ∀ {ds : List D}, (∀ d ∈ ds, Rp w dp d) → okUs ds = true ∧ PyData.showableAll (toUs ds) = true ∧ PyData.leavesShortAll 13 (toUs ds) = true ∧ PyData.weightAll (toUs ds) ≤ ds.length * (w + 1) ∧ PyData.depthAll (toUs ds) ≤ dp
  | [], _ => ⟨rfl, rfl, rfl, by simp [toUs, PyData.weightAll], by simp [toUs, PyData.depthAll]⟩
  | d :: ds, h => by
    have h1 := h d List.mem_cons_self
    obtain ⟨a, b, c, e, f⟩ := rp_all fun x hx => h x (List.mem_cons_of_mem _ hx)
    refine ⟨?_, ?_, ?_, ?_, ?_⟩
    · simp only [okUs, Bool.and_eq_true]; exact ⟨h1.ok, a⟩
    · simp only [toUs, PyData.showableAll, Bool.and_eq_true]; exact ⟨h1.sh, b⟩
    · simp only [toUs, PyData.leavesShortAll, Bool.and_eq_true]; exact ⟨h1.ls, c⟩
    · simp only [toUs, PyData.weightAll, List.length_cons, Nat.add_mul, Nat.one_mul]; have := h1.we; omega
    · simp only [toUs, PyData.depthAll]; have := h1.de; omega
theorem rp_tup {w dp : Nat} {ds : List D} (h : ∀ d ∈ ds, Rp w dp d) : Rp (ds.length * (w + 1)) (dp + 1) (.tup ds) := by
  obtain ⟨a, b, c, e, f⟩ := rp_all h
  exact ⟨by simpa only [okU] using a, by simpa only [toU, PyData.showable] using b, by simpa only [toU, PyData.leavesShort] using c, by simpa only [toU, PyData.weight] using e, by simp only [toU, PyData.depth]; omega⟩
theorem rp_lst {w dp : Nat} {ds : List D} (h : ∀ d ∈ ds, Rp w dp d) : Rp (ds.length * (w + 1)) (dp + 1) (.lst ds) := by
  obtain ⟨a, b, c, e, f⟩ := rp_all h
  exact ⟨by simpa only [okU] using a, by simpa only [toU, PyData.showable] using b, by simpa only [toU, PyData.leavesShort] using c, by simpa only [toU, PyData.weight] using e, by simp only [toU, PyData.depth]; omega⟩
theorem rp_dic {w dp : Nat} {kvs : List (Key × D)} (h : ∀ kv ∈ kvs, (∃ z, kv.1 = .inr z ∧ sideS z) ∧ Rp w dp kv.2) : Rp (kvs.length * (w + 10)) (dp + 1) (.dic kvs) := by
  have go : ∀ {kvs : List (Key × D)}, (∀ kv ∈ kvs, (∃ z, kv.1 = .inr z ∧ sideS z) ∧ Rp w dp kv.2) → okUk kvs = true ∧ PyData.showableKv (toUk kvs) = true ∧ PyData.leavesShortKv 13 (toUk kvs) = true ∧ PyData.weightKv (toUk kvs) ≤ kvs.length * (w + 10) ∧ PyData.depthKv (toUk kvs) ≤ dp := by
    intro kvs
    induction kvs with
    | nil => exact fun _ => ⟨rfl, rfl, rfl, by simp [toUk, PyData.weightKv], by simp [toUk, PyData.depthKv]⟩
    | cons kv r ih =>
      intro h
      obtain ⟨a, b, c, e, f⟩ := ih fun x hx => h x (List.mem_cons_of_mem _ hx)
      obtain ⟨⟨z, ez, hz⟩, h1⟩ := h kv List.mem_cons_self
      obtain ⟨k, d⟩ := kv
      cases ez
      have h2 := rp_side hz
      have h1w : (toU d).weight ≤ w := h1.we
      have h1d : (toU d).depth ≤ dp := h1.de
      have h2s := h2.sh; have h2l := h2.ls; have h2w := h2.we; have h2d := h2.de
      simp only [toU] at h2s h2l h2w h2d
      refine ⟨?_, ?_, ?_, ?_, ?_⟩
      · simp only [okUk, Bool.and_eq_true]; exact ⟨h1.ok, a⟩
      · simp only [toUk, keyP, PyData.showableKv, Bool.and_eq_true]; exact ⟨⟨h2s, h1.sh⟩, b⟩
      · simp only [toUk, keyP, PyData.leavesShortKv, Bool.and_eq_true]; exact ⟨⟨h2l, h1.ls⟩, c⟩
      · simp only [toUk, keyP, PyData.weightKv, List.length_cons, Nat.add_mul, Nat.one_mul]
        omega
      · simp only [toUk, keyP, PyData.depthKv]; omega
  obtain ⟨a, b, c, e, f⟩ := go h
  exact ⟨by simpa only [okU] using a, by simpa only [toU, PyData.showable] using b, by simpa only [toU, PyData.leavesShort] using c, by simpa only [toU, PyData.weight] using e, by simp only [toU, PyData.depth]; omega⟩
theorem All2.get {α β : Type} {R : α → β → Prop} : ∀ {as : List α} {bs : List β} {i : Nat} {a : α}, All2 R as bs → as[i]? = some a → ∃ b, bs[i]? = some b ∧ R a b
  | _, _, _, _, .nil, h => by simp at h
  | _, _, 0, _, .cons r _, h => by cases h; exact ⟨_, rfl, r⟩
  | _, _, i + 1, _, .cons _ t, h => t.get (i := i) h
theorem All2.mp {α β : Type} {R S : α → β → Prop} (h : ∀ a b, R a b → S a b) : ∀ {as : List α} {bs : List β}, All2 R as bs → All2 S as bs
  | _, _, .nil => .nil
  | _, _, .cons r t => .cons (h _ _ r) (t.mp h)
theorem All2.some {α β γ : Type} {R : α → β → Prop} {S : α → γ → Prop} (h : ∀ a b, R a b → ∃ c, S a c) : ∀ {as : List α} {bs : List β}, All2 R as bs → ∃ cs, All2 S as cs
  | _, _, .nil => ⟨[], .nil⟩
  | _, _, .cons r t => by
    obtain ⟨c, hc⟩ := h _ _ r
    obtain ⟨cs, hs⟩ := t.some h
    exact ⟨c :: cs, .cons hc hs⟩
theorem All2.mem {α β : Type} {R : α → β → Prop} {a : α} : ∀ {as : List α} {bs : List β}, All2 R as bs → a ∈ as → ∃ b, b ∈ bs ∧ R a b
  | _, _, .nil, h => by cases h
  | _, _, .cons r t, h => by
    rcases List.mem_cons.mp h with rfl | h
    · exact ⟨_, List.mem_cons_self, r⟩
    · obtain ⟨b, hb, r⟩ := t.mem h
      exact ⟨b, List.mem_cons_of_mem _ hb, r⟩
theorem eqS {a b : Str} {K : Bool → Prop} (h : K (decide (a = b))) : cmpU .Eq (.str a) (.str b) K := h
theorem neS {a b : Str} {K : Bool → Prop} (h : K (!decide (a = b))) : cmpU .NotEq (.str a) (.str b) K := h
theorem eqI {a b : Int} {K : Bool → Prop} (h : K (decide (a = b))) : cmpU .Eq (.int a) (.int b) K := h
theorem neI {a b : Int} {K : Bool → Prop} (h : K (!decide (a = b))) : cmpU .NotEq (.int a) (.int b) K := h
/-- data of a list -/
structure RpL (w dp : Nat) (ds : List D) : Prop where
  ok : okUs ds = true
  sh : PyData.showableAll (toUs ds) = true
  ls : PyData.leavesShortAll 13 (toUs ds) = true
  we : PyData.weightAll (toUs ds) ≤ w
  de : PyData.depthAll (toUs ds) ≤ dp
theorem rpl_nil {dp : Nat} : RpL 0 dp [] := ⟨rfl, rfl, rfl, by simp [toUs, PyData.weightAll], by simp [toUs, PyData.depthAll]⟩
theorem rpl_cons {w1 w2 dp1 dp : Nat} {d : D} {ds : List D} (h1 : Rp w1 dp1 d) (hd : dp1 ≤ dp) (h2 : RpL w2 dp ds) : RpL (w1 + 1 + w2) dp (d :: ds) := by
  have a := h1.we; have b := h2.we; have c := h1.de; have e := h2.de
  refine ⟨?_, ?_, ?_, ?_, ?_⟩
  · simp only [okUs, Bool.and_eq_true]; exact ⟨h1.ok, h2.ok⟩
  · simp only [toUs, PyData.showableAll, Bool.and_eq_true]; exact ⟨h1.sh, h2.sh⟩
  · simp only [toUs, PyData.leavesShortAll, Bool.and_eq_true]; exact ⟨h1.ls, h2.ls⟩
  · simp only [toUs, PyData.weightAll]; omega
  · simp only [toUs, PyData.depthAll]; omega
theorem rp_tupL {w dp : Nat} {ds : List D} (h : RpL w dp ds) : Rp w (dp + 1) (.tup ds) :=
  ⟨by simpa only [okU] using h.ok, by simpa only [toU, PyData.showable] using h.sh, by simpa only [toU, PyData.leavesShort] using h.ls, by simpa only [toU, PyData.weight] using h.we, by simp only [toU, PyData.depth]; have := h.de; omega⟩
theorem blS_bl {b : Bool} {K : Bool → Prop} (h : K b) : blS (.bl b) K := h
theorem gtI {a b : Int} {K : Bool → Prop} (h : K (decide (b < a))) : cmpU .Gt (.int a) (.int b) K := h
theorem ltI {a b : Int} {K : Bool → Prop} (h : K (decide (a < b))) : cmpU .Lt (.int a) (.int b) K := h
theorem leI {a b : Int} {K : Bool → Prop} (h : K (decide (a ≤ b))) : cmpU .LtE (.int a) (.int b) K := h
theorem lenT {xs : List D} {K : D → Prop} (h : K (.int (xs.length : Nat))) : lenUF [.tup xs] K := h
theorem lenL {xs : List D} {K : D → Prop} (h : K (.int (xs.length : Nat))) : lenUF [.lst xs] K := h
theorem join_in {A : (D → Prop) → Prop} {K : D → Prop} (h : A K) : joinS A K := h
theorem addI {a b : Int} {K : D → Prop} (h : K (.int (a + b))) : binD .Add (.int a) (.int b) K := h
theorem subI {a b : Int} {K : D → Prop} (h : K (.int (a - b))) : binD .Sub (.int a) (.int b) K := h
end DL

namespace DL
open PySem L2
/-! ### errors that leave a def -/
abbrev WpX := List D → (D → Prop) → (D → Prop) → Prop
/-- an error in the air: its class, its dict, and what it is -/
def ExIs (K : PySem.W.Frag) (G : Hp) (cls : Value) (dd : Option Addr) : D → Prop
  | .exc C fds => cls = .ref C ∧ ((dd = none ∧ fds = []) ∨ ∃ a fs, dd = some a ∧ G a = some (.xd fs) ∧ IsD K G fs fds)
  | _ => False
theorem ExIs.inv {K : PySem.W.Frag} {G : Hp} {cls : Value} {dd : Option Addr} {d : D} (h : ExIs K G cls dd d) : ∃ C fds, d = .exc C fds ∧ cls = .ref C ∧ ((dd = none ∧ fds = []) ∨ ∃ a fs, dd = some a ∧ G a = some (.xd fs) ∧ IsD K G fs fds) := by
  cases d <;> first | exact False.elim h | exact ⟨_, _, rfl, h⟩
def wxD (K : PySem.W.Frag) (an : An) (dr : Option Dr) (EX : D → Prop) : WX := fun cls dd _ H => ∃ x om τ G, EX x ∧ ExIs K G cls dd x ∧ Good K an dr om τ G H
/-- what may leave here is taken -/
def TX (X : Cx) (an : An) (dr : Option Dr) (EX : D → Prop) : Prop := Takes X (wxD X.K an dr EX)
theorem tx0 {X : Cx} {an : An} {dr : Option Dr} : TX X an dr fun _ => False := LamX.takes0.imp fun _ _ _ _ ⟨_, _, _, _, h, _⟩ => h.elim
def spX (K : PySem.W.Frag) (dr : Option Dr) (W : WpX) : Sp := fun vs H Q E => ∃ G ds, Pre dr G H ∧ IsL K G vs ds ∧ W ds (fun d => ∀ v G' H', Is K G' v d → Frm dr G H G' H' → Q v H') (fun x => ∀ cls dd G' H', ExIs K G' cls dd x → Frm dr G H G' H' → E cls dd H')
def MonoX (W : WpX) : Prop := ∀ ds Q Q' E E', (∀ d, Q d → Q' d) → (∀ d, E d → E' d) → W ds Q E → W ds Q' E'
structure HasX (P : Program) (w : World) (K : PySem.W.Frag) (mg : Str → Option Value) (base : Heap) (dr : Option Dr) (k : Nat) (x : Str) (ps : List Str) (W : WpX) : Prop where
  ex : ∃ f fd, FnOk P w K mg base (CX P w) k f fd ps (spX K dr W) ∧ mg x = some (.ref f) ∧ PySem.W.keepIn K (.ref f) = true ∧ Binds K fd ps []
  mono : MonoX W
structure HasXd (P : Program) (w : World) (K : PySem.W.Frag) (mg : Str → Option Value) (base : Heap) (dr : Option Dr) (k : Nat) (x : Str) (ps : List Str) (dds : List D) (W : WpX) : Prop where
  ex : ∃ f fd dvs ds, FnOk P w K mg base (CX P w) k f fd ps (spX K dr W) ∧ mg x = some (.ref f) ∧ PySem.W.keepIn K (.ref f) = true ∧ Binds K fd ps ds ∧ Vals dvs ds ∧ ∀ G, IsL K G dvs dds
  mono : MonoX W
structure HasXM (P : Program) (w : World) (K : PySem.W.Frag) (mg : Str → Option Value) (base : Heap) (dr : Option Dr) (k : Nat) (C : Addr) (m : Str) (ps : List Str) (W : WpX) : Prop where
  ex : ∃ f fd, FnOk P w K mg base (CX P w) k f fd ps (spX K dr W) ∧ Meth K C m f ∧ Binds K fd ps []
  cl : Cls K C
  mono : MonoX W
structure HasXW (P : Program) (w : World) (K : PySem.W.Frag) (mg : Str → Option Value) (base : Heap) (dr : Option Dr) (k : Nat) (x : Str) (ps ks : List Str) (perm : List Nat) (W : WpX) : Prop where
  ex : ∃ f fd, FnOk P w K mg base (CX P w) k f fd ps (spX K dr W) ∧ mg x = some (.ref f) ∧ PySem.W.keepIn K (.ref f) = true ∧ KBn K fd ps 0 ks (fun _ ws => pickL perm ws) (fun _ zs => pickL perm zs)
  mono : MonoX W
section
variable {P : Program} {w : World} {K : PySem.W.Frag} {mg : Str → Option Value} {base : Heap} {dr : Option Dr} {N ps : List Str} {W : WpX} {k : Nat}
theorem FunA.okX {x qual : Str} {st : Stmt} {f : Addr} {fd : FuncData} {sp : Sp} (F : FunA K x qual st f fd) (S : FnScope N ps (defScope st)) (len : ∀ vs H Q E, sp vs H Q E → vs.length = ps.length)
    (hb : ∀ (cdv : Value) (A : Around) (outer : List Env) (s : Shared) (H : Hp) (vs : List V) (Q : VK) (E : XK), Room k (A.deeper (PyProof.Rows.envOfC qual (defScope st) s.heap.objs.size f cdv)) → sp vs H Q E →
      ∃ t, PSs (cxOf (CX P w) P w K mg base N qual (defScope st) f cdv A outer s H E) (defBody st) t ∧ t { nx := fun _ H' => Q .non H', rt := Q } (start N vs) H) : FnOk P w K mg base (CX P w) (k + 1) f fd ps sp := by
  obtain ⟨oc, od, dV, kV, doc, pm, an, cdv, ct, osl, rfl, lk, hcd⟩ := F.ex
  exact fn_of lk hcd S len fun A outer s H vs Q E hr h => hb cdv A outer s H vs Q E hr h
theorem fnX {x qual : Str} {st : Stmt} {f : Addr} {fd : FuncData} (F : FunA K x qual st f fd) (S : FnScope N ps (defScope st)) (hlen : ∀ ds Q E, W ds Q E → ds.length = ps.length)
    (hb : ∀ (cdv : Value) (A : Around) (outer : List Env) (s : Shared) (H : Hp) (E : XK) (an : An) (ds : List D) (post EX : D → Prop), Room k (A.deeper (PyProof.Rows.envOfC qual (defScope st) s.heap.objs.size f cdv)) → W ds post EX → TX (cxOf (CX P w) P w K mg base N qual (defScope st) f cdv A outer s H E) an dr EX →
      WSs (cxOf (CX P w) P w K mg base N qual (defScope st) f cdv A outer s H E) an dr (startR N ds) [] (defBody st) { nx := fun _ _ => post .non, rt := post }) : FnOk P w K mg base (CX P w) (k + 1) f fd ps (spX K dr W) := by
  refine F.okX S (fun vs H Q E h => ?_) (fun cdv A outer s H vs Q E hr h => ?_)
  · obtain ⟨G, ds, _, i, h⟩ := h
    rw [i.length]
    exact hlen _ _ _ h
  · obtain ⟨G, ds, pr, i, h⟩ := h
    refine ⟨_, hb cdv A outer s H E ⟨G, strip H, false, []⟩ ds _ _ hr h ((takes_of rfl rfl rfl rfl).imp fun cls d σ H' ⟨x, om, τ, G', hx, ei, g⟩ => hx cls d G' H' ei g.frm), [], G, pr.good, env_start i, ?_, fun σ' H' q => ?_, fun v H' q => ?_, fun σ' H' q => ?_, fun σ' H' q => ?_⟩
    · unfold L2.start startR
      rw [List.length_append, List.length_append, List.length_map, List.length_map, List.length_replicate, List.length_replicate, i.length]
    · obtain ⟨ρ', om', τ', G', p, g, _, gr, _⟩ := q
      exact p .non G' H' .non g.frm
    · obtain ⟨d, om', τ', G', p, i', g, gr⟩ := q
      rcases i' with i' | ⟨z, _⟩
      · exact p v G' H' i' g.frm
      · cases z
    · obtain ⟨_, _, _, _, p, _⟩ := q
      exact p
    · obtain ⟨_, _, _, _, p, _⟩ := q
      exact p
end
section
variable {X : Cx} {an : An} {dr : Option Dr} {ρ : Rho} {om : Om} {e e2 o : Expr} {es : List Expr} {pos p apos : Pos} {Q : R → Om → Prop} {x f own m : Str} {ps ks : List Str} {W : WpX} {k j : Nat} {C : Addr} {EX : D → Prop} {dds : List D} {kws : List Keyword} {perm : List Nat}
/-- the wish at a call -/
abbrev exW (X : Cx) (an : An) (dr : Option Dr) (EX : D → Prop) : XK := fun cls dd H => wxD X.K an dr EX cls dd [] H
theorem passX (tk : TX X an dr EX) : Passes (CX X.prog X.w) X (exW X an dr EX) := passes_call tk fun _ _ _ _ h => h
/-- what a call leaves -/
theorem spX_at {vs : List V} {ds : List D} {τ1 : List Addr} {G1 H1 : Hp} {om1 : Om} {K' : VK} {Z : D → Prop} (hm : MonoX W) (g1 : Good X.K an dr om1 τ1 G1 H1) (i : IsL X.K G1 vs ds) (w : W ds Z EX) (k : ∀ v d G' H', Is X.K G' v d → Z d → Good X.K an dr om1 τ1 G' H' → Ex G1 G' → K' v H') : spX X.K dr W vs H1 K' (exW X an dr EX) :=
  ⟨G1, ds, g1.pre, i, hm _ _ _ _ _ (fun d q v G' H' i' fr => k v d G' H' i' q (g1.call fr) fr.e1) (fun x hx cls dd G' H' ei fr => ⟨x, om1, τ1, G', hx, ei, g1.call fr⟩) w⟩
theorem we_callX (h : HasX X.prog X.w X.K X.mg X.base dr k x ps W) (hr : Room j X.A) (tk : TX X an dr EX) (hw : WA X an dr ρ om (e :: es) fun rs om1 => allV rs fun ds => W ds (fun d => Q (.v d) om1) EX) (hkj : k ≤ j := by decide) (hg : Gl X x := by rfl) (hdb : (x == ("__debug__" : Str)) = false := by decide)
    (he : starEach (e :: es) X.env = (false, eval e X.env) :: starEach es X.env := by rfl) (hpl : (backTo pos (starEach es X.env)).any (·.1) = false := by rfl) : WE X an dr ρ om (.Call (.Name x p) (e :: es) [] pos) Q := by
  obtain ⟨f, fd, F, hm, hk, hb⟩ := h.ex
  refine peI (pe_call F (hr.mono hkj) hg hm hk hb .nil (passX tk) (pa_u (an := an) (dr := dr)) hdb he hpl) fun σ H K' ⟨τ, G, g, n, k⟩ => uA_of hw g n fun vs rs om1 τ1 G1 H1 h1 w g1 gr1 n1 => ?_
  obtain ⟨ds, i, w⟩ := allV_is h1 w
  show spX X.K dr W (vs ++ []) H1 K' _
  rw [List.append_nil]
  exact spX_at h.mono g1 i w fun v d G' H' i' q g' e1 => k v _ om1 τ1 G' H' (.v i') q g' (gr1.trans ⟨e1, fun _ _ h => h⟩)
theorem we_callXd (h : HasXd X.prog X.w X.K X.mg X.base dr k x ps dds W) (hr : Room j X.A) (tk : TX X an dr EX) (hw : WA X an dr ρ om (e :: es) fun rs om1 => allV rs fun ds => W (ds ++ dds) (fun d => Q (.v d) om1) EX) (hkj : k ≤ j := by decide) (hg : Gl X x := by rfl) (hdb : (x == ("__debug__" : Str)) = false := by decide)
    (he : starEach (e :: es) X.env = (false, eval e X.env) :: starEach es X.env := by rfl) (hpl : (backTo pos (starEach es X.env)).any (·.1) = false := by rfl) : WE X an dr ρ om (.Call (.Name x p) (e :: es) [] pos) Q := by
  obtain ⟨f, fd, dvs, dvals, F, hm, hk, hb, hv, idv⟩ := h.ex
  refine peI (pe_call F (hr.mono hkj) hg hm hk hb hv (passX tk) (pa_u (an := an) (dr := dr)) hdb he hpl) fun σ H K' ⟨τ, G, g, n, k⟩ => uA_of hw g n fun vs rs om1 τ1 G1 H1 h1 w g1 gr1 n1 => ?_
  obtain ⟨ds, i, w⟩ := allV_is h1 w
  show spX X.K dr W (vs ++ dvs) H1 K' _
  exact spX_at h.mono g1 (i.append (idv G1)) w fun v d G' H' i' q g' e1 => k v _ om1 τ1 G' H' (.v i') q g' (gr1.trans ⟨e1, fun _ _ h => h⟩)
theorem we_methX {pl : Sem Bool} (h : HasXM X.prog X.w X.K X.mg X.base dr k C m ps W) (hr : Room j X.A) (tk : TX X an dr EX) (hw : WE X an dr ρ om o fun ro om1 => metS C m (vR ro) (WA X an dr ρ om1 (e :: es) fun rs om2 => allV rs fun ds => W (vR ro :: ds) (fun d => Q (.v d) om2) EX))
    (hkj : k ≤ j := by decide) (hst : starEach (e :: es) X.env = (false, eval e X.env) :: starEach es X.env := by rfl) (hpl : (backTo pos (starEach es X.env)).any (·.1) = false := by rfl)
    (ht : eval (.Call (.Attribute o m apos) (e :: es) [] pos) X.env = (do
      let ov ← eval o X.env
      standAt apos.atName
      let (f, first) ← holding [ov] (getMethod ov m pl)
      callWith pos f first (backTo pos (starEach (e :: es) X.env)) (backToKw pos (keywordEach [] X.env))) := by rfl) : WE X an dr ρ om (.Call (.Attribute o m apos) (e :: es) [] pos) Q := by
  obtain ⟨f, fd, F, hm, bi⟩ := h.ex
  refine peI (pe_meth (pl := pl) (pe_u (an := an) (dr := dr)) h.cl hm F (hr.mono hkj) bi .nil (passX tk) (pa_u (an := an) (dr := dr)) hst hpl ht) fun σ H K' ⟨τ, G, g, n1, k⟩ => uE_of hw g n1 fun v r om1 τ1 G1 H1 h1 w g1 gr1 n2 => ?_
  obtain ⟨fds, e1, hl, w⟩ := metS_inv w
  have e2 := isR_v (K := X.K) e1 (by simp)
  subst e2
  cases h1 with
  | v h1 =>
    cases h1 with
    | @ins a _ dx fs _ ha i =>
      refine ⟨a, dx, fs, rfl, g1.ex _ _ ha, i.none hl, uA_of w g1 n2 fun vs rs om2 τ2 G2 H2 h2 w2 g2 gr2 n3 => ?_⟩
      obtain ⟨ds, i2, w2⟩ := allV_is h2 w2
      rw [List.append_nil]
      exact spX_at h.mono g2 (.cons (.ins (gr2.ex _ _ ha) (i.mono gr2.ex)) i2) w2 fun v d G' H' i' q g' e1 => k v _ om2 τ2 G' H' (.v i') q g' ((gr1.trans gr2).trans ⟨e1, fun _ _ h => h⟩)
def tCallXW (m : Nat) (sp : Sp) (perm : List Nat) (E : XK) (tk : TA) : TE := fun σ H Q => tk σ H fun zs H2 => zs.length = m ∧ sp (pickL perm zs) H2 Q E
theorem pe_callXW {CXt : CXT} {f : Addr} {fd : FuncData} {sp : Sp} {tk : TA} {E : XK} (F : FnOk X.prog X.w X.K X.mg X.base CXt k f fd ps sp) (hr : Room k X.A) (hg : Gl X x) (hm : X.mg x = some (.ref f)) (hk : PySem.W.keepIn X.K (.ref f) = true) (hb : KBn X.K fd ps 0 ks (fun _ ws => pickL perm ws) (fun _ zs => pickL perm zs)) (hx : Passes CXt X E)
    (hkw : PK X kws tk) (hall : (backToKw pos (keywordEach kws X.env)).all (·.1.isSome) = true) (hks : (backToKw pos (keywordEach kws X.env)).filterMap (·.1) = ks) (hdb : (x == ("__debug__" : Str)) = false)
    (hpl : ((backTo pos (starEach [] X.env)).any (·.1) || (backToKw pos (keywordEach kws X.env)).any (·.1.isNone)) = false) : PE X (.Call (.Name x p) [] kws pos) (tCallXW ks.length sp perm E tk) := by
  refine ⟨fun pins s σ H Q I h => ?_⟩
  refine wpAny_Call_Name_kw (ld_glob I hg hm ?_ hdb)
  refine PySem.W.callWith_KW0 (h₀ := X.base) I.ok.mod.kin hk hall (thn (hkw.run pos pins s σ H _ I h) fun ws s2 ⟨zs, H2, I2, rz, l2, q2⟩ => ⟨I2.kIn, ?_⟩) hpl
  rw [hks]
  exact run_fnN (vs := []) F hr hb hx I2 .nil rz rfl l2 q2
theorem we_callXW (h : HasXW X.prog X.w X.K X.mg X.base dr k x ps ks perm W) (hr : Room j X.A) (tk : TX X an dr EX) (hw : WK X an dr ρ om kws fun rs om1 => allV rs fun ds => ds.length = ks.length ∧ W (pickL perm ds) (fun d => Q (.v d) om1) EX) (hkj : k ≤ j := by decide) (hg : Gl X x := by rfl)
    (hall : (backToKw pos (keywordEach kws X.env)).all (·.1.isSome) = true := by rfl) (hks : (backToKw pos (keywordEach kws X.env)).filterMap (·.1) = ks := by rfl) (hdb : (x == ("__debug__" : Str)) = false := by decide)
    (hpl : ((backTo pos (starEach [] X.env)).any (·.1) || (backToKw pos (keywordEach kws X.env)).any (·.1.isNone)) = false := by rfl) : WE X an dr ρ om (.Call (.Name x p) [] kws pos) Q := by
  obtain ⟨f, fd, F, hm, hk, hb⟩ := h.ex
  refine peI (pe_callXW F (hr.mono hkj) hg hm hk hb (passX tk) (pk_u (an := an) (dr := dr)) hall hks hdb hpl) fun σ H K' ⟨τ, G, g, n, k⟩ => uK_of hw g n fun vs rs om1 τ1 G1 H1 h1 w g1 gr1 n1 => ?_
  obtain ⟨ds, i, hl, w⟩ := allV_is h1 w
  exact ⟨by rw [i.length]; exact hl, spX_at h.mono g1 (pick_isL i perm) w fun v d G' H' i' q g' e1 => k v _ om1 τ1 G' H' (.v i') q g' (gr1.trans ⟨e1, fun _ _ h => h⟩)⟩
end
end DL

namespace DL
open PySem L2
/-! ### instances whose __init__ may raise -/
def spIX (K : PySem.W.Frag) (dr : Option Dr) (C : Addr) (W : WpX) : Sp := fun vs H Q E => ∃ G ds x dx ws, vs = .ref x :: ws ∧ Pre dr G H ∧ IsL K G ws ds ∧ H x = some (.ins C dx []) ∧ G x = none ∧ Off dr x ∧ W ds (fun d => ∀ G' H', Is K G' (.ref x) d → Frm dr G (cut H x) G' H' → Q .non H')
  (fun y => ∀ cls dd G' H', ExIs K G' cls dd y → Frm dr G (cut H x) G' H' → E cls dd H')
structure HasXI (P : Program) (w : World) (K : PySem.W.Frag) (mg : Str → Option Value) (base : Heap) (dr : Option Dr) (k : Nat) (x : Str) (C : Addr) (ps : List Str) (W : WpX) : Prop where
  ex : ∃ f fd, FnOk P w K mg base (CX P w) k f fd ps (spIX K dr C W) ∧ Mk K C f ∧ Binds K fd ps []
  at_ : mg x = some (.ref C)
  mono : MonoX W
structure HasXId (P : Program) (w : World) (K : PySem.W.Frag) (mg : Str → Option Value) (base : Heap) (dr : Option Dr) (k : Nat) (x : Str) (C : Addr) (ps : List Str) (dds : List D) (W : WpX) : Prop where
  ex : ∃ f fd dvs ds, FnOk P w K mg base (CX P w) k f fd ps (spIX K dr C W) ∧ Mk K C f ∧ Binds K fd ps ds ∧ Vals dvs ds ∧ ∀ G, IsL K G dvs dds
  at_ : mg x = some (.ref C)
  mono : MonoX W
structure HasXIW (P : Program) (w : World) (K : PySem.W.Frag) (mg : Str → Option Value) (base : Heap) (dr : Option Dr) (k : Nat) (x : Str) (C : Addr) (ps ks : List Str) (perm : List Nat) (W : WpX) : Prop where
  ex : ∃ f fd, FnOk P w K mg base (CX P w) k f fd ps (spIX K dr C W) ∧ Mk K C f ∧ KBn K fd ps 1 ks (fun vs ws => vs ++ pickL perm ws) (fun vs zs => vs ++ pickL perm zs)
  at_ : mg x = some (.ref C)
  mono : MonoX W
section
variable {P : Program} {w : World} {K : PySem.W.Frag} {mg : Str → Option Value} {base : Heap} {dr : Option Dr} {N ps : List Str} {W : WpX} {k : Nat}
theorem fnIX {x qual : Str} {st : Stmt} {f C : Addr} {fd : FuncData} (F : FunA K x qual st f fd) (S : FnScope N ps (defScope st)) (hlen : ∀ ds Q E, W ds Q E → ds.length + 1 = ps.length)
    (hb : ∀ (cdv : Value) (A : Around) (outer : List Env) (s : Shared) (H : Hp) (E : XK) (an : An) (ds : List D) (post EX : D → Prop), Room k (A.deeper (PyProof.Rows.envOfC qual (defScope st) s.heap.objs.size f cdv)) → W ds post EX → TX (cxOf (CX P w) P w K mg base N qual (defScope st) f cdv A outer s H E) an dr EX →
      WSs (cxOf (CX P w) P w K mg base N qual (defScope st) f cdv A outer s H E) an dr (some (.o 0) :: (ds.map (fun d => some (.v d)) ++ List.replicate (N.length - (ds.length + 1)) none)) [some (.ins C [])] (defBody st) { nx := fun _ om => ∃ d, om[0]? = some (some d) ∧ isDict d = false ∧ post d, rt := fun _ => False }) : FnOk P w K mg base (CX P w) (k + 1) f fd ps (spIX K dr C W) := by
  refine F.okX S (fun vs H Q E h => ?_) (fun cdv A outer s H vs Q E hr h => ?_)
  · obtain ⟨G, ds, x, dx, ws, rfl, _, i, _, _, _, h⟩ := h
    rw [List.length_cons, i.length]
    exact hlen _ _ _ h
  · obtain ⟨G, ds, x, dx, ws, rfl, pr, i, hx, gx, ox, h⟩ := h
    refine ⟨_, hb cdv A outer s H E ⟨G, strip (cut H x), false, []⟩ ds _ _ hr h ((takes_of rfl rfl rfl rfl).imp fun cls d σ H' ⟨y, om, τ, G', hy, ei, g⟩ => hy cls d G' H' ei g.frm), [x], G, ⟨pr.ex, rfl, by simp, fun j p d h1 h2 => ?_, pr.dg, Ex.refl G, fun a o h _ => (cut_some (strip_some h).1).2, fun _ _ h => h, fun j p h1 => ?_, pr.gt, fun _ _ => strip_nt, fun t h => nomatch h⟩, fun j r q => ?_, ?_, fun σ' H' q => ?_, fun v H' q => ?_, fun σ' H' q => ?_, fun σ' H' q => ?_⟩
    · match j, h1, h2 with
      | 0, h1, h2 =>
        cases h1
        cases h2
        refine ⟨gx, ?_, ox, _, hx, dx, [], rfl, .nil⟩
        cases q : strip (cut H x) x with
        | none => exact q
        | some o => exact absurd rfl (cut_some (strip_some q).1).1
      | j + 1, h1, h2 => cases h1
    · match j, h1 with
      | 0, h1 => cases h1; exact ⟨ox, _, hx, fun _ z => by cases z⟩
      | j + 1, h1 => cases h1
    · match j, q with
      | 0, q => cases q; exact ⟨_, rfl, .o rfl⟩
      | j + 1, q =>
        have q : (ds.map (fun d => some (R.v d)) ++ List.replicate (N.length - (ds.length + 1)) none)[j]? = some (some r) := q
        by_cases hj : j < ds.length
        · rw [List.getElem?_append_left (by simpa using hj), List.getElem?_map] at q
          cases q2 : ds[j]? with
          | none => rw [q2] at q; cases q
          | some d =>
            rw [q2] at q
            cases q
            obtain ⟨v, h1, h2⟩ := i.get q2
            refine ⟨v, ?_, .v h2⟩
            unfold L2.start
            show (List.map some ws ++ _)[j]? = _
            rw [List.getElem?_append_left (by rw [List.length_map, i.length]; exact hj), List.getElem?_map, h1]
            rfl
        · rw [List.getElem?_append_right (by simpa using hj), List.getElem?_replicate] at q
          split at q <;> cases q
    · unfold L2.start
      simp [i.length]
    · obtain ⟨ρ', om', τ', G', ⟨d, hd, nd, p⟩, g, _, gr, _⟩ := q
      have t0 : τ'[0]? = some x := gr.pre 0 x rfl
      obtain ⟨o, g2, gr2, i2⟩ := g.freeze t0 hd nd
      exact p _ H' i2 g2.frm
    · obtain ⟨d, om', τ', G', p, _⟩ := q
      exact p.elim
    · obtain ⟨_, _, _, _, p, _⟩ := q
      exact p
    · obtain ⟨_, _, _, _, p, _⟩ := q
      exact p
end
section
variable {X : Cx} {an : An} {dr : Option Dr} {ρ : Rho} {om : Om} {e e2 o : Expr} {es : List Expr} {pos p apos : Pos} {Q : R → Om → Prop} {x f own m : Str} {ps ks : List Str} {W : WpX} {k j : Nat} {C : Addr} {EX : D → Prop} {dds : List D} {kws : List Keyword} {perm : List Nat}
theorem spIX_at {vs : List V} {ds : List D} {τ1 : List Addr} {G1 H1 : Hp} {om1 : Om} {K' : VK} {Z : D → Prop} {a dx : Addr} (hm : MonoX W) (g1 : Good X.K an dr om1 τ1 G1 H1) (i : IsL X.K G1 vs ds) (w : W ds Z EX) (na : H1 a = none) (ndx : H1 dx = none) (ne : dx ≠ a) (k : ∀ d G' H', Is X.K G' (.ref a) d → Z d → Good X.K an dr om1 τ1 G' H' → Ex G1 G' → K' .non H') :
    spIX X.K dr C W (.ref a :: vs) (upd (upd H1 dx (.own a)) a (.ins C dx [])) K' (exW X an dr EX) := by
  have e0 : Ex H1 (upd (upd H1 dx (.own a)) a (.ins C dx [])) := (Ex.new ndx).trans (Ex.new (by rw [upd_ne (fun z => ne z.symm)]; exact na))
  have fin : ∀ {G' H' : Hp}, Frm dr G1 (cut (upd (upd H1 dx (.own a)) a (.ins C dx [])) a) G' H' → Good X.K an dr om1 τ1 G' H' := fun {G' H'} fr => g1.call (fr.sub fun b o q1 => cut_of (e0 _ _ q1) (ne_of_none q1 na))
  refine ⟨G1, ds, a, dx, vs, rfl, ⟨g1.ex.trans e0, fun y hy => ?_, g1.gt⟩, i, upd_same, g1.ex.free na, g1.off na, hm _ _ _ _ _ (fun d q G' H' i' fr => k d G' H' i' q (fin fr) fr.e1) (fun y hy cls dd G' H' ei fr => ⟨y, om1, τ1, G', hy, ei, fin fr⟩) w⟩
  obtain ⟨⟨gr, ce, re, tu, q1, q2, q3⟩, q4, q5, q6, q7⟩ := g1.drg y hy
  exact ⟨⟨gr, ce, re, tu, e0 _ _ q1, e0 _ _ q2, e0 _ _ q3⟩, q4, q5, q6, q7.ext e0⟩
theorem we_makeX (h : HasXI X.prog X.w X.K X.mg X.base dr k x C ps W) (hr : Room j X.A) (tk : TX X an dr EX) (hw : WA X an dr ρ om (e :: es) fun rs om1 => allV rs fun ds => W ds (fun d => Q (.v d) om1) EX) (hkj : k + 1 ≤ j := by decide) (hg : Gl X x := by rfl) (hdb : (x == ("__debug__" : Str)) = false := by decide)
    (he : starEach (e :: es) X.env = (false, eval e X.env) :: starEach es X.env := by rfl) (hpl : (backTo pos (starEach es X.env)).any (·.1) = false := by rfl) : WE X an dr ρ om (.Call (.Name x p) (e :: es) [] pos) Q := by
  obtain ⟨f, fd, F, M, hb⟩ := h.ex
  refine peI (pe_make M F (hr.mono hkj) hg h.at_ hb .nil (passX tk) (pa_u (an := an) (dr := dr)) hdb he hpl) fun σ H K' ⟨τ, G, g, n, k⟩ => uA_of hw g n fun vs rs om1 τ1 G1 H1 h1 w g1 gr1 n1 => ?_
  obtain ⟨ds, i, w⟩ := allV_is h1 w
  intro a dx na ndx ne
  rw [List.append_nil]
  exact spIX_at h.mono g1 i w na ndx ne fun d G' H' i' q g' e1 => ⟨rfl, k _ _ om1 τ1 G' H' (.v i') q g' (gr1.trans ⟨e1, fun _ _ h => h⟩)⟩
theorem we_makeXd (h : HasXId X.prog X.w X.K X.mg X.base dr k x C ps dds W) (hr : Room j X.A) (tk : TX X an dr EX) (hw : WA X an dr ρ om (e :: es) fun rs om1 => allV rs fun ds => W (ds ++ dds) (fun d => Q (.v d) om1) EX) (hkj : k + 1 ≤ j := by decide) (hg : Gl X x := by rfl) (hdb : (x == ("__debug__" : Str)) = false := by decide)
    (he : starEach (e :: es) X.env = (false, eval e X.env) :: starEach es X.env := by rfl) (hpl : (backTo pos (starEach es X.env)).any (·.1) = false := by rfl) : WE X an dr ρ om (.Call (.Name x p) (e :: es) [] pos) Q := by
  obtain ⟨f, fd, dvs, dvals, F, M, hb, hv, idv⟩ := h.ex
  refine peI (pe_make M F (hr.mono hkj) hg h.at_ hb hv (passX tk) (pa_u (an := an) (dr := dr)) hdb he hpl) fun σ H K' ⟨τ, G, g, n, k⟩ => uA_of hw g n fun vs rs om1 τ1 G1 H1 h1 w g1 gr1 n1 => ?_
  obtain ⟨ds, i, w⟩ := allV_is h1 w
  intro a dx na ndx ne
  exact spIX_at h.mono g1 (i.append (idv G1)) w na ndx ne fun d G' H' i' q g' e1 => ⟨rfl, k _ _ om1 τ1 G' H' (.v i') q g' (gr1.trans ⟨e1, fun _ _ h => h⟩)⟩
theorem we_makeXW (h : HasXIW X.prog X.w X.K X.mg X.base dr k x C ps ks perm W) (hr : Room j X.A) (tk : TX X an dr EX) (hw : WK X an dr ρ om kws fun rs om1 => allV rs fun ds => ds.length = ks.length ∧ W (pickL perm ds) (fun d => Q (.v d) om1) EX) (hkj : k + 1 ≤ j := by decide) (hg : Gl X x := by rfl)
    (hall : (backToKw pos (keywordEach kws X.env)).all (·.1.isSome) = true := by rfl) (hks : (backToKw pos (keywordEach kws X.env)).filterMap (·.1) = ks := by rfl) (hdb : (x == ("__debug__" : Str)) = false := by decide)
    (hpl : ((backTo pos (starEach [] X.env)).any (·.1) || (backToKw pos (keywordEach kws X.env)).any (·.1.isNone)) = false := by rfl) : WE X an dr ρ om (.Call (.Name x p) [] kws pos) Q := by
  obtain ⟨f, fd, F, M, hb⟩ := h.ex
  refine peI (pe_makeK0 M F (hr.mono hkj) hg h.at_ hb (passX tk) (pk_u (an := an) (dr := dr)) hall hks hdb hpl) fun σ H K' ⟨τ, G, g, n, k⟩ => uK_of hw g n fun vs rs om1 τ1 G1 H1 h1 w g1 gr1 n1 => ?_
  obtain ⟨ds, i, hl, w⟩ := allV_is h1 w
  refine ⟨rfl, by rw [i.length]; exact hl, fun a dx na ndx ne => ?_⟩
  exact spIX_at h.mono g1 (pick_isL i perm) w na ndx ne fun d G' H' i' q g' e1 => ⟨rfl, k _ _ om1 τ1 G' H' (.v i') q g' (gr1.trans ⟨e1, fun _ _ h => h⟩)⟩
end
/-! ### raise -/
/-- a class of errors that is made of a text -/
structure ErrM (K : PySem.W.Frag) (mg : Str → Option Value) (x : Str) (C : Addr) : Prop where
  at_ : mg x = some (.ref C)
  ex : PySem.W.excIn K C [.type "ValueError", .type "Exception", .type "BaseException", .type "object"] "ValueError.__new__" = true
  kp : PySem.W.keepIn K (.ref C) = true
  sb : PySem.W.subIn K (.ref C) (.type "BaseException") = some true
  ty : PySem.W.typeIn K (.ref C) = some (.type "type")
/-- one with a field -/
structure ErrA (P : Program) (K : PySem.W.Frag) (mg : Str → Option Value) (x f : Str) (C : Addr) : Prop where
  at_ : mg x = some (.ref C)
  fl : DX.ErrF P K x f C
  fn : DX.FldN f
  su : mg "super" = none
section
variable {X : Cx} {an : An} {dr : Option Dr} {ρ : Rho} {om : Om} {a : Expr} {pos p p2 pos2 : Pos} {x f m : Str} {k j jj : Nat} {C : Addr} {EX : D → Prop} {E : Ed}
theorem ws_raiseM (hc : X.calm = true) (T : ErrM X.K X.mg x C) (tk : TX X an dr EX) (h : EX (.exc C [])) (hg : Gl X x := by rfl) (hdb : (x == ("__debug__" : Str)) = false := by decide) : WS X an dr ρ om (.Raise (some (.Call (.Name x p) [.Constant (.str m) jj p2] [] pos)) none pos2) E :=
  psI (ps_raise hc tk (pmk_own PySem.F.excBase_ValueError T.ex T.at_ T.kp (raises_own T.sb T.ty) hg hdb)) fun Z σ H ⟨τ, G, g, _⟩ => ⟨_, om, τ, G, h, ⟨rfl, .inl ⟨rfl, rfl⟩⟩, g⟩
theorem ws_raiseF (hc : X.calm = true) (T : ErrA X.prog X.K X.mg x f C) (hr : Room j X.A) (tk : TX X an dr EX) (h : WA X an dr ρ om [a] fun rs _ => allV rs fun ds => ∃ v, ds = [v] ∧ EX (.exc C [(f, v)])) (hg : Gl X x := by rfl)
    (he : starEach (a :: []) X.env = (false, eval a X.env) :: starEach [] X.env := by rfl) (hpl : (backTo pos (starEach [] X.env)).any (·.1) = false := by rfl) (hdb : (x == ("__debug__" : Str)) = false := by decide) : WS X an dr ρ om (.Raise (some (.Call (.Name x p) [a] [] pos)) none pos2) E := by
  refine psI (ps_raise hc tk (DX.pmk_fld T.fl T.fn T.at_ T.su hr (pa_u (an := an) (dr := dr)) hg he hpl hdb)) fun Z σ H ⟨τ, G, g, n, _⟩ => uA_of h g n fun vs rs om1 τ1 G1 H1 h1 w g1 gr1 n1 => ?_
  obtain ⟨ds, i, v, rfl, w⟩ := allV_is h1 w
  cases i with
  | cons i0 i1 =>
    cases i1
    refine ⟨_, rfl, fun d hd => ⟨_, om1, τ1, _, w, ⟨rfl, .inr ⟨d, _, rfl, upd_same, .cons (i0.mono (Ex.new (g1.ex.free hd))) .nil⟩⟩, g1.alloc hd⟩⟩
end
/-! ### errors that are held -/
/-- what the class of an error says -/
structure ErrH (K : PySem.W.Frag) (C : Addr) : Prop where
  ec : ExcC K C
  xf : XfC K C
section
variable {X : Cx} {an : An} {dr : Option Dr} {ρ : Rho} {om : Om} {e : Expr} {pos p p2 : Pos} {x f : Str} {Q : R → Om → Prop}
theorem Is.exc_inv {K : PySem.W.Frag} {G : Hp} {v : V} {C : Addr} {fds : List (Str × D)} (h : Is K G v (.exc C fds)) : ∃ a dd, v = .ref a ∧ G a = some (DX.exV (.ref C) dd a) ∧ ((dd = none ∧ fds = []) ∨ ∃ d fs, dd = some d ∧ G d = some (.xd fs) ∧ IsD K G fs fds) := by
  cases h with
  | exc0 h => exact ⟨_, none, rfl, h, .inl ⟨rfl, rfl⟩⟩
  | excF h1 h2 h3 => exact ⟨_, some _, rfl, h1, .inr ⟨_, _, rfl, h2, h3⟩⟩
/-- e.f of an error -/
theorem we_fldX (h : WE X an dr ρ om e fun r om1 => ∃ C v, r = .v (.exc C [(f, v)]) ∧ ErrH X.K C ∧ PySem.W.findIn X.K (.ref C) f = some none ∧ Q (.v v) om1) (hb : attributeBase e f X.env (eval e X.env) = eval e X.env := by rfl) : WE X an dr ρ om (.Attribute e f pos) Q :=
  peI (DX.pe_xv (pe_u (an := an) (dr := dr)) hb) fun σ H K' ⟨τ, G, g, n1, k⟩ => uE_of h g n1 fun v r om1 τ1 G1 H1 h1 w g1 gr1 n2 => by
    obtain ⟨C, d, rfl, T, hn, q⟩ := w
    cases h1 with
    | v h1 =>
      obtain ⟨a, dd, rfl, ha, z | ⟨d', fs, rfl, hd, i⟩⟩ := h1.exc_inv
      · cases z.2
      · cases i with
        | cons i0 i1 =>
          cases i1
          exact ⟨a, C, d', _, _, rfl, g1.ex _ _ ha, T.xf, hn, g1.ex _ _ hd, by simp [List.lookup], k _ _ om1 τ1 G1 H1 (.v i0) q g1 gr1⟩
/-- isinstance(e, x) of an error, x a class -/
theorem we_isX {c : V} {cv : Value} (hm : X.mg "isinstance" = none) (hx : PE X (.Name x p2) (tC c)) (hcv : ∀ u, RelV c u → u = cv) (h : WE X an dr ρ om e fun r om1 => ∃ C fds b, r = .v (.exc C fds) ∧ ErrH X.K C ∧ PySem.W.kitOne X.K (.ref C) cv = some b ∧ Q (.v (.bl b)) om1) (hg : Gl X "isinstance" := by rfl)
    (hs : starEach [e, .Name x p2] X.env = (false, eval e X.env) :: starEach [.Name x p2] X.env := by rfl) (hs2 : starEach [.Name x p2] X.env = (false, eval (.Name x p2) X.env) :: starEach [] X.env := by rfl) (hpl : (backTo pos (starEach [.Name x p2] X.env)).any (·.1) = false := by rfl) : WE X an dr ρ om (.Call (.Name "isinstance" p) [e, .Name x p2] [] pos) Q :=
  peI (pe_callB DX.call_isV hg hm PyProof.Rows.boot_isinstance (pa_cons (pe_u (an := an) (dr := dr)) (pa_cons hx pa_nil hs2) hs) (by decide) (by decide) hs hpl) fun σ H K' ⟨τ, G, g, n1, k⟩ => uE_of h g n1 fun v r om1 τ1 G1 H1 h1 w g1 gr1 n2 => by
    obtain ⟨C, fds, b, rfl, T, hk, q⟩ := w
    cases h1 with
    | v h1 =>
      obtain ⟨a, dd, rfl, ha, hd⟩ := h1.exc_inv
      refine ⟨a, C, dd, c, cv, b, rfl, g1.ex _ _ ha, fun d' e => ?_, T.ec, hcv, hk, k _ _ om1 τ1 G1 H1 (.v (.bl b)) q g1 gr1⟩
      rcases hd with ⟨z, _⟩ | ⟨d2, fs, z, hd, _⟩
      · rw [z] at e; cases e
      · rw [z] at e; cases e; exact ⟨fs, g1.ex _ _ hd⟩
end
end DL

namespace DL
open PySem L2 LamX
/-! ### caught(lambda: body) -/
theorem Good.extN {K : PySem.W.Frag} {an : An} {x : Dr} {om : Om} {τ : List Addr} {G H H1 : Hp} (g : Good K an (some x) om τ G H) (e : ExtN H H1) (t : Tabs x.T H1) : Good K an (some x) om τ G H1 := by
  obtain ⟨⟨gr, ce, re, tu, h1, h2, h3⟩, h4, h5, h6, h7⟩ := g.drg x rfl
  exact {
    ex := fun a o q => e a o (g.ex a o q) (g.gt a o q)
    len := g.len
    nd := g.nd
    own := fun k p d e1 e2 => by
      obtain ⟨a1, a2, a3, o, a4, a5⟩ := g.own k p d e1 e2
      exact ⟨a1, a2, a3, o, e p o a4 a5.noTab.1, a5⟩
    drg := fun y hy => by
      cases hy
      exact ⟨⟨gr, ce, re, tu, e _ _ h1 (fun ps z => by cases z), e _ _ h2 (fun ps z => by cases z), e _ _ h3 (fun ps z => by cases z)⟩, h4, h5, h6, t⟩
    a1 := g.a1
    a2 := fun a o q hf => e a o (g.a2 a o q hf) (fun ps z => g.nt0 a ps (z ▸ q))
    a3 := g.a3
    a4 := fun k p e1 => by
      obtain ⟨a1, o, a2, a3⟩ := g.a4 k p e1
      exact ⟨a1, o, e p o a2 a3, a3⟩
    gt := g.gt
    nt0 := g.nt0
    ti := g.ti }
/-- the def that catches -/
structure HasC (P : Program) (w : World) (K : PySem.W.Frag) (mg : Str → Option Value) (base : Heap) (CS : Addr) : Prop where
  ex : ∃ (g : Addr) (pg : Arguments) (bg : List Stmt) (sg : Scope) (dV kV doc pm cdv ct oc : Value) (an od : Option Addr) (osl : Array (Option Value)), mg "_law_caught" = some (.ref g) ∧ PySem.W.keepIn K (.ref g) = true ∧ K.lookup g = some ⟨oc, od, .func (PySem.W.fnOf "_law_caught" "_law_caught" pg bg sg dV kV doc pm an cdv ct), osl⟩ ∧ PySem.W.codeIn K cdv "_law_caught" = true ∧
    L2.Binds K (PySem.W.fnOf "_law_caught" "_law_caught" pg bg sg dV kV doc pm an cdv ct) ["_law_act"] [] ∧ FnScope ["_law_act", "_law_found", "_law_error"] ["_law_act"] sg ∧ Vis sg "_law_act" ∧ ∀ (X : Cx) (q : Str), X.K = K → X.mg = mg → GivesTo X ["_law_act", "_law_found", "_law_error"] "_law_caught" sg g cdv bg "_law_act" q (DX.TCaught K CS)
/-- the names that a lambda may read: those that are data -/
inductive RSub : Rho → Rho → Prop
  | nil : RSub [] []
  | skip {a : Option R} {s t : Rho} : RSub s t → RSub (none :: s) (a :: t)
  | keep {d : D} {s t : Rho} : RSub s t → RSub (some (R.v d) :: s) (some (R.v d) :: t)
theorem RSub.get {s t : Rho} (h : RSub s t) : ∀ (i : Nat) (r : R), s[i]? = some (some r) → ∃ d, r = R.v d ∧ t[i]? = some (some (R.v d)) := by
  induction h with
  | nil => intro i r e; simp at e
  | skip _ ih =>
    intro i r e
    match i, e with
    | 0, e => cases e
    | i + 1, e => exact ih i r e
  | keep _ ih =>
    intro i r e
    match i, e with
    | 0, e => cases e; exact ⟨_, rfl, rfl⟩
    | i + 1, e => exact ih i r e
section
variable {X : Cx} {an : An} {x : Dr} {ρ ρ' : Rho} {om : Om} {body : Expr} {params : Arguments} {scope : Scope} {pos p lpos : Pos} {Q : R → Om → Prop} {k j : Nat} {CS c P : Addr}
theorem EnvIs.sub {K : PySem.W.Frag} {G : Hp} {τ : List Addr} {σ : L2.St} (n : EnvIs K G τ σ ρ) (h : RSub ρ' ρ) : EnvIs K G [] σ ρ' := fun i r e => by
  obtain ⟨d, rfl, e'⟩ := h.get i r e
  obtain ⟨v, h1, h2⟩ := n i _ e'
  cases h2 with
  | v h2 => exact ⟨v, h1, .v h2⟩
theorem we_caught (H0 : HasC X.prog X.w X.K X.mg X.base CS) (hr : Room j X.A) (TB : TabB X.base X.mg c P) (hcode : X.env.code = .ref c) (hmT : (P, X.env.qual ++ "<lambda>") ∈ x.T) (hu : ∀ p ∈ x.T, p.1 = P → p.2 = X.env.qual ++ "<lambda>") (L : LamS X.env.scope scope) (hdef : defaultsOf params X.env = ([], []))
    (hbind : ∀ (q : Str) (cl : List (Str × Addr)) (pm cv ctv : Value), bindArgs (PySem.W.kla_fn "<lambda>" q params body scope cl pm cv ctv) ⟨[], []⟩ = pure []) (hrho : RSub ρ' ρ)
    (hbody : ∀ (an' : An) (A : Around) (outer : List Env) (s : Shared) (H : Hp) (E : XK) (f c' : Addr), Room k (A.deeper (lamEnv X scope s.heap.objs.size f c')) → TX (lamCx X A outer s H E scope f c') an' (some x) (fun d => (∃ C fds, d = .exc C fds ∧ PySem.W.exmOne X.K (.ref C) (.ref CS) = some true) ∧ Q (.v d) om) →
      WE (lamCx X A outer s H E scope f c') an' (some x) ρ' [] body fun _ _ => Q (.v .non) om)
    (hkj : k + 2 ≤ j := by decide) (hg : Gl X "_law_caught" := by rfl) : WE X an (some x) ρ om (.Call (.Name "_law_caught" p) [.Lambda params body scope lpos] [] pos) Q := by
  obtain ⟨g0, pg, bg, sg, dV, kV, doc, pm, cdv, ct, oc, an0, od, osl, hm, hk, lk, hcg, hb, Sg, hva, hG⟩ := H0.ex
  refine peI (pe_lamcall (T := x.T) (t := fun E σ H K' => ∃ an' G, Good X.K an' (some x) [] [] G H ∧ EnvIs X.K G [] σ ρ' ∧ (∀ d cls dd G' H' om' τ', ((∃ C fds, d = .exc C fds ∧ PySem.W.exmOne X.K (.ref C) (.ref CS) = some true) ∧ Q (.v d) om) → ExIs X.K G' cls dd d → Good X.K an' (some x) om' τ' G' H' → E cls dd H') ∧ ∀ v om' τ' G' H', Q (.v .non) om → Good X.K an' (some x) om' τ' G' H' → K' v H')
    hg hm hk lk hcg hb Sg rfl hva (hG X _ rfl rfl) TB hcode hmT hu (hr.mono hkj) L hdef hbind (fun A outer s H E f c' hr2 => ?_)) fun σ H K' ⟨τ, G, g, n, k⟩ => ?_
  · refine ⟨fun pins s1 σ H1 K' I ⟨an', G, g, n, hE, hq⟩ => ?_⟩
    have w := hbody an' A outer s H E f c' hr2 ((takes_of rfl rfl rfl rfl).imp fun cls dd σ' H' ⟨d, om', τ', G', hx, ei, g'⟩ => hE d cls dd G' H' om' τ' hx ei g')
    exact PE.run w pins s1 σ H1 K' I ⟨[], G, g, n, fun v r om' τ' G' H' _ q g' _ => hq v om' τ' G' H' q g'⟩
  · obtain ⟨_, _, _, _, t⟩ := g.drg x rfl
    refine ⟨t, fun H1 e1 t1 => ?_⟩
    have g1 := g.extN e1 t1
    refine ⟨⟨G, strip H1, false, []⟩, G, g1.pre.good, EnvIs.sub n hrho, fun d cls dd G' H' om' τ' hx ei g' => ?_, fun v om' τ' G' H' q g' => ⟨.non, rfl, k .non _ om τ G' H' (.v .non) q (g1.call g'.frm) ⟨g'.frm.e1, fun _ _ h => h⟩⟩⟩
    obtain ⟨⟨C, fds, rfl, hex⟩, q⟩ := hx
    have g2 := g1.call g'.frm
    obtain ⟨rfl, hd⟩ := ei
    refine ⟨hex, fun p0 hp0 => ?_⟩
    have g3 := g2.alloc (o := DX.exV (.ref C) dd p0) hp0 (by intro _ z; unfold DX.exV at z; cases z)
    refine k _ _ om τ _ _ (.v ?_) q g3 ⟨g'.frm.e1.trans (Ex.new (g2.ex.free hp0)), fun _ _ h => h⟩
    rcases hd with ⟨rfl, rfl⟩ | ⟨a, fs, rfl, h1, h2⟩
    · exact .exc0 upd_same
    · exact .excF upd_same (Ex.new (g2.ex.free hp0) _ _ h1) (h2.mono (Ex.new (g2.ex.free hp0)))
end
end DL

namespace DL
open PySem L2 LamX PyProof.Rows
/-! ### a def whose code object is known -/
structure FunV (K : PySem.W.Frag) (x qual : Str) (st : Stmt) (f : Addr) (fd : FuncData) (cdv : Value) : Prop where
  ex : ∃ (oc : Value) (od : Option Addr) (dV kV doc pm : Value) (an : Option Addr) (ct : Value) (osl : Array (Option Value)), fd = PySem.W.fnOf x qual (defArgs st) (defBody st) (defScope st) dV kV doc pm an cdv ct ∧ K.lookup f = some ⟨oc, od, .func fd, osl⟩ ∧ PySem.W.codeIn K cdv qual = true
theorem funV_mk {K : PySem.W.Frag} {x qual : Str} {st : Stmt} {f : Addr} {oc : Value} {od an : Option Addr} {osl : Array (Option Value)} {dV kV doc pm cdv ct : Value} (l : K.lookup f = some ⟨oc, od, .func (PySem.W.fnOf x qual (defArgs st) (defBody st) (defScope st) dV kV doc pm an cdv ct), osl⟩)
    (c : PySem.W.codeIn K cdv qual = true) : FunV K x qual st f (PySem.W.fnOf x qual (defArgs st) (defBody st) (defScope st) dV kV doc pm an cdv ct) cdv := ⟨⟨oc, od, dV, kV, doc, pm, an, ct, osl, rfl, l, c⟩⟩
section
variable {P : Program} {w : World} {K : PySem.W.Frag} {mg : Str → Option Value} {base : Heap} {CX : CXT} {k : Nat} {f : Addr} {N ps : List Str} {sp : Sp} {cdv : Value}
theorem FnG.byV {x qual : Str} {st : Stmt} {fd : FuncData} (F : FunV K x qual st f fd cdv) (S : FnScope N ps (defScope st)) (len : ∀ vs H Q E, sp vs H Q E → vs.length = ps.length)
    (hbody : ∀ (A : Around) (outer : List Env) (s : Shared) (H : Hp) (vs : List V) (Q : VK) (E : XK), Room k (A.deeper (envOfC qual (defScope st) s.heap.objs.size f cdv)) → A.guards = some [] → sp vs H Q E →
      ∃ t, PSs (cxOf CX P w K mg base N qual (defScope st) f cdv A outer s H E) (defBody st) t ∧ t { nx := fun _ H' => Q .non H', rt := Q } (L2.start N vs) H) : FnG P w K mg base CX (k + 1) f fd ps sp := by
  obtain ⟨oc, od, dV, kV, doc, pm, an, ct, osl, rfl, lk, hcd⟩ := F.ex
  refine ⟨len, fun A outer s H args us vs Q E room gd env bnd rel want => ?_⟩
  have inB : ∀ b o, base.get? b = some o → s.heap.get? b = some o := fun b o e => (env.bs b o e).1
  have inK : K.In s.heap := env.mod.kin.keeps inB
  have kinds : ∀ y ∈ ps.zip us, (defScope st).names.lookup y.1 = some .local ∨ ((defScope st).names.lookup y.1 = some .cell ∧ ((cellsFrom (s.heap.objs.size + 1) (defScope st).names []).lookup y.1).isSome = true) := fun ⟨n, v⟩ hy => (S.par n (List.of_mem_zip hy).1).elim .inl fun q => .inr ⟨q, PySem.W.cellsFrom_some _ _ _ (.inl q)⟩
  refine codeAny_call_function room.depth (inK _ _ lk) rfl S.co S.gen rfl (PySem.W.codeRec_of inK hcd) (bnd _ _ _ _ (wpAny_newFunctionEnv_cells S.kind kinds ?_))
  rintro _ rfl s1 x
  obtain ⟨t, ht, hq⟩ := hbody A outer s H vs Q E (room.deeper _) gd want
  refine ⟨(env.mod.nolimit.keeps inB).keeps x.toInCall.keep, codeAny_func (wpAny_mono (ht.run [] s1 _ H _ (inv_start (CX := CX) (qual := qual) (f := f) (cd := cdv) (E := E) S room.hd env (len _ _ _ _ want) rel x) hq) ?_ fun e s' hs => hs)⟩
  rintro (_ | _ | _ | u) s' hs
  · obtain ⟨σ', H', J, q⟩ := hs
    exact ⟨V.non, H', J.os, J.bare, J.base, J.hok, rfl, q⟩
  · obtain ⟨_, _, _, q⟩ := hs
    exact q.elim
  · obtain ⟨_, _, _, q⟩ := hs
    exact q.elim
  · obtain ⟨v, σ', H', J, rv, q⟩ := hs
    exact ⟨v, H', J.os, J.bare, J.base, J.hok, rv, q⟩
end
section
variable {P : Program} {w : World} {K : PySem.W.Frag} {mg : Str → Option Value} {base : Heap} {dr : Option Dr} {N ps : List Str} {W : Wp} {k : Nat} {cdv : Value}
theorem fnDv {x qual : Str} {st : Stmt} {f : Addr} {fd : FuncData} (F : FunV K x qual st f fd cdv) (S : FnScope N ps (defScope st)) (hlen : ∀ ds Q, W ds Q → ds.length = ps.length)
    (hb : ∀ (A : Around) (outer : List Env) (s : Shared) (H : Hp) (E : XK) (an : An) (ds : List D) (post : D → Prop), Room k (A.deeper (PyProof.Rows.envOfC qual (defScope st) s.heap.objs.size f cdv)) → A.guards = some [] → W ds post →
      WSs (cxOf CX0 P w K mg base N qual (defScope st) f cdv A outer s H E).nox an dr (startR N ds) [] (defBody st) { nx := fun _ _ => post .non, rt := post }) : FnG P w K mg base CX0 (k + 1) f fd ps (spD K dr W) := by
  refine FnG.byV F S (fun vs H Q E h => ?_) (fun A outer s H vs Q E hr gd h => ?_)
  · obtain ⟨G, ds, _, i, h⟩ := h
    rw [i.length]
    exact hlen _ _ h
  · obtain ⟨G, ds, pr, i, h⟩ := h
    refine ⟨_, PSs.nox (hb A outer s H E ⟨G, strip H, false, []⟩ ds _ hr gd h), [], G, pr.good, env_start i, ?_, fun σ' H' q => ?_, fun v H' q => ?_, fun σ' H' q => ?_, fun σ' H' q => ?_⟩
    · unfold L2.start startR
      rw [List.length_append, List.length_append, List.length_map, List.length_map, List.length_replicate, List.length_replicate, i.length]
    · obtain ⟨ρ', om', τ', G', p, g, _, gr, _⟩ := q
      exact p .non G' H' .non g.frm
    · obtain ⟨d, om', τ', G', p, i', g, gr⟩ := q
      rcases i' with i' | ⟨z, _⟩
      · exact p v G' H' i' g.frm
      · cases z
    · obtain ⟨_, _, _, _, p, _⟩ := q
      exact p
    · obtain ⟨_, _, _, _, p, _⟩ := q
      exact p
/-- a law that begins with draw = begin(script), its code object known -/
theorem law_byV (T : List (Addr × Str)) {qual : Str} {st : Stmt} {f : Addr} {fd : FuncData} {xs : Str} {pr : Str} {ps1 : List Str} {sts : List Stmt} {pd pn pa pc pb : Pos} {xd xb : Str} (F : FunV K "law" qual st f fd cdv) (S : FnScope N [pr] (defScope st)) (hb : HasB P w K mg base k xb ps1) (hbd : defBody st = .Assign [.Name xd pd] (.Call (.Name xb pn) [.Name xs pa] [] pc) pb :: sts)
    (h0 : N[0]? = some xs) (h1 : N[1]? = some xd) (hv0 : Vis (defScope st) xs) (hl1 : Loc (defScope st) xd) (hgl : (defScope st).names.lookup xb = some .globalImplicit)
    (hd0 : (xs == ("__debug__" : Str)) = false) (hd1 : (xs == ("__classdict__" : Str)) = false) (hdb : (xb == ("__debug__" : Str)) = false)
    (hbody : ∀ (A : Around) (outer : List Env) (s : Shared) (H : Hp) (E : XK) (a : Addr) (ns : List Int) (x : Dr), Room k (A.deeper (PyProof.Rows.envOfC qual (defScope st) s.heap.objs.size f cdv)) → A.guards = some [] → SqL K H a (ns.map V.int) → ns.length ≤ 63 → (H a ≠ none → Off (some x) a) → x.c ≠ x.g → x.cs.length ≤ sizeLine → x.T = T →
      WSs (cxOf CX0 P w K mg base N qual (defScope st) f cdv A outer s H E).nox ⟨fun _ => none, strip H, false, []⟩ (some x) (some (.v (.obj a)) :: some (.v (.obj x.d)) :: List.replicate (N.length - 2) none) [] sts { nx := fun _ _ => False, rt := fun d => d = .bl true }) : FnG P w K mg base CX0 (k + 1) f fd [pr] (spLaw T K) := by
  obtain ⟨fB, fdB, FB, hm, hk, hbi⟩ := hb.ex
  refine FnG.byV F S (fun vs H Q E h => ?_) (fun A outer s H vs Q E hr gd h => ?_)
  · obtain ⟨a, ns, rfl, _⟩ := h
    rfl
  · obtain ⟨a, ns, rfl, hS, hlen, hT1, kk⟩ := h
    rw [hbd]
    have hpe : PE (cxOf CX0 P w K mg base N qual (defScope st) f cdv A outer s H E).nox (.Call (.Name xb pn) [.Name xs pa] [] pc) (tCall (spBegin K) [] E0 (tCons (tVar 0) tNil)) :=
      pe_callG FB hr gd hgl hm hk hbi pass0 (pa_cons (pe_var h0 hv0 hd0 hd1) pa_nil rfl) hdb rfl rfl
    refine ⟨_, PSs.nox (pss_cons (ps_set (i := 1) S.nd h1 hl1 hpe rfl (.inl rfl)) (pss_ud (an := ⟨fun _ => none, strip H, false, []⟩))), ?_⟩
    obtain ⟨m, hm2⟩ : ∃ m, N.length = m + 2 := ⟨N.length - 2, by have := (List.getElem?_eq_some_iff.mp h1).1; omega⟩
    have est : L2.start N [.ref a] = some (.ref a) :: none :: List.replicate (N.length - 2) none := by
      unfold L2.start
      rw [hm2]
      show some (V.ref a) :: List.replicate (m + 2 - 1) none = _
      rw [show m + 2 - 1 = m + 1 by omega, show m + 2 - 2 = m by omega, List.replicate_succ]
    rw [est]
    refine ⟨_, rfl, a, ns, rfl, hS, hlen, fun x0 H' z1 z2 z3 hgc hz dI same => ?_⟩
    let x : Dr := ⟨x0.d, x0.g, x0.c, x0.cs, T⟩
    have hof : H a ≠ none → Off (some x) a := fun z y hy => by
      cases hy
      exact ⟨fun q => z (q ▸ z1), fun q => z (q ▸ z2), fun q => z (q ▸ z3)⟩
    refine ⟨some x, _, _, _, hbody A outer s H E a ns x hr gd hS hlen hof hgc hz rfl, [], fun _ => none, ?_, fun i r e => ?_, ?_, fun σ' H' q => ?_, fun v H' q => ?_, fun σ' H' q => ?_, fun σ' H' q => ?_⟩
    · exact ⟨(fun _ _ q => by cases q), rfl, List.nodup_nil, fun k p ds q => by simp at q, fun y hy => by cases hy; exact ⟨dI, rfl, rfl, rfl, fun t ht => LamX.TabS.nil (same _ _ (hT1 t ht))⟩, (fun _ _ q => by cases q), fun b o q _ => same b o (strip_some q).1, fun _ _ _ => rfl, fun k p q => by simp at q, (fun _ _ q => by cases q), fun _ _ => strip_nt, fun t h => nomatch h⟩
    · match i, e with
      | 0, e => cases e; exact ⟨_, rfl, .v (.obj a)⟩
      | 1, e => cases e; exact ⟨_, rfl, .v (.obj x.d)⟩
      | i + 2, e =>
        have e' : (List.replicate (N.length - 2) (none : Option R))[i]? = some (some r) := e
        rw [List.getElem?_replicate] at e'
        split at e' <;> cases e'
    · show (List.length _) = _
      simp
    · obtain ⟨_, _, _, _, z, _⟩ := q
      exact z.elim
    · obtain ⟨d, _, _, _, rfl, i, _⟩ := q
      rcases i with i | ⟨z, _⟩
      · cases i
        exact kk _ _ rfl
      · cases z
    · obtain ⟨_, _, _, _, z, _⟩ := q
      exact z.elim
    · obtain ⟨_, _, _, _, z, _⟩ := q
      exact z.elim
end
end DL

namespace DL
open PySem L2 LamX
/-! ### errors in plain words -/
theorem isES_imp {nE : Nat} {c : Cl} {n : Option Nat} {d : D} {K K' : Bool → Prop} (h : isES nE c n d K) (i : ∀ t, K t → K' t) : isES nE c n d K' := by
  unfold isES at h ⊢
  split at h
  · exact i _ h
  · obtain ⟨m, h1, h2, h3⟩ := h; exact ⟨m, h1, h2, i _ h3⟩
  · exact h.elim
theorem fldE_imp {nE : Nat} {c : Cl} {f : Str} {d : D} {K K' : D → Prop} (h : fldE nE c f d K) (i : ∀ t, K t → K' t) : fldE nE c f d K' := by
  unfold fldE at h ⊢
  split at h
  · exact ⟨h.1, h.2.1, i _ h.2.2⟩
  · exact h.elim
structure ErrC (K : PySem.W.Frag) (mg : Str → Option Value) (nE : Nat) (c : Cl) (x : Str) (n : Option Nat) : Prop where
  ex : ∃ C, mg x = some (.ref C) ∧ PySem.W.kitOne K (.type "NoneType") (.ref C) = some false ∧ ∀ m, m < nE → PySem.W.kitOne K (.ref (c.err m)) (.ref C) = some (match n with | some n => decide (m = n) | none => true)
structure ErrV (K : PySem.W.Frag) (mg : Str → Option Value) (nE : Nat) (c : Cl) : Prop where
  m : mg "ValueError" = none
  z : PySem.W.kitOne K (.type "NoneType") (.type "ValueError") = some false
  a : ∀ m, m < nE → PySem.W.kitOne K (.ref (c.err m)) (.type "ValueError") = some true
def ErrHs (K : PySem.W.Frag) (nE : Nat) (c : Cl) : Prop := ∀ m, m < nE → ErrH K (c.err m)
section
variable {X : Cx} {an : An} {dr : Option Dr} {ρ : Rho} {om : Om} {e : Expr} {pos p p2 : Pos} {x f : Str} {Q : R → Om → Prop} {nE : Nat} {c : Cl} {n : Option Nat}
theorem cb_isVi : CallR X (.builtin "isinstance") (fun xs H Q => DX.rIsV X.K xs H Q ∨ rIsi X.K xs H Q) := fun pins s σ H xs us Q I r h => h.elim (DX.call_isV pins s σ H xs us Q I r) (call_isi pins s σ H xs us Q I r)
theorem we_isE0 {cV : V} {cv : Value} (hm : X.mg "isinstance" = none) (hH : ErrHs X.K nE c) (hx : PE X (.Name x p2) (tC cV)) (hcl : ClsV cV cv) (hz : PySem.W.kitOne X.K (.type "NoneType") cv = some false) (hk : ∀ m, m < nE → PySem.W.kitOne X.K (.ref (c.err m)) cv = some (match n with | some n => decide (m = n) | none => true))
    (h : WE X an dr ρ om e fun r om1 => isES nE c n (vw om1 r) fun t => Q (.v (.bl t)) om1) (hg : Gl X "isinstance")
    (hs : starEach [e, .Name x p2] X.env = (false, eval e X.env) :: starEach [.Name x p2] X.env) (hs2 : starEach [.Name x p2] X.env = (false, eval (.Name x p2) X.env) :: starEach [] X.env) (hpl : (backTo pos (starEach [.Name x p2] X.env)).any (·.1) = false) : WE X an dr ρ om (.Call (.Name "isinstance" p) [e, .Name x p2] [] pos) Q :=
  peI (pe_callB cb_isVi hg hm PyProof.Rows.boot_isinstance (pa_cons (pe_u (an := an) (dr := dr)) (pa_cons hx pa_nil hs2) hs) (by decide) (by decide) hs hpl) fun σ H K' ⟨τ, G, g, n1, k⟩ => uE_of h g n1 fun v r om1 τ1 G1 H1 h1 w g1 gr1 n2 => by
    show DX.rIsV X.K [v, cV] H1 K' ∨ rIsi X.K [v, cV] H1 K'
    unfold isES at w
    split at w
    · rename_i e1
      obtain rfl := (vw_not g1 h1 e1 rfl).non_inv
      exact .inr ⟨.non, cV, .type "NoneType", cv, false, rfl, hcl, .base .non, hz, k _ _ om1 τ1 G1 H1 (.v (.bl _)) w g1 gr1⟩
    · rename_i C fds e1
      obtain ⟨m, hm1, rfl, q⟩ := w
      obtain ⟨a, dd, rfl, ha, hd⟩ := (vw_not g1 h1 e1 rfl).exc_inv
      refine .inl ⟨a, c.err m, dd, cV, cv, _, rfl, g1.ex _ _ ha, fun d' e => ?_, (hH m hm1).ec, fun u hu => hcl.eq hu, hk m hm1, k _ _ om1 τ1 G1 H1 (.v (.bl _)) q g1 gr1⟩
      rcases hd with ⟨z, _⟩ | ⟨d2, fs, z, hd, _⟩
      · rw [z] at e; cases e
      · rw [z] at e; cases e; exact ⟨fs, g1.ex _ _ hd⟩
    · exact w.elim
theorem we_isE (hm : X.mg "isinstance" = none) (hH : ErrHs X.K nE c) (hE : ErrC X.K X.mg nE c x n) (h : WE X an dr ρ om e fun r om1 => isES nE c n (vw om1 r) fun t => Q (.v (.bl t)) om1) (hg : Gl X "isinstance" := by rfl) (hgx : Gl X x := by rfl) (hd : (x == ("__debug__" : Str)) = false := by decide)
    (hs : starEach [e, .Name x p2] X.env = (false, eval e X.env) :: starEach [.Name x p2] X.env := by rfl) (hs2 : starEach [.Name x p2] X.env = (false, eval (.Name x p2) X.env) :: starEach [] X.env := by rfl) (hpl : (backTo pos (starEach [.Name x p2] X.env)).any (·.1) = false := by rfl) : WE X an dr ρ om (.Call (.Name "isinstance" p) [e, .Name x p2] [] pos) Q := by
  obtain ⟨C, h1, h2, h3⟩ := hE.ex
  exact we_isE0 hm hH (pe_glob (v := .ref C) hgx h1 rfl hd) (.own C) h2 h3 h hg hs hs2 hpl
theorem we_isVE (hm : X.mg "isinstance" = none) (hH : ErrHs X.K nE c) (hE : ErrV X.K X.mg nE c) (h : WE X an dr ρ om e fun r om1 => isES nE c none (vw om1 r) fun t => Q (.v (.bl t)) om1) (hg : Gl X "isinstance" := by rfl) (hgx : Gl X "ValueError" := by rfl)
    (hs : starEach [e, .Name "ValueError" p2] X.env = (false, eval e X.env) :: starEach [.Name "ValueError" p2] X.env := by rfl) (hs2 : starEach [.Name "ValueError" p2] X.env = (false, eval (.Name "ValueError" p2) X.env) :: starEach [] X.env := by rfl) (hpl : (backTo pos (starEach [.Name "ValueError" p2] X.env)).any (·.1) = false := by rfl) : WE X an dr ρ om (.Call (.Name "isinstance" p) [e, .Name "ValueError" p2] [] pos) Q :=
  we_isE0 (n := none) hm hH (pe_bltn (v := .ty "ValueError") hgx hE.m (by first | boot_by_name | kernel_rfl | rfl) rfl) (.ty _) hE.z hE.a h hg hs hs2 hpl
theorem we_fldE (hH : ErrHs X.K nE c) (hf : ∀ m, m < nE → PySem.W.findIn X.K (.ref (c.err m)) f = some none) (h : WE X an dr ρ om e fun r om1 => fldE nE c f (vR r) fun d => Q (.v d) om1) (hb : attributeBase e f X.env (eval e X.env) = eval e X.env := by rfl) : WE X an dr ρ om (.Attribute e f pos) Q :=
  we_fldX (WE.imp h fun r om1 q => by
    unfold fldE at q
    split at q
    · rename_i C g v e1
      obtain ⟨rfl, ⟨m, hm, rfl⟩, q⟩ := q
      have e2 := isR_v (K := X.K) e1 (by simp)
      subst e2
      exact ⟨_, v, rfl, hH m hm, hf m hm, q⟩
    · exact q.elim) hb
end
end DL

namespace DL
open PySem L2
/-! ### a thing of one's own is returned -/
/-- the result is new, and the caller's own from now on -/
def OwnR (K : PySem.W.Frag) (dr : Option Dr) (H G' H' : Hp) (v : V) (d : D) : Prop := ∃ p c o, d = .own c ∧ v = .ref p ∧ strip H p = none ∧ G' p = none ∧ Off dr p ∧ H' p = some o ∧ Cell K G' o c
def spO (K : PySem.W.Frag) (dr : Option Dr) (W : Wp) : Sp := fun vs H Q _ => ∃ G ds, Pre dr G H ∧ IsL K G vs ds ∧ W ds fun d => ∀ v G' H', (Is K G' v d ∨ OwnR K dr H G' H' v d) → Frm dr G H G' H' → Q v H'
structure HasO (P : Program) (w : World) (K : PySem.W.Frag) (mg : Str → Option Value) (base : Heap) (dr : Option Dr) (k : Nat) (x : Str) (ps : List Str) (W : Wp) : Prop where
  ex : ∃ f fd, FnG P w K mg base CX0 k f fd ps (spO K dr W) ∧ mg x = some (.ref f) ∧ PySem.W.keepIn K (.ref f) = true ∧ Binds K fd ps []
  mono : ∀ ds Q Q', (∀ d, Q d → Q' d) → W ds Q → W ds Q'
section
variable {P : Program} {w : World} {K : PySem.W.Frag} {mg : Str → Option Value} {base : Heap} {dr : Option Dr} {N ps : List Str} {W : Wp} {k : Nat}
theorem fnO {x qual : Str} {st : Stmt} {f : Addr} {fd : FuncData} (F : FunA K x qual st f fd) (S : FnScope N ps (defScope st)) (hlen : ∀ ds Q, W ds Q → ds.length = ps.length)
    (hb : ∀ (cdv : Value) (A : Around) (outer : List Env) (s : Shared) (H : Hp) (E : XK) (an : An) (ds : List D) (post : D → Prop), Room k (A.deeper (PyProof.Rows.envOfC qual (defScope st) s.heap.objs.size f cdv)) → A.guards = some [] → W ds post → an.ow = true →
      WSs (cxOf CX0 P w K mg base N qual (defScope st) f cdv A outer s H E).nox an dr (startR N ds) [] (defBody st) { nx := fun _ _ => post .non, rt := post }) : FnG P w K mg base CX0 (k + 1) f fd ps (spO K dr W) := by
  refine FnG.by F S (fun vs H Q E h => ?_) (fun cdv A outer s H vs Q E hr gd h => ?_)
  · obtain ⟨G, ds, _, i, h⟩ := h
    rw [i.length]
    exact hlen _ _ h
  · obtain ⟨G, ds, pr, i, h⟩ := h
    refine ⟨_, PSs.nox (hb cdv A outer s H E ⟨G, strip H, true, []⟩ ds _ hr gd h rfl), [], G, pr.good, env_start i, ?_, fun σ' H' q => ?_, fun v H' q => ?_, fun σ' H' q => ?_, fun σ' H' q => ?_⟩
    · unfold L2.start startR
      rw [List.length_append, List.length_append, List.length_map, List.length_map, List.length_replicate, List.length_replicate, i.length]
    · obtain ⟨ρ', om', τ', G', p, g, _, gr, _⟩ := q
      exact p .non G' H' (.inl .non) g.frm
    · obtain ⟨d, om', τ', G', p, i', g, gr⟩ := q
      rcases i' with i' | ⟨_, j, q, c, rfl, rfl, hk, ho⟩
      · exact p v G' H' (.inl i') g.frm
      · obtain ⟨f1, f2, f3, o, f4, f5⟩ := g.own j q c hk ho
        exact p _ G' H' (.inr ⟨q, c, o, rfl, rfl, f2, f1, f3, f4, f5⟩) g.frm
    · obtain ⟨_, _, _, _, p, _⟩ := q
      exact p
    · obtain ⟨_, _, _, _, p, _⟩ := q
      exact p
end
/-- what was returned is taken over -/
theorem Good.adopt {K : PySem.W.Frag} {an : An} {dr : Option Dr} {om : Om} {τ : List Addr} {G H G' H' : Hp} {p : Addr} {o : HO} {c : D} (g : Good K an dr om τ G H) (f : Frm dr G H G' H') (h0 : strip H p = none) (h1 : G' p = none) (h2 : Off dr p) (h3 : H' p = some o) (h4 : Cell K G' o c) : Good K an dr (om ++ [some c]) (τ ++ [p]) G' H' := by
  have g1 := g.call f
  have nin : ∀ (k : Nat) (q : Addr), τ[k]? = some q → q ≠ p := fun k q hk z => by
    obtain ⟨_, o', a2, a3⟩ := g.a4 k q hk
    rw [z] at a2
    rw [strip_of a2 a3] at h0
    cases h0
  exact {
    ex := g1.ex
    len := by rw [List.length_append, List.length_append, g1.len]; rfl
    nd := by
      rw [List.nodup_append]
      refine ⟨g1.nd, by simp, fun a ha b hb => ?_⟩
      rw [List.mem_singleton] at hb
      obtain ⟨k, hk⟩ := List.getElem?_of_mem ha
      exact hb ▸ nin k a hk
    own := fun k q es e1 e2 => by
      by_cases hk : k < τ.length
      · rw [List.getElem?_append_left hk] at e1
        rw [List.getElem?_append_left (by rw [g1.len]; exact hk)] at e2
        exact g1.own k q es e1 e2
      · rw [List.getElem?_append_right (by omega)] at e1
        rw [List.getElem?_append_right (by rw [g1.len]; omega), g1.len] at e2
        have hz : k - τ.length = 0 := by
          have := (List.getElem?_eq_some_iff.mp e1).1
          simp at this
          omega
        rw [hz] at e1 e2
        simp at e1 e2
        subst e1 e2
        refine ⟨h1, ?_, h2, o, h3, h4⟩
        cases e : an.H0 p with
        | none => rfl
        | some u =>
          rw [strip_of (g.a2 p u e h2) (fun ps z => g.nt0 p ps (z ▸ e))] at h0
          cases h0
    drg := g1.drg
    a1 := g1.a1
    a2 := g1.a2
    a3 := g1.a3
    a4 := fun k q e1 => by
      by_cases hk : k < τ.length
      · rw [List.getElem?_append_left hk] at e1
        exact g1.a4 k q e1
      · rw [List.getElem?_append_right (by omega)] at e1
        have hz : k - τ.length = 0 := by
          have := (List.getElem?_eq_some_iff.mp e1).1
          simp at this
          omega
        rw [hz] at e1
        simp at e1
        subst e1
        exact ⟨h2, o, h3, h4.noTab.1⟩
    gt := g1.gt
    nt0 := g1.nt0
    ti := fun t ht => by
      have := g1.ti t ht
      rw [List.getElem?_append_left (List.getElem?_eq_some_iff.mp this).1]; exact this }
def retQ (Q : R → Om → Prop) (om : Om) : D → Prop
  | .own c => Q (.o om.length) (om ++ [some c])
  | d => Q (.v d) om
theorem retQ_v {Q : R → Om → Prop} {om : Om} {d : D} (h : retQ Q om d) {K : PySem.W.Frag} {G : Hp} {v : V} (i : Is K G v d) : Q (.v d) om := by
  cases i <;> exact h
/-- a result that is one's own -/
def ownS (d : D) (K : D → Prop) : Prop := match d with
  | .own c => K c
  | _ => False
theorem ownS_inv {d : D} {K : D → Prop} (h : ownS d K) : ∃ c, d = .own c ∧ K c := by
  unfold ownS at h
  split at h
  · exact ⟨_, rfl, h⟩
  · exact h.elim
section
variable {X : Cx} {an : An} {dr : Option Dr} {ρ : Rho} {om : Om} {e e2 o ix : Expr} {es : List Expr} {sts : List Stmt} {pos p apos pos' p2 : Pos} {Q : R → Om → Prop} {x f m : Str} {ps : List Str} {W : Wp} {k j i : Nat} {E : Ed}
theorem we_callO (h : HasO X.prog X.w X.K X.mg X.base dr k x ps W) (hr : Room j X.A) (gd : X.A.guards = some []) (hw : WA X an dr ρ om (e :: es) fun rs om1 => allV rs fun ds => W ds (retQ Q om1)) (hkj : k ≤ j := by decide) (hg : Gl X x := by rfl) (hdb : (x == ("__debug__" : Str)) = false := by decide)
    (he : starEach (e :: es) X.env = (false, eval e X.env) :: starEach es X.env := by rfl) (hpl : (backTo pos (starEach es X.env)).any (·.1) = false := by rfl) : WE X an dr ρ om (.Call (.Name x p) (e :: es) [] pos) Q := by
  obtain ⟨f, fd, F, hm, hk, hb⟩ := h.ex
  refine peI (pe_callG F (hr.mono hkj) gd hg hm hk hb pass0 (pa_u (an := an) (dr := dr)) hdb he hpl) fun σ H K' ⟨τ, G, g, n, k⟩ => uA_of hw g n fun vs rs om1 τ1 G1 H1 h1 w g1 gr1 n1 => ?_
  obtain ⟨ds, i, w⟩ := allV_is h1 w
  show spO X.K dr W (vs ++ []) H1 K' E0
  rw [List.append_nil]
  refine ⟨G1, ds, g1.pre, i, h.mono _ _ _ (fun d q v G' H' i' fr => ?_) w⟩
  rcases i' with i' | ⟨p, c, o, rfl, rfl, a0, a1, a2, a3, a4⟩
  · exact k v _ om1 τ1 G' H' (.v i') (retQ_v q i') (g1.call fr) (gr1.trans ⟨fr.e1, fun _ _ h => h⟩)
  · refine k _ _ _ (τ1 ++ [p]) G' H' (.o ?_) q (g1.adopt fr a0 a1 a2 a3 a4) (gr1.trans ⟨fr.e1, fun j q hj => by rw [List.getElem?_append_left (List.getElem?_eq_some_iff.mp hj).1]; exact hj⟩)
    rw [g1.len, List.getElem?_append_right (Nat.le_refl _), Nat.sub_self]
    rfl
theorem ws_retO (ho : an.ow = true) (h : WE X an dr ρ om e fun r om1 => ∃ k c, r = .o k ∧ om1[k]? = some (some c) ∧ E.rt (.own c)) : WS X an dr ρ om (.Return (some e) pos) E :=
  psI (ps_ret (pe_u (an := an) (dr := dr))) fun Z σ H ⟨τ, G, g, n, hl, _, h2, _⟩ => uE_of h g n fun v r om1 τ1 G1 H1 i1 w g1 gr1 n1 => by
    obtain ⟨k, c, rfl, hc, q⟩ := w
    cases i1 with
    | @o a _ ha => exact h2 _ _ ⟨.own c, om1, τ1, G1, q, .inr ⟨ho, k, a, c, rfl, rfl, ha, hc⟩, g1, gr1⟩
/-! ### a dict of one's own becomes data between two statements -/
theorem pss_lk {t : TS} (h : PSs X sts t) : PSs X sts (fun Z σ H => t Z σ H ∨ ∃ d u, H d = some u ∧ Mut (some u) ∧ ∀ od, t Z σ (upd H d (.frz od u))) := ⟨fun pins s σ H Z I q => by
  rcases q with q | ⟨d, u, hd, mu, q⟩
  · exact h.run pins s σ H Z I q
  · obtain ⟨od, I2⟩ := I.lock hd mu
    exact h.run pins s σ _ Z I2 (q od)⟩
theorem wss_fzD {d : D} (hr : ρ[i]? = some (some (.o k))) (ho : om[k]? = some (some d)) (nd : isDict d = true) (h : WSs X an dr (ρ.set i (some (.v d))) (om.set k none) sts E) : WSs X an dr ρ om sts E :=
  pssI (pss_lk h) fun Z σ H ⟨τ, G, g, n, hl, h1, h2, h3, h4⟩ => by
    obtain ⟨v, hv, iv⟩ := n i _ hr
    cases iv with
    | @o p _ hk =>
      obtain ⟨u, hu, mu, q⟩ := g.freezeD hk ho nd
      refine .inr ⟨p, u, hu, mu, fun od => ?_⟩
      obtain ⟨g', gr, iz⟩ := q od
      have lm : (ρ.set i (some (R.v d))).length = ρ.length := List.length_set
      exact ⟨τ, _, g', (n.mono gr).retype hv (.v iz), by rw [lm]; exact hl, fun _ _ q => h1 _ _ (Left.grow gr (lm ▸ q)), fun _ _ q => h2 _ _ (LeftV.grow gr q), fun _ _ q => h3 _ _ (Left.grow gr (lm ▸ q)), fun _ _ q => h4 _ _ (Left.grow gr (lm ▸ q))⟩
end
end DL
namespace DL
open PySem L2
/-! ### x[w] = []; for y in ..: x[w].append(elt) -/
theorem IsD.rePut {K : PySem.W.Frag} {G G' : Hp} {κ : Type} [DecidableEq κ] {k : κ} {d1 d2 : D} (e : Ex G G') (h : ∀ v, Is K G v d1 → Is K G' v d2) : ∀ {ds : List (κ × D)} {vs : List (κ × V)}, IsD K G vs (putE ds k d1) → IsD K G' vs (putE ds k d2) := by
  have app : ∀ {ds : List (κ × D)} {vs : List (κ × V)}, IsD K G vs (ds ++ [(k, d1)]) → IsD K G' vs (ds ++ [(k, d2)]) := by
    intro ds
    induction ds with
    | nil =>
      intro vs q
      cases q with
      | cons q1 q2 => cases q2; exact .cons (h _ q1) .nil
    | cons p ds ih =>
      intro vs q
      cases q with
      | cons q1 q2 => exact .cons (q1.mono e) (ih q2)
  have mp : ∀ {ds : List (κ × D)} {vs : List (κ × V)}, IsD K G vs (ds.map fun kv => if kv.1 = k then (kv.1, d1) else kv) → IsD K G' vs (ds.map fun kv => if kv.1 = k then (kv.1, d2) else kv) := by
    intro ds
    induction ds with
    | nil => intro vs q; cases q; exact .nil
    | cons p ds ih =>
      intro vs q
      obtain ⟨a, b⟩ := p
      rw [List.map_cons] at q ⊢
      by_cases hk : a = k
      · rw [if_pos hk] at q ⊢
        cases q with
        | cons q1 q2 => exact .cons (h _ q1) (ih q2)
      · rw [if_neg hk] at q ⊢
        cases q with
        | cons q1 q2 => exact .cons (q1.mono e) (ih q2)
  intro ds vs q
  unfold putE at q ⊢
  split
  · rename_i c
    rw [if_pos c] at q
    exact mp q
  · rename_i c
    rw [if_neg c] at q
    exact app q
end DL

namespace DL
open PySem PySem.Spec L2
/-! ### x[w] = []; for y in ..: x[w].append(elt) -/
def An.tie (an : An) (j : Nat) (p : Addr) : An := ⟨an.G0, an.H0, an.ow, (j, p) :: an.ties⟩
section
variable {K : PySem.W.Frag} {an : An} {dr : Option Dr} {om : Om} {τ : List Addr} {G H : Hp} {j : Nat} {p : Addr}
theorem Good.tie (g : Good K an dr om τ G H) (h : τ[j]? = some p) : Good K (an.tie j p) dr om τ G H where
  ex := g.ex
  len := g.len
  nd := g.nd
  own := g.own
  drg := g.drg
  a1 := g.a1
  a2 := g.a2
  a3 := g.a3
  a4 := g.a4
  gt := g.gt
  nt0 := g.nt0
  ti := fun t ht => by
    rcases List.mem_cons.mp ht with rfl | ht
    · exact h
    · exact g.ti t ht
theorem Good.untie (g : Good K (an.tie j p) dr om τ G H) : Good K an dr om τ G H where
  ex := g.ex
  len := g.len
  nd := g.nd
  own := g.own
  drg := g.drg
  a1 := g.a1
  a2 := g.a2
  a3 := g.a3
  a4 := g.a4
  gt := g.gt
  nt0 := g.nt0
  ti := fun t ht => g.ti t (List.mem_cons_of_mem _ ht)
theorem valE_put {κ : Type} [DecidableEq κ] {k : κ} {v : D} : ∀ {kds : List (κ × D)}, valE (putE kds k v) k = some v := by
  intro kds
  have app : ∀ (ds : List (κ × D)), (ds.any fun kv => decide (kv.1 = k)) = false → valE (ds ++ [(k, v)]) k = some v := by
    intro ds
    induction ds with
    | nil => intro _; exact valE_pos rfl
    | cons a ds ih =>
      intro h
      rw [List.any_cons, Bool.or_eq_false_iff] at h
      rw [List.cons_append, valE_neg (by simpa using h.1)]
      exact ih h.2
  have mp : ∀ (ds : List (κ × D)), (ds.any fun kv => decide (kv.1 = k)) = true → valE (ds.map fun kv => if kv.1 = k then (kv.1, v) else kv) k = some v := by
    intro ds
    induction ds with
    | nil => intro h; cases h
    | cons a ds ih =>
      intro h
      rw [List.map_cons]
      by_cases e : a.1 = k
      · rw [if_pos e]
        exact valE_pos e
      · rw [if_neg e, valE_neg e]
        refine ih ?_
        rw [List.any_cons, decide_eq_false e, Bool.false_or] at h
        exact h
  unfold putE
  split
  · exact mp _ (by assumption)
  · rename_i z
    exact app _ (Bool.eq_false_iff.mpr z)
end
def uS1a (X : Cx) (dr : Option Dr) (e : Stmt) : TS := fun Z σ H => ∃ an, uS1 X an dr e Z σ H
section
variable {X : Cx} {an : An} {dr : Option Dr} {ρ : Rho} {om : Om} {e o ix : Expr} {st : Stmt} {sts : List Stmt} {pos p p2 pl : Pos} {Q : R → Om → Prop} {E : Ed}
theorem ps_ua : PS X st (uS1a X dr st) := ⟨fun pins s σ H K' I ⟨an, h⟩ => (ps_u (an := an)).run pins s σ H K' I h⟩
/-- the thing at a tied address is the cell itself -/
theorem we_retie (h : WE X an dr ρ om e fun ro om1 => ∃ p j, ro = .v (.obj p) ∧ (j, p) ∈ an.ties ∧ Q (.o j) om1) : WE X an dr ρ om e Q :=
  peI h fun σ H K' ⟨τ, G, g, n, k⟩ => ⟨τ, G, g, n, fun v r om' τ' G' H' i w g' gr => by
    obtain ⟨p, j, rfl, ht, q⟩ := w
    cases i with
    | v i =>
      cases i
      exact k _ _ om' τ' G' H' (.o (g'.ti _ ht)) q g' gr⟩
theorem wss_nest0 {c : Nat} {kds : List (Key × D)} {k : Key} {pos' : Pos} (hu : X.A.units + 1 < cLine) (hc : om[c]? = some (some (.dic kds))) (hz : kds.length < sizeLine)
    (ho : ∀ om1 Q, Q (.o c) om1 → WE X an dr ρ om1 o Q) (hi : ∀ om1 Q, Q (.v (keyDat k)) om1 → WE X an dr ρ om1 ix Q)
    (h : ∀ p, WS X (an.tie om.length p) dr ρ (om.set c (some (.dic (putE kds k (.obj p)))) ++ [some (.lst [])]) st { nx := fun ρ' om' => ∃ acc, om' = om.set c (some (.dic (putE kds k (.obj p)))) ++ [some (.lst acc)] ∧ (ρ' = ρ ∨ ∃ y d, ρ' = ρ.set y (some (.v d))) ∧ WSs X an dr ρ' (om.set c (some (.dic (putE kds k (.lst acc))))) sts E, rt := fun _ => False, bk := fun _ _ => False, ct := fun _ _ => False })
    (hs : swapsWith (.List [] pl) (some (.Subscript o ix pos')) pos.line X.env = pure false := by rfl) : WSs X an dr ρ om (.Assign [.Subscript o ix pos'] (.List [] pl) pos :: st :: sts) E :=
  pssI (pss_cons (ps_dput hu (pe_u (an := an) (dr := dr)) (pe_u (an := an) (dr := dr)) (pe_u (an := an) (dr := dr)) hs) (pss_cons (ps_ua (dr := dr)) (pss_u (an := an) (dr := dr)))) fun Z σ H ⟨τ, G, g, n, hl, h1, h2, h3, h4⟩ =>
    uE_of (Q := fun r om1 => r = .o om.length ∧ om1 = om ++ [some (.lst [])]) (we_lstO (wa_nil ⟨Nat.zero_le _, rfl, rfl⟩)) g n fun v r om1 τ1 G1 H1 i1 w g1 gr1 n1 => by
    obtain ⟨rfl, rfl⟩ := w
    refine uE_of (ho _ (fun r om2 => r = .o c ∧ om2 = om ++ [some (.lst [])]) ⟨rfl, rfl⟩) g1 n1 fun v2 r2 om2 τ2 G2 H2 i2 w2 g2 gr2 n2 => ?_
    obtain ⟨rfl, rfl⟩ := w2
    refine uE_of (hi _ (fun r om2 => r = .v (keyDat k) ∧ om2 = om ++ [some (.lst [])]) ⟨rfl, rfl⟩) g2 n2 fun v3 r3 om3 τ3 G3 H3 i3 w3 g3 gr3 n3 => ?_
    obtain ⟨rfl, rfl⟩ := w3
    have hcl : c < om.length := (List.getElem?_eq_some_iff.mp hc).1
    have hc3 : (om ++ [some (.lst [])])[c]? = some (some (.dic kds)) := by rw [List.getElem?_append_left hcl]; exact hc
    cases i2 with
    | @o a _ ha =>
      have ha := gr3.pre _ _ ha
      obtain ⟨_, _, _, _, h5, kvs, rfl, id⟩ := g3.own c a _ ha hc3
      cases i1 with
      | @o pp _ hp =>
        have hp3 := gr3.pre _ _ (gr2.pre _ _ hp)
        have l3 : τ3.length = om.length + 1 := by have := g3.len; rw [List.length_append] at this; simpa using this.symm
        refine ⟨a, _, rfl, .inl ⟨kvs, k, h5, keyDat_isR i3, by rw [id.length]; exact hz, rfl⟩, an.tie om.length pp, ?_⟩
        have gw := (g3.writeO (d := .dic (putE kds k (.obj pp))) ha hc3 ⟨_, rfl, id.put (.obj pp)⟩).tie (p := pp) hp3
        rw [List.set_append_left _ _ hcl] at gw
        refine uS1_of (h pp) gw n3 hl (fun σ4 H4 q => ?_) (fun v H4 q => ?_) (fun σ4 H4 q => ?_) (fun σ4 H4 q => ?_)
        · obtain ⟨ρ4, om4, τ4, G4, ⟨acc, rfl, hρ, w⟩, g4, n4, gr4, m1, m2⟩ := q
          have hl4 : τ4.length = om.length + 1 := by have := g4.len; rw [List.length_append, List.length_set] at this; simpa using this.symm
          have hp4 := gr4.pre _ _ hp3
          have ha4 := gr4.pre _ _ ha
          obtain ⟨τ5, q5, rfl⟩ : ∃ t x, τ4 = t ++ [x] := by
            rcases List.eq_nil_or_concat τ4 with e | ⟨t, x, e⟩
            · rw [e] at hl4; simp at hl4
            · exact ⟨t, x, by simpa using e⟩
          have hl5 : τ5.length = om.length := by simpa using hl4
          have e5 : q5 = pp := by
            rw [List.getElem?_append_right (by omega), hl5, Nat.sub_self] at hp4
            simpa using hp4
          subst e5
          have ha5 : τ5[c]? = some a := by rwa [List.getElem?_append_left (by omega)] at ha4
          have lo : (om.set c (some (.dic (putE kds k (.obj q5))))).length = om.length := List.length_set
          have hk4 : (om.set c (some (.dic (putE kds k (.obj q5)))) ++ [some (D.lst acc)])[om.length]? = some (some (.lst acc)) := by
            rw [List.getElem?_append_right (by rw [lo]; exact Nat.le_refl _), lo, Nat.sub_self]; rfl
          obtain ⟨ob, g5, gr5, i5⟩ := g4.untie.freeze hp4 hk4 rfl
          have gr1t : Grow G τ G4 (τ5 ++ [q5]) := ((gr1.trans gr2).trans gr3).trans gr4
          have hlτ : τ.length = om.length := g.len.symm
          have st5 : ∀ (m : Nat) (b : Addr), τ[m]? = some b → τ5[m]? = some b := fun m b hm => by
            have := gr1t.pre m b hm
            rwa [List.getElem?_append_left (by have := (List.getElem?_eq_some_iff.mp hm).1; omega)] at this
          rw [List.set_append_right _ _ (by rw [lo]; exact Nat.le_refl _), lo, Nat.sub_self] at g5
          have g6 := Good.drop (x := none) g5 (fun t ht => st5 _ _ (g.ti t ht))
          have hc6 : (om.set c (some (D.dic (putE kds k (.obj q5)))))[c]? = some (some (.dic (putE kds k (.obj q5)))) := by rw [List.getElem?_set_self hcl]
          obtain ⟨_, _, _, _, h6, kvs6, rfl, id6⟩ := g6.own c a _ ha5 hc6
          have g7 := g6.writeO (d := .dic (putE kds k (.lst acc))) (o := .dK kvs6) ha5 hc6 ⟨_, rfl, id6.rePut (Ex.refl _) fun v iv => by
            cases iv
            exact i5⟩
          rw [upd_id h6, List.set_set] at g7
          have n7 : EnvIs X.K (upd G4 q5 ob) τ5 σ4 ρ4 := fun i r hr => by
            obtain ⟨v, hv, iv⟩ := (n4.mono gr5) i r hr
            refine ⟨v, hv, ?_⟩
            cases iv with
            | v iv => exact .v iv
            | @o b m hb =>
              refine .o ?_
              have old : ρ[i]? = some (some (.o m)) := by
                rcases hρ with rfl | ⟨y, d, rfl⟩
                · exact hr
                · by_cases hy : y = i
                  · subst hy
                    have hlt := (List.getElem?_eq_some_iff.mp hr).1
                    rw [List.getElem?_set_self (by simpa using hlt)] at hr
                    cases hr
                  · rwa [List.getElem?_set_ne hy] at hr
              obtain ⟨v', _, iv'⟩ := n i _ old
              cases iv' with
              | @o b' _ hb' =>
                have := st5 m b' hb'
                rw [List.getElem?_append_left (List.getElem?_eq_some_iff.mp this).1] at hb
                exact hb
          have gr7 : Grow G τ (upd G4 q5 ob) τ5 := ⟨gr1t.ex.trans gr5.ex, st5⟩
          refine uS_of w g7 n7 (m1.trans m2.symm) (fun σ5 H5 q => ?_) (fun v H5 q => ?_) (fun σ5 H5 q => ?_) (fun σ5 H5 q => ?_)
          · exact h1 σ5 H5 (Left.grow gr7 (m2 ▸ q))
          · exact h2 v H5 (LeftV.grow gr7 q)
          · exact h3 σ5 H5 (Left.grow gr7 (m2 ▸ q))
          · exact h4 σ5 H5 (Left.grow gr7 (m2 ▸ q))
        · obtain ⟨_, _, _, _, q, _⟩ := q
          exact q.elim
        · obtain ⟨_, _, _, _, q, _⟩ := q
          exact q.elim
        · obtain ⟨_, _, _, _, q, _⟩ := q
          exact q.elim
theorem WI.imp {tg iter : Expr} {Q Q' : List D → Om → Prop} (h : WI X an dr ρ om tg iter Q) (i : ∀ ds om', Q ds om' → Q' ds om') : WI X an dr ρ om tg iter Q' :=
  piI h fun σ H Z ⟨τ, G, g, n, k⟩ => ⟨τ, G, g, n, fun J ds om' τ' G' H' q => k J ds om' τ' G' H' (i _ _ q)⟩
theorem wss_nest {c i j y : Nat} {x w yv : Str} {l kw : D} {K0 : D → Prop} {iter elt : Expr} {q1 q2 q3 py apos cpos epos fpos pos' : Pos} (hu : X.A.units + 65 < cLine) (hp : PassesOwn (model X.prog X.w) X.A X.env X.xe) (hcm : X.calm = true)
    (hNx : X.N[i]? = some x) (hvx : Vis X.env.scope x) (hNw : X.N[j]? = some w) (hvw : Vis X.env.scope w) (hNy : X.N.Nodup) (hiy : X.N[y]? = some yv) (hly : Loc X.env.scope yv) (hyi : y ≠ i) (hyj : y ≠ j) (hc : om[c]? = some (some l)) (hrx : ρ[i]? = some (some (.o c))) (hrw : ρ[j]? = some (some (.v kw)))
    (hW : dputS l kw (.lst []) K0)
    (h : ∀ (p : Addr) (kds : List (Key × D)) (k : Key), WI X (an.tie om.length p) dr ρ (om.set c (some (.dic (putE kds k (.obj p)))) ++ [some (.lst [])]) (.Name yv py) iter fun ds om1 => om1 = om.set c (some (.dic (putE kds k (.obj p)))) ++ [some (.lst [])] ∧
      ∃ (b : D → List D → (List D → Prop) → Prop) (KS : List D → Prop), forS ds [] b KS ∧ (∀ d acc nx, b d acc nx → WE X (an.tie om.length p) dr (ρ.set y (some (.v d))) (om.set c (some (.dic (putE kds k (.obj p)))) ++ [some (.lst acc)]) elt fun r om2 => om2 = om.set c (some (.dic (putE kds k (.obj p)))) ++ [some (.lst acc)] ∧ ∃ t, r = .v t ∧ acc.length < sizeLine ∧ nx (acc ++ [t])) ∧
      (∀ acc u, KS acc → dputS l kw (.lst acc) fun l2 => WSs X an dr (ρ.set y u) (om.set c (some l2)) sts E))
    (hf : X.fn yv = true ∨ X.env.scope.names.lookup yv = some .local := by first | exact .inl rfl | exact .inr rfl | assumption)
    (hd : (x == ("__debug__" : Str)) = false := by decide) (hcd : (x == ("__classdict__" : Str)) = false := by decide) (hd2 : (w == ("__debug__" : Str)) = false := by decide) (hcd2 : (w == ("__classdict__" : Str)) = false := by decide)
    (hs : swapsWith (.List [] pl) (some (.Subscript (.Name x p) (.Name w p2) pos')) pos.line X.env = pure false := by rfl)
    (hs2 : ∀ x, foldedSetIterable iter X.env x = pure x := by intro _; rfl)
    (hs3 : swapsWith (.Call (.Attribute (.Subscript (.Name x q1) (.Name w q2) q3) "append" apos) [elt] [] cpos) none epos.line X.env = pure false := by rfl)
    (hbase : attributeBase (.Subscript (.Name x q1) (.Name w q2) q3) "append" X.env (eval (.Subscript (.Name x q1) (.Name w q2) q3) X.env) = eval (.Subscript (.Name x q1) (.Name w q2) q3) X.env := by rfl)
    (hfew : ((backTo cpos (starEach [elt] X.env)).all (fun x => !x.1) && (backToKw cpos (keywordEach [] X.env)).all (fun x => x.1.isSome)
      && decide ([elt].length + ([] : List Keyword).length + (if ([] : List Keyword).isEmpty then 0 else 1) < 30)) = true := by rfl)
    (hline : (apos.endLine == cpos.line) = true := by rfl) (hse : starEach [elt] X.env = (false, eval elt X.env) :: starEach [] X.env := by rfl) (hpl : (backTo cpos (starEach [] X.env)).any (·.1) = false := by rfl) :
    WSs X an dr ρ om (.Assign [.Subscript (.Name x p) (.Name w p2) pos'] (.List [] pl) pos :: .For (.Name yv py) iter [.Expr (.Call (.Attribute (.Subscript (.Name x q1) (.Name w q2) q3) "append" apos) [elt] [] cpos) epos] [] fpos :: sts) E := by
  obtain ⟨kds, key, rfl, rfl, hz, _⟩ := dput_inv hW
  refine wss_nest0 (k := key) (by omega) hc hz (fun om1 Q q => we_name hNx hvx hrx q hd hcd) (fun om1 Q q => we_name hNw hvw hrw q hd2 hcd2) (fun p => ?_) hs
  have hcl : c < om.length := (List.getElem?_eq_some_iff.mp hc).1
  refine ws_for hp hcm (wg_name hNy hiy hly hf) (WI.imp (h p kds key) fun ds om1 ⟨e, b, KS, f, hb, he⟩ => ?_) hs2
  subst e
  refine ⟨fun n ρ' om' => ∃ acc, (ρ' = ρ ∨ ∃ d, ρ' = ρ.set y (some (.v d))) ∧ om' = om.set c (some (.dic (putE kds key (.obj p)))) ++ [some (.lst acc)] ∧ forS (ds.drop n) acc b KS, ⟨[], .inl rfl, rfl, f⟩, ?_, ?_⟩
  · rintro n d ρ' om' hl hd1 ⟨acc, hρ, rfl, f⟩
    have eρ : ρ'.set y (some (.v d)) = ρ.set y (some (.v d)) := by
      rcases hρ with rfl | ⟨d', rfl⟩
      · rfl
      · rw [List.set_set]
    have hw := hb d acc _ (forS_at hd1 f)
    refine fN_link ?_
    rw [eρ]
    have lo : ∀ z : Option D, (om.set c z).length = om.length := fun z => List.length_set
    have hj : ∀ a : List D, (om.set c (some (.dic (putE kds key (.obj p)))) ++ [some (D.lst a)])[om.length]? = some (some (.lst a)) := fun a => by
      rw [List.getElem?_append_right (by rw [lo]; exact Nat.le_refl _), lo, Nat.sub_self]; rfl
    have hcc : ∀ a : List D, (om.set c (some (.dic (putE kds key (.obj p)))) ++ [some (D.lst a)])[c]? = some (some (.dic (putE kds key (.obj p)))) := fun a => by
      rw [List.getElem?_append_left (by rw [lo]; exact hcl), List.getElem?_set_self hcl]
    have hrx' : (ρ.set y (some (.v d)))[i]? = some (some (.o c)) := by rw [List.getElem?_set_ne hyi]; exact hrx
    have hrw' : (ρ.set y (some (.v d)))[j]? = some (some (.v (keyDat key))) := by rw [List.getElem?_set_ne hyj]; exact hrw
    refine wss_one (ws_expr (we_append (we_retie (we_dix (by omega) (we_name hNx hvx hrx' (we_name hNw hvw hrw' ⟨putE kds key (.obj p), key, .obj p, ?_, rfl, valE_put, p, om.length, rfl, List.mem_cons_self, _, rfl, ⟨acc, hj acc⟩, WE.imp hw ?_⟩ hd2 hcd2) hd hcd) (fun _ _ => rfl))) hbase hfew hline hse hpl) hs3)
    · show cellD _ = _
      rw [hcc]
      rfl
    · rintro r om2 ⟨rfl, t, rfl, hlt, q⟩
      refine ⟨t, acc, rfl, hj acc, hlt, acc ++ [t], .inr ⟨d, rfl⟩, ?_, q⟩
      rw [List.set_append_right _ _ (by rw [lo]; exact Nat.le_refl _), lo, Nat.sub_self]
      rfl
  · rintro ρ' om' hl ⟨acc, hρ, rfl, f⟩
    refine ⟨acc, rfl, ?_, ?_⟩
    · rcases hρ with rfl | ⟨d, rfl⟩
      · exact .inl rfl
      · exact .inr ⟨y, d, rfl⟩
    · obtain ⟨u, rfl⟩ : ∃ u, ρ' = ρ.set y u := by
        rcases hρ with rfl | ⟨d, rfl⟩
        · refine ⟨(ρ'[y]?).getD none, ?_⟩
          by_cases hy : y < ρ'.length
          · rw [List.getElem?_eq_getElem hy]
            simp
          · rw [List.set_eq_of_length_le (by omega)]
        · exact ⟨_, rfl⟩
      have q := he acc u (forS_end f)
      unfold dputS at q
      rw [keyD_keyDat] at q
      exact q.2
end
end DL

namespace DL
open PySem PySem.Spec L2
/-! ### dict(d), {**d, k: v} -/
def dcopyS (d : D) (K : D → Prop) : Prop := match d with
  | .dic kds => K (.dic kds)
  | _ => False
theorem dcopyS_imp {d : D} {K K' : D → Prop} (h : dcopyS d K) (i : ∀ d, K d → K' d) : dcopyS d K' := by
  unfold dcopyS at h ⊢
  split at h
  · exact i _ h
  · exact h.elim
section
variable {X : Cx} {an : An} {dr : Option Dr} {ρ : Rho} {om : Om} {a kx vx : Expr} {pos p : Pos} {Q : R → Om → Prop}
theorem we_dcopyO (m1 : X.mg "dict" = none) (h : WE X an dr ρ om a fun r om1 => dcopyS (vw om1 r) fun d => Q (.o om1.length) (om1 ++ [some d]))
    (g1 : Gl X "dict" := by rfl) (he : starEach [a] X.env = (false, eval a X.env) :: starEach [] X.env := by rfl) (hpl : (backTo pos (starEach [] X.env)).any (·.1) = false := by rfl) : WE X an dr ρ om (.Call (.Name "dict" p) [a] [] pos) Q :=
  peI (pe_callTy call_dictD g1 m1 boot_dict (pa_cons (pe_u (an := an) (dr := dr)) pa_nil he) (by decide) (by decide) he hpl) fun σ H K' ⟨τ, G, g, n, k⟩ => uE_of h g n fun v r om1 τ1 G1 H1 h1 w g1 gr1 n1 => by
    unfold dcopyS at w
    split at w
    · rename_i kds ev
      obtain ⟨q, kvs, rfl, rd, id⟩ := vw_dic g1 h1 ev
      refine ⟨q, kvs, rfl, rd, fun d hd => ?_⟩
      exact k _ _ _ (τ1 ++ [d]) _ _ (.o (by rw [g1.len, List.getElem?_append_right (Nat.le_refl _), Nat.sub_self]; rfl)) w (g1.freshO hd ⟨kvs, rfl, id⟩) (gr1.trans Good.growF)
    · exact w.elim
theorem we_ddkU (h : WE X an dr ρ (om ++ [some (.dic [])]) a fun ra om1 => om1 = om ++ [some (.dic [])] ∧ dicS (vw om ra) fun xs => WE X an dr ρ (om ++ [some (.dic (mergeE [] xs))] ++ [some (.dic [])]) kx fun rk om2 => om2 = om ++ [some (.dic (mergeE [] xs))] ++ [some (.dic [])] ∧ ∃ key, rk = .v (keyDat key) ∧
      WE X an dr ρ (om ++ [some (.dic (mergeE [] xs))] ++ [some (.dic [])]) vx fun rv om3 => om3 = om ++ [some (.dic (mergeE [] xs))] ++ [some (.dic [])] ∧ ∃ d, rv = .v d ∧ Q (.v (.dic (putE (mergeE [] xs) key d))) om) :
    WE X an dr ρ om (.Dict [none, some kx] [a, vx] pos) Q := by
  refine peI (pe_lk (pe_ddk (pe_u (an := an) (dr := dr)) (pe_u (an := an) (dr := dr)) (pe_u (an := an) (dr := dr)))) fun σ H K' ⟨τ, G, g, n, k⟩ D0 hD => ?_
  have gf := g.freshO (o := .dK []) (d := .dic []) hD ⟨[], rfl, .nil⟩
  have big : 2000 ≤ sizeLine := by decide
  refine uE_of h gf (n.mono Good.growF) fun v r om1 τ1 G1 H1 i1 w g1 gr1 n1 => ?_
  obtain ⟨rfl, w⟩ := w
  obtain ⟨xs, ev, hz, w⟩ := dicS_inv w
  have e1 := tau_snoc g.len g1 gr1
  subst e1
  have hk : (τ ++ [D0])[om.length]? = some D0 := by rw [g.len, List.getElem?_append_right (Nat.le_refl _), Nat.sub_self]; rfl
  obtain ⟨c, kvs, rfl, rd, ne, id⟩ := rd_dic hk g1 i1 ev
  obtain ⟨o1, ho1, vs0, rfl, id0⟩ := cp_get hk g1
  cases id0
  refine ⟨c, kvs, rfl, rd, ne, ho1, by rw [id.length]; omega, fun D2 hD2 => ?_⟩
  have g1' := cp_put (o' := .dK (mergeK [] kvs)) (c' := .dic (mergeE [] xs)) hk g1 ⟨_, rfl, IsD.merge id .nil⟩
  have gf2 := g1'.freshO (o := .dK []) (d := .dic []) hD2 ⟨[], rfl, .nil⟩
  refine uE_of w gf2 (n1.mono Good.growF) fun v2 r2 om2 τ2 G2 H2 i2 w2 g2 gr2 n2 => ?_
  obtain ⟨rfl, key, rfl, w2⟩ := w2
  have e2 := tau_snoc g1'.len g2 gr2
  subst e2
  refine uE_of w2 g2 n2 fun v3 r3 om3 τ3 G3 H3 i3 w3 g3 gr3 n3 => ?_
  obtain ⟨rfl, d, rfl, q⟩ := w3
  have e3 := tau_snoc g1'.len g3 (gr2.trans gr3)
  subst e3
  have lo : (om ++ [some (D.dic (mergeE [] xs))]).length = om.length + 1 := by simp
  have hk2 : (τ ++ [D0] ++ [D2])[(om ++ [some (D.dic (mergeE [] xs))]).length]? = some D2 := by
    rw [lo, g.len, List.getElem?_append_right (by simp)]; simp
  have hk1 : (τ ++ [D0] ++ [D2])[om.length]? = some D0 := by
    rw [List.getElem?_append_left (by rw [List.length_append, g.len]; simp)]; exact hk
  obtain ⟨o2, ho2, vs2, rfl, id2⟩ := cp_get hk2 g3
  cases id2
  have hc1 : (om ++ [some (D.dic (mergeE [] xs))] ++ [some (D.dic [])])[om.length]? = some (some (.dic (mergeE [] xs))) := by
    rw [List.getElem?_append_left (by rw [lo]; exact Nat.lt_succ_self _), List.getElem?_append_right (Nat.le_refl _), Nat.sub_self]; rfl
  obtain ⟨_, _, _, _, ho3, ks, rfl, id3⟩ := g3.own om.length D0 _ hk1 hc1
  have lk : ks.length ≤ 1000 := by
    rw [id3.length]
    have := length_mergeE xs []
    simp at this
    omega
  cases i3 with
  | v i3 =>
    refine ⟨key, ks, keyDat_isR i2, ho2, ho3, by omega, ?_⟩
    have g4 := cp_put (o' := .dK [(key, v3)]) (c' := .dic [(key, d)]) hk2 g3 ⟨_, rfl, .cons i3 .nil⟩
    have hc4 : (om ++ [some (D.dic (mergeE [] xs))] ++ [some (D.dic [(key, d)])])[om.length]? = some (some (.dic (mergeE [] xs))) := by
      rw [List.getElem?_append_left (by rw [lo]; exact Nat.lt_succ_self _), List.getElem?_append_right (Nat.le_refl _), Nat.sub_self]; rfl
    have g5 := g4.writeO (o := .dK (putK ks key v3)) (d := .dic (putE (mergeE [] xs) key d)) hk1 hc4 ⟨_, rfl, id3.put i3⟩
    have es : (om ++ [some (D.dic (mergeE [] xs))] ++ [some (D.dic [(key, d)])]).set om.length (some (.dic (putE (mergeE [] xs) key d))) = om ++ [some (D.dic (putE (mergeE [] xs) key d))] ++ [some (D.dic [(key, d)])] := by
      rw [List.set_append_left _ _ (by rw [lo]; exact Nat.lt_succ_self _), List.set_append_right _ _ (Nat.le_refl _), Nat.sub_self]; rfl
    rw [es] at g5
    have g6 := Good.drop g5 (fun t ht => by
      have := g.ti t ht
      rw [List.getElem?_append_left (List.getElem?_eq_some_iff.mp this).1]; exact this)
    refine cp_end (Z := K') g.len g.ti rfl g6 ⟨gr1.ex.trans (gr2.trans gr3).ex, fun k q h => by rw [List.getElem?_append_left (List.getElem?_eq_some_iff.mp h).1]; exact h⟩ fun G' H' i' g' gr' => k _ _ om τ G' H' (.v i') q g' gr'
end
end DL

namespace DL
open PySem PySem.Spec L2
theorem retQ_own {Q : R → Om → Prop} {om : Om} {c : D} (h : Q (.o om.length) (om ++ [some c])) : retQ Q om (.own c) := h
def dictS (d : D) (K : Prop) : Prop := match d with
  | .dic _ => K
  | _ => False
theorem dictS_d {d : D} {K : Prop} (h : dictS d K) : isDict d = true := by
  unfold dictS at h
  split at h
  · rfl
  · exact h.elim
theorem dictS_get {d : D} {K : Prop} (h : dictS d K) : K := by
  unfold dictS at h
  split at h
  · exact h
  · exact h.elim
/-! ### the last cells are left behind -/
inductive WkE (n : Nat) : Option R → Option R → Prop
  | non {a : Option R} : WkE n a none
  | v {d : D} : WkE n (some (.v d)) (some (.v d))
  | o {k : Nat} (h : k < n) : WkE n (some (.o k)) (some (.o k))
  | opt {t : Option D} : WkE n (oR t) (oR t)
inductive WkL (n : Nat) : Rho → Rho → Prop
  | nil : WkL n [] []
  | cons {a b : Option R} {as bs : Rho} (h : WkE n a b) (t : WkL n as bs) : WkL n (a :: as) (b :: bs)
theorem WkL.length {n : Nat} {ρ ρ' : Rho} (h : WkL n ρ ρ') : ρ'.length = ρ.length := by
  induction h with
  | nil => rfl
  | cons _ _ ih => rw [List.length_cons, List.length_cons, ih]
theorem WkL.get {n : Nat} {ρ ρ' : Rho} (h : WkL n ρ ρ') : ∀ (i : Nat) (r : R), ρ'[i]? = some (some r) → ρ[i]? = some (some r) ∧ ∀ k, r = .o k → k < n := by
  induction h with
  | nil => intro i r e; simp at e
  | cons h t ih =>
    intro i r e
    cases i with
    | zero =>
      simp only [List.getElem?_cons_zero, Option.some.injEq] at e ⊢
      subst e
      generalize hb : (some r : Option R) = b at h
      cases h with
      | non => cases hb
      | v => cases hb; exact ⟨rfl, fun k e => by cases e⟩
      | o h => cases hb; exact ⟨rfl, fun k e => by cases e; exact h⟩
      | @opt t =>
        cases t with
        | none => cases hb
        | some d => cases hb; exact ⟨rfl, fun k e => by cases e⟩
    | succ i => rw [List.getElem?_cons_succ] at e ⊢; exact ih i r e
section
variable {X : Cx} {an : An} {dr : Option Dr} {ρ : Rho} {om : Om} {a b c : Expr} {pos : Pos} {E : Ed} {st : Stmt} {sts : List Stmt}
theorem Good.dropN {K : PySem.W.Frag} {G H : Hp} : ∀ (ex : Om) {om : Om} {τ : List Addr}, (∀ t ∈ an.ties, t.1 < om.length) → Good K an dr (om ++ ex) τ G H → ∃ τ1 τ2, τ = τ1 ++ τ2 ∧ τ1.length = om.length ∧ Good K an dr om τ1 G H := by
  intro ex
  generalize hn : ex.length = n
  induction n generalizing ex with
  | zero =>
    intro om τ ht g
    cases List.length_eq_zero_iff.mp hn
    rw [List.append_nil] at g
    exact ⟨τ, [], by simp, g.len.symm, g⟩
  | succ n ih =>
    intro om τ ht g
    rcases List.eq_nil_or_concat ex with e | ⟨ex', x, e⟩
    · rw [e] at hn; cases hn
    · have e : ex = ex' ++ [x] := by simpa using e
      subst e
      rw [← List.append_assoc] at g
      have hl := g.len
      rcases List.eq_nil_or_concat τ with e | ⟨t, y, e⟩
      · rw [e] at hl; simp at hl
      · have e : τ = t ++ [y] := by simpa using e
        subst e
        have g' := g.drop (fun z h => by
          have h1 := g.ti z h
          have h2 := ht z h
          rwa [List.getElem?_append_left (by simp at hl; omega)] at h1)
        obtain ⟨τ1, τ2, e, l, gg⟩ := ih ex' (by simpa using hn) ht g'
        exact ⟨τ1, τ2 ++ [y], by rw [e, List.append_assoc], l, gg⟩
/-- the cells behind the first n are left behind -/
def Tr (n : Nat) (Q : Rho → Om → Prop) : Rho → Om → Prop := fun ρ om => ∃ ρ' om' ex, om = om' ++ ex ∧ om'.length = n ∧ WkL n ρ ρ' ∧ Q ρ' om'
theorem Left.trim {K : PySem.W.Frag} {G H0 : Hp} {τ : List Addr} {n : Nat} {Q : Rho → Om → Prop} {σ : L2.St} {H : Hp} (ht : ∀ t ∈ an.ties, t.1 < τ.length) (h : Left K an dr G τ n (Tr τ.length Q) σ H) : Left K an dr G τ n Q σ H := by
  obtain ⟨ρ, om, τ', G', ⟨ρ', om', ex, rfl, hl, wk, q⟩, g, nv, gr, l1, l2⟩ := h
  obtain ⟨τ1, τ2, rfl, hl1, g'⟩ := Good.dropN ex (by rw [hl]; exact ht) g
  have e : ∀ (k : Nat) (p : Addr), τ[k]? = some p → τ1[k]? = some p := fun k p h => by
    have := gr.pre k p h
    rwa [List.getElem?_append_left (by have := (List.getElem?_eq_some_iff.mp h).1; omega)] at this
  refine ⟨ρ', om', τ1, G', q, g', fun i r hr => ?_, ⟨gr.ex, e⟩, l1, wk.length.trans l2⟩
  obtain ⟨h1, h2⟩ := wk.get i r hr
  obtain ⟨v, hv, iv⟩ := nv i r h1
  refine ⟨v, hv, ?_⟩
  cases iv with
  | v iv => exact .v iv
  | @o a k hk =>
    have := h2 k rfl
    rw [List.getElem?_append_left (by omega)] at hk
    exact .o hk
theorem ws_forD {f : TgF} {js : List Nat} {tg iter : Expr} {body : List Stmt} (hp : PassesOwn (model X.prog X.w) X.A X.env X.xe) (hc : X.calm = true) (hg : WG X an dr tg js f)
    (hi : WI X an dr ρ om tg iter fun ds om1 => ∃ P : Nat → Rho → Om → Prop, P 0 ρ om1 ∧ (∀ i d ρ' om', ρ'.length = ρ.length → ds[i]? = some d → P i ρ' om' → f d ρ' fun ρ2 => WSs X an dr ρ2 om' body { nx := Tr om1.length (P (i + 1)), rt := E.rt, bk := fun _ _ => False, ct := Tr om1.length (P (i + 1)) }) ∧ ∀ ρ' om', ρ'.length = ρ.length → P ds.length ρ' om' → E.nx ρ' om')
    (hs : ∀ x, foldedSetIterable iter X.env x = pure x := by intro _; rfl) : WS X an dr ρ om (.For tg iter body [] pos) E :=
  psI (ps_for hp hc hi hg.1 (pss_u (an := an) (dr := dr)) hs) fun Z σ H ⟨τ, G, g, n, hl, h1, h2, h3, h4⟩ => ⟨τ, G, g, n, fun J ds om1 τ1 G1 H1 ⟨P, p0, ps, pe⟩ hz g1 gr1 jk => by
    have jk := jk an
    have ht : ∀ t ∈ an.ties, t.1 < τ1.length := fun t h => (List.getElem?_eq_some_iff.mp (g1.ti t h)).1
    have el : om1.length = τ1.length := g1.len
    refine ⟨fun i m σ' H' => m = ds.length - i ∧ i ≤ ds.length ∧ Left X.K an dr G1 τ1 ρ.length (P i) σ' H', ⟨ds.length, by simp, Nat.zero_le _, ρ, om1, τ1, G1, p0, g1, n.mono gr1, Grow.refl _ _, hl, rfl⟩, ?_⟩
    rintro i m σ2 H2 ⟨rfl, hi, ρ2, om2, τ2, G2, p2, g2, n2, gr2, l1, l2⟩
    have J2 := jk om2 τ2 G2 H2 g2 gr2 i
    by_cases hlt : i < ds.length
    · have hd : ds[i]? = some ds[i] := List.getElem?_eq_getElem hlt
      obtain ⟨go, J3⟩ := J2.2 _ hd
      refine .inr ⟨go, fun σ' H' => Left X.K an dr G1 τ1 ρ.length (P (i + 1)) σ' H', fun σ' H' q => ⟨ds.length - (i + 1), by omega, rfl, hlt, q⟩, fun x H3 y => ?_⟩
      obtain ⟨G3, g3, gr3, i3⟩ := J3 x H3 y
      refine ⟨om2, τ2, G3, ρ2, _, _, g3, n2.mono gr3, l1.trans l2.symm, i3, ps i _ ρ2 om2 l2 hd p2, fun σ4 ρ4 w n4 l3 l4 _ => ?_⟩
      have l4' : ρ4.length = ρ.length := l4.trans l2
      refine uS_of w g3 n4 (l3.trans l4.symm) (fun σ5 H5 q => ?_) (fun v H5 q => ?_) (fun σ5 H5 q => ?_) (fun σ5 H5 q => ?_)
      · rw [el] at q
        exact Left.trim (H0 := H) ht (Left.grow (gr2.trans gr3) (l4' ▸ q))
      · exact h2 v H5 (LeftV.grow ((gr1.trans gr2).trans gr3) q)
      · obtain ⟨_, _, _, _, q, _⟩ := q
        exact q.elim
      · rw [el] at q
        exact Left.trim (H0 := H) ht (Left.grow (gr2.trans gr3) (l4' ▸ q))
    · have e : i = ds.length := by omega
      subst e
      exact .inl ⟨J2.1 rfl, h1 σ2 H2 ⟨ρ2, om2, τ2, G2, pe ρ2 om2 l2 p2, g2, n2, gr1.trans gr2, l1, l2⟩⟩⟩
theorem for_linkD {σ : Type} {ds : List D} {s0 : σ} {b : D → σ → (σ → Prop) → Prop} {KS : σ → Prop} {f : TgF} {body : List Stmt} {n : Nat} (R : σ → Rho → Om → Prop) (hW : forS ds s0 b KS) (h0 : R s0 ρ om)
    (hb : ∀ d s ρ' om' rest, b d s rest → R s ρ' om' → f d ρ' fun ρ2 => WSs X an dr ρ2 om' body { nx := Tr n fun ρ3 om3 => ∃ s', R s' ρ3 om3 ∧ rest s', rt := E.rt, bk := fun _ _ => False, ct := Tr n fun ρ3 om3 => ∃ s', R s' ρ3 om3 ∧ rest s' })
    (he : ∀ s ρ' om', KS s → R s ρ' om' → E.nx ρ' om') :
    ∃ P : Nat → Rho → Om → Prop, P 0 ρ om ∧ (∀ i d ρ' om', ρ'.length = ρ.length → ds[i]? = some d → P i ρ' om' → f d ρ' fun ρ2 => WSs X an dr ρ2 om' body { nx := Tr n (P (i + 1)), rt := E.rt, bk := fun _ _ => False, ct := Tr n (P (i + 1)) }) ∧ ∀ ρ' om', ρ'.length = ρ.length → P ds.length ρ' om' → E.nx ρ' om' :=
  ⟨fun i ρ om => ∃ s, R s ρ om ∧ forS (ds.drop i) s b KS, ⟨s0, h0, hW⟩, fun i d ρ' om' hl hd ⟨s, hR, q⟩ => hb d s ρ' om' _ (forS_at hd q) hR, fun ρ' om' hl ⟨s, hR, q⟩ => he s ρ' om' (forS_end q) hR⟩
/-- a, b, c = x, y, z where a comprehension reads one of the names -/
theorem ws_parC3 {i j l : Nat} {x y z : Str} {px py pz pt : Pos} {kt k2 pt2} (hc : X.calm = true) (hN : X.N.Nodup) (hi : X.N[i]? = some x) (hj : X.N[j]? = some y) (hl3 : X.N[l]? = some z) (hx : Loc X.env.scope x) (hy : Loc X.env.scope y) (hz : Loc X.env.scope z)
    (h : WA X an dr ρ om [a, b, c] fun rs om1 => ∃ r1 r2 r3, rs = [r1, r2, r3] ∧ E.nx (((ρ.set i (some r1)).set j (some r2)).set l (some r3)) om1)
    (hw : swappedStores [.Tuple [.Name x px, .Name y py, .Name z pz] kt pt] (.Tuple [a, b, c] k2 pt2) X.env = pure none := by rfl) (hs : swapsWithSole [.Tuple [.Name x px, .Name y py, .Name z pz] kt pt] (.Tuple [a, b, c] k2 pt2) pos.line X.env = pure false := by rfl)
    (h1 : (assignEach [.Tuple [.Name x px, .Name y py, .Name z pz] kt pt] X.env).map (·.2) = [assign (.Tuple [.Name x px, .Name y py, .Name z pz] kt pt) X.env] := by rfl) (hn : (assignEach [.Name x px, .Name y py, .Name z pz] X.env).length = 3 := by rfl) (hst : (assignEach [.Name x px, .Name y py, .Name z pz] X.env).findIdx? (·.1) = none := by rfl)
    (hs1 : (assignEach [.Name x px, .Name y py, .Name z pz] X.env).map (·.2) = assign (.Name x px) X.env :: (assignEach [.Name y py, .Name z pz] X.env).map (·.2) := by rfl) (hs2 : (assignEach [.Name y py, .Name z pz] X.env).map (·.2) = assign (.Name y py) X.env :: (assignEach [.Name z pz] X.env).map (·.2) := by rfl)
    (hs3 : (assignEach [.Name z pz] X.env).map (·.2) = assign (.Name z pz) X.env :: (assignEach [] X.env).map (·.2) := by rfl)
    (hfx : X.fn x = true ∨ X.env.scope.names.lookup x = some .local := by first | exact .inl rfl | exact .inr rfl | assumption) (hfy : X.fn y = true ∨ X.env.scope.names.lookup y = some .local := by first | exact .inl rfl | exact .inr rfl | assumption) (hfz : X.fn z = true ∨ X.env.scope.names.lookup z = some .local := by first | exact .inl rfl | exact .inr rfl | assumption) :
    WS X an dr ρ om (.Assign [.Tuple [.Name x px, .Name y py, .Name z pz] kt pt] (.Tuple [a, b, c] k2 pt2) pos) E :=
  psI (ps_asg (pe_tup (pa_u (an := an) (dr := dr))) (pg_seq hc (pgs_cons (pg_name (i := i) hN hi hx hfx) (pgs_cons (pg_name (i := j) hN hj hy hfy) (pgs_cons (pg_name (i := l) hN hl3 hz hfz) pgs_nil hs3) hs2) hs1) hn hst) hs hw h1) fun Z σ H ⟨τ, G, g, n, hl, h1, _⟩ => uA_of h g n fun vs rs om1 τ1 G1 H1 i1 w g1 gr1 n1 => by
    obtain ⟨r1, r2, r3, rfl, w⟩ := w
    cases i1 with
    | @cons v1 _ _ _ a1 i1 =>
      cases i1 with
      | @cons v2 _ _ _ a2 i1 =>
        cases i1 with
        | @cons v3 _ _ _ a3 i1 =>
          cases i1
          refine ⟨by show 3 ≤ sizeLine; decide, fun p hp => .inl ⟨_, _, rfl, .inl (.inl upd_same), rfl, _, _, rfl, _, _, rfl, _, _, rfl, rfl, ?_⟩⟩
          have gr2 := g1.grow (o := .tup [v1, v2, v3]) hp
          exact h1 _ _ ⟨_, om1, τ1, _, w, g1.alloc hp, (((n1.mono gr2).set hl (a1.mono gr2)).set (by rw [List.length_set, List.length_set]; exact hl) (a2.mono gr2)).set (by rw [List.length_set, List.length_set, List.length_set, List.length_set]; exact hl) (a3.mono gr2), gr1.trans gr2, by rw [List.length_set, List.length_set, List.length_set]; exact hl, by rw [List.length_set, List.length_set, List.length_set]⟩
/-- list(range(e)) -/
theorem isL_rng {K : PySem.W.Frag} {G : Hp} (f : Nat → Nat) : ∀ (xs : List Nat), IsL K G (xs.map fun i => V.int (0 + (f i : Nat))) (xs.map fun i => D.int ((f i : Nat) : Int))
  | [] => .nil
  | x :: xs => .cons (by show Is K G (V.int (0 + ((f x : Nat) : Int))) (D.int ((f x : Nat) : Int)); rw [Int.zero_add]; exact .int _) (isL_rng f xs)
theorem we_listRg {e : Expr} {p p2 pos2 : Pos} {Q : R → Om → Prop} (hc : X.calm = true) (m1 : X.mg "list" = none) (m2 : X.mg "range" = none) (h : WE X an dr ρ om e fun r om1 => rngS (vR r) fun ds => Q (.v (.lst ds)) om1)
    (g1 : Gl X "list" := by rfl) (g2 : Gl X "range" := by rfl) (na : starEach [e] X.env = (false, eval e X.env) :: starEach [] X.env := by rfl) (nb : starEach [.Call (.Name "range" p2) [e] [] pos2] X.env = (false, eval (.Call (.Name "range" p2) [e] [] pos2) X.env) :: starEach [] X.env := by rfl) :
    WE X an dr ρ om (.Call (.Name "list" p) [.Call (.Name "range" p2) [e] [] pos2] [] pos) Q :=
  peI (pe_listRg hc g1 m1 (prg_1 g2 m2 (pe_u (an := an) (dr := dr)) na) nb) fun σ H K' ⟨τ, G, g, n, k⟩ => uE_of h g n fun v r om1 τ1 G1 H1 h1 w g1 gr1 n1 => by
    cases r with
    | o j => exact (show False from w).elim
    | v d =>
      unfold rngS at w
      split at w
      · rename_i z ez
        have ez : d = .int z := ez
        subst ez
        obtain ⟨⟨z1, z2⟩, w⟩ := w
        cases h1 with
        | v h1 =>
          cases h1
          refine ⟨z, rfl, ⟨by omega, by omega, by omega, by omega, by omega⟩, fun q hq => ?_⟩
          have gr2 := g1.grow (o := .lst (rgV 0 z)) hq
          refine k _ _ om1 τ1 _ _ (.v (.lst upd_same ?_)) w (g1.alloc hq) (gr1.trans gr2)
          unfold rgV rngD
          rw [Int.sub_zero]
          exact isL_rng (fun i => i) _
      · exact w.elim
end
end DL

namespace DL
open PySem PySem.Spec L2
/-! ### xs[::-1] -/
def revS (d : D) (K : D → Prop) : Prop := match d with
  | .lst xs => K (.lst xs.reverse)
  | _ => False
theorem revS_imp {d : D} {K Z : D → Prop} (h : revS d K) (i : ∀ d, K d → Z d) : revS d Z := by
  unfold revS at h ⊢
  split at h
  · exact i _ h
  · exact h.elim
theorem we_revU {X : Cx} {an : An} {dr : Option Dr} {ρ : Rho} {om : Om} {e : Expr} {pos p1 p2 p3 : Pos} {Q : R → Om → Prop} {k0 : Nat} (h : WE X an dr ρ om e fun r om1 => revS (vw om1 r) fun d => Q (.v d) om1) : WE X an dr ρ om (.Subscript e (.Slice none none (some (.UnaryOp .USub (.Constant (.int 1) k0 p1) p2)) p3) pos) Q :=
  we_rev (WE.imp h fun r om1 q => by
    unfold revS at q
    split at q
    · exact ⟨_, by assumption, q⟩
    · exact q.elim)
theorem sqL_strip {K : PySem.W.Frag} {H : Hp} {a : Addr} {xs : List V} (h : SqL K H a xs) : SqL K (strip H) a xs := by
  rcases h with (h | ⟨o, h⟩) | h
  · exact .inl (.inl (strip_of h fun _ z => by cases z))
  · exact .inl (.inr ⟨o, strip_of h fun _ z => by cases z⟩)
  · exact .inr h
theorem off_strip {H : Hp} {a : Addr} {P : Prop} (h : H a ≠ none → P) : strip H a ≠ none → P := fun n => h fun z => n (by unfold strip; rw [z])
end DL

namespace DX
open PySem PySem.W PySem.Calls PyProof.Rows PySem.HandSPX
/-! ### an error made by name: C(f=v) -/
section
variable {M : Model} {A : Around} {E : Value → Shared → Prop} {h : Heap} {g : Array GenState} {d : Drawn} {t : Nat} {os : OsState}
variable {nm q : Str} {C N : Addr} {bs bm bmB : List Value} {hdct : Bool} {sn : List Str} {sub : List Value} {ab : Bool} {col : Option Bool} {dd : Option Addr} {k0 k1 k2 k3 k5 : Option Value} {B newId initId : String}
theorem check_type_kw {f : Str} {v : Value} {Q : Unit → Shared → Prop} (hC : h.get? C = some (excClassObj nm q C N bs bm hdct sn sub ab col dd k0 k1 k2 k3 k5 newId))
    (hq : Q () ⟨h, g, d, t, os⟩) : wpAny M A (checkBuiltinCall "type.__call__" ⟨[.ref C], [(f, v)]⟩) Q E ⟨h, g, d, t, os⟩ := by
  have f3 := tc_sub
  have hT : (⟨h, g, d, t, os⟩ : Shared).TypeIs (.ref C) "type" := ⟨_, hC, rfl⟩
  simp only [checkBuiltinCall, tc_kind, tc_split]
  repeat (any_goals (first | assumption | with_reducible refine wpAny_loadPart_at hC ?_ | with_reducible refine wpAny_onRaise ?_ | with_reducible refine wpAny_map ?_ | wp_step))
theorem check_new_kw (F : ExcBaseFacts B newId initId bmB) (hT : ∀ X : String, bm.contains (.type X) = bmB.contains (.type X)) {f : Str} {v : Value} {Q : Unit → Shared → Prop}
    (hC : h.get? C = some (excClassObj nm q C N bs bm hdct sn sub ab col dd k0 k1 k2 k3 k5 newId)) (hq : Q () ⟨h, g, d, t, os⟩) : wpAny M A (checkBuiltinCall newId ⟨[.ref C], [(f, v)]⟩) Q E ⟨h, g, d, t, os⟩ := by
  have hcont : (Value.ref C :: bm).contains (.type B) = true := by rw [List.contains_cons, hT, F.hasB, Bool.or_true]
  have hstar := F.noStar
  simp only [checkBuiltinCall, F.newKind, F.newSplit, F.newRow]
  repeat (first | refine wpAny_loadPart_at hC ?_ | (refine wpAny_isSubtype_exc hC ?_; rw [hcont]) | refine wpAny_staticBase_exc hC ?_ | refine wpAny_madeBy_exc hC ?_ | simp only [bne_self_eq_false, Bool.false_eq_true, if_false] | wp_step)
  exact hq
end
section
variable {prog : Program} {w : World} {A : Around} {E : Value → Shared → Prop} {R : Result → Shared → Prop} {h : Heap} {g : Array GenState} {d : Drawn} {t : Nat} {os : OsState}
variable {nm q : Str} {C N : Addr} {bs bm bmB : List Value} {hdct : Bool} {sn : List Str} {sub : List Value} {ab : Bool} {col : Option Bool} {dd : Option Addr} {k0 k1 k2 k3 k5 : Option Value} {B newId initId : String}
theorem new_kw (F : ExcBaseFacts B newId initId bmB) (hT : ∀ X : String, bm.contains (.type X) = bmB.contains (.type X)) {f : Str} {v : Value}
    (hC : h.get? C = some (excClassObj nm q C N bs bm hdct sn sub ab col dd k0 k1 k2 k3 k5 newId))
    (hq : R (.ok (.ret (.ref (h.objs.size + 1)))) ⟨(h.push { cls := .type "tuple", data := .seq ([] : List Value).toArray }).push
      { cls := .ref C, data := .fields #[.ref h.objs.size, .none, .none, .none, .bool false, .none] }, g, d, t, os⟩) :
    codeAny (model prog w) A (.builtin newId ⟨[.ref C], [(f, v)]⟩) R ⟨h, g, d, t, os⟩ := by
  have hrest : ([] : List Value).length ≤ sizeLine := Nat.zero_le _
  have hends := F.ends
  have hcB : (Value.ref C :: bm).contains (.type B) = true := by rw [List.contains_cons, hT, F.hasB, Bool.or_true]
  have hcA : (Value.ref C :: bm).contains (.type "AttributeError") = false := by rw [List.contains_cons, hT, F.noAttr]; rfl
  have hcN : (Value.ref C :: bm).contains (.type "NameError") = false := by rw [List.contains_cons, hT, F.noName]; rfl
  refine codeAny_builtinAt F.entry ?_
  unfold Builtin.«BaseException.__new__»
  refine PySem.wpAt_bind ?_
  show PySem.wpAt _ _ _ (stack >>= _) _ _ _
  refine PySem.wpAt_bind (PySem.wpAt_stack fun p below => PySem.wpAt_of_wpAny ?_)
  wp_walk
  refine PySem.wpAt_of_wpAny ?_
  rw [F.owner]
  repeat (first | with_reducible refine wpAny_madeHere_exc F.canon hC ?_ | with_reducible refine wpAny_loadPart_at hC ?_ | (with_reducible refine wpAny_isSubtype_exc hC ?_; first | rw [hcB] | rw [hcA] | rw [hcN]) | wp_step)
  show R _ _
  rw [Heap.size_push]
  exact hq
theorem type_call_kw (F : ExcBaseFacts B newId initId bmB) (hT : ∀ X : String, bm.contains (.type X) = bmB.contains (.type X)) {f : Str} {v : Value} {fI : Addr} {Q : Fin → Shared → Prop}
    (hC : h.get? C = some (excClassObj nm q C N bs bm hdct sn sub ab col dd k0 k1 k2 k3 k5 newId))
    (hi : W.Looks (model prog w) h (typeLookup (.ref C) "__init__") (some (.ref fI))) (hb : ∀ self, W.Looks (model prog w) h (bindSpecial (.ref fI) self) (.ref fI, [self]))
    (hq : codeAny (model prog w) A (.call (.ref fI) ⟨[.ref (h.objs.size + 1)], [(f, v)]⟩)
      (fun r s' => match r with | .ok (.ret v) => v = .none ∧ Q (.done (.ret (.ref (h.objs.size + 1)))) s' | .ok _ => False | .error e => E e s')
      ⟨(h.push (W.kdv_tup [])).push (excO C h.objs.size), g, d, t, os⟩) :
    wpAny (model prog w) A (Builtin.«type.__call__» ⟨[.ref C], [(f, v)]⟩) Q E ⟨h, g, d, t, os⟩ := by
  repeat (first | with_reducible refine wpAny_loadPart_at hC ?_ | with_reducible refine wpAny_madeBy_exc hC ?_ | wp_step)
  refine codeAny_call_builtin_code (Code.quiet_builtin _ F.quiet) (check_new_kw F hT hC ?_)
  refine new_kw F hT hC ?_
  show wpAny _ _ _ _ _ _
  have k : ∀ b o, h.get? b = some o → ((h.push (W.kdv_tup [])).push (excO C h.objs.size)).get? b = some o := fun b o e => Heap.get?_push_of_some _ (Heap.get?_push_of_some _ e)
  have hC₁ := k _ _ hC
  have hget : ((h.push (W.kdv_tup [])).push (excO C h.objs.size)).get? (h.objs.size + 1) = some (excO C h.objs.size) := by heap_get
  have hcC : (Value.ref C :: bm).contains (.ref C) = true := by simp
  have i1 := hi.keeps k
  have b1 := (hb (.ref (h.objs.size + 1))).keeps k
  unfold isInstance
  repeat (first | with_reducible refine wpAny_loadPart_at hget ?_ | (with_reducible refine wpAny_isSubtype_exc hC₁ ?_; rw [hcC]) | wp_step)
  show wpAny _ _ (typeLookup (.ref C) _) _ _ _
  refine i1.at ?_
  refine wpAny_holding (wpAny_bind (b1.at ?_))
  refine wpAny_bind ?_
  refine wpAny_call (codeAny_mono hq fun r s' z => ?_)
  rcases r with e | (v | _ | _ | _) <;> first | exact z | exact z.elim | skip
  obtain ⟨rfl, z⟩ := z
  first
    | exact wpAny_pure (wpAny_pure z)
    | (wp_walk; exact z)
theorem call_ownK (F : ExcBaseFacts B newId initId bmB) (hT : ∀ X : String, bm.contains (.type X) = bmB.contains (.type X)) {f : Str} {v : Value} {fI : Addr}
    (hC : h.get? C = some (excClassObj nm q C N bs bm hdct sn sub ab col dd k0 k1 k2 k3 k5 newId))
    (hi : W.Looks (model prog w) h (typeLookup (.ref C) "__init__") (some (.ref fI))) (hb : ∀ self, W.Looks (model prog w) h (bindSpecial (.ref fI) self) (.ref fI, [self]))
    (hq : codeAny (model prog w) (A.under (.builtin "type.__call__" ⟨[.ref C], [(f, v)]⟩)) (.call (.ref fI) ⟨[.ref (h.objs.size + 1)], [(f, v)]⟩) (W.InitBack (h.objs.size + 1) R)
      ⟨(h.push (W.kdv_tup [])).push (excO C h.objs.size), g, d, t, os⟩) :
    codeAny (model prog w) A (.call (.ref C) ⟨[], [(f, v)]⟩) R ⟨h, g, d, t, os⟩ := by
  have f1 := tc_lookup
  have f2 := tc_bind (.ref C)
  have hTy : (⟨h, g, d, t, os⟩ : Shared).TypeIs (.ref C) "type" := ⟨_, hC, rfl⟩
  refine codeAny_of_tree ?_
  show wpAny _ _ (callAny (.ref C) _) _ _ _
  repeat (any_goals (first | assumption | with_reducible refine wpAny_loadPart_at hC ?_ | wp_step))
  refine ⟨rfl, ?_⟩
  refine codeAny_call_builtin_at (Code.quiet_builtin _ (by decide +kernel)) entry_typeCall (check_type_kw hC (type_call_kw F hT hC hi hb ?_))
  refine codeAny_mono hq fun r s' z => ?_
  rcases r with e | (v | _ | _ | _) <;> exact z
end
structure FldK (f : Str) : Prop where
  bd : ∀ (s : Shared) (qual : Str) (doc pm ct : Value) (an : Option Addr) (cda cc : Addr) (p1 p2 q1 q2 q3 q4 q5 q6 q7 q8 q9 q10 : Pos) (a b : Value), BindsTo s (ksFn "__init__" qual (eA f p1 p2) (eB f q1 q2 q3 q4 q5 q6 q7 q8 q9 q10) (eS f) .none .none doc pm an (.ref cda) ct cc) ⟨[a], [(f, b)]⟩ [("self", a), (f, b)]
section
variable {prog : Program} {w : World} {A : Around} {E : Value → Shared → Prop} {R : Result → Shared → Prop} {s : Shared} {K : Frag} {mg mb : Str → Option Value} {C fI : Addr} {xn f : Str}
theorem err_initK (T : ErrF prog K xn f C) (N : FldN f) (NK : FldK f) {x t0 : Addr} {v : Value} (X : K.In s.heap) (hlim : s.heap.NoLimit) (hg : s.heap.Ns mainGlobals mg) (hb : s.heap.Ns builtinsNs mb) (hsu : mg "super" = none) (hbb : mb "super" = some (.type "super")) (hx : s.heap.get? x = some (excO C t0)) (hnx : K.lookup x = none) (hroom : A.depth < recursionLimit)
    (hi : findIn K (.ref C) "__init__" = some (some (.ref fI)))
    (hq : ∀ h' tk dx t1, InitEnd s.heap h' x C dx t1 f v → R (.ok (.ret .none)) { s with heap := h', toks := tk }) :
    codeAny (model prog w) A (.call (.ref fI) ⟨[.ref x], [(f, v)]⟩) R s := by
  obtain ⟨fI', cc, cda, oc, od, doc, pm, an, ct, osl, qual, p1, p2, q1, q2, q3, q4, q5, q6, q7, q8, q9, q10, ho, hcd, hi', ht, ⟨pl, hev⟩, ⟨ccl, cdd, vs, ccs, file, tf, hcode, hvs, hfile⟩, cl, cld, csl, hcell⟩ := T.fn
  have e := hi'.symm.trans hi
  cases e
  obtain ⟨nm, q, N', bs, bm, sn, sub, ab, col, dd, k0, k1, k2, k3, k5, hC, hbm⟩ := T.cls
  have hcl : clsIn K C = some { name := nm, bases := bs, mro := .ref C :: bm, ns := N', qualname := q, hasDict := true, slotNames := sn, subclasses := sub, abstract := ab, collection := col, hasDel := false } := by unfold clsIn; rw [hC] <;> rfl
  refine ks_codeAny_call_defAt (fd := ksFn "__init__" qual (eA f p1 p2) (eB f q1 q2 q3 q4 q5 q6 q7 q8 q9 q10) (eS f) .none .none doc pm an (.ref cda) ct cc) (body := eB f q1 q2 q3 q4 q5 q6 q7 q8 q9 q10) (binds := [("self", .ref x), (f, v)]) hroom (X _ _ ho) rfl hlim (codeRec_of X hcd) rfl (NK.bd _ _ _ _ _ _ _ _ _ _ _ _ _ _ _ _ _ _ _ _ _ _) ?_ ?_ (fun h₁ hns hk₁ => ?_) rfl rfl rfl
  · intro y hy
    simp only [eS, List.mem_cons, List.not_mem_nil, or_false] at hy
    rcases hy with rfl | rfl | rfl | rfl <;> simp
  · intro y hy
    simp only [List.mem_cons, List.not_mem_nil, or_false] at hy
    rcases hy with rfl | rfl
    · rfl
    · exact N.lk
  have X₁ : K.In h₁ := X.keeps hk₁
  have hx₁ := hk₁ _ _ hx
  have nx : s.heap.objs.size ≠ x := Nat.ne_of_gt (Heap.lt_size hx)
  have hg₁ : h₁.Ns mainGlobals mg := hg.keeps hk₁
  have hb₁ : h₁.Ns builtinsNs mb := hb.keeps hk₁
  have lx : (fun y => List.lookup y ([(("self" : Str), Value.ref x), (f, v)].reverse)) "self" = some (.ref x) := by
    show List.lookup ("self" : Str) [(f, v), (("self" : Str), Value.ref x)] = _
    have : (("self" : Str) == f) = false := by simpa using N.ns.symm
    simp [List.lookup, this]
  have lf : (fun y => List.lookup y ([(("self" : Str), Value.ref x), (f, v)].reverse)) f = some v := by
    show List.lookup f [(f, v), (("self" : Str), Value.ref x)] = _
    simp [List.lookup]
  refine ks_wpAt_execs_cons (ks_wpAt_Expr_any (ks_wpAt_MethodCall (pl := pl) ?_ (hev _)))
  refine ks_wpAt_super_base (env := ksEnv qual (eS f) s.heap.objs.size fI (.ref cda) cc) N.lks N.lkc rfl rfl (X₁ _ _ ho) rfl rfl rfl (X₁ _ _ hcode) rfl hvs hfile T.top ?_
  refine ks_loadName_global rfl N.lks (loadGlobal_builtin (env := ksEnv qual (eS f) s.heap.objs.size fI (.ref cda) cc) hg₁ hsu hb₁ hbb ⟨rfl, ?_⟩)
  refine wpAny_loadName_free rfl N.lkc rfl ⟨_, X₁ _ _ hcell, rfl⟩ ?_
  refine wpAny_loadName_local rfl rfl hns lx ?_
  refine ks_wpAny_isType_cls (X₁ _ _ hC) rfl ⟨rfl, ?_⟩
  refine ks_wpAny_call_super (X₁ _ _ hC) rfl hx₁ rfl (by intro c; simp) (looks_mroIn X₁ T.mro) (fun h₂ e2 k2 => ?_)
  have X₂ : K.In h₂ := X₁.keeps k2
  have hx₂ := k2 _ _ hx₁
  have hm : alongIn K "__init__" (((Value.ref C :: bm).dropWhile (· != .ref C)).drop 1) = some (some (.builtin "ValueError.__init__")) := by
    have := T.sin
    unfold ks_superIn at this
    rw [hcl] at this
    exact this
  have I₂ : InstAt h₂ x (excO C t0) C none := ⟨hx₂, rfl, rfl, trivial⟩
  have hI : Looks (model prog w) h₂ (isInstance (.ref x) (.type "ValueError")) true := I₂.type.andThen (looks_subIn X₂ T.veC)
  refine kxs_getMethod kxs_ValueError e2 (looks_opaque X₂ T.opq) (l₀ := .ref C :: bm) ?_ rfl X₂ hm hI (ks_ne X₂ I₂ hcl) rfl ?_
  · exact fun A Q E s k q => wpAny_bind ((looks_clsIn X₂ hcl) A _ E s k (wpAny_pure q))
  have hns₁ := hns
  obtain ⟨oL, esL, epL, hL, hLd⟩ := hns₁
  have neL : s.heap.objs.size ≠ x := nx
  have k3 : ∀ b o, h₁.get? b = some o → (h₂.push (kxs_mw "ValueError.__init__" x)).get? b = some o := fun b o e => Heap.get?_push_of_some _ (k2 _ _ e)
  have hns₃ : (h₂.push (kxs_mw "ValueError.__init__" x)).Ns s.heap.objs.size (fun y => List.lookup y ([(("self" : Str), Value.ref x), (f, v)].reverse)) := ⟨oL, esL, epL, k3 _ _ hL, hLd⟩
  refine kxs_callWith (i := "ValueError.__init__") (x := x) rfl (evalArgs_plain ?_)
  refine Calls.spliced_cons (wpAny_Name (wpAny_loadName_local rfl N.lk hns₃ lf ?_) N.dbg)
  refine Calls.spliced_nil ⟨Heap.get?_push_at rfl rfl, ?_⟩
  refine call_mw (k3 _ _ (X₁ _ _ hC)) (Heap.get?_push_of_some _ hx₂) (Heap.get?_push_at rfl rfl) (one_size v) fun h₄ t1 k4 hx₄ => ?_
  have k14 : ∀ b o, b ≠ x → h₁.get? b = some o → h₄.get? b = some o := fun b o hb e => k4 b o hb (k3 b o e)
  have X₄ : K.In h₄ := fun a o e => k14 a o (fun z => by rw [z, hnx] at e; cases e) (X₁ a o e)
  have hns₄ : h₄.Ns s.heap.objs.size (fun y => List.lookup y ([(("self" : Str), Value.ref x), (f, v)].reverse)) := ⟨oL, esL, epL, k14 _ _ neL hL, hLd⟩
  refine wpAt_of_wpAny ?_
  show wpAny _ _ (execs _ _) _ _ _
  refine wpAny_execs_cons (plainObj_wpAny_Assign_Attribute ?_)
  refine wpAny_Name (wpAny_loadName_local rfl N.lk hns₄ lf (wpAny_Name (wpAny_loadName_local rfl rfl hns₄ lx ?_) (by decide))) N.dbg
  refine set_plain X₄ (ox := excO C t1) (od := none) ⟨hx₄, rfl, rfl, trivial⟩ T.sa ?_
  refine exc_osa X₄ hx₄ hcl (show refsVE (.ref C :: bm) = true from hbm) rfl T.noN (fun h₅ tk₅ dx k₅ dn dne hx₅ hn₅ => ?_)
  show wpAny _ _ (execs _ _) _ _ _
  have z4 : h₄.get? s.heap.objs.size = some oL := k14 _ _ neL hL
  exact wpAny_execs_nil (hq h₅ tk₅ dx t1 ⟨fun b o hb e => k₅ b o hb (k14 b o hb (hk₁ b o e)), hx₅, Nat.le_of_lt (Nat.lt_of_lt_of_le (Heap.lt_size z4) dn), dne, hn₅⟩)
theorem err_madeK (T : ErrF prog K xn f C) (N : FldN f) (NK : FldK f) {v : Value} (X : K.In s.heap) (hlim : s.heap.NoLimit) (hg : s.heap.Ns mainGlobals mg) (hb : s.heap.Ns builtinsNs mb) (hsu : mg "super" = none) (hbb : mb "super" = some (.type "super")) (hroom : A.depth + 1 < recursionLimit)
    (hq : ∀ h' tk e d, Made s.heap h' e C d f v → R (.ok (.ret (.ref e))) { s with heap := h', toks := tk }) :
    codeAny (model prog w) A (.call (.ref C) ⟨[], [(f, v)]⟩) R s := by
  obtain ⟨nm, q, N', bs, bm, sn, sub, ab, col, dd, k0, k1, k2, k3, k5, hC, hbm⟩ := T.cls
  obtain ⟨fI, _, _, _, _, _, _, _, _, _, _, _, _, _, _, _, _, _, _, _, _, _, _, _, _, hi, ht, _⟩ := T.fn
  obtain ⟨hp, g, dr, tk, os⟩ := s
  have k : ∀ b o, hp.get? b = some o → ((hp.push (kdv_tup [])).push (excO C hp.objs.size)).get? b = some o := fun b o e => Heap.get?_push_of_some _ (Heap.get?_push_of_some _ e)
  have hget : ((hp.push (kdv_tup [])).push (excO C hp.objs.size)).get? (hp.objs.size + 1) = some (excO C hp.objs.size) := by heap_get
  have hnx : K.lookup (hp.objs.size + 1) = none := by
    cases e : K.lookup (hp.objs.size + 1) with
    | none => rfl
    | some o => exact absurd (Nat.lt_of_succ_lt (Heap.lt_size (show hp.get? (hp.objs.size + 1) = some o from X _ _ e))) (Nat.lt_irrefl _)
  refine call_ownK F.excBase_ValueError (fun X => refsVE_contains X bm hbm) (X _ _ hC) (looks_findIn X hi) (fun self => bind_fn X self ht) ?_
  refine err_initK (s := ⟨(hp.push (kdv_tup [])).push (excO C hp.objs.size), g, dr, tk, os⟩) (mg := mg) (mb := mb) T N NK (X.keeps k) (hlim.keeps k) (hg.keeps k) (hb.keeps k) hsu hbb hget hnx (show A.depth + 1 < recursionLimit from hroom) hi fun h' tk' dx t1 ⟨k', hx, dn, dne, hns⟩ => ?_
  have old : ∀ b o, hp.get? b = some o → h'.get? b = some o := fun b o e => k' b o (Nat.ne_of_lt (Nat.lt_succ_of_lt (Heap.lt_size e))) (k b o e)
  have z : hp.objs.size ≤ dx := by
    have dn := dn
    simp only [Heap.size_push] at dn
    omega
  exact ⟨rfl, hq h' tk' (hp.objs.size + 1) dx ⟨old, Nat.le_succ _, ⟨_, _, hx, rfl, rfl, rfl, rfl⟩, z, dne, hns⟩⟩
end
theorem fldK_part : FldK "part" := ⟨fun _ _ _ _ _ _ _ _ _ _ _ _ _ _ _ _ _ _ _ _ _ _ => BindsTo.of_eq rfl⟩
theorem fldK_at : FldK "at" := ⟨fun _ _ _ _ _ _ _ _ _ _ _ _ _ _ _ _ _ _ _ _ _ _ => BindsTo.of_eq rfl⟩
theorem fldK_most : FldK "most" := ⟨fun _ _ _ _ _ _ _ _ _ _ _ _ _ _ _ _ _ _ _ _ _ _ => BindsTo.of_eq rfl⟩
theorem fldK_shown : FldK "shown" := ⟨fun _ _ _ _ _ _ _ _ _ _ _ _ _ _ _ _ _ _ _ _ _ _ => BindsTo.of_eq rfl⟩
theorem fldK_row : FldK "row" := ⟨fun _ _ _ _ _ _ _ _ _ _ _ _ _ _ _ _ _ _ _ _ _ _ => BindsTo.of_eq rfl⟩
end DX

namespace DX
open PySem PySem.Spec PyProof.Rows L2
/-! ### an error as a value -/
section
variable {X : Cx} {e : Expr} {t : L2.St → Hp → XK → Prop}
def tVal (t : L2.St → Hp → XK → Prop) : TE := fun σ H Q => t σ H fun cls d H' => ∀ a, H' a = none → Q (.ref a) (upd H' a (exV cls d a))
theorem pe_of_pmk (h : PMk X e t) : PE X e (tVal t) := ⟨fun pins s σ H Q I q => by
  refine thn (h pins s σ H _ I q) fun u s1 hu => ?_
  obtain ⟨a, oe, vs, sI, H', cls, d, rfl, J, k, hne, ha, hz, hd, h1, na, os, ag, r, q⟩ := hu
  have J2 := J.laidN (t' := s1.toks) k hne na (exV_ok ha hz hd)
  refine ⟨.ref a, _, ?_, rfl, q a na⟩
  obtain ⟨hp, g, dr, tk, o⟩ := s1
  exact ⟨J2.ok, os.trans J2.os, ag, J2.base, J2.loc, J2.cell, J2.free, J2.freeC, J2.pin, J2.hok, J2.len⟩⟩
end
section
variable {X : Cx} {x f : Str} {C : Addr}
theorem pmk_fldK {kws : List Keyword} {ta : TA} {p pos : Pos} {k : Nat} (T : ErrF X.prog X.K x f C) (N : FldN f) (NK : FldK f) (gC : X.mg x = some (.ref C)) (hsu : X.mg "super" = none) (hr : Room k X.A) (ha : PK X kws ta) (hg : Gl X x)
    (hall : (backToKw pos (keywordEach kws X.env)).all (·.1.isSome) = true) (hks : (backToKw pos (keywordEach kws X.env)).filterMap (·.1) = [f]) (hdb : (x == ("__debug__" : Str)) = false)
    (hpl : ((backTo pos (starEach [] X.env)).any (·.1) || (backToKw pos (keywordEach kws X.env)).any (·.1.isNone)) = false) :
    PMk X (.Call (.Name x p) [] kws pos) (tMkF C f ta) := by
  intro pins s σ H Q I h
  refine wpAny_Call_Name_kw (ld_glob I hg gC ?_ hdb)
  refine PySem.W.callWith_KW0 (h₀ := X.base) I.ok.mod.kin T.kC hall ?_ hpl
  refine thn (ha.run pos pins s σ H _ I h) fun us s1 hh => ?_
  obtain ⟨vs, H1, I1, r1, v, ev, q1⟩ := hh
  subst ev
  refine ⟨I1.kIn, ?_⟩
  rw [hks]
  cases r1 with
  | cons rv rn =>
    rename_i v' us'
    cases rn
    show wpAny _ _ (call (.ref C) [] [(f, v')]) _ _ _
    have hlim := I1.nolimit
    obtain ⟨mb, b1, b2⟩ := I1.mod.blt
    have hgl := I1.mod.glob.keeps I1.bk
    have hbl := b1.keeps I1.bk
    have hkin := I1.kIn
    obtain ⟨hp, g, dr, tk, os⟩ := s1
    refine wpAny_call (err_madeK (mg := X.mg) (mb := mb) T N NK hkin hlim hgl hbl hsu ((b2 "super" (by decide)).trans boot_super) (by have := hr.dp; omega) fun h' tk' e d M => ?_)
    show MkP X pins σ Q (.ref e) ⟨h', g, dr, tk', os⟩
    obtain ⟨oe, fv, hoe, hc, hd, hdat, h1⟩ := M.obj
    obtain ⟨G', g1, g2⟩ := restrict h' fun b => decide (b ≠ e)
    have gk : ∀ b, b ≠ e → G'.get? b = h'.get? b := fun b hb => g1 b (decide_eq_true hb)
    have ge : G'.get? e = none := g2 e (by simp)
    have old : ∀ b o, hp.get? b = some o → G'.get? b = some o := fun b o q => (gk b (Nat.ne_of_lt (Nat.lt_of_lt_of_le (Heap.lt_size q) M.new))).trans (M.keep b o q)
    have ob : ObjOk X.prog X.w (upd H1 d (.xd [(f, v)])) G' d (.xd [(f, v)]) := ⟨_, M.ns.at (fun o q => (gk d M.dne).trans q), fun y => relO_fld rv y⟩
    have J : Inv X pins σ (upd H1 d (.xd [(f, v)])) ⟨G', g, dr, tk', os⟩ := I1.laid (t' := tk') old M.dbig ob
    refine ⟨e, oe, fv, ⟨G', g, dr, tk', os⟩, _, .ref C, some d, rfl, J, fun b o q => ?_, ge, hoe, ⟨hc, hd⟩, hdat, h1, ?_, rfl, I1.bare, raises_own T.exC T.tyC, q1 d (I1.hok.fresh M.dbig)⟩
    · by_cases hb : b = e
      · have q' : G'.get? b = some o := q
        rw [hb, ge] at q'; cases q'
      · exact (gk b hb).symm.trans q
    · rw [upd_ne (Ne.symm M.dne)]
      exact I1.hok.fresh M.new
end
section
variable {X : Cx} {C : Addr} {bmB : List Value} {B newId initId : String}
/-- X(e), the class having no own __init__ -/
theorem pmk_own1 {x : Str} {a : Expr} {ta : TA} {p pos : Pos} (F : ExcBaseFacts B newId initId bmB) (q : PySem.W.excIn X.K C bmB newId = true) (gC : X.mg x = some (.ref C)) (kC : PySem.W.keepIn X.K (.ref C) = true) (r : Raises X (.ref C)) (hg : Gl X x) (ha : PA X [a] ta)
    (he : starEach (a :: []) X.env = (false, eval a X.env) :: starEach [] X.env) (hpl : (backTo pos (starEach [] X.env)).any (·.1) = false) (hdb : (x == ("__debug__" : Str)) = false := by decide) :
    PMk X (.Call (.Name x p) [a] [] pos) (fun σ H Q => ta σ H fun vs H1 => ∃ v, vs = [v] ∧ Q (.ref C) none H1) := by
  intro pins s σ H Q I h
  refine wpAny_Call_Name_kw (ld_glob I hg gC ?_ hdb)
  refine PySem.W.callWith_K (h₀ := X.base) I.ok.mod.kin kC (thn (ha.run pos pins s σ H _ I h) fun us s1 hh => ?_) he hpl
  obtain ⟨vs, H1, I1, r1, v, ev, q1⟩ := hh
  subst ev
  refine ⟨I1.kIn, ?_⟩
  cases r1 with
  | cons ru rn =>
    rename_i u us'
    cases rn
    show wpAny _ _ (call (.ref C) [u]) _ _ _
    obtain ⟨bm, N, nm, qn, bs, hdct, sn, sub, ab, col, dd, k0, k1, k2, k3, k5, mN, hC, hN, hni, T⟩ := exc_obj I1.kIn q
    refine wpAny_call_exc_subT F T hC hN hni (fun h' e hm => ?_) (by show 1 ≤ sizeLine; rw [sizeLine_eq]; omega)
    exact mk_of I1 hm r q1 (I1.hok.gone hm.new)
end
end DX
namespace DL
open PySem PySem.Spec L2
section
variable {X : Cx} {an : An} {dr : Option Dr} {ρ : Rho} {om : Om} {a : Expr} {kws : List Keyword} {pos p : Pos} {x f : Str} {j : Nat} {C : Addr} {Q : R → Om → Prop}
theorem we_err1 (T : ErrM X.K X.mg x C) (h : WA X an dr ρ om [a] fun rs om1 => allV rs fun ds => ∃ v, ds = [v] ∧ Q (.v (.exc C [])) om1) (hg : Gl X x := by rfl) (hdb : (x == ("__debug__" : Str)) = false := by decide)
    (he : starEach (a :: []) X.env = (false, eval a X.env) :: starEach [] X.env := by rfl) (hpl : (backTo pos (starEach [] X.env)).any (·.1) = false := by rfl) : WE X an dr ρ om (.Call (.Name x p) [a] [] pos) Q :=
  peI (DX.pe_of_pmk (DX.pmk_own1 PySem.F.excBase_ValueError T.ex T.at_ T.kp (raises_own T.sb T.ty) hg (pa_u (an := an) (dr := dr)) he hpl hdb)) fun σ H K' ⟨τ, G, g, n, k⟩ => uA_of h g n fun vs rs om1 τ1 G1 H1 i1 w g1 gr1 n1 => by
    obtain ⟨ds, i, v, e, q⟩ := allV_is i1 w
    subst e
    cases i with
    | cons iv inil =>
      cases inil
      exact ⟨_, rfl, fun a ha => k _ _ om1 τ1 _ _ (.v (.exc0 upd_same)) q (g1.alloc ha) (gr1.trans (g1.grow ha))⟩
theorem errF_run {vs : List V} {ds : List D} {τ1 : List Addr} {G1 H1 : Hp} {om1 : Om} {K' : VK} {v : D} (g1 : Good X.K an dr om1 τ1 G1 H1) (i : IsL X.K G1 vs ds) (e : ds = [v]) (k : ∀ a G' H', Is X.K G' (.ref a) (.exc C [(f, v)]) → Good X.K an dr om1 τ1 G' H' → Ex G1 G' → K' (.ref a) H') :
    ∃ v', vs = [v'] ∧ ∀ d, H1 d = none → ∀ a, upd H1 d (.xd [(f, v')]) a = none → K' (.ref a) (upd (upd H1 d (.xd [(f, v')])) a (DX.exV (.ref C) (some d) a)) := by
  subst e
  cases i with
  | @cons u0 _ _ _ iv inil =>
    cases inil
    refine ⟨_, rfl, fun d hd a ha => ?_⟩
    have g2 := g1.alloc (o := .xd [(f, u0)]) hd
    have e2 := (g1.grow (o := .xd [(f, u0)]) hd).ex
    have g3 := g2.alloc (o := DX.exV (.ref C) (some d) a) ha
    have e3 := (g2.grow (o := DX.exV (.ref C) (some d) a) ha).ex
    have ne : d ≠ a := fun z => by rw [← z, upd_same] at ha; cases ha
    exact k a _ _ (.excF upd_same (e3 _ _ upd_same) (.cons (iv.mono (e2.trans e3)) .nil)) g3 (e2.trans e3)
theorem we_errF (T : ErrA X.prog X.K X.mg x f C) (hr : Room j X.A) (h : WA X an dr ρ om [a] fun rs om1 => allV rs fun ds => ∃ v, ds = [v] ∧ Q (.v (.exc C [(f, v)])) om1) (hg : Gl X x := by rfl) (hdb : (x == ("__debug__" : Str)) = false := by decide)
    (he : starEach (a :: []) X.env = (false, eval a X.env) :: starEach [] X.env := by rfl) (hpl : (backTo pos (starEach [] X.env)).any (·.1) = false := by rfl) : WE X an dr ρ om (.Call (.Name x p) [a] [] pos) Q :=
  peI (DX.pe_of_pmk (DX.pmk_fld T.fl T.fn T.at_ T.su hr (pa_u (an := an) (dr := dr)) hg he hpl hdb)) fun σ H K' ⟨τ, G, g, n, k⟩ => uA_of h g n fun vs rs om1 τ1 G1 H1 i1 w g1 gr1 n1 => by
    obtain ⟨ds, i, v, e, q⟩ := allV_is i1 w
    exact errF_run g1 i e fun a G' H' i' g' e' => k _ _ om1 τ1 G' H' (.v i') q g' (gr1.trans ⟨e', fun _ _ h => h⟩)
theorem we_errK (T : ErrA X.prog X.K X.mg x f C) (NK : DX.FldK f) (hr : Room j X.A) (h : WK X an dr ρ om kws fun rs om1 => allV rs fun ds => ∃ v, ds = [v] ∧ Q (.v (.exc C [(f, v)])) om1) (hg : Gl X x := by rfl) (hdb : (x == ("__debug__" : Str)) = false := by decide)
    (hall : (backToKw pos (keywordEach kws X.env)).all (·.1.isSome) = true := by rfl) (hks : (backToKw pos (keywordEach kws X.env)).filterMap (·.1) = [f] := by rfl)
    (hpl : ((backTo pos (starEach [] X.env)).any (·.1) || (backToKw pos (keywordEach kws X.env)).any (·.1.isNone)) = false := by rfl) : WE X an dr ρ om (.Call (.Name x p) [] kws pos) Q :=
  peI (DX.pe_of_pmk (DX.pmk_fldK T.fl T.fn NK T.at_ T.su hr (pk_u (an := an) (dr := dr)) hg hall hks hdb hpl)) fun σ H K' ⟨τ, G, g, n, k⟩ => uK_of h g n fun vs rs om1 τ1 G1 H1 i1 w g1 gr1 n1 => by
    obtain ⟨ds, i, v, e, q⟩ := allV_is i1 w
    exact errF_run g1 i e fun a G' H' i' g' e' => k _ _ om1 τ1 G' H' (.v i') q g' (gr1.trans ⟨e', fun _ _ h => h⟩)
end
end DL

namespace DL
open PySem PySem.Spec PySem.W L2
/-! ### the classes of errors among themselves -/
abbrev veR : List Value := [.type "ValueError", .type "Exception", .type "BaseException", .type "object"]
/-- a class of errors at C, its base being W (W itself has none) -/
structure EM (K : Frag) (C : Addr) (r : List Value) : Prop where
  ty : typeIn K (.ref C) = some (.type "type")
  mr : ∃ cd, clsIn K C = some cd ∧ cd.mro = .ref C :: r
theorem EM.mro {K : Frag} {C : Addr} {r : List Value} (h : EM K C r) (b : Value) : mroIn K C b = some ((Value.ref C :: r).contains b) := by
  obtain ⟨cd, h1, h2⟩ := h.mr
  unfold mroIn
  rw [h1, Option.bind_some, h2]
  rfl
theorem EM.one {K : Frag} {C D : Addr} {r r' : List Value} (h : EM K C r) (h' : EM K D r') : kitOne K (.ref C) (.ref D) = some ((Value.ref C :: r).contains (.ref D)) := by
  unfold kitOne
  split
  · rename_i e
    have e : Value.ref C = .ref D := by simpa using e
    cases e
    simp
  · unfold kitCls
    obtain ⟨cd, h1, _⟩ := h'.mr
    have e : ((clsIn K D).isSome && typeIn K (.ref D) == some (.type "type")) = true := by rw [h1, h'.ty]; simp
    simp only [e, if_true]
    exact h.mro _
theorem EM.ve {K : Frag} {C : Addr} {r : List Value} (h : EM K C r) (hr : r.contains (.type "ValueError") = true) : kitOne K (.ref C) (.type "ValueError") = some true := by
  unfold kitOne
  rw [if_neg (by simp)]
  unfold kitCls
  have e : kitMeta "ValueError" = true := by decide +kernel
  simp only [e, if_true]
  have := h.mro (.type "ValueError")
  rw [List.contains_cons, hr, Bool.or_true] at this
  exact this
theorem EM.non {K : Frag} {D : Addr} {r : List Value} (h : EM K D r) : kitOne K (.type "NoneType") (.ref D) = some false := by
  unfold kitOne
  rw [if_neg (by simp)]
  unfold kitCls
  obtain ⟨cd, h1, _⟩ := h.mr
  have e : ((clsIn K D).isSome && typeIn K (.ref D) == some (.type "type")) = true := by rw [h1, h.ty]; simp
  simp only [e, if_true]
  have z : fastBuiltinMro "NoneType" = some [.type "NoneType", .type "object"] := by decide +kernel
  show (fastBuiltinMro "NoneType").map (·.contains (.ref D)) = some false
  rw [z]
  rfl
/-- all the classes: W at 0, the others behind it -/
structure EAll (K : Frag) (c : Cl) (nE : Nat) : Prop where
  base : EM K (c.err 0) veR
  leaf : ∀ m, 0 < m → m < nE → EM K (c.err m) (.ref (c.err 0) :: veR)
  inj : ∀ m n, m < nE → n < nE → c.err m = c.err n → m = n
theorem EAll.any {K : Frag} {c : Cl} {nE : Nat} (h : EAll K c nE) (m : Nat) (hm : m < nE) : ∃ r, EM K (c.err m) r ∧ r.contains (.type "ValueError") = true := by
  by_cases e : m = 0
  · subst e; exact ⟨_, h.base, by decide⟩
  · exact ⟨_, h.leaf m (by omega) hm, by rw [List.contains_cons]; rfl⟩
theorem EAll.leafC {K : Frag} {mg : Str → Option Value} {c : Cl} {nE n : Nat} {x : Str} (h : EAll K c nE) (h0 : 0 < n) (hn : n < nE) (hx : mg x = some (.ref (c.err n))) : ErrC K mg nE c x (some n) := by
  have hD := h.leaf n h0 hn
  refine ⟨_, hx, hD.non, fun m hm => ?_⟩
  by_cases e : m = 0
  · subst e
    rw [h.base.one hD]
    have ne : c.err 0 ≠ c.err n := fun z => by have := h.inj 0 n hm hn z; omega
    have : (Value.ref (c.err 0) :: veR).contains (.ref (c.err n)) = false := by
      simp [Ne.symm ne]
    rw [this]
    show some false = some (decide (0 = n))
    rw [decide_eq_false (by omega : ¬ 0 = n)]
  · have hC := h.leaf m (by omega) hm
    rw [hC.one hD]
    have ne0 : c.err n ≠ c.err 0 := fun z => by have := h.inj n 0 hn (by omega) z; omega
    by_cases e2 : m = n
    · subst e2; simp
    · have ne : c.err n ≠ c.err m := fun z => e2 (h.inj m n hm hn z.symm)
      have : (Value.ref (c.err m) :: .ref (c.err 0) :: veR).contains (.ref (c.err n)) = false := by
        simp [ne, ne0]
      rw [this]
      show some false = some (decide (m = n))
      rw [decide_eq_false e2]
theorem EAll.baseC {K : Frag} {mg : Str → Option Value} {c : Cl} {nE : Nat} {x : Str} (h : EAll K c nE) (hx : mg x = some (.ref (c.err 0))) : ErrC K mg nE c x none := by
  refine ⟨_, hx, h.base.non, fun m hm => ?_⟩
  by_cases e : m = 0
  · subst e; rw [h.base.one h.base]; simp
  · rw [(h.leaf m (by omega) hm).one h.base]; simp
theorem EAll.veC {K : Frag} {mg : Str → Option Value} {c : Cl} {nE : Nat} (h : EAll K c nE) (hx : mg "ValueError" = none) (hz : kitOne K (.type "NoneType") (.type "ValueError") = some false) : ErrV K mg nE c :=
  ⟨hx, hz, fun m hm => by obtain ⟨r, h1, h2⟩ := h.any m hm; exact h1.ve h2⟩
theorem EM.of {K : Frag} {C : Addr} {r : List Value} (ty : typeIn K (.ref C) = some (.type "type")) (mr : (clsIn K C).map (fun cd => cd.mro) = some (.ref C :: r)) : EM K C r := by
  obtain ⟨cd, h1, h2⟩ := Option.map_eq_some_iff.mp mr
  exact ⟨ty, cd, h1, h2⟩
theorem EM.of2 {K : Frag} {C : Addr} {r : List Value} {cd : ClassData} (ty : typeIn K (.ref C) = some (.type "type")) (h : clsIn K C = some cd) (e : cd.mro = .ref C :: r) : EM K C r := ⟨ty, cd, h, e⟩
theorem getD_inj {es : List Addr} (nd : es.Nodup) {m n : Nat} (hm : m < es.length) (hn : n < es.length) (e : es.getD m 0 = es.getD n 0) : m = n := by
  rw [List.getD_eq_getElem?_getD, List.getD_eq_getElem?_getD, List.getElem?_eq_getElem hm, List.getElem?_eq_getElem hn] at e
  exact (List.getElem_inj nd).mp e

/-! ### lists of classes -/
inductive AllE (P : Addr → Prop) : List Addr → Prop
  | nil : AllE P []
  | cons {a : Addr} {as : List Addr} : P a → AllE P as → AllE P (a :: as)
theorem AllE.get {P : Addr → Prop} : ∀ {as : List Addr}, AllE P as → ∀ m, m < as.length → P (as.getD m 0)
  | _, .nil, m, h => absurd h (Nat.not_lt_zero _)
  | _, .cons p _, 0, _ => p
  | _, .cons _ q, m + 1, h => q.get m (Nat.lt_of_succ_lt_succ h)
theorem ErrHs.of {K : Frag} {c : Cl} {es : List Addr} (hc : c.err = fun i => es.getD i 0) (h : AllE (ErrH K) es) : ErrHs K es.length c := fun m hm => by rw [hc]; exact h.get m hm
theorem fieldE_of {K : Frag} {c : Cl} {es : List Addr} {a : Str} (hc : c.err = fun i => es.getD i 0) (h : AllE (fun E => findIn K (.ref E) a = some none) es) : ∀ m, m < es.length → findIn K (.ref (c.err m)) a = some none := fun m hm => by rw [hc]; exact h.get m hm
theorem EAll.of {K : Frag} {c : Cl} {e0 : Addr} {es : List Addr} (hc : c.err = fun i => (e0 :: es).getD i 0) (h0 : EM K e0 veR) (h : AllE (fun E => EM K E (.ref e0 :: veR)) es) (nd : (e0 :: es).Nodup) : EAll K c (e0 :: es).length := by
  refine ⟨by rw [hc]; exact h0, fun m h1 h2 => ?_, fun m n hm hn e => ?_⟩
  · rw [hc]
    cases m with
    | zero => exact absurd h1 (Nat.lt_irrefl _)
    | succ m => exact h.get m (Nat.lt_of_succ_lt_succ h2)
  · rw [hc] at e
    exact getD_inj nd hm hn e
open PySem.Calls PyProof.Rows PySem.HandSPX in
theorem errA_mk {P : Program} {K : Frag} {mg : Str → Option Value} {h : Heap} {x f : Str} {E N fI cc cda : Addr} {nm q ql : Str} {bs bm sub : List Value} {sn : List Str} {ab : Bool} {col : Option Bool} {dd cdd od an cld : Option Addr} {k0 k1 k2 k3 k5 : Option Value} {oc doc pm ct ccl cl : Value} {osl ccs csl : Array (Option Value)} {vs : Array Value} {file : Str} {tf : Tok} {p1 p2 q1 q2 q3 q4 q5 q6 q7 q8 q9 q10 : Pos}
    (X : K.In h) (G : h.Ns mainGlobals mg) (F : DX.FldN f)
    (a : nsIn K mainGlobals x = some (some (.ref E))) (zs : nsIn K mainGlobals "super" = some none) (lc : K.lookup E = some (excClassObj nm q E N bs bm true sn sub ab col dd k0 k1 k2 k3 k5 "ValueError.__new__")) (rv : refsVE bm = true)
    (sa : findIn K (.ref E) "__setattr__" = some (some (.builtin "object.__setattr__"))) (nf : findIn K (.ref E) f = some none) (kp : keepIn K (.ref E) = true) (hs : subIn K (.ref E) (.type "BaseException") = some true) (ve : subIn K (.ref E) (.type "ValueError") = some true)
    (ty : typeIn K (.ref E) = some (.type "type")) (hd : hasDictIn K E = true) (si : ks_superIn K E E "__init__" = some (some (.builtin "ValueError.__init__"))) (mo : mroIn K E (.ref E) = some true) (op : nsIn K cStatics "thirdparty.any" = some none)
    (tp : (P.main.scope.names.lookup ("super" : Str)).isSome = false)
    (fi : findIn K (.ref E) "__init__" = some (some (.ref fI))) (ti : typeIn K (.ref fI) = some (.type "function"))
    (lI : K.lookup fI = some ⟨oc, od, .func (ksFn "__init__" ql (DX.eA f p1 p2) (DX.eB f q1 q2 q3 q4 q5 q6 q7 q8 q9 q10) (DX.eS f) .none .none doc pm an (.ref cda) ct cc), osl⟩)
    (cI : codeIn K (.ref cda) ql = true)
    (ev : ∃ pl : Sem Bool, ∀ L : Addr, eval (.Call (.Attribute (.Call (.Name "super" q1) [] [] q2) "__init__" q3) [.Name f q4] [] q5) (ksEnv ql (DX.eS f) L fI (.ref cda) cc) = (do
      let ov ← attributeBase (.Call (.Name "super" q1) [] [] q2) "__init__" (ksEnv ql (DX.eS f) L fI (.ref cda) cc) (eval (.Call (.Name "super" q1) [] [] q2) (ksEnv ql (DX.eS f) L fI (.ref cda) cc))
      standAt q3.atName
      let (f1, first) ← holding [ov] (getMethod ov "__init__" pl)
      callWith q5 f1 first (backTo q5 (starEach [.Name f q4] (ksEnv ql (DX.eS f) L fI (.ref cda) cc))) []))
    (lk : K.lookup cda = some ⟨ccl, cdd, .fields vs, ccs⟩) (lv : vs[2]? = some (.str file tf)) (lf : ((P.main.file : Str) == file) = true) (ll : K.lookup cc = some ⟨cl, cld, .cell (some (.ref E)), csl⟩) : ErrA P K mg x f E :=
  ⟨mg_of X G a, ⟨⟨_, _, _, _, _, _, _, _, _, _, _, _, _, _, _, lc, rv⟩, sa, nf, kp, hs, ve, ty, hd, si, mo, op, tp, ⟨_, _, _, _, _, _, _, _, _, _, _, _, _, _, _, _, _, _, _, _, _, _, _, lI, cI, fi, ti, ev, ⟨_, _, _, _, _, _, lk, lv, lf⟩, ⟨_, _, _, ll⟩⟩⟩, F, mg_none_of X G zs⟩
end DL

namespace K01
open PySem PySem.Spec L2 DL
def top (i : Nat) : Stmt := PySem.Challenge.pw_otherworths_k01_errors_by_hand.main.body.getD i (.Pass ⟨0, 0, 0, 0⟩)
abbrev t_begin : Stmt := top 27
abbrev t_blend : Stmt := top 28
abbrev t_take : Stmt := top 29
abbrev t_law_pick : Stmt := top 30
abbrev t_law_marks : Stmt := top 31
abbrev t_law_alone : Stmt := top 32
abbrev t_law_plain : Stmt := top 33
abbrev t_law_with_fields : Stmt := top 34
abbrev t_law : Stmt := top 35
/-! ### the draws: blend, take -/
theorem hu65 {k : Nat} {A : Around} (hr : Room k A) : A.units + 65 < cLine := by have := hr.un; omega
theorem hu64 {k : Nat} {A : Around} (hr : Room k A) : A.units + 64 < cLine := by have := hr.un; omega
theorem hu66 {k : Nat} {A : Around} (hr : Room k A) : A.units + 66 < cLine := by have := hr.un; omega
theorem hu1 {k : Nat} {A : Around} (hr : Room k A) : A.units + 1 < cLine := by have := hr.un; omega
section
variable {P : Program} {w : World} {K : PySem.W.Frag} {mg : Str → Option Value} {base : Heap} {x : Dr}
theorem sc_law_blend : FnScope ["_law_draw", "_law_turn", "_law_found", "_law_prime", "_law_blend_here", "_law_cell"] ["_law_draw"] (defScope t_blend) := ⟨rfl, rfl, rfl, by decide +kernel, rfl, by decide +kernel, by decide +kernel⟩
theorem ok_law_blend {f : Addr} {fd : FuncData} (F : FunA K "_law_blend" "_law_blend" t_blend f fd) (m_int : mg "int" = none) (hz : x.cs.length ≤ sizeLine) : FnG P w K mg base CX0 1 f fd ["_law_draw"] (spD K (some x) (W_blend x)) := by
  refine fnD F sc_law_blend (fun ds Q h => by obtain ⟨rfl, _⟩ := h; rfl) fun cdv A outer s H E an ds post hr gd hW => ?_
  obtain ⟨rfl, hW⟩ := hW
  have hu := hu65 hr
  refine wss_cons (ws_set (i := 1) sc_law_blend.nd rfl (.inl rfl) (we_bin (we_drTurn (hu1 hr) (we_name (i := 0) rfl (.inl rfl) rfl ⟨rfl, fun tu => we_int ?_⟩))))
  refine wss_cons (ws_drTurn (hu1 hr) (we_name (i := 1) rfl (.inl rfl) rfl (we_name (i := 0) rfl (.inl rfl) rfl ⟨rfl, ?_⟩)))
  refine (wss_cons (ws_set (i := 2) sc_law_blend.nd rfl (.inl rfl) (we_int (wss_cons (ws_for PassesOwn.never rfl (wg_name (i := 3) sc_law_blend.nd rfl (.inl rfl)) (wi_seq (we_lst (wa_cons (we_int (wa_cons (we_int (wa_cons (we_int (wa_cons (we_int (wa_nil ?_))))))))))))))))
  refine ⟨by show 4 ≤ sizeLine; decide, ?_⟩
  refine ⟨fun i ρ om => ∃ (fo : Int) (a b c : Option R), ρ = [some (.v (.obj x.d)), some (.v (.int (tu + 1))), some (.v (.int fo)), a, b, c] ∧ om = [], ⟨0, none, none, none, rfl, rfl⟩, fun i d ρ om hl hd hp => ?_, fun ρ om hl hp => ?_⟩
  · obtain ⟨fo, a, b, c, rfl, rfl⟩ := hp
    obtain ⟨p, rfl, p0, p1⟩ : ∃ p : Int, d = .int p ∧ 0 < p ∧ p < 2147483648 := by
      match i, hd with
      | 0, hd => cases hd; exact ⟨_, rfl, by decide, by decide⟩
      | 1, hd => cases hd; exact ⟨_, rfl, by decide, by decide⟩
      | 2, hd => cases hd; exact ⟨_, rfl, by decide, by decide⟩
      | 3, hd => cases hd; exact ⟨_, rfl, by decide, by decide⟩
      | i + 4, hd => cases hd
    refine (wss_cons (ws_set (i := 4) sc_law_blend.nd rfl (.inl rfl) (we_bin (we_bty cb_int m_int PyProof.Rows.boot_int intF_mono (wa_cons (we_bin (we_bin (we_name (i := 1) rfl (.inl rfl) rfl (we_int ?_)))))))))
    refine ⟨.inr ⟨by decide, by decide⟩, ?_⟩
    refine (we_bin (we_name (i := 3) rfl (.inl rfl) rfl (we_int ?_)))
    refine ⟨⟨by decide, by decide⟩, ?_⟩
    refine (wa_nil (we_name (i := 3) rfl (.inl rfl) rfl ?_))
    refine ⟨p0, ?_⟩
    refine (wss_cons (ws_for PassesOwn.never rfl (wg_name (i := 5) sc_law_blend.nd rfl (.inl rfl)) (wi_drCells (hu1 hr) hz (we_name (i := 0) rfl (.inl rfl) rfl ⟨rfl, ?_⟩))))
    refine ⟨fun i ρ om => ∃ (bh : Int) (c : Option R), ρ = [some (.v (.obj x.d)), some (.v (.int (tu + 1))), some (.v (.int fo)), some (.v (.int p)), some (.v (.int bh)), c] ∧ om = [] ∧ 0 ≤ bh ∧ bh < p, ⟨_, c, rfl, rfl, Int.emod_nonneg _ (by omega), Int.emod_lt_of_pos _ p0⟩, fun i d ρ om hl hd hp => ?_, fun ρ om hl hp => ?_⟩
    · obtain ⟨bh, c, rfl, rfl, b0, b1⟩ := hp
      obtain ⟨ce, rfl⟩ : ∃ ce : Int, d = .int ce := by
        rw [List.getElem?_map] at hd
        cases e : x.cs[i]? with
        | none => rw [e] at hd; cases hd
        | some ce => rw [e] at hd; cases hd; exact ⟨ce, rfl⟩
      refine (wss_one (ws_set (i := 4) sc_law_blend.nd rfl (.inl rfl) (we_bin (we_bty cb_int m_int PyProof.Rows.boot_int intF_mono (wa_cons (we_bin (we_bin (we_name (i := 4) rfl (.inl rfl) rfl (we_int ?_)))))))))
      refine ⟨.inr ⟨by decide, by decide⟩, ?_⟩
      refine (we_name (i := 5) rfl (.inl rfl) rfl (wa_nil (we_name (i := 3) rfl (.inl rfl) rfl ?_)))
      exact ⟨p0, _, _, rfl, rfl, Int.emod_nonneg _ (by omega), Int.emod_lt_of_pos _ p0⟩
    · obtain ⟨bh, c, rfl, rfl, b0, b1⟩ := hp
      refine (wss_one (ws_set (i := 2) sc_law_blend.nd rfl (.inl rfl) (we_bin (we_bin (we_name (i := 2) rfl (.inl rfl) rfl (we_int ?_))))))
      refine ⟨.inr ⟨by decide, by decide⟩, ?_⟩
      refine (we_bin (we_bty cb_int m_int PyProof.Rows.boot_int intF_mono (wa_cons (we_bin (we_name (i := 4) rfl (.inl rfl) rfl (we_int ?_))))))
      refine ⟨⟨by decide, by decide, ?_⟩, ?_⟩
      · have : bh.natAbs < 2147483648 := by omega
        exact Nat.lt_of_lt_of_le this (by decide)
      refine (wa_nil (we_name (i := 3) rfl (.inl rfl) rfl ?_))
      exact ⟨p0, _, _, _, _, rfl, rfl⟩
  · obtain ⟨fo, a, b, c, rfl, rfl⟩ := hp
    exact wss_one (ws_ret (we_name (i := 2) rfl (.inl rfl) rfl (hW fo)))
theorem sc_law_take : FnScope ["_law_draw", "_law_many", "_law_found"] ["_law_draw", "_law_many"] (defScope t_take) := ⟨rfl, rfl, rfl, by decide +kernel, rfl, by decide +kernel, by decide +kernel⟩
theorem ok_law_take {f : Addr} {fd : FuncData} (F : FunA K "_law_take" "_law_take" t_take f fd) (m_int : mg "int" = none) (hgc : x.c ≠ x.g) (h_law_blend : Has P w K mg base (some x) 1 "_law_blend" ["_law_draw"] (W_blend x)) : FnG P w K mg base CX0 2 f fd ["_law_draw", "_law_many"] (spD K (some x) (W_take x)) := by
  refine fnD F sc_law_take (fun ds Q h => by obtain ⟨_, rfl, _⟩ := h; rfl) fun cdv A outer s H E an ds post hr gd hW => ?_
  obtain ⟨n, rfl, ⟨n0, n1⟩, hW⟩ := hW
  have hu := hu65 hr
  have key : ∀ {E' : Ed}, E'.nx (startR ["_law_draw", "_law_many", "_law_found"] [.obj x.d, .int n]) [] → WS (cxOf CX0 P w K mg base ["_law_draw", "_law_many", "_law_found"] "_law_take" (defScope t_take) f cdv A outer s H E).nox an (some x) (startR ["_law_draw", "_law_many", "_law_found"] [.obj x.d, .int n]) [] ((defBody t_take).getD 0 (.Pass ⟨0, 0, 0, 0⟩)) E' := fun {E'} hE => by
    refine psI (ps_if (PW.pt (pw_and (pt_cmpR op_eq (pe_dget (hu1 hr) (pv 0) pe_str (fun _ _ => rfl)) pe_int (nomark _)) (pw_and1 (pt_cmpR (op_neD (hu64 hr)) (pe_dget (hu1 hr) (pv 0) pe_str (fun _ _ => rfl)) (pe_lst pa_nil) (nomark _)))))
      (pss_one (ps_dput (hu1 hr) (pv 0) pe_str (pe_bm PySem.F.plainAttrs_list PySem.F.slot_list_pop PySem.F.type_list_pop mt_popAt (pe_dget (hu1 hr) (pv 0) pe_str (fun _ _ => rfl)) (pa_cons pe_int pa_nil)) rfl)) pss_nil) fun Z σ H0 hh => ?_
    obtain ⟨τ, G, g, ne, hl, h1, _⟩ := hh
    obtain ⟨⟨gr, _, re, tu, q1, q2, q3⟩, _⟩ := g.drg x rfl
    obtain ⟨v0, hv0, iv0⟩ := ne 0 (.v (.obj x.d)) rfl
    cases iv0 with
    | v iv0 =>
      cases iv0
      have fin : ∀ {H' : Hp}, Good K an (some x) [] τ G H' → Z.nx σ H' := fun g' => h1 σ _ ⟨_, [], τ, G, hE, g', ne, Grow.refl _ _, hl, rfl⟩
      refine ⟨_, hv0, x.d, .int re, rfl, DGet.k (k := .inr "rest") q1, rfl, _, rfl, ?_⟩
      refine ifE (fun _ => ?_) (fun _ => ifF rfl (fin g))
      refine ⟨_, hv0, x.d, .ref x.g, rfl, DGet.k (k := .inr "great") q1, by show 0 ≤ sizeLine; decide, fun p hp => ?_⟩
      have np : ∀ {a : Addr} {o : HO}, H0 a = some o → upd H0 p (.lst []) a = some o := fun {a o} e => by rw [upd_ne (ne_of_none e hp)]; exact e
      have g2 := g.alloc (o := .lst []) hp
      have gp : Grow G τ (upd G p (.lst [])) τ := g.grow hp
      have dg : ∀ ns : List Int, DpAll K (upd H0 p (.lst [])) (ns.map V.int) (ns.map PyData.int) := fun ns => by
        induction ns with
        | nil => exact .nil
        | cons a t ih => exact .cons (.int a) ih
      have sg : ∀ ns : List Int, PyData.canLayAll0 (ns.map PyData.int) = true ∧ PyData.depthAll (ns.map PyData.int) ≤ 1 := fun ns => by
        induction ns with
        | nil => exact ⟨rfl, Nat.zero_le _⟩
        | cons a t ih => exact ⟨by simp [PyData.canLayAll0, PyData.canLay0, ih.1], by simp only [List.map_cons, PyData.depthAll, PyData.depth]; omega⟩
      have sh : SeqAt.shaped (.list (gr.map PyData.int)) = true := by
        have := sg gr
        simp [SeqAt.shaped, PyData.canLay0, PyData.depth, this.1]
        omega
      refine ⟨.list (gr.map PyData.int), .list [], .lst (.inl (.inl (np q2))) (dg gr), .lst (.inl (.inl upd_same)) .nil, sh, rfl, _, rfl, ?_⟩
      have fin2 : ∀ {H' : Hp}, Good K an (some x) [] τ (upd G p (.lst [])) H' → Z.nx σ H' := fun g' => h1 σ _ ⟨_, [], τ, _, hE, g', ne.mono gp, gp, hl, rfl⟩
      refine ifE (fun c => ?_) (fun _ => fin2 g2)
      cases gr with
      | nil => exact absurd c (by decide)
      | cons m gr =>
        have q1' : upd (upd H0 p (.lst [])) x.g (.lst (gr.map V.int)) x.d = some (.dK (drK x re tu)) := by rw [upd_ne (ne_of q1 q2 (by intro z; cases z))]; exact np q1
        have g3 := g2.drawG (gr' := gr) (np q1) (np q2) (np q3) hgc
        have g4 := g3.draw (gr := gr) (re' := m) (tu' := tu) q1' upd_same (by rw [upd_ne hgc]; exact np q3)
        exact ⟨_, hv0, x.d, .ref x.g, rfl, DGet.k (k := .inr "great") (np q1), tyV_l (np q2), x.g, _, 0, 0, .int m, rfl, rfl, np q2, by decide, by decide, seqIndex_of (by decide) (by rw [List.length_map, List.length_cons]; omega), rfl, _, hv0, x.d, _, rfl, DPut.k (k := .inr "rest") q1' (by show 4 < sizeLine; decide), fin2 g4⟩
  have tail : ∀ {E' : Ed}, E'.rt = post → WSs (cxOf CX0 P w K mg base ["_law_draw", "_law_many", "_law_found"] "_law_take" (defScope t_take) f cdv A outer s H E).nox an (some x) (startR ["_law_draw", "_law_many", "_law_found"] [.obj x.d, .int n]) [] ((defBody t_take).drop 2) E' := fun {E'} hE => by
    refine (wss_cons (ws_set (i := 2) sc_law_take.nd rfl (.inl rfl) (we_bin (we_bty cb_int m_int PyProof.Rows.boot_int intF_mono (wa_cons (we_drRest (hu1 hr) (we_name (i := 0) rfl (.inl rfl) rfl ⟨rfl, fun re => wa_nil (we_name (i := 1) rfl (.inl rfl) rfl ?_)⟩)))))))
    refine ⟨n0, ?_⟩
    refine wss_cons (ws_drRest (hu1 hr) (we_bin (we_drRest (hu1 hr) (we_name (i := 0) rfl (.inl rfl) rfl ⟨rfl, fun re' => we_name (i := 1) rfl (.inl rfl) rfl ?_⟩))))
    refine ⟨wide_div n0 (b := 64) (by omega) (by decide) (by decide), we_name (i := 0) rfl (.inl rfl) rfl ⟨rfl, ?_⟩⟩
    refine (wss_one (ws_ret (we_name (i := 2) rfl (.inl rfl) rfl ?_)))
    show E'.rt _
    rw [hE]
    exact hW _ (Int.emod_nonneg _ (by omega)) (Int.emod_lt_of_pos _ n0)
  refine wss_cons (key ?_)
  refine wss_cons (ws_if (wt_cmp hu (we_drRest (hu1 hr) (we_name (i := 0) rfl (.inl rfl) rfl ⟨rfl, fun re => we_int ?_⟩))))
  refine ifE (fun _ => ?_) (fun _ => ?_)
  · refine wss_one (ws_drRest (hu1 hr) (we_call h_law_blend hr gd (wa_cons (we_name (i := 0) rfl (.inl rfl) rfl (wa_nil ?_)))))
    exact ⟨rfl, fun k => we_name (i := 0) rfl (.inl rfl) rfl ⟨rfl, tail rfl⟩⟩
  · exact wss_nil (tail rfl)
end
/-! ### the draws begin -/
section
variable {P : Program} {w : World} {K : PySem.W.Frag} {mg : Str → Option Value} {base : Heap}
theorem sc_law_begin : FnScope ["_law_script", "_law_great", "_law_cell"] ["_law_script"] (defScope t_begin) := ⟨rfl, rfl, rfl, by decide +kernel, rfl, by decide +kernel, by decide +kernel⟩
theorem int_at {ns : List Int} {i : Nat} {y : V} (h : (ns.map V.int)[i]? = some y) : ∃ z, y = V.int z := by
  rw [List.getElem?_map] at h
  cases e : ns[i]? with
  | none => rw [e] at h; cases h
  | some z => rw [e] at h; exact ⟨z, (Option.some.inj h).symm⟩
theorem ok_law_begin {f : Addr} {fd : FuncData} (F : FunA K "_law_begin" "_law_begin" t_begin f fd) (m_abs : mg "abs" = none) : FnG P w K mg base CX0 1 f fd ["_law_script"] (spBegin K) := by
  refine FnG.of (F.ok sc_law_begin (fun vs H Q E h => ?_) (fun cdv A outer s H vs Q E hr h => ?_))
  · obtain ⟨a, ns, rfl, _⟩ := h
    rfl
  · obtain ⟨a, ns, rfl, hS, hlen, k⟩ := h
    refine ⟨_, pss_cons (ps_setLc (i := 1) (own := [("_law_cell", 2)]) (g := gName 2) rfl sc_law_begin.nd rfl rfl (sw_true rfl rfl rfl (by decide +kernel)) (pi_list (pv 0)) (blkOk_by (N := ["_law_script", "_law_great", "_law_cell"]) (sc := defScope t_begin) (by decide +kernel)) (fun _ _ _ _ _ => pg_name (i := 2) sc_law_begin.nd rfl (.inl rfl))
        (fun _ _ _ _ _ => pts_one (pt_cmpR op_ge (pe_callB call_abs rfl m_abs PyProof.Rows.boot_abs (pa_cons (pv 2) pa_nil)) (pe_op op_pow pe_int pe_int) (nomark _)))
        (fun _ _ _ _ _ => pe_op op_sub (pe_callB call_abs rfl m_abs PyProof.Rows.boot_abs (pa_cons (pv 2) pa_nil)) (pe_op op_pow pe_int pe_int)))
      (pss_one (ps_ret (pe_disp (pps_cons pe_str (pv 1) (pps_cons pe_str pe_int (pps_cons pe_str (pe_lc (own := [("_law_cell", 2)]) (g := gName 2) (tt := tYes) rfl sc_law_begin.nd (pi_list (pv 0)) (blkOk_by (N := ["_law_script", "_law_great", "_law_cell"]) (sc := defScope t_begin) (by decide +kernel)) (fun _ _ _ _ _ => pg_name (i := 2) sc_law_begin.nd rfl (.inl rfl)) (fun _ _ _ _ _ => pts_nil)
        (fun _ _ _ _ _ => pe_callB call_abs rfl m_abs PyProof.Rows.boot_abs (pa_cons (pv 2) pa_nil))) (pps_cons pe_str pe_int pps_nil)))) rfl rfl (by decide) (by decide)))), ?_⟩
    refine ⟨_, rfl, a, rfl, ⟨_, hS⟩, fun D hD => lc_list (K := K) (a := a) (xs := ns.map V.int) (fun i H' => (∃ acc : List Int, H' D = some (.lst (acc.map V.int)) ∧ acc.length ≤ i) ∧ ∀ b o, H b = some o → H' b = some o) ⟨⟨[], upd_same, Nat.le_refl _⟩, fun b o e => by rw [upd_ne (ne_of_none e hD)]; exact e⟩ (fun i H' _ q => Same.seq q.2 hS) ?_ ?_⟩
    · rintro i y H' hi ⟨⟨acc, hacc, hl⟩, same⟩
      obtain ⟨z, rfl⟩ := int_at hi
      have hil : i < 63 := by
        have := (List.getElem?_eq_some_iff.mp hi).1
        rw [List.length_map] at this
        omega
      refine ⟨rfl, _, rfl, z, rfl, 10, 18, rfl, rfl, ⟨by decide, by decide, by decide⟩, _, _, rfl, rfl, _, rfl, ?_⟩
      refine ite2 (fun _ => ?_) (fun _ => ⟨⟨acc, hacc, by omega⟩, same⟩)
      refine ⟨_, rfl, z, rfl, 10, 18, rfl, rfl, ⟨by decide, by decide, by decide⟩, _, _, rfl, rfl, acc.map V.int, hacc, ?_, ⟨acc ++ [(if z < 0 then -z else z) - 10 ^ 18], ?_, ?_⟩, fun b o e => ?_⟩
      · rw [List.length_map]
        exact small1000 (by omega)
      · rw [upd_same, List.map_append]
        rfl
      · rw [List.length_append]
        show acc.length + 1 ≤ i + 1
        omega
      · rw [upd_ne (ne_of_none e hD)]
        exact same b o e
    · rintro H1 ⟨⟨great, hgr, _⟩, same1⟩
      intro d hd
      have nD : D ≠ d := ne_of_none hgr hd
      have same2 : ∀ b o, H b = some o → upd H1 d (.dK []) b = some o := fun b o e => by
        rw [upd_ne (ne_of_none (same1 b o e) hd)]
        exact same1 b o e
      refine ⟨_, rfl, _, rfl, a, rfl, ⟨_, Same.seq same2 hS⟩, fun C hC => lc_list (K := K) (a := a) (xs := ns.map V.int) (fun i H' => (∃ acc : List Int, H' C = some (.lst (acc.map V.int)) ∧ acc.length ≤ i) ∧ ∀ b o, upd H1 d (.dK []) b = some o → H' b = some o) ⟨⟨[], upd_same, Nat.le_refl _⟩, fun b o e => by rw [upd_ne (ne_of_none e hC)]; exact e⟩ (fun i H' _ q => Same.seq q.2 (Same.seq same2 hS)) ?_ ?_⟩
      · rintro i y H' hi ⟨⟨acc, hacc, hl⟩, same⟩
        obtain ⟨z, rfl⟩ := int_at hi
        have hil : i < 63 := by
          have := (List.getElem?_eq_some_iff.mp hi).1
          rw [List.length_map] at this
          omega
        refine ⟨rfl, _, rfl, z, rfl, acc.map V.int, hacc, ?_, ⟨acc ++ [if z < 0 then -z else z], ?_, ?_⟩, fun b o e => ?_⟩
        · rw [List.length_map]
          exact small1000 (by omega)
        · rw [upd_same, List.map_append]
          rfl
        · rw [List.length_append]
          show acc.length + 1 ≤ i + 1
          omega
        · rw [upd_ne (ne_of_none e hC)]
          exact same b o e
      · rintro H3 ⟨⟨cells, hce, hcl⟩, same3⟩
        have hd3 : H3 d = some (.dK []) := same3 d _ upd_same
        have hD2 : upd H1 d (.dK []) D = some (.lst (great.map V.int)) := by rw [upd_ne nD]; exact hgr
        have nCd : C ≠ d := fun z => by rw [z, upd_same] at hC; cases hC
        have nCD : C ≠ D := (ne_of_none hD2 hC).symm
        refine ⟨hd3, [(.inr "great", .ref D), (.inr "rest", .int 0), (.inr "cells", .ref C), (.inr "turn", .int 0)], rfl, by show 4 ≤ 15; decide, ?_⟩
        rw [List.length_map] at hcl
        refine k ⟨d, D, C, cells, []⟩ _ ?_ hD ?_ nCD ?_ ⟨great, (), 0, 0, upd_same, ?_, ?_⟩ fun b o e => ?_
        · cases q : H d with
          | none => rfl
          | some o => rw [same1 d o q] at hd; cases hd
        · cases q : H C with
          | none => rfl
          | some o => rw [same2 C o q] at hC; cases hC
        · exact Nat.le_of_lt (small1000 (by show cells.length ≤ 1000; omega))
        · rw [upd_ne nD]
          exact same3 D _ hD2
        · rw [upd_ne nCd]
          exact hce
        · have z := same2 b o e
          rw [upd_ne (ne_of_none (same1 b o e) hd)]
          exact same3 b o z
end
end K01

namespace K01
open PySem PySem.Spec L2 DL
-- _law_pick level 4
def S_law_pick (c : Cl) (p_some : D) (K : D → Prop) : Prop := lenUF [p_some] fun d3 => takeS d3 fun d2 => ixU p_some d2 fun d1 => K d1
def W_law_pick (c : Cl) (x : Dr) : Wp := fun ds P => ∃ p_some : D, ds = [.obj x.d, p_some] ∧ ∃ P0, S_law_pick c p_some P0 ∧ ∀ d, P0 d → P d
theorem mono_law_pick {c : Cl} {x : Dr} : ∀ ds Q Q', (∀ d, Q d → Q' d) → W_law_pick c x ds Q → W_law_pick c x ds Q' := fun ds Q Q' i ⟨_, e, P0, h, k⟩ => ⟨_, e, P0, h, fun d q => i _ (k d q)⟩
theorem to_law_pick {c : Cl} {x : Dr} {p_some : D} {P0 Z : D → Prop} (h : S_law_pick c p_some P0) (i : ∀ d, P0 d → Z d) : W_law_pick c x [.obj x.d, p_some] Z := ⟨_, rfl, P0, h, i⟩
-- _law_marks level 4
def S_law_marks (c : Cl) (p_error : D) (K : D → Prop) : Prop := isES 25 c (some 1) p_error fun t2 => isES 25 c (some 2) p_error fun t4 => isES 25 c (some 3) p_error fun t6 => isES 25 c (some 4) p_error fun t9 => isES 25 c (some 5) p_error fun t11 => isES 25 c (some 6) p_error fun t13 => binD .Add (.lst [(.bl t2), (.bl t4), (.bl t6)]) (.lst [(.bl t9), (.bl t11), (.bl t13)]) fun d7 => isES 25 c (some 7) p_error fun t16 => isES 25 c (some 8) p_error fun t18 => isES 25 c (some 9) p_error fun t20 => binD .Add d7 (.lst [(.bl t16), (.bl t18), (.bl t20)]) fun d14 => isES 25 c (some 10) p_error fun t23 => isES 25 c (some 11) p_error fun t25 => isES 25 c (some 12) p_error fun t27 => binD .Add d14 (.lst [(.bl t23), (.bl t25), (.bl t27)]) fun d21 => isES 25 c (some 13) p_error fun t30 => isES 25 c (some 14) p_error fun t32 => isES 25 c (some 15) p_error fun t34 => binD .Add d21 (.lst [(.bl t30), (.bl t32), (.bl t34)]) fun d28 => isES 25 c (some 16) p_error fun t37 => isES 25 c (some 17) p_error fun t39 => isES 25 c (some 18) p_error fun t41 => binD .Add d28 (.lst [(.bl t37), (.bl t39), (.bl t41)]) fun d35 => isES 25 c (some 19) p_error fun t44 => isES 25 c (some 20) p_error fun t46 => isES 25 c (some 21) p_error fun t48 => binD .Add d35 (.lst [(.bl t44), (.bl t46), (.bl t48)]) fun d42 => isES 25 c (some 22) p_error fun t51 => isES 25 c (some 23) p_error fun t53 => isES 25 c (some 24) p_error fun t55 => binD .Add d42 (.lst [(.bl t51), (.bl t53), (.bl t55)]) fun d49 => K d49
def W_law_marks (c : Cl) : Wp := fun ds P => ∃ p_error : D, ds = [p_error] ∧ ∃ P0, S_law_marks c p_error P0 ∧ ∀ d, P0 d → P d
theorem mono_law_marks {c : Cl} : ∀ ds Q Q', (∀ d, Q d → Q' d) → W_law_marks c ds Q → W_law_marks c ds Q' := fun ds Q Q' i ⟨_, e, P0, h, k⟩ => ⟨_, e, P0, h, fun d q => i _ (k d q)⟩
theorem to_law_marks {c : Cl} {p_error : D} {P0 Z : D → Prop} (h : S_law_marks c p_error P0) (i : ∀ d, P0 d → Z d) : W_law_marks c [p_error] Z := ⟨_, rfl, P0, h, i⟩
-- _law_alone level 6
def S_law_alone (c : Cl) (p_error p_place : D) (K : D → Prop) : Prop := rngS (.int 24) fun ds5 => forS ds5 [] (fun d3 a1 n2 => cmpU .Eq d3 p_place fun t7 => n2 (a1 ++ [(.bl t7)])) fun xs4 => S_law_marks c p_error fun d9 => cmpU .Eq d9 (.lst xs4) fun t8 => blS (.bl t8) fun t10 => if t10 = true then isES 25 c none p_error fun t12 => blS (.bl t12) fun t13 => if t13 = true then isES 25 c none p_error fun t15 => K (.bl t15) else K (.bl false) else K (.bl false)
def W_law_alone (c : Cl) : Wp := fun ds P => ∃ p_error p_place : D, ds = [p_error, p_place] ∧ ∃ P0, S_law_alone c p_error p_place P0 ∧ ∀ d, P0 d → P d
theorem mono_law_alone {c : Cl} : ∀ ds Q Q', (∀ d, Q d → Q' d) → W_law_alone c ds Q → W_law_alone c ds Q' := fun ds Q Q' i ⟨_, _, e, P0, h, k⟩ => ⟨_, _, e, P0, h, fun d q => i _ (k d q)⟩
theorem to_law_alone {c : Cl} {p_error p_place : D} {P0 Z : D → Prop} (h : S_law_alone c p_error p_place P0) (i : ∀ d, P0 d → Z d) : W_law_alone c [p_error, p_place] Z := ⟨_, _, rfl, P0, h, i⟩
-- _law_plain level 4
def S_law_plain (c : Cl) (p_page : D) (K : D → Prop) : Prop := binD .Add (.lst [(.tup [(.int 0), (.exc (c.err 1) [])]), (.tup [(.int 1), (.exc (c.err 2) [])]), (.tup [(.int 2), (.exc (c.err 3) [])]), (.tup [(.int 3), (.exc (c.err 4) [])]), (.tup [(.int 4), (.exc (c.err 5) [])])]) (.lst [(.tup [(.int 5), (.exc (c.err 6) [])]), (.tup [(.int 9), (.exc (c.err 10) [])]), (.tup [(.int 12), (.exc (c.err 13) [])]), (.tup [(.int 13), (.exc (c.err 14) [])])]) fun d6 => binD .Add d6 (.lst [(.tup [(.int 19), (.exc (c.err 20) [])]), (.tup [(.int 20), (.exc (c.err 21) [])])]) fun d11 => K d11
def W_law_plain (c : Cl) : Wp := fun ds P => ∃ p_page : D, ds = [p_page] ∧ ∃ P0, S_law_plain c p_page P0 ∧ ∀ d, P0 d → P d
theorem mono_law_plain {c : Cl} : ∀ ds Q Q', (∀ d, Q d → Q' d) → W_law_plain c ds Q → W_law_plain c ds Q' := fun ds Q Q' i ⟨_, e, P0, h, k⟩ => ⟨_, e, P0, h, fun d q => i _ (k d q)⟩
theorem to_law_plain {c : Cl} {p_page : D} {P0 Z : D → Prop} (h : S_law_plain c p_page P0) (i : ∀ d, P0 d → Z d) : W_law_plain c [p_page] Z := ⟨_, rfl, P0, h, i⟩
-- _law_with_fields level 4
def S_law_with_fields (c : Cl) (p_item : D) (K : D → Prop) : Prop := enumS (.lst [(.exc (c.err 7) [("part", p_item)]), (.exc (c.err 7) [("part", p_item)]), (.exc (c.err 8) [("part", p_item)]), (.exc (c.err 8) [("part", p_item)]), (.exc (c.err 9) [("part", p_item)]), (.exc (c.err 9) [("part", p_item)])]) fun ds11 => forS ds11 [] (fun d9 a7 n8 => unp2 d9 fun d12 d13 => binD .FloorDiv d12 (.int 2) fun d16 => binD .Add (.int 6) d16 fun d15 => fldE 25 c "part" d13 fun d17 => n8 (a7 ++ [(.tup [d15, d13, d17])])) fun xs10 => binD .Add (.lst [(.exc (c.err 11) [("at", p_item)]), (.exc (c.err 11) [("at", p_item)]), (.exc (c.err 12) [("at", p_item)]), (.exc (c.err 12) [("at", p_item)]), (.exc (c.err 15) [("at", p_item)]), (.exc (c.err 15) [("at", p_item)])]) (.lst [(.exc (c.err 16) [("at", p_item)]), (.exc (c.err 16) [("at", p_item)]), (.exc (c.err 19) [("at", p_item)]), (.exc (c.err 19) [("at", p_item)])]) fun d24 => binD .Add d24 (.lst [(.exc (c.err 22) [("at", p_item)]), (.exc (c.err 22) [("at", p_item)]), (.exc (c.err 23) [("at", p_item)]), (.exc (c.err 23) [("at", p_item)])]) fun d29 => enumS d29 fun ds39 => forS ds39 [] (fun d37 a35 n36 => unp2 d37 fun d40 d41 => binD .FloorDiv d40 (.int 2) fun d44 => ixU (.lst [(.int 10), (.int 11), (.int 14), (.int 15), (.int 18), (.int 21), (.int 22)]) d44 fun d43 => fldE 25 c "at" d41 fun d45 => n36 (a35 ++ [(.tup [d43, d41, d45])])) fun xs38 => binD .Add (.lst xs10) (.lst xs38) fun d34 => walkD (.lst [(.exc (c.err 17) [("most", p_item)]), (.exc (c.err 17) [("most", p_item)])]) fun ds51 => forS ds51 [] (fun d49 a47 n48 => fldE 25 c "most" d49 fun d55 => n48 (a47 ++ [(.tup [(.int 16), d49, d55])])) fun xs50 => binD .Add d34 (.lst xs50) fun d46 => walkD (.lst [(.exc (c.err 18) [("shown", p_item)]), (.exc (c.err 18) [("shown", p_item)])]) fun ds61 => forS ds61 [] (fun d59 a57 n58 => fldE 25 c "shown" d59 fun d65 => n58 (a57 ++ [(.tup [(.int 17), d59, d65])])) fun xs60 => binD .Add d46 (.lst xs60) fun d56 => walkD (.lst [(.exc (c.err 24) [("row", p_item)]), (.exc (c.err 24) [("row", p_item)])]) fun ds71 => forS ds71 [] (fun d69 a67 n68 => fldE 25 c "row" d69 fun d75 => n68 (a67 ++ [(.tup [(.int 23), d69, d75])])) fun xs70 => binD .Add d56 (.lst xs70) fun d66 => K d66
def W_law_with_fields (c : Cl) : Wp := fun ds P => ∃ p_item : D, ds = [p_item] ∧ ∃ P0, S_law_with_fields c p_item P0 ∧ ∀ d, P0 d → P d
theorem mono_law_with_fields {c : Cl} : ∀ ds Q Q', (∀ d, Q d → Q' d) → W_law_with_fields c ds Q → W_law_with_fields c ds Q' := fun ds Q Q' i ⟨_, e, P0, h, k⟩ => ⟨_, e, P0, h, fun d q => i _ (k d q)⟩
theorem to_law_with_fields {c : Cl} {p_item : D} {P0 Z : D → Prop} (h : S_law_with_fields c p_item P0) (i : ∀ d, P0 d → Z d) : W_law_with_fields c [p_item] Z := ⟨_, rfl, P0, h, i⟩
-- law level 8
def S_law (c : Cl) (n : Nat) (K : D → Prop) : Prop := minF [(.int (n : Nat)), (.int 3)] fun d7 => binD .Add (.int 1) d7 fun d6 => rngS d6 fun ds5 => forS ds5 () (fun d1 (s3 : Unit) n2 => S_law_pick c (.lst [(.str ""), (.str "a"), (.str "no name"), (.str "x-y<=3")]) fun d24 => binD .Pow (.int 10) (.int 12) fun d26 => S_law_pick c (.lst [(.int 0), (.int 1), (.int 7), .non, (.str "a"), (.tup [(.int 1), .non]), (.tup [(.str "a"), (.tup [(.int 0)])]), (.lst [(.int 3)]), d26]) fun d25 => ifS (fun k => S_law_plain c d24 fun d33 => walkD d33 fun ds32 => forS ds32 [] (fun d30 a28 n29 => unp2 d30 fun d34 d35 => ifS (fun k => S_law_alone c d35 d34 fun d36 => blS d36 fun t37 => k (!t37)) (n29 (a28 ++ [(.int 1)])) (n29 a28)) fun xs31 => cmpU .NotEq (.lst xs31) (.lst []) fun t27 => k t27) (K (.bl false)) (S_law_with_fields c d25 fun d44 => walkD d44 fun ds43 => forS ds43 () (fun d39 (s41 : Unit) n40 => unp3 d39 fun d52 d53 d54 => ifS (fun k => S_law_alone c d53 d52 fun d55 => blS d55 fun t56 => if (!t56) = true then k true else rprU [d54] fun d58 => rprU [d25] fun d59 => cmpU .NotEq d58 d59 fun t57 => k t57) (K (.bl false)) (n40 ())) fun s42 => ifS (fun k => S_law_marks c (.exc (c.err 0) []) fun d65 => binD .Mult (.lst [(.bl false)]) (.int 24) fun d66 => cmpU .NotEq d65 d66 fun t64 => if t64 = true then k true else isES 25 c none (.exc (c.err 0) []) fun t68 => blS (.bl t68) fun t69 => k (!t69)) (K (.bl false)) (n2 ()))) fun s4 => K (.bl true)
end K01

namespace K01
open PySem PySem.Spec L2 DL
section
variable {P : Program} {w : World} {K : PySem.W.Frag} {mg : Str → Option Value} {base : Heap} {dr : Option Dr} {x : Dr} {c : Cl}
abbrev N_law_pick : List Str := ["_law_draw", "_law_some"]
theorem sc_law_pick : FnScope N_law_pick ["_law_draw", "_law_some"] (defScope t_law_pick) := ⟨rfl, rfl, rfl, by decide +kernel, rfl, by decide +kernel, by decide +kernel⟩
theorem ok_law_pick {f : Addr} {fd : FuncData} (F : FunA K "_law_pick" "_law_pick" t_law_pick f fd) (h_law_take : Has P w K mg base (some x) 2 "_law_take" ["_law_draw", "_law_many"] (W_take x)) (m_len : mg "len" = none) : FnG P w K mg base CX0 4 f fd ["_law_draw", "_law_some"] (spD K (some x) (W_law_pick c x)) := by
  refine fnD F sc_law_pick (fun ds Q h => by obtain ⟨_, rfl, _⟩ := h; rfl) fun cdv A outer s H E an ds post hr gd hW => ?_
  obtain ⟨p_some, rfl, K0, hW, hi⟩ := hW
  have hu := hu65 hr
  have hu2 := hu66 hr
  refine wss_cons (ws_ret ?_)
  refine we_ixU hu ?_
  refine we_name (i := 1) rfl (.inl rfl) rfl ?_
  refine we_call h_law_take hr gd ?_
  refine wa_cons ?_
  refine we_name (i := 0) rfl (.inl rfl) rfl ?_
  refine wa_cons ?_
  refine we_blt cb_lenU m_len PySem.boot_len lenUF_mono ?_
  refine wa_cons ?_
  refine we_name (i := 1) rfl (.inl rfl) rfl ?_
  refine wa_nil ?_
  refine lenUF_mono _ _ _ (fun d3 hW => ?_) hW
  refine wa_nil ?_
  refine allV2 ?_
  refine take_link (x := x) hW fun d2 hW => ?_
  refine ixU_imp hW fun d1 hW => ?_
  exact hi _ hW
abbrev N_law_marks : List Str := ["_law_error", "_law_found"]
theorem sc_law_marks : FnScope N_law_marks ["_law_error"] (defScope t_law_marks) := ⟨rfl, rfl, rfl, by decide +kernel, rfl, by decide +kernel, by decide +kernel⟩
theorem ok_law_marks {f : Addr} {fd : FuncData} (F : FunA K "_law_marks" "_law_marks" t_law_marks f fd) (m_isinstance : mg "isinstance" = none) (hH : ErrHs K 25 c) (ec_BadShape : ErrC K mg 25 c "BadShape" (some 1)) (ec_BadName : ErrC K mg 25 c "BadName" (some 2)) (ec_BadCondition : ErrC K mg 25 c "BadCondition" (some 3)) (ec_BadRow : ErrC K mg 25 c "BadRow" (some 4)) (ec_BadAsking : ErrC K mg 25 c "BadAsking" (some 5)) (ec_BadChoice : ErrC K mg 25 c "BadChoice" (some 6)) (ec_BadBook : ErrC K mg 25 c "BadBook" (some 7)) (ec_NoPart : ErrC K mg 25 c "NoPart" (some 8)) (ec_BadTable : ErrC K mg 25 c "BadTable" (some 9)) (ec_BadPlan : ErrC K mg 25 c "BadPlan" (some 10)) (ec_BadBounds : ErrC K mg 25 c "BadBounds" (some 11)) (ec_BadZone : ErrC K mg 25 c "BadZone" (some 12)) (ec_OtherShape : ErrC K mg 25 c "OtherShape" (some 13)) (ec_BadGuard : ErrC K mg 25 c "BadGuard" (some 14)) (ec_BadTest : ErrC K mg 25 c "BadTest" (some 15)) (ec_BadPlans : ErrC K mg 25 c "BadPlans" (some 16)) (ec_TooMany : ErrC K mg 25 c "TooMany" (some 17)) (ec_Wrong : ErrC K mg 25 c "Wrong" (some 18)) (ec_Unfit : ErrC K mg 25 c "Unfit" (some 19)) (ec_NoPlan : ErrC K mg 25 c "NoPlan" (some 20)) (ec_NothingDone : ErrC K mg 25 c "NothingDone" (some 21)) (ec_BadJournal : ErrC K mg 25 c "BadJournal" (some 22)) (ec_BadText : ErrC K mg 25 c "BadText" (some 23)) (ec_BadLine : ErrC K mg 25 c "BadLine" (some 24)) : FnG P w K mg base CX0 4 f fd ["_law_error"] (spD K dr (W_law_marks c)) := by
  refine fnD F sc_law_marks (fun ds Q h => by obtain ⟨_, rfl, _⟩ := h; rfl) fun cdv A outer s H E an ds post hr gd hW => ?_
  obtain ⟨p_error, rfl, K0, hW, hi⟩ := hW
  have hu := hu65 hr
  have hu2 := hu66 hr
  refine wss_cons (ws_set (i := 1) sc_law_marks.nd rfl (.inl rfl) ?_)
  refine we_lst ?_
  refine wa_cons ?_
  refine we_isE m_isinstance hH ec_BadShape ?_
  refine we_name (i := 0) rfl (.inl rfl) rfl ?_
  refine isES_imp hW fun t2 hW => ?_
  refine wa_cons ?_
  refine we_isE m_isinstance hH ec_BadName ?_
  refine we_name (i := 0) rfl (.inl rfl) rfl ?_
  refine isES_imp hW fun t4 hW => ?_
  refine wa_cons ?_
  refine we_isE m_isinstance hH ec_BadCondition ?_
  refine we_name (i := 0) rfl (.inl rfl) rfl ?_
  refine isES_imp hW fun t6 hW => ?_
  refine wa_nil ?_
  refine ⟨small_le (by show 3 ≤ 1000; decide), ?_⟩
  refine wss_cons (ws_set (i := 1) sc_law_marks.nd rfl (.inl rfl) ?_)
  refine we_bin ?_
  refine we_name (i := 1) rfl (.inl rfl) rfl ?_
  refine we_lst ?_
  refine wa_cons ?_
  refine we_isE m_isinstance hH ec_BadRow ?_
  refine we_name (i := 0) rfl (.inl rfl) rfl ?_
  refine isES_imp hW fun t9 hW => ?_
  refine wa_cons ?_
  refine we_isE m_isinstance hH ec_BadAsking ?_
  refine we_name (i := 0) rfl (.inl rfl) rfl ?_
  refine isES_imp hW fun t11 hW => ?_
  refine wa_cons ?_
  refine we_isE m_isinstance hH ec_BadChoice ?_
  refine we_name (i := 0) rfl (.inl rfl) rfl ?_
  refine isES_imp hW fun t13 hW => ?_
  refine wa_nil ?_
  refine ⟨small_le (by show 3 ≤ 1000; decide), ?_⟩
  refine we_bin.binD_imp hW fun d7 hW => ?_
  refine wss_cons (ws_set (i := 1) sc_law_marks.nd rfl (.inl rfl) ?_)
  refine we_bin ?_
  refine we_name (i := 1) rfl (.inl rfl) rfl ?_
  refine we_lst ?_
  refine wa_cons ?_
  refine we_isE m_isinstance hH ec_BadBook ?_
  refine we_name (i := 0) rfl (.inl rfl) rfl ?_
  refine isES_imp hW fun t16 hW => ?_
  refine wa_cons ?_
  refine we_isE m_isinstance hH ec_NoPart ?_
  refine we_name (i := 0) rfl (.inl rfl) rfl ?_
  refine isES_imp hW fun t18 hW => ?_
  refine wa_cons ?_
  refine we_isE m_isinstance hH ec_BadTable ?_
  refine we_name (i := 0) rfl (.inl rfl) rfl ?_
  refine isES_imp hW fun t20 hW => ?_
  refine wa_nil ?_
  refine ⟨small_le (by show 3 ≤ 1000; decide), ?_⟩
  refine we_bin.binD_imp hW fun d14 hW => ?_
  refine wss_cons (ws_set (i := 1) sc_law_marks.nd rfl (.inl rfl) ?_)
  refine we_bin ?_
  refine we_name (i := 1) rfl (.inl rfl) rfl ?_
  refine we_lst ?_
  refine wa_cons ?_
  refine we_isE m_isinstance hH ec_BadPlan ?_
  refine we_name (i := 0) rfl (.inl rfl) rfl ?_
  refine isES_imp hW fun t23 hW => ?_
  refine wa_cons ?_
  refine we_isE m_isinstance hH ec_BadBounds ?_
  refine we_name (i := 0) rfl (.inl rfl) rfl ?_
  refine isES_imp hW fun t25 hW => ?_
  refine wa_cons ?_
  refine we_isE m_isinstance hH ec_BadZone ?_
  refine we_name (i := 0) rfl (.inl rfl) rfl ?_
  refine isES_imp hW fun t27 hW => ?_
  refine wa_nil ?_
  refine ⟨small_le (by show 3 ≤ 1000; decide), ?_⟩
  refine we_bin.binD_imp hW fun d21 hW => ?_
  refine wss_cons (ws_set (i := 1) sc_law_marks.nd rfl (.inl rfl) ?_)
  refine we_bin ?_
  refine we_name (i := 1) rfl (.inl rfl) rfl ?_
  refine we_lst ?_
  refine wa_cons ?_
  refine we_isE m_isinstance hH ec_OtherShape ?_
  refine we_name (i := 0) rfl (.inl rfl) rfl ?_
  refine isES_imp hW fun t30 hW => ?_
  refine wa_cons ?_
  refine we_isE m_isinstance hH ec_BadGuard ?_
  refine we_name (i := 0) rfl (.inl rfl) rfl ?_
  refine isES_imp hW fun t32 hW => ?_
  refine wa_cons ?_
  refine we_isE m_isinstance hH ec_BadTest ?_
  refine we_name (i := 0) rfl (.inl rfl) rfl ?_
  refine isES_imp hW fun t34 hW => ?_
  refine wa_nil ?_
  refine ⟨small_le (by show 3 ≤ 1000; decide), ?_⟩
  refine we_bin.binD_imp hW fun d28 hW => ?_
  refine wss_cons (ws_set (i := 1) sc_law_marks.nd rfl (.inl rfl) ?_)
  refine we_bin ?_
  refine we_name (i := 1) rfl (.inl rfl) rfl ?_
  refine we_lst ?_
  refine wa_cons ?_
  refine we_isE m_isinstance hH ec_BadPlans ?_
  refine we_name (i := 0) rfl (.inl rfl) rfl ?_
  refine isES_imp hW fun t37 hW => ?_
  refine wa_cons ?_
  refine we_isE m_isinstance hH ec_TooMany ?_
  refine we_name (i := 0) rfl (.inl rfl) rfl ?_
  refine isES_imp hW fun t39 hW => ?_
  refine wa_cons ?_
  refine we_isE m_isinstance hH ec_Wrong ?_
  refine we_name (i := 0) rfl (.inl rfl) rfl ?_
  refine isES_imp hW fun t41 hW => ?_
  refine wa_nil ?_
  refine ⟨small_le (by show 3 ≤ 1000; decide), ?_⟩
  refine we_bin.binD_imp hW fun d35 hW => ?_
  refine wss_cons (ws_set (i := 1) sc_law_marks.nd rfl (.inl rfl) ?_)
  refine we_bin ?_
  refine we_name (i := 1) rfl (.inl rfl) rfl ?_
  refine we_lst ?_
  refine wa_cons ?_
  refine we_isE m_isinstance hH ec_Unfit ?_
  refine we_name (i := 0) rfl (.inl rfl) rfl ?_
  refine isES_imp hW fun t44 hW => ?_
  refine wa_cons ?_
  refine we_isE m_isinstance hH ec_NoPlan ?_
  refine we_name (i := 0) rfl (.inl rfl) rfl ?_
  refine isES_imp hW fun t46 hW => ?_
  refine wa_cons ?_
  refine we_isE m_isinstance hH ec_NothingDone ?_
  refine we_name (i := 0) rfl (.inl rfl) rfl ?_
  refine isES_imp hW fun t48 hW => ?_
  refine wa_nil ?_
  refine ⟨small_le (by show 3 ≤ 1000; decide), ?_⟩
  refine we_bin.binD_imp hW fun d42 hW => ?_
  refine wss_cons (ws_ret ?_)
  refine we_bin ?_
  refine we_name (i := 1) rfl (.inl rfl) rfl ?_
  refine we_lst ?_
  refine wa_cons ?_
  refine we_isE m_isinstance hH ec_BadJournal ?_
  refine we_name (i := 0) rfl (.inl rfl) rfl ?_
  refine isES_imp hW fun t51 hW => ?_
  refine wa_cons ?_
  refine we_isE m_isinstance hH ec_BadText ?_
  refine we_name (i := 0) rfl (.inl rfl) rfl ?_
  refine isES_imp hW fun t53 hW => ?_
  refine wa_cons ?_
  refine we_isE m_isinstance hH ec_BadLine ?_
  refine we_name (i := 0) rfl (.inl rfl) rfl ?_
  refine isES_imp hW fun t55 hW => ?_
  refine wa_nil ?_
  refine ⟨small_le (by show 3 ≤ 1000; decide), ?_⟩
  refine we_bin.binD_imp hW fun d49 hW => ?_
  exact hi _ hW
abbrev N_law_alone : List Str := ["_law_error", "_law_place", "_law_due", "_law_k"]
theorem sc_law_alone : FnScope N_law_alone ["_law_error", "_law_place"] (defScope t_law_alone) := ⟨rfl, rfl, rfl, by decide +kernel, rfl, by decide +kernel, by decide +kernel⟩
theorem ok_law_alone {f : Addr} {fd : FuncData} (F : FunA K "_law_alone" "_law_alone" t_law_alone f fd) (m_range : mg "range" = none) (h_law_marks : Has P w K mg base dr 4 "_law_marks" ["_law_error"] (W_law_marks c)) (m_isinstance : mg "isinstance" = none) (hH : ErrHs K 25 c) (ec_WorthError : ErrC K mg 25 c "WorthError" none) (ev : ErrV K mg 25 c) : FnG P w K mg base CX0 6 f fd ["_law_error", "_law_place"] (spD K dr (W_law_alone c)) := by
  refine fnD F sc_law_alone (fun ds Q h => by obtain ⟨_, _, rfl, _⟩ := h; rfl) fun cdv A outer s H E an ds post hr gd hW => ?_
  obtain ⟨p_error, p_place, rfl, K0, hW, hi⟩ := hW
  have hu := hu65 hr
  have hu2 := hu66 hr
  refine wss_cons (ws_setLc (i := 2) rfl sc_law_alone.nd rfl rfl rfl [("_law_k", 3)] (blkOk_by (N := N_law_alone) (sc := defScope t_law_alone) (by decide +kernel)) (fun _ _ _ _ _ => wg_name (i := 3) sc_law_alone.nd rfl (.inl rfl)) (by decide) (sw_true rfl rfl rfl (by decide +kernel)) ?_)
  refine wi_rangeU m_range ?_
  refine we_int ?_
  refine rngS_imp hW fun ds5 hW => ?_
  refine lc_link hW (fun d3 a1 n2 hW => ?_) (fun xs4 hW => ?_)
  · refine fN_link ?_
    refine fun s H C cl fp => ?_
    refine we_cmpU hu ?_
    refine we_name (i := 3) rfl (.inl rfl) rfl ?_
    refine we_name (i := 1) rfl (.inr (.inl rfl)) rfl ?_
    refine cmpU_imp hW fun t7 hW => ?_
    exact ⟨rfl, ⟨_, rfl⟩, hW⟩
  · refine wss_cons (ws_ret ?_)
    refine we_and ?_
    refine we_cmpU hu ?_
    refine we_call h_law_marks hr gd ?_
    refine wa_cons ?_
    refine we_name (i := 0) rfl (.inl rfl) rfl ?_
    refine wa_nil ?_
    refine allV1 ?_
    refine to_law_marks hW fun d9 hW => ?_
    refine we_name (i := 2) rfl (.inl rfl) rfl ?_
    refine cmpU_imp hW fun t8 hW => ?_
    refine blS_link hW fun t10 hW => ?_
    refine ifE2 hW (fun hW => ?_) (fun hW => ?_)
    · refine we_and ?_
      refine we_isE m_isinstance hH ec_WorthError ?_
      refine we_name (i := 0) rfl (.inl rfl) rfl ?_
      refine isES_imp hW fun t12 hW => ?_
      refine blS_link hW fun t13 hW => ?_
      refine ifE2 hW (fun hW => ?_) (fun hW => ?_)
      · refine we_and1 ?_
        refine we_isVE m_isinstance hH ev ?_
        refine we_name (i := 0) rfl (.inl rfl) rfl ?_
        refine isES_imp hW fun t15 hW => ?_
        exact hi _ hW
      · exact hi _ hW
    · exact hi _ hW
abbrev N_law_plain : List Str := ["_law_page", "_law_found"]
theorem sc_law_plain : FnScope N_law_plain ["_law_page"] (defScope t_law_plain) := ⟨rfl, rfl, rfl, by decide +kernel, rfl, by decide +kernel, by decide +kernel⟩
theorem ok_law_plain {f : Addr} {fd : FuncData} (F : FunA K "_law_plain" "_law_plain" t_law_plain f fd) (e_BadShape : ErrM K mg "BadShape" (c.err 1)) (e_BadName : ErrM K mg "BadName" (c.err 2)) (e_BadCondition : ErrM K mg "BadCondition" (c.err 3)) (e_BadRow : ErrM K mg "BadRow" (c.err 4)) (e_BadAsking : ErrM K mg "BadAsking" (c.err 5)) (e_BadChoice : ErrM K mg "BadChoice" (c.err 6)) (e_BadPlan : ErrM K mg "BadPlan" (c.err 10)) (e_OtherShape : ErrM K mg "OtherShape" (c.err 13)) (e_BadGuard : ErrM K mg "BadGuard" (c.err 14)) (e_NoPlan : ErrM K mg "NoPlan" (c.err 20)) (e_NothingDone : ErrM K mg "NothingDone" (c.err 21)) : FnG P w K mg base CX0 4 f fd ["_law_page"] (spD K dr (W_law_plain c)) := by
  refine fnD F sc_law_plain (fun ds Q h => by obtain ⟨_, rfl, _⟩ := h; rfl) fun cdv A outer s H E an ds post hr gd hW => ?_
  obtain ⟨p_page, rfl, K0, hW, hi⟩ := hW
  have hu := hu65 hr
  have hu2 := hu66 hr
  refine wss_cons (ws_set (i := 1) sc_law_plain.nd rfl (.inl rfl) ?_)
  refine we_lst ?_
  refine wa_cons ?_
  refine we_tup ?_
  refine wa_cons ?_
  refine we_int ?_
  refine wa_cons ?_
  refine we_err1 e_BadShape ?_
  refine wa_cons ?_
  refine we_name (i := 0) rfl (.inl rfl) rfl ?_
  refine wa_nil ?_
  refine allV1 ?_
  refine ⟨_, rfl, ?_⟩
  refine wa_nil ?_
  refine ⟨small_le (by show 2 ≤ 1000; decide), ?_⟩
  refine wa_cons ?_
  refine we_tup ?_
  refine wa_cons ?_
  refine we_int ?_
  refine wa_cons ?_
  refine we_err1 e_BadName ?_
  refine wa_cons ?_
  refine we_name (i := 0) rfl (.inl rfl) rfl ?_
  refine wa_nil ?_
  refine allV1 ?_
  refine ⟨_, rfl, ?_⟩
  refine wa_nil ?_
  refine ⟨small_le (by show 2 ≤ 1000; decide), ?_⟩
  refine wa_cons ?_
  refine we_tup ?_
  refine wa_cons ?_
  refine we_int ?_
  refine wa_cons ?_
  refine we_err1 e_BadCondition ?_
  refine wa_cons ?_
  refine we_name (i := 0) rfl (.inl rfl) rfl ?_
  refine wa_nil ?_
  refine allV1 ?_
  refine ⟨_, rfl, ?_⟩
  refine wa_nil ?_
  refine ⟨small_le (by show 2 ≤ 1000; decide), ?_⟩
  refine wa_cons ?_
  refine we_tup ?_
  refine wa_cons ?_
  refine we_int ?_
  refine wa_cons ?_
  refine we_err1 e_BadRow ?_
  refine wa_cons ?_
  refine we_name (i := 0) rfl (.inl rfl) rfl ?_
  refine wa_nil ?_
  refine allV1 ?_
  refine ⟨_, rfl, ?_⟩
  refine wa_nil ?_
  refine ⟨small_le (by show 2 ≤ 1000; decide), ?_⟩
  refine wa_cons ?_
  refine we_tup ?_
  refine wa_cons ?_
  refine we_int ?_
  refine wa_cons ?_
  refine we_err1 e_BadAsking ?_
  refine wa_cons ?_
  refine we_name (i := 0) rfl (.inl rfl) rfl ?_
  refine wa_nil ?_
  refine allV1 ?_
  refine ⟨_, rfl, ?_⟩
  refine wa_nil ?_
  refine ⟨small_le (by show 2 ≤ 1000; decide), ?_⟩
  refine wa_nil ?_
  refine ⟨small_le (by show 5 ≤ 1000; decide), ?_⟩
  refine wss_cons (ws_set (i := 1) sc_law_plain.nd rfl (.inl rfl) ?_)
  refine we_bin ?_
  refine we_name (i := 1) rfl (.inl rfl) rfl ?_
  refine we_lst ?_
  refine wa_cons ?_
  refine we_tup ?_
  refine wa_cons ?_
  refine we_int ?_
  refine wa_cons ?_
  refine we_err1 e_BadChoice ?_
  refine wa_cons ?_
  refine we_name (i := 0) rfl (.inl rfl) rfl ?_
  refine wa_nil ?_
  refine allV1 ?_
  refine ⟨_, rfl, ?_⟩
  refine wa_nil ?_
  refine ⟨small_le (by show 2 ≤ 1000; decide), ?_⟩
  refine wa_cons ?_
  refine we_tup ?_
  refine wa_cons ?_
  refine we_int ?_
  refine wa_cons ?_
  refine we_err1 e_BadPlan ?_
  refine wa_cons ?_
  refine we_name (i := 0) rfl (.inl rfl) rfl ?_
  refine wa_nil ?_
  refine allV1 ?_
  refine ⟨_, rfl, ?_⟩
  refine wa_nil ?_
  refine ⟨small_le (by show 2 ≤ 1000; decide), ?_⟩
  refine wa_cons ?_
  refine we_tup ?_
  refine wa_cons ?_
  refine we_int ?_
  refine wa_cons ?_
  refine we_err1 e_OtherShape ?_
  refine wa_cons ?_
  refine we_name (i := 0) rfl (.inl rfl) rfl ?_
  refine wa_nil ?_
  refine allV1 ?_
  refine ⟨_, rfl, ?_⟩
  refine wa_nil ?_
  refine ⟨small_le (by show 2 ≤ 1000; decide), ?_⟩
  refine wa_cons ?_
  refine we_tup ?_
  refine wa_cons ?_
  refine we_int ?_
  refine wa_cons ?_
  refine we_err1 e_BadGuard ?_
  refine wa_cons ?_
  refine we_name (i := 0) rfl (.inl rfl) rfl ?_
  refine wa_nil ?_
  refine allV1 ?_
  refine ⟨_, rfl, ?_⟩
  refine wa_nil ?_
  refine ⟨small_le (by show 2 ≤ 1000; decide), ?_⟩
  refine wa_nil ?_
  refine ⟨small_le (by show 4 ≤ 1000; decide), ?_⟩
  refine we_bin.binD_imp hW fun d6 hW => ?_
  refine wss_cons (ws_ret ?_)
  refine we_bin ?_
  refine we_name (i := 1) rfl (.inl rfl) rfl ?_
  refine we_lst ?_
  refine wa_cons ?_
  refine we_tup ?_
  refine wa_cons ?_
  refine we_int ?_
  refine wa_cons ?_
  refine we_err1 e_NoPlan ?_
  refine wa_cons ?_
  refine we_name (i := 0) rfl (.inl rfl) rfl ?_
  refine wa_nil ?_
  refine allV1 ?_
  refine ⟨_, rfl, ?_⟩
  refine wa_nil ?_
  refine ⟨small_le (by show 2 ≤ 1000; decide), ?_⟩
  refine wa_cons ?_
  refine we_tup ?_
  refine wa_cons ?_
  refine we_int ?_
  refine wa_cons ?_
  refine we_err1 e_NothingDone ?_
  refine wa_cons ?_
  refine we_name (i := 0) rfl (.inl rfl) rfl ?_
  refine wa_nil ?_
  refine allV1 ?_
  refine ⟨_, rfl, ?_⟩
  refine wa_nil ?_
  refine ⟨small_le (by show 2 ≤ 1000; decide), ?_⟩
  refine wa_nil ?_
  refine ⟨small_le (by show 2 ≤ 1000; decide), ?_⟩
  refine we_bin.binD_imp hW fun d11 hW => ?_
  exact hi _ hW
abbrev N_law_with_fields : List Str := ["_law_item", "_law_some", "_law_found", "_law_places", "_law_k", "_law_error"]
theorem sc_law_with_fields : FnScope N_law_with_fields ["_law_item"] (defScope t_law_with_fields) := ⟨rfl, rfl, rfl, by decide +kernel, rfl, by decide +kernel, by decide +kernel⟩
theorem ok_law_with_fields {f : Addr} {fd : FuncData} (F : FunA K "_law_with_fields" "_law_with_fields" t_law_with_fields f fd) (e_BadBook : ErrA P K mg "BadBook" "part" (c.err 7)) (e_NoPart : ErrA P K mg "NoPart" "part" (c.err 8)) (e_BadTable : ErrA P K mg "BadTable" "part" (c.err 9)) (m_enumerate : mg "enumerate" = none) (hH : ErrHs K 25 c) (hf_part : ∀ m, m < 25 → PySem.W.findIn K (.ref (c.err m)) "part" = some none) (e_BadBounds : ErrA P K mg "BadBounds" "at" (c.err 11)) (e_BadZone : ErrA P K mg "BadZone" "at" (c.err 12)) (e_BadTest : ErrA P K mg "BadTest" "at" (c.err 15)) (e_BadPlans : ErrA P K mg "BadPlans" "at" (c.err 16)) (e_Unfit : ErrA P K mg "Unfit" "at" (c.err 19)) (e_BadJournal : ErrA P K mg "BadJournal" "at" (c.err 22)) (e_BadText : ErrA P K mg "BadText" "at" (c.err 23)) (hf_at : ∀ m, m < 25 → PySem.W.findIn K (.ref (c.err m)) "at" = some none) (e_TooMany : ErrA P K mg "TooMany" "most" (c.err 17)) (hf_most : ∀ m, m < 25 → PySem.W.findIn K (.ref (c.err m)) "most" = some none) (e_Wrong : ErrA P K mg "Wrong" "shown" (c.err 18)) (hf_shown : ∀ m, m < 25 → PySem.W.findIn K (.ref (c.err m)) "shown" = some none) (e_BadLine : ErrA P K mg "BadLine" "row" (c.err 24)) (hf_row : ∀ m, m < 25 → PySem.W.findIn K (.ref (c.err m)) "row" = some none) : FnG P w K mg base CX0 4 f fd ["_law_item"] (spD K dr (W_law_with_fields c)) := by
  refine fnD F sc_law_with_fields (fun ds Q h => by obtain ⟨_, rfl, _⟩ := h; rfl) fun cdv A outer s H E an ds post hr gd hW => ?_
  obtain ⟨p_item, rfl, K0, hW, hi⟩ := hW
  have hu := hu65 hr
  have hu2 := hu66 hr
  refine wss_cons (ws_set (i := 1) sc_law_with_fields.nd rfl (.inl rfl) ?_)
  refine we_lst ?_
  refine wa_cons ?_
  refine we_errF e_BadBook hr ?_
  refine wa_cons ?_
  refine we_name (i := 0) rfl (.inl rfl) rfl ?_
  refine wa_nil ?_
  refine allV1 ?_
  refine ⟨_, rfl, ?_⟩
  refine wa_cons ?_
  refine we_errK e_BadBook DX.fldK_part hr ?_
  refine wk_cons ?_
  refine we_name (i := 0) rfl (.inl rfl) rfl ?_
  refine wk_nil ?_
  refine allV1 ?_
  refine ⟨_, rfl, ?_⟩
  refine wa_cons ?_
  refine we_errF e_NoPart hr ?_
  refine wa_cons ?_
  refine we_name (i := 0) rfl (.inl rfl) rfl ?_
  refine wa_nil ?_
  refine allV1 ?_
  refine ⟨_, rfl, ?_⟩
  refine wa_cons ?_
  refine we_errK e_NoPart DX.fldK_part hr ?_
  refine wk_cons ?_
  refine we_name (i := 0) rfl (.inl rfl) rfl ?_
  refine wk_nil ?_
  refine allV1 ?_
  refine ⟨_, rfl, ?_⟩
  refine wa_cons ?_
  refine we_errF e_BadTable hr ?_
  refine wa_cons ?_
  refine we_name (i := 0) rfl (.inl rfl) rfl ?_
  refine wa_nil ?_
  refine allV1 ?_
  refine ⟨_, rfl, ?_⟩
  refine wa_cons ?_
  refine we_errK e_BadTable DX.fldK_part hr ?_
  refine wk_cons ?_
  refine we_name (i := 0) rfl (.inl rfl) rfl ?_
  refine wk_nil ?_
  refine allV1 ?_
  refine ⟨_, rfl, ?_⟩
  refine wa_nil ?_
  refine ⟨small_le (by show 6 ≤ 1000; decide), ?_⟩
  refine wss_cons (ws_setLc (i := 2) rfl sc_law_with_fields.nd rfl rfl rfl [("_law_k", 4), ("_law_error", 5)] (blkOk_by (N := N_law_with_fields) (sc := defScope t_law_with_fields) (by decide +kernel)) (fun _ _ _ _ _ => wg_tup (n := 2) rfl (wgs_cons (wg_name (i := 4) sc_law_with_fields.nd rfl (.inl rfl)) (wgs_cons (wg_name (i := 5) sc_law_with_fields.nd rfl (.inl rfl)) (wgs_nil)))) (by decide) (sw_true rfl rfl rfl (by decide +kernel)) ?_)
  refine wi_enumU m_enumerate ?_
  refine we_name (i := 1) rfl (.inl rfl) rfl ?_
  refine enumS_imp hW fun ds11 hW => ?_
  refine lc_link hW (fun d9 a7 n8 hW => ?_) (fun xs10 hW => ?_)
  · refine unp2_link hW fun d12 d13 hW => ?_
    refine fN_link ?_
    refine fN_link ?_
    refine fun s H C cl fp => ?_
    refine we_tup ?_
    refine wa_cons ?_
    refine we_bin ?_
    refine we_int ?_
    refine we_bin ?_
    refine we_name (i := 4) rfl (.inl rfl) rfl ?_
    refine we_int ?_
    refine we_bin.binD_imp hW fun d16 hW => ?_
    refine we_bin.binD_imp hW fun d15 hW => ?_
    refine wa_cons ?_
    refine we_name (i := 5) rfl (.inl rfl) rfl ?_
    refine wa_cons ?_
    refine we_fldE hH hf_part ?_
    refine we_name (i := 5) rfl (.inl rfl) rfl ?_
    refine fldE_imp hW fun d17 hW => ?_
    refine wa_nil ?_
    refine ⟨small_le (by show 3 ≤ 1000; decide), ?_⟩
    exact ⟨rfl, ⟨_, rfl⟩, hW⟩
  · refine wss_cons (ws_set (i := 1) sc_law_with_fields.nd rfl (.inl rfl) ?_)
    refine we_lst ?_
    refine wa_cons ?_
    refine we_errF e_BadBounds hr ?_
    refine wa_cons ?_
    refine we_name (i := 0) rfl (.inl rfl) rfl ?_
    refine wa_nil ?_
    refine allV1 ?_
    refine ⟨_, rfl, ?_⟩
    refine wa_cons ?_
    refine we_errK e_BadBounds DX.fldK_at hr ?_
    refine wk_cons ?_
    refine we_name (i := 0) rfl (.inl rfl) rfl ?_
    refine wk_nil ?_
    refine allV1 ?_
    refine ⟨_, rfl, ?_⟩
    refine wa_cons ?_
    refine we_errF e_BadZone hr ?_
    refine wa_cons ?_
    refine we_name (i := 0) rfl (.inl rfl) rfl ?_
    refine wa_nil ?_
    refine allV1 ?_
    refine ⟨_, rfl, ?_⟩
    refine wa_cons ?_
    refine we_errK e_BadZone DX.fldK_at hr ?_
    refine wk_cons ?_
    refine we_name (i := 0) rfl (.inl rfl) rfl ?_
    refine wk_nil ?_
    refine allV1 ?_
    refine ⟨_, rfl, ?_⟩
    refine wa_cons ?_
    refine we_errF e_BadTest hr ?_
    refine wa_cons ?_
    refine we_name (i := 0) rfl (.inl rfl) rfl ?_
    refine wa_nil ?_
    refine allV1 ?_
    refine ⟨_, rfl, ?_⟩
    refine wa_cons ?_
    refine we_errK e_BadTest DX.fldK_at hr ?_
    refine wk_cons ?_
    refine we_name (i := 0) rfl (.inl rfl) rfl ?_
    refine wk_nil ?_
    refine allV1 ?_
    refine ⟨_, rfl, ?_⟩
    refine wa_nil ?_
    refine ⟨small_le (by show 6 ≤ 1000; decide), ?_⟩
    refine wss_cons (ws_set (i := 1) sc_law_with_fields.nd rfl (.inl rfl) ?_)
    refine we_bin ?_
    refine we_name (i := 1) rfl (.inl rfl) rfl ?_
    refine we_lst ?_
    refine wa_cons ?_
    refine we_errF e_BadPlans hr ?_
    refine wa_cons ?_
    refine we_name (i := 0) rfl (.inl rfl) rfl ?_
    refine wa_nil ?_
    refine allV1 ?_
    refine ⟨_, rfl, ?_⟩
    refine wa_cons ?_
    refine we_errK e_BadPlans DX.fldK_at hr ?_
    refine wk_cons ?_
    refine we_name (i := 0) rfl (.inl rfl) rfl ?_
    refine wk_nil ?_
    refine allV1 ?_
    refine ⟨_, rfl, ?_⟩
    refine wa_cons ?_
    refine we_errF e_Unfit hr ?_
    refine wa_cons ?_
    refine we_name (i := 0) rfl (.inl rfl) rfl ?_
    refine wa_nil ?_
    refine allV1 ?_
    refine ⟨_, rfl, ?_⟩
    refine wa_cons ?_
    refine we_errK e_Unfit DX.fldK_at hr ?_
    refine wk_cons ?_
    refine we_name (i := 0) rfl (.inl rfl) rfl ?_
    refine wk_nil ?_
    refine allV1 ?_
    refine ⟨_, rfl, ?_⟩
    refine wa_nil ?_
    refine ⟨small_le (by show 4 ≤ 1000; decide), ?_⟩
    refine we_bin.binD_imp hW fun d24 hW => ?_
    refine wss_cons (ws_set (i := 1) sc_law_with_fields.nd rfl (.inl rfl) ?_)
    refine we_bin ?_
    refine we_name (i := 1) rfl (.inl rfl) rfl ?_
    refine we_lst ?_
    refine wa_cons ?_
    refine we_errF e_BadJournal hr ?_
    refine wa_cons ?_
    refine we_name (i := 0) rfl (.inl rfl) rfl ?_
    refine wa_nil ?_
    refine allV1 ?_
    refine ⟨_, rfl, ?_⟩
    refine wa_cons ?_
    refine we_errK e_BadJournal DX.fldK_at hr ?_
    refine wk_cons ?_
    refine we_name (i := 0) rfl (.inl rfl) rfl ?_
    refine wk_nil ?_
    refine allV1 ?_
    refine ⟨_, rfl, ?_⟩
    refine wa_cons ?_
    refine we_errF e_BadText hr ?_
    refine wa_cons ?_
    refine we_name (i := 0) rfl (.inl rfl) rfl ?_
    refine wa_nil ?_
    refine allV1 ?_
    refine ⟨_, rfl, ?_⟩
    refine wa_cons ?_
    refine we_errK e_BadText DX.fldK_at hr ?_
    refine wk_cons ?_
    refine we_name (i := 0) rfl (.inl rfl) rfl ?_
    refine wk_nil ?_
    refine allV1 ?_
    refine ⟨_, rfl, ?_⟩
    refine wa_nil ?_
    refine ⟨small_le (by show 4 ≤ 1000; decide), ?_⟩
    refine we_bin.binD_imp hW fun d29 hW => ?_
    refine wss_cons (ws_set (i := 3) sc_law_with_fields.nd rfl (.inr rfl) ?_)
    refine we_lst ?_
    refine wa_cons ?_
    refine we_int ?_
    refine wa_cons ?_
    refine we_int ?_
    refine wa_cons ?_
    refine we_int ?_
    refine wa_cons ?_
    refine we_int ?_
    refine wa_cons ?_
    refine we_int ?_
    refine wa_cons ?_
    refine we_int ?_
    refine wa_cons ?_
    refine we_int ?_
    refine wa_nil ?_
    refine ⟨small_le (by show 7 ≤ 1000; decide), ?_⟩
    refine wss_cons (ws_set (i := 2) sc_law_with_fields.nd rfl (.inl rfl) ?_)
    refine we_bin ?_
    refine we_name (i := 2) rfl (.inl rfl) rfl ?_
    refine we_lc rfl sc_law_with_fields.nd rfl [("_law_k", 4), ("_law_error", 5)] (blkOk_by (N := N_law_with_fields) (sc := defScope t_law_with_fields) (by decide +kernel)) (fun _ _ _ _ _ => wg_tup (n := 2) rfl (wgs_cons (wg_name (i := 4) sc_law_with_fields.nd rfl (.inl rfl)) (wgs_cons (wg_name (i := 5) sc_law_with_fields.nd rfl (.inl rfl)) (wgs_nil)))) (by decide) ?_
    refine wi_enumU m_enumerate ?_
    refine we_name (i := 1) rfl (.inl rfl) rfl ?_
    refine enumS_imp hW fun ds39 hW => ?_
    refine lc_link hW (fun d37 a35 n36 hW => ?_) (fun xs38 hW => ?_)
    · refine unp2_link hW fun d40 d41 hW => ?_
      refine fN_link ?_
      refine fN_link ?_
      refine fun s H C cl fp => ?_
      refine we_tup ?_
      refine wa_cons ?_
      refine we_ixU hu ?_
      refine we_name (i := 3) rfl (.inr (.inl rfl)) rfl ?_
      refine we_bin ?_
      refine we_name (i := 4) rfl (.inl rfl) rfl ?_
      refine we_int ?_
      refine we_bin.binD_imp hW fun d44 hW => ?_
      refine ixU_imp hW fun d43 hW => ?_
      refine wa_cons ?_
      refine we_name (i := 5) rfl (.inl rfl) rfl ?_
      refine wa_cons ?_
      refine we_fldE hH hf_at ?_
      refine we_name (i := 5) rfl (.inl rfl) rfl ?_
      refine fldE_imp hW fun d45 hW => ?_
      refine wa_nil ?_
      refine ⟨small_le (by show 3 ≤ 1000; decide), ?_⟩
      exact ⟨rfl, ⟨_, rfl⟩, hW⟩
    · refine we_bin.binD_imp hW fun d34 hW => ?_
      refine wss_cons (ws_set (i := 2) sc_law_with_fields.nd rfl (.inl rfl) ?_)
      refine we_bin ?_
      refine we_name (i := 2) rfl (.inl rfl) rfl ?_
      refine we_lc rfl sc_law_with_fields.nd rfl [("_law_error", 5)] (blkOk_by (N := N_law_with_fields) (sc := defScope t_law_with_fields) (by decide +kernel)) (fun _ _ _ _ _ => wg_name (i := 5) sc_law_with_fields.nd rfl (.inl rfl)) (by decide) ?_
      refine wi_seq ?_
      refine we_lst ?_
      refine wa_cons ?_
      refine we_errF e_TooMany hr ?_
      refine wa_cons ?_
      refine we_name (i := 0) rfl (.inl rfl) rfl ?_
      refine wa_nil ?_
      refine allV1 ?_
      refine ⟨_, rfl, ?_⟩
      refine wa_cons ?_
      refine we_errK e_TooMany DX.fldK_most hr ?_
      refine wk_cons ?_
      refine we_name (i := 0) rfl (.inl rfl) rfl ?_
      refine wk_nil ?_
      refine allV1 ?_
      refine ⟨_, rfl, ?_⟩
      refine wa_nil ?_
      refine ⟨small_le (by show 2 ≤ 1000; decide), ?_⟩
      refine walkV hW fun ds51 hW => ?_
      refine lc_link hW (fun d49 a47 n48 hW => ?_) (fun xs50 hW => ?_)
      · refine fN_link ?_
        refine fun s H C cl fp => ?_
        refine we_tup ?_
        refine wa_cons ?_
        refine we_int ?_
        refine wa_cons ?_
        refine we_name (i := 5) rfl (.inl rfl) rfl ?_
        refine wa_cons ?_
        refine we_fldE hH hf_most ?_
        refine we_name (i := 5) rfl (.inl rfl) rfl ?_
        refine fldE_imp hW fun d55 hW => ?_
        refine wa_nil ?_
        refine ⟨small_le (by show 3 ≤ 1000; decide), ?_⟩
        exact ⟨rfl, ⟨_, rfl⟩, hW⟩
      · refine we_bin.binD_imp hW fun d46 hW => ?_
        refine wss_cons (ws_set (i := 2) sc_law_with_fields.nd rfl (.inl rfl) ?_)
        refine we_bin ?_
        refine we_name (i := 2) rfl (.inl rfl) rfl ?_
        refine we_lc rfl sc_law_with_fields.nd rfl [("_law_error", 5)] (blkOk_by (N := N_law_with_fields) (sc := defScope t_law_with_fields) (by decide +kernel)) (fun _ _ _ _ _ => wg_name (i := 5) sc_law_with_fields.nd rfl (.inl rfl)) (by decide) ?_
        refine wi_seq ?_
        refine we_lst ?_
        refine wa_cons ?_
        refine we_errF e_Wrong hr ?_
        refine wa_cons ?_
        refine we_name (i := 0) rfl (.inl rfl) rfl ?_
        refine wa_nil ?_
        refine allV1 ?_
        refine ⟨_, rfl, ?_⟩
        refine wa_cons ?_
        refine we_errK e_Wrong DX.fldK_shown hr ?_
        refine wk_cons ?_
        refine we_name (i := 0) rfl (.inl rfl) rfl ?_
        refine wk_nil ?_
        refine allV1 ?_
        refine ⟨_, rfl, ?_⟩
        refine wa_nil ?_
        refine ⟨small_le (by show 2 ≤ 1000; decide), ?_⟩
        refine walkV hW fun ds61 hW => ?_
        refine lc_link hW (fun d59 a57 n58 hW => ?_) (fun xs60 hW => ?_)
        · refine fN_link ?_
          refine fun s H C cl fp => ?_
          refine we_tup ?_
          refine wa_cons ?_
          refine we_int ?_
          refine wa_cons ?_
          refine we_name (i := 5) rfl (.inl rfl) rfl ?_
          refine wa_cons ?_
          refine we_fldE hH hf_shown ?_
          refine we_name (i := 5) rfl (.inl rfl) rfl ?_
          refine fldE_imp hW fun d65 hW => ?_
          refine wa_nil ?_
          refine ⟨small_le (by show 3 ≤ 1000; decide), ?_⟩
          exact ⟨rfl, ⟨_, rfl⟩, hW⟩
        · refine we_bin.binD_imp hW fun d56 hW => ?_
          refine wss_cons (ws_ret ?_)
          refine we_bin ?_
          refine we_name (i := 2) rfl (.inl rfl) rfl ?_
          refine we_lc rfl sc_law_with_fields.nd rfl [("_law_error", 5)] (blkOk_by (N := N_law_with_fields) (sc := defScope t_law_with_fields) (by decide +kernel)) (fun _ _ _ _ _ => wg_name (i := 5) sc_law_with_fields.nd rfl (.inl rfl)) (by decide) ?_
          refine wi_seq ?_
          refine we_lst ?_
          refine wa_cons ?_
          refine we_errF e_BadLine hr ?_
          refine wa_cons ?_
          refine we_name (i := 0) rfl (.inl rfl) rfl ?_
          refine wa_nil ?_
          refine allV1 ?_
          refine ⟨_, rfl, ?_⟩
          refine wa_cons ?_
          refine we_errK e_BadLine DX.fldK_row hr ?_
          refine wk_cons ?_
          refine we_name (i := 0) rfl (.inl rfl) rfl ?_
          refine wk_nil ?_
          refine allV1 ?_
          refine ⟨_, rfl, ?_⟩
          refine wa_nil ?_
          refine ⟨small_le (by show 2 ≤ 1000; decide), ?_⟩
          refine walkV hW fun ds71 hW => ?_
          refine lc_link hW (fun d69 a67 n68 hW => ?_) (fun xs70 hW => ?_)
          · refine fN_link ?_
            refine fun s H C cl fp => ?_
            refine we_tup ?_
            refine wa_cons ?_
            refine we_int ?_
            refine wa_cons ?_
            refine we_name (i := 5) rfl (.inl rfl) rfl ?_
            refine wa_cons ?_
            refine we_fldE hH hf_row ?_
            refine we_name (i := 5) rfl (.inl rfl) rfl ?_
            refine fldE_imp hW fun d75 hW => ?_
            refine wa_nil ?_
            refine ⟨small_le (by show 3 ≤ 1000; decide), ?_⟩
            exact ⟨rfl, ⟨_, rfl⟩, hW⟩
          · refine we_bin.binD_imp hW fun d66 hW => ?_
            exact hi _ hW
abbrev N_law : List Str := ["_law_script", "_law_draw", "_law_turn", "_law_page", "_law_item", "_law_place", "_law_error", "_law_field", "_law_ground"]
theorem sc_law : FnScope N_law ["_law_script"] (defScope t_law) := ⟨rfl, rfl, rfl, by decide +kernel, rfl, by decide +kernel, by decide +kernel⟩
theorem ok_law {f : Addr} {fd : FuncData} (F : FunA K "law" "law" t_law f fd) (m_range : mg "range" = none) (m_min : mg "min" = none) (m_len : mg "len" = none) (m_repr : mg "repr" = none) (hsys : ∃ o, base.get? sysModules = some o) (e_WorthError : ErrM K mg "WorthError" (c.err 0)) (m_isinstance : mg "isinstance" = none) (hH : ErrHs K 25 c) (ev : ErrV K mg 25 c) (hB : HasB P w K mg base 7 "_law_begin" ["_law_script"]) (hx : ∀ x : Dr, x.c ≠ x.g → x.cs.length ≤ sizeLine → (Has P w K mg base (some x) 4 "_law_pick" ["_law_draw", "_law_some"] (W_law_pick c x)) ∧ (Has P w K mg base (some x) 4 "_law_plain" ["_law_page"] (W_law_plain c)) ∧ (Has P w K mg base (some x) 6 "_law_alone" ["_law_error", "_law_place"] (W_law_alone c)) ∧ (Has P w K mg base (some x) 4 "_law_with_fields" ["_law_item"] (W_law_with_fields c)) ∧ (Has P w K mg base (some x) 4 "_law_marks" ["_law_error"] (W_law_marks c)) ∧ True) (hlaw : ∀ n : Nat, n ≤ 63 → S_law c n fun d => d = .bl true) : FnG P w K mg base CX0 8 f fd ["_law_script"] (spLaw [] K) := by
  refine law_by [] F sc_law hB rfl rfl rfl (.inl rfl) (.inl rfl) rfl (by decide) (by decide) (by decide) fun cdv A outer s H E a ns x hr gd hS hlen hof hgc hz hT => ?_
  replace hS := sqL_strip hS
  replace hof := off_strip hof
  have hu := hu65 hr
  have hu2 := hu66 hr
  obtain ⟨h_law_pick, h_law_plain, h_law_alone, h_law_with_fields, h_law_marks, _⟩ := hx x hgc hz
  have hW := hlaw ns.length hlen
  generalize hn : ns.length = n at hW
  subst hn
  refine wss_cons (ws_for PassesOwn.never rfl (wg_name (i := 2) sc_law.nd rfl (.inl rfl)) ?_)
  refine wi_rangeU m_range ?_
  refine we_bin ?_
  refine we_int ?_
  refine we_blt (cb_min rfl) m_min PyProof.Rows.boot_min minF_mono ?_
  refine wa_cons ?_
  refine we_lenScr hS hof m_len ?_
  refine we_name (i := 0) rfl (.inl rfl) rfl ?_
  refine ⟨rfl, ?_⟩
  refine wa_cons ?_
  refine we_int ?_
  refine wa_nil ?_
  refine minF_mono _ _ _ (fun d7 hW => ?_) hW
  refine we_bin.binD_imp hW fun d6 hW => ?_
  refine rngS_imp hW fun ds5 hW => ?_
  refine for_link (fun (s9 : Unit) ρ om => ∃ u10 u11 u12 u13 u14 u15 u16 : Option R, ρ = [some (.v (.obj a)), some (.v (.obj x.d)), u10, u11, u12, u13, u14, u15, u16] ∧ om = []) hW ⟨_, _, _, _, _, _, _, rfl, rfl⟩ (fun d1 s3 ρ om n2 hW hR => ?_) (fun s4 ρ om hW hR => ?_)
  · obtain ⟨u17, u18, u19, u20, u21, u22, u23, rfl, rfl⟩ := hR
    refine fN_link ?_
    refine wss_cons (ws_set (i := 3) sc_law.nd rfl (.inl rfl) ?_)
    refine we_call h_law_pick hr gd ?_
    refine wa_cons ?_
    refine we_name (i := 1) rfl (.inl rfl) rfl ?_
    refine wa_cons ?_
    refine we_lst ?_
    refine wa_cons ?_
    refine we_str ?_
    refine wa_cons ?_
    refine we_str ?_
    refine wa_cons ?_
    refine we_str ?_
    refine wa_cons ?_
    refine we_str ?_
    refine wa_nil ?_
    refine ⟨small_le (by show 4 ≤ 1000; decide), ?_⟩
    refine wa_nil ?_
    refine allV2 ?_
    refine to_law_pick hW fun d24 hW => ?_
    refine wss_cons (ws_set (i := 4) sc_law.nd rfl (.inl rfl) ?_)
    refine we_call h_law_pick hr gd ?_
    refine wa_cons ?_
    refine we_name (i := 1) rfl (.inl rfl) rfl ?_
    refine wa_cons ?_
    refine we_lst ?_
    refine wa_cons ?_
    refine we_int ?_
    refine wa_cons ?_
    refine we_int ?_
    refine wa_cons ?_
    refine we_int ?_
    refine wa_cons ?_
    refine we_non ?_
    refine wa_cons ?_
    refine we_str ?_
    refine wa_cons ?_
    refine we_tup ?_
    refine wa_cons ?_
    refine we_int ?_
    refine wa_cons ?_
    refine we_non ?_
    refine wa_nil ?_
    refine ⟨small_le (by show 2 ≤ 1000; decide), ?_⟩
    refine wa_cons ?_
    refine we_tup ?_
    refine wa_cons ?_
    refine we_str ?_
    refine wa_cons ?_
    refine we_tup ?_
    refine wa_cons ?_
    refine we_int ?_
    refine wa_nil ?_
    refine ⟨small_le (by show 1 ≤ 1000; decide), ?_⟩
    refine wa_nil ?_
    refine ⟨small_le (by show 2 ≤ 1000; decide), ?_⟩
    refine wa_cons ?_
    refine we_lst ?_
    refine wa_cons ?_
    refine we_int ?_
    refine wa_nil ?_
    refine ⟨small_le (by show 1 ≤ 1000; decide), ?_⟩
    refine wa_cons ?_
    refine we_bin ?_
    refine we_int ?_
    refine we_int ?_
    refine we_bin.binD_imp hW fun d26 hW => ?_
    refine wa_nil ?_
    refine ⟨small_le (by show 9 ≤ 1000; decide), ?_⟩
    refine wa_nil ?_
    refine allV2 ?_
    refine to_law_pick hW fun d25 hW => ?_
    refine wss_cons (ws_ifS hW (fun k hW => ?_) (fun hW => ?_) (fun hW => ?_))
    · refine wt_cmpU hu ?_
      refine we_lcIf rfl sc_law.nd rfl [("_law_place", 5), ("_law_error", 6)] (blkOk_by (N := N_law) (sc := defScope t_law) (by decide +kernel)) (fun _ _ _ _ _ => wg_tup (n := 2) rfl (wgs_cons (wg_name (i := 5) sc_law.nd rfl (.inl rfl)) (wgs_cons (wg_name (i := 6) sc_law.nd rfl (.inl rfl)) (wgs_nil)))) (by decide) ?_
      refine wi_seq ?_
      refine we_call h_law_plain hr gd ?_
      refine wa_cons ?_
      refine we_name (i := 3) rfl (.inl rfl) rfl ?_
      refine wa_nil ?_
      refine allV1 ?_
      refine to_law_plain hW fun d33 hW => ?_
      refine walkV hW fun ds32 hW => ?_
      refine lcIf_link hW (fun d30 a28 n29 hW => ?_) (fun xs31 hW => ?_)
      · refine unp2_link hW fun d34 d35 hW => ?_
        refine fN_link ?_
        refine fN_link ?_
        refine tst_link hW (fun k hW s H C cl fp => ?_) (fun hW => ?_) (fun hW => hW)
        · refine wt_not ?_
          refine wt_val ?_
          refine we_call h_law_alone hr gd ?_
          refine wa_cons ?_
          refine we_name (i := 6) rfl (.inl rfl) rfl ?_
          refine wa_cons ?_
          refine we_name (i := 5) rfl (.inl rfl) rfl ?_
          refine wa_nil ?_
          refine allV2 ?_
          refine to_law_alone hW fun d36 hW => ?_
          refine blS_link hW fun t37 hW => ?_
          exact ⟨rfl, hW⟩
        · refine fun s H C cl fp => ?_
          refine we_int ?_
          exact ⟨rfl, ⟨_, rfl⟩, hW⟩
      · refine we_lst ?_
        refine wa_nil ?_
        refine ⟨small_le (by show 0 ≤ 1000; decide), ?_⟩
        refine cmpU_imp hW fun t27 hW => ?_
        exact ⟨rfl, hW⟩
    · refine wss_cons (ws_ret ?_)
      refine we_bl ?_
      exact hW
    · refine wss_nil ?_
      refine wss_cons (ws_for PassesOwn.never rfl (wg_tup (n := 3) rfl (wgs_cons (wg_name (i := 5) sc_law.nd rfl (.inl rfl)) (wgs_cons (wg_name (i := 6) sc_law.nd rfl (.inl rfl)) (wgs_cons (wg_name (i := 7) sc_law.nd rfl (.inl rfl)) (wgs_nil))))) ?_)
      refine wi_seq ?_
      refine we_call h_law_with_fields hr gd ?_
      refine wa_cons ?_
      refine we_name (i := 4) rfl (.inl rfl) rfl ?_
      refine wa_nil ?_
      refine allV1 ?_
      refine to_law_with_fields hW fun d44 hW => ?_
      refine walkV hW fun ds43 hW => ?_
      refine for_link (fun (s45 : Unit) ρ om => ∃ u46 u47 u48 : Option R, ρ = [some (.v (.obj a)), some (.v (.obj x.d)), some (.v d1), some (.v d24), some (.v d25), u46, u47, u48, u23] ∧ om = []) hW ⟨_, _, _, rfl, rfl⟩ (fun d39 s41 ρ om n40 hW hR => ?_) (fun s42 ρ om hW hR => ?_)
      · obtain ⟨u49, u50, u51, rfl, rfl⟩ := hR
        refine unp3_link hW fun d52 d53 d54 hW => ?_
        refine fN_link ?_
        refine fN_link ?_
        refine fN_link ?_
        refine wss_cons (ws_ifS hW (fun k hW => ?_) (fun hW => ?_) (fun hW => ?_))
        · refine WW.wt ?_
          refine ww_or ?_
          refine wt_not ?_
          refine wt_val ?_
          refine we_call h_law_alone hr gd ?_
          refine wa_cons ?_
          refine we_name (i := 6) rfl (.inl rfl) rfl ?_
          refine wa_cons ?_
          refine we_name (i := 5) rfl (.inl rfl) rfl ?_
          refine wa_nil ?_
          refine allV2 ?_
          refine to_law_alone hW fun d55 hW => ?_
          refine blS_link hW fun t56 hW => ?_
          refine ifE2 hW (fun hW => ?_) (fun hW => ?_)
          · exact ⟨rfl, hW⟩
          · refine ww_or1 ?_
            refine wt_cmpU hu ?_
            refine we_blt (cb_reprU hsys gd hu2) m_repr PyProof.Rows.boot_repr rprU_mono ?_
            refine wa_cons ?_
            refine we_name (i := 7) rfl (.inl rfl) rfl ?_
            refine wa_nil ?_
            refine rprU_mono _ _ _ (fun d58 hW => ?_) hW
            refine we_blt (cb_reprU hsys gd hu2) m_repr PyProof.Rows.boot_repr rprU_mono ?_
            refine wa_cons ?_
            refine we_name (i := 4) rfl (.inl rfl) rfl ?_
            refine wa_nil ?_
            refine rprU_mono _ _ _ (fun d59 hW => ?_) hW
            refine cmpU_imp hW fun t57 hW => ?_
            exact ⟨rfl, hW⟩
        · refine wss_cons (ws_ret ?_)
          refine we_bl ?_
          exact hW
        · refine wss_nil ?_
          exact wss_nil ⟨_, ⟨_, _, _, rfl, rfl⟩, hW⟩
      · obtain ⟨u60, u61, u62, rfl, rfl⟩ := hR
        refine wss_cons (ws_set (i := 8) sc_law.nd rfl (.inl rfl) ?_)
        refine we_err1 e_WorthError ?_
        refine wa_cons ?_
        refine we_name (i := 3) rfl (.inl rfl) rfl ?_
        refine wa_nil ?_
        refine allV1 ?_
        refine ⟨_, rfl, ?_⟩
        refine wss_cons (ws_ifS hW (fun k hW => ?_) (fun hW => ?_) (fun hW => ?_))
        · refine WW.wt ?_
          refine ww_or ?_
          refine wt_cmpU hu ?_
          refine we_call h_law_marks hr gd ?_
          refine wa_cons ?_
          refine we_name (i := 8) rfl (.inl rfl) rfl ?_
          refine wa_nil ?_
          refine allV1 ?_
          refine to_law_marks hW fun d65 hW => ?_
          refine we_bin ?_
          refine we_lst ?_
          refine wa_cons ?_
          refine we_bl ?_
          refine wa_nil ?_
          refine ⟨small_le (by show 1 ≤ 1000; decide), ?_⟩
          refine we_int ?_
          refine we_bin.binD_imp hW fun d66 hW => ?_
          refine cmpU_imp hW fun t64 hW => ?_
          refine ifE2 hW (fun hW => ?_) (fun hW => ?_)
          · exact ⟨rfl, hW⟩
          · refine ww_or1 ?_
            refine wt_not ?_
            refine wt_val ?_
            refine we_isVE m_isinstance hH ev ?_
            refine we_name (i := 8) rfl (.inl rfl) rfl ?_
            refine isES_imp hW fun t68 hW => ?_
            refine blS_link hW fun t69 hW => ?_
            exact ⟨rfl, hW⟩
        · refine wss_cons (ws_ret ?_)
          refine we_bl ?_
          exact hW
        · refine wss_nil ?_
          exact wss_nil ⟨_, ⟨_, _, _, _, _, _, _, rfl, rfl⟩, hW⟩
  · obtain ⟨u70, u71, u72, u73, u74, u75, u76, rfl, rfl⟩ := hR
    refine wss_cons (ws_ret ?_)
    refine we_bl ?_
    exact hW
end
end K01

namespace K01
open PySem PySem.Spec L2 DL

theorem all_mk {l : PySem.W.OpenLaw} {w : World} {K : PySem.W.Frag} {h : Heap} {mg : Str → Option Value} {fa : Addr} (X : K.In h) (G : h.Ns mainGlobals mg) (hfa : mg "law" = some (.ref fa)) (hlaw : ∀ (c : Cl) (n : Nat), n ≤ 63 → S_law c n fun d => d = .bl true)
    {E0 E1 E2 E3 E4 E5 E6 E7 E8 E9 E10 E11 E12 E13 E14 E15 E16 E17 E18 E19 E20 E21 E22 E23 E24 f1 f2 f3 f4 f5 f6 f7 f8 f9 : Addr} {od1 an1 od2 an2 od3 an3 od4 an4 od5 an5 od6 an6 od7 an7 od8 an8 od9 an9 : Option Addr} {sl1 sl2 sl3 sl4 sl5 sl6 sl7 sl8 sl9 : Array (Option Value)} {oc1 kV1 dc1 pm1 cd1 ct1 oc2 kV2 dc2 pm2 cd2 ct2 oc3 kV3 dc3 pm3 cd3 ct3 oc4 kV4 dc4 pm4 cd4 ct4 oc5 kV5 dc5 pm5 cd5 ct5 oc6 kV6 dc6 pm6 cd6 ct6 oc7 kV7 dc7 pm7 cd7 ct7 oc8 kV8 dc8 pm8 cd8 ct8 oc9 kV9 dc9 pm9 cd9 ct9 : Value} 
    (zm_len : PySem.W.nsIn K mainGlobals "len" = some none)
    (zm_isinstance : PySem.W.nsIn K mainGlobals "isinstance" = some none)
    (zm_range : PySem.W.nsIn K mainGlobals "range" = some none)
    (zm_enumerate : PySem.W.nsIn K mainGlobals "enumerate" = some none)
    (zm_min : PySem.W.nsIn K mainGlobals "min" = some none)
    (zm_repr : PySem.W.nsIn K mainGlobals "repr" = some none)
    (aE0 : PySem.W.nsIn K mainGlobals "WorthError" = some (some (.ref E0)))
    (aE1 : PySem.W.nsIn K mainGlobals "BadShape" = some (some (.ref E1)))
    (aE2 : PySem.W.nsIn K mainGlobals "BadName" = some (some (.ref E2)))
    (aE3 : PySem.W.nsIn K mainGlobals "BadCondition" = some (some (.ref E3)))
    (aE4 : PySem.W.nsIn K mainGlobals "BadRow" = some (some (.ref E4)))
    (aE5 : PySem.W.nsIn K mainGlobals "BadAsking" = some (some (.ref E5)))
    (aE6 : PySem.W.nsIn K mainGlobals "BadChoice" = some (some (.ref E6)))
    (aE7 : PySem.W.nsIn K mainGlobals "BadBook" = some (some (.ref E7)))
    (aE8 : PySem.W.nsIn K mainGlobals "NoPart" = some (some (.ref E8)))
    (aE9 : PySem.W.nsIn K mainGlobals "BadTable" = some (some (.ref E9)))
    (aE10 : PySem.W.nsIn K mainGlobals "BadPlan" = some (some (.ref E10)))
    (aE11 : PySem.W.nsIn K mainGlobals "BadBounds" = some (some (.ref E11)))
    (aE12 : PySem.W.nsIn K mainGlobals "BadZone" = some (some (.ref E12)))
    (aE13 : PySem.W.nsIn K mainGlobals "OtherShape" = some (some (.ref E13)))
    (aE14 : PySem.W.nsIn K mainGlobals "BadGuard" = some (some (.ref E14)))
    (aE15 : PySem.W.nsIn K mainGlobals "BadTest" = some (some (.ref E15)))
    (aE16 : PySem.W.nsIn K mainGlobals "BadPlans" = some (some (.ref E16)))
    (aE17 : PySem.W.nsIn K mainGlobals "TooMany" = some (some (.ref E17)))
    (aE18 : PySem.W.nsIn K mainGlobals "Wrong" = some (some (.ref E18)))
    (aE19 : PySem.W.nsIn K mainGlobals "Unfit" = some (some (.ref E19)))
    (aE20 : PySem.W.nsIn K mainGlobals "NoPlan" = some (some (.ref E20)))
    (aE21 : PySem.W.nsIn K mainGlobals "NothingDone" = some (some (.ref E21)))
    (aE22 : PySem.W.nsIn K mainGlobals "BadJournal" = some (some (.ref E22)))
    (aE23 : PySem.W.nsIn K mainGlobals "BadText" = some (some (.ref E23)))
    (aE24 : PySem.W.nsIn K mainGlobals "BadLine" = some (some (.ref E24)))
    (ndE : ([E0, E1, E2, E3, E4, E5, E6, E7, E8, E9, E10, E11, E12, E13, E14, E15, E16, E17, E18, E19, E20, E21, E22, E23, E24] : List Addr).Nodup)
    (hH : ErrHs K 25 ⟨0, 0, 0, 0, 0, fun i => ([E0, E1, E2, E3, E4, E5, E6, E7, E8, E9, E10, E11, E12, E13, E14, E15, E16, E17, E18, E19, E20, E21, E22, E23, E24] : List Addr).getD i 0⟩)
    (mE0 : EM K E0 veR)
    (mEs : AllE (fun E => EM K E (.ref E0 :: veR)) [E1, E2, E3, E4, E5, E6, E7, E8, E9, E10, E11, E12, E13, E14, E15, E16, E17, E18, E19, E20, E21, E22, E23, E24])
    (hf_part : ∀ m, m < 25 → PySem.W.findIn K (.ref ((⟨0, 0, 0, 0, 0, fun i => ([E0, E1, E2, E3, E4, E5, E6, E7, E8, E9, E10, E11, E12, E13, E14, E15, E16, E17, E18, E19, E20, E21, E22, E23, E24] : List Addr).getD i 0⟩ : Cl).err m)) "part" = some none)
    (hf_at : ∀ m, m < 25 → PySem.W.findIn K (.ref ((⟨0, 0, 0, 0, 0, fun i => ([E0, E1, E2, E3, E4, E5, E6, E7, E8, E9, E10, E11, E12, E13, E14, E15, E16, E17, E18, E19, E20, E21, E22, E23, E24] : List Addr).getD i 0⟩ : Cl).err m)) "at" = some none)
    (hf_most : ∀ m, m < 25 → PySem.W.findIn K (.ref ((⟨0, 0, 0, 0, 0, fun i => ([E0, E1, E2, E3, E4, E5, E6, E7, E8, E9, E10, E11, E12, E13, E14, E15, E16, E17, E18, E19, E20, E21, E22, E23, E24] : List Addr).getD i 0⟩ : Cl).err m)) "most" = some none)
    (hf_shown : ∀ m, m < 25 → PySem.W.findIn K (.ref ((⟨0, 0, 0, 0, 0, fun i => ([E0, E1, E2, E3, E4, E5, E6, E7, E8, E9, E10, E11, E12, E13, E14, E15, E16, E17, E18, E19, E20, E21, E22, E23, E24] : List Addr).getD i 0⟩ : Cl).err m)) "shown" = some none)
    (hf_row : ∀ m, m < 25 → PySem.W.findIn K (.ref ((⟨0, 0, 0, 0, 0, fun i => ([E0, E1, E2, E3, E4, E5, E6, E7, E8, E9, E10, E11, E12, E13, E14, E15, E16, E17, E18, E19, E20, E21, E22, E23, E24] : List Addr).getD i 0⟩ : Cl).err m)) "row" = some none)
    (zVE : PySem.W.nsIn K mainGlobals "ValueError" = some none)
    (kVE : PySem.W.kitOne K (.type "NoneType") (.type "ValueError") = some false)
    (e_BadShape : ErrM K mg "BadShape" E1)
    (e_BadName : ErrM K mg "BadName" E2)
    (e_BadCondition : ErrM K mg "BadCondition" E3)
    (e_BadRow : ErrM K mg "BadRow" E4)
    (e_BadAsking : ErrM K mg "BadAsking" E5)
    (e_BadChoice : ErrM K mg "BadChoice" E6)
    (e_BadPlan : ErrM K mg "BadPlan" E10)
    (e_OtherShape : ErrM K mg "OtherShape" E13)
    (e_BadGuard : ErrM K mg "BadGuard" E14)
    (e_NoPlan : ErrM K mg "NoPlan" E20)
    (e_NothingDone : ErrM K mg "NothingDone" E21)
    (e_BadBook : ErrA l.prog K mg "BadBook" "part" E7)
    (e_NoPart : ErrA l.prog K mg "NoPart" "part" E8)
    (e_BadTable : ErrA l.prog K mg "BadTable" "part" E9)
    (e_BadBounds : ErrA l.prog K mg "BadBounds" "at" E11)
    (e_BadZone : ErrA l.prog K mg "BadZone" "at" E12)
    (e_BadTest : ErrA l.prog K mg "BadTest" "at" E15)
    (e_BadPlans : ErrA l.prog K mg "BadPlans" "at" E16)
    (e_Unfit : ErrA l.prog K mg "Unfit" "at" E19)
    (e_BadJournal : ErrA l.prog K mg "BadJournal" "at" E22)
    (e_BadText : ErrA l.prog K mg "BadText" "at" E23)
    (e_TooMany : ErrA l.prog K mg "TooMany" "most" E17)
    (e_Wrong : ErrA l.prog K mg "Wrong" "shown" E18)
    (e_BadLine : ErrA l.prog K mg "BadLine" "row" E24)
    (e_WorthError : ErrM K mg "WorthError" E0)
    (zm_int : PySem.W.nsIn K mainGlobals "int" = some none)
    (zm_abs : PySem.W.nsIn K mainGlobals "abs" = some none)
    (a1 : PySem.W.nsIn K mainGlobals "_law_blend" = some (some (.ref f1)))
    (l1 : K.lookup f1 = some ⟨oc1, od1, .func (PySem.W.fnOf "_law_blend" "_law_blend" (defArgs t_blend) (defBody t_blend) (defScope t_blend) .none kV1 dc1 pm1 an1 cd1 ct1), sl1⟩)
    (c1 : PySem.W.codeIn K cd1 "_law_blend" = true)
    (k1 : PySem.W.keepIn K (.ref f1) = true)
    (a2 : PySem.W.nsIn K mainGlobals "_law_take" = some (some (.ref f2)))
    (l2 : K.lookup f2 = some ⟨oc2, od2, .func (PySem.W.fnOf "_law_take" "_law_take" (defArgs t_take) (defBody t_take) (defScope t_take) .none kV2 dc2 pm2 an2 cd2 ct2), sl2⟩)
    (c2 : PySem.W.codeIn K cd2 "_law_take" = true)
    (k2 : PySem.W.keepIn K (.ref f2) = true)
    (a3 : PySem.W.nsIn K mainGlobals "_law_begin" = some (some (.ref f3)))
    (l3 : K.lookup f3 = some ⟨oc3, od3, .func (PySem.W.fnOf "_law_begin" "_law_begin" (defArgs t_begin) (defBody t_begin) (defScope t_begin) .none kV3 dc3 pm3 an3 cd3 ct3), sl3⟩)
    (c3 : PySem.W.codeIn K cd3 "_law_begin" = true)
    (k3 : PySem.W.keepIn K (.ref f3) = true)
    (a4 : PySem.W.nsIn K mainGlobals "_law_pick" = some (some (.ref f4)))
    (l4 : K.lookup f4 = some ⟨oc4, od4, .func (PySem.W.fnOf "_law_pick" "_law_pick" (defArgs t_law_pick) (defBody t_law_pick) (defScope t_law_pick) .none kV4 dc4 pm4 an4 cd4 ct4), sl4⟩)
    (c4 : PySem.W.codeIn K cd4 "_law_pick" = true)
    (k4 : PySem.W.keepIn K (.ref f4) = true)
    (a5 : PySem.W.nsIn K mainGlobals "_law_marks" = some (some (.ref f5)))
    (l5 : K.lookup f5 = some ⟨oc5, od5, .func (PySem.W.fnOf "_law_marks" "_law_marks" (defArgs t_law_marks) (defBody t_law_marks) (defScope t_law_marks) .none kV5 dc5 pm5 an5 cd5 ct5), sl5⟩)
    (c5 : PySem.W.codeIn K cd5 "_law_marks" = true)
    (k5 : PySem.W.keepIn K (.ref f5) = true)
    (a6 : PySem.W.nsIn K mainGlobals "_law_alone" = some (some (.ref f6)))
    (l6 : K.lookup f6 = some ⟨oc6, od6, .func (PySem.W.fnOf "_law_alone" "_law_alone" (defArgs t_law_alone) (defBody t_law_alone) (defScope t_law_alone) .none kV6 dc6 pm6 an6 cd6 ct6), sl6⟩)
    (c6 : PySem.W.codeIn K cd6 "_law_alone" = true)
    (k6 : PySem.W.keepIn K (.ref f6) = true)
    (a7 : PySem.W.nsIn K mainGlobals "_law_plain" = some (some (.ref f7)))
    (l7 : K.lookup f7 = some ⟨oc7, od7, .func (PySem.W.fnOf "_law_plain" "_law_plain" (defArgs t_law_plain) (defBody t_law_plain) (defScope t_law_plain) .none kV7 dc7 pm7 an7 cd7 ct7), sl7⟩)
    (c7 : PySem.W.codeIn K cd7 "_law_plain" = true)
    (k7 : PySem.W.keepIn K (.ref f7) = true)
    (a8 : PySem.W.nsIn K mainGlobals "_law_with_fields" = some (some (.ref f8)))
    (l8 : K.lookup f8 = some ⟨oc8, od8, .func (PySem.W.fnOf "_law_with_fields" "_law_with_fields" (defArgs t_law_with_fields) (defBody t_law_with_fields) (defScope t_law_with_fields) .none kV8 dc8 pm8 an8 cd8 ct8), sl8⟩)
    (c8 : PySem.W.codeIn K cd8 "_law_with_fields" = true)
    (k8 : PySem.W.keepIn K (.ref f8) = true)
    (a9 : PySem.W.nsIn K mainGlobals "law" = some (some (.ref f9)))
    (l9 : K.lookup f9 = some ⟨oc9, od9, .func (PySem.W.fnOf "law" "law" (defArgs t_law) (defBody t_law) (defScope t_law) .none kV9 dc9 pm9 an9 cd9 ct9), sl9⟩)
    (c9 : PySem.W.codeIn K cd9 "law" = true)
    (k9 : PySem.W.keepIn K (.ref f9) = true)
    : ∃ fd : FuncData, (∀ (s : Shared) (v : Value), BindsTo s fd ⟨[v], []⟩ [("_law_script", v)]) ∧ ∀ base : Heap, K.In base → base.Ns mainGlobals mg → (∃ o, base.get? sysModules = some o) → FnG l.prog w K mg base CX0 8 fa fd ["_law_script"] (spLaw [] K) := by
  have e := hfa.symm.trans (PySem.W.mg_of X G a9)
  cases e
  have m_len : mg "len" = none := PySem.W.mg_none_of X G zm_len
  have m_isinstance : mg "isinstance" = none := PySem.W.mg_none_of X G zm_isinstance
  have m_range : mg "range" = none := PySem.W.mg_none_of X G zm_range
  have m_enumerate : mg "enumerate" = none := PySem.W.mg_none_of X G zm_enumerate
  have m_min : mg "min" = none := PySem.W.mg_none_of X G zm_min
  have m_repr : mg "repr" = none := PySem.W.mg_none_of X G zm_repr
  have hA : EAll K ⟨0, 0, 0, 0, 0, fun i => ([E0, E1, E2, E3, E4, E5, E6, E7, E8, E9, E10, E11, E12, E13, E14, E15, E16, E17, E18, E19, E20, E21, E22, E23, E24] : List Addr).getD i 0⟩ 25 := EAll.of (e0 := E0) rfl mE0 mEs ndE
  have ec_BadShape : ErrC K mg 25 ⟨0, 0, 0, 0, 0, fun i => ([E0, E1, E2, E3, E4, E5, E6, E7, E8, E9, E10, E11, E12, E13, E14, E15, E16, E17, E18, E19, E20, E21, E22, E23, E24] : List Addr).getD i 0⟩ "BadShape" (some 1) := hA.leafC (by decide) (by decide) (PySem.W.mg_of X G aE1)
  have ec_BadName : ErrC K mg 25 ⟨0, 0, 0, 0, 0, fun i => ([E0, E1, E2, E3, E4, E5, E6, E7, E8, E9, E10, E11, E12, E13, E14, E15, E16, E17, E18, E19, E20, E21, E22, E23, E24] : List Addr).getD i 0⟩ "BadName" (some 2) := hA.leafC (by decide) (by decide) (PySem.W.mg_of X G aE2)
  have ec_BadCondition : ErrC K mg 25 ⟨0, 0, 0, 0, 0, fun i => ([E0, E1, E2, E3, E4, E5, E6, E7, E8, E9, E10, E11, E12, E13, E14, E15, E16, E17, E18, E19, E20, E21, E22, E23, E24] : List Addr).getD i 0⟩ "BadCondition" (some 3) := hA.leafC (by decide) (by decide) (PySem.W.mg_of X G aE3)
  have ec_BadRow : ErrC K mg 25 ⟨0, 0, 0, 0, 0, fun i => ([E0, E1, E2, E3, E4, E5, E6, E7, E8, E9, E10, E11, E12, E13, E14, E15, E16, E17, E18, E19, E20, E21, E22, E23, E24] : List Addr).getD i 0⟩ "BadRow" (some 4) := hA.leafC (by decide) (by decide) (PySem.W.mg_of X G aE4)
  have ec_BadAsking : ErrC K mg 25 ⟨0, 0, 0, 0, 0, fun i => ([E0, E1, E2, E3, E4, E5, E6, E7, E8, E9, E10, E11, E12, E13, E14, E15, E16, E17, E18, E19, E20, E21, E22, E23, E24] : List Addr).getD i 0⟩ "BadAsking" (some 5) := hA.leafC (by decide) (by decide) (PySem.W.mg_of X G aE5)
  have ec_BadChoice : ErrC K mg 25 ⟨0, 0, 0, 0, 0, fun i => ([E0, E1, E2, E3, E4, E5, E6, E7, E8, E9, E10, E11, E12, E13, E14, E15, E16, E17, E18, E19, E20, E21, E22, E23, E24] : List Addr).getD i 0⟩ "BadChoice" (some 6) := hA.leafC (by decide) (by decide) (PySem.W.mg_of X G aE6)
  have ec_BadBook : ErrC K mg 25 ⟨0, 0, 0, 0, 0, fun i => ([E0, E1, E2, E3, E4, E5, E6, E7, E8, E9, E10, E11, E12, E13, E14, E15, E16, E17, E18, E19, E20, E21, E22, E23, E24] : List Addr).getD i 0⟩ "BadBook" (some 7) := hA.leafC (by decide) (by decide) (PySem.W.mg_of X G aE7)
  have ec_NoPart : ErrC K mg 25 ⟨0, 0, 0, 0, 0, fun i => ([E0, E1, E2, E3, E4, E5, E6, E7, E8, E9, E10, E11, E12, E13, E14, E15, E16, E17, E18, E19, E20, E21, E22, E23, E24] : List Addr).getD i 0⟩ "NoPart" (some 8) := hA.leafC (by decide) (by decide) (PySem.W.mg_of X G aE8)
  have ec_BadTable : ErrC K mg 25 ⟨0, 0, 0, 0, 0, fun i => ([E0, E1, E2, E3, E4, E5, E6, E7, E8, E9, E10, E11, E12, E13, E14, E15, E16, E17, E18, E19, E20, E21, E22, E23, E24] : List Addr).getD i 0⟩ "BadTable" (some 9) := hA.leafC (by decide) (by decide) (PySem.W.mg_of X G aE9)
  have ec_BadPlan : ErrC K mg 25 ⟨0, 0, 0, 0, 0, fun i => ([E0, E1, E2, E3, E4, E5, E6, E7, E8, E9, E10, E11, E12, E13, E14, E15, E16, E17, E18, E19, E20, E21, E22, E23, E24] : List Addr).getD i 0⟩ "BadPlan" (some 10) := hA.leafC (by decide) (by decide) (PySem.W.mg_of X G aE10)
  have ec_BadBounds : ErrC K mg 25 ⟨0, 0, 0, 0, 0, fun i => ([E0, E1, E2, E3, E4, E5, E6, E7, E8, E9, E10, E11, E12, E13, E14, E15, E16, E17, E18, E19, E20, E21, E22, E23, E24] : List Addr).getD i 0⟩ "BadBounds" (some 11) := hA.leafC (by decide) (by decide) (PySem.W.mg_of X G aE11)
  have ec_BadZone : ErrC K mg 25 ⟨0, 0, 0, 0, 0, fun i => ([E0, E1, E2, E3, E4, E5, E6, E7, E8, E9, E10, E11, E12, E13, E14, E15, E16, E17, E18, E19, E20, E21, E22, E23, E24] : List Addr).getD i 0⟩ "BadZone" (some 12) := hA.leafC (by decide) (by decide) (PySem.W.mg_of X G aE12)
  have ec_OtherShape : ErrC K mg 25 ⟨0, 0, 0, 0, 0, fun i => ([E0, E1, E2, E3, E4, E5, E6, E7, E8, E9, E10, E11, E12, E13, E14, E15, E16, E17, E18, E19, E20, E21, E22, E23, E24] : List Addr).getD i 0⟩ "OtherShape" (some 13) := hA.leafC (by decide) (by decide) (PySem.W.mg_of X G aE13)
  have ec_BadGuard : ErrC K mg 25 ⟨0, 0, 0, 0, 0, fun i => ([E0, E1, E2, E3, E4, E5, E6, E7, E8, E9, E10, E11, E12, E13, E14, E15, E16, E17, E18, E19, E20, E21, E22, E23, E24] : List Addr).getD i 0⟩ "BadGuard" (some 14) := hA.leafC (by decide) (by decide) (PySem.W.mg_of X G aE14)
  have ec_BadTest : ErrC K mg 25 ⟨0, 0, 0, 0, 0, fun i => ([E0, E1, E2, E3, E4, E5, E6, E7, E8, E9, E10, E11, E12, E13, E14, E15, E16, E17, E18, E19, E20, E21, E22, E23, E24] : List Addr).getD i 0⟩ "BadTest" (some 15) := hA.leafC (by decide) (by decide) (PySem.W.mg_of X G aE15)
  have ec_BadPlans : ErrC K mg 25 ⟨0, 0, 0, 0, 0, fun i => ([E0, E1, E2, E3, E4, E5, E6, E7, E8, E9, E10, E11, E12, E13, E14, E15, E16, E17, E18, E19, E20, E21, E22, E23, E24] : List Addr).getD i 0⟩ "BadPlans" (some 16) := hA.leafC (by decide) (by decide) (PySem.W.mg_of X G aE16)
  have ec_TooMany : ErrC K mg 25 ⟨0, 0, 0, 0, 0, fun i => ([E0, E1, E2, E3, E4, E5, E6, E7, E8, E9, E10, E11, E12, E13, E14, E15, E16, E17, E18, E19, E20, E21, E22, E23, E24] : List Addr).getD i 0⟩ "TooMany" (some 17) := hA.leafC (by decide) (by decide) (PySem.W.mg_of X G aE17)
  have ec_Wrong : ErrC K mg 25 ⟨0, 0, 0, 0, 0, fun i => ([E0, E1, E2, E3, E4, E5, E6, E7, E8, E9, E10, E11, E12, E13, E14, E15, E16, E17, E18, E19, E20, E21, E22, E23, E24] : List Addr).getD i 0⟩ "Wrong" (some 18) := hA.leafC (by decide) (by decide) (PySem.W.mg_of X G aE18)
  have ec_Unfit : ErrC K mg 25 ⟨0, 0, 0, 0, 0, fun i => ([E0, E1, E2, E3, E4, E5, E6, E7, E8, E9, E10, E11, E12, E13, E14, E15, E16, E17, E18, E19, E20, E21, E22, E23, E24] : List Addr).getD i 0⟩ "Unfit" (some 19) := hA.leafC (by decide) (by decide) (PySem.W.mg_of X G aE19)
  have ec_NoPlan : ErrC K mg 25 ⟨0, 0, 0, 0, 0, fun i => ([E0, E1, E2, E3, E4, E5, E6, E7, E8, E9, E10, E11, E12, E13, E14, E15, E16, E17, E18, E19, E20, E21, E22, E23, E24] : List Addr).getD i 0⟩ "NoPlan" (some 20) := hA.leafC (by decide) (by decide) (PySem.W.mg_of X G aE20)
  have ec_NothingDone : ErrC K mg 25 ⟨0, 0, 0, 0, 0, fun i => ([E0, E1, E2, E3, E4, E5, E6, E7, E8, E9, E10, E11, E12, E13, E14, E15, E16, E17, E18, E19, E20, E21, E22, E23, E24] : List Addr).getD i 0⟩ "NothingDone" (some 21) := hA.leafC (by decide) (by decide) (PySem.W.mg_of X G aE21)
  have ec_BadJournal : ErrC K mg 25 ⟨0, 0, 0, 0, 0, fun i => ([E0, E1, E2, E3, E4, E5, E6, E7, E8, E9, E10, E11, E12, E13, E14, E15, E16, E17, E18, E19, E20, E21, E22, E23, E24] : List Addr).getD i 0⟩ "BadJournal" (some 22) := hA.leafC (by decide) (by decide) (PySem.W.mg_of X G aE22)
  have ec_BadText : ErrC K mg 25 ⟨0, 0, 0, 0, 0, fun i => ([E0, E1, E2, E3, E4, E5, E6, E7, E8, E9, E10, E11, E12, E13, E14, E15, E16, E17, E18, E19, E20, E21, E22, E23, E24] : List Addr).getD i 0⟩ "BadText" (some 23) := hA.leafC (by decide) (by decide) (PySem.W.mg_of X G aE23)
  have ec_BadLine : ErrC K mg 25 ⟨0, 0, 0, 0, 0, fun i => ([E0, E1, E2, E3, E4, E5, E6, E7, E8, E9, E10, E11, E12, E13, E14, E15, E16, E17, E18, E19, E20, E21, E22, E23, E24] : List Addr).getD i 0⟩ "BadLine" (some 24) := hA.leafC (by decide) (by decide) (PySem.W.mg_of X G aE24)
  have ec_WorthError : ErrC K mg 25 ⟨0, 0, 0, 0, 0, fun i => ([E0, E1, E2, E3, E4, E5, E6, E7, E8, E9, E10, E11, E12, E13, E14, E15, E16, E17, E18, E19, E20, E21, E22, E23, E24] : List Addr).getD i 0⟩ "WorthError" none := hA.baseC (PySem.W.mg_of X G aE0)
  have ev : ErrV K mg 25 ⟨0, 0, 0, 0, 0, fun i => ([E0, E1, E2, E3, E4, E5, E6, E7, E8, E9, E10, E11, E12, E13, E14, E15, E16, E17, E18, E19, E20, E21, E22, E23, E24] : List Addr).getD i 0⟩ := hA.veC (PySem.W.mg_none_of X G zVE) kVE
  have m_int : mg "int" = none := PySem.W.mg_none_of X G zm_int
  have m_abs : mg "abs" = none := PySem.W.mg_none_of X G zm_abs
  have F1 := funA_mk (st := t_blend) l1 c1 k1
  have F2 := funA_mk (st := t_take) l2 c2 k2
  have F3 := funA_mk (st := t_begin) l3 c3 k3
  have F4 := funA_mk (st := t_law_pick) l4 c4 k4
  have F5 := funA_mk (st := t_law_marks) l5 c5 k5
  have F6 := funA_mk (st := t_law_alone) l6 c6 k6
  have F7 := funA_mk (st := t_law_plain) l7 c7 k7
  have F8 := funA_mk (st := t_law_with_fields) l8 c8 k8
  have F9 := funA_mk (st := t_law) l9 c9 k9
  have b1 : Binds K (PySem.W.fnOf "_law_blend" "_law_blend" (defArgs t_blend) (defBody t_blend) (defScope t_blend) .none kV1 dc1 pm1 an1 cd1 ct1) ["_law_draw"] [] := .all fun us hl => match us, hl with | [_], _ => rfl
  have b2 : Binds K (PySem.W.fnOf "_law_take" "_law_take" (defArgs t_take) (defBody t_take) (defScope t_take) .none kV2 dc2 pm2 an2 cd2 ct2) ["_law_draw", "_law_many"] [] := .all fun us hl => match us, hl with | [_, _], _ => rfl
  have b3 : Binds K (PySem.W.fnOf "_law_begin" "_law_begin" (defArgs t_begin) (defBody t_begin) (defScope t_begin) .none kV3 dc3 pm3 an3 cd3 ct3) ["_law_script"] [] := .all fun us hl => match us, hl with | [_], _ => rfl
  have b4 : Binds K (PySem.W.fnOf "_law_pick" "_law_pick" (defArgs t_law_pick) (defBody t_law_pick) (defScope t_law_pick) .none kV4 dc4 pm4 an4 cd4 ct4) ["_law_draw", "_law_some"] [] := .all fun us hl => match us, hl with | [_, _], _ => rfl
  have b5 : Binds K (PySem.W.fnOf "_law_marks" "_law_marks" (defArgs t_law_marks) (defBody t_law_marks) (defScope t_law_marks) .none kV5 dc5 pm5 an5 cd5 ct5) ["_law_error"] [] := .all fun us hl => match us, hl with | [_], _ => rfl
  have b6 : Binds K (PySem.W.fnOf "_law_alone" "_law_alone" (defArgs t_law_alone) (defBody t_law_alone) (defScope t_law_alone) .none kV6 dc6 pm6 an6 cd6 ct6) ["_law_error", "_law_place"] [] := .all fun us hl => match us, hl with | [_, _], _ => rfl
  have b7 : Binds K (PySem.W.fnOf "_law_plain" "_law_plain" (defArgs t_law_plain) (defBody t_law_plain) (defScope t_law_plain) .none kV7 dc7 pm7 an7 cd7 ct7) ["_law_page"] [] := .all fun us hl => match us, hl with | [_], _ => rfl
  have b8 : Binds K (PySem.W.fnOf "_law_with_fields" "_law_with_fields" (defArgs t_law_with_fields) (defBody t_law_with_fields) (defScope t_law_with_fields) .none kV8 dc8 pm8 an8 cd8 ct8) ["_law_item"] [] := .all fun us hl => match us, hl with | [_], _ => rfl
  refine ⟨PySem.W.fnOf "law" "law" (defArgs t_law) (defBody t_law) (defScope t_law) .none kV9 dc9 pm9 an9 cd9 ct9, fun s v => .of_eq rfl, fun base _ _ hsys => ?_⟩
  have hB : HasB l.prog w K mg base 7 "_law_begin" ["_law_script"] := ⟨⟨_, _, FnG.lift (ok_law_begin F3 m_abs) (by decide), PySem.W.mg_of X G a3, k3, b3⟩⟩
  refine ok_law (c := ⟨0, 0, 0, 0, 0, fun i => ([E0, E1, E2, E3, E4, E5, E6, E7, E8, E9, E10, E11, E12, E13, E14, E15, E16, E17, E18, E19, E20, E21, E22, E23, E24] : List Addr).getD i 0⟩) F9 m_range m_min m_len m_repr hsys e_WorthError m_isinstance hH ev hB (fun x hgc hz => ?_) (hlaw _)
  have h_law_blend : Has l.prog w K mg base (some x) 1 "_law_blend" ["_law_draw"] (W_blend x) := ⟨⟨_, _, ok_law_blend F1 m_int hz, PySem.W.mg_of X G a1, k1, b1⟩, mono_blend⟩
  have h_law_take : Has l.prog w K mg base (some x) 2 "_law_take" ["_law_draw", "_law_many"] (W_take x) := ⟨⟨_, _, ok_law_take F2 m_int hgc h_law_blend, PySem.W.mg_of X G a2, k2, b2⟩, mono_take⟩
  have h_law_pick : Has l.prog w K mg base (some x) 4 "_law_pick" ["_law_draw", "_law_some"] (W_law_pick ⟨0, 0, 0, 0, 0, fun i => ([E0, E1, E2, E3, E4, E5, E6, E7, E8, E9, E10, E11, E12, E13, E14, E15, E16, E17, E18, E19, E20, E21, E22, E23, E24] : List Addr).getD i 0⟩ x) := ⟨⟨_, _, ok_law_pick F4 h_law_take m_len, PySem.W.mg_of X G a4, k4, b4⟩, mono_law_pick⟩
  have h_law_marks : Has l.prog w K mg base (some x) 4 "_law_marks" ["_law_error"] (W_law_marks ⟨0, 0, 0, 0, 0, fun i => ([E0, E1, E2, E3, E4, E5, E6, E7, E8, E9, E10, E11, E12, E13, E14, E15, E16, E17, E18, E19, E20, E21, E22, E23, E24] : List Addr).getD i 0⟩) := ⟨⟨_, _, ok_law_marks (dr := some x) F5 m_isinstance hH ec_BadShape ec_BadName ec_BadCondition ec_BadRow ec_BadAsking ec_BadChoice ec_BadBook ec_NoPart ec_BadTable ec_BadPlan ec_BadBounds ec_BadZone ec_OtherShape ec_BadGuard ec_BadTest ec_BadPlans ec_TooMany ec_Wrong ec_Unfit ec_NoPlan ec_NothingDone ec_BadJournal ec_BadText ec_BadLine, PySem.W.mg_of X G a5, k5, b5⟩, mono_law_marks⟩
  have h_law_alone : Has l.prog w K mg base (some x) 6 "_law_alone" ["_law_error", "_law_place"] (W_law_alone ⟨0, 0, 0, 0, 0, fun i => ([E0, E1, E2, E3, E4, E5, E6, E7, E8, E9, E10, E11, E12, E13, E14, E15, E16, E17, E18, E19, E20, E21, E22, E23, E24] : List Addr).getD i 0⟩) := ⟨⟨_, _, ok_law_alone (dr := some x) F6 m_range h_law_marks m_isinstance hH ec_WorthError ev, PySem.W.mg_of X G a6, k6, b6⟩, mono_law_alone⟩
  have h_law_plain : Has l.prog w K mg base (some x) 4 "_law_plain" ["_law_page"] (W_law_plain ⟨0, 0, 0, 0, 0, fun i => ([E0, E1, E2, E3, E4, E5, E6, E7, E8, E9, E10, E11, E12, E13, E14, E15, E16, E17, E18, E19, E20, E21, E22, E23, E24] : List Addr).getD i 0⟩) := ⟨⟨_, _, ok_law_plain (dr := some x) F7 e_BadShape e_BadName e_BadCondition e_BadRow e_BadAsking e_BadChoice e_BadPlan e_OtherShape e_BadGuard e_NoPlan e_NothingDone, PySem.W.mg_of X G a7, k7, b7⟩, mono_law_plain⟩
  have h_law_with_fields : Has l.prog w K mg base (some x) 4 "_law_with_fields" ["_law_item"] (W_law_with_fields ⟨0, 0, 0, 0, 0, fun i => ([E0, E1, E2, E3, E4, E5, E6, E7, E8, E9, E10, E11, E12, E13, E14, E15, E16, E17, E18, E19, E20, E21, E22, E23, E24] : List Addr).getD i 0⟩) := ⟨⟨_, _, ok_law_with_fields (dr := some x) F8 e_BadBook e_NoPart e_BadTable m_enumerate hH hf_part e_BadBounds e_BadZone e_BadTest e_BadPlans e_Unfit e_BadJournal e_BadText hf_at e_TooMany hf_most e_Wrong hf_shown e_BadLine hf_row, PySem.W.mg_of X G a8, k8, b8⟩, mono_law_with_fields⟩
  exact ⟨h_law_pick, h_law_plain, h_law_alone, h_law_with_fields, h_law_marks, trivial⟩
end K01

namespace K01
open PySem PySem.Spec L2 DL
/-! ### the drawing helpers -/
theorem pick_lst {c : Cl} {xs : List D} {K : D → Prop} (ne : xs ≠ []) (hz : xs.length ≤ 1000000) (h : ∀ y ∈ xs, K y) : S_law_pick c (.lst xs) K := by
  have : 0 < xs.length := List.length_pos_iff.mpr ne
  refine ⟨_, rfl, ⟨by omega, by omega⟩, fun k k0 k1 => ?_⟩
  obtain ⟨k, rfl⟩ := Int.eq_ofNat_of_zero_le k0
  have kl : k < xs.length := by omega
  exact ⟨xs[k], atI_nat (List.getElem?_eq_getElem kl), h _ (List.getElem_mem kl)⟩
/-! ### the marks of errors -/
theorem eqD_self {d : D} (h : shE d) : eqD d d = true := PySem.SeqAt.eqv_refl (toP d) h.1
theorem catL {xs ys : List D} {K : D → Prop} (n : Nat) (hn : n ≤ 1000) (hl : xs.length + ys.length = n) (k : K (.lst (xs ++ ys))) : binD .Add (.lst xs) (.lst ys) K := ⟨Nat.le_trans (Nat.le_of_eq hl) (Nat.le_trans hn (by decide)), k⟩
def marksL (m : Nat) : List D := (List.range 24).map fun i => .bl (decide (m = i + 1))
theorem marks_ok {c : Cl} {m : Nat} {fds : List (Str × D)} {K : D → Prop} (hm : m < 25) (k : K (.lst (marksL m))) : S_law_marks c (.exc (c.err m) fds) K := by
  refine ⟨m, hm, rfl, m, hm, rfl, m, hm, rfl, m, hm, rfl, m, hm, rfl, m, hm, rfl, catL 6 (by decide) rfl ?_⟩
  refine ⟨m, hm, rfl, m, hm, rfl, m, hm, rfl, catL 9 (by decide) rfl ?_⟩
  refine ⟨m, hm, rfl, m, hm, rfl, m, hm, rfl, catL 12 (by decide) rfl ?_⟩
  refine ⟨m, hm, rfl, m, hm, rfl, m, hm, rfl, catL 15 (by decide) rfl ?_⟩
  refine ⟨m, hm, rfl, m, hm, rfl, m, hm, rfl, catL 18 (by decide) rfl ?_⟩
  refine ⟨m, hm, rfl, m, hm, rfl, m, hm, rfl, catL 21 (by decide) rfl ?_⟩
  refine ⟨m, hm, rfl, m, hm, rfl, m, hm, rfl, catL 24 (by decide) rfl ?_⟩
  exact k
theorem shE_marks (m : Nat) : ∀ d ∈ marksL m, shE d := fun d hd => by
  obtain ⟨i, _, rfl⟩ := List.mem_map.mp hd
  exact shE_bl _
theorem alone_ok {c : Cl} {m : Nat} {fds : List (Str × D)} {K : D → Prop} (hm : m + 1 < 25) (k : K (.bl true)) : S_law_alone c (.exc (c.err (m + 1)) fds) (.int (m : Nat)) K := by
  refine ⟨⟨by decide, by decide⟩, ?_⟩
  have el : (rngD (24 : Int).toNat).map (fun d => match d with | .int i => D.bl (decide (i = (m : Int))) | _ => .non) = marksL (m + 1) := by
    unfold rngD marksL
    rw [List.map_map]
    refine List.map_congr_left fun i _ => ?_
    show D.bl (decide ((i : Int) = (m : Int))) = D.bl (decide (m + 1 = i + 1))
    congr 1
    by_cases h : i = m
    · subst h; simp
    · have h1 : ¬ ((i : Int) = (m : Int)) := by omega
      have h2 : ¬ (m + 1 = i + 1) := by omega
      rw [decide_eq_false h1, decide_eq_false h2]
  refine forS_map (fun d => match d with | .int i => D.bl (decide (i = (m : Int))) | _ => .non) (fun d acc N hd n => ?_) ?_
  · obtain ⟨i, _, rfl⟩ := List.mem_map.mp hd
    exact n
  rw [el]
  refine marks_ok hm ⟨shp_lst (shE_marks _), shp_lst (shE_marks _), ?_⟩
  have e : eqD (.lst (marksL (m + 1))) (.lst (marksL (m + 1))) = true := PySem.SeqAt.eqv_refl _ (shE_can (shE_marks _)).1
  rw [e]
  exact blS_bl (iT ⟨m + 1, hm, rfl, blS_bl (iT ⟨m + 1, hm, rfl, k⟩)⟩)
end K01

namespace K01
open PySem PySem.Spec L2 DL
theorem unpT {a b : D} {K : D → D → Prop} (h : K a b) : unp2 (.tup [a, b]) K := h
theorem walkL {ds : List D} {K : List D → Prop} (h : K ds) : walkD (.lst ds) K := h
theorem for_cons {σ : Type} {d : D} {ds : List D} {s : σ} {b : D → σ → (σ → Prop) → Prop} {K : σ → Prop} (h : b d s fun s' => forS ds s' b K) : forS (d :: ds) s b K := h
theorem for_nil {σ : Type} {s : σ} {b : D → σ → (σ → Prop) → Prop} {K : σ → Prop} (h : K s) : forS [] s b K := h
theorem fldI {c : Cl} {m : Nat} {f : Str} {v : D} {K : D → Prop} (hm : m < 25) (k : K v) : fldE 25 c f (.exc (c.err m) [(f, v)]) K := ⟨rfl, ⟨m, hm, rfl⟩, k⟩
def plainL (c : Cl) : List D := [0, 1, 2, 3, 4, 5, 9, 12, 13, 19, 20].map fun (p : Nat) => .tup [.int (p : Int), .exc (c.err (p + 1)) []]
theorem plain_ok {c : Cl} {d : D} {K : D → Prop} (k : K (.lst (plainL c))) : S_law_plain c d K :=
  catL 9 (by decide) rfl (catL 11 (by decide) rfl k)
def G3 (c : Cl) (v d : D) : Prop := ∃ (p : Nat) (f : Str), p + 1 < 25 ∧ d = .tup [.int (p : Int), .exc (c.err (p + 1)) [(f, v)], v]
theorem plain_all {c : Cl} : ∀ d ∈ plainL c, ∃ p : Nat, p + 1 < 25 ∧ d = .tup [.int (p : Int), .exc (c.err (p + 1)) []] := fun d hd => by
  obtain ⟨p, hp, rfl⟩ := List.mem_map.mp hd
  refine ⟨p, ?_, rfl⟩
  simp only [List.mem_cons, List.not_mem_nil, or_false] at hp
  omega
end K01

namespace K01
open PySem PySem.Spec L2 DL
theorem fdiv2 {i : Int} {K : D → Prop} (k : K (.int (i / 2))) : binD .FloorDiv (.int i) (.int 2) K := ⟨⟨by decide, by decide⟩, k⟩
theorem enumI {ds : List D} {K : List D → Prop} (h : K (enumD ds)) : enumS (.lst ds) K := h
theorem ixJ {xs : List D} {i : Int} (j : Nat) {d : D} {K : D → Prop} (hj : i = (j : Int)) (e : xs[j]? = some d) (k : K d) : ixU (.lst xs) (.int i) K := ⟨d, by rw [hj]; exact atI_nat e, k⟩
theorem with_ok {c : Cl} {v : D} {K : D → Prop} (k : ∀ L : List D, (∀ d ∈ L, G3 c v d) → K (.lst L)) : S_law_with_fields c v K := by
  have g : ∀ (p : Nat) (f : Str), p + 1 < 25 → G3 c v (.tup [.int (p : Int), .exc (c.err (p + 1)) [(f, v)], v]) := fun p f h => ⟨p, f, h, rfl⟩
  refine enumI ?_
  iterate 6 (refine for_cons (unpT (fdiv2 (addI (fldI (by decide) ?_)))))
  refine for_nil ?_
  refine catL 10 (by decide) rfl (catL 14 (by decide) rfl (enumI ?_))
  refine for_cons (unpT (fdiv2 (ixJ 0 (show ((0 : Nat) : Int) / 2 = ((0 : Nat) : Int) from by decide) rfl (fldI (by decide) ?_))))
  refine for_cons (unpT (fdiv2 (ixJ 0 (show ((1 : Nat) : Int) / 2 = ((0 : Nat) : Int) from by decide) rfl (fldI (by decide) ?_))))
  refine for_cons (unpT (fdiv2 (ixJ 1 (show ((2 : Nat) : Int) / 2 = ((1 : Nat) : Int) from by decide) rfl (fldI (by decide) ?_))))
  refine for_cons (unpT (fdiv2 (ixJ 1 (show ((3 : Nat) : Int) / 2 = ((1 : Nat) : Int) from by decide) rfl (fldI (by decide) ?_))))
  refine for_cons (unpT (fdiv2 (ixJ 2 (show ((4 : Nat) : Int) / 2 = ((2 : Nat) : Int) from by decide) rfl (fldI (by decide) ?_))))
  refine for_cons (unpT (fdiv2 (ixJ 2 (show ((5 : Nat) : Int) / 2 = ((2 : Nat) : Int) from by decide) rfl (fldI (by decide) ?_))))
  refine for_cons (unpT (fdiv2 (ixJ 3 (show ((6 : Nat) : Int) / 2 = ((3 : Nat) : Int) from by decide) rfl (fldI (by decide) ?_))))
  refine for_cons (unpT (fdiv2 (ixJ 3 (show ((7 : Nat) : Int) / 2 = ((3 : Nat) : Int) from by decide) rfl (fldI (by decide) ?_))))
  refine for_cons (unpT (fdiv2 (ixJ 4 (show ((8 : Nat) : Int) / 2 = ((4 : Nat) : Int) from by decide) rfl (fldI (by decide) ?_))))
  refine for_cons (unpT (fdiv2 (ixJ 4 (show ((9 : Nat) : Int) / 2 = ((4 : Nat) : Int) from by decide) rfl (fldI (by decide) ?_))))
  refine for_cons (unpT (fdiv2 (ixJ 5 (show ((10 : Nat) : Int) / 2 = ((5 : Nat) : Int) from by decide) rfl (fldI (by decide) ?_))))
  refine for_cons (unpT (fdiv2 (ixJ 5 (show ((11 : Nat) : Int) / 2 = ((5 : Nat) : Int) from by decide) rfl (fldI (by decide) ?_))))
  refine for_cons (unpT (fdiv2 (ixJ 6 (show ((12 : Nat) : Int) / 2 = ((6 : Nat) : Int) from by decide) rfl (fldI (by decide) ?_))))
  refine for_cons (unpT (fdiv2 (ixJ 6 (show ((13 : Nat) : Int) / 2 = ((6 : Nat) : Int) from by decide) rfl (fldI (by decide) ?_))))
  refine for_nil ?_
  refine catL 20 (by decide) rfl (walkL ?_)
  iterate 2 (refine for_cons (fldI (by decide) ?_))
  refine for_nil (catL 22 (by decide) rfl (walkL ?_))
  iterate 2 (refine for_cons (fldI (by decide) ?_))
  refine for_nil (catL 24 (by decide) rfl (walkL ?_))
  iterate 2 (refine for_cons (fldI (by decide) ?_))
  refine for_nil (catL 26 (by decide) rfl ?_)
  refine k _ fun d hd => ?_
  simp only [List.nil_append, List.cons_append, List.mem_cons, List.not_mem_nil, or_false] at hd
  rcases hd with rfl | hd
  · exact g 6 "part" (by decide)
  rcases hd with rfl | hd
  · exact g 6 "part" (by decide)
  rcases hd with rfl | hd
  · exact g 7 "part" (by decide)
  rcases hd with rfl | hd
  · exact g 7 "part" (by decide)
  rcases hd with rfl | hd
  · exact g 8 "part" (by decide)
  rcases hd with rfl | hd
  · exact g 8 "part" (by decide)
  rcases hd with rfl | hd
  · exact g 10 "at" (by decide)
  rcases hd with rfl | hd
  · exact g 10 "at" (by decide)
  rcases hd with rfl | hd
  · exact g 11 "at" (by decide)
  rcases hd with rfl | hd
  · exact g 11 "at" (by decide)
  rcases hd with rfl | hd
  · exact g 14 "at" (by decide)
  rcases hd with rfl | hd
  · exact g 14 "at" (by decide)
  rcases hd with rfl | hd
  · exact g 15 "at" (by decide)
  rcases hd with rfl | hd
  · exact g 15 "at" (by decide)
  rcases hd with rfl | hd
  · exact g 18 "at" (by decide)
  rcases hd with rfl | hd
  · exact g 18 "at" (by decide)
  rcases hd with rfl | hd
  · exact g 21 "at" (by decide)
  rcases hd with rfl | hd
  · exact g 21 "at" (by decide)
  rcases hd with rfl | hd
  · exact g 22 "at" (by decide)
  rcases hd with rfl | hd
  · exact g 22 "at" (by decide)
  rcases hd with rfl | hd
  · exact g 16 "most" (by decide)
  rcases hd with rfl | hd
  · exact g 16 "most" (by decide)
  rcases hd with rfl | hd
  · exact g 17 "shown" (by decide)
  rcases hd with rfl | hd
  · exact g 17 "shown" (by decide)
  rcases hd with rfl | hd
  · exact g 23 "row" (by decide)
  subst hd
  exact g 23 "row" (by decide)
end K01

namespace K01
open PySem PySem.Spec L2 DL
theorem takeN {n : Int} {K : D → Prop} (h0 : 0 < n) (h1 : n < 2 ^ 64) (h : ∀ k : Int, 0 ≤ k → k < n → K (.int k)) : takeS (.int n) K := ⟨n, rfl, ⟨h0, h1⟩, h⟩
theorem rp_e12 : Rp 60 0 (.int (10 ^ 12)) := ⟨rfl, rfl, by decide +kernel, by decide +kernel, by decide +kernel⟩
theorem unpT3 {a b d : D} {K : D → D → D → Prop} (h : K a b d) : unp3 (.tup [a, b, d]) K := h
theorem neLn {xs : List D} {K : Bool → Prop} (hs : ∀ d ∈ xs, shE d) (h : K (!xs.isEmpty)) : cmpU .NotEq (.lst xs) (.lst []) K := ⟨shp_lst hs, shp_nil, by rw [eqD_nil]; exact h⟩
theorem neS' {a : Str} {K : Bool → Prop} (h : K false) : cmpU .NotEq (.str a) (.str a) K := by
  show K (!decide (a = a))
  rw [decide_eq_true rfl]; exact h
theorem law_turn {c : Cl} {v : D} {w dp : Nat} (h : Rp w dp v) (hw : w ≤ 2 ^ 20) (hd : dp ≤ 64) {A B : Prop} (k : B) : S_law_with_fields c v fun d44 => walkD d44 fun ds43 => forS ds43 () (fun d39 (s41 : Unit) n40 => unp3 d39 fun d52 d53 d54 => ifS (fun k => S_law_alone c d53 d52 fun d55 => blS d55 fun t56 => if (!t56) = true then k true else rprU [d54] fun d58 => rprU [v] fun d59 => cmpU .NotEq d58 d59 fun t57 => k t57) A (n40 ())) fun s42 => B := by
  refine with_ok fun L hL => walkL (forS_any (fun _ => True) trivial (fun d s N hd2 _ nx => ?_) (fun _ _ => k))
  obtain ⟨p, f, hp, rfl⟩ := hL d hd2
  exact unpT3 (if_in (alone_ok hp (blS_bl (iF (h.run hw hd (h.run hw hd (neS' (iF (nx _ trivial)))))))))
end K01

namespace K01
open PySem PySem.Spec L2 DL
theorem shp_rep (n : Nat) (b : Bool) : shp (.lst (List.replicate n [D.bl b]).flatten) := shp_lst fun d hd => by
  obtain ⟨l, hl, hd⟩ := List.mem_flatten.mp hd
  rw [(List.mem_replicate.mp hl).2] at hd
  rw [List.mem_singleton.mp hd]; exact shE_bl _
theorem neLst {x y : List D} {K : Bool → Prop} (h1 : shp (.lst x)) (h2 : shp (.lst y)) (e : eqD (.lst x) (.lst y) = true) (k : K false) : cmpU .NotEq (.lst x) (.lst y) K := ⟨h1, h2, by rw [e]; exact k⟩
theorem eq_ground : eqD (.lst (marksL 0)) (.lst (List.replicate 24 [D.bl false]).flatten) = true := by decide +kernel
theorem plain_law : ∀ (c : Cl) (n : Nat), n ≤ 63 → S_law c n fun d => d = .bl true := by
  intro c n hn
  have big : 20000 < sizeLine := by decide
  refine min_of fun m m1 m2 m3 => addI ⟨⟨by omega, by omega⟩, ?_⟩
  refine forS_any (fun _ => True) trivial (fun d s N _ _ nx => ?_) (fun _ _ => rfl)
  refine pick_lst (by simp) (by show 4 ≤ 1000000; decide) fun y hy => ⟨?_, ?_⟩
  · first | decide | exact ⟨by decide, by decide⟩ | exact ⟨by decide, by decide, by decide⟩
  refine pick_lst (by simp) (by show 9 ≤ 1000000; decide) fun v hv => ?_
  have hr : ∃ w dp, Rp w dp v ∧ w ≤ 2 ^ 20 ∧ dp ≤ 64 := by
    simp only [List.mem_cons, List.not_mem_nil, or_false] at hv
    rcases hv with rfl | rfl | rfl | rfl | rfl | rfl | rfl | rfl | rfl
    · exact ⟨_, _, rp_int (by decide), by decide, by decide⟩
    · exact ⟨_, _, rp_int (by decide), by decide, by decide⟩
    · exact ⟨_, _, rp_int (by decide), by decide, by decide⟩
    · exact ⟨_, _, rp_non, by decide, by decide⟩
    · exact ⟨_, _, rp_str (by decide) (by decide +kernel), by decide, by decide⟩
    · exact ⟨_, _, rp_tupL (rpl_cons (rp_int (by decide)) (Nat.zero_le 0) (rpl_cons rp_non (Nat.zero_le 0) rpl_nil)), by decide, by decide⟩
    · exact ⟨_, _, rp_tupL (rpl_cons (dp := 1) (rp_str (by decide) (by decide +kernel)) (Nat.zero_le 1) (rpl_cons (rp_tupL (rpl_cons (rp_int (by decide)) (Nat.zero_le 0) rpl_nil)) (Nat.le_refl 1) rpl_nil)), by decide, by decide⟩
    · exact ⟨_, _, rp_lst (w := 41) (dp := 0) (fun d hd => by rw [List.mem_singleton.mp hd]; exact rp_int (by decide)), by decide, by decide⟩
    · exact ⟨_, _, rp_e12, by decide, by decide⟩
  obtain ⟨w, dp, hr, hw, hdp⟩ := hr
  refine if_in (plain_ok (walkL (forS_of (fun _ acc => acc = []) rfl (fun i d acc N2 hd hp nx2 => ?_) (fun acc hp => ?_))))
  · obtain ⟨p, hp25, rfl⟩ := plain_all d (List.mem_of_getElem? hd)
    exact unpT (if_in (alone_ok hp25 (blS_bl (iF (nx2 _ hp)))))
  subst hp
  refine neLn (fun d hd => absurd hd List.not_mem_nil) (iF ?_)
  refine law_turn hr hw hdp ?_
  refine if_in (marks_ok (by decide) ⟨⟨by decide, by decide, by show 1 * 24 ≤ sizeLine; omega⟩, neLst (shp_lst (shE_marks 0)) (shp_rep _ _) eq_ground (iF ⟨0, by decide, rfl, blS_bl (iF (nx _ trivial))⟩)⟩)
end K01

open PySem PySem.W PyProof.Rows
set_option maxRecDepth 100000 in
set_option maxHeartbeats 0 in
theorem PySem.Challenge.cw_otherworths_k01_errors_by_hand_holds : PySem.Challenge.rw_otherworths_k01_errors_by_hand.Holds := by
  w_on; o_law; k_head; (case hw => w_witness2)
  k_fill
  refine DL.walk_law (l := PySem.Challenge.rw_otherworths_k01_errors_by_hand) (n := 63) (k := 8) (x := "_law_script") (sp := DL.spLaw []) rfl (by decide) (by decide +kernel) rfl ⟨rfl, by decide, by decide⟩ (fun w h Y => PySem.W.kIn_of Y) ?F (fun K H a ns hl hS => ⟨a, ns, rfl, hS, hl, (fun _ h => nomatch h), fun _ _ e => e⟩)
  case F =>
    intro w mg fa h KX G hmg
    refine' K01.all_mk KX G hmg K01.plain_law ?zm_len ?zm_isinstance ?zm_range ?zm_enumerate ?zm_min ?zm_repr ?aE0 ?aE1 ?aE2 ?aE3 ?aE4 ?aE5 ?aE6 ?aE7 ?aE8 ?aE9 ?aE10 ?aE11 ?aE12 ?aE13 ?aE14 ?aE15 ?aE16 ?aE17 ?aE18 ?aE19 ?aE20 ?aE21 ?aE22 ?aE23 ?aE24 ?ndE ?hH ?mE0 ?mEs ?hf_part ?hf_at ?hf_most ?hf_shown ?hf_row ?zVE ?kVE ?e_BadShape ?e_BadName ?e_BadCondition ?e_BadRow ?e_BadAsking ?e_BadChoice ?e_BadPlan ?e_OtherShape ?e_BadGuard ?e_NoPlan ?e_NothingDone ?e_BadBook ?e_NoPart ?e_BadTable ?e_BadBounds ?e_BadZone ?e_BadTest ?e_BadPlans ?e_Unfit ?e_BadJournal ?e_BadText ?e_TooMany ?e_Wrong ?e_BadLine ?e_WorthError ?zm_int ?zm_abs ?a1 ?l1 ?c1 ?k1 ?a2 ?l2 ?c2 ?k2 ?a3 ?l3 ?c3 ?k3 ?a4 ?l4 ?c4 ?k4 ?a5 ?l5 ?c5 ?k5 ?a6 ?l6 ?c6 ?k6 ?a7 ?l7 ?c7 ?k7 ?a8 ?l8 ?c8 ?k8 ?a9 ?l9 ?c9 ?k9
    (case zm_len => k_is)
    (case zm_isinstance => k_is)
    (case zm_range => k_is)
    (case zm_enumerate => k_is)
    (case zm_min => k_is)
    (case zm_repr => k_is)
    (case aE0 => k_is)
    (case aE1 => k_is)
    (case aE2 => k_is)
    (case aE3 => k_is)
    (case aE4 => k_is)
    (case aE5 => k_is)
    (case aE6 => k_is)
    (case aE7 => k_is)
    (case aE8 => k_is)
    (case aE9 => k_is)
    (case aE10 => k_is)
    (case aE11 => k_is)
    (case aE12 => k_is)
    (case aE13 => k_is)
    (case aE14 => k_is)
    (case aE15 => k_is)
    (case aE16 => k_is)
    (case aE17 => k_is)
    (case aE18 => k_is)
    (case aE19 => k_is)
    (case aE20 => k_is)
    (case aE21 => k_is)
    (case aE22 => k_is)
    (case aE23 => k_is)
    (case aE24 => k_is)
    (case ndE => decide)
    (case hH => exact DL.ErrHs.of (es := [_, _, _, _, _, _, _, _, _, _, _, _, _, _, _, _, _, _, _, _, _, _, _, _, _]) rfl (.cons ⟨⟨by k_is, by k_is, by k_is, by k_is, by k_is, by k_is, by k_is, by k_is⟩, ⟨by k_is, by k_is, by k_is, by k_is⟩⟩ (.cons ⟨⟨by k_is, by k_is, by k_is, by k_is, by k_is, by k_is, by k_is, by k_is⟩, ⟨by k_is, by k_is, by k_is, by k_is⟩⟩ (.cons ⟨⟨by k_is, by k_is, by k_is, by k_is, by k_is, by k_is, by k_is, by k_is⟩, ⟨by k_is, by k_is, by k_is, by k_is⟩⟩ (.cons ⟨⟨by k_is, by k_is, by k_is, by k_is, by k_is, by k_is, by k_is, by k_is⟩, ⟨by k_is, by k_is, by k_is, by k_is⟩⟩ (.cons ⟨⟨by k_is, by k_is, by k_is, by k_is, by k_is, by k_is, by k_is, by k_is⟩, ⟨by k_is, by k_is, by k_is, by k_is⟩⟩ (.cons ⟨⟨by k_is, by k_is, by k_is, by k_is, by k_is, by k_is, by k_is, by k_is⟩, ⟨by k_is, by k_is, by k_is, by k_is⟩⟩ (.cons ⟨⟨by k_is, by k_is, by k_is, by k_is, by k_is, by k_is, by k_is, by k_is⟩, ⟨by k_is, by k_is, by k_is, by k_is⟩⟩ (.cons ⟨⟨by k_is, by k_is, by k_is, by k_is, by k_is, by k_is, by k_is, by k_is⟩, ⟨by k_is, by k_is, by k_is, by k_is⟩⟩ (.cons ⟨⟨by k_is, by k_is, by k_is, by k_is, by k_is, by k_is, by k_is, by k_is⟩, ⟨by k_is, by k_is, by k_is, by k_is⟩⟩ (.cons ⟨⟨by k_is, by k_is, by k_is, by k_is, by k_is, by k_is, by k_is, by k_is⟩, ⟨by k_is, by k_is, by k_is, by k_is⟩⟩ (.cons ⟨⟨by k_is, by k_is, by k_is, by k_is, by k_is, by k_is, by k_is, by k_is⟩, ⟨by k_is, by k_is, by k_is, by k_is⟩⟩ (.cons ⟨⟨by k_is, by k_is, by k_is, by k_is, by k_is, by k_is, by k_is, by k_is⟩, ⟨by k_is, by k_is, by k_is, by k_is⟩⟩ (.cons ⟨⟨by k_is, by k_is, by k_is, by k_is, by k_is, by k_is, by k_is, by k_is⟩, ⟨by k_is, by k_is, by k_is, by k_is⟩⟩ (.cons ⟨⟨by k_is, by k_is, by k_is, by k_is, by k_is, by k_is, by k_is, by k_is⟩, ⟨by k_is, by k_is, by k_is, by k_is⟩⟩ (.cons ⟨⟨by k_is, by k_is, by k_is, by k_is, by k_is, by k_is, by k_is, by k_is⟩, ⟨by k_is, by k_is, by k_is, by k_is⟩⟩ (.cons ⟨⟨by k_is, by k_is, by k_is, by k_is, by k_is, by k_is, by k_is, by k_is⟩, ⟨by k_is, by k_is, by k_is, by k_is⟩⟩ (.cons ⟨⟨by k_is, by k_is, by k_is, by k_is, by k_is, by k_is, by k_is, by k_is⟩, ⟨by k_is, by k_is, by k_is, by k_is⟩⟩ (.cons ⟨⟨by k_is, by k_is, by k_is, by k_is, by k_is, by k_is, by k_is, by k_is⟩, ⟨by k_is, by k_is, by k_is, by k_is⟩⟩ (.cons ⟨⟨by k_is, by k_is, by k_is, by k_is, by k_is, by k_is, by k_is, by k_is⟩, ⟨by k_is, by k_is, by k_is, by k_is⟩⟩ (.cons ⟨⟨by k_is, by k_is, by k_is, by k_is, by k_is, by k_is, by k_is, by k_is⟩, ⟨by k_is, by k_is, by k_is, by k_is⟩⟩ (.cons ⟨⟨by k_is, by k_is, by k_is, by k_is, by k_is, by k_is, by k_is, by k_is⟩, ⟨by k_is, by k_is, by k_is, by k_is⟩⟩ (.cons ⟨⟨by k_is, by k_is, by k_is, by k_is, by k_is, by k_is, by k_is, by k_is⟩, ⟨by k_is, by k_is, by k_is, by k_is⟩⟩ (.cons ⟨⟨by k_is, by k_is, by k_is, by k_is, by k_is, by k_is, by k_is, by k_is⟩, ⟨by k_is, by k_is, by k_is, by k_is⟩⟩ (.cons ⟨⟨by k_is, by k_is, by k_is, by k_is, by k_is, by k_is, by k_is, by k_is⟩, ⟨by k_is, by k_is, by k_is, by k_is⟩⟩ (.cons ⟨⟨by k_is, by k_is, by k_is, by k_is, by k_is, by k_is, by k_is, by k_is⟩, ⟨by k_is, by k_is, by k_is, by k_is⟩⟩ (.nil)))))))))))))))))))))))))))
    (case mE0 => exact DL.EM.of2 (by k_is) (by k_is) (by rfl))
    (case mEs => exact .cons (DL.EM.of2 (by k_is) (by k_is) (by rfl)) (.cons (DL.EM.of2 (by k_is) (by k_is) (by rfl)) (.cons (DL.EM.of2 (by k_is) (by k_is) (by rfl)) (.cons (DL.EM.of2 (by k_is) (by k_is) (by rfl)) (.cons (DL.EM.of2 (by k_is) (by k_is) (by rfl)) (.cons (DL.EM.of2 (by k_is) (by k_is) (by rfl)) (.cons (DL.EM.of2 (by k_is) (by k_is) (by rfl)) (.cons (DL.EM.of2 (by k_is) (by k_is) (by rfl)) (.cons (DL.EM.of2 (by k_is) (by k_is) (by rfl)) (.cons (DL.EM.of2 (by k_is) (by k_is) (by rfl)) (.cons (DL.EM.of2 (by k_is) (by k_is) (by rfl)) (.cons (DL.EM.of2 (by k_is) (by k_is) (by rfl)) (.cons (DL.EM.of2 (by k_is) (by k_is) (by rfl)) (.cons (DL.EM.of2 (by k_is) (by k_is) (by rfl)) (.cons (DL.EM.of2 (by k_is) (by k_is) (by rfl)) (.cons (DL.EM.of2 (by k_is) (by k_is) (by rfl)) (.cons (DL.EM.of2 (by k_is) (by k_is) (by rfl)) (.cons (DL.EM.of2 (by k_is) (by k_is) (by rfl)) (.cons (DL.EM.of2 (by k_is) (by k_is) (by rfl)) (.cons (DL.EM.of2 (by k_is) (by k_is) (by rfl)) (.cons (DL.EM.of2 (by k_is) (by k_is) (by rfl)) (.cons (DL.EM.of2 (by k_is) (by k_is) (by rfl)) (.cons (DL.EM.of2 (by k_is) (by k_is) (by rfl)) (.cons (DL.EM.of2 (by k_is) (by k_is) (by rfl)) (.nil)))))))))))))))))))))))))
    (case hf_part => exact DL.fieldE_of (es := [_, _, _, _, _, _, _, _, _, _, _, _, _, _, _, _, _, _, _, _, _, _, _, _, _]) rfl (.cons (by k_is) (.cons (by k_is) (.cons (by k_is) (.cons (by k_is) (.cons (by k_is) (.cons (by k_is) (.cons (by k_is) (.cons (by k_is) (.cons (by k_is) (.cons (by k_is) (.cons (by k_is) (.cons (by k_is) (.cons (by k_is) (.cons (by k_is) (.cons (by k_is) (.cons (by k_is) (.cons (by k_is) (.cons (by k_is) (.cons (by k_is) (.cons (by k_is) (.cons (by k_is) (.cons (by k_is) (.cons (by k_is) (.cons (by k_is) (.cons (by k_is) (.nil)))))))))))))))))))))))))))
    (case hf_at => exact DL.fieldE_of (es := [_, _, _, _, _, _, _, _, _, _, _, _, _, _, _, _, _, _, _, _, _, _, _, _, _]) rfl (.cons (by k_is) (.cons (by k_is) (.cons (by k_is) (.cons (by k_is) (.cons (by k_is) (.cons (by k_is) (.cons (by k_is) (.cons (by k_is) (.cons (by k_is) (.cons (by k_is) (.cons (by k_is) (.cons (by k_is) (.cons (by k_is) (.cons (by k_is) (.cons (by k_is) (.cons (by k_is) (.cons (by k_is) (.cons (by k_is) (.cons (by k_is) (.cons (by k_is) (.cons (by k_is) (.cons (by k_is) (.cons (by k_is) (.cons (by k_is) (.cons (by k_is) (.nil)))))))))))))))))))))))))))
    (case hf_most => exact DL.fieldE_of (es := [_, _, _, _, _, _, _, _, _, _, _, _, _, _, _, _, _, _, _, _, _, _, _, _, _]) rfl (.cons (by k_is) (.cons (by k_is) (.cons (by k_is) (.cons (by k_is) (.cons (by k_is) (.cons (by k_is) (.cons (by k_is) (.cons (by k_is) (.cons (by k_is) (.cons (by k_is) (.cons (by k_is) (.cons (by k_is) (.cons (by k_is) (.cons (by k_is) (.cons (by k_is) (.cons (by k_is) (.cons (by k_is) (.cons (by k_is) (.cons (by k_is) (.cons (by k_is) (.cons (by k_is) (.cons (by k_is) (.cons (by k_is) (.cons (by k_is) (.cons (by k_is) (.nil)))))))))))))))))))))))))))
    (case hf_shown => exact DL.fieldE_of (es := [_, _, _, _, _, _, _, _, _, _, _, _, _, _, _, _, _, _, _, _, _, _, _, _, _]) rfl (.cons (by k_is) (.cons (by k_is) (.cons (by k_is) (.cons (by k_is) (.cons (by k_is) (.cons (by k_is) (.cons (by k_is) (.cons (by k_is) (.cons (by k_is) (.cons (by k_is) (.cons (by k_is) (.cons (by k_is) (.cons (by k_is) (.cons (by k_is) (.cons (by k_is) (.cons (by k_is) (.cons (by k_is) (.cons (by k_is) (.cons (by k_is) (.cons (by k_is) (.cons (by k_is) (.cons (by k_is) (.cons (by k_is) (.cons (by k_is) (.cons (by k_is) (.nil)))))))))))))))))))))))))))
    (case hf_row => exact DL.fieldE_of (es := [_, _, _, _, _, _, _, _, _, _, _, _, _, _, _, _, _, _, _, _, _, _, _, _, _]) rfl (.cons (by k_is) (.cons (by k_is) (.cons (by k_is) (.cons (by k_is) (.cons (by k_is) (.cons (by k_is) (.cons (by k_is) (.cons (by k_is) (.cons (by k_is) (.cons (by k_is) (.cons (by k_is) (.cons (by k_is) (.cons (by k_is) (.cons (by k_is) (.cons (by k_is) (.cons (by k_is) (.cons (by k_is) (.cons (by k_is) (.cons (by k_is) (.cons (by k_is) (.cons (by k_is) (.cons (by k_is) (.cons (by k_is) (.cons (by k_is) (.cons (by k_is) (.nil)))))))))))))))))))))))))))
    (case zVE => k_is)
    (case kVE => kit_is)
    (case e_BadShape => exact ⟨PySem.W.mg_of KX G (by k_is), by k_exc, by k_is, by k_is, by k_is⟩)
    (case e_BadName => exact ⟨PySem.W.mg_of KX G (by k_is), by k_exc, by k_is, by k_is, by k_is⟩)
    (case e_BadCondition => exact ⟨PySem.W.mg_of KX G (by k_is), by k_exc, by k_is, by k_is, by k_is⟩)
    (case e_BadRow => exact ⟨PySem.W.mg_of KX G (by k_is), by k_exc, by k_is, by k_is, by k_is⟩)
    (case e_BadAsking => exact ⟨PySem.W.mg_of KX G (by k_is), by k_exc, by k_is, by k_is, by k_is⟩)
    (case e_BadChoice => exact ⟨PySem.W.mg_of KX G (by k_is), by k_exc, by k_is, by k_is, by k_is⟩)
    (case e_BadPlan => exact ⟨PySem.W.mg_of KX G (by k_is), by k_exc, by k_is, by k_is, by k_is⟩)
    (case e_OtherShape => exact ⟨PySem.W.mg_of KX G (by k_is), by k_exc, by k_is, by k_is, by k_is⟩)
    (case e_BadGuard => exact ⟨PySem.W.mg_of KX G (by k_is), by k_exc, by k_is, by k_is, by k_is⟩)
    (case e_NoPlan => exact ⟨PySem.W.mg_of KX G (by k_is), by k_exc, by k_is, by k_is, by k_is⟩)
    (case e_NothingDone => exact ⟨PySem.W.mg_of KX G (by k_is), by k_exc, by k_is, by k_is, by k_is⟩)
    (case e_BadBook => (refine' DL.errA_mk KX G DX.fld_part ?za ?zzs ?zlc ?zrv ?zsa ?znf ?zkp ?zhs ?zve ?zty ?zhd ?zsi ?zmo ?zop ?ztp ?zfi ?zti ?zlI ?zcI ?zev ?zlk ?zlv ?zlf ?zll; (case za => k_is); (case zzs => k_is); (case zlc => k_is); (case zrv => decide); (case zsa => k_is); (case znf => k_is); (case zkp => k_is); (case zhs => k_is); (case zve => k_is); (case zty => k_is); (case zhd => k_is); (case zsi => ks_is); (case zmo => k_is); (case zop => k_is); (case ztp => decide +kernel); (case zfi => k_is); (case zti => k_is); (case zlI => k_is); (case zcI => k_is); (case zev => exact ⟨_, fun _ => rfl⟩); (case zlk => k_is); (case zlv => rfl); (case zlf => decide +kernel); (case zll => k_is)))
    (case e_NoPart => (refine' DL.errA_mk KX G DX.fld_part ?za ?zzs ?zlc ?zrv ?zsa ?znf ?zkp ?zhs ?zve ?zty ?zhd ?zsi ?zmo ?zop ?ztp ?zfi ?zti ?zlI ?zcI ?zev ?zlk ?zlv ?zlf ?zll; (case za => k_is); (case zzs => k_is); (case zlc => k_is); (case zrv => decide); (case zsa => k_is); (case znf => k_is); (case zkp => k_is); (case zhs => k_is); (case zve => k_is); (case zty => k_is); (case zhd => k_is); (case zsi => ks_is); (case zmo => k_is); (case zop => k_is); (case ztp => decide +kernel); (case zfi => k_is); (case zti => k_is); (case zlI => k_is); (case zcI => k_is); (case zev => exact ⟨_, fun _ => rfl⟩); (case zlk => k_is); (case zlv => rfl); (case zlf => decide +kernel); (case zll => k_is)))
    (case e_BadTable => (refine' DL.errA_mk KX G DX.fld_part ?za ?zzs ?zlc ?zrv ?zsa ?znf ?zkp ?zhs ?zve ?zty ?zhd ?zsi ?zmo ?zop ?ztp ?zfi ?zti ?zlI ?zcI ?zev ?zlk ?zlv ?zlf ?zll; (case za => k_is); (case zzs => k_is); (case zlc => k_is); (case zrv => decide); (case zsa => k_is); (case znf => k_is); (case zkp => k_is); (case zhs => k_is); (case zve => k_is); (case zty => k_is); (case zhd => k_is); (case zsi => ks_is); (case zmo => k_is); (case zop => k_is); (case ztp => decide +kernel); (case zfi => k_is); (case zti => k_is); (case zlI => k_is); (case zcI => k_is); (case zev => exact ⟨_, fun _ => rfl⟩); (case zlk => k_is); (case zlv => rfl); (case zlf => decide +kernel); (case zll => k_is)))
    (case e_BadBounds => (refine' DL.errA_mk KX G DX.fld_at ?za ?zzs ?zlc ?zrv ?zsa ?znf ?zkp ?zhs ?zve ?zty ?zhd ?zsi ?zmo ?zop ?ztp ?zfi ?zti ?zlI ?zcI ?zev ?zlk ?zlv ?zlf ?zll; (case za => k_is); (case zzs => k_is); (case zlc => k_is); (case zrv => decide); (case zsa => k_is); (case znf => k_is); (case zkp => k_is); (case zhs => k_is); (case zve => k_is); (case zty => k_is); (case zhd => k_is); (case zsi => ks_is); (case zmo => k_is); (case zop => k_is); (case ztp => decide +kernel); (case zfi => k_is); (case zti => k_is); (case zlI => k_is); (case zcI => k_is); (case zev => exact ⟨_, fun _ => rfl⟩); (case zlk => k_is); (case zlv => rfl); (case zlf => decide +kernel); (case zll => k_is)))
    (case e_BadZone => (refine' DL.errA_mk KX G DX.fld_at ?za ?zzs ?zlc ?zrv ?zsa ?znf ?zkp ?zhs ?zve ?zty ?zhd ?zsi ?zmo ?zop ?ztp ?zfi ?zti ?zlI ?zcI ?zev ?zlk ?zlv ?zlf ?zll; (case za => k_is); (case zzs => k_is); (case zlc => k_is); (case zrv => decide); (case zsa => k_is); (case znf => k_is); (case zkp => k_is); (case zhs => k_is); (case zve => k_is); (case zty => k_is); (case zhd => k_is); (case zsi => ks_is); (case zmo => k_is); (case zop => k_is); (case ztp => decide +kernel); (case zfi => k_is); (case zti => k_is); (case zlI => k_is); (case zcI => k_is); (case zev => exact ⟨_, fun _ => rfl⟩); (case zlk => k_is); (case zlv => rfl); (case zlf => decide +kernel); (case zll => k_is)))
    (case e_BadTest => (refine' DL.errA_mk KX G DX.fld_at ?za ?zzs ?zlc ?zrv ?zsa ?znf ?zkp ?zhs ?zve ?zty ?zhd ?zsi ?zmo ?zop ?ztp ?zfi ?zti ?zlI ?zcI ?zev ?zlk ?zlv ?zlf ?zll; (case za => k_is); (case zzs => k_is); (case zlc => k_is); (case zrv => decide); (case zsa => k_is); (case znf => k_is); (case zkp => k_is); (case zhs => k_is); (case zve => k_is); (case zty => k_is); (case zhd => k_is); (case zsi => ks_is); (case zmo => k_is); (case zop => k_is); (case ztp => decide +kernel); (case zfi => k_is); (case zti => k_is); (case zlI => k_is); (case zcI => k_is); (case zev => exact ⟨_, fun _ => rfl⟩); (case zlk => k_is); (case zlv => rfl); (case zlf => decide +kernel); (case zll => k_is)))
    (case e_BadPlans => (refine' DL.errA_mk KX G DX.fld_at ?za ?zzs ?zlc ?zrv ?zsa ?znf ?zkp ?zhs ?zve ?zty ?zhd ?zsi ?zmo ?zop ?ztp ?zfi ?zti ?zlI ?zcI ?zev ?zlk ?zlv ?zlf ?zll; (case za => k_is); (case zzs => k_is); (case zlc => k_is); (case zrv => decide); (case zsa => k_is); (case znf => k_is); (case zkp => k_is); (case zhs => k_is); (case zve => k_is); (case zty => k_is); (case zhd => k_is); (case zsi => ks_is); (case zmo => k_is); (case zop => k_is); (case ztp => decide +kernel); (case zfi => k_is); (case zti => k_is); (case zlI => k_is); (case zcI => k_is); (case zev => exact ⟨_, fun _ => rfl⟩); (case zlk => k_is); (case zlv => rfl); (case zlf => decide +kernel); (case zll => k_is)))
    (case e_Unfit => (refine' DL.errA_mk KX G DX.fld_at ?za ?zzs ?zlc ?zrv ?zsa ?znf ?zkp ?zhs ?zve ?zty ?zhd ?zsi ?zmo ?zop ?ztp ?zfi ?zti ?zlI ?zcI ?zev ?zlk ?zlv ?zlf ?zll; (case za => k_is); (case zzs => k_is); (case zlc => k_is); (case zrv => decide); (case zsa => k_is); (case znf => k_is); (case zkp => k_is); (case zhs => k_is); (case zve => k_is); (case zty => k_is); (case zhd => k_is); (case zsi => ks_is); (case zmo => k_is); (case zop => k_is); (case ztp => decide +kernel); (case zfi => k_is); (case zti => k_is); (case zlI => k_is); (case zcI => k_is); (case zev => exact ⟨_, fun _ => rfl⟩); (case zlk => k_is); (case zlv => rfl); (case zlf => decide +kernel); (case zll => k_is)))
    (case e_BadJournal => (refine' DL.errA_mk KX G DX.fld_at ?za ?zzs ?zlc ?zrv ?zsa ?znf ?zkp ?zhs ?zve ?zty ?zhd ?zsi ?zmo ?zop ?ztp ?zfi ?zti ?zlI ?zcI ?zev ?zlk ?zlv ?zlf ?zll; (case za => k_is); (case zzs => k_is); (case zlc => k_is); (case zrv => decide); (case zsa => k_is); (case znf => k_is); (case zkp => k_is); (case zhs => k_is); (case zve => k_is); (case zty => k_is); (case zhd => k_is); (case zsi => ks_is); (case zmo => k_is); (case zop => k_is); (case ztp => decide +kernel); (case zfi => k_is); (case zti => k_is); (case zlI => k_is); (case zcI => k_is); (case zev => exact ⟨_, fun _ => rfl⟩); (case zlk => k_is); (case zlv => rfl); (case zlf => decide +kernel); (case zll => k_is)))
    (case e_BadText => (refine' DL.errA_mk KX G DX.fld_at ?za ?zzs ?zlc ?zrv ?zsa ?znf ?zkp ?zhs ?zve ?zty ?zhd ?zsi ?zmo ?zop ?ztp ?zfi ?zti ?zlI ?zcI ?zev ?zlk ?zlv ?zlf ?zll; (case za => k_is); (case zzs => k_is); (case zlc => k_is); (case zrv => decide); (case zsa => k_is); (case znf => k_is); (case zkp => k_is); (case zhs => k_is); (case zve => k_is); (case zty => k_is); (case zhd => k_is); (case zsi => ks_is); (case zmo => k_is); (case zop => k_is); (case ztp => decide +kernel); (case zfi => k_is); (case zti => k_is); (case zlI => k_is); (case zcI => k_is); (case zev => exact ⟨_, fun _ => rfl⟩); (case zlk => k_is); (case zlv => rfl); (case zlf => decide +kernel); (case zll => k_is)))
    (case e_TooMany => (refine' DL.errA_mk KX G DX.fld_most ?za ?zzs ?zlc ?zrv ?zsa ?znf ?zkp ?zhs ?zve ?zty ?zhd ?zsi ?zmo ?zop ?ztp ?zfi ?zti ?zlI ?zcI ?zev ?zlk ?zlv ?zlf ?zll; (case za => k_is); (case zzs => k_is); (case zlc => k_is); (case zrv => decide); (case zsa => k_is); (case znf => k_is); (case zkp => k_is); (case zhs => k_is); (case zve => k_is); (case zty => k_is); (case zhd => k_is); (case zsi => ks_is); (case zmo => k_is); (case zop => k_is); (case ztp => decide +kernel); (case zfi => k_is); (case zti => k_is); (case zlI => k_is); (case zcI => k_is); (case zev => exact ⟨_, fun _ => rfl⟩); (case zlk => k_is); (case zlv => rfl); (case zlf => decide +kernel); (case zll => k_is)))
    (case e_Wrong => (refine' DL.errA_mk KX G DX.fld_shown ?za ?zzs ?zlc ?zrv ?zsa ?znf ?zkp ?zhs ?zve ?zty ?zhd ?zsi ?zmo ?zop ?ztp ?zfi ?zti ?zlI ?zcI ?zev ?zlk ?zlv ?zlf ?zll; (case za => k_is); (case zzs => k_is); (case zlc => k_is); (case zrv => decide); (case zsa => k_is); (case znf => k_is); (case zkp => k_is); (case zhs => k_is); (case zve => k_is); (case zty => k_is); (case zhd => k_is); (case zsi => ks_is); (case zmo => k_is); (case zop => k_is); (case ztp => decide +kernel); (case zfi => k_is); (case zti => k_is); (case zlI => k_is); (case zcI => k_is); (case zev => exact ⟨_, fun _ => rfl⟩); (case zlk => k_is); (case zlv => rfl); (case zlf => decide +kernel); (case zll => k_is)))
    (case e_BadLine => (refine' DL.errA_mk KX G DX.fld_row ?za ?zzs ?zlc ?zrv ?zsa ?znf ?zkp ?zhs ?zve ?zty ?zhd ?zsi ?zmo ?zop ?ztp ?zfi ?zti ?zlI ?zcI ?zev ?zlk ?zlv ?zlf ?zll; (case za => k_is); (case zzs => k_is); (case zlc => k_is); (case zrv => decide); (case zsa => k_is); (case znf => k_is); (case zkp => k_is); (case zhs => k_is); (case zve => k_is); (case zty => k_is); (case zhd => k_is); (case zsi => ks_is); (case zmo => k_is); (case zop => k_is); (case ztp => decide +kernel); (case zfi => k_is); (case zti => k_is); (case zlI => k_is); (case zcI => k_is); (case zev => exact ⟨_, fun _ => rfl⟩); (case zlk => k_is); (case zlv => rfl); (case zlf => decide +kernel); (case zll => k_is)))
    (case e_WorthError => exact ⟨PySem.W.mg_of KX G (by k_is), by k_exc, by k_is, by k_is, by k_is⟩)
    (case zm_int => k_is)
    (case zm_abs => k_is)
    (case a1 => k_is)
    (case l1 => k_is)
    (case c1 => k_is)
    (case k1 => k_is)
    (case a2 => k_is)
    (case l2 => k_is)
    (case c2 => k_is)
    (case k2 => k_is)
    (case a3 => k_is)
    (case l3 => k_is)
    (case c3 => k_is)
    (case k3 => k_is)
    (case a4 => k_is)
    (case l4 => k_is)
    (case c4 => k_is)
    (case k4 => k_is)
    (case a5 => k_is)
    (case l5 => k_is)
    (case c5 => k_is)
    (case k5 => k_is)
    (case a6 => k_is)
    (case l6 => k_is)
    (case c6 => k_is)
    (case k6 => k_is)
    (case a7 => k_is)
    (case l7 => k_is)
    (case c7 => k_is)
    (case k7 => k_is)
    (case a8 => k_is)
    (case l8 => k_is)
    (case c8 => k_is)
    (case k8 => k_is)
    (case a9 => k_is)
    (case l9 => k_is)
    (case c9 => k_is)
    (case k9 => k_is)
#print axioms PySem.Challenge.cw_otherworths_k01_errors_by_hand_holds

