import PyProof.Rows.All
import Wide.All
import OpenK.AllK
import Wide.FinOn
import HandS.ForMost
import HandS.ForExc
import HandS.Lambda
import HandS.ExcIs
import HandS.ExcField
import KE.KExcSuper
import KE.KSuper
import KE.KExcIs
import HandS.Nested
import HandS.IsInst
import HandS.Wide
import HandS.TupLe
import HandS.TupAny
import HandS.NoneIn
import HandS.Deep
import HandS.Zip
import HandS.Flow
import KE.KDictKeyed
import HandS.EndTab
import KE.GoesEnum
import HandS.SetBool
import HandS.SetKeys
import HandS.Style
import HandS.Codes
import HandS.Property
import HandS.Star
import HandS.Strs
import HandS.DictComp
import KE.GoesMore
import KE.GoesZip
import KE.KDictZip
import KE.KDictPairs
import HandS.Defaults
import HandS.More
import HandS.TupMul
import HandS.MakeKwOnly
import HandS.Conv
import HandS.ExcValue
import KE.KIsAll
import KE.RegKSuper
import KE.KNest
import HandS.Set
import HandS.DictSubView
import HandS.DictTup
import HandS.Small
import HandS.Sort
import HandS.SortRule
import KE.KSortTupG
import HandS.ListItems
import HandS.RaiseMore
import HandS.Finally
import HandS.DictEq
import HandS.Comp
import HandS.Text
import KE.KDictOf
import KE.KDictList
import KE.SortData
import KE.KSortTup
import KE.KDictWalk
import KE.KDictSum
import KE.KDictDisplayH
import KE.KItemsList
import KE.KEqDict
import PyProof.EqAt
import PyProof.NeKinds
import PyProof.InstNe
import PyProof.SliceList
import PyProof.ListStr
import PyProof.Rows.Range3
import PySem.Challenge.RW_otherworths_k02_shapes_made_or_refused
set_option Elab.async false
set_option linter.all false
set_option maxRecDepth 100000
set_option autoImplicit false
set_option maxHeartbeats 2000000
namespace DX
open PySem PySem.W PySem.Calls PyProof.Rows PySem.HandSPX
def eA (f : Str) (p1 p2 : Pos) : Arguments := { posonlyargs := [], args := [{ arg := "self", annotation := none, pos := p1 }, { arg := f, annotation := none, pos := p2 }], vararg := none, kwonlyargs := [], kw_defaults := [], kwarg := none, defaults := [] }
def eB (f : Str) (q1 q2 q3 q4 q5 q6 q7 q8 q9 q10 : Pos) : List Stmt := [.Expr (.Call (.Attribute (.Call (.Name "super" q1) [] [] q2) "__init__" q3) [.Name f q4] [] q5) q6, .Assign [.Attribute (.Name "self" q7) f q8] (.Name f q9) q10]
def eS (f : Str) : Scope := { kind := .function, names := [(PySem.Str.ofString "self", .local), (f, .local), (PySem.Str.ofString "__class__", .free), (PySem.Str.ofString "super", .globalImplicit)], isGenerator := false, isCoroutine := false, more := [] }
structure ErrF (P : Program) (K : Frag) (x f : Str) (C : Addr) : Prop where
  cls : ∃ nm q N bs bm sn sub ab col dd k0 k1 k2 k3 k5, K.lookup C = some (excClassObj nm q C N bs bm true sn sub ab col dd k0 k1 k2 k3 k5 "ValueError.__new__") ∧ refsVE bm = true
  sa : findIn K (.ref C) "__setattr__" = some (some (.builtin "object.__setattr__"))
  noN : findIn K (.ref C) f = some none
  kC : keepIn K (.ref C) = true
  exC : subIn K (.ref C) (.type "BaseException") = some true
  veC : subIn K (.ref C) (.type "ValueError") = some true
  tyC : typeIn K (.ref C) = some (.type "type")
  hdC : hasDictIn K C = true
  sin : ks_superIn K C C "__init__" = some (some (.builtin "ValueError.__init__"))
  mro : mroIn K C (.ref C) = some true
  opq : nsIn K cStatics "thirdparty.any" = some none
  top : (P.main.scope.names.lookup ("super" : Str)).isSome = false
  fn : ∃ (fI cc cda : Addr) (oc : Value) (od : Option Addr) (doc pm : Value) (an : Option Addr) (ct : Value) (osl : Array (Option Value)) (qual : Str) (p1 p2 q1 q2 q3 q4 q5 q6 q7 q8 q9 q10 : Pos),
    K.lookup fI = some ⟨oc, od, .func (ksFn "__init__" qual (eA f p1 p2) (eB f q1 q2 q3 q4 q5 q6 q7 q8 q9 q10) (eS f) .none .none doc pm an (.ref cda) ct cc), osl⟩ ∧ codeIn K (.ref cda) qual = true ∧
    findIn K (.ref C) "__init__" = some (some (.ref fI)) ∧ typeIn K (.ref fI) = some (.type "function") ∧
    (∃ pl : Sem Bool, ∀ L : Addr, eval (.Call (.Attribute (.Call (.Name "super" q1) [] [] q2) "__init__" q3) [.Name f q4] [] q5) (ksEnv qual (eS f) L fI (.ref cda) cc) = (do
      let ov ← attributeBase (.Call (.Name "super" q1) [] [] q2) "__init__" (ksEnv qual (eS f) L fI (.ref cda) cc) (eval (.Call (.Name "super" q1) [] [] q2) (ksEnv qual (eS f) L fI (.ref cda) cc))
      standAt q3.atName
      let (f1, first) ← holding [ov] (getMethod ov "__init__" pl)
      callWith q5 f1 first (backTo q5 (starEach [.Name f q4] (ksEnv qual (eS f) L fI (.ref cda) cc))) [])) ∧
    (∃ (ccl : Value) (cdd : Option Addr) (vs : Array Value) (ccs : Array (Option Value)) (file : Str) (tf : Tok), K.lookup cda = some ⟨ccl, cdd, .fields vs, ccs⟩ ∧ vs[2]? = some (.str file tf) ∧ ((P.main.file : Str) == file) = true) ∧
    (∃ (cl : Value) (cld : Option Addr) (csl : Array (Option Value)), K.lookup cc = some ⟨cl, cld, .cell (some (.ref C)), csl⟩)
structure FldN (f : Str) : Prop where
  ns : f ≠ "self"
  nc : f ≠ "__class__"
  nu : f ≠ "super"
  bd : ∀ (s : Shared) (qual : Str) (doc pm ct : Value) (an : Option Addr) (cda cc : Addr) (p1 p2 q1 q2 q3 q4 q5 q6 q7 q8 q9 q10 : Pos) (a b : Value), BindsTo s (ksFn "__init__" qual (eA f p1 p2) (eB f q1 q2 q3 q4 q5 q6 q7 q8 q9 q10) (eS f) .none .none doc pm an (.ref cda) ct cc) ⟨[a, b], []⟩ [("self", a), (f, b)]
  dbg : (f == ("__debug__" : Str)) = false
  lk : (eS f).names.lookup f = some .local
  lkc : (eS f).names.lookup ("__class__" : Str) = some .free
  lks : (eS f).names.lookup ("super" : Str) = some .globalImplicit
section
variable {prog : Program} {w : World} {A : Around} {E : Value → Shared → Prop} {h : Heap} {g : Array GenState} {d : Drawn} {t : Nat} {os : OsState}
variable {nm q : Str} {C N : Addr} {bs bm : List Value} {hdct : Bool} {sn : List Str} {sub : List Value} {ab : Bool} {col : Option Bool} {dd : Option Addr} {k0 k1 k2 k3 k5 : Option Value}
end
structure InitEnd (h h' : Heap) (x C dx t1 : Addr) (f : Str) (v : Value) : Prop where
  keep : ∀ b o, b ≠ x → h.get? b = some o → h'.get? b = some o
  obj : h'.get? x = some { cls := .ref C, dict := some dx, data := .fields #[.ref t1, .none, .none, .none, .bool false, .none] }
  dbig : h.objs.size ≤ dx
  dne : dx ≠ x
  ns : h'.Ns1 dx (fun y => if y = f then some v else none)
structure Made (h h' : Heap) (e C d : Addr) (f : Str) (v : Value) : Prop where
  keep : ∀ b o, h.get? b = some o → h'.get? b = some o
  new : h.objs.size ≤ e
  obj : ∃ oe vs, h'.get? e = some oe ∧ oe.cls = .ref C ∧ oe.dict = some d ∧ oe.data = .fields vs ∧ vs[1]? = some .none
  dbig : h.objs.size ≤ d
  dne : d ≠ e
  ns : h'.Ns1 d (fun y => if y = f then some v else none)
section
variable {prog : Program} {w : World} {A : Around} {E : Value → Shared → Prop} {R : Result → Shared → Prop} {s : Shared} {K : Frag} {mg mb : Str → Option Value} {C fI : Addr} {xn f : Str}
end
end DX
namespace DX
open PySem PySem.Spec PyProof.Rows L2
section
variable {X : Cx} {C : Addr} {x f : Str}
def tMkF (C : Addr) (f : Str) (ta : TA) : L2.St → Hp → XK → Prop := fun σ H Q => ta σ H fun vs H1 => ∃ v, vs = [v] ∧ ∀ d, H1 d = none → Q (.ref C) (some d) (upd H1 d (.xd [(f, v)]))
end
end DX

namespace DX
open PySem PySem.Spec PyProof.Rows L2
def exV (cls : Value) (d : Option Addr) (a : Addr) : HO := .ext fun h => ∃ (oe : Obj) (vs : Array Value), h.get? a = some oe ∧ Zc cls d oe ∧ oe.data = .fields vs
theorem exV_ok {P : Program} {w : World} {H : Hp} {h : Heap} {a : Addr} {cls : Value} {d : Option Addr} {oe : Obj} {vs : Array Value} (e : h.get? a = some oe) (z : Zc cls d oe) (k : oe.data = .fields vs) : ObjOk P w H h a (exV cls d a) :=
  ⟨⟨oe, vs, e, z, k⟩, ⟨oe, e⟩, fun _ _ ⟨o, v, q, r⟩ kk => ⟨o, v, kk o q, r⟩⟩
theorem exV_at {P : Program} {w : World} {H : Hp} {h : Heap} {a : Addr} {cls : Value} {d : Option Addr} (hok : HOk P w H h) (he : H a = some (exV cls d a)) : ∃ (oe : Obj) (vs : Array Value), h.get? a = some oe ∧ Zc cls d oe ∧ oe.data = .fields vs := (hok a _ he).1
section
variable {X : Cx} {pins : List (Addr × Obj)} {σ : L2.St} {H : Hp} {s : Shared}
theorem track {a : Addr} {oe : Obj} {o : HO} (I : Inv X ((a, oe) :: pins) σ H s) (new : X.s_0.heap.get? a = none) (ok : ObjOk X.prog X.w (upd H a o) s.heap a o) (hcl : ∀ x c, X.env.cells.lookup x = some c → c ≠ a) (hne : ∀ p ∈ X.pn ++ pins, p.1 ≠ a) : Inv X pins σ (upd H a o) s := by
  obtain ⟨ha, hn, nL, nF, _⟩ := I.pin (a, oe) (List.mem_append_right _ List.mem_cons_self)
  refine ⟨I.ok, I.os, I.bare, ⟨fun b u q n f x => I.base.keep b u q n f x, fun b u q n f x => I.base.slot b u q n f x, fun b u q n x => ?_, I.base.there, fun b xs q => ?_, fun b u v q => ?_, fun b ps q => ?_⟩, I.loc, I.cell, ?_, fun x c e => ?_, fun p hp => ?_, fun b u e => ?_, I.len⟩
  · rw [upd_ne (fun z => by rw [z, new] at q; cases q)]; exact I.base.free b u q n x
  · have := I.base.tups b xs q
    rw [upd_ne (ne_of_none this hn)]; exact this
  · have := I.base.frzs b u v q
    rw [upd_ne (ne_of_none this hn)]; exact this
  · obtain ⟨more, z⟩ := I.base.tbls b ps q
    exact ⟨more, by rw [upd_ne (ne_of_none z hn)]; exact z⟩
  · rw [upd_ne (Ne.symm nL)]; exact I.free
  · rw [upd_ne (hcl x c e)]; exact I.freeC x c e
  · obtain ⟨e1, e2, e3⟩ := I.pin p (by
      rcases List.mem_append.mp hp with h | h
      · exact List.mem_append_left _ h
      · exact List.mem_append_right _ (List.mem_cons_of_mem _ h))
    exact ⟨e1, by rw [upd_ne (hne p hp)]; exact e2, e3⟩
  · by_cases hb : b = a
    · subst hb
      rw [upd_same] at e
      cases e
      exact ok
    · rw [upd_ne hb] at e
      exact (I.hok b u e).stay (fun c v _ q => q) (fun c q => by rw [upd_ne (ne_of_none q hn)]; exact q) fun c xs q => by rw [upd_ne (ne_of_none q hn)]; exact q
end
def wHold (K : PySem.W.Frag) (c : Value) (n i j : Nat) (D : Ends) : WX := fun cls d σ H =>
  PySem.W.exmOne K cls c = some true ∧ (σ.length = n → ∀ a, H a = none → D.nx (((σ.set i (some (.ref a))).set j (some (.ref a))).set i none) (upd H a (exV cls d a)))
section
variable {X : Cx} {x n y : Str} {c : Value} {i j : Nat} {body : List Stmt} {np yp nq sp pos pos' : Pos} {tb : WX → TS}
theorem ps_try_hold (hs : X.stack = X.env :: X.outer) (hf : X.env.frame = some X.env.locals) (hex : X.ex = []) (hN : X.N.Nodup) (hi : X.N[i]? = some n) (hln : X.env.kindOf n = some .local) (hj : X.N[j]? = some y) (hlj : X.env.kindOf y = some .local) (hij : i ≠ j) (hnc : X.env.cells = []) (hfn : X.fn y = true ∨ X.env.scope.names.lookup y = some .local)
    (hd1 : (n == ("__debug__" : Str)) = false) (hd2 : (n == ("__classdict__" : Str)) = false) (hc : Names X x c)
    (hb : ∀ (W : WX) (pn : List (Addr × Obj)) (xe : Value → Shared → Prop), Takes (X.tr pn xe) W → PassesOwn (model X.prog X.w) X.A X.env xe → PSs (X.tr pn xe) body (tb W))
    (hsw : swapsWith (.Name n nq) (some (.Name y yp)) sp.line X.env = pure false := by rfl) :
    PS X (.Try body [.ExceptHandler (some (.Name x np)) (some n) [.Assign [.Name y yp] (.Name n nq) sp] pos'] [] [] pos) (fun D σ H => tb (wHold X.K c X.N.length i j D) D σ H) := by
  constructor
  intro pins s σ H D I h
  have ok := I.ok
  have hfr : X.A.frames = some (X.env :: X.outer) := by rw [ok.frames, hs]
  refine wpAny_Try_except (wpAny_mono ((hb (wHold X.K c X.N.length i j D) (X.pn ++ pins) (fun e s₁ => wpAny (model X.prog X.w) X.A (noteFrame e X.env) (fun _ s₂ => wpAny (model X.prog X.w) X.A (setFlight e none) (fun _ s₃ => wpAny (model X.prog X.w) X.A (handleBy e X.env [.ExceptHandler (some (.Name x np)) (some n) [.Assign [.Name y yp] (.Name n nq) sp] pos']) (SP X pins D) X.xe s₃) X.xe s₂) X.xe s₁) (fun u s' xx => ?_) PassesOwn.looking).run [] s σ H D (I.toTry _) h) (fun f s1 hsp => ?_) (fun e s1 he => he))
  · obtain ⟨a, B, sI, pins', σ', H', cls, d, rfl, J', nb, up, sky, na, os, ag, hb1, hyes⟩ := xx
    have J : Inv X pins σ' H' sI := J'.ofTry ok
    have sky' : Sky B (X.env :: X.outer) a (Zc cls d) X.env.locals s'.heap := hs ▸ sky
    show wpAny (model X.prog X.w) X.A (noteFrame (.ref a) X.env) _ _ _
    refine Sky.land Zc.steady hfr hf sky' fun h3 fl3 up3 => ?_
    have J3 : Inv X pins σ' H' { s' with heap := h3 } := J.landed nb fl3.1 (up.trans up3) os ag
    obtain ⟨oe3, vs3, he3, hz3, hd3⟩ := fl3.there
    have nfr : a ∉ frs (X.env :: X.outer) := fun hm => by
      obtain ⟨_, o', e', hnf⟩ := fl3.2.2.1.mem hm
      rw [he3] at e'; cases e'
      exact hnf _ hd3
    have nL : a ≠ X.env.locals := fun z => nfr (List.mem_filterMap.mpr ⟨X.env, List.mem_cons_self, by rw [hf, z]⟩)
    have nF : a ∉ X.fs := fun hm => by
      obtain ⟨e, he, q⟩ := List.mem_filterMap.mp hm
      exact nfr (List.mem_filterMap.mpr ⟨e, List.mem_cons_of_mem _ he, q⟩)
    have newI : sI.heap.get? a = none := by
      cases z : sI.heap.get? a with
      | none => rfl
      | some o' =>
        have q := nb a o' z (hs ▸ nfr)
        rw [fl3.2.1] at q
        cases q
    have new0 : X.s_0.heap.get? a = none := by
      cases z : X.s_0.heap.get? a with
      | none => rfl
      | some o =>
        obtain ⟨o', ho'⟩ := J.base.there a o z (by rw [hex]; simp)
        rw [newI] at ho'
        cases ho'
    have S3 := J3.suite he3 hd3 na nL nF
    refine wpAny_handleBy_cons (codeAny_handlers_test ?_) (by intro q; cases q)
    have LT : PySem.W.Looks (model X.prog X.w) h3 (typeOf (.ref a)) cls := fun A Q E s k q => wpAny_typeOf_ref (k _ _ he3) (by rw [hz3.1]; exact q)
    have LM := PySem.W.exm_one (M := model X.prog X.w) (J3.kIn) LT hb1
    have test : ∀ {Q : Value → Shared → Prop} {E : Value → Shared → Prop}, Q c { s' with heap := h3 } → wpAny (model X.prog X.w) (X.A.mark (some (.ref a))) (eval (.Name x np) X.env) Q E { s' with heap := h3 } := fun {Q E} q => by
      obtain ⟨hg, hdbg, hm | ⟨hm, hv, hnn⟩⟩ := hc
      · exact ld_glob (X := X.suite a ((a, oe3) :: (X.pn ++ pins))) S3 hg hm q hdbg
      · exact ld_blt (X := X.suite a ((a, oe3) :: (X.pn ++ pins))) S3 hg hm hv q hnn hdbg
    refine test (LM.here ?_)
    refine codeAny_handlers_suite_as (HandSPX.lands_againZ fl3 fun h4 fl4 up4 => ?_)
    have J4 : Inv X pins σ' H' { s' with heap := h4 } := J.landed nb fl4.1 ((up.trans up3).trans up4) os ag
    obtain ⟨oe4, vs4, he4, hz4, hd4⟩ := fl4.there
    have S4 := J4.suite he4 hd4 na nL nF
    refine store_ok (X := X.suite a ((a, oe4) :: (X.pn ++ pins))) (v := .ref a) S4 hN hi (.inl hln) rfl (fun s5 S5 => ?_) (.inr hln)
    have su : PSs (X.suite a ((a, oe4) :: (X.pn ++ pins))) [.Assign [.Name y yp] (.Name n nq) sp] _ := pss_one (ps_set (i := j) hN hj (.inl hlj) (pe_var (i := i) hi (.inl hln) hd1 hd2) hsw (by exact hfn))
    have li : i < σ'.length := by rw [J.len]; exact (List.getElem?_eq_some_iff.mp hi).1
    refine wpAny_mono (su.run [] s5 _ H' { nx := fun σ6 H6 => σ6 = (σ'.set i (some (.ref a))).set j (some (.ref a)) ∧ H6 = H', rt := fun _ _ => False } S5 ⟨.ref a, List.getElem?_set_self li, rfl, rfl⟩) (fun f s6 hsp => ?_) (fun _ _ z => False.elim z)
    cases f with
    | next =>
      obtain ⟨σ6, H6, S6, rfl, rfl⟩ := hsp
      have I6 : Inv X ((a, oe4) :: pins) ((σ'.set i (some (.ref a))).set j (some (.ref a))) H6 s6 := ⟨ok, S6.os, S6.bare, S6.base, S6.loc, S6.cell, S6.free, S6.freeC, fun p hp => S6.pin p (by
        rw [List.append_nil]
        rcases List.mem_append.mp hp with h | h
        · exact List.mem_cons_of_mem _ (List.mem_append_left _ h)
        · rcases List.mem_cons.mp h with rfl | h
          · exact List.mem_cons_self
          · exact List.mem_cons_of_mem _ (List.mem_append_right _ h)), S6.hok, S6.len⟩
      refine gone_ok I6 hN hi hln fun s7 J7 => ?_
      obtain ⟨g7, _⟩ := J7.pin (a, oe4) (List.mem_append_right _ List.mem_cons_self)
      refine ⟨_, _, track J7 new0 (exV_ok g7 hz4 hd4) (fun x c e => by rw [hnc] at e; cases e) (fun p hp z => ?_), hyes J.len a na⟩
      obtain ⟨e, _⟩ := J.pin p hp
      rw [z, newI] at e
      cases e
    | brk => obtain ⟨_, _, _, q⟩ := hsp; exact q.elim
    | cont => obtain ⟨_, _, _, q⟩ := hsp; exact q.elim
    | ret u => obtain ⟨_, _, _, _, _, q⟩ := hsp; exact q.elim
  · cases f with
    | next =>
      obtain ⟨σ', H', J', q⟩ := hsp
      exact wpAny_execs_nil ⟨σ', H', J'.ofTry ok, q⟩
    | brk =>
      obtain ⟨σ', H', J', q⟩ := hsp
      exact ⟨σ', H', J'.ofTry ok, q⟩
    | cont =>
      obtain ⟨σ', H', J', q⟩ := hsp
      exact ⟨σ', H', J'.ofTry ok, q⟩
    | ret u =>
      obtain ⟨v, σ', H', J', r, q⟩ := hsp
      exact ⟨v, σ', H', J'.ofTry ok, r, q⟩
end
end DX
namespace DX
open PySem PySem.Spec PyProof.Rows L2 LamX
def TCaught (K : PySem.W.Frag) (CS : Addr) : (XK → Hp → VK → Prop) → Hp → VK → Prop := fun tl H Q =>
  tl (fun cls d H' => PySem.W.exmOne K cls (.ref CS) = some true ∧ ∀ p, H' p = none → Q (.ref p) (upd H' p (exV cls d p))) H (fun _ H' => ∃ v, (some (some V.non) : Option (Option V)) = some (some v) ∧ Q v H')
theorem nd3 : ([("_law_act" : Str), "_law_found", "_law_error"] : List Str).Nodup := by decide
theorem caught_gives {X : Cx} {x q : Str} {sg : Scope} {g CS : Addr} {cdg : Value} {j0 : Nat} {p1 p2 p3 p4 p5 p6 p7 p8 p9 p10 p11 p12 p13 p14 p15 : Pos} {e : Str} (hge : sg.names.lookup e = some .globalImplicit) (hme : X.mg e = some (.ref CS)) (hde : (e == ("__debug__" : Str)) = false) (hk : sg.names.lookup ("_law_found" : Str) = some .local) (hk1 : sg.names.lookup ("_law_error" : Str) = some .local) (hcl : ∀ n, cellsFrom n sg.names [] = []) (hvf : Vis sg "_law_found") :
    GivesTo X ["_law_act", "_law_found", "_law_error"] x sg g cdg [.Assign [.Name "_law_found" p1] (.Constant .none j0 p2) p3, .Try [.Expr (.Call (.Name "_law_act" p4) [] [] p5) p6] [.ExceptHandler (some (.Name e p7)) (some "_law_error") [.Assign [.Name "_law_found" p8] (.Name "_law_error" p9) p10] p11] [] [] p12, .Return (some (.Name "_law_found" p13)) p14] "_law_act" q (TCaught X.K CS) := by
  intro f c' s H Q tl act hc h
  have hgl : Gl (cxOf C8.CX0 X.prog X.w X.K X.mg X.base ["_law_act", "_law_found", "_law_error"] x sg g cdg X.A X.stack s H C8.E0).nox e := hge
  refine ⟨_, pss_cons (ps_set (i := 1) nd3 rfl (.inl hk) pe_non rfl (.inr hk)) (pss_cons (ps_try_hold (X := (cxOf C8.CX0 X.prog X.w X.K X.mg X.base ["_law_act", "_law_found", "_law_error"] x sg g cdg X.A X.stack s H C8.E0).nox) (c := .ref CS) (i := 2) (j := 1)
      (tb := fun W D σ H => ∃ Ech : XK, (∀ cls d σ' H', Ech cls d H' → W cls d σ' H') ∧ σ[0]? = some (some (.ref f)) ∧ H c' = some (CodeO c' q) ∧ tl Ech H fun _ H' => D.nx σ H')
      rfl rfl rfl nd3 rfl hk1 rfl hk (by decide) (hcl _) (.inr hk) (by decide) (by decide) ⟨hgl, hde, .inl hme⟩ (fun W pn xe tk _ => ?_)) (pss_one (ps_ret (pe_var (i := 1) rfl hvf)))), ?_⟩
  · refine ⟨fun pins s' σ H' D I h' => ?_⟩
    obtain ⟨Ech, hW, h1, h2, h3⟩ := h'
    exact (pss_one (ps_expr (act W pn xe Ech p4 p5 tk hW))).run pins s' σ H' D I ⟨h1, h2, h3⟩
  · refine ⟨fun cls d H' => PySem.W.exmOne X.K cls (.ref CS) = some true ∧ ∀ p, H' p = none → Q (.ref p) (upd H' p (exV cls d p)), fun cls d σ' H' hE => ⟨hE.1, fun hl a ha => ⟨.ref a, ?_, hE.2 a ha⟩⟩, rfl, hc, ?_⟩
    · match σ', hl with
      | [u0, u1, u2], _ => rfl
    · exact h
end DX
namespace DX
open PySem PySem.Spec PyProof.Rows L2
def rIsV (K : PySem.W.Frag) : List V → Hp → VK → Prop := fun xs H Q => ∃ (a D : Addr) (d : Option Addr) (c : V) (cv : Value) (b : Bool), xs = [.ref a, c] ∧ H a = some (exV (.ref D) d a) ∧ (∀ dd, d = some dd → ∃ fs, H dd = some (.xd fs)) ∧ ExcC K D ∧ (∀ u, RelV c u → u = cv) ∧ PySem.W.kitOne K (.ref D) cv = some b ∧ Q (.bl b) H
theorem ns_obj {h : Heap} {a : Addr} {m : Str → Option Value} (n : h.Ns1 a m) : ∃ o, h.get? a = some o := by
  obtain ⟨od, ho, _⟩ := lookIn_ns n
  exact ⟨od, ho⟩
theorem call_isV {X : Cx} : CallR X (.builtin "isinstance") (rIsV X.K) := by
  intro pins s σ H xs us Q I r h
  obtain ⟨a, D, d, c, cv, b, rfl, hE, hD, C, hcv, e, q⟩ := h
  cases r with
  | cons rx rr =>
    cases rr with
    | cons rt rr =>
      cases rr
      cases rx
      have ec := hcv _ rt
      subst ec
      obtain ⟨oe, vs, hget, hz, hv⟩ := exV_at I.hok hE
      have hc := PySem.W.any_some C.hd
      have hcl : (PySem.W.clsIn X.K D).isSome = true := by
        obtain ⟨cd, hc, _⟩ := hc
        rw [hc]; rfl
      have nc : PySem.W.notCls oe = true := by unfold PySem.W.notCls; rw [hv] <;> rfl
      cases d with
      | none =>
        have J : PySem.W.InstAt s.heap a oe D none := ⟨hget, hz.1, nc, by rw [hz.2]; trivial⟩
        exact PySem.W.kia_one (PySem.W.kitx_exc hcl C.hg C.hk C.hs C.ha C.hn C.ht C.hm) I.kIn J e (fun z => nomatch z) fun tk => ⟨.bl b, H, I.kept (t' := tk) fun _ _ z => z, rfl, q⟩
      | some dd =>
        obtain ⟨fs, hfs⟩ := hD dd rfl
        obtain ⟨mA, hns, _⟩ : ObjOk X.prog X.w H s.heap dd (.xd fs) := I.hok dd _ hfs
        obtain ⟨od, ho⟩ := ns_obj hns
        have J : PySem.W.InstAt s.heap a oe D (some od) := ⟨hget, hz.1, nc, by rw [hz.2]; exact ho⟩
        exact PySem.W.kia_one (PySem.W.kitx_exc hcl C.hg C.hk C.hs C.ha C.hn C.ht C.hm) I.kIn J e (fun z => nomatch z) fun tk => ⟨.bl b, H, I.kept (t' := tk) fun _ _ z => z, rfl, q⟩
def tXv (K : PySem.W.Frag) (f : Str) (te : TE) : TE := fun σ H Q => te σ H fun x H1 => ∃ (a C dd : Addr) (fs : List (Str × V)) (v : V), x = .ref a ∧ H1 a = some (exV (.ref C) (some dd) a) ∧ XfC K C ∧ PySem.W.findIn K (.ref C) f = some none ∧ H1 dd = some (.xd fs) ∧ fs.lookup f = some v ∧ Q v H1
end DX

namespace DX
open PySem PySem.Spec PyProof.Rows L2 LamX
abbrev Cs := List (Addr × Obj)
def lend (H : Hp) (cs : Cs) : Hp := fun a => match cs.lookup a with
  | some o => some (.frz o (.own 0))
  | none => H a
def unl (H : Hp) (cs : Cs) : Hp := fun a => match cs.lookup a with
  | some _ => none
  | none => H a
section
variable {H H' : Hp} {cs : Cs} {a : Addr} {o : Obj} {u : HO}
theorem lend_in (h : cs.lookup a = some o) : lend H cs a = some (.frz o (.own 0)) := by unfold lend; rw [h]
theorem lend_out (h : cs.lookup a = none) : lend H cs a = H a := by unfold lend; rw [h]
theorem unl_in (h : cs.lookup a = some o) : unl H cs a = none := by unfold unl; rw [h]
theorem unl_out (h : cs.lookup a = none) : unl H cs a = H a := by unfold unl; rw [h]
def Bare (H : Hp) (cs : Cs) : Prop := ∀ a o, cs.lookup a = some o → H a = none
def Told (H : Hp) (cs : Cs) : Prop := ∀ a o, cs.lookup a = some o → H a = some (.frz o (.own 0))
def There (h : Heap) (cs : Cs) : Prop := ∀ a o, cs.lookup a = some o → h.get? a = some o
def Away (l : List Addr) (cs : Cs) : Prop := ∀ a o, cs.lookup a = some o → a ∉ l
theorem Bare.off (b : Bare H cs) (e : H a = some u) : cs.lookup a = none := by
  cases q : cs.lookup a with
  | none => rfl
  | some o => rw [b a o q] at e; cases e
theorem Told.off (b : Told H cs) (e : H a = some u) (n : ∀ o, u ≠ .frz o (.own 0)) : cs.lookup a = none := by
  cases q : cs.lookup a with
  | none => rfl
  | some o => rw [b a o q] at e; cases e; exact absurd rfl (n o)
theorem Bare.keep (b : Bare H cs) (e : H a = some u) : lend H cs a = some u := (lend_out (b.off e)).trans e
theorem unl_some (h : unl H cs a = some u) : H a = some u ∧ cs.lookup a = none := by
  cases q : cs.lookup a with
  | none => rw [unl_out q] at h; exact ⟨h, rfl⟩
  | some o => rw [unl_in q] at h; cases h
end
section
variable {P : Program} {w : World} {H H' : Hp} {h h' B : Heap} {cs : Cs} {fs ex : List Addr}
end
section
variable {P : Program} {w : World} {K : PySem.W.Frag} {mg : Str → Option Value} {base : Heap} {A : Around} {outer : List Env} {s : Shared} {H : Hp} {cs : Cs}
end
end DX

namespace DX
open PySem PySem.Spec PyProof.Rows L2 LamX NdefX
structure LT where
  i : Nat
  qual : Str
  params : Arguments
  body : Expr
  scope : Scope
  fr : List Str
def LamO (L : LT) (cl : List (Str × Addr)) (c a : Addr) : HO := .ext fun h => ∃ pm ctv : Value, h.get? a = some (PySem.W.kla_obj "<lambda>" L.qual L.params L.body L.scope cl pm c ctv)
theorem LamO.ne {L : LT} {cl : List (Str × Addr)} {c a : Addr} : (∀ ps, LamO L cl c a ≠ .tbl ps) ∧ ∀ o u, LamO L cl c a ≠ .frz o u := ⟨fun ps z => (by unfold LamO at z; cases z), fun o u z => (by unfold LamO at z; cases z)⟩
abbrev LT.nf (L : LT) (cl : List (Str × Addr)) (c : Addr) : NF := ⟨"<lambda>", L.qual, L.params, [], L.scope, cl, c⟩
section
variable {P : Program} {w : World} {K : PySem.W.Frag} {mg : Str → Option Value} {base : Heap} {CXt : CXT} {k : Nat} {L : LT} {cl : List (Str × Addr)} {c a : Addr} {A : Around} {outer : List Env} {s : Shared} {H : Hp} {ws : List (Option V)} {Q : VK} {E : XK}
end
section
variable {X : Cx} {pins : List (Addr × Obj)} {σ : L2.St} {H : Hp} {s : Shared} {T : List (Addr × Str)} {c P : Addr} {L : LT} {pos : Pos} {E Q : Value → Shared → Prop}
end
end DX

namespace DL
open PySem L2

inductive D where
  | non | bl (b : Bool) | int (i : Int) | str (x : Str) | lst (xs : List D) | tup (xs : List D) | dic (kvs : List (Key × D)) | dit (kvs : List (List Key × D)) | ins (C : Addr) (fs : List (Str × D)) | exc (C : Addr) (fs : List (Str × D)) | own (c : D) | lam (L : DX.LT) (caps : List D) | lamP (L : DX.LT) (cl : List (Str × Addr)) | obj (a : Addr) | ty (n : String) | dead | din (P : Program) (w : World) (kvs : List (Option Key × D)) | dky (P : Program) (w : World) (kvs : List (D × D))
mutual
def noLam : D → Bool
  | .lst xs => noLams xs
  | .tup xs => noLams xs
  | .dic kvs => noLamK kvs
  | .dit kvs => noLamT kvs
  | .din _ _ kvs => noLamN kvs
  | .ins _ fs => noLamF fs
  | .exc _ fs => noLamF fs
  | .lam _ _ => false
  | _ => true
def noLams : List D → Bool
  | [] => true
  | d :: r => noLam d && noLams r
def noLamK : List (Key × D) → Bool
  | [] => true
  | (_, d) :: r => noLam d && noLamK r
def noLamT : List (List Key × D) → Bool
  | [] => true
  | (_, d) :: r => noLam d && noLamT r
def noLamN : List (Option Key × D) → Bool
  | [] => true
  | (_, d) :: r => noLam d && noLamN r
def noLamF : List (Str × D) → Bool
  | [] => true
  | (_, d) :: r => noLam d && noLamF r
end
inductive R where
  | v (d : D) | o (k : Nat)
abbrev Om := List (Option D)
abbrev Rho := List (Option R)

def Ex (H H' : Hp) : Prop := ∀ a o, H a = some o → H' a = some o
theorem Ex.refl (H : Hp) : Ex H H := fun _ _ h => h
theorem Ex.trans {H H1 H2 : Hp} (a : Ex H H1) (b : Ex H1 H2) : Ex H H2 := fun x o h => b x o (a x o h)
theorem Ex.new {H : Hp} {p : Addr} {o : HO} (h : H p = none) : Ex H (upd H p o) := fun a u e => by
  rw [upd_ne (ne_of_none e h)]
  exact e
theorem Ex.mut {H H' : Hp} {p : Addr} {o : HO} (e : Ex H H') (h : H p = none) : Ex H (upd H' p o) := fun a u ha => by
  rw [upd_ne (ne_of_none ha h)]
  exact e a u ha
theorem Ex.both {G H : Hp} {p : Addr} {o : HO} (e : Ex G H) : Ex (upd G p o) (upd H p o) := fun a u ha => by
  by_cases q : a = p
  · subst q; rw [upd_same] at ha ⊢; exact ha
  · rw [upd_ne q] at ha ⊢; exact e a u ha
theorem Ex.free {H H' : Hp} {p : Addr} (e : Ex H H') (h : H' p = none) : H p = none := by
  cases q : H p with
  | none => rfl
  | some o => rw [e p o q] at h; cases h
theorem Ex.rd {H H' : Hp} {a : Addr} {u : HO} (e : Ex H H') (h : Rd H a u) : Rd H' a u := by
  rcases h with h | ⟨o, h⟩
  · exact .inl (e a _ h)
  · exact .inr ⟨o, e a _ h⟩
theorem Ex.l {K : PySem.W.Frag} {H H' : Hp} {a : Addr} {xs : List V} (e : Ex H H') (h : SqL K H a xs) : SqL K H' a xs := by
  rcases h with h | h
  · exact .inl (e.rd h)
  · exact .inr h
theorem Ex.t {K : PySem.W.Frag} {H H' : Hp} {a : Addr} {xs : List V} (e : Ex H H') (h : SqT K H a xs) : SqT K H' a xs := by
  rcases h with h | h
  · exact .inl (e.rd h)
  · exact .inr h

def NDo (P : Program) (w : World) (a : Addr) (kvs : List (Option Key × V)) : HO := .ext fun h => kvs.length ≤ sizeLine ∧ (a == sysModules) = false ∧ ∃ vs, KV kvs vs ∧ h.DictOf (noneKind P w) a vs
theorem NDo.ne {P : Program} {w : World} {a : Addr} {kvs : List (Option Key × V)} : ∀ c q, NDo P w a kvs ≠ LamX.CodeO c q := fun c q z => by
  unfold NDo LamX.CodeO at z
  injection z with z
  let ob : Obj := { cls := .none, data := .fields #[.none, .str q (default : Tok)] }
  let h0 : Heap := { objs := Array.replicate (c + 1) ob }
  have at0 : ∀ b, h0.objs[b]? = if b < c + 1 then some ob else none := fun b => Array.getElem?_replicate
  have g : ∀ b o, h0.get? b = some o → o = ob := fun b o e => by
    unfold Heap.get? at e
    rw [at0] at e
    by_cases lt : b < c + 1
    · rw [if_pos lt] at e
      exact (Option.some.inj e).symm
    · rw [if_neg lt] at e
      cases e
  have t := congrFun z h0
  have : (∃ (oc : Obj) (vs : Array Value) (t : Tok), h0.get? c = some oc ∧ oc.data = .fields vs ∧ vs[1]? = some (.str q t)) := by
    refine ⟨ob, _, _, ?_, rfl, rfl⟩
    unfold Heap.get?
    rw [at0, if_pos (Nat.lt_succ_self c)]
  rw [← t] at this
  obtain ⟨_, _, vs, _, o, es, ep, ho, _, hd, _⟩ := this
  rw [g a o ho] at hd
  cases hd
def NKo (P : Program) (w : World) (a : Addr) (xs : List (NestedKey × Addr × V)) : HO := .ext fun h => xs.length ≤ sizeLine ∧ (a == sysModules) = false ∧ ∃ vs : List (NestedKey × Addr × Value), Paired (fun (p : NestedKey × Addr × V) (q : NestedKey × Addr × Value) => p.1 = q.1 ∧ p.2.1 = q.2.1 ∧ RelV p.2.2 q.2.2) xs vs ∧
  ∃ o es ep, h.get? a = some o ∧ o.ExactDict ∧ o.data = .dict es ep ∧ es.toList = vs.map (entryOfKey (nestedKind P w)) ∧ (vs.map (·.1)).Nodup
theorem NKo.ne {P : Program} {w : World} {a : Addr} {xs : List (NestedKey × Addr × V)} : ∀ c q, NKo P w a xs ≠ LamX.CodeO c q := fun c q z => by
  unfold NKo LamX.CodeO at z
  injection z with z
  let ob : Obj := { cls := .none, data := .fields #[.none, .str q (default : Tok)] }
  let h0 : Heap := { objs := Array.replicate (c + 1) ob }
  have at0 : ∀ b, h0.objs[b]? = if b < c + 1 then some ob else none := fun b => Array.getElem?_replicate
  have t := congrFun z h0
  have r : (∃ (oc : Obj) (vs : Array Value) (t : Tok), h0.get? c = some oc ∧ oc.data = .fields vs ∧ vs[1]? = some (.str q t)) := by
    refine ⟨ob, _, _, ?_, rfl, rfl⟩
    unfold Heap.get?
    rw [at0, if_pos (Nat.lt_succ_self c)]
  rw [← t] at r
  obtain ⟨_, _, _, _, o, es, ep, ho, _, hd, _⟩ := r
  unfold Heap.get? at ho
  rw [at0] at ho
  by_cases lt : a < c + 1
  · rw [if_pos lt] at ho
    cases ho
    cases hd
  · rw [if_neg lt] at ho
    cases ho
mutual
def nkD : D → Option NestedKey
  | .non => some .none
  | .int i => some (.num i)
  | .str x => some (.text x)
  | .tup xs => (nkDs xs).map NestedKey.tup
  | _ => none
def nkDs : List D → Option (List NestedKey)
  | [] => some []
  | d :: r => match nkD d, nkDs r with
    | some k, some ks => some (k :: ks)
    | _, _ => none
end
def CelG (G : Hp) (c : Addr) (v : V) : Prop := ∃ o u, G c = some (.frz o (.own 0)) ∧ o.data = .cell (some u) ∧ RelV v u
structure ClosG (G : Hp) (cl : List (Str × Addr)) (fr : List Str) (vs : List V) : Prop where
  inj : ∀ x y c, cl.lookup x = some c → cl.lookup y = some c → x = y
  only : ∀ y c, cl.lookup y = some c → y ∈ fr
  len : vs.length = fr.length
  has : ∀ (i : Nat) (y : Str), fr[i]? = some y → ∃ c v, cl.lookup y = some c ∧ vs[i]? = some v ∧ CelG G c v
theorem ClosG.mono {G G' : Hp} {cl : List (Str × Addr)} {fr : List Str} {vs : List V} (h : ClosG G cl fr vs) (e : Ex G G') : ClosG G' cl fr vs := ⟨h.inj, h.only, h.len, fun i y q => by
  obtain ⟨c, v, h1, h2, o, u, h3, h4⟩ := h.has i y q
  exact ⟨c, v, h1, h2, o, u, e _ _ h3, h4⟩⟩
def KT0 (K : PySem.W.Frag) (a : Addr) : Prop := ∃ o n, K.lookup a = some o ∧ o.cls = .type "tuple" ∧ o.data = .seq #[] n
theorem KT0.sq {K : PySem.W.Frag} {a : Addr} (h : KT0 K a) (H : Hp) : SqT K H a [] := by
  obtain ⟨o, n, e, c, d⟩ := h
  exact .inr ⟨o, #[], n, e, c, d, by decide, .nil⟩
mutual
inductive Is (K : PySem.W.Frag) (G : Hp) : V → D → Prop
  | non : Is K G .non .non
  | bl (b : Bool) : Is K G (.bl b) (.bl b)
  | int (i : Int) : Is K G (.int i) (.int i)
  | str (x : Str) : Is K G (.str x) (.str x)
  | ty (n : String) : Is K G (.ty n) (.ty n)
  | lst {a : Addr} {xs : List V} {ds : List D} : G a = some (.lst xs) → IsL K G xs ds → Is K G (.ref a) (.lst ds)
  | tup {a : Addr} {xs : List V} {ds : List D} : G a = some (.tup xs) → IsL K G xs ds → Is K G (.ref a) (.tup ds)
  | tup0 {a : Addr} : KT0 K a → Is K G (.ref a) (.tup [])
  | dic {a : Addr} {od : Obj} {kvs : List (Key × V)} {kds : List (Key × D)} : G a = some (.frz od (.dK kvs)) → IsD K G kvs kds → Is K G (.ref a) (.dic kds)
  | dit {a : Addr} {od : Obj} {kvs : List (List Key × V)} {kds : List (List Key × D)} : G a = some (.frz od (.dT kvs)) → IsD K G kvs kds → Is K G (.ref a) (.dit kds)
  | ins {a C dx : Addr} {fs : List (Str × V)} {fds : List (Str × D)} : G a = some (.ins C dx fs) → IsD K G fs fds → Is K G (.ref a) (.ins C fds)
  | exc0 {a C : Addr} : G a = some (DX.exV (.ref C) none a) → Is K G (.ref a) (.exc C [])
  | excF {a C d : Addr} {fs : List (Str × V)} {fds : List (Str × D)} : G a = some (DX.exV (.ref C) (some d) a) → G d = some (.xd fs) → IsD K G fs fds → Is K G (.ref a) (.exc C fds)
  | lam {a c : Addr} {L : DX.LT} {cl : List (Str × Addr)} {vs : List V} {ds : List D} : G a = some (DX.LamO L cl c a) → G c = some (LamX.CodeO c L.qual) → ClosG G cl L.fr vs → noLams ds = true → IsL K G vs ds → Is K G (.ref a) (.lam L ds)
  | lamP {a c : Addr} {L : DX.LT} {cl : List (Str × Addr)} : G a = some (DX.LamO L cl c a) → G c = some (LamX.CodeO c L.qual) → Is K G (.ref a) (.lamP L cl)
  | obj (a : Addr) : Is K G (.ref a) (.obj a)
  | din {a b : Addr} {od : Obj} {P : Program} {w : World} {kvs : List (Option Key × V)} {kds : List (Option Key × D)} : G a = some (.frz od (NDo P w b kvs)) → IsD K G kvs kds → Is K G (.ref a) (.din P w kds)
  | dky {a b : Addr} {od : Obj} {P : Program} {w : World} {xs : List (NestedKey × Addr × V)} {kds : List (D × D)} : G a = some (.frz od (NKo P w b xs)) → Is K G (.ref a) (.dky P w kds)
inductive IsL (K : PySem.W.Frag) (G : Hp) : List V → List D → Prop
  | nil : IsL K G [] []
  | cons {v : V} {vs : List V} {d : D} {ds : List D} : Is K G v d → IsL K G vs ds → IsL K G (v :: vs) (d :: ds)
inductive IsD (K : PySem.W.Frag) (G : Hp) : {κ : Type} → List (κ × V) → List (κ × D) → Prop
  | nil {κ : Type} : IsD K G ([] : List (κ × V)) ([] : List (κ × D))
  | cons {κ : Type} {k : κ} {v : V} {vs : List (κ × V)} {d : D} {ds : List (κ × D)} : Is K G v d → IsD K G vs ds → IsD K G ((k, v) :: vs) ((k, d) :: ds)
end
section
variable {K : PySem.W.Frag} {G G' : Hp}
mutual
theorem Is.mono (e : Ex G G') : ∀ {v : V} {d : D}, Is K G v d → Is K G' v d
  | _, _, .non => .non
  | _, _, .bl b => .bl b
  | _, _, .int i => .int i
  | _, _, .str x => .str x
  | _, _, .ty n => .ty n
  | _, _, .lst h q => .lst (e _ _ h) (IsL.mono e q)
  | _, _, .tup h q => .tup (e _ _ h) (IsL.mono e q)
  | _, _, .tup0 h => .tup0 h
  | _, _, .dic h q => .dic (e _ _ h) (IsD.mono e q)
  | _, _, .dit h q => .dit (e _ _ h) (IsD.mono e q)
  | _, _, .ins h q => .ins (e _ _ h) (IsD.mono e q)
  | _, _, .exc0 h => .exc0 (e _ _ h)
  | _, _, .excF h h2 q => .excF (e _ _ h) (e _ _ h2) (IsD.mono e q)
  | _, _, .lam h h2 h3 h4 q => .lam (e _ _ h) (e _ _ h2) (h3.mono e) h4 (IsL.mono e q)
  | _, _, .lamP h h2 => .lamP (e _ _ h) (e _ _ h2)
  | _, _, .obj a => .obj a
  | _, _, .din h q => .din (e _ _ h) (IsD.mono e q)
  | _, _, .dky h => .dky (e _ _ h)
theorem IsL.mono (e : Ex G G') : ∀ {v : List V} {d : List D}, IsL K G v d → IsL K G' v d
  | _, _, .nil => .nil
  | _, _, .cons h q => .cons (Is.mono e h) (IsL.mono e q)
theorem IsD.mono (e : Ex G G') : ∀ {κ : Type} {v : List (κ × V)} {d : List (κ × D)}, IsD K G v d → IsD K G' v d
  | _, _, _, .nil => .nil
  | _, _, _, .cons h q => .cons (Is.mono e h) (IsD.mono e q)
end
theorem IsL.length : ∀ {vs : List V} {ds : List D}, IsL K G vs ds → vs.length = ds.length
  | _, _, .nil => rfl
  | _, _, .cons _ q => congrArg (· + 1) (IsL.length q)
theorem IsL.get : ∀ {vs : List V} {ds : List D} {i : Nat} {d : D}, IsL K G vs ds → ds[i]? = some d → ∃ v, vs[i]? = some v ∧ Is K G v d
  | _, _, _, _, .nil, e => by simp at e
  | _, _, 0, _, .cons r _, e => by simp at e; subst e; exact ⟨_, rfl, r⟩
  | _, _, i + 1, d, .cons _ t, e => by
    obtain ⟨u, h1, h2⟩ := IsL.get (i := i) (d := d) t (by simpa using e)
    exact ⟨u, by simpa using h1, h2⟩
theorem IsL.get' : ∀ {vs : List V} {ds : List D} {i : Nat} {v : V}, IsL K G vs ds → vs[i]? = some v → ∃ d, ds[i]? = some d ∧ Is K G v d
  | _, _, _, _, .nil, e => by simp at e
  | _, _, 0, _, .cons r _, e => by simp at e; subst e; exact ⟨_, rfl, r⟩
  | _, _, i + 1, v, .cons _ t, e => by
    obtain ⟨u, h1, h2⟩ := IsL.get' (i := i) (v := v) t (by simpa using e)
    exact ⟨u, by simpa using h1, h2⟩
theorem IsL.append : ∀ {xs ys : List V} {us ws : List D}, IsL K G xs us → IsL K G ys ws → IsL K G (xs ++ ys) (us ++ ws)
  | _, _, _, _, .nil, s => s
  | _, _, _, _, .cons r t, s => .cons r (IsL.append t s)
theorem IsL.take : ∀ {xs : List V} {us : List D} (n : Nat), IsL K G xs us → IsL K G (xs.take n) (us.take n)
  | _, _, 0, _ => .nil
  | _, _, _ + 1, .nil => .nil
  | _, _, n + 1, .cons r t => .cons r (IsL.take n t)
theorem IsL.drop : ∀ {xs : List V} {us : List D} (n : Nat), IsL K G xs us → IsL K G (xs.drop n) (us.drop n)
  | _, _, 0, r => r
  | _, _, _ + 1, .nil => .nil
  | _, _, n + 1, .cons _ t => IsL.drop n t
theorem IsL.erase : ∀ {xs : List V} {us : List D} (n : Nat), IsL K G xs us → IsL K G (xs.eraseIdx n) (us.eraseIdx n)
  | _, _, _, .nil => .nil
  | _, _, 0, .cons _ t => t
  | _, _, n + 1, .cons r t => .cons r (IsL.erase n t)
theorem IsL.reverse : ∀ {xs : List V} {us : List D}, IsL K G xs us → IsL K G xs.reverse us.reverse
  | _, _, .nil => .nil
  | _, _, .cons r t => by
    rw [List.reverse_cons, List.reverse_cons]
    exact (IsL.reverse t).append (.cons r .nil)
theorem IsL.ints : ∀ (ns : List Int), IsL K G (ns.map V.int) (ns.map D.int)
  | [] => .nil
  | _ :: ns => .cons (.int _) (IsL.ints ns)
end

inductive KeyD (K : PySem.W.Frag) (G : Hp) : List (NestedKey × Addr × V) → List (D × D) → Prop
  | nil : KeyD K G [] []
  | cons {k : NestedKey} {b : Addr} {v : V} {d e : D} {xs : List (NestedKey × Addr × V)} {ds : List (D × D)} : nkD d = some k → k.depth ≤ 8 → Is K G (.ref b) d → Is K G v e → KeyD K G xs ds → KeyD K G ((k, b, v) :: xs) ((d, e) :: ds)
theorem KeyD.mono {K : PySem.W.Frag} {G G' : Hp} (ex : Ex G G') : ∀ {xs : List (NestedKey × Addr × V)} {ds : List (D × D)}, KeyD K G xs ds → KeyD K G' xs ds
  | _, _, .nil => .nil
  | _, _, .cons h1 h2 h3 h4 t => .cons h1 h2 (h3.mono ex) (h4.mono ex) (KeyD.mono ex t)
def Cell (K : PySem.W.Frag) (G : Hp) (o : HO) : D → Prop
  | .lst ds => ∃ vs, o = .lst vs ∧ IsL K G vs ds
  | .dic kds => ∃ kvs, o = .dK kvs ∧ IsD K G kvs kds
  | .dit kds => ∃ kvs, o = .dT kvs ∧ IsD K G kvs kds
  | .ins C fds => ∃ dx fs, o = .ins C dx fs ∧ IsD K G fs fds
  | .din P w kds => ∃ b kvs, o = NDo P w b kvs ∧ IsD K G kvs kds
  | .dky P w kds => ∃ b xs, o = NKo P w b xs ∧ KeyD K G xs kds
  | _ => False
theorem Cell.mono {K : PySem.W.Frag} {G G' : Hp} {o : HO} {d : D} (h : Cell K G o d) (e : Ex G G') : Cell K G' o d := by
  unfold Cell at h ⊢
  split at h
  · obtain ⟨vs, h1, h2⟩ := h; exact ⟨vs, h1, h2.mono e⟩
  · obtain ⟨vs, h1, h2⟩ := h; exact ⟨vs, h1, h2.mono e⟩
  · obtain ⟨vs, h1, h2⟩ := h; exact ⟨vs, h1, h2.mono e⟩
  · obtain ⟨dx, vs, h1, h2⟩ := h; exact ⟨dx, vs, h1, h2.mono e⟩
  · obtain ⟨dx, vs, h1, h2⟩ := h; exact ⟨dx, vs, h1, h2.mono e⟩
  · obtain ⟨dx, vs, h1, h2⟩ := h; exact ⟨dx, vs, h1, h2.mono e⟩
  · exact h.elim
def isDict : D → Bool
  | .dic _ => true | .dit _ => true | .din _ _ _ => true | .dky _ _ _ => true | _ => false
theorem Cell.is {K : PySem.W.Frag} {G : Hp} {o : HO} {d : D} {p : Addr} (h : Cell K G o d) (n : isDict d = false) (e : G p = some o) : Is K G (.ref p) d := by
  unfold Cell at h
  split at h
  · obtain ⟨vs, rfl, h2⟩ := h; exact .lst e h2
  · cases n
  · cases n
  · obtain ⟨dx, vs, rfl, h2⟩ := h; exact .ins e h2
  · cases n
  · cases n
  · exact h.elim
theorem Cell.isD {K : PySem.W.Frag} {G : Hp} {o : HO} {d : D} {p : Addr} {od : Obj} (h : Cell K G o d) (n : isDict d = true) (e : G p = some (.frz od o)) : Is K G (.ref p) d := by
  unfold Cell at h
  split at h
  · cases n
  · obtain ⟨vs, rfl, h2⟩ := h; exact .dic e h2
  · obtain ⟨vs, rfl, h2⟩ := h; exact .dit e h2
  · cases n
  · obtain ⟨b, vs, rfl, h2⟩ := h; exact .din e h2
  · obtain ⟨b, vs, rfl, h2⟩ := h; exact .dky e
  · exact h.elim
theorem Cell.mut {K : PySem.W.Frag} {G : Hp} {o : HO} {d : D} (h : Cell K G o d) : Mut (some o) := by
  unfold Cell at h
  split at h
  · obtain ⟨vs, rfl, h2⟩ := h; trivial
  · obtain ⟨vs, rfl, h2⟩ := h; trivial
  · obtain ⟨vs, rfl, h2⟩ := h; trivial
  · obtain ⟨dx, vs, rfl, h2⟩ := h; trivial
  · obtain ⟨dx, vs, rfl, h2⟩ := h; unfold NDo; trivial
  · obtain ⟨dx, vs, rfl, h2⟩ := h; unfold NKo; trivial
  · exact h.elim
theorem Cell.noTab {K : PySem.W.Frag} {G : Hp} {o : HO} {d : D} (h : Cell K G o d) : (∀ ps, o ≠ .tbl ps) ∧ ∀ c q, o ≠ LamX.CodeO c q := by
  unfold Cell at h
  split at h
  · obtain ⟨vs, rfl, h2⟩ := h; exact ⟨fun _ z => (by cases z), fun _ _ z => (by unfold LamX.CodeO at z; cases z)⟩
  · obtain ⟨vs, rfl, h2⟩ := h; exact ⟨fun _ z => (by cases z), fun _ _ z => (by unfold LamX.CodeO at z; cases z)⟩
  · obtain ⟨vs, rfl, h2⟩ := h; exact ⟨fun _ z => (by cases z), fun _ _ z => (by unfold LamX.CodeO at z; cases z)⟩
  · obtain ⟨dx, vs, rfl, h2⟩ := h; exact ⟨fun _ z => (by cases z), fun _ _ z => (by unfold LamX.CodeO at z; cases z)⟩
  · obtain ⟨dx, vs, rfl, h2⟩ := h; exact ⟨fun _ z => (by unfold NDo at z; cases z), fun _ _ z => NDo.ne _ _ z⟩
  · obtain ⟨dx, vs, rfl, h2⟩ := h; exact ⟨fun _ z => (by unfold NKo at z; cases z), fun _ _ z => NKo.ne _ _ z⟩
  · exact h.elim
def Im (o : HO) : Prop := (∃ xs, o = .tup xs) ∨ ∃ c q, o = LamX.CodeO c q
theorem Cell.notTup {K : PySem.W.Frag} {G : Hp} {o : HO} {d : D} (h : Cell K G o d) : ¬ Im o := by
  rintro (⟨ys, rfl⟩ | ⟨c, q, z⟩)
  case inr => exact h.noTab.2 c q z
  unfold Cell at h
  split at h
  · obtain ⟨vs, z, _⟩ := h; cases z
  · obtain ⟨vs, z, _⟩ := h; cases z
  · obtain ⟨vs, z, _⟩ := h; cases z
  · obtain ⟨dx, vs, z, _⟩ := h; cases z
  · obtain ⟨dx, vs, z, _⟩ := h; unfold NDo at z; cases z
  · obtain ⟨dx, vs, z, _⟩ := h; unfold NKo at z; cases z
  · exact h.elim
structure Dr where
  d : Addr
  g : Addr
  c : Addr
  cs : List Int
  T : List (Addr × Str)
def DrawIn (H : Hp) (x : Dr) : Prop := ∃ (great : List Int) (cells : Unit) (rest turn : Int),
  H x.d = some (.dK [(.inr "great", .ref x.g), (.inr "rest", .int rest), (.inr "cells", .ref x.c), (.inr "turn", .int turn)]) ∧
  H x.g = some (.lst (great.map V.int)) ∧ H x.c = some (.lst (x.cs.map V.int))
def Off (x : Option Dr) (a : Addr) : Prop := ∀ y, x = some y → a ≠ y.d ∧ a ≠ y.g ∧ a ≠ y.c
def DrG (x : Option Dr) (G H : Hp) : Prop := ∀ y, x = some y → DrawIn H y ∧ G y.d = none ∧ G y.g = none ∧ G y.c = none ∧ LamX.Tabs y.T H
def NT (o : HO) : Prop := ∀ ps, o ≠ .tbl ps
def NoTab (o : HO) : Prop := (∀ ps, o ≠ .tbl ps) ∧ ∀ c q, o ≠ LamX.CodeO c q
theorem tabs_upd {T : List (Addr × Str)} {H : Hp} {p : Addr} {o : HO} (t : LamX.Tabs T H) (hp : ∀ u, H p = some u → NoTab u) : LamX.Tabs T (upd H p o) := fun q hq => by
  obtain ⟨ps, h1, h2, h3⟩ := t q hq
  have ne : q.1 ≠ p := fun z => by rw [z] at h1; exact (hp _ h1).1 ps rfl
  refine ⟨ps, by rw [upd_ne ne]; exact h1, h2, fun pos cv hc => ?_⟩
  obtain ⟨c, e1, e2⟩ := h3 pos cv hc
  have ne2 : c ≠ p := fun z => by rw [z] at e2; exact (hp _ e2).2 p q.2 rfl
  exact ⟨c, e1, by rw [upd_ne ne2]; exact e2⟩
theorem NoTab.none {H : Hp} {p : Addr} (hp : H p = none) : ∀ u, H p = some u → NoTab u := fun u h => by rw [hp] at h; cases h
def strip (H : Hp) : Hp := fun a => match H a with
  | some (.tbl _) => none
  | o => o
theorem strip_some {H : Hp} {a : Addr} {o : HO} (h : strip H a = some o) : H a = some o ∧ NT o := by
  unfold strip at h
  split at h
  · cases h
  · rename_i n
    exact ⟨h, fun ps z => n ps (by rw [h, z])⟩
theorem strip_of {H : Hp} {a : Addr} {o : HO} (h : H a = some o) (n : NT o) : strip H a = some o := by
  unfold strip
  rw [h]
  cases o <;> first | rfl | exact absurd rfl (n _)
theorem strip_nt {H : Hp} {a : Addr} {ps : Array Value} : strip H a ≠ some (.tbl ps) := fun h => (strip_some h).2 ps rfl
structure An where
  G0 : Hp
  H0 : Hp
  ow : Bool
  ties : List (Nat × Addr)

inductive IsR (K : PySem.W.Frag) (G : Hp) (τ : List Addr) : V → R → Prop
  | v {x : V} {d : D} : Is K G x d → IsR K G τ x (.v d)
  | o {a : Addr} {k : Nat} : τ[k]? = some a → IsR K G τ (.ref a) (.o k)

structure Good (K : PySem.W.Frag) (an : An) (dr : Option Dr) (om : Om) (τ : List Addr) (G H : Hp) : Prop where
  ex : Ex G H
  len : om.length = τ.length
  nd : τ.Nodup
  own : ∀ (k : Nat) (p : Addr) (d : D), τ[k]? = some p → om[k]? = some (some d) → G p = none ∧ an.H0 p = none ∧ Off dr p ∧ ∃ o, H p = some o ∧ Cell K G o d
  drg : DrG dr G H
  a1 : Ex an.G0 G
  a2 : ∀ a o, an.H0 a = some o → Off dr a → H a = some o
  a3 : ∀ a, an.H0 a ≠ none → an.G0 a = none → G a = none ∨ ∃ o, an.H0 a = some o ∧ Im o
  a4 : ∀ (k : Nat) (p : Addr), τ[k]? = some p → Off dr p ∧ ∃ o, H p = some o ∧ NT o
  gt : ∀ a o, G a = some o → NT o
  nt0 : ∀ a ps, an.H0 a ≠ some (.tbl ps)
  ti : ∀ t ∈ an.ties, τ[t.1]? = some t.2
def EnvIs (K : PySem.W.Frag) (G : Hp) (τ : List Addr) (σ : L2.St) (ρ : Rho) : Prop := ∀ (i : Nat) (r : R), ρ[i]? = some (some r) → ∃ v, σ[i]? = some (some v) ∧ IsR K G τ v r
structure Grow (G : Hp) (τ : List Addr) (G' : Hp) (τ' : List Addr) : Prop where
  ex : Ex G G'
  pre : ∀ (k : Nat) (p : Addr), τ[k]? = some p → τ'[k]? = some p
theorem Grow.refl (G : Hp) (τ : List Addr) : Grow G τ G τ := ⟨Ex.refl G, fun _ _ h => h⟩
theorem Grow.trans {G G1 G2 : Hp} {τ τ1 τ2 : List Addr} (a : Grow G τ G1 τ1) (b : Grow G1 τ1 G2 τ2) : Grow G τ G2 τ2 := ⟨a.ex.trans b.ex, fun k p h => b.pre k p (a.pre k p h)⟩
theorem IsR.mono {K : PySem.W.Frag} {G G' : Hp} {τ τ' : List Addr} {v : V} {r : R} (g : Grow G τ G' τ') (h : IsR K G τ v r) : IsR K G' τ' v r := by
  cases h with
  | v h => exact .v (h.mono g.ex)
  | o h => exact .o (g.pre _ _ h)
theorem EnvIs.mono {K : PySem.W.Frag} {G G' : Hp} {τ τ' : List Addr} {σ : L2.St} {ρ : Rho} (g : Grow G τ G' τ') (h : EnvIs K G τ σ ρ) : EnvIs K G' τ' σ ρ := fun i r e => by
  obtain ⟨v, h1, h2⟩ := h i r e
  exact ⟨v, h1, h2.mono g⟩

section
variable {K : PySem.W.Frag} {an : An} {dr : Option Dr} {om : Om} {τ : List Addr} {G H : Hp}
theorem Good.alloc {p : Addr} {o : HO} (g : Good K an dr om τ G H) (hp : H p = none) (ho : NT o := by intro _ z; cases z) : Good K an dr om τ (upd G p o) (upd H p o) where
  ex := g.ex.both
  len := g.len
  nd := g.nd
  own := fun k q ds h1 h2 => by
    obtain ⟨e1, e2, e3, vs, e4, e5⟩ := g.own k q ds h1 h2
    have nq : q ≠ p := ne_of_none e4 hp
    exact ⟨by rw [upd_ne nq]; exact e1, e2, e3, vs, by rw [upd_ne nq]; exact e4, e5.mono (Ex.new (g.ex.free hp))⟩
  drg := fun y hy => by
    obtain ⟨⟨gr, ce, re, tu, h1, h2, h3⟩, h4, h5, h6, h7⟩ := g.drg y hy
    have n1 : y.d ≠ p := ne_of_none h1 hp
    have n2 : y.g ≠ p := ne_of_none h2 hp
    have n3 : y.c ≠ p := ne_of_none h3 hp
    exact ⟨⟨gr, ce, re, tu, by rw [upd_ne n1]; exact h1, by rw [upd_ne n2]; exact h2, by rw [upd_ne n3]; exact h3⟩, by rw [upd_ne n1]; exact h4, by rw [upd_ne n2]; exact h5, by rw [upd_ne n3]; exact h6, tabs_upd h7 (NoTab.none hp)⟩
  a1 := g.a1.trans (Ex.new (g.ex.free hp))
  a2 := fun a o' h1 h2 => by
    have q := g.a2 a o' h1 h2
    rw [upd_ne (ne_of_none q hp)]; exact q
  a3 := fun a h1 h2 => by
    by_cases q : a = p
    · subst q
      cases e : an.H0 a with
      | none => exact absurd e h1
      | some o' =>
        exfalso
        by_cases hof : Off dr a
        · rw [g.a2 a o' e hof] at hp; cases hp
        · apply hof
          intro y hy
          obtain ⟨⟨gr, ce, re, tu, h1, h2, h3⟩, _⟩ := g.drg y hy
          exact ⟨(ne_of_none h1 hp).symm, (ne_of_none h2 hp).symm, (ne_of_none h3 hp).symm⟩
    · rw [upd_ne q]; exact g.a3 a h1 h2
  a4 := fun k q h1 => by
    obtain ⟨h0, o', h2, h3⟩ := g.a4 k q h1
    exact ⟨h0, o', by rw [upd_ne (ne_of_none h2 hp)]; exact h2, h3⟩
  gt := fun a u h => by
    by_cases q : a = p
    · subst q; rw [upd_same] at h; cases h; exact ho
    · rw [upd_ne q] at h; exact g.gt a u h
  nt0 := g.nt0
  ti := g.ti
theorem Good.grow {p : Addr} {o : HO} (g : Good K an dr om τ G H) (hp : H p = none) : Grow G τ (upd G p o) τ := ⟨Ex.new (g.ex.free hp), fun _ _ h => h⟩
theorem Good.off {p : Addr} (g : Good K an dr om τ G H) (hp : H p = none) : Off dr p := fun y hy => by
  obtain ⟨⟨gr, ce, re, tu, h1, h2, h3⟩, _⟩ := g.drg y hy
  exact ⟨(ne_of_none h1 hp).symm, (ne_of_none h2 hp).symm, (ne_of_none h3 hp).symm⟩
theorem Good.free0 {p : Addr} (g : Good K an dr om τ G H) (hp : H p = none) : an.H0 p = none := by
  cases e : an.H0 p with
  | none => rfl
  | some o => rw [g.a2 p o e (g.off hp)] at hp; cases hp
theorem Good.freshO {p : Addr} {o : HO} {d : D} (g : Good K an dr om τ G H) (hp : H p = none) (hi : Cell K G o d) : Good K an dr (om ++ [some d]) (τ ++ [p]) G (upd H p o) where
  ex := g.ex.mut (g.ex.free hp)
  len := by rw [List.length_append, List.length_append, g.len]; rfl
  nd := by
    rw [List.nodup_append]
    refine ⟨g.nd, by simp, fun a h1 b h2 => ?_⟩
    rw [List.mem_singleton] at h2
    subst h2
    obtain ⟨k, hk⟩ := List.getElem?_of_mem h1
    obtain ⟨_, o, ho, _⟩ := g.a4 k a hk
    exact ne_of_none ho hp
  own := fun k q es h1 h2 => by
    by_cases hk : k < τ.length
    · rw [List.getElem?_append_left hk] at h1
      rw [List.getElem?_append_left (by rw [g.len]; exact hk)] at h2
      obtain ⟨e1, e2, e3, us, e4, e5⟩ := g.own k q es h1 h2
      exact ⟨e1, e2, e3, us, by rw [upd_ne (ne_of_none e4 hp)]; exact e4, e5⟩
    · rw [List.getElem?_append_right (by omega)] at h1
      rw [List.getElem?_append_right (by rw [g.len]; omega), g.len] at h2
      have hz : k - τ.length = 0 := by
        have := (List.getElem?_eq_some_iff.mp h1).1
        simp at this
        omega
      rw [hz] at h1 h2
      simp at h1 h2
      subst h1 h2
      exact ⟨g.ex.free hp, g.free0 hp, g.off hp, o, upd_same, hi⟩
  drg := fun y hy => by
    obtain ⟨⟨gr, ce, re, tu, h1, h2, h3⟩, h4, h5, h6, h7⟩ := g.drg y hy
    exact ⟨⟨gr, ce, re, tu, by rw [upd_ne (ne_of_none h1 hp)]; exact h1, by rw [upd_ne (ne_of_none h2 hp)]; exact h2, by rw [upd_ne (ne_of_none h3 hp)]; exact h3⟩, h4, h5, h6, tabs_upd h7 (NoTab.none hp)⟩
  a1 := g.a1
  a2 := fun a o' h1 h2 => by
    have q := g.a2 a o' h1 h2
    rw [upd_ne (ne_of_none q hp)]; exact q
  a3 := g.a3
  a4 := fun k q h1 => by
    by_cases hk : k < τ.length
    · rw [List.getElem?_append_left hk] at h1
      obtain ⟨h0, o', h2, h3⟩ := g.a4 k q h1
      exact ⟨h0, o', by rw [upd_ne (ne_of_none h2 hp)]; exact h2, h3⟩
    · rw [List.getElem?_append_right (by omega)] at h1
      have hz : k - τ.length = 0 := by
        have := (List.getElem?_eq_some_iff.mp h1).1
        simp at this
        omega
      rw [hz] at h1
      simp at h1
      subst h1
      exact ⟨g.off hp, _, upd_same, hi.noTab.1⟩
  gt := g.gt
  nt0 := g.nt0
  ti := fun t ht => by
    have := g.ti t ht
    rw [List.getElem?_append_left (List.getElem?_eq_some_iff.mp this).1]; exact this
theorem Good.fresh {p : Addr} {vs : List V} {ds : List D} (g : Good K an dr om τ G H) (hp : H p = none) (hi : IsL K G vs ds) : Good K an dr (om ++ [some (.lst ds)]) (τ ++ [p]) G (upd H p (.lst vs)) := g.freshO hp ⟨_, rfl, hi⟩
theorem Good.growF {p : Addr} : Grow G τ G (τ ++ [p]) := ⟨Ex.refl G, fun k q h => by rw [List.getElem?_append_left (List.getElem?_eq_some_iff.mp h).1]; exact h⟩
theorem Good.writeO {k : Nat} {p : Addr} {o : HO} {d es : D} (g : Good K an dr om τ G H) (hk : τ[k]? = some p) (ho : om[k]? = some (some es)) (hi : Cell K G o d) : Good K an dr (om.set k (some d)) τ G (upd H p o) := by
  obtain ⟨f1, f2, f3, us, f4, f5⟩ := g.own k p es hk ho
  exact {
    ex := g.ex.mut f1
    len := by rw [List.length_set]; exact g.len
    nd := g.nd
    own := fun j q fs h1 h2 => by
      by_cases hj : k = j
      · subst hj
        rw [hk] at h1
        cases h1
        rw [List.getElem?_set_self (by rw [g.len]; exact (List.getElem?_eq_some_iff.mp hk).1)] at h2
        cases h2
        exact ⟨f1, f2, f3, o, upd_same, hi⟩
      · rw [List.getElem?_set_ne hj] at h2
        obtain ⟨e1, e2, e3, ws, e4, e5⟩ := g.own j q fs h1 h2
        have nq : q ≠ p := by
          intro z
          subst z
          exact hj ((List.getElem?_inj (List.getElem?_eq_some_iff.mp hk).1 g.nd).mp (hk.trans h1.symm))
        exact ⟨e1, e2, e3, ws, by rw [upd_ne nq]; exact e4, e5⟩
    drg := fun y hy => by
      obtain ⟨⟨gr, ce, re, tu, h1, h2, h3⟩, h4, h5, h6, h7⟩ := g.drg y hy
      obtain ⟨n1, n2, n3⟩ := f3 y hy
      exact ⟨⟨gr, ce, re, tu, by rw [upd_ne n1.symm]; exact h1, by rw [upd_ne n2.symm]; exact h2, by rw [upd_ne n3.symm]; exact h3⟩, h4, h5, h6, tabs_upd h7 fun u hu => by rw [f4] at hu; cases hu; exact f5.noTab⟩
    a1 := g.a1
    a2 := fun a o' h1 h2 => by
      rw [upd_ne (ne_of_none h1 f2)]; exact g.a2 a o' h1 h2
    a3 := g.a3
    a4 := fun j q h1 => by
      obtain ⟨h0, o', h2, h3⟩ := g.a4 j q h1
      by_cases z : q = p
      · subst z; exact ⟨h0, _, upd_same, hi.noTab.1⟩
      · exact ⟨h0, o', by rw [upd_ne z]; exact h2, h3⟩
    gt := g.gt
    nt0 := g.nt0
    ti := g.ti }
theorem Good.write {k : Nat} {p : Addr} {vs : List V} {ds : List D} {es : D} (g : Good K an dr om τ G H) (hk : τ[k]? = some p) (ho : om[k]? = some (some es)) (hi : IsL K G vs ds) : Good K an dr (om.set k (some (.lst ds))) τ G (upd H p (.lst vs)) := g.writeO hk ho ⟨_, rfl, hi⟩
theorem Good.close {k : Nat} {p : Addr} {ds : D} {o : HO} (g : Good K an dr om τ G H) (hk : τ[k]? = some p) (ho : om[k]? = some (some ds)) (ht : NT o := by intro _ z; cases z) : Good K an dr (om.set k none) τ (upd G p o) (upd H p o) := by
  obtain ⟨f1, f2, f3, vs, f4, f5⟩ := g.own k p ds hk ho
  exact {
    ex := g.ex.both
    len := by rw [List.length_set]; exact g.len
    nd := g.nd
    own := fun j q fs h1 h2 => by
      by_cases hj : k = j
      · subst hj
        rw [List.getElem?_set_self (by rw [g.len]; exact (List.getElem?_eq_some_iff.mp hk).1)] at h2
        cases h2
      · rw [List.getElem?_set_ne hj] at h2
        obtain ⟨e1, e2, e3, ws, e4, e5⟩ := g.own j q fs h1 h2
        have nq : q ≠ p := by
          intro z
          subst z
          exact hj ((List.getElem?_inj (List.getElem?_eq_some_iff.mp hk).1 g.nd).mp (hk.trans h1.symm))
        exact ⟨by rw [upd_ne nq]; exact e1, e2, e3, ws, by rw [upd_ne nq]; exact e4, e5.mono (Ex.new f1)⟩
    drg := fun y hy => by
      obtain ⟨⟨gr, ce, re, tu, q1, q2, q3⟩, h4, h5, h6, h7⟩ := g.drg y hy
      obtain ⟨n1, n2, n3⟩ := f3 y hy
      exact ⟨⟨gr, ce, re, tu, by rw [upd_ne n1.symm]; exact q1, by rw [upd_ne n2.symm]; exact q2, by rw [upd_ne n3.symm]; exact q3⟩, by rw [upd_ne n1.symm]; exact h4, by rw [upd_ne n2.symm]; exact h5, by rw [upd_ne n3.symm]; exact h6, tabs_upd h7 fun u hu => by rw [f4] at hu; cases hu; exact f5.noTab⟩
    a1 := g.a1.trans (Ex.new f1)
    a2 := fun a o' h1 h2 => by
      rw [upd_ne (ne_of_none h1 f2)]; exact g.a2 a o' h1 h2
    a3 := fun a h1 h2 => by
      have z : a ≠ p := fun z => h1 (z ▸ f2)
      rw [upd_ne z]; exact g.a3 a h1 h2
    a4 := fun j q h1 => by
      obtain ⟨h0, o', h2, h3⟩ := g.a4 j q h1
      by_cases z : q = p
      · subst z; exact ⟨h0, _, upd_same, ht⟩
      · exact ⟨h0, o', by rw [upd_ne z]; exact h2, h3⟩
    gt := fun a u h => by
      by_cases q : a = p
      · subst q; rw [upd_same] at h; cases h; exact ht
      · rw [upd_ne q] at h; exact g.gt a u h
    nt0 := g.nt0
    ti := g.ti }
theorem upd_id {H : Hp} {p : Addr} {o : HO} (h : H p = some o) : upd H p o = H := by
  funext b
  by_cases z : b = p
  · subst z; rw [upd_same, h]
  · rw [upd_ne z]
theorem Good.freeze {k : Nat} {p : Addr} {ds : D} (g : Good K an dr om τ G H) (hk : τ[k]? = some p) (ho : om[k]? = some (some ds)) (n : isDict ds = false) :
    ∃ o, Good K an dr (om.set k none) τ (upd G p o) H ∧ Grow G τ (upd G p o) τ ∧ Is K (upd G p o) (.ref p) ds := by
  obtain ⟨f1, f2, f3, o, f4, f5⟩ := g.own k p ds hk ho
  have g' := g.close (o := o) hk ho f5.noTab.1
  rw [upd_id f4] at g'
  exact ⟨o, g', ⟨Ex.new f1, fun _ _ h => h⟩, (f5.mono (Ex.new f1)).is n upd_same⟩
theorem Good.freezeD {k : Nat} {p : Addr} {ds : D} (g : Good K an dr om τ G H) (hk : τ[k]? = some p) (ho : om[k]? = some (some ds)) (n : isDict ds = true) :
    ∃ u, H p = some u ∧ Mut (some u) ∧ ∀ od, Good K an dr (om.set k none) τ (upd G p (.frz od u)) (upd H p (.frz od u)) ∧ Grow G τ (upd G p (.frz od u)) τ ∧ Is K (upd G p (.frz od u)) (.ref p) ds := by
  obtain ⟨f1, f2, f3, o, f4, f5⟩ := g.own k p ds hk ho
  exact ⟨o, f4, f5.mut, fun od => ⟨g.close hk ho (fun _ z => by cases z), ⟨Ex.new f1, fun _ _ h => h⟩, (f5.mono (Ex.new f1)).isD n upd_same⟩⟩
end
end DL

namespace DL
open PySem L2
section
variable (K : PySem.W.Frag) (an : An) (dr : Option Dr)
def tD (ρ : Rho) (om : Om) (Q : R → Om → Prop) : TE := fun σ H K' => ∃ τ G, Good K an dr om τ G H ∧ EnvIs K G τ σ ρ ∧
  ∀ v r om' τ' G' H', IsR K G' τ' v r → Q r om' → Good K an dr om' τ' G' H' → Grow G τ G' τ' → K' v H'
def tDT (ρ : Rho) (om : Om) (Q : Bool → Om → Prop) : TT := fun σ H K' => ∃ τ G, Good K an dr om τ G H ∧ EnvIs K G τ σ ρ ∧
  ∀ b om' τ' G' H', Q b om' → Good K an dr om' τ' G' H' → Grow G τ G' τ' → K' b H'
def tDA (ρ : Rho) (om : Om) (Q : List R → Om → Prop) : TA := fun σ H K' => ∃ τ G, Good K an dr om τ G H ∧ EnvIs K G τ σ ρ ∧
  ∀ vs rs om' τ' G' H', Paired (IsR K G' τ') vs rs → Q rs om' → Good K an dr om' τ' G' H' → Grow G τ G' τ' → K' vs H'
structure Ed where
  nx : Rho → Om → Prop
  rt : D → Prop
  bk : Rho → Om → Prop := fun _ _ => False
  ct : Rho → Om → Prop := fun _ _ => False
def Left (G : Hp) (τ : List Addr) (n : Nat) (P : Rho → Om → Prop) (σ' : L2.St) (H' : Hp) : Prop :=
  ∃ ρ' om' τ' G', P ρ' om' ∧ Good K an dr om' τ' G' H' ∧ EnvIs K G' τ' σ' ρ' ∧ Grow G τ G' τ' ∧ σ'.length = n ∧ ρ'.length = n
def LeftV (G : Hp) (τ : List Addr) (P : D → Prop) (v : V) (H' : Hp) : Prop :=
  ∃ d om' τ' G', P d ∧ (Is K G' v d ∨ an.ow = true ∧ ∃ (k : Nat) (p : Addr) (c : D), d = .own c ∧ v = .ref p ∧ τ'[k]? = some p ∧ om'[k]? = some (some c)) ∧ Good K an dr om' τ' G' H' ∧ Grow G τ G' τ'
def tDS (ρ : Rho) (om : Om) (E : Ed) : TS := fun Z σ H => ∃ τ G, Good K an dr om τ G H ∧ EnvIs K G τ σ ρ ∧ σ.length = ρ.length ∧
  (∀ σ' H', Left K an dr G τ ρ.length E.nx σ' H' → Z.nx σ' H') ∧ (∀ v H', LeftV K an dr G τ E.rt v H' → Z.rt v H') ∧
  (∀ σ' H', Left K an dr G τ ρ.length E.bk σ' H' → Z.bk σ' H') ∧ (∀ σ' H', Left K an dr G τ ρ.length E.ct σ' H' → Z.ct σ' H')
end
def WE (X : Cx) (an : An) (dr : Option Dr) (ρ : Rho) (om : Om) (e : Expr) (Q : R → Om → Prop) : Prop := PE X e (tD X.K an dr ρ om Q)
def WT (X : Cx) (an : An) (dr : Option Dr) (ρ : Rho) (om : Om) (e : Expr) (Q : Bool → Om → Prop) : Prop := PT X e (tDT X.K an dr ρ om Q)
def WA (X : Cx) (an : An) (dr : Option Dr) (ρ : Rho) (om : Om) (es : List Expr) (Q : List R → Om → Prop) : Prop := PA X es (tDA X.K an dr ρ om Q)
def WS (X : Cx) (an : An) (dr : Option Dr) (ρ : Rho) (om : Om) (st : Stmt) (E : Ed) : Prop := PS X st (tDS X.K an dr ρ om E)
def WSs (X : Cx) (an : An) (dr : Option Dr) (ρ : Rho) (om : Om) (st : List Stmt) (E : Ed) : Prop := PSs X st (tDS X.K an dr ρ om E)

section
variable {X : Cx} {an : An} {dr : Option Dr} {ρ : Rho} {om : Om} {e a b c : Expr} {es : List Expr} {st : Stmt} {sts : List Stmt} {pos : Pos}
theorem peI {t t' : TE} (h : PE X e t) (i : ∀ σ H K', t' σ H K' → t σ H K') : PE X e t' := ⟨fun pins s σ H Q I q => h.run pins s σ H Q I (i σ H Q q)⟩
theorem ptI {t t' : TT} (h : PT X e t) (i : ∀ σ H K', t' σ H K' → t σ H K') : PT X e t' := ⟨fun pins s σ H Q I q => h.run pins s σ H Q I (i σ H Q q)⟩
theorem pwI {t t' : TT} (h : PW X e t) (i : ∀ σ H K', t' σ H K' → t σ H K') : PW X e t' := ⟨fun wh pins s σ H Q I q => h.run wh pins s σ H Q I (i σ H Q q)⟩
theorem paI {t t' : TA} (h : PA X es t) (i : ∀ σ H K', t' σ H K' → t σ H K') : PA X es t' := ⟨fun pos pins s σ H Q I q => h.run pos pins s σ H Q I (i σ H Q q)⟩
theorem psI {t t' : TS} (h : PS X st t) (i : ∀ Z σ H, t' Z σ H → t Z σ H) : PS X st t' := ⟨fun pins s σ H Z I q => h.run pins s σ H Z I (i Z σ H q)⟩
theorem pssI {t t' : TS} (h : PSs X sts t) (i : ∀ Z σ H, t' Z σ H → t Z σ H) : PSs X sts t' := ⟨fun pins s σ H Z I q => h.run pins s σ H Z I (i Z σ H q)⟩

def uE (X : Cx) (an : An) (dr : Option Dr) (e : Expr) : TE := fun σ H K' => ∃ ρ om Q, WE X an dr ρ om e Q ∧ tD X.K an dr ρ om Q σ H K'
def uT (X : Cx) (an : An) (dr : Option Dr) (e : Expr) : TT := fun σ H K' => ∃ ρ om Q, WT X an dr ρ om e Q ∧ tDT X.K an dr ρ om Q σ H K'
def uA (X : Cx) (an : An) (dr : Option Dr) (e : List Expr) : TA := fun σ H K' => ∃ ρ om Q, WA X an dr ρ om e Q ∧ tDA X.K an dr ρ om Q σ H K'
def uS (X : Cx) (an : An) (dr : Option Dr) (e : List Stmt) : TS := fun Z σ H => ∃ ρ om Q, WSs X an dr ρ om e Q ∧ tDS X.K an dr ρ om Q Z σ H
def uS1 (X : Cx) (an : An) (dr : Option Dr) (e : Stmt) : TS := fun Z σ H => ∃ ρ om Q, WS X an dr ρ om e Q ∧ tDS X.K an dr ρ om Q Z σ H
theorem pe_u : PE X e (uE X an dr e) := ⟨fun pins s σ H K' I ⟨ρ, om, Q, w, h⟩ => PE.run w pins s σ H K' I h⟩
theorem pt_u : PT X e (uT X an dr e) := ⟨fun pins s σ H K' I ⟨ρ, om, Q, w, h⟩ => PT.run w pins s σ H K' I h⟩
theorem pa_u : PA X es (uA X an dr es) := ⟨fun pos pins s σ H K' I ⟨ρ, om, Q, w, h⟩ => PA.run w pos pins s σ H K' I h⟩
theorem ps_u : PS X st (uS1 X an dr st) := ⟨fun pins s σ H K' I ⟨ρ, om, Q, w, h⟩ => PS.run w pins s σ H K' I h⟩
theorem pss_u : PSs X sts (uS X an dr sts) := ⟨fun pins s σ H K' I ⟨ρ, om, Q, w, h⟩ => PSs.run w pins s σ H K' I h⟩

theorem uE_of {σ : L2.St} {H : Hp} {τ : List Addr} {G : Hp} {Q : R → Om → Prop} {K' : VK} (w : WE X an dr ρ om e Q) (g : Good X.K an dr om τ G H) (n : EnvIs X.K G τ σ ρ)
    (k : ∀ v r om' τ' G' H', IsR X.K G' τ' v r → Q r om' → Good X.K an dr om' τ' G' H' → Grow G τ G' τ' → EnvIs X.K G' τ' σ ρ → K' v H') : uE X an dr e σ H K' :=
  ⟨ρ, om, Q, w, τ, G, g, n, fun v r om' τ' G' H' h1 h2 h3 h4 => k v r om' τ' G' H' h1 h2 h3 h4 (n.mono h4)⟩
theorem uT_of {σ : L2.St} {H : Hp} {τ : List Addr} {G : Hp} {Q : Bool → Om → Prop} {K' : Bool → Hp → Prop} (w : WT X an dr ρ om e Q) (g : Good X.K an dr om τ G H) (n : EnvIs X.K G τ σ ρ)
    (k : ∀ b om' τ' G' H', Q b om' → Good X.K an dr om' τ' G' H' → Grow G τ G' τ' → EnvIs X.K G' τ' σ ρ → K' b H') : uT X an dr e σ H K' :=
  ⟨ρ, om, Q, w, τ, G, g, n, fun b om' τ' G' H' h2 h3 h4 => k b om' τ' G' H' h2 h3 h4 (n.mono h4)⟩
theorem uA_of {σ : L2.St} {H : Hp} {τ : List Addr} {G : Hp} {Q : List R → Om → Prop} {K' : List V → Hp → Prop} (w : WA X an dr ρ om es Q) (g : Good X.K an dr om τ G H) (n : EnvIs X.K G τ σ ρ)
    (k : ∀ vs rs om' τ' G' H', Paired (IsR X.K G' τ') vs rs → Q rs om' → Good X.K an dr om' τ' G' H' → Grow G τ G' τ' → EnvIs X.K G' τ' σ ρ → K' vs H') : uA X an dr es σ H K' :=
  ⟨ρ, om, Q, w, τ, G, g, n, fun vs rs om' τ' G' H' h1 h2 h3 h4 => k vs rs om' τ' G' H' h1 h2 h3 h4 (n.mono h4)⟩

theorem WE.imp {Q Q' : R → Om → Prop} (h : WE X an dr ρ om e Q) (i : ∀ r om', Q r om' → Q' r om') : WE X an dr ρ om e Q' :=
  peI h fun σ H K' ⟨τ, G, g, n, k⟩ => ⟨τ, G, g, n, fun v r om' τ' G' H' h1 h2 h3 h4 => k v r om' τ' G' H' h1 (i r om' h2) h3 h4⟩
theorem WT.imp {Q Q' : Bool → Om → Prop} (h : WT X an dr ρ om e Q) (i : ∀ r om', Q r om' → Q' r om') : WT X an dr ρ om e Q' :=
  ptI h fun σ H K' ⟨τ, G, g, n, k⟩ => ⟨τ, G, g, n, fun b om' τ' G' H' h2 h3 h4 => k b om' τ' G' H' (i b om' h2) h3 h4⟩

theorem we_name {i : Nat} {x : Str} {r : R} {Q : R → Om → Prop} (hN : X.N[i]? = some x) (hv : Vis X.env.scope x) (hr : ρ[i]? = some (some r)) (q : Q r om) (hd : (x == ("__debug__" : Str)) = false := by decide) (hcd : (x == ("__classdict__" : Str)) = false := by decide) :
    WE X an dr ρ om (.Name x pos) Q := peI (pe_var hN hv hd hcd) fun σ H K' ⟨τ, G, g, n, k⟩ => by
  obtain ⟨v, h1, h2⟩ := n i r hr
  exact ⟨v, h1, k v r om τ G H h2 q g (Grow.refl G τ)⟩
theorem we_c {v : V} {d : D} {Q : R → Om → Prop} (h : PE X e (tC v)) (i : ∀ G, Is X.K G v d) (q : Q (.v d) om) : WE X an dr ρ om e Q := peI h fun σ H K' ⟨τ, G, g, n, k⟩ =>
  k v _ om τ G H (.v (i G)) q g (Grow.refl G τ)
theorem we_int {i : Int} {j} {Q : R → Om → Prop} (q : Q (.v (.int i)) om) : WE X an dr ρ om (.Constant (.int i) j pos) Q := we_c pe_int (fun _ => .int i) q
theorem we_str {i : Str} {j} {Q : R → Om → Prop} (q : Q (.v (.str i)) om) : WE X an dr ρ om (.Constant (.str i) j pos) Q := we_c pe_str (fun _ => .str i) q
theorem we_bl {i : Bool} {j} {Q : R → Om → Prop} (q : Q (.v (.bl i)) om) : WE X an dr ρ om (.Constant (.bool i) j pos) Q := we_c pe_bl (fun _ => .bl i) q
theorem we_non {j} {Q : R → Om → Prop} (q : Q (.v .non) om) : WE X an dr ρ om (.Constant .none j pos) Q := we_c pe_non (fun _ => .non) q
theorem we_glob {x : Str} {v : V} {u : Value} {d : D} {Q : R → Om → Prop} (hm : X.mg x = some u) (r : RelV v u) (i : ∀ G, Is X.K G v d) (hg : Gl X x) (q : Q (.v d) om) (hd : (x == ("__debug__" : Str)) = false := by decide) : WE X an dr ρ om (.Name x pos) Q := we_c (pe_glob hg hm r hd) i q
theorem we_bltn {x : Str} {v : V} {u : Value} {d : D} {Q : R → Om → Prop} (hm : X.mg x = none) (hv : bootBuiltins x = some u) (r : RelV v u) (i : ∀ G, Is X.K G v d) (hg : Gl X x) (q : Q (.v d) om) (hn : x ≠ "__name__" := by decide) (hd : (x == ("__debug__" : Str)) = false := by decide) :
    WE X an dr ρ om (.Name x pos) Q := we_c (pe_bltn hg hm hv r hn hd) i q

theorem wa_nil {Q : List R → Om → Prop} (q : Q [] om) : WA X an dr ρ om [] Q := paI pa_nil fun σ H K' ⟨τ, G, g, n, k⟩ => k [] [] om τ G H .nil q g (Grow.refl G τ)
theorem wa_cons {Q : List R → Om → Prop} (h : WE X an dr ρ om e fun r om1 => WA X an dr ρ om1 es fun rs om2 => Q (r :: rs) om2) (hs : starEach (e :: es) X.env = (false, eval e X.env) :: starEach es X.env := by rfl) : WA X an dr ρ om (e :: es) Q :=
  paI (pa_cons (pe_u (an := an) (dr := dr)) (pa_u (an := an) (dr := dr)) hs) fun σ H K' ⟨τ, G, g, n, k⟩ =>
    uE_of h g n fun v r om1 τ1 G1 H1 h1 w g1 gr1 n1 => uA_of w g1 n1 fun vs rs om2 τ2 G2 H2 h2 q g2 gr2 n2 => k (v :: vs) (r :: rs) om2 τ2 G2 H2 (.cons (h1.mono gr2) h2) q g2 (gr1.trans gr2)

def allV : List R → (List D → Prop) → Prop
  | [], K => K []
  | .v d :: rs, K => allV rs fun ds => K (d :: ds)
  | .o _ :: _, _ => False
theorem allV_is {K : PySem.W.Frag} {G : Hp} {τ : List Addr} : ∀ {vs : List V} {rs : List R} {P : List D → Prop}, Paired (IsR K G τ) vs rs → allV rs P → ∃ ds, IsL K G vs ds ∧ P ds
  | _, _, _, .nil, h => ⟨[], .nil, h⟩
  | _, _, _, .cons (.v a) t, h => by
    obtain ⟨ds, h1, h2⟩ := allV_is t h
    exact ⟨_, .cons a h1, h2⟩
  | _, _, _, .cons (.o _) _, h => h.elim
theorem we_tup {x1} {Q : R → Om → Prop} (h : WA X an dr ρ om es fun rs om1 => allV rs fun ds => ds.length ≤ sizeLine ∧ Q (.v (.tup ds)) om1) : WE X an dr ρ om (.Tuple es x1 pos) Q :=
  peI (pe_tup (pa_u (an := an) (dr := dr))) fun σ H K' ⟨τ, G, g, n, k⟩ => uA_of h g n fun vs rs om1 τ1 G1 H1 h1 q g1 gr1 n1 => by
    obtain ⟨ds, i, z, q⟩ := allV_is h1 q
    exact ⟨by rw [i.length]; exact z, fun p hp => k _ _ om1 τ1 _ _ (.v (.tup upd_same (i.mono (Ex.new (g1.ex.free hp))))) q (g1.alloc hp) (gr1.trans (g1.grow hp))⟩
theorem we_lst {Q : R → Om → Prop} (h : WA X an dr ρ om es fun rs om1 => allV rs fun ds => ds.length ≤ sizeLine ∧ Q (.v (.lst ds)) om1) : WE X an dr ρ om (.List es pos) Q :=
  peI (pe_lst (pa_u (an := an) (dr := dr))) fun σ H K' ⟨τ, G, g, n, k⟩ => uA_of h g n fun vs rs om1 τ1 G1 H1 h1 q g1 gr1 n1 => by
    obtain ⟨ds, i, z, q⟩ := allV_is h1 q
    exact ⟨by rw [i.length]; exact z, fun p hp => k _ _ om1 τ1 _ _ (.v (.lst upd_same (i.mono (Ex.new (g1.ex.free hp))))) q (g1.alloc hp) (gr1.trans (g1.grow hp))⟩
theorem we_lstO {Q : R → Om → Prop} (h : WA X an dr ρ om es fun rs om1 => allV rs fun ds => ds.length ≤ sizeLine ∧ Q (.o om1.length) (om1 ++ [some (.lst ds)])) : WE X an dr ρ om (.List es pos) Q :=
  peI (pe_lst (pa_u (an := an) (dr := dr))) fun σ H K' ⟨τ, G, g, n, k⟩ => uA_of h g n fun vs rs om1 τ1 G1 H1 h1 q g1 gr1 n1 => by
    obtain ⟨ds, i, z, q⟩ := allV_is h1 q
    refine ⟨by rw [i.length]; exact z, fun p hp => k _ _ _ (τ1 ++ [p]) _ _ (.o ?_) q (g1.fresh hp i) (gr1.trans Good.growF)⟩
    rw [g1.len, List.getElem?_append_right (Nat.le_refl _), Nat.sub_self]
    rfl

def cellD : Option (Option D) → D
  | some (some d) => d
  | _ => .dead
def vw (om : Om) : R → D
  | .v d => d
  | .o k => cellD om[k]?
def canMut : D → Bool
  | .lst _ => true | .dic _ => true | .dit _ => true | .ins _ _ => true | .dead => true | .din _ _ _ => true | .dky _ _ _ => true | _ => false
theorem cellD_some {c : Option (Option D)} {d : D} (h : cellD c = d) (n : d ≠ .dead) : c = some (some d) := by
  match c, h with
  | some (some es), h => cases h; rfl
  | some none, h => exact absurd h.symm n
  | none, h => exact absurd h.symm n
theorem vw_cell {K : PySem.W.Frag} {τ : List Addr} {G H : Hp} {a : Addr} {k : Nat} {d : D} (g : Good K an dr om τ G H) (h : τ[k]? = some a) (e : vw om (.o k) = d) (n : d ≠ .dead) : ∃ o, H a = some o ∧ Cell K G o d := by
  obtain ⟨_, _, _, o, h1, h2⟩ := g.own k a d h (cellD_some e n)
  exact ⟨o, h1, h2⟩
theorem vw_lst {K : PySem.W.Frag} {τ : List Addr} {G H : Hp} {v : V} {r : R} {ds : List D} (g : Good K an dr om τ G H) (h : IsR K G τ v r) (e : vw om r = .lst ds) : ∃ p vs, v = .ref p ∧ H p = some (.lst vs) ∧ IsL K G vs ds := by
  cases h with
  | v h =>
    have e : _ = D.lst ds := e
    subst e
    cases h with
    | lst h1 h2 => exact ⟨_, _, rfl, g.ex _ _ h1, h2⟩
  | @o a k h =>
    obtain ⟨_, h1, vs, rfl, h2⟩ := vw_cell g h e (by simp)
    exact ⟨a, vs, rfl, h1, h2⟩
theorem vw_dic {K : PySem.W.Frag} {τ : List Addr} {G H : Hp} {v : V} {r : R} {ds : List (Key × D)} (g : Good K an dr om τ G H) (h : IsR K G τ v r) (e : vw om r = .dic ds) : ∃ p vs, v = .ref p ∧ Rd H p (.dK vs) ∧ IsD K G vs ds := by
  cases h with
  | v h =>
    have e : _ = D.dic ds := e
    subst e
    cases h with
    | dic h1 h2 => exact ⟨_, _, rfl, .inr ⟨_, g.ex _ _ h1⟩, h2⟩
  | @o a k h =>
    obtain ⟨_, h1, vs, rfl, h2⟩ := vw_cell g h e (by simp)
    exact ⟨a, vs, rfl, .inl h1, h2⟩
theorem vw_dit {K : PySem.W.Frag} {τ : List Addr} {G H : Hp} {v : V} {r : R} {ds : List (List Key × D)} (g : Good K an dr om τ G H) (h : IsR K G τ v r) (e : vw om r = .dit ds) : ∃ p vs, v = .ref p ∧ Rd H p (.dT vs) ∧ IsD K G vs ds := by
  cases h with
  | v h =>
    have e : _ = D.dit ds := e
    subst e
    cases h with
    | dit h1 h2 => exact ⟨_, _, rfl, .inr ⟨_, g.ex _ _ h1⟩, h2⟩
  | @o a k h =>
    obtain ⟨_, h1, vs, rfl, h2⟩ := vw_cell g h e (by simp)
    exact ⟨a, vs, rfl, .inl h1, h2⟩
theorem vw_ins {K : PySem.W.Frag} {τ : List Addr} {G H : Hp} {v : V} {r : R} {C : Addr} {fds : List (Str × D)} (g : Good K an dr om τ G H) (h : IsR K G τ v r) (e : vw om r = .ins C fds) : ∃ p dx fs, v = .ref p ∧ H p = some (.ins C dx fs) ∧ IsD K G fs fds := by
  cases h with
  | v h =>
    have e : _ = D.ins C fds := e
    subst e
    cases h with
    | ins h1 h2 => exact ⟨_, _, _, rfl, g.ex _ _ h1, h2⟩
  | @o a k h =>
    obtain ⟨_, h1, dx, vs, rfl, h2⟩ := vw_cell g h e (by simp)
    exact ⟨a, dx, vs, rfl, h1, h2⟩
theorem vw_not {K : PySem.W.Frag} {τ : List Addr} {G H : Hp} {v : V} {r : R} {d : D} (g : Good K an dr om τ G H) (h : IsR K G τ v r) (e : vw om r = d) (nm : canMut d = false) : Is K G v d := by
  cases h with
  | v h => exact e ▸ h
  | @o a k h =>
    exfalso
    have nn : d ≠ .dead := by rintro rfl; cases nm
    obtain ⟨o, _, c⟩ := vw_cell g h e nn
    cases d <;> first | (simp [canMut] at nm; done) | exact False.elim c
end
end DL

namespace DL
open PySem PySem.Spec PyProof.Rows L2
theorem ndo_self {P P' : Program} {w w' : World} {H : Hp} {h : Heap} {p b : Addr} {kvs : List (Option Key × V)} (x : ObjOk P' w' H h p (NDo P w b kvs)) : b = p := by
  obtain ⟨x1, _, x3⟩ := x
  obtain ⟨G, g1, g2⟩ := restrict h fun c => decide (c = p)
  obtain ⟨_, _, vs, _, o, es, ep, ho, _⟩ := x3 h G x1 fun o e => (g1 p (decide_eq_true rfl)).trans e
  by_cases q : b = p
  · exact q
  · rw [g2 b (decide_eq_false q)] at ho
    cases ho
theorem ndo_at {P P' : Program} {w w' : World} {H : Hp} {h : Heap} {p b : Addr} {kvs : List (Option Key × V)} (hok : HOk P' w' H h) (r : Rd H p (NDo P w b kvs)) : kvs.length ≤ sizeLine ∧ (p == sysModules) = false ∧ ∃ vs, KV kvs vs ∧ h.DictOf (noneKind P w) p vs := by
  have x : ObjOk P' w' H h p (NDo P w b kvs) := by
    rcases r with r | ⟨o, r⟩
    · exact hok _ _ r
    · exact (hok _ _ r).2
  have e := ndo_self x
  subst e
  exact x.1
theorem vw_din {K : PySem.W.Frag} {an : An} {dr : Option Dr} {om : Om} {τ : List Addr} {G H : Hp} {v : V} {r : R} {P : Program} {w : World} {ds : List (Option Key × D)} (g : Good K an dr om τ G H) (h : IsR K G τ v r) (e : vw om r = .din P w ds) : ∃ p b vs, v = .ref p ∧ Rd H p (NDo P w b vs) ∧ IsD K G vs ds := by
  cases h with
  | v h =>
    have e : _ = D.din P w ds := e
    subst e
    cases h with
    | din h1 h2 => exact ⟨_, _, _, rfl, .inr ⟨_, g.ex _ _ h1⟩, h2⟩
  | @o a k h =>
    obtain ⟨_, h1, b, vs, rfl, h2⟩ := vw_cell g h e (by simp)
    exact ⟨a, b, vs, rfl, .inl h1, h2⟩
end DL

namespace DL
open PySem L2
section
variable {K : PySem.W.Frag} {an : An} {dr : Option Dr} {om : Om} {τ : List Addr} {G H : Hp}
def Fin (K : PySem.W.Frag) (an : An) (dr : Option Dr) (om : Om) (τ : List Addr) (G : Hp) (Q : VK) (d : D) : Prop := ∀ v G' H', Is K G' v d → Good K an dr om τ G' H' → Grow G τ G' τ → Q v H'
theorem Fin.flat {Q : VK} {d : D} {v : V} (f : Fin K an dr om τ G Q d) (g : Good K an dr om τ G H) (i : Is K G v d) : Q v H := f v G H i g (Grow.refl G τ)
theorem Fin.lst {Q : VK} {ds : List D} {vs : List V} (f : Fin K an dr om τ G Q (.lst ds)) (g : Good K an dr om τ G H) (i : IsL K G vs ds) (p : Addr) (hp : H p = none) : Q (.ref p) (upd H p (.lst vs)) :=
  f _ _ _ (.lst upd_same (i.mono (Ex.new (g.ex.free hp)))) (g.alloc hp) (g.grow hp)
theorem Fin.tup {Q : VK} {ds : List D} {vs : List V} (f : Fin K an dr om τ G Q (.tup ds)) (g : Good K an dr om τ G H) (i : IsL K G vs ds) (p : Addr) (hp : H p = none) : Q (.ref p) (upd H p (.tup vs)) :=
  f _ _ _ (.tup upd_same (i.mono (Ex.new (g.ex.free hp)))) (g.alloc hp) (g.grow hp)
end
theorem Is.int_inv {K : PySem.W.Frag} {G : Hp} {v : V} {i : Int} (h : Is K G v (.int i)) : v = .int i := by cases h; rfl
theorem Is.str_inv {K : PySem.W.Frag} {G : Hp} {v : V} {i : Str} (h : Is K G v (.str i)) : v = .str i := by cases h; rfl
theorem Is.bl_inv {K : PySem.W.Frag} {G : Hp} {v : V} {i : Bool} (h : Is K G v (.bl i)) : v = .bl i := by cases h; rfl
theorem Is.non_inv {K : PySem.W.Frag} {G : Hp} {v : V} (h : Is K G v .non) : v = .non := by cases h; rfl
theorem Is.tup_inv {K : PySem.W.Frag} {G : Hp} {v : V} {ds : List D} (h : Is K G v (.tup ds)) : ∃ a vs, v = .ref a ∧ (∀ H, Ex G H → SqT K H a vs) ∧ IsL K G vs ds := by
  cases h with
  | tup h1 h2 => exact ⟨_, _, rfl, fun H e => .inl (.inl (e _ _ h1)), h2⟩
  | tup0 h => exact ⟨_, _, rfl, fun H _ => h.sq H, .nil⟩
section
variable {K : PySem.W.Frag} {an : An} {dr : Option Dr} {om : Om} {τ : List Addr} {G H : Hp} {v : V} {r : R}
theorem vw_int {i : Int} (g : Good K an dr om τ G H) (h : IsR K G τ v r) (e : vw om r = .int i) : v = .int i := (vw_not g h e rfl).int_inv
theorem vw_str {i : Str} (g : Good K an dr om τ G H) (h : IsR K G τ v r) (e : vw om r = .str i) : v = .str i := (vw_not g h e rfl).str_inv
theorem vw_bl {i : Bool} (g : Good K an dr om τ G H) (h : IsR K G τ v r) (e : vw om r = .bl i) : v = .bl i := (vw_not g h e rfl).bl_inv
theorem vw_tup {ds : List D} (g : Good K an dr om τ G H) (h : IsR K G τ v r) (e : vw om r = .tup ds) : ∃ a vs, v = .ref a ∧ SqT K H a vs ∧ IsL K G vs ds := by
  obtain ⟨a, vs, h1, h2, h3⟩ := (vw_not g h e rfl).tup_inv
  exact ⟨a, vs, h1, h2 _ g.ex, h3⟩
end

def binD (op : Operator) (x y : D) (K : D → Prop) : Prop := match op, x, y with
  | .Add, .int i, .int j => K (.int (i + j))
  | .Add, .str a, .str b => a.length + b.length ≤ sizeLine ∧ K (.str (a ++ b))
  | .Add, .lst a, .lst b => a.length + b.length ≤ sizeLine ∧ K (.lst (a ++ b))
  | .Add, .tup a, .tup b => a.length + b.length ≤ sizeLine ∧ K (.tup (a ++ b))
  | .Sub, .int i, .int j => K (.int (i - j))
  | .Mult, .int i, .int j => CMul i j ∧ K (.int (i * j))
  | .FloorDiv, .int i, .int j => CDivW i j ∧ K (.int (i / j))
  | .Mod, .int i, .int j => 0 < j ∧ K (.int (i % j))
  | .Pow, .int i, .int j => CPow i j ∧ K (.int (i ^ j.toNat))
  | .Mult, .lst a, .int j => (-(2 ^ 63) ≤ j ∧ j < 2 ^ 63 ∧ a.length * j.toNat ≤ sizeLine) ∧ K (.lst (List.replicate j.toNat a).flatten)
  | _, _, _ => False
def rBin (X : Cx) (op : Operator) : R2 := fun x y H Q => ∃ an dr om τ G ra rb, Good X.K an dr om τ G H ∧ IsR X.K G τ x ra ∧ IsR X.K G τ y rb ∧ binD op (vw om ra) (vw om rb) (Fin X.K an dr om τ G Q)
theorem IsL.rep {K : PySem.W.Frag} {G : Hp} {vs : List V} {ds : List D} (h : IsL K G vs ds) : ∀ n, IsL K G (List.replicate n vs).flatten (List.replicate n ds).flatten
  | 0 => .nil
  | n + 1 => by
    rw [List.replicate_succ, List.replicate_succ, List.flatten_cons, List.flatten_cons]
    exact h.append (IsL.rep h n)
theorem op_bin {X : Cx} {op : Operator} : OpR X (binaryOp op) (rBin X op) := by
  intro pins s σ H x y v u Q I rx ry h
  obtain ⟨an, dr, om, τ, G, ra, rb, g, ha, hb, h⟩ := h
  unfold binD at h
  split at h
  · rename_i e1 e2
    obtain rfl := vw_int g ha e1
    obtain rfl := vw_int g hb e2
    exact op_add pins s σ H _ _ v u Q I rx ry ⟨_, _, rfl, rfl, h.flat g (.int _)⟩
  · rename_i e1 e2
    obtain rfl := vw_str g ha e1
    obtain rfl := vw_str g hb e2
    exact op_add_str pins s σ H _ _ v u Q I rx ry ⟨_, _, rfl, rfl, h.1, h.2.flat g (.str _)⟩
  · rename_i e1 e2
    obtain ⟨p, vs, rfl, hp, i1⟩ := vw_lst g ha e1
    obtain ⟨q, ws, rfl, hq, i2⟩ := vw_lst g hb e2
    exact op_cat pins s σ H _ _ v u Q I rx ry ⟨p, q, vs, ws, rfl, rfl, hp, hq, by rw [i1.length, i2.length]; exact h.1, fun l hl => h.2.lst g (i1.append i2) l hl⟩
  · rename_i e1 e2
    obtain ⟨p, vs, rfl, hp, i1⟩ := vw_tup g ha e1
    obtain ⟨q, ws, rfl, hq, i2⟩ := vw_tup g hb e2
    have i3 := i1.append i2
    have n1 := vw_not g ha e1 rfl
    have n2 := vw_not g hb e2 rfl
    refine op_catA pins s σ H _ _ v u Q I rx ry ⟨p, q, vs, ws, rfl, rfl, hp, hq, by rw [i1.length, i2.length]; exact h.1, fun z => ?_, fun z1 z => ?_, fun z1 z2 l hl => ?_⟩
    · subst z
      cases i1
      exact h.2.flat g n2
    · subst z
      cases i2
      have h2 := h.2
      rw [List.append_nil] at h2
      exact h2.flat g n1
    · exact h.2.tup g i3 l hl
  · rename_i e1 e2
    obtain rfl := vw_int g ha e1
    obtain rfl := vw_int g hb e2
    exact op_sub pins s σ H _ _ v u Q I rx ry ⟨_, _, rfl, rfl, h.flat g (.int _)⟩
  · rename_i e1 e2
    obtain rfl := vw_int g ha e1
    obtain rfl := vw_int g hb e2
    exact op_mul pins s σ H _ _ v u Q I rx ry ⟨_, _, rfl, rfl, h.1, h.2.flat g (.int _)⟩
  · rename_i e1 e2
    obtain rfl := vw_int g ha e1
    obtain rfl := vw_int g hb e2
    exact op_fdivW pins s σ H _ _ v u Q I rx ry ⟨_, _, rfl, rfl, h.1, h.2.flat g (.int _)⟩
  · rename_i e1 e2
    obtain rfl := vw_int g ha e1
    obtain rfl := vw_int g hb e2
    exact op_mod pins s σ H _ _ v u Q I rx ry ⟨_, _, rfl, rfl, h.1, h.2.flat g (.int _)⟩
  · rename_i e1 e2
    obtain rfl := vw_int g ha e1
    obtain rfl := vw_int g hb e2
    exact op_pow pins s σ H _ _ v u Q I rx ry ⟨_, _, rfl, rfl, h.1, h.2.flat g (.int _)⟩
  · rename_i e1 e2
    obtain ⟨p, vs, rfl, hp, i1⟩ := vw_lst g ha e1
    obtain rfl := vw_int g hb e2
    exact op_rep pins s σ H _ _ v u Q I rx ry ⟨p, _, vs, rfl, rfl, hp, h.1.1, h.1.2.1, by rw [i1.length]; exact h.1.2.2, fun l hl => h.2.lst g (i1.rep _) l hl⟩
  · exact h.elim
section
variable {X : Cx} {an : An} {dr : Option Dr} {ρ : Rho} {om : Om} {e a b c : Expr} {es : List Expr} {pos : Pos} {Q : R → Om → Prop}
theorem we_bin {op : Operator} (h : WE X an dr ρ om a fun ra om1 => WE X an dr ρ om1 b fun rb om2 => binD op (vw om2 ra) (vw om2 rb) fun d => Q (.v d) om2) : WE X an dr ρ om (.BinOp a op b pos) Q :=
  peI (pe_op op_bin (pe_u (an := an) (dr := dr)) (pe_u (an := an) (dr := dr))) fun σ H K' ⟨τ, G, g, n, k⟩ =>
    uE_of h g n fun v r om1 τ1 G1 H1 h1 w g1 gr1 n1 => uE_of w g1 n1 fun v2 r2 om2 τ2 G2 H2 h2 q g2 gr2 n2 =>
      ⟨an, dr, om2, τ2, G2, r, r2, g2, h1.mono gr2, h2, binD_imp q fun d q v' G' H' i' g' gr' => k v' _ om2 τ2 G' H' (.v i') q g' ((gr1.trans gr2).trans gr')⟩
where
  binD_imp {op : Operator} {x y : D} {P P' : D → Prop} (h : binD op x y P) (i : ∀ d, P d → P' d) : binD op x y P' := by
    unfold binD at h ⊢
    split at h
    all_goals first | exact h.elim | exact i _ h | exact ⟨h.1, i _ h.2⟩
end
end DL

namespace DL
open PySem L2
mutual
def toP : D → PyData
  | .non => .none
  | .bl b => .bool b
  | .int i => .int i
  | .str x => .str x
  | .lst xs => .list (toPs xs)
  | .tup xs => .tuple (toPs xs)
  | _ => .dict []
def toPs : List D → List PyData
  | [] => []
  | d :: ds => toP d :: toPs ds
end
theorem toPs_map : ∀ ds : List D, toPs ds = ds.map toP
  | [] => by simp [toPs]
  | d :: ds => by simp [toPs, toPs_map ds]
section
variable {K : PySem.W.Frag} {G G' : Hp}
mutual
theorem Is.dp (e : Ex G G') : ∀ {v : V} {d : D}, Is K G v d → (toP d).canLay0 = true → Dp K G' v (toP d)
  | _, _, .non, _ => .non
  | _, _, .bl b, _ => .bl b
  | _, _, .int i, _ => .int i
  | _, _, .str x, _ => .str x
  | _, _, .ty n, h => by simp [toP, PyData.canLay0] at h
  | _, _, .lst h q, c => .lst (.inl (.inl (e _ _ h))) (IsL.dp e q (by simpa [toP, PyData.canLay0] using c))
  | _, _, .tup h q, c => .tup (.inl (.inl (e _ _ h))) (IsL.dp e q (by simpa [toP, PyData.canLay0] using c))
  | _, _, .tup0 h, c => .tup (h.sq _) (by simp only [toPs]; exact .nil)
  | _, _, .dic h q, c => by simp [toP, PyData.canLay0] at c
  | _, _, .dit h q, c => by simp [toP, PyData.canLay0] at c
  | _, _, .ins h q, c => by simp [toP, PyData.canLay0] at c
  | _, _, .obj a, c => by simp [toP, PyData.canLay0] at c
  | _, _, .din h q, c => by simp [toP, PyData.canLay0] at c
  | _, _, .dky h, c => by simp [toP, PyData.canLay0] at c
  | _, _, .exc0 h, c => by simp [toP, PyData.canLay0] at c
  | _, _, .excF h h2 q, c => by simp [toP, PyData.canLay0] at c
  | _, _, .lam h h2 h3 h4 q, c => by simp [toP, PyData.canLay0] at c
  | _, _, .lamP h h2, c => by simp [toP, PyData.canLay0] at c
theorem IsL.dp (e : Ex G G') : ∀ {v : List V} {d : List D}, IsL K G v d → PyData.canLayAll0 (toPs d) = true → DpAll K G' v (toPs d)
  | _, _, .nil, _ => by simp only [toPs]; exact .nil
  | _, _, .cons h q, c => by
    simp only [toPs, PyData.canLayAll0, Bool.and_eq_true] at c ⊢
    exact .cons (Is.dp e h c.1) (IsL.dp e q c.2)
end
end
def eqD (x y : D) : Bool := PyData.eqv (toP x) (toP y)
def shp (x : D) : Prop := SeqAt.shaped (toP x) = true
def eqK (x y : D) (K : Bool → Prop) : Prop := match x, y with
  | .int i, .int j => K (decide (i = j))
  | .str i, .str j => K (decide (i = j))
  | .bl i, .bl j => K (decide (i = j))
  | x, y => shp x ∧ shp y ∧ K (eqD x y)
def ltK (f : Int → Int → Bool) (h : List Nat → List Nat → Bool) (x y : D) (K : Bool → Prop) : Prop := match x, y with
  | .int i, .int j => K (f i j)
  | .str i, .str j => K (h i.cps.toList j.cps.toList)
  | _, _ => False
def flatD : D → Bool
  | .non => true | .bl _ => true | .int _ => true | .str _ => true | _ => false
def keyD : D → Option Key
  | .int i => some (.inl i) | .str x => some (.inr x) | _ => none
def inK (x y : D) (K : Bool → Prop) : Prop := match y with
  | .lst ds => shp x ∧ shp (.lst ds) ∧ K (ds.any fun z => eqD z x)
  | .tup ds => flatD x = true ∧ ds.all flatD = true ∧ K (ds.any fun z => eqD z x)
  | .str z => match x with
    | .str t => ∃ c, t = ⟨#[c]⟩ ∧ K (decide (c ∈ z.cps.toList))
    | _ => False
  | _ => False
def isK (x y : D) (K : Bool → Prop) : Prop := match x, y with
  | .bl a, .bl b => K (decide (a = b))
  | .non, .non => K true
  | .non, .bl _ => K false
  | .bl _, .non => K false
  | .int _, .non => K false
  | .str _, .non => K false
  | .lst _, .non => K false
  | .tup _, .non => K false
  | .dic _, .non => K false
  | .dit _, .non => K false
  | .ins _ _, .non => K false
  | .exc _ _, .non => K false
  | .obj _, .non => K false
  | _, _ => False
def cmpD (op : CmpOp) (x y : D) (K : Bool → Prop) : Prop := match op with
  | .Eq => eqK x y K
  | .NotEq => eqK x y fun b => K (!b)
  | .Lt => ltK (fun i j => decide (i < j)) (fun i j => decide (i < j)) x y K
  | .LtE => ltK (fun i j => decide (i ≤ j)) (fun i j => !decide (j < i)) x y K
  | .Gt => ltK (fun i j => decide (j < i)) (fun i j => decide (j < i)) x y K
  | .GtE => ltK (fun i j => decide (j ≤ i)) (fun i j => !decide (i < j)) x y K
  | .In => inK x y K
  | .NotIn => inK x y fun b => K (!b)
  | .Is => isK x y K
  | .IsNot => isK x y fun b => K (!b)
def rCmp (X : Cx) (op : CmpOp) : R2 := fun x y H Q => ∃ an dr om τ G ra rb, Good X.K an dr om τ G H ∧ IsR X.K G τ x ra ∧ IsR X.K G τ y rb ∧ cmpD op (vw om ra) (vw om rb) fun b => Q (.bl b) H
section
variable {X : Cx} {an : An} {dr : Option Dr} {om : Om} {τ : List Addr} {G H : Hp} {x y : V} {ra rb : R}
theorem vw_dp {K : PySem.W.Frag} {d : D} (g : Good K an dr om τ G H) (h : IsR K G τ x ra) (e : vw om ra = d) (c : shp d) : Dp K H x (toP d) := by
  have c0 := SeqAt.canLay_of_shaped c
  cases d with
  | lst ds =>
    obtain ⟨p, vs, rfl, hp, i⟩ := vw_lst g h e
    rw [toP] at c0 ⊢
    exact .lst (.inl (.inl hp)) (i.dp g.ex (by simpa [PyData.canLay0] using c0))
  | dead => simp [toP, PyData.canLay0] at c0
  | dit b => simp [toP, PyData.canLay0] at c0
  | ins b c => simp [toP, PyData.canLay0] at c0
  | exc b c => simp [toP, PyData.canLay0] at c0
  | own b => simp [toP, PyData.canLay0] at c0
  | lam b c => simp [toP, PyData.canLay0] at c0
  | din b c d => simp [toP, PyData.canLay0] at c0
  | dky b c d => simp [toP, PyData.canLay0] at c0
  | lamP b c => simp [toP, PyData.canLay0] at c0
  | non => exact (vw_not g h e rfl).dp g.ex c0
  | bl b => exact (vw_not g h e rfl).dp g.ex c0
  | int b => exact (vw_not g h e rfl).dp g.ex c0
  | str b => exact (vw_not g h e rfl).dp g.ex c0
  | tup b => exact (vw_not g h e rfl).dp g.ex c0
  | dic b => simp [toP, PyData.canLay0] at c0
  | obj b => exact (vw_not g h e rfl).dp g.ex c0
  | ty b => exact (vw_not g h e rfl).dp g.ex c0
theorem eq_run {pins : List (Addr × Obj)} {s : Shared} {σ : L2.St} {v u : Value} {P : Bool → Prop} {Q : VK} (neg : Bool) (hu : X.A.units + 65 < cLine) (I : Inv X pins σ H s) (rx : RelV x v) (ry : RelV y u) (g : Good X.K an dr om τ G H) (ha : IsR X.K G τ x ra) (hb : IsR X.K G τ y rb)
    (h : eqK (vw om ra) (vw om rb) P) (q : ∀ b, P b → Q (.bl (if neg then !b else b)) H) : wpAny (model X.prog X.w) X.A (compareOp (if neg then .NotEq else .Eq) v u) (EP X pins σ Q) X.xe s := by
  have hu' : X.A.units + 64 < cLine := by omega
  unfold eqK at h
  split at h
  · rename_i i j e1 e2
    obtain rfl := vw_int g ha e1
    obtain rfl := vw_int g hb e2
    have e : decide (V.int i = V.int j) = decide (i = j) := by by_cases z : i = j <;> simp [z]
    cases neg
    · exact op_eq pins s σ H _ _ v u Q I rx ry ⟨rfl, by rw [e]; exact q _ h⟩
    · exact op_ne pins s σ H _ _ v u Q I rx ry ⟨rfl, by rw [e]; exact q _ h⟩
  · rename_i i j e1 e2
    obtain rfl := vw_str g ha e1
    obtain rfl := vw_str g hb e2
    have e : decide (V.str i = V.str j) = decide (i = j) := by by_cases z : i = j <;> simp [z]
    cases neg
    · exact op_eq pins s σ H _ _ v u Q I rx ry ⟨rfl, by rw [e]; exact q _ h⟩
    · exact op_ne pins s σ H _ _ v u Q I rx ry ⟨rfl, by rw [e]; exact q _ h⟩
  · rename_i i j e1 e2
    obtain rfl := vw_bl g ha e1
    obtain rfl := vw_bl g hb e2
    have e : decide (V.bl i = V.bl j) = decide (i = j) := by by_cases z : i = j <;> simp [z]
    cases neg
    · exact op_eq pins s σ H _ _ v u Q I rx ry ⟨rfl, by rw [e]; exact q _ h⟩
    · exact op_ne pins s σ H _ _ v u Q I rx ry ⟨rfl, by rw [e]; exact q _ h⟩
  · obtain ⟨s1, s2, h⟩ := h
    have d1 := vw_dp g ha rfl s1
    have d2 := vw_dp g hb rfl s2
    cases neg
    · exact op_eqD hu' pins s σ H _ _ v u Q I rx ry ⟨_, _, d1, d2, s1, s2, q _ h⟩
    · exact op_neD hu' pins s σ H _ _ v u Q I rx ry ⟨_, _, d1, d2, s1, s2, q _ h⟩
theorem flat_eq {K : PySem.W.Frag} {d e : D} {v u : V} (h : Is K G v d) (h' : Is K G u e) (f : flatD d = true) (f' : flatD e = true) : flatV v = true ∧ flatV u = true ∧ eqV v u = eqD d e := by
  cases h <;> simp [flatD] at f <;> cases h' <;> simp [flatD] at f' <;> simp [flatV, eqV, eqD, toP, PyData.eqv]
theorem flat_all {K : PySem.W.Frag} {d : D} {v : V} (h : Is K G v d) (f : flatD d = true) : ∀ {vs : List V} {ds : List D}, IsL K G vs ds → ds.all flatD = true → vs.all flatV = true ∧ inV v vs = ds.any fun z => eqD z d
  | _, _, .nil, _ => ⟨rfl, rfl⟩
  | _, _, .cons a t, q => by
    rw [List.all_cons, Bool.and_eq_true] at q
    obtain ⟨f1, f2, f3⟩ := flat_eq a h q.1 f
    obtain ⟨g1, g2⟩ := flat_all h f t q.2
    refine ⟨by rw [List.all_cons, f1, g1]; rfl, ?_⟩
    unfold inV at g2 ⊢
    rw [List.any_cons, List.any_cons, f3, g2]
theorem vw_flat {d : D} {K : PySem.W.Frag} (g : Good K an dr om τ G H) (h : IsR K G τ x ra) (e : vw om ra = d) (f : flatD d = true) : Is K G x d := by
  refine vw_not g h e ?_
  cases d <;> first | rfl | (simp [flatD] at f)
theorem in_run {pins : List (Addr × Obj)} {s : Shared} {σ : L2.St} {v u : Value} {P : Bool → Prop} {Q : VK} (neg : Bool) (hu : X.A.units + 65 < cLine) (I : Inv X pins σ H s) (rx : RelV x v) (ry : RelV y u) (g : Good X.K an dr om τ G H) (ha : IsR X.K G τ x ra) (hb : IsR X.K G τ y rb)
    (h : inK (vw om ra) (vw om rb) P) (q : ∀ b, P b → Q (.bl (if neg then !b else b)) H) : wpAny (model X.prog X.w) X.A (compareOp (if neg then .NotIn else .In) v u) (EP X pins σ Q) X.xe s := by
  unfold inK at h
  split at h
  · rename_i ds e
    obtain ⟨s1, s2, h⟩ := h
    have d1 := vw_dp g ha rfl s1
    have d2 := vw_dp g hb e s2
    have e3 : ((toPs ds).any fun z => PyData.eqv z (toP (vw om ra))) = ds.any fun z => eqD z (vw om ra) := by
      rw [toPs_map, List.any_map]; rfl
    rw [toP] at d2
    have s2' : SeqAt.shaped (.list (toPs ds)) = true := by have z := s2; unfold shp at z; rw [toP] at z; exact z
    cases neg
    · exact op_inD hu pins s σ H _ _ v u Q I rx ry ⟨_, _, d1, d2, s1, s2', by rw [e3]; exact q _ h⟩
    · exact op_notInD hu pins s σ H _ _ v u Q I rx ry ⟨_, _, d1, d2, s1, s2', by rw [e3]; exact q _ h⟩
  · rename_i ds e
    obtain ⟨f1, f2, h⟩ := h
    have i1 := vw_flat g ha rfl f1
    obtain ⟨p, vs, rfl, hp, i2⟩ := vw_tup g hb e
    obtain ⟨f3, f4⟩ := flat_all i1 f1 i2 f2
    have f5 : flatV x = true := (flat_eq i1 i1 f1 f1).1
    have z := q _ h
    rw [← f4] at z
    cases neg
    · exact op_in_seq pins s σ H _ _ v u Q I rx ry ⟨p, vs, rfl, .inr hp, f5, f3, z⟩
    · exact op_notIn_seq pins s σ H _ _ v u Q I rx ry ⟨p, vs, rfl, .inr hp, f5, f3, z⟩
  · rename_i z e
    split at h
    · rename_i t e2
      obtain ⟨c, rfl, h⟩ := h
      obtain rfl := vw_str g ha e2
      obtain rfl := vw_str g hb e
      cases neg
      · exact op_in_sign pins s σ H _ _ v u Q I rx ry ⟨c, z, rfl, rfl, q _ h⟩
      · exact op_notIn_sign pins s σ H _ _ v u Q I rx ry ⟨c, z, rfl, rfl, q _ h⟩
    · exact h.elim
  · exact h.elim
theorem is_run {pins : List (Addr × Obj)} {s : Shared} {σ : L2.St} {v u : Value} {P : Bool → Prop} {Q : VK} (neg : Bool) (I : Inv X pins σ H s) (rx : RelV x v) (ry : RelV y u) (g : Good X.K an dr om τ G H) (ha : IsR X.K G τ x ra) (hb : IsR X.K G τ y rb)
    (h : isK (vw om ra) (vw om rb) P) (q : ∀ b, P b → Q (.bl (if neg then !b else b)) H) : wpAny (model X.prog X.w) X.A (compareOp (if neg then .IsNot else .Is) v u) (EP X pins σ Q) X.xe s := by
  have nn : ∀ {b : Bool}, vw om rb = .non → P b → (decide (x = V.non)) = b → wpAny (model X.prog X.w) X.A (compareOp (if neg then .IsNot else .Is) v u) (EP X pins σ Q) X.xe s := fun {b} e p z => by
    obtain rfl := (vw_not g hb e rfl).non_inv
    subst z
    cases neg
    · exact op_isN pins s σ H _ _ v u Q I rx ry ⟨rfl, q _ p⟩
    · exact op_notN pins s σ H _ _ v u Q I rx ry ⟨rfl, q _ p⟩
  unfold isK at h
  split at h
  · rename_i a b e1 e2
    obtain rfl := vw_bl g ha e1
    obtain rfl := vw_bl g hb e2
    cases neg
    · exact op_is_bl pins s σ H _ _ v u Q I rx ry ⟨a, b, rfl, rfl, q _ h⟩
    · exact op_isnot_bl pins s σ H _ _ v u Q I rx ry ⟨a, b, rfl, rfl, q _ h⟩
  · rename_i e1 e2
    obtain rfl := (vw_not g ha e1 rfl).non_inv
    exact nn e2 h rfl
  · rename_i a e1 e2
    obtain rfl := (vw_not g ha e1 rfl).non_inv
    obtain rfl := vw_bl g hb e2
    have rx' := rx
    cases rx'
    cases (show u = Value.bool a from ry)
    cases neg
    · exact wpAny_is_other rfl (fun z => by cases z) ⟨.bl false, H, I, rfl, q _ h⟩
    · exact wpAny_isNot_other rfl (fun z => by cases z) ⟨.bl true, H, I, rfl, q _ h⟩
  · rename_i a e1 e2
    obtain rfl := vw_bl g ha e1
    exact nn e2 h rfl
  · rename_i a e1 e2
    obtain rfl := vw_int g ha e1
    exact nn e2 h rfl
  · rename_i a e1 e2
    obtain rfl := vw_str g ha e1
    exact nn e2 h rfl
  · rename_i a e1 e2
    obtain ⟨p, vs, rfl, _⟩ := vw_lst g ha e1
    exact nn e2 h rfl
  · rename_i a e1 e2
    obtain ⟨p, vs, rfl, _⟩ := vw_tup g ha e1
    exact nn e2 h rfl
  · rename_i a e1 e2
    obtain ⟨p, vs, rfl, _⟩ := vw_dic g ha e1
    exact nn e2 h rfl
  · rename_i a e1 e2
    obtain ⟨p, vs, rfl, _⟩ := vw_dit g ha e1
    exact nn e2 h rfl
  · rename_i a fs e1 e2
    obtain ⟨p, dx, vs, rfl, _⟩ := vw_ins g ha e1
    exact nn e2 h rfl
  · rename_i a fs e1 e2
    have z := vw_not g ha e1 rfl
    cases z
    · exact nn e2 h rfl
    · exact nn e2 h rfl
  · rename_i a e1 e2
    have z := vw_not g ha e1 rfl
    cases z
    exact nn e2 h rfl
  · exact h.elim
theorem op_cmp {op : CmpOp} (hu : X.A.units + 65 < cLine) : OpR X (compareOp op) (rCmp X op) := by
  intro pins s σ H x y v u Q I rx ry h
  obtain ⟨an, dr, om, τ, G, ra, rb, g, ha, hb, h⟩ := h
  cases op with
  | Eq =>
    simp only [cmpD] at h
    exact eq_run false hu I rx ry g ha hb h fun b p => p
  | NotEq =>
    simp only [cmpD] at h
    exact eq_run true hu I rx ry g ha hb h fun b p => p
  | In =>
    simp only [cmpD] at h
    exact in_run false hu I rx ry g ha hb h fun b p => p
  | NotIn =>
    simp only [cmpD] at h
    exact in_run true hu I rx ry g ha hb h fun b p => p
  | Is =>
    simp only [cmpD] at h
    exact is_run false I rx ry g ha hb h fun b p => p
  | IsNot =>
    simp only [cmpD] at h
    exact is_run true I rx ry g ha hb h fun b p => p
  | Lt =>
    simp only [cmpD] at h
    unfold ltK at h
    split at h
    · rename_i e1 e2
      obtain rfl := vw_int g ha e1
      obtain rfl := vw_int g hb e2
      exact op_lt pins s σ H _ _ v u Q I rx ry ⟨_, _, rfl, rfl, h⟩
    · rename_i e1 e2
      obtain rfl := vw_str g ha e1
      obtain rfl := vw_str g hb e2
      exact op_lt_str pins s σ H _ _ v u Q I rx ry ⟨_, _, rfl, rfl, h⟩
    · exact h.elim
  | LtE =>
    simp only [cmpD] at h
    unfold ltK at h
    split at h
    · rename_i e1 e2
      obtain rfl := vw_int g ha e1
      obtain rfl := vw_int g hb e2
      exact op_le pins s σ H _ _ v u Q I rx ry ⟨_, _, rfl, rfl, h⟩
    · rename_i e1 e2
      obtain rfl := vw_str g ha e1
      obtain rfl := vw_str g hb e2
      exact op_le_str pins s σ H _ _ v u Q I rx ry ⟨_, _, rfl, rfl, h⟩
    · exact h.elim
  | Gt =>
    simp only [cmpD] at h
    unfold ltK at h
    split at h
    · rename_i e1 e2
      obtain rfl := vw_int g ha e1
      obtain rfl := vw_int g hb e2
      exact op_gt pins s σ H _ _ v u Q I rx ry ⟨_, _, rfl, rfl, h⟩
    · rename_i e1 e2
      obtain rfl := vw_str g ha e1
      obtain rfl := vw_str g hb e2
      exact op_gt_str pins s σ H _ _ v u Q I rx ry ⟨_, _, rfl, rfl, h⟩
    · exact h.elim
  | GtE =>
    simp only [cmpD] at h
    unfold ltK at h
    split at h
    · rename_i e1 e2
      obtain rfl := vw_int g ha e1
      obtain rfl := vw_int g hb e2
      exact op_ge pins s σ H _ _ v u Q I rx ry ⟨_, _, rfl, rfl, h⟩
    · rename_i e1 e2
      obtain rfl := vw_str g ha e1
      obtain rfl := vw_str g hb e2
      exact op_ge_str pins s σ H _ _ v u Q I rx ry ⟨_, _, rfl, rfl, h⟩
    · exact h.elim
end
theorem eqK_imp {x y : D} {P P' : Bool → Prop} (h : eqK x y P) (i : ∀ b, P b → P' b) : eqK x y P' := by
  unfold eqK at h ⊢
  split at h
  all_goals first | exact i _ h | exact ⟨h.1, h.2.1, i _ h.2.2⟩
theorem ltK_imp {f : Int → Int → Bool} {g : List Nat → List Nat → Bool} {x y : D} {P P' : Bool → Prop} (h : ltK f g x y P) (i : ∀ b, P b → P' b) : ltK f g x y P' := by
  unfold ltK at h ⊢
  split at h
  all_goals first | exact h.elim | exact i _ h
theorem inK_imp {x y : D} {P P' : Bool → Prop} (h : inK x y P) (i : ∀ b, P b → P' b) : inK x y P' := by
  unfold inK at h ⊢
  split at h
  · exact ⟨h.1, h.2.1, i _ h.2.2⟩
  · exact ⟨h.1, h.2.1, i _ h.2.2⟩
  · split at h
    · obtain ⟨c, e, h⟩ := h
      exact ⟨c, e, i _ h⟩
    · exact h.elim
  · exact h.elim
theorem isK_imp {x y : D} {P P' : Bool → Prop} (h : isK x y P) (i : ∀ b, P b → P' b) : isK x y P' := by
  unfold isK at h ⊢
  split at h
  all_goals first | exact h.elim | exact i _ h
theorem cmpD_imp {op : CmpOp} {x y : D} {P P' : Bool → Prop} (h : cmpD op x y P) (i : ∀ b, P b → P' b) : cmpD op x y P' := by
  cases op
  all_goals simp only [cmpD] at h ⊢
  all_goals first | exact eqK_imp h i | exact eqK_imp h (fun b => i _) | exact ltK_imp h i | exact inK_imp h i | exact inK_imp h (fun b => i _) | exact isK_imp h i | exact isK_imp h (fun b => i _)
section
variable {X : Cx} {an : An} {dr : Option Dr} {ρ : Rho} {om : Om} {e a b c : Expr} {es : List Expr} {pos : Pos} {Q : R → Om → Prop} {T : Bool → Om → Prop}
theorem wt_cmp {op : CmpOp} (hu : X.A.units + 65 < cLine) (h : WE X an dr ρ om a fun ra om1 => WE X an dr ρ om1 b fun rb om2 => cmpD op (vw om2 ra) (vw om2 rb) fun t => T t om2) (hm : behindInMarks op b = false := by first | exact nobehind _ (by decide) (by decide) | rfl) :
    WT X an dr ρ om (.Compare a [op] [b] pos) T :=
  ptI (pt_cmpR (op_cmp hu) (pe_u (an := an) (dr := dr)) (pe_u (an := an) (dr := dr)) hm) fun σ H K' ⟨τ, G, g, n, k⟩ =>
    uE_of h g n fun v r om1 τ1 G1 H1 h1 w g1 gr1 n1 => uE_of w g1 n1 fun v2 r2 om2 τ2 G2 H2 h2 q g2 gr2 n2 =>
      ⟨an, dr, om2, τ2, G2, r, r2, g2, h1.mono gr2, h2, cmpD_imp q fun t q => ⟨t, rfl, k _ om2 τ2 G2 H2 q g2 (gr1.trans gr2)⟩⟩
theorem wt_chain {op op' : CmpOp} (hu : X.A.units + 65 < cLine) (h : WE X an dr ρ om a fun ra om1 => WE X an dr ρ om1 b fun rb om2 => cmpD op (vw om2 ra) (vw om2 rb) fun t =>
      if t = true then WE X an dr ρ om2 c fun rc om3 => cmpD op' (vw om3 rb) (vw om3 rc) fun t' => T t' om3 else T false om2) (hm : lastMarks [op, op'] [b, c] = false := by with_unfolding_all rfl) :
    WT X an dr ρ om (.Compare a [op, op'] [b, c] pos) T :=
  ptI (pt_chain (op_cmp hu) (op_cmp hu) (pe_u (an := an) (dr := dr)) (pe_u (an := an) (dr := dr)) (pe_u (an := an) (dr := dr)) hm) fun σ H K' ⟨τ, G, g, n, k⟩ =>
    uE_of h g n fun v r om1 τ1 G1 H1 h1 w g1 gr1 n1 => uE_of w g1 n1 fun v2 r2 om2 τ2 G2 H2 h2 q g2 gr2 n2 =>
      ⟨an, dr, om2, τ2, G2, r, r2, g2, h1.mono gr2, h2, cmpD_imp q fun t q => ⟨t, rfl, by
        cases t with
        | true =>
          rw [if_pos rfl] at q ⊢
          exact uE_of q g2 n2 fun v3 r3 om3 τ3 G3 H3 h3 q3 g3 gr3 n3 => ⟨an, dr, om3, τ3, G3, r2, r3, g3, h2.mono gr3, h3, cmpD_imp q3 fun t' q4 => ⟨t', rfl, k _ om3 τ3 G3 H3 q4 g3 ((gr1.trans gr2).trans gr3)⟩⟩
        | false =>
          rw [if_neg Bool.false_ne_true] at q ⊢
          exact ⟨false, rfl, k _ om2 τ2 G2 H2 q g2 (gr1.trans gr2)⟩⟩⟩
def blR (r : R) (K : Bool → Prop) : Prop := match r with
  | .v (.bl b) => K b
  | _ => False
theorem blR_is {K : PySem.W.Frag} {G : Hp} {τ : List Addr} {v : V} {r : R} {P : Bool → Prop} (h : IsR K G τ v r) (p : blR r P) : ∃ b, v = .bl b ∧ r = .v (.bl b) ∧ P b := by
  unfold blR at p
  split at p
  · cases h with | v h => exact ⟨_, h.bl_inv, rfl, p⟩
  · exact p.elim
theorem wt_val (h : WE X an dr ρ om e fun r om1 => blR r fun t => T t om1) (he : ∀ whole, isTrue e X.env whole = (do let v ← whole; standAt e.pos; holding [v] (truthy v)) := by intro _; rfl) : WT X an dr ρ om e T :=
  ptI (pt_val (pe_u (an := an) (dr := dr)) he) fun σ H K' ⟨τ, G, g, n, k⟩ => uE_of h g n fun v r om1 τ1 G1 H1 h1 w g1 gr1 n1 => by
    obtain ⟨t, rfl, _, w⟩ := blR_is h1 w
    exact ⟨t, rfl, k t om1 τ1 G1 H1 w g1 gr1⟩
theorem wt_not (h : WT X an dr ρ om a fun t om1 => T (!t) om1) : WT X an dr ρ om (.UnaryOp .Not a pos) T :=
  ptI (pt_not (pt_u (an := an) (dr := dr))) fun σ H K' ⟨τ, G, g, n, k⟩ => uT_of h g n fun t om1 τ1 G1 H1 w g1 gr1 n1 => k _ om1 τ1 G1 H1 w g1 gr1
theorem we_not (h : WE X an dr ρ om a fun r om1 => blR r fun t => Q (.v (.bl (!t))) om1) : WE X an dr ρ om (.UnaryOp .Not a pos) Q :=
  peI (pe_not (pe_u (an := an) (dr := dr))) fun σ H K' ⟨τ, G, g, n, k⟩ => uE_of h g n fun v r om1 τ1 G1 H1 h1 w g1 gr1 n1 => by
    obtain ⟨t, rfl, _, w⟩ := blR_is h1 w
    exact ⟨t, rfl, k _ _ om1 τ1 G1 H1 (.v (.bl _)) w g1 gr1⟩
def WW (X : Cx) (an : An) (dr : Option Dr) (ρ : Rho) (om : Om) (e : Expr) (Q : Bool → Om → Prop) : Prop := PW X e (tDT X.K an dr ρ om Q)
def uW (X : Cx) (an : An) (dr : Option Dr) (e : Expr) : TT := fun σ H K' => ∃ ρ om Q, WW X an dr ρ om e Q ∧ tDT X.K an dr ρ om Q σ H K'
theorem pw_u : PW X e (uW X an dr e) := ⟨fun wh pins s σ H K' I ⟨ρ, om, Q, w, h⟩ => PW.run w wh pins s σ H K' I h⟩
theorem uW_of {σ : L2.St} {H : Hp} {τ : List Addr} {G : Hp} {K' : Bool → Hp → Prop} (w : WW X an dr ρ om e T) (g : Good X.K an dr om τ G H) (n : EnvIs X.K G τ σ ρ)
    (k : ∀ b om' τ' G' H', T b om' → Good X.K an dr om' τ' G' H' → Grow G τ G' τ' → K' b H') : uW X an dr e σ H K' := ⟨ρ, om, T, w, τ, G, g, n, k⟩
theorem WW.wt (h : WW X an dr ρ om e T) : WT X an dr ρ om e T := PW.pt h
theorem ww_and1 (h : WT X an dr ρ om a T) : WW X an dr ρ om (.BoolOp .And [a] pos) T := pw_and1 h
theorem ww_or1 (h : WT X an dr ρ om a T) : WW X an dr ρ om (.BoolOp .Or [a] pos) T := pw_or1 h
theorem ww_and (h : WT X an dr ρ om a fun t om1 => if t = true then WW X an dr ρ om1 (.BoolOp .And (b :: es) pos) T else T false om1) : WW X an dr ρ om (.BoolOp .And (a :: b :: es) pos) T :=
  pwI (pw_and (pt_u (an := an) (dr := dr)) (pw_u (an := an) (dr := dr))) fun σ H K' ⟨τ, G, g, n, k⟩ => uT_of h g n fun t om1 τ1 G1 H1 w g1 gr1 n1 => by
    cases t with
    | true => rw [if_pos rfl] at w ⊢; exact uW_of w g1 n1 fun t2 om2 τ2 G2 H2 w2 g2 gr2 => k t2 om2 τ2 G2 H2 w2 g2 (gr1.trans gr2)
    | false => rw [if_neg Bool.false_ne_true] at w ⊢; exact k _ om1 τ1 G1 H1 w g1 gr1
theorem ww_or (h : WT X an dr ρ om a fun t om1 => if t = true then T true om1 else WW X an dr ρ om1 (.BoolOp .Or (b :: es) pos) T) : WW X an dr ρ om (.BoolOp .Or (a :: b :: es) pos) T :=
  pwI (pw_or (pt_u (an := an) (dr := dr)) (pw_u (an := an) (dr := dr))) fun σ H K' ⟨τ, G, g, n, k⟩ => uT_of h g n fun t om1 τ1 G1 H1 w g1 gr1 n1 => by
    cases t with
    | true => rw [if_pos rfl] at w ⊢; exact k _ om1 τ1 G1 H1 w g1 gr1
    | false => rw [if_neg Bool.false_ne_true] at w ⊢; exact uW_of w g1 n1 fun t2 om2 τ2 G2 H2 w2 g2 gr2 => k t2 om2 τ2 G2 H2 w2 g2 (gr1.trans gr2)
theorem we_and1 (h : WE X an dr ρ om a Q) : WE X an dr ρ om (.BoolOp .And [a] pos) Q := pe_one h
theorem we_or1 (h : WE X an dr ρ om a Q) : WE X an dr ρ om (.BoolOp .Or [a] pos) Q := pe_one h
theorem we_and (h : WE X an dr ρ om a fun r om1 => blR r fun t => if t = true then WE X an dr ρ om1 (.BoolOp .And (b :: es) pos) Q else Q (.v (.bl false)) om1) : WE X an dr ρ om (.BoolOp .And (a :: b :: es) pos) Q :=
  peI (pe_and (pe_u (an := an) (dr := dr)) (pe_u (an := an) (dr := dr))) fun σ H K' ⟨τ, G, g, n, k⟩ => uE_of h g n fun v r om1 τ1 G1 H1 h1 w g1 gr1 n1 => by
    obtain ⟨t, rfl, _, w⟩ := blR_is h1 w
    refine ⟨t, rfl, ?_⟩
    cases t with
    | true => rw [if_pos rfl] at w ⊢; exact uE_of w g1 n1 fun v2 r2 om2 τ2 G2 H2 h2 w2 g2 gr2 n2 => k v2 r2 om2 τ2 G2 H2 h2 w2 g2 (gr1.trans gr2)
    | false => rw [if_neg Bool.false_ne_true] at w ⊢; exact k _ _ om1 τ1 G1 H1 (.v (.bl _)) w g1 gr1
theorem we_or (h : WE X an dr ρ om a fun r om1 => blR r fun t => if t = true then Q (.v (.bl true)) om1 else WE X an dr ρ om1 (.BoolOp .Or (b :: es) pos) Q) : WE X an dr ρ om (.BoolOp .Or (a :: b :: es) pos) Q :=
  peI (pe_or (pe_u (an := an) (dr := dr)) (pe_u (an := an) (dr := dr))) fun σ H K' ⟨τ, G, g, n, k⟩ => uE_of h g n fun v r om1 τ1 G1 H1 h1 w g1 gr1 n1 => by
    obtain ⟨t, rfl, _, w⟩ := blR_is h1 w
    refine ⟨t, rfl, ?_⟩
    cases t with
    | true => rw [if_pos rfl] at w ⊢; exact k _ _ om1 τ1 G1 H1 (.v (.bl _)) w g1 gr1
    | false => rw [if_neg Bool.false_ne_true] at w ⊢; exact uE_of w g1 n1 fun v2 r2 om2 τ2 G2 H2 h2 w2 g2 gr2 n2 => k v2 r2 om2 τ2 G2 H2 h2 w2 g2 (gr1.trans gr2)
theorem we_ifexp (h : WT X an dr ρ om c fun t om1 => if t = true then WE X an dr ρ om1 a Q else WE X an dr ρ om1 b Q) : WE X an dr ρ om (.IfExp c a b pos) Q :=
  peI (pe_ifExp (pt_u (an := an) (dr := dr)) (pe_u (an := an) (dr := dr)) (pe_u (an := an) (dr := dr))) fun σ H K' ⟨τ, G, g, n, k⟩ => uT_of h g n fun t om1 τ1 G1 H1 w g1 gr1 n1 => by
    cases t with
    | true => rw [if_pos rfl] at w ⊢; exact uE_of w g1 n1 fun v2 r2 om2 τ2 G2 H2 h2 w2 g2 gr2 n2 => k v2 r2 om2 τ2 G2 H2 h2 w2 g2 (gr1.trans gr2)
    | false => rw [if_neg Bool.false_ne_true] at w ⊢; exact uE_of w g1 n1 fun v2 r2 om2 τ2 G2 H2 h2 w2 g2 gr2 n2 => k v2 r2 om2 τ2 G2 H2 h2 w2 g2 (gr1.trans gr2)
end
end DL

namespace DL
open PySem L2
section
variable {K : PySem.W.Frag} {an : An} {dr : Option Dr} {G : Hp} {τ : List Addr} {n : Nat}
theorem Left.imp {P P' : Rho → Om → Prop} {σ : L2.St} {H : Hp} (h : Left K an dr G τ n P σ H) (i : ∀ ρ om, P ρ om → P' ρ om) : Left K an dr G τ n P' σ H := by
  obtain ⟨ρ, om, τ', G', h1, h2⟩ := h
  exact ⟨ρ, om, τ', G', i _ _ h1, h2⟩
theorem Left.grow {G' : Hp} {τ' : List Addr} {P : Rho → Om → Prop} {σ : L2.St} {H : Hp} (g : Grow G τ G' τ') (h : Left K an dr G' τ' n P σ H) : Left K an dr G τ n P σ H := by
  obtain ⟨ρ, om, τ2, G2, h1, h2, h3, h4, h5⟩ := h
  exact ⟨ρ, om, τ2, G2, h1, h2, h3, g.trans h4, h5⟩
theorem LeftV.grow {G' : Hp} {τ' : List Addr} {P : D → Prop} {v : V} {H : Hp} (g : Grow G τ G' τ') (h : LeftV K an dr G' τ' P v H) : LeftV K an dr G τ P v H := by
  obtain ⟨d, om, τ2, G2, h1, h2, h3, h4⟩ := h
  exact ⟨d, om, τ2, G2, h1, h2, h3, g.trans h4⟩
theorem EnvIs.set {σ : L2.St} {ρ : Rho} {i : Nat} {v : V} {r : R} (h : EnvIs K G τ σ ρ) (hl : σ.length = ρ.length) (hr : IsR K G τ v r) : EnvIs K G τ (σ.set i (some v)) (ρ.set i (some r)) := fun j q e => by
  by_cases hj : i = j
  · subst hj
    have hlt : i < ρ.length := by
      have := (List.getElem?_eq_some_iff.mp e).1
      rw [List.length_set] at this
      exact this
    rw [List.getElem?_set_self hlt] at e
    cases e
    exact ⟨v, List.getElem?_set_self (by rw [hl]; exact hlt), hr⟩
  · rw [List.getElem?_set_ne hj] at e
    obtain ⟨u, h1, h2⟩ := h j q e
    exact ⟨u, by rw [List.getElem?_set_ne hj]; exact h1, h2⟩
theorem EnvIs.wipe {σ : L2.St} {ρ : Rho} {i : Nat} {x : Option V} (h : EnvIs K G τ σ ρ) : EnvIs K G τ (σ.set i x) (ρ.set i none) := fun j q e => by
  by_cases hj : i = j
  · subst hj
    by_cases hlt : i < ρ.length
    · rw [List.getElem?_set_self hlt] at e; cases e
    · rw [List.getElem?_eq_none (by rw [List.length_set]; omega)] at e; cases e
  · rw [List.getElem?_set_ne hj] at e
    obtain ⟨u, h1, h2⟩ := h j q e
    exact ⟨u, by rw [List.getElem?_set_ne hj]; exact h1, h2⟩
end
section
variable {X : Cx} {an : An} {dr : Option Dr} {ρ : Rho} {om : Om} {e a b c : Expr} {es : List Expr} {st : Stmt} {sts sts' : List Stmt} {pos : Pos} {E : Ed}
theorem uS1_of {σ : L2.St} {H : Hp} {τ : List Addr} {G : Hp} {Z : Ends} (w : WS X an dr ρ om st E) (g : Good X.K an dr om τ G H) (n : EnvIs X.K G τ σ ρ) (hl : σ.length = ρ.length)
    (h1 : ∀ σ' H', Left X.K an dr G τ ρ.length E.nx σ' H' → Z.nx σ' H') (h2 : ∀ v H', LeftV X.K an dr G τ E.rt v H' → Z.rt v H') (h3 : ∀ σ' H', Left X.K an dr G τ ρ.length E.bk σ' H' → Z.bk σ' H') (h4 : ∀ σ' H', Left X.K an dr G τ ρ.length E.ct σ' H' → Z.ct σ' H') : uS1 X an dr st Z σ H :=
  ⟨ρ, om, E, w, τ, G, g, n, hl, h1, h2, h3, h4⟩
theorem uS_of {σ : L2.St} {H : Hp} {τ : List Addr} {G : Hp} {Z : Ends} (w : WSs X an dr ρ om sts E) (g : Good X.K an dr om τ G H) (n : EnvIs X.K G τ σ ρ) (hl : σ.length = ρ.length)
    (h1 : ∀ σ' H', Left X.K an dr G τ ρ.length E.nx σ' H' → Z.nx σ' H') (h2 : ∀ v H', LeftV X.K an dr G τ E.rt v H' → Z.rt v H') (h3 : ∀ σ' H', Left X.K an dr G τ ρ.length E.bk σ' H' → Z.bk σ' H') (h4 : ∀ σ' H', Left X.K an dr G τ ρ.length E.ct σ' H' → Z.ct σ' H') : uS X an dr sts Z σ H :=
  ⟨ρ, om, E, w, τ, G, g, n, hl, h1, h2, h3, h4⟩
theorem wss_nil (h : E.nx ρ om) : WSs X an dr ρ om [] E := pssI pss_nil fun Z σ H ⟨τ, G, g, n, hl, h1, _⟩ => h1 σ H ⟨ρ, om, τ, G, h, g, n, Grow.refl G τ, hl, rfl⟩
theorem wss_cons (h : WS X an dr ρ om st { E with nx := fun ρ' om' => WSs X an dr ρ' om' sts E }) : WSs X an dr ρ om (st :: sts) E :=
  pssI (pss_cons (ps_u (an := an) (dr := dr)) (pss_u (an := an) (dr := dr))) fun Z σ H ⟨τ, G, g, n, hl, h1, h2, h3, h4⟩ =>
    uS1_of h g n hl (fun σ' H' ⟨ρ', om', τ', G', w, g', n', gr, l1, l2⟩ => uS_of w g' n' (l1.trans l2.symm)
      (fun σ2 H2 q => h1 σ2 H2 (Left.grow gr (l2 ▸ q))) (fun v H2 q => h2 v H2 (LeftV.grow gr q)) (fun σ2 H2 q => h3 σ2 H2 (Left.grow gr (l2 ▸ q))) (fun σ2 H2 q => h4 σ2 H2 (Left.grow gr (l2 ▸ q)))) h2 h3 h4
theorem wss_one (h : WS X an dr ρ om st E) : WSs X an dr ρ om [st] E := pss_one h
theorem WSs.imp {E' : Ed} (h : WSs X an dr ρ om sts E) (i1 : ∀ ρ om, E.nx ρ om → E'.nx ρ om) (i2 : ∀ d, E.rt d → E'.rt d) (i3 : ∀ ρ om, E.bk ρ om → E'.bk ρ om) (i4 : ∀ ρ om, E.ct ρ om → E'.ct ρ om) : WSs X an dr ρ om sts E' :=
  pssI h fun Z σ H ⟨τ, G, g, n, hl, h1, h2, h3, h4⟩ => ⟨τ, G, g, n, hl, fun σ' H' q => h1 σ' H' (q.imp i1), fun v H' ⟨d, om', τ', G', q, r⟩ => h2 v H' ⟨d, om', τ', G', i2 d q, r⟩, fun σ' H' q => h3 σ' H' (q.imp i3), fun σ' H' q => h4 σ' H' (q.imp i4)⟩
theorem ws_expr (h : WE X an dr ρ om e fun _ om1 => E.nx ρ om1) (hs : swapsWith e none pos.line X.env = pure false := by rfl) : WS X an dr ρ om (.Expr e pos) E :=
  psI (ps_expr (pe_u (an := an) (dr := dr)) hs) fun Z σ H ⟨τ, G, g, n, hl, h1, _⟩ => uE_of h g n fun v r om1 τ1 G1 H1 i1 w g1 gr1 n1 => h1 σ H1 ⟨ρ, om1, τ1, G1, w, g1, n1, gr1, hl, rfl⟩
def retR (om : Om) (r : R) (K : D → Prop) : Prop := match r with
  | .v d => K d
  | .o k => ∃ d, om[k]? = some (some d) ∧ K d
def fzO (om : Om) : R → Om
  | .v _ => om
  | .o k => om.set k none
def tLk (t : TE) : TE := fun σ H Q => t σ H fun x H1 => Q x H1 ∨ ∃ d u, H1 d = some u ∧ Mut (some u) ∧ ∀ od, Q x (upd H1 d (.frz od u))
theorem pe_lk {t : TE} (h : PE X e t) : PE X e (tLk t) := ⟨fun pins s σ H Q I q => thn (h.run pins s σ H _ I q) fun v s1 ⟨x, H1, I1, r, q⟩ => by
  rcases q with q | ⟨d, u, hd, mu, q⟩
  · exact ⟨x, H1, I1, r, q⟩
  · obtain ⟨od, I2⟩ := I1.lock hd mu
    exact ⟨x, _, I2, r, q od⟩⟩
theorem retR_lk {τ : List Addr} {G H : Hp} {v : V} {r : R} {P : D → Prop} {Z : V → Hp → Prop} (g : Good X.K an dr om τ G H) (h : IsR X.K G τ v r) (p : retR om r P)
    (k : ∀ d G' H', P d → Is X.K G' v d → Good X.K an dr (fzO om r) τ G' H' → Grow G τ G' τ → Z v H') : Z v H ∨ ∃ d u, H d = some u ∧ Mut (some u) ∧ ∀ od, Z v (upd H d (.frz od u)) := by
  cases h with
  | v h => exact .inl (k _ G H p h g (Grow.refl G τ))
  | @o a j h =>
    obtain ⟨d, e, p⟩ := p
    cases n : isDict d with
    | false =>
      obtain ⟨o, g', gr, i⟩ := g.freeze h e n
      exact .inl (k d _ H p i g' gr)
    | true =>
      obtain ⟨u, hu, mu, q⟩ := g.freezeD h e n
      exact .inr ⟨a, u, hu, mu, fun od => k d _ _ p (q od).2.2 (q od).1 (q od).2.1⟩
theorem ws_ret (h : WE X an dr ρ om e fun r om1 => retR om1 r E.rt) : WS X an dr ρ om (.Return (some e) pos) E :=
  psI (ps_ret (pe_lk (pe_u (an := an) (dr := dr)))) fun Z σ H ⟨τ, G, g, n, hl, _, h2, _⟩ => uE_of h g n fun v r om1 τ1 G1 H1 i1 w g1 gr1 n1 => retR_lk g1 i1 w fun d G' H' p i g' gr => h2 v H' ⟨d, _, τ1, G', p, .inl i, g', gr1.trans gr⟩
theorem ws_if (h : WT X an dr ρ om c fun t om1 => if t = true then WSs X an dr ρ om1 sts E else WSs X an dr ρ om1 sts' E) : WS X an dr ρ om (.If c sts sts' pos) E :=
  psI (ps_if (pt_u (an := an) (dr := dr)) (pss_u (an := an) (dr := dr)) (pss_u (an := an) (dr := dr))) fun Z σ H ⟨τ, G, g, n, hl, h1, h2, h3, h4⟩ => uT_of h g n fun t om1 τ1 G1 H1 w g1 gr1 n1 => by
    cases t with
    | true => rw [if_pos rfl] at w ⊢; exact uS_of w g1 n1 hl (fun _ _ q => h1 _ _ (q.grow gr1)) (fun _ _ q => h2 _ _ (q.grow gr1)) (fun _ _ q => h3 _ _ (q.grow gr1)) (fun _ _ q => h4 _ _ (q.grow gr1))
    | false => rw [if_neg Bool.false_ne_true] at w ⊢; exact uS_of w g1 n1 hl (fun _ _ q => h1 _ _ (q.grow gr1)) (fun _ _ q => h2 _ _ (q.grow gr1)) (fun _ _ q => h3 _ _ (q.grow gr1)) (fun _ _ q => h4 _ _ (q.grow gr1))
theorem ws_set {i : Nat} {x : Str} {pos' : Pos} (hN : X.N.Nodup) (hi : X.N[i]? = some x) (hx : Loc X.env.scope x) (h : WE X an dr ρ om e fun r om1 => E.nx (ρ.set i (some r)) om1) (hs : swapsWith e (some (.Name x pos')) pos.line X.env = pure false := by rfl)
    (hf : X.fn x = true ∨ X.env.scope.names.lookup x = some .local := by first | exact .inl rfl | exact .inr rfl | assumption) : WS X an dr ρ om (.Assign [.Name x pos'] e pos) E :=
  psI (ps_set (i := i) hN hi hx (pe_u (an := an) (dr := dr)) hs hf) fun Z σ H ⟨τ, G, g, n, hl, h1, _⟩ => uE_of h g n fun v r om1 τ1 G1 H1 i1 w g1 gr1 n1 =>
    h1 _ H1 ⟨_, om1, τ1, G1, w, g1, n1.set hl i1, gr1, by rw [List.length_set]; exact hl, by rw [List.length_set]⟩
def thaw (k : Nat) (ds : D) : Option R → Option R
  | some (.o j) => if j = k then some (.v ds) else some (.o j)
  | x => x
end
end DL

namespace DL
open PySem L2
abbrev TgF := D → Rho → (Rho → Prop) → Prop
abbrev TgFs := List D → Rho → (Rho → Prop) → Prop
def Only (js : List Nat) (σ σ' : L2.St) : Prop := ∀ vs : List Nat, (∀ i ∈ js, i ∈ vs) → wipe σ' vs = wipe σ vs
theorem wipe_get (σ : L2.St) (j : Nat) : ∀ vs : List Nat, (wipe σ vs)[j]? = if j ∈ vs then (if j < σ.length then some none else none) else σ[j]?
  | [] => by simp [wipe]
  | v :: vs => by
    show ((wipe σ vs).set v none)[j]? = _
    by_cases h : v = j
    · subst h
      rw [if_pos List.mem_cons_self]
      by_cases hl : v < σ.length
      · rw [if_pos hl, List.getElem?_set_self (by rw [wipe_length]; exact hl)]
      · rw [if_neg hl, List.getElem?_eq_none (by rw [List.length_set, wipe_length]; omega)]
    · rw [List.getElem?_set_ne h, wipe_get σ j vs]
      by_cases h2 : j ∈ vs
      · rw [if_pos h2, if_pos (List.mem_cons_of_mem _ h2)]
      · rw [if_neg h2, if_neg (fun z => (List.mem_cons.mp z).elim (fun q => h q.symm) h2)]
theorem Only.one (σ : L2.St) (i : Nat) (x : Option V) : Only [i] σ (σ.set i x) := fun vs h => by
  apply List.ext_getElem?
  intro j
  rw [wipe_get, wipe_get, List.length_set]
  by_cases hj : j ∈ vs
  · rw [if_pos hj, if_pos hj]
  · rw [if_neg hj, if_neg hj, List.getElem?_set_ne]
    rintro rfl
    exact hj (h _ (List.mem_singleton.mpr rfl))
theorem Only.nil (σ : L2.St) : Only [] σ σ := fun vs h => rfl
theorem Only.app {js ks : List Nat} {σ σ1 σ2 : L2.St} (a : Only js σ σ1) (b : Only ks σ1 σ2) : Only (js ++ ks) σ σ2 := fun vs h => (b vs fun i hi => h i (List.mem_append_right _ hi)).trans (a vs fun i hi => h i (List.mem_append_left _ hi))
def tDG (K : PySem.W.Frag) (an : An) (dr : Option Dr) (js : List Nat) (f : TgF) : TG := fun v σ H Q => ∃ om τ G ρ d P, Good K an dr om τ G H ∧ EnvIs K G τ σ ρ ∧ σ.length = ρ.length ∧ Is K G v d ∧ f d ρ P ∧
  ∀ σ' ρ', P ρ' → EnvIs K G τ σ' ρ' → σ'.length = ρ.length → ρ'.length = ρ.length → Only js σ σ' → Q σ' H
def tDGs (K : PySem.W.Frag) (an : An) (dr : Option Dr) (js : List Nat) (f : TgFs) : TGs := fun vs σ H Q => ∃ om τ G ρ ds P, Good K an dr om τ G H ∧ EnvIs K G τ σ ρ ∧ σ.length = ρ.length ∧ IsL K G vs ds ∧ f ds ρ P ∧
  ∀ σ' ρ', P ρ' → EnvIs K G τ σ' ρ' → σ'.length = ρ.length → ρ'.length = ρ.length → Only js σ σ' → Q σ' H
def WG (X : Cx) (an : An) (dr : Option Dr) (tg : Expr) (js : List Nat) (f : TgF) : Prop := PG X tg (tDG X.K an dr js f) ∧ ∀ d ρ P P', (∀ ρ', P ρ' → P' ρ') → f d ρ P → f d ρ P'
def WGs (X : Cx) (an : An) (dr : Option Dr) (tg : List Expr) (js : List Nat) (f : TgFs) : Prop := PGs X tg (tDGs X.K an dr js f) ∧ ∀ d ρ P P', (∀ ρ', P ρ' → P' ρ') → f d ρ P → f d ρ P'
def fN (i : Nat) : TgF := fun d ρ P => P (ρ.set i (some (.v d)))
def fNil : TgFs := fun ds ρ P => match ds with
  | [] => P ρ
  | _ => False
def fCons (f : TgF) (fs : TgFs) : TgFs := fun ds ρ P => match ds with
  | d :: ds => f d ρ fun ρ1 => fs ds ρ1 P
  | [] => False
def fT (n : Nat) (fs : TgFs) : TgF := fun d ρ P => match d with
  | .tup ds => ds.length = n ∧ fs ds ρ P
  | .lst ds => ds.length = n ∧ fs ds ρ P
  | _ => False
section
variable {X : Cx} {an : An} {dr : Option Dr} {pos : Pos} {tg : Expr} {tgs : List Expr} {f : TgF} {fs : TgFs} {js ks : List Nat}
theorem pgI {t t' : TG} (h : PG X tg t) (i : ∀ v σ H Q, t' v σ H Q → t v σ H Q) : PG X tg t' := ⟨fun pins s σ H v u Q I r q => h.run pins s σ H v u Q I r (i v σ H Q q)⟩
theorem pgsI {t t' : TGs} (h : PGs X tgs t) (i : ∀ v σ H Q, t' v σ H Q → t v σ H Q) : PGs X tgs t' := ⟨fun pins s σ H v u Q I r q => h.run pins s σ H v u Q I r (i v σ H Q q)⟩
theorem wg_name {i : Nat} {x : Str} (hN : X.N.Nodup) (hi : X.N[i]? = some x) (hx : Loc X.env.scope x) (hf : X.fn x = true ∨ X.env.scope.names.lookup x = some .local := by first | exact .inl rfl | exact .inr rfl | assumption) : WG X an dr (.Name x pos) [i] (fN i) :=
  ⟨pgI (pg_name (i := i) hN hi hx hf) fun v σ H Q ⟨om, τ, G, ρ, d, P, g, n, hl, id, p, k⟩ => k _ _ p (n.set hl (.v id)) (by rw [List.length_set]; exact hl) (by rw [List.length_set]) (Only.one _ _ _), fun d ρ P P' i p => i _ p⟩
theorem wgs_nil : WGs X an dr [] [] fNil := by
  refine ⟨pgsI pgs_nil fun vs σ H Q ⟨om, τ, G, ρ, ds, P, g, n, hl, id, p, k⟩ => ?_, fun d ρ P P' i p => ?_⟩
  · cases id with
    | nil => exact ⟨rfl, k σ ρ p n hl rfl (Only.nil _)⟩
    | cons _ _ => exact p.elim
  · cases d with
    | nil => exact i _ p
    | cons _ _ => exact p.elim
theorem wgs_cons (h1 : WG X an dr tg js f) (h2 : WGs X an dr tgs ks fs) (hs : (assignEach (tg :: tgs) X.env).map (·.2) = assign tg X.env :: (assignEach tgs X.env).map (·.2) := by rfl) : WGs X an dr (tg :: tgs) (js ++ ks) (fCons f fs) := by
  refine ⟨pgsI (pgs_cons h1.1 h2.1 hs) fun vs σ H Q ⟨om, τ, G, ρ, ds, P, g, n, hl, id, p, k⟩ => ?_, fun d ρ P P' i p => ?_⟩
  · cases id with
    | nil => exact p.elim
    | @cons v vs d ds i1 i2 =>
      exact ⟨v, vs, rfl, om, τ, G, ρ, d, _, g, n, hl, i1, p, fun σ1 ρ1 p1 n1 l1 l2 o1 => ⟨om, τ, G, ρ1, ds, P, g, n1, l1.trans l2.symm, i2, p1, fun σ2 ρ2 p2 n2 l3 l4 o2 => k σ2 ρ2 p2 n2 (l3.trans l2) (l4.trans l2) (o1.app o2)⟩⟩
  · cases d with
    | nil => exact p.elim
    | cons d ds => exact h1.2 _ _ _ _ (fun ρ' q => h2.2 _ _ _ _ i q) p
theorem pg_seq {k : Nat} {t : TGs} {n : Nat} (hc : X.calm = true) (h : PGs X tgs t) (hn : (assignEach tgs X.env).length = n) (hst : (assignEach tgs X.env).findIdx? (·.1) = none) : PG X (.Tuple tgs k pos) (fun v σ H Q => gTup X.K n t v σ H Q ∨ gUnl X.K n t v σ H Q) :=
  ⟨fun pins s σ H v u Q I r q => q.elim (fun q => (pg_tup hc h hn hst).run pins s σ H v u Q I r q) fun q => (pg_unl hc h hn hst).run pins s σ H v u Q I r q⟩
theorem wg_tup {k : Nat} {n : Nat} (hc : X.calm = true) (h : WGs X an dr tgs js fs) (hn : (assignEach tgs X.env).length = n := by rfl) (hst : (assignEach tgs X.env).findIdx? (·.1) = none := by rfl) : WG X an dr (.Tuple tgs k pos) js (fT n fs) := by
  refine ⟨pgI (pg_seq hc h.1 hn hst) fun v σ H Q ⟨om, τ, G, ρ, d, P, g, nv, hl, id, p, kk⟩ => ?_, fun d ρ P P' i p => ?_⟩
  · unfold fT at p
    split at p
    · cases id with
      | tup h1 h2 => exact .inl ⟨_, _, rfl, .inl (.inl (g.ex _ _ h1)), by rw [h2.length]; exact p.1, om, τ, G, ρ, _, P, g, nv, hl, h2, p.2, kk⟩
      | tup0 h1 => exact .inl ⟨_, _, rfl, h1.sq _, p.1, om, τ, G, ρ, _, P, g, nv, hl, .nil, p.2, kk⟩
    · cases id with
      | lst h1 h2 => exact .inr ⟨_, _, rfl, .inl (.inl (g.ex _ _ h1)), by rw [h2.length]; exact p.1, om, τ, G, ρ, _, P, g, nv, hl, h2, p.2, kk⟩
    · exact p.elim
  · unfold fT at p ⊢
    split at p
    · exact ⟨p.1, h.2 _ _ _ _ i p.2⟩
    · exact ⟨p.1, h.2 _ _ _ _ i p.2⟩
    · exact p.elim
theorem retR_fz {om : Om} {τ : List Addr} {G H : Hp} {v : V} {r : R} {P : D → Prop} (g : Good X.K an dr om τ G H) (h : IsR X.K G τ v r) (p : retR om r P) (nd : ∀ d, P d → isDict d = false) : ∃ d G', P d ∧ Is X.K G' v d ∧ Good X.K an dr (fzO om r) τ G' H ∧ Grow G τ G' τ := by
  cases h with
  | v h => exact ⟨_, G, p, h, g, Grow.refl G τ⟩
  | @o a k h =>
    obtain ⟨ds, e, p⟩ := p
    obtain ⟨vs, g', gr, i⟩ := g.freeze h e (nd _ p)
    exact ⟨_, _, p, i, g', gr⟩
theorem ws_asg {ρ : Rho} {om : Om} {e : Expr} {E : Ed} (hg : WG X an dr tg js f) (h : WE X an dr ρ om e fun r om1 => retR om1 r fun d => f d ρ fun ρ' => E.nx ρ' (fzO om1 r)) (hs : swapsWithSole [tg] e pos.line X.env = pure false := by rfl) (hw : swappedStores [tg] e X.env = pure none := by rfl)
    (h1 : (assignEach [tg] X.env).map (·.2) = [assign tg X.env] := by rfl) : WS X an dr ρ om (.Assign [tg] e pos) E :=
  psI (ps_asg (pe_lk (pe_u (an := an) (dr := dr))) hg.1 hs hw h1) fun Z σ H ⟨τ, G, g, n, hl, h1, _⟩ => uE_of h g n fun v r om1 τ1 G1 H1 i1 w g1 gr1 n1 =>
    retR_lk (Z := fun v H2 => tDG X.K an dr js f v σ H2 Z.nx) g1 i1 w fun d G2 H2 p i g2 gr2 => ⟨_, τ1, G2, ρ, d, _, g2, n1.mono gr2, hl, i, p, fun σ' ρ' p' n' l1 l2 _ => h1 σ' H2 ⟨ρ', _, τ1, G2, p', g2, n', gr1.trans gr2, l1, l2⟩⟩
end
def JOk (K : PySem.W.Frag) (an : An) (dr : Option Dr) (J : It) (ds : List D) (G : Hp) (τ : List Addr) : Prop := ∀ om2 τ2 G2 H2, Good K an dr om2 τ2 G2 H2 → Grow G τ G2 τ2 → ∀ i : Nat, (i = ds.length → J.stop i H2) ∧
  ∀ d, ds[i]? = some d → J.go i H2 ∧ ∀ x H3, J.yld i H2 x H3 → ∃ G3, Good K an dr om2 τ2 G3 H3 ∧ Grow G2 τ2 G3 τ2 ∧ Is K G3 x d
def tDI (K : PySem.W.Frag) (an : An) (dr : Option Dr) (ρ : Rho) (om : Om) (Q : List D → Om → Prop) : TI := fun σ H Z => ∃ τ G, Good K an dr om τ G H ∧ EnvIs K G τ σ ρ ∧
  ∀ J ds om' τ' G' H', Q ds om' → ds.length ≤ sizeLine → Good K an dr om' τ' G' H' → Grow G τ G' τ' → (∀ an', JOk K an' dr J ds G' τ') → Z J H'
def WI (X : Cx) (an : An) (dr : Option Dr) (ρ : Rho) (om : Om) (tg iter : Expr) (Q : List D → Om → Prop) : Prop := PI X tg iter (tDI X.K an dr ρ om Q)
section
variable {K : PySem.W.Frag} {an : An} {dr : Option Dr} {G : Hp} {τ : List Addr}
theorem jok_list {a : Addr} {vs : List V} {ds : List D} (h : G a = some (.lst vs)) (i : IsL K G vs ds) : JOk K an dr (Itl K a) ds G τ := fun om2 τ2 G2 H2 g gr j => by
  have hs : SqL K H2 a vs := .inl (.inl (g.ex _ _ (gr.ex _ _ h)))
  refine ⟨fun hj => ⟨vs, hs, by rw [i.length]; omega⟩, fun d hd => ?_⟩
  obtain ⟨v, h1, h2⟩ := i.get hd
  refine ⟨⟨vs, v, hs, h1⟩, fun x H3 y => ?_⟩
  obtain ⟨rfl, y⟩ := y
  have e := (y vs hs).symm.trans h1
  cases e
  exact ⟨G2, g, Grow.refl _ _, h2.mono gr.ex⟩
theorem jok_tup {a : Addr} {vs : List V} {ds : List D} (h : ∀ H, Ex G H → SqT K H a vs) (i : IsL K G vs ds) : JOk K an dr (Itt K a) ds G τ := fun om2 τ2 G2 H2 g gr j => by
  have hs : SqT K H2 a vs := h _ fun _ _ q => g.ex _ _ (gr.ex _ _ q)
  refine ⟨fun hj => ⟨vs, hs, by rw [i.length]; omega⟩, fun d hd => ?_⟩
  obtain ⟨v, h1, h2⟩ := i.get hd
  refine ⟨⟨vs, v, hs, h1⟩, fun x H3 y => ?_⟩
  obtain ⟨rfl, y⟩ := y
  have e := (y vs hs).symm.trans h1
  cases e
  exact ⟨G2, g, Grow.refl _ _, h2.mono gr.ex⟩
def signs (x : Str) : List D := x.cps.toList.map fun c => .str ⟨#[c]⟩
theorem jok_str {x : Str} : JOk K an dr (Its x) (signs x) G τ := fun om2 τ2 G2 H2 g gr j => by
  refine ⟨fun hj => ?_, fun d hd => ?_⟩
  · show x.cps.size ≤ j
    have := hj
    unfold signs at this
    simp at this
    omega
  · unfold signs at hd
    rw [List.getElem?_map] at hd
    cases e : x.cps.toList[j]? with
    | none => rw [e] at hd; cases hd
    | some c =>
      rw [e] at hd
      cases hd
      have e2 : x.cps[j]? = some c := by simpa using e
      refine ⟨?_, fun y H3 q => ?_⟩
      · show j < x.cps.size
        exact (Array.getElem?_eq_some_iff.mp e2).1
      · obtain ⟨rfl, c', h1, rfl⟩ := q
        rw [e2] at h1
        cases h1
        exact ⟨G2, g, Grow.refl _ _, .str _⟩
theorem jok_range {n : Nat} : JOk K an dr (Itr 0 n) ((List.range n).map fun (i : Nat) => D.int (i : Int)) G τ := fun om2 τ2 G2 H2 g gr j => by
  refine ⟨fun hj => ?_, fun d hd => ?_⟩
  · show n ≤ j
    simp at hj
    omega
  · rw [List.getElem?_map] at hd
    by_cases hj : j < n
    · rw [List.getElem?_range hj] at hd
      cases hd
      refine ⟨hj, fun x H3 q => ?_⟩
      obtain ⟨rfl, rfl⟩ := q
      refine ⟨G2, g, Grow.refl _ _, ?_⟩
      rw [Int.zero_add]
      exact .int _
    · rw [List.getElem?_eq_none (by simpa using hj)] at hd
      cases hd
end
section
variable {X : Cx} {an : An} {dr : Option Dr} {ρ : Rho} {om : Om} {e e2 : Expr} {tg : Expr} {pos : Pos}
def walkD (d : D) (K : List D → Prop) : Prop := match d with
  | .lst ds => K ds
  | .tup ds => K ds
  | .str x => x.cps.size ≤ sizeLine ∧ K (signs x)
  | _ => False
theorem wi_seq {Q : List D → Om → Prop} (h : WE X an dr ρ om e fun r om1 => retR om1 r fun d => walkD d fun ds => Q ds (fzO om1 r)) : WI X an dr ρ om tg e Q := by
  refine ⟨fun pins s σ H Z I q => ?_⟩
  obtain ⟨τ, G, g, n, k⟩ := q
  refine thn (PE.run (pe_lk h) pins s σ H (fun v H1 => ∃ d om' τ' G', Is X.K G' v d ∧ Good X.K an dr om' τ' G' H1 ∧ Grow G τ G' τ' ∧ walkD d fun ds => Q ds om') I ⟨τ, G, g, n, fun v r om' τ' G' H' h1 h2 h3 h4 => ?_⟩) fun v s1 ⟨x, H1, I1, r1, d, om1, τ1, G1, i1, g1, gr1, q1⟩ => ?_
  · exact retR_lk (Z := fun v H1 => ∃ d om' τ' G', Is X.K G' v d ∧ Good X.K an dr om' τ' G' H1 ∧ Grow G τ G' τ' ∧ walkD d fun ds => Q ds om') h3 h1 h2 fun d G2 H2 p i g2 gr2 => ⟨d, _, τ', G2, i, g2, h4.trans gr2, p⟩
  · cases i1 with
    | lst hp il =>
      cases r1
      have hq : SqL X.K H1 _ _ := .inl (.inl (g1.ex _ _ hp))
      obtain ⟨its, rv, p, hz⟩ := I1.list hq
      refine wpAny_pyIter_list p.isList ?_
      refine ⟨s1.heap.objs.size, [s1.heap.objs.size], _, _, H1, rfl, I1.kept (t' := s1.toks) fun b o e => Heap.get?_push_of_some _ e, turn_list _ _, ⟨_, Heap.get?_push_size _ rfl, rfl, rfl⟩, fun b hb => ?_, k _ _ _ _ _ _ q1 (by rw [← il.length]; exact hz) g1 gr1 (fun _ => jok_list hp il)⟩
      have e : b = s1.heap.objs.size := by simpa using hb
      subst e
      exact I1.fpOk (Nat.le_refl _) (I1.hok.fresh (Nat.le_refl _))
    | tup hp' il' =>
      cases r1
      obtain ⟨_, _, q, hp, il⟩ := (Is.tup (K := X.K) hp' il').tup_inv
      cases q
      obtain ⟨its, rv, p, hz⟩ := I1.tuple (hp _ g1.ex)
      refine wpAny_pyIter_tuple (show s1.heap.IsTuple _ its.toArray from p) ?_
      refine ⟨s1.heap.objs.size, [s1.heap.objs.size], _, _, H1, rfl, I1.kept (t' := s1.toks) fun b o e => Heap.get?_push_of_some _ e, turn_tuple _ _, ⟨_, Heap.get?_push_size _ rfl, rfl, rfl⟩, fun b hb => ?_, k _ _ _ _ _ _ q1 (by rw [← il.length]; exact hz) g1 gr1 (fun _ => jok_tup hp il)⟩
      have e : b = s1.heap.objs.size := by simpa using hb
      subst e
      exact I1.fpOk (Nat.le_refl _) (I1.hok.fresh (Nat.le_refl _))
    | tup0 hp' =>
      cases r1
      obtain ⟨_, _, q, hp, il⟩ := (Is.tup0 (K := X.K) hp').tup_inv
      cases q
      obtain ⟨its, rv, p, hz⟩ := I1.tuple (hp _ g1.ex)
      refine wpAny_pyIter_tuple (show s1.heap.IsTuple _ its.toArray from p) ?_
      refine ⟨s1.heap.objs.size, [s1.heap.objs.size], _, _, H1, rfl, I1.kept (t' := s1.toks) fun b o e => Heap.get?_push_of_some _ e, turn_tuple _ _, ⟨_, Heap.get?_push_size _ rfl, rfl, rfl⟩, fun b hb => ?_, k _ _ _ _ _ _ q1 (by rw [← il.length]; exact hz) g1 gr1 (fun _ => jok_tup hp il)⟩
      have e : b = s1.heap.objs.size := by simpa using hb
      subst e
      exact I1.fpOk (Nat.le_refl _) (I1.hok.fresh (Nat.le_refl _))
    | str x =>
      obtain ⟨t, rfl⟩ := r1
      have kk := k _ _ _ _ _ _ q1.2 (by unfold signs; simpa using q1.1) g1 gr1 (fun _ => jok_str (x := x))
      cases ha : x.cps.all (· < 128)
      · exact wpAny_pyIter_wide ha (pi_one (tk := s1.toks) I1 _ (turn_str _ x t "str_iterator" (.inr rfl)) ⟨_, Heap.get?_push_size _ rfl, rfl, rfl⟩ kk)
      · exact wpAny_pyIter_ascii ha (pi_one (tk := s1.toks) I1 _ (turn_str _ x t "str_ascii_iterator" (.inl rfl)) ⟨_, Heap.get?_push_size _ rfl, rfl, rfl⟩ kk)
    | _ => exact q1.elim
theorem piI {wi wi' : TI} (h : PI X tg e wi) (i : ∀ σ H Z, wi' σ H Z → wi σ H Z) : PI X tg e wi' := ⟨fun pins s σ H Z I q => h.run pins s σ H Z I (i σ H Z q)⟩
def rngD (n : Nat) : List D := (List.range n).map fun (i : Nat) => D.int (i : Int)
def intR (r : R) (K : Int → Prop) : Prop := match r with
  | .v (.int i) => K i
  | _ => False
theorem intR_is {K : PySem.W.Frag} {G : Hp} {τ : List Addr} {v : V} {r : R} {P : Int → Prop} (h : IsR K G τ v r) (p : intR r P) : ∃ b, v = .int b ∧ r = .v (.int b) ∧ P b := by
  unfold intR at p
  split at p
  · cases h with | v h => exact ⟨_, h.int_inv, rfl, p⟩
  · exact p.elim
theorem wi_range {Q : List D → Om → Prop} {p : Pos} (hm : X.mg "range" = none) (h : WE X an dr ρ om e fun r om1 => intR r fun j => (-1000000 ≤ j ∧ j ≤ 1000000) ∧ Q (rngD j.toNat) om1) (hg : Gl X "range" := by rfl) (hs : starEach [e] X.env = [(false, eval e X.env)] := by rfl) : WI X an dr ρ om tg (.Call (.Name "range" p) [e] [] pos) Q :=
  piI (pi_range1 hg hm (pa_cons (pe_u (an := an) (dr := dr)) pa_nil hs) hs) fun σ H Z ⟨τ, G, g, n, k⟩ => uE_of h g n fun v r om1 τ1 G1 H1 h1 w g1 gr1 n1 => by
    obtain ⟨j, rfl, _, ⟨hj, hj2⟩, w⟩ := intR_is h1 w
    refine ⟨j, rfl, by omega, by omega, k _ _ _ _ _ _ w ?_ g1 gr1 (fun _ => jok_range)⟩
    have : j.toNat ≤ 1000000 := by omega
    unfold rngD
    rw [List.length_map, List.length_range]
    exact Nat.le_trans this (by decide : 1000000 ≤ sizeLine)
def enumD (ds : List D) : List D := ds.zipIdx.map fun p => .tup [.int (p.2 : Nat), p.1]
theorem enumD_get {ds : List D} {j : Nat} {d : D} (h : (enumD ds)[j]? = some d) : ∃ d0, ds[j]? = some d0 ∧ d = .tup [.int (j : Nat), d0] := by
  unfold enumD at h
  rw [List.getElem?_map, List.getElem?_zipIdx] at h
  cases e : ds[j]? with
  | none => rw [e] at h; cases h
  | some d0 =>
    rw [e] at h
    simp at h
    exact ⟨d0, rfl, h.symm⟩
theorem jok_enum {a : Addr} {vs : List V} {ds : List D} {G : Hp} {τ : List Addr} {K : PySem.W.Frag} (h : G a = some (.lst vs)) (i : IsL K G vs ds) : JOk K an dr (Ite K a) (enumD ds) G τ := fun om2 τ2 G2 H2 g gr j => by
  have hs : SqL K H2 a vs := .inl (.inl (g.ex _ _ (gr.ex _ _ h)))
  refine ⟨fun hj => ⟨vs, hs, by rw [i.length]; simp [enumD] at hj; omega⟩, fun d hd => ?_⟩
  obtain ⟨d0, hd0, rfl⟩ := enumD_get hd
  obtain ⟨v, h1, h2⟩ := i.get hd0
  refine ⟨⟨vs, v, hs, h1⟩, fun x H3 y => ?_⟩
  obtain ⟨T, y0, rfl, hT, rfl, y⟩ := y
  have e := (y vs hs).symm.trans h1
  cases e
  exact ⟨_, g.alloc hT, g.grow hT, .tup upd_same (.cons (.int _) (.cons (h2.mono (gr.ex.trans (Ex.new (g.ex.free hT)))) .nil))⟩
def zipD (xs ys : List D) : List D := (xs.zip ys).map fun p => .tup [p.1, p.2]
theorem zipD_get {xs ys : List D} {j : Nat} {d : D} (h : (zipD xs ys)[j]? = some d) : ∃ a b, xs[j]? = some a ∧ ys[j]? = some b ∧ d = .tup [a, b] := by
  unfold zipD at h
  rw [List.getElem?_map] at h
  cases e : (xs.zip ys)[j]? with
  | none => rw [e] at h; cases h
  | some q =>
    rw [e] at h
    cases h
    obtain ⟨h1, h2⟩ := List.getElem?_zip_eq_some.mp e
    exact ⟨_, _, h1, h2, rfl⟩
theorem ws_for {f : TgF} {js : List Nat} {body : List Stmt} {E : Ed} {iter : Expr} (hp : PassesOwn (model X.prog X.w) X.A X.env X.xe) (hc : X.calm = true) (hg : WG X an dr tg js f)
    (hi : WI X an dr ρ om tg iter fun ds om1 => ∃ P : Nat → Rho → Om → Prop, P 0 ρ om1 ∧ (∀ i d ρ' om', ρ'.length = ρ.length → ds[i]? = some d → P i ρ' om' → f d ρ' fun ρ2 => WSs X an dr ρ2 om' body { nx := P (i + 1), rt := E.rt, bk := E.nx, ct := P (i + 1) }) ∧ ∀ ρ' om', ρ'.length = ρ.length → P ds.length ρ' om' → E.nx ρ' om')
    (hs : ∀ x, foldedSetIterable iter X.env x = pure x := by intro _; rfl) : WS X an dr ρ om (.For tg iter body [] pos) E :=
  psI (ps_for hp hc hi hg.1 (pss_u (an := an) (dr := dr)) hs) fun Z σ H ⟨τ, G, g, n, hl, h1, h2, h3, h4⟩ => ⟨τ, G, g, n, fun J ds om1 τ1 G1 H1 ⟨P, p0, ps, pe⟩ hz g1 gr1 jk => by
    have jk := jk an
    refine ⟨fun i m σ' H' => m = ds.length - i ∧ i ≤ ds.length ∧ Left X.K an dr G1 τ1 ρ.length (P i) σ' H', ⟨ds.length, by simp, Nat.zero_le _, ρ, om1, τ1, G1, p0, g1, n.mono gr1, Grow.refl _ _, hl, rfl⟩, ?_⟩
    rintro i m σ2 H2 ⟨rfl, hi, ρ2, om2, τ2, G2, p2, g2, n2, gr2, l1, l2⟩
    have J2 := jk om2 τ2 G2 H2 g2 gr2 i
    by_cases hlt : i < ds.length
    · have hd : ds[i]? = some ds[i] := List.getElem?_eq_getElem hlt
      obtain ⟨go, J3⟩ := J2.2 _ hd
      refine .inr ⟨go, fun σ' H' => Left X.K an dr G1 τ1 ρ.length (P (i + 1)) σ' H', fun σ' H' q => ⟨ds.length - (i + 1), by omega, rfl, hlt, q⟩, fun x H3 y => ?_⟩
      obtain ⟨G3, g3, gr3, i3⟩ := J3 x H3 y
      refine ⟨om2, τ2, G3, ρ2, _, _, g3, n2.mono gr3, l1.trans l2.symm, i3, ps i _ ρ2 om2 l2 hd p2, fun σ4 ρ4 w n4 l3 l4 _ => ?_⟩
      have l4' : ρ4.length = ρ.length := l4.trans l2
      refine uS_of w g3 n4 (l3.trans l4.symm) (fun σ5 H5 q => ?_) (fun v H5 q => ?_) (fun σ5 H5 q => ?_) (fun σ5 H5 q => ?_)
      · exact Left.grow (gr2.trans gr3) (l4' ▸ q)
      · exact h2 v H5 (LeftV.grow ((gr1.trans gr2).trans gr3) q)
      · exact h1 σ5 H5 (Left.grow ((gr1.trans gr2).trans gr3) (l4' ▸ q))
      · exact Left.grow (gr2.trans gr3) (l4' ▸ q)
    · have e : i = ds.length := by omega
      subst e
      exact .inl ⟨J2.1 rfl, h1 σ2 H2 ⟨ρ2, om2, τ2, G2, pe ρ2 om2 l2 p2, g2, n2, gr1.trans gr2, l1, l2⟩⟩⟩
end
end DL

namespace DL
open PySem L2
abbrev XB (X : Cx) (scope : Scope) (s : Shared) (H : Hp) (C : Addr) (cl : List (Str × Addr)) (fp : List Addr) : Cx := X.blk s H scope (compEnvC scope cl C X.env) fp
def wipeR (ρ : Rho) : List Nat → Rho
  | [] => ρ
  | v :: vs => (wipeR ρ vs).set v none
theorem wipeR_length (ρ : Rho) : ∀ vs : List Nat, (wipeR ρ vs).length = ρ.length
  | [] => rfl
  | v :: vs => by show ((wipeR ρ vs).set v none).length = _; rw [List.length_set, wipeR_length ρ vs]
theorem EnvIs.wipes {K : PySem.W.Frag} {G : Hp} {τ : List Addr} {σ : L2.St} {ρ : Rho} (h : EnvIs K G τ σ ρ) : ∀ vs : List Nat, EnvIs K G τ (L2.wipe σ vs) (wipeR ρ vs)
  | [] => h
  | v :: vs => (EnvIs.wipes h vs).wipe
section
variable {X : Cx} {an : An} {dr : Option Dr} {ρ : Rho} {om : Om} {elt tg iter c : Expr} {scope : Scope} {pos : Pos} {Q : R → Om → Prop} {js : List Nat} {f : TgF} {own : List (Str × Nat)}
def uEb (X : Cx) (an : An) (dr : Option Dr) (scope : Scope) (e : Expr) : TE := fun σ H K' => ∃ ρ om Q, (∀ s H C cl fp, WE (XB X scope s H C cl fp) an dr ρ om e Q) ∧ tD X.K an dr ρ om Q σ H K'
def uTb (X : Cx) (an : An) (dr : Option Dr) (scope : Scope) (e : Expr) : TT := fun σ H K' => ∃ ρ om Q, (∀ s H C cl fp, WT (XB X scope s H C cl fp) an dr ρ om e Q) ∧ tDT X.K an dr ρ om Q σ H K'
theorem pe_ub (s : Shared) (H : Hp) (C : Addr) (cl : List (Str × Addr)) (fp : List Addr) {e : Expr} : PE (XB X scope s H C cl fp) e (uEb X an dr scope e) := ⟨fun pins s1 σ H1 K' I ⟨ρ, om, Q, w, h⟩ => PE.run (w s H C cl fp) pins s1 σ H1 K' I h⟩
theorem pt_ub (s : Shared) (H : Hp) (C : Addr) (cl : List (Str × Addr)) (fp : List Addr) {e : Expr} : PT (XB X scope s H C cl fp) e (uTb X an dr scope e) := ⟨fun pins s1 σ H1 K' I ⟨ρ, om, Q, w, h⟩ => PT.run (w s H C cl fp) pins s1 σ H1 K' I h⟩
theorem Good.drop {K : PySem.W.Frag} {om : Om} {x : Option D} {τ : List Addr} {p : Addr} {G H : Hp} (g : Good K an dr (om ++ [x]) (τ ++ [p]) G H) (ht : ∀ t ∈ an.ties, τ[t.1]? = some t.2) : Good K an dr om τ G H where
  ti := ht
  ex := g.ex
  len := by have := g.len; rw [List.length_append, List.length_append] at this; simpa using this
  nd := (List.nodup_append.mp g.nd).1
  own := fun k q ds h1 h2 => g.own k q ds (by rw [List.getElem?_append_left (List.getElem?_eq_some_iff.mp h1).1]; exact h1) (by rw [List.getElem?_append_left (List.getElem?_eq_some_iff.mp h2).1]; exact h2)
  drg := g.drg
  a1 := g.a1
  a2 := g.a2
  a3 := g.a3
  a4 := fun k q h1 => g.a4 k q (by rw [List.getElem?_append_left (List.getElem?_eq_some_iff.mp h1).1]; exact h1)
  gt := g.gt
  nt0 := g.nt0
def Elt (X : Cx) (an : An) (dr : Option Dr) (scope : Scope) (elt : Expr) (ρ2 : Rho) (om : Om) (acc : List D) (N : List D → Prop) : Prop :=
  ∀ s H C cl fp, WE (XB X scope s H C cl fp) an dr ρ2 (om ++ [some (.lst acc)]) elt fun r om3 => om3 = om ++ [some (.lst acc)] ∧ retR om3 r fun d => (∃ d', r = .v d') ∧ N (acc ++ [d])
def Tst (X : Cx) (an : An) (dr : Option Dr) (scope : Scope) (c : Expr) (ρ2 : Rho) (om : Om) (acc : List D) (N : Bool → Prop) : Prop :=
  ∀ s H C cl fp, WT (XB X scope s H C cl fp) an dr ρ2 (om ++ [some (.lst acc)]) c fun b om3 => om3 = om ++ [some (.lst acc)] ∧ N b
theorem lc_go {te : TE} {tt : TT} {J : It} {ds : List D} {τ1 : List Addr} {G1 H1 : Hp} {om1 : Om} {σ : L2.St} {Z : VK} (P : Nat → List D → Prop) (hz : ds.length ≤ sizeLine) (g1 : Good X.K an dr om1 τ1 G1 H1) (n1 : EnvIs X.K G1 τ1 σ ρ) (hl : σ.length = ρ.length) (jk : JOk X.K an dr J ds G1 τ1) (p0 : P 0 [])
    (hj : ∀ i ∈ js, i ∈ own.map (·.2))
    (turn : ∀ i d acc, ds[i]? = some d → acc.length ≤ i → P i acc → f d (wipeR ρ (own.map (·.2))) fun ρ2 => ∀ σ2 τ2 G2 H2 (Y : Bool → Hp → Prop) (Y2 : VK), Good X.K an dr (om1 ++ [some (.lst acc)]) τ2 G2 H2 → EnvIs X.K G2 τ2 σ2 ρ2 →
      (∀ H3 τ3 G3, P (i + 1) acc → Good X.K an dr (om1 ++ [some (.lst acc)]) τ3 G3 H3 → Grow G2 τ2 G3 τ3 → Y false H3) →
      (∀ H3 τ3 G3 y d', P (i + 1) (acc ++ [d']) → Good X.K an dr (om1 ++ [some (.lst acc)]) τ3 G3 H3 → Grow G2 τ2 G3 τ3 → Is X.K G3 y d' → Y2 y H3) →
      tt σ2 H2 fun b H3 => if b = true then te σ2 H3 Y2 else Y false H3)
    (fin : ∀ acc, P ds.length acc → Fin X.K an dr om1 τ1 G1 Z (.lst acc)) :
    ∀ D0, H1 D0 = none → ∃ W : Nat → Nat → Hp → Prop, (∃ m, W 0 m (upd H1 D0 (.lst []))) ∧ ∀ i m H, W i m H →
      (J.stop i H ∧ Z (.ref D0) H) ∨ (J.go i H ∧ ∃ Nx : Hp → Prop, (∀ H', Nx H' → ∃ m', m' < m ∧ W (i + 1) m' H') ∧ ∀ x H', J.yld i H x H' → tDG X.K an dr js f x (L2.wipe σ (own.map (·.2))) H' fun σ2 H2 => L2.wipe σ2 (own.map (·.2)) = L2.wipe σ (own.map (·.2)) ∧ tt σ2 H2 fun b H3 =>
        if b = true then te σ2 H3 fun y H4 => ∃ acc, H4 D0 = some (.lst acc) ∧ acc.length < sizeLine ∧ Nx (upd H4 D0 (.lst (acc ++ [y]))) else Nx H3) := by
  intro D0 hD
  have g0 := g1.fresh (ds := []) hD .nil
  have kD : (τ1 ++ [D0])[om1.length]? = some D0 := by
    rw [g1.len, List.getElem?_append_right (Nat.le_refl _), Nat.sub_self]; rfl
  have oD : ∀ acc : List D, (om1 ++ [some (D.lst acc)])[om1.length]? = some (some (D.lst acc)) := fun acc => by
    rw [List.getElem?_append_right (Nat.le_refl _), Nat.sub_self]; rfl
  refine ⟨fun i m H => m = ds.length - i ∧ i ≤ ds.length ∧ ∃ acc τ2 G2, acc.length ≤ i ∧ P i acc ∧ Good X.K an dr (om1 ++ [some (.lst acc)]) τ2 G2 H ∧ Grow G1 (τ1 ++ [D0]) G2 τ2, ⟨ds.length, by simp, Nat.zero_le _, [], τ1 ++ [D0], G1, Nat.le_refl _, p0, g0, Grow.refl _ _⟩, ?_⟩
  rintro i m H ⟨rfl, hi, acc, τ2, G2, ha, p, g2, gr2⟩
  have gr12 : Grow G1 τ1 G2 τ2 := Good.growF.trans gr2
  have J2 := jk _ τ2 G2 H g2 gr12 i
  have kD2 := gr2.pre _ _ kD
  by_cases hlt : i < ds.length
  · have hd : ds[i]? = some ds[i] := List.getElem?_eq_getElem hlt
    obtain ⟨go, J3⟩ := J2.2 _ hd
    refine .inr ⟨go, fun H' => ∃ acc τ2 G2, acc.length ≤ i + 1 ∧ P (i + 1) acc ∧ Good X.K an dr (om1 ++ [some (.lst acc)]) τ2 G2 H' ∧ Grow G1 (τ1 ++ [D0]) G2 τ2, fun H' q => ⟨ds.length - (i + 1), by omega, rfl, hlt, q⟩, fun x H3 y => ?_⟩
    obtain ⟨G3, g3, gr3, i3⟩ := J3 x H3 y
    have n3 : EnvIs X.K G3 τ2 σ ρ := n1.mono (gr12.trans gr3)
    refine ⟨_, τ2, G3, _, _, _, g3, n3.wipes _, by rw [wipe_length, wipeR_length]; exact hl, i3, turn i _ acc hd ha p, fun σ4 ρ4 w n4 l3 l4 o4 => ⟨?_, ?_⟩⟩
    · have z := o4 (own.map (·.2)) hj
      rw [z]
      apply List.ext_getElem?
      intro j
      rw [wipe_get, wipe_get, wipe_length]
      by_cases hj : j ∈ own.map (·.2)
      · rw [if_pos hj, if_pos hj]
      · rw [if_neg hj, if_neg hj]
    · refine w σ4 τ2 G3 H3 (fun b H' => ∃ acc τ2 G2, acc.length ≤ i + 1 ∧ P (i + 1) acc ∧ Good X.K an dr (om1 ++ [some (.lst acc)]) τ2 G2 H' ∧ Grow G1 (τ1 ++ [D0]) G2 τ2) _ g3 n4 (fun H5 τ5 G5 p5 g5 gr5 => ⟨acc, τ5, G5, by omega, p5, g5, (gr2.trans gr3).trans gr5⟩) fun H5 τ5 G5 y d' p5 g5 gr5 i5 => ?_
      have kD5 := gr5.pre _ _ kD2
      obtain ⟨e1, e2, e3, _, e4, vs, rfl, e5⟩ := g5.own om1.length D0 (.lst acc) kD5 (oD acc)
      refine ⟨vs, e4, by rw [e5.length]; omega, acc ++ [d'], τ5, G5, by rw [List.length_append]; show acc.length + 1 ≤ i + 1; omega, p5, ?_, (gr2.trans gr3).trans gr5⟩
      have g6 := g5.write (vs := vs ++ [y]) (ds := acc ++ [d']) kD5 (oD acc) (e5.append (.cons i5 .nil))
      have e6 : (om1 ++ [some (D.lst acc)]).set om1.length (some (D.lst (acc ++ [d']))) = om1 ++ [some (D.lst (acc ++ [d']))] := by
        rw [List.set_append_right _ _ (Nat.le_refl _), Nat.sub_self]; rfl
      rw [e6] at g6
      exact g6
  · have e : i = ds.length := by omega
    subst e
    refine .inl ⟨J2.1 rfl, ?_⟩
    obtain ⟨vs, g', gr', i'⟩ := g2.freeze kD2 (oD acc) rfl
    have e6 : (om1 ++ [some (D.lst acc)]).set om1.length none = om1 ++ [none] := by
      rw [List.set_append_right _ _ (Nat.le_refl _), Nat.sub_self]; rfl
    rw [e6] at g'
    have l2 : τ2.length = τ1.length + 1 := by
      have := g2.len
      rw [List.length_append, g1.len] at this
      simpa using this.symm
    have e7 : τ2 = τ1 ++ [D0] := by
      apply List.ext_getElem?
      intro j
      by_cases hj : j < (τ1 ++ [D0]).length
      · rw [gr2.pre j _ (List.getElem?_eq_getElem hj), List.getElem?_eq_getElem hj]
      · rw [List.getElem?_eq_none (by rw [l2]; simpa using hj), List.getElem?_eq_none (by simpa using hj)]
    subst e7
    exact fin acc p _ _ _ i' (g'.drop g1.ti) ⟨gr2.ex.trans gr'.ex, fun _ _ h => h⟩
theorem we_lc (hc : X.calm = true) (hN : X.N.Nodup) (hl : X.N.length = ρ.length) (own : List (Str × Nat)) (ok : BlkOk X.N X.env.scope scope own) (hg : ∀ s H C cl fp, WG (XB X scope s H C cl fp) an dr tg js f) (hj : ∀ i ∈ js, i ∈ own.map (·.2))
    (hi : WI X an dr ρ om tg iter fun ds om1 => ∃ P : Nat → List D → Prop, P 0 [] ∧ (∀ i d acc, ds[i]? = some d → acc.length ≤ i → P i acc → f d (wipeR ρ (own.map (·.2))) fun ρ2 => Elt X an dr scope elt ρ2 om1 acc (P (i + 1))) ∧ ∀ acc, P ds.length acc → Q (.v (.lst acc)) om1)
    (hs : ∀ x, foldedSetIterable iter X.env x = pure x := by intro _; rfl) : WE X an dr ρ om (.ListComp elt [⟨tg, iter, [], 0⟩] scope pos) Q := by
  refine ⟨fun pins s σ H K' I q => (pe_lc (g := tDG X.K an dr js f) hc hN hi ok (fun s H C cl fp => (hg s H C cl fp).1) (fun _ _ _ _ _ => pts_nil) (fun s H C cl fp => pe_ub (an := an) (dr := dr) s H C cl fp) hs).run pins s σ H K' I ?_⟩
  obtain ⟨τ, G, g, n, k⟩ := q
  have hls : σ.length = ρ.length := I.len.trans hl
  refine ⟨τ, G, g, n, fun J ds om1 τ1 G1 H1 ⟨P, p0, ps, pe⟩ hz g1 gr1 jk => lc_go P hz g1 (n.mono gr1) hls (jk an) p0 hj (fun i d acc hd ha p => ?_) fun acc p v G' H' i' g' gr' => k _ _ _ _ _ _ (.v i') (pe acc p) g' (gr1.trans gr')⟩
  have w := ps i d acc hd ha p
  refine (hg s H 0 [] []).2 _ _ _ _ (fun ρ2 w σ2 τ2 G2 H2 Y Y2 g2 n2 y1 y2 => ⟨ρ2, _, _, w, τ2, G2, g2, n2, fun v r om3 τ3 G3 H3 h1 ⟨h2, h3⟩ g3 gr3 => by
    subst h2
    cases h1 with
    | v h1 => exact y2 H3 τ3 G3 v _ h3.2 g3 gr3 h1
    | o h1 => obtain ⟨_, _, ⟨_, z⟩, _⟩ := h3; cases z⟩) w
theorem we_lcIf (hc : X.calm = true) (hN : X.N.Nodup) (hl : X.N.length = ρ.length) (own : List (Str × Nat)) (ok : BlkOk X.N X.env.scope scope own) (hg : ∀ s H C cl fp, WG (XB X scope s H C cl fp) an dr tg js f) (hj : ∀ i ∈ js, i ∈ own.map (·.2))
    (hi : WI X an dr ρ om tg iter fun ds om1 => ∃ P : Nat → List D → Prop, P 0 [] ∧ (∀ i d acc, ds[i]? = some d → acc.length ≤ i → P i acc → f d (wipeR ρ (own.map (·.2))) fun ρ2 => Tst X an dr scope c ρ2 om1 acc fun b => if b = true then Elt X an dr scope elt ρ2 om1 acc (P (i + 1)) else P (i + 1) acc) ∧ ∀ acc, P ds.length acc → Q (.v (.lst acc)) om1)
    (hs : ∀ x, foldedSetIterable iter X.env x = pure x := by intro _; rfl) : WE X an dr ρ om (.ListComp elt [⟨tg, iter, [c], 0⟩] scope pos) Q := by
  refine ⟨fun pins s σ H K' I q => (pe_lc (g := tDG X.K an dr js f) hc hN hi ok (fun s H C cl fp => (hg s H C cl fp).1) (fun s H C cl fp => pts_one (pt_ub (an := an) (dr := dr) s H C cl fp)) (fun s H C cl fp => pe_ub (an := an) (dr := dr) s H C cl fp) hs).run pins s σ H K' I ?_⟩
  obtain ⟨τ, G, g, n, k⟩ := q
  have hls : σ.length = ρ.length := I.len.trans hl
  refine ⟨τ, G, g, n, fun J ds om1 τ1 G1 H1 ⟨P, p0, ps, pe⟩ hz g1 gr1 jk => lc_go P hz g1 (n.mono gr1) hls (jk an) p0 hj (fun i d acc hd ha p => ?_) fun acc p v G' H' i' g' gr' => k _ _ _ _ _ _ (.v i') (pe acc p) g' (gr1.trans gr')⟩
  have w := ps i d acc hd ha p
  refine (hg s H 0 [] []).2 _ _ _ _ (fun ρ2 w σ2 τ2 G2 H2 Y Y2 g2 n2 y1 y2 => ⟨ρ2, _, _, w, τ2, G2, g2, n2, fun b om3 τ3 G3 H3 ⟨h2, h3⟩ g3 gr3 => ?_⟩) w
  subst h2
  cases b with
  | true =>
    rw [if_pos rfl] at h3 ⊢
    refine ⟨ρ2, _, _, h3, τ3, G3, g3, n2.mono gr3, fun v r om4 τ4 G4 H4 h1 ⟨h2, h3⟩ g4 gr4 => ?_⟩
    subst h2
    cases h1 with
    | v h1 => exact y2 H4 τ4 G4 v _ h3.2 g4 (gr3.trans gr4) h1
    | o h1 => obtain ⟨_, _, ⟨_, z⟩, _⟩ := h3; cases z
  | false =>
    rw [if_neg Bool.false_ne_true] at h3 ⊢
    exact y1 H3 τ3 G3 h3 g3 gr3
theorem ws_setLcIf {i : Nat} {y : Str} {py spos : Pos} {E : Ed} (hc : X.calm = true) (hN : X.N.Nodup) (hl : X.N.length = ρ.length) (hy : X.N[i]? = some y) (hyl : X.env.scope.names.lookup y = some .local) (own : List (Str × Nat)) (ok : BlkOk X.N X.env.scope scope own) (hg : ∀ s H C cl fp, WG (XB X scope s H C cl fp) an dr tg js f) (hj : ∀ i ∈ js, i ∈ own.map (·.2))
    (hsw : swapsWith (.ListComp elt [⟨tg, iter, [c], 0⟩] scope pos) (some (.Name y py)) spos.line X.env = pure true)
    (hi : WI X an dr ρ om tg iter fun ds om1 => ∃ P : Nat → List D → Prop, P 0 [] ∧ (∀ i d acc, ds[i]? = some d → acc.length ≤ i → P i acc → f d (wipeR ρ (own.map (·.2))) fun ρ2 => Tst X an dr scope c ρ2 om1 acc fun b => if b = true then Elt X an dr scope elt ρ2 om1 acc (P (i + 1)) else P (i + 1) acc) ∧ ∀ acc, P ds.length acc → E.nx (ρ.set i (some (.v (.lst acc)))) om1)
    (hs : ∀ x, foldedSetIterable iter X.env x = pure x := by intro _; rfl) : WS X an dr ρ om (.Assign [.Name y py] (.ListComp elt [⟨tg, iter, [c], 0⟩] scope pos) spos) E := by
  refine psI (ps_setLc (g := tDG X.K an dr js f) hc hN hy hyl hsw hi ok (fun s H C cl fp => (hg s H C cl fp).1) (fun s H C cl fp => pts_one (pt_ub (an := an) (dr := dr) s H C cl fp)) (fun s H C cl fp => pe_ub (an := an) (dr := dr) s H C cl fp) hs) fun Z σ H ⟨τ, G, g, n, hls, h1, _⟩ => ?_
  refine ⟨τ, G, g, n, fun J ds om1 τ1 G1 H1 ⟨P, p0, ps, pe⟩ hz g1 gr1 jk => lc_go P hz g1 (n.mono gr1) hls (jk an) p0 hj (fun i d acc hd ha p => ?_) fun acc p v G' H' i' g' gr' => h1 _ _ ⟨_, _, _, _, pe acc p, g', EnvIs.set (n.mono (gr1.trans gr')) hls (.v i'), gr1.trans gr', by rw [List.length_set]; exact hls, by rw [List.length_set]⟩⟩
  have w := ps i d acc hd ha p
  refine (hg X.s_0 H 0 [] []).2 _ _ _ _ (fun ρ2 w σ2 τ2 G2 H2 Y Y2 g2 n2 y1 y2 => ⟨ρ2, _, _, w, τ2, G2, g2, n2, fun b om3 τ3 G3 H3 ⟨h2, h3⟩ g3 gr3 => ?_⟩) w
  subst h2
  cases b with
  | true =>
    rw [if_pos rfl] at h3 ⊢
    refine ⟨ρ2, _, _, h3, τ3, G3, g3, n2.mono gr3, fun v r om4 τ4 G4 H4 h1 ⟨h2, h3⟩ g4 gr4 => ?_⟩
    subst h2
    cases h1 with
    | v h1 => exact y2 H4 τ4 G4 v _ h3.2 g4 (gr3.trans gr4) h1
    | o h1 => obtain ⟨_, _, ⟨_, z⟩, _⟩ := h3; cases z
  | false =>
    rw [if_neg Bool.false_ne_true] at h3 ⊢
    exact y1 H3 τ3 G3 h3 g3 gr3
end
end DL

namespace DL
open PySem L2 PyProof.Rows
structure FunA (K : PySem.W.Frag) (x qual : Str) (st : Stmt) (f : Addr) (fd : FuncData) : Prop where
  ex : ∃ (oc : Value) (od : Option Addr) (dV kV doc pm : Value) (an : Option Addr) (cdv ct : Value) (osl : Array (Option Value)), fd = PySem.W.fnOf x qual (defArgs st) (defBody st) (defScope st) dV kV doc pm an cdv ct ∧ K.lookup f = some ⟨oc, od, .func fd, osl⟩ ∧ PySem.W.codeIn K cdv qual = true
  kp : PySem.W.keepIn K (.ref f) = true
theorem FunA.ok {P : Program} {w : World} {K : PySem.W.Frag} {mg : Str → Option Value} {base : Heap} {x qual : Str} {st : Stmt} {f : Addr} {fd : FuncData} {N ps : List Str} {k : Nat} {sp : Sp} (F : FunA K x qual st f fd) (S : FnScope N ps (defScope st)) (len : ∀ vs H Q E, sp vs H Q E → vs.length = ps.length)
    (hb : ∀ (cdv : Value) (A : Around) (outer : List Env) (s : Shared) (H : Hp) (vs : List V) (Q : VK) (E : XK), Room k (A.deeper (PyProof.Rows.envOfC qual (defScope st) s.heap.objs.size f cdv)) → sp vs H Q E →
      ∃ t, PSs (cxOf CX0 P w K mg base N qual (defScope st) f cdv A outer s H E).nox (defBody st) t ∧ t { nx := fun _ H' => Q .non H', rt := Q } (start N vs) H) : FnOk P w K mg base CX0 (k + 1) f fd ps sp := by
  obtain ⟨oc, od, dV, kV, doc, pm, an, cdv, ct, osl, rfl, lk, hcd⟩ := F.ex
  exact fn_of lk hcd S len fun A outer s H vs Q E hr h => by
    obtain ⟨t, h1, h2⟩ := hb cdv A outer s H vs Q E hr h
    exact ⟨t, h1.nox, h2⟩
theorem funA_mk {K : PySem.W.Frag} {x qual : Str} {st : Stmt} {f : Addr} {oc : Value} {od an : Option Addr} {osl : Array (Option Value)} {dV kV doc pm cdv ct : Value} (l : K.lookup f = some ⟨oc, od, .func (PySem.W.fnOf x qual (defArgs st) (defBody st) (defScope st) dV kV doc pm an cdv ct), osl⟩)
    (c : PySem.W.codeIn K cdv qual = true) (k : PySem.W.keepIn K (.ref f) = true) : FunA K x qual st f (PySem.W.fnOf x qual (defArgs st) (defBody st) (defScope st) dV kV doc pm an cdv ct) := ⟨⟨oc, od, dV, kV, doc, pm, an, cdv, ct, osl, rfl, l, c⟩, k⟩
structure FnG (P : Program) (w : World) (K : PySem.W.Frag) (mg : Str → Option Value) (base : Heap) (CX : CXT) (k : Nat) (f : Addr) (fd : FuncData) (ps : List Str) (sp : Sp) : Prop where
  len : ∀ vs H Q E, sp vs H Q E → vs.length = ps.length
  run : ∀ (A : Around) (outer : List Env) (s : Shared) (H : Hp) (args : Args) (us : List Value) (vs : List V) (Q : VK) (E : XK), Room k A → A.guards = some [] → Env0 P w K mg base A outer s H → BindsTo s fd args (ps.zip us) → Vals vs us → sp vs H Q E →
    codeAny (model P w) A (.call (.ref f) args) (CR CX outer P w H s Q E) s
section
variable {P : Program} {w : World} {K : PySem.W.Frag} {mg : Str → Option Value} {base : Heap} {CX : CXT} {k : Nat} {f : Addr} {N ps : List Str} {sp : Sp}
theorem FnG.of {fd : FuncData} (F : FnOk P w K mg base CX k f fd ps sp) : FnG P w K mg base CX k f fd ps sp := ⟨F.len, fun A outer s H args us vs Q E hr _ => F.run A outer s H args us vs Q E hr⟩
theorem FnG.by {x qual : Str} {st : Stmt} {fd : FuncData} (F : FunA K x qual st f fd) (S : FnScope N ps (defScope st)) (len : ∀ vs H Q E, sp vs H Q E → vs.length = ps.length)
    (hbody : ∀ (cdv : Value) (A : Around) (outer : List Env) (s : Shared) (H : Hp) (vs : List V) (Q : VK) (E : XK), Room k (A.deeper (envOfC qual (defScope st) s.heap.objs.size f cdv)) → A.guards = some [] → sp vs H Q E →
      ∃ t, PSs (cxOf CX P w K mg base N qual (defScope st) f cdv A outer s H E) (defBody st) t ∧ t { nx := fun _ H' => Q .non H', rt := Q } (L2.start N vs) H) : FnG P w K mg base CX (k + 1) f fd ps sp := by
  obtain ⟨oc, od, dV, kV, doc, pm, an, cdv, ct, osl, rfl, lk, hcd⟩ := F.ex
  constructor
  · exact len
  · intro A outer s H args us vs Q E room gd env bnd rel want
    have inB : ∀ b o, base.get? b = some o → s.heap.get? b = some o := fun b o e => (env.bs b o e).1
    have inK : K.In s.heap := env.mod.kin.keeps inB
    have kinds : ∀ y ∈ ps.zip us, (defScope st).names.lookup y.1 = some .local ∨ ((defScope st).names.lookup y.1 = some .cell ∧ ((cellsFrom (s.heap.objs.size + 1) (defScope st).names []).lookup y.1).isSome = true) := by
      rintro ⟨n, v⟩ hy
      rcases S.par n (List.of_mem_zip hy).1 with q | q
      · exact .inl q
      · exact .inr ⟨q, PySem.W.cellsFrom_some _ _ _ (.inl q)⟩
    refine codeAny_call_function room.depth (inK _ _ lk) rfl S.co S.gen rfl (PySem.W.codeRec_of inK hcd) (bnd _ _ _ _ (wpAny_newFunctionEnv_cells S.kind kinds ?_))
    rintro _ rfl s1 x
    refine ⟨(env.mod.nolimit.keeps inB).keeps x.toInCall.keep, codeAny_func ?_⟩
    obtain ⟨t, ht, hq⟩ := hbody cdv A outer s H vs Q E (room.deeper _) gd want
    have I := inv_start (CX := CX) (qual := qual) (f := f) (cd := cdv) (E := E) S room.hd env (len _ _ _ _ want) rel x
    refine wpAny_mono (ht.run [] s1 _ H _ I hq) ?_ fun e s' hs => hs
    rintro (_ | _ | _ | u) s' hs
    · obtain ⟨σ', H', J, q⟩ := hs
      exact ⟨V.non, H', J.os, J.bare, J.base, J.hok, rfl, q⟩
    · obtain ⟨_, _, _, q⟩ := hs
      exact q.elim
    · obtain ⟨_, _, _, q⟩ := hs
      exact q.elim
    · obtain ⟨v, σ', H', J, rv, q⟩ := hs
      exact ⟨v, H', J.os, J.bare, J.base, J.hok, rv, q⟩
end
section
variable {X : Cx} {CX : CXT} {k : Nat} {f : Addr} {fd : FuncData} {ps : List Str} {sp : Sp} {E : XK} {x : Str} {p pos : Pos} {e : Expr} {es : List Expr} {t : TA}
theorem pe_callG (F : FnG X.prog X.w X.K X.mg X.base CX k f fd ps sp) (hr : Room k X.A) (gd : X.A.guards = some []) (hg : Gl X x) (hm : X.mg x = some (.ref f)) (hk : PySem.W.keepIn X.K (.ref f) = true) (hb : Binds X.K fd ps []) (hx : Passes CX X E)
    (ha : PA X (e :: es) t) (hdb : (x == ("__debug__" : Str)) = false) (he : starEach (e :: es) X.env = (false, eval e X.env) :: starEach es X.env) (hpl : (backTo pos (starEach es X.env)).any (·.1) = false) :
    PE X (.Call (.Name x p) (e :: es) [] pos) (tCall sp [] E t) := by
  constructor
  intro pins s σ H Q I h
  refine wpAny_Call_Name_kw (ld_glob I hg hm (PySem.W.callWith_K (h₀ := X.base) I.ok.mod.kin hk (thn (ha.run pos pins s σ H _ I h) ?_) he hpl) hdb)
  rintro us s1 ⟨vs, H1, I1, r, q⟩
  have q : sp (vs ++ []) H1 Q E := q
  rw [List.append_nil] at q
  have hl : (us ++ ([] : List Value)).length = ps.length := by
    rw [List.append_nil, ← r.length]
    exact F.len _ _ _ _ q
  have bd := hb s1 us I1.kIn hl
  rw [List.append_nil] at bd
  refine ⟨I1.kIn, wpAny_call (codeAny_mono (F.run X.A X.stack s1 H1 ⟨us, []⟩ us vs Q E hr gd I1.env0 bd r q) ?_)⟩
  rintro (ex | (_ | _ | _ | u)) s' hq
  · exact hx pins σ H1 s1 ex s' I1 hq
  · exact False.elim hq
  · exact False.elim hq
  · exact False.elim hq
  · exact I1.after hq
end
end DL

namespace DL
open PySem L2 PyProof.Rows
theorem end_lawT {P : Program} {w : World} {K : PySem.W.Frag} {mg mb : Str → Option Value} {k : Nat} {fa a : Addr} {cs : List (Addr × Addr)} {fd : FuncData} {x : Str} {sp : Sp} {s : Shared} {vs : List Value} {ns : List Int}
    (KX : K.In s.heap) (hns : s.heap.Ns mainGlobals mg) (hb : s.heap.Ns builtinsNs mb) (hbb : ∀ y : Str, y ≠ "__name__" → mb y = bootBuiltins y) (hlim : s.heap.NoLimit) (hsy : ∃ mm, s.heap.Ns sysModules mm) (hg : s.gens = #[])
    (hT : ∀ p ∈ cs, s.heap.get? p.2 = some { cls := .none, data := .fields #[] }) (nT : ∀ p ∈ cs, K.lookup p.2 = none) (C : ∀ p ∈ cs, PySem.W.CodeHd s.heap p.1 p.2)
    (hbm : ∃ (bm : Addr) (ob : Obj), mg "__builtins__" = some (.ref bm) ∧ bm ≠ builtinsNs ∧ s.heap.get? bm = some ob ∧ ob.cls = .type "module" ∧ ob.dict = some builtinsNs ∧ ob.data = .plain)
    (ha : s.heap.get? a = some { cls := .type "list", data := .seq vs.toArray }) (hi : IntsAre vs ns) (hl : ns.length ≤ sizeLine) (hr : Room k callerA)
    (F : ∀ base : Heap, K.In base → base.Ns mainGlobals mg → (∃ o, base.get? sysModules = some o) → (∀ p ∈ cs, LamX.TabB base mg p.1 p.2) → FnG P w K mg base CX0 k fa fd [x] sp) (hbind : ∀ (s : Shared) (u : Value), BindsTo s fd ⟨[u], []⟩ [(x, u)])
    (hsp : ∀ H : Hp, (∀ p ∈ cs, H p.2 = some (.tbl #[])) → (∀ b ps, H b = some (.tbl ps) → ∃ p ∈ cs, p.2 = b) → SqL K H a (ns.map V.int) → sp [.ref a] H (fun v _ => v = .bl true) fun _ _ _ => False) :
    codeAny (model P w) callerA (.call (.ref fa) ⟨[.ref a], []⟩) (fun r s' => r = .ok (.ret (.bool true)) ∧ OldK s.heap s'.heap ∧ s'.os = s.os ∧ AllBare s'.gens) s := by
  have isT : ∀ b : Addr, b ∈ cs.map (·.2) → s.heap.get? b = some { cls := .none, data := .fields #[] } := fun b hb => by
    obtain ⟨p, hp, rfl⟩ := List.mem_map.mp hb
    exact hT p hp
  let H : Hp := fun b => if b ∈ cs.map (·.2) then some (.tbl #[]) else if b = a ∧ K.lookup a = none then some (.frz { cls := .type "list", data := .seq vs.toArray } (.lst (ns.map V.int))) else none
  have inT : ∀ p ∈ cs, H p.2 = some (.tbl #[]) := fun p hp => if_pos (List.mem_map.mpr ⟨p, hp, rfl⟩)
  have aT : a ∉ cs.map (·.2) := fun z => by
    have q := (isT a z).symm.trans ha
    cases congrArg Obj.data (Option.some.inj q)
  have known : ∀ b u, H b = some u → (b ∈ cs.map (·.2) ∧ u = .tbl #[]) ∨ (b = a ∧ K.lookup a = none ∧ u = .frz { cls := .type "list", data := .seq vs.toArray } (.lst (ns.map V.int))) := fun b u z => by
    by_cases c0 : b ∈ cs.map (·.2)
    · exact .inl ⟨c0, (Option.some.inj ((if_pos c0).symm.trans z)).symm⟩
    · by_cases c : b = a ∧ K.lookup a = none
      · have q : H b = some (.frz { cls := .type "list", data := .seq vs.toArray } (.lst (ns.map V.int))) := (if_neg c0).trans (if_pos c)
        exact .inr ⟨c.1, c.2, (Option.some.inj (q.symm.trans z)).symm⟩
      · have q : H b = none := (if_neg c0).trans (if_neg c)
        rw [q] at z; cases z
  have rv := vals_ints hi
  have nl : (ns.map V.int).length ≤ sizeLine := by rw [List.length_map]; exact hl
  have script : SqL K H a (ns.map V.int) := by
    cases hk : K.lookup a with
    | none => exact .inl (.inr ⟨_, (if_neg aT).trans (if_pos ⟨rfl, hk⟩)⟩)
    | some o =>
      have e := (KX a o hk).symm.trans ha
      cases e
      refine .inr ⟨_, vs.toArray, _, hk, rfl, rfl, rfl, ?_, by simpa using rv⟩
      rw [List.size_toArray, hi.length]
      exact hl
  have hok : HOk P w H s.heap := fun b u q => by
    rcases known b u q with ⟨h1, rfl⟩ | ⟨rfl, _, rfl⟩
    · exact isT b h1
    · exact ⟨ha, nl, vs, _, rv, ha⟩
  have kp : ∀ {b : Addr} {o : Obj}, s.heap.get? b = some o → H b = none → (hidT s.heap H).get? b = some o := fun e n => hidT_get e n
  have noD : ∀ {b : Addr} {o : Obj}, s.heap.get? b = some o → (∀ vs n, o.data ≠ .seq vs n) → o.data ≠ .fields #[] → H b = none := fun {b o} e h1 h2 => by
    cases q : H b with
    | none => rfl
    | some u =>
      rcases known b u q with ⟨h3, _⟩ | ⟨rfl, _, _⟩
      · rw [isT b h3] at e; cases e; exact absurd rfl h2
      · rw [ha] at e; cases e; exact absurd rfl (h1 _ _)
  have kd : ∀ {b : Addr} {m : Str → Option Value}, s.heap.Ns b m → (hidT s.heap H).Ns b m := by
    rintro b m ⟨o, es, ep, e, d, r⟩
    exact ⟨o, es, ep, kp e (noD e (fun vs n z => by rw [d] at z; cases z) (fun z => by rw [d] at z; cases z)), d, r⟩
  have kk : K.In (hidT s.heap H) := fun b o e => kp (KX b o e) (by
    cases q : H b with
    | none => rfl
    | some u =>
      rcases known b u q with ⟨h3, _⟩ | ⟨rfl, z, _⟩
      · obtain ⟨p, hp, rfl⟩ := List.mem_map.mp h3
        rw [nT p hp] at e; cases e
      · rw [z] at e; cases e)
  have TB : ∀ p ∈ cs, LamX.TabB (hidT s.heap H) mg p.1 p.2 := fun p hp => by
    refine ⟨?_, ?_, fun z => ?_⟩
    · obtain ⟨o, us, file, tf, flags, tg, inF, text, tt, e1, r1, r2, r3, rs⟩ := C p hp
      refine ⟨o, us, file, tf, flags, tg, inF, text, tt, kp e1 (noD e1 (fun vs n z => by rw [r2] at z; cases z) fun z => ?_), r1, r2, r3, rs⟩
      rw [r2] at z
      cases z
      simp at r3
    · obtain ⟨bm, ob, b1, b2, b3, b4, b5, b6⟩ := hbm
      refine ⟨bm, ob, b1, b2, fun q => ?_, fun q => ?_, kp b3 (noD b3 (fun vs n z => by rw [b6] at z; cases z) fun z => by rw [b6] at z; cases z), b4, b5, b6⟩
      · obtain ⟨o, es, ep, e, hd, _⟩ := hns
        rw [q, e] at b3; cases b3
        rw [hd] at b6; cases b6
      · rw [q, hT p hp] at b3; cases b3; cases b6
    · obtain ⟨o, es, ep, e, hd, _⟩ := hns
      rw [z, hT p hp] at e; cases e; cases hd
  obtain ⟨mc, c1, c2⟩ := hlim
  have env : Env0 P w K mg (hidT s.heap H) callerA [] s H := by
    refine ⟨rfl, ⟨kk, kd hns, ⟨mb, kd hb, hbb⟩, ⟨mc, kd c1, c2⟩⟩, fun b o e => of_hidT e, Nat.le_of_eq (hidT_size _ _), trivial, ?_, hok, .of_eq hg⟩
    intro b hb
    exact absurd (show b ∈ ([] : List Addr) from hb) List.not_mem_nil
  obtain ⟨mm, hmm⟩ := hsy
  obtain ⟨oy, _, _, hoy, _⟩ := kd hmm
  have onlyT : ∀ b ps, H b = some (.tbl ps) → ∃ p ∈ cs, p.2 = b := fun b ps q => by
    rcases known b _ q with ⟨h3, _⟩ | ⟨_, _, z⟩
    · obtain ⟨p, hp, e⟩ := List.mem_map.mp h3; exact ⟨p, hp, e⟩
    · cases z
  refine codeAny_mono ((F _ kk (kd hns) ⟨oy, hoy⟩ TB).run callerA [] s H ⟨[.ref a], []⟩ [.ref a] [.ref a] _ _ hr rfl env (hbind s (.ref a)) (.cons rfl .nil) (hsp H inT onlyT script)) ?_
  rintro (ex | (_ | _ | _ | u)) s' h
  · exact False.elim h
  · exact False.elim h
  · exact False.elim h
  · exact False.elim h
  · obtain ⟨v, H', os, bare, un, hok', r', (q : v = .bl true)⟩ := h
    subst q
    obtain rfl : u = Value.bool true := r'
    have key : ∀ b o, b ∉ cs.map (·.2) → s.heap.get? b = some o → s'.heap.get? b = some o := fun b o nb e => by
      cases q : H b with
      | none => exact un.keep b o e q (fun z => absurd (show b ∈ ([] : List Addr) from z) List.not_mem_nil) List.not_mem_nil
      | some u =>
        rcases known b u q with ⟨h3, _⟩ | ⟨rfl, z, rfl⟩
        · exact absurd h3 nb
        · obtain ⟨e2, _⟩ := hok' _ _ (un.frzs _ _ _ q)
          rw [ha] at e
          cases e
          exact e2
    have grown : ∀ p ∈ cs, ∃ more : Array Value, s'.heap.get? p.2 = some { cls := .none, data := .fields more } := fun p hp => by
      obtain ⟨more, z⟩ := un.tbls p.2 #[] (inT p hp)
      exact ⟨_, hok' p.2 _ z⟩
    refine ⟨rfl, ⟨fun b o e => ?_, fun b o e => ?_⟩, os, bare⟩
    · by_cases hb : b ∈ cs.map (·.2)
      · obtain ⟨p, hp, rfl⟩ := List.mem_map.mp hb
        obtain ⟨more, hm⟩ := grown p hp
        rw [hT p hp] at e
        cases e
        exact .inr (.inl ⟨((C p hp).tab (hT p hp)).isCodeTable, rfl, #[], more, rfl, by rw [Array.empty_append]; exact hm⟩)
      · exact .inl (key b o hb e)
    · by_cases hb : b ∈ cs.map (·.2)
      · obtain ⟨p, hp, rfl⟩ := List.mem_map.mp hb
        obtain ⟨more, hm⟩ := grown p hp
        exact ⟨_, hm⟩
      · exact ⟨o, key b o hb e⟩
end DL

namespace DL
open PySem L2
abbrev Wp := List D → (D → Prop) → Prop
structure Frm (dr : Option Dr) (G H G' H' : Hp) : Prop where
  e1 : Ex G G'
  e2 : Ex G' H'
  dg : DrG dr G' H'
  kk : ∀ a o, H a = some o → NT o → Off dr a → H' a = some o
  ff : ∀ a o, H a = some o → NT o → G a = none → G' a = none ∨ Im o
  gt : ∀ a o, G' a = some o → NT o
structure Pre (dr : Option Dr) (G H : Hp) : Prop where
  ex : Ex G H
  dg : DrG dr G H
  gt : ∀ a o, G a = some o → NT o
theorem Good.frm {K : PySem.W.Frag} {dr : Option Dr} {om : Om} {τ : List Addr} {G H G' H' : Hp} {b : Bool} (g : Good K ⟨G, strip H, b, []⟩ dr om τ G' H') : Frm dr G H G' H' := ⟨g.a1, g.ex, g.drg, fun a o h n f => g.a2 a o (strip_of h n) f, fun a o h n q => (g.a3 a (by show strip H a ≠ none; rw [strip_of h n]; exact fun z => nomatch z) q).imp id fun ⟨o', e, im⟩ => (Option.some.inj ((strip_of h n).symm.trans e)).symm ▸ im, g.gt⟩
theorem Good.pre {K : PySem.W.Frag} {an : An} {dr : Option Dr} {om : Om} {τ : List Addr} {G H : Hp} (g : Good K an dr om τ G H) : Pre dr G H := ⟨g.ex, g.drg, g.gt⟩
theorem Pre.good {K : PySem.W.Frag} {dr : Option Dr} {G H : Hp} {b : Bool} (p : Pre dr G H) : Good K ⟨G, strip H, b, []⟩ dr [] [] G H := ⟨p.ex, rfl, List.nodup_nil, fun k p ds h => by simp at h, p.dg, Ex.refl G, fun _ _ h _ => (strip_some h).1, fun _ _ h => .inl h, fun k p h => by simp at h, p.gt, fun _ _ => strip_nt, fun t h => nomatch h⟩
theorem Frm.sub {dr : Option Dr} {G H H1 G' H' : Hp} (f : Frm dr G H G' H') (s : ∀ a o, H1 a = some o → H a = some o) : Frm dr G H1 G' H' := ⟨f.e1, f.e2, f.dg, fun a o h => f.kk a o (s a o h), fun a o h => f.ff a o (s a o h), f.gt⟩
def cut (H : Hp) (x : Addr) : Hp := fun a => if a = x then none else H a
theorem cut_some {H : Hp} {x a : Addr} {o : HO} (h : cut H x a = some o) : a ≠ x ∧ H a = some o := by
  unfold cut at h
  by_cases z : a = x
  · rw [if_pos z] at h; cases h
  · rw [if_neg z] at h; exact ⟨z, h⟩
theorem cut_of {H : Hp} {x a : Addr} {o : HO} (h : H a = some o) (n : a ≠ x) : cut H x a = some o := by unfold cut; rw [if_neg n]; exact h
def spD (K : PySem.W.Frag) (dr : Option Dr) (W : Wp) : Sp := fun vs H Q _ => ∃ G ds, Pre dr G H ∧ IsL K G vs ds ∧ W ds fun d => ∀ v G' H', Is K G' v d → Frm dr G H G' H' → Q v H'
def startR (N : List Str) (ds : List D) : Rho := ds.map (fun d => some (.v d)) ++ List.replicate (N.length - ds.length) none
structure Has (P : Program) (w : World) (K : PySem.W.Frag) (mg : Str → Option Value) (base : Heap) (dr : Option Dr) (k : Nat) (x : Str) (ps : List Str) (W : Wp) : Prop where
  ex : ∃ f fd, FnG P w K mg base CX0 k f fd ps (spD K dr W) ∧ mg x = some (.ref f) ∧ PySem.W.keepIn K (.ref f) = true ∧ Binds K fd ps []
  mono : ∀ ds Q Q', (∀ d, Q d → Q' d) → W ds Q → W ds Q'
section
variable {P : Program} {w : World} {K : PySem.W.Frag} {mg : Str → Option Value} {base : Heap} {dr : Option Dr} {N ps : List Str} {W : Wp} {k : Nat}
theorem env_start {G : Hp} {vs : List V} {ds : List D} (i : IsL K G vs ds) : EnvIs K G [] (L2.start N vs) (startR N ds) := fun j r e => by
  unfold startR at e
  unfold L2.start
  by_cases hj : j < ds.length
  · rw [List.getElem?_append_left (by simpa using hj), List.getElem?_map] at e
    rw [List.getElem?_append_left (by rw [List.length_map, i.length]; exact hj), List.getElem?_map]
    cases q : ds[j]? with
    | none => rw [q] at e; cases e
    | some d =>
      rw [q] at e
      cases e
      obtain ⟨v, h1, h2⟩ := i.get q
      exact ⟨v, by rw [h1]; rfl, .v h2⟩
  · rw [List.getElem?_append_right (by simpa using hj), List.getElem?_replicate] at e
    split at e <;> cases e
theorem fnD {x qual : Str} {st : Stmt} {f : Addr} {fd : FuncData} (F : FunA K x qual st f fd) (S : FnScope N ps (defScope st)) (hlen : ∀ ds Q, W ds Q → ds.length = ps.length)
    (hb : ∀ (cdv : Value) (A : Around) (outer : List Env) (s : Shared) (H : Hp) (E : XK) (an : An) (ds : List D) (post : D → Prop), Room k (A.deeper (PyProof.Rows.envOfC qual (defScope st) s.heap.objs.size f cdv)) → A.guards = some [] → W ds post →
      WSs (cxOf CX0 P w K mg base N qual (defScope st) f cdv A outer s H E).nox an dr (startR N ds) [] (defBody st) { nx := fun _ _ => post .non, rt := post }) : FnG P w K mg base CX0 (k + 1) f fd ps (spD K dr W) := by
  refine FnG.by F S (fun vs H Q E h => ?_) (fun cdv A outer s H vs Q E hr gd h => ?_)
  · obtain ⟨G, ds, _, i, h⟩ := h
    rw [i.length]
    exact hlen _ _ h
  · obtain ⟨G, ds, pr, i, h⟩ := h
    refine ⟨_, PSs.nox (hb cdv A outer s H E ⟨G, strip H, false, []⟩ ds _ hr gd h), [], G, pr.good, env_start i, ?_, fun σ' H' q => ?_, fun v H' q => ?_, fun σ' H' q => ?_, fun σ' H' q => ?_⟩
    · unfold L2.start startR
      rw [List.length_append, List.length_append, List.length_map, List.length_map, List.length_replicate, List.length_replicate, i.length]
    · obtain ⟨ρ', om', τ', G', p, g, _, gr, _⟩ := q
      exact p .non G' H' .non g.frm
    · obtain ⟨d, om', τ', G', p, i', g, gr⟩ := q
      rcases i' with i' | ⟨z, _⟩
      · exact p v G' H' i' g.frm
      · cases z
    · obtain ⟨_, _, _, _, p, _⟩ := q
      exact p
    · obtain ⟨_, _, _, _, p, _⟩ := q
      exact p
end
theorem Good.call {K : PySem.W.Frag} {an : An} {dr : Option Dr} {om : Om} {τ : List Addr} {G H G' H' : Hp} (g : Good K an dr om τ G H) (f : Frm dr G H G' H') : Good K an dr om τ G' H' where
  ex := f.e2
  len := g.len
  nd := g.nd
  own := fun j p ds h1 h2 => by
    obtain ⟨f1, f2, f3, vs, f4, f5⟩ := g.own j p ds h1 h2
    exact ⟨(f.ff p _ f4 f5.noTab.1 f1).resolve_right f5.notTup, f2, f3, vs, f.kk p _ f4 f5.noTab.1 f3, f5.mono f.e1⟩
  drg := f.dg
  a1 := g.a1.trans f.e1
  a2 := fun a o h1 h2 => f.kk a o (g.a2 a o h1 h2) (fun ps z => g.nt0 a ps (z ▸ h1)) h2
  a3 := fun a h1 h2 => by
    cases e : an.H0 a with
    | none => exact absurd e h1
    | some o =>
      by_cases hof : Off dr a
      · rcases g.a3 a h1 h2 with q | ⟨o2, q, im⟩
        · exact (f.ff a o (g.a2 a o e hof) (fun ps z => g.nt0 a ps (z ▸ e)) q).imp id fun im => ⟨o, rfl, im⟩
        · exact .inr ⟨o2, e.symm.trans q, im⟩
      · cases q : G' a with
        | none => exact .inl rfl
        | some u =>
          exfalso
          apply hof
          intro y hy
          obtain ⟨_, q1, q2, q3, _⟩ := f.dg y hy
          exact ⟨fun z => (by rw [z, q1] at q; cases q), fun z => (by rw [z, q2] at q; cases q), fun z => (by rw [z, q3] at q; cases q)⟩
  a4 := fun j p h1 => by
    obtain ⟨h0, o, h2, h3⟩ := g.a4 j p h1
    exact ⟨h0, o, f.kk p o h2 h3 h0, h3⟩
  gt := f.gt
  nt0 := g.nt0
  ti := g.ti
section
variable {X : Cx} {an : An} {dr : Option Dr} {ρ : Rho} {om : Om} {e e2 : Expr} {es : List Expr} {pos p : Pos} {Q : R → Om → Prop} {x : Str} {ps : List Str} {W : Wp} {k j : Nat}
theorem we_call (h : Has X.prog X.w X.K X.mg X.base dr k x ps W) (hr : Room j X.A) (gd : X.A.guards = some []) (hw : WA X an dr ρ om (e :: es) fun rs om1 => allV rs fun ds => W ds fun d => Q (.v d) om1) (hkj : k ≤ j := by decide) (hg : Gl X x := by rfl) (hdb : (x == ("__debug__" : Str)) = false := by decide)
    (he : starEach (e :: es) X.env = (false, eval e X.env) :: starEach es X.env := by rfl) (hpl : (backTo pos (starEach es X.env)).any (·.1) = false := by rfl) : WE X an dr ρ om (.Call (.Name x p) (e :: es) [] pos) Q := by
  obtain ⟨f, fd, F, hm, hk, hb⟩ := h.ex
  refine peI (pe_callG F (hr.mono hkj) gd hg hm hk hb pass0 (pa_u (an := an) (dr := dr)) hdb he hpl) fun σ H K' ⟨τ, G, g, n, k⟩ => uA_of hw g n fun vs rs om1 τ1 G1 H1 h1 w g1 gr1 n1 => ?_
  obtain ⟨ds, i, w⟩ := allV_is h1 w
  show spD X.K dr W (vs ++ []) H1 K' E0
  rw [List.append_nil]
  refine ⟨G1, ds, g1.pre, i, h.mono _ _ _ (fun d q v G' H' i' fr => ?_) w⟩
  exact k v _ om1 τ1 G' H' (.v i') q (g1.call fr) (gr1.trans ⟨fr.e1, fun _ _ h => h⟩)
def rB (X : Cx) (F : Wp) : List V → Hp → VK → Prop := fun xs H Q => ∃ an dr om τ G rs, Good X.K an dr om τ G H ∧ Paired (IsR X.K G τ) xs rs ∧ F (rs.map (vw om)) (Fin X.K an dr om τ G Q)
theorem we_blt {id : String} {F : Wp} (hc : CallR X (.builtin id) (rB X F)) (hm : X.mg x = none) (hv : bootBuiltins x = some (.builtin id)) (mono : ∀ ds Q Q', (∀ d, Q d → Q' d) → F ds Q → F ds Q') (h : WA X an dr ρ om (e :: es) fun rs om1 => F (rs.map (vw om1)) fun d => Q (.v d) om1)
    (hg : Gl X x := by rfl) (hn : x ≠ "__name__" := by decide) (hdb : (x == ("__debug__" : Str)) = false := by decide) (he : starEach (e :: es) X.env = (false, eval e X.env) :: starEach es X.env := by rfl) (hpl : (backTo pos (starEach es X.env)).any (·.1) = false := by rfl) :
    WE X an dr ρ om (.Call (.Name x p) (e :: es) [] pos) Q :=
  peI (pe_callB hc hg hm hv (pa_u (an := an) (dr := dr)) hn hdb he hpl) fun σ H K' ⟨τ, G, g, n, k⟩ => uA_of h g n fun vs rs om1 τ1 G1 H1 h1 w g1 gr1 n1 =>
    ⟨an, dr, om1, τ1, G1, rs, g1, h1, mono _ _ _ (fun d q v G' H' i' g' gr' => k v _ om1 τ1 G' H' (.v i') q g' (gr1.trans gr')) w⟩
theorem we_bty {id : String} {F : Wp} (hc : CallR X (.type id) (rB X F)) (hm : X.mg x = none) (hv : bootBuiltins x = some (.type id)) (mono : ∀ ds Q Q', (∀ d, Q d → Q' d) → F ds Q → F ds Q') (h : WA X an dr ρ om (e :: es) fun rs om1 => F (rs.map (vw om1)) fun d => Q (.v d) om1)
    (hg : Gl X x := by rfl) (hn : x ≠ "__name__" := by decide) (hdb : (x == ("__debug__" : Str)) = false := by decide) (he : starEach (e :: es) X.env = (false, eval e X.env) :: starEach es X.env := by rfl) (hpl : (backTo pos (starEach es X.env)).any (·.1) = false := by rfl) :
    WE X an dr ρ om (.Call (.Name x p) (e :: es) [] pos) Q :=
  peI (pe_callTy hc hg hm hv (pa_u (an := an) (dr := dr)) hn hdb he hpl) fun σ H K' ⟨τ, G, g, n, k⟩ => uA_of h g n fun vs rs om1 τ1 G1 H1 h1 w g1 gr1 n1 =>
    ⟨an, dr, om1, τ1, G1, rs, g1, h1, mono _ _ _ (fun d q v G' H' i' g' gr' => k v _ om1 τ1 G' H' (.v i') q g' (gr1.trans gr')) w⟩
def lenF : Wp := fun ds K => match ds with
  | [.lst xs] => K (.int (xs.length : Nat))
  | [.tup xs] => K (.int (xs.length : Nat))
  | [.str z] => z.length ≤ sizeLine ∧ K (.int (z.length : Nat))
  | _ => False
def absF : Wp := fun ds K => match ds with
  | [.int i] => K (.int (if i < 0 then -i else i))
  | _ => False
def intF : Wp := fun ds K => match ds with
  | [.int i] => K (.int i)
  | _ => False
def minF : Wp := fun ds K => match ds with
  | [.int i, .int j] => K (.int (if j < i then j else i))
  | _ => False
def maxF : Wp := fun ds K => match ds with
  | [.int i, .int j] => K (.int (if j > i then j else i))
  | _ => False
def listF : Wp := fun ds K => match ds with
  | [.lst xs] => K (.lst xs)
  | [.tup xs] => K (.lst xs)
  | _ => False
def tupF : Wp := fun ds K => match ds with
  | [.lst xs] => K (.tup xs)
  | [.tup xs] => K (.tup xs)
  | _ => False
def sumF : Wp := fun ds K => match ds with
  | [.lst xs] => ∃ ns : List Int, xs = ns.map D.int ∧ K (.int ns.sum)
  | _ => False
def allF : Wp := fun ds K => match ds with
  | [.lst xs] => ∃ ns : List Bool, xs = ns.map D.bl ∧ K (.bl (ns.all id))
  | _ => False
def anyF : Wp := fun ds K => match ds with
  | [.lst xs] => ∃ ns : List Bool, xs = ns.map D.bl ∧ K (.bl (ns.any id))
  | _ => False
theorem one_arg {K : PySem.W.Frag} {G : Hp} {τ : List Addr} {xs : List V} {rs : List R} {d : D} {om : Om} (h : Paired (IsR K G τ) xs rs) (e : rs.map (vw om) = [d]) : ∃ v r, xs = [v] ∧ rs = [r] ∧ IsR K G τ v r ∧ vw om r = d := by
  cases h with
  | nil => simp at e
  | cons a t =>
    cases t with
    | nil => exact ⟨_, _, rfl, rfl, a, by simpa using e⟩
    | cons _ _ => simp at e
theorem two_args {K : PySem.W.Frag} {G : Hp} {τ : List Addr} {xs : List V} {rs : List R} {d d' : D} {om : Om} (h : Paired (IsR K G τ) xs rs) (e : rs.map (vw om) = [d, d']) : ∃ v r v' r', xs = [v, v'] ∧ rs = [r, r'] ∧ IsR K G τ v r ∧ vw om r = d ∧ IsR K G τ v' r' ∧ vw om r' = d' := by
  cases h with
  | nil => simp at e
  | cons a t =>
    cases t with
    | nil => simp at e
    | cons b t =>
      cases t with
      | nil =>
        simp at e
        exact ⟨_, _, _, _, rfl, rfl, a, e.1, b, e.2⟩
      | cons _ _ => simp at e
theorem ints_inv {K : PySem.W.Frag} {G : Hp} : ∀ {vs : List V} (ns : List Int), IsL K G vs (ns.map D.int) → vs = ns.map V.int
  | _, [], .nil => rfl
  | _, _ :: ns, .cons a t => by rw [ints_inv ns t, a.int_inv]; rfl
theorem bls_inv {K : PySem.W.Frag} {G : Hp} : ∀ {vs : List V} (ns : List Bool), IsL K G vs (ns.map D.bl) → vs = ns.map V.bl
  | _, [], .nil => rfl
  | _, _ :: ns, .cons a t => by rw [bls_inv ns t, a.bl_inv]; rfl
theorem strs_inv {K : PySem.W.Frag} {G : Hp} : ∀ {vs : List V} (ns : List Str), IsL K G vs (ns.map D.str) → vs = ns.map V.str
  | _, [], .nil => rfl
  | _, _ :: ns, .cons a t => by rw [strs_inv ns t, a.str_inv]; rfl
theorem cb_len : CallR X (.builtin "len") (rB X lenF) := by
  intro pins s σ H xs us Q I r h
  obtain ⟨an, dr, om, τ, G, rs, g, hp, h⟩ := h
  unfold lenF at h
  split at h
  · rename_i ds e
    obtain ⟨v, r0, rfl, rfl, i, ev⟩ := one_arg hp e
    obtain ⟨p, vs, rfl, hp, il⟩ := vw_lst g i ev
    exact call_len_seq pins s σ H _ us Q I r ⟨p, vs, rfl, .inl (.inl (.inl hp)), by rw [il.length]; exact h.flat g (.int _)⟩
  · rename_i ds e
    obtain ⟨v, r0, rfl, rfl, i, ev⟩ := one_arg hp e
    obtain ⟨p, vs, rfl, hp, il⟩ := vw_tup g i ev
    exact call_len_seq pins s σ H _ us Q I r ⟨p, vs, rfl, .inr hp, by rw [il.length]; exact h.flat g (.int _)⟩
  · rename_i z e
    obtain ⟨v, r0, rfl, rfl, i, ev⟩ := one_arg hp e
    obtain rfl := vw_str g i ev
    exact call_len_str pins s σ H _ us Q I r ⟨_, rfl, h.1, h.2.flat g (.int _)⟩
  · exact h.elim
theorem cb_int : CallR X (.type "int") (rB X intF) := by
  intro pins s σ H xs us Q I r h
  obtain ⟨an, dr, om, τ, G, rs, g, hp, h⟩ := h
  unfold intF at h
  split at h
  · rename_i z e
    obtain ⟨v, r0, rfl, rfl, i, ev⟩ := one_arg hp e
    obtain rfl := vw_int g i ev
    exact call_int1 pins s σ H _ us Q I r (.inl ⟨_, rfl, h.flat g (.int _)⟩)
  · exact h.elim
theorem cb_min (hc : X.calm = true) : CallR X (.builtin "min") (rB X minF) := by
  intro pins s σ H xs us Q I r h
  obtain ⟨an, dr, om, τ, G, rs, g, hp, h⟩ := h
  unfold minF at h
  split at h
  · rename_i z z' e
    obtain ⟨v, r0, v', r1, rfl, rfl, i, ev, i', ev'⟩ := two_args hp e
    obtain rfl := vw_int g i ev
    obtain rfl := vw_int g i' ev'
    exact call_min2 hc pins s σ H _ us Q I r ⟨_, _, rfl, h.flat g (.int _)⟩
  · exact h.elim
theorem cb_list : CallR X (.type "list") (rB X listF) := by
  intro pins s σ H xs us Q I r h
  obtain ⟨an, dr, om, τ, G, rs, g, hp, h⟩ := h
  unfold listF at h
  split at h
  · rename_i ds e
    obtain ⟨v, r0, rfl, rfl, i, ev⟩ := one_arg hp e
    obtain ⟨p, vs, rfl, hp, il⟩ := vw_lst g i ev
    exact call_list_of pins s σ H _ us Q I r ⟨p, vs, rfl, .inl (.inl (.inl hp)), fun l hl => h.lst g il l hl⟩
  · rename_i ds e
    obtain ⟨v, r0, rfl, rfl, i, ev⟩ := one_arg hp e
    obtain ⟨p, vs, rfl, hp, il⟩ := vw_tup g i ev
    exact call_list_of pins s σ H _ us Q I r ⟨p, vs, rfl, .inr hp, fun l hl => h.lst g il l hl⟩
  · exact h.elim
theorem cb_tup : CallR X (.type "tuple") (rB X tupF) := by
  intro pins s σ H xs us Q I r h
  obtain ⟨an, dr, om, τ, G, rs, g, hp, h⟩ := h
  unfold tupF at h
  split at h
  · rename_i ds e
    obtain ⟨v, r0, rfl, rfl, i, ev⟩ := one_arg hp e
    obtain ⟨p, vs, rfl, hp, il⟩ := vw_lst g i ev
    exact call_tuple_of pins s σ H _ us Q I r ⟨p, vs, rfl, .inl ⟨.inl (.inl hp), fun l hl => h.tup g il l hl⟩⟩
  · rename_i ds e
    obtain ⟨v, r0, rfl, rfl, i, ev⟩ := one_arg hp e
    have n1 := vw_not g i ev rfl
    obtain ⟨p, vs, rfl, hp, il⟩ := vw_tup g i ev
    exact call_tuple_of pins s σ H _ us Q I r ⟨p, vs, rfl, .inr ⟨hp, h.flat g n1⟩⟩
  · exact h.elim
theorem cb_all (hc : X.calm = true) : CallR X (.builtin "all") (rB X allF) := by
  intro pins s σ H xs us Q I r h
  obtain ⟨an, dr, om, τ, G, rs, g, hp, h⟩ := h
  unfold allF at h
  split at h
  · rename_i ds e
    obtain ⟨v, r0, rfl, rfl, i, ev⟩ := one_arg hp e
    obtain ⟨p, vs, rfl, hp, il⟩ := vw_lst g i ev
    obtain ⟨ns, rfl, h⟩ := h
    obtain rfl := bls_inv ns il
    exact cr_all hc pins s σ H _ us Q I r ⟨p, ns, rfl, .inl (.inl hp), h.flat g (.bl _)⟩
  · exact h.elim
end
end DL

namespace DL
open PySem L2
def tyN : D → Option String
  | .non => some "NoneType" | .bl _ => some "bool" | .int _ => some "int" | .str _ => some "str" | .lst _ => some "list" | .tup _ => some "tuple" | .dic _ => some "dict" | _ => none
def isT (x : D) (T : String) : Bool := match x with
  | .non => false
  | .bl _ => T == "bool" || T == "int"
  | .int _ => T == "int"
  | .str _ => T == "str"
  | .lst _ => T == "list"
  | .tup _ => T == "tuple"
  | .dic _ => T == "dict"
  | _ => false
def Kn (T : String) : Prop := T = "int" ∨ T = "bool" ∨ T = "str" ∨ T = "list" ∨ T = "tuple" ∨ T = "dict"
theorem kit_known {x : D} {n T : String} (h : tyN x = some n) (k : Kn T) : kitB n T = some (isT x T) := by
  cases x <;> simp only [tyN, Option.some.injEq, reduceCtorEq] at h <;> subst h <;> rcases k with rfl | rfl | rfl | rfl | rfl | rfl <;> simp only [isT] <;> decide +kernel
def isAny (x : D) : List D → Bool
  | [] => false
  | .ty T :: r => isT x T || isAny x r
  | _ :: r => isAny x r
def KnAll : List D → Prop
  | [] => True
  | .ty T :: r => Kn T ∧ KnAll r
  | _ => False
def isiF : Wp := fun ds K => match ds with
  | [x, .ty T] => (tyN x).isSome = true ∧ Kn T ∧ K (.bl (isT x T))
  | [x, .tup ts] => (tyN x).isSome = true ∧ KnAll ts ∧ K (.bl (isAny x ts))
  | _ => False
section
variable {X : Cx} {an : An} {dr : Option Dr} {ρ : Rho} {om : Om} {e e2 o : Expr} {es : List Expr} {pos p : Pos} {Q : R → Om → Prop} {τ : List Addr} {G H : Hp}
theorem vw_ty {K : PySem.W.Frag} {v : V} {r : R} {d : D} {n : String} (g : Good K an dr om τ G H) (h : IsR K G τ v r) (e : vw om r = d) (t : tyN d = some n) : TyX K H v (.type n) := by
  cases d with
  | lst ds =>
    obtain ⟨p, vs, rfl, hp, _⟩ := vw_lst g h e
    cases t
    exact .base (.lst hp)
  | tup ds =>
    obtain ⟨p, vs, rfl, hp, _⟩ := vw_tup g h e
    cases t
    rcases hp with (hp | ⟨_, hp⟩) | ⟨o, _, _, hp, c, _⟩
    · exact .base (.tup hp)
    · exact .fTuple hp
    · exact .kTuple hp c
  | dic ds =>
    obtain ⟨p, vs, rfl, hp, _⟩ := vw_dic g h e
    cases t
    rcases hp with hp | ⟨ob, hp⟩
    · exact .base (.dK hp)
    · exact .fDict hp
  | non =>
    obtain rfl := (vw_not g h e rfl).non_inv
    cases t
    exact .base .non
  | bl b =>
    obtain rfl := vw_bl g h e
    cases t
    exact .base (.bl _)
  | int b =>
    obtain rfl := vw_int g h e
    cases t
    exact .base (.int _)
  | str b =>
    obtain rfl := vw_str g h e
    cases t
    exact .base (.str _)
  | obj b => cases t
  | lam b c => cases t
  | din b c d => cases t
  | dky b c d => cases t
  | lamP b c => cases t
  | ty b => cases t
  | dead => cases t
  | dit _ => cases t
  | ins _ _ => cases t
  | exc _ _ => cases t
  | own _ => cases t
theorem knAll_cons {d : D} {r : List D} (k : KnAll (d :: r)) : ∃ T, d = .ty T ∧ Kn T ∧ KnAll r := by
  cases d with
  | ty T => exact ⟨T, rfl, k.1, k.2⟩
  | _ => exact False.elim k
theorem kn_all {K : PySem.W.Frag} {n : String} {x : D} (t : tyN x = some n) : ∀ {ts : List D} {vs : List V}, IsL K G vs ts → KnAll ts → ∃ us, Paired ClsV vs us ∧ PySem.W.kitAny K (.type n) us = some (isAny x ts) := by
  intro ts
  induction ts with
  | nil =>
    intro vs q _
    cases q
    exact ⟨[], .nil, rfl⟩
  | cons d r ih =>
    intro vs q k
    obtain ⟨T, rfl, k1, k2⟩ := knAll_cons k
    cases q with
    | @cons v0 _ _ _ h q =>
      obtain ⟨us, h1, h2⟩ := ih q k2
      obtain rfl : v0 = V.ty T := by
        cases h
        rfl
      refine ⟨_, .cons (.ty T) h1, kitAny_cons (kit_ty (kit_known t k1)) (fun z => ?_) fun z => ?_⟩
      · rw [h2]; simp only [isAny]; rw [z]; rfl
      · simp only [isAny]; rw [z]; rfl
theorem cb_isi : CallR X (.builtin "isinstance") (rB X isiF) := by
  intro pins s σ H xs us Q I r h
  obtain ⟨an, dr, om, τ, G, rs, g, hp, h⟩ := h
  unfold isiF at h
  split at h
  · rename_i x T e
    obtain ⟨v, r0, v', r1, rfl, rfl, i, ev, i', ev'⟩ := two_args hp e
    obtain ⟨n, hn⟩ := Option.isSome_iff_exists.mp h.1
    have i2 := vw_not g i' ev' rfl
    cases i2
    exact call_isi pins s σ H _ us Q I r ⟨v, .ty T, .type n, .type T, _, rfl, .ty T, vw_ty g i ev hn, kit_ty (kit_known hn h.2.1), h.2.2.flat g (.bl _)⟩
  · rename_i x ts e
    obtain ⟨v, r0, v', r1, rfl, rfl, i, ev, i', ev'⟩ := two_args hp e
    obtain ⟨n, hn⟩ := Option.isSome_iff_exists.mp h.1
    have i2 := vw_not g i' ev' rfl
    cases i2 with
    | tup hq il =>
      obtain ⟨us', k1, k2⟩ := kn_all (K := X.K) hn il h.2.1
      exact call_isiT pins s σ H _ us Q I r ⟨v, _, _, .type n, us', _, rfl, g.ex _ _ hq, k1, vw_ty g i ev hn, k2, h.2.2.flat g (.bl _)⟩
    | tup0 hq =>
      obtain ⟨us', k1, k2⟩ := kn_all (K := X.K) (G := G) hn (.nil) h.2.1
      cases k1
      obtain ⟨⟨oc, od, dt, sl⟩, m, h1, h2, h3⟩ := hq
      simp only at h2 h3
      subst h2 h3
      exact call_isiK pins s σ H _ us Q I r ⟨v, _, od, [], m, sl, .type n, _, rfl, h1, vw_ty g i ev hn, k2, h.2.2.flat g (.bl _)⟩
  · exact h.elim
end
end DL

namespace DL
open PySem L2
def shw (d : D) : Str := (toP d).shown
def rprF : Wp := fun ds K => match ds with
  | [.lst xs] => (toP (.lst xs)).showable = true ∧ shp (.lst xs) ∧ (shw (.lst xs)).length ≤ sizeLine ∧ K (.str (shw (.lst xs)))
  | [.tup xs] => (toP (.tup xs)).showable = true ∧ shp (.tup xs) ∧ (shw (.tup xs)).length ≤ sizeLine ∧ K (.str (shw (.tup xs)))
  | [.bl b] => K (.str (if b then "True" else "False"))
  | [.non] => K (.str "None")
  | [.int i] => i.natAbs.log2 < 1920 ∧ K (.str (toString i))
  | [.str x] => (reprText x).length ≤ sizeLine ∧ K (.str (reprText x))
  | _ => False
section
variable {X : Cx}
theorem repr_ref {pins : List (Addr × Obj)} {s : Shared} {σ : L2.St} {H : Hp} {Q : VK} {a : Addr} {d : D} (gd : X.A.guards = some []) (hu : X.A.units + 66 < cLine) (I : Inv X pins σ H s) (h1 : (toP d).showable = true) (h2 : shp d) (h3 : (shw d).length ≤ sizeLine) (dp : Dp X.K H (.ref a) (toP d)) (q : Q (.str (shw d)) H) :
    wpAny (model X.prog X.w) X.A (call (.builtin "repr") [.ref a]) (EP X pins σ Q) X.xe s := by
  obtain ⟨as, rd⟩ := Dp.reads I _ _ (.ref a) dp rfl
  have nd := PyData.hasDict_of_canLay _ (SeqAt.canLay_of_shaped h2)
  have dd := SeqAt.depth_of_shaped h2
  refine PySem.repr_of_reads' rd h1 (fun z => by rw [nd] at z; cases z) gd (by omega) (fun _ _ e => e) (fun h' u tk hk => ?_) h3
  exact ⟨.str _, H, I.kept (t' := tk) hk, ⟨u, rfl⟩, q⟩
theorem cb_repr (gd : X.A.guards = some []) (hu : X.A.units + 66 < cLine) : CallR X (.builtin "repr") (rB X rprF) := by
  intro pins s σ H xs us Q I r h
  obtain ⟨an, dr, om, τ, G, rs, g, hp, h⟩ := h
  unfold rprF at h
  split at h
  · rename_i ds e
    obtain ⟨v, r0, rfl, rfl, i, ev⟩ := one_arg hp e
    have dp := vw_dp g i ev h.2.1
    obtain ⟨p, vs, rfl, _, _⟩ := vw_lst g i ev
    cases r with
    | cons r rr =>
      cases rr
      cases r
      exact repr_ref gd hu I h.1 h.2.1 h.2.2.1 dp (h.2.2.2.flat g (.str _))
  · rename_i ds e
    obtain ⟨v, r0, rfl, rfl, i, ev⟩ := one_arg hp e
    have dp := vw_dp g i ev h.2.1
    obtain ⟨p, vs, rfl, _, _⟩ := vw_tup g i ev
    cases r with
    | cons r rr =>
      cases rr
      cases r
      exact repr_ref gd hu I h.1 h.2.1 h.2.2.1 dp (h.2.2.2.flat g (.str _))
  · rename_i ds e
    obtain ⟨v, r0, rfl, rfl, i, ev⟩ := one_arg hp e
    obtain rfl := vw_bl g i ev
    cases r with
    | cons r rr =>
      cases rr
      cases r
      exact PySem.P.repr_of_bool ⟨.str _, H, I.tok _, ⟨_, rfl⟩, h.flat g (.str _)⟩
  · rename_i e
    obtain ⟨v, r0, rfl, rfl, i, ev⟩ := one_arg hp e
    obtain rfl := (vw_not g i ev rfl).non_inv
    cases r with
    | cons r rr =>
      cases rr
      cases r
      exact PySem.P.repr_of_none ⟨.str _, H, I.tok _, ⟨_, rfl⟩, h.flat g (.str _)⟩
  · rename_i ds e
    obtain ⟨v, r0, rfl, rfl, i, ev⟩ := one_arg hp e
    obtain rfl := vw_int g i ev
    cases r with
    | cons r rr =>
      cases rr
      obtain ⟨t, rfl⟩ := r
      exact PySem.P.repr_of_int h.1 ⟨.str _, H, I.tok _, ⟨_, rfl⟩, h.2.flat g (.str _)⟩
  · rename_i ds e
    obtain ⟨v, r0, rfl, rfl, i, ev⟩ := one_arg hp e
    obtain rfl := vw_str g i ev
    cases r with
    | cons r rr =>
      cases rr
      obtain ⟨t, rfl⟩ := r
      exact PySem.P.repr_of_str ⟨.str _, H, I.tok _, ⟨_, rfl⟩, h.2.flat g (.str _)⟩ h.1
  · exact h.elim
def ixD (x y : D) (K : D → Prop) : Prop := match x, y with
  | .lst xs, .int i => ∃ d, atI xs i = some d ∧ K d
  | .tup xs, .int i => ∃ d, atI xs i = some d ∧ K d
  | .str z, .int i => z.length ≤ sizeLine ∧ ∃ c, atI z.cps.toList i = some c ∧ K (.str ⟨#[c]⟩)
  | _, _ => False
theorem atI_is {K : PySem.W.Frag} {G : Hp} {vs : List V} {ds : List D} {i : Int} {d : D} (h : IsL K G vs ds) (e : atI ds i = some d) : ∃ v, atI vs i = some v ∧ Is K G v d := by
  unfold atI at e ⊢
  rw [h.length]
  cases q : ixN ds.length i with
  | none => rw [q] at e; cases e
  | some j =>
    rw [q] at e
    exact h.get e
def rIxD (X : Cx) : R2 := fun x y H Q => ∃ an dr om τ G ra rb, Good X.K an dr om τ G H ∧ IsR X.K G τ x ra ∧ IsR X.K G τ y rb ∧ ixD (vw om ra) (vw om rb) (Fin X.K an dr om τ G Q)
theorem ix_D : IxR X (rIxD X) := by
  intro ea eb pins s σ H x y v u Q I rx ry h hs
  refine ix_seq ea eb pins s σ H x y v u Q I rx ry ?_ hs
  obtain ⟨an, dr, om, τ, G, ra, rb, g, ha, hb, h⟩ := h
  unfold ixD at h
  split at h
  · rename_i xs i e1 e2
    obtain ⟨p, vs, rfl, hp, il⟩ := vw_lst g ha e1
    obtain rfl := vw_int g hb e2
    obtain ⟨d, ed, h⟩ := h
    obtain ⟨w, ew, iw⟩ := atI_is il ed
    exact .inl ⟨p, vs, i, w, rfl, rfl, .inl (.inl hp), ew, h.flat g iw⟩
  · rename_i xs i e1 e2
    obtain ⟨p, vs, rfl, hp, il⟩ := vw_tup g ha e1
    obtain rfl := vw_int g hb e2
    obtain ⟨d, ed, h⟩ := h
    obtain ⟨w, ew, iw⟩ := atI_is il ed
    exact .inr (.inl ⟨p, vs, i, w, rfl, rfl, hp, ew, h.flat g iw⟩)
  · rename_i z i e1 e2
    obtain rfl := vw_str g ha e1
    obtain rfl := vw_int g hb e2
    obtain ⟨hz, c, ec, h⟩ := h
    exact .inr (.inr ⟨z, i, c, rfl, rfl, hz, ec, h.flat g (.str _)⟩)
  · exact h.elim
theorem ixD_imp {x y : D} {P P' : D → Prop} (h : ixD x y P) (i : ∀ d, P d → P' d) : ixD x y P' := by
  unfold ixD at h ⊢
  split at h
  · obtain ⟨d, e, h⟩ := h; exact ⟨d, e, i _ h⟩
  · obtain ⟨d, e, h⟩ := h; exact ⟨d, e, i _ h⟩
  · obtain ⟨z, d, e, h⟩ := h; exact ⟨z, d, e, i _ h⟩
  · exact h.elim
variable {an : An} {dr : Option Dr} {ρ : Rho} {om : Om} {e a b o : Expr} {es : List Expr} {pos p : Pos} {Q : R → Om → Prop}
def cutD (xs : List D) (lo hi : Option Int) : List D := (xs.drop (HT.sIx xs.length 0 lo)).take (HT.sIx xs.length xs.length hi - HT.sIx xs.length 0 lo)
def slD (x : D) (lo hi : Option Int) (K : D → Prop) : Prop := match x with
  | .lst xs => K (.lst (cutD xs lo hi))
  | .tup xs => K (.tup (cutD xs lo hi))
  | .str z => z.length ≤ sizeLine ∧ K (.str (cutS z lo hi))
  | _ => False
theorem cut_is {K : PySem.W.Frag} {G : Hp} {vs : List V} {ds : List D} {lo hi : Option Int} (h : IsL K G vs ds) : IsL K G (cutV vs lo hi) (cutD ds lo hi) := by
  unfold cutV cutD
  rw [h.length]
  exact (h.drop _).take _
def rSlD (X : Cx) : V → Option Int → Option Int → Hp → VK → Prop := fun x lo hi H Q => ∃ an dr om τ G ra, Good X.K an dr om τ G H ∧ IsR X.K G τ x ra ∧ slD (vw om ra) lo hi (Fin X.K an dr om τ G Q)
theorem sl_D : SlR X (rSlD X) := by
  intro pins s σ H x v vl vu lo hi sl Q I rx hs pl pu q
  refine (SlR.or (SlR.or sl_list sl_tupA) sl_str) pins s σ H x v vl vu lo hi sl Q I rx hs pl pu ?_
  obtain ⟨an, dr, om, τ, G, ra, g, ha, h⟩ := q
  unfold slD at h
  split at h
  · rename_i xs e1
    obtain ⟨p, vs, rfl, hp, il⟩ := vw_lst g ha e1
    exact .inl (.inl ⟨p, vs, rfl, .inl (.inl hp), fun l hl => h.lst g (cut_is il) l hl⟩)
  · rename_i xs e1
    have n1 := vw_not g ha e1 rfl
    obtain ⟨p, vs, rfl, hp, il⟩ := vw_tup g ha e1
    refine .inl (.inr ⟨p, vs, rfl, hp, fun z => ?_, fun _ l hl => h.tup g (cut_is il) l hl⟩)
    have e : cutD xs lo hi = xs := by
      unfold cutD
      rw [← il.length, z.1, z.2, il.length]
      simp
    rw [e] at h
    exact h.flat g n1
  · rename_i z e1
    obtain rfl := vw_str g ha e1
    exact .inr ⟨z, rfl, h.1, h.2.flat g (.str _)⟩
  · exact h.elim
theorem slD_imp {x : D} {lo hi : Option Int} {P P' : D → Prop} (h : slD x lo hi P) (i : ∀ d, P d → P' d) : slD x lo hi P' := by
  unfold slD at h ⊢
  split at h
  all_goals first | exact h.elim | exact i _ h | exact ⟨h.1, i _ h.2⟩
def WO (X : Cx) (an : An) (dr : Option Dr) (ρ : Rho) (om : Om) (e : Option Expr) (Q : Option Int → Om → Prop) : Prop := match e with
  | none => Q none om
  | some e => WE X an dr ρ om e fun r om1 => intR r fun i => Q (some i) om1
def uO (X : Cx) (an : An) (dr : Option Dr) (e : Option Expr) : TO := fun σ H K' => ∃ ρ om Q τ G, WO X an dr ρ om e Q ∧ Good X.K an dr om τ G H ∧ EnvIs X.K G τ σ ρ ∧ ∀ i om' τ' G' H', Q i om' → Good X.K an dr om' τ' G' H' → Grow G τ G' τ' → K' i H'
theorem po_u {e : Option Expr} : PO X e (uO X an dr e) := by
  cases e with
  | none => exact ⟨fun pins s σ H K' I ⟨ρ, om, Q, τ, G, w, g, n, k⟩ => po_none.run pins s σ H K' I (k none om τ G H w g (Grow.refl G τ))⟩
  | some e =>
    refine ⟨fun pins s σ H K' I ⟨ρ, om, Q, τ, G, w, g, n, k⟩ => (po_some (pe_u (an := an) (dr := dr))).run pins s σ H K' I ?_⟩
    exact uE_of w g n fun v r om1 τ1 G1 H1 h1 w1 g1 gr1 n1 => by
      obtain ⟨i, rfl, _, w1⟩ := intR_is h1 w1
      exact ⟨i, rfl, k _ om1 τ1 G1 H1 w1 g1 gr1⟩
theorem we_sl {lo hi : Option Expr} {p2 : Pos} (h : WE X an dr ρ om a fun ra om1 => WO X an dr ρ om1 lo fun l om2 => WO X an dr ρ om2 hi fun u om3 => slD (vw om3 ra) l u fun d => Q (.v d) om3) : WE X an dr ρ om (.Subscript a (.Slice lo hi none p2) pos) Q :=
  peI (pe_slice sl_D (pe_u (an := an) (dr := dr)) (po_u (an := an) (dr := dr)) (po_u (an := an) (dr := dr))) fun σ H K' ⟨τ, G, g, n, k⟩ =>
    uE_of h g n fun v r om1 τ1 G1 H1 h1 w g1 gr1 n1 => ⟨ρ, om1, _, τ1, G1, w, g1, n1, fun l om2 τ2 G2 H2 w2 g2 gr2 => ⟨ρ, om2, _, τ2, G2, w2, g2, n1.mono gr2, fun u om3 τ3 G3 H3 w3 g3 gr3 =>
      ⟨an, dr, om3, τ3, G3, r, g3, h1.mono (gr2.trans gr3), slD_imp w3 fun d q v' G' H' i' g' gr' => k v' _ om3 τ3 G' H' (.v i') q g' (((gr1.trans gr2).trans gr3).trans gr')⟩⟩⟩
theorem tyV_l {K : PySem.W.Frag} {H : Hp} {q : Addr} {vs : List V} (h : H q = some (.lst vs)) : tyV K "list" (.ref q) H := .inl ⟨rfl, vs, .inl (.inl h)⟩
theorem we_append {apos : Pos} (h : WE X an dr ρ om o fun ro om1 => ∃ k, ro = .o k ∧ (∃ ds, om1[k]? = some (some (.lst ds))) ∧ WE X an dr ρ om1 e fun r om2 => ∃ d ds, r = .v d ∧ om2[k]? = some (some (.lst ds)) ∧ ds.length < sizeLine ∧ Q (.v .non) (om2.set k (some (.lst (ds ++ [d])))))
    (hbase : attributeBase o "append" X.env (eval o X.env) = eval o X.env := by rfl) (hfew : ((backTo pos (starEach [e] X.env)).all (fun x => !x.1) && (backToKw pos (keywordEach [] X.env)).all (fun x => x.1.isSome)
      && decide ([e].length + ([] : List Keyword).length + (if ([] : List Keyword).isEmpty then 0 else 1) < 30)) = true := by rfl)
    (hline : (apos.endLine == pos.line) = true := by rfl) (hs : starEach [e] X.env = (false, eval e X.env) :: starEach [] X.env := by rfl) (hpl : (backTo pos (starEach [] X.env)).any (·.1) = false := by rfl) :
    WE X an dr ρ om (.Call (.Attribute o "append" apos) [e] [] pos) Q :=
  peI (pe_bm PySem.F.plainAttrs_list PySem.F.slot_list_append PySem.F.type_list_append mt_append (pe_u (an := an) (dr := dr)) (pa_cons (pe_u (an := an) (dr := dr)) pa_nil hs) hbase hfew hline hs hpl) fun σ H K' ⟨τ, G, g, n, kk⟩ =>
    uE_of h g n fun v r om1 τ1 G1 H1 h1 w g1 gr1 n1 => by
      obtain ⟨k, rfl, ⟨ds1, ho1⟩, w⟩ := w
      cases h1 with
      | @o a _ h1 =>
        obtain ⟨_, _, _, _, e1, vs1, rfl, _⟩ := g1.own k a (.lst ds1) h1 ho1
        refine ⟨tyV_l e1, uE_of w g1 n1 fun v2 r2 om2 τ2 G2 H2 h2 w2 g2 gr2 n2 => ?_⟩
        obtain ⟨d, ds, rfl, ho, hz, q⟩ := w2
        have hk := gr2.pre _ _ h1
        obtain ⟨_, _, _, _, e4, vs, rfl, e5⟩ := g2.own k a (.lst ds) hk ho
        cases h2 with
        | v h2 => exact ⟨a, vs, v2, rfl, rfl, e4, by rw [e5.length]; exact hz, kk _ _ _ τ2 G2 _ (.v .non) q (g2.write hk ho (e5.append (.cons h2 .nil))) (gr1.trans gr2)⟩
end
end DL

namespace DL
open PySem L2
theorem ifE {t : Bool} {A B : Prop} (h1 : t = true → A) (h2 : t = false → B) : if t = true then A else B := by
  cases t
  · rw [if_neg Bool.false_ne_true]; exact h2 rfl
  · rw [if_pos rfl]; exact h1 rfl
theorem ifF {t : Bool} {A B : Prop} (e : t = false) (h : B) : if t = true then A else B := by rw [if_neg (by rw [e]; exact Bool.false_ne_true)]; exact h
theorem isiF_mono : ∀ ds Q Q', (∀ d, Q d → Q' d) → isiF ds Q → isiF ds Q' := fun ds Q Q' i h => by
  unfold isiF at h ⊢
  split at h
  · exact ⟨h.1, h.2.1, i _ h.2.2⟩
  · exact ⟨h.1, h.2.1, i _ h.2.2⟩
  · exact h.elim
theorem lenF_mono : ∀ ds Q Q', (∀ d, Q d → Q' d) → lenF ds Q → lenF ds Q' := fun ds Q Q' i h => by
  unfold lenF at h ⊢
  split at h
  all_goals first | exact h.elim | exact i _ h | exact ⟨h.1, i _ h.2⟩
theorem intF_mono : ∀ ds Q Q', (∀ d, Q d → Q' d) → intF ds Q → intF ds Q' := fun ds Q Q' i h => by
  unfold intF at h ⊢
  split at h
  all_goals first | exact h.elim | exact i _ h
theorem minF_mono : ∀ ds Q Q', (∀ d, Q d → Q' d) → minF ds Q → minF ds Q' := fun ds Q Q' i h => by
  unfold minF at h ⊢
  split at h
  all_goals first | exact h.elim | exact i _ h
theorem listF_mono : ∀ ds Q Q', (∀ d, Q d → Q' d) → listF ds Q → listF ds Q' := fun ds Q Q' i h => by
  unfold listF at h ⊢
  split at h
  all_goals first | exact h.elim | exact i _ h
theorem tupF_mono : ∀ ds Q Q', (∀ d, Q d → Q' d) → tupF ds Q → tupF ds Q' := fun ds Q Q' i h => by
  unfold tupF at h ⊢
  split at h
  all_goals first | exact h.elim | exact i _ h
theorem allF_mono : ∀ ds Q Q', (∀ d, Q d → Q' d) → allF ds Q → allF ds Q' := fun ds Q Q' i h => by
  unfold allF at h ⊢
  split at h
  · obtain ⟨n, e, h⟩ := h; exact ⟨n, e, i _ h⟩
  · exact h.elim
section
variable {X : Cx} {an : An} {dr : Option Dr} {ρ : Rho} {om : Om} {e a b o : Expr} {es : List Expr} {pos p : Pos} {Q : R → Om → Prop}
theorem we_ty {x : Str} {T : String} (hm : X.mg x = none) (hv : bootBuiltins x = some (.type T)) (q : Q (.v (.ty T)) om) (hg : Gl X x := by rfl) (hn : x ≠ "__name__" := by decide) (hd : (x == ("__debug__" : Str)) = false := by decide) : WE X an dr ρ om (.Name x pos) Q :=
  we_bltn (v := .ty T) hm hv rfl (fun _ => .ty T) hg q hn hd
theorem boot_bool : bootBuiltins "bool" = some (.type "bool") := by decide +kernel
theorem boot_dict : bootBuiltins "dict" = some (.type "dict") := by decide +kernel
theorem we_gstr {x z : Str} (hm : ∃ t, X.mg x = some (.str z t)) (q : Q (.v (.str z)) om) (hg : Gl X x := by rfl) (hd : (x == ("__debug__" : Str)) = false := by decide) : WE X an dr ρ om (.Name x pos) Q := by
  obtain ⟨t, hm⟩ := hm
  exact we_glob (v := .str z) hm ⟨t, rfl⟩ (fun _ => .str z) hg q hd
theorem we_gint {x : Str} {i : Int} (hm : ∃ t, X.mg x = some (.int i t)) (q : Q (.v (.int i)) om) (hg : Gl X x := by rfl) (hd : (x == ("__debug__" : Str)) = false := by decide) : WE X an dr ρ om (.Name x pos) Q := by
  obtain ⟨t, hm⟩ := hm
  exact we_glob (v := .int i) hm ⟨t, rfl⟩ (fun _ => .int i) hg q hd
theorem we_join {apos : Pos} (h : WE X an dr ρ om o fun ro om1 => ∃ z : Str, ro = .v (.str z) ∧ WE X an dr ρ om1 e fun r om2 => ∃ ys : List Str, vw om2 r = .lst (ys.map D.str) ∧ (ys.map (·.length)).sum + ys.length * z.length ≤ 16777216 ∧ Q (.v (.str (Txt.join z ys))) om2)
    (hs : starEach [e] X.env = [(false, eval e X.env)] := by rfl) (hbase : attributeBase o "join" X.env (eval o X.env) = eval o X.env := by rfl) (hline : (apos.endLine == pos.line) = true := by rfl) : WE X an dr ρ om (.Call (.Attribute o "join" apos) [e] [] pos) Q :=
  peI (pe_join (pe_u (an := an) (dr := dr)) (pe_u (an := an) (dr := dr)) hs hbase hline) fun σ H K' ⟨τ, G, g, n, k⟩ => uE_of h g n fun v r om1 τ1 G1 H1 h1 w g1 gr1 n1 => by
    obtain ⟨z, rfl, w⟩ := w
    cases h1 with
    | v h1 =>
      obtain rfl := h1.str_inv
      refine ⟨⟨_, rfl⟩, uE_of w g1 n1 fun v2 r2 om2 τ2 G2 H2 h2 w2 g2 gr2 n2 => ?_⟩
      obtain ⟨ys, ev, hz, q⟩ := w2
      obtain ⟨p, vs, rfl, hp, il⟩ := vw_lst g2 h2 ev
      obtain rfl := strs_inv ys il
      exact ⟨z, p, ys, rfl, rfl, .inl (.inl (.inl hp)), hz, k _ _ om2 τ2 G2 H2 (.v (.str _)) q g2 (gr1.trans gr2)⟩
theorem ws_par {i j : Nat} {x y : Str} {px py pt : Pos} {kt k2 pt2} {E : Ed} (hc : X.calm = true) (hN : X.N.Nodup) (hi : X.N[i]? = some x) (hj : X.N[j]? = some y) (hij : i ≠ j) (hx : X.env.scope.names.lookup x = some .local) (hy : X.env.scope.names.lookup y = some .local)
    (h : WA X an dr ρ om [a, b] fun rs om1 => ∃ r1 r2, rs = [r1, r2] ∧ E.nx ((ρ.set i (some r1)).set j (some r2)) om1)
    (hw : swappedStores [.Tuple [.Name x px, .Name y py] kt pt] (.Tuple [a, b] k2 pt2) X.env = pure (some [x, y]) := by rfl) (hs : swapsWithSole [.Tuple [.Name x px, .Name y py] kt pt] (.Tuple [a, b] k2 pt2) pos.line X.env = pure false := by rfl) :
    WS X an dr ρ om (.Assign [.Tuple [.Name x px, .Name y py] kt pt] (.Tuple [a, b] k2 pt2) pos) E :=
  psI (ps_par (i := i) (j := j) hc hN hi hj hij hx hy (pa_u (an := an) (dr := dr)) hw hs) fun Z σ H ⟨τ, G, g, n, hl, h1, _⟩ => uA_of h g n fun vs rs om1 τ1 G1 H1 i1 w g1 gr1 n1 => by
    obtain ⟨r1, r2, rfl, w⟩ := w
    cases i1 with
    | cons a1 i1 =>
      cases i1 with
      | cons a2 i1 =>
        cases i1
        exact ⟨_, _, rfl, h1 _ H1 ⟨_, om1, τ1, G1, w, g1, (n1.set hl a1).set (by rw [List.length_set, List.length_set]; exact hl) a2, gr1, by rw [List.length_set, List.length_set]; exact hl, by rw [List.length_set, List.length_set]⟩⟩
theorem we_listO (hm : X.mg "list" = none) (h : WE X an dr ρ om e fun r om1 => ∃ ds, (vw om1 r = .lst ds ∨ vw om1 r = .tup ds) ∧ Q (.o om1.length) (om1 ++ [some (.lst ds)])) (hg : Gl X "list" := by rfl)
    (he : starEach [e] X.env = (false, eval e X.env) :: starEach [] X.env := by rfl) (hpl : (backTo pos (starEach [] X.env)).any (·.1) = false := by rfl) : WE X an dr ρ om (.Call (.Name "list" p) [e] [] pos) Q :=
  peI (pe_callTy call_list_of hg hm PyProof.Rows.boot_list (pa_cons (pe_u (an := an) (dr := dr)) pa_nil he) (by decide) (by decide) he hpl) fun σ H K' ⟨τ, G, g, n, k⟩ => uE_of h g n fun v r om1 τ1 G1 H1 h1 w g1 gr1 n1 => by
    obtain ⟨ds, ev, q⟩ := w
    have fin : ∀ {q : Addr} {vs : List V}, IsL X.K G1 vs ds → H1 q = none → K' (.ref q) (upd H1 q (.lst vs)) := fun {q vs} il hq => by
      refine k _ _ _ (τ1 ++ [q]) _ _ (.o ?_) ‹_› (g1.fresh hq il) (gr1.trans Good.growF)
      rw [g1.len, List.getElem?_append_right (Nat.le_refl _), Nat.sub_self]
      rfl
    rcases ev with ev | ev
    · obtain ⟨p, vs, rfl, hp, il⟩ := vw_lst g1 h1 ev
      exact ⟨p, vs, rfl, .inl (.inl (.inl hp)), fun l hl => fin il hl⟩
    · obtain ⟨p, vs, rfl, hp, il⟩ := vw_tup g1 h1 ev
      exact ⟨p, vs, rfl, .inr hp, fun l hl => fin il hl⟩
end
end DL

namespace DL
open PySem L2
def drK (x : Dr) (re tu : Int) : List (Key × V) := [(.inr "great", .ref x.g), (.inr "rest", .int re), (.inr "cells", .ref x.c), (.inr "turn", .int tu)]
section
variable {K : PySem.W.Frag} {an : An} {x : Dr} {om : Om} {τ : List Addr} {G H : Hp}
theorem Good.draw {gr : List Int} {re tu re' tu' : Int} (g : Good K an (some x) om τ G H) (h1 : H x.d = some (.dK (drK x re tu))) (h2 : H x.g = some (.lst (gr.map V.int))) (h3 : H x.c = some (.lst (x.cs.map V.int))) : Good K an (some x) om τ G (upd H x.d (.dK (drK x re' tu'))) := by
  obtain ⟨_, f1, f2, f3, f4⟩ := g.drg x rfl
  have ngd : x.g ≠ x.d := ne_of h2 h1 (by intro z; cases z)
  have ncd : x.c ≠ x.d := ne_of h3 h1 (by intro z; cases z)
  exact {
    ex := g.ex.mut f1
    len := g.len
    nd := g.nd
    own := fun k p ds e1 e2 => by
      obtain ⟨a1, a2, a3, vs, a4, a5⟩ := g.own k p ds e1 e2
      exact ⟨a1, a2, a3, vs, by rw [upd_ne (a3 x rfl).1]; exact a4, a5⟩
    drg := fun y hy => by
      cases hy
      exact ⟨⟨gr, (), re', tu', upd_same, by rw [upd_ne ngd]; exact h2, by rw [upd_ne ncd]; exact h3⟩, f1, f2, f3, tabs_upd f4 fun u hu => by rw [h1] at hu; cases hu; exact ⟨fun _ z => (by cases z), fun _ _ z => (by unfold LamX.CodeO at z; cases z)⟩⟩
    a1 := g.a1
    a2 := fun a o e1 e2 => by rw [upd_ne (e2 x rfl).1]; exact g.a2 a o e1 e2
    a3 := g.a3
    a4 := fun k p e1 => by
      obtain ⟨o1, o, e2, e3⟩ := g.a4 k p e1
      exact ⟨o1, o, by rw [upd_ne (o1 x rfl).1]; exact e2, e3⟩
    gt := g.gt
    nt0 := g.nt0
    ti := g.ti }
theorem Good.drawG {gr gr' : List Int} {re tu : Int} (g : Good K an (some x) om τ G H) (h1 : H x.d = some (.dK (drK x re tu))) (h2 : H x.g = some (.lst (gr.map V.int))) (h3 : H x.c = some (.lst (x.cs.map V.int))) (hgc : x.c ≠ x.g) : Good K an (some x) om τ G (upd H x.g (.lst (gr'.map V.int))) := by
  obtain ⟨_, f1, f2, f3, f4⟩ := g.drg x rfl
  have ngd : x.d ≠ x.g := ne_of h1 h2 (by intro z; cases z)
  exact {
    ex := g.ex.mut f2
    len := g.len
    nd := g.nd
    own := fun k p ds e1 e2 => by
      obtain ⟨a1, a2, a3, vs, a4, a5⟩ := g.own k p ds e1 e2
      exact ⟨a1, a2, a3, vs, by rw [upd_ne (a3 x rfl).2.1]; exact a4, a5⟩
    drg := fun y hy => by
      cases hy
      exact ⟨⟨gr', (), re, tu, by rw [upd_ne ngd]; exact h1, upd_same, by rw [upd_ne hgc]; exact h3⟩, f1, f2, f3, tabs_upd f4 fun u hu => by rw [h2] at hu; cases hu; exact ⟨fun _ z => (by cases z), fun _ _ z => (by unfold LamX.CodeO at z; cases z)⟩⟩
    a1 := g.a1
    a2 := fun a o e1 e2 => by rw [upd_ne (e2 x rfl).2.1]; exact g.a2 a o e1 e2
    a3 := g.a3
    a4 := fun k p e1 => by
      obtain ⟨o1, o, e2, e3⟩ := g.a4 k p e1
      exact ⟨o1, o, by rw [upd_ne (o1 x rfl).2.1]; exact e2, e3⟩
    gt := g.gt
    nt0 := g.nt0
    ti := g.ti }
end
section
variable {X : Cx} {an : An} {x : Dr} {ρ : Rho} {om : Om} {e o tg : Expr} {pos p2 pos' : Pos} {Q : R → Om → Prop} {j : Nat}
theorem we_drRest (hu : X.A.units + 1 < cLine) (h : WE X an (some x) ρ om o fun r om1 => r = .v (.obj x.d) ∧ ∀ n : Int, Q (.v (.int n)) om1) : WE X an (some x) ρ om (.Subscript o (.Constant (.str "rest") j p2) pos) Q :=
  peI (pe_dget hu (pe_u (an := an) (dr := some x)) pe_str (fun _ _ => rfl)) fun σ H K' ⟨τ, G, g, n, k⟩ => uE_of h g n fun v r om1 τ1 G1 H1 h1 w g1 gr1 n1 => by
    obtain ⟨rfl, w⟩ := w
    cases h1 with
    | v h1 =>
      cases h1
      obtain ⟨⟨gr, _, re, tu, q1, q2, q3⟩, _⟩ := g1.drg x rfl
      exact ⟨x.d, .int re, rfl, DGet.k (k := .inr "rest") q1, k _ _ om1 τ1 G1 H1 (.v (.int re)) (w re) g1 gr1⟩
theorem we_drTurn (hu : X.A.units + 1 < cLine) (h : WE X an (some x) ρ om o fun r om1 => r = .v (.obj x.d) ∧ ∀ n : Int, Q (.v (.int n)) om1) : WE X an (some x) ρ om (.Subscript o (.Constant (.str "turn") j p2) pos) Q :=
  peI (pe_dget hu (pe_u (an := an) (dr := some x)) pe_str (fun _ _ => rfl)) fun σ H K' ⟨τ, G, g, n, k⟩ => uE_of h g n fun v r om1 τ1 G1 H1 h1 w g1 gr1 n1 => by
    obtain ⟨rfl, w⟩ := w
    cases h1 with
    | v h1 =>
      cases h1
      obtain ⟨⟨gr, _, re, tu, q1, q2, q3⟩, _⟩ := g1.drg x rfl
      exact ⟨x.d, .int tu, rfl, DGet.k (k := .inr "turn") q1, k _ _ om1 τ1 G1 H1 (.v (.int tu)) (w tu) g1 gr1⟩
theorem ws_drRest {E : Ed} (hu : X.A.units + 1 < cLine) (h : WE X an (some x) ρ om e fun r om1 => intR r fun _ => WE X an (some x) ρ om1 o fun r2 om2 => r2 = .v (.obj x.d) ∧ E.nx ρ om2) (hs : swapsWith e (some (.Subscript o (.Constant (.str "rest") j p2) pos')) pos.line X.env = pure false := by rfl) :
    WS X an (some x) ρ om (.Assign [.Subscript o (.Constant (.str "rest") j p2) pos'] e pos) E :=
  psI (ps_dput hu (pe_u (an := an) (dr := some x)) pe_str (pe_u (an := an) (dr := some x)) hs) fun Z σ H ⟨τ, G, g, n, hl, h1, _⟩ => uE_of h g n fun v r om1 τ1 G1 H1 i1 w g1 gr1 n1 => by
    obtain ⟨m, rfl, _, w⟩ := intR_is i1 w
    refine uE_of w g1 n1 fun v2 r2 om2 τ2 G2 H2 i2 w2 g2 gr2 n2 => ?_
    obtain ⟨rfl, w2⟩ := w2
    cases i2 with
    | v i2 =>
      cases i2
      obtain ⟨⟨gr, _, re, tu, q1, q2, q3⟩, _⟩ := g2.drg x rfl
      exact ⟨x.d, _, rfl, DPut.k (k := .inr "rest") q1 (by show 4 < sizeLine; decide), h1 σ _ ⟨ρ, om2, τ2, G2, w2, g2.draw (re' := m) (tu' := tu) q1 q2 q3, n2, gr1.trans gr2, hl, rfl⟩⟩
theorem ws_drTurn {E : Ed} (hu : X.A.units + 1 < cLine) (h : WE X an (some x) ρ om e fun r om1 => intR r fun _ => WE X an (some x) ρ om1 o fun r2 om2 => r2 = .v (.obj x.d) ∧ E.nx ρ om2) (hs : swapsWith e (some (.Subscript o (.Constant (.str "turn") j p2) pos')) pos.line X.env = pure false := by rfl) :
    WS X an (some x) ρ om (.Assign [.Subscript o (.Constant (.str "turn") j p2) pos'] e pos) E :=
  psI (ps_dput hu (pe_u (an := an) (dr := some x)) pe_str (pe_u (an := an) (dr := some x)) hs) fun Z σ H ⟨τ, G, g, n, hl, h1, _⟩ => uE_of h g n fun v r om1 τ1 G1 H1 i1 w g1 gr1 n1 => by
    obtain ⟨m, rfl, _, w⟩ := intR_is i1 w
    refine uE_of w g1 n1 fun v2 r2 om2 τ2 G2 H2 i2 w2 g2 gr2 n2 => ?_
    obtain ⟨rfl, w2⟩ := w2
    cases i2 with
    | v i2 =>
      cases i2
      obtain ⟨⟨gr, _, re, tu, q1, q2, q3⟩, _⟩ := g2.drg x rfl
      exact ⟨x.d, _, rfl, DPut.k (k := .inr "turn") q1 (by show 4 < sizeLine; decide), h1 σ _ ⟨ρ, om2, τ2, G2, w2, g2.draw (re' := re) (tu' := m) q1 q2 q3, n2, gr1.trans gr2, hl, rfl⟩⟩
theorem jok_cells {K : PySem.W.Frag} {G : Hp} {τ : List Addr} : JOk K an (some x) (Itl K x.c) (x.cs.map D.int) G τ := fun om2 τ2 G2 H2 g gr i => by
  obtain ⟨⟨_, _, re, tu, q1, q2, q3⟩, _⟩ := g.drg x rfl
  have hs : SqL K H2 x.c (x.cs.map V.int) := .inl (.inl q3)
  refine ⟨fun hj => ⟨_, hs, by simp at hj ⊢; omega⟩, fun d hd => ?_⟩
  obtain ⟨v, h1, h2⟩ := (IsL.ints (K := K) (G := G2) x.cs).get hd
  refine ⟨⟨_, v, hs, h1⟩, fun y H3 q => ?_⟩
  obtain ⟨rfl, q⟩ := q
  have e := (q _ hs).symm.trans h1
  cases e
  exact ⟨G2, g, Grow.refl _ _, h2⟩
theorem wi_drCells {Q : List D → Om → Prop} (hu : X.A.units + 1 < cLine) (hz : x.cs.length ≤ sizeLine) (h : WE X an (some x) ρ om o fun r om1 => r = .v (.obj x.d) ∧ Q (x.cs.map D.int) om1) : WI X an (some x) ρ om tg (.Subscript o (.Constant (.str "cells") j p2) pos) Q :=
  piI (pi_list (pe_dget hu (pe_u (an := an) (dr := some x)) pe_str (fun _ _ => rfl))) fun σ H Z ⟨τ, G, g, n, k⟩ => uE_of h g n fun v r om1 τ1 G1 H1 h1 w g1 gr1 n1 => by
    obtain ⟨rfl, w⟩ := w
    cases h1 with
    | v h1 =>
      cases h1
      obtain ⟨⟨gr, _, re, tu, q1, q2, q3⟩, _⟩ := g1.drg x rfl
      exact ⟨x.d, .ref x.c, rfl, DGet.k (k := .inr "cells") q1, x.c, rfl, ⟨_, .inl (.inl q3)⟩, k _ _ om1 τ1 G1 H1 w (by simpa using hz) g1 gr1 (fun _ => jok_cells)⟩
end
def W_take (x : Dr) : Wp := fun ds P => ∃ n : Int, ds = [.obj x.d, .int n] ∧ (0 < n ∧ n < 2 ^ 64) ∧ ∀ k : Int, 0 ≤ k → k < n → P (.int k)
def W_blend (x : Dr) : Wp := fun ds P => ds = [.obj x.d] ∧ ∀ k : Int, P (.int k)
end DL

namespace DL
open PySem L2
theorem meets_enum1 {v : Value} {o : Obj} {Hh : Heap → Prop} (B : Begins v o Hh) :
    Meets (Builtin.«enumerate.__new__» ⟨[.type "enumerate", v], []⟩) (fun _ Rr s => Hh s.heap ∧
      Rr (.ok (.ret (.ref (s.heap.push o).objs.size))) { s with heap := (s.heap.push o).push { cls := .type "enumerate", data := .fields #[.none, .bool false, .ref s.heap.objs.size, rawInt 0, .none, .none] } }) :=
  .of_wp fun prog w A Rr s h => by
    obtain ⟨hp, g, d, tk, os⟩ := s
    obtain ⟨h1, h⟩ := h
    have sub := sub_enumerate
    have q1 : ∀ {A' : Around} {E : Value → Shared → Prop} {Q : Value → Shared → Prop}, Q (.ref hp.objs.size) ⟨hp.push o, g, d, tk, os⟩ → wpAny (model prog w) A' (pyIter v) Q E ⟨hp, g, d, tk, os⟩ :=
      fun q => B.iter prog w _ _ ⟨hp, g, d, tk, os⟩ _ h1 q
    wp_walk using q1
    refine wpAny_stack_any fun st => wpAny_pure ?_
    split
    · rename_i c _ _ _ _ _
      cases (c == Value.type "enumerate")
      all_goals
        wp_walk using q1
        exact ⟨_, rfl, h⟩
    · wp_walk using q1
      exact ⟨_, rfl, h⟩
theorem call_enumT {prog : Program} {w : World} {A : Around} {E : Value → Shared → Prop} {s : Shared} {t : Addr} {items : Array Value} {Q : Value → Shared → Prop} (hT : s.heap.IsTuple t items)
    (h : ∀ h', IsEnum h' (s.heap.objs.size + 1) s.heap.objs.size 0 .none → h'.IsTupleIter s.heap.objs.size t 0 → (∀ b o, s.heap.get? b = some o → h'.get? b = some o) → Q (.ref (s.heap.objs.size + 1)) { s with heap := h' }) :
    wpAny (model prog w) A (call (.type "enumerate") [.ref t]) Q E s := by
  refine callType_new F.called_enumerate (by decide) (F.typeCall_enumerate_1 _) (F.newCall_enumerate_1 _) (fun obj => F.args_object_init_2 obj _) F.entry_enumerate_new (meets_enum1 (begins_tuple t items)) ⟨hT, ?_⟩
  have z : (s.heap.push { cls := .type "tuple_iterator", data := .fields #[.ref t, .int 0 0] }).objs.size = s.heap.objs.size + 1 := Heap.size_push ..
  show _ ∧ _
  rw [z]
  have e := Heap.get?_push_size (s.heap.push { cls := .type "tuple_iterator", data := .fields #[.ref t, .int 0 0] }) (o := { cls := .type "enumerate", data := .fields #[.none, .bool false, .ref s.heap.objs.size, rawInt 0, .none, .none] }) rfl
  rw [z] at e
  exact ⟨⟨_, e, rfl⟩, h _ e ⟨_, Heap.get?_push_of_some _ (Heap.get?_push_size _ rfl), rfl, rfl⟩ fun b o q => Heap.get?_push_of_some _ (Heap.get?_push_of_some _ q)⟩
def IteT (K : PySem.W.Frag) (a : Addr) : It where
  go := fun i H => ∃ (xs : List V) (x : V), SqT K H a xs ∧ xs[i]? = some x
  yld := fun i H v H' => ∃ T x, v = .ref T ∧ H T = none ∧ H' = upd H T (.tup [.int (i : Nat), x]) ∧ ∀ xs, SqT K H a xs → xs[i]? = some x
  stop := fun i H => ∃ xs : List V, SqT K H a xs ∧ xs.length = i
theorem turn_enumT {P : Program} {w : World} {K : PySem.W.Frag} {elts : List Expr} {kk : Nat} {tpos : Pos} (a e it : Addr) (hai : a ≠ it) (hei : e ≠ it) (hea : e ≠ a) :
    Turn P w K (.Tuple elts kk tpos) (IteT K a) [e, it] e (fun i h => (∃ old, IsEnum h e it ((i : Nat) : Int) old) ∧ h.IsTupleIter it a i) where
  mem := List.mem_cons_self
  obj := fun i h st b hb => by
    obtain ⟨⟨old, he⟩, o, ho, _, hd⟩ := st
    rcases List.mem_cons.mp hb with rfl | hb
    · exact ⟨_, he, fun v q => nomatch q⟩
    · obtain rfl := List.mem_singleton.mp hb
      exact ⟨o, ho, fun v q => by rw [hd] at q; cases q⟩
  keep := fun i h h' st k => by
    obtain ⟨⟨old, he⟩, hi⟩ := st
    exact ⟨⟨old, k e List.mem_cons_self _ he⟩, hi.at fun o q => k it (List.mem_cons_of_mem _ List.mem_cons_self) o q⟩
  item := by
    rintro X rfl rfl rfl hc i pins s σ H E I hf ⟨⟨old, he⟩, hit⟩ ⟨xs, x, hq, hx⟩
    obtain ⟨its, rv, p, _⟩ := I.tuple hq
    obtain ⟨u, hu, ru⟩ := rv.get hx
    have hlt : i < its.toArray.size := by
      have := (List.getElem?_eq_some_iff.mp hu).1
      simpa using this
    have hel : e < s.heap.objs.size := Heap.lt_size he
    have hil : it < s.heap.objs.size := by obtain ⟨_, q, _⟩ := hit; exact Heap.lt_size q
    refine wpAny_pyNext_enum_itemD (Draws.tuple (A := X.A.in1) (I.ok.hd hc) it a hai its.toArray) he ⟨hit, p⟩ hlt hei (by simp [hei, hea]) fun y h' tk hy ho hst hT hsz hk => ?_
    have ey : y = u := by
      have z : its.toArray[i]? = some y := hy
      have z2 : its.toArray[i]? = some u := by simpa using hu
      exact Option.some.inj (z.symm.trans z2)
    subst ey
    refine ⟨_, rfl, wpAny_letOwnedTupleGo_enum (s := { s with heap := h', toks := tk + 1 }) ho fun h'' he' sb => ?_⟩
    have hT2 : h''.get? s.heap.objs.size = some { cls := .type "tuple", data := .seq #[.int i tk, y] } := (sb.2 _ (Nat.ne_of_gt hel)).trans hT
    have new : ObjOk X.prog X.w (upd H s.heap.objs.size (.tup [.int (i : Nat), x])) h'' s.heap.objs.size (.tup [.int (i : Nat), x]) := by
      refine ⟨?_, [.int i tk, y], .cons ⟨_, rfl⟩ (.cons ru .nil), ⟨_, hT2, rfl, _, rfl⟩⟩
      show 2 ≤ sizeLine
      decide
    have keep : ∀ b ob, b ∉ [e, it] → s.heap.get? b = some ob → h''.get? b = some ob := fun b ob hb q => by
      have n1 : b ≠ e := fun z => hb (by rw [z]; exact List.mem_cons_self)
      have n2 : b ≠ it := fun z => hb (by rw [z]; exact List.mem_cons_of_mem _ List.mem_cons_self)
      exact (sb.2 b n1).trans (hk b ob n1 n2 q)
    refine ⟨.ref s.heap.objs.size, _, I.turnedNew (t' := tk + 1) (ch := [e, it]) keep hf (Nat.le_refl _) new, rfl, ⟨_, x, rfl, I.hok.fresh (Nat.le_refl _), rfl, fun ys hy => ?_⟩, ⟨⟨y, ?_⟩, ?_⟩, fun b hb => ?_⟩
    · rw [I.tuple_inj hy hq]
      exact hx
    · have c : ((i + 1 : Nat) : Int) = (i : Int) + 1 := by omega
      rw [c]
      exact he'
    · exact hst.1.at fun o q => (sb.2 it (Ne.symm hei)).trans q
    · have hlt : b < s.heap.objs.size := by
        rcases List.mem_cons.mp hb with rfl | hb
        · exact hel
        · obtain rfl := List.mem_singleton.mp hb
          exact hil
      rw [upd_ne (Nat.ne_of_lt hlt)]
      exact (hf b hb).1
  done := by
    rintro X rfl rfl rfl hc i pins s σ H E I hf ⟨⟨old, he⟩, hit⟩ ⟨xs, hq, rfl⟩
    obtain ⟨its, rv, p, _⟩ := I.tuple hq
    obtain ⟨f0, f1, f2, f3, f4, f5⟩ := hf it (List.mem_cons_of_mem _ List.mem_cons_self)
    have hl : its.toArray.size = xs.length := by rw [rv.length]; simp
    refine wpAny_pyNext_enum_endD (Draws.tuple (A := X.A.in1) (I.ok.hd hc) it a hai its.toArray) he ⟨by rw [hl]; exact hit, p⟩ fun h' eb => ⟨rfl, ?_⟩
    exact I.turned (t' := s.toks) (fun b o hb q => eb b o hb q) f0 f1 f3 f4 f5
  self := fun A i s Q E st h => by
    obtain ⟨⟨_, he⟩, _⟩ := st
    exact wpAny_pyIter_enum he h
section
variable {X : Cx} {an : An} {dr : Option Dr} {ρ : Rho} {om : Om} {e : Expr} {pos : Pos}
theorem jok_enumT {a : Addr} {vs : List V} {ds : List D} {G : Hp} {τ : List Addr} {K : PySem.W.Frag} (h : ∀ H, Ex G H → SqT K H a vs) (i : IsL K G vs ds) : JOk K an dr (IteT K a) (enumD ds) G τ := fun om2 τ2 G2 H2 g gr j => by
  have hs : SqT K H2 a vs := h _ fun _ _ q => g.ex _ _ (gr.ex _ _ q)
  refine ⟨fun hj => ⟨vs, hs, by rw [i.length, hj]; simp [enumD]⟩, fun d hd => ?_⟩
  obtain ⟨d0, hd0, rfl⟩ := enumD_get hd
  obtain ⟨v, h1, h2⟩ := i.get hd0
  refine ⟨⟨vs, v, hs, h1⟩, fun x H3 y => ?_⟩
  obtain ⟨T, y0, rfl, hT, rfl, y⟩ := y
  have e := (y vs hs).symm.trans h1
  cases e
  exact ⟨_, g.alloc hT, g.grow hT, .tup upd_same (.cons (.int _) (.cons (h2.mono (gr.ex.trans (Ex.new (g.ex.free hT)))) .nil))⟩
theorem wi_enum {Q : List D → Om → Prop} {p tpos : Pos} {elts : List Expr} {kk : Nat} (hm : X.mg "enumerate" = none) (h : WE X an dr ρ om e fun r om1 => retR om1 r fun d => ∃ ds, (d = .lst ds ∨ d = .tup ds) ∧ Q (enumD ds) (fzO om1 r)) (hg : Gl X "enumerate" := by rfl) (hs : starEach [e] X.env = [(false, eval e X.env)] := by rfl) :
    WI X an dr ρ om (.Tuple elts kk tpos) (.Call (.Name "enumerate" p) [e] [] pos) Q := by
  refine ⟨fun pins s σ H Z I q => ?_⟩
  obtain ⟨τ, G, g, n, k⟩ := q
  have ha : PA X [e] (tCons (uE X an dr e) tNil) := pa_cons pe_u pa_nil hs
  refine PyProof.Rows.Call_ (ld_blt I hg hm PyProof.Rows.boot_enumerate (PyProof.Rows.callWith_type1 (thn (ha.run pos pins s σ H (fun vs H1 => ∃ v d om1 τ1 G1 ds, vs = [v] ∧ Is X.K G1 v d ∧ Good X.K an dr om1 τ1 G1 H1 ∧ Grow G τ G1 τ1 ∧ (d = .lst ds ∨ d = .tup ds) ∧ Q (enumD ds) om1) I ?_) ?_) hs rfl))
  · exact uE_of h g n fun v r om1 τ1 G1 H1 h1 w g1 gr1 n1 => by
      obtain ⟨d, G2, ⟨ds, ed, w⟩, i, g2, gr2⟩ := retR_fz g1 h1 w (fun d z => by obtain ⟨_, e, _⟩ := z; rcases e with rfl | rfl <;> rfl)
      exact ⟨v, d, _, τ1, G2, ds, rfl, i, g2, gr1.trans gr2, ed, w⟩
  · rintro us s1 ⟨vs, H1, I1, r1, v, d, om1, τ1, G1, ds, rfl, i1, g1, gr1, ed, q1⟩
    cases r1 with
    | cons r rr =>
      cases rr
      rcases ed with rfl | rfl
      · cases i1 with
        | lst hp il =>
          cases r
          obtain ⟨its, rv, p', hz⟩ := I1.list (.inl (.inl (g1.ex _ _ hp)))
          refine call_enumerate_list p'.isList fun h' he hit hsz hk => wpAny_pyIter_enum he ?_
          have I2 : Inv X pins σ H1 { s1 with heap := h' } := I1.kept (t' := s1.toks) hk
          refine ⟨s1.heap.objs.size + 1, [s1.heap.objs.size + 1, s1.heap.objs.size], _, _, H1, rfl, I2, turn_enum _ (s1.heap.objs.size + 1) s1.heap.objs.size, ⟨⟨.none, he⟩, hit, Nat.succ_ne_self _⟩, fun b hb => ?_, k _ _ _ _ _ _ q1 (by simp [enumD]; rw [← il.length]; exact hz) g1 gr1 (fun _ => jok_enum hp il)⟩
          rcases List.mem_cons.mp hb with rfl | hb
          · exact I1.fpOk (Nat.le_succ _) (I1.hok.fresh (Nat.le_succ _))
          · obtain rfl := List.mem_singleton.mp hb
            exact I1.fpOk (Nat.le_refl _) (I1.hok.fresh (Nat.le_refl _))
      · cases i1 with
        | tup hp' il' =>
          cases r
          obtain ⟨_, _, q, hp, il⟩ := (Is.tup (K := X.K) hp' il').tup_inv
          cases q
          obtain ⟨its, rv, p', hz⟩ := I1.tuple (hp _ g1.ex)
          have hlt := I1.hok.lt (g1.ex _ _ hp')
          refine call_enumT p' fun h' he hit hk => wpAny_pyIter_enum he ?_
          have I2 : Inv X pins σ H1 { s1 with heap := h' } := I1.kept (t' := s1.toks) hk
          refine ⟨s1.heap.objs.size + 1, [s1.heap.objs.size + 1, s1.heap.objs.size], _, _, H1, rfl, I2, turn_enumT _ (s1.heap.objs.size + 1) s1.heap.objs.size (Nat.ne_of_lt hlt) (Nat.succ_ne_self _) (Nat.ne_of_gt (Nat.lt_succ_of_lt hlt)), ⟨⟨.none, he⟩, hit⟩, fun b hb => ?_, k _ _ _ _ _ _ q1 (by simp [enumD]; rw [← il.length]; exact hz) g1 gr1 (fun _ => jok_enumT hp il)⟩
          rcases List.mem_cons.mp hb with rfl | hb
          · exact I1.fpOk (Nat.le_succ _) (I1.hok.fresh (Nat.le_succ _))
          · obtain rfl := List.mem_singleton.mp hb
            exact I1.fpOk (Nat.le_refl _) (I1.hok.fresh (Nat.le_refl _))
        | tup0 hp' =>
          cases r
          obtain ⟨_, _, q, hp, il⟩ := (Is.tup0 (K := X.K) hp').tup_inv
          cases q
          obtain ⟨its, rv, p', hz⟩ := I1.tuple (hp _ g1.ex)
          obtain ⟨o0, _, e0, _, _⟩ := hp'
          have hlt := Heap.lt_size (I1.kIn _ _ e0)
          refine call_enumT p' fun h' he hit hk => wpAny_pyIter_enum he ?_
          have I2 : Inv X pins σ H1 { s1 with heap := h' } := I1.kept (t' := s1.toks) hk
          refine ⟨s1.heap.objs.size + 1, [s1.heap.objs.size + 1, s1.heap.objs.size], _, _, H1, rfl, I2, turn_enumT _ (s1.heap.objs.size + 1) s1.heap.objs.size (Nat.ne_of_lt hlt) (Nat.succ_ne_self _) (Nat.ne_of_gt (Nat.lt_succ_of_lt hlt)), ⟨⟨.none, he⟩, hit⟩, fun b hb => ?_, k _ _ _ _ _ _ q1 (by simp [enumD]) g1 gr1 (fun _ => jok_enumT hp il)⟩
          rcases List.mem_cons.mp hb with rfl | hb
          · exact I1.fpOk (Nat.le_succ _) (I1.hok.fresh (Nat.le_succ _))
          · obtain rfl := List.mem_singleton.mp hb
            exact I1.fpOk (Nat.le_refl _) (I1.hok.fresh (Nat.le_refl _))
end
end DL

namespace DL
open PySem L2 PyProof.Rows
def sK0 (P : Program) (w : World) (a : Addr) : HO := SetK P w a (fun _ => false) 0
def sKadd (P : Program) (w : World) (a : Addr) (S : Key → Bool) (n : Nat) (k : Key) : HO := SetK P w a (fun j => S j || decide (j = k)) (if S k = true then n else n + 1)
def tScK (P : Program) (w : World) (wi : TI) (g : TG) (tt : TT) (te : TE) (vs : List Nat) : TE := fun σ H Q => wi σ H fun J H1 => ∀ D0, H1 D0 = none → ∃ W : Nat → Nat → Hp → Prop, (∃ m, W 0 m (upd H1 D0 (sK0 P w D0))) ∧ ∀ i m H, W i m H →
  (J.stop i H ∧ Q (.ref D0) H) ∨ (J.go i H ∧ ∃ Nx : Hp → Prop, (∀ H', Nx H' → ∃ m', m' < m ∧ W (i + 1) m' H') ∧ ∀ x H', J.yld i H x H' → g x (L2.wipe σ vs) H' fun σ2 H2 => L2.wipe σ2 vs = L2.wipe σ vs ∧ tt σ2 H2 fun b H3 =>
    if b = true then te σ2 H3 fun y H4 => ∃ (c : Key) (S : Key → Bool) (n : Nat), y = kV c ∧ H4 D0 = some (SetK P w D0 S n) ∧ n + 1 < scanBound ∧ Nx (upd H4 D0 (sKadd P w D0 S n c)) else Nx H3)
section
variable {X : Cx}
end
end DL
namespace DL
open PySem L2
def keyDat : Key → D
  | .inl i => .int i
  | .inr x => .str x
theorem keyDat_is {K : PySem.W.Frag} {G : Hp} {v : V} {k : Key} (h : Is K G v (keyDat k)) : v = kV k := by
  cases k with
  | inl i => exact h.int_inv
  | inr x => exact h.str_inv
instance decMemK (k : Key) (l : List Key) : Decidable (k ∈ l) := @List.instDecidableMemOfLawfulBEq Key instBEqOfDecidableEq inferInstance k l
def nub (l : List Key) : List Key := l.foldl (fun acc k => if k ∈ acc then acc else acc ++ [k]) []
theorem nub_snoc (l : List Key) (k : Key) : nub (l ++ [k]) = if k ∈ nub l then nub l else nub l ++ [k] := by
  unfold nub
  rw [List.foldl_append]
  rfl
theorem mem_nubR (l : List Key) (j : Key) : j ∈ nub l.reverse ↔ j ∈ l := by
  induction l with
  | nil => exact Iff.rfl
  | cons k l ih =>
    rw [List.reverse_cons, nub_snoc, List.mem_cons]
    split
    · rename_i h
      rw [ih]
      constructor
      · exact .inr
      · rintro (rfl | h2)
        · exact ih.mp h
        · exact h2
    · rw [List.mem_append, List.mem_singleton, ih]
      exact Or.comm
theorem nub_leR (l : List Key) : (nub l.reverse).length ≤ l.length ∧ ((nub l.reverse).length = l.length ↔ l.Nodup) := by
  induction l with
  | nil => exact ⟨Nat.le_refl _, ⟨fun _ => List.nodup_nil, fun _ => rfl⟩⟩
  | cons k l ih =>
    rw [List.reverse_cons, nub_snoc, List.nodup_cons]
    split
    · rename_i h
      rw [mem_nubR] at h
      refine ⟨Nat.le_succ_of_le ih.1, ⟨fun z => ?_, fun z => absurd h z.1⟩⟩
      have := ih.1
      rw [List.length_cons] at z
      omega
    · rename_i h
      rw [mem_nubR] at h
      rw [List.length_append, List.length_cons]
      refine ⟨Nat.succ_le_succ ih.1, ⟨fun z => ⟨h, ih.2.mp (by simpa using z)⟩, fun z => ?_⟩⟩
      rw [ih.2.mpr z.2]
      rfl
theorem nub_len (l : List Key) : (nub l).length = l.length ↔ l.Nodup := by
  have h := (nub_leR l.reverse).2
  rw [List.reverse_reverse, List.length_reverse, (List.reverse_perm l).nodup_iff] at h
  exact h
section
variable {X : Cx} {an : An} {dr : Option Dr} {ρ : Rho} {elt tg iter : Expr} {scope : Scope} {pos p pos' : Pos} {Q : R → Om → Prop} {js : List Nat} {f : TgF} {own : List (PySem.Str × Nat)}
theorem plainH : ∀ c : Nat, ∃ h : Heap, h.objs.size = c ∧ ∀ b o, h.get? b = some o → o.data = .plain
  | 0 => ⟨{}, rfl, fun b o e => by simp [Heap.get?] at e⟩
  | c + 1 => by
    obtain ⟨h, hs, hp⟩ := plainH c
    refine ⟨h.push { cls := .none, data := .plain }, by rw [Heap.size_push, hs], fun b o e => ?_⟩
    rcases Heap.get?_push_cases e with ⟨_, rfl⟩ | e
    · rfl
    · exact hp b o e
theorem Good.junkW {K : PySem.W.Frag} {G H : Hp} {p : Addr} {o : HO} (g : Good K an dr [] [] G H) (hG : G p = none) (h0 : an.H0 p = none) (hof : Off dr p) (hu : ∀ u, H p = some u → NoTab u) : Good K an dr [] [] G (upd H p o) where
  gt := g.gt
  nt0 := g.nt0
  ti := g.ti
  ex := g.ex.mut hG
  len := rfl
  nd := g.nd
  own := fun k q ds h1 _ => by simp at h1
  drg := fun y hy => by
    obtain ⟨⟨gr, ce, re, tu, h1, h2, h3⟩, h4, h5, h6, h7⟩ := g.drg y hy
    obtain ⟨n1, n2, n3⟩ := hof y hy
    exact ⟨⟨gr, ce, re, tu, by rw [upd_ne n1.symm]; exact h1, by rw [upd_ne n2.symm]; exact h2, by rw [upd_ne n3.symm]; exact h3⟩, h4, h5, h6, tabs_upd h7 hu⟩
  a1 := g.a1
  a2 := fun a o' h1 h2 => by
    rw [upd_ne (ne_of_none h1 h0)]; exact g.a2 a o' h1 h2
  a3 := g.a3
  a4 := fun k q h1 => by simp at h1
theorem Good.here {K : PySem.W.Frag} {G H : Hp} (g : Good K an dr [] [] G H) : Good K ⟨G, strip H, false, []⟩ dr [] [] G H := g.pre.good
def EltK (X : Cx) (dr : Option Dr) (scope : Scope) (elt : Expr) (ρ2 : Rho) (N : Key → Prop) : Prop :=
  ∀ an s H C cl fp, WE (XB X scope s H C cl fp) an dr ρ2 [] elt fun r om3 => om3 = [] ∧ ∃ k, r = .v (keyDat k) ∧ N k
end
end DL

namespace DL
open PySem L2
section
variable {K : PySem.W.Frag} {G : Hp} {κ : Type}
theorem IsD.keys : ∀ {vs : List (κ × V)} {ds : List (κ × D)}, IsD K G vs ds → vs.map (·.1) = ds.map (·.1)
  | _, _, .nil => rfl
  | _, _, .cons _ q => by rw [List.map_cons, List.map_cons, IsD.keys q]
theorem IsD.length : ∀ {vs : List (κ × V)} {ds : List (κ × D)}, IsD K G vs ds → vs.length = ds.length
  | _, _, .nil => rfl
  | _, _, .cons _ q => congrArg (· + 1) (IsD.length q)
theorem IsD.none [BEq κ] {k : κ} : ∀ {vs : List (κ × V)} {ds : List (κ × D)}, IsD K G vs ds → ds.lookup k = none → vs.lookup k = none
  | _, _, .nil, _ => rfl
  | _, _, .cons (k := j) i q, e => by
    rw [List.lookup_cons] at e ⊢
    cases hb : k == j with
    | true => rw [hb] at e; cases e
    | false => rw [hb] at e; exact IsD.none q e
theorem IsD.some [BEq κ] {k : κ} {d : D} : ∀ {vs : List (κ × V)} {ds : List (κ × D)}, IsD K G vs ds → ds.lookup k = some d → ∃ v, vs.lookup k = some v ∧ Is K G v d
  | _, _, .nil, e => by cases e
  | _, _, .cons (k := j) (v := v) i q, e => by
    rw [List.lookup_cons] at e ⊢
    cases hb : k == j with
    | true => rw [hb] at e; cases e; exact ⟨v, rfl, i⟩
    | false => rw [hb] at e; exact IsD.some q e
def putD (f : Str) (v : D) : List (Str × D) → List (Str × D)
  | [] => [(f, v)]
  | (g, x) :: r => if g = f then (g, v) :: r else (g, x) :: putD f v r
theorem IsD.putF {f : Str} {v : V} {d : D} (i : Is K G v d) : ∀ {vs : List (Str × V)} {ds : List (Str × D)}, IsD K G vs ds → IsD K G (L2.putF f v vs) (putD f d ds)
  | _, _, .nil => .cons i .nil
  | _, _, .cons (k := j) h q => by
    unfold L2.putF putD
    by_cases e : j = f
    · rw [if_pos e, if_pos e]; exact .cons i q
    · rw [if_neg e, if_neg e]; exact .cons h (IsD.putF i q)
end
section
variable {X : Cx} {an : An} {dr : Option Dr} {ρ : Rho} {om : Om} {e a b o : Expr} {es : List Expr} {pos p : Pos} {Q : R → Om → Prop}
theorem we_dic0 (q : Q (.v (.dic [])) om) : WE X an dr ρ om (.Dict [] [] pos) Q :=
  peI (pe_lk pe_dnewK) fun σ H K' ⟨τ, G, g, n, k⟩ l hl => .inr ⟨l, _, upd_same, trivial, fun od => by
    rw [upd_upd]
    exact k _ _ om τ _ _ (.v (.dic upd_same .nil)) q (g.alloc hl) (g.grow hl)⟩
theorem tau_snoc {K : PySem.W.Frag} {om1 : Om} {x : Option D} {τ1 τ2 : List Addr} {D0 : Addr} {G1 G2 H2 : Hp} (h1 : om1.length = τ1.length) (g2 : Good K an dr (om1 ++ [x]) τ2 G2 H2) (gr : Grow G1 (τ1 ++ [D0]) G2 τ2) : τ2 = τ1 ++ [D0] := by
  have l2 : τ2.length = τ1.length + 1 := by
    have := g2.len
    rw [List.length_append, h1] at this
    simpa using this.symm
  apply List.ext_getElem?
  intro j
  by_cases hj : j < (τ1 ++ [D0]).length
  · rw [gr.pre j _ (List.getElem?_eq_getElem hj), List.getElem?_eq_getElem hj]
  · rw [List.getElem?_eq_none (by rw [l2]; simpa using hj), List.getElem?_eq_none (by simpa using hj)]
def putE {κ : Type} [DecidableEq κ] (kvs : List (κ × D)) (k : κ) (v : D) : List (κ × D) :=
  if (kvs.any fun kv => decide (kv.1 = k)) = true then kvs.map (fun kv => if kv.1 = k then (kv.1, v) else kv) else kvs ++ [(k, v)]
def mergeE (kvs more : List (Key × D)) : List (Key × D) := more.foldl (fun acc kv => putE acc kv.1 kv.2) kvs
theorem IsD.any {K : PySem.W.Frag} {G : Hp} {κ : Type} [DecidableEq κ] {k : κ} : ∀ {vs : List (κ × V)} {ds : List (κ × D)}, IsD K G vs ds → (vs.any fun kv => decide (kv.1 = k)) = (ds.any fun kv => decide (kv.1 = k))
  | _, _, .nil => rfl
  | _, _, .cons i q => by rw [List.any_cons, List.any_cons, IsD.any q]
theorem IsD.mapPut {K : PySem.W.Frag} {G : Hp} {κ : Type} [DecidableEq κ] {k : κ} {v : V} {d : D} (i : Is K G v d) : ∀ {vs : List (κ × V)} {ds : List (κ × D)}, IsD K G vs ds → IsD K G (vs.map fun kv => if kv.1 = k then (kv.1, v) else kv) (ds.map fun kv => if kv.1 = k then (kv.1, d) else kv)
  | _, _, .nil => .nil
  | _, _, .cons (k := j) h q => by
    rw [List.map_cons, List.map_cons]
    by_cases e : j = k
    · simp only [if_pos e]; exact .cons i (IsD.mapPut i q)
    · simp only [if_neg e]; exact .cons h (IsD.mapPut i q)
theorem IsD.snoc {K : PySem.W.Frag} {G : Hp} {κ : Type} {k : κ} {v : V} {d : D} (i : Is K G v d) : ∀ {vs : List (κ × V)} {ds : List (κ × D)}, IsD K G vs ds → IsD K G (vs ++ [(k, v)]) (ds ++ [(k, d)])
  | _, _, .nil => .cons i .nil
  | _, _, .cons h q => .cons h (IsD.snoc i q)
theorem IsD.put {K : PySem.W.Frag} {G : Hp} {κ : Type} [DecidableEq κ] {k : κ} {v : V} {d : D} {vs : List (κ × V)} {ds : List (κ × D)} (h : IsD K G vs ds) (i : Is K G v d) : IsD K G (putK vs k v) (putE ds k d) := by
  unfold putK putE
  rw [h.any (k := k)]
  split
  · exact h.mapPut i
  · exact h.snoc i
theorem IsD.merge {K : PySem.W.Frag} {G : Hp} : ∀ {ws : List (Key × V)} {es : List (Key × D)} {vs : List (Key × V)} {ds : List (Key × D)}, IsD K G ws es → IsD K G vs ds → IsD K G (mergeK vs ws) (mergeE ds es)
  | _, _, _, _, .nil, h => h
  | _, _, _, _, .cons i q, h => by
    unfold mergeK mergeE
    rw [List.foldl_cons, List.foldl_cons]
    exact IsD.merge q (h.put i)
def WD (X : Cx) (an : An) (dr : Option Dr) (ρ : Rho) : List Expr → List Expr → Om → (List (Key × D) → Om → Prop) → Prop
  | [], [], om, Q => Q [] om
  | k :: ks, v :: vs, om, Q => WE X an dr ρ om k fun rk om1 => ∃ key, rk = .v (keyDat key) ∧ WE X an dr ρ om1 v fun rv om2 => ∃ d, rv = .v d ∧ WD X an dr ρ ks vs om2 fun kds om3 => Q ((key, d) :: kds) om3
  | _, _, _, _ => False
def trsU (X : Cx) (an : An) (dr : Option Dr) : List Expr → List Expr → List (TE × TE)
  | k :: ks, v :: vs => (uE X an dr k, uE X an dr v) :: trsU X an dr ks vs
  | _, _ => []
theorem pps_u : ∀ {ks vs : List Expr}, ks.length = vs.length → PPs X pos (ks.map some) vs (trsU X an dr ks vs)
  | [], [], _ => pps_nil
  | k :: ks, v :: vs, h => pps_cons pe_u pe_u (pps_u (Nat.succ.inj h))
theorem wd_run {σ : L2.St} : ∀ {ks vs : List Expr} {om : Om} {Q : List (Key × D) → Om → Prop} {τ : List Addr} {G H : Hp} {Z : List (V × V) → Hp → Prop}, WD X an dr ρ ks vs om Q → Good X.K an dr om τ G H → EnvIs X.K G τ σ ρ →
    (∀ kvs kds om' τ' G' H', Q kds om' → IsD X.K G' kvs kds → kds.length = ks.length → Good X.K an dr om' τ' G' H' → Grow G τ G' τ' → Z (kvs.map fun kv => (kV kv.1, kv.2)) H') → tPairs (trsU X an dr ks vs) σ H Z
  | [], [], om, Q, τ, G, H, Z, w, g, n, k => k [] [] om τ G H w .nil rfl g (Grow.refl _ _)
  | e :: ks, f :: vs, om, Q, τ, G, H, Z, w, g, n, k => by
    refine uE_of w g n fun v r om1 τ1 G1 H1 i1 w1 g1 gr1 n1 => ?_
    obtain ⟨key, rfl, w1⟩ := w1
    refine uE_of w1 g1 n1 fun v2 r2 om2 τ2 G2 H2 i2 w2 g2 gr2 n2 => ?_
    obtain ⟨d, rfl, w2⟩ := w2
    cases i1 with
    | v i1 =>
      cases i2 with
      | v i2 =>
        obtain rfl := keyDat_is i1
        exact wd_run w2 g2 n2 fun kvs kds om' τ' G' H' q id l g' gr' => k ((key, v2) :: kvs) ((key, d) :: kds) om' τ' G' H' q (.cons (i2.mono gr'.ex) id) (congrArg (· + 1) l) g' ((gr1.trans gr2).trans gr')
  | [], _ :: _, _, _, _, _, _, _, w, _, _, _ => w.elim
  | _ :: _, [], _, _, _, _, _, _, w, _, _, _ => w.elim
theorem we_disp {ks vs : List Expr} (hl : ks.length = vs.length) (h0 : ks ≠ []) (h15 : ks.length ≤ 15) (h : WD X an dr ρ ks vs (om ++ [some (.dic [])]) fun kds om1 => om1 = om ++ [some (.dic [])] ∧ Q (.v (.dic (mergeE [] kds))) om) : WE X an dr ρ om (.Dict (ks.map some) vs pos) Q := by
  refine peI (pe_lk (pe_disp (pps_u (an := an) (dr := dr) hl) (by simp) (by rw [List.length_map]; exact hl) (by simpa using h0) (by rw [List.length_map]; exact h15))) fun σ H K' ⟨τ, G, g, n, k⟩ D0 hD => ?_
  have gf := g.freshO (o := .dK []) (d := .dic []) hD ⟨[], rfl, .nil⟩
  refine wd_run h gf (n.mono Good.growF) fun kvs kds om' τ' G' H' q id l g' gr' => ?_
  obtain ⟨rfl, q⟩ := q
  have e7 := tau_snoc g.len g' gr'
  subst e7
  have hk : (τ ++ [D0])[om.length]? = some D0 := by rw [g.len, List.getElem?_append_right (Nat.le_refl _), Nat.sub_self]; rfl
  have ho : (om ++ [some (D.dic [])])[om.length]? = some (some (.dic [])) := by rw [List.getElem?_append_right (Nat.le_refl _), Nat.sub_self]; rfl
  obtain ⟨f1, _, _, o, f4, f5⟩ := g'.own om.length D0 _ hk ho
  obtain ⟨vs0, rfl, f6⟩ := f5
  cases f6
  refine ⟨f4, kvs, rfl, by rw [id.length, l]; exact h15, .inr ⟨D0, _, upd_same, trivial, fun od => ?_⟩⟩
  rw [upd_upd]
  have gc := g'.close (o := .frz od (.dK (mergeK [] kvs))) hk ho
  have e6 : (om ++ [some (D.dic [])]).set om.length none = om ++ [none] := by
    rw [List.set_append_right _ _ (Nat.le_refl _), Nat.sub_self]; rfl
  rw [e6] at gc
  exact k _ _ om τ _ _ (.v (.dic upd_same (IsD.merge (id.mono (Ex.new f1)) .nil))) q (gc.drop g.ti) ⟨gr'.ex.trans (Ex.new f1), fun _ _ h => h⟩
theorem we_lenScr {ad : Addr} {ns : List Int} (hS : SqL X.K an.H0 ad (ns.map V.int)) (hof : an.H0 ad ≠ none → Off dr ad) (hm : X.mg "len" = none) (h : WE X an dr ρ om e fun r om1 => r = .v (.obj ad) ∧ Q (.v (.int (ns.length : Nat))) om1) (hg : Gl X "len" := by rfl)
    (he : starEach [e] X.env = (false, eval e X.env) :: starEach [] X.env := by rfl) (hpl : (backTo pos (starEach [] X.env)).any (·.1) = false := by rfl) : WE X an dr ρ om (.Call (.Name "len" p) [e] [] pos) Q :=
  peI (pe_callB call_len_seq hg hm PySem.boot_len (pa_cons (pe_u (an := an) (dr := dr)) pa_nil he) (by decide) (by decide) he hpl) fun σ H K' ⟨τ, G, g, n, k⟩ => uE_of h g n fun v r om1 τ1 G1 H1 h1 w g1 gr1 n1 => by
    obtain ⟨rfl, w⟩ := w
    cases h1 with
    | v h1 =>
      cases h1
      have s1 : SqL X.K H1 ad (ns.map V.int) := by
        rcases hS with (h | ⟨o, h⟩) | h
        · exact .inl (.inl (g1.a2 _ _ h (hof (by rw [h]; exact fun z => nomatch z))))
        · exact .inl (.inr ⟨o, g1.a2 _ _ h (hof (by rw [h]; exact fun z => nomatch z))⟩)
        · exact .inr h
      exact ⟨ad, _, rfl, .inl s1, k _ _ om1 τ1 G1 H1 (.v (by rw [List.length_map]; exact .int _)) w g1 gr1⟩
def uSd (X : Cx) (an : An) (sts : List Stmt) : TS := fun Z σ H => ∃ dr, uS X an dr sts Z σ H
end
def spLaw (T : List (Addr × Str)) (K : PySem.W.Frag) : Sp := fun vs H Q _ => ∃ (a : Addr) (ns : List Int), vs = [.ref a] ∧ SqL K H a (ns.map V.int) ∧ ns.length ≤ 63 ∧ (∀ t ∈ T, H t.1 = some (.tbl #[])) ∧ ∀ v H', v = .bl true → Q v H'
def spBegin (K : PySem.W.Frag) : Sp := fun vs H Q _ => ∃ (a : Addr) (ns : List Int), vs = [.ref a] ∧ SqL K H a (ns.map V.int) ∧ ns.length ≤ 63 ∧
  ∀ (x : Dr) (H' : Hp), H x.d = none → H x.g = none → H x.c = none → x.c ≠ x.g → x.cs.length ≤ sizeLine → DrawIn H' x → (∀ b o, H b = some o → H' b = some o) → Q (.ref x.d) H'
structure HasB (P : Program) (w : World) (K : PySem.W.Frag) (mg : Str → Option Value) (base : Heap) (k : Nat) (x : Str) (ps : List Str) : Prop where
  ex : ∃ f fd, FnG P w K mg base CX0 k f fd ps (spBegin K) ∧ mg x = some (.ref f) ∧ PySem.W.keepIn K (.ref f) = true ∧ Binds K fd ps []
section
variable {P : Program} {w : World} {K : PySem.W.Frag} {mg : Str → Option Value} {base : Heap} {N : List Str} {k : Nat}
end
end DL

namespace DL
open PySem L2
section
variable {X : Cx} {an : An} {dr : Option Dr} {ρ : Rho} {om : Om} {a b : Expr} {pos : Pos}
theorem ws_parC {i j : Nat} {x y : Str} {px py pt : Pos} {kt k2 pt2} {E : Ed} (hc : X.calm = true) (hN : X.N.Nodup) (hi : X.N[i]? = some x) (hj : X.N[j]? = some y) (hx : Loc X.env.scope x) (hy : Loc X.env.scope y)
    (h : WA X an dr ρ om [a, b] fun rs om1 => ∃ r1 r2, rs = [r1, r2] ∧ E.nx ((ρ.set i (some r1)).set j (some r2)) om1)
    (hw : swappedStores [.Tuple [.Name x px, .Name y py] kt pt] (.Tuple [a, b] k2 pt2) X.env = pure none := by rfl) (hs : swapsWithSole [.Tuple [.Name x px, .Name y py] kt pt] (.Tuple [a, b] k2 pt2) pos.line X.env = pure false := by rfl)
    (h1 : (assignEach [.Tuple [.Name x px, .Name y py] kt pt] X.env).map (·.2) = [assign (.Tuple [.Name x px, .Name y py] kt pt) X.env] := by rfl) (hn : (assignEach [.Name x px, .Name y py] X.env).length = 2 := by rfl) (hst : (assignEach [.Name x px, .Name y py] X.env).findIdx? (·.1) = none := by rfl)
    (hs1 : (assignEach [.Name x px, .Name y py] X.env).map (·.2) = assign (.Name x px) X.env :: (assignEach [.Name y py] X.env).map (·.2) := by rfl) (hs2 : (assignEach [.Name y py] X.env).map (·.2) = assign (.Name y py) X.env :: (assignEach [] X.env).map (·.2) := by rfl)
    (hfx : X.fn x = true ∨ X.env.scope.names.lookup x = some .local := by first | exact .inl rfl | exact .inr rfl | assumption) (hfy : X.fn y = true ∨ X.env.scope.names.lookup y = some .local := by first | exact .inl rfl | exact .inr rfl | assumption) :
    WS X an dr ρ om (.Assign [.Tuple [.Name x px, .Name y py] kt pt] (.Tuple [a, b] k2 pt2) pos) E :=
  psI (ps_asg (pe_tup (pa_u (an := an) (dr := dr))) (pg_seq hc (pgs_cons (pg_name (i := i) hN hi hx hfx) (pgs_cons (pg_name (i := j) hN hj hy hfy) pgs_nil hs2) hs1) hn hst) hs hw h1) fun Z σ H ⟨τ, G, g, n, hl, h1, _⟩ => uA_of h g n fun vs rs om1 τ1 G1 H1 i1 w g1 gr1 n1 => by
    obtain ⟨r1, r2, rfl, w⟩ := w
    cases i1 with
    | @cons v1 _ _ _ a1 i1 =>
      cases i1 with
      | @cons v2 _ _ _ a2 i1 =>
        cases i1
        refine ⟨by show 2 ≤ sizeLine; decide, fun p hp => .inl ⟨_, _, rfl, .inl (.inl upd_same), rfl, _, _, rfl, _, _, rfl, rfl, ?_⟩⟩
        have gr2 := g1.grow (o := .tup [v1, v2]) hp
        exact h1 _ _ ⟨_, om1, τ1, _, w, g1.alloc hp, ((n1.mono gr2).set hl (a1.mono gr2)).set (by rw [List.length_set, List.length_set]; exact hl) (a2.mono gr2), gr1.trans gr2, by rw [List.length_set, List.length_set]; exact hl, by rw [List.length_set, List.length_set]⟩
end
end DL

namespace DL
open PySem L2
structure HasK (P : Program) (w : World) (K : PySem.W.Frag) (mg : Str → Option Value) (base : Heap) (dr : Option Dr) (k : Nat) (x : Str) (ps : List Str) (W : Wp) : Prop where
  ex : ∃ f fd, FnOk P w K mg base CX0 k f fd ps (spD K dr W) ∧ mg x = some (.ref f) ∧ PySem.W.keepIn K (.ref f) = true ∧ Binds K fd ps []
  mono : ∀ ds Q Q', (∀ d, Q d → Q' d) → W ds Q → W ds Q'
theorem HasK.g {P : Program} {w : World} {K : PySem.W.Frag} {mg : Str → Option Value} {base : Heap} {dr : Option Dr} {k : Nat} {x : Str} {ps : List Str} {W : Wp} (h : HasK P w K mg base dr k x ps W) : Has P w K mg base dr k x ps W := by
  obtain ⟨f, fd, F, r⟩ := h.ex
  exact ⟨⟨f, fd, .of F, r⟩, h.mono⟩
section
variable {P : Program} {w : World} {K : PySem.W.Frag} {mg : Str → Option Value} {base : Heap} {dr : Option Dr} {N ps : List Str} {W : Wp} {k : Nat}
theorem fnK {x qual : Str} {st : Stmt} {f : Addr} {fd : FuncData} (F : FunA K x qual st f fd) (S : FnScope N ps (defScope st)) (hlen : ∀ ds Q, W ds Q → ds.length = ps.length)
    (hb : ∀ (cdv : Value) (A : Around) (outer : List Env) (s : Shared) (H : Hp) (E : XK) (an : An) (ds : List D) (post : D → Prop), Room k (A.deeper (PyProof.Rows.envOfC qual (defScope st) s.heap.objs.size f cdv)) → W ds post →
      WSs (cxOf CX0 P w K mg base N qual (defScope st) f cdv A outer s H E).nox an dr (startR N ds) [] (defBody st) { nx := fun _ _ => post .non, rt := post }) : FnOk P w K mg base CX0 (k + 1) f fd ps (spD K dr W) := by
  refine F.ok S (fun vs H Q E h => ?_) (fun cdv A outer s H vs Q E hr h => ?_)
  · obtain ⟨G, ds, _, i, h⟩ := h
    rw [i.length]
    exact hlen _ _ h
  · obtain ⟨G, ds, pr, i, h⟩ := h
    refine ⟨_, hb cdv A outer s H E ⟨G, strip H, false, []⟩ ds _ hr h, [], G, pr.good, env_start i, ?_, fun σ' H' q => ?_, fun v H' q => ?_, fun σ' H' q => ?_, fun σ' H' q => ?_⟩
    · unfold L2.start startR
      rw [List.length_append, List.length_append, List.length_map, List.length_map, List.length_replicate, List.length_replicate, i.length]
    · obtain ⟨ρ', om', τ', G', p, g, _, gr, _⟩ := q
      exact p .non G' H' .non g.frm
    · obtain ⟨d, om', τ', G', p, i', g, gr⟩ := q
      rcases i' with i' | ⟨z, _⟩
      · exact p v G' H' i' g.frm
      · cases z
    · obtain ⟨_, _, _, _, p, _⟩ := q
      exact p
    · obtain ⟨_, _, _, _, p, _⟩ := q
      exact p
end
section
variable {X : Cx} {an : An} {dr : Option Dr} {ρ : Rho} {om : Om} {e e2 o : Expr} {es : List Expr} {pos p apos : Pos} {Q : R → Om → Prop} {x f own m : Str} {ps : List Str} {W : Wp} {k j : Nat} {C : Addr}
theorem we_callK (h : HasK X.prog X.w X.K X.mg X.base dr k x ps W) (hr : Room j X.A) (hw : WA X an dr ρ om (e :: es) fun rs om1 => allV rs fun ds => W ds fun d => Q (.v d) om1) (hkj : k ≤ j := by decide) (hg : Gl X x := by rfl) (hdb : (x == ("__debug__" : Str)) = false := by decide)
    (he : starEach (e :: es) X.env = (false, eval e X.env) :: starEach es X.env := by rfl) (hpl : (backTo pos (starEach es X.env)).any (·.1) = false := by rfl) : WE X an dr ρ om (.Call (.Name x p) (e :: es) [] pos) Q := by
  obtain ⟨f, fd, F, hm, hk, hb⟩ := h.ex
  refine peI (pe_call F (hr.mono hkj) hg hm hk hb .nil pass0 (pa_u (an := an) (dr := dr)) hdb he hpl) fun σ H K' ⟨τ, G, g, n, k⟩ => uA_of hw g n fun vs rs om1 τ1 G1 H1 h1 w g1 gr1 n1 => ?_
  obtain ⟨ds, i, w⟩ := allV_is h1 w
  show spD X.K dr W (vs ++ []) H1 K' E0
  rw [List.append_nil]
  refine ⟨G1, ds, g1.pre, i, h.mono _ _ _ (fun d q v G' H' i' fr => ?_) w⟩
  exact k v _ om1 τ1 G' H' (.v i') q (g1.call fr) (gr1.trans ⟨fr.e1, fun _ _ h => h⟩)
theorem we_fld (c : Cls X.K C) (n : NoAttr X.K C f) (h : WE X an dr ρ om e fun r om1 => ∃ fds d, vw om1 r = .ins C fds ∧ fds.lookup f = some d ∧ Q (.v d) om1) (hb : attributeBase e f X.env (eval e X.env) = eval e X.env := by rfl) : WE X an dr ρ om (.Attribute e f pos) Q :=
  peI (pe_fld (pe_u (an := an) (dr := dr)) hb) fun σ H K' ⟨τ, G, g, n1, k⟩ => uE_of h g n1 fun v r om1 τ1 G1 H1 h1 w g1 gr1 n2 => by
    obtain ⟨fds, d, ev, hl, q⟩ := w
    obtain ⟨a, dx, fs, rfl, ha, i⟩ := vw_ins g1 h1 ev
    obtain ⟨u, hu, iu⟩ := i.some hl
    exact ⟨a, C, dx, fs, u, rfl, ha, c, n, hu, k _ _ om1 τ1 G1 H1 (.v iu) q g1 gr1⟩
theorem ws_fld {E : Ed} {pos' : Pos} (c : Cls X.K C) (n : NoAttr X.K C f) (h : WE X an dr ρ om e fun r om1 => ∃ d, r = .v d ∧ WE X an dr ρ om1 o fun ro om2 => ∃ k fds, ro = .o k ∧ om2[k]? = some (some (.ins C fds)) ∧ fds.length < 1000 ∧ E.nx ρ (om2.set k (some (.ins C (putD f d fds)))))
    (hs : swapsWith e (some (.Attribute o f pos')) pos.line X.env = pure false := by rfl) : WS X an dr ρ om (.Assign [.Attribute o f pos'] e pos) E :=
  psI (ps_fld (pe_u (an := an) (dr := dr)) (pe_u (an := an) (dr := dr)) hs) fun Z σ H ⟨τ, G, g, n1, hl, h1, _⟩ => uE_of h g n1 fun v r om1 τ1 G1 H1 i1 w g1 gr1 n2 => by
    obtain ⟨d, rfl, w⟩ := w
    refine uE_of w g1 n2 fun v2 r2 om2 τ2 G2 H2 i2 w2 g2 gr2 n3 => ?_
    obtain ⟨k, fds, rfl, hk, hz, q⟩ := w2
    cases i2 with
    | @o a _ ha =>
      obtain ⟨_, _, _, _, h3, dx, fs, rfl, i3⟩ := g2.own k a _ ha hk
      cases i1 with
      | v i1 => exact ⟨a, C, dx, fs, rfl, h3, c, n, by rw [i3.length]; exact hz, h1 σ _ ⟨ρ, _, τ2, G2, q, g2.writeO ha hk ⟨dx, _, rfl, i3.putF (i1.mono gr2.ex)⟩, n3, gr1.trans gr2, hl, rfl⟩⟩
structure HasP (P : Program) (w : World) (K : PySem.W.Frag) (mg : Str → Option Value) (base : Heap) (k : Nat) (C : Addr) (f own : Str) : Prop where
  ex : ∃ p g fd, FnOk P w K mg base CX0 k g fd ["self"] (getSp C own) ∧ PropOf K C f p g ∧ Binds K fd ["self"] []
  cl : Cls K C
theorem we_prop (h : HasP X.prog X.w X.K X.mg X.base k C f own) (hr : Room j X.A) (hw : WE X an dr ρ om e fun r om1 => ∃ fds d, vw om1 r = .ins C fds ∧ fds.lookup own = some d ∧ Q (.v d) om1) (hkj : k + 1 ≤ j := by decide)
    (hb : attributeBase e f X.env (eval e X.env) = eval e X.env := by rfl) : WE X an dr ρ om (.Attribute e f pos) Q := by
  obtain ⟨p, g0, fd, F, hp, bi⟩ := h.ex
  refine peI (pe_prop (pe_u (an := an) (dr := dr)) h.cl hp F (hr.mono hkj) bi .nil pass0 hb) fun σ H K' ⟨τ, G, g, n1, k⟩ => uE_of hw g n1 fun v r om1 τ1 G1 H1 h1 w g1 gr1 n2 => ?_
  obtain ⟨fds, d, ev, hl, q⟩ := w
  obtain ⟨a, dx, fs, rfl, ha, i⟩ := vw_ins g1 h1 ev
  obtain ⟨u, hu, iu⟩ := i.some hl
  exact ⟨a, dx, fs, rfl, ha, a, dx, fs, u, rfl, ha, hu, k _ _ om1 τ1 G1 H1 (.v iu) q g1 gr1⟩
structure HasM (P : Program) (w : World) (K : PySem.W.Frag) (mg : Str → Option Value) (base : Heap) (dr : Option Dr) (k : Nat) (C : Addr) (m : Str) (ps : List Str) (W : Wp) : Prop where
  ex : ∃ f fd, FnOk P w K mg base CX0 k f fd ps (spD K dr W) ∧ Meth K C m f ∧ Binds K fd ps []
  cl : Cls K C
  mono : ∀ ds Q Q', (∀ d, Q d → Q' d) → W ds Q → W ds Q'
theorem we_meth {pl : Sem Bool} (h : HasM X.prog X.w X.K X.mg X.base dr k C m ps W) (hr : Room j X.A) (hw : WE X an dr ρ om o fun ro om1 => ∃ fds, ro = .v (.ins C fds) ∧ fds.lookup m = none ∧ WA X an dr ρ om1 (e :: es) fun rs om2 => allV rs fun ds => W (.ins C fds :: ds) fun d => Q (.v d) om2)
    (hkj : k ≤ j := by decide) (hst : starEach (e :: es) X.env = (false, eval e X.env) :: starEach es X.env := by rfl) (hpl : (backTo pos (starEach es X.env)).any (·.1) = false := by rfl)
    (ht : eval (.Call (.Attribute o m apos) (e :: es) [] pos) X.env = (do
      let ov ← eval o X.env
      standAt apos.atName
      let (f, first) ← holding [ov] (getMethod ov m pl)
      callWith pos f first (backTo pos (starEach (e :: es) X.env)) (backToKw pos (keywordEach [] X.env))) := by rfl) : WE X an dr ρ om (.Call (.Attribute o m apos) (e :: es) [] pos) Q := by
  obtain ⟨f, fd, F, hm, bi⟩ := h.ex
  refine peI (pe_meth (pl := pl) (pe_u (an := an) (dr := dr)) h.cl hm F (hr.mono hkj) bi .nil pass0 (pa_u (an := an) (dr := dr)) hst hpl ht) fun σ H K' ⟨τ, G, g, n1, k⟩ => uE_of hw g n1 fun v r om1 τ1 G1 H1 h1 w g1 gr1 n2 => ?_
  obtain ⟨fds, rfl, hl, w⟩ := w
  cases h1 with
  | v h1 =>
    cases h1 with
    | @ins a _ dx fs _ ha i =>
      refine ⟨a, dx, fs, rfl, g1.ex _ _ ha, i.none hl, uA_of w g1 n2 fun vs rs om2 τ2 G2 H2 h2 w2 g2 gr2 n3 => ?_⟩
      obtain ⟨ds, i2, w2⟩ := allV_is h2 w2
      rw [List.append_nil]
      refine ⟨G2, _, g2.pre, .cons (.ins (gr2.ex _ _ ha) (i.mono gr2.ex)) i2, h.mono _ _ _ (fun d q v G' H' i' fr => ?_) w2⟩
      exact k v _ om2 τ2 G' H' (.v i') q (g2.call fr) ((gr1.trans gr2).trans ⟨fr.e1, fun _ _ h => h⟩)
end
end DL

namespace DL
open PySem L2
def spI (K : PySem.W.Frag) (dr : Option Dr) (C : Addr) (W : Wp) : Sp := fun vs H Q _ => ∃ G ds x dx ws, vs = .ref x :: ws ∧ Pre dr G H ∧ IsL K G ws ds ∧ H x = some (.ins C dx []) ∧ G x = none ∧ Off dr x ∧ W ds fun d => ∀ G' H', Is K G' (.ref x) d → Frm dr G (cut H x) G' H' → Q .non H'
structure HasI (P : Program) (w : World) (K : PySem.W.Frag) (mg : Str → Option Value) (base : Heap) (dr : Option Dr) (k : Nat) (x : Str) (C : Addr) (ps : List Str) (W : Wp) : Prop where
  ex : ∃ f fd, FnOk P w K mg base CX0 k f fd ps (spI K dr C W) ∧ Mk K C f ∧ Binds K fd ps []
  at_ : mg x = some (.ref C)
  mono : ∀ ds Q Q', (∀ d, Q d → Q' d) → W ds Q → W ds Q'
section
variable {P : Program} {w : World} {K : PySem.W.Frag} {mg : Str → Option Value} {base : Heap} {dr : Option Dr} {N ps : List Str} {W : Wp} {k : Nat}
end
section
variable {X : Cx} {an : An} {dr : Option Dr} {ρ : Rho} {om : Om} {e e2 o : Expr} {es : List Expr} {pos p apos : Pos} {Q : R → Om → Prop} {x f own m : Str} {ps : List Str} {W : Wp} {k j : Nat} {C : Addr}
def tyV : D → Option Value
  | .ins C _ => some (.ref C)
  | d => (tyN d).map Value.type
theorem tyV_of {d : D} {t : Value} (h : tyV d = some t) : (∃ C fs, d = .ins C fs ∧ t = .ref C) ∨ ∃ n, tyN d = some n ∧ t = .type n := by
  cases d
  case ins C fs => exact .inl ⟨C, fs, rfl, (Option.some.inj h).symm⟩
  all_goals
    refine .inr ?_
    simp only [tyV, Option.map_eq_some_iff] at h
    obtain ⟨n, hn, e⟩ := h
    exact ⟨n, hn, e.symm⟩
structure ClsX (K : PySem.W.Frag) (C : Addr) : Prop where
  cl : Cls K C
  ha : PySem.W.findIn K (.ref C) "__class__" = some (some (.builtin "object.__class__"))
  hn : PySem.W.specialIn K (.builtin "object.__class__") "__get__" = some (some (.builtin "getset_descriptor.__get__"))
  htk : PySem.W.takesIn K (.builtin "object.__class__") = some true
  hm : PySem.W.mroIn K C (.type "object") = some true
def isiU (K : PySem.W.Frag) : Wp := fun ds P => match ds with
  | [x, .obj C] => ∃ t b, tyV x = some t ∧ (∀ B fs, x = .ins B fs → ClsX K B) ∧ PySem.W.kitOne K t (.ref C) = some b ∧ P (.bl b)
  | _ => False
theorem isiU_mono {K : PySem.W.Frag} : ∀ ds Q Q', (∀ d, Q d → Q' d) → isiU K ds Q → isiU K ds Q' := fun ds Q Q' i h => by
  unfold isiU at h ⊢
  split at h
  · obtain ⟨t, b, h1, h2, h3, h4⟩ := h; exact ⟨t, b, h1, h2, h3, i _ h4⟩
  · exact h.elim
theorem cb_isiU : CallR X (.builtin "isinstance") (rB X (isiU X.K)) := by
  intro pins s σ H xs us Q I r h
  obtain ⟨an, dr, om, τ, G, rs, g, hp, h⟩ := h
  unfold isiU at h
  split at h
  · rename_i x C e
    obtain ⟨v, r0, v', r1, rfl, rfl, i, ev, i', ev'⟩ := two_args hp e
    obtain ⟨t, b, ht, hc, hk, q⟩ := h
    have i2 := vw_not g i' ev' rfl
    cases i2
    refine call_isi pins s σ H _ us Q I r ⟨v, .ref C, t, .ref C, b, rfl, ?_, ?_, hk, q.flat g (.bl _)⟩
    · constructor
    · rcases tyV_of ht with ⟨B, fs, rfl, rfl⟩ | ⟨n, hn, rfl⟩
      · obtain ⟨a, dx, ws, rfl, hx, _⟩ := vw_ins g i ev
        obtain ⟨c1, c2, c3, c4, c5⟩ := hc B fs rfl
        exact .base (.ins hx c1 c2 c3 c4 c5)
      · exact vw_ty g i ev hn
  · exact h.elim
end
end DL

namespace DL
open PySem L2
def valE {κ : Type} [DecidableEq κ] (kds : List (κ × D)) (k : κ) : Option D := (kds.find? fun kv => decide (kv.1 = k)).map (·.2)
section
variable {K : PySem.W.Frag} {G : Hp} {κ : Type} [DecidableEq κ]
theorem valE_pos {p : κ × D} {r : List (κ × D)} {k : κ} (e : p.1 = k) : valE (p :: r) k = some p.2 := by simp [valE, List.find?_cons, e]
theorem valE_neg {p : κ × D} {r : List (κ × D)} {k : κ} (e : ¬ p.1 = k) : valE (p :: r) k = valE r k := by simp [valE, List.find?_cons, e]
theorem isD_valS {k : κ} {d : D} : ∀ {vs : List (κ × V)} {ds : List (κ × D)}, IsD K G vs ds → valE ds k = some d → ∃ v, valV vs k = some v ∧ Is K G v d
  | _, _, .nil, e => by cases e
  | _, _, .cons (k := j) (v := v) i q, e => by
    by_cases h : j = k
    · rw [valE_pos h] at e; cases e; exact ⟨v, valV_pos h, i⟩
    · rw [valE_neg h] at e; rw [valV_neg h]; exact isD_valS q e
theorem isD_valN {k : κ} : ∀ {vs : List (κ × V)} {ds : List (κ × D)}, IsD K G vs ds → (valV vs k).isSome = (valE ds k).isSome
  | _, _, .nil => rfl
  | _, _, .cons (k := j) i q => by
    by_cases h : j = k
    · rw [valE_pos h, valV_pos h]; rfl
    · rw [valE_neg h, valV_neg h]; exact isD_valN q
end
theorem isD_at {K : PySem.W.Frag} {G : Hp} {κ : Type} {k : κ} {v : V} {z : κ × D} : ∀ {vs : List (κ × V)} {ds : List (κ × D)} {j : Nat}, IsD K G vs ds → vs[j]? = some (k, v) → ds[j]? = some z → z.1 = k ∧ Is K G v z.2
  | _, _, _, .nil, e, _ => by simp at e
  | _, _, 0, .cons i q, e, e2 => by
    cases e
    cases e2
    exact ⟨rfl, i⟩
  | _, _, j + 1, .cons i q, e, e2 => isD_at (j := j) q e e2
section
variable {X : Cx} {an : An} {dr : Option Dr} {ρ : Rho} {om : Om} {e e2 o i : Expr} {es : List Expr} {pos p apos : Pos} {Q : R → Om → Prop} {E : Ed} {τ : List Addr} {G H : Hp}
def lenD : Wp := fun ds K => match ds with
  | [.dic kds] => K (.int (kds.length : Nat))
  | _ => False
theorem cb_lenD : CallR X (.builtin "len") (rB X lenD) := by
  intro pins s σ H xs us Q I r h
  obtain ⟨an, dr, om, τ, G, rs, g, hp, h⟩ := h
  unfold lenD at h
  split at h
  · rename_i kds e
    obtain ⟨v, r0, rfl, rfl, i, ev⟩ := one_arg hp e
    obtain ⟨a, kvs, rfl, ha, id⟩ := vw_dic g i ev
    obtain ⟨u, rfl, ru⟩ := vals1 r
    cases ru
    refine d_len I ha fun t s' I' => ⟨.int kvs.length, H, I', ⟨t, rfl⟩, ?_⟩
    rw [id.length]
    exact h.flat g (.int _)
  · exact h.elim
def itemsD (kds : List (Key × D)) : List D := kds.map fun kv => .tup [keyDat kv.1, kv.2]
end
end DL

namespace DL
open PySem L2
section
variable {X : Cx} {an : An} {dr : Option Dr} {ρ : Rho} {om : Om} {e e2 o i : Expr} {es : List Expr} {pos p apos : Pos} {Q : R → Om → Prop} {E : Ed} {τ : List Addr} {G H : Hp}
theorem isL_pairs {K : PySem.W.Frag} : ∀ {vs : List V} {ds : List D}, IsL K G vs ds → Paired (IsR K G τ) vs (ds.map R.v)
  | _, _, .nil => .nil
  | _, _, .cons h q => .cons (.v h) (isL_pairs q)
theorem paired_app {α β : Type} {r : α → β → Prop} : ∀ {a c : List α} {b d : List β}, Paired r a b → Paired r c d → Paired r (a ++ c) (b ++ d)
  | _, _, _, _, .nil, h => h
  | _, _, _, _, .cons x q, h => .cons x (paired_app q h)
theorem wa_star {Q : List R → Om → Prop} (h : WE X an dr ρ om e fun r om1 => ∃ ds, (vw om1 r = .lst ds ∨ vw om1 r = .tup ds) ∧ WA X an dr ρ om1 es fun rs om2 => Q (ds.map R.v ++ rs) om2) (hs : starEach (.Starred e p :: es) X.env = (true, eval e X.env) :: starEach es X.env := by rfl) : WA X an dr ρ om (.Starred e p :: es) Q :=
  paI (StX.pa_star (pe_u (an := an) (dr := dr)) (pa_u (an := an) (dr := dr)) hs) fun σ H K' ⟨τ, G, g, n, k⟩ =>
    uE_of h g n fun v r om1 τ1 G1 H1 h1 w g1 gr1 n1 => by
      obtain ⟨ds, ev, w⟩ := w
      have fin : ∀ {vs : List V}, IsL X.K G1 vs ds → uA X an dr es σ H1 fun ys H2 => K' (vs ++ ys) H2 := fun {vs} il => uA_of w g1 n1 fun us rs om2 τ2 G2 H2 h2 q g2 gr2 n2 => k _ _ om2 τ2 G2 H2 (paired_app (isL_pairs (il.mono gr2.ex)) h2) q g2 (gr1.trans gr2)
      rcases ev with ev | ev
      · obtain ⟨a, vs, rfl, ha, il⟩ := vw_lst g1 h1 ev
        exact ⟨a, vs, rfl, .inr (.inl (.inl ha)), fin il⟩
      · obtain ⟨a, vs, rfl, ha, il⟩ := vw_tup g1 h1 ev
        exact ⟨a, vs, rfl, .inl ha, fin il⟩
def sortF : Wp := fun ds K => match ds with
  | [.lst xs] => ∃ zs : List Str, xs = zs.map D.str ∧ zs.length < 64 ∧ ∀ ys : List Str, ys.Perm zs → PyProof.Rows.sortedS ys = true → K (.lst (ys.map D.str))
  | _ => False
theorem sortF_mono : ∀ ds Q Q', (∀ d, Q d → Q' d) → sortF ds Q → sortF ds Q' := fun ds Q Q' i h => by
  unfold sortF at h ⊢
  split at h
  · obtain ⟨zs, e, hz, q⟩ := h; exact ⟨zs, e, hz, fun ys a b => i _ (q ys a b)⟩
  · exact h.elim
theorem isL_strs {K : PySem.W.Frag} : ∀ ys : List Str, IsL K G (ys.map V.str) (ys.map D.str)
  | [] => .nil
  | _ :: ys => .cons (.str _) (isL_strs ys)
theorem cb_sort : CallR X (.builtin "sorted") (rB X sortF) := by
  intro pins s σ H xs us Q I r h
  obtain ⟨an, dr, om, τ, G, rs, g, hp, h⟩ := h
  unfold sortF at h
  split at h
  · rename_i xs e
    obtain ⟨zs, rfl, hz, q⟩ := h
    obtain ⟨v, r0, rfl, rfl, i, ev⟩ := one_arg hp e
    obtain ⟨a, vs, rfl, ha, il⟩ := vw_lst g i ev
    obtain rfl := strs_inv zs il
    refine cr_sortedS pins s σ H _ us Q I r ⟨a, zs, rfl, .inl (.inl ha), hz, fun ys p h1 h2 hp => ?_⟩
    exact q ys h1 h2 _ _ _ (.lst upd_same (isL_strs ys)) (g.alloc hp) (g.grow hp)
  · exact h.elim
theorem jok_zipT {K : PySem.W.Frag} {a b : Addr} {vs ws : List V} {ds es : List D} (h : ∀ H, Ex G H → SqT K H a vs) (i : IsL K G vs ds) (h' : ∀ H, Ex G H → SqT K H b ws) (i' : IsL K G ws es) : JOk K an dr (RZ.ItzT K a b) (zipD ds es) G τ := fun om2 τ2 G2 H2 g gr j => by
  have hs : SqT K H2 a vs := h _ fun _ _ q => g.ex _ _ (gr.ex _ _ q)
  have hs' : SqT K H2 b ws := h' _ fun _ _ q => g.ex _ _ (gr.ex _ _ q)
  refine ⟨fun hj => ⟨vs, ws, hs, hs', ?_⟩, fun d hd => ?_⟩
  · rw [i.length, i'.length]
    simp [zipD] at hj
    omega
  · obtain ⟨d1, d2, hd1, hd2, rfl⟩ := zipD_get hd
    obtain ⟨v, h1, h2⟩ := i.get hd1
    obtain ⟨v', h1', h2'⟩ := i'.get hd2
    refine ⟨⟨vs, ws, v, v', hs, hs', h1, h1'⟩, fun x H3 y => ?_⟩
    obtain ⟨T, y0, y1, rfl, hT, rfl, y, y'⟩ := y
    have e := (y vs hs).symm.trans h1
    cases e
    have e := (y' ws hs').symm.trans h1'
    cases e
    exact ⟨_, g.alloc hT, g.grow hT, .tup upd_same (.cons (h2.mono (gr.ex.trans (Ex.new (g.ex.free hT)))) (.cons (h2'.mono (gr.ex.trans (Ex.new (g.ex.free hT)))) .nil))⟩
theorem wi_zipT {Q : List D → Om → Prop} {tpos : Pos} {elts : List Expr} {kk : Nat} (hm : X.mg "zip" = none) (h : WA X an dr ρ om [e, e2] fun rs om1 => allV rs fun ds => ∃ xs ys, ds = [.tup xs, .tup ys] ∧ xs.length ≤ sizeLine ∧ Q (zipD xs ys) om1) (hg : Gl X "zip" := by rfl)
    (hs : starEach [e, e2] X.env = (false, eval e X.env) :: starEach [e2] X.env := by rfl) (hpl : (backTo pos (starEach [e2] X.env)).any (·.1) = false := by rfl) :
    WI X an dr ρ om (.Tuple elts kk tpos) (.Call (.Name "zip" p) [e, e2] [] pos) Q :=
  piI (RZ.pi_zipA hg hm (pa_u (an := an) (dr := dr)) hs hpl) fun σ H Z ⟨τ, G, g, n, k⟩ => uA_of h g n fun vs rs om1 τ1 G1 H1 h1 w g1 gr1 n1 => by
    obtain ⟨ds, i, xs, ys, rfl, hz, w⟩ := allV_is h1 w
    cases i with
    | cons i1 i =>
      cases i with
      | cons i2 i =>
        cases i
        obtain ⟨_, _, rfl, hp, il⟩ := i1.tup_inv
        obtain ⟨_, _, rfl, hp', il'⟩ := i2.tup_inv
        exact ⟨_, _, _, _, rfl, .inr ⟨hp _ g1.ex, hp' _ g1.ex, k _ _ _ _ _ _ w (by simp [zipD]; omega) g1 gr1 (fun _ => jok_zipT hp il hp' il')⟩⟩
end
end DL

namespace DL
open PySem L2
structure HasKd (P : Program) (w : World) (K : PySem.W.Frag) (mg : Str → Option Value) (base : Heap) (dr : Option Dr) (k : Nat) (x : Str) (ps : List Str) (dds : List D) (W : Wp) : Prop where
  ex : ∃ f fd dvs ds, FnOk P w K mg base CX0 k f fd ps (spD K dr W) ∧ mg x = some (.ref f) ∧ PySem.W.keepIn K (.ref f) = true ∧ Binds K fd ps ds ∧ Vals dvs ds ∧ ∀ G, IsL K G dvs dds
  mono : ∀ ds Q Q', (∀ d, Q d → Q' d) → W ds Q → W ds Q'
section
variable {X : Cx} {an : An} {dr : Option Dr} {ρ : Rho} {om : Om} {e : Expr} {es : List Expr} {pos p : Pos} {Q : R → Om → Prop} {x : Str} {ps : List Str} {W : Wp} {k j : Nat} {dds : List D}
end
end DL

namespace DL
open PySem PySem.Spec PyProof.Rows
def nubS (l : List Str) : List Str := l.foldl (fun acc k => if k ∈ acc then acc else acc ++ [k]) []
theorem nubS_snoc (l : List Str) (k : Str) : nubS (l ++ [k]) = if k ∈ nubS l then nubS l else nubS l ++ [k] := by
  unfold nubS
  rw [List.foldl_append]
  rfl
section
variable {prog : Program} {w : World} {A : Around} {R : Result → Shared → Prop} {I : Addr} {fp wr : List Addr} {G : Array GenState → Array GenState → Prop} {n : Nat} {P : Nat → Value → Prop} {St : Nat → Shared → Prop}
def hasS (l : List Str) : Str → Bool := fun j => decide (j ∈ nubS l)
theorem set_turns (W : WalksS prog w A.in1 I fp wr G n P St) (S : Addr) (off : S ∉ fp) (xs : List Str) (len : xs.length = n) (val : ∀ i v, P i v → ∃ t, v = .str (xs.getD i Str.empty) t) (few : n + 1 < scanBound) (le : ∀ l : List Str, (nubS l).length ≤ l.length) :
    ∀ (k i : Nat) (s : Shared), n - i = k → i ≤ n → St i s → s.heap.SetOf (PySem.strKind prog w) S (hasS (xs.take i)) (nubS (xs.take i)).length →
      (∀ s', Moved (S :: wr) G s s' → s'.heap.SetOf (PySem.strKind prog w) S (hasS xs) (nubS xs).length → R (.ok (.ret .none)) s') → codeAny (model prog w) A (.builtin "set.update.loop" ⟨[.ref S, .ref I], []⟩) R s := by
  have offW : S ∉ wr := fun h => off (W.sub _ h)
  have wider : ∀ b ∈ wr, b ∈ S :: wr := fun b hb => List.mem_cons_of_mem _ hb
  intro k
  induction k with
  | zero =>
    intro i s hk hi st held fin
    obtain rfl : i = n := by omega
    refine codeAny_builtin F.entry_set_update_loop ?_; rw [Around.under_plainId F.plain_set_update_loop _]; show wpAny _ A.in1 (pyNext (.ref I) >>= _) _ _ s
    refine wpAny_bind (W.done s _ _ st fun s' mv => ?_); show wpAny _ A.in1 (ret Value.none) _ _ s'
    refine wpAny_pure (fin s' (mv.mono wider) ?_)
    obtain ⟨o, es, ep, t, ho, rest⟩ := held
    rw [← len, List.take_length] at rest
    exact ⟨o, es, ep, t, mv.heap S _ offW ho, rest⟩
  | succ k ih =>
    intro i s hk hi st held fin
    have lt : i < n := by omega
    refine codeAny_builtin F.entry_set_update_loop ?_; rw [Around.under_plainId F.plain_set_update_loop _]; show wpAny _ A.in1 (pyNext (.ref I) >>= _) _ _ s
    refine wpAny_bind (W.item i s _ _ lt st fun v s' hP st' mv => ?_)
    obtain ⟨t, rfl⟩ := val i v hP
    have held' : s'.heap.SetOf (PySem.strKind prog w) S (hasS (xs.take i)) (nubS (xs.take i)).length := by
      obtain ⟨o, es, ep, tb, ho, rest⟩ := held
      exact ⟨o, es, ep, tb, mv.heap S _ offW ho, rest⟩
    have small := le (xs.take i)
    rw [List.length_take] at small
    show wpAny _ A.in1 (holding [Value.str (xs.getD i Str.empty) t] (setAdd S (.str (xs.getD i Str.empty) t)) >>= _) _ _ s'
    refine wpAny_bind (wpAny_holding ?_); unfold setAdd; refine wpAny_holding ?_
    refine wpAny_bind ((PySem.strKind prog w).pyHash (k := xs.getD i Str.empty) (strKind_is _ _ _ _) ?_)
    refine wpAny_setAddHashed_of (knd := PySem.strKind prog w) (s := { s' with toks := s'.toks + 1 }) (strKind_is _ _ _ _) rfl held' (by omega) fun h' sb held2 => ?_
    have et : xs.take (i + 1) = xs.take i ++ [xs.getD i Str.empty] := by
      rw [List.take_add_one, List.getElem?_eq_getElem (by omega), List.getD_eq_getElem?_getD, List.getElem?_eq_getElem (by omega)]; rfl
    have next : h'.SetOf (PySem.strKind prog w) S (hasS (xs.take (i + 1))) (nubS (xs.take (i + 1))).length := by
      refine SetOf_congr held2 (fun j => ?_) ?_
      · unfold hasS
        rw [et, nubS_snoc, Bool.eq_iff_iff, Bool.or_eq_true, decide_eq_true_eq, decide_eq_true_eq, decide_eq_true_eq]
        split
        · rename_i q; exact ⟨fun z => z.elim id fun z => z ▸ q, .inl⟩
        · rw [List.mem_append, List.mem_singleton]
      · rw [et, nubS_snoc]
        by_cases q : xs.getD i Str.empty ∈ nubS (xs.take i)
        · rw [if_pos q, if_pos (show hasS (xs.take i) (xs.getD i Str.empty) = true from decide_eq_true q)]
        · rw [if_neg q, List.length_append, if_neg (show ¬ hasS (xs.take i) (xs.getD i Str.empty) = true from fun z => q (of_decide_eq_true z))]; rfl
    refine wpAny_pure ⟨plainId_quiet F.plain_set_update_loop _, ih (i + 1) _ (by omega) lt (W.frame _ s' _ _ st' (Nat.le_succ _) fun b hb o e => ?_) next fun s'' mv2 held3 => ?_⟩
    · rw [sb.2 b (fun z : b = S => off (z ▸ hb))]; exact e
    · refine fin s'' (Moved.trans W.gtrans ((mv.mono wider).then_heap (Nat.le_succ _) fun b o hb e => ?_) mv2) held3
      rw [sb.2 b (fun z : b = S => hb (by rw [z]; exact List.mem_cons_self))]; exact e
end
end DL

namespace DL
open PySem PySem.Spec PyProof.Rows
theorem nubS_le : ∀ l : List Str, (nubS l).length ≤ l.length := by
  have key : ∀ (l acc : List Str), (l.foldl (fun acc k => if k ∈ acc then acc else acc ++ [k]) acc).length ≤ acc.length + l.length := by
    intro l
    induction l with
    | nil => intro acc; exact Nat.le_refl _
    | cons a l ih =>
      intro acc
      rw [List.foldl_cons, List.length_cons]
      split
      · have := ih acc; omega
      · have := ih (acc ++ [a]); rw [List.length_append] at this; have e : [a].length = 1 := rfl; omega
  intro l
  have := key l []
  simpa [nubS] using this
section
variable {prog : Program} {w : World} {A : Around} {E : Value → Shared → Prop} {s : Shared}
theorem set_of_list {l : Addr} {its : Array Value} {xs : List Str} {Q : Value → Shared → Prop} (hh : A.handled = none) (hl : s.heap.IsList l its) (hi : PyProof.Rows.StrsAre its.toList xs) (few : xs.length + 1 < scanBound)
    (h : ∀ (h' : Heap) (tk : Nat), h'.SetOf (PySem.strKind prog w) s.heap.objs.size (hasS xs) (nubS xs).length → (∀ b o, b < s.heap.objs.size → s.heap.get? b = some o → h'.get? b = some o) → Q (.ref s.heap.objs.size) { s with heap := h', toks := tk }) :
    wpAny (model prog w) A (call (.type "set") [.ref l]) Q E s := by
  have made := PySem.F.called_set.made; have sub := PySem.F.called_set.sub; obtain ⟨c0, t0, mro⟩ := PySem.F.called_set.mro
  refine wpAny_call (codeAny_of_tree (show wpAny _ _ (callAny (.type "set") _) _ _ _ from wpAny_pure ⟨Code.quiet_builtin _ (by decide +kernel), codeAny_builtin PySem.F.entry_type_call ?_⟩))
  rw [Around.under_plain (weight_type_call_type "set" [.ref l] []) rfl]; have n1 := PySem.F.called_set.notType; have n2 := PySem.F.called_set.canCreate; have n3 := PySem.F.typeCall_set_1 (.ref l)
  repeat (any_goals (first | assumption | wp_step))

  refine codeAny_mono (code_set_new_1 (.ref l) (E := E) (Q₁ := fun obj s1 => ∃ b : Bool, obj = .ref s.heap.objs.size ∧ s1 = { s with heap := s.heap.push { cls := .type "set", dict := none, data := .set #[] 0 (.fresh 0 0 b) } }) fun b => ⟨b, rfl, rfl⟩) fun r s1 hr => ?_
  cases r with
  | error e => exact hr
  | ok fl =>
    cases fl with
    | ret obj =>
      obtain ⟨b, rfl, rfl⟩ := hr
      have at0 : (s.heap.push { cls := .type "set", dict := none, data := .set #[] 0 (.fresh 0 0 b) }).get? s.heap.objs.size = some { cls := .type "set", dict := none, data := .set #[] 0 (.fresh 0 0 b) } := Heap.get?_push_size _ rfl
      have ty0 : Shared.TypeIs { s with heap := s.heap.push { cls := .type "set", dict := none, data := .set #[] 0 (.fresh 0 0 b) } } (.ref s.heap.objs.size) "set" := ⟨_, at0, rfl⟩
      have i1 := PySem.F.called_set.init.lookup; have i2 := PySem.F.called_set.init.bind (.ref s.heap.objs.size)
      repeat (any_goals (first | assumption | wp_step))

      refine codeAny_mono (codeAny_call_builtin (R := wants (fun r s2 => r = .none ∧ ∃ h' tk, s2 = { s with heap := h', toks := tk } ∧ h'.SetOf (PySem.strKind prog w) s.heap.objs.size (hasS xs) (nubS xs).length ∧
          (∀ b o, b < s.heap.objs.size → s.heap.get? b = some o → h'.get? b = some o)) E) PySem.F.called_set.init.plain PySem.F.entry_set_init (check_set_init_1 ty0 ?_)) fun r2 s2 hr2 => ?_
      · obtain ⟨⟨oc, od, oa, os⟩, ho, hc, nl, hd⟩ := hl
        simp only at hc hd; subst hc; subst hd
        have ho2 : (s.heap.push { cls := .type "set", dict := none, data := .set #[] 0 (.fresh 0 0 b) }).get? l = some { cls := .type "list", dict := od, data := .seq its nl, slots := os } := Heap.get?_push_of_some _ ho
        have u1 := PySem.F.sub_list_set; have u2 := PySem.F.sub_list_frozenset; have u3 : (Value.type "list" == Value.type "dict") = false := by decide
        have hl1 : (s.heap.push { cls := .type "set", dict := none, data := .set #[] 0 (.fresh 0 0 b) }).IsList l its := ⟨_, ho2, rfl, nl, rfl⟩
        unfold Builtin.«set.__init__» noKeywords Builtin.Frozenset.updateFrom; generalize kept : pyIter = PI
        wp_walk
        subst kept
        refine wpAny_pyIter_list hl1 (wpAny_bind (wpAny_runValue ?_))
        have low : l < s.heap.objs.size := Heap.lt_size ho
        have h3 : A.in1.in1.in1.handled = none := by simp [hh]
        have ne1 : l ≠ (s.heap.push { cls := .type "set", dict := none, data := .set #[] 0 (.fresh 0 0 b) }).objs.size := by rw [Heap.size_push]; exact Nat.ne_of_lt (Nat.lt_succ_of_lt low)
        have off : s.heap.objs.size ∉ [(s.heap.push { cls := .type "set", dict := none, data := .set #[] 0 (.fresh 0 0 b) }).objs.size, l] := by
          rw [Heap.size_push]; simp only [List.mem_cons, List.mem_singleton, List.not_mem_nil, or_false, not_or]; exact ⟨Nat.ne_of_lt (Nat.lt_succ_self _), Nat.ne_of_gt low⟩
        have len : xs.length = its.size := by rw [← StrsAre.len_eq hi, Array.length_toList]
        have val : ∀ (i : Nat) (v : Value), its[i]? = some v → ∃ t, v = .str (xs.getD i Str.empty) t := fun i v hv => SS.strs_at hi i v (by rw [Array.getElem?_toList]; exact hv)
        refine set_turns ((Walks.list h3 _ l ne1 its).toS) s.heap.objs.size off xs len val (by rw [← len]; exact few) nubS_le (its.size - 0) 0 _ (by omega) (Nat.zero_le _) ⟨⟨_, Heap.get?_push_size _ rfl, rfl, rfl⟩, (hl1.push _)⟩ ?first ?last
        case first =>
          have got : ((s.heap.push { cls := .type "set", dict := none, data := .set #[] 0 (.fresh 0 0 b) }).push { cls := .type "list_iterator", data := .fields #[.ref l, .int 0 0] }).get? s.heap.objs.size = some { cls := .type "set", dict := none, data := .set #[] 0 (.fresh 0 0 b) } := Heap.get?_push_of_some _ at0
          exact PyProof.Rows.SetOf_congr ((PyProof.Rows.setObjOf_fresh (knd := PySem.strKind prog w) b).setOf got (by unfold scanBound; omega)) (fun _ => rfl) rfl
        case last =>
          intro s' mv held
          obtain ⟨h', g', d', tk', os'⟩ := s'
          obtain rfl : g' = s.gens := mv.gens; obtain rfl : d' = s.drawn := mv.drawn; obtain rfl : os' = s.os := mv.os
          refine wpAny_pure ?_
          show wpAny _ _ (ret Value.none) _ _ _
          refine wpAny_pure ⟨rfl, h', tk', rfl, held, fun b0 o hb e => ?_⟩
          refine mv.heap b0 o ?_ (Heap.get?_push_of_some _ (Heap.get?_push_of_some _ e))
          simp only [List.mem_cons, List.mem_singleton, List.not_mem_nil, or_false, not_or]; exact ⟨Nat.ne_of_lt hb, by rw [Heap.size_push]; exact Nat.ne_of_lt (Nat.lt_succ_of_lt hb)⟩

      · cases r2 with
        | error e => exact hr2
        | ok f2 =>
          cases f2 with
          | ret r =>
            obtain ⟨rfl, h', tk, rfl, held, keep⟩ := hr2
            repeat (any_goals (first | assumption | wp_step))
            exact h _ _ held keep
          | _ => exact hr2.elim
    | _ => exact hr.elim
end
end DL

namespace DL
open PySem PySem.Spec PyProof.Rows
section
variable {prog : Program} {w : World} {A : Around} {E : Value → Shared → Prop} {s : Shared}
theorem set_of_tuple {l : Addr} {its : Array Value} {xs : List Str} {Q : Value → Shared → Prop} (hh : A.handled = none) (hl : s.heap.IsTuple l its) (hi : PyProof.Rows.StrsAre its.toList xs) (few : xs.length + 1 < scanBound)
    (h : ∀ (h' : Heap) (tk : Nat), h'.SetOf (PySem.strKind prog w) s.heap.objs.size (hasS xs) (nubS xs).length → (∀ b o, b < s.heap.objs.size → s.heap.get? b = some o → h'.get? b = some o) → Q (.ref s.heap.objs.size) { s with heap := h', toks := tk }) :
    wpAny (model prog w) A (call (.type "set") [.ref l]) Q E s := by
  have made := PySem.F.called_set.made; have sub := PySem.F.called_set.sub; obtain ⟨c0, t0, mro⟩ := PySem.F.called_set.mro
  refine wpAny_call (codeAny_of_tree (show wpAny _ _ (callAny (.type "set") _) _ _ _ from wpAny_pure ⟨Code.quiet_builtin _ (by decide +kernel), codeAny_builtin PySem.F.entry_type_call ?_⟩))
  rw [Around.under_plain (weight_type_call_type "set" [.ref l] []) rfl]; have n1 := PySem.F.called_set.notType; have n2 := PySem.F.called_set.canCreate; have n3 := PySem.F.typeCall_set_1 (.ref l)
  repeat (any_goals (first | assumption | wp_step))

  refine codeAny_mono (code_set_new_1 (.ref l) (E := E) (Q₁ := fun obj s1 => ∃ b : Bool, obj = .ref s.heap.objs.size ∧ s1 = { s with heap := s.heap.push { cls := .type "set", dict := none, data := .set #[] 0 (.fresh 0 0 b) } }) fun b => ⟨b, rfl, rfl⟩) fun r s1 hr => ?_
  cases r with
  | error e => exact hr
  | ok fl =>
    cases fl with
    | ret obj =>
      obtain ⟨b, rfl, rfl⟩ := hr
      have at0 : (s.heap.push { cls := .type "set", dict := none, data := .set #[] 0 (.fresh 0 0 b) }).get? s.heap.objs.size = some { cls := .type "set", dict := none, data := .set #[] 0 (.fresh 0 0 b) } := Heap.get?_push_size _ rfl
      have ty0 : Shared.TypeIs { s with heap := s.heap.push { cls := .type "set", dict := none, data := .set #[] 0 (.fresh 0 0 b) } } (.ref s.heap.objs.size) "set" := ⟨_, at0, rfl⟩
      have i1 := PySem.F.called_set.init.lookup; have i2 := PySem.F.called_set.init.bind (.ref s.heap.objs.size)
      repeat (any_goals (first | assumption | wp_step))

      refine codeAny_mono (codeAny_call_builtin (R := wants (fun r s2 => r = .none ∧ ∃ h' tk, s2 = { s with heap := h', toks := tk } ∧ h'.SetOf (PySem.strKind prog w) s.heap.objs.size (hasS xs) (nubS xs).length ∧
          (∀ b o, b < s.heap.objs.size → s.heap.get? b = some o → h'.get? b = some o)) E) PySem.F.called_set.init.plain PySem.F.entry_set_init (check_set_init_1 ty0 ?_)) fun r2 s2 hr2 => ?_
      · obtain ⟨⟨oc, od, oa, os⟩, ho, hc, nl, hd⟩ := hl
        simp only at hc hd; subst hc; subst hd
        have ho2 : (s.heap.push { cls := .type "set", dict := none, data := .set #[] 0 (.fresh 0 0 b) }).get? l = some { cls := .type "tuple", dict := od, data := .seq its nl, slots := os } := Heap.get?_push_of_some _ ho
        have u1 := PySem.F.sub_tuple_set; have u2 := PySem.F.sub_tuple_frozenset; have u3 : (Value.type "tuple" == Value.type "dict") = false := by decide
        have hl1 : (s.heap.push { cls := .type "set", dict := none, data := .set #[] 0 (.fresh 0 0 b) }).IsTuple l its := ⟨_, ho2, rfl, nl, rfl⟩
        unfold Builtin.«set.__init__» noKeywords Builtin.Frozenset.updateFrom; generalize kept : pyIter = PI
        wp_walk
        subst kept
        refine wpAny_pyIter_tuple hl1 (wpAny_bind (wpAny_runValue ?_))
        have low : l < s.heap.objs.size := Heap.lt_size ho
        have h3 : A.in1.in1.in1.handled = none := by simp [hh]
        have ne1 : l ≠ (s.heap.push { cls := .type "set", dict := none, data := .set #[] 0 (.fresh 0 0 b) }).objs.size := by rw [Heap.size_push]; exact Nat.ne_of_lt (Nat.lt_succ_of_lt low)
        have off : s.heap.objs.size ∉ [(s.heap.push { cls := .type "set", dict := none, data := .set #[] 0 (.fresh 0 0 b) }).objs.size, l] := by
          rw [Heap.size_push]; simp only [List.mem_cons, List.mem_singleton, List.not_mem_nil, or_false, not_or]; exact ⟨Nat.ne_of_lt (Nat.lt_succ_self _), Nat.ne_of_gt low⟩
        have len : xs.length = its.size := by rw [← StrsAre.len_eq hi, Array.length_toList]
        have val : ∀ (i : Nat) (v : Value), its[i]? = some v → ∃ t, v = .str (xs.getD i Str.empty) t := fun i v hv => SS.strs_at hi i v (by rw [Array.getElem?_toList]; exact hv)
        refine set_turns ((Walks.tuple h3 _ l ne1 its).toS) s.heap.objs.size off xs len val (by rw [← len]; exact few) nubS_le (its.size - 0) 0 _ (by omega) (Nat.zero_le _) ⟨⟨_, Heap.get?_push_size _ rfl, rfl, rfl⟩, (hl1.push _)⟩ ?first ?last
        case first =>
          have got : ((s.heap.push { cls := .type "set", dict := none, data := .set #[] 0 (.fresh 0 0 b) }).push { cls := .type "tuple_iterator", data := .fields #[.ref l, .int 0 0] }).get? s.heap.objs.size = some { cls := .type "set", dict := none, data := .set #[] 0 (.fresh 0 0 b) } := Heap.get?_push_of_some _ at0
          exact PyProof.Rows.SetOf_congr ((PyProof.Rows.setObjOf_fresh (knd := PySem.strKind prog w) b).setOf got (by unfold scanBound; omega)) (fun _ => rfl) rfl
        case last =>
          intro s' mv held
          obtain ⟨h', g', d', tk', os'⟩ := s'
          obtain rfl : g' = s.gens := mv.gens; obtain rfl : d' = s.drawn := mv.drawn; obtain rfl : os' = s.os := mv.os
          refine wpAny_pure ?_
          show wpAny _ _ (ret Value.none) _ _ _
          refine wpAny_pure ⟨rfl, h', tk', rfl, held, fun b0 o hb e => ?_⟩
          refine mv.heap b0 o ?_ (Heap.get?_push_of_some _ (Heap.get?_push_of_some _ e))
          simp only [List.mem_cons, List.mem_singleton, List.not_mem_nil, or_false, not_or]; exact ⟨Nat.ne_of_lt hb, by rw [Heap.size_push]; exact Nat.ne_of_lt (Nat.lt_succ_of_lt hb)⟩

      · cases r2 with
        | error e => exact hr2
        | ok f2 =>
          cases f2 with
          | ret r =>
            obtain ⟨rfl, h', tk, rfl, held, keep⟩ := hr2
            repeat (any_goals (first | assumption | wp_step))
            exact h _ _ held keep
          | _ => exact hr2.elim
    | _ => exact hr.elim
end
end DL

namespace DL
open PySem L2 PyProof.Rows PySem.Spec
section
variable {X : Cx} {an : An} {dr : Option Dr} {ρ : Rho} {om : Om} {e a : Expr} {es : List Expr} {pos p p2 q : Pos} {Q : R → Om → Prop}
def tLenS (K : PySem.W.Frag) (ta : TE) : TE := fun σ H Z => ta σ H fun x H1 => ∃ (l : Addr) (xs : List Str), x = .ref l ∧ (SqL K H1 l (xs.map V.str) ∨ SqT K H1 l (xs.map V.str)) ∧ xs.length ≤ 1000 ∧ Z (.int ((nubS xs).length : Nat)) H1
theorem pe_lenS {ta : TE} (hc : X.calm = true) (g1 : Gl X "len") (m1 : X.mg "len" = none) (g2 : Gl X "set") (m2 : X.mg "set" = none) (ha : PE X a ta) (na : starEach [a] X.env = (false, eval a X.env) :: starEach [] X.env) : PE X (.Call (.Name "len" p) [.Call (.Name "set" p2) [a] [] q] [] pos) (tLenS X.K ta) := by
  constructor
  intro pins s σ H Z I h
  refine Call_ (ld_blt I g1 m1 boot_len (PyProof.Rows.callWith_builtin1 (PyProof.Rows.args_cons (Call_ (ld_blt I g2 m2 boot_set (PyProof.Rows.callWith_type1 (PyProof.Rows.args_cons (thn (ha.run pins s σ H _ I h) ?_) na) na rfl))) rfl) rfl rfl))
  rintro v s1 ⟨x, H1, I1, r1, l, xs, rfl, sq, few, z⟩
  refine PyProof.Rows.args_nil ?_
  cases r1
  have bnd : xs.length + 1 < scanBound := Nat.lt_of_le_of_lt (Nat.succ_le_succ few) (by decide)
  have fin : ∀ (h' : Heap) (tk : Nat), h'.SetOf (PySem.strKind X.prog X.w) s1.heap.objs.size (hasS xs) (nubS xs).length → (∀ b o, b < s1.heap.objs.size → s1.heap.get? b = some o → h'.get? b = some o) →
      wpAny (model X.prog X.w) X.A (spliced (backTo pos (starEach [] X.env))) (fun vs s2 => wpAny (model X.prog X.w) X.A (call (.builtin "len") (Value.ref s1.heap.objs.size :: vs)) (EP X pins σ Z) X.xe s2) X.xe { s1 with heap := h', toks := tk } := fun h' tk hS hk => by
    refine PyProof.Rows.args_nil ?_
    obtain ⟨o, es, ep, t, ho, hex, hd, _, _, _, hf, hn⟩ := hS
    have I2 : Inv X pins σ H1 { s1 with heap := h', toks := tk } := I1.kept fun b o e => hk b o (Heap.lt_size e) e
    have le := nubS_le xs
    exact call_len_set ho hex hd hf (by rw [hn] <;> omega) ⟨.int ((nubS xs).length : Nat), H1, I2.tok _, ⟨_, by rw [hn]⟩, z⟩
  rcases sq with sq | sq
  · obtain ⟨its, r, pl, _⟩ := I1.list sq
    exact set_of_list (I1.ok.hd hc) pl.isList (by simpa using strsAre_of r) bnd fun h' tk hS hk => fin h' tk hS hk
  · obtain ⟨its, r, pl, _⟩ := I1.tuple sq
    exact set_of_tuple (I1.ok.hd hc) pl (by simpa using strsAre_of r) bnd fun h' tk hS hk => fin h' tk hS hk
theorem we_lenSet (hc : X.calm = true) (m1 : X.mg "len" = none) (m2 : X.mg "set" = none) (h : WE X an dr ρ om a fun r om1 => ∃ xs : List Str, (vw om1 r = .lst (xs.map D.str) ∨ vw om1 r = .tup (xs.map D.str)) ∧ xs.length ≤ 1000 ∧ Q (.v (.int ((nubS xs).length : Nat))) om1)
    (g1 : Gl X "len" := by rfl) (g2 : Gl X "set" := by rfl) (na : starEach [a] X.env = (false, eval a X.env) :: starEach [] X.env := by rfl) : WE X an dr ρ om (.Call (.Name "len" p) [.Call (.Name "set" p2) [a] [] q] [] pos) Q :=
  peI (pe_lenS hc g1 m1 g2 m2 (pe_u (an := an) (dr := dr)) na) fun σ H K' ⟨τ, G, g, n, k⟩ => uE_of h g n fun v r om1 τ1 G1 H1 h1 w g1 gr1 n1 => by
    obtain ⟨xs, ev, few, q⟩ := w
    have end_ := k _ _ om1 τ1 G1 H1 (.v (.int _)) q g1 gr1
    rcases ev with ev | ev
    · obtain ⟨l, vs, rfl, hl, il⟩ := vw_lst g1 h1 ev
      obtain rfl := strs_inv xs il
      exact ⟨l, xs, rfl, .inl (.inl (.inl hl)), few, end_⟩
    · obtain ⟨l, vs, rfl, hl, il⟩ := vw_tup g1 h1 ev
      obtain rfl := strs_inv xs il
      exact ⟨l, xs, rfl, .inr hl, few, end_⟩
end
end DL

namespace DL
open PySem L2
section
variable {X : Cx} {an : An} {dr : Option Dr} {ρ : Rho} {om : Om} {e elt c kx vx tg iter tg1 iter1 : Expr} {es : List Expr} {pos p : Pos} {Q : R → Om → Prop} {scope : Scope} {own : List (Str × Nat)} {js js1 : List Nat} {f f1 : TgF}
def EltD (X : Cx) (an : An) (dr : Option Dr) (scope : Scope) (kx vx : Expr) (ρ2 : Rho) (om : Om) (acc : List (Key × D)) (N : List (Key × D) → Prop) : Prop :=
  ∀ s H C cl fp, WE (XB X scope s H C cl fp) an dr ρ2 (om ++ [some (.dic acc)]) kx fun rk om2 => om2 = om ++ [some (.dic acc)] ∧ ∃ key, rk = .v (keyDat key) ∧ ∀ s H C cl fp, WE (XB X scope s H C cl fp) an dr ρ2 (om ++ [some (.dic acc)]) vx fun r om3 => om3 = om ++ [some (.dic acc)] ∧ ∃ d, r = .v d ∧ acc.length < sizeLine ∧ N (putE acc key d)
def TstC (X : Cx) (an : An) (dr : Option Dr) (scope : Scope) (c : Expr) (ρ2 : Rho) (om : Om) (acc : D) (N : Bool → Prop) : Prop :=
  ∀ s H C cl fp, WT (XB X scope s H C cl fp) an dr ρ2 (om ++ [some acc]) c fun b om3 => om3 = om ++ [some acc] ∧ N b
end
end DL

namespace DL
open PySem L2
section
variable {X : Cx} {an : An} {dr : Option Dr} {ρ : Rho} {om : Om} {e elt c kx vx tg iter tg1 iter1 : Expr} {es ifs ifs1 : List Expr} {pos p : Pos} {Q : R → Om → Prop} {scope : Scope} {js js1 : List Nat} {f f1 : TgF}
def ttOf (X : Cx) (an : An) (dr : Option Dr) (scope : Scope) : List Expr → TT
  | [] => tYes
  | [c] => uTb X an dr scope c
  | _ => fun _ _ _ => False
def okIfs : List Expr → Bool
  | [] => true
  | [_] => true
  | _ => false
def Tsts (X : Cx) (an : An) (dr : Option Dr) (scope : Scope) (ifs : List Expr) (ρ2 : Rho) (om : Om) (acc : D) (N : Bool → Prop) : Prop := match ifs with
  | [] => N true
  | [c] => TstC X an dr scope c ρ2 om acc N
  | _ => False
def EltL (X : Cx) (an : An) (dr : Option Dr) (scope : Scope) (elt : Expr) (ρ2 : Rho) (om : Om) (acc : List D) (N : List D → Prop) : Prop :=
  ∀ s H C cl fp, WE (XB X scope s H C cl fp) an dr ρ2 (om ++ [some (.lst acc)]) elt fun r om3 => om3 = om ++ [some (.lst acc)] ∧ ∃ d, r = .v d ∧ acc.length < sizeLine ∧ N (acc ++ [d])
def uIb (X : Cx) (an : An) (dr : Option Dr) (scope : Scope) (tg iter : Expr) : TI := fun σ H Z => ∃ ρ om Q, (∀ s H C cl fp, WI (XB X scope s H C cl fp) an dr ρ om tg iter Q) ∧ tDI X.K an dr ρ om Q σ H Z
def In2 (X : Cx) (an : An) (dr : Option Dr) (scope : Scope) (tg1 iter1 elt : Expr) (ifs1 : List Expr) (f1 : TgF) (vs1 : List Nat) (ρ2 : Rho) (om1 : Om) (acc : List D) (N : List D → Prop) : Prop :=
  ∀ s H C cl fp, WI (XB X scope s H C cl fp) an dr ρ2 (om1 ++ [some (.lst acc)]) tg1 iter1 fun ds1 om2 => om2 = om1 ++ [some (.lst acc)] ∧ ∃ P1 : Nat → List D → Prop, P1 0 acc ∧ (∀ j d acc, ds1[j]? = some d → P1 j acc → f1 d (wipeR ρ2 vs1) fun ρ3 =>
    Tsts X an dr scope ifs1 ρ3 om1 (.lst acc) fun b => if b = true then EltL X an dr scope elt ρ3 om1 acc (P1 (j + 1)) else P1 (j + 1) acc) ∧ ∀ acc, P1 ds1.length acc → N acc
end
end DL

namespace DL
open PySem
section
variable {prog : Program} {w : World} {A : Around} {E : Value → Shared → Prop} {s : Shared} {q ti tO T i1 i2 : Addr} {fp1 fp2 : List Addr} {n1 n2 i : Nat} {P1 P2 : Nat → Value → Prop} {St1 St2 : Nat → Heap → Prop} {f : Bool} {oT : Obj}
theorem held_item {Q : Value → Shared → Prop} (S : ZipSep2 q ti tO i1 i2 fp1 fp2) (D1 : Draws prog w A i1 fp1 n1 P1 St1) (D2 : Draws prog w A i2 fp2 n2 P2 St2) (hq : IsZipHeld s.heap q ti tO T f) (hT : s.heap.get? T = some oT)
    (hi : IsTupOf2 s.heap ti (.ref i1) (.ref i2)) (st1 : St1 i s.heap) (st2 : St2 i s.heap) (l1 : i < n1) (l2 : i < n2)
    (k : ∀ x y h' tk, P1 i x → P2 i y → IsZipHeld h' q ti tO T true → St1 (i + 1) h' → St2 (i + 1) h' → IsTupOf2 h' s.heap.objs.size x y → (∀ c o, c ≠ q → c ≠ i1 → c ≠ i2 → s.heap.get? c = some o → h'.get? c = some o) → Q (.ref s.heap.objs.size) { s with heap := h', toks := tk }) :
    wpAny (model prog w) A (Builtin.«zip.__next__» ⟨[.ref q], []⟩) (fun r s' => ∃ v, r = .done (.ret v) ∧ Q v s') E s := by
  obtain ⟨h0, gl, dd, tk, os⟩ := s
  show wpAny _ _ (field (.ref q) 2 >>= _) _ _ _
  refine wpAny_bind (wpAny_field hq rfl (x := .bool false) rfl ?_)
  show wpAny _ _ (field (.ref q) 3 >>= _) _ _ _
  refine wpAny_bind (wpAny_field hq rfl (x := .ref ti) rfl (wpAny_bind (wpAny_seqItems hi rfl ?_)))
  show wpAny _ _ (Builtin.SmallTypes.ownedTupleIsFree (.ref q) >>= _) _ _ _
  refine wpAny_bind (wpAny_tupleHeld_zip hq hT fun ha hqa sa => ?_)
  replace sa : Heap.SameBut q h0 ha := sa
  simp only [if_false, Bool.false_eq_true]
  refine wpAny_bind ?_
  rw [← Array.forIn_toList]
  simp only [List.forIn_nil, List.forIn_cons]
  refine wpAny_bind (wpAny_bind (wpAny_holding ?_))
  show wpAny _ _ (Builtin.SmallTypes.nextOf (.ref i1) >>= _) _ _ ⟨ha, gl, dd, tk, os⟩
  refine wpAny_bind (D1.item i _ _ _ l1 (D1.over st1 sa S.zf1) fun x hb tb px sb1 sb => wpAny_pure (wpAny_pure ?_))
  replace sb : Heap.SameBut i1 ha hb := sb
  refine wpAny_bind (wpAny_bind (wpAny_holding ?_))
  show wpAny _ _ (Builtin.SmallTypes.nextOf (.ref i2) >>= _) _ _ ⟨hb, gl, dd, tb, os⟩
  refine wpAny_bind (D2.item i _ _ _ l2 (D2.over (D2.over st2 sa S.zf2) sb S.sep1_2) fun y hc tc py sc2 sc => wpAny_pure (wpAny_pure (wpAny_pure ?_)))
  replace sc : Heap.SameBut i2 hb hc := sc
  show wpAny _ _ (newTuple [x, y] >>= _) _ _ ⟨hc, gl, dd, tc, os⟩
  refine wpAny_bind (wpAny_newTuple (wpAny_pure ⟨_, rfl, ?_⟩))
  have sz : hc.objs.size = h0.objs.size := by rw [sc.1, sb.1, sa.1]
  have hqc : IsZipHeld hc q ti tO T true := sc.extBut _ _ S.zi2 (sb.extBut _ _ S.zi1 hqa)
  have keep : ∀ c o, c ≠ q → c ≠ i1 → c ≠ i2 → h0.get? c = some o → hc.get? c = some o := fun c o n0 n1 n2 e => sc.extBut _ _ n2 (sb.extBut _ _ n1 (sa.extBut _ _ n0 e))
  have st1c : St1 (i + 1) hc := D1.over sb1 sc S.sep2_1
  have tup : IsTupOf2 (hc.push { cls := .type "tuple", data := .seq #[x, y] }) hc.objs.size x y := Heap.get?_push_size _ rfl
  show Q (.ref hc.objs.size) _
  rw [sz] at tup ⊢
  exact k x y _ tc px py (Heap.get?_push_of_some _ hqc) (D1.frame _ _ _ st1c fun b _ o e => Heap.get?_push_of_some _ e) (D2.frame _ _ _ sc2 fun b _ o e => Heap.get?_push_of_some _ e) tup fun c o n0 n1 n2 e => Heap.get?_push_of_some _ (keep c o n0 n1 n2 e)
theorem held_end {Q : PySem.Fin → Shared → Prop} (S : ZipSep2 q ti tO i1 i2 fp1 fp2) (D1 : Draws prog w A i1 fp1 n1 P1 St1) (D2 : Draws prog w A i2 fp2 n2 P2 St2) (hq : IsZipHeld s.heap q ti tO T f) (hT : s.heap.get? T = some oT)
    (hi : IsTupOf2 s.heap ti (.ref i1) (.ref i2)) (st1 : St1 i s.heap) (st2 : St2 i s.heap) (l1 : i ≤ n1) (l2 : i ≤ n2) (en : i = n1 ∨ i = n2)
    (k : ∀ h' tk e, (∀ c o, c ≠ q → c ≠ i1 → c ≠ i2 → s.heap.get? c = some o → h'.get? c = some o) → (∃ o, h'.get? e = some o ∧ o.cls = .type "StopIteration") → E (.ref e) { s with heap := h', toks := tk }) :
    wpAny (model prog w) A (Builtin.«zip.__next__» ⟨[.ref q], []⟩) Q E s := by
  obtain ⟨h0, gl, dd, tk, os⟩ := s
  show wpAny _ _ (field (.ref q) 2 >>= _) _ _ _
  refine wpAny_bind (wpAny_field hq rfl (x := .bool false) rfl ?_)
  show wpAny _ _ (field (.ref q) 3 >>= _) _ _ _
  refine wpAny_bind (wpAny_field hq rfl (x := .ref ti) rfl (wpAny_bind (wpAny_seqItems hi rfl ?_)))
  show wpAny _ _ (Builtin.SmallTypes.ownedTupleIsFree (.ref q) >>= _) _ _ _
  refine wpAny_bind (wpAny_tupleHeld_zip hq hT fun ha hqa sa => ?_)
  replace sa : Heap.SameBut q h0 ha := sa
  simp only [if_false, Bool.false_eq_true]
  refine wpAny_bind ?_
  rw [← Array.forIn_toList]
  simp only [List.forIn_nil, List.forIn_cons]
  refine wpAny_bind (wpAny_bind (wpAny_holding ?_))
  show wpAny _ _ (Builtin.SmallTypes.nextOf (.ref i1) >>= _) _ _ ⟨ha, gl, dd, tk, os⟩
  by_cases c1 : i = n1
  · subst c1
    exact wpAny_bind (D1.done _ _ _ (D1.over st1 sa S.zf1) fun hb e sb he => k hb tk e (fun c o n0 n1 n2 x => sb _ _ n1 (sa.extBut _ _ n0 x)) he)
  · have c2 : i = n2 := en.resolve_left c1
    subst c2
    refine wpAny_bind (D1.item i _ _ _ (by omega) (D1.over st1 sa S.zf1) fun x hb tb px sb1 sb => wpAny_pure (wpAny_pure ?_))
    replace sb : Heap.SameBut i1 ha hb := sb
    refine wpAny_bind (wpAny_bind (wpAny_holding ?_))
    show wpAny _ _ (Builtin.SmallTypes.nextOf (.ref i2) >>= _) _ _ ⟨hb, gl, dd, tb, os⟩
    exact wpAny_bind (D2.done _ _ _ (D2.over (D2.over st2 sa S.zf2) sb S.sep1_2) fun hc e sc he => k hc tb e (fun c o n0 n1 n2 x => sc _ _ n2 (sb.extBut _ _ n1 (sa.extBut _ _ n0 x))) he)
theorem next_held_item {Q : Option Value → Shared → Prop} (S : ZipSep2 q ti tO i1 i2 fp1 fp2) (D1 : Draws prog w A.in1 i1 fp1 n1 P1 St1) (D2 : Draws prog w A.in1 i2 fp2 n2 P2 St2) (hq : IsZipHeld s.heap q ti tO T f) (hT : s.heap.get? T = some oT)
    (hi : IsTupOf2 s.heap ti (.ref i1) (.ref i2)) (st1 : St1 i s.heap) (st2 : St2 i s.heap) (l1 : i < n1) (l2 : i < n2)
    (k : ∀ x y h' tk, P1 i x → P2 i y → IsZipHeld h' q ti tO T true → St1 (i + 1) h' → St2 (i + 1) h' → IsTupOf2 h' s.heap.objs.size x y → (∀ c o, c ≠ q → c ≠ i1 → c ≠ i2 → s.heap.get? c = some o → h'.get? c = some o) → Q (some (.ref s.heap.objs.size)) { s with heap := h', toks := tk }) :
    wpAny (model prog w) A (pyNext (.ref q)) Q E s := by
  have ty : s.TypeIs (.ref q) "zip" := ⟨_, hq, rfl⟩
  unfold pyNext
  refine wpAny_bind (wpAny_attempt (wpAny_callSpecial?_slot (name := Str.ofString "__next__") ty F.slot_zip_next (wpAny_call_entry F.slot_zip_next ty F.entry_zip_next ?_ (F.args_zip_next_1 _))))
  exact held_item S D1 D2 hq hT hi st1 st2 l1 l2 fun x y h' tk a b c d e f g => wpAny_pure (k x y h' tk a b c d e f g)
theorem next_held_end {Q : Option Value → Shared → Prop} (S : ZipSep2 q ti tO i1 i2 fp1 fp2) (D1 : Draws prog w A.in1 i1 fp1 n1 P1 St1) (D2 : Draws prog w A.in1 i2 fp2 n2 P2 St2) (hq : IsZipHeld s.heap q ti tO T f) (hT : s.heap.get? T = some oT)
    (hi : IsTupOf2 s.heap ti (.ref i1) (.ref i2)) (st1 : St1 i s.heap) (st2 : St2 i s.heap) (l1 : i ≤ n1) (l2 : i ≤ n2) (en : i = n1 ∨ i = n2)
    (k : ∀ h' tk, (∀ c o, c ≠ q → c ≠ i1 → c ≠ i2 → s.heap.get? c = some o → h'.get? c = some o) → Q none { s with heap := h', toks := tk }) : wpAny (model prog w) A (pyNext (.ref q)) Q E s := by
  have ty : s.TypeIs (.ref q) "zip" := ⟨_, hq, rfl⟩
  unfold pyNext
  refine wpAny_bind (wpAny_attempt (wpAny_callSpecial?_slot (name := Str.ofString "__next__") ty F.slot_zip_next (wpAny_call_entry F.slot_zip_next ty F.entry_zip_next ?_ (F.args_zip_next_1 _))))
  refine held_end S D1 D2 hq hT hi st1 st2 l1 l2 en fun h' tk e kp ⟨o, ho, hc⟩ => ?_
  exact wpAny_bind (wpAny_isInstance (T := "StopIteration") (b := true) ⟨o, ho, hc⟩ isSubtype_stop (wpAny_pure (k _ _ kp)))
end
end DL

namespace DL
open PySem L2 PyProof.Rows PySem.Spec
section
variable {X : Cx} {an : An} {dr : Option Dr} {ρ : Rho} {om : Om} {e a b : Expr} {es : List Expr} {pos p p2 pos2 : Pos} {Q : R → Om → Prop}
def SqU (K : PySem.W.Frag) (H : Hp) (t : Bool) (l : Addr) (xs : List V) : Prop := if t = true then SqT K H l xs else SqL K H l xs
structure Srcs (P : Program) (w : World) (s : Shared) (l : Addr) (its : List Value) (n : Addr) where
  o : Obj
  Hh : Heap → Prop
  St : Nat → Heap → Prop
  B : Begins (.ref l) o Hh
  ok : Hh s.heap
  D : ∀ A : Around, A.handled = none → Draws P w A n [n, l] its.length (fun i v => its[i]? = some v) St
  go : ∀ h', h'.get? n = some o → (∀ c o, s.heap.get? c = some o → h'.get? c = some o) → St 0 h'
  th : ∀ h, St 0 h → ∀ b ∈ [n, l], ∃ o, h.get? b = some o
  lt : l < s.heap.objs.size
theorem vals_back : ∀ {xs : List V} {us : List Value} {i : Nat} {u : Value}, Vals xs us → us[i]? = some u → ∃ x, xs[i]? = some x ∧ RelV x u
  | _, _, _, _, .nil, e => by simp at e
  | _, _, 0, _, .cons r _, e => by simp at e; subst e; exact ⟨_, rfl, r⟩
  | _, _, i + 1, u, .cons _ t, e => by
    obtain ⟨x, h1, h2⟩ := vals_back (i := i) (u := u) t (by simpa using e)
    exact ⟨x, by simpa using h1, h2⟩
def tDictZip (K : PySem.W.Frag) (ta : TA) : TE := fun σ H Q => ta σ H fun vs H1 => ∃ (l1 l2 : Addr) (t1 t2 : Bool) (ks : List Key) (ys : List V), vs = [.ref l1, .ref l2] ∧ SqU K H1 t1 l1 (ks.map kV) ∧ SqU K H1 t2 l2 ys ∧ ∀ d, H1 d = none → Q (.ref d) (upd H1 d (.dK (mergeK [] (ks.zip ys))))
end
end DL

namespace DL
open PySem
section
variable {prog : Program} {w : World} {K : Type} [DecidableEq K] {knd : KeyKind prog w K} {A : Around} {E : Value → Shared → Prop} {s : Shared}
end
end DL

namespace DL
open PySem L2 PyProof.Rows PySem.Spec
section
variable {X : Cx} {an : An} {dr : Option Dr} {ρ : Rho} {om : Om} {e a b k v : Expr} {es : List Expr} {pos p p2 pos2 : Pos} {Q : R → Om → Prop}
def tDD2 (ta tb : TE) : TE := fun σ H Q => ∀ d, H d = none → ta σ (upd H d (.dK [])) fun x H1 => ∃ c ls, x = .ref c ∧ Rd H1 c (.dK ls) ∧ d ≠ c ∧ H1 d = some (.dK []) ∧ ls.length ≤ sizeLine ∧
  tb σ (upd H1 d (.dK (mergeK [] ls))) fun y H2 => ∃ c2 ms ks, y = .ref c2 ∧ Rd H2 c2 (.dK ms) ∧ d ≠ c2 ∧ H2 d = some (.dK ks) ∧ ks.length + ms.length ≤ sizeLine ∧ Q (.ref d) (upd H2 d (.dK (mergeK ks ms)))
def tDDk (ta tk tv : TE) : TE := fun σ H Q => ∀ d, H d = none → ta σ (upd H d (.dK [])) fun x H1 => ∃ c ls, x = .ref c ∧ Rd H1 c (.dK ls) ∧ d ≠ c ∧ H1 d = some (.dK []) ∧ ls.length ≤ sizeLine ∧
  ∀ d2, upd H1 d (.dK (mergeK [] ls)) d2 = none → tk σ (upd (upd H1 d (.dK (mergeK [] ls))) d2 (.dK [])) fun y H2 => tv σ H2 fun z H3 => ∃ key ks, y = kV key ∧ H3 d2 = some (.dK []) ∧ H3 d = some (.dK ks) ∧ ks.length < sizeLine ∧
    Q (.ref d) (upd (upd H3 d2 (.dK [(key, z)])) d (.dK (putK ks key z)))
end
end DL

namespace DL
open PySem L2 PySem.Spec
def keyP : Key → PyData
  | .inl i => .int i
  | .inr x => .str x
def keyPn : Option Key → PyData
  | none => .none
  | some k => keyP k
mutual
def toU : D → PyData
  | .non => .none
  | .bl b => .bool b
  | .int i => .int i
  | .str x => .str x
  | .lst xs => .list (toUs xs)
  | .tup xs => .tuple (toUs xs)
  | .dic kvs => .dict (toUk kvs)
  | .din _ _ kvs => .dict (toUn kvs)
  | _ => .none
def toUs : List D → List PyData
  | [] => []
  | d :: ds => toU d :: toUs ds
def toUk : List (Key × D) → List (PyData × PyData)
  | [] => []
  | (k, d) :: r => (keyP k, toU d) :: toUk r
def toUn : List (Option Key × D) → List (PyData × PyData)
  | [] => []
  | (k, d) :: r => (keyPn k, toU d) :: toUn r
end
mutual
def okU : D → Bool
  | .non => true
  | .bl _ => true
  | .int _ => true
  | .str _ => true
  | .lst xs => okUs xs
  | .tup xs => okUs xs
  | .dic kvs => okUk kvs
  | .din _ _ kvs => okUn kvs
  | _ => false
def okUs : List D → Bool
  | [] => true
  | d :: ds => okU d && okUs ds
def okUk : List (Key × D) → Bool
  | [] => true
  | (_, d) :: r => okU d && okUk r
def okUn : List (Option Key × D) → Bool
  | [] => true
  | (_, d) :: r => okU d && okUn r
end
theorem okUn_vals : ∀ kvs : List (Option Key × D), okUn kvs = okUs (kvs.map (·.2))
  | [] => by simp [okUn, okUs]
  | (k, d) :: r => by simp [okUn, okUs, okUn_vals r]
theorem toUn_vals : ∀ kvs : List (Option Key × D), (toUn kvs).map (·.2) = toUs (kvs.map (·.2))
  | [] => by simp [toUn, toUs]
  | (k, d) :: r => by simp [toUn, toUs, toUn_vals r]
theorem toUn_keys : ∀ kvs : List (Option Key × D), (toUn kvs).map (·.1) = kvs.map fun kv => keyPn kv.1
  | [] => by simp [toUn]
  | (k, d) :: r => by simp [toUn, toUn_keys r]
theorem okUk_vals : ∀ kvs : List (Key × D), okUk kvs = okUs (kvs.map (·.2))
  | [] => by simp [okUk, okUs]
  | (k, d) :: r => by simp [okUk, okUs, okUk_vals r]
theorem toUk_vals : ∀ kvs : List (Key × D), (toUk kvs).map (·.2) = toUs (kvs.map (·.2))
  | [] => by simp [toUk, toUs]
  | (k, d) :: r => by simp [toUk, toUs, toUk_vals r]
theorem toUk_keys : ∀ kvs : List (Key × D), (toUk kvs).map (·.1) = kvs.map fun kv => keyP kv.1
  | [] => by simp [toUk]
  | (k, d) :: r => by simp [toUk, toUk_keys r]
theorem reads_keys {h : Heap} {P : Program} {w : World} : ∀ {es : List DictEntry} {vs : List (Key × Value)}, Pairs (mixKind P w) es vs → ReadsAll h (es.map (·.key)) (vs.map fun kv => keyP kv.1) []
  | _, _, .nil => .nil
  | _, _, .cons (kv := kv) h1 h2 t => by
    have h1 : keyIs kv.1 _ = true := h1
    rcases keyIs_shape h1 with ⟨i, tk, e1, e2⟩ | ⟨x, tk, e1, e2⟩
    · rw [List.map_cons, List.map_cons, e1, e2]
      exact ReadsAll.cons (as := []) (bs := []) (.int _ _) (reads_keys t)
    · rw [List.map_cons, List.map_cons, e1, e2]
      exact ReadsAll.cons (as := []) (bs := []) (.str _ _) (reads_keys t)
theorem reads_keysN {h : Heap} {P : Program} {w : World} : ∀ {es : List DictEntry} {vs : List (Option Key × Value)}, Pairs (noneKind P w) es vs → ReadsAll h (es.map (·.key)) (vs.map fun kv => keyPn kv.1) []
  | _, _, .nil => .nil
  | _, _, .cons (kv := kv) h1 h2 t => by
    have h1 : nkIs kv.1 _ = true := h1
    obtain ⟨k, v⟩ := kv
    cases k with
    | none =>
      rw [List.map_cons, List.map_cons, nk_none h1]
      exact ReadsAll.cons (as := []) (bs := []) .none (reads_keysN t)
    | some k =>
      have h1 : keyIs k _ = true := h1
      rcases keyIs_shape h1 with ⟨i, tk, e1, e2⟩ | ⟨x, tk, e1, e2⟩
      · subst e1
        rw [List.map_cons, List.map_cons, e2]
        exact ReadsAll.cons (as := []) (bs := []) (.int _ _) (reads_keysN t)
      · subst e1
        rw [List.map_cons, List.map_cons, e2]
        exact ReadsAll.cons (as := []) (bs := []) (.str _ _) (reads_keysN t)
theorem pairs_valsN {P : Program} {w : World} : ∀ {es : List DictEntry} {vs : List (Option Key × Value)}, Pairs (noneKind P w) es vs → es.map (·.val) = vs.map (·.2)
  | _, _, .nil => rfl
  | _, _, .cons h1 h2 t => by rw [List.map_cons, List.map_cons, pairs_valsN t, h2]
theorem kv_valsN : ∀ {kvs : List (Option Key × V)} {vs : List (Option Key × Value)}, KV kvs vs → Vals (kvs.map (·.2)) (vs.map (·.2)) ∧ kvs.map (·.1) = vs.map (·.1)
  | _, _, .nil => ⟨.nil, rfl⟩
  | _, _, .cons h t => ⟨.cons h.2 (kv_valsN t).1, by rw [List.map_cons, List.map_cons, h.1, (kv_valsN t).2]⟩
theorem pairs_vals {P : Program} {w : World} : ∀ {es : List DictEntry} {vs : List (Key × Value)}, Pairs (mixKind P w) es vs → es.map (·.val) = vs.map (·.2)
  | _, _, .nil => rfl
  | _, _, .cons h1 h2 t => by rw [List.map_cons, List.map_cons, pairs_vals t, h2]
theorem kv_vals : ∀ {kvs : List (Key × V)} {vs : List (Key × Value)}, KV kvs vs → Vals (kvs.map (·.2)) (vs.map (·.2)) ∧ kvs.map (·.1) = vs.map (·.1)
  | _, _, .nil => ⟨.nil, rfl⟩
  | _, _, .cons h t => ⟨.cons h.2 (kv_vals t).1, by rw [List.map_cons, List.map_cons, h.1, (kv_vals t).2]⟩
section
variable {X : Cx} {pins : List (Addr × Obj)} {σ : L2.St} {H G : Hp} {s : Shared}
theorem not_sys (I : Inv X pins σ H s) (hs : ∃ o, X.base.get? sysModules = some o) {a : Addr} {u : HO} (h : H a = some u) : a ≠ sysModules := by
  obtain ⟨o, ho⟩ := hs
  intro e
  rw [e, (I.bs _ _ ho).2] at h
  cases h
theorem reads_dict (I : Inv X pins σ H s) {a : Addr} {kvs : List (Key × V)} {kds : List (Key × D)} (hk : kvs.map (·.1) = kds.map (·.1)) (r : Rd H a (.dK kvs)) (vals : ∀ us, Vals (kvs.map (·.2)) us → ∃ as, ReadsAll s.heap us (toUs (kds.map (·.2))) as ∧ sysModules ∉ as) : ∃ as, Reads s.heap (.ref a) (toU (.dic kds)) as ∧ sysModules ∉ as := by
  obtain ⟨z, ns, vs, rel, o, es, ep, h1, h2, h3, h4, h5, h6⟩ := dk_rd I.hok r
  obtain ⟨r1, r2⟩ := kv_vals rel
  obtain ⟨bs, rb, nb⟩ := vals _ r1
  refine ⟨a :: [] ++ bs, ?_, ?_⟩
  · have e : toU (.dic kds) = .dict (toUk kds) := by simp [toU]
    rw [e]
    refine Reads.dict h1 h2.1 h3 ?_ ?_
    · have := reads_keys (h := s.heap) h5
      have e2 : (vs.map fun kv => keyP kv.1) = (kds.map fun kv => keyP kv.1) := by
        have := hk.symm.trans r2
        have e3 : (vs.map (·.1)).map keyP = (kds.map (·.1)).map keyP := by rw [this]
        rw [List.map_map, List.map_map] at e3
        exact e3
      rw [toUk_keys, ← e2]
      exact this
    · rw [toUk_vals, pairs_vals h5]
      exact rb
  · have na : a ≠ sysModules := by simpa using ns
    intro hm
    simp only [List.cons_append, List.nil_append, List.mem_cons] at hm
    rcases hm with e | e
    · exact na e.symm
    · exact nb e
theorem reads_din (I : Inv X pins σ H s) {a b : Addr} {P : Program} {w : World} {kvs : List (Option Key × V)} {kds : List (Option Key × D)} (hk : kvs.map (·.1) = kds.map (·.1)) (r : Rd H a (NDo P w b kvs)) (vals : ∀ us, Vals (kvs.map (·.2)) us → ∃ as, ReadsAll s.heap us (toUs (kds.map (·.2))) as ∧ sysModules ∉ as) : ∃ as, Reads s.heap (.ref a) (toU (.din P w kds)) as ∧ sysModules ∉ as := by
  obtain ⟨z, ns, vs, rel, o, es, ep, h1, h2, h3, h4, h5, h6⟩ := ndo_at I.hok r
  obtain ⟨r1, r2⟩ := kv_valsN rel
  obtain ⟨bs, rb, nb⟩ := vals _ r1
  refine ⟨a :: [] ++ bs, ?_, ?_⟩
  · have e : toU (.din P w kds) = .dict (toUn kds) := by simp [toU]
    rw [e]
    refine Reads.dict h1 h2.1 h3 ?_ ?_
    · have := reads_keysN (h := s.heap) h5
      have e2 : (vs.map fun kv => keyPn kv.1) = (kds.map fun kv => keyPn kv.1) := by
        have := hk.symm.trans r2
        have e3 : (vs.map (·.1)).map keyPn = (kds.map (·.1)).map keyPn := by rw [this]
        rw [List.map_map, List.map_map] at e3
        exact e3
      rw [toUn_keys, ← e2]
      exact this
    · rw [toUn_vals, pairs_valsN h5]
      exact rb
  · have na : a ≠ sysModules := by simpa using ns
    intro hm
    rcases List.mem_cons.mp hm with e | e
    · exact na e.symm
    · exact nb e
mutual
theorem Is.reads (I : Inv X pins σ H s) (hs : ∃ o, X.base.get? sysModules = some o) (ex : Ex G H) : ∀ {v : V} {d : D} {u : Value}, Is X.K G v d → okU d = true → RelV v u → ∃ as, Reads s.heap u (toU d) as ∧ sysModules ∉ as
  | _, _, _, .non, _, r => by cases r; exact ⟨_, by simp only [toU]; exact Reads.none, by simp⟩
  | _, _, _, .bl b, _, r => by cases r; exact ⟨_, by simp only [toU]; exact Reads.bool b, by simp⟩
  | _, _, _, .int i, _, r => by obtain ⟨t, rfl⟩ := r; exact ⟨_, by simp only [toU]; exact Reads.int i t, by simp⟩
  | _, _, _, .str x, _, r => by obtain ⟨t, rfl⟩ := r; exact ⟨_, by simp only [toU]; exact Reads.str x t, by simp⟩
  | _, _, _, .ty n, c, r => by simp [okU] at c
  | _, _, _, .lst (a := a) h q, c, r => by
    cases r
    have h' := ex _ _ h
    obtain ⟨its, rv, ⟨o, n, ho, hc, _, hd⟩, _⟩ := I.list (.inl (.inl h'))
    obtain ⟨as, hr, nr⟩ := IsL.reads I hs ex q (by simpa only [okU] using c) rv
    refine ⟨a :: as, by simp only [toU]; exact Reads.list ho hc hd (by simpa using hr), fun hm => ?_⟩
    rcases List.mem_cons.mp hm with e | e
    · exact not_sys I hs h' e.symm
    · exact nr e
  | _, _, _, .tup h q, c, r => by
    cases r
    obtain ⟨its, rv, ⟨o, ho, hc, n, hd⟩, _⟩ := I.tuple (.inl (.inl (ex _ _ h)))
    obtain ⟨as, hr, nr⟩ := IsL.reads I hs ex q (by simpa only [okU] using c) rv
    exact ⟨as, by simp only [toU]; exact Reads.tuple ho hc hd (by simpa using hr), nr⟩
  | _, _, _, .tup0 h, c, r => by
    cases r
    obtain ⟨its, rv, ⟨o, ho, hc, n, hd⟩, _⟩ := I.tuple (h.sq _)
    cases rv
    exact ⟨[], by simp only [toU, toUs]; exact Reads.tuple ho hc hd (by simpa using ReadsAll.nil), by simp⟩
  | _, _, _, .dic h q, c, r => by
    cases r
    exact reads_dict I q.keys (.inr ⟨_, ex _ _ h⟩) fun us ru => IsD.reads I hs ex q (by rw [← okUk_vals]; simpa only [okU] using c) ru
  | _, _, _, .dit h q, c, r => by simp [okU] at c
  | _, _, _, .ins h q, c, r => by simp [okU] at c
  | _, _, _, .obj a, c, r => by simp [okU] at c
  | _, _, _, .exc0 h, c, r => by simp [okU] at c
  | _, _, _, .excF h h2 q, c, r => by simp [okU] at c
  | _, _, _, .lam h h2 h3 h4 q, c, r => by simp [okU] at c
  | _, _, _, .lamP h h2, c, r => by simp [okU] at c
  | _, _, _, .dky h, c, r => by simp [okU] at c
  | _, _, _, .din h q, c, r => by
    cases r
    exact reads_din I q.keys (.inr ⟨_, ex _ _ h⟩) fun us ru => IsD.reads I hs ex q (by rw [← okUn_vals]; simpa only [okU] using c) ru
theorem IsL.reads (I : Inv X pins σ H s) (hs : ∃ o, X.base.get? sysModules = some o) (ex : Ex G H) : ∀ {v : List V} {d : List D} {u : List Value}, IsL X.K G v d → okUs d = true → Vals v u → ∃ as, ReadsAll s.heap u (toUs d) as ∧ sysModules ∉ as
  | _, _, _, .nil, _, r => by cases r; exact ⟨[], by simp only [toUs]; exact ReadsAll.nil, by simp⟩
  | _, _, _, .cons h q, c, r => by
    cases r with
    | cons r1 r2 =>
      simp only [okUs, Bool.and_eq_true] at c
      obtain ⟨as, h1, n1⟩ := Is.reads I hs ex h c.1 r1
      obtain ⟨bs, h2, n2⟩ := IsL.reads I hs ex q c.2 r2
      exact ⟨as ++ bs, by simp only [toUs]; exact ReadsAll.cons h1 h2, fun hm => (List.mem_append.mp hm).elim n1 n2⟩
theorem IsD.reads (I : Inv X pins σ H s) (hs : ∃ o, X.base.get? sysModules = some o) (ex : Ex G H) : ∀ {κ : Type} {v : List (κ × V)} {d : List (κ × D)} {u : List Value}, IsD X.K G v d → okUs (d.map (·.2)) = true → Vals (v.map (·.2)) u → ∃ as, ReadsAll s.heap u (toUs (d.map (·.2))) as ∧ sysModules ∉ as
  | _, _, _, _, .nil, _, r => by cases r; exact ⟨[], by simp only [List.map_nil, toUs]; exact ReadsAll.nil, by simp⟩
  | _, _, _, _, .cons h q, c, r => by
    cases r with
    | cons r1 r2 =>
      simp only [List.map_cons, okUs, Bool.and_eq_true] at c
      obtain ⟨as, h1, n1⟩ := Is.reads I hs ex h c.1 r1
      obtain ⟨bs, h2, n2⟩ := IsD.reads I hs ex q c.2 r2
      exact ⟨as ++ bs, by simp only [List.map_cons, toUs]; exact ReadsAll.cons h1 h2, fun hm => (List.mem_append.mp hm).elim n1 n2⟩
end
end
def shU (d : D) : Str := (toU d).shown
def rprU : Wp := fun ds K => match ds with
  | [d] => okU d = true ∧ (toU d).showable = true ∧ (toU d).depth ≤ 64 ∧ (shU d).length ≤ sizeLine ∧ K (.str (shU d))
  | _ => False
theorem rprU_mono : ∀ ds Q Q', (∀ d, Q d → Q' d) → rprU ds Q → rprU ds Q' := fun ds Q Q' i h => by
  unfold rprU at h ⊢
  split at h
  · exact ⟨h.1, h.2.1, h.2.2.1, h.2.2.2.1, i _ h.2.2.2.2⟩
  · exact h.elim
section
variable {X : Cx}
theorem vw_reads {pins : List (Addr × Obj)} {σ : L2.St} {s : Shared} {an : An} {dr : Option Dr} {om : Om} {τ : List Addr} {G H : Hp} {v : V} {r : R} {u : Value} {d : D} (I : Inv X pins σ H s) (hs : ∃ o, X.base.get? sysModules = some o) (g : Good X.K an dr om τ G H) (h : IsR X.K G τ v r) (e : vw om r = d) (c : okU d = true) (ru : RelV v u) : ∃ as, Reads s.heap u (toU d) as ∧ sysModules ∉ as := by
  cases h with
  | v h => exact Is.reads I hs g.ex (e ▸ h) c ru
  | @o a k h =>
    have nd : d ≠ .dead := by rintro rfl; simp [okU] at c
    obtain ⟨o, ho, ce⟩ := vw_cell g h e nd
    cases d <;> first | (simp [okU] at c; done) | exact False.elim ce | skip
    · obtain ⟨vs, rfl, il⟩ := ce
      cases ru
      obtain ⟨its, rv, ⟨ob, n, hob, hc, _, hd⟩, _⟩ := I.list (.inl (.inl ho))
      obtain ⟨as, hr, nr⟩ := IsL.reads I hs g.ex il (by simpa only [okU] using c) rv
      refine ⟨a :: as, by simp only [toU]; exact Reads.list hob hc hd (by simpa using hr), fun hm => ?_⟩
      rcases List.mem_cons.mp hm with e | e
      · exact not_sys I hs ho e.symm
      · exact nr e
    · obtain ⟨vs, rfl, id⟩ := ce
      cases ru
      exact reads_dict I id.keys (.inl ho) fun us ru => IsD.reads I hs g.ex id (by rw [← okUk_vals]; simpa only [okU] using c) ru
    · obtain ⟨b, vs, rfl, id⟩ := ce
      cases ru
      exact reads_din I id.keys (.inl ho) fun us ru => IsD.reads I hs g.ex id (by rw [← okUn_vals]; simpa only [okU] using c) ru
theorem cb_reprU (hs : ∃ o, X.base.get? sysModules = some o) (gd : X.A.guards = some []) (hu : X.A.units + 66 < cLine) : CallR X (.builtin "repr") (rB X rprU) := by
  intro pins s σ H xs us Q I r h
  have h0 := h
  obtain ⟨an, dr, om, τ, G, rs, g, hp, h⟩ := h
  unfold rprU at h
  split at h
  · rename_i d e
    obtain ⟨v, r0, rfl, rfl, i, ev⟩ := one_arg hp e
    obtain ⟨h1, h2, h3, h4, h5⟩ := h
    obtain ⟨u, rfl, ru⟩ := vals1 r
    have fin : ∀ (h' : Heap) (t : Tok) (tk : Nat), (∀ b o, s.heap.get? b = some o → h'.get? b = some o) → EP X pins σ Q (.str (shU d) t) { s with heap := h', toks := tk } := fun h' t tk hk => ⟨.str (shU d), H, I.kept (t' := tk) hk, ⟨t, rfl⟩, h5.flat g (.str _)⟩
    by_cases rf : ∃ a, v = .ref a
    · obtain ⟨a, rfl⟩ := rf
      obtain ⟨as, rd, ns⟩ := vw_reads I hs g i ev h1 ru
      cases ru
      exact PySem.repr_of_reads' rd h2 (fun _ => ns) gd (by omega) (fun _ _ e => e) (fun h' t tk hk => fin h' t tk hk) h4
    · refine cb_repr gd hu pins s σ H _ _ Q I r ⟨an, dr, om, τ, G, _, g, hp, ?_⟩
      rw [e]
      cases d with
      | non => exact h5
      | bl b => cases b <;> exact h5
      | int z => exact ⟨by simpa [toU, PyData.showable] using h2, h5⟩
      | str z => exact ⟨h4, h5⟩
      | lst xs => obtain ⟨p, vs, e, _⟩ := vw_lst g i ev; exact absurd ⟨p, e⟩ rf
      | tup xs => obtain ⟨p, vs, e, _⟩ := vw_tup g i ev; exact absurd ⟨p, e⟩ rf
      | dic kvs => obtain ⟨p, vs, e, _⟩ := vw_dic g i ev; exact absurd ⟨p, e⟩ rf
      | din P w kvs => obtain ⟨p, b, vs, e, _⟩ := vw_din g i ev; exact absurd ⟨p, e⟩ rf
      | _ => simp [okU] at h1
  · exact h.elim
end
end DL

namespace DL
open PySem L2
structure Cl where
  Shape : Addr
  Book : Addr
  Area : Addr
  Keeper : Addr
  Desk : Addr
  err : Nat → Addr
  P : Program
  w : World
def forS {σ : Type} : List D → σ → (D → σ → (σ → Prop) → Prop) → (σ → Prop) → Prop
  | [], s, _, K => K s
  | d :: ds, s, b, K => b d s fun s' => forS ds s' b K
def whileS {σ : Type} : Nat → σ → (σ → (Bool → Prop) → Prop) → (σ → (σ → Prop) → Prop) → (σ → Prop) → Prop
  | 0, _, _, _, _ => False
  | n + 1, s, c, b, K => c s fun t => if t = true then b s fun s' => whileS n s' c b K else K s
def loopS {σ : Type} (s : σ) (c : σ → (Bool → Prop) → Prop) (b : σ → (σ → Prop) → Prop) (K : σ → Prop) : Prop := ∃ n, whileS n s c b K
def ifS (C : (Bool → Prop) → Prop) (A B : Prop) : Prop := C fun t => if t = true then A else B
def letS {α : Type} (R : α → Prop) (F : (α → Prop) → Prop) : Prop := F R
def joinS (A : (D → Prop) → Prop) (K : D → Prop) : Prop := A K
def blS (d : D) (K : Bool → Prop) : Prop := match d with
  | .bl b => K b
  | _ => False
def intS (d : D) (K : Int → Prop) : Prop := match d with
  | .int b => K b
  | _ => False
def seqS (d : D) (K : List D → Prop) : Prop := match d with
  | .lst ds => K ds
  | .tup ds => K ds
  | _ => False
def unp2 (d : D) (K : D → D → Prop) : Prop := match d with
  | .tup [a, b] => K a b
  | .lst [a, b] => K a b
  | _ => False
def unp3 (d : D) (K : D → D → D → Prop) : Prop := match d with
  | .tup [a, b, c] => K a b c
  | .lst [a, b, c] => K a b c
  | _ => False
def takeS (d : D) (K : D → Prop) : Prop := ∃ n : Int, d = .int n ∧ (0 < n ∧ n < 2 ^ 64) ∧ ∀ k : Int, 0 ≤ k → k < n → K (.int k)
def getO (o : Option D) (K : D → Prop) : Prop := match o with
  | some d => K d
  | none => False
def oR : Option D → Option R
  | some d => some (.v d)
  | none => none
def rngS (d : D) (K : List D → Prop) : Prop := match d with
  | .int j => (-1000000 ≤ j ∧ j ≤ 1000000) ∧ K (rngD j.toNat)
  | _ => False
def enumS (d : D) (K : List D → Prop) : Prop := match d with
  | .lst ds => K (enumD ds)
  | .tup ds => K (enumD ds)
  | _ => False
def zipTS (a b : D) (K : List D → Prop) : Prop := match a, b with
  | .tup xs, .tup ys => xs.length ≤ sizeLine ∧ K (zipD xs ys)
  | _, _ => False
def zipLS (a b : D) (K : List D → Prop) : Prop := match a, b with
  | .lst xs, .lst ys => xs.length ≤ sizeLine ∧ K (zipD xs ys)
  | _, _ => False
def keysS (d : D) (K : List D → Prop) : Prop := match d with
  | .dic kds => kds.length ≤ sizeLine ∧ K (kds.map fun kv => keyDat kv.1)
  | _ => False
def itemsS (d : D) (K : List D → Prop) : Prop := match d with
  | .dic kds => kds.length ≤ sizeLine ∧ K (itemsD kds)
  | _ => False
def appS (l x : D) (K : D → Prop) : Prop := match l with
  | .lst ds => ds.length < sizeLine ∧ K (.lst (ds ++ [x]))
  | _ => False
def popS (l i : D) (K : D → D → Prop) : Prop := match l, i with
  | .lst ds, .int j => 0 ≤ j ∧ ds.length ≤ 1000000 ∧ match ds[j.toNat]? with
    | some d => K d (.lst (ds.eraseIdx j.toNat))
    | none => False
  | _, _ => False
def joinF (z l : D) (K : D → Prop) : Prop := match z, l with
  | .str z, .lst xs => ∃ ys : List Str, xs = ys.map D.str ∧ (ys.map (·.length)).sum + ys.length * z.length ≤ 16777216 ∧ K (.str (Txt.join z ys))
  | _, _ => False
def dputS (l k v : D) (K : D → Prop) : Prop := match l, keyD k with
  | .dic kds, some key => kds.length < sizeLine ∧ K (.dic (putE kds key v))
  | _, _ => False
def dixS (l k : D) (K : D → Prop) : Prop := match l, keyD k with
  | .dic kds, some key => match valE kds key with
    | some d => K d
    | none => False
  | _, _ => False
def dinS (k l : D) (K : Bool → Prop) : Prop := match l, keyD k with
  | .dic kds, some key => K (valE kds key).isSome
  | _, _ => False
def lenU (d : D) (K : D → Prop) : Prop := match d with
  | .dic kds => K (.int (kds.length : Nat))
  | d => lenF [d] K
def ixU (x y : D) (K : D → Prop) : Prop := match x with
  | .dic kds => dixS (.dic kds) y K
  | x => ixD x y K
def cmpU (op : CmpOp) (x y : D) (K : Bool → Prop) : Prop := match op, y with
  | .In, .dic kds => dinS x (.dic kds) K
  | .NotIn, .dic kds => dinS x (.dic kds) fun b => K (!b)
  | op, y => cmpD op x y K
def fldS (C : Addr) (f : Str) (d : D) (K : D → Prop) : Prop := match d with
  | .ins B fds => B = C ∧ match fds.lookup f with
    | some v => K v
    | none => False
  | _ => False
def metS (C : Addr) (m : Str) (d : D) (K : Prop) : Prop := match d with
  | .ins B fds => B = C ∧ fds.lookup m = none ∧ K
  | _ => False
def sfldS (C : Addr) (f : Str) (d v : D) (K : D → Prop) : Prop := match d with
  | .ins B fds => B = C ∧ fds.length < 1000 ∧ K (.ins C (putD f v fds))
  | _ => False
def isAnyData : D → Bool
  | .obj _ => false | .ty _ => false | .dead => false | .dit _ => false | .exc _ _ => false | .own _ => false | .lam _ _ => false | .lamP _ _ => false | .din _ _ _ => false | .dky _ _ _ => false | _ => true
def isCS (C : Addr) (d : D) (K : Bool → Prop) : Prop := match d with
  | .ins B _ => B = C ∧ K true
  | d => isAnyData d = true ∧ K false
def dictZipS (a b : D) (K : D → Prop) : Prop := seqS a fun xs => seqS b fun ys => ∃ ks : List Key, xs = ks.map keyDat ∧ ks.length ≤ 1000 ∧ K (.dic (mergeE [] (ks.zip ys)))
def dictPairsS (a : D) (K : D → Prop) : Prop := match a with
  | .lst xs => ∃ kds : List (Key × D), xs = (kds.map fun kv => D.tup [keyDat kv.1, kv.2]) ∧ kds.length ≤ 1000 ∧ K (.dic (mergeE [] kds))
  | _ => False
def dicS (d : D) (K : List (Key × D) → Prop) : Prop := match d with
  | .dic xs => xs.length ≤ 1000 ∧ K xs
  | _ => False
def dstepS (acc : List (Key × D)) (k v : D) (K : List (Key × D) → Prop) : Prop := match keyD k with
  | some key => K (putE acc key v)
  | none => False
def isErr (nE : Nat) (c : Cl) (d : D) : Prop := ∃ n fds, n < nE ∧ d = .exc (c.err n) fds
def isES (nE : Nat) (c : Cl) (n : Option Nat) (d : D) (K : Bool → Prop) : Prop := match d with
  | .non => K false
  | .exc C _ => ∃ m, m < nE ∧ C = c.err m ∧ K (match n with | some n => decide (m = n) | none => true)
  | _ => False
def fldE (nE : Nat) (c : Cl) (f : Str) (d : D) (K : D → Prop) : Prop := match d with
  | .exc C [(g, v)] => g = f ∧ (∃ m, m < nE ∧ C = c.err m) ∧ K v
  | _ => False
def lenSetS (a : D) (K : D → Prop) : Prop := seqS a fun ds => ∃ xs : List Str, ds = xs.map D.str ∧ xs.length ≤ 1000 ∧ K (.int ((nubS xs).length : Nat))
end DL

namespace DL
open PySem PySem.Spec L2
theorem ifE2 {t : Bool} {A B A' B' : Prop} (h : if t = true then A else B) (i1 : A → A') (i2 : B → B') : if t = true then A' else B' := by
  cases t
  · exact i2 (by simpa using h)
  · exact i1 (by simpa using h)
theorem keyD_dat {d : D} {k : Key} (h : keyD d = some k) : d = keyDat k := by
  unfold keyD at h
  split at h <;> cases h <;> rfl
theorem dix_inv {l k : D} {K : D → Prop} (h : dixS l k K) : ∃ kds key d, l = .dic kds ∧ k = keyDat key ∧ valE kds key = some d ∧ K d := by
  unfold dixS at h
  split at h
  · rename_i kds key e1
    split at h
    · rename_i d e2
      exact ⟨_, _, _, rfl, keyD_dat e1, e2, h⟩
    · exact h.elim
  · exact h.elim
theorem din_inv {l k : D} {K : Bool → Prop} (h : dinS k l K) : ∃ kds key, l = .dic kds ∧ k = keyDat key ∧ K (valE kds key).isSome := by
  unfold dinS at h
  split at h
  · rename_i kds key e1
    exact ⟨_, _, rfl, keyD_dat e1, h⟩
  · exact h.elim
theorem keyD_keyDat (k : Key) : keyD (keyDat k) = some k := by cases k <;> rfl
theorem dix_mk {kds : List (Key × D)} {key : Key} {d : D} {K : D → Prop} (e : valE kds key = some d) (h : K d) : dixS (.dic kds) (keyDat key) K := by
  unfold dixS
  rw [keyD_keyDat]
  simp only [e]
  exact h
theorem din_mk {kds : List (Key × D)} {key : Key} {K : Bool → Prop} (h : K (valE kds key).isSome) : dinS (keyDat key) (.dic kds) K := by
  unfold dinS
  rw [keyD_keyDat]
  exact h
theorem ixU_imp {x y : D} {P P' : D → Prop} (h : ixU x y P) (i : ∀ d, P d → P' d) : ixU x y P' := by
  unfold ixU at h ⊢
  split at h
  · obtain ⟨kds, key, d, e, rfl, e2, q⟩ := dix_inv h
    cases e
    exact dix_mk e2 (i _ q)
  · exact ixD_imp h i
theorem cmpU_imp {op : CmpOp} {x y : D} {P P' : Bool → Prop} (h : cmpU op x y P) (i : ∀ d, P d → P' d) : cmpU op x y P' := by
  unfold cmpU at h ⊢
  split at h
  · obtain ⟨kds, key, e, rfl, q⟩ := din_inv h
    cases e
    exact din_mk (i _ q)
  · obtain ⟨kds, key, e, rfl, q⟩ := din_inv h
    cases e
    exact din_mk (i _ q)
  · exact cmpD_imp h i
theorem lenU_imp {x : D} {P P' : D → Prop} (h : lenU x P) (i : ∀ d, P d → P' d) : lenU x P' := by
  unfold lenU at h ⊢
  split at h
  · exact i _ h
  · exact lenF_mono _ _ _ i h
theorem seqS_inv {d : D} {K : List D → Prop} (h : seqS d K) : ∃ ds, (d = .lst ds ∨ d = .tup ds) ∧ K ds := by
  unfold seqS at h
  split at h
  · exact ⟨_, .inl rfl, h⟩
  · exact ⟨_, .inr rfl, h⟩
  · exact h.elim
theorem blS_link {d : D} {K : Bool → Prop} {T : Bool → Prop} (h : blS d K) (i : ∀ t, K t → T t) : blR (.v d) T := by
  unfold blS at h
  unfold blR
  split at h
  · exact i _ h
  · exact h.elim
theorem intS_link {d : D} {K : Int → Prop} {T : Int → Prop} (h : intS d K) (i : ∀ t, K t → T t) : intR (.v d) T := by
  unfold intS at h
  unfold intR
  split at h
  · exact i _ h
  · exact h.elim
theorem walkD_imp {d : D} {P P' : List D → Prop} (h : walkD d P) (i : ∀ ds, P ds → P' ds) : walkD d P' := by
  unfold walkD at h ⊢
  split at h
  · exact i _ h
  · exact i _ h
  · exact ⟨h.1, i _ h.2⟩
  · exact h.elim
section
variable {X : Cx} {an : An} {dr : Option Dr} {ρ : Rho} {om : Om} {e a b c o : Expr} {es : List Expr} {st : Stmt} {sts sts' : List Stmt} {pos p : Pos} {Q : R → Om → Prop} {T : Bool → Om → Prop} {E : Ed}
def rCmpU (X : Cx) (op : CmpOp) : R2 := fun x y H Q => ∃ an dr om τ G ra rb, Good X.K an dr om τ G H ∧ IsR X.K G τ x ra ∧ IsR X.K G τ y rb ∧ cmpU op (vw om ra) (vw om rb) fun b => Q (.bl b) H
theorem op_cmpU {op : CmpOp} (hu : X.A.units + 65 < cLine) : OpR X (compareOp op) (rCmpU X op) := by
  intro pins s σ H x y v u Q I rx ry h
  obtain ⟨an, dr, om, τ, G, ra, rb, g, ha, hb, h⟩ := h
  unfold cmpU at h
  split at h
  · rename_i kds e
    obtain ⟨kds', key, e1, e2, q⟩ := din_inv h
    cases e1
    obtain ⟨p, kvs, rfl, hp, id⟩ := vw_dic g hb e
    obtain rfl : u = .ref p := ry
    have hx : x = kV key := keyDat_is (vw_not g ha e2 (by cases key <;> rfl))
    refine d_in (by omega) I (.inl ⟨kvs, key, hp, hx, rfl⟩) rx fun s3 I3 => ⟨.bl _, H, I3, rfl, ?_⟩
    rw [isD_valN id]
    exact q
  · rename_i kds e
    obtain ⟨kds', key, e1, e2, q⟩ := din_inv h
    cases e1
    obtain ⟨p, kvs, rfl, hp, id⟩ := vw_dic g hb e
    obtain rfl : u = .ref p := ry
    have hx : x = kV key := keyDat_is (vw_not g ha e2 (by cases key <;> rfl))
    refine d_notIn (by omega) I (.inl ⟨kvs, key, hp, hx, rfl⟩) rx fun s3 I3 => ⟨.bl _, H, I3, rfl, ?_⟩
    rw [isD_valN id]
    exact q
  · exact op_cmp hu pins s σ H x y v u Q I rx ry ⟨an, dr, om, τ, G, ra, rb, g, ha, hb, h⟩
theorem we_cmpU {op : CmpOp} (hu : X.A.units + 65 < cLine) (h : WE X an dr ρ om a fun ra om1 => WE X an dr ρ om1 b fun rb om2 => cmpU op (vw om2 ra) (vw om2 rb) fun t => Q (.v (.bl t)) om2) (hm : behindInMarks op b = false := by first | exact nobehind _ (by decide) (by decide) | rfl) :
    WE X an dr ρ om (.Compare a [op] [b] pos) Q :=
  peI (pe_cmpR (op_cmpU hu) (pe_u (an := an) (dr := dr)) (pe_u (an := an) (dr := dr)) hm) fun σ H K' ⟨τ, G, g, n, k⟩ =>
    uE_of h g n fun v r om1 τ1 G1 H1 h1 w g1 gr1 n1 => uE_of w g1 n1 fun v2 r2 om2 τ2 G2 H2 h2 q g2 gr2 n2 =>
      ⟨an, dr, om2, τ2, G2, r, r2, g2, h1.mono gr2, h2, cmpU_imp q fun t q => k _ _ om2 τ2 G2 H2 (.v (.bl t)) q g2 (gr1.trans gr2)⟩
theorem wt_cmpU {op : CmpOp} (hu : X.A.units + 65 < cLine) (h : WE X an dr ρ om a fun ra om1 => WE X an dr ρ om1 b fun rb om2 => cmpU op (vw om2 ra) (vw om2 rb) fun t => T t om2) (hm : behindInMarks op b = false := by first | exact nobehind _ (by decide) (by decide) | rfl) :
    WT X an dr ρ om (.Compare a [op] [b] pos) T :=
  ptI (pt_cmpR (op_cmpU hu) (pe_u (an := an) (dr := dr)) (pe_u (an := an) (dr := dr)) hm) fun σ H K' ⟨τ, G, g, n, k⟩ =>
    uE_of h g n fun v r om1 τ1 G1 H1 h1 w g1 gr1 n1 => uE_of w g1 n1 fun v2 r2 om2 τ2 G2 H2 h2 q g2 gr2 n2 =>
      ⟨an, dr, om2, τ2, G2, r, r2, g2, h1.mono gr2, h2, cmpU_imp q fun t q => ⟨t, rfl, k _ om2 τ2 G2 H2 q g2 (gr1.trans gr2)⟩⟩
def rIxU (X : Cx) : R2 := fun x y H Q => ∃ an dr om τ G ra rb, Good X.K an dr om τ G H ∧ IsR X.K G τ x ra ∧ IsR X.K G τ y rb ∧ ixU (vw om ra) (vw om rb) (Fin X.K an dr om τ G Q)
theorem ix_U (hu : X.A.units + 1 < cLine) : IxR X (rIxU X) := by
  intro ea eb pins s σ H x y v u Q I rx ry h hs
  obtain ⟨an, dr, om, τ, G, ra, rb, g, ha, hb, h⟩ := h
  unfold ixU at h
  split at h
  · rename_i kds e
    obtain ⟨kds', key, d, e1, e2, e3, q⟩ := dix_inv h
    cases e1
    obtain ⟨p, kvs, rfl, hp, id⟩ := vw_dic g ha e
    obtain rfl : v = .ref p := rx
    have hx : y = kV key := keyDat_is (vw_not g hb e2 (by cases key <;> rfl))
    obtain ⟨w, hw, iw⟩ := isD_valS id e3
    have dg : DGet H p y (some w) := .inl ⟨kvs, key, hp, hx, hw.symm⟩
    have hT := dict_typeIs I dg
    unfold PyProof.Rows.subscriptTail
    refine wpAny_bind ?_
    rw [getitemInPython_of_ne hT.not_modules]
    refine wpAny_bind (wpAny_specialOf hT PySem.F.slot_dict_getitem.lookup ?_)
    have h2 : wpAny (model X.prog X.w) X.A (getItem (.ref p) u) (EP X pins σ Q) X.xe s := d_getItem hu I dg ry fun w' s3 I3 rw' => ⟨w, H, I3, rw', q.flat g iw⟩
    have fin : wpAny (model X.prog X.w) X.A (subscripted eb false (.ref p) u) (fun r s₃ => wpAny (model X.prog X.w) X.A (letTemporaryGo ea (.ref p) r >>= fun _ => pure r) (EP X pins σ Q) X.xe s₃) X.xe s := by
      rw [hs]
      exact wpAny_operating (wpAny_mono h2 (fun r s₃ h₃ => wpAny_bind (wpAny_letTemporaryGo (wpAny_pure h₃))) fun _ _ x => x)
    first
      | exact wpAny_pure (wpAny_bind fin)
      | exact wpAny_bind (wpAny_pure (wpAny_bind fin))
      | exact wpAny_bind fin
  · exact ix_D ea eb pins s σ H x y v u Q I rx ry ⟨an, dr, om, τ, G, ra, rb, g, ha, hb, h⟩ hs
def lenUF : Wp := fun ds K => match ds with
  | [d] => lenU d K
  | _ => False
theorem cb_lenU : CallR X (.builtin "len") (rB X lenUF) := by
  intro pins s σ H xs us Q I r h
  obtain ⟨an, dr, om, τ, G, rs, g, hp, h⟩ := h
  have h0 := h
  unfold lenUF at h
  split at h
  · rename_i d e
    rw [e] at h0
    unfold lenU at h
    split at h
    · rename_i kds
      exact cb_lenD pins s σ H xs us Q I r ⟨an, dr, om, τ, G, rs, g, hp, by rw [e]; exact h⟩
    · exact cb_len pins s σ H xs us Q I r ⟨an, dr, om, τ, G, rs, g, hp, by rw [e]; exact h⟩
  · exact h.elim
theorem lenUF_mono : ∀ ds Q Q', (∀ d, Q d → Q' d) → lenUF ds Q → lenUF ds Q' := fun ds Q Q' i h => by
  unfold lenUF at h ⊢
  split at h
  · exact lenU_imp h i
  · exact h.elim
theorem we_joinS {A : (D → Prop) → Prop} {KS : D → Prop} (hW : joinS A KS) (h : A KS → WE X an dr ρ om e fun r om' => ∃ d, r = .v d ∧ om' = om ∧ KS d) (k : ∀ d, KS d → Q (.v d) om) : WE X an dr ρ om e Q :=
  WE.imp (h hW) fun r om' ⟨d, h1, h2, h3⟩ => by subst h1 h2; exact k d h3
theorem ws_ifS {C : (Bool → Prop) → Prop} {A B : Prop} (hW : ifS C A B) (h : ∀ KS, C KS → WT X an dr ρ om c fun t om' => om' = om ∧ KS t) (ht : A → WSs X an dr ρ om sts E) (hf : B → WSs X an dr ρ om sts' E) : WS X an dr ρ om (.If c sts sts' pos) E :=
  ws_if (WT.imp (h _ hW) fun t om' ⟨e, q⟩ => by
    subst e
    cases t
    · simp only [Bool.false_eq_true, if_false] at q ⊢; exact hf q
    · simp only [if_true] at q ⊢; exact ht q)
theorem we_ifexpS {C : (Bool → Prop) → Prop} {A B : Prop} (hW : ifS C A B) (h : ∀ KS, C KS → WT X an dr ρ om c fun t om' => om' = om ∧ KS t) (ht : A → WE X an dr ρ om a Q) (hf : B → WE X an dr ρ om b Q) : WE X an dr ρ om (.IfExp c a b pos) Q :=
  we_ifexp (WT.imp (h _ hW) fun t om' ⟨e, q⟩ => by
    subst e
    cases t
    · simp only [Bool.false_eq_true, if_false] at q ⊢; exact hf q
    · simp only [if_true] at q ⊢; exact ht q)
theorem ws_ifJ {α : Type} {RS : α → Prop} {F : (α → Prop) → Prop} {A B : (α → Prop) → Prop} {C : (Bool → Prop) → Prop} (RR : α → Rho → Om → Prop) (hW : letS RS fun rest => ifS C (A rest) (B rest)) (h : ∀ KS, C KS → WT X an dr ρ om c fun t om' => om' = om ∧ KS t)
    (ht : ∀ rest, A rest → WSs X an dr ρ om sts { E with nx := fun ρ' om' => ∃ s, RR s ρ' om' ∧ rest s }) (hf : ∀ rest, B rest → WSs X an dr ρ om sts' { E with nx := fun ρ' om' => ∃ s, RR s ρ' om' ∧ rest s })
    (hr : ∀ s ρ' om', RS s → RR s ρ' om' → E.nx ρ' om') : WS X an dr ρ om (.If c sts sts' pos) E := by
  have hW : ifS C (A RS) (B RS) := hW
  exact ws_ifS hW h (fun q => (ht _ q).imp (fun ρ' om' ⟨s, r, q⟩ => hr s ρ' om' q r) (fun _ q => q) (fun _ _ q => q) fun _ _ q => q) (fun q => (hf _ q).imp (fun ρ' om' ⟨s, r, q⟩ => hr s ρ' om' q r) (fun _ q => q) (fun _ _ q => q) fun _ _ q => q)
theorem forS_at {σ : Type} {ds : List D} {i : Nat} {d : D} {s : σ} {b : D → σ → (σ → Prop) → Prop} {K : σ → Prop} (hd : ds[i]? = some d) (h : forS (ds.drop i) s b K) : b d s fun s' => forS (ds.drop (i + 1)) s' b K := by
  obtain ⟨hi, e⟩ := List.getElem?_eq_some_iff.mp hd
  rw [List.drop_eq_getElem_cons hi, e] at h
  exact h
theorem forS_end {σ : Type} {ds : List D} {s : σ} {b : D → σ → (σ → Prop) → Prop} {K : σ → Prop} (h : forS (ds.drop ds.length) s b K) : K s := by
  rw [List.drop_length] at h
  exact h
theorem for_link {σ : Type} {ds : List D} {s0 : σ} {b : D → σ → (σ → Prop) → Prop} {KS : σ → Prop} {f : TgF} {body : List Stmt} (R : σ → Rho → Om → Prop) (hW : forS ds s0 b KS) (h0 : R s0 ρ om)
    (hb : ∀ d s ρ' om' rest, b d s rest → R s ρ' om' → f d ρ' fun ρ2 => WSs X an dr ρ2 om' body { nx := fun ρ3 om3 => ∃ s', R s' ρ3 om3 ∧ rest s', rt := E.rt, bk := E.nx, ct := fun ρ3 om3 => ∃ s', R s' ρ3 om3 ∧ rest s' })
    (he : ∀ s ρ' om', KS s → R s ρ' om' → E.nx ρ' om') :
    ∃ P : Nat → Rho → Om → Prop, P 0 ρ om ∧ (∀ i d ρ' om', ρ'.length = ρ.length → ds[i]? = some d → P i ρ' om' → f d ρ' fun ρ2 => WSs X an dr ρ2 om' body { nx := P (i + 1), rt := E.rt, bk := E.nx, ct := P (i + 1) }) ∧ ∀ ρ' om', ρ'.length = ρ.length → P ds.length ρ' om' → E.nx ρ' om' :=
  ⟨fun i ρ om => ∃ s, R s ρ om ∧ forS (ds.drop i) s b KS, ⟨s0, h0, hW⟩, fun i d ρ' om' hl hd ⟨s, hR, q⟩ => hb d s ρ' om' _ (forS_at hd q) hR, fun ρ' om' hl ⟨s, hR, q⟩ => he s ρ' om' (forS_end q) hR⟩
theorem lc_link {ds : List D} {b : D → List D → (List D → Prop) → Prop} {KS : List D → Prop} {f : TgF} {scope : Scope} {ρw : Rho} {Z : List D → Prop} (hW : forS ds [] b KS)
    (hb : ∀ d acc rest, b d acc rest → f d ρw fun ρ2 => Elt X an dr scope e ρ2 om acc rest) (he : ∀ acc, KS acc → Z acc) :
    ∃ P : Nat → List D → Prop, P 0 [] ∧ (∀ i d acc, ds[i]? = some d → acc.length ≤ i → P i acc → f d ρw fun ρ2 => Elt X an dr scope e ρ2 om acc (P (i + 1))) ∧ ∀ acc, P ds.length acc → Z acc :=
  ⟨fun i acc => forS (ds.drop i) acc b KS, hW, fun i d acc hd _ q => hb d acc _ (forS_at hd q), fun acc q => he acc (forS_end q)⟩
theorem lcIf_link {ds : List D} {b : D → List D → (List D → Prop) → Prop} {KS : List D → Prop} {f : TgF} {scope : Scope} {ρw : Rho} {Z : List D → Prop} (hW : forS ds [] b KS)
    (hb : ∀ d acc rest, b d acc rest → f d ρw fun ρ2 => Tst X an dr scope c ρ2 om acc fun t => if t = true then Elt X an dr scope e ρ2 om acc rest else rest acc) (he : ∀ acc, KS acc → Z acc) :
    ∃ P : Nat → List D → Prop, P 0 [] ∧ (∀ i d acc, ds[i]? = some d → acc.length ≤ i → P i acc → f d ρw fun ρ2 => Tst X an dr scope c ρ2 om acc fun t => if t = true then Elt X an dr scope e ρ2 om acc (P (i + 1)) else P (i + 1) acc) ∧ ∀ acc, P ds.length acc → Z acc :=
  ⟨fun i acc => forS (ds.drop i) acc b KS, hW, fun i d acc hd _ q => hb d acc _ (forS_at hd q), fun acc q => he acc (forS_end q)⟩
theorem tst_link {C : (Bool → Prop) → Prop} {A B : Prop} {scope : Scope} {ρ2 : Rho} {acc : List D} {N : List D → Prop} (hW : ifS C A B) (h : ∀ KS, C KS → ∀ s H C' cl fp, WT (XB X scope s H C' cl fp) an dr ρ2 (om ++ [some (.lst acc)]) c fun t om' => om' = om ++ [some (.lst acc)] ∧ KS t)
    (ht : A → Elt X an dr scope e ρ2 om acc N) (hf : B → N acc) : Tst X an dr scope c ρ2 om acc fun t => if t = true then Elt X an dr scope e ρ2 om acc N else N acc :=
  fun s H C' cl fp => WT.imp (h _ hW s H C' cl fp) fun t om' ⟨h1, q⟩ => ⟨h1, ifE2 q ht hf⟩
theorem fN_link {i : Nat} {d : D} {ρ : Rho} {P : Rho → Prop} (h : P (ρ.set i (some (.v d)))) : fN i d ρ P := h
theorem unp2_link {f1 f2 : TgF} {d : D} {ρ : Rho} {P : Rho → Prop} {K : D → D → Prop} (h : unp2 d K) (i : ∀ a b, K a b → f1 a ρ fun ρ1 => f2 b ρ1 P) : fT 2 (fCons f1 (fCons f2 fNil)) d ρ P := by
  unfold unp2 at h
  split at h
  · exact ⟨rfl, i _ _ h⟩
  · exact ⟨rfl, i _ _ h⟩
  · exact h.elim
theorem unp3_link {f1 f2 f3 : TgF} {d : D} {ρ : Rho} {P : Rho → Prop} {K : D → D → D → Prop} (h : unp3 d K) (i : ∀ a b c, K a b c → f1 a ρ fun ρ1 => f2 b ρ1 fun ρ2 => f3 c ρ2 P) : fT 3 (fCons f1 (fCons f2 (fCons f3 fNil))) d ρ P := by
  unfold unp3 at h
  split at h
  · exact ⟨rfl, i _ _ _ h⟩
  · exact ⟨rfl, i _ _ _ h⟩
  · exact h.elim
theorem app_inv {l x : D} {K : D → Prop} (h : appS l x K) : ∃ ds, l = .lst ds ∧ ds.length < sizeLine ∧ K (.lst (ds ++ [x])) := by
  unfold appS at h
  split at h
  · exact ⟨_, rfl, h⟩
  · exact h.elim
theorem sfld_inv {C : Addr} {f : Str} {d v : D} {K : D → Prop} (h : sfldS C f d v K) : ∃ fds, d = .ins C fds ∧ fds.length < 1000 ∧ K (.ins C (putD f v fds)) := by
  unfold sfldS at h
  split at h
  · obtain ⟨rfl, h1, h2⟩ := h
    exact ⟨_, rfl, h1, h2⟩
  · exact h.elim
theorem take_link {x : Dr} {d : D} {K Z : D → Prop} (h : takeS d K) (i : ∀ v, K v → Z v) : W_take x [.obj x.d, d] Z := by
  obtain ⟨n, rfl, hb, h⟩ := h
  exact ⟨n, rfl, hb, fun k a b => i _ (h k a b)⟩
theorem small_le {n : Nat} (h : n ≤ 1000) : n ≤ sizeLine := Nat.le_trans h (by decide)
theorem allV_v (ds : List D) (K : List D → Prop) : allV (ds.map R.v) K = K ds := by
  induction ds generalizing K with
  | nil => rfl
  | cons d ds ih => exact ih _
end
end DL

namespace DL
open PySem PySem.Spec L2
section
variable {X : Cx} {an : An} {dr : Option Dr} {ρ : Rho} {om : Om} {e e2 o : Expr} {es : List Expr} {pos p apos : Pos} {Q : R → Om → Prop} {E : Ed} {x f : Str} {i k : Nat} {C : Addr}
def lstS (l : D) (A : Prop) : Prop := match l with
  | .lst _ => A
  | _ => False
theorem appS_imp {l x : D} {K K' : D → Prop} (h : appS l x K) (i : ∀ d, K d → K' d) : appS l x K' := by
  obtain ⟨ds, rfl, h1, h2⟩ := app_inv h
  exact ⟨h1, i _ h2⟩
theorem we_appS {l : D} {A : Prop} (hN : X.N[i]? = some x) (hv : Vis X.env.scope x) (hr : ρ[i]? = some (some (.o k))) (ho : om[k]? = some (some l)) (hW : lstS l A)
    (h : A → WE X an dr ρ om e fun r om2 => ∃ d l1, r = .v d ∧ om2[k]? = some (some l1) ∧ appS l1 d fun l2 => Q (.v .non) (om2.set k (some l2)))
    (hd : (x == ("__debug__" : Str)) = false := by decide) (hcd : (x == ("__classdict__" : Str)) = false := by decide)
    (hbase : attributeBase (.Name x p) "append" X.env (eval (.Name x p) X.env) = eval (.Name x p) X.env := by rfl) (hfew : ((backTo pos (starEach [e] X.env)).all (fun x => !x.1) && (backToKw pos (keywordEach [] X.env)).all (fun x => x.1.isSome)
      && decide ([e].length + ([] : List Keyword).length + (if ([] : List Keyword).isEmpty then 0 else 1) < 30)) = true := by rfl)
    (hline : (apos.endLine == pos.line) = true := by rfl) (hs : starEach [e] X.env = (false, eval e X.env) :: starEach [] X.env := by rfl) (hpl : (backTo pos (starEach [] X.env)).any (·.1) = false := by rfl) :
    WE X an dr ρ om (.Call (.Attribute (.Name x p) "append" apos) [e] [] pos) Q := by
  unfold lstS at hW
  split at hW
  · rename_i ds
    refine we_append (we_name hN hv hr ⟨k, rfl, ⟨_, ho⟩, WE.imp (h hW) fun r om2 ⟨d, l1, h1, h2, h3⟩ => ?_⟩ hd hcd) hbase hfew hline hs hpl
    obtain ⟨ds, rfl, h4, h5⟩ := app_inv h3
    exact ⟨d, ds, h1, h2, h4, h5⟩
  · exact hW.elim
def insS (d : D) (K : D → Prop) : Prop := match d with
  | .ins C fs => K (.ins C fs)
  | _ => False
theorem ins_link {d : D} {K P : D → Prop} (h : insS d K) (i : ∀ d, K d → P d) : ∃ d', ([some d] : Om)[0]? = some (some d') ∧ isDict d' = false ∧ P d' := by
  unfold insS at h
  split at h
  · exact ⟨_, rfl, rfl, i _ h⟩
  · exact h.elim
theorem sfldS_imp {l v : D} {K K' : D → Prop} (h : sfldS C f l v K) (i : ∀ d, K d → K' d) : sfldS C f l v K' := by
  obtain ⟨fds, rfl, h1, h2⟩ := sfld_inv h
  exact ⟨rfl, h1, i _ h2⟩
theorem ws_sfldS {pos' : Pos} (c : Cls X.K C) (n : NoAttr X.K C f) (hN : X.N[i]? = some x) (hv : Vis X.env.scope x) (hr : ρ[i]? = some (some (.o k)))
    (h : WE X an dr ρ om e fun r om1 => ∃ d l1, r = .v d ∧ om1[k]? = some (some l1) ∧ sfldS C f l1 d fun l2 => E.nx ρ (om1.set k (some l2)))
    (hd : (x == ("__debug__" : Str)) = false := by decide) (hcd : (x == ("__classdict__" : Str)) = false := by decide)
    (hs : swapsWith e (some (.Attribute (.Name x p) f pos')) pos.line X.env = pure false := by rfl) : WS X an dr ρ om (.Assign [.Attribute (.Name x p) f pos'] e pos) E := by
  refine ws_fld c n (WE.imp h fun r om1 ⟨d, l1, h1, h2, h3⟩ => ⟨d, h1, we_name hN hv hr ?_ hd hcd⟩) hs
  obtain ⟨fds, rfl, h4, h5⟩ := sfld_inv h3
  exact ⟨k, fds, rfl, h2, h4, h5⟩
structure IsCls (K : PySem.W.Frag) (mg : Str → Option Value) (x : Str) (C : Addr) : Prop where
  at_ : mg x = some (.ref C)
  cx : ClsX K C
  own : PySem.W.kitOne K (.ref C) (.ref C) = some true
  oth : ∀ n ∈ ["NoneType", "bool", "int", "str", "list", "tuple", "dict"], PySem.W.kitOne K (.type n) (.ref C) = some false
theorem isC_link {d : D} {K : Bool → Prop} {Z : Bool → Prop} (h : isCS C d K) (i : ∀ t, K t → Z t) : isCS C d Z := by
  unfold isCS at h ⊢
  split at h
  · exact ⟨h.1, i _ h.2⟩
  · exact ⟨h.1, i _ h.2⟩
theorem anyData_ty {d : D} (h : isAnyData d = true) (n : ∀ B fs, d ≠ .ins B fs) : ∃ m, tyN d = some m ∧ tyV d = some (.type m) ∧ m ∈ ["NoneType", "bool", "int", "str", "list", "tuple", "dict"] := by
  cases d <;> first | (simp [isAnyData] at h; done) | exact ⟨_, rfl, rfl, by decide⟩ | exact absurd rfl (n _ _)
theorem we_isC {p2 : Pos} (hm : X.mg "isinstance" = none) (hC : IsCls X.K X.mg x C) (h : WE X an dr ρ om e fun r om1 => isCS C (vw om1 r) fun t => Q (.v (.bl t)) om1) (hgx : Gl X x := by rfl) (hd : (x == ("__debug__" : Str)) = false := by decide) (hg : Gl X "isinstance" := by rfl)
    (hs : starEach [e, .Name x p2] X.env = (false, eval e X.env) :: starEach [.Name x p2] X.env := by rfl) (hs2 : starEach [.Name x p2] X.env = (false, eval (.Name x p2) X.env) :: starEach [] X.env := by rfl) (hpl : (backTo pos (starEach [.Name x p2] X.env)).any (·.1) = false := by rfl) : WE X an dr ρ om (.Call (.Name "isinstance" p) [e, .Name x p2] [] pos) Q := by
  refine we_blt cb_isiU hm PyProof.Rows.boot_isinstance isiU_mono (wa_cons (WE.imp h fun r om1 hq => wa_cons (we_glob (v := .ref C) hC.at_ rfl (fun _ => .obj C) hgx (wa_nil ?_) hd) hs2) hs) hg (by decide) (by decide) hs hpl
  show isiU X.K [vw om1 r, .obj C] _
  unfold isCS at hq
  split at hq
  · rename_i B fs ev
    obtain ⟨rfl, q⟩ := hq
    rw [ev]
    exact ⟨_, _, rfl, fun B fs z => by cases z; exact hC.cx, hC.own, q⟩
  · rename_i nd
    obtain ⟨m, t1, t2, t3⟩ := anyData_ty hq.1 nd
    exact ⟨_, _, t2, fun B fs z => absurd z (nd B fs), hC.oth m t3, hq.2⟩
end
end DL

namespace DL
open PySem PySem.Spec L2
section
variable {X : Cx} {an : An} {dr : Option Dr} {ρ : Rho} {om : Om} {e a b o : Expr} {es : List Expr} {pos p p2 pos2 apos : Pos} {Q : R → Om → Prop} {E : Ed} {x f : Str} {i k : Nat} {C : Addr}
theorem new_dic {τ : List Addr} {G H : Hp} {kvs : List (Key × V)} {kds : List (Key × D)} {Z : VK} {d : Addr} (g : Good X.K an dr om τ G H) (hd : H d = none) (id : IsD X.K G kvs kds) (k : ∀ G' H', Is X.K G' (.ref d) (.dic kds) → Good X.K an dr om τ G' H' → Grow G τ G' τ → Z (.ref d) H') :
    Z (.ref d) (upd H d (.dK kvs)) ∨ ∃ c u, upd H d (.dK kvs) c = some u ∧ Mut (some u) ∧ ∀ od, Z (.ref d) (upd (upd H d (.dK kvs)) c (.frz od u)) :=
  .inr ⟨d, _, upd_same, trivial, fun od => by
    rw [upd_upd]
    exact k _ _ (.dic upd_same (id.mono (Ex.new (g.ex.free hd)))) (g.alloc hd) (g.grow hd)⟩
theorem keys_is {G : Hp} : ∀ {ks : List Key} {vs : List V}, IsL X.K G vs (ks.map keyDat) → vs = ks.map kV
  | [], _, .nil => rfl
  | k :: ks, _, .cons h q => by rw [List.map_cons, ← keys_is q, keyDat_is h]
theorem zip_is {G : Hp} : ∀ {ks : List Key} {vs : List V} {ds : List D}, IsL X.K G vs ds → IsD X.K G (ks.zip vs) (ks.zip ds)
  | [], _, _, _ => by simp; exact .nil
  | _ :: _, _, _, .nil => by simp; exact .nil
  | k :: ks, _, _, .cons h q => .cons h (zip_is q)
theorem pairs_is {G H : Hp} (ex : Ex G H) : ∀ {kds : List (Key × D)} {vs : List V}, IsL X.K G vs (kds.map fun kv => D.tup [keyDat kv.1, kv.2]) → ∃ ps kvs, vs = ps.map V.ref ∧ Paired (fun p kv => SqT X.K H p [kV kv.1, kv.2]) ps kvs ∧ IsD X.K G kvs kds
  | [], _, .nil => ⟨[], [], rfl, .nil, .nil⟩
  | (key, d) :: kds, _, .cons h q => by
    obtain ⟨ps, kvs, e, pp, id⟩ := pairs_is ex q
    obtain ⟨c, ws, rfl, hc, il⟩ := h.tup_inv
    cases il with
    | cons i1 il =>
      cases il with
      | cons i2 il =>
        cases il
        obtain rfl := keyDat_is i1
        exact ⟨c :: ps, (key, _) :: kvs, by rw [e]; rfl, .cons (hc _ ex) pp, .cons i2 id⟩
theorem dictPairs_run {K' : VK} {σ : L2.St} {H : Hp} {τ : List Addr} {G : Hp} {R0 : List V → Hp → VK → Prop} (h : WE X an dr ρ om a fun r om1 => ∃ (kds : List (Key × D)), vw om1 r = .lst (kds.map fun kv => D.tup [keyDat kv.1, kv.2]) ∧ Q (.v (.dic (mergeE [] kds))) om1)
    (g : Good X.K an dr om τ G H) (n : EnvIs X.K G τ σ ρ)
    (k : ∀ v l ps kvs kds om1 τ1 G1 H1, v = V.ref l → SqL X.K H1 l (ps.map V.ref) → Paired (fun p kv => SqT X.K H1 p [kV kv.1, kv.2]) ps kvs → Q (.v (.dic (mergeE [] kds))) om1 → IsD X.K G1 kvs kds → Good X.K an dr om1 τ1 G1 H1 → Grow G τ G1 τ1 → K' v H1) : uE X an dr a σ H K' :=
  uE_of h g n fun v r om1 τ1 G1 H1 h1 w g1 gr1 n1 => by
    obtain ⟨kds, ev, q⟩ := w
    obtain ⟨l, vs, rfl, hl, il⟩ := vw_lst g1 h1 ev
    obtain ⟨ps, kvs, rfl, pp, id⟩ := pairs_is g1.ex il
    exact k _ l ps kvs kds om1 τ1 G1 H1 rfl (.inl (.inl hl)) pp q id g1 gr1
theorem we_dictPairs (hc : X.calm = true) (m1 : X.mg "dict" = none) (h : WE X an dr ρ om a fun r om1 => ∃ (kds : List (Key × D)), vw om1 r = .lst (kds.map fun kv => D.tup [keyDat kv.1, kv.2]) ∧ Q (.v (.dic (mergeE [] kds))) om1)
    (g1 : Gl X "dict" := by rfl) (he : starEach [a] X.env = (false, eval a X.env) :: starEach [] X.env := by rfl) (hpl : (backTo pos (starEach [] X.env)).any (·.1) = false := by rfl) : WE X an dr ρ om (.Call (.Name "dict" p) [a] [] pos) Q :=
  peI (pe_lk (pe_callTy (call_dictP hc) g1 m1 boot_dict (pa_cons (pe_u (an := an) (dr := dr)) pa_nil he) (by decide) (by decide) he hpl)) fun σ H K' ⟨τ, G, g, n, k⟩ => dictPairs_run (R0 := fun _ _ _ => True) h g n fun v l ps kvs kds om1 τ1 G1 H1 ev hl pp q id g1 gr1 =>
    ⟨l, ps, kvs, by rw [ev], hl, pp, fun d hd => new_dic g1 hd (IsD.merge id .nil) fun G' H' i' g' gr' => k _ _ om1 τ1 G' H' (.v i') q g' (gr1.trans gr')⟩
theorem length_putE {κ : Type} [DecidableEq κ] (kvs : List (κ × D)) (k : κ) (v : D) : (putE kvs k v).length ≤ kvs.length + 1 := by
  unfold putE
  split
  · rw [List.length_map]; omega
  · rw [List.length_append]; exact Nat.le_refl _
theorem length_mergeE : ∀ (more kvs : List (Key × D)), (mergeE kvs more).length ≤ kvs.length + more.length
  | [], kvs => Nat.le_refl _
  | kv :: more, kvs => by
    have h1 := length_mergeE more (putE kvs kv.1 kv.2)
    have h2 := length_putE kvs kv.1 kv.2
    have h3 : mergeE kvs (kv :: more) = mergeE (putE kvs kv.1 kv.2) more := rfl
    rw [h3, List.length_cons]
    omega
end
end DL

namespace DL
open PySem PySem.Spec L2
def vR : R → D
  | .v d => d
  | .o _ => .dead
def twoR (rs : List R) (K : R → R → Prop) : Prop := match rs with
  | [a, b] => K a b
  | _ => False
section
variable {X : Cx} {an : An} {dr : Option Dr} {ρ : Rho} {om : Om} {e a b o tg : Expr} {es : List Expr} {pos p p2 pos2 apos : Pos} {Q : R → Om → Prop} {E : Ed} {x f own m : Str} {i k j : Nat} {C : Addr} {QI : List D → Om → Prop} {W : Wp} {ps : List Str}
theorem isR_v {K : PySem.W.Frag} {r : R} {d : D} (h : vR r = d) (n : d ≠ .dead) : r = .v d := by
  cases r with
  | v d' => exact congrArg R.v h
  | o k => exact absurd h.symm n
theorem wi_rangeU (hm : X.mg "range" = none) (h : WE X an dr ρ om e fun r om1 => rngS (vR r) fun ds => QI ds om1) (hg : Gl X "range" := by rfl) (hs : starEach [e] X.env = [(false, eval e X.env)] := by rfl) : WI X an dr ρ om tg (.Call (.Name "range" p) [e] [] pos) QI :=
  wi_range hm (WE.imp h fun r om1 q => by
    cases r with
    | v d =>
      unfold rngS at q
      split at q
      · rename_i z ez
        have ez : d = .int z := ez
        subst ez
        exact q
      · exact q.elim
    | o k => exact q.elim) hg hs
theorem rngS_imp {d : D} {P P' : List D → Prop} (h : rngS d P) (i : ∀ ds, P ds → P' ds) : rngS d P' := by
  unfold rngS at h ⊢
  split at h
  · exact ⟨h.1, i _ h.2⟩
  · exact h.elim
theorem wi_enumU {elts : List Expr} {kk : Nat} {tpos : Pos} (hm : X.mg "enumerate" = none) (h : WE X an dr ρ om e fun r om1 => enumS (vR r) fun ds => QI ds om1) (hg : Gl X "enumerate" := by rfl) (hs : starEach [e] X.env = [(false, eval e X.env)] := by rfl) :
    WI X an dr ρ om (.Tuple elts kk tpos) (.Call (.Name "enumerate" p) [e] [] pos) QI :=
  wi_enum hm (WE.imp h fun r om1 q => by
    cases r with
    | v d =>
      unfold enumS at q
      split at q
      · rename_i ds ez
        exact ⟨ds, .inl ez, q⟩
      · rename_i ds ez
        exact ⟨ds, .inr ez, q⟩
      · exact q.elim
    | o k => exact q.elim) hg hs
theorem enumS_imp {d : D} {P P' : List D → Prop} (h : enumS d P) (i : ∀ ds, P ds → P' ds) : enumS d P' := by
  unfold enumS at h ⊢
  split at h <;> first | exact i _ h | exact h.elim
theorem two_allV {rs : List R} {K : D → D → Prop} (h : twoR rs fun r1 r2 => K (vR r1) (vR r2)) (n1 : ∀ d, ¬ K .dead d) (n2 : ∀ d, ¬ K d .dead) : ∃ d1 d2, rs = [.v d1, .v d2] ∧ K d1 d2 := by
  unfold twoR at h
  split at h
  · rename_i r1 r2
    cases r1 with
    | o k => exact absurd h (n1 _)
    | v d1 =>
      cases r2 with
      | o k => exact absurd h (n2 _)
      | v d2 => exact ⟨d1, d2, rfl, h⟩
  · exact h.elim
theorem WA.imp {Q Q' : List R → Om → Prop} (h : WA X an dr ρ om es Q) (i : ∀ r om', Q r om' → Q' r om') : WA X an dr ρ om es Q' :=
  paI h fun σ H K' ⟨τ, G, g, n, k⟩ => ⟨τ, G, g, n, fun v r om' τ' G' H' h1 h2 h3 h4 => k v r om' τ' G' H' h1 (i r om' h2) h3 h4⟩
theorem wi_zipTU {tpos : Pos} {elts : List Expr} {kk : Nat} (hm : X.mg "zip" = none) (h : WA X an dr ρ om [a, b] fun rs om1 => twoR rs fun r1 r2 => zipTS (vR r1) (vR r2) fun ds => QI ds om1) (hg : Gl X "zip" := by rfl)
    (hs : starEach [a, b] X.env = (false, eval a X.env) :: starEach [b] X.env := by rfl) (hpl : (backTo pos (starEach [b] X.env)).any (·.1) = false := by rfl) : WI X an dr ρ om (.Tuple elts kk tpos) (.Call (.Name "zip" p) [a, b] [] pos) QI :=
  wi_zipT hm (WA.imp h fun rs om1 q => by
    obtain ⟨d1, d2, rfl, q2⟩ := two_allV (K := fun d1 d2 => zipTS d1 d2 fun ds => QI ds om1) q (fun d h => h) (fun d h => by unfold zipTS at h; split at h <;> simp_all)
    unfold zipTS at q2
    split at q2
    · exact ⟨_, _, rfl, q2⟩
    · exact q2.elim) hg hs hpl
theorem zipTS_imp {d1 d2 : D} {P P' : List D → Prop} (h : zipTS d1 d2 P) (i : ∀ ds, P ds → P' ds) : zipTS d1 d2 P' := by
  unfold zipTS at h ⊢
  split at h
  · exact ⟨h.1, i _ h.2⟩
  · exact h.elim
theorem fldS_inv {d : D} {K : D → Prop} (h : fldS C f d K) : ∃ fds v, d = .ins C fds ∧ fds.lookup f = some v ∧ K v := by
  unfold fldS at h
  split at h
  · obtain ⟨rfl, h⟩ := h
    split at h
    · rename_i v ez
      exact ⟨_, v, rfl, ez, h⟩
    · exact h.elim
  · exact h.elim
theorem fldS_mk {fds : List (Str × D)} {v : D} {K : D → Prop} (e : fds.lookup f = some v) (h : K v) : fldS C f (.ins C fds) K := by
  refine ⟨rfl, ?_⟩
  rw [e]
  exact h
theorem fldS_imp {d : D} {P P' : D → Prop} (h : fldS C f d P) (i : ∀ v, P v → P' v) : fldS C f d P' := by
  obtain ⟨fds, v, rfl, e, q⟩ := fldS_inv h
  exact fldS_mk e (i _ q)
theorem we_fldU (c : Cls X.K C) (n : NoAttr X.K C f) (h : WE X an dr ρ om e fun r om1 => fldS C f (vw om1 r) fun d => Q (.v d) om1) (hb : attributeBase e f X.env (eval e X.env) = eval e X.env := by rfl) : WE X an dr ρ om (.Attribute e f pos) Q :=
  we_fld c n (WE.imp h fun r om1 q => fldS_inv q) hb
theorem we_propU (h : HasP X.prog X.w X.K X.mg X.base k C f own) (hr : Room j X.A) (hw : WE X an dr ρ om e fun r om1 => fldS C own (vw om1 r) fun d => Q (.v d) om1) (hkj : k + 1 ≤ j := by decide)
    (hb : attributeBase e f X.env (eval e X.env) = eval e X.env := by rfl) : WE X an dr ρ om (.Attribute e f pos) Q :=
  we_prop h hr (WE.imp hw fun r om1 q => fldS_inv q) hkj hb
theorem metS_inv {d : D} {A : Prop} (h : metS C m d A) : ∃ fds, d = .ins C fds ∧ fds.lookup m = none ∧ A := by
  unfold metS at h
  split at h
  · obtain ⟨rfl, h1, h2⟩ := h
    exact ⟨_, rfl, h1, h2⟩
  · exact h.elim
theorem metS_imp {d : D} {A A' : Prop} (h : metS C m d A) (i : A → A') : metS C m d A' := by
  obtain ⟨fds, rfl, h1, h2⟩ := metS_inv h
  exact ⟨rfl, h1, i h2⟩
theorem we_methU {pl : Sem Bool} (h : HasM X.prog X.w X.K X.mg X.base dr k C m ps W) (hr : Room j X.A) (hw : WE X an dr ρ om o fun ro om1 => metS C m (vR ro) (WA X an dr ρ om1 (e :: es) fun rs om2 => allV rs fun ds => W (vR ro :: ds) fun d => Q (.v d) om2))
    (hkj : k ≤ j := by decide) (hst : starEach (e :: es) X.env = (false, eval e X.env) :: starEach es X.env := by rfl) (hpl : (backTo pos (starEach es X.env)).any (·.1) = false := by rfl)
    (ht : eval (.Call (.Attribute o m apos) (e :: es) [] pos) X.env = (do
      let ov ← eval o X.env
      standAt apos.atName
      let (f, first) ← holding [ov] (getMethod ov m pl)
      callWith pos f first (backTo pos (starEach (e :: es) X.env)) (backToKw pos (keywordEach [] X.env))) := by rfl) : WE X an dr ρ om (.Call (.Attribute o m apos) (e :: es) [] pos) Q :=
  we_meth h hr (WE.imp hw fun ro om1 q => by
    obtain ⟨fds, e1, h1, h2⟩ := metS_inv q
    have e2 := isR_v (K := X.K) e1 (by simp)
    subst e2
    exact ⟨fds, rfl, h1, h2⟩) hkj hst hpl ht
theorem lenSetS_imp {d : D} {P P' : D → Prop} (h : lenSetS d P) (i : ∀ v, P v → P' v) : lenSetS d P' := by
  unfold lenSetS at h ⊢
  obtain ⟨ds, e, xs, rfl, h1, h2⟩ := seqS_inv h
  rcases e with rfl | rfl
  · exact ⟨xs, rfl, h1, i _ h2⟩
  · exact ⟨xs, rfl, h1, i _ h2⟩
theorem we_lenSetU {q : Pos} (hc : X.calm = true) (m1 : X.mg "len" = none) (m2 : X.mg "set" = none) (h : WE X an dr ρ om a fun r om1 => lenSetS (vw om1 r) fun d => Q (.v d) om1)
    (g1 : Gl X "len" := by rfl) (g2 : Gl X "set" := by rfl) (na : starEach [a] X.env = (false, eval a X.env) :: starEach [] X.env := by rfl) : WE X an dr ρ om (.Call (.Name "len" p) [.Call (.Name "set" p2) [a] [] q] [] pos) Q :=
  we_lenSet hc m1 m2 (WE.imp h fun r om1 q => by
    obtain ⟨ds, e, xs, rfl, h1, h2⟩ := seqS_inv q
    exact ⟨xs, e, h1, h2⟩) g1 g2 na
theorem joinF_imp {z d : D} {P P' : D → Prop} (h : joinF z d P) (i : ∀ v, P v → P' v) : joinF z d P' := by
  unfold joinF at h ⊢
  split at h
  · obtain ⟨ys, e, h1, h2⟩ := h
    exact ⟨ys, e, h1, i _ h2⟩
  · exact h.elim
theorem we_joinU {z : Str} {kk : Nat} (h : WE X an dr ρ om e fun r om2 => joinF (.str z) (vw om2 r) fun d => Q (.v d) om2)
    (hs : starEach [e] X.env = [(false, eval e X.env)] := by rfl) (hbase : attributeBase (.Constant (.str z) kk p) "join" X.env (eval (.Constant (.str z) kk p) X.env) = eval (.Constant (.str z) kk p) X.env := by rfl) (hline : (apos.endLine == pos.line) = true := by rfl) : WE X an dr ρ om (.Call (.Attribute (.Constant (.str z) kk p) "join" apos) [e] [] pos) Q :=
  we_join (we_str ⟨z, rfl, WE.imp h fun r om2 q => by
    unfold joinF at q
    split at q
    · rename_i z' xs e1 e2
      cases e1
      obtain ⟨ys, rfl, h1, h2⟩ := q
      exact ⟨ys, e2, h1, h2⟩
    · exact q.elim⟩) hs hbase hline
theorem dictPairsS_imp {d : D} {P P' : D → Prop} (h : dictPairsS d P) (i : ∀ v, P v → P' v) : dictPairsS d P' := by
  unfold dictPairsS at h ⊢
  split at h
  · obtain ⟨kds, e, h1, h2⟩ := h
    exact ⟨kds, e, h1, i _ h2⟩
  · exact h.elim
theorem we_dictPairsU (hc : X.calm = true) (m1 : X.mg "dict" = none) (h : WE X an dr ρ om a fun r om1 => dictPairsS (vw om1 r) fun d => Q (.v d) om1)
    (g1 : Gl X "dict" := by rfl) (he : starEach [a] X.env = (false, eval a X.env) :: starEach [] X.env := by rfl) (hpl : (backTo pos (starEach [] X.env)).any (·.1) = false := by rfl) : WE X an dr ρ om (.Call (.Name "dict" p) [a] [] pos) Q :=
  we_dictPairs hc m1 (WE.imp h fun r om1 q => by
    unfold dictPairsS at q
    split at q
    · rename_i xs ez
      obtain ⟨kds, rfl, _, q⟩ := q
      exact ⟨kds, ez, q⟩
    · exact q.elim) g1 he hpl
def keyS (d : D) (K : Key → Prop) : Prop := match keyD d with
  | some key => K key
  | none => False
theorem walkV {d : D} {om : Om} {P Z : List D → Prop} (h : walkD d P) (i : ∀ ds, P ds → Z ds) : retR om (.v d) fun d' => walkD d' fun ds => Z ds := walkD_imp h i
theorem intV {i : Int} {K : Int → Prop} (h : K i) : intR (.v (.int i)) K := h
theorem allV1 {a0 : D} {K : List D → Prop} (h : K [a0]) : allV [.v a0] K := h
theorem allV2 {a0 a1 : D} {K : List D → Prop} (h : K [a0, a1]) : allV [.v a0, .v a1] K := h
theorem allV3 {a0 a1 a2 : D} {K : List D → Prop} (h : K [a0, a1, a2]) : allV [.v a0, .v a1, .v a2] K := h
theorem twoV {a b : R} {K : R → R → Prop} (h : K a b) : twoR [a, b] K := h
theorem boot_sorted : bootBuiltins "sorted" = some (.builtin "sorted") := by decide +kernel
theorem wo_none {T : Option Int → Om → Prop} (h : T none om) : WO X an dr ρ om none T := h
theorem wo_some {T : Option Int → Om → Prop} (h : WE X an dr ρ om e fun r om1 => intR r fun i => T (some i) om1) : WO X an dr ρ om (some e) T := h
end
end DL

namespace DL
open PySem PySem.Spec L2
def pickL {α : Type} (perm : List Nat) (zs : List α) : List α := perm.filterMap (zs[·]?)
theorem pick_vals {zs : List V} {ws : List Value} (h : Vals zs ws) : ∀ perm : List Nat, Vals (pickL perm zs) (pickL perm ws)
  | [] => .nil
  | i :: perm => by
    have ih := pick_vals h perm
    unfold pickL at ih ⊢
    rw [List.filterMap_cons, List.filterMap_cons]
    cases q : zs[i]? with
    | none => rw [h.none_of q]; exact ih
    | some x =>
      obtain ⟨u, hu, r⟩ := h.get q
      rw [hu]
      exact .cons r ih
theorem pick_isL {K : PySem.W.Frag} {G : Hp} {vs : List V} {ds : List D} (h : IsL K G vs ds) : ∀ perm : List Nat, IsL K G (pickL perm vs) (pickL perm ds)
  | [] => .nil
  | i :: perm => by
    have ih := pick_isL h perm
    unfold pickL at ih ⊢
    rw [List.filterMap_cons, List.filterMap_cons]
    cases q : ds[i]? with
    | none =>
      have : vs[i]? = none := by
        rw [List.getElem?_eq_none_iff] at q ⊢
        rw [h.length]; exact q
      rw [this]; exact ih
    | some d =>
      obtain ⟨v, hv, iv⟩ := h.get q
      rw [hv]
      exact .cons iv ih
structure HasW (P : Program) (w : World) (K : PySem.W.Frag) (mg : Str → Option Value) (base : Heap) (dr : Option Dr) (k : Nat) (x : Str) (ps ks : List Str) (perm : List Nat) (W : Wp) : Prop where
  ex : ∃ f fd, FnOk P w K mg base CX0 k f fd ps (spD K dr W) ∧ mg x = some (.ref f) ∧ PySem.W.keepIn K (.ref f) = true ∧ KBn K fd ps 0 ks (fun _ ws => pickL perm ws) (fun _ zs => pickL perm zs)
  mono : ∀ ds Q Q', (∀ d, Q d → Q' d) → W ds Q → W ds Q'
def WK (X : Cx) (an : An) (dr : Option Dr) (ρ : Rho) (om : Om) (kws : List Keyword) (Q : List R → Om → Prop) : Prop := PK X kws (tDA X.K an dr ρ om Q)
def uK (X : Cx) (an : An) (dr : Option Dr) (e : List Keyword) : TA := fun σ H K' => ∃ ρ om Q, WK X an dr ρ om e Q ∧ tDA X.K an dr ρ om Q σ H K'
section
variable {X : Cx} {an : An} {dr : Option Dr} {ρ : Rho} {om : Om} {e a b o : Expr} {es : List Expr} {kws : List Keyword} {pos p kpos : Pos} {Q : R → Om → Prop} {x : Str} {nm : Option Str} {k j : Nat} {ps ks : List Str} {perm : List Nat} {W : Wp} {QA : List R → Om → Prop}
theorem pkI {t t' : TA} (h : PK X kws t) (i : ∀ σ H K', t' σ H K' → t σ H K') : PK X kws t' := ⟨fun pos pins s σ H Q I q => h.run pos pins s σ H Q I (i σ H Q q)⟩
theorem pk_u : PK X kws (uK X an dr kws) := ⟨fun pos pins s σ H K' I ⟨ρ, om, Q, w, h⟩ => PK.run w pos pins s σ H K' I h⟩
theorem uK_of {σ : L2.St} {H : Hp} {τ : List Addr} {G : Hp} {K' : List V → Hp → Prop} (w : WK X an dr ρ om kws QA) (g : Good X.K an dr om τ G H) (n : EnvIs X.K G τ σ ρ)
    (k : ∀ vs rs om' τ' G' H', Paired (IsR X.K G' τ') vs rs → QA rs om' → Good X.K an dr om' τ' G' H' → Grow G τ G' τ' → EnvIs X.K G' τ' σ ρ → K' vs H') : uK X an dr kws σ H K' :=
  ⟨ρ, om, QA, w, τ, G, g, n, fun vs rs om' τ' G' H' h1 h2 h3 h4 => k vs rs om' τ' G' H' h1 h2 h3 h4 (n.mono h4)⟩
theorem wk_nil (q : QA [] om) : WK X an dr ρ om [] QA := pkI pk_nil fun σ H K' ⟨τ, G, g, n, k⟩ => k [] [] om τ G H .nil q g (Grow.refl G τ)
theorem wk_cons (h : WE X an dr ρ om e fun r om1 => WK X an dr ρ om1 kws fun rs om2 => QA (r :: rs) om2) : WK X an dr ρ om (⟨nm, e, kpos⟩ :: kws) QA :=
  pkI (pk_cons (pe_u (an := an) (dr := dr)) (pk_u (an := an) (dr := dr))) fun σ H K' ⟨τ, G, g, n, k⟩ =>
    uE_of h g n fun v r om1 τ1 G1 H1 h1 w g1 gr1 n1 => uK_of w g1 n1 fun vs rs om2 τ2 G2 H2 h2 q g2 gr2 n2 => k (v :: vs) (r :: rs) om2 τ2 G2 H2 (.cons (h1.mono gr2) h2) q g2 (gr1.trans gr2)
def tCallW (m : Nat) (sp : Sp) (perm : List Nat) (tk : TA) : TE := fun σ H Q => tk σ H fun zs H2 => zs.length = m ∧ sp (pickL perm zs) H2 Q E0
end
end DL

namespace DL
open PySem PySem.Spec L2
theorem FnG.lift {P : Program} {w : World} {K : PySem.W.Frag} {mg : Str → Option Value} {base : Heap} {CX : CXT} {j k : Nat} {f : Addr} {fd : FuncData} {ps : List Str} {sp : Sp} (F : FnG P w K mg base CX j f fd ps sp) (h : j ≤ k) : FnG P w K mg base CX k f fd ps sp := ⟨F.len, fun A outer s H args us vs Q E hr => F.run A outer s H args us vs Q E (hr.mono h)⟩
theorem mono_take {x : Dr} : ∀ ds Q Q', (∀ d, Q d → Q' d) → W_take x ds Q → W_take x ds Q' := fun ds Q Q' i ⟨n, e, h, q⟩ => ⟨n, e, h, fun k a b => i _ (q k a b)⟩
theorem mono_blend {x : Dr} : ∀ ds Q Q', (∀ d, Q d → Q' d) → W_blend x ds Q → W_blend x ds Q' := fun ds Q Q' i ⟨e, q⟩ => ⟨e, fun k => i _ (q k)⟩
theorem prop_mk {P : Program} {w : World} {K : PySem.W.Frag} {mg : Str → Option Value} {base : Heap} {C p g : Addr} {f own name qual : Str} {st : Stmt} {oc : Value} {od an : Option Addr} {osl : Array (Option Value)} {kV doc pm cdv ct : Value} {rest : List Value} {p1 p2 p3 : Pos}
    (c : Cls K C) (n : NoAttr K C own) (a : PySem.W.findIn K (.ref C) f = some (some (.ref p))) (h1 : PySem.W.specialIn K (.ref p) "__get__" = some (some (.builtin "property.__get__"))) (h2 : PySem.W.takesIn K (.ref p) = some true) (h3 : PySem.W.recIn K p "property" = some (.ref g :: rest))
    (l : K.lookup g = some ⟨oc, od, .func (PySem.W.fnOf name qual (defArgs st) (defBody st) (defScope st) .none kV doc pm an cdv ct), osl⟩) (hc : PySem.W.codeIn K cdv qual = true) (S : FnScope ["self"] ["self"] (defScope st)) (hb : defBody st = [.Return (some (.Attribute (.Name "self" p1) own p2)) p3])
    (bi : ∀ us : List Value, us.length = 1 → bindArgs (PySem.W.fnOf name qual (defArgs st) (defBody st) (defScope st) .none kV doc pm an cdv ct) ⟨us, []⟩ = pure ((["self"] : List Str).zip us)) : HasP P w K mg base 1 C f own :=
  ⟨⟨p, g, _, fn_getter (k := 0) l hc S rfl hb c n, ⟨a, h1, h2, rest, h3⟩, .all bi⟩, c⟩
end DL

namespace DL
open PySem L2
section
variable {X : Cx} {an : An} {dr : Option Dr} {ρ : Rho} {om : Om} {e a b c : Expr} {pos p apos : Pos} {i k : Nat} {x : Str} {Q : R → Om → Prop} {E : Ed}
def lputS (l ix v : D) (K : D → Prop) : Prop := match l, ix with
  | .lst ds, .int i => ∃ j, ixN ds.length i = some j ∧ K (.lst (ds.set j v))
  | _, _ => False
theorem lput_inv {l ix v : D} {K : D → Prop} (h : lputS l ix v K) : ∃ ds i j, l = .lst ds ∧ ix = .int i ∧ ixN ds.length i = some j ∧ K (.lst (ds.set j v)) := by
  unfold lputS at h
  split at h
  · obtain ⟨j, h1, h2⟩ := h; exact ⟨_, _, j, rfl, rfl, h1, h2⟩
  · exact h.elim
theorem lputS_imp {l ix v : D} {K K' : D → Prop} (h : lputS l ix v K) (i : ∀ d, K d → K' d) : lputS l ix v K' := by
  obtain ⟨ds, n, j, rfl, rfl, h1, h2⟩ := lput_inv h
  exact ⟨j, h1, i _ h2⟩
theorem IsL.setAt {K : PySem.W.Frag} {G : Hp} {v : V} {d : D} (i : Is K G v d) : ∀ {vs : List V} {ds : List D} (j : Nat), IsL K G vs ds → IsL K G (vs.set j v) (ds.set j d)
  | _, _, _, .nil => .nil
  | _, _, 0, .cons _ t => .cons i t
  | _, _, j + 1, .cons r t => .cons r (IsL.setAt i j t)
theorem ws_lputS {ix : Expr} {pos' : Pos} (hN : X.N[i]? = some x) (hv : Vis X.env.scope x) (hr : ρ[i]? = some (some (.o k)))
    (h : WE X an dr ρ om e fun r om1 => ∃ d, r = .v d ∧ WE X an dr ρ om1 ix fun ri om3 => ∃ kx l1, ri = .v kx ∧ om3[k]? = some (some l1) ∧ lputS l1 kx d fun l2 => E.nx ρ (om3.set k (some l2)))
    (hd : (x == ("__debug__" : Str)) = false := by decide) (hcd : (x == ("__classdict__" : Str)) = false := by decide)
    (hs : swapsWithSole [.Subscript (.Name x p) ix pos'] e pos.line X.env = pure false := by rfl) (hw : swappedStores [.Subscript (.Name x p) ix pos'] e X.env = pure none := by rfl)
    (h1 : (assignEach [.Subscript (.Name x p) ix pos'] X.env).map (·.2) = [assign (.Subscript (.Name x p) ix pos') X.env] := by rfl)
    (ha : ∀ v, assign (.Subscript (.Name x p) ix pos') X.env v = (do
      let ov ← holding [v] (eval (.Name x p) X.env)
      let iv ← holding [v, ov] (eval ix X.env)
      standAt pos'
      holding [v, ov, iv] (setItem ov iv v)
      release [v, ov, iv] []) := by intro _; rfl) : WS X an dr ρ om (.Assign [.Subscript (.Name x p) ix pos'] e pos) E :=
  psI (ps_asg (pe_u (an := an) (dr := dr)) (pg_sub (pe_u (an := an) (dr := dr)) (pe_u (an := an) (dr := dr)) set_list ha) hs hw h1) fun Z σ H ⟨τ, G, g, n, hl, hz, _⟩ => uE_of h g n fun v r om1 τ1 G1 H1 i1 w g1 gr1 n1 => by
    obtain ⟨d, rfl, w⟩ := w
    refine uE_of (we_name (Q := fun r om2 => r = .o k ∧ om2 = om1) hN hv hr ⟨rfl, rfl⟩ hd hcd) g1 n1 fun v2 r2 om2 τ2 G2 H2 i2 w2 g2 gr2 n2 => ?_
    obtain ⟨rfl, rfl⟩ := w2
    refine uE_of w g2 n2 fun v3 r3 om3 τ3 G3 H3 i3 w3 g3 gr3 n3 => ?_
    obtain ⟨kx, l1, rfl, ho, w3⟩ := w3
    obtain ⟨ds, ii, j, rfl, rfl, hj, q⟩ := lput_inv w3
    cases i2 with
    | @o a _ ha =>
      have ha := gr3.pre _ _ ha
      obtain ⟨_, _, _, _, h3, vs, rfl, il⟩ := g3.own k a _ ha ho
      cases i3 with
      | v i3 =>
        obtain rfl := i3.int_inv
        cases i1 with
        | v i1 =>
          refine ⟨a, vs, ii, j, rfl, rfl, h3, by rw [il.length]; exact hj, hz σ _ ⟨ρ, _, τ3, G3, q, g3.write ha ho (IsL.setAt (i1.mono (gr2.trans gr3).ex) j il), n3, (gr1.trans gr2).trans gr3, hl, rfl⟩⟩
def insAtS (l ix v : D) (K : D → Prop) : Prop := match l, ix with
  | .lst ds, .int i => ds.length < sizeLine ∧ 0 ≤ i ∧ i < 2 ^ 63 ∧ K (.lst (ds.take i.toNat ++ [v] ++ ds.drop i.toNat))
  | _, _ => False
def tmulS (x y : D) (K : D → Prop) : Prop := match x, y with
  | .tup a, .int j => (a ≠ [] ∧ 2 ≤ j ∧ j ≤ 1000 ∧ a.length ≤ 1000) ∧ K (.tup (List.replicate j.toNat a).flatten)
  | _, _ => False
structure GTup (K : PySem.W.Frag) (mg : Str → Option Value) (g : Str) (xs : List Str) : Prop where
  at_ : ∃ A : Addr, mg g = some (.ref A) ∧ ∀ H : Hp, SqT K H A (xs.map V.str)
def inGS (xs : List Str) (d : D) (K : Bool → Prop) : Prop := match d with
  | .str x => K (decide (x ∈ xs))
  | _ => False
theorem inV_strs {x : Str} : ∀ {xs : List Str}, inV (.str x) (xs.map V.str) = decide (x ∈ xs)
  | [] => rfl
  | y :: xs => by
    have ih := inV_strs (x := x) (xs := xs)
    unfold inV at ih ⊢
    rw [List.map_cons, List.any_cons, ih]
    by_cases e : x = y
    · subst e; simp [eqV]
    · have e2 : ¬ y = x := fun h => e h.symm
      simp [eqV, e, e2]
end
end DL

namespace DL
open PySem L2 PySem.Spec
section
variable {X : Cx} {an : An} {dr : Option Dr} {ρ : Rho} {om : Om} {sts : List Stmt} {E : Ed}
def sortUF : Wp := fun ds K => match ds with
  | [.dic kds] => ∃ ks : List Str, kds.map (·.1) = ks.map Sum.inr ∧ ks.length < 64 ∧ ∀ ys : List Str, ys.Perm ks → PyProof.Rows.sortedS ys = true → K (.lst (ys.map D.str))
  | ds => sortF ds K
def listUF : Wp := fun ds K => match ds with
  | [.dic kds] => K (.lst (kds.map fun kv => keyDat kv.1))
  | ds => listF ds K
def intUF : Wp := fun ds K => match ds with
  | [.bl b] => K (.int (if b = true then 1 else 0))
  | ds => intF ds K
theorem sortUF_mono : ∀ ds Q Q', (∀ d, Q d → Q' d) → sortUF ds Q → sortUF ds Q' := fun ds Q Q' i h => by
  unfold sortUF at h ⊢
  split at h
  · obtain ⟨ks, h1, h2, h3⟩ := h; exact ⟨ks, h1, h2, fun ys a b => i _ (h3 ys a b)⟩
  · exact sortF_mono _ _ _ i h
theorem listUF_mono : ∀ ds Q Q', (∀ d, Q d → Q' d) → listUF ds Q → listUF ds Q' := fun ds Q Q' i h => by
  unfold listUF at h ⊢
  split at h
  · exact i _ h
  · exact listF_mono _ _ _ i h
theorem isD_keys {κ : Type} {K : PySem.W.Frag} {G : Hp} : ∀ {kvs : List (κ × V)} {kds : List (κ × D)}, IsD K G kvs kds → kvs.map (·.1) = kds.map (·.1)
  | _, _, .nil => rfl
  | _, _, .cons _ q => congrArg (_ :: ·) (isD_keys q)
theorem isL_keys {K : PySem.W.Frag} {G : Hp} : ∀ {kvs : List (Key × V)} {kds : List (Key × D)}, IsD K G kvs kds → IsL K G (kvs.map fun kv => kV kv.1) (kds.map fun kv => keyDat kv.1)
  | _, _, .nil => .nil
  | _, _, .cons (k := k) _ q => .cons (by cases k; exact .int _; exact .str _) (isL_keys q)
theorem cb_sortU (hc : X.calm = true) : CallR X (.builtin "sorted") (rB X sortUF) := by
  intro pins s σ H xs us Q I r h
  obtain ⟨an, dr, om, τ, G, rs, g, hp, h⟩ := h
  unfold sortUF at h
  split at h
  · rename_i kds e
    obtain ⟨ks, h1, h2, q⟩ := h
    obtain ⟨v, r0, rfl, rfl, i, ev⟩ := one_arg hp e
    obtain ⟨a, kvs, rfl, ha, id⟩ := vw_dic g i ev
    refine call_sortedD hc pins s σ H _ us Q I r ⟨a, kvs, ks, rfl, ha, (isD_keys id).trans h1, h2, fun ys p y1 y2 hp => ?_⟩
    exact q ys y1 y2 _ _ _ (.lst upd_same (isL_strs ys)) (g.alloc hp) (g.grow hp)
  · exact cb_sort pins s σ H xs us Q I r ⟨an, dr, om, τ, G, rs, g, hp, h⟩
theorem cb_listU (hc : X.calm = true) : CallR X (.type "list") (rB X listUF) := by
  intro pins s σ H xs us Q I r h
  obtain ⟨an, dr, om, τ, G, rs, g, hp, h⟩ := h
  unfold listUF at h
  split at h
  · rename_i kds e
    obtain ⟨v, r0, rfl, rfl, i, ev⟩ := one_arg hp e
    obtain ⟨a, kvs, rfl, ha, id⟩ := vw_dic g i ev
    exact call_listD hc pins s σ H _ us Q I r ⟨a, kvs, rfl, ha, fun p hp => h.lst g (isL_keys id) p hp⟩
  · exact cb_list pins s σ H xs us Q I r ⟨an, dr, om, τ, G, rs, g, hp, h⟩
def unp4 (d : D) (K : D → D → D → D → Prop) : Prop := match d with
  | .tup [a, b, c, d1] => K a b c d1
  | .lst [a, b, c, d1] => K a b c d1
  | _ => False
def unp5 (d : D) (K : D → D → D → D → D → Prop) : Prop := match d with
  | .tup [a, b, c, d1, e] => K a b c d1 e
  | .lst [a, b, c, d1, e] => K a b c d1 e
  | _ => False
def prpS (C : Addr) (d : D) (A : Prop) : Prop := match d with
  | .ins B _ => B = C ∧ A
  | _ => False
structure HasQ (P : Program) (w : World) (K : PySem.W.Frag) (mg : Str → Option Value) (base : Heap) (dr : Option Dr) (k : Nat) (C : Addr) (f : Str) (ps : List Str) (W : Wp) : Prop where
  ex : ∃ p g fd, FnOk P w K mg base CX0 k g fd ps (spD K dr W) ∧ PropOf K C f p g ∧ Binds K fd ps []
  cl : Cls K C
  mono : ∀ ds Q Q', (∀ d, Q d → Q' d) → W ds Q → W ds Q'
end
end DL

namespace DL
open PySem PySem.Spec L2 DL
theorem forS_go {σ : Type} {b : D → σ → (σ → Prop) → Prop} {K : σ → Prop} (P : Nat → σ → Prop) : ∀ (ds : List D) (j : Nat) (s : σ), P j s → (∀ i d s N, ds[i]? = some d → P (j + i) s → (∀ s', P (j + i + 1) s' → N s') → b d s N) → (∀ s, P (j + ds.length) s → K s) → forS ds s b K
  | [], j, s, p, _, k => k s p
  | d :: ds, j, s, p, h, k => by
    refine h 0 d s _ rfl p fun s' p' => forS_go P ds (j + 1) s' p' (fun i d s N hd q kk => ?_) (fun s q => k s ?_)
    · have e1 : j + 1 + i = j + (i + 1) := by omega
      rw [e1] at q kk
      exact h (i + 1) d s N (by simpa using hd) q kk
    · have e : j + (d :: ds).length = j + 1 + ds.length := by simp; omega
      rw [e]; exact q
theorem forS_of {σ : Type} {b : D → σ → (σ → Prop) → Prop} {K : σ → Prop} (P : Nat → σ → Prop) {ds : List D} {s : σ} (p : P 0 s) (h : ∀ i d s N, ds[i]? = some d → P i s → (∀ s', P (i + 1) s' → N s') → b d s N) (k : ∀ s, P ds.length s → K s) : forS ds s b K :=
  forS_go P ds 0 s p (fun i d s N hd q kk => h i d s N hd (by simpa using q) (fun s' q' => kk s' (by simpa using q'))) (fun s q => k s (by simpa using q))
theorem forS_any {σ : Type} {b : D → σ → (σ → Prop) → Prop} {K : σ → Prop} (P : σ → Prop) {ds : List D} {s : σ} (h0 : P s) (h : ∀ d s N, d ∈ ds → P s → (∀ s', P s' → N s') → b d s N) (k : ∀ s, P s → K s) : forS ds s b K :=
  forS_of (fun _ s => P s) h0 (fun i d s N hd p kk => h d s N (List.mem_of_getElem? hd) p kk) k
theorem forS_map {b : D → List D → (List D → Prop) → Prop} {K : List D → Prop} (f : D → D) {ds : List D} (h : ∀ d acc N, d ∈ ds → N (acc ++ [f d]) → b d acc N) (k : K (ds.map f)) : forS ds [] b K :=
  forS_of (fun i acc => acc = (ds.take i).map f) rfl (fun i d acc N hd p kk => h d acc N (List.mem_of_getElem? hd) (kk _ (by rw [p, List.take_add_one, hd, List.map_append]; rfl))) (fun acc p => by rw [p, List.take_length]; exact k)
inductive All2 {α β : Type} (R : α → β → Prop) : List α → List β → Prop
  | nil : All2 R [] []
  | cons {a : α} {b : β} {as : List α} {bs : List β} : R a b → All2 R as bs → All2 R (a :: as) (b :: bs)
theorem All2.snoc {α β : Type} {R : α → β → Prop} {a : α} {b : β} : ∀ {as : List α} {bs : List β}, All2 R as bs → R a b → All2 R (as ++ [a]) (bs ++ [b])
  | _, _, .nil, h => .cons h .nil
  | _, _, .cons x t, h => .cons x (t.snoc h)
theorem All2.length {α β : Type} {R : α → β → Prop} : ∀ {as : List α} {bs : List β}, All2 R as bs → as.length = bs.length
  | _, _, .nil => rfl
  | _, _, .cons _ t => congrArg (· + 1) t.length
theorem forS_sub {b : D → List D → (List D → Prop) → Prop} {K : List D → Prop} {ds : List D} (h : ∀ d acc N, d ∈ ds → N (acc ++ [d]) → N acc → b d acc N) (k : ∀ es, es.Sublist ds → K es) : forS ds [] b K :=
  forS_of (fun i acc => acc.Sublist (ds.take i)) (List.Sublist.refl _) (fun i d acc N hd q kk => h d acc N (List.mem_of_getElem? hd)
    (kk _ (by rw [List.take_add_one, hd]; exact q.append (List.Sublist.refl _)))
    (kk _ (by rw [List.take_add_one, hd]; exact q.trans (List.sublist_append_left _ _)))) (fun acc q => by rw [List.take_length] at q; exact k _ q)
theorem ifb_T {b : Bool} {A B : Prop} (e : b = true) (h : A) : if b = true then A else B := by rw [if_pos e]; exact h
theorem ifb_F {b : Bool} {A B : Prop} (e : b = false) (h : B) : if b = true then A else B := by rw [if_neg (by rw [e]; exact Bool.false_ne_true)]; exact h
theorem if_in {C : (Bool → Prop) → Prop} {A B : Prop} (h : C fun t => if t = true then A else B) : ifS C A B := h
theorem iF {b : Bool} {A B : Prop} (h : B) (e : b = false := by rfl) : if b = true then A else B := ifb_F e h
theorem iT {b : Bool} {A B : Prop} (h : A) (e : b = true := by rfl) : if b = true then A else B := ifb_T e h
theorem min_of {i j : Int} {K : D → Prop} (h : ∀ m : Int, m ≤ i → m ≤ j → (m = i ∨ m = j) → K (.int m)) : minF [.int i, .int j] K := by
  show K (.int (if j < i then j else i))
  by_cases e : j < i
  · rw [if_pos e]; exact h j (by omega) (by omega) (.inr rfl)
  · rw [if_neg e]; exact h i (by omega) (by omega) (.inl rfl)
theorem kn_int : Kn "int" := .inl rfl
theorem kn_bool : Kn "bool" := .inr (.inl rfl)
theorem kn_str : Kn "str" := .inr (.inr (.inl rfl))
theorem kn_list : Kn "list" := .inr (.inr (.inr (.inl rfl)))
theorem kn_tuple : Kn "tuple" := .inr (.inr (.inr (.inr (.inl rfl))))
theorem kn_dict : Kn "dict" := .inr (.inr (.inr (.inr (.inr rfl))))
def tyd (d : D) : Prop := (tyN d).isSome = true
theorem small {n : Nat} (h : n ≤ 1000000) : n ≤ sizeLine := Nat.le_trans h (by decide)
theorem allF_map {α : Type} {ds : List α} {f : α → Bool} {K : D → Prop} (h : K (.bl (ds.all f))) : allF [.lst (ds.map fun d => .bl (f d))] K :=
  ⟨ds.map f, by rw [List.map_map]; rfl, by rw [List.all_map]; exact h⟩
def shE (d : D) : Prop := (toP d).canLay0 = true ∧ (toP d).depth ≤ 63
theorem shE_can : ∀ {xs : List D}, (∀ d ∈ xs, shE d) → PyData.canLayAll0 (toPs xs) = true ∧ PyData.depthAll (toPs xs) ≤ 63
  | [], _ => ⟨rfl, by simp [toPs, PyData.depthAll]⟩
  | d :: xs, h => by
    have h1 := h d List.mem_cons_self
    have h2 := shE_can (xs := xs) fun e he => h e (List.mem_cons_of_mem _ he)
    refine ⟨?_, ?_⟩
    · simp only [toPs, PyData.canLayAll0, Bool.and_eq_true]; exact ⟨h1.1, h2.1⟩
    · simp only [toPs, PyData.depthAll]
      have h3 := h1.2
      have h4 := h2.2
      omega
theorem shp_lst {xs : List D} (h : ∀ d ∈ xs, shE d) : shp (.lst xs) := by
  have h1 := shE_can h
  unfold shp SeqAt.shaped
  simp only [toP, PyData.canLay0, PyData.depth, Bool.and_eq_true, decide_eq_true_eq]
  exact ⟨h1.1, by omega⟩
theorem shp_nil : shp (.lst []) := shp_lst fun d h => by cases h
theorem eqD_nil (xs : List D) : eqD (.lst xs) (.lst []) = xs.isEmpty := by cases xs <;> simp [eqD, toP, toPs, PyData.eqv, PyData.eqvAll]
theorem eqD_str (a b : Str) : eqD (.str a) (.str b) = decide (a = b) := by
  simp only [eqD, toP, PyData.eqv]
  by_cases h : a = b
  · subst h; simp
  · rw [decide_eq_false h]
    cases e : a == b
    · rfl
    · exact absurd (eq_of_beq e) h
theorem shp_of {d : D} (h : shE d) : shp d := by
  unfold shp SeqAt.shaped
  rw [Bool.and_eq_true]
  exact ⟨h.1, decide_eq_true (by have := h.2; omega)⟩
abbrev letters : Str := "abcdefghijklmnopqrstuvwxyz"
def nameS (z : Str) : Prop := 1 ≤ z.length ∧ z.length ≤ 8 ∧ ∀ c ∈ z.cps.toList, c ∈ letters.cps.toList
def sideS (z : Str) : Prop := nameS z ∨ z = ""
instance decName (z : Str) : Decidable (nameS z) := by unfold nameS; infer_instance
theorem let_small : ∀ c ∈ letters.cps.toList, c < 256 := by decide +kernel
theorem sideS_str {z : Str} (h : sideS z) : ∀ c ∈ z.cps.toList, c < 256 := by
  rcases h with h | rfl
  · exact fun c hc => let_small c (h.2.2 c hc)
  · decide +kernel
theorem shE_str {z : Str} (h : ∀ c ∈ z.cps.toList, c < 256) : shE (.str z) := by
  refine ⟨?_, by simp [toP, PyData.depth]⟩
  simp only [toP, PyData.canLay0, PyData.strOk]
  rw [← Array.all_toList, List.all_eq_true]
  intro c hc
  have := h c hc
  exact decide_eq_true (by omega)
theorem shE_side {z : Str} (h : sideS z) : shE (.str z) := shE_str (sideS_str h)
theorem pigeon {α : Type} [DecidableEq α] : ∀ {l m : List α}, l.Nodup → (∀ x ∈ l, x ∈ m) → l.length ≤ m.length
  | [], m, _, _ => Nat.zero_le _
  | a :: l, m, hn, hs => by
    have h1 := List.nodup_cons.mp hn
    have ha : a ∈ m := hs a List.mem_cons_self
    have ih := pigeon (l := l) (m := m.erase a) h1.2 fun y hy => (List.mem_erase_of_ne (fun (e : y = a) => h1.1 (e ▸ hy))).mpr (hs y (List.mem_cons_of_mem _ hy))
    rw [List.length_erase_of_mem ha] at ih
    have : 0 < m.length := List.length_pos_iff.mpr (fun e => by rw [e] at ha; cases ha)
    rw [List.length_cons]
    omega
def oneS (c : Nat) : Str := ⟨#[c]⟩
def nearS (w : Str) : List Str := [w] ++ (letters.cps.toList.map fun c => cutS w none (some 7) ++ oneS c)
theorem app_tl (a b : Str) : (a ++ b).cps.toList = a.cps.toList ++ b.cps.toList := TL.tl_append a b
theorem len_tl (a : Str) : a.length = a.cps.toList.length := by simp [Str.length]
theorem cut7_tl (w : Str) : (cutS w none (some 7)).cps.toList = w.cps.toList.take 7 := by
  show (List.take (HT.sIx w.length w.length (some ((7 : Nat) : Int)) - HT.sIx w.length 0 none) (List.drop (HT.sIx w.length 0 none) w.cps.toList)) = _
  rw [HT.sIx_nat, HT.sIx_none, Nat.sub_zero, List.drop_zero]
  by_cases h : 7 ≤ w.length
  · rw [Nat.min_eq_left h]
  · have := len_tl w
    rw [Nat.min_eq_right (by omega), List.take_of_length_le (by omega), List.take_of_length_le (by omega)]
theorem near_name {w : Str} (h : nameS w) : ∀ z ∈ nearS w, nameS z := by
  intro z hz
  unfold nearS at hz
  rcases List.mem_append.mp hz with hz | hz
  · rw [List.mem_singleton.mp hz]; exact h
  · obtain ⟨c, hc, rfl⟩ := List.mem_map.mp hz
    have e : (cutS w none (some 7) ++ oneS c).cps.toList = w.cps.toList.take 7 ++ [c] := by rw [app_tl, cut7_tl]; rfl
    have el : (cutS w none (some 7) ++ oneS c).length = (w.cps.toList.take 7).length + 1 := by rw [len_tl, e, List.length_append]; rfl
    refine ⟨by omega, by rw [el, List.length_take]; omega, ?_⟩
    rw [e]
    intro y hy
    rcases List.mem_append.mp hy with hy | hy
    · exact h.2.2 y (List.mem_of_mem_take hy)
    · rw [List.mem_singleton.mp hy]; exact hc
theorem let_nodup : letters.cps.toList.Nodup := by decide +kernel
theorem let_len : letters.cps.toList.length = 26 := by decide +kernel
def newS (fs : List Str) (z : Str) : Bool := !((fs.map D.str).any fun y => eqD y (.str z))
theorem newS_iff {fs : List Str} {z : Str} : newS fs z = true ↔ z ∉ fs := by
  unfold newS
  rw [Bool.not_eq_true', List.any_map, ← Bool.not_eq_true, List.any_eq_true]
  constructor
  · exact fun h hz => h ⟨z, hz, by show eqD (.str z) (.str z) = true; rw [eqD_str]; exact decide_eq_true rfl⟩
  · rintro h ⟨y, hy, e⟩
    have e : eqD (.str y) (.str z) = true := e
    rw [eqD_str] at e
    exact h (of_decide_eq_true e ▸ hy)
theorem any_str {fs : List Str} {z : Str} : ((fs.map D.str).any fun y => eqD y (.str z)) = decide (z ∈ fs) := by
  have h := newS_iff (fs := fs) (z := z)
  unfold newS at h
  by_cases e : z ∈ fs
  · rw [decide_eq_true e]
    cases q : (fs.map D.str).any fun y => eqD y (.str z)
    · rw [q] at h; exact absurd e (h.mp rfl)
    · rfl
  · rw [decide_eq_false e]
    have := h.mpr e
    cases q : (fs.map D.str).any fun y => eqD y (.str z)
    · rfl
    · rw [q] at this; cases this
theorem near_free {w : Str} {fs : List Str} (hl : fs.length ≤ 25) : ∃ z r, (nearS w).filter (newS fs) = z :: r ∧ z ∉ fs ∧ z ∈ nearS w := by
  cases e : (nearS w).filter (newS fs) with
  | cons z r =>
    have : z ∈ (nearS w).filter (newS fs) := by rw [e]; exact List.mem_cons_self
    have := List.mem_filter.mp this
    exact ⟨z, r, rfl, newS_iff.mp this.2, this.1⟩
  | nil =>
    have hn : ∀ z ∈ nearS w, z ∈ fs := fun z hz => by
      rw [List.filter_eq_nil_iff] at e
      have := e z hz
      rw [newS_iff] at this
      exact Classical.not_not.mp this
    have hp := pigeon (l := letters.cps.toList.map fun c => cutS w none (some 7) ++ oneS c) (m := fs) ?_ fun z hz => hn z (List.mem_append_right _ hz)
    · rw [List.length_map, let_len] at hp; omega
    · refine List.Pairwise.map _ (fun a b q e => q ?_) let_nodup
      have e := congrArg (fun z : Str => z.cps.toList) e
      simp only [app_tl] at e
      have := List.append_cancel_left e
      exact (List.cons.inj this).1
theorem join1 (cs : List Nat) : Txt.join "" (cs.map oneS) = SX.S cs := by
  have e2 : TL.joinL [] (cs.map fun c => [c]) = cs := by
    induction cs with
    | nil => rfl
    | cons c cs ih =>
      cases cs with
      | nil => rfl
      | cons d cs =>
        show [c] ++ ([] ++ TL.joinL [] ((d :: cs).map fun c => [c])) = _
        rw [ih]
        rfl
  have e := SX.join_S [] (cs.map fun c => [c])
  rw [List.map_map, e2] at e
  exact e
theorem sum_ones : ∀ cs : List Nat, (cs.map ((fun x : Str => x.length) ∘ oneS)).sum = cs.length
  | [] => rfl
  | c :: cs => by
    rw [List.map_cons, List.sum_cons, sum_ones cs, List.length_cons]
    show 1 + cs.length = _
    omega
theorem nubS_nodup : ∀ {l : List Str}, l.Nodup → nubS l = l := by
  have go : ∀ (l acc : List Str), (acc ++ l).Nodup → l.foldl (fun acc k => if k ∈ acc then acc else acc ++ [k]) acc = acc ++ l := by
    intro l
    induction l with
    | nil => intro acc _; simp
    | cons a l ih =>
      intro acc h
      have hn : a ∉ acc := fun hm => (List.nodup_append.mp h).2.2 a hm a List.mem_cons_self rfl
      rw [List.foldl_cons, if_neg hn, ih (acc ++ [a]) (by rw [List.append_assoc]; exact h), List.append_assoc]
      rfl
  intro l h
  exact go l [] (by simpa using h)
theorem putE_new {kvs : List (Key × D)} {k : Key} {v : D} (h : k ∉ kvs.map (·.1)) : putE kvs k v = kvs ++ [(k, v)] := by
  unfold putE
  rw [if_neg]
  intro e
  obtain ⟨kv, hm, e⟩ := List.any_eq_true.mp e
  exact h (List.mem_map.mpr ⟨kv, hm, of_decide_eq_true e⟩)
theorem mergeE_new : ∀ {more acc : List (Key × D)}, ((acc ++ more).map (·.1)).Nodup → mergeE acc more = acc ++ more
  | [], acc, _ => by simp [mergeE]
  | kv :: r, acc, h => by
    have hn : kv.1 ∉ acc.map (·.1) := fun hm => by
      rw [List.map_append] at h
      exact (List.nodup_append.mp h).2.2 _ hm _ (List.mem_map.mpr ⟨kv, List.mem_cons_self, rfl⟩) rfl
    show mergeE (putE acc kv.1 kv.2) r = _
    rw [putE_new hn, mergeE_new (by rw [List.append_assoc]; exact h), List.append_assoc]
    rfl
theorem valE_mem : ∀ {kvs : List (Key × D)} {k : Key} {d : D}, (kvs.map (·.1)).Nodup → (k, d) ∈ kvs → valE kvs k = some d
  | [], _, _, _, h => by cases h
  | kv :: r, k, d, nd, h => by
    rw [List.map_cons] at nd
    have nd := List.nodup_cons.mp nd
    unfold valE
    rw [List.find?_cons]
    rcases List.mem_cons.mp h with rfl | h
    · rw [decide_eq_true rfl]; rfl
    · have : kv.1 ≠ k := fun e => nd.1 (e ▸ List.mem_map.mpr ⟨_, h, rfl⟩)
      rw [decide_eq_false this]
      exact valE_mem nd.2 h
structure Rp (w dp : Nat) (d : D) : Prop where
  ok : okU d = true
  sh : (toU d).showable = true
  ls : (toU d).leavesShort 13 = true
  we : (toU d).weight ≤ w
  de : (toU d).depth ≤ dp
theorem Rp.mono {w w' dp dp' : Nat} {d : D} (h : Rp w dp d) (a : w ≤ w') (b : dp ≤ dp') : Rp w' dp' d := ⟨h.ok, h.sh, h.ls, Nat.le_trans h.we a, Nat.le_trans h.de b⟩
theorem Rp.run {w dp : Nat} {d : D} {K : D → Prop} (h : Rp w dp d) (hw : w ≤ 2 ^ 20) (hd : dp ≤ 64) (k : K (.str (shU d))) : rprU [d] K :=
  ⟨h.ok, h.sh, Nat.le_trans h.de hd, PyData.shown_fits (by decide) (by decide) h.ls (Nat.le_trans h.we hw), k⟩
theorem rp_non : Rp 0 0 .non := ⟨rfl, rfl, rfl, by simp [toU, PyData.weight], by simp [toU, PyData.depth]⟩
theorem rp_bl (b : Bool) : Rp 0 0 (.bl b) := ⟨rfl, rfl, rfl, by simp [toU, PyData.weight], by simp [toU, PyData.depth]⟩
theorem rp_int {i : Int} (h : i.natAbs < 10 ^ 12) : Rp 41 0 (.int i) := by
  have l : i.natAbs.log2 < 40 := by
    by_cases z : i.natAbs = 0
    · rw [z]; decide
    · exact (Nat.log2_lt z).mpr (by omega)
  refine ⟨rfl, ?_, ?_, ?_, by simp [toU, PyData.depth]⟩
  · simp only [toU, PyData.showable, decide_eq_true_eq]; omega
  · simp only [toU, PyData.leavesShort, decide_eq_true_eq]; exact PyData.shown_int_le h
  · simp only [toU, PyData.weight]; split <;> omega
theorem rp_str {z : Str} (hz : z.length ≤ 8) (h : ∀ c ∈ z.cps.toList, c < 256) : Rp 8 0 (.str z) := by
  refine ⟨rfl, rfl, ?_, ?_, by simp [toU, PyData.depth]⟩
  · simp only [toU, PyData.leavesShort, List.all_eq_true, decide_eq_true_eq]
    exact fun c hc => Nat.lt_of_lt_of_le (h c hc) (by decide)
  · simp only [toU, PyData.weight]; exact hz
theorem rp_side {z : Str} (h : sideS z) : Rp 8 0 (.str z) := rp_str (by rcases h with h | rfl; exact h.2.1; decide) (sideS_str h)
theorem rp_all {w dp : Nat} : ∀ {ds : List D}, (∀ d ∈ ds, Rp w dp d) → okUs ds = true ∧ PyData.showableAll (toUs ds) = true ∧ PyData.leavesShortAll 13 (toUs ds) = true ∧ PyData.weightAll (toUs ds) ≤ ds.length * (w + 1) ∧ PyData.depthAll (toUs ds) ≤ dp
  | [], _ => ⟨rfl, rfl, rfl, by simp [toUs, PyData.weightAll], by simp [toUs, PyData.depthAll]⟩
  | d :: ds, h => by
    have h1 := h d List.mem_cons_self
    obtain ⟨a, b, c, e, f⟩ := rp_all fun x hx => h x (List.mem_cons_of_mem _ hx)
    refine ⟨?_, ?_, ?_, ?_, ?_⟩
    · simp only [okUs, Bool.and_eq_true]; exact ⟨h1.ok, a⟩
    · simp only [toUs, PyData.showableAll, Bool.and_eq_true]; exact ⟨h1.sh, b⟩
    · simp only [toUs, PyData.leavesShortAll, Bool.and_eq_true]; exact ⟨h1.ls, c⟩
    · simp only [toUs, PyData.weightAll, List.length_cons, Nat.add_mul, Nat.one_mul]; have := h1.we; omega
    · simp only [toUs, PyData.depthAll]; have := h1.de; omega
theorem rp_tup {w dp : Nat} {ds : List D} (h : ∀ d ∈ ds, Rp w dp d) : Rp (ds.length * (w + 1)) (dp + 1) (.tup ds) := by
  obtain ⟨a, b, c, e, f⟩ := rp_all h
  exact ⟨by simpa only [okU] using a, by simpa only [toU, PyData.showable] using b, by simpa only [toU, PyData.leavesShort] using c, by simpa only [toU, PyData.weight] using e, by simp only [toU, PyData.depth]; omega⟩
theorem rp_lst {w dp : Nat} {ds : List D} (h : ∀ d ∈ ds, Rp w dp d) : Rp (ds.length * (w + 1)) (dp + 1) (.lst ds) := by
  obtain ⟨a, b, c, e, f⟩ := rp_all h
  exact ⟨by simpa only [okU] using a, by simpa only [toU, PyData.showable] using b, by simpa only [toU, PyData.leavesShort] using c, by simpa only [toU, PyData.weight] using e, by simp only [toU, PyData.depth]; omega⟩
theorem rp_dic {w dp : Nat} {kvs : List (Key × D)} (h : ∀ kv ∈ kvs, (∃ z, kv.1 = .inr z ∧ sideS z) ∧ Rp w dp kv.2) : Rp (kvs.length * (w + 10)) (dp + 1) (.dic kvs) := by
  have go : ∀ {kvs : List (Key × D)}, (∀ kv ∈ kvs, (∃ z, kv.1 = .inr z ∧ sideS z) ∧ Rp w dp kv.2) → okUk kvs = true ∧ PyData.showableKv (toUk kvs) = true ∧ PyData.leavesShortKv 13 (toUk kvs) = true ∧ PyData.weightKv (toUk kvs) ≤ kvs.length * (w + 10) ∧ PyData.depthKv (toUk kvs) ≤ dp := by
    intro kvs
    induction kvs with
    | nil => exact fun _ => ⟨rfl, rfl, rfl, by simp [toUk, PyData.weightKv], by simp [toUk, PyData.depthKv]⟩
    | cons kv r ih =>
      intro h
      obtain ⟨a, b, c, e, f⟩ := ih fun x hx => h x (List.mem_cons_of_mem _ hx)
      obtain ⟨⟨z, ez, hz⟩, h1⟩ := h kv List.mem_cons_self
      obtain ⟨k, d⟩ := kv
      cases ez
      have h2 := rp_side hz
      have h1w : (toU d).weight ≤ w := h1.we
      have h1d : (toU d).depth ≤ dp := h1.de
      have h2s := h2.sh; have h2l := h2.ls; have h2w := h2.we; have h2d := h2.de
      simp only [toU] at h2s h2l h2w h2d
      refine ⟨?_, ?_, ?_, ?_, ?_⟩
      · simp only [okUk, Bool.and_eq_true]; exact ⟨h1.ok, a⟩
      · simp only [toUk, keyP, PyData.showableKv, Bool.and_eq_true]; exact ⟨⟨h2s, h1.sh⟩, b⟩
      · simp only [toUk, keyP, PyData.leavesShortKv, Bool.and_eq_true]; exact ⟨⟨h2l, h1.ls⟩, c⟩
      · simp only [toUk, keyP, PyData.weightKv, List.length_cons, Nat.add_mul, Nat.one_mul]
        omega
      · simp only [toUk, keyP, PyData.depthKv]; omega
  obtain ⟨a, b, c, e, f⟩ := go h
  exact ⟨by simpa only [okU] using a, by simpa only [toU, PyData.showable] using b, by simpa only [toU, PyData.leavesShort] using c, by simpa only [toU, PyData.weight] using e, by simp only [toU, PyData.depth]; omega⟩
theorem All2.get {α β : Type} {R : α → β → Prop} : ∀ {as : List α} {bs : List β} {i : Nat} {a : α}, All2 R as bs → as[i]? = some a → ∃ b, bs[i]? = some b ∧ R a b
  | _, _, _, _, .nil, h => by simp at h
  | _, _, 0, _, .cons r _, h => by cases h; exact ⟨_, rfl, r⟩
  | _, _, i + 1, _, .cons _ t, h => t.get (i := i) h
theorem All2.mp {α β : Type} {R S : α → β → Prop} (h : ∀ a b, R a b → S a b) : ∀ {as : List α} {bs : List β}, All2 R as bs → All2 S as bs
  | _, _, .nil => .nil
  | _, _, .cons r t => .cons (h _ _ r) (t.mp h)
theorem All2.some {α β γ : Type} {R : α → β → Prop} {S : α → γ → Prop} (h : ∀ a b, R a b → ∃ c, S a c) : ∀ {as : List α} {bs : List β}, All2 R as bs → ∃ cs, All2 S as cs
  | _, _, .nil => ⟨[], .nil⟩
  | _, _, .cons r t => by
    obtain ⟨c, hc⟩ := h _ _ r
    obtain ⟨cs, hs⟩ := t.some h
    exact ⟨c :: cs, .cons hc hs⟩
theorem All2.mem {α β : Type} {R : α → β → Prop} {a : α} : ∀ {as : List α} {bs : List β}, All2 R as bs → a ∈ as → ∃ b, b ∈ bs ∧ R a b
  | _, _, .nil, h => by cases h
  | _, _, .cons r t, h => by
    rcases List.mem_cons.mp h with rfl | h
    · exact ⟨_, List.mem_cons_self, r⟩
    · obtain ⟨b, hb, r⟩ := t.mem h
      exact ⟨b, List.mem_cons_of_mem _ hb, r⟩
theorem eqS {a b : Str} {K : Bool → Prop} (h : K (decide (a = b))) : cmpU .Eq (.str a) (.str b) K := h
theorem neS {a b : Str} {K : Bool → Prop} (h : K (!decide (a = b))) : cmpU .NotEq (.str a) (.str b) K := h
theorem eqI {a b : Int} {K : Bool → Prop} (h : K (decide (a = b))) : cmpU .Eq (.int a) (.int b) K := h
theorem neI {a b : Int} {K : Bool → Prop} (h : K (!decide (a = b))) : cmpU .NotEq (.int a) (.int b) K := h
structure RpL (w dp : Nat) (ds : List D) : Prop where
  ok : okUs ds = true
  sh : PyData.showableAll (toUs ds) = true
  ls : PyData.leavesShortAll 13 (toUs ds) = true
  we : PyData.weightAll (toUs ds) ≤ w
  de : PyData.depthAll (toUs ds) ≤ dp
theorem blS_bl {b : Bool} {K : Bool → Prop} (h : K b) : blS (.bl b) K := h
theorem gtI {a b : Int} {K : Bool → Prop} (h : K (decide (b < a))) : cmpU .Gt (.int a) (.int b) K := h
theorem join_in {A : (D → Prop) → Prop} {K : D → Prop} (h : A K) : joinS A K := h
theorem addI {a b : Int} {K : D → Prop} (h : K (.int (a + b))) : binD .Add (.int a) (.int b) K := h
theorem subI {a b : Int} {K : D → Prop} (h : K (.int (a - b))) : binD .Sub (.int a) (.int b) K := h
end DL

namespace DL
open PySem L2
abbrev WpX := List D → (D → Prop) → (D → Prop) → Prop
def ExIs (K : PySem.W.Frag) (G : Hp) (cls : Value) (dd : Option Addr) : D → Prop
  | .exc C fds => cls = .ref C ∧ ((dd = none ∧ fds = []) ∨ ∃ a fs, dd = some a ∧ G a = some (.xd fs) ∧ IsD K G fs fds)
  | _ => False
theorem ExIs.inv {K : PySem.W.Frag} {G : Hp} {cls : Value} {dd : Option Addr} {d : D} (h : ExIs K G cls dd d) : ∃ C fds, d = .exc C fds ∧ cls = .ref C ∧ ((dd = none ∧ fds = []) ∨ ∃ a fs, dd = some a ∧ G a = some (.xd fs) ∧ IsD K G fs fds) := by
  cases d <;> first | exact False.elim h | exact ⟨_, _, rfl, h⟩
def wxD (K : PySem.W.Frag) (an : An) (dr : Option Dr) (EX : D → Prop) : WX := fun cls dd _ H => ∃ x om τ G, EX x ∧ ExIs K G cls dd x ∧ Good K an dr om τ G H
def TX (X : Cx) (an : An) (dr : Option Dr) (EX : D → Prop) : Prop := Takes X (wxD X.K an dr EX)
theorem tx0 {X : Cx} {an : An} {dr : Option Dr} : TX X an dr fun _ => False := LamX.takes0.imp fun _ _ _ _ ⟨_, _, _, _, h, _⟩ => h.elim
def spX (K : PySem.W.Frag) (dr : Option Dr) (W : WpX) : Sp := fun vs H Q E => ∃ G ds, Pre dr G H ∧ IsL K G vs ds ∧ W ds (fun d => ∀ v G' H', Is K G' v d → Frm dr G H G' H' → Q v H') (fun x => ∀ cls dd G' H', ExIs K G' cls dd x → Frm dr G H G' H' → E cls dd H')
def MonoX (W : WpX) : Prop := ∀ ds Q Q' E E', (∀ d, Q d → Q' d) → (∀ d, E d → E' d) → W ds Q E → W ds Q' E'
structure HasX (P : Program) (w : World) (K : PySem.W.Frag) (mg : Str → Option Value) (base : Heap) (dr : Option Dr) (k : Nat) (x : Str) (ps : List Str) (W : WpX) : Prop where
  ex : ∃ f fd, FnOk P w K mg base (CX P w) k f fd ps (spX K dr W) ∧ mg x = some (.ref f) ∧ PySem.W.keepIn K (.ref f) = true ∧ Binds K fd ps []
  mono : MonoX W
structure HasXd (P : Program) (w : World) (K : PySem.W.Frag) (mg : Str → Option Value) (base : Heap) (dr : Option Dr) (k : Nat) (x : Str) (ps : List Str) (dds : List D) (W : WpX) : Prop where
  ex : ∃ f fd dvs ds, FnOk P w K mg base (CX P w) k f fd ps (spX K dr W) ∧ mg x = some (.ref f) ∧ PySem.W.keepIn K (.ref f) = true ∧ Binds K fd ps ds ∧ Vals dvs ds ∧ ∀ G, IsL K G dvs dds
  mono : MonoX W
structure HasXM (P : Program) (w : World) (K : PySem.W.Frag) (mg : Str → Option Value) (base : Heap) (dr : Option Dr) (k : Nat) (C : Addr) (m : Str) (ps : List Str) (W : WpX) : Prop where
  ex : ∃ f fd, FnOk P w K mg base (CX P w) k f fd ps (spX K dr W) ∧ Meth K C m f ∧ Binds K fd ps []
  cl : Cls K C
  mono : MonoX W
structure HasXW (P : Program) (w : World) (K : PySem.W.Frag) (mg : Str → Option Value) (base : Heap) (dr : Option Dr) (k : Nat) (x : Str) (ps ks : List Str) (perm : List Nat) (W : WpX) : Prop where
  ex : ∃ f fd, FnOk P w K mg base (CX P w) k f fd ps (spX K dr W) ∧ mg x = some (.ref f) ∧ PySem.W.keepIn K (.ref f) = true ∧ KBn K fd ps 0 ks (fun _ ws => pickL perm ws) (fun _ zs => pickL perm zs)
  mono : MonoX W
section
variable {P : Program} {w : World} {K : PySem.W.Frag} {mg : Str → Option Value} {base : Heap} {dr : Option Dr} {N ps : List Str} {W : WpX} {k : Nat}
theorem FunA.okX {x qual : Str} {st : Stmt} {f : Addr} {fd : FuncData} {sp : Sp} (F : FunA K x qual st f fd) (S : FnScope N ps (defScope st)) (len : ∀ vs H Q E, sp vs H Q E → vs.length = ps.length)
    (hb : ∀ (cdv : Value) (A : Around) (outer : List Env) (s : Shared) (H : Hp) (vs : List V) (Q : VK) (E : XK), Room k (A.deeper (PyProof.Rows.envOfC qual (defScope st) s.heap.objs.size f cdv)) → sp vs H Q E →
      ∃ t, PSs (cxOf (CX P w) P w K mg base N qual (defScope st) f cdv A outer s H E) (defBody st) t ∧ t { nx := fun _ H' => Q .non H', rt := Q } (start N vs) H) : FnOk P w K mg base (CX P w) (k + 1) f fd ps sp := by
  obtain ⟨oc, od, dV, kV, doc, pm, an, cdv, ct, osl, rfl, lk, hcd⟩ := F.ex
  exact fn_of lk hcd S len fun A outer s H vs Q E hr h => hb cdv A outer s H vs Q E hr h
end
section
variable {X : Cx} {an : An} {dr : Option Dr} {ρ : Rho} {om : Om} {e e2 o : Expr} {es : List Expr} {pos p apos : Pos} {Q : R → Om → Prop} {x f own m : Str} {ps ks : List Str} {W : WpX} {k j : Nat} {C : Addr} {EX : D → Prop} {dds : List D} {kws : List Keyword} {perm : List Nat}
abbrev exW (X : Cx) (an : An) (dr : Option Dr) (EX : D → Prop) : XK := fun cls dd H => wxD X.K an dr EX cls dd [] H
theorem passX (tk : TX X an dr EX) : Passes (CX X.prog X.w) X (exW X an dr EX) := passes_call tk fun _ _ _ _ h => h
def tCallXW (m : Nat) (sp : Sp) (perm : List Nat) (E : XK) (tk : TA) : TE := fun σ H Q => tk σ H fun zs H2 => zs.length = m ∧ sp (pickL perm zs) H2 Q E
end
end DL

namespace DL
open PySem L2
def spIX (K : PySem.W.Frag) (dr : Option Dr) (C : Addr) (W : WpX) : Sp := fun vs H Q E => ∃ G ds x dx ws, vs = .ref x :: ws ∧ Pre dr G H ∧ IsL K G ws ds ∧ H x = some (.ins C dx []) ∧ G x = none ∧ Off dr x ∧ W ds (fun d => ∀ G' H', Is K G' (.ref x) d → Frm dr G (cut H x) G' H' → Q .non H')
  (fun y => ∀ cls dd G' H', ExIs K G' cls dd y → Frm dr G (cut H x) G' H' → E cls dd H')
structure HasXI (P : Program) (w : World) (K : PySem.W.Frag) (mg : Str → Option Value) (base : Heap) (dr : Option Dr) (k : Nat) (x : Str) (C : Addr) (ps : List Str) (W : WpX) : Prop where
  ex : ∃ f fd, FnOk P w K mg base (CX P w) k f fd ps (spIX K dr C W) ∧ Mk K C f ∧ Binds K fd ps []
  at_ : mg x = some (.ref C)
  mono : MonoX W
structure HasXId (P : Program) (w : World) (K : PySem.W.Frag) (mg : Str → Option Value) (base : Heap) (dr : Option Dr) (k : Nat) (x : Str) (C : Addr) (ps : List Str) (dds : List D) (W : WpX) : Prop where
  ex : ∃ f fd dvs ds, FnOk P w K mg base (CX P w) k f fd ps (spIX K dr C W) ∧ Mk K C f ∧ Binds K fd ps ds ∧ Vals dvs ds ∧ ∀ G, IsL K G dvs dds
  at_ : mg x = some (.ref C)
  mono : MonoX W
structure HasXIW (P : Program) (w : World) (K : PySem.W.Frag) (mg : Str → Option Value) (base : Heap) (dr : Option Dr) (k : Nat) (x : Str) (C : Addr) (ps ks : List Str) (perm : List Nat) (W : WpX) : Prop where
  ex : ∃ f fd, FnOk P w K mg base (CX P w) k f fd ps (spIX K dr C W) ∧ Mk K C f ∧ KBn K fd ps 1 ks (fun vs ws => vs ++ pickL perm ws) (fun vs zs => vs ++ pickL perm zs)
  at_ : mg x = some (.ref C)
  mono : MonoX W
section
variable {P : Program} {w : World} {K : PySem.W.Frag} {mg : Str → Option Value} {base : Heap} {dr : Option Dr} {N ps : List Str} {W : WpX} {k : Nat}
theorem fnIX {x qual : Str} {st : Stmt} {f C : Addr} {fd : FuncData} (F : FunA K x qual st f fd) (S : FnScope N ps (defScope st)) (hlen : ∀ ds Q E, W ds Q E → ds.length + 1 = ps.length)
    (hb : ∀ (cdv : Value) (A : Around) (outer : List Env) (s : Shared) (H : Hp) (E : XK) (an : An) (ds : List D) (post EX : D → Prop), Room k (A.deeper (PyProof.Rows.envOfC qual (defScope st) s.heap.objs.size f cdv)) → W ds post EX → TX (cxOf (CX P w) P w K mg base N qual (defScope st) f cdv A outer s H E) an dr EX →
      WSs (cxOf (CX P w) P w K mg base N qual (defScope st) f cdv A outer s H E) an dr (some (.o 0) :: (ds.map (fun d => some (.v d)) ++ List.replicate (N.length - (ds.length + 1)) none)) [some (.ins C [])] (defBody st) { nx := fun _ om => ∃ d, om[0]? = some (some d) ∧ isDict d = false ∧ post d, rt := fun _ => False }) : FnOk P w K mg base (CX P w) (k + 1) f fd ps (spIX K dr C W) := by
  refine F.okX S (fun vs H Q E h => ?_) (fun cdv A outer s H vs Q E hr h => ?_)
  · obtain ⟨G, ds, x, dx, ws, rfl, _, i, _, _, _, h⟩ := h
    rw [List.length_cons, i.length]
    exact hlen _ _ _ h
  · obtain ⟨G, ds, x, dx, ws, rfl, pr, i, hx, gx, ox, h⟩ := h
    refine ⟨_, hb cdv A outer s H E ⟨G, strip (cut H x), false, []⟩ ds _ _ hr h ((takes_of rfl rfl rfl rfl).imp fun cls d σ H' ⟨y, om, τ, G', hy, ei, g⟩ => hy cls d G' H' ei g.frm), [x], G, ⟨pr.ex, rfl, by simp, fun j p d h1 h2 => ?_, pr.dg, Ex.refl G, fun a o h _ => (cut_some (strip_some h).1).2, fun _ _ h => .inl h, fun j p h1 => ?_, pr.gt, fun _ _ => strip_nt, fun t h => nomatch h⟩, fun j r q => ?_, ?_, fun σ' H' q => ?_, fun v H' q => ?_, fun σ' H' q => ?_, fun σ' H' q => ?_⟩
    · match j, h1, h2 with
      | 0, h1, h2 =>
        cases h1
        cases h2
        refine ⟨gx, ?_, ox, _, hx, dx, [], rfl, .nil⟩
        cases q : strip (cut H x) x with
        | none => exact q
        | some o => exact absurd rfl (cut_some (strip_some q).1).1
      | j + 1, h1, h2 => cases h1
    · match j, h1 with
      | 0, h1 => cases h1; exact ⟨ox, _, hx, fun _ z => by cases z⟩
      | j + 1, h1 => cases h1
    · match j, q with
      | 0, q => cases q; exact ⟨_, rfl, .o rfl⟩
      | j + 1, q =>
        have q : (ds.map (fun d => some (R.v d)) ++ List.replicate (N.length - (ds.length + 1)) none)[j]? = some (some r) := q
        by_cases hj : j < ds.length
        · rw [List.getElem?_append_left (by simpa using hj), List.getElem?_map] at q
          cases q2 : ds[j]? with
          | none => rw [q2] at q; cases q
          | some d =>
            rw [q2] at q
            cases q
            obtain ⟨v, h1, h2⟩ := i.get q2
            refine ⟨v, ?_, .v h2⟩
            unfold L2.start
            show (List.map some ws ++ _)[j]? = _
            rw [List.getElem?_append_left (by rw [List.length_map, i.length]; exact hj), List.getElem?_map, h1]
            rfl
        · rw [List.getElem?_append_right (by simpa using hj), List.getElem?_replicate] at q
          split at q <;> cases q
    · unfold L2.start
      simp [i.length]
    · obtain ⟨ρ', om', τ', G', ⟨d, hd, nd, p⟩, g, _, gr, _⟩ := q
      have t0 : τ'[0]? = some x := gr.pre 0 x rfl
      obtain ⟨o, g2, gr2, i2⟩ := g.freeze t0 hd nd
      exact p _ H' i2 g2.frm
    · obtain ⟨d, om', τ', G', p, _⟩ := q
      exact p.elim
    · obtain ⟨_, _, _, _, p, _⟩ := q
      exact p
    · obtain ⟨_, _, _, _, p, _⟩ := q
      exact p
end
section
variable {X : Cx} {an : An} {dr : Option Dr} {ρ : Rho} {om : Om} {e e2 o : Expr} {es : List Expr} {pos p apos : Pos} {Q : R → Om → Prop} {x f own m : Str} {ps ks : List Str} {W : WpX} {k j : Nat} {C : Addr} {EX : D → Prop} {dds : List D} {kws : List Keyword} {perm : List Nat}
theorem spIX_at {vs : List V} {ds : List D} {τ1 : List Addr} {G1 H1 : Hp} {om1 : Om} {K' : VK} {Z : D → Prop} {a dx : Addr} (hm : MonoX W) (g1 : Good X.K an dr om1 τ1 G1 H1) (i : IsL X.K G1 vs ds) (w : W ds Z EX) (na : H1 a = none) (ndx : H1 dx = none) (ne : dx ≠ a) (k : ∀ d G' H', Is X.K G' (.ref a) d → Z d → Good X.K an dr om1 τ1 G' H' → Ex G1 G' → K' .non H') :
    spIX X.K dr C W (.ref a :: vs) (upd (upd H1 dx (.own a)) a (.ins C dx [])) K' (exW X an dr EX) := by
  have e0 : Ex H1 (upd (upd H1 dx (.own a)) a (.ins C dx [])) := (Ex.new ndx).trans (Ex.new (by rw [upd_ne (fun z => ne z.symm)]; exact na))
  have fin : ∀ {G' H' : Hp}, Frm dr G1 (cut (upd (upd H1 dx (.own a)) a (.ins C dx [])) a) G' H' → Good X.K an dr om1 τ1 G' H' := fun {G' H'} fr => g1.call (fr.sub fun b o q1 => cut_of (e0 _ _ q1) (ne_of_none q1 na))
  refine ⟨G1, ds, a, dx, vs, rfl, ⟨g1.ex.trans e0, fun y hy => ?_, g1.gt⟩, i, upd_same, g1.ex.free na, g1.off na, hm _ _ _ _ _ (fun d q G' H' i' fr => k d G' H' i' q (fin fr) fr.e1) (fun y hy cls dd G' H' ei fr => ⟨y, om1, τ1, G', hy, ei, fin fr⟩) w⟩
  obtain ⟨⟨gr, ce, re, tu, q1, q2, q3⟩, q4, q5, q6, q7⟩ := g1.drg y hy
  exact ⟨⟨gr, ce, re, tu, e0 _ _ q1, e0 _ _ q2, e0 _ _ q3⟩, q4, q5, q6, q7.ext e0⟩
theorem we_makeX (h : HasXI X.prog X.w X.K X.mg X.base dr k x C ps W) (hr : Room j X.A) (tk : TX X an dr EX) (hw : WA X an dr ρ om (e :: es) fun rs om1 => allV rs fun ds => W ds (fun d => Q (.v d) om1) EX) (hkj : k + 1 ≤ j := by decide) (hg : Gl X x := by rfl) (hdb : (x == ("__debug__" : Str)) = false := by decide)
    (he : starEach (e :: es) X.env = (false, eval e X.env) :: starEach es X.env := by rfl) (hpl : (backTo pos (starEach es X.env)).any (·.1) = false := by rfl) : WE X an dr ρ om (.Call (.Name x p) (e :: es) [] pos) Q := by
  obtain ⟨f, fd, F, M, hb⟩ := h.ex
  refine peI (pe_make M F (hr.mono hkj) hg h.at_ hb .nil (passX tk) (pa_u (an := an) (dr := dr)) hdb he hpl) fun σ H K' ⟨τ, G, g, n, k⟩ => uA_of hw g n fun vs rs om1 τ1 G1 H1 h1 w g1 gr1 n1 => ?_
  obtain ⟨ds, i, w⟩ := allV_is h1 w
  intro a dx na ndx ne
  rw [List.append_nil]
  exact spIX_at h.mono g1 i w na ndx ne fun d G' H' i' q g' e1 => ⟨rfl, k _ _ om1 τ1 G' H' (.v i') q g' (gr1.trans ⟨e1, fun _ _ h => h⟩)⟩
theorem we_makeXd (h : HasXId X.prog X.w X.K X.mg X.base dr k x C ps dds W) (hr : Room j X.A) (tk : TX X an dr EX) (hw : WA X an dr ρ om (e :: es) fun rs om1 => allV rs fun ds => W (ds ++ dds) (fun d => Q (.v d) om1) EX) (hkj : k + 1 ≤ j := by decide) (hg : Gl X x := by rfl) (hdb : (x == ("__debug__" : Str)) = false := by decide)
    (he : starEach (e :: es) X.env = (false, eval e X.env) :: starEach es X.env := by rfl) (hpl : (backTo pos (starEach es X.env)).any (·.1) = false := by rfl) : WE X an dr ρ om (.Call (.Name x p) (e :: es) [] pos) Q := by
  obtain ⟨f, fd, dvs, dvals, F, M, hb, hv, idv⟩ := h.ex
  refine peI (pe_make M F (hr.mono hkj) hg h.at_ hb hv (passX tk) (pa_u (an := an) (dr := dr)) hdb he hpl) fun σ H K' ⟨τ, G, g, n, k⟩ => uA_of hw g n fun vs rs om1 τ1 G1 H1 h1 w g1 gr1 n1 => ?_
  obtain ⟨ds, i, w⟩ := allV_is h1 w
  intro a dx na ndx ne
  exact spIX_at h.mono g1 (i.append (idv G1)) w na ndx ne fun d G' H' i' q g' e1 => ⟨rfl, k _ _ om1 τ1 G' H' (.v i') q g' (gr1.trans ⟨e1, fun _ _ h => h⟩)⟩
theorem we_makeXW (h : HasXIW X.prog X.w X.K X.mg X.base dr k x C ps ks perm W) (hr : Room j X.A) (tk : TX X an dr EX) (hw : WK X an dr ρ om kws fun rs om1 => allV rs fun ds => ds.length = ks.length ∧ W (pickL perm ds) (fun d => Q (.v d) om1) EX) (hkj : k + 1 ≤ j := by decide) (hg : Gl X x := by rfl)
    (hall : (backToKw pos (keywordEach kws X.env)).all (·.1.isSome) = true := by rfl) (hks : (backToKw pos (keywordEach kws X.env)).filterMap (·.1) = ks := by rfl) (hdb : (x == ("__debug__" : Str)) = false := by decide)
    (hpl : ((backTo pos (starEach [] X.env)).any (·.1) || (backToKw pos (keywordEach kws X.env)).any (·.1.isNone)) = false := by rfl) : WE X an dr ρ om (.Call (.Name x p) [] kws pos) Q := by
  obtain ⟨f, fd, F, M, hb⟩ := h.ex
  refine peI (pe_makeK0 M F (hr.mono hkj) hg h.at_ hb (passX tk) (pk_u (an := an) (dr := dr)) hall hks hdb hpl) fun σ H K' ⟨τ, G, g, n, k⟩ => uK_of hw g n fun vs rs om1 τ1 G1 H1 h1 w g1 gr1 n1 => ?_
  obtain ⟨ds, i, hl, w⟩ := allV_is h1 w
  refine ⟨rfl, by rw [i.length]; exact hl, fun a dx na ndx ne => ?_⟩
  exact spIX_at h.mono g1 (pick_isL i perm) w na ndx ne fun d G' H' i' q g' e1 => ⟨rfl, k _ _ om1 τ1 G' H' (.v i') q g' (gr1.trans ⟨e1, fun _ _ h => h⟩)⟩
end
structure ErrM (K : PySem.W.Frag) (mg : Str → Option Value) (x : Str) (C : Addr) : Prop where
  at_ : mg x = some (.ref C)
  ex : PySem.W.excIn K C [.type "ValueError", .type "Exception", .type "BaseException", .type "object"] "ValueError.__new__" = true
  kp : PySem.W.keepIn K (.ref C) = true
  sb : PySem.W.subIn K (.ref C) (.type "BaseException") = some true
  ty : PySem.W.typeIn K (.ref C) = some (.type "type")
structure ErrA (P : Program) (K : PySem.W.Frag) (mg : Str → Option Value) (x f : Str) (C : Addr) : Prop where
  at_ : mg x = some (.ref C)
  fl : DX.ErrF P K x f C
  fn : DX.FldN f
  su : mg "super" = none
section
variable {X : Cx} {an : An} {dr : Option Dr} {ρ : Rho} {om : Om} {a : Expr} {pos p p2 pos2 : Pos} {x f m : Str} {k j jj : Nat} {C : Addr} {EX : D → Prop} {E : Ed}
theorem ws_raiseM (hc : X.calm = true) (T : ErrM X.K X.mg x C) (tk : TX X an dr EX) (h : EX (.exc C [])) (hg : Gl X x := by rfl) (hdb : (x == ("__debug__" : Str)) = false := by decide) : WS X an dr ρ om (.Raise (some (.Call (.Name x p) [.Constant (.str m) jj p2] [] pos)) none pos2) E :=
  psI (ps_raise hc tk (pmk_own PySem.F.excBase_ValueError T.ex T.at_ T.kp (raises_own T.sb T.ty) hg hdb)) fun Z σ H ⟨τ, G, g, _⟩ => ⟨_, om, τ, G, h, ⟨rfl, .inl ⟨rfl, rfl⟩⟩, g⟩
end
structure ErrH (K : PySem.W.Frag) (C : Addr) : Prop where
  ec : ExcC K C
  xf : XfC K C
section
variable {X : Cx} {an : An} {dr : Option Dr} {ρ : Rho} {om : Om} {e : Expr} {pos p p2 : Pos} {x f : Str} {Q : R → Om → Prop}
theorem Is.exc_inv {K : PySem.W.Frag} {G : Hp} {v : V} {C : Addr} {fds : List (Str × D)} (h : Is K G v (.exc C fds)) : ∃ a dd, v = .ref a ∧ G a = some (DX.exV (.ref C) dd a) ∧ ((dd = none ∧ fds = []) ∨ ∃ d fs, dd = some d ∧ G d = some (.xd fs) ∧ IsD K G fs fds) := by
  cases h with
  | exc0 h => exact ⟨_, none, rfl, h, .inl ⟨rfl, rfl⟩⟩
  | excF h1 h2 h3 => exact ⟨_, some _, rfl, h1, .inr ⟨_, _, rfl, h2, h3⟩⟩
end
end DL

namespace DL
open PySem L2 LamX
theorem Good.extN {K : PySem.W.Frag} {an : An} {x : Dr} {om : Om} {τ : List Addr} {G H H1 : Hp} (g : Good K an (some x) om τ G H) (e : ExtN H H1) (t : Tabs x.T H1) : Good K an (some x) om τ G H1 := by
  obtain ⟨⟨gr, ce, re, tu, h1, h2, h3⟩, h4, h5, h6, h7⟩ := g.drg x rfl
  exact {
    ex := fun a o q => e a o (g.ex a o q) (g.gt a o q)
    len := g.len
    nd := g.nd
    own := fun k p d e1 e2 => by
      obtain ⟨a1, a2, a3, o, a4, a5⟩ := g.own k p d e1 e2
      exact ⟨a1, a2, a3, o, e p o a4 a5.noTab.1, a5⟩
    drg := fun y hy => by
      cases hy
      exact ⟨⟨gr, ce, re, tu, e _ _ h1 (fun ps z => by cases z), e _ _ h2 (fun ps z => by cases z), e _ _ h3 (fun ps z => by cases z)⟩, h4, h5, h6, t⟩
    a1 := g.a1
    a2 := fun a o q hf => e a o (g.a2 a o q hf) (fun ps z => g.nt0 a ps (z ▸ q))
    a3 := g.a3
    a4 := fun k p e1 => by
      obtain ⟨a1, o, a2, a3⟩ := g.a4 k p e1
      exact ⟨a1, o, e p o a2 a3, a3⟩
    gt := g.gt
    nt0 := g.nt0
    ti := g.ti }
structure HasC (P : Program) (w : World) (K : PySem.W.Frag) (mg : Str → Option Value) (base : Heap) (CS : Addr) : Prop where
  ex : ∃ (g : Addr) (pg : Arguments) (bg : List Stmt) (sg : Scope) (dV kV doc pm cdv ct oc : Value) (an od : Option Addr) (osl : Array (Option Value)), mg "_law_caught" = some (.ref g) ∧ PySem.W.keepIn K (.ref g) = true ∧ K.lookup g = some ⟨oc, od, .func (PySem.W.fnOf "_law_caught" "_law_caught" pg bg sg dV kV doc pm an cdv ct), osl⟩ ∧ PySem.W.codeIn K cdv "_law_caught" = true ∧
    L2.Binds K (PySem.W.fnOf "_law_caught" "_law_caught" pg bg sg dV kV doc pm an cdv ct) ["_law_act"] [] ∧ FnScope ["_law_act", "_law_found", "_law_error"] ["_law_act"] sg ∧ Vis sg "_law_act" ∧ ∀ (X : Cx) (q : Str), X.K = K → X.mg = mg → GivesTo X ["_law_act", "_law_found", "_law_error"] "_law_caught" sg g cdv bg "_law_act" q (DX.TCaught K CS)
inductive RSub : Rho → Rho → Prop
  | nil : RSub [] []
  | skip {a : Option R} {s t : Rho} : RSub s t → RSub (none :: s) (a :: t)
  | keep {d : D} {s t : Rho} : RSub s t → RSub (some (R.v d) :: s) (some (R.v d) :: t)
theorem RSub.get {s t : Rho} (h : RSub s t) : ∀ (i : Nat) (r : R), s[i]? = some (some r) → ∃ d, r = R.v d ∧ t[i]? = some (some (R.v d)) := by
  induction h with
  | nil => intro i r e; simp at e
  | skip _ ih =>
    intro i r e
    match i, e with
    | 0, e => cases e
    | i + 1, e => exact ih i r e
  | keep _ ih =>
    intro i r e
    match i, e with
    | 0, e => cases e; exact ⟨_, rfl, rfl⟩
    | i + 1, e => exact ih i r e
section
variable {X : Cx} {an : An} {x : Dr} {ρ ρ' : Rho} {om : Om} {body : Expr} {params : Arguments} {scope : Scope} {pos p lpos : Pos} {Q : R → Om → Prop} {k j : Nat} {CS c P : Addr}
theorem EnvIs.sub {K : PySem.W.Frag} {G : Hp} {τ : List Addr} {σ : L2.St} (n : EnvIs K G τ σ ρ) (h : RSub ρ' ρ) : EnvIs K G [] σ ρ' := fun i r e => by
  obtain ⟨d, rfl, e'⟩ := h.get i r e
  obtain ⟨v, h1, h2⟩ := n i _ e'
  cases h2 with
  | v h2 => exact ⟨v, h1, .v h2⟩
theorem we_caught (H0 : HasC X.prog X.w X.K X.mg X.base CS) (hr : Room j X.A) (TB : TabB X.base X.mg c P) (hcode : X.env.code = .ref c) (hmT : (P, X.env.qual ++ "<lambda>") ∈ x.T) (hu : ∀ p ∈ x.T, p.1 = P → p.2 = X.env.qual ++ "<lambda>") (L : LamS X.env.scope scope) (hdef : defaultsOf params X.env = ([], []))
    (hbind : ∀ (q : Str) (cl : List (Str × Addr)) (pm cv ctv : Value), bindArgs (PySem.W.kla_fn "<lambda>" q params body scope cl pm cv ctv) ⟨[], []⟩ = pure []) (hrho : RSub ρ' ρ)
    (hbody : ∀ (an' : An) (A : Around) (outer : List Env) (s : Shared) (H : Hp) (E : XK) (f c' : Addr), Room k (A.deeper (lamEnv X scope s.heap.objs.size f c')) → TX (lamCx X A outer s H E scope f c') an' (some x) (fun d => (∃ C fds, d = .exc C fds ∧ PySem.W.exmOne X.K (.ref C) (.ref CS) = some true) ∧ Q (.v d) om) →
      WE (lamCx X A outer s H E scope f c') an' (some x) ρ' [] body fun _ _ => Q (.v .non) om)
    (hkj : k + 2 ≤ j := by decide) (hg : Gl X "_law_caught" := by rfl) : WE X an (some x) ρ om (.Call (.Name "_law_caught" p) [.Lambda params body scope lpos] [] pos) Q := by
  obtain ⟨g0, pg, bg, sg, dV, kV, doc, pm, cdv, ct, oc, an0, od, osl, hm, hk, lk, hcg, hb, Sg, hva, hG⟩ := H0.ex
  refine peI (pe_lamcall (T := x.T) (t := fun E σ H K' => ∃ an' G, Good X.K an' (some x) [] [] G H ∧ EnvIs X.K G [] σ ρ' ∧ (∀ d cls dd G' H' om' τ', ((∃ C fds, d = .exc C fds ∧ PySem.W.exmOne X.K (.ref C) (.ref CS) = some true) ∧ Q (.v d) om) → ExIs X.K G' cls dd d → Good X.K an' (some x) om' τ' G' H' → E cls dd H') ∧ ∀ v om' τ' G' H', Q (.v .non) om → Good X.K an' (some x) om' τ' G' H' → K' v H')
    hg hm hk lk hcg hb Sg rfl hva (hG X _ rfl rfl) TB hcode hmT hu (hr.mono hkj) L hdef hbind (fun A outer s H E f c' hr2 => ?_)) fun σ H K' ⟨τ, G, g, n, k⟩ => ?_
  · refine ⟨fun pins s1 σ H1 K' I ⟨an', G, g, n, hE, hq⟩ => ?_⟩
    have w := hbody an' A outer s H E f c' hr2 ((takes_of rfl rfl rfl rfl).imp fun cls dd σ' H' ⟨d, om', τ', G', hx, ei, g'⟩ => hE d cls dd G' H' om' τ' hx ei g')
    exact PE.run w pins s1 σ H1 K' I ⟨[], G, g, n, fun v r om' τ' G' H' _ q g' _ => hq v om' τ' G' H' q g'⟩
  · obtain ⟨_, _, _, _, t⟩ := g.drg x rfl
    refine ⟨t, fun H1 e1 t1 => ?_⟩
    have g1 := g.extN e1 t1
    refine ⟨⟨G, strip H1, false, []⟩, G, g1.pre.good, EnvIs.sub n hrho, fun d cls dd G' H' om' τ' hx ei g' => ?_, fun v om' τ' G' H' q g' => ⟨.non, rfl, k .non _ om τ G' H' (.v .non) q (g1.call g'.frm) ⟨g'.frm.e1, fun _ _ h => h⟩⟩⟩
    obtain ⟨⟨C, fds, rfl, hex⟩, q⟩ := hx
    have g2 := g1.call g'.frm
    obtain ⟨rfl, hd⟩ := ei
    refine ⟨hex, fun p0 hp0 => ?_⟩
    have g3 := g2.alloc (o := DX.exV (.ref C) dd p0) hp0 (by intro _ z; unfold DX.exV at z; cases z)
    refine k _ _ om τ _ _ (.v ?_) q g3 ⟨g'.frm.e1.trans (Ex.new (g2.ex.free hp0)), fun _ _ h => h⟩
    rcases hd with ⟨rfl, rfl⟩ | ⟨a, fs, rfl, h1, h2⟩
    · exact .exc0 upd_same
    · exact .excF upd_same (Ex.new (g2.ex.free hp0) _ _ h1) (h2.mono (Ex.new (g2.ex.free hp0)))
end
end DL

namespace DL
open PySem L2 LamX PyProof.Rows
structure FunV (K : PySem.W.Frag) (x qual : Str) (st : Stmt) (f : Addr) (fd : FuncData) (cdv : Value) : Prop where
  ex : ∃ (oc : Value) (od : Option Addr) (dV kV doc pm : Value) (an : Option Addr) (ct : Value) (osl : Array (Option Value)), fd = PySem.W.fnOf x qual (defArgs st) (defBody st) (defScope st) dV kV doc pm an cdv ct ∧ K.lookup f = some ⟨oc, od, .func fd, osl⟩ ∧ PySem.W.codeIn K cdv qual = true
theorem funV_mk {K : PySem.W.Frag} {x qual : Str} {st : Stmt} {f : Addr} {oc : Value} {od an : Option Addr} {osl : Array (Option Value)} {dV kV doc pm cdv ct : Value} (l : K.lookup f = some ⟨oc, od, .func (PySem.W.fnOf x qual (defArgs st) (defBody st) (defScope st) dV kV doc pm an cdv ct), osl⟩)
    (c : PySem.W.codeIn K cdv qual = true) : FunV K x qual st f (PySem.W.fnOf x qual (defArgs st) (defBody st) (defScope st) dV kV doc pm an cdv ct) cdv := ⟨⟨oc, od, dV, kV, doc, pm, an, ct, osl, rfl, l, c⟩⟩
section
variable {P : Program} {w : World} {K : PySem.W.Frag} {mg : Str → Option Value} {base : Heap} {CX : CXT} {k : Nat} {f : Addr} {N ps : List Str} {sp : Sp} {cdv : Value}
theorem FnG.byV {x qual : Str} {st : Stmt} {fd : FuncData} (F : FunV K x qual st f fd cdv) (S : FnScope N ps (defScope st)) (len : ∀ vs H Q E, sp vs H Q E → vs.length = ps.length)
    (hbody : ∀ (A : Around) (outer : List Env) (s : Shared) (H : Hp) (vs : List V) (Q : VK) (E : XK), Room k (A.deeper (envOfC qual (defScope st) s.heap.objs.size f cdv)) → A.guards = some [] → sp vs H Q E →
      ∃ t, PSs (cxOf CX P w K mg base N qual (defScope st) f cdv A outer s H E) (defBody st) t ∧ t { nx := fun _ H' => Q .non H', rt := Q } (L2.start N vs) H) : FnG P w K mg base CX (k + 1) f fd ps sp := by
  obtain ⟨oc, od, dV, kV, doc, pm, an, ct, osl, rfl, lk, hcd⟩ := F.ex
  refine ⟨len, fun A outer s H args us vs Q E room gd env bnd rel want => ?_⟩
  have inB : ∀ b o, base.get? b = some o → s.heap.get? b = some o := fun b o e => (env.bs b o e).1
  have inK : K.In s.heap := env.mod.kin.keeps inB
  have kinds : ∀ y ∈ ps.zip us, (defScope st).names.lookup y.1 = some .local ∨ ((defScope st).names.lookup y.1 = some .cell ∧ ((cellsFrom (s.heap.objs.size + 1) (defScope st).names []).lookup y.1).isSome = true) := fun ⟨n, v⟩ hy => (S.par n (List.of_mem_zip hy).1).elim .inl fun q => .inr ⟨q, PySem.W.cellsFrom_some _ _ _ (.inl q)⟩
  refine codeAny_call_function room.depth (inK _ _ lk) rfl S.co S.gen rfl (PySem.W.codeRec_of inK hcd) (bnd _ _ _ _ (wpAny_newFunctionEnv_cells S.kind kinds ?_))
  rintro _ rfl s1 x
  obtain ⟨t, ht, hq⟩ := hbody A outer s H vs Q E (room.deeper _) gd want
  refine ⟨(env.mod.nolimit.keeps inB).keeps x.toInCall.keep, codeAny_func (wpAny_mono (ht.run [] s1 _ H _ (inv_start (CX := CX) (qual := qual) (f := f) (cd := cdv) (E := E) S room.hd env (len _ _ _ _ want) rel x) hq) ?_ fun e s' hs => hs)⟩
  rintro (_ | _ | _ | u) s' hs
  · obtain ⟨σ', H', J, q⟩ := hs
    exact ⟨V.non, H', J.os, J.bare, J.base, J.hok, rfl, q⟩
  · obtain ⟨_, _, _, q⟩ := hs
    exact q.elim
  · obtain ⟨_, _, _, q⟩ := hs
    exact q.elim
  · obtain ⟨v, σ', H', J, rv, q⟩ := hs
    exact ⟨v, H', J.os, J.bare, J.base, J.hok, rv, q⟩
end
section
variable {P : Program} {w : World} {K : PySem.W.Frag} {mg : Str → Option Value} {base : Heap} {dr : Option Dr} {N ps : List Str} {W : Wp} {k : Nat} {cdv : Value}
end
end DL

namespace DL
open PySem L2 LamX
theorem isES_imp {nE : Nat} {c : Cl} {n : Option Nat} {d : D} {K K' : Bool → Prop} (h : isES nE c n d K) (i : ∀ t, K t → K' t) : isES nE c n d K' := by
  unfold isES at h ⊢
  split at h
  · exact i _ h
  · obtain ⟨m, h1, h2, h3⟩ := h; exact ⟨m, h1, h2, i _ h3⟩
  · exact h.elim
structure ErrC (K : PySem.W.Frag) (mg : Str → Option Value) (nE : Nat) (c : Cl) (x : Str) (n : Option Nat) : Prop where
  ex : ∃ C, mg x = some (.ref C) ∧ PySem.W.kitOne K (.type "NoneType") (.ref C) = some false ∧ ∀ m, m < nE → PySem.W.kitOne K (.ref (c.err m)) (.ref C) = some (match n with | some n => decide (m = n) | none => true)
structure ErrV (K : PySem.W.Frag) (mg : Str → Option Value) (nE : Nat) (c : Cl) : Prop where
  m : mg "ValueError" = none
  z : PySem.W.kitOne K (.type "NoneType") (.type "ValueError") = some false
  a : ∀ m, m < nE → PySem.W.kitOne K (.ref (c.err m)) (.type "ValueError") = some true
def ErrHs (K : PySem.W.Frag) (nE : Nat) (c : Cl) : Prop := ∀ m, m < nE → ErrH K (c.err m)
section
variable {X : Cx} {an : An} {dr : Option Dr} {ρ : Rho} {om : Om} {e : Expr} {pos p p2 : Pos} {x f : Str} {Q : R → Om → Prop} {nE : Nat} {c : Cl} {n : Option Nat}
theorem cb_isVi : CallR X (.builtin "isinstance") (fun xs H Q => DX.rIsV X.K xs H Q ∨ rIsi X.K xs H Q) := fun pins s σ H xs us Q I r h => h.elim (DX.call_isV pins s σ H xs us Q I r) (call_isi pins s σ H xs us Q I r)
theorem we_isE0 {cV : V} {cv : Value} (hm : X.mg "isinstance" = none) (hH : ErrHs X.K nE c) (hx : PE X (.Name x p2) (tC cV)) (hcl : ClsV cV cv) (hz : PySem.W.kitOne X.K (.type "NoneType") cv = some false) (hk : ∀ m, m < nE → PySem.W.kitOne X.K (.ref (c.err m)) cv = some (match n with | some n => decide (m = n) | none => true))
    (h : WE X an dr ρ om e fun r om1 => isES nE c n (vw om1 r) fun t => Q (.v (.bl t)) om1) (hg : Gl X "isinstance")
    (hs : starEach [e, .Name x p2] X.env = (false, eval e X.env) :: starEach [.Name x p2] X.env) (hs2 : starEach [.Name x p2] X.env = (false, eval (.Name x p2) X.env) :: starEach [] X.env) (hpl : (backTo pos (starEach [.Name x p2] X.env)).any (·.1) = false) : WE X an dr ρ om (.Call (.Name "isinstance" p) [e, .Name x p2] [] pos) Q :=
  peI (pe_callB cb_isVi hg hm PyProof.Rows.boot_isinstance (pa_cons (pe_u (an := an) (dr := dr)) (pa_cons hx pa_nil hs2) hs) (by decide) (by decide) hs hpl) fun σ H K' ⟨τ, G, g, n1, k⟩ => uE_of h g n1 fun v r om1 τ1 G1 H1 h1 w g1 gr1 n2 => by
    show DX.rIsV X.K [v, cV] H1 K' ∨ rIsi X.K [v, cV] H1 K'
    unfold isES at w
    split at w
    · rename_i e1
      obtain rfl := (vw_not g1 h1 e1 rfl).non_inv
      exact .inr ⟨.non, cV, .type "NoneType", cv, false, rfl, hcl, .base .non, hz, k _ _ om1 τ1 G1 H1 (.v (.bl _)) w g1 gr1⟩
    · rename_i C fds e1
      obtain ⟨m, hm1, rfl, q⟩ := w
      obtain ⟨a, dd, rfl, ha, hd⟩ := (vw_not g1 h1 e1 rfl).exc_inv
      refine .inl ⟨a, c.err m, dd, cV, cv, _, rfl, g1.ex _ _ ha, fun d' e => ?_, (hH m hm1).ec, fun u hu => hcl.eq hu, hk m hm1, k _ _ om1 τ1 G1 H1 (.v (.bl _)) q g1 gr1⟩
      rcases hd with ⟨z, _⟩ | ⟨d2, fs, z, hd, _⟩
      · rw [z] at e; cases e
      · rw [z] at e; cases e; exact ⟨fs, g1.ex _ _ hd⟩
    · exact w.elim
theorem we_isE (hm : X.mg "isinstance" = none) (hH : ErrHs X.K nE c) (hE : ErrC X.K X.mg nE c x n) (h : WE X an dr ρ om e fun r om1 => isES nE c n (vw om1 r) fun t => Q (.v (.bl t)) om1) (hg : Gl X "isinstance" := by rfl) (hgx : Gl X x := by rfl) (hd : (x == ("__debug__" : Str)) = false := by decide)
    (hs : starEach [e, .Name x p2] X.env = (false, eval e X.env) :: starEach [.Name x p2] X.env := by rfl) (hs2 : starEach [.Name x p2] X.env = (false, eval (.Name x p2) X.env) :: starEach [] X.env := by rfl) (hpl : (backTo pos (starEach [.Name x p2] X.env)).any (·.1) = false := by rfl) : WE X an dr ρ om (.Call (.Name "isinstance" p) [e, .Name x p2] [] pos) Q := by
  obtain ⟨C, h1, h2, h3⟩ := hE.ex
  exact we_isE0 hm hH (pe_glob (v := .ref C) hgx h1 rfl hd) (.own C) h2 h3 h hg hs hs2 hpl
end
end DL

namespace DL
open PySem L2
def OwnR (K : PySem.W.Frag) (dr : Option Dr) (H G' H' : Hp) (v : V) (d : D) : Prop := ∃ p c o, d = .own c ∧ v = .ref p ∧ strip H p = none ∧ G' p = none ∧ Off dr p ∧ H' p = some o ∧ Cell K G' o c
def spO (K : PySem.W.Frag) (dr : Option Dr) (W : Wp) : Sp := fun vs H Q _ => ∃ G ds, Pre dr G H ∧ IsL K G vs ds ∧ W ds fun d => ∀ v G' H', (Is K G' v d ∨ OwnR K dr H G' H' v d) → Frm dr G H G' H' → Q v H'
structure HasO (P : Program) (w : World) (K : PySem.W.Frag) (mg : Str → Option Value) (base : Heap) (dr : Option Dr) (k : Nat) (x : Str) (ps : List Str) (W : Wp) : Prop where
  ex : ∃ f fd, FnG P w K mg base CX0 k f fd ps (spO K dr W) ∧ mg x = some (.ref f) ∧ PySem.W.keepIn K (.ref f) = true ∧ Binds K fd ps []
  mono : ∀ ds Q Q', (∀ d, Q d → Q' d) → W ds Q → W ds Q'
section
variable {P : Program} {w : World} {K : PySem.W.Frag} {mg : Str → Option Value} {base : Heap} {dr : Option Dr} {N ps : List Str} {W : Wp} {k : Nat}
end
def retQ (Q : R → Om → Prop) (om : Om) : D → Prop
  | .own c => Q (.o om.length) (om ++ [some c])
  | d => Q (.v d) om
def ownS (d : D) (K : D → Prop) : Prop := match d with
  | .own c => K c
  | _ => False
section
variable {X : Cx} {an : An} {dr : Option Dr} {ρ : Rho} {om : Om} {e e2 o ix : Expr} {es : List Expr} {sts : List Stmt} {pos p apos pos' p2 : Pos} {Q : R → Om → Prop} {x f m : Str} {ps : List Str} {W : Wp} {k j i : Nat} {E : Ed}
end
end DL
namespace DL
open PySem L2
end DL

namespace DL
open PySem PySem.Spec L2
def An.tie (an : An) (j : Nat) (p : Addr) : An := ⟨an.G0, an.H0, an.ow, (j, p) :: an.ties⟩
section
variable {K : PySem.W.Frag} {an : An} {dr : Option Dr} {om : Om} {τ : List Addr} {G H : Hp} {j : Nat} {p : Addr}
theorem Good.tie (g : Good K an dr om τ G H) (h : τ[j]? = some p) : Good K (an.tie j p) dr om τ G H where
  ex := g.ex
  len := g.len
  nd := g.nd
  own := g.own
  drg := g.drg
  a1 := g.a1
  a2 := g.a2
  a3 := g.a3
  a4 := g.a4
  gt := g.gt
  nt0 := g.nt0
  ti := fun t ht => by
    rcases List.mem_cons.mp ht with rfl | ht
    · exact h
    · exact g.ti t ht
end
def uS1a (X : Cx) (dr : Option Dr) (e : Stmt) : TS := fun Z σ H => ∃ an, uS1 X an dr e Z σ H
section
variable {X : Cx} {an : An} {dr : Option Dr} {ρ : Rho} {om : Om} {e o ix : Expr} {st : Stmt} {sts : List Stmt} {pos p p2 pl : Pos} {Q : R → Om → Prop} {E : Ed}
theorem ps_ua : PS X st (uS1a X dr st) := ⟨fun pins s σ H K' I ⟨an, h⟩ => (ps_u (an := an)).run pins s σ H K' I h⟩
theorem we_retie (h : WE X an dr ρ om e fun ro om1 => ∃ p j, ro = .v (.obj p) ∧ (j, p) ∈ an.ties ∧ Q (.o j) om1) : WE X an dr ρ om e Q :=
  peI h fun σ H K' ⟨τ, G, g, n, k⟩ => ⟨τ, G, g, n, fun v r om' τ' G' H' i w g' gr => by
    obtain ⟨p, j, rfl, ht, q⟩ := w
    cases i with
    | v i =>
      cases i
      exact k _ _ om' τ' G' H' (.o (g'.ti _ ht)) q g' gr⟩
theorem WI.imp {tg iter : Expr} {Q Q' : List D → Om → Prop} (h : WI X an dr ρ om tg iter Q) (i : ∀ ds om', Q ds om' → Q' ds om') : WI X an dr ρ om tg iter Q' :=
  piI h fun σ H Z ⟨τ, G, g, n, k⟩ => ⟨τ, G, g, n, fun J ds om' τ' G' H' q => k J ds om' τ' G' H' (i _ _ q)⟩
end
end DL

namespace DL
open PySem PySem.Spec L2
def dcopyS (d : D) (K : D → Prop) : Prop := match d with
  | .dic kds => K (.dic kds)
  | _ => False
section
variable {X : Cx} {an : An} {dr : Option Dr} {ρ : Rho} {om : Om} {a kx vx : Expr} {pos p : Pos} {Q : R → Om → Prop}
end
end DL

namespace DL
open PySem PySem.Spec L2
def dictS (d : D) (K : Prop) : Prop := match d with
  | .dic _ => K
  | _ => False
inductive WkE (n : Nat) : Option R → Option R → Prop
  | non {a : Option R} : WkE n a none
  | v {d : D} : WkE n (some (.v d)) (some (.v d))
  | o {k : Nat} (h : k < n) : WkE n (some (.o k)) (some (.o k))
  | opt {t : Option D} : WkE n (oR t) (oR t)
inductive WkL (n : Nat) : Rho → Rho → Prop
  | nil : WkL n [] []
  | cons {a b : Option R} {as bs : Rho} (h : WkE n a b) (t : WkL n as bs) : WkL n (a :: as) (b :: bs)
theorem WkL.length {n : Nat} {ρ ρ' : Rho} (h : WkL n ρ ρ') : ρ'.length = ρ.length := by
  induction h with
  | nil => rfl
  | cons _ _ ih => rw [List.length_cons, List.length_cons, ih]
theorem WkL.get {n : Nat} {ρ ρ' : Rho} (h : WkL n ρ ρ') : ∀ (i : Nat) (r : R), ρ'[i]? = some (some r) → ρ[i]? = some (some r) ∧ ∀ k, r = .o k → k < n := by
  induction h with
  | nil => intro i r e; simp at e
  | cons h t ih =>
    intro i r e
    cases i with
    | zero =>
      simp only [List.getElem?_cons_zero, Option.some.injEq] at e ⊢
      subst e
      generalize hb : (some r : Option R) = b at h
      cases h with
      | non => cases hb
      | v => cases hb; exact ⟨rfl, fun k e => by cases e⟩
      | o h => cases hb; exact ⟨rfl, fun k e => by cases e; exact h⟩
      | @opt t =>
        cases t with
        | none => cases hb
        | some d => cases hb; exact ⟨rfl, fun k e => by cases e⟩
    | succ i => rw [List.getElem?_cons_succ] at e ⊢; exact ih i r e
section
variable {X : Cx} {an : An} {dr : Option Dr} {ρ : Rho} {om : Om} {a b c : Expr} {pos : Pos} {E : Ed} {st : Stmt} {sts : List Stmt}
theorem Good.dropN {K : PySem.W.Frag} {G H : Hp} : ∀ (ex : Om) {om : Om} {τ : List Addr}, (∀ t ∈ an.ties, t.1 < om.length) → Good K an dr (om ++ ex) τ G H → ∃ τ1 τ2, τ = τ1 ++ τ2 ∧ τ1.length = om.length ∧ Good K an dr om τ1 G H := by
  intro ex
  generalize hn : ex.length = n
  induction n generalizing ex with
  | zero =>
    intro om τ ht g
    cases List.length_eq_zero_iff.mp hn
    rw [List.append_nil] at g
    exact ⟨τ, [], by simp, g.len.symm, g⟩
  | succ n ih =>
    intro om τ ht g
    rcases List.eq_nil_or_concat ex with e | ⟨ex', x, e⟩
    · rw [e] at hn; cases hn
    · have e : ex = ex' ++ [x] := by simpa using e
      subst e
      rw [← List.append_assoc] at g
      have hl := g.len
      rcases List.eq_nil_or_concat τ with e | ⟨t, y, e⟩
      · rw [e] at hl; simp at hl
      · have e : τ = t ++ [y] := by simpa using e
        subst e
        have g' := g.drop (fun z h => by
          have h1 := g.ti z h
          have h2 := ht z h
          rwa [List.getElem?_append_left (by simp at hl; omega)] at h1)
        obtain ⟨τ1, τ2, e, l, gg⟩ := ih ex' (by simpa using hn) ht g'
        exact ⟨τ1, τ2 ++ [y], by rw [e, List.append_assoc], l, gg⟩
def Tr (n : Nat) (Q : Rho → Om → Prop) : Rho → Om → Prop := fun ρ om => ∃ ρ' om' ex, om = om' ++ ex ∧ om'.length = n ∧ WkL n ρ ρ' ∧ Q ρ' om'
theorem isL_rng {K : PySem.W.Frag} {G : Hp} (f : Nat → Nat) : ∀ (xs : List Nat), IsL K G (xs.map fun i => V.int (0 + (f i : Nat))) (xs.map fun i => D.int ((f i : Nat) : Int))
  | [] => .nil
  | x :: xs => .cons (by show Is K G (V.int (0 + ((f x : Nat) : Int))) (D.int ((f x : Nat) : Int)); rw [Int.zero_add]; exact .int _) (isL_rng f xs)
end
end DL

namespace DL
open PySem PySem.Spec L2
def revS (d : D) (K : D → Prop) : Prop := match d with
  | .lst xs => K (.lst xs.reverse)
  | _ => False
theorem sqL_strip {K : PySem.W.Frag} {H : Hp} {a : Addr} {xs : List V} (h : SqL K H a xs) : SqL K (strip H) a xs := by
  rcases h with (h | ⟨o, h⟩) | h
  · exact .inl (.inl (strip_of h fun _ z => by cases z))
  · exact .inl (.inr ⟨o, strip_of h fun _ z => by cases z⟩)
  · exact .inr h
theorem off_strip {H : Hp} {a : Addr} {P : Prop} (h : H a ≠ none → P) : strip H a ≠ none → P := fun n => h fun z => n (by unfold strip; rw [z])
end DL

namespace DX
open PySem PySem.W PySem.Calls PyProof.Rows PySem.HandSPX
section
variable {M : Model} {A : Around} {E : Value → Shared → Prop} {h : Heap} {g : Array GenState} {d : Drawn} {t : Nat} {os : OsState}
variable {nm q : Str} {C N : Addr} {bs bm bmB : List Value} {hdct : Bool} {sn : List Str} {sub : List Value} {ab : Bool} {col : Option Bool} {dd : Option Addr} {k0 k1 k2 k3 k5 : Option Value} {B newId initId : String}
end
section
variable {prog : Program} {w : World} {A : Around} {E : Value → Shared → Prop} {R : Result → Shared → Prop} {h : Heap} {g : Array GenState} {d : Drawn} {t : Nat} {os : OsState}
variable {nm q : Str} {C N : Addr} {bs bm bmB : List Value} {hdct : Bool} {sn : List Str} {sub : List Value} {ab : Bool} {col : Option Bool} {dd : Option Addr} {k0 k1 k2 k3 k5 : Option Value} {B newId initId : String}
end
structure FldK (f : Str) : Prop where
  bd : ∀ (s : Shared) (qual : Str) (doc pm ct : Value) (an : Option Addr) (cda cc : Addr) (p1 p2 q1 q2 q3 q4 q5 q6 q7 q8 q9 q10 : Pos) (a b : Value), BindsTo s (ksFn "__init__" qual (eA f p1 p2) (eB f q1 q2 q3 q4 q5 q6 q7 q8 q9 q10) (eS f) .none .none doc pm an (.ref cda) ct cc) ⟨[a], [(f, b)]⟩ [("self", a), (f, b)]
section
variable {prog : Program} {w : World} {A : Around} {E : Value → Shared → Prop} {R : Result → Shared → Prop} {s : Shared} {K : Frag} {mg mb : Str → Option Value} {C fI : Addr} {xn f : Str}
end
end DX

namespace DX
open PySem PySem.Spec PyProof.Rows L2
section
variable {X : Cx} {e : Expr} {t : L2.St → Hp → XK → Prop}
def tVal (t : L2.St → Hp → XK → Prop) : TE := fun σ H Q => t σ H fun cls d H' => ∀ a, H' a = none → Q (.ref a) (upd H' a (exV cls d a))
end
section
variable {X : Cx} {x f : Str} {C : Addr}
end
section
variable {X : Cx} {C : Addr} {bmB : List Value} {B newId initId : String}
end
end DX
namespace DL
open PySem PySem.Spec L2
section
variable {X : Cx} {an : An} {dr : Option Dr} {ρ : Rho} {om : Om} {a : Expr} {kws : List Keyword} {pos p : Pos} {x f : Str} {j : Nat} {C : Addr} {Q : R → Om → Prop}
end
end DL

namespace DL
open PySem PySem.Spec PySem.W L2
abbrev veR : List Value := [.type "ValueError", .type "Exception", .type "BaseException", .type "object"]
structure EM (K : Frag) (C : Addr) (r : List Value) : Prop where
  ty : typeIn K (.ref C) = some (.type "type")
  mr : ∃ cd, clsIn K C = some cd ∧ cd.mro = .ref C :: r
theorem EM.mro {K : Frag} {C : Addr} {r : List Value} (h : EM K C r) (b : Value) : mroIn K C b = some ((Value.ref C :: r).contains b) := by
  obtain ⟨cd, h1, h2⟩ := h.mr
  unfold mroIn
  rw [h1, Option.bind_some, h2]
  rfl
theorem EM.one {K : Frag} {C D : Addr} {r r' : List Value} (h : EM K C r) (h' : EM K D r') : kitOne K (.ref C) (.ref D) = some ((Value.ref C :: r).contains (.ref D)) := by
  unfold kitOne
  split
  · rename_i e
    have e : Value.ref C = .ref D := by simpa using e
    cases e
    simp
  · unfold kitCls
    obtain ⟨cd, h1, _⟩ := h'.mr
    have e : ((clsIn K D).isSome && typeIn K (.ref D) == some (.type "type")) = true := by rw [h1, h'.ty]; simp
    simp only [e, if_true]
    exact h.mro _
theorem EM.ve {K : Frag} {C : Addr} {r : List Value} (h : EM K C r) (hr : r.contains (.type "ValueError") = true) : kitOne K (.ref C) (.type "ValueError") = some true := by
  unfold kitOne
  rw [if_neg (by simp)]
  unfold kitCls
  have e : kitMeta "ValueError" = true := by decide +kernel
  simp only [e, if_true]
  have := h.mro (.type "ValueError")
  rw [List.contains_cons, hr, Bool.or_true] at this
  exact this
theorem EM.non {K : Frag} {D : Addr} {r : List Value} (h : EM K D r) : kitOne K (.type "NoneType") (.ref D) = some false := by
  unfold kitOne
  rw [if_neg (by simp)]
  unfold kitCls
  obtain ⟨cd, h1, _⟩ := h.mr
  have e : ((clsIn K D).isSome && typeIn K (.ref D) == some (.type "type")) = true := by rw [h1, h.ty]; simp
  simp only [e, if_true]
  have z : fastBuiltinMro "NoneType" = some [.type "NoneType", .type "object"] := by decide +kernel
  show (fastBuiltinMro "NoneType").map (·.contains (.ref D)) = some false
  rw [z]
  rfl
structure EAll (K : Frag) (c : Cl) (nE : Nat) : Prop where
  base : EM K (c.err 0) veR
  leaf : ∀ m, 0 < m → m < nE → EM K (c.err m) (.ref (c.err 0) :: veR)
  inj : ∀ m n, m < nE → n < nE → c.err m = c.err n → m = n
theorem EAll.any {K : Frag} {c : Cl} {nE : Nat} (h : EAll K c nE) (m : Nat) (hm : m < nE) : ∃ r, EM K (c.err m) r ∧ r.contains (.type "ValueError") = true := by
  by_cases e : m = 0
  · subst e; exact ⟨_, h.base, by decide⟩
  · exact ⟨_, h.leaf m (by omega) hm, by rw [List.contains_cons]; rfl⟩
theorem EAll.leafC {K : Frag} {mg : Str → Option Value} {c : Cl} {nE n : Nat} {x : Str} (h : EAll K c nE) (h0 : 0 < n) (hn : n < nE) (hx : mg x = some (.ref (c.err n))) : ErrC K mg nE c x (some n) := by
  have hD := h.leaf n h0 hn
  refine ⟨_, hx, hD.non, fun m hm => ?_⟩
  by_cases e : m = 0
  · subst e
    rw [h.base.one hD]
    have ne : c.err 0 ≠ c.err n := fun z => by have := h.inj 0 n hm hn z; omega
    have : (Value.ref (c.err 0) :: veR).contains (.ref (c.err n)) = false := by
      simp [Ne.symm ne]
    rw [this]
    show some false = some (decide (0 = n))
    rw [decide_eq_false (by omega : ¬ 0 = n)]
  · have hC := h.leaf m (by omega) hm
    rw [hC.one hD]
    have ne0 : c.err n ≠ c.err 0 := fun z => by have := h.inj n 0 hn (by omega) z; omega
    by_cases e2 : m = n
    · subst e2; simp
    · have ne : c.err n ≠ c.err m := fun z => e2 (h.inj m n hm hn z.symm)
      have : (Value.ref (c.err m) :: .ref (c.err 0) :: veR).contains (.ref (c.err n)) = false := by
        simp [ne, ne0]
      rw [this]
      show some false = some (decide (m = n))
      rw [decide_eq_false e2]
theorem EAll.veC {K : Frag} {mg : Str → Option Value} {c : Cl} {nE : Nat} (h : EAll K c nE) (hx : mg "ValueError" = none) (hz : kitOne K (.type "NoneType") (.type "ValueError") = some false) : ErrV K mg nE c :=
  ⟨hx, hz, fun m hm => by obtain ⟨r, h1, h2⟩ := h.any m hm; exact h1.ve h2⟩
theorem EM.of {K : Frag} {C : Addr} {r : List Value} (ty : typeIn K (.ref C) = some (.type "type")) (mr : (clsIn K C).map (fun cd => cd.mro) = some (.ref C :: r)) : EM K C r := by
  obtain ⟨cd, h1, h2⟩ := Option.map_eq_some_iff.mp mr
  exact ⟨ty, cd, h1, h2⟩
theorem EM.of2 {K : Frag} {C : Addr} {r : List Value} {cd : ClassData} (ty : typeIn K (.ref C) = some (.type "type")) (h : clsIn K C = some cd) (e : cd.mro = .ref C :: r) : EM K C r := ⟨ty, cd, h, e⟩
theorem getD_inj {es : List Addr} (nd : es.Nodup) {m n : Nat} (hm : m < es.length) (hn : n < es.length) (e : es.getD m 0 = es.getD n 0) : m = n := by
  rw [List.getD_eq_getElem?_getD, List.getD_eq_getElem?_getD, List.getElem?_eq_getElem hm, List.getElem?_eq_getElem hn] at e
  exact (List.getElem_inj nd).mp e

inductive AllE (P : Addr → Prop) : List Addr → Prop
  | nil : AllE P []
  | cons {a : Addr} {as : List Addr} : P a → AllE P as → AllE P (a :: as)
theorem AllE.get {P : Addr → Prop} : ∀ {as : List Addr}, AllE P as → ∀ m, m < as.length → P (as.getD m 0)
  | _, .nil, m, h => absurd h (Nat.not_lt_zero _)
  | _, .cons p _, 0, _ => p
  | _, .cons _ q, m + 1, h => q.get m (Nat.lt_of_succ_lt_succ h)
theorem ErrHs.of {K : Frag} {c : Cl} {es : List Addr} (hc : c.err = fun i => es.getD i 0) (h : AllE (ErrH K) es) : ErrHs K es.length c := fun m hm => by rw [hc]; exact h.get m hm
theorem EAll.of {K : Frag} {c : Cl} {e0 : Addr} {es : List Addr} (hc : c.err = fun i => (e0 :: es).getD i 0) (h0 : EM K e0 veR) (h : AllE (fun E => EM K E (.ref e0 :: veR)) es) (nd : (e0 :: es).Nodup) : EAll K c (e0 :: es).length := by
  refine ⟨by rw [hc]; exact h0, fun m h1 h2 => ?_, fun m n hm hn e => ?_⟩
  · rw [hc]
    cases m with
    | zero => exact absurd h1 (Nat.lt_irrefl _)
    | succ m => exact h.get m (Nat.lt_of_succ_lt_succ h2)
  · rw [hc] at e
    exact getD_inj nd hm hn e
open PySem.Calls PyProof.Rows PySem.HandSPX in
theorem errA_mk {P : Program} {K : Frag} {mg : Str → Option Value} {h : Heap} {x f : Str} {E N fI cc cda : Addr} {nm q ql : Str} {bs bm sub : List Value} {sn : List Str} {ab : Bool} {col : Option Bool} {dd cdd od an cld : Option Addr} {k0 k1 k2 k3 k5 : Option Value} {oc doc pm ct ccl cl : Value} {osl ccs csl : Array (Option Value)} {vs : Array Value} {file : Str} {tf : Tok} {p1 p2 q1 q2 q3 q4 q5 q6 q7 q8 q9 q10 : Pos}
    (X : K.In h) (G : h.Ns mainGlobals mg) (F : DX.FldN f)
    (a : nsIn K mainGlobals x = some (some (.ref E))) (zs : nsIn K mainGlobals "super" = some none) (lc : K.lookup E = some (excClassObj nm q E N bs bm true sn sub ab col dd k0 k1 k2 k3 k5 "ValueError.__new__")) (rv : refsVE bm = true)
    (sa : findIn K (.ref E) "__setattr__" = some (some (.builtin "object.__setattr__"))) (nf : findIn K (.ref E) f = some none) (kp : keepIn K (.ref E) = true) (hs : subIn K (.ref E) (.type "BaseException") = some true) (ve : subIn K (.ref E) (.type "ValueError") = some true)
    (ty : typeIn K (.ref E) = some (.type "type")) (hd : hasDictIn K E = true) (si : ks_superIn K E E "__init__" = some (some (.builtin "ValueError.__init__"))) (mo : mroIn K E (.ref E) = some true) (op : nsIn K cStatics "thirdparty.any" = some none)
    (tp : (P.main.scope.names.lookup ("super" : Str)).isSome = false)
    (fi : findIn K (.ref E) "__init__" = some (some (.ref fI))) (ti : typeIn K (.ref fI) = some (.type "function"))
    (lI : K.lookup fI = some ⟨oc, od, .func (ksFn "__init__" ql (DX.eA f p1 p2) (DX.eB f q1 q2 q3 q4 q5 q6 q7 q8 q9 q10) (DX.eS f) .none .none doc pm an (.ref cda) ct cc), osl⟩)
    (cI : codeIn K (.ref cda) ql = true)
    (ev : ∃ pl : Sem Bool, ∀ L : Addr, eval (.Call (.Attribute (.Call (.Name "super" q1) [] [] q2) "__init__" q3) [.Name f q4] [] q5) (ksEnv ql (DX.eS f) L fI (.ref cda) cc) = (do
      let ov ← attributeBase (.Call (.Name "super" q1) [] [] q2) "__init__" (ksEnv ql (DX.eS f) L fI (.ref cda) cc) (eval (.Call (.Name "super" q1) [] [] q2) (ksEnv ql (DX.eS f) L fI (.ref cda) cc))
      standAt q3.atName
      let (f1, first) ← holding [ov] (getMethod ov "__init__" pl)
      callWith q5 f1 first (backTo q5 (starEach [.Name f q4] (ksEnv ql (DX.eS f) L fI (.ref cda) cc))) []))
    (lk : K.lookup cda = some ⟨ccl, cdd, .fields vs, ccs⟩) (lv : vs[2]? = some (.str file tf)) (lf : ((P.main.file : Str) == file) = true) (ll : K.lookup cc = some ⟨cl, cld, .cell (some (.ref E)), csl⟩) : ErrA P K mg x f E :=
  ⟨mg_of X G a, ⟨⟨_, _, _, _, _, _, _, _, _, _, _, _, _, _, _, lc, rv⟩, sa, nf, kp, hs, ve, ty, hd, si, mo, op, tp, ⟨_, _, _, _, _, _, _, _, _, _, _, _, _, _, _, _, _, _, _, _, _, _, _, lI, cI, fi, ti, ev, ⟨_, _, _, _, _, _, lk, lv, lf⟩, ⟨_, _, _, ll⟩⟩⟩, F, mg_none_of X G zs⟩
end DL

namespace DL
open PySem L2 LamX PyProof.Rows
def catE (nE : Nat) (c : Cl) (K : D → Prop) : D → Prop := fun d => isErr nE c d ∧ K d
def caughtS (nE : Nat) (c : Cl) (A : (D → Prop) → Prop → Prop) (K : D → Prop) : Prop := A (catE nE c K) (K .non)
theorem catE_mk {nE : Nat} {c : Cl} {K : D → Prop} {m : Nat} {fs : List (Str × D)} (hm : m < nE) (h : K (.exc (c.err m) fs)) : catE nE c K (.exc (c.err m) fs) := ⟨⟨m, fs, hm, rfl⟩, h⟩
theorem TX.less {X : Cx} {an : An} {dr : Option Dr} {E E' : D → Prop} (t : TX X an dr E) (h : ∀ d, E' d → E d) : TX X an dr E' := Takes.imp t fun _ _ _ _ ⟨x, om, τ, G, hx, r⟩ => ⟨x, om, τ, G, h x hx, r⟩
section
variable {X : Cx} {an : An} {x : Dr} {ρ ρ' : Rho} {om : Om} {body : Expr} {params : Arguments} {scope : Scope} {pos p lpos : Pos} {Q : R → Om → Prop} {k j nE : Nat} {CS cd P : Addr} {c : Cl} {W : (D → Prop) → Prop → Prop} {Z : D → Prop}
theorem we_caughtS (hW : caughtS nE c W Z) (hX : ∀ m, m < nE → PySem.W.exmOne X.K (.ref (c.err m)) (.ref CS) = some true) (H0 : HasC X.prog X.w X.K X.mg X.base CS) (hr : Room j X.A) (TB : TabB X.base X.mg cd P) (hcode : X.env.code = .ref cd) (hmT : (P, X.env.qual ++ "<lambda>") ∈ x.T) (hu : ∀ p ∈ x.T, p.1 = P → p.2 = X.env.qual ++ "<lambda>") (L : LamS X.env.scope scope) (hdef : defaultsOf params X.env = ([], []))
    (hbind : ∀ (q : Str) (cl : List (Str × Addr)) (pm cv ctv : Value), bindArgs (PySem.W.kla_fn "<lambda>" q params body scope cl pm cv ctv) ⟨[], []⟩ = pure []) (hrho : RSub ρ' ρ) (hK : ∀ d, Z d → Q (.v d) om)
    (hbody : ∀ (an' : An) (A : Around) (outer : List Env) (s : Shared) (H : Hp) (E : XK) (f c' : Addr), Room k (A.deeper (lamEnv X scope s.heap.objs.size f c')) → ∀ (E0 : D → Prop) (N0 : Prop), W E0 N0 → TX (lamCx X A outer s H E scope f c') an' (some x) E0 → WE (lamCx X A outer s H E scope f c') an' (some x) ρ' [] body fun _ _ => N0)
    (hkj : k + 2 ≤ j := by decide) (hg : Gl X "_law_caught" := by rfl) : WE X an (some x) ρ om (.Call (.Name "_law_caught" p) [.Lambda params body scope lpos] [] pos) Q :=
  we_caught (k := k) H0 hr TB hcode hmT hu L hdef hbind hrho (fun an' A outer s H E f c' hr' tk => WE.imp (hbody an' A outer s H E f c' hr' _ _ hW (tk.less fun d ⟨⟨m, fs, hm, e⟩, hz⟩ => ⟨⟨_, _, e, hX m hm⟩, hK d hz⟩)) fun _ _ hz => hK _ hz) hkj hg
end
theorem exmE_of {K : PySem.W.Frag} {c : Cl} {es : List Addr} {b : Value} (hc : c.err = fun i => es.getD i 0) (h : AllE (fun E => PySem.W.exmOne K (.ref E) b = some true) es) : ∀ m, m < es.length → PySem.W.exmOne K (.ref (c.err m)) b = some true := fun m hm => by rw [hc]; exact h.get m hm
structure HasXMW (P : Program) (w : World) (K : PySem.W.Frag) (mg : Str → Option Value) (base : Heap) (dr : Option Dr) (k : Nat) (C : Addr) (m : Str) (ps ks : List Str) (perm : List Nat) (W : WpX) : Prop where
  ex : ∃ f fd, FnOk P w K mg base (CX P w) k f fd ps (spX K dr W) ∧ Meth K C m f ∧ KBn K fd ps 1 ks (fun vs ws => vs ++ pickL perm ws) (fun vs zs => vs ++ pickL perm zs)
  cl : Cls K C
  mono : MonoX W
section
variable {X : Cx} {an : An} {dr : Option Dr} {ρ : Rho} {om : Om} {o : Expr} {pos p apos : Pos} {Q : R → Om → Prop} {m : Str} {ps ks : List Str} {W : WpX} {k j : Nat} {C : Addr} {EX : D → Prop} {kws : List Keyword} {perm : List Nat}
def tMethXW (C : Addr) (m : Str) (n : Nat) (sp : Sp) (perm : List Nat) (E : XK) (ta : TE) (tk : TA) : TE := fun σ H Q => ta σ H fun x H1 => ∃ a dx fs, x = .ref a ∧ H1 a = some (.ins C dx fs) ∧ fs.lookup m = none ∧ tk σ H1 fun zs H2 => zs.length = n ∧ sp (.ref a :: pickL perm zs) H2 Q E
end
theorem tabs_uniq {T : List (Addr × Str)} {P : Addr} {q : Str} (nd : (T.map (·.1)).Nodup) (h : (P, q) ∈ T) : ∀ p ∈ T, p.1 = P → p.2 = q := by
  induction T with
  | nil => cases h
  | cons t r ih =>
    intro p hp e
    rw [List.map_cons, List.nodup_cons] at nd
    rcases List.mem_cons.mp h with rfl | h1 <;> rcases List.mem_cons.mp hp with rfl | h2
    · rfl
    · exact absurd (List.mem_map.mpr ⟨p, h2, e⟩) nd.1
    · exact absurd (List.mem_map.mpr ⟨(P, q), h1, e.symm⟩) nd.1
    · exact ih nd.2 h1 p h2 e
theorem tabIn_of {K : PySem.W.Frag} {x : Str} {f c P : Addr} {fd : FuncData} {o o2 : Obj} {vs : Array Value} (hf : PySem.W.nsIn K mainGlobals x = some (some (.ref f))) (hl : K.lookup f = some o) (hd : o.data = .func fd) (hc : fd.code = .ref c) (hl2 : K.lookup c = some o2) (hd2 : o2.data = .fields vs) (hv : vs[11]? = some (.ref P)) : PySem.W.tabIn K x = some (c, P) := by
  obtain ⟨a1, a2, a3, a4⟩ := o
  obtain ⟨b1, b2, b3, b4⟩ := o2
  cases hd
  cases hd2
  unfold PySem.W.tabIn
  simp only [hf, hl, hc, hl2, hv]
def TabQ (q : Program) (K : PySem.W.Frag) (h : Heap) : Prop := ∀ (x : Str) (d : DefRec) (c P : Addr), (recsOf q).find? (fun e => e.name == x) = some d → PySem.W.tabIn K x = some (c, P) → PySem.W.CodeHd h c P ∧ h.get? P = some { cls := .none, data := .fields #[] }
theorem walk_lawV {l : PySem.W.OpenLaw} {n k : Nat} {q : Program} {loose : List Str} {XP : (Str → Option Value) → Heap → Prop} {YP : World → Heap → Prop} {d : DefRec} {K : Params → PySem.W.Frag} {x : Str}
    (hn : l.most = some n) (hn2 : n ≤ sizeLine) (hq : importsNone q = true) (hdf : d.params.defaults = []) (hr : Room k callerA) (hY : ∀ (w : World) (h : Heap), YP w h → (K w.params).In h)
    (F : ∀ (w : World) (mg : Str → Option Value) (fa : Addr) (h : Heap), (K w.params).In h → h.Ns mainGlobals mg → mg d.name = some (.ref fa) → TabQ q (K w.params) h →
      ∃ (fd : FuncData) (cs : List (Addr × Addr)) (sp : Sp), (∀ p ∈ cs, h.get? p.2 = some { cls := .none, data := .fields #[] }) ∧ (∀ p ∈ cs, (K w.params).lookup p.2 = none) ∧ (∀ p ∈ cs, PySem.W.CodeHd h p.1 p.2) ∧ (∀ (s : Shared) (u : Value), BindsTo s fd ⟨[u], []⟩ [(x, u)]) ∧
        (∀ (H : Hp) (a : Addr) (ns : List Int), ns.length ≤ n → (∀ p ∈ cs, H p.2 = some (.tbl #[])) → (∀ b ps, H b = some (.tbl ps) → ∃ p ∈ cs, p.2 = b) → SqL (K w.params) H a (ns.map V.int) → sp [.ref a] H (fun v _ => v = .bl true) fun _ _ _ => False) ∧
        ∀ base : Heap, (K w.params).In base → base.Ns mainGlobals mg → (∃ o, base.get? sysModules = some o) → (∀ p ∈ cs, LamX.TabB base mg p.1 p.2) → FnG l.prog w (K w.params) mg base CX0 k fa fd [x] sp) :
    PySem.W.WalkO q loose XP YP l.row.toRowW d [] (fun f vs => PySem.call f vs) := by
  refine Att.attach_call hn hdf fun w s₀ s₁ mg mb fa o pm cd doc a vs ns G Y ho hd hcd hmg hobj hints hlen hg => ?_
  have KX := hY w _ Y
  obtain ⟨fd, cs, sp, hT, nT, C, hb, hsp, hF⟩ := F w mg fa _ KX G.T.g hmg fun y e c P h1 h2 => PySem.W.tab_of G.T KX h1 h2
  exact end_lawT KX G.T.g G.T.b G.T.builtins G.T.nolimit (by obtain ⟨mm, h1, _⟩ := (G.T.seer hq).mods; exact ⟨mm, h1⟩) hg hT nT C G.T.bmain hobj hints (Nat.le_trans hlen hn2) hr hF hb fun H h1 h2 hS => hsp H a ns hlen h1 h2 hS
end DL

namespace DL
open PySem PySem.Spec L2
def keyT (e : Int × Value) : Str := match e.2 with | .str k _ => k | _ => Str.empty
def GoodT (w : World) (e : Int × Value) : Prop := ∃ k tk, e.2 = Value.str k tk ∧ e.1 = hashStr w k
def SetS (w : World) (h : Heap) (a : Addr) (S : Str → Bool) (n : Nat) : Prop :=
  ∃ o es ep t, h.get? a = some o ∧ o.ExactSet ∧ o.data = .set es ep t ∧ (∀ e ∈ es.toList, GoodT w e) ∧ (es.toList.map keyT).Nodup ∧ (∀ k, S k = true ↔ k ∈ es.toList.map keyT) ∧
    es.size < scanBound ∧ t.fits es.size = true ∧ es.size = n ∧ Ris t.place.toList ∧ (w.params.followText "set-order" = true ∨ t.led = true)
section
variable {P : Program} {w : World} {h h' : Heap} {a : Addr} {S : Str → Bool} {n : Nat}
theorem SetS.at (R : SetS w h a S n) (k : ∀ o, h.get? a = some o → h'.get? a = some o) : SetS w h' a S n := by
  obtain ⟨o, es, ep, t, e, r⟩ := R
  exact ⟨o, es, ep, t, k o e, r⟩
theorem goodT_elems {l : List (Int × Value)} (g : ∀ e ∈ l, GoodT w e) : ElemsOf (strKind P w) l := fun e he => by
  obtain ⟨k, tk, e1, e2⟩ := g e he
  exact ⟨⟨k, by rw [e1]; exact strKind_is P w k tk, e2⟩, by rw [e1] <;> rfl⟩
theorem goodT_is {e : Int × Value} (g : GoodT w e) (k : Str) : (strKind P w).is k e.2 = true ↔ keyT e = k := by
  obtain ⟨k0, tk, e1, _⟩ := g
  unfold keyT
  rw [e1]
  constructor
  · intro q
    have q : Value.isStrOf k (.str k0 tk) = true := q
    obtain ⟨t, z⟩ := Value.isStrOf_shape q
    cases z
    rfl
  · intro q
    show (strKind P w).is k (.str k0 tk) = true
    rw [show k0 = k from q]
    exact strKind_is P w k tk
theorem goodT_mem {l : List (Int × Value)} (g : ∀ e ∈ l, GoodT w e) (k : Str) : k ∈ l.map keyT ↔ ∃ e ∈ l, (strKind P w).is k e.2 = true := by
  rw [List.mem_map]
  exact ⟨fun ⟨e, he, q⟩ => ⟨e, he, (goodT_is (g e he) k).2 q⟩, fun ⟨e, he, q⟩ => ⟨e, he, (goodT_is (g e he) k).1 q⟩⟩
theorem SetS.setOf (R : SetS w h a S n) : h.SetOf (strKind P w) a S n := by
  obtain ⟨o, es, ep, t, r1, r2, r3, g, nd, hm, r4, r5, r6, _⟩ := R
  exact ⟨o, es, ep, t, r1, r2, r3, goodT_elems g, fun k => (hm k).trans (goodT_mem g k), r4, r5, r6⟩
end
section
variable {P : Program} {w : World} {A : Around} {E : Value → Shared → Prop} {s : Shared} {a : Addr} {S : Str → Bool} {n : Nat}
theorem strs_of : ∀ (l : List Value), (∀ v ∈ l, ∃ k tk, v = Value.str k tk) → PyProof.Rows.StrsAre l (l.map fun v => match v with | .str k _ => k | _ => Str.empty)
  | [], _ => .nil
  | v :: l, h => by
    obtain ⟨k, tk, rfl⟩ := h v List.mem_cons_self
    exact .cons k tk (strs_of l fun u hu => h u (List.mem_cons_of_mem _ hu))
open PyProof.Rows in
theorem sorted_setS {Q : Value → Shared → Prop} (R : SetS w s.heap a S n) (hh : A.handled = none) (h64 : n < 64)
    (hend : ∀ s' p (out : Array Value) (c : Nat) (ys xs : List Str), (∀ b o, s.heap.get? b = some o → s'.heap.get? b = some o) → s'.gens = s.gens → s'.os = s.os → s.heap.objs.size ≤ p →
      s'.heap.get? p = some (seqObj "list" out c) → StrsAre out.toList ys → ys.Perm xs → xs.Nodup → sortedS ys = true → (∀ k, k ∈ xs ↔ S k = true) → xs.length = n → Q (.ref p) s') :
    wpAny (model P w) A (call (.builtin "sorted") [.ref a]) Q E s := by
  obtain ⟨o, es, ep, t, at0, hex, dat, g, nod, mem, few, fit, hn, hr, hl⟩ := R
  refine Calls.call_function_entry kind_sorted plain_sorted entry_sorted (args_sorted1 _) ?_
  unfold Builtin.«sorted»
  refine wpAny_bind (m := checkCount "sorted" 1 1 _) (wpAny_pure ?_)
  refine wpAny_bind (collect_set (A := A.in1) hh ⟨o, at0, hex.1, dat⟩ fit few hr hl fun s1 vs k1 hz g1 o1 prm => ?_)
  have hvl : vs.length = n := by rw [prm.length_eq, List.length_map, Array.length_toList]; exact hn
  have hI := strs_of vs fun v hv => by
    obtain ⟨e, he, q⟩ := List.mem_map.mp (prm.mem_iff.mp hv)
    obtain ⟨k, tk, e1, _⟩ := g e he
    exact ⟨k, tk, by rw [← q]; exact e1⟩
  have prk : (vs.map fun v => match v with | .str k _ => k | _ => Str.empty).Perm (es.toList.map keyT) := by
    have q := prm.map fun v => match v with | .str k _ => k | _ => Str.empty
    rw [List.map_map] at q
    exact q
  refine wpAny_bind (wpAny_newList ?_ (by rw [hvl, sizeLine_eq]; omega))
  have hoL : (s1.heap.push (seqObj "list" vs.toArray 0)).get? s1.heap.objs.size = some (seqObj "list" vs.toArray 0) := Heap.get?_push_size _ rfl
  refine wpAny_bind (wpAny_holding (wpAny_call_entry slot_list_sort ⟨_, hoL, rfl⟩ entry_list_sort (list_sort_treeK strKind_oneLt hoL hI.keysOf (fun v₁ v₂ rest e => keyKind_strs (by rw [← e]; exact hI)) (by rw [hvl]; exact h64) fun st' hp hs => ⟨_, rfl, ?_⟩) (args_list_sort _)))
  obtain ⟨ys, a1, a2, a3⟩ := sorted_out_str hI hp hs
  obtain ⟨c, hc⟩ := sortedHeap_at (vs := vs) (out := (arrOf st').map (·.2)) hoL
  have ok : ∀ b u, s.heap.get? b = some u → (sortedHeap (s1.heap.push (seqObj "list" vs.toArray 0)) s1.heap.objs.size vs ((arrOf st').map (·.2))).get? b = some u := fun b u e => by
    have q := k1 b u e
    have lt := Heap.lt_size q
    rw [sortedHeap_old (Nat.ne_of_lt lt) (by rw [size_push']; exact Nat.lt_succ_of_lt lt)]
    exact Heap.get?_push_of_some _ q
  exact wpAny_pure ⟨_, rfl, hend _ s1.heap.objs.size _ c ys (es.toList.map keyT) ok g1 o1 hz hc a1 (a2.trans prk) nod a3 (fun k => (mem k).symm) (by rw [List.length_map, Array.length_toList]; exact hn)⟩

end
end DL

namespace DL
open PySem PySem.Spec PyProof.Rows L2
def SetSO (w : World) (a : Addr) (S : Str → Bool) (n : Nat) : HO := .ext fun h => SetS w h a S n
def sS0 (w : World) (a : Addr) : HO := SetSO w a (fun _ => false) 0
def sSadd (w : World) (a : Addr) (S : Str → Bool) (n : Nat) (k : Str) : HO := SetSO w a (fun j => S j || decide (j = k)) (if S k = true then n else n + 1)
section
variable {X : Cx}
def rSortS (w : World) : List V → Hp → VK → Prop := fun vs H Q => ∃ (a : Addr) (S : Str → Bool) (n : Nat), vs = [V.ref a] ∧ H a = some (SetSO w a S n) ∧ n < 64 ∧
  ∀ (ys xs : List Str) (p : Addr), ys.Perm xs → xs.Nodup → PyProof.Rows.sortedS ys = true → (∀ k, k ∈ xs ↔ S k = true) → xs.length = n → H p = none → Q (.ref p) (upd H p (.lst (ys.map V.str)))
end
section
variable {prog : Program} {w : World} {A : Around} {Z : Result → Shared → Prop} {s : Shared} {elt t0 i0 t1 i1 : Expr} {ifs0 ifs1 : List Expr} {scope : Scope} {pos : Pos} {it acc : Value} {env : Env}
end

section
variable {X : Cx}
def tSc2 (w : World) (wi : TI) (g : TG) (tt : TT) (wi1 : TI) (g1 : TG) (tt1 : TT) (te : TE) (vs vs1 : List Nat) : TE := fun σ H Q => wi σ H fun J B1 => ∀ D, B1 D = none → ∃ W : Nat → Nat → Hp → Prop, (∃ m, W 0 m (upd B1 D (sS0 w D))) ∧ ∀ i m H, W i m H →
  (J.stop i H ∧ Q (.ref D) H) ∨ (J.go i H ∧ ∃ Nx : Hp → Prop, (∀ H', Nx H' → ∃ m', m' < m ∧ W (i + 1) m' H') ∧ ∀ x H', J.yld i H x H' → g x (wipe σ vs) H' fun σ2 B2 => wipe σ2 vs = wipe σ vs ∧ tt σ2 B2 fun b B3 =>
    if b = true then wi1 σ2 B3 fun J1 B4 => ∃ W1 : Nat → Nat → Hp → Prop, (∃ m, W1 0 m B4) ∧ ∀ j k H, W1 j k H →
      (J1.stop j H ∧ Nx H) ∨ (J1.go j H ∧ ∃ Nx1 : Hp → Prop, (∀ H', Nx1 H' → ∃ k', k' < k ∧ W1 (j + 1) k' H') ∧ ∀ x H', J1.yld j H x H' → g1 x (wipe σ2 vs1) H' fun σ3 B5 => wipe σ3 vs1 = wipe σ2 vs1 ∧ tt1 σ3 B5 fun b B6 =>
        if b = true then te σ3 B6 fun y B7 => ∃ (c : Str) (S : Str → Bool) (n : Nat), y = .str c ∧ B7 D = some (SetSO w D S n) ∧ n + 1 < scanBound ∧ Nx1 (upd B7 D (sSadd w D S n c)) else Nx1 B6)
    else Nx B3)
end

end DL

namespace DL
open PySem L2
theorem setSO_noTab {w : World} {a : Addr} {S : Str → Bool} {n : Nat} : NoTab (SetSO w a S n) := by
  refine ⟨fun ps z => (by unfold SetSO at z; cases z), fun c q z => ?_⟩
  unfold SetSO LamX.CodeO at z
  have e := HO.ext.inj z
  obtain ⟨h, hs, hp⟩ := plainH c
  have t : (fun h : Heap => ∃ (oc : Obj) (vs : Array Value) (t : Tok), h.get? c = some oc ∧ oc.data = .fields vs ∧ vs[1]? = some (.str q t)) (h.push { cls := .none, data := .fields #[.none, .str q default] }) := ⟨_, _, default, by rw [← hs]; exact Heap.get?_push_size h rfl, rfl, rfl⟩
  rw [← e] at t
  obtain ⟨o, es, ep, tt, h1, _, h2, _⟩ := t
  rcases Heap.get?_push_cases h1 with ⟨_, rfl⟩ | h1
  · cases h2
  · rw [hp _ _ h1] at h2; cases h2
theorem mem_nubS (l : List Str) (j : Str) : j ∈ nubS l ↔ j ∈ l := by
  have key : ∀ r : List Str, j ∈ nubS r.reverse ↔ j ∈ r := fun r => by
    induction r with
    | nil => exact Iff.rfl
    | cons k r ih =>
      rw [List.reverse_cons, nubS_snoc, List.mem_cons]
      split
      · rename_i h
        rw [ih]
        refine ⟨.inr, ?_⟩
        rintro (rfl | h2)
        · exact ih.mp h
        · exact h2
      · rw [List.mem_append, List.mem_singleton, ih]
        exact Or.comm
  have h := key l.reverse
  rw [List.reverse_reverse, List.mem_reverse] at h
  exact h
section
variable {X : Cx} {an : An} {dr : Option Dr} {ρ : Rho} {elt tg iter tg1 iter1 : Expr} {scope : Scope} {pos p pos' : Pos} {Q : R → Om → Prop} {js js1 : List Nat} {f f1 : TgF}
def EltS (X : Cx) (dr : Option Dr) (scope : Scope) (elt : Expr) (ρ2 : Rho) (N : Str → Prop) : Prop :=
  ∀ an s H C cl fp, WE (XB X scope s H C cl fp) an dr ρ2 [] elt fun r om3 => om3 = [] ∧ ∃ k, r = .v (.str k) ∧ N k
def InS (X : Cx) (dr : Option Dr) (scope : Scope) (tg1 iter1 elt : Expr) (f1 : TgF) (vs1 : List Nat) (ρ2 : Rho) (acc : List Str) (N : List Str → Prop) : Prop :=
  ∀ an s H C cl fp, WI (XB X scope s H C cl fp) an dr ρ2 [] tg1 iter1 fun ds1 om2 => om2 = [] ∧ ∃ P1 : Nat → List Str → Prop, P1 0 acc ∧ (∀ j d acc, ds1[j]? = some d → P1 j acc → acc.length ≤ 1000 ∧ f1 d (wipeR ρ2 vs1) fun ρ3 =>
    EltS X dr scope elt ρ3 fun k => P1 (j + 1) (acc ++ [k])) ∧ ∀ acc, P1 ds1.length acc → N acc
structure SetSt (X : Cx) (an : An) (dr : Option Dr) (D0 : Addr) (G1 : Hp) (acc : List Str) (G2 : Hp) (S : Str → Bool) (H : Hp) : Prop where
  mem : ∀ j, S j = decide (j ∈ acc)
  set : H D0 = some (SetSO X.w D0 S (nubS acc).length)
  gD : G2 D0 = none
  good : Good X.K an dr [] [] G2 H
  grow : Grow G1 [] G2 []
theorem setSO_gD {D0 : Addr} {G2 G5 H H5 : Hp} {S : Str → Bool} {n : Nat} (g5 : Good X.K ⟨G2, strip H, false, []⟩ dr [] [] G5 H5) (hs : H D0 = some (SetSO X.w D0 S n)) (gD : G2 D0 = none) : G5 D0 = none :=
  (g5.a3 D0 (by show strip H D0 ≠ none; rw [strip_of hs setSO_noTab.1]; exact fun z => nomatch z) gD).resolve_right fun ⟨o, z, im⟩ => by
    have z : strip H D0 = some o := z
    rw [strip_of hs setSO_noTab.1] at z
    cases z
    rcases im with ⟨xs, z⟩ | ⟨c, q, z⟩
    · unfold SetSO at z; cases z
    · exact setSO_noTab.2 c q z
theorem SetSt.add {D0 : Addr} {G1 G2 G5 H H5 : Hp} {acc : List Str} {S : Str → Bool} {c : Str} (s : SetSt X an dr D0 G1 acc G2 S H) (z0 : an.H0 D0 = none) (zo : Off dr D0) (g5 : Good X.K ⟨G2, strip H, false, []⟩ dr [] [] G5 H5) (gr5 : Grow G2 [] G5 []) (small : acc.length ≤ 1000) :
    H5 D0 = some (SetSO X.w D0 S (nubS acc).length) ∧ (nubS acc).length + 1 < scanBound ∧ SetSt X an dr D0 G1 (acc ++ [c]) G5 (fun j => S j || decide (j = c)) (upd H5 D0 (sSadd X.w D0 S (nubS acc).length c)) := by
  have set5 : H5 D0 = some (SetSO X.w D0 S (nubS acc).length) := g5.a2 D0 _ (strip_of s.set setSO_noTab.1) zo
  have gD5 : G5 D0 = none := setSO_gD g5 s.set s.gD
  refine ⟨set5, Nat.lt_of_le_of_lt (Nat.succ_le_succ (nubS_le acc)) (Nat.lt_of_le_of_lt (by omega : acc.length + 1 ≤ 1001) (by decide)), ⟨fun j => ?_, ?_, gD5, ?_, s.grow.trans gr5⟩⟩
  · show (S j || decide (j = c)) = _
    rw [s.mem j, Bool.eq_iff_iff, Bool.or_eq_true, decide_eq_true_eq, decide_eq_true_eq, decide_eq_true_eq, List.mem_append, List.mem_singleton]
  · rw [upd_same]
    unfold sSadd
    have e : (if S c = true then (nubS acc).length else (nubS acc).length + 1) = (nubS (acc ++ [c])).length := by
      rw [nubS_snoc, s.mem c]
      by_cases q : c ∈ acc
      · rw [if_pos (decide_eq_true q), if_pos ((mem_nubS acc c).mpr q)]
      · rw [if_neg (by simp [q]), if_neg (fun z => q ((mem_nubS acc c).mp z)), List.length_append]
        rfl
    rw [e]
  · exact (s.good.call g5.frm).junkW gD5 z0 zo fun u hu => by rw [set5] at hu; cases hu; exact setSO_noTab
end
end DL

namespace DL
open PySem PySem.Spec PyProof.Rows L2
section
variable {X : Cx}
def tDcT (wi : TI) (g : TG) (tt : TT) (tk tv : TE) (vs : List Nat) : TE := fun σ H Q => wi σ H fun J B1 => ∀ D, B1 D = none → ∃ W : Nat → Nat → Hp → Prop, (∃ m, W 0 m (upd B1 D (.dT []))) ∧ ∀ i m H, W i m H →
  (J.stop i H ∧ Q (.ref D) H) ∨ (J.go i H ∧ ∃ Nx : Hp → Prop, (∀ H', Nx H' → ∃ m', m' < m ∧ W (i + 1) m' H') ∧ ∀ x H', J.yld i H x H' → g x (wipe σ vs) H' fun σ2 B2 => wipe σ2 vs = wipe σ vs ∧ tt σ2 B2 fun b B3 =>
    if b = true then tk σ2 B3 fun y B4 => tv σ2 B4 fun z B5 => ∃ (kvs : List (List Key × V)) (k : List Key) (b : Addr), y = .ref b ∧ B5 b = some (.tup (k.map kV)) ∧ B5 D = some (.dT kvs) ∧ kvs.length < sizeLine ∧ Nx (upd B5 D (.dT (putK kvs k z))) else Nx B3)
end
def ItiT (d : Addr) (o : Obj) (kvs : List (List Key × V)) : It :=
  ⟨fun i H => H d = some (.frz o (.dT kvs)) ∧ i < kvs.length, fun i H x H' => ∃ (T : Addr) (k : List Key) (v : V) (q : Addr), kvs[i]? = some (k, v) ∧ x = .ref T ∧ H T = none ∧ H q = some (.tup (k.map kV)) ∧ H' = upd H T (.tup [.ref q, v]), fun i H => H d = some (.frz o (.dT kvs)) ∧ kvs.length ≤ i⟩
section
variable {P : Program} {w : World} {K : PySem.W.Frag} {d : Addr} {o : Obj} {es : Array DictEntry} {ep : Nat}
end
def iItemsT (td : TE) : TI := fun σ H R => td σ H fun x H1 => ∃ d o kvs, x = .ref d ∧ H1 d = some (.frz o (.dT kvs)) ∧ R (ItiT d o kvs) H1
end DL

namespace DL
open PySem L2
def forB {σ : Type} : List D → σ → (D → σ → (σ → Prop) → (σ → Prop) → Prop) → (σ → Prop) → Prop
  | [], s, _, K => K s
  | d :: ds, s, b, K => b d s (fun s' => forB ds s' b K) K
theorem forB_at {σ : Type} : ∀ {ds : List D} {i : Nat} {d : D} {s : σ} {b : D → σ → (σ → Prop) → (σ → Prop) → Prop} {K : σ → Prop}, ds[i]? = some d → forB (ds.drop i) s b K → b d s (fun s' => forB (ds.drop (i + 1)) s' b K) K
  | [], i, d, s, b, K, e, _ => by simp at e
  | x :: ds, 0, d, s, b, K, e, h => by
    simp at e
    subst e
    exact h
  | x :: ds, i + 1, d, s, b, K, e, h => forB_at (ds := ds) (i := i) (by simpa using e) h
section
variable {X : Cx} {an : An} {dr : Option Dr} {ρ : Rho} {om : Om} {E : Ed}
end
section
variable {X : Cx} {an : An} {dr : Option Dr} {ρ : Rho} {om : Om} {e elt c kx vx tg iter : Expr} {es ifs : List Expr} {pos p : Pos} {Q : R → Om → Prop} {scope : Scope} {js : List Nat} {f : TgF}
end
def keyTS (d : D) (K : List Key → Prop) : Prop := match d with
  | .tup ds => ∃ ks : List Key, ds = ks.map keyDat ∧ ks ≠ [] ∧ K ks
  | _ => False
theorem isL_keyDat {K : PySem.W.Frag} {G : Hp} : ∀ {ks : List Key} {vs : List V}, IsL K G vs (ks.map keyDat) → vs = ks.map kV
  | [], _, .nil => rfl
  | k :: ks, _, .cons h t => by rw [keyDat_is h, isL_keyDat t]; rfl
def ixT (a i : D) (K : D → Prop) : Prop := match a with
  | .dit kds => keyTS i fun ks => ∃ d, valE kds ks = some d ∧ K d
  | _ => False
def inDT (i a : D) (K : Bool → Prop) : Prop := match a with
  | .dit kds => keyTS i fun ks => K (valE kds ks).isSome
  | _ => False
def dgetS (a k d : D) (K : D → Prop) : Prop := match a with
  | .dic kds => keyS k fun k => K ((valE kds k).getD d)
  | .dit kds => keyTS k fun k => K ((valE kds k).getD d)
  | _ => False
def dputT (a i v : D) (K : D → Prop) : Prop := match a with
  | .dit kds => keyTS i fun ks => kds.length < sizeLine ∧ K (.dit (putE kds ks v))
  | _ => False
section
variable {X : Cx} {an : An} {dr : Option Dr} {ρ : Rho} {om : Om} {e e2 o i : Expr} {es : List Expr} {pos p apos cpos : Pos} {Q : R → Om → Prop} {E : Ed}
def isDict2 : D → Bool
  | .dic _ => true | .dit _ => true | _ => false
end
end DL

namespace DL
open PySem L2
theorem Good.tup {K : PySem.W.Frag} {an : An} {dr : Option Dr} {om : Om} {τ : List Addr} {G H : Hp} {q : Addr} {xs : List V} (g : Good K an dr om τ G H) (h : H q = some (.tup xs)) : ∃ G', Good K an dr om τ G' H ∧ Ex G G' ∧ G' q = some (.tup xs) := by
  cases e : G q with
  | some o =>
    have := g.ex q o e
    rw [h] at this
    cases this
    exact ⟨G, g, Ex.refl G, e⟩
  | none =>
    have zo : Off dr q := fun y hy => by
      obtain ⟨⟨gr, ce, re, tu, h1, h2, h3⟩, _⟩ := g.drg y hy
      exact ⟨fun z => (by rw [z, h1] at h; cases h), fun z => (by rw [z, h2] at h; cases h), fun z => (by rw [z, h3] at h; cases h)⟩
    have ex : Ex G (upd G q (.tup xs)) := Ex.new e
    refine ⟨upd G q (.tup xs), ⟨fun a o ha => ?_, g.len, g.nd, fun k p d h1 h2 => ?_, fun y hy => ?_, g.a1.trans ex, g.a2, fun a h1 h2 => ?_, g.a4, fun a u ha => ?_, g.nt0, g.ti⟩, ex, upd_same⟩
    · by_cases z : a = q
      · rw [z, upd_same] at ha; cases ha; rw [z]; exact h
      · rw [upd_ne z] at ha; exact g.ex a o ha
    · obtain ⟨e1, e2, e3, vs, e4, e5⟩ := g.own k p d h1 h2
      have np : p ≠ q := fun z => by
        rw [z, h] at e4
        cases e4
        exact e5.notTup (.inl ⟨_, rfl⟩)
      exact ⟨by rw [upd_ne np]; exact e1, e2, e3, vs, e4, e5.mono ex⟩
    · obtain ⟨h1, h4, h5, h6, h7⟩ := g.drg y hy
      obtain ⟨n1, n2, n3⟩ := zo y hy
      exact ⟨h1, by rw [upd_ne n1.symm]; exact h4, by rw [upd_ne n2.symm]; exact h5, by rw [upd_ne n3.symm]; exact h6, h7⟩
    · by_cases z : a = q
      · cases e0 : an.H0 a with
        | none => exact absurd e0 h1
        | some o =>
          have := g.a2 a o e0 (z ▸ zo)
          rw [z, h] at this
          cases this
          exact .inr ⟨_, rfl, .inl ⟨xs, rfl⟩⟩
      · rw [upd_ne z]; exact g.a3 a h1 h2
    · by_cases z : a = q
      · rw [z, upd_same] at ha; cases ha; intro _ z; cases z
      · rw [upd_ne z] at ha; exact g.gt a u ha
def itemsDT (kds : List (List Key × D)) : List D := kds.map fun kv => .tup [.tup (kv.1.map keyDat), kv.2]
theorem isL_keys_mk {K : PySem.W.Frag} {G : Hp} : ∀ ks : List Key, IsL K G (ks.map kV) (ks.map keyDat)
  | [] => .nil
  | .inl n :: ks => .cons (.int n) (isL_keys_mk ks)
  | .inr s :: ks => .cons (.str s) (isL_keys_mk ks)
def itemsTS (d : D) (K : List D → Prop) : Prop := match d with
  | .dit kds => kds.length ≤ sizeLine ∧ K (itemsDT kds)
  | _ => False
section
variable {X : Cx} {an : An} {dr : Option Dr} {ρ : Rho} {om : Om} {e e2 o i : Expr} {es : List Expr} {pos p apos cpos : Pos} {Q : R → Om → Prop} {QI : List D → Om → Prop} {E : Ed}
end
section
variable {X : Cx} {an : An} {dr : Option Dr} {ρ : Rho} {om : Om} {e elt c kx vx tg iter : Expr} {es ifs : List Expr} {pos p : Pos} {Q : R → Om → Prop} {scope : Scope} {js : List Nat} {f : TgF}
def EltT (X : Cx) (an : An) (dr : Option Dr) (scope : Scope) (kx vx : Expr) (ρ2 : Rho) (om : Om) (acc : List (List Key × D)) (N : List (List Key × D) → Prop) : Prop :=
  ∀ s H C cl fp, WE (XB X scope s H C cl fp) an dr ρ2 (om ++ [some (.dit acc)]) kx fun rk om2 => om2 = om ++ [some (.dit acc)] ∧ ∃ key : List Key, (rk = .v (.tup (key.map keyDat)) ∧ key ≠ []) ∧ ∀ s H C cl fp, WE (XB X scope s H C cl fp) an dr ρ2 (om ++ [some (.dit acc)]) vx fun r om3 => om3 = om ++ [some (.dit acc)] ∧ ∃ d, r = .v d ∧ acc.length < sizeLine ∧ N (putE acc key d)
end
section
variable {X : Cx} {an : An} {dr : Option Dr} {ρ : Rho} {om : Om} {a b c o1 i1 o2 i2 : Expr} {pos : Pos}
end
end DL

namespace DL
open PySem PySem.Spec PyProof.Rows L2
abbrev Tri := Str × Str × Int
def key3 (t : Tri) : List (Int ⊕ List Nat) := [.inr t.1.cps.toList, .inr t.2.1.cps.toList, .inl t.2.2]
def le3 (a b : Tri) : Prop := (listOrd itemOrd).kle (key3 a) (key3 b)
def tri (t : Tri) : D := .tup [.str t.1, .str t.2.1, .int t.2.2]
def sh3 : Nat → Bool := fun i => decide (i < 2)
def rSort3 (K : PySem.W.Frag) : List V → Hp → VK → Prop := fun vs H Q => ∃ (a : Addr) (xs : List V) (k : V → Tri), vs = [V.ref a] ∧ SqL K H a xs ∧ (∀ x ∈ xs, ∃ t, x = V.ref t ∧ H t = some (.tup [.str (k x).1, .str (k x).2.1, .int (k x).2.2])) ∧
  ∀ ys p, ys.Perm xs → ys.Pairwise (fun x y => le3 (k x) (k y)) → H p = none → Q (.ref p) (upd H p (.lst ys))
section
variable {X : Cx}
end
end DL

namespace DL
open PySem L2
section
variable {X : Cx} {an : An} {dr : Option Dr} {G : Hp}
def sort3F : Wp := fun ds K => match ds with
  | [.lst xs] => ∃ ts : List Tri, xs = ts.map tri ∧ ∀ us : List Tri, us.Perm ts → us.Pairwise le3 → K (.lst (us.map tri))
  | _ => False
def kOf (H : Hp) (x : V) : Tri := match x with
  | .ref b => match H b with
    | some (.tup [.str p, .str q, .int c]) => (p, q, c)
    | _ => (Str.empty, Str.empty, 0)
  | _ => (Str.empty, Str.empty, 0)
theorem tri_at {K : PySem.W.Frag} {H : Hp} (ex : Ex G H) {x : V} {t : Tri} (h : Is K G x (tri t)) : kOf H x = t ∧ ∃ b, x = .ref b ∧ G b = some (.tup [.str t.1, .str t.2.1, .int t.2.2]) := by
  cases h with
  | @tup a xs _ h1 h2 =>
    cases h2 with
    | cons i1 h2 =>
      cases h2 with
      | cons i2 h2 =>
        cases h2 with
        | cons i3 h2 =>
          cases h2
          rw [i1.str_inv, i2.str_inv, i3.int_inv] at h1
          refine ⟨?_, _, rfl, h1⟩
          have := ex _ _ h1
          show (match H a with | some (.tup [.str p, .str q, .int c]) => (p, q, c) | _ => (Str.empty, Str.empty, 0)) = t
          rw [this]
theorem tris_at {K : PySem.W.Frag} {H : Hp} (ex : Ex G H) : ∀ {xs : List V} {ts : List Tri}, IsL K G xs (ts.map tri) → xs.map (kOf H) = ts ∧ ∀ x ∈ xs, ∃ b, x = .ref b ∧ G b = some (.tup [.str (kOf H x).1, .str (kOf H x).2.1, .int (kOf H x).2.2])
  | _, [], .nil => ⟨rfl, fun x h => nomatch h⟩
  | _, t :: ts, .cons h q => by
    obtain ⟨e1, b, e2, e3⟩ := tri_at ex h
    obtain ⟨r1, r2⟩ := tris_at ex q
    refine ⟨by rw [List.map_cons, e1, r1], fun x hx => ?_⟩
    rcases List.mem_cons.mp hx with rfl | hx
    · exact ⟨b, e2, by rw [e1]; exact e3⟩
    · exact r2 x hx
theorem tris_is {K : PySem.W.Frag} {k : V → Tri} : ∀ {ys : List V}, (∀ x ∈ ys, ∃ b, x = .ref b ∧ G b = some (.tup [.str (k x).1, .str (k x).2.1, .int (k x).2.2])) → IsL K G ys ((ys.map k).map tri)
  | [], _ => .nil
  | y :: ys, h => by
    obtain ⟨b, e, hb⟩ := h y List.mem_cons_self
    refine .cons ?_ (tris_is fun x hx => h x (List.mem_cons_of_mem _ hx))
    rw [e] at hb ⊢
    exact .tup hb (.cons (.str _) (.cons (.str _) (.cons (.int _) .nil)))
def strF : Wp := fun ds K => match ds with
  | [.str x] => K (.str x)
  | _ => False
end
section
variable {X : Cx} {an : An} {dr : Option Dr} {ρ : Rho} {om : Om} {e : Expr} {p apos cpos pos : Pos} {Q : R → Om → Prop}
end
end DL

namespace DL
open PySem L2
section
variable {X : Cx} {an : An} {dr : Option Dr} {ρ : Rho} {om : Om} {Q : R → Om → Prop} {E : Ed} {e o i a b c : Expr} {pos : Pos}
theorem hu1_of {n : Nat} (h : n + 65 < cLine) : n + 1 < cLine := by omega
def strS (d : D) (K : Str → Prop) : Prop := match d with
  | .str x => K x
  | _ => False
def ditS (d : D) (K : Prop) : Prop := match d with
  | .dit _ => K
  | _ => False
def anyDS (d : D) (K : Prop) : Prop := isDict2 d = true ∧ K
end
section
variable {X : Cx}
def minLF : Wp := fun ds K => match ds with
  | [.lst xs] => ∃ ns : List Int, xs = ns.map D.int ∧ 0 < ns.length ∧ ∀ m, m ∈ ns → (∀ y, y ∈ ns → m ≤ y) → K (.int m)
  | _ => False
end
end DL

namespace DL
open PySem L2
section
variable {X : Cx} {dr : Option Dr}
end
end DL

namespace DL
open PySem PySem.Spec PyProof.Rows L2
def forkS (d : D) (A B : D → Prop) : Prop := match d with
  | .own c => A c
  | d => B d
def frzS (d : D) (K : D → Prop) : Prop := match d with
  | .own (.lst xs) => K (.lst xs)
  | .own _ => False
  | d => K d
theorem Frm.close {dr : Option Dr} {G H G' H' : Hp} {p : Addr} {o : HO} (f : Frm dr G H G' H') (h0 : strip H p = none) (h1 : G' p = none) (h2 : Off dr p) (h3 : H' p = some o) (nt : NT o) : Frm dr G H (upd G' p o) H' where
  e1 := f.e1.trans (Ex.new h1)
  e2 := fun a u h => by
    by_cases z : a = p
    · subst z; rw [upd_same] at h; cases h; exact h3
    · rw [upd_ne z] at h; exact f.e2 a u h
  dg := fun y hy => by
    obtain ⟨q1, h4, h5, h6, h7⟩ := f.dg y hy
    obtain ⟨n1, n2, n3⟩ := h2 y hy
    exact ⟨q1, by rw [upd_ne n1.symm]; exact h4, by rw [upd_ne n2.symm]; exact h5, by rw [upd_ne n3.symm]; exact h6, h7⟩
  kk := f.kk
  ff := fun a u hu nu hn => by
    by_cases z : a = p
    · subst z; rw [strip_of hu nu] at h0; cases h0
    · rw [upd_ne z]; exact f.ff a u hu nu hn
  gt := fun a u h => by
    by_cases z : a = p
    · subst z; rw [upd_same] at h; cases h; exact nt
    · rw [upd_ne z] at h; exact f.gt a u h
def smulS (x y : D) (K : D → Prop) : Prop := match x, y with
  | .str a, .int j => (0 ≤ j ∧ j ≤ 1000 ∧ a.length ≤ 1000) ∧ K (.str (Txt.mul a j))
  | _, _ => False
theorem smul_inv {x y : D} {K : D → Prop} (h : smulS x y K) : ∃ a j, x = .str a ∧ y = .int j ∧ (0 ≤ j ∧ j ≤ 1000 ∧ a.length ≤ 1000) ∧ K (.str (Txt.mul a j)) := by
  unfold smulS at h
  split at h
  · exact ⟨_, _, rfl, rfl, h⟩
  · exact h.elim
theorem smulS_imp {x y : D} {K K' : D → Prop} (h : smulS x y K) (i : ∀ d, K d → K' d) : smulS x y K' := by
  obtain ⟨a, j, rfl, rfl, h1, h2⟩ := smul_inv h
  exact ⟨h1, i _ h2⟩
def rRepS : R2 := fun x y H Q => ∃ (a : Str) (j : Int), x = .str a ∧ y = .int j ∧ 0 ≤ j ∧ j ≤ 1000 ∧ a.length ≤ 1000 ∧ Q (.str (Txt.mul a j)) H
theorem mulOk_of {a : Str} {j : Int} (h0 : 0 ≤ j) (h1 : j ≤ 1000) (h2 : a.length ≤ 1000) : MulOk a j := by
  refine ⟨?_, fun z _ => ?_, fun z _ => ?_⟩
  · rw [decide_eq_false (by omega), decide_eq_false (by omega)]; rfl
  · have : (1000 : Int) ≤ (2 ^ 63 - 1) / j := by
      refine Int.le_ediv_of_mul_le (by omega) ?_
      calc 1000 * j ≤ 1000 * 1000 := Int.mul_le_mul_of_nonneg_left h1 (by decide)
        _ ≤ 2 ^ 63 - 1 := by decide
    omega
  · have : a.length * j.toNat ≤ 1000 * 1000 := Nat.mul_le_mul h2 (by omega)
    unfold Builtin.Str.tooLong
    refine decide_eq_false ?_
    have : (1000 * 1000 : Nat) ≤ sizeLine := by decide
    omega
theorem op_repS {X : Cx} : OpR X (binaryOp .Mult) rRepS := by
  rintro pins s σ H x y v u Q I rx ry ⟨a, j, rfl, rfl, h0, h1, h2, q⟩
  obtain ⟨t, rfl⟩ := rx
  obtain ⟨t2, rfl⟩ := ry
  exact SB.mul (mulOk_of h0 h1 h2) fun t' k => ⟨.str (Txt.mul a j), H, I.tok k, ⟨t', rfl⟩, q⟩
section
variable {X : Cx} {an : An} {dr : Option Dr} {ρ : Rho} {om : Om} {e e2 o ix : Expr} {es : List Expr} {sts : List Stmt} {pos p apos pos' p2 : Pos} {Q : R → Om → Prop} {x f m : Str} {ps : List Str} {W : Wp} {k j i : Nat} {E : Ed}
theorem we_smulS {a b : Expr} (h : WE X an dr ρ om a fun ra om1 => WE X an dr ρ om1 b fun rb om2 => smulS (vw om2 ra) (vw om2 rb) fun d => Q (.v d) om2) : WE X an dr ρ om (.BinOp a .Mult b pos) Q :=
  peI (pe_op op_repS (pe_u (an := an) (dr := dr)) (pe_u (an := an) (dr := dr))) fun σ H K' ⟨τ, G, g, n, k⟩ =>
    uE_of h g n fun v r om1 τ1 G1 H1 h1 w g1 gr1 n1 => uE_of w g1 n1 fun v2 r2 om2 τ2 G2 H2 h2 q g2 gr2 n2 => by
      obtain ⟨xs, j, e1, e2, ⟨c1, c2, c3⟩, q⟩ := smul_inv q
      obtain rfl := vw_str g2 (h1.mono gr2) e1
      obtain rfl := vw_int g2 h2 e2
      exact ⟨xs, j, rfl, rfl, c1, c2, c3, k _ _ om2 τ2 G2 H2 (.v (.str _)) q g2 (gr1.trans gr2)⟩
end
end DL

namespace DL
open PySem PySem.Spec PyProof.Rows L2
section
variable {X : Cx} {an : An} {dr : Option Dr} {ρ : Rho} {om : Om} {e elt c kx vx tg iter : Expr} {es ifs : List Expr} {pos p : Pos} {Q : R → Om → Prop} {scope : Scope} {js : List Nat} {f : TgF}
end
def An.plus (an : An) (ts : List (Nat × Addr)) : An := ⟨an.G0, an.H0, an.ow, ts ++ an.ties⟩
section
variable {K : PySem.W.Frag} {an : An} {dr : Option Dr} {om : Om} {τ : List Addr} {G H : Hp} {ts : List (Nat × Addr)}
theorem Good.plus (g : Good K an dr om τ G H) (h : ∀ t ∈ ts, τ[t.1]? = some t.2) : Good K (an.plus ts) dr om τ G H where
  ex := g.ex
  len := g.len
  nd := g.nd
  own := g.own
  drg := g.drg
  a1 := g.a1
  a2 := g.a2
  a3 := g.a3
  a4 := g.a4
  gt := g.gt
  nt0 := g.nt0
  ti := fun t ht => by
    rcases List.mem_append.mp ht with ht | ht
    · exact h t ht
    · exact g.ti t ht
theorem Good.unplus (g : Good K (an.plus ts) dr om τ G H) : Good K an dr om τ G H where
  ex := g.ex
  len := g.len
  nd := g.nd
  own := g.own
  drg := g.drg
  a1 := g.a1
  a2 := g.a2
  a3 := g.a3
  a4 := g.a4
  gt := g.gt
  nt0 := g.nt0
  ti := fun t ht => g.ti t (List.mem_append_right _ ht)
theorem Left.unplus {n : Nat} {P : Rho → Om → Prop} {σ' : L2.St} {H' : Hp} (h : Left K (an.plus ts) dr G τ n P σ' H') : Left K an dr G τ n P σ' H' := by
  obtain ⟨ρ', om', τ', G', p, g, r⟩ := h
  exact ⟨ρ', om', τ', G', p, g.unplus, r⟩
theorem LeftV.unplus {P : D → Prop} {v : V} {H' : Hp} (h : LeftV K (an.plus ts) dr G τ P v H') : LeftV K an dr G τ P v H' := by
  obtain ⟨d, om', τ', G', p, i, g, r⟩ := h
  exact ⟨d, om', τ', G', p, i, g.unplus, r⟩
theorem Left.plus {n : Nat} {P : Rho → Om → Prop} {σ' : L2.St} {H' : Hp} (ht : ∀ t ∈ ts, τ[t.1]? = some t.2) (h : Left K an dr G τ n P σ' H') : Left K (an.plus ts) dr G τ n P σ' H' := by
  obtain ⟨ρ', om', τ', G', p, g, e, gr, r⟩ := h
  exact ⟨ρ', om', τ', G', p, g.plus fun t h => gr.pre _ _ (ht t h), e, gr, r⟩
theorem LeftV.plus {P : D → Prop} {v : V} {H' : Hp} (ht : ∀ t ∈ ts, τ[t.1]? = some t.2) (h : LeftV K an dr G τ P v H') : LeftV K (an.plus ts) dr G τ P v H' := by
  obtain ⟨d, om', τ', G', p, i, g, gr⟩ := h
  exact ⟨d, om', τ', G', p, i, g.plus fun t h => gr.pre _ _ (ht t h), gr⟩
end
section
variable {X : Cx} {an : An} {dr : Option Dr} {ρ ρ0 : Rho} {om : Om} {e o : Expr} {es : List Expr} {sts : List Stmt} {pos p apos cpos : Pos} {Q : R → Om → Prop} {E : Ed} {ts : List (Nat × Addr)}
theorem WSs.plus (h : WSs X an dr ρ0 om sts E) (w : ∀ (i : Nat) (r : R), ρ0[i]? = some (some r) → ρ[i]? = some (some r)) (l : ρ0.length = ρ.length) : WSs X (an.plus ts) dr ρ om sts E :=
  pssI h fun Z σ H ⟨τ, G, g, n, hl, h1, h2, h3, h4⟩ =>
    have ht : ∀ t ∈ ts, τ[t.1]? = some t.2 := fun t q => g.ti t (List.mem_append_left _ q)
    ⟨τ, G, g.unplus, fun i r q => n i r (w i r q), hl.trans l.symm, fun _ _ q => h1 _ _ (l ▸ q.plus ht), fun _ _ q => h2 _ _ (q.plus ht), fun _ _ q => h3 _ _ (l ▸ q.plus ht), fun _ _ q => h4 _ _ (l ▸ q.plus ht)⟩
def uSSa (X : Cx) (dr : Option Dr) (sts : List Stmt) : TS := fun Z σ H => ∃ an ρ om E, WSs X an dr ρ om sts E ∧ tDS X.K an dr ρ om E Z σ H
def ptrD (pf : Nat → Addr) : R → D
  | .v d => d
  | .o k => .obj (pf k)
def tiesOf (pf : Nat → Addr) : List R → List (Nat × Addr)
  | [] => []
  | .v _ :: rs => tiesOf pf rs
  | .o k :: rs => (k, pf k) :: tiesOf pf rs
theorem ptr_isL {K : PySem.W.Frag} {G : Hp} {τ : List Addr} : ∀ {vs : List V} {rs : List R}, Paired (IsR K G τ) vs rs → IsL K G vs (rs.map (ptrD fun k => (τ[k]?).getD 0)) ∧ ∀ t ∈ tiesOf (fun k => (τ[k]?).getD 0) rs, τ[t.1]? = some t.2
  | _, _, .nil => ⟨.nil, fun t h => nomatch h⟩
  | _, _, .cons h q => by
    obtain ⟨h1, h2⟩ := ptr_isL q
    cases h with
    | v i => exact ⟨.cons i h1, h2⟩
    | @o a k ha =>
      refine ⟨.cons ?_ h1, fun t ht => ?_⟩
      · show Is K G (.ref a) (.obj ((τ[k]?).getD 0))
        rw [ha]; exact .obj a
      · rcases List.mem_cons.mp ht with rfl | ht
        · show τ[k]? = some ((τ[k]?).getD 0)
          rw [ha]; rfl
        · exact h2 t ht
def tPeek (t : TE) : TE := fun σ H Q => t σ H Q ∨ ∃ d u, H d = some u ∧ Mut (some u) ∧ ∀ od, t σ (upd H d (.frz od u)) fun v H' => H' d = some (.frz od u) ∧ Q v (upd H' d u)
def ItL (an : An) (om : Om) (kt : Nat) (x c : D) : Prop := (x = .non ∧ c = .non) ∨ ∃ k p xs, x = .obj p ∧ (k, p) ∈ an.ties ∧ om[k]? = some (some c) ∧ c = .lst xs ∧ k ≠ kt
def ItD (an : An) (om : Om) (kt : Nat) (x c : D) : Prop := (x = .non ∧ c = .non) ∨ ∃ k p xs, x = .obj p ∧ (k, p) ∈ an.ties ∧ om[k]? = some (some c) ∧ c = .dic xs ∧ k ≠ kt
theorem we_clearL (h : WE X an dr ρ om o fun ro om1 => ∃ k ds, ro = .o k ∧ om1[k]? = some (some (.lst ds)) ∧ Q (.v .non) (om1.set k (some (.lst [])))) (hbase : attributeBase o "clear" X.env (eval o X.env) = eval o X.env := by rfl) (hline : (apos.endLine == cpos.line) = true := by rfl) : WE X an dr ρ om (.Call (.Attribute o "clear" apos) [] [] cpos) Q :=
  peI (pe_bm0 PySem.F.plainAttrs_list PySem.F.slot_list_clear PySem.F.type_list_clear mt_clear (pe_u (an := an) (dr := dr)) hbase hline) fun σ H K' ⟨τ, G, g, n, kk⟩ =>
    uE_of h g n fun v r om1 τ1 G1 H1 h1 w g1 gr1 n1 => by
      obtain ⟨k, ds, rfl, hk, q⟩ := w
      cases h1 with
      | @o a _ h1 =>
        obtain ⟨_, _, _, _, e1, vs, rfl, _⟩ := g1.own k a _ h1 hk
        exact ⟨tyV_l e1, a, vs, rfl, rfl, e1, kk _ _ _ τ1 G1 _ (.v .non) q (g1.write h1 hk .nil) gr1⟩
end
end DL

namespace DL
open PySem PySem.Spec PyProof.Rows L2
def unO : D → D
  | .own c => c
  | d => d
theorem if_t {A B : Prop} (h : A) : if (true = true) then A else B := by rw [if_pos rfl]; exact h
theorem if_f {A B : Prop} (h : B) : if (false = true) then A else B := by rw [if_neg (by decide)]; exact h
def nolS (d : D) (A : Prop) : Prop := (d = .non ∨ ∃ xs, d = .own (.lst xs)) ∧ A
def nodS (d : D) (A : Prop) : Prop := (d = .non ∨ ∃ kv, d = .own (.dic kv)) ∧ A
theorem mem_ties {pf : Nat → Addr} {k : Nat} : ∀ {rs : List R}, R.o k ∈ rs → (k, pf k) ∈ tiesOf pf rs
  | [], h => nomatch h
  | .v d :: rs, h => by
    rcases List.mem_cons.mp h with e | h
    · cases e
    · exact mem_ties (rs := rs) h
  | .o j :: rs, h => by
    rcases List.mem_cons.mp h with e | h
    · cases e; exact List.mem_cons_self
    · exact List.mem_cons_of_mem _ (mem_ties (rs := rs) h)
def ScrOm (om : Om) (rs : List R) (om' : Om) : Prop := (∃ ext, om' = om ++ ext) ∧ ∀ k, R.o k ∈ rs → om.length ≤ k ∧ ((∃ xs, om'[k]? = some (some (.lst xs))) ∨ ∃ kv, om'[k]? = some (some (.dic kv)))
theorem ScrOm.set {om om' : Om} {rs : List R} (h : ScrOm om rs om') {k : Nat} {c : D} (hk : R.o k ∈ rs) (hc : (∃ xs, c = .lst xs) ∨ ∃ kv, c = .dic kv) : ScrOm om rs (om'.set k (some c)) := by
  obtain ⟨⟨ext, rfl⟩, h⟩ := h
  have lk := (h k hk).1
  refine ⟨⟨ext.set (k - om.length) (some c), by rw [List.set_append_right _ _ lk]⟩, fun j hj => ⟨(h j hj).1, ?_⟩⟩
  by_cases e : k = j
  · subst e
    have lt : k < (om ++ ext).length := by
      rcases (h k hk).2 with ⟨_, z⟩ | ⟨_, z⟩ <;> exact (List.getElem?_eq_some_iff.mp z).1
    rw [List.getElem?_set_self lt]
    rcases hc with ⟨xs, rfl⟩ | ⟨kv, rfl⟩
    · exact .inl ⟨xs, rfl⟩
    · exact .inr ⟨kv, rfl⟩
  · rw [List.getElem?_set_ne e]; exact (h j hj).2
section
variable {X : Cx} {an : An} {dr : Option Dr} {ρ : Rho} {om : Om} {sts : List Stmt} {E : Ed} {Wf Wg : Wp} {f g nL nt ns no : Str} {ps1 ps2 : List Str} {k1 k2 j0 iL it ish io : Nat} {j : Nat} {dL : D} {Z : D → Prop}
  {pt pf pL1 pc1 pg pL2 pc2 pl pa ps pr pt2 pcr pb po pt3 po2 pk pcmp po3 pat pcc pe pif pfor : Pos}
end
def frzE (d : D) (K : D → Prop) : Prop := match d with
  | .own (.lst xs) => K (.lst xs)
  | .own (.dic kv) => K (.dic kv)
  | .own _ => False
  | d => K d
section
variable {X : Cx} {an : An} {dr : Option Dr} {ρ : Rho} {om : Om} {e : Expr} {es : List Expr} {pos p : Pos} {Q : R → Om → Prop} {x : Str} {ps : List Str} {W : Wp} {k j : Nat}
end
def eqD0S (d : D) (K : Bool → Prop) : Prop := match d with
  | .dic [] => K true
  | _ => False
def rEqE : R2 := fun x y H Q => ∃ a b, x = .ref a ∧ y = .ref b ∧ Rd H a (.dK []) ∧ Rd H b (.dK []) ∧ Q (.bl true) H
section
variable {X : Cx} {an : An} {dr : Option Dr} {ρ : Rho} {om : Om} {a b : Expr} {pos p : Pos} {Q : R → Om → Prop}
end
end DL

namespace DX
open PySem PySem.Spec PyProof.Rows L2
section
variable {X : Cx} {elt tg iter : Expr} {ifs : List Expr} {scope : Scope} {own : List (Str × Nat)} {pos : Pos} {wi : TI} {g : TG}
structure Dawn (X : Cx) (σ : L2.St) (s : Shared) (H : Hp) (fp : List Addr) : Prop where
  inv : ∃ pins, Inv X pins σ H s
  cells : ∀ y c, X.env.cells.lookup y = some c → c ∉ fp
def Turned (B : Cx) (σ0 : L2.St) (fp : List Addr) (tn : Nat → Heap → Prop) (W : Nat → Nat → Hp → Prop) (n : Nat) (s : Shared) : Prop := ∃ i H, Inv B [] σ0 H s ∧ tn i s.heap ∧ (∀ b ∈ fp, H b = none) ∧ W i n H
end
end DX

namespace DL
open PySem L2 LamX NdefX PyProof.Rows
open DX (Cs lend unl lend_in lend_out unl_in unl_out unl_some Bare Told There Away LT)
section
variable {K : PySem.W.Frag} {G G1 : Hp}
mutual
theorem Is.strip (h : ∀ a o, G a = some o → G1 a = some o ∨ ∃ ob, o = .frz ob (.own 0)) : ∀ {v : V} {d : D}, Is K G v d → noLam d = true → Is K G1 v d
  | _, _, .non, _ => .non
  | _, _, .bl b, _ => .bl b
  | _, _, .int i, _ => .int i
  | _, _, .str x, _ => .str x
  | _, _, .ty n, _ => .ty n
  | _, _, .lst e q, c => .lst ((h _ _ e).resolve_right fun ⟨_, z⟩ => by cases z) (IsL.strip h q (by simpa only [noLam] using c))
  | _, _, .tup e q, c => .tup ((h _ _ e).resolve_right fun ⟨_, z⟩ => by cases z) (IsL.strip h q (by simpa only [noLam] using c))
  | _, _, .tup0 e, _ => .tup0 e
  | _, _, .dic e q, c => .dic ((h _ _ e).resolve_right fun ⟨_, z⟩ => by cases z) (IsD.stripK h q (by simpa only [noLam] using c))
  | _, _, .dit e q, c => .dit ((h _ _ e).resolve_right fun ⟨_, z⟩ => by cases z) (IsD.stripT h q (by simpa only [noLam] using c))
  | _, _, .dky e, c => .dky ((h _ _ e).resolve_right fun ⟨_, z⟩ => by unfold NKo at z; cases z)
  | _, _, .din e q, c => .din ((h _ _ e).resolve_right fun ⟨_, z⟩ => by unfold NDo at z; cases z) (IsD.stripN h q (by simpa only [noLam] using c))
  | _, _, .ins e q, c => .ins ((h _ _ e).resolve_right fun ⟨_, z⟩ => by cases z) (IsD.stripF h q (by simpa only [noLam] using c))
  | _, _, .exc0 e, _ => .exc0 ((h _ _ e).resolve_right fun ⟨_, z⟩ => by unfold DX.exV at z; cases z)
  | _, _, .excF e e2 q, c => .excF ((h _ _ e).resolve_right fun ⟨_, z⟩ => by unfold DX.exV at z; cases z) ((h _ _ e2).resolve_right fun ⟨_, z⟩ => by cases z) (IsD.stripF h q (by simpa only [noLam] using c))
  | _, _, .lam _ _ _ _ _, c => by simp [noLam] at c
  | _, _, .lamP e e2, _ => .lamP ((h _ _ e).resolve_right fun ⟨_, z⟩ => by unfold DX.LamO at z; cases z) ((h _ _ e2).resolve_right fun ⟨_, z⟩ => by unfold LamX.CodeO at z; cases z)
  | _, _, .obj a, _ => .obj a
theorem IsL.strip (h : ∀ a o, G a = some o → G1 a = some o ∨ ∃ ob, o = .frz ob (.own 0)) : ∀ {v : List V} {d : List D}, IsL K G v d → noLams d = true → IsL K G1 v d
  | _, _, .nil, _ => .nil
  | _, _, .cons i q, c => by
    simp only [noLams, Bool.and_eq_true] at c
    exact .cons (Is.strip h i c.1) (IsL.strip h q c.2)
theorem IsD.stripK (h : ∀ a o, G a = some o → G1 a = some o ∨ ∃ ob, o = .frz ob (.own 0)) : ∀ {v : List (Key × V)} {d : List (Key × D)}, IsD K G v d → noLamK d = true → IsD K G1 v d
  | _, _, .nil, _ => .nil
  | _, _, .cons i q, c => by
    simp only [noLamK, Bool.and_eq_true] at c
    exact .cons (Is.strip h i c.1) (IsD.stripK h q c.2)
theorem IsD.stripT (h : ∀ a o, G a = some o → G1 a = some o ∨ ∃ ob, o = .frz ob (.own 0)) : ∀ {v : List (List Key × V)} {d : List (List Key × D)}, IsD K G v d → noLamT d = true → IsD K G1 v d
  | _, _, .nil, _ => .nil
  | _, _, .cons i q, c => by
    simp only [noLamT, Bool.and_eq_true] at c
    exact .cons (Is.strip h i c.1) (IsD.stripT h q c.2)
theorem IsD.stripN (h : ∀ a o, G a = some o → G1 a = some o ∨ ∃ ob, o = .frz ob (.own 0)) : ∀ {v : List (Option Key × V)} {d : List (Option Key × D)}, IsD K G v d → noLamN d = true → IsD K G1 v d
  | _, _, .nil, _ => .nil
  | _, _, .cons i q, c => by
    simp only [noLamN, Bool.and_eq_true] at c
    exact .cons (Is.strip h i c.1) (IsD.stripN h q c.2)
theorem IsD.stripF (h : ∀ a o, G a = some o → G1 a = some o ∨ ∃ ob, o = .frz ob (.own 0)) : ∀ {v : List (Str × V)} {d : List (Str × D)}, IsD K G v d → noLamF d = true → IsD K G1 v d
  | _, _, .nil, _ => .nil
  | _, _, .cons i q, c => by
    simp only [noLamF, Bool.and_eq_true] at c
    exact .cons (Is.strip h i c.1) (IsD.stripF h q c.2)
end
end
section
variable {cs : Cs} {dr : Option Dr} {G H G' H' : Hp}
theorem lend_ex (e : Ex G H) : Ex (lend G cs) (lend H cs) := fun a o h => by
  cases q : cs.lookup a with
  | none => rw [lend_out q] at h ⊢; exact e a o h
  | some ob => rw [lend_in q] at h ⊢; exact h
theorem unl_ex (e : Ex G H) : Ex (unl G cs) (unl H cs) := fun a o h => by
  obtain ⟨h, q⟩ := unl_some h
  exact (unl_out q).trans (e a o h)
theorem bare_sub (e : Ex G H) (b : Bare H cs) : Bare G cs := fun a o q => by
  cases z : G a with
  | none => rfl
  | some u =>
    have n := b a o q
    rw [e a u z] at n
    cases n
theorem Bare.ne {y : Addr} {u : HO} (b : Bare H cs) (e : H y = some u) : cs.lookup y = none := b.off e
theorem drg_lend (g : DrG dr G H) (b : Bare H cs) : DrG dr (lend G cs) (lend H cs) := fun y hy => by
  obtain ⟨⟨gr, ce, re, tu, h1, h2, h3⟩, h4, h5, h6, t⟩ := g y hy
  exact ⟨⟨gr, ce, re, tu, b.keep h1, b.keep h2, b.keep h3⟩, (lend_out (b.off h1)).trans h4, (lend_out (b.off h2)).trans h5, (lend_out (b.off h3)).trans h6, t.ext fun _ _ e => b.keep e⟩
theorem drg_unl (g : DrG dr G H) (b : Told H cs) : DrG dr (unl G cs) (unl H cs) := fun y hy => by
  obtain ⟨⟨gr, ce, re, tu, h1, h2, h3⟩, h4, h5, h6, t⟩ := g y hy
  have kp : ∀ {a u}, H a = some u → (∀ o, u ≠ .frz o (.own 0)) → unl H cs a = some u := fun e n => (unl_out (b.off e n)).trans e
  have no : ∀ {a}, G a = none → unl G cs a = none := fun {a} e => by
    cases q : cs.lookup a with
    | none => exact (unl_out q).trans e
    | some o => exact unl_in q
  refine ⟨⟨gr, ce, re, tu, kp h1 (fun o z => by cases z), kp h2 (fun o z => by cases z), kp h3 (fun o z => by cases z)⟩, no h4, no h5, no h6, fun p hp => ?_⟩
  obtain ⟨ps, e1, e2, e3⟩ := t p hp
  refine ⟨ps, kp e1 (fun o z => by cases z), e2, fun pos cv q => ?_⟩
  obtain ⟨c, a1, a2⟩ := e3 pos cv q
  exact ⟨c, a1, kp a2 (fun o z => by unfold LamX.CodeO at z; cases z)⟩
theorem Pre.lend (p : Pre dr G H) (b : Bare H cs) : Pre dr (lend G cs) (lend H cs) := ⟨lend_ex p.ex, drg_lend p.dg b, fun a o h => by
  cases q : cs.lookup a with
  | none => rw [lend_out q] at h; exact p.gt a o h
  | some ob => rw [lend_in q] at h; cases h; exact fun ps z => by cases z⟩
theorem Pre.unl (p : Pre dr G H) (b : Told H cs) : Pre dr (unl G cs) (unl H cs) := ⟨unl_ex p.ex, drg_unl p.dg b, fun a o h => p.gt a o (unl_some h).1⟩
theorem Frm.forget (f : Frm dr (lend G cs) (lend H cs) G' H') (p : Pre dr G H) (b : Bare H cs) (t : Told H' cs) : Frm dr G H (unl G' cs) (unl H' cs) := by
  have bG := bare_sub p.ex b
  refine ⟨fun a o e => (unl_out (bG.off e)).trans (f.e1 a o (bG.keep e)), unl_ex f.e2, drg_unl f.dg t, fun a o e n hf => (unl_out (b.off e)).trans (f.kk a o (b.keep e) n hf), fun a o e n q => ?_, fun a o h => f.gt a o (unl_some h).1⟩
  have off := b.off e
  exact (f.ff a o (b.keep e) n ((lend_out off).trans q)).imp (fun z => (unl_out off).trans z) id
theorem Frm.take (f : Frm dr (unl G cs) (unl H cs) G' H') (tG : Told G cs) (tH : Told H cs) (b : Bare H' cs) : Frm dr G H (lend G' cs) (lend H' cs) := by
  have bG := bare_sub f.e2 b
  refine ⟨fun a o e => ?_, lend_ex f.e2, drg_lend f.dg b, fun a o e n hf => ?_, fun a o e n q => ?_, fun a o h => ?_⟩
  · cases q : cs.lookup a with
    | none => exact (lend_out q).trans (f.e1 a o ((unl_out q).trans e))
    | some ob => rw [tG a ob q] at e; rw [lend_in q]; exact e
  · cases q : cs.lookup a with
    | none => exact (lend_out q).trans (f.kk a o ((unl_out q).trans e) n hf)
    | some ob => rw [tH a ob q] at e; rw [lend_in q]; exact e
  · cases z : cs.lookup a with
    | none => exact (f.ff a o ((unl_out z).trans e) n ((unl_out z).trans q)).imp (fun w => (lend_out z).trans w) id
    | some ob => rw [tG a ob z] at q; cases q
  · cases q : cs.lookup a with
    | none => rw [lend_out q] at h; exact f.gt a o h
    | some ob => rw [lend_in q] at h; cases h; exact fun ps z => by cases z
end
abbrev WpL := List D → (D → Prop) → (D → Prop) → Prop
def MonoL (W : WpL) : Prop := ∀ ds Q Q' E E', (∀ d, Q d → Q' d) → (∀ d, E d → E' d) → W ds Q E → W ds Q' E'
structure LamOk (P : Program) (w : World) (K : PySem.W.Frag) (mg : Str → Option Value) (base : Heap) (dr : Option Dr) (k : Nat) (L : LT) (W : WpL) : Prop where
  run : ∀ (A : Around) (outer : List Env) (s : Shared) (G H : Hp) (a : Addr) (ds : List D) (Q : VK) (E : XK), Room k A → Env0 P w K mg base A outer s H → Pre dr G H → Is K G (.ref a) (.lam L ds) →
    W ds (fun d => ∀ v G' H', Is K G' v d → Frm dr G H G' H' → Q v H') (fun x => ∀ cls dd G' H', ExIs K G' cls dd x → Frm dr G H G' H' → E cls dd H') → codeAny (model P w) A (.call (.ref a) ⟨[], []⟩) (CR (CX P w) outer P w H s Q E) s
  mono : MonoL W
theorem lk_mem : ∀ {l : Cs} {a : Addr} {o : Obj}, l.lookup a = some o → (a, o) ∈ l
  | [], _, _, h => by cases h
  | (b, u) :: r, a, o, h => by
    rw [List.lookup_cons] at h
    split at h
    · rename_i z
      cases h
      rw [eq_of_beq z]
      exact List.mem_cons_self
    · exact List.mem_cons_of_mem _ (lk_mem h)
theorem mem_lk : ∀ {l : Cs} {a : Addr} {o : Obj}, (a, o) ∈ l → ∃ o', l.lookup a = some o'
  | [], _, _, h => by cases h
  | (b, u) :: r, a, o, h => by
    rw [List.lookup_cons]
    split
    · exact ⟨_, rfl⟩
    · rename_i z
      rcases List.mem_cons.mp h with h | h
      · cases h
        rw [beq_self_eq_true] at z
        cases z
      · exact mem_lk h
end DL

namespace DL
open PySem L2 LamX NdefX PyProof.Rows
open DX (Cs lend unl lend_in lend_out unl_in unl_out unl_some Bare Told There Away LT)
def LWt (T : List (LT × WpL)) (L : LT) : WpL := fun ds Q E => ∃ p ∈ T, p.1 = L ∧ p.2 ds Q E
section
variable {X : Cx} {dr : Option Dr} {k i : Nat} {LW : LT → WpL} {W : WX} {E : XK} {a : Str} {p1 p2 : Pos}
end
def W_caught (nE : Nat) (c : Cl) (LW : LT → WpL) : Wp := fun ds P => ∃ L caps, ds = [.lam L caps] ∧ LW L caps (fun _ => P .non) fun e => isErr nE c e ∧ noLam e = true ∧ P e
section
variable {P : Program} {w : World} {K : PySem.W.Frag} {mg : Str → Option Value} {base : Heap} {dr : Option Dr} {k nE : Nat} {c : Cl} {LW : LT → WpL}
end
end DL

namespace DL
open PySem L2 LamX NdefX PyProof.Rows
open DX (Cs lend unl lend_in lend_out unl_in unl_out unl_some Bare Told There Away LT Dawn)
structure Lent (Y : Cx) (G0 : Hp) (L : LT) (cl : List (Str × Addr)) (caps : List D) (cs : Cs) (vs : List V) : Prop where
  there : There Y.s_0.heap cs
  bare : Bare Y.H_0 cs
  fs : Away Y.fs cs
  st : Away (frs Y.stack) cs
  ex : Away Y.ex cs
  base : ∀ a o, cs.lookup a = some o → Y.base.get? a = none
  inj : ∀ x y c, cl.lookup x = some c → cl.lookup y = some c → x = y
  only : ∀ y c, cl.lookup y = some c → y ∈ L.fr
  len : vs.length = L.fr.length
  has : ∀ (i : Nat) (y : Str), L.fr[i]? = some y → ∃ c v, cl.lookup y = some c ∧ vs[i]? = some v ∧ ∃ o u, cs.lookup c = some o ∧ o.data = .cell (some u) ∧ RelV v u
  is : IsL Y.K G0 vs caps
  nl : noLams caps = true
def Lends (Y : Cx) (G0 : Hp) (L : LT) (cl : List (Str × Addr)) (caps : List D) : Prop := ∃ cs vs, Lent Y G0 L cl caps cs vs
theorem Lent.now {Y : Cx} {G0 : Hp} {L : LT} {cl : List (Str × Addr)} {caps : List D} {cs : Cs} {vs : List V} {pins : List (Addr × Obj)} {σ : L2.St} {H : Hp} {s : Shared} (l : Lent Y G0 L cl caps cs vs) (I : Inv Y pins σ H s) : There s.heap cs ∧ Bare H cs :=
  ⟨fun a o e => I.base.keep a o (l.there a o e) (l.bare a o e) (l.fs a o e) (l.ex a o e), fun a o e => I.base.free a o (l.there a o e) (l.bare a o e) (l.ex a o e)⟩
section
variable {X : Cx} {an : An} {ρ : Rho} {L : LT} {scope : Scope} {σ : L2.St} {s : Shared} {H : Hp} {C : Addr} {cl : List (Str × Addr)} {fp : List Addr} {js : List Nat} {caps : List D}
inductive CapR (ρ : Rho) : List Nat → List D → Prop
  | nil : CapR ρ [] []
  | cons {j : Nat} {d : D} {js : List Nat} {ds : List D} : ρ[j]? = some (some (R.v d)) → CapR ρ js ds → CapR ρ (j :: js) (d :: ds)
theorem CapR.vals {K : PySem.W.Frag} {G0 : Hp} {σ : L2.St} (n : ∀ (i : Nat) (d : D), ρ[i]? = some (some (R.v d)) → ∃ v, σ[i]? = some (some v) ∧ Is K G0 v d) : ∀ {js : List Nat} {ds : List D}, CapR ρ js ds → ∃ vs, IsL K G0 vs ds ∧ js.map (slotAt σ) = vs.map some
  | _, _, .nil => ⟨[], .nil, rfl⟩
  | _, _, .cons e r => by
    obtain ⟨v, h1, h2⟩ := n _ _ e
    obtain ⟨vs, h3, h4⟩ := CapR.vals n r
    exact ⟨v :: vs, .cons h2 h3, by rw [List.map_cons, List.map_cons, slotAt_of h1, h4]⟩
end
section
variable {Y : Cx} {an : An} {dr : Option Dr} {ρ : Rho} {om : Om} {e : Expr} {p pos : Pos} {x : Str} {W : Wp} {k j : Nat} {Q : R → Om → Prop} {y : Str}
def tLent (Y : Cx) (sp : Sp) (t : TA) : TE := fun σ H Q => t σ H fun vs H1 => ∃ L cl caps cs ws, (∃ G0, Lent Y G0 L cl caps cs ws) ∧ (Bare H1 cs → sp vs (lend H1 cs) (fun v H' => Told H' cs → Q v (unl H' cs)) E0)
end
end DL

namespace DL
open PySem L2 LamX NdefX PyProof.Rows
open DX (LT Dawn)
section
variable {K : PySem.W.Frag} {an : An} {dr : Option Dr} {om : Om} {τ : List Addr} {G H : Hp}
theorem Good.code {c : Addr} {q : Str} (g : Good K an dr om τ G H) (e : H c = some (CodeO c q)) : Good K an dr om τ (upd G c (CodeO c q)) H ∧ Ex G (upd G c (CodeO c q)) := by
  have old : ∀ u, G c = some u → u = CodeO c q := fun u z => by
    have z := g.ex c u z
    rw [e] at z
    exact (Option.some.inj z).symm
  have ex : Ex G (upd G c (CodeO c q)) := fun a o z => by
    by_cases n : a = c
    · subst n
      rw [upd_same, old o z]
    · rw [upd_ne n]; exact z
  have off : Off dr c := fun y hy => by
    obtain ⟨⟨gr, ce, re, tu, h1, h2, h3⟩, _⟩ := g.drg y hy
    refine ⟨fun z => ?_, fun z => ?_, fun z => ?_⟩
    · rw [← z, e] at h1; unfold CodeO at h1; cases h1
    · rw [← z, e] at h2; unfold CodeO at h2; cases h2
    · rw [← z, e] at h3; unfold CodeO at h3; cases h3
  refine ⟨⟨fun a o z => ?_, g.len, g.nd, fun k p d h1 h2 => ?_, fun y hy => ?_, g.a1.trans ex, g.a2, fun a h n => ?_, g.a4, fun a o z => ?_, g.nt0, g.ti⟩, ex⟩
  · by_cases n : a = c
    · subst n
      rw [upd_same] at z
      cases z
      exact e
    · rw [upd_ne n] at z; exact g.ex a o z
  · obtain ⟨f1, f2, f3, o, f4, f5⟩ := g.own k p d h1 h2
    have n : p ≠ c := fun z => by
      rw [z, e] at f4
      cases f4
      exact f5.noTab.2 c q rfl
    exact ⟨(upd_ne n).trans f1, f2, f3, o, f4, f5.mono ex⟩
  · obtain ⟨h0, h1, h2, h3, h4⟩ := g.drg y hy
    obtain ⟨n1, n2, n3⟩ := off y hy
    exact ⟨h0, (upd_ne n1.symm).trans h1, (upd_ne n2.symm).trans h2, (upd_ne n3.symm).trans h3, h4⟩
  · by_cases z : a = c
    · subst z
      cases w : an.H0 a with
      | none => exact absurd w h
      | some o =>
        have w2 := g.a2 a o w off
        rw [e] at w2
        cases w2
        exact .inr ⟨_, rfl, .inr ⟨a, q, rfl⟩⟩
    · rw [upd_ne z]; exact g.a3 a h n
  · by_cases n : a = c
    · subst n
      rw [upd_same] at z
      cases z
      intro ps z
      unfold CodeO at z
      cases z
    · rw [upd_ne n] at z; exact g.gt a o z
end
section
variable {X : Cx} {an : An} {x : Dr} {ρ : Rho} {om : Om} {Q : R → Om → Prop} {c P : Addr} {L : LT} {pos : Pos}
end
section
variable {X : Cx} {an : An} {dr : Option Dr} {ρ : Rho} {om : Om} {elt tg iter c : Expr} {scope : Scope} {pos : Pos} {Q : R → Om → Prop} {js : List Nat} {f : TgF} {own : List (Str × Nat)}
def AtL (X : Cx) (ρ : Rho) (scope : Scope) (F : ∀ (an' : An) (Y : Cx), Prop) : Prop := ∀ (an' : An) (σ : L2.St) (s : Shared) (H : Hp) (C : Addr) (cl : List (Str × Addr)) (fp : List Addr), Dawn X σ s H fp → (∀ (i : Nat) (d : D), ρ[i]? = some (some (R.v d)) → ∃ v, σ[i]? = some (some v) ∧ Is X.K an'.G0 v d) → F an' (XB X scope s H C cl fp)
def uEd (X : Cx) (dr : Option Dr) (scope : Scope) (e : Expr) (σ : L2.St) : TE := fun σ1 H1 K' => ∃ an ρ om Q, (∀ s H C cl fp, Dawn X σ s H fp → WE (XB X scope s H C cl fp) an dr ρ om e Q) ∧ tD X.K an dr ρ om Q σ1 H1 K'
def uTd (X : Cx) (dr : Option Dr) (scope : Scope) (e : Expr) (σ : L2.St) : TT := fun σ1 H1 K' => ∃ an ρ om Q, (∀ s H C cl fp, Dawn X σ s H fp → WT (XB X scope s H C cl fp) an dr ρ om e Q) ∧ tDT X.K an dr ρ om Q σ1 H1 K'
def tgL (X : Cx) (dr : Option Dr) (js : List Nat) (f : TgF) : TG := fun v σ H K' => ∃ an, tDG X.K an dr js f v σ H K'
def ElemC (X : Cx) (dr : Option Dr) (scope : Scope) (elt : Expr) (ρ ρ2 : Rho) (om : Om) (acc : List D) (N : List D → Prop) : Prop :=
  AtL X ρ scope fun an' Y => WE Y an' dr ρ2 (om ++ [some (.lst acc)]) elt fun r om3 => om3 = om ++ [some (.lst acc)] ∧ retR om3 r fun d => (∃ d', r = .v d') ∧ N (acc ++ [d])
def TestC (X : Cx) (dr : Option Dr) (scope : Scope) (c : Expr) (ρ ρ2 : Rho) (om : Om) (acc : List D) (N : Bool → Prop) : Prop :=
  AtL X ρ scope fun an' Y => WT Y an' dr ρ2 (om ++ [some (.lst acc)]) c fun b om3 => om3 = om ++ [some (.lst acc)] ∧ N b
end
end DL

namespace DL
open PySem L2 LamX NdefX PyProof.Rows
open DX (LT Dawn)
def lamD (L : LT) (me : List (Str × Addr)) : D := .lamP L (cloFrom me L.scope.names [])
def lamA : Expr → Arguments
  | .Lambda p _ _ _ => p
  | _ => default
def lamB : Expr → Expr
  | .Lambda _ b _ _ => b
  | e => e
def lamS : Expr → Scope
  | .Lambda _ _ s _ => s
  | _ => default
abbrev ltOf (i : Nat) (q : Str) (e : Expr) (fr : List Str) : LT := ⟨i, q, lamA e, lamB e, lamS e, fr⟩
def aVal : Stmt → Expr
  | .Assign _ e _ => e
  | .Expr e _ => e
  | .Return (some e) _ => e
  | _ => .Constant .none 0 ⟨0, 0, 0, 0⟩
def aArg (i : Nat) : Expr → Expr
  | .Call _ es _ _ => es.getD i (.Constant .none 0 ⟨0, 0, 0, 0⟩)
  | .List es _ => es.getD i (.Constant .none 0 ⟨0, 0, 0, 0⟩)
  | e => e
def callLS (nE : Nat) (c : Cl) (T : List (LT × WpL)) (me : List (Str × Addr)) (caps : List (List D)) (d : D) (K : D → Prop) : Prop :=
  ∃ L, d = lamD L me ∧ noLams (caps.getD L.i []) = true ∧ LWt T L (caps.getD L.i []) (fun _ => K .non) fun e => isErr nE c e ∧ noLam e = true ∧ K e
theorem LamOk.lift {P : Program} {w : World} {K : PySem.W.Frag} {mg : Str → Option Value} {base : Heap} {dr : Option Dr} {k j : Nat} {L : LT} {W : WpL} (h : LamOk P w K mg base dr j L W) (hk : j ≤ k) : LamOk P w K mg base dr k L W := ⟨fun A outer s G H a ds Q E hr => h.run A outer s G H a ds Q E (hr.mono hk), h.mono⟩
section
variable {Y : Cx} {an : An} {dr : Option Dr} {ρ : Rho} {om : Om} {pos p p1 : Pos} {k j i nE : Nat} {Q : R → Om → Prop} {c : Cl} {T T' : List (LT × WpL)} {me : List (Str × Addr)} {caps : List (List D)} {d : D} {Z : D → Prop} {x : Str}
end
section
variable {X : Cx} {dr : Option Dr} {ρ : Rho} {om : Om} {e c : Expr}
end
def upperS (d : D) (K : D → Prop) : Prop := match d with
  | .str a => a.length ≤ 5592405 ∧ K (.str (Txt.upper a))
  | _ => False
section
variable {X : Cx} {an : An} {dr : Option Dr} {ρ : Rho} {om : Om} {o : Expr} {apos pos : Pos} {Q : R → Om → Prop}
end
end DL

namespace DL
open PySem L2 LamX NdefX PyProof.Rows
open DX (Cs lend unl lend_in lend_out unl_in unl_out unl_some Bare Told There Away LT Dawn)
def Calls (K : PySem.W.Frag) (G0 : Hp) (L : LT) (cl : List (Str × Addr)) (caps : List D) (cs : Cs) : Prop := ∀ (G : Hp) (v : V), Ex G0 G → Bare G cs → Is K G v (.lamP L cl) → Is K (lend G cs) v (.lam L caps)
section
variable {X : Cx} {an : An} {dr : Option Dr} {ρ : Rho} {om : Om} {e : Expr} {es : List Expr} {p pos : Pos} {x : Str} {W : Wp} {k j : Nat} {Q : R → Om → Prop} {ps : List Str} {L : LT} {js : List Nat} {caps : List D}
def tLentM (X : Cx) (L : LT) (caps : List D) (js : List Nat) (sp : Sp) (t : TA) : TE := fun σ H Q => t σ H fun vs H1 => ∃ (ρ : Rho) (G0 : Hp), (∀ (i : Nat) (d : D), ρ[i]? = some (some (R.v d)) → ∃ v, σ[i]? = some (some v) ∧ Is X.K G0 v d) ∧ CapR ρ js caps ∧
  ∀ cs, Calls X.K G0 L (cloFrom X.env.cells L.scope.names []) caps cs → Bare H1 cs → sp vs (lend H1 cs) (fun v H' => Told H' cs → Q v (unl H' cs)) E0
end
def sE : Stmt → Expr
  | .Assign _ e _ => e
  | .AugAssign _ _ e _ => e
  | .Expr e _ => e
  | .Return (some e) _ => e
  | .If e _ _ _ => e
  | .While e _ _ _ => e
  | .For _ e _ _ _ => e
  | _ => .Constant .none 0 ⟨0, 0, 0, 0⟩
def sB (j i : Nat) : Stmt → Stmt
  | .If _ b o _ => (if j = 0 then b else o).getD i (.Pass ⟨0, 0, 0, 0⟩)
  | .While _ b o _ => (if j = 0 then b else o).getD i (.Pass ⟨0, 0, 0, 0⟩)
  | .For _ _ b o _ => (if j = 0 then b else o).getD i (.Pass ⟨0, 0, 0, 0⟩)
  | s => s
def eK (i : Nat) : Expr → Expr
  | .BoolOp _ es _ => es.getD i (.Constant .none 0 ⟨0, 0, 0, 0⟩)
  | .UnaryOp _ e _ => e
  | .BinOp l _ r _ => [l, r].getD i (.Constant .none 0 ⟨0, 0, 0, 0⟩)
  | .Compare l _ cs _ => (l :: cs).getD i (.Constant .none 0 ⟨0, 0, 0, 0⟩)
  | .Call f es _ _ => (f :: es).getD i (.Constant .none 0 ⟨0, 0, 0, 0⟩)
  | .List es _ => es.getD i (.Constant .none 0 ⟨0, 0, 0, 0⟩)
  | .Tuple es _ _ => es.getD i (.Constant .none 0 ⟨0, 0, 0, 0⟩)
  | .IfExp t b o _ => [t, b, o].getD i (.Constant .none 0 ⟨0, 0, 0, 0⟩)
  | .Attribute e _ _ => e
  | .Subscript e x _ => [e, x].getD i (.Constant .none 0 ⟨0, 0, 0, 0⟩)
  | e => e
def caughtLamS (nE : Nat) (c : Cl) (T : List (LT × WpL)) (d : D) (K : D → Prop) : Prop :=
  ∃ L caps, d = .lam L caps ∧ LWt T L caps (fun _ => K .non) fun e => isErr nE c e ∧ noLam e = true ∧ K e
def noLamS (d : D) (K : Prop) : Prop := noLam d = true ∧ K
def noLamsS (ds : List D) (K : Prop) : Prop := noLams ds = true ∧ K
end DL

namespace DL
open PySem PySem.Spec PyProof.Rows L2
section
variable {P : Program} {w : World} {κ : Type} [DecidableEq κ]
structure Dv (knd : KeyKind P w κ) (h : Heap) (a : Addr) (kvs : List (κ × V)) : Prop where
  few : kvs.length ≤ sizeLine
  off : (a == sysModules) = false
  held : ∃ vs, KV kvs vs ∧ h.DictOf knd a vs
variable {knd : KeyKind P w κ} {A : Around} {E : Value → Shared → Prop} {s : Shared} {a : Addr} {kvs : List (κ × V)} {k : κ} {u : Value}
theorem Dv.is (d : Dv knd s.heap a kvs) : s.TypeIs (.ref a) "dict" := by
  obtain ⟨vs, _, x⟩ := d.held
  exact x.typeIs
theorem Dv.bare (d : Dv knd s.heap a kvs) : ∀ b, Value.ref a = .ref b → ∃ o, s.heap.get? b = some o ∧ o.dict = none := by
  obtain ⟨vs, _, o, es, ep, ho, c, _⟩ := d.held
  rintro b ⟨⟩
  exact ⟨o, ho, c.2.1⟩
theorem Dv.count (d : Dv knd s.heap a kvs) {Q : Value → Shared → Prop} (q : ∀ t t', Q (.int kvs.length t) { s with toks := t' }) : wpAny (model P w) A (call (.builtin "len") [.ref a]) Q E s := by
  obtain ⟨vs, r, x⟩ := d.held
  have e := r.length
  have big : (sizeLine : Int) < 2 ^ 63 := by decide
  refine call_len_dict d.off x ?_ ?_
  · have := d.few
    omega
  · rw [← e]
    exact q _ _
theorem Dv.has (d : Dv knd s.heap a kvs) (hk : knd.is k u = true) {Q : Value → Shared → Prop} (q : ∀ t', Q (.bool (valV kvs k).isSome) { s with toks := t' }) : wpAny (model P w) A (compareOp .In u (.ref a)) Q E s := by
  obtain ⟨vs, r, x⟩ := d.held
  have e := (r.val k).isSome_eq
  refine wpAny_in_of hk d.off x.mapOf ?_
  rw [← e]
  exact q _
theorem Dv.lacks (d : Dv knd s.heap a kvs) (hk : knd.is k u = true) {Q : Value → Shared → Prop} (q : ∀ t', Q (.bool (!(valV kvs k).isSome)) { s with toks := t' }) : wpAny (model P w) A (compareOp .NotIn u (.ref a)) Q E s := by
  obtain ⟨vs, r, x⟩ := d.held
  have e := (r.val k).isSome_eq
  refine wpAny_notIn_of hk d.off x.mapOf ?_
  rw [← e]
  exact q _
theorem Dv.item (d : Dv knd s.heap a kvs) (hk : knd.is k u = true) {v : V} (hv : valV kvs k = some v) {Q : Value → Shared → Prop} (q : ∀ x t', RelV v x → Q x { s with toks := t' }) : wpAny (model P w) A (getItem (.ref a) u) Q E s := by
  obtain ⟨vs, r, x⟩ := d.held
  have rk := r.val k
  rw [hv] at rk
  cases z : valueAt vs k with
  | none => rw [z] at rk; exact rk.elim
  | some y =>
    rw [z] at rk
    exact wpAny_getItem_of hk x.mapOf z (q y _ rk)
theorem Dv.take (d : Dv knd s.heap a kvs) (hk : knd.is k u = true) (hp : (keyPart u).isSome = true) {v : V} (hv : valV kvs k = some v) {Q : Value → Shared → Prop}
    (q : ∀ x h' t', RelV v x → Dv knd h' a (dropK kvs k) → Heap.SameBut a s.heap h' → Q x { s with heap := h', toks := t' }) : wpAny (model P w) A (call (.builtin "dict.pop") [.ref a, u]) Q E s := by
  obtain ⟨vs, r, y⟩ := d.held
  have rk := r.val k
  rw [hv] at rk
  cases z : valueAt vs k with
  | none => rw [z] at rk; exact rk.elim
  | some x =>
    rw [z] at rk
    exact call_meetsIn PySem.F.slot_dict_pop y.typeIs PySem.F.entry_dict_pop (PySem.F.args_dict_pop_2 _ _) (meets_dict_pop_there knd a hk [] (.inl rfl) hp)
      ⟨vs, x, y, by rw [← r.length]; exact d.few, z, fun h' y' sb => q x h' _ rk ⟨Nat.le_trans (dropK_le kvs k) d.few, d.off, _, r.drop k, y'⟩ sb⟩
theorem Dv.list (d : Dv knd s.heap a kvs) (hh : A.handled = none) (f : κ → V) (hf : ∀ k u, knd.is k u = true → RelV (f k) u) {Q : Value → Shared → Prop}
    (q : ∀ h' t' us c, Vals (kvs.map fun kv => f kv.1) us → h'.get? s.heap.objs.size = some { cls := .type "list", dict := none, data := .seq us.toArray c, slots := #[] } → (∀ b o, s.heap.get? b = some o → h'.get? b = some o) → Q (.ref s.heap.objs.size) { s with heap := h', toks := t' }) :
    wpAny (model P w) A (call (.type "list") [.ref a]) Q E s := by
  obtain ⟨vs, r, y⟩ := d.held
  obtain ⟨ep, hat⟩ := y.dictAt
  refine PySem.W.kdl_call (PySem.W.kdl_dict (knd := knd) (kvs := vs) (ep := ep) d.off) hh hat (by rw [← r.length]; exact d.few) fun h' tk acc c' hk hD hacc => ?_
  have e0 : (kvs.map fun kv => f kv.1) = vs.map fun kv => f kv.1 := by
    have e := congrArg (List.map f) r.keys
    rw [List.map_map, List.map_map] at e
    exact e
  refine q h' tk acc.toList c' ?_ (by rw [Array.toArray_toList]; exact hD) hk
  rw [e0]
  have len : vs.length = acc.toList.length := by rw [Array.length_toList]; exact hacc.1.symm
  have at_ : ∀ (j : Nat) (u : Value), acc.toList[j]? = some u → ∃ k x, vs[j]? = some (k, x) ∧ knd.is k u = true := fun j u e => hacc.2 j u (by rw [← Array.getElem?_toList]; exact e)
  clear hD hacc hk e0 hat y r
  generalize acc.toList = us at len at_ ⊢
  induction vs generalizing us with
  | nil =>
    cases us with
    | nil => exact .nil
    | cons u us => cases len
  | cons p vs ih =>
    cases us with
    | nil => cases len
    | cons u us =>
      obtain ⟨k, x, e, hk⟩ := at_ 0 u rfl
      cases (show some p = some (k, x) from e)
      exact .cons (hf _ _ hk) (ih us (Nat.succ.inj len) fun j v hj => at_ (j + 1) v hj)
end
def kVn : Option Key → V
  | none => .non
  | some k => kV k
section
variable {P : Program} {w : World}
theorem nk_of {k : Option Key} {u : Value} (r : RelV (kVn k) u) : (noneKind P w).is k u = true := by
  cases k with
  | none => cases (show u = Value.none from r); rfl
  | some k => exact kV_is (P := P) (w := w) r
theorem nk_rel (k : Option Key) (u : Value) (h : (noneKind P w).is k u = true) : RelV (kVn k) u := by
  cases k with
  | none => exact nk_none h
  | some k =>
    rcases keyIs_shape h with ⟨i, t, rfl, rfl⟩ | ⟨x, t, rfl, rfl⟩
    · exact ⟨t, rfl⟩
    · exact ⟨t, rfl⟩
variable {X : Cx} {pins : List (Addr × Obj)} {σ : L2.St} {H : Hp} {s : Shared} {a b : Addr} {kvs : List (Option Key × V)}
theorem ndo_dv (I : Inv X pins σ H s) (r : Rd H a (NDo X.prog X.w b kvs)) : Dv (noneKind X.prog X.w) s.heap a kvs := by
  obtain ⟨h1, h2, h3⟩ := ndo_at I.hok r
  exact ⟨h1, h2, h3⟩
theorem dv_ndo {H' : Hp} {h' : Heap} (d : Dv (noneKind X.prog X.w) h' a kvs) : ObjOk X.prog X.w H' h' a (NDo X.prog X.w a kvs) := by
  refine ⟨⟨d.few, d.off, d.held⟩, ?_, fun h1 h2 ⟨z1, z2, vs, z3, z4⟩ k => ⟨z1, z2, vs, z3, z4.at' k⟩⟩
  obtain ⟨vs, _, o, _, _, ho, _⟩ := d.held
  exact ⟨o, ho⟩
theorem Inv.dv {o : HO} {h' : Heap} {t' : Nat} (I : Inv X pins σ H s) (e : H a = some o) (m : Mut (some o)) (d : Dv (noneKind X.prog X.w) h' a kvs) (sb : Heap.SameBut a s.heap h') : Inv X pins σ (upd H a (NDo X.prog X.w a kvs)) { s with heap := h', toks := t' } := by
  have new : ObjOk X.prog X.w (upd H a (NDo X.prog X.w a kvs)) h' a (NDo X.prog X.w a kvs) := dv_ndo d
  exact I.write (x := a) (e := a) (by rw [e]; exact m) (.inl rfl) (fun b u hb z => (sb.2 b hb).trans z) new.2.1 new
end
end DL

namespace DL
open PySem PySem.Spec PyProof.Rows L2
def keyDn : Option Key → D
  | none => .non
  | some k => keyDat k
theorem keyDn_flat (k : Option Key) : canMut (keyDn k) = false := by
  cases k with
  | none => rfl
  | some k => cases k <;> rfl
theorem keyDn_is {K : PySem.W.Frag} {G : Hp} {v : V} {k : Option Key} (h : Is K G v (keyDn k)) : v = kVn k := by
  cases k with
  | none => exact h.non_inv
  | some k => exact keyDat_is h
theorem kVn_D {K : PySem.W.Frag} {G : Hp} (k : Option Key) : Is K G (kVn k) (keyDn k) := by
  cases k with
  | none => exact .non
  | some k =>
    cases k with
    | inl i => exact .int i
    | inr x => exact .str x
def isiNF : Wp := fun ds K => match ds with
  | [.din _ _ _, .ty T] => Kn T ∧ K (.bl (isT (.dic []) T))
  | [.din _ _ _, .tup ts] => KnAll ts ∧ K (.bl (isAny (.dic []) ts))
  | ds => isiF ds K
theorem isiNF_mono : ∀ ds Q Q', (∀ d, Q d → Q' d) → isiNF ds Q → isiNF ds Q' := fun ds Q Q' i h => by
  unfold isiNF at h ⊢
  split at h
  · exact ⟨h.1, i _ h.2⟩
  · exact ⟨h.1, i _ h.2⟩
  · exact isiF_mono _ _ _ i h
def lenNF (P : Program) (w : World) : Wp := fun ds K => match ds with
  | [.din P' w' kds] => (P' = P ∧ w' = w) ∧ K (.int kds.length)
  | ds => lenUF ds K
theorem lenNF_mono {P : Program} {w : World} : ∀ ds Q Q', (∀ d, Q d → Q' d) → lenNF P w ds Q → lenNF P w ds Q' := fun ds Q Q' i h => by
  unfold lenNF at h ⊢
  split at h
  · exact ⟨h.1, i _ h.2⟩
  · exact lenUF_mono _ _ _ i h
def cmpN (P : Program) (w : World) (op : CmpOp) (x y : D) (K : Bool → Prop) : Prop := match op, y with
  | .In, .din P' w' kds => (P' = P ∧ w' = w) ∧ ∃ k, x = keyDn k ∧ K (valE kds k).isSome
  | .NotIn, .din P' w' kds => (P' = P ∧ w' = w) ∧ ∃ k, x = keyDn k ∧ K (!(valE kds k).isSome)
  | op, y => cmpU op x y K
theorem cmpN_imp {P : Program} {w : World} {op : CmpOp} {x y : D} {A B : Bool → Prop} (h : cmpN P w op x y A) (i : ∀ d, A d → B d) : cmpN P w op x y B := by
  unfold cmpN at h ⊢
  split at h
  · obtain ⟨e, k, e2, q⟩ := h; exact ⟨e, k, e2, i _ q⟩
  · obtain ⟨e, k, e2, q⟩ := h; exact ⟨e, k, e2, i _ q⟩
  · exact cmpU_imp h i
def ixN (P : Program) (w : World) (x y : D) (K : D → Prop) : Prop := match x with
  | .din P' w' kds => (P' = P ∧ w' = w) ∧ ∃ k d, y = keyDn k ∧ valE kds k = some d ∧ K d
  | x => ixU x y K
theorem ixN_imp {P : Program} {w : World} {x y : D} {A B : D → Prop} (h : ixN P w x y A) (i : ∀ d, A d → B d) : ixN P w x y B := by
  unfold ixN at h ⊢
  split at h
  · obtain ⟨e, k, d, e2, e3, q⟩ := h; exact ⟨e, k, d, e2, e3, i _ q⟩
  · exact ixU_imp h i
def listNF (P : Program) (w : World) : Wp := fun ds K => match ds with
  | [.din P' w' kds] => (P' = P ∧ w' = w) ∧ K (.lst (kds.map fun kv => keyDn kv.1))
  | ds => listUF ds K
theorem listNF_mono {P : Program} {w : World} : ∀ ds Q Q', (∀ d, Q d → Q' d) → listNF P w ds Q → listNF P w ds Q' := fun ds Q Q' i h => by
  unfold listNF at h ⊢
  split at h
  · exact ⟨h.1, i _ h.2⟩
  · exact listUF_mono _ _ _ i h
theorem isL_keysN {K : PySem.W.Frag} {G : Hp} : ∀ {kvs : List (Option Key × V)} {kds : List (Option Key × D)}, IsD K G kvs kds → IsL K G (kvs.map fun kv => kVn kv.1) (kds.map fun kv => keyDn kv.1)
  | _, _, .nil => .nil
  | _, _, .cons (k := k) _ q => .cons (kVn_D k) (isL_keysN q)
section
variable {X : Cx}
theorem cb_isiN : CallR X (.builtin "isinstance") (rB X isiNF) := by
  intro pins s σ H xs us Q I r h
  obtain ⟨an, dr, om, τ, G, rs, g, hp, h⟩ := h
  unfold isiNF at h
  split at h
  · rename_i P' w' kds T e
    obtain ⟨v, r0, v', r1, rfl, rfl, i, ev, i', ev'⟩ := two_args hp e
    cases vw_not g i' ev' rfl
    obtain ⟨p, b, vs, rfl, hd, _⟩ := vw_din g i ev
    obtain ⟨_, _, _, _, o, _, _, ho, c, _⟩ := ndo_at I.hok hd
    obtain ⟨u1, u2, rfl, e1, e2⟩ := vals2 r
    cases e1
    cases e2
    exact PySem.W.kia_one PySem.W.kitx_dict I.kIn ⟨o, ho, c.1⟩ (kit_ty (kit_known (x := .dic []) rfl h.1)) (fun z => nomatch z) fun tk => ⟨.bl _, H, I.tok tk, rfl, h.2.flat g (.bl _)⟩
  · rename_i P' w' kds ts e
    obtain ⟨v, r0, v', r1, rfl, rfl, i, ev, i', ev'⟩ := two_args hp e
    obtain ⟨tp, cs, rfl, ht, il⟩ := vw_tup g i' ev'
    obtain ⟨p, b, vs, rfl, hd, _⟩ := vw_din g i ev
    obtain ⟨_, _, _, _, o, _, _, ho, c, _⟩ := ndo_at I.hok hd
    obtain ⟨ws, k1, k2⟩ := kn_all (K := X.K) (n := "dict") (x := .dic []) rfl il h.1
    obtain ⟨u1, u2, rfl, e1, e2⟩ := vals2 r
    cases e1
    cases e2
    obtain ⟨its, rv, ⟨o2, q1, q2, n, q3⟩, _⟩ := I.tuple ht
    obtain rfl := ClsV.all k1 rv
    obtain ⟨c2, d2, t2, l2⟩ := o2
    obtain rfl : c2 = _ := q2
    obtain rfl : t2 = _ := q3
    exact PySem.W.kia_tup PySem.W.kitx_dict I.kIn ⟨o, ho, c.1⟩ q1 k2 (fun z => nomatch z) fun tk => ⟨.bl _, H, I.tok tk, rfl, h.2.flat g (.bl _)⟩
  · exact cb_isi pins s σ H xs us Q I r ⟨an, dr, om, τ, G, rs, g, hp, h⟩
theorem cb_lenN : CallR X (.builtin "len") (rB X (lenNF X.prog X.w)) := by
  intro pins s σ H xs us Q I r h
  obtain ⟨an, dr, om, τ, G, rs, g, hp, h⟩ := h
  unfold lenNF at h
  split at h
  · rename_i P' w' kds e
    obtain ⟨⟨rfl, rfl⟩, q⟩ := h
    obtain ⟨v, r0, rfl, rfl, i, ev⟩ := one_arg hp e
    obtain ⟨p, b, vs, rfl, hd, id⟩ := vw_din g i ev
    obtain ⟨u, rfl, ru⟩ := vals1 r
    cases ru
    refine (ndo_dv I hd).count fun t t' => ⟨.int vs.length, H, I.tok t', ⟨t, rfl⟩, ?_⟩
    rw [id.length]
    exact q.flat g (.int _)
  · exact cb_lenU pins s σ H xs us Q I r ⟨an, dr, om, τ, G, rs, g, hp, h⟩
theorem cb_listN (hc : X.calm = true) : CallR X (.type "list") (rB X (listNF X.prog X.w)) := by
  intro pins s σ H xs us Q I r h
  obtain ⟨an, dr, om, τ, G, rs, g, hp, h⟩ := h
  unfold listNF at h
  split at h
  · rename_i P' w' kds e
    obtain ⟨⟨rfl, rfl⟩, q⟩ := h
    obtain ⟨v, r0, rfl, rfl, i, ev⟩ := one_arg hp e
    obtain ⟨p, b, vs, rfl, hd, id⟩ := vw_din g i ev
    obtain ⟨u, rfl, ru⟩ := vals1 r
    cases ru
    have dv := ndo_dv I hd
    have z : (vs.map fun kv => kVn kv.1).length ≤ sizeLine := by rw [List.length_map]; exact dv.few
    refine dv.list (I.ok.hd hc) kVn nk_rel fun h' t' us c hv hg hk => ⟨.ref s.heap.objs.size, upd H s.heap.objs.size (.lst (vs.map fun kv => kVn kv.1)), I.laid hk (Nat.le_refl _) ?_, rfl, q.lst g (isL_keysN id) _ (I.hok.fresh (Nat.le_refl _))⟩
    exact ⟨z, us, c, hv, hg⟩
  · exact cb_listU hc pins s σ H xs us Q I r ⟨an, dr, om, τ, G, rs, g, hp, h⟩
def rCmpN (X : Cx) (op : CmpOp) : R2 := fun x y H Q => ∃ an dr om τ G ra rb, Good X.K an dr om τ G H ∧ IsR X.K G τ x ra ∧ IsR X.K G τ y rb ∧ cmpN X.prog X.w op (vw om ra) (vw om rb) fun b => Q (.bl b) H
theorem op_cmpN {op : CmpOp} (hu : X.A.units + 65 < cLine) : OpR X (compareOp op) (rCmpN X op) := by
  intro pins s σ H x y v u Q I rx ry h
  obtain ⟨an, dr, om, τ, G, ra, rb, g, ha, hb, h⟩ := h
  unfold cmpN at h
  split at h
  · rename_i P' w' kds e
    obtain ⟨⟨rfl, rfl⟩, k, e1, q⟩ := h
    obtain ⟨p, b, vs, rfl, hd, id⟩ := vw_din g hb e
    obtain rfl := keyDn_is (vw_not g ha e1 (keyDn_flat k))
    cases ry
    rw [← isD_valN id] at q
    exact (ndo_dv I hd).has (nk_of rx) fun t' => ⟨.bl _, H, I.tok t', rfl, q⟩
  · rename_i P' w' kds e
    obtain ⟨⟨rfl, rfl⟩, k, e1, q⟩ := h
    obtain ⟨p, b, vs, rfl, hd, id⟩ := vw_din g hb e
    obtain rfl := keyDn_is (vw_not g ha e1 (keyDn_flat k))
    cases ry
    rw [← isD_valN id] at q
    exact (ndo_dv I hd).lacks (nk_of rx) fun t' => ⟨.bl _, H, I.tok t', rfl, q⟩
  · exact op_cmpU hu pins s σ H x y v u Q I rx ry ⟨an, dr, om, τ, G, ra, rb, g, ha, hb, h⟩
theorem tail_dict {ea eb : Expr} {pins : List (Addr × Obj)} {s : Shared} {σ : L2.St} {p : Addr} {u : Value} {Q : VK} (hT : s.TypeIs (.ref p) "dict") (hs : subscripted eb false (.ref p) u = operate [.ref p, u] (getItem (.ref p) u))
    (h : wpAny (model X.prog X.w) X.A (getItem (.ref p) u) (EP X pins σ Q) X.xe s) : wpAny (model X.prog X.w) X.A (subscriptTail ea eb (.ref p) u) (EP X pins σ Q) X.xe s := by
  have fin : wpAny (model X.prog X.w) X.A (subscripted eb false (.ref p) u) (fun r s₃ => wpAny (model X.prog X.w) X.A (letTemporaryGo ea (.ref p) r >>= fun _ => pure r) (EP X pins σ Q) X.xe s₃) X.xe s := by
    rw [hs]
    exact wpAny_operating (wpAny_mono h (fun r s₃ h₃ => wpAny_bind (wpAny_letTemporaryGo (wpAny_pure h₃))) fun _ _ x => x)
  unfold PyProof.Rows.subscriptTail
  refine wpAny_bind ?_
  rw [getitemInPython_of_ne hT.not_modules]
  refine wpAny_bind (wpAny_specialOf hT PySem.F.slot_dict_getitem.lookup ?_)
  first
    | exact wpAny_pure (wpAny_bind fin)
    | exact wpAny_bind (wpAny_pure (wpAny_bind fin))
    | exact wpAny_bind fin
def rIxN (X : Cx) : R2 := fun x y H Q => ∃ an dr om τ G ra rb, Good X.K an dr om τ G H ∧ IsR X.K G τ x ra ∧ IsR X.K G τ y rb ∧ DL.ixN X.prog X.w (vw om ra) (vw om rb) (Fin X.K an dr om τ G Q)
theorem ix_N (hu : X.A.units + 1 < cLine) : IxR X (rIxN X) := by
  intro ea eb pins s σ H x y v u Q I rx ry h hs
  obtain ⟨an, dr, om, τ, G, ra, rb, g, ha, hb, h⟩ := h
  unfold DL.ixN at h
  split at h
  · rename_i P' w' kds e
    obtain ⟨⟨rfl, rfl⟩, k, d, e1, e2, q⟩ := h
    obtain ⟨p, b, vs, rfl, hd, id⟩ := vw_din g ha e
    obtain rfl := keyDn_is (vw_not g hb e1 (keyDn_flat k))
    cases rx
    obtain ⟨z, hz, iz⟩ := isD_valS id e2
    have dv := ndo_dv I hd
    exact tail_dict dv.is hs (dv.item (nk_of ry) hz fun y' t' ry' => ⟨z, H, I.tok t', ry', q.flat g iz⟩)
  · exact ix_U hu ea eb pins s σ H x y v u Q I rx ry ⟨an, dr, om, τ, G, ra, rb, g, ha, hb, h⟩ hs
variable {an : An} {dr : Option Dr} {ρ : Rho} {om : Om} {a b : Expr} {pos : Pos} {Q : R → Om → Prop} {T : Bool → Om → Prop}
theorem we_cmpN {op : CmpOp} (hu : X.A.units + 65 < cLine) (h : WE X an dr ρ om a fun ra om1 => WE X an dr ρ om1 b fun rb om2 => cmpN X.prog X.w op (vw om2 ra) (vw om2 rb) fun t => Q (.v (.bl t)) om2) (hm : behindInMarks op b = false := by first | exact nobehind _ (by decide) (by decide) | rfl) :
    WE X an dr ρ om (.Compare a [op] [b] pos) Q :=
  peI (pe_cmpR (op_cmpN hu) (pe_u (an := an) (dr := dr)) (pe_u (an := an) (dr := dr)) hm) fun σ H K' ⟨τ, G, g, n, k⟩ =>
    uE_of h g n fun v r om1 τ1 G1 H1 h1 w g1 gr1 n1 => uE_of w g1 n1 fun v2 r2 om2 τ2 G2 H2 h2 q g2 gr2 n2 =>
      ⟨an, dr, om2, τ2, G2, r, r2, g2, h1.mono gr2, h2, cmpN_imp q fun t q => k _ _ om2 τ2 G2 H2 (.v (.bl t)) q g2 (gr1.trans gr2)⟩
theorem wt_cmpN {op : CmpOp} (hu : X.A.units + 65 < cLine) (h : WE X an dr ρ om a fun ra om1 => WE X an dr ρ om1 b fun rb om2 => cmpN X.prog X.w op (vw om2 ra) (vw om2 rb) fun t => T t om2) (hm : behindInMarks op b = false := by first | exact nobehind _ (by decide) (by decide) | rfl) :
    WT X an dr ρ om (.Compare a [op] [b] pos) T :=
  ptI (pt_cmpR (op_cmpN hu) (pe_u (an := an) (dr := dr)) (pe_u (an := an) (dr := dr)) hm) fun σ H K' ⟨τ, G, g, n, k⟩ =>
    uE_of h g n fun v r om1 τ1 G1 H1 h1 w g1 gr1 n1 => uE_of w g1 n1 fun v2 r2 om2 τ2 G2 H2 h2 q g2 gr2 n2 =>
      ⟨an, dr, om2, τ2, G2, r, r2, g2, h1.mono gr2, h2, cmpN_imp q fun t q => ⟨t, rfl, k _ om2 τ2 G2 H2 q g2 (gr1.trans gr2)⟩⟩
theorem we_ixN (hu : X.A.units + 65 < cLine) (h : WE X an dr ρ om a fun ra om1 => WE X an dr ρ om1 b fun rb om2 => DL.ixN X.prog X.w (vw om2 ra) (vw om2 rb) fun d => Q (.v d) om2) (hs : PlainIx b := by exact fun _ _ => rfl) : WE X an dr ρ om (.Subscript a b pos) Q :=
  peI (pe_ix (ix_N (by omega)) (pe_u (an := an) (dr := dr)) (pe_u (an := an) (dr := dr)) hs) fun σ H K' ⟨τ, G, g, n, k⟩ =>
    uE_of h g n fun v r om1 τ1 G1 H1 h1 w g1 gr1 n1 => uE_of w g1 n1 fun v2 r2 om2 τ2 G2 H2 h2 q g2 gr2 n2 =>
      ⟨an, dr, om2, τ2, G2, r, r2, g2, h1.mono gr2, h2, ixN_imp q fun d q v' G' H' i' g' gr' => k v' _ om2 τ2 G' H' (.v i') q g' ((gr1.trans gr2).trans gr')⟩
end
end DL

namespace DL
open PySem PySem.Spec PyProof.Rows L2
def someK {α : Type} (kds : List (Key × α)) : List (Option Key × α) := kds.map fun p => (some p.1, p.2)
theorem IsD.someK {K : PySem.W.Frag} {G : Hp} : ∀ {vs : List (Key × V)} {ds : List (Key × D)}, IsD K G vs ds → IsD K G (DL.someK vs) (DL.someK ds)
  | _, _, .nil => .nil
  | _, _, .cons h q => .cons h (IsD.someK q)
def dropN {κ : Type} [DecidableEq κ] (kds : List (κ × D)) (k : κ) : List (κ × D) := kds.filter fun p => !decide (p.1 = k)
def dputN (P : Program) (w : World) (c x v : D) (K : D → Prop) : Prop := match c with
  | .din P' w' kds => (P' = P ∧ w' = w) ∧ ∃ k, x = keyDn k ∧ kds.length < sizeLine ∧ K (.din P w (putE kds k v))
  | .dic kds => kds.length < sizeLine ∧ ((x = .non ∧ K (.din P w (putE (someK kds) none v))) ∨ ∃ k, x = keyDat k ∧ K (.dic (putE kds k v)))
  | _ => False
def dcopyN (P : Program) (w : World) (d : D) (K : D → Prop) : Prop := match d with
  | .din P' w' kds => (P' = P ∧ w' = w) ∧ K (.din P w kds)
  | d => dcopyS d K
def dropE {κ : Type} [DecidableEq κ] (kds : List (κ × D)) (k : κ) : List (κ × D) := kds.filter fun p => decide (p.1 ≠ k)
theorem IsD.dropE {K : PySem.W.Frag} {G : Hp} {κ : Type} [DecidableEq κ] {k : κ} : ∀ {vs : List (κ × V)} {ds : List (κ × D)}, IsD K G vs ds → IsD K G (dropK vs k) (DL.dropE ds k)
  | _, _, .nil => .nil
  | _, _, .cons (k := j) (v := v) (d := d) (vs := vs) (ds := ds) h q => by
    have t := IsD.dropE (k := k) q
    unfold dropK DL.dropE at t ⊢
    by_cases e : j = k
    · rw [List.filter_cons_of_neg (by simpa using e), List.filter_cons_of_neg (by simpa using e)]
      exact t
    · rw [List.filter_cons_of_pos (by simpa using e), List.filter_cons_of_pos (by simpa using e)]
      exact .cons h t
def dpopN (P : Program) (w : World) (c x : D) (K : D → D → Prop) : Prop := match c with
  | .din P' w' kds => (P' = P ∧ w' = w) ∧ ∃ k d, x = keyDn k ∧ valE kds k = some d ∧ K d (.din P w (dropE kds k))
  | .dic kds => ∃ k d, x = keyDat k ∧ valE kds k = some d ∧ K d (.dic (dropE kds k))
  | _ => False
def dicN (P : Program) (w : World) (c : D) (A : Prop) : Prop := match c with
  | .din P' w' _ => (P' = P ∧ w' = w) ∧ A
  | .dic _ => A
  | _ => False
section
variable {X : Cx} {o i e : Expr} {pos pos' apos cpos p : Pos} {td ty tv : TE}
def SetR (X : Cx) (r : V → V → V → Hp → (Hp → Prop) → Prop) : Prop :=
  ∀ (pins : List (Addr × Obj)) (s : Shared) (σ : L2.St) (H : Hp) (x y v : V) (xv yv vv : Value) (Q : Hp → Prop), Inv X pins σ H s → RelV x xv → RelV y yv → RelV v vv → r x y v H Q →
    wpAny (model X.prog X.w) X.A (setItem xv yv vv) (fun _ s' => ∃ H', Inv X pins σ H' s' ∧ Q H') X.xe s
def rSetN (X : Cx) : V → V → V → Hp → (Hp → Prop) → Prop := fun x y v H Q => ∃ a, x = .ref a ∧
  ((∃ b kvs k, H a = some (NDo X.prog X.w b kvs) ∧ y = kVn k ∧ kvs.length < sizeLine ∧ Q (upd H a (NDo X.prog X.w a (putK kvs k v)))) ∨
   (∃ kvs, H a = some (.dK kvs) ∧ y = .non ∧ kvs.length < sizeLine ∧ Q (upd H a (NDo X.prog X.w a (putK (someK kvs) none v)))) ∨
   ∃ kvs k, H a = some (.dK kvs) ∧ y = kV k ∧ kvs.length < sizeLine ∧ Q (upd H a (.dK (putK kvs k v))))
variable {an : An} {dr : Option Dr} {ρ : Rho} {om : Om} {E : Ed} {x : Str} {n k : Nat} {ix : Expr}
def rCopyN (X : Cx) : List V → Hp → VK → Prop := fun xs H Q => ∃ a, xs = [.ref a] ∧ ((∃ b kvs, Rd H a (NDo X.prog X.w b kvs) ∧ ∀ p, H p = none → Q (.ref p) (upd H p (NDo X.prog X.w p kvs))) ∨ ∃ kvs, Rd H a (.dK kvs) ∧ ∀ p, H p = none → Q (.ref p) (upd H p (.dK kvs)))
def rPopN (X : Cx) : V → List V → Hp → VK → Prop := fun x ys H Q => ∃ a y, x = .ref a ∧ ys = [y] ∧
  ((∃ b kvs k v, H a = some (NDo X.prog X.w b kvs) ∧ y = kVn k ∧ valV kvs k = some v ∧ Q v (upd H a (NDo X.prog X.w a (dropK kvs k)))) ∨
   ∃ kvs k v, H a = some (.dK kvs) ∧ y = kV k ∧ valV kvs k = some v ∧ Q v (upd H a (.dK (dropK kvs k))))
end
end DL

namespace DL
open PySem
section
variable {prog : Program} {w : World} {A : Around} {q ti tO i1 i2 L : Addr} {fp1 fp2 : List Addr} {n1 n2 : Nat} {P1 P2 : Nat → Value → Prop} {St1 St2 : Nat → Heap → Prop}
structure ZL (h0 : Heap) (q ti tO i1 i2 L : Addr) (P1 P2 : Nat → Value → Prop) (St1 St2 : Nat → Heap → Prop) (i : Nat) (acc : Array Value) (h : Heap) : Prop where
  ins : IsTupOf2 h ti (.ref i1) (.ref i2)
  st1 : St1 i h
  st2 : St2 i h
  zip : (IsZip h q ti tO .none ∧ ∃ a b, IsTupOf2 h tO a b) ∨ ∃ T f oT, IsZipHeld h q ti tO T f ∧ h.get? T = some oT ∧ T ≠ q ∧ T ≠ i1 ∧ T ≠ i2 ∧ T ≠ L
  size : acc.size = i
  told : ∀ (j : Nat) (v : Value), acc[j]? = some v → ∃ b x y, v = .ref b ∧ IsTupOf2 h b x y ∧ P1 j x ∧ P2 j y ∧ b ≠ q ∧ b ≠ tO ∧ b ≠ i1 ∧ b ≠ i2 ∧ L < b
  one : ∀ (j k : Nat) (v : Value), acc[j]? = some v → acc[k]? = some v → j = k
  old : ∀ b o, b ≠ q → b ≠ tO → b ≠ i1 → b ≠ i2 → b ≠ L → h0.get? b = some o → h.get? b = some o
  here : ∃ o, h.get? q = some o
  hereO : ∃ o, h.get? tO = some o
structure ApL (q ti tO i1 i2 L : Addr) (fp1 fp2 : List Addr) : Prop where
  q : q ≠ L
  ti : ti ≠ L
  tO : tO ≠ L
  f1 : L ∉ fp1
  f2 : L ∉ fp2
theorem push_at {acc : Array Value} {u v : Value} {j : Nat} (e : (acc.push u)[j]? = some v) : acc[j]? = some v ∨ (j = acc.size ∧ v = u) := by
  rw [Array.getElem?_push] at e
  split at e
  · rename_i c
    cases e
    exact .inr ⟨c, rfl⟩
  · exact .inl e
theorem ZL.next {E : Value → Shared → Prop} {s : Shared} {h0 : Heap} {i : Nat} {acc : Array Value} (z : ZL h0 q ti tO i1 i2 L P1 P2 St1 St2 i acc s.heap) (S : ZipSep2 q ti tO i1 i2 fp1 fp2) (ap : ApL q ti tO i1 i2 L fp1 fp2) (hL : L < s.heap.objs.size)
    (D1 : Draws prog w A.in1 i1 fp1 n1 P1 St1) (D2 : Draws prog w A.in1 i2 fp2 n2 P2 St2) (l1 : i < n1) (l2 : i < n2) {Q : Option Value → Shared → Prop}
    (k : ∀ v h' tk, ZL h0 q ti tO i1 i2 L P1 P2 St1 St2 (i + 1) (acc.push v) h' → (∀ b o, b ≠ q → b ≠ tO → b ≠ i1 → b ≠ i2 → s.heap.get? b = some o → h'.get? b = some o) → Q (some v) { s with heap := h', toks := tk }) : wpAny (model prog w) A (pyNext (.ref q)) Q E s := by
  have m1 : s.heap.objs.size ≠ i1 := by obtain ⟨_, e⟩ := D1.live _ _ z.st1; exact Nat.ne_of_gt (Heap.lt_size e)
  have m2 : s.heap.objs.size ≠ i2 := by obtain ⟨_, e⟩ := D2.live _ _ z.st2; exact Nat.ne_of_gt (Heap.lt_size e)
  have m3 : s.heap.objs.size ≠ q := by obtain ⟨_, e⟩ := z.here; exact Nat.ne_of_gt (Heap.lt_size e)
  have m4 : s.heap.objs.size ≠ L := Nat.ne_of_gt hL
  have m5 : s.heap.objs.size ≠ tO := by obtain ⟨_, e⟩ := z.hereO; exact Nat.ne_of_gt (Heap.lt_size e)
  have grown : ∀ x1 x2 h', P1 i x1 → P2 i x2 → St1 (i + 1) h' → St2 (i + 1) h' → IsTupOf2 h' s.heap.objs.size x1 x2 → (∃ f, IsZipHeld h' q ti tO s.heap.objs.size f ∨ ∃ T oT, IsZipHeld h' q ti tO T f ∧ h'.get? T = some oT ∧ T ≠ q ∧ T ≠ i1 ∧ T ≠ i2 ∧ T ≠ L) → (∃ o, h'.get? tO = some o) →
      (∀ b o, b ≠ q → b ≠ tO → b ≠ i1 → b ≠ i2 → s.heap.get? b = some o → h'.get? b = some o) → ZL h0 q ti tO i1 i2 L P1 P2 St1 St2 (i + 1) (acc.push (.ref s.heap.objs.size)) h' := fun x1 x2 h' p1 p2 d3 d4 d5 hz hO kp => {
    ins := kp _ _ S.TIz S.TITO S.TIi1 S.TIi2 z.ins
    st1 := d3
    st2 := d4
    zip := by
      obtain ⟨f, hz | ⟨T, oT, c1, c2, c3, c4, c5, c6⟩⟩ := hz
      · exact .inr ⟨_, f, _, hz, d5, m3, m1, m2, m4⟩
      · exact .inr ⟨T, f, oT, c1, c2, c3, c4, c5, c6⟩
    size := by rw [Array.size_push, z.size]
    told := fun j v e => by
      rcases push_at e with e | ⟨e1, e2⟩
      · obtain ⟨b, x, y, e1, e2, e3, e4, e5, e6, e7, e8, e9⟩ := z.told j v e
        exact ⟨b, x, y, e1, kp _ _ e5 e6 e7 e8 e2, e3, e4, e5, e6, e7, e8, e9⟩
      · rw [z.size] at e1
        subst e1
        exact ⟨_, x1, x2, e2, d5, p1, p2, m3, m5, m1, m2, hL⟩
    one := fun j k v e1 e2 => by
      have apart : ∀ (j : Nat) (v : Value), acc[j]? = some v → v = .ref s.heap.objs.size → False := fun j v e e' => by
        obtain ⟨b, x, y, z1, z2, _⟩ := z.told j v e
        rw [e'] at z1
        cases z1
        exact Nat.lt_irrefl _ (Heap.lt_size z2)
      rcases push_at e1 with f1 | ⟨f1, f1'⟩
      · rcases push_at e2 with f2 | ⟨f2, f2'⟩
        · exact z.one j k v f1 f2
        · exact (apart j v f1 f2').elim
      · rcases push_at e2 with f2 | ⟨f2, f2'⟩
        · exact (apart k v f2 f1').elim
        · rw [f1, f2]
    old := fun b o h1 h2 h3 h4 h5 e => kp b o h1 h2 h3 h4 (z.old b o h1 h2 h3 h4 h5 e)
    here := by
      obtain ⟨f, hz | ⟨T, oT, c1, _⟩⟩ := hz
      · exact ⟨_, hz⟩
      · exact ⟨_, c1⟩
    hereO := hO }
  rcases z.zip with ⟨c1, x, y, c2⟩ | ⟨T, f, oT, c1, c2, c3, c4, c5, c6⟩
  · exact wpAny_pyNext_zipD2_item S D1 D2 c1 z.ins c2 z.st1 z.st2 l1 l2 fun x1 x2 h' tk p1 p2 d1 d2 d3 d4 d5 d6 kp => k _ h' tk (grown x1 x2 h' p1 p2 d3 d4 d5 ⟨false, .inl d1⟩ ⟨_, d2⟩ kp) kp
  · exact next_held_item S D1 D2 c1 c2 z.ins z.st1 z.st2 l1 l2 fun x1 x2 h' tk p1 p2 d1 d3 d4 d5 kp => k _ h' tk (grown x1 x2 h' p1 p2 d3 d4 d5 ⟨true, .inr ⟨T, oT, d1, kp _ _ c3 c4 c5 c2, c3, c4, c5, c6⟩⟩ (by obtain ⟨o, e⟩ := z.hereO; exact ⟨o, kp _ _ S.TOz (fun x => S.Tf1 (x ▸ S.mem1)) (fun x => S.Tf2 (x ▸ S.mem2)) e⟩) fun b o h1 _ h3 h4 e => kp b o h1 h3 h4 e) fun b o h1 _ h3 h4 e => kp b o h1 h3 h4 e
theorem ZL.stop {E : Value → Shared → Prop} {s : Shared} {h0 : Heap} {i : Nat} {acc : Array Value} (z : ZL h0 q ti tO i1 i2 L P1 P2 St1 St2 i acc s.heap) (S : ZipSep2 q ti tO i1 i2 fp1 fp2)
    (D1 : Draws prog w A.in1 i1 fp1 n1 P1 St1) (D2 : Draws prog w A.in1 i2 fp2 n2 P2 St2) (l1 : i ≤ n1) (l2 : i ≤ n2) (en : i = n1 ∨ i = n2) {Q : Option Value → Shared → Prop}
    (k : ∀ h' tk, (∀ b o, b ≠ q → b ≠ tO → b ≠ i1 → b ≠ i2 → s.heap.get? b = some o → h'.get? b = some o) → Q none { s with heap := h', toks := tk }) : wpAny (model prog w) A (pyNext (.ref q)) Q E s := by
  rcases z.zip with ⟨c1, x, y, c2⟩ | ⟨T, f, oT, c1, c2, c3, c4, c5, c6⟩
  · exact wpAny_pyNext_zipD2_end S D1 D2 c1 z.ins c2 z.st1 z.st2 l1 l2 en fun h' tk kp => k h' tk kp
  · exact next_held_end S D1 D2 c1 c2 z.ins z.st1 z.st2 l1 l2 en fun h' tk kp => k h' tk fun b o h1 _ h3 h4 e => kp b o h1 h3 h4 e
def ZEnd (h0 : Heap) (q tO i1 i2 L : Addr) (P1 P2 : Nat → Value → Prop) (n : Nat) (us : List Value) (h : Heap) : Prop :=
  us.length = n ∧ (∃ c, h.get? L = some { cls := .type "list", dict := none, data := .seq us.toArray c, slots := #[] }) ∧ (∀ (j : Nat) (v : Value), us[j]? = some v → ∃ b x y, v = .ref b ∧ IsTupOf2 h b x y ∧ P1 j x ∧ P2 j y ∧ L < b) ∧ (∀ (j k : Nat) (v : Value), us[j]? = some v → us[k]? = some v → j = k) ∧
  ∀ b o, b ≠ q → b ≠ tO → b ≠ i1 → b ≠ i2 → b ≠ L → h0.get? b = some o → h.get? b = some o
end
end DL
namespace DL
open PySem L2 PyProof.Rows PySem.Spec
section
variable {X : Cx} {an : An} {dr : Option Dr} {ρ : Rho} {om : Om} {e a b : Expr} {es : List Expr} {pos p p2 pos2 : Pos} {Q : R → Om → Prop}
def layT : List (V × V) → Hp → (List Addr → Hp → Prop) → Prop
  | [], H, K => K [] H
  | z :: zs, H, K => ∀ p, H p = none → layT zs (upd H p (.tup [z.1, z.2])) fun bs H' => K (p :: bs) H'
def tListZip (K : PySem.W.Frag) (ta : TA) : TE := fun σ H Q => ta σ H fun vs H1 => ∃ (l1 l2 : Addr) (t1 t2 : Bool) (xs ys : List V), vs = [.ref l1, .ref l2] ∧ SqU K H1 t1 l1 xs ∧ SqU K H1 t2 l2 ys ∧
  layT (xs.zip ys) H1 fun bs H2 => ∀ d, H2 d = none → Q (.ref d) (upd H2 d (.lst (bs.map V.ref)))
theorem refs_of : ∀ {us : List Value}, (∀ (j : Nat) (v : Value), us[j]? = some v → ∃ b, v = .ref b) → ∃ bs : List Addr, us = bs.map Value.ref
  | [], _ => ⟨[], rfl⟩
  | u :: us, h => by
    obtain ⟨b, rfl⟩ := h 0 u rfl
    obtain ⟨bs, rfl⟩ := refs_of (us := us) fun j v e => h (j + 1) v e
    exact ⟨b :: bs, rfl⟩
theorem paired_at {α β : Type} {r : α → β → Prop} : ∀ {as : List α} {bs : List β}, as.length = bs.length → (∀ (j : Nat) (a : α) (b : β), as[j]? = some a → bs[j]? = some b → r a b) → Paired r as bs
  | [], [], _, _ => .nil
  | [], _ :: _, e, _ => by cases e
  | _ :: _, [], e, _ => by cases e
  | a :: as, b :: bs, e, h => .cons (h 0 a b rfl rfl) (paired_at (Nat.succ.inj e) fun j x y e1 e2 => h (j + 1) x y e1 e2)
theorem vals_refs : ∀ bs : List Addr, Vals (bs.map V.ref) (bs.map Value.ref)
  | [] => .nil
  | _ :: bs => .cons rfl (vals_refs bs)
def lzipS (a b : D) (K : D → Prop) : Prop := match a, b with
  | .lst xs, .lst ys => K (.lst (zipD xs ys))
  | .lst xs, .tup ys => K (.lst (zipD xs ys))
  | _, _ => False
end
end DL

namespace DL
open PySem PySem.W PySem.Calls PyProof.Rows PySem.SeqAt
def SortsT (ds : List PyData) : Prop := (∀ d, d ∈ ds → ∃ x r, d = .tuple (x :: r)) ∨ ((∀ d, d ∈ ds → d ≠ .none ∧ ∀ xs, d ≠ .tuple xs) ∨ ∀ d, d ∈ ds → ∃ xs, d = .tuple xs)
section
variable {prog : Program} {w : World} {A : Around} {E : Value → Shared → Prop} {s : Shared}
def empT : PyData → Bool
  | .tuple [] => true
  | _ => false
theorem tups_firsts {M : Model} : ∀ {vs : List Value} {ds : List PyData} {Q : List (Option Value) → Shared → Prop}, EachIs (fun v d => ∃ as, Reads s.heap v d as) vs ds → (∀ d, d ∈ ds → ∃ xs, d = .tuple xs) →
    (∀ fs : List (Option Value), fs.map (·.isSome) = ds.map (fun d => !empT d) → Q fs s) → wpAny M A (vs.mapM firstOfTuple') Q E s
  | _, _, Q, .nil, _, h => by rw [List.mapM_nil]; exact wpAny_pure (h [] rfl)
  | _, _, Q, .cons (a := v) (b := d) ⟨as, r⟩ t, ht, h => by
    obtain ⟨xs, rfl⟩ := ht d List.mem_cons_self
    rw [List.mapM_cons]
    refine wpAny_bind ?_
    cases r with
    | @tuple l o ws n _ _ h1 h2 h3 h4 =>
      have sz : ws.size = xs.length := by simpa using ReadsAll.length _ _ _ h4
      rw [kas_first_eq]
      refine wpAny_bind (Looks.here (show Looks M s.heap (typeOf (.ref l)) o.cls from (Looks.ld h1).andThen .now) ?_)
      rw [h2, if_neg (by simp)]
      refine wpAny_bind (listItems_at h1 h3 (wpAny_pure ?_))
      refine wpAny_bind (tups_firsts t (fun d hd => ht d (List.mem_cons_of_mem _ hd)) fun fs e => wpAny_pure (h _ ?_))
      rw [List.map_cons, List.map_cons, e]
      congr 1
      cases xs with
      | nil =>
        have : ws = #[] := Array.eq_empty_of_size_eq_zero sz
        rw [this]
        rfl
      | cons x r =>
        have lt : 0 < ws.size := by rw [sz]; exact Nat.succ_pos _
        rw [Array.getElem?_eq_getElem lt]
        rfl
end
end DL

namespace DL
open PySem PySem.Spec PyProof.Rows L2
abbrev EntV := NestedKey × Addr × V
abbrev EntU := NestedKey × Addr × Value
def EntR (p : EntV) (q : EntU) : Prop := p.1 = q.1 ∧ p.2.1 = q.2.1 ∧ RelV p.2.2 q.2.2
def keyOf (d : D) : NestedKey := (nkD d).getD .none
def encK (d : D) : PyData := (keyOf d).data
def putKD (kds : List (D × D)) (d v : D) : List (D × D) := if kds.any (fun p => decide (nkD p.1 = nkD d)) = true then kds.map (fun p => if nkD p.1 = nkD d then (p.1, v) else p) else kds ++ [(d, v)]
def dputK (P : Program) (w : World) (c x v : D) (K : D → Prop) : Prop := (∃ ds k, x = .tup ds ∧ nkD x = some k ∧ k.depth ≤ 8) ∧ match c with
  | .dky P' w' kds => (P' = P ∧ w' = w) ∧ kds.length < sizeLine ∧ K (.dky P w (putKD kds x v))
  | .dit [] => K (.dky P w [(x, v)])
  | _ => False
def sortK (kds : List (D × D)) : List D := (kds.map (·.1)).mergeSort (PySem.W.dataLe false encK)
def SortsK (kds : List (D × D)) : Prop := PySem.W.AllAlike (kds.map fun p => encK p.1) ∧ SortsT (kds.map fun p => encK p.1) ∧ ∀ p ∈ kds, (encK p.1).depth ≤ 8
def sortKS (P : Program) (w : World) (c : D) (K : D → Prop) : Prop := match c with
  | .dky P' w' kds => (P' = P ∧ w' = w) ∧ SortsK kds ∧ K (.lst (sortK kds))
  | .dit [] => K (.lst [])
  | _ => False
def putX (xs : List EntV) (k : NestedKey) (b : Addr) (v : V) : List EntV := if xs.any (fun x => decide (x.1 = k)) = true then xs.map (fun x => if x.1 = k then (x.1, x.2.1, v) else x) else xs ++ [(k, b, v)]
theorem ent_any {k : NestedKey} : ∀ {xs : List EntV} {vs : List EntU}, Paired EntR xs vs → (atKey vs k).isSome = xs.any fun x => decide (x.1 = k)
  | _, _, .nil => rfl
  | _, _, .cons (a := x) (b := y) r t => by
    have ih := ent_any (k := k) t
    unfold atKey at ih ⊢
    rw [List.find?_cons, List.any_cons, ← r.1]
    by_cases e : x.1 = k
    · simp [e]
    · simp only [decide_eq_false e, Bool.false_or]
      exact ih
theorem ent_map {k : NestedKey} {v : V} {u : Value} (rv : RelV v u) : ∀ {xs : List EntV} {vs : List EntU}, Paired EntR xs vs → Paired EntR (xs.map fun x => if x.1 = k then (x.1, x.2.1, v) else x) (vs.map (putAt k u))
  | _, _, .nil => .nil
  | _, _, .cons (a := x) (b := y) r t => by
    refine .cons ?_ (ent_map rv t)
    unfold putAt
    show EntR (if x.1 = k then (x.1, x.2.1, v) else x) _
    by_cases e : x.1 = k
    · rw [if_pos e, if_pos (r.1 ▸ e)]
      exact ⟨r.1, r.2.1, rv⟩
    · rw [if_neg e, if_neg (fun z => e (r.1.trans z))]
      exact r
theorem paired_snoc {α β : Type} {R : α → β → Prop} {x : α} {y : β} (r : R x y) : ∀ {xs : List α} {ys : List β}, Paired R xs ys → Paired R (xs ++ [x]) (ys ++ [y])
  | _, _, .nil => .cons r .nil
  | _, _, .cons q t => .cons q (paired_snoc r t)
section
variable {K : PySem.W.Frag} {G : Hp} {k : NestedKey} {b : Addr} {v : V} {d e : D}
theorem KeyD.len : ∀ {xs : List EntV} {ds : List (D × D)}, KeyD K G xs ds → xs.length = ds.length
  | _, _, .nil => rfl
  | _, _, .cons _ _ _ _ t => congrArg (· + 1) (KeyD.len t)
theorem KeyD.any (hk : nkD d = some k) : ∀ {xs : List EntV} {ds : List (D × D)}, KeyD K G xs ds → xs.any (fun x => decide (x.1 = k)) = ds.any fun p => decide (nkD p.1 = nkD d)
  | _, _, .nil => rfl
  | _, _, .cons h1 _ _ _ t => by
    rw [List.any_cons, List.any_cons, KeyD.any hk t, h1, hk]
    simp
theorem KeyD.put (hk : nkD d = some k) (hd : k.depth ≤ 8) (ib : Is K G (.ref b) d) (iv : Is K G v e) {xs : List EntV} {ds : List (D × D)} (h : KeyD K G xs ds) : KeyD K G (putX xs k b v) (putKD ds d e) := by
  unfold putX putKD
  rw [h.any hk]
  split
  · rename_i c
    clear c
    induction h with
    | nil => exact .nil
    | @cons k0 b0 v0 d0 e0 xs ds h1 h2 h3 h4 t ih =>
      rw [List.map_cons, List.map_cons]
      by_cases z : k0 = k
      · rw [if_pos z, if_pos (by rw [h1, hk, z])]
        exact .cons h1 h2 h3 iv ih
      · rw [if_neg z, if_neg (by rw [h1, hk]; exact fun q => z (Option.some.inj q))]
        exact .cons h1 h2 h3 h4 ih
  · rename_i c
    clear c
    induction h with
    | nil => exact .cons hk hd ib iv .nil
    | cons h1 h2 h3 h4 t ih => exact .cons h1 h2 h3 h4 ih
end
section
variable {X : Cx} {pins : List (Addr × Obj)} {σ : L2.St} {H G : Hp} {s : Shared}
mutual
theorem Is.nested (I : Inv X pins σ H s) (ex : Ex G H) : ∀ {v : V} {d : D} {u : Value} {k : NestedKey}, Is X.K G v d → nkD d = some k → RelV v u → NestedIs s.heap k u ∧ Reads s.heap u k.data []
  | _, _, _, _, .non, e, r => by
    cases r
    cases (show some NestedKey.none = some _ by simpa only [nkD] using e)
    exact ⟨.none, by simp only [NestedKey.data]; exact Reads.none⟩
  | _, _, _, _, .int i, e, r => by
    obtain ⟨t, rfl⟩ := r
    cases (show some (NestedKey.num i) = some _ by simpa only [nkD] using e)
    exact ⟨.int _ _, by simp only [NestedKey.data]; exact Reads.int _ _⟩
  | _, _, _, _, .str x, e, r => by
    obtain ⟨t, rfl⟩ := r
    cases (show some (NestedKey.text x) = some _ by simpa only [nkD] using e)
    exact ⟨.text _ _, by simp only [NestedKey.data]; exact Reads.str _ _⟩
  | _, _, _, _, .tup h q, e, r => by
    cases r
    simp only [nkD, Option.map_eq_some_iff] at e
    obtain ⟨ks, e, rfl⟩ := e
    obtain ⟨its, rv, ⟨o, ho, hc, n, hd⟩, _⟩ := I.tuple (.inl (.inl (ex _ _ h)))
    obtain ⟨z1, z2⟩ := IsL.nested I ex q e rv
    exact ⟨.tup ho hc hd (by simpa using z1), by simp only [NestedKey.data]; exact Reads.tuple ho hc hd (by simpa using z2)⟩
  | _, _, _, _, .tup0 h, e, r => by
    cases r
    simp only [nkD, Option.map_eq_some_iff] at e
    obtain ⟨ks, e, rfl⟩ := e
    obtain ⟨its, rv, ⟨o, ho, hc, n, hd⟩, _⟩ := I.tuple (h.sq _)
    obtain ⟨z1, z2⟩ := IsL.nested I ex (.nil) e rv
    exact ⟨.tup ho hc hd (by simpa using z1), by simp only [NestedKey.data]; exact Reads.tuple ho hc hd (by simpa using z2)⟩
  | _, _, _, _, .bl _, e, _ => by simp [nkD] at e
  | _, _, _, _, .ty _, e, _ => by simp [nkD] at e
  | _, _, _, _, .lst _ _, e, _ => by simp [nkD] at e
  | _, _, _, _, .dic _ _, e, _ => by simp [nkD] at e
  | _, _, _, _, .dit _ _, e, _ => by simp [nkD] at e
  | _, _, _, _, .din _ _, e, _ => by simp [nkD] at e
  | _, _, _, _, .dky _, e, _ => by simp [nkD] at e
  | _, _, _, _, .ins _ _, e, _ => by simp [nkD] at e
  | _, _, _, _, .obj _, e, _ => by simp [nkD] at e
  | _, _, _, _, .exc0 _, e, _ => by simp [nkD] at e
  | _, _, _, _, .excF _ _ _, e, _ => by simp [nkD] at e
  | _, _, _, _, .lam _ _ _ _ _, e, _ => by simp [nkD] at e
  | _, _, _, _, .lamP _ _, e, _ => by simp [nkD] at e
theorem IsL.nested (I : Inv X pins σ H s) (ex : Ex G H) : ∀ {vs : List V} {ds : List D} {us : List Value} {ks : List NestedKey}, IsL X.K G vs ds → nkDs ds = some ks → Vals vs us → NestedAll s.heap ks us ∧ ReadsAll s.heap us (NestedKey.datas ks) []
  | _, _, _, _, .nil, e, r => by
    cases r
    cases (show some ([] : List NestedKey) = some _ by simpa only [nkDs] using e)
    exact ⟨.nil, by simp only [NestedKey.datas]; exact ReadsAll.nil⟩
  | _, _, _, _, .cons (d := d) (ds := ds) i q, e, r => by
    cases r with
    | cons r1 r2 =>
      cases e1 : nkD d with
      | none => simp [nkDs, e1] at e
      | some k =>
        cases e2 : nkDs ds with
        | none => simp [nkDs, e1, e2] at e
        | some ks =>
          cases (show some (k :: ks) = some _ by simpa only [nkDs, e1, e2] using e)
          obtain ⟨a1, a2⟩ := Is.nested I ex i e1 r1
          obtain ⟨b1, b2⟩ := IsL.nested I ex q e2 r2
          exact ⟨.cons a1 b1, by simp only [NestedKey.datas]; exact ReadsAll.cons (as := []) (bs := []) a2 b2⟩
end
theorem KeyD.nested (I : Inv X pins σ H s) (ex : Ex G H) : ∀ {xs : List EntV} {ds : List (D × D)} {vs : List EntU}, KeyD X.K G xs ds → Paired EntR xs vs → ∀ x ∈ vs, (nestedKind X.prog X.w).is s.heap x.1 x.2.1
  | _, _, _, .nil, .nil, x, hx => by cases hx
  | _, _, _, .cons h1 h2 h3 _ t, .cons r rt, x, hx => by
    rcases List.mem_cons.mp hx with rfl | hx
    · refine ⟨?_, by rw [← r.1]; exact h2⟩
      have := (Is.nested I ex h3 h1 (u := .ref _) rfl).1
      rw [← r.1, ← r.2.1]
      exact this
    · exact KeyD.nested I ex t rt x hx
def rSetK (X : Cx) : V → V → V → Hp → (Hp → Prop) → Prop := fun x y v H Q => ∃ a b k d G, x = .ref a ∧ y = .ref b ∧ nkD d = some k ∧ k.depth ≤ 8 ∧ Ex G H ∧ Is X.K G (.ref b) d ∧
  ((∃ c xs ds, H a = some (NKo X.prog X.w c xs) ∧ KeyD X.K G xs ds ∧ xs.length < sizeLine ∧ Q (upd H a (NKo X.prog X.w a (putX xs k b v)))) ∨ (H a = some (.dT []) ∧ Q (upd H a (NKo X.prog X.w a [(k, b, v)]))))
end
section
variable {X : Cx} {an : An} {dr : Option Dr} {ρ : Rho} {om : Om} {E : Ed} {x : Str} {n k : Nat} {ix e : Expr} {pos pos' p : Pos}
end
end DL

namespace DL
open PySem PySem.Spec PyProof.Rows L2
def keysAt (xs : List EntV) (ds : List (D × D)) : List (Addr × D) := List.zipWith (fun x p => (x.2.1, p.1)) xs ds
section
variable {K : PySem.W.Frag} {G : Hp}
theorem keysAt_snd : ∀ {xs : List EntV} {ds : List (D × D)}, KeyD K G xs ds → (keysAt xs ds).map (·.2) = ds.map (·.1)
  | _, _, .nil => rfl
  | _, _, .cons _ _ _ _ t => congrArg (_ :: ·) (keysAt_snd t)
theorem keysAt_is : ∀ {xs : List EntV} {ds : List (D × D)}, KeyD K G xs ds → ∀ y ∈ keysAt xs ds, Is K G (.ref y.1) y.2 ∧ ∃ k, nkD y.2 = some k
  | _, _, .nil, y, h => by cases h
  | _, _, .cons h1 _ h3 _ t, y, h => by
    rcases List.mem_cons.mp h with rfl | h
    · exact ⟨h3, _, h1⟩
    · exact keysAt_is t y h
theorem keysAt_get : ∀ {xs : List EntV} {ds : List (D × D)} {vs : List EntU}, KeyD K G xs ds → Paired EntR xs vs → ∀ (i : Nat) (u : EntU), vs[i]? = some u → ∃ d, (keysAt xs ds)[i]? = some (u.2.1, d)
  | _, _, _, .nil, .nil, i, u, h => by simp at h
  | _, _, _, .cons (d := d) h1 _ h3 _ t, .cons r rt, 0, u, h => by
    simp at h
    subst h
    exact ⟨d, congrArg (fun a => some (a, d)) r.2.1⟩
  | _, _, _, .cons h1 _ h3 _ t, .cons r rt, i + 1, u, h => by
    obtain ⟨d, e⟩ := keysAt_get t rt i u (by simpa using h)
    exact ⟨d, e⟩
end
theorem each_of_get {α β : Type} {R : α → β → Prop} : ∀ {us : List α} {bs : List β}, us.length = bs.length → (∀ (i : Nat) (u : α), us[i]? = some u → ∃ b, bs[i]? = some b ∧ R u b) → PySem.W.EachIs R us bs
  | [], [], _, _ => .nil
  | u :: us, b :: bs, l, h => by
    refine .cons ?_ (each_of_get (Nat.succ.inj l) fun i x e => h (i + 1) x e)
    obtain ⟨b', e, r⟩ := h 0 u rfl
    cases (show some b = some b' from e)
    exact r
  | [], _ :: _, l, _ => by cases l
  | _ :: _, [], l, _ => by cases l
theorem refs_vals : ∀ {us : List Value} {ys : List (Addr × D)}, PySem.W.EachIs (fun (v : Value) (y : Addr × D) => v = .ref y.1) us ys → Vals (ys.map fun y => V.ref y.1) us
  | _, _, .nil => .nil
  | _, _, .cons e t => .cons e (refs_vals t)
section
variable {X : Cx}
def rSortK (X : Cx) : List V → Hp → VK → Prop := fun vs H Q => ∃ a xs ds G, vs = [.ref a] ∧ ((∃ b, Rd H a (NKo X.prog X.w b xs)) ∨ (H a = some (.dT []) ∧ xs = [])) ∧ Ex G H ∧ KeyD X.K G xs ds ∧ SortsK ds ∧
  ∀ (ys : List (Addr × D)) p, ys.map (·.2) = sortK ds → (∀ y ∈ ys, Is X.K G (.ref y.1) y.2) → H p = none → Q (.ref p) (upd H p (.lst (ys.map fun y => V.ref y.1)))
variable {an : An} {dr : Option Dr} {ρ : Rho} {om : Om} {e : Expr} {pos p : Pos} {Q : R → Om → Prop}
theorem isL_at {K : PySem.W.Frag} {G : Hp} : ∀ {ys : List (Addr × D)}, (∀ y ∈ ys, Is K G (.ref y.1) y.2) → IsL K G (ys.map fun y => V.ref y.1) (ys.map (·.2))
  | [], _ => .nil
  | y :: ys, h => .cons (h y List.mem_cons_self) (isL_at fun z hz => h z (List.mem_cons_of_mem _ hz))
end
end DL

namespace DL
open PySem PySem.Spec PyProof.Rows L2
def dispKS (kx : D) (A : Prop) : Prop := ∃ ds k, kx = .tup ds ∧ nkD kx = some k ∧ k.depth ≤ 8 ∧ A
def catS (a b : D) (K : List D → Prop) : Prop := match a, b with
  | .lst xs, .lst ys => xs.length + ys.length ≤ sizeLine ∧ K (xs ++ ys)
  | _, _ => False
def CatOf (a b : D) (l : List D) : Prop := ∃ xs ys, a = .lst xs ∧ b = .lst ys ∧ xs.length + ys.length ≤ sizeLine ∧ l = xs ++ ys
section
variable {X : Cx} {an : An} {dr : Option Dr} {ρ : Rho} {om : Om} {ke ve : Expr} {pos : Pos} {Q : R → Om → Prop}
def tDispK (X : Cx) (tk tv : TE) : TE := fun σ H Q => ∀ p, H p = none → tPairs [(tk, tv)] σ (upd H p (.dT [])) fun ps H2 => H2 p = some (.dT []) ∧ ∃ b k d G y, ps = [(.ref b, y)] ∧ nkD d = some k ∧ k.depth ≤ 8 ∧ Ex G H2 ∧ Is X.K G (.ref b) d ∧ ∀ b', Q (.ref p) (upd H2 p (NKo X.prog X.w p [(k, b', y)]))
end
end DL

namespace DL
open PySem L2 LamX PyProof.Rows
structure InsN (K : PySem.W.Frag) (C : Addr) : Prop where
  cx : ClsX K C
  no : ∀ T, Kn T → PySem.W.kitOne K (.ref C) (.type T) = some false
def isiMF (C0 : Addr) : Wp := fun ds K => match ds with
  | [.ins C _, .ty T] => C = C0 ∧ Kn T ∧ K (.bl false)
  | ds => isiNF ds K
theorem isiMF_mono {C0 : Addr} : ∀ ds Q Q', (∀ d, Q d → Q' d) → isiMF C0 ds Q → isiMF C0 ds Q' := fun ds Q Q' i h => by
  unfold isiMF at h ⊢
  split at h
  · exact ⟨h.1, h.2.1, i _ h.2.2⟩
  · exact isiNF_mono _ _ _ i h
theorem cb_isiM {X : Cx} {C0 : Addr} (hI : InsN X.K C0) : CallR X (.builtin "isinstance") (rB X (isiMF C0)) := by
  intro pins s σ H xs us Q I r h
  obtain ⟨an, dr, om, τ, G, rs, g, hp, h⟩ := h
  unfold isiMF at h
  split at h
  · rename_i C fs T e
    obtain ⟨rfl, hk, q⟩ := h
    obtain ⟨v, r0, v', r1, rfl, rfl, i, ev, i', ev'⟩ := two_args hp e
    have i2 := vw_not g i' ev' rfl
    cases i2
    obtain ⟨a, dx, ws, rfl, hx, _⟩ := vw_ins g i ev
    obtain ⟨c1, c2, c3, c4, c5⟩ := hI.cx
    exact call_isi pins s σ H _ us Q I r ⟨.ref a, .ty T, _, .type T, false, rfl, .ty T, .base (.ins hx c1 c2 c3 c4 c5), hI.no T hk, q.flat g (.bl _)⟩
  · exact cb_isiN pins s σ H xs us Q I r ⟨an, dr, om, τ, G, rs, g, hp, h⟩
structure HasMW (P : Program) (w : World) (K : PySem.W.Frag) (mg : Str → Option Value) (base : Heap) (dr : Option Dr) (k : Nat) (C : Addr) (m : Str) (ps ks : List Str) (perm : List Nat) (W : Wp) : Prop where
  ex : ∃ f fd, FnOk P w K mg base CX0 k f fd ps (spD K dr W) ∧ Meth K C m f ∧ KBn K fd ps 1 ks (fun vs ws => vs ++ pickL perm ws) (fun vs zs => vs ++ pickL perm zs)
  cl : Cls K C
  mono : ∀ ds Q Q', (∀ d, Q d → Q' d) → W ds Q → W ds Q'
section
variable {X : Cx} {an : An} {dr : Option Dr} {ρ : Rho} {om : Om} {o : Expr} {pos p apos : Pos} {Q : R → Om → Prop} {m : Str} {ps ks : List Str} {W : Wp} {k j : Nat} {C : Addr} {kws : List Keyword} {perm : List Nat}
end
end DL

namespace DL
open PySem PySem.Spec PyProof.Rows L2
def isiKF (C0 : Addr) : Wp := fun ds K => match ds with
  | [.dky _ _ _, .ty T] => Kn T ∧ K (.bl (isT (.dic []) T))
  | [.dky _ _ _, .tup ts] => KnAll ts ∧ K (.bl (isAny (.dic []) ts))
  | ds => isiMF C0 ds K
end DL

namespace DL
open PySem PySem.Spec PyProof.Rows L2
section
variable {X : Cx} {κ : Type} [DecidableEq κ] {knd : KeyKind X.prog X.w κ} {pins : List (Addr × Obj)} {σ : L2.St} {H : Hp} {s : Shared} {d : Addr} {kvs : List (κ × V)} {Q : VK} {cpos : Pos}
end
section
variable {X : Cx} {an : An} {dr : Option Dr} {ρ : Rho} {om : Om} {e : Expr} {p apos cpos pos : Pos} {Q : R → Om → Prop}
def tItemsN (X : Cx) (te : TE) : TE := fun σ H Q => te σ H fun x H1 => ∃ d, x = .ref d ∧ ((∃ kvs : List (Key × V), Rd H1 d (.dK kvs) ∧ layT (kvs.map fun p => (kV p.1, p.2)) H1 fun bs H2 => ∀ L, H2 L = none → Q (.ref L) (upd H2 L (.lst (bs.map V.ref)))) ∨
  ∃ (b : Addr) (kvs : List (Option Key × V)), Rd H1 d (NDo X.prog X.w b kvs) ∧ layT (kvs.map fun p => (kVn p.1, p.2)) H1 fun bs H2 => ∀ L, H2 L = none → Q (.ref L) (upd H2 L (.lst (bs.map V.ref))))
end
def litemsN (P : Program) (w : World) (d : D) (K : D → Prop) : Prop := match d with
  | .dic kds => K (.lst (kds.map fun kv => .tup [keyDat kv.1, kv.2]))
  | .din P' w' kds => (P' = P ∧ w' = w) ∧ K (.lst (kds.map fun kv => .tup [keyDn kv.1, kv.2]))
  | _ => False
section
variable {K : PySem.W.Frag} {an : An} {dr : Option Dr} {om : Om} {τ : List Addr}
theorem lay_pairs {κ : Type} {f : κ → V} {fd : κ → D} (hf : ∀ (G : Hp) (k : κ), Is K G (f k) (fd k)) : ∀ {kvs : List (κ × V)} {kds : List (κ × D)} {G H : Hp} {N : List Addr → Hp → Prop}, Good K an dr om τ G H → IsD K G kvs kds →
    (∀ bs G' H', Good K an dr om τ G' H' → Grow G τ G' τ → IsL K G' (bs.map V.ref) (kds.map fun kv => .tup [fd kv.1, kv.2]) → N bs H') → layT (kvs.map fun p => (f p.1, p.2)) H N
  | _, _, G, H, N, g, .nil, k => k [] G H g (Grow.refl _ _) .nil
  | _, _, G, H, N, g, @IsD.cons _ _ _ key v vs d ds a t, k => fun p hp => by
    have e := Ex.new (o := .tup [f key, v]) (g.ex.free hp)
    exact lay_pairs hf (g.alloc hp) (t.mono e) fun bs G' H' g' gr' i => k (p :: bs) G' H' g' ((g.grow hp).trans gr') (.cons (.tup (gr'.ex _ _ upd_same) (.cons (hf G' key) (.cons (a.mono (e.trans gr'.ex)) .nil))) i)
end
section
variable {X : Cx} {an : An} {dr : Option Dr} {ρ : Rho} {om : Om} {e b : Expr} {p apos cpos pos : Pos} {Q : R → Om → Prop}
end
def emptyN (P : Program) (w : World) (d : D) (K : Bool → Prop) : Prop := match d with
  | .dic kds => K kds.isEmpty
  | .din P' w' kds => (P' = P ∧ w' = w) ∧ K kds.isEmpty
  | _ => False
def rNe0 (X : Cx) : R2 := fun x y H Q => ∃ a b, x = .ref a ∧ y = .ref b ∧ Rd H b (.dK []) ∧ ((∃ kvs : List (Key × V), Rd H a (.dK kvs) ∧ Q (.bl (!kvs.isEmpty)) H) ∨ ∃ (c : Addr) (kvs : List (Option Key × V)), Rd H a (NDo X.prog X.w c kvs) ∧ Q (.bl (!kvs.isEmpty)) H)
section
variable {X : Cx} {an : An} {dr : Option Dr} {ρ : Rho} {om : Om} {a : Expr} {p pos : Pos} {Q : R → Om → Prop}
end
end DL

namespace DL
open PySem PySem.Spec PyProof.Rows L2
theorem tup_once (l : Addr) (items : Array Value) (n : Nat) (dd : Option Addr) (sl : Array (Option Value)) (u : Tok) (ne : items.isEmpty = false) :
    Meets (Builtin.«tuple.__mul__» ⟨[.ref l, .int 1 u], []⟩) (fun _ R s => s.heap.get? l = some { cls := .type "tuple", dict := dd, data := .seq items n, slots := sl } ∧ R (.ok (.ret (Value.ref l))) s) :=
  .of_wp fun prog w A R s h => by
    obtain ⟨hp, g, d, tk, os⟩ := s
    obtain ⟨hl, h⟩ := h
    have f1 := AutoSeq1.idx_int
    wp_walk using wpAny_loadPart' hl
    exact ⟨_, rfl, h⟩

def rRepN (K : PySem.W.Frag) : R2 := fun x y H Q => ∃ l k xs, x = .ref l ∧ y = .int k ∧ SqT K H l xs ∧ xs ≠ [] ∧ k ≤ 1000 ∧ xs.length ≤ 1000 ∧ ((k = 1 ∧ Q (.ref l) H) ∨ (2 ≤ k ∧ ∀ p, H p = none → Q (.ref p) (upd H p (.tup (List.replicate k.toNat xs).flatten))))
theorem op_repN {X : Cx} : OpR X (binaryOp .Mult) (rRepN X.K) := by
  rintro pins s σ H x y v u Q I rx ry ⟨l, k, xs, ex, ey, hT, ne, k1, lx, h⟩
  rcases h with ⟨rfl, q⟩ | ⟨k2, q⟩
  · subst ex
    subst ey
    obtain rfl : v = Value.ref l := rx
    obtain ⟨t, rfl⟩ : ∃ t, u = Value.int 1 t := ry
    obtain ⟨its, r, ⟨⟨cls, dd, data, sl⟩, ho, hc, n, hd⟩, _⟩ := I.tuple hT
    obtain rfl : cls = _ := hc
    obtain rfl : data = _ := hd
    have hi : its.toArray.isEmpty = false := by
      cases its with
      | nil =>
        cases r
        exact absurd rfl ne
      | cons => rfl
    exact wpAny_binaryOp_repeat_ref (T := "tuple") (U := "int") (by decide) ⟨_, ho, rfl⟩ (fun s' => typeIs_int s' 1 t) noFill_tuple_mul F.fills_int_mul F.slot_int_rmul repeat_tuple F.slot_int_index.lookup
      (call_meets F.slot_int_rmul (typeIs_int s 1 t) F.entry_int_rmul (F.args_int_rmul_2 _ _) (int_rmul_tuple 1 t l its.toArray n dd sl)
        ⟨ho, rfl, ⟨_, ho, rfl⟩, call_meets F.slot_tuple_mul ⟨_, ho, rfl⟩ F.entry_tuple_mul (F.args_tuple_mul_2 _ _) (tup_once l its.toArray n dd sl t hi) ⟨ho, ⟨.ref l, H, I, rfl, q⟩⟩⟩)
  · exact op_repT pins s σ H x y v u Q I rx ry ⟨l, k, xs, ex, ey, hT, ne, k2, k1, lx, q⟩
def tmulN (x y : D) (K : D → Prop) : Prop := match x, y with
  | .tup a, .int j => (a ≠ [] ∧ 1 ≤ j ∧ j ≤ 1000 ∧ a.length ≤ 1000) ∧ K (.tup (List.replicate j.toNat a).flatten)
  | _, _ => False
section
variable {X : Cx} {an : An} {dr : Option Dr} {ρ : Rho} {om : Om} {a b : Expr} {pos : Pos} {Q : R → Om → Prop}
end
end DL

namespace DL
open PySem PySem.Spec L2
section
variable {X : Cx} {an : An} {dr : Option Dr} {ρ : Rho} {om : Om} {e e2 o : Expr} {es : List Expr} {pos p apos : Pos} {Q : R → Om → Prop} {E : Ed} {x f : Str} {i k : Nat} {C O : Addr}
structure IsClO (K : PySem.W.Frag) (C O : Addr) : Prop where
  cx : ClsX K O
  no : PySem.W.kitOne K (.ref O) (.ref C) = some false
def isCOS (C O : Addr) (d : D) (K : Bool → Prop) : Prop := match d with
  | .ins B _ => (B = C ∧ K true) ∨ (B = O ∧ K false)
  | d => isAnyData d = true ∧ K false
end
end DL

namespace DL
open PySem PySem.Spec PyProof.Rows L2
def cmpL (op : CmpOp) (x y : D) (K : Bool → Prop) : Prop := match op, x, y with
  | .Eq, .lst (_ :: _), .lst [] => K false
  | .NotEq, .lst (_ :: _), .lst [] => K true
  | op, x, y => cmpU op x y K
def rCmpL (X : Cx) (op : CmpOp) : R2 := fun x y H Q => ∃ an dr om τ G ra rb, Good X.K an dr om τ G H ∧ IsR X.K G τ x ra ∧ IsR X.K G τ y rb ∧ cmpL op (vw om ra) (vw om rb) fun b => Q (.bl b) H
section
variable {X : Cx}
variable {an : An} {dr : Option Dr} {ρ : Rho} {om : Om} {a b : Expr} {pos : Pos} {Q : R → Om → Prop} {T : Bool → Om → Prop}
end
end DL

namespace DL
open PySem PySem.Spec PyProof.Rows L2
theorem fm_same {α β : Type} {f g : α → Option β} : ∀ {l : List α}, (∀ x ∈ l, f x = g x) → l.filterMap f = l.filterMap g
  | [], _ => rfl
  | x :: l, h => by
    rw [List.filterMap_cons, List.filterMap_cons, h x List.mem_cons_self, fm_same fun y hy => h y (List.mem_cons_of_mem _ hy)]
theorem back_all : ∀ (n : Nat) (xs : List Value), xs.length = n → ((List.range n).filterMap fun m => xs[n - 1 - m]?) = xs.reverse
  | 0, xs, h => by rw [List.length_eq_zero_iff.mp h]; rfl
  | n + 1, xs, h => by
    have ne : xs ≠ [] := fun e => by rw [e] at h; cases h
    obtain ⟨ys, x, rfl⟩ : ∃ ys x, xs = ys ++ [x] := ⟨xs.dropLast, xs.getLast ne, (List.dropLast_concat_getLast ne).symm⟩
    rw [List.length_append, List.length_singleton] at h
    have hl : ys.length = n := Nat.succ.inj h
    rw [List.range_succ_eq_map, List.reverse_append, List.reverse_singleton]
    have e0 : (ys ++ [x])[n + 1 - 1 - 0]? = some x := by
      show (ys ++ [x])[n]? = some x
      rw [List.getElem?_append_right (by omega), hl, Nat.sub_self]
      rfl
    rw [List.filterMap_cons_some (f := fun m => (ys ++ [x])[n + 1 - 1 - m]?) e0, List.filterMap_map, ← back_all n ys hl]
    refine congrArg (x :: ·) (fm_same fun m hm => ?_)
    have lt := List.mem_range.mp hm
    show (ys ++ [x])[n + 1 - 1 - (m + 1)]? = ys[n - 1 - m]?
    rw [List.getElem?_append_left (by omega)]
    congr 1
    omega
section
variable {P : Program} {w : World} {A : Around} {E : Value → Shared → Prop} {s : Shared} {t sl : Addr} {vl vu vs : Value}
theorem places_back (n : Nat) : Builtin.Slice.slicePlaces ((n : Int) - 1) (-1) (-1) = n := by
  unfold Builtin.Slice.slicePlaces
  rw [if_neg (by decide)]
  cases n with
  | zero => rfl
  | succ n =>
    rw [if_pos (by omega)]
    have : ((((n + 1 : Nat) : Int) - 1 - -1 - 1) / - -1 + 1).toNat = n + 1 := by
      rw [show (- -1 : Int) = 1 from rfl, Int.ediv_one]
      omega
    exact this
theorem applied_back {n : Nat} {Q : Int × Int × Nat → Shared → Prop} (h : s.heap.IsSliceOf sl vl vu vs) (p1 : IsPart vl none) (p2 : IsPart vu none) (p3 : IsPart vs (some (-1))) (q : Q ((n : Int) - 1, -1, n) s) :
    wpAny (model P w) A (Builtin.Slice.sliceApplied (.ref sl) (pure (n : Int))) Q E s := by
  obtain ⟨ob, h1, _, h2⟩ := h
  unfold Builtin.Slice.sliceApplied Builtin.Slice.sliceFields
  have c : wpAny (model P w) A (pure (vl, vu, vs)) (fun r s' => r = (vl, vu, vs) ∧ s' = s) E s := wpAny_pure ⟨rfl, rfl⟩
  refine wpAny_bind (wpAny_bind (wpAny_field h1 h2 (x := vl) rfl (wpAny_bind (wpAny_field h1 h2 (x := vu) rfl (wpAny_bind (wpAny_field h1 h2 (x := vs) rfl (wpAny_pure ?_)))))))
  refine wpAny_bind (HT.slicePart_ p3 ?_)
  show wpAny _ _ (if ((-1 : Int) == 0) = true then _ else _) _ _ s
  rw [if_neg (show ¬ ((-1 : Int) == 0) = true by decide)]
  refine wpAny_bind (HT.slicePart_ p1 (wpAny_bind (HT.slicePart_ p2 (wpAny_bind (wpAny_pure ?_)))))
  show wpAny _ _ (pure ((n : Int) - 1, (-1 : Int), Builtin.Slice.slicePlaces ((n : Int) - 1) (-1) (-1))) _ _ s
  rw [places_back n]
  exact wpAny_pure q
theorem tup_back {its : Array Value} {Q : Value → Shared → Prop} (hT : IsTup s.heap t its) (h : s.heap.IsSliceOf sl vl vu vs) (p1 : IsPart vl none) (p2 : IsPart vu none) (p3 : IsPart vs (some (-1))) (small : its.size ≤ sizeLine)
    (q : Q (.ref s.heap.objs.size) { s with heap := s.heap.push { cls := .type "tuple", data := .seq its.toList.reverse.toArray } }) : wpAny (model P w) A (getItem (.ref t) (.ref sl)) Q E s := by
  have isS : s.TypeIs (.ref sl) "slice" := by obtain ⟨ob, h1, h2, _⟩ := h; exact ⟨ob, h1, h2⟩
  have fits : sizeOk (.seq its.toList.reverse.toArray) := by
    show its.toList.reverse.toArray.size ≤ sizeLine
    rw [List.size_toArray, List.length_reverse, Array.length_toList]
    exact small
  have all : ((List.range its.size).filterMap fun (m : Nat) => its[((its.size : Int) - 1 + (m : Int) * -1).toNat]?).toArray = its.toList.reverse.toArray := by
    rw [← back_all its.size its.toList Array.length_toList]
    refine congrArg List.toArray (fm_same fun m hm => ?_)
    have lt := List.mem_range.mp hm
    rw [← Array.getElem?_toList]
    congr 1
    omega
  unfold getItem
  try with_reducible refine wpAny_holding ?_
  refine wpAny_bind (wpAny_sequenceKey hT.typeIs (by decide) (wpAny_bind (wpAny_callSpecial?_slot (name := Str.ofString "__getitem__") hT.typeIs slot_tuple_getitem (wpAny_call_entry slot_tuple_getitem hT.typeIs entry_tuple_getitem ?_ (args_tuple_getitem _ _)))))
  show wpAny _ _ (Builtin.Tuple.tupleItemsOf (.ref t) >>= fun xs => _) _ _ s
  refine wpAny_bind (tupleItemsOf_ hT (wpAny_bind (wpAny_typeOf isS ?_)))
  rw [if_pos (show (Value.type "slice" == Value.type "slice") = true by decide)]
  refine wpAny_bind (applied_back h p1 p2 p3 ?_)
  show wpAny _ _ (if ((its.size : Int) - 1 == 0 && (-1 : Int) == 1 && its.size == its.size) = true then _ else _) _ _ s
  rw [if_neg (by simp), all]
  exact wpAny_bind (m := Builtin.Tuple.tupleExact its.toList.reverse.toArray) (wpAny_newObj_type (wpAny_pure ⟨_, rfl, wpAny_pure q⟩) fits)
end
section
variable {X : Cx} {an : An} {dr : Option Dr} {ρ : Rho} {om : Om} {e : Expr} {pos p1 p2 p3 : Pos} {Q : R → Om → Prop} {k0 : Nat}
def tRevT (K : PySem.W.Frag) (te : TE) : TE := fun σ H Q => te σ H fun x H1 => ∃ a xs, x = .ref a ∧ SqT K H1 a xs ∧ ∀ l, H1 l = none → Q (.ref l) (upd H1 l (.tup xs.reverse))
theorem pe_revT {te : TE} (he : PE X e te) : PE X (.Subscript e (.Slice none none (some (.UnaryOp .USub (.Constant (.int 1) k0 p1) p2)) p3) pos) (tRevT X.K te) := by
  constructor
  intro pins s σ H Q I h
  refine Subscript_ (thn (he.run pins s σ H _ I h) fun v s1 z => ?_)
  obtain ⟨_, H1, I1, r1, a, xs, rfl, hx, q⟩ := z
  cases r1
  have step : PO X (some (.UnaryOp .USub (.Constant (.int 1) k0 p1) p2)) (tPart (tUn (rU fun i => .int (-i)) (tC (.int 1)))) := po_some (pe_un un_neg pe_int)
  refine wpAny_Slice (thn (po_none.run pins s1 σ H1 (fun o G => o = none ∧ H1 = G) I1 ⟨rfl, rfl⟩) fun vl s2 z2 => ?_)
  obtain ⟨_, _, I2, part1, rfl, rfl⟩ := z2
  refine thn (po_none.run pins s2 σ H1 (fun o G => o = none ∧ H1 = G) I2 ⟨rfl, rfl⟩) fun vu s3 z3 => ?_
  obtain ⟨_, _, I3, part2, rfl, rfl⟩ := z3
  refine thn (step.run pins s3 σ H1 (fun o G => o = some (-1) ∧ H1 = G) I3 ⟨1, rfl, -1, rfl, rfl, rfl⟩) fun vs s4 z4 => ?_
  obtain ⟨_, _, I4, part3, rfl, rfl⟩ := z4
  have I5 : Inv X pins σ H1 { s4 with heap := s4.heap.push { cls := .type "slice", data := .fields #[vl, vu, vs] } } := I4.kept (t' := s4.toks) fun b ob q => Heap.get?_push_of_some _ q
  obtain ⟨its, r, ht, hz⟩ := I5.tuple hx
  have len := r.length
  show wpAny (model X.prog X.w) X.A (subscriptTail e (.Slice none none (some (.UnaryOp .USub (.Constant (.int 1) k0 p1) p2)) p3) (.ref a) (.ref s4.heap.objs.size)) (EP X pins σ Q) X.xe { s4 with heap := s4.heap.push { cls := .type "slice", data := .fields #[vl, vu, vs] } }
  refine tail_any (ops := [.ref a, .ref s4.heap.objs.size]) ht.typeIs slot_tuple_getitem.lookup ?_ (by with_unfolding_all rfl)
  refine tup_back ht (Heap.IsSliceOf.new _ vl vu vs) part1 part2 part3 (by rw [List.size_toArray]; omega) ?_
  refine ⟨.ref _, _, I5.laid (t' := s4.toks) (o := .tup xs.reverse) (fun b ob q => Heap.get?_push_of_some _ q) (Nat.le_refl _) ?_, rfl, q _ (I5.hok.fresh (Nat.le_refl _))⟩
  exact ⟨by rw [List.length_reverse]; exact hz, _, r.reverse, _, Heap.get?_push_size _ rfl, rfl, _, rfl⟩
theorem we_revT0 (h : WE X an dr ρ om e fun r om1 => ∃ ds, vw om1 r = .tup ds ∧ Q (.v (.tup ds.reverse)) om1) : WE X an dr ρ om (.Subscript e (.Slice none none (some (.UnaryOp .USub (.Constant (.int 1) k0 p1) p2)) p3) pos) Q :=
  peI (pe_revT (pe_u (an := an) (dr := dr))) fun σ H K' ⟨τ, G, g, n, k⟩ => uE_of h g n fun v r om1 τ1 G1 H1 h1 w g1 gr1 n1 => by
    obtain ⟨ds, ev, q⟩ := w
    obtain ⟨b, vs, rfl, hb, il⟩ := vw_tup g1 h1 ev
    exact ⟨b, vs, rfl, hb, fun l hl => k _ _ om1 τ1 _ _ (.v (.tup upd_same (il.reverse.mono (Ex.new (g1.ex.free hl))))) q (g1.alloc hl) (gr1.trans (g1.grow hl))⟩
def revTS (d : D) (K : D → Prop) : Prop := match d with
  | .tup xs => K (.tup xs.reverse)
  | _ => False
theorem revTS_imp {d : D} {K Z : D → Prop} (h : revTS d K) (i : ∀ d, K d → Z d) : revTS d Z := by
  unfold revTS at h ⊢
  split at h
  · exact i _ h
  · exact h.elim
theorem we_revT (h : WE X an dr ρ om e fun r om1 => revTS (vw om1 r) fun d => Q (.v d) om1) : WE X an dr ρ om (.Subscript e (.Slice none none (some (.UnaryOp .USub (.Constant (.int 1) k0 p1) p2)) p3) pos) Q :=
  we_revT0 (WE.imp h fun r om1 q => by
    unfold revTS at q
    split at q
    · exact ⟨_, by assumption, q⟩
    · exact q.elim)
end
end DL

namespace DL
open PySem PySem.Spec PyProof.Rows L2
section
variable {X : Cx} {CXt : CXT} {n : Nat} {f C : Addr} {fd : FuncData} {ps : List Str} {sp : Sp} {E : XK} {m : Str}
theorem go_at {A : Around} {pins : List (Addr × Obj)} {σ : L2.St} {H : Hp} {s : Shared} {Q : VK} {vs : List V} {us : List Value} (F : FnOk X.prog X.w X.K X.mg X.base CXt n f fd ps sp) (ra : Room n A) (ea : A.frames = X.A.frames) (bi : Binds X.K fd ps []) (px : Passes CXt X E)
    (I : Inv X pins σ H s) (r : Vals vs us) (q : sp vs H Q E) : wpAny (model X.prog X.w) A (call (.ref f) us) (EP X pins σ Q) X.xe s := by
  have ll := r.length.symm.trans (F.len _ _ _ _ q)
  have bs := bi s us I.kIn (by rw [List.append_nil]; exact ll)
  rw [List.append_nil] at bs
  have z : Env0 X.prog X.w X.K X.mg X.base A X.stack s H := { I.env0 with frames := ea.trans I.env0.frames }
  refine wpAny_call (codeAny_mono (F.run A X.stack s H ⟨us, []⟩ us vs Q E ra z bs r q) fun r2 s2 g => ?_)
  match r2, g with
  | .error e, g => exact px pins σ H s e s2 I g
  | .ok (.ret v), g => exact I.after g
def rOwn2 (C : Addr) (sp : Sp) (E : XK) : R2 := fun x y H Q => ∃ a b da db fa fb, x = .ref a ∧ y = .ref b ∧ H a = some (.ins C da fa) ∧ H b = some (.ins C db fb) ∧ sp [x, y] H Q E
theorem inst_at {pins : List (Addr × Obj)} {σ : L2.St} {H : Hp} {s : Shared} {a da : Addr} {fa : List (Str × V)} (I : Inv X pins σ H s) (h : H a = some (.ins C da fa)) : ∃ od, PySem.W.InstAt s.heap a (PySem.W.instObj C da) C (some od) := by
  obtain ⟨_, J, _⟩ := ins_get I.hok h
  obtain ⟨od, J, _⟩ := J.look
  exact ⟨od, J⟩
def rOwn1 (C : Addr) (sp : Sp) (E : XK) : V → Hp → VK → Prop := fun x H Q => ∃ a da fa, x = .ref a ∧ H a = some (.ins C da fa) ∧ sp [x] H Q E
def rOwnIn (C : Addr) (neg : Bool) (sp : Sp) (E : XK) : R2 := fun y x H Q => ∃ a da fa, x = .ref a ∧ H a = some (.ins C da fa) ∧ sp [x, y] H (fun r H2 => ∃ t, r = .bl t ∧ Q (.bl (if neg = true then !t else t)) H2) E
end
section
variable {prog : Program} {w : World} {A : Around} {E : Value → Shared → Prop} {s : Shared} {K : PySem.W.Frag} {x C L f : Addr} {h₀ : Heap} {mm : Str → Option Value} {ox : Obj} {od : Option Obj} {b tb : Value}
theorem ne_raw {Q : Value → Shared → Prop} (hu : A.units + 1 < cLine) (fr : PyProof.Rows.Fr h₀ L s.heap mm) (k0 : K.In h₀) (J : PySem.W.InstAt s.heap x ox C od) (hb : PySem.W.Looks (model prog w) s.heap (typeOf b) tb) (hn : PySem.W.notFirst K C tb = true)
    (ne : PySem.W.findIn K (.ref C) "__ne__" = some (some (.builtin "object.__ne__"))) (mo : PySem.W.mroIn K C (.type "object") = some true) (eq : PySem.W.findIn K (.ref C) "__eq__" = some (some (.ref f))) (hf : PySem.W.isFn K (.ref f) = true)
    (h : wpAny (model prog w) A.in1 (call (.ref f) [.ref x, b]) (fun v s2 => ∃ t, v = .bool t ∧ Q (.bool (!t)) s2) E s) : wpAny (model prog w) A (richCompare .NotEq (.ref x) b) Q E s := by
  have X := k0.keeps fr.keep
  have body : wpAny (model prog w) A.in1 (Builtin.«object.__ne__» ⟨[.ref x, b], []⟩) (fun fin s2 => ∃ t, fin = .done (.ret (.bool (!t))) ∧ Q (.bool (!t)) s2) E s := by
    unfold Builtin.«object.__ne__»
    refine wpAny_bind (wpAny_pure ?_)
    refine wpAny_bind (wpAny_cRoomFor (by show A.in1.units < cLine; exact hu) ?_)
    refine wpAny_bind (m := callSpecialIfBound? (.ref x) (Str.ofString "__eq__") [b]) (PySem.W.ifBound_K X J eq hf (wpAny_mono h (fun v s2 g => ?_) fun _ _ e => e))
    obtain ⟨t, rfl, q⟩ := g
    exact wpAny_bind (wpAny_truthy_bool (wpAny_pure ⟨t, rfl, q⟩))
  have made : wpAny (model prog w) A (call (.builtin "object.__ne__") ([.ref x] ++ [b]) >>= fun v => pure (some v)) (fun r s2 => ∃ t, r = some (.bool (!t)) ∧ Q (.bool (!t)) s2) E s := by
    have chk : PySem.W.Looks (model prog w) s.heap (isInstance (.ref x) (.type "object")) true := J.type.andThen (PySem.W.looks_mroIn X mo)
    refine wpAny_bind (wpAny_call (codeAny_call_builtin PySem.F.cmp_object.ne.plain PySem.F.cmpEntry_ne (PySem.W.check_slot PySem.F.cmpKind_ne PySem.F.cmpSplit_ne chk (PySem.F.cmpArgs_ne _ _) (wpAny_mono body (fun fin s2 g => ?_) fun _ _ e => e))))
    obtain ⟨t, rfl, q⟩ := g
    exact wpAny_pure ⟨t, rfl, q⟩
  have bound : wpAny (model prog w) A (callSpecialIfBound? (.ref x) "__ne__" [b]) (fun r s2 => ∃ t, r = some (.bool (!t)) ∧ Q (.bool (!t)) s2) E s := by
    unfold callSpecialIfBound? bindSpecialIfBound?
    refine wpAny_holding (wpAny_bind (wpAny_bind (wpAny_bind (J.type.here ((PySem.W.looks_findIn X ne).here ?_)))))
    simp only [PySem.F.cmp_object.ne.bind]; apply wpAny_bind; apply wpAny_askSetting; apply wpAny_ite
    split <;> first | exact wpAny_bind (wpAny_pure (wpAny_pure (by exact made))) | exact wpAny_tryCatch (wpAny_bind (wpAny_pure (wpAny_pure (by exact made))))
  have one : wpAny (model prog w) A (tryCompare (.ref x) "__ne__" b) (fun r s2 => ∃ v, r = some v ∧ Q v s2) E s := by
    unfold tryCompare
    refine wpAny_bind (wpAny_mono bound (fun r s2 g => ?_) fun _ _ e => e)
    obtain ⟨t, rfl, q⟩ := g
    exact wpAny_pure ⟨_, rfl, q⟩
  have first_ : ∀ k : Option Value → Sem Value, (∀ v, k (some v) = pure v) → wpAny (model prog w) A (tryCompare (.ref x) "__ne__" b >>= k) Q E s := fun k hk => by
    refine wpAny_bind (wpAny_mono one (fun r s2 g => ?_) fun _ _ e => e)
    obtain ⟨v, rfl, q⟩ := g
    rw [hk]
    exact wpAny_pure q
  have behind : (Value.ref C != tb) = true → PySem.W.subIn K tb (.ref C) = some false := fun g => by
    unfold PySem.W.notFirst at hn
    cases z : (tb == Value.ref C) with
    | false => rw [z, Bool.false_or] at hn; exact beq_iff_eq.mp hn
    | true => rw [beq_iff_eq.mp z, bne_self_eq_false] at g; cases g
  unfold richCompare; simp only [oneThing_ref]
  refine wpAny_holding (wpAny_bind (wpAny_cRoomFor (Nat.lt_of_succ_lt hu) (wpAny_bind (J.type.here (wpAny_bind (hb.here ?_))))))
  split <;> rename_i g
  · refine wpAny_bind ((PySem.W.looks_subIn X (behind g)).here ?_)
    rw [if_neg Bool.false_ne_true]; exact first_ _ fun _ => rfl
  · refine wpAny_bind (wpAny_pure ?_)
    rw [if_neg Bool.false_ne_true]; exact first_ _ fun _ => rfl
end
end DL

namespace DL
open PySem PySem.Spec PyProof.Rows L2
def opS (C : Addr) (a b : D) (A : Prop) : Prop := match a, b with
  | .ins B _, .ins B' _ => (B = C ∧ B' = C) ∧ A
  | _, _ => False
def insOS (C : Addr) (a : D) (A : Prop) : Prop := match a with
  | .ins B _ => B = C ∧ A
  | _ => False
theorem insOS_inv {C : Addr} {a : D} {A : Prop} (h : insOS C a A) : ∃ fa, a = .ins C fa ∧ A := by
  unfold insOS at h
  split at h
  · obtain ⟨rfl, h⟩ := h
    exact ⟨_, rfl, h⟩
  · exact h.elim
theorem insOS_imp {C : Addr} {a : D} {A B : Prop} (h : insOS C a A) (i : A → B) : insOS C a B := by
  obtain ⟨_, rfl, q⟩ := insOS_inv h
  exact ⟨rfl, i q⟩
theorem blS_mono {d : D} {A B : Bool → Prop} (h : blS d A) (i : ∀ t, A t → B t) : blS d B := by
  unfold blS at h ⊢
  split at h
  · exact i _ h
  · exact h.elim
def inOS (C : Addr) (x a : D) (A : Prop) : Prop := x ≠ .dead ∧ insOS C a A
structure NeO (K : PySem.W.Frag) (C : Addr) : Prop where
  ne : PySem.W.findIn K (.ref C) "__ne__" = some (some (.builtin "object.__ne__"))
  mo : PySem.W.mroIn K C (.type "object") = some true
section
variable {X : Cx} {an : An} {dr : Option Dr} {ρ : Rho} {om : Om} {a b : Expr} {pos : Pos} {Q : R → Om → Prop} {T : Bool → Om → Prop} {m : Str} {ps : List Str} {W : WpX} {U : Wp} {k j : Nat} {C : Addr} {EX : D → Prop}
theorem spD_at {vs : List V} {ds : List D} {τ1 : List Addr} {G1 H1 : Hp} {om1 : Om} {K' : VK} {Z : D → Prop} (hm : ∀ ds Q Q', (∀ d, Q d → Q' d) → U ds Q → U ds Q') (g1 : Good X.K an dr om1 τ1 G1 H1) (i : IsL X.K G1 vs ds) (w : U ds Z) (k : ∀ v d G' H', Is X.K G' v d → Z d → Good X.K an dr om1 τ1 G' H' → Ex G1 G' → K' v H') : spD X.K dr U vs H1 K' E0 :=
  ⟨G1, ds, g1.pre, i, hm _ _ _ (fun d q v G' H' i' fr => k v d G' H' i' q (g1.call fr) fr.e1) w⟩
theorem isR_ins {K : PySem.W.Frag} {G : Hp} {τ : List Addr} {v : V} {r : R} {fa : List (Str × D)} (h : IsR K G τ v r) (e : vR r = .ins C fa) : ∃ p da fs, v = .ref p ∧ G p = some (.ins C da fs) ∧ Is K G v (.ins C fa) ∧ r = .v (.ins C fa) := by
  have e2 := isR_v (K := K) e (by simp)
  subst e2
  cases h with
  | v h =>
    cases h with
    | @ins p _ dx fs _ hp i => exact ⟨p, dx, fs, rfl, hp, .ins hp i, rfl⟩
theorem isR_live {K : PySem.W.Frag} {G : Hp} {τ : List Addr} {v : V} {r : R} (h : IsR K G τ v r) (n : vR r ≠ .dead) : Is K G v (vR r) := by
  cases h with
  | v h => exact h
  | o => exact absurd rfl n
def rOwnEq (C : Addr) (neg : Bool) (sp : Sp) (E : XK) : R2 := fun x y H Q => ∃ a b da db fa fb, x = .ref a ∧ y = .ref b ∧ H a = some (.ins C da fa) ∧ H b = some (.ins C db fb) ∧ sp [x, y] H (fun r H2 => ∃ t, r = .bl t ∧ Q (.bl (if neg = true then !t else t)) H2) E
end
end DL

namespace DL
open PySem PySem.Spec PyProof.Rows L2
section
variable {X : Cx} {an : An} {dr : Option Dr} {ρ : Rho} {om : Om} {kx vx tg iter : Expr} {pos : Pos} {Q : R → Om → Prop} {scope : Scope} {js : List Nat} {f : TgF}
end
section
variable {X : Cx} {an : An} {dr : Option Dr} {ρ : Rho} {om : Om} {elt tg iter tg1 iter1 : Expr} {ifs ifs1 : List Expr} {pos : Pos} {scope : Scope} {js js1 : List Nat} {f f1 : TgF}
end
def sortL (ds : List D) : List D := ds.mergeSort (PySem.W.dataLe false encK)
def SortsL (ds : List D) : Prop := (∀ d ∈ ds, ∃ k, nkD d = some k) ∧ PySem.W.AllAlike (ds.map encK) ∧ PySem.W.Sortable (ds.map encK) ∧ ∀ d ∈ ds, (encK d).depth ≤ 8
def sortLF : Wp := fun ds K => match ds with
  | [.lst xs] => (xs.length ≤ sizeLine ∧ SortsL xs) ∧ K (.lst (sortL xs))
  | _ => False
theorem isL_zip {K : PySem.W.Frag} {G : Hp} : ∀ {vs : List V} {ds : List D}, IsL K G vs ds → ∀ {us : List Value}, Vals vs us → (vs.zip ds).map (·.1) = vs ∧ (vs.zip ds).map (·.2) = ds ∧ PySem.W.EachIs (fun (u : Value) (p : V × D) => RelV p.1 u ∧ Is K G p.1 p.2) us (vs.zip ds)
  | _, _, .nil, _, .nil => ⟨rfl, rfl, .nil⟩
  | _, _, .cons h t, _, .cons r rt => by
    obtain ⟨e1, e2, e3⟩ := isL_zip t rt
    exact ⟨congrArg (_ :: ·) e1, congrArg (_ :: ·) e2, .cons ⟨r, h⟩ e3⟩
theorem each_isL {K : PySem.W.Frag} {G : Hp} : ∀ {us : List Value} {ps : List (V × D)}, PySem.W.EachIs (fun (u : Value) (p : V × D) => RelV p.1 u ∧ Is K G p.1 p.2) us ps → Vals (ps.map (·.1)) us ∧ IsL K G (ps.map (·.1)) (ps.map (·.2))
  | _, _, .nil => ⟨.nil, .nil⟩
  | _, _, .cons h t => ⟨.cons h.1 (each_isL t).1, .cons h.2 (each_isL t).2⟩
def rng2S (a b : D) (K : List D → Prop) : Prop := match a, b with
  | .int i, .int j => (-1000000 ≤ i ∧ i ≤ 1000000 ∧ -1000000 ≤ j ∧ j ≤ 1000000) ∧ K ((List.range (j - i).toNat).map fun m => D.int (i + (m : Nat)))
  | _, _ => False
theorem rng2S_imp {a b : D} {K Z : List D → Prop} (h : rng2S a b K) (i : ∀ d, K d → Z d) : rng2S a b Z := by
  unfold rng2S at h ⊢
  split at h
  · exact ⟨h.1, i _ h.2⟩
  · exact h.elim
section
variable {X : Cx} {an : An} {dr : Option Dr} {ρ : Rho} {om : Om} {e a b c : Expr} {pos p p2 p3 pos2 : Pos} {Q : R → Om → Prop}
def stepIx (n : Nat) (lo hi st : Option Int) : List Nat := sliceRange (sliceBounds lo hi st n).1 (sliceBounds lo hi st n).2.1 (sliceBounds lo hi st n).2.2
def stepD (ds : List D) (i k : Int) : List D := (stepIx ds.length (some i) none (some k)).filterMap (ds[·]?)
def stepS (x : D) (i k : Int) (K : D → Prop) : Prop := match x with
  | .lst ds => k ≠ 0 ∧ K (.lst (stepD ds i k))
  | _ => False
theorem isL_ix {K : PySem.W.Frag} {G : Hp} : ∀ {vs : List V} {ds : List D}, IsL K G vs ds → ∀ i : Nat, (∃ v d, vs[i]? = some v ∧ ds[i]? = some d ∧ Is K G v d) ∨ (vs[i]? = none ∧ ds[i]? = none)
  | _, _, .nil, i => .inr ⟨rfl, rfl⟩
  | _, _, .cons h t, 0 => .inl ⟨_, _, rfl, rfl, h⟩
  | _, _, .cons h t, i + 1 => by simpa using isL_ix t i
theorem isL_pick {K : PySem.W.Frag} {G : Hp} {vs : List V} {ds : List D} (h : IsL K G vs ds) : ∀ is : List Nat, IsL K G (is.filterMap (vs[·]?)) (is.filterMap (ds[·]?))
  | [] => .nil
  | i :: is => by
    rcases isL_ix h i with ⟨v, d, e1, e2, z⟩ | ⟨e1, e2⟩
    · rw [List.filterMap_cons_some e1, List.filterMap_cons_some e2]
      exact .cons z (isL_pick h is)
    · rw [List.filterMap_cons_none e1, List.filterMap_cons_none e2]
      exact isL_pick h is
theorem vals_ix : ∀ {xs : List V} {us : List Value}, Vals xs us → ∀ i : Nat, (∃ x u, xs[i]? = some x ∧ us[i]? = some u ∧ RelV x u) ∨ (xs[i]? = none ∧ us[i]? = none)
  | _, _, .nil, i => .inr ⟨rfl, rfl⟩
  | _, _, .cons h t, 0 => .inl ⟨_, _, rfl, rfl, h⟩
  | _, _, .cons h t, i + 1 => by simpa using vals_ix t i
theorem vals_pick {xs : List V} {us : List Value} (h : Vals xs us) : ∀ is : List Nat, Vals (is.filterMap (xs[·]?)) (is.filterMap (us[·]?))
  | [] => .nil
  | i :: is => by
    rcases vals_ix h i with ⟨v, d, e1, e2, z⟩ | ⟨e1, e2⟩
    · rw [List.filterMap_cons_some e1, List.filterMap_cons_some e2]
      exact .cons z (vals_pick h is)
    · rw [List.filterMap_cons_none e1, List.filterMap_cons_none e2]
      exact vals_pick h is
def tStep (te tl ts : TE) : TE := fun σ H Q => te σ H fun x H1 => tl σ H1 fun y H2 => ∃ i, y = .int i ∧ ts σ H2 fun z H3 => ∃ k, z = .int k ∧ ∃ p xs, x = .ref p ∧ H3 p = some (.lst xs) ∧ k ≠ 0 ∧ ∀ l, H3 l = none → Q (.ref l) (upd H3 l (.lst ((stepIx xs.length (some i) none (some k)).filterMap (xs[·]?))))
end
end DL

namespace DL
open PySem PySem.Spec PyProof.Rows L2
theorem nf_kit {K : PySem.W.Frag} {C : Addr} {t : Value} (h : PySem.W.kitOne K t (.ref C) = some false) : PySem.W.notFirst K C t = true := by
  unfold PySem.W.kitOne at h
  split at h
  · cases h
  · unfold PySem.W.kitCls at h
    simp only at h
    split at h
    · unfold PySem.W.notFirst
      rw [h]
      simp
    · cases h
def anyCO (C O : Addr) (d : D) : Prop := match d with
  | .ins B _ => B = C ∨ B = O
  | d => isAnyData d = true
def eqAS (C O : Addr) (a b : D) (A : Prop) : Prop := anyCO C O b ∧ insOS C a A
theorem eqAS_imp {C O : Addr} {a b : D} {A B : Prop} (h : eqAS C O a b A) (i : A → B) : eqAS C O a b B := ⟨h.1, insOS_imp h.2 i⟩
section
variable {X : Cx} {an : An} {dr : Option Dr} {ρ : Rho} {om : Om} {a b : Expr} {pos : Pos} {Q : R → Om → Prop} {T : Bool → Om → Prop} {x : Str} {ps : List Str} {U : Wp} {k j : Nat} {C O : Addr}
def rOwnEqA (K : PySem.W.Frag) (C : Addr) (neg : Bool) (sp : Sp) (E : XK) : R2 := fun x y H Q => ∃ a da fa t, x = .ref a ∧ H a = some (.ins C da fa) ∧ TyX K H y t ∧ PySem.W.notFirst K C t = true ∧ sp [x, y] H (fun r H2 => ∃ t, r = .bl t ∧ Q (.bl (if neg = true then !t else t)) H2) E
theorem eq_ownA {neg : Bool} (h : HasM X.prog X.w X.K X.mg X.base dr k C "__eq__" ps U) (no : neg = true → NeO X.K C) (hr : Room j X.A) (hkj : k + 1 ≤ j) : OpR X (compareOp (if neg = true then .NotEq else .Eq)) (rOwnEqA X.K C neg (spD X.K dr U) E0) := by
  obtain ⟨f, fd, F, me, bi⟩ := h.ex
  intro pins s σ H x y u v Q I rx ry hq
  obtain ⟨a, da, fa, tb, rfl, ha, ty, nf, q⟩ := hq
  cases rx
  obtain ⟨_, J⟩ := inst_at I ha
  obtain ⟨_, fr⟩ := I.fr
  obtain ⟨P, Z, pz, _⟩ := kit_of I ry ty
  have lk := Z.ty (model X.prog X.w) s.heap I.kIn pz
  have vs : Vals [V.ref a, y] [Value.ref a, v] := .cons rfl (.cons ry .nil)
  cases neg with
  | true =>
    have N := no rfl
    refine ne_raw (by have := hr.units; omega) fr I.ok.mod.kin J lk nf N.ne N.mo me.at_ me.fn (thn (go_at F ((hr.mono hkj).in1) rfl bi pass0 I vs q) fun v s2 g => ?_)
    obtain ⟨z, H2, I2, rz, t, rfl, qz⟩ := g
    cases rz
    exact ⟨t, rfl, .bl _, H2, I2, rfl, qz⟩
  | false =>
    refine PySem.W.cmp_K (op := .Eq) hr.units0 fr I.ok.mod.kin J lk nf me.at_ me.fn (thn (go_at F (hr.mono (by omega)) rfl bi pass0 I vs q) fun v s2 g => ?_)
    obtain ⟨z, H2, I2, rz, t, rfl, qz⟩ := g
    cases rz
    exact ⟨.bl _, H2, I2, rfl, qz⟩
theorem any_live {d : D} (q : anyCO C O d) : d ≠ .dead := by
  intro e
  rw [e] at q
  exact absurd q (by show ¬ isAnyData .dead = true; decide)
end
end DL

namespace DL
open PySem PySem.Spec PyProof.Rows L2
def listSF : Wp := fun ds K => match ds with
  | [.str z] => z.cps.size ≤ sizeLine ∧ K (.lst (z.cps.toList.map fun c => .str ⟨#[c]⟩))
  | _ => False
end DL

namespace DL
open PySem PySem.Spec PyProof.Rows L2
section
variable {prog : Program} {w : World} {A : Around} {E : Value → Shared → Prop} {s : Shared}
end
def boolLF : Wp := fun ds K => match ds with
  | [.lst xs] => K (.bl (!xs.isEmpty))
  | _ => False
section
variable {X : Cx} {an : An} {dr : Option Dr} {ρ : Rho} {om : Om} {a : Expr} {pos p : Pos} {Q : R → Om → Prop} {ps : List Str} {U : Wp} {k j : Nat} {C : Addr}
def rBoolI (C : Addr) (sp : Sp) (E : XK) : List V → Hp → VK → Prop := fun xs H Q => ∃ a da fa, xs = [.ref a] ∧ H a = some (.ins C da fa) ∧ sp [.ref a] H (fun r H2 => ∃ t, r = .bl t ∧ Q (.bl t) H2) E
end
end DL

namespace DL
open PySem PySem.Spec PyProof.Rows L2
def neDS (x y : D) (K : Bool → Prop) : Prop := match x with
  | .dic xs => y = .dic xs ∧ (xs.map (·.1)).Nodup ∧ (∀ p ∈ xs, ∃ i, p.2 = .int i) ∧ K false
  | x => cmpU .NotEq x y K
abbrev numsV (xs : List (Key × Int)) : List (Key × V) := xs.map fun p => (p.1, V.int p.2)
theorem kv_at : ∀ {xs : List (Key × Int)} {va : List (Key × Value)}, KV (numsV xs) va → va.length = xs.length ∧ va.map (·.1) = xs.map (·.1) ∧ ∀ (j : Nat) (p : Key × Int), xs[j]? = some p → ∃ t, va[j]? = some (p.1, .int p.2 t)
  | [], _, h => by
    cases h
    exact ⟨rfl, rfl, fun j p e => (by simp at e)⟩
  | x :: xs, _, h => by
    cases h with
    | @cons _ q _ vs a t =>
      obtain ⟨l, m, f⟩ := kv_at t
      obtain ⟨e, t0, r⟩ := a
      obtain ⟨k, v⟩ := q
      have e : x.1 = k := e
      have r : v = .int x.2 t0 := r
      subst e r
      refine ⟨congrArg (· + 1) l, by rw [List.map_cons, List.map_cons, m], fun j p hp => ?_⟩
      cases j with
      | zero => rw [List.getElem?_cons_zero] at hp ⊢; cases hp; exact ⟨t0, rfl⟩
      | succ j => rw [List.getElem?_cons_succ] at hp ⊢; exact f j p hp
theorem hits_all {A : Around} {s : Shared} {kb : List (Key × Value)} : ∀ {r : List (Key × Value)}, (∀ p ∈ r, ∃ y, valueAt kb p.1 = some y ∧ SeqAt.EqAt A s p.2 y true) → PySem.W.KeqHits A s kb r true
  | [], _ => .nil
  | (k, v) :: r, h => by
    obtain ⟨y, h1, h2⟩ := h (k, v) List.mem_cons_self
    exact .hit h1 h2 (hits_all fun p hp => h p (List.mem_cons_of_mem _ hp))
theorem hits_ints {A : Around} {s : Shared} {xs : List (Key × Int)} {va vb : List (Key × Value)} (ra : KV (numsV xs) va) (rb : KV (numsV xs) vb) (nd : (xs.map (·.1)).Nodup) : PySem.W.KeqHits A s vb va true := by
  obtain ⟨la, ma, fa⟩ := kv_at ra
  obtain ⟨lb, mb, fb⟩ := kv_at rb
  refine hits_all fun p hp => ?_
  obtain ⟨j, hj⟩ := List.getElem?_of_mem hp
  have jl : j < xs.length := by rw [← la]; exact (List.getElem?_eq_some_iff.mp hj).1
  have ex : xs[j]? = some xs[j] := List.getElem?_eq_getElem jl
  obtain ⟨t, ha⟩ := fa j _ ex
  obtain ⟨u, hb⟩ := fb j _ ex
  rw [hj] at ha
  cases ha
  refine ⟨_, valueAt_of_get (by rw [mb]; exact nd) hb, ?_⟩
  have := SeqAt.EqAt.int_int (A := A) (s := s) xs[j].2 t xs[j].2 u
  rwa [beq_self_eq_true] at this
def rNeD (X : Cx) : R2 := fun x y H Q => (∃ (a b : Addr) (xs : List (Key × Int)), x = .ref a ∧ y = .ref b ∧ (xs.map (·.1)).Nodup ∧ Rd H a (.dK (numsV xs)) ∧ Rd H b (.dK (numsV xs)) ∧ Q (.bl false) H) ∨ rCmpU X .NotEq x y H Q
theorem op_neD {X : Cx} (hu : X.A.units + 65 < cLine) : OpR X (compareOp .NotEq) (rNeD X) := by
  intro pins s σ H x y v u Q I rx ry h
  rcases h with ⟨a, b, xs, rfl, rfl, nd, ha, hb, q⟩ | h
  · cases (show v = Value.ref a from rx)
    cases (show u = Value.ref b from ry)
    obtain ⟨_, ya, va, ra, da⟩ := dk_rd I.hok ha
    obtain ⟨_, yb, vb, rb, db⟩ := dk_rd I.hok hb
    refine PySem.W.keq_ne (knd := mixKind X.prog X.w) (r := true) ya yb da db (by omega) (fun _ => hits_ints ra rb nd) (fin_bl I q ?_)
    rw [(kv_at ra).1, (kv_at rb).1]
    simp
  · exact op_cmpU hu pins s σ H x y v u Q I rx ry h
theorem ints_of : ∀ {kds : List (Key × D)}, (∀ p ∈ kds, ∃ i, p.2 = .int i) → ∃ xs : List (Key × Int), kds = xs.map fun p => (p.1, D.int p.2)
  | [], _ => ⟨[], rfl⟩
  | (k, d) :: r, h => by
    obtain ⟨i, e⟩ := h (k, d) List.mem_cons_self
    obtain ⟨xs, rfl⟩ := ints_of fun p hp => h p (List.mem_cons_of_mem _ hp)
    have e : d = .int i := e
    exact ⟨(k, i) :: xs, by rw [e]; rfl⟩
theorem isD_ints {K : PySem.W.Frag} {G : Hp} : ∀ {xs : List (Key × Int)} {vs : List (Key × V)}, IsD K G vs (xs.map fun p => (p.1, D.int p.2)) → vs = numsV xs
  | [], _, h => by cases h; rfl
  | x :: xs, _, h => by
    cases h with
    | cons a t =>
      cases a
      rw [isD_ints t]
      rfl
section
variable {X : Cx} {an : An} {dr : Option Dr} {ρ : Rho} {om : Om} {a b : Expr} {pos p : Pos} {Q : R → Om → Prop} {T : Bool → Om → Prop}
end
end DL

namespace DL
open PySem L2
section
open PyProof.Rows
theorem sort_tuple {prog : Program} {w : World} {A : Around} {E : Value → Shared → Prop} {s : Shared} {l : Addr} {vs : List Value} {ss : List Str} {Q : Value → Shared → Prop} {o : Obj} {n : Nat}
    (ho : s.heap.get? l = some o) (hc : o.cls = .type "tuple") (hd : o.data = .seq vs.toArray n) (hS : StrsAre vs ss) (h64 : vs.length < 64)
    (h : ∀ (h1 : Heap), (∀ b u, s.heap.get? b = some u → h1.get? b = some u) → ∀ (h2 : Heap) (out : Array Value) (e : Nat) (ss' : List Str), (∀ b u, h1.get? b = some u → h2.get? b = some u) → h2.get? h1.objs.size = some (seqObj "list" out e) → StrsAre out.toList ss' → ss'.Perm ss → sortedS ss' = true → Q (.ref h1.objs.size) { s with heap := h2 }) :
    wpAny (model prog w) A (call (.builtin "sorted") [.ref l]) Q E s := by
  have hz : vs.toArray.size ≤ sizeLine := by rw [List.size_toArray, sizeLine_eq]; omega
  refine Calls.call_function_entry kind_sorted plain_sorted entry_sorted (args_sorted1 _) ?_
  unfold Builtin.«sorted»
  refine wpAny_bind (m := checkCount "sorted" 1 1 _) (wpAny_pure ?_)
  refine wpAny_bind (wpAny_collect_seq (hsz := hz) l (.inr rfl) ho hc hd fun h1 hk => ?_)
  refine wpAny_bind (wpAny_newList ?_)
  have hoL : (h1.push (seqObj "list" vs.toArray 0)).get? h1.objs.size = some (seqObj "list" vs.toArray 0) := Heap.get?_push_size _ rfl
  refine wpAny_bind (wpAny_holding (wpAny_call_entry slot_list_sort ⟨_, hoL, rfl⟩ entry_list_sort (list_sort_treeK strKind_oneLt hoL hS.keysOf (fun v₁ v₂ rest e => keyKind_strs (by rw [← e]; exact hS)) h64 fun st' a1 a2 => ⟨_, rfl, ?_⟩) (args_list_sort _)))
  obtain ⟨ss', b1, b2, b3⟩ := sorted_out_str hS a1 a2
  obtain ⟨e, he⟩ := sortedHeap_at (out := (arrOf st').map (·.2)) hoL
  refine wpAny_pure ⟨_, rfl, h h1 hk _ _ e ss' (fun b u q => ?_) he b1 b2 b3⟩
  have lt := Heap.lt_size q
  rw [sortedHeap_old (Nat.ne_of_lt lt) (by rw [size_push']; exact Nat.lt_succ_of_lt lt)]
  exact Heap.get?_push_of_some _ q
end
section
variable {X : Cx} {an : An} {dr : Option Dr} {ρ : Rho} {om : Om} {τ : List Addr} {G H : Hp}
theorem cr_sortedT : CallR X (.builtin "sorted") (fun vs H Q => ∃ (a : Addr) (xs : List Str), vs = [V.ref a] ∧ SqT X.K H a (xs.map V.str) ∧ xs.length < 64 ∧ ∀ (ys : List Str) (p : Addr), ys.Perm xs → PyProof.Rows.sortedS ys = true → H p = none → Q (.ref p) (upd H p (.lst (ys.map V.str)))) := by
  intro pins s σ H vs us Q I r h
  obtain ⟨a, xs, rfl, hs, h64, q⟩ := h
  obtain ⟨its, rv, ⟨o, ho, hc, n, hd⟩, _⟩ := I.tuple hs
  rw [Vals.ref1 r]
  have hlen0 := rv.length
  rw [List.length_map] at hlen0
  refine sort_tuple ho hc hd rv.strs (by rw [← hlen0]; exact h64) fun h1 hk h2 out e ys hk2 he b1 b2 b3 => ?_
  have I2 : Inv X pins σ H { s with heap := h1 } := I.kept (t' := s.toks) hk
  have hlen : (ys.map V.str).length ≤ sizeLine := by rw [List.length_map, b2.length_eq]; exact small64 h64
  exact ⟨.ref _, upd H h1.objs.size (.lst (ys.map V.str)), I2.laid (t' := s.toks) hk2 (Nat.le_refl _) ⟨hlen, out.toList, e, vals_of_strs b1, he⟩, rfl, q ys _ b2 b3 (I2.hok.fresh (Nat.le_refl _))⟩
def sortTF : Wp := fun ds K => match ds with
  | [.tup xs] => ∃ zs : List Str, xs = zs.map D.str ∧ zs.length < 64 ∧ ∀ ys : List Str, ys.Perm zs → PyProof.Rows.sortedS ys = true → K (.lst (ys.map D.str))
  | ds => sortUF ds K
theorem sortTF_mono : ∀ ds Q Q', (∀ d, Q d → Q' d) → sortTF ds Q → sortTF ds Q' := fun ds Q Q' i h => by
  unfold sortTF at h ⊢
  split at h
  · obtain ⟨zs, e, hz, q⟩ := h; exact ⟨zs, e, hz, fun ys a b => i _ (q ys a b)⟩
  · exact sortUF_mono _ _ _ i h
theorem cb_sortT (hc : X.calm = true) : CallR X (.builtin "sorted") (rB X sortTF) := by
  intro pins s σ H xs us Q I r h
  obtain ⟨an, dr, om, τ, G, rs, g, hp, h⟩ := h
  unfold sortTF at h
  split at h
  · rename_i xs e
    obtain ⟨zs, rfl, hz, q⟩ := h
    obtain ⟨v, r0, rfl, rfl, i, ev⟩ := one_arg hp e
    obtain ⟨a, vs, rfl, ha, il⟩ := vw_tup g i ev
    obtain rfl := strs_inv zs il
    refine cr_sortedT pins s σ H _ us Q I r ⟨a, zs, rfl, ha, hz, fun ys p h1 h2 hp => ?_⟩
    exact q ys h1 h2 _ _ _ (.lst upd_same (isL_strs ys)) (g.alloc hp) (g.grow hp)
  · exact cb_sortU hc pins s σ H xs us Q I r ⟨an, dr, om, τ, G, rs, g, hp, h⟩
end
end DL

namespace DL
open PySem PySem.Spec PyProof.Rows L2
section
variable {K : PySem.W.Frag} {an : An} {dr : Option Dr} {G : Hp} {τ : List Addr}
theorem jok_rangeAt {a : Int} {n : Nat} : JOk K an dr (Itr a n) ((List.range n).map fun (i : Nat) => D.int (a + (i : Nat))) G τ := fun om2 τ2 G2 H2 g gr j => by
  refine ⟨fun hj => ?_, fun d hd => ?_⟩
  · show n ≤ j
    simp at hj
    omega
  · rw [List.getElem?_map] at hd
    by_cases hj : j < n
    · rw [List.getElem?_range hj] at hd
      cases hd
      refine ⟨hj, fun x H3 q => ?_⟩
      obtain ⟨rfl, rfl⟩ := q
      exact ⟨G2, g, Grow.refl _ _, .int _⟩
    · rw [List.getElem?_eq_none (by simpa using hj)] at hd
      cases hd
end
section
variable {X : Cx} {an : An} {dr : Option Dr} {ρ : Rho} {om : Om} {e a b c tg iter : Expr} {es : List Expr} {st : Stmt} {sts sts' : List Stmt} {pos p : Pos} {E : Ed} {QI : List D → Om → Prop}
theorem wi_rangeU2 (hm : X.mg "range" = none) (h : WE X an dr ρ om a fun ra om1 => WE X an dr ρ om1 b fun rb om2 => rng2S (vR ra) (vR rb) fun ds => QI ds om2) (hg : Gl X "range" := by rfl) (hs : starEach [a, b] X.env = [(false, eval a X.env), (false, eval b X.env)] := by rfl) (hs2 : starEach [b] X.env = [(false, eval b X.env)] := by rfl) : WI X an dr ρ om tg (.Call (.Name "range" p) [a, b] [] pos) QI :=
  piI (pi_range2 hg hm (pa_cons (pe_u (an := an) (dr := dr)) (pa_cons (pe_u (an := an) (dr := dr)) pa_nil hs2) (by rw [hs, hs2])) hs hs2) fun σ H Z ⟨τ, G, g, n, k⟩ => uE_of h g n fun v r om1 τ1 G1 H1 h1 w g1 gr1 n1 => uE_of w g1 n1 fun v2 r2 om2 τ2 G2 H2 h2 q g2 gr2 n2 => by
    unfold rng2S at q
    split at q
    · rename_i i j e1 e2
      obtain rfl := isR_v (K := X.K) e1 (by simp)
      obtain rfl := isR_v (K := X.K) e2 (by simp)
      obtain ⟨⟨b1, b2, b3, b4⟩, q⟩ := q
      cases h1 with
      | v h1 =>
        obtain rfl := h1.int_inv
        cases h2 with
        | v h2 =>
          obtain rfl := h2.int_inv
          refine ⟨i, j, rfl, ⟨by omega, by omega, by omega, by omega⟩, k _ _ _ _ _ _ q ?_ g2 (gr1.trans gr2) (fun _ => jok_rangeAt)⟩
          rw [List.length_map, List.length_range]
          exact Nat.le_trans (by omega : (j - i).toNat ≤ 2000000) (by decide : 2000000 ≤ sizeLine)
    · exact q.elim
end
section
variable {X : Cx} {an : An} {dr : Option Dr} {ρ : Rho} {om : Om} {a b : Expr} {pos : Pos} {Q : R → Om → Prop} {T : Bool → Om → Prop} {x : Str} {ps : List Str} {U : Wp} {k j : Nat} {C : Addr}
theorem ty_any1 {τ : List Addr} {G H : Hp} {v : V} {r : R} (g : Good X.K an dr om τ G H) (h : IsR X.K G τ v r) (hC : IsCls X.K X.mg x C) (q : anyCO C C (vR r)) : ∃ t, TyX X.K H v t ∧ PySem.W.notFirst X.K C t = true := by
  have nd : vR r ≠ .dead := by
    intro e
    rw [e] at q
    exact absurd q (by show ¬ isAnyData .dead = true; decide)
  have e := isR_v (K := X.K) (rfl : vR r = vR r) nd
  have ev : vw om r = vR r := by rw [e]; rfl
  unfold anyCO at q
  split at q
  · rename_i B fs e2
    obtain ⟨p, dx, ws, rfl, hx, _⟩ := vw_ins g h (ev.trans e2)
    have qb : B = C := q.elim id id
    subst qb
    exact ⟨_, .base (.ins hx hC.cx.cl hC.cx.ha hC.cx.hn hC.cx.htk hC.cx.hm), by simp [PySem.W.notFirst]⟩
  · rename_i n2
    obtain ⟨m, t1, t2, t3⟩ := anyData_ty q n2
    exact ⟨_, vw_ty g h ev t1, nf_kit (hC.oth m t3)⟩
theorem we_eqA1 (neg : Bool) (h : HasM X.prog X.w X.K X.mg X.base dr k C "__eq__" ps U) (no : neg = true → NeO X.K C) (hC : IsCls X.K X.mg x C) (hr : Room j X.A)
    (hw : WE X an dr ρ om a fun ra om1 => WE X an dr ρ om1 b fun rb om2 => eqAS C C (vR ra) (vR rb) (U [vR ra, vR rb] fun d => blS d fun t => Q (.v (.bl (if neg = true then !t else t))) om2)) (hkj : k + 1 ≤ j := by decide)
    (hm : behindInMarks (if neg = true then .NotEq else .Eq) b = false := by first | exact nobehind _ (by decide) (by decide) | rfl) : WE X an dr ρ om (.Compare a [if neg = true then .NotEq else .Eq] [b] pos) Q := by
  refine peI (pe_cmpR (eq_ownA (neg := neg) h no hr hkj) (pe_u (an := an) (dr := dr)) (pe_u (an := an) (dr := dr)) hm) fun σ H K' ⟨τ, G, g, n, kk⟩ =>
    uE_of hw g n fun v r om1 τ1 G1 H1 h1 w g1 gr1 n1 => uE_of w g1 n1 fun v2 r2 om2 τ2 G2 H2 h2 q g2 gr2 n2 => ?_
  obtain ⟨lv, q⟩ := q
  obtain ⟨fa, e1, q⟩ := insOS_inv q
  obtain ⟨t, ty, nf⟩ := ty_any1 g2 h2 hC lv
  obtain ⟨p, da, fs, rfl, hp, i1, rfl⟩ := isR_ins h1 e1
  refine ⟨p, da, fs, t, rfl, g2.ex _ _ (gr2.ex _ _ hp), ty, nf, spD_at h.mono g2 (.cons (i1.mono gr2.ex) (.cons (isR_live h2 (any_live lv)) .nil)) q fun v d G' H' i' q g' e1 => ?_⟩
  unfold blS at q
  split at q
  · cases i'
    exact ⟨_, rfl, kk _ _ om2 τ2 G' H' (.v (.bl _)) q g' ((gr1.trans gr2).trans ⟨e1, fun _ _ h => h⟩)⟩
  · exact q.elim
theorem wt_eqA1 (neg : Bool) (h : HasM X.prog X.w X.K X.mg X.base dr k C "__eq__" ps U) (no : neg = true → NeO X.K C) (hC : IsCls X.K X.mg x C) (hr : Room j X.A)
    (hw : WE X an dr ρ om a fun ra om1 => WE X an dr ρ om1 b fun rb om2 => eqAS C C (vR ra) (vR rb) (U [vR ra, vR rb] fun d => blS d fun t => T (if neg = true then !t else t) om2)) (hkj : k + 1 ≤ j := by decide)
    (hm : behindInMarks (if neg = true then .NotEq else .Eq) b = false := by first | exact nobehind _ (by decide) (by decide) | rfl) : WT X an dr ρ om (.Compare a [if neg = true then .NotEq else .Eq] [b] pos) T := by
  refine ptI (pt_cmpR (eq_ownA (neg := neg) h no hr hkj) (pe_u (an := an) (dr := dr)) (pe_u (an := an) (dr := dr)) hm) fun σ H K' ⟨τ, G, g, n, kk⟩ =>
    uE_of hw g n fun v r om1 τ1 G1 H1 h1 w g1 gr1 n1 => uE_of w g1 n1 fun v2 r2 om2 τ2 G2 H2 h2 q g2 gr2 n2 => ?_
  obtain ⟨lv, q⟩ := q
  obtain ⟨fa, e1, q⟩ := insOS_inv q
  obtain ⟨t, ty, nf⟩ := ty_any1 g2 h2 hC lv
  obtain ⟨p, da, fs, rfl, hp, i1, rfl⟩ := isR_ins h1 e1
  refine ⟨p, da, fs, t, rfl, g2.ex _ _ (gr2.ex _ _ hp), ty, nf, spD_at h.mono g2 (.cons (i1.mono gr2.ex) (.cons (isR_live h2 (any_live lv)) .nil)) q fun v d G' H' i' q g' e1 => ?_⟩
  unfold blS at q
  split at q
  · cases i'
    exact ⟨_, rfl, _, rfl, kk _ om2 τ2 G' H' q g' ((gr1.trans gr2).trans ⟨e1, fun _ _ h => h⟩)⟩
  · exact q.elim
end
end DL

namespace DL
open PySem PySem.Spec PyProof.Rows L2
section
variable (K : PySem.W.Frag) (an : An) (dr : Option Dr)
def LeftN (n : Nat) (P : Rho → Om → Prop) (σ' : L2.St) (H' : Hp) : Prop :=
  ∃ ρ' om' τ' G', P ρ' om' ∧ Good K an dr om' τ' G' H' ∧ EnvIs K G' τ' σ' ρ' ∧ σ'.length = n ∧ ρ'.length = n
def LeftVN (P : D → Prop) (v : V) (H' : Hp) : Prop :=
  ∃ d om' τ' G', P d ∧ (Is K G' v d ∨ an.ow = true ∧ ∃ (k : Nat) (p : Addr) (c : D), d = .own c ∧ v = .ref p ∧ τ'[k]? = some p ∧ om'[k]? = some (some c)) ∧ Good K an dr om' τ' G' H'
def tDSn (ρ : Rho) (om : Om) (E : Ed) : TS := fun Z σ H => ∃ τ G, Good K an dr om τ G H ∧ EnvIs K G τ σ ρ ∧ σ.length = ρ.length ∧
  (∀ σ' H', LeftN K an dr ρ.length E.nx σ' H' → Z.nx σ' H') ∧ (∀ v H', LeftVN K an dr E.rt v H' → Z.rt v H') ∧
  (∀ σ' H', LeftN K an dr ρ.length E.bk σ' H' → Z.bk σ' H') ∧ (∀ σ' H', LeftN K an dr ρ.length E.ct σ' H' → Z.ct σ' H')
end
section
variable {K : PySem.W.Frag} {an : An} {dr : Option Dr} {τ : List Addr} {G : Hp} {n : Nat}
theorem Left.toN {P : Rho → Om → Prop} {σ' : L2.St} {H' : Hp} (h : Left K an dr G τ n P σ' H') : LeftN K an dr n P σ' H' := by
  obtain ⟨ρ', om', τ', G', p, g, e, _, l⟩ := h
  exact ⟨ρ', om', τ', G', p, g, e, l⟩
theorem LeftV.toN {P : D → Prop} {v : V} {H' : Hp} (h : LeftV K an dr G τ P v H') : LeftVN K an dr P v H' := by
  obtain ⟨d, om', τ', G', p, i, g, _⟩ := h
  exact ⟨d, om', τ', G', p, i, g⟩
theorem LeftN.imp {P P' : Rho → Om → Prop} {σ : L2.St} {H : Hp} (h : LeftN K an dr n P σ H) (i : ∀ ρ om, P ρ om → P' ρ om) : LeftN K an dr n P' σ H := by
  obtain ⟨ρ, om, τ', G', h1, h2⟩ := h
  exact ⟨ρ, om, τ', G', i _ _ h1, h2⟩
end
def WSn (X : Cx) (an : An) (dr : Option Dr) (ρ : Rho) (om : Om) (st : Stmt) (E : Ed) : Prop := PS X st (tDSn X.K an dr ρ om E)
def WSsn (X : Cx) (an : An) (dr : Option Dr) (ρ : Rho) (om : Om) (st : List Stmt) (E : Ed) : Prop := PSs X st (tDSn X.K an dr ρ om E)
def uSn (X : Cx) (an : An) (dr : Option Dr) (e : List Stmt) : TS := fun Z σ H => ∃ ρ om Q, WSsn X an dr ρ om e Q ∧ tDSn X.K an dr ρ om Q Z σ H
def uSn1 (X : Cx) (an : An) (dr : Option Dr) (e : Stmt) : TS := fun Z σ H => ∃ ρ om Q, WSn X an dr ρ om e Q ∧ tDSn X.K an dr ρ om Q Z σ H
section
variable {X : Cx} {an : An} {dr : Option Dr} {ρ : Rho} {om : Om} {e c tg iter : Expr} {st : Stmt} {sts sts' : List Stmt} {pos p : Pos} {E : Ed}
theorem ps_un : PS X st (uSn1 X an dr st) := ⟨fun pins s σ H K' I ⟨ρ, om, Q, w, h⟩ => PS.run w pins s σ H K' I h⟩
theorem pss_un : PSs X sts (uSn X an dr sts) := ⟨fun pins s σ H K' I ⟨ρ, om, Q, w, h⟩ => PSs.run w pins s σ H K' I h⟩
theorem uSn_of {σ : L2.St} {H : Hp} {τ : List Addr} {G : Hp} {Z : Ends} (w : WSsn X an dr ρ om sts E) (g : Good X.K an dr om τ G H) (n : EnvIs X.K G τ σ ρ) (hl : σ.length = ρ.length)
    (h1 : ∀ σ' H', LeftN X.K an dr ρ.length E.nx σ' H' → Z.nx σ' H') (h2 : ∀ v H', LeftVN X.K an dr E.rt v H' → Z.rt v H') (h3 : ∀ σ' H', LeftN X.K an dr ρ.length E.bk σ' H' → Z.bk σ' H') (h4 : ∀ σ' H', LeftN X.K an dr ρ.length E.ct σ' H' → Z.ct σ' H') : uSn X an dr sts Z σ H :=
  ⟨ρ, om, E, w, τ, G, g, n, hl, h1, h2, h3, h4⟩
theorem uSn1_of {σ : L2.St} {H : Hp} {τ : List Addr} {G : Hp} {Z : Ends} (w : WSn X an dr ρ om st E) (g : Good X.K an dr om τ G H) (n : EnvIs X.K G τ σ ρ) (hl : σ.length = ρ.length)
    (h1 : ∀ σ' H', LeftN X.K an dr ρ.length E.nx σ' H' → Z.nx σ' H') (h2 : ∀ v H', LeftVN X.K an dr E.rt v H' → Z.rt v H') (h3 : ∀ σ' H', LeftN X.K an dr ρ.length E.bk σ' H' → Z.bk σ' H') (h4 : ∀ σ' H', LeftN X.K an dr ρ.length E.ct σ' H' → Z.ct σ' H') : uSn1 X an dr st Z σ H :=
  ⟨ρ, om, E, w, τ, G, g, n, hl, h1, h2, h3, h4⟩
theorem wssn_of (h : WSs X an dr ρ om sts E) : WSsn X an dr ρ om sts E := pssI h fun Z σ H ⟨τ, G, g, n, hl, h1, h2, h3, h4⟩ => ⟨τ, G, g, n, hl, fun _ _ q => h1 _ _ q.toN, fun _ _ q => h2 _ _ q.toN, fun _ _ q => h3 _ _ q.toN, fun _ _ q => h4 _ _ q.toN⟩
theorem wsn_cons (h : WS X an dr ρ om st { E with nx := fun ρ' om' => WSsn X an dr ρ' om' sts E }) : WSsn X an dr ρ om (st :: sts) E :=
  pssI (pss_cons (ps_u (an := an) (dr := dr)) (pss_un (an := an) (dr := dr))) fun Z σ H ⟨τ, G, g, n, hl, h1, h2, h3, h4⟩ =>
    uS1_of h g n hl (fun σ' H' ⟨ρ', om', τ', G', w, g', n', _, l1, l2⟩ => uSn_of w g' n' (l1.trans l2.symm)
      (fun σ2 H2 q => h1 σ2 H2 (l2 ▸ q)) h2 (fun σ2 H2 q => h3 σ2 H2 (l2 ▸ q)) (fun σ2 H2 q => h4 σ2 H2 (l2 ▸ q))) (fun _ _ q => h2 _ _ q.toN) (fun _ _ q => h3 _ _ q.toN) (fun _ _ q => h4 _ _ q.toN)
theorem wsn_consN (h : WSn X an dr ρ om st { E with nx := fun ρ' om' => WSsn X an dr ρ' om' sts E }) : WSsn X an dr ρ om (st :: sts) E :=
  pssI (pss_cons (ps_un (an := an) (dr := dr)) (pss_un (an := an) (dr := dr))) fun Z σ H ⟨τ, G, g, n, hl, h1, h2, h3, h4⟩ =>
    uSn1_of h g n hl (fun σ' H' ⟨ρ', om', τ', G', w, g', n', l1, l2⟩ => uSn_of w g' n' (l1.trans l2.symm)
      (fun σ2 H2 q => h1 σ2 H2 (l2 ▸ q)) h2 (fun σ2 H2 q => h3 σ2 H2 (l2 ▸ q)) (fun σ2 H2 q => h4 σ2 H2 (l2 ▸ q))) h2 h3 h4
theorem WSsn.imp {E' : Ed} (h : WSsn X an dr ρ om sts E) (i1 : ∀ ρ om, E.nx ρ om → E'.nx ρ om) (i2 : ∀ d, E.rt d → E'.rt d) (i3 : ∀ ρ om, E.bk ρ om → E'.bk ρ om) (i4 : ∀ ρ om, E.ct ρ om → E'.ct ρ om) : WSsn X an dr ρ om sts E' :=
  pssI h fun Z σ H ⟨τ, G, g, n, hl, h1, h2, h3, h4⟩ => ⟨τ, G, g, n, hl, fun σ' H' q => h1 σ' H' (q.imp i1), fun v H' ⟨d, om', τ', G', q, r⟩ => h2 v H' ⟨d, om', τ', G', i2 d q, r⟩, fun σ' H' q => h3 σ' H' (q.imp i3), fun σ' H' q => h4 σ' H' (q.imp i4)⟩
theorem wsn_if (h : WT X an dr ρ om c fun t om1 => if t = true then WSsn X an dr ρ om1 sts E else WSsn X an dr ρ om1 sts' E) : WSn X an dr ρ om (.If c sts sts' pos) E :=
  psI (ps_if (pt_u (an := an) (dr := dr)) (pss_un (an := an) (dr := dr)) (pss_un (an := an) (dr := dr))) fun Z σ H ⟨τ, G, g, n, hl, h1, h2, h3, h4⟩ => uT_of h g n fun t om1 τ1 G1 H1 w g1 gr1 n1 => by
    cases t with
    | true => rw [if_pos rfl] at w ⊢; exact uSn_of w g1 n1 hl h1 h2 h3 h4
    | false => rw [if_neg Bool.false_ne_true] at w ⊢; exact uSn_of w g1 n1 hl h1 h2 h3 h4
theorem wsn_ifS {C : (Bool → Prop) → Prop} {A B : Prop} (hW : ifS C A B) (h : ∀ KS, C KS → WT X an dr ρ om c fun t om' => om' = om ∧ KS t) (ht : A → WSsn X an dr ρ om sts E) (hf : B → WSsn X an dr ρ om sts' E) : WSn X an dr ρ om (.If c sts sts' pos) E :=
  wsn_if (WT.imp (h _ hW) fun t om' ⟨e, q⟩ => by
    subst e
    cases t
    · simp only [Bool.false_eq_true, if_false] at q ⊢; exact hf q
    · simp only [if_true] at q ⊢; exact ht q)
theorem wsn_ifJ {α : Type} {RS : α → Prop} {F : (α → Prop) → Prop} {A B : (α → Prop) → Prop} {C : (Bool → Prop) → Prop} (RR : α → Rho → Om → Prop) (hW : letS RS fun rest => ifS C (A rest) (B rest)) (h : ∀ KS, C KS → WT X an dr ρ om c fun t om' => om' = om ∧ KS t)
    (ht : ∀ rest, A rest → WSsn X an dr ρ om sts { E with nx := fun ρ' om' => ∃ s, RR s ρ' om' ∧ rest s }) (hf : ∀ rest, B rest → WSsn X an dr ρ om sts' { E with nx := fun ρ' om' => ∃ s, RR s ρ' om' ∧ rest s })
    (hr : ∀ s ρ' om', RS s → RR s ρ' om' → E.nx ρ' om') : WSn X an dr ρ om (.If c sts sts' pos) E := by
  have hW : ifS C (A RS) (B RS) := hW
  exact wsn_ifS hW h (fun q => (ht _ q).imp (fun ρ' om' ⟨s, r, q⟩ => hr s ρ' om' q r) (fun _ q => q) (fun _ _ q => q) fun _ _ q => q) (fun q => (hf _ q).imp (fun ρ' om' ⟨s, r, q⟩ => hr s ρ' om' q r) (fun _ q => q) (fun _ _ q => q) fun _ _ q => q)
def tDIn (K : PySem.W.Frag) (an : An) (dr : Option Dr) (ρ : Rho) (om : Om) (Q : List D → Om → Prop) : TI := fun σ H Z => ∃ τ G, Good K an dr om τ G H ∧ EnvIs K G τ σ ρ ∧
  ∀ J ds om' τ' G' H', Q ds om' → ds.length ≤ sizeLine → Good K an dr om' τ' G' H' → Grow G τ G' τ' → (∀ an', JOk K an' dr J ds (fun _ => none) []) → Z J H'
def WIn (X : Cx) (an : An) (dr : Option Dr) (ρ : Rho) (om : Om) (tg iter : Expr) (Q : List D → Om → Prop) : Prop := PI X tg iter (tDIn X.K an dr ρ om Q)
theorem win_range {QI : List D → Om → Prop} (hm : X.mg "range" = none) (h : WE X an dr ρ om e fun r om1 => rngS (vR r) fun ds => QI ds om1) (hg : Gl X "range" := by rfl) (hs : starEach [e] X.env = [(false, eval e X.env)] := by rfl) : WIn X an dr ρ om tg (.Call (.Name "range" p) [e] [] pos) QI :=
  piI (pi_range1 hg hm (pa_cons (pe_u (an := an) (dr := dr)) pa_nil hs) hs) fun σ H Z ⟨τ, G, g, n, k⟩ => uE_of h g n fun v r om1 τ1 G1 H1 h1 w g1 gr1 n1 => by
    unfold rngS at w
    split at w
    · rename_i j ez
      obtain rfl := isR_v (K := X.K) ez (by simp)
      obtain ⟨⟨hj, hj2⟩, w⟩ := w
      cases h1 with
      | v h1 =>
        obtain rfl := h1.int_inv
        refine ⟨j, rfl, by omega, by omega, k _ _ _ _ _ _ w ?_ g1 gr1 (fun _ => jok_range)⟩
        have : j.toNat ≤ 1000000 := by omega
        unfold rngD
        rw [List.length_map, List.length_range]
        exact Nat.le_trans this (by decide : 1000000 ≤ sizeLine)
    · exact w.elim
theorem wsn_for {f : TgF} {js : List Nat} {body : List Stmt} (hp : PassesOwn (model X.prog X.w) X.A X.env X.xe) (hc : X.calm = true) (hg : WG X an dr tg js f)
    (hi : WIn X an dr ρ om tg iter fun ds om1 => ∃ P : Nat → Rho → Om → Prop, P 0 ρ om1 ∧ (∀ i d ρ' om', ρ'.length = ρ.length → ds[i]? = some d → P i ρ' om' → f d ρ' fun ρ2 => WSsn X an dr ρ2 om' body { nx := P (i + 1), rt := E.rt, bk := E.nx, ct := P (i + 1) }) ∧ ∀ ρ' om', ρ'.length = ρ.length → P ds.length ρ' om' → E.nx ρ' om')
    (hs : ∀ x, foldedSetIterable iter X.env x = pure x := by intro _; rfl) : WSn X an dr ρ om (.For tg iter body [] pos) E :=
  psI (ps_for hp hc hi hg.1 (pss_un (an := an) (dr := dr)) hs) fun Z σ H ⟨τ, G, g, n, hl, h1, h2, h3, h4⟩ => ⟨τ, G, g, n, fun J ds om1 τ1 G1 H1 ⟨P, p0, ps, pe⟩ hz g1 gr1 jk => by
    have jk := jk an
    refine ⟨fun i m σ' H' => m = ds.length - i ∧ i ≤ ds.length ∧ LeftN X.K an dr ρ.length (P i) σ' H', ⟨ds.length, by simp, Nat.zero_le _, ρ, om1, τ1, G1, p0, g1, n.mono gr1, hl, rfl⟩, ?_⟩
    rintro i m σ2 H2 ⟨rfl, hi, ρ2, om2, τ2, G2, p2, g2, n2, l1, l2⟩
    have gr2 : Grow (fun _ => none) [] G2 τ2 := ⟨fun _ _ z => (nomatch z), fun k p z => by simp at z⟩
    have J2 := jk om2 τ2 G2 H2 g2 gr2 i
    by_cases hlt : i < ds.length
    · have hd : ds[i]? = some ds[i] := List.getElem?_eq_getElem hlt
      obtain ⟨go, J3⟩ := J2.2 _ hd
      refine .inr ⟨go, fun σ' H' => LeftN X.K an dr ρ.length (P (i + 1)) σ' H', fun σ' H' q => ⟨ds.length - (i + 1), by omega, rfl, hlt, q⟩, fun x H3 y => ?_⟩
      obtain ⟨G3, g3, gr3, i3⟩ := J3 x H3 y
      refine ⟨om2, τ2, G3, ρ2, _, _, g3, n2.mono gr3, l1.trans l2.symm, i3, ps i _ ρ2 om2 l2 hd p2, fun σ4 ρ4 w n4 l3 l4 _ => ?_⟩
      have l4' : ρ4.length = ρ.length := l4.trans l2
      refine uSn_of w g3 n4 (l3.trans l4.symm) (fun σ5 H5 q => ?_) (fun v H5 q => ?_) (fun σ5 H5 q => ?_) (fun σ5 H5 q => ?_)
      · exact l4' ▸ q
      · exact h2 v H5 q
      · exact h1 σ5 H5 (l4' ▸ q)
      · exact l4' ▸ q
    · have e : i = ds.length := by omega
      subst e
      exact .inl ⟨J2.1 rfl, h1 σ2 H2 ⟨ρ2, om2, τ2, G2, pe ρ2 om2 l2 p2, g2, n2, l1, l2⟩⟩⟩
theorem for_linkN {σ : Type} {ds : List D} {s0 : σ} {b : D → σ → (σ → Prop) → Prop} {KS : σ → Prop} {f : TgF} {body : List Stmt} (R : σ → Rho → Om → Prop) (hW : forS ds s0 b KS) (h0 : R s0 ρ om)
    (hb : ∀ d s ρ' om' rest, b d s rest → R s ρ' om' → f d ρ' fun ρ2 => WSsn X an dr ρ2 om' body { nx := fun ρ3 om3 => ∃ s', R s' ρ3 om3 ∧ rest s', rt := E.rt, bk := E.nx, ct := fun ρ3 om3 => ∃ s', R s' ρ3 om3 ∧ rest s' })
    (he : ∀ s ρ' om', KS s → R s ρ' om' → E.nx ρ' om') :
    ∃ P : Nat → Rho → Om → Prop, P 0 ρ om ∧ (∀ i d ρ' om', ρ'.length = ρ.length → ds[i]? = some d → P i ρ' om' → f d ρ' fun ρ2 => WSsn X an dr ρ2 om' body { nx := P (i + 1), rt := E.rt, bk := E.nx, ct := P (i + 1) }) ∧ ∀ ρ' om', ρ'.length = ρ.length → P ds.length ρ' om' → E.nx ρ' om' :=
  ⟨fun i ρ om => ∃ s, R s ρ om ∧ forS (ds.drop i) s b KS, ⟨s0, h0, hW⟩, fun i d ρ' om' hl hd ⟨s, hR, q⟩ => hb d s ρ' om' _ (forS_at hd q) hR, fun ρ' om' hl ⟨s, hR, q⟩ => he s ρ' om' (forS_end q) hR⟩
end
section
variable {P : Program} {w : World} {K : PySem.W.Frag} {mg : Str → Option Value} {base : Heap} {N : List Str} {k : Nat} {cdv : Value}
theorem pss_udn {X : Cx} {an : An} {sts : List Stmt} : PSs X sts (fun Z σ H => ∃ dr ρ om Q, WSsn X an dr ρ om sts Q ∧ tDSn X.K an dr ρ om Q Z σ H) := ⟨fun pins s σ H K' I ⟨dr, ρ, om, Q, w, h⟩ => PSs.run w pins s σ H K' I h⟩
theorem law_byN (T : List (Addr × Str)) {qual : Str} {st : Stmt} {f : Addr} {fd : FuncData} {xs : Str} {pr : Str} {ps1 : List Str} {sts : List Stmt} {pd pn pa pc pb : Pos} {xd xb : Str} (F : FunV K "law" qual st f fd cdv) (S : FnScope N [pr] (defScope st)) (hb : HasB P w K mg base k xb ps1) (hbd : defBody st = .Assign [.Name xd pd] (.Call (.Name xb pn) [.Name xs pa] [] pc) pb :: sts)
    (h0 : N[0]? = some xs) (h1 : N[1]? = some xd) (hv0 : Vis (defScope st) xs) (hl1 : Loc (defScope st) xd) (hgl : (defScope st).names.lookup xb = some .globalImplicit)
    (hd0 : (xs == ("__debug__" : Str)) = false) (hd1 : (xs == ("__classdict__" : Str)) = false) (hdb : (xb == ("__debug__" : Str)) = false)
    (hbody : ∀ (A : Around) (outer : List Env) (s : Shared) (H : Hp) (E : XK) (a : Addr) (ns : List Int) (x : Dr), Room k (A.deeper (PyProof.Rows.envOfC qual (defScope st) s.heap.objs.size f cdv)) → A.guards = some [] → SqL K H a (ns.map V.int) → ns.length ≤ 63 → (H a ≠ none → Off (some x) a) → x.c ≠ x.g → x.cs.length ≤ sizeLine → x.T = T →
      WSsn (cxOf CX0 P w K mg base N qual (defScope st) f cdv A outer s H E).nox ⟨fun _ => none, strip H, false, []⟩ (some x) (some (.v (.obj a)) :: some (.v (.obj x.d)) :: List.replicate (N.length - 2) none) [] sts { nx := fun _ _ => False, rt := fun d => d = .bl true }) : FnG P w K mg base CX0 (k + 1) f fd [pr] (spLaw T K) := by
  obtain ⟨fB, fdB, FB, hm, hk, hbi⟩ := hb.ex
  refine FnG.byV F S (fun vs H Q E h => ?_) (fun A outer s H vs Q E hr gd h => ?_)
  · obtain ⟨a, ns, rfl, _⟩ := h
    rfl
  · obtain ⟨a, ns, rfl, hS, hlen, hT1, kk⟩ := h
    rw [hbd]
    have hpe : PE (cxOf CX0 P w K mg base N qual (defScope st) f cdv A outer s H E).nox (.Call (.Name xb pn) [.Name xs pa] [] pc) (tCall (spBegin K) [] E0 (tCons (tVar 0) tNil)) :=
      pe_callG FB hr gd hgl hm hk hbi pass0 (pa_cons (pe_var h0 hv0 hd0 hd1) pa_nil rfl) hdb rfl rfl
    refine ⟨_, PSs.nox (pss_cons (ps_set (i := 1) S.nd h1 hl1 hpe rfl (.inl rfl)) (pss_udn (an := ⟨fun _ => none, strip H, false, []⟩))), ?_⟩
    obtain ⟨m, hm2⟩ : ∃ m, N.length = m + 2 := ⟨N.length - 2, by have := (List.getElem?_eq_some_iff.mp h1).1; omega⟩
    have est : L2.start N [.ref a] = some (.ref a) :: none :: List.replicate (N.length - 2) none := by
      unfold L2.start
      rw [hm2]
      show some (V.ref a) :: List.replicate (m + 2 - 1) none = _
      rw [show m + 2 - 1 = m + 1 by omega, show m + 2 - 2 = m by omega, List.replicate_succ]
    rw [est]
    refine ⟨_, rfl, a, ns, rfl, hS, hlen, fun x0 H' z1 z2 z3 hgc hz dI same => ?_⟩
    let x : Dr := ⟨x0.d, x0.g, x0.c, x0.cs, T⟩
    have hof : H a ≠ none → Off (some x) a := fun z y hy => by
      cases hy
      exact ⟨fun q => z (q ▸ z1), fun q => z (q ▸ z2), fun q => z (q ▸ z3)⟩
    refine ⟨some x, _, _, _, hbody A outer s H E a ns x hr gd hS hlen hof hgc hz rfl, [], fun _ => none, ?_, fun i r e => ?_, ?_, fun σ' H' q => ?_, fun v H' q => ?_, fun σ' H' q => ?_, fun σ' H' q => ?_⟩
    · exact ⟨(fun _ _ q => by cases q), rfl, List.nodup_nil, fun k p ds q => by simp at q, fun y hy => by cases hy; exact ⟨dI, rfl, rfl, rfl, fun t ht => LamX.TabS.nil (same _ _ (hT1 t ht))⟩, (fun _ _ q => by cases q), fun b o q _ => same b o (strip_some q).1, fun _ _ _ => .inl rfl, fun k p q => by simp at q, (fun _ _ q => by cases q), fun _ _ => strip_nt, fun t h => nomatch h⟩
    · match i, e with
      | 0, e => cases e; exact ⟨_, rfl, .v (.obj a)⟩
      | 1, e => cases e; exact ⟨_, rfl, .v (.obj x.d)⟩
      | i + 2, e =>
        have e' : (List.replicate (N.length - 2) (none : Option R))[i]? = some (some r) := e
        rw [List.getElem?_replicate] at e'
        split at e' <;> cases e'
    · simp
    · obtain ⟨_, _, _, _, p, _⟩ := q
      exact p.elim
    · obtain ⟨d, om', τ', G', p, i, _⟩ := q
      have p : d = .bl true := p
      subst p
      rcases i with i | ⟨z, _⟩
      · cases i
        exact kk _ _ rfl
      · cases z
    · obtain ⟨_, _, _, _, p, _⟩ := q
      exact p.elim
    · obtain ⟨_, _, _, _, p, _⟩ := q
      exact p.elim
end
end DL

namespace DL
open PySem PySem.Spec PyProof.Rows L2
mutual
def noL : D → Bool
  | .non => true
  | .bl _ => true
  | .int _ => true
  | .str _ => true
  | .ty _ => true
  | .obj _ => true
  | .tup xs => noLs xs
  | .ins _ fs => noLF fs
  | _ => false
def noLs : List D → Bool
  | [] => true
  | d :: r => noL d && noLs r
def noLF : List (Str × D) → Bool
  | [] => true
  | (_, d) :: r => noL d && noLF r
end
theorem noLs_of : ∀ {ds : List D}, (∀ d ∈ ds, noL d = true) → noLs ds = true
  | [], _ => rfl
  | d :: r, h => by
    show (noL d && noLs r) = true
    rw [h d List.mem_cons_self, noLs_of fun e q => h e (List.mem_cons_of_mem _ q)]
    rfl
def dropL (G : Hp) : Hp := fun a => match G a with
  | some (.lst _) => none
  | o => o
theorem dropL_none {G : Hp} {a : Addr} (h : G a = none) : dropL G a = none := by unfold dropL; rw [h]
theorem dropL_lst {G : Hp} {a : Addr} {xs : List V} (h : G a = some (.lst xs)) : dropL G a = none := by unfold dropL; rw [h]
theorem dropL_ex {G : Hp} : Ex (dropL G) G := fun a o h => by
  unfold dropL at h
  split at h
  · cases h
  · exact h
theorem dropL_keep {G : Hp} {a : Addr} {o : HO} (h : G a = some o) (n : ∀ xs, o ≠ .lst xs) : dropL G a = some o := by
  unfold dropL
  rw [h]
  cases o with
  | lst xs => exact absurd rfl (n xs)
  | _ => rfl
section
variable {K : PySem.W.Frag} {G : Hp}
mutual
theorem Is.dropL : ∀ {v : V} {d : D}, Is K G v d → noL d = true → Is K (dropL G) v d
  | _, _, .non, _ => .non
  | _, _, .bl b, _ => .bl b
  | _, _, .int i, _ => .int i
  | _, _, .str x, _ => .str x
  | _, _, .ty n, _ => .ty n
  | _, _, .lst h q, c => by simp [noL] at c
  | _, _, .tup h q, c => .tup (dropL_keep h fun _ z => by cases z) (IsL.dropL q c)
  | _, _, .tup0 h, _ => .tup0 h
  | _, _, .dic h q, c => by simp [noL] at c
  | _, _, .dit h q, c => by simp [noL] at c
  | _, _, .ins h q, c => .ins (dropL_keep h fun _ z => by cases z) (IsF.dropL q c)
  | _, _, .exc0 h, c => by simp [noL] at c
  | _, _, .excF h h2 q, c => by simp [noL] at c
  | _, _, .lam h h2 h3 h4 q, c => by simp [noL] at c
  | _, _, .lamP h h2, c => by simp [noL] at c
  | _, _, .obj a, _ => .obj a
  | _, _, .din h q, c => by simp [noL] at c
  | _, _, .dky h, c => by simp [noL] at c
theorem IsL.dropL : ∀ {vs : List V} {ds : List D}, IsL K G vs ds → noLs ds = true → IsL K (dropL G) vs ds
  | _, _, .nil, _ => .nil
  | _, _, .cons h q, c => by
    have c : (noL _ && noLs _) = true := c
    rw [Bool.and_eq_true] at c
    exact .cons (Is.dropL h c.1) (IsL.dropL q c.2)
theorem IsF.dropL : ∀ {vs : List (Str × V)} {ds : List (Str × D)}, IsD K G vs ds → noLF ds = true → IsD K (dropL G) vs ds
  | _, _, .nil, _ => .nil
  | _, _, .cons h q, c => by
    have c : (noL _ && noLF _) = true := c
    rw [Bool.and_eq_true] at c
    exact .cons (Is.dropL h c.1) (IsF.dropL q c.2)
end
end
section
variable {K : PySem.W.Frag} {an : An} {dr : Option Dr} {om : Om} {τ : List Addr} {G H : Hp}
theorem Good.dropL (g : Good K an dr [] [] G H) (h0 : ∀ a, an.G0 a = none) : Good K an dr [] [] (dropL G) H where
  ex := dropL_ex.trans g.ex
  len := rfl
  nd := List.nodup_nil
  own := fun k p d h => by simp at h
  drg := fun y hy => by
    obtain ⟨h1, h2, h3, h4, h5⟩ := g.drg y hy
    exact ⟨h1, dropL_none h2, dropL_none h3, dropL_none h4, h5⟩
  a1 := fun a o h => by rw [h0 a] at h; cases h
  a2 := g.a2
  a3 := fun a h1 h2 => (g.a3 a h1 h2).imp dropL_none id
  a4 := fun k p h => by simp at h
  gt := fun a o h => g.gt a o (dropL_ex a o h)
  nt0 := g.nt0
  ti := g.ti
theorem Good.push {p : Addr} {vs : List V} {ds : List D} (g : Good K an dr om τ G H) (hp : H p = some (.lst vs)) (n1 : G p = none) (n2 : an.H0 p = none) (n3 : Off dr p) (n4 : p ∉ τ) (i : IsL K G vs ds) : Good K an dr (om ++ [some (.lst ds)]) (τ ++ [p]) G H where
  ex := g.ex
  len := by rw [List.length_append, List.length_append, g.len]; rfl
  nd := by
    rw [List.nodup_append]
    refine ⟨g.nd, by simp, fun a h1 b h2 => ?_⟩
    rw [List.mem_singleton] at h2
    subst h2
    exact fun z => n4 (z ▸ h1)
  own := fun k q es h1 h2 => by
    by_cases hk : k < τ.length
    · rw [List.getElem?_append_left hk] at h1
      rw [List.getElem?_append_left (by rw [g.len]; exact hk)] at h2
      exact g.own k q es h1 h2
    · rw [List.getElem?_append_right (by omega)] at h1
      rw [List.getElem?_append_right (by rw [g.len]; omega), g.len] at h2
      have hz : k - τ.length = 0 := by
        have := (List.getElem?_eq_some_iff.mp h1).1
        simp at this
        omega
      rw [hz] at h1 h2
      simp at h1 h2
      subst h1 h2
      exact ⟨n1, n2, n3, _, hp, vs, rfl, i⟩
  drg := g.drg
  a1 := g.a1
  a2 := g.a2
  a3 := g.a3
  a4 := fun k q h1 => by
    by_cases hk : k < τ.length
    · rw [List.getElem?_append_left hk] at h1
      exact g.a4 k q h1
    · rw [List.getElem?_append_right (by omega)] at h1
      have hz : k - τ.length = 0 := by
        have := (List.getElem?_eq_some_iff.mp h1).1
        simp at this
        omega
      rw [hz] at h1
      simp at h1
      subst h1
      exact ⟨n3, _, hp, fun _ z => by cases z⟩
  gt := g.gt
  nt0 := g.nt0
  ti := fun t h => by
    have := g.ti t h
    rw [List.getElem?_append_left (List.getElem?_eq_some_iff.mp this).1]
    exact this
theorem Good.thaw (g : Good K an dr [] [] G H) (h0 : ∀ a, an.G0 a = none) : ∀ ps : List Addr, (∀ p ∈ ps, ∃ vs ds, G p = some (.lst vs) ∧ IsL K (DL.dropL G) vs ds) →
    ∃ (τ : List Addr) (om : Om), Good K an dr om τ (DL.dropL G) H ∧ (∀ (k : Nat) (p : Addr), τ[k]? = some p → ∃ xs, om[k]? = some (some (D.lst xs))) ∧ ∀ p ∈ ps, ∃ k : Nat, τ[k]? = some p := by
  intro ps
  induction ps with
  | nil => exact fun _ => ⟨[], [], g.dropL h0, fun k p h => by simp at h, fun p h => (nomatch h)⟩
  | cons p ps ih =>
    intro h
    obtain ⟨τ, om, g1, lv, al⟩ := ih fun q hq => h q (List.mem_cons_of_mem _ hq)
    by_cases hm : p ∈ τ
    · refine ⟨τ, om, g1, lv, fun q hq => ?_⟩
      rcases List.mem_cons.mp hq with rfl | hq
      · exact List.getElem?_of_mem hm
      · exact al q hq
    · obtain ⟨vs, ds, hp, i⟩ := h p List.mem_cons_self
      have hoff : Off dr p := fun y hy => by
        obtain ⟨_, h2, h3, h4, _⟩ := g.drg y hy
        exact ⟨fun z => (by subst z; rw [h2] at hp; cases hp), fun z => (by subst z; rw [h3] at hp; cases hp), fun z => (by subst z; rw [h4] at hp; cases hp)⟩
      have hH := g.ex _ _ hp
      have hn : an.H0 p = none := by
        cases e : an.H0 p with
        | none => rfl
        | some o =>
          rcases g.a3 p (by rw [e]; simp) (h0 p) with z | ⟨o', e', im⟩
          · rw [hp] at z; cases z
          · have := g.a2 p o' e' hoff
            rw [hH] at this
            cases this
            rcases im with ⟨_, z⟩ | ⟨c, q, z⟩
            · cases z
            · cases z
      have g2 := g1.push hH (dropL_lst hp) hn hoff hm i
      refine ⟨τ ++ [p], om ++ [some (.lst ds)], g2, fun k q hk => ?_, fun q hq => ?_⟩
      · by_cases lt : k < τ.length
        · rw [List.getElem?_append_left lt] at hk
          rw [List.getElem?_append_left (by rw [g1.len]; exact lt)]
          exact lv k q hk
        · rw [List.getElem?_append_right (by omega)] at hk
          have hz : k - τ.length = 0 := by
            have := (List.getElem?_eq_some_iff.mp hk).1
            simp at this
            omega
          rw [List.getElem?_append_right (by rw [g1.len]; omega), g1.len, hz]
          exact ⟨ds, rfl⟩
      · rcases List.mem_cons.mp hq with rfl | hq
        · exact ⟨τ.length, by rw [List.getElem?_append_right (Nat.le_refl _), Nat.sub_self]; rfl⟩
        · obtain ⟨k, hk⟩ := al q hq
          exact ⟨k, by rw [List.getElem?_append_left (List.getElem?_eq_some_iff.mp hk).1]; exact hk⟩
theorem Good.forget (g : Good K an dr om τ G H) (ht : an.ties = []) : Good K an dr [] [] G H where
  ex := g.ex
  len := rfl
  nd := List.nodup_nil
  own := fun k p d h => by simp at h
  drg := g.drg
  a1 := g.a1
  a2 := g.a2
  a3 := g.a3
  a4 := fun k p h => by simp at h
  gt := g.gt
  nt0 := g.nt0
  ti := fun t h => by rw [ht] at h; cases h
end
def thw (d : D) : Prop := (∃ ds, d = .lst ds ∧ noLs ds = true) ∨ ∃ ds, d = .tup ds ∧ noLs ds = true
def scrS (ds keep : List D) (A B : Prop) : Prop := (∀ d ∈ ds, thw d) ∧ (∀ d ∈ keep, noL d = true) ∧ A ∧ B
def allTies (τ : List Addr) : List (Nat × Addr) := τ.zipIdx.map fun p => (p.2, p.1)
theorem allTies_mem {τ : List Addr} {k : Nat} {p : Addr} : (k, p) ∈ allTies τ ↔ τ[k]? = some p := by
  unfold allTies
  rw [List.mem_map]
  constructor
  · rintro ⟨⟨q, j⟩, h, e⟩
    cases e
    exact (List.mem_zipIdx_iff_getElem?).mp h
  · intro h
    exact ⟨(p, k), (List.mem_zipIdx_iff_getElem?).mpr h, rfl⟩
def ElOf (K : PySem.W.Frag) (G : Hp) (τ : List Addr) (v : V) (e : D) : Prop := Is K (dropL G) v e ∧ ((∃ (p : Addr) (k : Nat), e = .obj p ∧ τ[k]? = some p) ∨ ∃ ds, e = .tup ds)
theorem blR_at {b : Bool} {Q : Bool → Prop} (h : Q b) : blR (.v (.bl b)) Q := h
theorem isi_ownL {C : Addr} {om : Om} {k : Nat} {xs : List D} {Q : D → Prop} (hx : om[k]? = some (some (.lst xs))) (h : Q (.bl true)) : isiMF C [vw om (.o k), .ty "list"] Q := by
  have e : vw om (.o k) = .lst xs := by show cellD _ = _; rw [hx]; rfl
  rw [e]
  exact ⟨rfl, by unfold Kn; simp, h⟩
theorem isi_tup {C : Addr} {ds : List D} {Q : D → Prop} (h : Q (.bl false)) : isiMF C [.tup ds, .ty "list"] Q := ⟨rfl, by unfold Kn; simp, h⟩
section
variable {X : Cx} {an : An} {dr : Option Dr} {ρ ρB : Rho} {sts body : List Stmt} {E : Ed} {no n1 n2 n3 : Str} {io i1 i2 i3 : Nat} {d1 d2 d3 : D} {po q1 q2 q3 pl pfor : Pos}
theorem addr_of {K : PySem.W.Frag} {G : Hp} {v : V} {d : D} (h : Is K G v d) (t : thw d) : (∃ ds, d = .tup ds ∧ Is K (dropL G) v (.tup ds)) ∨ ∃ p vs ds, v = .ref p ∧ G p = some (.lst vs) ∧ IsL K (dropL G) vs ds := by
  rcases t with ⟨ds, rfl, n⟩ | ⟨ds, rfl, n⟩
  · cases h with
    | lst hp il => exact .inr ⟨_, _, _, rfl, hp, il.dropL n⟩
  · exact .inl ⟨ds, rfl, h.dropL n⟩
theorem wsn_scrap (hG0 : ∀ a, an.G0 a = none) (hti : an.ties = []) (how : an.ow = false) (hp : PassesOwn (model X.prog X.w) X.A X.env X.xe) (hc : X.calm = true)
    (hN : X.N.Nodup) (hno : X.N[io]? = some no) (lno : Loc X.env.scope no) (h1 : X.N[i1]? = some n1) (v1 : Vis X.env.scope n1) (h2 : X.N[i2]? = some n2) (v2 : Vis X.env.scope n2) (h3 : X.N[i3]? = some n3) (v3 : Vis X.env.scope n3)
    (r1 : ρ[i1]? = some (some (.v d1))) (r2 : ρ[i2]? = some (some (.v d2))) (r3 : ρ[i3]? = some (some (.v d3))) (t1 : thw d1) (t2 : thw d2) (t3 : thw d3)
    (n12 : i1 ≠ i2) (n13 : i1 ≠ i3) (n23 : i2 ≠ i3) (n1o : i1 ≠ io) (n2o : i2 ≠ io) (n3o : i3 ≠ io) (lio : io < ρ.length)
    (lB : ρB.length = ρ.length) (b1 : ρB[i1]? = some none) (b2 : ρB[i2]? = some none) (b3 : ρB[i3]? = some none) (bo : ρB[io]? = some none)
    (hB : ∀ (i : Nat) (r : R), ρB[i]? = some (some r) → ∃ d, r = .v d ∧ ρ[i]? = some (some (.v d)) ∧ noL d = true)
    (hb1 : ∀ (an' : An) (ρ' : Rho) (om' : Om) (k : Nat) (p : Addr), ρ'.length = ρ.length → (∀ (i : Nat) (r : R), ρB[i]? = some (some r) → ρ'[i]? = some (some r)) → ρ'[io]? = some (some (.v (.obj p))) → (k, p) ∈ an'.ties → (∃ xs, om'[k]? = some (some (.lst xs))) →
      WSs X an' dr ρ' om' body { nx := fun ρ2 om2 => ρ2 = ρ' ∧ ∃ xs, om2 = om'.set k (some (.lst xs)), rt := fun _ => False })
    (hb2 : ∀ (an' : An) (ρ' : Rho) (om' : Om) (ds : List D), ρ'.length = ρ.length → (∀ (i : Nat) (r : R), ρB[i]? = some (some r) → ρ'[i]? = some (some r)) → ρ'[io]? = some (some (.v (.tup ds))) →
      WSs X an' dr ρ' om' body { nx := fun ρ2 om2 => ρ2 = ρ' ∧ om2 = om', rt := fun _ => False })
    (rest : WSsn X an dr ρB [] sts E)
    (hdo : (no == ("__debug__" : Str)) = false := by decide) (hd1 : (n1 == ("__debug__" : Str)) = false := by decide) (hc1 : (n1 == ("__classdict__" : Str)) = false := by decide) (hd2 : (n2 == ("__debug__" : Str)) = false := by decide) (hc2 : (n2 == ("__classdict__" : Str)) = false := by decide) (hd3 : (n3 == ("__debug__" : Str)) = false := by decide) (hc3 : (n3 == ("__classdict__" : Str)) = false := by decide)
    (hfo : X.fn no = true ∨ X.env.scope.names.lookup no = some .local := by first | exact .inl rfl | exact .inr rfl)
    (s1 : starEach [Expr.Name n1 q1, .Name n2 q2, .Name n3 q3] X.env = (false, eval (Expr.Name n1 q1) X.env) :: starEach [Expr.Name n2 q2, .Name n3 q3] X.env := by rfl) (s2 : starEach [Expr.Name n2 q2, .Name n3 q3] X.env = (false, eval (Expr.Name n2 q2) X.env) :: starEach [Expr.Name n3 q3] X.env := by rfl) (s3 : starEach [Expr.Name n3 q3] X.env = (false, eval (Expr.Name n3 q3) X.env) :: starEach [] X.env := by rfl)
    (hfold : ∀ x, foldedSetIterable (.List [.Name n1 q1, .Name n2 q2, .Name n3 q3] pl) X.env x = pure x := by intro _; rfl) :
    WSsn X an dr ρ [] (.For (.Name no po) (.List [.Name n1 q1, .Name n2 q2, .Name n3 q3] pl) body [] pfor :: sts) E :=
  pssI (pss_cons (ps_ua (dr := dr)) (pss_un (an := an) (dr := dr))) fun Z σ H ⟨τ, G, g, n, hl, z1, z2, z3, z4⟩ => by
    have et : τ = [] := List.length_eq_zero_iff.mp g.len.symm
    subst et
    obtain ⟨w1, e1, is1⟩ := n _ _ r1
    obtain ⟨w2, e2, is2⟩ := n _ _ r2
    obtain ⟨w3, e3, is3⟩ := n _ _ r3
    cases is1 with | v is1 => ?_
    cases is2 with | v is2 => ?_
    cases is3 with | v is3 => ?_
    have pk : ∀ {v : V} {d : D}, Is X.K G v d → thw d → ∃ ps : List Addr, (∀ p ∈ ps, ∃ vs ds, G p = some (.lst vs) ∧ IsL X.K (dropL G) vs ds) ∧ ∀ τ : List Addr, (∀ p ∈ ps, ∃ k : Nat, τ[k]? = some p) → ∃ e, ElOf X.K G τ v e := fun {v d} h t => by
      rcases addr_of h t with ⟨ds, rfl, i⟩ | ⟨p, vs, ds, rfl, hp, i⟩
      · exact ⟨[], fun p h => (nomatch h), fun τ _ => ⟨_, i, .inr ⟨ds, rfl⟩⟩⟩
      · refine ⟨[p], fun q hq => ?_, fun τ ht => ?_⟩
        · rw [List.mem_singleton] at hq
          subst hq
          exact ⟨vs, ds, hp, i⟩
        · obtain ⟨k, hk⟩ := ht p List.mem_cons_self
          exact ⟨.obj p, .obj p, .inl ⟨p, k, rfl, hk⟩⟩
    obtain ⟨ps1, m1, l1⟩ := pk is1 t1
    obtain ⟨ps2, m2, l2⟩ := pk is2 t2
    obtain ⟨ps3, m3, l3⟩ := pk is3 t3
    obtain ⟨τ, om, g1, lv, al⟩ := g.thaw hG0 (ps1 ++ (ps2 ++ ps3)) fun p hp => by
      rcases List.mem_append.mp hp with hp | hp
      · exact m1 p hp
      · rcases List.mem_append.mp hp with hp | hp
        · exact m2 p hp
        · exact m3 p hp
    obtain ⟨a1, el1⟩ := l1 τ fun p hp => al p (List.mem_append_left _ hp)
    obtain ⟨a2, el2⟩ := l2 τ fun p hp => al p (List.mem_append_right _ (List.mem_append_left _ hp))
    obtain ⟨a3, el3⟩ := l3 τ fun p hp => al p (List.mem_append_right _ (List.mem_append_right _ hp))
    have g2 : Good X.K (an.plus (allTies τ)) dr om τ (dropL G) H := g1.plus fun t ht => allTies_mem.mp (show (t.1, t.2) ∈ _ from ht)
    let ρA : Rho := ((ρB.set i1 (some (.v a1))).set i2 (some (.v a2))).set i3 (some (.v a3))
    have lA : ρA.length = ρ.length := by simp [ρA, lB]
    have lt : ∀ {i : Nat} {r : Option R}, ρB[i]? = some r → i < ρB.length := fun h => (List.getElem?_eq_some_iff.mp h).1
    have A1 : ρA[i1]? = some (some (.v a1)) := by
      show (((ρB.set i1 (some (.v a1))).set i2 (some (.v a2))).set i3 (some (.v a3)))[i1]? = _
      rw [List.getElem?_set_ne (Ne.symm n13), List.getElem?_set_ne (Ne.symm n12), List.getElem?_set_self (lt b1)]
    have A2 : ρA[i2]? = some (some (.v a2)) := by
      show (((ρB.set i1 (some (.v a1))).set i2 (some (.v a2))).set i3 (some (.v a3)))[i2]? = _
      rw [List.getElem?_set_ne (Ne.symm n23), List.getElem?_set_self (by simpa using lt b2)]
    have A3 : ρA[i3]? = some (some (.v a3)) := by
      show (((ρB.set i1 (some (.v a1))).set i2 (some (.v a2))).set i3 (some (.v a3)))[i3]? = _
      rw [List.getElem?_set_self (by simpa using lt b3)]
    have Ao : ∀ i, i ≠ i1 → i ≠ i2 → i ≠ i3 → ρA[i]? = ρB[i]? := fun i x1 x2 x3 => by
      show (((ρB.set i1 (some (.v a1))).set i2 (some (.v a2))).set i3 (some (.v a3)))[i]? = _
      rw [List.getElem?_set_ne (Ne.symm x3), List.getElem?_set_ne (Ne.symm x2), List.getElem?_set_ne (Ne.symm x1)]
    have kB : ∀ (i : Nat) (r : R), ρB[i]? = some (some r) → i ≠ i1 ∧ i ≠ i2 ∧ i ≠ i3 ∧ i ≠ io := fun i r h => by
      refine ⟨fun z => ?_, fun z => ?_, fun z => ?_, fun z => ?_⟩ <;> subst z
      · rw [b1] at h; cases h
      · rw [b2] at h; cases h
      · rw [b3] at h; cases h
      · rw [bo] at h; cases h
    have nA : EnvIs X.K (dropL G) τ σ ρA := fun i r h => by
      by_cases x1 : i = i1
      · subst x1
        rw [A1] at h
        cases h
        exact ⟨w1, e1, .v el1.1⟩
      by_cases x2 : i = i2
      · subst x2
        rw [A2] at h
        cases h
        exact ⟨w2, e2, .v el2.1⟩
      by_cases x3 : i = i3
      · subst x3
        rw [A3] at h
        cases h
        exact ⟨w3, e3, .v el3.1⟩
      rw [Ao i x1 x2 x3] at h
      obtain ⟨d, rfl, hr, nl⟩ := hB i r h
      obtain ⟨v, hv, iv⟩ := n i _ hr
      cases iv with
      | v iv => exact ⟨v, hv, .v (iv.dropL nl)⟩
    have W : WS X (an.plus (allTies τ)) dr ρA om (.For (.Name no po) (.List [.Name n1 q1, .Name n2 q2, .Name n3 q3] pl) body [] pfor) { nx := fun ρ' _ => ∀ i, i ≠ io → ρ'[i]? = ρA[i]?, rt := fun _ => False } := by
      refine ws_for hp hc (wg_name hN hno lno hfo) (wi_seq (we_lst (wa_cons (we_name h1 v1 A1 (wa_cons (we_name h2 v2 A2 (wa_cons (we_name h3 v3 A3 (wa_nil ?_) hd3 hc3) s3) hd2 hc2) s2) hd1 hc1) s1))) hfold
      refine ⟨small_le (by show 3 ≤ 1000; decide), ?_⟩
      refine ⟨fun _ ρ' om' => om'.length = om.length ∧ (∀ (k : Nat) (p : Addr), τ[k]? = some p → ∃ xs, om'[k]? = some (some (D.lst xs))) ∧ ∀ i, i ≠ io → ρ'[i]? = ρA[i]?, ⟨rfl, lv, fun _ _ => rfl⟩, fun i e ρ' om' hl' he ⟨lo, lvo, hρ⟩ => ?_, fun ρ' om' _ ⟨_, _, h⟩ => h⟩
      show WSs X _ dr (ρ'.set io (some (.v e))) om' body _
      have lr : (ρ'.set io (some (.v e))).length = ρ.length := by rw [List.length_set, hl', lA]
      have hio : (ρ'.set io (some (R.v e)))[io]? = some (some (.v e)) := List.getElem?_set_self (by rw [hl', lA]; exact lio)
      have keep : ∀ m, m ≠ io → (ρ'.set io (some (R.v e)))[m]? = ρA[m]? := fun m hm => by rw [List.getElem?_set_ne (Ne.symm hm)]; exact hρ m hm
      have agree : ∀ (i : Nat) (r : R), ρB[i]? = some (some r) → (ρ'.set io (some (R.v e)))[i]? = some (some r) := fun i r h => by
        obtain ⟨x1, x2, x3, xo⟩ := kB i r h
        rw [keep i xo, Ao i x1 x2 x3]
        exact h
      have em : e = a1 ∨ e = a2 ∨ e = a3 := by
        have := List.mem_of_getElem? he
        simpa using this
      have el : ∃ v, ElOf X.K G τ v e := by
        rcases em with rfl | rfl | rfl
        · exact ⟨_, el1⟩
        · exact ⟨_, el2⟩
        · exact ⟨_, el3⟩
      obtain ⟨_, _, el⟩ := el
      rcases el with ⟨p, k, rfl, hk⟩ | ⟨ds, rfl⟩
      · refine (hb1 _ _ om' k p lr agree hio (List.mem_append_left _ (allTies_mem.mpr hk)) (lvo k p hk)).imp (fun ρ2 om2 ⟨ex, xs, eo⟩ => ?_) (fun _ q => q.elim) (fun _ _ q => q.elim) (fun _ _ q => q.elim)
        subst ex eo
        refine ⟨by rw [List.length_set]; exact lo, fun k' p' hk' => ?_, keep⟩
        by_cases ek : k = k'
        · subst ek
          exact ⟨xs, List.getElem?_set_self (by rw [lo, g2.len]; exact (List.getElem?_eq_some_iff.mp hk).1)⟩
        · rw [List.getElem?_set_ne ek]
          exact lvo k' p' hk'
      · refine (hb2 _ _ om' ds lr agree hio).imp (fun ρ2 om2 ⟨ex, eo⟩ => ?_) (fun _ q => q.elim) (fun _ _ q => q.elim) (fun _ _ q => q.elim)
        subst ex eo
        exact ⟨lo, lvo, keep⟩
    refine ⟨_, uS1_of W g2 nA (hl.trans lA.symm) (fun σ' H' ⟨ρ', om', τ', G', w, g', n', _, l1, l2⟩ => ?_) (fun v H' ⟨d, _, _, _, q, _⟩ => q.elim) (fun σ' H' ⟨_, _, _, _, q, _⟩ => q.elim) (fun σ' H' ⟨_, _, _, _, q, _⟩ => q.elim)⟩
    have g3 : Good X.K an dr [] [] G' H' := g'.unplus.forget hti
    refine uSn_of rest g3 (fun i r h => ?_) (l1.trans (lA.trans lB.symm)) (fun σ2 H2 q => z1 σ2 H2 (lB ▸ q)) z2 (fun σ2 H2 q => z3 σ2 H2 (lB ▸ q)) (fun σ2 H2 q => z4 σ2 H2 (lB ▸ q))
    obtain ⟨x1, x2, x3, xo⟩ := kB i r h
    have h' : ρ'[i]? = some (some r) := by rw [w i xo, Ao i x1 x2 x3]; exact h
    obtain ⟨v, hv, iv⟩ := n' i r h'
    obtain ⟨d, rfl, _⟩ := hB i r h
    cases iv with
    | v iv => exact ⟨v, hv, .v iv⟩
end
end DL

namespace DL
open PySem PySem.Spec PyProof.Rows L2
theorem tup_none (l : Addr) (items : Array Value) (n : Nat) (dd : Option Addr) (sl : Array (Option Value)) (u : Tok) (ne : items.isEmpty = false) :
    Meets (Builtin.«tuple.__mul__» ⟨[.ref l, .int 0 u], []⟩) (fun _ R s => s.heap.get? l = some { cls := .type "tuple", dict := dd, data := .seq items n, slots := sl } ∧
      R (.ok (.ret (Value.ref s.heap.objs.size))) { s with heap := s.heap.push { cls := Value.type "tuple", data := Data.seq #[] }, toks := s.toks }) :=
  .of_wp fun prog w A R s h => by
    obtain ⟨hp, g, d, tk, os⟩ := s
    obtain ⟨hl, h⟩ := h
    have f1 := AutoSeq1.idx_int
    have c1 : (items.isEmpty || (0 : Int) == 1) = false := by rw [ne]; rfl
    wp_walk using wpAny_loadPart' hl
    repeat (first
      | (refine wpAny_ite_false (decide_eq_false (by rw [c1]; exact Bool.false_ne_true)) ?_; wp_walk using wpAny_loadPart' hl)
      | (refine wpAny_ite_false (decide_eq_false (by rw [ne]; exact Bool.false_ne_true)) ?_; wp_walk using wpAny_loadPart' hl))
    exact ⟨_, rfl, h⟩
def rRep0 (K : PySem.W.Frag) : R2 := fun x y H Q => ∃ l xs, x = .ref l ∧ y = .int 0 ∧ SqT K H l xs ∧ xs ≠ [] ∧ ∀ p, H p = none → Q (.ref p) (upd H p (.tup []))
theorem op_rep0 {X : Cx} : OpR X (binaryOp .Mult) (rRep0 X.K) := by
  rintro pins s σ H x y v u Q I rx ry ⟨l, xs, ex, ey, hT, ne, q⟩
  subst ex
  subst ey
  obtain rfl : v = Value.ref l := rx
  obtain ⟨t, rfl⟩ : ∃ t, u = Value.int 0 t := ry
  obtain ⟨its, r, ⟨⟨cls, dd, data, sl⟩, ho, hc, n, hd⟩, _⟩ := I.tuple hT
  obtain rfl : cls = _ := hc
  obtain rfl : data = _ := hd
  have hi : its.toArray.isEmpty = false := by
    cases its with
    | nil =>
      cases r
      exact absurd rfl ne
    | cons => rfl
  refine wpAny_binaryOp_repeat_ref (T := "tuple") (U := "int") (by decide) ⟨_, ho, rfl⟩ (fun s' => typeIs_int s' 0 t) noFill_tuple_mul F.fills_int_mul F.slot_int_rmul repeat_tuple F.slot_int_index.lookup
    (call_meets F.slot_int_rmul (typeIs_int s 0 t) F.entry_int_rmul (F.args_int_rmul_2 _ _) (int_rmul_tuple 0 t l its.toArray n dd sl)
      ⟨ho, rfl, ⟨_, ho, rfl⟩, call_meets F.slot_tuple_mul ⟨_, ho, rfl⟩ F.entry_tuple_mul (F.args_tuple_mul_2 _ _) (tup_none l its.toArray n dd sl t hi) ⟨ho, ?_⟩⟩)
  refine ⟨.ref s.heap.objs.size, _, I.laid (t' := s.toks) (o := .tup []) (fun b ob q => Heap.get?_push_of_some _ q) (Nat.le_refl _) ?_, rfl, q _ (I.hok.fresh (Nat.le_refl _))⟩
  exact ⟨Nat.zero_le _, [], .nil, IsTup.new _ _⟩
def rRepA (K : PySem.W.Frag) : R2 := fun x y H Q => rRepN K x y H Q ∨ rRep0 K x y H Q
theorem op_repA {X : Cx} : OpR X (binaryOp .Mult) (rRepA X.K) := fun pins s σ H x y v u Q I rx ry h => h.elim (op_repN pins s σ H x y v u Q I rx ry) (op_rep0 pins s σ H x y v u Q I rx ry)
def tmul0 (x y : D) (K : D → Prop) : Prop := match x, y with
  | .tup a, .int j => (a ≠ [] ∧ 0 ≤ j ∧ j ≤ 1000 ∧ a.length ≤ 1000) ∧ K (.tup (List.replicate j.toNat a).flatten)
  | _, _ => False
theorem tmul0_inv {x y : D} {K : D → Prop} (h : tmul0 x y K) : ∃ a j, x = .tup a ∧ y = .int j ∧ (a ≠ [] ∧ 0 ≤ j ∧ j ≤ 1000 ∧ a.length ≤ 1000) ∧ K (.tup (List.replicate j.toNat a).flatten) := by
  unfold tmul0 at h
  split at h
  · exact ⟨_, _, rfl, rfl, h⟩
  · exact h.elim
theorem tmul0_imp {x y : D} {K K' : D → Prop} (h : tmul0 x y K) (i : ∀ d, K d → K' d) : tmul0 x y K' := by
  obtain ⟨a, j, rfl, rfl, h1, h2⟩ := tmul0_inv h
  exact ⟨h1, i _ h2⟩
section
variable {X : Cx} {an : An} {dr : Option Dr} {ρ : Rho} {om : Om} {a b : Expr} {pos : Pos} {Q : R → Om → Prop}
theorem we_tmul0 (h : WE X an dr ρ om a fun ra om1 => WE X an dr ρ om1 b fun rb om2 => tmul0 (vw om2 ra) (vw om2 rb) fun d => Q (.v d) om2) : WE X an dr ρ om (.BinOp a .Mult b pos) Q :=
  peI (pe_op op_repA (pe_u (an := an) (dr := dr)) (pe_u (an := an) (dr := dr))) fun σ H K' ⟨τ, G, g, n, k⟩ =>
    uE_of h g n fun v r om1 τ1 G1 H1 h1 w g1 gr1 n1 => uE_of w g1 n1 fun v2 r2 om2 τ2 G2 H2 h2 q g2 gr2 n2 => by
      obtain ⟨xs, j, e1, e2, ⟨c1, c2, c3, c4⟩, q⟩ := tmul0_inv q
      have i1 := h1.mono gr2
      obtain ⟨pa, vs, rfl, hp, il⟩ := vw_tup g2 i1 e1
      obtain rfl := vw_int g2 h2 e2
      have ne : vs ≠ [] := fun z => c1 (by cases vs with | nil => cases il; rfl | cons _ _ => cases z)
      rcases Int.lt_or_eq_of_le c2 with p | e0
      · refine .inl ⟨pa, j, vs, rfl, rfl, hp, ne, c3, by rw [il.length]; exact c4, ?_⟩
        rcases Int.lt_or_eq_of_le (show (1 : Int) ≤ j from p) with lt | e
        · exact .inr ⟨lt, fun l hl => k _ _ om2 τ2 _ _ (.v (.tup upd_same ((il.rep _).mono (Ex.new (g2.ex.free hl))))) q (g2.alloc hl) ((gr1.trans gr2).trans (g2.grow hl))⟩
        · subst e
          have er : (List.replicate (1 : Int).toNat xs).flatten = xs := by show (xs ++ []) = xs; exact List.append_nil xs
          have q3 := q
          rw [er] at q3
          exact .inl ⟨rfl, k _ _ om2 τ2 G2 H2 (.v (vw_not g2 i1 e1 rfl)) q3 g2 (gr1.trans gr2)⟩
      · subst e0
        exact .inr ⟨pa, vs, rfl, rfl, hp, ne, fun l hl => k _ _ om2 τ2 _ _ (.v (.tup upd_same .nil)) q (g2.alloc hl) ((gr1.trans gr2).trans (g2.grow hl))⟩
end
end DL

namespace RG
open PySem
open DL (Tri)

inductive Wk (B : List Tri) : Str → Str → Int → Prop
  | one {x y : Str} {c : Int} : (x, y, c) ∈ B → Wk B x y c
  | cons {x y z : Str} {c d : Int} : (x, y, c) ∈ B → Wk B y z d → Wk B x z (c + d)
section
variable {B : List Tri}
theorem Wk.trans {x y z : Str} {c d : Int} (h : Wk B x y c) (q : Wk B y z d) : Wk B x z (c + d) := by
  induction h with
  | one h => exact .cons h q
  | cons h _ ih =>
    rw [Int.add_assoc]
    exact .cons h (ih q)
def Keeps (B : List Tri) (p : Str → Int) : Prop := ∀ t ∈ B, p t.1 ≤ p t.2.1 + t.2.2
theorem Keeps.walk {p : Str → Int} (k : Keeps B p) {x y : Str} {c : Int} (h : Wk B x y c) : p x ≤ p y + c := by
  induction h with
  | one h => exact k _ h
  | cons h _ ih => have := k _ h; simp only at this; omega
def Neg (B : List Tri) : Prop := ∃ x c, Wk B x x c ∧ c < 0
theorem Wk.mono {B' : List Tri} (s : ∀ t ∈ B, t ∈ B') {x y : Str} {c : Int} (h : Wk B x y c) : Wk B' x y c := by
  induction h with
  | one h => exact .one (s _ h)
  | cons h _ ih => exact .cons (s _ h) ih
theorem Wk.ends {x y : Str} {c : Int} (h : Wk B x y c) : (∃ t ∈ B, t.1 = x) ∧ ∃ t ∈ B, t.2.1 = y := by
  induction h with
  | one h => exact ⟨⟨_, h, rfl⟩, ⟨_, h, rfl⟩⟩
  | cons h _ ih => exact ⟨⟨_, h, rfl⟩, ih.2⟩
inductive PW (B : List Tri) (w : Str → Option Nat) : Str → Str → Int → Prop
  | one {x y : Str} {c : Int} {i : Nat} : w x = some i → B[i]? = some (x, y, c) → PW B w x y c
  | cons {x y z : Str} {c d : Int} {i : Nat} : w x = some i → B[i]? = some (x, y, c) → PW B w y z d → PW B w x z (c + d)
theorem PW.wk {w : Str → Option Nat} {x y : Str} {c : Int} (h : PW B w x y c) : Wk B x y c := by
  induction h with
  | one _ h => exact .one (List.mem_of_getElem? h)
  | cons _ h _ ih => exact .cons (List.mem_of_getElem? h) ih
structure Low (B : List Tri) (N : Str → Int) (w : Str → Option Nat) : Prop where
  low : ∀ x i, w x = some i → ∃ y c, B[i]? = some (x, y, c) ∧ N y + c ≤ N x
  cyc : ∀ x s, PW B w x x s → s < 0
theorem Low.sum {N : Str → Int} {w : Str → Option Nat} (l : Low B N w) {x y : Str} {s : Int} (h : PW B w x y s) : N y + s ≤ N x := by
  induction h with
  | one h1 h2 =>
    obtain ⟨y', c', e, le⟩ := l.low _ _ h1
    rw [h2] at e; cases e; exact le
  | cons h1 h2 _ ih =>
    obtain ⟨y', c', e, le⟩ := l.low _ _ h1
    rw [h2] at e; cases e
    omega
def setF {α : Type} (f : Str → α) (x : Str) (v : α) : Str → α := fun y => if y = x then v else f y
theorem setF_same {α : Type} {f : Str → α} {x : Str} {v : α} : setF f x v x = v := if_pos rfl
theorem setF_ne {α : Type} {f : Str → α} {x y : Str} {v : α} (h : y ≠ x) : setF f x v y = f y := if_neg h
theorem Low.relax {N : Str → Int} {w : Str → Option Nat} (l : Low B N w) {x y : Str} {c : Int} {i : Nat} (h : B[i]? = some (x, y, c)) (ne : x ≠ y) (gt : N y + c < N x) : Low B (setF N x (N y + c)) (setF w x (some i)) := by
  have key : ∀ u v s, PW B (setF w x (some i)) u v s → N v + s < N u ∨ PW B w u v s := by
    intro u v s q
    induction q with
    | @one u v c' i' h1 h2 =>
      by_cases e : u = x
      · subst e
        rw [setF_same] at h1
        cases h1
        rw [h] at h2; cases h2
        exact .inl gt
      · rw [setF_ne e] at h1
        exact .inr (.one h1 h2)
    | @cons u v z c' d i' h1 h2 _ ih =>
      have tail : N z + d ≤ N v := ih.elim Int.le_of_lt l.sum
      by_cases e : u = x
      · subst e
        rw [setF_same] at h1
        cases h1
        rw [h] at h2; cases h2
        exact .inl (by omega)
      · rw [setF_ne e] at h1
        obtain ⟨y', c'', e', le⟩ := l.low _ _ h1
        rw [h2] at e'; cases e'
        rcases ih with ih | ih
        · exact .inl (by omega)
        · exact .inr (.cons h1 h2 ih)
  refine ⟨fun u i' hu => ?_, fun u s q => ?_⟩
  · by_cases e : u = x
    · subst e
      rw [setF_same] at hu
      cases hu
      refine ⟨y, c, h, ?_⟩
      rw [setF_same, setF_ne (Ne.symm ne)]
      exact Int.le_refl _
    · rw [setF_ne e] at hu
      obtain ⟨y', c', e', le⟩ := l.low _ _ hu
      refine ⟨y', c', e', ?_⟩
      rw [setF_ne e]
      by_cases e2 : y' = x
      · subst e2; rw [setF_same]; omega
      · rw [setF_ne e2]; exact le
  · rcases key u u s q with q | q
    · omega
    · exact l.cyc u s q
structure St (B : List Tri) (r j : Nat) (N : Str → Int) (w : Str → Option Nat) (S : Str → Nat) (nm : Option Str) : Prop where
  low : Low B N w
  le : ∀ x, S x ≤ r
  has : ∀ x, 1 ≤ S x → ∃ i, w x = some i
  prd : ∀ x i y c, w x = some i → B[i]? = some (x, y, c) → S x ≤ S y + 1
  fresh : ∀ i x y c, B[i]? = some (x, y, c) → N y + c < N x → (if i < j then r else r - 1) ≤ S y
  last : match nm with
    | none => ∀ i x y c, i < j → B[i]? = some (x, y, c) → N x ≤ N y + c
    | some x => S x = r
theorem St.start {r : Nat} {N : Str → Int} {w : Str → Option Nat} {S : Str → Nat} {nm : Option Str} (s : St B r B.length N w S nm) : St B (r + 1) 0 N w S none where
  low := s.low
  le := fun x => Nat.le_succ_of_le (s.le x)
  has := s.has
  prd := s.prd
  fresh := fun i x y c h gt => by
    have := s.fresh i x y c h gt
    have lt : i < B.length := (List.getElem?_eq_some_iff.mp h).1
    rw [if_pos lt] at this
    rw [if_neg (Nat.not_lt_zero i)]
    omega
  last := fun i x y c lt _ => absurd lt (Nat.not_lt_zero _)
theorem St.begin : St B 0 B.length (fun _ => 0) (fun _ => none) (fun _ => 0) none → True := fun _ => trivial
theorem St.keep {r j : Nat} {N : Str → Int} {w : Str → Option Nat} {S : Str → Nat} {nm : Option Str} (s : St B r j N w S nm) {x y : Str} {c : Int} (h : B[j]? = some (x, y, c)) (le : N x ≤ N y + c) : St B r (j + 1) N w S nm where
  low := s.low
  le := s.le
  has := s.has
  prd := s.prd
  fresh := fun i x' y' c' h' gt => by
    by_cases e : i = j
    · subst e
      rw [h] at h'; cases h'
      omega
    · have := s.fresh i x' y' c' h' gt
      by_cases lt : i < j
      · rw [if_pos lt] at this; rw [if_pos (Nat.lt_succ_of_lt lt)]; exact this
      · rw [if_neg lt] at this; rw [if_neg (by omega)]; exact this
  last := by
    cases nm with
    | some z => exact s.last
    | none =>
      intro i x' y' c' lt h'
      by_cases e : i = j
      · subst e; rw [h] at h'; cases h'; exact le
      · exact s.last i x' y' c' (by omega) h'
theorem St.relax {r j : Nat} {N : Str → Int} {w : Str → Option Nat} {S : Str → Nat} {nm : Option Str} (s : St B r j N w S nm) (hr : 1 ≤ r) {x y : Str} {c : Int} (h : B[j]? = some (x, y, c)) (ne : x ≠ y) (gt : N y + c < N x) :
    St B r (j + 1) (setF N x (N y + c)) (setF w x (some j)) (setF S x r) (some x) where
  low := s.low.relax h ne gt
  le := fun z => by
    by_cases e : z = x
    · subst e; rw [setF_same]; exact Nat.le_refl _
    · rw [setF_ne e]; exact s.le z
  has := fun z hz => by
    by_cases e : z = x
    · subst e; exact ⟨j, setF_same⟩
    · rw [setF_ne e] at hz ⊢; exact s.has z hz
  prd := fun z i y' c' hz hb => by
    by_cases e : z = x
    · subst e
      rw [setF_same] at hz ⊢
      cases hz
      rw [h] at hb; cases hb
      rw [setF_ne (Ne.symm ne)]
      have := s.fresh j _ _ _ h gt
      rw [if_neg (Nat.lt_irrefl _)] at this
      omega
    · rw [setF_ne e] at hz ⊢
      have := s.prd z i y' c' hz hb
      by_cases e2 : y' = x
      · subst e2; rw [setF_same]; have := s.le z; omega
      · rw [setF_ne e2]; exact this
  fresh := fun i x' y' c' h' gt' => by
    by_cases e2 : y' = x
    · subst e2; rw [setF_same]; split <;> omega
    · rw [setF_ne e2] at gt' ⊢
      have old : N y' + c' < N x' := by
        by_cases e : x' = x
        · subst e; rw [setF_same] at gt'; omega
        · rw [setF_ne e] at gt'; exact gt'
      have := s.fresh i x' y' c' h' old
      by_cases e3 : i = j
      · subst e3
        rw [h] at h'; cases h'
        rw [setF_same] at gt'
        omega
      · by_cases lt : i < j
        · rw [if_pos lt] at this; rw [if_pos (Nat.lt_succ_of_lt lt)]; exact this
        · rw [if_neg lt] at this; rw [if_neg (by omega)]; exact this
  last := setF_same
theorem St.done {r : Nat} {N : Str → Int} {w : Str → Option Nat} {S : Str → Nat} (s : St B r B.length N w S none) : Keeps B N := fun t ht => by
  obtain ⟨i, hi⟩ := List.getElem?_of_mem ht
  exact s.last i t.1 t.2.1 t.2.2 (List.getElem?_eq_some_iff.mp hi).1 hi
end
end RG

namespace RG
open PySem
open DL (Tri)
theorem nodup_le {α : Type} [DecidableEq α] : ∀ {l D : List α}, l.Nodup → (∀ x ∈ l, x ∈ D) → l.length ≤ D.length
  | [], _, _, _ => Nat.zero_le _
  | x :: l, D, nd, h => by
    obtain ⟨n1, n2⟩ := List.nodup_cons.mp nd
    have hx : x ∈ D := h x List.mem_cons_self
    have ih := nodup_le (D := D.erase x) n2 fun y hy => (List.mem_erase_of_ne (fun e : y = x => n1 (by rw [← e]; exact hy))).mpr (h y (List.mem_cons_of_mem _ hy))
    rw [List.length_erase_of_mem hx] at ih
    have : 0 < D.length := List.length_pos_of_mem hx
    rw [List.length_cons]
    omega
theorem pigeon {α : Type} [DecidableEq α] {f : Nat → α} {D : List α} (h : ∀ k, k ≤ D.length → f k ∈ D) : ∃ a b, a < b ∧ b ≤ D.length ∧ f a = f b := by
  by_cases q : ∃ a b, a < b ∧ b ≤ D.length ∧ f a = f b
  · exact q
  · exfalso
    have nd : ((List.range (D.length + 1)).map f).Nodup := by
      refine List.pairwise_map.mpr ?_
      refine List.Pairwise.imp_of_mem (R := (· < ·)) (fun {a b} ha hb lt e => ?_) List.pairwise_lt_range
      exact q ⟨a, b, lt, Nat.le_of_lt_succ (List.mem_range.mp hb), e⟩
    have := nodup_le nd (D := D) fun x hx => by
      obtain ⟨k, hk, rfl⟩ := List.mem_map.mp hx
      exact h k (Nat.le_of_lt_succ (List.mem_range.mp hk))
    rw [List.length_map, List.length_range] at this
    omega
section
variable {B : List Tri}
def stp (B : List Tri) (w : Str → Option Nat) (x : Str) : Str := match w x with
  | some i => match B[i]? with
    | some t => t.2.1
    | none => x
  | none => x
def itr (g : Str → Str) : Nat → Str → Str
  | 0, x => x
  | n + 1, x => itr g n (g x)
theorem itr_add (g : Str → Str) : ∀ (a b : Nat) (x : Str), itr g (a + b) x = itr g b (itr g a x)
  | 0, b, x => by rw [Nat.zero_add]; rfl
  | a + 1, b, x => by rw [Nat.succ_add]; exact itr_add g a b (g x)
theorem itr_succ (g : Str → Str) (n : Nat) (x : Str) : itr g (n + 1) x = g (itr g n x) := itr_add g n 1 x
theorem Low.stp {N : Str → Int} {w : Str → Option Nat} (l : Low B N w) {x : Str} {i : Nat} (h : w x = some i) : ∃ c, B[i]? = some (x, stp B w x, c) := by
  obtain ⟨y, c, e, _⟩ := l.low x i h
  refine ⟨c, ?_⟩
  have : RG.stp B w x = y := by unfold RG.stp; rw [h]; show (match B[i]? with | some t => t.2.1 | none => x) = y; rw [e]
  rw [this]; exact e
theorem St.chain {n : Nat} {N : Str → Int} {w : Str → Option Nat} {S : Str → Nat} {x0 : Str} {ns : List Str} (s : St B (n + 1) B.length N w S (some x0)) (hn : ns.length = n) (hns : ∀ t ∈ B, t.1 ∈ ns ∧ t.2.1 ∈ ns) :
    ∀ k, ∃ i, w (itr (stp B w) k x0) = some i := by
  have inN : ∀ x i, w x = some i → x ∈ ns := fun x i h => by
    obtain ⟨c, e⟩ := s.low.stp h
    exact (hns _ (List.mem_of_getElem? e)).1
  have S0 : S x0 = n + 1 := s.last
  have up : ∀ k, k ≤ n → n + 1 ≤ S (itr (stp B w) k x0) + k := by
    intro k
    induction k with
    | zero => intro _; show n + 1 ≤ S x0 + 0; omega
    | succ k ih =>
      intro hk
      have h1 := ih (by omega)
      obtain ⟨i, hi⟩ := s.has (itr (stp B w) k x0) (by omega)
      obtain ⟨c, e⟩ := s.low.stp hi
      have h2 := s.prd _ _ _ _ hi e
      rw [itr_succ]
      omega
  have some_ : ∀ k, k ≤ n → ∃ i, w (itr (stp B w) k x0) = some i := fun k hk => s.has _ (by have := up k hk; omega)
  obtain ⟨a, b, lt, hb, e⟩ := pigeon (f := fun k => itr (stp B w) k x0) (D := ns) fun k hk => by
    obtain ⟨i, hi⟩ := some_ k (by omega)
    exact inN _ _ hi
  intro k
  induction k using Nat.strongRecOn with
  | ind k ih =>
    by_cases hk : k ≤ n
    · exact some_ k hk
    · have h1 : itr (stp B w) k x0 = itr (stp B w) (a + (k - b)) x0 := by
        rw [show k = b + (k - b) by omega, itr_add, itr_add, ← e]
        congr 1
        omega
      rw [h1]
      exact ih _ (by omega)
theorem PW.of {N : Str → Int} {w : Str → Option Nat} (l : Low B N w) : ∀ (k : Nat) (x : Str), (∀ j, j ≤ k → ∃ i, w (itr (stp B w) j x) = some i) → ∃ s, PW B w x (itr (stp B w) (k + 1) x) s
  | 0, x, h => by
    obtain ⟨i, hi⟩ := h 0 (Nat.le_refl _)
    obtain ⟨c, e⟩ := l.stp hi
    exact ⟨c, .one hi e⟩
  | k + 1, x, h => by
    obtain ⟨i, hi⟩ := h 0 (Nat.zero_le _)
    obtain ⟨c, e⟩ := l.stp hi
    obtain ⟨s, q⟩ := PW.of l k (stp B w x) fun j hj => h (j + 1) (by omega)
    exact ⟨c + s, .cons hi e q⟩
theorem round_at {w : Str → Option Nat} {x0 : Str} {ks : List Str} (ch : ∀ k, ∃ i, w (itr (stp B w) k x0) = some i) (hks : ∀ x i, w x = some i → x ∈ ks) :
    ∃ q, 1 ≤ q ∧ itr (stp B w) q (itr (stp B w) ks.length x0) = itr (stp B w) ks.length x0 ∧ ∀ k, 1 ≤ k → k < q → itr (stp B w) k (itr (stp B w) ks.length x0) ≠ itr (stp B w) ks.length x0 := by
  obtain ⟨a, b, lt, hb, e⟩ := pigeon (f := fun k => itr (stp B w) k x0) (D := ks) fun k _ => by
    obtain ⟨i, hi⟩ := ch k
    exact hks _ _ hi
  have e : itr (stp B w) a x0 = itr (stp B w) b x0 := e
  have per : ∃ q, 1 ≤ q ∧ itr (stp B w) q (itr (stp B w) ks.length x0) = itr (stp B w) ks.length x0 := by
    refine ⟨b - a, by omega, ?_⟩
    rw [← itr_add, show ks.length + (b - a) = b + (ks.length - a) by omega, itr_add, ← e, ← itr_add, show a + (ks.length - a) = ks.length by omega]
  have least : ∀ q, (1 ≤ q ∧ itr (stp B w) q (itr (stp B w) ks.length x0) = itr (stp B w) ks.length x0) → ∃ m, (1 ≤ m ∧ itr (stp B w) m (itr (stp B w) ks.length x0) = itr (stp B w) ks.length x0) ∧ ∀ k, 1 ≤ k → k < m → itr (stp B w) k (itr (stp B w) ks.length x0) ≠ itr (stp B w) ks.length x0 := by
    intro q
    induction q using Nat.strongRecOn with
    | ind q ih =>
      intro hq
      by_cases z : ∃ k, 1 ≤ k ∧ k < q ∧ itr (stp B w) k (itr (stp B w) ks.length x0) = itr (stp B w) ks.length x0
      · obtain ⟨k, k1, k2, k3⟩ := z
        exact ih k k2 ⟨k1, k3⟩
      · exact ⟨q, hq, fun k k1 k2 k3 => z ⟨k, k1, k2, k3⟩⟩
  obtain ⟨q, hq⟩ := per
  obtain ⟨m, ⟨m1, m2⟩, m3⟩ := least q hq
  exact ⟨m, m1, m2, m3⟩
theorem St.neg {n : Nat} {N : Str → Int} {w : Str → Option Nat} {S : Str → Nat} {x0 : Str} {ns ks : List Str} (s : St B (n + 1) B.length N w S (some x0)) (hn : ns.length = n) (hns : ∀ t ∈ B, t.1 ∈ ns ∧ t.2.1 ∈ ns) (hks : ∀ x i, w x = some i → x ∈ ks) : Neg B := by
  have ch := s.chain hn hns
  obtain ⟨q, q1, q2, _⟩ := round_at ch hks
  obtain ⟨s0, p⟩ := PW.of s.low (q - 1) (itr (stp B w) ks.length x0) fun j _ => by rw [← itr_add]; exact ch _
  rw [show q - 1 + 1 = q by omega, q2] at p
  exact ⟨_, s0, p.wk, s.low.cyc _ _ p⟩
end
end RG

namespace RG
open PySem
open DL (Tri)
abbrev Mx := Str → Str → Option Int
def ole (o : Option Int) (c : Int) : Prop := ∃ a, o = some a ∧ a ≤ c
theorem ole.mono {o : Option Int} {c d : Int} (h : ole o c) (l : c ≤ d) : ole o d := by obtain ⟨a, e, q⟩ := h; exact ⟨a, e, by omega⟩
def LeF (F' F : Mx) : Prop := ∀ x y c, F x y = some c → ole (F' x y) c
theorem LeF.refl (F : Mx) : LeF F F := fun _ _ c h => ⟨c, h, Int.le_refl _⟩
theorem LeF.ole {F' F : Mx} (l : LeF F' F) {x y : Str} {c : Int} (h : ole (F x y) c) : ole (F' x y) c := by obtain ⟨a, e, q⟩ := h; exact (l _ _ _ e).mono q
theorem LeF.trans {A B C : Mx} (h : LeF A B) (q : LeF B C) : LeF A C := fun x y c e => h.ole (q x y c e)
def NegD (F : Mx) : Prop := ∃ x c, F x x = some c ∧ c < 0
theorem NegD.le {F' F : Mx} (n : NegD F) (l : LeF F' F) : NegD F' := by
  obtain ⟨x, c, h, q⟩ := n
  obtain ⟨a, e, q'⟩ := l _ _ _ h
  exact ⟨x, a, e, by omega⟩
def Closed (F : Mx) (M : List Str) : Prop := ∀ m ∈ M, ∀ x y a b, F x m = some a → F m y = some b → ole (F x y) (a + b)
def set2 (F : Mx) (x y : Str) (c : Int) : Mx := fun u v => if u = x ∧ v = y then some c else F u v
theorem set2_same {F : Mx} {x y : Str} {c : Int} : set2 F x y c x y = some c := if_pos ⟨rfl, rfl⟩
theorem set2_ne {F : Mx} {x y u v : Str} {c : Int} (h : ¬ (u = x ∧ v = y)) : set2 F x y c u v = F u v := if_neg h
def lower (F : Mx) (x y : Str) (c : Int) : Mx := set2 F x y (min c ((F x y).getD c))
theorem lower_at {F : Mx} {x y : Str} {c : Int} : ole (lower F x y c x y) c := ⟨_, set2_same, by omega⟩
theorem lower_le {F : Mx} {x y : Str} {c : Int} : LeF (lower F x y c) F := fun u v a h => by
  by_cases e : u = x ∧ v = y
  · obtain ⟨rfl, rfl⟩ := e
    refine ⟨_, set2_same, ?_⟩
    rw [h]
    show min c a ≤ a
    omega
  · exact ⟨a, (set2_ne e).trans h, Int.le_refl _⟩
theorem lower_is {F : Mx} {x y u v : Str} {c a : Int} (h : lower F x y c u v = some a) : F u v = some a ∨ (u = x ∧ v = y ∧ a = c) := by
  by_cases e : u = x ∧ v = y
  · obtain ⟨rfl, rfl⟩ := e
    unfold lower at h
    rw [set2_same] at h
    cases q : F u v with
    | none =>
      rw [q] at h
      have : min c c = a := Option.some.inj h
      exact .inr ⟨rfl, rfl, by omega⟩
    | some b =>
      rw [q] at h
      have : min c b = a := Option.some.inj h
      by_cases l : c ≤ b
      · exact .inr ⟨rfl, rfl, by omega⟩
      · left
        rw [show b = a by omega]
  · left
    unfold lower at h
    rw [set2_ne e] at h
    exact h
def stepF (F : Mx) (m x y : Str) : Mx := match F x m, F m y with
  | some a, some b => lower F x y (a + b)
  | _, _ => F
theorem stepF_cases (F : Mx) (m x y : Str) : (∃ a b, F x m = some a ∧ F m y = some b ∧ stepF F m x y = lower F x y (a + b)) ∨ ((F x m = none ∨ F m y = none) ∧ stepF F m x y = F) := by
  unfold stepF
  cases h1 : F x m with
  | none => exact .inr ⟨.inl rfl, rfl⟩
  | some a =>
    cases h2 : F m y with
    | none => exact .inr ⟨.inr rfl, rfl⟩
    | some b => exact .inl ⟨a, b, rfl, rfl, rfl⟩
theorem stepF_le (F : Mx) (m x y : Str) : LeF (stepF F m x y) F := by
  rcases stepF_cases F m x y with ⟨a, b, _, _, e⟩ | ⟨_, e⟩ <;> rw [e]
  · exact lower_le
  · exact LeF.refl F
section
variable {B : List Tri}
def Sound (B : List Tri) (F : Mx) : Prop := ∀ x y c, F x y = some c → Wk B x y c
theorem Sound.lower {F : Mx} (s : Sound B F) {x y : Str} {c : Int} (h : Wk B x y c) : Sound B (RG.lower F x y c) := fun u v a e => by
  rcases lower_is e with q | ⟨rfl, rfl, rfl⟩
  · exact s _ _ _ q
  · exact h
theorem Sound.step {F : Mx} (s : Sound B F) (m x y : Str) : Sound B (stepF F m x y) := by
  rcases stepF_cases F m x y with ⟨a, b, h1, h2, e⟩ | ⟨_, e⟩ <;> rw [e]
  · exact s.lower ((s _ _ _ h1).trans (s _ _ _ h2))
  · exact s
structure Mid (F0 : Mx) (m : Str) (dn : Str → Str → Prop) (F : Mx) : Prop where
  le : LeF F F0
  row : ∀ v, F m v = F0 m v
  col : ∀ u, F u m = F0 u m
  frm : ∀ u v c, F u v = some c → F0 u v = some c ∨ ∃ a b, F0 u m = some a ∧ F0 m v = some b ∧ c = a + b
  did : ∀ u v a b, dn u v → F0 u m = some a → F0 m v = some b → ole (F u v) (a + b)
theorem Mid.zero (F0 : Mx) (m : Str) : Mid F0 m (fun _ _ => False) F0 := ⟨LeF.refl _, fun _ => rfl, fun _ => rfl, fun _ _ _ h => .inl h, fun _ _ _ _ h => h.elim⟩
theorem Mid.imp {F0 F : Mx} {m : Str} {dn dn' : Str → Str → Prop} (h : Mid F0 m dn F) (i : ∀ u v, dn' u v → dn u v) : Mid F0 m dn' F := ⟨h.le, h.row, h.col, h.frm, fun u v a b q => h.did u v a b (i _ _ q)⟩
theorem Mid.step {F0 F : Mx} {m : Str} {dn : Str → Str → Prop} (h : Mid F0 m dn F) (nn : ¬ NegD F0) (x y : Str) : Mid F0 m (fun u v => dn u v ∨ (u = x ∧ v = y)) (stepF F m x y) := by
  have pos : ∀ e, F0 m m = some e → 0 ≤ e := fun e he => by
    by_cases z : 0 ≤ e
    · exact z
    · exact absurd ⟨m, e, he, by omega⟩ nn
  rcases stepF_cases F m x y with ⟨a, b, h1, h2, e⟩ | ⟨h0, e⟩
  · rw [e]
    have f1 : F0 x m = some a := by rw [← h.col]; exact h1
    have f2 : F0 m y = some b := by rw [← h.row]; exact h2
    refine ⟨lower_le.trans h.le, fun v => ?_, fun u => ?_, fun u v c hc => ?_, fun u v a' b' q g1 g2 => ?_⟩
    · by_cases z : m = x ∧ v = y
      · obtain ⟨rfl, rfl⟩ := z
        have p := pos a f1
        unfold lower
        rw [set2_same, h2]
        show some (min (a + b) b) = F0 m v
        rw [f2]
        congr 1
        omega
      · unfold lower; rw [set2_ne z]; exact h.row v
    · by_cases z : u = x ∧ m = y
      · obtain ⟨rfl, rfl⟩ := z
        have p := pos b f2
        unfold lower
        rw [set2_same, h1]
        show some (min (a + b) a) = F0 u m
        rw [f1]
        congr 1
        omega
      · unfold lower; rw [set2_ne z]; exact h.col u
    · rcases lower_is hc with q | ⟨rfl, rfl, rfl⟩
      · exact h.frm u v c q
      · exact .inr ⟨a, b, f1, f2, rfl⟩
    · rcases q with q | ⟨rfl, rfl⟩
      · exact lower_le.ole (h.did u v a' b' q g1 g2)
      · rw [f1] at g1; rw [f2] at g2
        cases g1; cases g2
        exact lower_at
  · rw [e]
    refine ⟨h.le, h.row, h.col, h.frm, fun u v a' b' q g1 g2 => ?_⟩
    rcases q with q | ⟨rfl, rfl⟩
    · exact h.did u v a' b' q g1 g2
    · rw [← h.col] at g1; rw [← h.row] at g2
      rcases h0 with h0 | h0
      · rw [h0] at g1; cases g1
      · rw [h0] at g2; cases g2
theorem Mid.closed {F0 F : Mx} {m : Str} {dn : Str → Str → Prop} {M : List Str} (h : Mid F0 m dn F) (nn : ¬ NegD F0) (cl : Closed F0 M) (all : ∀ x y a b, F0 x m = some a → F0 m y = some b → dn x y) : Closed F (m :: M) := by
  have did : ∀ u v a b, F0 u m = some a → F0 m v = some b → ole (F u v) (a + b) := fun u v a b g1 g2 => h.did u v a b (all _ _ _ _ g1 g2) g1 g2
  intro m' hm x y a b h1 h2
  rcases List.mem_cons.mp hm with e | hm
  · subst e
    rw [h.col] at h1; rw [h.row] at h2
    exact did _ _ _ _ h1 h2
  · rcases h.frm _ _ _ h1 with q1 | ⟨a1, a2, g1, g2, rfl⟩
    · rcases h.frm _ _ _ h2 with q2 | ⟨b1, b2, k1, k2, rfl⟩
      · exact h.le.ole (cl m' hm _ _ _ _ q1 q2)
      · obtain ⟨d, e, l⟩ := cl m' hm _ _ _ _ q1 k1
        exact (did _ _ _ _ e k2).mono (by omega)
    · rcases h.frm _ _ _ h2 with q2 | ⟨b1, b2, k1, k2, rfl⟩
      · obtain ⟨d, e, l⟩ := cl m' hm _ _ _ _ g2 q2
        exact (did _ _ _ _ g1 e).mono (by omega)
      · obtain ⟨d, e, l⟩ := cl m' hm _ _ _ _ g2 k1
        have p : 0 ≤ d := by
          by_cases z : 0 ≤ d
          · exact z
          · exact absurd ⟨m, d, e, by omega⟩ nn
        exact (did _ _ _ _ g1 k2).mono (by omega)
structure FW (B : List Tri) (M : List Str) (F : Mx) : Prop where
  sound : Sound B F
  base : ∀ t ∈ B, ole (F t.1 t.2.1) t.2.2
  cl : NegD F ∨ Closed F M
structure FWm (B : List Tri) (M : List Str) (m : Str) (dn : Str → Str → Prop) (F : Mx) : Prop where
  sound : Sound B F
  base : ∀ t ∈ B, ole (F t.1 t.2.1) t.2.2
  cl : NegD F ∨ ∃ F0, ¬ NegD F0 ∧ Sound B F0 ∧ Closed F0 M ∧ Mid F0 m dn F
theorem FW.begin {M : List Str} {F : Mx} (h : FW B M F) (m : Str) : FWm B M m (fun _ _ => False) F := ⟨h.sound, h.base, by
  by_cases n : NegD F
  · exact .inl n
  · exact .inr ⟨F, n, h.sound, h.cl.resolve_left n, Mid.zero F m⟩⟩
theorem FWm.step {M : List Str} {m : Str} {dn : Str → Str → Prop} {F : Mx} (h : FWm B M m dn F) (x y : Str) : FWm B M m (fun u v => dn u v ∨ (u = x ∧ v = y)) (stepF F m x y) :=
  ⟨h.sound.step m x y, fun t ht => (stepF_le F m x y).ole (h.base t ht), h.cl.imp (fun n => n.le (stepF_le F m x y)) fun ⟨F0, n, s, c, q⟩ => ⟨F0, n, s, c, q.step n x y⟩⟩
theorem FWm.imp {M : List Str} {m : Str} {dn dn' : Str → Str → Prop} {F : Mx} (h : FWm B M m dn F) (i : ∀ u v, dn' u v → dn u v) : FWm B M m dn' F := ⟨h.sound, h.base, h.cl.imp id fun ⟨F0, n, s, c, q⟩ => ⟨F0, n, s, c, q.imp i⟩⟩
theorem FWm.done {M : List Str} {m : Str} {dn : Str → Str → Prop} {F : Mx} {ns : List Str} (h : FWm B M m dn F) (hns : ∀ t ∈ B, t.1 ∈ ns ∧ t.2.1 ∈ ns) (all : ∀ x ∈ ns, ∀ y ∈ ns, dn x y) : FW B (m :: M) F := ⟨h.sound, h.base, h.cl.imp id fun ⟨F0, n, s, c, q⟩ => q.closed n c fun x y a b h1 h2 => by
  obtain ⟨⟨t, ht, e⟩, _⟩ := (s _ _ _ h1).ends
  obtain ⟨_, ⟨t', ht', e'⟩⟩ := (s _ _ _ h2).ends
  exact all x (e ▸ (hns t ht).1) y (e' ▸ (hns t' ht').2)⟩
theorem FW.walks {M : List Str} {F : Mx} (h : FW B M F) (hns : ∀ t ∈ B, t.1 ∈ M ∧ t.2.1 ∈ M) (n : ¬ NegD F) {x y : Str} {c : Int} (w : Wk B x y c) : ole (F x y) c := by
  have cl := h.cl.resolve_left n
  induction w with
  | one q => exact h.base _ q
  | @cons x y z c d q w ih =>
    obtain ⟨a, e1, l1⟩ := h.base _ q
    obtain ⟨b, e2, l2⟩ := ih
    have l1 : a ≤ c := l1
    exact (cl y (hns _ q).2 x z a b e1 e2).mono (by omega)
theorem FW.neg {M : List Str} {F : Mx} (h : FW B M F) (hns : ∀ t ∈ B, t.1 ∈ M ∧ t.2.1 ∈ M) : NegD F ↔ Neg B := by
  constructor
  · rintro ⟨x, c, e, l⟩
    exact ⟨x, c, h.sound _ _ _ e, l⟩
  · rintro ⟨x, c, w, l⟩
    by_cases n : NegD F
    · exact n
    · obtain ⟨a, e, q⟩ := h.walks hns n w
      exact ⟨x, a, e, by omega⟩
def Least (B : List Tri) (x y : Str) (c : Int) : Prop := Wk B x y c ∧ ∀ d, Wk B x y d → c ≤ d
theorem FW.least {M : List Str} {F : Mx} (h : FW B M F) (hns : ∀ t ∈ B, t.1 ∈ M ∧ t.2.1 ∈ M) (n : ¬ Neg B) {x y : Str} {c : Int} : F x y = some c ↔ Least B x y c := by
  have n' : ¬ NegD F := fun z => n ((h.neg hns).mp z)
  constructor
  · intro e
    refine ⟨h.sound _ _ _ e, fun d w => ?_⟩
    obtain ⟨a, e', l⟩ := h.walks hns n' w
    rw [e] at e'; cases e'; exact l
  · rintro ⟨w, l⟩
    obtain ⟨a, e, q⟩ := h.walks hns n' w
    have := l a (h.sound _ _ _ e)
    rw [e, show a = c by omega]
theorem Least.inj {x y : Str} {c d : Int} (h : Least B x y c) (q : Least B x y d) : c = d := by
  have := h.2 _ q.1
  have := q.2 _ h.1
  omega
end
end RG

namespace RG
open PySem DL L2
section
variable {κ α : Type} [DecidableEq κ] [DecidableEq α] {key : α → κ}
def setG {β : Type} (f : α → β) (x : α) (v : β) : α → β := fun y => if y = x then v else f y
theorem valE_map (inj : ∀ x y, key x = key y → x = y) {f : α → D} {x : α} : ∀ {ks : List α}, valE (ks.map fun z => (key z, f z)) (key x) = if x ∈ ks then some (f x) else none
  | [] => by simp [valE]
  | k :: ks => by
    rw [List.map_cons]
    by_cases e : k = x
    · subst e
      rw [valE_pos rfl, if_pos List.mem_cons_self]
    · rw [valE_neg (show ¬ key k = key x from fun q => e (inj _ _ q)), valE_map inj]
      by_cases h : x ∈ ks
      · rw [if_pos h, if_pos (List.mem_cons_of_mem _ h)]
      · rw [if_neg h, if_neg fun q => (List.mem_cons.mp q).elim (fun q => e q.symm) h]
theorem any_map (inj : ∀ x y, key x = key y → x = y) {f : α → D} {x : α} {ks : List α} : ((ks.map fun z => (key z, f z)).any fun kv => decide (kv.1 = key x)) = decide (x ∈ ks) := by
  rw [List.any_map]
  induction ks with
  | nil => rfl
  | cons k ks ih =>
    rw [List.any_cons, ih]
    by_cases e : k = x
    · subst e; simp
    · have : ¬ key k = key x := fun q => e (inj _ _ q)
      simp [this, Ne.symm e]
end
def kS (z : Str) : Key := .inr z
def kP (p : Str × Str) : List Key := [.inr p.1, .inr p.2]
def isSq (d : D) (xs : List D) : Prop := d = .lst xs ∨ d = .tup xs
def namesOf (B : List Tri) : List Str := B.flatMap fun t => [t.1, t.2.1]
theorem mem_namesOf {B : List Tri} {z : Str} : z ∈ namesOf B ↔ ∃ t ∈ B, t.1 = z ∨ t.2.1 = z := by
  unfold namesOf
  rw [List.mem_flatMap]
  constructor
  · rintro ⟨t, ht, h⟩
    refine ⟨t, ht, ?_⟩
    rcases List.mem_cons.mp h with h | h
    · exact .inl h.symm
    · exact .inr (List.mem_singleton.mp h).symm
  · rintro ⟨t, ht, h | h⟩
    · exact ⟨t, ht, by rw [h]; exact List.mem_cons_self⟩
    · exact ⟨t, ht, by rw [h]; exact List.mem_cons_of_mem _ (List.mem_singleton.mpr rfl)⟩
structure Bds (B : List Tri) : Prop where
  ok : ∀ t ∈ B, sideS t.1 ∧ sideS t.2.1 ∧ t.1 ≠ t.2.1
  len : B.length ≤ 400
  few : ∃ ns : List Str, ns.length < 64 ∧ ∀ t ∈ B, t.1 ∈ ns ∧ t.2.1 ∈ ns
theorem nubS_nd : ∀ l : List Str, (nubS l).Nodup := fun l => by
  have key : ∀ r : List Str, (nubS r.reverse).Nodup := fun r => by
    induction r with
    | nil => exact List.nodup_nil
    | cons k r ih =>
      rw [List.reverse_cons, nubS_snoc]
      split
      · exact ih
      · rename_i h
        exact List.nodup_append.mpr ⟨ih, by simp, fun a ha b hb e => h (by rw [List.mem_singleton.mp hb] at e; exact e ▸ ha)⟩
  have := key l.reverse
  rwa [List.reverse_reverse] at this
theorem Bds.nub {B : List Tri} (h : Bds B) : (nubS (namesOf B)).length < 64 := by
  obtain ⟨ns, l, q⟩ := h.few
  refine Nat.lt_of_le_of_lt (nodup_le (nubS_nd _) fun x hx => ?_) l
  obtain ⟨t, ht, e⟩ := mem_namesOf.mp ((mem_nubS _ _).mp hx)
  rcases e with e | e
  · exact e ▸ (q t ht).1
  · exact e ▸ (q t ht).2
end RG

namespace RG
open PySem
open DL (Tri)
section
variable {B FX fs : List Tri} {kp : Str → Prop} {q : Str → Int}
end
end RG

namespace RG
open PySem
open DL (Tri)
section
variable {B : List Tri}
def cst (B : List Tri) (i : Nat) : Int := match B[i]? with
  | some t => t.2.2
  | none => 0
theorem cst_at {i : Nat} {t : Tri} (h : B[i]? = some t) : cst B i = t.2.2 := by unfold cst; rw [h]
theorem PW.sum {N : Str → Int} {w : Str → Option Nat} {iz : Str → Nat} (l : Low B N w) : ∀ (k : Nat) (x : Str), (∀ j, j ≤ k → w (itr (stp B w) j x) = some (iz (itr (stp B w) j x))) → PW B w x (itr (stp B w) (k + 1) x) (((List.range (k + 1)).map fun j => cst B (iz (itr (stp B w) j x))).sum)
  | 0, x, h => by
    have hi := h 0 (Nat.le_refl _)
    obtain ⟨c, e⟩ := l.stp hi
    have e2 : ((List.range (0 + 1)).map fun j => cst B (iz (itr (stp B w) j x))).sum = c := by
      show (cst B (iz x) + 0 : Int) = c
      have : cst B (iz x) = c := cst_at e
      omega
    rw [e2]
    exact .one hi e
  | k + 1, x, h => by
    have hi := h 0 (Nat.zero_le _)
    obtain ⟨c, e⟩ := l.stp hi
    have q := PW.sum l k (stp B w x) fun j hj => h (j + 1) (by omega)
    have e2 : ((List.range (k + 1 + 1)).map fun j => cst B (iz (itr (stp B w) j x))).sum = c + ((List.range (k + 1)).map fun j => cst B (iz (itr (stp B w) j (stp B w x)))).sum := by
      rw [List.range_succ_eq_map, List.map_cons, List.sum_cons, List.map_map]
      have : cst B (iz (itr (stp B w) 0 x)) = c := cst_at e
      rw [this]; rfl
    rw [e2]
    exact .cons hi e q
theorem sum_ge {h : Nat → Int} {f : Nat → Int} : ∀ n, (∀ k, k < n → h k - h (k + 1) ≤ f k) → h 0 - h n ≤ ((List.range n).map f).sum
  | 0, _ => by show h 0 - h 0 ≤ 0; omega
  | n + 1, q => by
    have := sum_ge n fun k hk => q k (by omega)
    have := q n (by omega)
    rw [List.range_succ, List.map_append, List.sum_append]
    show h 0 - h (n + 1) ≤ _ + (f n + 0)
    omega
theorem along {g : Nat → Str} {h : Str → Int} (a : Nat) : ∀ m, (∀ k, k ≤ m → (g (a + k), g (a + k + 1), h (g (a + k)) - h (g (a + k + 1))) ∈ B) → Wk B (g a) (g (a + m + 1)) (h (g a) - h (g (a + m + 1)))
  | 0, q => .one (q 0 (Nat.le_refl _))
  | m + 1, q => by
    have w := along a m fun k hk => q k (by omega)
    have := w.trans (.one (q (m + 1) (Nat.le_refl _)))
    have e : h (g a) - h (g (a + m + 1)) + (h (g (a + (m + 1))) - h (g (a + (m + 1) + 1))) = h (g a) - h (g (a + (m + 1) + 1)) := by
      rw [show a + (m + 1) = a + m + 1 by omega]; omega
    rw [e] at this
    exact this
end
end RG

namespace RG
open PySem DL
open PyProof.Rows
def ltS (a b : Str) : Prop := strKind.blt a.cps.toList b.cps.toList = true
theorem str_ext {a b : Str} (h : a.cps.toList = b.cps.toList) : a = b := by
  cases a; cases b
  congr 1
  exact Array.toList_inj.mp h
theorem rising_le : ∀ (l : List Str) (p : Str), risingS p l = true → ∀ x ∈ l, strKind.toKeyOrd.kle p.cps.toList x.cps.toList
  | y :: l, p, h, x, hx => by
    unfold risingS at h
    obtain ⟨h1, h2⟩ := Bool.and_eq_true_iff.mp h
    have h1 : strKind.toKeyOrd.kle p.cps.toList y.cps.toList := by
      show strKind.blt y.cps.toList p.cps.toList = false
      show decide (y.cps.toList < p.cps.toList) = false
      rw [← ltCps_eq]
      cases q : Spec.ltCps y.cps.toList p.cps.toList with
      | true => rw [q] at h1; cases h1
      | false => rfl
    rcases List.mem_cons.mp hx with e | hx
    · rw [e]; exact h1
    · exact KeyOrd.kle_trans h1 (rising_le l y h2 x hx)
theorem rising_pw : ∀ (l : List Str) (p : Str), risingS p l = true → (p :: l).Pairwise fun a b => strKind.toKeyOrd.kle a.cps.toList b.cps.toList
  | [], p, _ => List.pairwise_singleton _ _
  | y :: l, p, h => List.pairwise_cons.mpr ⟨rising_le _ _ h, rising_pw l y (by unfold risingS at h; exact (Bool.and_eq_true_iff.mp h).2)⟩
theorem sorted_pw {l : List Str} (h : sortedS l = true) : l.Pairwise fun a b => strKind.toKeyOrd.kle a.cps.toList b.cps.toList := by
  cases l with
  | nil => exact List.Pairwise.nil
  | cons x l => exact rising_pw l x h
theorem ltS_of {a b : Str} (h : strKind.toKeyOrd.kle a.cps.toList b.cps.toList) (ne : a ≠ b) : ltS a b := by
  unfold ltS
  cases q : strKind.blt a.cps.toList b.cps.toList with
  | true => rfl
  | false => exact absurd (str_ext (strKind.total _ _ q h)) ne
theorem sorted_lt {l : List Str} (h : sortedS l = true) (nd : l.Nodup) : l.Pairwise ltS := ((sorted_pw h).and nd).imp fun ⟨a, b⟩ => ltS_of a b
def dueR (ys : List Str) (h : Str → Int) (x : Str) : List Tri := (ys.filter fun y => decide (y ≠ x)).map fun y => (x, y, h x - h y)
def due (ys : List Str) (h : Str → Int) : List Tri := ys.flatMap (dueR ys h)
end RG

namespace RG
open PySem
open DL (Tri)
section
variable {B : List Tri}
inductive AW (B : List Tri) (ps : List Str) : Nat → Str → Str → Int → Prop
  | nil {y : Str} : AW B ps 0 y y 0
  | cons {n : Nat} {x y z : Str} {c d : Int} : (x, z, c) ∈ B → z ∉ ps → AW B ps n z y d → AW B ps (n + 1) x y (c + d)
theorem AW.wk {ps : List Str} {n : Nat} {x y : Str} {c : Int} (h : AW B ps n x y c) : (x = y ∧ c = 0) ∨ Wk B x y c := by
  induction h with
  | nil => exact .inl ⟨rfl, rfl⟩
  | cons h _ _ ih =>
    rcases ih with ⟨rfl, rfl⟩ | w
    · rw [Int.add_zero]; exact .inr (.one h)
    · exact .inr (.cons h w)
theorem AW.weak {ps qs : List Str} (s : ∀ v ∈ qs, v ∈ ps) {n : Nat} {x y : Str} {c : Int} (h : AW B ps n x y c) : AW B qs n x y c := by
  induction h with
  | nil => exact .nil
  | cons h n _ ih => exact .cons h (fun z => n (s _ z)) ih
def NN (B : List Tri) (N : Nat) : Prop := ∀ m x c, m < N → AW B [] m x x c → 0 ≤ c
theorem AW.split {ps : List Str} {n : Nat} {x y z : Str} {d : Int} (h : AW B ps n z y d) (hz : z ≠ x) : AW B (x :: ps) n z y d ∨ ∃ k m a e, AW B ps k z x a ∧ AW B ps m x y e ∧ k + m = n ∧ a + e = d := by
  induction h with
  | nil => exact .inl .nil
  | @cons n z y z2 c d h hn q ih =>
    by_cases e : z2 = x
    · subst e
      exact .inr ⟨1, n, c + 0, d, .cons h hn .nil, q, by omega, by omega⟩
    · rcases ih e with q1 | ⟨k, m, a, e1, q1, q2, q3, q4⟩
      · refine .inl (.cons h (fun hm => ?_) q1)
        rcases List.mem_cons.mp hm with r | r
        · exact e r
        · exact hn r
      · exact .inr ⟨k + 1, m, c + a, e1, .cons h hn q1, q2, by omega, by omega⟩
theorem AW.first {N : Nat} (nn : NN B N) : ∀ (n : Nat), n < N → ∀ {ps : List Str} {x y : Str} {c : Int}, AW B ps n x y c → x ≠ y → ∃ z c1 m d, m < n ∧ (x, z, c1) ∈ B ∧ z ∉ x :: ps ∧ AW B (x :: ps) m z y d ∧ c1 + d ≤ c := by
  intro n
  induction n using Nat.strongRecOn with
  | ind n ih =>
    intro hN ps x y c h ne
    cases h with
    | nil => exact absurd rfl ne
    | @cons n' _ _ z c1 d hB hn q =>
      have em : ∀ v ∈ ([] : List Str), v ∈ ps := fun v hv => absurd hv List.not_mem_nil
      by_cases e : z = x
      · subst e
        have c0 : 0 ≤ c1 + 0 := nn 1 z _ (by omega) (.cons hB List.not_mem_nil .nil)
        obtain ⟨z2, c2, m, d2, h1, h2, h3, h4, h5⟩ := ih n' (by omega) (by omega) q ne
        exact ⟨z2, c2, m, d2, by omega, h2, h3, h4, by omega⟩
      · rcases q.split e with q1 | ⟨k, m, a, e1, q1, q2, q3, q4⟩
        · refine ⟨z, c1, n', d, by omega, hB, fun hm => ?_, q1, Int.le_refl _⟩
          rcases List.mem_cons.mp hm with r | r
          · exact e r
          · exact hn r
        · have c0 : 0 ≤ c1 + a := nn (k + 1) x _ (by omega) (.cons hB List.not_mem_nil (q1.weak em))
          obtain ⟨z2, c2, m2, d2, h1, h2, h3, h4, h5⟩ := ih m (by omega) (by omega) q2 ne
          exact ⟨z2, c2, m2, d2, by omega, h2, h3, h4, by omega⟩
def chStep (f : Str → List Str → List Int) (x : Str) (ps : List Str) (t : Tri) : List Int := if t.1 = x ∧ t.2.1 ∉ ps then (f t.2.1 (ps ++ [t.2.1])).map (t.2.2 + ·) else []
def chF (B : List Tri) (y : Str) : Nat → Str → List Str → List Int
  | 0, _, _ => []
  | n + 1, x, ps => if x = y then [0] else B.flatMap (chStep (chF B y n) x ps)
theorem mem_step {f : Str → List Str → List Int} {x : Str} {ps : List Str} {t : Tri} {a : Int} : a ∈ chStep f x ps t ↔ t.1 = x ∧ t.2.1 ∉ ps ∧ ∃ b ∈ f t.2.1 (ps ++ [t.2.1]), a = t.2.2 + b := by
  unfold chStep
  by_cases h : t.1 = x ∧ t.2.1 ∉ ps
  · rw [if_pos h, List.mem_map]
    exact ⟨fun ⟨b, h1, h2⟩ => ⟨h.1, h.2, b, h1, h2.symm⟩, fun ⟨_, _, b, h1, h2⟩ => ⟨b, h1, h2.symm⟩⟩
  · rw [if_neg h]
    exact ⟨fun z => absurd z List.not_mem_nil, fun ⟨h1, h2, _⟩ => absurd ⟨h1, h2⟩ h⟩
theorem chF_sound {y : Str} : ∀ (n : Nat) (x : Str) (ps : List Str) (a : Int), a ∈ chF B y n x ps → (x = y ∧ a = 0) ∨ Wk B x y a
  | 0, _, _, _, h => absurd h List.not_mem_nil
  | n + 1, x, ps, a, h => by
    unfold chF at h
    by_cases e : x = y
    · rw [if_pos e] at h
      exact .inl ⟨e, List.mem_singleton.mp h⟩
    · rw [if_neg e] at h
      obtain ⟨t, ht, h⟩ := List.mem_flatMap.mp h
      obtain ⟨h1, _, b, hb, rfl⟩ := mem_step.mp h
      obtain ⟨t1, t2, t3⟩ := t
      have h1 : t1 = x := h1
      subst h1
      rcases chF_sound n _ _ _ hb with ⟨h2, h3⟩ | w
      · have h2 : t2 = y := h2
        subst h2 h3
        refine .inr ?_
        show Wk B t1 t2 (t3 + 0)
        rw [Int.add_zero]; exact .one ht
      · exact .inr (.cons ht w)
def lft (ns ps : List Str) : Nat := (ns.filter fun v => decide (v ∉ ps)).length
theorem lft_lt {ns ps : List Str} {z : Str} (h : z ∈ ns) (n : z ∉ ps) : lft ns (ps ++ [z]) < lft ns ps := by
  unfold lft
  induction ns with
  | nil => cases h
  | cons v ns ih =>
    have le : ∀ l : List Str, (l.filter fun v => decide (v ∉ ps ++ [z])).length ≤ (l.filter fun v => decide (v ∉ ps)).length := by
      intro l
      induction l with
      | nil => exact Nat.le_refl _
      | cons u l ih =>
        by_cases q : u ∈ ps
        · rw [List.filter_cons_of_neg (by simp [q]), List.filter_cons_of_neg (by simp [q])]; exact ih
        · rw [List.filter_cons_of_pos (p := fun v => decide (v ∉ ps)) (by simp [q])]
          by_cases q2 : u = z
          · rw [List.filter_cons_of_neg (by simp [q2])]; rw [List.length_cons]; omega
          · rw [List.filter_cons_of_pos (by simp [q, q2]), List.length_cons, List.length_cons]; omega
    by_cases e : v = z
    · subst e
      rw [List.filter_cons_of_neg (by simp), List.filter_cons_of_pos (by simp [n]), List.length_cons]
      have := le ns
      omega
    · have hz : z ∈ ns := by rcases List.mem_cons.mp h with r | r; exact absurd r.symm e; exact r
      have := ih hz
      by_cases q : v ∈ ps
      · rw [List.filter_cons_of_neg (by simp [q]), List.filter_cons_of_neg (by simp [q])]; exact this
      · rw [List.filter_cons_of_pos (by simp [q, e]), List.filter_cons_of_pos (by simp [q]), List.length_cons, List.length_cons]; omega
theorem chF_has {N : Nat} (nn : NN B N) {ns : List Str} (hns : ∀ t ∈ B, t.2.1 ∈ ns) {y : Str} : ∀ (f n : Nat), n < N → ∀ (ps qs : List Str) (x : Str) (c : Int), AW B qs n x y c → (∀ v, v ∈ ps ↔ v ∈ x :: qs) → lft ns ps < f → ∃ a ∈ chF B y f x ps, a ≤ c
  | 0, n, _, ps, qs, x, c, _, _, h => absurd h (Nat.not_lt_zero _)
  | f + 1, n, hn, ps, qs, x, c, w, hp, hf => by
    unfold chF
    by_cases e : x = y
    · subst e
      rw [if_pos rfl]
      exact ⟨0, List.mem_singleton.mpr rfl, nn n x c hn (w.weak fun v hv => absurd hv List.not_mem_nil)⟩
    · rw [if_neg e]
      obtain ⟨z, c1, m, d, h1, h2, h3, h4, h5⟩ := w.first nn n hn e
      have hz : z ∉ ps := fun q => h3 ((hp z).mp q)
      obtain ⟨a, ha, l⟩ := chF_has nn hns f m (by omega) (ps ++ [z]) (x :: qs) z d h4 (fun v => by
        rw [List.mem_append, List.mem_singleton, hp v]
        constructor
        · rintro (q | q)
          · exact List.mem_cons_of_mem _ q
          · exact q ▸ List.mem_cons_self
        · intro q
          rcases List.mem_cons.mp q with q | q
          · exact .inr q
          · exact .inl q) (by have := lft_lt (hns _ h2) hz; have : lft ns (ps ++ [z]) < lft ns ps := this; omega)
      exact ⟨c1 + a, List.mem_flatMap.mpr ⟨_, h2, mem_step.mpr ⟨rfl, hz, a, ha, rfl⟩⟩, by omega⟩
theorem chF_len {ns : List Str} {b : Nat} (hb : B.length ≤ b) (b1 : 1 ≤ b) (hns : ∀ t ∈ B, t.2.1 ∈ ns) {y : Str} : ∀ (f : Nat) (x : Str) (ps : List Str), (chF B y f x ps).length ≤ b ^ lft ns ps
  | 0, x, ps => Nat.zero_le _
  | f + 1, x, ps => by
    unfold chF
    have p1 : 1 ≤ b ^ lft ns ps := Nat.one_le_pow _ _ b1
    split
    · exact p1
    · have key : ∀ l : List Tri, (∀ t ∈ l, t ∈ B) → (l.flatMap (chStep (chF B y f) x ps)).length * b ≤ l.length * b ^ lft ns ps := by
        intro l
        induction l with
        | nil => intro _; simp
        | cons t l ih =>
          intro hl
          rw [List.flatMap_cons, List.length_append, List.length_cons, Nat.add_mul, Nat.add_mul, Nat.one_mul, Nat.add_comm]
          refine Nat.add_le_add (ih fun u hu => hl u (List.mem_cons_of_mem _ hu)) ?_
          unfold chStep
          split
          · rename_i q
            rw [List.length_map]
            have h1 := chF_len hb b1 hns (y := y) f t.2.1 (ps ++ [t.2.1])
            have h2 := lft_lt (hns t (hl t List.mem_cons_self)) q.2
            calc _ ≤ b ^ lft ns (ps ++ [t.2.1]) * b := Nat.mul_le_mul_right _ h1
              _ = b ^ (lft ns (ps ++ [t.2.1]) + 1) := (Nat.pow_succ ..).symm
              _ ≤ b ^ lft ns ps := Nat.pow_le_pow_right b1 h2
          · simp
      have h := key B fun t ht => ht
      have h2 : (B.flatMap (chStep (chF B y f) x ps)).length * b ≤ b ^ lft ns ps * b := Nat.le_trans h (by rw [Nat.mul_comm (b ^ _)]; exact Nat.mul_le_mul_right _ hb)
      exact Nat.le_of_mul_le_mul_right h2 b1
end
end RG

namespace K02
open PySem PySem.Spec L2 DL
theorem hu1_of {n : Nat} (h : n + 65 < cLine) : n + 1 < cLine := by omega
def top (i : Nat) : Stmt := PySem.Challenge.pw_otherworths_k02_shapes_made_or_refused.main.body.getD i (.Pass ⟨0, 0, 0, 0⟩)
abbrev t_begin : Stmt := top 16
abbrev t_blend : Stmt := top 17
abbrev t_take : Stmt := top 18
abbrev t_caught : Stmt := top 20
abbrev t_is_number : Stmt := top 9
abbrev t_is_list : Stmt := top 10
abbrev t_is_name : Stmt := top 11
abbrev t_are_names : Stmt := top 12
abbrev t_are_sides : Stmt := top 13
abbrev t_Shape_init : Stmt := inClass (top 14) 0
abbrev t_Shape_eq : Stmt := inClass (top 14) 4
abbrev t_Shape_is_worth : Stmt := inClass (top 14) 5
abbrev t_Shape_is_row : Stmt := inClass (top 14) 6
abbrev t_Shape_is_asking : Stmt := inClass (top 14) 7
abbrev t_law_pick : Stmt := top 19
abbrev t_law_words : Stmt := top 21
abbrev t_law_frame : Stmt := top 22
abbrev t_law_are_names : Stmt := top 23
abbrev t_law_are_sides : Stmt := top 24
abbrev t_law_bent_lists : Stmt := top 25
abbrev t_law_unlike_right : Stmt := top 26
abbrev t_law_kept_right : Stmt := top 27
abbrev t_law : Stmt := top 28
theorem hu65 {k : Nat} {A : Around} (hr : Room k A) : A.units + 65 < cLine := by have := hr.un; omega
theorem hu64 {k : Nat} {A : Around} (hr : Room k A) : A.units + 64 < cLine := by have := hr.un; omega
theorem hu66 {k : Nat} {A : Around} (hr : Room k A) : A.units + 66 < cLine := by have := hr.un; omega
theorem hu1 {k : Nat} {A : Around} (hr : Room k A) : A.units + 1 < cLine := by have := hr.un; omega
section
variable {P : Program} {w : World} {K : PySem.W.Frag} {mg : Str → Option Value} {base : Heap} {x : Dr}
theorem sc_law_blend : FnScope ["_law_draw", "_law_turn", "_law_found", "_law_prime", "_law_blend_here", "_law_cell"] ["_law_draw"] (defScope t_blend) := ⟨rfl, rfl, rfl, by decide +kernel, rfl, by decide +kernel, by decide +kernel⟩
theorem ok_law_blend {f : Addr} {fd : FuncData} (F : FunA K "_law_blend" "_law_blend" t_blend f fd) (m_int : mg "int" = none) (hz : x.cs.length ≤ sizeLine) : FnOk P w K mg base CX0 1 f fd ["_law_draw"] (spD K (some x) (W_blend x)) := by
  refine fnK F sc_law_blend (fun ds Q h => by obtain ⟨rfl, _⟩ := h; rfl) fun cdv A outer s H E an ds post hr hW => ?_
  obtain ⟨rfl, hW⟩ := hW
  have hu := hu65 hr
  refine wss_cons (ws_set (i := 1) sc_law_blend.nd rfl (.inl rfl) (we_bin (we_drTurn (hu1 hr) (we_name (i := 0) rfl (.inl rfl) rfl ⟨rfl, fun tu => we_int ?_⟩))))
  refine wss_cons (ws_drTurn (hu1 hr) (we_name (i := 1) rfl (.inl rfl) rfl (we_name (i := 0) rfl (.inl rfl) rfl ⟨rfl, ?_⟩)))
  refine (wss_cons (ws_set (i := 2) sc_law_blend.nd rfl (.inl rfl) (we_int (wss_cons (ws_for PassesOwn.never rfl (wg_name (i := 3) sc_law_blend.nd rfl (.inl rfl)) (wi_seq (we_lst (wa_cons (we_int (wa_cons (we_int (wa_cons (we_int (wa_cons (we_int (wa_nil ?_))))))))))))))))
  refine ⟨by show 4 ≤ sizeLine; decide, ?_⟩
  refine ⟨fun i ρ om => ∃ (fo : Int) (a b c : Option R), ρ = [some (.v (.obj x.d)), some (.v (.int (tu + 1))), some (.v (.int fo)), a, b, c] ∧ om = [], ⟨0, none, none, none, rfl, rfl⟩, fun i d ρ om hl hd hp => ?_, fun ρ om hl hp => ?_⟩
  · obtain ⟨fo, a, b, c, rfl, rfl⟩ := hp
    obtain ⟨p, rfl, p0, p1⟩ : ∃ p : Int, d = .int p ∧ 0 < p ∧ p < 2147483648 := by
      match i, hd with
      | 0, hd => cases hd; exact ⟨_, rfl, by decide, by decide⟩
      | 1, hd => cases hd; exact ⟨_, rfl, by decide, by decide⟩
      | 2, hd => cases hd; exact ⟨_, rfl, by decide, by decide⟩
      | 3, hd => cases hd; exact ⟨_, rfl, by decide, by decide⟩
      | i + 4, hd => cases hd
    refine (wss_cons (ws_set (i := 4) sc_law_blend.nd rfl (.inl rfl) (we_bin (we_bty cb_int m_int PyProof.Rows.boot_int intF_mono (wa_cons (we_bin (we_bin (we_name (i := 1) rfl (.inl rfl) rfl (we_int ?_)))))))))
    refine ⟨.inr ⟨by decide, by decide⟩, ?_⟩
    refine (we_bin (we_name (i := 3) rfl (.inl rfl) rfl (we_int ?_)))
    refine ⟨⟨by decide, by decide⟩, ?_⟩
    refine (wa_nil (we_name (i := 3) rfl (.inl rfl) rfl ?_))
    refine ⟨p0, ?_⟩
    refine (wss_cons (ws_for PassesOwn.never rfl (wg_name (i := 5) sc_law_blend.nd rfl (.inl rfl)) (wi_drCells (hu1 hr) hz (we_name (i := 0) rfl (.inl rfl) rfl ⟨rfl, ?_⟩))))
    refine ⟨fun i ρ om => ∃ (bh : Int) (c : Option R), ρ = [some (.v (.obj x.d)), some (.v (.int (tu + 1))), some (.v (.int fo)), some (.v (.int p)), some (.v (.int bh)), c] ∧ om = [] ∧ 0 ≤ bh ∧ bh < p, ⟨_, c, rfl, rfl, Int.emod_nonneg _ (by omega), Int.emod_lt_of_pos _ p0⟩, fun i d ρ om hl hd hp => ?_, fun ρ om hl hp => ?_⟩
    · obtain ⟨bh, c, rfl, rfl, b0, b1⟩ := hp
      obtain ⟨ce, rfl⟩ : ∃ ce : Int, d = .int ce := by
        rw [List.getElem?_map] at hd
        cases e : x.cs[i]? with
        | none => rw [e] at hd; cases hd
        | some ce => rw [e] at hd; cases hd; exact ⟨ce, rfl⟩
      refine (wss_one (ws_set (i := 4) sc_law_blend.nd rfl (.inl rfl) (we_bin (we_bty cb_int m_int PyProof.Rows.boot_int intF_mono (wa_cons (we_bin (we_bin (we_name (i := 4) rfl (.inl rfl) rfl (we_int ?_)))))))))
      refine ⟨.inr ⟨by decide, by decide⟩, ?_⟩
      refine (we_name (i := 5) rfl (.inl rfl) rfl (wa_nil (we_name (i := 3) rfl (.inl rfl) rfl ?_)))
      exact ⟨p0, _, _, rfl, rfl, Int.emod_nonneg _ (by omega), Int.emod_lt_of_pos _ p0⟩
    · obtain ⟨bh, c, rfl, rfl, b0, b1⟩ := hp
      refine (wss_one (ws_set (i := 2) sc_law_blend.nd rfl (.inl rfl) (we_bin (we_bin (we_name (i := 2) rfl (.inl rfl) rfl (we_int ?_))))))
      refine ⟨.inr ⟨by decide, by decide⟩, ?_⟩
      refine (we_bin (we_bty cb_int m_int PyProof.Rows.boot_int intF_mono (wa_cons (we_bin (we_name (i := 4) rfl (.inl rfl) rfl (we_int ?_))))))
      refine ⟨⟨by decide, by decide, ?_⟩, ?_⟩
      · have : bh.natAbs < 2147483648 := by omega
        exact Nat.lt_of_lt_of_le this (by decide)
      refine (wa_nil (we_name (i := 3) rfl (.inl rfl) rfl ?_))
      exact ⟨p0, _, _, _, _, rfl, rfl⟩
  · obtain ⟨fo, a, b, c, rfl, rfl⟩ := hp
    exact wss_one (ws_ret (we_name (i := 2) rfl (.inl rfl) rfl (hW fo)))
theorem sc_law_take : FnScope ["_law_draw", "_law_many", "_law_found"] ["_law_draw", "_law_many"] (defScope t_take) := ⟨rfl, rfl, rfl, by decide +kernel, rfl, by decide +kernel, by decide +kernel⟩
theorem ok_law_take {f : Addr} {fd : FuncData} (F : FunA K "_law_take" "_law_take" t_take f fd) (m_int : mg "int" = none) (hgc : x.c ≠ x.g) (h_law_blend : HasK P w K mg base (some x) 1 "_law_blend" ["_law_draw"] (W_blend x)) : FnOk P w K mg base CX0 2 f fd ["_law_draw", "_law_many"] (spD K (some x) (W_take x)) := by
  refine fnK F sc_law_take (fun ds Q h => by obtain ⟨_, rfl, _⟩ := h; rfl) fun cdv A outer s H E an ds post hr hW => ?_
  obtain ⟨n, rfl, ⟨n0, n1⟩, hW⟩ := hW
  have hu := hu65 hr
  have key : ∀ {E' : Ed}, E'.nx (startR ["_law_draw", "_law_many", "_law_found"] [.obj x.d, .int n]) [] → WS (cxOf CX0 P w K mg base ["_law_draw", "_law_many", "_law_found"] "_law_take" (defScope t_take) f cdv A outer s H E).nox an (some x) (startR ["_law_draw", "_law_many", "_law_found"] [.obj x.d, .int n]) [] ((defBody t_take).getD 0 (.Pass ⟨0, 0, 0, 0⟩)) E' := fun {E'} hE => by
    refine psI (ps_if (PW.pt (pw_and (pt_cmpR op_eq (pe_dget (hu1 hr) (pv 0) pe_str (fun _ _ => rfl)) pe_int (nomark _)) (pw_and1 (pt_cmpR (op_neD (hu64 hr)) (pe_dget (hu1 hr) (pv 0) pe_str (fun _ _ => rfl)) (pe_lst pa_nil) (nomark _)))))
      (pss_one (ps_dput (hu1 hr) (pv 0) pe_str (pe_bm PySem.F.plainAttrs_list PySem.F.slot_list_pop PySem.F.type_list_pop mt_popAt (pe_dget (hu1 hr) (pv 0) pe_str (fun _ _ => rfl)) (pa_cons pe_int pa_nil)) rfl)) pss_nil) fun Z σ H0 hh => ?_
    obtain ⟨τ, G, g, ne, hl, h1, _⟩ := hh
    obtain ⟨⟨gr, _, re, tu, q1, q2, q3⟩, _⟩ := g.drg x rfl
    obtain ⟨v0, hv0, iv0⟩ := ne 0 (.v (.obj x.d)) rfl
    cases iv0 with
    | v iv0 =>
      cases iv0
      have fin : ∀ {H' : Hp}, Good K an (some x) [] τ G H' → Z.nx σ H' := fun g' => h1 σ _ ⟨_, [], τ, G, hE, g', ne, Grow.refl _ _, hl, rfl⟩
      refine ⟨_, hv0, x.d, .int re, rfl, DGet.k (k := .inr "rest") q1, rfl, _, rfl, ?_⟩
      refine ifE (fun _ => ?_) (fun _ => ifF rfl (fin g))
      refine ⟨_, hv0, x.d, .ref x.g, rfl, DGet.k (k := .inr "great") q1, by show 0 ≤ sizeLine; decide, fun p hp => ?_⟩
      have np : ∀ {a : Addr} {o : HO}, H0 a = some o → upd H0 p (.lst []) a = some o := fun {a o} e => by rw [upd_ne (ne_of_none e hp)]; exact e
      have g2 := g.alloc (o := .lst []) hp
      have gp : Grow G τ (upd G p (.lst [])) τ := g.grow hp
      have dg : ∀ ns : List Int, DpAll K (upd H0 p (.lst [])) (ns.map V.int) (ns.map PyData.int) := fun ns => by
        induction ns with
        | nil => exact .nil
        | cons a t ih => exact .cons (.int a) ih
      have sg : ∀ ns : List Int, PyData.canLayAll0 (ns.map PyData.int) = true ∧ PyData.depthAll (ns.map PyData.int) ≤ 1 := fun ns => by
        induction ns with
        | nil => exact ⟨rfl, Nat.zero_le _⟩
        | cons a t ih => exact ⟨by simp [PyData.canLayAll0, PyData.canLay0, ih.1], by simp only [List.map_cons, PyData.depthAll, PyData.depth]; omega⟩
      have sh : SeqAt.shaped (.list (gr.map PyData.int)) = true := by
        have := sg gr
        simp [SeqAt.shaped, PyData.canLay0, PyData.depth, this.1]
        omega
      refine ⟨.list (gr.map PyData.int), .list [], .lst (.inl (.inl (np q2))) (dg gr), .lst (.inl (.inl upd_same)) .nil, sh, rfl, _, rfl, ?_⟩
      have fin2 : ∀ {H' : Hp}, Good K an (some x) [] τ (upd G p (.lst [])) H' → Z.nx σ H' := fun g' => h1 σ _ ⟨_, [], τ, _, hE, g', ne.mono gp, gp, hl, rfl⟩
      refine ifE (fun c => ?_) (fun _ => fin2 g2)
      cases gr with
      | nil => exact absurd c (by decide)
      | cons m gr =>
        have q1' : upd (upd H0 p (.lst [])) x.g (.lst (gr.map V.int)) x.d = some (.dK (drK x re tu)) := by rw [upd_ne (ne_of q1 q2 (by intro z; cases z))]; exact np q1
        have g3 := g2.drawG (gr' := gr) (np q1) (np q2) (np q3) hgc
        have g4 := g3.draw (gr := gr) (re' := m) (tu' := tu) q1' upd_same (by rw [upd_ne hgc]; exact np q3)
        exact ⟨_, hv0, x.d, .ref x.g, rfl, DGet.k (k := .inr "great") (np q1), tyV_l (np q2), x.g, _, 0, 0, .int m, rfl, rfl, np q2, by decide, by decide, seqIndex_of (by decide) (by rw [List.length_map, List.length_cons]; omega), rfl, _, hv0, x.d, _, rfl, DPut.k (k := .inr "rest") q1' (by show 4 < sizeLine; decide), fin2 g4⟩
  have tail : ∀ {E' : Ed}, E'.rt = post → WSs (cxOf CX0 P w K mg base ["_law_draw", "_law_many", "_law_found"] "_law_take" (defScope t_take) f cdv A outer s H E).nox an (some x) (startR ["_law_draw", "_law_many", "_law_found"] [.obj x.d, .int n]) [] ((defBody t_take).drop 2) E' := fun {E'} hE => by
    refine (wss_cons (ws_set (i := 2) sc_law_take.nd rfl (.inl rfl) (we_bin (we_bty cb_int m_int PyProof.Rows.boot_int intF_mono (wa_cons (we_drRest (hu1 hr) (we_name (i := 0) rfl (.inl rfl) rfl ⟨rfl, fun re => wa_nil (we_name (i := 1) rfl (.inl rfl) rfl ?_)⟩)))))))
    refine ⟨n0, ?_⟩
    refine wss_cons (ws_drRest (hu1 hr) (we_bin (we_drRest (hu1 hr) (we_name (i := 0) rfl (.inl rfl) rfl ⟨rfl, fun re' => we_name (i := 1) rfl (.inl rfl) rfl ?_⟩))))
    refine ⟨wide_div n0 (b := 64) (by omega) (by decide) (by decide), we_name (i := 0) rfl (.inl rfl) rfl ⟨rfl, ?_⟩⟩
    refine (wss_one (ws_ret (we_name (i := 2) rfl (.inl rfl) rfl ?_)))
    show E'.rt _
    rw [hE]
    exact hW _ (Int.emod_nonneg _ (by omega)) (Int.emod_lt_of_pos _ n0)
  refine wss_cons (key ?_)
  refine wss_cons (ws_if (wt_cmp hu (we_drRest (hu1 hr) (we_name (i := 0) rfl (.inl rfl) rfl ⟨rfl, fun re => we_int ?_⟩))))
  refine ifE (fun _ => ?_) (fun _ => ?_)
  · refine wss_one (ws_drRest (hu1 hr) (we_callK h_law_blend hr (wa_cons (we_name (i := 0) rfl (.inl rfl) rfl (wa_nil ?_)))))
    exact ⟨rfl, fun k => we_name (i := 0) rfl (.inl rfl) rfl ⟨rfl, tail rfl⟩⟩
  · exact wss_nil (tail rfl)
end
section
variable {P : Program} {w : World} {K : PySem.W.Frag} {mg : Str → Option Value} {base : Heap}
theorem sc_law_begin : FnScope ["_law_script", "_law_great", "_law_cell"] ["_law_script"] (defScope t_begin) := ⟨rfl, rfl, rfl, by decide +kernel, rfl, by decide +kernel, by decide +kernel⟩
theorem int_at {ns : List Int} {i : Nat} {y : V} (h : (ns.map V.int)[i]? = some y) : ∃ z, y = V.int z := by
  rw [List.getElem?_map] at h
  cases e : ns[i]? with
  | none => rw [e] at h; cases h
  | some z => rw [e] at h; exact ⟨z, (Option.some.inj h).symm⟩
theorem ok_law_begin {f : Addr} {fd : FuncData} (F : FunA K "_law_begin" "_law_begin" t_begin f fd) (m_abs : mg "abs" = none) : FnG P w K mg base CX0 1 f fd ["_law_script"] (spBegin K) := by
  refine FnG.of (F.ok sc_law_begin (fun vs H Q E h => ?_) (fun cdv A outer s H vs Q E hr h => ?_))
  · obtain ⟨a, ns, rfl, _⟩ := h
    rfl
  · obtain ⟨a, ns, rfl, hS, hlen, k⟩ := h
    refine ⟨_, pss_cons (ps_setLc (i := 1) (own := [("_law_cell", 2)]) (g := gName 2) rfl sc_law_begin.nd rfl rfl (sw_true rfl rfl rfl (by decide +kernel)) (pi_list (pv 0)) (blkOk_by (N := ["_law_script", "_law_great", "_law_cell"]) (sc := defScope t_begin) (by decide +kernel)) (fun _ _ _ _ _ => pg_name (i := 2) sc_law_begin.nd rfl (.inl rfl))
        (fun _ _ _ _ _ => pts_one (pt_cmpR op_ge (pe_callB call_abs rfl m_abs PyProof.Rows.boot_abs (pa_cons (pv 2) pa_nil)) (pe_op op_pow pe_int pe_int) (nomark _)))
        (fun _ _ _ _ _ => pe_op op_sub (pe_callB call_abs rfl m_abs PyProof.Rows.boot_abs (pa_cons (pv 2) pa_nil)) (pe_op op_pow pe_int pe_int)))
      (pss_one (ps_ret (pe_disp (pps_cons pe_str (pv 1) (pps_cons pe_str pe_int (pps_cons pe_str (pe_lc (own := [("_law_cell", 2)]) (g := gName 2) (tt := tYes) rfl sc_law_begin.nd (pi_list (pv 0)) (blkOk_by (N := ["_law_script", "_law_great", "_law_cell"]) (sc := defScope t_begin) (by decide +kernel)) (fun _ _ _ _ _ => pg_name (i := 2) sc_law_begin.nd rfl (.inl rfl)) (fun _ _ _ _ _ => pts_nil)
        (fun _ _ _ _ _ => pe_callB call_abs rfl m_abs PyProof.Rows.boot_abs (pa_cons (pv 2) pa_nil))) (pps_cons pe_str pe_int pps_nil)))) rfl rfl (by decide) (by decide)))), ?_⟩
    refine ⟨_, rfl, a, rfl, ⟨_, hS⟩, fun D hD => lc_list (K := K) (a := a) (xs := ns.map V.int) (fun i H' => (∃ acc : List Int, H' D = some (.lst (acc.map V.int)) ∧ acc.length ≤ i) ∧ ∀ b o, H b = some o → H' b = some o) ⟨⟨[], upd_same, Nat.le_refl _⟩, fun b o e => by rw [upd_ne (ne_of_none e hD)]; exact e⟩ (fun i H' _ q => Same.seq q.2 hS) ?_ ?_⟩
    · rintro i y H' hi ⟨⟨acc, hacc, hl⟩, same⟩
      obtain ⟨z, rfl⟩ := int_at hi
      have hil : i < 63 := by
        have := (List.getElem?_eq_some_iff.mp hi).1
        rw [List.length_map] at this
        omega
      refine ⟨rfl, _, rfl, z, rfl, 10, 18, rfl, rfl, ⟨by decide, by decide, by decide⟩, _, _, rfl, rfl, _, rfl, ?_⟩
      refine ite2 (fun _ => ?_) (fun _ => ⟨⟨acc, hacc, by omega⟩, same⟩)
      refine ⟨_, rfl, z, rfl, 10, 18, rfl, rfl, ⟨by decide, by decide, by decide⟩, _, _, rfl, rfl, acc.map V.int, hacc, ?_, ⟨acc ++ [(if z < 0 then -z else z) - 10 ^ 18], ?_, ?_⟩, fun b o e => ?_⟩
      · rw [List.length_map]
        exact small1000 (by omega)
      · rw [upd_same, List.map_append]
        rfl
      · rw [List.length_append]
        show acc.length + 1 ≤ i + 1
        omega
      · rw [upd_ne (ne_of_none e hD)]
        exact same b o e
    · rintro H1 ⟨⟨great, hgr, _⟩, same1⟩
      intro d hd
      have nD : D ≠ d := ne_of_none hgr hd
      have same2 : ∀ b o, H b = some o → upd H1 d (.dK []) b = some o := fun b o e => by
        rw [upd_ne (ne_of_none (same1 b o e) hd)]
        exact same1 b o e
      refine ⟨_, rfl, _, rfl, a, rfl, ⟨_, Same.seq same2 hS⟩, fun C hC => lc_list (K := K) (a := a) (xs := ns.map V.int) (fun i H' => (∃ acc : List Int, H' C = some (.lst (acc.map V.int)) ∧ acc.length ≤ i) ∧ ∀ b o, upd H1 d (.dK []) b = some o → H' b = some o) ⟨⟨[], upd_same, Nat.le_refl _⟩, fun b o e => by rw [upd_ne (ne_of_none e hC)]; exact e⟩ (fun i H' _ q => Same.seq q.2 (Same.seq same2 hS)) ?_ ?_⟩
      · rintro i y H' hi ⟨⟨acc, hacc, hl⟩, same⟩
        obtain ⟨z, rfl⟩ := int_at hi
        have hil : i < 63 := by
          have := (List.getElem?_eq_some_iff.mp hi).1
          rw [List.length_map] at this
          omega
        refine ⟨rfl, _, rfl, z, rfl, acc.map V.int, hacc, ?_, ⟨acc ++ [if z < 0 then -z else z], ?_, ?_⟩, fun b o e => ?_⟩
        · rw [List.length_map]
          exact small1000 (by omega)
        · rw [upd_same, List.map_append]
          rfl
        · rw [List.length_append]
          show acc.length + 1 ≤ i + 1
          omega
        · rw [upd_ne (ne_of_none e hC)]
          exact same b o e
      · rintro H3 ⟨⟨cells, hce, hcl⟩, same3⟩
        have hd3 : H3 d = some (.dK []) := same3 d _ upd_same
        have hD2 : upd H1 d (.dK []) D = some (.lst (great.map V.int)) := by rw [upd_ne nD]; exact hgr
        have nCd : C ≠ d := fun z => by rw [z, upd_same] at hC; cases hC
        have nCD : C ≠ D := (ne_of_none hD2 hC).symm
        refine ⟨hd3, [(.inr "great", .ref D), (.inr "rest", .int 0), (.inr "cells", .ref C), (.inr "turn", .int 0)], rfl, by show 4 ≤ 15; decide, ?_⟩
        rw [List.length_map] at hcl
        refine k ⟨d, D, C, cells, []⟩ _ ?_ hD ?_ nCD ?_ ⟨great, (), 0, 0, upd_same, ?_, ?_⟩ fun b o e => ?_
        · cases q : H d with
          | none => rfl
          | some o => rw [same1 d o q] at hd; cases hd
        · cases q : H C with
          | none => rfl
          | some o => rw [same2 C o q] at hC; cases hC
        · exact Nat.le_of_lt (small1000 (by show cells.length ≤ 1000; omega))
        · rw [upd_ne nD]
          exact same3 D _ hD2
        · rw [upd_ne nCd]
          exact hce
        · have z := same2 b o e
          rw [upd_ne (ne_of_none (same1 b o e) hd)]
          exact same3 b o z
end
end K02

namespace K02
open PySem PySem.Spec L2 DL
-- is_number level 4
def S_is_number (c : Cl) (p_thing : D) (K : D → Prop) : Prop := isiMF c.Shape [p_thing, (.ty "int")] fun d1 => blS d1 fun t2 => if t2 = true then isiMF c.Shape [p_thing, (.ty "bool")] fun d3 => blS d3 fun t4 => K (.bl (!t4)) else K (.bl false)
def W_is_number (c : Cl) : Wp := fun ds P => ∃ p_thing : D, ds = [p_thing] ∧ ∃ P0, S_is_number c p_thing P0 ∧ ∀ d, P0 d → P d
theorem mono_is_number {c : Cl} : ∀ ds Q Q', (∀ d, Q d → Q' d) → W_is_number c ds Q → W_is_number c ds Q' := fun ds Q Q' i ⟨_, e, P0, h, k⟩ => ⟨_, e, P0, h, fun d q => i _ (k d q)⟩
theorem to_is_number {c : Cl} {p_thing : D} {P0 Z : D → Prop} (h : S_is_number c p_thing P0) (i : ∀ d, P0 d → Z d) : W_is_number c [p_thing] Z := ⟨_, rfl, P0, h, i⟩
-- is_list level 4
def S_is_list (c : Cl) (p_thing : D) (K : D → Prop) : Prop := isiMF c.Shape [p_thing, (.tup [(.ty "list"), (.ty "tuple")])] fun d1 => K d1
def W_is_list (c : Cl) : Wp := fun ds P => ∃ p_thing : D, ds = [p_thing] ∧ ∃ P0, S_is_list c p_thing P0 ∧ ∀ d, P0 d → P d
theorem mono_is_list {c : Cl} : ∀ ds Q Q', (∀ d, Q d → Q' d) → W_is_list c ds Q → W_is_list c ds Q' := fun ds Q Q' i ⟨_, e, P0, h, k⟩ => ⟨_, e, P0, h, fun d q => i _ (k d q)⟩
theorem to_is_list {c : Cl} {p_thing : D} {P0 Z : D → Prop} (h : S_is_list c p_thing P0) (i : ∀ d, P0 d → Z d) : W_is_list c [p_thing] Z := ⟨_, rfl, P0, h, i⟩
-- is_name level 4
def S_is_name (c : Cl) (p_thing : D) (K : D → Prop) : Prop := ifS (fun k => isiMF c.Shape [p_thing, (.ty "str")] fun d1 => blS d1 fun t2 => if (!t2) = true then k true else lenNF c.P c.w [p_thing] fun d5 => cmpD .LtE (.int 1) d5 fun t3 => if t3 = true then cmpD .LtE d5 (.int 8) fun t4 => k (!t4) else k (!false)) (K (.bl false)) (walkD p_thing fun ds11 => forS ds11 [] (fun d9 a7 n8 => cmpN c.P c.w .In d9 (.str "abcdefghijklmnopqrstuvwxyz") fun t13 => n8 (a7 ++ [(.bl t13)])) fun xs10 => allF [(.lst xs10)] fun d6 => K d6)
def W_is_name (c : Cl) : Wp := fun ds P => ∃ p_thing : D, ds = [p_thing] ∧ ∃ P0, S_is_name c p_thing P0 ∧ ∀ d, P0 d → P d
theorem mono_is_name {c : Cl} : ∀ ds Q Q', (∀ d, Q d → Q' d) → W_is_name c ds Q → W_is_name c ds Q' := fun ds Q Q' i ⟨_, e, P0, h, k⟩ => ⟨_, e, P0, h, fun d q => i _ (k d q)⟩
theorem to_is_name {c : Cl} {p_thing : D} {P0 Z : D → Prop} (h : S_is_name c p_thing P0) (i : ∀ d, P0 d → Z d) : W_is_name c [p_thing] Z := ⟨_, rfl, P0, h, i⟩
-- are_names level 6
def S_are_names (c : Cl) (p_thing : D) (K : D → Prop) : Prop := ifS (fun k => S_is_list c p_thing fun d1 => blS d1 fun t2 => if (!t2) = true then k true else walkD p_thing fun ds8 => forS ds8 [] (fun d6 a4 n5 => S_is_name c d6 fun d10 => n5 (a4 ++ [d10])) fun xs7 => allF [(.lst xs7)] fun d3 => blS d3 fun t11 => k (!t11)) (K (.bl false)) (lenSetS p_thing fun d13 => lenNF c.P c.w [p_thing] fun d14 => cmpU .Eq d13 d14 fun t12 => K (.bl t12))
def W_are_names (c : Cl) : Wp := fun ds P => ∃ p_thing : D, ds = [p_thing] ∧ ∃ P0, S_are_names c p_thing P0 ∧ ∀ d, P0 d → P d
theorem mono_are_names {c : Cl} : ∀ ds Q Q', (∀ d, Q d → Q' d) → W_are_names c ds Q → W_are_names c ds Q' := fun ds Q Q' i ⟨_, e, P0, h, k⟩ => ⟨_, e, P0, h, fun d q => i _ (k d q)⟩
theorem to_are_names {c : Cl} {p_thing : D} {P0 Z : D → Prop} (h : S_are_names c p_thing P0) (i : ∀ d, P0 d → Z d) : W_are_names c [p_thing] Z := ⟨_, rfl, P0, h, i⟩
-- are_sides level 8
def S_are_sides (c : Cl) (p_columns p_blanks p_lacking : D) (K : D → Prop) : Prop := ifS (fun k => S_are_names c p_columns fun d1 => blS d1 fun t2 => if (!t2) = true then k true else S_are_names c p_blanks fun d3 => blS d3 fun t4 => if (!t4) = true then k true else S_are_names c p_lacking fun d5 => blS d5 fun t6 => k (!t6)) (K (.bl false)) (seqS p_columns fun l7 => seqS p_blanks fun l8 => (l7 ++ l8).length ≤ sizeLine ∧ ifS (fun k => lenNF c.P c.w [p_columns] fun d11 => cmpD .LtE (.int 1) d11 fun t9 => if t9 = true then cmpD .LtE d11 (.int 3) fun t10 => if (!t10) = true then k true else lenNF c.P c.w [p_blanks] fun d13 => cmpU .Gt d13 (.int 3) fun t12 => if t12 = true then k true else lenNF c.P c.w [(.lst (l7 ++ l8))] fun d15 => cmpU .Gt d15 (.int 5) fun t14 => k t14 else if (!false) = true then k true else lenNF c.P c.w [p_blanks] fun d17 => cmpU .Gt d17 (.int 3) fun t16 => if t16 = true then k true else lenNF c.P c.w [(.lst (l7 ++ l8))] fun d19 => cmpU .Gt d19 (.int 5) fun t18 => k t18) (K (.bl false)) (lenSetS (.lst (l7 ++ l8)) fun d21 => lenNF c.P c.w [(.lst (l7 ++ l8))] fun d22 => cmpU .Eq d21 d22 fun t20 => blS (.bl t20) fun t23 => if t23 = true then walkD p_lacking fun ds29 => forS ds29 [] (fun d27 a25 n26 => cmpN c.P c.w .In d27 (.lst (l7 ++ l8)) fun t31 => n26 (a25 ++ [(.bl t31)])) fun xs28 => allF [(.lst xs28)] fun d24 => K d24 else K (.bl false)))
def W_are_sides (c : Cl) : Wp := fun ds P => ∃ p_columns p_blanks p_lacking : D, ds = [p_columns, p_blanks, p_lacking] ∧ ∃ P0, S_are_sides c p_columns p_blanks p_lacking P0 ∧ ∀ d, P0 d → P d
theorem mono_are_sides {c : Cl} : ∀ ds Q Q', (∀ d, Q d → Q' d) → W_are_sides c ds Q → W_are_sides c ds Q' := fun ds Q Q' i ⟨_, _, _, e, P0, h, k⟩ => ⟨_, _, _, e, P0, h, fun d q => i _ (k d q)⟩
theorem to_are_sides {c : Cl} {p_columns p_blanks p_lacking : D} {P0 Z : D → Prop} (h : S_are_sides c p_columns p_blanks p_lacking P0) (i : ∀ d, P0 d → Z d) : W_are_sides c [p_columns, p_blanks, p_lacking] Z := ⟨_, _, _, rfl, P0, h, i⟩
-- Shape_init level 10
def S_Shape_init (c : Cl) (E : D → Prop) (p_columns p_blanks p_lacking : D) (K : D → Prop) : Prop := ifS (fun k => S_are_sides c p_columns p_blanks p_lacking fun d1 => blS d1 fun t2 => k (!t2)) (E (.exc (c.err 1) [])) (tupF [p_columns] fun d3 => sfldS c.Shape "own_columns" (.ins c.Shape []) d3 fun l4 => tupF [p_blanks] fun d5 => sfldS c.Shape "own_blanks" l4 d5 fun l6 => sortTF [p_lacking] fun d8 => tupF [d8] fun d7 => sfldS c.Shape "own_lacking" l6 d7 fun l9 => insS l9 K)
def W_Shape_init (c : Cl) : WpX := fun ds P EX => ∃ p_columns p_blanks p_lacking : D, ds = [p_columns, p_blanks, p_lacking] ∧ ∃ P0 E0, S_Shape_init c E0 p_columns p_blanks p_lacking P0 ∧ (∀ d, P0 d → P d) ∧ ∀ d, E0 d → EX d
theorem mono_Shape_init {c : Cl} : MonoX (W_Shape_init c) := fun ds Q Q' E E' i j ⟨_, _, _, e, P0, E0, h, k, l⟩ => ⟨_, _, _, e, P0, E0, h, fun d q => i _ (k d q), fun d q => j _ (l d q)⟩
theorem to_Shape_init {c : Cl} {p_columns p_blanks p_lacking : D} {P0 Z E0 EX : D → Prop} (h : S_Shape_init c E0 p_columns p_blanks p_lacking P0) (j : ∀ d, E0 d → EX d) (i : ∀ d, P0 d → Z d) : W_Shape_init c [p_columns, p_blanks, p_lacking] Z EX := ⟨_, _, _, rfl, P0, E0, h, i, j⟩
-- Shape_eq level 4
def S_Shape_eq (c : Cl) (p_self p_other : D) (K : D → Prop) : Prop := ifS (fun k => isCS c.Shape p_other fun t2 => blS (.bl t2) fun t3 => k (!t3)) (K (.bl false)) (fldS c.Shape "own_columns" p_self fun d4 => fldS c.Shape "own_blanks" p_self fun d5 => fldS c.Shape "own_lacking" p_self fun d6 => fldS c.Shape "own_columns" p_other fun d8 => fldS c.Shape "own_blanks" p_other fun d9 => fldS c.Shape "own_lacking" p_other fun d10 => cmpU .Eq (.tup [d4, d5, d6]) (.tup [d8, d9, d10]) fun t7 => K (.bl t7))
def W_Shape_eq (c : Cl) : Wp := fun ds P => ∃ p_self p_other : D, ds = [p_self, p_other] ∧ ∃ P0, S_Shape_eq c p_self p_other P0 ∧ ∀ d, P0 d → P d
theorem mono_Shape_eq {c : Cl} : ∀ ds Q Q', (∀ d, Q d → Q' d) → W_Shape_eq c ds Q → W_Shape_eq c ds Q' := fun ds Q Q' i ⟨_, _, e, P0, h, k⟩ => ⟨_, _, e, P0, h, fun d q => i _ (k d q)⟩
theorem to_Shape_eq {c : Cl} {p_self p_other : D} {P0 Z : D → Prop} (h : S_Shape_eq c p_self p_other P0) (i : ∀ d, P0 d → Z d) : W_Shape_eq c [p_self, p_other] Z := ⟨_, _, rfl, P0, h, i⟩
-- Shape_is_worth level 6
def S_Shape_is_worth (c : Cl) (p_self p_name p_thing : D) (K : D → Prop) : Prop := S_is_number c p_thing fun d1 => blS d1 fun t2 => if t2 = true then K (.bl true) else cmpU .Is p_thing .non fun t3 => blS (.bl t3) fun t4 => if t4 = true then fldS c.Shape "own_lacking" p_self fun d6 => cmpN c.P c.w .In p_name d6 fun t5 => K (.bl t5) else K (.bl false)
def W_Shape_is_worth (c : Cl) : Wp := fun ds P => ∃ p_self p_name p_thing : D, ds = [p_self, p_name, p_thing] ∧ ∃ P0, S_Shape_is_worth c p_self p_name p_thing P0 ∧ ∀ d, P0 d → P d
theorem mono_Shape_is_worth {c : Cl} : ∀ ds Q Q', (∀ d, Q d → Q' d) → W_Shape_is_worth c ds Q → W_Shape_is_worth c ds Q' := fun ds Q Q' i ⟨_, _, _, e, P0, h, k⟩ => ⟨_, _, _, e, P0, h, fun d q => i _ (k d q)⟩
theorem to_Shape_is_worth {c : Cl} {p_self p_name p_thing : D} {P0 Z : D → Prop} (h : S_Shape_is_worth c p_self p_name p_thing P0) (i : ∀ d, P0 d → Z d) : W_Shape_is_worth c [p_self, p_name, p_thing] Z := ⟨_, _, _, rfl, P0, h, i⟩
-- Shape_is_row level 8
def S_Shape_is_row (c : Cl) (p_self p_thing : D) (K : D → Prop) : Prop := ifS (fun k => isiMF c.Shape [p_thing, (.ty "tuple")] fun d1 => blS d1 fun t2 => if (!t2) = true then k true else lenNF c.P c.w [p_thing] fun d4 => fldS c.Shape "own_columns" p_self fun d6 => lenNF c.P c.w [d6] fun d5 => cmpU .NotEq d4 d5 fun t3 => k t3) (K (.bl false)) (fldS c.Shape "own_columns" p_self fun d13 => zipTS d13 p_thing fun ds12 => forS ds12 [] (fun d10 a8 n9 => unp2 d10 fun d14 d15 => metS c.Shape "is_worth" p_self (S_Shape_is_worth c p_self d14 d15 fun d17 => n9 (a8 ++ [d17]))) fun xs11 => allF [(.lst xs11)] fun d7 => K d7)
def W_Shape_is_row (c : Cl) : Wp := fun ds P => ∃ p_self p_thing : D, ds = [p_self, p_thing] ∧ ∃ P0, S_Shape_is_row c p_self p_thing P0 ∧ ∀ d, P0 d → P d
theorem mono_Shape_is_row {c : Cl} : ∀ ds Q Q', (∀ d, Q d → Q' d) → W_Shape_is_row c ds Q → W_Shape_is_row c ds Q' := fun ds Q Q' i ⟨_, _, e, P0, h, k⟩ => ⟨_, _, e, P0, h, fun d q => i _ (k d q)⟩
theorem to_Shape_is_row {c : Cl} {p_self p_thing : D} {P0 Z : D → Prop} (h : S_Shape_is_row c p_self p_thing P0) (i : ∀ d, P0 d → Z d) : W_Shape_is_row c [p_self, p_thing] Z := ⟨_, _, rfl, P0, h, i⟩
-- Shape_is_asking level 8
def S_Shape_is_asking (c : Cl) (p_self p_thing : D) (K : D → Prop) : Prop := ifS (fun k => isiMF c.Shape [p_thing, (.ty "dict")] fun d1 => blS d1 fun t2 => if (!t2) = true then k true else lenNF c.P c.w [p_thing] fun d4 => fldS c.Shape "own_blanks" p_self fun d6 => lenNF c.P c.w [d6] fun d5 => cmpU .NotEq d4 d5 fun t3 => k t3) (K (.bl false)) (fldS c.Shape "own_blanks" p_self fun d13 => walkD d13 fun ds12 => forS ds12 [] (fun d10 a8 n9 => joinS (fun k16 => cmpN c.P c.w .In d10 p_thing fun t17 => blS (.bl t17) fun t18 => if t18 = true then metS c.Shape "is_worth" p_self (ixN c.P c.w p_thing d10 fun d21 => S_Shape_is_worth c p_self d10 d21 fun d19 => k16 d19) else k16 (.bl false)) fun d15 => n9 (a8 ++ [d15])) fun xs11 => allF [(.lst xs11)] fun d7 => K d7)
def W_Shape_is_asking (c : Cl) : Wp := fun ds P => ∃ p_self p_thing : D, ds = [p_self, p_thing] ∧ ∃ P0, S_Shape_is_asking c p_self p_thing P0 ∧ ∀ d, P0 d → P d
theorem mono_Shape_is_asking {c : Cl} : ∀ ds Q Q', (∀ d, Q d → Q' d) → W_Shape_is_asking c ds Q → W_Shape_is_asking c ds Q' := fun ds Q Q' i ⟨_, _, e, P0, h, k⟩ => ⟨_, _, e, P0, h, fun d q => i _ (k d q)⟩
theorem to_Shape_is_asking {c : Cl} {p_self p_thing : D} {P0 Z : D → Prop} (h : S_Shape_is_asking c p_self p_thing P0) (i : ∀ d, P0 d → Z d) : W_Shape_is_asking c [p_self, p_thing] Z := ⟨_, _, rfl, P0, h, i⟩
-- _law_pick level 4
def S_law_pick (c : Cl) (p_some : D) (K : D → Prop) : Prop := lenNF c.P c.w [p_some] fun d3 => takeS d3 fun d2 => ixN c.P c.w p_some d2 fun d1 => K d1
def W_law_pick (c : Cl) (x : Dr) : Wp := fun ds P => ∃ p_some : D, ds = [.obj x.d, p_some] ∧ ∃ P0, S_law_pick c p_some P0 ∧ ∀ d, P0 d → P d
theorem mono_law_pick {c : Cl} {x : Dr} : ∀ ds Q Q', (∀ d, Q d → Q' d) → W_law_pick c x ds Q → W_law_pick c x ds Q' := fun ds Q Q' i ⟨_, e, P0, h, k⟩ => ⟨_, e, P0, h, fun d q => i _ (k d q)⟩
theorem to_law_pick {c : Cl} {x : Dr} {p_some : D} {P0 Z : D → Prop} (h : S_law_pick c p_some P0) (i : ∀ d, P0 d → Z d) : W_law_pick c x [.obj x.d, p_some] Z := ⟨_, rfl, P0, h, i⟩
-- _law_words level 6
def S_law_words (c : Cl) (p_count : D) (K : D → Prop) : Prop := rngS p_count fun ds6 => forS ds6 (.lst []) (fun d1 (s3 : D) n2 => S_law_pick c (.lst [(.str "a"), (.str "b"), (.str "x"), (.str "xy"), (.str "not"), (.str "and"), (.str "or"), (.str "all"), (.str "any"), (.str "lacks"), (.str "most"), (.str "zzzzzzzz")]) fun d16 => letS (fun (s22 : D) => walkD (.str "abcdefghijklmnopqrstuvwxyz") fun ds40 => forS ds40 [] (fun d38 a36 n37 => slD s22 none (some 7) fun d43 => binD .Add d43 d38 fun d42 => n37 (a36 ++ [d42])) fun xs39 => binD .Add (.lst [s22]) (.lst xs39) fun d35 => lstS s3 (walkD d35 fun ds50 => forS ds50 [] (fun d48 a46 n47 => ifS (fun k => cmpN c.P c.w .NotIn d48 s3 fun t51 => k t51) (n47 (a46 ++ [d48])) (n47 a46)) fun xs49 => ixN c.P c.w (.lst xs49) (.int 0) fun d45 => appS s3 d45 fun l53 => n2 l53)) fun r21 => ifS (fun k => takeS (.int 3) fun d18 => cmpU .Gt d18 (.int 0) fun t17 => k t17) (S_law_pick c (.lst [(.int 1), (.int 2), (.int 8)]) fun d25 => takeS d25 fun d24 => binD .Add (.int 1) d24 fun d23 => rngS d23 fun ds31 => forS ds31 [] (fun d29 a27 n28 => S_law_pick c (.str "abcdefghijklmnopqrstuvwxyz") fun d33 => n28 (a27 ++ [d33])) fun xs30 => joinF (.str "") (.lst xs30) fun d26 => r21 d26) (r21 d16)) fun s4 => K s4
def W_law_words (c : Cl) (x : Dr) : Wp := fun ds P => ∃ p_count : D, ds = [.obj x.d, p_count] ∧ ∃ P0, S_law_words c p_count P0 ∧ ∀ d, P0 d → P d
theorem mono_law_words {c : Cl} {x : Dr} : ∀ ds Q Q', (∀ d, Q d → Q' d) → W_law_words c x ds Q → W_law_words c x ds Q' := fun ds Q Q' i ⟨_, e, P0, h, k⟩ => ⟨_, e, P0, h, fun d q => i _ (k d q)⟩
theorem to_law_words {c : Cl} {x : Dr} {p_count : D} {P0 Z : D → Prop} (h : S_law_words c p_count P0) (i : ∀ d, P0 d → Z d) : W_law_words c x [.obj x.d, p_count] Z := ⟨_, rfl, P0, h, i⟩
-- _law_frame level 8
def S_law_frame (c : Cl) (p_many p_few : D) (K : D → Prop) : Prop := takeS p_many fun d2 => binD .Add (.int 1) d2 fun d1 => binD .Sub (.int 5) d1 fun d8 => minF [p_few, d8] fun d7 => binD .Add d7 (.int 1) fun d6 => takeS d6 fun d5 => binD .Add d1 d5 fun d4 => S_law_words c d4 fun d3 => walkD d3 fun ds13 => forS ds13 [] (fun d11 a9 n10 => ifS (fun k => takeS (.int 3) fun d15 => cmpU .Eq d15 (.int 0) fun t14 => k t14) (n10 (a9 ++ [d11])) (n10 a9)) fun xs12 => intS d1 fun i18 => slD d3 none (some i18) fun d17 => intS d1 fun i20 => slD d3 (some i20) none fun d19 => K (.dic (mergeE [] [(.inr "columns", d17), (.inr "open", d19), (.inr "gone", (.lst xs12))]))
def W_law_frame (c : Cl) (x : Dr) : Wp := fun ds P => ∃ p_many p_few : D, ds = [.obj x.d, p_many, p_few] ∧ ∃ P0, S_law_frame c p_many p_few P0 ∧ ∀ d, P0 d → P d
theorem mono_law_frame {c : Cl} {x : Dr} : ∀ ds Q Q', (∀ d, Q d → Q' d) → W_law_frame c x ds Q → W_law_frame c x ds Q' := fun ds Q Q' i ⟨_, _, e, P0, h, k⟩ => ⟨_, _, e, P0, h, fun d q => i _ (k d q)⟩
theorem to_law_frame {c : Cl} {x : Dr} {p_many p_few : D} {P0 Z : D → Prop} (h : S_law_frame c p_many p_few P0) (i : ∀ d, P0 d → Z d) : W_law_frame c x [.obj x.d, p_many, p_few] Z := ⟨_, _, rfl, P0, h, i⟩
-- _law_are_names level 4
def S_law_are_names (c : Cl) (p_some : D) (K : D → Prop) : Prop := ifS (fun k => isiMF c.Shape [p_some, (.tup [(.ty "list"), (.ty "tuple")])] fun d1 => blS d1 fun t2 => k (!t2)) (K (.bl false)) (enumS p_some fun ds8 => forS ds8 () (fun d3 (s5 : Unit) n4 => unp2 d3 fun d14 d15 => ifS (fun k => isiMF c.Shape [d15, (.ty "str")] fun d16 => blS d16 fun t17 => if (!t17) = true then k true else lenNF c.P c.w [d15] fun d20 => cmpD .Lt (.int 0) d20 fun t18 => if t18 = true then cmpD .Lt d20 (.int 9) fun t19 => if (!t19) = true then k true else intS d14 fun i23 => slD p_some none (some i23) fun d22 => cmpN c.P c.w .In d15 d22 fun t21 => k t21 else if (!false) = true then k true else intS d14 fun i26 => slD p_some none (some i26) fun d25 => cmpN c.P c.w .In d15 d25 fun t24 => k t24) (K (.bl false)) (ifS (fun k => walkD d15 fun ds32 => forS ds32 [] (fun d30 a28 n29 => ifS (fun k => cmpN c.P c.w .NotIn d30 (.str "abcdefghijklmnopqrstuvwxyz") fun t33 => k t33) (n29 (a28 ++ [d30])) (n29 a28)) fun xs31 => cmpU .NotEq (.lst xs31) (.lst []) fun t27 => k t27) (K (.bl false)) (n4 ()))) fun s6 => K (.bl true))
def W_law_are_names (c : Cl) : Wp := fun ds P => ∃ p_some : D, ds = [p_some] ∧ ∃ P0, S_law_are_names c p_some P0 ∧ ∀ d, P0 d → P d
theorem mono_law_are_names {c : Cl} : ∀ ds Q Q', (∀ d, Q d → Q' d) → W_law_are_names c ds Q → W_law_are_names c ds Q' := fun ds Q Q' i ⟨_, e, P0, h, k⟩ => ⟨_, e, P0, h, fun d q => i _ (k d q)⟩
theorem to_law_are_names {c : Cl} {p_some : D} {P0 Z : D → Prop} (h : S_law_are_names c p_some P0) (i : ∀ d, P0 d → Z d) : W_law_are_names c [p_some] Z := ⟨_, rfl, P0, h, i⟩
-- _law_are_sides level 6
def S_law_are_sides (c : Cl) (p_uno p_duo p_gone : D) (K : D → Prop) : Prop := ifS (fun k => S_law_are_names c p_uno fun d1 => blS d1 fun t2 => if (!t2) = true then k true else S_law_are_names c p_duo fun d3 => blS d3 fun t4 => if (!t4) = true then k true else S_law_are_names c p_gone fun d5 => blS d5 fun t6 => k (!t6)) (K (.bl false)) (ifS (fun k => lenNF c.P c.w [p_uno] fun d9 => cmpD .Lt (.int 0) d9 fun t7 => if t7 = true then cmpD .Lt d9 (.int 4) fun t8 => if (!t8) = true then k true else lenNF c.P c.w [p_duo] fun d11 => cmpU .Gt d11 (.int 3) fun t10 => if t10 = true then k true else lenNF c.P c.w [p_uno] fun d14 => lenNF c.P c.w [p_duo] fun d15 => binD .Add d14 d15 fun d13 => cmpU .Gt d13 (.int 5) fun t12 => k t12 else if (!false) = true then k true else lenNF c.P c.w [p_duo] fun d17 => cmpU .Gt d17 (.int 3) fun t16 => if t16 = true then k true else lenNF c.P c.w [p_uno] fun d20 => lenNF c.P c.w [p_duo] fun d21 => binD .Add d20 d21 fun d19 => cmpU .Gt d19 (.int 5) fun t18 => k t18) (K (.bl false)) (listNF c.P c.w [p_uno] fun d23 => listNF c.P c.w [p_duo] fun d24 => binD .Add d23 d24 fun d22 => walkD p_uno fun ds30 => forS ds30 [] (fun d28 a26 n27 => ifS (fun k => cmpN c.P c.w .In d28 p_duo fun t31 => k t31) (n27 (a26 ++ [d28])) (n27 a26)) fun xs29 => cmpU .Eq (.lst xs29) (.lst []) fun t25 => blS (.bl t25) fun t33 => if t33 = true then walkD p_gone fun ds39 => forS ds39 [] (fun d37 a35 n36 => ifS (fun k => cmpN c.P c.w .NotIn d37 d22 fun t40 => k t40) (n36 (a35 ++ [d37])) (n36 a35)) fun xs38 => cmpU .Eq (.lst xs38) (.lst []) fun t34 => K (.bl t34) else K (.bl false)))
def W_law_are_sides (c : Cl) : Wp := fun ds P => ∃ p_uno p_duo p_gone : D, ds = [p_uno, p_duo, p_gone] ∧ ∃ P0, S_law_are_sides c p_uno p_duo p_gone P0 ∧ ∀ d, P0 d → P d
theorem mono_law_are_sides {c : Cl} : ∀ ds Q Q', (∀ d, Q d → Q' d) → W_law_are_sides c ds Q → W_law_are_sides c ds Q' := fun ds Q Q' i ⟨_, _, _, e, P0, h, k⟩ => ⟨_, _, _, e, P0, h, fun d q => i _ (k d q)⟩
theorem to_law_are_sides {c : Cl} {p_uno p_duo p_gone : D} {P0 Z : D → Prop} (h : S_law_are_sides c p_uno p_duo p_gone P0) (i : ∀ d, P0 d → Z d) : W_law_are_sides c [p_uno, p_duo, p_gone] Z := ⟨_, _, _, rfl, P0, h, i⟩
-- _law_bent_lists level 6
def S_law_bent_lists (c : Cl) (p_three : D) (K : D → Prop) : Prop := takeS (.int 3) fun d1 => seqS p_three fun l2 => ixN c.P c.w (.lst l2) d1 fun d3 => takeS (.int 7) fun d4 => walkD p_three fun ds9 => forS ds9 [] (fun d7 a5 n6 => ifS (fun k => isiMF c.Shape [d7, (.tup [(.ty "list"), (.ty "tuple")])] fun d10 => blS d10 fun t11 => k t11) (n6 (a5 ++ [d7])) (n6 a5)) fun xs8 => ifS (fun k => isiMF c.Shape [d3, (.ty "list")] fun d13 => blS d13 fun t14 => k (!t14)) (K (.lst l2)) (walkD (.lst xs8) fun ds19 => forS ds19 [] (fun d17 a15 n16 => ifS (fun k => lenNF c.P c.w [d17] fun d21 => cmpU .Gt d21 (.int 0) fun t20 => k t20) (slD d17 none (some 1) fun d23 => n16 (a15 ++ [d23])) (n16 a15)) fun xs18 => S_law_pick c (.lst [.non, (.int 5), (.str ""), (.str "A"), (.str "a b"), (.str "aaaaaaaaa"), (.str "a1"), (.bl true), (.lst []), (.str "q"), (.str "zzzzzzzz")]) fun d24 => lenNF c.P c.w [d3] fun d27 => binD .Add d27 (.int 1) fun d26 => takeS d26 fun d25 => letS (fun (s31 : D) => K s31) fun r30 => ifS (fun k => cmpU .Eq d4 (.int 0) fun t28 => k t28) (intS d25 fun i35 => slD d3 none (some i35) fun d34 => binD .Add d34 (.lst [d24]) fun d33 => intS d25 fun i37 => slD d3 (some i37) none fun d36 => binD .Add d33 d36 fun d32 => lputS (.lst l2) d1 d32 fun l38 => r30 l38) (letS (fun (s42 : D) => r30 s42) fun r41 => ifS (fun k => cmpU .Eq d4 (.int 1) fun t39 => k t39) (intS d25 fun i45 => binD .Add d25 (.int 1) fun d46 => intS d46 fun i47 => slD d3 (some i45) (some i47) fun d44 => binD .Add d3 d44 fun d43 => lputS (.lst l2) d1 d43 fun l48 => r41 l48) (letS (fun (s52 : D) => r41 s52) fun r51 => ifS (fun k => cmpU .Eq d4 (.int 2) fun t49 => k t49) (takeS (.int 4) fun d61 => binD .Add (.int 1) d61 fun d60 => intS d60 fun i62 => slD (.str "abcd") none (some i62) fun d59 => walkD d59 fun ds58 => forS ds58 [] (fun d56 a54 n55 => binD .Add (.str "q") d56 fun d64 => n55 (a54 ++ [d64])) fun xs57 => binD .Add d3 (.lst xs57) fun d53 => lputS (.lst l2) d1 d53 fun l65 => r51 l65) (letS (fun (s69 : D) => r51 s69) fun r68 => ifS (fun k => cmpU .Eq d4 (.int 3) fun t66 => k t66) (intS d25 fun i72 => slD d3 none (some i72) fun d71 => binD .Add d25 (.int 1) fun d74 => intS d74 fun i75 => slD d3 (some i75) none fun d73 => binD .Add d71 d73 fun d70 => lputS (.lst l2) d1 d70 fun l76 => r68 l76) (letS (fun (s81 : D) => r68 s81) fun r80 => ifS (fun k => cmpU .Eq d4 (.int 4) fun t77 => if t77 = true then cmpU .NotEq (.lst xs18) (.lst []) fun t78 => k t78 else k false) (S_law_pick c (.lst xs18) fun d84 => listNF c.P c.w [d84] fun d83 => binD .Add d3 d83 fun d82 => lputS (.lst l2) d1 d82 fun l85 => r80 l85) (tupF [d3] fun d87 => tupF [d3] fun d88 => S_law_pick c (.lst [.non, (.int 5), (.str "ab"), (.dic []), (.bl true), (.tup []), d87, d88]) fun d86 => lputS (.lst l2) d1 d86 fun l89 => r80 l89))))))
def W_law_bent_lists (c : Cl) (x : Dr) : Wp := fun ds P => ∃ p_three : D, ds = [.obj x.d, p_three] ∧ ∃ P0, S_law_bent_lists c p_three P0 ∧ ∀ d, P0 d → P d
theorem mono_law_bent_lists {c : Cl} {x : Dr} : ∀ ds Q Q', (∀ d, Q d → Q' d) → W_law_bent_lists c x ds Q → W_law_bent_lists c x ds Q' := fun ds Q Q' i ⟨_, e, P0, h, k⟩ => ⟨_, e, P0, h, fun d q => i _ (k d q)⟩
theorem to_law_bent_lists {c : Cl} {x : Dr} {p_three : D} {P0 Z : D → Prop} (h : S_law_bent_lists c p_three P0) (i : ∀ d, P0 d → Z d) : W_law_bent_lists c x [.obj x.d, p_three] Z := ⟨_, rfl, P0, h, i⟩
-- _law_unlike_right level 12
def S_law_unlike_right (c : Cl) (p_made p_dues : D) (K : D → Prop) : Prop := unp3 p_dues fun d1 d2 d3 => rng2S (.int 1) (.int 9) fun ds14 => forS ds14 [] (fun d12 a10 n11 => smulS (.str "q") d12 fun d16 => n11 (a10 ++ [d16])) fun xs13 => walkD (.lst xs13) fun ds9 => forS ds9 [] (fun d7 a5 n6 => ifS (fun k => binD .Add d1 d2 fun d18 => cmpN c.P c.w .NotIn d7 d18 fun t17 => k t17) (n6 (a5 ++ [d7])) (n6 a5)) fun xs8 => ixN c.P c.w (.lst xs8) (.int 0) fun d4 => revTS d1 fun d20 => revTS d2 fun d21 => slD d3 (some 1) none fun d22 => slD d1 (some 1) none fun d25 => binD .Add (.tup [d4]) d25 fun d24 => walkD d3 fun ds31 => forS ds31 [] (fun d29 a27 n28 => ifS (fun k => ixN c.P c.w d1 (.int 0) fun d33 => cmpU .NotEq d29 d33 fun t32 => k t32) (n28 (a27 ++ [d29])) (n28 a27)) fun xs30 => tupF [(.lst xs30)] fun d26 => binD .Add (.lst [(.tup [d20, d2, d3]), (.tup [d1, d21, d3]), (.tup [d1, d2, d22])]) (.lst [(.tup [d24, d2, d26])]) fun d23 => S_law_pick c d23 fun d35 => ixN c.P c.w d35 (.int 0) fun d37 => ixN c.P c.w d35 (.int 1) fun d38 => ixN c.P c.w d35 (.int 2) fun d39 => S_Shape_init c (fun _ => False) d37 d38 d39 fun d36 => ifS (fun k => eqAS c.Shape c.Shape d36 p_made (S_Shape_eq c d36 p_made fun d41 => blS d41 fun t42 => cmpU .Eq d35 p_dues fun t43 => cmpU .NotEq (.bl t42) (.bl t43) fun t40 => if t40 = true then k true else eqAS c.Shape c.Shape p_made d36 (S_Shape_eq c p_made d36 fun d45 => blS d45 fun t46 => cmpU .Eq d35 p_dues fun t47 => cmpU .Eq (.bl (!t46)) (.bl t47) fun t44 => k t44))) (K (.bl false)) (joinS (fun k49 => eqAS c.Shape c.Shape p_made p_dues (S_Shape_eq c p_made p_dues fun d50 => blS d50 fun t51 => blS (.bl t51) fun t52 => if t52 = true then k49 (.bl true) else eqAS c.Shape c.Shape p_made .non (S_Shape_eq c p_made .non fun d53 => blS d53 fun t54 => blS (.bl t54) fun t55 => if t55 = true then k49 (.bl true) else eqAS c.Shape c.Shape p_made d1 (S_Shape_eq c p_made d1 fun d56 => blS d56 fun t57 => k49 (.bl t57))))) fun d48 => blS d48 fun t58 => K (.bl (!t58)))
def W_law_unlike_right (c : Cl) (x : Dr) : Wp := fun ds P => ∃ p_made p_dues : D, ds = [.obj x.d, p_made, p_dues] ∧ ∃ P0, S_law_unlike_right c p_made p_dues P0 ∧ ∀ d, P0 d → P d
theorem mono_law_unlike_right {c : Cl} {x : Dr} : ∀ ds Q Q', (∀ d, Q d → Q' d) → W_law_unlike_right c x ds Q → W_law_unlike_right c x ds Q' := fun ds Q Q' i ⟨_, _, e, P0, h, k⟩ => ⟨_, _, e, P0, h, fun d q => i _ (k d q)⟩
theorem to_law_unlike_right {c : Cl} {x : Dr} {p_made p_dues : D} {P0 Z : D → Prop} (h : S_law_unlike_right c p_made p_dues P0) (i : ∀ d, P0 d → Z d) : W_law_unlike_right c x [.obj x.d, p_made, p_dues] Z := ⟨_, _, rfl, P0, h, i⟩
-- _law_kept_right level 10
def S_law_kept_right (c : Cl) (p_made p_dues : D) (K : D → Prop) : Prop := unp3 p_dues fun d1 d2 d3 => ifS (fun k => metS c.Shape "is_row" p_made (lenNF c.P c.w [d1] fun d8 => tmul0 (.tup [(.int 1)]) d8 fun d7 => S_Shape_is_row c p_made d7 fun d5 => cmpU .IsNot d5 (.bl true) fun t4 => if t4 = true then k true else metS c.Shape "is_asking" p_made (walkD d2 fun ds17 => forS ds17 [] (fun d15 a13 n14 => n14 (a13 ++ [(.tup [d15, (.int 1)])])) fun xs16 => dictPairsS (.lst xs16) fun d12 => S_Shape_is_asking c p_made d12 fun d10 => cmpU .IsNot d10 (.bl true) fun t9 => k t9))) (K (.bl false)) (enumS d1 fun ds24 => forS ds24 () (fun d19 (s21 : Unit) n20 => unp2 d19 fun d30 d31 => ifS (fun k => metS c.Shape "is_row" p_made (tmul0 (.tup [(.int 1)]) d30 fun d37 => binD .Add d37 (.tup [.non]) fun d36 => lenNF c.P c.w [d1] fun d41 => binD .Sub d41 d30 fun d40 => binD .Sub d40 (.int 1) fun d39 => tmul0 (.tup [(.int 1)]) d39 fun d38 => binD .Add d36 d38 fun d35 => S_Shape_is_row c p_made d35 fun d33 => cmpN c.P c.w .In d31 d3 fun t42 => cmpU .NotEq d33 (.bl t42) fun t32 => k t32)) (K (.bl false)) (n20 ())) fun s22 => walkD d2 fun ds50 => forS ds50 () (fun d45 (s47 : Unit) n46 => ifS (fun k => metS c.Shape "is_asking" p_made (walkD d2 fun ds62 => forS ds62 [] (fun d60 a58 n59 => joinS (fun k65 => ifS (fun k => cmpU .Eq d60 d45 fun t66 => k t66) (k65 .non) (k65 (.int 1))) fun d64 => n59 (a58 ++ [(.tup [d60, d64])])) fun xs61 => dictPairsS (.lst xs61) fun d57 => S_Shape_is_asking c p_made d57 fun d55 => cmpN c.P c.w .In d45 d3 fun t67 => cmpU .NotEq d55 (.bl t67) fun t54 => k t54)) (K (.bl false)) (n46 ())) fun s48 => K (.bl true))
def W_law_kept_right (c : Cl) : Wp := fun ds P => ∃ p_made p_dues : D, ds = [p_made, p_dues] ∧ ∃ P0, S_law_kept_right c p_made p_dues P0 ∧ ∀ d, P0 d → P d
theorem mono_law_kept_right {c : Cl} : ∀ ds Q Q', (∀ d, Q d → Q' d) → W_law_kept_right c ds Q → W_law_kept_right c ds Q' := fun ds Q Q' i ⟨_, _, e, P0, h, k⟩ => ⟨_, _, e, P0, h, fun d q => i _ (k d q)⟩
theorem to_law_kept_right {c : Cl} {p_made p_dues : D} {P0 Z : D → Prop} (h : S_law_kept_right c p_made p_dues P0) (i : ∀ d, P0 d → Z d) : W_law_kept_right c [p_made, p_dues] Z := ⟨_, _, rfl, P0, h, i⟩
-- law level 17
def S_law (c : Cl) (n : Nat) (K : D → Prop) : Prop := minF [(.int (n : Nat)), (.int 16)] fun d8 => binD .Add (.int 8) d8 fun d7 => rngS d7 fun ds6 => forS ds6 () (fun d1 (s3 : Unit) n2 => S_law_frame c (.int 3) (.int 3) fun d39 => ixN c.P c.w d39 (.str "columns") fun d41 => listNF c.P c.w [d41] fun d40 => ixN c.P c.w d39 (.str "open") fun d43 => listNF c.P c.w [d43] fun d42 => ixN c.P c.w d39 (.str "gone") fun d45 => listNF c.P c.w [d45] fun d44 => S_law_pick c (.lst [(.int 0), (.int 0), (.int 1), (.int 1), (.int 2)]) fun d52 => rngS d52 fun ds51 => forS ds51 (.lst [d40, d42, d44]) (fun d46 (s48 : D) n47 => S_law_bent_lists c s48 fun d56 => n47 d56) fun s49 => unp3 s49 fun d58 d59 d60 => S_law_are_sides c d58 d59 d60 fun d61 => rprU [s49] fun d62 => caughtS 2 c (fun E65 N66 => S_Shape_init c E65 d58 d59 d60 fun d67 => N66) fun d64 => ifS (fun k => cmpU .Is d64 .non fun t69 => cmpU .NotEq d61 (.bl t69) fun t68 => if t68 = true then k true else cmpU .IsNot d64 .non fun t70 => if t70 = true then isES 2 c (some 1) d64 fun t72 => blS (.bl t72) fun t73 => if (!t73) = true then k true else rprU [s49] fun d75 => cmpU .NotEq d75 d62 fun t74 => k t74 else if false = true then k true else rprU [s49] fun d77 => cmpU .NotEq d77 d62 fun t76 => k t76) (K (.bl false)) (letS (fun (s85 : Unit) => n2 ()) fun r84 => ifS (fun k => blS d61 fun t78 => k t78) (tupF [d58] fun d86 => tupF [d59] fun d87 => sortTF [d60] fun d89 => tupF [d89] fun d88 => S_Shape_init c (fun _ => False) d58 d59 d60 fun d90 => tupF [d60] fun d94 => revTS d94 fun d93 => tupF [d59] fun d95 => tupF [d58] fun d96 => S_Shape_init c (fun _ => False) d96 d95 d93 fun d92 => scrS [d58, d59, d60] [(.tup [d86, d87, d88]), d90, d92] (ixN c.P c.w (.tup [d86, d87, d88]) (.int 0) fun d113 => ixN c.P c.w (.tup [d86, d87, d88]) (.int 1) fun d114 => binD .Add d113 d114 fun d112 => S_law_pick c d112 fun d111 => True) (ifS (fun k => fldS c.Shape "own_columns" d90 fun d118 => fldS c.Shape "own_blanks" d90 fun d119 => fldS c.Shape "own_lacking" d90 fun d120 => rprU [(.tup [d118, d119, d120])] fun d117 => rprU [(.tup [d86, d87, d88])] fun d121 => cmpU .NotEq d117 d121 fun t116 => if t116 = true then k true else eqAS c.Shape c.Shape d90 d92 (S_Shape_eq c d90 d92 fun d122 => blS d122 fun t123 => k (!t123))) (K (.bl false)) (ifS (fun k => S_law_kept_right c d90 (.tup [d86, d87, d88]) fun d124 => blS d124 fun t125 => k (!t125)) (K (.bl false)) (ifS (fun k => S_law_unlike_right c d90 (.tup [d86, d87, d88]) fun d126 => blS d126 fun t127 => if (!t127) = true then k true else ixN c.P c.w (.tup [d86, d87, d88]) (.int 0) fun d131 => ixN c.P c.w (.tup [d86, d87, d88]) (.int 1) fun d132 => S_Shape_init c (fun _ => False) d131 d132 (.tup []) fun d130 => fldS c.Shape "own_lacking" d130 fun d129 => cmpU .NotEq d129 (.tup []) fun t128 => k t128) (K (.bl false)) (r84 ()))))) (r84 ()))) fun s4 => K (.bl true)
end K02

namespace K02
open PySem PySem.Spec L2 DL
section
variable {P : Program} {w : World} {K : PySem.W.Frag} {mg : Str → Option Value} {base : Heap} {dr : Option Dr} {x : Dr} {c : Cl}
abbrev N_is_number : List Str := ["thing"]
theorem sc_is_number : FnScope N_is_number ["thing"] (defScope t_is_number) := ⟨rfl, rfl, rfl, by decide +kernel, rfl, by decide +kernel, by decide +kernel⟩
theorem ok_is_number {f : Addr} {fd : FuncData} (F : FunA K "is_number" "is_number" t_is_number f fd) (hcPw : c.P = P ∧ c.w = w) (m_isinstance : mg "isinstance" = none) (hI : InsN K c.Shape) (m_int : mg "int" = none) (m_bool : mg "bool" = none) : FnOk P w K mg base CX0 4 f fd ["thing"] (spD K dr (W_is_number c)) := by
  obtain ⟨rfl, rfl⟩ := hcPw
  refine fnK F sc_is_number (fun ds Q h => by obtain ⟨_, rfl, _⟩ := h; rfl) fun cdv A outer s H E an ds post hr hW => ?_
  obtain ⟨p_thing, rfl, K0, hW, hi⟩ := hW
  have hu := hu65 hr
  have hu1 := hu1_of hu
  have hu2 := hu66 hr
  refine wss_cons (ws_ret ?_)
  refine we_and ?_
  refine we_blt (cb_isiM hI) m_isinstance PyProof.Rows.boot_isinstance isiMF_mono ?_
  refine wa_cons ?_
  refine we_name (i := 0) rfl (.inl rfl) rfl ?_
  refine wa_cons ?_
  refine we_ty m_int PyProof.Rows.boot_int ?_
  refine wa_nil ?_
  refine isiMF_mono _ _ _ (fun d1 hW => ?_) hW
  refine blS_link hW fun t2 hW => ?_
  refine ifE2 hW (fun hW => ?_) (fun hW => ?_)
  · refine we_and1 ?_
    refine we_not ?_
    refine we_blt (cb_isiM hI) m_isinstance PyProof.Rows.boot_isinstance isiMF_mono ?_
    refine wa_cons ?_
    refine we_name (i := 0) rfl (.inl rfl) rfl ?_
    refine wa_cons ?_
    refine we_ty m_bool boot_bool ?_
    refine wa_nil ?_
    refine isiMF_mono _ _ _ (fun d3 hW => ?_) hW
    refine blS_link hW fun t4 hW => ?_
    exact hi _ hW
  · exact hi _ hW
abbrev N_is_list : List Str := ["thing"]
theorem sc_is_list : FnScope N_is_list ["thing"] (defScope t_is_list) := ⟨rfl, rfl, rfl, by decide +kernel, rfl, by decide +kernel, by decide +kernel⟩
theorem ok_is_list {f : Addr} {fd : FuncData} (F : FunA K "is_list" "is_list" t_is_list f fd) (hcPw : c.P = P ∧ c.w = w) (m_isinstance : mg "isinstance" = none) (hI : InsN K c.Shape) (m_list : mg "list" = none) (m_tuple : mg "tuple" = none) : FnOk P w K mg base CX0 4 f fd ["thing"] (spD K dr (W_is_list c)) := by
  obtain ⟨rfl, rfl⟩ := hcPw
  refine fnK F sc_is_list (fun ds Q h => by obtain ⟨_, rfl, _⟩ := h; rfl) fun cdv A outer s H E an ds post hr hW => ?_
  obtain ⟨p_thing, rfl, K0, hW, hi⟩ := hW
  have hu := hu65 hr
  have hu1 := hu1_of hu
  have hu2 := hu66 hr
  refine wss_cons (ws_ret ?_)
  refine we_blt (cb_isiM hI) m_isinstance PyProof.Rows.boot_isinstance isiMF_mono ?_
  refine wa_cons ?_
  refine we_name (i := 0) rfl (.inl rfl) rfl ?_
  refine wa_cons ?_
  refine we_tup ?_
  refine wa_cons ?_
  refine we_ty m_list PyProof.Rows.boot_list ?_
  refine wa_cons ?_
  refine we_ty m_tuple PyProof.Rows.boot_tuple ?_
  refine wa_nil ?_
  refine ⟨small_le (by show 2 ≤ 1000; decide), ?_⟩
  refine wa_nil ?_
  refine isiMF_mono _ _ _ (fun d1 hW => ?_) hW
  exact hi _ hW
abbrev N_is_name : List Str := ["thing", "sign"]
theorem sc_is_name : FnScope N_is_name ["thing"] (defScope t_is_name) := ⟨rfl, rfl, rfl, by decide +kernel, rfl, by decide +kernel, by decide +kernel⟩
theorem ok_is_name {f : Addr} {fd : FuncData} (F : FunA K "is_name" "is_name" t_is_name f fd) (hcPw : c.P = P ∧ c.w = w) (m_isinstance : mg "isinstance" = none) (hI : InsN K c.Shape) (m_str : mg "str" = none) (m_len : mg "len" = none) (m_MOST_LETTERS : ∃ t, mg "MOST_LETTERS" = some (.int 8 t)) (m_all : mg "all" = none) (m_LETTERS : ∃ t, mg "LETTERS" = some (.str "abcdefghijklmnopqrstuvwxyz" t)) : FnOk P w K mg base CX0 4 f fd ["thing"] (spD K dr (W_is_name c)) := by
  obtain ⟨rfl, rfl⟩ := hcPw
  refine fnK F sc_is_name (fun ds Q h => by obtain ⟨_, rfl, _⟩ := h; rfl) fun cdv A outer s H E an ds post hr hW => ?_
  obtain ⟨p_thing, rfl, K0, hW, hi⟩ := hW
  have hu := hu65 hr
  have hu1 := hu1_of hu
  have hu2 := hu66 hr
  refine wss_cons (ws_ifS hW (fun k hW => ?_) (fun hW => ?_) (fun hW => ?_))
  · refine WW.wt ?_
    refine ww_or ?_
    refine wt_not ?_
    refine wt_val ?_
    refine we_blt (cb_isiM hI) m_isinstance PyProof.Rows.boot_isinstance isiMF_mono ?_
    refine wa_cons ?_
    refine we_name (i := 0) rfl (.inl rfl) rfl ?_
    refine wa_cons ?_
    refine we_ty m_str PyProof.Rows.boot_str ?_
    refine wa_nil ?_
    refine isiMF_mono _ _ _ (fun d1 hW => ?_) hW
    refine blS_link hW fun t2 hW => ?_
    refine ifE2 hW (fun hW => ?_) (fun hW => ?_)
    · exact ⟨rfl, hW⟩
    · refine ww_or1 ?_
      refine wt_not ?_
      refine wt_chain hu ?_
      refine we_int ?_
      refine we_blt cb_lenN m_len PySem.boot_len lenNF_mono ?_
      refine wa_cons ?_
      refine we_name (i := 0) rfl (.inl rfl) rfl ?_
      refine wa_nil ?_
      refine lenNF_mono _ _ _ (fun d5 hW => ?_) hW
      refine cmpD_imp hW fun t3 hW => ?_
      refine ifE2 hW (fun hW => ?_) (fun hW => ?_)
      · refine we_gint m_MOST_LETTERS ?_
        refine cmpD_imp hW fun t4 hW => ?_
        exact ⟨rfl, hW⟩
      · exact ⟨rfl, hW⟩
  · refine wss_cons (ws_ret ?_)
    refine we_bl ?_
    exact hi _ hW
  · refine wss_nil ?_
    refine wss_cons (ws_ret ?_)
    refine we_blt (cb_all rfl) m_all PyProof.Rows.boot_all allF_mono ?_
    refine wa_cons ?_
    refine we_lc rfl sc_is_name.nd rfl [("sign", 1)] (blkOk_by (N := N_is_name) (sc := defScope t_is_name) (by decide +kernel)) (fun _ _ _ _ _ => wg_name (i := 1) sc_is_name.nd rfl (.inl rfl)) (by decide) ?_
    refine wi_seq ?_
    refine we_name (i := 0) rfl (.inl rfl) rfl ?_
    refine walkV hW fun ds11 hW => ?_
    refine lc_link hW (fun d9 a7 n8 hW => ?_) (fun xs10 hW => ?_)
    · refine fN_link ?_
      refine fun s H C cl fp => ?_
      refine we_cmpN hu ?_
      refine we_name (i := 1) rfl (.inl rfl) rfl ?_
      refine we_gstr m_LETTERS ?_
      refine cmpN_imp hW fun t13 hW => ?_
      exact ⟨rfl, ⟨_, rfl⟩, hW⟩
    · refine wa_nil ?_
      refine allF_mono _ _ _ (fun d6 hW => ?_) hW
      exact hi _ hW
abbrev N_are_names : List Str := ["thing", "name"]
theorem sc_are_names : FnScope N_are_names ["thing"] (defScope t_are_names) := ⟨rfl, rfl, rfl, by decide +kernel, rfl, by decide +kernel, by decide +kernel⟩
theorem ok_are_names {f : Addr} {fd : FuncData} (F : FunA K "are_names" "are_names" t_are_names f fd) (hcPw : c.P = P ∧ c.w = w) (h_is_list : HasK P w K mg base dr 4 "is_list" ["thing"] (W_is_list c)) (m_all : mg "all" = none) (h_is_name : HasK P w K mg base dr 4 "is_name" ["thing"] (W_is_name c)) (m_len : mg "len" = none) (m_set : mg "set" = none) : FnOk P w K mg base CX0 6 f fd ["thing"] (spD K dr (W_are_names c)) := by
  obtain ⟨rfl, rfl⟩ := hcPw
  refine fnK F sc_are_names (fun ds Q h => by obtain ⟨_, rfl, _⟩ := h; rfl) fun cdv A outer s H E an ds post hr hW => ?_
  obtain ⟨p_thing, rfl, K0, hW, hi⟩ := hW
  have hu := hu65 hr
  have hu1 := hu1_of hu
  have hu2 := hu66 hr
  refine wss_cons (ws_ifS hW (fun k hW => ?_) (fun hW => ?_) (fun hW => ?_))
  · refine WW.wt ?_
    refine ww_or ?_
    refine wt_not ?_
    refine wt_val ?_
    refine we_callK h_is_list hr ?_
    refine wa_cons ?_
    refine we_name (i := 0) rfl (.inl rfl) rfl ?_
    refine wa_nil ?_
    refine allV1 ?_
    refine to_is_list hW fun d1 hW => ?_
    refine blS_link hW fun t2 hW => ?_
    refine ifE2 hW (fun hW => ?_) (fun hW => ?_)
    · exact ⟨rfl, hW⟩
    · refine ww_or1 ?_
      refine wt_not ?_
      refine wt_val ?_
      refine we_blt (cb_all rfl) m_all PyProof.Rows.boot_all allF_mono ?_
      refine wa_cons ?_
      refine we_lc rfl sc_are_names.nd rfl [("name", 1)] (blkOk_by (N := N_are_names) (sc := defScope t_are_names) (by decide +kernel)) (fun _ _ _ _ _ => wg_name (i := 1) sc_are_names.nd rfl (.inl rfl)) (by decide) ?_
      refine wi_seq ?_
      refine we_name (i := 0) rfl (.inl rfl) rfl ?_
      refine walkV hW fun ds8 hW => ?_
      refine lc_link hW (fun d6 a4 n5 hW => ?_) (fun xs7 hW => ?_)
      · refine fN_link ?_
        refine fun s H C cl fp => ?_
        refine we_callK h_is_name hr ?_
        refine wa_cons ?_
        refine we_name (i := 1) rfl (.inl rfl) rfl ?_
        refine wa_nil ?_
        refine allV1 ?_
        refine to_is_name hW fun d10 hW => ?_
        exact ⟨rfl, ⟨_, rfl⟩, hW⟩
      · refine wa_nil ?_
        refine allF_mono _ _ _ (fun d3 hW => ?_) hW
        refine blS_link hW fun t11 hW => ?_
        exact ⟨rfl, hW⟩
  · refine wss_cons (ws_ret ?_)
    refine we_bl ?_
    exact hi _ hW
  · refine wss_nil ?_
    refine wss_cons (ws_ret ?_)
    refine we_cmpU hu ?_
    refine we_lenSetU rfl m_len m_set ?_
    refine we_name (i := 0) rfl (.inl rfl) rfl ?_
    refine lenSetS_imp hW fun d13 hW => ?_
    refine we_blt cb_lenN m_len PySem.boot_len lenNF_mono ?_
    refine wa_cons ?_
    refine we_name (i := 0) rfl (.inl rfl) rfl ?_
    refine wa_nil ?_
    refine lenNF_mono _ _ _ (fun d14 hW => ?_) hW
    refine cmpU_imp hW fun t12 hW => ?_
    exact hi _ hW
abbrev N_are_sides : List Str := ["columns", "blanks", "lacking", "names", "name"]
theorem sc_are_sides : FnScope N_are_sides ["columns", "blanks", "lacking"] (defScope t_are_sides) := ⟨rfl, rfl, rfl, by decide +kernel, rfl, by decide +kernel, by decide +kernel⟩
theorem ok_are_sides {f : Addr} {fd : FuncData} (F : FunA K "are_sides" "are_sides" t_are_sides f fd) (hcPw : c.P = P ∧ c.w = w) (h_are_names : HasK P w K mg base dr 6 "are_names" ["thing"] (W_are_names c)) (m_len : mg "len" = none) (m_MOST_COLUMNS : ∃ t, mg "MOST_COLUMNS" = some (.int 3 t)) (m_MOST_BLANKS : ∃ t, mg "MOST_BLANKS" = some (.int 3 t)) (m_MOST_NAMES : ∃ t, mg "MOST_NAMES" = some (.int 5 t)) (m_set : mg "set" = none) (m_all : mg "all" = none) : FnOk P w K mg base CX0 8 f fd ["columns", "blanks", "lacking"] (spD K dr (W_are_sides c)) := by
  obtain ⟨rfl, rfl⟩ := hcPw
  refine fnK F sc_are_sides (fun ds Q h => by obtain ⟨_, _, _, rfl, _⟩ := h; rfl) fun cdv A outer s H E an ds post hr hW => ?_
  obtain ⟨p_columns, p_blanks, p_lacking, rfl, K0, hW, hi⟩ := hW
  have hu := hu65 hr
  have hu1 := hu1_of hu
  have hu2 := hu66 hr
  refine wss_cons (ws_ifS hW (fun k hW => ?_) (fun hW => ?_) (fun hW => ?_))
  · refine WW.wt ?_
    refine ww_or ?_
    refine wt_not ?_
    refine wt_val ?_
    refine we_callK h_are_names hr ?_
    refine wa_cons ?_
    refine we_name (i := 0) rfl (.inl rfl) rfl ?_
    refine wa_nil ?_
    refine allV1 ?_
    refine to_are_names hW fun d1 hW => ?_
    refine blS_link hW fun t2 hW => ?_
    refine ifE2 hW (fun hW => ?_) (fun hW => ?_)
    · exact ⟨rfl, hW⟩
    · refine ww_or ?_
      refine wt_not ?_
      refine wt_val ?_
      refine we_callK h_are_names hr ?_
      refine wa_cons ?_
      refine we_name (i := 1) rfl (.inl rfl) rfl ?_
      refine wa_nil ?_
      refine allV1 ?_
      refine to_are_names hW fun d3 hW => ?_
      refine blS_link hW fun t4 hW => ?_
      refine ifE2 hW (fun hW => ?_) (fun hW => ?_)
      · exact ⟨rfl, hW⟩
      · refine ww_or1 ?_
        refine wt_not ?_
        refine wt_val ?_
        refine we_callK h_are_names hr ?_
        refine wa_cons ?_
        refine we_name (i := 2) rfl (.inl rfl) rfl ?_
        refine wa_nil ?_
        refine allV1 ?_
        refine to_are_names hW fun d5 hW => ?_
        refine blS_link hW fun t6 hW => ?_
        exact ⟨rfl, hW⟩
  · refine wss_cons (ws_ret ?_)
    refine we_bl ?_
    exact hi _ hW
  · refine wss_nil ?_
    refine wss_cons (ws_set (i := 3) sc_are_sides.nd rfl (.inr rfl) ?_)
    refine we_lst ?_
    refine wa_star ?_
    refine we_name (i := 0) rfl (.inl rfl) rfl ?_
    obtain ⟨l7, el7, hW⟩ := seqS_inv hW
    refine ⟨l7, el7, ?_⟩
    refine wa_star ?_
    refine we_name (i := 1) rfl (.inl rfl) rfl ?_
    obtain ⟨l8, el8, hW⟩ := seqS_inv hW
    refine ⟨l8, el8, ?_⟩
    refine wa_nil ?_
    rw [show (l7.map R.v ++ (l8.map R.v ++ [])) = (l7 ++ l8).map R.v by simp, allV_v]
    refine ⟨hW.1, ?_⟩
    replace hW := hW.2
    refine wss_cons (ws_ifS hW (fun k hW => ?_) (fun hW => ?_) (fun hW => ?_))
    · refine WW.wt ?_
      refine ww_or ?_
      refine wt_not ?_
      refine wt_chain hu ?_
      refine we_int ?_
      refine we_blt cb_lenN m_len PySem.boot_len lenNF_mono ?_
      refine wa_cons ?_
      refine we_name (i := 0) rfl (.inl rfl) rfl ?_
      refine wa_nil ?_
      refine lenNF_mono _ _ _ (fun d11 hW => ?_) hW
      refine cmpD_imp hW fun t9 hW => ?_
      refine ifE2 hW (fun hW => ?_) (fun hW => ?_)
      · refine we_gint m_MOST_COLUMNS ?_
        refine cmpD_imp hW fun t10 hW => ?_
        refine ifE2 hW (fun hW => ?_) (fun hW => ?_)
        · exact ⟨rfl, hW⟩
        · refine ww_or ?_
          refine wt_cmpU hu ?_
          refine we_blt cb_lenN m_len PySem.boot_len lenNF_mono ?_
          refine wa_cons ?_
          refine we_name (i := 1) rfl (.inl rfl) rfl ?_
          refine wa_nil ?_
          refine lenNF_mono _ _ _ (fun d13 hW => ?_) hW
          refine we_gint m_MOST_BLANKS ?_
          refine cmpU_imp hW fun t12 hW => ?_
          refine ifE2 hW (fun hW => ?_) (fun hW => ?_)
          · exact ⟨rfl, hW⟩
          · refine ww_or1 ?_
            refine wt_cmpU hu ?_
            refine we_blt cb_lenN m_len PySem.boot_len lenNF_mono ?_
            refine wa_cons ?_
            refine we_name (i := 3) rfl (.inr (.inl rfl)) rfl ?_
            refine wa_nil ?_
            refine lenNF_mono _ _ _ (fun d15 hW => ?_) hW
            refine we_gint m_MOST_NAMES ?_
            refine cmpU_imp hW fun t14 hW => ?_
            exact ⟨rfl, hW⟩
      · refine ifE2 hW (fun hW => ?_) (fun hW => ?_)
        · exact ⟨rfl, hW⟩
        · refine ww_or ?_
          refine wt_cmpU hu ?_
          refine we_blt cb_lenN m_len PySem.boot_len lenNF_mono ?_
          refine wa_cons ?_
          refine we_name (i := 1) rfl (.inl rfl) rfl ?_
          refine wa_nil ?_
          refine lenNF_mono _ _ _ (fun d17 hW => ?_) hW
          refine we_gint m_MOST_BLANKS ?_
          refine cmpU_imp hW fun t16 hW => ?_
          refine ifE2 hW (fun hW => ?_) (fun hW => ?_)
          · exact ⟨rfl, hW⟩
          · refine ww_or1 ?_
            refine wt_cmpU hu ?_
            refine we_blt cb_lenN m_len PySem.boot_len lenNF_mono ?_
            refine wa_cons ?_
            refine we_name (i := 3) rfl (.inr (.inl rfl)) rfl ?_
            refine wa_nil ?_
            refine lenNF_mono _ _ _ (fun d19 hW => ?_) hW
            refine we_gint m_MOST_NAMES ?_
            refine cmpU_imp hW fun t18 hW => ?_
            exact ⟨rfl, hW⟩
    · refine wss_cons (ws_ret ?_)
      refine we_bl ?_
      exact hi _ hW
    · refine wss_nil ?_
      refine wss_cons (ws_ret ?_)
      refine we_and ?_
      refine we_cmpU hu ?_
      refine we_lenSetU rfl m_len m_set ?_
      refine we_name (i := 3) rfl (.inr (.inl rfl)) rfl ?_
      refine lenSetS_imp hW fun d21 hW => ?_
      refine we_blt cb_lenN m_len PySem.boot_len lenNF_mono ?_
      refine wa_cons ?_
      refine we_name (i := 3) rfl (.inr (.inl rfl)) rfl ?_
      refine wa_nil ?_
      refine lenNF_mono _ _ _ (fun d22 hW => ?_) hW
      refine cmpU_imp hW fun t20 hW => ?_
      refine blS_link hW fun t23 hW => ?_
      refine ifE2 hW (fun hW => ?_) (fun hW => ?_)
      · refine we_and1 ?_
        refine we_blt (cb_all rfl) m_all PyProof.Rows.boot_all allF_mono ?_
        refine wa_cons ?_
        refine we_lc rfl sc_are_sides.nd rfl [("name", 4)] (blkOk_by (N := N_are_sides) (sc := defScope t_are_sides) (by decide +kernel)) (fun _ _ _ _ _ => wg_name (i := 4) sc_are_sides.nd rfl (.inl rfl)) (by decide) ?_
        refine wi_seq ?_
        refine we_name (i := 2) rfl (.inl rfl) rfl ?_
        refine walkV hW fun ds29 hW => ?_
        refine lc_link hW (fun d27 a25 n26 hW => ?_) (fun xs28 hW => ?_)
        · refine fN_link ?_
          refine fun s H C cl fp => ?_
          refine we_cmpN hu ?_
          refine we_name (i := 4) rfl (.inl rfl) rfl ?_
          refine we_name (i := 3) rfl (.inr (.inl rfl)) rfl ?_
          refine cmpN_imp hW fun t31 hW => ?_
          exact ⟨rfl, ⟨_, rfl⟩, hW⟩
        · refine wa_nil ?_
          refine allF_mono _ _ _ (fun d24 hW => ?_) hW
          exact hi _ hW
      · exact hi _ hW
abbrev N_Shape_init : List Str := ["self", "columns", "blanks", "lacking"]
theorem sc_Shape_init : FnScope N_Shape_init ["self", "columns", "blanks", "lacking"] (defScope t_Shape_init) := ⟨rfl, rfl, rfl, by decide +kernel, rfl, by decide +kernel, by decide +kernel⟩
theorem ok_Shape_init {f : Addr} {fd : FuncData} (F : FunA K "__init__" "Shape.__init__" t_Shape_init f fd) (hcPw : c.P = P ∧ c.w = w) (h_are_sides : HasK P w K mg base dr 8 "are_sides" ["columns", "blanks", "lacking"] (W_are_sides c)) (e_BadShape : ErrM K mg "BadShape" (c.err 1)) (c_Shape : Cls K c.Shape) (n_Shape_own_columns : NoAttr K c.Shape "own_columns") (m_tuple : mg "tuple" = none) (n_Shape_own_blanks : NoAttr K c.Shape "own_blanks") (n_Shape_own_lacking : NoAttr K c.Shape "own_lacking") (m_sorted : mg "sorted" = none) : FnOk P w K mg base (CX P w) 10 f fd ["self", "columns", "blanks", "lacking"] (spIX K dr c.Shape (W_Shape_init c)) := by
  obtain ⟨rfl, rfl⟩ := hcPw
  refine fnIX F sc_Shape_init (fun ds Q E h => by obtain ⟨_, _, _, rfl, _⟩ := h; rfl) fun cdv A outer s H E an ds post EX hr hW tk => ?_
  obtain ⟨p_columns, p_blanks, p_lacking, rfl, K0, E0, hW, hi, he⟩ := hW
  have hu := hu65 hr
  have hu1 := hu1_of hu
  have hu2 := hu66 hr
  refine wss_cons (ws_ifS hW (fun k hW => ?_) (fun hW => ?_) (fun hW => ?_))
  · refine wt_not ?_
    refine wt_val ?_
    refine we_callK h_are_sides hr ?_
    refine wa_cons ?_
    refine we_name (i := 1) rfl (.inl rfl) rfl ?_
    refine wa_cons ?_
    refine we_name (i := 2) rfl (.inl rfl) rfl ?_
    refine wa_cons ?_
    refine we_name (i := 3) rfl (.inl rfl) rfl ?_
    refine wa_nil ?_
    refine allV3 ?_
    refine to_are_sides hW fun d1 hW => ?_
    refine blS_link hW fun t2 hW => ?_
    exact ⟨rfl, hW⟩
  · exact wss_cons (ws_raiseM rfl e_BadShape tk (he _ hW))
  · refine wss_nil ?_
    refine wss_cons (ws_sfldS (i := 0) (k := 0) c_Shape n_Shape_own_columns rfl (.inl rfl) rfl ?_)
    refine we_bty cb_tup m_tuple PyProof.Rows.boot_tuple tupF_mono ?_
    refine wa_cons ?_
    refine we_name (i := 1) rfl (.inl rfl) rfl ?_
    refine wa_nil ?_
    refine tupF_mono _ _ _ (fun d3 hW => ?_) hW
    refine ⟨_, _, rfl, rfl, ?_⟩
    refine sfldS_imp hW fun l4 hW => ?_
    refine wss_cons (ws_sfldS (i := 0) (k := 0) c_Shape n_Shape_own_blanks rfl (.inl rfl) rfl ?_)
    refine we_bty cb_tup m_tuple PyProof.Rows.boot_tuple tupF_mono ?_
    refine wa_cons ?_
    refine we_name (i := 2) rfl (.inl rfl) rfl ?_
    refine wa_nil ?_
    refine tupF_mono _ _ _ (fun d5 hW => ?_) hW
    refine ⟨_, _, rfl, rfl, ?_⟩
    refine sfldS_imp hW fun l6 hW => ?_
    refine wss_cons (ws_sfldS (i := 0) (k := 0) c_Shape n_Shape_own_lacking rfl (.inl rfl) rfl ?_)
    refine we_bty cb_tup m_tuple PyProof.Rows.boot_tuple tupF_mono ?_
    refine wa_cons ?_
    refine we_blt (cb_sortT rfl) m_sorted boot_sorted sortTF_mono ?_
    refine wa_cons ?_
    refine we_name (i := 3) rfl (.inl rfl) rfl ?_
    refine wa_nil ?_
    refine sortTF_mono _ _ _ (fun d8 hW => ?_) hW
    refine wa_nil ?_
    refine tupF_mono _ _ _ (fun d7 hW => ?_) hW
    refine ⟨_, _, rfl, rfl, ?_⟩
    refine sfldS_imp hW fun l9 hW => ?_
    refine wss_nil ?_
    exact ins_link hW hi
abbrev N_Shape_eq : List Str := ["self", "other", "mine"]
theorem sc_Shape_eq : FnScope N_Shape_eq ["self", "other"] (defScope t_Shape_eq) := ⟨rfl, rfl, rfl, by decide +kernel, rfl, by decide +kernel, by decide +kernel⟩
theorem ok_Shape_eq {f : Addr} {fd : FuncData} (F : FunA K "__eq__" "Shape.__eq__" t_Shape_eq f fd) (hcPw : c.P = P ∧ c.w = w) (m_isinstance : mg "isinstance" = none) (i_Shape : IsCls K mg "Shape" c.Shape) (c_Shape : Cls K c.Shape) (n_Shape_own_columns : NoAttr K c.Shape "own_columns") (n_Shape_own_blanks : NoAttr K c.Shape "own_blanks") (n_Shape_own_lacking : NoAttr K c.Shape "own_lacking") : FnOk P w K mg base CX0 4 f fd ["self", "other"] (spD K dr (W_Shape_eq c)) := by
  obtain ⟨rfl, rfl⟩ := hcPw
  refine fnK F sc_Shape_eq (fun ds Q h => by obtain ⟨_, _, rfl, _⟩ := h; rfl) fun cdv A outer s H E an ds post hr hW => ?_
  obtain ⟨p_self, p_other, rfl, K0, hW, hi⟩ := hW
  have hu := hu65 hr
  have hu1 := hu1_of hu
  have hu2 := hu66 hr
  refine wss_cons (ws_ifS hW (fun k hW => ?_) (fun hW => ?_) (fun hW => ?_))
  · refine wt_not ?_
    refine wt_val ?_
    refine we_isC m_isinstance i_Shape ?_
    refine we_name (i := 1) rfl (.inl rfl) rfl ?_
    refine isC_link hW fun t2 hW => ?_
    refine blS_link hW fun t3 hW => ?_
    exact ⟨rfl, hW⟩
  · refine wss_cons (ws_ret ?_)
    refine we_bl ?_
    exact hi _ hW
  · refine wss_nil ?_
    refine wss_cons (ws_set (i := 2) sc_Shape_eq.nd rfl (.inl rfl) ?_)
    refine we_tup ?_
    refine wa_cons ?_
    refine we_fldU c_Shape n_Shape_own_columns ?_
    refine we_name (i := 0) rfl (.inl rfl) rfl ?_
    refine fldS_imp hW fun d4 hW => ?_
    refine wa_cons ?_
    refine we_fldU c_Shape n_Shape_own_blanks ?_
    refine we_name (i := 0) rfl (.inl rfl) rfl ?_
    refine fldS_imp hW fun d5 hW => ?_
    refine wa_cons ?_
    refine we_fldU c_Shape n_Shape_own_lacking ?_
    refine we_name (i := 0) rfl (.inl rfl) rfl ?_
    refine fldS_imp hW fun d6 hW => ?_
    refine wa_nil ?_
    refine ⟨small_le (by show 3 ≤ 1000; decide), ?_⟩
    refine wss_cons (ws_ret ?_)
    refine we_cmpU hu ?_
    refine we_name (i := 2) rfl (.inl rfl) rfl ?_
    refine we_tup ?_
    refine wa_cons ?_
    refine we_fldU c_Shape n_Shape_own_columns ?_
    refine we_name (i := 1) rfl (.inl rfl) rfl ?_
    refine fldS_imp hW fun d8 hW => ?_
    refine wa_cons ?_
    refine we_fldU c_Shape n_Shape_own_blanks ?_
    refine we_name (i := 1) rfl (.inl rfl) rfl ?_
    refine fldS_imp hW fun d9 hW => ?_
    refine wa_cons ?_
    refine we_fldU c_Shape n_Shape_own_lacking ?_
    refine we_name (i := 1) rfl (.inl rfl) rfl ?_
    refine fldS_imp hW fun d10 hW => ?_
    refine wa_nil ?_
    refine ⟨small_le (by show 3 ≤ 1000; decide), ?_⟩
    refine cmpU_imp hW fun t7 hW => ?_
    exact hi _ hW
abbrev N_Shape_is_worth : List Str := ["self", "name", "thing"]
theorem sc_Shape_is_worth : FnScope N_Shape_is_worth ["self", "name", "thing"] (defScope t_Shape_is_worth) := ⟨rfl, rfl, rfl, by decide +kernel, rfl, by decide +kernel, by decide +kernel⟩
theorem ok_Shape_is_worth {f : Addr} {fd : FuncData} (F : FunA K "is_worth" "Shape.is_worth" t_Shape_is_worth f fd) (hcPw : c.P = P ∧ c.w = w) (h_is_number : HasK P w K mg base dr 4 "is_number" ["thing"] (W_is_number c)) (c_Shape : Cls K c.Shape) (n_Shape_own_lacking : NoAttr K c.Shape "own_lacking") : FnOk P w K mg base CX0 6 f fd ["self", "name", "thing"] (spD K dr (W_Shape_is_worth c)) := by
  obtain ⟨rfl, rfl⟩ := hcPw
  refine fnK F sc_Shape_is_worth (fun ds Q h => by obtain ⟨_, _, _, rfl, _⟩ := h; rfl) fun cdv A outer s H E an ds post hr hW => ?_
  obtain ⟨p_self, p_name, p_thing, rfl, K0, hW, hi⟩ := hW
  have hu := hu65 hr
  have hu1 := hu1_of hu
  have hu2 := hu66 hr
  refine wss_cons (ws_ret ?_)
  refine we_or ?_
  refine we_callK h_is_number hr ?_
  refine wa_cons ?_
  refine we_name (i := 2) rfl (.inl rfl) rfl ?_
  refine wa_nil ?_
  refine allV1 ?_
  refine to_is_number hW fun d1 hW => ?_
  refine blS_link hW fun t2 hW => ?_
  refine ifE2 hW (fun hW => ?_) (fun hW => ?_)
  · exact hi _ hW
  · refine we_or1 ?_
    refine we_and ?_
    refine we_cmpU hu ?_
    refine we_name (i := 2) rfl (.inl rfl) rfl ?_
    refine we_non ?_
    refine cmpU_imp hW fun t3 hW => ?_
    refine blS_link hW fun t4 hW => ?_
    refine ifE2 hW (fun hW => ?_) (fun hW => ?_)
    · refine we_and1 ?_
      refine we_cmpN hu ?_
      refine we_name (i := 1) rfl (.inl rfl) rfl ?_
      refine we_fldU c_Shape n_Shape_own_lacking ?_
      refine we_name (i := 0) rfl (.inl rfl) rfl ?_
      refine fldS_imp hW fun d6 hW => ?_
      refine cmpN_imp hW fun t5 hW => ?_
      exact hi _ hW
    · exact hi _ hW
abbrev N_Shape_is_row : List Str := ["self", "thing", "name", "worth"]
theorem sc_Shape_is_row : FnScope N_Shape_is_row ["self", "thing"] (defScope t_Shape_is_row) := ⟨rfl, rfl, rfl, by decide +kernel, rfl, by decide +kernel, by decide +kernel⟩
theorem ok_Shape_is_row {f : Addr} {fd : FuncData} (F : FunA K "is_row" "Shape.is_row" t_Shape_is_row f fd) (hcPw : c.P = P ∧ c.w = w) (m_isinstance : mg "isinstance" = none) (hI : InsN K c.Shape) (m_tuple : mg "tuple" = none) (m_len : mg "len" = none) (c_Shape : Cls K c.Shape) (n_Shape_own_columns : NoAttr K c.Shape "own_columns") (m_all : mg "all" = none) (m_zip : mg "zip" = none) (h_Shape_is_worth : HasM P w K mg base dr 6 c.Shape "is_worth" ["self", "name", "thing"] (W_Shape_is_worth c)) : FnOk P w K mg base CX0 8 f fd ["self", "thing"] (spD K dr (W_Shape_is_row c)) := by
  obtain ⟨rfl, rfl⟩ := hcPw
  refine fnK F sc_Shape_is_row (fun ds Q h => by obtain ⟨_, _, rfl, _⟩ := h; rfl) fun cdv A outer s H E an ds post hr hW => ?_
  obtain ⟨p_self, p_thing, rfl, K0, hW, hi⟩ := hW
  have hu := hu65 hr
  have hu1 := hu1_of hu
  have hu2 := hu66 hr
  refine wss_cons (ws_ifS hW (fun k hW => ?_) (fun hW => ?_) (fun hW => ?_))
  · refine WW.wt ?_
    refine ww_or ?_
    refine wt_not ?_
    refine wt_val ?_
    refine we_blt (cb_isiM hI) m_isinstance PyProof.Rows.boot_isinstance isiMF_mono ?_
    refine wa_cons ?_
    refine we_name (i := 1) rfl (.inl rfl) rfl ?_
    refine wa_cons ?_
    refine we_ty m_tuple PyProof.Rows.boot_tuple ?_
    refine wa_nil ?_
    refine isiMF_mono _ _ _ (fun d1 hW => ?_) hW
    refine blS_link hW fun t2 hW => ?_
    refine ifE2 hW (fun hW => ?_) (fun hW => ?_)
    · exact ⟨rfl, hW⟩
    · refine ww_or1 ?_
      refine wt_cmpU hu ?_
      refine we_blt cb_lenN m_len PySem.boot_len lenNF_mono ?_
      refine wa_cons ?_
      refine we_name (i := 1) rfl (.inl rfl) rfl ?_
      refine wa_nil ?_
      refine lenNF_mono _ _ _ (fun d4 hW => ?_) hW
      refine we_blt cb_lenN m_len PySem.boot_len lenNF_mono ?_
      refine wa_cons ?_
      refine we_fldU c_Shape n_Shape_own_columns ?_
      refine we_name (i := 0) rfl (.inr (.inl rfl)) rfl ?_
      refine fldS_imp hW fun d6 hW => ?_
      refine wa_nil ?_
      refine lenNF_mono _ _ _ (fun d5 hW => ?_) hW
      refine cmpU_imp hW fun t3 hW => ?_
      exact ⟨rfl, hW⟩
  · refine wss_cons (ws_ret ?_)
    refine we_bl ?_
    exact hi _ hW
  · refine wss_nil ?_
    refine wss_cons (ws_ret ?_)
    refine we_blt (cb_all rfl) m_all PyProof.Rows.boot_all allF_mono ?_
    refine wa_cons ?_
    refine we_lc rfl sc_Shape_is_row.nd rfl [("name", 2), ("worth", 3)] (blkOk_by (N := N_Shape_is_row) (sc := defScope t_Shape_is_row) (by decide +kernel)) (fun _ _ _ _ _ => wg_tup (n := 2) rfl (wgs_cons (wg_name (i := 2) sc_Shape_is_row.nd rfl (.inl rfl)) (wgs_cons (wg_name (i := 3) sc_Shape_is_row.nd rfl (.inl rfl)) (wgs_nil)))) (by decide) ?_
    refine wi_zipTU m_zip ?_
    refine wa_cons ?_
    refine we_fldU c_Shape n_Shape_own_columns ?_
    refine we_name (i := 0) rfl (.inr (.inl rfl)) rfl ?_
    refine fldS_imp hW fun d13 hW => ?_
    refine wa_cons ?_
    refine we_name (i := 1) rfl (.inl rfl) rfl ?_
    refine wa_nil ?_
    refine twoV ?_
    refine zipTS_imp hW fun ds12 hW => ?_
    refine lc_link hW (fun d10 a8 n9 hW => ?_) (fun xs11 hW => ?_)
    · refine unp2_link hW fun d14 d15 hW => ?_
      refine fN_link ?_
      refine fN_link ?_
      refine fun s H C cl fp => ?_
      refine we_methU (pl := _) h_Shape_is_worth hr ?_
      refine we_name (i := 0) rfl (.inr (.inl rfl)) rfl ?_
      refine metS_imp hW fun hW => ?_
      refine wa_cons ?_
      refine we_name (i := 2) rfl (.inl rfl) rfl ?_
      refine wa_cons ?_
      refine we_name (i := 3) rfl (.inl rfl) rfl ?_
      refine wa_nil ?_
      refine allV2 ?_
      refine to_Shape_is_worth hW fun d17 hW => ?_
      exact ⟨rfl, ⟨_, rfl⟩, hW⟩
    · refine wa_nil ?_
      refine allF_mono _ _ _ (fun d7 hW => ?_) hW
      exact hi _ hW
abbrev N_Shape_is_asking : List Str := ["self", "thing", "name"]
theorem sc_Shape_is_asking : FnScope N_Shape_is_asking ["self", "thing"] (defScope t_Shape_is_asking) := ⟨rfl, rfl, rfl, by decide +kernel, rfl, by decide +kernel, by decide +kernel⟩
theorem ok_Shape_is_asking {f : Addr} {fd : FuncData} (F : FunA K "is_asking" "Shape.is_asking" t_Shape_is_asking f fd) (hcPw : c.P = P ∧ c.w = w) (m_isinstance : mg "isinstance" = none) (hI : InsN K c.Shape) (m_dict : mg "dict" = none) (m_len : mg "len" = none) (c_Shape : Cls K c.Shape) (n_Shape_own_blanks : NoAttr K c.Shape "own_blanks") (m_all : mg "all" = none) (h_Shape_is_worth : HasM P w K mg base dr 6 c.Shape "is_worth" ["self", "name", "thing"] (W_Shape_is_worth c)) : FnOk P w K mg base CX0 8 f fd ["self", "thing"] (spD K dr (W_Shape_is_asking c)) := by
  obtain ⟨rfl, rfl⟩ := hcPw
  refine fnK F sc_Shape_is_asking (fun ds Q h => by obtain ⟨_, _, rfl, _⟩ := h; rfl) fun cdv A outer s H E an ds post hr hW => ?_
  obtain ⟨p_self, p_thing, rfl, K0, hW, hi⟩ := hW
  have hu := hu65 hr
  have hu1 := hu1_of hu
  have hu2 := hu66 hr
  refine wss_cons (ws_ifS hW (fun k hW => ?_) (fun hW => ?_) (fun hW => ?_))
  · refine WW.wt ?_
    refine ww_or ?_
    refine wt_not ?_
    refine wt_val ?_
    refine we_blt (cb_isiM hI) m_isinstance PyProof.Rows.boot_isinstance isiMF_mono ?_
    refine wa_cons ?_
    refine we_name (i := 1) rfl (.inr (.inl rfl)) rfl ?_
    refine wa_cons ?_
    refine we_ty m_dict boot_dict ?_
    refine wa_nil ?_
    refine isiMF_mono _ _ _ (fun d1 hW => ?_) hW
    refine blS_link hW fun t2 hW => ?_
    refine ifE2 hW (fun hW => ?_) (fun hW => ?_)
    · exact ⟨rfl, hW⟩
    · refine ww_or1 ?_
      refine wt_cmpU hu ?_
      refine we_blt cb_lenN m_len PySem.boot_len lenNF_mono ?_
      refine wa_cons ?_
      refine we_name (i := 1) rfl (.inr (.inl rfl)) rfl ?_
      refine wa_nil ?_
      refine lenNF_mono _ _ _ (fun d4 hW => ?_) hW
      refine we_blt cb_lenN m_len PySem.boot_len lenNF_mono ?_
      refine wa_cons ?_
      refine we_fldU c_Shape n_Shape_own_blanks ?_
      refine we_name (i := 0) rfl (.inr (.inl rfl)) rfl ?_
      refine fldS_imp hW fun d6 hW => ?_
      refine wa_nil ?_
      refine lenNF_mono _ _ _ (fun d5 hW => ?_) hW
      refine cmpU_imp hW fun t3 hW => ?_
      exact ⟨rfl, hW⟩
  · refine wss_cons (ws_ret ?_)
    refine we_bl ?_
    exact hi _ hW
  · refine wss_nil ?_
    refine wss_cons (ws_ret ?_)
    refine we_blt (cb_all rfl) m_all PyProof.Rows.boot_all allF_mono ?_
    refine wa_cons ?_
    refine we_lc rfl sc_Shape_is_asking.nd rfl [("name", 2)] (blkOk_by (N := N_Shape_is_asking) (sc := defScope t_Shape_is_asking) (by decide +kernel)) (fun _ _ _ _ _ => wg_name (i := 2) sc_Shape_is_asking.nd rfl (.inl rfl)) (by decide) ?_
    refine wi_seq ?_
    refine we_fldU c_Shape n_Shape_own_blanks ?_
    refine we_name (i := 0) rfl (.inr (.inl rfl)) rfl ?_
    refine fldS_imp hW fun d13 hW => ?_
    refine walkV hW fun ds12 hW => ?_
    refine lc_link hW (fun d10 a8 n9 hW => ?_) (fun xs11 hW => ?_)
    · refine fN_link ?_
      refine fun s H C cl fp => ?_
      refine we_joinS hW (fun hW => ?_) (fun d15 hW => ?_)
      · skip
        refine we_and ?_
        refine we_cmpN hu ?_
        refine we_name (i := 2) rfl (.inl rfl) rfl ?_
        refine we_name (i := 1) rfl (.inr (.inl rfl)) rfl ?_
        refine cmpN_imp hW fun t17 hW => ?_
        refine blS_link hW fun t18 hW => ?_
        refine ifE2 hW (fun hW => ?_) (fun hW => ?_)
        · refine we_and1 ?_
          refine we_methU (pl := _) h_Shape_is_worth hr ?_
          refine we_name (i := 0) rfl (.inr (.inl rfl)) rfl ?_
          refine metS_imp hW fun hW => ?_
          refine wa_cons ?_
          refine we_name (i := 2) rfl (.inl rfl) rfl ?_
          refine wa_cons ?_
          refine we_ixN hu ?_
          refine we_name (i := 1) rfl (.inr (.inl rfl)) rfl ?_
          refine we_name (i := 2) rfl (.inl rfl) rfl ?_
          refine ixN_imp hW fun d21 hW => ?_
          refine wa_nil ?_
          refine allV2 ?_
          refine to_Shape_is_worth hW fun d19 hW => ?_
          exact ⟨_, rfl, rfl, hW⟩
        · exact ⟨_, rfl, rfl, hW⟩
      · exact ⟨rfl, ⟨_, rfl⟩, hW⟩
    · refine wa_nil ?_
      refine allF_mono _ _ _ (fun d7 hW => ?_) hW
      exact hi _ hW
abbrev N_law_pick : List Str := ["_law_draw", "_law_some"]
theorem sc_law_pick : FnScope N_law_pick ["_law_draw", "_law_some"] (defScope t_law_pick) := ⟨rfl, rfl, rfl, by decide +kernel, rfl, by decide +kernel, by decide +kernel⟩
theorem ok_law_pick {f : Addr} {fd : FuncData} (F : FunA K "_law_pick" "_law_pick" t_law_pick f fd) (hcPw : c.P = P ∧ c.w = w) (h_law_take : HasK P w K mg base (some x) 2 "_law_take" ["_law_draw", "_law_many"] (W_take x)) (m_len : mg "len" = none) : FnG P w K mg base CX0 4 f fd ["_law_draw", "_law_some"] (spD K (some x) (W_law_pick c x)) := by
  obtain ⟨rfl, rfl⟩ := hcPw
  refine fnD F sc_law_pick (fun ds Q h => by obtain ⟨_, rfl, _⟩ := h; rfl) fun cdv A outer s H E an ds post hr gd hW => ?_
  obtain ⟨p_some, rfl, K0, hW, hi⟩ := hW
  have hu := hu65 hr
  have hu1 := hu1_of hu
  have hu2 := hu66 hr
  refine wss_cons (ws_ret ?_)
  refine we_ixN hu ?_
  refine we_name (i := 1) rfl (.inl rfl) rfl ?_
  refine we_callK h_law_take hr ?_
  refine wa_cons ?_
  refine we_name (i := 0) rfl (.inl rfl) rfl ?_
  refine wa_cons ?_
  refine we_blt cb_lenN m_len PySem.boot_len lenNF_mono ?_
  refine wa_cons ?_
  refine we_name (i := 1) rfl (.inl rfl) rfl ?_
  refine wa_nil ?_
  refine lenNF_mono _ _ _ (fun d3 hW => ?_) hW
  refine wa_nil ?_
  refine allV2 ?_
  refine take_link (x := x) hW fun d2 hW => ?_
  refine ixN_imp hW fun d1 hW => ?_
  exact hi _ hW
abbrev N_law_words : List Str := ["_law_draw", "_law_count", "_law_letters", "_law_found", "_law_some", "_law_k", "_law_word", "_law_near", "_law_span", "_law_letter", "_law_j", "_law_one"]
theorem sc_law_words : FnScope N_law_words ["_law_draw", "_law_count"] (defScope t_law_words) := ⟨rfl, rfl, rfl, by decide +kernel, rfl, by decide +kernel, by decide +kernel⟩
theorem ok_law_words {f : Addr} {fd : FuncData} (F : FunA K "_law_words" "_law_words" t_law_words f fd) (hcPw : c.P = P ∧ c.w = w) (m_range : mg "range" = none) (h_law_pick : Has P w K mg base (some x) 4 "_law_pick" ["_law_draw", "_law_some"] (W_law_pick c x)) (h_law_take : HasK P w K mg base (some x) 2 "_law_take" ["_law_draw", "_law_many"] (W_take x)) : FnG P w K mg base CX0 6 f fd ["_law_draw", "_law_count"] (spD K (some x) (W_law_words c x)) := by
  obtain ⟨rfl, rfl⟩ := hcPw
  refine fnD F sc_law_words (fun ds Q h => by obtain ⟨_, rfl, _⟩ := h; rfl) fun cdv A outer s H E an ds post hr gd hW => ?_
  obtain ⟨p_count, rfl, K0, hW, hi⟩ := hW
  have hu := hu65 hr
  have hu1 := hu1_of hu
  have hu2 := hu66 hr
  refine wss_cons (ws_parC (i := 2) (j := 3) rfl sc_law_words.nd rfl rfl (.inr rfl) (.inr rfl) ?_)
  refine wa_cons ?_
  refine we_str ?_
  refine wa_cons ?_
  refine we_lstO ?_
  refine wa_nil ?_
  refine ⟨small_le (by show 0 ≤ 1000; decide), ?_⟩
  refine wa_nil ?_
  refine ⟨_, _, rfl, ?_⟩
  refine wss_cons (ws_set (i := 4) sc_law_words.nd rfl (.inl rfl) ?_)
  refine we_lst ?_
  refine wa_cons ?_
  refine we_str ?_
  refine wa_cons ?_
  refine we_str ?_
  refine wa_cons ?_
  refine we_str ?_
  refine wa_cons ?_
  refine we_str ?_
  refine wa_cons ?_
  refine we_str ?_
  refine wa_cons ?_
  refine we_str ?_
  refine wa_cons ?_
  refine we_str ?_
  refine wa_cons ?_
  refine we_str ?_
  refine wa_cons ?_
  refine we_str ?_
  refine wa_cons ?_
  refine we_str ?_
  refine wa_cons ?_
  refine we_str ?_
  refine wa_cons ?_
  refine we_str ?_
  refine wa_nil ?_
  refine ⟨small_le (by show 12 ≤ 1000; decide), ?_⟩
  refine wss_cons (ws_for PassesOwn.never rfl (wg_name (i := 5) sc_law_words.nd rfl (.inl rfl)) ?_)
  refine wi_rangeU m_range ?_
  refine we_name (i := 1) rfl (.inl rfl) rfl ?_
  refine rngS_imp hW fun ds6 hW => ?_
  refine for_link (fun (s7 : D) ρ om => ∃ u8 u9 u10 u11 : Option R, ρ = [some (.v (.obj x.d)), some (.v p_count), some (.v (.str "abcdefghijklmnopqrstuvwxyz")), some (.o 0), some (.v (.lst [(.str "a"), (.str "b"), (.str "x"), (.str "xy"), (.str "not"), (.str "and"), (.str "or"), (.str "all"), (.str "any"), (.str "lacks"), (.str "most"), (.str "zzzzzzzz")])), u8, u9, u10, u11, none, none, none] ∧ om = [some s7]) hW ⟨_, _, _, _, rfl, rfl⟩ (fun d1 s3 ρ om n2 hW hR => ?_) (fun s4 ρ om hW hR => ?_)
  · obtain ⟨u12, u13, u14, u15, rfl, rfl⟩ := hR
    refine fN_link ?_
    refine wss_cons (ws_set (i := 6) sc_law_words.nd rfl (.inr rfl) ?_)
    refine we_call h_law_pick hr gd ?_
    refine wa_cons ?_
    refine we_name (i := 0) rfl (.inr (.inl rfl)) rfl ?_
    refine wa_cons ?_
    refine we_name (i := 4) rfl (.inl rfl) rfl ?_
    refine wa_nil ?_
    refine allV2 ?_
    refine to_law_pick hW fun d16 hW => ?_
    refine wss_cons (ws_ifJ (F := fun _ => True) (A := fun r21 => _) (B := fun r21 => _) (fun (s19 : D) ρ om => ∃ u20 : Option R, ρ = [some (.v (.obj x.d)), some (.v p_count), some (.v (.str "abcdefghijklmnopqrstuvwxyz")), some (.o 0), some (.v (.lst [(.str "a"), (.str "b"), (.str "x"), (.str "xy"), (.str "not"), (.str "and"), (.str "or"), (.str "all"), (.str "any"), (.str "lacks"), (.str "most"), (.str "zzzzzzzz")])), some (.v d1), some (.v s19), u14, u20, none, none, none] ∧ om = [some s3]) hW (fun k hW => ?_) (fun r21 hW => ?_) (fun r21 hW => ?_) (fun s22 ρ om hW hR => ?_))
    · refine wt_cmpU hu ?_
      refine we_callK h_law_take hr ?_
      refine wa_cons ?_
      refine we_name (i := 0) rfl (.inr (.inl rfl)) rfl ?_
      refine wa_cons ?_
      refine we_int ?_
      refine wa_nil ?_
      refine allV2 ?_
      refine take_link (x := x) hW fun d18 hW => ?_
      refine we_int ?_
      refine cmpU_imp hW fun t17 hW => ?_
      exact ⟨rfl, hW⟩
    · refine wss_cons (ws_set (i := 8) sc_law_words.nd rfl (.inl rfl) ?_)
      refine we_bin ?_
      refine we_int ?_
      refine we_callK h_law_take hr ?_
      refine wa_cons ?_
      refine we_name (i := 0) rfl (.inr (.inl rfl)) rfl ?_
      refine wa_cons ?_
      refine we_call h_law_pick hr gd ?_
      refine wa_cons ?_
      refine we_name (i := 0) rfl (.inr (.inl rfl)) rfl ?_
      refine wa_cons ?_
      refine we_lst ?_
      refine wa_cons ?_
      refine we_int ?_
      refine wa_cons ?_
      refine we_int ?_
      refine wa_cons ?_
      refine we_int ?_
      refine wa_nil ?_
      refine ⟨small_le (by show 3 ≤ 1000; decide), ?_⟩
      refine wa_nil ?_
      refine allV2 ?_
      refine to_law_pick hW fun d25 hW => ?_
      refine wa_nil ?_
      refine allV2 ?_
      refine take_link (x := x) hW fun d24 hW => ?_
      refine we_bin.binD_imp hW fun d23 hW => ?_
      refine wss_cons (ws_set (i := 6) sc_law_words.nd rfl (.inr rfl) ?_)
      refine we_joinU ?_
      refine we_lc rfl sc_law_words.nd rfl [("_law_j", 10)] (blkOk_by (N := N_law_words) (sc := defScope t_law_words) (by decide +kernel)) (fun _ _ _ _ _ => wg_name (i := 10) sc_law_words.nd rfl (.inl rfl)) (by decide) ?_
      refine wi_rangeU m_range ?_
      refine we_name (i := 8) rfl (.inl rfl) rfl ?_
      refine rngS_imp hW fun ds31 hW => ?_
      refine lc_link hW (fun d29 a27 n28 hW => ?_) (fun xs30 hW => ?_)
      · refine fN_link ?_
        refine fun s H C cl fp => ?_
        refine we_call h_law_pick hr gd ?_
        refine wa_cons ?_
        refine we_name (i := 0) rfl (.inr (.inl rfl)) rfl ?_
        refine wa_cons ?_
        refine we_name (i := 2) rfl (.inr (.inl rfl)) rfl ?_
        refine wa_nil ?_
        refine allV2 ?_
        refine to_law_pick hW fun d33 hW => ?_
        exact ⟨rfl, ⟨_, rfl⟩, hW⟩
      · refine joinF_imp hW fun d26 hW => ?_
        exact wss_nil ⟨_, ⟨_, rfl, rfl⟩, hW⟩
    · exact wss_nil ⟨_, ⟨_, rfl, rfl⟩, hW⟩
    · obtain ⟨u34, rfl, rfl⟩ := hR
      refine wss_cons (ws_set (i := 7) sc_law_words.nd rfl (.inl rfl) ?_)
      refine we_bin ?_
      refine we_lst ?_
      refine wa_cons ?_
      refine we_name (i := 6) rfl (.inr (.inl rfl)) rfl ?_
      refine wa_nil ?_
      refine ⟨small_le (by show 1 ≤ 1000; decide), ?_⟩
      refine we_lc rfl sc_law_words.nd rfl [("_law_letter", 9)] (blkOk_by (N := N_law_words) (sc := defScope t_law_words) (by decide +kernel)) (fun _ _ _ _ _ => wg_name (i := 9) sc_law_words.nd rfl (.inl rfl)) (by decide) ?_
      refine wi_seq ?_
      refine we_name (i := 2) rfl (.inr (.inl rfl)) rfl ?_
      refine walkV hW fun ds40 hW => ?_
      refine lc_link hW (fun d38 a36 n37 hW => ?_) (fun xs39 hW => ?_)
      · refine fN_link ?_
        refine fun s H C cl fp => ?_
        refine we_bin ?_
        refine we_sl ?_
        refine we_name (i := 6) rfl (.inr (.inl rfl)) rfl ?_
        refine wo_none ?_
        refine wo_some ?_
        refine we_int ?_
        refine intV ?_
        refine slD_imp hW fun d43 hW => ?_
        refine we_name (i := 9) rfl (.inl rfl) rfl ?_
        refine we_bin.binD_imp hW fun d42 hW => ?_
        exact ⟨rfl, ⟨_, rfl⟩, hW⟩
      · refine we_bin.binD_imp hW fun d35 hW => ?_
        refine wss_cons (ws_expr ?_)
        refine we_appS (i := 3) rfl (.inr (.inl rfl)) rfl rfl hW fun hW => ?_
        refine we_ixN hu ?_
        refine we_lcIf rfl sc_law_words.nd rfl [("_law_one", 11)] (blkOk_by (N := N_law_words) (sc := defScope t_law_words) (by decide +kernel)) (fun _ _ _ _ _ => wg_name (i := 11) sc_law_words.nd rfl (.inl rfl)) (by decide) ?_
        refine wi_seq ?_
        refine we_name (i := 7) rfl (.inl rfl) rfl ?_
        refine walkV hW fun ds50 hW => ?_
        refine lcIf_link hW (fun d48 a46 n47 hW => ?_) (fun xs49 hW => ?_)
        · refine fN_link ?_
          refine tst_link hW (fun k hW s H C cl fp => ?_) (fun hW => ?_) (fun hW => hW)
          · refine wt_cmpN hu ?_
            refine we_name (i := 11) rfl (.inl rfl) rfl ?_
            refine we_name (i := 3) rfl (.inr (.inl rfl)) rfl ?_
            refine cmpN_imp hW fun t51 hW => ?_
            exact ⟨rfl, hW⟩
          · refine fun s H C cl fp => ?_
            refine we_name (i := 11) rfl (.inl rfl) rfl ?_
            exact ⟨rfl, ⟨_, rfl⟩, hW⟩
        · refine we_int ?_
          refine ixN_imp hW fun d45 hW => ?_
          refine ⟨_, _, rfl, rfl, ?_⟩
          refine appS_imp hW fun l53 hW => ?_
          exact wss_nil ⟨_, ⟨_, _, _, _, rfl, rfl⟩, hW⟩
  · obtain ⟨u54, u55, u56, u57, rfl, rfl⟩ := hR
    refine wss_cons (ws_ret ?_)
    refine we_name (i := 3) rfl (.inr (.inl rfl)) rfl ?_
    exact ⟨_, rfl, hi _ hW⟩
abbrev N_law_frame : List Str := ["_law_draw", "_law_many", "_law_few", "_law_count", "_law_words_here", "_law_gone", "_law_word"]
theorem sc_law_frame : FnScope N_law_frame ["_law_draw", "_law_many", "_law_few"] (defScope t_law_frame) := ⟨rfl, rfl, rfl, by decide +kernel, rfl, by decide +kernel, by decide +kernel⟩
theorem ok_law_frame {f : Addr} {fd : FuncData} (F : FunA K "_law_frame" "_law_frame" t_law_frame f fd) (hcPw : c.P = P ∧ c.w = w) (h_law_take : HasK P w K mg base (some x) 2 "_law_take" ["_law_draw", "_law_many"] (W_take x)) (h_law_words : Has P w K mg base (some x) 6 "_law_words" ["_law_draw", "_law_count"] (W_law_words c x)) (m_min : mg "min" = none) : FnG P w K mg base CX0 8 f fd ["_law_draw", "_law_many", "_law_few"] (spD K (some x) (W_law_frame c x)) := by
  obtain ⟨rfl, rfl⟩ := hcPw
  refine fnD F sc_law_frame (fun ds Q h => by obtain ⟨_, _, rfl, _⟩ := h; rfl) fun cdv A outer s H E an ds post hr gd hW => ?_
  obtain ⟨p_many, p_few, rfl, K0, hW, hi⟩ := hW
  have hu := hu65 hr
  have hu1 := hu1_of hu
  have hu2 := hu66 hr
  refine wss_cons (ws_set (i := 3) sc_law_frame.nd rfl (.inl rfl) ?_)
  refine we_bin ?_
  refine we_int ?_
  refine we_callK h_law_take hr ?_
  refine wa_cons ?_
  refine we_name (i := 0) rfl (.inr (.inl rfl)) rfl ?_
  refine wa_cons ?_
  refine we_name (i := 1) rfl (.inl rfl) rfl ?_
  refine wa_nil ?_
  refine allV2 ?_
  refine take_link (x := x) hW fun d2 hW => ?_
  refine we_bin.binD_imp hW fun d1 hW => ?_
  refine wss_cons (ws_set (i := 4) sc_law_frame.nd rfl (.inl rfl) ?_)
  refine we_call h_law_words hr gd ?_
  refine wa_cons ?_
  refine we_name (i := 0) rfl (.inr (.inl rfl)) rfl ?_
  refine wa_cons ?_
  refine we_bin ?_
  refine we_name (i := 3) rfl (.inl rfl) rfl ?_
  refine we_callK h_law_take hr ?_
  refine wa_cons ?_
  refine we_name (i := 0) rfl (.inr (.inl rfl)) rfl ?_
  refine wa_cons ?_
  refine we_bin ?_
  refine we_blt (cb_min rfl) m_min PyProof.Rows.boot_min minF_mono ?_
  refine wa_cons ?_
  refine we_name (i := 2) rfl (.inl rfl) rfl ?_
  refine wa_cons ?_
  refine we_bin ?_
  refine we_int ?_
  refine we_name (i := 3) rfl (.inl rfl) rfl ?_
  refine we_bin.binD_imp hW fun d8 hW => ?_
  refine wa_nil ?_
  refine minF_mono _ _ _ (fun d7 hW => ?_) hW
  refine we_int ?_
  refine we_bin.binD_imp hW fun d6 hW => ?_
  refine wa_nil ?_
  refine allV2 ?_
  refine take_link (x := x) hW fun d5 hW => ?_
  refine we_bin.binD_imp hW fun d4 hW => ?_
  refine wa_nil ?_
  refine allV2 ?_
  refine to_law_words hW fun d3 hW => ?_
  refine wss_cons (ws_setLcIf (i := 5) rfl sc_law_frame.nd rfl rfl rfl [("_law_word", 6)] (blkOk_by (N := N_law_frame) (sc := defScope t_law_frame) (by decide +kernel)) (fun _ _ _ _ _ => wg_name (i := 6) sc_law_frame.nd rfl (.inl rfl)) (by decide) (sw_true rfl rfl rfl (by decide +kernel)) ?_)
  refine wi_seq ?_
  refine we_name (i := 4) rfl (.inl rfl) rfl ?_
  refine walkV hW fun ds13 hW => ?_
  refine lcIf_link hW (fun d11 a9 n10 hW => ?_) (fun xs12 hW => ?_)
  · refine fN_link ?_
    refine tst_link hW (fun k hW s H C cl fp => ?_) (fun hW => ?_) (fun hW => hW)
    · refine wt_cmpU hu ?_
      refine we_callK h_law_take hr ?_
      refine wa_cons ?_
      refine we_name (i := 0) rfl (.inr (.inl rfl)) rfl ?_
      refine wa_cons ?_
      refine we_int ?_
      refine wa_nil ?_
      refine allV2 ?_
      refine take_link (x := x) hW fun d15 hW => ?_
      refine we_int ?_
      refine cmpU_imp hW fun t14 hW => ?_
      exact ⟨rfl, hW⟩
    · refine fun s H C cl fp => ?_
      refine we_name (i := 6) rfl (.inl rfl) rfl ?_
      exact ⟨rfl, ⟨_, rfl⟩, hW⟩
  · refine wss_cons (ws_ret ?_)
    refine we_disp (ks := [_, _, _]) (vs := [_, _, _]) rfl (by simp) (by decide) ?_
    refine we_str ?_
    refine ⟨.inr "columns", rfl, ?_⟩
    refine we_sl ?_
    refine we_name (i := 4) rfl (.inl rfl) rfl ?_
    refine wo_none ?_
    refine wo_some ?_
    refine we_name (i := 3) rfl (.inl rfl) rfl ?_
    refine intS_link hW fun i18 hW => ?_
    refine slD_imp hW fun d17 hW => ?_
    refine ⟨_, rfl, ?_⟩
    refine we_str ?_
    refine ⟨.inr "open", rfl, ?_⟩
    refine we_sl ?_
    refine we_name (i := 4) rfl (.inl rfl) rfl ?_
    refine wo_some ?_
    refine we_name (i := 3) rfl (.inl rfl) rfl ?_
    refine intS_link hW fun i20 hW => ?_
    refine wo_none ?_
    refine slD_imp hW fun d19 hW => ?_
    refine ⟨_, rfl, ?_⟩
    refine we_str ?_
    refine ⟨.inr "gone", rfl, ?_⟩
    refine we_name (i := 5) rfl (.inl rfl) rfl ?_
    refine ⟨_, rfl, ?_⟩
    refine ⟨rfl, ?_⟩
    exact hi _ hW
abbrev N_law_are_names : List Str := ["_law_some", "_law_k", "_law_word", "_law_sign"]
theorem sc_law_are_names : FnScope N_law_are_names ["_law_some"] (defScope t_law_are_names) := ⟨rfl, rfl, rfl, by decide +kernel, rfl, by decide +kernel, by decide +kernel⟩
theorem ok_law_are_names {f : Addr} {fd : FuncData} (F : FunA K "_law_are_names" "_law_are_names" t_law_are_names f fd) (hcPw : c.P = P ∧ c.w = w) (m_isinstance : mg "isinstance" = none) (hI : InsN K c.Shape) (m_list : mg "list" = none) (m_tuple : mg "tuple" = none) (m_enumerate : mg "enumerate" = none) (m_str : mg "str" = none) (m_len : mg "len" = none) : FnG P w K mg base CX0 4 f fd ["_law_some"] (spD K dr (W_law_are_names c)) := by
  obtain ⟨rfl, rfl⟩ := hcPw
  refine fnD F sc_law_are_names (fun ds Q h => by obtain ⟨_, rfl, _⟩ := h; rfl) fun cdv A outer s H E an ds post hr gd hW => ?_
  obtain ⟨p_some, rfl, K0, hW, hi⟩ := hW
  have hu := hu65 hr
  have hu1 := hu1_of hu
  have hu2 := hu66 hr
  refine wss_cons (ws_ifS hW (fun k hW => ?_) (fun hW => ?_) (fun hW => ?_))
  · refine wt_not ?_
    refine wt_val ?_
    refine we_blt (cb_isiM hI) m_isinstance PyProof.Rows.boot_isinstance isiMF_mono ?_
    refine wa_cons ?_
    refine we_name (i := 0) rfl (.inl rfl) rfl ?_
    refine wa_cons ?_
    refine we_tup ?_
    refine wa_cons ?_
    refine we_ty m_list PyProof.Rows.boot_list ?_
    refine wa_cons ?_
    refine we_ty m_tuple PyProof.Rows.boot_tuple ?_
    refine wa_nil ?_
    refine ⟨small_le (by show 2 ≤ 1000; decide), ?_⟩
    refine wa_nil ?_
    refine isiMF_mono _ _ _ (fun d1 hW => ?_) hW
    refine blS_link hW fun t2 hW => ?_
    exact ⟨rfl, hW⟩
  · refine wss_cons (ws_ret ?_)
    refine we_bl ?_
    exact hi _ hW
  · refine wss_nil ?_
    refine wss_cons (ws_for PassesOwn.never rfl (wg_tup (n := 2) rfl (wgs_cons (wg_name (i := 1) sc_law_are_names.nd rfl (.inl rfl)) (wgs_cons (wg_name (i := 2) sc_law_are_names.nd rfl (.inl rfl)) (wgs_nil)))) ?_)
    refine wi_enumU m_enumerate ?_
    refine we_name (i := 0) rfl (.inl rfl) rfl ?_
    refine enumS_imp hW fun ds8 hW => ?_
    refine for_link (fun (s9 : Unit) ρ om => ∃ u10 u11 : Option R, ρ = [some (.v p_some), u10, u11, none] ∧ om = []) hW ⟨_, _, rfl, rfl⟩ (fun d3 s5 ρ om n4 hW hR => ?_) (fun s6 ρ om hW hR => ?_)
    · obtain ⟨u12, u13, rfl, rfl⟩ := hR
      refine unp2_link hW fun d14 d15 hW => ?_
      refine fN_link ?_
      refine fN_link ?_
      refine wss_cons (ws_ifS hW (fun k hW => ?_) (fun hW => ?_) (fun hW => ?_))
      · refine WW.wt ?_
        refine ww_or ?_
        refine wt_not ?_
        refine wt_val ?_
        refine we_blt (cb_isiM hI) m_isinstance PyProof.Rows.boot_isinstance isiMF_mono ?_
        refine wa_cons ?_
        refine we_name (i := 2) rfl (.inl rfl) rfl ?_
        refine wa_cons ?_
        refine we_ty m_str PyProof.Rows.boot_str ?_
        refine wa_nil ?_
        refine isiMF_mono _ _ _ (fun d16 hW => ?_) hW
        refine blS_link hW fun t17 hW => ?_
        refine ifE2 hW (fun hW => ?_) (fun hW => ?_)
        · exact ⟨rfl, hW⟩
        · refine ww_or ?_
          refine wt_not ?_
          refine wt_chain hu ?_
          refine we_int ?_
          refine we_blt cb_lenN m_len PySem.boot_len lenNF_mono ?_
          refine wa_cons ?_
          refine we_name (i := 2) rfl (.inl rfl) rfl ?_
          refine wa_nil ?_
          refine lenNF_mono _ _ _ (fun d20 hW => ?_) hW
          refine cmpD_imp hW fun t18 hW => ?_
          refine ifE2 hW (fun hW => ?_) (fun hW => ?_)
          · refine we_int ?_
            refine cmpD_imp hW fun t19 hW => ?_
            refine ifE2 hW (fun hW => ?_) (fun hW => ?_)
            · exact ⟨rfl, hW⟩
            · refine ww_or1 ?_
              refine wt_cmpN hu ?_
              refine we_name (i := 2) rfl (.inl rfl) rfl ?_
              refine we_sl ?_
              refine we_name (i := 0) rfl (.inl rfl) rfl ?_
              refine wo_none ?_
              refine wo_some ?_
              refine we_name (i := 1) rfl (.inl rfl) rfl ?_
              refine intS_link hW fun i23 hW => ?_
              refine slD_imp hW fun d22 hW => ?_
              refine cmpN_imp hW fun t21 hW => ?_
              exact ⟨rfl, hW⟩
          · refine ifE2 hW (fun hW => ?_) (fun hW => ?_)
            · exact ⟨rfl, hW⟩
            · refine ww_or1 ?_
              refine wt_cmpN hu ?_
              refine we_name (i := 2) rfl (.inl rfl) rfl ?_
              refine we_sl ?_
              refine we_name (i := 0) rfl (.inl rfl) rfl ?_
              refine wo_none ?_
              refine wo_some ?_
              refine we_name (i := 1) rfl (.inl rfl) rfl ?_
              refine intS_link hW fun i26 hW => ?_
              refine slD_imp hW fun d25 hW => ?_
              refine cmpN_imp hW fun t24 hW => ?_
              exact ⟨rfl, hW⟩
      · refine wss_cons (ws_ret ?_)
        refine we_bl ?_
        exact hi _ hW
      · refine wss_nil ?_
        refine wss_cons (ws_ifS hW (fun k hW => ?_) (fun hW => ?_) (fun hW => ?_))
        · refine wt_cmpU hu ?_
          refine we_lcIf rfl sc_law_are_names.nd rfl [("_law_sign", 3)] (blkOk_by (N := N_law_are_names) (sc := defScope t_law_are_names) (by decide +kernel)) (fun _ _ _ _ _ => wg_name (i := 3) sc_law_are_names.nd rfl (.inl rfl)) (by decide) ?_
          refine wi_seq ?_
          refine we_name (i := 2) rfl (.inl rfl) rfl ?_
          refine walkV hW fun ds32 hW => ?_
          refine lcIf_link hW (fun d30 a28 n29 hW => ?_) (fun xs31 hW => ?_)
          · refine fN_link ?_
            refine tst_link hW (fun k hW s H C cl fp => ?_) (fun hW => ?_) (fun hW => hW)
            · refine wt_cmpN hu ?_
              refine we_name (i := 3) rfl (.inl rfl) rfl ?_
              refine we_str ?_
              refine cmpN_imp hW fun t33 hW => ?_
              exact ⟨rfl, hW⟩
            · refine fun s H C cl fp => ?_
              refine we_name (i := 3) rfl (.inl rfl) rfl ?_
              exact ⟨rfl, ⟨_, rfl⟩, hW⟩
          · refine we_lst ?_
            refine wa_nil ?_
            refine ⟨small_le (by show 0 ≤ 1000; decide), ?_⟩
            refine cmpU_imp hW fun t27 hW => ?_
            exact ⟨rfl, hW⟩
        · refine wss_cons (ws_ret ?_)
          refine we_bl ?_
          exact hi _ hW
        · refine wss_nil ?_
          exact wss_nil ⟨_, ⟨_, _, rfl, rfl⟩, hW⟩
    · obtain ⟨u35, u36, rfl, rfl⟩ := hR
      refine wss_cons (ws_ret ?_)
      refine we_bl ?_
      exact hi _ hW
abbrev N_law_are_sides : List Str := ["_law_uno", "_law_duo", "_law_gone", "_law_every", "_law_word"]
theorem sc_law_are_sides : FnScope N_law_are_sides ["_law_uno", "_law_duo", "_law_gone"] (defScope t_law_are_sides) := ⟨rfl, rfl, rfl, by decide +kernel, rfl, by decide +kernel, by decide +kernel⟩
theorem ok_law_are_sides {f : Addr} {fd : FuncData} (F : FunA K "_law_are_sides" "_law_are_sides" t_law_are_sides f fd) (hcPw : c.P = P ∧ c.w = w) (h_law_are_names : Has P w K mg base dr 4 "_law_are_names" ["_law_some"] (W_law_are_names c)) (m_len : mg "len" = none) (m_list : mg "list" = none) : FnG P w K mg base CX0 6 f fd ["_law_uno", "_law_duo", "_law_gone"] (spD K dr (W_law_are_sides c)) := by
  obtain ⟨rfl, rfl⟩ := hcPw
  refine fnD F sc_law_are_sides (fun ds Q h => by obtain ⟨_, _, _, rfl, _⟩ := h; rfl) fun cdv A outer s H E an ds post hr gd hW => ?_
  obtain ⟨p_uno, p_duo, p_gone, rfl, K0, hW, hi⟩ := hW
  have hu := hu65 hr
  have hu1 := hu1_of hu
  have hu2 := hu66 hr
  refine wss_cons (ws_ifS hW (fun k hW => ?_) (fun hW => ?_) (fun hW => ?_))
  · refine WW.wt ?_
    refine ww_or ?_
    refine wt_not ?_
    refine wt_val ?_
    refine we_call h_law_are_names hr gd ?_
    refine wa_cons ?_
    refine we_name (i := 0) rfl (.inl rfl) rfl ?_
    refine wa_nil ?_
    refine allV1 ?_
    refine to_law_are_names hW fun d1 hW => ?_
    refine blS_link hW fun t2 hW => ?_
    refine ifE2 hW (fun hW => ?_) (fun hW => ?_)
    · exact ⟨rfl, hW⟩
    · refine ww_or ?_
      refine wt_not ?_
      refine wt_val ?_
      refine we_call h_law_are_names hr gd ?_
      refine wa_cons ?_
      refine we_name (i := 1) rfl (.inr (.inl rfl)) rfl ?_
      refine wa_nil ?_
      refine allV1 ?_
      refine to_law_are_names hW fun d3 hW => ?_
      refine blS_link hW fun t4 hW => ?_
      refine ifE2 hW (fun hW => ?_) (fun hW => ?_)
      · exact ⟨rfl, hW⟩
      · refine ww_or1 ?_
        refine wt_not ?_
        refine wt_val ?_
        refine we_call h_law_are_names hr gd ?_
        refine wa_cons ?_
        refine we_name (i := 2) rfl (.inl rfl) rfl ?_
        refine wa_nil ?_
        refine allV1 ?_
        refine to_law_are_names hW fun d5 hW => ?_
        refine blS_link hW fun t6 hW => ?_
        exact ⟨rfl, hW⟩
  · refine wss_cons (ws_ret ?_)
    refine we_bl ?_
    exact hi _ hW
  · refine wss_nil ?_
    refine wss_cons (ws_ifS hW (fun k hW => ?_) (fun hW => ?_) (fun hW => ?_))
    · refine WW.wt ?_
      refine ww_or ?_
      refine wt_not ?_
      refine wt_chain hu ?_
      refine we_int ?_
      refine we_blt cb_lenN m_len PySem.boot_len lenNF_mono ?_
      refine wa_cons ?_
      refine we_name (i := 0) rfl (.inl rfl) rfl ?_
      refine wa_nil ?_
      refine lenNF_mono _ _ _ (fun d9 hW => ?_) hW
      refine cmpD_imp hW fun t7 hW => ?_
      refine ifE2 hW (fun hW => ?_) (fun hW => ?_)
      · refine we_int ?_
        refine cmpD_imp hW fun t8 hW => ?_
        refine ifE2 hW (fun hW => ?_) (fun hW => ?_)
        · exact ⟨rfl, hW⟩
        · refine ww_or ?_
          refine wt_cmpU hu ?_
          refine we_blt cb_lenN m_len PySem.boot_len lenNF_mono ?_
          refine wa_cons ?_
          refine we_name (i := 1) rfl (.inr (.inl rfl)) rfl ?_
          refine wa_nil ?_
          refine lenNF_mono _ _ _ (fun d11 hW => ?_) hW
          refine we_int ?_
          refine cmpU_imp hW fun t10 hW => ?_
          refine ifE2 hW (fun hW => ?_) (fun hW => ?_)
          · exact ⟨rfl, hW⟩
          · refine ww_or1 ?_
            refine wt_cmpU hu ?_
            refine we_bin ?_
            refine we_blt cb_lenN m_len PySem.boot_len lenNF_mono ?_
            refine wa_cons ?_
            refine we_name (i := 0) rfl (.inl rfl) rfl ?_
            refine wa_nil ?_
            refine lenNF_mono _ _ _ (fun d14 hW => ?_) hW
            refine we_blt cb_lenN m_len PySem.boot_len lenNF_mono ?_
            refine wa_cons ?_
            refine we_name (i := 1) rfl (.inr (.inl rfl)) rfl ?_
            refine wa_nil ?_
            refine lenNF_mono _ _ _ (fun d15 hW => ?_) hW
            refine we_bin.binD_imp hW fun d13 hW => ?_
            refine we_int ?_
            refine cmpU_imp hW fun t12 hW => ?_
            exact ⟨rfl, hW⟩
      · refine ifE2 hW (fun hW => ?_) (fun hW => ?_)
        · exact ⟨rfl, hW⟩
        · refine ww_or ?_
          refine wt_cmpU hu ?_
          refine we_blt cb_lenN m_len PySem.boot_len lenNF_mono ?_
          refine wa_cons ?_
          refine we_name (i := 1) rfl (.inr (.inl rfl)) rfl ?_
          refine wa_nil ?_
          refine lenNF_mono _ _ _ (fun d17 hW => ?_) hW
          refine we_int ?_
          refine cmpU_imp hW fun t16 hW => ?_
          refine ifE2 hW (fun hW => ?_) (fun hW => ?_)
          · exact ⟨rfl, hW⟩
          · refine ww_or1 ?_
            refine wt_cmpU hu ?_
            refine we_bin ?_
            refine we_blt cb_lenN m_len PySem.boot_len lenNF_mono ?_
            refine wa_cons ?_
            refine we_name (i := 0) rfl (.inl rfl) rfl ?_
            refine wa_nil ?_
            refine lenNF_mono _ _ _ (fun d20 hW => ?_) hW
            refine we_blt cb_lenN m_len PySem.boot_len lenNF_mono ?_
            refine wa_cons ?_
            refine we_name (i := 1) rfl (.inr (.inl rfl)) rfl ?_
            refine wa_nil ?_
            refine lenNF_mono _ _ _ (fun d21 hW => ?_) hW
            refine we_bin.binD_imp hW fun d19 hW => ?_
            refine we_int ?_
            refine cmpU_imp hW fun t18 hW => ?_
            exact ⟨rfl, hW⟩
    · refine wss_cons (ws_ret ?_)
      refine we_bl ?_
      exact hi _ hW
    · refine wss_nil ?_
      refine wss_cons (ws_set (i := 3) sc_law_are_sides.nd rfl (.inr rfl) ?_)
      refine we_bin ?_
      refine we_bty (cb_listN rfl) m_list PyProof.Rows.boot_list listNF_mono ?_
      refine wa_cons ?_
      refine we_name (i := 0) rfl (.inl rfl) rfl ?_
      refine wa_nil ?_
      refine listNF_mono _ _ _ (fun d23 hW => ?_) hW
      refine we_bty (cb_listN rfl) m_list PyProof.Rows.boot_list listNF_mono ?_
      refine wa_cons ?_
      refine we_name (i := 1) rfl (.inr (.inl rfl)) rfl ?_
      refine wa_nil ?_
      refine listNF_mono _ _ _ (fun d24 hW => ?_) hW
      refine we_bin.binD_imp hW fun d22 hW => ?_
      refine wss_cons (ws_ret ?_)
      refine we_and ?_
      refine we_cmpU hu ?_
      refine we_lcIf rfl sc_law_are_sides.nd rfl [("_law_word", 4)] (blkOk_by (N := N_law_are_sides) (sc := defScope t_law_are_sides) (by decide +kernel)) (fun _ _ _ _ _ => wg_name (i := 4) sc_law_are_sides.nd rfl (.inl rfl)) (by decide) ?_
      refine wi_seq ?_
      refine we_name (i := 0) rfl (.inl rfl) rfl ?_
      refine walkV hW fun ds30 hW => ?_
      refine lcIf_link hW (fun d28 a26 n27 hW => ?_) (fun xs29 hW => ?_)
      · refine fN_link ?_
        refine tst_link hW (fun k hW s H C cl fp => ?_) (fun hW => ?_) (fun hW => hW)
        · refine wt_cmpN hu ?_
          refine we_name (i := 4) rfl (.inl rfl) rfl ?_
          refine we_name (i := 1) rfl (.inr (.inl rfl)) rfl ?_
          refine cmpN_imp hW fun t31 hW => ?_
          exact ⟨rfl, hW⟩
        · refine fun s H C cl fp => ?_
          refine we_name (i := 4) rfl (.inl rfl) rfl ?_
          exact ⟨rfl, ⟨_, rfl⟩, hW⟩
      · refine we_lst ?_
        refine wa_nil ?_
        refine ⟨small_le (by show 0 ≤ 1000; decide), ?_⟩
        refine cmpU_imp hW fun t25 hW => ?_
        refine blS_link hW fun t33 hW => ?_
        refine ifE2 hW (fun hW => ?_) (fun hW => ?_)
        · refine we_and1 ?_
          refine we_cmpU hu ?_
          refine we_lcIf rfl sc_law_are_sides.nd rfl [("_law_word", 4)] (blkOk_by (N := N_law_are_sides) (sc := defScope t_law_are_sides) (by decide +kernel)) (fun _ _ _ _ _ => wg_name (i := 4) sc_law_are_sides.nd rfl (.inl rfl)) (by decide) ?_
          refine wi_seq ?_
          refine we_name (i := 2) rfl (.inl rfl) rfl ?_
          refine walkV hW fun ds39 hW => ?_
          refine lcIf_link hW (fun d37 a35 n36 hW => ?_) (fun xs38 hW => ?_)
          · refine fN_link ?_
            refine tst_link hW (fun k hW s H C cl fp => ?_) (fun hW => ?_) (fun hW => hW)
            · refine wt_cmpN hu ?_
              refine we_name (i := 4) rfl (.inl rfl) rfl ?_
              refine we_name (i := 3) rfl (.inr (.inl rfl)) rfl ?_
              refine cmpN_imp hW fun t40 hW => ?_
              exact ⟨rfl, hW⟩
            · refine fun s H C cl fp => ?_
              refine we_name (i := 4) rfl (.inl rfl) rfl ?_
              exact ⟨rfl, ⟨_, rfl⟩, hW⟩
          · refine we_lst ?_
            refine wa_nil ?_
            refine ⟨small_le (by show 0 ≤ 1000; decide), ?_⟩
            refine cmpU_imp hW fun t34 hW => ?_
            exact hi _ hW
        · exact hi _ hW
abbrev N_law_bent_lists : List Str := ["_law_draw", "_law_three", "_law_at", "_law_found", "_law_some", "_law_way", "_law_every", "_law_spare", "_law_odd", "_law_place", "_law_line", "_law_letter"]
theorem sc_law_bent_lists : FnScope N_law_bent_lists ["_law_draw", "_law_three"] (defScope t_law_bent_lists) := ⟨rfl, rfl, rfl, by decide +kernel, rfl, by decide +kernel, by decide +kernel⟩
theorem ok_law_bent_lists {f : Addr} {fd : FuncData} (F : FunA K "_law_bent_lists" "_law_bent_lists" t_law_bent_lists f fd) (hcPw : c.P = P ∧ c.w = w) (h_law_take : HasK P w K mg base (some x) 2 "_law_take" ["_law_draw", "_law_many"] (W_take x)) (m_list : mg "list" = none) (m_isinstance : mg "isinstance" = none) (hI : InsN K c.Shape) (m_tuple : mg "tuple" = none) (m_len : mg "len" = none) (h_law_pick : Has P w K mg base (some x) 4 "_law_pick" ["_law_draw", "_law_some"] (W_law_pick c x)) : FnG P w K mg base CX0 6 f fd ["_law_draw", "_law_three"] (spD K (some x) (W_law_bent_lists c x)) := by
  obtain ⟨rfl, rfl⟩ := hcPw
  refine fnD F sc_law_bent_lists (fun ds Q h => by obtain ⟨_, rfl, _⟩ := h; rfl) fun cdv A outer s H E an ds post hr gd hW => ?_
  obtain ⟨p_three, rfl, K0, hW, hi⟩ := hW
  have hu := hu65 hr
  have hu1 := hu1_of hu
  have hu2 := hu66 hr
  refine wss_cons (ws_par (i := 2) (j := 3) rfl sc_law_bent_lists.nd rfl rfl (by decide) rfl rfl ?_)
  refine wa_cons ?_
  refine we_callK h_law_take hr ?_
  refine wa_cons ?_
  refine we_name (i := 0) rfl (.inl rfl) rfl ?_
  refine wa_cons ?_
  refine we_int ?_
  refine wa_nil ?_
  refine allV2 ?_
  refine take_link (x := x) hW fun d1 hW => ?_
  refine wa_cons ?_
  refine we_listO m_list ?_
  refine we_name (i := 1) rfl (.inl rfl) rfl ?_
  obtain ⟨l2, el2, hW⟩ := seqS_inv hW
  refine ⟨l2, el2, ?_⟩
  refine wa_nil ?_
  refine ⟨_, _, rfl, ?_⟩
  refine wss_cons (ws_par (i := 4) (j := 5) rfl sc_law_bent_lists.nd rfl rfl (by decide) rfl rfl ?_)
  refine wa_cons ?_
  refine we_ixN hu ?_
  refine we_name (i := 3) rfl (.inl rfl) rfl ?_
  refine we_name (i := 2) rfl (.inl rfl) rfl ?_
  refine ixN_imp hW fun d3 hW => ?_
  refine wa_cons ?_
  refine we_callK h_law_take hr ?_
  refine wa_cons ?_
  refine we_name (i := 0) rfl (.inl rfl) rfl ?_
  refine wa_cons ?_
  refine we_int ?_
  refine wa_nil ?_
  refine allV2 ?_
  refine take_link (x := x) hW fun d4 hW => ?_
  refine wa_nil ?_
  refine ⟨_, _, rfl, ?_⟩
  refine wss_cons (ws_setLcIf (i := 6) rfl sc_law_bent_lists.nd rfl rfl rfl [("_law_line", 10)] (blkOk_by (N := N_law_bent_lists) (sc := defScope t_law_bent_lists) (by decide +kernel)) (fun _ _ _ _ _ => wg_name (i := 10) sc_law_bent_lists.nd rfl (.inl rfl)) (by decide) (sw_true rfl rfl rfl (by decide +kernel)) ?_)
  refine wi_seq ?_
  refine we_name (i := 1) rfl (.inl rfl) rfl ?_
  refine walkV hW fun ds9 hW => ?_
  refine lcIf_link hW (fun d7 a5 n6 hW => ?_) (fun xs8 hW => ?_)
  · refine fN_link ?_
    refine tst_link hW (fun k hW s H C cl fp => ?_) (fun hW => ?_) (fun hW => hW)
    · refine wt_val ?_
      refine we_blt (cb_isiM hI) m_isinstance PyProof.Rows.boot_isinstance isiMF_mono ?_
      refine wa_cons ?_
      refine we_name (i := 10) rfl (.inl rfl) rfl ?_
      refine wa_cons ?_
      refine we_tup ?_
      refine wa_cons ?_
      refine we_ty m_list PyProof.Rows.boot_list ?_
      refine wa_cons ?_
      refine we_ty m_tuple PyProof.Rows.boot_tuple ?_
      refine wa_nil ?_
      refine ⟨small_le (by show 2 ≤ 1000; decide), ?_⟩
      refine wa_nil ?_
      refine isiMF_mono _ _ _ (fun d10 hW => ?_) hW
      refine blS_link hW fun t11 hW => ?_
      exact ⟨rfl, hW⟩
    · refine fun s H C cl fp => ?_
      refine we_name (i := 10) rfl (.inl rfl) rfl ?_
      exact ⟨rfl, ⟨_, rfl⟩, hW⟩
  · refine wss_cons (ws_ifS hW (fun k hW => ?_) (fun hW => ?_) (fun hW => ?_))
    · refine wt_not ?_
      refine wt_val ?_
      refine we_blt (cb_isiM hI) m_isinstance PyProof.Rows.boot_isinstance isiMF_mono ?_
      refine wa_cons ?_
      refine we_name (i := 4) rfl (.inl rfl) rfl ?_
      refine wa_cons ?_
      refine we_ty m_list PyProof.Rows.boot_list ?_
      refine wa_nil ?_
      refine isiMF_mono _ _ _ (fun d13 hW => ?_) hW
      refine blS_link hW fun t14 hW => ?_
      exact ⟨rfl, hW⟩
    · refine wss_cons (ws_ret ?_)
      refine we_name (i := 3) rfl (.inl rfl) rfl ?_
      exact ⟨_, rfl, hi _ hW⟩
    · refine wss_nil ?_
      refine wss_cons (ws_setLcIf (i := 7) rfl sc_law_bent_lists.nd rfl rfl rfl [("_law_line", 10)] (blkOk_by (N := N_law_bent_lists) (sc := defScope t_law_bent_lists) (by decide +kernel)) (fun _ _ _ _ _ => wg_name (i := 10) sc_law_bent_lists.nd rfl (.inl rfl)) (by decide) (sw_true rfl rfl rfl (by decide +kernel)) ?_)
      refine wi_seq ?_
      refine we_name (i := 6) rfl (.inl rfl) rfl ?_
      refine walkV hW fun ds19 hW => ?_
      refine lcIf_link hW (fun d17 a15 n16 hW => ?_) (fun xs18 hW => ?_)
      · refine fN_link ?_
        refine tst_link hW (fun k hW s H C cl fp => ?_) (fun hW => ?_) (fun hW => hW)
        · refine wt_cmpU hu ?_
          refine we_blt cb_lenN m_len PySem.boot_len lenNF_mono ?_
          refine wa_cons ?_
          refine we_name (i := 10) rfl (.inl rfl) rfl ?_
          refine wa_nil ?_
          refine lenNF_mono _ _ _ (fun d21 hW => ?_) hW
          refine we_int ?_
          refine cmpU_imp hW fun t20 hW => ?_
          exact ⟨rfl, hW⟩
        · refine fun s H C cl fp => ?_
          refine we_sl ?_
          refine we_name (i := 10) rfl (.inl rfl) rfl ?_
          refine wo_none ?_
          refine wo_some ?_
          refine we_int ?_
          refine intV ?_
          refine slD_imp hW fun d23 hW => ?_
          exact ⟨rfl, ⟨_, rfl⟩, hW⟩
      · refine wss_cons (ws_set (i := 8) sc_law_bent_lists.nd rfl (.inl rfl) ?_)
        refine we_call h_law_pick hr gd ?_
        refine wa_cons ?_
        refine we_name (i := 0) rfl (.inl rfl) rfl ?_
        refine wa_cons ?_
        refine we_lst ?_
        refine wa_cons ?_
        refine we_non ?_
        refine wa_cons ?_
        refine we_int ?_
        refine wa_cons ?_
        refine we_str ?_
        refine wa_cons ?_
        refine we_str ?_
        refine wa_cons ?_
        refine we_str ?_
        refine wa_cons ?_
        refine we_str ?_
        refine wa_cons ?_
        refine we_str ?_
        refine wa_cons ?_
        refine we_bl ?_
        refine wa_cons ?_
        refine we_lst ?_
        refine wa_nil ?_
        refine ⟨small_le (by show 0 ≤ 1000; decide), ?_⟩
        refine wa_cons ?_
        refine we_str ?_
        refine wa_cons ?_
        refine we_str ?_
        refine wa_nil ?_
        refine ⟨small_le (by show 11 ≤ 1000; decide), ?_⟩
        refine wa_nil ?_
        refine allV2 ?_
        refine to_law_pick hW fun d24 hW => ?_
        refine wss_cons (ws_set (i := 9) sc_law_bent_lists.nd rfl (.inl rfl) ?_)
        refine we_callK h_law_take hr ?_
        refine wa_cons ?_
        refine we_name (i := 0) rfl (.inl rfl) rfl ?_
        refine wa_cons ?_
        refine we_bin ?_
        refine we_blt cb_lenN m_len PySem.boot_len lenNF_mono ?_
        refine wa_cons ?_
        refine we_name (i := 4) rfl (.inl rfl) rfl ?_
        refine wa_nil ?_
        refine lenNF_mono _ _ _ (fun d27 hW => ?_) hW
        refine we_int ?_
        refine we_bin.binD_imp hW fun d26 hW => ?_
        refine wa_nil ?_
        refine allV2 ?_
        refine take_link (x := x) hW fun d25 hW => ?_
        refine wss_cons (ws_ifJ (F := fun _ => True) (A := fun r30 => _) (B := fun r30 => _) (fun (s29 : D) ρ om => ρ = [some (.v (.obj x.d)), some (.v p_three), some (.v d1), some (.o 0), some (.v d3), some (.v d4), some (.v (.lst xs8)), some (.v (.lst xs18)), some (.v d24), some (.v d25), none, none] ∧ om = [some s29]) hW (fun k hW => ?_) (fun r30 hW => ?_) (fun r30 hW => ?_) (fun s31 ρ om hW hR => ?_))
        · refine wt_cmpU hu ?_
          refine we_name (i := 5) rfl (.inl rfl) rfl ?_
          refine we_int ?_
          refine cmpU_imp hW fun t28 hW => ?_
          exact ⟨rfl, hW⟩
        · refine wss_cons (ws_lputS (i := 3) (k := 0) rfl (.inl rfl) rfl ?_)
          refine we_bin ?_
          refine we_bin ?_
          refine we_sl ?_
          refine we_name (i := 4) rfl (.inl rfl) rfl ?_
          refine wo_none ?_
          refine wo_some ?_
          refine we_name (i := 9) rfl (.inl rfl) rfl ?_
          refine intS_link hW fun i35 hW => ?_
          refine slD_imp hW fun d34 hW => ?_
          refine we_lst ?_
          refine wa_cons ?_
          refine we_name (i := 8) rfl (.inl rfl) rfl ?_
          refine wa_nil ?_
          refine ⟨small_le (by show 1 ≤ 1000; decide), ?_⟩
          refine we_bin.binD_imp hW fun d33 hW => ?_
          refine we_sl ?_
          refine we_name (i := 4) rfl (.inl rfl) rfl ?_
          refine wo_some ?_
          refine we_name (i := 9) rfl (.inl rfl) rfl ?_
          refine intS_link hW fun i37 hW => ?_
          refine wo_none ?_
          refine slD_imp hW fun d36 hW => ?_
          refine we_bin.binD_imp hW fun d32 hW => ?_
          refine ⟨_, rfl, ?_⟩
          refine we_name (i := 2) rfl (.inl rfl) rfl ?_
          refine ⟨_, _, rfl, rfl, ?_⟩
          refine lputS_imp hW fun l38 hW => ?_
          exact wss_nil ⟨_, ⟨rfl, rfl⟩, hW⟩
        · refine wss_cons (ws_ifJ (F := fun _ => True) (A := fun r41 => _) (B := fun r41 => _) (fun (s40 : D) ρ om => ρ = [some (.v (.obj x.d)), some (.v p_three), some (.v d1), some (.o 0), some (.v d3), some (.v d4), some (.v (.lst xs8)), some (.v (.lst xs18)), some (.v d24), some (.v d25), none, none] ∧ om = [some s40]) hW (fun k hW => ?_) (fun r41 hW => ?_) (fun r41 hW => ?_) (fun s42 ρ om hW hR => ?_))
          · refine wt_cmpU hu ?_
            refine we_name (i := 5) rfl (.inl rfl) rfl ?_
            refine we_int ?_
            refine cmpU_imp hW fun t39 hW => ?_
            exact ⟨rfl, hW⟩
          · refine wss_cons (ws_lputS (i := 3) (k := 0) rfl (.inl rfl) rfl ?_)
            refine we_bin ?_
            refine we_name (i := 4) rfl (.inl rfl) rfl ?_
            refine we_sl ?_
            refine we_name (i := 4) rfl (.inl rfl) rfl ?_
            refine wo_some ?_
            refine we_name (i := 9) rfl (.inl rfl) rfl ?_
            refine intS_link hW fun i45 hW => ?_
            refine wo_some ?_
            refine we_bin ?_
            refine we_name (i := 9) rfl (.inl rfl) rfl ?_
            refine we_int ?_
            refine we_bin.binD_imp hW fun d46 hW => ?_
            refine intS_link hW fun i47 hW => ?_
            refine slD_imp hW fun d44 hW => ?_
            refine we_bin.binD_imp hW fun d43 hW => ?_
            refine ⟨_, rfl, ?_⟩
            refine we_name (i := 2) rfl (.inl rfl) rfl ?_
            refine ⟨_, _, rfl, rfl, ?_⟩
            refine lputS_imp hW fun l48 hW => ?_
            exact wss_nil ⟨_, ⟨rfl, rfl⟩, hW⟩
          · refine wss_cons (ws_ifJ (F := fun _ => True) (A := fun r51 => _) (B := fun r51 => _) (fun (s50 : D) ρ om => ρ = [some (.v (.obj x.d)), some (.v p_three), some (.v d1), some (.o 0), some (.v d3), some (.v d4), some (.v (.lst xs8)), some (.v (.lst xs18)), some (.v d24), some (.v d25), none, none] ∧ om = [some s50]) hW (fun k hW => ?_) (fun r51 hW => ?_) (fun r51 hW => ?_) (fun s52 ρ om hW hR => ?_))
            · refine wt_cmpU hu ?_
              refine we_name (i := 5) rfl (.inl rfl) rfl ?_
              refine we_int ?_
              refine cmpU_imp hW fun t49 hW => ?_
              exact ⟨rfl, hW⟩
            · refine wss_cons (ws_lputS (i := 3) (k := 0) rfl (.inl rfl) rfl ?_)
              refine we_bin ?_
              refine we_name (i := 4) rfl (.inl rfl) rfl ?_
              refine we_lc rfl sc_law_bent_lists.nd rfl [("_law_letter", 11)] (blkOk_by (N := N_law_bent_lists) (sc := defScope t_law_bent_lists) (by decide +kernel)) (fun _ _ _ _ _ => wg_name (i := 11) sc_law_bent_lists.nd rfl (.inl rfl)) (by decide) ?_
              refine wi_seq ?_
              refine we_sl ?_
              refine we_str ?_
              refine wo_none ?_
              refine wo_some ?_
              refine we_bin ?_
              refine we_int ?_
              refine we_callK h_law_take hr ?_
              refine wa_cons ?_
              refine we_name (i := 0) rfl (.inl rfl) rfl ?_
              refine wa_cons ?_
              refine we_int ?_
              refine wa_nil ?_
              refine allV2 ?_
              refine take_link (x := x) hW fun d61 hW => ?_
              refine we_bin.binD_imp hW fun d60 hW => ?_
              refine intS_link hW fun i62 hW => ?_
              refine slD_imp hW fun d59 hW => ?_
              refine walkV hW fun ds58 hW => ?_
              refine lc_link hW (fun d56 a54 n55 hW => ?_) (fun xs57 hW => ?_)
              · refine fN_link ?_
                refine fun s H C cl fp => ?_
                refine we_bin ?_
                refine we_str ?_
                refine we_name (i := 11) rfl (.inl rfl) rfl ?_
                refine we_bin.binD_imp hW fun d64 hW => ?_
                exact ⟨rfl, ⟨_, rfl⟩, hW⟩
              · refine we_bin.binD_imp hW fun d53 hW => ?_
                refine ⟨_, rfl, ?_⟩
                refine we_name (i := 2) rfl (.inl rfl) rfl ?_
                refine ⟨_, _, rfl, rfl, ?_⟩
                refine lputS_imp hW fun l65 hW => ?_
                exact wss_nil ⟨_, ⟨rfl, rfl⟩, hW⟩
            · refine wss_cons (ws_ifJ (F := fun _ => True) (A := fun r68 => _) (B := fun r68 => _) (fun (s67 : D) ρ om => ρ = [some (.v (.obj x.d)), some (.v p_three), some (.v d1), some (.o 0), some (.v d3), some (.v d4), some (.v (.lst xs8)), some (.v (.lst xs18)), some (.v d24), some (.v d25), none, none] ∧ om = [some s67]) hW (fun k hW => ?_) (fun r68 hW => ?_) (fun r68 hW => ?_) (fun s69 ρ om hW hR => ?_))
              · refine wt_cmpU hu ?_
                refine we_name (i := 5) rfl (.inl rfl) rfl ?_
                refine we_int ?_
                refine cmpU_imp hW fun t66 hW => ?_
                exact ⟨rfl, hW⟩
              · refine wss_cons (ws_lputS (i := 3) (k := 0) rfl (.inl rfl) rfl ?_)
                refine we_bin ?_
                refine we_sl ?_
                refine we_name (i := 4) rfl (.inl rfl) rfl ?_
                refine wo_none ?_
                refine wo_some ?_
                refine we_name (i := 9) rfl (.inl rfl) rfl ?_
                refine intS_link hW fun i72 hW => ?_
                refine slD_imp hW fun d71 hW => ?_
                refine we_sl ?_
                refine we_name (i := 4) rfl (.inl rfl) rfl ?_
                refine wo_some ?_
                refine we_bin ?_
                refine we_name (i := 9) rfl (.inl rfl) rfl ?_
                refine we_int ?_
                refine we_bin.binD_imp hW fun d74 hW => ?_
                refine intS_link hW fun i75 hW => ?_
                refine wo_none ?_
                refine slD_imp hW fun d73 hW => ?_
                refine we_bin.binD_imp hW fun d70 hW => ?_
                refine ⟨_, rfl, ?_⟩
                refine we_name (i := 2) rfl (.inl rfl) rfl ?_
                refine ⟨_, _, rfl, rfl, ?_⟩
                refine lputS_imp hW fun l76 hW => ?_
                exact wss_nil ⟨_, ⟨rfl, rfl⟩, hW⟩
              · refine wss_cons (ws_ifJ (F := fun _ => True) (A := fun r80 => _) (B := fun r80 => _) (fun (s79 : D) ρ om => ρ = [some (.v (.obj x.d)), some (.v p_three), some (.v d1), some (.o 0), some (.v d3), some (.v d4), some (.v (.lst xs8)), some (.v (.lst xs18)), some (.v d24), some (.v d25), none, none] ∧ om = [some s79]) hW (fun k hW => ?_) (fun r80 hW => ?_) (fun r80 hW => ?_) (fun s81 ρ om hW hR => ?_))
                · refine WW.wt ?_
                  refine ww_and ?_
                  refine wt_cmpU hu ?_
                  refine we_name (i := 5) rfl (.inl rfl) rfl ?_
                  refine we_int ?_
                  refine cmpU_imp hW fun t77 hW => ?_
                  refine ifE2 hW (fun hW => ?_) (fun hW => ?_)
                  · refine ww_and1 ?_
                    refine wt_cmpU hu ?_
                    refine we_name (i := 7) rfl (.inl rfl) rfl ?_
                    refine we_lst ?_
                    refine wa_nil ?_
                    refine ⟨small_le (by show 0 ≤ 1000; decide), ?_⟩
                    refine cmpU_imp hW fun t78 hW => ?_
                    exact ⟨rfl, hW⟩
                  · exact ⟨rfl, hW⟩
                · refine wss_cons (ws_lputS (i := 3) (k := 0) rfl (.inl rfl) rfl ?_)
                  refine we_bin ?_
                  refine we_name (i := 4) rfl (.inl rfl) rfl ?_
                  refine we_bty (cb_listN rfl) m_list PyProof.Rows.boot_list listNF_mono ?_
                  refine wa_cons ?_
                  refine we_call h_law_pick hr gd ?_
                  refine wa_cons ?_
                  refine we_name (i := 0) rfl (.inl rfl) rfl ?_
                  refine wa_cons ?_
                  refine we_name (i := 7) rfl (.inl rfl) rfl ?_
                  refine wa_nil ?_
                  refine allV2 ?_
                  refine to_law_pick hW fun d84 hW => ?_
                  refine wa_nil ?_
                  refine listNF_mono _ _ _ (fun d83 hW => ?_) hW
                  refine we_bin.binD_imp hW fun d82 hW => ?_
                  refine ⟨_, rfl, ?_⟩
                  refine we_name (i := 2) rfl (.inl rfl) rfl ?_
                  refine ⟨_, _, rfl, rfl, ?_⟩
                  refine lputS_imp hW fun l85 hW => ?_
                  exact wss_nil ⟨_, ⟨rfl, rfl⟩, hW⟩
                · refine wss_cons (ws_lputS (i := 3) (k := 0) rfl (.inl rfl) rfl ?_)
                  refine we_call h_law_pick hr gd ?_
                  refine wa_cons ?_
                  refine we_name (i := 0) rfl (.inl rfl) rfl ?_
                  refine wa_cons ?_
                  refine we_lst ?_
                  refine wa_cons ?_
                  refine we_non ?_
                  refine wa_cons ?_
                  refine we_int ?_
                  refine wa_cons ?_
                  refine we_str ?_
                  refine wa_cons ?_
                  refine we_dic0 ?_
                  refine wa_cons ?_
                  refine we_bl ?_
                  refine wa_cons ?_
                  refine we_tup ?_
                  refine wa_nil ?_
                  refine ⟨small_le (by show 0 ≤ 1000; decide), ?_⟩
                  refine wa_cons ?_
                  refine we_bty cb_tup m_tuple PyProof.Rows.boot_tuple tupF_mono ?_
                  refine wa_cons ?_
                  refine we_name (i := 4) rfl (.inl rfl) rfl ?_
                  refine wa_nil ?_
                  refine tupF_mono _ _ _ (fun d87 hW => ?_) hW
                  refine wa_cons ?_
                  refine we_bty cb_tup m_tuple PyProof.Rows.boot_tuple tupF_mono ?_
                  refine wa_cons ?_
                  refine we_name (i := 4) rfl (.inl rfl) rfl ?_
                  refine wa_nil ?_
                  refine tupF_mono _ _ _ (fun d88 hW => ?_) hW
                  refine wa_nil ?_
                  refine ⟨small_le (by show 8 ≤ 1000; decide), ?_⟩
                  refine wa_nil ?_
                  refine allV2 ?_
                  refine to_law_pick hW fun d86 hW => ?_
                  refine ⟨_, rfl, ?_⟩
                  refine we_name (i := 2) rfl (.inl rfl) rfl ?_
                  refine ⟨_, _, rfl, rfl, ?_⟩
                  refine lputS_imp hW fun l89 hW => ?_
                  exact wss_nil ⟨_, ⟨rfl, rfl⟩, hW⟩
                · obtain ⟨rfl, rfl⟩ := hR
                  exact wss_nil ⟨_, ⟨rfl, rfl⟩, hW⟩
              · obtain ⟨rfl, rfl⟩ := hR
                exact wss_nil ⟨_, ⟨rfl, rfl⟩, hW⟩
            · obtain ⟨rfl, rfl⟩ := hR
              exact wss_nil ⟨_, ⟨rfl, rfl⟩, hW⟩
          · obtain ⟨rfl, rfl⟩ := hR
            exact wss_nil ⟨_, ⟨rfl, rfl⟩, hW⟩
        · obtain ⟨rfl, rfl⟩ := hR
          refine wss_cons (ws_ret ?_)
          refine we_name (i := 3) rfl (.inl rfl) rfl ?_
          exact ⟨_, rfl, hi _ hW⟩
abbrev N_law_unlike_right : List Str := ["_law_draw", "_law_made", "_law_dues", "_law_uno", "_law_duo", "_law_gone", "_law_fresh", "_law_some", "_law_other", "_law_near", "_law_word", "_law_k"]
theorem sc_law_unlike_right : FnScope N_law_unlike_right ["_law_draw", "_law_made", "_law_dues"] (defScope t_law_unlike_right) := ⟨rfl, rfl, rfl, by decide +kernel, rfl, by decide +kernel, by decide +kernel⟩
theorem ok_law_unlike_right {f : Addr} {fd : FuncData} (F : FunA K "_law_unlike_right" "_law_unlike_right" t_law_unlike_right f fd) (hcPw : c.P = P ∧ c.w = w) (m_range : mg "range" = none) (m_tuple : mg "tuple" = none) (h_law_pick : Has P w K mg base (some x) 4 "_law_pick" ["_law_draw", "_law_some"] (W_law_pick c x)) (h_Shape_init : HasXI P w K mg base (some x) 10 "Shape" c.Shape ["self", "columns", "blanks", "lacking"] (W_Shape_init c)) (h_Shape_eq : HasM P w K mg base (some x) 4 c.Shape "__eq__" ["self", "other"] (W_Shape_eq c)) (m_isinstance : mg "isinstance" = none) (i_Shape : IsCls K mg "Shape" c.Shape) (neA_Shape : NeO K c.Shape) : FnG P w K mg base CX0 12 f fd ["_law_draw", "_law_made", "_law_dues"] (spD K (some x) (W_law_unlike_right c x)) := by
  obtain ⟨rfl, rfl⟩ := hcPw
  refine fnD F sc_law_unlike_right (fun ds Q h => by obtain ⟨_, _, rfl, _⟩ := h; rfl) fun cdv A outer s H E an ds post hr gd hW => ?_
  obtain ⟨p_made, p_dues, rfl, K0, hW, hi⟩ := hW
  have hu := hu65 hr
  have hu1 := hu1_of hu
  have hu2 := hu66 hr
  refine wss_cons (ws_asg (wg_tup (n := 3) rfl (wgs_cons (wg_name (i := 3) sc_law_unlike_right.nd rfl (.inr rfl)) (wgs_cons (wg_name (i := 4) sc_law_unlike_right.nd rfl (.inr rfl)) (wgs_cons (wg_name (i := 5) sc_law_unlike_right.nd rfl (.inl rfl)) (wgs_nil))))) ?_)
  refine we_name (i := 2) rfl (.inl rfl) rfl ?_
  refine unp3_link hW fun d1 d2 d3 hW => ?_
  refine fN_link ?_
  refine fN_link ?_
  refine fN_link ?_
  refine wss_cons (ws_set (i := 6) sc_law_unlike_right.nd rfl (.inl rfl) ?_)
  refine we_ixN hu ?_
  refine we_lcIf rfl sc_law_unlike_right.nd rfl [("_law_word", 10)] (blkOk_by (N := N_law_unlike_right) (sc := defScope t_law_unlike_right) (by decide +kernel)) (fun _ _ _ _ _ => wg_name (i := 10) sc_law_unlike_right.nd rfl (.inl rfl)) (by decide) ?_
  refine wi_seq ?_
  refine we_lc rfl sc_law_unlike_right.nd rfl [("_law_k", 11)] (blkOk_by (N := N_law_unlike_right) (sc := defScope t_law_unlike_right) (by decide +kernel)) (fun _ _ _ _ _ => wg_name (i := 11) sc_law_unlike_right.nd rfl (.inl rfl)) (by decide) ?_
  refine wi_rangeU2 m_range ?_
  refine we_int ?_
  refine we_int ?_
  refine rng2S_imp hW fun ds14 hW => ?_
  refine lc_link hW (fun d12 a10 n11 hW => ?_) (fun xs13 hW => ?_)
  · refine fN_link ?_
    refine fun s H C cl fp => ?_
    refine we_smulS ?_
    refine we_str ?_
    refine we_name (i := 11) rfl (.inl rfl) rfl ?_
    refine smulS_imp hW fun d16 hW => ?_
    exact ⟨rfl, ⟨_, rfl⟩, hW⟩
  · refine walkV hW fun ds9 hW => ?_
    refine lcIf_link hW (fun d7 a5 n6 hW => ?_) (fun xs8 hW => ?_)
    · refine fN_link ?_
      refine tst_link hW (fun k hW s H C cl fp => ?_) (fun hW => ?_) (fun hW => hW)
      · refine wt_cmpN hu ?_
        refine we_name (i := 10) rfl (.inl rfl) rfl ?_
        refine we_bin ?_
        refine we_name (i := 3) rfl (.inr (.inl rfl)) rfl ?_
        refine we_name (i := 4) rfl (.inr (.inl rfl)) rfl ?_
        refine we_bin.binD_imp hW fun d18 hW => ?_
        refine cmpN_imp hW fun t17 hW => ?_
        exact ⟨rfl, hW⟩
      · refine fun s H C cl fp => ?_
        refine we_name (i := 10) rfl (.inl rfl) rfl ?_
        exact ⟨rfl, ⟨_, rfl⟩, hW⟩
    · refine we_int ?_
      refine ixN_imp hW fun d4 hW => ?_
      refine wss_cons (ws_set (i := 7) sc_law_unlike_right.nd rfl (.inl rfl) ?_)
      refine we_lst ?_
      refine wa_cons ?_
      refine we_tup ?_
      refine wa_cons ?_
      refine we_revT ?_
      refine we_name (i := 3) rfl (.inr (.inl rfl)) rfl ?_
      refine revTS_imp hW fun d20 hW => ?_
      refine wa_cons ?_
      refine we_name (i := 4) rfl (.inr (.inl rfl)) rfl ?_
      refine wa_cons ?_
      refine we_name (i := 5) rfl (.inl rfl) rfl ?_
      refine wa_nil ?_
      refine ⟨small_le (by show 3 ≤ 1000; decide), ?_⟩
      refine wa_cons ?_
      refine we_tup ?_
      refine wa_cons ?_
      refine we_name (i := 3) rfl (.inr (.inl rfl)) rfl ?_
      refine wa_cons ?_
      refine we_revT ?_
      refine we_name (i := 4) rfl (.inr (.inl rfl)) rfl ?_
      refine revTS_imp hW fun d21 hW => ?_
      refine wa_cons ?_
      refine we_name (i := 5) rfl (.inl rfl) rfl ?_
      refine wa_nil ?_
      refine ⟨small_le (by show 3 ≤ 1000; decide), ?_⟩
      refine wa_cons ?_
      refine we_tup ?_
      refine wa_cons ?_
      refine we_name (i := 3) rfl (.inr (.inl rfl)) rfl ?_
      refine wa_cons ?_
      refine we_name (i := 4) rfl (.inr (.inl rfl)) rfl ?_
      refine wa_cons ?_
      refine we_sl ?_
      refine we_name (i := 5) rfl (.inl rfl) rfl ?_
      refine wo_some ?_
      refine we_int ?_
      refine intV ?_
      refine wo_none ?_
      refine slD_imp hW fun d22 hW => ?_
      refine wa_nil ?_
      refine ⟨small_le (by show 3 ≤ 1000; decide), ?_⟩
      refine wa_nil ?_
      refine ⟨small_le (by show 3 ≤ 1000; decide), ?_⟩
      refine wss_cons (ws_set (i := 7) sc_law_unlike_right.nd rfl (.inl rfl) ?_)
      refine we_bin ?_
      refine we_name (i := 7) rfl (.inl rfl) rfl ?_
      refine we_lst ?_
      refine wa_cons ?_
      refine we_tup ?_
      refine wa_cons ?_
      refine we_bin ?_
      refine we_tup ?_
      refine wa_cons ?_
      refine we_name (i := 6) rfl (.inl rfl) rfl ?_
      refine wa_nil ?_
      refine ⟨small_le (by show 1 ≤ 1000; decide), ?_⟩
      refine we_sl ?_
      refine we_name (i := 3) rfl (.inr (.inl rfl)) rfl ?_
      refine wo_some ?_
      refine we_int ?_
      refine intV ?_
      refine wo_none ?_
      refine slD_imp hW fun d25 hW => ?_
      refine we_bin.binD_imp hW fun d24 hW => ?_
      refine wa_cons ?_
      refine we_name (i := 4) rfl (.inr (.inl rfl)) rfl ?_
      refine wa_cons ?_
      refine we_bty cb_tup m_tuple PyProof.Rows.boot_tuple tupF_mono ?_
      refine wa_cons ?_
      refine we_lcIf rfl sc_law_unlike_right.nd rfl [("_law_word", 10)] (blkOk_by (N := N_law_unlike_right) (sc := defScope t_law_unlike_right) (by decide +kernel)) (fun _ _ _ _ _ => wg_name (i := 10) sc_law_unlike_right.nd rfl (.inl rfl)) (by decide) ?_
      refine wi_seq ?_
      refine we_name (i := 5) rfl (.inl rfl) rfl ?_
      refine walkV hW fun ds31 hW => ?_
      refine lcIf_link hW (fun d29 a27 n28 hW => ?_) (fun xs30 hW => ?_)
      · refine fN_link ?_
        refine tst_link hW (fun k hW s H C cl fp => ?_) (fun hW => ?_) (fun hW => hW)
        · refine wt_cmpU hu ?_
          refine we_name (i := 10) rfl (.inl rfl) rfl ?_
          refine we_ixN hu ?_
          refine we_name (i := 3) rfl (.inr (.inl rfl)) rfl ?_
          refine we_int ?_
          refine ixN_imp hW fun d33 hW => ?_
          refine cmpU_imp hW fun t32 hW => ?_
          exact ⟨rfl, hW⟩
        · refine fun s H C cl fp => ?_
          refine we_name (i := 10) rfl (.inl rfl) rfl ?_
          exact ⟨rfl, ⟨_, rfl⟩, hW⟩
      · refine wa_nil ?_
        refine tupF_mono _ _ _ (fun d26 hW => ?_) hW
        refine wa_nil ?_
        refine ⟨small_le (by show 3 ≤ 1000; decide), ?_⟩
        refine wa_nil ?_
        refine ⟨small_le (by show 1 ≤ 1000; decide), ?_⟩
        refine we_bin.binD_imp hW fun d23 hW => ?_
        refine wss_cons (ws_set (i := 8) sc_law_unlike_right.nd rfl (.inl rfl) ?_)
        refine we_call h_law_pick hr gd ?_
        refine wa_cons ?_
        refine we_name (i := 0) rfl (.inl rfl) rfl ?_
        refine wa_cons ?_
        refine we_name (i := 7) rfl (.inl rfl) rfl ?_
        refine wa_nil ?_
        refine allV2 ?_
        refine to_law_pick hW fun d35 hW => ?_
        refine wss_cons (ws_set (i := 9) sc_law_unlike_right.nd rfl (.inl rfl) ?_)
        refine we_makeX h_Shape_init hr tx0 ?_
        refine wa_cons ?_
        refine we_ixN hu ?_
        refine we_name (i := 8) rfl (.inl rfl) rfl ?_
        refine we_int ?_
        refine ixN_imp hW fun d37 hW => ?_
        refine wa_cons ?_
        refine we_ixN hu ?_
        refine we_name (i := 8) rfl (.inl rfl) rfl ?_
        refine we_int ?_
        refine ixN_imp hW fun d38 hW => ?_
        refine wa_cons ?_
        refine we_ixN hu ?_
        refine we_name (i := 8) rfl (.inl rfl) rfl ?_
        refine we_int ?_
        refine ixN_imp hW fun d39 hW => ?_
        refine wa_nil ?_
        refine allV3 ?_
        refine to_Shape_init hW (fun _ q => q) fun d36 hW => ?_
        refine wss_cons (ws_ifS hW (fun k hW => ?_) (fun hW => ?_) (fun hW => ?_))
        · refine WW.wt ?_
          refine ww_or ?_
          refine wt_cmpU hu ?_
          refine we_eqA1 false h_Shape_eq (fun z => by cases z) i_Shape  hr ?_
          refine we_name (i := 9) rfl (.inl rfl) rfl ?_
          refine we_name (i := 1) rfl (.inl rfl) rfl ?_
          refine eqAS_imp hW fun hW => ?_
          refine to_Shape_eq hW fun d41 hW => ?_
          refine blS_mono hW fun t42 hW => ?_
          refine we_cmpU hu ?_
          refine we_name (i := 8) rfl (.inl rfl) rfl ?_
          refine we_name (i := 2) rfl (.inl rfl) rfl ?_
          refine cmpU_imp hW fun t43 hW => ?_
          refine cmpU_imp hW fun t40 hW => ?_
          refine ifE2 hW (fun hW => ?_) (fun hW => ?_)
          · exact ⟨rfl, hW⟩
          · refine ww_or1 ?_
            refine wt_cmpU hu ?_
            refine we_eqA1 true h_Shape_eq (fun _ => neA_Shape) i_Shape  hr ?_
            refine we_name (i := 1) rfl (.inl rfl) rfl ?_
            refine we_name (i := 9) rfl (.inl rfl) rfl ?_
            refine eqAS_imp hW fun hW => ?_
            refine to_Shape_eq hW fun d45 hW => ?_
            refine blS_mono hW fun t46 hW => ?_
            refine we_cmpU hu ?_
            refine we_name (i := 8) rfl (.inl rfl) rfl ?_
            refine we_name (i := 2) rfl (.inl rfl) rfl ?_
            refine cmpU_imp hW fun t47 hW => ?_
            refine cmpU_imp hW fun t44 hW => ?_
            exact ⟨rfl, hW⟩
        · refine wss_cons (ws_ret ?_)
          refine we_bl ?_
          exact hi _ hW
        · refine wss_nil ?_
          refine wss_cons (ws_ret ?_)
          refine we_not ?_
          refine we_joinS hW (fun hW => ?_) (fun d48 hW => ?_)
          · skip
            refine we_or ?_
            refine we_eqA1 false h_Shape_eq (fun z => by cases z) i_Shape  hr ?_
            refine we_name (i := 1) rfl (.inl rfl) rfl ?_
            refine we_name (i := 2) rfl (.inl rfl) rfl ?_
            refine eqAS_imp hW fun hW => ?_
            refine to_Shape_eq hW fun d50 hW => ?_
            refine blS_mono hW fun t51 hW => ?_
            refine blS_link hW fun t52 hW => ?_
            refine ifE2 hW (fun hW => ?_) (fun hW => ?_)
            · exact ⟨_, rfl, rfl, hW⟩
            · refine we_or ?_
              refine we_eqA1 false h_Shape_eq (fun z => by cases z) i_Shape  hr ?_
              refine we_name (i := 1) rfl (.inl rfl) rfl ?_
              refine we_non ?_
              refine eqAS_imp hW fun hW => ?_
              refine to_Shape_eq hW fun d53 hW => ?_
              refine blS_mono hW fun t54 hW => ?_
              refine blS_link hW fun t55 hW => ?_
              refine ifE2 hW (fun hW => ?_) (fun hW => ?_)
              · exact ⟨_, rfl, rfl, hW⟩
              · refine we_or1 ?_
                refine we_eqA1 false h_Shape_eq (fun z => by cases z) i_Shape  hr ?_
                refine we_name (i := 1) rfl (.inl rfl) rfl ?_
                refine we_name (i := 3) rfl (.inr (.inl rfl)) rfl ?_
                refine eqAS_imp hW fun hW => ?_
                refine to_Shape_eq hW fun d56 hW => ?_
                refine blS_mono hW fun t57 hW => ?_
                exact ⟨_, rfl, rfl, hW⟩
          · refine blS_link hW fun t58 hW => ?_
            exact hi _ hW
abbrev N_law_kept_right : List Str := ["_law_made", "_law_dues", "_law_uno", "_law_duo", "_law_gone", "_law_k", "_law_word", "_law_one"]
theorem sc_law_kept_right : FnScope N_law_kept_right ["_law_made", "_law_dues"] (defScope t_law_kept_right) := ⟨rfl, rfl, rfl, by decide +kernel, rfl, by decide +kernel, by decide +kernel⟩
theorem ok_law_kept_right {f : Addr} {fd : FuncData} (F : FunA K "_law_kept_right" "_law_kept_right" t_law_kept_right f fd) (hcPw : c.P = P ∧ c.w = w) (h_Shape_is_row : HasM P w K mg base dr 8 c.Shape "is_row" ["self", "thing"] (W_Shape_is_row c)) (m_len : mg "len" = none) (h_Shape_is_asking : HasM P w K mg base dr 8 c.Shape "is_asking" ["self", "thing"] (W_Shape_is_asking c)) (m_dict : mg "dict" = none) (m_enumerate : mg "enumerate" = none) : FnG P w K mg base CX0 10 f fd ["_law_made", "_law_dues"] (spD K dr (W_law_kept_right c)) := by
  obtain ⟨rfl, rfl⟩ := hcPw
  refine fnD F sc_law_kept_right (fun ds Q h => by obtain ⟨_, _, rfl, _⟩ := h; rfl) fun cdv A outer s H E an ds post hr gd hW => ?_
  obtain ⟨p_made, p_dues, rfl, K0, hW, hi⟩ := hW
  have hu := hu65 hr
  have hu1 := hu1_of hu
  have hu2 := hu66 hr
  refine wss_cons (ws_asg (wg_tup (n := 3) rfl (wgs_cons (wg_name (i := 2) sc_law_kept_right.nd rfl (.inl rfl)) (wgs_cons (wg_name (i := 3) sc_law_kept_right.nd rfl (.inl rfl)) (wgs_cons (wg_name (i := 4) sc_law_kept_right.nd rfl (.inl rfl)) (wgs_nil))))) ?_)
  refine we_name (i := 1) rfl (.inl rfl) rfl ?_
  refine unp3_link hW fun d1 d2 d3 hW => ?_
  refine fN_link ?_
  refine fN_link ?_
  refine fN_link ?_
  refine wss_cons (ws_ifS hW (fun k hW => ?_) (fun hW => ?_) (fun hW => ?_))
  · refine WW.wt ?_
    refine ww_or ?_
    refine wt_cmpU hu ?_
    refine we_methU (pl := _) h_Shape_is_row hr ?_
    refine we_name (i := 0) rfl (.inl rfl) rfl ?_
    refine metS_imp hW fun hW => ?_
    refine wa_cons ?_
    refine we_tmul0 ?_
    refine we_tup ?_
    refine wa_cons ?_
    refine we_int ?_
    refine wa_nil ?_
    refine ⟨small_le (by show 1 ≤ 1000; decide), ?_⟩
    refine we_blt cb_lenN m_len PySem.boot_len lenNF_mono ?_
    refine wa_cons ?_
    refine we_name (i := 2) rfl (.inl rfl) rfl ?_
    refine wa_nil ?_
    refine lenNF_mono _ _ _ (fun d8 hW => ?_) hW
    refine tmul0_imp hW fun d7 hW => ?_
    refine wa_nil ?_
    refine allV1 ?_
    refine to_Shape_is_row hW fun d5 hW => ?_
    refine we_bl ?_
    refine cmpU_imp hW fun t4 hW => ?_
    refine ifE2 hW (fun hW => ?_) (fun hW => ?_)
    · exact ⟨rfl, hW⟩
    · refine ww_or1 ?_
      refine wt_cmpU hu ?_
      refine we_methU (pl := _) h_Shape_is_asking hr ?_
      refine we_name (i := 0) rfl (.inl rfl) rfl ?_
      refine metS_imp hW fun hW => ?_
      refine wa_cons ?_
      refine we_dictPairsU rfl m_dict ?_
      refine we_lc rfl sc_law_kept_right.nd rfl [("_law_word", 6)] (blkOk_by (N := N_law_kept_right) (sc := defScope t_law_kept_right) (by decide +kernel)) (fun _ _ _ _ _ => wg_name (i := 6) sc_law_kept_right.nd rfl (.inl rfl)) (by decide) ?_
      refine wi_seq ?_
      refine we_name (i := 3) rfl (.inl rfl) rfl ?_
      refine walkV hW fun ds17 hW => ?_
      refine lc_link hW (fun d15 a13 n14 hW => ?_) (fun xs16 hW => ?_)
      · refine fN_link ?_
        refine fun s H C cl fp => ?_
        refine we_tup ?_
        refine wa_cons ?_
        refine we_name (i := 6) rfl (.inl rfl) rfl ?_
        refine wa_cons ?_
        refine we_int ?_
        refine wa_nil ?_
        refine ⟨small_le (by show 2 ≤ 1000; decide), ?_⟩
        exact ⟨rfl, ⟨_, rfl⟩, hW⟩
      · refine dictPairsS_imp hW fun d12 hW => ?_
        refine wa_nil ?_
        refine allV1 ?_
        refine to_Shape_is_asking hW fun d10 hW => ?_
        refine we_bl ?_
        refine cmpU_imp hW fun t9 hW => ?_
        exact ⟨rfl, hW⟩
  · refine wss_cons (ws_ret ?_)
    refine we_bl ?_
    exact hi _ hW
  · refine wss_nil ?_
    refine wss_cons (ws_for PassesOwn.never rfl (wg_tup (n := 2) rfl (wgs_cons (wg_name (i := 5) sc_law_kept_right.nd rfl (.inl rfl)) (wgs_cons (wg_name (i := 6) sc_law_kept_right.nd rfl (.inr rfl)) (wgs_nil)))) ?_)
    refine wi_enumU m_enumerate ?_
    refine we_name (i := 2) rfl (.inl rfl) rfl ?_
    refine enumS_imp hW fun ds24 hW => ?_
    refine for_link (fun (s25 : Unit) ρ om => ∃ u26 u27 : Option R, ρ = [some (.v p_made), some (.v p_dues), some (.v d1), some (.v d2), some (.v d3), u26, u27, none] ∧ om = []) hW ⟨_, _, rfl, rfl⟩ (fun d19 s21 ρ om n20 hW hR => ?_) (fun s22 ρ om hW hR => ?_)
    · obtain ⟨u28, u29, rfl, rfl⟩ := hR
      refine unp2_link hW fun d30 d31 hW => ?_
      refine fN_link ?_
      refine fN_link ?_
      refine wss_cons (ws_ifS hW (fun k hW => ?_) (fun hW => ?_) (fun hW => ?_))
      · refine wt_cmpU hu ?_
        refine we_methU (pl := _) h_Shape_is_row hr ?_
        refine we_name (i := 0) rfl (.inl rfl) rfl ?_
        refine metS_imp hW fun hW => ?_
        refine wa_cons ?_
        refine we_bin ?_
        refine we_bin ?_
        refine we_tmul0 ?_
        refine we_tup ?_
        refine wa_cons ?_
        refine we_int ?_
        refine wa_nil ?_
        refine ⟨small_le (by show 1 ≤ 1000; decide), ?_⟩
        refine we_name (i := 5) rfl (.inl rfl) rfl ?_
        refine tmul0_imp hW fun d37 hW => ?_
        refine we_tup ?_
        refine wa_cons ?_
        refine we_non ?_
        refine wa_nil ?_
        refine ⟨small_le (by show 1 ≤ 1000; decide), ?_⟩
        refine we_bin.binD_imp hW fun d36 hW => ?_
        refine we_tmul0 ?_
        refine we_tup ?_
        refine wa_cons ?_
        refine we_int ?_
        refine wa_nil ?_
        refine ⟨small_le (by show 1 ≤ 1000; decide), ?_⟩
        refine we_bin ?_
        refine we_bin ?_
        refine we_blt cb_lenN m_len PySem.boot_len lenNF_mono ?_
        refine wa_cons ?_
        refine we_name (i := 2) rfl (.inl rfl) rfl ?_
        refine wa_nil ?_
        refine lenNF_mono _ _ _ (fun d41 hW => ?_) hW
        refine we_name (i := 5) rfl (.inl rfl) rfl ?_
        refine we_bin.binD_imp hW fun d40 hW => ?_
        refine we_int ?_
        refine we_bin.binD_imp hW fun d39 hW => ?_
        refine tmul0_imp hW fun d38 hW => ?_
        refine we_bin.binD_imp hW fun d35 hW => ?_
        refine wa_nil ?_
        refine allV1 ?_
        refine to_Shape_is_row hW fun d33 hW => ?_
        refine we_cmpN hu ?_
        refine we_name (i := 6) rfl (.inr (.inl rfl)) rfl ?_
        refine we_name (i := 4) rfl (.inl rfl) rfl ?_
        refine cmpN_imp hW fun t42 hW => ?_
        refine cmpU_imp hW fun t32 hW => ?_
        exact ⟨rfl, hW⟩
      · refine wss_cons (ws_ret ?_)
        refine we_bl ?_
        exact hi _ hW
      · refine wss_nil ?_
        exact wss_nil ⟨_, ⟨_, _, rfl, rfl⟩, hW⟩
    · obtain ⟨u43, u44, rfl, rfl⟩ := hR
      refine wss_cons (ws_for PassesOwn.never rfl (wg_name (i := 6) sc_law_kept_right.nd rfl (.inr rfl)) ?_)
      refine wi_seq ?_
      refine we_name (i := 3) rfl (.inl rfl) rfl ?_
      refine walkV hW fun ds50 hW => ?_
      refine for_link (fun (s51 : Unit) ρ om => ∃ u52 : Option R, ρ = [some (.v p_made), some (.v p_dues), some (.v d1), some (.v d2), some (.v d3), u43, u52, none] ∧ om = []) hW ⟨_, rfl, rfl⟩ (fun d45 s47 ρ om n46 hW hR => ?_) (fun s48 ρ om hW hR => ?_)
      · obtain ⟨u53, rfl, rfl⟩ := hR
        refine fN_link ?_
        refine wss_cons (ws_ifS hW (fun k hW => ?_) (fun hW => ?_) (fun hW => ?_))
        · refine wt_cmpU hu ?_
          refine we_methU (pl := _) h_Shape_is_asking hr ?_
          refine we_name (i := 0) rfl (.inl rfl) rfl ?_
          refine metS_imp hW fun hW => ?_
          refine wa_cons ?_
          refine we_dictPairsU rfl m_dict ?_
          refine we_lc rfl sc_law_kept_right.nd rfl [("_law_one", 7)] (blkOk_by (N := N_law_kept_right) (sc := defScope t_law_kept_right) (by decide +kernel)) (fun _ _ _ _ _ => wg_name (i := 7) sc_law_kept_right.nd rfl (.inl rfl)) (by decide) ?_
          refine wi_seq ?_
          refine we_name (i := 3) rfl (.inl rfl) rfl ?_
          refine walkV hW fun ds62 hW => ?_
          refine lc_link hW (fun d60 a58 n59 hW => ?_) (fun xs61 hW => ?_)
          · refine fN_link ?_
            refine fun s H C cl fp => ?_
            refine we_tup ?_
            refine wa_cons ?_
            refine we_name (i := 7) rfl (.inl rfl) rfl ?_
            refine wa_cons ?_
            refine we_joinS hW (fun hW => ?_) (fun d64 hW => ?_)
            · skip
              refine we_ifexpS hW (fun k hW => ?_) (fun hW => ?_) (fun hW => ?_)
              · refine wt_cmpU hu ?_
                refine we_name (i := 7) rfl (.inl rfl) rfl ?_
                refine we_name (i := 6) rfl (.inr (.inl rfl)) rfl ?_
                refine cmpU_imp hW fun t66 hW => ?_
                exact ⟨rfl, hW⟩
              · refine we_non ?_
                exact ⟨_, rfl, rfl, hW⟩
              · refine we_int ?_
                exact ⟨_, rfl, rfl, hW⟩
            · refine wa_nil ?_
              refine ⟨small_le (by show 2 ≤ 1000; decide), ?_⟩
              exact ⟨rfl, ⟨_, rfl⟩, hW⟩
          · refine dictPairsS_imp hW fun d57 hW => ?_
            refine wa_nil ?_
            refine allV1 ?_
            refine to_Shape_is_asking hW fun d55 hW => ?_
            refine we_cmpN hu ?_
            refine we_name (i := 6) rfl (.inr (.inl rfl)) rfl ?_
            refine we_name (i := 4) rfl (.inl rfl) rfl ?_
            refine cmpN_imp hW fun t67 hW => ?_
            refine cmpU_imp hW fun t54 hW => ?_
            exact ⟨rfl, hW⟩
        · refine wss_cons (ws_ret ?_)
          refine we_bl ?_
          exact hi _ hW
        · refine wss_nil ?_
          exact wss_nil ⟨_, ⟨_, rfl, rfl⟩, hW⟩
      · obtain ⟨u68, rfl, rfl⟩ := hR
        refine wss_cons (ws_ret ?_)
        refine we_bl ?_
        exact hi _ hW
abbrev N_law : List Str := ["_law_script", "_law_draw", "_law_turn", "_law_frame_here", "_law_three", "_law_change", "_law_uno", "_law_duo", "_law_gone", "_law_due", "_law_before", "_law_error", "_law_dues", "_law_made", "_law_twin", "_law_some"]
theorem sc_law : FnScope N_law ["_law_script"] (defScope t_law) := ⟨rfl, rfl, rfl, by decide +kernel, rfl, by decide +kernel, by decide +kernel⟩
theorem ok_law {cd_law tP_law : Addr} (T : List (Addr × Str)) {f : Addr} {fd : FuncData} (F : FunV K "law" "law" t_law f fd (.ref cd_law)) (hcPw : c.P = P ∧ c.w = w) (m_range : mg "range" = none) (m_min : mg "min" = none) (m_len : mg "len" = none) (m_list : mg "list" = none) (m_repr : mg "repr" = none) (hsys : ∃ o, base.get? sysModules = some o) (hC : HasC P w K mg base (c.err 0)) (hX : ∀ m, m < 2 → PySem.W.exmOne K (.ref (c.err m)) (.ref (c.err 0)) = some true) (tb_law : LamX.TabB base mg cd_law tP_law) (m_isinstance : mg "isinstance" = none) (hH : ErrHs K 2 c) (ec_BadShape : ErrC K mg 2 c "BadShape" (some 1)) (m_tuple : mg "tuple" = none) (m_sorted : mg "sorted" = none) (hI : InsN K c.Shape) (p_Shape_columns : HasP P w K mg base 1 c.Shape "columns" "own_columns") (p_Shape_blanks : HasP P w K mg base 1 c.Shape "blanks" "own_blanks") (p_Shape_lacking : HasP P w K mg base 1 c.Shape "lacking" "own_lacking") (neA_Shape : NeO K c.Shape) (i_Shape : IsCls K mg "Shape" c.Shape) (hB : HasB P w K mg base 16 "_law_begin" ["_law_script"]) (hx : ∀ x : Dr, x.c ≠ x.g → x.cs.length ≤ sizeLine → x.T = T → (Has P w K mg base (some x) 8 "_law_frame" ["_law_draw", "_law_many", "_law_few"] (W_law_frame c x)) ∧ (Has P w K mg base (some x) 4 "_law_pick" ["_law_draw", "_law_some"] (W_law_pick c x)) ∧ (Has P w K mg base (some x) 6 "_law_bent_lists" ["_law_draw", "_law_three"] (W_law_bent_lists c x)) ∧ (Has P w K mg base (some x) 6 "_law_are_sides" ["_law_uno", "_law_duo", "_law_gone"] (W_law_are_sides c)) ∧ ((tP_law, ("law.<locals>.<lambda>" : Str)) ∈ x.T) ∧ (∀ p ∈ x.T, p.1 = tP_law → p.2 = "law.<locals>.<lambda>") ∧ (HasXI P w K mg base (some x) 10 "Shape" c.Shape ["self", "columns", "blanks", "lacking"] (W_Shape_init c)) ∧ (HasXIW P w K mg base (some x) 10 "Shape" c.Shape ["self", "columns", "blanks", "lacking"] ["lacking", "blanks", "columns"] [2, 1, 0] (W_Shape_init c)) ∧ (HasM P w K mg base (some x) 4 c.Shape "__eq__" ["self", "other"] (W_Shape_eq c)) ∧ (Has P w K mg base (some x) 10 "_law_kept_right" ["_law_made", "_law_dues"] (W_law_kept_right c)) ∧ (Has P w K mg base (some x) 12 "_law_unlike_right" ["_law_draw", "_law_made", "_law_dues"] (W_law_unlike_right c x)) ∧ (HasXId P w K mg base (some x) 10 "Shape" c.Shape ["self", "columns", "blanks", "lacking"] [.tup []] (W_Shape_init c)) ∧ True) (hlaw : ∀ n : Nat, n ≤ 63 → S_law c n fun d => d = .bl true) : FnG P w K mg base CX0 17 f fd ["_law_script"] (spLaw T K) := by
  obtain ⟨rfl, rfl⟩ := hcPw
  refine law_byN T F sc_law hB rfl rfl rfl (.inl rfl) (.inl rfl) rfl (by decide) (by decide) (by decide) fun A outer s H E a ns x hr gd hS hlen hof hgc hz hT => ?_
  replace hS := sqL_strip hS
  replace hof := off_strip hof
  have hu := hu65 hr
  have hu1 := hu1_of hu
  have hu2 := hu66 hr
  obtain ⟨h_law_frame, h_law_pick, h_law_bent_lists, h_law_are_sides, hm_law, hu_law, h_Shape_init, hw_Shape_init_210, h_Shape_eq, h_law_kept_right, h_law_unlike_right, h_Shape_init_d1, _⟩ := hx x hgc hz hT
  have hW := hlaw ns.length hlen
  generalize hn : ns.length = n at hW
  subst hn
  refine wsn_consN (wsn_for PassesOwn.never rfl (wg_name (i := 2) sc_law.nd rfl (.inl rfl)) ?_)
  refine win_range m_range ?_
  refine we_bin ?_
  refine we_int ?_
  refine we_blt (cb_min rfl) m_min PyProof.Rows.boot_min minF_mono ?_
  refine wa_cons ?_
  refine we_lenScr hS hof m_len ?_
  refine we_name (i := 0) rfl (.inl rfl) rfl ?_
  refine ⟨rfl, ?_⟩
  refine wa_cons ?_
  refine we_int ?_
  refine wa_nil ?_
  refine minF_mono _ _ _ (fun d8 hW => ?_) hW
  refine we_bin.binD_imp hW fun d7 hW => ?_
  refine rngS_imp hW fun ds6 hW => ?_
  refine for_linkN (fun (s10 : Unit) ρ om => ∃ u11 u12 u13 u14 u15 u16 u17 u18 u19 u20 u21 u22 u23 u24 : Option R, ρ = [some (.v (.obj a)), some (.v (.obj x.d)), u11, u12, u13, u14, u15, u16, u17, u18, u19, u20, u21, u22, u23, u24] ∧ om = []) hW ⟨_, _, _, _, _, _, _, _, _, _, _, _, _, _, rfl, rfl⟩ (fun d1 s3 ρ om n2 hW hR => ?_) (fun s4 ρ om hW hR => ?_)
  · obtain ⟨u25, u26, u27, u28, u29, u30, u31, u32, u33, u34, u35, u36, u37, u38, rfl, rfl⟩ := hR
    refine fN_link ?_
    refine wsn_cons (ws_set (i := 3) sc_law.nd rfl (.inl rfl) ?_)
    refine we_call h_law_frame hr gd ?_
    refine wa_cons ?_
    refine we_name (i := 1) rfl (.inl rfl) rfl ?_
    refine wa_cons ?_
    refine we_int ?_
    refine wa_cons ?_
    refine we_int ?_
    refine wa_nil ?_
    refine allV3 ?_
    refine to_law_frame hW fun d39 hW => ?_
    refine wsn_cons (ws_set (i := 4) sc_law.nd rfl (.inl rfl) ?_)
    refine we_lst ?_
    refine wa_cons ?_
    refine we_bty (cb_listN rfl) m_list PyProof.Rows.boot_list listNF_mono ?_
    refine wa_cons ?_
    refine we_ixN hu ?_
    refine we_name (i := 3) rfl (.inl rfl) rfl ?_
    refine we_str ?_
    refine ixN_imp hW fun d41 hW => ?_
    refine wa_nil ?_
    refine listNF_mono _ _ _ (fun d40 hW => ?_) hW
    refine wa_cons ?_
    refine we_bty (cb_listN rfl) m_list PyProof.Rows.boot_list listNF_mono ?_
    refine wa_cons ?_
    refine we_ixN hu ?_
    refine we_name (i := 3) rfl (.inl rfl) rfl ?_
    refine we_str ?_
    refine ixN_imp hW fun d43 hW => ?_
    refine wa_nil ?_
    refine listNF_mono _ _ _ (fun d42 hW => ?_) hW
    refine wa_cons ?_
    refine we_bty (cb_listN rfl) m_list PyProof.Rows.boot_list listNF_mono ?_
    refine wa_cons ?_
    refine we_ixN hu ?_
    refine we_name (i := 3) rfl (.inl rfl) rfl ?_
    refine we_str ?_
    refine ixN_imp hW fun d45 hW => ?_
    refine wa_nil ?_
    refine listNF_mono _ _ _ (fun d44 hW => ?_) hW
    refine wa_nil ?_
    refine ⟨small_le (by show 3 ≤ 1000; decide), ?_⟩
    refine wsn_cons (ws_for PassesOwn.never rfl (wg_name (i := 5) sc_law.nd rfl (.inl rfl)) ?_)
    refine wi_rangeU m_range ?_
    refine we_call h_law_pick hr gd ?_
    refine wa_cons ?_
    refine we_name (i := 1) rfl (.inl rfl) rfl ?_
    refine wa_cons ?_
    refine we_lst ?_
    refine wa_cons ?_
    refine we_int ?_
    refine wa_cons ?_
    refine we_int ?_
    refine wa_cons ?_
    refine we_int ?_
    refine wa_cons ?_
    refine we_int ?_
    refine wa_cons ?_
    refine we_int ?_
    refine wa_nil ?_
    refine ⟨small_le (by show 5 ≤ 1000; decide), ?_⟩
    refine wa_nil ?_
    refine allV2 ?_
    refine to_law_pick hW fun d52 hW => ?_
    refine rngS_imp hW fun ds51 hW => ?_
    refine for_link (fun (s53 : D) ρ om => ∃ u54 : Option R, ρ = [some (.v (.obj a)), some (.v (.obj x.d)), some (.v d1), some (.v d39), some (.v s53), u54, u29, u30, u31, u32, u33, u34, u35, u36, u37, u38] ∧ om = []) hW ⟨_, rfl, rfl⟩ (fun d46 s48 ρ om n47 hW hR => ?_) (fun s49 ρ om hW hR => ?_)
    · obtain ⟨u55, rfl, rfl⟩ := hR
      refine fN_link ?_
      refine wss_cons (ws_set (i := 4) sc_law.nd rfl (.inl rfl) ?_)
      refine we_call h_law_bent_lists hr gd ?_
      refine wa_cons ?_
      refine we_name (i := 1) rfl (.inl rfl) rfl ?_
      refine wa_cons ?_
      refine we_name (i := 4) rfl (.inl rfl) rfl ?_
      refine wa_nil ?_
      refine allV2 ?_
      refine to_law_bent_lists hW fun d56 hW => ?_
      exact wss_nil ⟨_, ⟨_, rfl, rfl⟩, hW⟩
    · obtain ⟨u57, rfl, rfl⟩ := hR
      refine wsn_cons (ws_asg (wg_tup (n := 3) rfl (wgs_cons (wg_name (i := 6) sc_law.nd rfl (.inr rfl)) (wgs_cons (wg_name (i := 7) sc_law.nd rfl (.inr rfl)) (wgs_cons (wg_name (i := 8) sc_law.nd rfl (.inr rfl)) (wgs_nil))))) ?_)
      refine we_name (i := 4) rfl (.inl rfl) rfl ?_
      refine unp3_link hW fun d58 d59 d60 hW => ?_
      refine fN_link ?_
      refine fN_link ?_
      refine fN_link ?_
      refine wsn_cons (ws_par (i := 9) (j := 10) rfl sc_law.nd rfl rfl (by decide) rfl rfl ?_)
      refine wa_cons ?_
      refine we_call h_law_are_sides hr gd ?_
      refine wa_cons ?_
      refine we_name (i := 6) rfl (.inr (.inl rfl)) rfl ?_
      refine wa_cons ?_
      refine we_name (i := 7) rfl (.inr (.inl rfl)) rfl ?_
      refine wa_cons ?_
      refine we_name (i := 8) rfl (.inr (.inl rfl)) rfl ?_
      refine wa_nil ?_
      refine allV3 ?_
      refine to_law_are_sides hW fun d61 hW => ?_
      refine wa_cons ?_
      refine we_blt (cb_reprU hsys gd hu2) m_repr PyProof.Rows.boot_repr rprU_mono ?_
      refine wa_cons ?_
      refine we_name (i := 4) rfl (.inl rfl) rfl ?_
      refine wa_nil ?_
      refine rprU_mono _ _ _ (fun d62 hW => ?_) hW
      refine wa_nil ?_
      refine ⟨_, _, rfl, ?_⟩
      refine wsn_cons (ws_set (i := 11) sc_law.nd rfl (.inl rfl) ?_)
      refine we_caughtS (k := 14) hW hX hC hr tb_law rfl hm_law hu_law (LamX.lamS_by (sc := defScope t_law) (by decide +kernel)) rfl (fun _ _ _ _ _ => rfl) (.skip (.skip (.skip (.skip (.skip (.skip (.keep (.keep (.keep (.skip (.skip (.skip (.skip (.skip (.skip (.skip (.nil))))))))))))))))) (fun d64 hW => ?_) (fun an A outer s H E f c' hr E65 N66 hW tk => ?_)
      · refine wsn_cons (ws_ifS hW (fun k hW => ?_) (fun hW => ?_) (fun hW => ?_))
        · refine WW.wt ?_
          refine ww_or ?_
          refine wt_cmpU hu ?_
          refine we_name (i := 9) rfl (.inl rfl) rfl ?_
          refine we_cmpU hu ?_
          refine we_name (i := 11) rfl (.inl rfl) rfl ?_
          refine we_non ?_
          refine cmpU_imp hW fun t69 hW => ?_
          refine cmpU_imp hW fun t68 hW => ?_
          refine ifE2 hW (fun hW => ?_) (fun hW => ?_)
          · exact ⟨rfl, hW⟩
          · refine ww_or ?_
            refine WW.wt ?_
            refine ww_and ?_
            refine wt_cmpU hu ?_
            refine we_name (i := 11) rfl (.inl rfl) rfl ?_
            refine we_non ?_
            refine cmpU_imp hW fun t70 hW => ?_
            refine ifE2 hW (fun hW => ?_) (fun hW => ?_)
            · refine ww_and1 ?_
              refine wt_not ?_
              refine wt_val ?_
              refine we_isE m_isinstance hH ec_BadShape ?_
              refine we_name (i := 11) rfl (.inl rfl) rfl ?_
              refine isES_imp hW fun t72 hW => ?_
              refine blS_link hW fun t73 hW => ?_
              refine ifE2 hW (fun hW => ?_) (fun hW => ?_)
              · exact ⟨rfl, hW⟩
              · refine ww_or1 ?_
                refine wt_cmpU hu ?_
                refine we_blt (cb_reprU hsys gd hu2) m_repr PyProof.Rows.boot_repr rprU_mono ?_
                refine wa_cons ?_
                refine we_name (i := 4) rfl (.inl rfl) rfl ?_
                refine wa_nil ?_
                refine rprU_mono _ _ _ (fun d75 hW => ?_) hW
                refine we_name (i := 10) rfl (.inl rfl) rfl ?_
                refine cmpU_imp hW fun t74 hW => ?_
                exact ⟨rfl, hW⟩
            · refine ifE2 hW (fun hW => ?_) (fun hW => ?_)
              · exact ⟨rfl, hW⟩
              · refine ww_or1 ?_
                refine wt_cmpU hu ?_
                refine we_blt (cb_reprU hsys gd hu2) m_repr PyProof.Rows.boot_repr rprU_mono ?_
                refine wa_cons ?_
                refine we_name (i := 4) rfl (.inl rfl) rfl ?_
                refine wa_nil ?_
                refine rprU_mono _ _ _ (fun d77 hW => ?_) hW
                refine we_name (i := 10) rfl (.inl rfl) rfl ?_
                refine cmpU_imp hW fun t76 hW => ?_
                exact ⟨rfl, hW⟩
        · refine wss_cons (ws_ret ?_)
          refine we_bl ?_
          exact hW
        · refine wss_nil ?_
          refine wsn_consN (wsn_ifJ (F := fun _ => True) (A := fun r84 => _) (B := fun r84 => _) (fun (s79 : Unit) ρ om => ∃ w0 w1 w2 w3 w4 w5 w6 w7 w8 w9 w10 w11 w12 w13 : Option R, ρ = [some (.v (.obj a)), some (.v (.obj x.d)), w0, w1, w2, w3, w4, w5, w6, w7, w8, w9, w10, w11, w12, w13] ∧ om = []) hW (fun k hW => ?_) (fun r84 hW => ?_) (fun r84 hW => ?_) (fun s85 ρ om hW hR => ?_))
          · refine wt_val ?_
            refine we_name (i := 9) rfl (.inl rfl) rfl ?_
            refine blS_link hW fun t78 hW => ?_
            exact ⟨rfl, hW⟩
          · refine wsn_cons (ws_set (i := 12) sc_law.nd rfl (.inl rfl) ?_)
            refine we_tup ?_
            refine wa_cons ?_
            refine we_bty cb_tup m_tuple PyProof.Rows.boot_tuple tupF_mono ?_
            refine wa_cons ?_
            refine we_name (i := 6) rfl (.inr (.inl rfl)) rfl ?_
            refine wa_nil ?_
            refine tupF_mono _ _ _ (fun d86 hW => ?_) hW
            refine wa_cons ?_
            refine we_bty cb_tup m_tuple PyProof.Rows.boot_tuple tupF_mono ?_
            refine wa_cons ?_
            refine we_name (i := 7) rfl (.inr (.inl rfl)) rfl ?_
            refine wa_nil ?_
            refine tupF_mono _ _ _ (fun d87 hW => ?_) hW
            refine wa_cons ?_
            refine we_bty cb_tup m_tuple PyProof.Rows.boot_tuple tupF_mono ?_
            refine wa_cons ?_
            refine we_blt (cb_sortT rfl) m_sorted boot_sorted sortTF_mono ?_
            refine wa_cons ?_
            refine we_name (i := 8) rfl (.inr (.inl rfl)) rfl ?_
            refine wa_nil ?_
            refine sortTF_mono _ _ _ (fun d89 hW => ?_) hW
            refine wa_nil ?_
            refine tupF_mono _ _ _ (fun d88 hW => ?_) hW
            refine wa_nil ?_
            refine ⟨small_le (by show 3 ≤ 1000; decide), ?_⟩
            refine wsn_cons (ws_par (i := 13) (j := 14) rfl sc_law.nd rfl rfl (by decide) rfl rfl ?_)
            refine wa_cons ?_
            refine we_makeX h_Shape_init hr tx0 ?_
            refine wa_cons ?_
            refine we_name (i := 6) rfl (.inr (.inl rfl)) rfl ?_
            refine wa_cons ?_
            refine we_name (i := 7) rfl (.inr (.inl rfl)) rfl ?_
            refine wa_cons ?_
            refine we_name (i := 8) rfl (.inr (.inl rfl)) rfl ?_
            refine wa_nil ?_
            refine allV3 ?_
            refine to_Shape_init hW (fun _ q => q) fun d90 hW => ?_
            refine wa_cons ?_
            refine we_makeXW hw_Shape_init_210 hr tx0 ?_
            refine wk_cons ?_
            refine we_revT ?_
            refine we_bty cb_tup m_tuple PyProof.Rows.boot_tuple tupF_mono ?_
            refine wa_cons ?_
            refine we_name (i := 8) rfl (.inr (.inl rfl)) rfl ?_
            refine wa_nil ?_
            refine tupF_mono _ _ _ (fun d94 hW => ?_) hW
            refine revTS_imp hW fun d93 hW => ?_
            refine wk_cons ?_
            refine we_bty cb_tup m_tuple PyProof.Rows.boot_tuple tupF_mono ?_
            refine wa_cons ?_
            refine we_name (i := 7) rfl (.inr (.inl rfl)) rfl ?_
            refine wa_nil ?_
            refine tupF_mono _ _ _ (fun d95 hW => ?_) hW
            refine wk_cons ?_
            refine we_bty cb_tup m_tuple PyProof.Rows.boot_tuple tupF_mono ?_
            refine wa_cons ?_
            refine we_name (i := 6) rfl (.inr (.inl rfl)) rfl ?_
            refine wa_nil ?_
            refine tupF_mono _ _ _ (fun d96 hW => ?_) hW
            refine wk_nil ?_
            refine allV3 ?_
            refine ⟨rfl, ?_⟩
            refine to_Shape_init hW (fun _ q => q) fun d92 hW => ?_
            refine wa_nil ?_
            refine ⟨_, _, rfl, ?_⟩
            obtain ⟨thr, keep, hA, hW⟩ := hW
            have k0 := keep _ List.mem_cons_self
            have k1 := keep _ (List.mem_cons_of_mem _ List.mem_cons_self)
            have k2 := keep _ (List.mem_cons_of_mem _ (List.mem_cons_of_mem _ List.mem_cons_self))
            refine wsn_scrap (io := 15) (i1 := 6) (i2 := 7) (i3 := 8) (ρB := [some (.v (.obj a)), some (.v (.obj x.d)), none, none, none, none, none, none, none, none, none, none, some (.v (.tup [d86, d87, d88])), some (.v d90), some (.v d92), none]) (fun _ => rfl) rfl rfl PassesOwn.never rfl sc_law.nd rfl (.inl rfl) rfl (.inr (.inl rfl)) rfl (.inr (.inl rfl)) rfl (.inr (.inl rfl)) rfl rfl rfl (thr _ List.mem_cons_self) (thr _ (List.mem_cons_of_mem _ List.mem_cons_self)) (thr _ (List.mem_cons_of_mem _ (List.mem_cons_of_mem _ List.mem_cons_self))) (by decide) (by decide) (by decide) (by decide) (by decide) (by decide) (by simp) rfl rfl rfl rfl rfl (fun i r h => ?_) (fun an' ρ' om' k p hl hB hio hk hx => ?_) (fun an' ρ' om' ds hl hB hio => ?_) ?_
            · match i, h with
              | 0, h => cases h; exact ⟨_, rfl, rfl, rfl⟩
              | 1, h => cases h; exact ⟨_, rfl, rfl, rfl⟩
              | 12, h => cases h; exact ⟨_, rfl, rfl, k0⟩
              | 13, h => cases h; exact ⟨_, rfl, rfl, k1⟩
              | 14, h => cases h; exact ⟨_, rfl, rfl, k2⟩
              | 2, h | 3, h | 4, h | 5, h | 6, h | 7, h | 8, h | 9, h | 10, h | 11, h | 15, h => cases h
              | n + 16, h => cases h
            · refine wss_one (ws_if (wt_val (we_blt (cb_isiM hI) m_isinstance PyProof.Rows.boot_isinstance isiMF_mono (wa_cons (we_retie (we_name (i := 15) rfl (.inl rfl) hio ⟨p, k, rfl, hk, wa_cons (we_ty m_list PyProof.Rows.boot_list (wa_nil ?_))⟩))))))
              obtain ⟨xs, hx⟩ := hx
              refine isi_ownL hx (blR_at (if_t ?_))
              refine wss_cons (ws_expr (we_clearL (we_retie (we_name (i := 15) rfl (.inl rfl) hio ⟨p, k, rfl, hk, k, xs, rfl, hx, ?_⟩))))
              have hx2 : (om'.set k (some (.lst [])))[k]? = some (some (.lst [])) := List.getElem?_set_self (List.getElem?_eq_some_iff.mp hx).1
              refine wss_one (ws_expr (we_append (we_retie (we_name (i := 15) rfl (.inl rfl) hio ⟨p, k, rfl, hk, k, rfl, ⟨[], hx2⟩, ?_⟩))))
              have hW := hA
              have ho1 := hB 1 _ rfl
              have ho12 := hB 12 _ rfl
              refine we_call h_law_pick hr gd ?_
              refine wa_cons ?_
              refine we_name (i := 1) rfl (.inl rfl) ho1 ?_
              refine wa_cons ?_
              refine we_bin ?_
              refine we_ixN hu ?_
              refine we_name (i := 12) rfl (.inl rfl) ho12 ?_
              refine we_int ?_
              refine ixN_imp hW fun d113 hW => ?_
              refine we_ixN hu ?_
              refine we_name (i := 12) rfl (.inl rfl) ho12 ?_
              refine we_int ?_
              refine ixN_imp hW fun d114 hW => ?_
              refine we_bin.binD_imp hW fun d112 hW => ?_
              refine wa_nil ?_
              refine allV2 ?_
              refine to_law_pick hW fun d111 hW => ?_
              exact ⟨_, [], rfl, hx2, by show (0 : Nat) < sizeLine; decide, rfl, _, by rw [List.set_set]⟩
            · refine wss_one (ws_if (wt_val (we_blt (cb_isiM hI) m_isinstance PyProof.Rows.boot_isinstance isiMF_mono (wa_cons (we_name (i := 15) rfl (.inl rfl) hio (wa_cons (we_ty m_list PyProof.Rows.boot_list (wa_nil ?_))))))))
              exact isi_tup (blR_at (if_f (wss_nil ⟨rfl, rfl⟩)))
            · refine wssn_of ?_
              refine wss_cons (ws_ifS hW (fun k hW => ?_) (fun hW => ?_) (fun hW => ?_))
              · refine WW.wt ?_
                refine ww_or ?_
                refine wt_cmpU hu ?_
                refine we_blt (cb_reprU hsys gd hu2) m_repr PyProof.Rows.boot_repr rprU_mono ?_
                refine wa_cons ?_
                refine we_tup ?_
                refine wa_cons ?_
                refine we_propU p_Shape_columns hr ?_
                refine we_name (i := 13) rfl (.inl rfl) rfl ?_
                refine fldS_imp hW fun d118 hW => ?_
                refine wa_cons ?_
                refine we_propU p_Shape_blanks hr ?_
                refine we_name (i := 13) rfl (.inl rfl) rfl ?_
                refine fldS_imp hW fun d119 hW => ?_
                refine wa_cons ?_
                refine we_propU p_Shape_lacking hr ?_
                refine we_name (i := 13) rfl (.inl rfl) rfl ?_
                refine fldS_imp hW fun d120 hW => ?_
                refine wa_nil ?_
                refine ⟨small_le (by show 3 ≤ 1000; decide), ?_⟩
                refine wa_nil ?_
                refine rprU_mono _ _ _ (fun d117 hW => ?_) hW
                refine we_blt (cb_reprU hsys gd hu2) m_repr PyProof.Rows.boot_repr rprU_mono ?_
                refine wa_cons ?_
                refine we_name (i := 12) rfl (.inl rfl) rfl ?_
                refine wa_nil ?_
                refine rprU_mono _ _ _ (fun d121 hW => ?_) hW
                refine cmpU_imp hW fun t116 hW => ?_
                refine ifE2 hW (fun hW => ?_) (fun hW => ?_)
                · exact ⟨rfl, hW⟩
                · refine ww_or1 ?_
                  refine wt_eqA1 true h_Shape_eq (fun _ => neA_Shape) i_Shape  hr ?_
                  refine we_name (i := 13) rfl (.inl rfl) rfl ?_
                  refine we_name (i := 14) rfl (.inl rfl) rfl ?_
                  refine eqAS_imp hW fun hW => ?_
                  refine to_Shape_eq hW fun d122 hW => ?_
                  refine blS_mono hW fun t123 hW => ?_
                  exact ⟨rfl, hW⟩
              · refine wss_cons (ws_ret ?_)
                refine we_bl ?_
                exact hW
              · refine wss_nil ?_
                refine wss_cons (ws_ifS hW (fun k hW => ?_) (fun hW => ?_) (fun hW => ?_))
                · refine wt_not ?_
                  refine wt_val ?_
                  refine we_call h_law_kept_right hr gd ?_
                  refine wa_cons ?_
                  refine we_name (i := 13) rfl (.inl rfl) rfl ?_
                  refine wa_cons ?_
                  refine we_name (i := 12) rfl (.inl rfl) rfl ?_
                  refine wa_nil ?_
                  refine allV2 ?_
                  refine to_law_kept_right hW fun d124 hW => ?_
                  refine blS_link hW fun t125 hW => ?_
                  exact ⟨rfl, hW⟩
                · refine wss_cons (ws_ret ?_)
                  refine we_bl ?_
                  exact hW
                · refine wss_nil ?_
                  refine wss_cons (ws_ifS hW (fun k hW => ?_) (fun hW => ?_) (fun hW => ?_))
                  · refine WW.wt ?_
                    refine ww_or ?_
                    refine wt_not ?_
                    refine wt_val ?_
                    refine we_call h_law_unlike_right hr gd ?_
                    refine wa_cons ?_
                    refine we_name (i := 1) rfl (.inl rfl) rfl ?_
                    refine wa_cons ?_
                    refine we_name (i := 13) rfl (.inl rfl) rfl ?_
                    refine wa_cons ?_
                    refine we_name (i := 12) rfl (.inl rfl) rfl ?_
                    refine wa_nil ?_
                    refine allV3 ?_
                    refine to_law_unlike_right hW fun d126 hW => ?_
                    refine blS_link hW fun t127 hW => ?_
                    refine ifE2 hW (fun hW => ?_) (fun hW => ?_)
                    · exact ⟨rfl, hW⟩
                    · refine ww_or1 ?_
                      refine wt_cmpU hu ?_
                      refine we_propU p_Shape_lacking hr ?_
                      refine we_makeXd h_Shape_init_d1 hr tx0 ?_
                      refine wa_cons ?_
                      refine we_ixN hu ?_
                      refine we_name (i := 12) rfl (.inl rfl) rfl ?_
                      refine we_int ?_
                      refine ixN_imp hW fun d131 hW => ?_
                      refine wa_cons ?_
                      refine we_ixN hu ?_
                      refine we_name (i := 12) rfl (.inl rfl) rfl ?_
                      refine we_int ?_
                      refine ixN_imp hW fun d132 hW => ?_
                      refine wa_nil ?_
                      refine allV2 ?_
                      refine to_Shape_init hW (fun _ q => q) fun d130 hW => ?_
                      refine fldS_imp hW fun d129 hW => ?_
                      refine we_tup ?_
                      refine wa_nil ?_
                      refine ⟨small_le (by show 0 ≤ 1000; decide), ?_⟩
                      refine cmpU_imp hW fun t128 hW => ?_
                      exact ⟨rfl, hW⟩
                  · refine wss_cons (ws_ret ?_)
                    refine we_bl ?_
                    exact hW
                  · refine wss_nil ?_
                    exact wss_nil ⟨_, ⟨_, _, _, _, _, _, _, _, _, _, _, _, _, _, rfl, rfl⟩, hW⟩
          · exact wssn_of (wss_nil ⟨_, ⟨_, _, _, _, _, _, _, _, _, _, _, _, _, _, rfl, rfl⟩, hW⟩)
          · obtain ⟨w0, w1, w2, w3, w4, w5, w6, w7, w8, w9, w10, w11, w12, w13, rfl, rfl⟩ := hR
            exact wssn_of (wss_nil ⟨_, ⟨_, _, _, _, _, _, _, _, _, _, _, _, _, _, rfl, rfl⟩, hW⟩)
      · have hu := hu65 hr
        have hu1 := hu1_of hu
        have hu2 := hu66 hr
        refine we_makeX h_Shape_init hr tk ?_
        refine wa_cons ?_
        refine we_name (i := 6) rfl (.inr (.inr rfl)) rfl ?_
        refine wa_cons ?_
        refine we_name (i := 7) rfl (.inr (.inr rfl)) rfl ?_
        refine wa_cons ?_
        refine we_name (i := 8) rfl (.inr (.inr rfl)) rfl ?_
        refine wa_nil ?_
        refine allV3 ?_
        refine to_Shape_init hW (fun _ q => q) fun d67 hW => ?_
        exact hW
  · obtain ⟨u137, u138, u139, u140, u141, u142, u143, u144, u145, u146, u147, u148, u149, u150, rfl, rfl⟩ := hR
    refine wssn_of ?_
    refine wss_cons (ws_ret ?_)
    refine we_bl ?_
    exact hW
end
end K02

namespace K02
open PySem PySem.Spec L2 DL
abbrev t_Shape_prop_columns : Stmt := inClass (top 14) 1
abbrev t_Shape_prop_blanks : Stmt := inClass (top 14) 2
abbrev t_Shape_prop_lacking : Stmt := inClass (top 14) 3
theorem all_mk {l : PySem.W.OpenLaw} {w : World} {K : PySem.W.Frag} {h : Heap} {mg : Str → Option Value} {fa : Addr} (X : K.In h) (G : h.Ns mainGlobals mg) (hfa : mg "law" = some (.ref fa)) (hlaw : ∀ (c : Cl) (n : Nat), n ≤ 63 → S_law c n fun d => d = .bl true)
    {CShape E0 E1 f6 f7 f8 f9 f10 f11 f12 f13 f14 f15 T15 f16 f17 f18 f19 f20 f21 f22 f23 f24 f25 f26 f27 f28 cd_law tP_law f29 P29 f30 P30 f31 P31 E15_0 : Addr} {od6 an6 od7 an7 od8 an8 od9 an9 od10 an10 od11 an11 od12 an12 od13 an13 od14 an14 od15 an15 odT15 od16 an16 od17 an17 od18 an18 od19 an19 od20 an20 od21 an21 od22 an22 od23 an23 od24 an24 od25 an25 od26 an26 od27 an27 od28 an28 od29 an29 od30 an30 od31 an31 odE15_0 : Option Addr} {sl6 sl7 sl8 sl9 sl10 sl11 sl12 sl13 sl14 sl15 slT15 sl16 sl17 sl18 sl19 sl20 sl21 sl22 sl23 sl24 sl25 sl26 sl27 sl28 sl29 sl30 sl31 slE15_0 : Array (Option Value)} {v1 v2 v3 v4 v5 oc6 kV6 dc6 pm6 cd6 ct6 oc7 kV7 dc7 pm7 cd7 ct7 oc8 kV8 dc8 pm8 cd8 ct8 oc9 kV9 dc9 pm9 cd9 ct9 oc10 kV10 dc10 pm10 cd10 ct10 oc11 kV11 dc11 pm11 cd11 ct11 oc12 kV12 dc12 pm12 cd12 ct12 oc13 kV13 dc13 pm13 cd13 ct13 oc14 kV14 dc14 pm14 cd14 ct14 oc15 kV15 dc15 pm15 cd15 ct15 u15_0 ocT15 oc16 kV16 dc16 pm16 cd16 ct16 oc17 kV17 dc17 pm17 cd17 ct17 oc18 kV18 dc18 pm18 cd18 ct18 oc19 kV19 dc19 pm19 cd19 ct19 oc20 kV20 dc20 pm20 cd20 ct20 oc21 kV21 dc21 pm21 cd21 ct21 oc22 kV22 dc22 pm22 cd22 ct22 oc23 kV23 dc23 pm23 cd23 ct23 oc24 kV24 dc24 pm24 cd24 ct24 oc25 kV25 dc25 pm25 cd25 ct25 oc26 kV26 dc26 pm26 cd26 ct26 oc27 kV27 dc27 pm27 cd27 ct27 oc28 kV28 dc28 pm28 ct28 oc29 kV29 dc29 pm29 cd29 ct29 oc30 kV30 dc30 pm30 cd30 ct30 oc31 kV31 dc31 pm31 cd31 ct31 ocE15_0 : Value} {r29 r30 r31 : List Value} {nT15 : Nat} {nE15_0 : Nat}
    (aShape : PySem.W.nsIn K mainGlobals "Shape" = some (some (.ref CShape)))
    (pgShape : PySem.W.plainGet K CShape Str.empty = true)
    (hdShape : PySem.W.hasDictIn K CShape = true)
    (poShape : PySem.W.plainOver K CShape = true)
    (saShape : PySem.W.findIn K (.ref CShape) "__setattr__" = some (some (.builtin "object.__setattr__")))
    (mkShape : PySem.W.makesIn K CShape = true)
    (kcShape : PySem.W.keepIn K (.ref CShape) = true)
    (xaShape : PySem.W.findIn K (.ref CShape) "__class__" = some (some (.builtin "object.__class__")))
    (xmShape : PySem.W.mroIn K CShape (.type "object") = some true)
    (xoShape : PySem.W.kitOne K (.ref CShape) (.ref CShape) = some true)
    (x0Shape : PySem.W.kitOne K (.type "NoneType") (.ref CShape) = some false)
    (x1Shape : PySem.W.kitOne K (.type "bool") (.ref CShape) = some false)
    (x2Shape : PySem.W.kitOne K (.type "int") (.ref CShape) = some false)
    (x3Shape : PySem.W.kitOne K (.type "str") (.ref CShape) = some false)
    (x4Shape : PySem.W.kitOne K (.type "list") (.ref CShape) = some false)
    (x5Shape : PySem.W.kitOne K (.type "tuple") (.ref CShape) = some false)
    (x6Shape : PySem.W.kitOne K (.type "dict") (.ref CShape) = some false)
    (y0Shape : PySem.W.kitOne K (.ref CShape) (.type "int") = some false)
    (y1Shape : PySem.W.kitOne K (.ref CShape) (.type "bool") = some false)
    (y2Shape : PySem.W.kitOne K (.ref CShape) (.type "str") = some false)
    (y3Shape : PySem.W.kitOne K (.ref CShape) (.type "list") = some false)
    (y4Shape : PySem.W.kitOne K (.ref CShape) (.type "tuple") = some false)
    (y5Shape : PySem.W.kitOne K (.ref CShape) (.type "dict") = some false)
    (zneA_Shape : PySem.W.findIn K (.ref CShape) "__ne__" = some (some (.builtin "object.__ne__")))
    (xn0 : PySem.W.specialIn K (.builtin "object.__class__") "__get__" = some (some (.builtin "getset_descriptor.__get__")))
    (xt0 : PySem.W.takesIn K (.builtin "object.__class__") = some true)
    (qn_Shape_own_columns : PySem.W.findIn K (.ref CShape) "own_columns" = some none)
    (qn_Shape_own_blanks : PySem.W.findIn K (.ref CShape) "own_blanks" = some none)
    (qn_Shape_own_lacking : PySem.W.findIn K (.ref CShape) "own_lacking" = some none)
    (zm_isinstance : PySem.W.nsIn K mainGlobals "isinstance" = some none)
    (zm_int : PySem.W.nsIn K mainGlobals "int" = some none)
    (zm_bool : PySem.W.nsIn K mainGlobals "bool" = some none)
    (zm_list : PySem.W.nsIn K mainGlobals "list" = some none)
    (zm_tuple : PySem.W.nsIn K mainGlobals "tuple" = some none)
    (zm_str : PySem.W.nsIn K mainGlobals "str" = some none)
    (zm_len : PySem.W.nsIn K mainGlobals "len" = some none)
    (gm_MOST_LETTERS : PySem.W.nsIn K mainGlobals "MOST_LETTERS" = some (some v1))
    (em_MOST_LETTERS : ∃ t, v1 = .int 8 t)
    (zm_all : PySem.W.nsIn K mainGlobals "all" = some none)
    (gm_LETTERS : PySem.W.nsIn K mainGlobals "LETTERS" = some (some v2))
    (em_LETTERS : ∃ t, v2 = .str "abcdefghijklmnopqrstuvwxyz" t)
    (zm_set : PySem.W.nsIn K mainGlobals "set" = some none)
    (gm_MOST_COLUMNS : PySem.W.nsIn K mainGlobals "MOST_COLUMNS" = some (some v3))
    (em_MOST_COLUMNS : ∃ t, v3 = .int 3 t)
    (gm_MOST_BLANKS : PySem.W.nsIn K mainGlobals "MOST_BLANKS" = some (some v4))
    (em_MOST_BLANKS : ∃ t, v4 = .int 3 t)
    (gm_MOST_NAMES : PySem.W.nsIn K mainGlobals "MOST_NAMES" = some (some v5))
    (em_MOST_NAMES : ∃ t, v5 = .int 5 t)
    (zm_sorted : PySem.W.nsIn K mainGlobals "sorted" = some none)
    (zm_zip : PySem.W.nsIn K mainGlobals "zip" = some none)
    (zm_dict : PySem.W.nsIn K mainGlobals "dict" = some none)
    (zm_range : PySem.W.nsIn K mainGlobals "range" = some none)
    (zm_min : PySem.W.nsIn K mainGlobals "min" = some none)
    (zm_enumerate : PySem.W.nsIn K mainGlobals "enumerate" = some none)
    (zm_repr : PySem.W.nsIn K mainGlobals "repr" = some none)
    (aE0 : PySem.W.nsIn K mainGlobals "WorthError" = some (some (.ref E0)))
    (aE1 : PySem.W.nsIn K mainGlobals "BadShape" = some (some (.ref E1)))
    (ndE : ([E0, E1] : List Addr).Nodup)
    (hH : ErrHs K 2 ⟨CShape, 0, 0, 0, 0, fun i => ([E0, E1] : List Addr).getD i 0, l.prog, w⟩)
    (mE0 : EM K E0 veR)
    (mEs : AllE (fun E => EM K E (.ref E0 :: veR)) [E1])
    (e_BadShape : ErrM K mg "BadShape" E1)
    (hXa : AllE (fun E => PySem.W.exmOne K (.ref E) (.ref E0) = some true) [E0, E1])
    (zm_abs : PySem.W.nsIn K mainGlobals "abs" = some none)
    (a6 : PySem.W.nsIn K mainGlobals "_law_blend" = some (some (.ref f6)))
    (l6 : K.lookup f6 = some ⟨oc6, od6, .func (PySem.W.fnOf "_law_blend" "_law_blend" (defArgs t_blend) (defBody t_blend) (defScope t_blend) .none kV6 dc6 pm6 an6 cd6 ct6), sl6⟩)
    (c6 : PySem.W.codeIn K cd6 "_law_blend" = true)
    (k6 : PySem.W.keepIn K (.ref f6) = true)
    (a7 : PySem.W.nsIn K mainGlobals "_law_take" = some (some (.ref f7)))
    (l7 : K.lookup f7 = some ⟨oc7, od7, .func (PySem.W.fnOf "_law_take" "_law_take" (defArgs t_take) (defBody t_take) (defScope t_take) .none kV7 dc7 pm7 an7 cd7 ct7), sl7⟩)
    (c7 : PySem.W.codeIn K cd7 "_law_take" = true)
    (k7 : PySem.W.keepIn K (.ref f7) = true)
    (a8 : PySem.W.nsIn K mainGlobals "_law_begin" = some (some (.ref f8)))
    (l8 : K.lookup f8 = some ⟨oc8, od8, .func (PySem.W.fnOf "_law_begin" "_law_begin" (defArgs t_begin) (defBody t_begin) (defScope t_begin) .none kV8 dc8 pm8 an8 cd8 ct8), sl8⟩)
    (c8 : PySem.W.codeIn K cd8 "_law_begin" = true)
    (k8 : PySem.W.keepIn K (.ref f8) = true)
    (a9 : PySem.W.nsIn K mainGlobals "_law_caught" = some (some (.ref f9)))
    (l9 : K.lookup f9 = some ⟨oc9, od9, .func (PySem.W.fnOf "_law_caught" "_law_caught" (defArgs t_caught) (defBody t_caught) (defScope t_caught) .none kV9 dc9 pm9 an9 cd9 ct9), sl9⟩)
    (c9 : PySem.W.codeIn K cd9 "_law_caught" = true)
    (k9 : PySem.W.keepIn K (.ref f9) = true)
    (a10 : PySem.W.nsIn K mainGlobals "is_number" = some (some (.ref f10)))
    (l10 : K.lookup f10 = some ⟨oc10, od10, .func (PySem.W.fnOf "is_number" "is_number" (defArgs t_is_number) (defBody t_is_number) (defScope t_is_number) .none kV10 dc10 pm10 an10 cd10 ct10), sl10⟩)
    (c10 : PySem.W.codeIn K cd10 "is_number" = true)
    (k10 : PySem.W.keepIn K (.ref f10) = true)
    (a11 : PySem.W.nsIn K mainGlobals "is_list" = some (some (.ref f11)))
    (l11 : K.lookup f11 = some ⟨oc11, od11, .func (PySem.W.fnOf "is_list" "is_list" (defArgs t_is_list) (defBody t_is_list) (defScope t_is_list) .none kV11 dc11 pm11 an11 cd11 ct11), sl11⟩)
    (c11 : PySem.W.codeIn K cd11 "is_list" = true)
    (k11 : PySem.W.keepIn K (.ref f11) = true)
    (a12 : PySem.W.nsIn K mainGlobals "is_name" = some (some (.ref f12)))
    (l12 : K.lookup f12 = some ⟨oc12, od12, .func (PySem.W.fnOf "is_name" "is_name" (defArgs t_is_name) (defBody t_is_name) (defScope t_is_name) .none kV12 dc12 pm12 an12 cd12 ct12), sl12⟩)
    (c12 : PySem.W.codeIn K cd12 "is_name" = true)
    (k12 : PySem.W.keepIn K (.ref f12) = true)
    (a13 : PySem.W.nsIn K mainGlobals "are_names" = some (some (.ref f13)))
    (l13 : K.lookup f13 = some ⟨oc13, od13, .func (PySem.W.fnOf "are_names" "are_names" (defArgs t_are_names) (defBody t_are_names) (defScope t_are_names) .none kV13 dc13 pm13 an13 cd13 ct13), sl13⟩)
    (c13 : PySem.W.codeIn K cd13 "are_names" = true)
    (k13 : PySem.W.keepIn K (.ref f13) = true)
    (a14 : PySem.W.nsIn K mainGlobals "are_sides" = some (some (.ref f14)))
    (l14 : K.lookup f14 = some ⟨oc14, od14, .func (PySem.W.fnOf "are_sides" "are_sides" (defArgs t_are_sides) (defBody t_are_sides) (defScope t_are_sides) .none kV14 dc14 pm14 an14 cd14 ct14), sl14⟩)
    (c14 : PySem.W.codeIn K cd14 "are_sides" = true)
    (k14 : PySem.W.keepIn K (.ref f14) = true)
    (a15 : PySem.W.findIn K (.ref CShape) "__init__" = some (some (.ref f15)))
    (l15 : K.lookup f15 = some ⟨oc15, od15, .func (PySem.W.fnOf "__init__" "Shape.__init__" (defArgs t_Shape_init) (defBody t_Shape_init) (defScope t_Shape_init) (.ref T15) kV15 dc15 pm15 an15 cd15 ct15), sl15⟩)
    (lT15 : K.lookup T15 = some ⟨ocT15, odT15, .seq #[u15_0] nT15, slT15⟩)
    (c15 : PySem.W.codeIn K cd15 "Shape.__init__" = true)
    (k15 : PySem.W.keepIn K (.ref f15) = true)
    (i15 : PySem.W.isFn K (.ref f15) = true)
    (a16 : PySem.W.findIn K (.ref CShape) "__eq__" = some (some (.ref f16)))
    (l16 : K.lookup f16 = some ⟨oc16, od16, .func (PySem.W.fnOf "__eq__" "Shape.__eq__" (defArgs t_Shape_eq) (defBody t_Shape_eq) (defScope t_Shape_eq) .none kV16 dc16 pm16 an16 cd16 ct16), sl16⟩)
    (c16 : PySem.W.codeIn K cd16 "Shape.__eq__" = true)
    (k16 : PySem.W.keepIn K (.ref f16) = true)
    (i16 : PySem.W.isFn K (.ref f16) = true)
    (a17 : PySem.W.findIn K (.ref CShape) "is_worth" = some (some (.ref f17)))
    (l17 : K.lookup f17 = some ⟨oc17, od17, .func (PySem.W.fnOf "is_worth" "Shape.is_worth" (defArgs t_Shape_is_worth) (defBody t_Shape_is_worth) (defScope t_Shape_is_worth) .none kV17 dc17 pm17 an17 cd17 ct17), sl17⟩)
    (c17 : PySem.W.codeIn K cd17 "Shape.is_worth" = true)
    (k17 : PySem.W.keepIn K (.ref f17) = true)
    (i17 : PySem.W.isFn K (.ref f17) = true)
    (a18 : PySem.W.findIn K (.ref CShape) "is_row" = some (some (.ref f18)))
    (l18 : K.lookup f18 = some ⟨oc18, od18, .func (PySem.W.fnOf "is_row" "Shape.is_row" (defArgs t_Shape_is_row) (defBody t_Shape_is_row) (defScope t_Shape_is_row) .none kV18 dc18 pm18 an18 cd18 ct18), sl18⟩)
    (c18 : PySem.W.codeIn K cd18 "Shape.is_row" = true)
    (k18 : PySem.W.keepIn K (.ref f18) = true)
    (i18 : PySem.W.isFn K (.ref f18) = true)
    (a19 : PySem.W.findIn K (.ref CShape) "is_asking" = some (some (.ref f19)))
    (l19 : K.lookup f19 = some ⟨oc19, od19, .func (PySem.W.fnOf "is_asking" "Shape.is_asking" (defArgs t_Shape_is_asking) (defBody t_Shape_is_asking) (defScope t_Shape_is_asking) .none kV19 dc19 pm19 an19 cd19 ct19), sl19⟩)
    (c19 : PySem.W.codeIn K cd19 "Shape.is_asking" = true)
    (k19 : PySem.W.keepIn K (.ref f19) = true)
    (i19 : PySem.W.isFn K (.ref f19) = true)
    (a20 : PySem.W.nsIn K mainGlobals "_law_pick" = some (some (.ref f20)))
    (l20 : K.lookup f20 = some ⟨oc20, od20, .func (PySem.W.fnOf "_law_pick" "_law_pick" (defArgs t_law_pick) (defBody t_law_pick) (defScope t_law_pick) .none kV20 dc20 pm20 an20 cd20 ct20), sl20⟩)
    (c20 : PySem.W.codeIn K cd20 "_law_pick" = true)
    (k20 : PySem.W.keepIn K (.ref f20) = true)
    (a21 : PySem.W.nsIn K mainGlobals "_law_words" = some (some (.ref f21)))
    (l21 : K.lookup f21 = some ⟨oc21, od21, .func (PySem.W.fnOf "_law_words" "_law_words" (defArgs t_law_words) (defBody t_law_words) (defScope t_law_words) .none kV21 dc21 pm21 an21 cd21 ct21), sl21⟩)
    (c21 : PySem.W.codeIn K cd21 "_law_words" = true)
    (k21 : PySem.W.keepIn K (.ref f21) = true)
    (a22 : PySem.W.nsIn K mainGlobals "_law_frame" = some (some (.ref f22)))
    (l22 : K.lookup f22 = some ⟨oc22, od22, .func (PySem.W.fnOf "_law_frame" "_law_frame" (defArgs t_law_frame) (defBody t_law_frame) (defScope t_law_frame) .none kV22 dc22 pm22 an22 cd22 ct22), sl22⟩)
    (c22 : PySem.W.codeIn K cd22 "_law_frame" = true)
    (k22 : PySem.W.keepIn K (.ref f22) = true)
    (a23 : PySem.W.nsIn K mainGlobals "_law_are_names" = some (some (.ref f23)))
    (l23 : K.lookup f23 = some ⟨oc23, od23, .func (PySem.W.fnOf "_law_are_names" "_law_are_names" (defArgs t_law_are_names) (defBody t_law_are_names) (defScope t_law_are_names) .none kV23 dc23 pm23 an23 cd23 ct23), sl23⟩)
    (c23 : PySem.W.codeIn K cd23 "_law_are_names" = true)
    (k23 : PySem.W.keepIn K (.ref f23) = true)
    (a24 : PySem.W.nsIn K mainGlobals "_law_are_sides" = some (some (.ref f24)))
    (l24 : K.lookup f24 = some ⟨oc24, od24, .func (PySem.W.fnOf "_law_are_sides" "_law_are_sides" (defArgs t_law_are_sides) (defBody t_law_are_sides) (defScope t_law_are_sides) .none kV24 dc24 pm24 an24 cd24 ct24), sl24⟩)
    (c24 : PySem.W.codeIn K cd24 "_law_are_sides" = true)
    (k24 : PySem.W.keepIn K (.ref f24) = true)
    (a25 : PySem.W.nsIn K mainGlobals "_law_bent_lists" = some (some (.ref f25)))
    (l25 : K.lookup f25 = some ⟨oc25, od25, .func (PySem.W.fnOf "_law_bent_lists" "_law_bent_lists" (defArgs t_law_bent_lists) (defBody t_law_bent_lists) (defScope t_law_bent_lists) .none kV25 dc25 pm25 an25 cd25 ct25), sl25⟩)
    (c25 : PySem.W.codeIn K cd25 "_law_bent_lists" = true)
    (k25 : PySem.W.keepIn K (.ref f25) = true)
    (a26 : PySem.W.nsIn K mainGlobals "_law_unlike_right" = some (some (.ref f26)))
    (l26 : K.lookup f26 = some ⟨oc26, od26, .func (PySem.W.fnOf "_law_unlike_right" "_law_unlike_right" (defArgs t_law_unlike_right) (defBody t_law_unlike_right) (defScope t_law_unlike_right) .none kV26 dc26 pm26 an26 cd26 ct26), sl26⟩)
    (c26 : PySem.W.codeIn K cd26 "_law_unlike_right" = true)
    (k26 : PySem.W.keepIn K (.ref f26) = true)
    (a27 : PySem.W.nsIn K mainGlobals "_law_kept_right" = some (some (.ref f27)))
    (l27 : K.lookup f27 = some ⟨oc27, od27, .func (PySem.W.fnOf "_law_kept_right" "_law_kept_right" (defArgs t_law_kept_right) (defBody t_law_kept_right) (defScope t_law_kept_right) .none kV27 dc27 pm27 an27 cd27 ct27), sl27⟩)
    (c27 : PySem.W.codeIn K cd27 "_law_kept_right" = true)
    (k27 : PySem.W.keepIn K (.ref f27) = true)
    (a28 : PySem.W.nsIn K mainGlobals "law" = some (some (.ref f28)))
    (l28 : K.lookup f28 = some ⟨oc28, od28, .func (PySem.W.fnOf "law" "law" (defArgs t_law) (defBody t_law) (defScope t_law) .none kV28 dc28 pm28 an28 (.ref cd_law) ct28), sl28⟩)
    (c28 : PySem.W.codeIn K (.ref cd_law) "law" = true)
    (k28 : PySem.W.keepIn K (.ref f28) = true)
    (tc_law : PySem.W.CodeHd h cd_law tP_law ∧ h.get? tP_law = some { cls := .none, data := .fields #[] })
    (tn_law : K.lookup tP_law = none)
    (a29 : PySem.W.findIn K (.ref CShape) "columns" = some (some (.ref P29)))
    (g29 : PySem.W.specialIn K (.ref P29) "__get__" = some (some (.builtin "property.__get__")))
    (t29 : PySem.W.takesIn K (.ref P29) = some true)
    (h29 : PySem.W.recIn K P29 "property" = some (.ref f29 :: r29))
    (l29 : K.lookup f29 = some ⟨oc29, od29, .func (PySem.W.fnOf "columns" "Shape.columns" (defArgs t_Shape_prop_columns) (defBody t_Shape_prop_columns) (defScope t_Shape_prop_columns) .none kV29 dc29 pm29 an29 cd29 ct29), sl29⟩)
    (c29 : PySem.W.codeIn K cd29 "Shape.columns" = true)
    (a30 : PySem.W.findIn K (.ref CShape) "blanks" = some (some (.ref P30)))
    (g30 : PySem.W.specialIn K (.ref P30) "__get__" = some (some (.builtin "property.__get__")))
    (t30 : PySem.W.takesIn K (.ref P30) = some true)
    (h30 : PySem.W.recIn K P30 "property" = some (.ref f30 :: r30))
    (l30 : K.lookup f30 = some ⟨oc30, od30, .func (PySem.W.fnOf "blanks" "Shape.blanks" (defArgs t_Shape_prop_blanks) (defBody t_Shape_prop_blanks) (defScope t_Shape_prop_blanks) .none kV30 dc30 pm30 an30 cd30 ct30), sl30⟩)
    (c30 : PySem.W.codeIn K cd30 "Shape.blanks" = true)
    (a31 : PySem.W.findIn K (.ref CShape) "lacking" = some (some (.ref P31)))
    (g31 : PySem.W.specialIn K (.ref P31) "__get__" = some (some (.builtin "property.__get__")))
    (t31 : PySem.W.takesIn K (.ref P31) = some true)
    (h31 : PySem.W.recIn K P31 "property" = some (.ref f31 :: r31))
    (l31 : K.lookup f31 = some ⟨oc31, od31, .func (PySem.W.fnOf "lacking" "Shape.lacking" (defArgs t_Shape_prop_lacking) (defBody t_Shape_prop_lacking) (defScope t_Shape_prop_lacking) .none kV31 dc31 pm31 an31 cd31 ct31), sl31⟩)
    (c31 : PySem.W.codeIn K cd31 "Shape.lacking" = true)
    (eT15_0 : u15_0 = .ref E15_0)
    (lE15_0 : K.lookup E15_0 = some ⟨ocE15_0, odE15_0, .seq #[] nE15_0, slE15_0⟩)
    (cE15_0 : ocE15_0 = .type "tuple")
    (ndT : ([tP_law] : List Addr).Nodup)
    : ∃ (fd : FuncData) (cs : List (Addr × Addr)) (sp : Sp), (∀ p ∈ cs, h.get? p.2 = some { cls := .none, data := .fields #[] }) ∧ (∀ p ∈ cs, K.lookup p.2 = none) ∧ (∀ p ∈ cs, PySem.W.CodeHd h p.1 p.2) ∧ (∀ (s : Shared) (v : Value), BindsTo s fd ⟨[v], []⟩ [("_law_script", v)]) ∧ (∀ (H : Hp) (a : Addr) (ns : List Int), ns.length ≤ 63 → (∀ p ∈ cs, H p.2 = some (.tbl #[])) → (∀ b ps, H b = some (.tbl ps) → ∃ p ∈ cs, p.2 = b) → SqL K H a (ns.map V.int) → sp [.ref a] H (fun v _ => v = .bl true) fun _ _ _ => False) ∧ ∀ base : Heap, K.In base → base.Ns mainGlobals mg → (∃ o, base.get? sysModules = some o) → (∀ p ∈ cs, LamX.TabB base mg p.1 p.2) → FnG l.prog w K mg base CX0 17 fa fd ["_law_script"] sp := by
  have e := hfa.symm.trans (PySem.W.mg_of X G a28)
  cases e
  have c_Shape : Cls K CShape := ⟨pgShape, hdShape, poShape, saShape⟩
  have i_Shape : IsCls K mg "Shape" CShape := ⟨PySem.W.mg_of X G aShape, ⟨c_Shape, xaShape, xn0, xt0, xmShape⟩, xoShape, fun n hn => by
    simp only [List.mem_cons, List.not_mem_nil, or_false] at hn
    rcases hn with rfl | rfl | rfl | rfl | rfl | rfl | rfl
    · exact x0Shape
    · exact x1Shape
    · exact x2Shape
    · exact x3Shape
    · exact x4Shape
    · exact x5Shape
    · exact x6Shape⟩
  have hI : InsN K CShape := ⟨⟨c_Shape, xaShape, xn0, xt0, xmShape⟩, fun T hT => by
    rcases hT with rfl | rfl | rfl | rfl | rfl | rfl
    · exact y0Shape
    · exact y1Shape
    · exact y2Shape
    · exact y3Shape
    · exact y4Shape
    · exact y5Shape⟩
  have neA_Shape : NeO K CShape := ⟨zneA_Shape, xmShape⟩
  have hcPw : l.prog = l.prog ∧ w = w := ⟨rfl, rfl⟩
  have n_Shape_own_columns : NoAttr K CShape "own_columns" := qn_Shape_own_columns
  have n_Shape_own_blanks : NoAttr K CShape "own_blanks" := qn_Shape_own_blanks
  have n_Shape_own_lacking : NoAttr K CShape "own_lacking" := qn_Shape_own_lacking
  have m_isinstance : mg "isinstance" = none := PySem.W.mg_none_of X G zm_isinstance
  have m_int : mg "int" = none := PySem.W.mg_none_of X G zm_int
  have m_bool : mg "bool" = none := PySem.W.mg_none_of X G zm_bool
  have m_list : mg "list" = none := PySem.W.mg_none_of X G zm_list
  have m_tuple : mg "tuple" = none := PySem.W.mg_none_of X G zm_tuple
  have m_str : mg "str" = none := PySem.W.mg_none_of X G zm_str
  have m_len : mg "len" = none := PySem.W.mg_none_of X G zm_len
  have m_MOST_LETTERS : ∃ t, mg "MOST_LETTERS" = some (.int 8 t) := em_MOST_LETTERS.elim fun t e => ⟨t, (PySem.W.mg_of X G gm_MOST_LETTERS).trans (congrArg some e)⟩
  have m_all : mg "all" = none := PySem.W.mg_none_of X G zm_all
  have m_LETTERS : ∃ t, mg "LETTERS" = some (.str "abcdefghijklmnopqrstuvwxyz" t) := em_LETTERS.elim fun t e => ⟨t, (PySem.W.mg_of X G gm_LETTERS).trans (congrArg some e)⟩
  have m_set : mg "set" = none := PySem.W.mg_none_of X G zm_set
  have m_MOST_COLUMNS : ∃ t, mg "MOST_COLUMNS" = some (.int 3 t) := em_MOST_COLUMNS.elim fun t e => ⟨t, (PySem.W.mg_of X G gm_MOST_COLUMNS).trans (congrArg some e)⟩
  have m_MOST_BLANKS : ∃ t, mg "MOST_BLANKS" = some (.int 3 t) := em_MOST_BLANKS.elim fun t e => ⟨t, (PySem.W.mg_of X G gm_MOST_BLANKS).trans (congrArg some e)⟩
  have m_MOST_NAMES : ∃ t, mg "MOST_NAMES" = some (.int 5 t) := em_MOST_NAMES.elim fun t e => ⟨t, (PySem.W.mg_of X G gm_MOST_NAMES).trans (congrArg some e)⟩
  have m_sorted : mg "sorted" = none := PySem.W.mg_none_of X G zm_sorted
  have m_zip : mg "zip" = none := PySem.W.mg_none_of X G zm_zip
  have m_dict : mg "dict" = none := PySem.W.mg_none_of X G zm_dict
  have m_range : mg "range" = none := PySem.W.mg_none_of X G zm_range
  have m_min : mg "min" = none := PySem.W.mg_none_of X G zm_min
  have m_enumerate : mg "enumerate" = none := PySem.W.mg_none_of X G zm_enumerate
  have m_repr : mg "repr" = none := PySem.W.mg_none_of X G zm_repr
  have hA : EAll K ⟨CShape, 0, 0, 0, 0, fun i => ([E0, E1] : List Addr).getD i 0, l.prog, w⟩ 2 := EAll.of (e0 := E0) rfl mE0 mEs ndE
  have hX : ∀ m, m < 2 → PySem.W.exmOne K (.ref ((⟨CShape, 0, 0, 0, 0, fun i => ([E0, E1] : List Addr).getD i 0, l.prog, w⟩ : Cl).err m)) (.ref ((⟨CShape, 0, 0, 0, 0, fun i => ([E0, E1] : List Addr).getD i 0, l.prog, w⟩ : Cl).err 0)) = some true := exmE_of (es := [E0, E1]) rfl hXa
  have ec_BadShape : ErrC K mg 2 ⟨CShape, 0, 0, 0, 0, fun i => ([E0, E1] : List Addr).getD i 0, l.prog, w⟩ "BadShape" (some 1) := hA.leafC (by decide) (by decide) (PySem.W.mg_of X G aE1)
  have m_abs : mg "abs" = none := PySem.W.mg_none_of X G zm_abs
  have F6 := funA_mk (st := t_blend) l6 c6 k6
  have F7 := funA_mk (st := t_take) l7 c7 k7
  have F8 := funA_mk (st := t_begin) l8 c8 k8
  have F9 := funA_mk (st := t_caught) l9 c9 k9
  have F10 := funA_mk (st := t_is_number) l10 c10 k10
  have F11 := funA_mk (st := t_is_list) l11 c11 k11
  have F12 := funA_mk (st := t_is_name) l12 c12 k12
  have F13 := funA_mk (st := t_are_names) l13 c13 k13
  have F14 := funA_mk (st := t_are_sides) l14 c14 k14
  have F15 := funA_mk (st := t_Shape_init) l15 c15 k15
  have F16 := funA_mk (st := t_Shape_eq) l16 c16 k16
  have F17 := funA_mk (st := t_Shape_is_worth) l17 c17 k17
  have F18 := funA_mk (st := t_Shape_is_row) l18 c18 k18
  have F19 := funA_mk (st := t_Shape_is_asking) l19 c19 k19
  have F20 := funA_mk (st := t_law_pick) l20 c20 k20
  have F21 := funA_mk (st := t_law_words) l21 c21 k21
  have F22 := funA_mk (st := t_law_frame) l22 c22 k22
  have F23 := funA_mk (st := t_law_are_names) l23 c23 k23
  have F24 := funA_mk (st := t_law_are_sides) l24 c24 k24
  have F25 := funA_mk (st := t_law_bent_lists) l25 c25 k25
  have F26 := funA_mk (st := t_law_unlike_right) l26 c26 k26
  have F27 := funA_mk (st := t_law_kept_right) l27 c27 k27
  have F28 := funV_mk (st := t_law) l28 c28
  have b6 : Binds K (PySem.W.fnOf "_law_blend" "_law_blend" (defArgs t_blend) (defBody t_blend) (defScope t_blend) .none kV6 dc6 pm6 an6 cd6 ct6) ["_law_draw"] [] := .all fun us hl => match us, hl with | [_], _ => rfl
  have b7 : Binds K (PySem.W.fnOf "_law_take" "_law_take" (defArgs t_take) (defBody t_take) (defScope t_take) .none kV7 dc7 pm7 an7 cd7 ct7) ["_law_draw", "_law_many"] [] := .all fun us hl => match us, hl with | [_, _], _ => rfl
  have b8 : Binds K (PySem.W.fnOf "_law_begin" "_law_begin" (defArgs t_begin) (defBody t_begin) (defScope t_begin) .none kV8 dc8 pm8 an8 cd8 ct8) ["_law_script"] [] := .all fun us hl => match us, hl with | [_], _ => rfl
  have b9 : Binds K (PySem.W.fnOf "_law_caught" "_law_caught" (defArgs t_caught) (defBody t_caught) (defScope t_caught) .none kV9 dc9 pm9 an9 cd9 ct9) ["_law_act"] [] := .all fun us hl => match us, hl with | [_], _ => rfl
  have b10 : Binds K (PySem.W.fnOf "is_number" "is_number" (defArgs t_is_number) (defBody t_is_number) (defScope t_is_number) .none kV10 dc10 pm10 an10 cd10 ct10) ["thing"] [] := .all fun us hl => match us, hl with | [_], _ => rfl
  have b11 : Binds K (PySem.W.fnOf "is_list" "is_list" (defArgs t_is_list) (defBody t_is_list) (defScope t_is_list) .none kV11 dc11 pm11 an11 cd11 ct11) ["thing"] [] := .all fun us hl => match us, hl with | [_], _ => rfl
  have b12 : Binds K (PySem.W.fnOf "is_name" "is_name" (defArgs t_is_name) (defBody t_is_name) (defScope t_is_name) .none kV12 dc12 pm12 an12 cd12 ct12) ["thing"] [] := .all fun us hl => match us, hl with | [_], _ => rfl
  have b13 : Binds K (PySem.W.fnOf "are_names" "are_names" (defArgs t_are_names) (defBody t_are_names) (defScope t_are_names) .none kV13 dc13 pm13 an13 cd13 ct13) ["thing"] [] := .all fun us hl => match us, hl with | [_], _ => rfl
  have b14 : Binds K (PySem.W.fnOf "are_sides" "are_sides" (defArgs t_are_sides) (defBody t_are_sides) (defScope t_are_sides) .none kV14 dc14 pm14 an14 cd14 ct14) ["columns", "blanks", "lacking"] [] := .all fun us hl => match us, hl with | [_, _, _], _ => rfl
  have b15 : Binds K (PySem.W.fnOf "__init__" "Shape.__init__" (defArgs t_Shape_init) (defBody t_Shape_init) (defScope t_Shape_init) (.ref T15) kV15 dc15 pm15 an15 cd15 ct15) ["self", "columns", "blanks", "lacking"] [] := fun s us X hl => by
    match us, hl with
    | [_, _, _, _], _ => exact PySem.W.binds_K X rfl lT15 rfl rfl rfl
  have b16 : Binds K (PySem.W.fnOf "__eq__" "Shape.__eq__" (defArgs t_Shape_eq) (defBody t_Shape_eq) (defScope t_Shape_eq) .none kV16 dc16 pm16 an16 cd16 ct16) ["self", "other"] [] := .all fun us hl => match us, hl with | [_, _], _ => rfl
  have b17 : Binds K (PySem.W.fnOf "is_worth" "Shape.is_worth" (defArgs t_Shape_is_worth) (defBody t_Shape_is_worth) (defScope t_Shape_is_worth) .none kV17 dc17 pm17 an17 cd17 ct17) ["self", "name", "thing"] [] := .all fun us hl => match us, hl with | [_, _, _], _ => rfl
  have b18 : Binds K (PySem.W.fnOf "is_row" "Shape.is_row" (defArgs t_Shape_is_row) (defBody t_Shape_is_row) (defScope t_Shape_is_row) .none kV18 dc18 pm18 an18 cd18 ct18) ["self", "thing"] [] := .all fun us hl => match us, hl with | [_, _], _ => rfl
  have b19 : Binds K (PySem.W.fnOf "is_asking" "Shape.is_asking" (defArgs t_Shape_is_asking) (defBody t_Shape_is_asking) (defScope t_Shape_is_asking) .none kV19 dc19 pm19 an19 cd19 ct19) ["self", "thing"] [] := .all fun us hl => match us, hl with | [_, _], _ => rfl
  have b20 : Binds K (PySem.W.fnOf "_law_pick" "_law_pick" (defArgs t_law_pick) (defBody t_law_pick) (defScope t_law_pick) .none kV20 dc20 pm20 an20 cd20 ct20) ["_law_draw", "_law_some"] [] := .all fun us hl => match us, hl with | [_, _], _ => rfl
  have b21 : Binds K (PySem.W.fnOf "_law_words" "_law_words" (defArgs t_law_words) (defBody t_law_words) (defScope t_law_words) .none kV21 dc21 pm21 an21 cd21 ct21) ["_law_draw", "_law_count"] [] := .all fun us hl => match us, hl with | [_, _], _ => rfl
  have b22 : Binds K (PySem.W.fnOf "_law_frame" "_law_frame" (defArgs t_law_frame) (defBody t_law_frame) (defScope t_law_frame) .none kV22 dc22 pm22 an22 cd22 ct22) ["_law_draw", "_law_many", "_law_few"] [] := .all fun us hl => match us, hl with | [_, _, _], _ => rfl
  have b23 : Binds K (PySem.W.fnOf "_law_are_names" "_law_are_names" (defArgs t_law_are_names) (defBody t_law_are_names) (defScope t_law_are_names) .none kV23 dc23 pm23 an23 cd23 ct23) ["_law_some"] [] := .all fun us hl => match us, hl with | [_], _ => rfl
  have b24 : Binds K (PySem.W.fnOf "_law_are_sides" "_law_are_sides" (defArgs t_law_are_sides) (defBody t_law_are_sides) (defScope t_law_are_sides) .none kV24 dc24 pm24 an24 cd24 ct24) ["_law_uno", "_law_duo", "_law_gone"] [] := .all fun us hl => match us, hl with | [_, _, _], _ => rfl
  have b25 : Binds K (PySem.W.fnOf "_law_bent_lists" "_law_bent_lists" (defArgs t_law_bent_lists) (defBody t_law_bent_lists) (defScope t_law_bent_lists) .none kV25 dc25 pm25 an25 cd25 ct25) ["_law_draw", "_law_three"] [] := .all fun us hl => match us, hl with | [_, _], _ => rfl
  have b26 : Binds K (PySem.W.fnOf "_law_unlike_right" "_law_unlike_right" (defArgs t_law_unlike_right) (defBody t_law_unlike_right) (defScope t_law_unlike_right) .none kV26 dc26 pm26 an26 cd26 ct26) ["_law_draw", "_law_made", "_law_dues"] [] := .all fun us hl => match us, hl with | [_, _, _], _ => rfl
  have b27 : Binds K (PySem.W.fnOf "_law_kept_right" "_law_kept_right" (defArgs t_law_kept_right) (defBody t_law_kept_right) (defScope t_law_kept_right) .none kV27 dc27 pm27 an27 cd27 ct27) ["_law_made", "_law_dues"] [] := .all fun us hl => match us, hl with | [_, _], _ => rfl
  have p_Shape_columns : ∀ base, HasP l.prog w K mg base 1 CShape "columns" "own_columns" := fun base => prop_mk (st := t_Shape_prop_columns) c_Shape n_Shape_own_columns a29 g29 t29 h29 l29 c29 ⟨rfl, rfl, rfl, by decide +kernel, rfl, by decide +kernel, by decide +kernel⟩ rfl fun us hl => match us, hl with | [_], _ => rfl
  have p_Shape_blanks : ∀ base, HasP l.prog w K mg base 1 CShape "blanks" "own_blanks" := fun base => prop_mk (st := t_Shape_prop_blanks) c_Shape n_Shape_own_blanks a30 g30 t30 h30 l30 c30 ⟨rfl, rfl, rfl, by decide +kernel, rfl, by decide +kernel, by decide +kernel⟩ rfl fun us hl => match us, hl with | [_], _ => rfl
  have p_Shape_lacking : ∀ base, HasP l.prog w K mg base 1 CShape "lacking" "own_lacking" := fun base => prop_mk (st := t_Shape_prop_lacking) c_Shape n_Shape_own_lacking a31 g31 t31 h31 l31 c31 ⟨rfl, rfl, rfl, by decide +kernel, rfl, by decide +kernel, by decide +kernel⟩ rfl fun us hl => match us, hl with | [_], _ => rfl
  have ct1 : ∀ p ∈ ([(cd_law, tP_law)] : List (Addr × Addr)), h.get? p.2 = some { cls := .none, data := .fields #[] } := fun p hp => by
    simp only [List.mem_cons, List.not_mem_nil, or_false] at hp
    rcases hp with rfl
    · exact tc_law.2
  have ct2 : ∀ p ∈ ([(cd_law, tP_law)] : List (Addr × Addr)), K.lookup p.2 = none := fun p hp => by
    simp only [List.mem_cons, List.not_mem_nil, or_false] at hp
    rcases hp with rfl
    · exact tn_law
  have ct3 : ∀ p ∈ ([(cd_law, tP_law)] : List (Addr × Addr)), PySem.W.CodeHd h p.1 p.2 := fun p hp => by
    simp only [List.mem_cons, List.not_mem_nil, or_false] at hp
    rcases hp with rfl
    · exact tc_law.1
  refine ⟨PySem.W.fnOf "law" "law" (defArgs t_law) (defBody t_law) (defScope t_law) .none kV28 dc28 pm28 an28 (.ref cd_law) ct28, [(cd_law, tP_law)], spLaw [(tP_law, "law.<locals>.<lambda>")] K, ct1, ct2, ct3, fun s v => .of_eq rfl, fun H a ns hl hT _ hS => ⟨a, ns, rfl, hS, hl, fun t ht => ?_, fun _ _ e => e⟩, fun base _ _ hsys hTB => ?_⟩
  · simp only [List.mem_cons, List.not_mem_nil, or_false] at ht
    rcases ht with rfl
    · exact hT (cd_law, tP_law) (by simp)
  have tb_law : LamX.TabB base mg cd_law tP_law := hTB (cd_law, tP_law) (by simp)
  have hC : HasC l.prog w K mg base ((⟨CShape, 0, 0, 0, 0, fun i => ([E0, E1] : List Addr).getD i 0, l.prog, w⟩ : Cl).err 0) := ⟨⟨f9, defArgs t_caught, defBody t_caught, defScope t_caught, .none, kV9, dc9, pm9, cd9, ct9, oc9, an9, od9, sl9, PySem.W.mg_of X G a9, k9, l9, c9, b9, ⟨rfl, rfl, rfl, by decide +kernel, rfl, by decide +kernel, by decide +kernel⟩, .inl rfl, fun X' q e1 e2 => ?_⟩⟩
  rotate_left
  · have hme : X'.mg "WorthError" = some (.ref E0) := by rw [e2]; exact PySem.W.mg_of X G aE0
    rw [← e1]
    exact DX.caught_gives (p15 := ⟨0, 0, 0, 0⟩) (e := "WorthError") rfl hme (by decide) rfl rfl (fun n => rfl) (.inl rfl)
  have hB : HasB l.prog w K mg base 16 "_law_begin" ["_law_script"] := ⟨⟨_, _, FnG.lift (ok_law_begin F8 m_abs) (by decide), PySem.W.mg_of X G a8, k8, b8⟩⟩
  have p_Shape_columns := p_Shape_columns base
  have p_Shape_blanks := p_Shape_blanks base
  have p_Shape_lacking := p_Shape_lacking base
  refine ok_law (c := ⟨CShape, 0, 0, 0, 0, fun i => ([E0, E1] : List Addr).getD i 0, l.prog, w⟩) [(tP_law, "law.<locals>.<lambda>")] F28 hcPw m_range m_min m_len m_list m_repr hsys hC hX tb_law m_isinstance hH ec_BadShape m_tuple m_sorted hI p_Shape_columns p_Shape_blanks p_Shape_lacking neA_Shape i_Shape hB (fun x hgc hz hxT => ?_) (hlaw _)
  have hm_law : (tP_law, ("law.<locals>.<lambda>" : Str)) ∈ x.T := by rw [hxT]; simp
  have hu_law := tabs_uniq (by rw [hxT]; exact ndT) hm_law
  have h_law_blend : HasK l.prog w K mg base (some x) 1 "_law_blend" ["_law_draw"] (W_blend x) := ⟨⟨_, _, ok_law_blend F6 m_int hz, PySem.W.mg_of X G a6, k6, b6⟩, mono_blend⟩
  have h_law_take : HasK l.prog w K mg base (some x) 2 "_law_take" ["_law_draw", "_law_many"] (W_take x) := ⟨⟨_, _, ok_law_take F7 m_int hgc h_law_blend, PySem.W.mg_of X G a7, k7, b7⟩, mono_take⟩
  have h_is_number : HasK l.prog w K mg base (some x) 4 "is_number" ["thing"] (W_is_number ⟨CShape, 0, 0, 0, 0, fun i => ([E0, E1] : List Addr).getD i 0, l.prog, w⟩) := ⟨⟨_, _, ok_is_number (dr := some x) F10 hcPw m_isinstance hI m_int m_bool, PySem.W.mg_of X G a10, k10, b10⟩, mono_is_number⟩
  have h_is_list : HasK l.prog w K mg base (some x) 4 "is_list" ["thing"] (W_is_list ⟨CShape, 0, 0, 0, 0, fun i => ([E0, E1] : List Addr).getD i 0, l.prog, w⟩) := ⟨⟨_, _, ok_is_list (dr := some x) F11 hcPw m_isinstance hI m_list m_tuple, PySem.W.mg_of X G a11, k11, b11⟩, mono_is_list⟩
  have h_is_name : HasK l.prog w K mg base (some x) 4 "is_name" ["thing"] (W_is_name ⟨CShape, 0, 0, 0, 0, fun i => ([E0, E1] : List Addr).getD i 0, l.prog, w⟩) := ⟨⟨_, _, ok_is_name (dr := some x) F12 hcPw m_isinstance hI m_str m_len m_MOST_LETTERS m_all m_LETTERS, PySem.W.mg_of X G a12, k12, b12⟩, mono_is_name⟩
  have h_are_names : HasK l.prog w K mg base (some x) 6 "are_names" ["thing"] (W_are_names ⟨CShape, 0, 0, 0, 0, fun i => ([E0, E1] : List Addr).getD i 0, l.prog, w⟩) := ⟨⟨_, _, ok_are_names (dr := some x) F13 hcPw h_is_list m_all h_is_name m_len m_set, PySem.W.mg_of X G a13, k13, b13⟩, mono_are_names⟩
  have h_are_sides : HasK l.prog w K mg base (some x) 8 "are_sides" ["columns", "blanks", "lacking"] (W_are_sides ⟨CShape, 0, 0, 0, 0, fun i => ([E0, E1] : List Addr).getD i 0, l.prog, w⟩) := ⟨⟨_, _, ok_are_sides (dr := some x) F14 hcPw h_are_names m_len m_MOST_COLUMNS m_MOST_BLANKS m_MOST_NAMES m_set m_all, PySem.W.mg_of X G a14, k14, b14⟩, mono_are_sides⟩
  have h_Shape_init : HasXI l.prog w K mg base (some x) 10 "Shape" CShape ["self", "columns", "blanks", "lacking"] (W_Shape_init ⟨CShape, 0, 0, 0, 0, fun i => ([E0, E1] : List Addr).getD i 0, l.prog, w⟩) := ⟨⟨_, _, ok_Shape_init (dr := some x) F15 hcPw h_are_sides e_BadShape c_Shape n_Shape_own_columns m_tuple n_Shape_own_blanks n_Shape_own_lacking m_sorted, ⟨mkShape, a15, i15, kcShape⟩, b15⟩, PySem.W.mg_of X G aShape, mono_Shape_init⟩
  have hw_Shape_init_210 : HasXIW l.prog w K mg base (some x) 10 "Shape" CShape ["self", "columns", "blanks", "lacking"] ["lacking", "blanks", "columns"] [2, 1, 0] (W_Shape_init ⟨CShape, 0, 0, 0, 0, fun i => ([E0, E1] : List Addr).getD i 0, l.prog, w⟩) := ⟨⟨_, _, ok_Shape_init (dr := some x) F15 hcPw h_are_sides e_BadShape c_Shape n_Shape_own_columns m_tuple n_Shape_own_blanks n_Shape_own_lacking m_sorted, ⟨mkShape, a15, i15, kcShape⟩, ⟨fun s us ws X0 h1 h2 => by
    match us, h1, ws, h2 with
    | [_], _, [_, _, _], _ => exact PySem.W.binds_K X0 rfl lT15 rfl rfl rfl, fun r1 r2 => r1.append (pick_vals r2 _)⟩⟩, PySem.W.mg_of X G aShape, mono_Shape_init⟩
  have h_Shape_init_d1 : HasXId l.prog w K mg base (some x) 10 "Shape" CShape ["self", "columns", "blanks", "lacking"] [.tup []] (W_Shape_init ⟨CShape, 0, 0, 0, 0, fun i => ([E0, E1] : List Addr).getD i 0, l.prog, w⟩) := ⟨⟨_, _, [.ref E15_0], [u15_0], ok_Shape_init (dr := some x) F15 hcPw h_are_sides e_BadShape c_Shape n_Shape_own_columns m_tuple n_Shape_own_blanks n_Shape_own_lacking m_sorted, ⟨mkShape, a15, i15, kcShape⟩, (fun s us X hl => by
    have h2 : us.length = 3 := by simpa using hl
    match us, h2 with
    | [_, _, _], _ => exact PySem.W.binds_K X rfl lT15 rfl rfl rfl), .cons eT15_0 (.nil), fun G => .cons (.tup0 ⟨_, _, lE15_0, cE15_0, rfl⟩) (.nil)⟩, PySem.W.mg_of X G aShape, mono_Shape_init⟩
  have h_Shape_eq : HasM l.prog w K mg base (some x) 4 CShape "__eq__" ["self", "other"] (W_Shape_eq ⟨CShape, 0, 0, 0, 0, fun i => ([E0, E1] : List Addr).getD i 0, l.prog, w⟩) := ⟨⟨_, _, ok_Shape_eq (dr := some x) F16 hcPw m_isinstance i_Shape c_Shape n_Shape_own_columns n_Shape_own_blanks n_Shape_own_lacking, ⟨a16, i16, k16⟩, b16⟩, c_Shape, mono_Shape_eq⟩
  have h_Shape_is_worth : HasM l.prog w K mg base (some x) 6 CShape "is_worth" ["self", "name", "thing"] (W_Shape_is_worth ⟨CShape, 0, 0, 0, 0, fun i => ([E0, E1] : List Addr).getD i 0, l.prog, w⟩) := ⟨⟨_, _, ok_Shape_is_worth (dr := some x) F17 hcPw h_is_number c_Shape n_Shape_own_lacking, ⟨a17, i17, k17⟩, b17⟩, c_Shape, mono_Shape_is_worth⟩
  have h_Shape_is_row : HasM l.prog w K mg base (some x) 8 CShape "is_row" ["self", "thing"] (W_Shape_is_row ⟨CShape, 0, 0, 0, 0, fun i => ([E0, E1] : List Addr).getD i 0, l.prog, w⟩) := ⟨⟨_, _, ok_Shape_is_row (dr := some x) F18 hcPw m_isinstance hI m_tuple m_len c_Shape n_Shape_own_columns m_all m_zip h_Shape_is_worth, ⟨a18, i18, k18⟩, b18⟩, c_Shape, mono_Shape_is_row⟩
  have h_Shape_is_asking : HasM l.prog w K mg base (some x) 8 CShape "is_asking" ["self", "thing"] (W_Shape_is_asking ⟨CShape, 0, 0, 0, 0, fun i => ([E0, E1] : List Addr).getD i 0, l.prog, w⟩) := ⟨⟨_, _, ok_Shape_is_asking (dr := some x) F19 hcPw m_isinstance hI m_dict m_len c_Shape n_Shape_own_blanks m_all h_Shape_is_worth, ⟨a19, i19, k19⟩, b19⟩, c_Shape, mono_Shape_is_asking⟩
  have h_law_pick : Has l.prog w K mg base (some x) 4 "_law_pick" ["_law_draw", "_law_some"] (W_law_pick ⟨CShape, 0, 0, 0, 0, fun i => ([E0, E1] : List Addr).getD i 0, l.prog, w⟩ x) := ⟨⟨_, _, ok_law_pick F20 hcPw h_law_take m_len, PySem.W.mg_of X G a20, k20, b20⟩, mono_law_pick⟩
  have h_law_words : Has l.prog w K mg base (some x) 6 "_law_words" ["_law_draw", "_law_count"] (W_law_words ⟨CShape, 0, 0, 0, 0, fun i => ([E0, E1] : List Addr).getD i 0, l.prog, w⟩ x) := ⟨⟨_, _, ok_law_words F21 hcPw m_range h_law_pick h_law_take, PySem.W.mg_of X G a21, k21, b21⟩, mono_law_words⟩
  have h_law_frame : Has l.prog w K mg base (some x) 8 "_law_frame" ["_law_draw", "_law_many", "_law_few"] (W_law_frame ⟨CShape, 0, 0, 0, 0, fun i => ([E0, E1] : List Addr).getD i 0, l.prog, w⟩ x) := ⟨⟨_, _, ok_law_frame F22 hcPw h_law_take h_law_words m_min, PySem.W.mg_of X G a22, k22, b22⟩, mono_law_frame⟩
  have h_law_are_names : Has l.prog w K mg base (some x) 4 "_law_are_names" ["_law_some"] (W_law_are_names ⟨CShape, 0, 0, 0, 0, fun i => ([E0, E1] : List Addr).getD i 0, l.prog, w⟩) := ⟨⟨_, _, ok_law_are_names (dr := some x) F23 hcPw m_isinstance hI m_list m_tuple m_enumerate m_str m_len, PySem.W.mg_of X G a23, k23, b23⟩, mono_law_are_names⟩
  have h_law_are_sides : Has l.prog w K mg base (some x) 6 "_law_are_sides" ["_law_uno", "_law_duo", "_law_gone"] (W_law_are_sides ⟨CShape, 0, 0, 0, 0, fun i => ([E0, E1] : List Addr).getD i 0, l.prog, w⟩) := ⟨⟨_, _, ok_law_are_sides (dr := some x) F24 hcPw h_law_are_names m_len m_list, PySem.W.mg_of X G a24, k24, b24⟩, mono_law_are_sides⟩
  have h_law_bent_lists : Has l.prog w K mg base (some x) 6 "_law_bent_lists" ["_law_draw", "_law_three"] (W_law_bent_lists ⟨CShape, 0, 0, 0, 0, fun i => ([E0, E1] : List Addr).getD i 0, l.prog, w⟩ x) := ⟨⟨_, _, ok_law_bent_lists F25 hcPw h_law_take m_list m_isinstance hI m_tuple m_len h_law_pick, PySem.W.mg_of X G a25, k25, b25⟩, mono_law_bent_lists⟩
  have h_law_unlike_right : Has l.prog w K mg base (some x) 12 "_law_unlike_right" ["_law_draw", "_law_made", "_law_dues"] (W_law_unlike_right ⟨CShape, 0, 0, 0, 0, fun i => ([E0, E1] : List Addr).getD i 0, l.prog, w⟩ x) := ⟨⟨_, _, ok_law_unlike_right F26 hcPw m_range m_tuple h_law_pick h_Shape_init h_Shape_eq m_isinstance i_Shape neA_Shape, PySem.W.mg_of X G a26, k26, b26⟩, mono_law_unlike_right⟩
  have h_law_kept_right : Has l.prog w K mg base (some x) 10 "_law_kept_right" ["_law_made", "_law_dues"] (W_law_kept_right ⟨CShape, 0, 0, 0, 0, fun i => ([E0, E1] : List Addr).getD i 0, l.prog, w⟩) := ⟨⟨_, _, ok_law_kept_right (dr := some x) F27 hcPw h_Shape_is_row m_len h_Shape_is_asking m_dict m_enumerate, PySem.W.mg_of X G a27, k27, b27⟩, mono_law_kept_right⟩
  exact ⟨h_law_frame, h_law_pick, h_law_bent_lists, h_law_are_sides, hm_law, hu_law, h_Shape_init, hw_Shape_init_210, h_Shape_eq, h_law_kept_right, h_law_unlike_right, h_Shape_init_d1, trivial⟩
end K02

namespace K02
open PySem PySem.Spec L2 DL RG
theorem pick_lst {c : Cl} {xs : List D} {K : D → Prop} (ne : xs ≠ []) (hz : xs.length ≤ 1000000) (h : ∀ y ∈ xs, K y) : S_law_pick c (.lst xs) K := by
  have : 0 < xs.length := List.length_pos_iff.mpr ne
  refine ⟨_, rfl, ⟨by omega, by omega⟩, fun k k0 k1 => ?_⟩
  obtain ⟨k, rfl⟩ := Int.eq_ofNat_of_zero_le k0
  have kl : k < xs.length := by omega
  exact ⟨xs[k], atI_nat (List.getElem?_eq_getElem kl), h _ (List.getElem_mem kl)⟩
theorem pick_str {c : Cl} {z : Str} {K : D → Prop} (ne : 0 < z.length) (hz : z.length ≤ 1000000) (h : ∀ y ∈ z.cps.toList, K (.str (oneS y))) : S_law_pick c (.str z) K := by
  refine ⟨small hz, _, rfl, ⟨by omega, by omega⟩, fun k k0 k1 => ?_⟩
  obtain ⟨k, rfl⟩ := Int.eq_ofNat_of_zero_le k0
  have kl : k < z.cps.toList.length := by
    have : z.length = z.cps.toList.length := by simp [Str.length]
    omega
  exact ⟨small hz, z.cps.toList[k], atI_nat (List.getElem?_eq_getElem kl), h _ (List.getElem_mem kl)⟩
abbrev someS : List Str := ["a", "b", "x", "xy", "not", "and", "or", "all", "any", "lacks", "most", "zzzzzzzz"]
theorem someS_name : ∀ z ∈ someS, nameS z := by decide +kernel
theorem words_ok {c : Cl} {n : Int} {K : D → Prop} (n0 : 0 ≤ n) (n1 : n ≤ 25) (h : ∀ ws : List Str, ws.length = n.toNat → ws.Nodup → (∀ z ∈ ws, nameS z) → K (.lst (ws.map D.str))) : S_law_words c (.int n) K := by
  have big : 20000 < sizeLine := by decide
  refine ⟨⟨by omega, by omega⟩, ?_⟩
  refine forS_of (fun i s => ∃ fs : List Str, s = .lst (fs.map D.str) ∧ fs.length = i ∧ fs.Nodup ∧ ∀ z ∈ fs, nameS z) ⟨[], rfl, rfl, List.nodup_nil, fun z h => by cases h⟩ (fun i d s N hd hp nx => ?_) (fun s hp => ?_)
  · obtain ⟨fs, rfl, fl, fn, fnm⟩ := hp
    have il : i < n.toNat := by
      have := (List.getElem?_eq_some_iff.mp hd).1
      unfold rngD at this
      rw [List.length_map, List.length_range] at this
      exact this
    refine pick_lst (xs := someS.map D.str) (by simp) (by decide) fun y hy => ?_
    obtain ⟨z, hz, rfl⟩ := List.mem_map.mp hy
    have zn := someS_name z hz
    have tail : ∀ w : Str, nameS w → (walkD (.str "abcdefghijklmnopqrstuvwxyz") fun ds39 => forS ds39 [] (fun d37 a35 n36 => slD (.str w) none (some 7) fun d42 => binD .Add d42 d37 fun d41 => n36 (a35 ++ [d41])) fun xs38 => binD .Add (.lst [.str w]) (.lst xs38) fun d34 => lstS (.lst (fs.map D.str)) (walkD d34 fun ds49 => forS ds49 [] (fun d47 a45 n46 => ifS (fun k => cmpN c.P c.w .NotIn d47 (.lst (fs.map D.str)) fun t50 => k t50) (n46 (a45 ++ [d47])) (n46 a45)) fun xs48 => DL.ixN c.P c.w (.lst xs48) (.int 0) fun d44 => appS (.lst (fs.map D.str)) d44 fun l52 => N l52)) := by
      intro w wn
      have wl : w.length ≤ sizeLine := by have := wn.2.1; omega
      refine ⟨by show 26 ≤ sizeLine; omega, ?_⟩
      refine forS_of (fun i acc => acc = (letters.cps.toList.take i).map fun c => D.str (cutS w none (some 7) ++ oneS c)) rfl (fun i d acc N2 hd hp nx2 => ?_) (fun acc hp => ?_)
      · obtain ⟨c, hc, rfl⟩ : ∃ c, letters.cps.toList[i]? = some c ∧ d = .str ⟨#[c]⟩ := by
          unfold signs at hd
          rw [List.getElem?_map] at hd
          cases e : letters.cps.toList[i]? with
          | none => rw [e] at hd; cases hd
          | some c => rw [e] at hd; cases hd; exact ⟨c, rfl, rfl⟩
        refine ⟨wl, ?_, nx2 _ ?_⟩
        · have := cutS_length w none (some 7)
          show (cutS w none (some 7)).length + 1 ≤ sizeLine
          have := wn.2.1
          omega
        · rw [hp, List.take_add_one, hc, List.map_append]
          rfl
      have hp : acc = letters.cps.toList.map fun c => D.str (cutS w none (some 7) ++ oneS c) := by
        have e0 : (signs letters).length = letters.cps.toList.length := by simp [signs]
        rw [e0, List.take_length] at hp
        exact hp
      have hn : [D.str w] ++ acc = (nearS w).map D.str := by
        rw [hp]
        unfold nearS
        rw [List.map_append, List.map_map]
        rfl
      refine ⟨by show 1 + acc.length ≤ sizeLine; rw [hp, List.length_map, let_len]; omega, ?_⟩
      rw [hn]
      refine forS_of (fun i acc => acc = (((nearS w).take i).filter (newS fs)).map D.str) rfl (fun i d acc N2 hd hp nx2 => ?_) (fun acc hp => ?_)
      · rw [List.getElem?_map] at hd
        cases e : (nearS w)[i]? with
        | none => rw [e] at hd; cases hd
        | some y =>
          rw [e] at hd
          cases hd
          have yn := near_name wn y (List.mem_of_getElem? e)
          refine ⟨shp_of (shE_side (.inl yn)), shp_lst (fun d hd => ?_), ?_⟩
          · obtain ⟨z, hz, rfl⟩ := List.mem_map.mp hd
            exact shE_side (.inl (fnm z hz))
          have fl2 : ((nearS w).take (i + 1)).filter (newS fs) = ((nearS w).take i).filter (newS fs) ++ [y].filter (newS fs) := by rw [List.take_add_one, e, List.filter_append]; rfl
          refine ifE (fun h2 => nx2 _ ?_) (fun h2 => nx2 _ ?_)
          · have h2 : newS fs y = true := h2
            rw [fl2, List.filter_cons_of_pos h2, List.map_append, ← hp]; rfl
          · have h2 : newS fs y = false := h2
            rw [fl2, List.filter_cons_of_neg (by rw [h2]; exact Bool.false_ne_true), List.map_append, ← hp]; exact (List.append_nil _).symm
      rw [List.length_map, List.take_length] at hp
      obtain ⟨z, r, e, zf, zm⟩ := near_free (w := w) (fs := fs) (by omega)
      rw [e] at hp
      subst hp
      refine ⟨.str z, atI_nat (j := 0) rfl, by show (fs.map D.str).length < sizeLine; rw [List.length_map]; omega, nx _ ⟨fs ++ [z], by rw [List.map_append]; rfl, by rw [List.length_append, fl]; rfl, ?_, ?_⟩⟩
      · exact List.nodup_append.mpr ⟨fn, List.nodup_cons.mpr ⟨List.not_mem_nil, List.nodup_nil⟩, fun a ha b hb e => zf (by rw [List.mem_singleton] at hb; rw [← hb, ← e]; exact ha)⟩
      · intro y hy
        rcases List.mem_append.mp hy with hy | hy
        · exact fnm y hy
        · rw [List.mem_singleton.mp hy]; exact near_name wn _ zm
    refine ⟨3, rfl, ⟨by decide, by decide⟩, fun k k0 k1 => ?_⟩
    refine ifE (fun _ => ?_) (fun _ => tail z zn)
    refine pick_lst (xs := [.int 1, .int 2, .int 8]) (by simp) (by decide) fun y hy => ?_
    obtain ⟨m, rfl, m0, m1⟩ : ∃ m : Int, y = .int m ∧ 0 < m ∧ m ≤ 8 := by
      simp only [List.mem_cons, List.not_mem_nil, or_false] at hy
      rcases hy with rfl | rfl | rfl
      · exact ⟨1, rfl, by decide, by decide⟩
      · exact ⟨2, rfl, by decide, by decide⟩
      · exact ⟨8, rfl, by decide, by decide⟩
    refine ⟨m, rfl, ⟨m0, by omega⟩, fun k k0 k1 => ?_⟩
    refine ⟨⟨by omega, by omega⟩, ?_⟩
    refine forS_of (fun i acc => ∃ cs : List Nat, acc = (cs.map oneS).map D.str ∧ cs.length = i ∧ ∀ c ∈ cs, c ∈ letters.cps.toList) ⟨[], rfl, rfl, fun c h => by cases h⟩ (fun i d acc N2 hd hp nx2 => ?_) (fun acc hp => ?_)
    · obtain ⟨cs, rfl, cl, cm⟩ := hp
      refine pick_str (by decide) (by decide) fun y hy => nx2 _ ⟨cs ++ [y], by simp, by simp [cl], fun c hc => ?_⟩
      rcases List.mem_append.mp hc with hc | hc
      · exact cm c hc
      · rw [List.mem_singleton.mp hc]; exact hy
    obtain ⟨cs, rfl, cl, cm⟩ := hp
    unfold rngD at cl
    rw [List.length_map, List.length_range] at cl
    refine ⟨cs.map oneS, rfl, ?_, ?_⟩
    · rw [List.map_map, sum_ones, List.length_map]
      show cs.length + cs.length * 0 ≤ _
      omega
    have e := join1 cs
    have et : (Txt.join "" (cs.map oneS)).cps.toList = cs := by rw [e]
    refine tail _ ⟨?_, ?_, by rw [et]; exact cm⟩
    · rw [len_tl, et]; omega
    · rw [len_tl, et]; omega
  · obtain ⟨fs, rfl, fl, fn, fnm⟩ := hp
    unfold rngD at fl
    rw [List.length_map, List.length_range] at fl
    exact h fs fl fn fnm
end K02

namespace K02
open PySem PySem.Spec L2 DL RG
structure Gs (g w : List Str) : Prop where
  nd : g.Nodup
  sub : ∀ z ∈ g, z ∈ w
theorem Gs.nodup {g w : List Str} (h : Gs g w) (_ : w.Nodup) : g.Nodup := h.nd
theorem Gs.subset {g w : List Str} (h : Gs g w) {z : Str} (hz : z ∈ g) : z ∈ w := h.sub z hz
theorem Gs.length_le {g w : List Str} (h : Gs g w) : g.length ≤ w.length := nodup_le h.nd h.sub
structure Fr (a b g : List Str) : Prop where
  nd : (a ++ b).Nodup
  nm : ∀ z ∈ a ++ b, nameS z
  a1 : 1 ≤ a.length
  a3 : a.length ≤ 3
  b3 : b.length ≤ 3
  ab : (a ++ b).length ≤ 5
  gs : Gs g (a ++ b)
def frD (a b g : List Str) : D := .dic [(.inr "columns", .lst (a.map D.str)), (.inr "open", .lst (b.map D.str)), (.inr "gone", .lst (g.map D.str))]
theorem fr_col {P0 : Program} {w0 : World} {a b g : List Str} {K : D → Prop} (h : K (.lst (a.map D.str))) : DL.ixN P0 w0 (frD a b g) (.str "columns") K := h
theorem fr_open {P0 : Program} {w0 : World} {a b g : List Str} {K : D → Prop} (h : K (.lst (b.map D.str))) : DL.ixN P0 w0 (frD a b g) (.str "open") K := h
theorem fr_gone {P0 : Program} {w0 : World} {a b g : List Str} {K : D → Prop} (h : K (.lst (g.map D.str))) : DL.ixN P0 w0 (frD a b g) (.str "gone") K := h
theorem cut_to {xs : List D} {k : Nat} (h : k ≤ xs.length) : cutD xs none (some (k : Int)) = xs.take k := by
  unfold cutD
  rw [HT.sIx_nat, HT.sIx_none, Nat.sub_zero, List.drop_zero, Nat.min_eq_left h]
theorem cut_from {xs : List D} {k : Nat} (h : k ≤ xs.length) : cutD xs (some (k : Int)) none = xs.drop k := by
  unfold cutD
  rw [HT.sIx_nat, HT.sIx_none, Nat.min_eq_left h, List.take_of_length_le (by rw [List.length_drop]; omega)]
theorem frame_ok {c : Cl} {K : D → Prop} (h : ∀ a b g, Fr a b g → K (frD a b g)) : S_law_frame c (.int 3) (.int 3) K := by
  unfold S_law_frame
  refine ⟨3, rfl, ⟨by decide, by decide⟩, fun k k0 k1 => ?_⟩
  simp only [isiKF, isiMF, isiNF, lenNF, listNF, cmpN, DL.ixN, ifS, joinS, letS, blS, isiF, lenUF, lenU, lenF, cmpU, cmpD, eqK, ltK, inK, isK, binD, tupF, absF, seqS, walkD, intS, lstS, rngS, unp2, slD, sfldS, insS, isCS, isAnyData, getO, tyN, isT, isAny, KnAll, Option.isSome_some, Bool.not_true, Bool.not_false, if_true, if_false, Bool.false_eq_true, reduceIte, true_and, and_true, kn_int, kn_bool, kn_str, kn_list, kn_tuple, kn_dict, Bool.or_true, Bool.true_or, Bool.or_false, Bool.false_or, beq_self_eq_true]
  refine min_of fun m m3 mk me => ?_
  simp only [isiKF, isiMF, isiNF, lenNF, listNF, cmpN, DL.ixN, ifS, joinS, letS, blS, isiF, lenUF, lenU, lenF, cmpU, cmpD, eqK, ltK, inK, isK, binD, tupF, absF, seqS, walkD, intS, lstS, rngS, unp2, slD, sfldS, insS, isCS, isAnyData, getO, tyN, isT, isAny, KnAll, Option.isSome_some, Bool.not_true, Bool.not_false, if_true, if_false, Bool.false_eq_true, reduceIte, true_and, and_true, kn_int, kn_bool, kn_str, kn_list, kn_tuple, kn_dict, Bool.or_true, Bool.true_or, Bool.or_false, Bool.false_or, beq_self_eq_true]
  refine ⟨m + 1, rfl, ⟨by omega, by omega⟩, fun j j0 j1 => ?_⟩
  refine words_ok (n := 1 + k + j) (by omega) (by omega) fun ws wl wn wm => ?_
  refine forS_sub (fun d acc N hd n1 n2 => ?_) (fun es hes => ?_)
  · refine ⟨3, rfl, ⟨by decide, by decide⟩, fun t t0 t1 => ?_⟩
    exact ifE (fun _ => n1) (fun _ => n2)
  obtain ⟨i, rfl⟩ : ∃ i : Nat, k = i := ⟨k.toNat, by omega⟩
  have e1 : (1 + (i : Int)) = ((1 + i : Nat) : Int) := by omega
  obtain ⟨g, gs, rfl⟩ := List.sublist_map_iff.mp hes
  have hl : 1 + i ≤ (ws.map D.str).length := by rw [List.length_map]; omega
  show K (.dic (mergeE [] [(.inr "columns", .lst (cutD (ws.map D.str) none (some (1 + (i : Int))))), (.inr "open", .lst (cutD (ws.map D.str) (some (1 + (i : Int))) none)), (.inr "gone", .lst (g.map D.str))]))
  rw [e1, cut_to hl, cut_from hl, ← List.map_take, ← List.map_drop]
  have ew : ws.take (1 + i) ++ ws.drop (1 + i) = ws := List.take_append_drop _ _
  refine h (ws.take (1 + i)) (ws.drop (1 + i)) g ⟨by rw [ew]; exact wn, by rw [ew]; exact wm, ?_, ?_, ?_, ?_, by rw [ew]; exact ⟨gs.nodup wn, fun z hz => gs.subset hz⟩⟩
  · rw [List.length_take]; omega
  · rw [List.length_take]; omega
  · rw [List.length_drop]; omega
  · rw [ew]; omega
def It (e : D) : Prop := e = .non ∨ e = .int 5 ∨ e = .bl true ∨ e = .lst [] ∨ ∃ z : Str, e = .str z ∧ z.length ≤ 9 ∧ ∀ x ∈ z.cps.toList, x < 256
def nmB : D → Bool
  | .str z => decide (nameS z)
  | _ => false
theorem is_name_str {c : Cl} {z : Str} {K : D → Prop} (hz : z.length ≤ 9) (k : K (.bl (decide (nameS z)))) : S_is_name c (.str z) K := by
  have zl : z.length ≤ sizeLine := small (by omega)
  have no : ¬ nameS z → K (.bl false) := fun h => by rw [decide_eq_false h] at k; exact k
  simp only [S_is_name, isiKF, isiMF, isiNF, lenNF, listNF, cmpN, DL.ixN, ifS, joinS, letS, blS, isiF, lenUF, lenU, lenF, cmpU, cmpD, eqK, ltK, inK, isK, binD, tupF, absF, seqS, walkD, intS, lstS, rngS, unp2, slD, sfldS, insS, isCS, isAnyData, getO, tyN, isT, isAny, KnAll, Option.isSome_some, Bool.not_true, Bool.not_false, if_true, if_false, Bool.false_eq_true, reduceIte, true_and, and_true, kn_int, kn_bool, kn_str, kn_list, kn_tuple, kn_dict, Bool.or_true, Bool.true_or, Bool.or_false, Bool.false_or, beq_self_eq_true]
  refine ⟨zl, ?_⟩
  refine ifE (fun h1 => ?_) (fun h1 => no fun n => ?_)
  · refine ifE (fun h2 => no fun n => ?_) (fun h2 => ?_)
    · have := n.2.1
      have : ¬ ((z.length : Int) ≤ 8) := by simpa using h2
      omega
    · have l1 : (1 : Int) ≤ z.length := of_decide_eq_true h1
      have l2 : (z.length : Int) ≤ 8 := by simpa using h2
      refine ⟨zl, ?_⟩
      refine forS_of (fun i acc => acc = (z.cps.toList.take i).map fun x => D.bl (decide (x ∈ letters.cps.toList))) rfl (fun i d acc N hd hp nx => ?_) (fun acc hp => ?_)
      · unfold signs at hd
        rw [List.getElem?_map] at hd
        cases e : z.cps.toList[i]? with
        | none => rw [e] at hd; cases hd
        | some x =>
          rw [e] at hd
          cases hd
          refine ⟨x, rfl, nx _ ?_⟩
          rw [hp, List.take_add_one, e, List.map_append]
          rfl
      · have hp : acc = z.cps.toList.map fun x => D.bl (decide (x ∈ letters.cps.toList)) := by
          have e0 : (signs z).length = z.cps.toList.length := by simp [signs]
          rw [e0, List.take_length] at hp
          exact hp
        subst hp
        refine allF_map ?_
        have e : (z.cps.toList.all fun x => decide (x ∈ letters.cps.toList)) = decide (nameS z) := by
          by_cases n : nameS z
          · rw [decide_eq_true n, List.all_eq_true]
            exact fun x hx => decide_eq_true (n.2.2 x hx)
          · rw [decide_eq_false n]
            cases q : z.cps.toList.all fun x => decide (x ∈ letters.cps.toList) with
            | false => rfl
            | true => exact absurd ⟨by omega, by omega, fun x hx => of_decide_eq_true (List.all_eq_true.mp q x hx)⟩ n
        rw [e]
        exact k
  · have := n.1
    have : ¬ ((1 : Int) ≤ z.length) := of_decide_eq_false h1
    omega
theorem is_name_it {c : Cl} {e : D} {K : D → Prop} (h : It e) (k : K (.bl (nmB e))) : S_is_name c e K := by
  rcases h with rfl | rfl | rfl | rfl | ⟨z, rfl, hz, _⟩
  · exact ⟨rfl, kn_str, blS_bl (iT k)⟩
  · exact ⟨rfl, kn_str, blS_bl (iT k)⟩
  · exact ⟨rfl, kn_str, blS_bl (iT k)⟩
  · exact ⟨rfl, kn_str, blS_bl (iT k)⟩
  · exact is_name_str hz k
def SeqD (d : D) (ds : List D) : Prop := d = .lst ds ∨ d = .tup ds
theorem SeqD.seq {d : D} {ds : List D} {K : List D → Prop} (s : SeqD d ds) (k : K ds) : seqS d K := by rcases s with rfl | rfl <;> exact k
theorem SeqD.walk {d : D} {ds : List D} {K : List D → Prop} (s : SeqD d ds) (k : K ds) : walkD d K := by rcases s with rfl | rfl <;> exact k
theorem SeqD.enum {d : D} {ds : List D} {K : List D → Prop} (s : SeqD d ds) (k : K (enumD ds)) : enumS d K := by rcases s with rfl | rfl <;> exact k
theorem SeqD.len {P0 : Program} {w0 : World} {d : D} {ds : List D} {K : D → Prop} (s : SeqD d ds) (k : K (.int (ds.length : Nat))) : lenNF P0 w0 [d] K := by rcases s with rfl | rfl <;> exact k
theorem SeqD.list {P0 : Program} {w0 : World} {d : D} {ds : List D} {K : D → Prop} (s : SeqD d ds) (k : K (.lst ds)) : listNF P0 w0 [d] K := by rcases s with rfl | rfl <;> exact k
theorem SeqD.tup {d : D} {ds : List D} {K : D → Prop} (s : SeqD d ds) (k : K (.tup ds)) : tupF [d] K := by rcases s with rfl | rfl <;> exact k
theorem SeqD.isi {C : Addr} {d : D} {ds : List D} {K : D → Prop} (s : SeqD d ds) (k : K (.bl true)) : isiMF C [d, .tup [.ty "list", .ty "tuple"]] K := by
  rcases s with rfl | rfl
  · exact ⟨rfl, ⟨kn_list, kn_tuple, trivial⟩, k⟩
  · exact ⟨rfl, ⟨kn_list, kn_tuple, trivial⟩, k⟩
theorem SeqD.cut {d : D} {ds : List D} {lo hi : Option Int} {K : D → Prop} (s : SeqD d ds) (k : ∀ e, SeqD e (cutD ds lo hi) → K e) : slD d lo hi K := by
  rcases s with rfl | rfl
  · exact k _ (.inl rfl)
  · exact k _ (.inr rfl)
theorem shE_names {ws : List Str} (h : ∀ z ∈ ws, nameS z) : ∀ d ∈ ws.map D.str, shE d := fun d hd => by
  obtain ⟨z, hz, rfl⟩ := List.mem_map.mp hd
  exact shE_side (.inl (h z hz))
theorem all_flat (ws : List Str) : (ws.map D.str).all flatD = true := by rw [List.all_map, List.all_eq_true]; exact fun _ _ => rfl
theorem SeqD.has {P0 : Program} {w0 : World} {d : D} {ws : List Str} {x : Str} {K : Bool → Prop} (s : SeqD d (ws.map D.str)) (hn : ∀ z ∈ ws, nameS z) (hx : ∀ y ∈ x.cps.toList, y < 256) (k : K (decide (x ∈ ws))) : cmpN P0 w0 .In (.str x) d K := by
  rcases s with rfl | rfl
  · exact ⟨shp_of (shE_str hx), shp_lst (shE_names hn), by rw [any_str]; exact k⟩
  · exact ⟨rfl, all_flat ws, by rw [any_str]; exact k⟩
theorem nin_lst {P0 : Program} {w0 : World} {ws : List Str} {x : Str} {K : Bool → Prop} (hn : ∀ z ∈ ws, nameS z) (hx : ∀ y ∈ x.cps.toList, y < 256) (k : K (!decide (x ∈ ws))) : cmpN P0 w0 .NotIn (.str x) (.lst (ws.map D.str)) K :=
  ⟨shp_of (shE_str hx), shp_lst (shE_names hn), by rw [any_str]; exact k⟩
theorem nameS_256 {z : Str} (h : nameS z) : ∀ x ∈ z.cps.toList, x < 256 := sideS_str (.inl h)
def Nl (ds : List D) : Prop := ∃ ws : List Str, ds = ws.map D.str ∧ ws.Nodup ∧ ∀ z ∈ ws, nameS z
theorem map_str_inj : ∀ {a b : List Str}, a.map D.str = b.map D.str → a = b
  | [], [], _ => rfl
  | [], _ :: _, h => by cases h
  | _ :: _, [], h => by cases h
  | x :: a, y :: b, h => by
    rw [List.map_cons, List.map_cons] at h
    injection h with h1 h2
    injection h1 with h1
    rw [h1, map_str_inj h2]
theorem ws_of : ∀ {ds : List D}, ds.all nmB = true → ∃ ws : List Str, ds = ws.map D.str ∧ ∀ z ∈ ws, nameS z
  | [], _ => ⟨[], rfl, fun z h => by cases h⟩
  | d :: ds, h => by
    rw [List.all_cons, Bool.and_eq_true] at h
    obtain ⟨ws, rfl, hw⟩ := ws_of h.2
    cases d with
    | str z =>
      have hz : nameS z := of_decide_eq_true h.1
      refine ⟨z :: ws, rfl, fun y hy => ?_⟩
      rcases List.mem_cons.mp hy with rfl | hy
      · exact hz
      · exact hw y hy
    | _ => cases h.1
theorem nm_all {ws : List Str} (h : ∀ z ∈ ws, nameS z) : (ws.map D.str).all nmB = true := by
  rw [List.all_map, List.all_eq_true]
  exact fun z hz => decide_eq_true (h z hz)
theorem nodup_of_le : ∀ {l m : List Str}, m.Nodup → (∀ x ∈ m, x ∈ l) → l.length ≤ m.length → l.Nodup
  | [], _, _, _, _ => List.nodup_nil
  | a :: l, m, nd, sub, len => by
    rw [List.length_cons] at len
    have na : a ∉ l := fun ha => by
      have := pigeon (l := m) (m := l) nd fun x hx => by
        rcases List.mem_cons.mp (sub x hx) with rfl | h
        · exact ha
        · exact h
      omega
    refine List.nodup_cons.mpr ⟨na, nodup_of_le (m := m.erase a) (nd.erase a) (fun x hx => ?_) ?_⟩
    · have q := (List.Nodup.mem_erase_iff nd).mp hx
      rcases List.mem_cons.mp (sub x q.2) with rfl | h
      · exact absurd rfl q.1
      · exact h
    · rw [List.length_erase]
      split <;> omega
theorem nub_len {ws : List Str} (h : ((nubS ws).length : Int) = ((ws.length : Nat) : Int)) : ws.Nodup :=
  nodup_of_le (RG.nubS_nd ws) (fun x hx => (mem_nubS ws x).mp hx) (by omega)
theorem lenSet_of {d : D} {ws : List Str} {K : D → Prop} (s : SeqD d (ws.map D.str)) (hl : ws.length ≤ 1000) (k : K (.int ((nubS ws).length : Nat))) : lenSetS d K := s.seq ⟨ws, rfl, hl, k⟩
theorem are_names_seq {c : Cl} {d : D} {ds : List D} {K : D → Prop} (s : SeqD d ds) (it : ∀ e ∈ ds, It e) (hl : ds.length ≤ 1000) (k1 : Nl ds → K (.bl true)) (k0 : ¬ Nl ds → K (.bl false)) : S_are_names c d K := by
  unfold S_are_names S_is_list
  refine if_in (s.isi (blS_bl (iF (s.walk (forS_map (fun e => .bl (nmB e)) (fun e acc N he n => is_name_it (it e he) n) (allF_map (blS_bl (ifE (fun h => ?_) (fun h => ?_)))))))))
  · refine k0 fun ⟨ws, e, _, nm⟩ => ?_
    subst e
    rw [nm_all nm] at h
    cases h
  · have h : ds.all nmB = true := by
      cases q : ds.all nmB with
      | true => rfl
      | false => rw [q] at h; cases h
    obtain ⟨ws, rfl, nm⟩ := ws_of h
    rw [List.length_map] at hl
    refine lenSet_of s hl (s.len (eqI ?_))
    rw [List.length_map]
    by_cases nd : ws.Nodup
    · rw [nubS_nodup nd, decide_eq_true rfl]
      exact k1 ⟨ws, rfl, nd, nm⟩
    · rw [decide_eq_false fun q => nd (nub_len q)]
      refine k0 fun ⟨ws', e, nd', _⟩ => nd ?_
      rw [map_str_inj e]
      exact nd'
end K02

namespace K02
open PySem PySem.Spec L2 DL RG
theorem Nl.take {ds : List D} (h : Nl ds) (n : Nat) : Nl (ds.take n) := by
  obtain ⟨ws, rfl, nd, nm⟩ := h
  refine ⟨ws.take n, List.map_take.symm, (List.take_sublist n ws).nodup nd, fun z hz => nm z (List.mem_of_mem_take hz)⟩
theorem nl_snoc {ws : List Str} {z : Str} (nd : ws.Nodup) (nm : ∀ y ∈ ws, nameS y) (hz : nameS z) (hn : z ∉ ws) : Nl (ws.map D.str ++ [.str z]) := by
  refine ⟨ws ++ [z], by rw [List.map_append]; rfl, List.nodup_append.mpr ⟨nd, by simp, fun a ha b hb e => hn (by rw [List.mem_singleton.mp hb] at e; exact e ▸ ha)⟩, fun y hy => ?_⟩
  rcases List.mem_append.mp hy with hy | hy
  · exact nm y hy
  · rw [List.mem_singleton.mp hy]; exact hz
theorem nl_last {ws : List Str} {d : D} (h : Nl (ws.map D.str ++ [d])) : ∃ z, d = .str z ∧ nameS z ∧ z ∉ ws := by
  obtain ⟨vs, e, nd, nm⟩ := h
  have lv : vs.length = ws.length + 1 := by
    have := congrArg List.length e
    rw [List.length_append, List.length_map, List.length_map] at this
    exact this.symm
  have ev : vs = vs.take ws.length ++ vs.drop ws.length := (List.take_append_drop _ _).symm
  have l2 : (vs.drop ws.length).length = 1 := by rw [List.length_drop]; omega
  obtain ⟨z, hz⟩ := List.length_eq_one_iff.mp l2
  rw [hz] at ev
  rw [ev, List.map_append] at e
  have e2 := List.append_inj' e rfl
  have ew : ws = vs.take ws.length := map_str_inj e2.1
  have ed : d = .str z := by
    have := e2.2
    simpa using this
  refine ⟨z, ed, nm z (by rw [ev]; simp), fun hm => ?_⟩
  rw [ev, ← ew] at nd
  exact (List.nodup_append.mp nd).2.2 z hm z (by simp) rfl
theorem cutI {xs : List D} {i : Nat} (h : i ≤ xs.length) : cutD xs none (some (i : Int)) = xs.take i := cut_to h
theorem odd_signs {c : Cl} {z : Str} {A B : Prop} (hz : ∀ x ∈ z.cps.toList, x < 256) (zl : z.length ≤ 9) (h1 : ¬ (∀ x ∈ z.cps.toList, x ∈ letters.cps.toList) → A) (h0 : (∀ x ∈ z.cps.toList, x ∈ letters.cps.toList) → B) :
    ifS (fun k => walkD (.str z) fun ds32 => forS ds32 [] (fun d30 a28 n29 => ifS (fun k => cmpN c.P c.w .NotIn d30 (.str "abcdefghijklmnopqrstuvwxyz") fun t33 => k t33) (n29 (a28 ++ [d30])) (n29 a28)) fun xs31 => cmpU .NotEq (.lst xs31) (.lst []) fun t27 => k t27) A B := by
  refine if_in ⟨small (by show z.length ≤ 1000000; omega), ?_⟩
  refine forS_of (fun i acc => acc = ((z.cps.toList.take i).filter fun x => !decide (x ∈ letters.cps.toList)).map fun x => D.str ⟨#[x]⟩) rfl (fun i d acc N hd hp nx => ?_) (fun acc hp => ?_)
  · unfold signs at hd
    rw [List.getElem?_map] at hd
    cases e : z.cps.toList[i]? with
    | none => rw [e] at hd; cases hd
    | some x =>
      rw [e] at hd
      cases hd
      refine if_in ⟨x, rfl, ?_⟩
      have ef : (z.cps.toList.take (i + 1)).filter (fun x => !decide (x ∈ letters.cps.toList)) = (z.cps.toList.take i).filter (fun x => !decide (x ∈ letters.cps.toList)) ++ [x].filter (fun x => !decide (x ∈ letters.cps.toList)) := by rw [List.take_add_one, e, List.filter_append]; rfl
      refine ifE (fun h => nx _ ?_) (fun h => nx _ ?_)
      · have h : (!decide (x ∈ letters.cps.toList)) = true := h
        rw [ef, List.filter_cons_of_pos (p := fun x => !decide (x ∈ letters.cps.toList)) h, List.map_append, hp]
        rfl
      · have h : (!decide (x ∈ letters.cps.toList)) = false := h
        rw [ef, List.filter_cons_of_neg (p := fun x => !decide (x ∈ letters.cps.toList)) (by rw [h]; exact Bool.false_ne_true), List.map_append, hp]
        exact (List.append_nil _).symm
  · have e0 : (signs z).length = z.cps.toList.length := by simp [signs]
    rw [e0, List.take_length] at hp
    subst hp
    refine ⟨shp_lst fun d hd => ?_, shp_nil, ?_⟩
    · obtain ⟨x, hx, rfl⟩ := List.mem_map.mp hd
      refine shE_str fun y hy => ?_
      have : y = x := by simpa using hy
      rw [this]
      exact hz x ((List.mem_filter.mp hx).1)
    · rw [eqD_nil]
      refine ifE (fun h => h1 fun al => ?_) (fun h => h0 fun x hx => ?_)
      · have : z.cps.toList.filter (fun x => !decide (x ∈ letters.cps.toList)) = [] := by
          rw [List.filter_eq_nil_iff]
          intro x hx
          rw [decide_eq_true (al x hx)]
          exact Bool.false_ne_true
        rw [this] at h
        cases h
      · by_cases q : x ∈ letters.cps.toList
        · exact q
        · have hm : x ∈ z.cps.toList.filter (fun x => !decide (x ∈ letters.cps.toList)) := List.mem_filter.mpr ⟨hx, by rw [decide_eq_false q]; rfl⟩
          cases e : z.cps.toList.filter (fun x => !decide (x ∈ letters.cps.toList)) with
          | nil => rw [e] at hm; cases hm
          | cons a r => rw [e] at h; cases h
theorem ltD {a b : Int} {K : Bool → Prop} (h : K (decide (a < b))) : cmpD .Lt (.int a) (.int b) K := h
theorem leD {a b : Int} {K : Bool → Prop} (h : K (decide (a ≤ b))) : cmpD .LtE (.int a) (.int b) K := h
theorem int_in {i : Int} {K : Int → Prop} (h : K i) : intS (.int i) K := h
theorem unp2_mk {a b : D} {K : D → D → Prop} (h : K a b) : unp2 (.tup [a, b]) K := h
theorem law_are_names_seq {c : Cl} {d : D} {ds : List D} {K : D → Prop} (s : SeqD d ds) (it : ∀ e ∈ ds, It e) (k1 : Nl ds → K (.bl true)) (k0 : ¬ Nl ds → K (.bl false)) : S_law_are_names c d K := by
  unfold S_law_are_names
  refine if_in (s.isi (blS_bl (iF (s.enum (forS_of (fun i _ => Nl (ds.take i)) ⟨[], rfl, List.nodup_nil, fun z h => by cases h⟩ (fun i d0 _ N hd hp nx => ?_) (fun _ hp => ?_))))))
  · obtain ⟨e, he, rfl⟩ := enumD_get hd
    have il : i < ds.length := (List.getElem?_eq_some_iff.mp he).1
    have et : ds.take (i + 1) = ds.take i ++ [e] := by rw [List.take_add_one, he]; rfl
    obtain ⟨ws, ew, nd, nm⟩ := hp
    have no : ¬ (∃ z, e = .str z ∧ nameS z ∧ z ∉ ws) → K (.bl false) := fun h => k0 fun n => h (nl_last (by
      have := n.take (i + 1)
      rw [et, ew] at this
      exact this))
    refine unp2_mk (if_in ?_)
    rcases it e (List.mem_of_getElem? he) with rfl | rfl | rfl | rfl | ⟨z, rfl, zl, zc⟩
    · exact ⟨rfl, kn_str, blS_bl (iT (iT (no fun ⟨_, h, _⟩ => by cases h)))⟩
    · exact ⟨rfl, kn_str, blS_bl (iT (iT (no fun ⟨_, h, _⟩ => by cases h)))⟩
    · exact ⟨rfl, kn_str, blS_bl (iT (iT (no fun ⟨_, h, _⟩ => by cases h)))⟩
    · exact ⟨rfl, kn_str, blS_bl (iT (iT (no fun ⟨_, h, _⟩ => by cases h)))⟩
    · refine ⟨rfl, kn_str, blS_bl (iF ?_)⟩
      have zls : z.length ≤ sizeLine := small (by omega)
      have st : ∀ {v : D} {x : Str}, D.str x = .str z → nameS x → nameS z := fun h n => by injection h with h; exact h ▸ n
      refine ⟨zls, ltD (ifE (fun h1 => ltD (ifE (fun h2 => iT (no fun ⟨x, e, n, _⟩ => ?_)) (fun h2 => ?_))) (fun h1 => iT (no fun ⟨x, e, n, _⟩ => ?_)))⟩
      · injection e with e
        subst e
        have := n.2.1
        have h2 : ¬ ((z.length : Int) < 9) := by simpa using h2
        omega
      · refine int_in (s.cut fun v sv => ?_)
        have e2 : cutD ds none (some (i : Int)) = ws.map D.str := by rw [cutI (by omega), ew]
        rw [e2] at sv
        refine sv.has nm zc (ifE (fun h3 => no fun ⟨x, e, n, q⟩ => ?_) (fun h3 => ?_))
        · injection e with e
          subst e
          exact q (of_decide_eq_true h3)
        · have h3 : z ∉ ws := of_decide_eq_false h3
          refine odd_signs zc zl (fun h4 => no fun ⟨x, e, n, q⟩ => ?_) (fun h4 => nx () ?_)
          · injection e with e
            subst e
            exact h4 n.2.2
          · rw [et, ew]
            have h1 : (0 : Int) < z.length := of_decide_eq_true h1
            have h2 : (z.length : Int) < 9 := by simpa using h2
            exact nl_snoc nd nm ⟨by omega, by omega, h4⟩ h3
      · injection e with e
        subst e
        have := n.1
        have h1 : ¬ ((0 : Int) < (z.length : Int)) := of_decide_eq_false h1
        omega
  · have e : (enumD ds).length = ds.length := by simp [enumD]
    rw [e, List.take_length] at hp
    exact k1 hp
def Ln (n : Nat) (d : D) : Prop := (∃ ds, SeqD d ds ∧ ds.length ≤ n ∧ ∀ e ∈ ds, It e) ∨ d = .non ∨ d = .int 5 ∨ d = .str "ab" ∨ d = .dic [] ∨ d = .bl true
def Nm (d : D) (ws : List Str) : Prop := SeqD d (ws.map D.str) ∧ ws.Nodup ∧ ∀ z ∈ ws, nameS z
theorem SeqD.inj {d : D} {a b : List D} (s : SeqD d a) (t : SeqD d b) : a = b := by
  rcases s with rfl | rfl <;> rcases t with h | h <;> injection h
theorem SeqD.nat {d : D} {a b : List Str} (s : SeqD d (a.map D.str)) (t : SeqD d (b.map D.str)) : a = b := map_str_inj (s.inj t)
theorem are_names_ln {c : Cl} {n : Nat} {d : D} {K : D → Prop} (h : Ln n d) (hn : n ≤ 1000) (k1 : ∀ ws, Nm d ws → K (.bl true)) (k0 : (∀ ws, ¬ Nm d ws) → K (.bl false)) : S_are_names c d K := by
  have odd : (∀ ds, ¬ SeqD d ds) → K (.bl false) := fun h => k0 fun ws n => h _ n.1
  rcases h with ⟨ds, s, hl, it⟩ | rfl | rfl | rfl | rfl | rfl
  · refine are_names_seq s it (by omega) (fun ⟨ws, e, nd, nm⟩ => ?_) (fun no => k0 fun ws n => no ?_)
    · subst e
      exact k1 ws ⟨s, nd, nm⟩
    · obtain ⟨s', nd, nm⟩ := n
      exact ⟨ws, s.inj s', nd, nm⟩
  · exact if_in ⟨rfl, ⟨kn_list, kn_tuple, trivial⟩, blS_bl (iT (iT (odd fun ds s => by rcases s with h | h <;> cases h)))⟩
  · exact if_in ⟨rfl, ⟨kn_list, kn_tuple, trivial⟩, blS_bl (iT (iT (odd fun ds s => by rcases s with h | h <;> cases h)))⟩
  · exact if_in ⟨rfl, ⟨kn_list, kn_tuple, trivial⟩, blS_bl (iT (iT (odd fun ds s => by rcases s with h | h <;> cases h)))⟩
  · exact if_in ⟨rfl, ⟨kn_list, kn_tuple, trivial⟩, blS_bl (iT (iT (odd fun ds s => by rcases s with h | h <;> cases h)))⟩
  · exact if_in ⟨rfl, ⟨kn_list, kn_tuple, trivial⟩, blS_bl (iT (iT (odd fun ds s => by rcases s with h | h <;> cases h)))⟩
theorem law_are_names_ln {c : Cl} {n : Nat} {d : D} {K : D → Prop} (h : Ln n d) (k1 : ∀ ws, Nm d ws → K (.bl true)) (k0 : (∀ ws, ¬ Nm d ws) → K (.bl false)) : S_law_are_names c d K := by
  have odd : (∀ ds, ¬ SeqD d ds) → K (.bl false) := fun h => k0 fun ws n => h _ n.1
  rcases h with ⟨ds, s, hl, it⟩ | rfl | rfl | rfl | rfl | rfl
  · refine law_are_names_seq s it (fun ⟨ws, e, nd, nm⟩ => ?_) (fun no => k0 fun ws n => no ?_)
    · subst e
      exact k1 ws ⟨s, nd, nm⟩
    · obtain ⟨s', nd, nm⟩ := n
      exact ⟨ws, s.inj s', nd, nm⟩
  · exact if_in ⟨rfl, ⟨kn_list, kn_tuple, trivial⟩, blS_bl (iT (odd fun ds s => by rcases s with h | h <;> cases h))⟩
  · exact if_in ⟨rfl, ⟨kn_list, kn_tuple, trivial⟩, blS_bl (iT (odd fun ds s => by rcases s with h | h <;> cases h))⟩
  · exact if_in ⟨rfl, ⟨kn_list, kn_tuple, trivial⟩, blS_bl (iT (odd fun ds s => by rcases s with h | h <;> cases h))⟩
  · exact if_in ⟨rfl, ⟨kn_list, kn_tuple, trivial⟩, blS_bl (iT (odd fun ds s => by rcases s with h | h <;> cases h))⟩
  · exact if_in ⟨rfl, ⟨kn_list, kn_tuple, trivial⟩, blS_bl (iT (odd fun ds s => by rcases s with h | h <;> cases h))⟩
end K02

namespace K02
open PySem PySem.Spec L2 DL RG
def Due (a b g : D) : Prop := ∃ wa wb wg : List Str, SeqD a (wa.map D.str) ∧ SeqD b (wb.map D.str) ∧ SeqD g (wg.map D.str) ∧ Fr wa wb wg
theorem Ln.len {n : Nat} {d : D} {ds : List D} (h : Ln n d) (s : SeqD d ds) : ds.length ≤ n := by
  rcases h with ⟨es, s', hl, _⟩ | rfl | rfl | rfl | rfl | rfl
  · rw [s.inj s']; exact hl
  · rcases s with h | h <;> cases h
  · rcases s with h | h <;> cases h
  · rcases s with h | h <;> cases h
  · rcases s with h | h <;> cases h
  · rcases s with h | h <;> cases h
theorem it_name {z : Str} (h : nameS z) : It (.str z) := .inr (.inr (.inr (.inr ⟨z, rfl, by have := h.2.1; omega, nameS_256 h⟩)))
theorem ln_seq {n : Nat} {d : D} {ws : List Str} (s : SeqD d (ws.map D.str)) (hn : ∀ z ∈ ws, nameS z) (hl : ws.length ≤ n) : Ln n d :=
  .inl ⟨_, s, by rw [List.length_map]; exact hl, fun e he => by
    obtain ⟨z, hz, rfl⟩ := List.mem_map.mp he
    exact it_name (hn z hz)⟩
theorem filt_words {ws : List Str} {b : D → List D → (List D → Prop) → Prop} {K : List D → Prop} (p : Str → Bool) (h : ∀ x acc N, x ∈ ws → N (if p x = true then acc ++ [.str x] else acc) → b (.str x) acc N) (k : K ((ws.filter p).map D.str)) : forS (ws.map D.str) [] b K := by
  refine forS_of (fun i acc => acc = ((ws.take i).filter p).map D.str) rfl (fun i d acc N hd hp nx => ?_) (fun acc hp => ?_)
  · rw [List.getElem?_map] at hd
    cases e : ws[i]? with
    | none => rw [e] at hd; cases hd
    | some x =>
      rw [e] at hd
      cases hd
      refine h x acc N (List.mem_of_getElem? e) (nx _ ?_)
      rw [hp, List.take_add_one, e, List.filter_append, List.map_append]
      show _ = _ ++ (List.filter p [x]).map D.str
      cases q : p x with
      | true => rw [List.filter_cons_of_pos q]; rfl
      | false => rw [List.filter_cons_of_neg (by rw [q]; exact Bool.false_ne_true)]; exact (List.append_nil _).symm
  · rw [List.length_map, List.take_length] at hp
    rw [hp]; exact k
theorem map_words {ws : List Str} {b : D → List D → (List D → Prop) → Prop} {K : List D → Prop} (f : Str → D) (h : ∀ x acc N, x ∈ ws → N (acc ++ [f x]) → b (.str x) acc N) (k : K (ws.map f)) : forS (ws.map D.str) [] b K := by
  refine forS_of (fun i acc => acc = (ws.take i).map f) rfl (fun i d acc N hd hp nx => ?_) (fun acc hp => ?_)
  · rw [List.getElem?_map] at hd
    cases e : ws[i]? with
    | none => rw [e] at hd; cases hd
    | some x =>
      rw [e] at hd
      cases hd
      refine h x acc N (List.mem_of_getElem? e) (nx _ ?_)
      rw [hp, List.take_add_one, e, List.map_append]
      rfl
  · rw [List.length_map, List.take_length] at hp
    rw [hp]; exact k
theorem eq_nil {ws : List Str} {K : Bool → Prop} (hn : ∀ z ∈ ws, nameS z) (k : K ws.isEmpty) : cmpU .Eq (.lst (ws.map D.str)) (.lst []) K := by
  refine ⟨shp_lst (shE_names hn), shp_nil, ?_⟩
  rw [eqD_nil]
  cases ws <;> exact k
theorem are_sides_ln {c : Cl} {n : Nat} {a b g : D} {K : D → Prop} (ha : Ln n a) (hb : Ln n b) (hg : Ln n g) (hn : n ≤ 100) (k1 : Due a b g → K (.bl true)) (k0 : ¬ Due a b g → K (.bl false)) : S_are_sides c a b g K := by
  have big : 20000 < sizeLine := by decide
  unfold S_are_sides
  refine if_in (are_names_ln ha (by omega) (fun wa na => blS_bl (iF ?_)) (fun no => blS_bl (iT (iT (k0 fun ⟨wa, _, _, s, _, _, F⟩ => no wa ⟨s, (List.nodup_append.mp F.nd).1, fun z hz => F.nm z (List.mem_append_left _ hz)⟩)))))
  refine are_names_ln hb (by omega) (fun wb nb => blS_bl (iF ?_)) (fun no => blS_bl (iT (iT (k0 fun ⟨_, wb, _, _, s, _, F⟩ => no wb ⟨s, (List.nodup_append.mp F.nd).2.1, fun z hz => F.nm z (List.mem_append_right _ hz)⟩))))
  refine are_names_ln hg (by omega) (fun wg ng => blS_bl (iF ?_)) (fun no => blS_bl (iT (k0 fun ⟨_, _, wg, _, _, s, F⟩ => no wg ⟨s, F.gs.nd, fun z hz => F.nm z (F.gs.sub z hz)⟩)))
  have la := ha.len na.1
  have lb := hb.len nb.1
  have lg := hg.len ng.1
  rw [List.length_map] at la lb lg
  have hk1 : Fr wa wb wg → K (.bl true) := fun F => k1 ⟨wa, wb, wg, na.1, nb.1, ng.1, F⟩
  have hk0 : ¬ Fr wa wb wg → K (.bl false) := fun no => k0 fun ⟨wa', wb', wg', sa, sb, sg, F⟩ => by
    obtain rfl := na.1.nat sa
    obtain rfl := nb.1.nat sb
    obtain rfl := ng.1.nat sg
    exact no F
  have nms : ∀ z ∈ wa ++ wb, nameS z := fun z hz => (List.mem_append.mp hz).elim (na.2.2 z) (nb.2.2 z)
  have em : wa.map D.str ++ wb.map D.str = (wa ++ wb).map D.str := List.map_append.symm
  refine na.1.seq (nb.1.seq ?_)
  rw [em]
  refine ⟨by rw [List.length_map, List.length_append]; omega, if_in (na.1.len (leD (ifE (fun h1 => leD (ifE (fun h2 => iT (hk0 fun F => ?_)) (fun h2 => ?_))) (fun h1 => iT (iT (hk0 fun F => ?_))))))⟩
  · rw [List.length_map] at h2
    have := F.a3
    have h2 : ¬ ((wa.length : Int) ≤ 3) := by simpa using h2
    omega
  · refine nb.1.len (gtI (ifE (fun h3 => iT (hk0 fun F => ?_)) (fun h3 => (SeqD.len (.inl rfl) (gtI (ifE (fun h4 => hk0 fun F => ?_) (fun h4 => ?_)))))))
    · rw [List.length_map] at h3
      have := F.b3
      have := of_decide_eq_true h3
      omega
    · rw [List.length_map] at h4
      have := F.ab
      have := of_decide_eq_true h4
      omega
    · rw [List.length_map] at h1 h2 h3 h4
      have h1 := of_decide_eq_true h1
      have h2 : (wa.length : Int) ≤ 3 := by simpa using h2
      have h3 := of_decide_eq_false h3
      have h4 := of_decide_eq_false h4
      refine lenSet_of (.inl rfl) (by rw [List.length_append]; omega) (SeqD.len (.inl rfl) (eqI (blS_bl (ifE (fun h5 => ?_) (fun h5 => hk0 fun F => ?_)))))
      · have nd := nub_len (by have := of_decide_eq_true h5; rw [List.length_map] at this; exact this)
        refine ng.1.walk (map_words (fun x => .bl (decide (x ∈ wa ++ wb))) (fun x acc N hx nx => (SeqD.has (.inl rfl) nms (nameS_256 (ng.2.2 x hx)) nx)) (allF_map ?_))
        by_cases sub : ∀ z ∈ wg, z ∈ wa ++ wb
        · have e : (wg.all fun x => decide (x ∈ wa ++ wb)) = true := by
            rw [List.all_eq_true]
            exact fun z hz => decide_eq_true (sub z hz)
          rw [e]
          exact hk1 ⟨nd, nms, by omega, by omega, by omega, by omega, ⟨ng.2.1, sub⟩⟩
        · have e : (wg.all fun x => decide (x ∈ wa ++ wb)) = false := by
            cases q : wg.all fun x => decide (x ∈ wa ++ wb) with
            | false => rfl
            | true => exact absurd (fun z hz => of_decide_eq_true (List.all_eq_true.mp q z hz)) sub
          rw [e]
          exact hk0 fun F => sub F.gs.sub
      · have := of_decide_eq_false h5
        rw [nubS_nodup F.nd, List.length_map] at this
        exact this rfl
  · rw [List.length_map] at h1
    have := F.a1
    have := of_decide_eq_false h1
    omega
theorem addI' {a b : Int} {K : D → Prop} (h : K (.int (a + b))) : binD .Add (.int a) (.int b) K := h
theorem law_are_sides_ln {c : Cl} {n : Nat} {a b g : D} {K : D → Prop} (ha : Ln n a) (hb : Ln n b) (hg : Ln n g) (hn : n ≤ 100) (k1 : Due a b g → K (.bl true)) (k0 : ¬ Due a b g → K (.bl false)) : S_law_are_sides c a b g K := by
  have big : 20000 < sizeLine := by decide
  unfold S_law_are_sides
  refine if_in (law_are_names_ln ha (fun wa na => blS_bl (iF ?_)) (fun no => blS_bl (iT (iT (k0 fun ⟨wa, _, _, s, _, _, F⟩ => no wa ⟨s, (List.nodup_append.mp F.nd).1, fun z hz => F.nm z (List.mem_append_left _ hz)⟩)))))
  refine law_are_names_ln hb (fun wb nb => blS_bl (iF ?_)) (fun no => blS_bl (iT (iT (k0 fun ⟨_, wb, _, _, s, _, F⟩ => no wb ⟨s, (List.nodup_append.mp F.nd).2.1, fun z hz => F.nm z (List.mem_append_right _ hz)⟩))))
  refine law_are_names_ln hg (fun wg ng => blS_bl (iF ?_)) (fun no => blS_bl (iT (k0 fun ⟨_, _, wg, _, _, s, F⟩ => no wg ⟨s, F.gs.nd, fun z hz => F.nm z (F.gs.sub z hz)⟩)))
  have la := ha.len na.1
  have lb := hb.len nb.1
  have lg := hg.len ng.1
  rw [List.length_map] at la lb lg
  have hk1 : Fr wa wb wg → K (.bl true) := fun F => k1 ⟨wa, wb, wg, na.1, nb.1, ng.1, F⟩
  have hk0 : ¬ Fr wa wb wg → K (.bl false) := fun no => k0 fun ⟨wa', wb', wg', sa, sb, sg, F⟩ => by
    obtain rfl := na.1.nat sa
    obtain rfl := nb.1.nat sb
    obtain rfl := ng.1.nat sg
    exact no F
  have nms : ∀ z ∈ wa ++ wb, nameS z := fun z hz => (List.mem_append.mp hz).elim (na.2.2 z) (nb.2.2 z)
  have em : wa.map D.str ++ wb.map D.str = (wa ++ wb).map D.str := List.map_append.symm
  refine if_in (na.1.len (ltD (ifE (fun h1 => ltD (ifE (fun h2 => iT (hk0 fun F => ?_)) (fun h2 => ?_))) (fun h1 => iT (iT (hk0 fun F => ?_))))))
  · rw [List.length_map] at h2
    have := F.a3
    have h2 : ¬ ((wa.length : Int) < 4) := by simpa using h2
    omega
  · refine nb.1.len (gtI (ifE (fun h3 => iT (hk0 fun F => ?_)) (fun h3 => na.1.len (nb.1.len (addI' (gtI (ifE (fun h4 => hk0 fun F => ?_) (fun h4 => ?_))))))))
    · rw [List.length_map] at h3
      have := F.b3
      have := of_decide_eq_true h3
      omega
    · rw [List.length_map, List.length_map] at h4
      have := F.ab
      rw [List.length_append] at this
      have := of_decide_eq_true h4
      omega
    · rw [List.length_map] at h1 h2 h3
      rw [List.length_map, List.length_map] at h4
      have h1 := of_decide_eq_true h1
      have h2 : (wa.length : Int) < 4 := by simpa using h2
      have h3 := of_decide_eq_false h3
      have h4 := of_decide_eq_false h4
      refine na.1.list (nb.1.list ⟨by rw [List.length_map, List.length_map]; omega, ?_⟩)
      rw [em]
      refine na.1.walk (filt_words (fun x => decide (x ∈ wb)) (fun x acc N hx nx => if_in (nb.1.has nb.2.2 (nameS_256 (na.2.2 x hx)) (ifE (fun h => ?_) (fun h => ?_)))) ?_)
      · rw [if_pos h] at nx; exact nx
      · rw [if_neg (by rw [h]; exact Bool.false_ne_true)] at nx; exact nx
      refine eq_nil (fun z hz => na.2.2 z (List.mem_filter.mp hz).1) (blS_bl (ifE (fun h5 => ?_) (fun h5 => hk0 fun F => ?_)))
      · have nd : (wa ++ wb).Nodup := List.nodup_append.mpr ⟨na.2.1, nb.2.1, fun x hx y hy e => by
          subst e
          have hm : x ∈ wa.filter fun x => decide (x ∈ wb) := List.mem_filter.mpr ⟨hx, decide_eq_true hy⟩
          rw [List.isEmpty_iff.mp h5] at hm
          cases hm⟩
        refine ng.1.walk (filt_words (fun x => !decide (x ∈ wa ++ wb)) (fun x acc N hx nx => if_in (nin_lst nms (nameS_256 (ng.2.2 x hx)) (ifE (fun h => ?_) (fun h => ?_)))) ?_)
        · rw [if_pos h] at nx; exact nx
        · rw [if_neg (by rw [h]; exact Bool.false_ne_true)] at nx; exact nx
        refine eq_nil (fun z hz => ng.2.2 z (List.mem_filter.mp hz).1) ?_
        by_cases sub : ∀ z ∈ wg, z ∈ wa ++ wb
        · have e : (wg.filter fun x => !decide (x ∈ wa ++ wb)) = [] := by
            rw [List.filter_eq_nil_iff]
            intro x hx
            rw [decide_eq_true (sub x hx)]
            exact Bool.false_ne_true
          rw [e]
          exact hk1 ⟨nd, nms, by omega, by omega, by omega, by rw [List.length_append]; omega, ⟨ng.2.1, sub⟩⟩
        · cases q : wg.filter fun x => !decide (x ∈ wa ++ wb) with
          | cons y r => exact hk0 fun F => sub F.gs.sub
          | nil =>
            refine absurd (fun z hz => ?_) sub
            rw [List.filter_eq_nil_iff] at q
            have := q z hz
            refine Classical.byContradiction fun no => this ?_
            rw [decide_eq_false no]
            rfl
      · have : (wa.filter fun x => decide (x ∈ wb)) = [] := by
          rw [List.filter_eq_nil_iff]
          exact fun x hx h => (List.nodup_append.mp F.nd).2.2 x hx x (of_decide_eq_true h) rfl
        rw [this] at h5
        cases h5
  · rw [List.length_map] at h1
    have := F.a1
    have := of_decide_eq_false h1
    omega
def shpD (c : Cl) (a b l : List Str) : D := .ins c.Shape [("own_columns", .tup (a.map D.str)), ("own_blanks", .tup (b.map D.str)), ("own_lacking", .tup (l.map D.str))]
theorem SeqD.sort {d : D} {ws : List Str} {K : D → Prop} (s : SeqD d (ws.map D.str)) (hl : ws.length < 64) (k : ∀ ys : List Str, ys.Perm ws → PyProof.Rows.sortedS ys = true → K (.lst (ys.map D.str))) : sortTF [d] K := by
  rcases s with rfl | rfl
  · exact ⟨ws, rfl, hl, k⟩
  · exact ⟨ws, rfl, hl, k⟩
theorem init_no {c : Cl} {n : Nat} {a b g : D} {E K : D → Prop} (ha : Ln n a) (hb : Ln n b) (hg : Ln n g) (hn : n ≤ 100) (no : ¬ Due a b g) (k : E (.exc (c.err 1) [])) : S_Shape_init c E a b g K := by
  unfold S_Shape_init
  exact if_in (are_sides_ln ha hb hg hn (fun d => absurd d no) (fun _ => blS_bl (iT k)))
theorem init_yes {c : Cl} {a b g : D} {wa wb wg : List Str} {E K : D → Prop} (sa : SeqD a (wa.map D.str)) (sb : SeqD b (wb.map D.str)) (sg : SeqD g (wg.map D.str)) (F : Fr wa wb wg) (k : ∀ l, l.Perm wg → PyProof.Rows.sortedS l = true → K (shpD c wa wb l)) : S_Shape_init c E a b g K := by
  have l4 := F.ab
  have gl := F.gs.length_le
  have l5 := l4
  rw [List.length_append] at l5
  unfold S_Shape_init
  refine if_in (are_sides_ln (n := 5) (ln_seq sa (fun z hz => F.nm z (List.mem_append_left _ hz)) (by omega)) (ln_seq sb (fun z hz => F.nm z (List.mem_append_right _ hz)) (by omega)) (ln_seq sg (fun z hz => F.nm z (F.gs.sub z hz)) (by omega)) (by omega) (fun _ => blS_bl (iF ?_)) (fun no => absurd ⟨wa, wb, wg, sa, sb, sg, F⟩ no))
  exact sa.tup ⟨rfl, by show 0 < 1000; decide, sb.tup ⟨rfl, by show 1 < 1000; decide, sg.sort (by omega) fun ys pm so => SeqD.tup (.inl rfl) ⟨rfl, by show 2 < 1000; decide, k ys pm so⟩⟩⟩
end K02

namespace K02
open PySem PySem.Spec L2 DL RG
def Lt (n : Nat) (es : List D) : Prop := es.length ≤ n ∧ ∀ e ∈ es, It e
theorem Lt.cut {n : Nat} {es : List D} (h : Lt n es) (lo hi : Option Int) : Lt n (cutD es lo hi) := by
  unfold cutD
  refine ⟨?_, fun e he => h.2 e (List.mem_of_mem_drop (List.mem_of_mem_take he))⟩
  have := h.1
  rw [List.length_take, List.length_drop]
  omega
theorem Lt.add {n m : Nat} {a b : List D} (h : Lt n a) (h2 : Lt m b) : Lt (n + m) (a ++ b) := by
  refine ⟨by rw [List.length_append]; have := h.1; have := h2.1; omega, fun e he => ?_⟩
  rcases List.mem_append.mp he with he | he
  · exact h.2 e he
  · exact h2.2 e he
theorem Lt.one {e : D} (h : It e) : Lt 1 [e] := ⟨Nat.le_refl _, fun x hx => by rw [List.mem_singleton.mp hx]; exact h⟩
theorem Lt.mono {n m : Nat} {es : List D} (h : Lt n es) (le : n ≤ m) : Lt m es := ⟨Nat.le_trans h.1 le, h.2⟩
theorem Lt.ln {n : Nat} {d : D} {es : List D} (h : Lt n es) (s : SeqD d es) : Ln n d := .inl ⟨es, s, h.1, h.2⟩
theorem Ln.mono {n m : Nat} {d : D} (h : Ln n d) (le : n ≤ m) : Ln m d := by
  rcases h with ⟨ds, s, hl, it⟩ | h
  · exact .inl ⟨ds, s, by omega, it⟩
  · exact .inr h
theorem it_str {z : Str} (h1 : z.length ≤ 9) (h2 : ∀ x ∈ z.cps.toList, x < 256) : It (.str z) := .inr (.inr (.inr (.inr ⟨z, rfl, h1, h2⟩)))
theorem ln_isi {c : Cl} {n : Nat} {d : D} {K : D → Prop} (h : Ln n d) (h1 : ∀ ds, SeqD d ds → Lt n ds → K (.bl true)) (h0 : K (.bl false)) : isiMF c.Shape [d, .tup [.ty "list", .ty "tuple"]] K := by
  rcases h with ⟨ds, s, hl, it⟩ | rfl | rfl | rfl | rfl | rfl
  · exact s.isi (h1 ds s ⟨hl, it⟩)
  · exact ⟨rfl, ⟨kn_list, kn_tuple, trivial⟩, h0⟩
  · exact ⟨rfl, ⟨kn_list, kn_tuple, trivial⟩, h0⟩
  · exact ⟨rfl, ⟨kn_list, kn_tuple, trivial⟩, h0⟩
  · exact ⟨rfl, ⟨kn_list, kn_tuple, trivial⟩, h0⟩
  · exact ⟨rfl, ⟨kn_list, kn_tuple, trivial⟩, h0⟩
theorem ln_isL {c : Cl} {n : Nat} {d : D} {K : D → Prop} (h : Ln n d) (h1 : ∀ ds, d = .lst ds → Lt n ds → K (.bl true)) (h0 : K (.bl false)) : isiMF c.Shape [d, .ty "list"] K := by
  rcases h with ⟨ds, rfl | rfl, hl, it⟩ | rfl | rfl | rfl | rfl | rfl
  · exact ⟨rfl, kn_list, h1 ds rfl ⟨hl, it⟩⟩
  · exact ⟨rfl, kn_list, h0⟩
  · exact ⟨rfl, kn_list, h0⟩
  · exact ⟨rfl, kn_list, h0⟩
  · exact ⟨rfl, kn_list, h0⟩
  · exact ⟨rfl, kn_list, h0⟩
  · exact ⟨rfl, kn_list, h0⟩
def shK (k : Nat) (d : D) : Prop := (toP d).canLay0 = true ∧ (toP d).depth ≤ k
theorem shK_all {k : Nat} : ∀ {xs : List D}, (∀ d ∈ xs, shK k d) → PyData.canLayAll0 (toPs xs) = true ∧ PyData.depthAll (toPs xs) ≤ k
  | [], _ => ⟨rfl, by simp [toPs, PyData.depthAll]⟩
  | d :: xs, h => by
    have h1 := h d List.mem_cons_self
    have h2 := shK_all (xs := xs) fun e he => h e (List.mem_cons_of_mem _ he)
    refine ⟨?_, ?_⟩
    · simp only [toPs, PyData.canLayAll0, Bool.and_eq_true]; exact ⟨h1.1, h2.1⟩
    · simp only [toPs, PyData.depthAll]
      have h3 := h1.2
      have h4 := h2.2
      omega
theorem shK_lst {k : Nat} {xs : List D} (h : ∀ d ∈ xs, shK k d) : shK (k + 1) (.lst xs) := by
  have h1 := shK_all h
  refine ⟨by simp only [toP, PyData.canLay0]; exact h1.1, ?_⟩
  simp only [toP, PyData.depth]
  have := h1.2
  omega
theorem shK_tup {k : Nat} {xs : List D} (h : ∀ d ∈ xs, shK k d) : shK (k + 1) (.tup xs) := by
  have h1 := shK_all h
  refine ⟨by simp only [toP, PyData.canLay0]; exact h1.1, ?_⟩
  simp only [toP, PyData.depth]
  have := h1.2
  omega
theorem shK_E {k : Nat} {d : D} (h : shK k d) (hk : k ≤ 63) : shE d := ⟨h.1, Nat.le_trans h.2 hk⟩
theorem shK_str {z : Str} (h : ∀ x ∈ z.cps.toList, x < 256) : shK 0 (.str z) := ⟨(shE_str h).1, by simp [toP, PyData.depth]⟩
theorem shK_it {e : D} (h : It e) : shK 1 e := by
  rcases h with rfl | rfl | rfl | rfl | ⟨z, rfl, _, hz⟩
  · exact ⟨rfl, by simp [toP, PyData.depth]⟩
  · exact ⟨rfl, by simp [toP, PyData.depth]⟩
  · exact ⟨rfl, by simp [toP, PyData.depth]⟩
  · exact shK_lst fun d h => by cases h
  · exact ⟨(shK_str hz).1, Nat.le_trans (shK_str hz).2 (by omega)⟩
theorem walk_l {xs : List D} {K : List D → Prop} (h : K xs) : walkD (.lst xs) K := h
theorem let_in {α : Type} {R : α → Prop} {F : (α → Prop) → Prop} (h : F R) : letS R F := h
theorem slL {es : List D} {lo hi : Option Int} {K : D → Prop} (k : K (.lst (cutD es lo hi))) : slD (.lst es) lo hi K := k
theorem addL {a b : List D} {K : D → Prop} (h : a.length + b.length ≤ 1000000) (k : K (.lst (a ++ b))) : binD .Add (.lst a) (.lst b) K := ⟨small h, k⟩
theorem lput3 {x y z v : D} {k : Nat} {B : Nat} {K : D → Prop} (hk : k < 3) (hx : Ln B x) (hy : Ln B y) (hz : Ln B z) (hv : Ln B v) (q : ∀ x' y' z', Ln B x' → Ln B y' → Ln B z' → K (.lst [x', y', z'])) : lputS (.lst [x, y, z]) (.int (k : Nat)) v K := by
  match k, hk with
  | 0, _ => exact ⟨0, rfl, q v y z hv hy hz⟩
  | 1, _ => exact ⟨1, rfl, q x v z hx hv hz⟩
  | 2, _ => exact ⟨2, rfl, q x y v hx hy hv⟩
theorem and_way {i : Int} {xs : List D} {A B : Prop} (s1 : shp (.lst xs)) (hA : xs ≠ [] → A) (hB : B) : ifS (fun k => cmpU .Eq (.int i) (.int 4) fun t77 => if t77 = true then cmpU .NotEq (.lst xs) (.lst []) fun t78 => k t78 else k false) A B := by
  refine if_in (eqI (ifE (fun _ => ⟨s1, shp_nil, ?_⟩) (fun _ => iF hB)))
  rw [eqD_nil]
  refine ifE (fun h => hA fun e => ?_) (fun _ => hB)
  rw [e] at h
  cases h
theorem abcd_256 : ∀ x ∈ ("abcd" : Str).cps.toList, x < 256 := by decide +kernel
theorem cutS_mem {z : Str} {hi : Option Int} {x : Nat} (h : x ∈ (cutS z none hi).cps.toList) : x ∈ z.cps.toList := by
  have e : (cutS z none hi).cps.toList = (List.take (HT.sIx z.length z.length hi - HT.sIx z.length 0 none) (List.drop (HT.sIx z.length 0 none) z.cps.toList)) := rfl
  rw [e] at h
  exact List.mem_of_mem_drop (List.mem_of_mem_take h)
abbrev oddI : List D := [.non, .int 5, .str "", .str "A", .str "a b", .str "aaaaaaaaa", .str "a1", .bl true, .lst [], .str "q", .str "zzzzzzzz"]
theorem oddI_it : ∀ e ∈ oddI, It e := fun e he => by
  simp only [oddI, List.mem_cons, List.not_mem_nil, or_false] at he
  rcases he with rfl | rfl | rfl | rfl | rfl | rfl | rfl | rfl | rfl | rfl | rfl
  · exact .inl rfl
  · exact .inr (.inl rfl)
  · exact it_str (by decide) (by decide +kernel)
  · exact it_str (by decide) (by decide +kernel)
  · exact it_str (by decide) (by decide +kernel)
  · exact it_str (by decide) (by decide +kernel)
  · exact it_str (by decide) (by decide +kernel)
  · exact .inr (.inr (.inl rfl))
  · exact .inr (.inr (.inr (.inl rfl)))
  · exact it_str (by decide) (by decide +kernel)
  · exact it_str (by decide) (by decide +kernel)
theorem bent_ok {c : Cl} {n : Nat} {x y z : D} {K : D → Prop} (hx : Ln n x) (hy : Ln n y) (hz : Ln n z) (hn : n ≤ 60) (q : ∀ x' y' z', Ln (2 * n + 10) x' → Ln (2 * n + 10) y' → Ln (2 * n + 10) z' → K (.lst [x', y', z'])) : S_law_bent_lists c (.lst [x, y, z]) K := by
  unfold S_law_bent_lists
  refine ⟨3, rfl, ⟨by decide, by decide⟩, fun k k0 k1 => ?_⟩
  obtain ⟨k, rfl⟩ := Int.eq_ofNat_of_zero_le k0
  have kl : k < 3 := by omega
  have hx2 := hx.mono (m := 2 * n + 10) (by omega)
  have hy2 := hy.mono (m := 2 * n + 10) (by omega)
  have hz2 := hz.mono (m := 2 * n + 10) (by omega)
  have all : ∀ e ∈ [x, y, z], Ln n e := fun e he => by
    simp only [List.mem_cons, List.not_mem_nil, or_false] at he
    rcases he with rfl | rfl | rfl
    · exact hx
    · exact hy
    · exact hz
  have kl3 : k < [x, y, z].length := kl
  refine ⟨_, atI_nat (List.getElem?_eq_getElem kl3), ?_⟩
  have hd := all _ (List.getElem_mem kl3)
  generalize [x, y, z][k] = d3 at hd
  refine ⟨7, rfl, ⟨by decide, by decide⟩, fun w w0 w1 => ?_⟩
  refine walk_l (forS_of (fun i (acc : List D) => acc.length ≤ i ∧ ∀ e ∈ acc, ∃ es, SeqD e es ∧ Lt n es) ⟨Nat.le_refl _, fun e h => by cases h⟩ (fun i d acc N hd ha nx => if_in (ln_isi (all d (List.mem_of_getElem? hd)) (fun es s l => blS_bl (iT (nx _ ⟨by rw [List.length_append]; have := ha.1; simp; omega, fun e he => ?_⟩))) (blS_bl (iF (nx _ ⟨by have := ha.1; omega, ha.2⟩))))) (fun xs8 h8 => ?_))
  · rcases List.mem_append.mp he with he | he
    · exact ha.2 e he
    · rw [List.mem_singleton.mp he]; exact ⟨es, s, l⟩
  have l8 : xs8.length ≤ 3 := h8.1
  refine if_in (ln_isL hd (fun es e3 l3 => blS_bl (iF ?_)) (blS_bl (iT (q x y z hx2 hy2 hz2))))
  subst e3
  refine walk_l (forS_of (fun i (acc : List D) => acc.length ≤ i ∧ ∀ e ∈ acc, ∃ es, SeqD e es ∧ Lt n es) ⟨Nat.le_refl _, fun e h => by cases h⟩ (fun i d acc N hd ha nx => ?_) (fun xs18 h18 => ?_))
  · obtain ⟨ds, s, l⟩ := h8.2 d (List.mem_of_getElem? hd)
    refine if_in (s.len (gtI (ifE (fun _ => s.cut fun v sv => nx _ ⟨by rw [List.length_append]; have := ha.1; simp; omega, fun e he => ?_⟩) (fun _ => nx _ ⟨by have := ha.1; omega, ha.2⟩))))
    rcases List.mem_append.mp he with he | he
    · exact ha.2 e he
    · rw [List.mem_singleton.mp he]; exact ⟨_, sv, l.cut _ _⟩
  have l18 := h18.1
  refine pick_lst (xs := oddI) (by simp) (by decide) fun odd ho => ?_
  have ito := oddI_it odd ho
  have len3 := l3.1
  refine ⟨_, rfl, ⟨by omega, by omega⟩, fun m m0 m1 => ?_⟩
  have put : ∀ {v : D} {K' : D → Prop}, Ln (2 * n + 10) v → (∀ d, K d → K' d) → lputS (.lst [x, y, z]) (.int (k : Nat)) v K' := fun hv i => lput3 kl hx2 hy2 hz2 hv fun x' y' z' a b c => i _ (q x' y' z' a b c)
  have tolst : ∀ {vs : List D}, Lt (2 * n + 10) vs → Ln (2 * n + 10) (.lst vs) := fun h => h.ln (.inl rfl)
  have cl : ∀ lo hi, (cutD es lo hi).length ≤ 60 := fun lo hi => by have := (l3.cut lo hi).1; omega
  refine let_in (if_in (eqI (ifE (fun _ => ?_) (fun _ => ?_))))
  · refine int_in (slL (addL (by have := cl none (some m); simp; omega) (int_in (slL (addL ?_ (put (tolst ((((l3.cut _ _).add (Lt.one ito)).add (l3.cut _ _)).mono (by omega))) fun _ h => h))))))
    have a := cl none (some m)
    have b := cl (some m) none
    rw [List.length_append, List.length_singleton]
    omega
  refine let_in (if_in (eqI (ifE (fun _ => ?_) (fun _ => ?_))))
  · refine int_in (addI (int_in (slL (addL ?_ (put (tolst ((l3.add (l3.cut _ _)).mono (by omega))) fun _ h => h)))))
    have a := cl (some m) (some (m + 1))
    omega
  refine let_in (if_in (eqI (ifE (fun _ => ?_) (fun _ => ?_))))
  · refine ⟨4, rfl, ⟨by decide, by decide⟩, fun j j0 j1 => addI (int_in ⟨small (by decide), ?_⟩)⟩
    have lc := cutS_length "abcd" none (some (1 + j))
    have l4 : ("abcd" : Str).length = 4 := by decide +kernel
    refine ⟨small (by show (cutS "abcd" none (some (1 + j))).length ≤ 1000000; omega), ?_⟩
    refine forS_of (fun i acc => Lt i acc) ⟨Nat.le_refl _, fun e h => by cases h⟩ (fun i d acc N hd hp nx => ?_) (fun acc hp => ?_)
    · have hm := List.mem_of_getElem? hd
      unfold signs at hm
      obtain ⟨ch, hc, rfl⟩ := List.mem_map.mp hm
      refine ⟨small (by show 1 + 1 ≤ 1000000; decide), nx _ (hp.add (Lt.one (it_str ?_ fun u hu => ?_)))⟩
      · rw [len_tl, app_tl, List.length_append]; show 1 + 1 ≤ 9; decide
      · rw [app_tl] at hu
        rcases List.mem_append.mp hu with hu | hu
        · exact (by decide +kernel : ∀ x ∈ ("q" : Str).cps.toList, x < 256) u hu
        · have : u = ch := by simpa using hu
          rw [this]
          exact abcd_256 ch (cutS_mem hc)
    · have l5 : (signs (cutS "abcd" none (some (1 + j)))).length ≤ 4 := by
        have : (signs (cutS "abcd" none (some (1 + j)))).length = (cutS "abcd" none (some (1 + j))).length := by simp [signs, len_tl]
        omega
      have hl := hp.1
      exact addL (by omega) (put (tolst ((l3.add hp).mono (by omega))) fun _ h => h)
  refine let_in (if_in (eqI (ifE (fun _ => ?_) (fun _ => ?_))))
  · refine int_in (slL (addI (int_in (slL (addL ?_ (put (tolst (((l3.cut _ _).add (l3.cut _ _)).mono (by omega))) fun _ h => h))))))
    have a := cl none (some m)
    have b := cl (some (m + 1)) none
    omega
  refine let_in (and_way (shp_lst fun d hd => ?_) (fun ne => ?_) ?_)
  · obtain ⟨ds, s, l⟩ := h18.2 d hd
    rcases s with rfl | rfl
    · exact shK_E (shK_lst fun e he => shK_it (l.2 e he)) (by decide)
    · exact shK_E (shK_tup fun e he => shK_it (l.2 e he)) (by decide)
  · refine pick_lst ne (by omega) fun v hv => ?_
    obtain ⟨ds, s, l⟩ := h18.2 v hv
    have ll := l.1
    exact s.list (addL (by omega) (put (tolst ((l3.add l).mono (by omega))) fun _ h => h))
  · refine SeqD.tup (.inl rfl) (SeqD.tup (.inl rfl) (pick_lst (xs := [.non, .int 5, .str "ab", .dic [], .bl true, .tup [], .tup es, .tup es]) (by simp) (by show 8 ≤ 1000000; decide) fun v hv => put ?_ fun _ h => h))
    simp only [List.mem_cons, List.not_mem_nil, or_false] at hv
    rcases hv with rfl | rfl | rfl | rfl | rfl | rfl | rfl | rfl
    · exact .inr (.inl rfl)
    · exact .inr (.inr (.inl rfl))
    · exact .inr (.inr (.inr (.inl rfl)))
    · exact .inr (.inr (.inr (.inr (.inl rfl))))
    · exact .inr (.inr (.inr (.inr (.inr rfl))))
    · exact .inl ⟨[], .inr rfl, Nat.zero_le _, fun e h => by cases h⟩
    · exact (l3.mono (by omega)).ln (.inr rfl)
    · exact (l3.mono (by omega)).ln (.inr rfl)
end K02

namespace K02
open PySem PySem.Spec L2 DL RG
open RG in
theorem ltS_asymm {a b : Str} (h : ltS a b) (k : ltS b a) : False := by
  have z : PyProof.Rows.strKind.blt b.cps.toList a.cps.toList = false := PyProof.Rows.KeyOrd.klt_asymm (O := PyProof.Rows.strKind.toKeyOrd) h
  unfold ltS at k
  rw [z] at k
  cases k
open RG in
theorem str_uniq : ∀ {l m : List Str}, l.Perm m → l.Pairwise ltS → m.Pairwise ltS → l = m
  | [], m, p, _, _ => (List.nil_perm.mp p).symm ▸ rfl
  | a :: l, [], p, _, _ => absurd p.length_eq (by simp)
  | a :: l, b :: m, p, h, q => by
    obtain ⟨h1, h2⟩ := List.pairwise_cons.mp h
    obtain ⟨q1, q2⟩ := List.pairwise_cons.mp q
    have e : a = b := by
      rcases List.mem_cons.mp (p.mem_iff.mp (List.mem_cons_self (a := a) (l := l))) with e | ha
      · exact e
      · rcases List.mem_cons.mp (p.mem_iff.mpr (List.mem_cons_self (a := b) (l := m))) with e | hb
        · exact e.symm
        · exact (ltS_asymm (h1 b hb) (q1 a ha)).elim
    subst e
    rw [str_uniq (List.Perm.cons_inv p) h2 q2]
theorem sort_same {l m w : List Str} (nd : w.Nodup) (p1 : l.Perm w) (s1 : PyProof.Rows.sortedS l = true) (p2 : m.Perm w) (s2 : PyProof.Rows.sortedS m = true) : l = m :=
  str_uniq (p1.trans p2.symm) (RG.sorted_lt s1 (p1.symm.nodup nd)) (RG.sorted_lt s2 (p2.symm.nodup nd))
theorem sort_left {l m w : List Str} (nd : l.Nodup) (s : PyProof.Rows.sortedS l = true) (sub : w.Sublist l) (pm : m.Perm w) (sm : PyProof.Rows.sortedS m = true) : m = w :=
  str_uniq pm (RG.sorted_lt sm (pm.symm.nodup (sub.nodup nd))) ((RG.sorted_lt s nd).sublist sub)
theorem Fr.perm {a b g l : List Str} (F : Fr a b g) (p : l.Perm g) : Fr a b l := ⟨F.nd, F.nm, F.a1, F.a3, F.b3, F.ab, ⟨p.symm.nodup F.gs.nd, fun z hz => F.gs.sub z (p.mem_iff.mp hz)⟩⟩
theorem eqv_strs : ∀ xs ys : List Str, PyData.eqvAll (toPs (xs.map D.str)) (toPs (ys.map D.str)) = decide (xs = ys)
  | [], [] => rfl
  | [], y :: ys => rfl
  | x :: xs, [] => rfl
  | x :: xs, y :: ys => by
    have e := eqD_str x y
    simp only [eqD, toP] at e
    simp only [List.map_cons, toPs, toP, PyData.eqvAll, e, eqv_strs xs ys]
    rw [← Bool.decide_and]
    exact decide_eq_decide.mpr (by rw [List.cons.injEq])
def tup3 (a b l : List Str) : D := .tup [.tup (a.map D.str), .tup (b.map D.str), .tup (l.map D.str)]
theorem eqD_tup3 (a b l a' b' l' : List Str) : eqD (tup3 a b l) (tup3 a' b' l') = decide (a = a' ∧ b = b' ∧ l = l') := by
  simp only [tup3, eqD, toP, toPs, PyData.eqv, PyData.eqvAll, eqv_strs, Bool.and_true]
  by_cases e : a = a' <;> by_cases e2 : b = b' <;> by_cases e3 : l = l' <;> simp [e, e2, e3]
theorem shK_names {ws : List Str} (h : ∀ z ∈ ws, nameS z) : shK 1 (.tup (ws.map D.str)) := shK_tup fun d hd => by
  obtain ⟨z, hz, rfl⟩ := List.mem_map.mp hd
  exact shK_str (nameS_256 (h z hz))
theorem shp3 {a b l : List Str} (F : Fr a b l) : shp (tup3 a b l) := shp_of (shK_E (k := 2) (shK_tup fun d hd => by
  simp only [List.mem_cons, List.not_mem_nil, or_false] at hd
  rcases hd with rfl | rfl | rfl
  · exact shK_names fun z hz => F.nm z (List.mem_append_left _ hz)
  · exact shK_names fun z hz => F.nm z (List.mem_append_right _ hz)
  · exact shK_names fun z hz => F.nm z (F.gs.sub z hz)) (by decide))
theorem eq3 {a b l a' b' l' : List Str} {K : Bool → Prop} (F : Fr a b l) (F' : Fr a' b' l') (k : K (decide (a = a' ∧ b = b' ∧ l = l'))) : cmpU .Eq (tup3 a b l) (tup3 a' b' l') K :=
  ⟨shp3 F, shp3 F', by rw [eqD_tup3]; exact k⟩
theorem f_col {c : Cl} {a b l : List Str} {K : D → Prop} (h : K (.tup (a.map D.str))) : fldS c.Shape "own_columns" (shpD c a b l) K := ⟨rfl, h⟩
theorem f_bla {c : Cl} {a b l : List Str} {K : D → Prop} (h : K (.tup (b.map D.str))) : fldS c.Shape "own_blanks" (shpD c a b l) K := ⟨rfl, h⟩
theorem f_lac {c : Cl} {a b l : List Str} {K : D → Prop} (h : K (.tup (l.map D.str))) : fldS c.Shape "own_lacking" (shpD c a b l) K := ⟨rfl, h⟩
theorem shape_eq {c : Cl} {a b l a' b' l' : List Str} {K : D → Prop} (F : Fr a b l) (F' : Fr a' b' l') (k : K (.bl (decide (a = a' ∧ b = b' ∧ l = l')))) : S_Shape_eq c (shpD c a b l) (shpD c a' b' l') K := by
  unfold S_Shape_eq
  exact if_in ⟨rfl, blS_bl (iF (f_col (f_bla (f_lac (f_col (f_bla (f_lac (eq3 F F' k))))))))⟩
theorem shape_eqT {c : Cl} {a b l : List Str} {ds : List D} {K : D → Prop} (k : K (.bl false)) : S_Shape_eq c (shpD c a b l) (.tup ds) K := by
  unfold S_Shape_eq
  exact if_in ⟨rfl, blS_bl (iT k)⟩
theorem shape_eqN {c : Cl} {a b l : List Str} {K : D → Prop} (k : K (.bl false)) : S_Shape_eq c (shpD c a b l) .non K := by
  unfold S_Shape_eq
  exact if_in ⟨rfl, blS_bl (iT k)⟩
theorem rp_str9 {z : Str} (hz : z.length ≤ 9) (h : ∀ c ∈ z.cps.toList, c < 256) : Rp 9 0 (.str z) := by
  refine ⟨rfl, rfl, ?_, ?_, by simp [toU, PyData.depth]⟩
  · simp only [toU, PyData.leavesShort, List.all_eq_true, decide_eq_true_eq]
    exact fun c hc => Nat.lt_of_lt_of_le (h c hc) (by decide)
  · simp only [toU, PyData.weight]; exact hz
theorem rp_it {e : D} (h : It e) : Rp 41 1 e := by
  rcases h with rfl | rfl | rfl | rfl | ⟨z, rfl, h1, h2⟩
  · exact rp_non.mono (by omega) (by omega)
  · exact (rp_int (by decide)).mono (by omega) (by omega)
  · exact (rp_bl _).mono (by omega) (by omega)
  · exact (rp_lst (w := 0) (dp := 0) fun d h => by cases h).mono (by show 0 * 1 ≤ 41; omega) (by omega)
  · exact (rp_str9 h1 h2).mono (by omega) (by omega)
theorem rp_ln {n : Nat} {d : D} (h : Ln n d) (hn : n ≤ 50) : Rp 2100 2 d := by
  rcases h with ⟨ds, rfl | rfl, hl, it⟩ | rfl | rfl | rfl | rfl | rfl
  · exact (rp_lst fun d hd => rp_it (it d hd)).mono (by omega) (by omega)
  · exact (rp_tup fun d hd => rp_it (it d hd)).mono (by omega) (by omega)
  · exact rp_non.mono (by omega) (by omega)
  · exact (rp_int (by decide)).mono (by omega) (by omega)
  · exact (rp_str9 (by decide) (by decide +kernel)).mono (by omega) (by omega)
  · exact (rp_dic (w := 0) (dp := 0) fun kv h => by cases h).mono (by show 0 * 10 ≤ 2100; omega) (by omega)
  · exact (rp_bl _).mono (by omega) (by omega)
theorem rp_three {n : Nat} {x y z : D} (hx : Ln n x) (hy : Ln n y) (hz : Ln n z) (hn : n ≤ 50) : Rp 7000 3 (.lst [x, y, z]) :=
  (rp_lst (w := 2100) (dp := 2) fun d hd => by
    simp only [List.mem_cons, List.not_mem_nil, or_false] at hd
    rcases hd with rfl | rfl | rfl
    · exact rp_ln hx hn
    · exact rp_ln hy hn
    · exact rp_ln hz hn).mono (by show 3 * 2101 ≤ 7000; omega) (by omega)
theorem rp_names {ws : List Str} (h : ∀ z ∈ ws, nameS z) (hl : ws.length ≤ 5) : Rp 50 1 (.tup (ws.map D.str)) :=
  (rp_tup (w := 8) (dp := 0) fun d hd => by
    obtain ⟨z, hz, rfl⟩ := List.mem_map.mp hd
    exact rp_side (.inl (h z hz))).mono (by rw [List.length_map]; omega) (by omega)
theorem Fr.gl {a b g : List Str} (F : Fr a b g) : g.length ≤ 5 := Nat.le_trans F.gs.length_le F.ab
theorem Fr.al {a b g : List Str} (F : Fr a b g) : a.length + b.length ≤ 5 := by have := F.ab; rw [List.length_append] at this; exact this
theorem rp_tup3 {a b l : List Str} (F : Fr a b l) : Rp 200 2 (tup3 a b l) :=
  (rp_tup (w := 50) (dp := 1) fun d hd => by
    have := F.al
    simp only [List.mem_cons, List.not_mem_nil, or_false] at hd
    rcases hd with rfl | rfl | rfl
    · exact rp_names (fun z hz => F.nm z (List.mem_append_left _ hz)) (by omega)
    · exact rp_names (fun z hz => F.nm z (List.mem_append_right _ hz)) (by omega)
    · exact rp_names (fun z hz => F.nm z (F.gs.sub z hz)) F.gl).mono (by show 3 * 51 ≤ 200; omega) (by omega)
end K02

namespace K02
open PySem PySem.Spec L2 DL RG
def w1 (l : List Str) (x : Str) : D → Bool
  | .non => decide (x ∈ l)
  | _ => true
theorem isY {K : Bool → Prop} (h : K true) : cmpU .Is .non .non K := h
theorem hasT {P0 : Program} {w0 : World} {xs : List Str} {x : Str} {K : Bool → Prop} (h : K (decide (x ∈ xs))) : cmpN P0 w0 .In (.str x) (.tup (xs.map D.str)) K := ⟨rfl, all_flat xs, by rw [any_str]; exact h⟩
theorem worth_ok {c : Cl} {a b l : List Str} {x : Str} {e : D} {K : D → Prop} (h : e = .non ∨ e = .int 1) (k : K (.bl (w1 l x e))) : S_Shape_is_worth c (shpD c a b l) (.str x) e K := by
  unfold S_Shape_is_worth S_is_number
  rcases h with rfl | rfl
  · exact ⟨rfl, kn_int, blS_bl (iF (blS_bl (iF (isY (blS_bl (iT (f_lac (hasT k))))))))⟩
  · exact ⟨rfl, kn_int, blS_bl (iT ⟨rfl, kn_bool, blS_bl (blS_bl (iT k))⟩)⟩
theorem lnT {P0 : Program} {w0 : World} {xs : List D} {K : D → Prop} (h : K (.int (xs.length : Nat))) : lenNF P0 w0 [.tup xs] K := h
theorem lnD {P0 : Program} {w0 : World} {xs : List (Key × D)} {K : D → Prop} (h : K (.int (xs.length : Nat))) : lenNF P0 w0 [.dic xs] K := h
theorem inD {P0 : Program} {w0 : World} {kds : List (Key × D)} {x : Str} {K : Bool → Prop} (h : K (valE kds (.inr x)).isSome) : cmpN P0 w0 .In (.str x) (.dic kds) K := h
theorem all_bools {l : List Bool} {K : D → Prop} (k : K (.bl (l.all id))) : allF [.lst (l.map D.bl)] K := ⟨l, rfl, k⟩
theorem is_row_ok {c : Cl} {a b l : List Str} {xs : List D} {K : D → Prop} (F : Fr a b l) (e : xs.length = a.length) (hx : ∀ e ∈ xs, e = .non ∨ e = .int 1) (k : K (.bl ((a.zip xs).all fun p => w1 l p.1 p.2))) : S_Shape_is_row c (shpD c a b l) (.tup xs) K := by
  have big : 20000 < sizeLine := by decide
  have l1 := F.a3
  unfold S_Shape_is_row
  refine if_in ⟨rfl, kn_tuple, blS_bl (iF (lnT (f_col (lnT (neI (iF ?_ (by rw [List.length_map, e, decide_eq_true rfl]; rfl)))))))⟩
  refine f_col ⟨by rw [List.length_map]; omega, ?_⟩
  let ps := a.zip xs
  have ez : zipD (a.map D.str) xs = ps.map fun p => D.tup [.str p.1, p.2] := by
    show ((a.map D.str).zip xs).map _ = (a.zip xs).map _
    rw [List.zip_map_left, List.map_map]
    rfl
  rw [ez]
  refine forS_of (fun i acc => acc = (((ps.take i).map fun p => w1 l p.1 p.2).map D.bl)) rfl (fun i d s N hd hp nx => ?_) (fun s hp => ?_)
  · rw [List.getElem?_map] at hd
    cases q : ps[i]? with
    | none => rw [q] at hd; cases hd
    | some p =>
      rw [q] at hd
      cases hd
      have hm : p ∈ a.zip xs := List.mem_of_getElem? q
      refine unp2_mk ⟨rfl, rfl, worth_ok (hx _ (List.of_mem_zip hm).2) (nx _ ?_)⟩
      rw [hp, List.take_add_one, q, List.map_append, List.map_append]
      rfl
  · rw [List.length_map, List.take_length] at hp
    rw [hp]
    refine all_bools ?_
    rw [List.all_map]
    exact k
theorem is_asking_ok {c : Cl} {a b l : List Str} {v : Str → D} {K : D → Prop} (F : Fr a b l) (hv : ∀ x, v x = .non ∨ v x = .int 1) (k : K (.bl (b.all fun x => w1 l x (v x)))) : S_Shape_is_asking c (shpD c a b l) (.dic (b.map fun x => ((.inr x : Key), v x))) K := by
  have big : 20000 < sizeLine := by decide
  unfold S_Shape_is_asking
  have el : ((b.map fun x => ((.inr x : Key), v x)).length : Int) = ((b.map D.str).length : Int) := by rw [List.length_map, List.length_map]
  refine if_in ⟨rfl, kn_dict, blS_bl (iF ?_)⟩
  refine lnD (f_bla (lnT (neI (iF ?_ (by rw [decide_eq_true el]; rfl)))))
  refine f_bla (SeqD.walk (.inr rfl) (map_words (fun x => .bl (w1 l x (v x))) (fun x acc N hx nx => join_in ?_) (allF_map k)))
  have ev : valE (b.map fun x => ((.inr x : Key), v x)) (.inr x) = some (v x) := by
    have := RG.valE_map (key := fun x : Str => (.inr x : Key)) (fun x y h => Sum.inr.inj h) (f := v) (x := x) (ks := b)
    rw [if_pos hx] at this
    exact this
  refine inD ?_
  rw [ev]
  refine blS_bl (iT ⟨rfl, rfl, ?_⟩)
  have ix : ∀ {K : D → Prop}, K (v x) → DL.ixN c.P c.w (.dic (b.map fun x => ((.inr x : Key), v x))) (.str x) K := fun {K} k => by
    show (match valE (b.map fun x => ((.inr x : Key), v x)) (.inr x) with | some d => K d | none => False)
    rw [ev]
    exact k
  exact ix (worth_ok (hv x) nx)
theorem ones_all {l : List Str} : ∀ p : List Str, ((p.zip (List.replicate p.length (D.int 1))).all fun q => w1 l q.1 q.2) = true
  | [] => rfl
  | x :: p => by
    rw [List.length_cons, List.replicate_succ, List.zip_cons_cons, List.all_cons, ones_all p]
    rfl
theorem one_none {l p q : List Str} {x : Str} : (((p ++ x :: q).zip (List.replicate p.length (D.int 1) ++ [.non] ++ List.replicate q.length (D.int 1))).all fun r => w1 l r.1 r.2) = decide (x ∈ l) := by
  rw [List.append_assoc, List.zip_append (by rw [List.length_replicate]), List.all_append, ones_all]
  show (true && ((x, D.non) :: q.zip (List.replicate q.length (D.int 1))).all _) = _
  rw [List.all_cons, ones_all]
  show (true && (decide (x ∈ l) && true)) = _
  rw [Bool.true_and, Bool.and_true]
theorem tmul1 {j : Int} {K : D → Prop} (j0 : 0 ≤ j) (j1 : j ≤ 1000) (k : K (.tup (List.replicate j.toNat (D.int 1)))) : tmul0 (.tup [.int 1]) (.int j) K := by
  refine ⟨⟨(fun z => nomatch z), j0, j1, by show 1 ≤ 1000; decide⟩, ?_⟩
  have e : (List.replicate j.toNat [D.int 1]).flatten = List.replicate j.toNat (D.int 1) := by
    generalize j.toNat = m
    induction m with
    | zero => rfl
    | succ m ih => rw [List.replicate_succ, List.flatten_cons, ih]; rfl
  rw [e]
  exact k
theorem ones_it {m : Nat} : ∀ e ∈ List.replicate m (D.int 1), e = .non ∨ e = .int 1 := fun e h => .inr (List.eq_of_mem_replicate h)
theorem addT {xs ys : List D} {K : D → Prop} (z : xs.length + ys.length ≤ 1000000) (h : K (.tup (xs ++ ys))) : binD .Add (.tup xs) (.tup ys) K := ⟨small z, h⟩
theorem pairs_ok {b : List Str} {v : Str → D} {K : D → Prop} (nd : b.Nodup) (hl : b.length ≤ 1000) (k : K (.dic (b.map fun x => ((.inr x : Key), v x)))) : dictPairsS (.lst (b.map fun x => D.tup [.str x, v x])) K := by
  refine ⟨b.map fun x => ((.inr x : Key), v x), by rw [List.map_map]; rfl, by rw [List.length_map]; exact hl, ?_⟩
  rw [mergeE_new (acc := []) ?_]
  · exact k
  · rw [List.nil_append, List.map_map]
    have : (List.map ((fun x : Key × D => x.1) ∘ fun x => ((.inr x : Key), v x)) b) = b.map (fun x => (.inr x : Key)) := rfl
    rw [this]
    exact List.Pairwise.map _ (fun a b ne h => ne (Sum.inr.inj h)) nd
theorem metS_in {c : Cl} {a b l : List Str} {m : Str} {K : Prop} (h : (([("own_columns", .tup (a.map D.str)), ("own_blanks", .tup (b.map D.str)), ("own_lacking", .tup (l.map D.str))] : List (Str × D)).lookup m) = none) (k : K) : metS c.Shape m (shpD c a b l) K := ⟨rfl, h, k⟩
theorem isNotB {p q : Bool} {K : Bool → Prop} (h : K (!decide (p = q))) : cmpU .IsNot (.bl p) (.bl q) K := h
theorem neB {p q : Bool} {K : Bool → Prop} (h : K (!decide (p = q))) : cmpU .NotEq (.bl p) (.bl q) K := h
theorem unp3_mk {a b e : D} {K : D → D → D → Prop} (h : K a b e) : unp3 (.tup [a, b, e]) K := h
theorem kept_ok {c : Cl} {a b l : List Str} {K : D → Prop} (F : Fr a b l) (k : K (.bl true)) : S_law_kept_right c (shpD c a b l) (tup3 a b l) K := by
  have al := F.al
  have nds := List.nodup_append.mp F.nd
  unfold S_law_kept_right
  refine unp3_mk (if_in ?_)
  refine metS_in (by rfl) (lnT ?_)
  rw [List.length_map]
  refine tmul1 (by omega) (by omega) (is_row_ok F (by rw [List.length_replicate]; omega) ones_it ?_)
  have e1 : ((a.zip (List.replicate ((a.length : Nat) : Int).toNat (D.int 1))).all fun p => w1 l p.1 p.2) = true := ones_all a
  rw [e1]
  refine isNotB (iF (metS_in (by rfl) ?_))
  refine SeqD.walk (.inr rfl) (map_words (fun x => .tup [.str x, .int 1]) (fun x acc N hx nx => nx) ?_)
  refine pairs_ok (v := fun _ => .int 1) nds.2.1 (by omega) (is_asking_ok F (fun _ => .inr rfl) ?_)
  have e2 : (b.all fun x => w1 l x (.int 1)) = true := List.all_eq_true.mpr fun x _ => rfl
  rw [e2]
  refine isNotB (iF ?_)
  refine SeqD.enum (.inr rfl) (forS_any (fun _ => True) trivial (fun d _ N hd _ nx => ?_) (fun _ _ => ?_))
  · obtain ⟨i, hi⟩ := List.getElem?_of_mem hd
    obtain ⟨e, he, rfl⟩ := enumD_get hi
    rw [List.getElem?_map] at he
    cases ex : a[i]? with
    | none => rw [ex] at he; cases he
    | some x =>
      rw [ex] at he
      cases he
      have il : i < a.length := (List.getElem?_eq_some_iff.mp ex).1
      have ea : a = a.take i ++ x :: a.drop (i + 1) := by
        have h1 := (List.take_append_drop i a).symm
        have h2 : a.drop i = x :: a.drop (i + 1) := by
          rw [List.drop_eq_getElem_cons il]
          have := (List.getElem?_eq_some_iff.mp ex).2
          rw [this]
        rw [h2] at h1
        exact h1
      refine unp2_mk (if_in (metS_in (by rfl) ?_))
      refine tmul1 (by omega) (by omega) (addT (by rw [List.length_replicate]; show _ + 1 ≤ 1000000; omega) (lnT ?_))
      rw [List.length_map]
      refine subI (subI (tmul1 (by omega) (by omega) (addT (by rw [List.length_append, List.length_replicate, List.length_replicate]; show _ + 1 + _ ≤ 1000000; omega) ?_)))
      refine is_row_ok F (by rw [List.length_append, List.length_append, List.length_replicate, List.length_replicate]; show _ + 1 + _ = _; omega) (fun e he => ?_) ?_
      · rcases List.mem_append.mp he with he | he
        · rcases List.mem_append.mp he with he | he
          · exact ones_it e he
          · exact .inl (List.mem_singleton.mp he)
        · exact ones_it e he
      · have l1 : (a.take i).length = ((i : Nat) : Int).toNat := by rw [List.length_take]; omega
        have l2 : (a.drop (i + 1)).length = ((a.length : Int) - (i : Int) - 1).toNat := by rw [List.length_drop]; omega
        have := one_none (l := l) (p := a.take i) (q := a.drop (i + 1)) (x := x)
        rw [← ea, l1, l2] at this
        rw [this]
        refine hasT (neB (iF (nx () trivial) ?_))
        rw [decide_eq_true rfl]
        rfl
  · refine SeqD.walk (.inr rfl) (forS_any (fun _ => True) trivial (fun d _ N hd _ nx => ?_) (fun _ _ => k))
    obtain ⟨w, hw, rfl⟩ := List.mem_map.mp hd
    refine if_in (metS_in (by rfl) ?_)
    refine SeqD.walk (.inr rfl) (map_words (fun x => .tup [.str x, if x = w then .non else .int 1]) (fun x acc N hx nx => join_in (if_in (eqS (ifE (fun h => ?_) (fun h => ?_))))) ?_)
    · rw [if_pos (of_decide_eq_true h)] at nx; exact nx
    · rw [if_neg (of_decide_eq_false h)] at nx; exact nx
    refine pairs_ok (v := fun x => if x = w then .non else .int 1) nds.2.1 (by omega) (is_asking_ok F (fun x => by by_cases e : x = w; exact .inl (if_pos e); exact .inr (if_neg e)) ?_)
    have e3 : (b.all fun x => w1 l x (if x = w then .non else .int 1)) = decide (w ∈ l) := by
      by_cases m : w ∈ l
      · rw [decide_eq_true m, List.all_eq_true]
        intro x _
        by_cases e : x = w
        · rw [if_pos e, e]; exact decide_eq_true m
        · rw [if_neg e]; rfl
      · rw [decide_eq_false m]
        cases q : b.all fun x => w1 l x (if x = w then .non else .int 1) with
        | false => rfl
        | true =>
          have := List.all_eq_true.mp q w hw
          rw [if_pos rfl] at this
          exact absurd (of_decide_eq_true this) m
    rw [e3]
    refine hasT (neB (iF (nx () trivial) ?_))
    rw [decide_eq_true rfl]
    rfl
end K02

namespace K02
open PySem PySem.Spec L2 DL RG
theorem Fr.of_perm {a b l a' b' g' : List Str} (F : Fr a b l) (pa : a'.Perm a) (pb : b'.Perm b) (gs : g'.Sublist l) : Fr a' b' g' := by
  have p := pa.append pb
  refine ⟨p.symm.nodup F.nd, fun z hz => F.nm z (p.mem_iff.mp hz), ?_, ?_, ?_, ?_, ⟨gs.nodup F.gs.nd, fun z hz => p.mem_iff.mpr (F.gs.sub z (gs.subset hz))⟩⟩
  · rw [pa.length_eq]; exact F.a1
  · rw [pa.length_eq]; exact F.a3
  · rw [pb.length_eq]; exact F.b3
  · rw [p.length_eq]; exact F.ab
theorem Fr.fresh {x z : Str} {a b l : List Str} (F : Fr (x :: a) b l) (hz : nameS z) (hn : z ∉ (x :: a) ++ b) : Fr (z :: a) b (l.filter fun y => !decide (y = x)) := by
  have nd := F.nd
  rw [List.cons_append, List.nodup_cons] at nd
  refine ⟨?_, fun y hy => ?_, F.a1, F.a3, F.b3, F.ab, ⟨List.filter_sublist.nodup F.gs.nd, fun y hy => ?_⟩⟩
  · rw [List.cons_append, List.nodup_cons]
    exact ⟨fun h => hn (List.mem_cons_of_mem _ h), nd.2⟩
  · rw [List.cons_append] at hy
    rcases List.mem_cons.mp hy with rfl | hy
    · exact hz
    · exact F.nm y (List.mem_cons_of_mem _ hy)
  · obtain ⟨h1, h2⟩ := List.mem_filter.mp hy
    have h3 := F.gs.sub y h1
    rw [List.cons_append] at h3 ⊢
    rcases List.mem_cons.mp h3 with rfl | h3
    · rw [decide_eq_true rfl] at h2; cases h2
    · exact List.mem_cons_of_mem _ h3
abbrev qs : List Str := (List.range 8).map fun m => Txt.mul "q" (1 + (m : Nat))
theorem qs_nd : qs.Nodup := by decide +kernel
theorem qs_nm : ∀ z ∈ qs, nameS z := by decide +kernel
theorem cut1 (xs : List D) : cutD xs (some 1) none = xs.drop 1 := by
  cases xs with
  | nil => rfl
  | cons x r => exact cut_from (k := 1) (by simp)
theorem eqA_shape {c : Cl} {a b l a' b' l' : List Str} {A : Prop} (k : A) : eqAS c.Shape c.Shape (shpD c a b l) (shpD c a' b' l') A := ⟨.inl rfl, rfl, k⟩
theorem eqA_tup {c : Cl} {a b l : List Str} {ds : List D} {A : Prop} (k : A) : eqAS c.Shape c.Shape (shpD c a b l) (.tup ds) A := ⟨rfl, rfl, k⟩
theorem eqA_non {c : Cl} {a b l : List Str} {A : Prop} (k : A) : eqAS c.Shape c.Shape (shpD c a b l) .non A := ⟨rfl, rfl, k⟩
theorem eqB {p q : Bool} {K : Bool → Prop} (h : K (decide (p = q))) : cmpU .Eq (.bl p) (.bl q) K := h
theorem ninT {P0 : Program} {w0 : World} {xs : List Str} {x : Str} {K : Bool → Prop} (h : K (!decide (x ∈ xs))) : cmpN P0 w0 .NotIn (.str x) (.tup (xs.map D.str)) K := ⟨rfl, all_flat xs, by rw [any_str]; exact h⟩
theorem revT {ws : List Str} {K : D → Prop} (k : K (.tup (ws.reverse.map D.str))) : revTS (.tup (ws.map D.str)) K := by
  show K (.tup (ws.map D.str).reverse)
  rw [← List.map_reverse]
  exact k
theorem slT1 {ws : List Str} {K : D → Prop} (k : K (.tup ((ws.drop 1).map D.str))) : slD (.tup (ws.map D.str)) (some 1) none K := by
  show K (.tup (cutD (ws.map D.str) (some 1) none))
  rw [cut1, ← List.map_drop]
  exact k
theorem ix3_0 {P0 : Program} {w0 : World} {a b l : List Str} {K : D → Prop} (k : K (.tup (a.map D.str))) : DL.ixN P0 w0 (tup3 a b l) (.int 0) K := ⟨_, atI_nat (j := 0) rfl, k⟩
theorem ix3_1 {P0 : Program} {w0 : World} {a b l : List Str} {K : D → Prop} (k : K (.tup (b.map D.str))) : DL.ixN P0 w0 (tup3 a b l) (.int 1) K := ⟨_, atI_nat (j := 1) rfl, k⟩
theorem ix3_2 {P0 : Program} {w0 : World} {a b l : List Str} {K : D → Prop} (k : K (.tup (l.map D.str))) : DL.ixN P0 w0 (tup3 a b l) (.int 2) K := ⟨_, atI_nat (j := 2) rfl, k⟩
theorem dec3 {a b l a' b' l' : List Str} : decide (a = a' ∧ b = b' ∧ l = l') = decide (a' = a ∧ b' = b ∧ l' = l) := decide_eq_decide.mpr ⟨fun ⟨h1, h2, h3⟩ => ⟨h1.symm, h2.symm, h3.symm⟩, fun ⟨h1, h2, h3⟩ => ⟨h1.symm, h2.symm, h3.symm⟩⟩
theorem unlike_ok {c : Cl} {a b l : List Str} {K : D → Prop} (F : Fr a b l) (so : PyProof.Rows.sortedS l = true) (k : K (.bl true)) : S_law_unlike_right c (shpD c a b l) (tup3 a b l) K := by
  have al := F.al
  have gl := F.gl
  unfold S_law_unlike_right
  refine unp3_mk ⟨by decide, ?_⟩
  refine forS_of (fun i acc => acc = ((List.range 8).take i).map fun m => D.str (Txt.mul "q" (1 + (m : Nat)))) rfl (fun i d acc N hd hp nx => ?_) (fun acc hp => ?_)
  · have hd : ((List.range 8).map fun m => D.int (1 + (m : Nat)))[i]? = some d := hd
    rw [List.getElem?_map] at hd
    cases e : (List.range 8)[i]? with
    | none => rw [e] at hd; cases hd
    | some m =>
      rw [e] at hd
      cases hd
      have hm := List.mem_range.mp (List.mem_of_getElem? e)
      refine ⟨⟨by omega, by omega, by decide⟩, nx _ ?_⟩
      rw [hp, List.take_add_one, e, List.map_append]
      rfl
  have hp : acc = qs.map D.str := by
    have e : acc = ((List.range 8).take 8).map fun m => D.str (Txt.mul "q" (1 + (m : Nat))) := hp
    rw [e, List.take_of_length_le (by simp), List.map_map]
    rfl
  subst hp
  have em : a.map D.str ++ b.map D.str = (a ++ b).map D.str := List.map_append.symm
  refine SeqD.walk (.inl rfl) (filt_words (fun x => !decide (x ∈ a ++ b)) (fun x acc N hx nx => if_in (addT (by rw [List.length_map, List.length_map]; omega) ?_)) ?_)
  · rw [em]
    refine ninT (ifE (fun h => ?_) (fun h => ?_))
    · rw [if_pos h] at nx; exact nx
    · rw [if_neg (by rw [h]; exact Bool.false_ne_true)] at nx; exact nx
  obtain ⟨z, r, ez⟩ : ∃ z r, qs.filter (fun x => !decide (x ∈ a ++ b)) = z :: r := by
    cases q : qs.filter (fun x => !decide (x ∈ a ++ b)) with
    | cons z r => exact ⟨z, r, rfl⟩
    | nil =>
      have sub : ∀ x ∈ qs, x ∈ a ++ b := fun x hx => Classical.byContradiction fun no => by
        have := List.filter_eq_nil_iff.mp q x hx
        rw [decide_eq_false no] at this
        exact this rfl
      have := pigeon qs_nd sub
      rw [List.length_append] at this
      have e8 : qs.length = 8 := by decide +kernel
      omega
  have zq : z ∈ qs ∧ z ∉ a ++ b := by
    have : z ∈ qs.filter (fun x => !decide (x ∈ a ++ b)) := by rw [ez]; exact List.mem_cons_self
    obtain ⟨h1, h2⟩ := List.mem_filter.mp this
    exact ⟨h1, fun m => by rw [decide_eq_true m] at h2; cases h2⟩
  have zn := qs_nm z zq.1
  rw [ez]
  refine ⟨_, atI_nat (j := 0) rfl, revT (revT (slT1 (slT1 (addT (by show 1 + _ ≤ _; rw [List.length_map, List.length_drop]; omega) ?_))))⟩
  cases a with
  | nil => exact absurd F.a1 (by decide)
  | cons x at' =>
    refine SeqD.walk (.inr rfl) (filt_words (fun y => !decide (y = x)) (fun y acc N hy nx => if_in ⟨_, atI_nat (j := 0) rfl, neS (ifE (fun h => ?_) (fun h => ?_))⟩) ?_)
    · rw [if_pos h] at nx; exact nx
    · rw [if_neg (by rw [h]; exact Bool.false_ne_true)] at nx; exact nx
    refine SeqD.tup (.inl rfl) (addL (by show 3 + 1 ≤ 1000000; decide) (pick_lst (by simp) (by show 4 ≤ 1000000; decide) fun v hv => ?_))
    obtain ⟨a', b', g', rfl, F', sub⟩ : ∃ a' b' g', v = tup3 a' b' g' ∧ Fr a' b' g' ∧ g'.Sublist l := by
      simp only [List.cons_append, List.nil_append, List.mem_cons, List.not_mem_nil, or_false] at hv
      rcases hv with rfl | rfl | rfl | rfl
      · exact ⟨(x :: at').reverse, b, l, rfl, F.of_perm (List.reverse_perm _) (List.Perm.refl _) (List.Sublist.refl _), List.Sublist.refl _⟩
      · exact ⟨x :: at', b.reverse, l, rfl, F.of_perm (List.Perm.refl _) (List.reverse_perm _) (List.Sublist.refl _), List.Sublist.refl _⟩
      · exact ⟨x :: at', b, l.drop 1, rfl, F.of_perm (List.Perm.refl _) (List.Perm.refl _) (List.drop_sublist _ _), List.drop_sublist _ _⟩
      · exact ⟨z :: at', b, l.filter fun y => !decide (y = x), rfl, F.fresh zn zq.2, List.filter_sublist⟩
    refine ix3_0 (ix3_1 (ix3_2 (init_yes (.inr rfl) (.inr rfl) (.inr rfl) F' fun m pm sm => ?_)))
    obtain rfl := sort_left F.gs.nd so sub pm sm
    refine if_in (eqA_shape (shape_eq F' F (blS_bl (eq3 F' F (neB (iF (eqA_shape (shape_eq F F' (blS_bl (eq3 F' F (eqB (iF (join_in ?_) ?_)))))) ?_))))))
    · exact eqA_tup (shape_eqT (blS_bl (blS_bl (iF (eqA_non (shape_eqN (blS_bl (blS_bl (iF (eqA_tup (shape_eqT (blS_bl (blS_bl k)))))))))))))
    · rw [dec3]
      cases decide (a' = x :: at' ∧ b' = b ∧ m = l) <;> decide
    · simp
end K02

namespace K02
open PySem PySem.Spec L2 DL RG
def bnd : Nat → Nat
  | 0 => 5
  | n + 1 => 2 * bnd n + 10
theorem SeqD.thw {d : D} {ws : List Str} (s : SeqD d (ws.map D.str)) : thw d := by
  have n : noLs (ws.map D.str) = true := noLs_of fun e he => by
    obtain ⟨z, _, rfl⟩ := List.mem_map.mp he
    rfl
  rcases s with rfl | rfl
  · exact .inl ⟨_, rfl, n⟩
  · exact .inr ⟨_, rfl, n⟩
theorem noL_names (ws : List Str) : noL (.tup (ws.map D.str)) = true := by
  show noLs (ws.map D.str) = true
  exact noLs_of fun e he => by
    obtain ⟨z, _, rfl⟩ := List.mem_map.mp he
    rfl
theorem noL_tup3 (a b l : List Str) : noL (tup3 a b l) = true := by
  show (noL (.tup (a.map D.str)) && (noL (.tup (b.map D.str)) && (noL (.tup (l.map D.str)) && true))) = true
  rw [noL_names, noL_names, noL_names]
  rfl
theorem noL_shp (c : Cl) (a b l : List Str) : noL (shpD c a b l) = true := by
  show (noL (.tup (a.map D.str)) && (noL (.tup (b.map D.str)) && (noL (.tup (l.map D.str)) && true))) = true
  rw [noL_names, noL_names, noL_names]
  rfl
theorem Fr.gone {a b g g' : List Str} (F : Fr a b g) (p : g'.Perm g) : Fr a b g' := F.perm p
theorem Fr.none {a b g : List Str} (F : Fr a b g) : Fr a b [] := ⟨F.nd, F.nm, F.a1, F.a3, F.b3, F.ab, ⟨List.nodup_nil, fun z h => by cases h⟩⟩
theorem pick_tup {c : Cl} {xs : List D} {K : D → Prop} (ne : xs ≠ []) (hz : xs.length ≤ 1000000) (h : ∀ y ∈ xs, K y) : S_law_pick c (.tup xs) K := by
  have : 0 < xs.length := List.length_pos_iff.mpr ne
  refine ⟨_, rfl, ⟨by omega, by omega⟩, fun k k0 k1 => ?_⟩
  obtain ⟨k, rfl⟩ := Int.eq_ofNat_of_zero_le k0
  have kl : k < xs.length := by omega
  exact ⟨xs[k], atI_nat (List.getElem?_eq_getElem kl), h _ (List.getElem_mem kl)⟩
theorem isE0 {C : Addr} {fs : List (Str × D)} {K : Bool → Prop} (h : K false) : cmpU .Is (.exc C fs) .non K := h
theorem isnE {C : Addr} {fs : List (Str × D)} {K : Bool → Prop} (h : K true) : cmpU .IsNot (.exc C fs) .non K := h
theorem isnN {K : Bool → Prop} (h : K false) : cmpU .IsNot .non .non K := h
theorem frames {a b g : List Str} (F : Fr a b g) : Ln 5 (.lst (a.map D.str)) ∧ Ln 5 (.lst (b.map D.str)) ∧ Ln 5 (.lst (g.map D.str)) := by
  have al := F.al
  exact ⟨ln_seq (.inl rfl) (fun z hz => F.nm z (List.mem_append_left _ hz)) (by omega), ln_seq (.inl rfl) (fun z hz => F.nm z (List.mem_append_right _ hz)) (by omega), ln_seq (.inl rfl) (fun z hz => F.nm z (F.gs.sub z hz)) F.gl⟩
theorem due_of {a b g : D} (h : Due a b g) : ∃ wa wb wg : List Str, SeqD a (wa.map D.str) ∧ SeqD b (wb.map D.str) ∧ SeqD g (wg.map D.str) ∧ Fr wa wb wg := h
theorem eqD_00 : eqD (.tup (([] : List Str).map D.str)) (.tup []) = true := by simp [eqD, toP, toPs, PyData.eqv, PyData.eqvAll]
theorem neE {K : Bool → Prop} (h : K false) : cmpU .NotEq (.tup (([] : List Str).map D.str)) (.tup []) K := by
  refine ⟨shp_of (shK_E (shK_tup (k := 0) fun d h => by cases h) (by decide)), shp_of (shK_E (shK_tup (k := 0) fun d h => by cases h) (by decide)), ?_⟩
  rw [eqD_00]
  exact h
theorem caught_in {c : Cl} {A : (D → Prop) → Prop → Prop} {K : D → Prop} (h : A (catE 2 c K) (K .non)) : caughtS 2 c A K := h
theorem unp3_l {a b e : D} {K : D → D → D → Prop} (h : K a b e) : unp3 (.lst [a, b, e]) K := h
theorem neSame {z : Str} {K : Bool → Prop} (h : K false) : cmpU .NotEq (.str z) (.str z) K := neS (by rw [decide_eq_true rfl]; exact h)
theorem dec_same {a b l : List Str} : decide (a = a ∧ b = b ∧ l = l) = true := decide_eq_true ⟨rfl, rfl, rfl⟩
theorem plain_law (c : Cl) (n : Nat) (_ : n ≤ 63) : S_law c n fun d => d = .bl true := by
  unfold S_law
  refine min_of fun m m1 m2 me => addI ⟨⟨by omega, by omega⟩, ?_⟩
  refine forS_any (fun _ => True) trivial (fun d _ N hd _ nx => ?_) (fun _ _ => rfl)
  refine frame_ok fun a b g F => fr_col (SeqD.list (.inl rfl) (fr_open (SeqD.list (.inl rfl) (fr_gone (SeqD.list (.inl rfl) ?_)))))
  refine pick_lst (xs := [.int 0, .int 0, .int 1, .int 1, .int 2]) (by simp) (by decide) fun y hy => ?_
  obtain ⟨j, rfl, j0, j2⟩ : ∃ j : Int, y = .int j ∧ 0 ≤ j ∧ j ≤ 2 := by
    simp only [List.mem_cons, List.not_mem_nil, or_false] at hy
    rcases hy with rfl | rfl | rfl | rfl | rfl
    · exact ⟨0, rfl, by decide, by decide⟩
    · exact ⟨0, rfl, by decide, by decide⟩
    · exact ⟨1, rfl, by decide, by decide⟩
    · exact ⟨1, rfl, by decide, by decide⟩
    · exact ⟨2, rfl, by decide, by decide⟩
  refine ⟨⟨by omega, by omega⟩, ?_⟩
  have il : (rngD j.toNat).length ≤ 2 := by unfold rngD; rw [List.length_map, List.length_range]; omega
  have bd : ∀ i, i ≤ 2 → bnd i ≤ 50 := by decide
  have bd1 : ∀ i, i < 2 → bnd i ≤ 20 := by decide
  refine forS_of (fun i s => ∃ x y z, s = .lst [x, y, z] ∧ Ln (bnd i) x ∧ Ln (bnd i) y ∧ Ln (bnd i) z) ⟨_, _, _, rfl, (frames F).1, (frames F).2.1, (frames F).2.2⟩ (fun i d s N hd hp nx => ?_) (fun s hp => ?_)
  · obtain ⟨x, y, z, rfl, hx, hy, hz⟩ := hp
    have := (List.getElem?_eq_some_iff.mp hd).1
    have b1 := bd1 i (by omega)
    exact bent_ok hx hy hz (by omega) fun x' y' z' a b c => nx _ ⟨x', y', z', rfl, a, b, c⟩
  obtain ⟨x, y, z, rfl, hx, hy, hz⟩ := hp
  have hx := hx.mono (bd _ il)
  have hy := hy.mono (bd _ il)
  have hz := hz.mono (bd _ il)
  have rp := rp_three hx hy hz (Nat.le_refl _)
  have rpr : ∀ {K : D → Prop}, K (.str (shU (.lst [x, y, z]))) → rprU [.lst [x, y, z]] K := fun k => rp.run (by decide) (by decide) k
  refine unp3_l ?_
  refine law_are_sides_ln hx hy hz (by decide) (fun due => rpr ?_) (fun no => rpr ?_)
  · obtain ⟨wa, wb, wg, sa, sb, sg, F2⟩ := due_of due
    have al := F2.al
    have gl := F2.gl
    refine caught_in (init_yes sa sb sg F2 fun _ _ _ => ?_)
    refine if_in (isY (neB (iF (isnN (iF (iF (rpr (neS (iF ?_ ?_)))))))))
    · refine let_in (if_in (blS_bl (iT ?_)))
      refine sa.tup (sb.tup (sg.sort (by omega) fun l pm so => SeqD.tup (.inl rfl) ?_))
      have G := F2.perm pm
      refine init_yes sa sb sg F2 fun l1 pm1 so1 => ?_
      obtain rfl := sort_same F2.gs.nd pm1 so1 pm so
      refine sg.tup (revT (sb.tup (sa.tup ?_)))
      refine init_yes (.inr rfl) (.inr rfl) (.inr rfl) (F2.perm (List.reverse_perm wg)) fun l2 pm2 so2 => ?_
      obtain rfl := sort_same F2.gs.nd (pm2.trans (List.reverse_perm wg)) so2 pm so
      refine ⟨fun d hd => ?_, fun d hd => ?_, ?_, ?_⟩
      · simp only [List.mem_cons, List.not_mem_nil, or_false] at hd
        rcases hd with rfl | rfl | rfl
        · exact sa.thw
        · exact sb.thw
        · exact sg.thw
      · simp only [List.mem_cons, List.not_mem_nil, or_false] at hd
        rcases hd with rfl | rfl | rfl
        · exact noL_tup3 _ _ _
        · exact noL_shp _ _ _ _
        · exact noL_shp _ _ _ _
      · refine ix3_0 (ix3_1 (addT (by rw [List.length_map, List.length_map]; omega) (pick_tup (fun e => ?_) (by rw [List.length_append, List.length_map, List.length_map]; omega) fun _ _ => trivial)))
        obtain ⟨e1, _⟩ := List.append_eq_nil_iff.mp e
        have a1 := F2.a1
        rw [List.map_eq_nil_iff.mp e1] at a1
        exact absurd a1 (by decide)
      · have rpr3 : ∀ {K : D → Prop}, K (.str (shU (tup3 wa wb l2))) → rprU [.tup [.tup (wa.map D.str), .tup (wb.map D.str), .tup (l2.map D.str)]] K := fun k => (rp_tup3 G).run (by decide) (by decide) k
        refine if_in (f_col (f_bla (f_lac ?_)))
        refine rpr3 ?_
        refine rpr3 ?_
        refine neSame ?_
        refine iF ?_
        refine eqA_shape ?_
        refine shape_eq G G ?_
        refine blS_bl ?_
        rw [dec_same]
        refine iF ?_
        refine if_in (kept_ok G (blS_bl (iF ?_)))
        refine if_in (unlike_ok G so (blS_bl (iF ?_)))
        refine ix3_0 (ix3_1 ?_)
        refine init_yes (wg := []) (.inr rfl) (.inr rfl) (.inr rfl) F2.none fun l3 pm3 _ => ?_
        obtain rfl := pm3.eq_nil
        refine f_lac (neE ?_)
        exact iF (nx () trivial)
    · rw [decide_eq_true rfl]; rfl
  · refine caught_in (init_no hx hy hz (by decide) no (catE_mk (m := 1) (by decide) ?_))
    refine if_in (isE0 (neB (iF (isnE (iT ⟨1, by decide, rfl, blS_bl (iF (rpr (neS (iF ?_ ?_))))⟩)))))
    · exact let_in (if_in (blS_bl (iF (nx () trivial))))
    · rw [decide_eq_true rfl]; rfl
end K02

open PySem PySem.W PyProof.Rows
set_option maxRecDepth 100000 in
set_option maxHeartbeats 0 in
theorem PySem.Challenge.cw_otherworths_k02_shapes_made_or_refused_holds : PySem.Challenge.rw_otherworths_k02_shapes_made_or_refused.Holds := by
  w_on; o_law; k_head; (case hw => w_witness2)
  k_fill
  refine DL.walk_lawV (l := PySem.Challenge.rw_otherworths_k02_shapes_made_or_refused) (n := 63) (k := 17) (x := "_law_script") rfl (by decide) (by decide +kernel) rfl ⟨rfl, by decide, by decide⟩ (fun w h Y => PySem.W.km_in_of Y) ?F
  case F =>
    intro w mg fa h KX G hmg TQ
    refine' K02.all_mk KX G hmg K02.plain_law ?aShape ?pgShape ?hdShape ?poShape ?saShape ?mkShape ?kcShape ?xaShape ?xmShape ?xoShape ?x0Shape ?x1Shape ?x2Shape ?x3Shape ?x4Shape ?x5Shape ?x6Shape ?y0Shape ?y1Shape ?y2Shape ?y3Shape ?y4Shape ?y5Shape ?zneA_Shape ?xn0 ?xt0 ?qn_Shape_own_columns ?qn_Shape_own_blanks ?qn_Shape_own_lacking ?zm_isinstance ?zm_int ?zm_bool ?zm_list ?zm_tuple ?zm_str ?zm_len ?gm_MOST_LETTERS ?em_MOST_LETTERS ?zm_all ?gm_LETTERS ?em_LETTERS ?zm_set ?gm_MOST_COLUMNS ?em_MOST_COLUMNS ?gm_MOST_BLANKS ?em_MOST_BLANKS ?gm_MOST_NAMES ?em_MOST_NAMES ?zm_sorted ?zm_zip ?zm_dict ?zm_range ?zm_min ?zm_enumerate ?zm_repr ?aE0 ?aE1 ?ndE ?hH ?mE0 ?mEs ?e_BadShape ?hXa ?zm_abs ?a6 ?l6 ?c6 ?k6 ?a7 ?l7 ?c7 ?k7 ?a8 ?l8 ?c8 ?k8 ?a9 ?l9 ?c9 ?k9 ?a10 ?l10 ?c10 ?k10 ?a11 ?l11 ?c11 ?k11 ?a12 ?l12 ?c12 ?k12 ?a13 ?l13 ?c13 ?k13 ?a14 ?l14 ?c14 ?k14 ?a15 ?l15 ?lT15 ?c15 ?k15 ?i15 ?a16 ?l16 ?c16 ?k16 ?i16 ?a17 ?l17 ?c17 ?k17 ?i17 ?a18 ?l18 ?c18 ?k18 ?i18 ?a19 ?l19 ?c19 ?k19 ?i19 ?a20 ?l20 ?c20 ?k20 ?a21 ?l21 ?c21 ?k21 ?a22 ?l22 ?c22 ?k22 ?a23 ?l23 ?c23 ?k23 ?a24 ?l24 ?c24 ?k24 ?a25 ?l25 ?c25 ?k25 ?a26 ?l26 ?c26 ?k26 ?a27 ?l27 ?c27 ?k27 ?a28 ?l28 ?c28 ?k28 ?tc_law ?tn_law ?a29 ?g29 ?t29 ?h29 ?l29 ?c29 ?a30 ?g30 ?t30 ?h30 ?l30 ?c30 ?a31 ?g31 ?t31 ?h31 ?l31 ?c31 ?eT15_0 ?lE15_0 ?cE15_0 ?ndT
    (case aShape => k_is)
    (case pgShape => k_is)
    (case hdShape => k_is)
    (case poShape => k_is)
    (case saShape => k_is)
    (case mkShape => k_is)
    (case kcShape => k_is)
    (case xaShape => k_is)
    (case xmShape => k_is)
    (case xoShape => kit_is)
    (case x0Shape => kit_is)
    (case x1Shape => kit_is)
    (case x2Shape => kit_is)
    (case x3Shape => kit_is)
    (case x4Shape => kit_is)
    (case x5Shape => kit_is)
    (case x6Shape => kit_is)
    (case y0Shape => kit_is)
    (case y1Shape => kit_is)
    (case y2Shape => kit_is)
    (case y3Shape => kit_is)
    (case y4Shape => kit_is)
    (case y5Shape => kit_is)
    (case zneA_Shape => k_is)
    (case xn0 => k_is)
    (case xt0 => k_is)
    (case qn_Shape_own_columns => k_is)
    (case qn_Shape_own_blanks => k_is)
    (case qn_Shape_own_lacking => k_is)
    (case zm_isinstance => k_is)
    (case zm_int => k_is)
    (case zm_bool => k_is)
    (case zm_list => k_is)
    (case zm_tuple => k_is)
    (case zm_str => k_is)
    (case zm_len => k_is)
    (case gm_MOST_LETTERS => k_is)
    (case em_MOST_LETTERS => exact ⟨_, rfl⟩)
    (case zm_all => k_is)
    (case gm_LETTERS => k_is)
    (case em_LETTERS => exact ⟨_, rfl⟩)
    (case zm_set => k_is)
    (case gm_MOST_COLUMNS => k_is)
    (case em_MOST_COLUMNS => exact ⟨_, rfl⟩)
    (case gm_MOST_BLANKS => k_is)
    (case em_MOST_BLANKS => exact ⟨_, rfl⟩)
    (case gm_MOST_NAMES => k_is)
    (case em_MOST_NAMES => exact ⟨_, rfl⟩)
    (case zm_sorted => k_is)
    (case zm_zip => k_is)
    (case zm_dict => k_is)
    (case zm_range => k_is)
    (case zm_min => k_is)
    (case zm_enumerate => k_is)
    (case zm_repr => k_is)
    (case aE0 => k_is)
    (case aE1 => k_is)
    (case ndE => decide)
    (case hH => exact DL.ErrHs.of (es := [_, _]) rfl (.cons ⟨⟨by k_is, by k_is, by k_is, by k_is, by k_is, by k_is, by k_is, by k_is⟩, ⟨by k_is, by k_is, by k_is, by k_is⟩⟩ (.cons ⟨⟨by k_is, by k_is, by k_is, by k_is, by k_is, by k_is, by k_is, by k_is⟩, ⟨by k_is, by k_is, by k_is, by k_is⟩⟩ (.nil))))
    (case mE0 => exact DL.EM.of2 (by k_is) (by k_is) (by rfl))
    (case mEs => exact .cons (DL.EM.of2 (by k_is) (by k_is) (by rfl)) (.nil))
    (case e_BadShape => exact ⟨PySem.W.mg_of KX G (by k_is), by k_exc, by k_is, by k_is, by k_is⟩)
    (case hXa => exact .cons (by kts_exm) (.cons (by kts_exm) (.nil)))
    (case zm_abs => k_is)
    (case a6 => k_is)
    (case l6 => k_is)
    (case c6 => k_is)
    (case k6 => k_is)
    (case a7 => k_is)
    (case l7 => k_is)
    (case c7 => k_is)
    (case k7 => k_is)
    (case a8 => k_is)
    (case l8 => k_is)
    (case c8 => k_is)
    (case k8 => k_is)
    (case a9 => k_is)
    (case l9 => k_is)
    (case c9 => k_is)
    (case k9 => k_is)
    (case a10 => k_is)
    (case l10 => k_is)
    (case c10 => k_is)
    (case k10 => k_is)
    (case a11 => k_is)
    (case l11 => k_is)
    (case c11 => k_is)
    (case k11 => k_is)
    (case a12 => k_is)
    (case l12 => k_is)
    (case c12 => k_is)
    (case k12 => k_is)
    (case a13 => k_is)
    (case l13 => k_is)
    (case c13 => k_is)
    (case k13 => k_is)
    (case a14 => k_is)
    (case l14 => k_is)
    (case c14 => k_is)
    (case k14 => k_is)
    (case a15 => k_is)
    (case l15 => k_is)
    (case lT15 => k_is)
    (case c15 => k_is)
    (case k15 => k_is)
    (case i15 => k_is)
    (case a16 => k_is)
    (case l16 => k_is)
    (case c16 => k_is)
    (case k16 => k_is)
    (case i16 => k_is)
    (case a17 => k_is)
    (case l17 => k_is)
    (case c17 => k_is)
    (case k17 => k_is)
    (case i17 => k_is)
    (case a18 => k_is)
    (case l18 => k_is)
    (case c18 => k_is)
    (case k18 => k_is)
    (case i18 => k_is)
    (case a19 => k_is)
    (case l19 => k_is)
    (case c19 => k_is)
    (case k19 => k_is)
    (case i19 => k_is)
    (case a20 => k_is)
    (case l20 => k_is)
    (case c20 => k_is)
    (case k20 => k_is)
    (case a21 => k_is)
    (case l21 => k_is)
    (case c21 => k_is)
    (case k21 => k_is)
    (case a22 => k_is)
    (case l22 => k_is)
    (case c22 => k_is)
    (case k22 => k_is)
    (case a23 => k_is)
    (case l23 => k_is)
    (case c23 => k_is)
    (case k23 => k_is)
    (case a24 => k_is)
    (case l24 => k_is)
    (case c24 => k_is)
    (case k24 => k_is)
    (case a25 => k_is)
    (case l25 => k_is)
    (case c25 => k_is)
    (case k25 => k_is)
    (case a26 => k_is)
    (case l26 => k_is)
    (case c26 => k_is)
    (case k26 => k_is)
    (case a27 => k_is)
    (case l27 => k_is)
    (case c27 => k_is)
    (case k27 => k_is)
    (case a28 => k_is)
    (case l28 => k_is)
    (case c28 => k_is)
    (case k28 => k_is)
    (case tc_law => (refine' TQ "law" _ _ _ ?r (DL.tabIn_of ?q1 ?q2 ?q3 ?q4 ?q5 ?q6 ?q7); (case q1 => k_is); (case q2 => k_is); (case q3 => rfl); (case q4 => rfl); (case q5 => k_is); (case q6 => rfl); (case q7 => rfl); (case r => rfl)))
    (case tn_law => first | kernel_rfl | rfl)
    (case a29 => k_is)
    (case g29 => k_is)
    (case t29 => k_is)
    (case h29 => k_is)
    (case l29 => k_is)
    (case c29 => k_is)
    (case a30 => k_is)
    (case g30 => k_is)
    (case t30 => k_is)
    (case h30 => k_is)
    (case l30 => k_is)
    (case c30 => k_is)
    (case a31 => k_is)
    (case g31 => k_is)
    (case t31 => k_is)
    (case h31 => k_is)
    (case l31 => k_is)
    (case c31 => k_is)
    (case eT15_0 => exact rfl)
    (case lE15_0 => k_is)
    (case cE15_0 => exact rfl)
    (case ndT => decide)
#print axioms PySem.Challenge.cw_otherworths_k02_shapes_made_or_refused_holds

