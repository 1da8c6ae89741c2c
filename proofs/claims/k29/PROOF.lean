import PyProof.Rows.All
import Wide.All
import OpenK.AllK
import Wide.FinOn
import KE.KIsAll
import KE.KTryMore
import KE.KExcInit
import HandS.ForMost
import HandS.Exc
import HandS.ExcOwn
import HandS.ExcInit
import HandS.ExcField
import HandS.ExcIs
import HandS.ExcValue
import HandS.WordsExc
import HandS.Defaults
import HandS.HeadHook1
import KE.DataMinKey
import HandS.Strs
import HandS.SetFor
import HandS.SortKw
import HandS.More
import HandS.SetKeys
import HandS.TupMul
import HandS.SortInts
import KE.DataFind
import HandS.Nested
import HandS.HeadHook4
import HandS.Words
import PySem.Challenge.RW_nothingnew_k29_idle_and_within
import KE.DataEq
import KE.DataIsa
import HandS.TupAny
import HandS.Deep
import HandS.Wide
import PyProof.StrBlock2
import PyProof.ReprRoads
import PyProof.ListMulAny
import PyProof.Conv_int_bool
import HandS.IsInst
import HandS.Dict
import HandS.Zip
import KE.GoesMore
import HandS.DictComp
import HandS.GenList
import KE.KDictZip
import HandS.DictEq
import PyProof.EqAt
import HandS.Style
import HandS.Small
import HandS.Ends
import HandS.HeadEnd
import HandS.Head0
import HandS.Head1
import HandS.Head2
import HandS.HeadHook2
import PyProof.StrLawsRepr
import PyProof.Rows.StrJoinRep
set_option Elab.async false
set_option linter.all false
set_option maxRecDepth 100000
set_option maxHeartbeats 4000000
namespace PySem.W
open PySem PySem.Spec PySem.Calls PyProof.Rows
section
variable {prog : Program} {w : World} {A : Around} {E : Value → Shared → Prop} {s : Shared} {K : Frag} {x D : Addr} {ox : Obj} {od : Option Obj}
theorem pd_findObj_dataN {C : Addr} {name : Str} {a g : Value} (hc : (clsIn K C).isSome = true) (ha : findIn K (.ref C) name = some (some a)) (hg : specialIn K a "__get__" = some (some g)) (ht : takesIn K a = some true) : findObj K C od name = some (.bind g a) := by
  obtain ⟨cd, hc⟩ := Option.isSome_iff_exists.mp hc
  unfold findObj
  rw [hc, Option.bind_some, ha, Option.bind_some]
  simp [hg, ht]
theorem pd_kin_classE {Q : Option Value → Shared → Prop} (hga : findIn K (.ref D) "__getattribute__" = some (some (.builtin "BaseException.__getattribute__"))) (hgt : findIn K (.ref D) "__getattr__" = some none) (hsub : subIn K (.ref D) (.type "BaseException") = some true)
    (hdct : hasDictIn K D = true) (ha : findIn K (.ref D) "__class__" = some (some (.builtin "object.__class__")))
    (hn : specialIn K (.builtin "object.__class__") "__get__" = some (some (.builtin "getset_descriptor.__get__"))) (htk : takesIn K (.builtin "object.__class__") = some true) (hm : mroIn K D (.type "object") = some true)
    (X : K.In s.heap) (I : InstAt s.heap x ox D od) (h : Q (some (.ref D)) { s with toks := s.toks + 1 }) : wpAny (model prog w) A (getAttr? (.ref x) "__class__") Q E s := by
  have hf : findObj K D od "__class__" = some (.bind (.builtin "getset_descriptor.__get__") (.builtin "object.__class__")) := pd_findObj_dataN (by obtain ⟨cd, hc, _⟩ := any_some hdct; rw [hc]; rfl) ha hn htk
  obtain ⟨hp, g, d, t, os⟩ := s
  have L0 := I.type (M := model prog w)
  have L1 := looks_findIn (M := model prog w) X hga
  have L2 := looks_findIn (M := model prog w) X hgt
  have L3 := looks_find (M := model prog w) X I hf
  have sub : Looks (model prog w) hp (isInstance (.ref x) (.type "BaseException")) true := L0.andThen (looks_subIn X hsub)
  have hx0 : (false && onTheHeap (Value.builtin "BaseException.__getattribute__")) = false := rfl
  have hx2 : (Value.builtin "BaseException.__getattribute__" == Value.builtin "object.__getattribute__") = false := by decide +kernel
  have hx1 : (onTheHeap (Value.ref D) && Value.builtin "BaseException.__getattribute__" == Value.builtin "object.__getattribute__") = false := by rw [hx2]; rfl
  unfold getAttr? getAttrBy? getAttrBy
  refine wpAny_bind (wpAny_mkText (wpAny_bind (wpAny_attempt (wpAny_holding (wpAny_bind (L0.at (wpAny_bind (L1.at ?_))))))))
  show wpAny _ _ (if (onTheHeap (Value.ref D) && Value.builtin "BaseException.__getattribute__" == Value.builtin "object.__getattribute__") = true then _ else _) _ _ _
  rw [hx1, if_neg Bool.false_ne_true]
  unfold getAttrByItsOwn hookBefore
  refine wpAny_bind ?_
  rw [if_pos (show onTheHeap (Value.ref D) = true from rfl)]
  refine L2.at ?_
  refine wpAny_bind (wpAny_attempt (wpAny_holding ?_))
  unfold callGetattribute
  rw [hx0, if_neg Bool.false_ne_true]
  unfold boundAndCalled
  rw [PySem.F.excAttr_ValueError.ga.bind (.ref x)]
  refine wpAny_bind (wpAny_pure ?_)
  show wpAny _ _ (call (.builtin "BaseException.__getattribute__") [.ref x, .str "__class__" t]) _ _ _
  refine wpAny_call (codeAny_call_builtin PySem.F.excAttr_ValueError.ga.plain PySem.F.entry_bexc_ga ?_)
  refine @check_slot (model prog w) _ _ ⟨hp, g, d, t + 1, os⟩ "BaseException.__getattribute__" "BaseException" "__getattribute__" (.ref x) [.str "__class__" t] [] _ (by decide +kernel) (by decide +kernel) sub (PySem.F.args_bexc_ga (.ref x) (.str "__class__" t)) ?_
  unfold Builtin.«object.__getattribute__»
  refine wpAny_bind (wpAny_of_eq (a := ((Value.ref x : Value), [Value.str "__class__" t])) (by first | rfl | (simp only [slotArgs]; rfl)) ?_)
  refine wpAny_bind (wpAny_pure (wpAny_bind (L0.at (wpAny_bind (L3.at ?_)))))
  show wpAny _ _ (holding [Value.builtin "object.__class__"] (call (.builtin "getset_descriptor.__get__") [.builtin "object.__class__", .ref x, .ref D]) >>= ret) _ _ _
  refine wpAny_bind (wpAny_holding (wpAny_call (class_get (s := ⟨hp, g, d, t + 1, os⟩) (ox := ox) (od := od) X I hm ?_)))
  refine wpAny_pure ?_
  show wpAny _ _ (handedOut (.ref D)) _ _ _
  rw [handedOut_of (v := .ref D) rfl]
  first
    | exact wpAny_pure (wpAny_pure h)
    | exact wpAny_pure h
    | exact wpAny_pure (wpAny_bind (wpAny_pure (wpAny_pure h)))
theorem pd_kitx_exc (hga : findIn K (.ref D) "__getattribute__" = some (some (.builtin "BaseException.__getattribute__"))) (hgt : findIn K (.ref D) "__getattr__" = some none) (hsub : subIn K (.ref D) (.type "BaseException") = some true) (hdct : hasDictIn K D = true) (ha : findIn K (.ref D) "__class__" = some (some (.builtin "object.__class__")))
    (hn : specialIn K (.builtin "object.__class__") "__get__" = some (some (.builtin "getset_descriptor.__get__"))) (htk : takesIn K (.builtin "object.__class__") = some true) (hm : mroIn K D (.type "object") = some true) :
    KitX K (.ref x) (.ref D) (fun h => InstAt h x ox D od) where
  ty := fun _ _ _ I => I.type
  it := fun _ _ X _ => by
    obtain ⟨cdD, hcD, _⟩ := any_some hdct
    unfold clsIn at hcD
    split at hcD
    · rename_i c' d' cd' sl' ho
      intro A' Q' E' s' k q
      unfold isType loadHead
      exact wpAny_bind (wpAny_loadPart (k _ _ (X _ _ ho)) (wpAny_pure q))
    · cases hcD
  ne := fun h tp dd its n sl X htp => by
    obtain ⟨cdD, hcD, _⟩ := any_some hdct
    refine Bool.eq_false_iff.mpr fun q => ?_
    have e : D = tp := Value.ref.inj (beq_iff_eq.mp q)
    subst e
    unfold clsIn at hcD
    split at hcD
    · rename_i c' d' cd' sl' ho
      have z := (X _ _ ho).symm.trans htp
      cases z
    · cases hcD
  ca := fun X I k => pd_kin_classE hga hgt hsub hdct ha hn htk hm X I k
end
end PySem.W

namespace PD
open PySem PySem.Spec PyProof.Rows L2
/-! ## an exception that is kept: tracked, its dict beside it -/
def exk (a C d : Addr) : HO := .ext fun h => ∃ (oe : Obj) (vs : Array Value), h.get? a = some oe ∧ oe.cls = .ref C ∧ oe.dict = some d ∧ oe.data = .fields vs
theorem exk_ok {P : Program} {w : World} {H : Hp} {h : Heap} {a C d : Addr} {oe : Obj} {vs : Array Value} (e : h.get? a = some oe) (c : oe.cls = .ref C) (dd : oe.dict = some d) (dt : oe.data = .fields vs) : ObjOk P w H h a (exk a C d) :=
  ⟨⟨oe, vs, e, c, dd, dt⟩, ⟨oe, e⟩, fun _ _ ⟨o, v, q, r⟩ k => ⟨o, v, k o q, r⟩⟩
theorem exk_at {P : Program} {w : World} {H : Hp} {h : Heap} {a C d : Addr} (hok : HOk P w H h) (r : Rd H a (exk a C d)) : ∃ (oe : Obj) (vs : Array Value), h.get? a = some oe ∧ oe.cls = .ref C ∧ oe.dict = some d ∧ oe.data = .fields vs := by
  rcases r with e | ⟨o, e⟩
  · have x : ObjOk P w H h a (.ext fun h => ∃ (oe : Obj) (vs : Array Value), h.get? a = some oe ∧ oe.cls = .ref C ∧ oe.dict = some d ∧ oe.data = .fields vs) := hok a _ e
    exact x.1
  · have x : h.get? a = some o ∧ ObjOk P w H h a (.ext fun h => ∃ (oe : Obj) (vs : Array Value), h.get? a = some oe ∧ oe.cls = .ref C ∧ oe.dict = some d ∧ oe.data = .fields vs) := hok a _ e
    exact x.2.1
/-- what an own exception class must have: c with the one field f -/
structure ExcX (K : PySem.W.Frag) (c f : Str) : Prop where
  xf : XfC K (He.ga K c)
  no : PySem.W.findIn K (.ref (He.ga K c)) f = some none
  ic : ExcC K (He.ga K c)
  m1 : PySem.W.exmOne K (.ref (He.ga K c)) (.ref (He.ga K c)) = some true
  m2 : PySem.W.exmOne K (.ref (He.ga K c)) (.ref (He.ga K "NewError")) = some true
  k1 : PySem.W.kitOne K (.ref (He.ga K c)) (.ref (He.ga K c)) = some true
  k2 : PySem.W.kitOne K (.ref (He.ga K c)) (.ref (He.ga K "NewError")) = some true
section
variable {X : Cx}
/-- e.f of a kept exception -/
theorem pe_xk {e : Expr} {te : TE} {pos : Pos} {n : Str} (he : PE X e te) (hb : attributeBase e n X.env (eval e X.env) = eval e X.env := by rfl) :
    PE X (.Attribute e n pos) (fun σ H Q => te σ H fun x H1 => ∃ (a d : Addr) (c : Str) (y : V), x = .ref a ∧ ExcX X.K c n ∧ Rd H1 a (exk a (He.ga X.K c) d) ∧ H1 d = some (.xd [(n, y)]) ∧ Q y H1) := by
  refine ⟨fun pins s σ H Q I h => ?_⟩
  refine attr_of hb (thn (he.run pins s σ H _ I h) fun u s1 hh => ?_)
  obtain ⟨x, H1, I1, rx, a, d, c, y, ex, T, ea, ed, q⟩ := hh
  subst ex
  obtain rfl : u = Value.ref a := rx
  obtain ⟨oe, vs, ha, hc, hd, hdt⟩ := exk_at I1.hok ea
  have hx : ObjOk X.prog X.w H1 s1.heap d (.xd [(n, y)]) := I1.hok d _ ed
  obtain ⟨mA, hns, hr⟩ := hx
  obtain ⟨od, ho, hl⟩ := lookIn_ns hns
  have lk : ([(n, y)] : List (Str × V)).lookup n = some y := by simp [List.lookup]
  obtain ⟨u, hu, ru⟩ := RelO.some_of (v := y) (o := mA n) (by rw [← lk]; exact hr n)
  have J : PySem.W.InstAt s1.heap a oe (He.ga X.K c) (some od) := ⟨ha, hc, by unfold PySem.W.notCls; rw [hdt] <;> rfl, by rw [hd]; exact ho⟩
  exact HandSPX.exc_get I1.kIn J T.xf.ga T.xf.gg T.xf.exC (PySem.W.findObj_own T.xf.hdC T.no rfl (by rw [hl, hu])) (handed_of ru) ⟨y, H1, I1.tok _, ru, q⟩
/-- isinstance(e, D), e a kept exception -/
theorem call_isk : CallR X (.builtin "isinstance") (fun xs H Q => ∃ (a d : Addr) (c f : Str) (y : V) (D : Addr) (b : Bool), xs = [.ref a, .ref D] ∧ ExcX X.K c f ∧ Rd H a (exk a (He.ga X.K c) d) ∧ H d = some (.xd [(f, y)]) ∧
    PySem.W.kitOne X.K (.ref (He.ga X.K c)) (.ref D) = some b ∧ Q (.bl b) H) := by
  intro pins s σ H xs us Q I r h
  obtain ⟨a, d, c, f, y, D, b, rfl, T, ea, ed, e, q⟩ := h
  cases r with
  | cons rx rr =>
    cases rr with
    | cons rt rr =>
      cases rr
      cases rx
      cases rt
      obtain ⟨oe, vs, ha, hc, hd, hdt⟩ := exk_at I.hok ea
      have hx : ObjOk X.prog X.w H s.heap d (.xd [(f, y)]) := I.hok d _ ed
      obtain ⟨mA, hns, hr⟩ := hx
      obtain ⟨od, ho, hl⟩ := lookIn_ns hns
      have J : PySem.W.InstAt s.heap a oe (He.ga X.K c) (some od) := ⟨ha, hc, by unfold PySem.W.notCls; rw [hdt] <;> rfl, by rw [hd]; exact ho⟩
      exact PySem.W.kia_one (PySem.W.pd_kitx_exc T.ic.hg T.ic.hk T.ic.hs T.ic.hd T.ic.ha T.ic.hn T.ic.ht T.ic.hm) I.kIn J e (fun z => nomatch z) fun tk => ⟨.bl b, H, I.kept (t' := tk) fun _ _ z => z, rfl, q⟩
end
/-! ## try: .. except x as n: .., the exception tracked from then on -/
section
variable {X : Cx} {pins : List (Addr × Obj)} {σ : L2.St} {H : Hp} {sI s s' : Shared} {B : Heap}
theorem landedK {a : Addr} {o : HO} (I : Inv X pins σ H sI) (nb : ∀ b o, sI.heap.get? b = some o → b ∉ frs X.stack → B.get? b = some o) (st : B.StaysIn s'.heap) (up : sI.heap.UpToSlots s'.heap) (os : s'.os = sI.os) (ag : AllBare s'.gens)
    (hn : sI.heap.get? a = none) (na : H a = none) (new : ObjOk X.prog X.w (upd H a o) s'.heap a o) : Inv X pins σ (upd H a o) s' := by
  have nf : ∀ b ∈ frs X.stack, ∀ o, sI.heap.get? b = some o → ∃ sl, s'.heap.get? b = some { o with slots := sl } := fun b hb o e => by
    obtain ⟨_, o', e', hd⟩ := I.stack.mem hb
    rw [e] at e'; cases e'
    exact up b o e hd
  have hokB := I.inGround nb
  have hok2 : HOk X.prog X.w (upd H a o) s'.heap := (hokB.kept st).laidN (fun b u e => e) na new
  have J := I.call (ch := []) (h' := s'.heap) (g' := s'.gens) (t' := s'.toks) (d' := s'.drawn) (H' := upd H a o)
    ⟨fun b o e _ hb _ => st b o (nb b o e hb), fun b o e _ hb _ => nf b hb o e, fun b u e n _ => by rw [upd_ne (fun z => by rw [z, hn] at e; cases e)]; exact n, fun b o e _ => by
      by_cases hb : b ∈ frs X.stack
      · obtain ⟨sl, q⟩ := nf b hb o e
        exact ⟨_, q⟩
      · exact ⟨o, st b o (nb b o e hb)⟩, fun _ _ e => by rw [upd_ne (ne_of_none e na)]; exact e, fun _ _ _ e => by rw [upd_ne (ne_of_none e na)]; exact e, fun b ps e => ⟨#[], by rw [upd_ne (ne_of_none e na), e]; simp⟩⟩
    hok2 ag (fun _ z => nomatch z)
  obtain ⟨a1, a2, a3, a4, a5⟩ := s'
  have e5 : a5 = sI.os := os
  subst e5
  exact J
theorem toSuite {a : Addr} (I : Inv X pins σ H s) : Inv (X.suite a (X.pn ++ pins)) [] σ H s :=
  ⟨I.ok.suite _ _, I.os, I.bare, I.base, I.loc, I.cell, I.free, I.freeC, fun p hp => I.pin p (by rw [List.append_nil] at hp; exact hp), I.hok, I.len⟩
theorem ofSuite {a : Addr} {pn' : List (Addr × Obj)} (I : Inv (X.suite a (X.pn ++ pins)) pn' σ H s) (ok : X.Ok) : Inv X pins σ H s :=
  ⟨ok, I.os, I.bare, I.base, I.loc, I.cell, I.free, I.freeC, fun p hp => I.pin p (List.mem_append_left _ hp), I.hok, I.len⟩
end
/-- what the clause wishes of an exception of the body: slot i is n's -/
def wAsK (K : PySem.W.Frag) (c : Value) (i : Nat) (ts : TS) (D : Ends) : WX := fun cls d σ H =>
  PySem.W.exmOne K cls c = some true ∧ ∃ C dd, cls = .ref C ∧ d = some dd ∧ ∀ a, H a = none → ts { nx := fun σ' H' => D.nx (σ'.set i none) H', rt := D.rt, bk := fun σ' H' => D.bk (σ'.set i none) H', ct := fun σ' H' => D.ct (σ'.set i none) H' } (σ.set i (some (.ref a))) (upd H a (exk a C dd))
section
variable {X : Cx} {x n : Str} {c : Value} {i : Nat} {body suite : List Stmt} {b₀ : Stmt} {np pos pos' : Pos} {tb : WX → TS} {ts : TS}
theorem ps_try_k (hs : X.stack = X.env :: X.outer) (hf : X.env.frame = some X.env.locals) (hN : X.N.Nodup) (hi : X.N[i]? = some n) (hln : X.env.kindOf n = some .local) (hc : Names X x c)
    (hb : ∀ (W : WX) (pn : List (Addr × Obj)) (xe : Value → Shared → Prop), Takes (X.tr pn xe) W → PassesOwn (model X.prog X.w) X.A X.env xe → PSs (X.tr pn xe) body (tb W))
    (hsu : ∀ (a : Addr) (pn : List (Addr × Obj)), PSs (X.suite a pn) (b₀ :: suite) ts) :
    PS X (.Try body [.ExceptHandler (some (.Name x np)) (some n) (b₀ :: suite) pos'] [] [] pos) (fun D σ H => tb (wAsK X.K c i ts D) D σ H) := by
  refine ⟨fun pins s σ H D I h => ?_⟩
  have ok := I.ok
  have hfr : X.A.frames = some (X.env :: X.outer) := by rw [ok.frames, hs]
  have hloc : L2.Loc X.env.scope n := .inl hln
  refine wpAny_Try_except ?_
  refine wpAny_mono ((hb (wAsK X.K c i ts D) (X.pn ++ pins) (fun e s₁ => wpAny (model X.prog X.w) X.A (noteFrame e X.env) (fun _ s₂ => wpAny (model X.prog X.w) X.A (setFlight e none) (fun _ s₃ =>
    wpAny (model X.prog X.w) X.A (handleBy e X.env [.ExceptHandler (some (.Name x np)) (some n) (b₀ :: suite) pos']) (SP X pins D) X.xe s₃) X.xe s₂) X.xe s₁) (fun u s' xx => ?_) PassesOwn.looking).run [] s σ H D (I.toTry _) h) (fun f s1 hsp => ?_) (fun e s1 he => he)
  · -- the catch
    obtain ⟨a, B, sI, pins', σ', H', cls, d, rfl, J', nb, up, sky, na, os, ag, hb1, C, dd, rfl, rfl, hyes⟩ := xx
    have J : Inv X pins σ' H' sI := J'.ofTry ok
    have sky' : Sky B (X.env :: X.outer) a (Zc (.ref C) (some dd)) X.env.locals s'.heap := by rw [← hs]; exact sky
    show wpAny (model X.prog X.w) X.A (noteFrame (.ref a) X.env) _ _ _
    refine Sky.land Zc.steady hfr hf sky' fun h3 fl3 up3 => ?_
    have J3 : Inv X pins σ' H' { s' with heap := h3 } := J.landed nb fl3.1 (up.trans up3) os ag
    obtain ⟨oe3, vs3, he3, hz3, hd3⟩ := fl3.there
    have notFr : ∀ {h : Heap} {o : Obj} {vs : Array Value}, h.FunFrames B (X.env :: X.outer) → h.get? a = some o → o.data = .fields vs → a ∉ frs (X.env :: X.outer) := fun {h o vs} ff e dd hm => by
      obtain ⟨_, o', e', hnf⟩ := ff.mem hm
      rw [e] at e'; cases e'
      exact hnf _ dd
    have nfr := notFr fl3.2.2.1 he3 hd3
    have nL : a ≠ X.env.locals := fun z => nfr (List.mem_filterMap.mpr ⟨X.env, List.mem_cons_self, by rw [hf, z]⟩)
    have nF : a ∉ X.fs := fun hm => by
      obtain ⟨e, he, q⟩ := List.mem_filterMap.mp hm
      exact nfr (List.mem_filterMap.mpr ⟨e, List.mem_cons_of_mem _ he, q⟩)
    have nI : sI.heap.get? a = none := by
      cases q : sI.heap.get? a with
      | none => rfl
      | some o =>
        have z := nb a o q (by rw [hs]; exact nfr)
        rw [fl3.2.1] at z
        cases z
    have S3 := J3.suite he3 hd3 na nL nF
    refine wpAny_handleBy_cons (codeAny_handlers_test ?_) (by intro q; cases q)
    have LT : PySem.W.Looks (model X.prog X.w) h3 (typeOf (.ref a)) (.ref C) := fun A Q E s k q => wpAny_typeOf_ref (k _ _ he3) (by rw [hz3.1]; exact q)
    have LM := PySem.W.exm_one (M := model X.prog X.w) (J3.kIn) LT hb1
    have test : ∀ {Q : Value → Shared → Prop} {E : Value → Shared → Prop}, Q c { s' with heap := h3 } → wpAny (model X.prog X.w) (X.A.mark (some (.ref a))) (eval (.Name x np) X.env) Q E { s' with heap := h3 } := fun {Q E} q => by
      obtain ⟨hg, hdbg, hm | ⟨hm, hv, hnn⟩⟩ := hc
      · exact ld_glob (X := X.suite a ((a, oe3) :: (X.pn ++ pins))) S3 hg hm q hdbg
      · exact ld_blt (X := X.suite a ((a, oe3) :: (X.pn ++ pins))) S3 hg hm hv q hnn hdbg
    refine test (LM.here ?_)
    refine codeAny_handlers_suite_as ?_
    refine HandSPX.lands_againZ fl3 fun h4 fl4 up4 => ?_
    obtain ⟨oe4, vs4, he4, hz4, hd4⟩ := fl4.there
    have J4 : Inv X pins σ' (upd H' a (exk a C dd)) { s' with heap := h4 } := landedK J nb fl4.1 ((up.trans up3).trans up4) os ag nI na (exk_ok he4 hz4.1 hz4.2 hd4)
    have S4 := toSuite (a := a) J4
    refine store_ok (X := X.suite a (X.pn ++ pins)) (v := .ref a) S4 hN hi hloc rfl (fun s5 S5 => ?_) (.inr hln)
    refine wpAny_mono ((hsu a (X.pn ++ pins)).run [] s5 _ _ _ S5 (hyes a na)) (fun f s6 hsp => ?_) (fun _ _ z => False.elim z)
    have end_ : ∀ {σ6 : L2.St} {H6 : Hp} {Q : Shared → Prop}, Inv (X.suite a (X.pn ++ pins)) [] σ6 H6 s6 → (∀ s7, Inv X pins (σ6.set i none) H6 s7 → Q s7) →
        wpAny (model X.prog X.w) X.A (do bindName X.env n .none; unbindBehindTheSuite X.env n pos') (fun _ s7 => Q s7) X.xe s6 := fun {σ6 H6 Q} S6 hq => gone_ok (ofSuite S6 ok) hN hi hln hq
    cases f with
    | next =>
      obtain ⟨σ6, H6, S6, q6⟩ := hsp
      exact end_ S6 fun s7 J7 => ⟨_, _, J7, q6⟩
    | brk =>
      obtain ⟨σ6, H6, S6, q6⟩ := hsp
      exact end_ S6 fun s7 J7 => ⟨_, _, J7, q6⟩
    | cont =>
      obtain ⟨σ6, H6, S6, q6⟩ := hsp
      exact end_ S6 fun s7 J7 => ⟨_, _, J7, q6⟩
    | ret u =>
      obtain ⟨v6, σ6, H6, S6, r6, q6⟩ := hsp
      exact end_ S6 fun s7 J7 => ⟨_, _, _, J7, r6, q6⟩
  · cases f with
    | next =>
      obtain ⟨σ', H', J', q⟩ := hsp
      exact wpAny_execs_nil ⟨σ', H', J'.ofTry ok, q⟩
    | brk =>
      obtain ⟨σ', H', J', q⟩ := hsp
      exact ⟨σ', H', J'.ofTry ok, q⟩
    | cont =>
      obtain ⟨σ', H', J', q⟩ := hsp
      exact ⟨σ', H', J'.ofTry ok, q⟩
    | ret u =>
      obtain ⟨v, σ', H', J', r, q⟩ := hsp
      exact ⟨v, σ', H', J'.ofTry ok, r, q⟩
end
/-! ## NewError.__init__(self, ..) -/
structure NeC (K : PySem.W.Frag) (mg : Str → Option Value) : Prop where
  at_ : mg "NewError" = some (.ref (He.ga K "NewError"))
  ga : PySem.W.specialIn K (.ref (He.ga K "NewError")) "__getattribute__" = some (some (.builtin "type.__getattribute__"))
  rd : PySem.W.readsIn K (He.ga K "NewError") (.type "type") = true
  it : PySem.W.findCls K (.ref (He.ga K "NewError")) (.type "type") "__init__" = some (.val (.builtin "ValueError.__init__"))
section
variable {X : Cx} {e : Expr} {es : List Expr} {ta : TA} {p1 p2 pos : Pos}
theorem pe_neinit {pl : Sem Bool} (N : NeC X.K X.mg) (hg : Gl X "NewError") (ha : PA X (e :: es) ta)
    (hc : eval (.Call (.Attribute (.Name "NewError" p1) "__init__" p2) (e :: es) [] pos) X.env = (do
      let ov ← eval (.Name "NewError" p1) X.env
      standAt p2.atName
      let (f, first) ← holding [ov] (getMethod ov "__init__" pl)
      callWith pos f first (backTo pos (starEach (e :: es) X.env)) (backToKw pos (keywordEach [] X.env))) := by rfl)
    (he : starEach (e :: es) X.env = (false, eval e X.env) :: starEach es X.env := by rfl) (hpl : (backTo pos (starEach es X.env)).any (·.1) = false := by rfl) :
    PE X (.Call (.Attribute (.Name "NewError" p1) "__init__" p2) (e :: es) [] pos) (tVeI X.K ta) := by
  refine ⟨fun pins s σ H Q I h => ?_⟩
  refine PySem.W.methodCall_KW (ld_glob I hg N.at_ ?_ (by decide)) hc
  refine PySem.W.method_cls I.kIn N.ga (PySem.W.cls_value I.kIn N.rd N.it (by decide +kernel) ?_)
  show wpAny _ _ (callWith pos (Value.builtin "ValueError.__init__") [] (backTo pos (starEach (e :: es) X.env)) []) _ _ _
  refine PyProof.Rows.callWith_method1 (thn (ha.run pos pins _ σ H _ (I.tok _) h) fun us s1 ⟨vs, H1, I1, r1, a, C, ws, ev, hl, T, ea, q⟩ => ?_) he hpl
  subst ev
  cases r1 with
  | @cons _ u0 _ ur ra rw' =>
    obtain rfl : u0 = Value.ref a := ra
    have hlen : ur.length ≤ sizeLine := by
      rw [← Paired.length rw', sizeLine_eq]
      omega
    exact oinit_ok T I1 ea hlen fun s' J => ⟨.non, H1, J, rfl, q⟩
end
end PD

set_option Elab.async false
set_option linter.all false
set_option maxRecDepth 100000
set_option maxHeartbeats 4000000
namespace PySem.W
open PySem PySem.Spec PySem.Calls PyProof.Rows
section
variable {prog : Program} {w : World} {A : Around} {E : Value → Shared → Prop} {s : Shared} {K : Frag} {x C L f : Addr} {h₀ : Heap} {m : Str → Option Value} {ox : Obj} {od : Option Obj} {name : Str} {b tb : Value}
theorem pd_ifBoundB {M : Model} {args : List Value} {id : String} {Q : Option Value → Shared → Prop} (X : K.In s.heap) (I : InstAt s.heap x ox C od) (hs : findIn K (.ref C) name = some (some (.builtin id))) (hbd : ∀ self, bindSpecial (.builtin id) self = pure (.builtin id, [self]))
    (h : wpAny M A (call (.builtin id) (.ref x :: args)) (fun v => Q (some v)) E s) : wpAny M A (callSpecialIfBound? (.ref x) name args) Q E s := by
  simp only [callSpecialIfBound?, bindSpecialIfBound?]
  refine wpAny_holding (wpAny_bind (wpAny_bind (wpAny_bind (I.type.here ((looks_findIn X hs).here ?_)))))
  refine wpAny_bind (wpAny_askSetting (wpAny_ite ?_))
  have fin : wpAny M A (call (.builtin id) ([.ref x] ++ args) >>= fun v => pure (some v)) Q E s := wpAny_bind (wpAny_mono h (fun v s' h' => wpAny_pure h') fun _ _ h' => h')
  split
  · exact wpAny_bind ((Looks.of_pure (hbd (.ref x))).here (wpAny_pure (by exact fin)))
  · exact wpAny_tryCatch (wpAny_bind ((Looks.of_pure (hbd (.ref x))).here (wpAny_pure (by exact fin))))
theorem pd_ne_object {Q : Fin → Shared → Prop} (X : K.In s.heap) (I : InstAt s.heap x ox C od) (he : findIn K (.ref C) "__eq__" = some (some (.ref f))) (hf : isFn K (.ref f) = true) (hu : A.units < cLine)
    (h : wpAny (model prog w) A (call (.ref f) [.ref x, b]) (fun v s' => ∃ t, v = .bool t ∧ Q (.done (.ret (.bool (!t)))) s') E s) :
    wpAny (model prog w) A (Builtin.«object.__ne__» ⟨[.ref x, b], []⟩) Q E s := by
  obtain ⟨hp, g, d, t, os⟩ := s
  unfold Builtin.«object.__ne__»
  repeat (first
    | with_reducible refine wpAny_cRoomFor hu ?_
    | (refine wpAny_bind (m := callSpecialIfBound? (.ref x) (Str.ofString "__eq__") [b])
        (ifBound_K X I he hf (wpAny_mono h (fun r s' hr => by
          obtain ⟨b, rfl, hq⟩ := hr
          repeat (first | exact hq | exact wpAny_pure hq | exact wpAny_truthy_bool hq | (refine wpAny_bind (m := truthy (.bool _)) (wpAny_truthy_bool ?_)) | wp_step)) fun _ _ e => e)))
    | wp_step)
theorem pd_try_ne {Q : Option Value → Shared → Prop} (hu : A.units + 1 < cLine) (X : K.In s.heap) (I : InstAt s.heap x ox C od) (hn : findIn K (.ref C) "__ne__" = some (some (.builtin "object.__ne__"))) (hm : mroIn K C (.type "object") = some true)
    (he : findIn K (.ref C) "__eq__" = some (some (.ref f))) (hf : isFn K (.ref f) = true)
    (h : wpAny (model prog w) A.in1 (call (.ref f) [.ref x, b]) (fun v s' => ∃ t, v = .bool t ∧ Q (some (.bool (!t))) s') E s) : wpAny (model prog w) A (tryCompare (.ref x) "__ne__" b) Q E s := by
  unfold tryCompare
  have sub : Looks (model prog w) s.heap (isInstance (.ref x) (.type "object")) true := I.type.andThen (looks_mroIn X hm)
  refine wpAny_bind (pd_ifBoundB X I hn (fun self => PySem.F.cmp_object.ne.bind self) (wpAny_call (codeAny_call_builtin PySem.F.cmp_object.ne.plain PySem.F.cmpEntry_ne
    (@check_slot (model prog w) _ _ s "object.__ne__" "object" "__ne__" (.ref x) [b] [] _ PySem.F.cmpKind_ne PySem.F.cmpSplit_ne sub (PySem.F.cmpArgs_ne _ _)
      (pd_ne_object (A := A.in1) X I he hf hu (wpAny_mono h (fun v s' hv => ?_) fun _ _ e => e))))))
  obtain ⟨t, rfl, hq⟩ := hv
  exact ⟨t, rfl, wpAny_pure hq⟩
/-- != where the text has its own == -/
theorem pd_ne_K {Q : Value → Shared → Prop} (hu : A.units + 1 < cLine) (F : Fr h₀ L s.heap m) (X₀ : K.In h₀) (I : InstAt s.heap x ox C od) (hb : Looks (model prog w) s.heap (typeOf b) tb) (hnf : notFirst K C tb = true)
    (hn : findIn K (.ref C) "__ne__" = some (some (.builtin "object.__ne__"))) (hm : mroIn K C (.type "object") = some true)
    (he : findIn K (.ref C) "__eq__" = some (some (.ref f))) (hf : isFn K (.ref f) = true)
    (h : wpAny (model prog w) A.in1 (call (.ref f) [.ref x, b]) (fun v s' => ∃ t, v = .bool t ∧ Q (.bool (!t)) s') E s) : wpAny (model prog w) A (richCompare .NotEq (.ref x) b) Q E s := by
  have X := X₀.keeps F.keep
  have one : wpAny (model prog w) A (tryCompare (.ref x) "__ne__" b) (fun r s' => ∃ v, r = some v ∧ Q v s') E s :=
    pd_try_ne hu X I hn hm he hf (wpAny_mono h (fun v s' ⟨t, e, q⟩ => ⟨t, e, _, rfl, q⟩) fun _ _ e => e)
  unfold richCompare
  simp only [oneThing_ref]
  refine wpAny_holding (wpAny_bind (wpAny_cRoomFor (Nat.lt_of_succ_lt hu) ?_))
  rw [cmpInfo_NotEq]
  dsimp only
  refine wpAny_bind (I.type.here (wpAny_bind (hb.here ?_)))
  split
  · rename_i q
    have e : subIn K tb (.ref C) = some false := by
      rcases Bool.or_eq_true_iff.mp hnf with e | e
      · rw [beq_iff_eq.mp e] at q; simp at q
      · exact beq_iff_eq.mp e
    refine wpAny_bind ((looks_subIn X e).here ?_)
    simp only [Bool.false_eq_true, if_false]
    refine wpAny_bind (wpAny_mono one (fun r s' z => ?_) fun _ _ e => e)
    obtain ⟨v, rfl, hq⟩ := z
    exact wpAny_pure hq
  · refine wpAny_bind (wpAny_pure ?_)
    simp only [Bool.false_eq_true, if_false]
    refine wpAny_bind (wpAny_mono one (fun r s' z => ?_) fun _ _ e => e)
    obtain ⟨v, rfl, hq⟩ := z
    exact wpAny_pure hq
end
end PySem.W

set_option Elab.async false
set_option linter.all false
set_option maxRecDepth 100000
set_option maxHeartbeats 4000000
namespace PySem
open PySem.Calls
/-! ## max(l, default=d) of whole numbers -/
theorem pd_args_max_d (a d : Value) : argsOk "max" ⟨[a], [(Str.ofString "default", d)]⟩ := by unfold argsOk; kernel_rfl
section
variable {prog : Program} {w : World} {A : Around} {R : Result → Shared → Prop} {I : Addr} {fp wr : List Addr} {n : Nat} {P : Nat → Value → Prop} {St : Nat → Heap → Prop} {kw : List (Str × Value)}
theorem pd_max_turns (W : Walks prog w A.in1 I fp wr n P St) (bt : Nat → Nat → Bool) (hc : CmpOf prog w A.in1 .Gt P bt) (B : Addr) (hB : B ∉ fp) :
    ∀ (k j : Nat) (s : Shared) (v0 : Value) (c : Nat), n = j + 1 + k → St (j + 1) s.heap → P (argBest bt j) v0 → s.heap.get? B = some { cls := .type "list", dict := none, data := .seq #[v0, v0] c, slots := #[] } →
    (∀ v h' tk, P (argBest bt (n - 1)) v → (∀ b o, b ∉ wr → b ≠ B → s.heap.get? b = some o → h'.get? b = some o) → R (.ok (.ret v)) { s with heap := h', toks := tk }) →
    codeAny (model prog w) A (.builtin "max.loop" ⟨[.ref I, .none, .ref B], kw⟩) R s
  | 0, j, s, v0, c, hn, st, hp, hb, hr => by
    have hw : B ∉ wr := fun z => hB (W.sub _ z)
    refine codeAny_builtin F.entry_max_loop ?_
    rw [Around.under_plainId F.plain_max_loop _]
    refine wpAny_bind (wpAny_seqItems hb rfl ?_)
    refine wpAny_bind (wpAny_tryCatch (W.done s _ _ (by rw [hn]; exact st) fun h' tk kp => ?_))
    have hb' := kp B _ hw hb
    show wpAny _ A.in1 (updateSeq B (fun _ => #[]) >>= _) _ _ _
    refine wpAny_bind ?_
    refine wpAny_updateSeq hb' rfl (wpAny_bind (wpAny_letGo (wpAny_pure ?_)))
    exact hr v0 _ tk (by rw [hn]; exact hp) fun b o h1 h2 e => (Heap.get?_update_other _ _ (Ne.symm h2)).trans (kp b o h1 e)
  | k + 1, j, s, v0, c, hn, st, hp, hb, hr => by
    have hw : B ∉ wr := fun z => hB (W.sub _ z)
    have nm : (toString "max" ++ toString ".loop" : String) = "max.loop" := by decide
    refine codeAny_builtin F.entry_max_loop ?_
    rw [Around.under_plainId F.plain_max_loop _]
    refine wpAny_bind (wpAny_seqItems hb rfl ?_)
    refine wpAny_bind (wpAny_tryCatch (W.item (j + 1) s _ _ (by omega) st fun v h' tk pv st' kp => ?_))
    have hb' := kp B _ hw hb
    show wpAny _ A.in1 (tryCatch (holding [v, v] (richCompare .Gt v v0 >>= _)) _ >>= _) _ _ _
    refine wpAny_bind (wpAny_tryCatch (wpAny_holding (wpAny_bind (hc (j + 1) (argBest bt j) v v0 _ _ _ pv hp ?_))))
    refine wpAny_bind (wpAny_holding (wpAny_truthy_bool (wpAny_bind (wpAny_letGo (wpAny_pure ?_)))))
    cases hq : bt (j + 1) (argBest bt j)
    · simp only [Bool.false_eq_true, if_false]
      refine wpAny_bind (wpAny_letGo ?_)
      rw [nm]
      refine wpAny_pure ⟨plainId_quiet F.plain_max_loop _, pd_max_turns W bt hc B hB k (j + 1) _ v0 c (by omega) st' (by simp only [argBest, hq]; exact hp) hb' fun u h2 t2 pu k2 => ?_⟩
      exact hr u h2 t2 pu fun b o h1 h3 e => k2 b o h1 h3 (kp b o h1 e)
    · simp only [if_true]
      refine wpAny_bind ?_
      refine wpAny_updateSeq hb' rfl (wpAny_bind (wpAny_letGo ?_))
      rw [nm]
      refine wpAny_pure ⟨plainId_quiet F.plain_max_loop _, pd_max_turns W bt hc B hB k (j + 1) _ v _ (by omega) (W.frame _ _ _ st' fun b hf o e => ?_) (by simp only [argBest, hq]; exact pv) (Heap.get?_update_self _ hb' rfl) fun u h2 t2 pu k2 => ?_⟩
      · exact (Heap.get?_update_other _ _ (fun z : B = b => hB (by rw [z]; exact hf))).trans e
      · exact hr u h2 t2 pu fun b o h1 h3 e => k2 b o h1 h3 ((Heap.get?_update_other _ _ (Ne.symm h3)).trans (kp b o h1 e))
theorem pd_max_first (W : Walks prog w A.in1 I fp wr n P St) (bt : Nat → Nat → Bool) (hc : CmpOf prog w A.in1 .Gt P bt) (B : Addr) (hB : B ∉ fp) {s : Shared} {c : Nat} {d : Value} (st : St 0 s.heap)
    (hb : s.heap.get? B = some { cls := .type "list", dict := none, data := .seq #[] c, slots := #[] })
    (h0 : n = 0 → ∀ h' tk, (∀ b o, b ∉ wr → b ≠ B → s.heap.get? b = some o → h'.get? b = some o) → R (.ok (.ret d)) { s with heap := h', toks := tk })
    (hr : 0 < n → ∀ v h' tk, P (argBest bt (n - 1)) v → (∀ b o, b ∉ wr → b ≠ B → s.heap.get? b = some o → h'.get? b = some o) → R (.ok (.ret v)) { s with heap := h', toks := tk }) :
    codeAny (model prog w) A (.builtin "max.loop" ⟨[.ref I, .none, .ref B], [(Str.ofString "default", d)]⟩) R s := by
  have hw : B ∉ wr := fun z => hB (W.sub _ z)
  have nm : (toString "max" ++ toString ".loop" : String) = "max.loop" := by decide
  refine codeAny_builtin F.entry_max_loop ?_
  rw [Around.under_plainId F.plain_max_loop _]
  refine wpAny_bind (wpAny_seqItems hb rfl ?_)
  rcases Nat.eq_zero_or_pos n with z | z
  · subst z
    refine wpAny_bind (wpAny_tryCatch (W.done s _ _ st fun h' tk kp => ?_))
    refine wpAny_bind (wpAny_rule ?_)
    exact wpAny_pure (h0 rfl h' tk fun b o h1 _ e => kp b o h1 e)
  · refine wpAny_bind (wpAny_tryCatch (W.item 0 s _ _ z st fun v h' tk pv st' kp => ?_))
    have hb' := kp B _ hw hb
    show wpAny _ A.in1 (updateSeq B (fun _ => #[v, v]) >>= _) _ _ _
    refine wpAny_bind ?_
    refine wpAny_updateSeq hb' rfl ?_
    rw [nm]
    refine wpAny_pure ⟨plainId_quiet F.plain_max_loop _, pd_max_turns W bt hc B hB (n - 1) 0 _ v _ (by omega) (W.frame _ _ _ st' fun b hf o e => ?_) pv (Heap.get?_update_self _ hb' rfl) fun u h2 t2 pu k2 => ?_⟩
    · exact (Heap.get?_update_other _ _ (fun z : B = b => hB (by rw [z]; exact hf))).trans e
    · exact hr z u h2 t2 pu fun b o h1 h3 e => k2 b o h1 h3 ((Heap.get?_update_other _ _ (Ne.symm h3)).trans (kp b o h1 e))
end
section
variable {prog : Program} {w : World} {A : Around} {E : Value → Shared → Prop} {s : Shared}
theorem pd_max_walk {x d : Value} {Q : Value → Shared → Prop}
    (h : wpAny (model prog w) A.in1 (pyIter x) (fun it s₂ => ∃ I fp wr n P St bt, it = .ref I ∧ Walks prog w A.in1 I fp wr n P St ∧ St 0 s₂.heap ∧ (∀ b ∈ fp, b < s₂.heap.objs.size) ∧ CmpOf prog w A.in1 .Gt P bt ∧
      (n = 0 → ∀ h' tk, (∀ b o, b ∉ wr → s₂.heap.get? b = some o → h'.get? b = some o) → Q d { s₂ with heap := h', toks := tk }) ∧
      (0 < n → ∀ v h' tk, P (argBest bt (n - 1)) v → (∀ b o, b ∉ wr → s₂.heap.get? b = some o → h'.get? b = some o) → Q v { s₂ with heap := h', toks := tk })) E s) :
    wpAny (model prog w) A (call (.builtin "max") [x] [(Str.ofString "default", d)]) Q E s := by
  have nm : (toString "max" ++ toString ".loop" : String) = "max.loop" := by decide
  refine PyProof.Rows.kmk_tree F.kind_max F.plain_max F.entry_max (pd_args_max_d _ _) ?_
  refine wpAny_bind (wpAny_of_eq (show Builtin.Builtins.bindParams "max" ["key", "default"] 0 ⟨[], [(Str.ofString "default", d)]⟩ = pure [none, some d] from rfl) ?_)
  refine wpAny_bind (wpAny_pure (wpAny_bind (wpAny_mono h (fun it s₂ q => ?_) fun _ _ e => e)))
  obtain ⟨I, fp, wr, n, P, St, bt, rfl, W, st, hf, hc, h0, hr⟩ := q
  refine wpAny_bind (wpAny_newObj_type ?_)
  have hB : s₂.heap.objs.size ∉ fp := fun z => Nat.lt_irrefl _ (hf _ z)
  rw [nm]
  refine wpAny_pure ⟨plainId_quiet F.plain_max_loop _, pd_max_first W bt hc s₂.heap.objs.size hB (W.frame _ _ _ st fun b _ o e => Heap.get?_push_of_some _ e) (Heap.get?_push_size _ rfl) (fun z h' tk kp => ?_) fun z v h' tk pv kp => ?_⟩
  · exact h0 z h' tk fun b o hw e => kp b o hw (Nat.ne_of_lt (Heap.lt_size e)) (Heap.get?_push_of_some _ e)
  · exact hr z v h' tk pv fun b o hw e => kp b o hw (Nat.ne_of_lt (Heap.lt_size e)) (Heap.get?_push_of_some _ e)
end
end PySem

set_option Elab.async false
set_option linter.all false
set_option maxRecDepth 100000
set_option maxHeartbeats 4000000
namespace L2
open PySem PySem.Spec PyProof.Rows
/-! ## set(l) of a list of whole numbers -/
abbrev pdSet0 (w : World) : Obj := { cls := .type "set", dict := none, data := .set #[] 0 (.fresh 0 0 (!w.params.followText "set-order")) }
section
variable {P : Program} {w : World} {A : Around} {E : Value → Shared → Prop} {s : Shared}
/-- the new set is filled from a list -/
theorem pd_fill {l : Addr} {items : Array Value} {ns : List Int} (hh : A.handled = none) (hl : s.heap.IsList l items) (hi : IntsAre items.toList ns) (hb : ns.length + 1 < scanBound) :
    codeAny (model P w) A (.call (.builtin "set.__init__") ⟨[.ref s.heap.objs.size, .ref l], []⟩)
      (wants (fun r s₂ => r = .none ∧ ∃ h' tk c, s₂ = { s with heap := h', toks := tk } ∧ SetR w h' s.heap.objs.size (fun j => decide (j ∈ ns)) c ∧ c ≤ ns.length ∧ (∀ b o, s.heap.get? b = some o → h'.get? b = some o)) E)
      { s with heap := s.heap.push (pdSet0 w) } := by
  have size : items.size = ns.length := by
    have q := IntsAre.length hi
    rwa [Array.length_toList] at q
  have hS : (s.heap.push (pdSet0 w)).get? s.heap.objs.size = some (pdSet0 w) := Heap.get?_push_size _ rfl
  have hT : Shared.TypeIs { s with heap := s.heap.push (pdSet0 w) } (.ref s.heap.objs.size) "set" := ⟨_, hS, rfl⟩
  refine codeAny_call_builtin PySem.F.called_set.init.plain F.entry_set_init (check_set_init_1 hT ?_)
  obtain ⟨⟨oc, od, odt, osl⟩, hol, hc, nl, hd⟩ := id hl
  simp only at hc hd
  subst hc hd
  have hlt : l < s.heap.objs.size := Heap.lt_size hol
  have hol' : (s.heap.push (pdSet0 w)).get? l = some { cls := .type "list", dict := od, data := .seq items nl, slots := osl } := Heap.get?_push_of_some _ hol
  have f1 := PySem.F.sub_list_set
  have f2 := PySem.F.sub_list_frozenset
  have f3 : (Value.type "list" == Value.type "dict") = false := by decide
  have hl1 : (s.heap.push (pdSet0 w)).IsList l items := ⟨_, hol', rfl, nl, rfl⟩
  unfold Builtin.«set.__init__» noKeywords Builtin.Frozenset.updateFrom
  generalize hPI : pyIter = PI
  wp_walk
  subst hPI
  refine wpAny_pyIter_list hl1 (wpAny_bind (wpAny_runValue ?_))
  have hz : (s.heap.push (pdSet0 w)).objs.size = s.heap.objs.size + 1 := Heap.size_push ..
  have hh3 : A.in1.in1.handled = none := by simp [hh]
  have ne1 : l ≠ (s.heap.push (pdSet0 w)).objs.size := by rw [hz]; exact Nat.ne_of_lt (Nat.lt_succ_of_lt hlt)
  have nf : s.heap.objs.size ∉ [(s.heap.push (pdSet0 w)).objs.size, l] := by
    rw [hz]
    simp only [List.mem_cons, List.not_mem_nil, or_false, not_or]
    exact ⟨Nat.ne_of_lt (Nat.lt_succ_self _), Nat.ne_of_gt hlt⟩
  have vals : ∀ (i : Nat) (v : Value), items[i]? = some v → ∃ k t, ns[i]? = some k ∧ v = .int k t := fun i v hv => by
    have h2 : i < ns.length := by rw [← size]; exact (Array.getElem?_eq_some_iff.mp hv).1
    obtain ⟨t, e⟩ := PyProof.Rows.IntsAre.int_at hi i v (by rw [Array.getElem?_toList]; exact hv)
    exact ⟨ns[i], t, List.getElem?_eq_getElem h2, by rw [e, List.getD_eq_getElem?_getD, List.getElem?_eq_getElem h2] <;> rfl⟩
  refine set_update_ints ((Walks.list hh3 _ l ne1 items).toS) s.heap.objs.size nf ns size hb vals (items.size - 0) 0 _ (by omega) (Nat.zero_le _) ?st ⟨0, Nat.le_refl 0, ?S0⟩ fun s' c hm hc hR => ?_
  case st => exact ⟨⟨_, Heap.get?_push_size _ rfl, rfl, rfl⟩, hl1.push _⟩
  case S0 => exact setR_new_at (w := w) (Heap.get?_push_of_some _ hS)
  obtain ⟨h', g2, d2, t2, o2⟩ := s'
  obtain rfl : g2 = s.gens := hm.gens
  obtain rfl : d2 = s.drawn := hm.drawn
  obtain rfl : o2 = s.os := hm.os
  refine wpAny_pure (wpAny_pure ⟨rfl, h', t2, c, rfl, hR, by rw [← size]; exact hc, fun b o e => ?_⟩)
  have hb0 : b < s.heap.objs.size := Heap.lt_size e
  refine hm.heap b o ?_ (Heap.get?_push_of_some _ (Heap.get?_push_of_some _ e))
  rw [hz]
  simp only [List.mem_cons, List.not_mem_nil, or_false, not_or]
  exact ⟨Nat.ne_of_lt hb0, Nat.ne_of_lt (Nat.lt_succ_of_lt hb0)⟩
theorem pd_set_list {l : Addr} {items : Array Value} {ns : List Int} {Q : Value → Shared → Prop} (hh : A.handled = none) (hl : s.heap.IsList l items) (hi : IntsAre items.toList ns) (hb : ns.length + 1 < scanBound)
    (h : ∀ (h' : Heap) (tk c : Nat), SetR w h' s.heap.objs.size (fun j => decide (j ∈ ns)) c → c ≤ ns.length → (∀ b o, s.heap.get? b = some o → h'.get? b = some o) → Q (.ref s.heap.objs.size) { s with heap := h', toks := tk }) :
    wpAny (model P w) A (call (.type "set") [.ref l]) Q E s := by
  obtain ⟨c, tl, hmro⟩ := PySem.F.called_set.mro
  have f1 := PySem.F.called_set.made
  have f2 := PySem.F.called_set.sub
  refine wpAny_call (codeAny_of_tree ?_)
  show wpAny _ _ (callAny (.type "set") _) _ _ _
  refine wpAny_pure ⟨Code.quiet_builtin _ (by decide +kernel), codeAny_builtin PySem.F.entry_type_call ?_⟩
  rw [Around.under_plain (weight_type_call_type "set" [.ref l] []) rfl]
  have f3 := PySem.F.called_set.notType
  have f4 := PySem.F.called_set.canCreate
  have f5 := PySem.F.typeCall_set_1 (.ref l)
  repeat (any_goals (first | assumption | wp_step))
  refine codeAny_mono (code_set_led1 (.ref l) (E := E) (Q₁ := fun obj s₁ => obj = .ref s.heap.objs.size ∧ s₁ = { s with heap := s.heap.push (pdSet0 w) }) ⟨rfl, rfl⟩) fun r s₁ hr => ?_
  match r, hr with
  | .error e, hr => exact hr
  | .ok .next, hr => exact hr.elim
  | .ok .brk, hr => exact hr.elim
  | .ok .cont, hr => exact hr.elim
  | .ok (.ret obj), ⟨e1, e2⟩ =>
    subst e1 e2
    have hS : (s.heap.push (pdSet0 w)).get? s.heap.objs.size = some (pdSet0 w) := Heap.get?_push_size _ rfl
    have hT : Shared.TypeIs { s with heap := s.heap.push (pdSet0 w) } (.ref s.heap.objs.size) "set" := ⟨_, hS, rfl⟩
    have f6 := PySem.F.called_set.init.lookup
    have f7 := PySem.F.called_set.init.bind (.ref s.heap.objs.size)
    repeat (any_goals (first | assumption | wp_step))
    refine codeAny_mono (pd_fill (E := E) (A := A.in1) (by simp [hh]) hl hi hb) fun r₂ s₂ hr₂ => ?_
    match r₂, hr₂ with
    | .error e, hr₂ => exact hr₂
    | .ok .next, hr₂ => exact hr₂.elim
    | .ok .brk, hr₂ => exact hr₂.elim
    | .ok .cont, hr₂ => exact hr₂.elim
    | .ok (.ret v), ⟨e1, h', tk, c2, e2, hR, hc, kp⟩ =>
      subst e1 e2
      dsimp only
      repeat (any_goals (first | assumption | wp_step))
      exact h h' tk c2 hR hc kp
end
end L2

set_option Elab.async false
set_option linter.all false
set_option maxRecDepth 100000
set_option maxHeartbeats 4000000
namespace L2
open PySem PySem.Spec PyProof.Rows
section
variable {prog : Program} {w : World} {A : Around} {E : Value → Shared → Prop} {s : Shared} {l : Addr} {its : List Value} {ns : List Int} {d : Value} {Q : Value → Shared → Prop}
theorem pd_max_raw (hh : A.handled = none) (hl : s.heap.IsList l its.toArray) (hi : IntsAre its ns) (h0 : ns = [] → ∀ h' tk, (∀ b o, s.heap.get? b = some o → h'.get? b = some o) → Q d { s with heap := h', toks := tk })
    (h : ∀ h' tk M t', (∀ b o, s.heap.get? b = some o → h'.get? b = some o) → M ∈ ns → (∀ a, a ∈ ns → a ≤ M) → Q (.int M t') { s with heap := h', toks := tk }) : wpAny (model prog w) A (call (.builtin "max") [.ref l] [(Str.ofString "default", d)]) Q E s := by
  obtain ⟨xs, e⟩ := hi.allInts.items
  have hn : numsOf (intItems xs).toList = ns := by rw [← e]; exact hi.numsOf
  rw [nums_intItems] at hn
  subst hn
  rw [e] at hl
  refine PySem.pd_max_walk (iter_intList hl fun s₂ e2 st hfp ne => ?_)
  subst e2
  refine ⟨_, _, _, _, _, _, _, rfl, Walks.list (A := A.in1) hh _ l ne (intItems xs), st, hfp, CmpOf.ints_gt (numAt xs) (fun _ _ => intItems_at), fun z h' tk kp => ?_, fun z v h' tk hP kp => ?_⟩
  · have hz : xs.size = 0 := by simpa [intItems] using z
    refine h0 (by
      have : xs.toList.length = 0 := by rw [Array.length_toList]; exact hz
      rw [List.eq_nil_of_length_eq_zero this]; rfl) h' tk (old_kept kp)
  · have hz : 0 < xs.size := by simpa [intItems] using z
    obtain ⟨t, rfl⟩ := intItems_at hP
    obtain ⟨h1, h2⟩ := argBest_gt (numAt xs) ((intItems xs).size - 1)
    have hs : (intItems xs).size = xs.size := by simp [intItems]
    rw [hs] at h1 h2
    refine h h' tk _ t (old_kept kp) ?_ fun a ha => ?_
    · rw [numAt_eq, hs]; exact PySem.getD_mem (by rw [List.length_map, Array.length_toList]; omega)
    · obtain ⟨j, hj, rfl⟩ := mem_getD ha
      rw [List.length_map, Array.length_toList] at hj
      rw [← numAt_eq, hs]; exact h2 j (by omega)
end
section
variable {X : Cx}
def rMaxDf (K : PySem.W.Frag) : List V → List V → Hp → VK → Prop := fun vs zs H Q => ∃ (a : Addr) (ns : List Int) (d : Int), vs = [V.ref a] ∧ zs = [V.int d] ∧ SqL K H a (ns.map V.int) ∧ (ns = [] → Q (.int d) H) ∧ ∀ m, m ∈ ns → (∀ y, y ∈ ns → y ≤ m) → Q (.int m) H
theorem cr_maxDf (hc : X.calm = true) : CallRK X (.builtin "max") ["default"] (rMaxDf X.K) := by
  intro pins s σ H xs zs us ws Q I r rz h
  obtain ⟨a, ns, d, rfl, rfl, hs, q0, q⟩ := h
  obtain ⟨its, rv, hl, _⟩ := I.list hs
  rw [Vals.ref1 r]
  obtain ⟨u, rfl, ru⟩ := rz.one
  obtain ⟨t, rfl⟩ := ru
  exact pd_max_raw (I.ok.hd hc) hl.isList rv.ints (fun z h' tk kp => ⟨.int d, H, I.kept kp, ⟨_, rfl⟩, q0 z⟩) fun h' tk m t' kp h1 h2 => ⟨.int _, H, I.kept kp, ⟨_, rfl⟩, q m h1 h2⟩
theorem nodup_few : ∀ {xs ys : List Int}, xs.Nodup → (∀ k, k ∈ xs → k ∈ ys) → xs.length ≤ ys.length
  | [], _, _, _ => Nat.zero_le _
  | x :: xs, ys, h, hs => by
    rw [List.nodup_cons] at h
    have := nodup_few (xs := xs) (ys := ys.erase x) h.2 fun k hk => (List.mem_erase_of_ne (fun z => h.1 (by rw [← z]; exact hk))).mpr (hs k (List.mem_cons_of_mem _ hk))
    have hx := hs x List.mem_cons_self
    rw [List.length_erase_of_mem hx] at this
    have hp := List.length_pos_of_mem hx
    show xs.length + 1 ≤ _
    omega
theorem setR_few {w : World} {h : Heap} {a : Addr} {S : Int → Bool} {n : Nat} {ds : List Int} (R : SetR w h a S n) (hs : ∀ k, S k = true → k ∈ ds) : n ≤ ds.length := by
  obtain ⟨o, es, ep, t, h1, h2, h3, h4, h5, h6, h7, h8, h9, _⟩ := R
  have := nodup_few h5 fun k hk => hs k ((h6 k).mpr hk)
  rw [List.length_map, Array.length_toList] at this
  omega
/-- set(l) -/
def rSetLi (K : PySem.W.Frag) (w : World) : List V → Hp → VK → Prop := fun vs H Q => ∃ (a : Addr) (ns : List Int), vs = [V.ref a] ∧ SqL K H a (ns.map V.int) ∧ ns.length < 4000 ∧ (∃ ds : List Int, ds.length < 64 ∧ ∀ k, k ∈ ns → k ∈ ds) ∧ ∀ p c, H p = none → c < 64 → Q (.ref p) (upd H p (SetO w p (fun j => decide (j ∈ ns)) c))
theorem cr_setL (hc : X.calm = true) : CallR X (.type "set") (rSetLi X.K X.w) := by
  intro pins s σ H xs us Q I r h
  obtain ⟨a, ns, rfl, hs, hn, ⟨ds, hd1, hd2⟩, q⟩ := h
  obtain ⟨its, rv, hl, _⟩ := I.list hs
  rw [Vals.ref1 r]
  refine pd_set_list (I.ok.hd hc) hl.isList (by simpa using rv.ints) (by unfold scanBound; omega) fun h' tk c R hcn kp => ?_
  exact ⟨.ref _, upd H s.heap.objs.size (SetO X.w s.heap.objs.size (fun j => decide (j ∈ ns)) c), I.laid (t' := tk) (fun b u e => kp b u e) (Nat.le_refl _) (setO_new R), rfl, q _ c (I.hok.fresh (Nat.le_refl _)) (Nat.lt_of_le_of_lt (setR_few R fun k hk => hd2 k (of_decide_eq_true hk)) hd1)⟩
theorem pd_tup_mul0 (l : Addr) (items : Array Value) (n : Nat) (dd : Option Addr) (sl : Array (Option Value)) (u : Tok) (ne : items.isEmpty = false) :
    Meets (Builtin.«tuple.__mul__» ⟨[.ref l, .int 0 u], []⟩) (fun _ R s => s.heap.get? l = some { cls := .type "tuple", dict := dd, data := .seq items n, slots := sl } ∧
      R (.ok (.ret (Value.ref s.heap.objs.size))) { s with heap := s.heap.push { cls := Value.type "tuple", data := Data.seq #[] }, toks := s.toks }) :=
  Meets.of_wp fun prg wd Ar R' sh hh => by
    obtain ⟨hp, g, d, tk, os⟩ := sh
    obtain ⟨h1, h2⟩ := hh
    have ix := AutoSeq1.idx_int
    have c1 : (items.isEmpty || (0 : Int) == 1) = false := by rw [ne]; rfl
    have c2 : (decide ((0 : Int) ≤ 0) || items.isEmpty) = true := rfl
    wp_walk using AutoSeq1.wpAny_loadPart' h1
    repeat (first
      | (refine wpAny_ite_false (decide_eq_false (by rw [c1]; exact Bool.false_ne_true)) ?_; wp_walk using AutoSeq1.wpAny_loadPart' h1)
      | (refine wpAny_ite_true (decide_eq_true (by rw [c2])) ?_; wp_walk using AutoSeq1.wpAny_loadPart' h1)
      | (refine wpAny_ite_false (decide_eq_false (by decide)) ?_; wp_walk using AutoSeq1.wpAny_loadPart' h1))
    exact ⟨_, rfl, h2⟩
theorem op_rep0 : OpR X (binaryOp .Mult) (fun x y H Q => ∃ l xs, x = .ref l ∧ y = .int 0 ∧ SqT X.K H l xs ∧ xs ≠ [] ∧ ∀ p, H p = none → Q (.ref p) (upd H p (.tup []))) := by
  intro pins s σ H x y v u Q I rx ry h
  obtain ⟨l, xs, rfl, rfl, hT, hn, q⟩ := h
  cases rx
  obtain ⟨t, rfl⟩ := ry
  obtain ⟨its, r, ⟨⟨cls, dd, data, sl⟩, ho, hc, n, hd⟩, hs⟩ := I.tuple hT
  simp only at hc hd
  subst hc hd
  have ne : its.toArray.isEmpty = false := by
    cases its with
    | nil => exact absurd (List.length_eq_zero_iff.mp r.length) hn
    | cons a b => rfl
  refine wpAny_binaryOp_repeat_ref (T := "tuple") (U := "int") (by decide) ⟨_, ho, rfl⟩ (fun s' => typeIs_int s' 0 t) noFill_tuple_mul PySem.F.fills_int_mul PySem.F.slot_int_rmul repeat_tuple PySem.F.slot_int_index.lookup ?_
  refine call_meets PySem.F.slot_int_rmul (typeIs_int s 0 t) PySem.F.entry_int_rmul (PySem.F.args_int_rmul_2 _ _) (int_rmul_tuple 0 t l its.toArray n dd sl) ⟨ho, rfl, ⟨_, ho, rfl⟩, ?_⟩
  refine call_meets PySem.F.slot_tuple_mul ⟨_, ho, rfl⟩ PySem.F.entry_tuple_mul (PySem.F.args_tuple_mul_2 _ _) (pd_tup_mul0 l its.toArray n dd sl t ne) ⟨ho, ?_⟩
  refine ⟨.ref s.heap.objs.size, _, I.laid (t' := s.toks) (o := .tup []) (fun b ob q => Heap.get?_push_of_some _ q) (Nat.le_refl _) ⟨Nat.zero_le _, _, .nil, IsTup.new _ _⟩, rfl, q _ (I.hok.fresh (Nat.le_refl _))⟩
end
end L2

set_option Elab.async false
set_option linter.all false
set_option maxRecDepth 100000
namespace PD
open PySem PySem.Spec PyProof.Rows L2
/-! ## the text's functions within defs -/
structure CloD where
  f : Str
  name : Str
  qual : Str
  params : Arguments
  body : FuncBody
  scope : Scope
  ps : List Str
  fr : List Str
def lamsE : Nat → Expr → List (Arguments × Expr × Scope)
  | n + 1, .Lambda a b s _ => [(a, b, s)]
  | n + 1, .Call f as ks _ => as.flatMap (lamsE n)
  | n + 1, .BoolOp _ es _ => es.flatMap (lamsE n)
  | n + 1, .ListComp e _ _ _ => lamsE n e
  | _, _ => []
def lamsS : Stmt → List (Arguments × Expr × Scope)
  | .Return (some e) _ => lamsE 50 e
  | _ => []
instance : Inhabited (Arguments × Expr × Scope) := ⟨⟨[], [], none, [], [], none, []⟩, default, default⟩
def lamOf (body : List Stmt) (j : Nat) : Arguments × Expr × Scope := (body.flatMap lamsS).getD j default
def lamD (f qual : Str) (body : List Stmt) (j : Nat) (ps fr : List Str) : CloD := ⟨f, "<lambda>", qual, (lamOf body j).1, .expr (lamOf body j).2.1, (lamOf body j).2.2, ps, fr⟩
/-! ## forms that are the same, of few kinds -/
mutual
def eqX : Expr → Expr → Bool
  | .Constant c k p, .Constant c' k' p' => decide (c = c') && decide (k = k') && decide (p = p')
  | .Name x p, .Name x' p' => decide (x = x') && decide (p = p')
  | .Attribute e a p, .Attribute e' a' p' => eqX e e' && decide (a = a') && decide (p = p')
  | .Call f as [] p, .Call f' as' [] p' => eqX f f' && eqXs as as' && decide (p = p')
  | .Compare a [o] [b] p, .Compare a' [o'] [b'] p' => eqX a a' && decide (o = o') && eqX b b' && decide (p = p')
  | _, _ => false
def eqXs : List Expr → List Expr → Bool
  | [], [] => true
  | e :: es, e' :: es' => eqX e e' && eqXs es es'
  | _, _ => false
end
mutual
theorem eqX_ok : ∀ {e e' : Expr}, eqX e e' = true → e = e' := fun {e e'} h => by
  unfold eqX at h
  split at h
  · simp only [Bool.and_eq_true, decide_eq_true_eq] at h
    obtain ⟨⟨rfl, rfl⟩, rfl⟩ := h; rfl
  · simp only [Bool.and_eq_true, decide_eq_true_eq] at h
    obtain ⟨rfl, rfl⟩ := h; rfl
  · simp only [Bool.and_eq_true, decide_eq_true_eq] at h
    obtain ⟨⟨h1, rfl⟩, rfl⟩ := h
    rw [eqX_ok h1]
  · simp only [Bool.and_eq_true, decide_eq_true_eq] at h
    obtain ⟨⟨h1, h2⟩, rfl⟩ := h
    rw [eqX_ok h1, eqXs_ok h2]
  · simp only [Bool.and_eq_true, decide_eq_true_eq] at h
    obtain ⟨⟨⟨h1, rfl⟩, h2⟩, rfl⟩ := h
    rw [eqX_ok h1, eqX_ok h2]
  · cases h
theorem eqXs_ok : ∀ {e e' : List Expr}, eqXs e e' = true → e = e'
  | [], [], _ => rfl
  | [], _ :: _, h => by unfold eqXs at h; cases h
  | _ :: _, [], h => by unfold eqXs at h; cases h
  | e :: es, e' :: es', h => by
    unfold eqXs at h
    simp only [Bool.and_eq_true] at h
    rw [eqX_ok h.1, eqXs_ok h.2]
end
def eqArgL : List Arg → List Arg → Bool
  | [], [] => true
  | ⟨a, none, p⟩ :: as, ⟨a', none, p'⟩ :: as' => decide (a = a') && decide (p = p') && eqArgL as as'
  | _, _ => false
theorem eqArgL_ok : ∀ {as as' : List Arg}, eqArgL as as' = true → as = as'
  | [], [], _ => rfl
  | [], _ :: _, h => by unfold eqArgL at h; cases h
  | ⟨a, none, p⟩ :: as, ⟨a', none, p'⟩ :: as', h => by
    unfold eqArgL at h
    simp only [Bool.and_eq_true, decide_eq_true_eq] at h
    obtain ⟨⟨rfl, rfl⟩, h3⟩ := h
    rw [eqArgL_ok h3]
  | ⟨_, some _, _⟩ :: _, _, h => by simp [eqArgL] at h
  | ⟨_, none, _⟩ :: _, [], h => by simp [eqArgL] at h
  | ⟨_, none, _⟩ :: _, ⟨_, some _, _⟩ :: _, h => by simp [eqArgL] at h
/-- plain parameters, the same -/
def eqArgs : Arguments → Arguments → Bool
  | ⟨[], as, none, [], [], none, []⟩, ⟨[], as', none, [], [], none, []⟩ => eqArgL as as'
  | _, _ => false
theorem eqArgs_ok {a b : Arguments} (h : eqArgs a b = true) : a = b ∧ a.defaults = [] ∧ a.kw_defaults = [] := by
  unfold eqArgs at h
  split at h
  · rw [eqArgL_ok h]; exact ⟨rfl, rfl, rfl⟩
  · cases h
end PD

set_option Elab.async false
set_option linter.all false
namespace PD
open PySem PySem.Spec PyProof.Rows L2
def topP (i : Nat) : Stmt := PySem.Challenge.pw_nothingnew_k29_idle_and_within.main.body.getD i (.Pass ⟨0, 0, 0, 0⟩)
def cloL : List CloD := [lamD "has_within.lam0" "has_within.<locals>.<lambda>" (defBody (topP 12)) 0 ["filling"] []]
def tfL : List (He.Defn × (Nat → Nat → Str)) := [(("has_within", none), fun _ _ => "has_within.<locals>.<lambda>")]
end PD

set_option Elab.async false
set_option linter.all false
set_option maxRecDepth 100000
set_option maxHeartbeats 4000000
namespace PD
open PySem PySem.Spec PyProof.Rows L2

/-! ## abstract values: pure data as trees, what is changed by its place -/
inductive W where
  | non
  | bl (b : Bool)
  | int (i : Int)
  | str (x : Str)
  | tup (xs : List W)
  | lst (xs : List W)
  | dct (ks : List Key) (ws : List W)
  | ref (a : Addr)
  | exc (c f : Str) (w : W)
  | ins (c : Str) (fs : List Str) (ws : List W)
  | fnv (f : Str)

/-- a function made within a def: its text's name, what it captured, its object, cells, code object, the captured values -/
structure CloR where
  f : Str
  cs : List W
  a : Addr
  cl : List (Str × Addr)
  c : Addr
  vs : List V
/-- what stands at a place that is changed; functions made within a def stand there too, unchanged -/
inductive SO where
  | lst (xs : List W)
  | dct (ks : List Key) (ws : List W)
  | ins (c : Str) (fs : List Str) (ws : List W)
  | clo (r : CloR)
def SO.nclo : SO → Bool
  | .clo _ => false
  | _ => true
def fdOf (d : CloD) (cl : List (Str × Addr)) (cd pm doc ctv : Value) : FuncData :=
  { name := d.name, qualname := d.qual, params := d.params, body := d.body, scope := d.scope, globals := mainGlobals, closure := cl, defaults := .none, kwdefaults := .none, doc := doc, pyModule := pm, annotations := none, code := cd, closureTuple := ctv, builtins := builtinsNs }
/-- the object at a is that function -/
def CloO (a : Addr) (d : CloD) (cl : List (Str × Addr)) (c : Addr) : HO := .ext fun h => ∃ (od : Option Addr) (sl : Array (Option Value)) (doc pm ctv : Value), h.get? a = some (⟨.type "function", od, .func (fdOf d cl (.ref c) pm doc ctv), sl⟩ : Obj)
/-- a cell that nobody stores to -/
def CelO (c : Addr) (o : Obj) : HO := .ext fun h => h.get? c = some o
def findC (f : Str) : Option CloD := cloL.find? fun d => d.f == f
/-- the tables of code objects -/
def tabsK (K : PySem.W.Frag) : List NdefX.NTab := tfL.map fun p => ((He.cT K p.1).2, p.2)
abbrev Sto := Addr → Option SO
def Sto.set (S : Sto) (a : Addr) (o : SO) : Sto := fun b => if b = a then some o else S b
def Sto.del (S : Sto) (a : Addr) : Sto := fun b => if b = a then none else S b
theorem Sto.set_same {S : Sto} {a : Addr} {o : SO} : S.set a o a = some o := if_pos rfl
theorem Sto.set_ne {S : Sto} {a b : Addr} {o : SO} (h : b ≠ a) : S.set a o b = S b := if_neg h
theorem Sto.del_same {S : Sto} {a : Addr} : S.del a a = none := if_pos rfl
theorem Sto.del_ne {S : Sto} {a b : Addr} (h : b ≠ a) : S.del a b = S b := if_neg h
theorem Sto.set_set {S : Sto} {a : Addr} {o u : SO} : (S.set a o).set a u = S.set a u := by
  funext b; unfold Sto.set; split <;> rfl
theorem Sto.del_set {S : Sto} {a : Addr} {o : SO} (h : S a = none) : (S.set a o).del a = S := by
  funext b; unfold Sto.set Sto.del; split
  · rename_i e; rw [e, h]
  · rename_i e; exact if_neg e
theorem Sto.set_comm {S : Sto} {a b : Addr} {o u : SO} (h : a ≠ b) : (S.set a o).set b u = (S.set b u).set a o := by
  funext c; unfold Sto.set
  by_cases h1 : c = a
  · subst h1; rw [if_neg h, if_pos rfl, if_pos rfl]
  · rw [if_neg h1, if_neg h1]
theorem Sto.set_del {S : Sto} {a b : Addr} {o : SO} (h : a ≠ b) : (S.set a o).del b = (S.del b).set a o := by
  funext c; unfold Sto.set Sto.del
  by_cases h1 : c = a
  · subst h1
    show (if c = b then none else (if c = c then some o else S c)) = if c = c then some o else (if c = b then none else S c)
    rw [if_neg h, if_pos rfl, if_pos rfl]
  · show (if c = b then none else (if c = a then some o else S c)) = if c = a then some o else (if c = b then none else S c)
    rw [if_neg h1, if_neg h1]
theorem Sto.set_self {S : Sto} {a : Addr} {o : SO} (h : S a = some o) : S.set a o = S := by
  funext b; unfold Sto.set; split
  · rename_i e; rw [e, h]
  · rfl

section
variable (K : PySem.W.Frag) (H : Hp) (S : Sto)
/-- a tuple, a list that is read and never changed -/
def RdT (a : Addr) (vs : List V) : Prop := (Rd H a (.tup vs) ∧ S a = none) ∨
    ∃ (o : Obj) (its : Array Value) (n : Nat), K.lookup a = some o ∧ o.cls = .type "tuple" ∧ o.data = .seq its n ∧ its.size ≤ sizeLine ∧ Vals vs its.toList
def RdL (a : Addr) (vs : List V) : Prop := (Rd H a (.lst vs) ∧ S a = none) ∨
    ∃ (o : Obj) (its : Array Value) (n : Nat), K.lookup a = some o ∧ o.cls = .type "list" ∧ o.dict = none ∧ o.data = .seq its n ∧ its.size ≤ sizeLine ∧ Vals vs its.toList
mutual
def RW : W → V → Prop
  | .non, v => v = .non
  | .bl b, v => v = .bl b
  | .int i, v => v = .int i
  | .str x, v => v = .str x
  | .tup xs, v => ∃ a vs, v = .ref a ∧ RdT K H S a vs ∧ RWs xs vs
  | .lst xs, v => ∃ a vs, v = .ref a ∧ RdL K H S a vs ∧ RWs xs vs
  | .dct ks ws, v => ∃ a kvs, v = .ref a ∧ S a = none ∧ Rd H a (.dK kvs) ∧ kvs.map (·.1) = ks ∧ RWs ws (kvs.map (·.2))
  | .ref a, v => v = .ref a
  | .exc c f w, v => ExcX K c f ∧ ∃ a d y, v = .ref a ∧ S a = none ∧ S d = none ∧ Rd H a (exk a (He.ga K c) d) ∧ H d = some (.xd [(f, y)]) ∧ RW w y
  | .fnv f, v => v = .ref (He.ga K f)
  | .ins c fs ws, v => ∃ a dx kvs, v = .ref a ∧ S a = none ∧ H a = some (.ins (He.ga K c) dx kvs) ∧ kvs.map (·.1) = fs ∧ RWs ws (kvs.map (·.2))
def RWs : List W → List V → Prop
  | [], vs => vs = []
  | w :: ws, vs => ∃ v r, vs = v :: r ∧ RW w v ∧ RWs ws r
end
/-- what a function captured: cells that nobody stores to -/
structure CelsH (d : CloD) (r : CloR) : Prop where
  all : ∀ y c, r.cl.lookup y = some c → ∃ o, H c = some (CelO c o) ∧ S c = none ∧ ∃ v, o.data = .cell v
  inj : ∀ x y c, r.cl.lookup x = some c → r.cl.lookup y = some c → x = y
  has : ∀ (i : Nat) (y : Str), d.fr[i]? = some y → ∃ c o, r.cl.lookup y = some c ∧ H c = some (CelO c o) ∧ ∀ v, r.vs[i]? = some v → ∃ u, L2.RelV v u ∧ o.data = .cell (some u)
def RO : SO → HO → Prop
  | .lst xs, o => ∃ vs, o = .lst vs ∧ RWs K H S xs vs
  | .dct ks ws, o => ∃ kvs, o = .dK kvs ∧ kvs.map (·.1) = ks ∧ RWs K H S ws (kvs.map (·.2))
  | .ins c fs ws, o => ∃ dx kvs, o = .ins (He.ga K c) dx kvs ∧ kvs.map (·.1) = fs ∧ RWs K H S ws (kvs.map (·.2))
  | .clo r, o => ∃ d, findC r.f = some d ∧ o = CloO r.a d r.cl r.c ∧ (H r.c = some (LamX.CodeO r.c d.qual) ∧ S r.c = none) ∧ RWs K H S r.cs r.vs ∧ r.vs.length = d.fr.length ∧ CelsH H S d r
/-- the changed places are tracked as they are said -/
structure LinkS : Prop where
  at_ : ∀ a o, S a = some o → ∃ u, H a = some u ∧ RO K H S o u
  tab : NdefX.TabsN (tabsK K) H
  sa : ∀ a r, S a = some (.clo r) → r.a = a
end
/-- what may be locked -/
def Lck : HO → Prop
  | .lst _ => True
  | .dK _ => True
  | .dT _ => True
  | .set _ _ => True
  | .ext _ => False
  | _ => False
/-- as it was, or locked from now on; a table may grow -/
def Stays (H' : Hp) (b : Addr) (o : HO) : Prop := H' b = some o ∨ (Lck o ∧ ∃ ob, H' b = some (.frz ob o)) ∨ ∃ ps more, o = .tbl ps ∧ H' b = some (.tbl (ps ++ more))
/-- what is not among the changed places stays; functions stay -/
structure Ext (H : Hp) (S : Sto) (H' : Hp) (S' : Sto) : Prop where
  st : ∀ b o, H b = some o → S b = none → Stays H' b o ∧ S' b = none
  clo : ∀ b r, S b = some (.clo r) → S' b = some (.clo r) ∧ ∀ o, H b = some o → H' b = some o
  no : ∀ b r, S' b = some (.clo r) → S b = some (.clo r)
theorem Stays.plain {H' : Hp} {b : Addr} {o : HO} (h : Stays H' b o) (h1 : ¬ Lck o) (h2 : ∀ ps, o ≠ .tbl ps) : H' b = some o := by
  rcases h with h | ⟨h, _⟩ | ⟨ps, _, h, _⟩
  · exact h
  · exact (h1 h).elim
  · exact (h2 ps h).elim
theorem Ext.refl {H : Hp} {S : Sto} : Ext H S H S := ⟨fun _ _ h1 h2 => ⟨.inl h1, h2⟩, fun _ _ h => ⟨h, fun _ h => h⟩, fun _ _ h => h⟩
theorem Ext.trans {H H1 H2 : Hp} {S S1 S2 : Sto} (a : Ext H S H1 S1) (b : Ext H1 S1 H2 S2) : Ext H S H2 S2 := ⟨fun c o h1 h2 => by
  obtain ⟨h3, h4⟩ := a.st c o h1 h2
  rcases h3 with h3 | ⟨mu, ob, h3⟩ | ⟨ps, more, rfl, h3⟩
  · exact b.st c o h3 h4
  · obtain ⟨h5, h6⟩ := b.st c _ h3 h4
    exact ⟨.inr (.inl ⟨mu, ob, h5.plain (fun z => z.elim) (fun _ z => nomatch z)⟩), h6⟩
  · obtain ⟨h5, h6⟩ := b.st c _ h3 h4
    refine ⟨.inr (.inr ?_), h6⟩
    rcases h5 with h5 | ⟨h5, _⟩ | ⟨ps2, more2, e, h5⟩
    · exact ⟨ps, more, rfl, h5⟩
    · exact h5.elim
    · cases e
      exact ⟨ps, more ++ more2, rfl, by rw [h5, Array.append_assoc]⟩, fun c r h => by
  obtain ⟨h1, h2⟩ := a.clo c r h
  obtain ⟨h3, h4⟩ := b.clo c r h1
  exact ⟨h3, fun o ho => h4 o (h2 o ho)⟩, fun c r h => a.no c r (b.no c r h)⟩

section
variable {K : PySem.W.Frag} {H H' : Hp} {S S' : Sto}
/-- .. of data alone -/
def DatO (b : Addr) (o : HO) : Prop := (∀ φ, o ≠ .ext φ) ∨ ∃ C d, o = exk b C d
def ExtD (H : Hp) (S : Sto) (H' : Hp) (S' : Sto) : Prop := ∀ b o, H b = some o → DatO b o → S b = none → Stays H' b o ∧ S' b = none
theorem Ext.d (e : Ext H S H' S') : ExtD H S H' S' := fun b o h _ n => e.st b o h n
/-- an address that reads as a list or tuple and is not changed: not a changed place afterwards either -/
theorem exk_tbl {a C d : Addr} {ps : Array Value} (z : exk a C d = .tbl ps) : False := by unfold exk at z; cases z
theorem rd_extD {a : Addr} {u : HO} (e : ExtD H S H' S') (h : Rd H a u) (n : S a = none) (nt : ∀ ps, u ≠ .tbl ps := by intro _ z; first | (cases z; done) | exact exk_tbl z) (ne : DatO a u := by exact .inl fun _ z => nomatch z) : Rd H' a u ∧ S' a = none := by
  rcases h with h | ⟨o, h⟩
  · obtain ⟨h1, h2⟩ := e a _ h ne n
    rcases h1 with h1 | ⟨_, ob, h1⟩ | ⟨ps, more, z, _⟩
    · exact ⟨.inl h1, h2⟩
    · exact ⟨.inr ⟨ob, h1⟩, h2⟩
    · exact (nt ps z).elim
  · obtain ⟨h1, h2⟩ := e a _ h (.inl fun _ z => nomatch z) n
    exact ⟨.inr ⟨o, h1.plain (fun z => z.elim) (fun _ z => nomatch z)⟩, h2⟩
theorem RdT.sq {a : Addr} {vs : List V} (h : RdT K H S a vs) : SqT K H a vs := by
  rcases h with h | h
  · exact .inl h.1
  · exact .inr h
theorem RdL.sq {a : Addr} {vs : List V} (h : RdL K H S a vs) : SqL K H a vs := by
  rcases h with h | h
  · exact .inl h.1
  · exact .inr h
theorem RdT.extD {a : Addr} {vs : List V} (e : ExtD H S H' S') (h : RdT K H S a vs) : RdT K H' S' a vs := by
  rcases h with h | h
  · exact .inl (rd_extD e h.1 h.2)
  · exact .inr h
theorem RdL.extD {a : Addr} {vs : List V} (e : ExtD H S H' S') (h : RdL K H S a vs) : RdL K H' S' a vs := by
  rcases h with h | h
  · exact .inl (rd_extD e h.1 h.2)
  · exact .inr h
mutual
theorem RW.extD (e : ExtD H S H' S') : ∀ (w : W) (v : V), RW K H S w v → RW K H' S' w v
  | .non, v, h => by unfold RW at h ⊢; exact h
  | .bl b, v, h => by unfold RW at h ⊢; exact h
  | .int i, v, h => by unfold RW at h ⊢; exact h
  | .str x, v, h => by unfold RW at h ⊢; exact h
  | .ref a, v, h => by unfold RW at h ⊢; exact h
  | .exc c f w, v, h => by
    unfold RW at h ⊢
    obtain ⟨T, a, d, y, h1, h2, h3, h4, h5, h6⟩ := h
    obtain ⟨k1, k2⟩ := rd_extD e h4 h2 (fun _ z => exk_tbl z) (.inr ⟨_, _, rfl⟩)
    obtain ⟨k3, k4⟩ := e d _ h5 (.inl fun _ z => nomatch z) h3
    exact ⟨T, a, d, y, h1, k2, k4, k1, k3.plain (fun z => z.elim) (fun _ z => nomatch z), RW.extD e w y h6⟩
  | .tup xs, v, h => by
    unfold RW at h ⊢
    obtain ⟨a, vs, h1, h2, h4⟩ := h
    exact ⟨a, vs, h1, h2.extD e, RWs.extD e xs vs h4⟩
  | .lst xs, v, h => by
    unfold RW at h ⊢
    obtain ⟨a, vs, h1, h2, h4⟩ := h
    exact ⟨a, vs, h1, h2.extD e, RWs.extD e xs vs h4⟩
  | .dct ks ws, v, h => by
    unfold RW at h ⊢
    obtain ⟨a, kvs, h1, h2, h3, h4, h5⟩ := h
    obtain ⟨h6, h7⟩ := rd_extD e h3 h2
    exact ⟨a, kvs, h1, h7, h6, h4, RWs.extD e ws _ h5⟩
  | .fnv f, v, h => by unfold RW at h ⊢; exact h
  | .ins c fs ws, v, h => by
    unfold RW at h ⊢
    obtain ⟨a, dx, kvs, h1, h2, h3, h4, h5⟩ := h
    obtain ⟨h6, h7⟩ := e a _ h3 (.inl fun _ z => nomatch z) h2
    exact ⟨a, dx, kvs, h1, h7, h6.plain (fun z => z.elim) (fun _ z => nomatch z), h4, RWs.extD e ws _ h5⟩
theorem RWs.extD (e : ExtD H S H' S') : ∀ (ws : List W) (vs : List V), RWs K H S ws vs → RWs K H' S' ws vs
  | [], vs, h => by unfold RWs at h ⊢; exact h
  | w :: ws, vs, h => by
    unfold RWs at h ⊢
    obtain ⟨v, r, h1, h2, h3⟩ := h
    exact ⟨v, r, h1, RW.extD e w v h2, RWs.extD e ws r h3⟩
end
theorem rd_ext {a : Addr} {u : HO} (e : Ext H S H' S') (h : Rd H a u) (n : S a = none) (nt : ∀ ps, u ≠ .tbl ps := by intro _ z; first | (cases z; done) | exact exk_tbl z) (ne : DatO a u := by exact .inl fun _ z => nomatch z) : Rd H' a u ∧ S' a = none := rd_extD e.d h n nt ne
theorem RdT.ext {a : Addr} {vs : List V} (e : Ext H S H' S') (h : RdT K H S a vs) : RdT K H' S' a vs := h.extD e.d
theorem RdL.ext {a : Addr} {vs : List V} (e : Ext H S H' S') (h : RdL K H S a vs) : RdL K H' S' a vs := h.extD e.d
theorem RW.ext (e : Ext H S H' S') (w : W) (v : V) (h : RW K H S w v) : RW K H' S' w v := RW.extD e.d w v h
theorem RWs.ext (e : Ext H S H' S') (ws : List W) (vs : List V) (h : RWs K H S ws vs) : RWs K H' S' ws vs := RWs.extD e.d ws vs h
theorem RWs.len : ∀ {ws : List W} {vs : List V}, RWs K H S ws vs → ws.length = vs.length
  | [], vs, h => by unfold RWs at h; rw [h]; rfl
  | w :: ws, vs, h => by
    unfold RWs at h
    obtain ⟨v, r, h1, h2, h3⟩ := h
    rw [h1, List.length_cons, List.length_cons, RWs.len h3]
theorem RWs.nil : RWs K H S [] [] := by unfold RWs; rfl
theorem RWs.cons {w : W} {v : V} {ws : List W} {vs : List V} (h : RW K H S w v) (t : RWs K H S ws vs) : RWs K H S (w :: ws) (v :: vs) := by
  unfold RWs; exact ⟨v, vs, rfl, h, t⟩
theorem RWs.append : ∀ {ws ws' : List W} {vs vs' : List V}, RWs K H S ws vs → RWs K H S ws' vs' → RWs K H S (ws ++ ws') (vs ++ vs')
  | [], ws', vs, vs', h, t => by unfold RWs at h; rw [h]; exact t
  | w :: ws, ws', vs, vs', h, t => by
    unfold RWs at h
    obtain ⟨v, r, h1, h2, h3⟩ := h
    rw [h1]
    exact .cons h2 (RWs.append h3 t)
theorem RWs.get : ∀ {ws : List W} {vs : List V} {i : Nat} {w : W}, RWs K H S ws vs → ws[i]? = some w → ∃ v, vs[i]? = some v ∧ RW K H S w v
  | [], vs, i, w, h, e => by simp at e
  | w :: ws, vs, i, w', h, e => by
    unfold RWs at h
    obtain ⟨v, r, h1, h2, h3⟩ := h
    subst h1
    cases i with
    | zero => simp at e; subst e; exact ⟨v, rfl, h2⟩
    | succ i => simpa using RWs.get (i := i) h3 (by simpa using e)
theorem RWs.get' : ∀ {ws : List W} {vs : List V} {i : Nat} {v : V}, RWs K H S ws vs → vs[i]? = some v → ∃ w, ws[i]? = some w ∧ RW K H S w v
  | [], vs, i, w, h, e => by unfold RWs at h; subst h; simp at e
  | w :: ws, vs, i, w', h, e => by
    unfold RWs at h
    obtain ⟨v, r, h1, h2, h3⟩ := h
    subst h1
    cases i with
    | zero => simp at e; subst e; exact ⟨w, rfl, h2⟩
    | succ i => simpa using RWs.get' (i := i) h3 (by simpa using e)
theorem RWs.take : ∀ {ws : List W} {vs : List V} (n : Nat), RWs K H S ws vs → RWs K H S (ws.take n) (vs.take n)
  | _, _, 0, _ => by simpa using RWs.nil
  | [], vs, n + 1, h => by unfold RWs at h; subst h; exact .nil
  | w :: ws, vs, n + 1, h => by
    unfold RWs at h
    obtain ⟨v, r, h1, h2, h3⟩ := h
    subst h1
    exact .cons h2 (RWs.take n h3)
theorem RWs.drop : ∀ {ws : List W} {vs : List V} (n : Nat), RWs K H S ws vs → RWs K H S (ws.drop n) (vs.drop n)
  | _, _, 0, h => h
  | [], vs, n + 1, h => by unfold RWs at h; subst h; exact .nil
  | w :: ws, vs, n + 1, h => by
    unfold RWs at h
    obtain ⟨v, r, h1, h2, h3⟩ := h
    subst h1
    exact RWs.drop n h3
theorem RWs.set : ∀ {ws : List W} {vs : List V} {w : W} {v : V} (i : Nat), RWs K H S ws vs → RW K H S w v → RWs K H S (ws.set i w) (vs.set i v)
  | [], vs, w, v, i, h, _ => by unfold RWs at h; subst h; exact .nil
  | w :: ws, vs, w', v', i, h, r' => by
    unfold RWs at h
    obtain ⟨v, r, h1, h2, h3⟩ := h
    subst h1
    cases i with
    | zero => exact .cons r' h3
    | succ i => exact .cons h2 (RWs.set i h3 r')
theorem ext_ext {b : Addr} {φ : Heap → Prop} (e : Ext H S H' S') (h : H b = some (.ext φ)) (n : S b = none) : H' b = some (.ext φ) ∧ S' b = none := by
  obtain ⟨h1, h2⟩ := e.st b _ h n
  exact ⟨h1.plain (fun z => z.elim) (fun _ z => nomatch z), h2⟩
theorem CelsH.ext (e : Ext H S H' S') {d : CloD} {r : CloR} (h : CelsH H S d r) : CelsH H' S' d r := by
  refine ⟨fun y c hy => ?_, h.inj, fun i y hy => ?_⟩
  · obtain ⟨o, h1, h2, h3⟩ := h.all y c hy
    obtain ⟨k1, k2⟩ := ext_ext e h1 h2
    exact ⟨o, k1, k2, h3⟩
  · obtain ⟨c, o, h1, h2, h3⟩ := h.has i y hy
    obtain ⟨o', k1, k2, _⟩ := h.all y c h1
    exact ⟨c, o, h1, (ext_ext e h2 k2).1, h3⟩
theorem RO.ext (e : Ext H S H' S') {o : SO} {u : HO} (h : RO K H S o u) : RO K H' S' o u := by
  cases o with
  | lst xs => obtain ⟨vs, h1, h2⟩ := h; exact ⟨vs, h1, RWs.ext e _ _ h2⟩
  | dct ks ws => obtain ⟨kvs, h1, h2, h3⟩ := h; exact ⟨kvs, h1, h2, RWs.ext e _ _ h3⟩
  | ins c fs ws => obtain ⟨dx, kvs, h1, h2, h3⟩ := h; exact ⟨dx, kvs, h1, h2, RWs.ext e _ _ h3⟩
  | clo r => obtain ⟨d, h1, h2, ⟨h3, h4⟩, h5, h6, h7⟩ := h; exact ⟨d, h1, h2, ext_ext e h3 h4, RWs.ext e _ _ h5, h6, h7.ext e⟩
end

/-! ## states linked -/
def RSl (K : PySem.W.Frag) (H : Hp) (S : Sto) (σ : List (Option W)) (τ : L2.St) : Prop :=
  σ.length = τ.length ∧ ∀ (i : Nat) (w : W), σ[i]? = some (some w) → ∃ v, τ[i]? = some (some v) ∧ RW K H S w v
section
variable {K : PySem.W.Frag} {H H' : Hp} {S S' : Sto} {σ : List (Option W)} {τ : L2.St}
theorem LinkS.fresh (l : LinkS K H S) {p : Addr} (h : H p = none) : S p = none := by
  cases q : S p with
  | none => rfl
  | some o =>
    obtain ⟨u, h1, _⟩ := l.at_ p o q
    rw [h] at h1; cases h1
theorem LinkS.nclo (l : LinkS K H S) {p : Addr} (h : H p = none) : ∀ r, S p ≠ some (.clo r) := fun r z => by rw [l.fresh h] at z; cases z
theorem RSl.ext (h : RSl K H S σ τ) (e : Ext H S H' S') : RSl K H' S' σ τ :=
  ⟨h.1, fun i w hi => let ⟨v, h1, h2⟩ := h.2 i w hi; ⟨v, h1, RW.ext e w v h2⟩⟩
theorem RSl.set (h : RSl K H S σ τ) {w : W} {v : V} (i : Nat) (r : RW K H S w v) : RSl K H S (σ.set i (some w)) (τ.set i (some v)) := by
  refine ⟨by rw [List.length_set, List.length_set]; exact h.1, fun j u hj => ?_⟩
  by_cases e : i = j
  · subst e
    have hl : i < σ.length := by
      have := (List.getElem?_eq_some_iff.mp hj).1
      simpa using this
    have hl' : i < τ.length := by rw [← h.1]; exact hl
    rw [List.getElem?_set_self hl] at hj
    cases hj
    exact ⟨v, List.getElem?_set_self hl', r⟩
  · rw [List.getElem?_set_ne e] at hj
    obtain ⟨v', h1, h2⟩ := h.2 j u hj
    exact ⟨v', by rw [List.getElem?_set_ne e]; exact h1, h2⟩
theorem RSl.clr (h : RSl K H S σ τ) (i : Nat) (x : Option V) : RSl K H S (σ.set i none) (τ.set i x) := by
  refine ⟨by rw [List.length_set, List.length_set]; exact h.1, fun j u hj => ?_⟩
  by_cases e : i = j
  · subst e
    by_cases hl : i < σ.length
    · rw [List.getElem?_set_self hl] at hj; cases hj
    · rw [List.getElem?_eq_none (by simpa using hl)] at hj; cases hj
  · rw [List.getElem?_set_ne e] at hj
    obtain ⟨v', h1, h2⟩ := h.2 j u hj
    exact ⟨v', by rw [List.getElem?_set_ne e]; exact h1, h2⟩
/-- a new object, not among the changed places -/
theorem ext_new {p : Addr} {o : HO} (h : H p = none) : Ext H S (upd H p o) S := ⟨fun b u h1 h2 => ⟨.inl (by rw [upd_ne (ne_of_none h1 h)]; exact h1), h2⟩, fun b r e => ⟨e, fun u h1 => by rw [upd_ne (ne_of_none h1 h)]; exact h1⟩, fun b r e => e⟩
theorem LinkS.new (l : LinkS K H S) {p : Addr} {o : HO} (h : H p = none) : LinkS K (upd H p o) S := ⟨fun a so q => by
  obtain ⟨u, h1, h2⟩ := l.at_ a so q
  exact ⟨u, by rw [upd_ne (ne_of_none h1 h)]; exact h1, h2.ext (ext_new h)⟩, l.tab.ext fun b u e => by rw [upd_ne (ne_of_none e h)]; exact e, l.sa⟩
/-- a new object, a changed place from now on -/
theorem ext_newS {p : Addr} {o : HO} {so : SO} (h : H p = none) (hs : so.nclo = true := by rfl) (hp : ∀ r, S p ≠ some (.clo r) := by first | assumption | exact LinkS.nclo (by assumption) (by assumption)) : Ext H S (upd H p o) (S.set p so) := ⟨fun b u h1 h2 =>
  ⟨.inl (by rw [upd_ne (ne_of_none h1 h)]; exact h1), by rw [Sto.set_ne (ne_of_none h1 h)]; exact h2⟩, fun b r e => by
    have hb : b ≠ p := fun z => by subst z; exact hp r e
    exact ⟨by rw [Sto.set_ne hb]; exact e, fun u h1 => by rw [upd_ne hb]; exact h1⟩, fun b r e => by
    by_cases hb : b = p
    · subst hb; rw [Sto.set_same] at e; cases e; cases hs
    · rw [Sto.set_ne hb] at e; exact e⟩
/-- a changed place is changed -/
theorem ext_chg {p : Addr} {o : HO} {so so' : SO} (h : S p = some so) (hs : so.nclo = true := by rfl) (hs' : so'.nclo = true := by rfl) : Ext H S (upd H p o) (S.set p so') := ⟨fun b u h1 h2 => by
  have hb : b ≠ p := fun e => by subst e; rw [h] at h2; cases h2
  exact ⟨.inl (by rw [upd_ne hb]; exact h1), by rw [Sto.set_ne hb]; exact h2⟩, fun b r e => by
    have hb : b ≠ p := fun z => by subst z; rw [h] at e; cases e; cases hs
    exact ⟨by rw [Sto.set_ne hb]; exact e, fun u h1 => by rw [upd_ne hb]; exact h1⟩, fun b r e => by
    by_cases hb : b = p
    · subst hb; rw [Sto.set_same] at e; cases e; cases hs'
    · rw [Sto.set_ne hb] at e; exact e⟩
theorem LinkS.put (l : LinkS K H S) {p : Addr} {o : HO} {so : SO} (e : Ext H S (upd H p o) (S.set p so)) (r : RO K H S so o) (hs : so.nclo = true := by rfl) : LinkS K (upd H p o) (S.set p so) := by
  refine ⟨fun a s2 q => ?_, ?_, fun a r q => l.sa a r (by
    by_cases ha : a = p
    · subst ha; rw [Sto.set_same] at q; cases q; cases hs
    · rw [Sto.set_ne ha] at q; exact q)⟩
  · by_cases ha : a = p
    · subst ha
      rw [Sto.set_same] at q; cases q
      exact ⟨o, upd_same, r.ext e⟩
    · rw [Sto.set_ne ha] at q
      obtain ⟨u, h1, h2⟩ := l.at_ a s2 q
      exact ⟨u, by rw [upd_ne ha]; exact h1, h2.ext e⟩
  · have key : ∀ b u, H b = some u → (∀ xs, u ≠ .lst xs) → (∀ kvs, u ≠ .dK kvs) → (∀ C dx fs, u ≠ .ins C dx fs) → b ≠ p := fun b u h1 n1 n2 n3 z => by
      subst z
      cases q : S b with
      | none =>
        have := (e.st b u h1 q).2
        rw [Sto.set_same] at this; cases this
      | some so0 =>
        obtain ⟨u', h2, h3⟩ := l.at_ b so0 q
        rw [h1] at h2; cases h2
        cases so0 with
        | lst xs => obtain ⟨vs, rfl, _⟩ := h3; exact n1 _ rfl
        | dct ks ws => obtain ⟨kvs, rfl, _⟩ := h3; exact n2 _ rfl
        | ins c fs ws => obtain ⟨dx, kvs, rfl, _⟩ := h3; exact n3 _ _ _ rfl
        | clo r0 =>
          have := (e.clo b r0 q).1
          rw [Sto.set_same] at this
          cases this
          cases hs
    exact fun t ht => by
      obtain ⟨ps, h1, h2, h3⟩ := l.tab t ht
      refine ⟨ps, by rw [upd_ne (key _ _ h1 (fun _ z => nomatch z) (fun _ z => nomatch z) (fun _ _ _ z => nomatch z))]; exact h1, h2, fun pos cv hc => ?_⟩
      obtain ⟨c, e1, e2⟩ := h3 pos cv hc
      exact ⟨c, e1, by rw [upd_ne (key _ _ e2 (fun _ z => nomatch z) (fun _ z => nomatch z) (fun _ _ _ z => nomatch z))]; exact e2⟩
/-- a changed place is changed no more -/
theorem ext_del {a : Addr} (hn : ∀ r, S a ≠ some (.clo r)) : Ext H S H (S.del a) := ⟨fun b u h1 h2 => ⟨.inl h1, by unfold Sto.del; split <;> first | rfl | exact h2⟩, fun b r e => by
  have hb : b ≠ a := fun z => by subst z; exact hn r e
  exact ⟨by rw [Sto.del_ne hb]; exact e, fun _ h => h⟩, fun b r e => by
  have hb : b ≠ a := fun z => by subst z; rw [Sto.del_same] at e; cases e
  rw [Sto.del_ne hb] at e; exact e⟩
theorem LinkS.del (l : LinkS K H S) (p : Addr) (hn : ∀ r, S p ≠ some (.clo r)) : LinkS K H (S.del p) := ⟨fun a s2 q => by
  have ha : a ≠ p := fun z => by subst z; rw [Sto.del_same] at q; cases q
  rw [Sto.del_ne ha] at q
  obtain ⟨u, h1, h2⟩ := l.at_ a s2 q
  exact ⟨u, h1, h2.ext (ext_del hn)⟩, l.tab, fun a r q => l.sa a r (by
  have ha : a ≠ p := fun z => by subst z; rw [Sto.del_same] at q; cases q
  rw [Sto.del_ne ha] at q; exact q)⟩
theorem nclo_of {p : Addr} {o : SO} (h : S p = some o) (hs : o.nclo = true := by rfl) : ∀ r, S p ≠ some (.clo r) := fun r z => by rw [h] at z; cases z; cases hs
/-- frozen: a list that is changed no more is data -/
theorem RW.frozen (l : LinkS K H S) {p : Addr} {xs : List W} (h : S p = some (.lst xs)) : RW K H (S.del p) (.lst xs) (.ref p) := by
  obtain ⟨u, h1, vs, rfl, h2⟩ := l.at_ p _ h
  unfold RW
  exact ⟨p, vs, rfl, .inl ⟨.inl h1, Sto.del_same⟩, RWs.ext (ext_del (nclo_of h)) _ _ h2⟩
theorem RW.frozenD (l : LinkS K H S) {p : Addr} {ks : List Key} {ws : List W} (h : S p = some (.dct ks ws)) : RW K H (S.del p) (.dct ks ws) (.ref p) := by
  obtain ⟨u, h1, kvs, rfl, h2, h3⟩ := l.at_ p _ h
  unfold RW
  exact ⟨p, kvs, rfl, Sto.del_same, .inl h1, h2, RWs.ext (ext_del (nclo_of h)) _ _ h3⟩
theorem RW.frozenI (l : LinkS K H S) {p : Addr} {c : Str} {fs : List Str} {ws : List W} (h : S p = some (.ins c fs ws)) : RW K H (S.del p) (.ins c fs ws) (.ref p) := by
  obtain ⟨u, h1, dx, kvs, rfl, h2, h3⟩ := l.at_ p _ h
  unfold RW
  exact ⟨p, dx, kvs, rfl, Sto.del_same, h1, h2, RWs.ext (ext_del (nclo_of h)) _ _ h3⟩
def emS : Sto := fun _ => none
theorem ext_em : ExtD H S H emS := fun b u h1 _ h2 => ⟨.inl h1, rfl⟩
end
end PD

set_option Elab.async false
set_option linter.all false
set_option maxRecDepth 100000
set_option maxHeartbeats 4000000
namespace PD
open PySem PySem.Spec PyProof.Rows L2

/-! ## pure data read as the library's data -/
mutual
def W.d : W → Option PyData
  | .non => some .none
  | .bl b => some (.bool b)
  | .int i => some (.int i)
  | .str x => some (.str x)
  | .tup xs => (W.ds xs).map .tuple
  | .lst xs => (W.ds xs).map .list
  | .dct _ _ => none
  | .ref _ => none
  | .exc _ _ _ => none
  | .ins _ _ _ => none
  | .fnv _ => none
def W.ds : List W → Option (List PyData)
  | [] => some []
  | x :: xs => (W.d x).bind fun a => (W.ds xs).map fun r => a :: r
end
def kD : Key → PyData
  | .inl i => .int i
  | .inr x => .str x
mutual
/-- .. with dicts -/
def W.dd : W → Option PyData
  | .non => some .none
  | .bl b => some (.bool b)
  | .int i => some (.int i)
  | .str x => some (.str x)
  | .tup xs => (W.dds xs).map .tuple
  | .lst xs => (W.dds xs).map .list
  | .dct ks ws => (W.dds ws).map fun ds => .dict ((ks.map kD).zip ds)
  | .ref _ => none
  | .exc _ _ _ => none
  | .ins _ _ _ => none
  | .fnv _ => none
def W.dds : List W → Option (List PyData)
  | [] => some []
  | x :: xs => (W.dd x).bind fun a => (W.dds xs).map fun r => a :: r
end
/-- a changed place read -/
def rd (S : Sto) : W → W
  | .ref a => match S a with
    | some (.lst xs) => .lst xs
    | some (.dct ks ws) => .dct ks ws
    | some (.ins c fs ws) => .ins c fs ws
    | some (.clo _) => .ref a
    | none => .ref a
  | w => w
/-- data within the library's bounds for comparing -/
def okD (d : PyData) : Bool := d.plain && decide (d.depth ≤ 60)
def eqD (a b : W) : Option Bool := a.d.bind fun x => b.d.bind fun y => if okD x && okD y then some (PyData.eqv x y) else none
/-- a tuple of anything beside the empty one -/
def look : List Key → List W → Key → Option W
  | k :: ks, w :: ws, x => if k = x then some w else look ks ws x
  | _, _, _ => none
def eqRows (ls : List Key) (us : List W) : List Key → List W → Option Bool
  | [], [] => some true
  | k :: ks, w :: ws => match look ls us k with
    | none => some false
    | some u => (eqD w u).bind fun e => (eqRows ls us ks ws).map fun b => e && b
  | _, _ => none
def eqT : W → W → Option Bool
  | .tup xs, .tup [] => some xs.isEmpty
  | .dct ks ws, .dct ls us => if ks.length = ls.length then eqRows ls us ks ws else some false
  | _, _ => none
def eqW (a b : W) : Option Bool := match eqD a b with
  | some r => some r
  | none => eqT a b

/-- a place that holds a dict among such places -/
def inO (S : Sto) : W → W → Option Bool
  | .ref q, .ref p => if p = q then some true else eqT (rd S (.ref p)) (rd S (.ref q))
  | _, _ => none
def inP (S : Sto) (x : W) : List W → Option Bool
  | [] => some false
  | y :: ys => (inO S x y).bind fun e => (inP S x ys).map fun b => e || b
def keyOf : W → Option Key
  | .int i => some (.inl i)
  | .str x => some (.inr x)
  | _ => none
def kW : Key → W
  | .inl i => .int i
  | .inr x => .str x
def setAt (x : Key) (v : W) : List Key → List W → List W
  | k :: ks, w :: ws => (if k = x then v else w) :: setAt x v ks ws
  | _, _ => []
def putKW (ks : List Key) (ws : List W) (x : Key) (v : W) : List Key × List W :=
  if (ks.any fun k => decide (k = x)) = true then (ks, setAt x v ks ws) else (ks ++ [x], ws ++ [v])

def signs (x : Str) : List W := x.cps.toList.map fun c => .str ⟨#[c]⟩

/-! ## operators -/
def binW : Operator → W → W → Option W
  | .Add, .int i, .int j => some (.int (i + j))
  | .Sub, .int i, .int j => some (.int (i - j))
  | .Mult, .int i, .int j => if ((-(2 ^ 64) < i ∧ i < 2 ^ 64) ∨ (-(2 ^ 64) < j ∧ j < 2 ^ 64)) ∨ i.natAbs.log2 + j.natAbs.log2 < 1000000 then some (.int (i * j)) else none
  | .Mod, .int i, .int j => if 0 < j then some (.int (i % j)) else none
  | .FloorDiv, .int i, .int j => if 0 < j ∧ j.natAbs.log2 < 9000 then some (.int (i / j)) else none
  | .Pow, .int i, .int j => if 0 ≤ j ∧ j ≤ 1000000 ∧ i.natAbs < 2 ^ 64 then some (.int (i ^ j.toNat)) else none
  | .Add, .str x, .str y => if x.length + y.length ≤ sizeLine then some (.str (x ++ y)) else none
  | .Mult, .str x, .int j => if 0 ≤ j ∧ j ≤ 1000 ∧ x.length ≤ 1000 then some (.str (Txt.mul x j)) else none
  | .Add, .lst x, .lst y => if x.length + y.length ≤ sizeLine then some (.lst (x ++ y)) else none
  | .Add, .tup x, .tup y => if x.length + y.length ≤ sizeLine then some (.tup (x ++ y)) else none
  | .Mult, .lst x, .int j => if 0 ≤ j ∧ j ≤ 1000 ∧ x.length ≤ 1000 then some (.lst (List.replicate j.toNat x).flatten) else none
  | .Mult, .tup x, .int j => if j = 1 then some (.tup x) else if j = 0 ∧ x ≠ [] then some (.tup []) else if 2 ≤ j ∧ j ≤ 1000 ∧ x.length ≤ 1000 ∧ x ≠ [] then some (.tup (List.replicate j.toNat x).flatten) else none
  | _, _, _ => none
def unW : UnaryOp → W → Option W
  | .USub, .int i => some (.int (-i))
  | .Not, .bl b => some (.bl (!b))
  | _, _ => none

/-- whether a thing is in a row of things -/
def okDs (ds : List PyData) : Bool := PyData.plainAll ds && decide (PyData.depthAll ds ≤ 60)
def inL (x : W) (ys : List W) : Option Bool := (W.ds ys).bind fun ds => x.d.bind fun d => if okDs ds && okD d then some (ds.any fun y => PyData.eqv y d) else none
def inW : W → W → Option Bool
  | x, .lst ys => inL x ys
  | x, .tup ys => inL x ys
  | x, .dct ks ws => (keyOf x).map fun k => (look ks ws k).isSome
  | .str ⟨⟨[c]⟩⟩, .str z => some (decide (c ∈ z.cps.toList))
  | _, _ => none
def isN : W → Bool
  | .non => true
  | _ => false
def cmpW : CmpOp → W → W → Option Bool
  | .Eq, a, b => eqW a b
  | .NotEq, a, b => (eqW a b).map (!·)
  | .Lt, .int i, .int j => some (decide (i < j))
  | .LtE, .int i, .int j => some (decide (i ≤ j))
  | .Gt, .int i, .int j => some (decide (j < i))
  | .GtE, .int i, .int j => some (decide (j ≤ i))
  | .In, a, b => inW a b
  | .NotIn, a, b => (inW a b).map (!·)
  | .Is, a, .non => some (isN a)
  | .IsNot, a, .non => some (!isN a)
  | .Is, .bl a, .bl b => some (a == b)
  | .IsNot, .bl a, .bl b => some (!(a == b))
  | _, _, _ => none

def ixW : W → W → Option W
  | .lst xs, .int i => atI xs i
  | .tup xs, .int i => atI xs i
  | .str z, .int i => if z.length ≤ sizeLine then (atI z.cps.toList i).map fun c => .str ⟨#[c]⟩ else none
  | .dct ks ws, k => (keyOf k).bind (look ks ws)
  | _, _ => none
def cutW (xs : List W) (lo hi : Option Int) : List W := (xs.drop (HT.sIx xs.length 0 lo)).take (HT.sIx xs.length xs.length hi - HT.sIx xs.length 0 lo)
def slcW : W → Option Int → Option Int → Option W
  | .lst xs, lo, hi => some (.lst (cutW xs lo hi))
  | .tup xs, lo, hi => some (.tup (cutW xs lo hi))
  | .str z, lo, hi => if z.length ≤ sizeLine then some (.str (cutS z lo hi)) else none
  | _, _, _ => none
def lenW : W → Option W
  | .lst xs => some (.int xs.length)
  | .tup xs => some (.int xs.length)
  | .str z => if z.length ≤ sizeLine then some (.int z.length) else none
  | .dct ks _ => some (.int ks.length)
  | _ => none

def intsW : List W → Option (List Int)
  | [] => some []
  | .int i :: r => (intsW r).map (i :: ·)
  | _ :: _ => none
def boolsW : List W → Option (List Bool)
  | [] => some []
  | .bl i :: r => (boolsW r).map (i :: ·)
  | _ :: _ => none

/-! ## the small language -/
inductive Lit where
  | non | bl (b : Bool) | int (i : Int) | str (x : Str) | fn (f : Str)
def Lit.w : Lit → W
  | .non => .non
  | .bl b => .bl b
  | .int i => .int i
  | .str x => .str x
  | .fn f => .fnv f
def mergeW (kws : List (Key × W)) : List Key × List W := kws.foldl (fun acc kw => putKW acc.1 acc.2 kw.1 kw.2) ([], [])
/-- (key, thing), (key, thing), .. -/
def prsW : List W → Option (List (Key × W))
  | [] => some []
  | .tup [k, v] :: r => (keyOf k).bind fun x => (prsW r).map fun t => (x, v) :: t
  | _ => none
inductive Bi where
  | len | abs | tuple | list | sum | any | all | repr | int | dict | max | sorted | reprd
/-- built-in classes asked of -/
inductive Ty where
  | int | bool | str | tuple | list | dict
inductive Mt where
  | get | setdefault | append | remove | count | index | extend | insert | pop | clear
inductive Tg where
  | name (i : Nat)
  | tup (ts : List Tg)
mutual
inductive E where
  | loc (i : Nat)
  | lit (l : Lit)
  | glob (x : Str)
  | tup (es : Es)
  | lst (m : Bool) (es : Es)
  | dct (m : Bool) (es : Es)
  | bin (op : Operator) (a b : E)
  | un (op : UnaryOp) (a : E)
  | and2 (a b : E)
  | or2 (a b : E)
  | cmp (op : CmpOp) (a b : E)
  | cmp3 (o1 o2 : CmpOp) (a b c : E)
  | ifx (c : Tt) (a b : E)
  | ix (a b : E)
  | slc (a : E) (lo hi : Eo)
  | call (f : Str) (es : Es)
  | callv (i : Nat) (es : Es)
  | callL (g : Str) (es : Es) (f : Str) (js : List Nat)
  | bi (b : Bi) (es : Es)
  | meth (m : Mt) (o : E) (es : Es)
  | comp (m : Bool) (own : List Nat) (t : Tg) (it : It) (c : To) (elt : E)
  | cat (a b : E)
  | isa (t : Ty) (a : E)
  | frz (a : E)
  | fld (i : Nat) (c f : Str)
  | own (c m n : Str) (i : Nat) (es : Es)
  | xfl (i : Nat) (f : Str)
  | isx (i : Nat) (x : Str)
  | isi (i : Nat) (x : Str)
  | sos (a : E)
  | lzip (a b : E)
  | inp (neg : Bool) (a b : E)
  | maxd (a : E) (d : Int)
  | cmpo (neg : Bool) (c n : Str) (a b : E)
  | dcomp (own : List Nat) (t : Tg) (it : It) (kx vx : E)
  | comp2 (m : Bool) (own : List Nat) (t : Tg) (it : It) (own1 : List Nat) (t1 : Tg) (it1 : It) (elt : E)
inductive Es where
  | nil
  | cons (e : E) (es : Es)
inductive Eo where
  | none
  | some (e : E)
inductive It where
  | ex (e : E)
  | rng1 (a : E)
  | rng2 (a b : E)
  | enum (e : E)
  | zip (a b : E)
inductive Tt where
  | val (e : E)
  | not (t : Tt)
  | and (a b : Tt)
  | or (a b : Tt)
inductive To where
  | none
  | some (t : Tt)
end

abbrev Sl := List (Option W)
abbrev QW := W → Sto → Prop
abbrev QB := Bool → Sto → Prop
/-- what the text around gives: calls, the module's constants -/
structure Cn where
  Γ : Str → List W → Sto → QW → QW → Prop
  G : Str → Option W

/-! ## targets -/
def Tg.go : Tg → W → Sl → (Sl → Prop) → Prop
  | .name i, w, σ, Q => i < σ.length ∧ Q (σ.set i (some w))
  | .tup ts, w, σ, Q => ∃ ws, w = .tup ws ∧ ws.length = ts.length ∧ goAll ts ws σ Q
where goAll : List Tg → List W → Sl → (Sl → Prop) → Prop
  | [], ws, σ, Q => ws = [] ∧ Q σ
  | t :: ts, ws, σ, Q => ∃ w r, ws = w :: r ∧ Tg.go t w σ fun σ' => goAll ts r σ' Q

/-- a target's names are among these -/
def Tg.own (vs : List Nat) : Tg → Bool
  | .name i => vs.contains i
  | .tup ts => owns vs ts
where owns (vs : List Nat) : List Tg → Bool
  | [] => true
  | t :: ts => Tg.own vs t && owns vs ts
def wipeS (σ : Sl) : List Nat → Sl
  | [] => σ
  | v :: vs => (wipeS σ vs).set v none

/-- lo, lo + 1, .., n of them -/
def rgW (lo : Int) (n : Nat) : List W := (List.range n).map fun (k : Nat) => W.int (lo + (k : Int))
/-- what is walked over, item by item -/
def itemsW : W → Option (List W)
  | .lst xs => some xs
  | .tup xs => some xs
  | .dct ks _ => some (ks.map kW)
  | .str x => some (signs x)
  | _ => none
def enumW (xs : List W) : List W := xs.zipIdx.map fun p => .tup [.int p.2, p.1]
def zipWW (xs ys : List W) : List W := (xs.zip ys).map fun p => .tup [p.1, p.2]

/-- .. with its own places read, too -/
def rdl (S : Sto) (w : W) : W := match rd S w with
  | .lst xs => .lst (xs.map (rd S))
  | w => w
def biW : Bi → List W → Sto → QW → Prop
  | .len, [w], S, Q => ∃ r, lenW (rd S w) = some r ∧ Q r S
  | .abs, [.int i], S, Q => Q (.int (i.natAbs : Int)) S
  | .tuple, [w], S, Q => ∃ xs, (rd S w = .lst xs ∨ w = .tup xs) ∧ Q (.tup xs) S
  | .list, [w], S, Q => ∃ xs, (rd S w = .lst xs ∨ w = .tup xs ∨ ∃ ks ws, rd S w = .dct ks ws ∧ xs = ks.map kW) ∧ ∀ p, S p = none → Q (.ref p) (S.set p (.lst xs))
  | .sum, [w], S, Q => ∃ xs ns, rd S w = .lst xs ∧ intsW xs = some ns ∧ Q (.int ns.sum) S
  | .any, [w], S, Q => ∃ xs bs, rd S w = .lst xs ∧ boolsW xs = some bs ∧ Q (.bl (bs.any id)) S
  | .all, [w], S, Q => ∃ xs bs, rd S w = .lst xs ∧ boolsW xs = some bs ∧ Q (.bl (bs.all id)) S
  | .int, [.bl b], S, Q => Q (.int (if b then 1 else 0)) S
  | .repr, [w], S, Q => ∃ d, w.dd = some d ∧ d.showable = true ∧ d.shown.length ≤ sizeLine ∧ d.depth ≤ 100 ∧ Q (.str d.shown) S
  | .dict, [w], S, Q => ∃ ks ws, (rd S w = .dct ks ws ∨ ∃ xs kws, rd S w = .lst xs ∧ prsW xs = some kws ∧ mergeW kws = (ks, ws)) ∧ ∀ p, S p = none → Q (.ref p) (S.set p (.dct ks ws))
  | .max, [w], S, Q => ∃ ns : List Int, rd S w = .lst (ns.map W.int) ∧ 0 < ns.length ∧ ∀ m, m ∈ ns → (∀ y, y ∈ ns → y ≤ m) → Q (.int m) S
  | .sorted, [w], S, Q => ∃ ns : List Int, (rd S w = .lst (ns.map W.int) ∨ ∃ ws, rd S w = .dct (ns.map Sum.inl) ws ∧ ns.length < 64) ∧ ∀ (ms : List Int) p, ms.Perm ns → ms.Pairwise (· ≤ ·) → S p = none → Q (.ref p) (S.set p (.lst (ms.map W.int)))
  | .reprd, [w], S, Q => ∃ d, (rdl S w).dd = some d ∧ d.showable = true ∧ d.shown.length ≤ sizeLine ∧ d.depth ≤ 100 ∧ Q (.str d.shown) S
  | _, _, _, _ => False
def mtW : Mt → W → List W → Sto → QW → Prop
  | .get, o, [k], S, Q => ∃ ks ws x, rd S o = .dct ks ws ∧ keyOf k = some x ∧ Q ((look ks ws x).getD .non) S
  | .get, o, [k, d], S, Q => ∃ ks ws x, rd S o = .dct ks ws ∧ keyOf k = some x ∧ Q ((look ks ws x).getD d) S
  | .setdefault, .ref a, [k, d], S, Q => ∃ ks ws x, S a = some (.dct ks ws) ∧ keyOf k = some x ∧ ks.length < sizeLine ∧ (∀ v, look ks ws x = some v → Q v S) ∧ (look ks ws x = none → Q d (S.set a (.dct (putKW ks ws x d).1 (putKW ks ws x d).2)))
  | .append, .ref a, [w], S, Q => ∃ xs, S a = some (.lst xs) ∧ xs.length < sizeLine ∧ Q .non (S.set a (.lst (xs ++ [w])))
  | .remove, .ref a, [.int k], S, Q => ∃ (ns : List Int) (j : Nat), S a = some (.lst (ns.map W.int)) ∧ ns[j]? = some k ∧ (∀ m : Nat, m < j → ns[m]? ≠ some k) ∧ Q .non (S.set a (.lst ((ns.eraseIdx j).map W.int)))
  | .count, o, [x], S, Q => ∃ xs ds d, rd S o = .lst xs ∧ W.ds xs = some ds ∧ x.d = some d ∧ okDs ds = true ∧ okD d = true ∧ Q (.int (ds.countP fun y => PyData.eqv y d : Nat)) S
  | .extend, .ref a, [.ref b], S, Q => ∃ xs zs, S a = some (.lst xs) ∧ S b = some (.lst zs) ∧ xs.length + zs.length ≤ sizeLine ∧ Q .non (S.set a (.lst (xs ++ zs)))
  | .insert, .ref a, [.int i, w], S, Q => ∃ xs, S a = some (.lst xs) ∧ xs.length < sizeLine ∧ 0 ≤ i ∧ i < 2 ^ 63 ∧ Q .non (S.set a (.lst (xs.take i.toNat ++ [w] ++ xs.drop i.toNat)))
  | .pop, .ref a, [], S, Q => ∃ xs y, S a = some (.lst xs) ∧ xs[xs.length - 1]? = some y ∧ Q y (S.set a (.lst xs.dropLast))
  | .clear, .ref a, [], S, Q => ∃ xs, S a = some (.lst xs) ∧ Q .non (S.set a (.lst []))
  | .index, o, [x], S, Q => ∃ xs ds d j z, rd S o = .lst xs ∧ W.ds xs = some ds ∧ x.d = some d ∧ okDs ds = true ∧ okD d = true ∧ ds[j]? = some z ∧ PyData.eqv z d = true ∧ (∀ (m : Nat) (z' : PyData), m < j → ds[m]? = some z' → PyData.eqv z' d = false) ∧ Q (.int (j : Nat)) S
  | _, _, _, _, _ => False

def Ty.id : Ty → String
  | .int => "int" | .bool => "bool" | .str => "str" | .tuple => "tuple" | .list => "list" | .dict => "dict"
def isaD : Ty → PyData → Bool
  | .int, d => d.isInt
  | .bool, d => d.isBool
  | .str, d => d.isStr
  | .tuple, d => d.isTuple
  | .list, d => d.isList
  | .dict, d => d.isDict
/-- the type a method is asked of -/
def tyM : Mt → W → Bool
  | .get, .dct _ _ => true
  | .setdefault, .dct _ _ => true
  | .append, .lst _ => true
  | .remove, .lst _ => true
  | .count, .lst _ => true
  | .index, .lst _ => true
  | .extend, .lst _ => true
  | .insert, .lst _ => true
  | .pop, .lst _ => true
  | .clear, .lst _ => true
  | _, _ => false
/-- key, thing, key, thing, .. -/
def pairsW : List W → Option (List (Key × W))
  | [] => some []
  | k :: v :: r => (keyOf k).bind fun x => (pairsW r).map fun t => (x, v) :: t
  | _ => none
/-- a thing's truth -/
def truW : W → Option Bool
  | .bl b => some b
  | .non => some false
  | .int i => some (i != 0)
  | .str x => if x.length ≤ sizeLine then some ((x.length : Int) != 0) else none
  | .lst xs => some (!xs.isEmpty)
  | .tup xs => some (!xs.isEmpty)
  | _ => none
/-- a comprehension's turns: D holds what is made so far -/
def loopC (step : W → Sto → (Option W → Sto → Prop) → Prop) (D : Addr) : List W → List W → (List W → Sto → Prop) → Sto → Prop
  | [], acc, Q, S => S D = some (.lst acc) ∧ Q acc S
  | x :: xs, acc, Q, S => S D = some (.lst acc) ∧ step x S fun r S1 => match r with
    | none => loopC step D xs acc Q S1
    | some w => S1 D = some (.lst acc) ∧ acc.length < sizeLine ∧ loopC step D xs (acc ++ [w]) Q (S1.set D (.lst (acc ++ [w])))
/-- a dict comprehension's turns -/
def loopD (step : W → Sto → (Key → W → Sto → Prop) → Prop) (D : Addr) : List W → List Key → List W → (List Key → List W → Sto → Prop) → Sto → Prop
  | [], ks, ws, Q, S => S D = some (.dct ks ws) ∧ Q ks ws S
  | x :: xs, ks, ws, Q, S => S D = some (.dct ks ws) ∧ step x S fun k v S1 => S1 D = some (.dct ks ws) ∧ ks.length < sizeLine ∧ loopD step D xs (putKW ks ws k v).1 (putKW ks ws k v).2 Q (S1.set D (.dct (putKW ks ws k v).1 (putKW ks ws k v).2))
/-- the outer turns of a comprehension of two clauses -/
def loopO (step : W → Sto → List W → (List W → Sto → Prop) → Prop) (D : Addr) : List W → List W → (List W → Sto → Prop) → Sto → Prop
  | [], acc, Q, S => S D = some (.lst acc) ∧ Q acc S
  | x :: xs, acc, Q, S => S D = some (.lst acc) ∧ step x S acc fun acc' S' => loopO step D xs acc' Q S'
/-- what a function within captures -/
def capsW (σ : Sl) : List Nat → Option (List W)
  | [] => some []
  | j :: js => match σ[j]? with
    | some (some w) => (capsW σ js).map (w :: ·)
    | _ => none
/-- without the functions made within defs; with those of another one -/
def Sto.noc (S : Sto) : Sto := fun b => match S b with
  | some (.clo _) => none
  | o => o
def Sto.re (S2 S : Sto) : Sto := fun b => match S b with
  | some (.clo r) => some (.clo r)
  | _ => S2 b
/-- an attribute -/
def fldW : List Str → List W → Str → Option W
  | f :: fs, w :: ws, g => if f = g then some w else fldW fs ws g
  | _, _, _ => none
section
variable (C : Cn)
mutual
def wE : E → Sl → Sto → QW → QW → Prop
  | .loc i, σ, S, Q, _ => ∃ w, σ[i]? = some (some w) ∧ Q w S
  | .lit l, _, S, Q, _ => Q l.w S
  | .glob x, _, S, Q, _ => ∃ w, C.G x = some w ∧ Q w S
  | .tup es, σ, S, Q, X => wEs es σ S (fun ws S1 => ws.length ≤ sizeLine ∧ Q (.tup ws) S1) X
  | .lst m es, σ, S, Q, X => wEs es σ S (fun ws S1 => ws.length ≤ sizeLine ∧ if m then ∀ p, S1 p = none → Q (.ref p) (S1.set p (.lst ws)) else Q (.lst ws) S1) X
  | .dct m es, σ, S, Q, X => ∀ p, S p = none → wEs es σ (S.set p (.dct [] [])) (fun ws S1 => S1 p = some (.dct [] []) ∧ ∃ kws, pairsW ws = some kws ∧ kws.length ≤ 15 ∧
      if m then Q (.ref p) (S1.set p (.dct (mergeW kws).1 (mergeW kws).2)) else Q (.dct (mergeW kws).1 (mergeW kws).2) (S1.del p)) X
  | .bin op a b, σ, S, Q, X => wE a σ S (fun x S1 => wE b σ S1 (fun y S2 => ∃ r, binW op (rd S2 x) (rd S2 y) = some r ∧ Q r S2) X) X
  | .un op a, σ, S, Q, X => wE a σ S (fun x S1 => ∃ r, unW op x = some r ∧ Q r S1) X
  | .and2 a b, σ, S, Q, X => wE a σ S (fun x S1 => ∃ c, x = .bl c ∧ if c then wE b σ S1 Q X else Q (.bl false) S1) X
  | .or2 a b, σ, S, Q, X => wE a σ S (fun x S1 => ∃ c, x = .bl c ∧ if c then Q (.bl true) S1 else wE b σ S1 Q X) X
  | .cmp op a b, σ, S, Q, X => wE a σ S (fun x S1 => wE b σ S1 (fun y S2 => ∃ r, cmpW op (rd S2 x) (rd S2 y) = some r ∧ Q (.bl r) S2) X) X
  | .cmp3 o1 o2 a b c, σ, S, Q, X => wE a σ S (fun x S1 => wE b σ S1 (fun y S2 => ∃ r, cmpW o1 (rd S2 x) (rd S2 y) = some r ∧
      if r then wE c σ S2 (fun z S3 => ∃ q, cmpW o2 (rd S3 y) (rd S3 z) = some q ∧ Q (.bl q) S3) X else Q (.bl false) S2) X) X
  | .ifx c a b, σ, S, Q, X => wT c σ S (fun r S1 => if r then wE a σ S1 Q X else wE b σ S1 Q X) X
  | .ix a b, σ, S, Q, X => wE a σ S (fun x S1 => wE b σ S1 (fun y S2 => ∃ r, ixW (rd S2 x) y = some r ∧ Q r S2) X) X
  | .slc a lo hi, σ, S, Q, X => wE a σ S (fun x S1 => wO lo σ S1 (fun l S2 => wO hi σ S2 (fun h S3 => ∃ r, slcW (rd S3 x) l h = some r ∧ Q r S3) X) X) X
  | .callv i es, σ, S, Q, X => (∃ f, σ[i]? = some (some (.fnv f)) ∧ C.G f = some (.fnv f) ∧ wEs es σ S (fun ws S1 => C.Γ f ws S1 Q X) X) ∨
      ∃ a r, σ[i]? = some (some (.ref a)) ∧ S a = some (.clo r) ∧ wEs es σ S (fun ws S1 => C.Γ r.f (ws ++ r.cs) S1.noc (fun v S2 => Q v (S2.re S1)) (fun _ _ => False)) X
  | .callL g es f js, σ, S, Q, X => wEs es σ S (fun ws S1 => ∃ cs, capsW σ js = some cs ∧ ∀ r : CloR, S1 r.a = none → r.f = f → r.cs = cs → C.Γ g (ws ++ [.ref r.a]) (S1.set r.a (.clo r)) (fun v S2 => Q v (S2.del r.a)) (fun _ _ => False)) X
  | .call f es, σ, S, Q, X => wEs es σ S (fun ws S1 => C.Γ f ws S1 Q X) X
  | .bi b es, σ, S, Q, X => wEs es σ S (fun ws S1 => biW b ws S1 Q) X
  | .meth m o es, σ, S, Q, X => wE o σ S (fun w S1 => tyM m (rd S1 w) = true ∧ wEs es σ S1 (fun ws S2 => mtW m w ws S2 Q) X) X
  | .comp m own t it c elt, σ, S, Q, X => wI it σ S (fun xs S1 => ∀ D, S1 D = none →
      loopC (fun x S' K => t.go x (wipeS σ own) fun σ2 => wOT c σ2 S' (fun b S2 => if b then wE elt σ2 S2 (fun w S3 => K (some w) S3) (fun _ _ => False) else K none S2) (fun _ _ => False))
        D xs [] (fun ws S2 => if m then Q (.ref D) S2 else Q (.lst ws) (S2.del D)) (S1.set D (.lst []))) X
  | .cat a b, σ, S, Q, X => wE a σ S (fun x S1 => wE b σ S1 (fun y S2 => ∃ xs ys, rd S2 x = .lst xs ∧ rd S2 y = .lst ys ∧ xs.length + ys.length ≤ sizeLine ∧ ∀ p, S2 p = none → Q (.ref p) (S2.set p (.lst (xs ++ ys)))) X) X
  | .isa t a, σ, S, Q, X => wE a σ S (fun w S1 => ∃ d, w.dd = some d ∧ Q (.bl (isaD t d)) S1) X
  | .frz a, σ, S, Q, X => wE a σ S (fun w S1 => ∃ p, w = .ref p ∧ ((∃ xs, S1 p = some (.lst xs) ∧ Q (.lst xs) (S1.del p)) ∨ (∃ ks ws, S1 p = some (.dct ks ws) ∧ Q (.dct ks ws) (S1.del p)))) X
  | .fld i c f, σ, S, Q, _ => ∃ w, σ[i]? = some (some w) ∧ ∃ fs ws, rd S w = .ins c fs ws ∧ ∃ x, fldW fs ws f = some x ∧ Q x S
  | .xfl i f, σ, S, Q, _ => ∃ c w, σ[i]? = some (some (.exc c f w)) ∧ Q w S
  | .isx i x, σ, S, Q, _ => (σ[i]? = some (some .non) ∧ x = "NewError" ∧ Q (.bl false) S) ∨ (∃ c f w, σ[i]? = some (some (.exc c f w)) ∧ (x = "NewError" ∨ x = c) ∧ Q (.bl true) S)
  | .inp neg a b, σ, S, Q, X => wE a σ S (fun x S1 => wE b σ S1 (fun y S2 => ∃ ys r, rd S2 y = .lst ys ∧ inP S2 x ys = some r ∧ Q (.bl (if neg then !r else r)) S2) X) X
  | .lzip a b, σ, S, Q, X => wE a σ S (fun x S1 => wE b σ S1 (fun y S2 => ∃ xs ys, x = .tup xs ∧ y = .tup ys ∧ ∀ p, S2 p = none → Q (.ref p) (S2.set p (.lst (zipWW xs ys)))) X) X
  | .sos a, σ, S, Q, X => wE a σ S (fun w S1 => ∃ ns : List Int, rd S1 w = .lst (ns.map W.int) ∧ ns.length < 4000 ∧ (∃ ds : List Int, ds.length < 64 ∧ ∀ k, k ∈ ns → k ∈ ds) ∧ ∀ (ms : List Int) p, ms.Pairwise (· < ·) → (∀ k : Int, k ∈ ms ↔ k ∈ ns) → S1 p = none → Q (.ref p) (S1.set p (.lst (ms.map W.int)))) X
  | .maxd a d, σ, S, Q, X => wE a σ S (fun w S1 => ∃ ns : List Int, rd S1 w = .lst (ns.map W.int) ∧ (ns = [] → Q (.int d) S1) ∧ ∀ m, m ∈ ns → (∀ y, y ∈ ns → y ≤ m) → Q (.int m) S1) X
  | .isi i c, σ, S, Q, _ => ∃ w, σ[i]? = some (some w) ∧ ∃ fs ws, rd S w = .ins c fs ws ∧ Q (.bl true) S
  | .cmpo neg c n a b, σ, S, Q, X => wE a σ S (fun x S1 => wE b σ S1 (fun y S2 => ∃ fs ws gs vs, rd S2 x = .ins c fs ws ∧ rd S2 y = .ins c gs vs ∧ C.Γ n [x, y] S2 (fun r S3 => ∃ t, r = .bl t ∧ Q (.bl (if neg then !t else t)) S3) X) X) X
  | .own c m n i es, σ, S, Q, X => ∃ w, σ[i]? = some (some w) ∧ ∃ fs ws, rd S w = .ins c fs ws ∧ fs.contains m = false ∧ wEs es σ S (fun vs S1 => C.Γ n (w :: vs) S1 Q X) X
  | .dcomp own t it kx vx, σ, S, Q, X => wI it σ S (fun xs S1 => ∀ D, S1 D = none →
      loopD (fun x S' K => t.go x (wipeS σ own) fun σ2 => wE kx σ2 S' (fun kw S2 => wE vx σ2 S2 (fun v S3 => ∃ k, keyOf kw = some k ∧ K k v S3) (fun _ _ => False)) (fun _ _ => False))
        D xs [] [] (fun ks ws S2 => Q (.dct ks ws) (S2.del D)) (S1.set D (.dct [] []))) X
  | .comp2 m own t it own1 t1 it1 elt, σ, S, Q, X => wI it σ S (fun xs S1 => ∀ D, S1 D = none →
      loopO (fun x S' acc K => t.go x (wipeS σ own) fun σ2 => wI it1 σ2 S' (fun ys S2 =>
          loopC (fun y S3 K3 => t1.go y (wipeS σ2 own1) fun σ3 => wE elt σ3 S3 (fun w S4 => K3 (some w) S4) (fun _ _ => False)) D ys acc K S2) (fun _ _ => False))
        D xs [] (fun ws S2 => if m then Q (.ref D) S2 else Q (.lst ws) (S2.del D)) (S1.set D (.lst []))) X
def wEs : Es → Sl → Sto → (List W → Sto → Prop) → QW → Prop
  | .nil, _, S, Q, _ => Q [] S
  | .cons e es, σ, S, Q, X => wE e σ S (fun w S1 => wEs es σ S1 (fun ws S2 => Q (w :: ws) S2) X) X
def wO : Eo → Sl → Sto → (Option Int → Sto → Prop) → QW → Prop
  | .none, _, S, Q, _ => Q none S
  | .some e, σ, S, Q, X => wE e σ S (fun w S1 => ∃ i, w = .int i ∧ Q (some i) S1) X
def wOT : To → Sl → Sto → QB → QW → Prop
  | .none, _, S, Q, _ => Q true S
  | .some e, σ, S, Q, X => wT e σ S Q X
def wI : It → Sl → Sto → (List W → Sto → Prop) → QW → Prop
  | .ex e, σ, S, Q, X => wE e σ S (fun w S1 => ∃ xs, itemsW w = some xs ∧ Q xs S1) X
  | .rng1 a, σ, S, Q, X => wE a σ S (fun x S1 => ∃ j, x = .int j ∧ -(2 ^ 62) ≤ j ∧ j < 2 ^ 62 ∧ Q (rgW 0 j.toNat) S1) X
  | .rng2 a b, σ, S, Q, X => wE a σ S (fun x S1 => wE b σ S1 (fun y S2 => ∃ i j, x = .int i ∧ y = .int j ∧ (-(2 ^ 62) ≤ i ∧ i < 2 ^ 62 ∧ -(2 ^ 62) ≤ j ∧ j < 2 ^ 62) ∧ Q (rgW i (j - i).toNat) S2) X) X
  | .enum e, σ, S, Q, X => wE e σ S (fun w S1 => ∃ xs, (w = .lst xs ∨ w = .tup xs) ∧ Q (enumW xs) S1) X
  | .zip a b, σ, S, Q, X => wE a σ S (fun x S1 => wE b σ S1 (fun y S2 => ∃ xs ys, ((x = .lst xs ∧ y = .lst ys) ∨ (x = .tup xs ∧ y = .tup ys)) ∧ Q (zipWW xs ys) S2) X) X
def wT : Tt → Sl → Sto → QB → QW → Prop
  | .val e, σ, S, Q, X => wE e σ S (fun w S1 => ∃ r, truW (rd S1 w) = some r ∧ Q r S1) X
  | .not a, σ, S, Q, X => wT a σ S (fun b S1 => Q (!b) S1) X
  | .and a b, σ, S, Q, X => wT a σ S (fun r S1 => if r then wT b σ S1 Q X else Q false S1) X
  | .or a b, σ, S, Q, X => wT a σ S (fun r S1 => if r then Q true S1 else wT b σ S1 Q X) X
end
end
end PD

set_option Elab.async false
set_option linter.all false
set_option maxRecDepth 100000
set_option maxHeartbeats 4000000
namespace PD
open PySem PySem.Spec PyProof.Rows L2

/-- an exception as it is told: its class, its own fields -/
def RX (K : PySem.W.Frag) (H : Hp) (S : Sto) (x : W) (c : Value) (d : Option Addr) : Prop := match x with
  | .exc k f w => c = .ref (He.ga K k) ∧ ExcX K k f ∧ ∃ dd y, d = some dd ∧ H dd = some (.xd [(f, y)]) ∧ RW K H S w y
  | _ => False
/-- what is wanted of an exception, told -/
def XO (K : PySem.W.Frag) (Ê : XK) (H : Hp) (S : Sto) (X : QW) : Prop :=
  ∀ x S' c d H', Ext H S H' S' → LinkS K H' S' → RX K H' S' x c d → X x S' → Ê c d H'
theorem XO.ext {K : PySem.W.Frag} {Ê : XK} {H H' : Hp} {S S' : Sto} {X : QW} (h : XO K Ê H S X) (e : Ext H S H' S') : XO K Ê H' S' X :=
  fun x S2 c d H2 e2 l r q => h x S2 c d H2 (e.trans e2) l r q
theorem XO.none {K : PySem.W.Frag} {Ê : XK} {H : Hp} {S : Sto} : XO K Ê H S fun _ _ => False := fun _ _ _ _ _ _ _ _ q => q.elim

/-- nothing is let out -/
abbrev E00 : L2.St → XK := fun _ => E0
/-- the same at all slots -/
abbrev kE (Ê : XK) : L2.St → XK := fun _ => Ê
abbrev WE := Sl → Sto → QW → QW → Prop
abbrev WT := Sl → Sto → QB → QW → Prop
abbrev WA := Sl → Sto → (List W → Sto → Prop) → QW → Prop
abbrev WO := Sl → Sto → (Option Int → Sto → Prop) → QW → Prop
section
variable (K : PySem.W.Frag) (Ê : L2.St → XK)
def LE (w : WE) : TE := fun τ H Qh => ∃ σ S Q X, RSl K H S σ τ ∧ LinkS K H S ∧ w σ S Q X ∧
  (∀ r S' v H', Ext H S H' S' → LinkS K H' S' → RW K H' S' r v → Q r S' → Qh v H') ∧ XO K (Ê τ) H S X
def LT (w : WT) : TT := fun τ H Qh => ∃ σ S Q X, RSl K H S σ τ ∧ LinkS K H S ∧ w σ S Q X ∧
  (∀ r S' H', Ext H S H' S' → LinkS K H' S' → Q r S' → Qh r H') ∧ XO K (Ê τ) H S X
def LA (w : WA) : TA := fun τ H Qh => ∃ σ S Q X, RSl K H S σ τ ∧ LinkS K H S ∧ w σ S Q X ∧
  (∀ r S' v H', Ext H S H' S' → LinkS K H' S' → RWs K H' S' r v → Q r S' → Qh v H') ∧ XO K (Ê τ) H S X
def LO (w : WO) : TO := fun τ H Qh => ∃ σ S Q X, RSl K H S σ τ ∧ LinkS K H S ∧ w σ S Q X ∧
  (∀ r S' H', Ext H S H' S' → LinkS K H' S' → Q r S' → Qh r H') ∧ XO K (Ê τ) H S X
end
section
variable {K : PySem.W.Frag} {Ê : L2.St → XK} {τ : L2.St} {H : Hp} {σ : Sl} {S : Sto} {X : QW}
/-- a part's reading, from the told one -/
theorem LE.mk {w : WE} {Q : QW} {Qh : VK} (hs : RSl K H S σ τ) (hl : LinkS K H S) (hx : XO K (Ê τ) H S X) (h : w σ S Q X)
    (k : ∀ r S' v H', Ext H S H' S' → LinkS K H' S' → RSl K H' S' σ τ → XO K (Ê τ) H' S' X → RW K H' S' r v → Q r S' → Qh v H') : LE K Ê w τ H Qh :=
  ⟨σ, S, Q, X, hs, hl, h, fun r S' v H' e l rw q => k r S' v H' e l (hs.ext e) (hx.ext e) rw q, hx⟩
theorem LT.mk {w : WT} {Q : QB} {Qh : Bool → Hp → Prop} (hs : RSl K H S σ τ) (hl : LinkS K H S) (hx : XO K (Ê τ) H S X) (h : w σ S Q X)
    (k : ∀ r S' H', Ext H S H' S' → LinkS K H' S' → RSl K H' S' σ τ → XO K (Ê τ) H' S' X → Q r S' → Qh r H') : LT K Ê w τ H Qh :=
  ⟨σ, S, Q, X, hs, hl, h, fun r S' H' e l q => k r S' H' e l (hs.ext e) (hx.ext e) q, hx⟩
theorem LA.mk {w : WA} {Q : List W → Sto → Prop} {Qh : List V → Hp → Prop} (hs : RSl K H S σ τ) (hl : LinkS K H S) (hx : XO K (Ê τ) H S X) (h : w σ S Q X)
    (k : ∀ r S' v H', Ext H S H' S' → LinkS K H' S' → RSl K H' S' σ τ → XO K (Ê τ) H' S' X → RWs K H' S' r v → Q r S' → Qh v H') : LA K Ê w τ H Qh :=
  ⟨σ, S, Q, X, hs, hl, h, fun r S' v H' e l rw q => k r S' v H' e l (hs.ext e) (hx.ext e) rw q, hx⟩
theorem LO.mk {w : WO} {Q : Option Int → Sto → Prop} {Qh : Option Int → Hp → Prop} (hs : RSl K H S σ τ) (hl : LinkS K H S) (hx : XO K (Ê τ) H S X) (h : w σ S Q X)
    (k : ∀ r S' H', Ext H S H' S' → LinkS K H' S' → RSl K H' S' σ τ → XO K (Ê τ) H' S' X → Q r S' → Qh r H') : LO K Ê w τ H Qh :=
  ⟨σ, S, Q, X, hs, hl, h, fun r S' H' e l q => k r S' H' e l (hs.ext e) (hx.ext e) q, hx⟩
end
/-- another reading that asks more -/
theorem _root_.L2.PE.imp {X : Cx} {e : Expr} {t t' : TE} (h : PE X e t) (i : ∀ σ H Q, t' σ H Q → t σ H Q) : PE X e t' := ⟨fun pins s σ H Q I q => h.run pins s σ H Q I (i _ _ _ q)⟩
theorem _root_.L2.PT.imp {X : Cx} {e : Expr} {t t' : TT} (h : PT X e t) (i : ∀ σ H Q, t' σ H Q → t σ H Q) : PT X e t' := ⟨fun pins s σ H Q I q => h.run pins s σ H Q I (i _ _ _ q)⟩
theorem _root_.L2.PW.imp {X : Cx} {e : Expr} {t t' : TT} (h : PW X e t) (i : ∀ σ H Q, t' σ H Q → t σ H Q) : PW X e t' := ⟨fun w pins s σ H Q I q => h.run w pins s σ H Q I (i _ _ _ q)⟩
theorem _root_.L2.PA.imp {X : Cx} {e : List Expr} {t t' : TA} (h : PA X e t) (i : ∀ σ H Q, t' σ H Q → t σ H Q) : PA X e t' := ⟨fun p pins s σ H Q I q => h.run p pins s σ H Q I (i _ _ _ q)⟩
theorem _root_.L2.PO.imp {X : Cx} {e : Option Expr} {t t' : TO} (h : PO X e t) (i : ∀ σ H Q, t' σ H Q → t σ H Q) : PO X e t' := ⟨fun pins s σ H Q I q => h.run pins s σ H Q I (i _ _ _ q)⟩
theorem _root_.L2.PI.imp {X : Cx} {tg e : Expr} {t t' : TI} (h : PI X tg e t) (i : ∀ σ H Q, t' σ H Q → t σ H Q) : PI X tg e t' := ⟨fun pins s σ H Q I q => h.run pins s σ H Q I (i _ _ _ q)⟩
theorem _root_.L2.PS.imp {X : Cx} {e : Stmt} {t t' : TS} (h : PS X e t) (i : ∀ D σ H, t' D σ H → t D σ H) : PS X e t' := ⟨fun pins s σ H Q I q => h.run pins s σ H Q I (i _ _ _ q)⟩
theorem _root_.L2.PSs.imp {X : Cx} {e : List Stmt} {t t' : TS} (h : PSs X e t) (i : ∀ D σ H, t' D σ H → t D σ H) : PSs X e t' := ⟨fun pins s σ H Q I q => h.run pins s σ H Q I (i _ _ _ q)⟩

/-! ## data to the library's data -/
section
variable {K : PySem.W.Frag} {H : Hp} {S : Sto}
mutual
theorem RW.dp : ∀ (w : W) (v : V) (d : PyData), RW K H S w v → w.d = some d → Dp K H v d
  | .non, v, d, h, e => by unfold RW at h; unfold W.d at e; subst h; cases e; constructor
  | .bl b, v, d, h, e => by unfold RW at h; unfold W.d at e; subst h; cases e; constructor
  | .int i, v, d, h, e => by unfold RW at h; unfold W.d at e; subst h; cases e; constructor
  | .str x, v, d, h, e => by unfold RW at h; unfold W.d at e; subst h; cases e; constructor
  | .tup xs, v, d, h, e => by
    unfold RW at h; unfold W.d at e
    obtain ⟨a, vs, rfl, h2, h3⟩ := h
    cases q : W.ds xs with
    | none => rw [q] at e; cases e
    | some ds => rw [q] at e; cases e; exact .tup h2.sq (RWs.dp xs vs ds h3 q)
  | .lst xs, v, d, h, e => by
    unfold RW at h; unfold W.d at e
    obtain ⟨a, vs, rfl, h2, h3⟩ := h
    cases q : W.ds xs with
    | none => rw [q] at e; cases e
    | some ds => rw [q] at e; cases e; exact .lst h2.sq (RWs.dp xs vs ds h3 q)
  | .dct _ _, v, d, h, e => by unfold W.d at e; cases e
  | .ref _, v, d, h, e => by unfold W.d at e; cases e
  | .exc _ _ _, v, d, h, e => by unfold W.d at e; cases e
  | .ins _ _ _, v, d, h, e => by unfold W.d at e; cases e
  | .fnv _, v, d, h, e => by unfold W.d at e; cases e
theorem RWs.dp : ∀ (ws : List W) (vs : List V) (ds : List PyData), RWs K H S ws vs → W.ds ws = some ds → DpAll K H vs ds
  | [], vs, ds, h, e => by unfold RWs at h; unfold W.ds at e; subst h; cases e; constructor
  | w :: ws, vs, ds, h, e => by
    unfold RWs at h; unfold W.ds at e
    obtain ⟨v, r, rfl, h2, h3⟩ := h
    cases q : W.d w with
    | none => rw [q] at e; cases e
    | some d =>
      cases q2 : W.ds ws with
      | none => rw [q, q2] at e; cases e
      | some ds' => rw [q, q2] at e; cases e; exact .cons (RW.dp w v d h2 q) (RWs.dp ws r ds' h3 q2)
end
/-- what is read at a changed place -/
theorem rd_lst {w : W} {v : V} {xs : List W} (l : LinkS K H S) (h : RW K H S w v) (e : rd S w = .lst xs) : ∃ a vs, v = .ref a ∧ SqL K H a vs ∧ RWs K H S xs vs := by
  cases w with
  | lst ys =>
    have e' : W.lst ys = .lst xs := e
    cases e'
    unfold RW at h
    obtain ⟨a, vs, h1, h2, h3⟩ := h
    exact ⟨a, vs, h1, h2.sq, h3⟩
  | ref a =>
    unfold RW at h
    have e' : (match S a with | some (.lst xs) => W.lst xs | some (.dct ks ws) => .dct ks ws | some (.ins c fs ws) => .ins c fs ws | some (.clo _) => .ref a | none => .ref a) = .lst xs := e
    cases q : S a with
    | none => rw [q] at e'; cases e'
    | some o =>
      rw [q] at e'
      cases o with
      | dct _ _ => cases e'
      | ins _ _ _ => cases e'
      | clo _ => cases e'
      | lst ys =>
        cases e'
        obtain ⟨u, h1, vs, rfl, h2⟩ := l.at_ a _ q
        exact ⟨a, vs, h, .inl (.inl h1), h2⟩
  | non => cases e
  | bl => cases e
  | int => cases e
  | str => cases e
  | tup => cases e
  | dct => cases e
  | exc => cases e
  | fnv => cases e
  | ins => cases e
theorem rd_dct {w : W} {v : V} {ks : List Key} {ws : List W} (l : LinkS K H S) (h : RW K H S w v) (e : rd S w = .dct ks ws) : ∃ a kvs, v = .ref a ∧ Rd H a (.dK kvs) ∧ kvs.map (·.1) = ks ∧ RWs K H S ws (kvs.map (·.2)) := by
  cases w with
  | dct ks' ws' =>
    have e' : W.dct ks' ws' = .dct ks ws := e
    cases e'
    unfold RW at h
    obtain ⟨a, kvs, h1, h2, h3, h4, h5⟩ := h
    exact ⟨a, kvs, h1, h3, h4, h5⟩
  | ref a =>
    unfold RW at h
    have e' : (match S a with | some (.lst xs) => W.lst xs | some (.dct ks ws) => .dct ks ws | some (.ins c fs ws) => .ins c fs ws | some (.clo _) => .ref a | none => .ref a) = .dct ks ws := e
    cases q : S a with
    | none => rw [q] at e'; cases e'
    | some o =>
      rw [q] at e'
      cases o with
      | lst _ => cases e'
      | ins _ _ _ => cases e'
      | clo _ => cases e'
      | dct ks' ws' =>
        cases e'
        obtain ⟨u, h1, kvs, rfl, h2, h3⟩ := l.at_ a _ q
        exact ⟨a, kvs, h, .inl h1, h2, h3⟩
  | non => cases e
  | bl => cases e
  | int => cases e
  | str => cases e
  | tup => cases e
  | lst => cases e
  | exc => cases e
  | fnv => cases e
  | ins => cases e
theorem rd_ins {w : W} {v : V} {c : Str} {fs : List Str} {ws : List W} (l : LinkS K H S) (h : RW K H S w v) (e : rd S w = .ins c fs ws) : ∃ a dx kvs, v = .ref a ∧ H a = some (.ins (He.ga K c) dx kvs) ∧ kvs.map (·.1) = fs ∧ RWs K H S ws (kvs.map (·.2)) := by
  cases w with
  | ins c' fs' ws' =>
    have e' : W.ins c' fs' ws' = .ins c fs ws := e
    cases e'
    unfold RW at h
    obtain ⟨a, dx, kvs, h1, h2, h3, h4, h5⟩ := h
    exact ⟨a, dx, kvs, h1, h3, h4, h5⟩
  | ref a =>
    unfold RW at h
    have e' : (match S a with | some (.lst xs) => W.lst xs | some (.dct ks ws) => .dct ks ws | some (.ins c fs ws) => .ins c fs ws | some (.clo _) => .ref a | none => .ref a) = .ins c fs ws := e
    cases q : S a with
    | none => rw [q] at e'; cases e'
    | some o =>
      rw [q] at e'
      cases o with
      | lst _ => cases e'
      | dct _ _ => cases e'
      | clo _ => cases e'
      | ins c' fs' ws' =>
        cases e'
        obtain ⟨u, h1, dx, kvs, rfl, h2, h3⟩ := l.at_ a _ q
        exact ⟨a, dx, kvs, h, h1, h2, h3⟩
  | non => cases e
  | bl => cases e
  | int => cases e
  | str => cases e
  | tup => cases e
  | lst => cases e
  | dct => cases e
  | exc => cases e
  | fnv => cases e
/-- other things read are the things -/
theorem rd_eq {w x : W} (e : rd S w = x) (n1 : ∀ xs, x ≠ .lst xs) (n2 : ∀ ks ws, x ≠ .dct ks ws) (n3 : ∀ c fs ws, x ≠ .ins c fs ws := by intro _ _ _ q; cases q) : w = x := by
  cases w with
  | ref a =>
    have e' : (match S a with | some (.lst xs) => W.lst xs | some (.dct ks ws) => .dct ks ws | some (.ins c fs ws) => .ins c fs ws | some (.clo _) => .ref a | none => .ref a) = x := e
    cases q : S a with
    | none => rw [q] at e'; exact e'
    | some o =>
      rw [q] at e'
      cases o with
      | lst xs => exact absurd e'.symm (n1 xs)
      | dct ks ws => exact absurd e'.symm (n2 ks ws)
      | ins c fs ws => exact absurd e'.symm (n3 c fs ws)
      | clo _ => exact e'
  | _ => exact e
/-- data read, the library's data -/
theorem rd_dp {w : W} {v : V} {d : PyData} (l : LinkS K H S) (h : RW K H S w v) (e : (rd S w).d = some d) : Dp K H v d := by
  cases w with
  | ref a =>
    have e0 : rd S (.ref a) = (match S a with | some (.lst xs) => W.lst xs | some (.dct ks ws) => .dct ks ws | some (.ins c fs ws) => .ins c fs ws | some (.clo _) => .ref a | none => .ref a) := rfl
    cases q : S a with
    | none => rw [e0, q] at e; unfold W.d at e; cases e
    | some o =>
      cases o with
      | dct _ _ => rw [e0, q] at e; unfold W.d at e; cases e
      | ins _ _ _ => rw [e0, q] at e; unfold W.d at e; cases e
      | clo _ => rw [e0, q] at e; unfold W.d at e; cases e
      | lst xs =>
        have er : rd S (.ref a) = .lst xs := by rw [e0, q]
        obtain ⟨b, vs, rfl, h2, h3⟩ := rd_lst l h er
        rw [er] at e
        unfold W.d at e
        cases q2 : W.ds xs with
        | none => rw [q2] at e; cases e
        | some ds => rw [q2] at e; cases e; exact .lst h2 (RWs.dp xs vs ds h3 q2)
  | _ => exact RW.dp _ _ _ h e
end
end PD

set_option Elab.async false
set_option linter.all false
set_option maxRecDepth 100000
set_option maxHeartbeats 4000000
namespace PD
open PySem PySem.Spec PyProof.Rows L2

section
variable {X : Cx} {pins : List (Addr × Obj)} {σ : L2.St} {H : Hp} {S : Sto} {s : Shared}
/-- the end of an operation: data that is known already, or new -/
abbrev Fin (K : PySem.W.Frag) (H : Hp) (S : Sto) (r : W) (Q : VK) : Prop := ∀ v H', Ext H S H' S → LinkS K H' S → RW K H' S r v → Q v H'
theorem Fin.int {K : PySem.W.Frag} {i : Int} {Q : VK} (l : LinkS K H S) (f : Fin K H S (.int i) Q) : Q (.int i) H := f _ _ .refl l (by unfold RW; rfl)
theorem Fin.bl {K : PySem.W.Frag} {i : Bool} {Q : VK} (l : LinkS K H S) (f : Fin K H S (.bl i) Q) : Q (.bl i) H := f _ _ .refl l (by unfold RW; rfl)
theorem Fin.str {K : PySem.W.Frag} {i : Str} {Q : VK} (l : LinkS K H S) (f : Fin K H S (.str i) Q) : Q (.str i) H := f _ _ .refl l (by unfold RW; rfl)
theorem Fin.lst {K : PySem.W.Frag} {ws : List W} {vs : List V} {Q : VK} (l : LinkS K H S) (r : RWs K H S ws vs) (f : Fin K H S (.lst ws) Q) : ∀ p, H p = none → Q (.ref p) (upd H p (.lst vs)) := fun p hp =>
  f _ _ (ext_new hp) (l.new hp) (by unfold RW; exact ⟨p, vs, rfl, .inl ⟨.inl upd_same, l.fresh hp⟩, r.ext (ext_new hp)⟩)
theorem Fin.tup {K : PySem.W.Frag} {ws : List W} {vs : List V} {Q : VK} (l : LinkS K H S) (r : RWs K H S ws vs) (f : Fin K H S (.tup ws) Q) : ∀ p, H p = none → Q (.ref p) (upd H p (.tup vs)) := fun p hp =>
  f _ _ (ext_new hp) (l.new hp) (by unfold RW; exact ⟨p, vs, rfl, .inl ⟨.inl upd_same, l.fresh hp⟩, r.ext (ext_new hp)⟩)
theorem RW.tup_rd {K : PySem.W.Frag} {ws : List W} {v : V} (h : RW K H S (.tup ws) v) : ∃ a vs, v = .ref a ∧ RdT K H S a vs ∧ RWs K H S ws vs := by unfold RW at h; exact h
theorem RW.int_ {K : PySem.W.Frag} {i : Int} {v : V} (h : RW K H S (.int i) v) : v = .int i := by unfold RW at h; exact h
theorem RW.str_ {K : PySem.W.Frag} {i : Str} {v : V} (h : RW K H S (.str i) v) : v = .str i := by unfold RW at h; exact h
theorem RW.bl_ {K : PySem.W.Frag} {i : Bool} {v : V} (h : RW K H S (.bl i) v) : v = .bl i := by unfold RW at h; exact h
theorem rd_int {w : W} {i : Int} (e : rd S w = .int i) : w = .int i := rd_eq e (by intro _ q; cases q) (by intro _ _ q; cases q)
theorem rd_str {w : W} {i : Str} (e : rd S w = .str i) : w = .str i := rd_eq e (by intro _ q; cases q) (by intro _ _ q; cases q)
theorem rd_tup {w : W} {i : List W} (e : rd S w = .tup i) : w = .tup i := rd_eq e (by intro _ q; cases q) (by intro _ _ q; cases q)
theorem rd_bl {w : W} {i : Bool} (e : rd S w = .bl i) : w = .bl i := rd_eq e (by intro _ q; cases q) (by intro _ _ q; cases q)
theorem rd_non {w : W} (e : rd S w = .non) : w = .non := rd_eq e (by intro _ q; cases q) (by intro _ _ q; cases q)

/-- two lists, one behind the other -/
theorem cat_lists {l b : Addr} {xs ys : List V} {v u : Value} {Q : VK} (I : Inv X pins σ H s) (h1 : SqL X.K H l xs) (h2 : SqL X.K H b ys) (hz : xs.length + ys.length ≤ sizeLine)
    (q : ∀ p, H p = none → Q (.ref p) (upd H p (.lst (xs ++ ys)))) : wpAny (model X.prog X.w) X.A (binaryOp .Add (.ref l) (.ref b)) (EP X pins σ Q) X.xe s := by
  obtain ⟨i1, r1, ⟨⟨c1, d1, t1, g1⟩, n1, e1, k1, z1, y1⟩, _⟩ := I.list h1
  obtain ⟨i2, r2, ⟨⟨c2, d2, t2, g2⟩, n2, e2, k2, z2, y2⟩, _⟩ := I.list h2
  simp only at k1 z1 y1 k2 z2 y2
  subst k1 z1 y1 k2 z2 y2
  have len : i1.toArray.size + i2.toArray.size ≤ sizeLine := by
    rw [List.size_toArray, List.size_toArray, ← r1.length, ← r2.length]; exact hz
  refine concat_meets ⟨_, e1, rfl⟩ ⟨_, e2, rfl⟩ noFill_list_add seq_list_add PySem.F.slot_list_add PySem.F.entry_list_add (PySem.F.args_list_add_2 _ _)
    (list_addW l b i1.toArray i2.toArray n1 n2 none none g1 g2 len) ⟨e1, e2, ?_⟩
  have ea : i1.toArray ++ i2.toArray = (i1 ++ i2).toArray := by simp
  rw [ea]
  exact ⟨.ref _, _, I.lnew (t' := s.toks) (r1.append r2) (by rw [List.length_append]; exact hz), rfl, q _ I.fresh⟩
/-- a text times a number -/
theorem mul_texts {z : Str} {j : Int} {t u : Tok} {Q : VK} (I : Inv X pins σ H s) (h0 : 0 ≤ j) (h1 : j ≤ 1000) (h2 : z.length ≤ 1000) (q : Q (.str (Txt.mul z j)) H) :
    wpAny (model X.prog X.w) X.A (binaryOp .Mult (.str z t) (.int j u)) (EP X pins σ Q) X.xe s := by
  refine PySem.SB.mul ⟨?_, fun _ _ => ?_, fun _ _ => ?_⟩ fun t' k => ⟨.str _, H, I.tok _, ⟨_, rfl⟩, q⟩
  · have a : ¬ j < -(2 ^ 63 : Int) := by omega
    have b : ¬ j ≥ (2 ^ 63 : Int) := by omega
    rw [decide_eq_false a, decide_eq_false b]; rfl
  · have hj : 0 < j := by omega
    have : (1000 : Int) ≤ (2 ^ 63 - 1) / j := by
      rw [Int.le_ediv_iff_mul_le hj]
      have : 1000 * j ≤ 1000 * 1000 := by omega
      omega
    omega
  · show Builtin.Str.tooLong _ = false
    unfold Builtin.Str.tooLong
    have h3 : j.toNat ≤ 1000 := by omega
    have h4 : z.length * j.toNat ≤ 1000 * 1000 := Nat.mul_le_mul h2 h3
    have : ¬ (sizeLine < z.length * j.toNat) := by
      have : (1000 * 1000 : Nat) ≤ sizeLine := by decide
      omega
    first
      | exact decide_eq_false this
      | (simp only [decide_eq_false_iff_not]; omega)
theorem tup_mul1 (l : Addr) (items : Array Value) (n : Nat) (dd : Option Addr) (sl : Array (Option Value)) (u : Tok) :
    Meets (Builtin.«tuple.__mul__» ⟨[.ref l, .int 1 u], []⟩) (fun _ R s => s.heap.get? l = some { cls := .type "tuple", dict := dd, data := .seq items n, slots := sl } ∧ R (.ok (.ret (.ref l))) s) :=
  Meets.of_wp fun prg wd Ar R' sh hh => by
    obtain ⟨hp, g, d, tk, os⟩ := sh
    obtain ⟨h1, h2⟩ := hh
    have ix := AutoSeq1.idx_int
    have c1 : (items.isEmpty || (1 : Int) == 1) = true := by simp
    wp_walk using AutoSeq1.wpAny_loadPart' h1
    repeat (first
      | (refine wpAny_ite_true (decide_eq_true (by rw [c1])) ?_; wp_walk using AutoSeq1.wpAny_loadPart' h1)
      | (refine wpAny_ite_false (decide_eq_false (by decide)) ?_; wp_walk using AutoSeq1.wpAny_loadPart' h1))
    exact ⟨_, rfl, h2⟩
theorem op_rep1 : OpR X (binaryOp .Mult) (fun x y H Q => ∃ l xs, x = .ref l ∧ y = .int 1 ∧ SqT X.K H l xs ∧ Q (.ref l) H) := by
  intro pins s σ H x y v u Q I rx ry h
  obtain ⟨l, xs, rfl, rfl, hT, q⟩ := h
  cases rx
  obtain ⟨t, rfl⟩ := ry
  obtain ⟨its, r, ⟨⟨cls, dd, data, sl⟩, ho, hc, n, hd⟩, hs⟩ := I.tuple hT
  simp only at hc hd
  subst hc hd
  refine wpAny_binaryOp_repeat_ref (T := "tuple") (U := "int") (by decide) ⟨_, ho, rfl⟩ (fun s' => typeIs_int s' 1 t) noFill_tuple_mul PySem.F.fills_int_mul PySem.F.slot_int_rmul repeat_tuple PySem.F.slot_int_index.lookup ?_
  refine call_meets PySem.F.slot_int_rmul (typeIs_int s 1 t) PySem.F.entry_int_rmul (PySem.F.args_int_rmul_2 _ _) (int_rmul_tuple 1 t l its.toArray n dd sl) ⟨ho, rfl, ⟨_, ho, rfl⟩, ?_⟩
  exact call_meets PySem.F.slot_tuple_mul ⟨_, ho, rfl⟩ PySem.F.entry_tuple_mul (PySem.F.args_tuple_mul_2 _ _) (tup_mul1 l its.toArray n dd sl t) ⟨ho, ⟨.ref l, H, I, rfl, q⟩⟩
theorem op_repL : OpR X (binaryOp .Mult) (fun x y H Q => ∃ l k xs, x = .ref l ∧ y = .int k ∧ SqL X.K H l xs ∧ 0 ≤ k ∧ k ≤ 1000 ∧ xs.length ≤ 1000 ∧ ∀ p, H p = none → Q (.ref p) (upd H p (.lst (List.replicate k.toNat xs).flatten))) := by
  intro pins s σ H x y v u Q I rx ry h
  obtain ⟨l, k, xs, rfl, rfl, hH, h1, h2, hz, q⟩ := h
  cases rx
  obtain ⟨t, rfl⟩ := ry
  obtain ⟨its, r, ⟨⟨cls, dd, data, sl⟩, n, e, hc, hdn, hdt⟩, hlen⟩ := I.list hH
  simp only at hc hdn hdt
  subst hc hdn hdt
  have hl := r.length
  have hle : its.length * k.toNat ≤ 1000 * 1000 := Nat.mul_le_mul (by omega) (by omega)
  have hsz : (1000 * 1000 : Nat) ≤ sizeLine := by decide
  have hcap : ¬ its.toArray.size * k.toNat > (2 ^ 63 - 1) / 8 := by
    have : (sizeLine : Nat) ≤ (2 ^ 63 - 1) / 8 := by decide
    rw [List.size_toArray]
    omega
  have hfit : ¬ (!Builtin.List.listFitsIndex k) = true := by
    rw [fitsIndex_both (by omega) (by omega)]
    exact Bool.false_ne_true
  have hlong : ¬ Builtin.List.listTooLong (its.toArray.size * k.toNat) = true := by
    rw [notLongL (by rw [List.size_toArray]; omega)]
    exact Bool.false_ne_true
  have hnew : List.foldl (fun x1 x2 => x1 ++ x2) #[] (List.replicate (if its.toArray.isEmpty = true then 0 else k.toNat) its.toArray) = (List.replicate k.toNat its).flatten.toArray := by
    have f0 : ∀ m : Nat, List.foldl (fun x1 x2 => x1 ++ x2) #[] (List.replicate m its.toArray) = (List.replicate m its).flatten.toArray := fun m => by
      have := foldl_rep its m []
      rw [List.nil_append] at this
      exact this
    rw [f0]
    cases its with
    | nil => simp
    | cons a r' => rw [if_neg (by simp)]
  refine wpAny_binaryOp_repeat_ref (T := "list") (U := "int") (by decide) ⟨_, e, rfl⟩ (fun s' => typeIs_int s' k t) noFill_list_mul PySem.F.fills_int_mul PySem.F.slot_int_rmul repeat_list PySem.F.slot_int_index.lookup
    (call_meets PySem.F.slot_int_rmul (typeIs_int s k t) PySem.F.entry_int_rmul (PySem.F.args_int_rmul_2 _ _) (lm_int_rmul_list_any k t l its.toArray n _ sl)
      ⟨e, rfl, ⟨_, e, rfl⟩, call_meets PySem.F.slot_list_mul ⟨_, e, rfl⟩ PySem.F.entry_list_mul (PySem.F.args_list_mul_2 _ _) (lm_list_mul_any l its.toArray n _ sl k t hfit hcap hlong) ⟨e, ?_⟩⟩)
  rw [hnew]
  exact ⟨.ref _, _, I.lnew (t' := s.toks) (r.rep k.toNat) (by rw [PyProof.Rows.lm_len_rep_flat, Nat.mul_comm, hl]; omega), rfl, q _ I.fresh⟩
def rBin (K : PySem.W.Frag) (op : Operator) : R2 := fun x y H Q => ∃ S a b r, LinkS K H S ∧ RW K H S a x ∧ RW K H S b y ∧ binW op (rd S a) (rd S b) = some r ∧ Fin K H S r Q
theorem op_bin (op : Operator) : OpR X (binaryOp op) (rBin X.K op) := by
  intro pins s σ H x y v u Q I rx ry h
  obtain ⟨S, a, b, r, l, ra, rb, e, f⟩ := h
  generalize ea : rd S a = a' at e
  generalize eb : rd S b = b' at e
  unfold binW at e
  split at e
  · cases e; obtain rfl := rd_int ea; obtain rfl := rd_int eb
    exact op_add pins s σ H x y v u Q I rx ry ⟨_, _, ra.int_, rb.int_, f.int l⟩
  · cases e; obtain rfl := rd_int ea; obtain rfl := rd_int eb
    exact op_sub pins s σ H x y v u Q I rx ry ⟨_, _, ra.int_, rb.int_, f.int l⟩
  · split at e
    · rename_i hc
      cases e; obtain rfl := rd_int ea; obtain rfl := rd_int eb
      rcases hc with hc | hc
      · exact op_mul pins s σ H x y v u Q I rx ry ⟨_, _, ra.int_, rb.int_, hc, f.int l⟩
      · exact op_mulW pins s σ H x y v u Q I rx ry ⟨_, _, ra.int_, rb.int_, hc, f.int l⟩
    · cases e
  · split at e
    · rename_i hc
      cases e; obtain rfl := rd_int ea; obtain rfl := rd_int eb
      exact op_mod pins s σ H x y v u Q I rx ry ⟨_, _, ra.int_, rb.int_, hc, f.int l⟩
    · cases e
  · split at e
    · rename_i hc
      cases e; obtain rfl := rd_int ea; obtain rfl := rd_int eb
      exact op_fdivW pins s σ H x y v u Q I rx ry ⟨_, _, ra.int_, rb.int_, hc, f.int l⟩
    · cases e
  · split at e
    · rename_i hc
      cases e; obtain rfl := rd_int ea; obtain rfl := rd_int eb
      exact op_pow pins s σ H x y v u Q I rx ry ⟨_, _, ra.int_, rb.int_, hc, f.int l⟩
    · cases e
  · split at e
    · rename_i hc
      cases e; obtain rfl := rd_str ea; obtain rfl := rd_str eb
      exact op_add_str pins s σ H x y v u Q I rx ry ⟨_, _, ra.str_, rb.str_, hc, f.str l⟩
    · cases e
  · split at e
    · rename_i hc
      cases e; obtain rfl := rd_str ea; obtain rfl := rd_int eb
      obtain rfl := ra.str_
      obtain rfl := rb.int_
      obtain ⟨t, rfl⟩ := rx
      obtain ⟨t', rfl⟩ := ry
      exact mul_texts I hc.1 hc.2.1 hc.2.2 (f.str l)
    · cases e
  · split at e
    · rename_i hc
      cases e
      obtain ⟨p, vs, rfl, h1, r1⟩ := rd_lst l ra ea
      obtain ⟨q, us, rfl, h2, r2⟩ := rd_lst l rb eb
      cases rx
      cases ry
      exact cat_lists (v := .none) (u := .none) I h1 h2 (by rw [← r1.len, ← r2.len]; exact hc) (f.lst l (r1.append r2))
    · cases e
  · split at e
    · rename_i hc
      cases e; obtain rfl := rd_tup ea; obtain rfl := rd_tup eb
      obtain ⟨p, vs, rfl, h1, r1⟩ := ra.tup_rd
      obtain ⟨q, us, rfl, h2, r2⟩ := rb.tup_rd
      refine op_catA pins s σ H _ _ v u Q I rx ry ⟨p, q, vs, us, rfl, rfl, h1.sq, h2.sq, by rw [← r1.len, ← r2.len]; exact hc, fun e => ?_, fun _ e => ?_, fun _ _ => f.tup l (r1.append r2)⟩
      · subst e
        refine f _ _ .refl l ?_
        have : ∀ {ws : List W}, RWs X.K H S ws [] → ws = [] := fun {ws} z => List.length_eq_zero_iff.mp z.len
        rw [this r1]
        exact rb
      · subst e
        refine f _ _ .refl l ?_
        have : ∀ {ws : List W}, RWs X.K H S ws [] → ws = [] := fun {ws} z => List.length_eq_zero_iff.mp z.len
        rw [this r2, List.append_nil]
        exact ra
    · cases e
  · split at e
    case isFalse => cases e
    rename_i hc
    cases e; obtain rfl := rd_int eb
    obtain ⟨p, vs, rfl, h1, r1⟩ := rd_lst l ra ea
    obtain rfl := rb.int_
    have rep : ∀ n, RWs X.K H S (List.replicate n _).flatten (List.replicate n vs).flatten := fun n => by
      induction n with
      | zero => exact .nil
      | succ n ih => rw [List.replicate_succ, List.replicate_succ, List.flatten_cons, List.flatten_cons]; exact r1.append ih
    exact op_repL pins s σ H _ _ v u Q I rx ry ⟨p, _, vs, rfl, rfl, h1, hc.1, hc.2.1, by rw [← r1.len]; exact hc.2.2, f.lst l (rep _)⟩
  · split at e
    · rename_i hc
      subst hc
      cases e; obtain rfl := rd_tup ea; obtain rfl := rd_int eb
      have ra' := ra
      obtain ⟨p, vs, rfl, h1, r1⟩ := ra.tup_rd
      obtain rfl := rb.int_
      exact op_rep1 pins s σ H _ _ v u Q I rx ry ⟨p, vs, rfl, rfl, h1.sq, f _ _ .refl l ra'⟩
    · split at e
      · rename_i hc
        obtain ⟨rfl, ne0⟩ := hc
        cases e; obtain rfl := rd_tup ea; obtain rfl := rd_int eb
        obtain ⟨p, vs, rfl, h1, r1⟩ := ra.tup_rd
        obtain rfl := rb.int_
        have ne : vs ≠ [] := fun z => by subst z; exact ne0 (List.length_eq_zero_iff.mp r1.len)
        exact op_rep0 pins s σ H _ _ v u Q I rx ry ⟨p, vs, rfl, rfl, h1.sq, ne, f.tup l .nil⟩
      split at e
      case isFalse => cases e
      rename_i hc
      cases e; obtain rfl := rd_tup ea; obtain rfl := rd_int eb
      obtain ⟨p, vs, rfl, h1, r1⟩ := ra.tup_rd
      obtain rfl := rb.int_
      have rep : ∀ n, RWs X.K H S (List.replicate n _).flatten (List.replicate n vs).flatten := fun n => by
        induction n with
        | zero => exact .nil
        | succ n ih => rw [List.replicate_succ, List.replicate_succ, List.flatten_cons, List.flatten_cons]; exact r1.append ih
      have ne : vs ≠ [] := fun z => by subst z; exact hc.2.2.2 (List.length_eq_zero_iff.mp r1.len)
      exact op_repT pins s σ H _ _ v u Q I rx ry ⟨p, _, vs, rfl, rfl, h1.sq, ne, hc.1, hc.2.1, by rw [← r1.len]; exact hc.2.2.1, f.tup l (rep _)⟩
  · cases e
/-- + of rows, to be changed -/
def rCat (K : PySem.W.Frag) : R2 := fun x y H Qh => ∃ S a b xs ys, LinkS K H S ∧ RW K H S a x ∧ RW K H S b y ∧ rd S a = .lst xs ∧ rd S b = .lst ys ∧ xs.length + ys.length ≤ sizeLine ∧
  ∀ p vs, H p = none → RWs K H S (xs ++ ys) vs → Qh (.ref p) (upd H p (.lst vs))
theorem op_cat : OpR X (binaryOp .Add) (rCat X.K) := by
  intro pins s σ H x y v u Q I rx ry ⟨S, a, b, xs, ys, l, ra, rb, ea, eb, hz, f⟩
  obtain ⟨p, vs, rfl, h1, r1⟩ := rd_lst l ra ea
  obtain ⟨q, us, rfl, h2, r2⟩ := rd_lst l rb eb
  cases rx
  cases ry
  exact cat_lists (v := .none) (u := .none) I h1 h2 (by rw [← r1.len, ← r2.len]; exact hz) fun p hp => f p _ hp (r1.append r2)
end
end PD

set_option Elab.async false
set_option linter.all false
set_option maxRecDepth 100000
set_option maxHeartbeats 4000000
namespace PD
open PySem PySem.Spec PyProof.Rows L2

/-! ## keys, dicts -/
section
variable {K : PySem.W.Frag} {H : Hp} {S : Sto}
theorem RW.key {w : W} {v : V} {k : Key} (h : RW K H S w v) (e : keyOf w = some k) : v = kV k := by
  cases w <;> first | (cases e; unfold RW at h; exact h) | cases e
theorem dget {H : Hp} {a : Addr} {kvs : List (Key × V)} {k : Key} (e : Rd H a (.dK kvs)) : DGet H a (kV k) (valV kvs k) := .inl ⟨kvs, k, e, rfl, rfl⟩
theorem look_val : ∀ {kvs : List (Key × V)} {ws : List W} {k : Key}, RWs K H S ws (kvs.map (·.2)) →
    (∀ w, look (kvs.map (·.1)) ws k = some w → ∃ v, valV kvs k = some v ∧ RW K H S w v) ∧ (look (kvs.map (·.1)) ws k = none → valV kvs k = none)
  | [], ws, k, h => ⟨fun w e => (by cases ws <;> cases e), fun _ => rfl⟩
  | (k', v) :: r, ws, k, h => by
    cases ws with
    | nil => unfold RWs at h; cases h
    | cons w ws =>
      unfold RWs at h
      obtain ⟨v', vs, e, h2, h3⟩ := h
      have e' : v :: r.map (·.2) = v' :: vs := e
      cases e'
      obtain ⟨i1, i2⟩ := look_val (k := k) h3
      have un : look (((k', v) :: r).map (·.1)) (w :: ws) k = if k' = k then some w else look (r.map (·.1)) ws k := rfl
      by_cases q : k' = k
      · rw [un, if_pos q]
        exact ⟨fun u z => by cases z; exact ⟨v, valV_pos q, h2⟩, fun z => by cases z⟩
      · rw [un, if_neg q]
        have e2 : valV ((k', v) :: r) k = valV r k := by simp [valV, List.find?_cons, q]
        rw [e2]
        exact ⟨i1, i2⟩
theorem put_keys : ∀ (kvs : List (Key × V)) (ws : List W) (k : Key) (v : V) (w : W), (putKW (kvs.map (·.1)) ws k w).1 = (L2.putK kvs k v).map (·.1) := fun kvs ws k v w => by
  unfold putKW L2.putK
  have e : ((kvs.map (·.1)).any fun x => decide (x = k)) = kvs.any fun kv => decide (kv.1 = k) := by rw [List.any_map]; rfl
  rw [e]
  split
  · rw [List.map_map]
    refine List.map_congr_left fun p _ => ?_
    show p.1 = (if p.1 = k then (p.1, v) else p).1
    split <;> rfl
  · rw [List.map_append]; rfl
theorem set_vals : ∀ {kvs : List (Key × V)} {ws : List W} {k : Key} {v : V} {w : W}, RWs K H S ws (kvs.map (·.2)) → RW K H S w v →
    RWs K H S (setAt k w (kvs.map (·.1)) ws) ((kvs.map fun kv => if kv.1 = k then (kv.1, v) else kv).map (·.2))
  | [], ws, k, v, w, h, r => by
    have : setAt k w ([] : List Key) ws = [] := by cases ws <;> rfl
    show RWs K H S (setAt k w [] ws) []
    rw [this]; exact .nil
  | (k', v') :: t, ws, k, v, w, h, r => by
    cases ws with
    | nil => unfold RWs at h; cases h
    | cons w' ws =>
      unfold RWs at h
      obtain ⟨v2, vs, e, h2, h3⟩ := h
      have e' : v' :: t.map (·.2) = v2 :: vs := e
      cases e'
      have ih := set_vals (k := k) h3 r
      show RWs K H S ((if k' = k then w else w') :: setAt k w (t.map (·.1)) ws) (((if k' = k then (k', v) else (k', v')) : Key × V).2 :: _)
      refine .cons ?_ ih
      split
      · exact r
      · exact h2
theorem put_vals {kvs : List (Key × V)} {ws : List W} {k : Key} {v : V} {w : W} (h : RWs K H S ws (kvs.map (·.2))) (r : RW K H S w v) :
    RWs K H S (putKW (kvs.map (·.1)) ws k w).2 ((L2.putK kvs k v).map (·.2)) := by
  unfold putKW L2.putK
  have e : ((kvs.map (·.1)).any fun x => decide (x = k)) = kvs.any fun kv => decide (kv.1 = k) := by rw [List.any_map]; rfl
  rw [e]
  split
  · exact set_vals h r
  · rw [List.map_append]
    exact h.append (.cons r .nil)
end

section
variable {X : Cx} {pins : List (Addr × Obj)} {σ : L2.St} {H : Hp} {S : Sto} {s : Shared}
/-! ## comparisons -/
def rCmp (K : PySem.W.Frag) (op : CmpOp) : R2 := fun x y H Q => ∃ S a b r, LinkS K H S ∧ RW K H S a x ∧ RW K H S b y ∧ cmpW op (rd S a) (rd S b) = some r ∧ Q (.bl r) H
theorem okD_d {d : PyData} (h : okD d = true) : d.plain = true ∧ d.depth ≤ 60 := by
  unfold okD at h
  rw [Bool.and_eq_true] at h
  exact ⟨h.1, of_decide_eq_true h.2⟩
theorem eqD_some {a b : W} {r : Bool} (e : eqD a b = some r) : ∃ x y, a.d = some x ∧ b.d = some y ∧ okD x = true ∧ okD y = true ∧ r = PyData.eqv x y := by
  unfold eqD at e
  cases qa : a.d with
  | none => rw [qa] at e; cases e
  | some x =>
    cases qb : b.d with
    | none => rw [qa, qb] at e; cases e
    | some y =>
      rw [qa, qb] at e
      have e' : (if okD x && okD y then some (PyData.eqv x y) else none) = some r := e
      split at e'
      · rename_i h
        rw [Bool.and_eq_true] at h
        cases e'
        exact ⟨x, y, rfl, rfl, h.1, h.2, rfl⟩
      · cases e'
theorem eqW_some {a b : W} {r : Bool} (e : eqW a b = some r) : (∃ x y, a.d = some x ∧ b.d = some y ∧ okD x = true ∧ okD y = true ∧ r = PyData.eqv x y) ∨ (∃ xs, a = .tup xs ∧ b = .tup [] ∧ r = xs.isEmpty) ∨ ∃ ks ws ls us, a = .dct ks ws ∧ b = .dct ls us ∧ (if ks.length = ls.length then eqRows ls us ks ws else some false) = some r := by
  unfold eqW at e
  cases q : eqD a b with
  | some r' => rw [q] at e; cases e; exact .inl (eqD_some q)
  | none =>
    rw [q] at e
    have e' : eqT a b = some r := e
    unfold eqT at e'
    split at e'
    · cases e'; exact .inr (.inl ⟨_, rfl, rfl, rfl⟩)
    · exact .inr (.inr ⟨_, _, _, _, rfl, rfl, e'⟩)
    · cases e'
theorem inL_some {x : W} {ys : List W} {r : Bool} (e : inL x ys = some r) : ∃ ds d, W.ds ys = some ds ∧ x.d = some d ∧ PyData.plainAll ds = true ∧ PyData.depthAll ds ≤ 60 ∧ okD d = true ∧ r = ds.any fun y => PyData.eqv y d := by
  unfold inL at e
  cases qa : W.ds ys with
  | none => rw [qa] at e; cases e
  | some ds =>
    cases qb : x.d with
    | none => rw [qa, qb] at e; cases e
    | some d =>
      rw [qa, qb] at e
      have e' : (if okDs ds && okD d then some (ds.any fun y => PyData.eqv y d) else none) = some r := e
      split at e'
      · rename_i h
        rw [Bool.and_eq_true] at h
        cases e'
        have h1 := h.1
        unfold okDs at h1
        rw [Bool.and_eq_true] at h1
        exact ⟨ds, d, rfl, rfl, h1.1, of_decide_eq_true h1.2, h.2, rfl⟩
      · cases e'
theorem isN_of {K : PySem.W.Frag} {a : W} {x : V} (h : RW K H S a x) : isN a = decide (x = .non) := by
  cases a with
  | non => unfold RW at h; subst h; rfl
  | bl b => unfold RW at h; subst h; rfl
  | int b => unfold RW at h; subst h; rfl
  | str b => unfold RW at h; subst h; rfl
  | ref b => unfold RW at h; subst h; rfl
  | tup b => unfold RW at h; obtain ⟨_, _, rfl, _⟩ := h; rfl
  | lst b => unfold RW at h; obtain ⟨_, _, rfl, _⟩ := h; rfl
  | dct b c => unfold RW at h; obtain ⟨_, _, rfl, _⟩ := h; rfl
  | exc => unfold RW at h; obtain ⟨_, _, _, _, rfl, _⟩ := h; rfl
  | ins => unfold RW at h; obtain ⟨_, _, _, rfl, _⟩ := h; rfl
  | fnv => unfold RW at h; subst h; rfl
theorem isN_rd (a : W) : isN (rd S a) = isN a := by
  cases a with
  | ref b =>
    show isN (match S b with | some (.lst xs) => W.lst xs | some (.dct ks ws) => .dct ks ws | some (.ins c fs ws) => .ins c fs ws | some (.clo _) => .ref b | none => .ref b) = false
    split <;> rfl
  | _ => rfl
theorem eqT_at (I : Inv X pins σ H s) {x y : V} {v u : Value} {a b : W} {xs : List W} (l : LinkS X.K H S) (ra : RW X.K H S a x) (rb : RW X.K H S b y) (ea : rd S a = .tup xs) (eb : rd S b = .tup []) (rx : RelV x v) (ry : RelV y u) :
    ∃ p q its its2, v = .ref p ∧ u = .ref q ∧ s.heap.IsTuple p its ∧ s.heap.IsTuple q its2 ∧ its2.size = 0 ∧ its.size = xs.length := by
  obtain rfl := rd_eq ea (by intro _ q; cases q) (by intro _ _ q; cases q)
  obtain rfl := rd_eq eb (by intro _ q; cases q) (by intro _ _ q; cases q)
  unfold RW at ra rb
  obtain ⟨p, vs, rfl, h2, h3⟩ := ra
  obtain ⟨q, us, rfl, k2, k3⟩ := rb
  obtain ⟨its, hv, ht, _⟩ := I.tuple h2.sq
  obtain ⟨its2, hv2, ht2, _⟩ := I.tuple k2.sq
  cases rx
  cases ry
  refine ⟨p, q, its.toArray, its2.toArray, rfl, rfl, ht, ht2, ?_, ?_⟩
  · have e1 := RWs.len k3
    have e2 := hv2.length
    rw [List.size_toArray]
    rw [List.length_nil] at e1
    omega
  · have e1 := RWs.len h3
    have e2 := hv.length
    rw [List.size_toArray]
    omega
theorem hits_W (I : Inv X pins σ H s) {A : Around} (hu : A.units + 60 < cLine) {kvs : List (Key × V)} {us : List W} {vb : List (Key × Value)} (rb : KV kvs vb) (h3 : RWs X.K H S us (kvs.map (·.2))) :
    ∀ {ks : List (Key × V)} {va : List (Key × Value)}, KV ks va → ∀ {ws : List W} {r : Bool}, RWs X.K H S ws (ks.map (·.2)) → eqRows (kvs.map (·.1)) us (ks.map (·.1)) ws = some r → PySem.W.KeqHits A s vb va r := by
  intro ks va ra
  unfold KV at ra
  induction ra with
  | nil =>
    intro ws r h e
    have hw : ws = [] := by cases ws with
      | nil => rfl
      | cons w ws => unfold RWs at h; obtain ⟨_, _, q, _⟩ := h; cases q
    subst hw
    cases e
    exact .nil
  | @cons p q ps qs h t ih =>
    intro ws r hw e
    obtain ⟨h1, h2⟩ := h
    obtain ⟨k, v⟩ := p
    obtain ⟨k', v'⟩ := q
    have h1' : k = k' := h1
    subst h1'
    cases ws with
    | nil => cases e
    | cons w ws =>
      unfold RWs at hw
      obtain ⟨v2, vs2, q2, hw1, hw2⟩ := hw
      cases q2
      obtain ⟨i1, i2⟩ := look_val (k := k) h3
      have e' : (match look (kvs.map (·.1)) us k with
        | none => some false
        | some u => (eqD w u).bind fun e => (eqRows (kvs.map (·.1)) us (ps.map (·.1)) ws).map fun b => e && b) = some r := e
      cases q3 : look (kvs.map (·.1)) us k with
      | none =>
        rw [q3] at e'
        cases e'
        refine .miss (RelO.none_of ?_)
        rw [← i2 q3]
        exact rb.val k
      | some u =>
        rw [q3] at e'
        replace e' : ((eqD w u).bind fun e => (eqRows (kvs.map (·.1)) us (ps.map (·.1)) ws).map fun b => e && b) = some r := e'
        obtain ⟨y, z, r2⟩ := i1 u q3
        obtain ⟨y', hy, ry⟩ := RelO.some_of (v := y) (o := valueAt vb k) (by rw [← z]; exact rb.val k)
        cases q4 : eqD w u with
        | none => rw [q4] at e'; cases e'
        | some c =>
          cases q5 : eqRows (kvs.map (·.1)) us (ps.map (·.1)) ws with
          | none => rw [q4, q5] at e'; cases e'
          | some d =>
            rw [q4, q5] at e'
            have e2 : some (c && d) = some r := e'
            cases e2
            obtain ⟨x1, x2, d1, d2, o1, o2, rfl⟩ := eqD_some q4
            obtain ⟨as, r3⟩ := Dp.reads I x1 _ _ (RW.dp _ _ _ hw1 d1) h2
            obtain ⟨bs, r4⟩ := Dp.reads I x2 _ _ (RW.dp _ _ _ r2 d2) ry
            have k1 := okD_d o1
            have k2 := okD_d o2
            exact .hit hy (PySem.SeqAt.eqAt_plain _ _ A s _ _ as bs r3 r4 k1.1 k2.1 (by have := k1.2; omega)) (ih hw2 q5)
theorem eqT_dct (I : Inv X pins σ H s) (hu : X.A.units + 64 < cLine) {x y : V} {v u : Value} {a b : W} {ks ls : List Key} {ws us : List W} {r : Bool} (l : LinkS X.K H S) (ra : RW X.K H S a x) (rb : RW X.K H S b y) (ea : rd S a = .dct ks ws) (eb : rd S b = .dct ls us) (rx : RelV x v) (ry : RelV y u)
    (e : (if ks.length = ls.length then eqRows ls us ks ws else some false) = some r) :
    ∃ p q va vb r', v = .ref p ∧ u = .ref q ∧ (p == sysModules) = false ∧ (q == sysModules) = false ∧ s.heap.DictOf (mixKind X.prog X.w) p va ∧ s.heap.DictOf (mixKind X.prog X.w) q vb ∧
      (va.length = vb.length → PySem.W.KeqHits X.A.in1 s vb va r') ∧ (va.length == vb.length && r') = r := by
  obtain ⟨p, kvs, rfl, h1, rfl, h3⟩ := rd_dct l ra ea
  obtain ⟨q, lvs, rfl, k1, rfl, k3⟩ := rd_dct l rb eb
  obtain ⟨_, ya, va, va', da⟩ := dk_rd I.hok h1
  obtain ⟨_, yb, vb, vb', db⟩ := dk_rd I.hok k1
  cases rx
  cases ry
  have l1 := va'.length
  have l2 := vb'.length
  rw [List.length_map, List.length_map] at e
  by_cases hl : kvs.length = lvs.length
  · rw [if_pos hl] at e
    refine ⟨p, q, va, vb, r, rfl, rfl, ya, yb, da, db, fun _ => hits_W I (show X.A.in1.units + 60 < cLine from ?_) vb' k3 va' h3 e, ?_⟩
    · show X.A.units + 1 + 60 < cLine
      omega
    · rw [← l1, ← l2, hl, beq_self_eq_true, Bool.true_and]
  · rw [if_neg hl] at e
    cases e
    refine ⟨p, q, va, vb, false, rfl, rfl, ya, yb, da, db, fun z => absurd (by rw [l1, l2]; exact z) hl, ?_⟩
    rw [Bool.and_false]
theorem range_none {e : Nat → Bool} {n m : Nat} (h : m = 0) : ((List.range (min n m)).all e && n == m) = (n == 0) := by
  subst h
  rw [Nat.min_zero]
  simp
theorem op_cmp (hu : X.A.units + 64 < cLine) (op : CmpOp) : OpR X (compareOp op) (rCmp X.K op) := by
  intro pins s σ H x y v u Q I rx ry h
  obtain ⟨S, a, b, r, l, ra, rb, e, f⟩ := h
  have fin : EP X pins σ Q (.bool r) s := ⟨.bl r, H, I, rfl, f⟩
  generalize ea : rd S a = a' at e
  generalize eb : rd S b = b' at e
  unfold cmpW at e
  split at e
  · rcases eqW_some e with ⟨p, q, d1, d2, o1, o2, rfl⟩ | ⟨xs, rfl, rfl, rfl⟩ | ⟨ks, ws, ls, us, rfl, rfl, e'⟩
    · obtain ⟨as, r1⟩ := Dp.reads I p x v (rd_dp l ra (by rw [ea]; exact d1)) rx
      obtain ⟨bs, r2⟩ := Dp.reads I q y u (rd_dp l rb (by rw [eb]; exact d2)) ry
      have h1 := okD_d o1
      have h2 := okD_d o2
      exact SeqAt.eq_plain r1 r2 h1.1 h2.1 (by have := h1.2; omega) fin
    · obtain ⟨p, q, its, its2, rfl, rfl, t1, t2, z2, z1⟩ := eqT_at I l ra rb ea eb rx ry
      have := SeqAt.RcAt.tuples (A := X.A) (e := fun _ => true) t1 t2 (by omega) (fun j _ j2 => by omega)
      rw [range_none z2, z1] at this
      exact this _ _ _ _ (by
        have e0 : (xs.length == 0) = xs.isEmpty := by cases xs <;> rfl
        rw [e0]; exact fin)
    · obtain ⟨p, q, va, vb, r', rfl, rfl, ya, yb, da, db, hk, rfl⟩ := eqT_dct I hu l ra rb ea eb rx ry e'
      exact PySem.W.keq_eq ya yb da db (by omega) hk fin
  · cases e1 : eqW a' b' with
    | none => rw [e1] at e; cases e
    | some r' =>
      rw [e1] at e
      cases e
      rcases eqW_some e1 with ⟨p, q, d1, d2, o1, o2, rfl⟩ | ⟨xs, rfl, rfl, rfl⟩ | ⟨ks, ws, ls, us, rfl, rfl, e'⟩
      · obtain ⟨as, r1⟩ := Dp.reads I p x v (rd_dp l ra (by rw [ea]; exact d1)) rx
        obtain ⟨bs, r2⟩ := Dp.reads I q y u (rd_dp l rb (by rw [eb]; exact d2)) ry
        have h1 := okD_d o1
        have h2 := okD_d o2
        exact SeqAt.ne_plain r1 r2 h1.1 h2.1 (by have := h1.2; omega) fin
      · obtain ⟨p, q, its, its2, rfl, rfl, t1, t2, z2, z1⟩ := eqT_at I l ra rb ea eb rx ry
        have := SeqAt.RcNeAt.tuples (A := X.A) (e := fun _ => true) t1 t2 (by omega) (fun j _ j2 => by omega)
        rw [range_none z2, z1] at this
        exact this _ _ _ _ (by
          have e0 : (xs.length == 0) = xs.isEmpty := by cases xs <;> rfl
          rw [e0]; exact fin)
      · obtain ⟨p, q, va, vb, r', rfl, rfl, ya, yb, da, db, hk, rfl⟩ := eqT_dct I hu l ra rb ea eb rx ry e'
        exact PySem.W.keq_ne ya yb da db (by omega) hk fin
  · cases e; obtain rfl := rd_int ea; obtain rfl := rd_int eb
    exact op_lt pins s σ H x y v u Q I rx ry ⟨_, _, ra.int_, rb.int_, f⟩
  · cases e; obtain rfl := rd_int ea; obtain rfl := rd_int eb
    exact op_le pins s σ H x y v u Q I rx ry ⟨_, _, ra.int_, rb.int_, f⟩
  · cases e; obtain rfl := rd_int ea; obtain rfl := rd_int eb
    exact op_gt pins s σ H x y v u Q I rx ry ⟨_, _, ra.int_, rb.int_, f⟩
  · cases e; obtain rfl := rd_int ea; obtain rfl := rd_int eb
    exact op_ge pins s σ H x y v u Q I rx ry ⟨_, _, ra.int_, rb.int_, f⟩
  · unfold inW at e
    split at e
    · obtain ⟨ds, d, d1, d2, o1, o3, o2, rfl⟩ := inL_some e
      obtain ⟨as, r1⟩ := Dp.reads I _ y u (rd_dp (d := .list ds) l rb (by rw [eb]; unfold W.d; rw [d1]; rfl)) ry
      obtain ⟨bs, r2⟩ := Dp.reads I d x v (rd_dp l ra (by rw [ea]; exact d2)) rx
      exact SeqAt.in_list_data r1 r2 o1 (okD_d o2).1 (by have := (okD_d o2).2; omega) fin
    · obtain ⟨ds, d, d1, d2, o1, o3, o2, rfl⟩ := inL_some e
      obtain ⟨as, r1⟩ := Dp.reads I _ y u (rd_dp (d := .tuple ds) l rb (by rw [eb]; unfold W.d; rw [d1]; rfl)) ry
      obtain ⟨bs, r2⟩ := Dp.reads I d x v (rd_dp l ra (by rw [ea]; exact d2)) rx
      exact SeqAt.in_tuple_data r1 r2 o1 (okD_d o2).1 (by have := (okD_d o2).2; omega) fin
    · rename_i ks ws
      cases ek : keyOf a' with
      | none => rw [ek] at e; cases e
      | some k =>
        rw [ek] at e
        have e' : some (look ks ws k).isSome = some r := e
        cases e'
        have ha : a = a' := by
          cases a' <;> first | (cases ek; done) | exact rd_eq ea (by intro _ q; cases q) (by intro _ _ q; cases q)
        subst ha
        obtain ⟨p, kvs, rfl, h1, rfl, h3⟩ := rd_dct l rb eb
        obtain rfl := ra.key ek
        obtain rfl : u = Value.ref p := ry
        obtain ⟨i1, i2⟩ := look_val (k := k) h3
        refine d_in (by omega) I (dget h1) rx fun s3 I3 => ?_
        have : (valV kvs k).isSome = (look (kvs.map (·.1)) ws k).isSome := by
          cases q : look (kvs.map (·.1)) ws k with
          | none => rw [i2 q]; rfl
          | some w => obtain ⟨v', z, _⟩ := i1 w q; rw [z]; rfl
        rw [this]
        exact ⟨.bl _, H, I3, rfl, f⟩
    · rename_i c z
      cases e
      obtain rfl := rd_str ea
      obtain rfl := rd_str eb
      exact op_in_sign pins s σ H x y v u Q I rx ry ⟨c, z, ra.str_, rb.str_, f⟩
    · cases e
  · cases e1 : inW a' b' with
    | none => rw [e1] at e; cases e
    | some r' =>
    rw [e1] at e
    cases e
    unfold inW at e1
    split at e1
    · obtain ⟨ds, d, d1, d2, o1, o3, o2, rfl⟩ := inL_some e1
      obtain ⟨as, r1⟩ := Dp.reads I _ y u (rd_dp (d := .list ds) l rb (by rw [eb]; unfold W.d; rw [d1]; rfl)) ry
      obtain ⟨bs, r2⟩ := Dp.reads I d x v (rd_dp l ra (by rw [ea]; exact d2)) rx
      exact SeqAt.notIn_list_data r1 r2 o1 (okD_d o2).1 (by have := (okD_d o2).2; omega) fin
    · obtain ⟨ds, d, d1, d2, o1, o3, o2, rfl⟩ := inL_some e1
      obtain ⟨as, r1⟩ := Dp.reads I _ y u (rd_dp (d := .tuple ds) l rb (by rw [eb]; unfold W.d; rw [d1]; rfl)) ry
      obtain ⟨bs, r2⟩ := Dp.reads I d x v (rd_dp l ra (by rw [ea]; exact d2)) rx
      exact SeqAt.notIn_tuple_data r1 r2 o1 (okD_d o2).1 (by have := (okD_d o2).2; omega) fin
    · rename_i ks ws
      cases ek : keyOf a' with
      | none => rw [ek] at e1; cases e1
      | some k =>
        rw [ek] at e1
        have e' : some (look ks ws k).isSome = some r' := e1
        cases e'
        have ha : a = a' := by
          cases a' <;> first | (cases ek; done) | exact rd_eq ea (by intro _ q; cases q) (by intro _ _ q; cases q)
        subst ha
        obtain ⟨p, kvs, rfl, h1, rfl, h3⟩ := rd_dct l rb eb
        obtain rfl := ra.key ek
        obtain rfl : u = Value.ref p := ry
        obtain ⟨i1, i2⟩ := look_val (k := k) h3
        refine d_notIn (by omega) I (dget h1) rx fun s3 I3 => ?_
        have : (valV kvs k).isSome = (look (kvs.map (·.1)) ws k).isSome := by
          cases q : look (kvs.map (·.1)) ws k with
          | none => rw [i2 q]; rfl
          | some w => obtain ⟨v', z, _⟩ := i1 w q; rw [z]; rfl
        rw [this]
        exact ⟨.bl _, H, I3, rfl, f⟩
    · rename_i c z
      cases e1
      obtain rfl := rd_str ea
      obtain rfl := rd_str eb
      exact op_notIn_sign pins s σ H x y v u Q I rx ry ⟨c, z, ra.str_, rb.str_, f⟩
    · cases e1
  · cases e
    obtain rfl := rd_non eb
    refine op_isN pins s σ H x y v u Q I rx ry ⟨by unfold RW at rb; exact rb, ?_⟩
    rw [← isN_of ra, ← isN_rd (S := S) a, ea]
    exact f
  · cases e
    obtain rfl := rd_non eb
    refine op_notN pins s σ H x y v u Q I rx ry ⟨by unfold RW at rb; exact rb, ?_⟩
    rw [← isN_of ra, ← isN_rd (S := S) a, ea]
    exact f
  · cases e
    obtain rfl := rd_bl ea
    obtain rfl := rd_bl eb
    obtain rfl : x = _ := by unfold RW at ra; exact ra
    obtain rfl : y = _ := by unfold RW at rb; exact rb
    cases rx
    cases ry
    rename_i p q
    exact wpAny_bind (wpAny_isSame_plain rfl (wpAny_pure ⟨.bl _, H, I, by show Value.bool _ = Value.bool _; cases p <;> cases q <;> rfl, f⟩))
  · cases e
    obtain rfl := rd_bl ea
    obtain rfl := rd_bl eb
    obtain rfl : x = _ := by unfold RW at ra; exact ra
    obtain rfl : y = _ := by unfold RW at rb; exact rb
    cases rx
    cases ry
    rename_i p q
    exact wpAny_bind (wpAny_isSame_plain rfl (wpAny_pure ⟨.bl _, H, I, by show Value.bool _ = Value.bool _; cases p <;> cases q <;> rfl, f⟩))
  · cases e
/-! ## unary -/
def rUn (K : PySem.W.Frag) (op : UnaryOp) : V → Hp → VK → Prop := fun x H Q => ∃ S a r, LinkS K H S ∧ RW K H S a x ∧ unW op a = some r ∧ Fin K H S r Q
theorem un_neg' : UnR X (unaryOp .USub) (rUn X.K .USub) := by
  intro pins s σ H x v Q I rx h
  obtain ⟨S, a, r, l, ra, e, f⟩ := h
  cases a <;> first | (cases e; done) | skip
  cases e
  exact un_neg pins s σ H x v Q I rx ⟨_, ra.int_, f.int l⟩
end
end PD

set_option Elab.async false
set_option linter.all false
set_option maxRecDepth 100000
set_option maxHeartbeats 4000000
namespace PD
open PySem PySem.Spec PyProof.Rows L2

section
variable {K : PySem.W.Frag} {H : Hp} {S : Sto}
theorem RW.n : RW K H S .non .non := by unfold RW; rfl
theorem RW.b {b : Bool} : RW K H S (.bl b) (.bl b) := by unfold RW; rfl
theorem RW.i {i : Int} : RW K H S (.int i) (.int i) := by unfold RW; rfl
theorem RW.s {x : Str} : RW K H S (.str x) (.str x) := by unfold RW; rfl
theorem RW.r {p : Addr} : RW K H S (.ref p) (.ref p) := by unfold RW; rfl
theorem RO.l {ws : List W} {vs : List V} (h : RWs K H S ws vs) : RO K H S (.lst ws) (.lst vs) := ⟨vs, rfl, h⟩
theorem RO.d {ks : List Key} {ws : List W} {kvs : List (Key × V)} (e : kvs.map (·.1) = ks) (h : RWs K H S ws (kvs.map (·.2))) : RO K H S (.dct ks ws) (.dK kvs) := ⟨kvs, rfl, e, h⟩
theorem RWs.cut {ws : List W} {vs : List V} (h : RWs K H S ws vs) (lo hi : Option Int) : RWs K H S (cutW ws lo hi) (cutV vs lo hi) := by
  unfold cutW cutV
  rw [h.len]
  exact (h.drop _).take _
theorem RWs.at {ws : List W} {vs : List V} {i : Int} {w : W} (h : RWs K H S ws vs) (e : atI ws i = some w) : ∃ v, atI vs i = some v ∧ RW K H S w v := by
  unfold atI at e ⊢
  rw [h.len] at e
  cases q : ixN vs.length i with
  | none => rw [q] at e; cases e
  | some j =>
    rw [q] at e
    exact RWs.get h e
theorem RWs.toInts : ∀ {ws : List W} {vs : List V} {ns : List Int}, RWs K H S ws vs → intsW ws = some ns → vs = ns.map V.int
  | [], vs, ns, h, e => by unfold RWs at h; cases e; rw [h]; rfl
  | w :: ws, vs, ns, h, e => by
    unfold RWs at h
    obtain ⟨v, r, rfl, h2, h3⟩ := h
    cases w <;> first | (cases e; done) | skip
    rename_i i
    have e' : (intsW ws).map (i :: ·) = some ns := e
    cases q : intsW ws with
    | none => rw [q] at e'; cases e'
    | some ms =>
      rw [q] at e'; cases e'
      rw [h2.int_, RWs.toInts h3 q]; rfl
theorem RWs.toBools : ∀ {ws : List W} {vs : List V} {ns : List Bool}, RWs K H S ws vs → boolsW ws = some ns → vs = ns.map V.bl
  | [], vs, ns, h, e => by unfold RWs at h; cases e; rw [h]; rfl
  | w :: ws, vs, ns, h, e => by
    unfold RWs at h
    obtain ⟨v, r, rfl, h2, h3⟩ := h
    cases w <;> first | (cases e; done) | skip
    rename_i i
    have e' : (boolsW ws).map (i :: ·) = some ns := e
    cases q : boolsW ws with
    | none => rw [q] at e'; cases e'
    | some ms =>
      rw [q] at e'; cases e'
      rw [h2.bl_, RWs.toBools h3 q]; rfl
end

section
variable {X : Cx} {pins : List (Addr × Obj)} {σ : L2.St} {H : Hp} {S : Sto} {s : Shared}
/-! ## subscripts -/
def rIxW (K : PySem.W.Frag) : R2 := fun x y H Q => ∃ S a b r, LinkS K H S ∧ RW K H S a x ∧ RW K H S b y ∧ ixW (rd S a) b = some r ∧ ∀ v, RW K H S r v → Q v H
theorem ix_W (hu : X.A.units + 64 < cLine) : IxR X (rIxW X.K) := by
  intro value slice pins s σ H x y v u Q I rx ry h hs
  obtain ⟨S, a, b, r, l, ra, rb, e, f⟩ := h
  generalize ea : rd S a = a' at e
  unfold ixW at e
  split at e
  · obtain ⟨p, vs, rfl, h1, r1⟩ := rd_lst l ra ea
    obtain ⟨v', e1, r2⟩ := r1.at e
    exact ix_list value slice pins s σ H _ y v u Q I rx ry ⟨p, vs, _, v', rfl, rb.int_, h1, e1, f v' r2⟩ hs
  · obtain rfl := rd_tup ea
    obtain ⟨p, vs, rfl, h1, r1⟩ := ra.tup_rd
    obtain ⟨v', e1, r2⟩ := r1.at e
    exact ix_tup value slice pins s σ H _ y v u Q I rx ry ⟨p, vs, _, v', rfl, rb.int_, h1.sq, e1, f v' r2⟩ hs
  · split at e
    · rename_i z i hz
      obtain rfl := rd_str ea
      cases q : atI z.cps.toList i with
      | none => rw [q] at e; cases e
      | some c =>
        rw [q] at e; cases e
        exact ix_str value slice pins s σ H x y v u Q I rx ry ⟨z, i, c, ra.str_, rb.int_, hz, q, f _ (by unfold RW; rfl)⟩ hs
    · cases e
  · rename_i ks ws
    cases ek : keyOf b with
    | none => rw [ek] at e; cases e
    | some k =>
      rw [ek] at e
      obtain ⟨p, kvs, rfl, h1, rfl, h3⟩ := rd_dct l ra ea
      obtain rfl := rb.key ek
      obtain rfl : v = Value.ref p := rx
      obtain ⟨v', e1, r2⟩ := (look_val (k := k) h3).1 r e
      have g : DGet H p (kV k) (some v') := by
        have := dget (k := k) h1
        rw [e1] at this
        exact this
      exact tail_any (dict_typeIs I g) PySem.F.slot_dict_getitem.lookup (d_getItem (by omega) I g ry fun w' s3 I3 rw' => ⟨v', H, I3, rw', f v' r2⟩) hs
  · cases e
/-! ## slices -/
def rSlW (K : PySem.W.Frag) : V → Option Int → Option Int → Hp → VK → Prop := fun x lo hi H Q => ∃ S a r, LinkS K H S ∧ RW K H S a x ∧ slcW (rd S a) lo hi = some r ∧ Fin K H S r Q
theorem sl_W : SlR X (rSlW X.K) := by
  intro pins s σ H x v vl vu lo hi sl Q I rx hs pl pu h
  obtain ⟨S, a, r, l, ra, e, f⟩ := h
  generalize ea : rd S a = a' at e
  unfold slcW at e
  split at e
  · cases e
    obtain ⟨p, vs, rfl, h1, r1⟩ := rd_lst l ra ea
    exact sl_list pins s σ H _ v vl vu lo hi sl Q I rx hs pl pu ⟨p, vs, rfl, h1, f.lst l (r1.cut lo hi)⟩
  · cases e
    obtain rfl := rd_tup ea
    obtain ⟨p, vs, rfl, h1, r1⟩ := ra.tup_rd
    refine sl_tupA pins s σ H _ v vl vu lo hi sl Q I rx hs pl pu ⟨p, vs, rfl, h1.sq, fun w => f _ _ .refl l ?_, fun _ => f.tup l (r1.cut lo hi)⟩
    have whole : ∀ {zs : List W}, RWs X.K H S zs vs → cutW zs lo hi = zs := fun {zs} r1 => by
      unfold cutW
      rw [r1.len, w.1, w.2, List.drop_zero, Nat.sub_zero, ← r1.len, List.take_length]
    rw [whole r1]
    exact ra
  · split at e
    · rename_i hz
      cases e
      obtain rfl := rd_str ea
      exact sl_str pins s σ H x v vl vu lo hi sl Q I rx hs pl pu ⟨_, ra.str_, hz, f.str l⟩
    · cases e
  · cases e

/-! ## built-in calls -/
abbrev FinS (K : PySem.W.Frag) (H : Hp) (S : Sto) (Q : QW) (Qh : VK) : Prop := ∀ r S' v H', Ext H S H' S' → LinkS K H' S' → RW K H' S' r v → Q r S' → Qh v H'
def rBi (K : PySem.W.Frag) (b : Bi) : List V → Hp → VK → Prop := fun vs H Qh => ∃ S ws Q, LinkS K H S ∧ RWs K H S ws vs ∧ biW b ws S Q ∧ FinS K H S Q Qh
theorem RWs.one {K : PySem.W.Frag} {w : W} {vs : List V} (h : RWs K H S [w] vs) : ∃ v, vs = [v] ∧ RW K H S w v := by
  unfold RWs at h
  obtain ⟨v, r, rfl, h2, h3⟩ := h
  unfold RWs at h3
  subst h3
  exact ⟨v, rfl, h2⟩
theorem RWs.two {K : PySem.W.Frag} {w w' : W} {vs : List V} (h : RWs K H S [w, w'] vs) : ∃ v v', vs = [v, v'] ∧ RW K H S w v ∧ RW K H S w' v' := by
  unfold RWs at h
  obtain ⟨v, r, rfl, h2, h3⟩ := h
  obtain ⟨v', rfl, h4⟩ := h3.one
  exact ⟨v, v', rfl, h2, h4⟩
theorem bi_len : CallR X (.builtin "len") (rBi X.K .len) := by
  intro pins s σ H xs us Q I rv h
  obtain ⟨S, ws, Q', l, r, h, f⟩ := h
  match ws, h with
  | [w], h =>
    obtain ⟨q, e, h⟩ := h
    obtain ⟨v, rfl, rw1⟩ := r.one
    generalize ea : rd S w = a' at e
    unfold lenW at e
    split at e
    · cases e
      obtain ⟨p, vs, rfl, h1, r1⟩ := rd_lst l rw1 ea
      refine call_len pins s σ H _ us Q I rv ⟨_, vs.length, rfl, .inl ⟨vs, h1, rfl⟩, ?_⟩
      rw [← r1.len]
      exact f _ _ _ _ .refl l .i h
    · cases e
      obtain rfl := rd_tup ea
      obtain ⟨p, vs, rfl, h1, r1⟩ := rw1.tup_rd
      refine call_len pins s σ H _ us Q I rv ⟨_, vs.length, rfl, .inr ⟨vs, h1.sq, rfl⟩, ?_⟩
      rw [← r1.len]
      exact f _ _ _ _ .refl l .i h
    · split at e
      · rename_i hz
        cases e
        obtain rfl := rd_str ea
        obtain rfl := rw1.str_
        exact call_len pins s σ H _ us Q I rv ⟨_, _, rfl, ⟨hz, rfl⟩, f _ _ _ _ .refl l .i h⟩
      · cases e
    · cases e
      obtain ⟨p, kvs, rfl, h1, rfl, h3⟩ := rd_dct l rw1 ea
      obtain ⟨u, rfl, ru⟩ := rv.one
      obtain rfl : u = Value.ref p := ru
      refine d_len I h1 fun t s' I' => ⟨.int _, H, I', ⟨t, rfl⟩, f _ _ _ _ .refl l .i (by rw [List.length_map] at h; exact h)⟩
    · cases e
theorem bi_abs : CallR X (.builtin "abs") (rBi X.K .abs) := by
  intro pins s σ H xs us Q I rv h
  obtain ⟨S, ws, Q', l, r, h, f⟩ := h
  match ws, h with
  | [.int i], h =>
    obtain ⟨v, rfl, rw1⟩ := r.one
    obtain rfl := rw1.int_
    refine call_abs pins s σ H _ us Q I rv ⟨i, rfl, ?_⟩
    have e : (if i < 0 then -i else i) = (i.natAbs : Int) := by split <;> omega
    rw [e]
    exact f _ _ _ _ .refl l .i h
theorem bi_tuple : CallR X (.type "tuple") (rBi X.K .tuple) := by
  intro pins s σ H xs us Q I rv h
  obtain ⟨S, ws, Q', l, r, h, f⟩ := h
  match ws, h with
  | [w], h =>
    obtain ⟨ys, hq, h⟩ := h
    obtain ⟨v, rfl, rw1⟩ := r.one
    rcases hq with hq | rfl
    · obtain ⟨p, vs, rfl, h1, r1⟩ := rd_lst l rw1 hq
      exact call_tuple_of pins s σ H _ us Q I rv ⟨p, vs, rfl, .inl ⟨h1, Fin.tup l r1 fun v H' e l' r' => f _ _ _ _ e l' r' h⟩⟩
    · obtain ⟨p, vs, rfl, h1, r1⟩ := rw1.tup_rd
      exact call_tuple_of pins s σ H _ us Q I rv ⟨p, vs, rfl, .inr ⟨h1.sq, f _ _ _ _ .refl l rw1 h⟩⟩
theorem keys_rws {K : PySem.W.Frag} {H : Hp} {S : Sto} : ∀ kvs : List (Key × V), RWs K H S (kvs.map (kW ∘ fun kv => kv.1)) (kvs.map fun kv => kV kv.1)
  | [] => .nil
  | (k, v) :: r => by
    refine .cons ?_ (keys_rws r)
    cases k with
    | inl i => exact .i
    | inr x => show RW K H S (.str x) (.str x); unfold RW; rfl
theorem bi_list (hc : X.calm = true) : CallR X (.type "list") (rBi X.K .list) := by
  intro pins s σ H xs us Q I rv h
  obtain ⟨S, ws, Q', l, r, h, f⟩ := h
  have fin : ∀ {ys : List W} {vs : List V}, RWs X.K H S ys vs → (∀ p, S p = none → Q' (.ref p) (S.set p (.lst ys))) → ∀ p, H p = none → Q (.ref p) (upd H p (.lst vs)) := fun {ys vs} r1 h p hp =>
    f _ _ _ _ (ext_newS hp) (l.put (ext_newS hp) (.l r1)) .r (h p (l.fresh hp))
  match ws, h with
  | [w], h =>
    obtain ⟨ys, hq, h⟩ := h
    obtain ⟨v, rfl, rw1⟩ := r.one
    rcases hq with hq | rfl | ⟨ks, ws, hq, rfl⟩
    · obtain ⟨p, vs, rfl, h1, r1⟩ := rd_lst l rw1 hq
      exact call_list_of pins s σ H _ us Q I rv ⟨p, vs, rfl, .inl h1, fin r1 h⟩
    · obtain ⟨p, vs, rfl, h1, r1⟩ := rw1.tup_rd
      exact call_list_of pins s σ H _ us Q I rv ⟨p, vs, rfl, .inr h1.sq, fin r1 h⟩
    · obtain ⟨p, kvs, rfl, h1, h2, h3⟩ := rd_dct l rw1 hq
      have h : ∀ q, S q = none → Q' (.ref q) (S.set q (.lst (ks.map kW))) := h
      refine call_listD hc pins s σ H _ us Q I rv ⟨p, kvs, rfl, h1, fin ?_ h⟩
      rw [← h2, List.map_map]
      exact keys_rws kvs
theorem bi_sum (hc : X.calm = true) : CallR X (.builtin "sum") (rBi X.K .sum) := by
  intro pins s σ H xs us Q I rv h
  obtain ⟨S, ws, Q', l, r, h, f⟩ := h
  match ws, h with
  | [w], h =>
    obtain ⟨ys, ns, hq, hn, h⟩ := h
    obtain ⟨v, rfl, rw1⟩ := r.one
    obtain ⟨p, vs, rfl, h1, r1⟩ := rd_lst l rw1 hq
    rw [r1.toInts hn] at h1
    exact cr_sum hc pins s σ H _ us Q I rv ⟨p, ns, rfl, h1, f _ _ _ _ .refl l .i h⟩
theorem bi_any (hc : X.calm = true) : CallR X (.builtin "any") (rBi X.K .any) := by
  intro pins s σ H xs us Q I rv h
  obtain ⟨S, ws, Q', l, r, h, f⟩ := h
  match ws, h with
  | [w], h =>
    obtain ⟨ys, ns, hq, hn, h⟩ := h
    obtain ⟨v, rfl, rw1⟩ := r.one
    obtain ⟨p, vs, rfl, h1, r1⟩ := rd_lst l rw1 hq
    rw [r1.toBools hn] at h1
    exact cr_any hc pins s σ H _ us Q I rv ⟨p, ns, rfl, h1, f _ _ _ _ .refl l .b h⟩
theorem bi_all (hc : X.calm = true) : CallR X (.builtin "all") (rBi X.K .all) := by
  intro pins s σ H xs us Q I rv h
  obtain ⟨S, ws, Q', l, r, h, f⟩ := h
  match ws, h with
  | [w], h =>
    obtain ⟨ys, ns, hq, hn, h⟩ := h
    obtain ⟨v, rfl, rw1⟩ := r.one
    obtain ⟨p, vs, rfl, h1, r1⟩ := rd_lst l rw1 hq
    rw [r1.toBools hn] at h1
    exact cr_all hc pins s σ H _ us Q I rv ⟨p, ns, rfl, h1, f _ _ _ _ .refl l .b h⟩

/-! ## repr -/
theorem dds_len : ∀ {ws : List W} {ds : List PyData}, W.dds ws = some ds → ws.length = ds.length
  | [], ds, e => by unfold W.dds at e; cases e; rfl
  | w :: ws, ds, e => by
    unfold W.dds at e
    cases q : W.dd w with
    | none => rw [q] at e; cases e
    | some d =>
      cases q2 : W.dds ws with
      | none => rw [q, q2] at e; cases e
      | some ds' => rw [q, q2] at e; cases e; simp [dds_len q2]
section
variable {pins : List (Addr × Obj)} {τ : L2.St} {H : Hp} {s : Shared} {S : Sto}
theorem vals_cons {v : V} {vs : List V} {us : List Value} (h : Vals (v :: vs) us) : ∃ u r, us = u :: r ∧ RelV v u ∧ Vals vs r := by
  cases h with
  | cons a b => exact ⟨_, _, rfl, a, b⟩
theorem kv_vals : ∀ {kvs : List (Key × V)} {vs : List (Key × Value)}, KV kvs vs → Vals (kvs.map (·.2)) (vs.map (·.2)) ∧ vs.map (·.1) = kvs.map (·.1)
  | _, _, .nil => ⟨.nil, rfl⟩
  | _, _, .cons r t => let ⟨a, b⟩ := kv_vals t; ⟨.cons r.2 a, by rw [List.map_cons, List.map_cons, b, r.1]⟩
theorem pairs_keys {P : Program} {w : World} : ∀ {es : List DictEntry} {vs : List (Key × Value)}, Pairs (mixKind P w) es vs → ReadsAll s.heap (es.map (·.key)) ((vs.map (·.1)).map kD) [] ∧ es.map (·.val) = vs.map (·.2)
  | _, _, .nil => ⟨.nil, rfl⟩
  | _, _, .cons (e := e) (kv := kv) hk hv t => by
    obtain ⟨k, val⟩ := kv
    obtain ⟨a, b⟩ := pairs_keys t
    refine ⟨?_, by simp [b, hv]⟩
    have z : Reads s.heap e.key (kD k) [] := by
      rcases keyIs_shape hk with ⟨i, t, rfl, ek⟩ | ⟨x, t, rfl, ek⟩
      · rw [ek]; exact .int _ _
      · rw [ek]; exact .str _ _
    exact .cons z a
mutual
theorem rw_reads (I : Inv X pins τ H s) (nd : ∀ a o, s.heap.get? a = some o → o.cls = .type "list" → sysModules ≠ a) : ∀ (w : W) (v : V) (u : Value) (d : PyData), RW X.K H S w v → w.dd = some d → RelV v u → ∃ as, Reads s.heap u d as ∧ sysModules ∉ as
  | .non, v, u, d, h, e, r => by
    unfold RW at h; subst h; unfold W.dd at e; cases e; cases r; exact ⟨[], .none, by simp⟩
  | .bl b, v, u, d, h, e, r => by
    unfold RW at h; subst h; unfold W.dd at e; cases e; cases r; exact ⟨[], .bool _, by simp⟩
  | .int i, v, u, d, h, e, r => by
    unfold RW at h; subst h; unfold W.dd at e; cases e; obtain ⟨t, rfl⟩ := r; exact ⟨[], .int _ _, by simp⟩
  | .str x, v, u, d, h, e, r => by
    unfold RW at h; subst h; unfold W.dd at e; cases e; obtain ⟨t, rfl⟩ := r; exact ⟨[], .str _ _, by simp⟩
  | .tup xs, v, u, d, h, e, r => by
    unfold RW at h; unfold W.dd at e
    obtain ⟨a, vs, rfl, h2, h3⟩ := h
    cases r
    cases q : W.dds xs with
    | none => rw [q] at e; cases e
    | some ds =>
      rw [q] at e; cases e
      obtain ⟨its, rv, ⟨o, ho, hc, n, hd⟩, hz⟩ := I.tuple h2.sq
      obtain ⟨as, h4, h5⟩ := rws_reads I nd xs vs its ds h3 q rv
      exact ⟨as, .tuple ho hc hd (by simpa using h4), h5⟩
  | .lst xs, v, u, d, h, e, r => by
    unfold RW at h; unfold W.dd at e
    obtain ⟨a, vs, rfl, h2, h3⟩ := h
    cases r
    cases q : W.dds xs with
    | none => rw [q] at e; cases e
    | some ds =>
      rw [q] at e; cases e
      obtain ⟨its, rv, pl, hz⟩ := I.list h2.sq
      obtain ⟨o, ho, hc, n, hd⟩ := pl.isList
      obtain ⟨as, h4, h5⟩ := rws_reads I nd xs vs its ds h3 q rv
      exact ⟨a :: as, .list ho hc hd (by simpa using h4), by simp [h5, nd a o ho hc]⟩
  | .dct ks ws, v, u, d, h, e, r => by
    unfold RW at h; unfold W.dd at e
    obtain ⟨a, kvs, rfl, h1, h2, rfl, h4⟩ := h
    cases r
    cases q : W.dds ws with
    | none => rw [q] at e; cases e
    | some ds =>
      rw [q] at e; cases e
      obtain ⟨hz, hS, vs, kv, o, es, ep, ho, hx, hd, hk, hp, hn⟩ := dk_rd I.hok h2
      obtain ⟨k1, k2⟩ := kv_vals kv
      obtain ⟨p1, p2⟩ := pairs_keys (s := s) hp
      obtain ⟨as, h5, h6⟩ := rws_reads I nd ws _ _ ds h4 q k1
      have lw := h4.len
      have ld : ws.length = ds.length := dds_len q
      refine ⟨a :: [] ++ as, .dict (kvs := ((kvs.map (·.1)).map kD).zip ds) ho hx.1 hd ?_ ?_, ?_⟩
      · rw [List.map_fst_zip (by simp; simp at lw; omega), ← k2]; exact p1
      · rw [List.map_snd_zip (by simp; simp at lw; omega), p2]; exact h5
      · have hS' : a ≠ sysModules := by simpa using hS
        simp [h6, Ne.symm hS']
  | .ref _, v, u, d, h, e, r => by unfold W.dd at e; cases e
  | .exc _ _ _, v, u, d, h, e, r => by unfold W.dd at e; cases e
  | .ins _ _ _, v, u, d, h, e, r => by unfold W.dd at e; cases e
  | .fnv _, v, u, d, h, e, r => by unfold W.dd at e; cases e
theorem rws_reads (I : Inv X pins τ H s) (nd : ∀ a o, s.heap.get? a = some o → o.cls = .type "list" → sysModules ≠ a) : ∀ (ws : List W) (vs : List V) (us : List Value) (ds : List PyData), RWs X.K H S ws vs → W.dds ws = some ds → Vals vs us → ∃ as, ReadsAll s.heap us ds as ∧ sysModules ∉ as
  | [], vs, us, ds, h, e, r => by
    unfold RWs at h; subst h; unfold W.dds at e; cases e; cases r; exact ⟨[], .nil, by simp⟩
  | w :: ws, vs, us, ds, h, e, r => by
    unfold RWs at h; unfold W.dds at e
    obtain ⟨v, t, rfl, h2, h3⟩ := h
    obtain ⟨u, us', rfl, r1, r2⟩ := vals_cons r
    cases q : W.dd w with
    | none => rw [q] at e; cases e
    | some d =>
      cases q2 : W.dds ws with
      | none => rw [q, q2] at e; cases e
      | some ds' =>
        rw [q, q2] at e; cases e
        obtain ⟨as, i1, i2⟩ := rw_reads I nd w v u d h2 q r1
        obtain ⟨bs, j1, j2⟩ := rws_reads I nd ws t us' ds' h3 q2 r2
        exact ⟨as ++ bs, .cons i1 j1, by simp [i2, j2]⟩
end
end
theorem repr_core (hu : X.A.units + 200 < cLine) (hg : X.A.guards = some []) (hs : ∃ o, X.base.get? sysModules = some o ∧ o.cls = .type "dict") {pins : List (Addr × Obj)} {s : Shared} {τ : L2.St} {H : Hp} {S : Sto} {Q : VK} {w : W} {v : V} {u : Value} {d : PyData}
    (I : Inv X pins τ H s) (ru : RelV v u) (rw1 : RW X.K H S w v) (hd : w.dd = some d) (hsh : d.showable = true) (hz : d.shown.length ≤ sizeLine) (hdp : d.depth ≤ 100) (q : Q (.str d.shown) H) : wpAny (model X.prog X.w) X.A (call (.builtin "repr") [u]) (EP X pins τ Q) X.xe s := by
  obtain ⟨os, hos, hcl⟩ := hs
  have nd : ∀ a o, s.heap.get? a = some o → o.cls = .type "list" → sysModules ≠ a := fun a o e c z => by
    rw [← z, (I.bs _ _ hos).1] at e; cases e
    rw [hcl] at c; injection c with c; exact absurd c (by decide)
  obtain ⟨as, hr, hm⟩ := rw_reads I nd w v u d rw1 hd ru
  have fin : ∀ (h' : Heap) (u : Tok) (tk : Nat), (∀ b o, s.heap.get? b = some o → h'.get? b = some o) → EP X pins τ Q (.str d.shown u) { s with heap := h', toks := tk } := fun h' u tk kp => ⟨.str d.shown, H, I.kept (t' := tk) kp, ⟨_, rfl⟩, q⟩
  by_cases ho : ∃ a, u = .ref a
  · obtain ⟨a, rfl⟩ := ho
    exact repr_of_reads' hr hsh (fun _ => hm) hg (by omega) (fun b o e => e) fin hz
  · cases w with
    | non => unfold RW at rw1; subst rw1; cases ru; unfold W.dd at hd; cases hd; exact P.repr_of_none (fin s.heap _ _ fun _ _ e => e)
    | bl b =>
      unfold RW at rw1; subst rw1; cases ru; unfold W.dd at hd; cases hd
      exact P.repr_of_bool (by
        have := fin s.heap s.toks (s.toks + 1) fun _ _ e => e
        cases b <;> exact this)
    | int i =>
      unfold RW at rw1; subst rw1; obtain ⟨t, rfl⟩ := ru; unfold W.dd at hd; cases hd
      exact P.repr_of_int (of_decide_eq_true hsh) (fin s.heap _ _ fun _ _ e => e)
    | str x => unfold RW at rw1; subst rw1; obtain ⟨t, rfl⟩ := ru; unfold W.dd at hd; cases hd; exact P.repr_of_str (fin s.heap _ _ fun _ _ e => e) hz
    | tup xs => unfold RW at rw1; obtain ⟨a, _, rfl, _⟩ := rw1; cases ru; exact (ho ⟨a, rfl⟩).elim
    | lst xs => unfold RW at rw1; obtain ⟨a, _, rfl, _⟩ := rw1; cases ru; exact (ho ⟨a, rfl⟩).elim
    | dct ks ws => unfold RW at rw1; obtain ⟨a, _, rfl, _⟩ := rw1; cases ru; exact (ho ⟨a, rfl⟩).elim
    | ref a => unfold W.dd at hd; cases hd
    | exc => unfold W.dd at hd; cases hd
    | ins => unfold W.dd at hd; cases hd
    | fnv => unfold W.dd at hd; cases hd
theorem bi_repr (hu : X.A.units + 200 < cLine) (hg : X.A.guards = some []) (hs : ∃ o, X.base.get? sysModules = some o ∧ o.cls = .type "dict") : CallR X (.builtin "repr") (rBi X.K .repr) := by
  intro pins s τ H xs us Q I rv h
  obtain ⟨S, ws, Q', l, r, h, f⟩ := h
  match ws, h with
  | [w], h =>
    obtain ⟨d, hd, hsh, hz, hdp, q⟩ := h
    obtain ⟨v, rfl, rw1⟩ := r.one
    obtain ⟨u, rfl, ru⟩ := rv.one
    exact repr_core hu hg hs I ru rw1 hd hsh hz hdp (f _ _ _ _ .refl l .s q)
theorem rd_em {K : PySem.W.Frag} {H : Hp} {S : Sto} (l : LinkS K H S) : ∀ {w : W} {v : V}, RW K H S w v → RW K H emS (rd S w) v
  | .ref a, v, h => by
    have hv : v = .ref a := by unfold RW at h; exact h
    subst hv
    cases q : S a with
    | none =>
      have e : rd S (.ref a) = .ref a := by show (match S a with | some (SO.lst xs) => W.lst xs | some (.dct ks ws) => .dct ks ws | some (.ins c fs ws) => .ins c fs ws | some (.clo _) => .ref a | none => .ref a) = _; rw [q]
      rw [e]; exact .r
    | some o =>
      obtain ⟨u, h1, h2⟩ := l.at_ a o q
      cases o with
      | lst xs =>
        have e : rd S (.ref a) = .lst xs := by show (match S a with | some (SO.lst xs) => W.lst xs | some (.dct ks ws) => .dct ks ws | some (.ins c fs ws) => .ins c fs ws | some (.clo _) => .ref a | none => .ref a) = _; rw [q]
        obtain ⟨vs, rfl, h3⟩ := h2
        rw [e]; unfold RW
        exact ⟨a, vs, rfl, .inl ⟨.inl h1, rfl⟩, RWs.extD ext_em _ _ h3⟩
      | dct ks ws =>
        have e : rd S (.ref a) = .dct ks ws := by show (match S a with | some (SO.lst xs) => W.lst xs | some (.dct ks ws) => .dct ks ws | some (.ins c fs ws) => .ins c fs ws | some (.clo _) => .ref a | none => .ref a) = _; rw [q]
        obtain ⟨kvs, rfl, h3, h4⟩ := h2
        rw [e]; unfold RW
        exact ⟨a, kvs, rfl, rfl, .inl h1, h3, RWs.extD ext_em _ _ h4⟩
      | ins c fs ws =>
        have e : rd S (.ref a) = .ins c fs ws := by show (match S a with | some (SO.lst xs) => W.lst xs | some (.dct ks ws) => .dct ks ws | some (.ins c fs ws) => .ins c fs ws | some (.clo _) => .ref a | none => .ref a) = _; rw [q]
        obtain ⟨dx, kvs, rfl, h3, h4⟩ := h2
        rw [e]; unfold RW
        exact ⟨a, dx, kvs, rfl, rfl, h1, h3, RWs.extD ext_em _ _ h4⟩
      | clo _ =>
        have e : rd S (.ref a) = .ref a := by show (match S a with | some (SO.lst xs) => W.lst xs | some (.dct ks ws) => .dct ks ws | some (.ins c fs ws) => .ins c fs ws | some (.clo _) => .ref a | none => .ref a) = _; rw [q]
        rw [e]; exact .r
  | .non, v, h => RW.extD ext_em _ _ h
  | .bl _, v, h => RW.extD ext_em _ _ h
  | .int _, v, h => RW.extD ext_em _ _ h
  | .str _, v, h => RW.extD ext_em _ _ h
  | .tup _, v, h => RW.extD ext_em _ _ h
  | .lst _, v, h => RW.extD ext_em _ _ h
  | .dct _ _, v, h => RW.extD ext_em _ _ h
  | .exc _ _ _, v, h => RW.extD ext_em _ _ h
  | .ins _ _ _, v, h => RW.extD ext_em _ _ h
  | .fnv _, v, h => RW.extD ext_em _ _ h
theorem rds_em {K : PySem.W.Frag} {H : Hp} {S : Sto} (l : LinkS K H S) : ∀ {ws : List W} {vs : List V}, RWs K H S ws vs → RWs K H emS (ws.map (rd S)) vs
  | [], vs, h => by
    have : vs = [] := by unfold RWs at h; exact h
    subst this; exact .nil
  | w :: ws, vs, h => by
    have h' : ∃ v r, vs = v :: r ∧ RW K H S w v ∧ RWs K H S ws r := by unfold RWs at h; exact h
    obtain ⟨v, r, rfl, h1, h2⟩ := h'
    exact .cons (rd_em l h1) (rds_em l h2)
theorem rdl_em {K : PySem.W.Frag} {H : Hp} {S : Sto} (l : LinkS K H S) {w : W} {v : V} (h : RW K H S w v) : RW K H emS (rdl S w) v := by
  have z := rd_em l h
  unfold rdl
  generalize e : rd S w = w' at z ⊢
  cases w' with
  | lst xs =>
    obtain ⟨a, vs, rfl, h1, h2⟩ := rd_lst l h e
    unfold RW
    exact ⟨a, vs, rfl, h1.elim (fun q => .inl ⟨q, rfl⟩) .inr, rds_em l h2⟩
  | _ => exact z
theorem bi_reprd (hu : X.A.units + 200 < cLine) (hg : X.A.guards = some []) (hs : ∃ o, X.base.get? sysModules = some o ∧ o.cls = .type "dict") : CallR X (.builtin "repr") (rBi X.K .reprd) := by
  intro pins s τ H xs us Q I rv h
  obtain ⟨S, ws, Q', l, r, h, f⟩ := h
  match ws, h with
  | [w], h =>
    obtain ⟨d, hd, hsh, hz, hdp, q⟩ := h
    obtain ⟨v, rfl, rw1⟩ := r.one
    obtain ⟨u, rfl, ru⟩ := rv.one
    exact repr_core hu hg hs I ru (rdl_em l rw1) hd hsh hz hdp (f _ _ _ _ .refl l .s q)
theorem ints_wi : ∀ ns : List Int, intsW (ns.map W.int) = some ns
  | [] => rfl
  | n :: ns => by
    show (intsW (ns.map W.int)).map (n :: ·) = _
    rw [ints_wi ns]; rfl
theorem rws_iv {K : PySem.W.Frag} {H : Hp} {S : Sto} : ∀ ns : List Int, RWs K H S (ns.map W.int) (ns.map V.int)
  | [] => .nil
  | _ :: ns => .cons .i (rws_iv ns)
theorem bi_max (hc : X.calm = true) : CallR X (.builtin "max") (rBi X.K .max) := by
  intro pins s σ H xs us Q I rv h
  obtain ⟨S, ws, Q', l, r, h, f⟩ := h
  match ws, h with
  | [w], h =>
    obtain ⟨ns, hq, hn, h⟩ := h
    obtain ⟨v, rfl, rw1⟩ := r.one
    obtain ⟨p, vs, rfl, h1, r1⟩ := rd_lst l rw1 hq
    rw [r1.toInts (ints_wi ns)] at h1
    exact cr_max hc pins s σ H _ us Q I rv ⟨p, ns, rfl, h1, hn, fun m h2 h3 => f _ _ _ _ .refl l .i (h m h2 h3)⟩
theorem bi_sorted (hc : X.calm = true) : CallR X (.builtin "sorted") (rBi X.K .sorted) := by
  intro pins s σ H xs us Q I rv h
  obtain ⟨S, ws, Q', l, r, h, f⟩ := h
  match ws, h with
  | [w], h =>
    obtain ⟨ns, hq, h⟩ := h
    obtain ⟨v, rfl, rw1⟩ := r.one
    rcases hq with hq | ⟨ws, hq, hz⟩
    · obtain ⟨p, vs, rfl, h1, r1⟩ := rd_lst l rw1 hq
      rw [r1.toInts (ints_wi ns)] at h1
      exact cr_sortedI pins s σ H _ us Q I rv ⟨p, ns, rfl, h1, fun ms q h2 h3 hq2 => f _ _ _ _ (ext_newS hq2) (l.put (ext_newS hq2) (.l (rws_iv ms))) .r (h ms q h2 h3 (l.fresh hq2))⟩
    · obtain ⟨p, kvs, rfl, h1, hk, _⟩ := rd_dct l rw1 hq
      exact call_sortedDI hc pins s σ H _ us Q I rv ⟨p, kvs, ns, rfl, h1, hk, hz, fun ms q h2 h3 hq2 => f _ _ _ _ (ext_newS hq2) (l.put (ext_newS hq2) (.l (rws_iv ms))) .r (h ms q h2 h3 (l.fresh hq2))⟩

/-! ## isinstance, int -/
def rIsD (K : PySem.W.Frag) (ty : Ty) : List V → Hp → VK → Prop := fun vs H Qh => ∃ S w d v, LinkS K H S ∧ vs = [v, .ty ty.id] ∧ RW K H S w v ∧ w.dd = some d ∧ Qh (.bl (isaD ty d)) H
theorem bi_isa (hs : ∃ o, X.base.get? sysModules = some o ∧ o.cls = .type "dict") (ty : Ty) : CallR X (.builtin "isinstance") (rIsD X.K ty) := by
  intro pins s τ H xs us Q I rv h
  obtain ⟨S, w, d, v, l, rfl, rw1, hd, q⟩ := h
  obtain ⟨u, r, rfl, ru, rr⟩ := vals_cons rv
  obtain ⟨u2, r2, rfl, ru2, rr2⟩ := vals_cons rr
  cases rr2
  obtain ⟨os, hos, hcl⟩ := hs
  have nd : ∀ a o, s.heap.get? a = some o → o.cls = .type "list" → sysModules ≠ a := fun a o e c z => by
    rw [← z, (I.bs _ _ hos).1] at e; cases e
    rw [hcl] at c; injection c with c; exact absurd c (by decide)
  obtain ⟨as, hr, hm⟩ := rw_reads I nd w v u d rw1 hd ru
  have fin : ∀ tk, s.toks ≤ tk → EP X pins τ Q (.bool (isaD ty d)) { s with toks := tk } := fun tk _ => ⟨.bl (isaD ty d), H, I.tok tk, rfl, q⟩
  cases ru2
  cases ty with
  | int => exact PySem.W.isinstance_int_data hr fin
  | bool => exact PySem.W.isinstance_bool_data hr fin
  | str => exact PySem.W.isinstance_str_data hr fin
  | tuple => exact PySem.W.isinstance_tuple_data hr fin
  | list => exact PySem.W.isinstance_list_data hr fin
  | dict => exact PySem.W.isinstance_dict_data hr fin

theorem bi_int : CallR X (.type "int") (rBi X.K .int) := by
  intro pins s τ H xs us Q I rv h
  obtain ⟨S, ws, Q', l, r, h, f⟩ := h
  match ws, h with
  | [.bl b], h =>
    obtain ⟨v, rfl, rw1⟩ := r.one
    obtain rfl := rw1.bl_
    obtain ⟨u, rfl, ru⟩ := rv.one
    cases ru
    exact PySem.call_int_bool ⟨.int (if b then 1 else 0), H, I.tok _, ⟨_, rfl⟩, f _ _ _ _ .refl l .i h⟩

/-! ## methods of built-in types -/
def rMt (K : PySem.W.Frag) (m : Mt) : V → List V → Hp → VK → Prop := fun x vs H Qh => ∃ S a ws Q, LinkS K H S ∧ RW K H S a x ∧ RWs K H S ws vs ∧ mtW m a ws S Q ∧ FinS K H S Q Qh
theorem mt_get (hu : X.A.units + 64 < cLine) : MtR X "dict.get" (rMt X.K .get) := by
  intro pins s σ H x xs v us Q I rx rv h
  obtain ⟨S, a, ws, Q', l, ra, r, h, f⟩ := h
  match ws, h with
  | [k], h =>
    obtain ⟨ks, vs, y, e, ek, h⟩ := h
    obtain ⟨p, kvs, rfl, h1, rfl, h3⟩ := rd_dct l ra e
    obtain ⟨v', rfl, rk⟩ := r.one
    obtain rfl := rk.key ek
    obtain ⟨u, rfl, ru⟩ := rv.one
    obtain rfl : v = Value.ref p := rx
    refine d_get1 (by omega) I (dget (k := y) h1) ru fun w' s3 I3 rw' => ⟨_, H, I3, rw', ?_⟩
    obtain ⟨i1, i2⟩ := look_val (k := y) h3
    cases q : look (kvs.map (·.1)) vs y with
    | none => rw [i2 q]; rw [q] at h; exact f _ _ _ _ .refl l .n h
    | some w => obtain ⟨v2, z, r2⟩ := i1 w q; rw [z]; rw [q] at h; exact f _ _ _ _ .refl l r2 h
  | [k, d], h =>
    obtain ⟨ks, vs, y, e, ek, h⟩ := h
    obtain ⟨p, kvs, rfl, h1, rfl, h3⟩ := rd_dct l ra e
    obtain ⟨v', vd, rfl, rk, rd'⟩ := r.two
    obtain rfl := rk.key ek
    obtain ⟨u, u2, rfl, ru, ru2⟩ := rv.two
    obtain rfl : v = Value.ref p := rx
    refine d_get2 (by omega) I (dget (k := y) h1) ru ru2 fun w' s3 I3 rw' => ⟨_, H, I3, rw', ?_⟩
    obtain ⟨i1, i2⟩ := look_val (k := y) h3
    cases q : look (kvs.map (·.1)) vs y with
    | none => rw [i2 q]; rw [q] at h; exact f _ _ _ _ .refl l rd' h
    | some w => obtain ⟨v2, z, r2⟩ := i1 w q; rw [z]; rw [q] at h; exact f _ _ _ _ .refl l r2 h
theorem mt_setd : MtR X "dict.setdefault" (rMt X.K .setdefault) := by
  intro pins s σ H x xs v us Q I rx rv h
  obtain ⟨S, a, ws, Q', l, ra, r, h, f⟩ := h
  match a, ws, h with
  | .ref p, [k, d], h =>
    obtain ⟨ks, vs, y, e, ek, hz, h1, h2⟩ := h
    obtain ⟨v1, v2, rfl, r1, r2⟩ := r.two
    obtain rfl : x = V.ref p := by unfold RW at ra; exact ra
    obtain rfl := r1.key ek
    obtain ⟨u1, u2, rfl, ru1, ru2⟩ := rv.two
    obtain rfl : v = Value.ref p := rx
    obtain ⟨o, hp, kvs, rfl, rfl, h3⟩ := l.at_ p _ e
    obtain ⟨i1, i2⟩ := look_val (k := y) h3
    refine d_setd I hp ru1 ru2 (by rw [List.length_map] at hz; exact hz) (fun v hv w' s' I' rw' => ?_) (fun hv w' s' I' rw' => ?_)
    · refine ⟨v, H, I', rw', ?_⟩
      cases q : look (kvs.map (·.1)) vs y with
      | none => rw [i2 q] at hv; cases hv
      | some w => obtain ⟨v3, z, r3⟩ := i1 w q; rw [z] at hv; cases hv; exact f _ _ _ _ .refl l r3 (h1 w q)
    · refine ⟨v2, _, I', rw', ?_⟩
      cases q : look (kvs.map (·.1)) vs y with
      | some w => obtain ⟨v3, z, r3⟩ := i1 w q; rw [z] at hv; cases hv
      | none => exact f _ _ _ _ (ext_chg e) (l.put (ext_chg e) (show RO _ _ _ (SO.dct _ _) (HO.dK _) from ⟨_, rfl, (put_keys kvs vs y v2 d).symm, put_vals h3 r2⟩)) (r2.ext (ext_chg e)) (h2 q)
theorem ints_rw {K : PySem.W.Frag} {H : Hp} {S : Sto} : ∀ {ns : List Int} {vs : List V}, RWs K H S (ns.map W.int) vs → vs = ns.map V.int
  | [], vs, h => by unfold RWs at h; exact h
  | n :: ns, vs, h => by
    have h' : RWs K H S (W.int n :: ns.map W.int) vs := h
    unfold RWs at h'
    obtain ⟨v, r, rfl, h2, h3⟩ := h'
    rw [ints_rw h3, h2.int_]; rfl
theorem rw_ints {K : PySem.W.Frag} {H : Hp} {S : Sto} : ∀ (ns : List Int), RWs K H S (ns.map W.int) (ns.map V.int)
  | [] => .nil
  | n :: ns => .cons .i (rw_ints ns)
theorem mt_rem : MtR X "list.remove" (rMt X.K .remove) := by
  intro pins s σ H x xs v us Q I rx rv h
  obtain ⟨S, a, ws, Q', l, ra, r, h, f⟩ := h
  match a, ws, h with
  | .ref p, [.int k], h =>
    obtain ⟨ns, j, e, hj, hno, h⟩ := h
    obtain ⟨v', rfl, r1⟩ := r.one
    obtain rfl := r1.int_
    obtain rfl : x = V.ref p := by unfold RW at ra; exact ra
    obtain ⟨o, h1, vs, rfl, h2⟩ := l.at_ p _ e
    obtain rfl := ints_rw h2
    refine mt_remove pins s σ H _ _ v us Q I rx rv ⟨p, ns, k, j, rfl, rfl, h1, hj, hno, ?_⟩
    exact f _ _ _ _ (ext_chg e) (l.put (ext_chg e) (.l (rw_ints _))) .n h
theorem mt_ext : MtR X "list.extend" (rMt X.K .extend) := by
  intro pins s σ H x xs v us Q I rx rv h
  obtain ⟨S, a, ws, Q', l, ra, r, h, f⟩ := h
  match a, ws, h with
  | .ref p, [.ref b], h =>
    obtain ⟨ys, zs, e, e2, hz, h⟩ := h
    obtain ⟨v', rfl, r1⟩ := r.one
    obtain rfl : x = V.ref p := by unfold RW at ra; exact ra
    obtain rfl : v' = V.ref b := by unfold RW at r1; exact r1
    obtain ⟨o, h1, vs, rfl, h2⟩ := l.at_ p _ e
    obtain ⟨o2, h3, vs2, rfl, h4⟩ := l.at_ b _ e2
    refine mt_extend pins s σ H _ _ v us Q I rx rv ⟨p, b, vs, vs2, rfl, rfl, h1, h3, by rw [← h2.len, ← h4.len]; exact hz, ?_⟩
    exact f _ _ _ _ (ext_chg e) (l.put (ext_chg e) (.l (h2.append h4))) .n h
theorem mt_ins : MtR X "list.insert" (rMt X.K .insert) := by
  intro pins s σ H x xs v us Q I rx rv h
  obtain ⟨S, a, ws, Q', l, ra, r, h, f⟩ := h
  match a, ws, h with
  | .ref p, [.int i, w], h =>
    obtain ⟨ys, e, hz, i0, i1, h⟩ := h
    obtain ⟨v1, v2, rfl, r1, r2⟩ := r.two
    obtain rfl : x = V.ref p := by unfold RW at ra; exact ra
    obtain rfl := r1.int_
    obtain ⟨o, h1, vs, rfl, h2⟩ := l.at_ p _ e
    refine mt_insert pins s σ H _ _ v us Q I rx rv ⟨p, vs, i, v2, rfl, rfl, h1, by rw [← h2.len]; exact hz, i0, i1, ?_⟩
    exact f _ _ _ _ (ext_chg e) (l.put (ext_chg e) (.l (((h2.take _).append (.cons r2 .nil)).append (h2.drop _)))) .n h
theorem mt_pp : MtR X "list.pop" (rMt X.K .pop) := by
  intro pins s σ H x xs v us Q I rx rv h
  obtain ⟨S, a, ws, Q', l, ra, r, h, f⟩ := h
  match a, ws, h with
  | .ref p, [], h =>
    obtain ⟨ys, y, e, hy, h⟩ := h
    obtain rfl : xs = [] := by unfold RWs at r; exact r
    obtain rfl : x = V.ref p := by unfold RW at ra; exact ra
    obtain ⟨o, h1, vs, rfl, h2⟩ := l.at_ p _ e
    obtain ⟨v', hv, r'⟩ := h2.get hy
    refine mt_pop pins s σ H _ _ v us Q I rx rv ⟨p, vs, v', rfl, rfl, h1, by rw [← h2.len]; exact hv, ?_⟩
    exact f _ _ _ _ (ext_chg e) (l.put (ext_chg e) (.l (by rw [List.dropLast_eq_take, List.dropLast_eq_take, ← h2.len]; exact h2.take _))) (r'.ext (ext_chg e)) h
theorem mt_clr : MtR X "list.clear" (rMt X.K .clear) := by
  intro pins s σ H x xs v us Q I rx rv h
  obtain ⟨S, a, ws, Q', l, ra, r, h, f⟩ := h
  match a, ws, h with
  | .ref p, [], h =>
    obtain ⟨ys, e, h⟩ := h
    obtain rfl : xs = [] := by unfold RWs at r; exact r
    obtain rfl : x = V.ref p := by unfold RW at ra; exact ra
    obtain ⟨o, h1, vs, rfl, h2⟩ := l.at_ p _ e
    refine mt_clear pins s σ H _ _ v us Q I rx rv ⟨p, vs, rfl, rfl, h1, ?_⟩
    exact f _ _ _ _ (ext_chg e) (l.put (ext_chg e) (.l .nil)) .n h
theorem mt_app : MtR X "list.append" (rMt X.K .append) := by
  intro pins s σ H x xs v us Q I rx rv h
  obtain ⟨S, a, ws, Q', l, ra, r, h, f⟩ := h
  match a, ws, h with
  | .ref p, [w], h =>
    obtain ⟨ys, e, hz, h⟩ := h
    obtain ⟨v', rfl, r1⟩ := r.one
    obtain rfl : x = V.ref p := by unfold RW at ra; exact ra
    obtain ⟨o, h1, vs, rfl, h2⟩ := l.at_ p _ e
    refine mt_append pins s σ H _ _ v us Q I rx rv ⟨p, vs, v', rfl, rfl, h1, by rw [← h2.len]; exact hz, ?_⟩
    exact f _ _ _ _ (ext_chg e) (l.put (ext_chg e) (.l (h2.append (.cons r1 .nil)))) .n h
end
end PD

set_option Elab.async false
set_option linter.all false
set_option maxRecDepth 100000
set_option maxHeartbeats 4000000
namespace PD
open PySem PySem.Spec PyProof.Rows L2

/-! ## what statements mean -/
structure En where
  nx : Sl → Sto → Prop
  rt : QW
  bk : Sl → Sto → Prop := fun _ _ => False
  ct : Sl → Sto → Prop := fun _ _ => False
  ex : QW := fun _ _ => False
/-- a place changed: o[i] = v -/
def setW (o i v : W) (S : Sto) (Q : Sto → Prop) : Prop := match o with
  | .ref a => match S a with
    | some (.lst xs) => ∃ k j, i = .int k ∧ ixN xs.length k = some j ∧ Q (S.set a (.lst (xs.set j v)))
    | some (.dct ks ws) => ∃ k, keyOf i = some k ∧ ks.length < sizeLine ∧ Q (S.set a (.dct (putKW ks ws k v).1 (putKW ks ws k v).2))
    | _ => False
  | _ => False
def augW : Operator → W → W → Option W
  | .Add, .int i, .int j => some (.int (i + j))
  | .Sub, .int i, .int j => some (.int (i - j))
  | _, _, _ => none
/-- a for's turns -/
def loopF (body : En → W → Sl → Sto → Prop) (D : En) : List W → Sl → Sto → Prop
  | [], σ, S => D.nx σ S
  | x :: xs, σ, S => body { D with nx := loopF body D xs, ct := loopF body D xs, bk := D.nx } x σ S
/-- a while's turns, so many at most -/
def loopW (test : Sl → Sto → QB → Prop) (body : En → Sl → Sto → Prop) (D : En) : Nat → Sl → Sto → Prop
  | 0, _, _ => False
  | n + 1, σ, S => test σ S fun b S1 => if b = true then body { D with nx := loopW test body D n, ct := loopW test body D n, bk := D.nx } σ S1 else D.nx σ S1
/-- a try's body: one thing that may be refused -/
inductive Tb where
  | one (e : E)
  | asg (j : Nat) (e : E)
  | iff (c : Tt) (a b : Tb)
/-- an except suite: the exception is kept, or its field told on -/
inductive Hs where
  | keep (j : Nat)
  | app (j : Nat) (f : Str)
mutual
inductive St where
  | set (t : Tg) (e : E)
  | par (i j : Nat) (a b : E)
  | par3 (i j l : Nat) (a b c : E)
  | setix (o i e : E)
  | aug (i : Nat) (op : Operator) (e : E)
  | expr (e : E)
  | ret (e : E)
  | iff (c : Tt) (a b : Sts)
  | forr (t : Tg) (it : It) (b : Sts)
  | whil (c : Tt) (b : Sts)
  | pass | brk | cont
  | setf (i : Nat) (c f : Str) (e : E)
  | dead
  | raise (c f : Str) (e : E)
  | tryk (b : Tb) (x : Str) (i : Nat) (h : Hs)
inductive Sts where
  | nil
  | cons (s : St) (r : Sts)
  | fz (i : Nat) (r : Sts)
end
section
variable (C : Cn)
def wTb : Tb → En → Sl → Sto → Prop
  | .one e, D, σ, S => wE C e σ S (fun _ S1 => D.nx σ S1) D.ex
  | .asg j e, D, σ, S => wE C e σ S (fun w S1 => j < σ.length ∧ D.nx (σ.set j (some w)) S1) D.ex
  | .iff c a b, D, σ, S => wT C c σ S (fun r S1 => if r = true then wTb a D σ S1 else wTb b D σ S1) D.ex
def wHs (i : Nat) : Hs → En → Sl → Sto → Prop
  | .keep j, D, σ, S => ∃ w, σ[i]? = some (some w) ∧ D.nx (σ.set j (some w)) S
  | .app j f, D, σ, S => wE C (.meth .append (.loc j) (.cons (.bi .repr (.cons (.xfl i f) .nil)) .nil)) σ S (fun _ S1 => D.nx σ S1) (fun _ _ => False)
mutual
def wS : St → En → Sl → Sto → Prop
  | .set t e, D, σ, S => wE C e σ S (fun w S1 => t.go w σ fun σ' => D.nx σ' S1) D.ex
  | .par i j a b, D, σ, S => wE C a σ S (fun x S1 => wE C b σ S1 (fun y S2 => D.nx ((σ.set i (some x)).set j (some y)) S2) D.ex) D.ex
  | .par3 i j l a b c, D, σ, S => wE C a σ S (fun x S1 => wE C b σ S1 (fun y S2 => wE C c σ S2 (fun z S3 => D.nx (((σ.set i (some x)).set j (some y)).set l (some z)) S3) D.ex) D.ex) D.ex
  | .setix o i e, D, σ, S => wE C e σ S (fun v S1 => wE C o σ S1 (fun a S2 => wE C i σ S2 (fun k S3 => setW a k v S3 fun S4 => D.nx σ S4) D.ex) D.ex) D.ex
  | .aug i op e, D, σ, S => ∃ x, σ[i]? = some (some x) ∧ wE C e σ S (fun y S1 => ∃ r, augW op x y = some r ∧ D.nx (σ.set i (some r)) S1) D.ex
  | .expr e, D, σ, S => wE C e σ S (fun _ S1 => D.nx σ S1) D.ex
  | .ret e, D, σ, S => wE C e σ S D.rt D.ex
  | .iff c a b, D, σ, S => wT C c σ S (fun r S1 => if r = true then wSs a D σ S1 else wSs b D σ S1) D.ex
  | .forr t it b, D, σ, S => wI C it σ S (fun xs S1 => loopF (fun D' x σ' S' => t.go x σ' fun σ2 => wSs b D' σ2 S') D xs σ S1) D.ex
  | .whil c b, D, σ, S => ∃ n, loopW (fun σ' S' Q => wT C c σ' S' Q D.ex) (fun D' σ' S' => wSs b D' σ' S') D n σ S
  | .pass, D, σ, S => D.nx σ S
  | .brk, D, σ, S => D.bk σ S
  | .cont, D, σ, S => D.ct σ S
  | .setf i c f e, D, σ, S => wE C e σ S (fun v S1 => ∃ p, σ[i]? = some (some (.ref p)) ∧ ∃ fs ws, S1 p = some (.ins c fs ws) ∧ fs.contains f = false ∧ fs.length < 1000 ∧ D.nx σ (S1.set p (.ins c (fs ++ [f]) (ws ++ [v])))) D.ex
  | .dead, _, _, _ => False
  | .raise c f e, D, σ, S => wE C e σ S (fun w S1 => D.ex (.exc c f w) S1) D.ex
  | .tryk b x i h, D, σ, S => wTb C b { D with ex := fun w S1 => ∃ c f v, w = .exc c f v ∧ (x = c ∨ x = "NewError") ∧ wHs C i h { nx := fun σ' S' => D.nx (σ'.set i none) S', rt := D.rt } (σ.set i (some w)) S1 } σ S
def wSs : Sts → En → Sl → Sto → Prop
  | .nil, D, σ, S => D.nx σ S
  | .cons s r, D, σ, S => wS s { D with nx := fun σ' S' => wSs r D σ' S' } σ S
  | .fz i r, D, σ, S => ∃ p, σ[i]? = some (some (.ref p)) ∧ i < σ.length ∧
      ((∃ xs, S p = some (.lst xs) ∧ wSs r D (σ.set i (some (.lst xs))) (S.del p)) ∨ (∃ ks ws, S p = some (.dct ks ws) ∧ wSs r D (σ.set i (some (.dct ks ws))) (S.del p)))
end
end

/-! ## the small language against the text -/
/-- a scope, and the names whose cells were made at the entry -/
structure Sc where
  sc : Scope
  fb : Str → Bool
  /-- a def that makes functions: its key, what its functions' names begin with -/
  mf : Option (He.Defn × Str)
def visB (sc : Scope) (x : Str) : Bool := match sc.names.lookup x with
  | some .local => true
  | some .cell => true
  | some .free => true
  | _ => false
def locB (c : Sc) (x : Str) : Bool := match c.sc.names.lookup x with
  | some .local => true
  | some .cell => c.fb x
  | _ => false
def locB' (c : Sc) (x : Str) : Bool := match c.sc.names.lookup x with
  | some .local => true
  | _ => false
def glB (sc : Scope) (x : Str) : Bool := match sc.names.lookup x with
  | some .globalImplicit => true
  | _ => false
def Bi.name : Bi → Str
  | .len => "len" | .abs => "abs" | .tuple => "tuple" | .list => "list" | .sum => "sum" | .any => "any" | .all => "all" | .repr => "repr" | .int => "int" | .dict => "dict" | .max => "max" | .sorted => "sorted" | .reprd => "repr"
def Ty.name : Ty → Str
  | .int => "int" | .bool => "bool" | .str => "str" | .tuple => "tuple" | .list => "list" | .dict => "dict"
def Mt.name : Mt → Str
  | .get => "get" | .setdefault => "setdefault" | .append => "append" | .remove => "remove" | .count => "count" | .index => "index" | .extend => "extend" | .insert => "insert" | .pop => "pop" | .clear => "clear"
def Mt.okB : Mt → Bool
  | _ => true
/-- tests that are told by a value -/
def tvB : E → Bool
  | .un .Not _ => false
  | .and2 _ _ => false
  | .or2 _ _ => false
  | .ifx _ _ _ => false
  | .frz _ => false
  | _ => true
def litB : Lit → Const → Bool
  | .non, .none => true
  | .bl b, .bool c => b == c
  | .int i, .int j => decide (i = j)
  | .str x, .str y => decide (x = y)
  | _, _ => false
def opB : Operator → Operator → Bool := fun a b => a == b
/-- which comparisons are told -/
def cmpB : CmpOp → Expr → Bool
  | .Is, .Constant .none _ _ => true
  | .IsNot, .Constant .none _ _ => true
  | .Is, .Constant (.bool _) _ _ => true
  | .IsNot, .Constant (.bool _) _ _ => true
  | .Is, _ => false
  | .IsNot, _ => false
  | _, _ => true
/-- the text's defs (its classes among them), the attributes, the methods that are told: class, method, def -/
structure Fl where
  fs : List Str
  atr : List (Str × Str) := []
  met : List (Str × Str × Str) := []
  /-- own exceptions that are raised, with their field; classes that are asked of -/
  exs : List (Str × Str) := []
  exn : List Str := []
  /-- classes that are asked of, and compared by their own == -/
  eqs : List Str := []
  /-- defs that are called with a lambda -/
  cfs : List Str := []
section
variable (fr : List Str) (fl : Fl) (N : List Str)
/-- a lambda is the one that is told, what it captures stands in these slots -/
def lamB (c : Sc) (f : Str) (js : List Nat) : Expr → Bool
  | .Lambda params body scope lpos => (match findC f with
    | some d => decide (d.name = ("<lambda>" : Str)) && eqArgs params d.params && (match d.body with | .expr b => eqX body b | _ => false) && decide (scope = d.scope) && (match c.mf with
        | some m => (match tfL.lookup m.1 with
          | some nm => decide (nm lpos.line lpos.col = m.2 ++ ("<lambda>" : Str)) && decide (d.qual = m.2 ++ ("<lambda>" : Str))
          | none => false)
        | none => false) && NdefX.ndefB c.sc scope d.fr && (scope.names.all fun y => !decide (y.2 = NameKind.free) || c.fb y.1) && decide (js.map (fun j => N[j]?) = d.fr.map some)
    | none => false)
  | _ => false
def ownP (own : List Nat) : List (Str × Nat) := own.filterMap fun i => (N[i]?).map fun x => (x, i)
mutual
def chkT (c : Sc) : Tg → Expr → Bool
  | .name i, .Name x _ => decide (N[i]? = some x) && locB c x
  | .tup ts, .Tuple es _ _ => chkTs c ts es
  | _, _ => false
def chkTs (c : Sc) : List Tg → List Expr → Bool
  | [], [] => true
  | t :: ts, e :: es => chkT c t e && chkTs c ts es
  | _, _ => false
end
mutual
def chkE : E → Sc → Expr → Bool
  | .loc i, c, .Name x _ => decide (N[i]? = some x) && visB c.sc x && !(x == ("__debug__" : Str)) && !(x == ("__classdict__" : Str))
  | .lit l, _, .Constant k _ _ => litB l k
  | .glob x, c, .Name y _ => decide (x = y) && glB c.sc x && !(x == ("__debug__" : Str))
  | .tup es, c, .Tuple ps _ _ => chkEs es c ps
  | .lst _ es, c, .List ps _ => chkEs es c ps
  | .dct _ es, c, .Dict ks vs _ => chkP es c ks vs && decide (ks.length ≤ 15)
  | .bin op a b, c, .BinOp pa o pb _ => (op == o) && chkE a c pa && chkE b c pb
  | .un op a, c, .UnaryOp o pa _ => (op == o) && (op == .USub || op == .Not) && chkE a c pa
  | .and2 a b, c, .BoolOp .And (pa :: pb :: rest) pos => chkE a c pa && (match rest with | [] => chkE b c pb | _ :: _ => chkE b c (.BoolOp .And (pb :: rest) pos))
  | .or2 a b, c, .BoolOp .Or (pa :: pb :: rest) pos => chkE a c pa && (match rest with | [] => chkE b c pb | _ :: _ => chkE b c (.BoolOp .Or (pb :: rest) pos))
  | .cmp op a b, c, .Compare pa [o] [pb] _ => (op == o) && cmpB op pb && chkE a c pa && chkE b c pb
  | .cmp3 o1 o2 a b d, c, .Compare pa [p1, p2] [pb, pd] _ => (o1 == p1) && (o2 == p2) && cmpB o1 pb && cmpB o2 pd && (o2 != .In) && (o2 != .NotIn) && chkE a c pa && chkE b c pb && chkE d c pd
  | .ifx d a b, c, .IfExp pd pa pb _ => chkV d c pd && chkE a c pa && chkE b c pb
  | .ix a b, c, .Subscript pa pb _ => chkE a c pa && chkE b c pb
  | .slc a lo hi, c, .Subscript pa (.Slice pl ph none _) _ => chkE a c pa && chkO lo c pl && chkO hi c ph
  | .callv i es, c, .Call (.Name x _) (pa :: ps) [] _ => decide (N[i]? = some x) && visB c.sc x && !(x == ("__debug__" : Str)) && !(x == ("__classdict__" : Str)) && chkEs es c (pa :: ps)
  | .callL g es f js, c, .Call (.Name x _) (pa :: ps) [] _ => decide (g = x) && fl.cfs.contains g && glB c.sc g && !(g == ("__debug__" : Str)) && chkL es f js c (pa :: ps) && decide (2 ≤ (pa :: ps).length)
  | .call f es, c, .Call (.Name g _) (pa :: ps) [] _ => decide (f = g) && fl.fs.contains f && glB c.sc f && !(f == ("__debug__" : Str)) && chkEs es c (pa :: ps)
  | .call f .nil, c, .Call (.Name g _) [] [] _ => decide (f = g) && (g != ("super" : Str)) && fl.fs.contains f && glB c.sc f && !(f == ("__debug__" : Str))
  | .cat a b, c, .BinOp pa .Add pb _ => chkE a c pa && chkE b c pb
  | .isa t a, c, .Call (.Name g _) [pa, .Name tn _] [] _ => decide (g = "isinstance") && glB c.sc g && fr.contains g && decide (t.name = tn) && glB c.sc tn && fr.contains tn && chkE a c pa
  | .bi b es, c, .Call (.Name g _) (pa :: ps) [] _ => decide (b.name = g) && glB c.sc g && fr.contains g && chkEs es c (pa :: ps)
  | .meth m o es, c, .Call (.Attribute po n ap) ps [] cp => decide (m.name = n) && m.okB && (ap.endLine == cp.line) && chkE o c po && chkEs es c ps && decide (ps.length < 20)
  | .comp _ own t it ifs elt, c, .ListComp pe [⟨tg, iter, pf, 0⟩] scope _ => blkC N c.sc scope (ownP N own) && decide ((ownP N own).map (·.2) = own) && t.own own && chkI it c iter tg &&
      chkT N ⟨relS scope c.sc, fun x => scope.names.lookup x == some .cell, c.mf⟩ t tg && chkF ifs ⟨relS scope c.sc, fun x => scope.names.lookup x == some .cell, c.mf⟩ pf && chkE elt ⟨relS scope c.sc, fun x => scope.names.lookup x == some .cell, c.mf⟩ pe
  | .fld i k f, c, .Attribute (.Name x _) g _ => decide (N[i]? = some x) && visB c.sc x && !(x == ("__debug__" : Str)) && !(x == ("__classdict__" : Str)) && (decide (f = g) && fl.atr.contains (k, f))
  | .xfl i f, c, .Attribute (.Name x _) g _ => decide (N[i]? = some x) && visB c.sc x && !(x == ("__debug__" : Str)) && !(x == ("__classdict__" : Str)) && decide (f = g)
  | .isx i y, c, .Call (.Name g _) [.Name x _, .Name z _] [] _ => decide (N[i]? = some x) && visB c.sc x && !(x == ("__debug__" : Str)) && !(x == ("__classdict__" : Str)) && (decide (g = "isinstance") && glB c.sc g && fr.contains g && decide (y = z) && (glB c.sc z && !(z == ("__debug__" : Str)) && fl.exn.contains z))
  | .inp neg a b, c, .Compare pa [o] [pb] _ => (o == (if neg then CmpOp.NotIn else CmpOp.In)) && chkE a c pa && chkE b c pb
  | .lzip a b, c, .Call (.Name g _) [.Call (.Name g2 _) [pa, pb] [] _] [] _ => decide (g = "list") && glB c.sc g && fr.contains g && decide (g2 = "zip") && (glB c.sc g2 && fr.contains g2 && chkE a c pa && chkE b c pb)
  | .sos a, c, .Call (.Name g _) [.Call (.Name g2 _) [pa] [] _] [] _ => decide (g = "sorted") && glB c.sc g && fr.contains g && decide (g2 = "set") && (glB c.sc g2 && fr.contains g2 && chkE a c pa)
  | .maxd a d, c, .Call (.Name g _) [pa] [⟨some kn, .Constant (.int j) _ _, _⟩] _ => decide (g = "max") && glB c.sc g && fr.contains g && decide (kn = "default") && (decide (j = d) && chkE a c pa)
  | .isi i y, c, .Call (.Name g _) [.Name x _, .Name z _] [] _ => decide (N[i]? = some x) && visB c.sc x && !(x == ("__debug__" : Str)) && !(x == ("__classdict__" : Str)) && (decide (g = "isinstance") && glB c.sc g && fr.contains g && decide (y = z) && (glB c.sc y && !(y == ("__debug__" : Str)) && fl.eqs.contains y))
  | .cmpo neg k n a b, c, .Compare pa [o] [pb] _ => (o == (if neg then CmpOp.NotEq else CmpOp.Eq)) && fl.eqs.contains k && fl.met.contains (k, ("__eq__" : Str), n) && chkE a c pa && chkE b c pb
  | .own k m n i es, c, .Call (.Attribute (.Name x _) g ap) ps [] cp => decide (N[i]? = some x) && visB c.sc x && !(x == ("__debug__" : Str)) && !(x == ("__classdict__" : Str)) && (decide (m = g) && fl.met.contains (k, m, n) && (ap.endLine == cp.line) && decide (ps.length < 20) && chkEs es c ps)
  | .dcomp own t it kx vx, c, .DictComp pk pv [⟨tg, iter, [], 0⟩] scope _ => blkC N c.sc scope (ownP N own) && decide ((ownP N own).map (·.2) = own) && t.own own && chkI it c iter tg &&
      (chkT N ⟨relS scope c.sc, fun x => scope.names.lookup x == some .cell, c.mf⟩ t tg && chkE kx ⟨relS scope c.sc, fun x => scope.names.lookup x == some .cell, c.mf⟩ pk && chkE vx ⟨relS scope c.sc, fun x => scope.names.lookup x == some .cell, c.mf⟩ pv)
  | .comp2 _ own t it own1 t1 it1 elt, c, .ListComp pe [⟨tg, iter, [], 0⟩, ⟨tg1, iter1, [], 0⟩] scope _ => blkC N c.sc scope (ownP N own) && decide ((ownP N own).map (·.2) = own) && t.own own && chkI it c iter tg &&
      (chkT N ⟨relS scope c.sc, fun x => scope.names.lookup x == some .cell, c.mf⟩ t tg && chkE elt ⟨relS scope c.sc, fun x => scope.names.lookup x == some .cell, c.mf⟩ pe && (t1.own own1 && (own1.all fun i => own.contains i) && chkI it1 ⟨relS scope c.sc, fun x => scope.names.lookup x == some .cell, c.mf⟩ iter1 tg1 && chkT N ⟨relS scope c.sc, fun x => scope.names.lookup x == some .cell, c.mf⟩ t1 tg1))
  | .frz a, c, p => chkE a c p
  | _, _, _ => false
def chkEs : Es → Sc → List Expr → Bool
  | .nil, _, [] => true
  | .cons e es, c, p :: ps => chkE e c p && chkEs es c ps
  | _, _, _ => false
def chkL : Es → Str → List Nat → Sc → List Expr → Bool
  | .nil, f, js, c, [p] => lamB N c f js p
  | .cons e es, f, js, c, p :: ps => chkE e c p && chkL es f js c ps
  | _, _, _, _, _ => false
def chkP : Es → Sc → List (Option Expr) → List Expr → Bool
  | .nil, _, [], [] => true
  | .cons k (.cons v es), c, some pk :: ks, pv :: vs => chkE k c pk && chkE v c pv && chkP es c ks vs
  | _, _, _, _ => false
def chkO : Eo → Sc → Option Expr → Bool
  | .none, _, none => true
  | .some e, c, some p => chkE e c p
  | _, _, _ => false
def chkF : To → Sc → List Expr → Bool
  | .none, _, [] => true
  | .some e, c, [p] => chkV e c p
  | _, _, _ => false
def chkV : Tt → Sc → Expr → Bool
  | .val e, c, p => tvB e && chkE e c p
  | .not t, c, .UnaryOp .Not p _ => chkV t c p
  | .and a b, c, .BoolOp .And (p :: q :: rest) pos => chkV a c p && (match rest with | [] => chkV b c q | _ :: _ => chkV b c (.BoolOp .And (q :: rest) pos))
  | .or a b, c, .BoolOp .Or (p :: q :: rest) pos => chkV a c p && (match rest with | [] => chkV b c q | _ :: _ => chkV b c (.BoolOp .Or (q :: rest) pos))
  | _, _, _ => false
def chkI : It → Sc → Expr → Expr → Bool
  | .ex e, c, p, _ => chkE e c p
  | .rng1 a, c, .Call (.Name g _) [p] [] _, _ => decide (g = "range") && glB c.sc g && fr.contains g && chkE a c p
  | .rng2 a b, c, .Call (.Name g _) [p, q] [] _, _ => decide (g = "range") && glB c.sc g && fr.contains g && chkE a c p && chkE b c q
  | .enum e, c, .Call (.Name g _) [p] [] _, .Tuple _ _ _ => decide (g = "enumerate") && glB c.sc g && fr.contains g && chkE e c p
  | .zip a b, c, .Call (.Name g _) [p, q] [] _, .Tuple _ _ _ => decide (g = "zip") && glB c.sc g && fr.contains g && chkE a c p && chkE b c q
  | _, _, _, _ => false
end
def isComp : Expr → Bool
  | .ListComp _ _ _ _ => true
  | .SetComp _ _ _ _ => true
  | .DictComp _ _ _ _ _ => true
  | _ => false
def isCompE : E → Bool
  | .comp _ _ _ _ _ _ => true
  | _ => false
def isTuple : Expr → Bool
  | .Tuple _ _ _ => true
  | _ => false
/-- a tuple of constants -/
def foldB : Expr → Expr → Bool
  | .Tuple _ _ _, .Tuple vs _ _ => vs.all (foldedForSure 8)
  | _, _ => false
/-- a name among these is no plain local one -/
def cellT (c : Sc) : Expr → Bool
  | .Tuple ts _ _ => ts.any fun
    | .Name x _ => !(c.sc.names.lookup x == some .local)
    | _ => false
  | _ => false
/-- the store of a comprehension goes within its own frame -/
def swapsB (sc : Scope) (x : Str) (px : Pos) : Expr → Bool
  | .ListComp _ _ scope pos => (match sc.names.lookup x with | some .local => true | _ => false) && (px.line == pos.line) && !(scope.names.any fun (n, k) => n == x && (k == .local || k == .cell))
  | _ => false
def chkOne (e : E) (c : Sc) : List Stmt → Bool
  | [.Expr p _] => chkE fr fl N e c p && !isComp p
  | _ => false
def chkAsg (j : Nat) (e : E) (c : Sc) : List Stmt → Bool
  | [.Assign [.Name x _] p _] => decide (N[j]? = some x) && locB c x && chkE fr fl N e c p && !isComp p
  | _ => false
def ifOf : List Stmt → Option (Expr × List Stmt × List Stmt)
  | [.If pd pa pb _] => some (pd, pa, pb)
  | _ => none
def chkTb : Tb → Sc → List Stmt → Bool
  | .one e, c, ps => chkOne fr fl N e c ps
  | .asg j e, c, ps => chkAsg fr fl N j e c ps
  | .iff d a b, c, ps => match ifOf ps with
    | some (pd, pa, pb) => chkV fr fl N d c pd && chkTb a c pa && chkTb b c pb
    | none => false
def chkKeep (i j : Nat) (c : Sc) : List Stmt → Bool
  | [.Assign [.Name x _] (.Name y _) _] => decide (N[j]? = some x) && locB' c x && decide (N[i]? = some y) && visB c.sc y && (!(y == ("__debug__" : Str)) && !(y == ("__classdict__" : Str)))
  | _ => false
def chkApp (i j : Nat) (f : Str) (c : Sc) : List Stmt → Bool
  | [.Expr (.Call (.Attribute (.Name x _) n ap) [.Call (.Name g _) [.Attribute (.Name y _) h _] [] _] [] cp) _] => decide (N[j]? = some x) && visB c.sc x && !(x == ("__debug__" : Str)) && !(x == ("__classdict__" : Str)) &&
          (decide (n = "append") && (ap.endLine == cp.line) && decide (g = "repr") && glB c.sc g && (fr.contains g && decide (N[i]? = some y) && visB c.sc y && !(y == ("__debug__" : Str)) && (!(y == ("__classdict__" : Str)) && decide (f = h))))
  | _ => false
def chkHs (i : Nat) : Hs → Sc → List Stmt → Bool
  | .keep j, c, ps => chkKeep N i j c ps
  | .app j f, c, ps => chkApp fr N i j f c ps
def chkTr (b : Tb) (x : Str) (i : Nat) (h : Hs) (c : Sc) (pb : List Stmt) : List ExceptHandler → List Stmt → List Stmt → Bool
  | [.ExceptHandler (some (.Name y _)) (some n) (p0 :: ps) _], [], [] => decide (x = y) && glB c.sc y && !(y == ("__debug__" : Str)) && fl.exn.contains y && (decide (N[i]? = some n) && locB' c n && chkTb fr fl N b c pb && chkHs fr N i h c (p0 :: ps))
  | _, _, _ => false
def chkRs (k f : Str) (e : E) (c : Sc) : Option Expr → Option Expr → Bool
  | some (.Call (.Name g _) [p] [] _), none => decide (k = g) && glB c.sc g && !(g == ("__debug__" : Str)) && fl.exs.contains (k, f) && chkE fr fl N e c p
  | _, _ => false
def chkP3 (i j l : Nat) (a b d : E) (c : Sc) : Expr → Expr → Bool
  | .Tuple [.Name x px, .Name y py, .Name z pz] _ _, .Tuple [pa, pb, pd] _ _ => decide (N[i]? = some x) && decide (N[j]? = some y) && decide (N[l]? = some z) && (i != j) && ((i != l) && (j != l) && locB' c x && locB' c y && (locB' c z && (py.line == px.line) && (pz.line == px.line) && !([pa, pb, pd].all (foldedForSure 8)) && (!([pa, pb, pd].all (constantsAlone 8)) && chkE fr fl N a c pa && chkE fr fl N b c pb && chkE fr fl N d c pd)))
  | _, _ => false
mutual
def chkS : St → Sc → Stmt → Bool
  | .set t e, c, .Assign [tg] p _ => chkT N c t tg && chkE fr fl N e c p && (match tg with
      | .Name x px => (!isComp p || (swapsB c.sc x px p && isCompE e))
      | _ => !isComp p && (!isTuple p || foldB tg p || cellT c tg))
  | .setix o i e, c, .Assign [.Subscript po pi _] p _ => chkE fr fl N o c po && chkE fr fl N i c pi && chkE fr fl N e c p && !isComp p && !isTuple p
  | .aug i op e, c, .AugAssign (.Name x _) o p _ => decide (N[i]? = some x) && locB c x && (op == o) && (op == .Add || op == .Sub) && chkE fr fl N e c p
  | .par i j a b, c, .Assign [.Tuple [.Name x px, .Name y py] _ _] (.Tuple [pa, pb] _ _) _ => decide (N[i]? = some x) && decide (N[j]? = some y) && (i != j) && locB' c x && locB' c y && (py.line == px.line) && !([pa, pb].all (foldedForSure 8)) && !([pa, pb].all (constantsAlone 8)) && chkE fr fl N a c pa && chkE fr fl N b c pb
  | .par3 i j l a b d, c, .Assign [tg] p _ => chkP3 fr fl N i j l a b d c tg p
  | .expr e, c, .Expr p _ => chkE fr fl N e c p && !isComp p
  | .ret e, c, .Return (some p) _ => chkE fr fl N e c p
  | .iff d a b, c, .If pd pa pb _ => chkV fr fl N d c pd && chkSs a c pa && chkSs b c pb
  | .forr t it b, c, .For tg iter pb [] _ => chkI fr fl N it c iter tg && chkT N c t tg && chkSs b c pb
  | .whil d b, c, .While pd pb [] _ => chkV fr fl N d c pd && chkSs b c pb
  | .pass, _, .Pass _ => true
  | .brk, _, .Break _ => true
  | .cont, _, .Continue _ => true
  | .setf i k f e, c, .Assign [.Attribute (.Name x _) g _] p _ => decide (N[i]? = some x) && visB c.sc x && !(x == ("__debug__" : Str)) && !(x == ("__classdict__" : Str)) && (decide (f = g) && fl.atr.contains (k, f) && chkE fr fl N e c p && !isTuple p)
  | .dead, _, .Raise _ _ _ => true
  | .raise k f e, c, .Raise pe ca _ => chkRs fr fl N k f e c pe ca
  | .tryk b x i h, c, .Try pb hs oe fe _ => chkTr fr fl N b x i h c pb hs oe fe
  | _, _, _ => false
def chkSs : Sts → Sc → List Stmt → Bool
  | .nil, _, [] => true
  | .cons s r, c, p :: ps => chkS s c p && chkSs r c ps
  | .fz _ r, c, ps => chkSs r c ps
  | _, _, _ => false
end
end
end PD

set_option Elab.async false
set_option linter.all false
set_option maxRecDepth 100000
set_option maxHeartbeats 4000000
namespace PD
open PySem PySem.Spec PyProof.Rows L2

/-! ## the text's forms -/
def plainP : Expr → Bool
  | .Starred .. => false
  | .Set .. => false
  | .Slice .. => false
  | .Call f [] ks _ => match f, ks with
    | .Name g _, [] => g != ("super" : Str)
    | .Attribute _ _ _, [] => true
    | _, _ => false
  | _ => true
theorem chk_np {fr : List Str} {fl : Fl} {N : List Str} : ∀ (e : E) (c : Sc) (p : Expr), plainP p = false → chkE fr fl N e c p = false
  | .frz a, c, p, h => by unfold chkE; exact chk_np a c p h
  | .loc _, c, p, h => by cases p <;> first | rfl | (cases h; done)
  | .lit _, c, p, h => by cases p <;> first | rfl | (cases h; done)
  | .glob _, c, p, h => by cases p <;> first | rfl | (cases h; done)
  | .tup _, c, p, h => by cases p <;> first | rfl | (cases h; done)
  | .lst _ _, c, p, h => by cases p <;> first | rfl | (cases h; done)
  | .dct _ _, c, p, h => by cases p <;> first | rfl | (cases h; done)
  | .bin _ _ _, c, p, h => by cases p <;> first | rfl | (cases h; done)
  | .cat _ _, c, p, h => by cases p <;> first | rfl | (cases h; done)
  | .un _ _, c, p, h => by cases p <;> first | rfl | (cases h; done)
  | .and2 _ _, c, p, h => by cases p <;> first | rfl | (cases h; done)
  | .or2 _ _, c, p, h => by cases p <;> first | rfl | (cases h; done)
  | .cmp _ _ _, c, p, h => by cases p <;> first | rfl | (cases h; done)
  | .cmp3 _ _ _ _ _, c, p, h => by cases p <;> first | rfl | (cases h; done)
  | .ifx _ _ _, c, p, h => by cases p <;> first | rfl | (cases h; done)
  | .ix _ _, c, p, h => by cases p <;> first | rfl | (cases h; done)
  | .slc _ _ _, c, p, h => by cases p <;> first | rfl | (cases h; done)
  | .comp _ _ _ _ _ _, c, p, h => by cases p <;> first | rfl | (cases h; done)
  | .callL _ _ _ _, c, p, h => by
    cases p <;> first | rfl | (cases h; done) | skip
    rename_i f as ks pos
    cases as with
    | cons a as => cases h
    | nil => cases f <;> rfl
  | .callv _ _, c, p, h => by
    cases p <;> first | rfl | (cases h; done) | skip
    rename_i f as ks pos
    cases as with
    | cons a as => cases h
    | nil => cases f <;> rfl
  | .call x es, c, p, h => by
    cases p <;> first | rfl | (cases h; done) | skip
    rename_i f as ks pos
    cases as with
    | cons a as => cases h
    | nil =>
      cases f <;> first | (cases es <;> rfl; done) | skip
      rename_i g gp
      cases ks with
      | cons k ks => cases es <;> rfl
      | nil =>
        cases es with
        | cons e es => rfl
        | nil =>
          have h' : (g != ("super" : Str)) = false := h
          show (decide (x = g) && (g != ("super" : Str)) && fl.fs.contains x && glB c.sc x && !(x == ("__debug__" : Str))) = false
          rw [h']
          simp
  | .isa _ _, c, p, h => by
    cases p <;> first | rfl | (cases h; done) | skip
    rename_i f as ks pos
    cases as with
    | cons a as => cases h
    | nil => cases f <;> rfl
  | .bi _ _, c, p, h => by
    cases p <;> first | rfl | (cases h; done) | skip
    rename_i f as ks pos
    cases as with
    | cons a as => cases h
    | nil => cases f <;> rfl
  | .meth _ _ _, c, p, h => by
    cases p <;> first | rfl | (cases h; done) | skip
    rename_i f as ks pos
    cases as with
    | cons a as => cases h
    | nil =>
      cases f <;> first | rfl | skip
      cases ks with
      | nil => cases h
      | cons k ks => rfl
  | .fld _ _ _, c, p, h => by cases p <;> first | rfl | (cases h; done)
  | .xfl _ _, c, p, h => by cases p <;> first | rfl | (cases h; done)
  | .isx _ _, c, p, h => by
    cases p <;> first | rfl | (cases h; done) | skip
    rename_i f as ks pos
    cases as with
    | cons a as => cases h
    | nil => cases f <;> rfl
  | .sos _, c, p, h => by
    cases p <;> first | rfl | (cases h; done) | skip
    rename_i f as ks pos
    cases as with
    | cons a as => cases h
    | nil => cases f <;> rfl
  | .inp _ _ _, c, p, h => by cases p <;> first | rfl | (cases h; done)
  | .lzip _ _, c, p, h => by
    cases p <;> first | rfl | (cases h; done) | skip
    rename_i f as ks pos
    cases as with
    | cons a as => cases h
    | nil => cases f <;> rfl
  | .maxd _ _, c, p, h => by
    cases p <;> first | rfl | (cases h; done) | skip
    rename_i f as ks pos
    cases as with
    | cons a as => cases h
    | nil => cases f <;> rfl
  | .isi _ _, c, p, h => by
    cases p <;> first | rfl | (cases h; done) | skip
    rename_i f as ks pos
    cases as with
    | cons a as => cases h
    | nil => cases f <;> rfl
  | .cmpo _ _ _ _ _, c, p, h => by cases p <;> first | rfl | (cases h; done)
  | .dcomp _ _ _ _ _, c, p, h => by cases p <;> first | rfl | (cases h; done)
  | .comp2 _ _ _ _ _ _ _ _, c, p, h => by cases p <;> first | rfl | (cases h; done)
  | .own _ _ _ _ _, c, p, h => by
    cases p <;> first | rfl | (cases h; done) | skip
    rename_i f as ks pos
    cases as with
    | cons a as => cases h
    | nil =>
      cases f <;> first | rfl | skip
      rename_i o g ap
      cases ks with
      | nil => cases h
      | cons k ks => cases o <;> rfl
theorem chk_plain {fr : List Str} {fl : Fl} {N : List Str} {e : E} {c : Sc} {p : Expr} (h : chkE fr fl N e c p = true) : plainP p = true := by
  cases q : plainP p with
  | true => rfl
  | false => rw [chk_np e c p q] at h; cases h
section
variable {p : Expr} {env : Env}
theorem star_of {ps : List Expr} (h : plainP p = true) : starEach (p :: ps) env = (false, eval p env) :: starEach ps env := by
  cases p <;> first | rfl | cases h
theorem ix_of (h : plainP p = true) : PlainIx p := by
  intro o i
  cases p <;> first | rfl | cases h
theorem marks_of {op : CmpOp} (h : plainP p = true) : behindInMarks op p = false := by
  cases p <;> first | rfl | cases h
theorem fold_of (h : plainP p = true) : ∀ x, foldedSetIterable p env x = pure x := by
  intro x
  cases p <;> first | rfl | cases h
theorem base_of {n : Str} (h : plainP p = true) : attributeBase p n env (eval p env) = eval p env := by
  cases p <;> first | rfl | (cases h; done) | skip
  rename_i f as ks pos
  cases as with
  | nil =>
    cases f <;> first | (cases h; done) | skip
    · cases ks with
      | nil => rfl
      | cons k ks => cases h
    rename_i g gp
    cases ks with
    | cons k ks => cases h
    | nil =>
      have h' : (g != ("super" : Str)) = true := h
      unfold attributeBase
      simp [h']
  | cons a as => cases f <;> rfl
theorem swap_of {t : Option Expr} {l : Nat} (h : isComp p = false) : swapsWith p t l env = pure false := by
  cases p <;> first | rfl | cases h
theorem truth_of (h : plainP p = true) (n1 : ∀ a b, p ≠ .UnaryOp .Not a b) (n2 : ∀ a b c, p ≠ .BoolOp a b c) (n3 : ∀ a b c d, p ≠ .IfExp a b c d) (n4 : ∀ a b c d, p ≠ .Compare a b c d) (whole : Sem Value) :
    isTrue p env whole = (do let v ← whole; standAt p.pos; holding [v] (truthy v)) := by
  cases p <;> first
    | rfl
    | exact absurd rfl (n2 _ _ _)
    | exact absurd rfl (n3 _ _ _ _)
    | exact absurd rfl (n4 _ _ _ _)
    | (rename_i o a b; cases o <;> first | rfl | exact absurd rfl (n1 _ _))
end
theorem plain_all {fr : List Str} {fl : Fl} {N : List Str} {c : Sc} {env : Env} {pos : Pos} : ∀ {es : Es} {ps : List Expr}, chkEs fr fl N es c ps = true → (backTo pos (starEach ps env)).any (·.1) = false
  | es, [], _ => rfl
  | es, p :: ps, h => by
    cases es with
    | nil => unfold chkEs at h; cases h
    | cons e es =>
      unfold chkEs at h
      rw [Bool.and_eq_true] at h
      rw [star_of (chk_plain h.1)]
      show (false || (backTo pos (starEach ps env)).any (·.1)) = false
      rw [plain_all h.2]
      rfl
theorem plain_each {fr : List Str} {fl : Fl} {N : List Str} {c : Sc} {env : Env} {pos : Pos} : ∀ {es : Es} {ps : List Expr}, chkEs fr fl N es c ps = true → ((backTo pos (starEach ps env)).all (fun x => !x.1)) = true
  | es, [], _ => rfl
  | es, p :: ps, h => by
    cases es with
    | nil => unfold chkEs at h; cases h
    | cons e es =>
      unfold chkEs at h
      rw [Bool.and_eq_true] at h
      rw [star_of (chk_plain h.1)]
      show (!false && (backTo pos (starEach ps env)).all (fun x => !x.1)) = true
      rw [plain_each h.2]
      rfl
theorem ba2 {a b : Bool} (h : (a && b) = true) : a = true ∧ b = true := by rwa [Bool.and_eq_true] at h

/-! ## a def's promise where nothing is shown just now (guards none) -/
structure FG (P : Program) (w : World) (K : PySem.W.Frag) (mg : Str → Option Value) (base : Heap) (k : Nat) (f : Addr) (fd : FuncData) (ps : List Str) (sp : Sp) : Prop where
  len : ∀ vs H Q E, sp vs H Q E → vs.length = ps.length
  run : ∀ (A : Around) (outer : List Env) (s : Shared) (H : Hp) (args : Args) (us : List Value) (vs : List V) (Q : VK) (E : XK), Room k A → A.guards = some [] → Env0 P w K mg base A outer s H →
    BindsTo s fd args (ps.zip us) → Vals vs us → sp vs H Q E → codeAny (model P w) A (.call (.ref f) args) (CR (L2.CX P w) outer P w H s Q E) s
/-- what a call of a told def asks -/
def lsp (K : PySem.W.Frag) (g : List W → Sto → QW → QW → Prop) : Sp := fun vs H Qh E => ∃ ws S Q X, RWs K H S ws vs ∧ LinkS K H S ∧ g ws S Q X ∧ FinS K H S Q Qh ∧ XO K E H S X
/-- a new instance by its __init__ -/
def mkW (f : Str) (mu : Bool) (g0 : List W → Sto → QW → QW → Prop) (ws : List W) (S : Sto) (Q X : QW) : Prop := ∀ p, S p = none → g0 (.ref p :: ws) (S.set p (.ins f [] [])) (fun r S2 => r = .non ∧ ∃ fs vs, S2 p = some (.ins f fs vs) ∧
  if mu then Q (.ref p) S2 else Q (.ins f fs vs) (S2.del p)) X
structure At (P : Program) (w : World) (K : PySem.W.Frag) (mg : Str → Option Value) (base : Heap) (k : Nat) (f : Str) (g : List W → Sto → QW → QW → Prop) : Prop where
  ex : (∃ (a : Addr) (fd : FuncData) (ps : List Str), mg f = some (.ref a) ∧ PySem.W.keepIn K (.ref a) = true ∧ Binds K fd ps [] ∧ FG P w K mg base k a fd ps (lsp K g)) ∨
    (∃ (a : Addr) (fd : FuncData) (ps : List Str) (j : Nat) (mu : Bool) (g0 : List W → Sto → QW → QW → Prop), mg f = some (.ref (He.ga K f)) ∧ Mk K (He.ga K f) a ∧ Binds K fd ps [] ∧ k = j + 1 ∧ FG P w K mg base j a fd ps (lsp K g0) ∧ ∀ ws S Q X, g ws S Q X → mkW f mu g0 ws S Q X) ∨
    ∃ a : Addr, mg f = some (.ref a) ∧ PySem.W.keepIn K (.ref a) = true ∧ ∀ ws S Q X, ¬ g ws S Q X
/-- a method -/
structure AtM (P : Program) (w : World) (K : PySem.W.Frag) (mg : Str → Option Value) (base : Heap) (k : Nat) (c m : Str) (g : List W → Sto → QW → QW → Prop) : Prop where
  ex : ∃ (a : Addr) (fd : FuncData) (ps : List Str) (j : Nat), Cls K (He.ga K c) ∧ Meth K (He.ga K c) m a ∧ Binds K fd ps [] ∧ k = j + 1 ∧ FG P w K mg base j a fd ps (lsp K g)
theorem FG.mono {P : Program} {w : World} {K : PySem.W.Frag} {mg : Str → Option Value} {base : Heap} {j k : Nat} {f : Addr} {fd : FuncData} {ps : List Str} {sp : Sp} (F : FG P w K mg base j f fd ps sp) (h : j ≤ k) : FG P w K mg base k f fd ps sp :=
  ⟨F.len, fun A outer s H args us vs Q E room => F.run A outer s H args us vs Q E (room.mono h)⟩
/-- a class that is asked of and compared by its own == -/
structure EqC (K : PySem.W.Frag) (mg : Str → Option Value) (c : Str) : Prop where
  at_ : mg c = some (.ref (He.ga K c))
  cl : Cls K (He.ga K c)
  ask : PySem.W.findIn K (.ref (He.ga K c)) "__class__" = some (some (.builtin "object.__class__"))
  get : PySem.W.specialIn K (.builtin "object.__class__") "__get__" = some (some (.builtin "getset_descriptor.__get__"))
  tak : PySem.W.takesIn K (.builtin "object.__class__") = some true
  mro : PySem.W.mroIn K (He.ga K c) (.type "object") = some true
  ne : PySem.W.findIn K (.ref (He.ga K c)) "__ne__" = some (some (.builtin "object.__ne__"))
  kit : PySem.W.kitOne K (.ref (He.ga K c)) (.ref (He.ga K c)) = some true
def eqB (K : PySem.W.Frag) (c : Str) : Bool := let C := He.ga K c
  (decide (PySem.W.nsIn K mainGlobals c = some (some (.ref C))) && (He.Fa.cls c).ok K && decide (PySem.W.findIn K (.ref C) "__class__" = some (some (.builtin "object.__class__"))) && decide (PySem.W.specialIn K (.builtin "object.__class__") "__get__" = some (some (.builtin "getset_descriptor.__get__"))) && decide (PySem.W.takesIn K (.builtin "object.__class__") = some true)) &&
    (decide (PySem.W.mroIn K C (.type "object") = some true) && decide (PySem.W.findIn K (.ref C) "__ne__" = some (some (.builtin "object.__ne__"))) && decide (PySem.W.kitOne K (.ref C) (.ref C) = some true))
theorem eqB_ok {K : PySem.W.Frag} {h : Heap} {mg : Str → Option Value} {c : Str} (X : K.In h) (G : h.Ns mainGlobals mg) (q : eqB K c = true) : EqC K mg c := by
  obtain ⟨q1, q2⟩ := ba2 (show (_ && _) = true from q)
  rw [Bool.and_eq_true, Bool.and_eq_true, Bool.and_eq_true, Bool.and_eq_true] at q1
  obtain ⟨⟨⟨⟨a1, a2⟩, a3⟩, a4⟩, a5⟩ := q1
  rw [Bool.and_eq_true, Bool.and_eq_true] at q2
  obtain ⟨⟨b1, b2⟩, b3⟩ := q2
  exact ⟨PySem.W.mg_of X G (of_decide_eq_true a1), He.cls_ok a2, of_decide_eq_true a3, of_decide_eq_true a4, of_decide_eq_true a5, of_decide_eq_true b1, of_decide_eq_true b2, of_decide_eq_true b3⟩
/-- what an own exception's __init__ does -/
def initSp (K : PySem.W.Frag) (c f : Str) : Sp := fun vs H Q _ => ∃ a y, vs = [.ref a, y] ∧ H a = some (exo a (He.ga K c) none) ∧ ∀ dx, H dx = none → dx ≠ a → Q .non (upd (upd H dx (exd dx [(f, y)])) a (exo a (He.ga K c) (some dx)))
/-- an own exception that is raised -/
structure AtX (P : Program) (w : World) (K : PySem.W.Frag) (mg : Str → Option Value) (base : Heap) (k : Nat) (c f : Str) : Prop where
  ex : ∃ (fI : Addr) (fd : FuncData) (ps : List Str) (j : Nat), mg c = some (.ref (He.ga K c)) ∧ OexC K (He.ga K c) ∧ ExcX K c f ∧ PySem.W.findIn K (.ref (He.ga K c)) "__init__" = some (some (.ref fI)) ∧ PySem.W.typeIn K (.ref fI) = some (.type "function") ∧
    Binds K fd ps [] ∧ k = j + 1 ∧ FG P w K mg base j fI fd ps (initSp K c f)
/-- a class that is asked of -/
structure AtN (K : PySem.W.Frag) (mg : Str → Option Value) (x : Str) : Prop where
  at_ : mg x = some (.ref (He.ga K x))
  no : x = "NewError" → PySem.W.kitOne K (.type "NoneType") (.ref (He.ga K x)) = some false
/-- the promise of a function within: its parameters, then what it captured -/
structure CG (P : Program) (w : World) (K : PySem.W.Frag) (mg : Str → Option Value) (base : Heap) (k : Nat) (f : Str) (d : CloD) (sp : Sp) : Prop where
  len : ∀ vs H Q E, sp vs H Q E → vs.length = d.ps.length + d.fr.length
  run : ∀ (A : Around) (outer : List Env) (s : Shared) (H : Hp) (a c : Addr) (cl : List (Str × Addr)) (us : List Value) (vs caps : List V) (Q : VK) (E : XK), Room k A → A.guards = some [] → Env0 P w K mg base A outer s H →
    (∃ (od : Option Addr) (sl : Array (Option Value)) (doc pm ctv : Value), s.heap.get? a = some (⟨.type "function", od, .func (fdOf d cl (.ref c) pm doc ctv), sl⟩ : Obj)) → s.heap.CodeRec (.ref c) d.qual → NdefX.CellsAt cl d.fr (caps.map some) s.heap H →
    Vals vs us → vs.length = d.ps.length → sp (vs ++ caps) H Q E → codeAny (model P w) A (.call (.ref a) ⟨us, []⟩) (CR (L2.CX P w) outer P w H s Q E) s
theorem CG.mono {P : Program} {w : World} {K : PySem.W.Frag} {mg : Str → Option Value} {base : Heap} {j k : Nat} {f : Str} {d : CloD} {sp : Sp} (F : CG P w K mg base j f d sp) (h : j ≤ k) : CG P w K mg base k f d sp :=
  ⟨F.len, fun A outer s H a c cl us vs caps Q E room => F.run A outer s H a c cl us vs caps Q E (room.mono h)⟩
structure Pr (P : Program) (w : World) (K : PySem.W.Frag) (mg : Str → Option Value) (base : Heap) (C : Cn) (fr : List Str) (fl : Fl) (k : Nat) : Prop where
  free : ∀ x ∈ fr, mg x = none
  glob : ∀ x w, C.G x = some w → ∃ u v, mg x = some u ∧ RelV v u ∧ ∀ H S, RW K H S w v
  call : ∀ f ∈ fl.fs, At P w K mg base k f (C.Γ f)
  fv : ∀ f, C.G f = some (.fnv f) → f ∈ fl.fs
  meth : ∀ e ∈ fl.met, AtM P w K mg base k e.1 e.2.1 (C.Γ e.2.2)
  atr : ∀ e ∈ fl.atr, Cls K (He.ga K e.1) ∧ NoAttr K (He.ga K e.1) e.2
  exs : ∀ e ∈ fl.exs, AtX P w K mg base k e.1 e.2
  exn : ∀ x ∈ fl.exn, AtN K mg x
  eqs : ∀ c ∈ fl.eqs, EqC K mg c
  sysm : ∃ o, base.get? sysModules = some o ∧ o.cls = .type "dict"
  callF : ∀ f ∈ fl.cfs, ∃ (a : Addr) (fd : FuncData) (ps : List Str), mg f = some (.ref a) ∧ PySem.W.keepIn K (.ref a) = true ∧ Binds K fd ps [] ∧ FG P w K mg base k a fd ps (lsp K (C.Γ f))
  cg : ∀ f d, findC f = some d → CG P w K mg base k f d (lsp K (C.Γ f))
structure Ok (X : Cx) (C : Cn) (Ê : L2.St → XK) (c : Sc) (fr : List Str) (fl : Fl) : Prop where
  sc : X.env.scope = c.sc
  fb : ∀ x, c.fb x = true → X.fn x = true
  nd : X.N.Nodup
  calm : X.calm = true
  guards : X.A.guards = some []
  pass : ∀ τ, PassesAt (L2.CX X.prog X.w) X τ (Ê τ)
  pr : ∃ k, Room k X.A ∧ Pr X.prog X.w X.K X.mg X.base C fr fl k
  code : ∀ m, c.mf = some m → X.env.code = .ref (He.cT X.K m.1).1 ∧ LamX.TabB X.base X.mg (He.cT X.K m.1).1 (He.cT X.K m.1).2 ∧ X.env.qual = m.2
  tabs : ((tabsK X.K).map (·.1)).Nodup
  cb : ∀ b o v, X.base.get? b = some o → o.data ≠ .cell v
section
variable {X : Cx} {C : Cn} {Ê : L2.St → XK} {c : Sc} {fr : List Str} {fl : Fl}
theorem Ok.hu (o : Ok X C Ê c fr fl) : X.A.units + 64 < cLine := let ⟨_, r, _⟩ := o.pr; r.units
theorem Ok.free (o : Ok X C Ê c fr fl) {x : Str} (h : fr.contains x = true) : X.mg x = none := let ⟨_, _, p⟩ := o.pr; p.free x (by simpa using h)
theorem Ok.vis (o : Ok X C Ê c fr fl) {x : Str} (h : visB c.sc x = true) : Vis X.env.scope x := by
  rw [o.sc]
  unfold visB at h
  unfold Vis
  split at h
  · exact .inl (by assumption)
  · exact .inr (.inl (by assumption))
  · exact .inr (.inr (by assumption))
  · cases h
theorem Ok.gl (o : Ok X C Ê c fr fl) {x : Str} (h : glB c.sc x = true) : Gl X x := by
  unfold Gl
  show X.env.scope.names.lookup x = _
  rw [o.sc]
  unfold glB at h
  split at h
  · assumption
  · cases h
theorem Ok.loc (o : Ok X C Ê c fr fl) {x : Str} (h : locB c x = true) : L2.Loc X.env.scope x ∧ (X.fn x = true ∨ X.env.scope.names.lookup x = some .local) := by
  rw [o.sc]
  unfold locB at h
  unfold L2.Loc
  split at h
  · rename_i e; exact ⟨.inl e, .inr e⟩
  · rename_i e; exact ⟨.inr e, .inl (o.fb x h)⟩
  · cases h
/-- within a comprehension -/
theorem Ok.blk (o : Ok X C Ê c fr fl) (s : Shared) (H : Hp) (scope : Scope) (C' : Addr) (cl : List (Str × Addr)) (fp : List Addr) :
    Ok (X.blk s H scope (compEnvC scope cl C' X.env) fp) C E00 ⟨relS scope c.sc, fun x => scope.names.lookup x == some .cell, c.mf⟩ fr fl := by
  refine ⟨?_, fun x h => h, o.nd, o.calm, o.guards, fun τ pins H s e s' I h => passL pins τ H s e s' I h, o.pr, o.code, o.tabs, o.cb⟩
  show relabel scope X.env = relS scope c.sc
  rw [← o.sc]
  rfl
/-- the callee runs -/
theorem run_fg {pins : List (Addr × Obj)} {τ : L2.St} {H : Hp} {s : Shared} {Q : VK} {us : List Value} {vs : List V} {k : Nat} {f : Addr} {fd : FuncData} {ps : List Str} {sp : Sp} (F : FG X.prog X.w X.K X.mg X.base k f fd ps sp) (hr : Room k X.A) (hgd : X.A.guards = some [])
    (hb : Binds X.K fd ps []) (hx : ∀ τ, PassesAt (L2.CX X.prog X.w) X τ (Ê τ)) (I : Inv X pins τ H s) (r : Vals vs us) (q : sp vs H Q (Ê τ)) : wpAny (model X.prog X.w) X.A (call (.ref f) us) (EP X pins τ Q) X.xe s := by
  have len : us.length = ps.length := by rw [← r.length]; exact F.len _ _ _ _ q
  have bt : BindsTo s fd ⟨us, []⟩ (ps.zip us) := by
    have z := hb s us I.kIn (by rw [List.append_nil]; exact len)
    rwa [List.append_nil] at z
  refine wpAny_call (codeAny_mono (F.run X.A X.stack s H ⟨us, []⟩ us vs Q (Ê τ) hr hgd I.env0 bt r q) fun res s' hq => ?_)
  match res, hq with
  | .error z, hq => exact hx τ pins H s z s' I hq
  | .ok (.ret u), hq => exact I.after hq
  | .ok .next, hq => exact hq.elim
  | .ok .brk, hq => exact hq.elim
  | .ok .cont, hq => exact hq.elim
/-- a class is called: its __init__ runs -/
theorem run_mkfg {pins : List (Addr × Obj)} {τ : L2.St} {H : Hp} {s : Shared} {Q : VK} {us : List Value} {vs : List V} {k : Nat} {C f : Addr} {fd : FuncData} {ps : List Str} {sp : Sp} (M : Mk X.K C f) (F : FG X.prog X.w X.K X.mg X.base k f fd ps sp) (hr : Room (k + 1) X.A) (hgd : X.A.guards = some [])
    (hb : Binds X.K fd ps []) (hx : ∀ τ, PassesAt (L2.CX X.prog X.w) X τ (Ê τ)) (I : Inv X pins τ H s) (r : Vals vs us)
    (h : ∀ x dx, H x = none → H dx = none → dx ≠ x → sp (.ref x :: vs) (upd (upd H dx (.own x)) x (.ins C dx [])) (fun v H2 => v = .non ∧ Q (.ref x) H2) (Ê τ)) :
    wpAny (model X.prog X.w) X.A (call (.ref C) us) (EP X pins τ Q) X.xe s := by
  have hq := h (s.heap.objs.size + 1) s.heap.objs.size (I.hok.fresh (Nat.le_succ _)) (I.hok.fresh (Nat.le_refl _)) (Nat.ne_of_lt (Nat.lt_succ_self _))
  have I2 := Inv.made (C := C) I
  have r2 : Vals (V.ref (s.heap.objs.size + 1) :: vs) (Value.ref (s.heap.objs.size + 1) :: us) := .cons rfl r
  have hl : (Value.ref (s.heap.objs.size + 1) :: us).length = ps.length := by
    have e := r2.length
    rw [F.len _ _ _ _ hq] at e
    exact e.symm
  have bt := fun s' (kin : X.K.In s'.heap) => hb s' (Value.ref (s.heap.objs.size + 1) :: us) kin (by rw [List.append_nil]; exact hl)
  simp only [List.append_nil] at bt
  refine wpAny_call (make_map (f := f) I.kIn M.makes M.init (beq_iff_eq.mp M.fn) (codeAny_mono (F.run _ X.stack _ _ ⟨Value.ref (s.heap.objs.size + 1) :: us, []⟩ (Value.ref (s.heap.objs.size + 1) :: us) _ _ (Ê τ) (hr.make C us []) hgd
    (I2.env0.make C us []) (bt _ I2.kIn) r2 hq) fun r s' hq' => ?_))
  cases r with
  | error e => exact hx τ pins _ _ e s' I2 hq'
  | ok fl =>
    cases fl with
    | ret u =>
      obtain ⟨v, H', I3, rv, ev, q3⟩ := I2.after hq'
      subst ev
      exact ⟨rv, ⟨V.ref (s.heap.objs.size + 1), H', I3, rfl, q3⟩⟩
    | next => exact False.elim hq'
    | brk => exact False.elim hq'
    | cont => exact False.elim hq'
/-- what a made instance asks, from what its making is said to do -/
theorem lsp_mk {Ê : XK} {H : Hp} {Q : VK} {vs : List V} {f : Str} {mu : Bool} {g0 : List W → Sto → QW → QW → Prop} {K : PySem.W.Frag} (h : lsp K (fun ws S Q X => mkW f mu g0 ws S Q X) vs H Q Ê) (x dx : Addr) (h1 : H x = none) (h2 : H dx = none) (h3 : dx ≠ x) :
    lsp K g0 (.ref x :: vs) (upd (upd H dx (.own x)) x (.ins (He.ga K f) dx [])) (fun v H2 => v = .non ∧ Q (.ref x) H2) Ê := by
  obtain ⟨ws, S, Q', Y, r, l, q, fin, xo⟩ := h
  have l1 : LinkS K (upd H dx (.own x)) S := l.new h2
  have e1 : Ext H S (upd H dx (.own x)) S := ext_new h2
  have hx1 : upd H dx (.own x) x = none := by rw [upd_ne (Ne.symm h3)]; exact h1
  have e2 : Ext (upd H dx (.own x)) S (upd (upd H dx (.own x)) x (.ins (He.ga K f) dx [])) (S.set x (.ins f [] [])) := ext_newS hx1
  have l2 : LinkS K (upd (upd H dx (.own x)) x (.ins (He.ga K f) dx [])) (S.set x (.ins f [] [])) := l1.put e2 ⟨dx, [], rfl, rfl, .nil⟩
  have e3 := e1.trans e2
  refine ⟨.ref x :: ws, _, _, Y, .cons (by unfold RW; rfl) (RWs.ext e3 _ _ r), l2, q x (l.fresh h1), fun r S' v H' e l' rw' ⟨er, fs, vs', hS, hq⟩ => ?_, xo.ext e3⟩
  subst er
  refine ⟨by unfold RW at rw'; exact rw', ?_⟩
  have e4 := e3.trans e
  cases mu with
  | true => exact fin _ _ _ _ e4 l' (by unfold RW; rfl) hq
  | false => exact fin _ _ _ _ (e4.trans (ext_del (nclo_of hS))) (l'.del x (nclo_of hS)) (RW.frozenI l' hS) hq
/-- f(..) of a def of the text -/
theorem pe_fg {k : Nat} {f : Addr} {fd : FuncData} {ps : List Str} {sp : Sp} {x : Str} {p pos : Pos} {e : Expr} {es : List Expr} {t : TA} (F : FG X.prog X.w X.K X.mg X.base k f fd ps sp) (hr : Room k X.A) (hgd : X.A.guards = some []) (hg : Gl X x) (hm : X.mg x = some (.ref f))
    (hk : PySem.W.keepIn X.K (.ref f) = true) (hb : Binds X.K fd ps []) (hx : ∀ τ, PassesAt (L2.CX X.prog X.w) X τ (Ê τ)) (ha : PA X (e :: es) t) (hdb : (x == ("__debug__" : Str)) = false)
    (he : starEach (e :: es) X.env = (false, eval e X.env) :: starEach es X.env) (hpl : (backTo pos (starEach es X.env)).any (·.1) = false) :
    PE X (.Call (.Name x p) (e :: es) [] pos) (fun τ H Q => t τ H fun vs H1 => sp vs H1 Q (Ê τ)) := ⟨fun pins s τ H Q I h =>
  wpAny_Call_Name_kw (ld_glob I hg hm (PySem.W.callWith_K (h₀ := X.base) I.ok.mod.kin hk (thn (ha.run pos pins s τ H _ I h) fun us s1 ⟨vs, H1, I1, r, q⟩ => ⟨I1.kIn, by
    have len : us.length = ps.length := by rw [← r.length]; exact F.len _ _ _ _ q
    have bt : BindsTo s1 fd ⟨us, []⟩ (ps.zip us) := by
      have z := hb s1 us I1.kIn (by rw [List.append_nil]; exact len)
      rwa [List.append_nil] at z
    refine wpAny_call (codeAny_mono (F.run X.A X.stack s1 H1 ⟨us, []⟩ us vs Q (Ê τ) hr hgd I1.env0 bt r q) fun res s' hq => ?_)
    match res, hq with
    | .error z, hq => exact hx τ pins H1 s1 z s' I1 hq
    | .ok (.ret u), hq => exact I1.after hq
    | .ok .next, hq => exact hq.elim
    | .ok .brk, hq => exact hq.elim
    | .ok .cont, hq => exact hq.elim⟩) he hpl) hdb)⟩
end
end PD

set_option Elab.async false
set_option linter.all false
set_option maxRecDepth 100000
set_option maxHeartbeats 4000000
namespace PD
open PySem PySem.Spec PyProof.Rows L2

section
variable {X : Cx} {Ê : L2.St → XK} {wa wb wc : PD.WE} {ta tb tc : PD.WT} {was : WA} {pa pb pc : Expr} {ps : List Expr} {pos : Pos}
theorem we_bin {op : Operator} (ha : PE X pa (LE X.K Ê wa)) (hb : PE X pb (LE X.K Ê wb)) :
    PE X (.BinOp pa op pb pos) (LE X.K Ê fun σ S Q Y => wa σ S (fun x S1 => wb σ S1 (fun y S2 => ∃ r, binW op (rd S2 x) (rd S2 y) = some r ∧ Q r S2) Y) Y) :=
  (pe_op (op_bin op) ha hb).imp fun τ H Qh ⟨σ, S, Q, Y, hs, hl, hw, k, hx⟩ => LE.mk hs hl hx hw fun x S1 v H1 e1 l1 s1 x1 r1 q1 => LE.mk s1 l1 x1 q1 fun y S2 u H2 e2 l2 s2 x2 r2 ⟨r, e, q⟩ =>
    ⟨S2, x, y, r, l2, r1.ext e2, r2, e, fun v' H' e3 l3 r3 => k _ _ _ _ ((e1.trans e2).trans e3) l3 r3 q⟩
theorem we_cat (ha : PE X pa (LE X.K Ê wa)) (hb : PE X pb (LE X.K Ê wb)) :
    PE X (.BinOp pa .Add pb pos) (LE X.K Ê fun σ S Q Y => wa σ S (fun x S1 => wb σ S1 (fun y S2 => ∃ xs ys, rd S2 x = .lst xs ∧ rd S2 y = .lst ys ∧ xs.length + ys.length ≤ sizeLine ∧ ∀ p, S2 p = none → Q (.ref p) (S2.set p (.lst (xs ++ ys)))) Y) Y) :=
  (pe_op op_cat ha hb).imp fun τ H Qh ⟨σ, S, Q, Y, hs, hl, hw, k, hx⟩ => LE.mk hs hl hx hw fun x S1 v H1 e1 l1 s1 x1 r1 q1 => LE.mk s1 l1 x1 q1 fun y S2 u H2 e2 l2 s2 x2 r2 ⟨xs, ys, ex, ey, hz, q⟩ =>
    ⟨S2, x, y, xs, ys, l2, r1.ext e2, r2, ex, ey, hz, fun p vs hp rv => k _ _ _ _ ((e1.trans e2).trans (ext_newS hp)) (l2.put (ext_newS hp) (.l rv)) .r (q p (l2.fresh hp))⟩
theorem we_neg (ha : PE X pa (LE X.K Ê wa)) : PE X (.UnaryOp .USub pa pos) (LE X.K Ê fun σ S Q Y => wa σ S (fun x S1 => ∃ r, unW .USub x = some r ∧ Q r S1) Y) :=
  (pe_un un_neg' ha).imp fun τ H Qh ⟨σ, S, Q, Y, hs, hl, hw, k, hx⟩ => LE.mk hs hl hx hw fun x S1 v H1 e1 l1 s1 x1 r1 ⟨r, e, q⟩ =>
    ⟨S1, x, r, l1, r1, e, fun v' H' e3 l3 r3 => k _ _ _ _ (e1.trans e3) l3 r3 q⟩
theorem we_not (ha : PE X pa (LE X.K Ê wa)) : PE X (.UnaryOp .Not pa pos) (LE X.K Ê fun σ S Q Y => wa σ S (fun x S1 => ∃ r, unW .Not x = some r ∧ Q r S1) Y) :=
  (pe_not ha).imp fun τ H Qh ⟨σ, S, Q, Y, hs, hl, hw, k, hx⟩ => LE.mk hs hl hx hw fun x S1 v H1 e1 l1 s1 x1 r1 ⟨r, e, q⟩ => by
    cases x <;> first | (cases e; done) | skip
    cases e
    exact ⟨_, r1.bl_, k _ _ _ _ e1 l1 .b q⟩
theorem we_and {rest : List Expr} (ha : PE X pa (LE X.K Ê wa)) (hb : PE X (.BoolOp .And (pb :: rest) pos) (LE X.K Ê wb)) :
    PE X (.BoolOp .And (pa :: pb :: rest) pos) (LE X.K Ê fun σ S Q Y => wa σ S (fun x S1 => ∃ c, x = .bl c ∧ if c then wb σ S1 Q Y else Q (.bl false) S1) Y) :=
  (pe_and ha hb).imp fun τ H Qh ⟨σ, S, Q, Y, hs, hl, hw, k, hx⟩ => LE.mk hs hl hx hw fun x S1 v H1 e1 l1 s1 x1 r1 ⟨c, e, q⟩ => by
    subst e
    refine ⟨c, r1.bl_, ?_⟩
    cases c with
    | true => exact LE.mk s1 l1 x1 q fun y S2 u H2 e2 l2 s2 x2 r2 q2 => k _ _ _ _ (e1.trans e2) l2 r2 q2
    | false => exact k _ _ _ _ e1 l1 .b q
theorem we_or {rest : List Expr} (ha : PE X pa (LE X.K Ê wa)) (hb : PE X (.BoolOp .Or (pb :: rest) pos) (LE X.K Ê wb)) :
    PE X (.BoolOp .Or (pa :: pb :: rest) pos) (LE X.K Ê fun σ S Q Y => wa σ S (fun x S1 => ∃ c, x = .bl c ∧ if c then Q (.bl true) S1 else wb σ S1 Q Y) Y) :=
  (pe_or ha hb).imp fun τ H Qh ⟨σ, S, Q, Y, hs, hl, hw, k, hx⟩ => LE.mk hs hl hx hw fun x S1 v H1 e1 l1 s1 x1 r1 ⟨c, e, q⟩ => by
    subst e
    refine ⟨c, r1.bl_, ?_⟩
    cases c with
    | false => exact LE.mk s1 l1 x1 q fun y S2 u H2 e2 l2 s2 x2 r2 q2 => k _ _ _ _ (e1.trans e2) l2 r2 q2
    | true => exact k _ _ _ _ e1 l1 .b q
theorem we_cmp {op : CmpOp} (hu : X.A.units + 64 < cLine) (hm : behindInMarks op pb = false) (ha : PE X pa (LE X.K Ê wa)) (hb : PE X pb (LE X.K Ê wb)) :
    PE X (.Compare pa [op] [pb] pos) (LE X.K Ê fun σ S Q Y => wa σ S (fun x S1 => wb σ S1 (fun y S2 => ∃ r, cmpW op (rd S2 x) (rd S2 y) = some r ∧ Q (.bl r) S2) Y) Y) :=
  (pe_cmpR (op_cmp hu op) ha hb hm).imp fun τ H Qh ⟨σ, S, Q, Y, hs, hl, hw, k, hx⟩ => LE.mk hs hl hx hw fun x S1 v H1 e1 l1 s1 x1 r1 q1 => LE.mk s1 l1 x1 q1 fun y S2 u H2 e2 l2 s2 x2 r2 ⟨r, e, q⟩ =>
    ⟨S2, x, y, r, l2, r1.ext e2, r2, e, k _ _ _ _ (e1.trans e2) l2 .b q⟩
theorem we_cmp3 {o1 o2 : CmpOp} (hu : X.A.units + 64 < cLine) (hm : lastMarks [o1, o2] [pb, pc] = false) (ha : PE X pa (LE X.K Ê wa)) (hb : PE X pb (LE X.K Ê wb)) (hc : PE X pc (LE X.K Ê wc)) :
    PE X (.Compare pa [o1, o2] [pb, pc] pos) (LE X.K Ê fun σ S Q Y => wa σ S (fun x S1 => wb σ S1 (fun y S2 => ∃ r, cmpW o1 (rd S2 x) (rd S2 y) = some r ∧
      if r then wc σ S2 (fun z S3 => ∃ q, cmpW o2 (rd S3 y) (rd S3 z) = some q ∧ Q (.bl q) S3) Y else Q (.bl false) S2) Y) Y) :=
  (pe_chain (op_cmp hu o1) (op_cmp hu o2) ha hb hc hm).imp fun τ H Qh ⟨σ, S, Q, Y, hs, hl, hw, k, hx⟩ => LE.mk hs hl hx hw fun x S1 v H1 e1 l1 s1 x1 r1 q1 => LE.mk s1 l1 x1 q1 fun y S2 u H2 e2 l2 s2 x2 r2 ⟨r, e, q⟩ => by
    refine ⟨S2, x, y, r, l2, r1.ext e2, r2, e, r, rfl, ?_⟩
    cases r with
    | false => exact k _ _ _ _ (e1.trans e2) l2 .b q
    | true => exact LE.mk s2 l2 x2 q fun z S3 w H3 e3 l3 s3 x3 r3 ⟨q', e', q''⟩ => ⟨S3, y, z, q', l3, r2.ext e3, r3, e', k _ _ _ _ ((e1.trans e2).trans e3) l3 .b q''⟩
theorem we_if (hc : PT X pc (LT X.K Ê tc)) (ha : PE X pa (LE X.K Ê wa)) (hb : PE X pb (LE X.K Ê wb)) :
    PE X (.IfExp pc pa pb pos) (LE X.K Ê fun σ S Q Y => tc σ S (fun r S1 => if r then wa σ S1 Q Y else wb σ S1 Q Y) Y) :=
  (pe_ifExp hc ha hb).imp fun τ H Qh ⟨σ, S, Q, Y, hs, hl, hw, k, hx⟩ => LT.mk hs hl hx hw fun r S1 H1 e1 l1 s1 x1 q => by
    cases r with
    | true => exact LE.mk s1 l1 x1 q fun y S2 u H2 e2 l2 s2 x2 r2 q2 => k _ _ _ _ (e1.trans e2) l2 r2 q2
    | false => exact LE.mk s1 l1 x1 q fun y S2 u H2 e2 l2 s2 x2 r2 q2 => k _ _ _ _ (e1.trans e2) l2 r2 q2
theorem we_ix (hu : X.A.units + 64 < cLine) (hp : PlainIx pb) (ha : PE X pa (LE X.K Ê wa)) (hb : PE X pb (LE X.K Ê wb)) :
    PE X (.Subscript pa pb pos) (LE X.K Ê fun σ S Q Y => wa σ S (fun x S1 => wb σ S1 (fun y S2 => ∃ r, ixW (rd S2 x) y = some r ∧ Q r S2) Y) Y) :=
  (pe_ix (ix_W hu) ha hb hp).imp fun τ H Qh ⟨σ, S, Q, Y, hs, hl, hw, k, hx⟩ => LE.mk hs hl hx hw fun x S1 v H1 e1 l1 s1 x1 r1 q1 => LE.mk s1 l1 x1 q1 fun y S2 u H2 e2 l2 s2 x2 r2 ⟨r, e, q⟩ =>
    ⟨S2, x, y, r, l2, r1.ext e2, r2, e, fun v' r3 => k _ _ _ _ (e1.trans e2) l2 r3 q⟩
theorem we_slc {lo hi : Option Expr} {wl wh : WO} {p2 : Pos} (ha : PE X pa (LE X.K Ê wa)) (hl : PO X lo (LO X.K Ê wl)) (hh : PO X hi (LO X.K Ê wh)) :
    PE X (.Subscript pa (.Slice lo hi none p2) pos) (LE X.K Ê fun σ S Q Y => wa σ S (fun x S1 => wl σ S1 (fun l S2 => wh σ S2 (fun h S3 => ∃ r, slcW (rd S3 x) l h = some r ∧ Q r S3) Y) Y) Y) :=
  (pe_slice sl_W ha hl hh).imp fun τ H Qh ⟨σ, S, Q, Y, hs, hl, hw, k, hx⟩ => LE.mk hs hl hx hw fun x S1 v H1 e1 l1 s1 x1 r1 q1 => LO.mk s1 l1 x1 q1 fun lo S2 H2 e2 l2 s2 x2 q2 =>
    LO.mk s2 l2 x2 q2 fun hi S3 H3 e3 l3 s3 x3 ⟨r, e, q⟩ => ⟨S3, x, r, l3, r1.ext (e2.trans e3), e, fun v' H' e4 l4 r4 => k _ _ _ _ (((e1.trans e2).trans e3).trans e4) l4 r4 q⟩
theorem wo_none : PO X none (LO X.K Ê fun σ S Q Y => Q none S) := po_none.imp fun τ H Qh ⟨σ, S, Q, Y, hs, hl, hw, k, hx⟩ => k _ _ _ .refl hl hw
theorem wo_some (ha : PE X pa (LE X.K Ê wa)) : PO X (some pa) (LO X.K Ê fun σ S Q Y => wa σ S (fun w S1 => ∃ i, w = .int i ∧ Q (some i) S1) Y) :=
  (po_some ha).imp fun τ H Qh ⟨σ, S, Q, Y, hs, hl, hw, k, hx⟩ => LE.mk hs hl hx hw fun x S1 v H1 e1 l1 s1 x1 r1 ⟨i, e, q⟩ => by
    subst e
    exact ⟨i, r1.int_, k _ _ _ e1 l1 q⟩
/-! ### lists of parts -/
theorem wa_nil : PA X [] (LA X.K Ê fun σ S Q Y => Q [] S) := pa_nil.imp fun τ H Qh ⟨σ, S, Q, Y, hs, hl, hw, k, hx⟩ => k _ _ _ _ .refl hl .nil hw
theorem wa_cons (hst : starEach (pa :: ps) X.env = (false, eval pa X.env) :: starEach ps X.env) (ha : PE X pa (LE X.K Ê wa)) (hb : PA X ps (LA X.K Ê was)) :
    PA X (pa :: ps) (LA X.K Ê fun σ S Q Y => wa σ S (fun w S1 => was σ S1 (fun ws S2 => Q (w :: ws) S2) Y) Y) :=
  (pa_cons ha hb hst).imp fun τ H Qh ⟨σ, S, Q, Y, hs, hl, hw, k, hx⟩ => LE.mk hs hl hx hw fun x S1 v H1 e1 l1 s1 x1 r1 q1 => LA.mk s1 l1 x1 q1 fun y S2 u H2 e2 l2 s2 x2 r2 q =>
    k _ _ _ _ (e1.trans e2) l2 (.cons (r1.ext e2) r2) q
theorem we_tup {j : Nat} (ha : PA X ps (LA X.K Ê was)) : PE X (.Tuple ps j pos) (LE X.K Ê fun σ S Q Y => was σ S (fun ws S1 => ws.length ≤ sizeLine ∧ Q (.tup ws) S1) Y) :=
  (pe_tup ha).imp fun τ H Qh ⟨σ, S, Q, Y, hs, hl, hw, k, hx⟩ => LA.mk hs hl hx hw fun x S1 v H1 e1 l1 s1 x1 r1 ⟨z, q⟩ =>
    ⟨by rw [← r1.len]; exact z, Fin.tup l1 r1 fun v' H' e3 l3 r3 => k _ _ _ _ (e1.trans e3) l3 r3 q⟩
theorem we_lst {m : Bool} (ha : PA X ps (LA X.K Ê was)) :
    PE X (.List ps pos) (LE X.K Ê fun σ S Q Y => was σ S (fun ws S1 => ws.length ≤ sizeLine ∧ if m then ∀ p, S1 p = none → Q (.ref p) (S1.set p (.lst ws)) else Q (.lst ws) S1) Y) :=
  (pe_lst ha).imp fun τ H Qh ⟨σ, S, Q, Y, hs, hl, hw, k, hx⟩ => LA.mk hs hl hx hw fun x S1 v H1 e1 l1 s1 x1 r1 ⟨z, q⟩ => by
    refine ⟨by rw [← r1.len]; exact z, ?_⟩
    cases m with
    | false => exact Fin.lst l1 r1 fun v' H' e3 l3 r3 => k _ _ _ _ (e1.trans e3) l3 r3 q
    | true => exact fun p hp => k _ _ _ _ (e1.trans (ext_newS hp)) (l1.put (ext_newS hp) (.l r1)) .r (q p (l1.fresh hp))
/-! ### calls -/
theorem we_bi {b : Bi} {id : String} {x : Str} {p : Pos} (hc : CallR X (.builtin id) (rBi X.K b)) (hg : Gl X x) (hm : X.mg x = none) (hv : bootBuiltins x = some (.builtin id)) (hn : x ≠ "__name__") (hd : (x == ("__debug__" : Str)) = false)
    (hst : starEach (pa :: ps) X.env = (false, eval pa X.env) :: starEach ps X.env) (hpl : (backTo pos (starEach ps X.env)).any (·.1) = false) (ha : PA X (pa :: ps) (LA X.K Ê was)) :
    PE X (.Call (.Name x p) (pa :: ps) [] pos) (LE X.K Ê fun σ S Q Y => was σ S (fun ws S1 => biW b ws S1 Q) Y) :=
  (pe_callB hc hg hm hv ha hn hd hst hpl).imp fun τ H Qh ⟨σ, S, Q, Y, hs, hl, hw, k, hx⟩ => LA.mk hs hl hx hw fun x S1 v H1 e1 l1 s1 x1 r1 q =>
    ⟨S1, x, Q, l1, r1, q, fun r S' v' H' e3 l3 r3 q3 => k _ _ _ _ (e1.trans e3) l3 r3 q3⟩
theorem we_biT {b : Bi} {id : String} {x : Str} {p : Pos} (hc : CallR X (.type id) (rBi X.K b)) (hg : Gl X x) (hm : X.mg x = none) (hv : bootBuiltins x = some (.type id)) (hn : x ≠ "__name__") (hd : (x == ("__debug__" : Str)) = false)
    (hst : starEach (pa :: ps) X.env = (false, eval pa X.env) :: starEach ps X.env) (hpl : (backTo pos (starEach ps X.env)).any (·.1) = false) (ha : PA X (pa :: ps) (LA X.K Ê was)) :
    PE X (.Call (.Name x p) (pa :: ps) [] pos) (LE X.K Ê fun σ S Q Y => was σ S (fun ws S1 => biW b ws S1 Q) Y) :=
  (pe_callTy hc hg hm hv ha hn hd hst hpl).imp fun τ H Qh ⟨σ, S, Q, Y, hs, hl, hw, k, hx⟩ => LA.mk hs hl hx hw fun x S1 v H1 e1 l1 s1 x1 r1 q =>
    ⟨S1, x, Q, l1, r1, q, fun r S' v' H' e3 l3 r3 q3 => k _ _ _ _ (e1.trans e3) l3 r3 q3⟩
end
end PD

set_option Elab.async false
set_option linter.all false
set_option maxRecDepth 100000
set_option maxHeartbeats 4000000
namespace PD
open PySem PySem.Spec PyProof.Rows L2

section
variable {X : Cx} {C : Cn} {Ê : L2.St → XK} {c : Sc} {fr : List Str} {fl : Fl} {wa wb wc : PD.WE} {ta tb tc : PD.WT} {was : WA} {pa pb pc : Expr} {ps : List Expr} {pos : Pos}
/-! ### names, constants, calls -/
theorem we_loc {i : Nat} {x : Str} (hN : X.N[i]? = some x) (hv : Vis X.env.scope x) (hd : (x == ("__debug__" : Str)) = false) (hcd : (x == ("__classdict__" : Str)) = false) :
    PE X (.Name x pos) (LE X.K Ê fun σ S Q _ => ∃ w, σ[i]? = some (some w) ∧ Q w S) :=
  (pe_var hN hv hd hcd).imp fun τ H Qh ⟨σ, S, Q, Y, hs, hl, ⟨w, e, q⟩, k, hx⟩ => let ⟨v, h1, h2⟩ := hs.2 i w e; ⟨v, h1, k _ _ _ _ .refl hl h2 q⟩
theorem we_lit {j : Nat} : ∀ (l : Lit) (k : Const), litB l k = true → PE X (.Constant k j pos) (LE X.K Ê fun σ S Q _ => Q l.w S)
  | .non, k, h => by
    cases k <;> first | (cases h; done) | skip
    exact pe_non.imp fun τ H Qh ⟨σ, S, Q, Y, hs, hl, q, k, hx⟩ => k _ _ _ _ .refl hl .n q
  | .bl b, k, h => by
    cases k <;> first | (cases h; done) | skip
    obtain rfl : b = _ := by simpa [litB] using h
    exact pe_bl.imp fun τ H Qh ⟨σ, S, Q, Y, hs, hl, q, k, hx⟩ => k _ _ _ _ .refl hl .b q
  | .int b, k, h => by
    cases k <;> first | (cases h; done) | skip
    obtain rfl : b = _ := by simpa [litB] using h
    exact pe_int.imp fun τ H Qh ⟨σ, S, Q, Y, hs, hl, q, k, hx⟩ => k _ _ _ _ .refl hl .i q
  | .str b, k, h => by
    cases k <;> first | (cases h; done) | skip
    obtain rfl : b = _ := by simpa [litB] using h
    exact pe_str.imp fun τ H Qh ⟨σ, S, Q, Y, hs, hl, q, k, hx⟩ => k _ _ _ _ .refl hl .s q
theorem pe_false {e : Expr} {t : TE} (h : ∀ σ H Q, ¬ t σ H Q) : PE X e t := ⟨fun _ _ _ _ _ _ q => (h _ _ _ q).elim⟩
theorem we_glob (o : Ok X C Ê c fr fl) {x : Str} (hg : Gl X x) (hd : (x == ("__debug__" : Str)) = false) : PE X (.Name x pos) (LE X.K Ê fun σ S Q _ => ∃ w, C.G x = some w ∧ Q w S) := by
  cases q : C.G x with
  | none => exact pe_false fun τ H Qh ⟨σ, S, Q, Y, hs, hl, ⟨w, e, _⟩, _⟩ => by cases e
  | some w =>
    obtain ⟨k, _, p⟩ := o.pr
    obtain ⟨u, v, h1, h2, h3⟩ := p.glob x w q
    exact (pe_glob hg h1 h2 hd).imp fun τ H Qh ⟨σ, S, Q, Y, hs, hl, ⟨w', e, q⟩, k, hx⟩ => by
      cases e
      exact k _ _ _ _ .refl hl (h3 _ _) q
/-- a call's promise, a def's or a class's -/
theorem run_at {k : Nat} {f : Str} {g : List W → Sto → QW → QW → Prop} (A : At X.prog X.w X.K X.mg X.base k f g) (hr : Room k X.A) (hgd : X.A.guards = some []) (hx : ∀ τ, PassesAt (L2.CX X.prog X.w) X τ (Ê τ)) :
    ∃ a, X.mg f = some (.ref a) ∧ PySem.W.keepIn X.K (.ref a) = true ∧ ∀ (pins : List (Addr × Obj)) (τ : L2.St) (H : Hp) (s : Shared) (us : List Value) (vs : List V) (Q : VK), Inv X pins τ H s → Vals vs us → lsp X.K g vs H Q (Ê τ) →
      wpAny (model X.prog X.w) X.A (call (.ref a) us) (EP X pins τ Q) X.xe s := by
  rcases A.ex with ⟨a, fd, ps, h1, h2, h3, h4⟩ | ⟨a, fd, ps, j, mu, g0, h1, M, h3, rfl, h4, hg⟩ | ⟨a, h1, h2, h3⟩
  rotate_right
  · exact ⟨a, h1, h2, fun pins τ H s us vs Q I r ⟨_, _, _, _, _, _, q, _⟩ => (h3 _ _ _ _ q).elim⟩
  · exact ⟨a, h1, h2, fun pins τ H s us vs Q I r q => run_fg h4 hr hgd h3 hx I r q⟩
  · refine ⟨_, h1, M.kp, fun pins τ H s us vs Q I r q => run_mkfg M h4 hr hgd h3 hx I r fun x dx z1 z2 z3 => ?_⟩
    obtain ⟨ws, S, Q', Y, r', l, q, fin, xo⟩ := q
    exact lsp_mk ⟨ws, S, Q', Y, r', l, hg _ _ _ _ q, fin, xo⟩ x dx z1 z2 z3
theorem we_call (o : Ok X C Ê c fr fl) {f : Str} {p : Pos} (hf : fl.fs.contains f = true) (hg : Gl X f) (ha : PA X (pa :: ps) (LA X.K Ê was)) (hdb : (f == ("__debug__" : Str)) = false)
    (he : starEach (pa :: ps) X.env = (false, eval pa X.env) :: starEach ps X.env) (hpl : (backTo pos (starEach ps X.env)).any (·.1) = false) :
    PE X (.Call (.Name f p) (pa :: ps) [] pos) (LE X.K Ê fun σ S Q Y => was σ S (fun ws S1 => C.Γ f ws S1 Q Y) Y) := by
  obtain ⟨k, room, pr⟩ := o.pr
  obtain ⟨a, h1, h2, h4⟩ := run_at (pr.call f (by simpa using hf)) room o.guards o.pass
  have main : PE X (.Call (.Name f p) (pa :: ps) [] pos) (fun τ H Q => LA X.K Ê was τ H fun vs H1 => lsp X.K (C.Γ f) vs H1 Q (Ê τ)) := ⟨fun pins s τ H Q I h =>
    wpAny_Call_Name_kw (ld_glob I hg h1 (PySem.W.callWith_K (h₀ := X.base) I.ok.mod.kin h2 (thn (ha.run pos pins s τ H _ I h) fun us s1 ⟨vs, H1, I1, r, q⟩ => ⟨I1.kIn, h4 _ _ _ _ _ _ _ I1 r q⟩) he hpl) hdb)⟩
  exact main.imp fun τ H Qh ⟨σ, S, Q, Y, hs, hl, q, k, hx⟩ => LA.mk hs hl hx q fun ws S1 vs H1 e1 l1 s1 x1 r1 q1 =>
    ⟨ws, S1, Q, Y, r1, l1, q1, fun r S' v H' e2 l2 r2 q2 => k _ _ _ _ (e1.trans e2) l2 r2 q2, x1⟩

theorem we_callv (o : Ok X C Ê c fr fl) {i : Nat} {x : Str} {p : Pos} (hN : X.N[i]? = some x) (hv : Vis X.env.scope x) (hd : (x == ("__debug__" : Str)) = false) (hcd : (x == ("__classdict__" : Str)) = false) (ha : PA X (pa :: ps) (LA X.K Ê was))
    (he : starEach (pa :: ps) X.env = (false, eval pa X.env) :: starEach ps X.env) (hpl : (backTo pos (starEach ps X.env)).any (·.1) = false) :
    PE X (.Call (.Name x p) (pa :: ps) [] pos) (LE X.K Ê fun σ S Q Y => ∃ f, σ[i]? = some (some (.fnv f)) ∧ C.G f = some (.fnv f) ∧ was σ S (fun ws S1 => C.Γ f ws S1 Q Y) Y) := by
  refine ⟨fun pins s τ H Qh I h => ?_⟩
  obtain ⟨σ, S, Q, Y, hs, hl, ⟨f, e1, e2, hw⟩, kk, hx⟩ := h
  obtain ⟨k, room, pr⟩ := o.pr
  obtain ⟨a, h1, h2, h4⟩ := run_at (pr.call f (pr.fv f e2)) room o.guards o.pass
  obtain ⟨u0, v0, m0, r0, w0⟩ := pr.glob f _ e2
  have w1 := w0 H S
  unfold RW at w1
  subst w1
  obtain rfl : u0 = Value.ref (He.ga X.K f) := r0
  rw [h1] at m0
  cases m0
  obtain ⟨v1, hτ, w2⟩ := hs.2 i _ e1
  unfold RW at w2
  subst w2
  refine wpAny_Call_Name_kw (thn ((pe_var (pos := p) hN hv hd hcd).run pins s τ H (fun v H1 => v = .ref (He.ga X.K f) ∧ H1 = H) I ⟨_, hτ, rfl, rfl⟩) fun u s1 ⟨v, H1, I1, r1, ev, eH⟩ => ?_)
  subst ev
  subst eH
  obtain rfl : u = Value.ref (He.ga X.K f) := r1
  refine PySem.W.callWith_K (h₀ := X.base) I1.ok.mod.kin h2 (thn (ha.run pos pins s1 τ H1 (fun vs H1 => lsp X.K (C.Γ f) vs H1 Qh (Ê τ)) I1 ?_) fun us s2 ⟨vs, H2, I2, r, q⟩ => ⟨I2.kIn, h4 _ _ _ _ _ _ _ I2 r q⟩) he hpl
  exact LA.mk hs hl hx hw fun ws S1 vs H1 e1 l1 s1 x1 r1 q1 => ⟨ws, S1, Q, Y, r1, l1, q1, fun r S' v H' e2 l2 r2 q2 => kk _ _ _ _ (e1.trans e2) l2 r2 q2, x1⟩
theorem we_call0 (o : Ok X C Ê c fr fl) {f : Str} {p : Pos} (hf : fl.fs.contains f = true) (hg : Gl X f) (hdb : (f == ("__debug__" : Str)) = false) :
    PE X (.Call (.Name f p) [] [] pos) (LE X.K Ê fun σ S Q Y => C.Γ f [] S Q Y) := ⟨fun pins s τ H Q I ⟨σ, S, Q', Y, hs, hl, q, k, hx⟩ => by
  obtain ⟨kk, room, pr⟩ := o.pr
  obtain ⟨a, h1, h2, h4⟩ := run_at (pr.call f (by simpa using hf)) room o.guards o.pass
  have want : lsp X.K (C.Γ f) [] H Q (Ê τ) := ⟨[], S, Q', Y, .nil, hl, q, fun r S' v H' e l rw q => k r S' v H' e l rw q, hx⟩
  exact wpAny_Call_Name_kw (ld_glob I hg h1 (PySem.W.callWith_K0 I.kIn h2 (h4 _ _ _ _ _ _ _ I .nil want)) hdb)⟩
/-! ### instances -/
theorem fld_val {K : PySem.W.Frag} {H : Hp} {S : Sto} {f : Str} {x : W} : ∀ {kvs : List (Str × V)} {ws : List W}, RWs K H S ws (kvs.map (·.2)) → fldW (kvs.map (·.1)) ws f = some x → ∃ v, kvs.lookup f = some v ∧ RW K H S x v
  | [], ws, r, e => by cases e
  | (g, v) :: kvs, [], r, e => by cases e
  | (g, v) :: kvs, w :: ws, r, e => by
    have r' : RWs K H S (w :: ws) (v :: kvs.map (·.2)) := r
    unfold RWs at r'
    obtain ⟨v', t, ev, r1, r2⟩ := r'
    obtain ⟨rfl, rfl⟩ := List.cons.inj ev
    have e' : (if g = f then some w else fldW (kvs.map (·.1)) ws f) = some x := e
    by_cases h : g = f
    · rw [if_pos h] at e'
      cases e'
      subst h
      exact ⟨v, by rw [List.lookup_cons, beq_self_eq_true], r1⟩
    · rw [if_neg h] at e'
      obtain ⟨v', z1, z2⟩ := fld_val r2 e'
      have : (f == g) = false := by simpa using Ne.symm h
      exact ⟨v', by rw [List.lookup_cons, this]; exact z1, z2⟩
theorem fld_none {f : Str} : ∀ {kvs : List (Str × V)}, (kvs.map (·.1)).contains f = false → kvs.lookup f = none
  | [], _ => rfl
  | (g, v) :: kvs, h => by
    have h' : ((f == g) || (kvs.map (·.1)).contains f) = false := h
    rw [Bool.or_eq_false_iff] at h'
    rw [List.lookup_cons, h'.1]
    exact fld_none h'.2
theorem putF_new {f : Str} {v : V} : ∀ {kvs : List (Str × V)}, (kvs.map (·.1)).contains f = false → putF f v kvs = kvs ++ [(f, v)]
  | [], _ => rfl
  | (g, x) :: kvs, h => by
    have h' : ((f == g) || (kvs.map (·.1)).contains f) = false := h
    rw [Bool.or_eq_false_iff] at h'
    have ne : g ≠ f := fun z => by subst z; simp at h'
    show (if g = f then _ else _) = _
    rw [if_neg ne, putF_new h'.2]; rfl
theorem we_fld (o : Ok X C Ê c fr fl) {i : Nat} {x k f : Str} {p : Pos} (hN : X.N[i]? = some x) (hv : Vis X.env.scope x) (hd : (x == ("__debug__" : Str)) = false) (hcd : (x == ("__classdict__" : Str)) = false) (hf : fl.atr.contains (k, f) = true) :
    PE X (.Attribute (.Name x p) f pos) (LE X.K Ê fun σ S Q _ => ∃ w, σ[i]? = some (some w) ∧ ∃ fs ws, rd S w = .ins k fs ws ∧ ∃ x, fldW fs ws f = some x ∧ Q x S) := by
  obtain ⟨j, _, pr⟩ := o.pr
  obtain ⟨cl, na⟩ := pr.atr (k, f) (by simpa using hf)
  refine (pe_fld (pe_var hN hv hd hcd) (base_of rfl)).imp fun τ H Qh ⟨σ, S, Q, Y, hs, hl, ⟨w, e, fs, ws, er, y, ey, q⟩, kk, hx⟩ => ?_
  obtain ⟨v, h1, h2⟩ := hs.2 i w e
  obtain ⟨a, dx, kvs, rfl, h3, rfl, h5⟩ := rd_ins hl h2 er
  obtain ⟨v', z1, z2⟩ := fld_val h5 ey
  exact ⟨_, h1, a, _, dx, kvs, v', rfl, h3, cl, na, z1, kk _ _ _ _ .refl hl z2 q⟩
theorem we_own (o : Ok X C Ê c fr fl) {i : Nat} {x k m n : Str} {p ap : Pos} (hN : X.N[i]? = some x) (hv : Vis X.env.scope x) (hd : (x == ("__debug__" : Str)) = false) (hcd : (x == ("__classdict__" : Str)) = false) (hf : fl.met.contains (k, m, n) = true)
    (ha : PA X (pa :: ps) (LA X.K Ê was)) (hfew : ((backTo pos (starEach (pa :: ps) X.env)).all (fun x => !x.1) && (backToKw pos (keywordEach [] X.env)).all (fun x => x.1.isSome)
      && decide ((pa :: ps).length + ([] : List Keyword).length + (if ([] : List Keyword).isEmpty then 0 else 1) < 30)) = true) (hline : (ap.endLine == pos.line) = true)
    (he : starEach (pa :: ps) X.env = (false, eval pa X.env) :: starEach ps X.env) (hpl : (backTo pos (starEach ps X.env)).any (·.1) = false) :
    PE X (.Call (.Attribute (.Name x p) m ap) (pa :: ps) [] pos) (LE X.K Ê fun σ S Q Y => ∃ w, σ[i]? = some (some w) ∧ ∃ fs ws, rd S w = .ins k fs ws ∧ fs.contains m = false ∧ was σ S (fun vs S1 => C.Γ n (w :: vs) S1 Q Y) Y) := by
  obtain ⟨j, room, pr⟩ := o.pr
  obtain ⟨a, fd, xs, j2, cl, hm, h3, ej, h4'⟩ := (pr.meth (k, m, n) (by simpa using hf)).ex
  have h4 := h4'.mono (k := j) (by omega)
  refine ⟨fun pins s τ H Qh I ⟨σ, S, Q, Y, hs, hl, ⟨w, e, fs, ws, er, nm, q⟩, kk, hx⟩ => ?_⟩
  obtain ⟨v, h1, h2⟩ := hs.2 i w e
  obtain ⟨b, dx, kvs, rfl, h5, rfl, h6⟩ := rd_ins hl h2 er
  rw [arm_eval_Call, base_of (n := m) (p := .Name x p) rfl]
  refine wpAny_bind (thn ((pe_var (pos := p) hN hv hd hcd).run pins s τ H (fun u H1 => u = .ref b ∧ H1 = H) I (show ∃ v, _ = some (some v) ∧ _ from ⟨_, h1, rfl, rfl⟩)) fun u s1 ⟨x', H1, I1, rx, ex, eH⟩ => ?_)
  subst ex eH
  obtain rfl : u = Value.ref b := rx
  refine wpAny_bind (wpAny_standAt ?_)
  have hform : methodCallForm ((pa :: ps).length + ([] : List Keyword).length) (backTo pos (starEach (pa :: ps) X.env)) (backToKw pos (keywordEach [] X.env)) = true := hfew
  have hpos : methodCallPos true (.Name x p) X.env ap pos = pure pos := by unfold methodCallPos; simp [hline]
  unfold methodCall
  rw [hform]
  refine wpAny_bind (wpAny_holding ?_)
  unfold calleeOf
  rw [if_pos rfl]
  refine getmeth_ok I1 h5 cl hm (fld_none nm) ?_
  refine wpAny_bind (wpAny_of_eq hpos ?_)
  refine PySem.W.callWith_K (first := [.ref b]) (h₀ := X.base) I.ok.mod.kin hm.kp (thn (ha.run pos pins s1 τ H1 (fun vs H2 => lsp X.K (C.Γ n) (.ref b :: vs) H2 Qh (Ê τ)) I1
    (LA.mk hs hl hx q fun vs S2 us H2 e2 l2 s2 x2 r2 q2 => ⟨w :: vs, S2, Q, Y, .cons (RW.ext e2 _ _ h2) r2, l2, q2, fun r S' v H' e3 l3 r3 q3 => kk _ _ _ _ (e2.trans e3) l3 r3 q3, x2⟩)) fun us s2 ⟨vs, H2, I2, r, q2⟩ => ⟨I2.kIn, ?_⟩) he hpl
  exact run_fg (us := .ref b :: us) (vs := .ref b :: vs) h4 room o.guards h3 o.pass I2 (.cons rfl r) q2
theorem we_own0 (o : Ok X C Ê c fr fl) {i : Nat} {x k m n : Str} {p ap : Pos} (hN : X.N[i]? = some x) (hv : Vis X.env.scope x) (hd : (x == ("__debug__" : Str)) = false) (hcd : (x == ("__classdict__" : Str)) = false) (hf : fl.met.contains (k, m, n) = true)
    (hline : (ap.endLine == pos.line) = true) :
    PE X (.Call (.Attribute (.Name x p) m ap) [] [] pos) (LE X.K Ê fun σ S Q Y => ∃ w, σ[i]? = some (some w) ∧ ∃ fs ws, rd S w = .ins k fs ws ∧ fs.contains m = false ∧ C.Γ n [w] S Q Y) := by
  obtain ⟨j, room, pr⟩ := o.pr
  obtain ⟨a, fd, xs, j2, cl, hm, h3, ej, h4'⟩ := (pr.meth (k, m, n) (by simpa using hf)).ex
  have h4 := h4'.mono (k := j) (by omega)
  refine ⟨fun pins s τ H Qh I ⟨σ, S, Q, Y, hs, hl, ⟨w, e, fs, ws, er, nm, q⟩, kk, hx⟩ => ?_⟩
  obtain ⟨v, h1, h2⟩ := hs.2 i w e
  obtain ⟨b, dx, kvs, rfl, h5, rfl, h6⟩ := rd_ins hl h2 er
  rw [arm_eval_Call, base_of (n := m) (p := .Name x p) rfl]
  refine wpAny_bind (thn ((pe_var (pos := p) hN hv hd hcd).run pins s τ H (fun u H1 => u = .ref b ∧ H1 = H) I (show ∃ v, _ = some (some v) ∧ _ from ⟨_, h1, rfl, rfl⟩)) fun u s1 ⟨x', H1, I1, rx, ex, eH⟩ => ?_)
  subst ex eH
  obtain rfl : u = Value.ref b := rx
  refine wpAny_bind (wpAny_standAt ?_)
  have hform : methodCallForm (([] : List Expr).length + ([] : List Keyword).length) (backTo pos (starEach [] X.env)) (backToKw pos (keywordEach [] X.env)) = true := rfl
  have hpos : methodCallPos true (.Name x p) X.env ap pos = pure pos := by unfold methodCallPos; simp [hline]
  unfold methodCall
  rw [hform]
  refine wpAny_bind (wpAny_holding ?_)
  unfold calleeOf
  rw [if_pos rfl]
  refine getmeth_ok I1 h5 cl hm (fld_none nm) ?_
  refine wpAny_bind (wpAny_of_eq hpos ?_)
  refine PySem.W.callWith_K0 (first := [.ref b]) (I1.tok _).kIn hm.kp ?_
  exact run_fg (us := [.ref b]) (vs := [.ref b]) h4 room o.guards h3 o.pass (I1.tok _) (.cons rfl .nil) ⟨[w], S, Q, Y, .cons h2 .nil, hl, q, fun r S' v H' e3 l3 r3 q3 => kk _ _ _ _ e3 l3 r3 q3, hx⟩
/-- isinstance(x, an own class), x an instance of it -/
theorem we_isi (o : Ok X C Ê c fr fl) {i : Nat} {x y : Str} {gp px pz pos : Pos} (hN : X.N[i]? = some x) (hv : Vis X.env.scope x) (hd : (x == ("__debug__" : Str)) = false) (hcd : (x == ("__classdict__" : Str)) = false) (hg : Gl X "isinstance") (hm : X.mg "isinstance" = none)
    (hg2 : Gl X y) (hy : (y == ("__debug__" : Str)) = false) (hq : fl.eqs.contains y = true) :
    PE X (.Call (.Name "isinstance" gp) [.Name x px, .Name y pz] [] pos) (LE X.K Ê fun σ S Q Y => ∃ w, σ[i]? = some (some w) ∧ ∃ fs ws, rd S w = .ins y fs ws ∧ Q (.bl true) S) := by
  obtain ⟨j, room, pr⟩ := o.pr
  have T := pr.eqs y (by simpa using hq)
  have hb : PE X (.Name y pz) (tC (.ref (He.ga X.K y))) := pe_glob hg2 T.at_ rfl hy
  have pv := pe_var (X := X) (i := i) (pos := px) hN hv hd hcd
  have hst : starEach [.Name x px, .Name y pz] X.env = (false, eval (.Name x px) X.env) :: starEach [.Name y pz] X.env := rfl
  refine (pe_callB call_isi hg hm PyProof.Rows.boot_isinstance (pa_cons pv (pa_cons hb pa_nil rfl) hst) (by decide) (by decide) hst rfl).imp fun τ H Qh ⟨σ, S, Q, Y, hs, hl, ⟨w, e, fs, ws, er, q⟩, kk, hx⟩ => ?_
  obtain ⟨v, z1, z2⟩ := hs.2 i _ e
  obtain ⟨b, dx, kvs, rfl, h5, rfl, h6⟩ := rd_ins hl z2 er
  exact ⟨_, z1, _, _, _, _, true, rfl, .own _, .base (.ins h5 T.cl T.ask T.get T.tak T.mro), T.kit, kk _ _ _ _ .refl hl .b q⟩
/-- == or != of two instances by the class's own == -/
theorem cmp_own (o : Ok X C Ê c fr fl) {neg : Bool} {k n : Str} (hq : fl.eqs.contains k = true) (hf : fl.met.contains (k, ("__eq__" : Str), n) = true) {pins : List (Addr × Obj)} {τ : L2.St} {H : Hp} {s : Shared} {Q : VK} {a b dx dy : Addr} {kv kw : List (Str × V)}
    (I : Inv X pins τ H s) (ha : H a = some (.ins (He.ga X.K k) dx kv)) (hb : H b = some (.ins (He.ga X.K k) dy kw))
    (q : lsp X.K (C.Γ n) [.ref a, .ref b] H (fun v H' => ∃ t, v = .bl t ∧ Q (.bl (if neg then !t else t)) H') (Ê τ)) :
    wpAny (model X.prog X.w) X.A (compareOp (if neg then CmpOp.NotEq else CmpOp.Eq) (.ref a) (.ref b)) (EP X pins τ Q) X.xe s := by
  obtain ⟨j, room, pr⟩ := o.pr
  have T := pr.eqs k (by simpa using hq)
  obtain ⟨f, fd, xs, j2, cl, hm, h3, rfl, F⟩ := (pr.meth (k, ("__eq__" : Str), n) (by simpa using hf)).ex
  obtain ⟨mA, J, _⟩ := ins_get I.hok ha
  obtain ⟨mB, J', _⟩ := ins_get I.hok hb
  obtain ⟨od, J, _⟩ := J.look
  obtain ⟨od', J', _⟩ := J'.look
  obtain ⟨m, hF⟩ := I.fr
  have callAt : ∀ A' : Around, Room j2 A' → A'.frames = X.A.frames → A'.guards = X.A.guards → wpAny (model X.prog X.w) A' (call (.ref f) [.ref a, .ref b]) (fun v s' => ∃ t, v = .bool t ∧ ∃ H', Inv X pins τ H' s' ∧ Q (.bl (if neg then !t else t)) H') X.xe s := by
    intro A' hr hfr hgd
    have e0 : Env0 X.prog X.w X.K X.mg X.base A' X.stack s H := by
      have e := I.env0
      exact ⟨by rw [hfr]; exact e.frames, e.mod, e.bs, e.bsz, e.funs, e.frf, e.hok, e.bare⟩
    have hl := F.len _ _ _ _ q
    have r2 : Vals [V.ref a, V.ref b] [Value.ref a, Value.ref b] := .cons rfl (.cons rfl .nil)
    refine wpAny_call (codeAny_mono (F.run A' X.stack s H ⟨[.ref a, .ref b], []⟩ [.ref a, .ref b] [.ref a, .ref b] _ (Ê τ) hr (by rw [hgd]; exact o.guards) e0 (by
      have := h3 s [.ref a, .ref b] I.kIn (by simpa using hl)
      simpa using this) r2 q) fun r s' hq => ?_)
    match r, hq with
    | .error e, hq => exact o.pass τ pins H s e s' I hq
    | .ok (.ret u), hq =>
      obtain ⟨z, H', I', rz, t, ez, ex⟩ := I.after hq
      subst ez
      cases rz
      exact ⟨t, rfl, H', I', ex⟩
    | .ok .next, hq => exact hq.elim
    | .ok .brk, hq => exact hq.elim
    | .ok .cont, hq => exact hq.elim
  have hu : X.A.units + 64 < cLine := room.units
  cases neg with
  | true =>
    show wpAny _ _ (richCompare .NotEq (.ref a) (.ref b)) _ _ _
    refine PySem.W.pd_ne_K (tb := .ref (He.ga X.K k)) (by omega) hF I.ok.mod.kin J J'.type (by simp [PySem.W.notFirst]) T.ne T.mro hm.at_ hm.fn (wpAny_mono (callAt X.A.in1 room.in1 rfl rfl) (fun v s' ⟨t, e, H', I', z⟩ => ⟨t, e, .bl _, H', I', rfl, z⟩) fun _ _ e => e)
  | false =>
    show wpAny _ _ (richCompare .Eq (.ref a) (.ref b)) _ _ _
    refine PySem.W.cmp_K (op := .Eq) (tb := .ref (He.ga X.K k)) (by omega) hF I.ok.mod.kin J J'.type (by simp [PySem.W.notFirst]) hm.at_ hm.fn (wpAny_mono (callAt X.A (room.mono (Nat.le_succ _)) rfl rfl) (fun v s' ⟨t, e, H', I', z⟩ => ?_) fun _ _ e => e)
    subst e
    exact ⟨.bl _, H', I', rfl, z⟩
/-- the same as a reading -/
def wO2 (C : Cn) (neg : Bool) (k n : Str) (wa wb : WE) : WE := fun σ S Q Y => wa σ S (fun x S1 => wb σ S1 (fun y S2 => ∃ fs ws gs vs, rd S2 x = .ins k fs ws ∧ rd S2 y = .ins k gs vs ∧ C.Γ n [x, y] S2 (fun r S3 => ∃ t, r = .bl t ∧ Q (.bl (if neg then !t else t)) S3) Y) Y) Y
def rO2 (C : Cn) (K : PySem.W.Frag) (neg : Bool) (k n : Str) (Q : VK) (E : XK) : V → V → Hp → Prop := fun v u H => ∃ a b dx dy kv kw, v = .ref a ∧ u = .ref b ∧ H a = some (.ins (He.ga K k) dx kv) ∧ H b = some (.ins (He.ga K k) dy kw) ∧ lsp K (C.Γ n) [.ref a, .ref b] H (fun v H' => ∃ t, v = .bl t ∧ Q (.bl (if neg then !t else t)) H') E
theorem cmpo_pre {K : PySem.W.Frag} {Ê : L2.St → XK} {τ : L2.St} {H : Hp} {σ : Sl} {S : Sto} {Q : QW} {Y : QW} {Qh : VK} {neg : Bool} {k n : Str} {wa wb : WE} (hs : RSl K H S σ τ) (hl : LinkS K H S) (hw : wO2 C neg k n wa wb σ S Q Y)
    (kk : ∀ t S' H', Ext H S H' S' → LinkS K H' S' → Q (.bl t) S' → Qh (.bl t) H') (hx : XO K (Ê τ) H S Y) : LE K Ê wa τ H fun v H1 => LE K Ê wb τ H1 fun u H2 => rO2 C K neg k n Qh (Ê τ) v u H2 :=
  LE.mk hs hl hx hw fun x S1 v H1 e1 l1 s1 x1 r1 q1 => LE.mk s1 l1 x1 q1 fun y S2 u H2 e2 l2 s2 x2 r2 ⟨fs, ws, gs, vs, ex, ey, g⟩ => by
    obtain ⟨a, dx, kv, rfl, h1, _, _⟩ := rd_ins l2 (r1.ext e2) ex
    obtain ⟨b, dy, kw, rfl, h2, _, _⟩ := rd_ins l2 r2 ey
    refine ⟨a, b, dx, dy, kv, kw, rfl, rfl, h1, h2, [x, y], S2, _, Y, .cons (r1.ext e2) (.cons r2 .nil), l2, g, fun r S' v H' e3 l3 r3 ⟨t, et, q3⟩ => ?_, x2⟩
    subst et
    exact ⟨t, r3.bl_, kk _ _ _ ((e1.trans e2).trans e3) l3 q3⟩
theorem we_cmpo (o : Ok X C Ê c fr fl) {neg : Bool} {k n : Str} {wb : WE} {pb : Expr} (hq : fl.eqs.contains k = true) (hf : fl.met.contains (k, ("__eq__" : Str), n) = true) (hm : behindInMarks (if neg then CmpOp.NotEq else CmpOp.Eq) pb = false) (ha : PE X pa (LE X.K Ê wa)) (hb : PE X pb (LE X.K Ê wb)) :
    PE X (.Compare pa [if neg then CmpOp.NotEq else CmpOp.Eq] [pb] pos) (LE X.K Ê (wO2 C neg k n wa wb)) := by
  refine ⟨fun pins s τ H Qh I ⟨σ, S, Q, Y, hs, hl, hw, kk, hx⟩ => ?_⟩
  refine wpAny_Compare1 (binT ha hb I (cmpo_pre (Qh := Qh) hs hl hw (fun t S' H' e l q => kk _ _ _ _ e l .b q) hx) fun v u s2 x y H2 I2 rx ry ⟨a, b, dx, dy, kv, kw, e1, e2, h1, h2, q⟩ => ?_) hm
  subst e1 e2
  cases rx
  cases ry
  exact cmp_own o hq hf I2 h1 h2 q
theorem wt_cmpo (o : Ok X C Ê c fr fl) {neg : Bool} {k n : Str} {wb : WE} {pb : Expr} (hq : fl.eqs.contains k = true) (hf : fl.met.contains (k, ("__eq__" : Str), n) = true) (hm : behindInMarks (if neg then CmpOp.NotEq else CmpOp.Eq) pb = false) (ha : PE X pa (LE X.K Ê wa)) (hb : PE X pb (LE X.K Ê wb)) :
    PT X (.Compare pa [if neg then CmpOp.NotEq else CmpOp.Eq] [pb] pos) (LT X.K Ê fun σ S Q Y => wO2 C neg k n wa wb σ S (fun u S1 => ∃ r, truW (rd S1 u) = some r ∧ Q r S1) Y) := by
  refine ⟨fun pins s τ H Qh I ⟨σ, S, Q, Y, hs, hl, hw, kk, hx⟩ => ?_⟩
  have pre := cmpo_pre (Qh := fun v H' => ∃ r, v = .bl r ∧ Qh r H') hs hl hw (fun t S' H' e l ⟨r, er, q⟩ => ⟨t, rfl, by
    have : t = r := Option.some.inj er
    subst this
    exact kk _ _ _ e l q⟩) hx
  refine wpAny_isTrue_Compare1 (thn (ha.run pins s τ H _ I pre) fun v s1 ⟨x, H1, I1, r1, q1⟩ => thn (hb.run pins s1 τ H1 _ I1 q1) fun u s2 ⟨y, H2, I2, r2, a, b, dx, dy, kv, kw, e1, e2, h1, h2, q⟩ => ?_) hm
  subst e1 e2
  cases r1
  cases r2
  refine thn (cmp_own (Q := fun v H' => ∃ r, v = .bl r ∧ Qh r H') o hq hf I2 h1 h2 q) fun c s3 ⟨z, H3, I3, r3, k, e, q3⟩ => ?_
  subst e
  cases r3
  exact wpAny_truthy_bool ⟨H3, I3, q3⟩
theorem boot_ty (t : Ty) : bootBuiltins t.name = some (.type t.id) := by cases t <;> decide +kernel
theorem ty_name (t : Ty) : t.name ≠ "__name__" ∧ (t.name == ("__debug__" : Str)) = false := by cases t <;> decide
theorem we_isa {ty : Ty} {p p2 : Pos} (o : Ok X C Ê c fr fl) (hg : Gl X "isinstance") (hm : X.mg "isinstance" = none) (hg2 : Gl X ty.name) (hm2 : X.mg ty.name = none) (hst : starEach [pa, .Name ty.name p2] X.env = (false, eval pa X.env) :: starEach [.Name ty.name p2] X.env) (ha : PE X pa (LE X.K Ê wa)) :
    PE X (.Call (.Name "isinstance" p) [pa, .Name ty.name p2] [] pos) (LE X.K Ê fun σ S Q Y => wa σ S (fun w S1 => ∃ d, w.dd = some d ∧ Q (.bl (isaD ty d)) S1) Y) := by
  obtain ⟨kk, room, pr⟩ := o.pr
  have hb : PE X (.Name ty.name p2) (tC (.ty ty.id)) := pe_bltn hg2 hm2 (boot_ty ty) rfl (ty_name ty).1 (ty_name ty).2
  exact (pe_callB (bi_isa pr.sysm ty) hg hm PyProof.Rows.boot_isinstance (pa_cons ha (pa_cons hb pa_nil rfl) hst) (by decide) (by decide) hst rfl).imp fun τ H Qh ⟨σ, S, Q, Y, hs, hl, hw, k, hx⟩ => LE.mk hs hl hx hw fun x S1 v H1 e1 l1 s1 x1 r1 ⟨d, ed, q⟩ =>
    ⟨S1, x, d, v, l1, rfl, r1, ed, k _ _ _ _ e1 l1 .b q⟩

/-! ### methods, what is changed no more -/
theorem tyL {K : PySem.W.Frag} {H : Hp} {S : Sto} {w : W} {v : V} {xs : List W} (l : LinkS K H S) (h : RW K H S w v) (e : rd S w = .lst xs) : tyV K "list" v H := by
  obtain ⟨a, vs, rfl, h2, h3⟩ := rd_lst l h e
  exact .inl ⟨rfl, vs, h2⟩
theorem tyD {K : PySem.W.Frag} {H : Hp} {S : Sto} {w : W} {v : V} {ks : List Key} {ws : List W} (l : LinkS K H S) (h : RW K H S w v) (e : rd S w = .dct ks ws) : ∃ a kvs, v = .ref a ∧ Rd H a (.dK kvs) := by
  obtain ⟨a, vs, rfl, h2, h3⟩ := rd_dct l h e
  exact ⟨a, vs, rfl, h2⟩
theorem we_frz (ha : PE X pa (LE X.K Ê wa)) : PE X pa (LE X.K Ê fun σ S Q Y => wa σ S (fun w S1 => ∃ p, w = .ref p ∧ ((∃ xs, S1 p = some (.lst xs) ∧ Q (.lst xs) (S1.del p)) ∨ (∃ ks ws, S1 p = some (.dct ks ws) ∧ Q (.dct ks ws) (S1.del p)))) Y) :=
  ha.imp fun τ H Qh ⟨σ, S, Q, Y, hs, hl, hw, k, hx⟩ => LE.mk hs hl hx hw fun x S1 v H1 e1 l1 s1 x1 r1 ⟨p, ep, q⟩ => by
    subst ep
    obtain rfl : v = V.ref p := by unfold RW at r1; exact r1
    rcases q with ⟨xs, h, q⟩ | ⟨ks, ws, h, q⟩
    · exact k _ _ _ _ (e1.trans (ext_del (nclo_of h))) (l1.del p (nclo_of h)) (RW.frozen l1 h) q
    · exact k _ _ _ _ (e1.trans (ext_del (nclo_of h))) (l1.del p (nclo_of h)) (RW.frozenD l1 h) q
/-- a value of a built-in type, without fields of its own -/
def TyIs (X : Cx) (T : String) (v : V) (H : Hp) : Prop := ∀ (pins : List (Addr × Obj)) (σ : L2.St) (s : Shared) (u : Value), Inv X pins σ H s → RelV v u → s.TypeIs u T ∧ ∀ a, u = .ref a → ∃ ob, s.heap.get? a = some ob ∧ ob.dict = none
theorem tyIs_L {X : Cx} {H : Hp} {S : Sto} {w : W} {v : V} {xs : List W} (l : LinkS X.K H S) (h : RW X.K H S w v) (e : rd S w = .lst xs) : TyIs X "list" v H := fun pins σ s u I r => tyV_is I r (tyL l h e)
theorem tyIs_D {X : Cx} {H : Hp} {S : Sto} {w : W} {v : V} {ks : List Key} {ws : List W} (l : LinkS X.K H S) (h : RW X.K H S w v) (e : rd S w = .dct ks ws) : TyIs X "dict" v H := fun pins σ s u I r => by
  obtain ⟨a, kvs, rfl, h1 | ⟨od, h1⟩⟩ := tyD l h e
  · exact tyV_is I r (.inr (.inr (.inl ⟨rfl, .inl ⟨kvs, h1⟩⟩)))
  · obtain ⟨hs, hgd, hx, es, ep, vs, hdt, hsz, kv, hm⟩ := I.frzK h1
    cases r
    refine ⟨⟨od, hgd, hx.1⟩, fun b e2 => ?_⟩
    cases e2
    exact ⟨od, hgd, hx.2.1⟩
theorem we_meth {m : Mt} {T id : String} {name : Str} {ap cp : Pos} (pl : PlainAttrs T) (slot : Slot T name id) (hty : typeOf (.builtin id) = pure (.type "method_descriptor")) (hm : MtR X id (rMt X.K m))
    (ht : ∀ H S w v, LinkS X.K H S → RW X.K H S w v → tyM m (rd S w) = true → TyIs X T v H)
    (ha : PE X pa (LE X.K Ê wa)) (has : PA X (pb :: ps) (LA X.K Ê was)) (hbase : attributeBase pa name X.env (eval pa X.env) = eval pa X.env)
    (hfew : ((backTo cp (starEach (pb :: ps) X.env)).all (fun x => !x.1) && (backToKw cp (keywordEach [] X.env)).all (fun x => x.1.isSome)
      && decide ((pb :: ps).length + ([] : List Keyword).length + (if ([] : List Keyword).isEmpty then 0 else 1) < 30)) = true)
    (hline : (ap.endLine == cp.line) = true) (hs : starEach (pb :: ps) X.env = (false, eval pb X.env) :: starEach ps X.env) (hplain : (backTo cp (starEach ps X.env)).any (·.1) = false) :
    PE X (.Call (.Attribute pa name ap) (pb :: ps) [] cp) (LE X.K Ê fun σ S Q Y => wa σ S (fun w S1 => tyM m (rd S1 w) = true ∧ was σ S1 (fun ws S2 => mtW m w ws S2 Q) Y) Y) := ⟨fun pins s τ H Qh I ⟨σ, S, Q, Y, hs', hl, hw, k, hx⟩ =>
  wpAny_Call_method_late hbase hfew hline rfl (thn (ha.run pins s τ H _ I (LE.mk hs' hl hx hw fun x S1 v H1 e1 l1 s1 x1 r1 q1 => (⟨S1, x, e1, l1, s1, x1, r1, q1⟩ : ∃ S1 x, Ext H S H1 S1 ∧ LinkS X.K H1 S1 ∧ RSl X.K H1 S1 σ τ ∧ XO X.K (Ê τ) H1 S1 Y ∧ RW X.K H1 S1 x v ∧ (tyM m (rd S1 x) = true ∧ was σ S1 (fun ws S2 => mtW m x ws S2 Q) Y)))) fun u s1 ⟨v, H1, I1, r1, S1, x, e1, l1, sl1, x1, rw1, et, q1⟩ => by
    obtain ⟨h1, h2⟩ := ht _ _ _ _ l1 rw1 et pins τ s1 u I1 r1
    refine ⟨T, id, pl, slot, hty, h1, h2, ?_⟩
    have hA := has.run cp pins s1 τ H1 _ I1 (LA.mk sl1 l1 x1 q1 fun ws S2 vs H2 e2 l2 s2 x2 r2 q2 => (⟨S2, x, ws, Q, l2, rw1.ext e2, r2, q2, fun r S' v' H' e3 l3 r3 q3 => k _ _ _ _ ((e1.trans e2).trans e3) l3 r3 q3⟩ : rMt X.K m v vs H2 Qh))
    rw [hs] at hA ⊢
    refine Calls.callWith_builtin (by show (false || (backTo cp (starEach ps X.env)).any (·.1)) = false; rw [hplain] <;> rfl) (Calls.evalArgs_plain ?_)
    exact thn hA fun us s2 ⟨vs, H2, I2, r2, q2⟩ => hm pins s2 τ H2 v vs u us Qh I2 r1 r2 q2)⟩

theorem we_meth0 {m : Mt} {T id : String} {name : Str} {ap cp : Pos} (pl : PlainAttrs T) (slot : Slot T name id) (hty : typeOf (.builtin id) = pure (.type "method_descriptor")) (hm : MtR X id (rMt X.K m))
    (ht : ∀ H S w v, LinkS X.K H S → RW X.K H S w v → tyM m (rd S w) = true → TyIs X T v H)
    (ha : PE X pa (LE X.K Ê wa)) (hbase : attributeBase pa name X.env (eval pa X.env) = eval pa X.env) (hline : (ap.endLine == cp.line) = true) :
    PE X (.Call (.Attribute pa name ap) [] [] cp) (LE X.K Ê fun σ S Q Y => wa σ S (fun w S1 => tyM m (rd S1 w) = true ∧ mtW m w [] S1 Q) Y) := ⟨fun pins s τ H Qh I ⟨σ, S, Q, Y, hs', hl, hw, k, hx⟩ =>
  wpAny_Call_method_late (args := []) hbase rfl hline rfl (thn (ha.run pins s τ H _ I (LE.mk hs' hl hx hw fun x S1 v H1 e1 l1 s1 x1 r1 q1 => (⟨S1, x, e1, l1, s1, x1, r1, q1⟩ : ∃ S1 x, Ext H S H1 S1 ∧ LinkS X.K H1 S1 ∧ RSl X.K H1 S1 σ τ ∧ XO X.K (Ê τ) H1 S1 Y ∧ RW X.K H1 S1 x v ∧ (tyM m (rd S1 x) = true ∧ mtW m x [] S1 Q)))) fun u s1 ⟨v, H1, I1, r1, S1, x, e1, l1, sl1, x1, rw1, et, q1⟩ => by
    obtain ⟨h1, h2⟩ := ht _ _ _ _ l1 rw1 et pins τ s1 u I1 r1
    refine ⟨T, id, pl, slot, hty, h1, h2, ?_⟩
    refine Calls.callWith_builtin rfl (evalArgs_nil3 ?_)
    exact hm pins s1 τ H1 v [] u [] Qh I1 r1 .nil ⟨S1, x, [], Q, l1, rw1, .nil, q1, fun r S' v' H' e3 l3 r3 q3 => k _ _ _ _ (e1.trans e3) l3 r3 q3⟩)⟩
/-- sorted(set(l)) of whole numbers -/
theorem we_sos {p p2 q : Pos} (hc : X.calm = true) (hg : Gl X "sorted") (hm : X.mg "sorted" = none) (hg2 : Gl X "set") (hm2 : X.mg "set" = none) (hst : starEach [pa] X.env = (false, eval pa X.env) :: starEach [] X.env) (ha : PE X pa (LE X.K Ê wa)) :
    PE X (.Call (.Name "sorted" p) [.Call (.Name "set" p2) [pa] [] q] [] pos) (LE X.K Ê fun σ S Q Y => wa σ S (fun w S1 => ∃ ns : List Int, rd S1 w = .lst (ns.map W.int) ∧ ns.length < 4000 ∧ (∃ ds : List Int, ds.length < 64 ∧ ∀ k, k ∈ ns → k ∈ ds) ∧ ∀ (ms : List Int) p, ms.Pairwise (· < ·) → (∀ k : Int, k ∈ ms ↔ k ∈ ns) → S1 p = none → Q (.ref p) (S1.set p (.lst (ms.map W.int)))) Y) :=
  (pe_callB (cr_sortedSet hc) hg hm (by decide +kernel) (pa_cons (pe_callTy (cr_setL hc) hg2 hm2 (by decide +kernel) (pa_cons ha pa_nil hst) (by decide) (by decide) hst rfl) pa_nil rfl) (by decide) (by decide) rfl rfl).imp fun τ H Qh ⟨σ, S, Q, Y, hs, hl, hw, k, hx⟩ => LE.mk hs hl hx hw fun x S1 v H1 e1 l1 s1 x1 r1 ⟨ns, e, hn, hd, q⟩ => by
    obtain ⟨a, vs, rfl, h1, r2⟩ := rd_lst l1 r1 e
    rw [r2.toInts (ints_wi ns)] at h1
    refine ⟨a, ns, rfl, h1, hn, hd, fun p c hp hc2 => ?_⟩
    refine ⟨p, _, c, rfl, upd_same, by omega, fun ms p2 h2 h3 _ hp2 => ?_⟩
    have l2 : LinkS X.K (upd H1 p (SetO X.w p (fun j => decide (j ∈ ns)) c)) S1 := l1.new hp
    have e2 := ext_newS (S := S1) (o := HO.lst (ms.map V.int)) (so := .lst (ms.map W.int)) hp2
    exact k _ _ _ _ ((e1.trans (ext_new hp)).trans e2) (l2.put e2 (.l (rws_iv ms))) .r (q ms p2 h2 (fun k => by rw [h3]; simp) (l2.fresh hp2))
/-- max(l, default=d) of whole numbers -/
theorem we_maxd {d : Int} {j : Nat} {p p3 p4 : Pos} (hc : X.calm = true) (hg : Gl X "max") (hm : X.mg "max" = none) (hst : starEach [pa] X.env = (false, eval pa X.env) :: starEach [] X.env) (ha : PE X pa (LE X.K Ê wa)) :
    PE X (.Call (.Name "max" p) [pa] [⟨some "default", .Constant (.int d) j p3, p4⟩] pos) (LE X.K Ê fun σ S Q Y => wa σ S (fun w S1 => ∃ ns : List Int, rd S1 w = .lst (ns.map W.int) ∧ (ns = [] → Q (.int d) S1) ∧ ∀ m, m ∈ ns → (∀ y, y ∈ ns → y ≤ m) → Q (.int m) S1) Y) :=
  (pe_callBK (cr_maxDf hc) hg hm (by decide +kernel) (pa_cons ha pa_nil hst) (pk_cons pe_int pk_nil) (by decide) (by decide) (by rw [hst]; rfl) (by rw [hst]; rfl) rfl rfl rfl).imp fun τ H Qh ⟨σ, S, Q, Y, hs, hl, hw, k, hx⟩ => LE.mk hs hl hx hw fun x S1 v H1 e1 l1 s1 x1 r1 ⟨ns, e, q0, q⟩ => by
    obtain ⟨a, vs, rfl, h1, r2⟩ := rd_lst l1 r1 e
    rw [r2.toInts (ints_wi ns)] at h1
    exact ⟨a, ns, d, rfl, rfl, h1, fun z => k _ _ _ _ e1 l1 .i (q0 z), fun m h2 h3 => k _ _ _ _ e1 l1 .i (q m h2 h3)⟩

/-! ### dicts -/
def flatP (prs : List (V × V)) : List V := (prs.map fun p => [p.1, p.2]).flatten
theorem pairs_rel {K : PySem.W.Frag} {H : Hp} {S : Sto} : ∀ {prs : List (V × V)} {ws : List W} {kws : List (Key × W)}, RWs K H S ws (flatP prs) → pairsW ws = some kws →
    ∃ kvs : List (Key × V), prs = kvs.map (fun kv => (kV kv.1, kv.2)) ∧ kvs.map (·.1) = kws.map (·.1) ∧ RWs K H S (kws.map (·.2)) (kvs.map (·.2))
  | [], ws, kws, h, e => by
    have hl := h.len
    cases ws with
    | nil => cases e; exact ⟨[], rfl, rfl, .nil⟩
    | cons w ws => simp [flatP] at hl
  | (x, y) :: prs, ws, kws, h, e => by
    match ws, e with
    | [], e => have hl := h.len; simp [flatP] at hl
    | [w], e => cases e
    | w :: u :: r, e =>
      unfold RWs at h
      obtain ⟨v1, r1, e1, h1, h2⟩ := h
      unfold RWs at h2
      obtain ⟨v2, r2, e2, h3, h4⟩ := h2
      subst e2
      have e1' : x :: y :: flatP prs = v1 :: v2 :: r2 := e1
      cases e1'
      unfold pairsW at e
      cases q : keyOf w with
      | none => rw [q] at e; cases e
      | some k =>
        rw [q] at e
        cases q2 : pairsW r with
        | none => rw [q2] at e; cases e
        | some t =>
          rw [q2] at e
          cases e
          obtain ⟨kvs, i1, i2, i3⟩ := pairs_rel h4 q2
          obtain rfl := h1.key q
          exact ⟨(k, y) :: kvs, by rw [i1]; rfl, by rw [List.map_cons, i2]; rfl, .cons h3 i3⟩
theorem merge_rel {K : PySem.W.Frag} {H : Hp} {S : Sto} : ∀ {kvs : List (Key × V)} {kws : List (Key × W)} {kv0 : List (Key × V)} {ws0 : List W}, kvs.map (·.1) = kws.map (·.1) → RWs K H S (kws.map (·.2)) (kvs.map (·.2)) → RWs K H S ws0 (kv0.map (·.2)) →
    (mergeK kv0 kvs).map (·.1) = (kws.foldl (fun acc kw => putKW acc.1 acc.2 kw.1 kw.2) (kv0.map (·.1), ws0)).1 ∧ RWs K H S (kws.foldl (fun acc kw => putKW acc.1 acc.2 kw.1 kw.2) (kv0.map (·.1), ws0)).2 ((mergeK kv0 kvs).map (·.2))
  | [], kws, kv0, ws0, e, h, h0 => by
    cases kws with
    | nil => exact ⟨rfl, h0⟩
    | cons a b => cases e
  | (k, v) :: kvs, kws, kv0, ws0, e, h, h0 => by
    cases kws with
    | nil => cases e
    | cons a b =>
      obtain ⟨k', w⟩ := a
      have e1 : k = k' := (List.cons.inj e).1
      have e2 : kvs.map (·.1) = b.map (·.1) := (List.cons.inj e).2
      subst e1
      have h' : RWs K H S (w :: b.map (·.2)) (v :: kvs.map (·.2)) := h
      unfold RWs at h'
      obtain ⟨v', r', e3, h1, h2⟩ := h'
      cases e3
      have z := merge_rel (kv0 := L2.putK kv0 k v) e2 h2 (put_vals (k := k) (v := v) h0 h1)
      rw [← put_keys kv0 ws0 k v w] at z
      exact z
/-- the parts of a display, key, thing, key, thing, .. -/
theorem we_disp {m : Bool} {ks : List (Option Expr)} {vs : List Expr} {trs : List (TE × TE)} {wP : WA} (h : PPs X pos ks vs trs)
    (ht : ∀ τ H Qp, LA X.K Ê wP τ H (fun vs H2 => ∀ prs, vs = flatP prs → Qp prs H2) → tPairs trs τ H Qp) (hall : ks.all (·.isSome) = true) (hl : ks.length = vs.length) (h15 : ks.length ≤ 15) (hn : ks ≠ []) :
    PE X (.Dict ks vs pos) (LE X.K Ê fun σ S Q Y => ∀ p, S p = none → wP σ (S.set p (.dct [] [])) (fun ws S1 => S1 p = some (.dct [] []) ∧ ∃ kws, pairsW ws = some kws ∧ kws.length ≤ 15 ∧
      if m then Q (.ref p) (S1.set p (.dct (mergeW kws).1 (mergeW kws).2)) else Q (.dct (mergeW kws).1 (mergeW kws).2) (S1.del p)) Y) :=
  (pe_disp h hall hl hn h15).imp fun τ H Qh ⟨σ, S, Q, Y, hs, hl, hw, k, hx⟩ p hp => by
    have e0 : Ext H S (upd H p (.dK [])) (S.set p (.dct [] [])) := ext_newS hp
    have l0 : LinkS X.K (upd H p (.dK [])) (S.set p (.dct [] [])) := hl.put e0 ⟨[], rfl, rfl, .nil⟩
    refine ht _ _ _ (LA.mk (hs.ext e0) l0 (hx.ext e0) (hw p (hl.fresh hp)) fun ws S1 vs H1 e1 l1 s1 x1 r1 ⟨hp1, kws, ek, h15, q⟩ prs ev => ?_)
    subst ev
    obtain ⟨o, h1, kvs0, e3, e4, h2⟩ := l1.at_ p _ hp1
    have e5 : kvs0 = [] := by simpa using e4
    subst e5
    subst e3
    obtain ⟨kvs, i1, i2, i3⟩ := pairs_rel r1 ek
    have len : kvs.length = kws.length := by
      have := congrArg List.length i2
      simpa using this
    refine ⟨h1, kvs, i1, by omega, ?_⟩
    obtain ⟨m1, m2⟩ := merge_rel (kv0 := []) (ws0 := []) i2 i3 .nil
    have e6 : Ext H1 S1 (upd H1 p (.dK (mergeK [] kvs))) (S1.set p (.dct (mergeW kws).1 (mergeW kws).2)) := ext_chg hp1
    have l6 := l1.put e6 (⟨_, rfl, m1, m2⟩ : RO X.K H1 S1 (.dct (mergeW kws).1 (mergeW kws).2) (.dK (mergeK [] kvs)))
    have e7 := (e0.trans e1).trans e6
    cases m with
    | true => exact k _ _ _ _ e7 l6 .r q
    | false =>
      have z := RW.frozenD l6 Sto.set_same
      have l7 := l6.del p (nclo_of Sto.set_same)
      have e8 := e7.trans (ext_del (a := p) (nclo_of Sto.set_same))
      have eq : (S1.set p (.dct (mergeW kws).1 (mergeW kws).2)).del p = S1.del p := by
        funext b
        unfold Sto.set Sto.del
        split
        · rfl
        · rename_i hb; exact if_neg hb
      rw [eq] at z l7 e8
      exact k _ _ _ _ e8 l7 z q
theorem we_disp0 {m : Bool} {vs : List Expr} {wP : WA} (ht : ∀ σ S Q Y, wP σ S Q Y → Q [] S) (hv : vs = []) :
    PE X (.Dict [] vs pos) (LE X.K Ê fun σ S Q Y => ∀ p, S p = none → wP σ (S.set p (.dct [] [])) (fun ws S1 => S1 p = some (.dct [] []) ∧ ∃ kws, pairsW ws = some kws ∧ kws.length ≤ 15 ∧
      if m then Q (.ref p) (S1.set p (.dct (mergeW kws).1 (mergeW kws).2)) else Q (.dct (mergeW kws).1 (mergeW kws).2) (S1.del p)) Y) := by
  subst hv
  exact pe_dnewK.imp fun τ H Qh ⟨σ, S, Q, Y, hs, hl, hw, k, hx⟩ p hp => by
    have e0 : Ext H S (upd H p (.dK [])) (S.set p (.dct [] [])) := ext_newS hp
    have l0 : LinkS X.K (upd H p (.dK [])) (S.set p (.dct [] [])) := hl.put e0 ⟨[], rfl, rfl, .nil⟩
    obtain ⟨_, kws, ek, _, q⟩ := ht _ _ _ _ (hw p (hl.fresh hp))
    cases ek
    cases m with
    | true =>
      have q' : Q (.ref p) ((S.set p (.dct [] [])).set p (.dct [] [])) := q
      rw [Sto.set_set] at q'
      exact k _ _ _ _ e0 l0 .r q'
    | false =>
      have z := RW.frozenD l0 Sto.set_same
      exact k _ _ _ _ (e0.trans (ext_del (nclo_of Sto.set_same))) (l0.del p (nclo_of Sto.set_same)) z q
end
/-! ### dict(..), l.count(x), l.index(x) -/
theorem prs_rel {K : PySem.W.Frag} {H : Hp} {S : Sto} : ∀ {xs : List W} {vs : List V} {kws : List (Key × W)}, RWs K H S xs vs → prsW xs = some kws → ∃ (ps : List Addr) (kvs : List (Key × V)), vs = ps.map V.ref ∧
    Paired (fun p kv => SqT K H p [kV kv.1, kv.2]) ps kvs ∧ kvs.map (·.1) = kws.map (·.1) ∧ RWs K H S (kws.map (·.2)) (kvs.map (·.2))
  | [], vs, kws, h, e => by
    unfold RWs at h
    subst h
    cases e
    exact ⟨[], [], rfl, .nil, rfl, .nil⟩
  | x :: r, vs, kws, h, e => by
    unfold RWs at h
    obtain ⟨v, vr, rfl, h1, h2⟩ := h
    unfold prsW at e
    split at e
    · cases ‹x :: r = []›
    · rename_i k w r' heq
      obtain ⟨rfl, rfl⟩ := List.cons.inj heq
      cases q : keyOf k with
      | none => rw [q] at e; cases e
      | some x =>
        rw [q] at e
        cases q2 : prsW r with
        | none => rw [q2] at e; cases e
        | some t =>
          rw [q2] at e
          cases e
          obtain ⟨ps, kvs, i1, i2, i3, i4⟩ := prs_rel h2 q2
          obtain ⟨p, us, rfl, h5, h6⟩ := h1.tup_rd
          unfold RWs at h6
          obtain ⟨kv, ur, rfl, h7, h8⟩ := h6
          unfold RWs at h8
          obtain ⟨y, ur', rfl, h9, h10⟩ := h8
          unfold RWs at h10
          subst h10
          obtain rfl := h7.key q
          exact ⟨p :: ps, (x, y) :: kvs, by rw [i1]; rfl, .cons h5.sq i2, by rw [List.map_cons, i3]; rfl, .cons h9 i4⟩
    · cases e
section
variable {X : Cx}
theorem bi_dict (hc : X.calm = true) : CallR X (.type "dict") (rBi X.K .dict) := by
  intro pins s σ H xs us Q I rv h
  obtain ⟨S, ws, Q', l, r, h, f⟩ := h
  match ws, h with
  | [w], h =>
    obtain ⟨ks, vs, hq, h⟩ := h
    obtain ⟨v, rfl, rw1⟩ := r.one
    rcases hq with hq | ⟨xs', kws, hq, e1, e2⟩
    · obtain ⟨p, kvs, rfl, h1, rfl, h3⟩ := rd_dct l rw1 hq
      exact call_dictD pins s σ H _ us Q I rv ⟨p, kvs, rfl, h1, fun q hq => f _ _ _ _ (ext_newS hq) (l.put (so := .dct (kvs.map (·.1)) vs) (ext_newS hq) ⟨kvs, rfl, rfl, h3⟩) .r (h q (l.fresh hq))⟩
    · obtain ⟨p, vs', rfl, h1, r1⟩ := rd_lst l rw1 hq
      obtain ⟨ps, kvs, rfl, i2, i3, i4⟩ := prs_rel r1 e1
      obtain ⟨m1, m2⟩ := merge_rel (kv0 := []) (ws0 := []) i3 i4 .nil
      have em : (mergeW kws) = (ks, vs) := e2
      have m1' : (mergeK [] kvs).map (·.1) = (mergeW kws).1 := m1
      have m2' : RWs X.K H S (mergeW kws).2 ((mergeK [] kvs).map (·.2)) := m2
      rw [em] at m1' m2'
      exact call_dictP hc pins s σ H _ us Q I rv ⟨p, ps, kvs, rfl, h1, i2, fun q hq => f _ _ _ _ (ext_newS hq) (l.put (so := .dct ks vs) (ext_newS hq) ⟨_, rfl, m1', m2'⟩) .r (h q (l.fresh hq))⟩
theorem okDs_of {ds : List PyData} (h : okDs ds = true) : PyData.plainAll ds = true ∧ PyData.depthAll ds ≤ 60 := by
  unfold okDs at h
  rw [Bool.and_eq_true] at h
  exact ⟨h.1, of_decide_eq_true h.2⟩
theorem okD_of {d : PyData} (h : okD d = true) : d.plain = true ∧ d.depth ≤ 60 := by
  unfold okD at h
  rw [Bool.and_eq_true] at h
  exact ⟨h.1, of_decide_eq_true h.2⟩
theorem mt_cnt (hu : X.A.units + 64 < cLine) : MtR X "list.count" (rMt X.K .count) := by
  intro pins s σ H x xs v us Q I rx rv h
  obtain ⟨S, a, ws, Q', l, ra, r, h, f⟩ := h
  match ws, h with
  | [w], h =>
    obtain ⟨ys, ds, d, e, e1, e2, o1, o2, h⟩ := h
    obtain ⟨p, vs, rfl, h1, r1⟩ := rd_lst l ra e
    obtain ⟨v', rfl, rw1⟩ := r.one
    obtain ⟨u, rfl, ru⟩ := rv.one
    cases rx
    obtain ⟨its, rvs, pl, hlen⟩ := I.list h1
    obtain ⟨as, h4⟩ := Dp.readsAll I ds _ its (RWs.dp _ _ _ r1 e1) rvs
    obtain ⟨bs, h5⟩ := Dp.reads I d v' u (RW.dp _ _ _ rw1 e2) ru
    obtain ⟨k1, k2⟩ := okDs_of o1
    obtain ⟨k3, k4⟩ := okD_of o2
    exact SeqAt.count_list_data (vs := its.toArray) (xs := ds) (as := as) (bs := bs) pl.isList (by simpa using h4) h5 k1 k3 (by have : min (PyData.depthAll ds) d.depth ≤ 60 := Nat.le_trans (Nat.min_le_left _ _) k2; omega) ⟨.int (ds.countP fun y => PyData.eqv y d : Nat), H, I.tok _, ⟨_, rfl⟩, f _ _ _ _ .refl l .i h⟩
theorem mt_idx (hu : X.A.units + 64 < cLine) : MtR X "list.index" (rMt X.K .index) := by
  intro pins s σ H x xs v us Q I rx rv h
  obtain ⟨S, a, ws, Q', l, ra, r, h, f⟩ := h
  match ws, h with
  | [w], h =>
    obtain ⟨ys, ds, d, j, z, e, e1, e2, o1, o2, hz, hzj, hno, h⟩ := h
    obtain ⟨p, vs, rfl, h1, r1⟩ := rd_lst l ra e
    obtain ⟨v', rfl, rw1⟩ := r.one
    obtain ⟨u, rfl, ru⟩ := rv.one
    cases rx
    obtain ⟨its, rvs, ⟨⟨cls, dd, data, sls⟩, n, ho, hc, hdn, hdt⟩, hlen⟩ := I.list h1
    simp only at hc hdt
    subst hc hdt
    obtain ⟨as, h4⟩ := Dp.readsAll I ds _ its (RWs.dp _ _ _ r1 e1) rvs
    have h4' : ReadsAll s.heap its.toArray.toList ds as := by simpa using h4
    obtain ⟨bs, h5⟩ := Dp.reads I d v' u (RW.dp _ _ _ rw1 e2) ru
    obtain ⟨k1, k2⟩ := okDs_of o1
    obtain ⟨k3, k4⟩ := okD_of o2
    have hvl := rvs.length
    have hsl := sizeLine_eq
    have hn : its.length = ds.length := SeqAt.ReadsAll.length ds its as h4
    obtain ⟨hjd, hjz⟩ := List.getElem?_eq_some_iff.mp hz
    have hj : j < its.toArray.size := by rw [List.size_toArray]; omega
    refine call_meets PySem.F.slot_list_index ⟨_, ho, rfl⟩ PySem.F.entry_list_index (PySem.F.args_list_index_2 _ _)
      (SeqAt.list_indexAt p its.toArray n dd sls u (fun u => PyData.eqv (SeqAt.readOf s.heap u) d) j hj (by omega) ?_ ?_) ⟨ho, SeqAt.items_plain h4' h5 k1 k3 (by have : min (PyData.depthAll ds) d.depth ≤ 60 := Nat.le_trans (Nat.min_le_left _ _) k2; show X.A.units + 1 + _ < _; omega), ?_⟩
    · obtain ⟨hm2, e⟩ := SeqAt.readOf_at h4' k1 j hj
      show PyData.eqv (SeqAt.readOf s.heap its.toArray[j]) d = true
      rw [e, hjz]
      exact hzj
    · intro m hm hmj
      obtain ⟨hm2, e⟩ := SeqAt.readOf_at h4' k1 m hm
      show PyData.eqv (SeqAt.readOf s.heap its.toArray[m]) d = false
      rw [e]
      exact hno m _ hmj (List.getElem?_eq_getElem hm2)
    · exact ⟨.int (j : Nat), H, I.tok _, ⟨_, rfl⟩, f _ _ _ _ .refl l .i h⟩
end
end PD

set_option Elab.async false
set_option linter.all false
set_option maxRecDepth 100000
set_option maxHeartbeats 4000000
namespace PD
open PySem PySem.Spec PyProof.Rows L2

/-! ## targets -/
/-- out of the target's reach -/
def keepsT (t : Tg) (τ τ' : L2.St) : Prop := ∀ vs, t.own vs = true → wipe τ' vs = wipe τ vs
def keepsTs (ts : List Tg) (τ τ' : L2.St) : Prop := ∀ vs, Tg.own.owns vs ts = true → wipe τ' vs = wipe τ vs
def LG (K : PySem.W.Frag) (t : Tg) : TG := fun x τ H Qh => ∃ σ S w Q, RSl K H S σ τ ∧ LinkS K H S ∧ RW K H S w x ∧ t.go w σ Q ∧ ∀ σ' τ', RSl K H S σ' τ' → keepsT t τ τ' → Q σ' → Qh τ' H
def LGs (K : PySem.W.Frag) (ts : List Tg) : TGs := fun xs τ H Qh => ∃ σ S ws Q, RSl K H S σ τ ∧ LinkS K H S ∧ RWs K H S ws xs ∧ Tg.go.goAll ts ws σ Q ∧ ∀ σ' τ', RSl K H S σ' τ' → keepsTs ts τ τ' → Q σ' → Qh τ' H
theorem wipe_set_own {τ : L2.St} {i : Nat} {x : Option V} : ∀ {vs : List Nat}, i ∈ vs → wipe (τ.set i x) vs = wipe τ vs
  | v :: vs, h => by
    show (wipe (τ.set i x) vs).set v none = (wipe τ vs).set v none
    by_cases e : v = i
    · subst e
      by_cases hv : v ∈ vs
      · rw [wipe_set_own hv]
      · have gen : ∀ us : List Nat, v ∉ us → wipe (τ.set v x) us = (wipe τ us).set v x := by
          intro us
          induction us with
          | nil => intro _; rfl
          | cons u us ih =>
            intro hn
            have h1 : v ≠ u := fun z => hn (by simp [z])
            have h2 : v ∉ us := fun z => hn (by simp [z])
            show (wipe (τ.set v x) us).set u none = ((wipe τ us).set u none).set v x
            rw [ih h2, List.set_comm _ _ h1]
        rw [gen vs hv, List.set_set]
    · have hv : i ∈ vs := by
        rcases List.mem_cons.mp h with z | z
        · exact absurd z.symm e
        · exact z
      rw [wipe_set_own hv]
theorem pg_imp {X : Cx} {e : Expr} {t t' : TG} (h : PG X e t) (i : ∀ v σ H Q, t' v σ H Q → t v σ H Q) : PG X e t' := ⟨fun pins s σ H v u Q I r q => h.run pins s σ H v u Q I r (i _ _ _ _ q)⟩
theorem pgs_imp {X : Cx} {e : List Expr} {t t' : TGs} (h : PGs X e t) (i : ∀ v σ H Q, t' v σ H Q → t v σ H Q) : PGs X e t' := ⟨fun pins s σ H v u Q I r q => h.run pins s σ H v u Q I r (i _ _ _ _ q)⟩
section
variable {X : Cx} {C : Cn} {Ê : L2.St → XK} {c : Sc} {fr : List Str} {fl : Fl}
theorem RW.tupT {K : PySem.W.Frag} {H : Hp} {S : Sto} {xs : List W} {v : V} (h : RW K H S (.tup xs) v) : ∃ a vs, v = .ref a ∧ SqT K H a vs ∧ RWs K H S xs vs := by
  unfold RW at h
  obtain ⟨a, vs, h1, h2, h3⟩ := h
  exact ⟨a, vs, h1, h2.sq, h3⟩
/-- what a target looks like -/
def tgtB : Expr → Bool
  | .Name _ _ => true
  | .Tuple _ _ _ => true
  | _ => false
theorem tgt_of {N : List Str} {t : Tg} {e : Expr} (h : chkT N c t e = true) : tgtB e = true := by
  cases t <;> cases e <;> first | rfl | (unfold chkT at h; cases h)
theorem each_of {N : List Str} {ts : List Tg} : ∀ {es : List Expr}, chkTs N c ts es = true → ∀ env, (assignEach es env).length = ts.length ∧ (assignEach es env).findIdx? (·.1) = none ∧ (assignEach es env).map (·.2) = es.map fun e => assign e env := by
  induction ts with
  | nil =>
    intro es h env
    cases es with
    | nil => exact ⟨rfl, rfl, rfl⟩
    | cons e es => unfold chkTs at h; cases h
  | cons t ts ih =>
    intro es h env
    cases es with
    | nil => unfold chkTs at h; cases h
    | cons e es =>
      unfold chkTs at h
      obtain ⟨h1, h2⟩ := ba2 h
      obtain ⟨i1, i2, i3⟩ := ih h2 env
      have e1 : assignEach (e :: es) env = (false, assign e env) :: assignEach es env := by
        have := tgt_of h1
        cases e <;> first | rfl | cases this
      rw [e1]
      refine ⟨by simp [i1], ?_, by simp [i3]⟩
      rw [List.findIdx?_cons]
      simp [i2]
mutual
theorem sT (o : Ok X C Ê c fr fl) : ∀ (t : Tg) (e : Expr), chkT X.N c t e = true → PG X e (LG X.K t)
  | .name i, e, h => by
    cases e <;> first | (unfold chkT at h; cases h; done) | skip
    unfold chkT at h
    obtain ⟨h1, h2⟩ := ba2 h
    obtain ⟨hl, hf⟩ := o.loc h2
    exact pg_imp (pg_name o.nd (by simpa using h1) hl hf) fun v τ H Q ⟨σ, S, w, Q', hs, hl, r, ⟨hi, q⟩, k⟩ =>
      k _ _ (hs.set i r) (fun vs ho => wipe_set_own (by simpa [Tg.own] using ho)) q
  | .tup ts, e, h => by
    cases e <;> first | (unfold chkT at h; cases h; done) | skip
    unfold chkT at h
    obtain ⟨i1, i2, i3⟩ := each_of h X.env
    exact pg_imp (pg_tup o.calm (sTs o ts _ h) i1 i2) fun v τ H Q ⟨σ, S, w, Q', hs, hl, r, ⟨ws, ew, len, q⟩, k⟩ => by
      subst ew
      obtain ⟨a, vs, rfl, h1, h2⟩ := r.tupT
      exact ⟨a, vs, rfl, h1, by rw [← h2.len]; exact len, σ, S, ws, Q', hs, hl, h2, q, k⟩
theorem sTs (o : Ok X C Ê c fr fl) : ∀ (ts : List Tg) (es : List Expr), chkTs X.N c ts es = true → PGs X es (LGs X.K ts)
  | [], es, h => by
    cases es with
    | cons e es => unfold chkTs at h; cases h
    | nil =>
      exact pgs_imp pgs_nil fun vs τ H Q ⟨σ, S, ws, Q', hs, hl, r, ⟨ew, q⟩, k⟩ => by
        subst ew
        unfold RWs at r
        exact ⟨r, k _ _ hs (fun us _ => rfl) q⟩
  | t :: ts, es, h => by
    cases es with
    | nil => unfold chkTs at h; cases h
    | cons e es =>
      obtain ⟨_, _, i3⟩ := each_of h X.env
      unfold chkTs at h
      obtain ⟨h1, h2⟩ := ba2 h
      obtain ⟨_, _, i4⟩ := each_of h2 X.env
      exact pgs_imp (pgs_cons (sT o t e h1) (sTs o ts es h2) (by rw [i3, i4]; rfl)) fun vs τ H Q ⟨σ, S, ws, Q', hs, hl, r, ⟨w, r', ew, q⟩, k⟩ => by
        subst ew
        unfold RWs at r
        obtain ⟨v, vr, ev, r1, r2⟩ := r
        refine ⟨v, vr, ev, σ, S, w, _, hs, hl, r1, q, fun σ' τ' hs' kt q' => ⟨σ', S, r', Q', hs', hl, r2, q', fun σ2 τ2 hs2 kt2 q2 => k _ _ hs2 (fun us hu => ?_) q2⟩⟩
        have hu' : (Tg.own us t && Tg.own.owns us ts) = true := hu
        obtain ⟨u1, u2⟩ := ba2 hu'
        rw [kt2 us u2, kt us u1]
end
end
end PD

set_option Elab.async false
set_option linter.all false
set_option maxRecDepth 100000
set_option maxHeartbeats 4000000
namespace PD
open PySem PySem.Spec PyProof.Rows L2

/-! ## what is walked over -/
/-- an iterator of these things, from now on -/
def JIt (K : PySem.W.Frag) (J : L2.It) (H : Hp) (S : Sto) (ws : List W) : Prop := ∀ H1 S1, Ext H S H1 S1 → LinkS K H1 S1 →
  (∀ i w, ws[i]? = some w → J.go i H1 ∧ ∀ x H2, J.yld i H1 x H2 → Ext H1 S1 H2 S1 ∧ LinkS K H2 S1 ∧ RW K H2 S1 w x) ∧ J.stop ws.length H1
abbrev WI := Sl → Sto → (List W → Sto → Prop) → QW → Prop
def LI (K : PySem.W.Frag) (Ê : L2.St → XK) (w : WI) : TI := fun τ H R => ∃ σ S Q X, RSl K H S σ τ ∧ LinkS K H S ∧ w σ S Q X ∧
  (∀ ws S' J H', Ext H S H' S' → LinkS K H' S' → JIt K J H' S' ws → Q ws S' → R J H') ∧ XO K (Ê τ) H S X
section
variable {K : PySem.W.Frag} {H : Hp} {S : Sto}
theorem jit_list {a : Addr} {vs : List V} {ws : List W} (h : RdL K H S a vs) (r : RWs K H S ws vs) : JIt K (Itl K a) H S ws := fun H1 S1 e l => by
  have h1 := h.ext e
  have r1 := RWs.ext e _ _ r
  refine ⟨fun i w hw => ?_, ⟨vs, h1.sq, by rw [r1.len]; exact Nat.le_refl _⟩⟩
  · obtain ⟨v, hv, rv⟩ := r1.get hw
    exact ⟨⟨vs, v, h1.sq, hv⟩, fun x H2 ⟨e2, hx⟩ => by
      subst e2
      have z := hx vs h1.sq
      rw [hv] at z; cases z
      exact ⟨.refl, l, rv⟩⟩
theorem jit_tup {a : Addr} {vs : List V} {ws : List W} (h : RdT K H S a vs) (r : RWs K H S ws vs) : JIt K (Itt K a) H S ws := fun H1 S1 e l => by
  have h1 := h.ext e
  have r1 := RWs.ext e _ _ r
  refine ⟨fun i w hw => ?_, ⟨vs, h1.sq, by rw [r1.len]; exact Nat.le_refl _⟩⟩
  · obtain ⟨v, hv, rv⟩ := r1.get hw
    exact ⟨⟨vs, v, h1.sq, hv⟩, fun x H2 ⟨e2, hx⟩ => by
      subst e2
      have z := hx vs h1.sq
      rw [hv] at z; cases z
      exact ⟨.refl, l, rv⟩⟩
theorem jit_rng {lo : Int} {n : Nat} : JIt K (Itr lo n) H S (rgW lo n) := fun H1 S1 e l => by
  refine ⟨fun i w hw => ?_, (by simp [rgW] : n ≤ (rgW lo n).length)⟩
  · have hi : i < n := by
      have := (List.getElem?_eq_some_iff.mp hw).1
      simpa [rgW] using this
    unfold rgW at hw
    rw [List.getElem?_map, List.getElem?_range hi] at hw
    cases hw
    exact ⟨hi, fun x H2 ⟨e2, hx⟩ => by subst e2; subst hx; exact ⟨.refl, l, .i⟩⟩
theorem jit_str {x : Str} : JIt K (Its x) H S (signs x) := fun H1 S1 e l => by
  refine ⟨fun i w hw => ?_, (by simp [signs] : x.cps.size ≤ (signs x).length)⟩
  · unfold signs at hw
    rw [List.getElem?_map] at hw
    cases q : x.cps.toList[i]? with
    | none => rw [q] at hw; cases hw
    | some c =>
      rw [q] at hw; cases hw
      have q' : x.cps[i]? = some c := by simpa using q
      have hi : i < x.cps.size := by
        have := (List.getElem?_eq_some_iff.mp q).1
        simpa using this
      refine ⟨hi, fun y H2 ⟨e2, c', hc, hy⟩ => ?_⟩
      subst e2; subst hy
      rw [q'] at hc; cases hc
      exact ⟨.refl, l, .s⟩
theorem lock_ext {K : PySem.W.Frag} {H : Hp} {S : Sto} {a : Addr} {od : Obj} {kvs : List (Key × V)} (l : LinkS K H S) (h : H a = some (.dK kvs)) (n : S a = none) : Ext H S (upd H a (.frz od (.dK kvs))) S := ⟨fun b ob hb hn => by
    by_cases e : b = a
    · subst e
      rw [h] at hb; cases hb
      exact ⟨.inr (.inl ⟨True.intro, od, upd_same⟩), hn⟩
    · exact ⟨.inl (by rw [upd_ne e]; exact hb), hn⟩, fun b r hb => ⟨hb, fun o ho => by
    have ne : b ≠ a := fun z => by subst z; rw [n] at hb; cases hb
    rw [upd_ne ne]; exact ho⟩, fun _ _ h => h⟩
theorem LinkS.lock {K : PySem.W.Frag} {H : Hp} {S : Sto} {a : Addr} {od : Obj} {kvs : List (Key × V)} (l : LinkS K H S) (h : H a = some (.dK kvs)) (n : S a = none) : LinkS K (upd H a (.frz od (.dK kvs))) S := by
  have ne : ∀ b u, H b = some u → (∀ kvs, u ≠ .dK kvs) → b ≠ a := fun b u hb nu z => by subst z; rw [h] at hb; cases hb; exact nu _ rfl
  refine ⟨fun b so hb => ?_, fun t ht => ?_, l.sa⟩
  · obtain ⟨ob, h3, h4⟩ := l.at_ b so hb
    have hne : b ≠ a := fun e => by subst e; rw [n] at hb; cases hb
    exact ⟨ob, by rw [upd_ne hne]; exact h3, h4.ext (lock_ext l h n)⟩
  · obtain ⟨ps, h1, h2, h3⟩ := l.tab t ht
    refine ⟨ps, by rw [upd_ne (ne _ _ h1 (fun _ z => nomatch z))]; exact h1, h2, fun pos cv hc => ?_⟩
    obtain ⟨c, e1, e2⟩ := h3 pos cv hc
    exact ⟨c, e1, by rw [upd_ne (ne _ _ e2 (fun _ z => nomatch z))]; exact e2⟩
theorem jit_keys {a : Addr} {od : Obj} {kvs : List (Key × V)} (h : H a = some (.frz od (.dK kvs))) (hs : S a = none) : JIt K (Itk a od kvs) H S ((kvs.map (·.1)).map kW) := fun H1 S1 e l => by
  have h1 : H1 a = some (.frz od (.dK kvs)) := by
    exact (e.st a _ h hs).1.plain (fun z => z.elim) (fun _ z => nomatch z)
  refine ⟨fun i w hw => ?_, ⟨h1, by simp⟩⟩
  · rw [List.getElem?_map, List.getElem?_map] at hw
    cases q : kvs[i]? with
    | none => rw [q] at hw; cases hw
    | some p =>
      rw [q] at hw; cases hw
      refine ⟨⟨h1, (List.getElem?_eq_some_iff.mp q).1⟩, fun x H2 ⟨e2, k, v, hk, hx⟩ => ?_⟩
      subst e2; subst hx
      rw [q] at hk; cases hk
      refine ⟨.refl, l, ?_⟩
      cases k <;> (show RW _ _ _ (kW _) _) <;> first | exact RW.i | exact RW.s
theorem new_pair {H1 : Hp} {S1 : Sto} {T : Addr} {x y : V} {w u : W} (l : LinkS K H1 S1) (hT : H1 T = none) (r1 : RW K H1 S1 w x) (r2 : RW K H1 S1 u y) :
    Ext H1 S1 (upd H1 T (.tup [x, y])) S1 ∧ LinkS K (upd H1 T (.tup [x, y])) S1 ∧ RW K (upd H1 T (.tup [x, y])) S1 (.tup [w, u]) (.ref T) := by
  have e : Ext H1 S1 (upd H1 T (.tup [x, y])) S1 := ext_new hT
  refine ⟨e, l.new hT, ?_⟩
  unfold RW
  exact ⟨T, [x, y], rfl, .inl ⟨.inl upd_same, l.fresh hT⟩, .cons (r1.ext e) (.cons (r2.ext e) .nil)⟩
theorem enumW_get {xs : List W} {i : Nat} : (enumW xs)[i]? = xs[i]?.map fun x => W.tup [.int i, x] := by
  unfold enumW
  rw [List.getElem?_map, List.getElem?_zipIdx]
  cases xs[i]? <;> simp
theorem jit_enumL {a : Addr} {vs : List V} {ws : List W} (h : RdL K H S a vs) (r : RWs K H S ws vs) : JIt K (Ite K a) H S (enumW ws) := fun H1 S1 e l => by
  have h1 := h.ext e
  have r1 := RWs.ext e _ _ r
  refine ⟨fun i w hw => ?_, ⟨vs, h1.sq, by rw [← r1.len]; simp [enumW]⟩⟩
  · rw [enumW_get] at hw
    cases q : ws[i]? with
    | none => rw [q] at hw; cases hw
    | some u =>
      rw [q] at hw; cases hw
      obtain ⟨v, hv, rv⟩ := r1.get q
      refine ⟨⟨vs, v, h1.sq, hv⟩, fun x H2 ⟨T, y, ex, hT, e2, hy⟩ => ?_⟩
      subst ex; subst e2
      have z := hy vs h1.sq
      rw [hv] at z; cases z
      exact new_pair l hT .i rv
theorem zipWW_get {xs ys : List W} {i : Nat} : (zipWW xs ys)[i]? = match xs[i]?, ys[i]? with
    | some x, some y => some (W.tup [x, y])
    | _, _ => none := by
  unfold zipWW
  rw [List.getElem?_map, List.zip, List.getElem?_zipWith]
  cases xs[i]? <;> cases ys[i]? <;> rfl
theorem jit_zipL {a b : Addr} {vs us : List V} {xs ys : List W} (h : RdL K H S a vs) (r : RWs K H S xs vs) (h' : RdL K H S b us) (r' : RWs K H S ys us) : JIt K (Itz K a b) H S (zipWW xs ys) := fun H1 S1 e l => by
  have h1 := h.ext e
  have r1 := RWs.ext e _ _ r
  have h1' := h'.ext e
  have r1' := RWs.ext e _ _ r'
  refine ⟨fun i w hw => ?_, ⟨vs, us, h1.sq, h1'.sq, by rw [← r1.len, ← r1'.len]; simp [zipWW]; omega⟩⟩
  · rw [zipWW_get] at hw
    cases q : xs[i]? with
    | none => rw [q] at hw; cases hw
    | some u =>
      cases q' : ys[i]? with
      | none => rw [q, q'] at hw; cases hw
      | some u' =>
        rw [q, q'] at hw; cases hw
        obtain ⟨v, hv, rv⟩ := r1.get q
        obtain ⟨v', hv', rv'⟩ := r1'.get q'
        refine ⟨⟨vs, us, v, v', h1.sq, h1'.sq, hv, hv'⟩, fun x H2 ⟨T, y, y', ex, hT, e2, hy, hy'⟩ => ?_⟩
        subst ex; subst e2
        have z := hy vs h1.sq
        rw [hv] at z; cases z
        have z := hy' us h1'.sq
        rw [hv'] at z; cases z
        exact new_pair l hT rv rv'
theorem jit_zipT {a b : Addr} {vs us : List V} {xs ys : List W} (h : RdT K H S a vs) (r : RWs K H S xs vs) (h' : RdT K H S b us) (r' : RWs K H S ys us) : JIt K (RZ.ItzT K a b) H S (zipWW xs ys) := fun H1 S1 e l => by
  have h1 := h.ext e
  have r1 := RWs.ext e _ _ r
  have h1' := h'.ext e
  have r1' := RWs.ext e _ _ r'
  refine ⟨fun i w hw => ?_, ⟨vs, us, h1.sq, h1'.sq, by rw [← r1.len, ← r1'.len]; simp [zipWW]; omega⟩⟩
  · rw [zipWW_get] at hw
    cases q : xs[i]? with
    | none => rw [q] at hw; cases hw
    | some u =>
      cases q' : ys[i]? with
      | none => rw [q, q'] at hw; cases hw
      | some u' =>
        rw [q, q'] at hw; cases hw
        obtain ⟨v, hv, rv⟩ := r1.get q
        obtain ⟨v', hv', rv'⟩ := r1'.get q'
        refine ⟨⟨vs, us, v, v', h1.sq, h1'.sq, hv, hv'⟩, fun x H2 ⟨T, y, y', ex, hT, e2, hy, hy'⟩ => ?_⟩
        subst ex; subst e2
        have z := hy vs h1.sq
        rw [hv] at z; cases z
        have z := hy' us h1'.sq
        rw [hv'] at z; cases z
        exact new_pair l hT rv rv'
end
section
variable {X : Cx} {C : Cn} {Ê : L2.St → XK} {c : Sc} {fr : List Str} {fl : Fl} {wa wb : PD.WE} {was : WA} {pa pb tg : Expr} {ps : List Expr} {pos p : Pos}
theorem _root_.L2.PI.imp' {X : Cx} {tg e : Expr} {t t' : TI} (h : PI X tg e t) (i : ∀ σ H Q, t' σ H Q → t σ H Q) : PI X tg e t' := ⟨fun pins s σ H Q I q => h.run pins s σ H Q I (i _ _ _ q)⟩
theorem RW.tupR {K : PySem.W.Frag} {H : Hp} {S : Sto} {xs : List W} {v : V} (h : RW K H S (.tup xs) v) : ∃ a vs, v = .ref a ∧ RdT K H S a vs ∧ RWs K H S xs vs := by
  unfold RW at h; exact h
theorem RW.lstR {K : PySem.W.Frag} {H : Hp} {S : Sto} {xs : List W} {v : V} (h : RW K H S (.lst xs) v) : ∃ a vs, v = .ref a ∧ RdL K H S a vs ∧ RWs K H S xs vs := by
  unfold RW at h; exact h
theorem RW.dctR {K : PySem.W.Frag} {H : Hp} {S : Sto} {ks : List Key} {ws : List W} {v : V} (h : RW K H S (.dct ks ws) v) : ∃ a kvs, v = .ref a ∧ S a = none ∧ Rd H a (.dK kvs) ∧ kvs.map (·.1) = ks ∧ RWs K H S ws (kvs.map (·.2)) := by
  unfold RW at h; exact h
/-- a thing walked over -/
theorem wi_ex (ha : PE X pa (LE X.K Ê wa)) : PI X tg pa (LI X.K Ê fun σ S Q Y => wa σ S (fun w S1 => ∃ xs, itemsW w = some xs ∧ Q xs S1) Y) := by
  refine ⟨fun pins s τ H R I ⟨σ, S, Q, Y, hs, hl, hw, k, hx⟩ => ?_⟩
  refine thn (ha.run pins s τ H _ I (LE.mk hs hl hx hw fun w S1 v H1 e1 l1 s1 x1 r1 q1 => (⟨S1, w, e1, l1, r1, q1⟩ : ∃ S1 w, Ext H S H1 S1 ∧ LinkS X.K H1 S1 ∧ RW X.K H1 S1 w v ∧ ∃ xs, itemsW w = some xs ∧ Q xs S1))) fun u s1 ⟨v, H1, I1, ru, S1, w, e1, l1, r1, xs, ex, q⟩ => ?_
  cases w <;> first | (cases ex; done) | skip
  case str x =>
    cases ex
    obtain rfl : v = V.str x := by unfold RW at r1; exact r1
    obtain ⟨t, rfl⟩ := ru
    cases ha : x.cps.all (· < 128)
    · exact wpAny_pyIter_wide ha (pi_one (tk := s1.toks) I1 _ (turn_str _ x t "str_iterator" (.inr rfl)) ⟨_, Heap.get?_push_size _ rfl, rfl, rfl⟩ (k _ _ _ _ e1 l1 jit_str q))
    · exact wpAny_pyIter_ascii ha (pi_one (tk := s1.toks) I1 _ (turn_str _ x t "str_ascii_iterator" (.inl rfl)) ⟨_, Heap.get?_push_size _ rfl, rfl, rfl⟩ (k _ _ _ _ e1 l1 jit_str q))
  case tup ys =>
    cases ex
    obtain ⟨a, vs, rfl, h1, h2⟩ := r1.tupR
    cases ru
    obtain ⟨its, rv, p, hz⟩ := I1.tuple h1.sq
    exact wpAny_pyIter_tuple (show s1.heap.IsTuple a its.toArray from p) (pi_one (tk := s1.toks) I1 _ (turn_tuple a _) ⟨_, Heap.get?_push_size _ rfl, rfl, rfl⟩ (k _ _ _ _ e1 l1 (jit_tup h1 h2) q))
  case lst ys =>
    cases ex
    obtain ⟨a, vs, rfl, h1, h2⟩ := r1.lstR
    cases ru
    obtain ⟨its, rv, p, hz⟩ := I1.list h1.sq
    exact wpAny_pyIter_list p.isList (pi_one (tk := s1.toks) I1 _ (turn_list a _) ⟨_, Heap.get?_push_size _ rfl, rfl, rfl⟩ (k _ _ _ _ e1 l1 (jit_list h1 h2) q))
  case dct ks ws =>
    cases ex
    obtain ⟨a, kvs, rfl, h0, h1, rfl, h2⟩ := r1.dctR
    cases ru
    -- locked from now on
    obtain ⟨od, H2, I2, hd, e2, l2⟩ : ∃ od H2, Inv X pins τ H2 s1 ∧ H2 a = some (.frz od (.dK kvs)) ∧ Ext H1 S1 H2 S1 ∧ LinkS X.K H2 S1 := by
      rcases h1 with h1 | ⟨od, h1⟩
      · obtain ⟨od, I2⟩ := I1.lock h1 True.intro
        exact ⟨od, _, I2, upd_same, lock_ext l1 h1 h0, l1.lock h1 h0⟩
      · exact ⟨od, H1, I1, h1, .refl, l1⟩
    obtain ⟨hs', hgd, hx', es, ep, vs, hdt, hsz, kv, hm⟩ := I2.frzK hd
    refine iter_keys hs' hgd hx' hdt (pi_one (tk := s1.toks) I2 _ (turn_keys _ hdt) ⟨_, Heap.get?_push_size _ rfl, rfl, ?_⟩ (k _ _ _ _ (e1.trans e2) l2 (jit_keys hd h0) q))
    rw [hsz] <;> rfl
theorem wi_rng1 {q : Pos} (hg : Gl X "range") (hm : X.mg "range" = none) (hst : starEach [pa] X.env = [(false, eval pa X.env)]) (ha : PE X pa (LE X.K Ê wa)) :
    PI X tg (.Call (.Name "range" q) [pa] [] pos) (LI X.K Ê fun σ S Q Y => wa σ S (fun x S1 => ∃ j, x = .int j ∧ -(2 ^ 62) ≤ j ∧ j < 2 ^ 62 ∧ Q (rgW 0 j.toNat) S1) Y) :=
  (pi_range1 hg hm (pa_cons ha pa_nil hst) hst).imp' fun τ H R ⟨σ, S, Q, Y, hs, hl, hw, k, hx⟩ => LE.mk hs hl hx hw fun x S1 v H1 e1 l1 s1 x1 r1 ⟨j, ew, h1, h2, q⟩ => by
    subst ew
    obtain rfl := r1.int_
    exact ⟨j, rfl, h1, h2, k _ _ _ _ e1 l1 jit_rng q⟩
theorem wi_rng2 {q : Pos} (hg : Gl X "range") (hm : X.mg "range" = none) (hs1 : starEach [pa, pb] X.env = [(false, eval pa X.env), (false, eval pb X.env)]) (hs2 : starEach [pb] X.env = [(false, eval pb X.env)]) (ha : PE X pa (LE X.K Ê wa)) (hb : PE X pb (LE X.K Ê wb)) :
    PI X tg (.Call (.Name "range" q) [pa, pb] [] pos) (LI X.K Ê fun σ S Q Y => wa σ S (fun x S1 => wb σ S1 (fun y S2 => ∃ i j, x = .int i ∧ y = .int j ∧ (-(2 ^ 62) ≤ i ∧ i < 2 ^ 62 ∧ -(2 ^ 62) ≤ j ∧ j < 2 ^ 62) ∧ Q (rgW i (j - i).toNat) S2) Y) Y) :=
  (pi_range2 hg hm (pa_cons ha (pa_cons hb pa_nil hs2) (by rw [hs1, hs2])) hs1 hs2).imp' fun τ H R ⟨σ, S, Q, Y, hs, hl, hw, k, hx⟩ => LE.mk hs hl hx hw fun x S1 v H1 e1 l1 s1 x1 r1 q1 => LE.mk s1 l1 x1 q1 fun y S2 u H2 e2 l2 s2 x2 r2 ⟨i, j, ex, ey, hb, q⟩ => by
    subst ex; subst ey
    obtain rfl := r1.int_
    obtain rfl := r2.int_
    exact ⟨i, j, rfl, hb, k _ _ _ _ (e1.trans e2) l2 jit_rng q⟩
theorem wi_zip {q tpos : Pos} {elts : List Expr} {kk : Nat} (hg : Gl X "zip") (hm : X.mg "zip" = none) (hs1 : starEach [pa, pb] X.env = (false, eval pa X.env) :: starEach [pb] X.env) (hs2 : starEach [pb] X.env = [(false, eval pb X.env)])
    (hpl : (backTo pos (starEach [pb] X.env)).any (·.1) = false) (ha : PE X pa (LE X.K Ê wa)) (hb : PE X pb (LE X.K Ê wb)) :
    PI X (.Tuple elts kk tpos) (.Call (.Name "zip" q) [pa, pb] [] pos) (LI X.K Ê fun σ S Q Y => wa σ S (fun x S1 => wb σ S1 (fun y S2 => ∃ xs ys, ((x = .lst xs ∧ y = .lst ys) ∨ (x = .tup xs ∧ y = .tup ys)) ∧ Q (zipWW xs ys) S2) Y) Y) :=
  (RZ.pi_zipA hg hm (pa_cons ha (pa_cons hb pa_nil hs2) hs1) hs1 hpl).imp' fun τ H R ⟨σ, S, Q, Y, hs, hl, hw, k, hx⟩ => LE.mk hs hl hx hw fun x S1 v H1 e1 l1 s1 x1 r1 q1 => LE.mk s1 l1 x1 q1 fun y S2 u H2 e2 l2 s2 x2 r2 ⟨xs, ys, hxy, q⟩ => by
    rcases hxy with ⟨ex, ey⟩ | ⟨ex, ey⟩
    · subst ex; subst ey
      obtain ⟨a, vs, rfl, h1, h2⟩ := (r1.ext e2).lstR
      obtain ⟨b, us, rfl, h3, h4⟩ := r2.lstR
      exact ⟨a, b, vs, us, rfl, .inl ⟨h1.sq, h3.sq, k _ _ _ _ (e1.trans e2) l2 (jit_zipL h1 h2 h3 h4) q⟩⟩
    · subst ex; subst ey
      obtain ⟨a, vs, rfl, h1, h2⟩ := (r1.ext e2).tupR
      obtain ⟨b, us, rfl, h3, h4⟩ := r2.tupR
      exact ⟨a, b, vs, us, rfl, .inr ⟨h1.sq, h3.sq, k _ _ _ _ (e1.trans e2) l2 (jit_zipT h1 h2 h3 h4) q⟩⟩
end

/-! ### enumerate, of a tuple too -/
section
variable {prog : Program} {w : World} {A : Around} {E : Value → Shared → Prop} {s : Shared}
set_option maxHeartbeats 4000000 in
/-- enumerate(v) over whatever begins -/
theorem enumNew {v : Value} {ob : Obj} {Hb : Heap → Prop} (B : Begins v ob Hb) : Meets (Builtin.«enumerate.__new__» ⟨[.type "enumerate", v], []⟩) (fun _ R s => Hb s.heap ∧
    R (.ok (.ret (.ref (s.heap.push ob).objs.size))) { s with heap := (s.heap.push ob).push { cls := .type "enumerate", data := .fields #[.none, .bool false, .ref s.heap.objs.size, rawInt 0, .none, .none] } }) :=
  Meets.of_wp fun prg wd Ar R' sh hh => by
    obtain ⟨hp, g, d, tk, os⟩ := sh
    obtain ⟨hb, hr⟩ := hh
    have subE := sub_enumerate
    have its : ∀ {Ar' : Around} {E' : Value → Shared → Prop} {Q' : Value → Shared → Prop}, Q' (.ref hp.objs.size) ⟨hp.push ob, g, d, tk, os⟩ → wpAny (model prg wd) Ar' (pyIter v) Q' E' ⟨hp, g, d, tk, os⟩ := fun z => B.iter prg wd _ _ ⟨hp, g, d, tk, os⟩ _ hb z
    wp_walk using its
    refine wpAny_stack_any fun fr => wpAny_pure ?_
    split
    · rename_i cv _ _ _ _ _
      cases (cv == Value.type "enumerate") <;> (wp_walk using its; exact ⟨_, rfl, hr⟩)
    · wp_walk using its
      exact ⟨_, rfl, hr⟩
theorem enumT_call {t : Addr} {items : Array Value} {Q : Value → Shared → Prop} (hT : s.heap.IsTuple t items)
    (h : ∀ h', IsEnum h' (s.heap.objs.size + 1) s.heap.objs.size 0 .none → h'.IsTupleIter s.heap.objs.size t 0 → (∀ b o, s.heap.get? b = some o → h'.get? b = some o) → Q (.ref (s.heap.objs.size + 1)) { s with heap := h' }) :
    wpAny (model prog w) A (call (.type "enumerate") [.ref t]) Q E s := by
  refine callType_new F.called_enumerate (by decide) (F.typeCall_enumerate_1 _) (F.newCall_enumerate_1 _) (fun obj => F.args_object_init_2 obj _) F.entry_enumerate_new (enumNew (begins_tuple t items)) ⟨hT, ?_⟩
  have sz : (s.heap.push { cls := .type "tuple_iterator", data := .fields #[.ref t, .int 0 0] }).objs.size = s.heap.objs.size + 1 := Heap.size_push ..
  show _ ∧ _
  rw [sz]
  have en : IsEnum ((s.heap.push { cls := .type "tuple_iterator", data := .fields #[.ref t, .int 0 0] }).push { cls := .type "enumerate", data := .fields #[.none, .bool false, .ref s.heap.objs.size, rawInt 0, .none, .none] }) (s.heap.objs.size + 1) s.heap.objs.size 0 .none := by
    have z := Heap.get?_push_size (s.heap.push { cls := .type "tuple_iterator", data := .fields #[.ref t, .int 0 0] }) (o := { cls := .type "enumerate", data := .fields #[.none, .bool false, .ref s.heap.objs.size, rawInt 0, .none, .none] }) rfl
    rw [sz] at z
    exact z
  exact ⟨⟨_, en, rfl⟩, h _ en ⟨_, Heap.get?_push_of_some _ (Heap.get?_push_size _ rfl), rfl, rfl⟩ fun b o z => Heap.get?_push_of_some _ (Heap.get?_push_of_some _ z)⟩
end
/-- the tuple's things, each in a new pair -/
def ItT (K : PySem.W.Frag) (a : Addr) : L2.It :=
  ⟨fun i H => ∃ (xs : List V) (x : V), SqT K H a xs ∧ xs[i]? = some x, fun i H v H' => ∃ T x, v = .ref T ∧ H T = none ∧ H' = upd H T (.tup [.int (i : Nat), x]) ∧ ∀ xs, SqT K H a xs → xs[i]? = some x, fun i H => ∃ xs : List V, SqT K H a xs ∧ xs.length = i⟩
theorem turnET {P : Program} {w : World} {K : PySem.W.Frag} {elts : List Expr} {kk : Nat} {tpos : Pos} (a e it : Addr) :
    Turn P w K (.Tuple elts kk tpos) (ItT K a) [e, it] e (fun i h => (∃ old, IsEnum h e it ((i : Nat) : Int) old) ∧ h.IsTupleIter it a i ∧ e ≠ it) where
  mem := List.mem_cons_self ..
  obj := fun i h st b hb => by
    obtain ⟨⟨old, h1⟩, ⟨o, ho, hc, hd⟩, _⟩ := st
    rcases (show b = e ∨ b = it by simpa using hb) with z | z
    · subst z; exact ⟨_, h1, fun v q => nomatch q⟩
    · subst z; exact ⟨o, ho, fun v q => by rw [hd] at q; cases q⟩
  keep := fun i h h' st kp => by
    obtain ⟨⟨old, h1⟩, h2, h3⟩ := st
    exact ⟨⟨old, kp e (by simp) _ h1⟩, h2.at fun o q => kp it (by simp) o q, h3⟩
  item := by
    intro X hP hw hK hc i pins s σ H E I hf st hg
    subst hP hw hK
    obtain ⟨⟨old, h1⟩, h2, h3⟩ := st
    obtain ⟨xs, x, hq, hx⟩ := hg
    obtain ⟨its, rv, pt, hz⟩ := I.tuple hq
    obtain ⟨u, hu, ru⟩ := rv.get hx
    have le : e < s.heap.objs.size := Heap.lt_size h1
    have li : it < s.heap.objs.size := by obtain ⟨_, q, _⟩ := h2; exact Heap.lt_size q
    have hT : s.heap.IsTuple a its.toArray := pt
    have nai : a ≠ it := fun z => by
      obtain ⟨o1, q1, c1, _⟩ := h2
      obtain ⟨o2, q2, c2, _⟩ := pt
      rw [z, q1] at q2; cases q2
      rw [c1] at c2; injection c2 with z3; exact absurd z3 (by decide)
    have nea : e ≠ a := fun z => by
      obtain ⟨o2, q2, c2, _⟩ := pt
      have h1' : s.heap.get? e = some _ := h1
      rw [z, q2] at h1'; cases h1'
      injection c2 with z3; exact absurd z3 (by decide)
    have dr := Draws.tuple (prog := X.prog) (w := X.w) (A := X.A.in1) (I.ok.hd hc) it a nai its.toArray
    have hlt : i < its.toArray.size := by
      have := (List.getElem?_eq_some_iff.mp hu).1
      simpa using this
    refine wpAny_pyNext_enum_itemD dr h1 ⟨h2, hT⟩ hlt h3 (by simp [h3, nea]) fun y h' tk hy ho st' hnew _ hk => ?_
    have hyu : y = u := by
      have z : its.toArray[i]? = some y := hy
      rw [List.getElem?_toArray, hu] at z
      cases z; rfl
    subst hyu
    refine ⟨_, rfl, wpAny_letOwnedTupleGo_enum (s := { s with heap := h', toks := tk + 1 }) ho fun h'' he' sb => ?_⟩
    have hnew2 := (sb.2 _ (Nat.ne_of_gt le)).trans hnew
    have new : ObjOk X.prog X.w (upd H s.heap.objs.size (.tup [.int (i : Nat), x])) h'' s.heap.objs.size (.tup [.int (i : Nat), x]) :=
      ⟨(by decide : 2 ≤ sizeLine), [.int i tk, y], Paired.cons ⟨_, rfl⟩ (Paired.cons ru Paired.nil), ⟨_, hnew2, rfl, _, rfl⟩⟩
    have I1 : Inv X pins σ (upd H s.heap.objs.size (.tup [.int (i : Nat), x])) { s with heap := h'', toks := tk + 1 } :=
      Inv.turnedNew (ch := [e, it]) I (fun b ob hb q => (sb.2 b fun z => hb (by simp [z])).trans (hk b ob (fun z => hb (by simp [z])) (fun z => hb (by simp [z])) q)) hf (Nat.le_refl _) new
    refine ⟨.ref s.heap.objs.size, _, I1, rfl, ⟨_, x, rfl, I.hok.fresh (Nat.le_refl _), rfl, fun ys hy => by rw [I.tuple_inj hy hq]; exact hx⟩, ⟨⟨y, ?_⟩, st'.1.at fun o q => (sb.2 it h3.symm).trans q, h3⟩, fun b hb => ?_⟩
    · rw [show ((i + 1 : Nat) : Int) = (i : Int) + 1 by omega]
      exact he'
    · have lb : b < s.heap.objs.size := by
        rcases (show b = e ∨ b = it by simpa using hb) with z | z
        · rw [z]; exact le
        · rw [z]; exact li
      rw [upd_ne (Nat.ne_of_lt lb)]
      exact (hf b hb).1
  done := by
    intro X hP hw hK hc i pins s σ H E I hf st hg
    subst hP hw hK
    obtain ⟨⟨old, h1⟩, h2, h3⟩ := st
    obtain ⟨xs, hq, hx⟩ := hg
    obtain ⟨its, rv, pt, hz⟩ := I.tuple hq
    obtain ⟨f0, f1, f2, f3, f4, f5⟩ := hf it (by simp)
    have hl := rv.length
    have nai : a ≠ it := fun z => by
      obtain ⟨o1, q1, c1, _⟩ := h2
      obtain ⟨o2, q2, c2, _⟩ := pt
      rw [z, q1] at q2; cases q2
      rw [c1] at c2; injection c2 with z3; exact absurd z3 (by decide)
    have dr := Draws.tuple (prog := X.prog) (w := X.w) (A := X.A.in1) (I.ok.hd hc) it a nai its.toArray
    have hi : i = its.toArray.size := by rw [← hx, hl]; simp
    have st' : s.heap.IsTupleIter it a its.toArray.size ∧ s.heap.IsTuple a its.toArray := ⟨hi ▸ h2, pt⟩
    exact wpAny_pyNext_enum_endD dr h1 st' fun h' eb => ⟨rfl, I.turned (t' := s.toks) (fun b o hb q => eb b o hb q) f0 f1 f3 f4 f5⟩
  self := fun A i s Q E st h => wpAny_pyIter_enum st.1.choose_spec h
theorem jit_enumT {K : PySem.W.Frag} {H : Hp} {S : Sto} {a : Addr} {vs : List V} {ws : List W} (h : RdT K H S a vs) (r : RWs K H S ws vs) : JIt K (ItT K a) H S (enumW ws) := fun H1 S1 e l => by
  have h1 := h.ext e
  have r1 := RWs.ext e _ _ r
  refine ⟨fun i w hw => ?_, ⟨vs, h1.sq, by rw [← r1.len]; simp [enumW]⟩⟩
  · rw [enumW_get] at hw
    cases q : ws[i]? with
    | none => rw [q] at hw; cases hw
    | some u =>
      rw [q] at hw; cases hw
      obtain ⟨v, hv, rv⟩ := r1.get q
      refine ⟨⟨vs, v, h1.sq, hv⟩, fun x H2 ⟨T, y, ex, hT, e2, hy⟩ => ?_⟩
      subst ex; subst e2
      have z := hy vs h1.sq
      rw [hv] at z; cases z
      exact new_pair l hT .i rv
theorem wi_enum {X : Cx} {Ê : L2.St → XK} {wa : PD.WE} {pa : Expr} {pos q tpos : Pos} {elts : List Expr} {kk : Nat} (hg : Gl X "enumerate") (hm : X.mg "enumerate" = none) (hst : starEach [pa] X.env = [(false, eval pa X.env)]) (ha : PE X pa (LE X.K Ê wa)) :
    PI X (.Tuple elts kk tpos) (.Call (.Name "enumerate" q) [pa] [] pos) (LI X.K Ê fun σ S Q Y => wa σ S (fun w S1 => ∃ xs, (w = .lst xs ∨ w = .tup xs) ∧ Q (enumW xs) S1) Y) := by
  refine ⟨fun pins s τ H R I ⟨σ, S, Q, Y, hs, hl, hw, k, hx⟩ => ?_⟩
  refine Call_ (ld_blt I hg hm boot_enumerate (PyProof.Rows.callWith_type1 (thn ((pa_cons ha pa_nil hst).run pos pins s τ H (fun vs H1 => ∃ S1 w v, vs = [v] ∧ Ext H S H1 S1 ∧ LinkS X.K H1 S1 ∧ RW X.K H1 S1 w v ∧ ∃ xs, (w = .lst xs ∨ w = .tup xs) ∧ Q (enumW xs) S1) I
    (LE.mk hs hl hx hw fun w S1 v H1 e1 l1 s1 x1 r1 q1 => ⟨S1, w, v, rfl, e1, l1, r1, q1⟩)) fun us s1 ⟨vs, H1, I1, rv, S1, w, v, ev, e1, l1, r1, xs, hxs, q⟩ => ?_) hst rfl))
  subst ev
  obtain ⟨u, rfl, ru⟩ := rv.one
  have near : ∀ b ∈ [s1.heap.objs.size + 1, s1.heap.objs.size], FpOk X pins H1 b := fun b hb => by
    have le : s1.heap.objs.size ≤ b := by
      rcases (show b = s1.heap.objs.size + 1 ∨ b = s1.heap.objs.size by simpa using hb) with z | z <;> omega
    exact I1.fpOk le (I1.hok.fresh le)
  rcases hxs with rfl | rfl
  · obtain ⟨a, vs, rfl, h1, h2⟩ := r1.lstR
    cases ru
    obtain ⟨its, rr, pl, hz⟩ := I1.list h1.sq
    exact call_enumerate_list pl.isList fun h' he hit hsz hk => wpAny_pyIter_enum he
      ⟨_, _, _, _, H1, rfl, I1.kept (t' := s1.toks) hk, turn_enum a _ _, ⟨⟨.none, he⟩, hit, Nat.succ_ne_self _⟩, near, k _ _ _ _ e1 l1 (jit_enumL h1 h2) q⟩
  · obtain ⟨a, vs, rfl, h1, h2⟩ := r1.tupR
    cases ru
    obtain ⟨its, rr, pt, hz⟩ := I1.tuple h1.sq
    exact enumT_call (show s1.heap.IsTuple a its.toArray from pt) fun h' he hit hk => wpAny_pyIter_enum he
      ⟨_, _, _, _, H1, rfl, I1.kept (t' := s1.toks) hk, turnET a _ _, ⟨⟨.none, he⟩, hit, Nat.succ_ne_self _⟩, near, k _ _ _ _ e1 l1 (jit_enumT h1 h2) q⟩
end PD

set_option Elab.async false
set_option linter.all false
set_option maxRecDepth 100000
set_option maxHeartbeats 4000000
namespace PD
open PySem PySem.Spec PyProof.Rows L2

/-! ## tests -/
section
variable {K : PySem.W.Frag} {H : Hp} {S : Sto}
theorem isEmpty_rws {ws : List W} {vs : List V} (r : RWs K H S ws vs) : ws.isEmpty = vs.isEmpty := by
  cases ws with
  | nil => unfold RWs at r; subst r; rfl
  | cons w ws => unfold RWs at r; obtain ⟨v, t, rfl, _, _⟩ := r; rfl
theorem tru_rd {w : W} {v : V} {r : Bool} (l : LinkS K H S) (h : RW K H S w v) (e : truW (rd S w) = some r) : TruV K v H r := by
  have key : ∀ x, rd S w = x → truW x = some r → TruV K v H r := fun x hx ex => by
    cases x with
    | non =>
      obtain rfl := rd_eq hx (fun _ z => nomatch z) (fun _ _ z => nomatch z)
      obtain rfl : v = V.non := by unfold RW at h; exact h
      cases ex; rfl
    | bl b =>
      obtain rfl := rd_eq hx (fun _ z => nomatch z) (fun _ _ z => nomatch z)
      obtain rfl := h.bl_
      cases ex; rfl
    | int i =>
      obtain rfl := rd_eq hx (fun _ z => nomatch z) (fun _ _ z => nomatch z)
      obtain rfl := h.int_
      cases ex; rfl
    | str x =>
      obtain rfl := rd_eq hx (fun _ z => nomatch z) (fun _ _ z => nomatch z)
      obtain rfl := h.str_
      have ex' : (if x.length ≤ sizeLine then some ((x.length : Int) != 0) else none) = some r := ex
      by_cases q : x.length ≤ sizeLine
      · rw [if_pos q] at ex'; cases ex'; exact ⟨q, rfl⟩
      · rw [if_neg q] at ex'; cases ex'
    | lst xs =>
      obtain ⟨a, vs, rfl, h1, h2⟩ := rd_lst l h hx
      cases ex
      exact .inl ⟨vs, h1, by rw [isEmpty_rws h2]⟩
    | tup xs =>
      obtain rfl := rd_eq hx (fun _ z => nomatch z) (fun _ _ z => nomatch z)
      obtain ⟨a, vs, rfl, h1, h2⟩ := h.tupR
      cases ex
      exact .inr (.inl ⟨vs, h1.sq, by rw [isEmpty_rws h2]⟩)
    | dct _ _ => cases ex
    | ref _ => cases ex
    | exc _ _ _ => cases ex
    | ins _ _ _ => cases ex
    | fnv _ => cases ex
  exact key _ rfl e
end
section
variable {X : Cx} {Ê : L2.St → XK} {wa wb wc : PD.WE} {ta tb tc : PD.WT} {pa pb pc : Expr} {pos : Pos}
theorem wt_def (hp : plainP pa = true) (n1 : ∀ a b, pa ≠ .UnaryOp .Not a b) (n2 : ∀ a b c, pa ≠ .BoolOp a b c) (n3 : ∀ a b c d, pa ≠ .IfExp a b c d) (n4 : ∀ a b c d, pa ≠ .Compare a b c d) (ha : PE X pa (LE X.K Ê wa)) :
    PT X pa (LT X.K Ê fun σ S Q Y => wa σ S (fun w S1 => ∃ r, truW (rd S1 w) = some r ∧ Q r S1) Y) :=
  (pt_truth ha (truth_of hp n1 n2 n3 n4)).imp fun τ H Qh ⟨σ, S, Q, Y, hs, hl, hw, k, hx⟩ => LE.mk hs hl hx hw fun x S1 v H1 e1 l1 s1 x1 r1 ⟨r, e, q⟩ =>
    ⟨r, tru_rd l1 r1 e, k _ _ _ e1 l1 q⟩
theorem wt_not (ha : PT X pa (LT X.K Ê ta)) : PT X (.UnaryOp .Not pa pos) (LT X.K Ê fun σ S Q Y => ta σ S (fun b S1 => Q (!b) S1) Y) :=
  (pt_not ha).imp fun τ H Qh ⟨σ, S, Q, Y, hs, hl, hw, k, hx⟩ => LT.mk hs hl hx hw fun r S1 H1 e1 l1 s1 x1 q => k _ _ _ e1 l1 q
theorem wt_and {rest : List Expr} (ha : PT X pa (LT X.K Ê ta)) (hb : PW X (.BoolOp .And (pb :: rest) pos) (LT X.K Ê tb)) : PW X (.BoolOp .And (pa :: pb :: rest) pos) (LT X.K Ê fun σ S Q Y => ta σ S (fun r S1 => if r then tb σ S1 Q Y else Q false S1) Y) :=
  (pw_and ha hb).imp fun τ H Qh ⟨σ, S, Q, Y, hs, hl, hw, k, hx⟩ => LT.mk hs hl hx hw fun r S1 H1 e1 l1 s1 x1 q => by
    cases r with
    | true => exact LT.mk s1 l1 x1 q fun r S2 H2 e2 l2 s2 x2 q2 => k _ _ _ (e1.trans e2) l2 q2
    | false => exact k _ _ _ e1 l1 q
theorem wt_or {rest : List Expr} (ha : PT X pa (LT X.K Ê ta)) (hb : PW X (.BoolOp .Or (pb :: rest) pos) (LT X.K Ê tb)) : PW X (.BoolOp .Or (pa :: pb :: rest) pos) (LT X.K Ê fun σ S Q Y => ta σ S (fun r S1 => if r then Q true S1 else tb σ S1 Q Y) Y) :=
  (pw_or ha hb).imp fun τ H Qh ⟨σ, S, Q, Y, hs, hl, hw, k, hx⟩ => LT.mk hs hl hx hw fun r S1 H1 e1 l1 s1 x1 q => by
    cases r with
    | false => exact LT.mk s1 l1 x1 q fun r S2 H2 e2 l2 s2 x2 q2 => k _ _ _ (e1.trans e2) l2 q2
    | true => exact k _ _ _ e1 l1 q
theorem wt_cmp {op : CmpOp} (hu : X.A.units + 64 < cLine) (hm : behindInMarks op pb = false) (ha : PE X pa (LE X.K Ê wa)) (hb : PE X pb (LE X.K Ê wb)) :
    PT X (.Compare pa [op] [pb] pos) (LT X.K Ê fun σ S Q Y => wa σ S (fun x S1 => wb σ S1 (fun y S2 => ∃ r, cmpW op (rd S2 x) (rd S2 y) = some r ∧ ∃ q, truW (rd S2 (.bl r)) = some q ∧ Q q S2) Y) Y) :=
  (pt_cmpR (op_cmp hu op) ha hb hm).imp fun τ H Qh ⟨σ, S, Q, Y, hs, hl, hw, k, hx⟩ => LE.mk hs hl hx hw fun x S1 v H1 e1 l1 s1 x1 r1 q1 => LE.mk s1 l1 x1 q1 fun y S2 u H2 e2 l2 s2 x2 r2 ⟨r, e, q', eq, q⟩ => by
    have eq' : some r = some q' := eq
    cases eq'
    exact ⟨S2, x, y, r, l2, r1.ext e2, r2, e, r, rfl, k _ _ _ (e1.trans e2) l2 q⟩
theorem wt_cmp3 {o1 o2 : CmpOp} (hu : X.A.units + 64 < cLine) (hm : lastMarks [o1, o2] [pb, pc] = false) (ha : PE X pa (LE X.K Ê wa)) (hb : PE X pb (LE X.K Ê wb)) (hc : PE X pc (LE X.K Ê wc)) :
    PT X (.Compare pa [o1, o2] [pb, pc] pos) (LT X.K Ê fun σ S Q Y => wa σ S (fun x S1 => wb σ S1 (fun y S2 => ∃ r, cmpW o1 (rd S2 x) (rd S2 y) = some r ∧
      if r then wc σ S2 (fun z S3 => ∃ q, cmpW o2 (rd S3 y) (rd S3 z) = some q ∧ ∃ p, truW (rd S3 (.bl q)) = some p ∧ Q p S3) Y else ∃ p, truW (rd S2 (.bl false)) = some p ∧ Q p S2) Y) Y) :=
  (pt_chain (op_cmp hu o1) (op_cmp hu o2) ha hb hc hm).imp fun τ H Qh ⟨σ, S, Q, Y, hs, hl, hw, k, hx⟩ => LE.mk hs hl hx hw fun x S1 v H1 e1 l1 s1 x1 r1 q1 => LE.mk s1 l1 x1 q1 fun y S2 u H2 e2 l2 s2 x2 r2 ⟨r, e, q⟩ => by
    refine ⟨S2, x, y, r, l2, r1.ext e2, r2, e, r, rfl, ?_⟩
    cases r with
    | false =>
      obtain ⟨p, ep, q⟩ := q
      have ep' : some false = some p := ep
      cases ep'
      exact ⟨_, rfl, k _ _ _ (e1.trans e2) l2 q⟩
    | true =>
      exact LE.mk s2 l2 x2 q fun z S3 w H3 e3 l3 s3 x3 r3 ⟨q', e', p, ep, q''⟩ => by
        have ep' : some q' = some p := ep
        cases ep'
        exact ⟨S3, y, z, q', l3, r2.ext e3, r3, e', _, rfl, k _ _ _ ((e1.trans e2).trans e3) l3 q''⟩
end

/-! ## comprehensions -/
theorem RSl.wipe {K : PySem.W.Frag} {H : Hp} {S : Sto} {σ : Sl} {τ : L2.St} (h : RSl K H S σ τ) : ∀ vs : List Nat, RSl K H S (wipeS σ vs) (L2.wipe τ vs)
  | [] => h
  | v :: vs => (RSl.wipe h vs).clr v none
theorem wipe_in {τ : L2.St} {i : Nat} : ∀ {vs : List Nat}, i ∈ vs → i < τ.length → (L2.wipe τ vs)[i]? = some none
  | v :: vs, h, hl => by
    show ((L2.wipe τ vs).set v none)[i]? = some none
    by_cases e : v = i
    · subst e
      exact List.getElem?_set_self (by rw [L2.wipe_length]; exact hl)
    · rw [List.getElem?_set_ne e]
      rcases List.mem_cons.mp h with z | z
      · exact absurd z.symm e
      · exact wipe_in z hl
theorem wipe_twice (τ : L2.St) (vs : List Nat) : L2.wipe (L2.wipe τ vs) vs = L2.wipe τ vs := by
  refine List.ext_getElem? fun i => ?_
  by_cases hi : i ∈ vs
  · by_cases hl : i < τ.length
    · rw [wipe_in hi hl, wipe_in hi (by rw [L2.wipe_length]; exact hl)]
    · rw [List.getElem?_eq_none (by rw [L2.wipe_length, L2.wipe_length]; omega), List.getElem?_eq_none (by rw [L2.wipe_length]; omega)]
  · rw [L2.wipe_out hi]
theorem lc_red {K : PySem.W.Frag} {Ê : L2.St → XK} {wi : WI} {t : Tg} {tt : PD.WT} {te : PD.WE} {own : List Nat} {m : Bool} (hown : t.own own = true) {τ : L2.St} {H : Hp} {Qh : VK}
    (h : LE K Ê (fun σ S Q Y => wi σ S (fun xs S1 => ∀ D, S1 D = none →
      loopC (fun x S' Kk => t.go x (wipeS σ own) fun σ2 => tt σ2 S' (fun b S2 => if b then te σ2 S2 (fun w S3 => Kk (some w) S3) (fun _ _ => False) else Kk none S2) (fun _ _ => False))
        D xs [] (fun ws S2 => if m then Q (.ref D) S2 else Q (.lst ws) (S2.del D)) (S1.set D (.lst []))) Y) τ H Qh) :
    tLc (LI K Ê wi) (LG K t) (LT K E00 tt) (LE K E00 te) own τ H Qh := by
  obtain ⟨σ, S, Q, Y, hs, hl, hw, k, hx⟩ := h
  refine ⟨σ, S, _, Y, hs, hl, hw, fun ws S1 J H1 e1 l1 jit q D hD => ?_, hx⟩
  have q := q D (l1.fresh hD)
  generalize hQf : (fun (ws : List W) (S2 : Sto) => if m = true then Q (.ref D) S2 else Q (.lst ws) (S2.del D)) = Qf at q
  generalize hst : (fun (x : W) (S' : Sto) (Kk : Option W → Sto → Prop) => t.go x (wipeS σ own) fun σ2 => tt σ2 S' (fun b S2 => if b = true then te σ2 S2 (fun w S3 => Kk (some w) S3) (fun _ _ => False) else Kk none S2) (fun _ _ => False)) = step at q
  have e2 : Ext H1 S1 (upd H1 D (.lst [])) (S1.set D (.lst [])) := ext_newS hD
  have l2 := l1.put e2 (⟨[], rfl, .nil⟩ : RO K H1 S1 (.lst []) (.lst []))
  refine ⟨fun i n Hx => n = ws.length - i ∧ i ≤ ws.length ∧ ∃ S' acc, Ext H1 S1 Hx S' ∧ LinkS K Hx S' ∧ loopC step D (ws.drop i) acc Qf S', ⟨ws.length, rfl, Nat.zero_le _, _, [], e2, l2, q⟩, ?_⟩
  rintro i n Hx ⟨rfl, hi, S', acc, ex, lx, q⟩
  obtain ⟨j1, j2⟩ := jit Hx S' ex lx
  by_cases hlt : i < ws.length
  · have hg : ws[i]? = some ws[i] := List.getElem?_eq_getElem hlt
    rw [List.drop_eq_getElem_cons hlt] at q
    obtain ⟨jg, jy⟩ := j1 i _ hg
    refine .inr ⟨jg, fun H' => ∃ S'' acc', Ext H1 S1 H' S'' ∧ LinkS K H' S'' ∧ loopC step D (ws.drop (i + 1)) acc' Qf S'', fun H' ⟨S'', acc', a1, a2, a3⟩ => ⟨ws.length - (i + 1), by omega, rfl, hlt, S'', acc', a1, a2, a3⟩, fun x H' hy => ?_⟩
    obtain ⟨e3, l3, r3⟩ := jy x H' hy
    unfold loopC at q
    obtain ⟨_, q⟩ := q
    rw [← hst] at q
    rw [hst] at q
    have ea := ex.trans e3
    refine ⟨wipeS σ own, S', ws[i], _, (hs.ext (e1.trans ea)).wipe own, l3, r3, q, fun σ2 τ2 hs2 kt q2 => ⟨(kt own hown).trans (wipe_twice τ own), σ2, S', _, fun _ _ => False, hs2, l3, q2, fun b S2 H2 e4 l4 q4 => ?_, XO.none⟩⟩
    cases b with
    | false => exact ⟨S2, acc, ea.trans e4, l4, q4⟩
    | true =>
      refine ⟨σ2, S2, _, fun _ _ => False, hs2.ext e4, l4, q4, fun y S3 v H3 e5 l5 r5 q5 => ?_, XO.none⟩
      obtain ⟨hD3, hlen, q5⟩ := q5
      obtain ⟨u, h1, vs, rfl, h2⟩ := l5.at_ D _ hD3
      have e6 : Ext H3 S3 (upd H3 D (.lst (vs ++ [v]))) (S3.set D (.lst (acc ++ [y]))) := ext_chg hD3
      exact ⟨vs, h1, by rw [← h2.len]; exact hlen, _, acc ++ [y], ((ea.trans e4).trans e5).trans e6, l5.put e6 ⟨_, rfl, h2.append (.cons r5 .nil)⟩, q5⟩
  · have hi' : i = ws.length := by omega
    subst hi'
    rw [List.drop_length] at q
    unfold loopC at q
    obtain ⟨hD', q⟩ := q
    subst hQf
    refine .inl ⟨j2, ?_⟩
    cases m with
    | true => exact k _ _ _ _ (e1.trans ex) lx .r q
    | false => exact k _ _ _ _ ((e1.trans ex).trans (ext_del (nclo_of hD'))) (lx.del D (nclo_of hD')) (RW.frozen lx hD') q
theorem dc_red {K : PySem.W.Frag} {Ê : L2.St → XK} {wi : WI} {t : Tg} {tk tv : PD.WE} {own : List Nat} (hown : t.own own = true) {τ : L2.St} {H : Hp} {Qh : VK}
    (h : LE K Ê (fun σ S Q Y => wi σ S (fun xs S1 => ∀ D, S1 D = none →
      loopD (fun x S' Kk => t.go x (wipeS σ own) fun σ2 => tk σ2 S' (fun kw S2 => tv σ2 S2 (fun v S3 => ∃ k, keyOf kw = some k ∧ Kk k v S3) (fun _ _ => False)) (fun _ _ => False))
        D xs [] [] (fun ks ws S2 => Q (.dct ks ws) (S2.del D)) (S1.set D (.dct [] []))) Y) τ H Qh) :
    tDc (LI K Ê wi) (LG K t) (LT K E00 fun σ S Q _ => Q true S) (LE K E00 tk) (LE K E00 tv) own τ H Qh := by
  obtain ⟨σ, S, Q, Y, hs, hl, hw, k, hx⟩ := h
  refine ⟨σ, S, _, Y, hs, hl, hw, fun ws S1 J H1 e1 l1 jit q D hD => ?_, hx⟩
  have q := q D (l1.fresh hD)
  generalize hQf : (fun (ks : List Key) (ws : List W) (S2 : Sto) => Q (.dct ks ws) (S2.del D)) = Qf at q
  generalize hst : (fun (x : W) (S' : Sto) (Kk : Key → W → Sto → Prop) => t.go x (wipeS σ own) fun σ2 => tk σ2 S' (fun kw S2 => tv σ2 S2 (fun v S3 => ∃ k, keyOf kw = some k ∧ Kk k v S3) (fun _ _ => False)) (fun _ _ => False)) = step at q
  have e2 : Ext H1 S1 (upd H1 D (.dK [])) (S1.set D (.dct [] [])) := ext_newS hD
  have l2 := l1.put e2 (⟨[], rfl, rfl, .nil⟩ : RO K H1 S1 (.dct [] []) (.dK []))
  refine ⟨fun i n Hx => n = ws.length - i ∧ i ≤ ws.length ∧ ∃ S' ks vs, Ext H1 S1 Hx S' ∧ LinkS K Hx S' ∧ loopD step D (ws.drop i) ks vs Qf S', ⟨ws.length, rfl, Nat.zero_le _, _, [], [], e2, l2, q⟩, ?_⟩
  rintro i n Hx ⟨rfl, hi, S', ks, vs, ex, lx, q⟩
  obtain ⟨j1, j2⟩ := jit Hx S' ex lx
  by_cases hlt : i < ws.length
  · have hg : ws[i]? = some ws[i] := List.getElem?_eq_getElem hlt
    rw [List.drop_eq_getElem_cons hlt] at q
    obtain ⟨jg, jy⟩ := j1 i _ hg
    refine .inr ⟨jg, fun H' => ∃ S'' ks' vs', Ext H1 S1 H' S'' ∧ LinkS K H' S'' ∧ loopD step D (ws.drop (i + 1)) ks' vs' Qf S'', fun H' ⟨S'', a, b, a1, a2, a3⟩ => ⟨ws.length - (i + 1), by omega, rfl, hlt, S'', a, b, a1, a2, a3⟩, fun x H' hy => ?_⟩
    obtain ⟨e3, l3, r3⟩ := jy x H' hy
    unfold loopD at q
    obtain ⟨_, q⟩ := q
    rw [← hst] at q
    rw [hst] at q
    have ea := ex.trans e3
    refine ⟨wipeS σ own, S', ws[i], _, (hs.ext (e1.trans ea)).wipe own, l3, r3, q, fun σ2 τ2 hs2 kt q2 => ⟨(kt own hown).trans (wipe_twice τ own), σ2, S', fun b S2 => b = true ∧ tk σ2 S2 (fun kw S2 => tv σ2 S2 (fun v S3 => ∃ k, keyOf kw = some k ∧ (S3 D = some (SO.dct ks vs) ∧ ks.length < sizeLine ∧ loopD step D (List.drop (i + 1) ws) (putKW ks vs k v).1 (putKW ks vs k v).2 Qf (S3.set D (SO.dct (putKW ks vs k v).1 (putKW ks vs k v).2)))) (fun _ _ => False)) (fun _ _ => False), fun _ _ => False, hs2, l3, ⟨rfl, q2⟩, fun b S2 H2 e4 l4 q4 => ?_, XO.none⟩⟩
    obtain ⟨rfl, q4⟩ := q4
    rw [if_pos rfl]
    refine ⟨σ2, S2, _, fun _ _ => False, hs2.ext e4, l4, q4, fun kw S3 y H3 e5 l5 r5 q5 => ?_, XO.none⟩
    refine ⟨σ2, S3, _, fun _ _ => False, hs2.ext (e4.trans e5), l5, q5, fun v S4 z H4 e6 l6 r6 q6 => ?_, XO.none⟩
    obtain ⟨key, ek, hD4, hlen, q6⟩ := q6
    obtain ⟨u, h1, kvs, rfl, h2, h3⟩ := l6.at_ D _ hD4
    have e7 : Ext H4 S4 (upd H4 D (.dK (L2.putK kvs key z))) (S4.set D (.dct (putKW ks vs key v).1 (putKW ks vs key v).2)) := ext_chg hD4
    refine ⟨kvs, key, r5.key ek, h1, by rw [← h2, List.length_map] at hlen; exact hlen, _, (putKW ks vs key v).1, (putKW ks vs key v).2, (((ea.trans e4).trans e5).trans e6).trans e7, l6.put e7 ?_, q6⟩
    subst h2
    exact ⟨_, rfl, (put_keys kvs vs key z v).symm, put_vals h3 r6⟩
  · have hi' : i = ws.length := by omega
    subst hi'
    rw [List.drop_length] at q
    unfold loopD at q
    obtain ⟨hD', q⟩ := q
    subst hQf
    exact .inl ⟨j2, k _ _ _ _ ((e1.trans ex).trans (ext_del (nclo_of hD'))) (lx.del D (nclo_of hD')) (RW.frozenD lx hD') q⟩
theorem lc2_red {K : PySem.W.Frag} {Ê : L2.St → XK} {wi wi1 : WI} {t t1 : Tg} {te : PD.WE} {own own1 : List Nat} {m : Bool} (hown : t.own own = true) (hown1 : t1.own own1 = true) {τ : L2.St} {H : Hp} {Qh : VK}
    (h : LE K Ê (fun σ S Q Y => wi σ S (fun xs S1 => ∀ D, S1 D = none →
      loopO (fun x S' acc Kk => t.go x (wipeS σ own) fun σ2 => wi1 σ2 S' (fun ys S2 => loopC (fun y S3 K3 => t1.go y (wipeS σ2 own1) fun σ3 => te σ3 S3 (fun w S4 => K3 (some w) S4) (fun _ _ => False)) D ys acc Kk S2) (fun _ _ => False))
        D xs [] (fun ws S2 => if m then Q (.ref D) S2 else Q (.lst ws) (S2.del D)) (S1.set D (.lst []))) Y) τ H Qh) :
    tLc2 (LI K Ê wi) (LG K t) (LT K E00 fun σ S Q _ => Q true S) (LI K E00 wi1) (LG K t1) (LT K E00 fun σ S Q _ => Q true S) (LE K E00 te) own own1 τ H Qh := by
  obtain ⟨σ, S, Q, Y, hs, hl, hw, k, hx⟩ := h
  refine ⟨σ, S, _, Y, hs, hl, hw, fun ws S1 J H1 e1 l1 jit q D hD => ?_, hx⟩
  have q := q D (l1.fresh hD)
  generalize hQf : (fun (ws : List W) (S2 : Sto) => if m = true then Q (.ref D) S2 else Q (.lst ws) (S2.del D)) = Qf at q
  generalize hst : (fun (x : W) (S' : Sto) (acc : List W) (Kk : List W → Sto → Prop) => t.go x (wipeS σ own) fun σ2 => wi1 σ2 S' (fun ys S2 => loopC (fun y S3 K3 => t1.go y (wipeS σ2 own1) fun σ3 => te σ3 S3 (fun w S4 => K3 (some w) S4) (fun _ _ => False)) D ys acc Kk S2) (fun _ _ => False)) = step at q
  have e2 : Ext H1 S1 (upd H1 D (.lst [])) (S1.set D (.lst [])) := ext_newS hD
  have l2 := l1.put e2 (⟨[], rfl, .nil⟩ : RO K H1 S1 (.lst []) (.lst []))
  refine ⟨fun i n Hx => n = ws.length - i ∧ i ≤ ws.length ∧ ∃ S' acc, Ext H1 S1 Hx S' ∧ LinkS K Hx S' ∧ loopO step D (ws.drop i) acc Qf S', ⟨ws.length, rfl, Nat.zero_le _, _, [], e2, l2, q⟩, ?_⟩
  rintro i n Hx ⟨rfl, hi, S', acc, ex, lx, q⟩
  obtain ⟨j1, j2⟩ := jit Hx S' ex lx
  by_cases hlt : i < ws.length
  · have hg : ws[i]? = some ws[i] := List.getElem?_eq_getElem hlt
    rw [List.drop_eq_getElem_cons hlt] at q
    obtain ⟨jg, jy⟩ := j1 i _ hg
    refine .inr ⟨jg, fun H' => ∃ S'' acc', Ext H1 S1 H' S'' ∧ LinkS K H' S'' ∧ loopO step D (ws.drop (i + 1)) acc' Qf S'', fun H' ⟨S'', acc', a1, a2, a3⟩ => ⟨ws.length - (i + 1), by omega, rfl, hlt, S'', acc', a1, a2, a3⟩, fun x H' hy => ?_⟩
    obtain ⟨e3, l3, r3⟩ := jy x H' hy
    unfold loopO at q
    obtain ⟨_, q⟩ := q
    rw [← hst] at q
    rw [hst] at q
    have ea := ex.trans e3
    refine ⟨wipeS σ own, S', ws[i], _, (hs.ext (e1.trans ea)).wipe own, l3, r3, q, fun σ2 τ2 hs2 kt q2 => ⟨(kt own hown).trans (wipe_twice τ own), σ2, S', fun b S2 => b = true ∧ wi1 σ2 S2 (fun ys S2 => loopC (fun y S3 K3 => t1.go y (wipeS σ2 own1) fun σ3 => te σ3 S3 (fun w S4 => K3 (some w) S4) (fun _ _ => False)) D ys acc (fun acc' S' => loopO step D (List.drop (i + 1) ws) acc' Qf S') S2) (fun _ _ => False), fun _ _ => False, hs2, l3, ⟨rfl, q2⟩, fun b S2 H2 e4 l4 q4 => ?_, XO.none⟩⟩
    obtain ⟨rfl, q4⟩ := q4
    rw [if_pos rfl]
    refine ⟨σ2, S2, _, fun _ _ => False, hs2.ext e4, l4, q4, fun ys S4 J1 H4 e5 l5 jit1 q5 => ?_, XO.none⟩
    generalize hst1 : (fun (y : W) (S3 : Sto) (K3 : Option W → Sto → Prop) => t1.go y (wipeS σ2 own1) fun σ3 => te σ3 S3 (fun w S4 => K3 (some w) S4) (fun _ _ => False)) = step1 at q5
    have eb := (ea.trans e4).trans e5
    have hs4 := (hs2.ext e4).ext e5
    refine ⟨fun j n Hy => n = ys.length - j ∧ j ≤ ys.length ∧ ∃ S5 acc5, Ext H4 S4 Hy S5 ∧ LinkS K Hy S5 ∧ loopC step1 D (ys.drop j) acc5 (fun acc' S' => loopO step D (List.drop (i + 1) ws) acc' Qf S') S5, ⟨ys.length, rfl, Nat.zero_le _, S4, acc, .refl, l5, q5⟩, ?_⟩
    rintro j n Hy ⟨rfl, hj, S5, acc5, ey, ly, q6⟩
    obtain ⟨i1, i2⟩ := jit1 Hy S5 ey ly
    by_cases hlt1 : j < ys.length
    · have hg1 : ys[j]? = some ys[j] := List.getElem?_eq_getElem hlt1
      rw [List.drop_eq_getElem_cons hlt1] at q6
      obtain ⟨ig, iy⟩ := i1 j _ hg1
      refine .inr ⟨ig, fun H' => ∃ S'' acc', Ext H4 S4 H' S'' ∧ LinkS K H' S'' ∧ loopC step1 D (ys.drop (j + 1)) acc' (fun acc' S' => loopO step D (List.drop (i + 1) ws) acc' Qf S') S'', fun H' ⟨S'', acc', a1, a2, a3⟩ => ⟨ys.length - (j + 1), by omega, rfl, hlt1, S'', acc', a1, a2, a3⟩, fun x H' hy' => ?_⟩
      obtain ⟨e6, l6, r6⟩ := iy x H' hy'
      unfold loopC at q6
      obtain ⟨_, q6⟩ := q6
      rw [← hst1] at q6
      rw [hst1] at q6
      have ec := ey.trans e6
      refine ⟨wipeS σ2 own1, S5, ys[j], _, (hs4.ext ec).wipe own1, l6, r6, q6, fun σ3 τ3 hs3 kt1 q7 => ⟨(kt1 own1 hown1).trans (wipe_twice τ2 own1), σ3, S5, fun b S2 => b = true ∧ te σ3 S2 (fun w S4 => (S4 D = some (.lst acc5) ∧ acc5.length < sizeLine ∧ loopC step1 D (List.drop (j + 1) ys) (acc5 ++ [w]) (fun acc' S' => loopO step D (List.drop (i + 1) ws) acc' Qf S') (S4.set D (.lst (acc5 ++ [w]))))) (fun _ _ => False), fun _ _ => False, hs3, l6, ⟨rfl, q7⟩, fun b S6 H6 e7 l7 q8 => ?_, XO.none⟩⟩
      obtain ⟨rfl, q8⟩ := q8
      rw [if_pos rfl]
      refine ⟨σ3, S6, _, fun _ _ => False, hs3.ext e7, l7, q8, fun y S7 v H7 e8 l8 r8 q9 => ?_, XO.none⟩
      obtain ⟨hD3, hlen, q9⟩ := q9
      obtain ⟨u, h1, vs, rfl, h2⟩ := l8.at_ D _ hD3
      have e9 : Ext H7 S7 (upd H7 D (.lst (vs ++ [v]))) (S7.set D (.lst (acc5 ++ [y]))) := ext_chg hD3
      exact ⟨vs, h1, by rw [← h2.len]; exact hlen, _, acc5 ++ [y], ((ec.trans e7).trans e8).trans e9, l8.put e9 ⟨_, rfl, h2.append (.cons r8 .nil)⟩, q9⟩
    · have hj' : j = ys.length := by omega
      subst hj'
      rw [List.drop_length] at q6
      unfold loopC at q6
      obtain ⟨_, q6⟩ := q6
      exact .inl ⟨i2, S5, acc5, eb.trans ey, ly, q6⟩
  · have hi' : i = ws.length := by omega
    subst hi'
    rw [List.drop_length] at q
    unfold loopO at q
    obtain ⟨hD', q⟩ := q
    subst hQf
    refine .inl ⟨j2, ?_⟩
    cases m with
    | true => exact k _ _ _ _ (e1.trans ex) lx .r q
    | false => exact k _ _ _ _ ((e1.trans ex).trans (ext_del (nclo_of hD'))) (lx.del D (nclo_of hD')) (RW.frozen lx hD') q
end PD

set_option Elab.async false
set_option linter.all false
set_option maxRecDepth 100000
set_option maxHeartbeats 4000000
/-! list(zip(a, b)) of two tuples -/
namespace RZ
open PySem PySem.Spec PyProof.Rows L2
section
variable {prog : Program} {w : World} {A : Around} {E : Value → Shared → Prop} {s : Shared}
open PySem.W in
theorem pd_zip_item {z TI TO T i1 i2 l1 l2 : Addr} {f : Bool} {oT : Obj} {k1 k2 : Nat} {xs ys : Array Value} {x y : Value} {Q : Value → Shared → Prop} (D : ZipApart z TI TO i1 i2 l1 l2)
    (hz : IsZipHeld s.heap z TI TO T f) (hT : s.heap.get? T = some oT) (hTI : IsPair s.heap TI (.ref i1) (.ref i2))
    (h1 : s.heap.IsTupleIter i1 l1 k1) (h2 : s.heap.IsTupleIter i2 l2 k2) (hl1 : s.heap.IsTuple l1 xs) (hl2 : s.heap.IsTuple l2 ys) (hx : xs[k1]? = some x) (hy : ys[k2]? = some y)
    (hQ : ∀ h', IsZipHeld h' z TI TO T true → h'.IsTupleIter i1 l1 (k1 + 1) → h'.IsTupleIter i2 l2 (k2 + 1) → IsPair h' s.heap.objs.size x y → h'.objs.size = s.heap.objs.size + 1 →
      (∀ c o, c ≠ z → c ≠ i1 → c ≠ i2 → s.heap.get? c = some o → h'.get? c = some o) → Q (.ref s.heap.objs.size) { s with heap := h' }) :
    wpAny (model prog w) A (Builtin.«zip.__next__» ⟨[.ref z], []⟩) (fun fin s' => ∃ v, fin = .done (.ret v) ∧ Q v s') E s := by
  show wpAny _ _ (field (.ref z) 2 >>= _) _ _ _
  refine wpAny_bind (wpAny_field hz rfl (x := .bool false) rfl ?_)
  show wpAny _ _ (field (.ref z) 3 >>= _) _ _ _
  refine wpAny_bind (wpAny_field hz rfl (x := .ref TI) rfl ?_)
  refine wpAny_bind (wpAny_seqItems hTI rfl ?_)
  show wpAny _ _ (Builtin.SmallTypes.ownedTupleIsFree (.ref z) >>= _) _ _ _
  refine wpAny_bind (wpAny_tupleHeld_zip hz hT fun h₁ hz₁ hs₁ => ?_)
  simp only [Bool.false_eq_true, if_false]
  refine wpAny_bind ?_
  rw [← Array.forIn_toList]
  simp only [List.forIn_cons, List.forIn_nil]
  refine wpAny_bind (wpAny_bind (wpAny_holding ?_))
  show wpAny _ _ (Builtin.SmallTypes.nextOf (.ref i1) >>= _) _ _ _
  refine wpAny_bind (nextOf_tuple_item (s := { s with heap := h₁ }) (h1.extBut hs₁.extBut D.i1z) (hl1.extBut hs₁.extBut D.l1z) hx fun h₂ h1₂ hs₂ => wpAny_pure ?_)
  refine wpAny_pure ?_
  refine wpAny_bind (wpAny_bind (wpAny_holding ?_))
  show wpAny _ _ (Builtin.SmallTypes.nextOf (.ref i2) >>= _) _ _ _
  refine wpAny_bind (nextOf_tuple_item (s := { s with heap := h₂ }) ((h2.extBut hs₁.extBut D.i2z).extBut hs₂.extBut D.i12.symm) ((hl2.extBut hs₁.extBut D.l2z).extBut hs₂.extBut D.l2i1) hy fun h₃ h2₃ hs₃ => wpAny_pure ?_)
  refine wpAny_pure (wpAny_pure ?_)
  show wpAny _ _ (newTuple [x, y] >>= _) _ _ _
  refine wpAny_bind (wpAny_newTuple ?_)
  have hsz : h₃.objs.size = s.heap.objs.size := by rw [hs₃.1, hs₂.1, hs₁.1]
  have hz₃ : IsZipHeld h₃ z TI TO T true := hs₃.extBut _ _ D.i2z.symm (hs₂.extBut _ _ D.i1z.symm hz₁)
  have hk : ∀ c o, c ≠ z → c ≠ i1 → c ≠ i2 → s.heap.get? c = some o → h₃.get? c = some o := fun c o c1 c2 c3 e => hs₃.extBut _ _ c3 (hs₂.extBut _ _ c2 (hs₁.extBut _ _ c1 e))
  have h1₃ : h₃.IsTupleIter i1 l1 (k1 + 1) := h1₂.extBut hs₃.extBut D.i12
  refine wpAny_pure ⟨_, rfl, ?_⟩
  show Q (.ref h₃.objs.size) _
  have hp : IsPair (h₃.push { cls := .type "tuple", data := .seq #[x, y] }) h₃.objs.size x y := Heap.get?_push_size _ rfl
  have hz4 : (h₃.push { cls := .type "tuple", data := .seq #[x, y] }).objs.size = h₃.objs.size + 1 := Heap.size_push ..
  rw [hsz] at hp hz4 ⊢
  exact hQ _ (Heap.get?_push_of_some _ hz₃) (h1₃.at fun o e => Heap.get?_push_of_some _ e) (h2₃.at fun o e => Heap.get?_push_of_some _ e) hp hz4 fun c o c1 c2 c3 e => Heap.get?_push_of_some _ (hk c o c1 c2 c3 e)
open PySem.W in
theorem pd_zip_end {z TI TO T i1 i2 l1 l2 : Addr} {f : Bool} {oT : Obj} {k1 k2 : Nat} {xs ys : Array Value} {Q : Fin → Shared → Prop} (hh : A.handled = none) (D : ZipApart z TI TO i1 i2 l1 l2)
    (hz : IsZipHeld s.heap z TI TO T f) (hT : s.heap.get? T = some oT) (hTI : IsPair s.heap TI (.ref i1) (.ref i2))
    (h1 : s.heap.IsTupleIter i1 l1 k1) (h2 : s.heap.IsTupleIter i2 l2 k2) (hl1 : s.heap.IsTuple l1 xs) (hl2 : s.heap.IsTuple l2 ys) (hend : xs[k1]? = none ∨ ys[k2]? = none)
    (hE : ∀ h' e, (∀ c o, c ≠ z → c ≠ i1 → c ≠ i2 → s.heap.get? c = some o → h'.get? c = some o) → (∃ o, h'.get? e = some o ∧ o.cls = .type "StopIteration") → E (.ref e) { s with heap := h' }) :
    wpAny (model prog w) A (Builtin.«zip.__next__» ⟨[.ref z], []⟩) Q E s := by
  show wpAny _ _ (field (.ref z) 2 >>= _) _ _ _
  refine wpAny_bind (wpAny_field hz rfl (x := .bool false) rfl ?_)
  show wpAny _ _ (field (.ref z) 3 >>= _) _ _ _
  refine wpAny_bind (wpAny_field hz rfl (x := .ref TI) rfl ?_)
  refine wpAny_bind (wpAny_seqItems hTI rfl ?_)
  show wpAny _ _ (Builtin.SmallTypes.ownedTupleIsFree (.ref z) >>= _) _ _ _
  refine wpAny_bind (wpAny_tupleHeld_zip hz hT fun h₁ hz₁ hs₁ => ?_)
  simp only [Bool.false_eq_true, if_false]
  refine wpAny_bind ?_
  rw [← Array.forIn_toList]
  simp only [List.forIn_cons, List.forIn_nil]
  refine wpAny_bind (wpAny_bind (wpAny_holding ?_))
  show wpAny _ _ (Builtin.SmallTypes.nextOf (.ref i1) >>= _) _ _ _
  cases hx : xs[k1]? with
  | none =>
    refine wpAny_bind (nextOf_tuple_end (s := { s with heap := h₁ }) hh (h1.extBut hs₁.extBut D.i1z) (hl1.extBut hs₁.extBut D.l1z) hx fun h₂ e hs₂ he => ?_)
    exact hE h₂ e (fun c o c1 c2 _ x => hs₂ _ _ c2 (hs₁.extBut _ _ c1 x)) he
  | some x =>
    have hy : ys[k2]? = none := by rcases hend with h | h; rw [hx] at h; cases h; exact h
    refine wpAny_bind (nextOf_tuple_item (s := { s with heap := h₁ }) (h1.extBut hs₁.extBut D.i1z) (hl1.extBut hs₁.extBut D.l1z) hx fun h₂ h1₂ hs₂ => wpAny_pure ?_)
    refine wpAny_pure ?_
    refine wpAny_bind (wpAny_bind (wpAny_holding ?_))
    show wpAny _ _ (Builtin.SmallTypes.nextOf (.ref i2) >>= _) _ _ _
    refine wpAny_bind (nextOf_tuple_end (s := { s with heap := h₂ }) hh ((h2.extBut hs₁.extBut D.i2z).extBut hs₂.extBut D.i12.symm) ((hl2.extBut hs₁.extBut D.l2z).extBut hs₂.extBut D.l2i1) hy fun h₃ e hs₃ he => ?_)
    exact hE h₃ e (fun c o c1 c2 c3 x => hs₃ _ _ c3 (hs₂.extBut _ _ c2 (hs₁.extBut _ _ c1 x))) he
open PySem.W in
theorem pd_next_item {z TI TO T i1 i2 l1 l2 : Addr} {f : Bool} {oT : Obj} {k1 k2 : Nat} {xs ys : Array Value} {x y : Value} {Q : Option Value → Shared → Prop} (D : ZipApart z TI TO i1 i2 l1 l2)
    (hz : IsZipHeld s.heap z TI TO T f) (hT : s.heap.get? T = some oT) (hTI : IsPair s.heap TI (.ref i1) (.ref i2))
    (h1 : s.heap.IsTupleIter i1 l1 k1) (h2 : s.heap.IsTupleIter i2 l2 k2) (hl1 : s.heap.IsTuple l1 xs) (hl2 : s.heap.IsTuple l2 ys) (hx : xs[k1]? = some x) (hy : ys[k2]? = some y)
    (hQ : ∀ h', IsZipHeld h' z TI TO T true → h'.IsTupleIter i1 l1 (k1 + 1) → h'.IsTupleIter i2 l2 (k2 + 1) → IsPair h' s.heap.objs.size x y → h'.objs.size = s.heap.objs.size + 1 →
      (∀ c o, c ≠ z → c ≠ i1 → c ≠ i2 → s.heap.get? c = some o → h'.get? c = some o) → Q (some (.ref s.heap.objs.size)) { s with heap := h' }) :
    wpAny (model prog w) A (pyNext (.ref z)) Q E s := by
  have hTy : s.TypeIs (.ref z) "zip" := ⟨_, hz, rfl⟩
  unfold pyNext
  exact wpAny_bind (wpAny_attempt (wpAny_callSpecial?_slot (name := Str.ofString "__next__") hTy F.slot_zip_next
    (wpAny_call_entry F.slot_zip_next hTy F.entry_zip_next
      (pd_zip_item D hz hT hTI h1 h2 hl1 hl2 hx hy fun h' a1 a3 a4 a5 a6 a7 => wpAny_pure (hQ h' a1 a3 a4 a5 a6 a7)) (F.args_zip_next_1 _))))
open PySem.W in
theorem pd_next_end {z TI TO T i1 i2 l1 l2 : Addr} {f : Bool} {oT : Obj} {k1 k2 : Nat} {xs ys : Array Value} {Q : Option Value → Shared → Prop} (hh : A.handled = none) (D : ZipApart z TI TO i1 i2 l1 l2)
    (hz : IsZipHeld s.heap z TI TO T f) (hT : s.heap.get? T = some oT) (hTI : IsPair s.heap TI (.ref i1) (.ref i2))
    (h1 : s.heap.IsTupleIter i1 l1 k1) (h2 : s.heap.IsTupleIter i2 l2 k2) (hl1 : s.heap.IsTuple l1 xs) (hl2 : s.heap.IsTuple l2 ys) (hend : xs[k1]? = none ∨ ys[k2]? = none)
    (hQ : ∀ h', (∀ c o, c ≠ z → c ≠ i1 → c ≠ i2 → s.heap.get? c = some o → h'.get? c = some o) → Q none { s with heap := h' }) :
    wpAny (model prog w) A (pyNext (.ref z)) Q E s := by
  have hTy : s.TypeIs (.ref z) "zip" := ⟨_, hz, rfl⟩
  unfold pyNext
  refine wpAny_bind (wpAny_attempt (wpAny_callSpecial?_slot (name := Str.ofString "__next__") hTy F.slot_zip_next
    (wpAny_call_entry F.slot_zip_next hTy F.entry_zip_next (pd_zip_end hh D hz hT hTI h1 h2 hl1 hl2 hend fun h' e hk he => ?_) (F.args_zip_next_1 _))))
  obtain ⟨o, ho, hc⟩ := he
  refine wpAny_bind (wpAny_isInstance (T := "StopIteration") (b := true) ⟨o, ho, hc⟩ isSubtype_stop ?_)
  exact wpAny_pure (hQ _ hk)
/-- a zip of two tuples, so many pairs told, the first of them held -/
def ZSt (h : Heap) (z TI TO i1 i2 a b S : Addr) (i : Nat) : Prop :=
  IsPair h TI (.ref i1) (.ref i2) ∧ h.IsTupleIter i1 a i ∧ h.IsTupleIter i2 b i ∧
    (∃ x y, IsPair h TO x y) ∧ (IsZip h z TI TO .none ∨ ∃ T f oT, IsZipHeld h z TI TO T f ∧ h.get? T = some oT ∧ T ≠ z ∧ T ≠ i1 ∧ T ≠ i2 ∧ T ≠ S)
theorem ZSt.obj {h : Heap} {z TI TO i1 i2 a b S : Addr} {i : Nat} (Z : ZSt h z TI TO i1 i2 a b S i) : (∃ o, h.get? z = some o) ∧ (∃ o, h.get? i1 = some o) ∧ ∃ o, h.get? i2 = some o := by
  obtain ⟨_, ⟨o1, e1, _⟩, ⟨o2, e2, _⟩, _, q⟩ := Z
  refine ⟨?_, ⟨o1, e1⟩, ⟨o2, e2⟩⟩
  rcases q with q | ⟨_, _, _, q, _⟩
  · exact ⟨_, q⟩
  · exact ⟨_, q⟩
theorem ZSt.typ {z TI TO i1 i2 a b S : Addr} {i : Nat} (Z : ZSt s.heap z TI TO i1 i2 a b S i) : s.TypeIs (.ref z) "zip" := by
  obtain ⟨_, _, _, _, q⟩ := Z
  rcases q with q | ⟨_, _, _, q, _⟩
  · exact ⟨_, q, rfl⟩
  · exact ⟨_, q, rfl⟩
/-- the list is written -/
theorem ZSt.upd {h h' : Heap} {z TI TO i1 i2 a b S : Addr} {i : Nat} (Z : ZSt h z TI TO i1 i2 a b S i) (n1 : z ≠ S) (n2 : TI ≠ S) (n3 : TO ≠ S) (n4 : i1 ≠ S) (n5 : i2 ≠ S) (k : ∀ c o, c ≠ S → h.get? c = some o → h'.get? c = some o) : ZSt h' z TI TO i1 i2 a b S i := by
  obtain ⟨q1, q2, q3, ⟨x, y, q'⟩, q⟩ := Z
  refine ⟨k _ _ n2 q1, q2.at fun o e => k _ o n4 e, q3.at fun o e => k _ o n5 e, ⟨x, y, k _ _ n3 q'⟩, ?_⟩
  rcases q with q | ⟨T, f, oT, q, q4, q5, q6, q7, q8⟩
  · exact .inl (k _ _ n1 q)
  · exact .inr ⟨T, f, oT, k _ _ n1 q, k _ _ q8 q4, q5, q6, q7, q8⟩
theorem ZSt.item {z TI TO i1 i2 a b S : Addr} {i : Nat} (Z : ZSt s.heap z TI TO i1 i2 a b S i) (D : ZipApart z TI TO i1 i2 a b) (hSl : S < s.heap.objs.size) {xs ys : Array Value} {x y : Value} {Q : Option Value → Shared → Prop}
    (hl1 : s.heap.IsTuple a xs) (hl2 : s.heap.IsTuple b ys) (hx : xs[i]? = some x) (hy : ys[i]? = some y)
    (hQ : ∀ h', ZSt h' z TI TO i1 i2 a b S (i + 1) → IsPair h' s.heap.objs.size x y → h'.objs.size = s.heap.objs.size + 1 → (∀ c o, c ∉ [z, TI, TO, i1, i2] → s.heap.get? c = some o → h'.get? c = some o) → Q (some (.ref s.heap.objs.size)) { s with heap := h' }) :
    wpAny (model prog w) A (pyNext (.ref z)) Q E s := by
  obtain ⟨⟨_, z1⟩, ⟨_, z2⟩, ⟨_, z3⟩⟩ := Z.obj
  have k1 := Heap.lt_size z1
  have k2 := Heap.lt_size z2
  have k3 := Heap.lt_size z3
  obtain ⟨q1, q2, q3, ⟨x0, y0, q'⟩, q⟩ := Z
  rcases q with q | ⟨T, f, oT, q, q4, q5, q6, q7, q8⟩
  · refine pyNext_zipT_item D q q1 q' q2 q3 hl1 hl2 hx hy fun h' a1 a2 a3 a4 a5 a6 a7 => hQ h' ⟨a7 _ _ D.TIz D.TITO D.TIi1 D.TIi2 q1, a3, a4, ⟨_, _, a2⟩, .inr ⟨_, false, _, a1, a5, ?_, ?_, ?_, ?_⟩⟩ a5 a6 fun c o hc e => ?_
    · exact Nat.ne_of_gt k1
    · exact Nat.ne_of_gt k2
    · exact Nat.ne_of_gt k3
    · exact Nat.ne_of_gt hSl
    · exact a7 c o (fun z => hc (by simp [z])) (fun z => hc (by simp [z])) (fun z => hc (by simp [z])) (fun z => hc (by simp [z])) e
  · refine pd_next_item D q q4 q1 q2 q3 hl1 hl2 hx hy fun h' a1 a3 a4 a5 a6 a7 => hQ h' ⟨a7 _ _ D.TIz D.TIi1 D.TIi2 q1, a3, a4, ⟨x0, y0, a7 _ _ D.TOz D.TOi1 D.TOi2 q'⟩, .inr ⟨T, true, oT, a1, a7 _ _ q5 q6 q7 q4, q5, q6, q7, q8⟩⟩ a5 a6 fun c o hc e => ?_
    exact a7 c o (fun z => hc (by simp [z])) (fun z => hc (by simp [z])) (fun z => hc (by simp [z])) e
theorem ZSt.end {z TI TO i1 i2 a b S : Addr} {i : Nat} (Z : ZSt s.heap z TI TO i1 i2 a b S i) (hh : A.handled = none) (D : ZipApart z TI TO i1 i2 a b) {xs ys : Array Value} {Q : Option Value → Shared → Prop}
    (hl1 : s.heap.IsTuple a xs) (hl2 : s.heap.IsTuple b ys) (hend : xs[i]? = none ∨ ys[i]? = none)
    (hQ : ∀ h', (∀ c o, c ∉ [z, TI, TO, i1, i2] → s.heap.get? c = some o → h'.get? c = some o) → Q none { s with heap := h' }) :
    wpAny (model prog w) A (pyNext (.ref z)) Q E s := by
  obtain ⟨q1, q2, q3, ⟨x0, y0, q'⟩, q⟩ := Z
  rcases q with q | ⟨T, f, oT, q, q4, q5, q6, q7, q8⟩
  · exact pyNext_zipT_end hh D q q1 q' q2 q3 hl1 hl2 hend fun h' a7 => hQ h' fun c o hc e => a7 c o (fun z => hc (by simp [z])) (fun z => hc (by simp [z])) (fun z => hc (by simp [z])) (fun z => hc (by simp [z])) e
  · exact pd_next_end hh D q q4 q1 q2 q3 hl1 hl2 hend fun h' a7 => hQ h' fun c o hc e => a7 c o (fun z => hc (by simp [z])) (fun z => hc (by simp [z])) (fun z => hc (by simp [z])) e
theorem pd_iter_zip {z : Addr} {Q : Value → Shared → Prop} (hT : s.TypeIs (.ref z) "zip") (h : Q (.ref z) s) : wpAny (model prog w) A (pyIter (.ref z)) Q E s := by
  refine wpAny_pyIter_slot hT F.slot_zip_iter (wpAny_call_entry F.slot_zip_iter hT F.entry_zip_iter ?_ (F.args_zip_iter_1 _))
  show wpAny _ _ (ret (.ref z)) _ _ s
  exact wpAny_pure ⟨_, rfl, "zip", _, hT, F.slot_zip_next.lookup, h⟩
theorem pd_zip_len : typeLookup (.type "zip") "__len__" = pure none := am_miss_of_fast (by decide +kernel)
theorem pd_zip_hint : typeLookup (.type "zip") "__length_hint__" = pure none := am_miss_of_fast (by decide +kernel)
theorem pd_hint_zip {z : Addr} {Q : Bool → Shared → Prop} (ht : s.TypeIs (.ref z) "zip") (h : Q true s) : wpAny (model prog w) A (Builtin.List.listLengthHint (.ref z)) Q E s := by
  unfold Builtin.List.listLengthHint
  refine wpAny_bind (wpAny_specialOf ht pd_zip_len ?_)
  show wpAny _ A (specialOf (Value.ref z) (Str.ofString "__length_hint__") >>= _) _ _ _
  refine wpAny_bind (wpAny_specialOf ht pd_zip_hint ?_)
  exact wpAny_pure h
end
end RZ

set_option Elab.async false
set_option linter.all false
set_option maxRecDepth 100000
set_option maxHeartbeats 4000000
namespace PD
open PySem PySem.Spec PyProof.Rows L2
/-! ## list(zip(a, b)) -/
theorem Sto.set2 {S : Sto} {a : Addr} {x y : SO} : (S.set a x).set a y = S.set a y := by
  funext b
  unfold Sto.set
  by_cases h : b = a <;> simp [h]
section
variable {X : Cx} {pins : List (Addr × Obj)} {σ : L2.St} {A : Around}
theorem zloop {R : Result → Shared → Prop} (hh : A.handled = none) {z TI TO i1 i2 a b L : Addr} {res : Value} (D : ZipApart z TI TO i1 i2 a b) (hL : L ∉ [z, TI, TO, i1, i2]) {xs ys : List W} {S0 : Sto} (hn : (zipWW xs ys).length ≤ sizeLine) :
    ∀ (m i : Nat) (s : Shared) (H : Hp), (zipWW xs ys).length - i = m → i ≤ (zipWW xs ys).length → Inv X pins σ H s → LinkS X.K H (S0.set L (.lst ((zipWW xs ys).take i))) →
      RW X.K H (S0.set L (.lst ((zipWW xs ys).take i))) (.tup xs) (.ref a) → RW X.K H (S0.set L (.lst ((zipWW xs ys).take i))) (.tup ys) (.ref b) → (∀ c ∈ [z, TI, TO, i1, i2], FpOk X pins H c) → RZ.ZSt s.heap z TI TO i1 i2 a b L i →
      (∀ s' H', Inv X pins σ H' s' → LinkS X.K H' (S0.set L (.lst (zipWW xs ys))) → Ext H (S0.set L (.lst ((zipWW xs ys).take i))) H' (S0.set L (.lst (zipWW xs ys))) → R (.ok (.ret res)) s') →
      codeAny (model X.prog X.w) A (.builtin "list.extend.loop" ⟨[.ref L, .ref z, res], []⟩) R s := by
  intro m
  induction m with
  | zero =>
    intro i s H hm hi I l ra rb hf Z k
    have hii : i = (zipWW xs ys).length := by omega
    refine codeAny_builtin F.entry_extend_loop ?_
    rw [Around.under_plainId F.plain_extend_loop _]
    show wpAny _ A.in1 (pyNext (.ref z) >>= _) _ _ s
    obtain ⟨a', vs, ea, h1, h2⟩ := ra.tupT
    cases ea
    obtain ⟨b', us, eb, h3, h4⟩ := rb.tupT
    cases eb
    obtain ⟨its, rv, p, _⟩ := I.tuple h1
    obtain ⟨its2, rv2, p2, _⟩ := I.tuple h3
    have n1 := h2.len
    have n2 := h4.len
    have n3 := rv.length
    have n4 := rv2.length
    have hz : (zipWW xs ys).length = min xs.length ys.length := by simp [zipWW]
    refine wpAny_bind (Z.end (A := A.in1) hh D p p2 ?_ fun h' hk => ?_)
    · by_cases q : xs.length ≤ ys.length
      · left; simp; omega
      · right; simp; omega
    · have I1 : Inv X pins σ H { s with heap := h' } := I.turnedL (t' := s.toks) (ch := [z, TI, TO, i1, i2]) hk hf
      have e0 : (zipWW xs ys).take i = zipWW xs ys := by rw [hii, List.take_length]
      rw [e0] at l k
      exact wpAny_pure (k _ H I1 l .refl)
  | succ m ih =>
    intro i s H hm hi I l ra rb hf Z k
    have hz : (zipWW xs ys).length = min xs.length ys.length := by simp [zipWW]
    have hil : i < (zipWW xs ys).length := by omega
    refine codeAny_builtin F.entry_extend_loop ?_
    rw [Around.under_plainId F.plain_extend_loop _]
    show wpAny _ A.in1 (pyNext (.ref z) >>= _) _ _ s
    obtain ⟨a', vs, ea, h1, h2⟩ := ra.tupT
    cases ea
    obtain ⟨b', us, eb, h3, h4⟩ := rb.tupT
    cases eb
    obtain ⟨its, rv, p, _⟩ := I.tuple h1
    obtain ⟨its2, rv2, p2, _⟩ := I.tuple h3
    have hx : xs[i]? = some xs[i] := List.getElem?_eq_getElem (by omega)
    have hy : ys[i]? = some ys[i] := List.getElem?_eq_getElem (by omega)
    obtain ⟨x, ex, rx⟩ := h2.get hx
    obtain ⟨y, ey, ry⟩ := h4.get hy
    obtain ⟨u, hu, ru⟩ := rv.get ex
    obtain ⟨u2, hu2, ru2⟩ := rv2.get ey
    obtain ⟨o, hLH, ts, rfl, rts⟩ := l.at_ L _ Sto.set_same
    obtain ⟨zz, li, n, rl, hll, eL⟩ := I.lstM hLH
    have hLs : L < s.heap.objs.size := Heap.lt_size eL
    refine wpAny_bind (Z.item (A := A.in1) D hLs p p2 (x := u) (y := u2) (by simpa using hu) (by simpa using hu2) fun h' Z' hT hsz hk => ?_)
    have hTn : H s.heap.objs.size = none := I.hok.fresh (Nat.le_refl _)
    have new : ObjOk X.prog X.w (upd H s.heap.objs.size (.tup [x, y])) h' s.heap.objs.size (.tup [x, y]) :=
      ⟨by show 2 ≤ sizeLine; decide, [u, u2], .cons ru (.cons ru2 .nil), ⟨_, hT, rfl, _, rfl⟩⟩
    have I1 : Inv X pins σ (upd H s.heap.objs.size (.tup [x, y])) { s with heap := h' } :=
      I.turnedNew (t' := s.toks) (ch := [z, TI, TO, i1, i2]) hk hf (Nat.le_refl _) new
    have hne : L ≠ s.heap.objs.size := Nat.ne_of_lt hLs
    have hLH1 : (upd H s.heap.objs.size (.tup [x, y])) L = some (.lst ts) := by rw [upd_ne hne]; exact hLH
    have eL1 : h'.get? L = some { cls := .type "list", data := .seq li.toArray n } := hk L _ hL eL
    have e1 : Ext H (S0.set L (.lst ((zipWW xs ys).take i))) (upd H s.heap.objs.size (.tup [x, y])) (S0.set L (.lst ((zipWW xs ys).take i))) := ext_new hTn
    have l1 : LinkS X.K (upd H s.heap.objs.size (.tup [x, y])) (S0.set L (.lst ((zipWW xs ys).take i))) := l.new hTn
    have rT : RW X.K (upd H s.heap.objs.size (.tup [x, y])) (S0.set L (.lst ((zipWW xs ys).take i))) (.tup [xs[i], ys[i]]) (.ref s.heap.objs.size) := by
      unfold RW
      exact ⟨_, [x, y], rfl, .inl ⟨.inl upd_same, l.fresh hTn⟩, (RWs.cons rx (.cons ry .nil)).ext e1⟩
    have htk : (zipWW xs ys).take (i + 1) = (zipWW xs ys).take i ++ [.tup [xs[i], ys[i]]] := by
      rw [List.take_add_one, List.getElem?_eq_getElem hil]
      simp [zipWW]
    have hlen : ts.length = i := by
      have q := rts.len
      rw [List.length_take] at q
      omega
    have e2 : Ext (upd H s.heap.objs.size (.tup [x, y])) (S0.set L (.lst ((zipWW xs ys).take i))) (upd (upd H s.heap.objs.size (.tup [x, y])) L (.lst (ts ++ [.ref s.heap.objs.size]))) (S0.set L (.lst ((zipWW xs ys).take (i + 1)))) := by
      have q := ext_chg (H := upd H s.heap.objs.size (.tup [x, y])) (o := HO.lst (ts ++ [.ref s.heap.objs.size])) (so' := .lst ((zipWW xs ys).take (i + 1))) (S := S0.set L (.lst ((zipWW xs ys).take i))) (p := L) Sto.set_same
      rw [Sto.set2] at q
      exact q
    have l2 : LinkS X.K (upd (upd H s.heap.objs.size (.tup [x, y])) L (.lst (ts ++ [.ref s.heap.objs.size]))) (S0.set L (.lst ((zipWW xs ys).take (i + 1)))) := by
      have q := l1.put (p := L) (o := HO.lst (ts ++ [.ref s.heap.objs.size])) (so := .lst ((zipWW xs ys).take (i + 1))) (by rw [Sto.set2]; exact e2) (by rw [htk]; exact .l ((rts.ext e1).append (.cons rT .nil)))
      rw [Sto.set2] at q
      exact q
    have hli : li.length = i := by rw [← hll, hlen]
    show wpAny _ A.in1 (updateSeq L (·.push (Value.ref s.heap.objs.size)) >>= _) _ _ _
    refine wpAny_bind ?_
    refine wpAny_updateSeq (s := { s with heap := h' }) eL1 rfl (wpAny_pure ⟨plainId_quiet F.plain_extend_loop _, ?_⟩) (by rw [List.size_toArray]; omega) (by show (li.toArray.push _).size ≤ sizeLine + 1; rw [Array.size_push, List.size_toArray]; omega)
    have I2 : Inv X pins σ (upd (upd H s.heap.objs.size (.tup [x, y])) L (.lst (ts ++ [.ref s.heap.objs.size]))) { s with heap := h'.update L (Obj.mapSeq fun q => q.push (Value.ref s.heap.objs.size)), toks := s.toks } :=
      Inv.lset (s := { s with heap := h' }) (t' := s.toks) (its' := li ++ [Value.ref s.heap.objs.size]) I1 hLH1 eL1 (by simp) (rl.append (.cons rfl .nil)) (by rw [List.length_append, List.length_singleton]; omega)
    refine ih (i + 1) _ _ (by omega) (by omega) I2 l2 (((ra.ext e1)).ext e2) ((rb.ext e1).ext e2) (fun c hc => ?_) (Z'.upd (fun q => hL (by simp [q])) (fun q => hL (by simp [q])) (fun q => hL (by simp [q])) (fun q => hL (by simp [q])) (fun q => hL (by simp [q])) fun c o hc e => (Heap.get?_update_other _ _ (Ne.symm hc)).trans e) fun s' H' I' l' e' => k s' H' I' l' ((e1.trans e2).trans e')
    have hfc := hf c hc
    refine ⟨?_, hfc.2⟩
    have c1 : c ≠ L := fun q => hL (by rw [← q]; exact hc)
    have c2 : c ≠ s.heap.objs.size := by
      obtain ⟨⟨_, z1⟩, ⟨_, z2⟩, ⟨_, z3⟩⟩ := Z.obj
      have e' : c = z ∨ c = TI ∨ c = TO ∨ c = i1 ∨ c = i2 := by simpa using hc
      rcases e' with q | q | q | q | q
      · rw [q]; exact Nat.ne_of_lt (Heap.lt_size z1)
      · rw [q]; exact Nat.ne_of_lt (Heap.lt_size Z.1)
      · rw [q]
        obtain ⟨_, _, w⟩ := Z.2.2.2.1
        exact Nat.ne_of_lt (Heap.lt_size w)
      · rw [q]; exact Nat.ne_of_lt (Heap.lt_size z2)
      · rw [q]; exact Nat.ne_of_lt (Heap.lt_size z3)
    rw [upd_ne c1, upd_ne c2]
    exact hfc.1
theorem call_list_zip {z TI TO i1 i2 a b : Addr} {s : Shared} {H : Hp} {S0 : Sto} {xs ys : List W} {Qh : VK} (hc : X.calm = true) (D : ZipApart z TI TO i1 i2 a b) (hn : (zipWW xs ys).length ≤ sizeLine) (I : Inv X pins σ H s) (l : LinkS X.K H S0)
    (ra : RW X.K H S0 (.tup xs) (.ref a)) (rb : RW X.K H S0 (.tup ys) (.ref b)) (hf : ∀ c ∈ [z, TI, TO, i1, i2], FpOk X pins H c ∧ c < s.heap.objs.size)
    (Z : ∀ L, s.heap.objs.size ≤ L → RZ.ZSt s.heap z TI TO i1 i2 a b L 0)
    (k : ∀ p H', H p = none → LinkS X.K H' (S0.set p (.lst (zipWW xs ys))) → Ext H S0 H' (S0.set p (.lst (zipWW xs ys))) → Qh (.ref p) H') :
    wpAny (model X.prog X.w) X.A (call (.type "list") [.ref z]) (EP X pins σ Qh) X.xe s := by
  refine callType_codes (Q₁ := fun obj s₁ => obj = .ref s.heap.objs.size ∧ s₁ = { s with heap := s.heap.push { cls := .type "list", data := .seq #[] } }) F.called_list (F.typeCall_list_1 _) F.entry_list_init
    (code_list_new _ ⟨rfl, rfl⟩) fun obj s₁ h₁ => ?_
  obtain ⟨rfl, rfl⟩ := h₁
  have hS : (s.heap.push { cls := .type "list", data := .seq #[] }).get? s.heap.objs.size = some { cls := .type "list", data := .seq #[] } := Heap.get?_push_size _ rfl
  have hzL : s.heap.objs.size ≠ z := Nat.ne_of_gt (hf z (by simp)).2
  refine ⟨⟨_, hS, rfl⟩, F.args_list_init_2 _ _, ?_⟩
  show wpAny _ X.A.in1.in1 (do let old ← Builtin.List.listItems (.ref s.heap.objs.size); Builtin.List.listUpdate (.ref s.heap.objs.size) (fun _ => #[]); letGo old.toList.reverse; Builtin.List.listExtendWith (.ref s.heap.objs.size) (.ref z) .none) _ _ _
  refine wpAny_bind ?_
  unfold Builtin.List.listItems
  refine wpAny_bind (wpAny_seqItems hS rfl (wpAny_pure ?_))
  show wpAny _ _ (updateSeq s.heap.objs.size (fun _ => #[]) >>= fun _ => letGo (#[] : Array Value).toList.reverse >>= fun _ => Builtin.List.listExtendWith (.ref s.heap.objs.size) (.ref z) .none) _ _ _
  refine wpAny_bind (wpAny_updateSeq hS rfl ?_)
  have hS2 := Heap.get?_update_self (Obj.mapSeq (fun _ => (#[] : Array Value))) hS rfl
  refine wpAny_bind (wpAny_letGo ?_)
  unfold Builtin.List.listExtendWith
  have up : ∀ (h : Heap) (f : Obj → Obj), (∀ b o, s.heap.get? b = some o → h.get? b = some o) → ∀ b o, s.heap.get? b = some o → (h.update s.heap.objs.size f).get? b = some o := fun h f q b o e =>
    (Heap.get?_update_other _ _ (Ne.symm (Nat.ne_of_lt (Heap.lt_size e)))).trans (q b o e)
  have k1 : ∀ b o, s.heap.get? b = some o → (s.heap.push { cls := .type "list", data := .seq #[] }).get? b = some o := fun b o e => Heap.get?_push_of_some _ e
  have k2 := up _ (Obj.mapSeq (fun _ => (#[] : Array Value))) k1
  have Z0 := Z s.heap.objs.size (Nat.le_refl _)
  have ne : ∀ c ∈ [z, TI, TO, i1, i2], c ≠ s.heap.objs.size := fun c hc => Nat.ne_of_lt (hf c hc).2
  have ty : ∀ (h : Heap), (∀ b o, s.heap.get? b = some o → h.get? b = some o) → RZ.ZSt h z TI TO i1 i2 a b s.heap.objs.size 0 := fun h q => Z0.upd (ne _ (by simp)) (ne _ (by simp)) (ne _ (by simp)) (ne _ (by simp)) (ne _ (by simp)) fun c o _ e => q c o e
  have t2 := RZ.ZSt.typ (s := { s with heap := (s.heap.push { cls := .type "list", data := .seq #[] }).update s.heap.objs.size (Obj.mapSeq (fun _ => (#[] : Array Value))) }) (ty _ k2)
  refine wpAny_bind (wpAny_typeOf t2 ?_)
  have h1 : Builtin.List.listSameRef (.ref s.heap.objs.size) (.ref z) = false := by simp [Builtin.List.listSameRef, hzL]
  have h2 : (Value.type "zip" == Value.type "list") = false := by decide
  have h3 : (Value.type "zip" == Value.type "tuple") = false := by decide
  simp only [h1, h2, h3, Bool.or_false, Bool.false_eq_true, if_false]
  refine wpAny_bind (RZ.pd_iter_zip t2 ?_)
  refine wpAny_bind (wpAny_holding (RZ.pd_hint_zip t2 ?_))
  show wpAny _ X.A.in1.in1 (rule "list.extend.makes-room" >>= fun _ => Builtin.List.listTouch (.ref s.heap.objs.size) >>= fun _ =>
    again (.builtin "list.extend.loop" ⟨[.ref s.heap.objs.size, .ref z, .none], []⟩)) _ _ _
  refine wpAny_bind (wpAny_rule ?_)
  refine wpAny_bind ?_
  show wpAny _ X.A.in1.in1 (updateSeq s.heap.objs.size (·.push .none) >>= fun _ => updateSeq s.heap.objs.size (·.pop)) _ _ _
  refine wpAny_bind (wpAny_updateSeq hS2 rfl ?_)
  have hS3 := Heap.get?_update_self (Obj.mapSeq (·.push Value.none)) hS2 rfl
  refine wpAny_updateSeq (hz := by seq_fits) hS3 rfl ?_
  have hS4 := Heap.get?_update_self (Obj.mapSeq (·.pop)) hS3 rfl
  have k4 := up _ (Obj.mapSeq (·.pop)) (up _ (Obj.mapSeq (·.push Value.none)) k2)
  refine wpAny_pure ⟨plainId_quiet F.plain_extend_loop _, ?_⟩
  have hLn : H s.heap.objs.size = none := I.hok.fresh (Nat.le_refl _)
  have I1 := I.laid (a := s.heap.objs.size) (o := .lst []) (t' := s.toks) k4 (Nat.le_refl _) ⟨Nat.zero_le _, [], _, .nil, hS4⟩
  have e0 : Ext H S0 (upd H s.heap.objs.size (.lst [])) (S0.set s.heap.objs.size (.lst ((zipWW xs ys).take 0))) := ext_newS hLn
  have l0 : LinkS X.K (upd H s.heap.objs.size (.lst [])) (S0.set s.heap.objs.size (.lst ((zipWW xs ys).take 0))) := l.put e0 (.l .nil)
  refine zloop (A := X.A.in1) (S0 := S0) (xs := xs) (ys := ys) (show X.A.in1.handled = none from I.ok.hd hc) D (fun q => ne _ q rfl) hn _ 0 _ _ rfl (Nat.zero_le _) I1 l0 (ra.ext e0) (rb.ext e0) (fun c hc' => ?_) (ty _ k4) fun s' H' I' l' e' => ⟨rfl, .ref s.heap.objs.size, H', I', rfl, k _ _ hLn l' (e0.trans e')⟩
  obtain ⟨q, q'⟩ := (hf c hc').1
  exact ⟨by rw [upd_ne (ne c hc')]; exact q, q'⟩
variable {Ê : L2.St → XK} {wa wb : PD.WE} {pa pb : Expr}
theorem we_lzip {p p2 q pos : Pos} (hc : X.calm = true) (hg : Gl X "list") (hm : X.mg "list" = none) (hg2 : Gl X "zip") (hm2 : X.mg "zip" = none) (hs1 : starEach [pa, pb] X.env = (false, eval pa X.env) :: starEach [pb] X.env) (hs2 : starEach [pb] X.env = [(false, eval pb X.env)])
    (ha : PE X pa (LE X.K Ê wa)) (hb : PE X pb (LE X.K Ê wb)) :
    PE X (.Call (.Name "list" p) [.Call (.Name "zip" p2) [pa, pb] [] q] [] pos) (LE X.K Ê fun σ S Q Y => wa σ S (fun x S1 => wb σ S1 (fun y S2 => ∃ xs ys, x = .tup xs ∧ y = .tup ys ∧ ∀ p, S2 p = none → Q (.ref p) (S2.set p (.lst (zipWW xs ys)))) Y) Y) := by
  refine ⟨fun pins s τ H Qh I h => ?_⟩
  refine wpAny_Call_Name_kw (ld_blt (u := .type "list") I hg hm (by decide +kernel) (PyProof.Rows.callWith_type1 ?_))
  show wpAny _ _ (spliced [(false, eval (.Call (.Name "zip" p2) [pa, pb] [] q) X.env)]) _ _ s
  refine Calls.spliced_cons ?_
  refine Call_ (ld_blt I hg2 hm2 PyProof.Rows.boot_zip (PyProof.Rows.callWith_type1 (thn ((pa_cons ha (pa_cons hb pa_nil hs2) hs1).run q pins s τ H (fun vs H1 => ∃ a b xs ys S2, vs = [.ref a, .ref b] ∧ LinkS X.K H1 S2 ∧ RW X.K H1 S2 (.tup xs) (.ref a) ∧ RW X.K H1 S2 (.tup ys) (.ref b) ∧
      ∀ p H', H1 p = none → LinkS X.K H' (S2.set p (.lst (zipWW xs ys))) → Ext H1 S2 H' (S2.set p (.lst (zipWW xs ys))) → Qh (.ref p) H') I ?_) fun us s1 ⟨vs, H1, I1, r1, q1⟩ => ?_) hs1 (by rw [hs2]; rfl)))
  · obtain ⟨σ, S, Q, Y, hs, hl, hw, k, hx⟩ := h
    refine LE.mk hs hl hx hw fun x S1 v H1 e1 l1 s1 x1 r1 q1 => LE.mk s1 l1 x1 q1 fun y S2 u H2 e2 l2 s2 x2 r2 ⟨xs, ys, ex, ey, q⟩ => ?_
    subst ex
    subst ey
    have r1' := r1.ext e2
    obtain ⟨a, vs, rfl, _⟩ := r1'.tupT
    obtain ⟨b, us, rfl, _⟩ := r2.tupT
    exact ⟨a, b, xs, ys, S2, rfl, l2, r1', r2, fun p H' hp l' e' => k _ _ _ _ ((e1.trans e2).trans e') l' .r (q p (l2.fresh hp))⟩
  · obtain ⟨a, b, xs, ys, S2, rfl, l, ra, rb, kk⟩ := q1
    cases r1 with
    | cons r rr =>
      cases rr with
      | cons r' rr =>
        cases rr
        cases r
        cases r'
        obtain ⟨a', vs, ea, h1, h2⟩ := ra.tupT
        cases ea
        obtain ⟨b', us, eb, h3, h4⟩ := rb.tupT
        cases eb
        obtain ⟨its, rv, p1, z1⟩ := I1.tuple h1
        obtain ⟨its2, rv2, p2, z2⟩ := I1.tuple h3
        obtain ⟨o1, ho1, _⟩ := id p1
        obtain ⟨o2, ho2, _⟩ := id p2
        refine RZ.call_zipT (show s1.heap.IsTuple a its.toArray from p1) (show s1.heap.IsTuple b its2.toArray from p2) fun h' hz hTI hTO hi1 hi2 hsz hk => Calls.spliced_nil ?_
        have I2 : Inv X pins τ H1 { s1 with heap := h' } := I1.kept (t' := s1.toks) hk
        refine call_list_zip (S0 := S2) (xs := xs) (ys := ys) hc (PySem.W.ktu_apart s1.heap.objs.size a b (Heap.lt_size ho1) (Heap.lt_size ho2)) ?_ I2 l ra rb (fun c hcm => ?_) (fun L hL => ⟨hTI, hi1, hi2, ⟨_, _, hTO⟩, .inl hz⟩) kk
        · have q := h2.len
          have : (zipWW xs ys).length = min xs.length ys.length := by simp [zipWW]
          omega
        · have e' : c = s1.heap.objs.size + 4 ∨ c = s1.heap.objs.size + 2 ∨ c = s1.heap.objs.size + 3 ∨ c = s1.heap.objs.size ∨ c = s1.heap.objs.size + 1 := by simpa using hcm
          have hle : s1.heap.objs.size ≤ c := by
            rcases e' with z | z | z | z | z
            · rw [z]; exact Nat.le_add_right _ _
            · rw [z]; exact Nat.le_add_right _ _
            · rw [z]; exact Nat.le_add_right _ _
            · rw [z]; exact Nat.le_refl _
            · rw [z]; exact Nat.le_add_right _ _
          refine ⟨I1.fpOk hle (I1.hok.fresh hle), ?_⟩
          show c < h'.objs.size
          rw [hsz]
          rcases e' with z | z | z | z | z <;> (rw [z]; first | exact Nat.add_lt_add_left (by decide) _ | exact Nat.lt_add_of_pos_right (by decide))
end
end PD

set_option Elab.async false
set_option linter.all false
set_option maxRecDepth 100000
set_option maxHeartbeats 4000000
/-! x in l, told of one model alone -/
namespace PySem.SeqAt
open AutoSeq1 (wpAny_loadPart')
open MeetsSeq MeetsSeq2 MeetsSeq3 SeqRoads2
section
variable {prog : Program} {w : World}
theorem pd_in_loop (l : Addr) (items : Array Value) (n : Nat) (dd : Option Addr) (sl : Array (Option Value)) (x : Value) (e : Value → Bool) (k : Nat) :
    ∀ i : Nat, items.size - i = k → MeetsIn prog w (Builtin.«list.__contains__.loop» ⟨[.ref l, x, rawInt i], []⟩)
      (fun A R s => s.heap.get? l = some { cls := .type "list", dict := dd, data := .seq items n, slots := sl } ∧ (∀ y, y ∈ items → EqP prog w A.in1 s y x (e y)) ∧ R (.ok (.ret (.bool ((items.toList.drop i).any e)))) s) := by
  induction k with
  | zero =>
    intro i hk A R s h
    obtain ⟨hp, g, d, tk, os⟩ := s; obtain ⟨hl, he, h⟩ := h
    wp_walk using wpAny_loadPart' hl
    have hi : items[((i : Nat) : Int).toNat]? = none := by simp; omega
    have hd : items.toList.drop i = [] := by simp; omega
    rw [hd] at h
    rw [hi]
    wp_walk
    exact h
  | succ k ih =>
    intro i hk A R s h
    obtain ⟨hp, g, d, tk, os⟩ := s; obtain ⟨hl, he, h⟩ := h
    wp_walk using wpAny_loadPart' hl
    have hlt : i < items.size := by omega
    have hi : items[((i : Nat) : Int).toNat]? = some items[i] := by simp [hlt]
    have hd : items.toList.drop i = items[i] :: items.toList.drop (i + 1) := by simp [List.drop_eq_getElem_cons, hlt]
    rw [hd, List.any_cons] at h
    rw [hi]
    refine wpAny_bind (he _ (Array.getElem_mem hlt) _ _ ?_)
    cases hb : e items[i] with
    | true =>
      rw [hb] at h
      wp_walk
      exact h
    | false =>
      rw [hb] at h
      have hc : ((i : Int) + 1) = ((i + 1 : Nat) : Int) := by push_cast; rfl
      wp_walk
      rw [hc]
      exact ⟨plainId_quiet plain_contains_loop _, codeAny_builtin entry_contains_loop (by
        rw [Around.under_plainId plain_contains_loop _]
        exact ih (i + 1) (by omega) A R _ ⟨hl, he, by simpa using h⟩)⟩
theorem pd_contains (l : Addr) (items : Array Value) (n : Nat) (dd : Option Addr) (sl : Array (Option Value)) (x : Value) (e : Value → Bool) :
    MeetsIn prog w (Builtin.«list.__contains__» ⟨[.ref l, x], []⟩)
      (fun A R s => s.heap.get? l = some { cls := .type "list", dict := dd, data := .seq items n, slots := sl } ∧ (∀ y, y ∈ items → EqP prog w A.in1 s y x (e y)) ∧ R (.ok (.ret (.bool (items.any e)))) s) := by
  intro A R s h
  obtain ⟨hp, g, d, tk, os⟩ := s; obtain ⟨hl, he, h⟩ := h
  wp_walk using wpAny_loadPart' hl
  exact ⟨plainId_quiet plain_contains_loop _, codeAny_builtin entry_contains_loop (by
    rw [Around.under_plainId plain_contains_loop _]
    exact pd_in_loop l items n dd sl x e _ 0 rfl A R _ ⟨hl, he, by simpa using h⟩)⟩
section
variable {A : Around} {E : Value → Shared → Prop} {s : Shared} {l : Addr} {items : Array Value} {x : Value} {Q : Value → Shared → Prop}
theorem pd_in (e : Value → Bool) (hl : s.heap.IsList l items) (he : ∀ y, y ∈ items → EqP prog w A.in1 s y x (e y)) (h : Q (.bool (items.any e)) s) : wpAny (model prog w) A (compareOp .In x (.ref l)) Q E s := by
  obtain ⟨⟨cls, dd, data, sl⟩, ho, hc, n, hd⟩ := id hl
  simp only at hc hd
  subst hc hd
  show wpAny _ A (do return .bool (← contains (.ref l) x)) Q E s
  refine wpAny_bind (wpAny_contains_slot (T := "list") ⟨_, ho, rfl⟩ F.slot_list_contains (wpAny_mono (call_meetsIn F.slot_list_contains ⟨_, ho, rfl⟩ F.entry_list_contains (F.args_list_contains_2 _ _) (pd_contains l items n dd sl x e) (Q := fun v s' => ∃ b, v = .bool b ∧ Q (.bool b) s') (E := E) ⟨ho, he, _, rfl, h⟩) (fun v s' hv => ?_) fun _ _ e => e))
  obtain ⟨b, rfl, hq⟩ := hv
  exact wpAny_truthy_bool (wpAny_pure hq)
theorem pd_notIn (e : Value → Bool) (hl : s.heap.IsList l items) (he : ∀ y, y ∈ items → EqP prog w A.in1 s y x (e y)) (h : Q (.bool (!items.any e)) s) : wpAny (model prog w) A (compareOp .NotIn x (.ref l)) Q E s := by
  obtain ⟨⟨cls, dd, data, sl⟩, ho, hc, n, hd⟩ := id hl
  simp only at hc hd
  subst hc hd
  show wpAny _ A (do return .bool (!(← contains (.ref l) x))) Q E s
  refine wpAny_bind (wpAny_contains_slot (T := "list") ⟨_, ho, rfl⟩ F.slot_list_contains (wpAny_mono (call_meetsIn F.slot_list_contains ⟨_, ho, rfl⟩ F.entry_list_contains (F.args_list_contains_2 _ _) (pd_contains l items n dd sl x e) (Q := fun v s' => ∃ b, v = .bool b ∧ Q (.bool (!b)) s') (E := E) ⟨ho, he, _, rfl, h⟩) (fun v s' hv => ?_) fun _ _ e => e))
  obtain ⟨b, rfl, hq⟩ := hv
  exact wpAny_truthy_bool (wpAny_pure hq)
theorem pd_eq_same {a : Addr} : EqP prog w A s (.ref a) (.ref a) true := fun E Q hq => by
  unfold eqBool
  refine wpAny_holding ?_
  refine wpAny_ite_split (fun _ => ?_) (fun h => absurd (by simp) h)
  refine wpAny_bind (wpAny_rule ?_)
  exact wpAny_pure hq
end
end
end PySem.SeqAt
namespace PySem.W
theorem pd_hitsP {prog : Program} {w : World} {K : Type} [DecidableEq K] {A : Around} {s : Shared} {kb : List (K × Value)} : ∀ {ka : List (K × Value)} {r : Bool}, KeqHits A s kb ka r → KeqHitsP prog w A s kb ka r
  | _, _, .nil => .nil
  | _, _, .miss h => .miss h
  | _, _, .hit h1 h2 h3 => .hit h1 (SeqAt.EqAt.eqP h2) (pd_hitsP h3)
end PySem.W

set_option Elab.async false
set_option linter.all false
set_option maxRecDepth 100000
set_option maxHeartbeats 4000000
namespace PD
open PySem PySem.Spec PyProof.Rows L2
/-! ## x in l of places that hold dicts -/
section
variable {X : Cx} {pins : List (Addr × Obj)} {σ : L2.St} {H : Hp} {S : Sto} {s : Shared}
theorem inP_ref {x : W} : ∀ {ys : List W} {r : Bool}, inP S x ys = some r → ∀ y ∈ ys, ∃ e, inO S x y = some e
  | [], _, _, y, hy => by cases hy
  | z :: ys, r, h, y, hy => by
    have h' : ((inO S x z).bind fun e => (inP S x ys).map fun b => e || b) = some r := h
    cases q : inO S x z with
    | none => rw [q] at h'; cases h'
    | some e =>
      cases q2 : inP S x ys with
      | none => rw [q, q2] at h'; cases h'
      | some b =>
        rcases List.mem_cons.mp hy with t | t
        · rw [t]; exact ⟨e, q⟩
        · exact inP_ref q2 y t
/-- what is seen of a value -/
def seeI (S : Sto) (x : W) : Value → Bool
  | .ref p => (inO S x (.ref p)).getD false
  | _ => false
theorem inP_any {x : W} {K : PySem.W.Frag} : ∀ {ys : List W} {vs : List V} {us : List Value} {r : Bool}, inP S x ys = some r → RWs K H S ys vs → Vals vs us → us.any (seeI S x) = r ∧ ∀ u ∈ us, ∃ p q, u = .ref p ∧ x = .ref q ∧ ∃ e, inO S x (.ref p) = some e
  | [], vs, us, r, h, rv, ru => by
    have hv : vs = [] := by unfold RWs at rv; exact rv
    subst hv
    cases ru
    cases h
    exact ⟨rfl, fun u hu => by cases hu⟩
  | z :: ys, vs, us, r, h, rv, ru => by
    unfold RWs at rv
    obtain ⟨v, t, rfl, r1, r2⟩ := rv
    cases ru with
    | @cons _ u _ us' ru1 ru2 =>
      have h' : ((inO S x z).bind fun e => (inP S x ys).map fun b => e || b) = some r := h
      cases q : inO S x z with
      | none => rw [q] at h'; cases h'
      | some e =>
        cases q2 : inP S x ys with
        | none => rw [q, q2] at h'; cases h'
        | some b =>
          rw [q, q2] at h'
          cases h'
          obtain ⟨a1, a2⟩ := inP_any q2 r2 ru2
          cases x <;> cases z <;> first | (cases q; done) | skip
          rename_i qx p
          unfold RW at r1
          subst r1
          obtain rfl : u = Value.ref p := ru1
          refine ⟨?_, fun w hw => ?_⟩
          · rw [List.any_cons, a1]
            show ((inO S (.ref qx) (.ref p)).getD false || b) = (e || b)
            rw [q]; rfl
          · rcases List.mem_cons.mp hw with t | t
            · rw [t]; exact ⟨p, qx, rfl, rfl, e, q⟩
            · exact a2 w t
theorem inO_at (I : Inv X pins σ H s) (l : LinkS X.K H S) {A : Around} (hu : A.units + 64 < cLine) {p q : Addr} {e : Bool} (h : inO S (.ref q) (.ref p) = some e) : PySem.SeqAt.EqP X.prog X.w A s (.ref p) (.ref q) e := by
  have h' : (if p = q then some true else eqT (rd S (.ref p)) (rd S (.ref q))) = some e := h
  by_cases pq : p = q
  · rw [if_pos pq] at h'
    cases h'
    subst pq
    exact PySem.SeqAt.pd_eq_same
  · rw [if_neg pq] at h'
    have rp : RW X.K H S (.ref p) (.ref p) := by unfold RW; rfl
    have rq : RW X.K H S (.ref q) (.ref q) := by unfold RW; rfl
    generalize ea : rd S (.ref p) = a at h'
    generalize eb : rd S (.ref q) = b at h'
    unfold eqT at h'
    split at h'
    · exact absurd (rd_tup ea) (fun z => nomatch z)
    · obtain ⟨p', kvs, e1, h1, rfl, h3⟩ := rd_dct l rp ea
      cases e1
      obtain ⟨q', lvs, e2, k1, rfl, k3⟩ := rd_dct l rq eb
      cases e2
      obtain ⟨_, ya, va, va', da⟩ := dk_rd I.hok h1
      obtain ⟨_, yb, vb, vb', db⟩ := dk_rd I.hok k1
      have l1 := va'.length
      have l2 := vb'.length
      rw [List.length_map, List.length_map] at h'
      refine PySem.SeqAt.eqP_refs pq fun E Q hq => ?_
      by_cases hl : kvs.length = lvs.length
      · rw [if_pos hl] at h'
        refine PySem.W.rcP_dicts ya yb da db (by omega) (fun _ => PySem.W.pd_hitsP (hits_W I (show A.in1.units + 60 < cLine from ?_) vb' k3 va' h3 h')) E Q ?_
        · show A.units + 1 + 60 < cLine
          omega
        · rw [← l1, ← l2, hl, beq_self_eq_true, Bool.true_and]; exact hq
      · rw [if_neg hl] at h'
        cases h'
        refine PySem.W.rcP_dicts (r := false) ya yb da db (by omega) (fun z => absurd (by rw [l1, l2]; exact z) hl) E Q ?_
        rw [Bool.and_false]; exact hq
    · cases h'
def rInP (K : PySem.W.Frag) (neg : Bool) : R2 := fun x y H Q => ∃ S a ys b r, LinkS K H S ∧ RW K H S a x ∧ rd S b = .lst ys ∧ RW K H S b y ∧ inP S a ys = some r ∧ Q (.bl (if neg then !r else r)) H
theorem op_inp (hu : X.A.units + 66 < cLine) (neg : Bool) : OpR X (compareOp (if neg then .NotIn else .In)) (rInP X.K neg) := by
  intro pins s σ H x y v u Q I rx ry h
  obtain ⟨S, a, ys, b, r, l, ra, eb, rb, e, q⟩ := h
  obtain ⟨p, vs, rfl, h1, h2⟩ := rd_lst l rb eb
  obtain rfl : u = Value.ref p := ry
  obtain ⟨its, rv, pl, _⟩ := I.list h1
  obtain ⟨a1, a2⟩ := inP_any e h2 rv
  have he : ∀ y, y ∈ its.toArray → PySem.SeqAt.EqP X.prog X.w X.A.in1 s y v (seeI S a y) := fun y hy => by
    obtain ⟨p', q', rfl, rfl, e', he'⟩ := a2 y (by simpa using hy)
    unfold RW at ra
    subst ra
    obtain rfl : v = Value.ref q' := rx
    have := inO_at I l (A := X.A.in1) (by show X.A.units + 1 + 64 < cLine; omega) he'
    show PySem.SeqAt.EqP X.prog X.w X.A.in1 s _ _ ((inO S (.ref q') (.ref p')).getD false)
    rw [he']; exact this
  have fin : EP X pins σ Q (.bool (if neg then !r else r)) s := ⟨.bl _, H, I, rfl, q⟩
  have an : its.toArray.any (seeI S a) = r := by rw [← a1]; simp
  cases neg with
  | true => exact PySem.SeqAt.pd_notIn (seeI S a) pl.isList he (by rw [an]; exact fin)
  | false => exact PySem.SeqAt.pd_in (seeI S a) pl.isList he (by rw [an]; exact fin)
end
section
variable {X : Cx} {Ê : L2.St → XK} {wa wb : PD.WE} {pa pb : Expr} {pos : Pos}
theorem we_inp {neg : Bool} (hu : X.A.units + 66 < cLine) (hm : behindInMarks (if neg then CmpOp.NotIn else CmpOp.In) pb = false) (ha : PE X pa (LE X.K Ê wa)) (hb : PE X pb (LE X.K Ê wb)) :
    PE X (.Compare pa [if neg then CmpOp.NotIn else CmpOp.In] [pb] pos) (LE X.K Ê fun σ S Q Y => wa σ S (fun x S1 => wb σ S1 (fun y S2 => ∃ ys r, rd S2 y = .lst ys ∧ inP S2 x ys = some r ∧ Q (.bl (if neg then !r else r)) S2) Y) Y) :=
  (pe_cmpR (op_inp hu neg) ha hb hm).imp fun τ H Qh ⟨σ, S, Q, Y, hs, hl, hw, k, hx⟩ => LE.mk hs hl hx hw fun x S1 v H1 e1 l1 s1 x1 r1 q1 => LE.mk s1 l1 x1 q1 fun y S2 u H2 e2 l2 s2 x2 r2 ⟨ys, r, e, e', q⟩ =>
    ⟨S2, x, ys, y, r, l2, r1.ext e2, e, r2, e', k _ _ _ _ (e1.trans e2) l2 .b q⟩
theorem wt_inp {neg : Bool} (hu : X.A.units + 66 < cLine) (hm : behindInMarks (if neg then CmpOp.NotIn else CmpOp.In) pb = false) (ha : PE X pa (LE X.K Ê wa)) (hb : PE X pb (LE X.K Ê wb)) :
    PT X (.Compare pa [if neg then CmpOp.NotIn else CmpOp.In] [pb] pos) (LT X.K Ê fun σ S Q Y => wa σ S (fun x S1 => wb σ S1 (fun y S2 => ∃ ys r, rd S2 y = .lst ys ∧ inP S2 x ys = some r ∧ ∃ q, truW (rd S2 (.bl (if neg then !r else r))) = some q ∧ Q q S2) Y) Y) :=
  (pt_cmpR (op_inp hu neg) ha hb hm).imp fun τ H Qh ⟨σ, S, Q, Y, hs, hl, hw, k, hx⟩ => LE.mk hs hl hx hw fun x S1 v H1 e1 l1 s1 x1 r1 q1 => LE.mk s1 l1 x1 q1 fun y S2 u H2 e2 l2 s2 x2 r2 ⟨ys, r, e, e', q', eq, q⟩ => by
    have eq' : some (if neg then !r else r) = some q' := eq
    cases eq'
    exact ⟨S2, x, ys, y, r, l2, r1.ext e2, e, r2, e', _, rfl, k _ _ _ (e1.trans e2) l2 q⟩
end
end PD

set_option Elab.async false
set_option linter.all false
set_option maxRecDepth 100000
set_option maxHeartbeats 4000000
namespace PD
open PySem PySem.Spec PyProof.Rows L2 NdefX
/-! ## cells that nobody stores to -/
def trk (H : Hp) (g : Addr → Option Obj) : Hp := fun b => match g b with
  | some o => some (CelO b o)
  | none => H b
def utr (H : Hp) (g : Addr → Option Obj) : Hp := fun b => match g b with
  | some _ => none
  | none => H b
section
variable {H : Hp} {g : Addr → Option Obj} {b : Addr} {o : Obj}
theorem trk_some (h : g b = some o) : trk H g b = some (CelO b o) := by unfold trk; rw [h]
theorem trk_none (h : g b = none) : trk H g b = H b := by unfold trk; rw [h]
theorem utr_some (h : g b = some o) : utr H g b = none := by unfold utr; rw [h]
theorem utr_none (h : g b = none) : utr H g b = H b := by unfold utr; rw [h]
end
/-- the cells of a row of names -/
noncomputable def cellsOf (cl : List (Str × Addr)) (h : Heap) : Addr → Option Obj := open Classical in fun b => if ∃ y, cl.lookup y = some b then h.get? b else none
theorem cellsOf_get {cl : List (Str × Addr)} {h : Heap} {b : Addr} {o : Obj} (e : cellsOf cl h b = some o) : h.get? b = some o ∧ ∃ y, cl.lookup y = some b := by
  unfold cellsOf at e
  split at e
  · rename_i z; exact ⟨e, z⟩
  · cases e
theorem cellsOf_at {cl : List (Str × Addr)} {h : Heap} {y : Str} {b : Addr} {o : Obj} (hy : cl.lookup y = some b) (e : h.get? b = some o) : cellsOf cl h b = some o := by
  unfold cellsOf
  rw [if_pos ⟨y, hy⟩]; exact e
def isCellO (o : Obj) : Prop := ∃ v, o.data = .cell v
section
variable {P : Program} {w : World} {H : Hp} {h h' : Heap} {g : Addr → Option Obj}
theorem celO_at {c : Addr} {o : Obj} (hok : HOk P w H h) (e : H c = some (CelO c o)) : h.get? c = some o := (hok c _ e).1
theorem trk_hok (hok : HOk P w H h) (h1 : ∀ b o, g b = some o → h.get? b = some o) (h2 : ∀ b o, g b = some o → H b = none) : HOk P w (trk H g) h := fun b u e => by
  cases q : g b with
  | some o =>
    rw [trk_some q] at e
    cases e
    exact ⟨h1 b o q, ⟨o, h1 b o q⟩, fun _ _ p k => k o p⟩
  | none =>
    rw [trk_none q] at e
    refine (hok b u e).stay (fun _ _ _ z => z) (fun d z => ?_) fun d xs z => ?_
    · rw [trk_none]; exact z
      cases qd : g d with
      | none => rfl
      | some o => rw [h2 d o qd] at z; cases z
    · rw [trk_none]; exact z
      cases qd : g d with
      | none => rfl
      | some o => rw [h2 d o qd] at z; cases z
theorem utr_hok (hok : HOk P w H h) (h2 : ∀ b o, g b = some o → H b = none ∨ ∃ φ, H b = some (.ext φ)) : HOk P w (utr H g) h := fun b u e => by
  cases q : g b with
  | some o => rw [utr_some q] at e; cases e
  | none =>
    rw [utr_none q] at e
    refine (hok b u e).stay (fun _ _ _ z => z) (fun d z => ?_) fun d xs z => ?_
    · rw [utr_none]; exact z
      cases qd : g d with
      | none => rfl
      | some o => rcases h2 d o qd with y | ⟨φ, y⟩ <;> (rw [y] at z; cases z)
    · rw [utr_none]; exact z
      cases qd : g d with
      | none => rfl
      | some o => rcases h2 d o qd with y | ⟨φ, y⟩ <;> (rw [y] at z; cases z)
variable {H' : Hp} {fs : List Addr}
/-- behind a call with the cells told -/
theorem un_utr (un : Un fs [] (trk H g) H' h h') (hok' : HOk P w H' h') (hg : ∀ b o, g b = some o → H b = none ∧ h.get? b = some o ∧ H' b = some (CelO b o)) : Un fs [] H (utr H' g) h h' where
  keep := fun b o e n hf hx => by
    cases q : g b with
    | some o2 =>
      obtain ⟨_, e2, e3⟩ := hg b o2 q
      rw [e] at e2; cases e2
      exact celO_at hok' e3
    | none => exact un.keep b o e (by rw [trk_none q]; exact n) hf hx
  slot := fun b o e n hf hx => by
    cases q : g b with
    | some o2 =>
      obtain ⟨_, e2, e3⟩ := hg b o2 q
      rw [e] at e2; cases e2
      exact ⟨o.slots, celO_at hok' e3⟩
    | none => exact un.slot b o e (by rw [trk_none q]; exact n) hf hx
  free := fun b o e n hx => by
    cases q : g b with
    | some o2 => exact utr_some q
    | none => rw [utr_none q]; exact un.free b o e (by rw [trk_none q]; exact n) hx
  there := fun b o e hx => un.there b o e hx
  tups := fun b xs e => by
    have q : g b = none := by
      cases q : g b with
      | none => rfl
      | some o => rw [(hg b o q).1] at e; cases e
    rw [utr_none q]; exact un.tups b xs (by rw [trk_none q]; exact e)
  frzs := fun b o u e => by
    have q : g b = none := by
      cases q : g b with
      | none => rfl
      | some o => rw [(hg b o q).1] at e; cases e
    rw [utr_none q]; exact un.frzs b o u (by rw [trk_none q]; exact e)
  tbls := fun b ps e => by
    have q : g b = none := by
      cases q : g b with
      | none => rfl
      | some o => rw [(hg b o q).1] at e; cases e
    rw [utr_none q]; exact un.tbls b ps (by rw [trk_none q]; exact e)
/-- behind the run of a function that captured them -/
theorem un_trk (un : Un fs [] (utr H g) H' h h') (hg : ∀ b o, g b = some o → H b = some (CelO b o) ∧ h.get? b = some o) : Un fs [] H (trk H' g) h h' where
  keep := fun b o e n hf hx => by
    have q : g b = none := by
      cases q : g b with
      | none => rfl
      | some o => rw [(hg b o q).1] at n; cases n
    exact un.keep b o e (by rw [utr_none q]; exact n) hf hx
  slot := fun b o e n hf hx => by
    have q : g b = none := by
      cases q : g b with
      | none => rfl
      | some o => rw [(hg b o q).1] at n; cases n
    exact un.slot b o e (by rw [utr_none q]; exact n) hf hx
  free := fun b o e n hx => by
    have q : g b = none := by
      cases q : g b with
      | none => rfl
      | some o => rw [(hg b o q).1] at n; cases n
    rw [trk_none q]; exact un.free b o e (by rw [utr_none q]; exact n) hx
  there := fun b o e hx => un.there b o e hx
  tups := fun b xs e => by
    have q : g b = none := by
      cases q : g b with
      | none => rfl
      | some o => rw [(hg b o q).1] at e; cases e
    rw [trk_none q]; exact un.tups b xs (by rw [utr_none q]; exact e)
  frzs := fun b o u e => by
    have q : g b = none := by
      cases q : g b with
      | none => rfl
      | some o => rw [(hg b o q).1] at e; cases e
    rw [trk_none q]; exact un.frzs b o u (by rw [utr_none q]; exact e)
  tbls := fun b ps e => by
    have q : g b = none := by
      cases q : g b with
      | none => rfl
      | some o => rw [(hg b o q).1] at e; cases e
    rw [trk_none q]; exact un.tbls b ps (by rw [utr_none q]; exact e)
end
section
variable {P : Program} {w : World} {K : PySem.W.Frag} {mg : Str → Option Value} {base : Heap} {A : Around} {outer : List Env} {s : Shared} {H : Hp} {g : Addr → Option Obj}
theorem env0_trk (e : Env0 P w K mg base A outer s H) (cb : ∀ b o v, base.get? b = some o → o.data ≠ .cell v) (hg : ∀ b o, g b = some o → H b = none ∧ s.heap.get? b = some o ∧ isCellO o) (nf : ∀ b o, g b = some o → b ∉ frs outer) : Env0 P w K mg base A outer s (trk H g) :=
  ⟨e.frames, e.mod, fun b o hb => by
    obtain ⟨h1, h2⟩ := e.bs b o hb
    refine ⟨h1, ?_⟩
    cases q : g b with
    | some o2 =>
      obtain ⟨_, h3, v, h4⟩ := hg b o2 q
      rw [h1] at h3; cases h3
      exact (cb b o v hb h4).elim
    | none => rw [trk_none q]; exact h2, e.bsz, e.funs, fun b hb => by
    cases q : g b with
    | some o2 => exact (nf b o2 q hb).elim
    | none => rw [trk_none q]; exact e.frf b hb, trk_hok e.hok (fun b o q => (hg b o q).2.1) (fun b o q => (hg b o q).1), e.bare⟩
theorem env0_utr (e : Env0 P w K mg base A outer s H) (hg : ∀ b o, g b = some o → ∃ φ, H b = some (.ext φ)) : Env0 P w K mg base A outer s (utr H g) :=
  ⟨e.frames, e.mod, fun b o hb => by
    obtain ⟨h1, h2⟩ := e.bs b o hb
    refine ⟨h1, ?_⟩
    cases q : g b with
    | some o2 => exact utr_some q
    | none => rw [utr_none q]; exact h2, e.bsz, e.funs, fun b hb => by
    cases q : g b with
    | some o2 => exact utr_some q
    | none => rw [utr_none q]; exact e.frf b hb, utr_hok e.hok fun b o q => .inr (hg b o q), e.bare⟩
end
/-! ## what a heap says of marks -/
def noFld (h : Heap) (b : Addr) : Prop := ∀ o, h.get? b = some o → ∀ vs, o.data ≠ .fields vs
section
variable {P : Program} {w : World} {K : PySem.W.Frag} {H H' : Hp} {S S' : Sto} {h h' : Heap} {g : Addr → Option Obj}
theorem dat_no {b : Addr} {φ : Heap → Prop} (hok : HOk P w H h) (e : H b = some (.ext φ)) (nf : noFld h b) (d : DatO b (.ext φ)) : False := by
  rcases d with d | ⟨C, dd, d⟩
  · exact d φ rfl
  · rw [d] at e
    obtain ⟨oe, vs, e1, _, _, e2⟩ := exk_at hok (.inl e)
    exact nf oe e1 vs e2
theorem cel_fld {b : Addr} {o : Obj} (hok : HOk P w H h) (e : H b = some (CelO b o)) (c : isCellO o) : noFld h b := fun o' e' vs z => by
  rw [celO_at hok e] at e'
  cases e'
  obtain ⟨v, c⟩ := c
  rw [c] at z; cases z
theorem clo_fld {a : Addr} {d : CloD} {cl : List (Str × Addr)} {c : Addr} {b : Addr} (hok : HOk P w H h) (e : H b = some (CloO a d cl c)) (ab : a = b) : noFld h b := fun o' e' vs z => by
  obtain ⟨od, sl, doc, pm, ctv, q⟩ := (hok b _ e).1
  rw [ab, e'] at q
  cases q
  cases z
theorem code_no {b : Addr} {q : Str} {o : Obj} (hok : HOk P w H h) (e : H b = some (LamX.CodeO b q)) (e2 : h.get? b = some o) (c : isCellO o) : False := by
  obtain ⟨oc, vs, t, h1, h2, _⟩ := (hok b _ e).1
  rw [e2] at h1
  cases h1
  obtain ⟨v, c⟩ := c
  rw [c] at h2; cases h2
/-- what is asked of cells that are told from now on -/
structure FreshC (H : Hp) (h : Heap) (g : Addr → Option Obj) : Prop where
  nn : ∀ b o, g b = some o → H b = none
  gt : ∀ b o, g b = some o → h.get? b = some o ∧ isCellO o
theorem FreshC.g_none {u : HO} {b : Addr} (f : FreshC H h g) (e : H b = some u) : g b = none := by
  cases q : g b with
  | none => rfl
  | some o => rw [f.nn b o q] at e; cases e
/-- a function is made and its cells are told: what it was and what it is -/
theorem link_trk {H1 : Hp} {r : CloR} {d : CloD} (l : LinkS K H S) (grow : ∀ b o, H b = some o → H1 b = some o ∨ ∃ ps more, o = .tbl ps ∧ H1 b = some (.tbl (ps ++ more))) (tab : TabsN (tabsK K) H1) (f1 : FreshC H1 h g) (hp : H r.a = none) (hp1 : H1 r.a = some (CloO r.a d r.cl r.c)) (hd : findC r.f = some d)
    (hc : H1 r.c = some (LamX.CodeO r.c d.qual)) (hca : r.c ≠ r.a) (hSc : S r.c = none) (hv : RWs K H S r.cs r.vs) (hlen : r.vs.length = d.fr.length) (hin : ∀ x y c, r.cl.lookup x = some c → r.cl.lookup y = some c → x = y) (hall : ∀ y c, r.cl.lookup y = some c → ∃ o, g c = some o)
    (hhas : ∀ (i : Nat) (y : Str), d.fr[i]? = some y → ∃ c o, r.cl.lookup y = some c ∧ g c = some o ∧ ∀ v, r.vs[i]? = some v → ∃ u, L2.RelV v u ∧ o.data = .cell (some u)) :
    LinkS K (trk H1 g) (S.set r.a (.clo r)) ∧ (∀ b o, H b = some o → S b = none → Stays (trk H1 g) b o ∧ (S.set r.a (.clo r)) b = none) := by
  have old : ∀ b u, H b = some u → g b = none := fun b u e => by
    rcases grow b u e with z | ⟨ps, more, _, z⟩
    · exact f1.g_none z
    · exact f1.g_none z
  have st : ∀ b o, H b = some o → S b = none → Stays (trk H1 g) b o ∧ (S.set r.a (.clo r)) b = none := fun b o e n => by
    have ba : b ≠ r.a := fun z => by subst z; rw [hp] at e; cases e
    refine ⟨?_, by rw [Sto.set_ne ba]; exact n⟩
    unfold Stays
    rw [trk_none (old b o e)]
    rcases grow b o e with z | z
    · exact .inl z
    · exact .inr (.inr z)
  have ed : ExtD H S (trk H1 g) (S.set r.a (.clo r)) := fun b o e _ n => st b o e n
  have sg : ∀ c o, g c = some o → (S.set r.a (.clo r)) c = none := fun c o q => by
    have h1 := f1.nn c o q
    have ca : c ≠ r.a := fun z => by subst z; rw [hp1] at h1; cases h1
    rw [Sto.set_ne ca]
    refine l.fresh ?_
    cases qh : H c with
    | none => rfl
    | some u => rw [old c u qh] at q; cases q
  refine ⟨⟨fun a so e => ?_, fun t ht => ?_, fun a r' e => ?_⟩, st⟩
  rotate_right
  · by_cases ha : a = r.a
    · subst ha; rw [Sto.set_same] at e; cases e; rfl
    · rw [Sto.set_ne ha] at e; exact l.sa a r' e
  · by_cases ha : a = r.a
    · subst ha
      rw [Sto.set_same] at e
      cases e
      refine ⟨_, by rw [trk_none (f1.g_none hp1)]; exact hp1, d, hd, rfl, ⟨by rw [trk_none (f1.g_none hc)]; exact hc, by rw [Sto.set_ne hca]; exact hSc⟩, RWs.extD ed _ _ hv, hlen, ?_, hin, ?_⟩
      · intro y c hy
        obtain ⟨o, ho⟩ := hall y c hy
        exact ⟨o, trk_some ho, sg c o ho, (f1.gt c o ho).2⟩
      · intro i y hy
        obtain ⟨c, o, h1, h2, h3⟩ := hhas i y hy
        exact ⟨c, o, h1, trk_some h2, h3⟩
    · rw [Sto.set_ne ha] at e
      obtain ⟨u, e1, e2⟩ := l.at_ a so e
      have e3 : trk H1 g a = some u := by
        rw [trk_none (old a u e1)]
        rcases grow a u e1 with z | ⟨ps, more, z, _⟩
        · exact z
        · subst z
          cases so with
          | lst xs => obtain ⟨_, z, _⟩ := e2; cases z
          | dct ks ws => obtain ⟨_, z, _⟩ := e2; cases z
          | ins c fs ws => obtain ⟨_, _, z, _⟩ := e2; cases z
          | clo r' => obtain ⟨_, _, z, _⟩ := e2; cases z
      refine ⟨u, e3, ?_⟩
      have ex : ∀ {b : Addr} {φ : Heap → Prop}, H b = some (.ext φ) → S b = none → trk H1 g b = some (.ext φ) ∧ (S.set r.a (.clo r)) b = none := fun {b φ} e n => by
        obtain ⟨h1, h2⟩ := st b _ e n
        exact ⟨h1.plain (fun z => z.elim) (fun _ z => nomatch z), h2⟩
      cases so with
      | lst xs => obtain ⟨vs, h1, h2⟩ := e2; exact ⟨vs, h1, RWs.extD ed _ _ h2⟩
      | dct ks ws => obtain ⟨kvs, h1, h2, h3⟩ := e2; exact ⟨kvs, h1, h2, RWs.extD ed _ _ h3⟩
      | ins c fs ws => obtain ⟨dx, kvs, h1, h2, h3⟩ := e2; exact ⟨dx, kvs, h1, h2, RWs.extD ed _ _ h3⟩
      | clo r' =>
        obtain ⟨d', h1, h2, ⟨h3, h4⟩, h5, h6, h7⟩ := e2
        refine ⟨d', h1, h2, ex h3 h4, RWs.extD ed _ _ h5, h6, fun y c hy => ?_, h7.inj, fun i y hy => ?_⟩
        · obtain ⟨o, k1, k2, k3⟩ := h7.all y c hy
          obtain ⟨k4, k5⟩ := ex k1 k2
          exact ⟨o, k4, k5, k3⟩
        · obtain ⟨c, o, k1, k2, k3⟩ := h7.has i y hy
          obtain ⟨o', k4, k5, _⟩ := h7.all y c k1
          exact ⟨c, o, k1, (ex k2 k5).1, k3⟩
  · obtain ⟨ps, h1, h2, h3⟩ := tab t ht
    refine ⟨ps, by rw [trk_none (f1.g_none h1)]; exact h1, h2, fun pos cv hcv => ?_⟩
    obtain ⟨c, e1, e2⟩ := h3 pos cv hcv
    exact ⟨c, e1, by rw [trk_none (f1.g_none e2)]; exact e2⟩
/-- behind the call that got the function -/
theorem link_back {H1 H3 : Hp} {S3 : Sto} {r : CloR} {d : CloD} {rv : W} {v : V} (l : LinkS K H S) (hp : H r.a = none) (e3H : H3 = trk H1 g) (e3S : S3 = S.set r.a (.clo r)) (st3 : ∀ b o, H b = some o → S b = none → Stays H3 b o ∧ S3 b = none) (keep : ∀ b r' o, S b = some (.clo r') → H b = some o → H3 b = some o)
    (hSa : S r.a = none) (fr : ∀ b o, g b = some o → H b = none ∧ S b = none ∧ isCellO o) (gH3 : ∀ b o, g b = some o → H3 b = some (CelO b o) ∧ S3 b = none)
    (e : Ext H3 S3 H' S') (l' : LinkS K H' S') (rw' : RW K H' S' rv v) (hok' : HOk P w H' h') :
    Ext H S (utr H' g) (S'.del r.a) ∧ LinkS K (utr H' g) (S'.del r.a) ∧ RW K (utr H' g) (S'.del r.a) rv v ∧ (∀ b o, g b = some o → H' b = some (CelO b o)) := by
  have gH' : ∀ b o, g b = some o → H' b = some (CelO b o) ∧ S' b = none := fun b o q => by
    obtain ⟨h1, h2⟩ := gH3 b o q
    exact ext_ext e h1 h2
  have S'a : S' r.a = some (.clo r) := (e.clo r.a r (by rw [e3S, Sto.set_same])).1
  have gdat : ∀ b u, H' b = some u → DatO b u → g b = none := fun b u h1 d => by
    cases q : g b with
    | none => rfl
    | some o =>
      have h2 := (gH' b o q).1
      rw [h1] at h2; cases h2
      exact (dat_no hok' h1 (cel_fld hok' h1 (fr b o q).2.2) d).elim
  have ed : ExtD H' S' (utr H' g) (S'.del r.a) := fun b u h1 d n => by
    refine ⟨.inl (by rw [utr_none (gdat b u h1 d)]; exact h1), ?_⟩
    unfold Sto.del
    split
    · rfl
    · exact n
  have gS : ∀ b so, S' b = some so → g b = none := fun b so h1 => by
    cases q : g b with
    | none => rfl
    | some o => rw [(gH' b o q).2] at h1; cases h1
  have oldClo : ∀ b r', S' b = some (.clo r') → b ≠ r.a → S b = some (.clo r') := fun b r' h1 nb => by
    have := e.no b r' h1
    rw [e3S, Sto.set_ne nb] at this
    exact this
  refine ⟨⟨fun b o h1 n => ?_, fun b r' h1 => ?_, fun b r' h1 => ?_⟩, ⟨fun a so h1 => ?_, fun t ht => ?_, fun a r' h1 => l'.sa a r' (by
    have na : a ≠ r.a := fun z => by subst z; rw [Sto.del_same] at h1; cases h1
    rw [Sto.del_ne na] at h1; exact h1)⟩, RW.extD ed _ _ rw', fun b o q => (gH' b o q).1⟩
  · have gb : g b = none := by
      cases q : g b with
      | none => rfl
      | some o2 => rw [(fr b o2 q).1] at h1; cases h1
    obtain ⟨s1, s2⟩ := st3 b o h1 n
    have nb : b ≠ r.a := fun z => by subst z; rw [hp] at h1; cases h1
    have tr : Stays H' b o ∧ S' b = none := by
      rcases s1 with s1 | ⟨mu, ob, s1⟩ | ⟨ps, more, rfl, s1⟩
      · exact e.st b o s1 s2
      · obtain ⟨k1, k2⟩ := e.st b _ s1 s2
        exact ⟨.inr (.inl ⟨mu, ob, k1.plain (fun z => z.elim) (fun _ z => nomatch z)⟩), k2⟩
      · obtain ⟨k1, k2⟩ := e.st b _ s1 s2
        refine ⟨.inr (.inr ?_), k2⟩
        rcases k1 with k1 | ⟨k1, _⟩ | ⟨ps2, more2, z, k1⟩
        · exact ⟨ps, more, rfl, k1⟩
        · exact k1.elim
        · cases z
          exact ⟨ps, more ++ more2, rfl, by rw [k1, Array.append_assoc]⟩
    refine ⟨?_, by rw [Sto.del_ne nb]; exact tr.2⟩
    unfold Stays
    rw [utr_none gb]
    exact tr.1
  · have nb : b ≠ r.a := fun z => by subst z; rw [hSa] at h1; cases h1
    have h3 : S3 b = some (.clo r') := by rw [e3S, Sto.set_ne nb]; exact h1
    obtain ⟨k1, k2⟩ := e.clo b r' h3
    refine ⟨by rw [Sto.del_ne nb]; exact k1, fun o ho => ?_⟩
    rw [utr_none (gS b _ k1)]
    exact k2 o (keep b r' o h1 ho)
  · have nb : b ≠ r.a := fun z => by subst z; rw [Sto.del_same] at h1; cases h1
    rw [Sto.del_ne nb] at h1
    exact oldClo b r' h1 nb
  · have na : a ≠ r.a := fun z => by subst z; rw [Sto.del_same] at h1; cases h1
    rw [Sto.del_ne na] at h1
    obtain ⟨u, k1, k2⟩ := l'.at_ a so h1
    refine ⟨u, by rw [utr_none (gS a so h1)]; exact k1, ?_⟩
    cases so with
    | lst xs => obtain ⟨vs, z1, z2⟩ := k2; exact ⟨vs, z1, RWs.extD ed _ _ z2⟩
    | dct ks ws => obtain ⟨kvs, z1, z2, z3⟩ := k2; exact ⟨kvs, z1, z2, RWs.extD ed _ _ z3⟩
    | ins c fs ws => obtain ⟨dx, kvs, z1, z2, z3⟩ := k2; exact ⟨dx, kvs, z1, z2, RWs.extD ed _ _ z3⟩
    | clo r' =>
      obtain ⟨d', z1, z2, ⟨z3, z4⟩, z5, z6, z7⟩ := k2
      have hS := oldClo a r' h1 na
      obtain ⟨u0, y1, d0, y2, y3, ⟨y4, y5⟩, y6, y7, y8⟩ := l.at_ a _ hS
      have delN : ∀ c, S' c = none → (S'.del r.a) c = none := fun c n => by unfold Sto.del; split <;> first | rfl | exact n
      refine ⟨d', z1, z2, ⟨?_, delN _ z4⟩, RWs.extD ed _ _ z5, z6, fun y c hy => ?_, z7.inj, fun i y hy => ?_⟩
      · have gc : g r'.c = none := by
          cases q : g r'.c with
          | none => rfl
          | some o2 => rw [(fr _ o2 q).1] at y4; cases y4
        rw [utr_none gc]; exact z3
      · obtain ⟨o, x1, x2, x3⟩ := z7.all y c hy
        obtain ⟨o0, w1, w2, w3⟩ := y8.all y c hy
        have gc : g c = none := by
          cases q : g c with
          | none => rfl
          | some o2 => rw [(fr c o2 q).1] at w1; cases w1
        exact ⟨o, by rw [utr_none gc]; exact x1, delN _ x2, x3⟩
      · obtain ⟨c, o, x1, x2, x3⟩ := z7.has i y hy
        obtain ⟨o0, w1, w2, w3⟩ := y8.all y c x1
        have gc : g c = none := by
          cases q : g c with
          | none => rfl
          | some o2 => rw [(fr c o2 q).1] at w1; cases w1
        exact ⟨c, o, x1, by rw [utr_none gc]; exact x2, x3⟩
  · obtain ⟨ps, k1, k2, k3⟩ := l'.tab t ht
    have gt : ∀ b u, H' b = some u → (∀ o, isCellO o → u ≠ CelO b o) → g b = none := fun b u z n => by
      cases q : g b with
      | none => rfl
      | some o =>
        have := (gH' b o q).1
        rw [z] at this; cases this
        exact (n o (fr b o q).2.2 rfl).elim
    refine ⟨ps, by rw [utr_none (gt _ _ k1 fun o _ z => nomatch z)]; exact k1, k2, fun pos cv hcv => ?_⟩
    obtain ⟨c, e1, e2⟩ := k3 pos cv hcv
    refine ⟨c, e1, ?_⟩
    rw [utr_none]
    · exact e2
    · cases q : g c with
      | none => rfl
      | some o =>
        have z := (gH' c o q).1
        exact (code_no hok' e2 (celO_at hok' z) (fr c o q).2.2).elim
end
end PD

set_option Elab.async false
set_option linter.all false
set_option maxRecDepth 100000
set_option maxHeartbeats 4000000
namespace PD
open PySem PySem.Spec PyProof.Rows L2 NdefX
theorem Sto.noc_none {S : Sto} {b : Addr} (h : S b = none) : S.noc b = none := by unfold Sto.noc; rw [h]
theorem Sto.noc_at {S : Sto} {b : Addr} {o : SO} (h : S b = some o) (n : o.nclo = true) : S.noc b = some o := by
  unfold Sto.noc; rw [h]
  cases o <;> first | rfl | cases n
theorem Sto.noc_clo {S : Sto} {b : Addr} {r : CloR} (h : S b = some (.clo r)) : S.noc b = none := by unfold Sto.noc; rw [h]
theorem Sto.noc_some {S : Sto} {b : Addr} {o : SO} (h : S.noc b = some o) : S b = some o ∧ o.nclo = true := by
  unfold Sto.noc at h
  split at h
  · cases h
  · rename_i n
    refine ⟨h, ?_⟩
    cases o with
    | clo r => exact (n r h).elim
    | _ => rfl
theorem Sto.re_clo {S2 S : Sto} {b : Addr} {r : CloR} (h : S b = some (.clo r)) : S2.re S b = some (.clo r) := by unfold Sto.re; rw [h]
theorem Sto.re_other {S2 S : Sto} {b : Addr} (h : ∀ r, S b ≠ some (.clo r)) : S2.re S b = S2 b := by
  unfold Sto.re
  split
  · rename_i r z; exact (h r z).elim
  · rfl
theorem Sto.noc_re (S : Sto) : S.noc.re S = S := by
  funext b
  cases q : S b with
  | none => rw [Sto.re_other (fun r z => by rw [q] at z; cases z), Sto.noc_none q]
  | some o =>
    cases o with
    | clo r => rw [Sto.re_clo q]
    | lst xs => rw [Sto.re_other (fun r z => by rw [q] at z; cases z), Sto.noc_at q rfl]
    | dct ks ws => rw [Sto.re_other (fun r z => by rw [q] at z; cases z), Sto.noc_at q rfl]
    | ins c fs ws => rw [Sto.re_other (fun r z => by rw [q] at z; cases z), Sto.noc_at q rfl]
section
variable {P : Program} {w : World} {K : PySem.W.Frag} {H H' : Hp} {S S2 : Sto} {h h' : Heap} {g : Addr → Option Obj}
/-- cells that are told -/
def Told (H : Hp) (S : Sto) (g : Addr → Option Obj) : Prop := ∀ b o, g b = some o → H b = some (CelO b o) ∧ S b = none ∧ isCellO o
theorem Told.dat (t : Told H S g) (hok : HOk P w H h) {b : Addr} {u : HO} (e : H b = some u) (d : DatO b u) : g b = none := by
  cases q : g b with
  | none => rfl
  | some o =>
    obtain ⟨h1, _, h3⟩ := t b o q
    rw [e] at h1; cases h1
    exact (dat_no hok e (cel_fld hok e h3) d).elim
theorem Told.tbl (t : Told H S g) {b : Addr} {ps : Array Value} (e : H b = some (.tbl ps)) : g b = none := by
  cases q : g b with
  | none => rfl
  | some o => rw [(t b o q).1] at e; cases e
theorem Told.code (t : Told H S g) (hok : HOk P w H h) {b : Addr} {x : Str} (e : H b = some (LamX.CodeO b x)) : g b = none := by
  cases q : g b with
  | none => rfl
  | some o =>
    obtain ⟨h1, _, h3⟩ := t b o q
    exact (code_no hok e (celO_at hok h1) h3).elim
theorem Told.place (t : Told H S g) {b : Addr} {o : SO} (e : S b = some o) : g b = none := by
  cases q : g b with
  | none => rfl
  | some o => rw [(t b o q).2.1] at e; cases e
/-- the run of a function within: without what is told of its cells, without the functions -/
theorem link_un (l : LinkS K H S) (hok : HOk P w H h) (t : Told H S g) : LinkS K (utr H g) S.noc ∧ ExtD H S (utr H g) S.noc := by
  have ed : ExtD H S (utr H g) S.noc := fun b u e d n => ⟨.inl (by rw [utr_none (t.dat hok e d)]; exact e), Sto.noc_none n⟩
  refine ⟨⟨fun a so e => ?_, fun tt ht => ?_, fun a r e => l.sa a r (Sto.noc_some e).1⟩, ed⟩
  · obtain ⟨e1, n⟩ := Sto.noc_some e
    obtain ⟨u, k1, k2⟩ := l.at_ a so e1
    refine ⟨u, by rw [utr_none (t.place e1)]; exact k1, ?_⟩
    cases so with
    | lst xs => obtain ⟨vs, z1, z2⟩ := k2; exact ⟨vs, z1, RWs.extD ed _ _ z2⟩
    | dct ks ws => obtain ⟨kvs, z1, z2, z3⟩ := k2; exact ⟨kvs, z1, z2, RWs.extD ed _ _ z3⟩
    | ins c fs ws => obtain ⟨dx, kvs, z1, z2, z3⟩ := k2; exact ⟨dx, kvs, z1, z2, RWs.extD ed _ _ z3⟩
    | clo r => cases n
  · obtain ⟨ps, h1, h2, h3⟩ := l.tab tt ht
    refine ⟨ps, by rw [utr_none (t.tbl h1)]; exact h1, h2, fun pos cv hcv => ?_⟩
    obtain ⟨c, e1, e2⟩ := h3 pos cv hcv
    exact ⟨c, e1, by rw [utr_none (t.code hok e2)]; exact e2⟩
/-- behind it -/
theorem link_re {rv : W} {v : V} (l : LinkS K H S) (hok : HOk P w H h) (t : Told H S g) (e : Ext (utr H g) S.noc H' S2) (l' : LinkS K H' S2) (rw' : RW K H' S2 rv v) (hok' : HOk P w H' h') (hn : ∀ b o, g b = some o → H' b = none) :
    Ext H S (trk H' g) (S2.re S) ∧ LinkS K (trk H' g) (S2.re S) ∧ RW K (trk H' g) (S2.re S) rv v := by
  have gn : ∀ b u, H' b = some u → g b = none := fun b u e => by
    cases q : g b with
    | none => rfl
    | some o => rw [hn b o q] at e; cases e
  have no2 : ∀ b r, S2 b ≠ some (.clo r) := fun b r z => by
    have := (Sto.noc_some (e.no b r z)).2
    cases this
  -- a function that stands
  have cloAt : ∀ b r, S b = some (.clo r) → ∀ u, H b = some u → H' b = some u ∧ S2 b = none ∧ ∃ d, u = CloO r.a d r.cl r.c := fun b r hb u hu => by
    obtain ⟨u', k1, d, _, k3, _⟩ := l.at_ b _ hb
    rw [hu] at k1; cases k1
    subst k3
    have z : utr H g b = some (CloO r.a d r.cl r.c) := by rw [utr_none (t.place hb)]; exact hu
    obtain ⟨z1, z2⟩ := ext_ext e z (Sto.noc_clo hb)
    exact ⟨z1, z2, d, rfl⟩
  have cloNo : ∀ b u, H' b = some u → DatO b u → ∀ r, S b ≠ some (.clo r) := fun b u h1 d r hb => by
    obtain ⟨u', k1, d', k2, k3, _⟩ := l.at_ b _ hb
    subst k3
    obtain ⟨z1, _, _⟩ := cloAt b r hb _ k1
    rw [h1] at z1
    cases z1
    exact dat_no hok' h1 (clo_fld hok' h1 (l.sa b r hb)) d
  have ed : ExtD H' S2 (trk H' g) (S2.re S) := fun b u h1 d n => ⟨.inl (by rw [trk_none (gn b u h1)]; exact h1), by rw [Sto.re_other (cloNo b u h1 d)]; exact n⟩
  have ed0 : ExtD H S (trk H' g) (S2.re S) := fun b u h1 d n => by
    have q := t.dat hok h1 d
    obtain ⟨s1, s2⟩ := e.st b u (by rw [utr_none q]; exact h1) (Sto.noc_none n)
    refine ⟨?_, by rw [Sto.re_other (fun r z => by rw [n] at z; cases z)]; exact s2⟩
    unfold Stays
    rw [trk_none q]
    exact s1
  have cell : ∀ c o, H c = some (CelO c o) → S c = none → (∃ v, o.data = .cell v) → trk H' g c = some (CelO c o) ∧ (S2.re S) c = none := fun c o h1 n hc => by
    rw [Sto.re_other (fun r z => by rw [n] at z; cases z)]
    cases q : g c with
    | some o2 =>
      obtain ⟨k1, _, _⟩ := t c o2 q
      have e1 := celO_at hok h1
      have e2 := celO_at hok k1
      rw [e1] at e2; cases e2
      refine ⟨trk_some q, ?_⟩
      cases qs : S2 c with
      | none => rfl
      | some so =>
        obtain ⟨u, z, _⟩ := l'.at_ c so qs
        rw [hn c _ q] at z; cases z
    | none =>
      obtain ⟨z1, z2⟩ := ext_ext e (by rw [utr_none q]; exact h1) (Sto.noc_none n)
      exact ⟨by rw [trk_none q]; exact z1, z2⟩
  have code : ∀ c x, H c = some (LamX.CodeO c x) → S c = none → trk H' g c = some (LamX.CodeO c x) ∧ (S2.re S) c = none := fun c x h1 n => by
    have q := t.code hok h1
    obtain ⟨z1, z2⟩ := ext_ext e (by rw [utr_none q]; exact h1) (Sto.noc_none n)
    exact ⟨by rw [trk_none q]; exact z1, by rw [Sto.re_other (fun r z => by rw [n] at z; cases z)]; exact z2⟩
  refine ⟨⟨fun b o h1 n => ?_, fun b r hb => ?_, fun b r hb => ?_⟩, ⟨fun a so hs => ?_, fun tt ht => ?_, fun a r hs => ?_⟩, RW.extD ed _ _ rw'⟩
  · rw [Sto.re_other (fun r z => by rw [n] at z; cases z)]
    cases q : g b with
    | some o2 =>
      obtain ⟨k1, k2, k3⟩ := t b o2 q
      rw [h1] at k1; cases k1
      have := cell b o2 h1 n k3
      rw [Sto.re_other (fun r z => by rw [n] at z; cases z)] at this
      exact ⟨.inl this.1, this.2⟩
    | none =>
      obtain ⟨s1, s2⟩ := e.st b o (by rw [utr_none q]; exact h1) (Sto.noc_none n)
      refine ⟨?_, s2⟩
      unfold Stays
      rw [trk_none q]; exact s1
  · refine ⟨Sto.re_clo hb, fun o ho => ?_⟩
    rw [trk_none (t.place hb)]
    exact (cloAt b r hb o ho).1
  · by_cases z : ∃ r', S b = some (.clo r')
    · obtain ⟨r', z⟩ := z
      rw [Sto.re_clo z] at hb
      rw [z]; exact hb
    · rw [Sto.re_other (fun r' y => z ⟨r', y⟩)] at hb
      exact (no2 b r hb).elim
  · by_cases z : ∃ r', S a = some (.clo r')
    · obtain ⟨r, z⟩ := z
      rw [Sto.re_clo z] at hs
      cases hs
      obtain ⟨u, k1, d, k2, k3, ⟨k4, k5⟩, k6, k7, k8⟩ := l.at_ a _ z
      obtain ⟨z1, z2, _⟩ := cloAt a r z u k1
      refine ⟨u, by rw [trk_none (t.place z)]; exact z1, d, k2, k3, code _ _ k4 k5, RWs.extD ed0 _ _ k6, k7, fun y c hy => ?_, k8.inj, fun i y hy => ?_⟩
      · obtain ⟨o, x1, x2, x3⟩ := k8.all y c hy
        obtain ⟨x4, x5⟩ := cell c o x1 x2 x3
        exact ⟨o, x4, x5, x3⟩
      · obtain ⟨c, o, x1, x2, x3⟩ := k8.has i y hy
        obtain ⟨o', x4, x5, x6⟩ := k8.all y c x1
        rw [x2] at x4
        have e1 := celO_at hok x2
        obtain ⟨o'', y1, _, y3⟩ := k8.all y c x1
        have e2 := celO_at hok y1
        rw [e1] at e2
        have : o = o'' := Option.some.inj e2
        subst this
        exact ⟨c, o, x1, (cell c o x2 x5 y3).1, x3⟩
    · rw [Sto.re_other (fun r' y => z ⟨r', y⟩)] at hs
      obtain ⟨u, k1, k2⟩ := l'.at_ a so hs
      refine ⟨u, by rw [trk_none (gn a u k1)]; exact k1, ?_⟩
      cases so with
      | lst xs => obtain ⟨vs, z1, z2⟩ := k2; exact ⟨vs, z1, RWs.extD ed _ _ z2⟩
      | dct ks ws => obtain ⟨kvs, z1, z2, z3⟩ := k2; exact ⟨kvs, z1, z2, RWs.extD ed _ _ z3⟩
      | ins c fs ws => obtain ⟨dx, kvs, z1, z2, z3⟩ := k2; exact ⟨dx, kvs, z1, z2, RWs.extD ed _ _ z3⟩
      | clo r => exact (no2 a r hs).elim
  · obtain ⟨ps, h1, h2, h3⟩ := l'.tab tt ht
    refine ⟨ps, by rw [trk_none (gn _ _ h1)]; exact h1, h2, fun pos cv hcv => ?_⟩
    obtain ⟨c, e1, e2⟩ := h3 pos cv hcv
    exact ⟨c, e1, by rw [trk_none (gn _ _ e2)]; exact e2⟩
  · by_cases z : ∃ r', S a = some (.clo r')
    · obtain ⟨r', z⟩ := z
      rw [Sto.re_clo z] at hs
      cases hs
      exact l.sa a _ z
    · rw [Sto.re_other (fun r' y => z ⟨r', y⟩)] at hs
      exact (no2 a r hs).elim
end
end PD

set_option Elab.async false
set_option linter.all false
set_option maxRecDepth 100000
set_option maxHeartbeats 4000000
namespace PD
open PySem PySem.Spec PyProof.Rows L2 NdefX LamX
section
variable {X : Cx} {pins : List (Addr × Obj)} {τ : L2.St} {H : Hp} {s : Shared}
/-- what a making changes: new objects, a table that grows -/
def Grow (H H1 : Hp) : Prop := ∀ b o, H b = some o → H1 b = some o ∨ ∃ ps more, o = .tbl ps ∧ H1 b = some (.tbl (ps ++ more))
theorem fd_lam {d : CloD} {b : Expr} {cl : List (Str × Addr)} {cd pm ctv : Value} (hb : d.body = .expr b) : fdOf d cl cd pm .none ctv = PySem.W.kla_fn d.name d.qual d.params b d.scope cl pm cd ctv := by
  unfold fdOf
  rw [hb]
/-- the object is known from now on -/
theorem inv_push {d : CloD} {cl : List (Str × Addr)} {c : Addr} {pm doc ctv : Value} {tk : Nat} (I : Inv X pins τ H s) :
    Inv X pins τ (upd H s.heap.objs.size (CloO s.heap.objs.size d cl c)) { s with heap := s.heap.push { cls := .type "function", data := .func (fdOf d cl (.ref c) pm doc ctv) }, toks := tk } := by
  have at_ : (s.heap.push ({ cls := .type "function", data := .func (fdOf d cl (.ref c) pm doc ctv) } : Obj)).get? s.heap.objs.size = some ({ cls := .type "function", data := .func (fdOf d cl (.ref c) pm doc ctv) } : Obj) := Heap.get?_push_size _ rfl
  exact I.laid (a := s.heap.objs.size) (fun _ _ e => Heap.get?_push_of_some _ e) (Nat.le_refl _) ⟨⟨_, _, _, _, _, at_⟩, ⟨_, at_⟩, fun _ _ ⟨od, sl, x, y, z, q⟩ st => ⟨od, sl, x, y, z, st _ q⟩⟩
theorem mk_lam {T : List NTab} {nm : Nat → Nat → Str} {c P : Addr} {d : CloD} {b : Expr} {pos : Pos} {E Q : Value → Shared → Prop} (I : Inv X pins τ H s) (tb : TabB X.base X.mg c P) (code : X.env.code = .ref c) (mem : (P, nm) ∈ T)
    (named : nm pos.line pos.col = d.qual) (dn : d.name = "<lambda>") (dq : d.qual = X.env.qual ++ "<lambda>") (db : d.body = .expr b) (one : ∀ p ∈ T, p.1 = P → p.2 = nm) (tabs : TabsN T H) (dfl : defaultsOf d.params X.env = ([], []))
    (free : ∀ y ∈ d.scope.names, y.2 = .free → ∃ c, X.env.cells.lookup y.1 = some c)
    (h : ∀ (f c' : Addr) (H1 : Hp) (s' : Shared), Inv X pins τ H1 s' → Grow H H1 → TabsN T H1 → H f = none → H1 f = some (CloO f d (cloFrom X.env.cells d.scope.names []) c') → H1 c' = some (CodeO c' d.qual) → c' ≠ f → Q (.ref f) s') :
    wpAny (model X.prog X.w) X.A (eval (.Lambda d.params b d.scope pos) X.env) Q E s := by
  apply PySem.W.kla_eval dfl
  rw [← dn, show X.env.qual ++ d.name = d.qual by rw [dn, dq]]
  obtain ⟨ps, atP, triples, among⟩ := tabs _ mem
  have bi := tb.bm.keeps I.bk
  have heapP : s.heap.get? P = some { cls := .none, data := .fields ps } := I.hok P _ atP
  cases found : codeAmong pos ps.toList with
  | some cv =>
    obtain ⟨c', ecv, co⟩ := among pos cv found
    subst ecv
    rw [show (P, nm).2 pos.line pos.col = d.qual from named] at co
    apply PySem.W.kla_makeFunctionHit (mg := X.mg) (c := c) (P := P) (ps := ps) (closure_ok free) I.ok.glob (I.mod.glob.keeps I.bk) code (tb.code.keeps I.bk) heapP triples found bi
    intro ctv h' tk old _
    have I1 : Inv X pins τ H { s with heap := h', toks := tk } := I.kept old
    have fresh : H h'.objs.size = none := I1.hok.fresh (Nat.le_refl _)
    have I2 := inv_push (d := d) (cl := cloFrom X.env.cells d.scope.names []) (c := c') (pm := (X.mg "__name__").getD .none) (doc := .none) (ctv := ctv) (tk := tk) I1
    have ne : c' ≠ h'.objs.size := ne_of_none co fresh
    rw [fd_lam db] at I2
    exact h h'.objs.size c' _ _ I2 (fun b o e => .inl (by rw [upd_ne (ne_of_none e fresh)]; exact e)) (tabs.ext fun b o e => by rw [upd_ne (ne_of_none e fresh)]; exact e) fresh upd_same (by rw [upd_ne ne]; exact co) ne
  | none =>
    apply PySem.W.kla_makeFunction (mg := X.mg) (c := c) (P := P) (ps := ps) (closure_ok free) I.ok.glob (I.mod.glob.keeps I.bk) code (tb.code.keeps I.bk) heapP triples found tb.gP bi
    intro c' ctv h' tk old ge lt rec_ grown
    obtain ⟨c2, oc, vs, t, ec, hoc, hd, hv⟩ := rec_
    cases ec
    have newC : H c' = none := I.hok.fresh ge
    have I1 := inv_table (t' := tk) (more := #[rawInt pos.line, rawInt pos.col, .ref c']) (h' := h') I atP (fun b o ne e => old b o ne e) grown ge ⟨oc, vs, t, hoc, hd, hv⟩
    have nPc : P ≠ c' := ne_of_none atP newC
    generalize hH1 : upd (upd H P (.tbl (ps ++ #[rawInt pos.line, rawInt pos.col, .ref c']))) c' (CodeO c' d.qual) = H1 at I1
    have other : ∀ b o, H b = some o → b ≠ P → H1 b = some o := fun b o e ne => by
      rw [← hH1, upd_ne (ne_of_none e newC), upd_ne ne]; exact e
    have grow1 : Grow H H1 := fun b o e => by
      by_cases z : b = P
      · subst z
        rw [atP] at e; cases e
        exact .inr ⟨ps, _, rfl, by rw [← hH1, upd_ne nPc, upd_same]⟩
      · exact .inl (other b o e z)
    have notP : ∀ b x, H b = some (CodeO b x) → b ≠ P := fun b x e z => by
      subst z; rw [atP] at e
      exact codeO_ne ps (Option.some.inj e).symm
    have tabs1 : TabsN T H1 := fun p hp => by
      by_cases z : p.1 = P
      · rw [one p hp z, z]
        refine ⟨_, by rw [← hH1, upd_ne nPc, upd_same], by rw [Array.toList_append]; exact PySem.TriplesOk_snoc _ _ _ _ triples, fun p' cv hcv => ?_⟩
        rw [Array.toList_append] at hcv
        rcases among_app2 _ triples hcv with y | ⟨y, y1, y2⟩
        · obtain ⟨c0, e1, e2⟩ := among p' cv y
          exact ⟨c0, e1, other _ _ e2 (notP _ _ e2)⟩
        · refine ⟨c', y, ?_⟩
          rw [← y1, ← y2, named, ← hH1]
          exact upd_same
      · obtain ⟨qs, a1, a2, a3⟩ := tabs p hp
        refine ⟨qs, other _ _ a1 z, a2, fun p' cv hcv => ?_⟩
        obtain ⟨c0, e1, e2⟩ := a3 p' cv hcv
        exact ⟨c0, e1, other _ _ e2 (notP _ _ e2)⟩
    have code1 : H1 c' = some (CodeO c' d.qual) := by rw [← hH1]; exact upd_same
    have fresh : H1 h'.objs.size = none := I1.hok.fresh (Nat.le_refl _)
    have ne : c' ≠ h'.objs.size := Nat.ne_of_lt lt
    have I2 := inv_push (d := d) (cl := cloFrom X.env.cells d.scope.names []) (c := c') (pm := (X.mg "__name__").getD .none) (doc := .none) (ctv := ctv) (tk := tk) I1
    rw [fd_lam db] at I2
    have fresh0 : H h'.objs.size = none := by
      cases q : H h'.objs.size with
      | none => rfl
      | some u => rcases grow1 _ u q with y | ⟨_, _, _, y⟩ <;> (rw [fresh] at y; cases y)
    refine h h'.objs.size c' _ _ I2 (fun b o e => ?_) (tabs1.ext fun b o e => by rw [upd_ne (ne_of_none e fresh)]; exact e) fresh0 upd_same (by rw [upd_ne ne]; exact code1) ne
    rcases grow1 b o e with y | ⟨qs, more, y1, y2⟩
    · exact .inl (by rw [upd_ne (ne_of_none y fresh)]; exact y)
    · exact .inr ⟨qs, more, y1, by rw [upd_ne (ne_of_none y2 fresh)]; exact y2⟩
end
end PD

set_option Elab.async false
set_option linter.all false
set_option maxRecDepth 100000
set_option maxHeartbeats 4000000
namespace PD
open PySem PySem.Spec PyProof.Rows L2 NdefX LamX
def nfOf (d : CloD) (cl : List (Str × Addr)) (c : Addr) : NF := ⟨d.name, d.qual, d.params, [], d.scope, cl, c⟩
section
variable {P : Program} {w : World} {K : PySem.W.Frag} {mg : Str → Option Value} {base : Heap} {f : Str} {d : CloD} {N : List Str} {k : Nat} {sp : Sp}
/-- what the body of a function within must do -/
def bodyOk (P : Program) (w : World) (K : PySem.W.Frag) (mg : Str → Option Value) (base : Heap) (d : CloD) (N : List Str) (k : Nat) (sp : Sp) : Prop := ∀ (A : Around) (outer : List Env) (s : Shared) (H : Hp) (a c : Addr) (cl : List (Str × Addr)) (vs caps : List V) (Q : VK) (E : XK),
  Room k (A.deeper (envF (nfOf d cl c) a s.heap.objs.size)) → A.guards = some [] → vs.length = d.ps.length → caps.length = d.fr.length → sp (vs ++ caps) H Q E →
  match d.body with
  | .stmts b => ∃ t, PSs (ncx (L2.CX P w) P w K mg base N (nfOf d cl c) a A outer s H E) b t ∧ t ⟨fun _ H' => Q .non H', Q, fun _ _ => False, fun _ _ => False⟩ (startF N vs (caps.map some)) H
  | .expr e => ∃ t, PE (ncx (L2.CX P w) P w K mg base N (nfOf d cl c) a A outer s H E) e t ∧ t (startF N vs (caps.map some)) H Q
theorem cg_of (S : NScope N d.ps d.fr d.scope) (bind : ∀ (cl : List (Str × Addr)) (c : Addr) (pm doc ctv : Value) (us : List Value), us.length = d.ps.length → bindArgs (fdOf d cl (.ref c) pm doc ctv) ⟨us, []⟩ = pure (d.ps.zip us))
    (len : ∀ vs H Q E, sp vs H Q E → vs.length = d.ps.length + d.fr.length) (body : bodyOk P w K mg base d N k sp) : CG P w K mg base (k + 1) f d sp where
  len := len
  run := fun A outer s H a c cl us vs caps Q E room gd env ⟨od, sl, doc, pm, ctv, ho⟩ cr cells rv lv want => by
    have unlimited : s.heap.NoLimit := env.mod.nolimit.keeps fun b o e => (env.bs b o e).1
    have capl : caps.length = d.fr.length := by have := cells.len; rwa [List.length_map] at this
    have args := bind cl c pm doc ctv us (by rw [← rv.length]; exact lv)
    have b := body A outer s H a c cl vs caps Q E (room.deeper _) gd lv capl want
    have enter : ∀ {h₁ : Heap} {tk : Nat}, h₁.Ns s.heap.objs.size (fun y => (d.ps.zip us).reverse.lookup y) → (∀ b o, s.heap.get? b = some o → h₁.get? b = some o) →
        Inv (ncx (L2.CX P w) P w K mg base N (nfOf d cl c) a A outer s H E) [] (startF N vs (caps.map some)) H { s with heap := h₁, toks := tk } := fun {h₁ tk} hns kp => inv_startN (F := nfOf d cl c) S room.hd env lv rv cells hns kp
    have done : ∀ {σ' : L2.St} {H' : Hp} {v : V} {u : Value} {s' : Shared}, Inv (ncx (L2.CX P w) P w K mg base N (nfOf d cl c) a A outer s H E) [] σ' H' s' → L2.RelV v u → Q v H' → CE outer P w H s Q u s' :=
      fun {σ' H' v u s'} J r q => ⟨v, H', J.os, J.bare, J.base, J.hok, r, q⟩
    cases hbd : d.body with
    | stmts bs =>
      rw [hbd] at b
      obtain ⟨t, ht, hq⟩ := b
      apply codeAny_call_function room.depth ho rfl S.co S.gen (show (fdOf d cl (.ref c) pm doc ctv).body = .stmts bs from hbd) cr
      rw [args]
      apply wpAny_pure
      apply wpAny_newFunctionEnv S.nocell (fun y hy => S.par y.1 (List.of_mem_zip (show (y.1, y.2) ∈ d.ps.zip us from hy)).1) _ S.kind
      intro h₁ hns same
      refine ⟨unlimited.fresh _ same, ?_⟩
      apply codeAny_func
      have kp : ∀ b o, s.heap.get? b = some o → h₁.get? b = some o := fun b o e => same.extBut b o (Nat.ne_of_lt (Heap.lt_size e)) (Heap.get?_push_of_some _ e)
      refine wpAny_mono (ht.run [] _ _ H _ (enter hns kp) hq) (fun fl s' out => ?_) fun _ _ z => z
      match fl, out with
      | .ret u, ⟨v, σ', H', J, r, q⟩ => exact done J r q
      | .next, ⟨σ', H', J, q⟩ => exact done (v := .non) (u := .none) J rfl q
      | .brk, ⟨_, _, _, q⟩ => exact q.elim
      | .cont, ⟨_, _, _, q⟩ => exact q.elim
    | expr e =>
      rw [hbd] at b
      obtain ⟨t, ht, hq⟩ := b
      apply PySem.W.kla_callFunE room.depth ho rfl S.co S.gen (show (fdOf d cl (.ref c) pm doc ctv).body = .expr e from hbd) cr
      rw [args]
      apply wpAny_pure
      apply wpAny_newFunctionEnv S.nocell (fun y hy => S.par y.1 (List.of_mem_zip (show (y.1, y.2) ∈ d.ps.zip us from hy)).1) _ S.kind
      intro h₁ hns same
      refine ⟨unlimited.fresh _ same, ?_⟩
      have kp : ∀ b o, s.heap.get? b = some o → h₁.get? b = some o := fun b o e => same.extBut b o (Nat.ne_of_lt (Heap.lt_size e)) (Heap.get?_push_of_some _ e)
      apply PySem.W.kla_codeExpr
      refine wpAny_mono (ht.run [] _ _ H Q (enter hns kp) hq) (fun u s' out => ?_) fun _ _ z => z
      obtain ⟨v, H', J, r, q⟩ := out
      exact done J r q
end
/-! ## calls of them -/
section
variable {X : Cx} {C : Cn} {Ê : L2.St → XK} {c : Sc} {fr : List Str} {fl : Fl} {was : WA} {pa : Expr} {ps : List Expr} {pos : Pos}
theorem pe_or {p : Expr} {w1 w2 : PD.WE} (h1 : PE X p (LE X.K Ê w1)) (h2 : PE X p (LE X.K Ê w2)) : PE X p (LE X.K Ê fun σ S Q Y => w1 σ S Q Y ∨ w2 σ S Q Y) :=
  ⟨fun pins s τ H Qh I ⟨σ, S, Q, Y, hs, hl, h, k, hx⟩ => h.elim (fun h => h1.run pins s τ H Qh I ⟨σ, S, Q, Y, hs, hl, h, k, hx⟩) fun h => h2.run pins s τ H Qh I ⟨σ, S, Q, Y, hs, hl, h, k, hx⟩⟩
theorem fn_of {pins : List (Addr × Obj)} {τ : L2.St} {H : Hp} {s : Shared} {a : Addr} {d : CloD} {cl : List (Str × Addr)} {cc : Addr} (I : Inv X pins τ H s) (e : H a = some (CloO a d cl cc)) :
    ∃ (od : Option Addr) (sl : Array (Option Value)) (doc pm ctv : Value), s.heap.get? a = some (⟨.type "function", od, .func (fdOf d cl (.ref cc) pm doc ctv), sl⟩ : Obj) := (I.hok a _ e).1
theorem fnA_of {pins : List (Addr × Obj)} {τ : L2.St} {H : Hp} {s : Shared} {a : Addr} {d : CloD} {cl : List (Str × Addr)} {cc : Addr} (I : Inv X pins τ H s) (e : H a = some (CloO a d cl cc)) : PySem.W.FnAt a s.heap := by
  obtain ⟨od, sl, doc, pm, ctv, z⟩ := fn_of I e
  exact ⟨_, _, _, _, z⟩
theorem we_callc (o : Ok X C Ê c fr fl) {i : Nat} {x : Str} {p : Pos} (hN : X.N[i]? = some x) (hv : Vis X.env.scope x) (hd : (x == ("__debug__" : Str)) = false) (hcd : (x == ("__classdict__" : Str)) = false) (ha : PA X (pa :: ps) (LA X.K Ê was))
    (he : starEach (pa :: ps) X.env = (false, eval pa X.env) :: starEach ps X.env) (hpl : (backTo pos (starEach ps X.env)).any (·.1) = false) :
    PE X (.Call (.Name x p) (pa :: ps) [] pos) (LE X.K Ê fun σ S Q Y => ∃ a r, σ[i]? = some (some (.ref a)) ∧ S a = some (.clo r) ∧ was σ S (fun ws S1 => C.Γ r.f (ws ++ r.cs) S1.noc (fun v S2 => Q v (S2.re S1)) (fun _ _ => False)) Y) := by
  refine ⟨fun pins s τ H Qh I h => ?_⟩
  obtain ⟨σ, S, Q, Y, hs, hl, ⟨a, r, e1, e2, hw⟩, kk, hx⟩ := h
  obtain ⟨k, room, pr⟩ := o.pr
  obtain ⟨v1, hτ, w2⟩ := hs.2 i _ e1
  unfold RW at w2
  subst w2
  have ra : r.a = a := hl.sa a r e2
  subst ra
  obtain ⟨u0, k1, d0, k2, k3, _⟩ := hl.at_ r.a _ e2
  subst k3
  refine wpAny_Call_Name_kw (thn ((pe_var (pos := p) hN hv hd hcd).run pins s τ H (fun v H1 => v = .ref r.a ∧ H1 = H) I ⟨_, hτ, rfl, rfl⟩) fun u s1 ⟨v, H1, I1, r1, ev, eH⟩ => ?_)
  subst ev
  subst eH
  obtain rfl : u = Value.ref r.a := r1
  refine PySem.W.callWith_F (first := []) (fnA_of I1 k1) (thn (ha.run pos pins s1 τ H1 (fun vs H2 => ∃ S1 ws, Ext H1 S H2 S1 ∧ LinkS X.K H2 S1 ∧ RWs X.K H2 S1 ws vs ∧ C.Γ r.f (ws ++ r.cs) S1.noc (fun v S2 => Q v (S2.re S1)) (fun _ _ => False)) I1
    (LA.mk hs hl hx hw fun ws S1 vs H2 e l s x r q => ⟨S1, ws, e, l, r, q⟩)) fun us s2 ⟨vs, H2, I2, rv, S1, ws, ex, l2, rw2, q⟩ => ?_) he hpl
  have S1a := (ex.clo r.a r e2).1
  obtain ⟨u2, m1, d, m2, m3, ⟨m4, m5⟩, m6, m7, m8⟩ := l2.at_ r.a _ S1a
  subst m3
  refine ⟨fnA_of I2 m1, ?_⟩
  have told : Told H2 S1 (cellsOf r.cl s2.heap) := fun b ob hb => by
    obtain ⟨h1, y, hy⟩ := cellsOf_get hb
    obtain ⟨o', h2, h3, h4⟩ := m8.all y b hy
    have h5 := celO_at I2.hok h2
    rw [h1] at h5; cases h5
    exact ⟨h2, h3, h4⟩
  obtain ⟨lu, ed⟩ := link_un l2 I2.hok told
  have cells : CellsAt r.cl d.fr (r.vs.map some) s2.heap (utr H2 (cellsOf r.cl s2.heap)) := by
    refine ⟨by rw [List.length_map]; exact m7, fun y c hy => ?_, m8.inj, fun i y hy => ?_⟩
    · obtain ⟨o', h2, h3, v, h4⟩ := m8.all y c hy
      have h5 := celO_at I2.hok h2
      exact ⟨utr_some (cellsOf_at hy h5), v, o', h5, h4⟩
    · obtain ⟨c, o', h1, h2, h3⟩ := m8.has i y hy
      refine ⟨c, h1, fun v hv => ?_⟩
      have hv' : r.vs[i]? = some v := by
        rw [List.getElem?_map] at hv
        cases z : r.vs[i]? with
        | none => rw [z] at hv; cases hv
        | some v' => rw [z] at hv; cases hv; rfl
      obtain ⟨u, h4, h5⟩ := h3 v hv'
      exact ⟨u, h4, o', celO_at I2.hok h2, h5⟩
  have env := env0_utr I2.env0 (g := cellsOf r.cl s2.heap) fun b ob hb => ⟨_, (told b ob hb).1⟩
  have cg := pr.cg r.f d m2
  have want : lsp X.K (C.Γ r.f) (vs ++ r.vs) (utr H2 (cellsOf r.cl s2.heap)) (fun v H' => ∃ rv S2, Ext (utr H2 (cellsOf r.cl s2.heap)) S1.noc H' S2 ∧ LinkS X.K H' S2 ∧ RW X.K H' S2 rv v ∧ Q rv (S2.re S1)) (fun _ _ _ => False) :=
    ⟨ws ++ r.cs, S1.noc, _, fun _ _ => False, (RWs.extD ed _ _ rw2).append (RWs.extD ed _ _ m6), lu, q, fun rv S' v H' e l rw' q' => ⟨rv, S', e, l, rw', q'⟩, XO.none⟩
  have lv : vs.length = d.ps.length := by
    have := cg.len _ _ _ _ want
    rw [List.length_append, m7] at this
    omega
  refine wpAny_call (codeAny_mono (cg.run X.A X.stack s2 _ r.a r.c r.cl us vs r.vs _ _ room o.guards env (fn_of I2 m1) (NdefX.codeO_at I2.hok m4) cells rv lv want) fun res s' hq => ?_)
  match res, hq with
  | .error e, hq =>
    obtain ⟨_, _, _, _, _, _, _, _, _, _, _, _, z⟩ := hq
    exact z.elim
  | .ok .next, hq => exact hq.elim
  | .ok .brk, hq => exact hq.elim
  | .ok .cont, hq => exact hq.elim
  | .ok (.ret u), ⟨v, H', eos, bare, un, hok', rel, rv2, S2, ex2, l', rw', q'⟩ =>
    have hn : ∀ b ob, cellsOf r.cl s2.heap b = some ob → H' b = none := fun b ob hb => un.free b ob (cellsOf_get hb).1 (utr_some hb) (fun z => nomatch z)
    have gets : ∀ b ob, cellsOf r.cl s2.heap b = some ob → s'.heap.get? b = some ob := fun b ob hb => un.keep b ob (cellsOf_get hb).1 (utr_some hb) (fun z => by
      have := I2.stkFree b z
      rw [(told b ob hb).1] at this; cases this) (fun z => nomatch z)
    obtain ⟨j1, j2, j3⟩ := link_re l2 I2.hok told ex2 l' rw' hok' hn
    exact I2.after ⟨v, _, eos, bare, un_trk un fun b ob hb => ⟨(told b ob hb).1, (cellsOf_get hb).1⟩, trk_hok hok' gets hn, rel, kk rv2 (S2.re S1) v _ (ex.trans j1) j2 j3 q'⟩
end
end PD

set_option Elab.async false
set_option linter.all false
set_option maxRecDepth 100000
set_option maxHeartbeats 4000000
namespace PD
open PySem PySem.Spec PyProof.Rows L2 NdefX LamX
theorem mem_look {α β : Type} [BEq α] [LawfulBEq α] {a : α} {b : β} : ∀ {l : List (α × β)}, l.lookup a = some b → (a, b) ∈ l
  | [], h => by cases h
  | (x, y) :: l, h => by
    rw [List.lookup_cons] at h
    by_cases z : (a == x) = true
    · rw [z] at h
      cases h
      rw [eq_of_beq z]
      exact List.mem_cons_self
    · have z' : (a == x) = false := by simpa using z
      rw [z'] at h
      exact List.mem_cons_of_mem _ (mem_look h)
/-- what a lambda's form tells -/
structure LamAt (N : List Str) (c : Sc) (f : Str) (js : List Nat) (p : Expr) (d : CloD) (b : Expr) (lpos : Pos) (m : He.Defn × Str) (nm : Nat → Nat → Str) : Prop where
  fd : findC f = some d
  form : p = .Lambda d.params b d.scope lpos
  name : d.name = "<lambda>"
  body : d.body = .expr b
  d0 : d.params.defaults = []
  k0 : d.params.kw_defaults = []
  mf : c.mf = some m
  at_ : tfL.lookup m.1 = some nm
  named : nm lpos.line lpos.col = d.qual
  qual : d.qual = m.2 ++ "<lambda>"
  ndef : ndefB c.sc d.scope d.fr = true
  own : ∀ y ∈ d.scope.names, y.2 = .free → c.fb y.1 = true
  slots : js.map (fun j => N[j]?) = d.fr.map some
theorem lam_at {N : List Str} {c : Sc} {f : Str} {js : List Nat} {p : Expr} (h : lamB N c f js p = true) : ∃ d b lpos m nm, LamAt N c f js p d b lpos m nm := by
  unfold lamB at h
  split at h
  · rename_i params body scope lpos
    split at h
    · rename_i d hd
      simp only [Bool.and_eq_true, decide_eq_true_eq] at h
      obtain ⟨⟨⟨⟨⟨⟨⟨h1, h2⟩, h3⟩, h4⟩, h5⟩, h6⟩, h7⟩, h8⟩ := h
      split at h3
      · rename_i b hb
        split at h5
        · rename_i m hm
          split at h5
          · rename_i nm hnm
            simp only [Bool.and_eq_true, decide_eq_true_eq] at h5
            obtain ⟨z1, z2, z3⟩ := eqArgs_ok h2
            subst z1
            have z4 := eqX_ok h3
            subst z4
            subst h4
            refine ⟨d, _, lpos, m, nm, hd, rfl, h1, hb, z2, z3, hm, hnm, h5.1.trans h5.2.symm, h5.2, h6, fun y hy e => ?_, h8⟩
            have := List.all_eq_true.mp h7 y hy
            simpa [e] using this
          · cases h5
        · cases h5
      · cases h3
    · cases h
  · cases h
section
variable {X : Cx} {C : Cn} {Ê : L2.St → XK} {c : Sc} {fr : List Str} {fl : Fl}
theorem nodup_one {T : List NTab} (h : (T.map (·.1)).Nodup) {P : Addr} {nm : Nat → Nat → Str} (m : (P, nm) ∈ T) : ∀ p ∈ T, p.1 = P → p.2 = nm := by
  induction T with
  | nil => cases m
  | cons t T ih =>
    rw [List.map_cons, List.nodup_cons] at h
    intro p hp e
    rcases List.mem_cons.mp m with z | z <;> rcases List.mem_cons.mp hp with y | y
    · rw [y, ← z]
    · exact absurd (List.mem_map.mpr ⟨p, y, by rw [e, ← z]⟩) h.1
    · exact absurd (List.mem_map.mpr ⟨(P, nm), z, by rw [← y]; exact e.symm⟩) h.1
    · exact ih h.2 z p y e
def tLamA (X : Cx) (f : Str) : TA := fun τ H R => TabsN (tabsK X.K) H ∧ ∀ (d : CloD) (fa c' : Addr) (H2 : Hp), findC f = some d → Grow H H2 → TabsN (tabsK X.K) H2 → H fa = none → H2 fa = some (CloO fa d (cloFrom X.env.cells d.scope.names []) c') → H2 c' = some (CodeO c' d.qual) → c' ≠ fa → R [.ref fa] H2
theorem lam_free (o : Ok X C Ê c fr fl) {f : Str} {js : List Nat} {p : Expr} {d : CloD} {b : Expr} {lpos : Pos} {m : He.Defn × Str} {nm : Nat → Nat → Str} (l : LamAt X.N c f js p d b lpos m nm) (ok : X.Ok) : ∀ y ∈ d.scope.names, y.2 = .free → ∃ a, X.env.cells.lookup y.1 = some a := fun y hy e => by
  have := ndef_free l.ndef y hy e
  rw [← o.sc] at this
  rcases this with z | z
  · exact ok.has _ (.inl z)
  · exact ok.has _ (.inr z)
theorem dfl_nil {a : Arguments} {env : Env} (h1 : a.defaults = []) (h2 : a.kw_defaults = []) : defaultsOf a env = ([], []) := by
  obtain ⟨p, as, v, k, kd, kw, ds⟩ := a
  simp only at h1 h2
  subst h1
  subst h2
  simp [defaultsOf, evalEach, evalEachOpt]
theorem pa_lam (o : Ok X C Ê c fr fl) {f : Str} {js : List Nat} {p : Expr} (h : lamB X.N c f js p = true) : PA X [p] (tLamA X f) := by
  obtain ⟨d, b, lpos, m, nm, l⟩ := lam_at h
  have e := l.form
  subst e
  obtain ⟨code, tb, qu⟩ := o.code m l.mf
  have mem : ((He.cT X.K m.1).2, nm) ∈ tabsK X.K := List.mem_map.mpr ⟨(m.1, nm), mem_look l.at_, rfl⟩
  have dfl : defaultsOf d.params X.env = ([], []) := dfl_nil l.d0 l.k0
  refine ⟨fun pos pins s τ H R I ⟨tabs, k⟩ => ?_⟩
  show wpAny _ _ (spliced ((false, eval (.Lambda d.params b d.scope lpos) X.env) :: backTo pos (starEach [] X.env))) _ _ s
  refine Calls.spliced_cons (mk_lam I tb code mem l.named l.name (by rw [l.qual, qu]) l.body (nodup_one o.tabs mem) tabs dfl (lam_free o l I.ok) fun fa c' H1 s' I1 grow tabs1 n1 a1 c1 ne => ?_)
  exact Calls.spliced_nil ⟨[.ref fa], H1, I1, .cons rfl .nil, k d fa c' H1 l.fd grow tabs1 n1 a1 c1 ne⟩
/-- arguments, a lambda behind them -/
def LAL (X : Cx) (Ê : L2.St → XK) (f : Str) (was : WA) : TA := fun τ H R => ∃ σ S Q Y, RSl X.K H S σ τ ∧ LinkS X.K H S ∧ was σ S Q Y ∧
  (∀ ws S1 vs H1, Ext H S H1 S1 → LinkS X.K H1 S1 → RSl X.K H1 S1 σ τ → RWs X.K H1 S1 ws vs → Q ws S1 → ∀ (d : CloD) (fa c' : Addr) (H2 : Hp), findC f = some d → Grow H1 H2 → TabsN (tabsK X.K) H2 → H1 fa = none →
    H2 fa = some (CloO fa d (cloFrom X.env.cells d.scope.names []) c') → H2 c' = some (CodeO c' d.qual) → c' ≠ fa → R (vs ++ [.ref fa]) H2) ∧ XO X.K (Ê τ) H S Y
theorem lal_nil (o : Ok X C Ê c fr fl) {f : Str} {js : List Nat} {p : Expr} (h : lamB X.N c f js p = true) : PA X [p] (LAL X Ê f fun σ S Q _ => Q [] S) :=
  (pa_lam o h).imp fun τ H R ⟨σ, S, Q, Y, hs, hl, q, k, hx⟩ => ⟨hl.tab, fun d fa c' H2 z1 z2 z3 z4 z5 z6 z7 => k [] S [] H .refl hl hs .nil q d fa c' H2 z1 z2 z3 z4 z5 z6 z7⟩
theorem lal_cons {f : Str} {we : PD.WE} {was : WA} {p : Expr} {ps : List Expr} (he : PE X p (LE X.K Ê we)) (ha : PA X ps (LAL X Ê f was)) (hst : starEach (p :: ps) X.env = (false, eval p X.env) :: starEach ps X.env) :
    PA X (p :: ps) (LAL X Ê f fun σ S Q Y => we σ S (fun w S1 => was σ S1 (fun ws S2 => Q (w :: ws) S2) Y) Y) :=
  (pa_cons he ha hst).imp fun τ H R ⟨σ, S, Q, Y, hs, hl, q, k, hx⟩ => LE.mk hs hl hx q fun w S1 v H1 e1 l1 s1 x1 r1 q1 =>
    ⟨σ, S1, _, Y, s1, l1, q1, fun ws S2 vs H2 e2 l2 s2 r2 q2 d fa c' H3 z1 z2 z3 z4 z5 z6 z7 => k (w :: ws) S2 (v :: vs) H2 (e1.trans e2) l2 s2 (.cons (r1.ext e2) r2) q2 d fa c' H3 z1 z2 z3 z4 z5 z6 z7, x1⟩
theorem caps_rel {K : PySem.W.Frag} {H : Hp} {S : Sto} {σ : Sl} {τ : L2.St} (hs : RSl K H S σ τ) : ∀ {js : List Nat} {cs : List W}, capsW σ js = some cs → ∃ vs, RWs K H S cs vs ∧ vs.length = js.length ∧ ∀ (i j : Nat) (v : V), js[i]? = some j → vs[i]? = some v → τ[j]? = some (some v)
  | [], cs, h => by cases h; exact ⟨[], .nil, rfl, fun i j v e => by simp at e⟩
  | j :: js, cs, h => by
    unfold capsW at h
    split at h
    · rename_i w hw
      cases q : capsW σ js with
      | none => rw [q] at h; cases h
      | some cs' =>
        rw [q] at h; cases h
        obtain ⟨vs, h1, h2, h3⟩ := caps_rel hs q
        obtain ⟨v, h4, h5⟩ := hs.2 j w hw
        refine ⟨v :: vs, .cons h5 h1, by rw [List.length_cons, List.length_cons, h2], fun i j' v' e1 e2 => ?_⟩
        cases i with
        | zero =>
          have e1' : j = j' := by simpa using e1
          have e2' : v = v' := by simpa using e2
          rw [← e1', ← e2']; exact h4
        | succ i => exact h3 i j' v' (by simpa using e1) (by simpa using e2)
    · cases h
theorem we_callL (o : Ok X C Ê c fr fl) {g f : Str} {js : List Nat} {p : Pos} {pos : Pos} {pa lam : Expr} {ps : List Expr} {was : WA} (hf : fl.cfs.contains g = true) (hg : Gl X g) (hdb : (g == ("__debug__" : Str)) = false) (hlam : lamB X.N c f js lam = true) (ha : PA X (pa :: ps) (LAL X Ê f was))
    (he : starEach (pa :: ps) X.env = (false, eval pa X.env) :: starEach ps X.env) (hpl : (backTo pos (starEach ps X.env)).any (·.1) = false) :
    PE X (.Call (.Name g p) (pa :: ps) [] pos) (LE X.K Ê fun σ S Q Y => was σ S (fun ws S1 => ∃ cs, capsW σ js = some cs ∧ ∀ r : CloR, S1 r.a = none → r.f = f → r.cs = cs → C.Γ g (ws ++ [.ref r.a]) (S1.set r.a (.clo r)) (fun v S2 => Q v (S2.del r.a)) (fun _ _ => False)) Y) := by
  obtain ⟨d, b, lpos, m, nm, la⟩ := lam_at hlam
  obtain ⟨k, room, pr⟩ := o.pr
  obtain ⟨ga, fd, gps, h1, h2, h3, F⟩ := pr.callF g (by simpa using hf)
  refine ⟨fun pins s τ H Qh I h => ?_⟩
  obtain ⟨σ, S, Q, Y, hs, hl, hw, kk, hx⟩ := h
  have args := ha.run pos pins s τ H (fun vs' H2 => ∃ vs fa c' S1 ws H1, vs' = vs ++ [.ref fa] ∧ Ext H S H1 S1 ∧ LinkS X.K H1 S1 ∧ RSl X.K H1 S1 σ τ ∧ RWs X.K H1 S1 ws vs ∧
    (∃ cs, capsW σ js = some cs ∧ ∀ r : CloR, S1 r.a = none → r.f = f → r.cs = cs → C.Γ g (ws ++ [.ref r.a]) (S1.set r.a (.clo r)) (fun v S2 => Q v (S2.del r.a)) (fun _ _ => False)) ∧
    Grow H1 H2 ∧ TabsN (tabsK X.K) H2 ∧ H1 fa = none ∧ H2 fa = some (CloO fa d (cloFrom X.env.cells d.scope.names []) c') ∧ H2 c' = some (CodeO c' d.qual) ∧ c' ≠ fa) I
    ⟨σ, S, _, Y, hs, hl, hw, fun ws S1 vs H1 e l s r q d' fa c' H2 z1 z2 z3 z4 z5 z6 z7 => by
      rw [la.fd] at z1; cases z1
      exact ⟨vs, fa, c', S1, ws, H1, rfl, e, l, s, r, q, z2, z3, z4, z5, z6, z7⟩, hx⟩
  refine wpAny_Call_Name_kw (ld_glob I hg h1 (PySem.W.callWith_K (h₀ := X.base) I.ok.mod.kin h2 (thn args fun us s2 ⟨vs', H2, I2, rv, vs, fa, c', S1, ws, H1, ev, ex, l1, s1, rw1, ⟨cs, hcs, q⟩, grow, tabs2, n1, a2, c2, ne⟩ => ⟨I2.kIn, ?_⟩) he hpl) hdb)
  subst ev
  obtain ⟨caps, r1, len1, at1⟩ := caps_rel s1 hcs
  generalize hcl : cloFrom X.env.cells d.scope.names [] = cl at a2
  have free := lam_free o la I2.ok
  have cm : ∀ {y a}, cl.lookup y = some a → X.env.cells.lookup y = some a := fun {y a} e => by rw [← hcl] at e; exact clo_cm free e
  have jl : js.length = d.fr.length := by have := congrArg List.length la.slots; rwa [List.length_map, List.length_map] at this
  generalize hr : (⟨f, cs, fa, cl, c', caps⟩ : CloR) = r at *
  have rf : r.f = f := by rw [← hr]
  have rcs : r.cs = cs := by rw [← hr]
  have rra : r.a = fa := by rw [← hr]
  have rcl : r.cl = cl := by rw [← hr]
  have rc : r.c = c' := by rw [← hr]
  have rvs : r.vs = caps := by rw [← hr]
  have cells : ∀ y a, cl.lookup y = some a → ∃ ob, s2.heap.get? a = some ob ∧ isCellO ob := fun y a e => by
    obtain ⟨v, ob, z1, z2⟩ := I2.cell y a (cm e)
    exact ⟨ob, z1, v, z2⟩
  have fresh : FreshC H2 s2.heap (cellsOf cl s2.heap) := ⟨fun a ob e => by
    obtain ⟨_, y, hy⟩ := cellsOf_get e
    exact I2.freeC y a (cm hy), fun a ob e => by
    obtain ⟨z1, y, hy⟩ := cellsOf_get e
    obtain ⟨ob', z2, z3⟩ := cells y a hy
    rw [z1] at z2; cases z2
    exact ⟨z1, z3⟩⟩
  have nf : ∀ a ob, cellsOf cl s2.heap a = some ob → a ∉ frs X.stack := fun a ob e hb => by
    obtain ⟨_, y, hy⟩ := cellsOf_get e
    have hm := PySem.mem_of_lookup hy
    rw [← hcl] at hm
    rcases cloFrom_mem hm with z | ⟨z, _⟩
    · cases z
    · have big := I2.ok.cab y a (o.fb y (la.own _ z rfl)) (cm hy)
      rcases List.mem_cons.mp (I2.stkSub a hb) with w | w
      · exact I2.cne y a (cm hy) w
      · obtain ⟨_, ob2, w2, _⟩ := I2.ok.funs.mem w
        exact absurd (Heap.lt_size w2) (Nat.not_lt.mpr big)
  have Sc : S1 c' = none := by
    cases qs : S1 c' with
    | none => rfl
    | some so =>
      obtain ⟨u, z1, z2⟩ := l1.at_ c' so qs
      have z3 : H2 c' = some u ∨ ∃ ps more, u = .tbl ps ∧ H2 c' = some (.tbl (ps ++ more)) := grow c' u z1
      rw [c2] at z3
      have z4 : u = CodeO c' d.qual := by
        rcases z3 with z3 | ⟨_, _, _, z3⟩
        · exact (Option.some.inj z3).symm
        · exact absurd (Option.some.inj z3) (codeO_ne _)
      cases so with
      | lst xs => obtain ⟨_, z, _⟩ := z2; rw [z4] at z; cases z
      | dct ks ws => obtain ⟨_, z, _⟩ := z2; rw [z4] at z; cases z
      | ins k fs ws => obtain ⟨_, _, z, _⟩ := z2; rw [z4] at z; cases z
      | clo r' =>
        obtain ⟨d', _, z, _⟩ := z2
        have ra' := l1.sa c' r' qs
        rw [z4] at z
        have w1 := (I2.hok c' _ c2).1
        have c3 := c2
        rw [z] at c3
        obtain ⟨od, sl, x1, x2, x3, w2⟩ := (I2.hok c' _ c3).1
        obtain ⟨oc, vs0, t0, w3, w4, _⟩ := w1
        rw [ra', w3] at w2
        cases w2
        cases w4
  have has : ∀ (i : Nat) (y : Str), d.fr[i]? = some y → ∃ a ob, cl.lookup y = some a ∧ cellsOf cl s2.heap a = some ob ∧ ∀ v, caps[i]? = some v → ∃ u, L2.RelV v u ∧ ob.data = .cell (some u) := fun i y hy => by
    have hfr := ndef_fr la.ndef y (List.mem_of_getElem? hy)
    have kin := ndef_free la.ndef _ hfr rfl
    rw [← o.sc] at kin
    have hi : i < js.length := by rw [jl]; exact (List.getElem?_eq_some_iff.mp hy).1
    have hj : js[i]? = some js[i] := List.getElem?_eq_getElem hi
    have hNj : X.N[js[i]]? = some y := by
      have z := congrArg (fun l => l[i]?) la.slots
      simp only [List.getElem?_map, hj, hy, Option.map_some] at z
      exact Option.some.inj z
    have hv : caps[i]? = some caps[i] := List.getElem?_eq_getElem (by omega)
    obtain ⟨mm, _, look⟩ := I2.loc
    obtain ⟨u, ru, lk⟩ := look js[i] y caps[i] hNj (at1 i _ _ hj hv) (kin.elim (fun z => .inr (.inl z)) fun z => .inr (.inr z))
    rcases lk with ⟨z, _⟩ | ⟨_, a, ha1, ob, ha2, ha3⟩
    · have z' : X.env.scope.names.lookup y = some .local := z
      rcases kin with z2 | z2 <;> (have z2' : X.env.scope.names.lookup y = _ := z2; rw [z2'] at z'; cases z')
    · have hcy : cl.lookup y = some a := by rw [← hcl]; exact clo_has free hfr ha1
      refine ⟨a, ob, hcy, cellsOf_at hcy ha2, fun v hv2 => ?_⟩
      rw [hv] at hv2; cases hv2
      exact ⟨u, ru, ha3⟩
  have trkd := link_trk (r := r) (d := d) (g := cellsOf cl s2.heap) (h := s2.heap) l1 grow tabs2 fresh (by rw [rra]; exact n1) (by rw [rra, rcl, rc]; exact a2) (by rw [rf]; exact la.fd) (by rw [rc]; exact c2) (by rw [rc, rra]; exact ne) (by rw [rc]; exact Sc) (by rw [rcs, rvs]; exact r1) (by rw [rvs, len1]; exact jl)
    (fun x y a z1 z2 => by rw [rcl] at z1 z2; exact I2.ok.inj x y a (cm z1) (cm z2)) (fun y a z => by rw [rcl] at z; obtain ⟨ob, z1, _⟩ := cells y a z; exact ⟨ob, cellsOf_at z z1⟩) (fun i y z => by rw [rcl, rvs]; exact has i y z)
  obtain ⟨l3, st3⟩ := trkd
  have S1a : S1 r.a = none := l1.fresh (by rw [rra]; exact n1)
  have env := env0_trk I2.env0 o.cb (fun a ob e => ⟨fresh.nn a ob e, fresh.gt a ob e⟩) nf
  have want : lsp X.K (C.Γ g) (vs ++ [.ref fa]) (trk H2 (cellsOf cl s2.heap)) (fun v H' => ∃ rv S', Ext (trk H2 (cellsOf cl s2.heap)) (S1.set r.a (.clo r)) H' S' ∧ LinkS X.K H' S' ∧ RW X.K H' S' rv v ∧ Q rv (S'.del r.a)) (fun _ _ _ => False) :=
    ⟨ws ++ [.ref r.a], S1.set r.a (.clo r), _, fun _ _ => False, (RWs.extD (fun b ob z1 _ z2 => st3 b ob z1 z2) _ _ rw1).append (.cons (by unfold RW; rw [rra]) .nil), l3, q r S1a rf rcs, fun rv S' v H' e l rw' q' => ⟨rv, S', e, l, rw', q'⟩, XO.none⟩
  have bt := h3 s2 us I2.kIn (by rw [List.append_nil, ← rv.length]; exact F.len _ _ _ _ want)
  rw [List.append_nil] at bt
  refine wpAny_call (codeAny_mono (F.run X.A X.stack s2 _ ⟨us, []⟩ us _ _ _ room o.guards env bt rv want) fun res s' hq => ?_)
  match res, hq with
  | .error e, hq =>
    obtain ⟨_, _, _, _, _, _, _, _, _, _, _, _, z⟩ := hq
    exact z.elim
  | .ok .next, hq => exact hq.elim
  | .ok .brk, hq => exact hq.elim
  | .ok .cont, hq => exact hq.elim
  | .ok (.ret u), ⟨v, H', eos, bare, un, hok', rel, rv2, S', ex2, l', rw', q'⟩ =>
    have H1n : ∀ a ob, cellsOf cl s2.heap a = some ob → H1 a = none := fun a ob e => by
      cases z : H1 a with
      | none => rfl
      | some u =>
        have y := fresh.nn a ob e
        rcases grow a u z with w | ⟨_, _, _, w⟩ <;> (rw [y] at w; cases w)
    obtain ⟨j1, j2, j3, j4⟩ := link_back (H1 := H2) (r := r) (d := d) (g := cellsOf cl s2.heap) l1 (by rw [rra]; exact n1) rfl rfl st3 (fun b r' ob z1 z2 => by
        obtain ⟨u', y1, d', _, y2, _⟩ := l1.at_ b _ z1
        rw [z2] at y1; cases y1
        have gb : H2 b = some ob := by
          rcases grow b ob z2 with w | ⟨_, _, w, _⟩
          · exact w
          · rw [y2] at w; cases w
        rw [trk_none (fresh.g_none gb)]; exact gb) S1a (fun a ob e => ⟨H1n a ob e, l1.fresh (H1n a ob e), (fresh.gt a ob e).2⟩)
      (fun a ob e => ⟨trk_some e, by
        have z : a ≠ r.a := fun z => by
          have y := fresh.nn a ob e
          rw [z, rra, a2] at y; cases y
        rw [Sto.set_ne z]; exact l1.fresh (H1n a ob e)⟩) ex2 l' rw' hok'
    exact I2.after ⟨v, _, eos, bare, un_utr un hok' fun a ob e => ⟨fresh.nn a ob e, (fresh.gt a ob e).1, j4 a ob e⟩, utr_hok hok' fun a ob e => .inr ⟨_, j4 a ob e⟩, rel, kk rv2 (S'.del r.a) v _ (ex.trans j1) j2 j3 q'⟩
end
end PD

set_option Elab.async false
set_option linter.all false
set_option maxRecDepth 100000
set_option maxHeartbeats 4000000
namespace PD
open PySem PySem.Spec PyProof.Rows L2

/-! ## all the rules, once -/
/-- its test is its value's -/
def tstB : Expr → Bool
  | .UnaryOp .Not _ _ => false
  | .BoolOp _ _ _ => false
  | .IfExp _ _ _ _ => false
  | .Compare _ _ _ _ => false
  | _ => true
section
variable {C : Cn} {fr : List Str} {fl : Fl}
theorem both {X : Cx} {Ê : L2.St → XK} {p : Expr} {w : PD.WE} {b : Bool} (hp : plainP p = true) (hb : tstB p = true) (pe : PE X p (LE X.K Ê w)) : PE X p (LE X.K Ê w) ∧ (b = true → PT X p (LT X.K Ê fun σ S Q Y => w σ S (fun u S1 => ∃ r, truW (rd S1 u) = some r ∧ Q r S1) Y)) :=
  ⟨pe, fun _ => wt_def hp (fun _ _ z => by subst z; cases hb) (fun _ _ _ z => by subst z; cases hb) (fun _ _ _ _ z => by subst z; cases hb) (fun _ _ _ _ z => by subst z; cases hb) pe⟩
theorem ba3 {a b c : Bool} (h : (a && b && c) = true) : a = true ∧ b = true ∧ c = true := let ⟨x, z⟩ := ba2 h; let ⟨x, y⟩ := ba2 x; ⟨x, y, z⟩
theorem ba4 {a b c d : Bool} (h : (a && b && c && d) = true) : a = true ∧ b = true ∧ c = true ∧ d = true := let ⟨x, z⟩ := ba2 h; let ⟨p, q, r⟩ := ba3 x; ⟨p, q, r, z⟩
theorem ba5 {a b c d e : Bool} (h : (a && b && c && d && e) = true) : a = true ∧ b = true ∧ c = true ∧ d = true ∧ e = true := let ⟨x, z⟩ := ba2 h; let ⟨p, q, r, s⟩ := ba4 x; ⟨p, q, r, s, z⟩
theorem nb {a : Bool} (h : (!a) = true) : a = false := by simpa using h
theorem opb {a b : Operator} (h : (a == b) = true) : a = b := by simpa using h
theorem cob {a b : CmpOp} (h : (a == b) = true) : a = b := by simpa using h
theorem marksC {op : CmpOp} {p : Expr} {e : E} {c : Sc} {N : List Str} (h : chkE fr fl N e c p = true) : behindInMarks op p = false := marks_of (chk_plain h)
theorem star1 {e : E} {c : Sc} {N : List Str} {p : Expr} {env : Env} (h : chkE fr fl N e c p = true) : starEach [p] env = [(false, eval p env)] := star_of (chk_plain h)
theorem callB {X : Cx} {c : Sc} {Ê : L2.St → XK} (o : Ok X C Ê c fr fl) {g : Str} {b : Bi} {was : WA} {pa : Expr} {ps : List Expr} {p pos : Pos} (hn : b.name = g) (hgl : Gl X g) (hfr : X.mg g = none)
    (hst : starEach (pa :: ps) X.env = (false, eval pa X.env) :: starEach ps X.env) (hpl : (backTo pos (starEach ps X.env)).any (·.1) = false) (ha : PA X (pa :: ps) (LA X.K Ê was)) :
    PE X (.Call (.Name g p) (pa :: ps) [] pos) (LE X.K Ê fun σ S Q Y => was σ S (fun ws S1 => biW b ws S1 Q) Y) := by
  subst hn
  cases b with
  | len => exact we_bi bi_len hgl hfr boot_len (by decide) (by decide) hst hpl ha
  | abs => exact we_bi bi_abs hgl hfr boot_abs (by decide) (by decide) hst hpl ha
  | tuple => exact we_biT bi_tuple hgl hfr PyProof.Rows.boot_tuple (by decide) (by decide) hst hpl ha
  | list => exact we_biT (bi_list o.calm) hgl hfr PyProof.Rows.boot_list (by decide) (by decide) hst hpl ha
  | sum => exact we_bi (bi_sum o.calm) hgl hfr boot_sum (by decide) (by decide) hst hpl ha
  | any => exact we_bi (bi_any o.calm) hgl hfr boot_any (by decide) (by decide) hst hpl ha
  | all => exact we_bi (bi_all o.calm) hgl hfr boot_all (by decide) (by decide) hst hpl ha
  | repr =>
    obtain ⟨k, room, p⟩ := o.pr
    exact we_bi (bi_repr (by have := room.un; omega) o.guards p.sysm) hgl hfr boot_repr (by decide) (by decide) hst hpl ha
  | int => exact we_biT bi_int hgl hfr (by decide +kernel) (by decide) (by decide) hst hpl ha
  | max => exact we_bi (bi_max o.calm) hgl hfr (by decide +kernel) (by decide) (by decide) hst hpl ha
  | sorted => exact we_bi (bi_sorted o.calm) hgl hfr (by decide +kernel) (by decide) (by decide) hst hpl ha
  | reprd =>
    obtain ⟨k, room, p⟩ := o.pr
    exact we_bi (bi_reprd (by have := room.un; omega) o.guards p.sysm) hgl hfr boot_repr (by decide) (by decide) hst hpl ha
  | dict => exact we_biT (bi_dict o.calm) hgl hfr (by decide +kernel) (by decide) (by decide) hst hpl ha
theorem methB {X : Cx} {c : Sc} {Ê : L2.St → XK} (o : Ok X C Ê c fr fl) {n : Str} {m : Mt} {wa : PD.WE} {was : WA} {po pb : Expr} {ps : List Expr} {ap cp : Pos} (hn : m.name = n) (hok : m.okB = true)
    (ha : PE X po (LE X.K Ê wa)) (has : PA X (pb :: ps) (LA X.K Ê was)) (hbase : ∀ n, attributeBase po n X.env (eval po X.env) = eval po X.env)
    (hfew : ((backTo cp (starEach (pb :: ps) X.env)).all (fun x => !x.1) && (backToKw cp (keywordEach [] X.env)).all (fun x => x.1.isSome)
      && decide ((pb :: ps).length + ([] : List Keyword).length + (if ([] : List Keyword).isEmpty then 0 else 1) < 30)) = true)
    (hline : (ap.endLine == cp.line) = true) (hs : starEach (pb :: ps) X.env = (false, eval pb X.env) :: starEach ps X.env) (hplain : (backTo cp (starEach ps X.env)).any (·.1) = false) :
    PE X (.Call (.Attribute po n ap) (pb :: ps) [] cp) (LE X.K Ê fun σ S Q Y => wa σ S (fun w S1 => tyM m (rd S1 w) = true ∧ was σ S1 (fun ws S2 => mtW m w ws S2 Q) Y) Y) := by
  subst hn
  cases m with
  | get =>
    refine we_meth (T := "dict") PySem.F.plainAttrs_dict PySem.F.slot_dict_get PySem.F.type_dict_get (mt_get o.hu) (fun H S w v l r e => ?_) ha has (hbase _) hfew hline hs hplain
    cases q : rd S w <;> rw [q] at e <;> first | (cases e; done) | exact tyIs_D l r q
  | append =>
    refine we_meth (T := "list") PySem.F.plainAttrs_list PySem.F.slot_list_append PySem.F.type_list_append mt_app (fun H S w v l r e => ?_) ha has (hbase _) hfew hline hs hplain
    cases q : rd S w <;> rw [q] at e <;> first | (cases e; done) | exact tyIs_L l r q
  | remove =>
    refine we_meth (T := "list") PySem.F.plainAttrs_list PySem.F.slot_list_remove PySem.F.type_list_remove mt_rem (fun H S w v l r e => ?_) ha has (hbase _) hfew hline hs hplain
    cases q : rd S w <;> rw [q] at e <;> first | (cases e; done) | exact tyIs_L l r q
  | setdefault =>
    refine we_meth (T := "dict") PySem.F.plainAttrs_dict PySem.F.slot_dict_setdefault PySem.F.type_dict_setdefault mt_setd (fun H S w v l r e => ?_) ha has (hbase _) hfew hline hs hplain
    cases q : rd S w <;> rw [q] at e <;> first | (cases e; done) | exact tyIs_D l r q
  | pop =>
    refine we_meth (T := "list") PySem.F.plainAttrs_list PySem.F.slot_list_pop PySem.F.type_list_pop mt_pp (fun H S w v l r e => ?_) ha has (hbase _) hfew hline hs hplain
    cases q : rd S w <;> rw [q] at e <;> first | (cases e; done) | exact tyIs_L l r q
  | extend =>
    refine we_meth (T := "list") PySem.F.plainAttrs_list PySem.F.slot_list_extend PySem.F.type_list_extend mt_ext (fun H S w v l r e => ?_) ha has (hbase _) hfew hline hs hplain
    cases q : rd S w <;> rw [q] at e <;> first | (cases e; done) | exact tyIs_L l r q
  | insert =>
    refine we_meth (T := "list") PySem.F.plainAttrs_list PySem.F.slot_list_insert PySem.F.type_list_insert mt_ins (fun H S w v l r e => ?_) ha has (hbase _) hfew hline hs hplain
    cases q : rd S w <;> rw [q] at e <;> first | (cases e; done) | exact tyIs_L l r q
  | clear =>
    refine we_meth (T := "list") PySem.F.plainAttrs_list PySem.F.slot_list_clear PySem.F.type_list_clear mt_clr (fun H S w v l r e => ?_) ha has (hbase _) hfew hline hs hplain
    cases q : rd S w <;> rw [q] at e <;> first | (cases e; done) | exact tyIs_L l r q
  | count =>
    refine we_meth (T := "list") PySem.F.plainAttrs_list PySem.F.slot_list_count PySem.F.type_list_count (mt_cnt o.hu) (fun H S w v l r e => ?_) ha has (hbase _) hfew hline hs hplain
    cases q : rd S w <;> rw [q] at e <;> first | (cases e; done) | exact tyIs_L l r q
  | index =>
    refine we_meth (T := "list") PySem.F.plainAttrs_list PySem.F.slot_list_index PySem.F.type_list_index (mt_idx o.hu) (fun H S w v l r e => ?_) ha has (hbase _) hfew hline hs hplain
    cases q : rd S w <;> rw [q] at e <;> first | (cases e; done) | exact tyIs_L l r q
theorem methB0 {X : Cx} {c : Sc} {Ê : L2.St → XK} (o : Ok X C Ê c fr fl) {n : Str} {m : Mt} {wa : PD.WE} {po : Expr} {ap cp : Pos} (hn : m.name = n) (ha : PE X po (LE X.K Ê wa)) (hbase : ∀ n, attributeBase po n X.env (eval po X.env) = eval po X.env)
    (hline : (ap.endLine == cp.line) = true) : PE X (.Call (.Attribute po n ap) [] [] cp) (LE X.K Ê fun σ S Q Y => wa σ S (fun w S1 => tyM m (rd S1 w) = true ∧ mtW m w [] S1 Q) Y) := by
  subst hn
  cases m with
  | clear =>
    refine we_meth0 (T := "list") PySem.F.plainAttrs_list PySem.F.slot_list_clear PySem.F.type_list_clear mt_clr (fun H S w v l r e => ?_) ha (hbase _) hline
    cases q : rd S w <;> rw [q] at e <;> first | (cases e; done) | exact tyIs_L l r q
  | pop =>
    refine we_meth0 (T := "list") PySem.F.plainAttrs_list PySem.F.slot_list_pop PySem.F.type_list_pop mt_pp (fun H S w v l r e => ?_) ha (hbase _) hline
    cases q : rd S w <;> rw [q] at e <;> first | (cases e; done) | exact tyIs_L l r q
  | _ =>
    refine ⟨fun pins s τ H Qh I ⟨σ, S, Q, Y, hs', hl, hw, k, hx⟩ => ?_⟩
    refine wpAny_Call_method_late (args := []) (hbase _) rfl hline rfl (thn (ha.run pins s τ H (fun _ _ => False) I (LE.mk hs' hl hx hw fun x S1 v H1 e1 l1 s1 x1 r1 ⟨_, q1⟩ => ?_)) fun u s1 ⟨v, H1, I1, r1, q⟩ => q.elim)
    cases x <;> exact q1
theorem kw_nil {cp : Pos} {env : Env} : (backToKw cp (keywordEach [] env)).all (fun x => x.1.isSome) = true := rfl
theorem plain_I {it : It} {c : Sc} {N : List Str} {p tg : Expr} (h : chkI fr fl N it c p tg = true) : plainP p = true := by
  cases it with
  | ex e => unfold chkI at h; exact chk_plain h
  | rng1 a =>
    cases p <;> first | (unfold chkI at h; cases h; done) | skip
    rename_i g as ks pos
    match g, as, ks, h with
    | .Name g p, [pa], [], h => rfl
  | rng2 a b =>
    cases p <;> first | (unfold chkI at h; cases h; done) | skip
    rename_i g as ks pos
    match g, as, ks, h with
    | .Name g p, [pa, pb], [], h => rfl
  | enum a =>
    cases p <;> first | (unfold chkI at h; cases h; done) | skip
    rename_i g as ks pos
    cases tg <;> first | (unfold chkI at h; simp at h; done) | skip
    all_goals
      match g, as, ks, h with
      | .Name g p, [pa], [], h => rfl
  | zip a b =>
    cases p <;> first | (unfold chkI at h; cases h; done) | skip
    rename_i g as ks pos
    cases tg <;> first | (unfold chkI at h; simp at h; done) | skip
    all_goals
      match g, as, ks, h with
      | .Name g p, [pa, pb], [], h => rfl
theorem sF0 {X : Cx} {Ê : L2.St → XK} : PTs X [] (LT X.K Ê (wOT C .none)) := ⟨fun pins s τ H Q I ⟨σ, S, Q', Y, hs, hl, hw, k, hx⟩ => pts_nil.run pins s τ H Q I (k _ _ _ .refl hl hw)⟩
theorem plain_allL {c : Sc} {N : List Str} {env : Env} {pos : Pos} {f : Str} {js : List Nat} : ∀ {es : Es} {ps : List Expr}, chkL fr fl N es f js c ps = true → (backTo pos (starEach ps env)).any (·.1) = false ∧ ∃ qs lam, ps = qs ++ [lam] ∧ lamB N c f js lam = true
  | .nil, [], h => by unfold chkL at h; cases h
  | .nil, [p], h => by
    unfold chkL at h
    obtain ⟨d, b, lpos, m, nm, l⟩ := lam_at h
    have e := l.form
    exact ⟨by subst e; rfl, [], p, rfl, h⟩
  | .nil, p :: q :: ps, h => by unfold chkL at h; cases h
  | .cons e es, [], h => by unfold chkL at h; cases h
  | .cons e es, p :: ps, h => by
    unfold chkL at h
    obtain ⟨h1, h2⟩ := ba2 h
    obtain ⟨k1, qs, lam, k2, k3⟩ := plain_allL h2
    refine ⟨?_, p :: qs, lam, by rw [k2]; rfl, k3⟩
    rw [star_of (chk_plain h1)]
    show (false || (backTo pos (starEach ps env)).any (·.1)) = false
    rw [k1]; rfl
mutual
theorem sE : ∀ (e : E) {X : Cx} {c : Sc} {Ê : L2.St → XK} {p : Expr}, Ok X C Ê c fr fl → chkE fr fl X.N e c p = true → PE X p (LE X.K Ê (wE C e)) ∧ (tvB e = true → PT X p (LT X.K Ê (wT C (.val e))))
  | .loc i, X, c, Ê, p, o, h => by
    have hp := chk_plain h
    cases p <;> first | (unfold chkE at h; cases h; done) | skip
    unfold chkE at h
    obtain ⟨h1, h2, h3, h4⟩ := ba4 h
    exact both hp rfl (we_loc (by simpa using h1) (o.vis h2) (nb h3) (nb h4))
  | .xfl i f, X, c, Ê, p, o, h => by
    have hp := chk_plain h
    cases p <;> first | (unfold chkE at h; cases h; done) | skip
    rename_i po g pos
    cases po <;> first | (unfold chkE at h; cases h; done) | skip
    unfold chkE at h
    obtain ⟨h1, h2, h3, h4, h5⟩ := ba5 h
    obtain rfl : f = g := by simpa using h5
    refine both hp rfl ((pe_xk (pe_var (by simpa using h1) (o.vis h2) (nb h3) (nb h4)) (base_of rfl)).imp fun τ H Qh ⟨σ, S, Q, Y, hs, hl, ⟨k, w, e, q⟩, kk, hx⟩ => ?_)
    obtain ⟨v, z1, z2⟩ := hs.2 i _ e
    unfold RW at z2
    obtain ⟨T, a, d, y, rfl, n1, n2, ea, ed, r⟩ := z2
    exact ⟨_, z1, a, d, k, y, rfl, T, ea, ed, kk _ _ _ _ .refl hl r q⟩
  | .isx i y, X, c, Ê, p, o, h => by
    have hp := chk_plain h
    cases p <;> first | (unfold chkE at h; cases h; done) | skip
    rename_i pf as ks pos
    match pf, as, ks, h with
    | .Name g gp, [.Name x px, .Name z pz], [], h =>
      unfold chkE at h
      obtain ⟨h1, h2, h3, h4, h5⟩ := ba5 h
      obtain ⟨k1, k2, k3, k4, k5⟩ := ba5 h5
      obtain ⟨k5, k6, k7⟩ := ba3 k5
      obtain rfl : g = "isinstance" := by simpa using k1
      obtain rfl : y = z := by simpa using k4
      obtain ⟨j, room, pr⟩ := o.pr
      obtain ⟨at_, no⟩ := pr.exn y (by simpa using k7)
      have hb : PE X (.Name y pz) (tC (.ref (He.ga X.K y))) := pe_glob (o.gl k5) at_ rfl (nb k6)
      have pv := pe_var (X := X) (i := i) (pos := px) (by simpa using h1) (o.vis h2) (nb h3) (nb h4)
      have hst : starEach [.Name x px, .Name y pz] X.env = (false, eval (.Name x px) X.env) :: starEach [.Name y pz] X.env := rfl
      have cr : CallR X (.builtin "isinstance") (fun xs H Q => (∃ a d c f v D b, xs = [.ref a, .ref D] ∧ ExcX X.K c f ∧ Rd H a (exk a (He.ga X.K c) d) ∧ H d = some (.xd [(f, v)]) ∧ PySem.W.kitOne X.K (.ref (He.ga X.K c)) (.ref D) = some b ∧ Q (.bl b) H) ∨ rIsi X.K xs H Q) := by
        intro pins s σ H xs us Q I r q
        rcases q with q | q
        · exact call_isk pins s σ H xs us Q I r q
        · exact call_isi pins s σ H xs us Q I r q
      refine both hp rfl ((pe_callB cr (o.gl k2) (o.free k3) PyProof.Rows.boot_isinstance (pa_cons pv (pa_cons hb pa_nil rfl) hst) (by decide) (by decide) hst rfl).imp fun τ H Qh ⟨σ, S, Q, Y, hs, hl, q, kk, hx⟩ => ?_)
      rcases q with ⟨e, ey, q⟩ | ⟨k, f, w, e, ey, q⟩
      · obtain ⟨v, z1, z2⟩ := hs.2 i _ e
        unfold RW at z2
        subst z2
        exact ⟨_, z1, .inr ⟨_, _, .type "NoneType", _, false, rfl, .own _, .base .non, no ey, kk _ _ _ _ .refl hl .b q⟩⟩
      · obtain ⟨v, z1, z2⟩ := hs.2 i _ e
        unfold RW at z2
        obtain ⟨T, a, d, y', rfl, n1, n2, ea, ed, r⟩ := z2
        refine ⟨_, z1, .inl ⟨a, d, k, f, y', _, true, rfl, T, ea, ed, ?_, kk _ _ _ _ .refl hl .b q⟩⟩
        rcases ey with rfl | rfl
        · exact T.k2
        · exact T.k1
  | .lzip a b, X, c, Ê, p, o, h => by
    have hp := chk_plain h
    cases p <;> first | (unfold chkE at h; cases h; done) | skip
    rename_i pf as ks pos
    match pf, as, ks, h with
    | .Name g gp, [.Call (.Name g2 gp2) [pa, pb] [] p2], [], h =>
      unfold chkE at h
      obtain ⟨h1, h2, h3, h4, h5⟩ := ba5 h
      obtain ⟨k1, k2, k3, k4⟩ := ba4 h5
      obtain rfl : g = "list" := by simpa using h1
      obtain rfl : g2 = "zip" := by simpa using h4
      exact both hp rfl (we_lzip o.calm (o.gl h2) (o.free h3) (o.gl k1) (o.free k2) (star_of (chk_plain k3)) (star1 k4) (sE a o k3).1 (sE b o k4).1)
  | .sos a, X, c, Ê, p, o, h => by
    have hp := chk_plain h
    cases p <;> first | (unfold chkE at h; cases h; done) | skip
    rename_i pf as ks pos
    match pf, as, ks, h with
    | .Name g gp, [.Call (.Name g2 gp2) [pa] [] p2], [], h =>
      unfold chkE at h
      obtain ⟨h1, h2, h3, h4, h5⟩ := ba5 h
      obtain ⟨k1, k2, k3⟩ := ba3 h5
      obtain rfl : g = "sorted" := by simpa using h1
      obtain rfl : g2 = "set" := by simpa using h4
      exact both hp rfl (we_sos o.calm (o.gl h2) (o.free h3) (o.gl k1) (o.free k2) (star_of (chk_plain k3)) (sE a o k3).1)
  | .maxd a d, X, c, Ê, p, o, h => by
    have hp := chk_plain h
    cases p <;> first | (unfold chkE at h; cases h; done) | skip
    rename_i pf as ks pos
    match pf, as, ks, h with
    | .Name g gp, [pa], [⟨some kn, .Constant (.int j) n p3, p4⟩], h =>
      unfold chkE at h
      obtain ⟨h1, h2, h3, h4, h5⟩ := ba5 h
      obtain ⟨k1, k2⟩ := ba2 h5
      obtain rfl : g = "max" := by simpa using h1
      obtain rfl : kn = "default" := by simpa using h4
      obtain rfl : j = d := by simpa using k1
      exact both hp rfl (we_maxd o.calm (o.gl h2) (o.free h3) (star_of (chk_plain k2)) (sE a o k2).1)
  | .isi i y, X, c, Ê, p, o, h => by
    have hp := chk_plain h
    cases p <;> first | (unfold chkE at h; cases h; done) | skip
    rename_i pf as ks pos
    match pf, as, ks, h with
    | .Name g gp, [.Name x px, .Name z pz], [], h =>
      unfold chkE at h
      obtain ⟨h1, h2, h3, h4, h5⟩ := ba5 h
      obtain ⟨k1, k2, k3, k4, k5⟩ := ba5 h5
      obtain ⟨k5, k6, k7⟩ := ba3 k5
      obtain rfl : g = "isinstance" := by simpa using k1
      obtain rfl : y = z := by simpa using k4
      exact both hp rfl (we_isi o (by simpa using h1) (o.vis h2) (nb h3) (nb h4) (o.gl k2) (o.free k3) (o.gl k5) (nb k6) k7)
  | .inp neg a b, X, c, Ê, p, o, h => by
    cases p <;> first | (unfold chkE at h; cases h; done) | skip
    rename_i pa ops cs pos
    match ops, cs, h with
    | [q], [pb], h =>
      unfold chkE at h
      obtain ⟨h1, h2, h3⟩ := ba3 h
      obtain rfl : q = (if neg then CmpOp.NotIn else CmpOp.In) := cob h1
      have hu : X.A.units + 66 < cLine := by
        obtain ⟨k, room, p⟩ := o.pr
        have := room.un
        omega
      exact ⟨we_inp hu (marksC h3) (sE a o h2).1 (sE b o h3).1, fun _ => wt_inp hu (marksC h3) (sE a o h2).1 (sE b o h3).1⟩
  | .cmpo neg k n a b, X, c, Ê, p, o, h => by
    cases p <;> first | (unfold chkE at h; cases h; done) | skip
    rename_i pa ops cs pos
    match ops, cs, h with
    | [q], [pb], h =>
      unfold chkE at h
      obtain ⟨h1, h2, h3, h4, h5⟩ := ba5 h
      obtain rfl : q = (if neg then CmpOp.NotEq else CmpOp.Eq) := cob h1
      exact ⟨we_cmpo o h2 h3 (marksC h5) (sE a o h4).1 (sE b o h5).1, fun _ => wt_cmpo o h2 h3 (marksC h5) (sE a o h4).1 (sE b o h5).1⟩
  | .lit l, X, c, Ê, p, o, h => by
    have hp := chk_plain h
    cases p <;> first | (unfold chkE at h; cases h; done) | skip
    unfold chkE at h
    exact both hp rfl (we_lit l _ h)
  | .glob x, X, c, Ê, p, o, h => by
    have hp := chk_plain h
    cases p <;> first | (unfold chkE at h; cases h; done) | skip
    unfold chkE at h
    obtain ⟨h1, h2, h3⟩ := ba3 h
    obtain rfl : x = _ := by simpa using h1
    exact both hp rfl (we_glob o (o.gl h2) (nb h3))
  | .tup es, X, c, Ê, p, o, h => by
    have hp := chk_plain h
    cases p <;> first | (unfold chkE at h; cases h; done) | skip
    unfold chkE at h
    exact both hp rfl (we_tup (sEs es o h))
  | .lst m es, X, c, Ê, p, o, h => by
    have hp := chk_plain h
    cases p <;> first | (unfold chkE at h; cases h; done) | skip
    unfold chkE at h
    exact both hp rfl (we_lst (sEs es o h))
  | .dct m es, X, c, Ê, p, o, h => by
    have hp := chk_plain h
    cases p <;> first | (unfold chkE at h; cases h; done) | skip
    unfold chkE at h
    rename_i ks vs pos
    obtain ⟨h1, h2⟩ := ba2 h
    refine both hp rfl ?_
    cases ks with
    | nil =>
      cases es with
      | nil =>
        cases vs with
        | nil => exact we_disp0 (fun σ S Q Y q => q) rfl
        | cons v vs => unfold chkP at h1; cases h1
      | cons e es => unfold chkP at h1; cases es <;> cases h1
    | cons k ks =>
      obtain ⟨trs, t1, t2, t3, t4⟩ := sP es pos o h1
      exact we_disp t1 t2 t3 t4 (by simpa using h2) (fun z => nomatch z)
  | .bin op a b, X, c, Ê, p, o, h => by
    have hp := chk_plain h
    cases p <;> first | (unfold chkE at h; cases h; done) | skip
    unfold chkE at h
    obtain ⟨h1, h2, h3⟩ := ba3 h
    obtain rfl := opb h1
    exact both hp rfl (we_bin (sE a o h2).1 (sE b o h3).1)
  | .cat a b, X, c, Ê, p, o, h => by
    have hp := chk_plain h
    cases p <;> first | (unfold chkE at h; cases h; done) | skip
    rename_i pa op pb pos
    cases op <;> first | (unfold chkE at h; cases h; done) | skip
    unfold chkE at h
    obtain ⟨h1, h2⟩ := ba2 h
    exact both hp rfl (we_cat (sE a o h1).1 (sE b o h2).1)
  | .un op a, X, c, Ê, p, o, h => by
    have hp := chk_plain h
    cases p <;> first | (unfold chkE at h; cases h; done) | skip
    unfold chkE at h
    obtain ⟨h1, h2, h3⟩ := ba3 h
    obtain rfl : op = _ := by simpa using h1
    cases op with
    | USub => exact both hp rfl (we_neg (sE a o h3).1)
    | Not => exact ⟨we_not (sE a o h3).1, fun z => nomatch z⟩
    | Invert => cases h2
    | UAdd => cases h2
  | .and2 a b, X, c, Ê, p, o, h => by
    cases p <;> first | (unfold chkE at h; cases h; done) | skip
    rename_i op vs pos
    match op, vs, h with
    | .And, [pa, pb], h =>
      unfold chkE at h
      obtain ⟨h1, h2⟩ := ba2 h
      exact ⟨we_and (sE a o h1).1 (pe_one (sE b o h2).1), fun z => nomatch z⟩
    | .And, pa :: pb :: pc :: rest, h =>
      unfold chkE at h
      obtain ⟨h1, h2⟩ := ba2 h
      exact ⟨we_and (sE a o h1).1 (sE b o h2).1, fun z => nomatch z⟩
  | .or2 a b, X, c, Ê, p, o, h => by
    cases p <;> first | (unfold chkE at h; cases h; done) | skip
    rename_i op vs pos
    match op, vs, h with
    | .Or, [pa, pb], h =>
      unfold chkE at h
      obtain ⟨h1, h2⟩ := ba2 h
      exact ⟨we_or (sE a o h1).1 (pe_one (sE b o h2).1), fun z => nomatch z⟩
    | .Or, pa :: pb :: pc :: rest, h =>
      unfold chkE at h
      obtain ⟨h1, h2⟩ := ba2 h
      exact ⟨we_or (sE a o h1).1 (sE b o h2).1, fun z => nomatch z⟩
  | .cmp op a b, X, c, Ê, p, o, h => by
    cases p <;> first | (unfold chkE at h; cases h; done) | skip
    rename_i pa ops cs pos
    match ops, cs, h with
    | [q], [pb], h =>
      unfold chkE at h
      obtain ⟨h1, h2, h3, h4⟩ := ba4 h
      obtain rfl := cob h1
      exact ⟨we_cmp o.hu (marksC h4) (sE a o h3).1 (sE b o h4).1, fun _ => wt_cmp o.hu (marksC h4) (sE a o h3).1 (sE b o h4).1⟩
  | .cmp3 o1 o2 a b d, X, c, Ê, p, o, h => by
    cases p <;> first | (unfold chkE at h; cases h; done) | skip
    rename_i pa ops cs pos
    match ops, cs, h with
    | [q1, q2], [pb, pd], h =>
      unfold chkE at h
      obtain ⟨h, g1, g2, g3⟩ : ((o1 == q1) && (o2 == q2) && cmpB o1 pb && cmpB o2 pd && (o2 != .In) && (o2 != .NotIn)) = true ∧ chkE fr fl X.N a c pa = true ∧ chkE fr fl X.N b c pb = true ∧ chkE fr fl X.N d c pd = true := by
        obtain ⟨z, g3⟩ := ba2 h
        obtain ⟨z, g2⟩ := ba2 z
        obtain ⟨z, g1⟩ := ba2 z
        exact ⟨z, g1, g2, g3⟩
      obtain ⟨h, k2⟩ := ba2 h
      obtain ⟨h, k1⟩ := ba2 h
      obtain ⟨e1, e2, _⟩ := ba4 h
      obtain rfl := cob e1
      obtain rfl := cob e2
      have hm : lastMarks [o1, o2] [pb, pd] = false := by
        have : behindInMarks o2 pd = false := marksC g3
        exact this
      exact ⟨we_cmp3 o.hu hm (sE a o g1).1 (sE b o g2).1 (sE d o g3).1, fun _ => wt_cmp3 o.hu hm (sE a o g1).1 (sE b o g2).1 (sE d o g3).1⟩
  | .ifx d a b, X, c, Ê, p, o, h => by
    cases p <;> first | (unfold chkE at h; cases h; done) | skip
    unfold chkE at h
    obtain ⟨h1, h2, h3⟩ := ba3 h
    exact ⟨we_if (sV d o h1).1 (sE a o h2).1 (sE b o h3).1, fun z => nomatch z⟩
  | .ix a b, X, c, Ê, p, o, h => by
    have hp := chk_plain h
    cases p <;> first | (unfold chkE at h; cases h; done) | skip
    unfold chkE at h
    obtain ⟨h1, h2⟩ := ba2 h
    exact both hp rfl (we_ix o.hu (ix_of (chk_plain h2)) (sE a o h1).1 (sE b o h2).1)
  | .slc a lo hi, X, c, Ê, p, o, h => by
    have hp := chk_plain h
    cases p <;> first | (unfold chkE at h; cases h; done) | skip
    rename_i pa pi pos
    cases pi <;> first | (unfold chkE at h; cases h; done) | skip
    rename_i pl ph st p2
    cases st with
    | some z => unfold chkE at h; cases h
    | none =>
      unfold chkE at h
      obtain ⟨h1, h2, h3⟩ := ba3 h
      exact both hp rfl (we_slc (sE a o h1).1 (sO lo o h2) (sO hi o h3))
  | .callv i es, X, c, Ê, p, o, h => by
    have hp := chk_plain h
    cases p <;> first | (unfold chkE at h; cases h; done) | skip
    rename_i g as ks pos
    match g, as, ks, h with
    | .Name x p, pa :: ps, [], h =>
      unfold chkE at h
      obtain ⟨h1, h2, h3, h4, h5⟩ := ba5 h
      cases es with
      | nil => unfold chkEs at h5; cases h5
      | cons e es =>
        have h5' := h5
        unfold chkEs at h5'
        obtain ⟨k1, k2⟩ := ba2 h5'
        exact both hp rfl (pe_or (we_callv o (by simpa using h1) (o.vis h2) (nb h3) (nb h4) (sEs (.cons e es) o h5) (star_of (chk_plain k1)) (plain_all k2)) (we_callc o (by simpa using h1) (o.vis h2) (nb h3) (nb h4) (sEs (.cons e es) o h5) (star_of (chk_plain k1)) (plain_all k2)))
  | .callL g es f js, X, c, Ê, p, o, h => by
    have hp := chk_plain h
    cases p <;> first | (unfold chkE at h; cases h; done) | skip
    rename_i gx as ks pos
    match gx, as, ks, h with
    | .Name x p, pa :: ps, [], h =>
      unfold chkE at h
      obtain ⟨h', h6⟩ := ba2 h
      obtain ⟨h1, h2, h3, h4, h5⟩ := ba5 h'
      obtain rfl : g = x := by simpa using h1
      obtain ⟨_, qs, lam, _, hlam⟩ := plain_allL (env := X.env) (pos := pos) h5
      cases es with
      | nil =>
        cases ps with
        | nil => simp at h6
        | cons q ps => unfold chkL at h5; cases h5
      | cons e es =>
        have h5' := h5
        unfold chkL at h5'
        obtain ⟨k1, k2⟩ := ba2 h5'
        exact both hp rfl (we_callL o h2 (o.gl h3) (nb h4) hlam (sL (.cons e es) o h5) (star_of (chk_plain k1)) (plain_allL k2).1)
  | .call f es, X, c, Ê, p, o, h => by
    have hp := chk_plain h
    cases p <;> first | (unfold chkE at h; cases h; done) | skip
    rename_i g as ks pos
    match g, as, ks, h with
    | .Name g p, [], [], h =>
      cases es with
      | cons e es => unfold chkE at h; cases h
      | nil =>
        unfold chkE at h
        obtain ⟨h1, h2, h3, h4, h5⟩ := ba5 h
        obtain rfl : f = g := by simpa using h1
        exact both hp rfl (we_call0 o h3 (o.gl h4) (nb h5))
    | .Name g p, pa :: ps, [], h =>
      unfold chkE at h
      obtain ⟨h1, h2, h3, h4, h5⟩ := ba5 h
      obtain rfl : f = g := by simpa using h1
      cases es with
      | nil => unfold chkEs at h5; cases h5
      | cons e es =>
        have h5' := h5
        unfold chkEs at h5'
        obtain ⟨k1, k2⟩ := ba2 h5'
        exact both hp rfl (we_call o h2 (o.gl h3) (sEs (.cons e es) o h5) (nb h4) (star_of (chk_plain k1)) (plain_all k2))
  | .bi b es, X, c, Ê, p, o, h => by
    have hp := chk_plain h
    cases p <;> first | (unfold chkE at h; cases h; done) | skip
    rename_i g as ks pos
    match g, as, ks, h with
    | .Name g p, pa :: ps, [], h =>
      unfold chkE at h
      obtain ⟨h1, h2, h3, h4⟩ := ba4 h
      cases es with
      | nil => unfold chkEs at h4; cases h4
      | cons e es =>
        have h5' := h4
        unfold chkEs at h5'
        obtain ⟨k1, k2⟩ := ba2 h5'
        exact both hp rfl (callB o (by simpa using h1) (o.gl h2) (o.free h3) (star_of (chk_plain k1)) (plain_all k2) (sEs (.cons e es) o h4))
  | .meth m oe es, X, c, Ê, p, o, h => by
    have hp := chk_plain h
    cases p <;> first | (unfold chkE at h; cases h; done) | skip
    rename_i g as ks pos
    match g, as, ks, h with
    | .Attribute po n ap, [], [], h =>
      unfold chkE at h
      obtain ⟨h, h6⟩ := ba2 h
      obtain ⟨h1, h2, h3, h4, h5⟩ := ba5 h
      cases es with
      | cons e es => unfold chkEs at h5; cases h5
      | nil =>
        refine both hp rfl ((methB0 o (by simpa using h1) (sE oe o h4).1 (fun n => base_of (chk_plain h4)) h3).imp fun τ H Q ⟨σ, S, Q', Y, hs, hl, hw, kk, hx⟩ => ⟨σ, S, Q', Y, hs, hl, ?_, kk, hx⟩)
        simp only [wE, wEs] at hw
        exact hw
    | .Attribute po n ap, pa :: ps, [], h =>
      unfold chkE at h
      obtain ⟨h, h6⟩ := ba2 h
      obtain ⟨h1, h2, h3, h4, h5⟩ := ba5 h
      cases es with
      | nil => unfold chkEs at h5; cases h5
      | cons e es =>
        have h5' := h5
        unfold chkEs at h5'
        obtain ⟨k1, k2⟩ := ba2 h5'
        have hlen : ps.length + 1 < 20 := by simpa using h6
        exact both hp rfl (methB o (by simpa using h1) h2 (sE oe o h4).1 (sEs (.cons e es) o h5) (fun n => base_of (chk_plain h4))
          (by rw [plain_each h5, kw_nil]; simp; omega) h3 (star_of (chk_plain k1)) (plain_all k2))
  | .comp m own t it cnd elt, X, c, Ê, p, o, h => by
    have hp := chk_plain h
    cases p <;> first | (unfold chkE at h; cases h; done) | skip
    rename_i pe gs scope pos
    match gs, h with
    | [⟨tg, iter, pf, 0⟩], h =>
      unfold chkE at h
      obtain ⟨h, h7⟩ := ba2 h
      obtain ⟨h, h6⟩ := ba2 h
      obtain ⟨h1, h2, h3, h4, h5⟩ := ba5 h
      have hown : (ownP X.N own).map (·.2) = own := by simpa using h2
      have ok : BlkOk X.N X.env.scope scope (ownP X.N own) := blkOk_by (by rw [o.sc]; exact h1)
      have z := pe_lc (pos := pos) (te := LE X.K E00 (wE C elt)) (tt := LT X.K E00 (wOT C cnd)) (g := LG X.K t) o.calm o.nd (sI it (Ê := Ê) o h4) ok (fun s H Ca cl fp => sT (o.blk s H scope Ca cl fp) t tg h5) (fun s H Ca cl fp => sF cnd (o.blk s H scope Ca cl fp) h6)
        (fun s H Ca cl fp => (sE elt (o.blk s H scope Ca cl fp) h7).1) (fold_of (plain_I h4))
      rw [hown] at z
      exact both hp rfl (z.imp fun τ H Qh q => lc_red h3 q)
  | .isa ty a, X, c, Ê, p, o, h => by
    have hp := chk_plain h
    cases p <;> first | (unfold chkE at h; cases h; done) | skip
    rename_i g as ks pos
    match g, as, ks, h with
    | .Name g p, [pa, .Name tn p2], [], h =>
      unfold chkE at h
      obtain ⟨h, h7⟩ := ba2 h
      obtain ⟨h, h6⟩ := ba2 h
      obtain ⟨h1, h2, h3, h4, h5⟩ := ba5 h
      obtain rfl : g = "isinstance" := by simpa using h1
      obtain rfl : ty.name = tn := by simpa using h4
      exact both hp rfl (we_isa o (o.gl h2) (o.free h3) (o.gl h5) (o.free h6) (star_of (chk_plain h7)) (sE a o h7).1)
  | .fld i k f, X, c, Ê, p, o, h => by
    have hp := chk_plain h
    cases p <;> first | (unfold chkE at h; cases h; done) | skip
    rename_i po g pos
    cases po <;> first | (unfold chkE at h; cases h; done) | skip
    unfold chkE at h
    obtain ⟨h1, h2, h3, h4, h5⟩ := ba5 h
    obtain ⟨h5, h6⟩ := ba2 h5
    obtain rfl : f = g := by simpa using h5
    exact both hp rfl (we_fld o (by simpa using h1) (o.vis h2) (nb h3) (nb h4) h6)
  | .own k m n i es, X, c, Ê, p, o, h => by
    have hp := chk_plain h
    cases p <;> first | (unfold chkE at h; cases h; done) | skip
    rename_i g as ks pos
    match g, as, ks, h with
    | .Attribute (.Name x p) g ap, [], [], h =>
      unfold chkE at h
      obtain ⟨h1, h2, h3, h4, h5⟩ := ba5 h
      obtain ⟨h5, h6, h7, h8, h9⟩ := ba5 h5
      obtain rfl : m = g := by simpa using h5
      cases es with
      | cons e es => unfold chkEs at h9; cases h9
      | nil =>
        refine both hp rfl ((we_own0 o (by simpa using h1) (o.vis h2) (nb h3) (nb h4) h6 h7).imp fun τ H Q ⟨σ, S, Q', Y, hs, hl, ⟨w, e, fs, ws, er, nm, q⟩, kk, hx⟩ => ⟨σ, S, Q', Y, hs, hl, ⟨w, e, fs, ws, er, nm, ?_⟩, kk, hx⟩)
        unfold wEs at q
        exact q
    | .Attribute (.Name x p) g ap, pa :: ps, [], h =>
      unfold chkE at h
      obtain ⟨h1, h2, h3, h4, h5⟩ := ba5 h
      obtain ⟨h5, h6, h7, h8, h9⟩ := ba5 h5
      obtain rfl : m = g := by simpa using h5
      cases es with
      | nil => unfold chkEs at h9; cases h9
      | cons e es =>
        have h9' := h9
        unfold chkEs at h9'
        obtain ⟨k1, k2⟩ := ba2 h9'
        have hlen : ps.length + 1 < 20 := by simpa using h8
        exact both hp rfl (we_own o (by simpa using h1) (o.vis h2) (nb h3) (nb h4) h6 (sEs (.cons e es) o h9) (by rw [plain_each h9, kw_nil]; simp; omega) h7 (star_of (chk_plain k1)) (plain_all k2))
  | .dcomp own t it kx vx, X, c, Ê, p, o, h => by
    have hp := chk_plain h
    cases p <;> first | (unfold chkE at h; cases h; done) | skip
    rename_i pk pv gs scope pos
    match gs, h with
    | [⟨tg, iter, [], 0⟩], h =>
      unfold chkE at h
      obtain ⟨h1, h2, h3, h4, h5⟩ := ba5 h
      obtain ⟨h5, h6, h7⟩ := ba3 h5
      have hown : (ownP X.N own).map (·.2) = own := by simpa using h2
      have ok : BlkOk X.N X.env.scope scope (ownP X.N own) := blkOk_by (by rw [o.sc]; exact h1)
      have z := pe_dc (pos := pos) (tk := LE X.K E00 (wE C kx)) (tv := LE X.K E00 (wE C vx)) (tt := LT X.K E00 (wOT C .none)) (g := LG X.K t) o.calm o.nd (sI it (Ê := Ê) o h4) ok (fun s H Ca cl fp => sT (o.blk s H scope Ca cl fp) t tg h5) (fun s H Ca cl fp => sF0)
        (fun s H Ca cl fp => (sE kx (o.blk s H scope Ca cl fp) h6).1) (fun s H Ca cl fp => (sE vx (o.blk s H scope Ca cl fp) h7).1) (fold_of (plain_I h4))
      rw [hown] at z
      exact both hp rfl (z.imp fun τ H Qh q => dc_red h3 q)
  | .comp2 m own t it own1 t1 it1 elt, X, c, Ê, p, o, h => by
    have hp := chk_plain h
    cases p <;> first | (unfold chkE at h; cases h; done) | skip
    rename_i pe gs scope pos
    match gs, h with
    | [⟨tg, iter, [], 0⟩, ⟨tg1, iter1, [], 0⟩], h =>
      unfold chkE at h
      obtain ⟨h1, h2, h3, h4, h5⟩ := ba5 h
      obtain ⟨h5, h6, h7⟩ := ba3 h5
      obtain ⟨h7, h8, h9, h10⟩ := ba4 h7
      have hown : (ownP X.N own).map (·.2) = own := by simpa using h2
      have ok : BlkOk X.N X.env.scope scope (ownP X.N own) := blkOk_by (by rw [o.sc]; exact h1)
      have hv : ∀ i ∈ own1, i ∈ (ownP X.N own).map (·.2) := fun i hi => by
        rw [hown]
        have := List.all_eq_true.mp h8 i hi
        simpa using this
      have z := pe_lc2 (pos := pos) (te := LE X.K E00 (wE C elt)) (tt := LT X.K E00 (wOT C .none)) (g := LG X.K t) (wi1 := LI X.K E00 (wI C it1)) (tt1 := LT X.K E00 (wOT C .none)) (g1 := LG X.K t1) o.calm o.nd (sI it (Ê := Ê) o h4) ok hv (fun s H Ca cl fp => sT (o.blk s H scope Ca cl fp) t tg h5) (fun s H Ca cl fp => sF0)
        (fun s H Ca cl fp => sI it1 (o.blk s H scope Ca cl fp) h9) (fun s H Ca cl fp => sT (o.blk s H scope Ca cl fp) t1 tg1 h10) (fun s H Ca cl fp => sF0)
        (fun s H Ca cl fp => (sE elt (o.blk s H scope Ca cl fp) h6).1) (fold_of (plain_I h4)) (fun env => fold_of (plain_I h9))
      rw [hown] at z
      exact both hp rfl (z.imp fun τ H Qh q => lc2_red h3 h7 q)
  | .frz a, X, c, Ê, p, o, h => by
    unfold chkE at h
    exact ⟨we_frz (sE a o h).1, fun z => nomatch z⟩
theorem sEs : ∀ (es : Es) {X : Cx} {c : Sc} {Ê : L2.St → XK} {ps : List Expr}, Ok X C Ê c fr fl → chkEs fr fl X.N es c ps = true → PA X ps (LA X.K Ê (wEs C es))
  | .nil, X, c, Ê, ps, o, h => by
    cases ps with
    | nil => exact wa_nil
    | cons p ps => unfold chkEs at h; cases h
  | .cons e es, X, c, Ê, ps, o, h => by
    cases ps with
    | nil => unfold chkEs at h; cases h
    | cons p ps =>
      unfold chkEs at h
      obtain ⟨h1, h2⟩ := ba2 h
      exact wa_cons (star_of (chk_plain h1)) (sE e o h1).1 (sEs es o h2)
theorem sL : ∀ (es : Es) {X : Cx} {c : Sc} {Ê : L2.St → XK} {ps : List Expr} {f : Str} {js : List Nat}, Ok X C Ê c fr fl → chkL fr fl X.N es f js c ps = true → PA X ps (LAL X Ê f (wEs C es))
  | .nil, X, c, Ê, ps, f, js, o, h => by
    match ps, h with
    | [], h => unfold chkL at h; cases h
    | [p], h => unfold chkL at h; exact lal_nil o h
    | p :: q :: ps, h => unfold chkL at h; cases h
  | .cons e es, X, c, Ê, ps, f, js, o, h => by
    cases ps with
    | nil => unfold chkL at h; cases h
    | cons p ps =>
      unfold chkL at h
      obtain ⟨h1, h2⟩ := ba2 h
      exact lal_cons (sE e o h1).1 (sL es o h2) (star_of (chk_plain h1))
theorem sP : ∀ (es : Es) (pos : Pos) {X : Cx} {c : Sc} {Ê : L2.St → XK} {ks : List (Option Expr)} {vs : List Expr}, Ok X C Ê c fr fl → chkP fr fl X.N es c ks vs = true →
    ∃ trs : List (TE × TE), PPs X pos ks vs trs ∧ (∀ τ H Qp, LA X.K Ê (wEs C es) τ H (fun vs H2 => ∀ prs, vs = flatP prs → Qp prs H2) → tPairs trs τ H Qp) ∧ ks.all (·.isSome) = true ∧ ks.length = vs.length
  | .nil, pos, X, c, Ê, ks, vs, o, h => by
    cases ks with
    | cons k ks => unfold chkP at h; cases h
    | nil =>
      cases vs with
      | cons v vs => unfold chkP at h; cases h
      | nil =>
        refine ⟨[], pps_nil, fun τ H Qp ⟨σ, S, Q, Y, hs, hl, hw, k, hx⟩ => ?_, rfl, rfl⟩
        exact k [] S [] H .refl hl .nil hw [] rfl
  | .cons e .nil, pos, X, c, Ê, ks, vs, o, h => by unfold chkP at h; cases h
  | .cons e (.cons e2 es), pos, X, c, Ê, ks, vs, o, h => by
    cases ks with
    | nil => unfold chkP at h; cases h
    | cons k ks =>
      cases vs with
      | nil => unfold chkP at h; cases k <;> cases h
      | cons v vs =>
        cases k with
        | none => unfold chkP at h; cases h
        | some pk =>
          unfold chkP at h
          obtain ⟨h1, h2, h3⟩ := ba3 h
          obtain ⟨trs, t1, t2, t3, t4⟩ := sP es pos o h3
          refine ⟨_ :: trs, pps_cons (sE e o h1).1 (sE e2 o h2).1 t1, fun τ H Qp ⟨σ, S, Q, Y, hs, hl, hw, k, hx⟩ => ?_, by simp [t3], by simp [t4]⟩
          have hw : wE C e σ S (fun w S1 => wE C e2 σ S1 (fun w2 S2 => wEs C es σ S2 (fun ws S3 => Q (w :: w2 :: ws) S3) Y) Y) Y := hw
          exact LE.mk hs hl hx hw fun x S1 v1 H1 e1 l1 s1 x1 r1 q1 => LE.mk s1 l1 x1 q1 fun y S2 v2 H2 e2 l2 s2 x2 r2 q2 =>
            t2 _ _ _ (LA.mk s2 l2 x2 q2 fun ws S3 vs H3 e3 l3 s3 x3 r3 q3 prs ep => k _ _ (v1 :: v2 :: vs) _ ((e1.trans e2).trans e3) l3 (.cons (r1.ext (e2.trans e3)) (.cons (r2.ext e3) r3)) q3 ((v1, v2) :: prs) (by rw [ep]; rfl))
theorem sO : ∀ (e : Eo) {X : Cx} {c : Sc} {Ê : L2.St → XK} {p : Option Expr}, Ok X C Ê c fr fl → chkO fr fl X.N e c p = true → PO X p (LO X.K Ê (wO C e))
  | .none, X, c, Ê, p, o, h => by
    cases p with
    | none => exact wo_none
    | some p => unfold chkO at h; cases h
  | .some e, X, c, Ê, p, o, h => by
    cases p with
    | none => unfold chkO at h; cases h
    | some p => unfold chkO at h; exact wo_some (sE e o h).1
theorem sF : ∀ (e : To) {X : Cx} {c : Sc} {Ê : L2.St → XK} {ps : List Expr}, Ok X C Ê c fr fl → chkF fr fl X.N e c ps = true → PTs X ps (LT X.K Ê (wOT C e))
  | .none, X, c, Ê, ps, o, h => by
    cases ps with
    | nil =>
      exact ⟨fun pins s τ H Q I ⟨σ, S, Q', Y, hs, hl, hw, k, hx⟩ => pts_nil.run pins s τ H Q I (k _ _ _ .refl hl hw)⟩
    | cons p ps => unfold chkF at h; cases h
  | .some e, X, c, Ê, ps, o, h => by
    match ps, h with
    | [], h => unfold chkF at h; cases h
    | [p], h => unfold chkF at h; exact pts_one (sV e o h).1
    | _ :: _ :: _, h => unfold chkF at h; cases h
theorem sV : ∀ (e : Tt) {X : Cx} {c : Sc} {Ê : L2.St → XK} {p : Expr}, Ok X C Ê c fr fl → chkV fr fl X.N e c p = true → PT X p (LT X.K Ê (wT C e)) ∧ ((∃ a b d, p = .BoolOp a b d) → PW X p (LT X.K Ê (wT C e)))
  | .val e, X, c, Ê, p, o, h => by
    unfold chkV at h
    obtain ⟨h1, h2⟩ := ba2 h
    refine ⟨(sE e o h2).2 h1, fun ⟨a, b, d, ep⟩ => ?_⟩
    subst ep
    cases e <;> first | (cases h1; done) | (unfold chkE at h2; cases h2; done)
  | .not a, X, c, Ê, p, o, h => by
    cases p <;> first | (unfold chkV at h; cases h; done) | skip
    rename_i op pa pos
    cases op <;> first | (unfold chkV at h; cases h; done) | skip
    unfold chkV at h
    exact ⟨wt_not (sV a o h).1, fun ⟨a, b, d, ep⟩ => nomatch ep⟩
  | .and a b, X, c, Ê, p, o, h => by
    cases p <;> first | (unfold chkV at h; cases h; done) | skip
    rename_i op vs pos
    have z : PW X (.BoolOp op vs pos) (LT X.K Ê (wT C (.and a b))) := by
      match op, vs, h with
      | .And, [pa, pb], h =>
        unfold chkV at h
        obtain ⟨h1, h2⟩ := ba2 h
        exact wt_and (sV a o h1).1 (pw_and1 (sV b o h2).1)
      | .And, pa :: pb :: pc :: rest, h =>
        unfold chkV at h
        obtain ⟨h1, h2⟩ := ba2 h
        exact wt_and (sV a o h1).1 ((sV b o h2).2 ⟨_, _, _, rfl⟩)
    exact ⟨z.pt, fun _ => z⟩
  | .or a b, X, c, Ê, p, o, h => by
    cases p <;> first | (unfold chkV at h; cases h; done) | skip
    rename_i op vs pos
    have z : PW X (.BoolOp op vs pos) (LT X.K Ê (wT C (.or a b))) := by
      match op, vs, h with
      | .Or, [pa, pb], h =>
        unfold chkV at h
        obtain ⟨h1, h2⟩ := ba2 h
        exact wt_or (sV a o h1).1 (pw_or1 (sV b o h2).1)
      | .Or, pa :: pb :: pc :: rest, h =>
        unfold chkV at h
        obtain ⟨h1, h2⟩ := ba2 h
        exact wt_or (sV a o h1).1 ((sV b o h2).2 ⟨_, _, _, rfl⟩)
    exact ⟨z.pt, fun _ => z⟩
theorem sI : ∀ (e : It) {X : Cx} {c : Sc} {Ê : L2.St → XK} {tg p : Expr}, Ok X C Ê c fr fl → chkI fr fl X.N e c p tg = true → PI X tg p (LI X.K Ê (wI C e))
  | .ex e, X, c, Ê, tg, p, o, h => by
    unfold chkI at h
    exact wi_ex (sE e o h).1
  | .rng1 a, X, c, Ê, tg, p, o, h => by
    cases p <;> first | (unfold chkI at h; cases h; done) | skip
    rename_i g as ks pos
    match g, as, ks, h with
    | .Name g p, [pa], [], h =>
      unfold chkI at h
      obtain ⟨h1, h2, h3, h4⟩ := ba4 h
      obtain rfl : g = "range" := by simpa using h1
      exact wi_rng1 (o.gl h2) (o.free h3) (star1 h4) (sE a o h4).1
  | .rng2 a b, X, c, Ê, tg, p, o, h => by
    cases p <;> first | (unfold chkI at h; cases h; done) | skip
    rename_i g as ks pos
    match g, as, ks, h with
    | .Name g p, [pa, pb], [], h =>
      unfold chkI at h
      obtain ⟨h1, h2, h3, h4, h5⟩ := ba5 h
      obtain rfl : g = "range" := by simpa using h1
      exact wi_rng2 (o.gl h2) (o.free h3) (by rw [star_of (chk_plain h4), star1 h5]) (star1 h5) (sE a o h4).1 (sE b o h5).1
  | .enum a, X, c, Ê, tg, p, o, h => by
    cases p <;> first | (unfold chkI at h; cases h; done) | skip
    rename_i g as ks pos
    cases tg <;> first | (unfold chkI at h; simp at h; done) | skip
    all_goals
      match g, as, ks, h with
      | .Name g p, [pa], [], h =>
        unfold chkI at h
        obtain ⟨h1, h2, h3, h4⟩ := ba4 h
        obtain rfl : g = "enumerate" := by simpa using h1
        exact wi_enum (o.gl h2) (o.free h3) (star1 h4) (sE a o h4).1
  | .zip a b, X, c, Ê, tg, p, o, h => by
    cases p <;> first | (unfold chkI at h; cases h; done) | skip
    rename_i g as ks pos
    cases tg <;> first | (unfold chkI at h; simp at h; done) | skip
    all_goals
      match g, as, ks, h with
      | .Name g p, [pa, pb], [], h =>
        unfold chkI at h
        obtain ⟨h1, h2, h3, h4, h5⟩ := ba5 h
        obtain rfl : g = "zip" := by simpa using h1
        exact wi_zip (o.gl h2) (o.free h3) (star_of (chk_plain h4)) (star1 h5) (by rw [star1 h5]; rfl) (sE a o h4).1 (sE b o h5).1
end
end
end PD

set_option Elab.async false
set_option linter.all false
set_option maxRecDepth 100000
set_option maxHeartbeats 4000000
namespace PD
open PySem PySem.Spec PyProof.Rows L2
section
variable {X : Cx} {e : Expr} {es : List Expr} {ta : TA} {p pos : Pos}
/-- C(e, ..) of an own exception, its __init__ keeping sp -/
theorem pmk_oexG {x : Str} {C fI : Addr} {k : Nat} {fd : FuncData} {ps : List Str} {sp : Sp} (T : OexC X.K C) (iC : PySem.W.findIn X.K (.ref C) "__init__" = some (some (.ref fI))) (tI : PySem.W.typeIn X.K (.ref fI) = some (.type "function"))
    (F1 : FG X.prog X.w X.K X.mg X.base k fI fd ps sp) (hr : Room (k + 1) X.A) (hgd : X.A.guards = some []) (hb : Binds X.K fd ps []) (hg : Gl X x) (hm : X.mg x = some (.ref C)) (ha : PA X (e :: es) ta)
    (hdb : (x == ("__debug__" : Str)) = false) (he : starEach (e :: es) X.env = (false, eval e X.env) :: starEach es X.env) (hpl : (backTo pos (starEach es X.env)).any (·.1) = false) :
    PMk X (.Call (.Name x p) (e :: es) [] pos) (tMkO C sp [] ta) := by
  intro pins s σ H Q I h
  obtain ⟨nm, q, N, bs, bm, sn, sub, ab, col, dd, k0, k1, k2, k3, k5, hC, hbm⟩ := T.cls
  refine wpAny_Call_Name_kw (ld_glob I hg hm ?_ hdb)
  refine PySem.W.callWith_K (h₀ := X.base) I.ok.mod.kin T.kC (thn (ha.run pos pins s σ H _ I h) fun us s1 ⟨vs, H1, I1, r1, hz, q1⟩ => ⟨I1.kIn, ?_⟩) he hpl
  show wpAny _ _ (call (.ref C) us) _ _ _
  obtain ⟨hp, g, dr, tk, os⟩ := s1
  have hsz : hp.objs.size ≤ hp.objs.size + 1 := Nat.le_succ _
  have hn : H1 (hp.objs.size + 1) = none := I1.hok.fresh hsz
  have hq := q1 (hp.objs.size + 1) hn
  have kk : ∀ b o, hp.get? b = some o → ((hp.push (PySem.W.kdv_tup us)).push (PySem.HandSPX.excO C hp.objs.size)).get? b = some o := fun b o e => Heap.get?_push_of_some _ (Heap.get?_push_of_some _ e)
  have hget : ((hp.push (PySem.W.kdv_tup us)).push (PySem.HandSPX.excO C hp.objs.size)).get? (hp.objs.size + 1) = some (PySem.HandSPX.excO C hp.objs.size) := by heap_get
  have I2 : Inv X pins σ (upd H1 (hp.objs.size + 1) (exo (hp.objs.size + 1) C none)) ⟨(hp.push (PySem.W.kdv_tup us)).push (PySem.HandSPX.excO C hp.objs.size), g, dr, tk, os⟩ :=
    I1.laid (t' := tk) (a := hp.objs.size + 1) (o := exo (hp.objs.size + 1) C none) (h' := (hp.push (PySem.W.kdv_tup us)).push (PySem.HandSPX.excO C hp.objs.size)) kk hsz (exo_ok hget)
  have r2 : Vals (V.ref (hp.objs.size + 1) :: (vs ++ [])) (Value.ref (hp.objs.size + 1) :: (us ++ [])) := .cons rfl (r1.append .nil)
  have hl : (Value.ref (hp.objs.size + 1) :: us ++ []).length = ps.length := by
    have e := r2.length
    rw [F1.len _ _ _ _ hq] at e
    exact e.symm
  have hus : us.length ≤ sizeLine := by
    rw [← Paired.length r1, sizeLine_eq]
    omega
  refine wpAny_call (PySem.HandSPX.call_own PySem.F.excBase_ValueError (fun Y => PySem.HandSPX.refsVE_contains Y bm hbm) (I1.kIn _ _ hC) (PySem.W.looks_findIn I1.kIn iC) (fun self => PySem.W.bind_fn I1.kIn self tI) hus
    (codeAny_mono (F1.run _ X.stack _ _ ⟨Value.ref (hp.objs.size + 1) :: us, []⟩ (Value.ref (hp.objs.size + 1) :: (us ++ [])) _ _ (fun _ _ _ => False) (hr.make C us []) hgd (I2.env0.make C us []) (by have z := hb _ (Value.ref (hp.objs.size + 1) :: us) I2.kIn hl; simpa only [List.append_nil, List.cons_append] using z) r2 hq) fun r s' hq' => ?_))
  cases r with
  | error er => exact passL pins σ _ _ er s' I2 hq'
  | ok fl =>
    cases fl with
    | ret u =>
      obtain ⟨v, H2, os2, bare2, un2, hok2, rv, ev, d, fs, ea, ed, hd1, q2⟩ := hq'
      subst ev
      obtain ⟨h2, g2, d2, t2, os'⟩ := s'
      exact ⟨rv, mk_end (raises_own T.exC T.tyC) I1 hsz kk un2 hok2 os2 bare2 ea ed hd1 q2⟩
    | next => exact False.elim hq'
    | brk => exact False.elim hq'
    | cont => exact False.elim hq'
end
end PD

set_option maxRecDepth 100000
namespace PD
open PySem PySem.Spec PyProof.Rows L2
theorem star_no' : ∀ {p : Expr}, plainP p = true → (match p with | .Starred .. => true | _ => false) = false := by
  intro p h
  cases p <;> first | rfl | cases h
set_option maxHeartbeats 4000000
theorem swst_fold {ts vs : List Expr} {k k2 : Nat} {pt pt2 : Pos} {env : Env} (h : vs.all (foldedForSure 8) = true) : swappedStores [.Tuple ts k pt] (.Tuple vs k2 pt2) env = pure none := by
  unfold swappedStores
  simp only [h, if_true]
  split
  · rfl
  · split
    · rfl
    · split <;> rfl
theorem sw_par3 {env : Env} {x y z : Str} {px py pz pt pt2 : Pos} {kt k2 : Nat} {pa pb pc : Expr} (hb : env.blockKind = .function) (kx : env.kindOf x = some .local) (ky : env.kindOf y = some .local) (kz : env.kindOf z = some .local) (hl : (py.line == px.line) = true) (hl2 : (pz.line == px.line) = true)
    (hxy : x ≠ y) (hxz : x ≠ z) (hyz : y ≠ z)
    (ha : plainP pa = true) (hb2 : plainP pb = true) (hb3 : plainP pc = true) (hf : ([pa, pb, pc].all (foldedForSure 8)) = false) (hc : ([pa, pb, pc].all (constantsAlone 8)) = false) :
    swappedStores [.Tuple [.Name x px, .Name y py, .Name z pz] kt pt] (.Tuple [pa, pb, pc] k2 pt2) env = pure (some [x, y, z]) := by
  have e1 : ([pa, pb, pc].any fun | .Starred .. => true | _ => false) = false := by
    rw [List.any_cons, List.any_cons, List.any_cons, List.any_nil]
    exact Bool.or_eq_false_iff.mpr ⟨star_no' ha, Bool.or_eq_false_iff.mpr ⟨star_no' hb2, Bool.or_eq_false_iff.mpr ⟨star_no' hb3, rfl⟩⟩⟩
  have h1 : (y == x) = false := by simpa using fun z => hxy z.symm
  have h2 : (z == x) = false := by simpa using fun q => hxz q.symm
  have h3 : (z == y) = false := by simpa using fun q => hyz q.symm
  have e3 : ([x, y, z] : List Str).eraseDups = [x, y, z] := by simp [List.eraseDups_cons, h1, h2, h3, Ne.symm hxy, Ne.symm hxz, Ne.symm hyz]
  unfold swappedStores
  simp only [hb, e1, hf, hc, kx, ky, kz, hl, hl2, List.filterMap_cons, List.filterMap_nil, List.head?_cons, Option.map_some, Option.getD_some, Expr.pos, beq_self_eq_true, Bool.and_self, if_true, List.length_cons, List.length_nil, e3]
  rw [if_neg (by decide), if_neg (by intro q; exact Bool.noConfusion (e1.symm.trans q)), if_neg (by decide), if_neg (by decide), if_neg (by decide)]
end PD

set_option Elab.async false
set_option linter.all false
set_option maxRecDepth 100000
set_option maxHeartbeats 4000000
namespace PD
open PySem PySem.Spec PyProof.Rows L2

/-! ## statements -/
structure DOk (K : PySem.W.Frag) (Ê : XK) (H : Hp) (S : Sto) (D : En) (Dh : Ends) : Prop where
  nx : ∀ σ' S' τ' H', Ext H S H' S' → LinkS K H' S' → RSl K H' S' σ' τ' → D.nx σ' S' → Dh.nx τ' H'
  rt : ∀ r S' v H', Ext H S H' S' → LinkS K H' S' → RW K H' S' r v → D.rt r S' → Dh.rt v H'
  bk : ∀ σ' S' τ' H', Ext H S H' S' → LinkS K H' S' → RSl K H' S' σ' τ' → D.bk σ' S' → Dh.bk τ' H'
  ct : ∀ σ' S' τ' H', Ext H S H' S' → LinkS K H' S' → RSl K H' S' σ' τ' → D.ct σ' S' → Dh.ct τ' H'
  ex : XO K Ê H S D.ex
theorem DOk.ext {K : PySem.W.Frag} {Ê : XK} {H H1 : Hp} {S S1 : Sto} {D : En} {Dh : Ends} (d : DOk K Ê H S D Dh) (e : Ext H S H1 S1) : DOk K Ê H1 S1 D Dh :=
  ⟨fun a b c x e2 => d.nx a b c x (e.trans e2), fun a b c x e2 => d.rt a b c x (e.trans e2), fun a b c x e2 => d.bk a b c x (e.trans e2), fun a b c x e2 => d.ct a b c x (e.trans e2), d.ex.ext e⟩
abbrev WS := En → Sl → Sto → Prop
def LS (K : PySem.W.Frag) (Ê : XK) (w : WS) : TS := fun Dh τ H => ∃ σ S D, RSl K H S σ τ ∧ LinkS K H S ∧ w D σ S ∧ DOk K Ê H S D Dh
structure OkS (X : Cx) (C : Cn) (Ê : XK) (c : Sc) (fr : List Str) (fl : Fl) : Prop extends Ok X C (kE Ê) c fr fl where
  own : PassesOwn (model X.prog X.w) X.A X.env X.xe
  kind : X.env.scope.kind = .function
  takes : Takes X (fun cls d _ H => Ê cls d H)
  stk : X.stack = X.env :: X.outer
  frm : X.env.frame = some X.env.locals
theorem swst_of {tg e : Expr} {env : Env} (h : isTuple e = false) : swappedStores [tg] e env = pure none := by
  cases e <;> first | (cases h; done) | (cases tg <;> rfl)
section
variable {X : Cx} {C : Cn} {Ê : XK} {c : Sc} {fr : List Str} {fl : Fl} {wa wb wc : PD.WE} {ta : PD.WT} {wi : WI} {pa pb : Expr} {pos : Pos}
/-- name = e, t = e -/
theorem asg_red {t : Tg} {τ : L2.St} {H : Hp} {Dh : Ends} (h : LS X.K Ê (fun D σ S => wa σ S (fun w S1 => t.go w σ fun σ' => D.nx σ' S1) D.ex) Dh τ H) : tAsg (LE X.K (kE Ê) wa) (LG X.K t) Dh τ H := by
  obtain ⟨σ, S, D, hs, hl, hw, d⟩ := h
  exact LE.mk hs hl d.ex hw fun x S1 v H1 e1 l1 s1 x1 r1 q => ⟨σ, S1, x, _, s1, l1, r1, q, fun σ' τ' hs' _ q' => d.nx _ _ _ _ e1 l1 hs' q'⟩
theorem set_red {i : Nat} {τ : L2.St} {H : Hp} {Dh : Ends} (h : LS X.K Ê (fun D σ S => wa σ S (fun w S1 => (Tg.name i).go w σ fun σ' => D.nx σ' S1) D.ex) Dh τ H) : tAsg (LE X.K (kE Ê) wa) (gName i) Dh τ H := by
  obtain ⟨σ, S, D, hs, hl, hw, d⟩ := h
  exact LE.mk hs hl d.ex hw fun x S1 v H1 e1 l1 s1 x1 r1 ⟨_, q⟩ => d.nx _ _ _ _ e1 l1 (s1.set i r1) q
theorem for_red {t : Tg} {wb : WS} {τ : L2.St} {H : Hp} {Dh : Ends} (h : LS X.K Ê (fun D σ S => wi σ S (fun xs S1 => loopF (fun D' x σ' S' => t.go x σ' fun σ2 => wb D' σ2 S') D xs σ S1) D.ex) Dh τ H) : tFor (LI X.K (kE Ê) wi) (LG X.K t) (LS X.K Ê wb) Dh τ H := by
  obtain ⟨σ, S, D, hs, hl, hw, d⟩ := h
  refine ⟨σ, S, _, D.ex, hs, hl, hw, fun ws S1 J H1 e1 l1 jit q => ?_, d.ex⟩
  generalize hb : (fun (D' : En) (x : W) (σ' : Sl) (S' : Sto) => t.go x σ' fun σ2 => wb D' σ2 S') = body at q
  refine ⟨fun i m τ' Hx => m = ws.length - i ∧ i ≤ ws.length ∧ ∃ σ' S', Ext H1 S1 Hx S' ∧ LinkS X.K Hx S' ∧ RSl X.K Hx S' σ' τ' ∧ loopF body D (ws.drop i) σ' S', ⟨ws.length, rfl, Nat.zero_le _, σ, S1, .refl, l1, hs.ext e1, q⟩, ?_⟩
  rintro i m τ' Hx ⟨rfl, hi, σ', S', ex, lx, sx, q⟩
  obtain ⟨j1, j2⟩ := jit Hx S' ex lx
  by_cases hlt : i < ws.length
  · have hg : ws[i]? = some ws[i] := List.getElem?_eq_getElem hlt
    rw [List.drop_eq_getElem_cons hlt] at q
    obtain ⟨jg, jy⟩ := j1 i _ hg
    refine .inr ⟨jg, fun τ2 H2 => ∃ σ2 S2, Ext H1 S1 H2 S2 ∧ LinkS X.K H2 S2 ∧ RSl X.K H2 S2 σ2 τ2 ∧ loopF body D (ws.drop (i + 1)) σ2 S2, fun τ2 H2 ⟨σ2, S2, a1, a2, a3, a4⟩ => ⟨ws.length - (i + 1), by omega, rfl, hlt, σ2, S2, a1, a2, a3, a4⟩, fun x H' hy => ?_⟩
    obtain ⟨e3, l3, r3⟩ := jy x H' hy
    unfold loopF at q
    have ea := ex.trans e3
    have d' := d.ext (e1.trans ea)
    have q' : t.go ws[i] σ' fun σ2 => wb { D with nx := loopF body D (ws.drop (i + 1)), ct := loopF body D (ws.drop (i + 1)), bk := D.nx } σ2 S' := by rw [← hb] at q ⊢; exact q
    refine ⟨σ', S', ws[i], _, sx.ext e3, l3, r3, q', fun σ2 τ2 hs2 _ q2 => ⟨σ2, S', _, hs2, l3, q2, fun a b c x e l s n => ⟨a, b, ea.trans e, l, s, n⟩, d'.rt, d'.nx, fun a b c x e l s n => ⟨a, b, ea.trans e, l, s, n⟩, d'.ex⟩⟩
  · have hi' : i = ws.length := by omega
    subst hi'
    rw [List.drop_length] at q
    unfold loopF at q
    exact .inl ⟨j2, d.nx _ _ _ _ (e1.trans ex) lx sx q⟩
theorem while_red {wb : WS} {τ : L2.St} {H : Hp} {Dh : Ends} (h : LS X.K Ê (fun D σ S => ∃ n, loopW (fun σ' S' Q => ta σ' S' Q D.ex) (fun D' σ' S' => wb D' σ' S') D n σ S) Dh τ H) : tWhile (LT X.K (kE Ê) ta) (LS X.K Ê wb) Dh τ H := by
  obtain ⟨σ, S, D, hs, hl, ⟨n, hw⟩, d⟩ := h
  generalize ht : (fun (σ' : Sl) (S' : Sto) (Q : QB) => ta σ' S' Q D.ex) = test at hw
  have key : ∀ a b Q, test a b Q → ta a b Q D.ex := fun a b Q h => by rw [← ht] at h; exact h
  refine ⟨fun m τ' Hx => ∃ σ' S', Ext H S Hx S' ∧ LinkS X.K Hx S' ∧ RSl X.K Hx S' σ' τ' ∧ loopW test (fun D' σ' S' => wb D' σ' S') D m σ' S', ⟨n, σ, S, .refl, hl, hs, hw⟩, ?_⟩
  rintro m τ' Hx ⟨σ', S', ex, lx, sx, q⟩
  cases m with
  | zero => unfold loopW at q; exact q.elim
  | succ m =>
    unfold loopW at q
    have d' := d.ext ex
    refine ⟨σ', S', _, D.ex, sx, lx, key _ _ _ q, fun b S1 H1 e1 l1 q1 => ?_, d'.ex⟩
    cases b with
    | false => exact d'.nx _ _ _ _ e1 l1 (sx.ext e1) q1
    | true =>
      refine ⟨fun τ2 H2 => ∃ σ2 S2, Ext H S H2 S2 ∧ LinkS X.K H2 S2 ∧ RSl X.K H2 S2 σ2 τ2 ∧ loopW test (fun D' σ' S' => wb D' σ' S') D m σ2 S2, fun τ2 H2 ⟨σ2, S2, a⟩ => ⟨m, Nat.lt_succ_self m, σ2, S2, a⟩, ?_⟩
      have ea := ex.trans e1
      have d2 := d'.ext e1
      exact ⟨σ', S1, _, sx.ext e1, l1, q1, fun a b c x e l s n => ⟨a, b, ea.trans e, l, s, n⟩, d2.rt, d2.nx, fun a b c x e l s n => ⟨a, b, ea.trans e, l, s, n⟩, d2.ex⟩
/-! ### a place changed -/
def rSetW (K : PySem.W.Frag) : TSet := fun o i v H Qh => ∃ S wo wi wv Q, LinkS K H S ∧ RW K H S wo o ∧ RW K H S wi i ∧ RW K H S wv v ∧ setW wo wi wv S Q ∧ ∀ S' H', Ext H S H' S' → LinkS K H' S' → Q S' → Qh H'
theorem set_W (hu : X.A.units + 64 < cLine) : PSet X (rSetW X.K) := by
  intro pins s τ H o i v ov iv u Qh I ro ri rv ⟨S, wo, wi, wv, Q, l, r1, r2, r3, q, k⟩
  cases wo <;> first | (cases q; done) | skip
  rename_i a
  obtain rfl : o = V.ref a := by unfold RW at r1; exact r1
  unfold setW at q
  cases e : S a with
  | none =>
    simp only [e] at q
  | some so =>
    cases so with
    | lst xs =>
      simp only [e] at q
      obtain ⟨j, n, ei, hj, q⟩ := q
      subst ei
      obtain rfl := r2.int_
      obtain ⟨_, h1, vs, rfl, h2⟩ := l.at_ a _ e
      have ec : Ext H S (upd H a (.lst (vs.set n v))) (S.set a (.lst (xs.set n wv))) := ext_chg e
      exact set_list pins s τ H _ _ _ _ _ _ Qh I ro ri rv ⟨a, vs, j, n, rfl, rfl, h1, by rw [← h2.len]; exact hj, k _ _ ec (l.put ec ⟨_, rfl, h2.set n r3⟩) q⟩
    | ins _ _ _ => simp only [e] at q
    | clo _ => simp only [e] at q
    | dct ks ws =>
      simp only [e] at q
      obtain ⟨x, ek, hz, q⟩ := q
      obtain rfl := r2.key ek
      obtain ⟨_, h1, kvs, rfl, rfl, h2⟩ := l.at_ a _ e
      have ec : Ext H S (upd H a (.dK (L2.putK kvs x v))) (S.set a (.dct (putKW (kvs.map (·.1)) ws x wv).1 (putKW (kvs.map (·.1)) ws x wv).2)) := ext_chg e
      exact set_dict (by omega) pins s τ H _ _ _ _ _ _ Qh I ro ri rv ⟨a, _, rfl, .inl ⟨kvs, x, h1, rfl, by simpa using hz, rfl⟩, k _ _ ec (l.put ec ⟨_, rfl, (put_keys kvs ws x v wv).symm, put_vals h2 r3⟩) q⟩
end
/-! ### all statements -/
theorem PSs.imp_ {X : Cx} {e : List Stmt} {t t' : TS} (h : PSs X e t) (i : ∀ D σ H, t' D σ H → t D σ H) : PSs X e t' := h.imp i
section
variable {C : Cn} {fr : List Str} {fl : Fl}
theorem sw_comp {c : Sc} {x : Str} {px : Pos} {pe : Expr} {l : Nat} {X : Cx} (hk : X.env.scope.kind = .function) (hsc : X.env.scope = c.sc) {elt : Expr} {gs : List Comprehension} {scope : Scope} {pos : Pos} (he : pe = .ListComp elt gs scope pos) (h : swapsB c.sc x px pe = true) :
    X.env.scope.names.lookup x = some .local ∧ swapsWith pe (some (.Name x px)) l X.env = pure true := by
  subst he
  unfold swapsB at h
  obtain ⟨h1, h2, h3⟩ := ba3 h
  have hx : X.env.scope.names.lookup x = some .local := by
    rw [hsc]
    split at h1
    · assumption
    · cases h1
  exact ⟨hx, sw_true hk hx h2 (nb h3)⟩
theorem star_no {p : Expr} (h : plainP p = true) : (match p with | .Starred .. => true | _ => false) = false := by
  cases p <;> first | rfl | cases h
theorem sw_par {env : Env} {x y : Str} {px py pt pt2 : Pos} {kt k2 : Nat} {pa pb : Expr} (hb : env.blockKind = .function) (kx : env.kindOf x = some .local) (ky : env.kindOf y = some .local) (hl : (py.line == px.line) = true) (hxy : x ≠ y)
    (ha : plainP pa = true) (hb2 : plainP pb = true) (hf : ([pa, pb].all (foldedForSure 8)) = false) (hc : ([pa, pb].all (constantsAlone 8)) = false) :
    swappedStores [.Tuple [.Name x px, .Name y py] kt pt] (.Tuple [pa, pb] k2 pt2) env = pure (some [x, y]) := by
  have e1 : ([pa, pb].any fun | .Starred .. => true | _ => false) = false := by
    cases pa <;> first | (cases ha; done) | (cases pb <;> first | (cases hb2; done) | rfl)
  have hxy' : (y == x) = false := by simpa using fun z => hxy z.symm
  have hxy2 : (x == y) = false := by simpa using hxy
  unfold swappedStores
  simp only [hb, e1, hf, hc, kx, ky, hl, List.filterMap_cons, List.filterMap_nil, List.head?_cons, Option.map_some, Option.getD_some, Expr.pos, beq_self_eq_true, Bool.and_self, if_true, List.eraseDups_cons, List.length_cons, List.length_nil]
  rw [if_neg (by decide)]
  have e3 : (List.filter (fun b => !b == x) [y]).eraseDups.length = 1 := by
    have : List.filter (fun b => !b == x) [y] = [y] := by simp [hxy']
    rw [this]; first | rfl | simp [List.eraseDups_cons, List.eraseDups_nil]
  rw [e3]
  rw [if_neg (by
    cases pa <;> first | (cases ha; done) | (cases pb <;> first | (cases hb2; done) | (intro z; cases z))), if_neg (by decide), if_neg (by decide), if_neg (by decide)]
theorem PS.lift {X : Cx} {Ê : XK} {p : Stmt} {t : TS} {w : WS} (h : PS X p t) (k : ∀ Dh τ H, LS X.K Ê w Dh τ H → t Dh τ H) : PS X p (LS X.K Ê w) := h.imp k
theorem loc'_of {X : Cx} {c : Sc} {Ê : L2.St → XK} (o : Ok X C Ê c fr fl) {x : Str} (h : locB' c x = true) : X.env.scope.names.lookup x = some .local := by
  rw [o.sc]
  unfold locB' at h
  split at h
  · assumption
  · cases h
theorem isCompE_of {e : E} (h : isCompE e = true) : ∃ m own t it cnd elt, e = .comp m own t it cnd elt := by
  cases e <;> first | (cases h; done) | exact ⟨_, _, _, _, _, _, rfl⟩
/-! ### try -/
def LSt (K : PySem.W.Frag) (Ê : L2.St → XK) (w : WS) : TS := fun Dh τ H => ∃ σ S D, RSl K H S σ τ ∧ LinkS K H S ∧ w D σ S ∧ DOk K (Ê τ) H S D Dh
theorem sTb : ∀ (b : Tb) {X : Cx} {c : Sc} {Ê : L2.St → XK} {ps : List Stmt}, Ok X C Ê c fr fl → chkTb fr fl X.N b c ps = true → PSs X ps (LSt X.K Ê (wTb C b))
  | .one e, X, c, Ê, ps, o, h => by
    replace h : chkOne fr fl X.N e c ps = true := h
    unfold chkOne at h
    split at h
    case h_2 => cases h
    case h_1 p pos =>
      obtain ⟨h1, h2⟩ := ba2 h
      exact (pss_cons (ps_expr (sE e o h1).1 (swap_of (nb h2))) pss_nil).imp fun Dh τ H ⟨σ, S, D, hs, hl, hw, d⟩ => LE.mk hs hl d.ex hw fun x S1 v H1 e1 l1 s1 x1 r1 q => d.nx _ _ _ _ e1 l1 s1 q
  | .asg j e, X, c, Ê, ps, o, h => by
    replace h : chkAsg fr fl X.N j e c ps = true := h
    unfold chkAsg at h
    split at h
    case h_2 => cases h
    case h_1 x px p pos =>
      obtain ⟨h1, h2, h3, h4⟩ := ba4 h
      obtain ⟨hl, hf⟩ := o.loc h2
      exact (pss_cons (ps_set o.nd (by simpa using h1) hl (sE e o h3).1 (swap_of (nb h4)) hf) pss_nil).imp fun Dh τ H ⟨σ, S, D, hs, hl, hw, d⟩ => LE.mk hs hl d.ex hw fun x S1 v H1 e1 l1 s1 x1 r1 ⟨_, q⟩ => d.nx _ _ _ _ e1 l1 (s1.set j r1) q
  | .iff t a b, X, c, Ê, ps, o, h => by
    unfold chkTb at h
    cases q : ifOf ps with
    | none => rw [q] at h; cases h
    | some e =>
      obtain ⟨pt, pa, pb⟩ := e
      rw [q] at h
      obtain ⟨h1, h2, h3⟩ := ba3 h
      unfold ifOf at q
      split at q
      case h_2 => cases q
      cases q
      exact (pss_cons (ps_if (sV t o h1).1 (sTb a o h2) (sTb b o h3)) pss_nil).imp fun Dh τ H ⟨σ, S, D, hs, hl, hw, d⟩ => LT.mk hs hl d.ex hw fun r S1 H1 e1 l1 s1 x1 q => by
        have d1 := d.ext e1
        cases r with
        | true => exact ⟨σ, S1, D, s1, l1, q, ⟨d1.nx, d1.rt, d1.bk, d1.ct, d1.ex⟩⟩
        | false => exact ⟨σ, S1, D, s1, l1, q, ⟨d1.nx, d1.rt, d1.bk, d1.ct, d1.ex⟩⟩
theorem sHs {X : Cx} {c : Sc} {i : Nat} {ps : List Stmt} (nd : X.N.Nodup) (hv : ∀ x, visB c.sc x = true → Vis X.env.scope x) (hl : ∀ x, locB' c x = true → X.env.scope.names.lookup x = some .local) (gl : ∀ x, glB c.sc x = true → Gl X x)
    (free : ∀ x, fr.contains x = true → X.mg x = none) (hu : X.A.units + 200 < cLine) (hg : X.A.guards = some []) (sm : ∃ o, X.base.get? sysModules = some o ∧ o.cls = .type "dict") : ∀ (h : Hs), chkHs fr X.N i h c ps = true → PSs X ps (LSt X.K E00 (wHs C i h))
  | .keep j, h => by
    replace h : chkKeep X.N i j c ps = true := h
    unfold chkKeep at h
    split at h
    case h_2 => cases h
    case h_1 x px y py pos =>
      obtain ⟨h1, h2, h3, h4, h5⟩ := ba5 h
      obtain ⟨h5, h6⟩ := ba2 h5
      have lx := hl x h2
      exact (pss_cons (ps_set nd (by simpa using h1) (.inl lx) (pe_var (i := i) (by simpa using h3) (hv y h4) (nb h5) (nb h6)) (swap_of rfl) (.inr lx)) pss_nil).imp fun Dh τ H ⟨σ, S, D, hs, hl, ⟨w, e, q⟩, d⟩ => by
        obtain ⟨v, z1, z2⟩ := hs.2 i w e
        exact ⟨v, z1, d.nx _ _ _ _ .refl hl (hs.set j z2) q⟩
  | .app j f, h => by
    replace h : chkApp fr X.N i j f c ps = true := h
    unfold chkApp at h
    split at h
    case h_2 => cases h
    case h_1 x px n ap g gp y py hn yp cp2 cp pos =>
        obtain ⟨h1, h2, h3, h4, h5⟩ := ba5 h
        obtain ⟨k1, k2, k3, k4, k5⟩ := ba5 h5
        obtain ⟨m1, m2, m3, m4, m5⟩ := ba5 k5
        obtain ⟨m7, m6⟩ := ba2 m5
        obtain rfl : n = "append" := by simpa using k1
        obtain rfl : g = "repr" := by simpa using k3
        obtain rfl : f = hn := by simpa using m6
        have pl : PE X (.Name x px) (LE X.K E00 (wE C (.loc j))) := we_loc (by simpa using h1) (hv x h2) (nb h3) (nb h4)
        have px_ : PE X (.Attribute (.Name y py) f yp) (LE X.K E00 (wE C (.xfl i f))) := (pe_xk (pe_var (by simpa using m2) (hv y m3) (nb m4) (nb m7)) (base_of rfl)).imp fun τ H Qh ⟨σ, S, Q, Y, hs, hl, ⟨k, w, e, q⟩, kk, hx⟩ => by
          obtain ⟨v, z1, z2⟩ := hs.2 i _ e
          unfold RW at z2
          obtain ⟨T, a, d, y, rfl, n1, n2, ea, ed, r⟩ := z2
          exact ⟨_, z1, a, d, k, y, rfl, T, ea, ed, kk _ _ _ _ .refl hl r q⟩
        have pr : PE X (.Call (.Name "repr" gp) [.Attribute (.Name y py) f yp] [] cp2) (LE X.K E00 (wE C (.bi .repr (.cons (.xfl i f) .nil)))) :=
          we_bi (b := .repr) (bi_repr hu hg sm) (gl _ k4) (free _ m1) boot_repr (by decide) (by decide) rfl rfl (wa_cons rfl px_ wa_nil)
        have pm : PE X (.Call (.Attribute (.Name x px) "append" ap) [.Call (.Name "repr" gp) [.Attribute (.Name y py) f yp] [] cp2] [] cp) (LE X.K E00 (wE C (.meth .append (.loc j) (.cons (.bi .repr (.cons (.xfl i f) .nil)) .nil)))) :=
          we_meth (m := .append) (T := "list") PySem.F.plainAttrs_list PySem.F.slot_list_append PySem.F.type_list_append mt_app (fun H S w v l r e => by
            cases q : rd S w <;> rw [q] at e <;> first | (cases e; done) | exact tyIs_L l r q) pl (wa_cons rfl pr wa_nil) (base_of rfl) rfl k2 rfl rfl
        exact (pss_cons (ps_expr pm (swap_of rfl)) pss_nil).imp fun Dh τ H ⟨σ, S, D, hs, hl, hw, d⟩ => LE.mk (X := fun _ _ => False) hs hl .none hw fun x S1 v H1 e1 l1 s1 x1 r1 q => d.nx _ _ _ _ e1 l1 s1 q
theorem len_fm {α β : Type} {f : α → Option β} {a : α} (h : f a = none) : ∀ {l : List α}, a ∈ l → (l.filterMap f).length < l.length
  | b :: l, hm => by
    have hle := List.length_filterMap_le f l
    rcases List.mem_cons.mp hm with z | z
    · subst z
      simp only [List.filterMap_cons, h, List.length_cons]
      omega
    · have := len_fm h z
      rw [List.filterMap_cons, List.length_cons]
      split
      · omega
      · rw [List.length_cons]; omega
theorem swst_cell {ts vs : List Expr} {k k2 : Nat} {pt pt2 : Pos} {env : Env} {x : Str} {px : Pos} (h : Expr.Name x px ∈ ts) (hk : env.kindOf x ≠ some .local) : swappedStores [.Tuple ts k pt] (.Tuple vs k2 pt2) env = pure none := by
  unfold swappedStores
  have hl : ∀ line : Nat, ((ts.filterMap fun | .Name id pos => if env.kindOf id == some .local && pos.line == line then some id else none | _ => none).length != ts.length) = true := fun line => by
    have z := len_fm (f := fun | .Name id pos => if env.kindOf id == some .local && pos.line == line then some id else none | _ => none) (a := Expr.Name x px) (by
      show (if env.kindOf x == some .local && px.line == line then some x else none) = none
      have : (env.kindOf x == some .local) = false := by simpa using hk
      rw [this]; rfl) h
    simpa using Nat.ne_of_lt z
  simp only []
  split
  · rfl
  · split
    · rfl
    · rw [if_pos (by rw [Bool.or_eq_true]; left; exact hl _)]
theorem swst_or {tg e : Expr} {env : Env} {c : Sc} (hsc : env.scope = c.sc) (h : (!isTuple e || foldB tg e || cellT c tg) = true) : swappedStores [tg] e env = pure none := by
  cases q : isTuple e with
  | false => exact swst_of q
  | true =>
    rw [q] at h
    have h' : (foldB tg e || cellT c tg) = true := h
    rcases Bool.or_eq_true_iff.mp h' with h' | h'
    · unfold foldB at h'
      split at h'
      · exact swst_fold h'
      · cases h'
    · unfold cellT at h'
      split at h'
      · rename_i ts k pt
        obtain ⟨a, ha, hb⟩ := List.any_eq_true.mp h'
        cases a <;> first | (cases hb; done) | skip
        rename_i x px
        have hk : env.kindOf x ≠ some .local := fun z => by
          have z' : c.sc.names.lookup x = some .local := by rw [← hsc]; exact z
          simp [z'] at hb
        cases e <;> first | (cases q; done) | skip
        exact swst_cell ha hk
      · cases h'
mutual
theorem sS : ∀ (s : PD.St) {X : Cx} {c : Sc} {Ê : XK} {p : Stmt}, OkS X C Ê c fr fl → chkS fr fl X.N s c p = true → PS X p (LS X.K Ê (wS C s))
  | .set t e, X, c, Ê, p, o, h => by
    cases p <;> first | (unfold chkS at h; cases h; done) | skip
    rename_i tgs pe pos
    match tgs, h with
    | [], h => unfold chkS at h; cases h
    | _ :: _ :: _, h => unfold chkS at h; cases h
    | [tg], h =>
      unfold chkS at h
      obtain ⟨h1, h2, h3⟩ := ba3 h
      clear h
      have pg := sT o.toOk t tg h1
      have pe' := (sE e o.toOk h2).1
      cases t with
      | tup ts =>
        cases tg <;> first | (unfold chkT at h1; cases h1; done) | skip
        obtain ⟨k1, k2⟩ := ba2 h3
        exact (ps_asg pe' pg (by unfold swapsWithSole; exact swap_of (nb k1)) (swst_or o.sc k2) rfl).imp fun Dh τ H q => asg_red q
      | name i =>
        cases tg <;> first | (unfold chkT at h1; cases h1; done) | skip
        rename_i x px
        unfold chkT at h1
        obtain ⟨g1, g2⟩ := ba2 h1
        obtain ⟨hl, hf⟩ := o.toOk.loc g2
        have hN : X.N[i]? = some x := by simpa using g1
        by_cases hc : isComp pe = true
        · have h3' : (!isComp pe || (swapsB c.sc x px pe && isCompE e)) = true := h3
          rw [hc] at h3'
          obtain ⟨s1, s2⟩ := ba2 (show (swapsB c.sc x px pe && isCompE e) = true from h3')
          obtain ⟨m, own, t, it, cnd, elt, rfl⟩ := isCompE_of s2
          clear h3 h3' s2 pe' pg hc
          cases pe <;> first | (unfold chkE at h2; cases h2; done) | skip
          rename_i pe gs scope cpos
          match gs, h2 with
          | [⟨tg, iter, pf, 0⟩], h2 =>
            obtain ⟨hx, hsw⟩ := sw_comp (l := pos.line) o.kind o.sc rfl s1
            unfold chkE at h2
            obtain ⟨h2, h7⟩ := ba2 h2
            obtain ⟨h2, h6⟩ := ba2 h2
            obtain ⟨k1, k2, k3, k4, k5⟩ := ba5 h2
            have hown : (ownP X.N own).map (·.2) = own := by simpa using k2
            have ok : BlkOk X.N X.env.scope scope (ownP X.N own) := blkOk_by (by rw [o.sc]; exact k1)
            have z := ps_setLc (pos := cpos) (spos := pos) (te := LE X.K E00 (wE C elt)) (tt := LT X.K E00 (wOT C cnd)) (g := LG X.K t) o.calm o.nd hN hx hsw (sI it (Ê := kE Ê) o.toOk k4) ok (fun s H Ca cl fp => sT (o.toOk.blk s H scope Ca cl fp) t tg k5) (fun s H Ca cl fp => sF cnd (o.toOk.blk s H scope Ca cl fp) h6)
              (fun s H Ca cl fp => (sE elt (o.toOk.blk s H scope Ca cl fp) h7).1) (fold_of (plain_I k4))
            rw [hown] at z
            refine z.imp fun Dh τ H q => lc_red (m := m) k3 ?_
            exact set_red (wa := wE C (.comp m own t it cnd elt)) q
        · have hc' : isComp pe = false := by simpa using hc
          exact (ps_set o.nd hN hl pe' (swap_of hc') hf).imp fun Dh τ H q => set_red q
  | .par i j a b, X, c, Ê, p, o, h => by
    cases p <;> first | (unfold chkS at h; cases h; done) | skip
    rename_i tgs pe pos
    match tgs, pe, h with
    | [.Tuple [.Name x px, .Name y py] kt pt], .Tuple [pa, pb] k2 pt2, h =>
      unfold chkS at h
      obtain ⟨h, hb⟩ := ba2 h
      obtain ⟨h, ha⟩ := ba2 h
      obtain ⟨h, hc⟩ := ba2 h
      obtain ⟨h, hf⟩ := ba2 h
      obtain ⟨h, hl⟩ := ba2 h
      obtain ⟨h1, h2, h3, h4, h5⟩ := ba5 h
      have hN : X.N[i]? = some x := by simpa using h1
      have hM : X.N[j]? = some y := by simpa using h2
      have hij : i ≠ j := by simpa using h3
      have hxy : x ≠ y := fun z => hij (nodup_ix o.nd hN (z ▸ hM))
      have lx := loc'_of o.toOk h4
      have ly := loc'_of o.toOk h5
      have hbk : X.env.blockKind = .function := by unfold Env.blockKind; rw [o.kind]; rfl
      refine (ps_par o.calm o.nd hN hM hij lx ly (pa_cons (sE a o.toOk ha).1 (pa_cons (sE b o.toOk hb).1 pa_nil (star1 hb)) (star_of (chk_plain ha)))
        (sw_par hbk lx ly hl hxy (chk_plain ha) (chk_plain hb) (nb hf) (nb hc)) rfl).imp fun Dh τ H ⟨σ, S, D, hs, hl, hw, d⟩ => ?_
      exact LE.mk hs hl d.ex hw fun v1 S1 u1 H1 e1 l1 s1 x1 r1 q1 => LE.mk s1 l1 x1 q1 fun v2 S2 u2 H2 e2 l2 s2 x2 r2 q2 =>
        ⟨u1, u2, rfl, d.nx _ _ _ _ (e1.trans e2) l2 ((s2.set i (r1.ext e2)).set j r2) q2⟩
  | .par3 i j l a b d, X, c, Ê, p, o, h => by
    cases p <;> first | (unfold chkS at h; cases h; done) | skip
    rename_i tgs pe pos
    match tgs, h with
    | [], h => unfold chkS at h; cases h
    | _ :: _ :: _, h => unfold chkS at h; cases h
    | [tg], h =>
      unfold chkS chkP3 at h
      split at h
      case h_2 => cases h
      case h_1 x px y py z pz kt pt pa pb pd k2 pt2 _ =>
        obtain ⟨h1, h2, h3, h4, h5⟩ := ba5 h
        obtain ⟨h5, h6, h7, h8, h9⟩ := ba5 h5
        obtain ⟨g1, g2, g3, g4, g5⟩ := ba5 h9
        obtain ⟨m1, m2, m3, m4⟩ := ba4 g5
        have hN : X.N[i]? = some x := by simpa using h1
        have hM : X.N[j]? = some y := by simpa using h2
        have hL : X.N[l]? = some z := by simpa using h3
        have hij : i ≠ j := by simpa using h4
        have hil : i ≠ l := by simpa using h5
        have hjl : j ≠ l := by simpa using h6
        have hxy : x ≠ y := fun q => hij (nodup_ix o.nd hN (q ▸ hM))
        have hxz : x ≠ z := fun q => hil (nodup_ix o.nd hN (q ▸ hL))
        have hyz : y ≠ z := fun q => hjl (nodup_ix o.nd hM (q ▸ hL))
        have lx := loc'_of o.toOk h7
        have ly := loc'_of o.toOk h8
        have lz := loc'_of o.toOk g1
        have hbk : X.env.blockKind = .function := by unfold Env.blockKind; rw [o.kind]; rfl
        refine (ps_par3 o.calm o.nd hN hM hL hij hil hjl lx ly lz (pa_cons (sE a o.toOk m2).1 (pa_cons (sE b o.toOk m3).1 (pa_cons (sE d o.toOk m4).1 pa_nil (star1 m4)) (star_of (chk_plain m3))) (star_of (chk_plain m2)))
          (sw_par3 hbk lx ly lz g2 g3 hxy hxz hyz (chk_plain m2) (chk_plain m3) (chk_plain m4) (nb g4) (nb m1)) rfl).imp fun Dh τ H ⟨σ, S, D, hs, hl, hw, d⟩ => ?_
        exact LE.mk hs hl d.ex hw fun v1 S1 u1 H1 e1 l1 s1 x1 r1 q1 => LE.mk s1 l1 x1 q1 fun v2 S2 u2 H2 e2 l2 s2 x2 r2 q2 => LE.mk s2 l2 x2 q2 fun v3 S3 u3 H3 e3 l3 s3 x3 r3 q3 =>
          ⟨u1, u2, u3, rfl, d.nx _ _ _ _ ((e1.trans e2).trans e3) l3 (((s3.set i (r1.ext (e2.trans e3))).set j (r2.ext e3)).set l r3) q3⟩
  | .setix oo ii e, X, c, Ê, p, o, h => by
    cases p <;> first | (unfold chkS at h; cases h; done) | skip
    rename_i tgs pe pos
    match tgs, h with
    | [], h => unfold chkS at h; cases h
    | [.Subscript po pi sp], h =>
      unfold chkS at h
      obtain ⟨h1, h2, h3, h4, h5⟩ := ba5 h
      refine (ps_asg (sE e o.toOk h3).1 (pg_sub (pos := sp) (sE oo o.toOk h1).1 (sE ii o.toOk h2).1 (set_W o.hu) (by
        intro v
        have := chk_plain h2
        cases pi <;> first | rfl | cases this)) (by unfold swapsWithSole; exact swap_of (nb h4)) (swst_of (nb h5)) rfl).imp fun Dh τ H ⟨σ, S, D, hs, hl, hw, d⟩ => ?_
      exact LE.mk hs hl d.ex hw fun wv S1 v H1 e1 l1 s1 x1 r1 q1 => LE.mk s1 l1 x1 q1 fun wo S2 ov H2 e2 l2 s2 x2 r2 q2 => LE.mk s2 l2 x2 q2 fun wi S3 iv H3 e3 l3 s3 x3 r3 q3 =>
        ⟨S3, wo, wi, wv, _, l3, r2.ext e3, r3, r1.ext (e2.trans e3), q3, fun S' H' e4 l4 q4 => d.nx _ _ _ _ (((e1.trans e2).trans e3).trans e4) l4 (s3.ext e4) q4⟩
  | .dead, X, c, Ê, p, o, h => ⟨fun _ _ _ _ _ _ ⟨_, _, _, _, _, hw, _⟩ => by unfold wS at hw; exact hw.elim⟩
  | .raise k f e, X, c, Ê, p, o, h => by
    cases p <;> first | (unfold chkS at h; cases h; done) | skip
    rename_i ex cause pos
    unfold chkS chkRs at h
    split at h
    case h_2 => cases h
    case h_1 g gp pa cp =>
      obtain ⟨h1, h2, h3, h4, h5⟩ := ba5 h
      obtain rfl : k = g := by simpa using h1
      obtain ⟨j, room, pr⟩ := o.toOk.pr
      obtain ⟨fI, fd, ps, i, m, T, Tx, iC, tI, hb, rfl, F1⟩ := (pr.exs (k, f) (by simpa using h4)).ex
      refine (ps_raise o.toOk.calm o.takes (pmk_oexG T iC tI F1 room o.toOk.guards hb (o.toOk.gl h2) m (pa_cons (sE e o.toOk h5).1 pa_nil (star1 h5)) (nb h3) (star1 h5) rfl)).imp fun Dh τ H ⟨σ, S, D, hs, hl, hw, d⟩ => ?_
      refine LE.mk hs hl d.ex hw fun v S1 u H1 e1 l1 s1 x1 r1 q => ⟨by simp, fun a ha => ⟨a, u, rfl, upd_same, fun dx hdx hne => ?_⟩⟩
      have hd1 : H1 dx = none := by rw [upd_ne hne] at hdx; exact hdx
      refine ⟨rfl, dx, [(f, u)], upd_same, by rw [upd_ne hne, upd_same], hd1, ?_⟩
      have eh : upd (L2.del (upd (upd (upd H1 a (exo a (He.ga X.K k) none)) dx (exd dx [(f, u)])) a (exo a (He.ga X.K k) (some dx))) a) dx (.xd [(f, u)]) = upd H1 dx (.xd [(f, u)]) := by
        funext b
        by_cases hb : b = dx
        · rw [hb, upd_same, upd_same]
        · rw [upd_ne hb, upd_ne hb]
          by_cases hb2 : b = a
          · rw [hb2, L2.del_same, ha]
          · rw [L2.del_ne hb2, upd_ne hb2, upd_ne hb, upd_ne hb2]
      rw [eh]
      exact x1 (.exc k f v) S1 _ _ _ (ext_new hd1) (l1.new hd1) ⟨rfl, Tx, dx, u, rfl, upd_same, r1.ext (ext_new hd1)⟩ q
  | .tryk b x i hh, X, c, Ê, p, o, h => by
    cases p <;> first | (unfold chkS at h; cases h; done) | skip
    rename_i pb hs orelse fin pos
    unfold chkS chkTr at h
    split at h
    case h_2 => cases h
    case h_1 y py n p0 ps hp =>
      obtain ⟨h1, h2, h3, h4, h5⟩ := ba5 h
      obtain ⟨h5, h6, h7, h8⟩ := ba4 h5
      obtain rfl : x = y := by simpa using h1
      obtain ⟨j, room, pr⟩ := o.toOk.pr
      obtain ⟨at_, no⟩ := pr.exn x (by simpa using h4)
      have hi : X.N[i]? = some n := by simpa using h5
      have ln := loc'_of o.toOk h6
      have okT : ∀ (W : WX) (pn : List (Addr × Obj)) (xe : Value → Shared → Prop), Takes (X.tr pn xe) W → Ok (X.tr pn xe) C (fun τ cls d H => W cls d τ H) c fr fl := fun W pn xe tk =>
        ⟨o.toOk.sc, o.toOk.fb, o.toOk.nd, o.toOk.calm, o.toOk.guards, fun τ => passAt tk τ, o.toOk.pr, o.toOk.code, o.toOk.tabs, o.toOk.cb⟩
      refine (ps_try_k o.stk o.frm o.toOk.nd hi ln ⟨o.toOk.gl h2, nb h3, .inl at_⟩ (tb := fun W => LSt X.K (fun τ cls d H => W cls d τ H) (wTb C b)) (ts := LSt X.K E00 (wHs C i hh))
        (fun W pn xe tk _ => sTb b (okT W pn xe tk) h7)
        (fun a pn => sHs (X := X.suite a pn) (i := i) (c := c) (fr := fr) o.toOk.nd (fun x hx => o.toOk.vis hx) (fun x hx => loc'_of o.toOk hx) (fun x hx => o.toOk.gl hx) (fun x hx => o.toOk.free hx) (by have := room.un; show X.A.units + 200 < cLine; omega) o.toOk.guards pr.sysm hh h8)).imp fun Dh τ H ⟨σ, S, D, hs, hl, hw, d⟩ => ?_
      refine ⟨σ, S, _, hs, hl, hw, ⟨d.nx, d.rt, d.bk, d.ct, ?_⟩⟩
      rintro w S' cls d' H' e l rx ⟨k, f, v, rfl, hx, q⟩
      obtain ⟨rfl, T, dd, y, rfl, ed, ry⟩ := rx
      refine ⟨by rcases hx with rfl | rfl; exact T.m1; exact T.m2, _, dd, rfl, rfl, fun a ha => ?_⟩
      have e2 : Ext H' S' (upd H' a (exk a (He.ga X.K k) dd)) S' := ext_new ha
      have hd : dd ≠ a := fun z => by rw [z, ha] at ed; cases ed
      have Sa : S' a = none := l.fresh ha
      have Sd : S' dd = none := by
        cases q : S' dd with
        | none => rfl
        | some so =>
          obtain ⟨u, z1, z2⟩ := l.at_ dd so q
          rw [ed] at z1
          cases z1
          cases so with
          | lst _ => obtain ⟨_, z, _⟩ := z2; cases z
          | dct _ _ => obtain ⟨_, z, _⟩ := z2; cases z
          | ins _ _ _ => obtain ⟨_, _, z, _⟩ := z2; cases z
          | clo _ => obtain ⟨_, _, z, _⟩ := z2; cases z
      have rw_ : RW X.K (upd H' a (exk a (He.ga X.K k) dd)) S' (.exc k f v) (.ref a) := by
        unfold RW
        exact ⟨T, a, dd, y, rfl, Sa, Sd, .inl upd_same, by rw [upd_ne hd]; exact ed, ry.ext e2⟩
      have d2 := d.ext (e.trans e2)
      exact ⟨_, S', _, ((hs.ext (e.trans e2)).set i rw_), l.new ha, q, ⟨fun σ' S2 τ' H2 e3 l3 s3 q3 => d2.nx _ _ _ _ e3 l3 (s3.clr i none) q3, d2.rt, fun _ _ _ _ _ _ _ q3 => q3.elim, fun _ _ _ _ _ _ _ q3 => q3.elim, .none⟩⟩
  | .setf i k f e, X, c, Ê, p, o, h => by
    cases p <;> first | (unfold chkS at h; cases h; done) | skip
    rename_i tgs pe pos
    match tgs, h with
    | [], h => unfold chkS at h; cases h
    | [.Attribute (.Name x p) g ap], h =>
      unfold chkS at h
      obtain ⟨h1, h2, h3, h4, h5⟩ := ba5 h
      obtain ⟨h5, h6, h7, h8⟩ := ba4 h5
      obtain rfl : f = g := by simpa using h5
      obtain ⟨j, _, pr⟩ := o.toOk.pr
      obtain ⟨cl, na⟩ := pr.atr (k, f) (by simpa using h6)
      refine (ps_fld (pe_var (by simpa using h1) (o.toOk.vis h2) (nb h3) (nb h4)) (sE e o.toOk h7).1 (by cases pe <;> rfl)).imp fun Dh τ H ⟨σ, S, D, hs, hl, hw, d⟩ => ?_
      exact LE.mk hs hl d.ex hw fun v S1 u H1 e1 l1 s1 x1 r1 ⟨p, ep, fs, ws, eS, nf, hlen, q⟩ => by
        obtain ⟨v', z1, z2⟩ := s1.2 i _ ep
        obtain rfl : v' = V.ref p := by unfold RW at z2; exact z2
        obtain ⟨o', y1, dx, kvs, rfl, rfl, y2⟩ := l1.at_ p _ eS
        refine ⟨_, z1, p, _, dx, kvs, rfl, y1, cl, na, by simpa using hlen, ?_⟩
        rw [putF_new nf]
        have e2 : Ext H1 S1 (upd H1 p (.ins (He.ga X.K k) dx (kvs ++ [(f, u)]))) (S1.set p (.ins k (kvs.map (·.1) ++ [f]) (ws ++ [v]))) := ext_chg eS
        exact d.nx _ _ _ _ (e1.trans e2) (l1.put e2 ⟨dx, _, rfl, by simp, by rw [List.map_append]; exact y2.append (.cons r1 .nil)⟩) (s1.ext e2) q
  | .aug i op e, X, c, Ê, p, o, h => by
    cases p <;> first | (unfold chkS at h; cases h; done) | skip
    rename_i tg pop pe pos
    cases tg <;> first | (unfold chkS at h; cases h; done) | skip
    rename_i nm np
    unfold chkS at h
    obtain ⟨h1, h2, h3, h4, h5⟩ := ba5 h
    obtain rfl := opb h3
    obtain ⟨hl, hf⟩ := o.toOk.loc h2
    have hN : X.N[i]? = some nm := by simpa using h1
    clear h
    have red : ∀ (f : Int → Int → Int) (hf : ∀ x y r, augW op x y = some r → ∃ a b, x = .int a ∧ y = .int b ∧ r = .int (f a b)) (Dh : Ends) (τ : L2.St) (H : Hp), LS X.K Ê (wS C (.aug i op e)) Dh τ H → tAug i (LE X.K (kE Ê) (wE C e)) (ipI f) Dh τ H := fun f hf Dh τ H ⟨σ, S, D, hs, hl, ⟨x, hx, hw⟩, d⟩ => by
      obtain ⟨v, hv, rv⟩ := hs.2 i x hx
      refine ⟨v, hv, LE.mk hs hl d.ex hw fun y S1 u H1 e1 l1 s1 x1 r1 ⟨r, er, q⟩ => ?_⟩
      obtain ⟨a, b, rfl, rfl, rfl⟩ := hf _ _ _ er
      obtain rfl := rv.int_
      obtain rfl := r1.int_
      exact ⟨a, b, rfl, rfl, d.nx _ _ _ _ e1 l1 (s1.set i .i) q⟩
    cases op <;> first | (cases h4; done) | skip
    · exact (ps_aug o.nd hN hl (sE e o.toOk h5).1 ip_add hf).imp (red _ fun x y r er => by
        cases x <;> cases y <;> first | (cases er; done) | (cases er; exact ⟨_, _, rfl, rfl, rfl⟩))
    · exact (ps_aug o.nd hN hl (sE e o.toOk h5).1 ip_sub hf).imp (red _ fun x y r er => by
        cases x <;> cases y <;> first | (cases er; done) | (cases er; exact ⟨_, _, rfl, rfl, rfl⟩))
  | .expr e, X, c, Ê, p, o, h => by
    cases p <;> first | (unfold chkS at h; cases h; done) | skip
    unfold chkS at h
    obtain ⟨h1, h2⟩ := ba2 h
    exact (ps_expr (sE e o.toOk h1).1 (swap_of (nb h2))).imp fun Dh τ H ⟨σ, S, D, hs, hl, hw, d⟩ => LE.mk hs hl d.ex hw fun x S1 v H1 e1 l1 s1 x1 r1 q => d.nx _ _ _ _ e1 l1 s1 q
  | .ret e, X, c, Ê, p, o, h => by
    cases p <;> first | (unfold chkS at h; cases h; done) | skip
    rename_i pe pos
    cases pe with
    | none => unfold chkS at h; cases h
    | some pe =>
      unfold chkS at h
      exact (ps_ret (sE e o.toOk h).1).imp fun Dh τ H ⟨σ, S, D, hs, hl, hw, d⟩ => LE.mk hs hl d.ex hw fun x S1 v H1 e1 l1 s1 x1 r1 q => d.rt _ _ _ _ e1 l1 r1 q
  | .iff t a b, X, c, Ê, p, o, h => by
    cases p <;> first | (unfold chkS at h; cases h; done) | skip
    unfold chkS at h
    obtain ⟨h1, h2, h3⟩ := ba3 h
    exact (ps_if (sV t o.toOk h1).1 (sSs a o h2) (sSs b o h3)).imp fun Dh τ H ⟨σ, S, D, hs, hl, hw, d⟩ => LT.mk hs hl d.ex hw fun r S1 H1 e1 l1 s1 x1 q => by
      cases r with
      | true => exact ⟨σ, S1, D, s1, l1, q, d.ext e1⟩
      | false => exact ⟨σ, S1, D, s1, l1, q, d.ext e1⟩
  | .forr t it b, X, c, Ê, p, o, h => by
    cases p <;> first | (unfold chkS at h; cases h; done) | skip
    rename_i tg iter pb orelse pos
    cases orelse with
    | cons a b => unfold chkS at h; cases h
    | nil =>
      unfold chkS at h
      obtain ⟨h1, h2, h3⟩ := ba3 h
      exact (ps_for o.own o.calm (sI it (Ê := kE Ê) o.toOk h1) (sT o.toOk t tg h2) (sSs b o h3) (fold_of (plain_I h1))).imp fun Dh τ H q => for_red q
  | .whil t b, X, c, Ê, p, o, h => by
    cases p <;> first | (unfold chkS at h; cases h; done) | skip
    rename_i pt pb orelse pos
    cases orelse with
    | cons a b => unfold chkS at h; cases h
    | nil =>
      unfold chkS at h
      obtain ⟨h1, h2⟩ := ba2 h
      exact (ps_while o.own (sV t o.toOk h1).1 (sSs b o h2)).imp fun Dh τ H q => while_red q
  | .pass, X, c, Ê, p, o, h => by
    cases p <;> first | (unfold chkS at h; cases h; done) | skip
    exact ps_pass.imp fun Dh τ H ⟨σ, S, D, hs, hl, hw, d⟩ => d.nx _ _ _ _ .refl hl hs hw
  | .brk, X, c, Ê, p, o, h => by
    cases p <;> first | (unfold chkS at h; cases h; done) | skip
    exact ps_break.imp fun Dh τ H ⟨σ, S, D, hs, hl, hw, d⟩ => d.bk _ _ _ _ .refl hl hs hw
  | .cont, X, c, Ê, p, o, h => by
    cases p <;> first | (unfold chkS at h; cases h; done) | skip
    exact ps_continue.imp fun Dh τ H ⟨σ, S, D, hs, hl, hw, d⟩ => d.ct _ _ _ _ .refl hl hs hw
theorem sSs : ∀ (s : PD.Sts) {X : Cx} {c : Sc} {Ê : XK} {ps : List Stmt}, OkS X C Ê c fr fl → chkSs fr fl X.N s c ps = true → PSs X ps (LS X.K Ê (wSs C s))
  | .nil, X, c, Ê, ps, o, h => by
    cases ps with
    | nil => exact pss_nil.imp fun Dh τ H ⟨σ, S, D, hs, hl, hw, d⟩ => d.nx _ _ _ _ .refl hl hs hw
    | cons p ps => unfold chkSs at h; cases h
  | .cons s r, X, c, Ê, ps, o, h => by
    cases ps with
    | nil => unfold chkSs at h; cases h
    | cons p ps =>
      unfold chkSs at h
      obtain ⟨h1, h2⟩ := ba2 h
      exact (pss_cons (sS s o h1) (sSs r o h2)).imp fun Dh τ H ⟨σ, S, D, hs, hl, hw, d⟩ =>
        ⟨σ, S, _, hs, hl, hw, fun σ' S' τ' H' e l s q => ⟨σ', S', D, s, l, q, d.ext e⟩, d.rt, d.bk, d.ct, d.ex⟩
  | .fz i r, X, c, Ê, ps, o, h => by
    have h' : chkSs fr fl X.N r c ps = true := by unfold chkSs at h; exact h
    exact (sSs r o h').imp fun Dh τ H ⟨σ, S, D, hs, hl, ⟨p, ep, hi, q⟩, d⟩ => by
      obtain ⟨v, hv, rv⟩ := hs.2 i _ ep
      obtain rfl : v = V.ref p := by unfold RW at rv; exact rv
      have hset : τ.set i (some (V.ref p)) = τ := by
        refine List.ext_getElem? fun j => ?_
        by_cases e : i = j
        · subst e
          rw [List.getElem?_set_self (by rw [← hs.1]; exact hi), hv]
        · rw [List.getElem?_set_ne e]
      rcases q with ⟨xs, e, q⟩ | ⟨ks, ws, e, q⟩
      · have z := (hs.ext (ext_del (nclo_of e))).set i (RW.frozen hl e)
        rw [hset] at z
        exact ⟨_, _, D, z, hl.del p (nclo_of e), q, d.ext (ext_del (nclo_of e))⟩
      · have z := (hs.ext (ext_del (nclo_of e))).set i (RW.frozenD hl e)
        rw [hset] at z
        exact ⟨_, _, D, z, hl.del p (nclo_of e), q, d.ext (ext_del (nclo_of e))⟩
end
end
end PD

set_option Elab.async false
set_option linter.all false
set_option maxRecDepth 100000
set_option maxHeartbeats 4000000
namespace PD
open PySem PySem.Spec PyProof.Rows L2
/-! ## own exceptions: what is seen of the text -/
/-- the form of an __init__ that says NewError.__init__(self, ..) and keeps its one argument -/
def initB (f x : Str) : List Stmt → Bool
  | [.Expr (.Call (.Attribute (.Name a _) b ap) [.Name c _, .Constant (.str _) _ _] [] cp) _, .Assign [.Attribute (.Name d _) g _] (.Name y _) _] => decide (a = "NewError") && decide (b = "__init__") && decide (c = "self") && decide (d = "self") && (decide (g = f) && decide (y = x) && (ap.endLine == cp.line))
  | _ => false
section
variable {X : Cx} {e : Expr} {es : List Expr} {ta : TA} {p1 p2 pos : Pos}
theorem pe_neinit2 (N : NeC X.K X.mg) (hg : Gl X "NewError") (ha : PA X (e :: es) ta) (hfew : ((backTo pos (starEach (e :: es) X.env)).all (fun x => !x.1) && (backToKw pos (keywordEach [] X.env)).all (fun x => x.1.isSome)
      && decide ((e :: es).length + ([] : List Keyword).length + (if ([] : List Keyword).isEmpty then 0 else 1) < 30)) = true) (hline : (p2.endLine == pos.line) = true)
    (he : starEach (e :: es) X.env = (false, eval e X.env) :: starEach es X.env) (hpl : (backTo pos (starEach es X.env)).any (·.1) = false) :
    PE X (.Call (.Attribute (.Name "NewError" p1) "__init__" p2) (e :: es) [] pos) (tVeI X.K ta) := by
  refine ⟨fun pins s σ H Q I h => ?_⟩
  rw [arm_eval_Call, base_of (n := "__init__") (p := .Name "NewError" p1) rfl]
  refine wpAny_bind (ld_glob I hg N.at_ ?_ (by decide))
  refine wpAny_bind (wpAny_standAt ?_)
  have hform : methodCallForm ((e :: es).length + ([] : List Keyword).length) (backTo pos (starEach (e :: es) X.env)) (backToKw pos (keywordEach [] X.env)) = true := hfew
  have hpos : methodCallPos true (.Name "NewError" p1) X.env p2 pos = pure pos := by unfold methodCallPos; simp [hline]
  unfold methodCall
  rw [hform]
  refine wpAny_bind (wpAny_holding ?_)
  unfold calleeOf
  rw [if_pos rfl]
  refine PySem.W.method_cls I.kIn N.ga (PySem.W.cls_value I.kIn N.rd N.it (by decide +kernel) ?_)
  refine wpAny_bind (wpAny_of_eq hpos ?_)
  show wpAny _ _ (callWith pos (Value.builtin "ValueError.__init__") [] (backTo pos (starEach (e :: es) X.env)) []) _ _ _
  refine PyProof.Rows.callWith_method1 (thn (ha.run pos pins _ σ H _ (I.tok _) h) fun us s1 ⟨vs, H1, I1, r1, a, C, ws, ev, hl, T, ea, q⟩ => ?_) he hpl
  subst ev
  cases r1 with
  | @cons _ u0 _ ur ra rw' =>
    obtain rfl : u0 = Value.ref a := ra
    have hlen : ur.length ≤ sizeLine := by
      rw [← Paired.length rw', sizeLine_eq]
      omega
    exact oinit_ok T I1 ea hlen fun s' J => ⟨.non, H1, J, rfl, q⟩
end
structure ExDef (K : PySem.W.Frag) (mg : Str → Option Value) (c f : Str) : Prop where
  ex : ∃ (x qual : Str) (params : Arguments) (body : List Stmt) (scope : Scope) (fI : Addr) (fd : FuncData) (nm : Str), mg c = some (.ref (He.ga K c)) ∧ OexC K (He.ga K c) ∧ ExcX K c f ∧ PySem.W.findIn K (.ref (He.ga K c)) "__init__" = some (some (.ref fI)) ∧
    PySem.W.typeIn K (.ref fI) = some (.type "function") ∧ NeC K mg ∧ FunD K nm qual params body scope [] [] fI fd ∧ FnScope ["self", x] ["self", x] scope ∧ (∀ (s : Shared) (us : List Value), us.length = 2 → BindsTo s fd ⟨us, []⟩ ([("self" : Str), x].zip us)) ∧
    initB f x body = true ∧ scope.names.lookup ("self" : Str) = some .local ∧ scope.names.lookup x = some .local ∧ scope.names.lookup ("NewError" : Str) = some .globalImplicit ∧ (x == ("__debug__" : Str)) = false ∧ (x == ("__classdict__" : Str)) = false
section
variable {P : Program} {w : World} {K : PySem.W.Frag} {mg : Str → Option Value} {base : Heap} {x qual : Str} {params : Arguments} {body : List Stmt} {scope : Scope} {dvs : List V} {kws : List (Str × V)} {f : Addr} {fd : FuncData}
theorem okG {N ps : List Str} {k : Nat} {sp : Sp} (F : FunD K x qual params body scope dvs kws f fd) (sc : FnScope N ps scope) (len : ∀ vs H Q E, sp vs H Q E → vs.length = ps.length)
    (hb : ∀ (cdv : Value) (A : Around) (outer : List Env) (s : Shared) (H : Hp) (vs : List V) (Q : VK) (E : XK), (∀ p : He.Defn, He.fAd K p = f → cdv = .ref (He.cT K p).1) → Room k (A.deeper (envOfC qual scope s.heap.objs.size f cdv)) → A.guards = some [] → sp vs H Q E →
      ∃ t, PSs (cxOf (L2.CX P w) P w K mg base N qual scope f cdv A outer s H E) body t ∧ t ⟨fun _ H' => Q .non H', Q, fun _ _ => False, fun _ _ => False⟩ (L2.start N vs) H) : FG P w K mg base (k + 1) f fd ps sp where
  len := len
  run := fun A outer s H args us vs Q E room gd env bt rv want => by
    obtain ⟨oc, od, dV, kV, doc, pm, an, cdv, ct, osl, rfl, lk, hcd, _, _⟩ := F.ex
    have lv := len _ _ _ _ want
    have inK : K.In s.heap := env.mod.kin.keeps fun b o e => (env.bs b o e).1
    have unlimited := env.mod.nolimit.keeps fun b o e => (env.bs b o e).1
    have kinds : ∀ p ∈ ps.zip us, scope.names.lookup p.1 = some .local ∨ (scope.names.lookup p.1 = some .cell ∧
        ((cellsFrom (s.heap.objs.size + 1) scope.names []).lookup p.1).isSome = true) := fun p hp => by
      have hm : p.1 ∈ ps := (List.of_mem_zip (show (p.1, p.2) ∈ ps.zip us from hp)).1
      exact (sc.par p.1 hm).elim Or.inl fun q => Or.inr ⟨q, PySem.W.cellsFrom_some _ _ _ (Or.inl q)⟩
    apply codeAny_call_function room.depth (inK _ _ lk) rfl sc.co sc.gen rfl
    · exact PySem.W.codeRec_of inK hcd
    · apply bt
      apply wpAny_newFunctionEnv_cells sc.kind kinds
      intro e he s1 hin
      subst he
      refine ⟨unlimited.keeps hin.toInCall.keep, ?_⟩
      apply codeAny_func
      obtain ⟨cc, ecc⟩ := He.codeIn_ref hcd
      obtain ⟨t, ht, hq⟩ := hb cdv A outer s H vs Q E (fun p hp => by
        have z : He.codeOf K p = cc := He.codeOf_eq (by rw [hp]; exact lk) ecc
        rw [ecc]
        show Value.ref cc = .ref (He.codeOf K p)
        rw [z]) (room.deeper _) gd want
      refine wpAny_mono (ht.run [] s1 (L2.start N vs) H _ (inv_start sc room.hd env lv rv hin) hq) (fun fl s' out => ?_) fun _ _ z => z
      have fin : ∀ {σ' : L2.St} {H' : Hp} {v : V} {u : Value}, Inv (cxOf (L2.CX P w) P w K mg base N qual scope f cdv A outer s H E) [] σ' H' s' → RelV v u → Q v H' →
          CE outer P w H s Q u s' := fun {σ' H' v u} J r q => ⟨v, H', J.os, J.bare, J.base, J.hok, r, q⟩
      match fl, out with
      | .ret u, ⟨v, σ', H', J, r, q⟩ => exact fin J r q
      | .next, ⟨σ', H', J, q⟩ => exact fin (v := .non) (u := .none) J rfl q
      | .brk, ⟨_, _, _, q⟩ => exact q.elim
      | .cont, ⟨_, _, _, q⟩ => exact q.elim
theorem atx_of {c g : Str} (D : ExDef K mg c g) (k : Nat) : AtX P w K mg base (k + 2) c g := by
  obtain ⟨x, qual, params, body, scope, fI, fd, nm, h1, T, Tx, iC, tI, N, F, sc, bt, ib, ls, lx, ln, d1, d2⟩ := D.ex
  refine ⟨⟨fI, fd, ["self", x], k + 1, h1, T, Tx, iC, tI, fun s us _ hl => by rw [List.append_nil] at hl ⊢; exact bt s us hl, rfl, okG F sc (fun vs H Q E ⟨a, y, e, _⟩ => by rw [e]; rfl) fun cdv A outer s H vs Q E _ room gd want => ?_⟩⟩
  unfold initB at ib
  split at ib
  · rename_i a p1 b p2 c2 p3 txt j p4 pos1 pos2 d p5 g2 p6 y p7 pos3
    obtain ⟨q1, q2, q3, q4, q5⟩ := ba5 ib
    obtain ⟨q5, q6, q7⟩ := ba3 q5
    obtain rfl : a = "NewError" := by simpa using q1
    obtain rfl : b = "__init__" := by simpa using q2
    obtain rfl : c2 = "self" := by simpa using q3
    obtain rfl : d = "self" := by simpa using q4
    obtain rfl : g2 = g := by simpa using q5
    obtain rfl : y = x := by simpa using q6
    have pself : ∀ {pp : Pos}, PE (cxOf (L2.CX P w) P w K mg base ["self", y] qual scope fI cdv A outer s H E) (.Name "self" pp) _ := fun {pp} => pe_var (i := 0) rfl (.inl ls) (by decide) (by decide)
    have px : ∀ {pp : Pos}, PE (cxOf (L2.CX P w) P w K mg base ["self", y] qual scope fI cdv A outer s H E) (.Name y pp) _ := fun {pp} => pe_var (i := 1) rfl (.inl lx) d1 d2
    refine ⟨_, pss_cons (ps_expr (pe_neinit2 N ln (pa_cons pself (pa_cons pe_str pa_nil rfl) rfl) rfl q7 rfl rfl) rfl) (pss_cons (ps_ost pself px rfl) pss_nil), ?_⟩
    obtain ⟨a, v, rfl, ea, hq⟩ := want
    exact ⟨_, rfl, a, _, _, rfl, by simp, T, ea, ⟨_, rfl, ⟨_, rfl, a, _, rfl, T, Tx.no, .inl ⟨ea, fun dx h1 h2 => hq dx h1 h2⟩⟩⟩⟩
  · cases ib
end
/-! ## what is seen of the classes -/
def oexB (K : PySem.W.Frag) (C : Addr) : Bool := match K.lookup C with
  | some ⟨.type "type", _, .cls cd, sl⟩ => (match cd.mro, sl.toList with
    | .ref C' :: bm, [_, _, _, _, some (.builtin n), _] => C' == C && n == "ValueError.__new__" && !cd.hasDel && cd.hasDict && PySem.HandSPX.refsVE bm
    | _, _ => false)
  | _ => false
theorem oexB_of {K : PySem.W.Frag} {C : Addr} (q : oexB K C = true) : ∃ nm qn N bs bm sn sub ab col dd k0 k1 k2 k3 k5, K.lookup C = some (excClassObj nm qn C N bs bm true sn sub ab col dd k0 k1 k2 k3 k5 "ValueError.__new__") ∧ PySem.HandSPX.refsVE bm = true := by
  unfold oexB at q
  split at q
  · rename_i dd cd sl ho
    split at q
    · rename_i C' bm k0 k1 k2 k3 n k5 hm hs
      simp only [Bool.and_eq_true, beq_iff_eq, Bool.not_eq_true'] at q
      obtain ⟨⟨⟨⟨rfl, rfl⟩, hdel⟩, hdc⟩, ht⟩ := q
      obtain ⟨nm, bs, mro, ns, qn, hd, sn, sub, ab, col, del⟩ := cd
      dsimp only at hm hdel hdc
      subst hm hdel hdc
      have hsl : sl = #[k0, k1, k2, k3, some (.builtin "ValueError.__new__"), k5] := by
        obtain ⟨l⟩ := sl
        simp only at hs
        rw [hs]
      subst hsl
      exact ⟨nm, qn, ns, bs, bm, sn, sub, ab, col, dd, k0, k1, k2, k3, k5, ho, ht⟩
    · cases q
  · cases q
/-- all that is asked of an own exception class, with its field -/
def exB (K : PySem.W.Frag) (c f : Str) : Bool := let C := He.ga K c
  (xfB K C && decide (PySem.W.findIn K (.ref C) f = some none) && decide (PySem.W.findIn K (.ref C) "__class__" = some (some (.builtin "object.__class__"))) && decide (PySem.W.specialIn K (.builtin "object.__class__") "__get__" = some (some (.builtin "getset_descriptor.__get__"))) &&
    decide (PySem.W.takesIn K (.builtin "object.__class__") = some true)) && (decide (PySem.W.mroIn K C (.type "object") = some true) && decide (PySem.W.exmOne K (.ref C) (.ref C) = some true) && decide (PySem.W.exmOne K (.ref C) (.ref (He.ga K "NewError")) = some true) &&
    decide (PySem.W.kitOne K (.ref C) (.ref C) = some true) && decide (PySem.W.kitOne K (.ref C) (.ref (He.ga K "NewError")) = some true)) && (oexB K C && decide (PySem.W.findIn K (.ref C) "__setattr__" = some (some (.builtin "object.__setattr__"))) &&
    decide (PySem.W.typeIn K (.ref C) = some (.type "type")) && PySem.W.keepIn K (.ref C) && decide (PySem.W.nsIn K mainGlobals c = some (some (.ref C)))) && (decide (PySem.W.findIn K (.ref C) "__init__" = some (some (.ref (He.ma K C "__init__")))) && decide (PySem.W.typeIn K (.ref (He.ma K C "__init__")) = some (.type "function")))
/-- .. of the class NewError -/
def neB (K : PySem.W.Frag) : Bool := let C := He.ga K "NewError"
  decide (PySem.W.nsIn K mainGlobals "NewError" = some (some (.ref C))) && decide (PySem.W.specialIn K (.ref C) "__getattribute__" = some (some (.builtin "type.__getattribute__"))) && PySem.W.readsIn K C (.type "type") &&
    (match PySem.W.findCls K (.ref C) (.type "type") "__init__" with | some (.val v) => decide (v = .builtin "ValueError.__init__") | _ => false) && decide (PySem.W.kitOne K (.type "NoneType") (.ref C) = some false)
section
variable {K : PySem.W.Frag} {h : Heap} {mg : Str → Option Value} {c f : Str}
theorem exB_ok (X : K.In h) (G : h.Ns mainGlobals mg) (q : exB K c f = true) : mg c = some (.ref (He.ga K c)) ∧ OexC K (He.ga K c) ∧ ExcX K c f ∧ PySem.W.findIn K (.ref (He.ga K c)) "__init__" = some (some (.ref (He.ma K (He.ga K c) "__init__"))) ∧ PySem.W.typeIn K (.ref (He.ma K (He.ga K c) "__init__")) = some (.type "function") := by
  obtain ⟨q1, q2, q3, q4⟩ := ba4 (show (_ && _ && _ && _) = true from q)
  obtain ⟨a1, a2, a3, a4, a5⟩ := ba5 q1
  obtain ⟨b1, b2, b3, b4, b5⟩ := ba5 q2
  obtain ⟨c1, c2, c3, c4, c5⟩ := ba5 q3
  obtain ⟨d1, d2⟩ := ba2 q4
  have xf := xfB_ok a1
  exact ⟨PySem.W.mg_of X G (of_decide_eq_true c5), ⟨oexB_of c1, of_decide_eq_true c2, xf.exC, of_decide_eq_true c3, c4⟩,
    ⟨xf, of_decide_eq_true a2, ⟨xf.ga, xf.gg, xf.exC, xf.hdC, of_decide_eq_true a3, of_decide_eq_true a4, of_decide_eq_true a5, of_decide_eq_true b1⟩, of_decide_eq_true b2, of_decide_eq_true b3, of_decide_eq_true b4, of_decide_eq_true b5⟩, of_decide_eq_true d1, of_decide_eq_true d2⟩
theorem neB_ok (X : K.In h) (G : h.Ns mainGlobals mg) (q : neB K = true) : NeC K mg ∧ PySem.W.kitOne K (.type "NoneType") (.ref (He.ga K "NewError")) = some false := by
  obtain ⟨a1, a2, a3, a4, a5⟩ := ba5 (show (_ && _ && _ && _ && _) = true from q)
  refine ⟨⟨PySem.W.mg_of X G (of_decide_eq_true a1), of_decide_eq_true a2, a3, ?_⟩, of_decide_eq_true a5⟩
  split at a4
  · rename_i v e
    rw [e, of_decide_eq_true a4]
  · cases a4
end
end PD

set_option Elab.async false
set_option linter.all false
set_option maxRecDepth 100000
set_option maxHeartbeats 4000000
namespace PD
open PySem PySem.Spec PyProof.Rows L2

/-! ## the table -/
structure Fd where
  name : Str
  N : List Str
  ps : List Str
  body : Sts
  /-- a method: its class, its name there -/
  cls : Option (Str × Str) := none
  /-- a class whose instances are changed -/
  mu : Bool := false
  /-- a def that makes functions -/
  mf : Option (He.Defn × Str) := none
  /-- a function within a def: its parameters are its own and what it captures -/
  clo : Bool := false
def startS (N : List Str) (ws : List W) : Sl := ws.map some ++ List.replicate (N.length - ws.length) none
def callF (C : Cn) (F : Fd) (ws : List W) (S : Sto) (Q X : QW) : Prop := ws.length = F.ps.length ∧ wSs C F.body { nx := fun _ S' => Q .non S', rt := Q, ex := X } (startS F.N ws) S
def find (T : List Fd) (f : Str) : Option Fd := T.find? fun F => F.name == f
/-- a class's __init__, by its name in the table -/
def initN (T : List Fd) (c : Str) : Option Str := (T.find? fun F => F.cls == some (c, ("__init__" : Str))).map (·.name)
def callK (T : List Fd) (G : Str → Option W) : Nat → Str → List W → Sto → QW → QW → Prop
  | 0, _, _, _, _, _ => False
  | k + 1, f, ws, S, Q, X => (∃ F, find T f = some F ∧ callF ⟨callK T G k, G⟩ F ws S Q X) ∨ (find T f = none ∧ ∃ n F, initN T f = some n ∧ find T n = some F ∧ mkW f F.mu (callK T G k n) ws S Q X)
/-- how a def stands -/
def Stand (K : PySem.W.Frag) (mg : Str → Option Value) (F : Fd) (a : Addr) : Prop := match F.cls with
  | none => mg F.name = some (.ref a) ∧ PySem.W.keepIn K (.ref a) = true
  | some (c, m) => Cls K (He.ga K c) ∧ Meth K (He.ga K c) m a ∧ (m = ("__init__" : Str) → Mk K (He.ga K c) a ∧ mg c = some (.ref (He.ga K c)))
/-- a def of the text, with its own form -/
structure Def (P : Program) (K : PySem.W.Frag) (mg : Str → Option Value) (fr : List Str) (fl : Fl) (F : Fd) : Prop where
  ex : ∃ (x qual : Str) (params : Arguments) (body : List Stmt) (scope : Scope) (f : Addr) (fd : FuncData), FunD K x qual params body scope [] [] f fd ∧ Stand K mg F f ∧ FnScope F.N F.ps scope ∧ (∀ (s : Shared) (us : List Value), us.length = F.ps.length → BindsTo s fd ⟨us, []⟩ (F.ps.zip us)) ∧
    chkSs fr fl F.N F.body ⟨scope, fun _ => true, F.mf⟩ body = true ∧ ∀ m, F.mf = some m → He.fAd K m.1 = f ∧ m.2 = qual ++ ".<locals>." ∧ m.1 ∈ tfL.map (·.1)
/-- a function within: its form -/
def chkC (fr : List Str) (fl : Fl) (F : Fd) (d : CloD) : Bool := decide (F.ps = d.ps ++ d.fr) && NdefX.nscB F.N d.ps d.fr d.scope && (match d.body, F.body with
  | .expr e, .cons (.ret x) .nil => chkE fr fl F.N x ⟨d.scope, fun _ => false, none⟩ e
  | .stmts b, ss => chkSs fr fl F.N ss ⟨d.scope, fun _ => false, none⟩ b
  | _, _ => false)
structure CDef (fr : List Str) (fl : Fl) (F : Fd) (d : CloD) : Prop where
  chk : chkC fr fl F d = true
  bind : ∀ (cl : List (Str × Addr)) (c : Addr) (pm doc ctv : Value) (us : List Value), us.length = d.ps.length → bindArgs (fdOf d cl (.ref c) pm doc ctv) ⟨us, []⟩ = pure (d.ps.zip us)
/-- what is told of is in the table -/
def tabB (T : List Fd) (fl : Fl) : Bool := (fl.fs.all fun f => match find T f with
    | some F => F.cls == none && F.clo == false
    | none => (match initN T f with
      | some n => (match find T n with
        | some F => F.cls == some (f, ("__init__" : Str)) && F.clo == false
        | none => false)
      | none => false)) && (fl.met.all fun e => match find T e.2.2 with
    | some F => F.cls == some (e.1, e.2.1) && F.clo == false
    | none => false) && (fl.cfs.all fun f => match find T f with
    | some F => F.cls == none && F.clo == false
    | none => false) && cloL.all fun d => match find T d.f with
    | some F => F.clo
    | none => false
theorem start_sl {K : PySem.W.Frag} {H : Hp} {S : Sto} {N : List Str} {ws : List W} {vs : List V} (r : RWs K H S ws vs) : RSl K H S (startS N ws) (L2.start N vs) := by
  have hl := r.len
  unfold startS L2.start
  refine ⟨by simp [hl], fun i w hi => ?_⟩
  have hi2 : i < ws.length := by
    by_cases h : i < ws.length
    · exact h
    · rw [List.getElem?_append_right (by simpa using h), List.getElem?_replicate] at hi
      split at hi <;> cases hi
  rw [List.getElem?_append_left (by simpa using hi2), List.getElem?_map] at hi
  cases q : ws[i]? with
  | none => rw [q] at hi; cases hi
  | some u =>
    rw [q] at hi; cases hi
    obtain ⟨v, hv, rv⟩ := r.get q
    exact ⟨v, by rw [List.getElem?_append_left (by simp; omega), List.getElem?_map, hv]; rfl, rv⟩
theorem start_two {N : List Str} {vs caps : List V} : NdefX.startF N vs (caps.map some) = L2.start N (vs ++ caps) := by
  unfold NdefX.startF L2.start
  rw [List.map_append, List.append_assoc, List.length_append, List.length_map, Nat.sub_sub]
section
variable {P : Program} {w : World} {K : PySem.W.Frag} {mg : Str → Option Value} {base : Heap} {T : List Fd} {G : Str → Option W} {fr : List Str} {fl : Fl}
/-- what is known of the heap behind the top -/
structure BaseOk (K : PySem.W.Frag) (mg : Str → Option Value) (base : Heap) : Prop where
  sys : ∃ o, base.get? sysModules = some o ∧ o.cls = .type "dict"
  cb : ∀ b o v, base.get? b = some o → o.data ≠ .cell v
  tb : ∀ p ∈ tfL, LamX.TabB base mg (He.cT K p.1).1 (He.cT K p.1).2
  nd : ((tabsK K).map (·.1)).Nodup
theorem all_FG (B : BaseOk K mg base) (hfl : tabB T fl = true) (hatr : ∀ e ∈ fl.atr, Cls K (He.ga K e.1) ∧ NoAttr K (He.ga K e.1) e.2) (hexs : ∀ e ∈ fl.exs, ExDef K mg e.1 e.2) (hexn : ∀ x ∈ fl.exn, AtN K mg x) (heqs : ∀ c ∈ fl.eqs, EqC K mg c) (hfr : ∀ x ∈ fr, mg x = none)
    (hG : ∀ x w, G x = some w → (∃ u v, mg x = some u ∧ RelV v u ∧ ∀ H S, RW K H S w v) ∧ (w = .fnv x → x ∈ fl.fs)) (hT : ∀ f F, find T f = some F → F.name = f ∧ (F.clo = false → Def P K mg fr fl F) ∧ (F.clo = true → ∀ d, findC f = some d → CDef fr fl F d)) :
    ∀ (k : Nat) (f : Str) (F : Fd), find T f = some F → (F.clo = false → ∃ (a : Addr) (fd : FuncData), Stand K mg F a ∧ (∀ (s : Shared) (us : List Value), us.length = F.ps.length → BindsTo s fd ⟨us, []⟩ (F.ps.zip us)) ∧ FG P w K mg base (2 * k + 2) a fd F.ps (lsp K (callK T G k f))) ∧
      (F.clo = true → ∀ d, findC f = some d → CG P w K mg base (2 * k + 2) f d (lsp K (callK T G k f)))
  | 0, f, F, hf => by
    refine ⟨fun hc => ?_, fun hc d hd => ?_⟩
    · obtain ⟨⟨x, qual, params, body, scope, a, fd, h1, h2, h3, h4, h5⟩⟩ := (hT f F hf).2.1 hc
      exact ⟨a, fd, h2, h4, fun vs H Q E ⟨_, _, _, _, _, _, z, _⟩ => z.elim, fun A outer s H args us vs Q E _ _ _ _ _ ⟨_, _, _, _, _, _, z, _⟩ => z.elim⟩
    · exact ⟨fun vs H Q E ⟨_, _, _, _, _, _, z, _⟩ => z.elim, fun A outer s H a c cl us vs caps Q E _ _ _ _ _ _ _ _ ⟨_, _, _, _, _, _, z, _⟩ => z.elim⟩
  | k + 1, f, F, hf => by
    have noCls : ∀ {ws S Q X}, callK T G (k + 1) f ws S Q X → callF ⟨callK T G k, G⟩ F ws S Q X := fun h => by
      rcases h with ⟨F', e, q⟩ | ⟨e, _⟩
      · rw [hf] at e; cases e; exact q
      · rw [hf] at e; cases e
    obtain ⟨hb', hb4⟩ := ba2 hfl
    obtain ⟨hb', hb3⟩ := ba2 hb'
    obtain ⟨hb1, hb2⟩ := ba2 hb'
    have binds : ∀ {F2 : Fd} {fd2 : FuncData}, (∀ (s : Shared) (us : List Value), us.length = F2.ps.length → BindsTo s fd2 ⟨us, []⟩ (F2.ps.zip us)) → Binds K fd2 F2.ps [] := fun i3 s us _ hl => by rw [List.append_nil] at hl ⊢; exact i3 s us hl
    have plain : ∀ {F2 : Fd} {x : Option (Str × Str)}, (F2.cls == x && F2.clo == false) = true → F2.cls = x ∧ F2.clo = false := fun h => by
      obtain ⟨a, b⟩ := ba2 h
      exact ⟨by simpa using a, by simpa using b⟩
    have pr : Pr P w K mg base ⟨callK T G k, G⟩ fr fl (2 * k + 3) := by
      refine ⟨hfr, fun x w e => (hG x w e).1, fun g hg => ?_, fun f e => (hG f _ e).2 rfl, fun e he => ?_, hatr, fun e he => atx_of (hexs e he) (2 * k + 1), hexn, heqs, B.sys, fun g hg => ?_, fun g d hd => ?_⟩
      · have hb := List.all_eq_true.mp hb1 g hg
        cases e2 : find T g with
        | some F2 =>
          rw [e2] at hb
          obtain ⟨hc, hn⟩ := plain hb
          obtain ⟨b, fd2, i1, i3, i4⟩ := (all_FG B hfl hatr hexs hexn heqs hfr hG hT k g F2 e2).1 hn
          have hn2 := (hT g F2 e2).1
          unfold Stand at i1
          rw [hc] at i1
          rw [hn2] at i1
          exact ⟨.inl ⟨b, fd2, F2.ps, i1.1, i1.2, binds i3, i4.mono (by omega)⟩⟩
        | none =>
          rw [e2] at hb
          cases e3 : initN T g with
          | none => rw [e3] at hb; cases hb
          | some n =>
            rw [e3] at hb
            cases e4 : find T n with
            | none => simp [e4] at hb
            | some F2 =>
              obtain ⟨hc, hn⟩ := plain (F2 := F2) (x := some (g, ("__init__" : Str))) (by simpa [e4] using hb)
              cases k with
              | zero =>
                obtain ⟨b, fd2, i1, i3, i4⟩ := (all_FG B hfl hatr hexs hexn heqs hfr hG hT 0 n F2 e4).1 hn
                unfold Stand at i1
                rw [hc] at i1
                obtain ⟨j1, j2, j3⟩ := i1
                obtain ⟨j4, j5⟩ := j3 rfl
                exact ⟨.inr (.inr ⟨_, j5, j4.kp, fun ws S Q X z => z.elim⟩)⟩
              | succ j =>
                obtain ⟨b, fd2, i1, i3, i4⟩ := (all_FG B hfl hatr hexs hexn heqs hfr hG hT j n F2 e4).1 hn
                unfold Stand at i1
                rw [hc] at i1
                obtain ⟨j1, j2, j3⟩ := i1
                obtain ⟨j4, j5⟩ := j3 rfl
                refine ⟨.inr (.inl ⟨b, fd2, F2.ps, 2 * j + 4, F2.mu, callK T G j n, j5, j4, binds i3, rfl, i4.mono (by omega), fun ws S Q X z => ?_⟩)⟩
                rcases z with ⟨F', e, _⟩ | ⟨_, n', F', e5, e6, z⟩
                · rw [e2] at e; cases e
                · rw [e3] at e5; cases e5
                  rw [e4] at e6; cases e6
                  exact z
      · have hb := List.all_eq_true.mp hb2 e he
        cases e2 : find T e.2.2 with
        | none => rw [e2] at hb; cases hb
        | some F2 =>
          rw [e2] at hb
          obtain ⟨hc, hn⟩ := plain hb
          obtain ⟨b, fd2, i1, i3, i4⟩ := (all_FG B hfl hatr hexs hexn heqs hfr hG hT k e.2.2 F2 e2).1 hn
          unfold Stand at i1
          rw [hc] at i1
          exact ⟨⟨b, fd2, F2.ps, 2 * k + 2, i1.1, i1.2.1, binds i3, rfl, i4⟩⟩
      · have hb := List.all_eq_true.mp hb3 g hg
        cases e2 : find T g with
        | none => rw [e2] at hb; cases hb
        | some F2 =>
          rw [e2] at hb
          obtain ⟨hc, hn⟩ := plain hb
          obtain ⟨b, fd2, i1, i3, i4⟩ := (all_FG B hfl hatr hexs hexn heqs hfr hG hT k g F2 e2).1 hn
          have hn2 := (hT g F2 e2).1
          unfold Stand at i1
          rw [hc] at i1
          rw [hn2] at i1
          exact ⟨b, fd2, F2.ps, i1.1, i1.2, binds i3, i4.mono (by omega)⟩
      · have hm := List.mem_of_find?_eq_some hd
        have hdf : d.f = g := by
          have := List.find?_some hd
          simpa using this
        have hb := List.all_eq_true.mp hb4 d hm
        rw [hdf] at hb
        cases e2 : find T g with
        | none => rw [e2] at hb; cases hb
        | some F2 =>
          rw [e2] at hb
          exact ((all_FG B hfl hatr hexs hexn heqs hfr hG hT k g F2 e2).2 hb d hd).mono (by omega)
    refine ⟨fun hc => ?_, fun hc d hd => ?_⟩
    · obtain ⟨⟨x, qual, params, body, scope, a, fd, h1, h2, h3, h4, h5, h6⟩⟩ := (hT f F hf).2.1 hc
      refine ⟨a, fd, h2, h4, okG (k := 2 * k + 3) h1 h3 (fun vs H Q E ⟨ws, S, Q', X, r, l, q, _⟩ => ?_) fun cdv A outer s H vs Q E cde room gd ⟨ws, S, Q', X, r, l, q, fin, xo⟩ => ?_⟩
      · rw [← r.len]; exact (noCls q).1
      · have q := noCls q
        have ok : OkS (cxOf (L2.CX P w) P w K mg base F.N qual scope a cdv A outer s H E) ⟨callK T G k, G⟩ E ⟨scope, fun _ => true, F.mf⟩ fr fl :=
          { sc := rfl, fb := fun _ _ => rfl, nd := h3.nd, calm := rfl, guards := gd, pass := fun τ pins H s e s' I h => passes_call (takes_of rfl rfl rfl rfl) (fun _ _ _ _ h => h) pins τ H s e s' I h, pr := ⟨2 * k + 3, room, pr⟩, own := passes_of rfl, kind := h3.kind, takes := takes_of rfl rfl rfl rfl, stk := rfl, frm := rfl,
            code := fun m hm => by
              obtain ⟨z1, z2, z3⟩ := h6 m hm
              obtain ⟨p, hp, e⟩ := List.mem_map.mp z3
              exact ⟨cde m.1 z1, by rw [← e]; exact B.tb p hp, by rw [z2]; rfl⟩,
            tabs := B.nd, cb := B.cb }
        refine ⟨_, sSs F.body ok h5, startS F.N ws, S, _, start_sl r, l, q.2, ?_⟩
        exact ⟨fun σ' S' τ' H' e l s q => fin _ _ _ _ e l .n q, fun r S' v H' e l rw q => fin _ _ _ _ e l rw q, fun _ _ _ _ _ _ _ q => q.elim, fun _ _ _ _ _ _ _ q => q.elim, xo⟩
    · obtain ⟨chk, bind⟩ := (hT f F hf).2.2 hc d hd
      obtain ⟨chk', c3⟩ := ba2 (show (_ && _) = true from chk)
      obtain ⟨c1, c2⟩ := ba2 chk'
      have eps : F.ps = d.ps ++ d.fr := by simpa using c1
      have S := NdefX.nscope_by c2
      refine cg_of (k := 2 * k + 3) S bind (fun vs H Q E ⟨ws, S, Q', X, r, l, q, _⟩ => ?_) fun A outer s H a c cl vs caps Q E room gd lv lc ⟨ws, Sw, Q', X, r, l, q, fin, xo⟩ => ?_
      · have := (noCls q).1
        rw [← r.len, this, eps, List.length_append]
      · have q := (noCls q).2
        have ok : OkS (NdefX.ncx (L2.CX P w) P w K mg base F.N (nfOf d cl c) a A outer s H E) ⟨callK T G k, G⟩ E ⟨d.scope, fun _ => false, none⟩ fr fl :=
          { sc := rfl, fb := (fun _ h => nomatch h), nd := S.nd, calm := rfl, guards := gd, pass := fun τ pins H s e s' I h => passes_call (takes_of rfl rfl rfl rfl) (fun _ _ _ _ h => h) pins τ H s e s' I h, pr := ⟨2 * k + 3, room, pr⟩, own := passes_of rfl, kind := S.kind, takes := takes_of rfl rfl rfl rfl, stk := rfl, frm := rfl,
            code := (fun m hm => nomatch hm), tabs := B.nd, cb := B.cb }
        rw [start_two]
        generalize hbd : d.body = bd at c3
        cases bd with
        | stmts b =>
          have c3' : chkSs fr fl F.N F.body ⟨d.scope, fun _ => false, none⟩ b = true := c3
          refine ⟨_, sSs F.body ok c3', startS F.N ws, Sw, _, start_sl r, l, q, ?_⟩
          exact ⟨fun σ' S' τ' H' e l s q => fin _ _ _ _ e l .n q, fun r S' v H' e l rw q => fin _ _ _ _ e l rw q, fun _ _ _ _ _ _ _ q => q.elim, fun _ _ _ _ _ _ _ q => q.elim, xo⟩
        | expr e =>
          generalize hfb : F.body = fb at c3 q
          match fb, c3, q with
          | .cons (.ret x) .nil, c3, q =>
            have c3' : chkE fr fl F.N x ⟨d.scope, fun _ => false, none⟩ e = true := c3
            exact ⟨_, (sE x ok.toOk c3').1, startS F.N ws, Sw, _, _, start_sl r, l, q, fun r S' v H' e l rw q => fin _ _ _ _ e l rw q, xo⟩
end
end PD

set_option Elab.async false
set_option linter.all false
set_option maxRecDepth 100000
set_option maxHeartbeats 4000000
namespace PD
open PySem PySem.Spec PyProof.Rows L2

/-! ## the law's own call -/
def noS : Sto := fun _ => none
theorem hid_ns {h : Heap} {H : Hp} {b : Addr} {m : Str → Option Value} (n : h.Ns b m) (k : ∀ (o : Obj) es ep, h.get? b = some o → o.data = .dict es ep → H b = none) : (hidT h H).Ns b m := by
  obtain ⟨o, es, ep, e, d, r⟩ := n
  exact ⟨o, es, ep, hidT_get e (k o es ep e d), d, r⟩
def isCelB (o : Obj) : Bool := match o.data with
  | .cell _ => true
  | _ => false
theorem isCelB_ok {o : Obj} (h : isCelB o = true) : isCellO o := by
  unfold isCelB at h
  split at h
  · rename_i v e; exact ⟨v, e⟩
  · cases h
theorem isCelB_no {o : Obj} {v : Option Value} (h : isCelB o = false) : o.data ≠ .cell v := fun e => by
  unfold isCelB at h
  rw [e] at h
  cases h
/-- all cells of a heap -/
def celsH (h : Heap) : Addr → Option Obj := fun b => match h.get? b with
  | some o => if isCelB o then some o else none
  | none => none
theorem celsH_some {h : Heap} {b : Addr} {o : Obj} (e : celsH h b = some o) : h.get? b = some o ∧ isCelB o = true := by
  unfold celsH at e
  split at e
  · rename_i o' e'
    split at e
    · rename_i z; cases e; exact ⟨e', z⟩
    · cases e
  · cases e
theorem celsH_none {h : Heap} {b : Addr} {o : Obj} (e : h.get? b = some o) (z : isCelB o = false) : celsH h b = none := by
  unfold celsH
  rw [e]
  show (if isCelB o then some o else none) = none
  rw [z]; rfl
theorem celsH_at {h : Heap} {b : Addr} {o : Obj} (e : h.get? b = some o) (z : isCelB o = true) : celsH h b = some o := by
  unfold celsH
  rw [e]
  show (if isCelB o then some o else none) = some o
  rw [z]; rfl
/-- the tables of the text's defs that make functions -/
def csOf (K : PySem.W.Frag) : List (Addr × Addr) := tfL.map fun p => He.cT K p.1
/-- the heap at which the law's def is entered: the script, the tables, the cells -/
def hp0 (K : PySem.W.Frag) (a : Addr) (u : Option HO) : Hp := fun b => if b = a then u else if b ∈ (csOf K).map (·.2) then some (.tbl #[]) else none
theorem law_callG {P : Program} {w : World} {K : PySem.W.Frag} {mg mb : Str → Option Value} {k : Nat} {fa a : Addr} {x : Str} {sp : Sp} {st : Shared} {vs : List Value} {ns : List Int}
    (KX : K.In st.heap) (gm : st.heap.Ns mainGlobals mg) (gb : st.heap.Ns builtinsNs mb) (bb : ∀ y : Str, y ≠ "__name__" → mb y = bootBuiltins y) (nl : st.heap.NoLimit) (gens : st.gens = #[])
    (hT : ∀ p ∈ csOf K, st.heap.get? p.2 = some { cls := .none, data := .fields #[] }) (nT : ∀ p ∈ csOf K, K.lookup p.2 = none) (C : ∀ p ∈ csOf K, PySem.W.codeHdIn K p.1 p.2 = true) (nd : ((tabsK K).map (·.1)).Nodup)
    (nC : ∀ b o, K.lookup b = some o → isCelB o = false)
    (hbm : ∃ (bm : Addr) (ob : Obj), mg "__builtins__" = some (.ref bm) ∧ bm ≠ builtinsNs ∧ st.heap.get? bm = some ob ∧ ob.cls = .type "module" ∧ ob.dict = some builtinsNs ∧ ob.data = .plain)
    (ha : st.heap.get? a = some { cls := .type "list", data := .seq vs.toArray }) (hi : IntsAre vs ns) (hl : ns.length ≤ sizeLine) (room : Room k callerA)
    (hsys : ∃ o, st.heap.get? sysModules = some o ∧ o.cls = .type "dict" ∧ isCelB o = false) (F : ∀ base : Heap, K.In base → base.Ns mainGlobals mg → BaseOk K mg base → ∃ fd, (∀ (s : Shared) (u : Value), BindsTo s fd ⟨[u], []⟩ [(x, u)]) ∧ FG P w K mg base k fa fd [x] sp)
    (hsp : ∀ H : Hp, NdefX.TabsN (tabsK K) H → RdL K H noS a (ns.map V.int) → sp [.ref a] H (fun v H' => v = .bl true ∧ ∀ b o, H b = some (CelO b o) → H' b = some (CelO b o)) fun _ _ _ => False) :
    codeAny (model P w) callerA (.call (.ref fa) ⟨[.ref a], []⟩) (fun r s' => r = .ok (.ret (.bool true)) ∧ OldK st.heap s'.heap ∧ s'.os = st.os ∧ AllBare s'.gens) st := by
  have rv := vals_ints hi
  have lv := hi.length
  have isT : ∀ b : Addr, b ∈ (csOf K).map (·.2) → st.heap.get? b = some { cls := .none, data := .fields #[] } := fun b hb => by
    obtain ⟨p, hp, e⟩ := List.mem_map.mp hb
    rw [← e]
    exact hT p hp
  have aT : a ∉ (csOf K).map (·.2) := fun z => by
    have q := isT a z
    rw [ha] at q
    have z' : Data.seq vs.toArray _ = Data.fields #[] := congrArg Obj.data (Option.some.inj q)
    cases z'
  have memT : ∀ p ∈ csOf K, p.2 ∈ (csOf K).map (·.2) := fun p hp => List.mem_map.mpr ⟨p, hp, rfl⟩
  have main : ∀ u : Option HO, (u = none ∨ ∃ o ys, u = some (.frz o (.lst ys))) → RdL K (trk (hp0 K a u) (celsH st.heap)) noS a (ns.map V.int) → HOk P w (hp0 K a u) st.heap → (u ≠ none → K.lookup a = none) →
      codeAny (model P w) callerA (.call (.ref fa) ⟨[.ref a], []⟩)
        (fun r s' => r = .ok (.ret (.bool true)) ∧ OldK st.heap s'.heap ∧ s'.os = st.os ∧ AllBare s'.gens) st := by
    intro u hu lst ok0 apart
    have celA : celsH st.heap a = none := celsH_none ha rfl
    have celT : ∀ b, b ∈ (csOf K).map (·.2) → celsH st.heap b = none := fun b hb => celsH_none (isT b hb) rfl
    have h0c : ∀ b o, celsH st.heap b = some o → hp0 K a u b = none := fun b o e => by
      have n1 : b ≠ a := fun z => by rw [z, celA] at e; cases e
      have n2 : b ∉ (csOf K).map (·.2) := fun z => by rw [celT b z] at e; cases e
      unfold hp0
      rw [if_neg n1, if_neg n2]
    generalize hH : trk (hp0 K a u) (celsH st.heap) = H at lst
    have ok : HOk P w H st.heap := by rw [← hH]; exact trk_hok ok0 (fun b o e => (celsH_some e).1) h0c
    have HT : ∀ b, b ∈ (csOf K).map (·.2) → H b = some (.tbl #[]) := fun b hb => by
      rw [← hH, trk_none (celT b hb)]
      unfold hp0
      rw [if_neg (fun z => aT (by rw [← z]; exact hb)), if_pos hb]
    have HA : H a = u := by
      rw [← hH, trk_none celA]
      unfold hp0
      rw [if_pos rfl]
    have HC : ∀ b o, st.heap.get? b = some o → isCelB o = true → H b = some (CelO b o) := fun b o e z => by
      rw [← hH]; exact trk_some (celsH_at e z)
    have HN : ∀ b o, st.heap.get? b = some o → b ≠ a → b ∉ (csOf K).map (·.2) → isCelB o = false → H b = none := fun b o e n1 n2 z => by
      rw [← hH, trk_none (celsH_none e z)]
      unfold hp0
      rw [if_neg n1, if_neg n2]
    have noD : ∀ (b : Addr) (o : Obj), st.heap.get? b = some o → (∀ vs n, o.data ≠ .seq vs n) → o.data ≠ .fields #[] → isCelB o = false → H b = none := fun b o e h1 h2 h3 => HN b o e (fun z => by rw [z, ha] at e; cases e; exact h1 _ _ rfl) (fun z => by rw [isT b z] at e; cases e; exact h2 rfl) h3
    have plain : ∀ (b : Addr) (o : Obj) es ep, st.heap.get? b = some o → o.data = .dict es ep → H b = none := fun b o es ep e d => noD b o e (fun vs n z => by rw [d] at z; cases z) (fun z => by rw [d] at z; cases z) (by unfold isCelB; rw [d])
    have kb : K.In (hidT st.heap H) := fun b o e => by
      refine hidT_get (KX b o e) ?_
      by_cases n1 : b = a
      · rw [n1, HA]
        rw [n1] at e
        cases hq : u with
        | none => rfl
        | some v => rw [apart (by rw [hq]; exact fun z => nomatch z)] at e; cases e
      · refine HN b o (KX b o e) n1 (fun z => ?_) (nC b o e)
        obtain ⟨p, hp, ep⟩ := List.mem_map.mp z
        rw [← ep, nT p hp] at e
        cases e
    have gm' := hid_ns gm fun o es ep => plain _ o es ep
    obtain ⟨mc, c1, c2⟩ := nl
    have md : Mod K mg (hidT st.heap H) := ⟨kb, gm', ⟨mb, hid_ns gb fun o es ep => plain _ o es ep, bb⟩, ⟨mc, hid_ns c1 fun o es ep => plain _ o es ep, c2⟩⟩
    have TB : ∀ p ∈ csOf K, LamX.TabB (hidT st.heap H) mg p.1 p.2 := fun p hp => by
      have hTp := hT p hp
      have bmz : mainGlobals ≠ p.2 := fun z => by
        obtain ⟨o, es, ep, e, hd, _⟩ := gm
        rw [z, hTp] at e
        cases e
        cases hd
      refine ⟨PySem.W.codeHd_of_K kb (C p hp), ?_, bmz⟩
      obtain ⟨bm, ob, b1, b2, b3, b4, b5, b6⟩ := hbm
      have nG : bm ≠ mainGlobals := fun q => by
        obtain ⟨o, es, ep, e, hd, _⟩ := gm
        rw [q, e] at b3
        cases b3
        rw [hd] at b6
        cases b6
      have nP : bm ≠ p.2 := fun q => by
        rw [q, hTp] at b3
        cases b3
        cases b6
      exact ⟨bm, ob, b1, b2, nG, nP, hidT_get b3 (noD bm ob b3 (fun vs n z => by rw [b6] at z; cases z) (fun z => by rw [b6] at z; cases z) (by unfold isCelB; rw [b6])), b4, b5, b6⟩
    have bok : BaseOk K mg (hidT st.heap H) := by
      refine ⟨?_, fun b o v e d => ?_, fun p hp => TB _ (List.mem_map.mpr ⟨p, hp, rfl⟩), nd⟩
      · obtain ⟨o, e, c, z⟩ := hsys
        refine ⟨o, hidT_get e (HN _ o e (fun q => ?_) (fun q => ?_) z), c⟩
        · rw [q, ha] at e
          cases e
          injection c with c
          exact absurd c (by decide)
        · rw [isT _ q] at e
          cases e
          cases c
      · obtain ⟨e1, e2⟩ := of_hidT e
        have z : isCelB o = true := by unfold isCelB; rw [d]
        rw [HC b o e1 z] at e2
        cases e2
    have env : Env0 P w K mg (hidT st.heap H) callerA [] st H :=
      { frames := rfl, mod := md, bs := fun b o e => of_hidT e, bsz := Nat.le_of_eq (hidT_size _ _), funs := trivial
        frf := (fun b hb => nomatch hb), hok := ok, bare := .of_eq gens }
    obtain ⟨fd, bt, fg⟩ := F _ kb gm' bok
    have tabs : NdefX.TabsN (tabsK K) H := fun p hp => by
      obtain ⟨q, hq, e⟩ := List.mem_map.mp hp
      have := HT (He.cT K q.1).2 (List.mem_map.mpr ⟨_, List.mem_map.mpr ⟨q, hq, rfl⟩, rfl⟩)
      rw [← e]
      exact NdefX.TabN.nil this
    refine codeAny_mono (fg.run callerA [] st H ⟨[.ref a], []⟩ [.ref a] [.ref a] _ (fun _ _ _ => False) room rfl env (bt st (.ref a)) (Paired.cons rfl Paired.nil) (hsp H tabs lst)) fun r s' out => ?_
    match r, out with
    | .error e, out =>
      obtain ⟨_, _, _, _, _, _, _, _, _, _, _, _, z⟩ := out
      exact z.elim
    | .ok .next, out => exact out.elim
    | .ok .brk, out => exact out.elim
    | .ok .cont, out => exact out.elim
    | .ok (.ret u2), ⟨v, H', eos, bare, un, ok', rel, q⟩ =>
      obtain ⟨q', qc⟩ : v = .bl true ∧ _ := q
      subst q'
      obtain rfl : u2 = Value.bool true := rel
      have key : ∀ b o, b ∉ (csOf K).map (·.2) → st.heap.get? b = some o → s'.heap.get? b = some o := fun b o nb e => by
        cases z : isCelB o with
        | true => exact celO_at ok' (qc b o (HC b o e z))
        | false =>
          by_cases n1 : b = a
          · subst n1
            rcases hu with hu | ⟨ob, ys, hu⟩
            · exact un.keep b o e (by rw [HA, hu]) (fun z => nomatch z) (fun z => nomatch z)
            · have z1 : H b = some (.frz ob (.lst ys)) := by rw [HA, hu]
              have z2 := un.frzs b ob _ z1
              obtain ⟨e1, _⟩ := ok b _ z1
              obtain ⟨e2, _⟩ := ok' b _ z2
              rw [e] at e1; cases e1
              exact e2
          · exact un.keep b o e (HN b o e n1 nb z) (fun z => nomatch z) (fun z => nomatch z)
      have grown : ∀ p ∈ csOf K, ∃ more : Array Value, s'.heap.get? p.2 = some { cls := .none, data := .fields more } := fun p hp => by
        obtain ⟨more, z⟩ := un.tbls p.2 #[] (HT _ (memT p hp))
        exact ⟨_, ok' p.2 _ z⟩
      refine ⟨rfl, ⟨fun b o e => ?_, fun b o e => ?_⟩, eos, bare⟩
      · by_cases hb : b ∈ (csOf K).map (·.2)
        · obtain ⟨p, hp, ep⟩ := List.mem_map.mp hb
          obtain ⟨more, hm⟩ := grown p hp
          rw [← ep] at e ⊢
          rw [hT p hp] at e
          cases e
          exact .inr (.inl ⟨((PySem.W.codeHd_of_K KX (C p hp)).tab (hT p hp)).isCodeTable, rfl, #[], more, rfl, by rw [Array.empty_append]; exact hm⟩)
        · exact .inl (key b o hb e)
      · by_cases hb : b ∈ (csOf K).map (·.2)
        · obtain ⟨p, hp, ep⟩ := List.mem_map.mp hb
          obtain ⟨more, hm⟩ := grown p hp
          rw [← ep]
          exact ⟨_, hm⟩
        · exact ⟨o, key b o hb e⟩
  cases hk : K.lookup a with
  | some o =>
    have e := KX a o hk
    rw [ha] at e
    cases e
    refine main none (.inl rfl) (.inr ⟨_, vs.toArray, _, hk, rfl, rfl, rfl, by rw [List.size_toArray, lv]; exact hl, by simpa using rv⟩) (fun b u z => ?_) fun z => absurd rfl z
    unfold hp0 at z
    split at z
    · cases z
    · split at z
      · rename_i hb; cases z; exact isT b hb
      · cases z
  | none =>
    refine main (some (.frz { cls := .type "list", data := .seq vs.toArray } (.lst (ns.map V.int)))) (.inr ⟨_, _, rfl⟩) (.inl ⟨.inr ⟨{ cls := .type "list", data := .seq vs.toArray }, ?_⟩, rfl⟩) (fun b u z => ?_) fun _ => hk
    · rw [trk_none (celsH_none ha rfl)]
      unfold hp0
      rw [if_pos rfl]
    · unfold hp0 at z
      split at z
      · rename_i hb; cases z; subst hb
        exact ⟨ha, by rw [List.length_map]; exact hl, vs, _, rv, ha⟩
      · split at z
        · rename_i hb; cases z; exact isT b hb
        · cases z
/-- what the law's def must do, told -/
def lawOk (T : List Fd) (G : Str → Option W) (k : Nat) : Prop := ∀ ns : List Int, ns.length ≤ 63 → callK T G k "law" [.lst (ns.map .int)] noS (fun r _ => r = .bl true) fun _ _ => False
theorem rws_ints {K : PySem.W.Frag} {H : Hp} {S : Sto} : ∀ ns : List Int, RWs K H S (ns.map W.int) (ns.map V.int)
  | [] => .nil
  | _ :: ns => .cons .i (rws_ints ns)
/-- what the head tells of the heap -/
structure HeapOk (K : PySem.W.Frag) (h : Heap) : Prop where
  sys : ∃ o, h.get? sysModules = some o ∧ o.cls = .type "dict" ∧ isCelB o = false
  hT : ∀ p ∈ csOf K, h.get? p.2 = some { cls := .none, data := .fields #[] }
  nT : ∀ p ∈ csOf K, K.lookup p.2 = none
  C : ∀ p ∈ csOf K, PySem.W.codeHdIn K p.1 p.2 = true
  nd : ((tabsK K).map (·.1)).Nodup
  nC : ∀ b o, K.lookup b = some o → isCelB o = false
/-- what the head must tell -/
def TableOk (P : Program) (T : List Fd) (G : Str → Option W) (mg : Str → Option Value) (K : PySem.W.Frag) : Prop := ∃ (fr : List Str) (fl : Fl), tabB T fl = true ∧ (∀ e ∈ fl.atr, Cls K (He.ga K e.1) ∧ NoAttr K (He.ga K e.1) e.2) ∧ (∀ e ∈ fl.exs, ExDef K mg e.1 e.2) ∧ (∀ x ∈ fl.exn, AtN K mg x) ∧ (∀ c ∈ fl.eqs, EqC K mg c) ∧ (∀ x ∈ fr, mg x = none) ∧
  (∀ x w, G x = some w → (∃ u v, mg x = some u ∧ RelV v u ∧ ∀ H S, RW K H S w v) ∧ (w = .fnv x → x ∈ fl.fs)) ∧ ∀ f F, find T f = some F → F.name = f ∧ (F.clo = false → Def P K mg fr fl F) ∧ (F.clo = true → ∀ d, findC f = some d → CDef fr fl F d)
theorem walkG {l : PySem.W.OpenLaw} {k : Nat} {q : Program} {loose : List Str} {XP : (Str → Option Value) → Heap → Prop} {YP : World → Heap → Prop} {d : DefRec} {T : List Fd} {G : Str → Option W} {FL : Fd} {x : Str}
    (hn : l.most = some 63) (hdf : d.params.defaults = []) (room : Room (2 * k + 2) callerA) (hd : d.name = "law") (hfl : find T "law" = some FL) (hps : FL.ps = [x]) (hlc : FL.cls = none) (hcl : FL.clo = false)
    (F : ∀ (w : World) (mg : Str → Option Value) (h : Heap), YP w h → h.Ns mainGlobals mg → ∃ K : PySem.W.Frag, K.In h ∧ HeapOk K h ∧ TableOk l.prog T G mg K)
    (ok : lawOk T G k) : PySem.W.WalkO q loose XP YP l.row.toRowW d [] (fun f vs => PySem.call f vs) := by
  refine Att.attach_call hn hdf fun w s₀ s₁ mg mb fa o pm cd doc a vs ns Gr Y ho hdt hcd hmg hobj hints hlen hg => ?_
  obtain ⟨K, KX, hk, fr, fl, t1, t1b, t1c, t1d, t1e, t2, t3, t4⟩ := F w mg _ Y Gr.T.g
  rw [hd] at hmg
  have big : (63 : Nat) ≤ sizeLine := by decide
  refine law_callG (x := x) (k := 2 * k + 2) (sp := lsp K (callK T G k "law")) KX Gr.T.g Gr.T.b Gr.T.builtins Gr.T.nolimit hg hk.hT hk.nT hk.C hk.nd hk.nC Gr.T.bmain hobj hints (Nat.le_trans hlen big) room hk.sys (fun base _ _ bok => ?_) fun H ht hr => ?_
  · obtain ⟨a', fd', i1, i3, i4⟩ := (all_FG (P := l.prog) (w := w) (base := base) (K := K) (mg := mg) (T := T) (G := G) bok t1 t1b t1c t1d t1e t2 t3 t4 k "law" FL hfl).1 hcl
    unfold Stand at i1
    rw [hlc, (t4 "law" FL hfl).1] at i1
    replace i1 := i1.1
    have ea : a' = fa := by
      have := i1.symm.trans hmg
      injection this with z; injection z
    subst ea
    rw [hps] at i3 i4
    exact ⟨fd', fun s u => i3 s [u] rfl, i4⟩
  · refine ⟨[.lst (ns.map .int)], noS, _, _, .cons ?_ .nil, ⟨fun a o e => (nomatch e), ht, fun a r e => (nomatch e)⟩, ok ns hlen, fun r S' v H' e l rw q => ?_, .none⟩
    · unfold RW
      exact ⟨a, _, rfl, hr, rws_ints ns⟩
    · have q' : r = .bl true := q
      subst q'
      exact ⟨rw.bl_, fun b o h => (e.st b _ h rfl).1.plain (fun z => z.elim) (fun _ z => nomatch z)⟩
end PD

set_option Elab.async false
set_option linter.all false
set_option maxRecDepth 100000
set_option maxHeartbeats 4000000
namespace PD
open PySem PySem.Spec PyProof.Rows L2

/-! ## the head's facts, and that sys.modules is a dict -/
def sysB (g : Addr → Option Obj) : Bool := match g sysModules with
  | some o => decide (o.cls = .type "dict") && !isCelB o
  | none => false
def ndB : List Addr → Bool
  | [] => true
  | a :: as => !as.contains a && ndB as
theorem ndB_ok : ∀ {as : List Addr}, ndB as = true → as.Nodup
  | [], _ => .nil
  | a :: as, h => by
    obtain ⟨h1, h2⟩ := ba2 (show (_ && _) = true from h)
    refine List.nodup_cons.mpr ⟨fun z => ?_, ndB_ok h2⟩
    rw [Bool.not_eq_true'] at h1
    have : as.contains a = true := by simpa using z
    rw [this] at h1; cases h1
/-- .. and the tables of the text's code objects; no cell is told of -/
def hpB (g : Addr → Option Obj) (K : PySem.W.Frag) : Bool := sysB g && (He.tabsB g (tfL.map (·.1)) K && (K.all (fun q => !isCelB q.2) && ndB ((tabsK K).map (·.1))))
theorem hpB_ok {n : List Addr} {h : Heap} (e : hpB h.get? (He.frT h.get? n) = true) : HeapOk (He.frT h.get? n) h := by
  obtain ⟨e1, e⟩ := ba2 (show (_ && _) = true from e)
  obtain ⟨e2, e⟩ := ba2 e
  obtain ⟨e3, e4⟩ := ba2 e
  have key : ∀ p ∈ csOf (He.frT h.get? n), PySem.W.codeHdIn (He.frT h.get? n) p.1 p.2 = true ∧ ∃ o, h.get? p.2 = some o ∧ He.emptyTab o = true := fun p hp => by
    obtain ⟨q, hq, ep⟩ := List.mem_map.mp hp
    rw [← ep]
    obtain ⟨h3, h4⟩ := ba2 (List.all_eq_true.mp (show List.all _ _ = true from e2) q.1 (List.mem_map.mpr ⟨q, hq, rfl⟩))
    refine ⟨h3, ?_⟩
    cases z : h.get? (He.cT (He.frT h.get? n) q.1).2 with
    | none => rw [z] at h4; cases h4
    | some o => rw [z] at h4; exact ⟨o, rfl, h4⟩
  refine ⟨?_, fun p hp => ?_, fun p hp => ?_, fun p hp => (key p hp).1, ndB_ok e4, fun b o hb => ?_⟩
  · unfold sysB at e1
    cases q : h.get? sysModules with
    | none => rw [q] at e1; cases e1
    | some o =>
      rw [q] at e1
      obtain ⟨z1, z2⟩ := ba2 (show (_ && _) = true from e1)
      exact ⟨o, rfl, by simpa using z1, by simpa using z2⟩
  · obtain ⟨_, o, z1, z2⟩ := key p hp
    rw [z1, He.emptyTab_eq z2]
  · obtain ⟨_, o, z1, z2⟩ := key p hp
    exact He.frT_none z1 z2
  · have := List.all_eq_true.mp e3 _ (He.lookup_mem hb)
    simpa using this
/-- the exceptions' classes, with their fields; the classes that are asked of -/
def exsB (es : List (Str × Str)) (K : PySem.W.Frag) : Bool := es.isEmpty || (neB K && es.all fun e => exB K e.1 e.2)
def asA (g : Addr → Option Obj) (n : Nat) : List Addr := He.asD g n ++ [cStatics]
def allB (es : List (Str × Str)) (qs : List Str) (K : PySem.W.Frag) : Bool := exsB es K && qs.all (eqB K)
def hookS (n : Nat) (fa : List He.Fa) (fn : List He.DefD) (es : List (Str × Str)) (qs : List Str) : PySem.W.Hook where
  α := Bool × He.AlD
  obs := fun s => (hpB s.heap.get? (He.frT s.heap.get? (asA s.heap.get? n)) && allB es qs (He.frT s.heap.get? (asA s.heap.get? n)), He.obsD fa fn (He.frT s.heap.get? (asA s.heap.get? n)))
  val := fun _ => (true, He.valD fn)
  says := fun _ h => ∃ K : PySem.W.Frag, K.In h ∧ HeapOk K h ∧ He.SaysD fa fn K ∧ allB es qs K = true
  of := fun _ s e => by
    have e0 : (hpB s.heap.get? (He.frT s.heap.get? (asA s.heap.get? n)) && allB es qs (He.frT s.heap.get? (asA s.heap.get? n))) = true := congrArg Prod.fst e
    obtain ⟨e1, e2⟩ := ba2 e0
    exact ⟨_, He.frT_in, hpB_ok e1, congrArg Prod.snd e, e2⟩
  keeps := fun _ _ _ ⟨K, hK, hp, d, d2⟩ kp => ⟨K, PySem.W.Frag.In.keeps hK kp, ⟨let ⟨o, e, c⟩ := hp.sys; ⟨o, kp _ _ e, c⟩, fun p q => kp _ _ (hp.hT p q), hp.nT, hp.C, hp.nd, hp.nC⟩, d, d2⟩
def obS (n : Nat) (fa : List He.Fa) (fn : List He.DefD) (es : List (Str × Str)) (qs : List Str) (s : PySem.W.SharedT) : Bool × He.AlD := (hpB (HandSHeadRun.getT s) (He.frT (HandSHeadRun.getT s) (asA (HandSHeadRun.getT s) n)) && allB es qs (He.frT (HandSHeadRun.getT s) (asA (HandSHeadRun.getT s) n)), He.obsD fa fn (He.frT (HandSHeadRun.getT s) (asA (HandSHeadRun.getT s) n)))
theorem obS_eq {n : Nat} {fa : List He.Fa} {fn : List He.DefD} {es : List (Str × Str)} {qs : List Str} (s : PySem.W.SharedT) : obS n fa fn es qs s = (hookS n fa fn es qs).obs s.abs := by
  have e : HandSHeadRun.getT s = s.abs.heap.get? := funext (HandSHeadRun.getT_eq s)
  unfold obS
  rw [e]
  rfl
/-- a def that makes functions is told so -/
def mfB (m : Option (He.Defn × Str)) (d : He.DefD) : Bool := match m with
  | none => true
  | some m => decide (m.1 = d.at_) && (decide (m.2 = d.qual ++ ".<locals>.") && (tfL.map (·.1)).contains m.1)
theorem mfB_ok {m : Option (He.Defn × Str)} {d : He.DefD} (h : mfB m d = true) : ∀ q, m = some q → q.1 = d.at_ ∧ q.2 = d.qual ++ ".<locals>." ∧ q.1 ∈ tfL.map (·.1) := fun q e => by
  subst e
  obtain ⟨h1, h⟩ := ba2 (show (_ && _) = true from h)
  obtain ⟨h2, h3⟩ := ba2 h
  exact ⟨by simpa using h1, by simpa using h2, by simpa using h3⟩
/-- one def: what is seen of the text -/
structure DefB (fr : List Str) (fl : Fl) (F : Fd) (d : He.DefD) : Prop where
  at_ : d.at_ = (match F.cls with | none => (F.name, none) | some (c, m) => (c, some m))
  dfl : d.dfl = []
  kwd : d.kwd = []
  sc : FnScope F.N F.ps d.scope
  bind : ∀ (kV doc pm : Value) (an : Option Addr) (cdv ct : Value) (us : List Value), us.length = F.ps.length → bindArgs (PySem.W.fnOf d.name d.qual d.params d.body d.scope .none kV doc pm an cdv ct) ⟨us, []⟩ = pure (F.ps.zip us)
  chk : (chkSs fr fl F.N F.body ⟨d.scope, fun _ => true, F.mf⟩ d.body && mfB F.mf d) = true
/-- an own exception's __init__: what is seen of the text -/
structure DefX (c f : Str) (d : He.DefD) : Prop where
  at_ : d.at_ = (c, some ("__init__" : Str))
  dfl : d.dfl = []
  kwd : d.kwd = []
  ex : ∃ x : Str, FnScope ["self", x] ["self", x] d.scope ∧ initB f x d.body = true ∧ d.scope.names.lookup ("self" : Str) = some .local ∧ d.scope.names.lookup x = some .local ∧ d.scope.names.lookup ("NewError" : Str) = some .globalImplicit ∧ (x == ("__debug__" : Str)) = false ∧ (x == ("__classdict__" : Str)) = false ∧
    ∀ (kV doc pm : Value) (an : Option Addr) (cdv ct : Value) (us : List Value), us.length = 2 → bindArgs (PySem.W.fnOf d.name d.qual d.params d.body d.scope .none kV doc pm an cdv ct) ⟨us, []⟩ = pure ([("self" : Str), x].zip us)
/-- the module's constants -/
def lookG (gs : List (Str × Lit)) (x : Str) : Option W := (gs.find? fun e => e.1 == x).map fun e => e.2.w
def litFa : Str × Lit → He.Fa
  | (x, .int i) => .int x i
  | (x, .str z) => .str x z
  | (_, .fn f) => .glo f
  | (x, _) => .glo x
def litOk : Lit → Bool
  | .int _ => true
  | .str _ => true
  | .fn _ => true
  | _ => false
/-- functions told of as values are told under their names -/
def fnOk (fl : Fl) : Str × Lit → Bool
  | (x, .fn f) => decide (x = f) && fl.fs.contains f
  | _ => true
/-- what the head tells of a def -/
def Fd.fas (F : Fd) : List He.Fa := if F.clo then [] else match F.cls with
  | none => [.glo F.name, .keep F.name]
  | some (c, m) => [.cls c, .meth c m] ++ (if m == ("__init__" : Str) then [.mkr c, .glo c] else [])
def faOf (T : List Fd) (fr : List Str) (gs : List (Str × Lit)) (atr : List (Str × Str)) : List He.Fa := T.flatMap Fd.fas ++ fr.map He.Fa.free ++ gs.map litFa ++ atr.flatMap fun e => [.cls e.1, .noat e.1 e.2]
theorem table_ok {P : Program} {K : PySem.W.Frag} {h : Heap} {mg : Str → Option Value} {T : List Fd} {fr : List Str} {fl : Fl} {fn : List He.DefD} {gs : List (Str × Lit)} (X : K.In h) (Gm : h.Ns mainGlobals mg) (c : He.SaysD (faOf T fr gs fl.atr) fn K) (hgs : (gs.all fun e => litOk e.2) = true) (hfs : gs.all (fnOk fl) = true)
    (htab : tabB T fl = true) (hT : ∀ F ∈ T, (F.clo = false ∧ ∃ d ∈ fn, DefB fr fl F d) ∨ (F.clo = true ∧ ∃ d, findC F.name = some d ∧ CDef fr fl F d)) (hE' : allB fl.exs fl.eqs K = true) (hX : ∀ e ∈ fl.exs, ∃ d ∈ fn, DefX e.1 e.2 d) (hN : ∀ x ∈ fl.exn, (x = "NewError" ∧ fl.exs ≠ []) ∨ (x ≠ "NewError" ∧ ∃ f, (x, f) ∈ fl.exs)) : TableOk P T (lookG gs) mg K := by
  obtain ⟨hE, hQ⟩ := ba2 (show (_ && _) = true from hE')
  have mT : ∀ {F : Fd} {a : He.Fa}, F ∈ T → a ∈ F.fas → a.ok K = true := fun hF ha => He.SaysD.facts c (List.mem_append_left _ (List.mem_append_left _ (List.mem_append_left _ (List.mem_flatMap.mpr ⟨_, hF, ha⟩))))
  have mA : ∀ {e : Str × Str} {a : He.Fa}, e ∈ fl.atr → a ∈ [He.Fa.cls e.1, .noat e.1 e.2] → a.ok K = true := fun he ha => He.SaysD.facts c (List.mem_append_right _ (List.mem_flatMap.mpr ⟨_, he, ha⟩))
  have hE2 : ∀ e ∈ fl.exs, neB K = true ∧ exB K e.1 e.2 = true := fun e he => by
    have z : (fl.exs.isEmpty || (neB K && fl.exs.all fun e => exB K e.1 e.2)) = true := hE
    have ne : fl.exs.isEmpty = false := by
      cases q : fl.exs with
      | nil => rw [q] at he; cases he
      | cons a b => rfl
    rw [ne, Bool.false_or] at z
    obtain ⟨z1, z2⟩ := ba2 z
    exact ⟨z1, List.all_eq_true.mp z2 e he⟩
  have mX : ∀ e ∈ fl.exs, ExDef K mg e.1 e.2 := fun e he => by
    obtain ⟨n1, n2⟩ := hE2 e he
    obtain ⟨h1, T, Tx, iC, tI⟩ := exB_ok X Gm n2
    obtain ⟨d, hd, b⟩ := hX e he
    obtain ⟨fd, Fd_⟩ := He.SaysD.defs c hd
    have e1 : d.dvs K = [] := by unfold He.DefD.dvs; rw [b.dfl]; rfl
    have e2 : d.kws K = [] := by unfold He.DefD.kws; rw [b.kwd]; rfl
    rw [e1, e2] at Fd_
    obtain ⟨x, s1, s2, s3, s4, s5, s6, s7, hb⟩ := b.ex
    have ea : He.fAd K d.at_ = He.ma K (He.ga K e.1) "__init__" := by rw [b.at_]; rfl
    rw [ea] at Fd_
    exact ⟨⟨x, d.qual, d.params, d.body, d.scope, _, fd, d.name, h1, T, Tx, iC, tI, (neB_ok X Gm n1).1, Fd_, s1, fun s us hl => Fd_.bindsA (ps := [("self" : Str), x]) hb s us hl, s2, s3, s4, s5, s6, s7⟩⟩
  have mN : ∀ x ∈ fl.exn, AtN K mg x := fun x hx => by
    rcases hN x hx with ⟨rfl, ne⟩ | ⟨nx, f, hf⟩
    · cases q : fl.exs with
      | nil => exact absurd q ne
      | cons a b =>
        obtain ⟨n1, _⟩ := hE2 a (by rw [q]; exact List.mem_cons_self)
        obtain ⟨z1, z2⟩ := neB_ok X Gm n1
        exact ⟨z1.at_, fun _ => z2⟩
    · obtain ⟨n1, n2⟩ := hE2 _ hf
      exact ⟨(exB_ok X Gm n2).1, fun z => absurd z nx⟩
  refine ⟨fr, fl, htab, fun e he => ⟨He.cls_ok (mA he (by simp)), He.noat_ok (mA he (by simp))⟩, mX, mN, fun c hc => eqB_ok X Gm (List.all_eq_true.mp hQ c hc), fun x hx => He.free_ok X Gm (He.SaysD.facts c (List.mem_append_left _ (List.mem_append_left _ (List.mem_append_right _ (List.mem_map_of_mem hx))))), fun x w e => ?_, fun f F hf => ?_⟩
  · unfold lookG at e
    cases q : gs.find? fun e => e.1 == x with
    | none => rw [q] at e; cases e
    | some p =>
      rw [q] at e; cases e
      obtain ⟨y, l⟩ := p
      have hm := List.mem_of_find?_eq_some q
      have h1 : litFa (y, l) ∈ faOf T fr gs fl.atr := List.mem_append_left _ (List.mem_append_right _ (List.mem_map_of_mem hm))
      have h2 : litOk l = true := List.all_eq_true.mp hgs _ hm
      have hy : y = x := by
        have := List.find?_some q
        simpa using this
      subst hy
      have h3 := He.SaysD.facts c h1
      cases l with
      | int i => obtain ⟨t, ht⟩ := He.int_ok X Gm h3; exact ⟨⟨_, .int i, ht, ⟨t, rfl⟩, fun _ _ => .i⟩, fun z => nomatch z⟩
      | str z => obtain ⟨t, ht⟩ := He.str_ok X Gm h3; exact ⟨⟨_, .str z, ht, ⟨t, rfl⟩, fun _ _ => .s⟩, fun z => nomatch z⟩
      | fn f =>
        have h4 : fnOk fl (y, .fn f) = true := List.all_eq_true.mp hfs _ hm
        obtain ⟨h5, h6⟩ := ba2 (show (_ && _) = true from h4)
        obtain rfl : y = f := by simpa using h5
        exact ⟨⟨_, .ref (He.ga K y), He.glo_ok X Gm h3, rfl, fun _ _ => by show RW K _ _ (.fnv y) _; unfold RW; rfl⟩, fun _ => by simpa using h6⟩
      | non => cases h2
      | bl b => cases h2
  · have hm : F ∈ T := List.mem_of_find?_eq_some hf
    have hn : F.name = f := by
      have := List.find?_some hf
      simpa using this
    rcases hT F hm with ⟨nc, d, hd, b⟩ | ⟨nc, d, hd, b⟩
    rotate_left
    · exact ⟨hn, fun z => by (rw [nc] at z; cases z), fun _ d' h' => by (rw [hn] at hd; rw [hd] at h'; cases h'; exact b)⟩
    refine ⟨hn, fun _ => ?_, fun z => by (rw [nc] at z; cases z)⟩
    obtain ⟨fd, Fd_⟩ := He.SaysD.defs c hd
    have e1 : d.dvs K = [] := by unfold He.DefD.dvs; rw [b.dfl]; rfl
    have e2 : d.kws K = [] := by unfold He.DefD.kws; rw [b.kwd]; rfl
    rw [e1, e2] at Fd_
    have hb := b.bind
    obtain ⟨ck1, ck2⟩ := ba2 b.chk
    have mm := mfB_ok ck2
    refine ⟨d.name, d.qual, d.params, d.body, d.scope, _, fd, Fd_, ?_, b.sc, fun s us hl => Fd_.bindsA hb s us hl, ck1, fun m hm2 => ?_⟩
    rotate_left
    · obtain ⟨m1, m2, m3⟩ := mm m hm2
      exact ⟨by rw [m1], m2, m3⟩
    unfold Stand
    rw [b.at_]
    cases hc : F.cls with
    | none =>
      have ef : F.fas = [.glo F.name, .keep F.name] := by unfold Fd.fas; rw [nc, hc]; rfl
      exact ⟨He.glo_ok X Gm (mT hm (by rw [ef]; simp)), He.keep_ok (mT hm (by rw [ef]; simp))⟩
    | some e =>
      obtain ⟨k, m⟩ := e
      have ef : F.fas = [.cls k, .meth k m] ++ (if m == ("__init__" : Str) then [.mkr k, .glo k] else []) := by unfold Fd.fas; rw [nc, hc]; rfl
      refine ⟨He.cls_ok (mT hm (by rw [ef]; simp)), He.meth_ok (mT hm (by rw [ef]; simp)), fun em => ?_⟩
      subst em
      exact ⟨He.mkr_ok (mT hm (by rw [ef]; simp)), He.glo_ok X Gm (mT hm (by rw [ef]; simp))⟩
end PD

set_option Elab.async false
set_option linter.all false
set_option maxRecDepth 100000
set_option maxHeartbeats 4000000
namespace PD
open PySem PySem.Spec PyProof.Rows L2

/-! ## reasoning in the small language -/
theorem atI_nat {α : Type} {xs : List α} (i : Nat) : atI xs (i : Int) = xs[i]? := by
  unfold atI ixN
  rw [if_pos (Int.natCast_nonneg i)]
  by_cases h : (i : Int) < xs.length
  · rw [if_pos h]; rfl
  · rw [if_neg h, List.getElem?_eq_none (by omega)]; rfl
theorem atI_0 {α : Type} {x : α} {l : List α} : atI (x :: l) 0 = some x := atI_nat 0
theorem atI_1 {α : Type} {x y : α} {l : List α} : atI (x :: y :: l) 1 = some y := atI_nat 1
theorem atI_2 {α : Type} {x y z : α} {l : List α} : atI (x :: y :: z :: l) 2 = some z := atI_nat 2
theorem loopC_ind {step : W → Sto → (Option W → Sto → Prop) → Prop} {D : Addr} {Q : List W → Sto → Prop} (I : List W → List W → Sto → Prop) (hD : ∀ xs acc S, I xs acc S → S D = some (.lst acc)) (hn : ∀ acc S, I [] acc S → Q acc S)
    (hs : ∀ x xs acc S (K : Option W → Sto → Prop), I (x :: xs) acc S → (∀ S1, I xs acc S1 → K none S1) → (∀ w S1, S1 D = some (.lst acc) → acc.length < sizeLine → I xs (acc ++ [w]) (S1.set D (.lst (acc ++ [w]))) → K (some w) S1) → step x S K) :
    ∀ xs acc S, I xs acc S → loopC step D xs acc Q S
  | [], acc, S, h => ⟨hD _ _ _ h, hn _ _ h⟩
  | x :: xs, acc, S, h => ⟨hD _ _ _ h, hs x xs acc S _ h (fun S1 h1 => loopC_ind I hD hn hs xs acc S1 h1) fun w S1 h1 h2 h3 => ⟨h1, h2, loopC_ind I hD hn hs xs _ _ h3⟩⟩
theorem loopF_ind {body : En → W → Sl → Sto → Prop} {D : En} (I : List W → Sl → Sto → Prop) (hn : ∀ σ S, I [] σ S → D.nx σ S)
    (hs : ∀ x xs σ S (N : Sl → Sto → Prop), I (x :: xs) σ S → (∀ σ' S', I xs σ' S' → N σ' S') → body { D with nx := N, ct := N, bk := D.nx } x σ S) : ∀ xs σ S, I xs σ S → loopF body D xs σ S
  | [], σ, S, h => hn _ _ h
  | x :: xs, σ, S, h => hs x xs σ S _ h fun σ' S' h' => loopF_ind I hn hs xs σ' S' h'
/-- a comprehension whose parts change nothing -/
theorem loopC_pure {step : W → Sto → (Option W → Sto → Prop) → Prop} {D : Addr} {Q : List W → Sto → Prop} (f : W → Option W) (P : W → Prop) (hs : ∀ x S (K : Option W → Sto → Prop), P x → K (f x) S → step x S K) :
    ∀ (xs acc : List W) (S : Sto), (∀ x ∈ xs, P x) → acc.length + xs.length ≤ sizeLine → S D = none → Q (acc ++ xs.filterMap f) (S.set D (.lst (acc ++ xs.filterMap f))) → loopC step D xs acc Q (S.set D (.lst acc))
  | [], acc, S, hp, hl, hD, h => ⟨Sto.set_same, by simpa using h⟩
  | x :: xs, acc, S, hp, hl, hD, h => by
    refine ⟨Sto.set_same, hs x _ _ (hp x (by simp)) ?_⟩
    rw [List.filterMap_cons] at h
    cases q : f x with
    | none =>
      rw [q] at h
      exact loopC_pure f P hs xs acc S (fun y hy => hp y (by simp [hy])) (by simp at hl; omega) hD h
    | some w =>
      rw [q] at h
      refine ⟨Sto.set_same, by simp at hl; omega, ?_⟩
      rw [Sto.set_set]
      exact loopC_pure f P hs xs (acc ++ [w]) S (fun y hy => hp y (by simp [hy])) (by simp at hl ⊢; omega) hD (by simpa using h)
/-- .. as a value -/
theorem comp_pure {step : W → Sto → (Option W → Sto → Prop) → Prop} {Q : QW} {xs : List W} {S : Sto} (f : W → Option W) (P : W → Prop) (hs : ∀ x S (K : Option W → Sto → Prop), P x → K (f x) S → step x S K)
    (hp : ∀ x ∈ xs, P x) (hl : xs.length ≤ sizeLine) (h : Q (.lst (xs.filterMap f)) S) :
    ∀ D, S D = none → loopC step D xs [] (fun ws S2 => if false = true then Q (.ref D) S2 else Q (.lst ws) (S2.del D)) (S.set D (.lst [])) := fun D hD =>
  loopC_pure f P hs xs [] S hp (by simpa using hl) hD (by
    rw [if_neg (by decide), List.nil_append, Sto.del_set hD]
    exact h)
/-! ### what data say -/
theorem eqW_of {a b : W} {x y : PyData} (ha : a.d = some x) (hb : b.d = some y) (px : okD x = true) (py : okD y = true) : eqW a b = some (PyData.eqv x y) := by
  unfold eqW eqD
  rw [ha, hb]
  simp [px, py]
theorem eqW_self {a : W} {x : PyData} (ha : a.d = some x) (px : okD x = true) : eqW a a = some true := by
  rw [eqW_of ha ha px px, PySem.SeqAt.eqv_refl_plain x (by unfold okD at px; simp at px; exact px.1)]
/-- anything that a tuple holds: beside the empty one -/
theorem eqW_nil {xs : List W} : eqW (.tup xs) (.tup []) = some xs.isEmpty := by
  unfold eqW
  cases q : eqD (.tup xs) (.tup []) with
  | none => rfl
  | some r =>
    obtain ⟨x, y, hx, hy, _, _, rfl⟩ := eqD_some q
    cases xs with
    | nil => cases hx; cases hy; rfl
    | cons a l =>
      have hx' : (W.ds (a :: l)).map PyData.tuple = some x := hx
      have e : W.ds (a :: l) = (W.d a).bind fun x => (W.ds l).map fun r => x :: r := rfl
      rw [e] at hx'
      cases hy
      cases q1 : W.d a with
      | none => rw [q1] at hx'; cases hx'
      | some d =>
        cases q2 : W.ds l with
        | none => rw [q1, q2] at hx'; cases hx'
        | some ds => rw [q1, q2] at hx'; cases hx'; rfl
theorem eqW_str {x y : Str} : eqW (.str x) (.str y) = some (x == y) := rfl
theorem eqW_int {x y : Int} : eqW (.int x) (.int y) = some (x == y) := rfl
theorem eqW_bl {x y : Bool} : eqW (.bl x) (.bl y) = some (x == y) := rfl

/-! ## terms -/
inductive Tm where
  | any (n : Int)
  | of (x : Str) (ts : List Tm)
mutual
def Tm.w : Tm → W
  | .any n => .tup [.str "any", .int n]
  | .of x ts => .tup [.str "of", .str x, .tup (Tm.ws ts)]
def Tm.ws : List Tm → List W
  | [] => []
  | t :: ts => Tm.w t :: Tm.ws ts
end
mutual
def Tm.dat : Tm → PyData
  | .any n => .tuple [.str "any", .int n]
  | .of x ts => .tuple [.str "of", .str x, .tuple (Tm.dats ts)]
def Tm.dats : List Tm → List PyData
  | [] => []
  | t :: ts => Tm.dat t :: Tm.dats ts
end
mutual
/-- how deep -/
def Tm.h : Tm → Nat
  | .any _ => 1
  | .of _ ts => 1 + Tm.hs ts
def Tm.hs : List Tm → Nat
  | [] => 0
  | t :: ts => max (Tm.h t) (Tm.hs ts)
end
theorem Tm.ws_eq (ts : List Tm) : Tm.ws ts = ts.map Tm.w := by
  induction ts with
  | nil => rfl
  | cons t ts ih => rw [List.map_cons, ← ih]; rfl
mutual
theorem Tm.w_d : ∀ t : Tm, t.w.d = some t.dat
  | .any n => rfl
  | .of x ts => by
    have := Tm.ws_d ts
    simp [Tm.w, Tm.dat, W.d, W.ds, this]
theorem Tm.ws_d : ∀ ts : List Tm, W.ds (Tm.ws ts) = some (Tm.dats ts)
  | [] => rfl
  | t :: ts => by simp [Tm.ws, Tm.dats, W.ds, Tm.w_d t, Tm.ws_d ts]
end
mutual
theorem Tm.w_dd : ∀ t : Tm, t.w.dd = some t.dat
  | .any n => rfl
  | .of x ts => by
    have := Tm.ws_dd ts
    simp [Tm.w, Tm.dat, W.dd, W.dds, this]
theorem Tm.ws_dd : ∀ ts : List Tm, W.dds (Tm.ws ts) = some (Tm.dats ts)
  | [] => rfl
  | t :: ts => by simp [Tm.ws, Tm.dats, W.dds, Tm.w_dd t, Tm.ws_dd ts]
end
mutual
theorem Tm.plain : ∀ t : Tm, t.dat.plain = true
  | .any n => rfl
  | .of x ts => by simp [Tm.dat, PyData.plain, PyData.plainAll, Tm.plains ts]
theorem Tm.plains : ∀ ts : List Tm, PyData.plainAll (Tm.dats ts) = true
  | [] => rfl
  | t :: ts => by simp [Tm.dats, PyData.plainAll, Tm.plain t, Tm.plains ts]
end
mutual
theorem Tm.depth : ∀ t : Tm, t.dat.depth ≤ 2 * t.h + 1
  | .any n => by simp [Tm.dat, PyData.depth, PyData.depthAll, Tm.h]
  | .of x ts => by
    have := Tm.depths ts
    simp [Tm.dat, PyData.depth, PyData.depthAll, Tm.h]
    omega
theorem Tm.depths : ∀ ts : List Tm, PyData.depthAll (Tm.dats ts) ≤ 2 * Tm.hs ts + 1
  | [] => by simp [Tm.dats, PyData.depthAll]
  | t :: ts => by
    have h1 := Tm.depth t
    have h2 := Tm.depths ts
    simp [Tm.dats, PyData.depthAll, Tm.hs]
    omega
end
theorem Tm.ok {t : Tm} (h : t.h ≤ 29) : okD t.dat = true := by
  have := Tm.depth t
  unfold okD
  simp [Tm.plain t]
  omega
theorem Tm.eq_self {t : Tm} (h : t.h ≤ 29) : eqW t.w t.w = some true := eqW_self (Tm.w_d t) (Tm.ok h)

theorem rs_tup {S : Sto} {xs : List W} : rd S (.tup xs) = .tup xs := rfl
theorem rs_lst {S : Sto} {xs : List W} : rd S (.lst xs) = .lst xs := rfl
theorem rs_int {S : Sto} {i : Int} : rd S (.int i) = .int i := rfl
theorem rs_str {S : Sto} {x : Str} : rd S (.str x) = .str x := rfl
theorem rs_bl {S : Sto} {b : Bool} : rd S (.bl b) = .bl b := rfl
theorem rs_non {S : Sto} : rd S .non = .non := rfl
theorem rs_dct {S : Sto} {ks : List Key} {ws : List W} : rd S (.dct ks ws) = .dct ks ws := rfl
theorem ix_tup {xs : List W} {i : Int} : ixW (.tup xs) (.int i) = atI xs i := rfl
theorem ix_lst {xs : List W} {i : Int} : ixW (.lst xs) (.int i) = atI xs i := rfl
theorem ex_some {α : Type} {a : α} {P : α → Prop} : (∃ w, some a = some w ∧ P w) ↔ P a := ⟨fun ⟨w, e, h⟩ => by cases e; exact h, fun h => ⟨a, rfl, h⟩⟩
theorem ex_some2 {α : Type} {a : α} {P : α → Prop} : (∃ w, some (some a) = some (some w) ∧ P w) ↔ P a := ⟨fun ⟨w, e, h⟩ => by cases e; exact h, fun h => ⟨a, rfl, h⟩⟩
theorem ex_int {i : Int} {P : Int → Prop} : (∃ j, W.int i = .int j ∧ P j) ↔ P i := ⟨fun ⟨w, e, h⟩ => by cases e; exact h, fun h => ⟨i, rfl, h⟩⟩
theorem ex_bl {i : Bool} {P : Bool → Prop} : (∃ j, W.bl i = .bl j ∧ P j) ↔ P i := ⟨fun ⟨w, e, h⟩ => by cases e; exact h, fun h => ⟨i, rfl, h⟩⟩
theorem tru_bl {b : Bool} : truW (.bl b) = some b := rfl
theorem cmp_eq {a b : W} : cmpW .Eq a b = eqW a b := rfl
theorem cmp_lt {a b : Int} : cmpW .Lt (.int a) (.int b) = some (decide (a < b)) := rfl
theorem cmp_gt {a b : Int} : cmpW .Gt (.int a) (.int b) = some (decide (b < a)) := rfl
theorem cmp_ge {a b : Int} : cmpW .GtE (.int a) (.int b) = some (decide (b ≤ a)) := rfl
theorem cmp_le {a b : Int} : cmpW .LtE (.int a) (.int b) = some (decide (a ≤ b)) := rfl
theorem add_int {a b : Int} : binW .Add (.int a) (.int b) = some (.int (a + b)) := rfl
theorem sub_int {a b : Int} : binW .Sub (.int a) (.int b) = some (.int (a - b)) := rfl
theorem ex_tup {xs : List W} {P : List W → Prop} : (∃ ws, W.tup xs = .tup ws ∧ P ws) ↔ P xs := ⟨fun ⟨w, e, h⟩ => by cases e; exact h, fun h => ⟨xs, rfl, h⟩⟩
theorem ex_cons {x : W} {xs : List W} {P : W → List W → Prop} : (∃ w r, x :: xs = w :: r ∧ P w r) ↔ P x xs := ⟨fun ⟨w, r, e, h⟩ => by cases e; exact h, fun h => ⟨x, xs, rfl, h⟩⟩
theorem ex_tl {xs : List W} {P : List W → Prop} : (∃ ys, (W.lst xs = .lst ys ∨ W.lst xs = .tup ys) ∧ P ys) ↔ P xs :=
  ⟨fun ⟨ys, e, h⟩ => by rcases e with e | e <;> cases e; exact h, fun h => ⟨xs, .inl rfl, h⟩⟩
theorem ite_both {b : Bool} {P R : Prop} (h1 : b = true → P) (h2 : b = false → R) : if b = true then P else R := by
  cases b with
  | true => exact h1 rfl
  | false => exact h2 rfl
theorem szl {n : Nat} (h : n ≤ 16777216) : n ≤ sizeLine := by rw [sizeLine_eq]; exact h
theorem len_lst {xs : List W} : lenW (.lst xs) = some (.int xs.length) := rfl
theorem rd_r {S : Sto} {a : Addr} {xs : List W} (h : S a = some (.lst xs)) : rd S (.ref a) = .lst xs := by
  simp only [rd, h]
theorem mod_int {n u : Int} (hu : 0 < u) : binW .Mod (.int n) (.int u) = some (.int (n % u)) := if_pos hu
theorem div_int {n u : Int} (hu : 0 < u) (hl : u.natAbs.log2 < 9000) : binW .FloorDiv (.int n) (.int u) = some (.int (n / u)) := if_pos ⟨hu, hl⟩
theorem mul_int {i j : Int} (h : -(2 ^ 64) < j ∧ j < 2 ^ 64) : binW .Mult (.int i) (.int j) = some (.int (i * j)) := if_pos (.inl (.inr h))
theorem mul_int' {i j : Int} (h : -(2 ^ 64) < i ∧ i < 2 ^ 64) : binW .Mult (.int i) (.int j) = some (.int (i * j)) := if_pos (.inl (.inl h))
def big18 : Int := 1000000000000000000
theorem pow18 : binW .Pow (.int 10) (.int 18) = some (.int big18) := by
  show (if (0 : Int) ≤ 18 ∧ (18 : Int) ≤ 1000000 ∧ (10 : Int).natAbs < 2 ^ 64 then some (W.int (10 ^ (18 : Int).toNat)) else none) = _
  rw [if_pos (by decide)]; rfl
theorem setW_0 {S : Sto} {a : Addr} {v x : W} {Q : Sto → Prop} (h : S a = some (.lst [x])) (q : Q (S.set a (.lst [v]))) : setW (.ref a) (.int 0) v S Q := by
  unfold setW
  simp only [h]
  exact ⟨0, 0, rfl, by simp [ixN], q⟩
theorem ty_app {xs : List W} : (tyM .append (.lst xs) = true) = True := eq_self _
/-- two places: a's number, D's row -/
structure St2 (S : Sto) (a D : Addr) (n : Int) (rows : List W) (S' : Sto) : Prop where
  ne : a ≠ D
  eq : S' = (S.set a (.lst [.int n])).set D (.lst rows)
section
variable {S S' : Sto} {a D : Addr} {n m : Int} {rows r2 : List W}
theorem St2.sa (h : St2 S a D n rows S') : S' a = some (.lst [.int n]) := by rw [h.eq, Sto.set_ne h.ne, Sto.set_same]
theorem St2.sD (h : St2 S a D n rows S') : S' D = some (.lst rows) := by rw [h.eq, Sto.set_same]
theorem St2.seta (h : St2 S a D n rows S') : St2 S a D m rows (S'.set a (.lst [.int m])) := ⟨h.ne, by rw [h.eq, Sto.set_comm (Ne.symm h.ne), Sto.set_set]⟩
theorem St2.setD (h : St2 S a D n rows S') : St2 S a D n r2 (S'.set D (.lst r2)) := ⟨h.ne, by rw [h.eq, Sto.set_set]⟩
theorem St2.del (h : St2 S a D n rows S') (hD : S D = none) : S'.del D = S.set a (.lst [.int n]) := by
  rw [h.eq, Sto.del_set]
  rw [Sto.set_ne (Ne.symm h.ne)]; exact hD
theorem St2.new (ha : S a = some (.lst [.int n])) (hD : S D = none) : St2 S a D n rows (S.set D (.lst rows)) :=
  ⟨(fun e => by rw [e, hD] at ha; cases ha), by rw [Sto.set_self ha]⟩
end
theorem ix_str {z : Str} {c : Nat} {i : Int} (hz : z.length ≤ 1000) (h : atI z.cps.toList i = some c) : ixW (.str z) (.int i) = some (.str ⟨#[c]⟩) := by
  show (if z.length ≤ sizeLine then (atI z.cps.toList i).map fun c => W.str ⟨#[c]⟩ else none) = _
  rw [if_pos (szl (by omega)), h]; rfl
theorem mul_str {x : Str} {j : Int} (h0 : 0 ≤ j) (h1 : j ≤ 1000) (hx : x.length ≤ 1000) : binW .Mult (.str x) (.int j) = some (.str (Txt.mul x j)) := if_pos ⟨h0, h1, hx⟩
theorem add_str {x y : Str} (h : x.length + y.length ≤ 1000) : binW .Add (.str x) (.str y) = some (.str (x ++ y)) := if_pos (szl (by omega))
theorem mod_range {n u : Int} (h : 0 < u) : 0 ≤ n % u ∧ n % u < u := ⟨Int.emod_nonneg _ (by omega), Int.emod_lt_of_pos _ h⟩
theorem ex_or {xs : List W} {P : List W → Prop} : (∃ ys, (W.lst xs = .lst ys ∨ W.lst xs = .tup ys) ∧ P ys) ↔ P xs := ex_tl
/-- a row made in a place is changed no more -/
theorem fz_l {S : Sto} {p : Addr} {xs : List W} {A : List W → Prop} {B : Prop} (h : S p = some (.lst xs)) (q : A xs) : (∃ ys, S p = some (.lst ys) ∧ A ys) ∨ B := .inl ⟨xs, h, q⟩
theorem items_lst {xs : List W} : itemsW (.lst xs) = some xs := rfl
theorem items_tup {xs : List W} : itemsW (.tup xs) = some xs := rfl
/-- a comprehension whose parts change nothing, whatever is done with its row -/
theorem comp_p {step : W → Sto → (Option W → Sto → Prop) → Prop} {F : Addr → List W → Sto → Prop} {xs : List W} {S : Sto} (f : W → Option W) (P : W → Prop) (hs : ∀ x S (K : Option W → Sto → Prop), P x → K (f x) S → step x S K)
    (hp : ∀ x ∈ xs, P x) (hl : xs.length ≤ 1000) (h : ∀ D, S D = none → F D (xs.filterMap f) (S.set D (.lst (xs.filterMap f)))) :
    ∀ D, S D = none → loopC step D xs [] (F D) (S.set D (.lst [])) := fun D hD =>
  loopC_pure f P hs xs [] S hp (szl (by simp; omega)) hD (by rw [List.nil_append]; exact h D hD)
theorem at_mem {α : Type} {xs : List α} {i : Int} (h0 : 0 ≤ i) (h1 : i < xs.length) : ∃ x ∈ xs, atI xs i = some x := by
  obtain ⟨j, rfl⟩ : ∃ j : Nat, i = (j : Int) := ⟨i.toNat, by omega⟩
  have hj : j < xs.length := by omega
  exact ⟨xs[j], List.getElem_mem hj, by rw [atI_nat]; exact List.getElem?_eq_getElem hj⟩
theorem St2.newS {S : Sto} {a D : Addr} {n : Int} {rows : List W} (hD : (S.set a (.lst [.int n])) D = none) : St2 S a D n rows ((S.set a (.lst [.int n])).set D (.lst rows)) :=
  ⟨(fun e => by rw [e, Sto.set_same] at hD; cases hD), rfl⟩
theorem Sto.none_of {S : Sto} {a D : Addr} {o : SO} (h : (S.set a o) D = none) : S D = none := by
  have ne : D ≠ a := fun e => by rw [e, Sto.set_same] at h; cases h
  rw [Sto.set_ne ne] at h; exact h
theorem ty_get {ks : List Key} {ws : List W} : (tyM .get (.dct ks ws) = true) = True := eq_self _
theorem loopC_map {α : Type} {step : W → Sto → (Option W → Sto → Prop) → Prop} {D : Addr} {Q : List W → Sto → Prop} (enc out : α → W) : ∀ (us : List α) (acc : List W) (S : Sto), (∀ u ∈ us, ∀ S K, K (some (out u)) S → step (enc u) S K) → acc.length + us.length ≤ 1000 →
    Q (acc ++ us.map out) (S.set D (.lst (acc ++ us.map out))) → loopC step D (us.map enc) acc Q (S.set D (.lst acc))
  | [], acc, S, hs, hl, h => ⟨Sto.set_same, by simpa using h⟩
  | u :: us, acc, S, hs, hl, h => by
    refine ⟨Sto.set_same, hs u (by simp) _ _ ⟨Sto.set_same, by rw [sizeLine_eq]; simp at hl; omega, ?_⟩⟩
    rw [Sto.set_set]
    exact loopC_map enc out us (acc ++ [out u]) S (fun v hv => hs v (by simp [hv])) (by simp at hl ⊢; omega) (by simpa using h)
/-- a comprehension over told things -/
theorem comp_map {α : Type} {step : W → Sto → (Option W → Sto → Prop) → Prop} {F : Addr → List W → Sto → Prop} {S : Sto} (enc out : α → W) (us : List α) (hs : ∀ u ∈ us, ∀ S K, K (some (out u)) S → step (enc u) S K) (hl : us.length ≤ 1000)
    (h : ∀ D, S D = none → F D (us.map out) (S.set D (.lst (us.map out)))) : ∀ D, S D = none → loopC step D (us.map enc) [] (F D) (S.set D (.lst [])) := fun D hD =>
  loopC_map enc out us [] S hs (by simpa using hl) (by rw [List.nil_append]; exact h D hD)
theorem rd_w {S : Sto} {t : Tm} : rd S t.w = t.w := by cases t <;> rfl
theorem slc_lst {xs : List W} {lo hi : Option Int} : slcW (.lst xs) lo hi = some (.lst (cutW xs lo hi)) := rfl
theorem cmp_ne {a b : W} : cmpW .NotEq a b = (eqW a b).map (!·) := rfl
theorem cut_mem {xs : List W} {lo hi : Option Int} {x : W} (h : x ∈ cutW xs lo hi) : x ∈ xs := List.mem_of_mem_drop (List.mem_of_mem_take h)
theorem cut_len {xs : List W} {lo hi : Option Int} : (cutW xs lo hi).length ≤ xs.length := by
  unfold cutW
  rw [List.length_take, List.length_drop]
  omega
theorem add_lst {x y : List W} (h : x.length + y.length ≤ 1000) : binW .Add (.lst x) (.lst y) = some (.lst (x ++ y)) := if_pos (szl (by omega))
/-- two places: a's number, D's dict -/
structure StD (S : Sto) (a D : Addr) (n : Int) (ks : List Key) (ws : List W) (S' : Sto) : Prop where
  ne : a ≠ D
  eq : S' = (S.set a (.lst [.int n])).set D (.dct ks ws)
section
variable {S S' : Sto} {a D : Addr} {n m : Int} {ks k2 : List Key} {ws w2 : List W}
theorem StD.sa (h : StD S a D n ks ws S') : S' a = some (.lst [.int n]) := by rw [h.eq, Sto.set_ne h.ne, Sto.set_same]
theorem StD.sD (h : StD S a D n ks ws S') : S' D = some (.dct ks ws) := by rw [h.eq, Sto.set_same]
theorem StD.seta (h : StD S a D n ks ws S') : StD S a D m ks ws (S'.set a (.lst [.int m])) := ⟨h.ne, by rw [h.eq, Sto.set_comm (Ne.symm h.ne), Sto.set_set]⟩
theorem StD.setD (h : StD S a D n ks ws S') : StD S a D n k2 w2 (S'.set D (.dct k2 w2)) := ⟨h.ne, by rw [h.eq, Sto.set_set]⟩
theorem StD.del (h : StD S a D n ks ws S') (hD : S D = none) : S'.del D = S.set a (.lst [.int n]) := by
  rw [h.eq, Sto.del_set]
  rw [Sto.set_ne (Ne.symm h.ne)]; exact hD
theorem StD.newS (hD : (S.set a (.lst [.int n])) D = none) : StD S a D n ks ws ((S.set a (.lst [.int n])).set D (.dct ks ws)) :=
  ⟨(fun e => by rw [e, Sto.set_same] at hD; cases hD), rfl⟩
theorem setW_d {i : Int} {v : W} {Q : Sto → Prop} (h : S D = some (.dct ks ws)) (hz : ks.length ≤ 1000) (q : Q (S.set D (.dct (putKW ks ws (.inl i) v).1 (putKW ks ws (.inl i) v).2))) : setW (.ref D) (.int i) v S Q := by
  unfold setW
  simp only [h]
  exact ⟨.inl i, rfl, by rw [sizeLine_eq]; omega, q⟩
end
theorem putKW_new {ks : List Key} {ws : List W} {x : Key} {v : W} (h : ∀ k ∈ ks, k ≠ x) : putKW ks ws x v = (ks ++ [x], ws ++ [v]) := by
  unfold putKW
  rw [if_neg]
  intro z
  obtain ⟨k, hk, e⟩ := List.any_eq_true.mp z
  exact h k hk (by simpa using e)
end PD

set_option Elab.async false
set_option linter.all false
set_option maxRecDepth 100000
set_option maxHeartbeats 4000000
namespace PD
open PySem PyProof.Rows

/-! ## how long a text of a term is -/
theorem textFrom_le : ∀ (ts : List Str) (k : Nat) (acc : Str), (textFrom k acc ts).length ≤ acc.length + piled ts
  | [], k, acc => by show acc.length ≤ _; omega
  | t :: r, k, acc => by
    have h := textFrom_le r (k + 1) (acc ++ (if k > 0 then ", " else "" : String) ++ t)
    have e : (acc ++ (if k > 0 then ", " else "" : String) ++ t).length = acc.length + (if k > 0 then 2 else 0) + t.length := by
      rw [strLen_append, strLen_append]
      split <;> rfl
    have p : piled (t :: r) = t.length + 2 + piled r := by simp [piled]
    have q : (if k > 0 then 2 else 0) ≤ 2 := by split <;> omega
    show (textFrom (k + 1) (acc ++ (if k > 0 then ", " else "" : String) ++ t) r).length ≤ _
    rw [e] at h
    rw [p]
    omega
theorem len_list (ts : List Str) : (listText ts).length ≤ piled ts + 2 := by
  unfold listText
  rw [strLen_append]
  have h := textFrom_le ts 0 "["
  have e1 : (("[" : String) : Str).length = 1 := rfl
  have e2 : (("]" : String) : Str).length = 1 := rfl
  omega
theorem len_join (ts : List Str) : (Str.join ", " ts).length ≤ piled ts := by
  cases ts with
  | nil => exact Nat.le_refl _
  | cons t r => have := join_length_add (t :: r) (by simp); omega
theorem len_tuple (ts : List Str) : (tupleText ts).length ≤ piled ts + 3 := by
  unfold tupleText
  rw [strLen_append, strLen_append]
  have h := len_join ts
  have e1 : (("(" : String) : Str).length = 1 := rfl
  split
  · have e2 : ((",)" : String) : Str).length = 2 := rfl
    omega
  · have e2 : ((")" : String) : Str).length = 1 := rfl
    omega
theorem len_dict (ts : List Str) : (dictText ts).length ≤ piled ts + 2 := by
  unfold dictText
  rw [strLen_append, strLen_append]
  have h := len_join ts
  have e1 : (("{" : String) : Str).length = 1 := rfl
  have e2 : (("}" : String) : Str).length = 1 := rfl
  omega
theorem piled_le (B : Nat) : ∀ ts : List Str, (∀ t ∈ ts, t.length ≤ B) → piled ts ≤ ts.length * (B + 2)
  | [], _ => by simp [piled]
  | t :: r, h => by
    have ih := piled_le B r fun u hu => h u (by simp [hu])
    have h1 := h t (by simp)
    have p : piled (t :: r) = t.length + 2 + piled r := by simp [piled]
    rw [p, List.length_cons, Nat.succ_mul]
    omega
theorem piled_cons (t : Str) (r : List Str) : piled (t :: r) = t.length + 2 + piled r := by simp [piled]
theorem piled_nil : piled [] = 0 := rfl

theorem int_small : ∀ n : _root_.Fin 1000, (PyData.shown (.int (n.val : Int))).length ≤ 3 ∧ PyData.showable (.int (n.val : Int)) = true := by decide +kernel
theorem int_len {i : Int} (h0 : 0 ≤ i) (h1 : i < 1000) : (PyData.shown (.int i)).length ≤ 3 ∧ PyData.showable (.int i) = true := by
  have := int_small ⟨i.toNat, by omega⟩
  have e : ((i.toNat : Nat) : Int) = i := by omega
  simpa [e] using this
def nameOk (x : Str) : Prop := x.length ≤ 8 ∧ ∀ c ∈ x.cps.toList, c < 16 ^ 8
mutual
/-- names in order, few parts, letters below L -/
def Tm.fine (L : Int) : Tm → Prop
  | .any n => 0 ≤ n ∧ n < L
  | .of x ts => nameOk x ∧ ts.length ≤ 4 ∧ Tm.fines L ts
def Tm.fines (L : Int) : List Tm → Prop
  | [] => True
  | t :: ts => Tm.fine L t ∧ Tm.fines L ts
end
theorem Tm.fines_iff {L : Int} : ∀ {ts : List Tm}, Tm.fines L ts ↔ ∀ t ∈ ts, Tm.fine L t
  | [] => by simp [Tm.fines]
  | t :: ts => by simp [Tm.fines, Tm.fines_iff (ts := ts)]
mutual
theorem Tm.fine_mono {L M : Int} (h : L ≤ M) : ∀ {t : Tm}, Tm.fine L t → Tm.fine M t
  | .any n, z => by unfold Tm.fine at z ⊢; omega
  | .of x ts, z => by unfold Tm.fine at z ⊢; exact ⟨z.1, z.2.1, Tm.fines_mono h z.2.2⟩
theorem Tm.fines_mono {L M : Int} (h : L ≤ M) : ∀ {ts : List Tm}, Tm.fines L ts → Tm.fines M ts
  | [], z => True.intro
  | t :: ts, z => by unfold Tm.fines at z ⊢; exact ⟨Tm.fine_mono h z.1, Tm.fines_mono h z.2⟩
end
theorem name_len {x : Str} (h : nameOk x) : (PyData.shown (.str x)).length ≤ 82 := by
  have := PySem.StrLaws.reprText_len x h.2
  have h1 := h.1
  show (reprText x).length ≤ 82
  omega
theorem Tm.h_pos : ∀ t : Tm, 1 ≤ t.h
  | .any _ => Nat.le_refl _
  | .of _ ts => by unfold Tm.h; omega
mutual
theorem Tm.len {L : Int} (hL : L ≤ 1000) : ∀ (t : Tm) (n : Nat), t.fine L → t.h ≤ n → (PyData.shown t.dat).length ≤ 200 * 5 ^ n ∧ t.dat.showable = true
  | .any i, n, hf, hn => by
    unfold Tm.fine at hf
    obtain ⟨h1, h2⟩ := int_len hf.1 (by omega)
    have e1 : (PyData.shown (.str ("any" : Str))).length = 5 := by decide +kernel
    refine ⟨?_, ?_⟩
    · have := len_tuple [PyData.shown (.str ("any" : Str)), PyData.shown (.int i)]
      rw [piled_cons, piled_cons, piled_nil] at this
      have hp : 1 ≤ 5 ^ n := Nat.pow_pos (by omega)
      show (tupleText [PyData.shown (.str ("any" : Str)), PyData.shown (.int i)]).length ≤ _
      omega
    · show (PyData.showable (.str ("any" : Str)) && (PyData.showable (.int i) && true)) = true
      rw [h2]; rfl
  | .of x ts, 0, hf, hn => by unfold Tm.h at hn; omega
  | .of x ts, n + 1, hf, hn => by
    unfold Tm.fine at hf
    unfold Tm.h at hn
    obtain ⟨i1, i2, i3⟩ := Tm.lens hL ts n hf.2.2 (by omega)
    have h1 := name_len hf.1
    have e1 : (PyData.shown (.str ("of" : Str))).length = 4 := by decide +kernel
    have hl := hf.2.1
    refine ⟨?_, ?_⟩
    · have z := len_tuple [PyData.shown (.str ("of" : Str)), PyData.shown (.str x), tupleText (PyData.shownAll (Tm.dats ts))]
      rw [piled_cons, piled_cons, piled_cons, piled_nil] at z
      have z2 := len_tuple (PyData.shownAll (Tm.dats ts))
      have z3 := piled_le _ _ i1
      rw [i2] at z3
      have hp : 1 ≤ 5 ^ n := Nat.pow_pos (by omega)
      have e5 : 5 ^ (n + 1) = 5 * 5 ^ n := by rw [Nat.pow_succ]; omega
      have z4 : ts.length * (200 * 5 ^ n + 2) ≤ 4 * (200 * 5 ^ n + 2) := Nat.mul_le_mul_right _ hl
      show (tupleText [PyData.shown (.str ("of" : Str)), PyData.shown (.str x), tupleText (PyData.shownAll (Tm.dats ts))]).length ≤ _
      rw [e5]
      omega
    · show (PyData.showable (.str ("of" : Str)) && (PyData.showable (.str x) && (PyData.showableAll (Tm.dats ts) && true))) = true
      rw [i3]; rfl
theorem Tm.lens {L : Int} (hL : L ≤ 1000) : ∀ (ts : List Tm) (n : Nat), Tm.fines L ts → Tm.hs ts ≤ n → (∀ u ∈ PyData.shownAll (Tm.dats ts), u.length ≤ 200 * 5 ^ n) ∧ (PyData.shownAll (Tm.dats ts)).length = ts.length ∧ PyData.showableAll (Tm.dats ts) = true
  | [], n, _, _ => ⟨(fun u hu => nomatch hu), rfl, rfl⟩
  | t :: ts, n, hf, hn => by
    unfold Tm.fines at hf
    unfold Tm.hs at hn
    obtain ⟨h1, h2⟩ := Tm.len hL t n hf.1 (by omega)
    obtain ⟨i1, i2, i3⟩ := Tm.lens hL ts n hf.2 (by omega)
    refine ⟨fun u hu => ?_, ?_, ?_⟩
    · have hu' : u = PyData.shown t.dat ∨ u ∈ PyData.shownAll (Tm.dats ts) := by
        have : u ∈ PyData.shown t.dat :: PyData.shownAll (Tm.dats ts) := hu
        simpa using this
      rcases hu' with rfl | hu'
      · exact h1
      · exact i1 u hu'
    · show (PyData.shown t.dat :: PyData.shownAll (Tm.dats ts)).length = _
      rw [List.length_cons, List.length_cons, i2]
    · show (t.dat.showable && PyData.showableAll (Tm.dats ts)) = true
      rw [h2, i3]; rfl
end
end PD

set_option Elab.async false
set_option linter.all false
set_option maxRecDepth 100000
set_option maxHeartbeats 4000000
namespace PD
open PySem
open L2 (atI)

/-! ## things of any kind: data without dicts, short texts -/
mutual
def W.fit : W → Bool
  | .non => true
  | .bl _ => true
  | .int _ => true
  | .str x => decide (x.length ≤ 1000)
  | .tup xs => decide (xs.length ≤ 1000) && W.fits xs
  | .lst xs => decide (xs.length ≤ 1000) && W.fits xs
  | .dct ks ws => ks.isEmpty && ws.isEmpty
  | .ref _ => false
  | .exc _ _ _ => false
  | .ins _ _ _ => false
  | .fnv _ => false
def W.fits : List W → Bool
  | [] => true
  | x :: xs => W.fit x && W.fits xs
end
mutual
def W.deep : W → Nat
  | .tup xs => W.deeps xs + 1
  | .lst xs => W.deeps xs + 1
  | .dct _ _ => 1
  | _ => 0
def W.deeps : List W → Nat
  | [] => 0
  | x :: xs => max (W.deep x) (W.deeps xs)
end
mutual
def W.dt : W → PyData
  | .non => .none
  | .bl b => .bool b
  | .int i => .int i
  | .str x => .str x
  | .tup xs => .tuple (W.dts xs)
  | .lst xs => .list (W.dts xs)
  | .dct _ _ => .dict []
  | _ => .none
def W.dts : List W → List PyData
  | [] => []
  | x :: xs => W.dt x :: W.dts xs
end
mutual
theorem W.fit_d : ∀ w : W, w.fit = true → True ∧ w.dd = some w.dt ∧ w.dt.depth = w.deep
  | .non, _ => ⟨.intro, rfl, rfl⟩
  | .bl _, _ => ⟨.intro, rfl, rfl⟩
  | .int _, _ => ⟨.intro, rfl, rfl⟩
  | .str _, _ => ⟨.intro, rfl, rfl⟩
  | .tup xs, h => by
    have h' : (decide (xs.length ≤ 1000) && W.fits xs) = true := h
    obtain ⟨b, d⟩ := W.fits_d xs (ba2 h').2
    refine ⟨.intro, ?_, ?_⟩
    · show (W.dds xs).map PyData.tuple = _; rw [b]; rfl
    · show PyData.depthAll (W.dts xs) + 1 = W.deeps xs + 1; rw [d]
  | .lst xs, h => by
    have h' : (decide (xs.length ≤ 1000) && W.fits xs) = true := h
    obtain ⟨b, d⟩ := W.fits_d xs (ba2 h').2
    refine ⟨.intro, ?_, ?_⟩
    · show (W.dds xs).map PyData.list = _; rw [b]; rfl
    · show PyData.depthAll (W.dts xs) + 1 = W.deeps xs + 1; rw [d]
  | .dct ks ws, h => by
    have h' : (ks.isEmpty && ws.isEmpty) = true := h
    obtain ⟨h1, h2⟩ := ba2 h'
    cases ks with
    | cons => cases h1
    | nil =>
      cases ws with
      | cons => cases h2
      | nil => exact ⟨.intro, rfl, rfl⟩
  | .ref _, h => nomatch h
  | .exc _ _ _, h => nomatch h
  | .ins _ _ _, h => nomatch h
  | .fnv _, h => nomatch h
theorem W.fits_d : ∀ ws : List W, W.fits ws = true → W.dds ws = some (W.dts ws) ∧ PyData.depthAll (W.dts ws) = W.deeps ws
  | [], _ => ⟨rfl, rfl⟩
  | w :: ws, h => by
    have h' : (W.fit w && W.fits ws) = true := h
    obtain ⟨h1, h2⟩ := ba2 h'
    obtain ⟨_, b, d⟩ := W.fit_d w h1
    obtain ⟨b', d'⟩ := W.fits_d ws h2
    refine ⟨?_, ?_⟩
    · show ((W.dd w).bind fun x => (W.dds ws).map fun r => x :: r) = _; rw [b, b']; rfl
    · show max (PyData.depth (W.dt w)) (PyData.depthAll (W.dts ws)) = max (W.deep w) (W.deeps ws); rw [d, d']
end
theorem fits_iff : ∀ {ws : List W}, W.fits ws = true ↔ ∀ w ∈ ws, w.fit = true
  | [] => by simp [W.fits]
  | w :: ws => by simp [W.fits, fits_iff (ws := ws)]
theorem deeps_mem : ∀ {ws : List W} {w : W}, w ∈ ws → w.deep ≤ W.deeps ws
  | u :: ws, w, h => by
    show w.deep ≤ max u.deep (W.deeps ws)
    rcases List.mem_cons.mp h with z | z
    · subst z; omega
    · have := deeps_mem z; omega
theorem deeps_le {n : Nat} : ∀ {ws : List W}, (∀ w ∈ ws, w.deep ≤ n) → W.deeps ws ≤ n
  | [], _ => Nat.zero_le _
  | u :: ws, h => by
    show max u.deep (W.deeps ws) ≤ n
    have h1 := h u (by simp)
    have h2 := deeps_le (ws := ws) fun w hw => h w (by simp [hw])
    omega
theorem fit_tup {xs : List W} (hl : xs.length ≤ 1000) (h : ∀ w ∈ xs, w.fit = true) : (W.tup xs).fit = true := by
  show (decide (xs.length ≤ 1000) && W.fits xs) = true
  rw [decide_eq_true hl, fits_iff.mpr h]; rfl
theorem fit_lst {xs : List W} (hl : xs.length ≤ 1000) (h : ∀ w ∈ xs, w.fit = true) : (W.lst xs).fit = true := fit_tup hl h
/-- signs beside the empty row -/
theorem ds_strs : ∀ us : List Str, W.ds (us.map W.str) = some (us.map PyData.str) ∧ PyData.plainAll (us.map PyData.str) = true ∧ PyData.depthAll (us.map PyData.str) = 0
  | [] => ⟨rfl, rfl, rfl⟩
  | u :: us => by
    obtain ⟨a, b, c⟩ := ds_strs us
    refine ⟨?_, ?_, ?_⟩
    · show ((some (PyData.str u)).bind fun x => (W.ds (us.map W.str)).map fun r => x :: r) = _; rw [a]; rfl
    · exact b
    · show max 0 (PyData.depthAll (us.map PyData.str)) = 0; rw [c]; rfl
theorem eqW_strs {us : List Str} : eqW (.lst (us.map W.str)) (.lst []) = some us.isEmpty := by
  obtain ⟨a, b, c⟩ := ds_strs us
  have h1 : (W.lst (us.map W.str)).d = some (.list (us.map PyData.str)) := by
    show (W.ds (us.map W.str)).map PyData.list = _; rw [a]; rfl
  have h2 : okD (.list (us.map PyData.str)) = true := by
    have e : okD (.list (us.map PyData.str)) = (PyData.plainAll (us.map PyData.str) && decide (PyData.depthAll (us.map PyData.str) + 1 ≤ 60)) := rfl
    rw [e, b, c]; rfl
  rw [eqW_of h1 (b := .lst []) (y := .list []) rfl h2 (by decide)]
  cases us <;> rfl
mutual
theorem Tm.w_fit {L : Int} : ∀ t : Tm, t.fine L → t.w.fit = true
  | .any n, _ => rfl
  | .of x ts, h => by
    unfold Tm.fine at h
    have h1 := Tm.ws_fit ts h.2.2
    have h2 : (Tm.ws ts).length ≤ 1000 := by rw [Tm.ws_eq, List.length_map]; have := h.2.1; omega
    have h3 := h.1.1
    have h4 : x.length ≤ 1000 := by omega
    have e : (("of" : String) : Str).length ≤ 1000 := by decide +kernel
    simp [Tm.w, W.fit, W.fits, h1, h2, h4, e]
theorem Tm.ws_fit {L : Int} : ∀ ts : List Tm, Tm.fines L ts → W.fits (Tm.ws ts) = true
  | [], _ => rfl
  | t :: ts, h => by
    unfold Tm.fines at h
    show (W.fit t.w && W.fits (Tm.ws ts)) = true
    rw [Tm.w_fit t h.1, Tm.ws_fit ts h.2]; rfl
end
theorem un_not {b : Bool} : unW .Not (.bl b) = some (.bl (!b)) := rfl
theorem cmp_in {a b : W} : cmpW .In a b = inW a b := rfl
theorem in_str {c : Nat} {z : Str} : inW (.str ⟨#[c]⟩) (.str z) = some (decide (c ∈ z.cps.toList)) := rfl
theorem len_str {z : Str} (h : z.length ≤ 1000) : lenW (.str z) = some (.int z.length) := if_pos (szl (by omega))
theorem len_tup {xs : List W} : lenW (.tup xs) = some (.int xs.length) := rfl
theorem items_str {x : Str} : itemsW (.str x) = some (signs x) := rfl
theorem bools_map {α : Type} (f : α → Bool) : ∀ us : List α, boolsW (us.map fun u => W.bl (f u)) = some (us.map f)
  | [] => rfl
  | u :: us => by
    show (boolsW (us.map fun u => W.bl (f u))).map (f u :: ·) = _
    rw [bools_map f us]; rfl
end PD

set_option Elab.async false
set_option linter.all false
set_option maxRecDepth 100000
set_option maxHeartbeats 4000000
namespace PD
open PySem PyProof.Rows
open L2 (atI)

/-! ## things whose text is short -/
structure okT (D B : Nat) (w : W) : Prop where
  fit : w.fit = true
  deep : w.deep ≤ D
  sh : w.dt.showable = true
  len : w.dt.shown.length ≤ B
theorem okT.mono {D D' B B' : Nat} {w : W} (h : okT D B w) (h1 : D ≤ D') (h2 : B ≤ B') : okT D' B' w := ⟨h.fit, Nat.le_trans h.deep h1, h.sh, Nat.le_trans h.len h2⟩
theorem shown_dts {B : Nat} : ∀ {xs : List W}, (∀ x ∈ xs, x.dt.showable = true ∧ x.dt.shown.length ≤ B) → PyData.showableAll (W.dts xs) = true ∧ (∀ u ∈ PyData.shownAll (W.dts xs), u.length ≤ B) ∧ (PyData.shownAll (W.dts xs)).length = xs.length
  | [], _ => ⟨rfl, (fun u hu => nomatch hu), rfl⟩
  | x :: xs, h => by
    obtain ⟨i1, i2, i3⟩ := shown_dts (xs := xs) fun y hy => h y (by simp [hy])
    obtain ⟨h1, h2⟩ := h x (by simp)
    refine ⟨?_, fun u hu => ?_, ?_⟩
    · show (x.dt.showable && PyData.showableAll (W.dts xs)) = true
      rw [h1, i1]; rfl
    · have hu' : u ∈ PyData.shown x.dt :: PyData.shownAll (W.dts xs) := hu
      rcases List.mem_cons.mp hu' with rfl | z
      · exact h2
      · exact i2 u z
    · show (PyData.shown x.dt :: PyData.shownAll (W.dts xs)).length = _
      rw [List.length_cons, List.length_cons, i3]
theorem okT_tup {D B : Nat} {xs : List W} (hl : xs.length ≤ 1000) (h : ∀ x ∈ xs, okT D B x) : okT (D + 1) (xs.length * (B + 2) + 3) (.tup xs) := by
  obtain ⟨a, b, c⟩ := shown_dts fun x hx => ⟨(h x hx).sh, (h x hx).len⟩
  refine ⟨fit_tup hl fun x hx => (h x hx).fit, ?_, a, ?_⟩
  · show W.deeps xs + 1 ≤ D + 1
    have := deeps_le fun x hx => (h x hx).deep
    omega
  · show (tupleText (PyData.shownAll (W.dts xs))).length ≤ _
    have z := len_tuple (PyData.shownAll (W.dts xs))
    have z2 := piled_le _ _ b
    rw [c] at z2
    omega
theorem okT_lst {D B : Nat} {xs : List W} (hl : xs.length ≤ 1000) (h : ∀ x ∈ xs, okT D B x) : okT (D + 1) (xs.length * (B + 2) + 3) (.lst xs) := by
  obtain ⟨a, b, c⟩ := shown_dts fun x hx => ⟨(h x hx).sh, (h x hx).len⟩
  refine ⟨fit_lst hl fun x hx => (h x hx).fit, ?_, a, ?_⟩
  · show W.deeps xs + 1 ≤ D + 1
    have := deeps_le fun x hx => (h x hx).deep
    omega
  · show (listText (PyData.shownAll (W.dts xs))).length ≤ _
    have z := len_list (PyData.shownAll (W.dts xs))
    have z2 := piled_le _ _ b
    rw [c] at z2
    omega
theorem okT_tup3 {D B1 B2 B3 : Nat} {a b c : W} (h1 : okT D B1 a) (h2 : okT D B2 b) (h3 : okT D B3 c) : okT (D + 1) (B1 + B2 + B3 + 9) (.tup [a, b, c]) := by
  refine ⟨fit_tup (by simp) fun y hy => ?_, ?_, ?_, ?_⟩
  · simp only [List.mem_cons, List.not_mem_nil, or_false] at hy
    rcases hy with rfl | rfl | rfl
    · exact h1.fit
    · exact h2.fit
    · exact h3.fit
  · show W.deeps [a, b, c] + 1 ≤ D + 1
    have := deeps_le (n := D) (ws := [a, b, c]) fun y hy => by
      simp only [List.mem_cons, List.not_mem_nil, or_false] at hy
      rcases hy with rfl | rfl | rfl
      · exact h1.deep
      · exact h2.deep
      · exact h3.deep
    omega
  · show (a.dt.showable && (b.dt.showable && (c.dt.showable && true))) = true
    rw [h1.sh, h2.sh, h3.sh]; rfl
  · show (tupleText [a.dt.shown, b.dt.shown, c.dt.shown]).length ≤ _
    have z := len_tuple [a.dt.shown, b.dt.shown, c.dt.shown]
    rw [piled_cons, piled_cons, piled_cons, piled_nil] at z
    have z1 := h1.len
    have z2 := h2.len
    have z3 := h3.len
    omega
theorem okT_str {x : Str} (h : nameOk x) : okT 0 82 (.str x) := ⟨by show decide (x.length ≤ 1000) = true; exact decide_eq_true (by have := h.1; omega), Nat.le_refl _, rfl, name_len h⟩
theorem Tm.dt_eq {L : Int} {t : Tm} (h : t.fine L) : t.w.dt = t.dat := by
  have h1 := (W.fit_d t.w (Tm.w_fit t h)).2.1
  rw [Tm.w_dd] at h1
  exact (Option.some.inj h1).symm
theorem Tm.okT {L : Int} (hL : L ≤ 1000) {t : Tm} {n : Nat} (h : t.fine L) (hn : t.h ≤ n) : okT (2 * n + 1) (200 * 5 ^ n) t.w := by
  obtain ⟨a, b⟩ := Tm.len hL t n h hn
  refine ⟨Tm.w_fit t h, ?_, ?_, ?_⟩
  · have := (W.fit_d t.w (Tm.w_fit t h)).2.2
    rw [Tm.dt_eq h] at this
    have z := Tm.depth t
    omega
  · rw [Tm.dt_eq h]; exact b
  · rw [Tm.dt_eq h]; exact a
/-- its text is kept -/
theorem okT.repr {D B : Nat} {w : W} {S : Sto} {Q : QW} (h : okT D B w) (hD : D ≤ 100) (hB : B ≤ 16777216) (q : Q (.str w.dt.shown) S) : biW .repr [w] S Q :=
  ⟨w.dt, (W.fit_d w h.fit).2.1, h.sh, szl (Nat.le_trans h.len hB), by rw [(W.fit_d w h.fit).2.2]; exact Nat.le_trans h.deep hD, q⟩
theorem add_tup {x y : List W} (h : x.length + y.length ≤ 1000) : binW .Add (.tup x) (.tup y) = some (.tup (x ++ y)) := if_pos (szl (by omega))
theorem slc_tup {xs : List W} {lo hi : Option Int} : slcW (.tup xs) lo hi = some (.tup (cutW xs lo hi)) := rfl
theorem cut_take {xs : List W} {k : Nat} : cutW xs none (some (k : Int)) = xs.take k := by
  unfold cutW
  rw [HT.sIx_none, HT.sIx_nat, List.drop_zero, Nat.sub_zero]
  by_cases h : k ≤ xs.length
  · rw [Nat.min_eq_left h]
  · rw [Nat.min_eq_right (by omega), List.take_of_length_le (Nat.le_refl _), List.take_of_length_le (by omega)]
theorem cut_drop {xs : List W} {k : Nat} : cutW xs (some (k : Int)) none = xs.drop k := by
  unfold cutW
  rw [HT.sIx_none, HT.sIx_nat]
  by_cases h : k ≤ xs.length
  · rw [Nat.min_eq_left h, List.take_of_length_le (by rw [List.length_drop]; omega)]
  · rw [Nat.min_eq_right (by omega), List.drop_of_length_le (Nat.le_refl _), List.drop_of_length_le (by omega), List.take_nil]
theorem mul_tup {x : List W} {j : Int} (h : 2 ≤ j ∧ j ≤ 1000) (hx : x.length ≤ 1000) (hn : x ≠ []) : binW .Mult (.tup x) (.int j) = some (.tup (List.replicate j.toNat x).flatten) := by
  show (if j = 1 then _ else if _ then _ else if _ then _ else _) = _
  rw [if_neg (by omega), if_neg (fun z => by omega), if_pos ⟨h.1, h.2, hx, hn⟩]
theorem mul_tup1 {x : List W} : binW .Mult (.tup x) (.int 1) = some (.tup x) := by
  unfold binW
  rfl
theorem enum_mem {xs : List W} {x : W} (h : x ∈ enumW xs) : ∃ (i : Nat) (y : W), x = .tup [.int (i : Int), y] ∧ xs[i]? = some y := by
  unfold enumW at h
  obtain ⟨p, hp, rfl⟩ := List.mem_map.mp h
  obtain ⟨y, i⟩ := p
  exact ⟨i, y, rfl, List.mem_zipIdx_iff_getElem?.mp hp⟩
theorem enum_len {xs : List W} : (enumW xs).length = xs.length := by
  unfold enumW
  rw [List.length_map, List.length_zipIdx]
/-- the row kept at a place: what follows it -/
theorem Tm.ws_get {ts : List Tm} {i : Nat} {y : W} (h : (Tm.ws ts)[i]? = some y) : ∃ u, ts[i]? = some u ∧ y = u.w := by
  rw [Tm.ws_eq, List.getElem?_map] at h
  cases q : ts[i]? with
  | none => rw [q] at h; cases h
  | some u => rw [q] at h; cases h; exact ⟨u, rfl, rfl⟩
theorem Tm.hs_mem : ∀ {ts : List Tm} {u : Tm}, u ∈ ts → u.h ≤ Tm.hs ts
  | t :: ts, u, h => by
    show u.h ≤ max t.h (Tm.hs ts)
    rcases List.mem_cons.mp h with z | z
    · subst z; omega
    · have := Tm.hs_mem z; omega
/-- fits, not deep -/
def fitD (n : Nat) (w : W) : Prop := w.fit = true ∧ w.deep ≤ n
theorem fitD_tup {n : Nat} {xs : List W} (hl : xs.length ≤ 1000) (h : ∀ x ∈ xs, fitD n x) : fitD (n + 1) (.tup xs) := by
  refine ⟨fit_tup hl fun x hx => (h x hx).1, ?_⟩
  show W.deeps xs + 1 ≤ n + 1
  have := deeps_le fun x hx => (h x hx).2
  omega
theorem fitD.mono {n m : Nat} {w : W} (h : fitD n w) (hm : n ≤ m) : fitD m w := ⟨h.1, Nat.le_trans h.2 hm⟩
theorem ex_or2 {xs : List W} {P : List W → Prop} : (∃ ys, (W.tup xs = .lst ys ∨ W.tup xs = .tup ys) ∧ P ys) ↔ P xs :=
  ⟨fun ⟨ys, e, h⟩ => by rcases e with e | e <;> cases e; exact h, fun h => ⟨xs, .inr rfl, h⟩⟩
theorem un_usub {i : Int} : unW .USub (.int i) = some (.int (-i)) := rfl
theorem ne_str {x : Str} : cmpW .NotEq (.str x) (.str x) = some false := by
  rw [cmp_ne, eqW_str]; simp
theorem ne_bl {x y : Bool} : cmpW .NotEq (.bl x) (.bl y) = some (!(x == y)) := rfl
end PD

set_option Elab.async false
set_option linter.all false
set_option maxRecDepth 100000
set_option maxHeartbeats 4000000
namespace PD
open PySem PyProof.Rows
open L2 (atI)

/-! ## what is told of itself -/
def nrB : W → Bool
  | .ref _ => false
  | _ => true
theorem rd_nr {S : Sto} {w : W} (h : nrB w = true) : rd S w = w := by
  cases w <;> first | rfl | cases h
def binS : Operator → W → W → Option W
  | .Add, .lst x, .lst y => if x.length + y.length ≤ 1000 then some (.lst (x ++ y)) else none
  | .Add, .tup x, .tup y => if x.length + y.length ≤ 1000 then some (.tup (x ++ y)) else none
  | .Add, .str _, .str _ => none
  | op, x, y => binW op x y
theorem binS_ok {op : Operator} {x y r : W} (h : binS op x y = some r) : binW op x y = some r := by
  unfold binS at h
  split at h
  · split at h
    · rename_i hl; cases h; exact add_lst hl
    · cases h
  · split at h
    · rename_i hl; cases h; exact add_tup hl
    · cases h
  · cases h
  · exact h
mutual
def evE (σ : Sl) : E → Option W
  | .loc i => match σ[i]? with
    | some (some w) => some w
    | _ => none
  | .lit l => some l.w
  | .tup es => (evEs σ es).bind fun ws => if ws.length ≤ 1000 then some (.tup ws) else none
  | .lst false es => (evEs σ es).bind fun ws => if ws.length ≤ 1000 then some (.lst ws) else none
  | .dct false .nil => some (.dct [] [])
  | .frz (.bi .list (.cons a .nil)) => (evE σ a).bind fun x => match x with
    | .tup xs => some (.lst xs)
    | _ => none
  | .un op a => (evE σ a).bind fun x => unW op x
  | .ix a b => (evE σ a).bind fun x => (evE σ b).bind fun y => if nrB x then ixW x y else none
  | .bin op a b => (evE σ a).bind fun x => (evE σ b).bind fun y => if nrB x && nrB y then binS op x y else none
  | _ => none
def evEs (σ : Sl) : Es → Option (List W)
  | .nil => some []
  | .cons e es => (evE σ e).bind fun w => (evEs σ es).bind fun ws => some (w :: ws)
end
section
variable {C : Cn} {σ : Sl} {S : Sto} {X : QW}
mutual
theorem evE_ok : ∀ {e : E} {w : W} {Q : QW}, evE σ e = some w → Q w S → wE C e σ S Q X
  | .loc i, w, Q, h, q => by
    unfold evE at h
    split at h
    · rename_i w' e; cases h; exact ⟨_, e, q⟩
    · cases h
  | .lit l, w, Q, h, q => by
    unfold evE at h; cases h; exact q
  | .tup es, w, Q, h, q => by
    unfold evE at h
    cases e : evEs σ es with
    | none => rw [e] at h; cases h
    | some ws =>
      rw [e] at h
      have h' : (if ws.length ≤ 1000 then some (W.tup ws) else none) = some w := h
      split at h'
      · rename_i hl; cases h'
        exact evEs_ok e ⟨szl (by omega), q⟩
      · cases h'
  | .lst false es, w, Q, h, q => by
    unfold evE at h
    cases e : evEs σ es with
    | none => rw [e] at h; cases h
    | some ws =>
      rw [e] at h
      have h' : (if ws.length ≤ 1000 then some (W.lst ws) else none) = some w := h
      split at h'
      · rename_i hl; cases h'
        exact evEs_ok e ⟨szl (by omega), q⟩
      · cases h'
  | .dct false .nil, w, Q, h, q => by
    unfold evE at h; cases h
    intro p hp
    refine ⟨Sto.set_same, [], rfl, by decide, ?_⟩
    have : (S.set p (.dct [] [])).del p = S := Sto.del_set hp
    show Q (.dct [] []) ((S.set p (.dct [] [])).del p)
    rw [this]; exact q
  | .frz (.bi .list (.cons a .nil)), w, Q, h, q => by
    unfold evE at h
    cases e : evE σ a with
    | none => rw [e] at h; cases h
    | some x =>
      rw [e] at h
      cases x <;> first | (cases h; done) | skip
      cases h
      rename_i xs
      simp only [wE, wEs]
      refine evE_ok e ?_
      simp only [biW]
      refine ⟨xs, .inr (.inl rfl), fun p hp => ⟨p, rfl, .inl ⟨xs, Sto.set_same, ?_⟩⟩⟩
      rw [Sto.del_set hp]
      exact q
  | .un op a, w, Q, h, q => by
    unfold evE at h
    cases e : evE σ a with
    | none => rw [e] at h; cases h
    | some x => rw [e] at h; exact evE_ok (e := a) e ⟨_, h, q⟩
  | .bin op a b, w, Q, h, q => by
    unfold evE at h
    cases e : evE σ a with
    | none => rw [e] at h; cases h
    | some x =>
      cases e2 : evE σ b with
      | none => rw [e, e2] at h; cases h
      | some y =>
        rw [e, e2] at h
        have h' : (if nrB x && nrB y then binS op x y else none) = some w := h
        split at h'
        · rename_i hn
          obtain ⟨n1, n2⟩ := ba2 hn
          exact evE_ok (e := a) e (evE_ok (e := b) e2 ⟨_, by rw [rd_nr n1, rd_nr n2]; exact binS_ok h', q⟩)
        · cases h'
  | .glob _, _, _, h, _ => by unfold evE at h; cases h
  | .lst true _, _, _, h, _ => by unfold evE at h; cases h
  | .dct true _, _, _, h, _ => by unfold evE at h; cases h
  | .dct false (.cons _ _), _, _, h, _ => by unfold evE at h; cases h
  | .and2 _ _, _, _, h, _ => by unfold evE at h; cases h
  | .or2 _ _, _, _, h, _ => by unfold evE at h; cases h
  | .cmp _ _ _, _, _, h, _ => by unfold evE at h; cases h
  | .cmp3 _ _ _ _ _, _, _, h, _ => by unfold evE at h; cases h
  | .ifx _ _ _, _, _, h, _ => by unfold evE at h; cases h
  | .ix a b, w, Q, h, q => by
    unfold evE at h
    cases e : evE σ a with
    | none => rw [e] at h; cases h
    | some x =>
      cases e2 : evE σ b with
      | none => rw [e, e2] at h; cases h
      | some y =>
        rw [e, e2] at h
        have h' : (if nrB x = true then ixW x y else none) = some w := h
        split at h'
        · rename_i hx
          exact evE_ok (e := a) e (evE_ok (e := b) e2 ⟨w, by rw [rd_nr hx]; exact h', q⟩)
        · cases h'
  | .slc _ _ _, _, _, h, _ => by unfold evE at h; cases h
  | .callv _ _, _, _, h, _ => by unfold evE at h; cases h
  | .call _ _, _, _, h, _ => by unfold evE at h; cases h
  | .bi _ _, _, _, h, _ => by unfold evE at h; cases h
  | .meth _ _ _, _, _, h, _ => by unfold evE at h; cases h
  | .comp _ _ _ _ _ _, _, _, h, _ => by unfold evE at h; cases h
  | .cat _ _, _, _, h, _ => by unfold evE at h; cases h
  | .isa _ _, _, _, h, _ => by unfold evE at h; cases h
  | .frz (.loc _), _, _, h, _ => by unfold evE at h; cases h
  | .frz (.lit _), _, _, h, _ => by unfold evE at h; cases h
  | .frz (.glob _), _, _, h, _ => by unfold evE at h; cases h
  | .frz (.tup _), _, _, h, _ => by unfold evE at h; cases h
  | .frz (.lst _ _), _, _, h, _ => by unfold evE at h; cases h
  | .frz (.dct _ _), _, _, h, _ => by unfold evE at h; cases h
  | .frz (.bin _ _ _), _, _, h, _ => by unfold evE at h; cases h
  | .frz (.un _ _), _, _, h, _ => by unfold evE at h; cases h
  | .frz (.and2 _ _), _, _, h, _ => by unfold evE at h; cases h
  | .frz (.or2 _ _), _, _, h, _ => by unfold evE at h; cases h
  | .frz (.cmp _ _ _), _, _, h, _ => by unfold evE at h; cases h
  | .frz (.cmp3 _ _ _ _ _), _, _, h, _ => by unfold evE at h; cases h
  | .frz (.ifx _ _ _), _, _, h, _ => by unfold evE at h; cases h
  | .frz (.ix _ _), _, _, h, _ => by unfold evE at h; cases h
  | .frz (.slc _ _ _), _, _, h, _ => by unfold evE at h; cases h
  | .frz (.call _ _), _, _, h, _ => by unfold evE at h; cases h
  | .frz (.meth _ _ _), _, _, h, _ => by unfold evE at h; cases h
  | .frz (.comp _ _ _ _ _ _), _, _, h, _ => by unfold evE at h; cases h
  | .frz (.cat _ _), _, _, h, _ => by unfold evE at h; cases h
  | .frz (.isa _ _), _, _, h, _ => by unfold evE at h; cases h
  | .frz (.frz _), _, _, h, _ => by unfold evE at h; cases h
  | .frz (.fld _ _ _), _, _, h, _ => by unfold evE at h; cases h
  | .frz (.own _ _ _ _ _), _, _, h, _ => by unfold evE at h; cases h
  | .frz (.xfl _ _), _, _, h, _ => by unfold evE at h; cases h
  | .frz (.isx _ _), _, _, h, _ => by unfold evE at h; cases h
  | .frz (.isi _ _), _, _, h, _ => by unfold evE at h; cases h
  | .frz (.callv _ _), _, _, h, _ => by unfold evE at h; cases h
  | .frz (.inp _ _ _), _, _, h, _ => by unfold evE at h; cases h
  | .frz (.lzip _ _), _, _, h, _ => by unfold evE at h; cases h
  | .frz (.sos _), _, _, h, _ => by unfold evE at h; cases h
  | .frz (.maxd _ _), _, _, h, _ => by unfold evE at h; cases h
  | .frz (.cmpo _ _ _ _ _), _, _, h, _ => by unfold evE at h; cases h
  | .frz (.dcomp _ _ _ _ _), _, _, h, _ => by unfold evE at h; cases h
  | .frz (.comp2 _ _ _ _ _ _ _ _), _, _, h, _ => by unfold evE at h; cases h
  | .frz (.bi .len _), _, _, h, _ => by unfold evE at h; cases h
  | .frz (.bi .abs _), _, _, h, _ => by unfold evE at h; cases h
  | .frz (.bi .tuple _), _, _, h, _ => by unfold evE at h; cases h
  | .frz (.bi .sum _), _, _, h, _ => by unfold evE at h; cases h
  | .frz (.bi .any _), _, _, h, _ => by unfold evE at h; cases h
  | .frz (.bi .all _), _, _, h, _ => by unfold evE at h; cases h
  | .frz (.bi .repr _), _, _, h, _ => by unfold evE at h; cases h
  | .frz (.bi .int _), _, _, h, _ => by unfold evE at h; cases h
  | .frz (.bi .dict _), _, _, h, _ => by unfold evE at h; cases h
  | .frz (.bi .max _), _, _, h, _ => by unfold evE at h; cases h
  | .frz (.bi .sorted _), _, _, h, _ => by unfold evE at h; cases h
  | .frz (.bi .reprd _), _, _, h, _ => by unfold evE at h; cases h
  | .frz (.bi .list .nil), _, _, h, _ => by unfold evE at h; cases h
  | .frz (.bi .list (.cons _ (.cons _ _))), _, _, h, _ => by unfold evE at h; cases h
theorem evEs_ok : ∀ {es : Es} {ws : List W} {Q : List W → Sto → Prop}, evEs σ es = some ws → Q ws S → wEs C es σ S Q X
  | .nil, ws, Q, h, q => by unfold evEs at h; cases h; exact q
  | .cons e es, ws, Q, h, q => by
    unfold evEs at h
    cases e1 : evE σ e with
    | none => rw [e1] at h; cases h
    | some x =>
      cases e2 : evEs σ es with
      | none => rw [e1, e2] at h; cases h
      | some r =>
        rw [e1, e2] at h
        cases h
        exact evE_ok (e := e) e1 (evEs_ok (es := es) e2 q)
end
end
section
variable {C : Cn} {σ : Sl} {S : Sto} {D : En} {r : Sts}
theorem st_setE {i : Nat} {e : E} {w : W} (h : evE σ e = some w) (hi : Nat.blt i σ.length = true) (q : wSs C r D (σ.set i (some w)) S) : wSs C (.cons (.set (.name i) e) r) D σ S := by
  simp only [wSs, wS, Tg.go]
  exact evE_ok h ⟨Nat.blt_eq.mp hi, q⟩
theorem st_setL {i : Nat} {es : Es} {ws : List W} (h : evEs σ es = some ws) (hl : Nat.ble ws.length 1000 = true) (hi : Nat.blt i σ.length = true) (q : ∀ p, S p = none → wSs C r D (σ.set i (some (.ref p))) (S.set p (.lst ws))) :
    wSs C (.cons (.set (.name i) (.lst true es)) r) D σ S := by
  simp only [wSs, wS, wE, Tg.go, if_true]
  have := Nat.le_of_ble_eq_true hl
  exact evEs_ok h ⟨szl (by omega), fun p hp => ⟨Nat.blt_eq.mp hi, q p hp⟩⟩
theorem st_cat {i j : Nat} {e : E} {xs ys : List W} (hj : σ[j]? = some (some (.lst xs))) (h : evE σ e = some (.lst ys)) (hl : Nat.ble (xs.length + ys.length) 1000 = true) (hi : Nat.blt i σ.length = true)
    (q : ∀ p, S p = none → wSs C r D (σ.set i (some (.ref p))) (S.set p (.lst (xs ++ ys)))) : wSs C (.cons (.set (.name i) (.cat (.loc j) e)) r) D σ S := by
  simp only [wSs, wS, wE, Tg.go]
  have := Nat.le_of_ble_eq_true hl
  exact ⟨_, hj, evE_ok h ⟨xs, ys, rfl, rfl, szl (by omega), fun p hp => ⟨Nat.blt_eq.mp hi, q p hp⟩⟩⟩
theorem st_app {j : Nat} {e : E} {p : Addr} {xs : List W} {w : W} (hj : σ[j]? = some (some (.ref p))) (hp : S p = some (.lst xs)) (h : evE σ e = some w) (hl : Nat.ble xs.length 1000 = true) (q : wSs C r D σ (S.set p (.lst (xs ++ [w])))) :
    wSs C (.cons (.expr (.meth .append (.loc j) (.cons e .nil))) r) D σ S := by
  simp only [wSs, wS, wE, wEs]
  exact ⟨_, hj, by rw [rd_r hp]; rfl, evE_ok h ⟨xs, hp, Nat.lt_of_lt_of_le (Nat.lt_succ_of_le (Nat.le_of_ble_eq_true hl)) (szl (by omega)), q⟩⟩
theorem st_fz {i : Nat} {p : Addr} {xs : List W} (hi : σ[i]? = some (some (.ref p))) (hl : Nat.blt i σ.length = true) (hp : S p = some (.lst xs)) (q : wSs C r D (σ.set i (some (.lst xs))) (S.del p)) : wSs C (.fz i r) D σ S := by
  simp only [wSs]
  exact ⟨p, hi, Nat.blt_eq.mp hl, .inl ⟨xs, hp, q⟩⟩
theorem st_forE {t : Tg} {e : E} {b : Sts} {w : W} {xs : List W} (h : evE σ e = some w) (hw : itemsW w = some xs)
    (q : loopF (fun D' x σ' S' => t.go x σ' fun σ2 => wSs C b D' σ2 S') { D with nx := fun σ' S' => wSs C r D σ' S' } xs σ S) : wSs C (.cons (.forr t (.ex e) b) r) D σ S := by
  simp only [wSs, wS, wI]
  exact evE_ok h ⟨xs, hw, q⟩
theorem st_forR {t : Tg} {e : E} {b : Sts} {j : Int} (h : evE σ e = some (.int j)) (h0 : -(2 ^ 62) ≤ j) (h1 : j < 2 ^ 62)
    (q : loopF (fun D' x σ' S' => t.go x σ' fun σ2 => wSs C b D' σ2 S') { D with nx := fun σ' S' => wSs C r D σ' S' } (rgW 0 j.toNat) σ S) : wSs C (.cons (.forr t (.rng1 e) b) r) D σ S := by
  simp only [wSs, wS, wI]
  exact evE_ok h ⟨j, rfl, h0, h1, q⟩
theorem go_name {i : Nat} {w : W} {Q : Sl → Prop} (h : Nat.blt i σ.length = true) (q : Q (σ.set i (some w))) : Tg.go (.name i) w σ Q := ⟨Nat.blt_eq.mp h, q⟩
theorem st_ret {e : E} {w : W} (h : evE σ e = some w) (q : D.rt w S) : wSs C (.cons (.ret e) r) D σ S := by
  simp only [wSs, wS]
  exact evE_ok h q
theorem st_forN {t : Tg} {e : E} {b : Sts} {w : W} {xs : List W} (h : evE σ e = some w) (hw : w = .lst xs ∨ w = .tup xs)
    (q : loopF (fun D' x σ' S' => t.go x σ' fun σ2 => wSs C b D' σ2 S') { D with nx := fun σ' S' => wSs C r D σ' S' } (enumW xs) σ S) : wSs C (.cons (.forr t (.enum e) b) r) D σ S := by
  simp only [wSs, wS, wI]
  exact evE_ok h ⟨xs, hw, q⟩
theorem go_two {i j : Nat} {v w : W} {Q : Sl → Prop} (hi : Nat.blt i σ.length = true) (hj : Nat.blt j σ.length = true) (q : Q ((σ.set i (some v)).set j (some w))) : Tg.go (.tup [.name i, .name j]) (.tup [v, w]) σ Q :=
  ⟨_, rfl, rfl, v, [w], rfl, Nat.blt_eq.mp hi, w, [], rfl, by rw [List.length_set]; exact Nat.blt_eq.mp hj, rfl, q⟩
end
end PD

set_option Elab.async false
set_option linter.all false
set_option maxRecDepth 100000
set_option maxHeartbeats 4000000
namespace K29
open PySem PySem.Spec PyProof.Rows L2 PD

/-! ### the text's defs -/
def top (i : Nat) : Stmt := PySem.Challenge.pw_nothingnew_k29_idle_and_within.main.body.getD i (.Pass ⟨0, 0, 0, 0⟩)
def sub (i j : Nat) : Stmt := match top i with
  | .ClassDef _ _ _ body _ _ _ _ _ _ _ => body.getD j (.Pass ⟨0, 0, 0, 0⟩)
  | _ => .Pass ⟨0, 0, 0, 0⟩
def b_is_letter : Sts :=
      (.cons (.ret (.cmp .Eq (.ix (.loc 0) (.lit (.int 0))) (.lit (.str "any"))))
      .nil)
def f_is_letter : Fd := ⟨"is_letter", ["term"], ["term"], b_is_letter, none, false, none, false⟩
def d_is_letter : He.DefD := ⟨("is_letter", none), "is_letter", "is_letter", defArgs (top 1), defBody (top 1), defScope (top 1), [], []⟩
def b_fit_on_1 : Sts :=
      (.cons (.ret (.lit .non))
      .nil)
def b_fit_on_2 : Sts :=
      (.cons (.set (.name 2) (.call "fit_on" (.cons (.loc 4) (.cons (.loc 5) (.cons (.loc 2) .nil)))))
      (.cons (.iff (.val (.cmp .Is (.loc 2) (.lit .non))) b_fit_on_1 .nil)
      .nil))
def b_fit_on_3 : Sts :=
      (.cons (.ret (.lit .non))
      .nil)
def b_fit_on_4 : Sts :=
      (.cons (.set (.name 3) (.bi .dict (.cons (.loc 2) .nil)))
      (.cons (.setix (.loc 3) (.ix (.loc 0) (.lit (.int 1))) (.loc 1))
      (.cons (.ret (.loc 3))
      .nil)))
def b_fit_on_5 : Sts :=
      (.cons (.iff (.val (.cmp .NotIn (.ix (.loc 0) (.lit (.int 1))) (.loc 2))) b_fit_on_4 .nil)
      (.cons (.ret (.ifx (.val (.cmp .Eq (.ix (.loc 2) (.ix (.loc 0) (.lit (.int 1)))) (.loc 1))) (.loc 2) (.lit .non)))
      .nil))
def b_fit_on : Sts :=
      (.cons (.iff (.val (.call "is_letter" (.cons (.loc 0) .nil))) b_fit_on_5 .nil)
      (.cons (.iff (.or (.val (.call "is_letter" (.cons (.loc 1) .nil))) (.or (.val (.cmp .NotEq (.ix (.loc 0) (.lit (.int 1))) (.ix (.loc 1) (.lit (.int 1))))) (.val (.cmp .NotEq (.bi .len (.cons (.ix (.loc 0) (.lit (.int 2))) .nil)) (.bi .len (.cons (.ix (.loc 1) (.lit (.int 2))) .nil)))))) b_fit_on_3 .nil)
      (.cons (.forr (.tup [(.name 4), (.name 5)]) (.zip (.ix (.loc 0) (.lit (.int 2))) (.ix (.loc 1) (.lit (.int 2)))) b_fit_on_2)
      (.cons (.ret (.loc 2))
      .nil))))
def f_fit_on : Fd := ⟨"fit_on", ["pattern", "term", "filling", "found", "one", "other"], ["pattern", "term", "filling"], b_fit_on, none, false, none, false⟩
def d_fit_on : He.DefD := ⟨("fit_on", none), "fit_on", "fit_on", defArgs (top 3), defBody (top 3), defScope (top 3), [], []⟩
def b_same_1 : Sts :=
      (.cons (.ret (.lit (.bl false)))
      .nil)
def b_same : Sts :=
      (.cons (.iff (.val (.cmp .NotEq (.ix (.loc 0) (.lit (.int 0))) (.ix (.loc 1) (.lit (.int 0))))) b_same_1 .nil)
      (.cons (.ret (.or2 (.cmp .Eq (.slc (.loc 0) (.some (.lit (.int 1))) .none) (.slc (.loc 1) (.some (.lit (.int 1))) .none)) (.cmp .Eq (.slc (.loc 0) (.some (.lit (.int 1))) .none) (.tup (.cons (.ix (.loc 1) (.lit (.int 2))) (.cons (.ix (.loc 1) (.lit (.int 1))) .nil))))))
      .nil))
def f_same : Fd := ⟨"same", ["one", "other"], ["one", "other"], b_same, none, false, none, false⟩
def d_same : He.DefD := ⟨("same", none), "same", "same", defArgs (top 7), defBody (top 7), defScope (top 7), [], []⟩
def b_fits_of_1 : Sts :=
      (.cons (.expr (.meth .append (.loc 3) (.cons (.loc 6) .nil)))
      .nil)
def b_fits_of_2 : Sts :=
      (.cons (.set (.name 6) (.call "fit_on" (.cons (.ix (.loc 0) (.lit (.int 2))) (.cons (.loc 5) (.cons (.loc 6) .nil)))))
      .nil)
def b_fits_of_3 : Sts :=
      (.cons (.set (.name 6) (.call "fit_on" (.cons (.ix (.loc 0) (.lit (.int 1))) (.cons (.loc 4) (.cons (.loc 2) .nil)))))
      (.cons (.iff (.val (.cmp .IsNot (.loc 6) (.lit .non))) b_fits_of_2 .nil)
      (.cons (.iff (.and (.val (.cmp .IsNot (.loc 6) (.lit .non))) (.val (.inp true (.loc 6) (.loc 3)))) b_fits_of_1 .nil)
      .nil)))
def b_fits_of_4 : Sts :=
      (.cons (.ret (.lst false .nil))
      .nil)
def b_fits_of : Sts :=
      (.cons (.iff (.val (.cmp .NotEq (.ix (.loc 0) (.lit (.int 0))) (.ix (.loc 1) (.lit (.int 0))))) b_fits_of_4 .nil)
      (.cons (.set (.name 3) (.lst true .nil))
      (.cons (.forr (.tup [(.name 4), (.name 5)]) (.ex (.tup (.cons (.tup (.cons (.ix (.loc 1) (.lit (.int 1))) (.cons (.ix (.loc 1) (.lit (.int 2))) .nil))) (.cons (.tup (.cons (.ix (.loc 1) (.lit (.int 2))) (.cons (.ix (.loc 1) (.lit (.int 1))) .nil))) .nil)))) b_fits_of_3)
      (.fz 3 (.cons (.ret (.loc 3))
      .nil)))))
def f_fits_of : Fd := ⟨"fits_of", ["pattern", "literal", "filling", "found", "one", "other", "more"], ["pattern", "literal", "filling"], b_fits_of, none, false, none, false⟩
def d_fits_of : He.DefD := ⟨("fits_of", none), "fits_of", "fits_of", defArgs (top 8), defBody (top 8), defScope (top 8), [], []⟩
def b_embeds_1 : Sts :=
      (.cons (.ret (.lit (.bl true)))
      .nil)
def b_embeds_2 : Sts :=
      (.cons (.iff (.val (.call "embeds" (.cons (.slc (.loc 0) (.some (.lit (.int 1))) .none) (.cons (.bin .Add (.slc (.loc 1) .none (.some (.loc 4))) (.slc (.loc 1) (.some (.bin .Add (.loc 4) (.lit (.int 1)))) .none)) (.cons (.loc 6) (.cons (.loc 3) .nil)))))) b_embeds_1 .nil)
      .nil)
def b_embeds_3 : Sts :=
      (.cons (.forr (.name 6) (.ex (.call "fits_of" (.cons (.ix (.loc 0) (.lit (.int 0))) (.cons (.loc 5) (.cons (.loc 2) .nil))))) b_embeds_2)
      .nil)
def b_embeds_4 : Sts :=
      (.cons (.ret (.callv 3 (.cons (.loc 2) .nil)))
      .nil)
def b_embeds : Sts :=
      (.cons (.iff (.val (.cmp .Eq (.loc 0) (.tup .nil))) b_embeds_4 .nil)
      (.cons (.forr (.tup [(.name 4), (.name 5)]) (.enum (.loc 1)) b_embeds_3)
      (.cons (.ret (.lit (.bl false)))
      .nil)))
def f_embeds : Fd := ⟨"embeds", ["patterns", "literals", "filling", "good", "number", "literal", "more"], ["patterns", "literals", "filling", "good"], b_embeds, none, false, none, false⟩
def d_embeds : He.DefD := ⟨("embeds", none), "embeds", "embeds", defArgs (top 9), defBody (top 9), defScope (top 9), [], []⟩
def e_is_idle_1 : E :=
      (.call "same" (.cons (.tup (.cons (.glob "UNLIKE") (.cons (.loc 2) (.cons (.loc 3) .nil)))) (.cons (.loc 4) .nil)))
def b_is_idle_2 : Sts :=
      (.cons (.ret (.lit (.bl true)))
      .nil)
def b_is_idle_3 : Sts :=
      (.cons (.ret (.lit (.bl true)))
      .nil)
def b_is_idle_4 : Sts :=
      (.cons (.iff (.and (.val (.cmp .Eq (.loc 1) (.glob "LIKE"))) (.val (.cmp .Eq (.loc 2) (.loc 3)))) b_is_idle_3 .nil)
      (.cons (.iff (.and (.val (.cmp .Eq (.loc 1) (.glob "LIKE"))) (.val (.bi .any (.cons (.comp false [4] (.name 4) (.ex (.loc 0)) .none e_is_idle_1) .nil)))) b_is_idle_2 .nil)
      .nil))
def b_is_idle : Sts :=
      (.cons (.forr (.tup [(.name 1), (.name 2), (.name 3)]) (.ex (.loc 0)) b_is_idle_4)
      (.cons (.ret (.lit (.bl false)))
      .nil))
def f_is_idle : Fd := ⟨"is_idle", ["claim", "word", "one", "other", "literal"], ["claim"], b_is_idle, none, false, none, false⟩
def d_is_idle : He.DefD := ⟨("is_idle", none), "is_idle", "is_idle", defArgs (top 11), defBody (top 11), defScope (top 11), [], []⟩
def b_has_within : Sts :=
      (.cons (.ret (.and2 (.cmp .LtE (.bi .len (.cons (.loc 1) .nil)) (.bi .len (.cons (.loc 0) .nil))) (.callL "embeds" (.cons (.bi .tuple (.cons (.loc 1) .nil)) (.cons (.bi .tuple (.cons (.loc 0) .nil)) (.cons (.dct true .nil) .nil))) "has_within.lam0" [])))
      .nil)
def b_has_within_lam0 : Sts :=
      (.cons (.ret (.lit (.bl true)))
      .nil)
def f_has_within_lam0 : Fd := ⟨"has_within.lam0", ["filling"], ["filling"], b_has_within_lam0, none, false, none, true⟩
def f_has_within : Fd := ⟨"has_within", ["claim", "other"], ["claim", "other"], b_has_within, none, false, some (("has_within", none), "has_within.<locals>."), false⟩
def d_has_within : He.DefD := ⟨("has_within", none), "has_within", "has_within", defArgs (top 12), defBody (top 12), defScope (top 12), [], []⟩
def b_is_unit : Sts :=
      (.cons (.ret (.and2 (.cmp .Eq (.bi .len (.cons (.loc 0) .nil)) (.lit (.int 1))) (.cmp .Eq (.ix (.ix (.loc 0) (.lit (.int 0))) (.lit (.int 0))) (.glob "LIKE"))))
      .nil)
def f_is_unit : Fd := ⟨"is_unit", ["claim"], ["claim"], b_is_unit, none, false, none, false⟩
def d_is_unit : He.DefD := ⟨("is_unit", none), "is_unit", "is_unit", defArgs (top 13), defBody (top 13), defScope (top 13), [], []⟩
def b__law_left_1 : Sts :=
      (.cons (.set (.name 2) (.bin .Mod (.bin .Mult (.bin .Add (.bin .Mod (.loc 2) (.lit (.int 2147483629))) (.lit (.int 48611))) (.lit (.int 48271))) (.lit (.int 2147483629))))
      (.cons (.set (.name 2) (.bin .Add (.bin .Mod (.bin .Mult (.loc 2) (.lit (.int 39373))) (.lit (.int 2147483647))) (.loc 3)))
      (.cons (.set (.name 1) (.bin .Add (.bin .Mult (.loc 1) (.lit (.int 2147483629))) (.loc 2)))
      .nil)))
def b__law_left_2 : Sts :=
      (.cons (.set (.name 2) (.loc 0))
      (.cons (.forr (.name 3) (.rng1 (.lit (.int 60))) b__law_left_1)
      .nil))
def b__law_left : Sts :=
      (.cons (.set (.name 1) (.bi .abs (.cons (.loc 0) .nil)))
      (.cons (.iff (.val (.cmp .Lt (.loc 1) (.bin .Pow (.lit (.int 10)) (.lit (.int 18))))) b__law_left_2 .nil)
      (.cons (.ret (.lst true (.cons (.loc 1) .nil)))
      .nil)))
def f__law_left : Fd := ⟨"_law_left", ["_law_cell", "_law_left_here", "_law_drawn", "_law_turn"], ["_law_cell"], b__law_left, none, false, none, false⟩
def d__law_left : He.DefD := ⟨("_law_left", none), "_law_left", "_law_left", defArgs (top 15), defBody (top 15), defScope (top 15), [], []⟩
def b__law_digit : Sts :=
      (.cons (.set (.name 2) (.bin .Mod (.ix (.loc 0) (.lit (.int 0))) (.loc 1)))
      (.cons (.setix (.loc 0) (.lit (.int 0)) (.bin .FloorDiv (.ix (.loc 0) (.lit (.int 0))) (.loc 1)))
      (.cons (.ret (.loc 2))
      .nil)))
def f__law_digit : Fd := ⟨"_law_digit", ["_law_left_here", "_law_upto", "_law_found"], ["_law_left_here", "_law_upto"], b__law_digit, none, false, none, false⟩
def d__law_digit : He.DefD := ⟨("_law_digit", none), "_law_digit", "_law_digit", defArgs (top 16), defBody (top 16), defScope (top 16), [], []⟩
def b__law_table_1 : Sts :=
      (.cons (.set (.name 7) (.bin .Add (.ix (.loc 1) (.bin .Mod (.bin .Add (.loc 2) (.bin .Mult (.lit (.int 5)) (.loc 5))) (.lit (.int 26)))) (.bin .Mult (.ix (.loc 1) (.call "_law_digit" (.cons (.loc 0) (.cons (.lit (.int 26)) .nil)))) (.ix (.lst false (.cons (.lit (.int 0)) (.cons (.lit (.int 0)) (.cons (.lit (.int 0)) (.cons (.lit (.int 7)) .nil))))) (.call "_law_digit" (.cons (.loc 0) (.cons (.lit (.int 4)) .nil)))))))
      (.cons (.expr (.meth .append (.loc 4) (.cons (.tup (.cons (.loc 7) (.cons (.loc 6) (.cons (.ix (.lst false (.cons (.lit (.int 1)) (.cons (.lit (.int 1)) (.cons (.lit (.int 1)) (.cons (.lit (.int 2)) (.cons (.lit (.int 3)) (.cons (.lit (.int 50)) .nil))))))) (.call "_law_digit" (.cons (.loc 0) (.cons (.lit (.int 6)) .nil)))) .nil)))) .nil)))
      .nil))
def b__law_table : Sts :=
      (.cons (.set (.name 1) (.lit (.str "abcdefghijklmnopqrstuvwxyz")))
      (.cons (.set (.name 2) (.call "_law_digit" (.cons (.loc 0) (.cons (.lit (.int 26)) .nil))))
      (.cons (.set (.name 3) (.ix (.lst false (.cons (.lst false (.cons (.lit (.int 0)) (.cons (.lit (.int 0)) (.cons (.lit (.int 1)) (.cons (.lit (.int 2)) .nil))))) (.cons (.lst false (.cons (.lit (.int 0)) (.cons (.lit (.int 1)) (.cons (.lit (.int 2)) .nil)))) (.cons (.lst false (.cons (.lit (.int 0)) (.cons (.lit (.int 0)) (.cons (.lit (.int 0)) (.cons (.lit (.int 1)) .nil))))) (.cons (.lst false (.cons (.lit (.int 0)) (.cons (.lit (.int 2)) (.cons (.lit (.int 1)) (.cons (.lit (.int 0)) .nil))))) (.cons (.lst false (.cons (.lit (.int 0)) (.cons (.lit (.int 1)) (.cons (.lit (.int 1)) (.cons (.lit (.int 3)) .nil))))) (.cons (.lst false (.cons (.lit (.int 2)) (.cons (.lit (.int 0)) (.cons (.lit (.int 0)) (.cons (.lit (.int 1)) .nil))))) .nil))))))) (.call "_law_digit" (.cons (.loc 0) (.cons (.lit (.int 6)) .nil)))))
      (.cons (.set (.name 4) (.lst true .nil))
      (.cons (.forr (.tup [(.name 5), (.name 6)]) (.enum (.loc 3)) b__law_table_1)
      (.fz 4 (.cons (.ret (.loc 4))
      .nil)))))))
def f__law_table : Fd := ⟨"_law_table", ["_law_left_here", "_law_letters_here", "_law_begin", "_law_kinds", "_law_found", "_law_k", "_law_parts", "_law_word"], ["_law_left_here"], b__law_table, none, false, none, false⟩
def d__law_table : He.DefD := ⟨("_law_table", none), "_law_table", "_law_table", defArgs (top 17), defBody (top 17), defScope (top 17), [], []⟩
def e__law_term_1 : E :=
      (.call "_law_term" (.cons (.loc 0) (.cons (.loc 1) (.cons (.loc 2) (.cons (.bin .Sub (.loc 3) (.lit (.int 1))) .nil)))))
def t__law_term_2 : Tt :=
      (.or (.val (.cmp .Gt (.loc 3) (.lit (.int 1)))) (.val (.cmp .Eq (.ix (.loc 5) (.lit (.int 1))) (.lit (.int 0)))))
def e__law_term_3 : E :=
      (.loc 5)
def b__law_term_4 : Sts :=
      (.cons (.ret (.tup (.cons (.lit (.str "any")) (.cons (.call "_law_digit" (.cons (.loc 0) (.cons (.loc 2) .nil))) .nil))))
      .nil)
def b__law_term : Sts :=
      (.cons (.iff (.and (.val (.cmp .Gt (.loc 2) (.lit (.int 0)))) (.val (.cmp .Eq (.call "_law_digit" (.cons (.loc 0) (.cons (.lit (.int 3)) .nil))) (.lit (.int 0))))) b__law_term_4 .nil)
      (.cons (.set (.name 4) (.comp false [5] (.name 5) (.ex (.loc 1)) (.some t__law_term_2) e__law_term_3))
      (.cons (.set (.name 5) (.ix (.loc 4) (.call "_law_digit" (.cons (.loc 0) (.cons (.bi .len (.cons (.loc 4) .nil)) .nil)))))
      (.cons (.ret (.tup (.cons (.lit (.str "of")) (.cons (.ix (.loc 5) (.lit (.int 0))) (.cons (.bi .tuple (.cons (.comp false [6] (.name 6) (.rng1 (.ix (.loc 5) (.lit (.int 1)))) .none e__law_term_1) .nil)) .nil)))))
      .nil))))
def f__law_term : Fd := ⟨"_law_term", ["_law_left_here", "_law_table_here", "_law_letters_here", "_law_deep", "_law_some", "_law_row", "_law_k"], ["_law_left_here", "_law_table_here", "_law_letters_here", "_law_deep"], b__law_term, none, false, none, false⟩
def d__law_term : He.DefD := ⟨("_law_term", none), "_law_term", "_law_term", defArgs (top 18), defBody (top 18), defScope (top 18), [], []⟩
def e__law_filled_1 : E :=
      (.call "_law_filled" (.cons (.loc 2) (.cons (.loc 1) .nil)))
def b__law_filled_2 : Sts :=
      (.cons (.ret (.meth .get (.loc 1) (.cons (.ix (.loc 0) (.lit (.int 1))) (.cons (.loc 0) .nil))))
      .nil)
def b__law_filled : Sts :=
      (.cons (.iff (.val (.cmp .Eq (.ix (.loc 0) (.lit (.int 0))) (.lit (.str "any")))) b__law_filled_2 .nil)
      (.cons (.ret (.tup (.cons (.lit (.str "of")) (.cons (.ix (.loc 0) (.lit (.int 1))) (.cons (.bi .tuple (.cons (.comp false [2] (.name 2) (.ex (.ix (.loc 0) (.lit (.int 2)))) .none e__law_filled_1) .nil)) .nil)))))
      .nil))
def f__law_filled : Fd := ⟨"_law_filled", ["_law_term_here", "_law_stuff", "_law_part"], ["_law_term_here", "_law_stuff"], b__law_filled, none, false, none, false⟩
def d__law_filled : He.DefD := ⟨("_law_filled", none), "_law_filled", "_law_filled", defArgs (top 19), defBody (top 19), defScope (top 19), [], []⟩
def b__law_side : Sts :=
      (.cons (.ret (.call "_law_term" (.cons (.loc 0) (.cons (.loc 1) (.cons (.loc 2) (.cons (.bin .Add (.lit (.int 1)) (.call "_law_digit" (.cons (.loc 0) (.cons (.loc 3) .nil)))) .nil))))))
      .nil)
def f__law_side : Fd := ⟨"_law_side", ["_law_left_here", "_law_table_here", "_law_letters_here", "_law_deep"], ["_law_left_here", "_law_table_here", "_law_letters_here", "_law_deep"], b__law_side, none, false, none, false⟩
def d__law_side : He.DefD := ⟨("_law_side", none), "_law_side", "_law_side", defArgs (top 21), defBody (top 21), defScope (top 21), [], []⟩
def b__law_claim_1 : Sts :=
      (.cons (.set (.name 7) (.ix (.lst false (.cons (.lit (.str "like")) (.cons (.lit (.str "like")) (.cons (.lit (.str "unlike")) .nil)))) (.call "_law_digit" (.cons (.loc 0) (.cons (.lit (.int 3)) .nil)))))
      (.cons (.expr (.meth .append (.loc 5) (.cons (.tup (.cons (.loc 7) (.cons (.call "_law_side" (.cons (.loc 0) (.cons (.loc 1) (.cons (.loc 2) (.cons (.loc 3) .nil))))) (.cons (.call "_law_side" (.cons (.loc 0) (.cons (.loc 1) (.cons (.loc 2) (.cons (.loc 3) .nil))))) .nil)))) .nil)))
      .nil))
def b__law_claim : Sts :=
      (.cons (.set (.name 5) (.lst true .nil))
      (.cons (.forr (.name 6) (.rng1 (.bin .Add (.lit (.int 1)) (.call "_law_digit" (.cons (.loc 0) (.cons (.loc 4) .nil))))) b__law_claim_1)
      (.fz 5 (.cons (.ret (.bi .tuple (.cons (.loc 5) .nil)))
      .nil))))
def f__law_claim : Fd := ⟨"_law_claim", ["_law_left_here", "_law_table_here", "_law_letters_here", "_law_deep", "_law_most", "_law_found", "_law_k", "_law_word"], ["_law_left_here", "_law_table_here", "_law_letters_here", "_law_deep", "_law_most"], b__law_claim, none, false, none, false⟩
def d__law_claim : He.DefD := ⟨("_law_claim", none), "_law_claim", "_law_claim", defArgs (top 22), defBody (top 22), defScope (top 22), [], []⟩
def b__law_same_1 : Sts :=
      (.cons (.ret (.lit (.bl false)))
      .nil)
def b__law_same : Sts :=
      (.cons (.iff (.val (.cmp .NotEq (.ix (.loc 0) (.lit (.int 0))) (.ix (.loc 1) (.lit (.int 0))))) b__law_same_1 .nil)
      (.cons (.ret (.or2 (.cmp .Eq (.tup (.cons (.ix (.loc 0) (.lit (.int 1))) (.cons (.ix (.loc 0) (.lit (.int 2))) .nil))) (.tup (.cons (.ix (.loc 1) (.lit (.int 1))) (.cons (.ix (.loc 1) (.lit (.int 2))) .nil)))) (.cmp .Eq (.tup (.cons (.ix (.loc 0) (.lit (.int 1))) (.cons (.ix (.loc 0) (.lit (.int 2))) .nil))) (.tup (.cons (.ix (.loc 1) (.lit (.int 2))) (.cons (.ix (.loc 1) (.lit (.int 1))) .nil))))))
      .nil))
def f__law_same : Fd := ⟨"_law_same", ["_law_one", "_law_other"], ["_law_one", "_law_other"], b__law_same, none, false, none, false⟩
def d__law_same : He.DefD := ⟨("_law_same", none), "_law_same", "_law_same", defArgs (top 23), defBody (top 23), defScope (top 23), [], []⟩
def e__law_all_filled_1 : E :=
      (.tup (.cons (.loc 2) (.cons (.call "_law_filled" (.cons (.loc 3) (.cons (.loc 1) .nil))) (.cons (.call "_law_filled" (.cons (.loc 4) (.cons (.loc 1) .nil))) .nil))))
def b__law_all_filled : Sts :=
      (.cons (.ret (.bi .tuple (.cons (.comp false [2, 3, 4] (.tup [(.name 2), (.name 3), (.name 4)]) (.ex (.loc 0)) .none e__law_all_filled_1) .nil)))
      .nil)
def f__law_all_filled : Fd := ⟨"_law_all_filled", ["_law_claim_here", "_law_stuff", "_law_word", "_law_one", "_law_two"], ["_law_claim_here", "_law_stuff"], b__law_all_filled, none, false, none, false⟩
def d__law_all_filled : He.DefD := ⟨("_law_all_filled", none), "_law_all_filled", "_law_all_filled", defArgs (top 25), defBody (top 25), defScope (top 25), [], []⟩
def b__law_fit_on_1 : Sts :=
      (.cons (.ret (.lit .non))
      .nil)
def b__law_fit_on_2 : Sts :=
      (.cons (.set (.name 2) (.call "_law_fit_on" (.cons (.loc 4) (.cons (.loc 3) (.cons (.loc 2) .nil)))))
      (.cons (.iff (.val (.cmp .Is (.loc 2) (.lit .non))) b__law_fit_on_1 .nil)
      .nil))
def b__law_fit_on_3 : Sts :=
      (.cons (.ret (.lit .non))
      .nil)
def b__law_fit_on_4 : Sts :=
      (.cons (.ret (.ifx (.val (.cmp .Eq (.ix (.loc 2) (.ix (.loc 0) (.lit (.int 1)))) (.loc 1))) (.loc 2) (.lit .non)))
      .nil)
def b__law_fit_on_5 : Sts :=
      (.cons (.iff (.val (.cmp .In (.ix (.loc 0) (.lit (.int 1))) (.loc 2))) b__law_fit_on_4 .nil)
      (.cons (.set (.name 3) (.bi .dict (.cons (.loc 2) .nil)))
      (.cons (.setix (.loc 3) (.ix (.loc 0) (.lit (.int 1))) (.loc 1))
      (.cons (.ret (.loc 3))
      .nil))))
def b__law_fit_on : Sts :=
      (.cons (.iff (.val (.cmp .Eq (.ix (.loc 0) (.lit (.int 0))) (.lit (.str "any")))) b__law_fit_on_5 .nil)
      (.cons (.iff (.or (.val (.cmp .Eq (.ix (.loc 1) (.lit (.int 0))) (.lit (.str "any")))) (.or (.val (.cmp .NotEq (.ix (.loc 0) (.lit (.int 1))) (.ix (.loc 1) (.lit (.int 1))))) (.val (.cmp .NotEq (.bi .len (.cons (.ix (.loc 0) (.lit (.int 2))) .nil)) (.bi .len (.cons (.ix (.loc 1) (.lit (.int 2))) .nil)))))) b__law_fit_on_3 .nil)
      (.cons (.forr (.tup [(.name 4), (.name 3)]) (.zip (.ix (.loc 0) (.lit (.int 2))) (.ix (.loc 1) (.lit (.int 2)))) b__law_fit_on_2)
      (.cons (.ret (.loc 2))
      .nil))))
def f__law_fit_on : Fd := ⟨"_law_fit_on", ["_law_here", "_law_there", "_law_stuff", "_law_more", "_law_part"], ["_law_here", "_law_there", "_law_stuff"], b__law_fit_on, none, false, none, false⟩
def d__law_fit_on : He.DefD := ⟨("_law_fit_on", none), "_law_fit_on", "_law_fit_on", defArgs (top 26), defBody (top 26), defScope (top 26), [], []⟩
def b__law_embeds_1 : Sts :=
      (.cons (.ret (.lit (.bl true)))
      .nil)
def b__law_embeds_2 : Sts :=
      (.cons (.set (.name 9) (.call "_law_fit_on" (.cons (.loc 5) (.cons (.ix (.loc 7) (.ix (.loc 8) (.lit (.int 1)))) (.cons (.loc 9) .nil)))))
      .nil)
def b__law_embeds_3 : Sts :=
      (.cons (.set (.name 9) (.call "_law_fit_on" (.cons (.loc 4) (.cons (.ix (.loc 7) (.ix (.loc 8) (.lit (.int 0)))) (.cons (.loc 2) .nil)))))
      .nil)
def b__law_embeds_4 : Sts :=
      (.cons (.set (.name 9) (.lit .non))
      (.cons (.iff (.val (.cmp .Eq (.ix (.loc 7) (.lit (.int 0))) (.loc 3))) b__law_embeds_3 .nil)
      (.cons (.iff (.val (.cmp .IsNot (.loc 9) (.lit .non))) b__law_embeds_2 .nil)
      (.cons (.iff (.and (.val (.cmp .IsNot (.loc 9) (.lit .non))) (.val (.call "_law_embeds" (.cons (.slc (.loc 0) (.some (.lit (.int 1))) .none) (.cons (.bin .Add (.slc (.loc 1) .none (.some (.loc 6))) (.slc (.loc 1) (.some (.bin .Add (.loc 6) (.lit (.int 1)))) .none)) (.cons (.loc 9) .nil)))))) b__law_embeds_1 .nil)
      .nil))))
def b__law_embeds_5 : Sts :=
      (.cons (.forr (.name 8) (.ex (.tup (.cons (.tup (.cons (.lit (.int 1)) (.cons (.lit (.int 2)) .nil))) (.cons (.tup (.cons (.lit (.int 2)) (.cons (.lit (.int 1)) .nil))) .nil)))) b__law_embeds_4)
      .nil)
def b__law_embeds_6 : Sts :=
      (.cons (.ret (.lit (.bl true)))
      .nil)
def b__law_embeds : Sts :=
      (.cons (.iff (.val (.cmp .Eq (.loc 0) (.tup .nil))) b__law_embeds_6 .nil)
      (.cons (.set (.tup [(.name 3), (.name 4), (.name 5)]) (.ix (.loc 0) (.lit (.int 0))))
      (.cons (.forr (.tup [(.name 6), (.name 7)]) (.enum (.loc 1)) b__law_embeds_5)
      (.cons (.ret (.lit (.bl false)))
      .nil))))
def f__law_embeds : Fd := ⟨"_law_embeds", ["_law_some", "_law_literals", "_law_stuff", "_law_word", "_law_one", "_law_other", "_law_k", "_law_literal", "_law_sides", "_law_more"], ["_law_some", "_law_literals", "_law_stuff"], b__law_embeds, none, false, none, false⟩
def d__law_embeds : He.DefD := ⟨("_law_embeds", none), "_law_embeds", "_law_embeds", defArgs (top 27), defBody (top 27), defScope (top 27), [], []⟩
def t__law_idle_1 : Tt :=
      (.val (.call "_law_same" (.cons (.loc 4) (.cons (.loc 5) .nil))))
def e__law_idle_2 : E :=
      (.loc 5)
def b__law_idle_3 : Sts :=
      (.cons (.ret (.lit (.bl true)))
      .nil)
def b__law_idle_4 : Sts :=
      (.cons (.ret (.lit (.bl true)))
      .nil)
def b__law_idle_5 : Sts :=
      (.cons (.iff (.and (.val (.cmp .Eq (.loc 1) (.lit (.str "like")))) (.val (.cmp .Eq (.loc 2) (.loc 3)))) b__law_idle_4 .nil)
      (.cons (.set (.name 4) (.tup (.cons (.lit (.str "unlike")) (.cons (.loc 2) (.cons (.loc 3) .nil)))))
      (.cons (.iff (.and (.val (.cmp .Eq (.loc 1) (.lit (.str "like")))) (.val (.cmp .NotEq (.comp false [5] (.name 5) (.ex (.loc 0)) (.some t__law_idle_1) e__law_idle_2) (.lst false .nil)))) b__law_idle_3 .nil)
      .nil)))
def b__law_idle : Sts :=
      (.cons (.forr (.tup [(.name 1), (.name 2), (.name 3)]) (.ex (.loc 0)) b__law_idle_5)
      (.cons (.ret (.lit (.bl false)))
      .nil))
def f__law_idle : Fd := ⟨"_law_idle", ["_law_claim_here", "_law_word", "_law_one", "_law_other", "_law_contrary", "_law_more"], ["_law_claim_here"], b__law_idle, none, false, none, false⟩
def d__law_idle : He.DefD := ⟨("_law_idle", none), "_law_idle", "_law_idle", defArgs (top 28), defBody (top 28), defScope (top 28), [], []⟩
def b__law_bent : Sts :=
      (.cons (.set (.name 2) (.call "_law_digit" (.cons (.loc 0) (.cons (.bi .len (.cons (.loc 1) .nil)) .nil))))
      (.cons (.set (.tup [(.name 3), (.name 4), (.name 5)]) (.ix (.loc 1) (.loc 2)))
      (.cons (.set (.name 6) (.tup (.cons (.loc 3) (.cons (.loc 4) (.cons (.loc 4) .nil)))))
      (.cons (.set (.name 7) (.lst true (.cons (.loc 1) (.cons (.bin .Add (.bin .Add (.slc (.loc 1) .none (.some (.loc 2))) (.tup (.cons (.loc 6) .nil))) (.slc (.loc 1) (.some (.bin .Add (.loc 2) (.lit (.int 1)))) .none)) .nil))))
      (.cons (.set (.name 8) (.ix (.lst false (.cons (.lit (.str "like")) (.cons (.lit (.str "unlike")) .nil))) (.bi .int (.cons (.cmp .Eq (.loc 3) (.lit (.str "like"))) .nil))))
      (.cons (.expr (.meth .append (.loc 7) (.cons (.bin .Add (.loc 1) (.tup (.cons (.tup (.cons (.loc 8) (.cons (.ix (.lst false (.cons (.loc 4) (.cons (.loc 5) .nil))) (.call "_law_digit" (.cons (.loc 0) (.cons (.lit (.int 2)) .nil)))) (.cons (.loc 5) .nil)))) .nil))) .nil)))
      (.cons (.expr (.meth .append (.loc 7) (.cons (.bin .Add (.loc 1) (.tup (.cons (.tup (.cons (.loc 8) (.cons (.loc 5) (.cons (.loc 4) .nil)))) .nil))) .nil)))
      (.fz 7 (.cons (.ret (.ix (.loc 7) (.call "_law_digit" (.cons (.loc 0) (.cons (.lit (.int 4)) .nil)))))
      .nil)))))))))
def f__law_bent : Fd := ⟨"_law_bent", ["_law_left_here", "_law_claim_here", "_law_at", "_law_word", "_law_one", "_law_other", "_law_twice", "_law_some", "_law_turned"], ["_law_left_here", "_law_claim_here"], b__law_bent, none, false, none, false⟩
def d__law_bent : He.DefD := ⟨("_law_bent", none), "_law_bent", "_law_bent", defArgs (top 29), defBody (top 29), defScope (top 29), [], []⟩
def b__law_fuller_1 : Sts :=
      (.cons (.set (.name 9) (.ix (.lst false (.cons (.tup (.cons (.loc 6) (.cons (.loc 7) (.cons (.loc 8) .nil)))) (.cons (.tup (.cons (.loc 6) (.cons (.loc 8) (.cons (.loc 7) .nil)))) .nil))) (.call "_law_digit" (.cons (.loc 0) (.cons (.lit (.int 2)) .nil)))))
      (.cons (.expr (.meth .insert (.loc 5) (.cons (.call "_law_digit" (.cons (.loc 0) (.cons (.bin .Add (.bi .len (.cons (.loc 5) .nil)) (.lit (.int 1))) .nil))) (.cons (.loc 9) .nil))))
      .nil))
def b__law_fuller_2 : Sts :=
      (.cons (.setix (.loc 3) (.loc 4) (.call "_law_term" (.cons (.loc 0) (.cons (.loc 1) (.cons (.lit (.int 3)) (.cons (.lit (.int 2)) .nil))))))
      .nil)
def b__law_fuller_3 : Sts :=
      (.cons (.iff (.val (.cmp .Eq (.call "_law_digit" (.cons (.loc 0) (.cons (.lit (.int 2)) .nil))) (.lit (.int 0)))) b__law_fuller_2 .nil)
      .nil)
def b__law_fuller : Sts :=
      (.cons (.set (.name 3) (.dct true .nil))
      (.cons (.forr (.name 4) (.rng1 (.lit (.int 3))) b__law_fuller_3)
      (.fz 3 (.cons (.set (.name 5) (.lst true .nil))
      (.cons (.forr (.tup [(.name 6), (.name 7), (.name 8)]) (.ex (.call "_law_all_filled" (.cons (.loc 2) (.cons (.loc 3) .nil)))) b__law_fuller_1)
      (.fz 5 (.cons (.ret (.bi .tuple (.cons (.loc 5) .nil)))
      .nil)))))))
def f__law_fuller : Fd := ⟨"_law_fuller", ["_law_left_here", "_law_table_here", "_law_claim_here", "_law_stuff", "_law_letter", "_law_found", "_law_word", "_law_one", "_law_other", "_law_literal"], ["_law_left_here", "_law_table_here", "_law_claim_here"], b__law_fuller, none, false, none, false⟩
def d__law_fuller : He.DefD := ⟨("_law_fuller", none), "_law_fuller", "_law_fuller", defArgs (top 30), defBody (top 30), defScope (top 30), [], []⟩
def b_law_1 : Sts :=
      (.cons (.ret (.lit (.bl false)))
      .nil)
def b_law_2 : Sts :=
      (.cons (.ret (.lit (.bl false)))
      .nil)
def b_law_3 : Sts :=
      (.cons (.set (.name 10) (.call "has_within" (.cons (.loc 8) (.cons (.loc 9) .nil))))
      (.cons (.iff (.or (.not (.val (.isa .bool (.loc 10)))) (.val (.cmp .NotEq (.loc 10) (.call "_law_embeds" (.cons (.loc 9) (.cons (.loc 8) (.cons (.dct true .nil) .nil))))))) b_law_2 .nil)
      .nil))
def b_law_4 : Sts :=
      (.cons (.ret (.lit (.bl false)))
      .nil)
def b_law_5 : Sts :=
      (.cons (.ret (.lit (.bl false)))
      .nil)
def b_law_6 : Sts :=
      (.cons (.iff (.val (.cmp .NotEq (.bi .repr (.cons (.call "is_unit" (.cons (.loc 8) .nil)) .nil)) (.bi .repr (.cons (.and2 (.cmp .Eq (.bi .len (.cons (.loc 8) .nil)) (.lit (.int 1))) (.cmp .Eq (.ix (.ix (.loc 8) (.lit (.int 0))) (.lit (.int 0))) (.lit (.str "like")))) .nil)))) b_law_5 .nil)
      (.cons (.iff (.val (.cmp .NotEq (.bi .repr (.cons (.call "is_idle" (.cons (.loc 8) .nil)) .nil)) (.bi .repr (.cons (.call "_law_idle" (.cons (.loc 8) .nil)) .nil)))) b_law_4 .nil)
      (.cons (.forr (.name 9) (.ex (.loc 7)) b_law_3)
      (.cons (.iff (.or (.not (.val (.call "has_within" (.cons (.loc 8) (.cons (.loc 8) .nil))))) (.not (.val (.call "has_within" (.cons (.loc 8) (.cons (.tup .nil) .nil)))))) b_law_1 .nil)
      .nil))))
def b_law_7 : Sts :=
      (.cons (.set (.name 2) (.call "_law_left" (.cons (.loc 1) .nil)))
      (.cons (.set (.name 3) (.call "_law_table" (.cons (.loc 2) .nil)))
      (.cons (.set (.name 4) (.call "_law_bent" (.cons (.loc 2) (.cons (.call "_law_claim" (.cons (.loc 2) (.cons (.loc 3) (.cons (.lit (.int 3)) (.cons (.lit (.int 2)) (.cons (.lit (.int 3)) .nil)))))) .nil))))
      (.cons (.set (.name 5) (.call "_law_fuller" (.cons (.loc 2) (.cons (.loc 3) (.cons (.loc 4) .nil)))))
      (.cons (.set (.name 6) (.tup (.cons (.lit (.str "like")) (.cons (.tup (.cons (.lit (.str "any")) (.cons (.lit (.int 0)) .nil))) (.cons (.tup (.cons (.lit (.str "any")) (.cons (.lit (.int 1)) .nil))) .nil)))))
      (.cons (.set (.name 7) (.lst false (.cons (.loc 4) (.cons (.loc 5) (.cons (.bin .Add (.loc 5) (.call "_law_claim" (.cons (.loc 2) (.cons (.loc 3) (.cons (.lit (.int 2)) (.cons (.lit (.int 2)) (.cons (.lit (.int 1)) .nil))))))) (.cons (.slc (.loc 5) (.some (.lit (.int 1))) .none) (.cons (.bin .Add (.slc (.loc 4) .none (.some (.lit (.int 1)))) (.slc (.loc 4) .none (.some (.lit (.int 1))))) (.cons (.tup .nil) .nil))))))))
      (.cons (.set (.name 7) (.bin .Add (.loc 7) (.lst false (.cons (.tup (.cons (.loc 6) (.cons (.loc 6) .nil))) (.cons (.call "_law_claim" (.cons (.loc 2) (.cons (.loc 3) (.cons (.lit (.int 3)) (.cons (.lit (.int 2)) (.cons (.lit (.int 2)) .nil)))))) (.cons (.tup (.cons (.loc 6) .nil)) .nil))))))
      (.cons (.forr (.name 8) (.ex (.loc 7)) b_law_6)
      .nil))))))))
def b_law : Sts :=
      (.cons (.forr (.name 1) (.ex (.bin .Add (.slc (.loc 0) .none (.some (.lit (.int 16)))) (.lst false (.cons (.lit (.int 4)) .nil)))) b_law_7)
      (.cons (.ret (.lit (.bl true)))
      .nil))
def f_law : Fd := ⟨"law", ["_law_script", "_law_cell", "_law_left_here", "_law_table_here", "_law_claim_here", "_law_full", "_law_letter", "_law_some", "_law_one", "_law_other", "_law_found"], ["_law_script"], b_law, none, false, none, false⟩
def d_law : He.DefD := ⟨("law", none), "law", "law", defArgs (top 31), defBody (top 31), defScope (top 31), [], []⟩
def T : List Fd := [f_is_letter, f_fit_on, f_same, f_fits_of, f_embeds, f_is_idle, f_has_within, f_is_unit, f__law_left, f__law_digit, f__law_table, f__law_term, f__law_filled, f__law_side, f__law_claim, f__law_same, f__law_all_filled, f__law_fit_on, f__law_embeds, f__law_idle, f__law_bent, f__law_fuller, f_law, f_has_within_lam0]
def fn : List He.DefD := [d_is_letter, d_fit_on, d_same, d_fits_of, d_embeds, d_is_idle, d_has_within, d_is_unit, d__law_left, d__law_digit, d__law_table, d__law_term, d__law_filled, d__law_side, d__law_claim, d__law_same, d__law_all_filled, d__law_fit_on, d__law_embeds, d__law_idle, d__law_bent, d__law_fuller, d_law]
def fr : List Str := ["abs", "any", "bool", "dict", "enumerate", "int", "isinstance", "len", "range", "repr", "tuple", "zip"]
def fl : Fl := ⟨["is_letter", "fit_on", "same", "fits_of", "embeds", "is_idle", "has_within", "is_unit", "_law_left", "_law_digit", "_law_table", "_law_term", "_law_filled", "_law_side", "_law_claim", "_law_same", "_law_all_filled", "_law_fit_on", "_law_embeds", "_law_idle", "_law_bent", "_law_fuller", "law"], [], [], [], [], [], ["embeds"]⟩
def gs : List (Str × Lit) := [("LIKE", Lit.str "like"), ("UNLIKE", Lit.str "unlike")]
def G0 : Str → Option W := lookG gs
theorem g_LIKE : G0 "LIKE" = some (W.str "like") := rfl
theorem g_UNLIKE : G0 "UNLIKE" = some (W.str "unlike") := rfl
def fa : List He.Fa := faOf T fr gs fl.atr
theorem k_is_letter : DefB fr fl f_is_letter d_is_letter where
  at_ := rfl
  dfl := rfl
  kwd := rfl
  sc := ⟨rfl, rfl, rfl, by decide +kernel, rfl, by decide +kernel, by decide +kernel⟩
  bind := fun _ _ _ _ _ _ us hl => match us, hl with | [_], _ => rfl
  chk := by decide +kernel
theorem k_fit_on : DefB fr fl f_fit_on d_fit_on where
  at_ := rfl
  dfl := rfl
  kwd := rfl
  sc := ⟨rfl, rfl, rfl, by decide +kernel, rfl, by decide +kernel, by decide +kernel⟩
  bind := fun _ _ _ _ _ _ us hl => match us, hl with | [_, _, _], _ => rfl
  chk := by decide +kernel
theorem k_same : DefB fr fl f_same d_same where
  at_ := rfl
  dfl := rfl
  kwd := rfl
  sc := ⟨rfl, rfl, rfl, by decide +kernel, rfl, by decide +kernel, by decide +kernel⟩
  bind := fun _ _ _ _ _ _ us hl => match us, hl with | [_, _], _ => rfl
  chk := by decide +kernel
theorem k_fits_of : DefB fr fl f_fits_of d_fits_of where
  at_ := rfl
  dfl := rfl
  kwd := rfl
  sc := ⟨rfl, rfl, rfl, by decide +kernel, rfl, by decide +kernel, by decide +kernel⟩
  bind := fun _ _ _ _ _ _ us hl => match us, hl with | [_, _, _], _ => rfl
  chk := by decide +kernel
theorem k_embeds : DefB fr fl f_embeds d_embeds where
  at_ := rfl
  dfl := rfl
  kwd := rfl
  sc := ⟨rfl, rfl, rfl, by decide +kernel, rfl, by decide +kernel, by decide +kernel⟩
  bind := fun _ _ _ _ _ _ us hl => match us, hl with | [_, _, _, _], _ => rfl
  chk := by decide +kernel
theorem k_is_idle : DefB fr fl f_is_idle d_is_idle where
  at_ := rfl
  dfl := rfl
  kwd := rfl
  sc := ⟨rfl, rfl, rfl, by decide +kernel, rfl, by decide +kernel, by decide +kernel⟩
  bind := fun _ _ _ _ _ _ us hl => match us, hl with | [_], _ => rfl
  chk := by decide +kernel
theorem k_has_within : DefB fr fl f_has_within d_has_within where
  at_ := rfl
  dfl := rfl
  kwd := rfl
  sc := ⟨rfl, rfl, rfl, by decide +kernel, rfl, by decide +kernel, by decide +kernel⟩
  bind := fun _ _ _ _ _ _ us hl => match us, hl with | [_, _], _ => rfl
  chk := by decide +kernel
theorem k_is_unit : DefB fr fl f_is_unit d_is_unit where
  at_ := rfl
  dfl := rfl
  kwd := rfl
  sc := ⟨rfl, rfl, rfl, by decide +kernel, rfl, by decide +kernel, by decide +kernel⟩
  bind := fun _ _ _ _ _ _ us hl => match us, hl with | [_], _ => rfl
  chk := by decide +kernel
theorem k__law_left : DefB fr fl f__law_left d__law_left where
  at_ := rfl
  dfl := rfl
  kwd := rfl
  sc := ⟨rfl, rfl, rfl, by decide +kernel, rfl, by decide +kernel, by decide +kernel⟩
  bind := fun _ _ _ _ _ _ us hl => match us, hl with | [_], _ => rfl
  chk := by decide +kernel
theorem k__law_digit : DefB fr fl f__law_digit d__law_digit where
  at_ := rfl
  dfl := rfl
  kwd := rfl
  sc := ⟨rfl, rfl, rfl, by decide +kernel, rfl, by decide +kernel, by decide +kernel⟩
  bind := fun _ _ _ _ _ _ us hl => match us, hl with | [_, _], _ => rfl
  chk := by decide +kernel
theorem k__law_table : DefB fr fl f__law_table d__law_table where
  at_ := rfl
  dfl := rfl
  kwd := rfl
  sc := ⟨rfl, rfl, rfl, by decide +kernel, rfl, by decide +kernel, by decide +kernel⟩
  bind := fun _ _ _ _ _ _ us hl => match us, hl with | [_], _ => rfl
  chk := by decide +kernel
theorem k__law_term : DefB fr fl f__law_term d__law_term where
  at_ := rfl
  dfl := rfl
  kwd := rfl
  sc := ⟨rfl, rfl, rfl, by decide +kernel, rfl, by decide +kernel, by decide +kernel⟩
  bind := fun _ _ _ _ _ _ us hl => match us, hl with | [_, _, _, _], _ => rfl
  chk := by decide +kernel
theorem k__law_filled : DefB fr fl f__law_filled d__law_filled where
  at_ := rfl
  dfl := rfl
  kwd := rfl
  sc := ⟨rfl, rfl, rfl, by decide +kernel, rfl, by decide +kernel, by decide +kernel⟩
  bind := fun _ _ _ _ _ _ us hl => match us, hl with | [_, _], _ => rfl
  chk := by decide +kernel
theorem k__law_side : DefB fr fl f__law_side d__law_side where
  at_ := rfl
  dfl := rfl
  kwd := rfl
  sc := ⟨rfl, rfl, rfl, by decide +kernel, rfl, by decide +kernel, by decide +kernel⟩
  bind := fun _ _ _ _ _ _ us hl => match us, hl with | [_, _, _, _], _ => rfl
  chk := by decide +kernel
theorem k__law_claim : DefB fr fl f__law_claim d__law_claim where
  at_ := rfl
  dfl := rfl
  kwd := rfl
  sc := ⟨rfl, rfl, rfl, by decide +kernel, rfl, by decide +kernel, by decide +kernel⟩
  bind := fun _ _ _ _ _ _ us hl => match us, hl with | [_, _, _, _, _], _ => rfl
  chk := by decide +kernel
theorem k__law_same : DefB fr fl f__law_same d__law_same where
  at_ := rfl
  dfl := rfl
  kwd := rfl
  sc := ⟨rfl, rfl, rfl, by decide +kernel, rfl, by decide +kernel, by decide +kernel⟩
  bind := fun _ _ _ _ _ _ us hl => match us, hl with | [_, _], _ => rfl
  chk := by decide +kernel
theorem k__law_all_filled : DefB fr fl f__law_all_filled d__law_all_filled where
  at_ := rfl
  dfl := rfl
  kwd := rfl
  sc := ⟨rfl, rfl, rfl, by decide +kernel, rfl, by decide +kernel, by decide +kernel⟩
  bind := fun _ _ _ _ _ _ us hl => match us, hl with | [_, _], _ => rfl
  chk := by decide +kernel
theorem k__law_fit_on : DefB fr fl f__law_fit_on d__law_fit_on where
  at_ := rfl
  dfl := rfl
  kwd := rfl
  sc := ⟨rfl, rfl, rfl, by decide +kernel, rfl, by decide +kernel, by decide +kernel⟩
  bind := fun _ _ _ _ _ _ us hl => match us, hl with | [_, _, _], _ => rfl
  chk := by decide +kernel
theorem k__law_embeds : DefB fr fl f__law_embeds d__law_embeds where
  at_ := rfl
  dfl := rfl
  kwd := rfl
  sc := ⟨rfl, rfl, rfl, by decide +kernel, rfl, by decide +kernel, by decide +kernel⟩
  bind := fun _ _ _ _ _ _ us hl => match us, hl with | [_, _, _], _ => rfl
  chk := by decide +kernel
theorem k__law_idle : DefB fr fl f__law_idle d__law_idle where
  at_ := rfl
  dfl := rfl
  kwd := rfl
  sc := ⟨rfl, rfl, rfl, by decide +kernel, rfl, by decide +kernel, by decide +kernel⟩
  bind := fun _ _ _ _ _ _ us hl => match us, hl with | [_], _ => rfl
  chk := by decide +kernel
theorem k__law_bent : DefB fr fl f__law_bent d__law_bent where
  at_ := rfl
  dfl := rfl
  kwd := rfl
  sc := ⟨rfl, rfl, rfl, by decide +kernel, rfl, by decide +kernel, by decide +kernel⟩
  bind := fun _ _ _ _ _ _ us hl => match us, hl with | [_, _], _ => rfl
  chk := by decide +kernel
theorem k__law_fuller : DefB fr fl f__law_fuller d__law_fuller where
  at_ := rfl
  dfl := rfl
  kwd := rfl
  sc := ⟨rfl, rfl, rfl, by decide +kernel, rfl, by decide +kernel, by decide +kernel⟩
  bind := fun _ _ _ _ _ _ us hl => match us, hl with | [_, _, _], _ => rfl
  chk := by decide +kernel
theorem k_law : DefB fr fl f_law d_law where
  at_ := rfl
  dfl := rfl
  kwd := rfl
  sc := ⟨rfl, rfl, rfl, by decide +kernel, rfl, by decide +kernel, by decide +kernel⟩
  bind := fun _ _ _ _ _ _ us hl => match us, hl with | [_], _ => rfl
  chk := by decide +kernel
theorem o_is_letter {k : Nat} {S : Sto} {Q X : QW} {x0 : W} (h : wSs ⟨callK T G0 k, G0⟩ b_is_letter { nx := fun _ S' => Q .non S', rt := Q, ex := X } [some x0] S) : callK T G0 (k + 1) "is_letter" [x0] S Q X := .inl ⟨f_is_letter, rfl, rfl, h⟩
theorem o_fit_on {k : Nat} {S : Sto} {Q X : QW} {x0 x1 x2 : W} (h : wSs ⟨callK T G0 k, G0⟩ b_fit_on { nx := fun _ S' => Q .non S', rt := Q, ex := X } [some x0, some x1, some x2, none, none, none] S) : callK T G0 (k + 1) "fit_on" [x0, x1, x2] S Q X := .inl ⟨f_fit_on, rfl, rfl, h⟩
theorem o_same {k : Nat} {S : Sto} {Q X : QW} {x0 x1 : W} (h : wSs ⟨callK T G0 k, G0⟩ b_same { nx := fun _ S' => Q .non S', rt := Q, ex := X } [some x0, some x1] S) : callK T G0 (k + 1) "same" [x0, x1] S Q X := .inl ⟨f_same, rfl, rfl, h⟩
theorem o_fits_of {k : Nat} {S : Sto} {Q X : QW} {x0 x1 x2 : W} (h : wSs ⟨callK T G0 k, G0⟩ b_fits_of { nx := fun _ S' => Q .non S', rt := Q, ex := X } [some x0, some x1, some x2, none, none, none, none] S) : callK T G0 (k + 1) "fits_of" [x0, x1, x2] S Q X := .inl ⟨f_fits_of, rfl, rfl, h⟩
theorem o_embeds {k : Nat} {S : Sto} {Q X : QW} {x0 x1 x2 x3 : W} (h : wSs ⟨callK T G0 k, G0⟩ b_embeds { nx := fun _ S' => Q .non S', rt := Q, ex := X } [some x0, some x1, some x2, some x3, none, none, none] S) : callK T G0 (k + 1) "embeds" [x0, x1, x2, x3] S Q X := .inl ⟨f_embeds, rfl, rfl, h⟩
theorem o_is_idle {k : Nat} {S : Sto} {Q X : QW} {x0 : W} (h : wSs ⟨callK T G0 k, G0⟩ b_is_idle { nx := fun _ S' => Q .non S', rt := Q, ex := X } [some x0, none, none, none, none] S) : callK T G0 (k + 1) "is_idle" [x0] S Q X := .inl ⟨f_is_idle, rfl, rfl, h⟩
theorem o_has_within {k : Nat} {S : Sto} {Q X : QW} {x0 x1 : W} (h : wSs ⟨callK T G0 k, G0⟩ b_has_within { nx := fun _ S' => Q .non S', rt := Q, ex := X } [some x0, some x1] S) : callK T G0 (k + 1) "has_within" [x0, x1] S Q X := .inl ⟨f_has_within, rfl, rfl, h⟩
theorem o_is_unit {k : Nat} {S : Sto} {Q X : QW} {x0 : W} (h : wSs ⟨callK T G0 k, G0⟩ b_is_unit { nx := fun _ S' => Q .non S', rt := Q, ex := X } [some x0] S) : callK T G0 (k + 1) "is_unit" [x0] S Q X := .inl ⟨f_is_unit, rfl, rfl, h⟩
theorem o__law_left {k : Nat} {S : Sto} {Q X : QW} {x0 : W} (h : wSs ⟨callK T G0 k, G0⟩ b__law_left { nx := fun _ S' => Q .non S', rt := Q, ex := X } [some x0, none, none, none] S) : callK T G0 (k + 1) "_law_left" [x0] S Q X := .inl ⟨f__law_left, rfl, rfl, h⟩
theorem o__law_digit {k : Nat} {S : Sto} {Q X : QW} {x0 x1 : W} (h : wSs ⟨callK T G0 k, G0⟩ b__law_digit { nx := fun _ S' => Q .non S', rt := Q, ex := X } [some x0, some x1, none] S) : callK T G0 (k + 1) "_law_digit" [x0, x1] S Q X := .inl ⟨f__law_digit, rfl, rfl, h⟩
theorem o__law_table {k : Nat} {S : Sto} {Q X : QW} {x0 : W} (h : wSs ⟨callK T G0 k, G0⟩ b__law_table { nx := fun _ S' => Q .non S', rt := Q, ex := X } [some x0, none, none, none, none, none, none, none] S) : callK T G0 (k + 1) "_law_table" [x0] S Q X := .inl ⟨f__law_table, rfl, rfl, h⟩
theorem o__law_term {k : Nat} {S : Sto} {Q X : QW} {x0 x1 x2 x3 : W} (h : wSs ⟨callK T G0 k, G0⟩ b__law_term { nx := fun _ S' => Q .non S', rt := Q, ex := X } [some x0, some x1, some x2, some x3, none, none, none] S) : callK T G0 (k + 1) "_law_term" [x0, x1, x2, x3] S Q X := .inl ⟨f__law_term, rfl, rfl, h⟩
theorem o__law_filled {k : Nat} {S : Sto} {Q X : QW} {x0 x1 : W} (h : wSs ⟨callK T G0 k, G0⟩ b__law_filled { nx := fun _ S' => Q .non S', rt := Q, ex := X } [some x0, some x1, none] S) : callK T G0 (k + 1) "_law_filled" [x0, x1] S Q X := .inl ⟨f__law_filled, rfl, rfl, h⟩
theorem o__law_side {k : Nat} {S : Sto} {Q X : QW} {x0 x1 x2 x3 : W} (h : wSs ⟨callK T G0 k, G0⟩ b__law_side { nx := fun _ S' => Q .non S', rt := Q, ex := X } [some x0, some x1, some x2, some x3] S) : callK T G0 (k + 1) "_law_side" [x0, x1, x2, x3] S Q X := .inl ⟨f__law_side, rfl, rfl, h⟩
theorem o__law_claim {k : Nat} {S : Sto} {Q X : QW} {x0 x1 x2 x3 x4 : W} (h : wSs ⟨callK T G0 k, G0⟩ b__law_claim { nx := fun _ S' => Q .non S', rt := Q, ex := X } [some x0, some x1, some x2, some x3, some x4, none, none, none] S) : callK T G0 (k + 1) "_law_claim" [x0, x1, x2, x3, x4] S Q X := .inl ⟨f__law_claim, rfl, rfl, h⟩
theorem o__law_same {k : Nat} {S : Sto} {Q X : QW} {x0 x1 : W} (h : wSs ⟨callK T G0 k, G0⟩ b__law_same { nx := fun _ S' => Q .non S', rt := Q, ex := X } [some x0, some x1] S) : callK T G0 (k + 1) "_law_same" [x0, x1] S Q X := .inl ⟨f__law_same, rfl, rfl, h⟩
theorem o__law_all_filled {k : Nat} {S : Sto} {Q X : QW} {x0 x1 : W} (h : wSs ⟨callK T G0 k, G0⟩ b__law_all_filled { nx := fun _ S' => Q .non S', rt := Q, ex := X } [some x0, some x1, none, none, none] S) : callK T G0 (k + 1) "_law_all_filled" [x0, x1] S Q X := .inl ⟨f__law_all_filled, rfl, rfl, h⟩
theorem o__law_fit_on {k : Nat} {S : Sto} {Q X : QW} {x0 x1 x2 : W} (h : wSs ⟨callK T G0 k, G0⟩ b__law_fit_on { nx := fun _ S' => Q .non S', rt := Q, ex := X } [some x0, some x1, some x2, none, none] S) : callK T G0 (k + 1) "_law_fit_on" [x0, x1, x2] S Q X := .inl ⟨f__law_fit_on, rfl, rfl, h⟩
theorem o__law_embeds {k : Nat} {S : Sto} {Q X : QW} {x0 x1 x2 : W} (h : wSs ⟨callK T G0 k, G0⟩ b__law_embeds { nx := fun _ S' => Q .non S', rt := Q, ex := X } [some x0, some x1, some x2, none, none, none, none, none, none, none] S) : callK T G0 (k + 1) "_law_embeds" [x0, x1, x2] S Q X := .inl ⟨f__law_embeds, rfl, rfl, h⟩
theorem o__law_idle {k : Nat} {S : Sto} {Q X : QW} {x0 : W} (h : wSs ⟨callK T G0 k, G0⟩ b__law_idle { nx := fun _ S' => Q .non S', rt := Q, ex := X } [some x0, none, none, none, none, none] S) : callK T G0 (k + 1) "_law_idle" [x0] S Q X := .inl ⟨f__law_idle, rfl, rfl, h⟩
theorem o__law_bent {k : Nat} {S : Sto} {Q X : QW} {x0 x1 : W} (h : wSs ⟨callK T G0 k, G0⟩ b__law_bent { nx := fun _ S' => Q .non S', rt := Q, ex := X } [some x0, some x1, none, none, none, none, none, none, none] S) : callK T G0 (k + 1) "_law_bent" [x0, x1] S Q X := .inl ⟨f__law_bent, rfl, rfl, h⟩
theorem o__law_fuller {k : Nat} {S : Sto} {Q X : QW} {x0 x1 x2 : W} (h : wSs ⟨callK T G0 k, G0⟩ b__law_fuller { nx := fun _ S' => Q .non S', rt := Q, ex := X } [some x0, some x1, some x2, none, none, none, none, none, none, none] S) : callK T G0 (k + 1) "_law_fuller" [x0, x1, x2] S Q X := .inl ⟨f__law_fuller, rfl, rfl, h⟩
theorem o_law {k : Nat} {S : Sto} {Q X : QW} {x0 : W} (h : wSs ⟨callK T G0 k, G0⟩ b_law { nx := fun _ S' => Q .non S', rt := Q, ex := X } [some x0, none, none, none, none, none, none, none, none, none, none] S) : callK T G0 (k + 1) "law" [x0] S Q X := .inl ⟨f_law, rfl, rfl, h⟩
theorem k_has_within_lam0 : ∃ d, findC f_has_within_lam0.name = some d ∧ CDef fr fl f_has_within_lam0 d := ⟨_, rfl, by decide +kernel, fun _ _ _ _ _ us hl => match us, hl with | [_], _ => rfl⟩
theorem o_has_within_lam0 {k : Nat} {S : Sto} {Q X : QW} {x0 : W} (h : wSs ⟨callK T G0 k, G0⟩ b_has_within_lam0 { nx := fun _ S' => Q .non S', rt := Q, ex := X } [some x0] S) : callK T G0 (k + 1) "has_within.lam0" [x0] S Q X := .inl ⟨f_has_within_lam0, rfl, rfl, h⟩
theorem all_x : ∀ e ∈ fl.exs, ∃ d ∈ fn, DefX e.1 e.2 d := fun _ h => nomatch h
theorem all_n : ∀ x ∈ fl.exn, (x = "NewError" ∧ fl.exs ≠ []) ∨ (x ≠ "NewError" ∧ ∃ f, (x, f) ∈ fl.exs) := fun _ h => nomatch h
theorem all_k : ∀ F ∈ T, (F.clo = false ∧ ∃ d ∈ fn, DefB fr fl F d) ∨ (F.clo = true ∧ ∃ d, findC F.name = some d ∧ CDef fr fl F d) := by
  intro F hF
  simp only [T, List.mem_cons, List.not_mem_nil, or_false] at hF
  rcases hF with rfl | rfl | rfl | rfl | rfl | rfl | rfl | rfl | rfl | rfl | rfl | rfl | rfl | rfl | rfl | rfl | rfl | rfl | rfl | rfl | rfl | rfl | rfl | rfl
  · exact .inl ⟨rfl, d_is_letter, by simp [fn], k_is_letter⟩
  · exact .inl ⟨rfl, d_fit_on, by simp [fn], k_fit_on⟩
  · exact .inl ⟨rfl, d_same, by simp [fn], k_same⟩
  · exact .inl ⟨rfl, d_fits_of, by simp [fn], k_fits_of⟩
  · exact .inl ⟨rfl, d_embeds, by simp [fn], k_embeds⟩
  · exact .inl ⟨rfl, d_is_idle, by simp [fn], k_is_idle⟩
  · exact .inl ⟨rfl, d_has_within, by simp [fn], k_has_within⟩
  · exact .inl ⟨rfl, d_is_unit, by simp [fn], k_is_unit⟩
  · exact .inl ⟨rfl, d__law_left, by simp [fn], k__law_left⟩
  · exact .inl ⟨rfl, d__law_digit, by simp [fn], k__law_digit⟩
  · exact .inl ⟨rfl, d__law_table, by simp [fn], k__law_table⟩
  · exact .inl ⟨rfl, d__law_term, by simp [fn], k__law_term⟩
  · exact .inl ⟨rfl, d__law_filled, by simp [fn], k__law_filled⟩
  · exact .inl ⟨rfl, d__law_side, by simp [fn], k__law_side⟩
  · exact .inl ⟨rfl, d__law_claim, by simp [fn], k__law_claim⟩
  · exact .inl ⟨rfl, d__law_same, by simp [fn], k__law_same⟩
  · exact .inl ⟨rfl, d__law_all_filled, by simp [fn], k__law_all_filled⟩
  · exact .inl ⟨rfl, d__law_fit_on, by simp [fn], k__law_fit_on⟩
  · exact .inl ⟨rfl, d__law_embeds, by simp [fn], k__law_embeds⟩
  · exact .inl ⟨rfl, d__law_idle, by simp [fn], k__law_idle⟩
  · exact .inl ⟨rfl, d__law_bent, by simp [fn], k__law_bent⟩
  · exact .inl ⟨rfl, d__law_fuller, by simp [fn], k__law_fuller⟩
  · exact .inl ⟨rfl, d_law, by simp [fn], k_law⟩
  · exact .inr ⟨rfl, k_has_within_lam0⟩

end K29

set_option Elab.async false
set_option linter.all false
set_option maxRecDepth 100000
set_option maxHeartbeats 4000000
namespace PD
open PySem

/-! ## an order of terms, by weights and names -/
mutual
def Tm.beq : Tm → Tm → Bool
  | .any n, .any m => n == m
  | .of x ts, .of y us => (x == y) && Tm.beqs ts us
  | _, _ => false
def Tm.beqs : List Tm → List Tm → Bool
  | [], [] => true
  | t :: ts, u :: us => Tm.beq t u && Tm.beqs ts us
  | _, _ => false
end
mutual
theorem Tm.beq_iff : ∀ {s t : Tm}, Tm.beq s t = true ↔ s = t
  | .any n, .any m => by simp [Tm.beq]
  | .any _, .of _ _ => by simp [Tm.beq]
  | .of _ _, .any _ => by simp [Tm.beq]
  | .of x ts, .of y us => by simp [Tm.beq, Tm.beqs_iff (ts := ts) (us := us)]
theorem Tm.beqs_iff : ∀ {ts us : List Tm}, Tm.beqs ts us = true ↔ ts = us
  | [], [] => by simp [Tm.beqs]
  | [], _ :: _ => by simp [Tm.beqs]
  | _ :: _, [] => by simp [Tm.beqs]
  | t :: ts, u :: us => by simp [Tm.beqs, Tm.beq_iff (s := t) (t := u), Tm.beqs_iff (ts := ts) (us := us)]
end
instance : DecidableEq Tm := fun s t => decidable_of_iff (Tm.beq s t = true) Tm.beq_iff
theorem Tm.beq_eq (s t : Tm) : Tm.beq s t = decide (s = t) := by
  by_cases h : s = t
  · rw [decide_eq_true h]; exact Tm.beq_iff.mpr h
  · rw [decide_eq_false h]
    cases q : Tm.beq s t with
    | false => rfl
    | true => exact (h (Tm.beq_iff.mp q)).elim
structure Od where
  wt : Str → Int
  rk : Str → Int
  ar : Str → Nat
  nm : Str → Prop
structure Od.ok (O : Od) : Prop where
  wt : ∀ x, 1 ≤ O.wt x
  inj : ∀ x y, O.nm x → O.nm y → O.rk x = O.rk y → x = y
section
variable (O : Od)
mutual
def over : Tm → Prop
  | .any _ => True
  | .of x ts => O.nm x ∧ ts.length = O.ar x ∧ overs ts
def overs : List Tm → Prop
  | [] => True
  | t :: ts => over t ∧ overs ts
end
mutual
def wtT : Tm → Int
  | .any _ => 1
  | .of x ts => O.wt x + wtTs ts
def wtTs : List Tm → Int
  | [] => 0
  | t :: ts => wtT t + wtTs ts
end
end
mutual
def lets : Tm → List Int
  | .any n => [n]
  | .of _ ts => letss ts
def letss : List Tm → List Int
  | [] => []
  | t :: ts => lets t ++ letss ts
end
/-- no number stands oftener in the second row -/
def bearsL : List Int → List Int → Bool
  | _, [] => true
  | l, n :: r => l.contains n && bearsL (l.erase n) r
section
variable (O : Od)
mutual
def gt : Tm → Tm → Bool
  | .any _, _ => false
  | .of x ss, .any n => bearsL (letss ss) [n] && decide (1 < O.wt x + wtTs O ss)
  | .of x ss, .of y ts => !(decide (x = y) && Tm.beqs ss ts) && (bearsL (letss ss) (letss ts) && (if O.wt x + wtTs O ss = O.wt y + wtTs O ts then (if x = y then gts ss ts else decide (O.rk y < O.rk x)) else decide (O.wt y + wtTs O ts < O.wt x + wtTs O ss)))
def gts : List Tm → List Tm → Bool
  | p :: ps, o :: os => if Tm.beq p o = true then gts ps os else gt p o
  | _, _ => false
end
end
theorem bearsL_iff : ∀ {r l : List Int}, bearsL l r = true ↔ ∃ rest, l.Perm (r ++ rest)
  | [], l => ⟨fun _ => ⟨l, by simp⟩, fun _ => by unfold bearsL; rfl⟩
  | n :: r, l => by
    unfold bearsL
    rw [Bool.and_eq_true, bearsL_iff (r := r)]
    constructor
    · rintro ⟨h, rest, hp⟩
      have hm : n ∈ l := by simpa using h
      exact ⟨rest, (List.perm_cons_erase hm).trans (hp.cons n)⟩
    · rintro ⟨rest, hp⟩
      have hm : n ∈ l := hp.mem_iff.mpr (by simp)
      refine ⟨by simpa using hm, rest, ?_⟩
      have := hp.erase n
      simpa using this
def bears (s t : Tm) : Prop := ∃ rest, (lets s).Perm (lets t ++ rest)
theorem bears.refl (s : Tm) : bears s s := ⟨[], by simp⟩
theorem bears.trans {s t u : Tm} (h1 : bears s t) (h2 : bears t u) : bears s u := by
  obtain ⟨r1, p1⟩ := h1
  obtain ⟨r2, p2⟩ := h2
  exact ⟨r2 ++ r1, p1.trans (by rw [← List.append_assoc]; exact p2.append_right r1)⟩
section
variable {O : Od}
mutual
theorem wt_pos (h : O.ok) : ∀ t : Tm, 1 ≤ wtT O t
  | .any _ => Int.le_refl _
  | .of x ts => by
    have h1 := h.wt x
    have h2 := wts_pos h ts
    show 1 ≤ O.wt x + wtTs O ts
    omega
theorem wts_pos (h : O.ok) : ∀ ts : List Tm, 0 ≤ wtTs O ts
  | [] => Int.le_refl _
  | t :: ts => by
    have h1 := wt_pos h t
    have h2 := wts_pos h ts
    show 0 ≤ wtT O t + wtTs O ts
    omega
end
/-- what greater says -/
def Gt (O : Od) (s t : Tm) : Prop := s ≠ t ∧ bears s t ∧ (wtT O t < wtT O s ∨ (wtT O s = wtT O t ∧ ∃ x ss y ts, s = .of x ss ∧ t = .of y ts ∧ ((x ≠ y ∧ O.rk y < O.rk x) ∨ (x = y ∧ gts O ss ts = true))))
theorem gt_iff (h : O.ok) : ∀ {s t : Tm}, gt O s t = true ↔ Gt O s t
  | .any n, t => by
    constructor
    · intro z; unfold gt at z; cases z
    · rintro ⟨h1, h2, h3 | ⟨_, x, ss, y, ts, z, _⟩⟩
      · have := wt_pos h t
        have e : wtT O (.any n) = 1 := rfl
        omega
      · cases z
  | .of x ss, .any n => by
    unfold gt
    rw [Bool.and_eq_true, bearsL_iff, decide_eq_true_eq]
    constructor
    · rintro ⟨h1, h2⟩
      exact ⟨(fun z => nomatch z), h1, .inl h2⟩
    · rintro ⟨_, h2, h3 | ⟨_, x, ss, y, ts, _, z, _⟩⟩
      · exact ⟨h2, h3⟩
      · cases z
  | .of x ss, .of y ts => by
    unfold gt
    rw [Bool.and_eq_true, Bool.and_eq_true, bearsL_iff]
    have e1 : ((!(decide (x = y) && Tm.beqs ss ts)) = true) ↔ (Tm.of x ss ≠ .of y ts) := by
      by_cases hx : x = y
      · subst hx
        cases q : Tm.beqs ss ts with
        | true => have := Tm.beqs_iff.mp q; subst this; simp
        | false =>
          have : ss ≠ ts := fun z => by rw [Tm.beqs_iff.mpr z] at q; cases q
          simp [this]
      · simp [hx]
    rw [e1]
    show _ ∧ _ ∧ _ ↔ _ ∧ _ ∧ (O.wt y + wtTs O ts < O.wt x + wtTs O ss ∨ (O.wt x + wtTs O ss = O.wt y + wtTs O ts ∧ _))
    refine and_congr Iff.rfl (and_congr Iff.rfl ?_)
    by_cases hw : O.wt x + wtTs O ss = O.wt y + wtTs O ts
    · rw [if_pos hw]
      constructor
      · intro z
        refine .inr ⟨hw, x, ss, y, ts, rfl, rfl, ?_⟩
        by_cases hx : x = y
        · rw [if_pos hx] at z; exact .inr ⟨hx, z⟩
        · rw [if_neg hx] at z; exact .inl ⟨hx, of_decide_eq_true z⟩
      · rintro (z | ⟨_, x', ss', y', ts', e1, e2, z⟩)
        · omega
        · cases e1; cases e2
          rcases z with ⟨hx, z⟩ | ⟨hx, z⟩
          · rw [if_neg hx]; exact decide_eq_true z
          · rw [if_pos hx]; exact z
    · rw [if_neg hw, decide_eq_true_eq]
      exact ⟨.inl, fun z => z.elim id fun z => (hw z.1).elim⟩
theorem gts_cons {p o : Tm} {ps os : List Tm} : gts O (p :: ps) (o :: os) = if p = o then gts O ps os else gt O p o := by
  show (if Tm.beq p o = true then gts O ps os else gt O p o) = _
  by_cases h : p = o
  · rw [if_pos h, if_pos (Tm.beq_iff.mpr h)]
  · rw [if_neg h, if_neg (fun z => h (Tm.beq_iff.mp z))]
mutual
theorem gt_asym (h : O.ok) : ∀ (s t : Tm), gt O s t = true → gt O t s = true → False
  | .any n, t, h1, _ => by unfold gt at h1; cases h1
  | .of x ss, t, h1, h2 => by
    obtain ⟨_, _, a⟩ := (gt_iff h).mp h1
    obtain ⟨_, _, b⟩ := (gt_iff h).mp h2
    rcases a with a | ⟨a0, x1, ss1, y1, ts1, e1, rfl, a⟩
    · rcases b with b | ⟨b, _⟩ <;> omega
    · rcases b with b | ⟨_, x2, ss2, y2, ts2, e3, e4, b⟩
      · omega
      · cases e1; cases e3; cases e4
        rcases a with ⟨n1, a⟩ | ⟨rfl, a⟩
        · rcases b with ⟨_, b⟩ | ⟨e, _⟩
          · omega
          · exact n1 e.symm
        · rcases b with ⟨n1, _⟩ | ⟨_, b⟩
          · exact n1 rfl
          · exact gts_asym h ss ts1 a b
theorem gts_asym (h : O.ok) : ∀ (ss ts : List Tm), gts O ss ts = true → gts O ts ss = true → False
  | [], ts, h1, _ => by cases ts <;> (unfold gts at h1; cases h1)
  | s :: ss, [], h1, _ => by unfold gts at h1; cases h1
  | s :: ss, t :: ts, h1, h2 => by
    rw [gts_cons] at h1 h2
    by_cases e : s = t
    · rw [if_pos e] at h1
      rw [if_pos e.symm] at h2
      exact gts_asym h ss ts h1 h2
    · rw [if_neg e] at h1
      rw [if_neg (Ne.symm e)] at h2
      exact gt_asym h s t h1 h2
end
mutual
theorem gt_trans (h : O.ok) : ∀ (s t u : Tm), over O s → over O t → over O u → gt O s t = true → gt O t u = true → gt O s u = true
  | .any n, t, u, _, _, _, h1, _ => by unfold gt at h1; cases h1
  | .of x ss, t, u, os, ot, ou, h1, h2 => by
    have ne : Tm.of x ss ≠ u := fun z => by subst z; exact gt_asym h _ _ h1 h2
    obtain ⟨_, b1, a⟩ := (gt_iff h).mp h1
    obtain ⟨_, b2, b⟩ := (gt_iff h).mp h2
    refine (gt_iff h).mpr ⟨ne, b1.trans b2, ?_⟩
    rcases a with a | ⟨a0, x1, ss1, y1, ts1, e1, rfl, a⟩
    · rcases b with b | ⟨b, _⟩ <;> exact .inl (by omega)
    · rcases b with b | ⟨b0, x2, ss2, y2, ts2, e3, rfl, b⟩
      · exact .inl (by omega)
      · cases e1; cases e3
        refine .inr ⟨by omega, _, _, _, _, rfl, rfl, ?_⟩
        unfold over at os ot ou
        rcases a with ⟨n1, a⟩ | ⟨rfl, a⟩
        · rcases b with ⟨n2, b⟩ | ⟨rfl, b⟩
          · exact .inl ⟨fun z => by subst z; omega, by omega⟩
          · exact .inl ⟨n1, a⟩
        · rcases b with ⟨n2, b⟩ | ⟨rfl, b⟩
          · exact .inl ⟨n2, b⟩
          · exact .inr ⟨rfl, gts_trans h _ _ _ os.2.2 ot.2.2 ou.2.2 a b⟩
theorem gts_trans (h : O.ok) : ∀ (ss ts us : List Tm), overs O ss → overs O ts → overs O us → gts O ss ts = true → gts O ts us = true → gts O ss us = true
  | [], ts, us, _, _, _, h1, _ => by cases ts <;> (unfold gts at h1; cases h1)
  | s :: ss, [], us, _, _, _, h1, _ => by unfold gts at h1; cases h1
  | s :: ss, t :: ts, [], _, _, _, _, h2 => by unfold gts at h2; cases h2
  | s :: ss, t :: ts, u :: us, os, ot, ou, h1, h2 => by
    unfold overs at os ot ou
    rw [gts_cons] at h1 h2 ⊢
    by_cases e1 : s = t
    · subst e1
      rw [if_pos rfl] at h1
      by_cases e2 : s = u
      · rw [if_pos e2] at h2 ⊢
        exact gts_trans h ss ts us os.2 ot.2 ou.2 h1 h2
      · rw [if_neg e2] at h2 ⊢
        exact h2
    · rw [if_neg e1] at h1
      by_cases e2 : t = u
      · subst e2
        rw [if_neg e1]; exact h1
      · rw [if_neg e2] at h2
        have e3 : s ≠ u := fun z => by subst z; exact gt_asym h _ _ h1 h2
        rw [if_neg e3]
        exact gt_trans h s t u os.1 ot.1 ou.1 h1 h2
end
end
end PD

set_option Elab.async false
set_option linter.all false
set_option maxRecDepth 100000
set_option maxHeartbeats 4000000
namespace PD
open PySem

/-! ## parts, fillings, terms around -/
def okSpot : List Nat → Tm → Prop
  | [], _ => True
  | k :: ks, .of _ ts => ∃ u, ts[k]? = some u ∧ okSpot ks u
  | _ :: _, .any _ => False
def atT : List Nat → Tm → Tm
  | [], t => t
  | k :: ks, .of _ ts => match ts[k]? with
    | some u => atT ks u
    | none => .any 0
  | _ :: _, .any n => .any n
def putT : List Nat → Tm → Tm → Tm
  | [], _, w => w
  | k :: ks, .of x ts, w => match ts[k]? with
    | some u => .of x (ts.take k ++ putT ks u w :: ts.drop (k + 1))
    | none => .any 0
  | _ :: _, .any n, _ => .any n
mutual
def fillT (σ : Int → Tm) : Tm → Tm
  | .any n => σ n
  | .of x ts => .of x (fillTs σ ts)
def fillTs (σ : Int → Tm) : List Tm → List Tm
  | [] => []
  | t :: ts => fillT σ t :: fillTs σ ts
end
theorem perm_sum {f : Int → Int} {a b : List Int} (h : a.Perm b) : (a.map f).sum = (b.map f).sum := by
  induction h with
  | nil => rfl
  | cons x _ ih => simp [ih]
  | swap x y l => simp; omega
  | trans _ _ i j => exact i.trans j
theorem perm_fm {g : Int → List Int} {a b : List Int} (h : a.Perm b) : (a.flatMap g).Perm (b.flatMap g) := by
  induction h with
  | nil => exact .refl _
  | cons x _ ih => rw [List.flatMap_cons, List.flatMap_cons]; exact ih.append_left _
  | swap x y l =>
    rw [List.flatMap_cons, List.flatMap_cons, List.flatMap_cons, List.flatMap_cons, ← List.append_assoc, ← List.append_assoc]
    exact List.perm_append_comm.append_right _
  | trans _ _ i j => exact i.trans j
theorem letss_app : ∀ (a b : List Tm), letss (a ++ b) = letss a ++ letss b
  | [], b => rfl
  | t :: a, b => by
    show lets t ++ letss (a ++ b) = lets t ++ letss a ++ letss b
    rw [letss_app a b, List.append_assoc]
section
variable {O : Od}
theorem wts_app : ∀ (a b : List Tm), wtTs O (a ++ b) = wtTs O a + wtTs O b
  | [], b => by show _ = 0 + _; rw [Int.zero_add]; rfl
  | t :: a, b => by
    show wtT O t + wtTs O (a ++ b) = wtT O t + wtTs O a + wtTs O b
    rw [wts_app a b]; omega
theorem gts_pre {a b : List Tm} : ∀ pre : List Tm, gts O (pre ++ a) (pre ++ b) = gts O a b
  | [] => rfl
  | t :: pre => by
    rw [List.cons_append, List.cons_append, gts_cons, if_pos rfl, gts_pre pre]
theorem split_at {ts : List Tm} {k : Nat} {u : Tm} (h : ts[k]? = some u) : ts = ts.take k ++ u :: ts.drop (k + 1) := by
  have hk : k < ts.length := (List.getElem?_eq_some_iff.mp h).1
  have e : ts[k] = u := (List.getElem?_eq_some_iff.mp h).2
  rw [← e, ← List.drop_eq_getElem_cons hk, List.take_append_drop]
theorem gt_of_wt (h : O.ok) {s t : Tm} (b : bears s t) (w : wtT O t < wtT O s) : gt O s t = true :=
  (gt_iff h).mpr ⟨fun z => by subst z; omega, b, .inl w⟩
/-! ### parts -/
theorem at_le (h : O.ok) : ∀ (ks : List Nat) (t : Tm), okSpot ks t → wtT O (atT ks t) ≤ wtT O t ∧ bears t (atT ks t)
  | [], t, _ => ⟨Int.le_refl _, bears.refl t⟩
  | k :: ks, .any _, z => z.elim
  | k :: ks, .of x ts, ⟨u, hu, z⟩ => by
    obtain ⟨i1, rest, i2⟩ := at_le h ks u z
    have e : atT (k :: ks) (.of x ts) = atT ks u := by
      show (match ts[k]? with | some u => atT ks u | none => Tm.any 0) = _
      rw [hu]
    rw [e]
    have hs := split_at hu
    have hw : wtTs O ts = wtTs O (ts.take k) + (wtT O u + wtTs O (ts.drop (k + 1))) := by
      conv => lhs; rw [hs]
      rw [wts_app]; rfl
    have hl : letss ts = letss (ts.take k) ++ (lets u ++ letss (ts.drop (k + 1))) := by
      conv => lhs; rw [hs]
      rw [letss_app]; rfl
    have w1 := h.wt x
    have w2 := wts_pos h (ts.take k)
    have w3 := wts_pos h (ts.drop (k + 1))
    refine ⟨by show _ ≤ O.wt x + wtTs O ts; omega, ?_⟩
    refine ⟨rest ++ (letss (ts.take k) ++ letss (ts.drop (k + 1))), ?_⟩
    show (letss ts).Perm _
    rw [hl]
    have p1 : (letss (ts.take k) ++ (lets u ++ letss (ts.drop (k + 1)))).Perm (lets u ++ (letss (ts.take k) ++ letss (ts.drop (k + 1)))) := by
      rw [← List.append_assoc, ← List.append_assoc]
      exact List.perm_append_comm.append_right _
    refine p1.trans ?_
    rw [← List.append_assoc (lets (atT ks u))]
    exact i2.append_right _
theorem gt_at (h : O.ok) {ks : List Nat} {t : Tm} (hs : okSpot ks t) (hn : ks ≠ []) : gt O t (atT ks t) = true := by
  obtain ⟨_, b⟩ := at_le h ks t hs
  refine gt_of_wt h b ?_
  match ks, t, hs, hn with
  | k :: ks, .of x ts, ⟨u, hu, z⟩, _ =>
    obtain ⟨i1, _⟩ := at_le h ks u z
    have e : atT (k :: ks) (.of x ts) = atT ks u := by
      show (match ts[k]? with | some u => atT ks u | none => Tm.any 0) = _
      rw [hu]
    rw [e]
    have hs := split_at hu
    have hw : wtTs O ts = wtTs O (ts.take k) + (wtT O u + wtTs O (ts.drop (k + 1))) := by
      conv => lhs; rw [hs]
      rw [wts_app]; rfl
    have w1 := h.wt x
    have w2 := wts_pos h (ts.take k)
    have w3 := wts_pos h (ts.drop (k + 1))
    show _ < O.wt x + wtTs O ts
    omega
/-! ### terms around -/
theorem gt_put (h : O.ok) {s t : Tm} (hg : gt O s t = true) : ∀ (ks : List Nat) (u : Tm), okSpot ks u → gt O (putT ks u s) (putT ks u t) = true
  | [], u, _ => hg
  | k :: ks, .any _, z => z.elim
  | k :: ks, .of x ts, ⟨u, hu, z⟩ => by
    have ih := gt_put h hg ks u z
    have e : ∀ w, putT (k :: ks) (.of x ts) w = .of x (ts.take k ++ putT ks u w :: ts.drop (k + 1)) := fun w => by
      show (match ts[k]? with | some u => Tm.of x (ts.take k ++ putT ks u w :: ts.drop (k + 1)) | none => .any 0) = _
      rw [hu]
    rw [e, e]
    generalize putT ks u s = a at ih
    generalize putT ks u t = b at ih
    obtain ⟨ne, ⟨rest, p⟩, c⟩ := (gt_iff h).mp ih
    have hw : ∀ c, wtT O (.of x (ts.take k ++ c :: ts.drop (k + 1))) = O.wt x + (wtTs O (ts.take k) + (wtT O c + wtTs O (ts.drop (k + 1)))) := fun c => by
      show O.wt x + wtTs O (ts.take k ++ c :: ts.drop (k + 1)) = _
      rw [wts_app]; rfl
    have hl : ∀ c, lets (.of x (ts.take k ++ c :: ts.drop (k + 1))) = letss (ts.take k) ++ (lets c ++ letss (ts.drop (k + 1))) := fun c => by
      show letss (ts.take k ++ c :: ts.drop (k + 1)) = _
      rw [letss_app]; rfl
    have hb : bears (.of x (ts.take k ++ a :: ts.drop (k + 1))) (.of x (ts.take k ++ b :: ts.drop (k + 1))) := by
      refine ⟨rest, ?_⟩
      rw [hl, hl, List.append_assoc, List.append_assoc]
      refine List.Perm.append_left _ ((p.append_right _).trans ?_)
      rw [List.append_assoc]
      exact List.perm_append_comm.append_left _
    refine (gt_iff h).mpr ⟨fun z => ?_, hb, ?_⟩
    · injection z with _ z
      have := List.append_cancel_left z
      exact ne (List.cons.inj this).1
    · rw [hw, hw]
      rcases c with c | ⟨c, _⟩
      · exact .inl (by omega)
      · refine .inr ⟨by omega, _, _, _, _, rfl, rfl, .inr ⟨rfl, ?_⟩⟩
        rw [gts_pre, gts_cons, if_neg ne]
        exact ih
/-! ### fillings -/
mutual
theorem wt_fill (σ : Int → Tm) : ∀ t : Tm, wtT O (fillT σ t) = wtT O t + ((lets t).map fun n => wtT O (σ n) - 1).sum
  | .any n => by
    show wtT O (σ n) = 1 + ([wtT O (σ n) - 1] : List Int).sum
    simp; omega
  | .of x ts => by
    show O.wt x + wtTs O (fillTs σ ts) = O.wt x + wtTs O ts + ((letss ts).map fun n => wtT O (σ n) - 1).sum
    rw [wts_fill σ ts]; omega
theorem wts_fill (σ : Int → Tm) : ∀ ts : List Tm, wtTs O (fillTs σ ts) = wtTs O ts + ((letss ts).map fun n => wtT O (σ n) - 1).sum
  | [] => rfl
  | t :: ts => by
    show wtT O (fillT σ t) + wtTs O (fillTs σ ts) = wtT O t + wtTs O ts + ((lets t ++ letss ts).map fun n => wtT O (σ n) - 1).sum
    rw [wt_fill σ t, wts_fill σ ts, List.map_append, List.sum_append]; omega
end
mutual
theorem lets_fill (σ : Int → Tm) : ∀ t : Tm, lets (fillT σ t) = (lets t).flatMap fun n => lets (σ n)
  | .any n => by
    show lets (σ n) = ([n] : List Int).flatMap fun n => lets (σ n)
    simp
  | .of x ts => letss_fill σ ts
theorem letss_fill (σ : Int → Tm) : ∀ ts : List Tm, letss (fillTs σ ts) = (letss ts).flatMap fun n => lets (σ n)
  | [] => rfl
  | t :: ts => by
    show lets (fillT σ t) ++ letss (fillTs σ ts) = (lets t ++ letss ts).flatMap fun n => lets (σ n)
    rw [lets_fill σ t, letss_fill σ ts, List.flatMap_append]
end
theorem sum_nonneg {f : Int → Int} (hf : ∀ n, 0 ≤ f n) : ∀ l : List Int, 0 ≤ (l.map f).sum
  | [] => Int.le_refl _
  | n :: l => by
    rw [List.map_cons, List.sum_cons]
    have := hf n
    have := sum_nonneg hf l
    omega
theorem gts_ne (h : O.ok) {ss ts : List Tm} (z : gts O ss ts = true) : ss ≠ ts := fun e => by subst e; exact gts_asym h _ _ z z
mutual
theorem gt_fill (h : O.ok) (σ : Int → Tm) : ∀ s t : Tm, gt O s t = true → gt O (fillT σ s) (fillT σ t) = true
  | .any n, t, hg => by unfold gt at hg; cases hg
  | .of x ss, t, hg => by
    obtain ⟨ne, ⟨rest, p⟩, c⟩ := (gt_iff h).mp hg
    have hb : bears (fillT σ (.of x ss)) (fillT σ t) := by
      refine ⟨rest.flatMap fun n => lets (σ n), ?_⟩
      rw [lets_fill, lets_fill, ← List.flatMap_append]
      exact perm_fm p
    have hw : wtT O (fillT σ (.of x ss)) = wtT O (.of x ss) + (((lets t).map fun n => wtT O (σ n) - 1).sum + (rest.map fun n => wtT O (σ n) - 1).sum) := by
      rw [wt_fill, perm_sum p, List.map_append, List.sum_append]
    have hw2 := wt_fill (O := O) σ t
    have hr : 0 ≤ (rest.map fun n => wtT O (σ n) - 1).sum := sum_nonneg (fun n => by have := wt_pos h (σ n); omega) rest
    by_cases hlt : wtT O (fillT σ t) < wtT O (fillT σ (.of x ss))
    · exact gt_of_wt h hb hlt
    · rcases c with c | ⟨c0, x1, ss1, y1, ts1, e1, rfl, c⟩
      · omega
      · cases e1
        rcases c with ⟨n1, c⟩ | ⟨rfl, c⟩
        · refine (gt_iff h).mpr ⟨fun z => ?_, hb, .inr ⟨by omega, _, _, _, _, rfl, rfl, .inl ⟨n1, c⟩⟩⟩
          injection z with z _
          exact n1 z
        · have q := gts_fill h σ ss ts1 c
          refine (gt_iff h).mpr ⟨fun z => ?_, hb, .inr ⟨by omega, _, _, _, _, rfl, rfl, .inr ⟨rfl, q⟩⟩⟩
          injection z with _ z
          exact gts_ne h q z
theorem gts_fill (h : O.ok) (σ : Int → Tm) : ∀ ss ts : List Tm, gts O ss ts = true → gts O (fillTs σ ss) (fillTs σ ts) = true
  | [], ts, hg => by cases ts <;> (unfold gts at hg; cases hg)
  | s :: ss, [], hg => by unfold gts at hg; cases hg
  | s :: ss, t :: ts, hg => by
    rw [gts_cons] at hg
    show gts O (fillT σ s :: fillTs σ ss) (fillT σ t :: fillTs σ ts) = true
    rw [gts_cons]
    by_cases e : s = t
    · subst e
      rw [if_pos rfl] at hg ⊢
      exact gts_fill h σ ss ts hg
    · rw [if_neg e] at hg
      have q := gt_fill h σ s t hg
      rw [if_neg (fun z => by rw [z] at q; exact gt_asym h _ _ q q)]
      exact q
end
/-! ### terms without letters -/
mutual
theorem gt_tot (h : O.ok) : ∀ s t : Tm, lets s = [] → lets t = [] → over O s → over O t → s ≠ t → gt O s t = true ∨ gt O t s = true
  | .any n, t, ls, _, _, _, _ => by cases ls
  | .of x ss, .any n, _, lt, _, _, _ => by cases lt
  | .of x ss, .of y ts, ls, lt, os, ot, ne => by
    have b1 : bears (.of x ss) (.of y ts) := ⟨[], by rw [ls, lt]; exact .refl _⟩
    have b2 : bears (.of y ts) (.of x ss) := ⟨[], by rw [ls, lt]; exact .refl _⟩
    by_cases w1 : wtT O (.of y ts) < wtT O (.of x ss)
    · exact .inl (gt_of_wt h b1 w1)
    · by_cases w2 : wtT O (.of x ss) < wtT O (.of y ts)
      · exact .inr (gt_of_wt h b2 w2)
      · unfold over at os ot
        by_cases hx : x = y
        · subst hx
          have hn : ss ≠ ts := fun z => ne (by rw [z])
          rcases gts_tot h ss ts ls lt os.2.2 ot.2.2 (by rw [os.2.1, ot.2.1]) hn with q | q
          · exact .inl ((gt_iff h).mpr ⟨ne, b1, .inr ⟨by omega, _, _, _, _, rfl, rfl, .inr ⟨rfl, q⟩⟩⟩)
          · exact .inr ((gt_iff h).mpr ⟨ne.symm, b2, .inr ⟨by omega, _, _, _, _, rfl, rfl, .inr ⟨rfl, q⟩⟩⟩)
        · have hr : O.rk x ≠ O.rk y := fun z => hx (h.inj x y os.1 ot.1 z)
          by_cases w3 : O.rk y < O.rk x
          · exact .inl ((gt_iff h).mpr ⟨ne, b1, .inr ⟨by omega, _, _, _, _, rfl, rfl, .inl ⟨hx, w3⟩⟩⟩)
          · exact .inr ((gt_iff h).mpr ⟨ne.symm, b2, .inr ⟨by omega, _, _, _, _, rfl, rfl, .inl ⟨Ne.symm hx, by omega⟩⟩⟩)
theorem gts_tot (h : O.ok) : ∀ ss ts : List Tm, letss ss = [] → letss ts = [] → overs O ss → overs O ts → ss.length = ts.length → ss ≠ ts → gts O ss ts = true ∨ gts O ts ss = true
  | [], [], _, _, _, _, _, ne => (ne rfl).elim
  | [], t :: ts, _, _, _, _, hl, _ => by simp at hl
  | s :: ss, [], _, _, _, _, hl, _ => by simp at hl
  | s :: ss, t :: ts, ls, lt, os, ot, hl, ne => by
    have ls' : lets s ++ letss ss = [] := ls
    have lt' : lets t ++ letss ts = [] := lt
    rw [List.append_eq_nil_iff] at ls' lt'
    unfold overs at os ot
    rw [gts_cons, gts_cons]
    by_cases e : s = t
    · subst e
      rw [if_pos rfl, if_pos rfl]
      exact gts_tot h ss ts ls'.2 lt'.2 os.2 ot.2 (by simpa using hl) (fun z => ne (by rw [z]))
    · rw [if_neg e, if_neg (Ne.symm e)]
      exact gt_tot h s t ls'.1 lt'.1 os.1 ot.1 e
end
end
end PD

set_option Elab.async false
set_option linter.all false
set_option maxRecDepth 100000
set_option maxHeartbeats 4000000
namespace PD
open PySem
open L2 (atI Key)

/-! ## an order of rows -/
structure Rw where
  x : Str
  p : Nat
  g : Int
def Rw.w (r : Rw) : W := .tup [.str r.x, .int (r.p : Int), .int r.g]
def rowsW (rs : List Rw) : List W := rs.map Rw.w
def ranksK (rs : List Rw) : List Key := rs.map fun r => .inr r.x
def natsW (i n : Nat) : List W := (List.range' i n).map fun k : Nat => W.int (k : Int)
def ordW (rs : List Rw) : W := .ins "Order" ["rows", "ranks"] [.tup (rowsW rs), .dct (ranksK rs) (natsW 0 rs.length)]
def rAt (rs : List Rw) (x : Str) : Option Rw := rs.find? fun r => r.x == x
def idx (rs : List Rw) (x : Str) : Nat := rs.findIdx fun r => r.x == x
def odOf (rs : List Rw) : Od where
  wt := fun x => match rAt rs x with
    | some r => r.g
    | none => 1
  rk := fun x => (idx rs x : Int)
  ar := fun x => match rAt rs x with
    | some r => r.p
    | none => 0
  nm := fun x => (rAt rs x).isSome = true
theorem rAt_cons {r : Rw} {rs : List Rw} {x : Str} : rAt (r :: rs) x = if r.x = x then some r else rAt rs x := by
  unfold rAt
  rw [List.find?_cons]
  by_cases h : r.x = x
  · have : (r.x == x) = true := by simpa using h
    rw [this, if_pos h]
  · have : (r.x == x) = false := by simpa using h
    rw [this, if_neg h]
theorem idx_cons {r : Rw} {rs : List Rw} {x : Str} : idx (r :: rs) x = if r.x = x then 0 else idx rs x + 1 := by
  unfold idx
  rw [List.findIdx_cons]
  by_cases h : r.x = x
  · have : (r.x == x) = true := by simpa using h
    rw [this, if_pos h]; rfl
  · have : (r.x == x) = false := by simpa using h
    rw [this, if_neg h]; rfl
theorem rAt_idx : ∀ {rs : List Rw} {x : Str} {r : Rw}, rAt rs x = some r → rs[idx rs x]? = some r ∧ r.x = x ∧ r ∈ rs
  | [], x, r, h => by cases h
  | q :: rs, x, r, h => by
    rw [rAt_cons] at h
    rw [idx_cons]
    by_cases e : q.x = x
    · rw [if_pos e] at h ⊢; cases h; exact ⟨rfl, e, by simp⟩
    · rw [if_neg e] at h ⊢
      obtain ⟨a, b, c⟩ := rAt_idx h
      exact ⟨by simpa using a, b, by simp [c]⟩
theorem look_rank : ∀ {rs : List Rw} {x : Str} (i : Nat), look (ranksK rs) (natsW i rs.length) (.inr x) = if (rAt rs x).isSome = true then some (.int ((i + idx rs x : Nat) : Int)) else none
  | [], x, i => rfl
  | q :: rs, x, i => by
    have e : look (ranksK (q :: rs)) (natsW i (q :: rs).length) (.inr x) = if (Sum.inr q.x : Key) = .inr x then some (.int (i : Int)) else look (ranksK rs) (natsW (i + 1) rs.length) (.inr x) := by
      unfold natsW
      rw [List.length_cons, List.range'_succ]
      rfl
    rw [e, rAt_cons, idx_cons, look_rank (i + 1)]
    by_cases h : q.x = x
    · subst h
      simp
    · have h' : (Sum.inr q.x : Key) ≠ .inr x := fun z => h (by injection z)
      rw [if_neg h', if_neg h, if_neg h]
      split
      · congr 3; omega
      · rfl
structure rowsOk (rs : List Rw) : Prop where
  len : 1 ≤ rs.length ∧ rs.length ≤ 20
  row : ∀ r ∈ rs, 1 ≤ r.x.length ∧ r.x.length ≤ 8 ∧ (∀ c ∈ r.x.cps.toList, c ∈ (("abcdefghijklmnopqrstuvwxyz" : String) : Str).cps.toList) ∧ r.p ≤ 4 ∧ 1 ≤ r.g ∧ r.g ≤ 50
  zero : ∃ r ∈ rs, r.p = 0
  names : (rs.map (·.x)).Nodup
theorem odOk {rs : List Rw} (h : rowsOk rs) : (odOf rs).ok := by
  refine ⟨fun x => ?_, fun x y hx hy e => ?_⟩
  · show 1 ≤ (match rAt rs x with | some r => r.g | none => 1)
    cases q : rAt rs x with
    | none => exact Int.le_refl _
    | some r => exact (h.row r (rAt_idx q).2.2).2.2.2.2.1
  · have hx' : (rAt rs x).isSome = true := hx
    have hy' : (rAt rs y).isSome = true := hy
    obtain ⟨r, qr⟩ := Option.isSome_iff_exists.mp hx'
    obtain ⟨s, qs⟩ := Option.isSome_iff_exists.mp hy'
    obtain ⟨a1, a2, _⟩ := rAt_idx qr
    obtain ⟨b1, b2, _⟩ := rAt_idx qs
    have e' : idx rs x = idx rs y := by
      have : (idx rs x : Int) = (idx rs y : Int) := e
      omega
    rw [e', b1] at a1
    cases a1
    rw [← a2, b2]
theorem rAt_of {rs : List Rw} {x : Str} (h : (odOf rs).nm x) : ∃ r, rAt rs x = some r ∧ r.x = x ∧ r ∈ rs ∧ (odOf rs).wt x = r.g ∧ (odOf rs).ar x = r.p ∧ atI (rowsW rs) (idx rs x : Int) = some r.w ∧ look (ranksK rs) (natsW 0 rs.length) (.inr x) = some (.int (idx rs x : Int)) := by
  have h' : (rAt rs x).isSome = true := h
  obtain ⟨r, qr⟩ := Option.isSome_iff_exists.mp h'
  obtain ⟨a1, a2, a3⟩ := rAt_idx qr
  refine ⟨r, qr, a2, a3, ?_, ?_, ?_, ?_⟩
  · show (match rAt rs x with | some r => r.g | none => 1) = _; rw [qr]
  · show (match rAt rs x with | some r => r.p | none => 0) = _; rw [qr]
  · rw [atI_nat]; unfold rowsW; rw [List.getElem?_map, a1]; rfl
  · rw [look_rank, if_pos h', Nat.zero_add]
/-! ## terms beside one another -/
mutual
theorem Tm.eqv : ∀ s t : Tm, PyData.eqv s.dat t.dat = Tm.beq s t
  | .any n, .any m => by
    simp only [Tm.dat, PyData.eqv, PyData.eqvAll, Tm.beq]
    simp
  | .any n, .of y us => by
    have e : (("any" : Str) == ("of" : Str)) = false := by decide +kernel
    simp only [Tm.dat, PyData.eqv, PyData.eqvAll, Tm.beq, e, Bool.false_and]
  | .of x ts, .any n => by
    have e : (("of" : Str) == ("any" : Str)) = false := by decide +kernel
    simp only [Tm.dat, PyData.eqv, PyData.eqvAll, Tm.beq, e, Bool.false_and]
  | .of x ts, .of y us => by
    simp only [Tm.dat, PyData.eqv, PyData.eqvAll, Tm.beq, Tm.eqvs ts us]
    simp
theorem Tm.eqvs : ∀ ts us : List Tm, PyData.eqvAll (Tm.dats ts) (Tm.dats us) = Tm.beqs ts us
  | [], [] => by simp [Tm.dats, PyData.eqvAll, Tm.beqs]
  | [], _ :: _ => by simp [Tm.dats, PyData.eqvAll, Tm.beqs]
  | _ :: _, [] => by simp [Tm.dats, PyData.eqvAll, Tm.beqs]
  | t :: ts, u :: us => by simp [Tm.dats, PyData.eqvAll, Tm.beqs, Tm.eqv t u, Tm.eqvs ts us]
end
theorem eqW_tm {s t : Tm} (hs : s.h ≤ 29) (ht : t.h ≤ 29) : eqW s.w t.w = some (decide (s = t)) := by
  rw [eqW_of (Tm.w_d s) (Tm.w_d t) (Tm.ok hs) (Tm.ok ht), Tm.eqv, Tm.beq_eq]
/-! ## rows of numbers, of names -/
theorem ds_ints : ∀ ns : List Int, W.ds (ns.map W.int) = some (ns.map PyData.int) ∧ PyData.plainAll (ns.map PyData.int) = true ∧ PyData.depthAll (ns.map PyData.int) = 0
  | [] => ⟨rfl, rfl, rfl⟩
  | n :: ns => by
    obtain ⟨a, b, c⟩ := ds_ints ns
    refine ⟨?_, b, ?_⟩
    · show ((some (PyData.int n)).bind fun x => (W.ds (ns.map W.int)).map fun r => x :: r) = _; rw [a]; rfl
    · show max 0 (PyData.depthAll (ns.map PyData.int)) = 0; rw [c]; rfl
theorem any_ints (k : Int) : ∀ ns : List Int, ((ns.map PyData.int).any fun y => PyData.eqv y (.int k)) = ns.contains k
  | [] => rfl
  | n :: ns => by
    rw [List.map_cons, List.any_cons, any_ints k ns]
    show ((n == k) || _) = ((k == n) || _)
    congr 1
    by_cases h : n = k
    · subst h; rfl
    · have h1 : (n == k) = false := by simpa using h
      have h2 : (k == n) = false := by simpa using Ne.symm h
      rw [h1, h2]
theorem inL_ints {ns : List Int} {k : Int} : inL (.int k) (ns.map W.int) = some (ns.contains k) := by
  obtain ⟨a, b, c⟩ := ds_ints ns
  unfold inL
  rw [a]
  have h : okDs (ns.map PyData.int) = true := by unfold okDs; rw [b, c]; rfl
  show (if okDs (ns.map PyData.int) && true then some ((ns.map PyData.int).any fun y => PyData.eqv y (.int k)) else none) = _
  rw [h, any_ints]; rfl
theorem notin_ints {ns : List Int} {k : Int} : cmpW .NotIn (.int k) (.lst (ns.map W.int)) = some (!(ns.contains k)) := by
  show (inL (.int k) (ns.map W.int)).map (!·) = _
  rw [inL_ints]; rfl
theorem any_strs (k : Str) : ∀ ns : List Str, ((ns.map PyData.str).any fun y => PyData.eqv y (.str k)) = ns.contains k
  | [] => rfl
  | n :: ns => by
    rw [List.map_cons, List.any_cons, any_strs k ns]
    show ((n == k) || _) = ((k == n) || _)
    congr 1
    by_cases h : n = k
    · subst h; rfl
    · have h1 : (n == k) = false := by simpa using h
      have h2 : (k == n) = false := by simpa using Ne.symm h
      rw [h1, h2]
theorem in_strs {ns : List Str} {k : Str} : inW (.str k) (.lst (ns.map W.str)) = some (ns.contains k) := by
  obtain ⟨a, b, c⟩ := ds_strs ns
  show inL (.str k) (ns.map W.str) = _
  unfold inL
  rw [a]
  have h : okDs (ns.map PyData.str) = true := by unfold okDs; rw [b, c]; rfl
  show (if okDs (ns.map PyData.str) && true then some ((ns.map PyData.str).any fun y => PyData.eqv y (.str k)) else none) = _
  rw [h, any_strs]; rfl
/-- the first of the number goes -/
theorem erase_at : ∀ {ns : List Int} {k : Int}, ns.contains k = true → ∃ j, ns[j]? = some k ∧ (∀ m : Nat, m < j → ns[m]? ≠ some k) ∧ ns.eraseIdx j = ns.erase k
  | [], k, h => by cases h
  | n :: ns, k, h => by
    by_cases e : n = k
    · subst e
      exact ⟨0, rfl, fun m hm => by omega, by simp⟩
    · have h' : ns.contains k = true := by
        have : ((k == n) || ns.contains k) = true := h
        have h2 : (k == n) = false := by simpa using Ne.symm e
        rw [h2] at this; exact this
      obtain ⟨j, h1, h2, h3⟩ := erase_at h'
      refine ⟨j + 1, by simpa using h1, fun m hm => ?_, ?_⟩
      · cases m with
        | zero => intro z; simp at z; exact e z
        | succ m => simpa using h2 m (by omega)
      · rw [List.eraseIdx_cons_succ, h3, List.erase_cons_tail (by simpa using e)]
end PD

set_option Elab.async false
set_option linter.all false
set_option maxRecDepth 100000
set_option maxHeartbeats 4000000
namespace PD
open PySem
open L2 (atI Key)
/-! ## counting letters -/
theorem count_bears : ∀ {r l : List Int}, bearsL l r = true ↔ ∀ x ∈ r, r.count x ≤ l.count x
  | [], l => by simp [bearsL]
  | m :: r, l => by
    have e : bearsL l (m :: r) = (l.contains m && bearsL (l.erase m) r) := by rw [bearsL]
    rw [e, Bool.and_eq_true, count_bears (r := r)]
    constructor
    · rintro ⟨h1, h2⟩ x hx
      have hm : m ∈ l := by simpa using h1
      have hpos : 0 < l.count m := List.count_pos_iff.mpr hm
      rw [List.count_cons]
      by_cases ex : x ∈ r
      · have := h2 x ex
        rw [List.count_erase] at this
        by_cases q : x = m
        · subst q; simp only [beq_self_eq_true, if_true] at this ⊢; omega
        · have q1 : (m == x) = false := by simpa using Ne.symm q
          have q2 : (x == m) = false := by simpa using q
          simp only [q1, q2, Bool.false_eq_true, if_false] at this ⊢; omega
      · have hxm : x = m := by simpa [ex] using hx
        subst hxm
        rw [List.count_eq_zero.mpr ex]
        simp only [beq_self_eq_true, if_true]; omega
    · intro h
      have hm := h m (by simp)
      rw [List.count_cons] at hm
      simp only [beq_self_eq_true, if_true] at hm
      have hml : m ∈ l := List.count_pos_iff.mp (by omega)
      refine ⟨by simpa using hml, fun x hx => ?_⟩
      have := h x (by simp [hx])
      rw [List.count_cons] at this
      rw [List.count_erase]
      by_cases q : x = m
      · subst q; simp only [beq_self_eq_true, if_true] at this ⊢; omega
      · have q1 : (m == x) = false := by simpa using Ne.symm q
        have q2 : (x == m) = false := by simpa using q
        simp only [q1, q2, Bool.false_eq_true, if_false] at this ⊢; omega
theorem filter_bears (l r : List Int) : (r.filter fun x => decide (l.count x < r.count x)).isEmpty = bearsL l r := by
  cases q : bearsL l r with
  | true =>
    have h := count_bears.mp q
    have : (r.filter fun x => decide (l.count x < r.count x)) = [] := by
      rw [List.filter_eq_nil_iff]
      intro x hx
      have := h x hx
      simp only [decide_eq_true_eq]; omega
    rw [this]; rfl
  | false =>
    cases e : (r.filter fun x => decide (l.count x < r.count x)) with
    | nil =>
      rw [List.filter_eq_nil_iff] at e
      have : bearsL l r = true := count_bears.mpr fun x hx => by
        have := e x hx
        simp only [decide_eq_true_eq] at this; omega
      rw [this] at q; cases q
    | cons a b => rfl
theorem count_dat (k : Int) : ∀ ns : List Int, ((ns.map PyData.int).countP fun y => PyData.eqv y (.int k)) = ns.count k
  | [] => rfl
  | n :: ns => by
    rw [List.map_cons, List.countP_cons, List.count_cons, count_dat k ns]
    have : PyData.eqv (.int n) (.int k) = (n == k) := rfl
    rw [this]
/-- l.count(k) of numbers -/
theorem mt_count {ns : List Int} {k : Int} {S : Sto} {Q : QW} {o : W} (ho : rd S o = .lst (ns.map W.int)) (q : Q (.int (ns.count k : Nat)) S) : mtW .count o [.int k] S Q := by
  obtain ⟨a, b, c⟩ := ds_ints ns
  refine ⟨_, _, .int k, ho, a, rfl, ?_, rfl, ?_⟩
  · unfold okDs; rw [b, c]; rfl
  · rw [count_dat]; exact q
theorem ty_count {xs : List W} : (tyM .count (.lst xs) = true) = True := eq_self _
theorem ty_index {xs : List W} : (tyM .index (.lst xs) = true) = True := eq_self _
/-! ## the rows as a dict of weights, as a list of names -/
theorem names_idx (x : Str) : ∀ rs : List Rw, ∀ r, rAt rs x = some r → ((rs.map fun r => PyData.str r.x)[idx rs x]? = some (.str x)) ∧ ∀ (m : Nat) z, m < idx rs x → (rs.map fun r => PyData.str r.x)[m]? = some z → PyData.eqv z (.str x) = false
  | [], r, h => by cases h
  | q :: rs, r, h => by
    rw [rAt_cons] at h
    rw [idx_cons]
    by_cases e : q.x = x
    · rw [if_pos e]
      exact ⟨by simp [e], fun m z hm => absurd hm (Nat.not_lt_zero _)⟩
    · rw [if_neg e] at h ⊢
      obtain ⟨h1, h2⟩ := names_idx x rs r h
      refine ⟨by simpa using h1, fun m z hm hz => ?_⟩
      cases m with
      | zero =>
        have hz' : z = .str q.x := by simpa using hz.symm
        subst hz'
        show (q.x == x) = false
        simpa using e
      | succ m => exact h2 m z (by omega) (by simpa using hz)
theorem mt_index {rs : List Rw} {x : Str} {r : Rw} {S : Sto} {Q : QW} {o : W} (ho : rd S o = .lst (rs.map fun r => W.str r.x)) (h : rAt rs x = some r) (q : Q (.int (idx rs x : Nat)) S) : mtW .index o [.str x] S Q := by
  have e : (rs.map fun r => W.str r.x) = (rs.map (·.x)).map W.str := by rw [List.map_map]; rfl
  obtain ⟨a, b, c⟩ := ds_strs (rs.map (·.x))
  have e2 : (rs.map (·.x)).map PyData.str = rs.map fun r => PyData.str r.x := by rw [List.map_map]; rfl
  rw [e2] at a b c
  obtain ⟨h1, h2⟩ := names_idx x rs r h
  refine ⟨_, _, .str x, idx rs x, .str x, ho, by rw [e]; exact a, rfl, ?_, rfl, h1, ?_, h2, q⟩
  · unfold okDs; rw [b, c]; rfl
  · show (x == x) = true; simp
def wtsW (rs : List Rw) : List W := rs.map fun r => W.int r.g
theorem look_wts : ∀ {rs : List Rw} {x : Str} {r : Rw}, rAt rs x = some r → look (ranksK rs) (wtsW rs) (.inr x) = some (.int r.g)
  | [], x, r, h => by cases h
  | q :: rs, x, r, h => by
    rw [rAt_cons] at h
    show (if (Sum.inr q.x : Key) = .inr x then some (W.int q.g) else look (ranksK rs) (wtsW rs) (.inr x)) = _
    by_cases e : q.x = x
    · rw [if_pos e] at h; cases h
      rw [if_pos (by rw [e])]
    · rw [if_neg e] at h
      rw [if_neg (fun z => e (by injection z))]
      exact look_wts h
theorem prs_rows : ∀ rs : List Rw, prsW (rs.map fun r => W.tup [.str r.x, .int r.g]) = some (rs.map fun r => ((.inr r.x : Key), W.int r.g))
  | [] => rfl
  | q :: rs => by
    show ((keyOf (.str q.x)).bind fun x => (prsW (rs.map fun r => W.tup [.str r.x, .int r.g])).map fun t => (x, W.int q.g) :: t) = _
    rw [prs_rows rs]; rfl
theorem merge_go : ∀ (rest dn : List Rw), ((dn ++ rest).map (·.x)).Nodup → (rest.map fun r => ((.inr r.x : Key), W.int r.g)).foldl (fun acc kw => putKW acc.1 acc.2 kw.1 kw.2) (ranksK dn, wtsW dn) = (ranksK (dn ++ rest), wtsW (dn ++ rest))
  | [], dn, _ => by simp
  | r :: rest, dn, nd => by
    rw [List.map_cons, List.foldl_cons]
    have hn : ∀ k ∈ ranksK dn, k ≠ (.inr r.x : Key) := fun k hk z => by
      subst z
      obtain ⟨q, hq, e⟩ := List.mem_map.mp hk
      have e' : q.x = r.x := by injection e
      rw [List.map_append, List.map_cons, List.nodup_append] at nd
      exact nd.2.2 _ (List.mem_map.mpr ⟨q, hq, e'⟩) _ (by simp) rfl
    show (rest.map _).foldl _ (putKW (ranksK dn) (wtsW dn) (.inr r.x) (W.int r.g)) = _
    rw [putKW_new hn]
    have e1 : ranksK dn ++ [.inr r.x] = ranksK (dn ++ [r]) := by unfold ranksK; rw [List.map_append]; rfl
    have e2 : wtsW dn ++ [W.int r.g] = wtsW (dn ++ [r]) := by unfold wtsW; rw [List.map_append]; rfl
    have e4 : dn ++ r :: rest = (dn ++ [r]) ++ rest := by simp
    rw [e1, e2, merge_go rest (dn ++ [r]) (by rw [← e4]; exact nd), e4]
theorem merge_rows {rs : List Rw} (h : (rs.map (·.x)).Nodup) : mergeW (rs.map fun r => ((.inr r.x : Key), W.int r.g)) = (ranksK rs, wtsW rs) := merge_go rs [] h
/-! ## whys -/
inductive Why (O : Od) : Tm → Tm → W → Prop where
  | weight {s t : Tm} (h : wtT O s ≠ wtT O t) : Why O s t (.tup [.str "weight"])
  | name {x y : Str} {ss ts : List Tm} (h : wtT O (.of x ss) = wtT O (.of y ts)) (n : x ≠ y) : Why O (.of x ss) (.of y ts) (.tup [.str "name"])
  | part {x : Str} {ss ts : List Tm} {j : Nat} {p o : Tm} {w : W} (h : wtT O (.of x ss) = wtT O (.of x ts)) (hp : ss[j]? = some p) (ho : ts[j]? = some o) (n : p ≠ o) (e : ss.take j = ts.take j) (q : Why O p o w) : Why O (.of x ss) (.of x ts) (.tup [.str "part", .int (j : Nat), w])
/-- a why's shape -/
inductive WhyS : Nat → W → Prop where
  | weight {n : Nat} : WhyS (n + 1) (.tup [.str "weight"])
  | name {n : Nat} : WhyS (n + 1) (.tup [.str "name"])
  | part {n j : Nat} {w : W} (hj : j ≤ 4) (q : WhyS n w) : WhyS (n + 1) (.tup [.str "part", .int (j : Nat), w])
theorem Why.shape {O : Od} {s t : Tm} {w : W} (h : Why O s t w) : ∀ {n : Nat} {L : Int}, s.h ≤ n → s.fine L → WhyS n w := by
  induction h with
  | @weight s t _ => intro n L hn _; cases n with
    | zero => have := Tm.h_pos s; omega
    | succ n => exact .weight
  | name _ _ => intro n L hn _; cases n with
    | zero => unfold Tm.h at hn; omega
    | succ n => exact .name
  | @part x ss ts j p o w h hp ho ne e q ih => intro n L hn hf; cases n with
    | zero => unfold Tm.h at hn; omega
    | succ n =>
      unfold Tm.fine at hf
      have hm : p ∈ ss := List.mem_of_getElem? hp
      have hjl := (List.getElem?_eq_some_iff.mp hp).1
      have := Tm.hs_mem hm
      unfold Tm.h at hn
      exact .part (by omega) (ih (n := n) (L := L) (by omega) (Tm.fines_iff.mp hf.2.2 p hm))
/-! ## a thing as a why -/
def strB : W → Str → Bool
  | .str x, z => x == z
  | _, _ => false
def wholeB : W → Option Int
  | .int i => some i
  | _ => none
def partR (f : Tm → Tm → W → Bool) (x : Str) (ss : List Tm) (y : Str) (ts : List Tm) : List W → Bool
  | [.int k, w] => decide (x = y) && (decide (0 ≤ k ∧ k < ss.length) && decide (ss.take k.toNat = ts.take k.toNat)) && (match ss[k.toNat]?, ts[k.toNat]? with
      | some p, some o => f p o w
      | _, _ => false)
  | _ => false
def rightO (O : Od) (f : Tm → Tm → W → Bool) (s t : Tm) (h : W) (r : List W) : Bool := match s, t with
  | .of x ss, .of y ts => decide (wtT O (.of x ss) = wtT O (.of y ts)) && (if strB h "name" = true then r.isEmpty && decide (O.rk y < O.rk x) else strB h "part" && partR f x ss y ts r)
  | _, _ => false
def rightN (O : Od) : Nat → Tm → Tm → W → Bool
  | n + 1, s, t, .tup (h :: r) => bearsL (lets s) (lets t) && (if strB h "weight" = true then r.isEmpty && decide (wtT O t < wtT O s) else rightO O (rightN O n) s t h r)
  | _, _, _, _ => false
theorem gts_pre' {O : Od} : ∀ {ss ts : List Tm} {k : Nat} {p o : Tm}, ss.take k = ts.take k → ss[k]? = some p → ts[k]? = some o → p ≠ o → gt O p o = true → gts O ss ts = true
  | [], ts, k, p, o, _, hp, _, _, _ => by simp at hp
  | a :: ss, [], k, p, o, _, _, ho, _, _ => by simp at ho
  | a :: ss, b :: ts, 0, p, o, _, hp, ho, ne, h => by
    have e1 : a = p := by simpa using hp
    have e2 : b = o := by simpa using ho
    subst e1; subst e2
    rw [gts_cons, if_neg ne]; exact h
  | a :: ss, b :: ts, k + 1, p, o, e, hp, ho, ne, h => by
    rw [List.take_succ_cons, List.take_succ_cons] at e
    obtain ⟨e1, e2⟩ := List.cons.inj e
    subst e1
    rw [gts_cons, if_pos rfl]
    exact gts_pre' e2 (by simpa using hp) (by simpa using ho) ne h
theorem partR_inv {f : Tm → Tm → W → Bool} {x y : Str} {ss ts : List Tm} {r : List W} (h : partR f x ss y ts r = true) : ∃ (k : Nat) (w : W) (p o : Tm), x = y ∧ ss.take k = ts.take k ∧ ss[k]? = some p ∧ ts[k]? = some o ∧ f p o w = true := by
  unfold partR at h
  split at h
  · rename_i k w
    rw [Bool.and_eq_true, Bool.and_eq_true, Bool.and_eq_true] at h
    obtain ⟨⟨e1, e2, e3⟩, h4⟩ := h
    cases hp : ss[k.toNat]? with
    | none => rw [hp] at h4; cases h4
    | some p =>
      cases ho : ts[k.toNat]? with
      | none => rw [hp, ho] at h4; cases h4
      | some o =>
        rw [hp, ho] at h4
        exact ⟨k.toNat, w, p, o, of_decide_eq_true e1, of_decide_eq_true e3, hp, ho, h4⟩
  · cases h
theorem rightN_gt {O : Od} (ok : O.ok) : ∀ (n : Nat) (s t : Tm) (w : W), rightN O n s t w = true → gt O s t = true
  | 0, s, t, w, h => by cases w <;> cases h
  | n + 1, s, t, w, h => by
    cases w <;> first | (cases h; done) | skip
    rename_i xs
    cases xs with
    | nil => cases h
    | cons hd r =>
      have h' : (bearsL (lets s) (lets t) && (if strB hd "weight" = true then r.isEmpty && decide (wtT O t < wtT O s) else rightO O (rightN O n) s t hd r)) = true := h
      clear h
      rw [Bool.and_eq_true] at h'
      obtain ⟨hb, h1⟩ := h'
      have bs : bears s t := bearsL_iff.mp hb
      by_cases q1 : strB hd "weight" = true
      · rw [if_pos q1, Bool.and_eq_true] at h1
        exact gt_of_wt ok bs (of_decide_eq_true h1.2)
      · rw [if_neg q1] at h1
        cases s with
        | any i => cases h1
        | of x ss =>
          cases t with
          | any i => cases h1
          | of y ts =>
            have h2 : (decide (wtT O (.of x ss) = wtT O (.of y ts)) && (if strB hd "name" = true then r.isEmpty && decide (O.rk y < O.rk x) else strB hd "part" && partR (rightN O n) x ss y ts r)) = true := h1
            rw [Bool.and_eq_true] at h2
            obtain ⟨hw, h3⟩ := h2
            have hw := of_decide_eq_true hw
            by_cases q2 : strB hd "name" = true
            · rw [if_pos q2, Bool.and_eq_true] at h3
              have hr := of_decide_eq_true h3.2
              have hxy : x ≠ y := fun e => by subst e; omega
              exact (gt_iff ok).mpr ⟨fun e => hxy (by injection e), bs, .inr ⟨hw, x, ss, y, ts, rfl, rfl, .inl ⟨hxy, hr⟩⟩⟩
            · rw [if_neg q2, Bool.and_eq_true] at h3
              obtain ⟨k, w', p, o, e1, e3, hp, ho, h4⟩ := partR_inv h3.2
              subst e1
              have g := rightN_gt ok n p o w' h4
              have ne : p ≠ o := ((gt_iff ok).mp g).1
              have gg := gts_pre' e3 hp ho ne g
              exact (gt_iff ok).mpr ⟨fun e => by injection e with _ e; exact gts_ne ok gg e, bs, .inr ⟨hw, x, ss, x, ts, rfl, rfl, .inr ⟨rfl, gg⟩⟩⟩
/-- the first unlike parts -/
theorem gts_first {O : Od} : ∀ {ss ts : List Tm}, gts O ss ts = true → ∃ (j : Nat) (p o : Tm), ss[j]? = some p ∧ ts[j]? = some o ∧ p ≠ o ∧ ss.take j = ts.take j ∧ gt O p o = true ∧ ∀ m, m < j → ∃ u, ss[m]? = some u ∧ ts[m]? = some u
  | [], ts, h => by cases ts <;> (unfold gts at h; cases h)
  | a :: ss, [], h => by unfold gts at h; cases h
  | a :: ss, b :: ts, h => by
    rw [gts_cons] at h
    by_cases e : a = b
    · subst e
      rw [if_pos rfl] at h
      obtain ⟨j, p, o, h1, h2, h3, h4, h5, h6⟩ := gts_first h
      refine ⟨j + 1, p, o, by simpa using h1, by simpa using h2, h3, by rw [List.take_succ_cons, List.take_succ_cons, h4], h5, fun m hm => ?_⟩
      cases m with
      | zero => exact ⟨a, rfl, rfl⟩
      | succ m => simpa using h6 m (by omega)
    · rw [if_neg e] at h
      exact ⟨0, a, b, rfl, rfl, e, rfl, h, fun m hm => absurd hm (Nat.not_lt_zero _)⟩
/-- rows of terms beside one another -/
theorem eq_tms {ss ts : List Tm} (hs : Tm.hs ss ≤ 28) (ht : Tm.hs ts ≤ 28) : eqW (.tup (Tm.ws ss)) (.tup (Tm.ws ts)) = some (decide (ss = ts)) := by
  have d1 : (W.tup (Tm.ws ss)).d = some (.tuple (Tm.dats ss)) := by show (W.ds (Tm.ws ss)).map PyData.tuple = _; rw [Tm.ws_d]; rfl
  have d2 : (W.tup (Tm.ws ts)).d = some (.tuple (Tm.dats ts)) := by show (W.ds (Tm.ws ts)).map PyData.tuple = _; rw [Tm.ws_d]; rfl
  have o1 : okD (.tuple (Tm.dats ss)) = true := by
    show (PyData.plainAll (Tm.dats ss) && decide (PyData.depthAll (Tm.dats ss) + 1 ≤ 60)) = true
    have := Tm.depths ss
    rw [Tm.plains, decide_eq_true (by omega)]; rfl
  have o2 : okD (.tuple (Tm.dats ts)) = true := by
    show (PyData.plainAll (Tm.dats ts) && decide (PyData.depthAll (Tm.dats ts) + 1 ≤ 60)) = true
    have := Tm.depths ts
    rw [Tm.plains, decide_eq_true (by omega)]; rfl
  rw [eqW_of d1 d2 o1 o2]
  show some (PyData.eqvAll (Tm.dats ss) (Tm.dats ts)) = _
  rw [Tm.eqvs]
  congr 1
  cases q : Tm.beqs ss ts with
  | true => rw [decide_eq_true (Tm.beqs_iff.mp q)]
  | false => rw [decide_eq_false (fun e => by rw [Tm.beqs_iff.mpr e] at q; cases q)]
/-- l.index(False) -/
theorem ds_bools : ∀ bs : List Bool, W.ds (bs.map W.bl) = some (bs.map PyData.bool) ∧ PyData.plainAll (bs.map PyData.bool) = true ∧ PyData.depthAll (bs.map PyData.bool) = 0
  | [] => ⟨rfl, rfl, rfl⟩
  | u :: us => by
    obtain ⟨a, b, c⟩ := ds_bools us
    refine ⟨?_, ?_, ?_⟩
    · show ((some (PyData.bool u)).bind fun x => (W.ds (us.map W.bl)).map fun r => x :: r) = _; rw [a]; rfl
    · exact b
    · show max 0 (PyData.depthAll (us.map PyData.bool)) = 0; rw [c]; rfl
theorem mt_idxF {bs : List Bool} {j : Nat} {S : Sto} {Q : QW} {o : W} (ho : rd S o = .lst (bs.map W.bl)) (h : bs[j]? = some false) (hb : ∀ m, m < j → bs[m]? = some true) (q : Q (.int (j : Nat)) S) : mtW .index o [.bl false] S Q := by
  obtain ⟨a, b, c⟩ := ds_bools bs
  refine ⟨_, _, .bool false, j, .bool false, ho, a, rfl, ?_, rfl, by rw [List.getElem?_map, h]; rfl, rfl, fun m z hm hz => ?_, q⟩
  · unfold okDs; rw [b, c]; rfl
  · rw [List.getElem?_map, hb m hm] at hz
    cases hz; rfl
end PD

set_option Elab.async false
set_option linter.all false
set_option maxRecDepth 10000
set_option maxHeartbeats 4000000
namespace K29
open PySem PD
open L2 (atI Key)
section
variable {k : Nat} {S : Sto} {Q X : QW}
theorem dd_int {n : Int} : (W.int n).dd = some (.int n) := rfl
theorem dd_str {x : Str} : (W.str x).dd = some (.str x) := rfl
def small (x : Str) : Prop := ∀ c ∈ x.cps.toList, c ∈ (("abcdefghijklmnopqrstuvwxyz" : String) : Str).cps.toList
end
structure tmO (rs : List Rw) (n : Nat) (t : PD.Tm) : Prop where
  ov : over (odOf rs) t
  fine : t.fine 1000
  hi : t.h ≤ n
theorem tmO.mono {rs : List Rw} {n m : Nat} {t : PD.Tm} (h : tmO rs n t) (hm : n ≤ m) : tmO rs m t := ⟨h.ov, h.fine, Nat.le_trans h.hi hm⟩
theorem overs_iff {O : Od} : ∀ {ts : List PD.Tm}, overs O ts ↔ ∀ t ∈ ts, over O t
  | [] => by simp [overs]
  | t :: ts => by simp [overs, overs_iff (ts := ts)]
theorem tmO.parts {rs : List Rw} {n : Nat} {x : Str} {ts : List PD.Tm} (h : tmO rs (n + 1) (.of x ts)) : (odOf rs).nm x ∧ ts.length = (odOf rs).ar x ∧ ts.length ≤ 4 ∧ ∀ t ∈ ts, tmO rs n t := by
  obtain ⟨ov, f, hi⟩ := h
  unfold over at ov
  unfold PD.Tm.fine at f
  unfold PD.Tm.h at hi
  refine ⟨ov.1, ov.2.1, f.2.1, fun t ht => ⟨overs_iff.mp ov.2.2 t ht, Tm.fines_iff.mp f.2.2 t ht, ?_⟩⟩
  have := Tm.hs_mem ht
  omega
theorem any_any : (("any" : Str) == ("any" : Str)) = true := by decide +kernel
theorem of_any : (("of" : Str) == ("any" : Str)) = false := by decide +kernel
theorem of_of : (("of" : Str) == ("of" : Str)) = true := by decide +kernel
theorem w_any {n : Int} : (PD.Tm.any n).w = .tup [.str "any", .int n] := rfl
theorem w_of {x : Str} {ts : List PD.Tm} : (PD.Tm.of x ts).w = .tup [.str "of", .str x, .tup (Tm.ws ts)] := rfl
def isAny : PD.Tm → Bool
  | .any _ => true
  | .of _ _ => false
theorem s_is_letter {k : Nat} {S : Sto} {Q X : QW} {t : PD.Tm} (h : Q (.bl (isAny t)) S) : callK T G0 (k + 1) "is_letter" [t.w] S Q X := by
  refine o_is_letter ?_
  unfold b_is_letter
  cases t with
  | any n => simp only [wSs, wS, wE, wEs, wT, wOT, wI, wO, Lit.w, biW, rs_tup, rs_lst, rs_int, rs_str, rs_bl, rs_non, rs_dct, ix_tup, ix_lst, atI_0, atI_1, atI_2, ex_some, ex_some2, ex_int, ex_bl, tru_bl,
  List.getElem?_cons_zero, List.getElem?_cons_succ, List.set_cons_zero, List.set_cons_succ, eqW_str, eqW_int, eqW_bl, cmp_eq, cmp_lt, cmp_gt, cmp_ge, cmp_le, add_int, sub_int, wipeS, Tg.go, Tg.go.goAll, ex_tup, ex_cons, ex_tl, List.length_cons, List.length_nil, Nat.zero_add, Nat.reduceAdd, Nat.reduceLT, true_and, and_true, sizeLine_eq, Nat.reduceLeDiff, Nat.zero_le, ex_or, ex_or2, items_lst, items_tup, eq_self, un_not, cmp_in, len_lst, rd_w, slc_lst, ty_app, ty_get, mtW, if_true, Bool.false_eq_true, if_false, w_any, any_any]; exact h
  | of x ts => simp only [wSs, wS, wE, wEs, wT, wOT, wI, wO, Lit.w, biW, rs_tup, rs_lst, rs_int, rs_str, rs_bl, rs_non, rs_dct, ix_tup, ix_lst, atI_0, atI_1, atI_2, ex_some, ex_some2, ex_int, ex_bl, tru_bl,
  List.getElem?_cons_zero, List.getElem?_cons_succ, List.set_cons_zero, List.set_cons_succ, eqW_str, eqW_int, eqW_bl, cmp_eq, cmp_lt, cmp_gt, cmp_ge, cmp_le, add_int, sub_int, wipeS, Tg.go, Tg.go.goAll, ex_tup, ex_cons, ex_tl, List.length_cons, List.length_nil, Nat.zero_add, Nat.reduceAdd, Nat.reduceLT, true_and, and_true, sizeLine_eq, Nat.reduceLeDiff, Nat.zero_le, ex_or, ex_or2, items_lst, items_tup, eq_self, un_not, cmp_in, len_lst, rd_w, slc_lst, ty_app, ty_get, mtW, if_true, Bool.false_eq_true, if_false, w_of, of_any]; exact h
theorem dd_w (t : PD.Tm) : t.w.dd = some t.dat := Tm.w_dd t
theorem dd_ws (ts : List PD.Tm) : (W.tup (Tm.ws ts)).dd = some (.tuple (Tm.dats ts)) := by
  show (W.dds (Tm.ws ts)).map PyData.tuple = _
  rw [Tm.ws_dd]; rfl
theorem dat_tup (t : PD.Tm) : t.dat.isTuple = true := by cases t <;> rfl
theorem len_ws (ts : List PD.Tm) : (Tm.ws ts).length = ts.length := by rw [Tm.ws_eq, List.length_map]
mutual
theorem lets_len : ∀ (t : PD.Tm) (n : Nat), t.fine 1000 → t.h ≤ n → (lets t).length ≤ 4 ^ n
  | .any i, n, _, _ => by
    have : 1 ≤ 4 ^ n := Nat.pow_pos (by omega)
    show ([i] : List Int).length ≤ _
    simpa using this
  | .of x ts, 0, _, h => by unfold PD.Tm.h at h; omega
  | .of x ts, n + 1, f, h => by
    unfold PD.Tm.fine at f
    unfold PD.Tm.h at h
    have := letss_len ts n f.2.2 (by omega)
    have e : 4 ^ (n + 1) = 4 ^ n * 4 := Nat.pow_succ ..
    have e2 : ts.length * 4 ^ n ≤ 4 * 4 ^ n := Nat.mul_le_mul_right _ f.2.1
    show (letss ts).length ≤ _
    omega
theorem letss_len : ∀ (ts : List PD.Tm) (n : Nat), Tm.fines 1000 ts → Tm.hs ts ≤ n → (letss ts).length ≤ ts.length * 4 ^ n
  | [], n, _, _ => by simp [letss]
  | t :: ts, n, f, h => by
    unfold Tm.fines at f
    have h' : max t.h (Tm.hs ts) ≤ n := h
    have h1 := lets_len t n f.1 (by omega)
    have h2 := letss_len ts n f.2 (by omega)
    show (lets t ++ letss ts).length ≤ _
    rw [List.length_append, List.length_cons, Nat.succ_mul]
    omega
end
theorem nt_dt {w : W} (hw : w.fit = true) (h : ∀ xs, w ≠ .tup xs) : w.dt.isTuple = false := by
  cases w <;> first | rfl | (cases hw; done) | exact (h _ rfl).elim
theorem ns_dt {w : W} (hw : w.fit = true) (h : ∀ xs, w ≠ .str xs) : w.dt.isStr = false := by
  cases w <;> first | rfl | (cases hw; done) | exact (h _ rfl).elim
theorem is_view (w : W) : (∃ x, w = .str x) ∨ ∀ x, w ≠ .str x := by
  cases w <;> first | exact .inl ⟨_, rfl⟩ | exact .inr fun _ z => nomatch z
theorem it_view (w : W) : (∃ x, w = .tup x) ∨ ∀ x, w ≠ .tup x := by
  cases w <;> first | exact .inl ⟨_, rfl⟩ | exact .inr fun _ z => nomatch z
end K29

set_option Elab.async false
set_option linter.all false
set_option maxRecDepth 10000
set_option maxHeartbeats 4000000
namespace K29
open PySem PD
open L2 (atI Key)
/-! ### digits, the rows of names -/
section
variable {k : Nat} {S : Sto} {Q X : QW} {a : Addr}
theorem s_digit {n u : Int} (hS : S a = some (.lst [.int n])) (hu : 0 < u) (hl : u < 1000) (h : Q (.int (n % u)) (S.set a (.lst [.int (n / u)]))) :
    callK T G0 (k + 1) "_law_digit" [.ref a, .int u] S Q X := by
  refine o__law_digit ?_
  unfold b__law_digit
  have hr := rd_r hS
  have hlog : u.natAbs.log2 < 9000 := by
    have : u.natAbs.log2 ≤ u.natAbs := Nat.log2_le_self _
    omega
  simp only [wSs, wS, wE, wEs, wT, wOT, wI, wO, Lit.w, biW, rs_tup, rs_lst, rs_int, rs_str, rs_bl, rs_non, rs_dct, ix_tup, ix_lst, atI_0, atI_1, atI_2, ex_some, ex_some2, ex_int, ex_bl, tru_bl,
  List.getElem?_cons_zero, List.getElem?_cons_succ, List.set_cons_zero, List.set_cons_succ, eqW_str, eqW_int, eqW_bl, cmp_eq, cmp_lt, cmp_gt, cmp_ge, cmp_le, add_int, sub_int, wipeS, Tg.go, Tg.go.goAll, ex_tup, ex_cons, ex_tl, List.length_cons, List.length_nil, Nat.zero_add, Nat.reduceAdd, Nat.reduceLT, true_and, and_true, sizeLine_eq, Nat.reduceLeDiff, Nat.zero_le, ex_or, ex_or2, items_lst, items_tup, eq_self, un_not, cmp_in, len_lst, rd_w, slc_lst, ty_app, ty_get, mtW, if_true, Bool.false_eq_true, if_false, hr, mod_int hu, div_int hu hlog]
  exact setW_0 hS h
theorem s_left {c : Int} (h : ∀ p m, S p = none → Q (.ref p) (S.set p (.lst [.int m]))) : callK T G0 (k + 1) "_law_left" [.int c] S Q X := by
  refine o__law_left ?_
  unfold b__law_left
  simp only [wSs, wS, wE, wEs, wT, wOT, wI, wO, Lit.w, biW, rs_tup, rs_lst, rs_int, rs_str, rs_bl, rs_non, rs_dct, ix_tup, ix_lst, atI_0, atI_1, atI_2, ex_some, ex_some2, ex_int, ex_bl, tru_bl,
  List.getElem?_cons_zero, List.getElem?_cons_succ, List.set_cons_zero, List.set_cons_succ, eqW_str, eqW_int, eqW_bl, cmp_eq, cmp_lt, cmp_gt, cmp_ge, cmp_le, add_int, sub_int, wipeS, Tg.go, Tg.go.goAll, ex_tup, ex_cons, ex_tl, List.length_cons, List.length_nil, Nat.zero_add, Nat.reduceAdd, Nat.reduceLT, true_and, and_true, sizeLine_eq, Nat.reduceLeDiff, Nat.zero_le, ex_or, ex_or2, items_lst, items_tup, eq_self, un_not, cmp_in, len_lst, rd_w, slc_lst, ty_app, ty_get, mtW, if_true, Bool.false_eq_true, if_false, pow18]
  have fin : ∀ {l : Int}, ∀ p, S p = none → Q (.ref p) (S.set p (.lst [.int l])) := fun {l} p hp => h p l hp
  generalize decide ((c.natAbs : Int) < big18) = b
  cases b <;> simp only [Bool.false_eq_true, if_false, if_true]
  · exact fin
  · unfold b__law_left_2
    simp only [wSs, wS, wE, wEs, wT, wOT, wI, wO, Lit.w, biW, rs_tup, rs_lst, rs_int, rs_str, rs_bl, rs_non, rs_dct, ix_tup, ix_lst, atI_0, atI_1, atI_2, ex_some, ex_some2, ex_int, ex_bl, tru_bl,
  List.getElem?_cons_zero, List.getElem?_cons_succ, List.set_cons_zero, List.set_cons_succ, eqW_str, eqW_int, eqW_bl, cmp_eq, cmp_lt, cmp_gt, cmp_ge, cmp_le, add_int, sub_int, wipeS, Tg.go, Tg.go.goAll, ex_tup, ex_cons, ex_tl, List.length_cons, List.length_nil, Nat.zero_add, Nat.reduceAdd, Nat.reduceLT, true_and, and_true, sizeLine_eq, Nat.reduceLeDiff, Nat.zero_le, ex_or, ex_or2, items_lst, items_tup, eq_self, un_not, cmp_in, len_lst, rd_w, slc_lst, ty_app, ty_get, mtW, if_true, Bool.false_eq_true, if_false]
    refine ⟨by decide, by decide, ?_⟩
    refine loopF_ind (fun xs σ S' => S' = S ∧ (∀ x ∈ xs, ∃ i, x = W.int i) ∧ ∃ l d y, σ = [some (.int c), some (.int l), some (.int d), y]) ?_ ?_ _ _ _ ?_
    · rintro σ S' ⟨rfl, _, l, d, y, rfl⟩
      simp only [wSs, wS, wE, wEs, wT, wOT, wI, wO, Lit.w, biW, rs_tup, rs_lst, rs_int, rs_str, rs_bl, rs_non, rs_dct, ix_tup, ix_lst, atI_0, atI_1, atI_2, ex_some, ex_some2, ex_int, ex_bl, tru_bl,
  List.getElem?_cons_zero, List.getElem?_cons_succ, List.set_cons_zero, List.set_cons_succ, eqW_str, eqW_int, eqW_bl, cmp_eq, cmp_lt, cmp_gt, cmp_ge, cmp_le, add_int, sub_int, wipeS, Tg.go, Tg.go.goAll, ex_tup, ex_cons, ex_tl, List.length_cons, List.length_nil, Nat.zero_add, Nat.reduceAdd, Nat.reduceLT, true_and, and_true, sizeLine_eq, Nat.reduceLeDiff, Nat.zero_le, ex_or, ex_or2, items_lst, items_tup, eq_self, un_not, cmp_in, len_lst, rd_w, slc_lst, ty_app, ty_get, mtW, if_true, Bool.false_eq_true, if_false]
      exact fin
    · rintro x xs σ S' N ⟨rfl, hx, l, d, y, rfl⟩ hN
      obtain ⟨i, rfl⟩ := hx x (by simp)
      have m1 : ∀ j : Int, binW .Mod (.int j) (.int 2147483629) = some (.int (j % 2147483629)) := fun j => mod_int (by decide)
      have m2 : ∀ j : Int, binW .Mod (.int j) (.int 2147483647) = some (.int (j % 2147483647)) := fun j => mod_int (by decide)
      have m3 : ∀ j : Int, binW .Mult (.int j) (.int 48271) = some (.int (j * 48271)) := fun j => mul_int (by decide)
      have m4 : ∀ j : Int, binW .Mult (.int j) (.int 39373) = some (.int (j * 39373)) := fun j => mul_int (by decide)
      have m5 : ∀ j : Int, binW .Mult (.int j) (.int 2147483629) = some (.int (j * 2147483629)) := fun j => mul_int (by decide)
      unfold b__law_left_1
      simp only [wSs, wS, wE, wEs, wT, wOT, wI, wO, Lit.w, biW, rs_tup, rs_lst, rs_int, rs_str, rs_bl, rs_non, rs_dct, ix_tup, ix_lst, atI_0, atI_1, atI_2, ex_some, ex_some2, ex_int, ex_bl, tru_bl,
  List.getElem?_cons_zero, List.getElem?_cons_succ, List.set_cons_zero, List.set_cons_succ, eqW_str, eqW_int, eqW_bl, cmp_eq, cmp_lt, cmp_gt, cmp_ge, cmp_le, add_int, sub_int, wipeS, Tg.go, Tg.go.goAll, ex_tup, ex_cons, ex_tl, List.length_cons, List.length_nil, Nat.zero_add, Nat.reduceAdd, Nat.reduceLT, true_and, and_true, sizeLine_eq, Nat.reduceLeDiff, Nat.zero_le, ex_or, ex_or2, items_lst, items_tup, eq_self, un_not, cmp_in, len_lst, rd_w, slc_lst, ty_app, ty_get, mtW, if_true, Bool.false_eq_true, if_false, m1, m2, m3, m4, m5]
      exact hN _ _ ⟨rfl, fun x hx' => hx x (by simp [hx']), _, _, _, rfl⟩
    · exact ⟨rfl, fun x hx => by
        unfold rgW at hx
        obtain ⟨i, _, rfl⟩ := List.mem_map.mp hx
        exact ⟨_, rfl⟩, _, _, _, rfl⟩

def alpha : Str := "abcdefghijklmnopqrstuvwxyz"
theorem alpha_at {i : Nat} (h : i < 26) : alpha.cps.toList[i]? = some (97 + i) := by
  have : ∀ j : _root_.Fin 26, alpha.cps.toList[j.val]? = some (97 + j.val) := by decide +kernel
  exact this ⟨i, h⟩
theorem alpha_mem {i : Nat} (h : i < 26) : 97 + i ∈ alpha.cps.toList := List.mem_of_getElem? (alpha_at h)
theorem let_at {i : Int} (h0 : 0 ≤ i) (h1 : i < 26) : ixW (.str "abcdefghijklmnopqrstuvwxyz") (.int i) = some (.str ⟨#[97 + i.toNat]⟩) := by
  have hz : alpha.length ≤ 1000 := by decide +kernel
  refine ix_str (z := alpha) hz ?_
  obtain ⟨j, rfl⟩ : ∃ j : Nat, i = (j : Int) := ⟨i.toNat, by omega⟩
  rw [atI_nat]
  exact alpha_at (by omega)
theorem kind_at {i : Int} (h0 : 0 ≤ i) (h1 : i < 6) : ∃ ps : List Nat, atI [W.lst [.int 0, .int 0, .int 1, .int 2], .lst [.int 0, .int 1, .int 2], .lst [.int 0, .int 0, .int 0, .int 1], .lst [.int 0, .int 2, .int 1, .int 0], .lst [.int 0, .int 1, .int 1, .int 3], .lst [.int 2, .int 0, .int 0, .int 1]] i = some (.lst (ps.map fun p : Nat => W.int (p : Int))) ∧
    (∀ p ∈ ps, p ≤ 3) ∧ 0 ∈ ps ∧ 1 ≤ ps.length ∧ ps.length ≤ 4 := by
  have : i = 0 ∨ i = 1 ∨ i = 2 ∨ i = 3 ∨ i = 4 ∨ i = 5 := by omega
  rcases this with rfl | rfl | rfl | rfl | rfl | rfl
  · exact ⟨[0, 0, 1, 2], rfl, by decide, by decide, by decide, by decide⟩
  · exact ⟨[0, 1, 2], rfl, by decide, by decide, by decide, by decide⟩
  · exact ⟨[0, 0, 0, 1], rfl, by decide, by decide, by decide, by decide⟩
  · exact ⟨[0, 2, 1, 0], rfl, by decide, by decide, by decide, by decide⟩
  · exact ⟨[0, 1, 1, 3], rfl, by decide, by decide, by decide, by decide⟩
  · exact ⟨[2, 0, 0, 1], rfl, by decide, by decide, by decide, by decide⟩
theorem sev_at {i : Int} (h0 : 0 ≤ i) (h1 : i < 4) : ∃ q : Int, atI [W.int 0, .int 0, .int 0, .int 7] i = some (.int q) ∧ 0 ≤ q ∧ q ≤ 7 ∧ q ≠ 1 := by
  have : i = 0 ∨ i = 1 ∨ i = 2 ∨ i = 3 := by omega
  rcases this with rfl | rfl | rfl | rfl
  · exact ⟨0, rfl, by decide, by decide, by decide⟩
  · exact ⟨0, rfl, by decide, by decide, by decide⟩
  · exact ⟨0, rfl, by decide, by decide, by decide⟩
  · exact ⟨7, rfl, by decide, by decide, by decide⟩
theorem wei_at {i : Int} (h0 : 0 ≤ i) (h1 : i < 6) : ∃ q : Int, atI [W.int 1, .int 1, .int 1, .int 2, .int 3, .int 50] i = some (.int q) ∧ 1 ≤ q ∧ q ≤ 50 := by
  have : i = 0 ∨ i = 1 ∨ i = 2 ∨ i = 3 ∨ i = 4 ∨ i = 5 := by omega
  rcases this with rfl | rfl | rfl | rfl | rfl | rfl <;> exact ⟨_, rfl, by decide, by decide⟩
theorem word_ok {c e : Nat} {q : Int} (hc : c < 26) (he : e < 26) (h0 : 0 ≤ q) (h1 : q ≤ 7) : ∃ x : Str, x = (⟨#[97 + c]⟩ : Str) ++ Txt.mul ⟨#[97 + e]⟩ q ∧ 1 ≤ x.length ∧ x.length ≤ 8 ∧ small x ∧ x.cps.toList.head? = some (97 + c) ∧ (⟨#[97 + c]⟩ : Str).length + (Txt.mul ⟨#[97 + e]⟩ q).length ≤ 1000 ∧ x.length = 1 + q.toNat := by
  refine ⟨_, rfl, ?_⟩
  have hm := PyProof.Rows.mul_one_list (97 + e) q
  have hl : (Txt.mul ⟨#[97 + e]⟩ q).length = q.toNat := by
    have : (Txt.mul ⟨#[97 + e]⟩ q).length = (Txt.mul ⟨#[97 + e]⟩ q).cps.toList.length := by simp [Str.length]
    rw [this, hm, List.length_replicate]
  have h2 : (⟨#[97 + c]⟩ : Str).length = 1 := rfl
  have e2 : ((⟨#[97 + c]⟩ : Str) ++ Txt.mul ⟨#[97 + e]⟩ q).cps.toList = (97 + c) :: (Txt.mul ⟨#[97 + e]⟩ q).cps.toList := by
    show ((⟨#[97 + c]⟩ : Str).cps ++ (Txt.mul ⟨#[97 + e]⟩ q).cps).toList = _
    simp
  refine ⟨?_, ?_, fun d hd => ?_, ?_, by omega, by rw [strLen_append]; omega⟩
  · rw [strLen_append]; omega
  · rw [strLen_append]; omega
  · rw [e2, hm] at hd
    rcases List.mem_cons.mp hd with z | z
    · rw [z]; exact alpha_mem hc
    · rw [List.eq_of_mem_replicate z]; exact alpha_mem he
  · rw [e2]; rfl
theorem nameOk_of {x : Str} (h : x.length ≤ 8) (hs : small x) : nameOk x := ⟨h, fun c hc => by
  have : ∀ c ∈ alpha.cps.toList, c < 16 ^ 8 := by decide +kernel
  exact this c (hs c hc)⟩
/-- numbers of parts, each with its place -/
def enumN : Nat → List Nat → List W
  | _, [] => []
  | i, p :: ps => .tup [.int (i : Int), .int (p : Int)] :: enumN (i + 1) ps
theorem enum_nats : ∀ (ps : List Nat) (i : Nat), (((ps.map fun p : Nat => W.int (p : Int)).zipIdx i).map fun p => W.tup [.int p.2, p.1]) = enumN i ps
  | [], i => rfl
  | p :: ps, i => by
    rw [List.map_cons, List.zipIdx_cons, List.map_cons, enum_nats ps (i + 1)]; rfl
structure rowsT (b : Nat) (rows : List Rw) : Prop where
  row : ∀ r ∈ rows, 1 ≤ r.x.length ∧ r.x.length ≤ 8 ∧ small r.x ∧ r.p ≤ 3 ∧ 1 ≤ r.g ∧ r.g ≤ 50 ∧ r.x.length ≠ 2
  first : ∀ (j : Nat) r, rows[j]? = some r → r.x.cps.toList.head? = some (97 + (b + 5 * j) % 26)
  names : (rows.map (·.x)).Nodup
theorem rowsT.snoc {b : Nat} {rows : List Rw} {r : Rw} (h : rowsT b rows) (hl : rows.length ≤ 4) (h1 : 1 ≤ r.x.length ∧ r.x.length ≤ 8 ∧ small r.x ∧ r.p ≤ 3 ∧ 1 ≤ r.g ∧ r.g ≤ 50 ∧ r.x.length ≠ 2) (h2 : r.x.cps.toList.head? = some (97 + (b + 5 * rows.length) % 26)) : rowsT b (rows ++ [r]) := by
  refine ⟨fun q hq => ?_, fun j q hq => ?_, ?_⟩
  · rcases List.mem_append.mp hq with z | z
    · exact h.row q z
    · rw [List.mem_singleton.mp z]; exact h1
  · by_cases hj : j < rows.length
    · rw [List.getElem?_append_left hj] at hq; exact h.first j q hq
    · rw [List.getElem?_append_right (by omega)] at hq
      have : j - rows.length = 0 := by
        by_cases z : j - rows.length = 0
        · exact z
        · rw [List.getElem?_eq_none (by simp; omega)] at hq; cases hq
      rw [this] at hq
      cases hq
      have : j = rows.length := by omega
      rw [this]; exact h2
  · rw [List.map_append, List.nodup_append]
    refine ⟨h.names, by simp, fun a ha c hc => ?_⟩
    have hc' : c = r.x := by simpa using hc
    subst hc'
    obtain ⟨q, hq, rfl⟩ := List.mem_map.mp ha
    obtain ⟨j, hj⟩ := List.getElem?_of_mem hq
    have hjl : j < rows.length := (List.getElem?_eq_some_iff.mp hj).1
    have e1 := h.first j q hj
    intro z
    rw [z, h2] at e1
    injection e1 with e1
    omega
theorem s_table {n : Int} {k : Nat} {S : Sto} {Q X : QW} {a : Addr} (hS : S a = some (.lst [.int n])) (h : ∀ rows m, rowsOk rows → (∀ r ∈ rows, r.p ≤ 3 ∧ r.x.length ≠ 2) → Q (.lst (rowsW rows)) (S.set a (.lst [.int m]))) : callK T G0 (k + 2) "_law_table" [.ref a] S Q X := by
  refine o__law_table ?_
  unfold b__law_table
  simp only [wSs, wS, wE, wEs, wT, wOT, wI, wO, Lit.w, biW, rs_tup, rs_lst, rs_int, rs_str, rs_bl, rs_non, rs_dct, ix_tup, ix_lst, atI_0, atI_1, atI_2, ex_some, ex_some2, ex_int, ex_bl, tru_bl,
  List.getElem?_cons_zero, List.getElem?_cons_succ, List.set_cons_zero, List.set_cons_succ, eqW_str, eqW_int, eqW_bl, cmp_eq, cmp_lt, cmp_gt, cmp_ge, cmp_le, add_int, sub_int, wipeS, Tg.go, Tg.go.goAll, ex_tup, ex_cons, ex_tl, List.length_cons, List.length_nil, Nat.zero_add, Nat.reduceAdd, Nat.reduceLT, true_and, and_true, sizeLine_eq, Nat.reduceLeDiff, Nat.zero_le, ex_or, ex_or2, items_lst, items_tup, eq_self, un_not, cmp_in, len_lst, rd_w, slc_lst, ty_app, ty_get, mtW, if_true, Bool.false_eq_true, if_false]
  refine s_digit hS (by decide) (by decide) ?_
  refine s_digit Sto.set_same (by decide) (by decide) ?_
  obtain ⟨b0, b1⟩ := mod_range (n := n) (u := 26) (by decide)
  obtain ⟨i0, i1⟩ := mod_range (n := n / 26) (u := 6) (by decide)
  obtain ⟨ps, hk, hp, hz, hl1, hl⟩ := kind_at i0 i1
  simp only [wSs, wS, wE, wEs, wT, wOT, wI, wO, Lit.w, biW, rs_tup, rs_lst, rs_int, rs_str, rs_bl, rs_non, rs_dct, ix_tup, ix_lst, atI_0, atI_1, atI_2, ex_some, ex_some2, ex_int, ex_bl, tru_bl,
  List.getElem?_cons_zero, List.getElem?_cons_succ, List.set_cons_zero, List.set_cons_succ, eqW_str, eqW_int, eqW_bl, cmp_eq, cmp_lt, cmp_gt, cmp_ge, cmp_le, add_int, sub_int, wipeS, Tg.go, Tg.go.goAll, ex_tup, ex_cons, ex_tl, List.length_cons, List.length_nil, Nat.zero_add, Nat.reduceAdd, Nat.reduceLT, true_and, and_true, sizeLine_eq, Nat.reduceLeDiff, Nat.zero_le, ex_or, ex_or2, items_lst, items_tup, eq_self, un_not, cmp_in, len_lst, rd_w, slc_lst, ty_app, ty_get, mtW, if_true, Bool.false_eq_true, if_false, hk]
  intro D hD
  have hS1 : S D = none := by
    have ne : D ≠ a := fun e => by rw [e, Sto.set_same] at hD; cases hD
    rw [Sto.set_ne ne, Sto.set_ne ne] at hD
    exact hD
  have st0 : St2 S a D (n / 26 / 6) [] (((S.set a (.lst [.int (n / 26)])).set a (.lst [.int (n / 26 / 6)])).set D (.lst [])) :=
    ⟨(fun e => by rw [e] at hS; rw [hS] at hS1; cases hS1), by rw [Sto.set_set]⟩
  obtain ⟨b, hb⟩ : ∃ b : Nat, n % 26 = (b : Int) := ⟨(n % 26).toNat, by omega⟩
  rw [hb]
  refine loopF_ind (fun xs σ S' => ∃ (qs : List Nat) (rows : List Rw) (m : Int) (y5 y6 y7 : Option W), xs = enumN rows.length qs ∧ (∀ p ∈ qs, p ≤ 3) ∧ St2 S a D m (rowsW rows) S' ∧ rowsT b rows ∧ ((∃ r ∈ rows, r.p = 0) ∨ 0 ∈ qs) ∧ rows.length + qs.length = ps.length ∧
    σ = [some (.ref a), some (.str "abcdefghijklmnopqrstuvwxyz"), some (.int (b : Int)), some (.lst (ps.map fun p : Nat => W.int (p : Int))), some (.ref D), y5, y6, y7]) ?_ ?_ _ _ _ ?_
  · rintro σ S' ⟨qs, rows, m, y5, y6, y7, e1, hq, st, ok, zr, len, rfl⟩
    have : qs = [] := by cases qs with
      | nil => rfl
      | cons a b => cases e1
    subst this
    simp only [wSs, wS, wE, wEs, wT, wOT, wI, wO, Lit.w, biW, rs_tup, rs_lst, rs_int, rs_str, rs_bl, rs_non, rs_dct, ix_tup, ix_lst, atI_0, atI_1, atI_2, ex_some, ex_some2, ex_int, ex_bl, tru_bl,
  List.getElem?_cons_zero, List.getElem?_cons_succ, List.set_cons_zero, List.set_cons_succ, eqW_str, eqW_int, eqW_bl, cmp_eq, cmp_lt, cmp_gt, cmp_ge, cmp_le, add_int, sub_int, wipeS, Tg.go, Tg.go.goAll, ex_tup, ex_cons, ex_tl, List.length_cons, List.length_nil, Nat.zero_add, Nat.reduceAdd, Nat.reduceLT, true_and, and_true, sizeLine_eq, Nat.reduceLeDiff, Nat.zero_le, ex_or, ex_or2, items_lst, items_tup, eq_self, un_not, cmp_in, len_lst, rd_w, slc_lst, ty_app, ty_get, mtW, if_true, Bool.false_eq_true, if_false]
    refine ⟨D, rfl, fz_l st.sD ?_⟩
    rw [st.del hS1]
    refine h rows m ⟨by simp at len; omega, fun r hr => ?_, ?_, ok.names⟩ fun r hr => ⟨(ok.row r hr).2.2.2.1, (ok.row r hr).2.2.2.2.2.2⟩
    · obtain ⟨z1, z2, z3, z4, z5, z6, _⟩ := ok.row r hr
      exact ⟨z1, z2, z3, by omega, z5, z6⟩
    · rcases zr with z | z
      · exact z
      · cases z
  · rintro x xs σ S' N ⟨qs, rows, m, y5, y6, y7, e1, hq, st, ok, zr, len, rfl⟩ hN
    cases qs with
    | nil => cases e1
    | cons p qs =>
    obtain ⟨rfl, rfl⟩ := List.cons.inj e1
    rw [List.length_cons] at len
    have m1 : ∀ j : Int, binW .Mod (.int j) (.int 26) = some (.int (j % 26)) := fun j => mod_int (by decide)
    have m2 : ∀ j : Int, binW .Mult (.int 5) (.int j) = some (.int (5 * j)) := fun j => mul_int' (by decide)
    obtain ⟨j0, j1⟩ := mod_range (n := (b : Int) + 5 * (rows.length : Int)) (u := 26) (by decide)
    have hc := let_at j0 j1
    have ec : (((b : Int) + 5 * (rows.length : Int)) % 26).toNat = (b + 5 * rows.length) % 26 := by omega
    rw [ec] at hc
    unfold b__law_table_1
    simp only [wSs, wS, wE, wEs, wT, wOT, wI, wO, Lit.w, biW, rs_tup, rs_lst, rs_int, rs_str, rs_bl, rs_non, rs_dct, ix_tup, ix_lst, atI_0, atI_1, atI_2, ex_some, ex_some2, ex_int, ex_bl, tru_bl,
  List.getElem?_cons_zero, List.getElem?_cons_succ, List.set_cons_zero, List.set_cons_succ, eqW_str, eqW_int, eqW_bl, cmp_eq, cmp_lt, cmp_gt, cmp_ge, cmp_le, add_int, sub_int, wipeS, Tg.go, Tg.go.goAll, ex_tup, ex_cons, ex_tl, List.length_cons, List.length_nil, Nat.zero_add, Nat.reduceAdd, Nat.reduceLT, true_and, and_true, sizeLine_eq, Nat.reduceLeDiff, Nat.zero_le, ex_or, ex_or2, items_lst, items_tup, eq_self, un_not, cmp_in, len_lst, rd_w, slc_lst, ty_app, ty_get, mtW, if_true, Bool.false_eq_true, if_false, m1, m2, hc]
    refine s_digit st.sa (by decide) (by decide) ?_
    have st1 := st.seta (m := m / 26)
    obtain ⟨k0, k1⟩ := mod_range (n := m) (u := 26) (by decide)
    have he := let_at k0 k1
    simp only [wSs, wS, wE, wEs, wT, wOT, wI, wO, Lit.w, biW, rs_tup, rs_lst, rs_int, rs_str, rs_bl, rs_non, rs_dct, ix_tup, ix_lst, atI_0, atI_1, atI_2, ex_some, ex_some2, ex_int, ex_bl, tru_bl,
  List.getElem?_cons_zero, List.getElem?_cons_succ, List.set_cons_zero, List.set_cons_succ, eqW_str, eqW_int, eqW_bl, cmp_eq, cmp_lt, cmp_gt, cmp_ge, cmp_le, add_int, sub_int, wipeS, Tg.go, Tg.go.goAll, ex_tup, ex_cons, ex_tl, List.length_cons, List.length_nil, Nat.zero_add, Nat.reduceAdd, Nat.reduceLT, true_and, and_true, sizeLine_eq, Nat.reduceLeDiff, Nat.zero_le, ex_or, ex_or2, items_lst, items_tup, eq_self, un_not, cmp_in, len_lst, rd_w, slc_lst, ty_app, ty_get, mtW, if_true, Bool.false_eq_true, if_false, he]
    refine s_digit st1.sa (by decide) (by decide) ?_
    have st2 := st1.seta (m := m / 26 / 4)
    obtain ⟨l0, l1⟩ := mod_range (n := m / 26) (u := 4) (by decide)
    obtain ⟨q, hq', q0, q7, qn⟩ := sev_at l0 l1
    obtain ⟨w, ew, w1, w2, w3, w4, wl, wn⟩ := word_ok (c := (b + 5 * rows.length) % 26) (e := (m % 26).toNat) (q := q) (by omega) (by omega) q0 q7
    have hmul := mul_str (x := ⟨#[97 + (m % 26).toNat]⟩) q0 (show q ≤ 1000 by omega) (by show 1 ≤ 1000; omega)
    have hrd2 := rd_r st2.sD
    simp only [wSs, wS, wE, wEs, wT, wOT, wI, wO, Lit.w, biW, rs_tup, rs_lst, rs_int, rs_str, rs_bl, rs_non, rs_dct, ix_tup, ix_lst, atI_0, atI_1, atI_2, ex_some, ex_some2, ex_int, ex_bl, tru_bl,
  List.getElem?_cons_zero, List.getElem?_cons_succ, List.set_cons_zero, List.set_cons_succ, eqW_str, eqW_int, eqW_bl, cmp_eq, cmp_lt, cmp_gt, cmp_ge, cmp_le, add_int, sub_int, wipeS, Tg.go, Tg.go.goAll, ex_tup, ex_cons, ex_tl, List.length_cons, List.length_nil, Nat.zero_add, Nat.reduceAdd, Nat.reduceLT, true_and, and_true, sizeLine_eq, Nat.reduceLeDiff, Nat.zero_le, ex_or, ex_or2, items_lst, items_tup, eq_self, un_not, cmp_in, len_lst, rd_w, slc_lst, ty_app, ty_get, mtW, if_true, Bool.false_eq_true, if_false, hq', hmul, add_str wl, hrd2]
    refine s_digit st2.sa (by decide) (by decide) ?_
    have st3 := st2.seta (m := m / 26 / 4 / 6)
    obtain ⟨r0, r1⟩ := mod_range (n := m / 26 / 4) (u := 6) (by decide)
    obtain ⟨g, hg, g1, g2⟩ := wei_at r0 r1
    simp only [wSs, wS, wE, wEs, wT, wOT, wI, wO, Lit.w, biW, rs_tup, rs_lst, rs_int, rs_str, rs_bl, rs_non, rs_dct, ix_tup, ix_lst, atI_0, atI_1, atI_2, ex_some, ex_some2, ex_int, ex_bl, tru_bl,
  List.getElem?_cons_zero, List.getElem?_cons_succ, List.set_cons_zero, List.set_cons_succ, eqW_str, eqW_int, eqW_bl, cmp_eq, cmp_lt, cmp_gt, cmp_ge, cmp_le, add_int, sub_int, wipeS, Tg.go, Tg.go.goAll, ex_tup, ex_cons, ex_tl, List.length_cons, List.length_nil, Nat.zero_add, Nat.reduceAdd, Nat.reduceLT, true_and, and_true, sizeLine_eq, Nat.reduceLeDiff, Nat.zero_le, ex_or, ex_or2, items_lst, items_tup, eq_self, un_not, cmp_in, len_lst, rd_w, slc_lst, ty_app, ty_get, mtW, if_true, Bool.false_eq_true, if_false, hg]
    rw [← ew]
    have hlen : (rowsW rows).length < 16777216 := by unfold rowsW; rw [List.length_map]; omega
    have er : rowsW rows ++ [W.tup [.str w, .int (p : Int), .int g]] = rowsW (rows ++ [⟨w, p, g⟩]) := by unfold rowsW; rw [List.map_append]; rfl
    refine ⟨rowsW rows, st3.sD, hlen, ?_⟩
    rw [er]
    refine hN _ _ ⟨qs, rows ++ [⟨w, p, g⟩], _, _, _, _, by rw [List.length_append, List.length_singleton], fun p hp => hq p (by simp [hp]), st3.setD, ok.snoc (by omega) ⟨w1, w2, w3, hq p (by simp), g1, g2, (by show w.length ≠ 2; omega)⟩ w4, ?_, by rw [List.length_append, List.length_singleton]; omega, rfl⟩
    rcases zr with ⟨r, hr, z⟩ | z
    · exact .inl ⟨r, List.mem_append_left _ hr, z⟩
    · rcases List.mem_cons.mp z with z | z
      · exact .inl ⟨_, List.mem_append_right _ (List.mem_singleton.mpr rfl), z.symm⟩
      · exact .inr z
  · refine ⟨ps, [], _, _, _, _, enum_nats ps 0, hp, st0, ⟨fun r hr => (nomatch hr), fun j r hj => by simp at hj, by simp⟩, .inr hz, by simp, rfl⟩
end
end K29

set_option Elab.async false
set_option linter.all false
set_option maxRecDepth 10000
set_option maxHeartbeats 4000000
namespace K29
open PySem PD
open L2 (atI Key)
/-! ### drawn terms -/
theorem ws_snoc (ts : List PD.Tm) (t : PD.Tm) : Tm.ws (ts ++ [t]) = Tm.ws ts ++ [t.w] := by rw [Tm.ws_eq, Tm.ws_eq, List.map_append]; rfl
theorem fines_snoc {L : Int} {ts : List PD.Tm} {t : PD.Tm} (h : Tm.fines L ts) (h2 : t.fine L) : Tm.fines L (ts ++ [t]) := by
  rw [Tm.fines_iff] at h ⊢
  intro u hu
  rcases List.mem_append.mp hu with z | z
  · exact h u z
  · rw [List.mem_singleton.mp z]; exact h2
theorem overs_snoc {O : Od} {ts : List PD.Tm} {t : PD.Tm} (h : overs O ts) (h2 : over O t) : overs O (ts ++ [t]) := by
  rw [overs_iff] at h ⊢
  intro u hu
  rcases List.mem_append.mp hu with z | z
  · exact h u z
  · rw [List.mem_singleton.mp z]; exact h2
theorem hs_snoc {n : Nat} : ∀ {ts : List PD.Tm} {t : PD.Tm}, Tm.hs ts ≤ n → t.h ≤ n → Tm.hs (ts ++ [t]) ≤ n
  | [], t, h, h2 => by show max t.h 0 ≤ n; omega
  | u :: ts, t, h, h2 => by
    have h' : max u.h (Tm.hs ts) ≤ n := h
    have := hs_snoc (ts := ts) (t := t) (n := n) (by omega) h2
    show max u.h (Tm.hs (ts ++ [t])) ≤ n
    omega
theorem rAt_mem : ∀ {rs : List Rw}, (rs.map (·.x)).Nodup → ∀ {r : Rw}, r ∈ rs → rAt rs r.x = some r
  | [], _, r, h => by cases h
  | q :: rs, nd, r, h => by
    rw [rAt_cons]
    rw [List.map_cons, List.nodup_cons] at nd
    rcases List.mem_cons.mp h with z | z
    · subst z; rw [if_pos rfl]
    · have : q.x ≠ r.x := fun e => nd.1 (by rw [e]; exact List.mem_map_of_mem z)
      rw [if_neg this]
      exact rAt_mem nd.2 z
def keepR (d : Nat) : W → Bool
  | .tup [_, .int p, _] => decide (1 < (d : Int) + 1) || (p == 0)
  | _ => false
structure rowsD (rs : List Rw) : Prop where
  ok : rowsOk rs
  p3 : ∀ r ∈ rs, r.p ≤ 3
  two : ∀ r ∈ rs, r.x.length ≠ 2
def termAt (rs : List Rw) (d : Nat) : Prop := ∀ {k : Nat} {S : Sto} {Q X : QW} {a : Addr} {n L : Int}, 0 ≤ L → L ≤ 10 → S a = some (.lst [.int n]) →
    (∀ (t : PD.Tm) m, t.fine L → over (odOf rs) t → t.h ≤ d + 1 → Q t.w (S.set a (.lst [.int m]))) → callK T G0 (k + d + 2) "_law_term" [.ref a, .lst (rowsW rs), .int L, .int ((d : Int) + 1)] S Q X
theorem term_of {rs : List Rw} (rd : rowsD rs) (d : Nat) (ih : ∀ e, d = e + 1 → termAt rs e) {k : Nat} {S : Sto} {Q X : QW} {a : Addr} {n L : Int} (hL : 0 ≤ L) (hL2 : L ≤ 10) (hS : S a = some (.lst [.int n]))
    (h : ∀ (t : PD.Tm) m, t.fine L → over (odOf rs) t → t.h ≤ d + 1 → Q t.w (S.set a (.lst [.int m]))) :
    ∃ rest : Sts, b__law_term = .cons (.iff (.and (.val (.cmp .Gt (.loc 2) (.lit (.int 0)))) (.val (.cmp .Eq (.call "_law_digit" (.cons (.loc 0) (.cons (.lit (.int 3)) .nil))) (.lit (.int 0))))) b__law_term_4 .nil) rest ∧
      wSs ⟨callK T G0 (k + d + 1), G0⟩ rest { nx := fun _ S' => Q .non S', rt := Q, ex := X } [some (.ref a), some (.lst (rowsW rs)), some (.int L), some (.int ((d : Int) + 1)), none, none, none] S := by
  refine ⟨_, rfl, ?_⟩
  simp only [wSs, wS, wE, wEs, wT, wOT, wI, wO, Lit.w, biW, rs_tup, rs_lst, rs_int, rs_str, rs_bl, rs_non, rs_dct, ix_tup, ix_lst, atI_0, atI_1, atI_2, ex_some, ex_some2, ex_int, ex_bl, tru_bl,
  List.getElem?_cons_zero, List.getElem?_cons_succ, List.set_cons_zero, List.set_cons_succ, eqW_str, eqW_int, eqW_bl, cmp_eq, cmp_lt, cmp_gt, cmp_ge, cmp_le, add_int, sub_int, wipeS, Tg.go, Tg.go.goAll, ex_tup, ex_cons, ex_tl, List.length_cons, List.length_nil, Nat.zero_add, Nat.reduceAdd, Nat.reduceLT, true_and, and_true, sizeLine_eq, Nat.reduceLeDiff, Nat.zero_le, ex_or, ex_or2, items_lst, items_tup, eq_self, un_not, cmp_in, len_lst, rd_w, slc_lst, ty_app, ty_get, mtW, if_true, Bool.false_eq_true, if_false]
  refine comp_p (fun x => if keepR d x = true then some x else none) (fun w => ∃ r : Rw, w = r.w) ?_ (fun x hx => by obtain ⟨r, _, rfl⟩ := List.mem_map.mp hx; exact ⟨r, rfl⟩) (by unfold rowsW; rw [List.length_map]; have := rd.ok.len; omega) ?_
  · rintro x S' K ⟨r, rfl⟩ hk
    unfold t__law_term_2 e__law_term_3
    have er : r.w = .tup [.str r.x, .int (r.p : Int), .int r.g] := rfl
    simp only [wSs, wS, wE, wEs, wT, wOT, wI, wO, Lit.w, biW, rs_tup, rs_lst, rs_int, rs_str, rs_bl, rs_non, rs_dct, ix_tup, ix_lst, atI_0, atI_1, atI_2, ex_some, ex_some2, ex_int, ex_bl, tru_bl,
  List.getElem?_cons_zero, List.getElem?_cons_succ, List.set_cons_zero, List.set_cons_succ, eqW_str, eqW_int, eqW_bl, cmp_eq, cmp_lt, cmp_gt, cmp_ge, cmp_le, add_int, sub_int, wipeS, Tg.go, Tg.go.goAll, ex_tup, ex_cons, ex_tl, List.length_cons, List.length_nil, Nat.zero_add, Nat.reduceAdd, Nat.reduceLT, true_and, and_true, sizeLine_eq, Nat.reduceLeDiff, Nat.zero_le, ex_or, ex_or2, items_lst, items_tup, eq_self, un_not, cmp_in, len_lst, rd_w, slc_lst, ty_app, ty_get, mtW, if_true, Bool.false_eq_true, if_false, er]
    have hk : K (if (decide (1 < (d : Int) + 1) || ((r.p : Int) == 0)) = true then some (W.tup [.str r.x, .int (r.p : Int), .int r.g]) else none) S' := hk
    generalize decide (1 < (d : Int) + 1) = b1 at hk ⊢
    generalize ((r.p : Int) == 0) = b2 at hk ⊢
    cases b1 <;> cases b2 <;> exact hk
  intro D hD
  generalize hys : List.filterMap (fun x => if keepR d x = true then some x else none) (rowsW rs) = ys
  have hmem : ∀ y ∈ ys, ∃ r ∈ rs, y = r.w ∧ keepR d y = true := fun y hy => by
    rw [← hys] at hy
    obtain ⟨x, hx, e⟩ := List.mem_filterMap.mp hy
    by_cases q : keepR d x = true
    · rw [if_pos q] at e; cases e
      obtain ⟨r, hr, rfl⟩ := List.mem_map.mp hx
      exact ⟨r, hr, rfl, q⟩
    · rw [if_neg q] at e; cases e
  have hpos : 0 < ys.length := by
    obtain ⟨r, hr, hz⟩ := rd.ok.zero
    have kw : keepR d r.w = true := by
      show (decide (1 < (d : Int) + 1) || ((r.p : Int) == 0)) = true
      rw [hz]; simp
    have : r.w ∈ ys := by
      rw [← hys]
      exact List.mem_filterMap.mpr ⟨r.w, List.mem_map_of_mem hr, by rw [if_pos kw]⟩
    exact List.length_pos_of_mem this
  have hsm : ys.length ≤ 100 := by
    have := rd.ok.len
    have : ys.length ≤ (rowsW rs).length := by rw [← hys]; exact List.length_filterMap_le _ _
    unfold rowsW at this
    rw [List.length_map] at this
    omega
  rw [Sto.del_set hD]
  refine s_digit hS (by omega) (by omega) ?_
  obtain ⟨j0, j1⟩ := mod_range (n := n) (u := (ys.length : Int)) (by omega)
  obtain ⟨row, hrow, hat⟩ := at_mem j0 j1
  obtain ⟨r, hr, rfl, hkeep⟩ := hmem row hrow
  obtain ⟨w1, w2, w3, w4, w5, w6⟩ := rd.ok.row r hr
  have p3 := rd.p3 r hr
  have er : r.w = .tup [.str r.x, .int (r.p : Int), .int r.g] := rfl
  simp only [wSs, wS, wE, wEs, wT, wOT, wI, wO, Lit.w, biW, rs_tup, rs_lst, rs_int, rs_str, rs_bl, rs_non, rs_dct, ix_tup, ix_lst, atI_0, atI_1, atI_2, ex_some, ex_some2, ex_int, ex_bl, tru_bl,
  List.getElem?_cons_zero, List.getElem?_cons_succ, List.set_cons_zero, List.set_cons_succ, eqW_str, eqW_int, eqW_bl, cmp_eq, cmp_lt, cmp_gt, cmp_ge, cmp_le, add_int, sub_int, wipeS, Tg.go, Tg.go.goAll, ex_tup, ex_cons, ex_tl, List.length_cons, List.length_nil, Nat.zero_add, Nat.reduceAdd, Nat.reduceLT, true_and, and_true, sizeLine_eq, Nat.reduceLeDiff, Nat.zero_le, ex_or, ex_or2, items_lst, items_tup, eq_self, un_not, cmp_in, len_lst, rd_w, slc_lst, ty_app, ty_get, mtW, if_true, Bool.false_eq_true, if_false, hat, er]
  refine ⟨by omega, by omega, ?_⟩
  intro D2 hD2
  have hS2 := Sto.none_of hD2
  have hd : d = 0 → r.p = 0 := fun z => by
    subst z
    have hr2 : (decide ((1 : Int) < ((0 : Nat) : Int) + 1) || ((r.p : Int) == 0)) = true := hkeep
    have : (r.p : Int) = 0 := by simpa using hr2
    omega
  refine loopC_ind (fun xs acc S' => (xs = [] ∨ ∃ e, d = e + 1) ∧ ∃ m ts, St2 S a D2 m acc S' ∧ acc = Tm.ws ts ∧ Tm.fines L ts ∧ overs (odOf rs) ts ∧ Tm.hs ts ≤ d ∧ ts.length + xs.length = r.p) ?_ ?_ ?_ _ _ _ ?_
  · rintro xs acc S' ⟨_, m, ts, st, _⟩
    exact st.sD
  · rintro acc S' ⟨_, m, ts, st, rfl, ft, ov, ht, len⟩
    rw [st.del hS2]
    have rr := rAt_mem rd.ok.names hr
    refine h (.of r.x ts) m ⟨nameOk_of w2 w3, by simp at len; omega, ft⟩ ⟨?_, ?_, ov⟩ (by unfold Tm.h; omega)
    · show (rAt rs r.x).isSome = true
      rw [rr]; rfl
    · show _ = (match rAt rs r.x with | some r => r.p | none => 0)
      rw [rr]
      simpa using len
  · rintro y xs acc S' K ⟨hxs, m, ts, st, rfl, ft, ov, ht, len⟩ _ hK
    obtain ⟨e, rfl⟩ : ∃ e, d = e + 1 := hxs.resolve_left fun z => nomatch z
    unfold e__law_term_1
    have ee : ((e + 1 : Nat) : Int) + 1 - 1 = (e : Int) + 1 := by omega
    simp only [wSs, wS, wE, wEs, wT, wOT, wI, wO, Lit.w, biW, rs_tup, rs_lst, rs_int, rs_str, rs_bl, rs_non, rs_dct, ix_tup, ix_lst, atI_0, atI_1, atI_2, ex_some, ex_some2, ex_int, ex_bl, tru_bl,
  List.getElem?_cons_zero, List.getElem?_cons_succ, List.set_cons_zero, List.set_cons_succ, eqW_str, eqW_int, eqW_bl, cmp_eq, cmp_lt, cmp_gt, cmp_ge, cmp_le, add_int, sub_int, wipeS, Tg.go, Tg.go.goAll, ex_tup, ex_cons, ex_tl, List.length_cons, List.length_nil, Nat.zero_add, Nat.reduceAdd, Nat.reduceLT, true_and, and_true, sizeLine_eq, Nat.reduceLeDiff, Nat.zero_le, ex_or, ex_or2, items_lst, items_tup, eq_self, un_not, cmp_in, len_lst, rd_w, slc_lst, ty_app, ty_get, mtW, if_true, Bool.false_eq_true, if_false, ee]
    refine ih e rfl hL hL2 st.sa fun t m2 f1 o1 f2 => ?_
    have st1 := st.seta (m := m2)
    have len' := len
    rw [List.length_cons] at len'
    have lw : (Tm.ws ts).length = ts.length := by rw [Tm.ws_eq, List.length_map]
    exact hK _ _ st1.sD (by rw [lw, sizeLine_eq]; omega) ⟨.inr ⟨e, rfl⟩, m2, ts ++ [t], st1.setD, (ws_snoc ts t).symm, fines_snoc ft f1, overs_snoc ov o1, hs_snoc ht f2, by rw [List.length_append, List.length_singleton]; omega⟩
  · refine ⟨?_, _, [], St2.newS hD2, rfl, True.intro, True.intro, Nat.zero_le _, ?_⟩
    · by_cases z : d = 0
      · have := hd z
        rw [this]
        exact .inl rfl
      · exact .inr ⟨d - 1, by omega⟩
    · unfold rgW
      simp
theorem term_core {rs : List Rw} (rd : rowsD rs) (d : Nat) (ih : ∀ e, d = e + 1 → termAt rs e) : termAt rs d := by
  intro k S Q X a n L hL hL2 hS h
  refine o__law_term ?_
  by_cases hz : L = 0
  · obtain ⟨rest, eb, q⟩ := term_of rd d ih (k := k) hL hL2 hS h (X := X)
    rw [eb]
    have hl : decide ((0 : Int) < L) = false := decide_eq_false (by omega)
    simp only [wSs, wS, wE, wEs, wT, wOT, wI, wO, Lit.w, biW, rs_tup, rs_lst, rs_int, rs_str, rs_bl, rs_non, rs_dct, ix_tup, ix_lst, atI_0, atI_1, atI_2, ex_some, ex_some2, ex_int, ex_bl, tru_bl,
  List.getElem?_cons_zero, List.getElem?_cons_succ, List.set_cons_zero, List.set_cons_succ, eqW_str, eqW_int, eqW_bl, cmp_eq, cmp_lt, cmp_gt, cmp_ge, cmp_le, add_int, sub_int, wipeS, Tg.go, Tg.go.goAll, ex_tup, ex_cons, ex_tl, List.length_cons, List.length_nil, Nat.zero_add, Nat.reduceAdd, Nat.reduceLT, true_and, and_true, sizeLine_eq, Nat.reduceLeDiff, Nat.zero_le, ex_or, ex_or2, items_lst, items_tup, eq_self, un_not, cmp_in, len_lst, rd_w, slc_lst, ty_app, ty_get, mtW, if_true, Bool.false_eq_true, if_false, hl]
    exact q
  · have hl : decide ((0 : Int) < L) = true := decide_eq_true (by omega)
    obtain ⟨rest, eb, q⟩ := term_of rd d ih (k := k) (S := S.set a (.lst [.int (n / 3)])) (Q := Q) hL hL2 Sto.set_same (fun t m a b c => by rw [Sto.set_set]; exact h t m a b c) (X := X)
    rw [eb]
    simp only [wSs, wS, wE, wEs, wT, wOT, wI, wO, Lit.w, biW, rs_tup, rs_lst, rs_int, rs_str, rs_bl, rs_non, rs_dct, ix_tup, ix_lst, atI_0, atI_1, atI_2, ex_some, ex_some2, ex_int, ex_bl, tru_bl,
  List.getElem?_cons_zero, List.getElem?_cons_succ, List.set_cons_zero, List.set_cons_succ, eqW_str, eqW_int, eqW_bl, cmp_eq, cmp_lt, cmp_gt, cmp_ge, cmp_le, add_int, sub_int, wipeS, Tg.go, Tg.go.goAll, ex_tup, ex_cons, ex_tl, List.length_cons, List.length_nil, Nat.zero_add, Nat.reduceAdd, Nat.reduceLT, true_and, and_true, sizeLine_eq, Nat.reduceLeDiff, Nat.zero_le, ex_or, ex_or2, items_lst, items_tup, eq_self, un_not, cmp_in, len_lst, rd_w, slc_lst, ty_app, ty_get, mtW, if_true, Bool.false_eq_true, if_false, hl]
    refine s_digit hS (by decide) (by decide) ?_
    simp only [wSs, wS, wE, wEs, wT, wOT, wI, wO, Lit.w, biW, rs_tup, rs_lst, rs_int, rs_str, rs_bl, rs_non, rs_dct, ix_tup, ix_lst, atI_0, atI_1, atI_2, ex_some, ex_some2, ex_int, ex_bl, tru_bl,
  List.getElem?_cons_zero, List.getElem?_cons_succ, List.set_cons_zero, List.set_cons_succ, eqW_str, eqW_int, eqW_bl, cmp_eq, cmp_lt, cmp_gt, cmp_ge, cmp_le, add_int, sub_int, wipeS, Tg.go, Tg.go.goAll, ex_tup, ex_cons, ex_tl, List.length_cons, List.length_nil, Nat.zero_add, Nat.reduceAdd, Nat.reduceLT, true_and, and_true, sizeLine_eq, Nat.reduceLeDiff, Nat.zero_le, ex_or, ex_or2, items_lst, items_tup, eq_self, un_not, cmp_in, len_lst, rd_w, slc_lst, ty_app, ty_get, mtW, if_true, Bool.false_eq_true, if_false]
    generalize (n % 3 == 0) = b
    cases b <;> simp only [Bool.false_eq_true, if_false, if_true]
    · exact q
    · unfold b__law_term_4
      simp only [wSs, wS, wE, wEs, wT, wOT, wI, wO, Lit.w, biW, rs_tup, rs_lst, rs_int, rs_str, rs_bl, rs_non, rs_dct, ix_tup, ix_lst, atI_0, atI_1, atI_2, ex_some, ex_some2, ex_int, ex_bl, tru_bl,
  List.getElem?_cons_zero, List.getElem?_cons_succ, List.set_cons_zero, List.set_cons_succ, eqW_str, eqW_int, eqW_bl, cmp_eq, cmp_lt, cmp_gt, cmp_ge, cmp_le, add_int, sub_int, wipeS, Tg.go, Tg.go.goAll, ex_tup, ex_cons, ex_tl, List.length_cons, List.length_nil, Nat.zero_add, Nat.reduceAdd, Nat.reduceLT, true_and, and_true, sizeLine_eq, Nat.reduceLeDiff, Nat.zero_le, ex_or, ex_or2, items_lst, items_tup, eq_self, un_not, cmp_in, len_lst, rd_w, slc_lst, ty_app, ty_get, mtW, if_true, Bool.false_eq_true, if_false]
      refine s_digit Sto.set_same (by omega) (by omega) ?_
      rw [Sto.set_set]
      obtain ⟨i0, i1⟩ := mod_range (n := n / 3) (u := L) (by omega)
      exact h (.any (n / 3 % L)) _ ⟨i0, i1⟩ True.intro (by unfold Tm.h; omega)
theorem s_term {rs : List Rw} (rd : rowsD rs) : ∀ d : Nat, termAt rs d
  | 0 => term_core rd 0 fun _ e => nomatch e
  | d + 1 => term_core rd (d + 1) fun m e => by cases e; exact s_term rd d
end K29

set_option Elab.async false
set_option linter.all false
set_option maxRecDepth 100000
set_option maxHeartbeats 4000000
namespace K29
open PySem PD
/-! ### fitting, in plain Lean -/
abbrev Stf := List (Int × PD.Tm)
def fOf (st : Stf) (n : Int) : Option PD.Tm := (st.find? fun e => e.1 == n).map (·.2)
theorem fOf_nil (n : Int) : fOf [] n = none := rfl
theorem fOf_cons (e : Int × PD.Tm) (st : Stf) (n : Int) : fOf (e :: st) n = if e.1 = n then some e.2 else fOf st n := by
  unfold fOf
  rw [List.find?_cons]
  by_cases h : e.1 = n
  · simp [h]
  · have : (e.1 == n) = false := by simpa using h
    rw [this]; simp [h]
theorem fOf_snoc (st : Stf) (m : Int) (t : PD.Tm) (n : Int) (h : fOf st m = none) : fOf (st ++ [(m, t)]) n = if m = n then some t else fOf st n := by
  induction st with
  | nil => rw [List.nil_append, fOf_cons]
  | cons e st ih =>
    rw [fOf_cons] at h
    have h1 : e.1 ≠ m := by
      intro z
      rw [if_pos z] at h
      cases h
    rw [if_neg h1] at h
    rw [List.cons_append, fOf_cons, fOf_cons, ih h]
    by_cases z : e.1 = n
    · have : m ≠ n := fun y => h1 (by rw [z, y])
      rw [if_pos z, if_pos z, if_neg this]
    · rw [if_neg z, if_neg z]
theorem fOf_none {st : Stf} {n : Int} : fOf st n = none ↔ n ∉ st.map (·.1) := by
  induction st with
  | nil => simp [fOf_nil]
  | cons e st ih =>
    rw [fOf_cons]
    by_cases z : e.1 = n
    · simp [z]
    · rw [if_neg z, ih]
      simp [Ne.symm z]
theorem fOf_mem {st : Stf} {n : Int} {u : PD.Tm} (h : fOf st n = some u) : (n, u) ∈ st := by
  induction st with
  | nil => cases h
  | cons e st ih =>
    rw [fOf_cons] at h
    by_cases z : e.1 = n
    · rw [if_pos z] at h
      cases h
      rw [← z]
      exact List.mem_cons_self
    · rw [if_neg z] at h
      exact List.mem_cons_of_mem _ (ih h)
mutual
def fitT : PD.Tm → PD.Tm → Stf → Option Stf
  | .any n, t, st => match fOf st n with
    | none => some (st ++ [(n, t)])
    | some u => if u = t then some st else none
  | .of _ _, .any _, _ => none
  | .of x ps, .of y ts, st => if x = y ∧ ps.length = ts.length then fits ps ts st else none
def fits : List PD.Tm → List PD.Tm → Stf → Option Stf
  | p :: ps, t :: ts, st => match fitT p t st with
    | none => none
    | some st' => fits ps ts st'
  | _, _, st => some st
end
mutual
def fillT (f : Int → Option PD.Tm) : PD.Tm → PD.Tm
  | .any n => (f n).getD (.any n)
  | .of x ts => .of x (fillTs f ts)
def fillTs (f : Int → Option PD.Tm) : List PD.Tm → List PD.Tm
  | [] => []
  | t :: ts => fillT f t :: fillTs f ts
end
mutual
def nz : PD.Tm → Nat
  | .any _ => 1
  | .of _ ts => 1 + nzs ts
def nzs : List PD.Tm → Nat
  | [] => 0
  | t :: ts => nz t + nzs ts
end
theorem nz_pos (t : PD.Tm) : 1 ≤ nz t := by cases t <;> (unfold nz; omega)
/-! ### fitting, by functions -/
abbrev Fu := Int → Option PD.Tm
mutual
def fitF : PD.Tm → PD.Tm → Fu → Option Fu
  | .any n, t, f => match f n with
    | none => some fun m => if n = m then some t else f m
    | some u => if u = t then some f else none
  | .of _ _, .any _, _ => none
  | .of x ps, .of y ts, f => if x = y ∧ ps.length = ts.length then fitsF ps ts f else none
def fitsF : List PD.Tm → List PD.Tm → Fu → Option Fu
  | p :: ps, t :: ts, f => match fitF p t f with
    | none => none
    | some g => fitsF ps ts g
  | _, _, f => some f
end
mutual
theorem fit_F : ∀ (p t : PD.Tm) (st : Stf), fitF p t (fOf st) = (fitT p t st).map fOf
  | .any n, t, st => by
    unfold fitF fitT
    cases q : fOf st n with
    | none =>
      show some _ = some _
      congr 1
      funext m
      rw [fOf_snoc st n t m q]
    | some u =>
      by_cases z : u = t
      · simp only [if_pos z]; rfl
      · simp only [if_neg z]; rfl
  | .of _ _, .any _, st => by unfold fitF fitT; rfl
  | .of x ps, .of y ts, st => by
    unfold fitF fitT
    by_cases z : x = y ∧ ps.length = ts.length
    · rw [if_pos z, if_pos z]; exact fits_F ps ts st
    · rw [if_neg z, if_neg z]; rfl
theorem fits_F : ∀ (ps ts : List PD.Tm) (st : Stf), fitsF ps ts (fOf st) = (fits ps ts st).map fOf
  | [], ts, st => by unfold fitsF fits; rfl
  | p :: ps, [], st => by unfold fitsF fits; rfl
  | p :: ps, t :: ts, st => by
    unfold fitsF fits
    rw [fit_F p t st]
    cases fitT p t st with
    | none => rfl
    | some s1 => exact fits_F ps ts s1
end
mutual
theorem fit_dom : ∀ (p t : PD.Tm) (f g : Fu), fitF p t f = some g → ∀ n, (g n).isSome = ((f n).isSome || decide (n ∈ lets p))
  | .any m, t, f, g, h, n => by
    unfold fitF at h
    unfold lets
    cases q : f m with
    | none =>
      rw [q] at h
      cases h
      by_cases z : m = n
      · subst z; simp
      · have : ¬ n = m := fun y => z y.symm
        simp [z, this]
    | some u =>
      rw [q] at h
      by_cases z : u = t
      · simp only [if_pos z] at h; cases h
        by_cases y : n = m
        · subst y; simp [q]
        · simp [y]
      · simp only [if_neg z] at h; cases h
  | .of _ _, .any _, f, g, h, n => by unfold fitF at h; cases h
  | .of x ps, .of y ts, f, g, h, n => by
    unfold fitF at h
    by_cases z : x = y ∧ ps.length = ts.length
    · rw [if_pos z] at h
      rw [fits_dom ps ts z.2 f g h n]
      rw [show lets (.of x ps) = letss ps by unfold lets; rfl]
    · rw [if_neg z] at h; cases h
theorem fits_dom : ∀ (ps ts : List PD.Tm), ps.length = ts.length → ∀ (f g : Fu), fitsF ps ts f = some g → ∀ n, (g n).isSome = ((f n).isSome || decide (n ∈ letss ps))
  | [], ts, _, f, g, h, n => by unfold fitsF at h; cases h; simp [letss]
  | p :: ps, [], hl, f, g, h, n => by cases hl
  | p :: ps, t :: ts, hl, f, g, h, n => by
    unfold fitsF at h
    cases q : fitF p t f with
    | none => rw [q] at h; cases h
    | some g1 =>
      rw [q] at h
      rw [fits_dom ps ts (by simpa using hl) g1 g h n, fit_dom p t f g1 q n, show letss (p :: ps) = lets p ++ letss ps by rfl]
      simp [Bool.or_assoc]
end
def idF (f : Fu) : Prop := ∀ n t, f n = some t → t = .any n
mutual
theorem fit_id : ∀ (p : PD.Tm) (f : Fu), idF f → ∃ g, fitF p p f = some g ∧ idF g
  | .any m, f, h => by
    unfold fitF
    cases q : f m with
    | none =>
      refine ⟨_, rfl, fun n t e => ?_⟩
      by_cases z : m = n
      · simp only [if_pos z] at e; cases e; rw [z]
      · simp only [if_neg z] at e; exact h n t e
    | some u =>
      have := h m u q
      simp only [if_pos this]
      exact ⟨f, rfl, h⟩
  | .of x ps, f, h => by
    unfold fitF
    rw [if_pos ⟨rfl, rfl⟩]
    exact fits_id ps f h
theorem fits_id : ∀ (ps : List PD.Tm) (f : Fu), idF f → ∃ g, fitsF ps ps f = some g ∧ idF g
  | [], f, h => ⟨f, by unfold fitsF; rfl, h⟩
  | p :: ps, f, h => by
    obtain ⟨g, e, hg⟩ := fit_id p f h
    unfold fitsF
    rw [e]
    exact fits_id ps g hg
end
/-! ### literals, claims -/
abbrev Li := Str × PD.Tm × PD.Tm
def liW (l : Li) : W := .tup [.str l.1, l.2.1.w, l.2.2.w]
def clL (c : List Li) : List W := c.map liW
def clW (c : List Li) : W := .tup (clL c)
def fit2 (p l : Li) (b : Bool) (f : Fu) : Option Fu := if l.1 = p.1 then (fitF p.2.1 (if b then l.2.2 else l.2.1) f).bind fun g => fitF p.2.2 (if b then l.2.1 else l.2.2) g else none
def opt (G : Fu → Bool) : Option Fu → Bool
  | none => false
  | some g => G g
def scan (g : Nat → Li → Bool) : Nat → List Li → Bool
  | _, [] => false
  | i, l :: ls => g i l || scan g (i + 1) ls
def embF : List Li → List Li → Fu → Bool
  | [], _, _ => true
  | p :: ps, ls, f => scan (fun k l => opt (embF ps (ls.take k ++ ls.drop (k + 1))) (fit2 p l false f) || opt (embF ps (ls.take k ++ ls.drop (k + 1))) (fit2 p l true f)) 0 ls
theorem scan_true {g : Nat → Li → Bool} : ∀ {ls : List Li} {i : Nat}, scan g i ls = true → ∃ k l, i ≤ k ∧ k < i + ls.length ∧ g k l = true
  | [], i, h => by cases h
  | l :: ls, i, h => by
    unfold scan at h
    rcases Bool.or_eq_true_iff.mp h with h | h
    · exact ⟨i, l, Nat.le_refl _, by simp, h⟩
    · obtain ⟨k, l', h1, h2, h3⟩ := scan_true h
      exact ⟨k, l', by omega, by simp at h2 ⊢; omega, h3⟩
theorem emb_len : ∀ (ps ls : List Li) (f : Fu), embF ps ls f = true → ps.length ≤ ls.length
  | [], ls, f, _ => by simp
  | p :: ps, ls, f, h => by
    unfold embF at h
    obtain ⟨k, l, h1, h2, h3⟩ := scan_true h
    have key : ∀ o : Option Fu, opt (embF ps (ls.take k ++ ls.drop (k + 1))) o = true → ps.length + 1 ≤ ls.length := fun o ho => by
      cases o with
      | none => cases ho
      | some g =>
        have := emb_len ps _ g ho
        simp at this h2
        omega
    rcases Bool.or_eq_true_iff.mp h3 with h | h
    · simpa using key _ h
    · simpa using key _ h
theorem emb_self : ∀ (c : List Li) (f : Fu), idF f → embF c c f = true
  | [], f, _ => by unfold embF; rfl
  | p :: ps, f, h => by
    obtain ⟨g1, e1, h1⟩ := fit_id p.2.1 f h
    obtain ⟨g2, e2, h2⟩ := fit_id p.2.2 g1 h1
    have e : fit2 p p false f = some g2 := by
      unfold fit2
      rw [if_pos rfl]
      show (fitF p.2.1 p.2.1 f).bind (fun g => fitF p.2.2 p.2.2 g) = _
      rw [e1]
      exact e2
    have e3 : embF ps ((p :: ps).take 0 ++ (p :: ps).drop (0 + 1)) g2 = true := emb_self ps g2 h2
    unfold embF scan
    rw [e]
    show (embF ps ((p :: ps).take 0 ++ (p :: ps).drop (0 + 1)) g2 || _ || _) = true
    rw [e3]
    rfl
def sameB (a b : Li) : Bool := decide (a.1 = b.1) && (decide ([a.2.1, a.2.2] = [b.2.1, b.2.2]) || decide ([a.2.1, a.2.2] = [b.2.2, b.2.1]))
def idleL (c : List Li) (l : Li) : Bool := decide (l.1 = "like") && (decide (l.2.1 = l.2.2) || c.any fun m => sameB ("unlike", l.2.1, l.2.2) m)
def idleB (c : List Li) : Bool := c.any (idleL c)
end K29

set_option Elab.async false
set_option linter.all false
set_option maxRecDepth 100000
set_option maxHeartbeats 4000000
namespace K29
open PySem PD
open L2 (atI Key)
def kOf (st : Stf) : List Key := st.map fun e => .inl e.1
def wOf (st : Stf) : List W := st.map fun e => e.2.w
theorem look_of : ∀ (st : Stf) (n : Int), look (kOf st) (wOf st) (.inl n) = (fOf st n).map Tm.w
  | [], n => rfl
  | e :: st, n => by
    show (if (Sum.inl e.1 : Key) = .inl n then some e.2.w else look (kOf st) (wOf st) (.inl n)) = _
    rw [look_of st n, fOf_cons]
    by_cases h : e.1 = n
    · rw [if_pos h, if_pos (by rw [h])]; rfl
    · rw [if_neg h, if_neg (fun z => h (by injection z))]
theorem put_new {st : Stf} {n : Int} {t : PD.Tm} (h : fOf st n = none) : putKW (kOf st) (wOf st) (.inl n) t.w = (kOf (st ++ [(n, t)]), wOf (st ++ [(n, t)])) := by
  rw [putKW_new fun k hk z => ?_]
  · unfold kOf wOf
    rw [List.map_append, List.map_append]
    rfl
  · obtain ⟨e, he, rfl⟩ := List.mem_map.mp hk
    have : e.1 = n := by injection z
    exact fOf_none.mp h (List.mem_map.mpr ⟨e, he, this⟩)
theorem ne_str2 {x y : Str} : cmpW .NotEq (.str x) (.str y) = some (!(x == y)) := rfl
theorem ne_int2 {x y : Int} : cmpW .NotEq (.int x) (.int y) = some (!(x == y)) := rfl
theorem notin_dct {st : Stf} {n : Int} : cmpW .NotIn (.int n) (.dct (kOf st) (wOf st)) = some (!(fOf st n).isSome) := by
  show ((keyOf (.int n)).map fun k => (look (kOf st) (wOf st) k).isSome).map (!·) = _
  show some (!(look (kOf st) (wOf st) (.inl n)).isSome) = _
  rw [look_of]
  cases fOf st n <;> rfl
theorem ix_dct {st : Stf} {n : Int} {u : PD.Tm} (h : fOf st n = some u) : ixW (.dct (kOf st) (wOf st)) (.int n) = some u.w := by
  show look (kOf st) (wOf st) (.inl n) = _
  rw [look_of, h]; rfl
theorem in_dct {st : Stf} {n : Int} : inW (.int n) (.dct (kOf st) (wOf st)) = some (fOf st n).isSome := by
  show (keyOf (.int n)).map (fun k => (look (kOf st) (wOf st) k).isSome) = _
  show some (look (kOf st) (wOf st) (.inl n)).isSome = _
  rw [look_of]
  cases fOf st n <;> rfl
theorem rd_ref {S : Sto} {a : Addr} {ks : List Key} {ws : List W} (h : S a = some (.dct ks ws)) : rd S (.ref a) = .dct ks ws := by
  simp only [rd, h]
mutual
theorem fit_len : ∀ (p t : PD.Tm) (st st' : Stf), fitT p t st = some st' → st'.length ≤ st.length + nz p
  | .any n, t, st, st', h => by
    unfold fitT at h
    cases q : fOf st n with
    | none => rw [q] at h; cases h; rw [List.length_append]; unfold nz; simp
    | some u =>
      rw [q] at h
      by_cases z : u = t
      · simp only [if_pos z] at h; cases h; omega
      · simp only [if_neg z] at h; cases h
  | .of _ _, .any _, st, st', h => by unfold fitT at h; cases h
  | .of x ps, .of y ts, st, st', h => by
    unfold fitT at h
    split at h
    · have := fits_len ps ts st st' h
      unfold nz
      omega
    · cases h
theorem fits_len : ∀ (ps ts : List PD.Tm) (st st' : Stf), fits ps ts st = some st' → st'.length ≤ st.length + nzs ps
  | [], ts, st, st', h => by unfold fits at h; cases h; omega
  | p :: ps, [], st, st', h => by unfold fits at h; cases h; omega
  | p :: ps, t :: ts, st, st', h => by
    unfold fits at h
    cases q : fitT p t st with
    | none => rw [q] at h; cases h
    | some s1 =>
      rw [q] at h
      have h1 := fit_len p t st s1 q
      have h2 := fits_len ps ts s1 st' h
      unfold nzs
      omega
end
mutual
theorem fit_hs {m : Nat} : ∀ (p t : PD.Tm) (st st' : Stf), fitT p t st = some st' → t.h ≤ m → (∀ e ∈ st, e.2.h ≤ m) → ∀ e ∈ st', e.2.h ≤ m
  | .any n, t, st, st', h, ht, hs => by
    unfold fitT at h
    cases q : fOf st n with
    | none =>
      rw [q] at h; cases h
      intro e he
      rcases List.mem_append.mp he with z | z
      · exact hs e z
      · rw [List.mem_singleton.mp z]; exact ht
    | some u =>
      rw [q] at h
      by_cases z : u = t
      · simp only [if_pos z] at h; cases h; exact hs
      · simp only [if_neg z] at h; cases h
  | .of _ _, .any _, st, st', h, _, _ => by unfold fitT at h; cases h
  | .of x ps, .of y ts, st, st', h, ht, hs => by
    unfold fitT at h
    split at h
    · unfold PD.Tm.h at ht
      exact fits_hs ps ts st st' h (by omega) hs
    · cases h
theorem fits_hs {m : Nat} : ∀ (ps ts : List PD.Tm) (st st' : Stf), fits ps ts st = some st' → Tm.hs ts ≤ m → (∀ e ∈ st, e.2.h ≤ m) → ∀ e ∈ st', e.2.h ≤ m
  | [], ts, st, st', h, _, hs => by unfold fits at h; cases h; exact hs
  | p :: ps, [], st, st', h, _, hs => by unfold fits at h; cases h; exact hs
  | p :: ps, t :: ts, st, st', h, ht, hs => by
    unfold fits at h
    have ht' : max t.h (Tm.hs ts) ≤ m := ht
    cases q : fitT p t st with
    | none => rw [q] at h; cases h
    | some s1 =>
      rw [q] at h
      exact fits_hs ps ts s1 st' h (by omega) (fit_hs p t st s1 q (by omega) hs)
end
theorem zip_ws : ∀ (ps ts : List PD.Tm), zipWW (Tm.ws ps) (Tm.ws ts) = (ps.zip ts).map fun e => W.tup [e.1.w, e.2.w]
  | [], ts => rfl
  | p :: ps, [] => rfl
  | p :: ps, t :: ts => by
    have := zip_ws ps ts
    show W.tup [p.w, t.w] :: zipWW (Tm.ws ps) (Tm.ws ts) = _
    rw [this]; rfl
theorem is_ref {a : Addr} {S : Sto} {ks : List Key} {ws : List W} (h : S a = some (.dct ks ws)) : cmpW .Is (rd S (.ref a)) .non = some false := by rw [rd_ref h]; rfl
theorem is_non : cmpW .Is .non .non = some true := rfl
theorem isn_non : cmpW .IsNot .non .non = some false := rfl
theorem isn_ref {a : Addr} {S : Sto} {ks : List Key} {ws : List W} (h : S a = some (.dct ks ws)) : cmpW .IsNot (rd S (.ref a)) .non = some true := by rw [rd_ref h]; rfl
def KeepS (S S' : Sto) : Prop := ∀ c x, S c = some x → S' c = some x
theorem KeepS.rfl {S : Sto} : KeepS S S := fun _ _ h => h
theorem KeepS.trans {S S' S2 : Sto} (a : KeepS S S') (b : KeepS S' S2) : KeepS S S2 := fun c x h => b c x (a c x h)
theorem KeepS.set {S : Sto} {D : Addr} {o : SO} (h : S D = none) : KeepS S (S.set D o) := fun c x hc => by
  rw [Sto.set_ne (by rintro rfl; rw [h] at hc; cases hc)]
  exact hc
def fitAt (m : Nat) : Prop := ∀ {k : Nat} {S : Sto} {Q X : QW} {p t : PD.Tm} {st : Stf} {a : Addr}, p.h ≤ m → t.h ≤ 29 → (∀ e ∈ st, e.2.h ≤ 29) → st.length + nz p ≤ 1000 → S a = some (.dct (kOf st) (wOf st)) →
  (fitT p t st = none → ∀ S', KeepS S S' → Q .non S') → (∀ st' S' b, fitT p t st = some st' → KeepS S S' → S' b = some (.dct (kOf st') (wOf st')) → Q (.ref b) S') → callK T G0 (k + m + 1) "fit_on" [p.w, t.w, .ref a] S Q X
theorem fit_core (m : Nat) (ih0 : ∀ n, m = n + 1 → fitAt n) : fitAt m := by
  intro k S Q X p t st a hp ht hs hz hS hno hyes
  cases m with
  | zero => have := Tm.h_pos p; omega
  | succ n =>
    have ih : fitAt n := ih0 n rfl
    refine o_fit_on ?_
    unfold b_fit_on
    simp only [wSs, wS, wE, wEs, wT, wOT, wI, wO, Lit.w, biW, rs_tup, rs_lst, rs_int, rs_str, rs_bl, rs_non, rs_dct, ix_tup, ix_lst, atI_0, atI_1, atI_2, ex_some, ex_some2, ex_int, ex_bl, tru_bl,
  List.getElem?_cons_zero, List.getElem?_cons_succ, List.set_cons_zero, List.set_cons_succ, eqW_str, eqW_int, eqW_bl, cmp_eq, cmp_lt, cmp_gt, cmp_ge, cmp_le, add_int, sub_int, wipeS, Tg.go, Tg.go.goAll, ex_tup, ex_cons, ex_tl, List.length_cons, List.length_nil, Nat.zero_add, Nat.reduceAdd, Nat.reduceLT, true_and, and_true, sizeLine_eq, Nat.reduceLeDiff, Nat.zero_le, ex_or, ex_or2, items_lst, items_tup, eq_self, un_not, cmp_in, len_lst, rd_w, slc_lst, ty_app, ty_get, mtW, if_true, Bool.false_eq_true, if_false]
    refine s_is_letter (k := k + n) ?_
    cases p with
    | any i =>
      simp only [wSs, wS, wE, wEs, wT, wOT, wI, wO, Lit.w, biW, rs_tup, rs_lst, rs_int, rs_str, rs_bl, rs_non, rs_dct, ix_tup, ix_lst, atI_0, atI_1, atI_2, ex_some, ex_some2, ex_int, ex_bl, tru_bl,
  List.getElem?_cons_zero, List.getElem?_cons_succ, List.set_cons_zero, List.set_cons_succ, eqW_str, eqW_int, eqW_bl, cmp_eq, cmp_lt, cmp_gt, cmp_ge, cmp_le, add_int, sub_int, wipeS, Tg.go, Tg.go.goAll, ex_tup, ex_cons, ex_tl, List.length_cons, List.length_nil, Nat.zero_add, Nat.reduceAdd, Nat.reduceLT, true_and, and_true, sizeLine_eq, Nat.reduceLeDiff, Nat.zero_le, ex_or, ex_or2, items_lst, items_tup, eq_self, un_not, cmp_in, len_lst, rd_w, slc_lst, ty_app, ty_get, mtW, if_true, Bool.false_eq_true, if_false, isAny]
      unfold b_fit_on_5
      simp only [wSs, wS, wE, wEs, wT, wOT, wI, wO, Lit.w, biW, rs_tup, rs_lst, rs_int, rs_str, rs_bl, rs_non, rs_dct, ix_tup, ix_lst, atI_0, atI_1, atI_2, ex_some, ex_some2, ex_int, ex_bl, tru_bl,
  List.getElem?_cons_zero, List.getElem?_cons_succ, List.set_cons_zero, List.set_cons_succ, eqW_str, eqW_int, eqW_bl, cmp_eq, cmp_lt, cmp_gt, cmp_ge, cmp_le, add_int, sub_int, wipeS, Tg.go, Tg.go.goAll, ex_tup, ex_cons, ex_tl, List.length_cons, List.length_nil, Nat.zero_add, Nat.reduceAdd, Nat.reduceLT, true_and, and_true, sizeLine_eq, Nat.reduceLeDiff, Nat.zero_le, ex_or, ex_or2, items_lst, items_tup, eq_self, un_not, cmp_in, len_lst, rd_w, slc_lst, ty_app, ty_get, mtW, if_true, Bool.false_eq_true, if_false, w_any, rd_ref hS, notin_dct]
      cases q : fOf st i with
      | none =>
        rw [if_pos (show (!(none : Option PD.Tm).isSome) = true from rfl)]
        unfold b_fit_on_4
        simp only [wSs, wS, wE, wEs, wT, wOT, wI, wO, Lit.w, biW, rs_tup, rs_lst, rs_int, rs_str, rs_bl, rs_non, rs_dct, ix_tup, ix_lst, atI_0, atI_1, atI_2, ex_some, ex_some2, ex_int, ex_bl, tru_bl,
  List.getElem?_cons_zero, List.getElem?_cons_succ, List.set_cons_zero, List.set_cons_succ, eqW_str, eqW_int, eqW_bl, cmp_eq, cmp_lt, cmp_gt, cmp_ge, cmp_le, add_int, sub_int, wipeS, Tg.go, Tg.go.goAll, ex_tup, ex_cons, ex_tl, List.length_cons, List.length_nil, Nat.zero_add, Nat.reduceAdd, Nat.reduceLT, true_and, and_true, sizeLine_eq, Nat.reduceLeDiff, Nat.zero_le, ex_or, ex_or2, items_lst, items_tup, eq_self, un_not, cmp_in, len_lst, rd_w, slc_lst, ty_app, ty_get, mtW, if_true, Bool.false_eq_true, if_false]
        refine ⟨_, _, .inl (rd_ref hS), fun D hD => ?_⟩
        refine setW_d (Sto.set_same) (by unfold kOf; rw [List.length_map]; have := nz_pos (.any i); omega) ?_
        rw [put_new q, Sto.set_set]
        exact hyes _ _ D (by unfold fitT; rw [q]) (KeepS.set hD) Sto.set_same
      | some u =>
        have hu : u.h ≤ 29 := hs _ (fOf_mem q)
        rw [if_neg (show ¬ (!(some u : Option PD.Tm).isSome) = true from Bool.false_ne_true)]
        simp only [wSs, wS, wE, wEs, wT, wOT, wI, wO, Lit.w, biW, rs_tup, rs_lst, rs_int, rs_str, rs_bl, rs_non, rs_dct, ix_tup, ix_lst, atI_0, atI_1, atI_2, ex_some, ex_some2, ex_int, ex_bl, tru_bl,
  List.getElem?_cons_zero, List.getElem?_cons_succ, List.set_cons_zero, List.set_cons_succ, eqW_str, eqW_int, eqW_bl, cmp_eq, cmp_lt, cmp_gt, cmp_ge, cmp_le, add_int, sub_int, wipeS, Tg.go, Tg.go.goAll, ex_tup, ex_cons, ex_tl, List.length_cons, List.length_nil, Nat.zero_add, Nat.reduceAdd, Nat.reduceLT, true_and, and_true, sizeLine_eq, Nat.reduceLeDiff, Nat.zero_le, ex_or, ex_or2, items_lst, items_tup, eq_self, un_not, cmp_in, len_lst, rd_w, slc_lst, ty_app, ty_get, mtW, if_true, Bool.false_eq_true, if_false, rd_ref hS, ix_dct q, eqW_tm hu ht]
        by_cases z : u = t
        · rw [decide_eq_true z]
          exact hyes st S a (by unfold fitT; rw [q]; simp only [if_pos z]) KeepS.rfl hS
        · rw [decide_eq_false z]
          exact hno (by unfold fitT; rw [q]; simp only [if_neg z]) S KeepS.rfl
    | of x ps =>
      simp only [wSs, wS, wE, wEs, wT, wOT, wI, wO, Lit.w, biW, rs_tup, rs_lst, rs_int, rs_str, rs_bl, rs_non, rs_dct, ix_tup, ix_lst, atI_0, atI_1, atI_2, ex_some, ex_some2, ex_int, ex_bl, tru_bl,
  List.getElem?_cons_zero, List.getElem?_cons_succ, List.set_cons_zero, List.set_cons_succ, eqW_str, eqW_int, eqW_bl, cmp_eq, cmp_lt, cmp_gt, cmp_ge, cmp_le, add_int, sub_int, wipeS, Tg.go, Tg.go.goAll, ex_tup, ex_cons, ex_tl, List.length_cons, List.length_nil, Nat.zero_add, Nat.reduceAdd, Nat.reduceLT, true_and, and_true, sizeLine_eq, Nat.reduceLeDiff, Nat.zero_le, ex_or, ex_or2, items_lst, items_tup, eq_self, un_not, cmp_in, len_lst, rd_w, slc_lst, ty_app, ty_get, mtW, if_true, Bool.false_eq_true, if_false, isAny]
      refine s_is_letter (k := k + n) ?_
      cases t with
      | any j =>
        simp only [wSs, wS, wE, wEs, wT, wOT, wI, wO, Lit.w, biW, rs_tup, rs_lst, rs_int, rs_str, rs_bl, rs_non, rs_dct, ix_tup, ix_lst, atI_0, atI_1, atI_2, ex_some, ex_some2, ex_int, ex_bl, tru_bl,
  List.getElem?_cons_zero, List.getElem?_cons_succ, List.set_cons_zero, List.set_cons_succ, eqW_str, eqW_int, eqW_bl, cmp_eq, cmp_lt, cmp_gt, cmp_ge, cmp_le, add_int, sub_int, wipeS, Tg.go, Tg.go.goAll, ex_tup, ex_cons, ex_tl, List.length_cons, List.length_nil, Nat.zero_add, Nat.reduceAdd, Nat.reduceLT, true_and, and_true, sizeLine_eq, Nat.reduceLeDiff, Nat.zero_le, ex_or, ex_or2, items_lst, items_tup, eq_self, un_not, cmp_in, len_lst, rd_w, slc_lst, ty_app, ty_get, mtW, if_true, Bool.false_eq_true, if_false, isAny]
        unfold b_fit_on_3
        simp only [wSs, wS, wE, wEs, wT, wOT, wI, wO, Lit.w, biW, rs_tup, rs_lst, rs_int, rs_str, rs_bl, rs_non, rs_dct, ix_tup, ix_lst, atI_0, atI_1, atI_2, ex_some, ex_some2, ex_int, ex_bl, tru_bl,
  List.getElem?_cons_zero, List.getElem?_cons_succ, List.set_cons_zero, List.set_cons_succ, eqW_str, eqW_int, eqW_bl, cmp_eq, cmp_lt, cmp_gt, cmp_ge, cmp_le, add_int, sub_int, wipeS, Tg.go, Tg.go.goAll, ex_tup, ex_cons, ex_tl, List.length_cons, List.length_nil, Nat.zero_add, Nat.reduceAdd, Nat.reduceLT, true_and, and_true, sizeLine_eq, Nat.reduceLeDiff, Nat.zero_le, ex_or, ex_or2, items_lst, items_tup, eq_self, un_not, cmp_in, len_lst, rd_w, slc_lst, ty_app, ty_get, mtW, if_true, Bool.false_eq_true, if_false]
        exact hno (by unfold fitT; rfl) S KeepS.rfl
      | of y ts =>
        simp only [wSs, wS, wE, wEs, wT, wOT, wI, wO, Lit.w, biW, rs_tup, rs_lst, rs_int, rs_str, rs_bl, rs_non, rs_dct, ix_tup, ix_lst, atI_0, atI_1, atI_2, ex_some, ex_some2, ex_int, ex_bl, tru_bl,
  List.getElem?_cons_zero, List.getElem?_cons_succ, List.set_cons_zero, List.set_cons_succ, eqW_str, eqW_int, eqW_bl, cmp_eq, cmp_lt, cmp_gt, cmp_ge, cmp_le, add_int, sub_int, wipeS, Tg.go, Tg.go.goAll, ex_tup, ex_cons, ex_tl, List.length_cons, List.length_nil, Nat.zero_add, Nat.reduceAdd, Nat.reduceLT, true_and, and_true, sizeLine_eq, Nat.reduceLeDiff, Nat.zero_le, ex_or, ex_or2, items_lst, items_tup, eq_self, un_not, cmp_in, len_lst, rd_w, slc_lst, ty_app, ty_get, mtW, if_true, Bool.false_eq_true, if_false, isAny, w_of, ne_str2, len_tup, len_ws, ne_int2]
        by_cases xy : x = y
        · by_cases hl : ps.length = ts.length
          · have e1 : (!(x == y)) = false := by simp [xy]
            have e2 : (!((ps.length : Int) == (ts.length : Int))) = false := by simp [hl]
            rw [if_neg (show ¬ (!(x == y)) = true by rw [e1]; exact Bool.false_ne_true), if_neg (show ¬ (!((ps.length : Int) == (ts.length : Int))) = true by rw [e2]; exact Bool.false_ne_true)]
            unfold PD.Tm.h at hp ht
            have hf : ∀ st, fitT (.of x ps) (.of y ts) st = fits ps ts st := fun st => by
              show (if x = y ∧ ps.length = ts.length then fits ps ts st else none) = _
              exact if_pos ⟨xy, hl⟩
            rw [hf] at hno hyes
            refine ⟨_, _, .inr ⟨rfl, rfl⟩, ?_⟩
            rw [zip_ws]
            have nn : nz (.of x ps) = 1 + nzs ps := rfl
            refine loopF_ind (fun xs σ S' => KeepS S S' ∧ ∃ us vs su b y4 y5, xs = (us.zip vs).map (fun e => W.tup [e.1.w, e.2.w]) ∧ us.length = vs.length ∧ Tm.hs us ≤ n ∧ Tm.hs vs ≤ 28 ∧ (∀ e ∈ su, e.2.h ≤ 29) ∧ su.length + nzs us ≤ 1000 ∧ S' b = some (.dct (kOf su) (wOf su)) ∧ fits us vs su = fits ps ts st ∧
              σ = [some (.tup [.str "of", .str x, .tup (Tm.ws ps)]), some (.tup [.str "of", .str y, .tup (Tm.ws ts)]), some (.ref b), none, y4, y5]) ?_ ?_ _ _ _ ?_
            · rintro σ S' ⟨kp, us, vs, su, b, y4, y5, e1, e2, _, _, _, _, hb, hfs, rfl⟩
              have : us = [] := by
                cases us with
                | nil => rfl
                | cons u us => cases vs with
                  | nil => cases e2
                  | cons v vs => cases e1
              subst this
              simp only [wSs, wS, wE, wEs, wT, wOT, wI, wO, Lit.w, biW, rs_tup, rs_lst, rs_int, rs_str, rs_bl, rs_non, rs_dct, ix_tup, ix_lst, atI_0, atI_1, atI_2, ex_some, ex_some2, ex_int, ex_bl, tru_bl,
  List.getElem?_cons_zero, List.getElem?_cons_succ, List.set_cons_zero, List.set_cons_succ, eqW_str, eqW_int, eqW_bl, cmp_eq, cmp_lt, cmp_gt, cmp_ge, cmp_le, add_int, sub_int, wipeS, Tg.go, Tg.go.goAll, ex_tup, ex_cons, ex_tl, List.length_cons, List.length_nil, Nat.zero_add, Nat.reduceAdd, Nat.reduceLT, true_and, and_true, sizeLine_eq, Nat.reduceLeDiff, Nat.zero_le, ex_or, ex_or2, items_lst, items_tup, eq_self, un_not, cmp_in, len_lst, rd_w, slc_lst, ty_app, ty_get, mtW, if_true, Bool.false_eq_true, if_false]
              exact hyes su S' b (by rw [← hfs]; unfold fits; rfl) kp hb
            · rintro x' xs σ S' N ⟨kp, us, vs, su, b, y4, y5, e1, e2, h1, h2, h3, h4, hb, hfs, rfl⟩ hN
              cases us with
              | nil => cases e1
              | cons u us =>
                cases vs with
                | nil => cases e2
                | cons v vs =>
                  obtain ⟨rfl, rfl⟩ := List.cons.inj e1
                  have h1' : max u.h (Tm.hs us) ≤ n := h1
                  have h2' : max v.h (Tm.hs vs) ≤ 28 := h2
                  have h4' : su.length + (nz u + nzs us) ≤ 1000 := h4
                  unfold b_fit_on_2
                  simp only [wSs, wS, wE, wEs, wT, wOT, wI, wO, Lit.w, biW, rs_tup, rs_lst, rs_int, rs_str, rs_bl, rs_non, rs_dct, ix_tup, ix_lst, atI_0, atI_1, atI_2, ex_some, ex_some2, ex_int, ex_bl, tru_bl,
  List.getElem?_cons_zero, List.getElem?_cons_succ, List.set_cons_zero, List.set_cons_succ, eqW_str, eqW_int, eqW_bl, cmp_eq, cmp_lt, cmp_gt, cmp_ge, cmp_le, add_int, sub_int, wipeS, Tg.go, Tg.go.goAll, ex_tup, ex_cons, ex_tl, List.length_cons, List.length_nil, Nat.zero_add, Nat.reduceAdd, Nat.reduceLT, true_and, and_true, sizeLine_eq, Nat.reduceLeDiff, Nat.zero_le, ex_or, ex_or2, items_lst, items_tup, eq_self, un_not, cmp_in, len_lst, rd_w, slc_lst, ty_app, ty_get, mtW, if_true, Bool.false_eq_true, if_false]
                  refine ih (k := k) (by omega) (by omega) h3 (by omega) hb (fun q S2 kp2 => ?_) fun s1 S2 b2 q kp2 hb2 => ?_
                  · simp only [wSs, wS, wE, wEs, wT, wOT, wI, wO, Lit.w, biW, rs_tup, rs_lst, rs_int, rs_str, rs_bl, rs_non, rs_dct, ix_tup, ix_lst, atI_0, atI_1, atI_2, ex_some, ex_some2, ex_int, ex_bl, tru_bl,
  List.getElem?_cons_zero, List.getElem?_cons_succ, List.set_cons_zero, List.set_cons_succ, eqW_str, eqW_int, eqW_bl, cmp_eq, cmp_lt, cmp_gt, cmp_ge, cmp_le, add_int, sub_int, wipeS, Tg.go, Tg.go.goAll, ex_tup, ex_cons, ex_tl, List.length_cons, List.length_nil, Nat.zero_add, Nat.reduceAdd, Nat.reduceLT, true_and, and_true, sizeLine_eq, Nat.reduceLeDiff, Nat.zero_le, ex_or, ex_or2, items_lst, items_tup, eq_self, un_not, cmp_in, len_lst, rd_w, slc_lst, ty_app, ty_get, mtW, if_true, Bool.false_eq_true, if_false, is_non]
                    unfold b_fit_on_1
                    simp only [wSs, wS, wE, wEs, wT, wOT, wI, wO, Lit.w, biW, rs_tup, rs_lst, rs_int, rs_str, rs_bl, rs_non, rs_dct, ix_tup, ix_lst, atI_0, atI_1, atI_2, ex_some, ex_some2, ex_int, ex_bl, tru_bl,
  List.getElem?_cons_zero, List.getElem?_cons_succ, List.set_cons_zero, List.set_cons_succ, eqW_str, eqW_int, eqW_bl, cmp_eq, cmp_lt, cmp_gt, cmp_ge, cmp_le, add_int, sub_int, wipeS, Tg.go, Tg.go.goAll, ex_tup, ex_cons, ex_tl, List.length_cons, List.length_nil, Nat.zero_add, Nat.reduceAdd, Nat.reduceLT, true_and, and_true, sizeLine_eq, Nat.reduceLeDiff, Nat.zero_le, ex_or, ex_or2, items_lst, items_tup, eq_self, un_not, cmp_in, len_lst, rd_w, slc_lst, ty_app, ty_get, mtW, if_true, Bool.false_eq_true, if_false]
                    refine hno ?_ S2 (kp.trans kp2)
                    rw [← hfs]
                    unfold fits
                    rw [q]
                  · simp only [wSs, wS, wE, wEs, wT, wOT, wI, wO, Lit.w, biW, rs_tup, rs_lst, rs_int, rs_str, rs_bl, rs_non, rs_dct, ix_tup, ix_lst, atI_0, atI_1, atI_2, ex_some, ex_some2, ex_int, ex_bl, tru_bl,
  List.getElem?_cons_zero, List.getElem?_cons_succ, List.set_cons_zero, List.set_cons_succ, eqW_str, eqW_int, eqW_bl, cmp_eq, cmp_lt, cmp_gt, cmp_ge, cmp_le, add_int, sub_int, wipeS, Tg.go, Tg.go.goAll, ex_tup, ex_cons, ex_tl, List.length_cons, List.length_nil, Nat.zero_add, Nat.reduceAdd, Nat.reduceLT, true_and, and_true, sizeLine_eq, Nat.reduceLeDiff, Nat.zero_le, ex_or, ex_or2, items_lst, items_tup, eq_self, un_not, cmp_in, len_lst, rd_w, slc_lst, ty_app, ty_get, mtW, if_true, Bool.false_eq_true, if_false, is_ref hb2]
                    have e5 := fit_len u v su s1 q
                    exact hN _ _ ⟨kp.trans kp2, us, vs, s1, b2, _, _, rfl, by simpa using e2, by omega, by omega, fit_hs u v su s1 q (by omega) h3, by omega, hb2, by rw [← hfs]; conv => rhs; unfold fits; rw [q], rfl⟩
            · exact ⟨KeepS.rfl, ps, ts, st, a, _, _, rfl, hl, by omega, by omega, hs, by omega, hS, rfl, rfl⟩
          · have e1 : (!(x == y)) = false := by simp [xy]
            have e2 : (!((ps.length : Int) == (ts.length : Int))) = true := by
              have : ¬ (ps.length : Int) = (ts.length : Int) := by omega
              simp [this]
            rw [if_neg (show ¬ (!(x == y)) = true by rw [e1]; exact Bool.false_ne_true), if_pos e2]
            unfold b_fit_on_3
            simp only [wSs, wS, wE, wEs, wT, wOT, wI, wO, Lit.w, biW, rs_tup, rs_lst, rs_int, rs_str, rs_bl, rs_non, rs_dct, ix_tup, ix_lst, atI_0, atI_1, atI_2, ex_some, ex_some2, ex_int, ex_bl, tru_bl,
  List.getElem?_cons_zero, List.getElem?_cons_succ, List.set_cons_zero, List.set_cons_succ, eqW_str, eqW_int, eqW_bl, cmp_eq, cmp_lt, cmp_gt, cmp_ge, cmp_le, add_int, sub_int, wipeS, Tg.go, Tg.go.goAll, ex_tup, ex_cons, ex_tl, List.length_cons, List.length_nil, Nat.zero_add, Nat.reduceAdd, Nat.reduceLT, true_and, and_true, sizeLine_eq, Nat.reduceLeDiff, Nat.zero_le, ex_or, ex_or2, items_lst, items_tup, eq_self, un_not, cmp_in, len_lst, rd_w, slc_lst, ty_app, ty_get, mtW, if_true, Bool.false_eq_true, if_false]
            refine hno ?_ S KeepS.rfl
            show (if x = y ∧ ps.length = ts.length then fits ps ts st else none) = none
            exact if_neg fun q => hl q.2
        · have e1 : (!(x == y)) = true := by simp [xy]
          rw [if_pos e1]
          unfold b_fit_on_3
          simp only [wSs, wS, wE, wEs, wT, wOT, wI, wO, Lit.w, biW, rs_tup, rs_lst, rs_int, rs_str, rs_bl, rs_non, rs_dct, ix_tup, ix_lst, atI_0, atI_1, atI_2, ex_some, ex_some2, ex_int, ex_bl, tru_bl,
  List.getElem?_cons_zero, List.getElem?_cons_succ, List.set_cons_zero, List.set_cons_succ, eqW_str, eqW_int, eqW_bl, cmp_eq, cmp_lt, cmp_gt, cmp_ge, cmp_le, add_int, sub_int, wipeS, Tg.go, Tg.go.goAll, ex_tup, ex_cons, ex_tl, List.length_cons, List.length_nil, Nat.zero_add, Nat.reduceAdd, Nat.reduceLT, true_and, and_true, sizeLine_eq, Nat.reduceLeDiff, Nat.zero_le, ex_or, ex_or2, items_lst, items_tup, eq_self, un_not, cmp_in, len_lst, rd_w, slc_lst, ty_app, ty_get, mtW, if_true, Bool.false_eq_true, if_false]
          refine hno ?_ S KeepS.rfl
          show (if x = y ∧ ps.length = ts.length then fits ps ts st else none) = none
          exact if_neg fun q => xy q.1
theorem s_fit_on : ∀ m : Nat, fitAt m
  | 0 => fit_core 0 fun _ e => nomatch e
  | m + 1 => fit_core (m + 1) fun n e => by cases e; exact s_fit_on m
def lfitAt (m : Nat) : Prop := ∀ {k : Nat} {S : Sto} {Q X : QW} {p t : PD.Tm} {st : Stf} {a : Addr}, p.h ≤ m → t.h ≤ 29 → (∀ e ∈ st, e.2.h ≤ 29) → st.length + nz p ≤ 1000 → S a = some (.dct (kOf st) (wOf st)) →
  (fitT p t st = none → ∀ S', KeepS S S' → Q .non S') → (∀ st' S' b, fitT p t st = some st' → KeepS S S' → S' b = some (.dct (kOf st') (wOf st')) → Q (.ref b) S') → callK T G0 (k + m) "_law_fit_on" [p.w, t.w, .ref a] S Q X
theorem lfit_core (m : Nat) (ih0 : ∀ n, m = n + 1 → lfitAt n) : lfitAt m := by
  intro k S Q X p t st a hp ht hs hz hS hno hyes
  cases m with
  | zero => have := Tm.h_pos p; omega
  | succ n =>
    have ih : lfitAt n := ih0 n rfl
    refine o__law_fit_on ?_
    unfold b__law_fit_on
    cases p with
    | any i =>
      simp only [wSs, wS, wE, wEs, wT, wOT, wI, wO, Lit.w, biW, rs_tup, rs_lst, rs_int, rs_str, rs_bl, rs_non, rs_dct, ix_tup, ix_lst, atI_0, atI_1, atI_2, ex_some, ex_some2, ex_int, ex_bl, tru_bl,
  List.getElem?_cons_zero, List.getElem?_cons_succ, List.set_cons_zero, List.set_cons_succ, eqW_str, eqW_int, eqW_bl, cmp_eq, cmp_lt, cmp_gt, cmp_ge, cmp_le, add_int, sub_int, wipeS, Tg.go, Tg.go.goAll, ex_tup, ex_cons, ex_tl, List.length_cons, List.length_nil, Nat.zero_add, Nat.reduceAdd, Nat.reduceLT, true_and, and_true, sizeLine_eq, Nat.reduceLeDiff, Nat.zero_le, ex_or, ex_or2, items_lst, items_tup, eq_self, un_not, cmp_in, len_lst, rd_w, slc_lst, ty_app, ty_get, mtW, if_true, Bool.false_eq_true, if_false, w_any, any_any]
      unfold b__law_fit_on_5
      simp only [wSs, wS, wE, wEs, wT, wOT, wI, wO, Lit.w, biW, rs_tup, rs_lst, rs_int, rs_str, rs_bl, rs_non, rs_dct, ix_tup, ix_lst, atI_0, atI_1, atI_2, ex_some, ex_some2, ex_int, ex_bl, tru_bl,
  List.getElem?_cons_zero, List.getElem?_cons_succ, List.set_cons_zero, List.set_cons_succ, eqW_str, eqW_int, eqW_bl, cmp_eq, cmp_lt, cmp_gt, cmp_ge, cmp_le, add_int, sub_int, wipeS, Tg.go, Tg.go.goAll, ex_tup, ex_cons, ex_tl, List.length_cons, List.length_nil, Nat.zero_add, Nat.reduceAdd, Nat.reduceLT, true_and, and_true, sizeLine_eq, Nat.reduceLeDiff, Nat.zero_le, ex_or, ex_or2, items_lst, items_tup, eq_self, un_not, cmp_in, len_lst, rd_w, slc_lst, ty_app, ty_get, mtW, if_true, Bool.false_eq_true, if_false, rd_ref hS, in_dct]
      cases q : fOf st i with
      | none =>
        rw [if_neg (show ¬ (none : Option PD.Tm).isSome = true from Bool.false_ne_true)]
        refine ⟨_, _, .inl rfl, fun D hD => ?_⟩
        refine setW_d (Sto.set_same) (by unfold kOf; rw [List.length_map]; have := nz_pos (.any i); omega) ?_
        rw [put_new q, Sto.set_set]
        exact hyes _ _ D (by unfold fitT; rw [q]) (KeepS.set hD) Sto.set_same
      | some u =>
        have hu : u.h ≤ 29 := hs _ (fOf_mem q)
        rw [if_pos (show (some u : Option PD.Tm).isSome = true from rfl)]
        unfold b__law_fit_on_4
        simp only [wSs, wS, wE, wEs, wT, wOT, wI, wO, Lit.w, biW, rs_tup, rs_lst, rs_int, rs_str, rs_bl, rs_non, rs_dct, ix_tup, ix_lst, atI_0, atI_1, atI_2, ex_some, ex_some2, ex_int, ex_bl, tru_bl,
  List.getElem?_cons_zero, List.getElem?_cons_succ, List.set_cons_zero, List.set_cons_succ, eqW_str, eqW_int, eqW_bl, cmp_eq, cmp_lt, cmp_gt, cmp_ge, cmp_le, add_int, sub_int, wipeS, Tg.go, Tg.go.goAll, ex_tup, ex_cons, ex_tl, List.length_cons, List.length_nil, Nat.zero_add, Nat.reduceAdd, Nat.reduceLT, true_and, and_true, sizeLine_eq, Nat.reduceLeDiff, Nat.zero_le, ex_or, ex_or2, items_lst, items_tup, eq_self, un_not, cmp_in, len_lst, rd_w, slc_lst, ty_app, ty_get, mtW, if_true, Bool.false_eq_true, if_false, rd_ref hS, ix_dct q, eqW_tm hu ht]
        by_cases z : u = t
        · rw [decide_eq_true z]
          exact hyes st S a (by unfold fitT; rw [q]; simp only [if_pos z]) KeepS.rfl hS
        · rw [decide_eq_false z]
          exact hno (by unfold fitT; rw [q]; simp only [if_neg z]) S KeepS.rfl
    | of x ps =>
      cases t with
      | any j =>
        simp only [wSs, wS, wE, wEs, wT, wOT, wI, wO, Lit.w, biW, rs_tup, rs_lst, rs_int, rs_str, rs_bl, rs_non, rs_dct, ix_tup, ix_lst, atI_0, atI_1, atI_2, ex_some, ex_some2, ex_int, ex_bl, tru_bl,
  List.getElem?_cons_zero, List.getElem?_cons_succ, List.set_cons_zero, List.set_cons_succ, eqW_str, eqW_int, eqW_bl, cmp_eq, cmp_lt, cmp_gt, cmp_ge, cmp_le, add_int, sub_int, wipeS, Tg.go, Tg.go.goAll, ex_tup, ex_cons, ex_tl, List.length_cons, List.length_nil, Nat.zero_add, Nat.reduceAdd, Nat.reduceLT, true_and, and_true, sizeLine_eq, Nat.reduceLeDiff, Nat.zero_le, ex_or, ex_or2, items_lst, items_tup, eq_self, un_not, cmp_in, len_lst, rd_w, slc_lst, ty_app, ty_get, mtW, if_true, Bool.false_eq_true, if_false, w_of, of_any, w_any, any_any]
        unfold b__law_fit_on_3
        simp only [wSs, wS, wE, wEs, wT, wOT, wI, wO, Lit.w, biW, rs_tup, rs_lst, rs_int, rs_str, rs_bl, rs_non, rs_dct, ix_tup, ix_lst, atI_0, atI_1, atI_2, ex_some, ex_some2, ex_int, ex_bl, tru_bl,
  List.getElem?_cons_zero, List.getElem?_cons_succ, List.set_cons_zero, List.set_cons_succ, eqW_str, eqW_int, eqW_bl, cmp_eq, cmp_lt, cmp_gt, cmp_ge, cmp_le, add_int, sub_int, wipeS, Tg.go, Tg.go.goAll, ex_tup, ex_cons, ex_tl, List.length_cons, List.length_nil, Nat.zero_add, Nat.reduceAdd, Nat.reduceLT, true_and, and_true, sizeLine_eq, Nat.reduceLeDiff, Nat.zero_le, ex_or, ex_or2, items_lst, items_tup, eq_self, un_not, cmp_in, len_lst, rd_w, slc_lst, ty_app, ty_get, mtW, if_true, Bool.false_eq_true, if_false]
        exact hno (by unfold fitT; rfl) S KeepS.rfl
      | of y ts =>
        simp only [wSs, wS, wE, wEs, wT, wOT, wI, wO, Lit.w, biW, rs_tup, rs_lst, rs_int, rs_str, rs_bl, rs_non, rs_dct, ix_tup, ix_lst, atI_0, atI_1, atI_2, ex_some, ex_some2, ex_int, ex_bl, tru_bl,
  List.getElem?_cons_zero, List.getElem?_cons_succ, List.set_cons_zero, List.set_cons_succ, eqW_str, eqW_int, eqW_bl, cmp_eq, cmp_lt, cmp_gt, cmp_ge, cmp_le, add_int, sub_int, wipeS, Tg.go, Tg.go.goAll, ex_tup, ex_cons, ex_tl, List.length_cons, List.length_nil, Nat.zero_add, Nat.reduceAdd, Nat.reduceLT, true_and, and_true, sizeLine_eq, Nat.reduceLeDiff, Nat.zero_le, ex_or, ex_or2, items_lst, items_tup, eq_self, un_not, cmp_in, len_lst, rd_w, slc_lst, ty_app, ty_get, mtW, if_true, Bool.false_eq_true, if_false, w_of, of_any, ne_str2, len_tup, len_ws, ne_int2]
        by_cases xy : x = y
        · by_cases hl : ps.length = ts.length
          · have e1 : (!(x == y)) = false := by simp [xy]
            have e2 : (!((ps.length : Int) == (ts.length : Int))) = false := by simp [hl]
            rw [if_neg (show ¬ (!(x == y)) = true by rw [e1]; exact Bool.false_ne_true), if_neg (show ¬ (!((ps.length : Int) == (ts.length : Int))) = true by rw [e2]; exact Bool.false_ne_true)]
            unfold PD.Tm.h at hp ht
            have hf : ∀ st, fitT (.of x ps) (.of y ts) st = fits ps ts st := fun st => by
              show (if x = y ∧ ps.length = ts.length then fits ps ts st else none) = _
              exact if_pos ⟨xy, hl⟩
            rw [hf] at hno hyes
            refine ⟨_, _, .inr ⟨rfl, rfl⟩, ?_⟩
            rw [zip_ws]
            have nn : nz (.of x ps) = 1 + nzs ps := rfl
            refine loopF_ind (fun xs σ S' => KeepS S S' ∧ ∃ us vs su b y4 y5, xs = (us.zip vs).map (fun e => W.tup [e.1.w, e.2.w]) ∧ us.length = vs.length ∧ Tm.hs us ≤ n ∧ Tm.hs vs ≤ 28 ∧ (∀ e ∈ su, e.2.h ≤ 29) ∧ su.length + nzs us ≤ 1000 ∧ S' b = some (.dct (kOf su) (wOf su)) ∧ fits us vs su = fits ps ts st ∧
              σ = [some (.tup [.str "of", .str x, .tup (Tm.ws ps)]), some (.tup [.str "of", .str y, .tup (Tm.ws ts)]), some (.ref b), y4, y5]) ?_ ?_ _ _ _ ?_
            · rintro σ S' ⟨kp, us, vs, su, b, y4, y5, e1, e2, _, _, _, _, hb, hfs, rfl⟩
              have : us = [] := by
                cases us with
                | nil => rfl
                | cons u us => cases vs with
                  | nil => cases e2
                  | cons v vs => cases e1
              subst this
              simp only [wSs, wS, wE, wEs, wT, wOT, wI, wO, Lit.w, biW, rs_tup, rs_lst, rs_int, rs_str, rs_bl, rs_non, rs_dct, ix_tup, ix_lst, atI_0, atI_1, atI_2, ex_some, ex_some2, ex_int, ex_bl, tru_bl,
  List.getElem?_cons_zero, List.getElem?_cons_succ, List.set_cons_zero, List.set_cons_succ, eqW_str, eqW_int, eqW_bl, cmp_eq, cmp_lt, cmp_gt, cmp_ge, cmp_le, add_int, sub_int, wipeS, Tg.go, Tg.go.goAll, ex_tup, ex_cons, ex_tl, List.length_cons, List.length_nil, Nat.zero_add, Nat.reduceAdd, Nat.reduceLT, true_and, and_true, sizeLine_eq, Nat.reduceLeDiff, Nat.zero_le, ex_or, ex_or2, items_lst, items_tup, eq_self, un_not, cmp_in, len_lst, rd_w, slc_lst, ty_app, ty_get, mtW, if_true, Bool.false_eq_true, if_false]
              exact hyes su S' b (by rw [← hfs]; unfold fits; rfl) kp hb
            · rintro x' xs σ S' N ⟨kp, us, vs, su, b, y4, y5, e1, e2, h1, h2, h3, h4, hb, hfs, rfl⟩ hN
              cases us with
              | nil => cases e1
              | cons u us =>
                cases vs with
                | nil => cases e2
                | cons v vs =>
                  obtain ⟨rfl, rfl⟩ := List.cons.inj e1
                  have h1' : max u.h (Tm.hs us) ≤ n := h1
                  have h2' : max v.h (Tm.hs vs) ≤ 28 := h2
                  have h4' : su.length + (nz u + nzs us) ≤ 1000 := h4
                  unfold b__law_fit_on_2
                  simp only [wSs, wS, wE, wEs, wT, wOT, wI, wO, Lit.w, biW, rs_tup, rs_lst, rs_int, rs_str, rs_bl, rs_non, rs_dct, ix_tup, ix_lst, atI_0, atI_1, atI_2, ex_some, ex_some2, ex_int, ex_bl, tru_bl,
  List.getElem?_cons_zero, List.getElem?_cons_succ, List.set_cons_zero, List.set_cons_succ, eqW_str, eqW_int, eqW_bl, cmp_eq, cmp_lt, cmp_gt, cmp_ge, cmp_le, add_int, sub_int, wipeS, Tg.go, Tg.go.goAll, ex_tup, ex_cons, ex_tl, List.length_cons, List.length_nil, Nat.zero_add, Nat.reduceAdd, Nat.reduceLT, true_and, and_true, sizeLine_eq, Nat.reduceLeDiff, Nat.zero_le, ex_or, ex_or2, items_lst, items_tup, eq_self, un_not, cmp_in, len_lst, rd_w, slc_lst, ty_app, ty_get, mtW, if_true, Bool.false_eq_true, if_false]
                  refine ih (k := k) (by omega) (by omega) h3 (by omega) hb (fun q S2 kp2 => ?_) fun s1 S2 b2 q kp2 hb2 => ?_
                  · simp only [wSs, wS, wE, wEs, wT, wOT, wI, wO, Lit.w, biW, rs_tup, rs_lst, rs_int, rs_str, rs_bl, rs_non, rs_dct, ix_tup, ix_lst, atI_0, atI_1, atI_2, ex_some, ex_some2, ex_int, ex_bl, tru_bl,
  List.getElem?_cons_zero, List.getElem?_cons_succ, List.set_cons_zero, List.set_cons_succ, eqW_str, eqW_int, eqW_bl, cmp_eq, cmp_lt, cmp_gt, cmp_ge, cmp_le, add_int, sub_int, wipeS, Tg.go, Tg.go.goAll, ex_tup, ex_cons, ex_tl, List.length_cons, List.length_nil, Nat.zero_add, Nat.reduceAdd, Nat.reduceLT, true_and, and_true, sizeLine_eq, Nat.reduceLeDiff, Nat.zero_le, ex_or, ex_or2, items_lst, items_tup, eq_self, un_not, cmp_in, len_lst, rd_w, slc_lst, ty_app, ty_get, mtW, if_true, Bool.false_eq_true, if_false, is_non]
                    unfold b__law_fit_on_1
                    simp only [wSs, wS, wE, wEs, wT, wOT, wI, wO, Lit.w, biW, rs_tup, rs_lst, rs_int, rs_str, rs_bl, rs_non, rs_dct, ix_tup, ix_lst, atI_0, atI_1, atI_2, ex_some, ex_some2, ex_int, ex_bl, tru_bl,
  List.getElem?_cons_zero, List.getElem?_cons_succ, List.set_cons_zero, List.set_cons_succ, eqW_str, eqW_int, eqW_bl, cmp_eq, cmp_lt, cmp_gt, cmp_ge, cmp_le, add_int, sub_int, wipeS, Tg.go, Tg.go.goAll, ex_tup, ex_cons, ex_tl, List.length_cons, List.length_nil, Nat.zero_add, Nat.reduceAdd, Nat.reduceLT, true_and, and_true, sizeLine_eq, Nat.reduceLeDiff, Nat.zero_le, ex_or, ex_or2, items_lst, items_tup, eq_self, un_not, cmp_in, len_lst, rd_w, slc_lst, ty_app, ty_get, mtW, if_true, Bool.false_eq_true, if_false]
                    refine hno ?_ S2 (kp.trans kp2)
                    rw [← hfs]
                    unfold fits
                    rw [q]
                  · simp only [wSs, wS, wE, wEs, wT, wOT, wI, wO, Lit.w, biW, rs_tup, rs_lst, rs_int, rs_str, rs_bl, rs_non, rs_dct, ix_tup, ix_lst, atI_0, atI_1, atI_2, ex_some, ex_some2, ex_int, ex_bl, tru_bl,
  List.getElem?_cons_zero, List.getElem?_cons_succ, List.set_cons_zero, List.set_cons_succ, eqW_str, eqW_int, eqW_bl, cmp_eq, cmp_lt, cmp_gt, cmp_ge, cmp_le, add_int, sub_int, wipeS, Tg.go, Tg.go.goAll, ex_tup, ex_cons, ex_tl, List.length_cons, List.length_nil, Nat.zero_add, Nat.reduceAdd, Nat.reduceLT, true_and, and_true, sizeLine_eq, Nat.reduceLeDiff, Nat.zero_le, ex_or, ex_or2, items_lst, items_tup, eq_self, un_not, cmp_in, len_lst, rd_w, slc_lst, ty_app, ty_get, mtW, if_true, Bool.false_eq_true, if_false, is_ref hb2]
                    have e5 := fit_len u v su s1 q
                    exact hN _ _ ⟨kp.trans kp2, us, vs, s1, b2, _, _, rfl, by simpa using e2, by omega, by omega, fit_hs u v su s1 q (by omega) h3, by omega, hb2, by rw [← hfs]; conv => rhs; unfold fits; rw [q], rfl⟩
            · exact ⟨KeepS.rfl, ps, ts, st, a, _, _, rfl, hl, by omega, by omega, hs, by omega, hS, rfl, rfl⟩
          · have e1 : (!(x == y)) = false := by simp [xy]
            have e2 : (!((ps.length : Int) == (ts.length : Int))) = true := by
              have : ¬ (ps.length : Int) = (ts.length : Int) := by omega
              simp [this]
            rw [if_neg (show ¬ (!(x == y)) = true by rw [e1]; exact Bool.false_ne_true), if_pos e2]
            unfold b__law_fit_on_3
            simp only [wSs, wS, wE, wEs, wT, wOT, wI, wO, Lit.w, biW, rs_tup, rs_lst, rs_int, rs_str, rs_bl, rs_non, rs_dct, ix_tup, ix_lst, atI_0, atI_1, atI_2, ex_some, ex_some2, ex_int, ex_bl, tru_bl,
  List.getElem?_cons_zero, List.getElem?_cons_succ, List.set_cons_zero, List.set_cons_succ, eqW_str, eqW_int, eqW_bl, cmp_eq, cmp_lt, cmp_gt, cmp_ge, cmp_le, add_int, sub_int, wipeS, Tg.go, Tg.go.goAll, ex_tup, ex_cons, ex_tl, List.length_cons, List.length_nil, Nat.zero_add, Nat.reduceAdd, Nat.reduceLT, true_and, and_true, sizeLine_eq, Nat.reduceLeDiff, Nat.zero_le, ex_or, ex_or2, items_lst, items_tup, eq_self, un_not, cmp_in, len_lst, rd_w, slc_lst, ty_app, ty_get, mtW, if_true, Bool.false_eq_true, if_false]
            refine hno ?_ S KeepS.rfl
            show (if x = y ∧ ps.length = ts.length then fits ps ts st else none) = none
            exact if_neg fun q => hl q.2
        · have e1 : (!(x == y)) = true := by simp [xy]
          rw [if_pos e1]
          unfold b__law_fit_on_3
          simp only [wSs, wS, wE, wEs, wT, wOT, wI, wO, Lit.w, biW, rs_tup, rs_lst, rs_int, rs_str, rs_bl, rs_non, rs_dct, ix_tup, ix_lst, atI_0, atI_1, atI_2, ex_some, ex_some2, ex_int, ex_bl, tru_bl,
  List.getElem?_cons_zero, List.getElem?_cons_succ, List.set_cons_zero, List.set_cons_succ, eqW_str, eqW_int, eqW_bl, cmp_eq, cmp_lt, cmp_gt, cmp_ge, cmp_le, add_int, sub_int, wipeS, Tg.go, Tg.go.goAll, ex_tup, ex_cons, ex_tl, List.length_cons, List.length_nil, Nat.zero_add, Nat.reduceAdd, Nat.reduceLT, true_and, and_true, sizeLine_eq, Nat.reduceLeDiff, Nat.zero_le, ex_or, ex_or2, items_lst, items_tup, eq_self, un_not, cmp_in, len_lst, rd_w, slc_lst, ty_app, ty_get, mtW, if_true, Bool.false_eq_true, if_false]
          refine hno ?_ S KeepS.rfl
          show (if x = y ∧ ps.length = ts.length then fits ps ts st else none) = none
          exact if_neg fun q => xy q.1
theorem s_lfit_on : ∀ m : Nat, lfitAt m
  | 0 => lfit_core 0 fun _ e => nomatch e
  | m + 1 => lfit_core (m + 1) fun n e => by cases e; exact s_lfit_on m
end K29

set_option Elab.async false
set_option linter.all false
set_option maxRecDepth 100000
set_option maxHeartbeats 4000000
namespace K29
open PySem PD
open L2 (atI Key)
theorem w_inj {s t : PD.Tm} (h : s.w = t.w) : s = t := by
  have h1 : s.dat = t.dat := by
    have a := Tm.w_d s
    rw [h, Tm.w_d t] at a
    injection a with a
    exact a.symm
  have h2 : Tm.beq s t = true := by
    rw [← Tm.eqv s t, h1, Tm.eqv t t]
    exact Tm.beq_iff.mpr rfl
  exact Tm.beq_iff.mp h2
theorem eqD_tm {s t : PD.Tm} (hs : s.h ≤ 29) (ht : t.h ≤ 29) : eqD s.w t.w = some (decide (s = t)) := by
  unfold eqD
  rw [Tm.w_d s, Tm.w_d t]
  show (if okD s.dat && okD t.dat then some (PyData.eqv s.dat t.dat) else none) = _
  rw [Tm.ok hs, Tm.ok ht, Tm.eqv, Tm.beq_eq]
  rfl
theorem eqRows_sp {su : Stf} (hu : ∀ e ∈ su, e.2.h ≤ 29) : ∀ r : Stf, (∀ e ∈ r, e.2.h ≤ 29) → ∃ b, eqRows (kOf su) (wOf su) (kOf r) (wOf r) = some b ∧ (b = true → ∀ e ∈ r, fOf su e.1 = some e.2)
  | [], _ => ⟨true, rfl, fun _ _ h => nomatch h⟩
  | e :: r, h => by
    obtain ⟨b, h1, h2⟩ := eqRows_sp hu r fun e' he => h e' (by simp [he])
    have e0 : eqRows (kOf su) (wOf su) (kOf (e :: r)) (wOf (e :: r)) = (match look (kOf su) (wOf su) (.inl e.1) with
      | none => some false
      | some u => (eqD e.2.w u).bind fun q => (eqRows (kOf su) (wOf su) (kOf r) (wOf r)).map fun b => q && b) := rfl
    rw [e0, look_of, h1]
    cases q : fOf su e.1 with
    | none => exact ⟨false, rfl, fun z => nomatch z⟩
    | some t =>
      refine ⟨decide (e.2 = t) && b, ?_, fun z => ?_⟩
      · show (eqD e.2.w t.w).bind _ = _
        rw [eqD_tm (h e (by simp)) (hu _ (fOf_mem q))]
        rfl
      · obtain ⟨z1, z2⟩ := Bool.and_eq_true_iff.mp z
        intro e' he
        rcases List.mem_cons.mp he with y | y
        · rw [y, q, of_decide_eq_true z1]
        · exact h2 z2 e' y
theorem inO_sp {S : Sto} {b q : Addr} {su st : Stf} (hb : S b = some (.dct (kOf su) (wOf su))) (hq : S q = some (.dct (kOf st) (wOf st))) (hu : ∀ e ∈ su, e.2.h ≤ 29) (ht : ∀ e ∈ st, e.2.h ≤ 29) (dm : ∀ n, (fOf su n).isSome = (fOf st n).isSome) :
    ∃ r, inO S (.ref q) (.ref b) = some r ∧ (r = true → fOf su = fOf st) := by
  have e0 : inO S (.ref q) (.ref b) = if b = q then some true else eqT (rd S (.ref b)) (rd S (.ref q)) := rfl
  rw [e0]
  by_cases z : b = q
  · rw [if_pos z]
    refine ⟨true, rfl, fun _ => ?_⟩
    rw [z, hq] at hb
    injection hb with hb
    injection hb with k1 k2
    funext n
    have h1 := look_of su n
    rw [← k1, ← k2, look_of st n] at h1
    cases q1 : fOf su n with
    | none =>
      rw [q1] at h1
      cases q2 : fOf st n with
      | none => rfl
      | some u => rw [q2] at h1; cases h1
    | some t =>
      rw [q1] at h1
      cases q2 : fOf st n with
      | none => rw [q2] at h1; cases h1
      | some u =>
        rw [q2] at h1
        have : u.w = t.w := by injection h1
        rw [w_inj this]
  · rw [if_neg z, rd_ref hb, rd_ref hq]
    have e1 : eqT (.dct (kOf su) (wOf su)) (.dct (kOf st) (wOf st)) = if (kOf su).length = (kOf st).length then eqRows (kOf st) (wOf st) (kOf su) (wOf su) else some false := rfl
    rw [e1]
    by_cases y : (kOf su).length = (kOf st).length
    · rw [if_pos y]
      obtain ⟨r, h1, h2⟩ := eqRows_sp ht su hu
      refine ⟨r, h1, fun x => ?_⟩
      funext n
      cases q1 : fOf su n with
      | none =>
        have := dm n
        rw [q1] at this
        cases q2 : fOf st n with
        | none => rfl
        | some u => rw [q2] at this; cases this
      | some t => rw [h2 x _ (fOf_mem q1)]
    · rw [if_neg y]
      exact ⟨false, rfl, fun x => nomatch x⟩
def Res (dm : Int → Bool) (B : Nat) (S : Sto) (es : List (Addr × Stf)) : Prop := ∀ e ∈ es, S e.1 = some (.dct (kOf e.2) (wOf e.2)) ∧ (∀ x ∈ e.2, x.2.h ≤ 29) ∧ e.2.length ≤ B ∧ ∀ n, (fOf e.2 n).isSome = dm n
def refs (es : List (Addr × Stf)) : List W := es.map fun e => W.ref e.1
theorem inP_sp {S : Sto} {q : Addr} {st : Stf} {dm : Int → Bool} {B : Nat} (hq : S q = some (.dct (kOf st) (wOf st))) (ht : ∀ e ∈ st, e.2.h ≤ 29) (hd : ∀ n, (fOf st n).isSome = dm n) :
    ∀ es, Res dm B S es → ∃ r, inP S (.ref q) (refs es) = some r ∧ (r = true → ∃ e ∈ es, fOf e.2 = fOf st)
  | [], _ => ⟨false, rfl, fun z => nomatch z⟩
  | e :: es, h => by
    obtain ⟨h1, h2, h3, h4⟩ := h e (by simp)
    obtain ⟨r, i1, i2⟩ := inP_sp hq ht hd es fun e' he => h e' (by simp [he])
    obtain ⟨r2, j1, j2⟩ := inO_sp h1 hq h2 ht fun n => by rw [h4, hd]
    have e0 : inP S (.ref q) (refs (e :: es)) = (inO S (.ref q) (.ref e.1)).bind fun u => (inP S (.ref q) (refs es)).map fun b => u || b := rfl
    rw [e0, j1, i1]
    refine ⟨r2 || r, rfl, fun z => ?_⟩
    rcases Bool.or_eq_true_iff.mp z with z | z
    · exact ⟨e, by simp, j2 z⟩
    · obtain ⟨e', m, x⟩ := i2 z
      exact ⟨e', by simp [m], x⟩
structure LiOk (l : Li) : Prop where
  h1 : l.2.1.h ≤ 20
  h2 : l.2.2.h ≤ 20
  z1 : nz l.2.1 ≤ 85
  z2 : nz l.2.2 ≤ 85
def dmO (p : Li) (f : Fu) (n : Int) : Bool := ((f n).isSome || decide (n ∈ lets p.2.1)) || decide (n ∈ lets p.2.2)
def anyG (G : Fu → Bool) (es : List (Addr × Stf)) : Bool := es.any fun e => G (fOf e.2)
theorem Res.keep {dm : Int → Bool} {B : Nat} {S S' : Sto} {es : List (Addr × Stf)} {F : Addr} {xs : List W} (hF : S F = some (.lst xs)) (kp : ∀ c x, c ≠ F → S c = some x → S' c = some x) (h : Res dm B S es) : Res dm B S' es := fun e he => by
  obtain ⟨h1, h2⟩ := h e he
  exact ⟨kp _ _ (fun z => by rw [z, hF] at h1; cases h1) h1, h2⟩
theorem f_turn {k : Nat} {S : Sto} {D : En} {p l : Li} {st : Stf} {a F : Addr} {es : List (Addr × Stf)} {y : Option W} {one other : PD.Tm} (hp : LiOk p) (ho : one.h ≤ 29) (ho2 : other.h ≤ 29) (hst : ∀ e ∈ st, e.2.h ≤ 29) (hz : st.length + 170 ≤ 1000)
    (hS : S a = some (.dct (kOf st) (wOf st))) (hF : S F = some (.lst (refs es))) (hl : es.length ≤ 1) (hr : Res (dmO p (fOf st)) (st.length + 170) S es)
    (h : ∀ es' S' y6, (∀ c x, c ≠ F → S c = some x → S' c = some x) → S' F = some (.lst (refs es')) → es'.length ≤ es.length + 1 → Res (dmO p (fOf st)) (st.length + 170) S' es' →
      (∀ G : Fu → Bool, anyG G es' = (anyG G es || opt G ((fitF p.2.1 one (fOf st)).bind fun g => fitF p.2.2 other g))) → D.nx [some (liW p), some (liW l), some (.ref a), some (.ref F), some one.w, some other.w, y6] S') :
    wSs ⟨callK T G0 (k + 21), G0⟩ b_fits_of_3 D [some (liW p), some (liW l), some (.ref a), some (.ref F), some one.w, some other.w, y] S := by
  have elp : liW p = .tup [.str p.1, p.2.1.w, p.2.2.w] := rfl
  have z1 := hp.z1
  have z2 := hp.z2
  have nope : (fitF p.2.1 one (fOf st)).bind (fun g => fitF p.2.2 other g) = none → ∀ S', KeepS S S' → D.nx [some (liW p), some (liW l), some (.ref a), some (.ref F), some one.w, some other.w, some .non] S' := fun e S' kp =>
    h es S' (some .non) (fun c x _ => kp c x) (kp _ _ hF) (by omega) (hr.keep hF fun c x _ => kp c x) fun G => by rw [e]; simp [opt]
  unfold b_fits_of_3
  simp only [wSs, wS, wE, wEs, wT, wOT, wI, wO, Lit.w, biW, rs_tup, rs_lst, rs_int, rs_str, rs_bl, rs_non, rs_dct, ix_tup, ix_lst, atI_0, atI_1, atI_2, ex_some, ex_some2, ex_int, ex_bl, tru_bl,
  List.getElem?_cons_zero, List.getElem?_cons_succ, List.set_cons_zero, List.set_cons_succ, eqW_str, eqW_int, eqW_bl, cmp_eq, cmp_lt, cmp_gt, cmp_ge, cmp_le, add_int, sub_int, wipeS, Tg.go, Tg.go.goAll, ex_tup, ex_cons, ex_tl, List.length_cons, List.length_nil, Nat.zero_add, Nat.reduceAdd, Nat.reduceLT, true_and, and_true, sizeLine_eq, Nat.reduceLeDiff, Nat.zero_le, ex_or, ex_or2, items_lst, items_tup, eq_self, un_not, cmp_in, len_lst, rd_w, slc_lst, ty_app, ty_get, mtW, if_true, Bool.false_eq_true, if_false, elp]
  refine s_fit_on 20 (k := k) hp.h1 ho hst (by omega) hS (fun q S1 kp => ?_) fun s1 S1 b1 q kp1 hb1 => ?_
  · simp only [wSs, wS, wE, wEs, wT, wOT, wI, wO, Lit.w, biW, rs_tup, rs_lst, rs_int, rs_str, rs_bl, rs_non, rs_dct, ix_tup, ix_lst, atI_0, atI_1, atI_2, ex_some, ex_some2, ex_int, ex_bl, tru_bl,
  List.getElem?_cons_zero, List.getElem?_cons_succ, List.set_cons_zero, List.set_cons_succ, eqW_str, eqW_int, eqW_bl, cmp_eq, cmp_lt, cmp_gt, cmp_ge, cmp_le, add_int, sub_int, wipeS, Tg.go, Tg.go.goAll, ex_tup, ex_cons, ex_tl, List.length_cons, List.length_nil, Nat.zero_add, Nat.reduceAdd, Nat.reduceLT, true_and, and_true, sizeLine_eq, Nat.reduceLeDiff, Nat.zero_le, ex_or, ex_or2, items_lst, items_tup, eq_self, un_not, cmp_in, len_lst, rd_w, slc_lst, ty_app, ty_get, mtW, if_true, Bool.false_eq_true, if_false, rs_non, isn_non]
    exact nope (by rw [fit_F, q]; rfl) S1 kp
  · have l1 := fit_len _ _ _ _ q
    have d1 := fit_hs (m := 29) _ _ _ _ q ho hst
    simp only [wSs, wS, wE, wEs, wT, wOT, wI, wO, Lit.w, biW, rs_tup, rs_lst, rs_int, rs_str, rs_bl, rs_non, rs_dct, ix_tup, ix_lst, atI_0, atI_1, atI_2, ex_some, ex_some2, ex_int, ex_bl, tru_bl,
  List.getElem?_cons_zero, List.getElem?_cons_succ, List.set_cons_zero, List.set_cons_succ, eqW_str, eqW_int, eqW_bl, cmp_eq, cmp_lt, cmp_gt, cmp_ge, cmp_le, add_int, sub_int, wipeS, Tg.go, Tg.go.goAll, ex_tup, ex_cons, ex_tl, List.length_cons, List.length_nil, Nat.zero_add, Nat.reduceAdd, Nat.reduceLT, true_and, and_true, sizeLine_eq, Nat.reduceLeDiff, Nat.zero_le, ex_or, ex_or2, items_lst, items_tup, eq_self, un_not, cmp_in, len_lst, rd_w, slc_lst, ty_app, ty_get, mtW, if_true, Bool.false_eq_true, if_false, isn_ref hb1]
    unfold b_fits_of_2
    simp only [wSs, wS, wE, wEs, wT, wOT, wI, wO, Lit.w, biW, rs_tup, rs_lst, rs_int, rs_str, rs_bl, rs_non, rs_dct, ix_tup, ix_lst, atI_0, atI_1, atI_2, ex_some, ex_some2, ex_int, ex_bl, tru_bl,
  List.getElem?_cons_zero, List.getElem?_cons_succ, List.set_cons_zero, List.set_cons_succ, eqW_str, eqW_int, eqW_bl, cmp_eq, cmp_lt, cmp_gt, cmp_ge, cmp_le, add_int, sub_int, wipeS, Tg.go, Tg.go.goAll, ex_tup, ex_cons, ex_tl, List.length_cons, List.length_nil, Nat.zero_add, Nat.reduceAdd, Nat.reduceLT, true_and, and_true, sizeLine_eq, Nat.reduceLeDiff, Nat.zero_le, ex_or, ex_or2, items_lst, items_tup, eq_self, un_not, cmp_in, len_lst, rd_w, slc_lst, ty_app, ty_get, mtW, if_true, Bool.false_eq_true, if_false]
    refine s_fit_on 20 (k := k) hp.h2 ho2 d1 (by omega) hb1 (fun q2 S2 kp2 => ?_) fun s2 S2 b2 q2 kp2 hb2 => ?_
    · simp only [wSs, wS, wE, wEs, wT, wOT, wI, wO, Lit.w, biW, rs_tup, rs_lst, rs_int, rs_str, rs_bl, rs_non, rs_dct, ix_tup, ix_lst, atI_0, atI_1, atI_2, ex_some, ex_some2, ex_int, ex_bl, tru_bl,
  List.getElem?_cons_zero, List.getElem?_cons_succ, List.set_cons_zero, List.set_cons_succ, eqW_str, eqW_int, eqW_bl, cmp_eq, cmp_lt, cmp_gt, cmp_ge, cmp_le, add_int, sub_int, wipeS, Tg.go, Tg.go.goAll, ex_tup, ex_cons, ex_tl, List.length_cons, List.length_nil, Nat.zero_add, Nat.reduceAdd, Nat.reduceLT, true_and, and_true, sizeLine_eq, Nat.reduceLeDiff, Nat.zero_le, ex_or, ex_or2, items_lst, items_tup, eq_self, un_not, cmp_in, len_lst, rd_w, slc_lst, ty_app, ty_get, mtW, if_true, Bool.false_eq_true, if_false, rs_non, isn_non]
      exact nope (by rw [fit_F, q]; show fitF p.2.2 other (fOf s1) = none; rw [fit_F, q2]; rfl) S2 (kp1.trans kp2)
    · have l2 := fit_len _ _ _ _ q2
      have d2 := fit_hs (m := 29) _ _ _ _ q2 ho2 d1
      have kp := kp1.trans kp2
      have ef : (fitF p.2.1 one (fOf st)).bind (fun g => fitF p.2.2 other g) = some (fOf s2) := by
        rw [fit_F, q]; show fitF p.2.2 other (fOf s1) = _; rw [fit_F, q2]; rfl
      have dm : ∀ n, (fOf s2 n).isSome = dmO p (fOf st) n := fun n => by
        have a1 := fit_dom p.2.1 one (fOf st) (fOf s1) (by rw [fit_F, q]; rfl) n
        have a2 := fit_dom p.2.2 other (fOf s1) (fOf s2) (by rw [fit_F, q2]; rfl) n
        rw [a2, a1]; rfl
      have hF2 := kp _ _ hF
      have hr2 : Res (dmO p (fOf st)) (st.length + 170) S2 es := hr.keep hF fun c x _ => kp c x
      obtain ⟨r, i1, i2⟩ := inP_sp hb2 d2 dm es hr2
      simp only [wSs, wS, wE, wEs, wT, wOT, wI, wO, Lit.w, biW, rs_tup, rs_lst, rs_int, rs_str, rs_bl, rs_non, rs_dct, ix_tup, ix_lst, atI_0, atI_1, atI_2, ex_some, ex_some2, ex_int, ex_bl, tru_bl,
  List.getElem?_cons_zero, List.getElem?_cons_succ, List.set_cons_zero, List.set_cons_succ, eqW_str, eqW_int, eqW_bl, cmp_eq, cmp_lt, cmp_gt, cmp_ge, cmp_le, add_int, sub_int, wipeS, Tg.go, Tg.go.goAll, ex_tup, ex_cons, ex_tl, List.length_cons, List.length_nil, Nat.zero_add, Nat.reduceAdd, Nat.reduceLT, true_and, and_true, sizeLine_eq, Nat.reduceLeDiff, Nat.zero_le, ex_or, ex_or2, items_lst, items_tup, eq_self, un_not, cmp_in, len_lst, rd_w, slc_lst, ty_app, ty_get, mtW, if_true, Bool.false_eq_true, if_false, isn_ref hb2]
      refine ⟨_, _, rd_r hF2, i1, ?_⟩
      cases r with
      | true =>
        simp only [wSs, wS, wE, wEs, wT, wOT, wI, wO, Lit.w, biW, rs_tup, rs_lst, rs_int, rs_str, rs_bl, rs_non, rs_dct, ix_tup, ix_lst, atI_0, atI_1, atI_2, ex_some, ex_some2, ex_int, ex_bl, tru_bl,
  List.getElem?_cons_zero, List.getElem?_cons_succ, List.set_cons_zero, List.set_cons_succ, eqW_str, eqW_int, eqW_bl, cmp_eq, cmp_lt, cmp_gt, cmp_ge, cmp_le, add_int, sub_int, wipeS, Tg.go, Tg.go.goAll, ex_tup, ex_cons, ex_tl, List.length_cons, List.length_nil, Nat.zero_add, Nat.reduceAdd, Nat.reduceLT, true_and, and_true, sizeLine_eq, Nat.reduceLeDiff, Nat.zero_le, ex_or, ex_or2, items_lst, items_tup, eq_self, un_not, cmp_in, len_lst, rd_w, slc_lst, ty_app, ty_get, mtW, if_true, Bool.false_eq_true, if_false, Bool.not_true]
        refine h es S2 _ (fun c x _ => kp c x) hF2 (by omega) hr2 fun G => ?_
        rw [ef]
        obtain ⟨e, he, z⟩ := i2 rfl
        show anyG G es = (anyG G es || G (fOf s2))
        have : G (fOf s2) = true → anyG G es = true := fun y => List.any_eq_true.mpr ⟨e, he, by rw [z]; exact y⟩
        cases y : G (fOf s2) with
        | false => simp
        | true => rw [this y]; rfl
      | false =>
        simp only [wSs, wS, wE, wEs, wT, wOT, wI, wO, Lit.w, biW, rs_tup, rs_lst, rs_int, rs_str, rs_bl, rs_non, rs_dct, ix_tup, ix_lst, atI_0, atI_1, atI_2, ex_some, ex_some2, ex_int, ex_bl, tru_bl,
  List.getElem?_cons_zero, List.getElem?_cons_succ, List.set_cons_zero, List.set_cons_succ, eqW_str, eqW_int, eqW_bl, cmp_eq, cmp_lt, cmp_gt, cmp_ge, cmp_le, add_int, sub_int, wipeS, Tg.go, Tg.go.goAll, ex_tup, ex_cons, ex_tl, List.length_cons, List.length_nil, Nat.zero_add, Nat.reduceAdd, Nat.reduceLT, true_and, and_true, sizeLine_eq, Nat.reduceLeDiff, Nat.zero_le, ex_or, ex_or2, items_lst, items_tup, eq_self, un_not, cmp_in, len_lst, rd_w, slc_lst, ty_app, ty_get, mtW, if_true, Bool.false_eq_true, if_false, Bool.not_false]
        unfold b_fits_of_1
        simp only [wSs, wS, wE, wEs, wT, wOT, wI, wO, Lit.w, biW, rs_tup, rs_lst, rs_int, rs_str, rs_bl, rs_non, rs_dct, ix_tup, ix_lst, atI_0, atI_1, atI_2, ex_some, ex_some2, ex_int, ex_bl, tru_bl,
  List.getElem?_cons_zero, List.getElem?_cons_succ, List.set_cons_zero, List.set_cons_succ, eqW_str, eqW_int, eqW_bl, cmp_eq, cmp_lt, cmp_gt, cmp_ge, cmp_le, add_int, sub_int, wipeS, Tg.go, Tg.go.goAll, ex_tup, ex_cons, ex_tl, List.length_cons, List.length_nil, Nat.zero_add, Nat.reduceAdd, Nat.reduceLT, true_and, and_true, sizeLine_eq, Nat.reduceLeDiff, Nat.zero_le, ex_or, ex_or2, items_lst, items_tup, eq_self, un_not, cmp_in, len_lst, rd_w, slc_lst, ty_app, ty_get, mtW, if_true, Bool.false_eq_true, if_false, rd_r hF2]
        have hb2F : b2 ≠ F := fun z => by rw [z, hF2] at hb2; cases hb2
        refine ⟨_, hF2, by unfold refs; rw [List.length_map]; omega, ?_⟩
        have er : refs es ++ [W.ref b2] = refs (es ++ [(b2, s2)]) := by unfold refs; rw [List.map_append]; rfl
        rw [er]
        have kF : ∀ c x, c ≠ F → S2 c = some x → (S2.set F (.lst (refs (es ++ [(b2, s2)])))) c = some x := fun c x n hc => by rw [Sto.set_ne n]; exact hc
        refine h (es ++ [(b2, s2)]) _ _ (fun c x n hc => kF c x n (kp c x hc)) Sto.set_same (by simp) (fun e he => ?_) fun G => ?_
        · rcases List.mem_append.mp he with z | z
          · exact (hr2.keep hF2 kF) e z
          · rw [List.mem_singleton.mp z]
            exact ⟨kF _ _ hb2F hb2, d2, by show s2.length ≤ _; omega, dm⟩
        · rw [ef]
          unfold anyG
          rw [List.any_append]
          simp [opt]
theorem s_fits_of {k : Nat} {S : Sto} {Q X : QW} {p l : Li} {st : Stf} {a : Addr} (hp : LiOk p) (hl : LiOk l) (hst : ∀ e ∈ st, e.2.h ≤ 29) (hz : st.length + 170 ≤ 1000) (hS : S a = some (.dct (kOf st) (wOf st)))
    (h : ∀ es S', KeepS S S' → Res (dmO p (fOf st)) (st.length + 170) S' es → (∀ G : Fu → Bool, anyG G es = (opt G (fit2 p l false (fOf st)) || opt G (fit2 p l true (fOf st)))) → Q (.lst (refs es)) S') :
    callK T G0 (k + 22) "fits_of" [liW p, liW l, .ref a] S Q X := by
  refine o_fits_of ?_
  unfold b_fits_of
  have elp : liW p = .tup [.str p.1, p.2.1.w, p.2.2.w] := rfl
  have ell : liW l = .tup [.str l.1, l.2.1.w, l.2.2.w] := rfl
  simp only [wSs, wS, wE, wEs, wT, wOT, wI, wO, Lit.w, biW, rs_tup, rs_lst, rs_int, rs_str, rs_bl, rs_non, rs_dct, ix_tup, ix_lst, atI_0, atI_1, atI_2, ex_some, ex_some2, ex_int, ex_bl, tru_bl,
  List.getElem?_cons_zero, List.getElem?_cons_succ, List.set_cons_zero, List.set_cons_succ, eqW_str, eqW_int, eqW_bl, cmp_eq, cmp_lt, cmp_gt, cmp_ge, cmp_le, add_int, sub_int, wipeS, Tg.go, Tg.go.goAll, ex_tup, ex_cons, ex_tl, List.length_cons, List.length_nil, Nat.zero_add, Nat.reduceAdd, Nat.reduceLT, true_and, and_true, sizeLine_eq, Nat.reduceLeDiff, Nat.zero_le, ex_or, ex_or2, items_lst, items_tup, eq_self, un_not, cmp_in, len_lst, rd_w, slc_lst, ty_app, ty_get, mtW, if_true, Bool.false_eq_true, if_false, elp, ell, ne_str2]
  by_cases z : p.1 = l.1
  · have e1 : (!(p.1 == l.1)) = false := by simp [z]
    rw [e1]
    simp only [wSs, wS, wE, wEs, wT, wOT, wI, wO, Lit.w, biW, rs_tup, rs_lst, rs_int, rs_str, rs_bl, rs_non, rs_dct, ix_tup, ix_lst, atI_0, atI_1, atI_2, ex_some, ex_some2, ex_int, ex_bl, tru_bl,
  List.getElem?_cons_zero, List.getElem?_cons_succ, List.set_cons_zero, List.set_cons_succ, eqW_str, eqW_int, eqW_bl, cmp_eq, cmp_lt, cmp_gt, cmp_ge, cmp_le, add_int, sub_int, wipeS, Tg.go, Tg.go.goAll, ex_tup, ex_cons, ex_tl, List.length_cons, List.length_nil, Nat.zero_add, Nat.reduceAdd, Nat.reduceLT, true_and, and_true, sizeLine_eq, Nat.reduceLeDiff, Nat.zero_le, ex_or, ex_or2, items_lst, items_tup, eq_self, un_not, cmp_in, len_lst, rd_w, slc_lst, ty_app, ty_get, mtW, if_true, Bool.false_eq_true, if_false]
    intro F hF
    have f1 : ∀ b, fit2 p l b (fOf st) = (fitF p.2.1 (if b then l.2.2 else l.2.1) (fOf st)).bind fun g => fitF p.2.2 (if b then l.2.1 else l.2.2) g := fun b => by unfold fit2; rw [if_pos z.symm]
    have hSa : (S.set F (.lst (refs []))) a = some (.dct (kOf st) (wOf st)) := by rw [Sto.set_ne (fun y => by rw [y, hF] at hS; cases hS)]; exact hS
    have h1 := hl.h1
    have h2 := hl.h2
    simp only [wSs, wS, wE, wEs, wT, wOT, wI, wO, Lit.w, biW, rs_tup, rs_lst, rs_int, rs_str, rs_bl, rs_non, rs_dct, ix_tup, ix_lst, atI_0, atI_1, atI_2, ex_some, ex_some2, ex_int, ex_bl, tru_bl,
  List.getElem?_cons_zero, List.getElem?_cons_succ, List.set_cons_zero, List.set_cons_succ, eqW_str, eqW_int, eqW_bl, cmp_eq, cmp_lt, cmp_gt, cmp_ge, cmp_le, add_int, sub_int, wipeS, Tg.go, Tg.go.goAll, ex_tup, ex_cons, ex_tl, List.length_cons, List.length_nil, Nat.zero_add, Nat.reduceAdd, Nat.reduceLT, true_and, and_true, sizeLine_eq, Nat.reduceLeDiff, Nat.zero_le, ex_or, ex_or2, items_lst, items_tup, eq_self, un_not, cmp_in, len_lst, rd_w, slc_lst, ty_app, ty_get, mtW, if_true, Bool.false_eq_true, if_false, loopF]
    refine f_turn (l := l) (one := l.2.1) (other := l.2.2) (es := []) hp (by omega) (by omega) hst hz hSa Sto.set_same (by decide) (fun e he => nomatch he) fun es1 S1 y1 kp1 hF1 hl1 hr1 g1 => ?_
    simp only [wSs, wS, wE, wEs, wT, wOT, wI, wO, Lit.w, biW, rs_tup, rs_lst, rs_int, rs_str, rs_bl, rs_non, rs_dct, ix_tup, ix_lst, atI_0, atI_1, atI_2, ex_some, ex_some2, ex_int, ex_bl, tru_bl,
  List.getElem?_cons_zero, List.getElem?_cons_succ, List.set_cons_zero, List.set_cons_succ, eqW_str, eqW_int, eqW_bl, cmp_eq, cmp_lt, cmp_gt, cmp_ge, cmp_le, add_int, sub_int, wipeS, Tg.go, Tg.go.goAll, ex_tup, ex_cons, ex_tl, List.length_cons, List.length_nil, Nat.zero_add, Nat.reduceAdd, Nat.reduceLT, true_and, and_true, sizeLine_eq, Nat.reduceLeDiff, Nat.zero_le, ex_or, ex_or2, items_lst, items_tup, eq_self, un_not, cmp_in, len_lst, rd_w, slc_lst, ty_app, ty_get, mtW, if_true, Bool.false_eq_true, if_false, loopF]
    have ne : a ≠ F := fun y => by rw [y, hF] at hS; cases hS
    refine f_turn (l := l) (one := l.2.2) (other := l.2.1) (es := es1) hp (by omega) (by omega) hst hz (kp1 _ _ ne hSa) hF1 (by simpa using hl1) hr1 fun es2 S2 y2 kp2 hF2 hl2 hr2 g2 => ?_
    refine ⟨F, rfl, by simp, .inl ⟨_, hF2, _, rfl, ?_⟩⟩
    refine h es2 _ (fun c x hc => ?_) (fun e he => ?_) fun G => ?_
    · have nc : c ≠ F := fun y => by rw [y, hF] at hc; cases hc
      rw [Sto.del_ne nc]
      exact kp2 _ _ nc (kp1 _ _ nc (by rw [Sto.set_ne nc]; exact hc))
    · obtain ⟨i1, i2⟩ := hr2 e he
      refine ⟨?_, i2⟩
      rw [Sto.del_ne (fun y => by rw [y, hF2] at i1; cases i1)]
      exact i1
    · rw [g2 G, g1 G, f1 false, f1 true]
      simp [anyG]
  · have e1 : (!(p.1 == l.1)) = true := by simp [z]
    rw [e1]
    simp only [wSs, wS, wE, wEs, wT, wOT, wI, wO, Lit.w, biW, rs_tup, rs_lst, rs_int, rs_str, rs_bl, rs_non, rs_dct, ix_tup, ix_lst, atI_0, atI_1, atI_2, ex_some, ex_some2, ex_int, ex_bl, tru_bl,
  List.getElem?_cons_zero, List.getElem?_cons_succ, List.set_cons_zero, List.set_cons_succ, eqW_str, eqW_int, eqW_bl, cmp_eq, cmp_lt, cmp_gt, cmp_ge, cmp_le, add_int, sub_int, wipeS, Tg.go, Tg.go.goAll, ex_tup, ex_cons, ex_tl, List.length_cons, List.length_nil, Nat.zero_add, Nat.reduceAdd, Nat.reduceLT, true_and, and_true, sizeLine_eq, Nat.reduceLeDiff, Nat.zero_le, ex_or, ex_or2, items_lst, items_tup, eq_self, un_not, cmp_in, len_lst, rd_w, slc_lst, ty_app, ty_get, mtW, if_true, Bool.false_eq_true, if_false]
    unfold b_fits_of_4
    simp only [wSs, wS, wE, wEs, wT, wOT, wI, wO, Lit.w, biW, rs_tup, rs_lst, rs_int, rs_str, rs_bl, rs_non, rs_dct, ix_tup, ix_lst, atI_0, atI_1, atI_2, ex_some, ex_some2, ex_int, ex_bl, tru_bl,
  List.getElem?_cons_zero, List.getElem?_cons_succ, List.set_cons_zero, List.set_cons_succ, eqW_str, eqW_int, eqW_bl, cmp_eq, cmp_lt, cmp_gt, cmp_ge, cmp_le, add_int, sub_int, wipeS, Tg.go, Tg.go.goAll, ex_tup, ex_cons, ex_tl, List.length_cons, List.length_nil, Nat.zero_add, Nat.reduceAdd, Nat.reduceLT, true_and, and_true, sizeLine_eq, Nat.reduceLeDiff, Nat.zero_le, ex_or, ex_or2, items_lst, items_tup, eq_self, un_not, cmp_in, len_lst, rd_w, slc_lst, ty_app, ty_get, mtW, if_true, Bool.false_eq_true, if_false]
    refine h [] S KeepS.rfl (fun e he => nomatch he) fun G => ?_
    have : ∀ b, fit2 p l b (fOf st) = none := fun b => by unfold fit2; rw [if_neg (fun y => z y.symm)]
    rw [this, this]
    rfl
end K29

set_option Elab.async false
set_option linter.all false
set_option maxRecDepth 100000
set_option maxHeartbeats 4000000
namespace K29
open PySem PD
open L2 (atI Key)
def enumC : Nat → List Li → List W
  | _, [] => []
  | i, l :: ls => .tup [.int (i : Int), liW l] :: enumC (i + 1) ls
theorem enum_cl : ∀ (ls : List Li) (i : Nat), (((clL ls).zipIdx i).map fun p => W.tup [.int p.2, p.1]) = enumC i ls
  | [], i => rfl
  | l :: ls, i => by
    show (((liW l :: clL ls).zipIdx i).map fun p => W.tup [.int p.2, p.1]) = _
    rw [List.zipIdx_cons, List.map_cons, enum_cl ls (i + 1)]; rfl
theorem cl_len (c : List Li) : (clL c).length = c.length := by unfold clL; rw [List.length_map]
theorem eq_cl (c : List Li) : eqW (clW c) (.tup []) = some c.isEmpty := by
  unfold clW
  rw [eqW_nil]; cases c <;> rfl
theorem at_cl (p : Li) (ps : List Li) : ixW (clW (p :: ps)) (.int 0) = some (liW p) := by
  show ixW (.tup (liW p :: clL ps)) (.int 0) = _
  rw [ix_tup, atI_0]
theorem tl_cl (p : Li) (ps : List Li) : slcW (clW (p :: ps)) (some 1) none = some (clW ps) := by
  unfold clW
  rw [slc_tup]
  have : cutW (clL (p :: ps)) (some 1) none = (clL (p :: ps)).drop 1 := cut_drop (k := 1)
  rw [this]; rfl
theorem hd_cl (c : List Li) (k : Nat) : slcW (clW c) none (some (k : Int)) = some (clW (c.take k)) := by
  unfold clW
  rw [slc_tup, cut_take]
  unfold clL
  rw [List.map_take]
theorem tk_cl (c : List Li) (k : Nat) : slcW (clW c) (some ((k : Int) + 1)) none = some (clW (c.drop (k + 1))) := by
  unfold clW
  have : cutW (clL c) (some ((k : Int) + 1)) none = (clL c).drop (k + 1) := cut_drop (k := k + 1)
  rw [slc_tup, this]
  unfold clL
  rw [List.map_drop]
theorem add_cl {a b : List Li} (h : a.length + b.length ≤ 1000) : binW .Add (clW a) (clW b) = some (clW (a ++ b)) := by
  unfold clW
  have e : clL (a ++ b) = clL a ++ clL b := by unfold clL; rw [List.map_append]
  rw [e]
  exact add_tup (by rw [cl_len, cl_len]; exact h)
theorem rd_cl {S : Sto} {c : List Li} : rd S (clW c) = clW c := rfl
theorem rd_li {S : Sto} {l : Li} : rd S (liW l) = liW l := rfl
theorem it_cl {c : List Li} : itemsW (clW c) = some (clL c) := rfl
def okC (c : List Li) : Prop := ∀ l ∈ c, LiOk l
theorem okC.sub {c d : List Li} (h : okC c) (s : ∀ l ∈ d, l ∈ c) : okC d := fun l hl => h l (s l hl)
def gAt (p : Li) (ps ls : List Li) (f : Fu) (k : Nat) (l : Li) : Bool := opt (embF ps (ls.take k ++ ls.drop (k + 1))) (fit2 p l false f) || opt (embF ps (ls.take k ++ ls.drop (k + 1))) (fit2 p l true f)
theorem emb_scan (p : Li) (ps ls : List Li) (f : Fu) : embF (p :: ps) ls f = scan (gAt p ps ls f) 0 ls := by unfold embF; rfl
def embAt (n : Nat) : Prop := ∀ {k : Nat} {S : Sto} {Q X : QW} {ps ls : List Li} {st : Stf} {a g : Addr} {r : CloR}, ps.length = n → okC ps → okC ls → ls.length ≤ 100 → (∀ e ∈ st, e.2.h ≤ 29) → st.length + 170 * n ≤ 1000 → S a = some (.dct (kOf st) (wOf st)) →
  S g = some (.clo r) → r.f = "has_within.lam0" → r.cs = [] → (∀ S', KeepS S S' → Q (.bl (embF ps ls (fOf st))) S') → callK T G0 (k + n + 23) "embeds" [clW ps, clW ls, .ref a, .ref g] S Q X
theorem emb_core (n : Nat) (ih0 : ∀ m, n = m + 1 → embAt m) : embAt n := by
  intro k S Q X ps ls st a g r hn hps hls hll hst hz hS hg r1 r2 hQ
  refine o_embeds ?_
  unfold b_embeds
  simp only [wSs, wS, wE, wEs, wT, wOT, wI, wO, Lit.w, biW, rs_tup, rs_lst, rs_int, rs_str, rs_bl, rs_non, rs_dct, ix_tup, ix_lst, atI_0, atI_1, atI_2, ex_some, ex_some2, ex_int, ex_bl, tru_bl,
  List.getElem?_cons_zero, List.getElem?_cons_succ, List.set_cons_zero, List.set_cons_succ, eqW_str, eqW_int, eqW_bl, cmp_eq, cmp_lt, cmp_gt, cmp_ge, cmp_le, add_int, sub_int, wipeS, Tg.go, Tg.go.goAll, ex_tup, ex_cons, ex_tl, List.length_cons, List.length_nil, Nat.zero_add, Nat.reduceAdd, Nat.reduceLT, true_and, and_true, sizeLine_eq, Nat.reduceLeDiff, Nat.zero_le, ex_or, ex_or2, items_lst, items_tup, eq_self, un_not, cmp_in, len_lst, rd_w, slc_lst, ty_app, ty_get, mtW, if_true, Bool.false_eq_true, if_false, rd_cl, eq_cl]
  cases ps with
  | nil =>
    rw [if_pos (show List.isEmpty ([] : List Li) = true from rfl)]
    unfold b_embeds_4
    simp only [wSs, wS, wE, wEs, wT, wOT, wI, wO, Lit.w, biW, rs_tup, rs_lst, rs_int, rs_str, rs_bl, rs_non, rs_dct, ix_tup, ix_lst, atI_0, atI_1, atI_2, ex_some, ex_some2, ex_int, ex_bl, tru_bl,
  List.getElem?_cons_zero, List.getElem?_cons_succ, List.set_cons_zero, List.set_cons_succ, eqW_str, eqW_int, eqW_bl, cmp_eq, cmp_lt, cmp_gt, cmp_ge, cmp_le, add_int, sub_int, wipeS, Tg.go, Tg.go.goAll, ex_tup, ex_cons, ex_tl, List.length_cons, List.length_nil, Nat.zero_add, Nat.reduceAdd, Nat.reduceLT, true_and, and_true, sizeLine_eq, Nat.reduceLeDiff, Nat.zero_le, ex_or, ex_or2, items_lst, items_tup, eq_self, un_not, cmp_in, len_lst, rd_w, slc_lst, ty_app, ty_get, mtW, if_true, Bool.false_eq_true, if_false]
    refine .inr ⟨g, r, rfl, hg, ?_⟩
    rw [r1, r2]
    refine o_has_within_lam0 (k := k + n + 21) ?_
    unfold b_has_within_lam0
    simp only [wSs, wS, wE, wEs, wT, wOT, wI, wO, Lit.w, biW, rs_tup, rs_lst, rs_int, rs_str, rs_bl, rs_non, rs_dct, ix_tup, ix_lst, atI_0, atI_1, atI_2, ex_some, ex_some2, ex_int, ex_bl, tru_bl,
  List.getElem?_cons_zero, List.getElem?_cons_succ, List.set_cons_zero, List.set_cons_succ, eqW_str, eqW_int, eqW_bl, cmp_eq, cmp_lt, cmp_gt, cmp_ge, cmp_le, add_int, sub_int, wipeS, Tg.go, Tg.go.goAll, ex_tup, ex_cons, ex_tl, List.length_cons, List.length_nil, Nat.zero_add, Nat.reduceAdd, Nat.reduceLT, true_and, and_true, sizeLine_eq, Nat.reduceLeDiff, Nat.zero_le, ex_or, ex_or2, items_lst, items_tup, eq_self, un_not, cmp_in, len_lst, rd_w, slc_lst, ty_app, ty_get, mtW, if_true, Bool.false_eq_true, if_false]
    rw [Sto.noc_re]
    have := hQ S KeepS.rfl
    unfold embF at this
    exact this
  | cons p ps =>
    rw [if_neg (show ¬ List.isEmpty (p :: ps) = true from Bool.false_ne_true)]
    cases n with
    | zero => cases hn
    | succ n =>
    have ih : embAt n := ih0 n rfl
    have hp : LiOk p := hps p (by simp)
    refine ⟨_, .inr rfl, ?_⟩
    show loopF _ _ (((clL ls).zipIdx 0).map fun p => W.tup [.int p.2, p.1]) _ _
    rw [enum_cl]
    refine loopF_ind (fun xs σ S' => KeepS S S' ∧ ∃ (i : Nat) (rest : List Li) (y4 y5 y6 : Option W), xs = enumC i rest ∧ i + rest.length ≤ ls.length ∧ (∀ l ∈ rest, l ∈ ls) ∧ embF (p :: ps) ls (fOf st) = scan (gAt p ps ls (fOf st)) i rest ∧
      σ = [some (clW (p :: ps)), some (clW ls), some (.ref a), some (.ref g), y4, y5, y6]) ?_ ?_ _ _ _ ?_
    · rintro σ S' ⟨kp, i, rest, y4, y5, y6, e1, _, _, e2, rfl⟩
      cases rest with
      | cons l rest => cases e1
      | nil =>
        simp only [wSs, wS, wE, wEs, wT, wOT, wI, wO, Lit.w, biW, rs_tup, rs_lst, rs_int, rs_str, rs_bl, rs_non, rs_dct, ix_tup, ix_lst, atI_0, atI_1, atI_2, ex_some, ex_some2, ex_int, ex_bl, tru_bl,
  List.getElem?_cons_zero, List.getElem?_cons_succ, List.set_cons_zero, List.set_cons_succ, eqW_str, eqW_int, eqW_bl, cmp_eq, cmp_lt, cmp_gt, cmp_ge, cmp_le, add_int, sub_int, wipeS, Tg.go, Tg.go.goAll, ex_tup, ex_cons, ex_tl, List.length_cons, List.length_nil, Nat.zero_add, Nat.reduceAdd, Nat.reduceLT, true_and, and_true, sizeLine_eq, Nat.reduceLeDiff, Nat.zero_le, ex_or, ex_or2, items_lst, items_tup, eq_self, un_not, cmp_in, len_lst, rd_w, slc_lst, ty_app, ty_get, mtW, if_true, Bool.false_eq_true, if_false]
        have := hQ S' kp
        rw [e2] at this
        exact this
    · rintro x xs σ S' N ⟨kp, i, rest, y4, y5, y6, e1, hi, hm, e2, rfl⟩ hN
      cases rest with
      | nil => cases e1
      | cons l rest =>
        obtain ⟨rfl, rfl⟩ := List.cons.inj e1
        have hil : i < ls.length := by simp at hi; omega
        unfold b_embeds_3
        simp only [wSs, wS, wE, wEs, wT, wOT, wI, wO, Lit.w, biW, rs_tup, rs_lst, rs_int, rs_str, rs_bl, rs_non, rs_dct, ix_tup, ix_lst, atI_0, atI_1, atI_2, ex_some, ex_some2, ex_int, ex_bl, tru_bl,
  List.getElem?_cons_zero, List.getElem?_cons_succ, List.set_cons_zero, List.set_cons_succ, eqW_str, eqW_int, eqW_bl, cmp_eq, cmp_lt, cmp_gt, cmp_ge, cmp_le, add_int, sub_int, wipeS, Tg.go, Tg.go.goAll, ex_tup, ex_cons, ex_tl, List.length_cons, List.length_nil, Nat.zero_add, Nat.reduceAdd, Nat.reduceLT, true_and, and_true, sizeLine_eq, Nat.reduceLeDiff, Nat.zero_le, ex_or, ex_or2, items_lst, items_tup, eq_self, un_not, cmp_in, len_lst, rd_w, slc_lst, ty_app, ty_get, mtW, if_true, Bool.false_eq_true, if_false, rd_cl, at_cl]
        refine s_fits_of (k := k + n + 1) hp (hls l (hm l (by simp))) hst (by omega) (kp _ _ hS) fun es S1 kp1 hr hG => ?_
        simp only [wSs, wS, wE, wEs, wT, wOT, wI, wO, Lit.w, biW, rs_tup, rs_lst, rs_int, rs_str, rs_bl, rs_non, rs_dct, ix_tup, ix_lst, atI_0, atI_1, atI_2, ex_some, ex_some2, ex_int, ex_bl, tru_bl,
  List.getElem?_cons_zero, List.getElem?_cons_succ, List.set_cons_zero, List.set_cons_succ, eqW_str, eqW_int, eqW_bl, cmp_eq, cmp_lt, cmp_gt, cmp_ge, cmp_le, add_int, sub_int, wipeS, Tg.go, Tg.go.goAll, ex_tup, ex_cons, ex_tl, List.length_cons, List.length_nil, Nat.zero_add, Nat.reduceAdd, Nat.reduceLT, true_and, and_true, sizeLine_eq, Nat.reduceLeDiff, Nat.zero_le, ex_or, ex_or2, items_lst, items_tup, eq_self, un_not, cmp_in, len_lst, rd_w, slc_lst, ty_app, ty_get, mtW, if_true, Bool.false_eq_true, if_false]
        have ea : gAt p ps ls (fOf st) i l = anyG (embF ps (ls.take i ++ ls.drop (i + 1))) es := (hG _).symm
        refine loopF_ind (fun xs σ S2 => KeepS S1 S2 ∧ ∃ (more : List (Addr × Stf)) (y6 : Option W), xs = refs more ∧ Res (dmO p (fOf st)) (st.length + 170) S1 more ∧ anyG (embF ps (ls.take i ++ ls.drop (i + 1))) es = anyG (embF ps (ls.take i ++ ls.drop (i + 1))) more ∧
          σ = [some (clW (p :: ps)), some (clW ls), some (.ref a), some (.ref g), some (.int (i : Int)), some (liW l), y6]) ?_ ?_ _ _ _ ?_
        · rintro σ S2 ⟨kp2, more, y6, f1, _, f2, rfl⟩
          cases more with
          | cons e more => cases f1
          | nil =>
            refine hN _ _ ⟨(kp.trans kp1).trans kp2, i + 1, rest, _, _, _, rfl, by simp at hi; omega, fun l hl => hm l (by simp [hl]), ?_, rfl⟩
            rw [e2]
            show (gAt p ps ls (fOf st) i l || _) = _
            rw [ea, f2]
            rfl
        · rintro x xs σ S2 N2 ⟨kp2, more, y6, f1, hr2, f2, rfl⟩ hN2
          cases more with
          | nil => cases f1
          | cons e more =>
            obtain ⟨rfl, rfl⟩ := List.cons.inj f1
            obtain ⟨t1, t2, t3, t4⟩ := hr2 e (by simp)
            unfold b_embeds_2
            have c1 := hd_cl ls i
            have c2 := tk_cl ls i
            have c3 : binW .Add (clW (ls.take i)) (clW (ls.drop (i + 1))) = some (clW (ls.take i ++ ls.drop (i + 1))) := add_cl (by simp; omega)
            simp only [wSs, wS, wE, wEs, wT, wOT, wI, wO, Lit.w, biW, rs_tup, rs_lst, rs_int, rs_str, rs_bl, rs_non, rs_dct, ix_tup, ix_lst, atI_0, atI_1, atI_2, ex_some, ex_some2, ex_int, ex_bl, tru_bl,
  List.getElem?_cons_zero, List.getElem?_cons_succ, List.set_cons_zero, List.set_cons_succ, eqW_str, eqW_int, eqW_bl, cmp_eq, cmp_lt, cmp_gt, cmp_ge, cmp_le, add_int, sub_int, wipeS, Tg.go, Tg.go.goAll, ex_tup, ex_cons, ex_tl, List.length_cons, List.length_nil, Nat.zero_add, Nat.reduceAdd, Nat.reduceLT, true_and, and_true, sizeLine_eq, Nat.reduceLeDiff, Nat.zero_le, ex_or, ex_or2, items_lst, items_tup, eq_self, un_not, cmp_in, len_lst, rd_w, slc_lst, ty_app, ty_get, mtW, if_true, Bool.false_eq_true, if_false, rd_cl, tl_cl, c1, c2, c3]
            have kpS := (kp.trans kp1).trans kp2
            refine ih (k := k) (st := e.2) (by simpa using hn) (hps.sub fun l hl => by simp [hl]) (hls.sub fun l hl => ?_) (by simp; omega) t2 (by omega) (kp2 _ _ t1) (kpS _ _ hg) r1 r2 fun S3 kp3 => ?_
            · rcases List.mem_append.mp hl with z | z
              · exact List.mem_of_mem_take z
              · exact List.mem_of_mem_drop z
            · simp only [wSs, wS, wE, wEs, wT, wOT, wI, wO, Lit.w, biW, rs_tup, rs_lst, rs_int, rs_str, rs_bl, rs_non, rs_dct, ix_tup, ix_lst, atI_0, atI_1, atI_2, ex_some, ex_some2, ex_int, ex_bl, tru_bl,
  List.getElem?_cons_zero, List.getElem?_cons_succ, List.set_cons_zero, List.set_cons_succ, eqW_str, eqW_int, eqW_bl, cmp_eq, cmp_lt, cmp_gt, cmp_ge, cmp_le, add_int, sub_int, wipeS, Tg.go, Tg.go.goAll, ex_tup, ex_cons, ex_tl, List.length_cons, List.length_nil, Nat.zero_add, Nat.reduceAdd, Nat.reduceLT, true_and, and_true, sizeLine_eq, Nat.reduceLeDiff, Nat.zero_le, ex_or, ex_or2, items_lst, items_tup, eq_self, un_not, cmp_in, len_lst, rd_w, slc_lst, ty_app, ty_get, mtW, if_true, Bool.false_eq_true, if_false]
              have fe : anyG (embF ps (ls.take i ++ ls.drop (i + 1))) (e :: more) = (embF ps (ls.take i ++ ls.drop (i + 1)) (fOf e.2) || anyG (embF ps (ls.take i ++ ls.drop (i + 1))) more) := rfl
              rw [fe] at f2
              cases q : embF ps (ls.take i ++ ls.drop (i + 1)) (fOf e.2) with
              | true =>
                unfold b_embeds_1
                simp only [wSs, wS, wE, wEs, wT, wOT, wI, wO, Lit.w, biW, rs_tup, rs_lst, rs_int, rs_str, rs_bl, rs_non, rs_dct, ix_tup, ix_lst, atI_0, atI_1, atI_2, ex_some, ex_some2, ex_int, ex_bl, tru_bl,
  List.getElem?_cons_zero, List.getElem?_cons_succ, List.set_cons_zero, List.set_cons_succ, eqW_str, eqW_int, eqW_bl, cmp_eq, cmp_lt, cmp_gt, cmp_ge, cmp_le, add_int, sub_int, wipeS, Tg.go, Tg.go.goAll, ex_tup, ex_cons, ex_tl, List.length_cons, List.length_nil, Nat.zero_add, Nat.reduceAdd, Nat.reduceLT, true_and, and_true, sizeLine_eq, Nat.reduceLeDiff, Nat.zero_le, ex_or, ex_or2, items_lst, items_tup, eq_self, un_not, cmp_in, len_lst, rd_w, slc_lst, ty_app, ty_get, mtW, if_true, Bool.false_eq_true, if_false]
                have := hQ S3 (kpS.trans kp3)
                rw [e2] at this
                have e3 : scan (gAt p ps ls (fOf st)) i (l :: rest) = true := by
                  show (gAt p ps ls (fOf st) i l || _) = true
                  rw [ea, f2, q]; rfl
                rw [e3] at this
                exact this
              | false =>
                rw [q] at f2
                simp only [wSs, wS, wE, wEs, wT, wOT, wI, wO, Lit.w, biW, rs_tup, rs_lst, rs_int, rs_str, rs_bl, rs_non, rs_dct, ix_tup, ix_lst, atI_0, atI_1, atI_2, ex_some, ex_some2, ex_int, ex_bl, tru_bl,
  List.getElem?_cons_zero, List.getElem?_cons_succ, List.set_cons_zero, List.set_cons_succ, eqW_str, eqW_int, eqW_bl, cmp_eq, cmp_lt, cmp_gt, cmp_ge, cmp_le, add_int, sub_int, wipeS, Tg.go, Tg.go.goAll, ex_tup, ex_cons, ex_tl, List.length_cons, List.length_nil, Nat.zero_add, Nat.reduceAdd, Nat.reduceLT, true_and, and_true, sizeLine_eq, Nat.reduceLeDiff, Nat.zero_le, ex_or, ex_or2, items_lst, items_tup, eq_self, un_not, cmp_in, len_lst, rd_w, slc_lst, ty_app, ty_get, mtW, if_true, Bool.false_eq_true, if_false]
                exact hN2 _ _ ⟨kp2.trans kp3, more, _, rfl, fun e' he => hr2 e' (by simp [he]), f2, rfl⟩
        · exact ⟨KeepS.rfl, es, _, rfl, hr, rfl, rfl⟩
    · exact ⟨KeepS.rfl, 0, ls, _, _, _, rfl, by simp, fun _ h => h, emb_scan _ _ _ _, rfl⟩
theorem s_embeds : ∀ n : Nat, embAt n
  | 0 => emb_core 0 fun _ e => nomatch e
  | n + 1 => emb_core (n + 1) fun m e => by cases e; exact s_embeds n
end K29

set_option Elab.async false
set_option linter.all false
set_option maxRecDepth 100000
set_option maxHeartbeats 4000000
namespace K29
open PySem PD
open L2 (atI Key)
def lembAt (n : Nat) : Prop := ∀ {k : Nat} {S : Sto} {Q X : QW} {ps ls : List Li} {st : Stf} {a : Addr}, ps.length = n → okC ps → okC ls → ls.length ≤ 100 → (∀ e ∈ st, e.2.h ≤ 29) → st.length + 170 * n ≤ 1000 → S a = some (.dct (kOf st) (wOf st)) →
  (∀ S', KeepS S S' → Q (.bl (embF ps ls (fOf st))) S') → callK T G0 (k + n + 23) "_law_embeds" [clW ps, clW ls, .ref a] S Q X
def sd (b : Bool) : W := if b then .tup [.int 2, .int 1] else .tup [.int 1, .int 2]
theorem sub_ok {ls : List Li} (h : okC ls) (i : Nat) : okC (ls.take i ++ ls.drop (i + 1)) := h.sub fun l hl => by
  rcases List.mem_append.mp hl with z | z
  · exact List.mem_of_mem_take z
  · exact List.mem_of_mem_drop z
theorem l_turn {n : Nat} (ih : lembAt n) (b : Bool) {k : Nat} {S : Sto} {D : En} {p l : Li} {ps ls : List Li} {st : Stf} {a : Addr} {i : Nat} {y : Option W} (hn : ps.length = n) (hp : LiOk p) (hl : LiOk l) (hps : okC ps) (hls : okC ls) (hll : ls.length ≤ 100) (hst : ∀ e ∈ st, e.2.h ≤ 29)
    (hz : st.length + 170 * (n + 1) ≤ 1000) (hS : S a = some (.dct (kOf st) (wOf st)))
    (hT : opt (embF ps (ls.take i ++ ls.drop (i + 1))) (fit2 p l b (fOf st)) = true → ∀ S', KeepS S S' → D.rt (.bl true) S')
    (hF : opt (embF ps (ls.take i ++ ls.drop (i + 1))) (fit2 p l b (fOf st)) = false → ∀ S' y9, KeepS S S' → D.nx [some (clW (p :: ps)), some (clW ls), some (.ref a), some (.str p.1), some p.2.1.w, some p.2.2.w, some (.int (i : Int)), some (liW l), some (sd b), y9] S') :
    wSs ⟨callK T G0 (k + n + 23), G0⟩ b__law_embeds_4 D [some (clW (p :: ps)), some (clW ls), some (.ref a), some (.str p.1), some p.2.1.w, some p.2.2.w, some (.int (i : Int)), some (liW l), some (sd b), y] S := by
  have ell : liW l = .tup [.str l.1, l.2.1.w, l.2.2.w] := rfl
  have h1 := hl.h1
  have h2 := hl.h2
  have z1 := hp.z1
  have z2 := hp.z2
  have o1 : (if b then l.2.2 else l.2.1).h ≤ 29 := by cases b <;> simp <;> omega
  have o2 : (if b then l.2.1 else l.2.2).h ≤ 29 := by cases b <;> simp <;> omega
  have s1 : ∃ j1 : W, ixW (sd b) (.int 0) = some j1 ∧ ixW (.tup [.str l.1, l.2.1.w, l.2.2.w]) j1 = some (if b then l.2.2 else l.2.1).w := by
    cases b
    · exact ⟨.int 1, by unfold sd; rw [if_neg Bool.false_ne_true, ix_tup, atI_0], by rw [ix_tup, atI_1]; rfl⟩
    · exact ⟨.int 2, by unfold sd; rw [if_pos rfl, ix_tup, atI_0], by rw [ix_tup, atI_2]; rfl⟩
  have s2 : ∃ j2 : W, ixW (sd b) (.int 1) = some j2 ∧ ixW (.tup [.str l.1, l.2.1.w, l.2.2.w]) j2 = some (if b then l.2.1 else l.2.2).w := by
    cases b
    · exact ⟨.int 2, by unfold sd; rw [if_neg Bool.false_ne_true, ix_tup, atI_1], by rw [ix_tup, atI_2]; rfl⟩
    · exact ⟨.int 1, by unfold sd; rw [if_pos rfl, ix_tup, atI_1], by rw [ix_tup, atI_1]; rfl⟩
  obtain ⟨j1, s1a, s1b⟩ := s1
  obtain ⟨j2, s2a, s2b⟩ := s2
  have rsd : ∀ S : Sto, rd S (sd b) = sd b := fun S => by cases b <;> rfl
  generalize hone : (if b then l.2.2 else l.2.1) = one at o1 s1b
  generalize hoth : (if b then l.2.1 else l.2.2) = oth at o2 s2b
  have f2 : fit2 p l b (fOf st) = if l.1 = p.1 then (fitF p.2.1 one (fOf st)).bind fun g => fitF p.2.2 oth g else none := by unfold fit2; rw [hone, hoth]
  generalize hsd : sd b = sdb at *
  have bad : fit2 p l b (fOf st) = none → ∀ S' y9, KeepS S S' → D.nx [some (clW (p :: ps)), some (clW ls), some (.ref a), some (.str p.1), some p.2.1.w, some p.2.2.w, some (.int (i : Int)), some (liW l), some sdb, y9] S' := fun e => hF (by rw [e]; rfl)
  unfold b__law_embeds_4
  simp only [wSs, wS, wE, wEs, wT, wOT, wI, wO, Lit.w, biW, rs_tup, rs_lst, rs_int, rs_str, rs_bl, rs_non, rs_dct, ix_tup, ix_lst, atI_0, atI_1, atI_2, ex_some, ex_some2, ex_int, ex_bl, tru_bl,
  List.getElem?_cons_zero, List.getElem?_cons_succ, List.set_cons_zero, List.set_cons_succ, eqW_str, eqW_int, eqW_bl, cmp_eq, cmp_lt, cmp_gt, cmp_ge, cmp_le, add_int, sub_int, wipeS, Tg.go, Tg.go.goAll, ex_tup, ex_cons, ex_tl, List.length_cons, List.length_nil, Nat.zero_add, Nat.reduceAdd, Nat.reduceLT, true_and, and_true, sizeLine_eq, Nat.reduceLeDiff, Nat.zero_le, ex_or, ex_or2, items_lst, items_tup, eq_self, un_not, cmp_in, len_lst, rd_w, slc_lst, ty_app, ty_get, mtW, if_true, Bool.false_eq_true, if_false, ell]
  by_cases z : l.1 = p.1
  · rw [if_pos z] at f2
    have e1 : (l.1 == p.1) = true := by simp [z]
    rw [e1]
    unfold b__law_embeds_3
    simp only [wSs, wS, wE, wEs, wT, wOT, wI, wO, Lit.w, biW, rs_tup, rs_lst, rs_int, rs_str, rs_bl, rs_non, rs_dct, ix_tup, ix_lst, atI_0, atI_1, atI_2, ex_some, ex_some2, ex_int, ex_bl, tru_bl,
  List.getElem?_cons_zero, List.getElem?_cons_succ, List.set_cons_zero, List.set_cons_succ, eqW_str, eqW_int, eqW_bl, cmp_eq, cmp_lt, cmp_gt, cmp_ge, cmp_le, add_int, sub_int, wipeS, Tg.go, Tg.go.goAll, ex_tup, ex_cons, ex_tl, List.length_cons, List.length_nil, Nat.zero_add, Nat.reduceAdd, Nat.reduceLT, true_and, and_true, sizeLine_eq, Nat.reduceLeDiff, Nat.zero_le, ex_or, ex_or2, items_lst, items_tup, eq_self, un_not, cmp_in, len_lst, rd_w, slc_lst, ty_app, ty_get, mtW, if_true, Bool.false_eq_true, if_false, rsd, s1a, s1b]
    refine s_lfit_on 20 (k := k + n + 3) hp.h1 o1 hst (by omega) hS (fun q S1 kp => ?_) fun st1 S1 b1 q kp1 hb1 => ?_
    · simp only [wSs, wS, wE, wEs, wT, wOT, wI, wO, Lit.w, biW, rs_tup, rs_lst, rs_int, rs_str, rs_bl, rs_non, rs_dct, ix_tup, ix_lst, atI_0, atI_1, atI_2, ex_some, ex_some2, ex_int, ex_bl, tru_bl,
  List.getElem?_cons_zero, List.getElem?_cons_succ, List.set_cons_zero, List.set_cons_succ, eqW_str, eqW_int, eqW_bl, cmp_eq, cmp_lt, cmp_gt, cmp_ge, cmp_le, add_int, sub_int, wipeS, Tg.go, Tg.go.goAll, ex_tup, ex_cons, ex_tl, List.length_cons, List.length_nil, Nat.zero_add, Nat.reduceAdd, Nat.reduceLT, true_and, and_true, sizeLine_eq, Nat.reduceLeDiff, Nat.zero_le, ex_or, ex_or2, items_lst, items_tup, eq_self, un_not, cmp_in, len_lst, rd_w, slc_lst, ty_app, ty_get, mtW, if_true, Bool.false_eq_true, if_false, rs_non, isn_non]
      exact bad (by rw [f2, fit_F, q]; rfl) S1 _ kp
    · have l1 := fit_len _ _ _ _ q
      have d1 := fit_hs (m := 29) _ _ _ _ q o1 hst
      simp only [wSs, wS, wE, wEs, wT, wOT, wI, wO, Lit.w, biW, rs_tup, rs_lst, rs_int, rs_str, rs_bl, rs_non, rs_dct, ix_tup, ix_lst, atI_0, atI_1, atI_2, ex_some, ex_some2, ex_int, ex_bl, tru_bl,
  List.getElem?_cons_zero, List.getElem?_cons_succ, List.set_cons_zero, List.set_cons_succ, eqW_str, eqW_int, eqW_bl, cmp_eq, cmp_lt, cmp_gt, cmp_ge, cmp_le, add_int, sub_int, wipeS, Tg.go, Tg.go.goAll, ex_tup, ex_cons, ex_tl, List.length_cons, List.length_nil, Nat.zero_add, Nat.reduceAdd, Nat.reduceLT, true_and, and_true, sizeLine_eq, Nat.reduceLeDiff, Nat.zero_le, ex_or, ex_or2, items_lst, items_tup, eq_self, un_not, cmp_in, len_lst, rd_w, slc_lst, ty_app, ty_get, mtW, if_true, Bool.false_eq_true, if_false, isn_ref hb1]
      unfold b__law_embeds_2
      simp only [wSs, wS, wE, wEs, wT, wOT, wI, wO, Lit.w, biW, rs_tup, rs_lst, rs_int, rs_str, rs_bl, rs_non, rs_dct, ix_tup, ix_lst, atI_0, atI_1, atI_2, ex_some, ex_some2, ex_int, ex_bl, tru_bl,
  List.getElem?_cons_zero, List.getElem?_cons_succ, List.set_cons_zero, List.set_cons_succ, eqW_str, eqW_int, eqW_bl, cmp_eq, cmp_lt, cmp_gt, cmp_ge, cmp_le, add_int, sub_int, wipeS, Tg.go, Tg.go.goAll, ex_tup, ex_cons, ex_tl, List.length_cons, List.length_nil, Nat.zero_add, Nat.reduceAdd, Nat.reduceLT, true_and, and_true, sizeLine_eq, Nat.reduceLeDiff, Nat.zero_le, ex_or, ex_or2, items_lst, items_tup, eq_self, un_not, cmp_in, len_lst, rd_w, slc_lst, ty_app, ty_get, mtW, if_true, Bool.false_eq_true, if_false, rsd, s2a, s2b]
      refine s_lfit_on 20 (k := k + n + 3) hp.h2 o2 d1 (by omega) hb1 (fun q2 S2 kp2 => ?_) fun st2 S2 b2 q2 kp2 hb2 => ?_
      · simp only [wSs, wS, wE, wEs, wT, wOT, wI, wO, Lit.w, biW, rs_tup, rs_lst, rs_int, rs_str, rs_bl, rs_non, rs_dct, ix_tup, ix_lst, atI_0, atI_1, atI_2, ex_some, ex_some2, ex_int, ex_bl, tru_bl,
  List.getElem?_cons_zero, List.getElem?_cons_succ, List.set_cons_zero, List.set_cons_succ, eqW_str, eqW_int, eqW_bl, cmp_eq, cmp_lt, cmp_gt, cmp_ge, cmp_le, add_int, sub_int, wipeS, Tg.go, Tg.go.goAll, ex_tup, ex_cons, ex_tl, List.length_cons, List.length_nil, Nat.zero_add, Nat.reduceAdd, Nat.reduceLT, true_and, and_true, sizeLine_eq, Nat.reduceLeDiff, Nat.zero_le, ex_or, ex_or2, items_lst, items_tup, eq_self, un_not, cmp_in, len_lst, rd_w, slc_lst, ty_app, ty_get, mtW, if_true, Bool.false_eq_true, if_false, rs_non, isn_non]
        exact bad (by rw [f2, fit_F, q]; show fitF p.2.2 oth (fOf st1) = none; rw [fit_F, q2]; rfl) S2 _ (kp1.trans kp2)
      · have l2 := fit_len _ _ _ _ q2
        have d2 := fit_hs (m := 29) _ _ _ _ q2 o2 d1
        have ef : fit2 p l b (fOf st) = some (fOf st2) := by
          rw [f2, fit_F, q]; show fitF p.2.2 oth (fOf st1) = _; rw [fit_F, q2]; rfl
        have c1 := hd_cl ls i
        have c2 := tk_cl ls i
        have c3 : binW .Add (clW (ls.take i)) (clW (ls.drop (i + 1))) = some (clW (ls.take i ++ ls.drop (i + 1))) := add_cl (by simp; omega)
        simp only [wSs, wS, wE, wEs, wT, wOT, wI, wO, Lit.w, biW, rs_tup, rs_lst, rs_int, rs_str, rs_bl, rs_non, rs_dct, ix_tup, ix_lst, atI_0, atI_1, atI_2, ex_some, ex_some2, ex_int, ex_bl, tru_bl,
  List.getElem?_cons_zero, List.getElem?_cons_succ, List.set_cons_zero, List.set_cons_succ, eqW_str, eqW_int, eqW_bl, cmp_eq, cmp_lt, cmp_gt, cmp_ge, cmp_le, add_int, sub_int, wipeS, Tg.go, Tg.go.goAll, ex_tup, ex_cons, ex_tl, List.length_cons, List.length_nil, Nat.zero_add, Nat.reduceAdd, Nat.reduceLT, true_and, and_true, sizeLine_eq, Nat.reduceLeDiff, Nat.zero_le, ex_or, ex_or2, items_lst, items_tup, eq_self, un_not, cmp_in, len_lst, rd_w, slc_lst, ty_app, ty_get, mtW, if_true, Bool.false_eq_true, if_false, isn_ref hb2, rd_cl, tl_cl, c1, c2, c3]
        refine ih (k := k) hn hps (sub_ok hls i) (by simp; omega) d2 (by omega) hb2 fun S3 kp3 => ?_
        have kp := (kp1.trans kp2).trans kp3
        rw [ef] at hT hF
        have hT' : embF ps (ls.take i ++ ls.drop (i + 1)) (fOf st2) = true → _ := hT
        have hF' : embF ps (ls.take i ++ ls.drop (i + 1)) (fOf st2) = false → _ := hF
        simp only [wSs, wS, wE, wEs, wT, wOT, wI, wO, Lit.w, biW, rs_tup, rs_lst, rs_int, rs_str, rs_bl, rs_non, rs_dct, ix_tup, ix_lst, atI_0, atI_1, atI_2, ex_some, ex_some2, ex_int, ex_bl, tru_bl,
  List.getElem?_cons_zero, List.getElem?_cons_succ, List.set_cons_zero, List.set_cons_succ, eqW_str, eqW_int, eqW_bl, cmp_eq, cmp_lt, cmp_gt, cmp_ge, cmp_le, add_int, sub_int, wipeS, Tg.go, Tg.go.goAll, ex_tup, ex_cons, ex_tl, List.length_cons, List.length_nil, Nat.zero_add, Nat.reduceAdd, Nat.reduceLT, true_and, and_true, sizeLine_eq, Nat.reduceLeDiff, Nat.zero_le, ex_or, ex_or2, items_lst, items_tup, eq_self, un_not, cmp_in, len_lst, rd_w, slc_lst, ty_app, ty_get, mtW, if_true, Bool.false_eq_true, if_false]
        cases q3 : embF ps (ls.take i ++ ls.drop (i + 1)) (fOf st2) with
        | true =>
          unfold b__law_embeds_1
          simp only [wSs, wS, wE, wEs, wT, wOT, wI, wO, Lit.w, biW, rs_tup, rs_lst, rs_int, rs_str, rs_bl, rs_non, rs_dct, ix_tup, ix_lst, atI_0, atI_1, atI_2, ex_some, ex_some2, ex_int, ex_bl, tru_bl,
  List.getElem?_cons_zero, List.getElem?_cons_succ, List.set_cons_zero, List.set_cons_succ, eqW_str, eqW_int, eqW_bl, cmp_eq, cmp_lt, cmp_gt, cmp_ge, cmp_le, add_int, sub_int, wipeS, Tg.go, Tg.go.goAll, ex_tup, ex_cons, ex_tl, List.length_cons, List.length_nil, Nat.zero_add, Nat.reduceAdd, Nat.reduceLT, true_and, and_true, sizeLine_eq, Nat.reduceLeDiff, Nat.zero_le, ex_or, ex_or2, items_lst, items_tup, eq_self, un_not, cmp_in, len_lst, rd_w, slc_lst, ty_app, ty_get, mtW, if_true, Bool.false_eq_true, if_false]
          exact hT' q3 S3 kp
        | false =>
          simp only [wSs, wS, wE, wEs, wT, wOT, wI, wO, Lit.w, biW, rs_tup, rs_lst, rs_int, rs_str, rs_bl, rs_non, rs_dct, ix_tup, ix_lst, atI_0, atI_1, atI_2, ex_some, ex_some2, ex_int, ex_bl, tru_bl,
  List.getElem?_cons_zero, List.getElem?_cons_succ, List.set_cons_zero, List.set_cons_succ, eqW_str, eqW_int, eqW_bl, cmp_eq, cmp_lt, cmp_gt, cmp_ge, cmp_le, add_int, sub_int, wipeS, Tg.go, Tg.go.goAll, ex_tup, ex_cons, ex_tl, List.length_cons, List.length_nil, Nat.zero_add, Nat.reduceAdd, Nat.reduceLT, true_and, and_true, sizeLine_eq, Nat.reduceLeDiff, Nat.zero_le, ex_or, ex_or2, items_lst, items_tup, eq_self, un_not, cmp_in, len_lst, rd_w, slc_lst, ty_app, ty_get, mtW, if_true, Bool.false_eq_true, if_false]
          exact hF' q3 S3 _ kp
  · rw [if_neg z] at f2
    have e1 : (l.1 == p.1) = false := by simp [z]
    rw [e1]
    simp only [wSs, wS, wE, wEs, wT, wOT, wI, wO, Lit.w, biW, rs_tup, rs_lst, rs_int, rs_str, rs_bl, rs_non, rs_dct, ix_tup, ix_lst, atI_0, atI_1, atI_2, ex_some, ex_some2, ex_int, ex_bl, tru_bl,
  List.getElem?_cons_zero, List.getElem?_cons_succ, List.set_cons_zero, List.set_cons_succ, eqW_str, eqW_int, eqW_bl, cmp_eq, cmp_lt, cmp_gt, cmp_ge, cmp_le, add_int, sub_int, wipeS, Tg.go, Tg.go.goAll, ex_tup, ex_cons, ex_tl, List.length_cons, List.length_nil, Nat.zero_add, Nat.reduceAdd, Nat.reduceLT, true_and, and_true, sizeLine_eq, Nat.reduceLeDiff, Nat.zero_le, ex_or, ex_or2, items_lst, items_tup, eq_self, un_not, cmp_in, len_lst, rd_w, slc_lst, ty_app, ty_get, mtW, if_true, Bool.false_eq_true, if_false, rs_non, isn_non]
    exact bad f2 S _ KeepS.rfl
theorem lemb_core (n : Nat) (ih0 : ∀ m, n = m + 1 → lembAt m) : lembAt n := by
  intro k S Q X ps ls st a hn hps hls hll hst hz hS hQ
  refine o__law_embeds ?_
  unfold b__law_embeds
  simp only [wSs, wS, wE, wEs, wT, wOT, wI, wO, Lit.w, biW, rs_tup, rs_lst, rs_int, rs_str, rs_bl, rs_non, rs_dct, ix_tup, ix_lst, atI_0, atI_1, atI_2, ex_some, ex_some2, ex_int, ex_bl, tru_bl,
  List.getElem?_cons_zero, List.getElem?_cons_succ, List.set_cons_zero, List.set_cons_succ, eqW_str, eqW_int, eqW_bl, cmp_eq, cmp_lt, cmp_gt, cmp_ge, cmp_le, add_int, sub_int, wipeS, Tg.go, Tg.go.goAll, ex_tup, ex_cons, ex_tl, List.length_cons, List.length_nil, Nat.zero_add, Nat.reduceAdd, Nat.reduceLT, true_and, and_true, sizeLine_eq, Nat.reduceLeDiff, Nat.zero_le, ex_or, ex_or2, items_lst, items_tup, eq_self, un_not, cmp_in, len_lst, rd_w, slc_lst, ty_app, ty_get, mtW, if_true, Bool.false_eq_true, if_false, rd_cl, eq_cl]
  cases ps with
  | nil =>
    rw [if_pos (show List.isEmpty ([] : List Li) = true from rfl)]
    unfold b__law_embeds_6
    simp only [wSs, wS, wE, wEs, wT, wOT, wI, wO, Lit.w, biW, rs_tup, rs_lst, rs_int, rs_str, rs_bl, rs_non, rs_dct, ix_tup, ix_lst, atI_0, atI_1, atI_2, ex_some, ex_some2, ex_int, ex_bl, tru_bl,
  List.getElem?_cons_zero, List.getElem?_cons_succ, List.set_cons_zero, List.set_cons_succ, eqW_str, eqW_int, eqW_bl, cmp_eq, cmp_lt, cmp_gt, cmp_ge, cmp_le, add_int, sub_int, wipeS, Tg.go, Tg.go.goAll, ex_tup, ex_cons, ex_tl, List.length_cons, List.length_nil, Nat.zero_add, Nat.reduceAdd, Nat.reduceLT, true_and, and_true, sizeLine_eq, Nat.reduceLeDiff, Nat.zero_le, ex_or, ex_or2, items_lst, items_tup, eq_self, un_not, cmp_in, len_lst, rd_w, slc_lst, ty_app, ty_get, mtW, if_true, Bool.false_eq_true, if_false]
    have := hQ S KeepS.rfl
    unfold embF at this
    exact this
  | cons p ps =>
    rw [if_neg (show ¬ List.isEmpty (p :: ps) = true from Bool.false_ne_true)]
    cases n with
    | zero => cases hn
    | succ n =>
    have ih : lembAt n := ih0 n rfl
    have hp : LiOk p := hps p (by simp)
    simp only [wSs, wS, wE, wEs, wT, wOT, wI, wO, Lit.w, biW, rs_tup, rs_lst, rs_int, rs_str, rs_bl, rs_non, rs_dct, ix_tup, ix_lst, atI_0, atI_1, atI_2, ex_some, ex_some2, ex_int, ex_bl, tru_bl,
  List.getElem?_cons_zero, List.getElem?_cons_succ, List.set_cons_zero, List.set_cons_succ, eqW_str, eqW_int, eqW_bl, cmp_eq, cmp_lt, cmp_gt, cmp_ge, cmp_le, add_int, sub_int, wipeS, Tg.go, Tg.go.goAll, ex_tup, ex_cons, ex_tl, List.length_cons, List.length_nil, Nat.zero_add, Nat.reduceAdd, Nat.reduceLT, true_and, and_true, sizeLine_eq, Nat.reduceLeDiff, Nat.zero_le, ex_or, ex_or2, items_lst, items_tup, eq_self, un_not, cmp_in, len_lst, rd_w, slc_lst, ty_app, ty_get, mtW, if_true, Bool.false_eq_true, if_false, rd_cl, at_cl]
    refine ⟨_, (show liW p = .tup [.str p.1, p.2.1.w, p.2.2.w] from rfl), ?_⟩
    simp only [wSs, wS, wE, wEs, wT, wOT, wI, wO, Lit.w, biW, rs_tup, rs_lst, rs_int, rs_str, rs_bl, rs_non, rs_dct, ix_tup, ix_lst, atI_0, atI_1, atI_2, ex_some, ex_some2, ex_int, ex_bl, tru_bl,
  List.getElem?_cons_zero, List.getElem?_cons_succ, List.set_cons_zero, List.set_cons_succ, eqW_str, eqW_int, eqW_bl, cmp_eq, cmp_lt, cmp_gt, cmp_ge, cmp_le, add_int, sub_int, wipeS, Tg.go, Tg.go.goAll, ex_tup, ex_cons, ex_tl, List.length_cons, List.length_nil, Nat.zero_add, Nat.reduceAdd, Nat.reduceLT, true_and, and_true, sizeLine_eq, Nat.reduceLeDiff, Nat.zero_le, ex_or, ex_or2, items_lst, items_tup, eq_self, un_not, cmp_in, len_lst, rd_w, slc_lst, ty_app, ty_get, mtW, if_true, Bool.false_eq_true, if_false]
    refine ⟨_, .inr rfl, ?_⟩
    show loopF _ _ (((clL ls).zipIdx 0).map fun p => W.tup [.int p.2, p.1]) _ _
    rw [enum_cl]
    refine loopF_ind (fun xs σ S' => KeepS S S' ∧ ∃ (i : Nat) (rest : List Li) (y6 y7 y8 y9 : Option W), xs = enumC i rest ∧ i + rest.length ≤ ls.length ∧ (∀ l ∈ rest, l ∈ ls) ∧ embF (p :: ps) ls (fOf st) = scan (gAt p ps ls (fOf st)) i rest ∧
      σ = [some (clW (p :: ps)), some (clW ls), some (.ref a), some (.str p.1), some p.2.1.w, some p.2.2.w, y6, y7, y8, y9]) ?_ ?_ _ _ _ ?_
    · rintro σ S' ⟨kp, i, rest, y6, y7, y8, y9, e1, _, _, e2, rfl⟩
      cases rest with
      | cons l rest => cases e1
      | nil =>
        simp only [wSs, wS, wE, wEs, wT, wOT, wI, wO, Lit.w, biW, rs_tup, rs_lst, rs_int, rs_str, rs_bl, rs_non, rs_dct, ix_tup, ix_lst, atI_0, atI_1, atI_2, ex_some, ex_some2, ex_int, ex_bl, tru_bl,
  List.getElem?_cons_zero, List.getElem?_cons_succ, List.set_cons_zero, List.set_cons_succ, eqW_str, eqW_int, eqW_bl, cmp_eq, cmp_lt, cmp_gt, cmp_ge, cmp_le, add_int, sub_int, wipeS, Tg.go, Tg.go.goAll, ex_tup, ex_cons, ex_tl, List.length_cons, List.length_nil, Nat.zero_add, Nat.reduceAdd, Nat.reduceLT, true_and, and_true, sizeLine_eq, Nat.reduceLeDiff, Nat.zero_le, ex_or, ex_or2, items_lst, items_tup, eq_self, un_not, cmp_in, len_lst, rd_w, slc_lst, ty_app, ty_get, mtW, if_true, Bool.false_eq_true, if_false]
        have := hQ S' kp
        rw [e2] at this
        exact this
    · rintro x xs σ S' N ⟨kp, i, rest, y6, y7, y8, y9, e1, hi, hm, e2, rfl⟩ hN
      cases rest with
      | nil => cases e1
      | cons l rest =>
        obtain ⟨rfl, rfl⟩ := List.cons.inj e1
        have hil : i < ls.length := by simp at hi; omega
        have hl : LiOk l := hls l (hm l (by simp))
        have sg : scan (gAt p ps ls (fOf st)) i (l :: rest) = ((opt (embF ps (ls.take i ++ ls.drop (i + 1))) (fit2 p l false (fOf st)) || opt (embF ps (ls.take i ++ ls.drop (i + 1))) (fit2 p l true (fOf st))) || scan (gAt p ps ls (fOf st)) (i + 1) rest) := rfl
        rw [sg] at e2
        have good : embF (p :: ps) ls (fOf st) = true → ∀ S2, KeepS S S2 → Q (.bl true) S2 := fun e S2 k2 => by
          have := hQ S2 k2
          rw [e] at this
          exact this
        unfold b__law_embeds_5
        simp only [wSs, wS, wE, wEs, wT, wOT, wI, wO, Lit.w, biW, rs_tup, rs_lst, rs_int, rs_str, rs_bl, rs_non, rs_dct, ix_tup, ix_lst, atI_0, atI_1, atI_2, ex_some, ex_some2, ex_int, ex_bl, tru_bl,
  List.getElem?_cons_zero, List.getElem?_cons_succ, List.set_cons_zero, List.set_cons_succ, eqW_str, eqW_int, eqW_bl, cmp_eq, cmp_lt, cmp_gt, cmp_ge, cmp_le, add_int, sub_int, wipeS, Tg.go, Tg.go.goAll, ex_tup, ex_cons, ex_tl, List.length_cons, List.length_nil, Nat.zero_add, Nat.reduceAdd, Nat.reduceLT, true_and, and_true, sizeLine_eq, Nat.reduceLeDiff, Nat.zero_le, ex_or, ex_or2, items_lst, items_tup, eq_self, un_not, cmp_in, len_lst, rd_w, slc_lst, ty_app, ty_get, mtW, if_true, Bool.false_eq_true, if_false, loopF]
        refine l_turn ih false (k := k) (l := l) (by simpa using hn) hp hl (hps.sub fun l hl => by simp [hl]) hls hll hst hz (kp _ _ hS) (fun e S2 k2 => ?_) fun e S2 y9 k2 => ?_
        · exact good (by rw [e2, e]; rfl) S2 (kp.trans k2)
        · simp only [wSs, wS, wE, wEs, wT, wOT, wI, wO, Lit.w, biW, rs_tup, rs_lst, rs_int, rs_str, rs_bl, rs_non, rs_dct, ix_tup, ix_lst, atI_0, atI_1, atI_2, ex_some, ex_some2, ex_int, ex_bl, tru_bl,
  List.getElem?_cons_zero, List.getElem?_cons_succ, List.set_cons_zero, List.set_cons_succ, eqW_str, eqW_int, eqW_bl, cmp_eq, cmp_lt, cmp_gt, cmp_ge, cmp_le, add_int, sub_int, wipeS, Tg.go, Tg.go.goAll, ex_tup, ex_cons, ex_tl, List.length_cons, List.length_nil, Nat.zero_add, Nat.reduceAdd, Nat.reduceLT, true_and, and_true, sizeLine_eq, Nat.reduceLeDiff, Nat.zero_le, ex_or, ex_or2, items_lst, items_tup, eq_self, un_not, cmp_in, len_lst, rd_w, slc_lst, ty_app, ty_get, mtW, if_true, Bool.false_eq_true, if_false]
          refine l_turn ih true (k := k) (l := l) (by simpa using hn) hp hl (hps.sub fun l hl => by simp [hl]) hls hll hst hz (k2 _ _ (kp _ _ hS)) (fun e' S3 k3 => ?_) fun e' S3 y9 k3 => ?_
          · exact good (by rw [e2, e', e]; rfl) S3 ((kp.trans k2).trans k3)
          · refine hN _ _ ⟨(kp.trans k2).trans k3, i + 1, rest, _, _, _, _, rfl, by simp at hi; omega, fun l hl => hm l (by simp [hl]), ?_, rfl⟩
            rw [e2, e, e']
            rfl
    · exact ⟨KeepS.rfl, 0, ls, _, _, _, _, rfl, by simp, fun _ h => h, emb_scan _ _ _ _, rfl⟩
theorem s_lembeds : ∀ n : Nat, lembAt n
  | 0 => lemb_core 0 fun _ e => nomatch e
  | n + 1 => lemb_core (n + 1) fun m e => by cases e; exact s_lembeds n
end K29

set_option Elab.async false
set_option linter.all false
set_option maxRecDepth 100000
set_option maxHeartbeats 4000000
namespace K29
open PySem PD
open L2 (atI Key)
theorem hs2 {x y : PD.Tm} (hx : x.h ≤ 20) (hy : y.h ≤ 20) : Tm.hs [x, y] ≤ 28 := by
  show max x.h (max y.h 0) ≤ 28
  omega
theorem eq2 {x y u v : PD.Tm} (hx : x.h ≤ 20) (hy : y.h ≤ 20) (hu : u.h ≤ 20) (hv : v.h ≤ 20) : eqW (.tup [x.w, y.w]) (.tup [u.w, v.w]) = some (decide ([x, y] = [u, v])) := eq_tms (hs2 hx hy) (hs2 hu hv)
theorem sl_li (l : Li) : slcW (liW l) (some 1) none = some (.tup [l.2.1.w, l.2.2.w]) := by
  show slcW (.tup [.str l.1, l.2.1.w, l.2.2.w]) (some 1) none = _
  rw [slc_tup]
  have : cutW [W.str l.1, l.2.1.w, l.2.2.w] (some 1) none = [W.str l.1, l.2.1.w, l.2.2.w].drop 1 := cut_drop (k := 1)
  rw [this]; rfl
theorem i0_li (l : Li) : ixW (liW l) (.int 0) = some (.str l.1) := by
  show ixW (.tup [.str l.1, l.2.1.w, l.2.2.w]) (.int 0) = _
  rw [ix_tup, atI_0]
theorem i1_li (l : Li) : ixW (liW l) (.int 1) = some l.2.1.w := by
  show ixW (.tup [.str l.1, l.2.1.w, l.2.2.w]) (.int 1) = _
  rw [ix_tup, atI_1]
theorem i2_li (l : Li) : ixW (liW l) (.int 2) = some l.2.2.w := by
  show ixW (.tup [.str l.1, l.2.1.w, l.2.2.w]) (.int 2) = _
  rw [ix_tup, atI_2]
theorem s_same {k : Nat} {S : Sto} {Q X : QW} {a b : Li} (ha : LiOk a) (hb : LiOk b) (h : Q (.bl (sameB a b)) S) : callK T G0 (k + 1) "same" [liW a, liW b] S Q X := by
  refine o_same ?_
  unfold b_same
  simp only [wSs, wS, wE, wEs, wT, wOT, wI, wO, Lit.w, biW, rs_tup, rs_lst, rs_int, rs_str, rs_bl, rs_non, rs_dct, ix_tup, ix_lst, atI_0, atI_1, atI_2, ex_some, ex_some2, ex_int, ex_bl, tru_bl,
  List.getElem?_cons_zero, List.getElem?_cons_succ, List.set_cons_zero, List.set_cons_succ, eqW_str, eqW_int, eqW_bl, cmp_eq, cmp_lt, cmp_gt, cmp_ge, cmp_le, add_int, sub_int, wipeS, Tg.go, Tg.go.goAll, ex_tup, ex_cons, ex_tl, List.length_cons, List.length_nil, Nat.zero_add, Nat.reduceAdd, Nat.reduceLT, true_and, and_true, sizeLine_eq, Nat.reduceLeDiff, Nat.zero_le, ex_or, ex_or2, items_lst, items_tup, eq_self, un_not, cmp_in, len_lst, rd_w, slc_lst, ty_app, ty_get, mtW, if_true, Bool.false_eq_true, if_false, rd_li, i0_li, i1_li, i2_li, sl_li, ne_str2]
  unfold sameB at h
  by_cases z : a.1 = b.1
  · have e1 : (!(a.1 == b.1)) = false := by simp [z]
    rw [decide_eq_true z, Bool.true_and] at h
    rw [e1]
    simp only [wSs, wS, wE, wEs, wT, wOT, wI, wO, Lit.w, biW, rs_tup, rs_lst, rs_int, rs_str, rs_bl, rs_non, rs_dct, ix_tup, ix_lst, atI_0, atI_1, atI_2, ex_some, ex_some2, ex_int, ex_bl, tru_bl,
  List.getElem?_cons_zero, List.getElem?_cons_succ, List.set_cons_zero, List.set_cons_succ, eqW_str, eqW_int, eqW_bl, cmp_eq, cmp_lt, cmp_gt, cmp_ge, cmp_le, add_int, sub_int, wipeS, Tg.go, Tg.go.goAll, ex_tup, ex_cons, ex_tl, List.length_cons, List.length_nil, Nat.zero_add, Nat.reduceAdd, Nat.reduceLT, true_and, and_true, sizeLine_eq, Nat.reduceLeDiff, Nat.zero_le, ex_or, ex_or2, items_lst, items_tup, eq_self, un_not, cmp_in, len_lst, rd_w, slc_lst, ty_app, ty_get, mtW, if_true, Bool.false_eq_true, if_false, eq2 ha.h1 ha.h2 hb.h1 hb.h2, eq2 ha.h1 ha.h2 hb.h2 hb.h1]
    cases q : decide ([a.2.1, a.2.2] = [b.2.1, b.2.2]) with
    | true => rw [q] at h; simp only [wSs, wS, wE, wEs, wT, wOT, wI, wO, Lit.w, biW, rs_tup, rs_lst, rs_int, rs_str, rs_bl, rs_non, rs_dct, ix_tup, ix_lst, atI_0, atI_1, atI_2, ex_some, ex_some2, ex_int, ex_bl, tru_bl,
  List.getElem?_cons_zero, List.getElem?_cons_succ, List.set_cons_zero, List.set_cons_succ, eqW_str, eqW_int, eqW_bl, cmp_eq, cmp_lt, cmp_gt, cmp_ge, cmp_le, add_int, sub_int, wipeS, Tg.go, Tg.go.goAll, ex_tup, ex_cons, ex_tl, List.length_cons, List.length_nil, Nat.zero_add, Nat.reduceAdd, Nat.reduceLT, true_and, and_true, sizeLine_eq, Nat.reduceLeDiff, Nat.zero_le, ex_or, ex_or2, items_lst, items_tup, eq_self, un_not, cmp_in, len_lst, rd_w, slc_lst, ty_app, ty_get, mtW, if_true, Bool.false_eq_true, if_false]; exact h
    | false => rw [q] at h; simp only [wSs, wS, wE, wEs, wT, wOT, wI, wO, Lit.w, biW, rs_tup, rs_lst, rs_int, rs_str, rs_bl, rs_non, rs_dct, ix_tup, ix_lst, atI_0, atI_1, atI_2, ex_some, ex_some2, ex_int, ex_bl, tru_bl,
  List.getElem?_cons_zero, List.getElem?_cons_succ, List.set_cons_zero, List.set_cons_succ, eqW_str, eqW_int, eqW_bl, cmp_eq, cmp_lt, cmp_gt, cmp_ge, cmp_le, add_int, sub_int, wipeS, Tg.go, Tg.go.goAll, ex_tup, ex_cons, ex_tl, List.length_cons, List.length_nil, Nat.zero_add, Nat.reduceAdd, Nat.reduceLT, true_and, and_true, sizeLine_eq, Nat.reduceLeDiff, Nat.zero_le, ex_or, ex_or2, items_lst, items_tup, eq_self, un_not, cmp_in, len_lst, rd_w, slc_lst, ty_app, ty_get, mtW, if_true, Bool.false_eq_true, if_false]; exact h
  · have e1 : (!(a.1 == b.1)) = true := by simp [z]
    rw [decide_eq_false z, Bool.false_and] at h
    rw [e1]
    unfold b_same_1
    simp only [wSs, wS, wE, wEs, wT, wOT, wI, wO, Lit.w, biW, rs_tup, rs_lst, rs_int, rs_str, rs_bl, rs_non, rs_dct, ix_tup, ix_lst, atI_0, atI_1, atI_2, ex_some, ex_some2, ex_int, ex_bl, tru_bl,
  List.getElem?_cons_zero, List.getElem?_cons_succ, List.set_cons_zero, List.set_cons_succ, eqW_str, eqW_int, eqW_bl, cmp_eq, cmp_lt, cmp_gt, cmp_ge, cmp_le, add_int, sub_int, wipeS, Tg.go, Tg.go.goAll, ex_tup, ex_cons, ex_tl, List.length_cons, List.length_nil, Nat.zero_add, Nat.reduceAdd, Nat.reduceLT, true_and, and_true, sizeLine_eq, Nat.reduceLeDiff, Nat.zero_le, ex_or, ex_or2, items_lst, items_tup, eq_self, un_not, cmp_in, len_lst, rd_w, slc_lst, ty_app, ty_get, mtW, if_true, Bool.false_eq_true, if_false]
    exact h
theorem s_lsame {k : Nat} {S : Sto} {Q X : QW} {a b : Li} (ha : LiOk a) (hb : LiOk b) (h : Q (.bl (sameB a b)) S) : callK T G0 (k + 1) "_law_same" [liW a, liW b] S Q X := by
  refine o__law_same ?_
  unfold b__law_same
  simp only [wSs, wS, wE, wEs, wT, wOT, wI, wO, Lit.w, biW, rs_tup, rs_lst, rs_int, rs_str, rs_bl, rs_non, rs_dct, ix_tup, ix_lst, atI_0, atI_1, atI_2, ex_some, ex_some2, ex_int, ex_bl, tru_bl,
  List.getElem?_cons_zero, List.getElem?_cons_succ, List.set_cons_zero, List.set_cons_succ, eqW_str, eqW_int, eqW_bl, cmp_eq, cmp_lt, cmp_gt, cmp_ge, cmp_le, add_int, sub_int, wipeS, Tg.go, Tg.go.goAll, ex_tup, ex_cons, ex_tl, List.length_cons, List.length_nil, Nat.zero_add, Nat.reduceAdd, Nat.reduceLT, true_and, and_true, sizeLine_eq, Nat.reduceLeDiff, Nat.zero_le, ex_or, ex_or2, items_lst, items_tup, eq_self, un_not, cmp_in, len_lst, rd_w, slc_lst, ty_app, ty_get, mtW, if_true, Bool.false_eq_true, if_false, rd_li, i0_li, i1_li, i2_li, ne_str2]
  unfold sameB at h
  by_cases z : a.1 = b.1
  · have e1 : (!(a.1 == b.1)) = false := by simp [z]
    rw [decide_eq_true z, Bool.true_and] at h
    rw [e1]
    simp only [wSs, wS, wE, wEs, wT, wOT, wI, wO, Lit.w, biW, rs_tup, rs_lst, rs_int, rs_str, rs_bl, rs_non, rs_dct, ix_tup, ix_lst, atI_0, atI_1, atI_2, ex_some, ex_some2, ex_int, ex_bl, tru_bl,
  List.getElem?_cons_zero, List.getElem?_cons_succ, List.set_cons_zero, List.set_cons_succ, eqW_str, eqW_int, eqW_bl, cmp_eq, cmp_lt, cmp_gt, cmp_ge, cmp_le, add_int, sub_int, wipeS, Tg.go, Tg.go.goAll, ex_tup, ex_cons, ex_tl, List.length_cons, List.length_nil, Nat.zero_add, Nat.reduceAdd, Nat.reduceLT, true_and, and_true, sizeLine_eq, Nat.reduceLeDiff, Nat.zero_le, ex_or, ex_or2, items_lst, items_tup, eq_self, un_not, cmp_in, len_lst, rd_w, slc_lst, ty_app, ty_get, mtW, if_true, Bool.false_eq_true, if_false, eq2 ha.h1 ha.h2 hb.h1 hb.h2, eq2 ha.h1 ha.h2 hb.h2 hb.h1]
    cases q : decide ([a.2.1, a.2.2] = [b.2.1, b.2.2]) with
    | true => rw [q] at h; simp only [wSs, wS, wE, wEs, wT, wOT, wI, wO, Lit.w, biW, rs_tup, rs_lst, rs_int, rs_str, rs_bl, rs_non, rs_dct, ix_tup, ix_lst, atI_0, atI_1, atI_2, ex_some, ex_some2, ex_int, ex_bl, tru_bl,
  List.getElem?_cons_zero, List.getElem?_cons_succ, List.set_cons_zero, List.set_cons_succ, eqW_str, eqW_int, eqW_bl, cmp_eq, cmp_lt, cmp_gt, cmp_ge, cmp_le, add_int, sub_int, wipeS, Tg.go, Tg.go.goAll, ex_tup, ex_cons, ex_tl, List.length_cons, List.length_nil, Nat.zero_add, Nat.reduceAdd, Nat.reduceLT, true_and, and_true, sizeLine_eq, Nat.reduceLeDiff, Nat.zero_le, ex_or, ex_or2, items_lst, items_tup, eq_self, un_not, cmp_in, len_lst, rd_w, slc_lst, ty_app, ty_get, mtW, if_true, Bool.false_eq_true, if_false]; exact h
    | false => rw [q] at h; simp only [wSs, wS, wE, wEs, wT, wOT, wI, wO, Lit.w, biW, rs_tup, rs_lst, rs_int, rs_str, rs_bl, rs_non, rs_dct, ix_tup, ix_lst, atI_0, atI_1, atI_2, ex_some, ex_some2, ex_int, ex_bl, tru_bl,
  List.getElem?_cons_zero, List.getElem?_cons_succ, List.set_cons_zero, List.set_cons_succ, eqW_str, eqW_int, eqW_bl, cmp_eq, cmp_lt, cmp_gt, cmp_ge, cmp_le, add_int, sub_int, wipeS, Tg.go, Tg.go.goAll, ex_tup, ex_cons, ex_tl, List.length_cons, List.length_nil, Nat.zero_add, Nat.reduceAdd, Nat.reduceLT, true_and, and_true, sizeLine_eq, Nat.reduceLeDiff, Nat.zero_le, ex_or, ex_or2, items_lst, items_tup, eq_self, un_not, cmp_in, len_lst, rd_w, slc_lst, ty_app, ty_get, mtW, if_true, Bool.false_eq_true, if_false]; exact h
  · have e1 : (!(a.1 == b.1)) = true := by simp [z]
    rw [decide_eq_false z, Bool.false_and] at h
    rw [e1]
    unfold b__law_same_1
    simp only [wSs, wS, wE, wEs, wT, wOT, wI, wO, Lit.w, biW, rs_tup, rs_lst, rs_int, rs_str, rs_bl, rs_non, rs_dct, ix_tup, ix_lst, atI_0, atI_1, atI_2, ex_some, ex_some2, ex_int, ex_bl, tru_bl,
  List.getElem?_cons_zero, List.getElem?_cons_succ, List.set_cons_zero, List.set_cons_succ, eqW_str, eqW_int, eqW_bl, cmp_eq, cmp_lt, cmp_gt, cmp_ge, cmp_le, add_int, sub_int, wipeS, Tg.go, Tg.go.goAll, ex_tup, ex_cons, ex_tl, List.length_cons, List.length_nil, Nat.zero_add, Nat.reduceAdd, Nat.reduceLT, true_and, and_true, sizeLine_eq, Nat.reduceLeDiff, Nat.zero_le, ex_or, ex_or2, items_lst, items_tup, eq_self, un_not, cmp_in, len_lst, rd_w, slc_lst, ty_app, ty_get, mtW, if_true, Bool.false_eq_true, if_false]
    exact h
theorem bools_map {α : Type} (f : α → Bool) : ∀ l : List α, boolsW (l.map fun u => W.bl (f u)) = some (l.map f)
  | [] => rfl
  | x :: l => by
    show (boolsW (l.map fun u => W.bl (f u))).map (fun r => f x :: r) = _
    rw [bools_map f l]; rfl
theorem any_map {α : Type} (f : α → Bool) (l : List α) : (l.map f).any id = l.any f := by rw [List.any_map]; rfl
def conL (l : Li) : Li := ("unlike", l.2.1, l.2.2)
theorem con_ok {l : Li} (h : LiOk l) : LiOk (conL l) := ⟨h.h1, h.h2, h.z1, h.z2⟩
theorem s_is_idle {k : Nat} {S : Sto} {Q X : QW} {c : List Li} (hc : okC c) (hl : c.length ≤ 1000) (h : Q (.bl (idleB c)) S) : callK T G0 (k + 2) "is_idle" [clW c] S Q X := by
  refine o_is_idle ?_
  unfold b_is_idle
  simp only [wSs, wS, wE, wEs, wT, wOT, wI, wO, Lit.w, biW, rs_tup, rs_lst, rs_int, rs_str, rs_bl, rs_non, rs_dct, ix_tup, ix_lst, atI_0, atI_1, atI_2, ex_some, ex_some2, ex_int, ex_bl, tru_bl,
  List.getElem?_cons_zero, List.getElem?_cons_succ, List.set_cons_zero, List.set_cons_succ, eqW_str, eqW_int, eqW_bl, cmp_eq, cmp_lt, cmp_gt, cmp_ge, cmp_le, add_int, sub_int, wipeS, Tg.go, Tg.go.goAll, ex_tup, ex_cons, ex_tl, List.length_cons, List.length_nil, Nat.zero_add, Nat.reduceAdd, Nat.reduceLT, true_and, and_true, sizeLine_eq, Nat.reduceLeDiff, Nat.zero_le, ex_or, ex_or2, items_lst, items_tup, eq_self, un_not, cmp_in, len_lst, rd_w, slc_lst, ty_app, ty_get, mtW, if_true, Bool.false_eq_true, if_false, rd_cl, it_cl]
  refine loopF_ind (fun xs σ S' => S' = S ∧ ∃ (rest : List Li) (y1 y2 y3 y4 : Option W), xs = clL rest ∧ (∀ l ∈ rest, l ∈ c) ∧ idleB c = rest.any (idleL c) ∧ σ = [some (clW c), y1, y2, y3, y4]) ?_ ?_ _ _ _ ?_
  · rintro σ S' ⟨rfl, rest, y1, y2, y3, y4, e1, _, e2, rfl⟩
    cases rest with
    | cons l rest => cases e1
    | nil =>
      simp only [wSs, wS, wE, wEs, wT, wOT, wI, wO, Lit.w, biW, rs_tup, rs_lst, rs_int, rs_str, rs_bl, rs_non, rs_dct, ix_tup, ix_lst, atI_0, atI_1, atI_2, ex_some, ex_some2, ex_int, ex_bl, tru_bl,
  List.getElem?_cons_zero, List.getElem?_cons_succ, List.set_cons_zero, List.set_cons_succ, eqW_str, eqW_int, eqW_bl, cmp_eq, cmp_lt, cmp_gt, cmp_ge, cmp_le, add_int, sub_int, wipeS, Tg.go, Tg.go.goAll, ex_tup, ex_cons, ex_tl, List.length_cons, List.length_nil, Nat.zero_add, Nat.reduceAdd, Nat.reduceLT, true_and, and_true, sizeLine_eq, Nat.reduceLeDiff, Nat.zero_le, ex_or, ex_or2, items_lst, items_tup, eq_self, un_not, cmp_in, len_lst, rd_w, slc_lst, ty_app, ty_get, mtW, if_true, Bool.false_eq_true, if_false]
      rw [e2] at h
      exact h
  · rintro x xs σ S' N ⟨rfl, rest, y1, y2, y3, y4, e1, hm, e2, rfl⟩ hN
    cases rest with
    | nil => cases e1
    | cons l rest =>
      obtain ⟨rfl, rfl⟩ := List.cons.inj e1
      have lok := hc l (hm l (by simp))
      have h1 := lok.h1
      have h2 := lok.h2
      have sa : (l :: rest).any (idleL c) = (idleL c l || rest.any (idleL c)) := rfl
      rw [sa] at e2
      refine ⟨_, (show liW l = .tup [.str l.1, l.2.1.w, l.2.2.w] from rfl), ?_⟩
      unfold b_is_idle_4
      simp only [wSs, wS, wE, wEs, wT, wOT, wI, wO, Lit.w, biW, rs_tup, rs_lst, rs_int, rs_str, rs_bl, rs_non, rs_dct, ix_tup, ix_lst, atI_0, atI_1, atI_2, ex_some, ex_some2, ex_int, ex_bl, tru_bl,
  List.getElem?_cons_zero, List.getElem?_cons_succ, List.set_cons_zero, List.set_cons_succ, eqW_str, eqW_int, eqW_bl, cmp_eq, cmp_lt, cmp_gt, cmp_ge, cmp_le, add_int, sub_int, wipeS, Tg.go, Tg.go.goAll, ex_tup, ex_cons, ex_tl, List.length_cons, List.length_nil, Nat.zero_add, Nat.reduceAdd, Nat.reduceLT, true_and, and_true, sizeLine_eq, Nat.reduceLeDiff, Nat.zero_le, ex_or, ex_or2, items_lst, items_tup, eq_self, un_not, cmp_in, len_lst, rd_w, slc_lst, ty_app, ty_get, mtW, if_true, Bool.false_eq_true, if_false, g_LIKE, eqW_tm (show l.2.1.h ≤ 29 by omega) (show l.2.2.h ≤ 29 by omega)]
      have go : idleL c l = false → _ := fun e => hN [some (clW c), some (.str l.1), some l.2.1.w, some l.2.2.w, y4] S' ⟨rfl, rest, _, _, _, _, rfl, fun l hl => hm l (by simp [hl]), by rw [e2, e]; rfl, rfl⟩
      have st : idleL c l = true → Q (.bl true) S' := fun e => by rw [e2, e] at h; exact h
      have il : idleL c l = (decide (l.1 = "like") && (decide (l.2.1 = l.2.2) || c.any fun m => sameB (conL l) m)) := rfl
      by_cases z : l.1 = "like"
      · have e1 : (l.1 == ("like" : Str)) = true := by simp [z]
        rw [decide_eq_true z, Bool.true_and] at il
        rw [e1]
        cases q : decide (l.2.1 = l.2.2) with
        | true =>
          unfold b_is_idle_3
          simp only [wSs, wS, wE, wEs, wT, wOT, wI, wO, Lit.w, biW, rs_tup, rs_lst, rs_int, rs_str, rs_bl, rs_non, rs_dct, ix_tup, ix_lst, atI_0, atI_1, atI_2, ex_some, ex_some2, ex_int, ex_bl, tru_bl,
  List.getElem?_cons_zero, List.getElem?_cons_succ, List.set_cons_zero, List.set_cons_succ, eqW_str, eqW_int, eqW_bl, cmp_eq, cmp_lt, cmp_gt, cmp_ge, cmp_le, add_int, sub_int, wipeS, Tg.go, Tg.go.goAll, ex_tup, ex_cons, ex_tl, List.length_cons, List.length_nil, Nat.zero_add, Nat.reduceAdd, Nat.reduceLT, true_and, and_true, sizeLine_eq, Nat.reduceLeDiff, Nat.zero_le, ex_or, ex_or2, items_lst, items_tup, eq_self, un_not, cmp_in, len_lst, rd_w, slc_lst, ty_app, ty_get, mtW, if_true, Bool.false_eq_true, if_false]
          exact st (by rw [il, q]; rfl)
        | false =>
          simp only [wSs, wS, wE, wEs, wT, wOT, wI, wO, Lit.w, biW, rs_tup, rs_lst, rs_int, rs_str, rs_bl, rs_non, rs_dct, ix_tup, ix_lst, atI_0, atI_1, atI_2, ex_some, ex_some2, ex_int, ex_bl, tru_bl,
  List.getElem?_cons_zero, List.getElem?_cons_succ, List.set_cons_zero, List.set_cons_succ, eqW_str, eqW_int, eqW_bl, cmp_eq, cmp_lt, cmp_gt, cmp_ge, cmp_le, add_int, sub_int, wipeS, Tg.go, Tg.go.goAll, ex_tup, ex_cons, ex_tl, List.length_cons, List.length_nil, Nat.zero_add, Nat.reduceAdd, Nat.reduceLT, true_and, and_true, sizeLine_eq, Nat.reduceLeDiff, Nat.zero_le, ex_or, ex_or2, items_lst, items_tup, eq_self, un_not, cmp_in, len_lst, rd_w, slc_lst, ty_app, ty_get, mtW, if_true, Bool.false_eq_true, if_false, rd_cl, it_cl, g_LIKE, e1]
          refine comp_map liW (fun m => W.bl (sameB (conL l) m)) c (fun m hm2 S2 K hK => ?_) hl fun D hD => ?_
          · unfold e_is_idle_1
            simp only [wSs, wS, wE, wEs, wT, wOT, wI, wO, Lit.w, biW, rs_tup, rs_lst, rs_int, rs_str, rs_bl, rs_non, rs_dct, ix_tup, ix_lst, atI_0, atI_1, atI_2, ex_some, ex_some2, ex_int, ex_bl, tru_bl,
  List.getElem?_cons_zero, List.getElem?_cons_succ, List.set_cons_zero, List.set_cons_succ, eqW_str, eqW_int, eqW_bl, cmp_eq, cmp_lt, cmp_gt, cmp_ge, cmp_le, add_int, sub_int, wipeS, Tg.go, Tg.go.goAll, ex_tup, ex_cons, ex_tl, List.length_cons, List.length_nil, Nat.zero_add, Nat.reduceAdd, Nat.reduceLT, true_and, and_true, sizeLine_eq, Nat.reduceLeDiff, Nat.zero_le, ex_or, ex_or2, items_lst, items_tup, eq_self, un_not, cmp_in, len_lst, rd_w, slc_lst, ty_app, ty_get, mtW, if_true, Bool.false_eq_true, if_false, g_UNLIKE]
            exact s_same (a := conL l) (con_ok lok) (hc m hm2) hK
          · rw [Sto.del_set hD]
            refine ⟨_, _, rfl, bools_map (fun m => sameB (conL l) m) c, ?_⟩
            rw [any_map]
            cases q2 : c.any fun m => sameB (conL l) m with
            | true =>
              unfold b_is_idle_2
              simp only [wSs, wS, wE, wEs, wT, wOT, wI, wO, Lit.w, biW, rs_tup, rs_lst, rs_int, rs_str, rs_bl, rs_non, rs_dct, ix_tup, ix_lst, atI_0, atI_1, atI_2, ex_some, ex_some2, ex_int, ex_bl, tru_bl,
  List.getElem?_cons_zero, List.getElem?_cons_succ, List.set_cons_zero, List.set_cons_succ, eqW_str, eqW_int, eqW_bl, cmp_eq, cmp_lt, cmp_gt, cmp_ge, cmp_le, add_int, sub_int, wipeS, Tg.go, Tg.go.goAll, ex_tup, ex_cons, ex_tl, List.length_cons, List.length_nil, Nat.zero_add, Nat.reduceAdd, Nat.reduceLT, true_and, and_true, sizeLine_eq, Nat.reduceLeDiff, Nat.zero_le, ex_or, ex_or2, items_lst, items_tup, eq_self, un_not, cmp_in, len_lst, rd_w, slc_lst, ty_app, ty_get, mtW, if_true, Bool.false_eq_true, if_false]
              exact st (by rw [il, q, q2]; rfl)
            | false =>
              simp only [wSs, wS, wE, wEs, wT, wOT, wI, wO, Lit.w, biW, rs_tup, rs_lst, rs_int, rs_str, rs_bl, rs_non, rs_dct, ix_tup, ix_lst, atI_0, atI_1, atI_2, ex_some, ex_some2, ex_int, ex_bl, tru_bl,
  List.getElem?_cons_zero, List.getElem?_cons_succ, List.set_cons_zero, List.set_cons_succ, eqW_str, eqW_int, eqW_bl, cmp_eq, cmp_lt, cmp_gt, cmp_ge, cmp_le, add_int, sub_int, wipeS, Tg.go, Tg.go.goAll, ex_tup, ex_cons, ex_tl, List.length_cons, List.length_nil, Nat.zero_add, Nat.reduceAdd, Nat.reduceLT, true_and, and_true, sizeLine_eq, Nat.reduceLeDiff, Nat.zero_le, ex_or, ex_or2, items_lst, items_tup, eq_self, un_not, cmp_in, len_lst, rd_w, slc_lst, ty_app, ty_get, mtW, if_true, Bool.false_eq_true, if_false]
              exact go (by rw [il, q, q2]; rfl)
      · have e1 : (l.1 == ("like" : Str)) = false := by simp [z]
        rw [decide_eq_false z, Bool.false_and] at il
        rw [e1]
        simp only [wSs, wS, wE, wEs, wT, wOT, wI, wO, Lit.w, biW, rs_tup, rs_lst, rs_int, rs_str, rs_bl, rs_non, rs_dct, ix_tup, ix_lst, atI_0, atI_1, atI_2, ex_some, ex_some2, ex_int, ex_bl, tru_bl,
  List.getElem?_cons_zero, List.getElem?_cons_succ, List.set_cons_zero, List.set_cons_succ, eqW_str, eqW_int, eqW_bl, cmp_eq, cmp_lt, cmp_gt, cmp_ge, cmp_le, add_int, sub_int, wipeS, Tg.go, Tg.go.goAll, ex_tup, ex_cons, ex_tl, List.length_cons, List.length_nil, Nat.zero_add, Nat.reduceAdd, Nat.reduceLT, true_and, and_true, sizeLine_eq, Nat.reduceLeDiff, Nat.zero_le, ex_or, ex_or2, items_lst, items_tup, eq_self, un_not, cmp_in, len_lst, rd_w, slc_lst, ty_app, ty_get, mtW, if_true, Bool.false_eq_true, if_false, g_LIKE, e1]
        exact go il
  · exact ⟨rfl, c, _, _, _, _, rfl, fun _ h => h, rfl, rfl⟩
theorem loopC_fm {α : Type} {step : W → Sto → (Option W → Sto → Prop) → Prop} {D : Addr} {Q : List W → Sto → Prop} (enc : α → W) (out : α → Option W) : ∀ (us : List α) (acc : List W) (S : Sto), (∀ u ∈ us, ∀ S K, K (out u) S → step (enc u) S K) → acc.length + us.length ≤ 1000 →
    Q (acc ++ us.filterMap out) (S.set D (.lst (acc ++ us.filterMap out))) → loopC step D (us.map enc) acc Q (S.set D (.lst acc))
  | [], acc, S, hs, hl, h => ⟨Sto.set_same, by simpa using h⟩
  | u :: us, acc, S, hs, hl, h => by
    refine ⟨Sto.set_same, hs u (by simp) _ _ ?_⟩
    rw [List.filterMap_cons] at h
    cases q : out u with
    | none =>
      rw [q] at h
      exact loopC_fm enc out us acc S (fun v hv => hs v (by simp [hv])) (by simp at hl ⊢; omega) h
    | some w =>
      rw [q] at h
      refine ⟨Sto.set_same, by rw [sizeLine_eq]; simp at hl; omega, ?_⟩
      rw [Sto.set_set]
      exact loopC_fm enc out us (acc ++ [w]) S (fun v hv => hs v (by simp [hv])) (by simp at hl ⊢; omega) (by simpa using h)
def liD (l : Li) : PyData := .tuple [.str l.1, l.2.1.dat, l.2.2.dat]
theorem li_d (l : Li) : (liW l).d = some (liD l) := by simp [liW, liD, W.d, W.ds, Tm.w_d]
theorem ds_li : ∀ ms : List Li, okC ms → W.ds (clL ms) = some (ms.map liD) ∧ PyData.plainAll (ms.map liD) = true ∧ PyData.depthAll (ms.map liD) ≤ 42
  | [], _ => ⟨rfl, rfl, Nat.zero_le _⟩
  | l :: ms, h => by
    obtain ⟨a, b, c⟩ := ds_li ms fun m hm => h m (by simp [hm])
    have lo := h l (by simp)
    have h1 := lo.h1
    have h2 := lo.h2
    have d1 := Tm.depth l.2.1
    have d2 := Tm.depth l.2.2
    refine ⟨?_, ?_, ?_⟩
    · show ((liW l).d.bind fun x => (W.ds (clL ms)).map fun r => x :: r) = _
      rw [li_d, a]; rfl
    · show ((liD l).plain && PyData.plainAll (ms.map liD)) = true
      rw [b]
      simp [liD, PyData.plain, PyData.plainAll, Tm.plain]
    · show max (liD l).depth (PyData.depthAll (ms.map liD)) ≤ 42
      have : (liD l).depth ≤ 42 := by
        simp [liD, PyData.depth, PyData.depthAll]
        omega
      omega
theorem ne_cl_nil {ms : List Li} (h : okC ms) : cmpW .NotEq (.lst (clL ms)) (.lst []) = some (!ms.isEmpty) := by
  rw [cmp_ne]
  obtain ⟨a, b, c⟩ := ds_li ms h
  have d1 : (W.lst (clL ms)).d = some (.list (ms.map liD)) := by show (W.ds (clL ms)).map PyData.list = _; rw [a]; rfl
  have o1 : okD (.list (ms.map liD)) = true := by
    show (PyData.plainAll (ms.map liD) && decide (PyData.depthAll (ms.map liD) + 1 ≤ 60)) = true
    rw [b, decide_eq_true (by omega)]; rfl
  rw [eqW_of d1 (show (W.lst []).d = some (.list []) from rfl) o1 (by decide)]
  cases ms <;> rfl
theorem fm_cl (f : Li → Bool) (c : List Li) : (c.filterMap fun m => if f m then some (liW m) else none) = clL (c.filter f) := by
  induction c with
  | nil => rfl
  | cons m c ih =>
    rw [List.filterMap_cons, List.filter_cons]
    cases q : f m with
    | true => simp only [if_true]; rw [ih]; rfl
    | false => simp only [if_false, Bool.false_eq_true]; exact ih
theorem filter_any (f : Li → Bool) (c : List Li) : (!(c.filter f).isEmpty) = c.any f := by
  induction c with
  | nil => rfl
  | cons m c ih =>
    rw [List.filter_cons, List.any_cons]
    cases q : f m with
    | true => rfl
    | false => simpa using ih
theorem s_lidle {k : Nat} {S : Sto} {Q X : QW} {c : List Li} (hc : okC c) (hl : c.length ≤ 1000) (h : Q (.bl (idleB c)) S) : callK T G0 (k + 2) "_law_idle" [clW c] S Q X := by
  refine o__law_idle ?_
  unfold b__law_idle
  simp only [wSs, wS, wE, wEs, wT, wOT, wI, wO, Lit.w, biW, rs_tup, rs_lst, rs_int, rs_str, rs_bl, rs_non, rs_dct, ix_tup, ix_lst, atI_0, atI_1, atI_2, ex_some, ex_some2, ex_int, ex_bl, tru_bl,
  List.getElem?_cons_zero, List.getElem?_cons_succ, List.set_cons_zero, List.set_cons_succ, eqW_str, eqW_int, eqW_bl, cmp_eq, cmp_lt, cmp_gt, cmp_ge, cmp_le, add_int, sub_int, wipeS, Tg.go, Tg.go.goAll, ex_tup, ex_cons, ex_tl, List.length_cons, List.length_nil, Nat.zero_add, Nat.reduceAdd, Nat.reduceLT, true_and, and_true, sizeLine_eq, Nat.reduceLeDiff, Nat.zero_le, ex_or, ex_or2, items_lst, items_tup, eq_self, un_not, cmp_in, len_lst, rd_w, slc_lst, ty_app, ty_get, mtW, if_true, Bool.false_eq_true, if_false, rd_cl, it_cl]
  refine loopF_ind (fun xs σ S' => S' = S ∧ ∃ (rest : List Li) (y1 y2 y3 y4 y5 : Option W), xs = clL rest ∧ (∀ l ∈ rest, l ∈ c) ∧ idleB c = rest.any (idleL c) ∧ σ = [some (clW c), y1, y2, y3, y4, y5]) ?_ ?_ _ _ _ ?_
  · rintro σ S' ⟨rfl, rest, y1, y2, y3, y4, y5, e1, _, e2, rfl⟩
    cases rest with
    | cons l rest => cases e1
    | nil =>
      simp only [wSs, wS, wE, wEs, wT, wOT, wI, wO, Lit.w, biW, rs_tup, rs_lst, rs_int, rs_str, rs_bl, rs_non, rs_dct, ix_tup, ix_lst, atI_0, atI_1, atI_2, ex_some, ex_some2, ex_int, ex_bl, tru_bl,
  List.getElem?_cons_zero, List.getElem?_cons_succ, List.set_cons_zero, List.set_cons_succ, eqW_str, eqW_int, eqW_bl, cmp_eq, cmp_lt, cmp_gt, cmp_ge, cmp_le, add_int, sub_int, wipeS, Tg.go, Tg.go.goAll, ex_tup, ex_cons, ex_tl, List.length_cons, List.length_nil, Nat.zero_add, Nat.reduceAdd, Nat.reduceLT, true_and, and_true, sizeLine_eq, Nat.reduceLeDiff, Nat.zero_le, ex_or, ex_or2, items_lst, items_tup, eq_self, un_not, cmp_in, len_lst, rd_w, slc_lst, ty_app, ty_get, mtW, if_true, Bool.false_eq_true, if_false]
      rw [e2] at h
      exact h
  · rintro x xs σ S' N ⟨rfl, rest, y1, y2, y3, y4, y5, e1, hm, e2, rfl⟩ hN
    cases rest with
    | nil => cases e1
    | cons l rest =>
      obtain ⟨rfl, rfl⟩ := List.cons.inj e1
      have lok := hc l (hm l (by simp))
      have h1 := lok.h1
      have h2 := lok.h2
      have sa : (l :: rest).any (idleL c) = (idleL c l || rest.any (idleL c)) := rfl
      rw [sa] at e2
      refine ⟨_, (show liW l = .tup [.str l.1, l.2.1.w, l.2.2.w] from rfl), ?_⟩
      unfold b__law_idle_5
      simp only [wSs, wS, wE, wEs, wT, wOT, wI, wO, Lit.w, biW, rs_tup, rs_lst, rs_int, rs_str, rs_bl, rs_non, rs_dct, ix_tup, ix_lst, atI_0, atI_1, atI_2, ex_some, ex_some2, ex_int, ex_bl, tru_bl,
  List.getElem?_cons_zero, List.getElem?_cons_succ, List.set_cons_zero, List.set_cons_succ, eqW_str, eqW_int, eqW_bl, cmp_eq, cmp_lt, cmp_gt, cmp_ge, cmp_le, add_int, sub_int, wipeS, Tg.go, Tg.go.goAll, ex_tup, ex_cons, ex_tl, List.length_cons, List.length_nil, Nat.zero_add, Nat.reduceAdd, Nat.reduceLT, true_and, and_true, sizeLine_eq, Nat.reduceLeDiff, Nat.zero_le, ex_or, ex_or2, items_lst, items_tup, eq_self, un_not, cmp_in, len_lst, rd_w, slc_lst, ty_app, ty_get, mtW, if_true, Bool.false_eq_true, if_false, eqW_tm (show l.2.1.h ≤ 29 by omega) (show l.2.2.h ≤ 29 by omega)]
      have go : idleL c l = false → _ := fun e => hN [some (clW c), some (.str l.1), some l.2.1.w, some l.2.2.w, some (liW (conL l)), y5] S' ⟨rfl, rest, _, _, _, _, _, rfl, fun l hl => hm l (by simp [hl]), by rw [e2, e]; rfl, rfl⟩
      have st : idleL c l = true → Q (.bl true) S' := fun e => by rw [e2, e] at h; exact h
      have il : idleL c l = (decide (l.1 = "like") && (decide (l.2.1 = l.2.2) || c.any fun m => sameB (conL l) m)) := rfl
      by_cases z : l.1 = "like"
      · have e1 : (l.1 == ("like" : Str)) = true := by simp [z]
        rw [decide_eq_true z, Bool.true_and] at il
        rw [e1]
        cases q : decide (l.2.1 = l.2.2) with
        | true =>
          unfold b__law_idle_4
          simp only [wSs, wS, wE, wEs, wT, wOT, wI, wO, Lit.w, biW, rs_tup, rs_lst, rs_int, rs_str, rs_bl, rs_non, rs_dct, ix_tup, ix_lst, atI_0, atI_1, atI_2, ex_some, ex_some2, ex_int, ex_bl, tru_bl,
  List.getElem?_cons_zero, List.getElem?_cons_succ, List.set_cons_zero, List.set_cons_succ, eqW_str, eqW_int, eqW_bl, cmp_eq, cmp_lt, cmp_gt, cmp_ge, cmp_le, add_int, sub_int, wipeS, Tg.go, Tg.go.goAll, ex_tup, ex_cons, ex_tl, List.length_cons, List.length_nil, Nat.zero_add, Nat.reduceAdd, Nat.reduceLT, true_and, and_true, sizeLine_eq, Nat.reduceLeDiff, Nat.zero_le, ex_or, ex_or2, items_lst, items_tup, eq_self, un_not, cmp_in, len_lst, rd_w, slc_lst, ty_app, ty_get, mtW, if_true, Bool.false_eq_true, if_false]
          exact st (by rw [il, q]; rfl)
        | false =>
          simp only [wSs, wS, wE, wEs, wT, wOT, wI, wO, Lit.w, biW, rs_tup, rs_lst, rs_int, rs_str, rs_bl, rs_non, rs_dct, ix_tup, ix_lst, atI_0, atI_1, atI_2, ex_some, ex_some2, ex_int, ex_bl, tru_bl,
  List.getElem?_cons_zero, List.getElem?_cons_succ, List.set_cons_zero, List.set_cons_succ, eqW_str, eqW_int, eqW_bl, cmp_eq, cmp_lt, cmp_gt, cmp_ge, cmp_le, add_int, sub_int, wipeS, Tg.go, Tg.go.goAll, ex_tup, ex_cons, ex_tl, List.length_cons, List.length_nil, Nat.zero_add, Nat.reduceAdd, Nat.reduceLT, true_and, and_true, sizeLine_eq, Nat.reduceLeDiff, Nat.zero_le, ex_or, ex_or2, items_lst, items_tup, eq_self, un_not, cmp_in, len_lst, rd_w, slc_lst, ty_app, ty_get, mtW, if_true, Bool.false_eq_true, if_false, rd_cl, it_cl, e1]
          intro D hD
          refine loopC_fm liW (fun m => if sameB (conL l) m then some (liW m) else none) c [] S' (fun m hm2 S2 K hK => ?_) (by simpa using hl) ?_
          · unfold t__law_idle_1 e__law_idle_2
            simp only [wSs, wS, wE, wEs, wT, wOT, wI, wO, Lit.w, biW, rs_tup, rs_lst, rs_int, rs_str, rs_bl, rs_non, rs_dct, ix_tup, ix_lst, atI_0, atI_1, atI_2, ex_some, ex_some2, ex_int, ex_bl, tru_bl,
  List.getElem?_cons_zero, List.getElem?_cons_succ, List.set_cons_zero, List.set_cons_succ, eqW_str, eqW_int, eqW_bl, cmp_eq, cmp_lt, cmp_gt, cmp_ge, cmp_le, add_int, sub_int, wipeS, Tg.go, Tg.go.goAll, ex_tup, ex_cons, ex_tl, List.length_cons, List.length_nil, Nat.zero_add, Nat.reduceAdd, Nat.reduceLT, true_and, and_true, sizeLine_eq, Nat.reduceLeDiff, Nat.zero_le, ex_or, ex_or2, items_lst, items_tup, eq_self, un_not, cmp_in, len_lst, rd_w, slc_lst, ty_app, ty_get, mtW, if_true, Bool.false_eq_true, if_false]
            refine s_lsame (a := conL l) (con_ok lok) (hc m hm2) ?_
            simp only [wSs, wS, wE, wEs, wT, wOT, wI, wO, Lit.w, biW, rs_tup, rs_lst, rs_int, rs_str, rs_bl, rs_non, rs_dct, ix_tup, ix_lst, atI_0, atI_1, atI_2, ex_some, ex_some2, ex_int, ex_bl, tru_bl,
  List.getElem?_cons_zero, List.getElem?_cons_succ, List.set_cons_zero, List.set_cons_succ, eqW_str, eqW_int, eqW_bl, cmp_eq, cmp_lt, cmp_gt, cmp_ge, cmp_le, add_int, sub_int, wipeS, Tg.go, Tg.go.goAll, ex_tup, ex_cons, ex_tl, List.length_cons, List.length_nil, Nat.zero_add, Nat.reduceAdd, Nat.reduceLT, true_and, and_true, sizeLine_eq, Nat.reduceLeDiff, Nat.zero_le, ex_or, ex_or2, items_lst, items_tup, eq_self, un_not, cmp_in, len_lst, rd_w, slc_lst, ty_app, ty_get, mtW, if_true, Bool.false_eq_true, if_false]
            cases q3 : sameB (conL l) m with
            | true => rw [q3] at hK; simp only [wSs, wS, wE, wEs, wT, wOT, wI, wO, Lit.w, biW, rs_tup, rs_lst, rs_int, rs_str, rs_bl, rs_non, rs_dct, ix_tup, ix_lst, atI_0, atI_1, atI_2, ex_some, ex_some2, ex_int, ex_bl, tru_bl,
  List.getElem?_cons_zero, List.getElem?_cons_succ, List.set_cons_zero, List.set_cons_succ, eqW_str, eqW_int, eqW_bl, cmp_eq, cmp_lt, cmp_gt, cmp_ge, cmp_le, add_int, sub_int, wipeS, Tg.go, Tg.go.goAll, ex_tup, ex_cons, ex_tl, List.length_cons, List.length_nil, Nat.zero_add, Nat.reduceAdd, Nat.reduceLT, true_and, and_true, sizeLine_eq, Nat.reduceLeDiff, Nat.zero_le, ex_or, ex_or2, items_lst, items_tup, eq_self, un_not, cmp_in, len_lst, rd_w, slc_lst, ty_app, ty_get, mtW, if_true, Bool.false_eq_true, if_false]; exact hK
            | false => rw [q3] at hK; simp only [wSs, wS, wE, wEs, wT, wOT, wI, wO, Lit.w, biW, rs_tup, rs_lst, rs_int, rs_str, rs_bl, rs_non, rs_dct, ix_tup, ix_lst, atI_0, atI_1, atI_2, ex_some, ex_some2, ex_int, ex_bl, tru_bl,
  List.getElem?_cons_zero, List.getElem?_cons_succ, List.set_cons_zero, List.set_cons_succ, eqW_str, eqW_int, eqW_bl, cmp_eq, cmp_lt, cmp_gt, cmp_ge, cmp_le, add_int, sub_int, wipeS, Tg.go, Tg.go.goAll, ex_tup, ex_cons, ex_tl, List.length_cons, List.length_nil, Nat.zero_add, Nat.reduceAdd, Nat.reduceLT, true_and, and_true, sizeLine_eq, Nat.reduceLeDiff, Nat.zero_le, ex_or, ex_or2, items_lst, items_tup, eq_self, un_not, cmp_in, len_lst, rd_w, slc_lst, ty_app, ty_get, mtW, if_true, Bool.false_eq_true, if_false]; exact hK
          · rw [List.nil_append, fm_cl, Sto.del_set hD]
            have fo : okC (c.filter fun m => sameB (conL l) m) := hc.sub fun m hm2 => (List.mem_filter.mp hm2).1
            simp only [wSs, wS, wE, wEs, wT, wOT, wI, wO, Lit.w, biW, rs_tup, rs_lst, rs_int, rs_str, rs_bl, rs_non, rs_dct, ix_tup, ix_lst, atI_0, atI_1, atI_2, ex_some, ex_some2, ex_int, ex_bl, tru_bl,
  List.getElem?_cons_zero, List.getElem?_cons_succ, List.set_cons_zero, List.set_cons_succ, eqW_str, eqW_int, eqW_bl, cmp_eq, cmp_lt, cmp_gt, cmp_ge, cmp_le, add_int, sub_int, wipeS, Tg.go, Tg.go.goAll, ex_tup, ex_cons, ex_tl, List.length_cons, List.length_nil, Nat.zero_add, Nat.reduceAdd, Nat.reduceLT, true_and, and_true, sizeLine_eq, Nat.reduceLeDiff, Nat.zero_le, ex_or, ex_or2, items_lst, items_tup, eq_self, un_not, cmp_in, len_lst, rd_w, slc_lst, ty_app, ty_get, mtW, if_true, Bool.false_eq_true, if_false, ne_cl_nil fo, filter_any]
            cases q2 : c.any fun m => sameB (conL l) m with
            | true =>
              unfold b__law_idle_3
              simp only [wSs, wS, wE, wEs, wT, wOT, wI, wO, Lit.w, biW, rs_tup, rs_lst, rs_int, rs_str, rs_bl, rs_non, rs_dct, ix_tup, ix_lst, atI_0, atI_1, atI_2, ex_some, ex_some2, ex_int, ex_bl, tru_bl,
  List.getElem?_cons_zero, List.getElem?_cons_succ, List.set_cons_zero, List.set_cons_succ, eqW_str, eqW_int, eqW_bl, cmp_eq, cmp_lt, cmp_gt, cmp_ge, cmp_le, add_int, sub_int, wipeS, Tg.go, Tg.go.goAll, ex_tup, ex_cons, ex_tl, List.length_cons, List.length_nil, Nat.zero_add, Nat.reduceAdd, Nat.reduceLT, true_and, and_true, sizeLine_eq, Nat.reduceLeDiff, Nat.zero_le, ex_or, ex_or2, items_lst, items_tup, eq_self, un_not, cmp_in, len_lst, rd_w, slc_lst, ty_app, ty_get, mtW, if_true, Bool.false_eq_true, if_false]
              exact st (by rw [il, q, q2]; rfl)
            | false =>
              simp only [wSs, wS, wE, wEs, wT, wOT, wI, wO, Lit.w, biW, rs_tup, rs_lst, rs_int, rs_str, rs_bl, rs_non, rs_dct, ix_tup, ix_lst, atI_0, atI_1, atI_2, ex_some, ex_some2, ex_int, ex_bl, tru_bl,
  List.getElem?_cons_zero, List.getElem?_cons_succ, List.set_cons_zero, List.set_cons_succ, eqW_str, eqW_int, eqW_bl, cmp_eq, cmp_lt, cmp_gt, cmp_ge, cmp_le, add_int, sub_int, wipeS, Tg.go, Tg.go.goAll, ex_tup, ex_cons, ex_tl, List.length_cons, List.length_nil, Nat.zero_add, Nat.reduceAdd, Nat.reduceLT, true_and, and_true, sizeLine_eq, Nat.reduceLeDiff, Nat.zero_le, ex_or, ex_or2, items_lst, items_tup, eq_self, un_not, cmp_in, len_lst, rd_w, slc_lst, ty_app, ty_get, mtW, if_true, Bool.false_eq_true, if_false]
              exact go (by rw [il, q, q2]; rfl)
      · have e1 : (l.1 == ("like" : Str)) = false := by simp [z]
        rw [decide_eq_false z, Bool.false_and] at il
        rw [e1]
        simp only [wSs, wS, wE, wEs, wT, wOT, wI, wO, Lit.w, biW, rs_tup, rs_lst, rs_int, rs_str, rs_bl, rs_non, rs_dct, ix_tup, ix_lst, atI_0, atI_1, atI_2, ex_some, ex_some2, ex_int, ex_bl, tru_bl,
  List.getElem?_cons_zero, List.getElem?_cons_succ, List.set_cons_zero, List.set_cons_succ, eqW_str, eqW_int, eqW_bl, cmp_eq, cmp_lt, cmp_gt, cmp_ge, cmp_le, add_int, sub_int, wipeS, Tg.go, Tg.go.goAll, ex_tup, ex_cons, ex_tl, List.length_cons, List.length_nil, Nat.zero_add, Nat.reduceAdd, Nat.reduceLT, true_and, and_true, sizeLine_eq, Nat.reduceLeDiff, Nat.zero_le, ex_or, ex_or2, items_lst, items_tup, eq_self, un_not, cmp_in, len_lst, rd_w, slc_lst, ty_app, ty_get, mtW, if_true, Bool.false_eq_true, if_false, e1]
        exact go il
  · exact ⟨rfl, c, _, _, _, _, _, rfl, fun _ h => h, rfl, rfl⟩
end K29

set_option Elab.async false
set_option linter.all false
set_option maxRecDepth 100000
set_option maxHeartbeats 4000000
namespace K29
open PySem PD
open L2 (atI Key)
/-! ### sizes -/
mutual
theorem nz_le : ∀ (t : PD.Tm) (n : Nat), t.fine 1000 → t.h ≤ n → 3 * nz t + 1 ≤ 4 ^ n
  | .any i, n, _, hh => by
    have h1 : 1 ≤ n := hh
    have : 4 ^ 1 ≤ 4 ^ n := Nat.pow_le_pow_right (by omega) h1
    show 3 * 1 + 1 ≤ _
    omega
  | .of x ts, 0, _, hh => by unfold PD.Tm.h at hh; omega
  | .of x ts, n + 1, hf, hh => by
    unfold PD.Tm.fine at hf
    unfold PD.Tm.h at hh
    have := nzs_le ts n hf.2.2 (by omega)
    have hp : 1 ≤ 4 ^ n := Nat.one_le_pow _ _ (by omega)
    have h4 : ts.length * (4 ^ n - 1) ≤ 4 * (4 ^ n - 1) := Nat.mul_le_mul_right _ hf.2.1
    have e5 : 4 ^ (n + 1) = 4 * 4 ^ n := by rw [Nat.pow_succ]; omega
    show 3 * (1 + nzs ts) + 1 ≤ _
    omega
theorem nzs_le : ∀ (ts : List PD.Tm) (n : Nat), Tm.fines 1000 ts → Tm.hs ts ≤ n → 3 * nzs ts ≤ ts.length * (4 ^ n - 1)
  | [], n, _, _ => Nat.zero_le _
  | t :: ts, n, hf, hh => by
    unfold Tm.fines at hf
    have hh' : max t.h (Tm.hs ts) ≤ n := hh
    have h1 := nz_le t n hf.1 (by omega)
    have h2 := nzs_le ts n hf.2 (by omega)
    have e6 : (ts.length + 1) * (4 ^ n - 1) = ts.length * (4 ^ n - 1) + (4 ^ n - 1) := Nat.succ_mul _ _
    have hp : 1 ≤ 4 ^ n := Nat.one_le_pow _ _ (by omega)
    show 3 * (nz t + nzs ts) ≤ _
    rw [List.length_cons, e6]
    omega
end
theorem fillTs_len (f : Int → Option PD.Tm) (ts : List PD.Tm) : (fillTs f ts).length = ts.length := by
  induction ts with
  | nil => rfl
  | cons t ts ih => show (fillTs f ts).length + 1 = _; rw [ih]; rfl
mutual
theorem fill_ok {f : Int → Option PD.Tm} {N : Nat} (hf : ∀ n u, f n = some u → u.h ≤ N ∧ u.fine 1000) : ∀ t : PD.Tm, t.fine 1000 → (fillT f t).h ≤ t.h + N ∧ (fillT f t).fine 1000
  | .any n, ht => by
    unfold fillT
    cases q : f n with
    | none => exact ⟨Nat.le_add_right _ _, ht⟩
    | some u =>
      have := hf n u q
      exact ⟨by show u.h ≤ _; omega, this.2⟩
  | .of x ts, ht => by
    unfold PD.Tm.fine at ht
    obtain ⟨h1, h2⟩ := fills_ok hf ts ht.2.2
    unfold fillT
    refine ⟨?_, ?_⟩
    · show 1 + Tm.hs (fillTs f ts) ≤ 1 + Tm.hs ts + N
      omega
    · unfold PD.Tm.fine
      exact ⟨ht.1, by rw [fillTs_len]; exact ht.2.1, h2⟩
theorem fills_ok {f : Int → Option PD.Tm} {N : Nat} (hf : ∀ n u, f n = some u → u.h ≤ N ∧ u.fine 1000) : ∀ ts : List PD.Tm, Tm.fines 1000 ts → Tm.hs (fillTs f ts) ≤ Tm.hs ts + N ∧ Tm.fines 1000 (fillTs f ts)
  | [], _ => ⟨Nat.zero_le _, trivial⟩
  | t :: ts, ht => by
    unfold Tm.fines at ht
    obtain ⟨a, b⟩ := fill_ok hf t ht.1
    obtain ⟨c, d⟩ := fills_ok hf ts ht.2
    refine ⟨?_, ?_⟩
    · show max (fillT f t).h (Tm.hs (fillTs f ts)) ≤ max t.h (Tm.hs ts) + N
      omega
    · show Tm.fines 1000 (fillT f t :: fillTs f ts)
      unfold Tm.fines
      exact ⟨b, d⟩
end
theorem fillTs_eq (f : Int → Option PD.Tm) (ts : List PD.Tm) : Tm.ws (fillTs f ts) = ts.map fun t => (fillT f t).w := by
  induction ts with
  | nil => rfl
  | cons t ts ih => show (fillT f t).w :: Tm.ws (fillTs f ts) = _; rw [ih]; rfl
theorem fill_get {st : Stf} {n : Int} : ((look (kOf st) (wOf st) (.inl n)).getD (Tm.any n).w) = (fillT (fOf st) (.any n)).w := by
  rw [look_of]
  unfold fillT
  cases fOf st n <;> rfl
section
variable (st : Stf)
def lfilledAt (m : Nat) : Prop := ∀ t : PD.Tm, t.fine 1000 → t.h ≤ m → ∀ {k : Nat} {S : Sto} {Q X : QW}, Q (fillT (fOf st) t).w S → callK T G0 (k + m) "_law_filled" [t.w, .dct (kOf st) (wOf st)] S Q X
theorem lfilled_core (m : Nat) (ih : ∀ e, m = e + 1 → lfilledAt st e) : lfilledAt st m := by
  intro t ft ht k S Q X h
  cases m with
  | zero => have := Tm.h_pos t; omega
  | succ m =>
  have ih := ih m rfl
  refine o__law_filled ?_
  unfold b__law_filled
  cases t with
  | any n =>
    unfold b__law_filled_2
    simp only [wSs, wS, wE, wEs, wT, wOT, wI, wO, Lit.w, biW, rs_tup, rs_lst, rs_int, rs_str, rs_bl, rs_non, rs_dct, ix_tup, ix_lst, atI_0, atI_1, atI_2, ex_some, ex_some2, ex_int, ex_bl, tru_bl,
  List.getElem?_cons_zero, List.getElem?_cons_succ, List.set_cons_zero, List.set_cons_succ, eqW_str, eqW_int, eqW_bl, cmp_eq, cmp_lt, cmp_gt, cmp_ge, cmp_le, add_int, sub_int, wipeS, Tg.go, Tg.go.goAll, ex_tup, ex_cons, ex_tl, List.length_cons, List.length_nil, Nat.zero_add, Nat.reduceAdd, Nat.reduceLT, true_and, and_true, sizeLine_eq, Nat.reduceLeDiff, Nat.zero_le, ex_or, ex_or2, items_lst, items_tup, eq_self, un_not, cmp_in, len_lst, rd_w, slc_lst, ty_app, ty_get, mtW, if_true, Bool.false_eq_true, if_false, w_any, any_any]
    refine ⟨_, _, _, rfl, rfl, ?_⟩
    rw [← w_any, fill_get]
    exact h
  | of x ts =>
    simp only [wSs, wS, wE, wEs, wT, wOT, wI, wO, Lit.w, biW, rs_tup, rs_lst, rs_int, rs_str, rs_bl, rs_non, rs_dct, ix_tup, ix_lst, atI_0, atI_1, atI_2, ex_some, ex_some2, ex_int, ex_bl, tru_bl,
  List.getElem?_cons_zero, List.getElem?_cons_succ, List.set_cons_zero, List.set_cons_succ, eqW_str, eqW_int, eqW_bl, cmp_eq, cmp_lt, cmp_gt, cmp_ge, cmp_le, add_int, sub_int, wipeS, Tg.go, Tg.go.goAll, ex_tup, ex_cons, ex_tl, List.length_cons, List.length_nil, Nat.zero_add, Nat.reduceAdd, Nat.reduceLT, true_and, and_true, sizeLine_eq, Nat.reduceLeDiff, Nat.zero_le, ex_or, ex_or2, items_lst, items_tup, eq_self, un_not, cmp_in, len_lst, rd_w, slc_lst, ty_app, ty_get, mtW, if_true, Bool.false_eq_true, if_false, w_of, of_any]
    rw [Tm.ws_eq]
    unfold PD.Tm.fine at ft
    unfold PD.Tm.h at ht
    refine comp_map Tm.w (fun t => (fillT (fOf st) t).w) ts (fun u hu S' K hK => ?_) (by have := ft.2.1; omega) fun D hD => ?_
    · have hm := Tm.hs_mem hu
      unfold e__law_filled_1
      simp only [wSs, wS, wE, wEs, wT, wOT, wI, wO, Lit.w, biW, rs_tup, rs_lst, rs_int, rs_str, rs_bl, rs_non, rs_dct, ix_tup, ix_lst, atI_0, atI_1, atI_2, ex_some, ex_some2, ex_int, ex_bl, tru_bl,
  List.getElem?_cons_zero, List.getElem?_cons_succ, List.set_cons_zero, List.set_cons_succ, eqW_str, eqW_int, eqW_bl, cmp_eq, cmp_lt, cmp_gt, cmp_ge, cmp_le, add_int, sub_int, wipeS, Tg.go, Tg.go.goAll, ex_tup, ex_cons, ex_tl, List.length_cons, List.length_nil, Nat.zero_add, Nat.reduceAdd, Nat.reduceLT, true_and, and_true, sizeLine_eq, Nat.reduceLeDiff, Nat.zero_le, ex_or, ex_or2, items_lst, items_tup, eq_self, un_not, cmp_in, len_lst, rd_w, slc_lst, ty_app, ty_get, mtW, if_true, Bool.false_eq_true, if_false]
      exact ih u (Tm.fines_iff.mp ft.2.2 u hu) (by omega) (k := k) hK
    · rw [Sto.del_set hD, ← fillTs_eq]
      exact h
theorem s_lfilled : ∀ m, lfilledAt st m
  | 0 => lfilled_core st 0 fun e h => nomatch h
  | m + 1 => lfilled_core st (m + 1) fun e h => by cases h; exact s_lfilled m
end
/-- sides that are not great -/
def liT (n : Nat) (l : Li) : Prop := (l.2.1.h ≤ n ∧ l.2.1.fine 1000) ∧ l.2.2.h ≤ n ∧ l.2.2.fine 1000
def clT (n : Nat) (c : List Li) : Prop := ∀ l ∈ c, liT n l
theorem liT.ok {l : Li} (h : liT 4 l) : LiOk l := by
  have e : 4 ^ 4 = 256 := by decide
  have h1 := nz_le _ 4 h.1.2 h.1.1
  have h2 := nz_le _ 4 h.2.2 h.2.1
  exact ⟨by have := h.1.1; omega, by have := h.2.1; omega, by omega, by omega⟩
theorem clT.ok {c : List Li} (h : clT 4 c) : okC c := fun l hl => (h l hl).ok
theorem liT.mono {n m : Nat} {l : Li} (h : liT n l) (nm : n ≤ m) : liT m l := ⟨⟨Nat.le_trans h.1.1 nm, h.1.2⟩, Nat.le_trans h.2.1 nm, h.2.2⟩
theorem clT.mono {n m : Nat} {c : List Li} (h : clT n c) (nm : n ≤ m) : clT m c := fun l hl => (h l hl).mono nm
theorem clT.sub {n : Nat} {c d : List Li} (h : clT n c) (s : ∀ l ∈ d, l ∈ c) : clT n d := fun l hl => h l (s l hl)
theorem clT.app {n : Nat} {c d : List Li} (h : clT n c) (h2 : clT n d) : clT n (c ++ d) := fun l hl => by
  rcases List.mem_append.mp hl with z | z
  · exact h l z
  · exact h2 l z
theorem clT.one {n : Nat} {l : Li} (h : liT n l) : clT n [l] := fun m hm => by rw [List.mem_singleton.mp hm]; exact h
structure St3 (S : Sto) (a D : Addr) (n : Int) (o : SO) (S' : Sto) : Prop where
  ne : a ≠ D
  eq : S' = (S.set a (.lst [.int n])).set D o
section
variable {S S' : Sto} {a D : Addr} {n m : Int} {o u : SO}
theorem St3.sa (h : St3 S a D n o S') : S' a = some (.lst [.int n]) := by rw [h.eq, Sto.set_ne h.ne, Sto.set_same]
theorem St3.sD (h : St3 S a D n o S') : S' D = some o := by rw [h.eq, Sto.set_same]
theorem St3.seta (h : St3 S a D n o S') : St3 S a D m o (S'.set a (.lst [.int m])) := ⟨h.ne, by rw [h.eq, Sto.set_comm (Ne.symm h.ne), Sto.set_set]⟩
theorem St3.setD (h : St3 S a D n o S') : St3 S a D n u (S'.set D u) := ⟨h.ne, by rw [h.eq, Sto.set_set]⟩
theorem St3.del (h : St3 S a D n o S') (hD : S D = none) : S'.del D = S.set a (.lst [.int n]) := by
  rw [h.eq, Sto.del_set (by rw [Sto.set_ne (Ne.symm h.ne)]; exact hD)]
theorem St3.new (ha : S a = some (.lst [.int n])) (hD : S D = none) : St3 S a D n o (S.set D o) :=
  ⟨fun z => (by rw [z, hD] at ha; cases ha), (by rw [Sto.set_self ha])⟩
end
theorem s_has_within {k : Nat} {S : Sto} {Q X : QW} {c o : List Li} (hc : okC c) (ho : okC o) (hl : o.length ≤ 5) (hcl : c.length ≤ 100) (h : ∀ S', KeepS S S' → Q (.bl (embF o c fun _ => none)) S') : callK T G0 (k + 29) "has_within" [clW c, clW o] S Q X := by
  refine o_has_within ?_
  unfold b_has_within
  have l1 : lenW (clW c) = some (.int (c.length : Int)) := by unfold clW; rw [len_tup, cl_len]
  have l2 : lenW (clW o) = some (.int (o.length : Int)) := by unfold clW; rw [len_tup, cl_len]
  simp only [wSs, wS, wE, wEs, wT, wOT, wI, wO, Lit.w, biW, rs_tup, rs_lst, rs_int, rs_str, rs_bl, rs_non, rs_dct, ix_tup, ix_lst, atI_0, atI_1, atI_2, ex_some, ex_some2, ex_int, ex_bl, tru_bl,
  List.getElem?_cons_zero, List.getElem?_cons_succ, List.set_cons_zero, List.set_cons_succ, eqW_str, eqW_int, eqW_bl, cmp_eq, cmp_lt, cmp_gt, cmp_ge, cmp_le, add_int, sub_int, wipeS, Tg.go, Tg.go.goAll, ex_tup, ex_cons, ex_tl, List.length_cons, List.length_nil, Nat.zero_add, Nat.reduceAdd, Nat.reduceLT, true_and, and_true, sizeLine_eq, Nat.reduceLeDiff, Nat.zero_le, ex_or, ex_or2, items_lst, items_tup, eq_self, un_not, cmp_in, len_lst, rd_w, slc_lst, ty_app, ty_get, mtW, if_true, Bool.false_eq_true, if_false, rd_cl, l1, l2]
  by_cases z : o.length ≤ c.length
  · rw [decide_eq_true (by omega)]
    simp only [wSs, wS, wE, wEs, wT, wOT, wI, wO, Lit.w, biW, rs_tup, rs_lst, rs_int, rs_str, rs_bl, rs_non, rs_dct, ix_tup, ix_lst, atI_0, atI_1, atI_2, ex_some, ex_some2, ex_int, ex_bl, tru_bl,
  List.getElem?_cons_zero, List.getElem?_cons_succ, List.set_cons_zero, List.set_cons_succ, eqW_str, eqW_int, eqW_bl, cmp_eq, cmp_lt, cmp_gt, cmp_ge, cmp_le, add_int, sub_int, wipeS, Tg.go, Tg.go.goAll, ex_tup, ex_cons, ex_tl, List.length_cons, List.length_nil, Nat.zero_add, Nat.reduceAdd, Nat.reduceLT, true_and, and_true, sizeLine_eq, Nat.reduceLeDiff, Nat.zero_le, ex_or, ex_or2, items_lst, items_tup, eq_self, un_not, cmp_in, len_lst, rd_w, slc_lst, ty_app, ty_get, mtW, if_true, Bool.false_eq_true, if_false]
    refine ⟨_, .inr rfl, _, .inr rfl, fun D hD => ?_⟩
    refine ⟨Sto.set_same, [], rfl, by decide, ?_⟩
    rw [Sto.set_set]
    refine ⟨[], rfl, fun r hr rf rc => ?_⟩
    have hDr : D ≠ r.a := fun y => by rw [← y, Sto.set_same] at hr; cases hr
    have hSr : S r.a = none := by rw [Sto.set_ne (Ne.symm hDr)] at hr; exact hr
    obtain ⟨j, hj⟩ : ∃ j, 28 = j + o.length + 23 := ⟨5 - o.length, by omega⟩
    have ek : k + 28 = (k + j) + o.length + 23 := by omega
    rw [ek]
    refine s_embeds o.length (k := k + j) (st := []) rfl ho hc hcl (fun e he => nomatch he) (by simp; omega) (by rw [Sto.set_ne hDr]; exact Sto.set_same) Sto.set_same rf rc fun S3 kp => ?_
    refine h _ fun x y hx => ?_
    have n1 : x ≠ D := fun q => by rw [q, hD] at hx; cases hx
    have n2 : x ≠ r.a := fun q => by rw [q, hSr] at hx; cases hx
    rw [Sto.del_ne n2]
    exact kp _ _ (by rw [Sto.set_ne n2, Sto.set_ne n1]; exact hx)
  · rw [decide_eq_false (by omega)]
    simp only [wSs, wS, wE, wEs, wT, wOT, wI, wO, Lit.w, biW, rs_tup, rs_lst, rs_int, rs_str, rs_bl, rs_non, rs_dct, ix_tup, ix_lst, atI_0, atI_1, atI_2, ex_some, ex_some2, ex_int, ex_bl, tru_bl,
  List.getElem?_cons_zero, List.getElem?_cons_succ, List.set_cons_zero, List.set_cons_succ, eqW_str, eqW_int, eqW_bl, cmp_eq, cmp_lt, cmp_gt, cmp_ge, cmp_le, add_int, sub_int, wipeS, Tg.go, Tg.go.goAll, ex_tup, ex_cons, ex_tl, List.length_cons, List.length_nil, Nat.zero_add, Nat.reduceAdd, Nat.reduceLT, true_and, and_true, sizeLine_eq, Nat.reduceLeDiff, Nat.zero_le, ex_or, ex_or2, items_lst, items_tup, eq_self, un_not, cmp_in, len_lst, rd_w, slc_lst, ty_app, ty_get, mtW, if_true, Bool.false_eq_true, if_false]
    have := h S KeepS.rfl
    cases q : embF o c fun _ => none with
    | true => exact (z (emb_len _ _ _ q)).elim
    | false => rw [q] at this; exact this
def unitB : List Li → Bool
  | [l] => l.1 == "like"
  | _ => false
theorem s_is_unit {k : Nat} {S : Sto} {Q X : QW} {c : List Li} (h : Q (.bl (unitB c)) S) : callK T G0 (k + 1) "is_unit" [clW c] S Q X := by
  refine o_is_unit ?_
  unfold b_is_unit
  have l1 : lenW (clW c) = some (.int (c.length : Int)) := by unfold clW; rw [len_tup, cl_len]
  simp only [wSs, wS, wE, wEs, wT, wOT, wI, wO, Lit.w, biW, rs_tup, rs_lst, rs_int, rs_str, rs_bl, rs_non, rs_dct, ix_tup, ix_lst, atI_0, atI_1, atI_2, ex_some, ex_some2, ex_int, ex_bl, tru_bl,
  List.getElem?_cons_zero, List.getElem?_cons_succ, List.set_cons_zero, List.set_cons_succ, eqW_str, eqW_int, eqW_bl, cmp_eq, cmp_lt, cmp_gt, cmp_ge, cmp_le, add_int, sub_int, wipeS, Tg.go, Tg.go.goAll, ex_tup, ex_cons, ex_tl, List.length_cons, List.length_nil, Nat.zero_add, Nat.reduceAdd, Nat.reduceLT, true_and, and_true, sizeLine_eq, Nat.reduceLeDiff, Nat.zero_le, ex_or, ex_or2, items_lst, items_tup, eq_self, un_not, cmp_in, len_lst, rd_w, slc_lst, ty_app, ty_get, mtW, if_true, Bool.false_eq_true, if_false, rd_cl, l1]
  match c, h with
  | [], h => exact h
  | [l], h => simp only [wSs, wS, wE, wEs, wT, wOT, wI, wO, Lit.w, biW, rs_tup, rs_lst, rs_int, rs_str, rs_bl, rs_non, rs_dct, ix_tup, ix_lst, atI_0, atI_1, atI_2, ex_some, ex_some2, ex_int, ex_bl, tru_bl,
  List.getElem?_cons_zero, List.getElem?_cons_succ, List.set_cons_zero, List.set_cons_succ, eqW_str, eqW_int, eqW_bl, cmp_eq, cmp_lt, cmp_gt, cmp_ge, cmp_le, add_int, sub_int, wipeS, Tg.go, Tg.go.goAll, ex_tup, ex_cons, ex_tl, List.length_cons, List.length_nil, Nat.zero_add, Nat.reduceAdd, Nat.reduceLT, true_and, and_true, sizeLine_eq, Nat.reduceLeDiff, Nat.zero_le, ex_or, ex_or2, items_lst, items_tup, eq_self, un_not, cmp_in, len_lst, rd_w, slc_lst, ty_app, ty_get, mtW, if_true, Bool.false_eq_true, if_false, rd_cl, at_cl, rd_li, i0_li, g_LIKE]; exact h
  | l :: m :: c, h =>
    have e : (((l :: m :: c).length : Int) == 1) = false := by
      have : ¬ ((l :: m :: c).length : Int) = 1 := by simp; omega
      simpa using this
    rw [e]
    exact h
theorem s_side {rs : List Rw} (rd' : rowsD rs) {k : Nat} {S : Sto} {Q X : QW} {a : Addr} {n L : Int} (hL : 0 ≤ L) (hL2 : L ≤ 10) (hS : S a = some (.lst [.int n])) (h : ∀ (t : PD.Tm) m, t.fine 1000 → t.h ≤ 2 → Q t.w (S.set a (.lst [.int m]))) :
    callK T G0 (k + 4) "_law_side" [.ref a, .lst (rowsW rs), .int L, .int 2] S Q X := by
  refine o__law_side ?_
  unfold b__law_side
  simp only [wSs, wS, wE, wEs, wT, wOT, wI, wO, Lit.w, biW, rs_tup, rs_lst, rs_int, rs_str, rs_bl, rs_non, rs_dct, ix_tup, ix_lst, atI_0, atI_1, atI_2, ex_some, ex_some2, ex_int, ex_bl, tru_bl,
  List.getElem?_cons_zero, List.getElem?_cons_succ, List.set_cons_zero, List.set_cons_succ, eqW_str, eqW_int, eqW_bl, cmp_eq, cmp_lt, cmp_gt, cmp_ge, cmp_le, add_int, sub_int, wipeS, Tg.go, Tg.go.goAll, ex_tup, ex_cons, ex_tl, List.length_cons, List.length_nil, Nat.zero_add, Nat.reduceAdd, Nat.reduceLT, true_and, and_true, sizeLine_eq, Nat.reduceLeDiff, Nat.zero_le, ex_or, ex_or2, items_lst, items_tup, eq_self, un_not, cmp_in, len_lst, rd_w, slc_lst, ty_app, ty_get, mtW, if_true, Bool.false_eq_true, if_false]
  refine s_digit hS (by decide) (by decide) ?_
  obtain ⟨i0, i1⟩ := mod_range (n := n) (u := 2) (by decide)
  have key : ∀ d : Nat, d ≤ 1 → ∀ {S2 : Sto} {m0 : Int}, S2 a = some (.lst [.int m0]) → (∀ o, S2.set a o = S.set a o) → callK T G0 (k + 3) "_law_term" [.ref a, .lst (rowsW rs), .int L, .int ((d : Int) + 1)] S2 Q X := fun d hd S2 m0 h2 h3 => by
    obtain ⟨j, hj⟩ : ∃ j, 1 = j + d := ⟨1 - d, by omega⟩
    have ek : k + 3 = (k + j) + d + 2 := by omega
    rw [ek]
    refine s_term rd' d hL hL2 h2 fun t m ft _ ht => ?_
    rw [h3]
    exact h t m (Tm.fine_mono (by omega) ft) (by omega)
  have cs : n % 2 = 0 ∨ n % 2 = 1 := by omega
  rcases cs with e | e
  · rw [e]
    refine ⟨_, rfl, ?_⟩
    exact key 0 (by omega) Sto.set_same fun o => Sto.set_set
  · rw [e]
    refine ⟨_, rfl, ?_⟩
    exact key 1 (by omega) Sto.set_same fun o => Sto.set_set
end K29

set_option Elab.async false
set_option linter.all false
set_option maxRecDepth 100000
set_option maxHeartbeats 4000000
namespace K29
open PySem PD
open L2 (atI Key)
theorem word_at {i : Int} (h0 : 0 ≤ i) (h1 : i < 3) : ∃ x : Str, atI [W.str "like", W.str "like", W.str "unlike"] i = some (.str x) := by
  obtain ⟨x, hx, e⟩ := at_mem (xs := [W.str "like", W.str "like", W.str "unlike"]) h0 (by simpa using h1)
  simp only [List.mem_cons, List.not_mem_nil, or_false] at hx
  rcases hx with rfl | rfl | rfl <;> exact ⟨_, e⟩
theorem cl_snoc (c : List Li) (l : Li) : clL c ++ [liW l] = clL (c ++ [l]) := by unfold clL; rw [List.map_append]; rfl
theorem s_claim {rs : List Rw} (rd' : rowsD rs) {k : Nat} {S : Sto} {Q X : QW} {a : Addr} {n L most : Int} (hL : 0 ≤ L) (hL2 : L ≤ 10) (hm : 1 ≤ most) (hm2 : most ≤ 5) (hS : S a = some (.lst [.int n]))
    (h : ∀ c m, clT 2 c → 1 ≤ c.length → (c.length : Int) ≤ most → Q (clW c) (S.set a (.lst [.int m]))) :
    callK T G0 (k + 6) "_law_claim" [.ref a, .lst (rowsW rs), .int L, .int 2, .int most] S Q X := by
  refine o__law_claim ?_
  unfold b__law_claim
  simp only [wSs, wS, wE, wEs, wT, wOT, wI, wO, Lit.w, biW, rs_tup, rs_lst, rs_int, rs_str, rs_bl, rs_non, rs_dct, ix_tup, ix_lst, atI_0, atI_1, atI_2, ex_some, ex_some2, ex_int, ex_bl, tru_bl,
  List.getElem?_cons_zero, List.getElem?_cons_succ, List.set_cons_zero, List.set_cons_succ, eqW_str, eqW_int, eqW_bl, cmp_eq, cmp_lt, cmp_gt, cmp_ge, cmp_le, add_int, sub_int, wipeS, Tg.go, Tg.go.goAll, ex_tup, ex_cons, ex_tl, List.length_cons, List.length_nil, Nat.zero_add, Nat.reduceAdd, Nat.reduceLT, true_and, and_true, sizeLine_eq, Nat.reduceLeDiff, Nat.zero_le, ex_or, ex_or2, items_lst, items_tup, eq_self, un_not, cmp_in, len_lst, rd_w, slc_lst, ty_app, ty_get, mtW, if_true, Bool.false_eq_true, if_false]
  intro D hD
  have st0 : St3 S a D n (.lst (clL [])) (S.set D (.lst [])) := St3.new hS hD
  refine s_digit (k := k + 4) st0.sa (by omega) (by omega) ?_
  obtain ⟨i0, i1⟩ := mod_range (n := n) (u := most) (by omega)
  have st1 := st0.seta (m := n / most)
  refine ⟨_, rfl, ⟨_, rfl, by omega, by omega, ?_⟩⟩
  refine loopF_ind (fun xs σ S' => ∃ (acc : List Li) (m : Int) (y6 y7 : Option W), acc.length + xs.length = (1 + n % most).toNat ∧ clT 2 acc ∧ St3 S a D m (.lst (clL acc)) S' ∧
    σ = [some (.ref a), some (.lst (rowsW rs)), some (.int L), some (.int 2), some (.int most), some (.ref D), y6, y7]) ?_ ?_ _ _ _ ?_
  · rintro σ S' ⟨acc, m, y6, y7, hl, hc, st, rfl⟩
    simp only [wSs, wS, wE, wEs, wT, wOT, wI, wO, Lit.w, biW, rs_tup, rs_lst, rs_int, rs_str, rs_bl, rs_non, rs_dct, ix_tup, ix_lst, atI_0, atI_1, atI_2, ex_some, ex_some2, ex_int, ex_bl, tru_bl,
  List.getElem?_cons_zero, List.getElem?_cons_succ, List.set_cons_zero, List.set_cons_succ, eqW_str, eqW_int, eqW_bl, cmp_eq, cmp_lt, cmp_gt, cmp_ge, cmp_le, add_int, sub_int, wipeS, Tg.go, Tg.go.goAll, ex_tup, ex_cons, ex_tl, List.length_cons, List.length_nil, Nat.zero_add, Nat.reduceAdd, Nat.reduceLT, true_and, and_true, sizeLine_eq, Nat.reduceLeDiff, Nat.zero_le, ex_or, ex_or2, items_lst, items_tup, eq_self, un_not, cmp_in, len_lst, rd_w, slc_lst, ty_app, ty_get, mtW, if_true, Bool.false_eq_true, if_false]
    refine ⟨D, rfl, .inl ⟨_, st.sD, ?_⟩⟩
    rw [st.del hD]
    exact h acc m hc (by simp at hl; omega) (by simp at hl; omega)
  · rintro x xs σ S' N ⟨acc, m, y6, y7, hl, hc, st, rfl⟩ hN
    unfold b__law_claim_1
    simp only [wSs, wS, wE, wEs, wT, wOT, wI, wO, Lit.w, biW, rs_tup, rs_lst, rs_int, rs_str, rs_bl, rs_non, rs_dct, ix_tup, ix_lst, atI_0, atI_1, atI_2, ex_some, ex_some2, ex_int, ex_bl, tru_bl,
  List.getElem?_cons_zero, List.getElem?_cons_succ, List.set_cons_zero, List.set_cons_succ, eqW_str, eqW_int, eqW_bl, cmp_eq, cmp_lt, cmp_gt, cmp_ge, cmp_le, add_int, sub_int, wipeS, Tg.go, Tg.go.goAll, ex_tup, ex_cons, ex_tl, List.length_cons, List.length_nil, Nat.zero_add, Nat.reduceAdd, Nat.reduceLT, true_and, and_true, sizeLine_eq, Nat.reduceLeDiff, Nat.zero_le, ex_or, ex_or2, items_lst, items_tup, eq_self, un_not, cmp_in, len_lst, rd_w, slc_lst, ty_app, ty_get, mtW, if_true, Bool.false_eq_true, if_false]
    refine s_digit (k := k + 4) st.sa (by decide) (by decide) ?_
    obtain ⟨j0, j1⟩ := mod_range (n := m) (u := 3) (by decide)
    obtain ⟨x, ex⟩ := word_at j0 j1
    have st2 := st.seta (m := m / 3)
    refine ⟨_, ex, ?_⟩
    simp only [wSs, wS, wE, wEs, wT, wOT, wI, wO, Lit.w, biW, rs_tup, rs_lst, rs_int, rs_str, rs_bl, rs_non, rs_dct, ix_tup, ix_lst, atI_0, atI_1, atI_2, ex_some, ex_some2, ex_int, ex_bl, tru_bl,
  List.getElem?_cons_zero, List.getElem?_cons_succ, List.set_cons_zero, List.set_cons_succ, eqW_str, eqW_int, eqW_bl, cmp_eq, cmp_lt, cmp_gt, cmp_ge, cmp_le, add_int, sub_int, wipeS, Tg.go, Tg.go.goAll, ex_tup, ex_cons, ex_tl, List.length_cons, List.length_nil, Nat.zero_add, Nat.reduceAdd, Nat.reduceLT, true_and, and_true, sizeLine_eq, Nat.reduceLeDiff, Nat.zero_le, ex_or, ex_or2, items_lst, items_tup, eq_self, un_not, cmp_in, len_lst, rd_w, slc_lst, ty_app, ty_get, mtW, if_true, Bool.false_eq_true, if_false, rd_r st2.sD]
    refine s_side rd' (k := k + 1) hL hL2 st2.sa fun t1 m1 f1 h1 => ?_
    have st3 := st2.seta (m := m1)
    refine s_side rd' (k := k + 1) hL hL2 st3.sa fun t2 m2 f2 h2 => ?_
    have st4 := st3.seta (m := m2)
    refine ⟨_, st4.sD, by rw [cl_len]; simp at hl; omega, ?_⟩
    have ec : clL acc ++ [W.tup [.str x, t1.w, t2.w]] = clL (acc ++ [(x, t1, t2)]) := cl_snoc acc (x, t1, t2)
    rw [ec]
    exact hN _ _ ⟨acc ++ [(x, t1, t2)], m2, _, _, by simp at hl ⊢; omega, hc.app (clT.one ⟨⟨h1, f1⟩, h2, f2⟩), st4.setD, rfl⟩
  · exact ⟨[], _, _, _, by simp [rgW], (fun l hl => nomatch hl), st1, rfl⟩
def fillL (st : Stf) (l : Li) : Li := (l.1, fillT (fOf st) l.2.1, fillT (fOf st) l.2.2)
theorem s_all_filled {k : Nat} {S : Sto} {Q X : QW} {c : List Li} {st : Stf} (hc : clT 2 c) (hl : c.length ≤ 100) (h : Q (clW (c.map (fillL st))) S) : callK T G0 (k + 4) "_law_all_filled" [clW c, .dct (kOf st) (wOf st)] S Q X := by
  refine o__law_all_filled ?_
  unfold b__law_all_filled
  simp only [wSs, wS, wE, wEs, wT, wOT, wI, wO, Lit.w, biW, rs_tup, rs_lst, rs_int, rs_str, rs_bl, rs_non, rs_dct, ix_tup, ix_lst, atI_0, atI_1, atI_2, ex_some, ex_some2, ex_int, ex_bl, tru_bl,
  List.getElem?_cons_zero, List.getElem?_cons_succ, List.set_cons_zero, List.set_cons_succ, eqW_str, eqW_int, eqW_bl, cmp_eq, cmp_lt, cmp_gt, cmp_ge, cmp_le, add_int, sub_int, wipeS, Tg.go, Tg.go.goAll, ex_tup, ex_cons, ex_tl, List.length_cons, List.length_nil, Nat.zero_add, Nat.reduceAdd, Nat.reduceLT, true_and, and_true, sizeLine_eq, Nat.reduceLeDiff, Nat.zero_le, ex_or, ex_or2, items_lst, items_tup, eq_self, un_not, cmp_in, len_lst, rd_w, slc_lst, ty_app, ty_get, mtW, if_true, Bool.false_eq_true, if_false, rd_cl, it_cl]
  refine comp_map liW (fun l => liW (fillL st l)) c (fun l hm S2 K hK => ?_) (by omega) fun D hD => ?_
  · have lt := hc l hm
    refine ⟨_, (show liW l = .tup [.str l.1, l.2.1.w, l.2.2.w] from rfl), ?_⟩
    unfold e__law_all_filled_1
    simp only [wSs, wS, wE, wEs, wT, wOT, wI, wO, Lit.w, biW, rs_tup, rs_lst, rs_int, rs_str, rs_bl, rs_non, rs_dct, ix_tup, ix_lst, atI_0, atI_1, atI_2, ex_some, ex_some2, ex_int, ex_bl, tru_bl,
  List.getElem?_cons_zero, List.getElem?_cons_succ, List.set_cons_zero, List.set_cons_succ, eqW_str, eqW_int, eqW_bl, cmp_eq, cmp_lt, cmp_gt, cmp_ge, cmp_le, add_int, sub_int, wipeS, Tg.go, Tg.go.goAll, ex_tup, ex_cons, ex_tl, List.length_cons, List.length_nil, Nat.zero_add, Nat.reduceAdd, Nat.reduceLT, true_and, and_true, sizeLine_eq, Nat.reduceLeDiff, Nat.zero_le, ex_or, ex_or2, items_lst, items_tup, eq_self, un_not, cmp_in, len_lst, rd_w, slc_lst, ty_app, ty_get, mtW, if_true, Bool.false_eq_true, if_false]
    refine s_lfilled st 2 l.2.1 lt.1.2 lt.1.1 (k := k + 1) ?_
    refine s_lfilled st 2 l.2.2 lt.2.2 lt.2.1 (k := k + 1) ?_
    exact hK
  · rw [Sto.del_set hD]
    have e : clW (c.map (fillL st)) = .tup (c.map fun l => liW (fillL st l)) := by unfold clW clL; rw [List.map_map]; rfl
    rw [e] at h
    exact h
end K29

set_option Elab.async false
set_option linter.all false
set_option maxRecDepth 100000
set_option maxHeartbeats 4000000
namespace K29
open PySem PD
open L2 (atI Key)
theorem at_clN {c : List Li} {j : Nat} (h : j < c.length) : ixW (clW c) (.int (j : Int)) = some (liW c[j]) := by
  show atI (clL c) (j : Int) = _
  rw [atI_nat]
  unfold clL
  rw [List.getElem?_map, List.getElem?_eq_getElem h]; rfl
theorem len_cl (c : List Li) : lenW (clW c) = some (.int (c.length : Int)) := by unfold clW; rw [len_tup, cl_len]
theorem two_at {i : Int} {x y : W} (h0 : 0 ≤ i) (h1 : i < 2) : ∃ w, atI [x, y] i = some w ∧ (w = x ∨ w = y) := by
  obtain ⟨w, hw, e⟩ := at_mem (xs := [x, y]) h0 (by simpa using h1)
  simp only [List.mem_cons, List.not_mem_nil, or_false] at hw
  exact ⟨w, e, hw⟩
theorem s_bent {k : Nat} {S : Sto} {Q X : QW} {a : Addr} {n : Int} {c : List Li} (hc : clT 2 c) (h1 : 1 ≤ c.length) (hl : c.length ≤ 90) (hS : S a = some (.lst [.int n]))
    (h : ∀ c' m, clT 2 c' → c'.length ≤ c.length + 1 → Q (clW c') (S.set a (.lst [.int m]))) : callK T G0 (k + 2) "_law_bent" [.ref a, clW c] S Q X := by
  refine o__law_bent ?_
  unfold b__law_bent
  simp only [wSs, wS, wE, wEs, wT, wOT, wI, wO, Lit.w, biW, rs_tup, rs_lst, rs_int, rs_str, rs_bl, rs_non, rs_dct, ix_tup, ix_lst, atI_0, atI_1, atI_2, ex_some, ex_some2, ex_int, ex_bl, tru_bl,
  List.getElem?_cons_zero, List.getElem?_cons_succ, List.set_cons_zero, List.set_cons_succ, eqW_str, eqW_int, eqW_bl, cmp_eq, cmp_lt, cmp_gt, cmp_ge, cmp_le, add_int, sub_int, wipeS, Tg.go, Tg.go.goAll, ex_tup, ex_cons, ex_tl, List.length_cons, List.length_nil, Nat.zero_add, Nat.reduceAdd, Nat.reduceLT, true_and, and_true, sizeLine_eq, Nat.reduceLeDiff, Nat.zero_le, ex_or, ex_or2, items_lst, items_tup, eq_self, un_not, cmp_in, len_lst, rd_w, slc_lst, ty_app, ty_get, mtW, if_true, Bool.false_eq_true, if_false, rd_cl, len_cl]
  refine s_digit (k := k) hS (by omega) (by omega) ?_
  obtain ⟨i0, i1⟩ := mod_range (n := n) (u := (c.length : Int)) (by omega)
  obtain ⟨j, hj⟩ : ∃ j : Nat, n % (c.length : Int) = (j : Int) := ⟨(n % (c.length : Int)).toNat, by omega⟩
  rw [hj]
  have hjl : j < c.length := by omega
  have e1 := at_clN hjl
  have lo := hc c[j] (List.getElem_mem hjl)
  generalize c[j] = l at e1 lo
  simp only [wSs, wS, wE, wEs, wT, wOT, wI, wO, Lit.w, biW, rs_tup, rs_lst, rs_int, rs_str, rs_bl, rs_non, rs_dct, ix_tup, ix_lst, atI_0, atI_1, atI_2, ex_some, ex_some2, ex_int, ex_bl, tru_bl,
  List.getElem?_cons_zero, List.getElem?_cons_succ, List.set_cons_zero, List.set_cons_succ, eqW_str, eqW_int, eqW_bl, cmp_eq, cmp_lt, cmp_gt, cmp_ge, cmp_le, add_int, sub_int, wipeS, Tg.go, Tg.go.goAll, ex_tup, ex_cons, ex_tl, List.length_cons, List.length_nil, Nat.zero_add, Nat.reduceAdd, Nat.reduceLT, true_and, and_true, sizeLine_eq, Nat.reduceLeDiff, Nat.zero_le, ex_or, ex_or2, items_lst, items_tup, eq_self, un_not, cmp_in, len_lst, rd_w, slc_lst, ty_app, ty_get, mtW, if_true, Bool.false_eq_true, if_false, rd_cl, e1]
  refine ⟨_, (show liW l = .tup [.str l.1, l.2.1.w, l.2.2.w] from rfl), ?_⟩
  have c1 := hd_cl c j
  have c2 := tk_cl c j
  have t1 : W.tup [W.tup [.str l.1, l.2.1.w, l.2.1.w]] = clW [(l.1, l.2.1, l.2.1)] := rfl
  have a1 : binW .Add (clW (c.take j)) (clW [(l.1, l.2.1, l.2.1)]) = some (clW (c.take j ++ [(l.1, l.2.1, l.2.1)])) := add_cl (by simp; omega)
  have a2 : binW .Add (clW (c.take j ++ [(l.1, l.2.1, l.2.1)])) (clW (c.drop (j + 1))) = some (clW (c.take j ++ [(l.1, l.2.1, l.2.1)] ++ c.drop (j + 1))) := add_cl (by simp; omega)
  simp only [wSs, wS, wE, wEs, wT, wOT, wI, wO, Lit.w, biW, rs_tup, rs_lst, rs_int, rs_str, rs_bl, rs_non, rs_dct, ix_tup, ix_lst, atI_0, atI_1, atI_2, ex_some, ex_some2, ex_int, ex_bl, tru_bl,
  List.getElem?_cons_zero, List.getElem?_cons_succ, List.set_cons_zero, List.set_cons_succ, eqW_str, eqW_int, eqW_bl, cmp_eq, cmp_lt, cmp_gt, cmp_ge, cmp_le, add_int, sub_int, wipeS, Tg.go, Tg.go.goAll, ex_tup, ex_cons, ex_tl, List.length_cons, List.length_nil, Nat.zero_add, Nat.reduceAdd, Nat.reduceLT, true_and, and_true, sizeLine_eq, Nat.reduceLeDiff, Nat.zero_le, ex_or, ex_or2, items_lst, items_tup, eq_self, un_not, cmp_in, len_lst, rd_w, slc_lst, ty_app, ty_get, mtW, if_true, Bool.false_eq_true, if_false, rd_cl, t1, c1, c2, a1, a2]
  intro D hD
  have hD0 : S D = none := Sto.none_of hD
  generalize hc1 : c.take j ++ [(l.1, l.2.1, l.2.1)] ++ c.drop (j + 1) = cA
  have hA : clT 2 cA := by
    rw [← hc1]
    exact ((hc.sub fun x hx => List.mem_of_mem_take hx).app (clT.one (l := (l.1, l.2.1, l.2.1)) ⟨lo.1, lo.1⟩)).app (hc.sub fun x hx => List.mem_of_mem_drop hx)
  have lA : cA.length = c.length := by rw [← hc1]; simp; omega
  have st0 : St3 S a D (n / (c.length : Int)) (.lst [clW c, clW cA]) ((S.set a (.lst [.int (n / (c.length : Int))])).set D (.lst [clW c, clW cA])) := ⟨fun z => (by rw [← z, hS] at hD0; cases hD0), rfl⟩
  have tu : ∃ x : Str, atI [W.str "like", W.str "unlike"] (if (l.1 == ("like" : Str)) = true then 1 else 0) = some (.str x) := by
    cases (l.1 == ("like" : Str))
    · exact ⟨"like", rfl⟩
    · exact ⟨"unlike", rfl⟩
  obtain ⟨x, ex⟩ := tu
  refine ⟨_, ex, ?_⟩
  simp only [wSs, wS, wE, wEs, wT, wOT, wI, wO, Lit.w, biW, rs_tup, rs_lst, rs_int, rs_str, rs_bl, rs_non, rs_dct, ix_tup, ix_lst, atI_0, atI_1, atI_2, ex_some, ex_some2, ex_int, ex_bl, tru_bl,
  List.getElem?_cons_zero, List.getElem?_cons_succ, List.set_cons_zero, List.set_cons_succ, eqW_str, eqW_int, eqW_bl, cmp_eq, cmp_lt, cmp_gt, cmp_ge, cmp_le, add_int, sub_int, wipeS, Tg.go, Tg.go.goAll, ex_tup, ex_cons, ex_tl, List.length_cons, List.length_nil, Nat.zero_add, Nat.reduceAdd, Nat.reduceLT, true_and, and_true, sizeLine_eq, Nat.reduceLeDiff, Nat.zero_le, ex_or, ex_or2, items_lst, items_tup, eq_self, un_not, cmp_in, len_lst, rd_w, slc_lst, ty_app, ty_get, mtW, if_true, Bool.false_eq_true, if_false, rd_r st0.sD]
  refine s_digit (k := k) st0.sa (by decide) (by decide) ?_
  obtain ⟨u0, u1⟩ := mod_range (n := n / (c.length : Int)) (u := 2) (by decide)
  obtain ⟨w, ew, hw⟩ := two_at (x := l.2.1.w) (y := l.2.2.w) u0 u1
  have hw2 : ∃ t : PD.Tm, w = t.w ∧ t.h ≤ 2 ∧ t.fine 1000 := by
    rcases hw with rfl | rfl
    · exact ⟨_, rfl, lo.1⟩
    · exact ⟨_, rfl, lo.2⟩
  obtain ⟨t, rfl, ht⟩ := hw2
  have st1 := st0.seta (m := n / (c.length : Int) / 2)
  refine ⟨_, ew, ?_⟩
  have t2 : W.tup [W.tup [.str x, t.w, l.2.2.w]] = clW [(x, t, l.2.2)] := rfl
  have t3 : W.tup [W.tup [.str x, l.2.2.w, l.2.1.w]] = clW [(x, l.2.2, l.2.1)] := rfl
  have a3 : binW .Add (clW c) (clW [(x, t, l.2.2)]) = some (clW (c ++ [(x, t, l.2.2)])) := add_cl (by simp; omega)
  have a4 : binW .Add (clW c) (clW [(x, l.2.2, l.2.1)]) = some (clW (c ++ [(x, l.2.2, l.2.1)])) := add_cl (by simp; omega)
  simp only [wSs, wS, wE, wEs, wT, wOT, wI, wO, Lit.w, biW, rs_tup, rs_lst, rs_int, rs_str, rs_bl, rs_non, rs_dct, ix_tup, ix_lst, atI_0, atI_1, atI_2, ex_some, ex_some2, ex_int, ex_bl, tru_bl,
  List.getElem?_cons_zero, List.getElem?_cons_succ, List.set_cons_zero, List.set_cons_succ, eqW_str, eqW_int, eqW_bl, cmp_eq, cmp_lt, cmp_gt, cmp_ge, cmp_le, add_int, sub_int, wipeS, Tg.go, Tg.go.goAll, ex_tup, ex_cons, ex_tl, List.length_cons, List.length_nil, Nat.zero_add, Nat.reduceAdd, Nat.reduceLT, true_and, and_true, sizeLine_eq, Nat.reduceLeDiff, Nat.zero_le, ex_or, ex_or2, items_lst, items_tup, eq_self, un_not, cmp_in, len_lst, rd_w, slc_lst, ty_app, ty_get, mtW, if_true, Bool.false_eq_true, if_false, rd_cl, t2, t3, a3, a4]
  refine ⟨_, st1.sD, by simp, ?_⟩
  have st2 := st1.setD (u := .lst ([clW c, clW cA] ++ [clW (c ++ [(x, t, l.2.2)])]))
  simp only [wSs, wS, wE, wEs, wT, wOT, wI, wO, Lit.w, biW, rs_tup, rs_lst, rs_int, rs_str, rs_bl, rs_non, rs_dct, ix_tup, ix_lst, atI_0, atI_1, atI_2, ex_some, ex_some2, ex_int, ex_bl, tru_bl,
  List.getElem?_cons_zero, List.getElem?_cons_succ, List.set_cons_zero, List.set_cons_succ, eqW_str, eqW_int, eqW_bl, cmp_eq, cmp_lt, cmp_gt, cmp_ge, cmp_le, add_int, sub_int, wipeS, Tg.go, Tg.go.goAll, ex_tup, ex_cons, ex_tl, List.length_cons, List.length_nil, Nat.zero_add, Nat.reduceAdd, Nat.reduceLT, true_and, and_true, sizeLine_eq, Nat.reduceLeDiff, Nat.zero_le, ex_or, ex_or2, items_lst, items_tup, eq_self, un_not, cmp_in, len_lst, rd_w, slc_lst, ty_app, ty_get, mtW, if_true, Bool.false_eq_true, if_false, rd_r st2.sD]
  refine ⟨_, st2.sD, by simp, ?_⟩
  have st3 := st2.setD (u := .lst ([clW c, clW cA] ++ [clW (c ++ [(x, t, l.2.2)])] ++ [clW (c ++ [(x, l.2.2, l.2.1)])]))
  refine ⟨D, rfl, .inl ⟨_, st3.sD, ?_⟩⟩
  rw [st3.del hD0]
  refine s_digit (k := k) Sto.set_same (by decide) (by decide) ?_
  rw [Sto.set_set]
  obtain ⟨v0, v1⟩ := mod_range (n := n / (c.length : Int) / 2) (u := 4) (by decide)
  obtain ⟨w, hw, ew⟩ := at_mem (xs := [clW c, clW cA] ++ [clW (c ++ [(x, t, l.2.2)])] ++ [clW (c ++ [(x, l.2.2, l.2.1)])]) v0 (by simpa using v1)
  refine ⟨_, ew, ?_⟩
  simp only [List.cons_append, List.nil_append, List.mem_cons, List.not_mem_nil, or_false] at hw
  rcases hw with rfl | rfl | rfl | rfl
  · exact h _ _ hc (by omega)
  · exact h _ _ hA (by omega)
  · exact h _ _ (hc.app (clT.one (l := (x, t, l.2.2)) ⟨ht, lo.2⟩)) (by simp)
  · exact h _ _ (hc.app (clT.one (l := (x, l.2.2, l.2.1)) ⟨lo.2, lo.1⟩)) (by simp)
theorem ty_ins {xs : List W} : (tyM .insert (.lst xs) = true) = True := eq_self _
theorem cl_ins (c : List Li) (l : Li) (i : Nat) : (clL c).take i ++ [liW l] ++ (clL c).drop i = clL (c.take i ++ [l] ++ c.drop i) := by
  unfold clL
  rw [List.map_append, List.map_append, List.map_take, List.map_drop]; rfl
theorem s_fuller {rs : List Rw} (rd' : rowsD rs) {k : Nat} {S : Sto} {Q X : QW} {a : Addr} {n : Int} {c : List Li} (hc : clT 2 c) (hl : c.length ≤ 90) (hS : S a = some (.lst [.int n]))
    (h : ∀ c' m, clT 4 c' → c'.length = c.length → Q (clW c') (S.set a (.lst [.int m]))) : callK T G0 (k + 6) "_law_fuller" [.ref a, .lst (rowsW rs), clW c] S Q X := by
  refine o__law_fuller ?_
  unfold b__law_fuller
  simp only [wSs, wS, wE, wEs, wT, wOT, wI, wO, Lit.w, biW, rs_tup, rs_lst, rs_int, rs_str, rs_bl, rs_non, rs_dct, ix_tup, ix_lst, atI_0, atI_1, atI_2, ex_some, ex_some2, ex_int, ex_bl, tru_bl,
  List.getElem?_cons_zero, List.getElem?_cons_succ, List.set_cons_zero, List.set_cons_succ, eqW_str, eqW_int, eqW_bl, cmp_eq, cmp_lt, cmp_gt, cmp_ge, cmp_le, add_int, sub_int, wipeS, Tg.go, Tg.go.goAll, ex_tup, ex_cons, ex_tl, List.length_cons, List.length_nil, Nat.zero_add, Nat.reduceAdd, Nat.reduceLT, true_and, and_true, sizeLine_eq, Nat.reduceLeDiff, Nat.zero_le, ex_or, ex_or2, items_lst, items_tup, eq_self, un_not, cmp_in, len_lst, rd_w, slc_lst, ty_app, ty_get, mtW, if_true, Bool.false_eq_true, if_false]
  intro D hD
  refine ⟨Sto.set_same, [], rfl, by decide, ?_⟩
  rw [Sto.set_set]
  have st0 : St3 S a D n (.dct (kOf []) (wOf [])) (S.set D (.dct (mergeW []).1 (mergeW []).2)) := St3.new hS hD
  generalize S.set D (.dct (mergeW []).1 (mergeW []).2) = S0 at st0
  refine ⟨by decide, by decide, ?_⟩
  have er : rgW 0 (3 : Int).toNat = (List.range' 0 3).map (fun j : Nat => W.int (j : Int)) := rfl
  rw [er]
  refine loopF_ind (fun xs σ S' => ∃ (i r : Nat) (m : Int) (st : Stf) (y : Option W), xs = (List.range' i r).map (fun j : Nat => W.int (j : Int)) ∧ i + r = 3 ∧ (∀ e ∈ st, e.1 < (i : Int) ∧ e.2.h ≤ 2 ∧ e.2.fine 1000) ∧ st.length ≤ i ∧ St3 S a D m (.dct (kOf st) (wOf st)) S' ∧
    σ = [some (.ref a), some (.lst (rowsW rs)), some (clW c), some (.ref D), y, none, none, none, none, none]) ?_ ?_ _ _ _ ?_
  · rintro σ S' ⟨i, r, m, st, y, e1, e2, g1, g2, s3, rfl⟩
    simp only [wSs, wS, wE, wEs, wT, wOT, wI, wO, Lit.w, biW, rs_tup, rs_lst, rs_int, rs_str, rs_bl, rs_non, rs_dct, ix_tup, ix_lst, atI_0, atI_1, atI_2, ex_some, ex_some2, ex_int, ex_bl, tru_bl,
  List.getElem?_cons_zero, List.getElem?_cons_succ, List.set_cons_zero, List.set_cons_succ, eqW_str, eqW_int, eqW_bl, cmp_eq, cmp_lt, cmp_gt, cmp_ge, cmp_le, add_int, sub_int, wipeS, Tg.go, Tg.go.goAll, ex_tup, ex_cons, ex_tl, List.length_cons, List.length_nil, Nat.zero_add, Nat.reduceAdd, Nat.reduceLT, true_and, and_true, sizeLine_eq, Nat.reduceLeDiff, Nat.zero_le, ex_or, ex_or2, items_lst, items_tup, eq_self, un_not, cmp_in, len_lst, rd_w, slc_lst, ty_app, ty_get, mtW, if_true, Bool.false_eq_true, if_false]
    refine ⟨D, rfl, .inr ⟨_, _, s3.sD, ?_⟩⟩
    rw [s3.del hD]
    intro D2 hD2
    have hD20 : S D2 = none := Sto.none_of hD2
    have hok : ∀ n u, fOf st n = some u → u.h ≤ 2 ∧ u.fine 1000 := fun n u q => (g1 _ (fOf_mem q)).2
    have hf : clT 4 (c.map (fillL st)) := fun l hl => by
      obtain ⟨l0, m0, rfl⟩ := List.mem_map.mp hl
      have t0 := hc l0 m0
      have q1 := fill_ok hok l0.2.1 t0.1.2
      have q2 := fill_ok hok l0.2.2 t0.2.2
      exact ⟨⟨by have := t0.1.1; show (fillT (fOf st) l0.2.1).h ≤ 4; omega, q1.2⟩, by have := t0.2.1; show (fillT (fOf st) l0.2.2).h ≤ 4; omega, q2.2⟩
    have u0 : St3 S a D2 m (.lst (clL [])) ((S.set a (.lst [.int m])).set D2 (.lst [])) := ⟨fun z => (by rw [← z, hS] at hD20; cases hD20), rfl⟩
    refine s_all_filled (k := k + 1) (st := st) hc (by omega) ?_
    have lf : (c.map (fillL st)).length = c.length := List.length_map _
    generalize c.map (fillL st) = cF at hf lf
    simp only [wSs, wS, wE, wEs, wT, wOT, wI, wO, Lit.w, biW, rs_tup, rs_lst, rs_int, rs_str, rs_bl, rs_non, rs_dct, ix_tup, ix_lst, atI_0, atI_1, atI_2, ex_some, ex_some2, ex_int, ex_bl, tru_bl,
  List.getElem?_cons_zero, List.getElem?_cons_succ, List.set_cons_zero, List.set_cons_succ, eqW_str, eqW_int, eqW_bl, cmp_eq, cmp_lt, cmp_gt, cmp_ge, cmp_le, add_int, sub_int, wipeS, Tg.go, Tg.go.goAll, ex_tup, ex_cons, ex_tl, List.length_cons, List.length_nil, Nat.zero_add, Nat.reduceAdd, Nat.reduceLT, true_and, and_true, sizeLine_eq, Nat.reduceLeDiff, Nat.zero_le, ex_or, ex_or2, items_lst, items_tup, eq_self, un_not, cmp_in, len_lst, rd_w, slc_lst, ty_app, ty_get, mtW, if_true, Bool.false_eq_true, if_false, it_cl]
    refine loopF_ind (fun xs σ S' => ∃ (acc rest : List Li) (m : Int) (y6 y7 y8 y9 : Option W), xs = clL rest ∧ acc.length + rest.length = c.length ∧ clT 4 acc ∧ clT 4 rest ∧ St3 S a D2 m (.lst (clL acc)) S' ∧
      σ = [some (.ref a), some (.lst (rowsW rs)), some (clW c), some (.dct (kOf st) (wOf st)), y, some (.ref D2), y6, y7, y8, y9]) ?_ ?_ _ _ _ ?_
    · rintro σ S' ⟨acc, rest, m, y6, y7, y8, y9, e1, e2, h4, h5, s4, rfl⟩
      cases rest with
      | cons l rest => cases e1
      | nil =>
        simp only [wSs, wS, wE, wEs, wT, wOT, wI, wO, Lit.w, biW, rs_tup, rs_lst, rs_int, rs_str, rs_bl, rs_non, rs_dct, ix_tup, ix_lst, atI_0, atI_1, atI_2, ex_some, ex_some2, ex_int, ex_bl, tru_bl,
  List.getElem?_cons_zero, List.getElem?_cons_succ, List.set_cons_zero, List.set_cons_succ, eqW_str, eqW_int, eqW_bl, cmp_eq, cmp_lt, cmp_gt, cmp_ge, cmp_le, add_int, sub_int, wipeS, Tg.go, Tg.go.goAll, ex_tup, ex_cons, ex_tl, List.length_cons, List.length_nil, Nat.zero_add, Nat.reduceAdd, Nat.reduceLT, true_and, and_true, sizeLine_eq, Nat.reduceLeDiff, Nat.zero_le, ex_or, ex_or2, items_lst, items_tup, eq_self, un_not, cmp_in, len_lst, rd_w, slc_lst, ty_app, ty_get, mtW, if_true, Bool.false_eq_true, if_false]
        refine ⟨D2, rfl, .inl ⟨_, s4.sD, ?_⟩⟩
        rw [s4.del hD20]
        exact h acc m h4 (by simpa using e2)
    · rintro x xs σ S' N ⟨acc, rest, m, y6, y7, y8, y9, e1, e2, h4, h5, s4, rfl⟩ hN
      cases rest with
      | nil => cases e1
      | cons l rest =>
        obtain ⟨rfl, rfl⟩ := List.cons.inj e1
        have lo := h5 l (by simp)
        refine ⟨_, (show liW l = .tup [.str l.1, l.2.1.w, l.2.2.w] from rfl), ?_⟩
        unfold b__law_fuller_1
        simp only [wSs, wS, wE, wEs, wT, wOT, wI, wO, Lit.w, biW, rs_tup, rs_lst, rs_int, rs_str, rs_bl, rs_non, rs_dct, ix_tup, ix_lst, atI_0, atI_1, atI_2, ex_some, ex_some2, ex_int, ex_bl, tru_bl,
  List.getElem?_cons_zero, List.getElem?_cons_succ, List.set_cons_zero, List.set_cons_succ, eqW_str, eqW_int, eqW_bl, cmp_eq, cmp_lt, cmp_gt, cmp_ge, cmp_le, add_int, sub_int, wipeS, Tg.go, Tg.go.goAll, ex_tup, ex_cons, ex_tl, List.length_cons, List.length_nil, Nat.zero_add, Nat.reduceAdd, Nat.reduceLT, true_and, and_true, sizeLine_eq, Nat.reduceLeDiff, Nat.zero_le, ex_or, ex_or2, items_lst, items_tup, eq_self, un_not, cmp_in, len_lst, rd_w, slc_lst, ty_app, ty_get, mtW, if_true, Bool.false_eq_true, if_false]
        refine s_digit (k := k + 4) s4.sa (by decide) (by decide) ?_
        obtain ⟨v0, v1⟩ := mod_range (n := m) (u := 2) (by decide)
        obtain ⟨w, ew, hw⟩ := two_at (x := W.tup [.str l.1, l.2.1.w, l.2.2.w]) (y := W.tup [.str l.1, l.2.2.w, l.2.1.w]) v0 v1
        have hw2 : ∃ l' : Li, w = liW l' ∧ liT 4 l' := by
          rcases hw with rfl | rfl
          · exact ⟨l, rfl, lo⟩
          · exact ⟨(l.1, l.2.2, l.2.1), rfl, lo.2, lo.1⟩
        obtain ⟨l', rfl, lo'⟩ := hw2
        have s5 := s4.seta (m := m / 2)
        refine ⟨_, ew, ?_⟩
        have el : lenW (.lst (clL acc)) = some (.int (acc.length : Int)) := by rw [len_lst, cl_len]
        simp only [wSs, wS, wE, wEs, wT, wOT, wI, wO, Lit.w, biW, rs_tup, rs_lst, rs_int, rs_str, rs_bl, rs_non, rs_dct, ix_tup, ix_lst, atI_0, atI_1, atI_2, ex_some, ex_some2, ex_int, ex_bl, tru_bl,
  List.getElem?_cons_zero, List.getElem?_cons_succ, List.set_cons_zero, List.set_cons_succ, eqW_str, eqW_int, eqW_bl, cmp_eq, cmp_lt, cmp_gt, cmp_ge, cmp_le, add_int, sub_int, wipeS, Tg.go, Tg.go.goAll, ex_tup, ex_cons, ex_tl, List.length_cons, List.length_nil, Nat.zero_add, Nat.reduceAdd, Nat.reduceLT, true_and, and_true, sizeLine_eq, Nat.reduceLeDiff, Nat.zero_le, ex_or, ex_or2, items_lst, items_tup, eq_self, un_not, cmp_in, len_lst, rd_w, slc_lst, ty_app, ty_get, mtW, if_true, Bool.false_eq_true, if_false, rd_r s5.sD, ty_ins, el]
        simp at e2
        refine s_digit (k := k + 4) s5.sa (by omega) (by omega) ?_
        obtain ⟨z0, z1⟩ := mod_range (n := m / 2) (u := (acc.length : Int) + 1) (by omega)
        have s6 := s5.seta (m := m / 2 / ((acc.length : Int) + 1))
        refine ⟨_, s6.sD, by rw [cl_len]; omega, z0, by omega, ?_⟩
        rw [cl_ins]
        refine hN _ _ ⟨_, rest, _, _, _, _, _, rfl, ?_, ((h4.sub fun x hx => List.mem_of_mem_take hx).app (clT.one lo')).app (h4.sub fun x hx => List.mem_of_mem_drop hx), fun x hx => h5 x (by simp [hx]), s6.setD, rfl⟩
        simp
        omega
    · exact ⟨[], cF, _, _, _, _, _, rfl, by simpa using lf, (fun l hl => nomatch hl), hf, u0, rfl⟩
  · rintro x xs σ S' N ⟨i, r, m, st, y, e1, e2, g1, g2, s3, rfl⟩ hN
    cases r with
    | zero => cases e1
    | succ r =>
      rw [List.range'_succ] at e1
      obtain ⟨rfl, rfl⟩ := List.cons.inj e1
      have g3 : ∀ e ∈ st, e.1 < ((i + 1 : Nat) : Int) ∧ e.2.h ≤ 2 ∧ e.2.fine 1000 := fun e he => ⟨by have := (g1 e he).1; omega, (g1 e he).2⟩
      unfold b__law_fuller_3
      simp only [wSs, wS, wE, wEs, wT, wOT, wI, wO, Lit.w, biW, rs_tup, rs_lst, rs_int, rs_str, rs_bl, rs_non, rs_dct, ix_tup, ix_lst, atI_0, atI_1, atI_2, ex_some, ex_some2, ex_int, ex_bl, tru_bl,
  List.getElem?_cons_zero, List.getElem?_cons_succ, List.set_cons_zero, List.set_cons_succ, eqW_str, eqW_int, eqW_bl, cmp_eq, cmp_lt, cmp_gt, cmp_ge, cmp_le, add_int, sub_int, wipeS, Tg.go, Tg.go.goAll, ex_tup, ex_cons, ex_tl, List.length_cons, List.length_nil, Nat.zero_add, Nat.reduceAdd, Nat.reduceLT, true_and, and_true, sizeLine_eq, Nat.reduceLeDiff, Nat.zero_le, ex_or, ex_or2, items_lst, items_tup, eq_self, un_not, cmp_in, len_lst, rd_w, slc_lst, ty_app, ty_get, mtW, if_true, Bool.false_eq_true, if_false]
      refine s_digit (k := k + 4) s3.sa (by decide) (by decide) ?_
      have s4 := s3.seta (m := m / 2)
      generalize hq : (m % 2 == 0) = q
      simp only [wSs, wS, wE, wEs, wT, wOT, wI, wO, Lit.w, biW, rs_tup, rs_lst, rs_int, rs_str, rs_bl, rs_non, rs_dct, ix_tup, ix_lst, atI_0, atI_1, atI_2, ex_some, ex_some2, ex_int, ex_bl, tru_bl,
  List.getElem?_cons_zero, List.getElem?_cons_succ, List.set_cons_zero, List.set_cons_succ, eqW_str, eqW_int, eqW_bl, cmp_eq, cmp_lt, cmp_gt, cmp_ge, cmp_le, add_int, sub_int, wipeS, Tg.go, Tg.go.goAll, ex_tup, ex_cons, ex_tl, List.length_cons, List.length_nil, Nat.zero_add, Nat.reduceAdd, Nat.reduceLT, true_and, and_true, sizeLine_eq, Nat.reduceLeDiff, Nat.zero_le, ex_or, ex_or2, items_lst, items_tup, eq_self, un_not, cmp_in, len_lst, rd_w, slc_lst, ty_app, ty_get, mtW, if_true, Bool.false_eq_true, if_false]
      cases q with
      | false =>
        rw [hq]
        simp only [wSs, wS, wE, wEs, wT, wOT, wI, wO, Lit.w, biW, rs_tup, rs_lst, rs_int, rs_str, rs_bl, rs_non, rs_dct, ix_tup, ix_lst, atI_0, atI_1, atI_2, ex_some, ex_some2, ex_int, ex_bl, tru_bl,
  List.getElem?_cons_zero, List.getElem?_cons_succ, List.set_cons_zero, List.set_cons_succ, eqW_str, eqW_int, eqW_bl, cmp_eq, cmp_lt, cmp_gt, cmp_ge, cmp_le, add_int, sub_int, wipeS, Tg.go, Tg.go.goAll, ex_tup, ex_cons, ex_tl, List.length_cons, List.length_nil, Nat.zero_add, Nat.reduceAdd, Nat.reduceLT, true_and, and_true, sizeLine_eq, Nat.reduceLeDiff, Nat.zero_le, ex_or, ex_or2, items_lst, items_tup, eq_self, un_not, cmp_in, len_lst, rd_w, slc_lst, ty_app, ty_get, mtW, if_true, Bool.false_eq_true, if_false]
        exact hN _ _ ⟨i + 1, r, _, st, _, rfl, by omega, g3, by omega, s4, rfl⟩
      | true =>
        rw [hq]
        unfold b__law_fuller_2
        simp only [wSs, wS, wE, wEs, wT, wOT, wI, wO, Lit.w, biW, rs_tup, rs_lst, rs_int, rs_str, rs_bl, rs_non, rs_dct, ix_tup, ix_lst, atI_0, atI_1, atI_2, ex_some, ex_some2, ex_int, ex_bl, tru_bl,
  List.getElem?_cons_zero, List.getElem?_cons_succ, List.set_cons_zero, List.set_cons_succ, eqW_str, eqW_int, eqW_bl, cmp_eq, cmp_lt, cmp_gt, cmp_ge, cmp_le, add_int, sub_int, wipeS, Tg.go, Tg.go.goAll, ex_tup, ex_cons, ex_tl, List.length_cons, List.length_nil, Nat.zero_add, Nat.reduceAdd, Nat.reduceLT, true_and, and_true, sizeLine_eq, Nat.reduceLeDiff, Nat.zero_le, ex_or, ex_or2, items_lst, items_tup, eq_self, un_not, cmp_in, len_lst, rd_w, slc_lst, ty_app, ty_get, mtW, if_true, Bool.false_eq_true, if_false]
        refine s_term rd' 1 (k := k + 2) (by decide) (by decide) s4.sa fun t m3 ft _ ht => ?_
        have s5 := s4.seta (m := m3)
        refine setW_d s5.sD (by unfold kOf; rw [List.length_map]; omega) ?_
        have fn : fOf st (i : Int) = none := by
          cases q2 : fOf st (i : Int) with
          | none => rfl
          | some u => have := (g1 _ (fOf_mem q2)).1; omega
        rw [put_new fn]
        refine hN _ _ ⟨i + 1, r, _, st ++ [((i : Int), t)], _, rfl, by omega, fun e he => ?_, by simp; omega, s5.setD, rfl⟩
        rcases List.mem_append.mp he with z | z
        · exact g3 e z
        · rw [List.mem_singleton.mp z]
          exact ⟨by show (i : Int) < _; omega, ht, Tm.fine_mono (by decide) ft⟩
  · exact ⟨0, 3, _, [], _, rfl, rfl, (fun e he => nomatch he), Nat.zero_le _, st0, rfl⟩
end K29

set_option Elab.async false
set_option linter.all false
set_option maxRecDepth 100000
set_option maxHeartbeats 4000000
namespace K29
open PySem PD
open L2 (atI Key)
theorem ne_bb {x y : Bool} : cmpW .NotEq (.bl x) (.bl y) = some (!(x == y)) := rfl
/-- a claim that is fit to be asked about -/
structure Gd (c : List Li) : Prop where
  ok : okC c
  len : c.length ≤ 5
theorem Gd.of {c : List Li} (h : clT 4 c) (hl : c.length ≤ 5) : Gd c := ⟨h.ok, hl⟩
def r_law : Sts := match b_law_6 with
  | .cons _ r => r
  | _ => .nil
theorem b_law_6_eq : b_law_6 = .cons (.iff (.val (.cmp .NotEq (.bi .repr (.cons (.call "is_unit" (.cons (.loc 8) .nil)) .nil)) (.bi .repr (.cons (.and2 (.cmp .Eq (.bi .len (.cons (.loc 8) .nil)) (.lit (.int 1))) (.cmp .Eq (.ix (.ix (.loc 8) (.lit (.int 0))) (.lit (.int 0))) (.lit (.str "like")))) .nil)))) b_law_5 .nil) r_law := rfl
theorem repr_b (b : Bool) {P : PyData → Prop} (h : P (.bool b)) : ∃ d, (W.bl b).dd = some d ∧ d.showable = true ∧ d.shown.length ≤ 16777216 ∧ d.depth ≤ 100 ∧ P d := ⟨.bool b, rfl, by cases b <;> rfl, by cases b <;> decide +kernel, by cases b <;> decide, h⟩
theorem ne_same {x : Str} : cmpW .NotEq (.str x) (.str x) = some false := by rw [ne_str2]; simp
theorem emb0 (c : List Li) : embF c c (fun _ => none) = true := emb_self c _ fun n t e => nomatch e
theorem s_one {S : Sto} {D : En} {x0 x1 x2 x3 x4 x5 x6 y9 y10 : Option W} {c : List Li} {cs : List (List Li)} (hc : Gd c) (hcs : ∀ d ∈ cs, Gd d)
    (h : ∀ S' y9 y10, D.nx [x0, x1, x2, x3, x4, x5, x6, some (.lst (cs.map clW)), some (clW c), y9, y10] S') :
    wSs ⟨callK T G0 99, G0⟩ b_law_6 D [x0, x1, x2, x3, x4, x5, x6, some (.lst (cs.map clW)), some (clW c), y9, y10] S := by
  have lc := hc.len
  have rest : ∀ S, wSs ⟨callK T G0 99, G0⟩ r_law D [x0, x1, x2, x3, x4, x5, x6, some (.lst (cs.map clW)), some (clW c), y9, y10] S := fun S => by
    unfold r_law b_law_6
    simp only [wSs, wS, wE, wEs, wT, wOT, wI, wO, Lit.w, biW, rs_tup, rs_lst, rs_int, rs_str, rs_bl, rs_non, rs_dct, ix_tup, ix_lst, atI_0, atI_1, atI_2, ex_some, ex_some2, ex_int, ex_bl, tru_bl,
  List.getElem?_cons_zero, List.getElem?_cons_succ, List.set_cons_zero, List.set_cons_succ, eqW_str, eqW_int, eqW_bl, cmp_eq, cmp_lt, cmp_gt, cmp_ge, cmp_le, add_int, sub_int, wipeS, Tg.go, Tg.go.goAll, ex_tup, ex_cons, ex_tl, List.length_cons, List.length_nil, Nat.zero_add, Nat.reduceAdd, Nat.reduceLT, true_and, and_true, sizeLine_eq, Nat.reduceLeDiff, Nat.zero_le, ex_or, ex_or2, items_lst, items_tup, eq_self, un_not, cmp_in, len_lst, rd_w, slc_lst, ty_app, ty_get, mtW, if_true, Bool.false_eq_true, if_false]
    refine s_is_idle (k := 97) hc.ok (by omega) ?_
    refine repr_b _ ?_
    refine s_lidle (k := 97) hc.ok (by omega) ?_
    refine repr_b _ ?_
    simp only [wSs, wS, wE, wEs, wT, wOT, wI, wO, Lit.w, biW, rs_tup, rs_lst, rs_int, rs_str, rs_bl, rs_non, rs_dct, ix_tup, ix_lst, atI_0, atI_1, atI_2, ex_some, ex_some2, ex_int, ex_bl, tru_bl,
  List.getElem?_cons_zero, List.getElem?_cons_succ, List.set_cons_zero, List.set_cons_succ, eqW_str, eqW_int, eqW_bl, cmp_eq, cmp_lt, cmp_gt, cmp_ge, cmp_le, add_int, sub_int, wipeS, Tg.go, Tg.go.goAll, ex_tup, ex_cons, ex_tl, List.length_cons, List.length_nil, Nat.zero_add, Nat.reduceAdd, Nat.reduceLT, true_and, and_true, sizeLine_eq, Nat.reduceLeDiff, Nat.zero_le, ex_or, ex_or2, items_lst, items_tup, eq_self, un_not, cmp_in, len_lst, rd_w, slc_lst, ty_app, ty_get, mtW, if_true, Bool.false_eq_true, if_false, ne_same]
    refine loopF_ind (fun xs σ S' => ∃ (more : List (List Li)) (y9 y10 : Option W), xs = more.map clW ∧ (∀ d ∈ more, Gd d) ∧ σ = [x0, x1, x2, x3, x4, x5, x6, some (.lst (cs.map clW)), some (clW c), y9, y10]) ?_ ?_ _ _ _ ?_
    · rintro σ S' ⟨more, y9, y10, e1, _, rfl⟩
      cases more with
      | cons d more => cases e1
      | nil =>
        simp only [wSs, wS, wE, wEs, wT, wOT, wI, wO, Lit.w, biW, rs_tup, rs_lst, rs_int, rs_str, rs_bl, rs_non, rs_dct, ix_tup, ix_lst, atI_0, atI_1, atI_2, ex_some, ex_some2, ex_int, ex_bl, tru_bl,
  List.getElem?_cons_zero, List.getElem?_cons_succ, List.set_cons_zero, List.set_cons_succ, eqW_str, eqW_int, eqW_bl, cmp_eq, cmp_lt, cmp_gt, cmp_ge, cmp_le, add_int, sub_int, wipeS, Tg.go, Tg.go.goAll, ex_tup, ex_cons, ex_tl, List.length_cons, List.length_nil, Nat.zero_add, Nat.reduceAdd, Nat.reduceLT, true_and, and_true, sizeLine_eq, Nat.reduceLeDiff, Nat.zero_le, ex_or, ex_or2, items_lst, items_tup, eq_self, un_not, cmp_in, len_lst, rd_w, slc_lst, ty_app, ty_get, mtW, if_true, Bool.false_eq_true, if_false]
        refine s_has_within (k := 70) hc.ok hc.ok hc.len (by omega) fun S1 kp1 => ?_
        rw [emb0]
        simp only [wSs, wS, wE, wEs, wT, wOT, wI, wO, Lit.w, biW, rs_tup, rs_lst, rs_int, rs_str, rs_bl, rs_non, rs_dct, ix_tup, ix_lst, atI_0, atI_1, atI_2, ex_some, ex_some2, ex_int, ex_bl, tru_bl,
  List.getElem?_cons_zero, List.getElem?_cons_succ, List.set_cons_zero, List.set_cons_succ, eqW_str, eqW_int, eqW_bl, cmp_eq, cmp_lt, cmp_gt, cmp_ge, cmp_le, add_int, sub_int, wipeS, Tg.go, Tg.go.goAll, ex_tup, ex_cons, ex_tl, List.length_cons, List.length_nil, Nat.zero_add, Nat.reduceAdd, Nat.reduceLT, true_and, and_true, sizeLine_eq, Nat.reduceLeDiff, Nat.zero_le, ex_or, ex_or2, items_lst, items_tup, eq_self, un_not, cmp_in, len_lst, rd_w, slc_lst, ty_app, ty_get, mtW, if_true, Bool.false_eq_true, if_false]
        refine s_has_within (k := 70) (o := []) hc.ok (fun l hl => nomatch hl) (by decide) (by omega) fun S2 kp2 => ?_
        have e0 : embF [] c (fun _ => none) = true := by unfold embF; rfl
        rw [e0]
        simp only [wSs, wS, wE, wEs, wT, wOT, wI, wO, Lit.w, biW, rs_tup, rs_lst, rs_int, rs_str, rs_bl, rs_non, rs_dct, ix_tup, ix_lst, atI_0, atI_1, atI_2, ex_some, ex_some2, ex_int, ex_bl, tru_bl,
  List.getElem?_cons_zero, List.getElem?_cons_succ, List.set_cons_zero, List.set_cons_succ, eqW_str, eqW_int, eqW_bl, cmp_eq, cmp_lt, cmp_gt, cmp_ge, cmp_le, add_int, sub_int, wipeS, Tg.go, Tg.go.goAll, ex_tup, ex_cons, ex_tl, List.length_cons, List.length_nil, Nat.zero_add, Nat.reduceAdd, Nat.reduceLT, true_and, and_true, sizeLine_eq, Nat.reduceLeDiff, Nat.zero_le, ex_or, ex_or2, items_lst, items_tup, eq_self, un_not, cmp_in, len_lst, rd_w, slc_lst, ty_app, ty_get, mtW, if_true, Bool.false_eq_true, if_false]
        exact h _ _ _
    · rintro x xs σ S' N ⟨more, y9, y10, e1, hm, rfl⟩ hN
      cases more with
      | nil => cases e1
      | cons d more =>
        obtain ⟨rfl, rfl⟩ := List.cons.inj e1
        have gd := hm d (by simp)
        have ld := gd.len
        unfold b_law_3
        simp only [wSs, wS, wE, wEs, wT, wOT, wI, wO, Lit.w, biW, rs_tup, rs_lst, rs_int, rs_str, rs_bl, rs_non, rs_dct, ix_tup, ix_lst, atI_0, atI_1, atI_2, ex_some, ex_some2, ex_int, ex_bl, tru_bl,
  List.getElem?_cons_zero, List.getElem?_cons_succ, List.set_cons_zero, List.set_cons_succ, eqW_str, eqW_int, eqW_bl, cmp_eq, cmp_lt, cmp_gt, cmp_ge, cmp_le, add_int, sub_int, wipeS, Tg.go, Tg.go.goAll, ex_tup, ex_cons, ex_tl, List.length_cons, List.length_nil, Nat.zero_add, Nat.reduceAdd, Nat.reduceLT, true_and, and_true, sizeLine_eq, Nat.reduceLeDiff, Nat.zero_le, ex_or, ex_or2, items_lst, items_tup, eq_self, un_not, cmp_in, len_lst, rd_w, slc_lst, ty_app, ty_get, mtW, if_true, Bool.false_eq_true, if_false]
        refine s_has_within (k := 70) hc.ok gd.ok gd.len (by omega) fun S1 kp1 => ?_
        refine ⟨_, rfl, ?_⟩
        have ei : isaD .bool (.bool (embF d c fun _ => none)) = true := rfl
        simp only [wSs, wS, wE, wEs, wT, wOT, wI, wO, Lit.w, biW, rs_tup, rs_lst, rs_int, rs_str, rs_bl, rs_non, rs_dct, ix_tup, ix_lst, atI_0, atI_1, atI_2, ex_some, ex_some2, ex_int, ex_bl, tru_bl,
  List.getElem?_cons_zero, List.getElem?_cons_succ, List.set_cons_zero, List.set_cons_succ, eqW_str, eqW_int, eqW_bl, cmp_eq, cmp_lt, cmp_gt, cmp_ge, cmp_le, add_int, sub_int, wipeS, Tg.go, Tg.go.goAll, ex_tup, ex_cons, ex_tl, List.length_cons, List.length_nil, Nat.zero_add, Nat.reduceAdd, Nat.reduceLT, true_and, and_true, sizeLine_eq, Nat.reduceLeDiff, Nat.zero_le, ex_or, ex_or2, items_lst, items_tup, eq_self, un_not, cmp_in, len_lst, rd_w, slc_lst, ty_app, ty_get, mtW, if_true, Bool.false_eq_true, if_false, ei, Bool.not_true]
        intro E hE
        refine ⟨Sto.set_same, [], rfl, by decide, ?_⟩
        rw [Sto.set_set]
        obtain ⟨j, hj⟩ : ∃ j, 99 = j + d.length + 23 := ⟨76 - d.length, by omega⟩
        rw [hj]
        refine s_lembeds d.length (k := j) (st := []) rfl gd.ok hc.ok (by omega) (fun e he => nomatch he) (by simp; omega) Sto.set_same fun S2 kp2 => ?_
        have ef : fOf [] = fun _ => none := rfl
        simp only [wSs, wS, wE, wEs, wT, wOT, wI, wO, Lit.w, biW, rs_tup, rs_lst, rs_int, rs_str, rs_bl, rs_non, rs_dct, ix_tup, ix_lst, atI_0, atI_1, atI_2, ex_some, ex_some2, ex_int, ex_bl, tru_bl,
  List.getElem?_cons_zero, List.getElem?_cons_succ, List.set_cons_zero, List.set_cons_succ, eqW_str, eqW_int, eqW_bl, cmp_eq, cmp_lt, cmp_gt, cmp_ge, cmp_le, add_int, sub_int, wipeS, Tg.go, Tg.go.goAll, ex_tup, ex_cons, ex_tl, List.length_cons, List.length_nil, Nat.zero_add, Nat.reduceAdd, Nat.reduceLT, true_and, and_true, sizeLine_eq, Nat.reduceLeDiff, Nat.zero_le, ex_or, ex_or2, items_lst, items_tup, eq_self, un_not, cmp_in, len_lst, rd_w, slc_lst, ty_app, ty_get, mtW, if_true, Bool.false_eq_true, if_false, ne_bb, ef, beq_self_eq_true, Bool.not_true]
        exact hN _ _ ⟨more, _, _, rfl, fun d hd => hm d (by simp [hd]), rfl⟩
    · exact ⟨cs, _, _, rfl, hcs, rfl⟩
  rw [b_law_6_eq]
  simp only [wSs, wS, wE, wEs, wT, wOT, wI, wO, Lit.w, biW, rs_tup, rs_lst, rs_int, rs_str, rs_bl, rs_non, rs_dct, ix_tup, ix_lst, atI_0, atI_1, atI_2, ex_some, ex_some2, ex_int, ex_bl, tru_bl,
  List.getElem?_cons_zero, List.getElem?_cons_succ, List.set_cons_zero, List.set_cons_succ, eqW_str, eqW_int, eqW_bl, cmp_eq, cmp_lt, cmp_gt, cmp_ge, cmp_le, add_int, sub_int, wipeS, Tg.go, Tg.go.goAll, ex_tup, ex_cons, ex_tl, List.length_cons, List.length_nil, Nat.zero_add, Nat.reduceAdd, Nat.reduceLT, true_and, and_true, sizeLine_eq, Nat.reduceLeDiff, Nat.zero_le, ex_or, ex_or2, items_lst, items_tup, eq_self, un_not, cmp_in, len_lst, rd_w, slc_lst, ty_app, ty_get, mtW, if_true, Bool.false_eq_true, if_false]
  refine s_is_unit (k := 98) ?_
  refine repr_b _ ?_
  simp only [wSs, wS, wE, wEs, wT, wOT, wI, wO, Lit.w, biW, rs_tup, rs_lst, rs_int, rs_str, rs_bl, rs_non, rs_dct, ix_tup, ix_lst, atI_0, atI_1, atI_2, ex_some, ex_some2, ex_int, ex_bl, tru_bl,
  List.getElem?_cons_zero, List.getElem?_cons_succ, List.set_cons_zero, List.set_cons_succ, eqW_str, eqW_int, eqW_bl, cmp_eq, cmp_lt, cmp_gt, cmp_ge, cmp_le, add_int, sub_int, wipeS, Tg.go, Tg.go.goAll, ex_tup, ex_cons, ex_tl, List.length_cons, List.length_nil, Nat.zero_add, Nat.reduceAdd, Nat.reduceLT, true_and, and_true, sizeLine_eq, Nat.reduceLeDiff, Nat.zero_le, ex_or, ex_or2, items_lst, items_tup, eq_self, un_not, cmp_in, len_lst, rd_w, slc_lst, ty_app, ty_get, mtW, if_true, Bool.false_eq_true, if_false, rd_cl, len_cl]
  match c, rest with
  | [], rest =>
    have e : (((([] : List Li).length : Nat) : Int) == 1) = false := rfl
    rw [e]
    simp only [wSs, wS, wE, wEs, wT, wOT, wI, wO, Lit.w, biW, rs_tup, rs_lst, rs_int, rs_str, rs_bl, rs_non, rs_dct, ix_tup, ix_lst, atI_0, atI_1, atI_2, ex_some, ex_some2, ex_int, ex_bl, tru_bl,
  List.getElem?_cons_zero, List.getElem?_cons_succ, List.set_cons_zero, List.set_cons_succ, eqW_str, eqW_int, eqW_bl, cmp_eq, cmp_lt, cmp_gt, cmp_ge, cmp_le, add_int, sub_int, wipeS, Tg.go, Tg.go.goAll, ex_tup, ex_cons, ex_tl, List.length_cons, List.length_nil, Nat.zero_add, Nat.reduceAdd, Nat.reduceLT, true_and, and_true, sizeLine_eq, Nat.reduceLeDiff, Nat.zero_le, ex_or, ex_or2, items_lst, items_tup, eq_self, un_not, cmp_in, len_lst, rd_w, slc_lst, ty_app, ty_get, mtW, if_true, Bool.false_eq_true, if_false]
    refine repr_b _ ?_
    simp only [wSs, wS, wE, wEs, wT, wOT, wI, wO, Lit.w, biW, rs_tup, rs_lst, rs_int, rs_str, rs_bl, rs_non, rs_dct, ix_tup, ix_lst, atI_0, atI_1, atI_2, ex_some, ex_some2, ex_int, ex_bl, tru_bl,
  List.getElem?_cons_zero, List.getElem?_cons_succ, List.set_cons_zero, List.set_cons_succ, eqW_str, eqW_int, eqW_bl, cmp_eq, cmp_lt, cmp_gt, cmp_ge, cmp_le, add_int, sub_int, wipeS, Tg.go, Tg.go.goAll, ex_tup, ex_cons, ex_tl, List.length_cons, List.length_nil, Nat.zero_add, Nat.reduceAdd, Nat.reduceLT, true_and, and_true, sizeLine_eq, Nat.reduceLeDiff, Nat.zero_le, ex_or, ex_or2, items_lst, items_tup, eq_self, un_not, cmp_in, len_lst, rd_w, slc_lst, ty_app, ty_get, mtW, if_true, Bool.false_eq_true, if_false, unitB, ne_same]
    exact rest _
  | [l], rest =>
    have e : (((([l] : List Li).length : Nat) : Int) == 1) = true := rfl
    rw [e]
    simp only [wSs, wS, wE, wEs, wT, wOT, wI, wO, Lit.w, biW, rs_tup, rs_lst, rs_int, rs_str, rs_bl, rs_non, rs_dct, ix_tup, ix_lst, atI_0, atI_1, atI_2, ex_some, ex_some2, ex_int, ex_bl, tru_bl,
  List.getElem?_cons_zero, List.getElem?_cons_succ, List.set_cons_zero, List.set_cons_succ, eqW_str, eqW_int, eqW_bl, cmp_eq, cmp_lt, cmp_gt, cmp_ge, cmp_le, add_int, sub_int, wipeS, Tg.go, Tg.go.goAll, ex_tup, ex_cons, ex_tl, List.length_cons, List.length_nil, Nat.zero_add, Nat.reduceAdd, Nat.reduceLT, true_and, and_true, sizeLine_eq, Nat.reduceLeDiff, Nat.zero_le, ex_or, ex_or2, items_lst, items_tup, eq_self, un_not, cmp_in, len_lst, rd_w, slc_lst, ty_app, ty_get, mtW, if_true, Bool.false_eq_true, if_false, rd_cl, at_cl, rd_li, i0_li]
    refine repr_b _ ?_
    simp only [wSs, wS, wE, wEs, wT, wOT, wI, wO, Lit.w, biW, rs_tup, rs_lst, rs_int, rs_str, rs_bl, rs_non, rs_dct, ix_tup, ix_lst, atI_0, atI_1, atI_2, ex_some, ex_some2, ex_int, ex_bl, tru_bl,
  List.getElem?_cons_zero, List.getElem?_cons_succ, List.set_cons_zero, List.set_cons_succ, eqW_str, eqW_int, eqW_bl, cmp_eq, cmp_lt, cmp_gt, cmp_ge, cmp_le, add_int, sub_int, wipeS, Tg.go, Tg.go.goAll, ex_tup, ex_cons, ex_tl, List.length_cons, List.length_nil, Nat.zero_add, Nat.reduceAdd, Nat.reduceLT, true_and, and_true, sizeLine_eq, Nat.reduceLeDiff, Nat.zero_le, ex_or, ex_or2, items_lst, items_tup, eq_self, un_not, cmp_in, len_lst, rd_w, slc_lst, ty_app, ty_get, mtW, if_true, Bool.false_eq_true, if_false, unitB, ne_same]
    exact rest _
  | l :: m :: c, rest =>
    have e : ((((l :: m :: c).length : Nat) : Int) == 1) = false := by
      have : ¬ ((l :: m :: c).length : Int) = 1 := by simp; omega
      simpa using this
    rw [e]
    simp only [wSs, wS, wE, wEs, wT, wOT, wI, wO, Lit.w, biW, rs_tup, rs_lst, rs_int, rs_str, rs_bl, rs_non, rs_dct, ix_tup, ix_lst, atI_0, atI_1, atI_2, ex_some, ex_some2, ex_int, ex_bl, tru_bl,
  List.getElem?_cons_zero, List.getElem?_cons_succ, List.set_cons_zero, List.set_cons_succ, eqW_str, eqW_int, eqW_bl, cmp_eq, cmp_lt, cmp_gt, cmp_ge, cmp_le, add_int, sub_int, wipeS, Tg.go, Tg.go.goAll, ex_tup, ex_cons, ex_tl, List.length_cons, List.length_nil, Nat.zero_add, Nat.reduceAdd, Nat.reduceLT, true_and, and_true, sizeLine_eq, Nat.reduceLeDiff, Nat.zero_le, ex_or, ex_or2, items_lst, items_tup, eq_self, un_not, cmp_in, len_lst, rd_w, slc_lst, ty_app, ty_get, mtW, if_true, Bool.false_eq_true, if_false]
    refine repr_b _ ?_
    simp only [wSs, wS, wE, wEs, wT, wOT, wI, wO, Lit.w, biW, rs_tup, rs_lst, rs_int, rs_str, rs_bl, rs_non, rs_dct, ix_tup, ix_lst, atI_0, atI_1, atI_2, ex_some, ex_some2, ex_int, ex_bl, tru_bl,
  List.getElem?_cons_zero, List.getElem?_cons_succ, List.set_cons_zero, List.set_cons_succ, eqW_str, eqW_int, eqW_bl, cmp_eq, cmp_lt, cmp_gt, cmp_ge, cmp_le, add_int, sub_int, wipeS, Tg.go, Tg.go.goAll, ex_tup, ex_cons, ex_tl, List.length_cons, List.length_nil, Nat.zero_add, Nat.reduceAdd, Nat.reduceLT, true_and, and_true, sizeLine_eq, Nat.reduceLeDiff, Nat.zero_le, ex_or, ex_or2, items_lst, items_tup, eq_self, un_not, cmp_in, len_lst, rd_w, slc_lst, ty_app, ty_get, mtW, if_true, Bool.false_eq_true, if_false, unitB, ne_same]
    exact rest _
theorem any_li (i j : Int) (h : 0 ≤ i ∧ i < 1000) (h2 : 0 ≤ j ∧ j < 1000) (x : Str) : liT 4 (x, .any i, .any j) := ⟨⟨by show 1 ≤ 4; omega, h⟩, by show 1 ≤ 4; omega, h2⟩
theorem law_ok : lawOk T G0 100 := by
  intro ns hns
  refine o_law ?_
  unfold b_law
  have hcut : (cutW (ns.map W.int) none (some 16)).length ≤ 63 := by
    have := cut_len (xs := ns.map W.int) (lo := none) (hi := some 16)
    rw [List.length_map] at this
    omega
  have hadd : binW .Add (.lst (cutW (ns.map W.int) none (some 16))) (.lst [.int 4]) = some (.lst (cutW (ns.map W.int) none (some 16) ++ [.int 4])) := add_lst (by rw [List.length_singleton]; omega)
  simp only [wSs, wS, wE, wEs, wT, wOT, wI, wO, Lit.w, biW, rs_tup, rs_lst, rs_int, rs_str, rs_bl, rs_non, rs_dct, ix_tup, ix_lst, atI_0, atI_1, atI_2, ex_some, ex_some2, ex_int, ex_bl, tru_bl,
  List.getElem?_cons_zero, List.getElem?_cons_succ, List.set_cons_zero, List.set_cons_succ, eqW_str, eqW_int, eqW_bl, cmp_eq, cmp_lt, cmp_gt, cmp_ge, cmp_le, add_int, sub_int, wipeS, Tg.go, Tg.go.goAll, ex_tup, ex_cons, ex_tl, List.length_cons, List.length_nil, Nat.zero_add, Nat.reduceAdd, Nat.reduceLT, true_and, and_true, sizeLine_eq, Nat.reduceLeDiff, Nat.zero_le, ex_or, ex_or2, items_lst, items_tup, eq_self, un_not, cmp_in, len_lst, rd_w, slc_lst, ty_app, ty_get, mtW, if_true, Bool.false_eq_true, if_false, hadd]
  refine loopF_ind (fun xs σ S' => (∀ x ∈ xs, ∃ i, x = W.int i) ∧ ∃ y1 y2 y3 y4 y5 y6 y7 y8 y9 y10, σ = [some (.lst (ns.map W.int)), y1, y2, y3, y4, y5, y6, y7, y8, y9, y10]) ?_ ?_ _ _ _ ?_
  · rintro σ S' _
    simp only [wSs, wS, wE, wEs, wT, wOT, wI, wO, Lit.w, biW, rs_tup, rs_lst, rs_int, rs_str, rs_bl, rs_non, rs_dct, ix_tup, ix_lst, atI_0, atI_1, atI_2, ex_some, ex_some2, ex_int, ex_bl, tru_bl,
  List.getElem?_cons_zero, List.getElem?_cons_succ, List.set_cons_zero, List.set_cons_succ, eqW_str, eqW_int, eqW_bl, cmp_eq, cmp_lt, cmp_gt, cmp_ge, cmp_le, add_int, sub_int, wipeS, Tg.go, Tg.go.goAll, ex_tup, ex_cons, ex_tl, List.length_cons, List.length_nil, Nat.zero_add, Nat.reduceAdd, Nat.reduceLT, true_and, and_true, sizeLine_eq, Nat.reduceLeDiff, Nat.zero_le, ex_or, ex_or2, items_lst, items_tup, eq_self, un_not, cmp_in, len_lst, rd_w, slc_lst, ty_app, ty_get, mtW, if_true, Bool.false_eq_true, if_false]
  · rintro x xs σ S N ⟨hx, y1, y2, y3, y4, y5, y6, y7, y8, y9, y10, rfl⟩ hN
    obtain ⟨cell, rfl⟩ := hx x (by simp)
    have hN' : ∀ S' y1 y2 y3 y4 y5 y6 y7 y8 y9 y10, N [some (.lst (ns.map W.int)), y1, y2, y3, y4, y5, y6, y7, y8, y9, y10] S' := fun S' y1 y2 y3 y4 y5 y6 y7 y8 y9 y10 => hN _ _ ⟨fun x hx' => hx x (by simp [hx']), y1, y2, y3, y4, y5, y6, y7, y8, y9, y10, rfl⟩
    unfold b_law_7
    simp only [wSs, wS, wE, wEs, wT, wOT, wI, wO, Lit.w, biW, rs_tup, rs_lst, rs_int, rs_str, rs_bl, rs_non, rs_dct, ix_tup, ix_lst, atI_0, atI_1, atI_2, ex_some, ex_some2, ex_int, ex_bl, tru_bl,
  List.getElem?_cons_zero, List.getElem?_cons_succ, List.set_cons_zero, List.set_cons_succ, eqW_str, eqW_int, eqW_bl, cmp_eq, cmp_lt, cmp_gt, cmp_ge, cmp_le, add_int, sub_int, wipeS, Tg.go, Tg.go.goAll, ex_tup, ex_cons, ex_tl, List.length_cons, List.length_nil, Nat.zero_add, Nat.reduceAdd, Nat.reduceLT, true_and, and_true, sizeLine_eq, Nat.reduceLeDiff, Nat.zero_le, ex_or, ex_or2, items_lst, items_tup, eq_self, un_not, cmp_in, len_lst, rd_w, slc_lst, ty_app, ty_get, mtW, if_true, Bool.false_eq_true, if_false]
    refine s_left fun a m0 ha => ?_
    refine s_table Sto.set_same fun rs m1 ok p3 => ?_
    rw [Sto.set_set]
    have rd' : rowsD rs := ⟨ok, fun r hr => (p3 r hr).1, fun r hr => (p3 r hr).2⟩
    refine s_claim rd' (k := 93) (by decide) (by decide) (by decide) (by decide) Sto.set_same fun c0 m2 hc0 h01 h03 => ?_
    rw [Sto.set_set]
    have h03' : c0.length ≤ 3 := by omega
    refine s_bent (k := 97) hc0 h01 (by omega) Sto.set_same fun c1 m3 hc1 hl1 => ?_
    rw [Sto.set_set]
    refine s_fuller rd' (k := 93) hc1 (by omega) Sto.set_same fun c2 m4 hc2 hl2 => ?_
    rw [Sto.set_set]
    refine s_claim rd' (k := 93) (by decide) (by decide) (by decide) (by decide) Sto.set_same fun c3 m5 hc3 h31 h33 => ?_
    rw [Sto.set_set]
    have h33' : c3.length ≤ 1 := by omega
    have a1 : binW .Add (clW c2) (clW c3) = some (clW (c2 ++ c3)) := add_cl (by omega)
    have t1 : slcW (clW c2) (some 1) none = some (clW (c2.drop 1)) := tk_cl c2 0
    have t2 : slcW (clW c1) none (some 1) = some (clW (c1.take 1)) := hd_cl c1 1
    have a2 : binW .Add (clW (c1.take 1)) (clW (c1.take 1)) = some (clW (c1.take 1 ++ c1.take 1)) := add_cl (by simp; omega)
    simp only [wSs, wS, wE, wEs, wT, wOT, wI, wO, Lit.w, biW, rs_tup, rs_lst, rs_int, rs_str, rs_bl, rs_non, rs_dct, ix_tup, ix_lst, atI_0, atI_1, atI_2, ex_some, ex_some2, ex_int, ex_bl, tru_bl,
  List.getElem?_cons_zero, List.getElem?_cons_succ, List.set_cons_zero, List.set_cons_succ, eqW_str, eqW_int, eqW_bl, cmp_eq, cmp_lt, cmp_gt, cmp_ge, cmp_le, add_int, sub_int, wipeS, Tg.go, Tg.go.goAll, ex_tup, ex_cons, ex_tl, List.length_cons, List.length_nil, Nat.zero_add, Nat.reduceAdd, Nat.reduceLT, true_and, and_true, sizeLine_eq, Nat.reduceLeDiff, Nat.zero_le, ex_or, ex_or2, items_lst, items_tup, eq_self, un_not, cmp_in, len_lst, rd_w, slc_lst, ty_app, ty_get, mtW, if_true, Bool.false_eq_true, if_false, rd_cl, a1, t1, t2, a2]
    refine s_claim rd' (k := 93) (by decide) (by decide) (by decide) (by decide) Sto.set_same fun c4 m6 hc4 h41 h43 => ?_
    rw [Sto.set_set]
    have h43' : c4.length ≤ 2 := by omega
    have el : W.tup [.str "like", .tup [.str "any", .int 0], .tup [.str "any", .int 1]] = liW ("like", .any 0, .any 1) := rfl
    have hlt : liT 4 ("like", .any 0, .any 1) := any_li 0 1 (by decide) (by decide) _
    generalize (("like", .any 0, .any 1) : Li) = li at el hlt
    have b1 : W.tup [liW li, liW li] = clW [li, li] := rfl
    have b2 : W.tup [liW li] = clW [li] := rfl
    have b3 : W.tup [] = clW [] := rfl
    have a3 : binW .Add (.lst [clW c1, clW c2, clW (c2 ++ c3), clW (c2.drop 1), clW (c1.take 1 ++ c1.take 1), clW []]) (.lst [clW [li, li], clW c4, clW [li]]) = some (.lst ([c1, c2, c2 ++ c3, c2.drop 1, c1.take 1 ++ c1.take 1, [], [li, li], c4, [li]].map clW)) := add_lst (by simp)
    simp only [wSs, wS, wE, wEs, wT, wOT, wI, wO, Lit.w, biW, rs_tup, rs_lst, rs_int, rs_str, rs_bl, rs_non, rs_dct, ix_tup, ix_lst, atI_0, atI_1, atI_2, ex_some, ex_some2, ex_int, ex_bl, tru_bl,
  List.getElem?_cons_zero, List.getElem?_cons_succ, List.set_cons_zero, List.set_cons_succ, eqW_str, eqW_int, eqW_bl, cmp_eq, cmp_lt, cmp_gt, cmp_ge, cmp_le, add_int, sub_int, wipeS, Tg.go, Tg.go.goAll, ex_tup, ex_cons, ex_tl, List.length_cons, List.length_nil, Nat.zero_add, Nat.reduceAdd, Nat.reduceLT, true_and, and_true, sizeLine_eq, Nat.reduceLeDiff, Nat.zero_le, ex_or, ex_or2, items_lst, items_tup, eq_self, un_not, cmp_in, len_lst, rd_w, slc_lst, ty_app, ty_get, mtW, if_true, Bool.false_eq_true, if_false, el, b1, b2, b3, a3]
    have good : ∀ d ∈ [c1, c2, c2 ++ c3, c2.drop 1, c1.take 1 ++ c1.take 1, [], [li, li], c4, [li]], Gd d := by
      have k1 : clT 4 c1 := hc1.mono (by decide)
      have k3 : clT 4 c3 := hc3.mono (by decide)
      have k4 : clT 4 c4 := hc4.mono (by decide)
      have k5 : clT 4 (c1.take 1) := k1.sub fun x hx => List.mem_of_mem_take hx
      intro d hd
      simp only [List.mem_cons, List.not_mem_nil, or_false] at hd
      rcases hd with rfl | rfl | rfl | rfl | rfl | rfl | rfl | rfl | rfl
      · exact Gd.of k1 (by omega)
      · exact Gd.of hc2 (by omega)
      · exact Gd.of (hc2.app k3) (by simp; omega)
      · exact Gd.of (hc2.sub fun x hx => List.mem_of_mem_drop hx) (by simp; omega)
      · exact Gd.of (k5.app k5) (by simp; omega)
      · exact Gd.of (fun l hl => nomatch hl) (by decide)
      · exact Gd.of (fun l hl => by simp at hl; rw [hl]; exact hlt) (by simp)
      · exact Gd.of k4 (by omega)
      · exact Gd.of (clT.one hlt) (by simp)
    generalize [c1, c2, c2 ++ c3, c2.drop 1, c1.take 1 ++ c1.take 1, [], [li, li], c4, [li]] = cs at good ⊢
    refine loopF_ind (fun xs σ S' => ∃ (more : List (List Li)) (y8 y9 y10 : Option W), xs = more.map clW ∧ (∀ d ∈ more, Gd d) ∧ σ = [some (.lst (ns.map W.int)), some (.int cell), some (.ref a), some (.lst (rowsW rs)), some (clW c1), some (clW c2), some (liW li), some (.lst (cs.map clW)), y8, y9, y10]) ?_ ?_ _ _ _ ?_
    · rintro σ S' ⟨more, y8, y9, y10, e1, _, rfl⟩
      exact hN' _ _ _ _ _ _ _ _ _ _ _
    · rintro x xs σ S' N2 ⟨more, y8, y9, y10, e1, hm, rfl⟩ hN2
      cases more with
      | nil => cases e1
      | cons d more =>
        obtain ⟨rfl, rfl⟩ := List.cons.inj e1
        simp only [wSs, wS, wE, wEs, wT, wOT, wI, wO, Lit.w, biW, rs_tup, rs_lst, rs_int, rs_str, rs_bl, rs_non, rs_dct, ix_tup, ix_lst, atI_0, atI_1, atI_2, ex_some, ex_some2, ex_int, ex_bl, tru_bl,
  List.getElem?_cons_zero, List.getElem?_cons_succ, List.set_cons_zero, List.set_cons_succ, eqW_str, eqW_int, eqW_bl, cmp_eq, cmp_lt, cmp_gt, cmp_ge, cmp_le, add_int, sub_int, wipeS, Tg.go, Tg.go.goAll, ex_tup, ex_cons, ex_tl, List.length_cons, List.length_nil, Nat.zero_add, Nat.reduceAdd, Nat.reduceLT, true_and, and_true, sizeLine_eq, Nat.reduceLeDiff, Nat.zero_le, ex_or, ex_or2, items_lst, items_tup, eq_self, un_not, cmp_in, len_lst, rd_w, slc_lst, ty_app, ty_get, mtW, if_true, Bool.false_eq_true, if_false]
        exact s_one (hm d (by simp)) good fun S2 y9 y10 => hN2 _ _ ⟨more, _, _, _, rfl, fun d hd => hm d (by simp [hd]), rfl⟩
    · exact ⟨cs, _, _, _, rfl, good, rfl⟩
  · refine ⟨fun x hx => ?_, _, _, _, _, _, _, _, _, _, _, rfl⟩
    rcases List.mem_append.mp hx with h | h
    · obtain ⟨n, _, e⟩ := List.mem_map.mp (cut_mem h)
      exact ⟨n, e.symm⟩
    · exact ⟨4, by simpa using h⟩
end K29

set_option Elab.async false
set_option linter.all false
set_option maxRecDepth 100000
set_option maxHeartbeats 0
namespace K29
open PySem PySem.Spec PyProof.Rows L2 PD
abbrev R : PySem.W.OpenRow := PySem.W.OpenLaw.row PySem.Challenge.rw_nothingnew_k29_idle_and_within
def loose : List Str := [("is_letter" : Str), ("fit_on" : Str), ("LIKE" : Str), ("UNLIKE" : Str), ("same" : Str), ("fits_of" : Str), ("embeds" : Str), ("is_idle" : Str), ("has_within" : Str), ("is_unit" : Str), ("_law_left" : Str), ("_law_digit" : Str), ("_law_table" : Str), ("_law_term" : Str), ("_law_filled" : Str), ("_law_letters" : Str), ("_law_side" : Str), ("_law_claim" : Str), ("_law_same" : Str), ("_law_tidied" : Str), ("_law_all_filled" : Str), ("_law_fit_on" : Str), ("_law_embeds" : Str), ("_law_idle" : Str), ("_law_bent" : Str), ("_law_fuller" : Str)]
theorem run (w : World) : HandSHeadRun.RunEq R (PySem.W.view R.prog [31]) (hookS 4 fa fn fl.exs fl.eqs) (obS 4 fa fn fl.exs fl.eqs) 1000 loose w := by
  intro os
  kernel_rfl
end K29
open PySem PySem.W PySem.Calls PyProof.Rows
theorem PySem.Challenge.cw_nothingnew_k29_idle_and_within_holds : PySem.Challenge.rw_nothingnew_k29_idle_and_within.Holds := by
  w_on; o_law
  refine HandSHeadRun.head_any (r := OpenLaw.row PySem.Challenge.rw_nothingnew_k29_idle_and_within) (q := view (OpenLaw.row PySem.Challenge.rw_nothingnew_k29_idle_and_within).prog [31]) (H := PD.hookS 4 K29.fa K29.fn K29.fl.exs K29.fl.eqs) (ob := PD.obS 4 K29.fa K29.fn K29.fl.exs K29.fl.eqs) (M := 1000) (loose := K29.loose)
    (d := HandSHeadRun.topDef (OpenLaw.row PySem.Challenge.rw_nothingnew_k29_idle_and_within).prog 31) (kwd := []) PD.obS_eq
    (by kernel_rfl) (fun s => by kernel_rfl) K29.run (by kernel_rfl) (by kernel_rfl) (by kernel_rfl) (by rfl) (by first | assumption | decide +kernel) (by decide +kernel) ⟨rfl, rfl, rfl, rfl, rfl, by decide +kernel⟩ ?hw ?hc
  case hw => w_witness2
  case hc =>
    refine PD.walkG (l := PySem.Challenge.rw_nothingnew_k29_idle_and_within) (k := 100) (x := "_law_script") (T := K29.T) (G := K29.G0) (FL := K29.f_law) rfl (by kernel_rfl) ⟨rfl, by decide, by decide⟩ (by kernel_rfl) rfl rfl rfl rfl ?F K29.law_ok
    intro w mg h Y G
    obtain ⟨K, KX, hp, c, c2⟩ := Y
    exact ⟨K, KX, hp, PD.table_ok (fl := K29.fl) KX G c (by decide +kernel) (by decide +kernel) (by kernel_rfl) K29.all_k c2 K29.all_x K29.all_n⟩
