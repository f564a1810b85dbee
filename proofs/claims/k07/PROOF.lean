import PyProof.Rows.All
import Wide.All
import OpenK.AllK
import Wide.FinOn
import HandS.Exc
import HandS.ExcIs
import HandS.ExcInit
import HandS.IsInst
import KE.KIsAll
import KE.KTryMore
import HandS.ExcField
import HandS.RaiseMore
import PyProof.EqAt
import PyProof.EqKinds
import PyProof.TupleCall
import Open.SpecLaws
import KE.OsGo
import HandS.ForSpec
import HandS.ForMost
import HandS.Wide
import HandS.Flow
import HandS.AnyAll
import HandS.Conv
import KE.KDictKeyed
import KE.KDictWalk
import HandS.Deep
import HandS.WideBits
import HandS.Zip
import PyProof.StrLawsIn
import HandS.SetFor
import HandS.Strs
import HandS.SetKeys
import HandS.Rev
import HandS.RevTup
import HandS.SortRule
import HandS.Iter
import HandS.More
import HandS.Defaults
import HandS.TupLe
import KE.KDictSum
import HandS.Style
import KE.GoesEnum
import HandS.TupAny
import PyProof.NeKinds
import HandS.SortInts
import PyProof.DictTruth
import HandS.Text
import HandS.WordsExc
import PySem.Challenge.RW_slicewise_k07_blocks_refused
set_option Elab.async false
set_option linter.all false
set_option maxHeartbeats 4000000
set_option maxRecDepth 100000
def PySem.W.Fast.tw10424374928213606820 : Unit := ()
def PySem.W.Fast.tw10657516962455621692 : Unit := ()
def PySem.W.Fast.tw12900600263372139086 : Unit := ()
def PySem.W.Fast.tw13201982911855760550 : Unit := ()
def PySem.W.Fast.tw13520344604450814648 : Unit := ()
def PySem.W.Fast.tw14170612045327209771 : Unit := ()
def PySem.W.Fast.tw14998472288942211111 : Unit := ()
def PySem.W.Fast.tw15018047250130970672 : Unit := ()
def PySem.W.Fast.tw16116609614102268636 : Unit := ()
def PySem.W.Fast.tw16544027322031159794 : Unit := ()
def PySem.W.Fast.tw16996673256370523215 : Unit := ()
def PySem.W.Fast.tw17422256694308165967 : Unit := ()
def PySem.W.Fast.tw17468478526594942728 : Unit := ()
def PySem.W.Fast.tw17737023677494503082 : Unit := ()
def PySem.W.Fast.tw17815461780088161659 : Unit := ()
def PySem.W.Fast.tw17885643855551476921 : Unit := ()
def PySem.W.Fast.tw179254502935244404 : Unit := ()
def PySem.W.Fast.tw3267451619620126645 : Unit := ()
def PySem.W.Fast.tw3482498113970768359 : Unit := ()
def PySem.W.Fast.tw4480375419836831947 : Unit := ()
def PySem.W.Fast.tw4836494249411821318 : Unit := ()
def PySem.W.Fast.tw5648500363830532373 : Unit := ()
def PySem.W.Fast.tw5937866469330868546 : Unit := ()
def PySem.W.Fast.tw7567119836065969676 : Unit := ()
def PySem.W.Fast.tw8157180705336012390 : Unit := ()
def PySem.W.Fast.tw8347022961762054710 : Unit := ()
def PySem.W.Fast.tw8374230747088210184 : Unit := ()
def PySem.W.Fast.tw8958807481811519550 : Unit := ()
def PySem.W.Fast.tw9035531190161962676 : Unit := ()
def PySem.W.Fast.tw9234266136894699245 : Unit := ()
def PySem.W.Fast.tw974123338279388302 : Unit := ()
namespace VLH
open PySem PySem.W PyProof.Rows in
set_option maxRecDepth 100000 in
set_option maxHeartbeats 0 in
open_top top for PySem.Challenge.rw_slicewise_k07_blocks_refused
end VLH
namespace VLX
open PySem PySem.Spec PyProof.Rows L2
/-! ### an error that was caught is kept -/
/-- at a: an error of the class cls, its dict -/
def exk (a : Addr) (cls : Value) (d : Option Addr) : HO := .ext fun h => ∃ oe vs, h.get? a = some oe ∧ Zc cls d oe ∧ oe.data = .fields vs
theorem exk_ok {P : Program} {w : World} {H : Hp} {h : Heap} {a : Addr} {cls : Value} {d : Option Addr} {oe : Obj} {vs : Array Value} (he : h.get? a = some oe) (hz : Zc cls d oe) (hd : oe.data = .fields vs) : ObjOk P w H h a (exk a cls d) :=
  ⟨⟨oe, vs, he, hz, hd⟩, ⟨oe, he⟩, fun h1 h2 z k => by
    obtain ⟨o, v, q1, q2, q3⟩ := z
    exact ⟨o, v, k _ q1, q2, q3⟩⟩
theorem exk_at {P : Program} {w : World} {H : Hp} {h : Heap} {a : Addr} {cls : Value} {d : Option Addr} (hok : HOk P w H h) (e : H a = some (exk a cls d)) : ∃ oe vs, h.get? a = some oe ∧ Zc cls d oe ∧ oe.data = .fields vs := by
  have x : ObjOk P w H h a (.ext fun h => ∃ oe vs, h.get? a = some oe ∧ Zc cls d oe ∧ oe.data = .fields vs) := hok a _ e
  exact x.1
theorem inv_exk {X : Cx} {pins : List (Addr × Obj)} {σ : L2.St} {H : Hp} {s : Shared} {a : Addr} {oe : Obj} {vs : Array Value} {cls : Value} {d : Option Addr} (I : Inv X ((a, oe) :: pins) σ H s) (hz : Zc cls d oe) (hd : oe.data = .fields vs) (h0 : X.s_0.heap.get? a = none) (hp : ∀ p ∈ X.pn ++ pins, p.1 ≠ a) :
    Inv X pins σ (upd H a (exk a cls d)) s := by
  obtain ⟨ha, na, nL, nF, nc⟩ := I.pin (a, oe) (List.mem_append_right _ List.mem_cons_self)
  have ne : ∀ {b : Addr} {o : HO}, H b = some o → b ≠ a := fun {b o} e z => by rw [z, na] at e; cases e
  have ne0 : ∀ {b : Addr} {o : Obj}, X.s_0.heap.get? b = some o → b ≠ a := fun {b o} e z => by rw [z, h0] at e; cases e
  have up : ∀ {b : Addr}, b ≠ a → upd H a (exk a cls d) b = H b := fun h => upd_ne h
  refine ⟨I.ok, I.os, I.bare, ⟨I.base.keep, I.base.slot, fun b o e n hx => ?_, I.base.there, fun b xs e => ?_, fun b o u e => ?_, fun b ps e => ?_⟩, I.loc, I.cell, ?_, fun x c e => ?_, fun p h => ?_, fun b o e => ?_, I.len⟩
  · rw [up (ne0 e)]; exact I.base.free b o e n hx
  · have := I.base.tups b xs e
    rw [up (ne this)]; exact this
  · have := I.base.frzs b o u e
    rw [up (ne this)]; exact this
  · obtain ⟨more, q⟩ := I.base.tbls b ps e
    exact ⟨more, by rw [up (ne q)]; exact q⟩
  · rw [up nL.symm]; exact I.free
  · have hc : c ≠ a := fun z => by
      obtain ⟨v, o, ho, hv⟩ := I.cell x c e
      rw [z, ha] at ho
      cases ho
      exact nc v hv
    rw [up hc]; exact I.freeC x c e
  · obtain ⟨p1, p2, p3, p4, p5⟩ := I.pin p (by
      rcases List.mem_append.mp h with h | h
      · exact List.mem_append_left _ h
      · exact List.mem_append_right _ (List.mem_cons_of_mem _ h))
    exact ⟨p1, by rw [up (hp p h)]; exact p2, p3, p4, p5⟩
  · by_cases q : b = a
    · subst q
      rw [upd_same] at e
      cases e
      exact exk_ok ha hz hd
    · rw [up q] at e
      refine (I.hok b o e).stay (fun _ _ _ z => z) (fun c z => ?_) fun c xs z => ?_
      · rw [up (ne z)]; exact z
      · rw [up (ne z)]; exact z
/-- what 'except x as n: suite' wishes of an error of the body; behind it the error stands in the heap -/
def wKeep (K : PySem.W.Frag) (c : Value) (i : Nat) (ts : Addr → Value → Option Addr → TS) (Wout : WX) (D : Ends) : WX := fun cls d σ H =>
  ∃ b, PySem.W.exmOne K cls c = some b ∧ (b = true → ∀ a, H a = none → ts a cls d { nx := fun σ' H' => H' a = none → D.nx (σ'.set i none) (upd H' a (exk a cls d)), rt := fun _ _ => False, bk := fun _ _ => False, ct := fun _ _ => False } (σ.set i (some (.ref a))) H) ∧
    (b = false → Wout cls d σ H)
section
variable {X : Cx} {x n : Str} {c : Value} {i : Nat} {body suite : List Stmt} {b₀ : Stmt} {np pos pos' : Pos} {tb : WX → TS} {ts : Addr → Value → Option Addr → TS} {Wout : WX}
theorem ps_try_keep (hs : X.stack = X.env :: X.outer) (hf : X.env.frame = some X.env.locals) (hN : X.N.Nodup) (hi : X.N[i]? = some n) (hln : X.env.kindOf n = some .local) (hc : Names X x c) (tk : Takes X Wout) (hex : X.ex = [])
    (hb : ∀ (W : WX) (pn : List (Addr × Obj)) (xe : Value → Shared → Prop), Takes (X.tr pn xe) W → PassesOwn (model X.prog X.w) X.A X.env xe → PSs (X.tr pn xe) body (tb W))
    (hsu : ∀ (a : Addr) (oe : Obj) (cls : Value) (d : Option Addr) (pn : List (Addr × Obj)), Zc cls d oe → (∃ vs, oe.data = .fields vs) → PSs (X.suite a ((a, oe) :: pn)) (b₀ :: suite) (ts a cls d)) :
    PS X (.Try body [.ExceptHandler (some (.Name x np)) (some n) (b₀ :: suite) pos'] [] [] pos) (fun D σ H => tb (wKeep X.K c i ts Wout D) D σ H) := by
  refine ⟨fun pins s σ H D I h => ?_⟩
  have ok := I.ok
  have hfr : X.A.frames = some (X.env :: X.outer) := by rw [ok.frames, hs]
  have hloc : Loc X.env.scope n := .inl hln
  refine wpAny_Try_except ?_
  refine wpAny_mono ((hb (wKeep X.K c i ts Wout D) (X.pn ++ pins) (fun e s₁ => wpAny (model X.prog X.w) X.A (noteFrame e X.env) (fun _ s₂ => wpAny (model X.prog X.w) X.A (setFlight e none) (fun _ s₃ =>
    wpAny (model X.prog X.w) X.A (handleBy e X.env [.ExceptHandler (some (.Name x np)) (some n) (b₀ :: suite) pos']) (SP X pins D) X.xe s₃) X.xe s₂) X.xe s₁) (fun u s' xx => ?_) PassesOwn.looking).run [] s σ H D (I.toTry _) h) (fun f s1 hsp => ?_) (fun e s1 he => he)
  · obtain ⟨a, B, sI, pins', σ', H', cls, d, rfl, J', nb, up, sky, na, os, ag, b, hb1, hyes, hno⟩ := xx
    have J : Inv X pins σ' H' sI := J'.ofTry ok
    have sky' : Sky B (X.env :: X.outer) a (Zc cls d) X.env.locals s'.heap := by rw [← hs]; exact sky
    show wpAny (model X.prog X.w) X.A (noteFrame (.ref a) X.env) _ _ _
    refine Sky.land Zc.steady hfr hf sky' fun h3 fl3 up3 => ?_
    have J3 : Inv X pins σ' H' { s' with heap := h3 } := J.landed nb fl3.1 (up.trans up3) os ag
    obtain ⟨oe3, vs3, he3, hz3, hd3⟩ := fl3.there
    have nfr : a ∉ frs (X.env :: X.outer) := fun hm => by
      obtain ⟨_, o', e', hnf⟩ := fl3.2.2.1.mem hm
      rw [he3] at e'; cases e'
      exact hnf _ hd3
    have nL : a ≠ X.env.locals := fun z => nfr (List.mem_filterMap.mpr ⟨X.env, List.mem_cons_self, by rw [hf, z]⟩)
    have nF : a ∉ X.fs := fun hm => by
      obtain ⟨e, he, q⟩ := List.mem_filterMap.mp hm
      exact nfr (List.mem_filterMap.mpr ⟨e, List.mem_cons_of_mem _ he, q⟩)
    -- the error is none of the objects that stood before
    have fresh : sI.heap.get? a = none := by
      cases q : sI.heap.get? a with
      | none => rfl
      | some o =>
        have := nb a o q (by rw [hs]; exact nfr)
        rw [fl3.2.1] at this; cases this
    have h0 : X.s_0.heap.get? a = none := by
      cases q : X.s_0.heap.get? a with
      | none => rfl
      | some o =>
        obtain ⟨o', e⟩ := J.base.there a o q (by rw [hex]; simp)
        rw [fresh] at e; cases e
    have hpn : ∀ p ∈ X.pn ++ pins, p.1 ≠ a := fun p hp z => by
      have := (J.pin p hp).1
      rw [z, fresh] at this; cases this
    have S3 := J3.suite he3 hd3 na nL nF
    refine wpAny_handleBy_cons (codeAny_handlers_test ?_) (by intro q; cases q)
    have LT : PySem.W.Looks (model X.prog X.w) h3 (typeOf (.ref a)) cls := fun A Q E s k q => wpAny_typeOf_ref (k _ _ he3) (by rw [hz3.1]; exact q)
    have LM := PySem.W.exm_one (M := model X.prog X.w) (J3.kIn) LT hb1
    have test : ∀ {Q : Value → Shared → Prop} {E : Value → Shared → Prop}, Q c { s' with heap := h3 } → wpAny (model X.prog X.w) (X.A.mark (some (.ref a))) (eval (.Name x np) X.env) Q E { s' with heap := h3 } := fun {Q E} q => by
      obtain ⟨hg, hdbg, hm | ⟨hm, hv, hnn⟩⟩ := hc
      · exact ld_glob (X := X.suite a ((a, oe3) :: (X.pn ++ pins))) S3 hg hm q hdbg
      · exact ld_blt (X := X.suite a ((a, oe3) :: (X.pn ++ pins))) S3 hg hm hv q hnn hdbg
    refine test (LM.here ?_)
    cases b with
    | true =>
      refine codeAny_handlers_suite_as ?_
      refine HandSPX.lands_againZ fl3 fun h4 fl4 up4 => ?_
      have J4 : Inv X pins σ' H' { s' with heap := h4 } := J.landed nb fl4.1 ((up.trans up3).trans up4) os ag
      obtain ⟨oe4, vs4, he4, hz4, hd4⟩ := fl4.there
      have S4 := J4.suite he4 hd4 na nL nF
      refine store_ok (X := X.suite a ((a, oe4) :: (X.pn ++ pins))) (v := .ref a) S4 hN hi hloc rfl (fun s5 S5 => ?_) (.inr hln)
      refine wpAny_mono ((hsu a oe4 cls d (X.pn ++ pins) hz4 ⟨_, hd4⟩).run [] s5 _ H' _ S5 (hyes rfl a na)) (fun f s6 hsp => ?_) (fun _ _ z => False.elim z)
      cases f with
      | next =>
        obtain ⟨σ6, H6, S6, q6⟩ := hsp
        -- the pin stays with the state
        have J6 : Inv X ((a, oe4) :: pins) σ6 H6 s6 := by
          have U := S6.unsuite ok
          refine ⟨ok, U.os, U.bare, U.base, U.loc, U.cell, U.free, U.freeC, fun p hp => ?_, U.hok, U.len⟩
          refine S6.pin p ?_
          rw [List.append_nil]
          rcases List.mem_append.mp hp with h | h
          · exact List.mem_cons_of_mem _ (List.mem_append_left _ h)
          · rcases List.mem_cons.mp h with h | h
            · rw [h]; exact List.mem_cons_self
            · exact List.mem_cons_of_mem _ (List.mem_append_right _ h)
        exact gone_ok J6 hN hi hln fun s7 J7 => ⟨_, _, inv_exk J7 hz4 hd4 h0 hpn, q6 (J6.pin (a, oe4) (List.mem_append_right _ List.mem_cons_self)).2.1⟩
      | brk =>
        obtain ⟨σ6, H6, S6, q6⟩ := hsp
        exact q6.elim
      | cont =>
        obtain ⟨σ6, H6, S6, q6⟩ := hsp
        exact q6.elim
      | ret u =>
        obtain ⟨v6, σ6, H6, S6, r6, q6⟩ := hsp
        exact q6.elim
    | false =>
      show wpAny _ X.A (handleBy (.ref a) X.env []) _ _ _
      refine wpAny_handleBy_nil ?_
      obtain ⟨k1, k2, k3, oe, vs, T, oT, ts', he, hz, hd, h1, hr⟩ := id fl3
      unfold PySem.passOn
      refine wpAny_bind (wpAny_field he hd h1 ?_)
      rw [if_neg (show ¬ ((Value.ref T == Value.none) = true) from by simp)]
      have fin : wpAny (model X.prog X.w) X.A (setFlight (.ref a) X.env.frame) (fun _ s4 => wpAny (model X.prog X.w) X.A (throw (.ref a) : Sem Flow) (SP X pins D) X.xe s4) X.xe { s' with heap := h3 } := by
        rw [hf]
        refine HandSPX.setFlight_upZ fl3 fun h4 hh4 up4 => wpAny_throw (tk _ _ ?_)
        exact ⟨a, B, sI, pins, σ', H', cls, d, rfl, J, nb, (up.trans up3).trans up4, .inr (.inr (by rw [hs]; exact hh4)), na, os, ag, hno rfl⟩
      first
        | exact wpAny_bind (wpAny_pure (wpAny_bind fin))
        | exact wpAny_bind fin
  · cases f with
    | next =>
      obtain ⟨σ', H', J', q⟩ := hsp
      exact wpAny_execs_nil ⟨σ', H', J'.ofTry ok, q⟩
    | brk =>
      obtain ⟨σ', H', J', q⟩ := hsp
      exact ⟨σ', H', J'.ofTry ok, q⟩
    | cont =>
      obtain ⟨σ', H', J', q⟩ := hsp
      exact ⟨σ', H', J'.ofTry ok, q⟩
    | ret u =>
      obtain ⟨v, σ', H', J', r, q⟩ := hsp
      exact ⟨v, σ', H', J'.ofTry ok, r, q⟩
end
end VLX
namespace VLX
open PySem PySem.Spec PySem.Calls PyProof.Rows PySem.W
/-! ### isinstance of an error, with a dict or without -/
section
variable {prog : Program} {w : World} {A : Around} {E : Value → Shared → Prop} {s : Shared} {K : Frag} {x D : Addr} {ox : Obj} {od : Option Obj}
theorem find_own {C : Addr} {name : Str} {a g : Value} (hc : (clsIn K C).isSome = true) (ha : findIn K (.ref C) name = some (some a)) (hg : specialIn K a "__get__" = some (some g)) (ht : takesIn K a = some true) : findObj K C od name = some (.bind g a) := by
  obtain ⟨cd, hc⟩ := Option.isSome_iff_exists.mp hc
  unfold findObj
  rw [hc, Option.bind_some, ha, Option.bind_some]
  simp [hg, ht]
theorem class_at {Q : Option Value → Shared → Prop} (hga : findIn K (.ref D) "__getattribute__" = some (some (.builtin "BaseException.__getattribute__"))) (hgt : findIn K (.ref D) "__getattr__" = some none) (hsub : subIn K (.ref D) (.type "BaseException") = some true)
    (hdct : hasDictIn K D = true) (ha : findIn K (.ref D) "__class__" = some (some (.builtin "object.__class__")))
    (hn : specialIn K (.builtin "object.__class__") "__get__" = some (some (.builtin "getset_descriptor.__get__"))) (htk : takesIn K (.builtin "object.__class__") = some true) (hm : mroIn K D (.type "object") = some true)
    (X : K.In s.heap) (I : InstAt s.heap x ox D od) (h : Q (some (.ref D)) { s with toks := s.toks + 1 }) : wpAny (model prog w) A (getAttr? (.ref x) "__class__") Q E s := by
  have hf : findObj K D od "__class__" = some (.bind (.builtin "getset_descriptor.__get__") (.builtin "object.__class__")) := find_own (by obtain ⟨cd, hc, _⟩ := any_some hdct; rw [hc]; rfl) ha hn htk
  obtain ⟨hp, g, d, t, os⟩ := s
  have L0 := I.type (M := model prog w)
  have L1 := looks_findIn (M := model prog w) X hga
  have L2 := looks_findIn (M := model prog w) X hgt
  have L3 := looks_find (M := model prog w) X I hf
  have sub : Looks (model prog w) hp (isInstance (.ref x) (.type "BaseException")) true := L0.andThen (looks_subIn X hsub)
  have hx0 : (false && onTheHeap (Value.builtin "BaseException.__getattribute__")) = false := rfl
  have hx2 : (Value.builtin "BaseException.__getattribute__" == Value.builtin "object.__getattribute__") = false := by decide +kernel
  have hx1 : (onTheHeap (Value.ref D) && Value.builtin "BaseException.__getattribute__" == Value.builtin "object.__getattribute__") = false := by rw [hx2]; rfl
  unfold getAttr? getAttrBy? getAttrBy
  refine wpAny_bind (wpAny_mkText (wpAny_bind (wpAny_attempt (wpAny_holding (wpAny_bind (L0.at (wpAny_bind (L1.at ?_))))))))
  show wpAny _ _ (if (onTheHeap (Value.ref D) && Value.builtin "BaseException.__getattribute__" == Value.builtin "object.__getattribute__") = true then _ else _) _ _ _
  rw [hx1, if_neg Bool.false_ne_true]
  unfold getAttrByItsOwn hookBefore
  refine wpAny_bind ?_
  rw [if_pos (show onTheHeap (Value.ref D) = true from rfl)]
  refine L2.at ?_
  refine wpAny_bind (wpAny_attempt (wpAny_holding ?_))
  unfold callGetattribute
  rw [hx0, if_neg Bool.false_ne_true]
  unfold boundAndCalled
  rw [PySem.F.excAttr_ValueError.ga.bind (.ref x)]
  refine wpAny_bind (wpAny_pure ?_)
  show wpAny _ _ (call (.builtin "BaseException.__getattribute__") [.ref x, .str "__class__" t]) _ _ _
  refine wpAny_call (codeAny_call_builtin PySem.F.excAttr_ValueError.ga.plain PySem.F.entry_bexc_ga ?_)
  refine @check_slot (model prog w) _ _ ⟨hp, g, d, t + 1, os⟩ "BaseException.__getattribute__" "BaseException" "__getattribute__" (.ref x) [.str "__class__" t] [] _ (by decide +kernel) (by decide +kernel) sub (PySem.F.args_bexc_ga (.ref x) (.str "__class__" t)) ?_
  unfold Builtin.«object.__getattribute__»
  refine wpAny_bind (wpAny_of_eq (a := ((Value.ref x : Value), [Value.str "__class__" t])) (by first | rfl | (simp only [slotArgs]; rfl)) ?_)
  refine wpAny_bind (wpAny_pure (wpAny_bind (L0.at (wpAny_bind (L3.at ?_)))))
  show wpAny _ _ (holding [Value.builtin "object.__class__"] (call (.builtin "getset_descriptor.__get__") [.builtin "object.__class__", .ref x, .ref D]) >>= ret) _ _ _
  refine wpAny_bind (wpAny_holding (wpAny_call (class_get (s := ⟨hp, g, d, t + 1, os⟩) (ox := ox) (od := od) X I hm ?_)))
  refine wpAny_pure ?_
  show wpAny _ _ (handedOut (.ref D)) _ _ _
  rw [handedOut_of (v := .ref D) rfl]
  first
    | exact wpAny_pure (wpAny_pure h)
    | exact wpAny_pure h
    | exact wpAny_pure (wpAny_bind (wpAny_pure (wpAny_pure h)))
theorem kitx_k (hga : findIn K (.ref D) "__getattribute__" = some (some (.builtin "BaseException.__getattribute__"))) (hgt : findIn K (.ref D) "__getattr__" = some none) (hsub : subIn K (.ref D) (.type "BaseException") = some true) (hdct : hasDictIn K D = true) (ha : findIn K (.ref D) "__class__" = some (some (.builtin "object.__class__")))
    (hn : specialIn K (.builtin "object.__class__") "__get__" = some (some (.builtin "getset_descriptor.__get__"))) (htk : takesIn K (.builtin "object.__class__") = some true) (hm : mroIn K D (.type "object") = some true) :
    KitX K (.ref x) (.ref D) (fun h => InstAt h x ox D od) where
  ty := fun _ _ _ I => I.type
  it := fun _ _ X _ => by
    obtain ⟨cdD, hcD, _⟩ := any_some hdct
    unfold clsIn at hcD
    split at hcD
    · rename_i c' d' cd' sl' ho
      intro A' Q' E' s' k q
      unfold isType loadHead
      exact wpAny_bind (wpAny_loadPart (k _ _ (X _ _ ho)) (wpAny_pure q))
    · cases hcD
  ne := fun h tp dd its n sl X htp => by
    obtain ⟨cdD, hcD, _⟩ := any_some hdct
    refine Bool.eq_false_iff.mpr fun q => ?_
    have e : D = tp := Value.ref.inj (beq_iff_eq.mp q)
    subst e
    unfold clsIn at hcD
    split at hcD
    · rename_i c' d' cd' sl' ho
      have z := (X _ _ ho).symm.trans htp
      cases z
    · cases hcD
  ca := fun X I k => class_at hga hgt hsub hdct ha hn htk hm X I k
end
end VLX
namespace VLX
open PySem PySem.Spec PyProof.Rows L2
/-- how an error of the class D lies in the heap: alone, or with its dict -/
def ExAt (H : Hp) (a D : Addr) (d : Option Addr) : Prop := H a = some (exk a (.ref D) d) ∧ ∀ dx, d = some dx → ∃ fs, H dx = some (.xd fs)
theorem inst_k {P : Program} {w : World} {H : Hp} {h : Heap} {a D : Addr} {d : Option Addr} (hok : HOk P w H h) (e : ExAt H a D d) : ∃ ox od, PySem.W.InstAt h a ox D od := by
  obtain ⟨oe, vs, h1, h2, h3⟩ := exk_at hok e.1
  obtain ⟨oc, od, oda, osl⟩ := oe
  obtain ⟨z1, z2⟩ := h2
  dsimp only at z1 z2 h3
  subst z1 z2 h3
  cases od with
  | none => exact ⟨_, none, h1, rfl, rfl, trivial⟩
  | some dx =>
    obtain ⟨fs, q⟩ := e.2 dx rfl
    have hx : ObjOk P w H h dx (.xd fs) := hok dx _ q
    obtain ⟨mA, ⟨o, es, ep, ho, hr⟩, r⟩ := hx
    exact ⟨_, some o, h1, rfl, rfl, ho⟩
/-- isinstance(e, c), e an error that is kept -/
def rIsK (K : PySem.W.Frag) : List V → Hp → VK → Prop := fun xs H Q => ∃ (a D : Addr) (d : Option Addr) (c : V) (cv : Value) (b : Bool), xs = [.ref a, c] ∧ ExAt H a D d ∧ ExcC K D ∧ (∀ u, RelV c u → u = cv) ∧ PySem.W.kitOne K (.ref D) cv = some b ∧ Q (.bl b) H
theorem call_isK {X : Cx} : CallR X (.builtin "isinstance") (rIsK X.K) := by
  intro pins s σ H xs us Q I r h
  obtain ⟨a, D, d, c, cv, b, rfl, ea, C, hcv, e, q⟩ := h
  cases r with
  | cons rx rr =>
    cases rr with
    | cons rt rr =>
      cases rr
      cases rx
      have ec := hcv _ rt
      subst ec
      obtain ⟨ox, od, J⟩ := inst_k I.hok ea
      exact PySem.W.kia_one (kitx_k C.hg C.hk C.hs C.hd C.ha C.hn C.ht C.hm) I.kIn J e (fun z => nomatch z) fun tk => ⟨.bl b, H, I.kept (t' := tk) fun _ _ z => z, rfl, q⟩
/-- e.f, e an error that is kept -/
def tKf (K : PySem.W.Frag) (f : Str) (te : TE) : TE := fun σ H Q => te σ H fun x H1 => ∃ (a C dx : Addr) (fs : List (Str × V)) (v : V), x = .ref a ∧ H1 a = some (exk a (.ref C) (some dx)) ∧ H1 dx = some (.xd fs) ∧ XfC K C ∧ PySem.W.findIn K (.ref C) f = some none ∧ fs.lookup f = some v ∧ Q v H1
theorem pe_kf {X : Cx} {e : Expr} {te : TE} {pos : Pos} {n : Str} (he : PE X e te) (hb : attributeBase e n X.env (eval e X.env) = eval e X.env := by rfl) : PE X (.Attribute e n pos) (tKf X.K n te) := by
  refine ⟨fun pins s σ H Q I h => ?_⟩
  refine attr_of hb (thn (he.run pins s σ H _ I h) fun u s1 hh => ?_)
  obtain ⟨x, H1, I1, rx, a, C, dx, fs, v, ex, ea, ed, T, hno, l, q⟩ := hh
  subst ex
  obtain rfl : u = Value.ref a := rx
  obtain ⟨oe, vs, ha, hz, hd⟩ := exk_at I1.hok ea
  have hx : ObjOk X.prog X.w H1 s1.heap dx (.xd fs) := I1.hok dx _ ed
  obtain ⟨mA, hns, hr⟩ := hx
  obtain ⟨od, ho, hl⟩ := lookIn_ns hns
  obtain ⟨u, hu, ru⟩ := RelO.some_of (v := v) (o := mA n) (by rw [← l]; exact hr n)
  have J : PySem.W.InstAt s1.heap a oe C (some od) := ⟨ha, hz.1, by unfold PySem.W.notCls; rw [hd] <;> rfl, by rw [hz.2]; exact ho⟩
  exact HandSPX.exc_get I1.kIn J T.ga T.gg T.exC (PySem.W.findObj_own T.hdC hno rfl (by rw [hl, hu])) (handed_of ru) ⟨v, H1, I1.tok _, ru, q⟩
end VLX
/-! errors of classes whose __init__ keeps a place (turned from the worked proof skel 42) -/
namespace PySem
namespace PlcX
open PySem.W PySem.Calls PyProof.Rows PySem.HandSPX
/-! ### the text of __init__ -/
def iA (p1 p2 : Pos) : Arguments := { posonlyargs := [], args := [{ arg := "self", annotation := none, pos := p1 }, { arg := "place", annotation := none, pos := p2 }], vararg := none, kwonlyargs := [], kw_defaults := [], kwarg := none, defaults := [] }
def iB (q1 q2 q3 q4 : Pos) : List Stmt := [.Assign [.Attribute (.Name "self" q1) "place" q2] (.Name "place" q3) q4]
def iS : Scope := { kind := .function, names := [(PySem.Str.ofString "self", .local), (PySem.Str.ofString "place", .local)], isGenerator := false, isCoroutine := false, more := [] }
/-- what the written part says of Low, at C, and of its __init__, at fI -/
structure PlcTxt (n : Str) (K : Frag) (mg : Str → Option Value) (C fI : Addr) : Prop where
  gC : mg n = some (.ref C)
  cls : ∃ nm q N bs bm sn sub ab col dd k0 k1 k2 k3 k5, K.lookup C = some (excClassObj nm q C N bs bm true sn sub ab col dd k0 k1 k2 k3 k5 "ValueError.__new__") ∧ refsVE bm = true
  sa : findIn K (.ref C) "__setattr__" = some (some (.builtin "object.__setattr__"))
  ga : findIn K (.ref C) "__getattribute__" = some (some (.builtin "BaseException.__getattribute__"))
  gg : findIn K (.ref C) "__getattr__" = some none
  noN : findIn K (.ref C) "place" = some none
  iC : findIn K (.ref C) "__init__" = some (some (.ref fI))
  tC : typeIn K (.ref fI) = some (.type "function")
  kC : keepIn K (.ref C) = true
  exC : subIn K (.ref C) (.type "BaseException") = some true
  tyC : typeIn K (.ref C) = some (.type "type")
  hdC : hasDictIn K C = true
  fn : ∃ (oc : Value) (od : Option Addr) (doc pm : Value) (an : Option Addr) (cdv ct : Value) (osl : Array (Option Value)) (p1 p2 q1 q2 q3 q4 : Pos) (qn : Str),
    K.lookup fI = some ⟨oc, od, .func (fnOf "__init__" qn (iA p1 p2) (iB q1 q2 q3 q4) iS .none .none doc pm an cdv ct), osl⟩ ∧ codeIn K cdv qn = true
theorem one_size (v : Value) : [v].length ≤ sizeLine := by
  rw [sizeLine_eq]
  exact (by decide : 1 ≤ 16777216)
theorem ldC {M : Model} {s : Shared} {name : Str} {scope : Scope} {L a : Addr} {cd : Value} {m : Str → Option Value} {x : Str} {pos : Pos} {v : Value} {Q : Value → Shared → Prop} {A : Around} {E : Value → Shared → Prop} (hn : s.heap.Ns L m) (hv : m x = some v) (h : Q v s)
    (hk : scope.kind = .function := by rfl) (hl : (envOfC name scope L a cd).kindOf x = some .local := by rfl) (hd : (x == ("__debug__" : Str)) = false := by decide) :
    wpAny M A (eval (.Name x pos) (envOfC name scope L a cd)) Q E s := wpAny_Name (wpAny_loadName_local hk hl hn hv h) hd
/-- what __init__ leaves of a fresh exception at x -/
structure InitEnd (h h' : Heap) (x C dx t1 : Addr) (v : Value) : Prop where
  keep : ∀ b o, b ≠ x → h.get? b = some o → h'.get? b = some o
  obj : h'.get? x = some { cls := .ref C, dict := some dx, data := .fields #[.ref t1, .none, .none, .none, .bool false, .none] }
  dbig : h.objs.size ≤ dx
  dne : dx ≠ x
  ns : h'.Ns1 dx (fun y => if y = "place" then some v else none)
/-- a made Low -/
structure OwnMade (h h' : Heap) (e C d : Addr) (v : Value) : Prop where
  keep : ∀ b o, h.get? b = some o → h'.get? b = some o
  new : h.objs.size ≤ e
  obj : ∃ oe vs, h'.get? e = some oe ∧ oe.cls = .ref C ∧ oe.dict = some d ∧ oe.data = .fields vs ∧ vs[1]? = some .none
  dbig : h.objs.size ≤ d
  dne : d ≠ e
  ns : h'.Ns1 d (fun y => if y = "place" then some v else none)
section
variable {n : Str} {prog : Program} {w : World} {A : Around} {E : Value → Shared → Prop} {R : Result → Shared → Prop} {s : Shared} {K : Frag} {mg : Str → Option Value} {C fI : Addr}
theorem plc_init (T : PlcTxt n K mg C fI) {x t0 : Addr} {v : Value} (X : K.In s.heap) (hlim : s.heap.NoLimit) (hx : s.heap.get? x = some (excO C t0)) (hnx : K.lookup x = none) (hroom : A.depth < recursionLimit)
    (hq : ∀ h' tk dx, InitEnd s.heap h' x C dx t0 v → R (.ok (.ret .none)) { s with heap := h', toks := tk }) :
    codeAny (model prog w) A (.call (.ref fI) ⟨[.ref x, v], []⟩) R s := by
  obtain ⟨oc, od, doc, pm, an, cdv, ct, osl, p1, p2, q1, q2, q3, q4, qn, ho, hcd⟩ := T.fn
  obtain ⟨nm, q, N, bs, bm, sn, sub, ab, col, dd, k0, k1, k2, k3, k5, hC, hbm⟩ := T.cls
  have hcl : clsIn K C = some { name := nm, bases := bs, mro := .ref C :: bm, ns := N, qualname := q, hasDict := true, slotNames := sn, subclasses := sub, abstract := ab, collection := col, hasDel := false } := by unfold clsIn; rw [hC] <;> rfl
  refine Att.call_fn (binds := [("self", .ref x), ("place", v)]) X hlim ho hcd hroom (BindsTo.of_eq (by first | rfl | with_unfolding_all rfl)) (by first | rfl | decide | with_unfolding_all rfl) (fun s₁ IC => ?_) rfl rfl rfl
  obtain ⟨h₁, tk₁, rfl⟩ := IC.toInCall.same
  have k : ∀ b o, s.heap.get? b = some o → h₁.get? b = some o := IC.toInCall.keep
  have hn := IC.toInCall.ns
  have hxL : s.heap.objs.size ≠ x := Nat.ne_of_gt (Heap.lt_size hx)
  have X₁ : K.In h₁ := X.keeps k
  have hx₁ := k _ _ hx
  -- self.by = by
  show wpAny _ _ (execs _ _) _ _ _
  refine wpAny_execs_cons (plainObj_wpAny_Assign_Attribute ?_)
  refine ldC (v := v) hn (by first | rfl | with_unfolding_all rfl | kernel_rfl) (ldC (v := .ref x) hn (by first | rfl | with_unfolding_all rfl | kernel_rfl) ?_)
  refine set_plain X₁ (ox := excO C t0) (od := none) ⟨hx₁, rfl, rfl, trivial⟩ T.sa ?_
  refine exc_osa X₁ hx₁ hcl (show refsVE (.ref C :: bm) = true from hbm) rfl T.noN (fun h₃ tk₃ dx k₃ dn dne hx₃ hn₃ => ?_)
  show wpAny _ _ (execs _ _) _ _ _
  have z : s.heap.objs.size < h₁.objs.size := hn.lt
  exact wpAny_execs_nil (hq h₃ tk₃ dx ⟨fun b o hb e => k₃ b o hb (k b o e), hx₃, Nat.le_of_lt (Nat.lt_of_lt_of_le z dn), dne, hn₃⟩)
theorem plc_made (T : PlcTxt n K mg C fI) {v : Value} (X : K.In s.heap) (hlim : s.heap.NoLimit) (hroom : A.depth + 1 < recursionLimit)
    (hq : ∀ h' tk e d, OwnMade s.heap h' e C d v → R (.ok (.ret (.ref e))) { s with heap := h', toks := tk }) :
    codeAny (model prog w) A (.call (.ref C) ⟨[v], []⟩) R s := by
  obtain ⟨nm, q, N, bs, bm, sn, sub, ab, col, dd, k0, k1, k2, k3, k5, hC, hbm⟩ := T.cls
  obtain ⟨hp, g, dr, tk, os⟩ := s
  have k : ∀ b o, hp.get? b = some o → ((hp.push (kdv_tup [v])).push (excO C hp.objs.size)).get? b = some o := fun b o e => Heap.get?_push_of_some _ (Heap.get?_push_of_some _ e)
  have hget : ((hp.push (kdv_tup [v])).push (excO C hp.objs.size)).get? (hp.objs.size + 1) = some (excO C hp.objs.size) := by heap_get
  have hnx : K.lookup (hp.objs.size + 1) = none := by
    cases e : K.lookup (hp.objs.size + 1) with
    | none => rfl
    | some o =>
      have z : hp.get? (hp.objs.size + 1) = some o := X _ _ e
      exact absurd (Nat.lt_of_succ_lt (Heap.lt_size z)) (Nat.lt_irrefl _)
  refine call_own F.excBase_ValueError (fun X => refsVE_contains X bm hbm) (X _ _ hC) (looks_findIn X T.iC) (fun self => bind_fn X self T.tC) (one_size v) ?_
  refine plc_init (s := ⟨(hp.push (kdv_tup [v])).push (excO C hp.objs.size), g, dr, tk, os⟩) T (X.keeps k) (hlim.keeps k) hget hnx ?_ fun h' tk' dx ⟨k', hx, dn, dne, hns⟩ => ?_
  · show A.depth + 1 < recursionLimit
    exact hroom
  · have old : ∀ b o, hp.get? b = some o → h'.get? b = some o := fun b o e => k' b o (Nat.ne_of_lt (Nat.lt_succ_of_lt (Heap.lt_size e))) (k b o e)
    have z : hp.objs.size + 1 + 1 ≤ dx := by
      first
        | (simpa only [Heap.size_push] using dn)
        | exact dn
        | (have q := dn; rw [Heap.size_push, Heap.size_push] at q; exact q)
    exact ⟨rfl, hq h' tk' (hp.objs.size + 1) dx ⟨old, Nat.le_succ _, ⟨_, _, hx, rfl, rfl, rfl, rfl⟩, Nat.le_trans (Nat.le_trans (Nat.le_succ _) (Nat.le_succ _)) z, dne, hns⟩⟩
end
end PlcX
end PySem
namespace L2
open PySem PySem.Spec PyProof.Rows
theorem relO_plc {v : V} {v' : Value} (r : RelV v v') (f : Str) : RelO (List.lookup f [(("place" : Str), v)]) (if f = "place" then some v' else none) := by
  by_cases hw : f = "place"
  · subst hw
    rw [if_pos rfl]
    have q : List.lookup ("place" : Str) [(("place" : Str), v)] = some v := by simp [List.lookup]
    rw [q]
    exact r
  · rw [if_neg hw]
    have qw : (f == ("place" : Str)) = false := by simpa using hw
    have q2 : List.lookup f [(("place" : Str), v)] = none := by simp [List.lookup, qw]
    rw [q2]
    trivial
section
variable {n : Str} {X : Cx} {C fI : Addr}
/-- Low(e) -/
def tMkPlc (C : Addr) (ta : TA) : St → Hp → XK → Prop := fun σ H Q => ta σ H fun vs H1 => ∃ v, vs = [v] ∧ ∀ d, H1 d = none → Q (.ref C) (some d) (upd H1 d (.xd [(("place" : Str), v)]))
theorem pmk_plc {a : Expr} {ta : TA} {p pos : Pos} {k : Nat} (T : PySem.PlcX.PlcTxt n X.K X.mg C fI) (hr : Room k X.A) (ha : PA X [a] ta) (hdb : (n == ("__debug__" : Str)) = false) (hg : Gl X n := by rfl)
    (he : starEach (a :: []) X.env = (false, eval a X.env) :: starEach [] X.env := by rfl) (hpl : (backTo pos (starEach [] X.env)).any (·.1) = false := by rfl) :
    PMk X (.Call (.Name n p) [a] [] pos) (tMkPlc C ta) := by
  intro pins s σ H Q I h
  refine wpAny_Call_Name_kw (ld_glob I hg T.gC ?_ hdb)
  refine PySem.W.callWith_K (h₀ := X.base) I.ok.mod.kin T.kC (thn (ha.run pos pins s σ H _ I h) fun us s1 hh => ?_) he hpl
  obtain ⟨vs, H1, I1, r1, v, ev, q1⟩ := hh
  subst ev
  refine ⟨I1.kIn, ?_⟩
  cases r1 with
  | cons rv rn =>
    rename_i v' us'
    cases rn
    show wpAny _ _ (call (.ref C) [v']) _ _ _
    have hlim := I1.nolimit
    obtain ⟨hp, g, dr, tk, os⟩ := s1
    refine wpAny_call (PySem.PlcX.plc_made T I1.kIn hlim (by have := hr.dp; omega) fun h' tk' e d M => ?_)
    show MkP X pins σ Q (.ref e) ⟨h', g, dr, tk', os⟩
    obtain ⟨oe, fv, hoe, hc, hd, hdat, h1⟩ := M.obj
    have hns := M.ns
    obtain ⟨G', g1, g2⟩ := restrict h' fun b => decide (b ≠ e)
    have gk : ∀ b, b ≠ e → G'.get? b = h'.get? b := fun b hb => g1 b (decide_eq_true hb)
    have ge : G'.get? e = none := g2 e (by simp)
    have old : ∀ b o, hp.get? b = some o → G'.get? b = some o := fun b o q => (gk b (Nat.ne_of_lt (Nat.lt_of_lt_of_le (Heap.lt_size q) M.new))).trans (M.keep b o q)
    have ob : ObjOk X.prog X.w (upd H1 d (.xd [(("place" : Str), v)])) G' d (.xd [(("place" : Str), v)]) :=
      ⟨_, hns.at (fun o q => (gk d M.dne).trans q), fun f => relO_plc rv f⟩
    have J : Inv X pins σ (upd H1 d (.xd [(("place" : Str), v)])) ⟨G', g, dr, tk', os⟩ := I1.laid (t' := tk') old M.dbig ob
    refine ⟨e, oe, fv, ⟨G', g, dr, tk', os⟩, _, .ref C, some d, rfl, J, fun b o q => ?_, ge, hoe, ⟨hc, hd⟩, hdat, h1, ?_, rfl, I1.bare, raises_own T.exC T.tyC, q1 d (I1.hok.fresh M.dbig)⟩
    · by_cases hb : b = e
      · have q' : G'.get? b = some o := q
        rw [hb, ge] at q'; cases q'
      · exact (gk b hb).symm.trans q
    · rw [upd_ne (Ne.symm M.dne)]
      exact I1.hok.fresh M.new
/-- raise Low(e) -/
def tRaisePlc (C : Addr) (W : WX) (ta : TA) : TS := fun _ σ H => tMkPlc C ta σ H fun cls d H' => W cls d σ H'
theorem ps_raisePlc {a : Expr} {ta : TA} {W : WX} {p pos pos2 : Pos} {k : Nat} (hc : X.calm = true) (T : PySem.PlcX.PlcTxt n X.K X.mg C fI) (hr : Room k X.A) (tk : Takes X W) (ha : PA X [a] ta) (hdb : (n == ("__debug__" : Str)) = false) (hg : Gl X n := by rfl)
    (he : starEach (a :: []) X.env = (false, eval a X.env) :: starEach [] X.env := by rfl) (hpl : (backTo pos (starEach [] X.env)).any (·.1) = false := by rfl) :
    PS X (.Raise (some (.Call (.Name n p) [a] [] pos)) none pos2) (tRaisePlc C W ta) := ps_raise hc tk (pmk_plc T hr ha hdb hg he hpl)
end
end L2
namespace VL
open PySem PySem.Spec PyProof.Rows L2

/-- what stands of the module, and the world -/
structure KW where
  k : PySem.W.Frag
  w : World
instance : CoeOut KW PySem.W.Frag := ⟨KW.k⟩

/-! ### data -/
inductive D where
  | non | bl (b : Bool) | int (i : Int) | str (x : Str)
  | tup (xs : List D) | lst (xs : List D) | scr (ns : List Int)
inductive W where
  | d (x : D) | loc (k : Nat) | tup (ws : List W) | ty (n : String) | raw (a : Addr)
inductive C where
  | lst (xs : List D) | lstW (ws : List W) | ins (n : Str) (fs : List (Str × W)) | dk (kvs : List (Key × D)) | dl (ob : Obj) (gs : List (Key × V)) (kvs : List (Key × D)) | dn (lk : Option (Obj × List (NestedKey × Addr × V))) (kvs : List (D × W)) | exc (n : Str) (fs : List (Str × D))
abbrev Sto := List C
abbrev Ev := List (Option W)

/-! ### pairs of lists -/
section
variable {A1 B1 : Type} {R S : A1 → B1 → Prop}
theorem pGetL : ∀ {xs : List A1} {ys : List B1}, Paired R xs ys → ∀ {i : Nat} {x : A1}, xs[i]? = some x → ∃ y, ys[i]? = some y ∧ R x y
  | _, _, .nil, i, x, e => by simp at e
  | _, _, .cons r t, 0, x, e => by simp at e; subst e; exact ⟨_, rfl, r⟩
  | _, _, .cons r t, i + 1, x, e => by
    obtain ⟨y, h1, h2⟩ := pGetL t (i := i) (x := x) (by simpa using e)
    exact ⟨y, by simpa using h1, h2⟩
theorem pGetR : ∀ {xs : List A1} {ys : List B1}, Paired R xs ys → ∀ {i : Nat} {y : B1}, ys[i]? = some y → ∃ x, xs[i]? = some x ∧ R x y
  | _, _, .nil, i, x, e => by simp at e
  | _, _, .cons r t, 0, x, e => by simp at e; subst e; exact ⟨_, rfl, r⟩
  | _, _, .cons r t, i + 1, x, e => by
    obtain ⟨y, h1, h2⟩ := pGetR t (i := i) (y := x) (by simpa using e)
    exact ⟨y, by simpa using h1, h2⟩
theorem pApp : ∀ {xs xs' : List A1} {ys ys' : List B1}, Paired R xs ys → Paired R xs' ys' → Paired R (xs ++ xs') (ys ++ ys')
  | _, _, _, _, .nil, h => h
  | _, _, _, _, .cons r t, h => .cons r (pApp t h)
theorem pOne {x : A1} {y : B1} (h : R x y) : Paired R [x] [y] := .cons h .nil
theorem pSet {x : A1} {y : B1} (h : R x y) : ∀ {xs : List A1} {ys : List B1} (i : Nat), Paired R xs ys → Paired R (xs.set i x) (ys.set i y)
  | _, _, _, .nil => .nil
  | _, _, 0, .cons _ t => .cons h t
  | _, _, i + 1, .cons q t => .cons q (pSet h i t)
theorem pTake : ∀ {xs : List A1} {ys : List B1} (n : Nat), Paired R xs ys → Paired R (xs.take n) (ys.take n)
  | _, _, 0, _ => by simp; exact .nil
  | _, _, _ + 1, .nil => .nil
  | _, _, n + 1, .cons r t => .cons r (pTake n t)
theorem pDrop : ∀ {xs : List A1} {ys : List B1} (n : Nat), Paired R xs ys → Paired R (xs.drop n) (ys.drop n)
  | _, _, 0, r => r
  | _, _, _ + 1, .nil => .nil
  | _, _, n + 1, .cons _ t => pDrop n t
theorem pDropLast {xs : List A1} {ys : List B1} (h : Paired R xs ys) : Paired R xs.dropLast ys.dropLast := by
  rw [List.dropLast_eq_take, List.dropLast_eq_take, ← Paired.length h]
  exact pTake _ h
theorem pRep {xs : List A1} {ys : List B1} (h : Paired R xs ys) : ∀ k : Nat, Paired R (List.replicate k xs).flatten (List.replicate k ys).flatten
  | 0 => .nil
  | k + 1 => by
    rw [List.replicate_succ, List.replicate_succ, List.flatten_cons, List.flatten_cons]
    exact pApp h (pRep h k)
theorem pCut {xs : List A1} {ys : List B1} (h : Paired R xs ys) (i j : Nat) : Paired R ((xs.drop i).take j) ((ys.drop i).take j) := pTake j (pDrop i h)
end

/-! ### how data lie in the heap -/
def StrOk (x : Str) : Prop := PyData.strOk x = true ∧ x.length ≤ sizeLine
mutual
inductive RepD (K : KW) (F : Hp) : D → V → Prop
  | non : RepD K F .non .non
  | bl (b : Bool) : RepD K F (.bl b) (.bl b)
  | int (i : Int) : RepD K F (.int i) (.int i)
  | str (x : Str) : StrOk x → RepD K F (.str x) (.str x)
  | tup {xs : List D} {vs : List V} {a : Addr} : SqT K F a vs → vs.length ≤ sizeLine → RepDs K F xs vs → RepD K F (.tup xs) (.ref a)
  | lst {xs : List D} {vs : List V} {a : Addr} : Rd F a (.lst vs) → vs.length ≤ sizeLine → RepDs K F xs vs → RepD K F (.lst xs) (.ref a)
  | scr {ns : List Int} {a : Addr} : SqL K F a (ns.map V.int) → ns.length ≤ sizeLine → RepD K F (.scr ns) (.ref a)
inductive RepDs (K : KW) (F : Hp) : List D → List V → Prop
  | nil : RepDs K F [] []
  | cons {x : D} {v : V} {xs : List D} {vs : List V} : RepD K F x v → RepDs K F xs vs → RepDs K F (x :: xs) (v :: vs)
end
mutual
inductive RepW (K : KW) (F : Hp) (al : List Addr) : W → V → Prop
  | d {x : D} {v : V} : RepD K F x v → RepW K F al (.d x) v
  | loc {k : Nat} {a : Addr} : al[k]? = some a → RepW K F al (.loc k) (.ref a)
  | ty (n : String) : RepW K F al (.ty n) (.ty n)
  | raw (a : Addr) : RepW K F al (.raw a) (.ref a)
  | tup {ws : List W} {vs : List V} {a : Addr} : SqT K F a vs → vs.length ≤ sizeLine → RepWs K F al ws vs → RepW K F al (.tup ws) (.ref a)
inductive RepWs (K : KW) (F : Hp) (al : List Addr) : List W → List V → Prop
  | nil : RepWs K F al [] []
  | cons {x : W} {v : V} {xs : List W} {vs : List V} : RepW K F al x v → RepWs K F al xs vs → RepWs K F al (x :: xs) (v :: vs)
end
section
variable {K : KW} {F F' H H' G B : Hp} {al al' : List Addr} {mu mu' : Sto}
theorem RepDs.p : ∀ {xs : List D} {vs : List V}, RepDs K F xs vs → Paired (RepD K F) xs vs
  | [], _, .nil => .nil
  | _ :: _, _, .cons r t => .cons r (RepDs.p t)
theorem RepDs.of : ∀ {xs : List D} {vs : List V}, Paired (RepD K F) xs vs → RepDs K F xs vs
  | [], _, .nil => .nil
  | _ :: _, _, .cons r t => .cons r (RepDs.of t)
theorem RepWs.p : ∀ {xs : List W} {vs : List V}, RepWs K F al xs vs → Paired (RepW K F al) xs vs
  | [], _, .nil => .nil
  | _ :: _, _, .cons r t => .cons r (RepWs.p t)
theorem RepWs.of : ∀ {xs : List W} {vs : List V}, Paired (RepW K F al) xs vs → RepWs K F al xs vs
  | [], _, .nil => .nil
  | _ :: _, _, .cons r t => .cons r (RepWs.of t)
theorem rdMono {o : HO} {a : Addr} (h : Same F F') (r : Rd F a o) : Rd F' a o := by
  rcases r with r | ⟨u, r⟩
  · exact .inl (h _ _ r)
  · exact .inr ⟨u, h _ _ r⟩
theorem sqtMono {a : Addr} {vs : List V} (h : Same F F') (r : SqT K F a vs) : SqT K F' a vs := by
  rcases r with r | r
  · exact .inl (rdMono h r)
  · exact .inr r
theorem sqlMono {a : Addr} {vs : List V} (h : Same F F') (r : SqL K F a vs) : SqL K F' a vs := by
  rcases r with r | r
  · exact .inl (rdMono h r)
  · exact .inr r
mutual
theorem RepD.mono (h : Same F F') : ∀ {d : D} {v : V}, RepD K F d v → RepD K F' d v
  | _, _, .non => .non
  | _, _, .bl b => .bl b
  | _, _, .int i => .int i
  | _, _, .str x q => .str x q
  | _, _, .tup s z r => .tup (sqtMono h s) z (RepDs.mono h r)
  | _, _, .lst s z r => .lst (rdMono h s) z (RepDs.mono h r)
  | _, _, .scr s z => .scr (sqlMono h s) z
theorem RepDs.mono (h : Same F F') : ∀ {d : List D} {v : List V}, RepDs K F d v → RepDs K F' d v
  | _, _, .nil => .nil
  | _, _, .cons r t => .cons (RepD.mono h r) (RepDs.mono h t)
end
/-- the frozen part grows, new locations come behind -/
def Ext (F : Hp) (al : List Addr) (F' : Hp) (al' : List Addr) : Prop := Same F F' ∧ ∃ be, al' = al ++ be
theorem Ext.refl (F : Hp) (al : List Addr) : Ext F al F al := ⟨Same.refl F, [], by simp⟩
theorem Ext.trans {F1 F2 F3 : Hp} {a1 a2 a3 : List Addr} (h : Ext F1 a1 F2 a2) (g : Ext F2 a2 F3 a3) : Ext F1 a1 F3 a3 := by
  obtain ⟨s, b, rfl⟩ := h
  obtain ⟨s', b', rfl⟩ := g
  exact ⟨s.trans s', b ++ b', by simp⟩
theorem Ext.at {k : Nat} {a : Addr} (h : Ext F al F' al') (e : al[k]? = some a) : al'[k]? = some a := by
  obtain ⟨_, b, rfl⟩ := h
  rw [List.getElem?_append_left (by
    have := (List.getElem?_eq_some_iff.mp e).1
    exact this)]
  exact e
mutual
theorem RepW.mono (h : Ext F al F' al') : ∀ {d : W} {v : V}, RepW K F al d v → RepW K F' al' d v
  | _, _, .d r => .d (r.mono h.1)
  | _, _, .loc e => .loc (h.at e)
  | _, _, .ty n => .ty n
  | _, _, .raw a => .raw a
  | _, _, .tup s z r => .tup (sqtMono h.1 s) z (RepWs.mono h r)
theorem RepWs.mono (h : Ext F al F' al') : ∀ {d : List W} {v : List V}, RepWs K F al d v → RepWs K F' al' d v
  | _, _, .nil => .nil
  | _, _, .cons r t => .cons (RepW.mono h r) (RepWs.mono h t)
end

def tupO : HO → Bool
  | .tup _ => true
  | .frz _ (.tup _) => true
  | _ => false
/-- the class of this name stands at c -/
def clsAt (K : KW) (n : Str) (c : Addr) : Prop := PySem.W.nsIn K mainGlobals n = some (some (.ref c))
/-! ### dicts with tuples as keys -/
mutual
@[simp] def nkey : D → Option NestedKey
  | .int i => some (.num i)
  | .str x => some (.text x)
  | .tup xs => (nkeys xs).map .tup
  | .non | .bl _ | .lst _ | .scr _ => none
@[simp] def nkeys : List D → Option (List NestedKey)
  | [] => some []
  | x :: xs => match nkey x, nkeys xs with
    | some k, some ks => some (k :: ks)
    | _, _ => none
end
abbrev NL := List (NestedKey × Addr × V)
def entN (w : World) (x : NestedKey × Addr × Value) : DictEntry := ⟨x.1.hash w, .ref x.2.1, x.2.2⟩
abbrev NRel (p : NestedKey × Addr × V) (q : NestedKey × Addr × Value) : Prop := p.1 = q.1 ∧ p.2.1 = q.2.1 ∧ RelV p.2.2 q.2.2
/-- a dict with tuples as keys: the keys, where they stand, the values -/
def NdO (w : World) (d : Addr) (L : NL) : HO := .ext fun h => ((d == sysModules) = false ∧ L.length ≤ sizeLine ∧ (L.map (·.1)).Nodup) ∧ ∃ xs : List (NestedKey × Addr × Value), Paired NRel L xs ∧
  ∃ o es ep, h.get? d = some o ∧ o.ExactDict ∧ o.data = .dict es ep ∧ es.toList = xs.map (entN w)
/-- the lock's object, and its entries -/
abbrev Lk := Option (Obj × NL)
def lockO (w : World) (a : Addr) (lk : Lk) (L : NL) : HO := match lk with
  | some (ob, L') => .frz ob (NdO w a L')
  | none => NdO w a L
def lockL (lk : Lk) (L : NL) : NL := match lk with
  | some (_, L') => L'
  | none => L
/-- what a container is, at its address -/
inductive CRep (K : KW) (F : Hp) (al : List Addr) (a : Addr) : C → HO → Prop
  | lst {xs : List D} {vs : List V} : vs.length ≤ sizeLine → Paired (RepD K F) xs vs → CRep K F al a (.lst xs) (.lst vs)
  | lstW {ws : List W} {vs : List V} : vs.length ≤ sizeLine → Paired (RepW K F al) ws vs → CRep K F al a (.lstW ws) (.lst vs)
  | ins {n : Str} {c dx : Addr} {fs : List (Str × W)} {gs : List (Str × V)} : clsAt K n c → Paired (fun p q => p.1 = q.1 ∧ RepW K F al p.2 q.2) fs gs → CRep K F al a (.ins n fs) (.ins c dx gs)
  | dk {kvs : List (Key × D)} {gs : List (Key × V)} : Paired (fun p q => p.1 = q.1 ∧ RepD K F p.2 q.2) kvs gs → (∀ k ∈ kvs, ∀ x, k.1 = .inr x → StrOk x) → CRep K F al a (.dk kvs) (.dK gs)
  | dl {ob : Obj} {kvs : List (Key × D)} {gs : List (Key × V)} : Paired (fun p q => p.1 = q.1 ∧ RepD K F p.2 q.2) kvs gs → (∀ k ∈ kvs, ∀ x, k.1 = .inr x → StrOk x) → CRep K F al a (.dl ob gs kvs) (.frz ob (.dK gs))
  | dn {lk : Lk} {kvs : List (D × W)} {L : NL} : Paired (fun (p : D × W) (q : NestedKey × Addr × V) => (nkey p.1 = some q.1 ∧ q.1.depth ≤ 8) ∧ RepD K F p.1 (.ref q.2.1) ∧ RepW K F al p.2 q.2.2) kvs (lockL lk L) → CRep K F al a (.dn lk kvs) (lockO K.w a lk L)
  | exc0 {n : Str} {c : Addr} : clsAt K n c → CRep K F al a (.exc n []) (VLX.exk a (.ref c) none)
  | exc1 {n : Str} {c dx : Addr} {fs : List (Str × D)} {gs : List (Str × V)} : clsAt K n c → F dx = some (.xd gs) → Paired (fun p q => p.1 = q.1 ∧ RepD K F p.2 q.2) fs gs → CRep K F al a (.exc n fs) (VLX.exk a (.ref c) (some dx))
theorem CRep.mono {a : Addr} (h : Ext F al F' al') {c : C} {o : HO} (r : CRep K F al a c o) : CRep K F' al' a c o := by
  cases r with
  | lst z r => exact .lst z (Paired.mapP r fun _ _ q => q.mono h.1)
  | lstW z r => exact .lstW z (Paired.mapP r fun _ _ q => q.mono h)
  | ins z r => exact .ins z (Paired.mapP r fun _ _ q => ⟨q.1, q.2.mono h⟩)
  | dk r q => exact .dk (Paired.mapP r fun _ _ q => ⟨q.1, q.2.mono h.1⟩) q
  | dl r q => exact .dl (Paired.mapP r fun _ _ q => ⟨q.1, q.2.mono h.1⟩) q
  | dn r => exact .dn (Paired.mapP r fun _ _ q => ⟨q.1, q.2.1.mono h.1, q.2.2.mono h⟩)
  | exc0 z => exact .exc0 z
  | exc1 z e r => exact .exc1 z (h.1 _ _ e) (Paired.mapP r fun _ _ q => ⟨q.1, q.2.mono h.1⟩)
/-- a container's object may be written -/
theorem CRep.notTup {a : Addr} {c : C} {o : HO} (r : CRep K F al a c o) : tupO o = false := by
  cases r with
  | dn r => rename_i lk _ _; cases lk <;> rfl
  | _ => rfl

/-- the state: G what was frozen at the start, B what must stay, F what is frozen, H the heap, al the addresses of the containers mu -/
structure SRS (K : KW) (G B F H : Hp) (al : List Addr) (mu : Sto) : Prop where
  fz : Same F H
  bs : Same B H
  gf : Same G F
  fr : ∀ a o, F a = some o → G a = some o ∨ B a = none ∨ tupO o = true
  nd : al.Nodup
  len : al.length = mu.length
  st : ∀ (k : Nat) (c : C), mu[k]? = some c → ∃ a o, al[k]? = some a ∧ F a = none ∧ B a = none ∧ H a = some o ∧ CRep K F al a c o
theorem SRS.at {k : Nat} {c : C} {a : Addr} (s : SRS K G B F H al mu) (e : mu[k]? = some c) (ea : al[k]? = some a) : ∃ o, F a = none ∧ B a = none ∧ H a = some o ∧ CRep K F al a c o := by
  obtain ⟨a', o, e1, e2, e3, e4, e5⟩ := s.st k c e
  rw [ea] at e1; cases e1
  exact ⟨o, e2, e3, e4, e5⟩
theorem SRS.has {k : Nat} {a : Addr} (s : SRS K G B F H al mu) (ea : al[k]? = some a) : ∃ c, mu[k]? = some c := by
  have h1 := (List.getElem?_eq_some_iff.mp ea).1
  rw [s.len] at h1
  exact ⟨mu[k], by simp [h1]⟩
theorem sameN {H : Hp} {p : Addr} {o : HO} (h : H p = none) : Same H (upd H p o) := fun b u e => by
  rw [upd_ne (ne_of_none e h)]; exact e
theorem sameU {p : Addr} {o : HO} (h : Same F H) : Same (upd F p o) (upd H p o) := fun b u e => by
  by_cases q : b = p
  · subst q; rw [upd_same] at e ⊢; exact e
  · rw [upd_ne q] at e ⊢; exact h _ _ e
theorem sameNone {a : Addr} (h : Same F H) (e : H a = none) : F a = none := by
  cases q : F a with
  | none => rfl
  | some o => rw [h _ _ q] at e; cases e
/-- a new frozen object -/
theorem SRS.froz {p : Addr} {o : HO} (s : SRS K G B F H al mu) (hp : H p = none) : SRS K G B (upd F p o) (upd H p o) al mu where
  fz := sameU s.fz
  bs := s.bs.trans (sameN hp)
  gf := s.gf.trans (sameN (sameNone s.fz hp))
  fr := fun a u e => by
    by_cases q : a = p
    · subst q; exact .inr (.inl (sameNone s.bs hp))
    · rw [upd_ne q] at e; exact s.fr a u e
  nd := s.nd
  len := s.len
  st := fun k c e => by
    obtain ⟨a, u, e1, e2, e3, e4, e5⟩ := s.st k c e
    have ne : a ≠ p := ne_of_none e4 hp
    exact ⟨a, u, e1, by rw [upd_ne ne]; exact e2, e3, by rw [upd_ne ne]; exact e4, e5.mono ⟨sameN (sameNone s.fz hp), [], by simp⟩⟩
theorem SRS.frozX {p : Addr} {o : HO} (s : SRS K G B F H al mu) (hp : H p = none) : Ext F al (upd F p o) al := ⟨sameN (sameNone s.fz hp), [], by simp⟩
/-- a new container -/
theorem SRS.own {p : Addr} {o : HO} {c : C} (s : SRS K G B F H al mu) (hp : H p = none) (r : CRep K F al p c o) : SRS K G B F (upd H p o) (al ++ [p]) (mu ++ [c]) where
  fz := s.fz.trans (sameN hp)
  bs := s.bs.trans (sameN hp)
  gf := s.gf
  fr := s.fr
  nd := by
    refine List.nodup_append.mpr ⟨s.nd, by simp, fun a ha b hb e => ?_⟩
    subst e
    have e : a = p := by simpa using hb
    subst e
    obtain ⟨k, hk⟩ := List.mem_iff_getElem?.mp ha
    obtain ⟨c, hc⟩ := s.has hk
    obtain ⟨u, _, _, q, _⟩ := s.at hc hk
    rw [hp] at q; cases q
  len := by simp [s.len]
  st := fun k c' e => by
    by_cases hk : k < mu.length
    · rw [List.getElem?_append_left hk] at e
      obtain ⟨a, u, e1, e2, e3, e4, e5⟩ := s.st k c' e
      exact ⟨a, u, by rw [List.getElem?_append_left (by rw [s.len]; exact hk)]; exact e1, e2, e3, by rw [upd_ne (ne_of_none e4 hp)]; exact e4, e5.mono ⟨Same.refl F, [p], rfl⟩⟩
    · rw [List.getElem?_append_right (by omega)] at e
      have hz : k - mu.length = 0 := by
        have := (List.getElem?_eq_some_iff.mp e).1
        simp at this; omega
      rw [hz] at e
      have e' : c = c' := by simpa using e
      subst e'
      exact ⟨p, o, by rw [List.getElem?_append_right (by rw [s.len]; omega), s.len, hz]; rfl, sameNone s.fz hp, sameNone s.bs hp, upd_same, r.mono ⟨Same.refl F, [p], rfl⟩⟩
theorem SRS.ownX {p : Addr} : Ext F al F (al ++ [p]) := ⟨Same.refl F, [p], rfl⟩
theorem SRS.atNew {p : Addr} (s : SRS K G B F H al mu) : (al ++ [p])[mu.length]? = some p := by
  rw [List.getElem?_append_right (by rw [s.len]; omega), s.len]; simp
theorem nodup_ixs {l : List Addr} (h : l.Nodup) {i j : Nat} {a : Addr} (e1 : l[i]? = some a) (e2 : l[j]? = some a) : i = j := by
  obtain ⟨h1, q1⟩ := List.getElem?_eq_some_iff.mp e1
  obtain ⟨h2, q2⟩ := List.getElem?_eq_some_iff.mp e2
  rcases Nat.lt_trichotomy i j with q | q | q
  · exact absurd (q1.trans q2.symm) ((List.pairwise_iff_getElem.mp h) i j h1 h2 q)
  · exact q
  · exact absurd (q2.trans q1.symm) ((List.pairwise_iff_getElem.mp h) j i h2 h1 q)
/-- a container written -/
theorem SRS.put {k : Nat} {a : Addr} {o : HO} {c : C} (s : SRS K G B F H al mu) (ea : al[k]? = some a) (r : CRep K F al a c o) : SRS K G B F (upd H a o) al (mu.set k c) where
  fz := fun b u e => by
    obtain ⟨c0, hc⟩ := s.has ea
    obtain ⟨_, q, _, _, _⟩ := s.at hc ea
    rw [upd_ne (ne_of_none e q)]; exact s.fz _ _ e
  bs := fun b u e => by
    obtain ⟨c0, hc⟩ := s.has ea
    obtain ⟨_, _, q, _, _⟩ := s.at hc ea
    rw [upd_ne (ne_of_none e q)]; exact s.bs _ _ e
  gf := s.gf
  fr := s.fr
  nd := s.nd
  len := by simp [s.len]
  st := fun j c' e => by
    by_cases hj : j = k
    · subst hj
      obtain ⟨c0, hc⟩ := s.has ea
      have hl := (List.getElem?_eq_some_iff.mp hc).1
      rw [List.getElem?_set_self hl] at e
      cases e
      obtain ⟨_, q1, q2, _, _⟩ := s.at hc ea
      exact ⟨a, o, ea, q1, q2, upd_same, r⟩
    · rw [List.getElem?_set_ne (Ne.symm hj)] at e
      obtain ⟨b, u, e1, e2, e3, e4, e5⟩ := s.st j c' e
      have ne : b ≠ a := fun q => hj (nodup_ixs s.nd e1 (q ▸ ea))
      exact ⟨b, u, e1, e2, e3, by rw [upd_ne ne]; exact e4, e5⟩

/-- with the names -/
structure SR (K : KW) (G B F H : Hp) (al : List Addr) (rh : Ev) (si : L2.St) (mu : Sto) : Prop where
  s : SRS K G B F H al mu
  ln : rh.length = si.length
  env : ∀ (i : Nat) (w : W), rh[i]? = some (some w) → ∃ v, si[i]? = some (some v) ∧ RepW K F al w v
theorem SR.step {rh : Ev} {si : L2.St} (r : SR K G B F H al rh si mu) (x : Ext F al F' al') (s : SRS K G B F' H' al' mu') : SR K G B F' H' al' rh si mu' :=
  ⟨s, r.ln, fun i w e => by
    obtain ⟨v, e1, e2⟩ := r.env i w e
    exact ⟨v, e1, e2.mono x⟩⟩
theorem SR.set {rh : Ev} {si : L2.St} {i : Nat} {w : W} {v : V} (r : SR K G B F H al rh si mu) (h : RepW K F al w v) : SR K G B F H al (rh.set i (some w)) (si.set i (some v)) mu :=
  ⟨r.s, by simp [r.ln], fun j u e => by
    by_cases hj : j = i
    · subst hj
      by_cases hl : j < rh.length
      · rw [List.getElem?_set_self hl] at e
        cases e
        exact ⟨v, by rw [List.getElem?_set_self (by rw [← r.ln]; exact hl)], h⟩
      · rw [List.getElem?_eq_none (by simpa using hl)] at e; cases e
    · rw [List.getElem?_set_ne (Ne.symm hj)] at e ⊢
      exact r.env j u e⟩
@[simp] def wipeE (rh : Ev) : List Nat → Ev
  | [] => rh
  | v :: vs => (wipeE rh vs).set v none
theorem SR.wipe {rh : Ev} {si : L2.St} (r : SR K G B F H al rh si mu) : ∀ vs : List Nat, SR K G B F H al (wipeE rh vs) (wipe si vs) mu
  | [] => r
  | x :: vs => by
    have q := SR.wipe r vs
    refine ⟨q.s, by unfold wipeE L2.wipe; simp [q.ln], fun j u e => ?_⟩
    unfold wipeE at e
    unfold L2.wipe
    by_cases hj : j = x
    · subst hj
      by_cases hl : j < (wipeE rh vs).length
      · rw [List.getElem?_set_self hl] at e; cases e
      · rw [List.getElem?_eq_none (by simpa using hl)] at e; cases e
    · rw [List.getElem?_set_ne (Ne.symm hj)] at e ⊢
      exact q.env j u e
end

/-! ### the judgements -/
abbrev WE := Ev → Sto → (W → Sto → Prop) → Prop
abbrev WT := Ev → Sto → (Bool → Sto → Prop) → Prop
abbrev WA := Ev → Sto → (List W → Sto → Prop) → Prop
structure EV where
  nx : Ev → Sto → Prop
  rt : W → Sto → Prop
  bk : Ev → Sto → Prop := fun _ _ => False
  ct : Ev → Sto → Prop := fun _ _ => False
  ex : Ev → Str → List (Str × D) → Sto → Prop := fun _ _ _ _ => False
abbrev WS := EV → Ev → Sto → Prop
def Den (K : KW) (t : TE) (f : WE) : Prop := ∀ (G B F H : Hp) (al : List Addr) (rh : Ev) (si : L2.St) (mu : Sto) (Qd : W → Sto → Prop) (Q : VK), SR K G B F H al rh si mu → f rh mu Qd →
  (∀ F' H' al' mu' w v, Ext F al F' al' → SR K G B F' H' al' rh si mu' → RepW K F' al' w v → Qd w mu' → Q v H') → t si H Q
def DenT (K : KW) (t : TT) (f : WT) : Prop := ∀ (G B F H : Hp) (al : List Addr) (rh : Ev) (si : L2.St) (mu : Sto) (Qd : Bool → Sto → Prop) (Q : Bool → Hp → Prop), SR K G B F H al rh si mu → f rh mu Qd →
  (∀ F' H' al' mu' b, Ext F al F' al' → SR K G B F' H' al' rh si mu' → Qd b mu' → Q b H') → t si H Q
def DenA (K : KW) (t : TA) (f : WA) : Prop := ∀ (G B F H : Hp) (al : List Addr) (rh : Ev) (si : L2.St) (mu : Sto) (Qd : List W → Sto → Prop) (Q : List V → Hp → Prop), SR K G B F H al rh si mu → f rh mu Qd →
  (∀ F' H' al' mu' ws vs, Ext F al F' al' → SR K G B F' H' al' rh si mu' → Paired (RepW K F' al') ws vs → Qd ws mu' → Q vs H') → t si H Q
/-- what stands behind a statement -/
structure Beh (K : KW) (G B F : Hp) (al : List Addr) (V1 : EV) (D1 : Ends) : Prop where
  nx : ∀ F' H' al' rh si mu, Ext F al F' al' → SR K G B F' H' al' rh si mu → V1.nx rh mu → D1.nx si H'
  rt : ∀ F' H' al' mu w v, Ext F al F' al' → SRS K G B F' H' al' mu → RepW K F' al' w v → V1.rt w mu → D1.rt v H'
  bk : ∀ F' H' al' rh si mu, Ext F al F' al' → SR K G B F' H' al' rh si mu → V1.bk rh mu → D1.bk si H'
  ct : ∀ F' H' al' rh si mu, Ext F al F' al' → SR K G B F' H' al' rh si mu → V1.ct rh mu → D1.ct si H'
theorem Beh.mono {K : KW} {G B F F' : Hp} {al al' : List Addr} {V1 : EV} {D1 : Ends} (b : Beh K G B F al V1 D1) (x : Ext F al F' al') : Beh K G B F' al' V1 D1 :=
  ⟨fun _ _ _ _ _ _ y => b.nx _ _ _ _ _ _ (x.trans y), fun _ _ _ _ _ _ y => b.rt _ _ _ _ _ _ (x.trans y), fun _ _ _ _ _ _ y => b.bk _ _ _ _ _ _ (x.trans y), fun _ _ _ _ _ _ y => b.ct _ _ _ _ _ _ (x.trans y)⟩
def DenS (K : KW) (t : TS) (f : WS) : Prop := ∀ (G B F H : Hp) (al : List Addr) (rh : Ev) (si : L2.St) (mu : Sto) (V1 : EV) (D1 : Ends), SR K G B F H al rh si mu → f V1 rh mu → Beh K G B F al V1 D1 → t D1 si H
end VL
namespace VL
open PySem PySem.Spec PyProof.Rows L2

/-! ### a family of contexts -/
structure YOk {io : Type} (Y : io → Cx) (P : Program) (w : World) (K : KW) (mg : Str → Option Value) (base : Heap) (N : List Str) (k : Nat) : Prop where
  hP : ∀ i, (Y i).prog = P
  hw : ∀ i, (Y i).w = w
  hK : ∀ i, (Y i).K = K
  hmg : ∀ i, (Y i).mg = mg
  hbase : ∀ i, (Y i).base = base
  hN : ∀ i, (Y i).N = N
  nd : N.Nodup
  calm : ∀ i, (Y i).calm = true
  room : ∀ i, Room k (Y i).A
def VE {io : Type} (Y : io → Cx) (K : KW) (e : Expr) (f : WE) : Prop := ∃ t, (∀ i, PE (Y i) e t) ∧ Den K t f
def VT {io : Type} (Y : io → Cx) (K : KW) (e : Expr) (f : WT) : Prop := ∃ t, (∀ i, PT (Y i) e t) ∧ DenT K t f
def VW {io : Type} (Y : io → Cx) (K : KW) (e : Expr) (f : WT) : Prop := ∃ t, (∀ i, PW (Y i) e t) ∧ DenT K t f
def VA {io : Type} (Y : io → Cx) (K : KW) (es : List Expr) (f : WA) : Prop := ∃ t, (∀ i, PA (Y i) es t) ∧ DenA K t f

/-! ### plain data from a value, snapshots -/
mutual
@[simp] def asD : W → Option D
  | .d x => some x
  | .tup ws => (asDs ws).map .tup
  | _ => none
@[simp] def asDs : List W → Option (List D)
  | [] => some []
  | w :: ws => match asD w, asDs ws with
    | some x, some xs => some (x :: xs)
    | _, _ => none
end
mutual
@[simp] def snap (mu : Sto) : W → Option D
  | .d x => some x
  | .tup ws => (snaps mu ws).map .tup
  | .loc k => match mu[k]? with
    | some (.lst xs) => some (.lst xs)
    | some (.lstW ws) => (asDs ws).map .lst
    | _ => none
  | _ => none
@[simp] def snaps (mu : Sto) : List W → Option (List D)
  | [] => some []
  | w :: ws => match snap mu w, snaps mu ws with
    | some x, some xs => some (x :: xs)
    | _, _ => none
end
@[simp] def mkTup (ws : List W) : W := match asDs ws with
  | some xs => .d (.tup xs)
  | none => .tup ws
section
variable {K : KW} {G B F F' H H' : Hp} {al al' : List Addr} {mu mu' : Sto}
theorem RepDs.len {xs : List D} {vs : List V} (h : RepDs K F xs vs) : xs.length = vs.length := Paired.length h.p
mutual
theorem asD_rep : ∀ {w : W} {v : V} {x : D}, RepW K F al w v → asD w = some x → RepD K F x v
  | .d x, _, _, .d r, e => by cases e; exact r
  | .tup ws, _, _, .tup s z r, e => by
    unfold asD at e
    cases q : asDs ws with
    | none => rw [q] at e; cases e
    | some xs => rw [q] at e; cases e; exact .tup s z (asDs_rep r q)
  | .loc _, _, _, _, e => by cases e
  | .ty _, _, _, _, e => by cases e
  | .raw _, _, _, _, e => by cases e
theorem asDs_rep : ∀ {ws : List W} {vs : List V} {xs : List D}, RepWs K F al ws vs → asDs ws = some xs → RepDs K F xs vs
  | [], _, _, .nil, e => by cases e; exact .nil
  | w :: ws, _, _, .cons r t, e => by
    unfold asDs at e
    cases q : asD w with
    | none => rw [q] at e; cases e
    | some x =>
      cases q2 : asDs ws with
      | none => rw [q, q2] at e; cases e
      | some xs => rw [q, q2] at e; cases e; exact .cons (asD_rep r q) (asDs_rep t q2)
end
theorem SRS.lstAt {k : Nat} {a : Addr} {xs : List D} (s : SRS K G B F H al mu) (e : mu[k]? = some (.lst xs)) (ea : al[k]? = some a) : ∃ vs, H a = some (.lst vs) ∧ vs.length ≤ sizeLine ∧ Paired (RepD K F) xs vs := by
  obtain ⟨o, _, _, h, r⟩ := s.at e ea
  cases r with
  | lst z p => exact ⟨_, h, z, p⟩
theorem SRS.lstWAt {k : Nat} {a : Addr} {xs : List W} (s : SRS K G B F H al mu) (e : mu[k]? = some (.lstW xs)) (ea : al[k]? = some a) : ∃ vs, H a = some (.lst vs) ∧ vs.length ≤ sizeLine ∧ Paired (RepW K F al) xs vs := by
  obtain ⟨o, _, _, h, r⟩ := s.at e ea
  cases r with
  | lstW z p => exact ⟨_, h, z, p⟩
mutual
/-- a snapshot is read in the whole heap -/
theorem snap_rep (s : SRS K G B F H al mu) : ∀ {w : W} {v : V} {x : D}, RepW K F al w v → snap mu w = some x → RepD K H x v
  | .d x, _, _, .d r, e => by cases e; exact r.mono s.fz
  | .tup ws, _, _, .tup q z r, e => by
    unfold snap at e
    cases q1 : snaps mu ws with
    | none => rw [q1] at e; cases e
    | some xs => rw [q1] at e; cases e; exact .tup (sqtMono s.fz q) z (snaps_rep s r q1)
  | .loc k, _, _, .loc ea, e => by
    unfold snap at e
    cases q : mu[k]? with
    | none => rw [q] at e; cases e
    | some c =>
      cases c with
      | lst xs =>
        rw [q] at e; cases e
        obtain ⟨vs, h, z, p⟩ := s.lstAt q ea
        exact .lst (Rd.of h) z (.of (Paired.mapP p fun _ _ r => r.mono s.fz))
      | lstW ws =>
        rw [q] at e
        cases q2 : asDs ws with
        | none => simp only [q2] at e; cases e
        | some xs =>
          simp only [q2] at e; cases e
          obtain ⟨vs, h, z, p⟩ := s.lstWAt q ea
          exact .lst (Rd.of h) z ((asDs_rep (.of p) q2).mono s.fz)
      | _ => rw [q] at e; cases e
  | .ty _, _, _, _, e => by cases e
  | .raw _, _, _, _, e => by cases e
theorem snaps_rep (s : SRS K G B F H al mu) : ∀ {ws : List W} {vs : List V} {xs : List D}, RepWs K F al ws vs → snaps mu ws = some xs → RepDs K H xs vs
  | [], _, _, .nil, e => by cases e; exact .nil
  | w :: ws, _, _, .cons r t, e => by
    unfold snaps at e
    cases q : snap mu w with
    | none => rw [q] at e; cases e
    | some x =>
      cases q2 : snaps mu ws with
      | none => rw [q, q2] at e; cases e
      | some xs => rw [q, q2] at e; cases e; exact .cons (snap_rep s r q) (snaps_rep s t q2)
end

/-! ### new objects -/
/-- a new list: a container of its own, or frozen -/
@[simp] def newL (o : Bool) (xs : List D) (mu : Sto) (Q : W → Sto → Prop) : Prop := if o then Q (.loc mu.length) (mu ++ [.lst xs]) else Q (.d (.lst xs)) mu
theorem newL_ok {o : Bool} {xs : List D} {vs : List V} {Qd : W → Sto → Prop} {Q : VK} {rh : Ev} {si : L2.St} (s : SR K G B F H al rh si mu) (p : Paired (RepD K F) xs vs) (z : vs.length ≤ sizeLine) (h : newL o xs mu Qd)
    (k : ∀ F' H' al' mu' w v, Ext F al F' al' → SR K G B F' H' al' rh si mu' → RepW K F' al' w v → Qd w mu' → Q v H') : ∀ p, H p = none → Q (.ref p) (upd H p (.lst vs)) := fun b hb => by
  cases o with
  | true =>
    have x := SRS.ownX (F := F) (al := al) (p := b)
    exact k _ _ _ _ _ _ x (s.step x (s.s.own hb (.lst z p))) (.loc s.s.atNew) h
  | false =>
    have x := s.s.frozX (o := .lst vs) hb
    exact k _ _ _ _ _ _ x (s.step x (s.s.froz hb)) (.d (.lst (Rd.of upd_same) z ((RepDs.of p).mono x.1))) h
theorem newT_ok {ws : List W} {vs : List V} {Qd : W → Sto → Prop} {Q : VK} {rh : Ev} {si : L2.St} (s : SR K G B F H al rh si mu) (p : Paired (RepW K F al) ws vs) (z : vs.length ≤ sizeLine) (h : Qd (mkTup ws) mu)
    (k : ∀ F' H' al' mu' w v, Ext F al F' al' → SR K G B F' H' al' rh si mu' → RepW K F' al' w v → Qd w mu' → Q v H') : ∀ p, H p = none → Q (.ref p) (upd H p (.tup vs)) := fun b hb => by
  have x := s.s.frozX (o := .tup vs) hb
  refine k _ _ _ _ _ _ x (s.step x (s.s.froz hb)) ?_ h
  unfold mkTup
  cases q : asDs ws with
  | none => exact .tup (SqT.of upd_same) z ((RepWs.of p).mono x)
  | some xs => exact .d (.tup (SqT.of upd_same) z ((asDs_rep (.of p) q).mono x.1))
/-- a new list of values, some of them containers -/
@[simp] def newLW (o : Bool) (ws : List W) (mu : Sto) (Q : W → Sto → Prop) : Prop := match asDs ws with
  | some xs => newL o xs mu Q
  | none => Q (.loc mu.length) (mu ++ [.lstW ws])
theorem newLW_ok {o : Bool} {ws : List W} {vs : List V} {Qd : W → Sto → Prop} {Q : VK} {rh : Ev} {si : L2.St} (s : SR K G B F H al rh si mu) (p : Paired (RepW K F al) ws vs) (z : vs.length ≤ sizeLine) (h : newLW o ws mu Qd)
    (k : ∀ F' H' al' mu' w v, Ext F al F' al' → SR K G B F' H' al' rh si mu' → RepW K F' al' w v → Qd w mu' → Q v H') : ∀ p, H p = none → Q (.ref p) (upd H p (.lst vs)) := by
  unfold newLW at h
  cases q : asDs ws with
  | some xs => rw [q] at h; exact newL_ok s (asDs_rep (.of p) q).p z h k
  | none =>
    rw [q] at h
    intro b hb
    have x := SRS.ownX (F := F) (al := al) (p := b)
    exact k _ _ _ _ _ _ x (s.step x (s.s.own hb (.lstW z p))) (.loc s.s.atNew) h
end

/-! ### names and constants -/
@[simp] def wVar (i : Nat) : WE := fun rh mu Q => match rh[i]? with
  | some (some w) => Q w mu
  | _ => False
@[simp] def wC (x : D) : WE := fun _ mu Q => Q (.d x) mu
section
variable {io : Type} {Y : io → Cx} {P : Program} {w : World} {K : KW} {mg : Str → Option Value} {base : Heap} {N : List Str} {k : Nat} {pos : Pos}
theorem den_var {K : KW} (i : Nat) : Den K (tVar i) (wVar i) := fun G B F H al rh si mu Qd Q s h q => by
  unfold wVar at h
  split at h
  · rename_i w e
    obtain ⟨v, e1, r⟩ := s.env i w e
    exact ⟨v, e1, q F H al mu w v (Ext.refl _ _) s r h⟩
  · exact h.elim
theorem ve_v (y : YOk Y P w K mg base N k) (i : Nat) {x : Str} (hN : N[i]? = some x := by rfl) (hv : ∀ j, Vis (Y j).env.scope x := by first | exact fun _ => Or.inl rfl | exact fun _ => Or.inr (Or.inl rfl) | exact fun _ => Or.inr (Or.inr rfl))
    (hd : (x == ("__debug__" : Str)) = false := by decide) (hcd : (x == ("__classdict__" : Str)) = false := by decide) : VE Y K (.Name x pos) (wVar i) :=
  ⟨tVar i, fun j => pe_var (by rw [y.hN j]; exact hN) (hv j) hd hcd, den_var i⟩
theorem den_c {K : KW} {x : D} {v : V} (h : ∀ F, RepD K F x v) : Den K (tC v) (wC x) := fun G B F H al rh si mu Qd Q s hq q => q F H al mu _ v (Ext.refl _ _) s (.d (h F)) hq
theorem ve_int {i : Int} {j} : VE Y K (.Constant (.int i) j pos) (wC (.int i)) := ⟨_, fun _ => pe_int, den_c fun _ => .int i⟩
theorem ve_bl {b : Bool} {j} : VE Y K (.Constant (.bool b) j pos) (wC (.bl b)) := ⟨_, fun _ => pe_bl, den_c fun _ => .bl b⟩
theorem ve_non {j} : VE Y K (.Constant .none j pos) (wC .non) := ⟨_, fun _ => pe_non, den_c fun _ => .non⟩
theorem ve_str {x : Str} {j} (h : StrOk x := by exact ⟨by decide +kernel, by decide +kernel⟩) : VE Y K (.Constant (.str x) j pos) (wC (.str x)) := ⟨_, fun _ => pe_str, den_c fun _ => .str x h⟩
/-- a module's constant -/
theorem ve_globC (y : YOk Y P w K mg base N k) {x : Str} {d : D} {v : V} {u : Value} (hm : mg x = some u) (r : RelV v u) (h : ∀ F, RepD K F d v) (hg : ∀ j, Gl (Y j) x := by exact fun _ => rfl) (hd : (x == ("__debug__" : Str)) = false := by decide) : VE Y K (.Name x pos) (wC d) :=
  ⟨tC v, fun j => pe_glob (hg j) (by rw [y.hmg j]; exact hm) r hd, den_c h⟩
theorem ve_glob (y : YOk Y P w K mg base N k) {x : Str} {d : D} (h : ∃ v u, mg x = some u ∧ L2.RelV v u ∧ ∀ F, RepD K F d v) (hg : ∀ j, Gl (Y j) x := by exact fun _ => rfl) (hd : (x == ("__debug__" : Str)) = false := by decide) : VE Y K (.Name x pos) (wC d) := by
  obtain ⟨v, u, h1, h2, h3⟩ := h
  exact ve_globC y h1 h2 h3 hg hd
/-- a built-in type as a value -/
@[simp] def wTy (n : String) : WE := fun _ mu Q => Q (.ty n) mu
theorem ve_ty (y : YOk Y P w K mg base N k) {x : Str} {n : String} (hm : mg x = none) (hv : bootBuiltins x = some (.type n) := by decide +kernel) (hg : ∀ j, Gl (Y j) x := by exact fun _ => rfl) (hn : x ≠ "__name__" := by decide) (hd : (x == ("__debug__" : Str)) = false := by decide) : VE Y K (.Name x pos) (wTy n) :=
  ⟨tC (.ty n), fun j => pe_bltn (hg j) (by rw [y.hmg j]; exact hm) hv rfl hn hd, fun G B F H al rh si mu Qd Q s hq q => q F H al mu _ _ (Ext.refl _ _) s (.ty n) hq⟩
end

/-! ### operators -/
abbrev F2 := Sto → W → W → (W → Sto → Prop) → Prop
@[simp] def wOp (f : F2) (a b : WE) : WE := fun rh mu Q => a rh mu fun x mu1 => b rh mu1 fun y mu2 => f mu2 x y Q
def OpD (K : KW) (r : R2) (f : F2) : Prop := ∀ (G B F H : Hp) (al : List Addr) (rh : Ev) (si : L2.St) (mu : Sto) (x y : W) (vx vy : V) (Qd : W → Sto → Prop) (Q : VK), SR K G B F H al rh si mu → RepW K F al x vx → RepW K F al y vy → f mu x y Qd →
  (∀ F' H' al' mu' w v, Ext F al F' al' → SR K G B F' H' al' rh si mu' → RepW K F' al' w v → Qd w mu' → Q v H') → r vx vy H Q
section
variable {io : Type} {Y : io → Cx} {P : Program} {w : World} {K : KW} {mg : Str → Option Value} {base : Heap} {N : List Str} {k : Nat} {pos : Pos} {a b : Expr} {wa wb : WE}
theorem den_op {ta tb : TE} {r : R2} {f : F2} (hd : OpD K r f) (ha : Den K ta wa) (hb : Den K tb wb) : Den K (tOp r ta tb) (wOp f wa wb) := fun G B F H al rh si mu Qd Q s h q => by
  refine ha G B F H al rh si mu _ _ s h fun F1 H1 al1 mu1 x vx e1 s1 r1 h1 => ?_
  refine hb G B F1 H1 al1 rh si mu1 _ _ s1 h1 fun F2 H2 al2 mu2 y vy e2 s2 r2 h2 => ?_
  exact hd G B F2 H2 al2 rh si mu2 x y vx vy Qd Q s2 (r1.mono e2) r2 h2 fun F3 H3 al3 mu3 z vz e3 s3 r3 h3 => q F3 H3 al3 mu3 z vz ((e1.trans e2).trans e3) s3 r3 h3
theorem ve_op {op : Operator} {r : R2} {f : F2} (ho : ∀ i, OpR (Y i) (binaryOp op) r) (hd : OpD K r f) (ha : VE Y K a wa) (hb : VE Y K b wb) : VE Y K (.BinOp a op b pos) (wOp f wa wb) := by
  obtain ⟨ta, p1, d1⟩ := ha
  obtain ⟨tb, p2, d2⟩ := hb
  exact ⟨_, fun i => pe_op (ho i) (p1 i) (p2 i), den_op hd d1 d2⟩

/-- two ints -/
@[simp] def fI (C : Int → Int → Prop) (g : Int → Int → Int) : F2 := fun mu x y Q => match x, y with
  | .d (.int i), .d (.int j) => C i j ∧ Q (.d (.int (g i j))) mu
  | _, _ => False
@[simp] def fI0 (g : Int → Int → Int) : F2 := fun mu x y Q => match x, y with
  | .d (.int i), .d (.int j) => Q (.d (.int (g i j))) mu
  | _, _ => False
@[simp] def fB0 (g : Int → Int → Bool) : F2 := fun mu x y Q => match x, y with
  | .d (.int i), .d (.int j) => Q (.d (.bl (g i j))) mu
  | _, _ => False
theorem repInt {F : Hp} {al : List Addr} {i : Int} {v : V} (r : RepW K F al (.d (.int i)) v) : v = .int i := by
  cases r with
  | d r => cases r; rfl
theorem repStr {F : Hp} {al : List Addr} {x : Str} {v : V} (r : RepW K F al (.d (.str x)) v) : v = .str x ∧ StrOk x := by
  cases r with
  | d r => cases r with
    | str _ h => exact ⟨rfl, h⟩
theorem repBl {F : Hp} {al : List Addr} {x : Bool} {v : V} (r : RepW K F al (.d (.bl x)) v) : v = .bl x := by
  cases r with
  | d r => cases r; rfl
theorem repNon {F : Hp} {al : List Addr} {v : V} (r : RepW K F al (.d .non) v) : v = .non := by
  cases r with
  | d r => cases r; rfl
theorem opd_I {C : Int → Int → Prop} {g : Int → Int → Int} : OpD K (rI C fun i j => .int (g i j)) (fI C g) := fun G B F H al rh si mu x y vx vy Qd Q s r1 r2 h q => by
  unfold fI at h
  split at h
  · rename_i i j
    cases repInt r1
    cases repInt r2
    exact ⟨i, j, rfl, rfl, h.1, q F H al mu _ _ (Ext.refl _ _) s (.d (.int _)) h.2⟩
  · exact h.elim
theorem opd_I0 {g : Int → Int → Int} : OpD K (rI0 fun i j => .int (g i j)) (fI0 g) := fun G B F H al rh si mu x y vx vy Qd Q s r1 r2 h q => by
  unfold fI0 at h
  split at h
  · rename_i i j
    cases repInt r1
    cases repInt r2
    exact ⟨i, j, rfl, rfl, q F H al mu _ _ (Ext.refl _ _) s (.d (.int _)) h⟩
  · exact h.elim
theorem opd_B0 {g : Int → Int → Bool} : OpD K (rI0 fun i j => .bl (g i j)) (fB0 g) := fun G B F H al rh si mu x y vx vy Qd Q s r1 r2 h q => by
  unfold fB0 at h
  split at h
  · rename_i i j
    cases repInt r1
    cases repInt r2
    exact ⟨i, j, rfl, rfl, q F H al mu _ _ (Ext.refl _ _) s (.d (.bl _)) h⟩
  · exact h.elim
end
/-! ints of any size -/
def CM (i j : Int) : Prop := CMul i j ∨ CMulW i j
theorem CM.ok {i j : Int} (h : CM i j) : IntMulOk i j := h.elim CMul.ok CMulW.ok
def CD (_ j : Int) : Prop := j ≠ 0 ∧ j.natAbs.log2 < 9000
@[simp] def CR0 (_ j : Int) : Prop := j ≠ 0
def gDiv (i j : Int) : Int := if 0 < j then i / j else i.fdiv j
def gMod (i j : Int) : Int := if 0 < j then i % j else i.fmod j
theorem gDiv_eq (i j : Int) : gDiv i j = i.fdiv j := by
  unfold gDiv
  split
  · rw [Int.fdiv_eq_ediv_of_nonneg i (by omega)]
  · rfl
theorem gMod_eq (i j : Int) : gMod i j = i.fmod j := by
  unfold gMod
  split
  · rw [Int.fmod_eq_emod_of_nonneg i (by omega)]
  · rfl
section
variable {X : Cx}
theorem opr_mul : OpR X (binaryOp .Mult) (rI CM fun i j => .int (i * j)) := opI fun _ _ _ _ _ _ _ hc q => mul_int q hc.ok
theorem opr_div : OpR X (binaryOp .FloorDiv) (rI CD fun i j => .int (gDiv i j)) := opI fun i j _ _ _ _ _ hc q => by
  exact floordiv_int hc.1 (by rw [← gDiv_eq]; exact q) (.inl (PyProof.noPylong_of_log2 hc.2))
theorem opr_mod : OpR X (binaryOp .Mod) (rI CR0 fun i j => .int (gMod i j)) := opI fun i j _ _ _ _ _ hc q => by
  exact mod_int' hc (by rw [← gMod_eq]; exact q)
end
end VL
namespace VL
open PySem PySem.Spec PyProof.Rows L2

/-! ### lists that are read, by their ways -/
section
variable {X : Cx} {pins : List (Addr × Obj)} {si : L2.St} {H : Hp} {s : Shared} {l : Addr} {xs : List V}
theorem Inv_lstR (I : Inv X pins si H s) (h : Rd H l (.lst xs)) : xs.length ≤ sizeLine ∧ ∃ (its : List Value) (n : Nat), Vals xs its ∧ xs.length = its.length ∧ s.heap.get? l = some { cls := .type "list", data := .seq its.toArray n } := by
  obtain ⟨z, its, n, r, e⟩ := h.ok I.hok
  exact ⟨z, its, n, r, r.length, e⟩
end
section
variable {X : Cx}
def rCat2 : R2 := fun x y H Q => ∃ l b xs zs, x = .ref l ∧ y = .ref b ∧ Rd H l (.lst xs) ∧ Rd H b (.lst zs) ∧ xs.length + zs.length ≤ sizeLine ∧ ∀ p, H p = none → Q (.ref p) (upd H p (.lst (xs ++ zs)))
theorem opr_cat : OpR X (binaryOp .Add) rCat2 := by
  intro pins s σ H x y v u Q I rx ry h
  obtain ⟨l, b, xs, zs, rfl, rfl, hH, hB, hz, q⟩ := h
  cases rx
  cases ry
  obtain ⟨z, its, n, r, hl, e⟩ := Inv_lstR I hH
  obtain ⟨z2, its2, n2, r2, hl2, e2⟩ := Inv_lstR I hB
  refine PySem.P.add_list e e2 ?_ (by rw [List.size_toArray, List.size_toArray]; omega)
  have ea : its.toArray ++ its2.toArray = (its ++ its2).toArray := by simp
  rw [ea]
  exact ⟨.ref _, _, I.lnew (t' := s.toks) (r.append r2) (by rw [List.length_append]; omega), rfl, q _ I.fresh⟩
def rRep2 : R2 := fun x y H Q => ∃ l k xs, x = .ref l ∧ y = .int k ∧ Rd H l (.lst xs) ∧ -(2 ^ 63) ≤ k ∧ k < 2 ^ 63 ∧ xs.length * k.toNat ≤ sizeLine ∧
  ∀ p, H p = none → Q (.ref p) (upd H p (.lst (List.replicate k.toNat xs).flatten))
theorem opr_rep : OpR X (binaryOp .Mult) rRep2 := by
  intro pins s σ H x y v u Q I rx ry h
  obtain ⟨l, k, xs, rfl, rfl, hH, h1, h2, hz, q⟩ := h
  cases rx
  obtain ⟨t, rfl⟩ := ry
  obtain ⟨z, its, n, r, hl, e⟩ := Inv_lstR I hH
  have hlen : its.toArray.size * k.toNat ≤ sizeLine := by rw [List.size_toArray, ← hl]; exact hz
  have hcap : ¬ its.toArray.size * k.toNat > (2 ^ 63 - 1) / 8 := by
    have : (sizeLine : Nat) ≤ (2 ^ 63 - 1) / 8 := by decide
    omega
  have hfit : ¬ (!Builtin.List.listFitsIndex k) = true := by
    rw [fitsIndex_both h1 h2]
    exact Bool.false_ne_true
  have hlong : ¬ Builtin.List.listTooLong (its.toArray.size * k.toNat) = true := by
    rw [notLongL hlen]
    exact Bool.false_ne_true
  have hnew : List.foldl (fun x1 x2 => x1 ++ x2) #[] (List.replicate (if its.toArray.isEmpty = true then 0 else k.toNat) its.toArray) = (List.replicate k.toNat its).flatten.toArray := by
    have f0 : ∀ m : Nat, List.foldl (fun x1 x2 => x1 ++ x2) #[] (List.replicate m its.toArray) = (List.replicate m its).flatten.toArray := fun m => by
      have := foldl_rep its m []
      rw [List.nil_append] at this
      exact this
    rw [f0]
    cases its with
    | nil => simp
    | cons a r' => rw [if_neg (by simp)]
  refine wpAny_binaryOp_repeat_ref (T := "list") (U := "int") (by decide) ⟨_, e, rfl⟩ (fun s' => typeIs_int s' k t) noFill_list_mul F.fills_int_mul F.slot_int_rmul repeat_list F.slot_int_index.lookup
    (call_meets F.slot_int_rmul (typeIs_int s k t) F.entry_int_rmul (F.args_int_rmul_2 _ _) (int___rmul___int_list k t l its.toArray n)
      ⟨e, rfl, ⟨_, e, rfl⟩, call_meets F.slot_list_mul ⟨_, e, rfl⟩ F.entry_list_mul (F.args_list_mul_2 _ _) (AutoListH.list___mul___list_int_3 l its.toArray n k t hfit hcap hlong) ⟨e, ?_⟩⟩)
  rw [hnew]
  exact ⟨.ref _, _, I.lnew (t' := s.toks) (r.rep k.toNat) (by rw [PyProof.Rows.lm_len_rep_flat, Nat.mul_comm]; exact hz), rfl, q _ I.fresh⟩
theorem opr_add : OpR X (binaryOp .Add) (fun x y H Q => (∃ i j, x = .int i ∧ y = .int j ∧ Q (.int (i + j)) H) ∨ (∃ i j, x = .str i ∧ y = .str j ∧ i.length + j.length ≤ sizeLine ∧ Q (.str (i ++ j)) H) ∨ rCat2 x y H Q ∨ rCatT X.K x y H Q) :=
  op_add.or (op_add_str.or (opr_cat.or op_catT))
theorem opr_mulA : OpR X (binaryOp .Mult) (fun x y H Q => rI CM (fun i j => .int (i * j)) x y H Q ∨ rRep2 x y H Q) := opr_mul.or opr_rep
end

/-- the items of a list -/
@[simp] def lsD (mu : Sto) : W → Option (List D)
  | .d (.lst xs) => some xs
  | .loc k => match mu[k]? with
    | some (.lst xs) => some xs
    | _ => none
  | _ => none
section
variable {K : KW} {G B F F' H H' : Hp} {al al' : List Addr} {mu mu' : Sto} {rh : Ev} {si : L2.St}
theorem lsD_rep {w : W} {v : V} {xs : List D} (s : SRS K G B F H al mu) (r : RepW K F al w v) (e : lsD mu w = some xs) : ∃ a vs, v = .ref a ∧ Rd H a (.lst vs) ∧ vs.length ≤ sizeLine ∧ Paired (RepD K F) xs vs := by
  unfold lsD at e
  split at e
  · cases e
    cases r with
    | d r => cases r with
      | lst q z p => exact ⟨_, _, rfl, rdMono s.fz q, z, p.p⟩
  · rename_i k
    split at e
    · rename_i q
      cases e
      cases r with
      | loc ea =>
        obtain ⟨vs, h, z, p⟩ := s.lstAt q ea
        exact ⟨_, vs, rfl, Rd.of h, z, p⟩
    · cases e
  · cases e
theorem repTup {xs : List D} {v : V} (r : RepW K F al (.d (.tup xs)) v) : ∃ a vs, v = .ref a ∧ SqT K F a vs ∧ vs.length ≤ sizeLine ∧ Paired (RepD K F) xs vs := by
  cases r with
  | d r => cases r with
    | tup q z p => exact ⟨_, _, rfl, q, z, p.p⟩
theorem strOk_app {x y : Str} (hx : StrOk x) (hy : StrOk y) (h : x.length + y.length ≤ sizeLine) : StrOk (x ++ y) := by
  have e : (x ++ y).cps = x.cps ++ y.cps := rfl
  refine ⟨?_, ?_⟩
  · have h1 := hx.1
    have h2 := hy.1
    unfold PyData.strOk at h1 h2 ⊢
    rw [e, Array.all_append, h1, h2]; rfl
  · show (x ++ y).cps.size ≤ _
    rw [e, Array.size_append]; exact h
@[simp] def fAdd (o : Bool) : F2 := fun mu x y Q => match x, y with
  | .d (.int i), .d (.int j) => Q (.d (.int (i + j))) mu
  | .d (.str a), .d (.str b) => a.length + b.length ≤ sizeLine ∧ Q (.d (.str (a ++ b))) mu
  | .d (.tup xs), .d (.tup ys) => xs ≠ [] ∧ xs.length + ys.length ≤ sizeLine ∧ Q (.d (.tup (xs ++ ys))) mu
  | x, y => match lsD mu x, lsD mu y with
    | some xs, some ys => xs.length + ys.length ≤ sizeLine ∧ newL o (xs ++ ys) mu Q
    | _, _ => False
theorem opd_add (o : Bool) : OpD K (fun x y H Q => (∃ i j, x = .int i ∧ y = .int j ∧ Q (.int (i + j)) H) ∨ (∃ i j, x = .str i ∧ y = .str j ∧ i.length + j.length ≤ sizeLine ∧ Q (.str (i ++ j)) H) ∨ rCat2 x y H Q ∨ rCatT K x y H Q) (fAdd o) :=
  fun G B F H al rh si mu x y vx vy Qd Q s r1 r2 h q => by
  unfold fAdd at h
  split at h
  · cases repInt r1
    cases repInt r2
    exact .inl ⟨_, _, rfl, rfl, q F H al mu _ _ (Ext.refl _ _) s (.d (.int _)) h⟩
  · obtain ⟨rfl, h1⟩ := repStr r1
    obtain ⟨rfl, h2⟩ := repStr r2
    exact .inr (.inl ⟨_, _, rfl, rfl, h.1, q F H al mu _ _ (Ext.refl _ _) s (.d (.str _ (strOk_app h1 h2 h.1))) h.2⟩)
  · rename_i xs ys
    obtain ⟨a, vs, rfl, q1, z1, p1⟩ := repTup r1
    obtain ⟨b, us, rfl, q2, z2, p2⟩ := repTup r2
    obtain ⟨hn, hl, hq⟩ := h
    have e1 := Paired.length p1
    have e2 := Paired.length p2
    refine .inr (.inr (.inr ⟨a, b, vs, us, rfl, rfl, sqtMono s.s.fz q1, sqtMono s.s.fz q2, fun e => hn ?_, by omega, fun e => ?_, fun _ => ?_⟩))
    · subst e; cases p1; rfl
    · subst e
      cases p2
      rw [List.append_nil] at hq
      exact q F H al mu _ _ (Ext.refl _ _) s r1 hq
    · have hx := newT_ok (ws := (xs ++ ys).map W.d) (vs := vs ++ us) (Qd := fun _ mu => Qd (.d (.tup (xs ++ ys))) mu) (Q := Q) s
      intro p hp
      have x := s.s.frozX (o := .tup (vs ++ us)) hp
      exact q _ _ _ _ _ _ x (s.step x (s.s.froz hp)) (.d (.tup (SqT.of upd_same) (by rw [List.length_append]; omega) ((RepDs.of (pApp p1 p2)).mono x.1))) hq
  · split at h
    · rename_i e1 e2
      obtain ⟨a, vs, rfl, q1, z1, p1⟩ := lsD_rep s.s r1 e1
      obtain ⟨b, us, rfl, q2, z2, p2⟩ := lsD_rep s.s r2 e2
      have l1 := Paired.length p1
      have l2 := Paired.length p2
      exact .inr (.inr (.inl ⟨a, b, vs, us, rfl, rfl, q1, q2, by have := h.1; omega, newL_ok s (pApp p1 p2) (by rw [List.length_append]; have := h.1; omega) h.2 q⟩))
    · exact h.elim
@[simp] def fMul (o : Bool) : F2 := fun mu x y Q => match x, y with
  | .d (.int i), .d (.int j) => CM i j ∧ Q (.d (.int (i * j))) mu
  | x, .d (.int k) => match lsD mu x with
    | some xs => -(2 ^ 63) ≤ k ∧ k < 2 ^ 63 ∧ xs.length * k.toNat ≤ sizeLine ∧ newL o (List.replicate k.toNat xs).flatten mu Q
    | _ => False
  | _, _ => False
theorem opd_mul (o : Bool) : OpD K (fun x y H Q => rI CM (fun i j => .int (i * j)) x y H Q ∨ rRep2 x y H Q) (fMul o) := fun G B F H al rh si mu x y vx vy Qd Q s r1 r2 h q => by
  unfold fMul at h
  split at h
  · cases repInt r1
    cases repInt r2
    exact .inl ⟨_, _, rfl, rfl, h.1, q F H al mu _ _ (Ext.refl _ _) s (.d (.int _)) h.2⟩
  · cases repInt r2
    split at h
    · rename_i e1
      obtain ⟨a, vs, rfl, q1, z1, p1⟩ := lsD_rep s.s r1 e1
      have l1 := Paired.length p1
      obtain ⟨h1, h2, h3, h4⟩ := h
      exact .inr ⟨a, _, vs, rfl, rfl, q1, h1, h2, by rw [← l1]; exact h3, newL_ok s (pRep p1 _) (by rw [PyProof.Rows.lm_len_rep_flat, Nat.mul_comm, ← l1]; exact h3) h4 q⟩
    · exact h.elim
  · exact h.elim
end

/-! ### the operators, ready -/
section
variable {io : Type} {Y : io → Cx} {P : Program} {w : World} {K : KW} {mg : Str → Option Value} {base : Heap} {N : List Str} {k : Nat} {pos : Pos} {a b : Expr} {wa wb : WE}
theorem ve_add (y : YOk Y P w K mg base N k) (o : Bool) (ha : VE Y K a wa) (hb : VE Y K b wb) : VE Y K (.BinOp a .Add b pos) (wOp (fAdd o) wa wb) := ve_op (fun i => by rw [← y.hK i]; exact opr_add) (opd_add o) ha hb
theorem ve_sub (ha : VE Y K a wa) (hb : VE Y K b wb) : VE Y K (.BinOp a .Sub b pos) (wOp (fI0 fun i j => i - j) wa wb) := ve_op (fun i => op_sub) opd_I0 ha hb
theorem ve_mul (o : Bool) (ha : VE Y K a wa) (hb : VE Y K b wb) : VE Y K (.BinOp a .Mult b pos) (wOp (fMul o) wa wb) := ve_op (fun i => opr_mulA) (opd_mul o) ha hb
theorem ve_fdiv (ha : VE Y K a wa) (hb : VE Y K b wb) : VE Y K (.BinOp a .FloorDiv b pos) (wOp (fI CD gDiv) wa wb) := ve_op (fun i => opr_div) opd_I ha hb
theorem ve_mod (ha : VE Y K a wa) (hb : VE Y K b wb) : VE Y K (.BinOp a .Mod b pos) (wOp (fI CR0 gMod) wa wb) := ve_op (fun i => opr_mod) opd_I ha hb
theorem ve_pow (ha : VE Y K a wa) (hb : VE Y K b wb) : VE Y K (.BinOp a .Pow b pos) (wOp (fI CPow fun i j => i ^ j.toNat) wa wb) := ve_op (fun i => op_pow) opd_I ha hb
@[simp] def wUn (g : Int → Int) (a : WE) : WE := fun rh mu Q => a rh mu fun x mu1 => match x with
  | .d (.int i) => Q (.d (.int (g i))) mu1
  | _ => False
theorem ve_un {op : UnaryOp} {g : Int → Int} (ho : ∀ i, UnR (Y i) (unaryOp op) (rU fun i => .int (g i))) (ha : VE Y K a wa) : VE Y K (.UnaryOp op a pos) (wUn g wa) := by
  obtain ⟨ta, p1, d1⟩ := ha
  refine ⟨_, fun i => pe_un (ho i) (p1 i), fun G B F H al rh si mu Qd Q s h q => ?_⟩
  refine d1 G B F H al rh si mu _ _ s h fun F1 H1 al1 mu1 x vx e1 s1 r1 h1 => ?_
  split at h1
  · cases repInt r1
    exact ⟨_, rfl, q F1 H1 al1 mu1 _ _ e1 s1 (.d (.int _)) h1⟩
  · exact h1.elim
theorem ve_neg (ha : VE Y K a wa) : VE Y K (.UnaryOp .USub a pos) (wUn (fun i => -i) wa) := ve_un (fun _ => un_neg) ha
end

/-! ### equality of data -/
mutual
def deqv : D → D → Bool
  | .non, .non => true
  | .bl a, .bl b => a == b
  | .bl a, .int j => (if a then 1 else 0) == j
  | .int i, .bl b => i == (if b then 1 else 0)
  | .int i, .int j => i == j
  | .str x, .str y => x == y
  | .lst xs, .lst ys => deqvs xs ys
  | .tup xs, .tup ys => deqvs xs ys
  | .non, .bl _ | .non, .int _ | .non, .str _ | .non, .lst _ | .non, .tup _ => false
  | .bl _, .non | .bl _, .str _ | .bl _, .lst _ | .bl _, .tup _ => false
  | .int _, .non | .int _, .str _ | .int _, .lst _ | .int _, .tup _ => false
  | .str _, .non | .str _, .bl _ | .str _, .int _ | .str _, .lst _ | .str _, .tup _ => false
  | .lst _, .non | .lst _, .bl _ | .lst _, .int _ | .lst _, .str _ | .lst _, .tup _ => false
  | .tup _, .non | .tup _, .bl _ | .tup _, .int _ | .tup _, .str _ | .tup _, .lst _ => false
  | .scr _, _ => false
  | .non, .scr _ | .bl _, .scr _ | .int _, .scr _ | .str _, .scr _ | .lst _, .scr _ | .tup _, .scr _ => false
def deqvs : List D → List D → Bool
  | [], [] => true
  | x :: xs, y :: ys => deqv x y && deqvs xs ys
  | [], _ :: _ => false
  | _ :: _, [] => false
end
mutual
def toP : D → PyData
  | .non => .none
  | .bl b => .bool b
  | .int i => .int i
  | .str x => .str x
  | .lst xs => .list (toPs xs)
  | .tup xs => .tuple (toPs xs)
  | .scr _ => .dict []
def toPs : List D → List PyData
  | [] => []
  | x :: xs => toP x :: toPs xs
end
mutual
@[simp] def ddep : D → Nat
  | .lst xs | .tup xs => ddeps xs + 1
  | .non | .bl _ | .int _ | .str _ => 0
  | .scr _ => 1000
@[simp] def ddeps : List D → Nat
  | [] => 0
  | x :: xs => max (ddep x) (ddeps xs)
end
@[simp] theorem deqv_non_non : deqv .non .non = true := by simp only [deqv]
@[simp] theorem deqv_non_bl {b2 : Bool} : deqv .non (.bl b2) = false := by simp only [deqv]
@[simp] theorem deqv_non_int {i2 : Int} : deqv .non (.int i2) = false := by simp only [deqv]
@[simp] theorem deqv_non_str {x2 : Str} : deqv .non (.str x2) = false := by simp only [deqv]
@[simp] theorem deqv_non_lst {xs2 : List D} : deqv .non (.lst xs2) = false := by simp only [deqv]
@[simp] theorem deqv_non_tup {xs2 : List D} : deqv .non (.tup xs2) = false := by simp only [deqv]
@[simp] theorem deqv_bl_non {b1 : Bool} : deqv (.bl b1) .non = false := by simp only [deqv]
@[simp] theorem deqv_bl_bl {b1 : Bool} {b2 : Bool} : deqv (.bl b1) (.bl b2) = (b1 == b2) := by simp only [deqv]
@[simp] theorem deqv_bl_int {b1 : Bool} {i2 : Int} : deqv (.bl b1) (.int i2) = ((if b1 then 1 else 0) == i2) := by simp only [deqv]
@[simp] theorem deqv_bl_str {b1 : Bool} {x2 : Str} : deqv (.bl b1) (.str x2) = false := by simp only [deqv]
@[simp] theorem deqv_bl_lst {b1 : Bool} {xs2 : List D} : deqv (.bl b1) (.lst xs2) = false := by simp only [deqv]
@[simp] theorem deqv_bl_tup {b1 : Bool} {xs2 : List D} : deqv (.bl b1) (.tup xs2) = false := by simp only [deqv]
@[simp] theorem deqv_int_non {i1 : Int} : deqv (.int i1) .non = false := by simp only [deqv]
@[simp] theorem deqv_int_bl {i1 : Int} {b2 : Bool} : deqv (.int i1) (.bl b2) = (i1 == (if b2 then 1 else 0)) := by simp only [deqv]
@[simp] theorem deqv_int_int {i1 : Int} {i2 : Int} : deqv (.int i1) (.int i2) = (i1 == i2) := by simp only [deqv]
@[simp] theorem deqv_int_str {i1 : Int} {x2 : Str} : deqv (.int i1) (.str x2) = false := by simp only [deqv]
@[simp] theorem deqv_int_lst {i1 : Int} {xs2 : List D} : deqv (.int i1) (.lst xs2) = false := by simp only [deqv]
@[simp] theorem deqv_int_tup {i1 : Int} {xs2 : List D} : deqv (.int i1) (.tup xs2) = false := by simp only [deqv]
@[simp] theorem deqv_str_non {x1 : Str} : deqv (.str x1) .non = false := by simp only [deqv]
@[simp] theorem deqv_str_bl {x1 : Str} {b2 : Bool} : deqv (.str x1) (.bl b2) = false := by simp only [deqv]
@[simp] theorem deqv_str_int {x1 : Str} {i2 : Int} : deqv (.str x1) (.int i2) = false := by simp only [deqv]
@[simp] theorem deqv_str_str {x1 : Str} {x2 : Str} : deqv (.str x1) (.str x2) = (x1 == x2) := by simp only [deqv]
@[simp] theorem deqv_str_lst {x1 : Str} {xs2 : List D} : deqv (.str x1) (.lst xs2) = false := by simp only [deqv]
@[simp] theorem deqv_str_tup {x1 : Str} {xs2 : List D} : deqv (.str x1) (.tup xs2) = false := by simp only [deqv]
@[simp] theorem deqv_lst_non {xs1 : List D} : deqv (.lst xs1) .non = false := by simp only [deqv]
@[simp] theorem deqv_lst_bl {xs1 : List D} {b2 : Bool} : deqv (.lst xs1) (.bl b2) = false := by simp only [deqv]
@[simp] theorem deqv_lst_int {xs1 : List D} {i2 : Int} : deqv (.lst xs1) (.int i2) = false := by simp only [deqv]
@[simp] theorem deqv_lst_str {xs1 : List D} {x2 : Str} : deqv (.lst xs1) (.str x2) = false := by simp only [deqv]
@[simp] theorem deqv_lst_lst {xs1 : List D} {xs2 : List D} : deqv (.lst xs1) (.lst xs2) = deqvs xs1 xs2 := by simp only [deqv]
@[simp] theorem deqv_lst_tup {xs1 : List D} {xs2 : List D} : deqv (.lst xs1) (.tup xs2) = false := by simp only [deqv]
@[simp] theorem deqv_tup_non {xs1 : List D} : deqv (.tup xs1) .non = false := by simp only [deqv]
@[simp] theorem deqv_tup_bl {xs1 : List D} {b2 : Bool} : deqv (.tup xs1) (.bl b2) = false := by simp only [deqv]
@[simp] theorem deqv_tup_int {xs1 : List D} {i2 : Int} : deqv (.tup xs1) (.int i2) = false := by simp only [deqv]
@[simp] theorem deqv_tup_str {xs1 : List D} {x2 : Str} : deqv (.tup xs1) (.str x2) = false := by simp only [deqv]
@[simp] theorem deqv_tup_lst {xs1 : List D} {xs2 : List D} : deqv (.tup xs1) (.lst xs2) = false := by simp only [deqv]
@[simp] theorem deqv_tup_tup {xs1 : List D} {xs2 : List D} : deqv (.tup xs1) (.tup xs2) = deqvs xs1 xs2 := by simp only [deqv]
@[simp] theorem deqvs_nil : deqvs [] [] = true := by simp only [deqvs]
@[simp] theorem deqvs_cons {x y : D} {xs ys : List D} : deqvs (x :: xs) (y :: ys) = (deqv x y && deqvs xs ys) := by simp only [deqvs]
@[simp] theorem deqvs_nc {y : D} {ys : List D} : deqvs [] (y :: ys) = false := by simp only [deqvs]
@[simp] theorem deqvs_cn {y : D} {ys : List D} : deqvs (y :: ys) [] = false := by simp only [deqvs]
mutual
theorem deqv_refl : ∀ (d : D), ddep d < 1000 → deqv d d = true
  | .non, _ => by simp
  | .bl _, _ => by simp
  | .int _, _ => by simp
  | .str _, _ => by simp
  | .lst xs, h => by rw [deqv_lst_lst]; exact deqvs_refl xs (by simp only [ddep] at h; omega)
  | .tup xs, h => by rw [deqv_tup_tup]; exact deqvs_refl xs (by simp only [ddep] at h; omega)
  | .scr _, h => by simp at h
theorem deqvs_refl : ∀ (xs : List D), ddeps xs < 1000 → deqvs xs xs = true
  | [], _ => by simp
  | x :: xs, h => by
    simp only [ddeps] at h
    rw [deqvs_cons, deqv_refl x (by omega), deqvs_refl xs (by omega)]; rfl
end
mutual
theorem toP_eqv : ∀ x y : D, PyData.eqv (toP x) (toP y) = deqv x y
  | .non, y => by cases y <;> simp only [toP, PyData.eqv, deqv]
  | .bl _, y => by cases y <;> simp only [toP, PyData.eqv, deqv]
  | .int _, y => by cases y <;> simp only [toP, PyData.eqv, deqv]
  | .str _, y => by cases y <;> simp only [toP, PyData.eqv, deqv]
  | .lst xs, y => by cases y with
    | lst ys => simp only [toP, PyData.eqv, deqv]; exact toPs_eqv xs ys
    | _ => simp only [toP, PyData.eqv, deqv]
  | .tup xs, y => by cases y with
    | tup ys => simp only [toP, PyData.eqv, deqv]; exact toPs_eqv xs ys
    | _ => simp only [toP, PyData.eqv, deqv]
  | .scr _, y => by cases y <;> simp only [toP, PyData.eqv, deqv]
theorem toPs_eqv : ∀ xs ys : List D, PyData.eqvAll (toPs xs) (toPs ys) = deqvs xs ys
  | [], [] => by simp only [toPs, PyData.eqvAll, deqvs]
  | [], _ :: _ => by simp only [toPs, PyData.eqvAll, deqvs]
  | _ :: _, [] => by simp only [toPs, PyData.eqvAll, deqvs]
  | x :: xs, y :: ys => by simp only [toPs, PyData.eqvAll, deqvs, toP_eqv x y, toPs_eqv xs ys]
end
mutual
theorem toP_dep : ∀ x : D, (toP x).depth ≤ ddep x
  | .non => by simp only [toP, PyData.depth, ddep, Nat.le_refl]
  | .bl _ => by simp only [toP, PyData.depth, ddep, Nat.le_refl]
  | .int _ => by simp only [toP, PyData.depth, ddep, Nat.le_refl]
  | .str _ => by simp only [toP, PyData.depth, ddep, Nat.le_refl]
  | .lst xs => by simp only [toP, PyData.depth, ddep]; exact Nat.succ_le_succ (toPs_dep xs)
  | .tup xs => by simp only [toP, PyData.depth, ddep]; exact Nat.succ_le_succ (toPs_dep xs)
  | .scr _ => by simp only [toP, PyData.depth, PyData.depthKv, ddep]; omega
theorem toPs_dep : ∀ xs : List D, PyData.depthAll (toPs xs) ≤ ddeps xs
  | [] => by simp only [toPs, PyData.depthAll, ddeps, Nat.le_refl]
  | x :: xs => by
    simp only [toPs, PyData.depthAll, ddeps]
    have h1 := toP_dep x
    have h2 := toPs_dep xs
    omega
end
section
variable {K : KW} {G B F F' H H' : Hp} {al al' : List Addr} {mu mu' : Sto} {rh : Ev} {si : L2.St}
mutual
theorem rep_dp : ∀ {x : D} {v : V}, RepD K H x v → ddep x < 1000 → Dp K H v (toP x)
  | _, _, .non, _ => by unfold toP; exact .non
  | _, _, .bl b, _ => by unfold toP; exact .bl b
  | _, _, .int i, _ => by unfold toP; exact .int i
  | _, _, .str x _, _ => by unfold toP; exact .str x
  | _, _, .tup q _ r, h => by unfold toP; exact .tup q (reps_dp r (by unfold ddep at h; omega))
  | _, _, .lst q _ r, h => by unfold toP; exact .lst (.inl q) (reps_dp r (by unfold ddep at h; omega))
  | _, _, .scr _ _, h => by unfold ddep at h; omega
theorem reps_dp : ∀ {xs : List D} {vs : List V}, RepDs K H xs vs → ddeps xs < 1000 → DpAll K H vs (toPs xs)
  | _, _, .nil, _ => by unfold toPs; exact .nil
  | _, _, .cons r t, h => by unfold toPs; exact .cons (rep_dp r (by unfold ddeps at h; omega)) (reps_dp t (by unfold ddeps at h; omega))
end
mutual
theorem rep_lay : ∀ {x : D} {v : V}, RepD K H x v → ddep x < 1000 → (toP x).canLay0 = true
  | _, _, .non, _ => by simp only [toP, PyData.canLay0]
  | _, _, .bl b, _ => by simp only [toP, PyData.canLay0]
  | _, _, .int i, _ => by simp only [toP, PyData.canLay0]
  | _, _, .str x h, _ => by simp only [toP, PyData.canLay0]; exact h.1
  | _, _, .tup q _ r, h => by simp only [toP, PyData.canLay0]; exact reps_lay r (by unfold ddep at h; omega)
  | _, _, .lst q _ r, h => by simp only [toP, PyData.canLay0]; exact reps_lay r (by unfold ddep at h; omega)
  | _, _, .scr _ _, h => by unfold ddep at h; omega
theorem reps_lay : ∀ {xs : List D} {vs : List V}, RepDs K H xs vs → ddeps xs < 1000 → PyData.canLayAll0 (toPs xs) = true
  | _, _, .nil, _ => by simp only [toPs, PyData.canLayAll0]
  | _, _, .cons r t, h => by
    simp only [toPs, PyData.canLayAll0]
    rw [rep_lay r (by unfold ddeps at h; omega), reps_lay t (by unfold ddeps at h; omega)]; rfl
end
theorem rep_shaped {x : D} {v : V} (r : RepD K H x v) (h : ddep x ≤ 64) : SeqAt.shaped (toP x) = true := by
  unfold SeqAt.shaped
  rw [rep_lay r (by omega)]
  have := toP_dep x
  simp only [Bool.true_and, decide_eq_true_eq]
  omega
@[simp] def fEq (neg : Bool) : F2 := fun mu x y Q => match snap mu x, snap mu y with
  | some a, some b => ddep a ≤ 64 ∧ ddep b ≤ 64 ∧ Q (.d (.bl (if neg then !deqv a b else deqv a b))) mu
  | _, _ => False
theorem opd_eq : OpD K (rEqD K) (fEq false) := fun G B F H al rh si mu x y vx vy Qd Q s r1 r2 h q => by
  unfold fEq at h
  split at h
  · rename_i a b e1 e2
    have p1 := snap_rep s.s r1 e1
    have p2 := snap_rep s.s r2 e2
    exact ⟨_, _, rep_dp p1 (by have := h.1; omega), rep_dp p2 (by have := h.2.1; omega), rep_shaped p1 h.1, rep_shaped p2 h.2.1, by rw [toP_eqv]; exact q F H al mu _ _ (Ext.refl _ _) s (.d (.bl _)) h.2.2⟩
  · exact h.elim
theorem opd_ne : OpD K (rNeD K) (fEq true) := fun G B F H al rh si mu x y vx vy Qd Q s r1 r2 h q => by
  unfold fEq at h
  split at h
  · rename_i a b e1 e2
    have p1 := snap_rep s.s r1 e1
    have p2 := snap_rep s.s r2 e2
    exact ⟨_, _, rep_dp p1 (by have := h.1; omega), rep_dp p2 (by have := h.2.1; omega), rep_shaped p1 h.1, rep_shaped p2 h.2.1, by rw [toP_eqv]; exact q F H al mu _ _ (Ext.refl _ _) s (.d (.bl _)) h.2.2⟩
  · exact h.elim
/-- is None -/
@[simp] def fIs (neg : Bool) : F2 := fun mu x y Q => match y with
  | .d .non => Q (.d (.bl (match x with | .d .non => !neg | _ => neg))) mu
  | _ => False
theorem opd_is : OpD K (fun x y H Q => y = .non ∧ Q (.bl (decide (x = .non))) H) (fIs false) := fun G B F H al rh si mu x y vx vy Qd Q s r1 r2 h q => by
  unfold fIs at h
  split at h
  · cases repNon r2
    refine ⟨rfl, q F H al mu _ _ (Ext.refl _ _) s (.d ?_) h⟩
    cases r1 with
    | d r1 => cases r1 <;> exact .bl _
    | _ => exact .bl _
  · exact h.elim
theorem opd_isn : OpD K (fun x y H Q => y = .non ∧ Q (.bl (!decide (x = .non))) H) (fIs true) := fun G B F H al rh si mu x y vx vy Qd Q s r1 r2 h q => by
  unfold fIs at h
  split at h
  · cases repNon r2
    refine ⟨rfl, q F H al mu _ _ (Ext.refl _ _) s (.d ?_) h⟩
    cases r1 with
    | d r1 => cases r1 <;> exact .bl _
    | _ => exact .bl _
  · exact h.elim
end
end VL
namespace VL
open PySem PySem.Spec PyProof.Rows L2

section
variable {io : Type} {Y : io → Cx} {P : Program} {w : World} {K : KW} {mg : Str → Option Value} {base : Heap} {N : List Str} {k : Nat} {pos : Pos} {a b c : Expr} {wa wb wc : WE} {rest : List Expr}

/-! ### comparisons as values, as tests -/
@[simp] def wTest (f : WE) : WT := fun rh mu Q => f rh mu fun x mu1 => match x with
  | .d (.bl b) => Q b mu1
  | _ => False
theorem ve_cmpR {op : CmpOp} {r : R2} {f : F2} (ho : ∀ i, OpR (Y i) (compareOp op) r) (hd : OpD K r f) (ha : VE Y K a wa) (hb : VE Y K b wb) (hm : behindInMarks op b = false) : VE Y K (.Compare a [op] [b] pos) (wOp f wa wb) := by
  obtain ⟨ta, p1, d1⟩ := ha
  obtain ⟨tb, p2, d2⟩ := hb
  exact ⟨_, fun i => pe_cmpR (ho i) (p1 i) (p2 i) hm, den_op hd d1 d2⟩
theorem den_test {t : TE} {f : WE} (d : Den K t f) : DenT K (tTest t) (wTest f) := fun G B F H al rh si mu Qd Q s h q => by
  refine d G B F H al rh si mu _ _ s h fun F1 H1 al1 mu1 x vx e1 s1 r1 h1 => ?_
  split at h1
  · cases repBl r1
    exact ⟨_, rfl, q F1 H1 al1 mu1 _ e1 s1 h1⟩
  · exact h1.elim
theorem vt_cmpR {op : CmpOp} {r : R2} {f : F2} (ho : ∀ i, OpR (Y i) (compareOp op) r) (hd : OpD K r f) (ha : VE Y K a wa) (hb : VE Y K b wb) (hm : behindInMarks op b = false) : VT Y K (.Compare a [op] [b] pos) (wTest (wOp f wa wb)) := by
  obtain ⟨ta, p1, d1⟩ := ha
  obtain ⟨tb, p2, d2⟩ := hb
  exact ⟨_, fun i => pt_cmpR (ho i) (p1 i) (p2 i) hm, den_test (den_op hd d1 d2)⟩
/-- which comparison it is -/
inductive CmpK (Y : io → Cx) (K : KW) : CmpOp → F2 → Prop
  | mk {op : CmpOp} {r : R2} {f : F2} : (∀ i, OpR (Y i) (compareOp op) r) → OpD K r f → CmpK Y K op f
theorem c_eq (y : YOk Y P w K mg base N k) : CmpK Y K .Eq (fEq false) := .mk (fun i => by rw [← y.hK i]; exact op_eqD (y.room i).units) opd_eq
theorem c_ne (y : YOk Y P w K mg base N k) : CmpK Y K .NotEq (fEq true) := .mk (fun i => by rw [← y.hK i]; exact op_neD (y.room i).units) opd_ne
theorem c_lt (y : YOk Y P w K mg base N k) : CmpK Y K .Lt (fB0 fun i j => decide (i < j)) := .mk (fun i => op_lt) opd_B0
theorem c_le (y : YOk Y P w K mg base N k) : CmpK Y K .LtE (fB0 fun i j => decide (i ≤ j)) := .mk (fun i => op_le) opd_B0
theorem c_gt (y : YOk Y P w K mg base N k) : CmpK Y K .Gt (fB0 fun i j => decide (j < i)) := .mk (fun i => op_gt) opd_B0
theorem c_is (y : YOk Y P w K mg base N k) : CmpK Y K .Is (fIs false) := .mk (fun i => op_isN) opd_is
theorem c_isn (y : YOk Y P w K mg base N k) : CmpK Y K .IsNot (fIs true) := .mk (fun i => op_notN) opd_isn
theorem ve_cmp {op : CmpOp} {f : F2} (c : CmpK Y K op f) (ha : VE Y K a wa) (hb : VE Y K b wb) (hm : behindInMarks op b = false := by first | exact nomark _ | with_unfolding_all rfl) : VE Y K (.Compare a [op] [b] pos) (wOp f wa wb) := by
  obtain ⟨o, d⟩ := c
  exact ve_cmpR o d ha hb hm
theorem vt_cmp {op : CmpOp} {f : F2} (c : CmpK Y K op f) (ha : VE Y K a wa) (hb : VE Y K b wb) (hm : behindInMarks op b = false := by first | exact nomark _ | with_unfolding_all rfl) : VT Y K (.Compare a [op] [b] pos) (wTest (wOp f wa wb)) := by
  obtain ⟨o, d⟩ := c
  exact vt_cmpR o d ha hb hm
/-- by a truth value -/
def onBl (z : W) (A B : Prop) : Prop := match z with
  | .d (.bl true) => A
  | .d (.bl false) => B
  | _ => False
@[simp] theorem onBl_bl (c : Bool) (A B : Prop) : onBl (.d (.bl c)) A B = if c = true then A else B := by cases c <;> rfl
/-- a op1 b op2 c -/
@[simp] def wChain (f g : F2) (a b c : WE) : WE := fun rh mu Q => a rh mu fun x mu1 => b rh mu1 fun y mu2 => f mu2 x y fun z mu3 => onBl z (c rh mu3 fun u mu4 => g mu4 y u Q) (Q (.d (.bl false)) mu3)
theorem den_chain {r r' : R2} {f g : F2} {ta tb tc : TE} (hd : OpD K r f) (hd' : OpD K r' g) (ha : Den K ta wa) (hb : Den K tb wb) (hc : Den K tc wc) : Den K (tChain r r' ta tb tc) (wChain f g wa wb wc) := fun G B F H al rh si mu Qd Q s h q => by
  refine ha G B F H al rh si mu _ _ s h fun F1 H1 al1 mu1 x vx e1 s1 r1 h1 => ?_
  refine hb G B F1 H1 al1 rh si mu1 _ _ s1 h1 fun F2 H2 al2 mu2 y vy e2 s2 r2 h2 => ?_
  refine hd G B F2 H2 al2 rh si mu2 x y vx vy _ _ s2 (r1.mono e2) r2 h2 fun F3 H3 al3 mu3 z vz e3 s3 r3 h3 => ?_
  unfold onBl at h3
  split at h3
  · cases repBl r3
    refine ⟨true, rfl, iteT (hc G B F3 H3 al3 rh si mu3 _ _ s3 h3 fun F4 H4 al4 mu4 u vu e4 s4 r4 h4 => ?_)⟩
    exact hd' G B F4 H4 al4 rh si mu4 y u vy vu Qd Q s4 (r2.mono (e3.trans e4)) r4 h4 fun F5 H5 al5 mu5 v vv e5 s5 r5 h5 => q F5 H5 al5 mu5 v vv ((((e1.trans e2).trans e3).trans e4).trans e5) s5 r5 h5
  · cases repBl r3
    exact ⟨false, rfl, iteF (q F3 H3 al3 mu3 _ _ ((e1.trans e2).trans e3) s3 r3 h3)⟩
  · exact h3.elim
theorem ve_chain {op op' : CmpOp} {f g : F2} (c1 : CmpK Y K op f) (c2 : CmpK Y K op' g) (ha : VE Y K a wa) (hb : VE Y K b wb) (hc : VE Y K c wc) (hm : lastMarks [op, op'] [b, c] = false := by with_unfolding_all rfl) : VE Y K (.Compare a [op, op'] [b, c] pos) (wChain f g wa wb wc) := by
  obtain ⟨o1, d1⟩ := c1
  obtain ⟨o2, d2⟩ := c2
  obtain ⟨ta, p1, e1⟩ := ha
  obtain ⟨tb, p2, e2⟩ := hb
  obtain ⟨tc, p3, e3⟩ := hc
  exact ⟨_, fun i => pe_chain (o1 i) (o2 i) (p1 i) (p2 i) (p3 i) hm, den_chain d1 d2 e1 e2 e3⟩
theorem vt_chain {op op' : CmpOp} {f g : F2} (c1 : CmpK Y K op f) (c2 : CmpK Y K op' g) (ha : VE Y K a wa) (hb : VE Y K b wb) (hc : VE Y K c wc) (hm : lastMarks [op, op'] [b, c] = false := by with_unfolding_all rfl) : VT Y K (.Compare a [op, op'] [b, c] pos) (wTest (wChain f g wa wb wc)) := by
  obtain ⟨o1, d1⟩ := c1
  obtain ⟨o2, d2⟩ := c2
  obtain ⟨ta, p1, e1⟩ := ha
  obtain ⟨tb, p2, e2⟩ := hb
  obtain ⟨tc, p3, e3⟩ := hc
  exact ⟨_, fun i => pt_chain (o1 i) (o2 i) (p1 i) (p2 i) (p3 i) hm, den_test (den_chain d1 d2 e1 e2 e3)⟩

/-! ### truth -/
@[simp] def truW (mu : Sto) : W → Option Bool
  | .d .non => some false
  | .d (.bl b) => some b
  | .d (.int i) => some (i != 0)
  | .d (.str x) => some ((x.length : Int) != 0)
  | .d (.lst xs) => some (!xs.isEmpty)
  | .d (.tup xs) => some (!xs.isEmpty)
  | .d (.scr ns) => some (!ns.isEmpty)
  | .tup ws => some (!ws.isEmpty)
  | .loc k => match mu[k]? with
    | some (.lst xs) => some (!xs.isEmpty)
    | some (.lstW xs) => some (!xs.isEmpty)
    | _ => none
  | _ => none
theorem isEmpty_len {A1 B1 : Type} {xs : List A1} {ys : List B1} (h : xs.length = ys.length) : xs.isEmpty = ys.isEmpty := by
  cases xs <;> cases ys <;> simp at h ⊢
theorem truW_ok {G B F H : Hp} {al : List Addr} {mu : Sto} {x : W} {v : V} {q : Bool} (s : SRS K G B F H al mu) (r : RepW K F al x v) (e : truW mu x = some q) : TruV K v H q := by
  unfold truW at e
  split at e
  · cases e; cases repNon r; rfl
  · cases e; cases repBl r; rfl
  · cases e; cases repInt r; rfl
  · cases e; obtain ⟨rfl, h⟩ := repStr r; exact ⟨h.2, rfl⟩
  · cases e
    cases r with
    | d r => cases r with
      | lst q z p => exact .inl ⟨_, .inl (rdMono s.fz q), by rw [isEmpty_len p.len]⟩
  · cases e
    obtain ⟨a, vs, rfl, q, z, p⟩ := repTup r
    exact .inr (.inl ⟨_, sqtMono s.fz q, by rw [isEmpty_len (Paired.length p)]⟩)
  · cases e
    cases r with
    | d r => cases r with
      | scr q z => exact .inl ⟨_, sqlMono s.fz q, by rw [isEmpty_len (List.length_map (as := _) V.int)]⟩
  · cases e
    cases r with
    | tup q z p => exact .inr (.inl ⟨_, sqtMono s.fz q, by rw [isEmpty_len (Paired.length p.p)]⟩)
  · split at e
    · rename_i q
      cases e
      cases r with
      | loc ea =>
        obtain ⟨vs, h, z, p⟩ := s.lstAt q ea
        exact .inl ⟨vs, SqL.of h, by rw [isEmpty_len (Paired.length p)]⟩
    · rename_i q
      cases e
      cases r with
      | loc ea =>
        obtain ⟨vs, h, z, p⟩ := s.lstWAt q ea
        exact .inl ⟨vs, SqL.of h, by rw [isEmpty_len (Paired.length p)]⟩
    · cases e
  · cases e
@[simp] def wTru (f : WE) : WT := fun rh mu Q => f rh mu fun x mu1 => match truW mu1 x with
  | some b => Q b mu1
  | none => False
theorem vt_truth (y : YOk Y P w K mg base N k) (ha : VE Y K a wa) (he : ∀ i whole, isTrue a (Y i).env whole = (do let v ← whole; standAt a.pos; holding [v] (truthy v)) := by exact fun _ _ => rfl) : VT Y K a (wTru wa) := by
  obtain ⟨ta, p1, d1⟩ := ha
  refine ⟨fun σ H Q => ta σ H fun x H' => ∃ k, TruV K x H' k ∧ Q k H', fun i => by rw [← y.hK i]; exact pt_truth (p1 i) (he i), fun G B F H al rh si mu Qd Q s h q => ?_⟩
  refine d1 G B F H al rh si mu _ _ s h fun F1 H1 al1 mu1 x vx e1 s1 r1 h1 => ?_
  split at h1
  · rename_i b e
    exact ⟨b, truW_ok s1.s r1 e, q F1 H1 al1 mu1 b e1 s1 h1⟩
  · exact h1.elim

/-! ### and, or, not -/
@[simp] def wAnd (f g : WT) : WT := fun rh mu Q => f rh mu fun c mu1 => if c = true then g rh mu1 Q else Q false mu1
@[simp] def wOr (f g : WT) : WT := fun rh mu Q => f rh mu fun c mu1 => if c = true then Q true mu1 else g rh mu1 Q
@[simp] def wNot (f : WT) : WT := fun rh mu Q => f rh mu fun c mu1 => Q (!c) mu1
variable {fa fb : WT}
theorem VW.vt (h : VW Y K a fa) : VT Y K a fa := by
  obtain ⟨t, p, d⟩ := h
  exact ⟨t, fun i => (p i).pt, d⟩
theorem vw_and1 (ha : VT Y K a fa) : VW Y K (.BoolOp .And [a] pos) fa := by
  obtain ⟨t, p, d⟩ := ha
  exact ⟨t, fun i => pw_and1 (p i), d⟩
theorem vw_or1 (ha : VT Y K a fa) : VW Y K (.BoolOp .Or [a] pos) fa := by
  obtain ⟨t, p, d⟩ := ha
  exact ⟨t, fun i => pw_or1 (p i), d⟩
theorem vw_and (ha : VT Y K a fa) (hb : VW Y K (.BoolOp .And (b :: rest) pos) fb) : VW Y K (.BoolOp .And (a :: b :: rest) pos) (wAnd fa fb) := by
  obtain ⟨t, p, d⟩ := ha
  obtain ⟨u, p', d'⟩ := hb
  refine ⟨_, fun i => pw_and (p i) (p' i), fun G B F H al rh si mu Qd Q s h q => ?_⟩
  refine d G B F H al rh si mu _ _ s h fun F1 H1 al1 mu1 x e1 s1 h1 => ?_
  cases x with
  | true => exact iteT (d' G B F1 H1 al1 rh si mu1 Qd Q s1 (by simpa using h1) fun F2 H2 al2 mu2 z e2 => q F2 H2 al2 mu2 z (e1.trans e2))
  | false => exact iteF (q F1 H1 al1 mu1 false e1 s1 (by simpa using h1))
theorem vw_or (ha : VT Y K a fa) (hb : VW Y K (.BoolOp .Or (b :: rest) pos) fb) : VW Y K (.BoolOp .Or (a :: b :: rest) pos) (wOr fa fb) := by
  obtain ⟨t, p, d⟩ := ha
  obtain ⟨u, p', d'⟩ := hb
  refine ⟨_, fun i => pw_or (p i) (p' i), fun G B F H al rh si mu Qd Q s h q => ?_⟩
  refine d G B F H al rh si mu _ _ s h fun F1 H1 al1 mu1 x e1 s1 h1 => ?_
  cases x with
  | true => exact iteT (q F1 H1 al1 mu1 true e1 s1 (by simpa using h1))
  | false => exact iteF (d' G B F1 H1 al1 rh si mu1 Qd Q s1 (by simpa using h1) fun F2 H2 al2 mu2 z e2 => q F2 H2 al2 mu2 z (e1.trans e2))
theorem vt_not (ha : VT Y K a fa) : VT Y K (.UnaryOp .Not a pos) (wNot fa) := by
  obtain ⟨t, p, d⟩ := ha
  refine ⟨_, fun i => pt_not (p i), fun G B F H al rh si mu Qd Q s h q => ?_⟩
  exact d G B F H al rh si mu _ _ s h fun F1 H1 al1 mu1 x e1 s1 h1 => q F1 H1 al1 mu1 _ e1 s1 h1
/-- as values -/
@[simp] def wAndV (f g : WE) : WE := fun rh mu Q => f rh mu fun x mu1 => onBl x (g rh mu1 Q) (Q (.d (.bl false)) mu1)
@[simp] def wOrV (f g : WE) : WE := fun rh mu Q => f rh mu fun x mu1 => onBl x (Q (.d (.bl true)) mu1) (g rh mu1 Q)
theorem ve_one {op} (h : VE Y K a wa) : VE Y K (.BoolOp op [a] pos) wa := by
  obtain ⟨t, p, d⟩ := h
  exact ⟨t, fun i => pe_one (p i), d⟩
theorem ve_andV (ha : VE Y K a wa) (hb : VE Y K (.BoolOp .And (b :: rest) pos) wb) : VE Y K (.BoolOp .And (a :: b :: rest) pos) (wAndV wa wb) := by
  obtain ⟨t, p, d⟩ := ha
  obtain ⟨u, p', d'⟩ := hb
  refine ⟨_, fun i => pe_and (p i) (p' i), fun G B F H al rh si mu Qd Q s h q => ?_⟩
  refine d G B F H al rh si mu _ _ s h fun F1 H1 al1 mu1 x vx e1 s1 r1 h1 => ?_
  unfold onBl at h1
  split at h1
  · cases repBl r1
    exact ⟨true, rfl, iteT (d' G B F1 H1 al1 rh si mu1 Qd Q s1 h1 fun F2 H2 al2 mu2 z vz e2 => q F2 H2 al2 mu2 z vz (e1.trans e2))⟩
  · cases repBl r1
    exact ⟨false, rfl, iteF (q F1 H1 al1 mu1 _ _ e1 s1 r1 h1)⟩
  · exact h1.elim
theorem ve_orV (ha : VE Y K a wa) (hb : VE Y K (.BoolOp .Or (b :: rest) pos) wb) : VE Y K (.BoolOp .Or (a :: b :: rest) pos) (wOrV wa wb) := by
  obtain ⟨t, p, d⟩ := ha
  obtain ⟨u, p', d'⟩ := hb
  refine ⟨_, fun i => pe_or (p i) (p' i), fun G B F H al rh si mu Qd Q s h q => ?_⟩
  refine d G B F H al rh si mu _ _ s h fun F1 H1 al1 mu1 x vx e1 s1 r1 h1 => ?_
  unfold onBl at h1
  split at h1
  · cases repBl r1
    exact ⟨true, rfl, iteT (q F1 H1 al1 mu1 _ _ e1 s1 r1 h1)⟩
  · cases repBl r1
    exact ⟨false, rfl, iteF (d' G B F1 H1 al1 rh si mu1 Qd Q s1 h1 fun F2 H2 al2 mu2 z vz e2 => q F2 H2 al2 mu2 z vz (e1.trans e2))⟩
  · exact h1.elim
@[simp] def wNotV (f : WE) : WE := fun rh mu Q => f rh mu fun x mu1 => match truW mu1 x with
  | some b => Q (.d (.bl (!b))) mu1
  | none => False
theorem ve_not (y : YOk Y P w K mg base N k) (ha : VE Y K a wa) : VE Y K (.UnaryOp .Not a pos) (wNotV wa) := by
  obtain ⟨t, p, d⟩ := ha
  refine ⟨tNotT K t, fun i => by rw [← y.hK i]; exact pe_notT (p i), fun G B F H al rh si mu Qd Q s h q => ?_⟩
  refine d G B F H al rh si mu _ _ s h fun F1 H1 al1 mu1 x vx e1 s1 r1 h1 => ?_
  split at h1
  · rename_i b e
    exact ⟨b, truW_ok s1.s r1 e, q F1 H1 al1 mu1 _ _ e1 s1 (.d (.bl _)) h1⟩
  · exact h1.elim
/-! ### argument lists, displays -/
@[simp] def wNil : WA := fun _ mu Q => Q [] mu
@[simp] def wCons (f : WE) (g : WA) : WA := fun rh mu Q => f rh mu fun x mu1 => g rh mu1 fun xs mu2 => Q (x :: xs) mu2
variable {es : List Expr} {ga : WA}
theorem va_nil : VA Y K [] wNil := ⟨_, fun _ => pa_nil, fun G B F H al rh si mu Qd Q s h q => q F H al mu [] [] (Ext.refl _ _) s .nil h⟩
theorem va_cons (ha : VE Y K a wa) (hr : VA Y K es ga) (hs : ∀ i, starEach (a :: es) (Y i).env = (false, eval a (Y i).env) :: starEach es (Y i).env := by exact fun _ => rfl) : VA Y K (a :: es) (wCons wa ga) := by
  obtain ⟨t, p, d⟩ := ha
  obtain ⟨u, p', d'⟩ := hr
  refine ⟨_, fun i => pa_cons (p i) (p' i) (hs i), fun G B F H al rh si mu Qd Q s h q => ?_⟩
  refine d G B F H al rh si mu _ _ s h fun F1 H1 al1 mu1 x vx e1 s1 r1 h1 => ?_
  exact d' G B F1 H1 al1 rh si mu1 _ _ s1 h1 fun F2 H2 al2 mu2 ws vs e2 s2 r2 h2 => q F2 H2 al2 mu2 _ _ (e1.trans e2) s2 (.cons (r1.mono e2) r2) h2
@[simp] def wTup (g : WA) : WE := fun rh mu Q => g rh mu fun ws mu1 => ws.length ≤ sizeLine ∧ Q (mkTup ws) mu1
@[simp] def wLst (o : Bool) (g : WA) : WE := fun rh mu Q => g rh mu fun ws mu1 => ws.length ≤ sizeLine ∧ newLW o ws mu1 Q
theorem ve_tup {x1} (h : VA Y K es ga) : VE Y K (.Tuple es x1 pos) (wTup ga) := by
  obtain ⟨t, p, d⟩ := h
  refine ⟨_, fun i => pe_tup (p i), fun G B F H al rh si mu Qd Q s h q => ?_⟩
  refine d G B F H al rh si mu _ _ s h fun F1 H1 al1 mu1 ws vs e1 s1 r1 h1 => ?_
  have l := Paired.length r1
  exact ⟨by have := h1.1; omega, newT_ok s1 r1 (by have := h1.1; omega) h1.2 fun F2 H2 al2 mu2 z vz e2 => q F2 H2 al2 mu2 z vz (e1.trans e2)⟩
theorem ve_lst (o : Bool) (h : VA Y K es ga) : VE Y K (.List es pos) (wLst o ga) := by
  obtain ⟨t, p, d⟩ := h
  refine ⟨_, fun i => pe_lst (p i), fun G B F H al rh si mu Qd Q s h q => ?_⟩
  refine d G B F H al rh si mu _ _ s h fun F1 H1 al1 mu1 ws vs e1 s1 r1 h1 => ?_
  have l := Paired.length r1
  exact ⟨by have := h1.1; omega, newLW_ok s1 r1 (by have := h1.1; omega) h1.2 fun F2 H2 al2 mu2 z vz e2 => q F2 H2 al2 mu2 z vz (e1.trans e2)⟩
end

/-! ### subscripts -/
/-- the items of a list, a tuple -/
@[simp] def seqW (mu : Sto) : W → Option (List W)
  | .d (.lst xs) => some (xs.map .d)
  | .d (.tup xs) => some (xs.map .d)
  | .d (.scr ns) => some (ns.map fun n => .d (.int n))
  | .tup ws => some ws
  | .loc k => match mu[k]? with
    | some (.lst xs) => some (xs.map .d)
    | some (.lstW ws) => some ws
    | _ => none
  | _ => none
section
variable {K : KW} {G B F F' H H' : Hp} {al al' : List Addr} {mu mu' : Sto} {rh : Ev} {si : L2.St}
theorem pMapD {xs : List D} {vs : List V} (p : Paired (RepD K F) xs vs) : Paired (RepW K F al) (xs.map .d) vs := by
  induction p with
  | nil => exact .nil
  | cons r t ih => exact .cons (.d r) ih
theorem pScr : ∀ ns : List Int, Paired (RepW K F al) (ns.map fun n => .d (.int n)) (ns.map V.int)
  | [] => .nil
  | n :: ns => .cons (.d (.int n)) (pScr ns)
theorem pScrD : ∀ ns : List Int, Paired (RepD K F) (ns.map D.int) (ns.map V.int)
  | [] => .nil
  | n :: ns => .cons (.int n) (pScrD ns)
/-- what is read of a sequence -/
theorem seqW_rep {x : W} {v : V} {ws : List W} (s : SRS K G B F H al mu) (r : RepW K F al x v) (e : seqW mu x = some ws) : ∃ a vs, v = .ref a ∧ (SqL K H a vs ∨ SqT K H a vs) ∧ vs.length ≤ sizeLine ∧ Paired (RepW K F al) ws vs := by
  unfold seqW at e
  split at e
  · cases e
    cases r with
    | d r => cases r with
      | lst q z p => exact ⟨_, _, rfl, .inl (.inl (rdMono s.fz q)), z, pMapD p.p⟩
  · cases e
    obtain ⟨a, vs, rfl, q, z, p⟩ := repTup r
    exact ⟨_, _, rfl, .inr (sqtMono s.fz q), z, pMapD p⟩
  · cases e
    cases r with
    | d r => cases r with
      | scr q z => exact ⟨_, _, rfl, .inl (sqlMono s.fz q), by rw [List.length_map]; exact z, pScr _⟩
  · cases e
    cases r with
    | tup q z p => exact ⟨_, _, rfl, .inr (sqtMono s.fz q), z, p.p⟩
  · split at e
    · rename_i q
      cases e
      cases r with
      | loc ea =>
        obtain ⟨vs, h, z, p⟩ := s.lstAt q ea
        exact ⟨_, vs, rfl, .inl (SqL.of h), z, pMapD p⟩
    · rename_i q
      cases e
      cases r with
      | loc ea =>
        obtain ⟨vs, h, z, p⟩ := s.lstWAt q ea
        exact ⟨_, vs, rfl, .inl (SqL.of h), z, p⟩
    · cases e
  · cases e
theorem ixN_len {A1 B1 : Type} {R : A1 → B1 → Prop} {xs : List A1} {ys : List B1} (p : Paired R xs ys) {i : Int} {x : A1} (h : atI xs i = some x) : ∃ y, atI ys i = some y ∧ R x y := by
  unfold atI at h ⊢
  rw [← Paired.length p]
  cases q : ixN xs.length i with
  | none => rw [q] at h; cases h
  | some j =>
    rw [q] at h
    exact pGetL p h
@[simp] def fIx : F2 := fun mu x y Q => match x, y with
  | .d (.str z), .d (.int i) => ∃ c, atI z.cps.toList i = some c ∧ Q (.d (.str ⟨#[c]⟩)) mu
  | .d (.lst xs), .d (.int i) => ∃ d, atI xs i = some d ∧ Q (.d d) mu
  | .d (.tup xs), .d (.int i) => ∃ d, atI xs i = some d ∧ Q (.d d) mu
  | x, .d (.int i) => match seqW mu x with
    | some ws => ∃ u, atI ws i = some u ∧ Q u mu
    | none => False
  | _, _ => False
theorem strOk_at {z : Str} {i : Int} {c : Nat} (h : StrOk z) (e : atI z.cps.toList i = some c) : StrOk ⟨#[c]⟩ := by
  unfold atI at e
  cases q : ixN z.cps.toList.length i with
  | none => rw [q] at e; cases e
  | some j =>
    rw [q] at e
    have e' : z.cps.toList[j]? = some c := e
    have hm := List.mem_of_getElem? e'
    have h1 := h.1
    unfold PyData.strOk at h1
    rw [Array.all_eq_true'] at h1
    have h2 := h1 c (by simpa using hm)
    exact ⟨by unfold PyData.strOk; simpa using h2, by show 1 ≤ sizeLine; decide⟩
theorem fIx_seq {x : W} {vx : V} {i : Int} {ws : List W} {u : W} {Q : VK} {Qd : W → Sto → Prop} (s : SR K G B F H al rh si mu) (r : RepW K F al x vx) (e : seqW mu x = some ws) (a : atI ws i = some u) (h : Qd u mu)
    (q : ∀ F' H' al' mu' w v, Ext F al F' al' → SR K G B F' H' al' rh si mu' → RepW K F' al' w v → Qd w mu' → Q v H') : rIx K vx (.int i) H Q := by
  obtain ⟨p, vs, rfl, hs, z, pr⟩ := seqW_rep s.s r e
  obtain ⟨v, e2, rv⟩ := ixN_len pr a
  have fin := q F H al mu u v (Ext.refl _ _) s rv h
  rcases hs with hs | hs
  · exact .inl ⟨p, vs, i, v, rfl, rfl, hs, e2, fin⟩
  · exact .inr (.inl ⟨p, vs, i, v, rfl, rfl, hs, e2, fin⟩)
theorem atI_map {A1 B1 : Type} {xs : List A1} {f : A1 → B1} {i : Int} {x : A1} (h : atI xs i = some x) : atI (xs.map f) i = some (f x) := by
  unfold atI at h ⊢
  rw [List.length_map]
  cases q : ixN xs.length i with
  | none => rw [q] at h; cases h
  | some j =>
    rw [q] at h
    have h' : xs[j]? = some x := h
    show (xs.map f)[j]? = some (f x)
    rw [List.getElem?_map, h']; rfl
theorem opd_ix : OpD K (rIx K) fIx := fun G B F H al rh si mu x y vx vy Qd Q s r1 r2 h q => by
  unfold fIx at h
  split at h
  · obtain ⟨rfl, hz⟩ := repStr r1
    cases repInt r2
    obtain ⟨c, e, h⟩ := h
    exact .inr (.inr ⟨_, _, c, rfl, rfl, hz.2, e, q F H al mu _ _ (Ext.refl _ _) s (.d (.str _ (strOk_at hz e))) h⟩)
  · cases repInt r2
    obtain ⟨d, e, h⟩ := h
    exact fIx_seq s r1 rfl (atI_map (f := W.d) e) h q
  · cases repInt r2
    obtain ⟨d, e, h⟩ := h
    exact fIx_seq s r1 rfl (atI_map (f := W.d) e) h q
  · cases repInt r2
    split at h
    · rename_i e
      obtain ⟨u, a, h⟩ := h
      exact fIx_seq s r1 e a h q
    · exact h.elim
  · exact h.elim
end
section
variable {io : Type} {Y : io → Cx} {P : Program} {w : World} {K : KW} {mg : Str → Option Value} {base : Heap} {N : List Str} {k : Nat} {pos : Pos} {a b c : Expr} {wa wb wc : WE}
theorem ve_ix (y : YOk Y P w K mg base N k) (ha : VE Y K a wa) (hb : VE Y K b wb) (hs : PlainIx b := by exact fun _ _ => rfl) : VE Y K (.Subscript a b pos) (wOp fIx wa wb) := by
  obtain ⟨ta, p1, d1⟩ := ha
  obtain ⟨tb, p2, d2⟩ := hb
  exact ⟨tOp (rIx K) ta tb, fun i => by rw [← y.hK i]; exact pe_ix ix_seq (p1 i) (p2 i) hs, den_op opd_ix d1 d2⟩

/-! ### slices -/
abbrev WO := Ev → Sto → (Option Int → Sto → Prop) → Prop
def DenO (K : KW) (t : TO) (f : WO) : Prop := ∀ (G B F H : Hp) (al : List Addr) (rh : Ev) (si : L2.St) (mu : Sto) (Qd : Option Int → Sto → Prop) (Q : Option Int → Hp → Prop), SR K G B F H al rh si mu → f rh mu Qd →
  (∀ F' H' al' mu' o, Ext F al F' al' → SR K G B F' H' al' rh si mu' → Qd o mu' → Q o H') → t si H Q
def VO (Y : io → Cx) (K : KW) (e : Option Expr) (f : WO) : Prop := ∃ t, (∀ i, PO (Y i) e t) ∧ DenO K t f
@[simp] def wNoPart : WO := fun _ mu Q => Q none mu
@[simp] def wPart (f : WE) : WO := fun rh mu Q => f rh mu fun x mu1 => match x with
  | .d (.int i) => Q (some i) mu1
  | _ => False
theorem vo_none : VO Y K none wNoPart := ⟨_, fun _ => po_none, fun G B F H al rh si mu Qd Q s h q => q F H al mu none (Ext.refl _ _) s h⟩
theorem vo_some (h : VE Y K a wa) : VO Y K (some a) (wPart wa) := by
  obtain ⟨t, p, d⟩ := h
  refine ⟨_, fun i => po_some (p i), fun G B F H al rh si mu Qd Q s h q => ?_⟩
  refine d G B F H al rh si mu _ _ s h fun F1 H1 al1 mu1 x vx e1 s1 r1 h1 => ?_
  split at h1
  · cases repInt r1
    exact ⟨_, rfl, q F1 H1 al1 mu1 _ e1 s1 h1⟩
  · exact h1.elim
/-- the items of xs[lo:hi] -/
def cutL {A1 : Type} (xs : List A1) (lo hi : Option Int) : List A1 := (xs.drop (HT.sIx xs.length 0 lo)).take (HT.sIx xs.length xs.length hi - HT.sIx xs.length 0 lo)
@[simp] def wSl (o : Bool) (f : WE) (l h : WO) : WE := fun rh mu Q => f rh mu fun x mu1 => l rh mu1 fun lo mu2 => h rh mu2 fun hi mu3 => match x with
  | .d (.str z) => Q (.d (.str (cutS z lo hi))) mu3
  | .d (.tup xs) => ¬ (HT.sIx xs.length 0 lo = 0 ∧ HT.sIx xs.length xs.length hi = xs.length) ∧ Q (.d (.tup (cutL xs lo hi))) mu3
  | .d (.scr ns) => newL o (cutL (ns.map D.int) lo hi) mu3 Q
  | x => match lsD mu3 x with
    | some xs => newL o (cutL xs lo hi) mu3 Q
    | none => False
theorem strOk_cut {z : Str} {lo hi : Option Int} (h : StrOk z) : StrOk (cutS z lo hi) := by
  refine ⟨?_, Nat.le_trans (cutS_length z lo hi) h.2⟩
  have h1 := h.1
  unfold PyData.strOk at h1 ⊢
  rw [Array.all_eq_true'] at h1 ⊢
  intro x hx
  refine h1 x ?_
  unfold cutS at hx
  have := List.mem_of_mem_drop (List.mem_of_mem_take (by simpa using hx))
  simpa using this
theorem cutP {A1 B1 : Type} {R : A1 → B1 → Prop} {xs : List A1} {ys : List B1} (p : Paired R xs ys) (lo hi : Option Int) : Paired R (cutL xs lo hi) (cutL ys lo hi) := by
  unfold cutL
  rw [← Paired.length p]
  exact pCut p _ _
theorem ve_slice (y : YOk Y P w K mg base N k) (o : Bool) {lo hi : Option Expr} {p2 : Pos} {fl fh : WO} (ha : VE Y K a wa) (hl : VO Y K lo fl) (hh : VO Y K hi fh) : VE Y K (.Subscript a (.Slice lo hi none p2) pos) (wSl o wa fl fh) := by
  obtain ⟨ta, p1, d1⟩ := ha
  obtain ⟨tl, p2, d2⟩ := hl
  obtain ⟨th, p3, d3⟩ := hh
  refine ⟨tSl (fun x lo hi H Q => rSlS x lo hi H Q ∨ rSlT K x lo hi H Q ∨ rSlL K x lo hi H Q) ta tl th, fun i => by rw [← y.hK i]; exact pe_slice (sl_str.or (sl_tup.or sl_list)) (p1 i) (p2 i) (p3 i), fun G B F H al rh si mu Qd Q s h q => ?_⟩
  refine d1 G B F H al rh si mu _ _ s h fun F1 H1 al1 mu1 x vx e1 s1 r1 h1 => ?_
  refine d2 G B F1 H1 al1 rh si mu1 _ _ s1 h1 fun F2 H2 al2 mu2 l e2 s2 h2 => ?_
  refine d3 G B F2 H2 al2 rh si mu2 _ _ s2 h2 fun F3 H3 al3 mu3 u e3 s3 h3 => ?_
  have r3 := r1.mono (e2.trans e3)
  have q3 := fun F' H' al' mu' w v (x : Ext F3 al3 F' al') => q F' H' al' mu' w v (((e1.trans e2).trans e3).trans x)
  split at h3
  · obtain ⟨rfl, hz⟩ := repStr r3
    exact .inl ⟨_, rfl, hz.2, q3 F3 H3 al3 mu3 _ _ (Ext.refl _ _) s3 (.d (.str _ (strOk_cut hz))) h3⟩
  · obtain ⟨b, vs, rfl, qt, z, pr⟩ := repTup r3
    have le := Paired.length pr
    refine .inr (.inl ⟨b, vs, rfl, sqtMono s3.s.fz qt, by rw [← le]; exact h3.1, fun p hp => ?_⟩)
    have x := s3.s.frozX (o := .tup (cutV vs l u)) hp
    refine q3 _ _ _ _ _ _ x (s3.step x (s3.s.froz hp)) (.d (.tup (SqT.of upd_same) ?_ ((RepDs.of (cutP pr l u)).mono x.1))) h3.2
    exact Nat.le_trans (cutV_length vs l u) z
  · cases r3 with
    | d r3 => cases r3 with
      | scr qt z => exact .inr (.inr ⟨_, _, rfl, sqlMono s3.s.fz qt, newL_ok s3 (cutP (pScrD _) l u) (Nat.le_trans (cutV_length _ l u) (by rw [List.length_map]; exact z)) h3 q3⟩)
  · split at h3
    · rename_i e4
      obtain ⟨b, vs, rfl, qt, z, pr⟩ := lsD_rep s3.s r3 e4
      exact .inr (.inr ⟨b, vs, rfl, .inl qt, newL_ok s3 (cutP pr l u) (Nat.le_trans (cutV_length vs l u) z) h3 q3⟩)
    · exact h3.elim
end
end VL
namespace VL
open PySem PySem.Spec PyProof.Rows L2

/-! ### built-in functions -/
abbrev FC := Sto → List W → (W → Sto → Prop) → Prop
@[simp] def wCall (f : FC) (g : WA) : WE := fun rh mu Q => g rh mu fun ws mu1 => f mu1 ws Q
def CallD (K : KW) (r : List V → Hp → VK → Prop) (f : FC) : Prop := ∀ (G B F H : Hp) (al : List Addr) (rh : Ev) (si : L2.St) (mu : Sto) (ws : List W) (vs : List V) (Qd : W → Sto → Prop) (Q : VK), SR K G B F H al rh si mu → Paired (RepW K F al) ws vs → f mu ws Qd →
  (∀ F' H' al' mu' w v, Ext F al F' al' → SR K G B F' H' al' rh si mu' → RepW K F' al' w v → Qd w mu' → Q v H') → r vs H Q
section
variable {io : Type} {Y : io → Cx} {P : Program} {w : World} {K : KW} {mg : Str → Option Value} {base : Heap} {N : List Str} {k : Nat} {pos p : Pos} {a b c e : Expr} {es : List Expr} {wa wb wc : WE} {ga : WA} {x : Str} {id T : String} {r : List V → Hp → VK → Prop} {f : FC}
theorem den_call {t : TA} (hd : CallD K r f) (ha : DenA K t ga) : Den K (tCB r t) (wCall f ga) := fun G B F H al rh si mu Qd Q s h q => by
  refine ha G B F H al rh si mu _ _ s h fun F1 H1 al1 mu1 ws vs e1 s1 r1 h1 => ?_
  exact hd G B F1 H1 al1 rh si mu1 ws vs Qd Q s1 r1 h1 fun F2 H2 al2 mu2 z vz e2 => q F2 H2 al2 mu2 z vz (e1.trans e2)
theorem ve_callB (y : YOk Y P w K mg base N k) (hc : ∀ i, CallR (Y i) (.builtin id) r) (hd : CallD K r f) (hm : mg x = none) (hv : bootBuiltins x = some (.builtin id)) (ha : VA Y K (e :: es) ga) (hg : ∀ j, Gl (Y j) x := by exact fun _ => rfl) (hn : x ≠ "__name__" := by decide) (hdb : (x == ("__debug__" : Str)) = false := by decide)
    (he : ∀ i, starEach (e :: es) (Y i).env = (false, eval e (Y i).env) :: starEach es (Y i).env := by exact fun _ => rfl) (hpl : ∀ i, (backTo pos (starEach es (Y i).env)).any (·.1) = false := by exact fun _ => rfl) : VE Y K (.Call (.Name x p) (e :: es) [] pos) (wCall f ga) := by
  obtain ⟨t, p1, d1⟩ := ha
  exact ⟨_, fun i => pe_callB (hc i) (hg i) (by rw [y.hmg i]; exact hm) hv (p1 i) hn hdb (he i) (hpl i), den_call hd d1⟩
theorem ve_callTy (y : YOk Y P w K mg base N k) (hc : ∀ i, CallR (Y i) (.type T) r) (hd : CallD K r f) (hm : mg x = none) (hv : bootBuiltins x = some (.type T)) (ha : VA Y K (e :: es) ga) (hg : ∀ j, Gl (Y j) x := by exact fun _ => rfl) (hn : x ≠ "__name__" := by decide) (hdb : (x == ("__debug__" : Str)) = false := by decide)
    (he : ∀ i, starEach (e :: es) (Y i).env = (false, eval e (Y i).env) :: starEach es (Y i).env := by exact fun _ => rfl) (hpl : ∀ i, (backTo pos (starEach es (Y i).env)).any (·.1) = false := by exact fun _ => rfl) : VE Y K (.Call (.Name x p) (e :: es) [] pos) (wCall f ga) := by
  obtain ⟨t, p1, d1⟩ := ha
  exact ⟨_, fun i => pe_callTy (hc i) (hg i) (by rw [y.hmg i]; exact hm) hv (p1 i) hn hdb (he i) (hpl i), den_call hd d1⟩
end

section
variable {K : KW} {G B F F' H H' : Hp} {al al' : List Addr} {mu mu' : Sto} {rh : Ev} {si : L2.St}
theorem pair1 {A1 B1 : Type} {R : A1 → B1 → Prop} {x : A1} {ys : List B1} (p : Paired R [x] ys) : ∃ y, ys = [y] ∧ R x y := by
  cases p with
  | cons r t => cases t; exact ⟨_, rfl, r⟩
theorem pair2 {A1 B1 : Type} {R : A1 → B1 → Prop} {x x' : A1} {ys : List B1} (p : Paired R [x, x'] ys) : ∃ y y', ys = [y, y'] ∧ R x y ∧ R x' y' := by
  cases p with
  | cons r t => obtain ⟨y', rfl, r'⟩ := pair1 t; exact ⟨_, _, rfl, r, r'⟩
/-- len -/
@[simp] def fLen : FC := fun mu ws Q => match ws with
  | [.d (.str z)] => Q (.d (.int z.length)) mu
  | [x] => match seqW mu x with
    | some us => Q (.d (.int us.length)) mu
    | none => False
  | _ => False
theorem cd_len : CallD K (fun xs H Q => ∃ x n, xs = [x] ∧ LenV K x H n ∧ Q (.int n) H) fLen := fun G B F H al rh si mu ws vs Qd Q s r0 h q => by
  unfold fLen at h
  split at h
  · obtain ⟨v, rfl, r⟩ := pair1 r0
    obtain ⟨rfl, hz⟩ := repStr r
    exact ⟨_, _, rfl, ⟨hz.2, rfl⟩, q F H al mu _ _ (Ext.refl _ _) s (.d (.int _)) h⟩
  · obtain ⟨v, rfl, r⟩ := pair1 r0
    split at h
    · rename_i us e
      obtain ⟨b, vs, rfl, hs, z, p⟩ := seqW_rep s.s r e
      have l := Paired.length p
      refine ⟨.ref b, vs.length, rfl, ?_, q F H al mu _ _ (Ext.refl _ _) s (.d ?_) h⟩
      · rcases hs with hs | hs
        · exact .inl ⟨vs, hs, rfl⟩
        · exact .inr ⟨vs, hs, rfl⟩
      · rw [l]; exact .int _
    · exact h.elim
  · exact h.elim
/-- list(x), tuple(x) -/
@[simp] def fList (o : Bool) : FC := fun mu ws Q => match ws with
  | [x] => match seqW mu x with
    | some us => newLW o us mu Q
    | none => False
  | _ => False
theorem cd_list (o : Bool) : CallD K (fun xs H Q => ∃ p ys, xs = [.ref p] ∧ (SqL K H p ys ∨ SqT K H p ys) ∧ ∀ l, H l = none → Q (.ref l) (upd H l (.lst ys))) (fList o) := fun G B F H al rh si mu ws vs Qd Q s r0 h q => by
  unfold fList at h
  split at h
  · obtain ⟨v, rfl, r⟩ := pair1 r0
    split at h
    · rename_i us e
      obtain ⟨b, vs, rfl, hs, z, p⟩ := seqW_rep s.s r e
      exact ⟨b, vs, rfl, hs, newLW_ok s p z h q⟩
    · exact h.elim
  · exact h.elim
@[simp] def fTuple : FC := fun mu ws Q => match ws with
  | [.d (.tup xs)] => Q (.d (.tup xs)) mu
  | [.tup us] => Q (.tup us) mu
  | [x] => match seqW mu x with
    | some us => Q (mkTup us) mu
    | none => False
  | _ => False
theorem cd_tuple : CallD K (fun xs H Q => ∃ p ys, xs = [.ref p] ∧ ((SqL K H p ys ∧ ∀ l, H l = none → Q (.ref l) (upd H l (.tup ys))) ∨ (SqT K H p ys ∧ Q (.ref p) H))) fTuple := fun G B F H al rh si mu ws vs Qd Q s r0 h q => by
  unfold fTuple at h
  split at h
  · obtain ⟨v, rfl, r⟩ := pair1 r0
    obtain ⟨b, vs, rfl, hs, z, p⟩ := repTup r
    exact ⟨b, vs, rfl, .inr ⟨sqtMono s.s.fz hs, q F H al mu _ _ (Ext.refl _ _) s r h⟩⟩
  · obtain ⟨v, rfl, r⟩ := pair1 r0
    cases r with
    | tup hs z p => exact ⟨_, _, rfl, .inr ⟨sqtMono s.s.fz hs, q F H al mu _ _ (Ext.refl _ _) s (.tup hs z p) h⟩⟩
  · rename_i x n1 n2
    obtain ⟨v, rfl, r⟩ := pair1 r0
    split at h
    · rename_i us e
      have nt : ∃ a vs, v = .ref a ∧ SqL K H a vs ∧ vs.length ≤ sizeLine ∧ Paired (RepW K F al) us vs := by
        unfold seqW at e
        split at e
        · cases e
          cases r with
          | d r => cases r with
            | lst q z p => exact ⟨_, _, rfl, .inl (rdMono s.s.fz q), z, pMapD p.p⟩
        · exact (n1 _ rfl).elim
        · cases e
          cases r with
          | d r => cases r with
            | scr q z => exact ⟨_, _, rfl, sqlMono s.s.fz q, by rw [List.length_map]; exact z, pScr _⟩
        · exact (n2 _ rfl).elim
        · split at e
          · rename_i q
            cases e
            cases r with
            | loc ea =>
              obtain ⟨vs, h, z, p⟩ := s.s.lstAt q ea
              exact ⟨_, vs, rfl, SqL.of h, z, pMapD p⟩
          · rename_i q
            cases e
            cases r with
            | loc ea =>
              obtain ⟨vs, h, z, p⟩ := s.s.lstWAt q ea
              exact ⟨_, vs, rfl, SqL.of h, z, p⟩
          · cases e
        · cases e
      obtain ⟨b, vs, rfl, hs, z, p⟩ := nt
      exact ⟨b, vs, rfl, .inl ⟨hs, newT_ok s p z h q⟩⟩
    · exact h.elim
  · exact h.elim
/-- sum, any, all, min of a list -/
theorem ints_rep {ns : List Int} {vs : List V} (p : Paired (RepD K F) (ns.map D.int) vs) : vs = ns.map V.int := by
  induction ns generalizing vs with
  | nil => cases p; rfl
  | cons n ns ih => cases p with
    | cons r t => cases r; rw [ih t]; rfl
theorem bls_rep {ns : List Bool} {vs : List V} (p : Paired (RepD K F) (ns.map D.bl) vs) : vs = ns.map V.bl := by
  induction ns generalizing vs with
  | nil => cases p; rfl
  | cons n ns ih => cases p with
    | cons r t => cases r; rw [ih t]; rfl
def fSum : FC := fun mu ws Q => match ws with
  | [.d (.scr ns)] => Q (.d (.int ns.sum)) mu
  | [x] => match lsD mu x with
    | some xs => ∃ ns, xs = List.map D.int ns ∧ Q (.d (.int ns.sum)) mu
    | none => False
  | _ => False
theorem cd_sum : CallD K (rSum K) fSum := fun G B F H al rh si mu ws vs Qd Q s r0 h q => by
  unfold fSum at h
  split at h
  · obtain ⟨v, rfl, r⟩ := pair1 r0
    cases r with
    | d r => cases r with
      | scr hs z => exact ⟨_, _, rfl, sqlMono s.s.fz hs, q F H al mu _ _ (Ext.refl _ _) s (.d (.int _)) h⟩
  · obtain ⟨v, rfl, r⟩ := pair1 r0
    split at h
    · rename_i xs e
      obtain ⟨ns, rfl, h⟩ := h
      obtain ⟨a, vs, rfl, hs, z, p⟩ := lsD_rep s.s r e
      cases ints_rep p
      exact ⟨a, ns, rfl, .inl hs, q F H al mu _ _ (Ext.refl _ _) s (.d (.int _)) h⟩
    · exact h.elim
  · exact h.elim
def fAny (neg : Bool) : FC := fun mu ws Q => match ws with
  | [x] => match lsD mu x with
    | some xs => ∃ bs, xs = List.map D.bl bs ∧ Q (.d (.bl (if neg then bs.all id else bs.any id))) mu
    | none => False
  | _ => False
theorem cd_all : CallD K (rAll K) (fAny true) := fun G B F H al rh si mu ws vs Qd Q s r0 h q => by
  unfold fAny at h
  split at h
  · obtain ⟨v, rfl, r⟩ := pair1 r0
    split at h
    · rename_i xs e
      obtain ⟨ns, rfl, h⟩ := h
      obtain ⟨a, vs, rfl, hs, z, p⟩ := lsD_rep s.s r e
      cases bls_rep p
      exact ⟨a, ns, rfl, .inl hs, q F H al mu _ _ (Ext.refl _ _) s (.d (.bl _)) h⟩
    · exact h.elim
  · exact h.elim
/-- isinstance -/
@[simp] def isi (t n : String) : Bool := t == n || (t == "bool" && n == "int")
theorem isi_kit : ∀ t ∈ ["NoneType", "bool", "int", "str", "list", "tuple", "dict"], ∀ n ∈ ["int", "bool", "str", "tuple", "list"], kitB t n = some (isi t n) := by decide +kernel
@[simp] def tyName (mu : Sto) : W → Option String
  | .d .non => some "NoneType"
  | .d (.bl _) => some "bool"
  | .d (.int _) => some "int"
  | .d (.str _) => some "str"
  | .d (.lst _) => some "list"
  | .d (.tup _) => some "tuple"
  | .d (.scr _) => some "list"
  | .tup _ => some "tuple"
  | .loc k => match mu[k]? with
    | some (.lst _) => some "list"
    | some (.lstW _) => some "list"
    | some (.dk _) => some "dict"
    | _ => none
  | _ => none
@[simp] def fIsi : FC := fun mu ws Q => match ws with
  | [x, .ty n] => match tyName mu x with
    | some t => n ∈ ["int", "bool", "str", "tuple", "list"] ∧ Q (.d (.bl (isi t n))) mu
    | none => False
  | _ => False
theorem tyx_list {a : Addr} {vs : List V} (h : Rd H a (.lst vs)) : TyX K H (.ref a) (.type "list") := by
  rcases h with h | ⟨o, h⟩
  · exact .base (.lst h)
  · exact .base (.frz h)
theorem tyx_sql {a : Addr} {vs : List V} (h : SqL K H a vs) : TyX K H (.ref a) (.type "list") := by
  rcases h with h | ⟨o, its, n, h, h1, _⟩
  · exact tyx_list h
  · exact .kList h h1
theorem tyx_tup {a : Addr} {vs : List V} (h : SqT K H a vs) : TyX K H (.ref a) (.type "tuple") := by
  rcases h with (h | ⟨o, h⟩) | ⟨o, its, n, h, h1, _⟩
  · exact .base (.tup h)
  · exact .fTuple h
  · exact .kTuple h h1
theorem tyName_ok {x : W} {v : V} {t : String} (s : SRS K G B F H al mu) (r : RepW K F al x v) (e : tyName mu x = some t) : TyX K H v (.type t) ∧ t ∈ ["NoneType", "bool", "int", "str", "list", "tuple", "dict"] := by
  unfold tyName at e
  split at e
  · cases e; cases repNon r; exact ⟨.base .non, by decide⟩
  · cases e; cases repBl r; exact ⟨.base (.bl _), by decide⟩
  · cases e; cases repInt r; exact ⟨.base (.int _), by decide⟩
  · cases e; obtain ⟨rfl, _⟩ := repStr r; exact ⟨.base (.str _), by decide⟩
  · cases e
    cases r with
    | d r => cases r with
      | lst q z p => exact ⟨tyx_list (rdMono s.fz q), by decide⟩
  · cases e
    obtain ⟨a, vs, rfl, q, z, p⟩ := repTup r
    exact ⟨tyx_tup (sqtMono s.fz q), by decide⟩
  · cases e
    cases r with
    | d r => cases r with
      | scr q z => exact ⟨tyx_sql (sqlMono s.fz q), by decide⟩
  · cases e
    cases r with
    | tup q z p => exact ⟨tyx_tup (sqtMono s.fz q), by decide⟩
  · split at e
    · rename_i q
      cases e
      cases r with
      | loc ea =>
        obtain ⟨vs, h, z, p⟩ := s.lstAt q ea
        exact ⟨tyx_list (Rd.of h), by decide⟩
    · rename_i q
      cases e
      cases r with
      | loc ea =>
        obtain ⟨vs, h, z, p⟩ := s.lstWAt q ea
        exact ⟨tyx_list (Rd.of h), by decide⟩
    · rename_i q
      cases e
      cases r with
      | loc ea =>
        obtain ⟨o, _, _, h, c⟩ := s.at q ea
        cases c with
        | dk _ _ => exact ⟨.base (.dK h), by decide⟩
    · cases e
  · cases e
theorem cd_isi : CallD K (rIsi K) fIsi := fun G B F H al rh si mu ws vs Qd Q s r0 h q => by
  unfold fIsi at h
  split at h
  · rename_i n
    obtain ⟨v, u, rfl, r, r'⟩ := pair2 r0
    cases r' with
    | ty =>
      split at h
      · rename_i t e
        obtain ⟨ty, hm⟩ := tyName_ok s.s r e
        exact ⟨v, .ty n, .type t, .type n, _, rfl, .ty n, ty, kit_ty (isi_kit t hm n h.1), q F H al mu _ _ (Ext.refl _ _) s (.d (.bl _)) h.2⟩
      · exact h.elim
  · exact h.elim
end
section
variable {io : Type} {Y : io → Cx} {P : Program} {w : World} {K : KW} {mg : Str → Option Value} {base : Heap} {N : List Str} {k : Nat} {pos p : Pos} {a b c e e2 : Expr} {es : List Expr} {wa wb wc : WE} {ga : WA}
theorem ve_len (y : YOk Y P w K mg base N k) (hm : mg "len" = none) (ha : VA Y K [e] ga) (hg : ∀ j, Gl (Y j) "len" := by exact fun _ => rfl) (he : ∀ i, starEach [e] (Y i).env = (false, eval e (Y i).env) :: starEach [] (Y i).env := by exact fun _ => rfl) : VE Y K (.Call (.Name "len" p) [e] [] pos) (wCall fLen ga) :=
  ve_callB y (fun i => by rw [← y.hK i]; exact call_len) cd_len hm PySem.boot_len ha hg (by decide) (by decide) he
theorem ve_list (y : YOk Y P w K mg base N k) (o : Bool) (hm : mg "list" = none) (ha : VA Y K [e] ga) (hg : ∀ j, Gl (Y j) "list" := by exact fun _ => rfl) (he : ∀ i, starEach [e] (Y i).env = (false, eval e (Y i).env) :: starEach [] (Y i).env := by exact fun _ => rfl) : VE Y K (.Call (.Name "list" p) [e] [] pos) (wCall (fList o) ga) :=
  ve_callTy y (fun i => by rw [← y.hK i]; exact call_list_of) (cd_list o) hm (by decide +kernel) ha hg (by decide) (by decide) he
theorem ve_tuple (y : YOk Y P w K mg base N k) (hm : mg "tuple" = none) (ha : VA Y K [e] ga) (hg : ∀ j, Gl (Y j) "tuple" := by exact fun _ => rfl) (he : ∀ i, starEach [e] (Y i).env = (false, eval e (Y i).env) :: starEach [] (Y i).env := by exact fun _ => rfl) : VE Y K (.Call (.Name "tuple" p) [e] [] pos) (wCall fTuple ga) :=
  ve_callTy y (fun i => by rw [← y.hK i]; exact call_tuple_of) cd_tuple hm (by decide +kernel) ha hg (by decide) (by decide) he
theorem ve_sum (y : YOk Y P w K mg base N k) (hm : mg "sum" = none) (ha : VA Y K [e] ga) (hg : ∀ j, Gl (Y j) "sum" := by exact fun _ => rfl) (he : ∀ i, starEach [e] (Y i).env = (false, eval e (Y i).env) :: starEach [] (Y i).env := by exact fun _ => rfl) : VE Y K (.Call (.Name "sum" p) [e] [] pos) (wCall fSum ga) :=
  ve_callB y (fun i => by rw [← y.hK i]; exact cr_sum (y.calm i)) cd_sum hm (by decide +kernel) ha hg (by decide) (by decide) he
theorem ve_all (y : YOk Y P w K mg base N k) (hm : mg "all" = none) (ha : VA Y K [e] ga) (hg : ∀ j, Gl (Y j) "all" := by exact fun _ => rfl) (he : ∀ i, starEach [e] (Y i).env = (false, eval e (Y i).env) :: starEach [] (Y i).env := by exact fun _ => rfl) : VE Y K (.Call (.Name "all" p) [e] [] pos) (wCall (fAny true) ga) :=
  ve_callB y (fun i => by rw [← y.hK i]; exact cr_all (y.calm i)) cd_all hm (by decide +kernel) ha hg (by decide) (by decide) he
theorem ve_isi (y : YOk Y P w K mg base N k) (hm : mg "isinstance" = none) (ha : VA Y K [e, e2] ga) (hg : ∀ j, Gl (Y j) "isinstance" := by exact fun _ => rfl) (he : ∀ i, starEach [e, e2] (Y i).env = (false, eval e (Y i).env) :: starEach [e2] (Y i).env := by exact fun _ => rfl) (hpl : ∀ i, (backTo pos (starEach [e2] (Y i).env)).any (·.1) = false := by exact fun _ => rfl) : VE Y K (.Call (.Name "isinstance" p) [e, e2] [] pos) (wCall fIsi ga) :=
  ve_callB y (fun i => by rw [← y.hK i]; exact call_isi) cd_isi hm (by decide +kernel) ha hg (by decide) (by decide) he hpl
end

/-! ### methods of lists -/
@[simp] def isL (mu : Sto) : W → Bool
  | .d (.lst _) => true
  | .loc k => match mu[k]? with
    | some (.lst _) => true
    | some (.lstW _) => true
    | _ => false
  | _ => false
abbrev FM := Sto → W → List W → (W → Sto → Prop) → Prop
@[simp] def wBM (f : FM) (o : WE) (g : WA) : WE := fun rh mu Q => o rh mu fun x mu1 => isL mu1 x = true ∧ g rh mu1 fun ws mu2 => f mu2 x ws Q
def MtD (K : KW) (r : V → List V → Hp → VK → Prop) (f : FM) : Prop := ∀ (G B F H : Hp) (al : List Addr) (rh : Ev) (si : L2.St) (mu : Sto) (x : W) (vx : V) (ws : List W) (vs : List V) (Qd : W → Sto → Prop) (Q : VK), SR K G B F H al rh si mu → RepW K F al x vx → Paired (RepW K F al) ws vs → f mu x ws Qd →
  (∀ F' H' al' mu' w v, Ext F al F' al' → SR K G B F' H' al' rh si mu' → RepW K F' al' w v → Qd w mu' → Q v H') → r vx vs H Q
section
variable {K : KW} {G B F F' H H' : Hp} {al al' : List Addr} {mu mu' : Sto} {rh : Ev} {si : L2.St}
theorem isL_ok {x : W} {v : V} (s : SRS K G B F H al mu) (r : RepW K F al x v) (e : isL mu x = true) : tyV K "list" v H := by
  unfold isL at e
  split at e
  · cases r with
    | d r => cases r with
      | lst q z p => exact .inl ⟨rfl, _, .inl (rdMono s.fz q)⟩
  · split at e
    · rename_i q
      cases r with
      | loc ea =>
        obtain ⟨vs, h, z, p⟩ := s.lstAt q ea
        exact .inl ⟨rfl, _, SqL.of h⟩
    · rename_i q
      cases r with
      | loc ea =>
        obtain ⟨vs, h, z, p⟩ := s.lstWAt q ea
        exact .inl ⟨rfl, _, SqL.of h⟩
    · cases e
  · cases e
/-- a list again -/
@[simp] def mkL (ws : List W) : C := match asDs ws with
  | some xs => .lst xs
  | none => .lstW ws
theorem mkL_rep {ws : List W} {vs : List V} (z : vs.length ≤ sizeLine) (p : Paired (RepW K F al) ws vs) {a : Addr} : CRep K F al a (mkL ws) (.lst vs) := by
  unfold mkL
  cases q : asDs ws with
  | none => exact .lstW z p
  | some xs => exact .lst z (asDs_rep (.of p) q).p
/-- xs.append(y) -/
@[simp] def fApp : FM := fun mu x ws Q => match x, ws with
  | .loc k, [y] => match mu[k]? with
    | some (.lst xs) => match y with
      | .d d => xs.length < sizeLine ∧ Q (.d .non) (mu.set k (.lst (xs ++ [d])))
      | y => xs.length < sizeLine ∧ Q (.d .non) (mu.set k (mkL (xs.map .d ++ [y])))
    | some (.lstW us) => us.length < sizeLine ∧ Q (.d .non) (mu.set k (.lstW (us ++ [y])))
    | _ => False
  | _, _ => False
theorem md_app : MtD K rAppend fApp := fun G B F H al rh si mu x vx ws vs Qd Q s r rw_ h q => by
  unfold fApp at h
  split at h
  · rename_i k y
    obtain ⟨v, rfl, r'⟩ := pair1 rw_
    cases r with
    | loc ea =>
      rename_i a
      split at h
      · rename_i xs e
        obtain ⟨vs, hH, z, p⟩ := s.s.lstAt e ea
        have l := Paired.length p
        split at h
        · rename_i d
          refine ⟨a, vs, v, rfl, rfl, hH, by have := h.1; omega, q F _ al _ _ _ (Ext.refl _ _) (s.step (Ext.refl _ _) (s.s.put ea (.lst ?_ (pApp p (pOne ?_))))) (.d .non) h.2⟩
          · rw [List.length_append, List.length_singleton]; have := h.1; omega
          · cases r' with
            | d r' => exact r'
        · refine ⟨a, vs, v, rfl, rfl, hH, by have := h.1; omega, q F _ al _ _ _ (Ext.refl _ _) (s.step (Ext.refl _ _) (s.s.put ea (mkL_rep ?_ (pApp (pMapD p) (pOne r'))))) (.d .non) h.2⟩
          rw [List.length_append, List.length_singleton]; have := h.1; omega
      · rename_i us e
        obtain ⟨vs, hH, z, p⟩ := s.s.lstWAt e ea
        have l := Paired.length p
        refine ⟨a, vs, v, rfl, rfl, hH, by have := h.1; omega, q F _ al _ _ _ (Ext.refl _ _) (s.step (Ext.refl _ _) (s.s.put ea (.lstW ?_ (pApp p (pOne r'))))) (.d .non) h.2⟩
        rw [List.length_append, List.length_singleton]; have := h.1; omega
      · exact h.elim
  · exact h.elim
/-- xs.pop() -/
@[simp] def fPop : FM := fun mu x ws Q => match x, ws with
  | .loc k, [] => match mu[k]? with
    | some (.lst xs) => ∃ d, xs.getLast? = some d ∧ Q (.d d) (mu.set k (.lst xs.dropLast))
    | some (.lstW us) => ∃ u, us.getLast? = some u ∧ Q u (mu.set k (.lstW us.dropLast))
    | _ => False
  | _, _ => False
theorem md_pop : MtD K rPop fPop := fun G B F H al rh si mu x vx ws vs Qd Q s r rw_ h q => by
  unfold fPop at h
  split at h
  · rename_i k
    cases rw_
    cases r with
    | loc ea =>
      rename_i a
      split at h
      · rename_i xs e
        obtain ⟨d, e1, h⟩ := h
        obtain ⟨vs, hH, z, p⟩ := s.s.lstAt e ea
        rw [List.getLast?_eq_getElem?] at e1
        obtain ⟨v, e2, rv⟩ := pGetL p e1
        have l := Paired.length p
        refine ⟨a, vs, v, rfl, rfl, hH, by rw [← l]; exact e2, q F _ al _ _ _ (Ext.refl _ _) (s.step (Ext.refl _ _) (s.s.put ea (.lst ?_ (pDropLast p)))) (.d rv) h⟩
        rw [List.length_dropLast]; omega
      · rename_i us e
        obtain ⟨d, e1, h⟩ := h
        obtain ⟨vs, hH, z, p⟩ := s.s.lstWAt e ea
        rw [List.getLast?_eq_getElem?] at e1
        obtain ⟨v, e2, rv⟩ := pGetL p e1
        have l := Paired.length p
        refine ⟨a, vs, v, rfl, rfl, hH, by rw [← l]; exact e2, q F _ al _ _ _ (Ext.refl _ _) (s.step (Ext.refl _ _) (s.s.put ea (.lstW ?_ (pDropLast p)))) rv h⟩
        rw [List.length_dropLast]; omega
      · exact h.elim
  · exact h.elim
end
section
variable {io : Type} {Y : io → Cx} {P : Program} {w : World} {K : KW} {mg : Str → Option Value} {base : Heap} {N : List Str} {k : Nat} {cpos apos : Pos} {o e : Expr} {es : List Expr} {wo : WE} {ga : WA} {id : String} {name : Str} {r : V → List V → Hp → VK → Prop} {f : FM}
theorem ve_bm (y : YOk Y P w K mg base N k) (pa : PlainAttrs "list") (slot : Slot "list" name id) (hty : typeOf (.builtin id) = pure (.type "method_descriptor")) (hm : ∀ i, MtR (Y i) id r) (hd : MtD K r f) (ho : VE Y K o wo) (ha : VA Y K (e :: es) ga)
    (hbase : ∀ i, attributeBase o name (Y i).env (eval o (Y i).env) = eval o (Y i).env := by exact fun _ => rfl)
    (hfew : ∀ i, ((backTo cpos (starEach (e :: es) (Y i).env)).all (fun x => !x.1) && (backToKw cpos (keywordEach [] (Y i).env)).all (fun x => x.1.isSome)
      && decide ((e :: es).length + ([] : List Keyword).length + (if ([] : List Keyword).isEmpty then 0 else 1) < 30)) = true := by exact fun _ => rfl)
    (hline : (apos.endLine == cpos.line) = true := by rfl) (hs : ∀ i, starEach (e :: es) (Y i).env = (false, eval e (Y i).env) :: starEach es (Y i).env := by exact fun _ => rfl) (hplain : ∀ i, (backTo cpos (starEach es (Y i).env)).any (·.1) = false := by exact fun _ => rfl) :
    VE Y K (.Call (.Attribute o name apos) (e :: es) [] cpos) (wBM f wo ga) := by
  obtain ⟨t, p, d⟩ := ho
  obtain ⟨t2, p2, d2⟩ := ha
  refine ⟨tBM K "list" r t t2, fun i => by rw [← y.hK i]; exact pe_bm pa slot hty (hm i) (p i) (p2 i) (hbase i) (hfew i) hline (hs i) (hplain i), fun G B F H al rh si mu Qd Q s h q => ?_⟩
  refine d G B F H al rh si mu _ _ s h fun F1 H1 al1 mu1 x vx e1 s1 r1 h1 => ⟨isL_ok s1.s r1 h1.1, ?_⟩
  refine d2 G B F1 H1 al1 rh si mu1 _ _ s1 h1.2 fun F2 H2 al2 mu2 ws vs e2 s2 r2 h2 => ?_
  exact hd G B F2 H2 al2 rh si mu2 x vx ws vs Qd Q s2 (r1.mono e2) r2 h2 fun F3 H3 al3 mu3 z vz e3 => q F3 H3 al3 mu3 z vz ((e1.trans e2).trans e3)
theorem ve_bm0 (y : YOk Y P w K mg base N k) (pa : PlainAttrs "list") (slot : Slot "list" name id) (hty : typeOf (.builtin id) = pure (.type "method_descriptor")) (hm : ∀ i, MtR (Y i) id r) (hd : MtD K r f) (ho : VE Y K o wo)
    (hbase : ∀ i, attributeBase o name (Y i).env (eval o (Y i).env) = eval o (Y i).env := by exact fun _ => rfl) (hline : (apos.endLine == cpos.line) = true := by rfl) : VE Y K (.Call (.Attribute o name apos) [] [] cpos) (wBM f wo wNil) := by
  obtain ⟨t, p, d⟩ := ho
  refine ⟨tBM0 K "list" r t, fun i => by rw [← y.hK i]; exact pe_bm0 pa slot hty (hm i) (p i) (hbase i) hline, fun G B F H al rh si mu Qd Q s h q => ?_⟩
  refine d G B F H al rh si mu _ _ s h fun F1 H1 al1 mu1 x vx e1 s1 r1 h1 => ⟨isL_ok s1.s r1 h1.1, ?_⟩
  exact hd G B F1 H1 al1 rh si mu1 x vx [] [] Qd Q s1 r1 .nil h1.2 fun F3 H3 al3 mu3 z vz e3 => q F3 H3 al3 mu3 z vz (e1.trans e3)
theorem ve_append (y : YOk Y P w K mg base N k) (ho : VE Y K o wo) (ha : VA Y K [e] ga)
    (hbase : ∀ i, attributeBase o "append" (Y i).env (eval o (Y i).env) = eval o (Y i).env := by exact fun _ => rfl)
    (hfew : ∀ i, ((backTo cpos (starEach [e] (Y i).env)).all (fun x => !x.1) && (backToKw cpos (keywordEach [] (Y i).env)).all (fun x => x.1.isSome)
      && decide ([e].length + ([] : List Keyword).length + (if ([] : List Keyword).isEmpty then 0 else 1) < 30)) = true := by exact fun _ => rfl)
    (hline : (apos.endLine == cpos.line) = true := by rfl) (hs : ∀ i, starEach [e] (Y i).env = (false, eval e (Y i).env) :: starEach [] (Y i).env := by exact fun _ => rfl) :
    VE Y K (.Call (.Attribute o "append" apos) [e] [] cpos) (wBM fApp wo ga) := ve_bm y PySem.F.plainAttrs_list PySem.F.slot_list_append PySem.F.type_list_append (fun _ => mt_append) md_app ho ha hbase hfew hline hs
theorem ve_pop (y : YOk Y P w K mg base N k) (ho : VE Y K o wo) (hbase : ∀ i, attributeBase o "pop" (Y i).env (eval o (Y i).env) = eval o (Y i).env := by exact fun _ => rfl) (hline : (apos.endLine == cpos.line) = true := by rfl) :
    VE Y K (.Call (.Attribute o "pop" apos) [] [] cpos) (wBM fPop wo wNil) := ve_bm0 y PySem.F.plainAttrs_list PySem.F.slot_list_pop PySem.F.type_list_pop (fun _ => mt_pop) md_pop ho hbase hline
end
end VL
namespace VL
open PySem PySem.Spec PyProof.Rows L2

abbrev un (X : Cx) : Unit → Cx := fun _ => X
def VS (X : Cx) (K : KW) (st : Stmt) (f : WS) : Prop := ∃ t, PS X st t ∧ DenS K t f
def VSs (X : Cx) (K : KW) (sts : List Stmt) (f : WS) : Prop := ∃ t, PSs X sts t ∧ DenS K t f

section
variable {X : Cx} {P : Program} {w : World} {K : KW} {mg : Str → Option Value} {base : Heap} {N : List Str} {k : Nat} {st : Stmt} {rest : List Stmt} {f g : WS} {e : Expr} {we : WE} {pos : Pos}
/-! ### blocks -/
@[simp] def wNext : WS := fun V rh mu => V.nx rh mu
@[simp] def wSeq (f g : WS) : WS := fun V rh mu => f { V with nx := g V } rh mu
theorem dens_next : DenS K tNext wNext := fun G B F H al rh si mu V1 D1 s h b => b.nx F H al rh si mu (Ext.refl _ _) s h
theorem vss_nil : VSs X K [] wNext := ⟨_, pss_nil, dens_next⟩
theorem vss_one (h : VS X K st f) : VSs X K [st] f := by
  obtain ⟨t, p, d⟩ := h
  exact ⟨t, pss_one p, d⟩
theorem vss_cons (h : VS X K st f) (hr : VSs X K rest g) : VSs X K (st :: rest) (wSeq f g) := by
  obtain ⟨t, p, d⟩ := h
  obtain ⟨u, p', d'⟩ := hr
  refine ⟨_, pss_cons p p', fun G B F H al rh si mu V1 D1 s h b => ?_⟩
  refine d G B F H al rh si mu _ _ s h ⟨fun F' H' al' rh' si' mu' x s' h' => ?_, b.rt, b.bk, b.ct⟩
  exact d' G B F' H' al' rh' si' mu' V1 D1 s' h' (b.mono x)
@[simp] def wDrop (a : WE) : WS := fun V rh mu => a rh mu fun _ mu1 => V.nx rh mu1
theorem vs_expr (he : VE (un X) K e we) (hs : swapsWith e none pos.line X.env = pure false := by rfl) : VS X K (.Expr e pos) (wDrop we) := by
  obtain ⟨t, p, d⟩ := he
  refine ⟨_, ps_expr (p ()) hs, fun G B F H al rh si mu V1 D1 s h b => ?_⟩
  exact d G B F H al rh si mu _ _ s h fun F1 H1 al1 mu1 x vx e1 s1 r1 h1 => b.nx F1 H1 al1 rh si mu1 e1 s1 h1
@[simp] def wRet (a : WE) : WS := fun V rh mu => a rh mu V.rt
theorem vs_ret (he : VE (un X) K e we) : VS X K (.Return (some e) pos) (wRet we) := by
  obtain ⟨t, p, d⟩ := he
  refine ⟨_, ps_ret (p ()), fun G B F H al rh si mu V1 D1 s h b => ?_⟩
  exact d G B F H al rh si mu _ _ s h fun F1 H1 al1 mu1 x vx e1 s1 r1 h1 => b.rt F1 H1 al1 mu1 x vx e1 s1.s r1 h1
@[simp] def wIfS (c : WT) (f g : WS) : WS := fun V rh mu => c rh mu fun b mu1 => if b = true then f V rh mu1 else g V rh mu1
theorem vs_if {c : Expr} {a b : List Stmt} {fc : WT} (hc : VT (un X) K c fc) (ha : VSs X K a f) (hb : VSs X K b g) : VS X K (.If c a b pos) (wIfS fc f g) := by
  obtain ⟨t, p, d⟩ := hc
  obtain ⟨t1, p1, d1⟩ := ha
  obtain ⟨t2, p2, d2⟩ := hb
  refine ⟨_, ps_if (p ()) p1 p2, fun G B F H al rh si mu V1 D1 s h b => ?_⟩
  refine d G B F H al rh si mu _ _ s h fun F1 H1 al1 mu1 x e1 s1 h1 => ?_
  cases x with
  | true => exact iteT (d1 G B F1 H1 al1 rh si mu1 V1 D1 s1 (by simpa using h1) (b.mono e1))
  | false => exact iteF (d2 G B F1 H1 al1 rh si mu1 V1 D1 s1 (by simpa using h1) (b.mono e1))

/-! ### targets -/
abbrev WG := W → Ev → Sto → (Ev → Sto → Prop) → Prop
abbrev WGs := List W → Ev → Sto → (Ev → Sto → Prop) → Prop
def DenG (K : KW) (t : TG) (f : WG) : Prop := ∀ (G B F H : Hp) (al : List Addr) (rh : Ev) (si : L2.St) (mu : Sto) (x : W) (v : V) (Qd : Ev → Sto → Prop) (Q : L2.St → Hp → Prop), SR K G B F H al rh si mu → RepW K F al x v → f x rh mu Qd →
  (∀ F' H' al' rh' si' mu', Ext F al F' al' → SR K G B F' H' al' rh' si' mu' → Qd rh' mu' → Q si' H') → t v si H Q
def DenGs (K : KW) (t : TGs) (f : WGs) : Prop := ∀ (G B F H : Hp) (al : List Addr) (rh : Ev) (si : L2.St) (mu : Sto) (x : List W) (v : List V) (Qd : Ev → Sto → Prop) (Q : L2.St → Hp → Prop), SR K G B F H al rh si mu → Paired (RepW K F al) x v → f x rh mu Qd →
  (∀ F' H' al' rh' si' mu', Ext F al F' al' → SR K G B F' H' al' rh' si' mu' → Qd rh' mu' → Q si' H') → t v si H Q
/-- it stores to the slots vs alone -/
def GKeep (vs : List Nat) (t : TG) : Prop := ∀ v σ H Q Q', (∀ σ' H', wipe σ' vs = wipe σ vs → Q σ' H' → Q' σ' H') → t v σ H Q → t v σ H Q'
def GKeeps (vs : List Nat) (t : TGs) : Prop := ∀ v σ H Q Q', (∀ σ' H', wipe σ' vs = wipe σ vs → Q σ' H' → Q' σ' H') → t v σ H Q → t v σ H Q'
def VG {io : Type} (Y : io → Cx) (K : KW) (tg : Expr) (f : WG) : Prop := ∃ t, (∀ i, PG (Y i) tg t) ∧ DenG K t f
def VK {io : Type} (Y : io → Cx) (K : KW) (tg : Expr) (f : WG) (vs : List Nat) : Prop := ∃ t, (∀ i, PG (Y i) tg t) ∧ DenG K t f ∧ GKeep vs t
def VKs {io : Type} (Y : io → Cx) (K : KW) (tg : List Expr) (f : WGs) (vs : List Nat) : Prop := ∃ t, (∀ i, PGs (Y i) tg t) ∧ DenGs K t f ∧ GKeeps vs t
theorem VK.vg {io : Type} {Y : io → Cx} {K : KW} {tg : Expr} {f : WG} {vs : List Nat} (h : VK Y K tg f vs) : VG Y K tg f := by
  obtain ⟨t, a, b, _⟩ := h
  exact ⟨t, a, b⟩
@[simp] def wgName (i : Nat) : WG := fun x rh mu Q => Q (rh.set i (some x)) mu
theorem wipe_set (σ : L2.St) (i : Nat) (x : Option V) : ∀ vs : List Nat, i ∈ vs → wipe (σ.set i x) vs = wipe σ vs
  | [], h => by cases h
  | v :: vs, h => by
    unfold wipe
    by_cases q : i = v
    · subst q
      have : ∀ us : List Nat, (wipe (σ.set i x) us).set i none = (wipe σ us).set i none := fun us => by
        induction us with
        | nil => show (σ.set i x).set i none = σ.set i none; rw [List.set_set]
        | cons u us ih =>
          unfold wipe
          by_cases z : u = i
          · subst z; rw [List.set_set, List.set_set, ih]
          · rw [List.set_comm _ _ z, List.set_comm _ _ z, ih]
      exact this vs
    · rw [wipe_set σ i x vs (by rcases List.mem_cons.mp h with z | z; exact absurd z q; exact z)]
section
variable {io : Type} {Y : io → Cx}
theorem den_gName (i : Nat) : DenG K (gName i) (wgName i) := fun G B F H al rh si mu x v Qd Q s r h q => q F H al _ _ mu (Ext.refl _ _) (s.set r) h
theorem vk_name (y : YOk Y P w K mg base N k) (i : Nat) {x : Str} (vs : List Nat) (hi : N[i]? = some x := by rfl) (hx : ∀ j, Loc (Y j).env.scope x := by first | exact fun _ => Or.inl rfl | exact fun _ => Or.inr rfl) (hf : ∀ j, (Y j).fn x = true ∨ (Y j).env.scope.names.lookup x = some .local := by first | exact fun _ => Or.inl rfl | exact fun _ => Or.inr rfl) (hv : i ∈ vs := by decide) :
    VK Y K (.Name x pos) (wgName i) vs :=
  ⟨_, fun j => pg_name (by rw [y.hN j]; exact y.nd) (by rw [y.hN j]; exact hi) (hx j) (hf j), den_gName i, fun v σ H Q Q' k h => k _ _ (wipe_set σ i _ vs hv) h⟩
@[simp] def wgNil : WGs := fun xs rh mu Q => match xs with
  | [] => Q rh mu
  | _ :: _ => False
@[simp] def wgCons (f : WG) (g : WGs) : WGs := fun xs rh mu Q => match xs with
  | x :: r => f x rh mu fun rh' mu' => g r rh' mu' Q
  | [] => False
theorem den_gNil : DenGs K gNil wgNil := fun G B F H al rh si mu x v Qd Q s r h q => by
  cases r with
  | nil => exact ⟨rfl, q F H al rh si mu (Ext.refl _ _) s h⟩
  | cons _ _ => exact h.elim
theorem den_gCons {t : TG} {u : TGs} {f : WG} {g : WGs} (d : DenG K t f) (d2 : DenGs K u g) : DenGs K (gCons t u) (wgCons f g) := fun G B F H al rh si mu x v Qd Q s r h q => by
  unfold wgCons at h
  split at h
  · cases r with
    | cons r rr =>
      refine ⟨_, _, rfl, d G B F H al rh si mu _ _ _ _ s r h fun F1 H1 al1 rh1 si1 mu1 e1 s1 h1 => ?_⟩
      exact d2 G B F1 H1 al1 rh1 si1 mu1 _ _ _ _ s1 (Paired.mapP rr fun _ _ z => z.mono e1) h1 fun F2 H2 al2 rh2 si2 mu2 e2 => q F2 H2 al2 rh2 si2 mu2 (e1.trans e2)
  · exact h.elim
theorem vks_nil (vs : List Nat) : VKs Y K [] wgNil vs := ⟨_, fun _ => pgs_nil, den_gNil, fun v σ H Q Q' k h => ⟨h.1, k _ _ rfl h.2⟩⟩
theorem vks_cons {es : List Expr} {fg : WG} {fgs : WGs} {vs : List Nat} (h1 : VK Y K e fg vs) (h2 : VKs Y K es fgs vs) (hs : ∀ i, (assignEach (e :: es) (Y i).env).map (·.2) = assign e (Y i).env :: (assignEach es (Y i).env).map (·.2) := by exact fun _ => rfl) : VKs Y K (e :: es) (wgCons fg fgs) vs := by
  obtain ⟨t, p, d, kp⟩ := h1
  obtain ⟨t2, p2, d2, kp2⟩ := h2
  refine ⟨_, fun i => pgs_cons (p i) (p2 i) (hs i), den_gCons d d2, fun v σ H Q Q' k h => ?_⟩
  obtain ⟨x, r, rfl, h⟩ := h
  exact ⟨x, r, rfl, kp x σ H _ _ (fun σ1 H1 w1 h1 => kp2 r σ1 H1 Q Q' (fun σ' H' w2 q => k σ' H' (w2.trans w1) q) h1) h⟩
/-- (a, b, ..) = a tuple -/
@[simp] def wgTup (n : Nat) (g : WGs) : WG := fun x rh mu Q => match x with
  | .d (.tup xs) => xs.length = n ∧ g (xs.map .d) rh mu Q
  | .tup ws => ws.length = n ∧ g ws rh mu Q
  | _ => False
theorem den_gTup {t : TGs} {g : WGs} (n : Nat) (d : DenGs K t g) : DenG K (gTup K n t) (wgTup n g) := fun G B F H al rh si mu x v Qd Q s r h q => by
  unfold wgTup at h
  split at h
  · obtain ⟨a, vs, rfl, hs, z, p⟩ := repTup r
    exact ⟨a, vs, rfl, sqtMono s.s.fz hs, by rw [← Paired.length p]; exact h.1, d G B F H al rh si mu _ _ _ _ s (pMapD p) h.2 q⟩
  · cases r with
    | tup hs z p => exact ⟨_, _, rfl, sqtMono s.s.fz hs, by rw [← Paired.length p.p]; exact h.1, d G B F H al rh si mu _ _ _ _ s p.p h.2 q⟩
  · exact h.elim
theorem vk_tup (y : YOk Y P w K mg base N k) {es : List Expr} {kk : Nat} {g : WGs} (n : Nat) {vs : List Nat} (h : VKs Y K es g vs) (hn : ∀ i, (assignEach es (Y i).env).length = n := by exact fun _ => rfl) (hst : ∀ i, (assignEach es (Y i).env).findIdx? (·.1) = none := by exact fun _ => rfl) : VK Y K (.Tuple es kk pos) (wgTup n g) vs := by
  obtain ⟨t, p, d, kp⟩ := h
  refine ⟨gTup K n t, fun i => by rw [← y.hK i]; exact pg_tup (y.calm i) (p i) (hn i) (hst i), den_gTup n d, fun v σ H Q Q' k h => ?_⟩
  obtain ⟨a, xs, e, hs, l, h⟩ := h
  exact ⟨a, xs, e, hs, l, kp xs σ H Q Q' k h⟩
/-- o[i] = .. of a list -/
abbrev FSet := Sto → W → W → W → (Sto → Prop) → Prop
def SetD (K : KW) (t : TSet) (f : FSet) : Prop := ∀ (G B F H : Hp) (al : List Addr) (rh : Ev) (si : L2.St) (mu : Sto) (o i x : W) (vo vi v : V) (Qd : Sto → Prop) (Q : Hp → Prop), SR K G B F H al rh si mu → RepW K F al o vo → RepW K F al i vi → RepW K F al x v → f mu o i x Qd →
  (∀ F' H' al' mu', Ext F al F' al' → SR K G B F' H' al' rh si mu' → Qd mu' → Q H') → t vo vi v H Q
@[simp] def fSetL : FSet := fun mu o i x Q => match o, i with
  | .loc k, .d (.int n) => match mu[k]? with
    | some (.lst xs) => ∃ j, ixN xs.length n = some j ∧ match x with
      | .d d => Q (mu.set k (.lst (xs.set j d)))
      | x => Q (mu.set k (mkL ((xs.map .d).set j x)))
    | some (.lstW ws) => ∃ j, ixN ws.length n = some j ∧ Q (mu.set k (.lstW (ws.set j x)))
    | _ => False
  | _, _ => False
theorem sd_list : SetD K rSetL fSetL := fun G B F H al rh si mu o i x vo vi v Qd Q s ro ri rx h q => by
  unfold fSetL at h
  split at h
  · rename_i k n
    cases repInt ri
    cases ro with
    | loc ea =>
      rename_i a
      split at h
      · rename_i xs e
        obtain ⟨j, e1, h⟩ := h
        obtain ⟨vs, hH, z, p⟩ := s.s.lstAt e ea
        have l := Paired.length p
        split at h
        · rename_i d
          have rd : RepD K F d v := by cases rx with | d r => exact r
          exact ⟨a, vs, n, j, rfl, rfl, hH, by rw [← l]; exact e1, q F _ al _ (Ext.refl _ _) (s.step (Ext.refl _ _) (s.s.put ea (.lst (by rw [List.length_set]; exact z) (pSet rd j p)))) h⟩
        · exact ⟨a, vs, n, j, rfl, rfl, hH, by rw [← l]; exact e1, q F _ al _ (Ext.refl _ _) (s.step (Ext.refl _ _) (s.s.put ea (mkL_rep (by rw [List.length_set]; exact z) (pSet rx j (pMapD p))))) h⟩
      · rename_i ws e
        obtain ⟨j, e1, h⟩ := h
        obtain ⟨vs, hH, z, p⟩ := s.s.lstWAt e ea
        have l := Paired.length p
        exact ⟨a, vs, n, j, rfl, rfl, hH, by rw [← l]; exact e1, q F _ al _ (Ext.refl _ _) (s.step (Ext.refl _ _) (s.s.put ea (.lstW (by rw [List.length_set]; exact z) (pSet rx j p)))) h⟩
      · exact h.elim
  · exact h.elim
@[simp] def wgSub (f : FSet) (o i : WE) : WG := fun x rh mu Q => o rh mu fun ov mu1 => i rh mu1 fun iv mu2 => f mu2 ov iv x fun mu3 => Q rh mu3
theorem vg_sub {o i : Expr} {wo wi : WE} {t : TSet} {f : FSet} (ho : VE Y K o wo) (hi : VE Y K i wi) (hs : ∀ j, PSet (Y j) t) (hd : SetD K t f)
    (ha : ∀ j v, assign (.Subscript o i pos) (Y j).env v = (do
      let ov ← holding [v] (eval o (Y j).env)
      let iv ← holding [v, ov] (eval i (Y j).env)
      standAt pos
      holding [v, ov, iv] (setItem ov iv v)
      release [v, ov, iv] []) := by exact fun _ _ => rfl) : VG Y K (.Subscript o i pos) (wgSub f wo wi) := by
  obtain ⟨t1, p1, d1⟩ := ho
  obtain ⟨t2, p2, d2⟩ := hi
  refine ⟨_, fun j => pg_sub (p1 j) (p2 j) (hs j) (ha j), fun G B F H al rh si mu x v Qd Q s r h q => ?_⟩
  refine d1 G B F H al rh si mu _ _ s h fun F1 H1 al1 mu1 ov vo e1 s1 r1 h1 => ?_
  refine d2 G B F1 H1 al1 rh si mu1 _ _ s1 h1 fun F2 H2 al2 mu2 iv vi e2 s2 r2 h2 => ?_
  exact hd G B F2 H2 al2 rh si mu2 ov iv x vo vi v _ _ s2 (r1.mono e2) r2 (r.mono (e1.trans e2)) h2 fun F3 H3 al3 mu3 e3 s3 h3 => q F3 H3 al3 rh si mu3 ((e1.trans e2).trans e3) s3 h3
theorem vg_subL {o i : Expr} {wo wi : WE} (ho : VE Y K o wo) (hi : VE Y K i wi)
    (ha : ∀ j v, assign (.Subscript o i pos) (Y j).env v = (do
      let ov ← holding [v] (eval o (Y j).env)
      let iv ← holding [v, ov] (eval i (Y j).env)
      standAt pos
      holding [v, ov, iv] (setItem ov iv v)
      release [v, ov, iv] []) := by exact fun _ _ => rfl) : VG Y K (.Subscript o i pos) (wgSub fSetL wo wi) := vg_sub ho hi (fun _ => set_list) sd_list ha
end

/-! ### assignments -/
@[simp] def wAsg (a : WE) (g : WG) : WS := fun V rh mu => a rh mu fun x mu1 => g x rh mu1 V.nx
theorem den_asg {te : TE} {g : TG} {fg : WG} (d : Den K te we) (d2 : DenG K g fg) : DenS K (tAsg te g) (wAsg we fg) := fun G B F H al rh si mu V1 D1 s h b => by
  refine d G B F H al rh si mu _ _ s h fun F1 H1 al1 mu1 x vx e1 s1 r1 h1 => ?_
  exact d2 G B F1 H1 al1 rh si mu1 x vx _ _ s1 r1 h1 fun F2 H2 al2 rh2 si2 mu2 e2 s2 h2 => b.nx F2 H2 al2 rh2 si2 mu2 (e1.trans e2) s2 h2
theorem vs_set (y : YOk (un X) P w K mg base N k) (i : Nat) {x : Str} {pos' : Pos} (he : VE (un X) K e we) (hi : N[i]? = some x := by rfl) (hx : Loc X.env.scope x := by first | exact Or.inl rfl | exact Or.inr rfl) (hs : swapsWith e (some (.Name x pos')) pos.line X.env = pure false := by rfl)
    (hf : X.fn x = true ∨ X.env.scope.names.lookup x = some .local := by first | exact .inl rfl | exact .inr rfl) : VS X K (.Assign [.Name x pos'] e pos) (wAsg we (wgName i)) := by
  obtain ⟨t, p, d⟩ := he
  exact ⟨_, ps_set (by have q := y.hN (); show X.N.Nodup; rw [show X.N = N from q]; exact y.nd) (by have q := y.hN (); rw [show X.N = N from q]; exact hi) hx (p ()) hs hf, den_asg d (den_gName i)⟩
theorem vs_asg {tg : Expr} {fg : WG} (he : VE (un X) K e we) (hg : VG (un X) K tg fg) (hs : swapsWithSole [tg] e pos.line X.env = pure false := by rfl) (hw : swappedStores [tg] e X.env = pure none := by rfl)
    (h1 : (assignEach [tg] X.env).map (·.2) = [assign tg X.env] := by rfl) : VS X K (.Assign [tg] e pos) (wAsg we fg) := by
  obtain ⟨t, p, d⟩ := he
  obtain ⟨t2, p2, d2⟩ := hg
  exact ⟨_, ps_asg (p ()) (p2 ()) hs hw h1, den_asg d d2⟩
/-- x op= e -/
@[simp] def wAug (f : F2) (i : Nat) (a : WE) : WS := fun V rh mu => wVar i rh mu fun x _ => a rh mu fun y mu1 => f mu1 x y fun z mu2 => V.nx (rh.set i (some z)) mu2
theorem vs_aug (y : YOk (un X) P w K mg base N k) (i : Nat) {x : Str} {op : Operator} {ti : TIp} {f : F2} {pos' : Pos} (he : VE (un X) K e we) (ho : PIp X op ti) (hd : OpD K ti f) (hi : N[i]? = some x := by rfl) (hx : Loc X.env.scope x := by first | exact Or.inl rfl | exact Or.inr rfl)
    (hf : X.fn x = true ∨ X.env.scope.names.lookup x = some .local := by first | exact .inl rfl | exact .inr rfl) : VS X K (.AugAssign (.Name x pos') op e pos) (wAug f i we) := by
  obtain ⟨t, p, d⟩ := he
  have q := y.hN ()
  refine ⟨_, ps_aug (by rw [show X.N = N from q]; exact y.nd) (by rw [show X.N = N from q]; exact hi) hx (p ()) ho hf, fun G B F H al rh si mu V1 D1 s h b => ?_⟩
  unfold wAug wVar at h
  split at h
  · rename_i w0 e0
    obtain ⟨v, e1, r⟩ := s.env i w0 e0
    refine ⟨v, e1, d G B F H al rh si mu _ _ s h fun F1 H1 al1 mu1 z vz x1 s1 r1 h1 => ?_⟩
    exact hd G B F1 H1 al1 rh si mu1 w0 z v vz _ _ s1 (r.mono x1) r1 h1 fun F2 H2 al2 mu2 u vu x2 s2 r2 h2 => b.nx F2 H2 al2 _ _ mu2 (x1.trans x2) (s2.set r2) h2
  · exact h.elim
theorem vs_augAdd (y : YOk (un X) P w K mg base N k) (i : Nat) {x : Str} {pos' : Pos} (he : VE (un X) K e we) (hi : N[i]? = some x := by rfl) (hx : Loc X.env.scope x := by first | exact Or.inl rfl | exact Or.inr rfl)
    (hf : X.fn x = true ∨ X.env.scope.names.lookup x = some .local := by first | exact .inl rfl | exact .inr rfl) : VS X K (.AugAssign (.Name x pos') .Add e pos) (wAug (fI0 fun a b => a + b) i we) := vs_aug y i he ip_add opd_I0 hi hx hf
/-! ### while -/
/-! ### what a loop walks: its items, and what must hold at each turn -/
abbrev WI := Ev → Sto → (List W → (Sto → Prop) → Sto → Prop) → Prop
structure ItD (K : KW) (F : Hp) (al : List Addr) (J : It) (items : List W) (chk : Sto → Prop) : Prop where
  sz : items.length ≤ sizeLine
  go : ∀ (i : Nat) (x : W) G B F' H al' mu, Ext F al F' al' → SRS K G B F' H al' mu → chk mu → items[i]? = some x → J.go i H
  yld : ∀ (i : Nat) (x : W) G B F' H al' mu v H', Ext F al F' al' → SRS K G B F' H al' mu → chk mu → items[i]? = some x → J.yld i H v H' → ∃ F2, Ext F' al' F2 al' ∧ SRS K G B F2 H' al' mu ∧ RepW K F2 al' x v
  stop : ∀ G B F' H al' mu, Ext F al F' al' → SRS K G B F' H al' mu → chk mu → J.stop items.length H
def DenI (K : KW) (t : TI) (f : WI) : Prop := ∀ (G B F H : Hp) (al : List Addr) (rh : Ev) (si : L2.St) (mu : Sto) (Qd : List W → (Sto → Prop) → Sto → Prop) (R : It → Hp → Prop), SR K G B F H al rh si mu → f rh mu Qd →
  (∀ F' H' al' mu' J items chk, Ext F al F' al' → SR K G B F' H' al' rh si mu' → ItD K F' al' J items chk → Qd items chk mu' → R J H') → t si H R
def VI {io : Type} (Y : io → Cx) (K : KW) (tg e : Expr) (f : WI) : Prop := ∃ t, (∀ i, PI (Y i) tg e t) ∧ DenI K t f
/-- the turns -/
@[simp] def forL (chk : Sto → Prop) (g : WG) (b : WS) (V : EV) : List W → Ev → Sto → Prop
  | [], rh, mu => chk mu ∧ V.nx rh mu
  | x :: xs, rh, mu => chk mu ∧ g x rh mu fun rh' mu' => b { V with nx := forL chk g b V xs, ct := forL chk g b V xs, bk := V.nx } rh' mu'
@[simp] def wFor (it : WI) (g : WG) (b : WS) : WS := fun V rh mu => it rh mu fun items chk mu1 => forL chk g b V items rh mu1
theorem vs_for {tg iter : Expr} {body : List Stmt} {fi : WI} {fg : WG} {vs : List Nat} (hp : PassesOwn (model X.prog X.w) X.A X.env X.xe) (hc : X.calm = true) (hi : VI (un X) K tg iter fi) (hg : VK (un X) K tg fg vs) (hb : VSs X K body f)
    (hs : ∀ x, foldedSetIterable iter X.env x = pure x := by intro _; rfl) : VS X K (.For tg iter body [] pos) (wFor fi fg f) := by
  obtain ⟨t, p, d⟩ := hi
  obtain ⟨t2, p2, d2, _⟩ := hg
  obtain ⟨u, p', d'⟩ := hb
  refine ⟨_, ps_for hp hc (p ()) (p2 ()) p' hs, fun G B F H al rh si mu V1 D1 s h b => ?_⟩
  refine d G B F H al rh si mu _ _ s h fun F0 H0 al0 mu0 J items chk e0 s0 it h0 => ?_
  refine ⟨fun i m σ H1 => m = items.length - i ∧ i ≤ items.length ∧ ∃ F1 al1 rh1 mu1, Ext F0 al0 F1 al1 ∧ SR K G B F1 H1 al1 rh1 σ mu1 ∧ forL chk fg f V1 (items.drop i) rh1 mu1, ⟨_, rfl, Nat.zero_le _, F0, al0, rh, mu0, Ext.refl _ _, s0, h0⟩, ?_⟩
  rintro i m σ H1 ⟨rfl, hi, F1, al1, rh1, mu1, e1, s1, h1⟩
  by_cases hlt : i < items.length
  · have ed : items.drop i = items[i] :: items.drop (i + 1) := List.drop_eq_getElem_cons hlt
    rw [ed] at h1
    have ei : items[i]? = some items[i] := by simp [hlt]
    obtain ⟨hchk, h1⟩ := h1
    refine .inr ⟨it.go i _ G B F1 H1 al1 mu1 e1 s1.s hchk ei, fun σ' H' => i + 1 ≤ items.length ∧ ∃ F1 al1 rh1 mu1, Ext F0 al0 F1 al1 ∧ SR K G B F1 H' al1 rh1 σ' mu1 ∧ forL chk fg f V1 (items.drop (i + 1)) rh1 mu1, fun σ' H' z => ⟨items.length - (i + 1), by omega, rfl, z.1, z.2⟩, fun x H' y => ?_⟩
    obtain ⟨F2, e2, s2, r2⟩ := it.yld i _ G B F1 H1 al1 mu1 x H' e1 s1.s hchk ei y
    refine d2 G B F2 H' al1 rh1 σ mu1 _ _ _ _ (s1.step e2 s2) r2 h1 fun F3 H3 al3 rh3 si3 mu3 e3 s3 h3 => ?_
    have ex := (e1.trans e2).trans e3
    have again : ∀ F' H' al' rh' si' mu', Ext F3 al3 F' al' → SR K G B F' H' al' rh' si' mu' → forL chk fg f V1 (items.drop (i + 1)) rh' mu' → i + 1 ≤ items.length ∧ ∃ F1 al1 rh1 mu1, Ext F0 al0 F1 al1 ∧ SR K G B F1 H' al1 rh1 si' mu1 ∧ forL chk fg f V1 (items.drop (i + 1)) rh1 mu1 :=
      fun F' H' al' rh' si' mu' x s' h' => ⟨hlt, F', al', rh', mu', ex.trans x, s', h'⟩
    exact d' G B F3 H3 al3 rh3 si3 mu3 _ _ s3 h3 ⟨again, fun F' H' al' mu' w v x => b.rt F' H' al' mu' w v ((e0.trans ex).trans x), fun F' H' al' rh' si' mu' x => b.nx F' H' al' rh' si' mu' ((e0.trans ex).trans x), again⟩
  · have e : i = items.length := by omega
    subst e
    rw [List.drop_length] at h1
    exact .inl ⟨it.stop G B F1 H1 al1 mu1 e1 s1.s h1.1, b.nx F1 H1 al1 rh1 σ mu1 (e0.trans e1) s1 h1.2⟩
end
end VL
namespace VL
open PySem PySem.Spec PyProof.Rows L2 RZ

/-! ### what is walked -/
section
variable {X : Cx} {tg : Expr}
/-- a list, a tuple, a text -/
def iAny (K : PySem.W.Frag) (tl : TE) : TI := fun σ H R => tl σ H fun x H1 => (∃ a, x = .ref a ∧ (∃ xs, SqL K H1 a xs) ∧ R (Itl K a) H1) ∨ (∃ a, x = .ref a ∧ (∃ xs, SqT K H1 a xs) ∧ R (Itt K a) H1)
theorem pi_any {l : Expr} {tl : TE} (hl : PE X l tl) : PI X tg l (iAny X.K tl) := by
  refine ⟨fun pins s σ H R I h => ?_⟩
  refine thn (hl.run pins s σ H _ I h) fun v s1 ⟨x, H1, I1, r1, q1⟩ => ?_
  rcases q1 with q1 | q1
  · obtain ⟨a, e, ⟨xs, hq⟩, q⟩ := q1
    subst e
    cases r1
    obtain ⟨its, rv, p, hz⟩ := I1.list hq
    refine wpAny_pyIter_list p.isList ?_
    refine ⟨s1.heap.objs.size, [s1.heap.objs.size], _, _, H1, rfl, I1.kept (t' := s1.toks) fun b o e => Heap.get?_push_of_some _ e, turn_list a _, ⟨_, Heap.get?_push_size _ rfl, rfl, rfl⟩, fun b hb => ?_, q⟩
    have e : b = s1.heap.objs.size := by simpa using hb
    subst e
    exact I1.fpOk (Nat.le_refl _) (I1.hok.fresh (Nat.le_refl _))
  · obtain ⟨a, e, ⟨xs, hq⟩, q⟩ := q1
    subst e
    cases r1
    obtain ⟨its, rv, p, hz⟩ := I1.tuple hq
    refine wpAny_pyIter_tuple (show s1.heap.IsTuple a its.toArray from p) ?_
    refine ⟨s1.heap.objs.size, [s1.heap.objs.size], _, _, H1, rfl, I1.kept (t' := s1.toks) fun b o e => Heap.get?_push_of_some _ e, turn_tuple a _, ⟨_, Heap.get?_push_size _ rfl, rfl, rfl⟩, fun b hb => ?_, q⟩
    have e : b = s1.heap.objs.size := by simpa using hb
    subst e
    exact I1.fpOk (Nat.le_refl _) (I1.hok.fresh (Nat.le_refl _))
end
/-- the sequence stays while it is walked -/
@[simp] def chkW (x : W) (ws : List W) : Sto → Prop := match x with
  | .loc _ => fun mu => seqW mu x = some ws
  | _ => fun _ => True
@[simp] def wSeqI (a : WE) : WI := fun rh mu Q => a rh mu fun x mu1 => match seqW mu1 x with
  | some ws => Q ws (chkW x ws) mu1
  | none => False
section
variable {io : Type} {Y : io → Cx} {P : Program} {w : World} {K : KW} {mg : Str → Option Value} {base : Heap} {N : List Str} {k : Nat} {pos p tpos : Pos} {a b e e2 tg : Expr} {wa wb : WE} {ga : WA} {elts : List Expr} {kk : Nat}
theorem seqW_kind {x : W} {v : V} {ws : List W} {G B F H : Hp} {al : List Addr} {mu : Sto} (s : SRS K G B F H al mu) (r : RepW K F al x v) (e : seqW mu x = some ws) : ∃ (b : Addr) (vs : List V), v = .ref b ∧ vs.length = ws.length ∧ vs.length ≤ sizeLine ∧
    ((∀ G' B' F' H' al' mu', Ext F al F' al' → SRS K G' B' F' H' al' mu' → chkW x ws mu' → ∃ us, SqL K H' b us ∧ Paired (RepW K F' al') ws us) ∨ (∀ G' B' F' H' al' mu', Ext F al F' al' → SRS K G' B' F' H' al' mu' → chkW x ws mu' → ∃ us, SqT K H' b us ∧ Paired (RepW K F' al') ws us)) := by
  cases x with
  | loc k =>
    cases r with
    | loc ea =>
      rename_i a
      obtain ⟨b, vs, e1, hs, z, p⟩ := seqW_rep s (.loc ea) e
      cases e1
      refine ⟨a, vs, rfl, (Paired.length p).symm, z, .inl fun G' B' F' H' al' mu' x s' c => ?_⟩
      have c' : seqW mu' (.loc k) = some ws := c
      unfold seqW at c'
      simp only at c'
      split at c'
      · rename_i q
        cases c'
        obtain ⟨us, h, z, p⟩ := s'.lstAt q (x.at ea)
        exact ⟨us, SqL.of h, pMapD p⟩
      · rename_i q
        cases c'
        obtain ⟨us, h, z, p⟩ := s'.lstWAt q (x.at ea)
        exact ⟨us, SqL.of h, p⟩
      · cases c'
  | d x =>
    cases x with
    | lst xs =>
      cases e
      cases r with
      | d r => cases r with
        | lst q z p => exact ⟨_, _, rfl, by rw [List.length_map, p.len], z, .inl fun G' B' F' H' al' mu' x s' c => ⟨_, .inl (rdMono (x.1.trans s'.fz) q), pMapD (Paired.mapP p.p fun _ _ z => z.mono x.1)⟩⟩
    | tup xs =>
      cases e
      obtain ⟨b, vs, rfl, q, z, p⟩ := repTup r
      exact ⟨b, vs, rfl, by rw [List.length_map, Paired.length p], z, .inr fun G' B' F' H' al' mu' x s' c => ⟨_, sqtMono (x.1.trans s'.fz) q, pMapD (Paired.mapP p fun _ _ z => z.mono x.1)⟩⟩
    | scr ns =>
      cases e
      cases r with
      | d r => cases r with
        | scr q z => exact ⟨_, ns.map V.int, rfl, by simp, by simpa using z, .inl fun G' B' F' H' al' mu' x s' c => ⟨_, sqlMono (x.1.trans s'.fz) q, pScr _⟩⟩
    | _ => cases e
  | tup us =>
    cases e
    cases r with
    | tup q z p => exact ⟨_, _, rfl, (Paired.length p.p).symm, z, .inr fun G' B' F' H' al' mu' x s' c => ⟨_, sqtMono (x.1.trans s'.fz) q, Paired.mapP p.p fun _ _ z => z.mono x⟩⟩
  | ty n => cases e
  | raw a => cases e
theorem vi_seq (y : YOk Y P w K mg base N k) (ha : VE Y K a wa) : VI Y K tg a (wSeqI wa) := by
  obtain ⟨t, p1, d1⟩ := ha
  refine ⟨iAny K t, fun i => by rw [← y.hK i]; exact pi_any (p1 i), fun G B F H al rh si mu Qd R s h q => ?_⟩
  refine d1 G B F H al rh si mu _ _ s h fun F1 H1 al1 mu1 x vx e1 s1 r1 h1 => ?_
  split at h1
  · rename_i ws e
    obtain ⟨b, vs, rfl, hl, z, hk⟩ := seqW_kind s1.s r1 e
    have c0 : chkW x ws mu1 := by
      unfold chkW
      split
      · exact e
      · trivial
    rcases hk with hk | hk
    · obtain ⟨us0, hs0, p0⟩ := hk G B F1 H1 al1 mu1 (Ext.refl _ _) s1.s c0
      refine .inl ⟨b, rfl, ⟨us0, hs0⟩, q F1 H1 al1 mu1 _ ws _ e1 s1 ⟨by omega, ?_, ?_, ?_⟩ h1⟩
      · intro i x G' B' F' H' al' mu' ex s' c ei
        obtain ⟨us, hs, p⟩ := hk G' B' F' H' al' mu' ex s' c
        obtain ⟨v, ev, rv⟩ := pGetL p ei
        exact ⟨us, v, hs, ev⟩
      · intro i x G' B' F' H' al' mu' v H'' ex s' c ei yl
        obtain ⟨us, hs, p⟩ := hk G' B' F' H' al' mu' ex s' c
        obtain ⟨v', ev, rv⟩ := pGetL p ei
        obtain ⟨rfl, yl⟩ := yl
        have := yl us hs
        rw [ev] at this
        cases this
        exact ⟨F', Ext.refl _ _, s', rv⟩
      · intro G' B' F' H' al' mu' ex s' c
        obtain ⟨us, hs, p⟩ := hk G' B' F' H' al' mu' ex s' c
        exact ⟨us, hs, by rw [← Paired.length p]; exact Nat.le_refl _⟩
    · obtain ⟨us0, hs0, p0⟩ := hk G B F1 H1 al1 mu1 (Ext.refl _ _) s1.s c0
      refine .inr ⟨b, rfl, ⟨us0, hs0⟩, q F1 H1 al1 mu1 _ ws _ e1 s1 ⟨by omega, ?_, ?_, ?_⟩ h1⟩
      · intro i x G' B' F' H' al' mu' ex s' c ei
        obtain ⟨us, hs, p⟩ := hk G' B' F' H' al' mu' ex s' c
        obtain ⟨v, ev, rv⟩ := pGetL p ei
        exact ⟨us, v, hs, ev⟩
      · intro i x G' B' F' H' al' mu' v H'' ex s' c ei yl
        obtain ⟨us, hs, p⟩ := hk G' B' F' H' al' mu' ex s' c
        obtain ⟨v', ev, rv⟩ := pGetL p ei
        obtain ⟨rfl, yl⟩ := yl
        have := yl us hs
        rw [ev] at this
        cases this
        exact ⟨F', Ext.refl _ _, s', rv⟩
      · intro G' B' F' H' al' mu' ex s' c
        obtain ⟨us, hs, p⟩ := hk G' B' F' H' al' mu' ex s' c
        exact ⟨us, hs, by rw [← Paired.length p]; exact Nat.le_refl _⟩
  · exact h1.elim

/-- a range -/
def rngW : Int → Nat → List W
  | _, 0 => []
  | lo, n + 1 => .d (.int lo) :: rngW (lo + 1) n
theorem rngW_len : ∀ (lo : Int) (n : Nat), (rngW lo n).length = n
  | _, 0 => rfl
  | lo, n + 1 => by rw [rngW, List.length_cons, rngW_len]
theorem rngW_get : ∀ (lo : Int) (n i : Nat), i < n → (rngW lo n)[i]? = some (.d (.int (lo + i)))
  | _, 0, _, h => by omega
  | lo, n + 1, 0, _ => by simp [rngW]
  | lo, n + 1, i + 1, h => by
    rw [rngW, List.getElem?_cons_succ, rngW_get (lo + 1) n i (by omega)]
    congr 3; omega
theorem it_rng {F : Hp} {al : List Addr} {lo : Int} {n : Nat} (h : n ≤ sizeLine) : ItD K F al (Itr lo n) (rngW lo n) fun _ => True where
  sz := by rw [rngW_len]; exact h
  go := fun i x G B F' H al' mu _ _ _ e => by
    have := (List.getElem?_eq_some_iff.mp e).1
    rw [rngW_len] at this; exact this
  yld := fun i x G B F' H al' mu v H' _ s _ e yl => by
    have l := (List.getElem?_eq_some_iff.mp e).1
    rw [rngW_len] at l
    rw [rngW_get lo n i l] at e
    cases e
    obtain ⟨rfl, rfl⟩ := yl
    exact ⟨F', Ext.refl _ _, s, .d (.int _)⟩
  stop := fun G B F' H al' mu _ _ _ => by
    show n ≤ (rngW lo n).length
    rw [rngW_len]; exact Nat.le_refl _
@[simp] def wRng1 (g : WA) : WI := fun rh mu Q => g rh mu fun ws mu1 => match ws with
  | [.d (.int j)] => j ≤ 1000000 ∧ -(2 ^ 62) ≤ j ∧ Q (rngW 0 j.toNat) (fun _ => True) mu1
  | _ => False
theorem vi_rng1 (y : YOk Y P w K mg base N k) (hm : mg "range" = none) (ha : VA Y K [a] ga) (hg : ∀ j, Gl (Y j) "range" := by exact fun _ => rfl) (hs : ∀ i, starEach [a] (Y i).env = [(false, eval a (Y i).env)] := by exact fun _ => rfl) : VI Y K tg (.Call (.Name "range" p) [a] [] pos) (wRng1 ga) := by
  obtain ⟨t, p1, d1⟩ := ha
  refine ⟨_, fun i => pi_range1 (hg i) (by rw [y.hmg i]; exact hm) (p1 i) (hs i), fun G B F H al rh si mu Qd R s h q => ?_⟩
  refine d1 G B F H al rh si mu _ _ s h fun F1 H1 al1 mu1 ws vs e1 s1 r1 h1 => ?_
  split at h1
  · obtain ⟨v, rfl, r⟩ := pair1 r1
    cases repInt r
    have l : sizeLine = 16777216 := sizeLine_eq
    exact ⟨_, rfl, h1.2.1, by have := h1.1; omega, q F1 H1 al1 mu1 _ _ _ e1 s1 (it_rng (by have := h1.1; omega)) h1.2.2⟩
  · exact h1.elim
/-- enumerate, zip: each turn's tuple is a new one -/
theorem tup2_new {G B F H : Hp} {al : List Addr} {mu : Sto} {x x' : W} {v v' : V} {T : Addr} (s : SRS K G B F H al mu) (r : RepW K F al x v) (r' : RepW K F al x' v') (hT : H T = none) : ∃ F2, Ext F al F2 al ∧ SRS K G B F2 (upd H T (.tup [v, v'])) al mu ∧ RepW K F2 al (mkTup [x, x']) (.ref T) := by
  have e := s.frozX (o := .tup [v, v']) hT
  refine ⟨_, e, s.froz hT, ?_⟩
  have z : ([v, v'] : List V).length ≤ sizeLine := by show 2 ≤ sizeLine; decide
  have p : Paired (RepW K F al) [x, x'] [v, v'] := .cons r (.cons r' .nil)
  unfold mkTup
  cases q : asDs [x, x'] with
  | none => exact .tup (SqT.of upd_same) z ((RepWs.of p).mono e)
  | some xs => exact .d (.tup (SqT.of upd_same) z ((asDs_rep (.of p) q).mono e.1))
@[simp] def enumW : Nat → List W → List W
  | _, [] => []
  | n, x :: xs => mkTup [.d (.int n), x] :: enumW (n + 1) xs
theorem enumW_len : ∀ (n : Nat) (xs : List W), (enumW n xs).length = xs.length
  | _, [] => rfl
  | n, x :: xs => by rw [enumW, List.length_cons, enumW_len, List.length_cons]
theorem enumW_get : ∀ (n : Nat) (xs : List W) (i : Nat) (z : W), (enumW n xs)[i]? = some z → ∃ x, xs[i]? = some x ∧ z = mkTup [.d (.int ((n + i : Nat) : Int)), x]
  | _, [], i, z, h => by simp [enumW] at h
  | n, x :: xs, 0, z, h => by simp [enumW] at h; exact ⟨x, by simp, by rw [← h]; rfl⟩
  | n, x :: xs, i + 1, z, h => by
    rw [enumW, List.getElem?_cons_succ] at h
    obtain ⟨y, h1, h2⟩ := enumW_get (n + 1) xs i z h
    exact ⟨y, by simpa using h1, by rw [h2]; congr 5; omega⟩
@[simp] def wEnum (g : WA) : WI := fun rh mu Q => g rh mu fun ws mu1 => match ws with
  | [x] => isL mu1 x = true ∧ match seqW mu1 x with
    | some us => Q (enumW 0 us) (chkW x us) mu1
    | none => False
  | _ => False
theorem isL_sqL {G B F H : Hp} {al : List Addr} {mu : Sto} {x : W} {v : V} {ws : List W} (s : SRS K G B F H al mu) (r : RepW K F al x v) (e : seqW mu x = some ws) (l : isL mu x = true) : ∃ (b : Addr) (vs : List V), v = .ref b ∧ vs.length = ws.length ∧ vs.length ≤ sizeLine ∧ SqL K H b vs ∧
    (∀ G' B' F' H' al' mu', Ext F al F' al' → SRS K G' B' F' H' al' mu' → chkW x ws mu' → ∃ us, SqL K H' b us ∧ Paired (RepW K F' al') ws us) := by
  cases x with
  | loc k =>
    cases r with
    | loc ea =>
      rename_i a
      obtain ⟨b, vs, e1, hs, z, p⟩ := seqW_rep s (.loc ea) e
      cases e1
      have main : ∀ G' B' F' H' al' mu', Ext F al F' al' → SRS K G' B' F' H' al' mu' → chkW (.loc k) ws mu' → ∃ us, SqL K H' a us ∧ Paired (RepW K F' al') ws us := fun G' B' F' H' al' mu' x s' c => by
        have c' : seqW mu' (.loc k) = some ws := c
        unfold seqW at c'
        simp only at c'
        split at c'
        · rename_i q
          cases c'
          obtain ⟨us, h, z, p⟩ := s'.lstAt q (x.at ea)
          exact ⟨us, SqL.of h, pMapD p⟩
        · rename_i q
          cases c'
          obtain ⟨us, h, z, p⟩ := s'.lstWAt q (x.at ea)
          exact ⟨us, SqL.of h, p⟩
        · cases c'
      obtain ⟨us, h1, h2⟩ := main G B F H al mu (Ext.refl _ _) s e
      have le := Paired.length h2
      refine ⟨a, us, rfl, le.symm, ?_, h1, main⟩
      rw [← le, Paired.length p]; exact z
  | d x =>
    cases x with
    | lst xs =>
      cases e
      cases r with
      | d r => cases r with
        | lst q z p => exact ⟨_, _, rfl, by rw [List.length_map, p.len], z, .inl (rdMono s.fz q), fun G' B' F' H' al' mu' x s' c => ⟨_, .inl (rdMono (x.1.trans s'.fz) q), pMapD (Paired.mapP p.p fun _ _ z => z.mono x.1)⟩⟩
    | _ => first | (cases l; done) | (cases e; done)
  | tup us => cases l
  | ty n => cases e
  | raw a => cases e
theorem vi_enum (y : YOk Y P w K mg base N k) (hm : mg "enumerate" = none) (ha : VA Y K [e] ga) (hg : ∀ j, Gl (Y j) "enumerate" := by exact fun _ => rfl) (hs : ∀ i, starEach [e] (Y i).env = [(false, eval e (Y i).env)] := by exact fun _ => rfl) : VI Y K (.Tuple elts kk tpos) (.Call (.Name "enumerate" p) [e] [] pos) (wEnum ga) := by
  obtain ⟨t, p1, d1⟩ := ha
  refine ⟨iEnum K t, fun i => by rw [← y.hK i]; exact pi_enum (hg i) (by rw [y.hmg i]; exact hm) (p1 i) (hs i), fun G B F H al rh si mu Qd R s h q => ?_⟩
  refine d1 G B F H al rh si mu _ _ s h fun F1 H1 al1 mu1 ws vs e1 s1 r1 h1 => ?_
  split at h1
  · rename_i x
    obtain ⟨v, rfl, r⟩ := pair1 r1
    obtain ⟨hl, h1⟩ := h1
    split at h1
    · rename_i us e
      obtain ⟨b, vs, rfl, hle, z, hq, main⟩ := isL_sqL s1.s r e hl
      refine ⟨b, vs, rfl, hq, q F1 H1 al1 mu1 _ _ (chkW x us) e1 s1 ⟨by rw [enumW_len]; omega, ?_, ?_, ?_⟩ h1⟩
      · intro i x G' B' F' H' al' mu' ex s' c ei
        obtain ⟨ys, hs, p⟩ := main G' B' F' H' al' mu' ex s' c
        obtain ⟨x0, h2, rfl⟩ := enumW_get _ _ _ _ ei
        obtain ⟨v, ev, rv⟩ := pGetL p h2
        exact ⟨ys, v, hs, ev⟩
      · intro i x G' B' F' H' al' mu' v H'' ex s' c ei yl
        obtain ⟨ys, hs, p⟩ := main G' B' F' H' al' mu' ex s' c
        obtain ⟨x0, h2, rfl⟩ := enumW_get _ _ _ _ ei
        obtain ⟨v', ev, rv⟩ := pGetL p h2
        obtain ⟨T, x1, rfl, hT, rfl, yl⟩ := yl
        have := yl ys hs
        rw [ev] at this
        cases this
        rw [Nat.zero_add]
        exact tup2_new s' (.d (.int _)) rv hT
      · intro G' B' F' H' al' mu' ex s' c
        obtain ⟨ys, hs, p⟩ := main G' B' F' H' al' mu' ex s' c
        exact ⟨ys, hs, by rw [enumW_len, ← Paired.length p]; exact Nat.le_refl _⟩
    · exact h1.elim
  · exact h1.elim
/-- a text, sign by sign -/
@[simp] def sgnW (z : Str) : List W := z.cps.toList.map fun c => .d (.str ⟨#[c]⟩)
@[simp] def wStrI (a : WE) : WI := fun rh mu Q => a rh mu fun x mu1 => match x with
  | .d (.str z) => Q (sgnW z) (fun _ => True) mu1
  | _ => False
theorem vi_str (ha : VE Y K a wa) : VI Y K tg a (wStrI wa) := by
  obtain ⟨t, p1, d1⟩ := ha
  refine ⟨_, fun i => pi_str (p1 i), fun G B F H al rh si mu Qd R s h q => ?_⟩
  refine d1 G B F H al rh si mu _ _ s h fun F1 H1 al1 mu1 x vx e1 s1 r1 h1 => ?_
  split at h1
  · rename_i z
    obtain ⟨rfl, hz⟩ := repStr r1
    have hlen : (sgnW z).length = z.cps.size := by simp [sgnW]
    refine ⟨z, rfl, q F1 H1 al1 mu1 _ _ _ e1 s1 ⟨by rw [hlen]; exact hz.2, ?_, ?_, ?_⟩ h1⟩
    · intro i x G' B' F' H' al' mu' _ _ _ ei
      have := (List.getElem?_eq_some_iff.mp ei).1
      rw [hlen] at this; exact this
    · intro i x G' B' F' H' al' mu' v H'' _ s' _ ei yl
      obtain ⟨rfl, c, hc, rfl⟩ := yl
      unfold sgnW at ei
      rw [List.getElem?_map, Array.getElem?_toList, hc] at ei
      cases ei
      refine ⟨F', Ext.refl _ _, s', .d (.str _ ?_)⟩
      refine strOk_at (z := z) (i := (i : Int)) hz (atI_nat (by rw [Array.getElem?_toList]; exact hc))
    · intro G' B' F' H' al' mu' _ _ _
      show z.cps.size ≤ _
      rw [hlen]; exact Nat.le_refl _
  · exact h1.elim
end
end VL
namespace VL
open PySem PySem.Spec PyProof.Rows L2 RZ

/-! ### an object beside: kept by what must stay -/
section
variable {K : KW} {G B F F' H H' : Hp} {al al' : List Addr} {mu mu' : Sto} {p : Addr} {o o' : HO}
theorem SRS.guard (s : SRS K G B F H al mu) (hH : H p = some o) (hF : F p = none) (hal : p ∉ al) : SRS K G (upd B p o) F H al mu where
  fz := s.fz
  bs := fun a u e => by
    by_cases q : a = p
    · subst q; rw [upd_same] at e; cases e; exact hH
    · rw [upd_ne q] at e; exact s.bs _ _ e
  gf := s.gf
  fr := fun a u e => by
    have ne : a ≠ p := ne_of_none e hF
    rw [upd_ne ne]; exact s.fr a u e
  nd := s.nd
  len := s.len
  st := fun k c e => by
    obtain ⟨a, u, e1, e2, e3, e4, e5⟩ := s.st k c e
    have ne : a ≠ p := fun z => hal (z ▸ List.mem_of_getElem? e1)
    exact ⟨a, u, e1, e2, by rw [upd_ne ne]; exact e3, e4, e5⟩
theorem SRS.unguard (s : SRS K G (upd B p o) F H al mu) (hB : B p = none) : SRS K G B F H al mu ∧ H p = some o ∧ p ∉ al where
  left := {
    fz := s.fz
    bs := fun a u e => s.bs _ _ (by rw [upd_ne (ne_of_none e hB)]; exact e)
    gf := s.gf
    fr := fun a u e => by
      rcases s.fr a u e with q | q | q
      · exact .inl q
      · refine .inr (.inl ?_)
        by_cases z : a = p
        · subst z; exact hB
        · rw [upd_ne z] at q; exact q
      · exact .inr (.inr q)
    nd := s.nd
    len := s.len
    st := fun k c e => by
      obtain ⟨a, u, e1, e2, e3, e4, e5⟩ := s.st k c e
      refine ⟨a, u, e1, e2, ?_, e4, e5⟩
      by_cases z : a = p
      · subst z; exact hB
      · rw [upd_ne z] at e3; exact e3 }
  right := ⟨s.bs _ _ upd_same, fun h => by
    obtain ⟨k, hk⟩ := List.mem_iff_getElem?.mp h
    obtain ⟨c, hc⟩ := s.has hk
    obtain ⟨_, _, q, _, _⟩ := s.at hc hk
    rw [upd_same] at q; cases q⟩
/-- it may be written -/
theorem SRS.beside (s : SRS K G B F H al mu) (hB : B p = none) (hF : F p = none) (hal : p ∉ al) : SRS K G B F (upd H p o') al mu where
  fz := fun a u e => by rw [upd_ne (ne_of_none e hF)]; exact s.fz _ _ e
  bs := fun a u e => by rw [upd_ne (ne_of_none e hB)]; exact s.bs _ _ e
  gf := s.gf
  fr := s.fr
  nd := s.nd
  len := s.len
  st := fun k c e => by
    obtain ⟨a, u, e1, e2, e3, e4, e5⟩ := s.st k c e
    have ne : a ≠ p := fun z => hal (z ▸ List.mem_of_getElem? e1)
    exact ⟨a, u, e1, e2, e3, by rw [upd_ne ne]; exact e4, e5⟩
theorem SRS.frozAt (s : SRS K G B F H al mu) (hH : H p = some o) (hF : F p = none) (hB : B p = none) (hal : p ∉ al) : SRS K G B (upd F p o) H al mu where
  fz := fun a u e => by
    by_cases q : a = p
    · subst q; rw [upd_same] at e; cases e; exact hH
    · rw [upd_ne q] at e; exact s.fz _ _ e
  bs := s.bs
  gf := s.gf.trans (sameN hF)
  fr := fun a u e => by
    by_cases q : a = p
    · subst q; exact .inr (.inl hB)
    · rw [upd_ne q] at e; exact s.fr a u e
  nd := s.nd
  len := s.len
  st := fun k c e => by
    obtain ⟨a, u, e1, e2, e3, e4, e5⟩ := s.st k c e
    have ne : a ≠ p := fun z => hal (z ▸ List.mem_of_getElem? e1)
    exact ⟨a, u, e1, by rw [upd_ne ne]; exact e2, e3, e4, e5.mono ⟨sameN hF, [], by simp⟩⟩
theorem SRS.ownAt {c : C} (s : SRS K G B F H al mu) (hH : H p = some o) (hF : F p = none) (hB : B p = none) (hal : p ∉ al) (r : CRep K F al p c o) : SRS K G B F H (al ++ [p]) (mu ++ [c]) where
  fz := s.fz
  bs := s.bs
  gf := s.gf
  fr := s.fr
  nd := List.nodup_append.mpr ⟨s.nd, by simp, fun a ha b hb e => by
    have z : b = p := by simpa using hb
    exact hal (z ▸ e ▸ ha)⟩
  len := by simp [s.len]
  st := fun k c' e => by
    by_cases hk : k < mu.length
    · rw [List.getElem?_append_left hk] at e
      obtain ⟨a, u, e1, e2, e3, e4, e5⟩ := s.st k c' e
      exact ⟨a, u, by rw [List.getElem?_append_left (by rw [s.len]; exact hk)]; exact e1, e2, e3, e4, e5.mono ⟨Same.refl F, [p], rfl⟩⟩
    · rw [List.getElem?_append_right (by omega)] at e
      have hz : k - mu.length = 0 := by
        have := (List.getElem?_eq_some_iff.mp e).1
        simp at this; omega
      rw [hz] at e
      have e' : c = c' := by simpa using e
      subst e'
      exact ⟨p, o, by rw [List.getElem?_append_right (by rw [s.len]; omega), s.len, hz]; rfl, hF, hB, hH, r.mono ⟨Same.refl F, [p], rfl⟩⟩
/-- a list that stands already becomes ours -/
theorem newLW_at {o : Bool} {ws : List W} {vs : List V} {Qd : W → Sto → Prop} {Q : L2.VK} {rh : Ev} {si : L2.St} (s : SR K G B F H al rh si mu) (pr : Paired (RepW K F al) ws vs) (z : vs.length ≤ sizeLine) (hH : H p = some (.lst vs)) (hF : F p = none) (hB : B p = none) (hal : p ∉ al) (h : newLW o ws mu Qd)
    (k : ∀ F' H' al' mu' w v, Ext F al F' al' → SR K G B F' H' al' rh si mu' → RepW K F' al' w v → Qd w mu' → Q v H') : Q (.ref p) H := by
  unfold newLW at h
  have x := SRS.ownX (F := F) (al := al) (p := p)
  cases q : asDs ws with
  | some xs =>
    rw [q] at h
    have pd := (asDs_rep (.of pr) q).p
    unfold newL at h
    cases o with
    | true => exact k _ _ _ _ _ _ x (s.step x (s.s.ownAt hH hF hB hal (.lst z pd))) (.loc s.s.atNew) h
    | false =>
      have x : Ext F al (upd F p (.lst vs)) al := ⟨sameN hF, [], by simp⟩
      exact k _ _ _ _ _ _ x (s.step x (s.s.frozAt hH hF hB hal)) (.d (.lst (Rd.of upd_same) z ((RepDs.of pd).mono x.1))) h
  | none =>
    rw [q] at h
    exact k _ _ _ _ _ _ x (s.step x (s.s.ownAt hH hF hB hal (.lstW z pr))) (.loc s.s.atNew) h
end

/-! ### comprehensions -/
@[simp] def lcL (chk : Sto → Prop) (g : WG) (tt : WT) (te : WE) (rh : Ev) : List W → List W → Sto → (List W → Sto → Prop) → Prop
  | [], acc, mu, Q => chk mu ∧ Q acc mu
  | x :: xs, acc, mu, Q => chk mu ∧ g x rh mu fun rh' mu1 => tt rh' mu1 fun b mu2 => if b = true then te rh' mu2 fun y mu3 => lcL chk g tt te rh xs (acc ++ [y]) mu3 Q else lcL chk g tt te rh xs acc mu2 Q
@[simp] def wLc (o : Bool) (it : WI) (g : WG) (tt : WT) (te : WE) (vs : List Nat) : WE := fun rh mu Q => it rh mu fun items chk mu1 => lcL chk g tt te (wipeE rh vs) items [] mu1 fun ws mu2 => newLW o ws mu2 Q
theorem wipe_wipe (σ : L2.St) (vs : List Nat) : ∀ us : List Nat, (∀ u ∈ us, u ∈ vs) → wipe (wipe σ us) vs = wipe σ vs
  | [], _ => rfl
  | u :: us, h => by
    show wipe ((wipe σ us).set u none) vs = _
    rw [wipe_set _ u none vs (h u (by simp))]
    exact wipe_wipe σ vs us fun x hx => h x (by simp [hx])
def VTs {io : Type} (Y : io → Cx) (K : KW) (ifs : List Expr) (f : WT) : Prop := ∃ t, (∀ i, PTs (Y i) ifs t) ∧ DenT K t f
@[simp] def wYes : WT := fun _ mu Q => Q true mu
section
variable {io : Type} {Y : io → Cx} {P : Program} {w : World} {K : KW} {mg : Str → Option Value} {base : Heap} {N : List Str} {k : Nat} {pos : Pos} {c elt tg iter : Expr} {ifs : List Expr} {fc : WT}
theorem vts_nil : VTs Y K [] wYes := ⟨_, fun _ => pts_nil, fun G B F H al rh si mu Qd Q s h q => q F H al mu true (Ext.refl _ _) s h⟩
theorem vts_one (h : VT Y K c fc) : VTs Y K [c] fc := by
  obtain ⟨t, p, d⟩ := h
  exact ⟨t, fun i => pts_one (p i), d⟩
/-- the contexts of a comprehension's block -/
abbrev BlkIx (io : Type) := io × Shared × Hp × Addr × List (Str × Addr) × List Addr
abbrev blkY (Y : io → Cx) (scope : Scope) : BlkIx io → Cx := fun j => (Y j.1).blk j.2.1 j.2.2.1 scope (compEnvC scope j.2.2.2.2.1 j.2.2.2.1 (Y j.1).env) j.2.2.2.2.2
theorem YOk.blk (y : YOk Y P w K mg base N k) (scope : Scope) : YOk (blkY Y scope) P w K mg base N k :=
  ⟨fun j => y.hP j.1, fun j => y.hw j.1, fun j => y.hK j.1, fun j => y.hmg j.1, fun j => y.hbase j.1, fun j => y.hN j.1, y.nd, fun j => y.calm j.1, fun j => y.room j.1⟩
theorem den_lc (o : Bool) {wi : TI} {g : TG} {tt : TT} {te : TE} {vs : List Nat} {fi : WI} {fg : WG} {ft : WT} {fe : WE} (di : DenI K wi fi) (dg : DenG K g fg) (kg : GKeep vs g) (dt : DenT K tt ft) (de : Den K te fe) : Den K (tLc wi g tt te vs) (wLc o fi fg ft fe vs) := fun G B F H al rh si mu Qd Q s h q => by
  refine di G B F H al rh si mu _ _ s h fun F0 H0 al0 mu0 J items chk e0 s0 it h0 => ?_
  intro D hD
  have hB : B D = none := sameNone s0.s.bs hD
  have hF0 : F0 D = none := sameNone s0.s.fz hD
  have hG : G D = none := sameNone (s0.s.gf) hF0
  refine ⟨fun i m H1 => m = items.length - i ∧ i ≤ items.length ∧ ∃ F1 al1 mu1 acc vs1, Ext F0 al0 F1 al1 ∧ SRS K G (upd B D (.lst vs1)) F1 H1 al1 mu1 ∧ F1 D = none ∧ Paired (RepW K F1 al1) acc vs1 ∧ vs1.length ≤ i ∧ lcL chk fg ft fe (wipeE rh vs) (items.drop i) acc mu1 fun ws mu2 => newLW o ws mu2 Qd, ⟨_, rfl, Nat.zero_le _, F0, al0, mu0, [], [], Ext.refl _ _, ?_, hF0, .nil, Nat.le_refl _, h0⟩, ?_⟩
  · have s1 : SRS K G B F0 (upd H0 D (.lst [])) al0 mu0 := s0.s.beside hB hF0 (fun z => by
      obtain ⟨k, hk⟩ := List.mem_iff_getElem?.mp z
      obtain ⟨c, hc⟩ := s0.s.has hk
      obtain ⟨_, _, _, q, _⟩ := s0.s.at hc hk
      rw [hD] at q; cases q)
    exact s1.guard upd_same hF0 (fun z => by
      obtain ⟨k, hk⟩ := List.mem_iff_getElem?.mp z
      obtain ⟨c, hc⟩ := s0.s.has hk
      obtain ⟨_, _, _, q, _⟩ := s0.s.at hc hk
      rw [hD] at q; cases q)
  rintro i m H1 ⟨rfl, hi, F1, al1, mu1, acc, vs1, e1, s1, hF1, pa, hl, h1⟩
  by_cases hlt : i < items.length
  · have ed : items.drop i = items[i] :: items.drop (i + 1) := List.drop_eq_getElem_cons hlt
    rw [ed] at h1
    have ei : items[i]? = some items[i] := by simp [hlt]
    obtain ⟨hchk, h1⟩ := h1
    refine .inr ⟨it.go i _ _ _ F1 H1 al1 mu1 e1 s1 hchk ei, fun H' => i + 1 ≤ items.length ∧ ∃ F1 al1 mu1 acc vs1, Ext F0 al0 F1 al1 ∧ SRS K G (upd B D (.lst vs1)) F1 H' al1 mu1 ∧ F1 D = none ∧ Paired (RepW K F1 al1) acc vs1 ∧ vs1.length ≤ i + 1 ∧ lcL chk fg ft fe (wipeE rh vs) (items.drop (i + 1)) acc mu1 fun ws mu2 => newLW o ws mu2 Qd,
      fun H' z => ⟨items.length - (i + 1), by omega, rfl, z.1, z.2⟩, fun x H' y => ?_⟩
    obtain ⟨F2, e2, s2, r2⟩ := it.yld i _ _ _ F1 H1 al1 mu1 x H' e1 s1 hchk ei y
    -- the new list is no frozen thing
    have noF : ∀ {F' H' : Hp} {al' : List Addr} {mu' : Sto}, SRS K G (upd B D (.lst vs1)) F' H' al' mu' → F' D = none := fun {F' H' al' mu'} s' => by
      cases q : F' D with
      | none => rfl
      | some u =>
        rcases s'.fr D u q with z | z | z
        · rw [hG] at z; cases z
        · rw [upd_same] at z; cases z
        · have := s'.fz _ _ q
          rw [s'.bs _ _ upd_same] at this
          cases this
          cases z
    have sw : SR K G (upd B D (.lst vs1)) F2 H' al1 (wipeE rh vs) (wipe si vs) mu1 := by
      have a := (s0.wipe vs)
      exact ⟨s2, a.ln, fun j u e => by
        obtain ⟨v, q1, q2⟩ := a.env j u e
        exact ⟨v, q1, q2.mono (e1.trans e2)⟩⟩
    refine kg x (wipe si vs) H' (fun σ2 H2 => tt σ2 H2 fun b H3 => if b = true then te σ2 H3 fun y H4 => ∃ acc, H4 D = some (.lst acc) ∧ acc.length < sizeLine ∧ _ else _) _ (fun σ' H'' w' z => ⟨w'.trans (wipe_wipe si vs vs fun _ z => z), z⟩) ?_
    refine dg G _ F2 H' al1 _ _ mu1 _ _ _ _ sw r2 h1 fun F3 H3 al3 rh3 si3 mu3 e3 s3 h3 => ?_
    refine dt G _ F3 H3 al3 rh3 si3 mu3 _ _ s3 h3 fun F4 H4 al4 mu4 b e4 s4 h4 => ?_
    cases b with
    | false =>
      refine iteF ⟨hlt, F4, al4, mu4, acc, vs1, ((e1.trans e2).trans e3).trans e4, s4.s, noF s4.s, Paired.mapP pa fun _ _ z => z.mono ((e2.trans e3).trans e4), by omega, ?_⟩
      simpa using h4
    | true =>
      refine iteT (de G _ F4 H4 al4 rh3 si3 mu4 _ _ s4 (by simpa using h4) fun F5 H5 al5 mu5 u v e5 s5 r5 h5 => ?_)
      obtain ⟨s6, hD5, hal5⟩ := s5.s.unguard hB
      have ex := (((e2.trans e3).trans e4).trans e5)
      refine ⟨vs1, hD5, by have := it.sz; omega, hlt, F5, al5, mu5, acc ++ [u], vs1 ++ [v], e1.trans ex, ?_, noF s5.s, pApp (Paired.mapP pa fun _ _ z => z.mono ex) (pOne r5), by rw [List.length_append, List.length_singleton]; omega, h5⟩
      exact (s6.beside hB (noF s5.s) hal5).guard upd_same (noF s5.s) hal5
  · have e : i = items.length := by omega
    subst e
    rw [List.drop_length] at h1
    obtain ⟨s2, hD1, hal1⟩ := s1.unguard hB
    refine .inl ⟨it.stop _ _ F1 H1 al1 mu1 e1 s1 h1.1, ?_⟩
    exact newLW_at (s0.step e1 s2) pa (by have := it.sz; omega) hD1 hF1 hB hal1 h1.2 fun F' H' al' mu' w v x => q F' H' al' mu' w v ((e0.trans e1).trans x)
theorem ve_lc (y : YOk Y P w K mg base N k) (o : Bool) {scope : Scope} {own : List (Str × Nat)} {fi : WI} {fg : WG} {ft : WT} {fe : WE} (hi : VI Y K tg iter fi) (ok : ∀ i, BlkOk N (Y i).env.scope scope own)
    (hg : VK (blkY Y scope) K tg fg (own.map (·.2))) (ht : VTs (blkY Y scope) K ifs ft) (he : VE (blkY Y scope) K elt fe) (hs : ∀ i x, foldedSetIterable iter (Y i).env x = pure x := by exact fun _ _ => rfl) :
    VE Y K (.ListComp elt [⟨tg, iter, ifs, 0⟩] scope pos) (wLc o fi fg ft fe (own.map (·.2))) := by
  obtain ⟨t1, p1, d1⟩ := hi
  obtain ⟨t2, p2, d2, kp⟩ := hg
  obtain ⟨t3, p3, d3⟩ := ht
  obtain ⟨t4, p4, d4⟩ := he
  refine ⟨_, fun i => pe_lc (y.calm i) (by rw [y.hN i]; exact y.nd) (p1 i) (by rw [y.hN i]; exact ok i) (fun s H C cl fp => p2 (i, s, H, C, cl, fp)) (fun s H C cl fp => p3 (i, s, H, C, cl, fp)) (fun s H C cl fp => p4 (i, s, H, C, cl, fp)) (hs i), den_lc o d1 d2 kp d3 d4⟩
end
section
variable {X : Cx} {P : Program} {w : World} {K : KW} {mg : Str → Option Value} {base : Heap} {N : List Str} {k : Nat} {pos spos : Pos} {c elt tg iter : Expr} {ifs : List Expr} {fc : WT}
/-- name = [..] on one line -/
theorem vs_setLc (y : YOk (un X) P w K mg base N k) (o : Bool) (i : Nat) {x : Str} {py : Pos} {scope : Scope} {own : List (Str × Nat)} {fi : WI} {fg : WG} {ft : WT} {fe : WE} (hsw : swapsWith (.ListComp elt [⟨tg, iter, ifs, 0⟩] scope pos) (some (.Name x py)) spos.line X.env = pure true)
    (hi : VI (un X) K tg iter fi) (ok : BlkOk N X.env.scope scope own)
    (hg : VK (blkY (un X) scope) K tg fg (own.map (·.2))) (ht : VTs (blkY (un X) scope) K ifs ft) (he : VE (blkY (un X) scope) K elt fe) (hix : N[i]? = some x := by rfl) (hyl : X.env.scope.names.lookup x = some .local := by rfl) (hs : ∀ x, foldedSetIterable iter X.env x = pure x := by exact fun _ => rfl) :
    VS X K (.Assign [.Name x py] (.ListComp elt [⟨tg, iter, ifs, 0⟩] scope pos) spos) (wAsg (wLc o fi fg ft fe (own.map (·.2))) (wgName i)) := by
  obtain ⟨t1, p1, d1⟩ := hi
  obtain ⟨t2, p2, d2, kp⟩ := hg
  obtain ⟨t3, p3, d3⟩ := ht
  obtain ⟨t4, p4, d4⟩ := he
  have q := y.hN ()
  refine ⟨_, ps_setLc (i := i) (y.calm ()) (by rw [show X.N = N from q]; exact y.nd) (by rw [show X.N = N from q]; exact hix) hyl hsw (p1 ()) (by rw [show X.N = N from q]; exact ok) (fun s H C cl fp => p2 ((), s, H, C, cl, fp)) (fun s H C cl fp => p3 ((), s, H, C, cl, fp)) (fun s H C cl fp => p4 ((), s, H, C, cl, fp)) hs, den_asg (den_lc o d1 d2 kp d3 d4) (den_gName i)⟩
end

/-! ### promises -/
abbrev VSp := List W → Sto → (W → Sto → Prop) → Prop
def toSp (K : KW) (sp : VSp) : Sp := fun vs H Q _ => ∃ (B F : Hp) (al : List Addr) (mu : Sto) (ws : List W) (Qd : W → Sto → Prop), SRS K F B F H al mu ∧ Paired (RepW K F al) ws vs ∧ sp ws mu Qd ∧
  ∀ F' H' al' mu' u v, Ext F al F' al' → SRS K F B F' H' al' mu' → RepW K F' al' u v → Qd u mu' → Q v H'
@[simp] def startE (N : List Str) (ws : List W) : Ev := ws.map some ++ List.replicate (N.length - ws.length) none
abbrev bX (P : Program) (w : World) (K : KW) (mg : Str → Option Value) (base : Heap) (N : List Str) (qual : Str) (scope : Scope) (f : Addr) (cdv : Value) (A : Around) (outer : List Env) (s : Shared) (H : Hp) (E : XK) : Cx := (cxOf CX0 P w K mg base N qual scope f cdv A outer s H E).nox
section
variable {P : Program} {w : World} {K : KW} {mg : Str → Option Value} {base : Heap}
theorem bX_ok {N ps : List Str} {qual : Str} {scope : Scope} {f : Addr} {cdv : Value} {A : Around} {outer : List Env} {s : Shared} {H : Hp} {E : XK} {k : Nat} (S : FnScope N ps scope) (hr : Room k (A.deeper (envOfC qual scope s.heap.objs.size f cdv))) :
    YOk (un (bX P w K mg base N qual scope f cdv A outer s H E)) P w K mg base N k := ⟨fun _ => rfl, fun _ => rfl, fun _ => rfl, fun _ => rfl, fun _ => rfl, fun _ => rfl, S.nd, fun _ => rfl, fun _ => hr⟩
theorem start_sr {N : List Str} {G B F H : Hp} {al : List Addr} {mu : Sto} {ws : List W} {vs : List V} (s : SRS K G B F H al mu) (p : Paired (RepW K F al) ws vs) : SR K G B F H al (startE N ws) (L2.start N vs) mu := by
  have l := Paired.length p
  refine ⟨s, by unfold startE L2.start; simp [l], fun i u e => ?_⟩
  unfold startE at e
  unfold L2.start
  by_cases hi : i < ws.length
  · rw [List.getElem?_append_left (by simpa using hi), List.getElem?_map] at e
    cases q : ws[i]? with
    | none => rw [q] at e; cases e
    | some z =>
      rw [q] at e
      cases e
      obtain ⟨v, h1, h2⟩ := pGetL p q
      exact ⟨v, by rw [List.getElem?_append_left (by rw [List.length_map, ← l]; exact hi), List.getElem?_map, h1]; rfl, h2⟩
  · rw [List.getElem?_append_right (by simpa using hi), List.getElem?_replicate] at e
    split at e <;> cases e
/-- THE RULE for a def -/
theorem fnv_ok {x qual : Str} {st : Stmt} {f : Addr} {fd : FuncData} {N ps : List Str} {k : Nat} {sp : VSp} (F : Fun K x qual st f fd) (S : FnScope N ps (defScope st)) (hlen : ∀ ws mu Q, sp ws mu Q → ws.length = ps.length)
    (body : ∀ (cdv : Value) (A : Around) (outer : List Env) (s : Shared) (H : Hp) (E : XK), YOk (un (bX P w K mg base N qual (defScope st) f cdv A outer s H E)) P w K mg base N k →
      ∃ g, VSs (bX P w K mg base N qual (defScope st) f cdv A outer s H E) K (defBody st) g ∧ ∀ ws mu Q, sp ws mu Q → g { nx := fun _ mu => Q (.d .non) mu, rt := Q } (startE N ws) mu) : FnOk P w K mg base CX0 (k + 1) f fd ps (toSp K sp) := by
  refine F.ok S (fun vs H Q E h => ?_) (fun cdv A outer s H vs Q E hr h => ?_)
  · obtain ⟨B, F, al, mu, ws, Qd, s, p, h, _⟩ := h
    rw [← Paired.length p]; exact hlen _ _ _ h
  · obtain ⟨B, F, al, mu, ws, Qd, s', p, h, q⟩ := h
    obtain ⟨g, ⟨t, ht, d⟩, hg⟩ := body cdv A outer s H E (bX_ok S hr)
    refine ⟨t, ht, d F B F H al _ _ mu _ _ (start_sr s' p) (hg ws mu Qd h) ⟨fun F' H' al' rh si mu' x s2 h2 => q F' H' al' mu' _ _ x s2.s (.d .non) h2, fun F' H' al' mu' u v x s2 r h2 => q F' H' al' mu' u v x s2 r h2, fun _ _ _ _ _ _ _ _ z => z.elim, fun _ _ _ _ _ _ _ _ z => z.elim⟩⟩
end
end VL
namespace VL
open PySem PySem.Spec PyProof.Rows L2 RZ

/-! ### a snapshot in any heap that has what is read -/
mutual
@[simp] def dflat : D → Bool
  | .lst _ => false
  | .scr _ => false
  | .tup xs => dflats xs
  | _ => true
@[simp] def dflats : List D → Bool
  | [] => true
  | x :: xs => dflat x && dflats xs
end
mutual
@[simp] def wflat : W → Bool
  | .d x => dflat x
  | .tup ws => wflats ws
  | _ => true
@[simp] def wflats : List W → Bool
  | [] => true
  | x :: xs => wflat x && wflats xs
end
@[simp] def cflat : C → Bool
  | .lst xs => dflats xs
  | .lstW ws => wflats ws
  | .ins _ fs => wflats (fs.map (·.2))
  | .dk kvs => dflats (kvs.map (·.2))
  | .dl _ _ kvs => dflats (kvs.map (·.2))
  | .dn _ kvs => wflats (kvs.map (·.2))
  | .exc _ _ => false
mutual
@[simp] def snapF (mu : Sto) : W → Option D
  | .d x => if dflat x then some x else none
  | .tup ws => (snapFs mu ws).map .tup
  | .loc k => match mu[k]? with
    | some (.lst xs) => if dflats xs then some (.lst xs) else none
    | _ => none
  | _ => none
@[simp] def snapFs (mu : Sto) : List W → Option (List D)
  | [] => some []
  | w :: ws => match snapF mu w, snapFs mu ws with
    | some x, some xs => some (x :: xs)
    | _, _ => none
end
section
variable {K : KW} {G B F F' F2 H H' Fc : Hp} {al al' : List Addr} {mu mu' : Sto}
/-- what F2 must have of F: all, or the tuples -/
def Tups (F F2 : Hp) : Prop := ∀ a o, F a = some o → tupO o = true → F2 a = some o
theorem Tups.sqT {a : Addr} {vs : List V} (h : Tups F F2) (r : SqT K F a vs) : SqT K F2 a vs := by
  rcases r with (r | ⟨o, r⟩) | r
  · exact .inl (.inl (h _ _ r rfl))
  · exact .inl (.inr ⟨o, h _ _ r rfl⟩)
  · exact .inr r
mutual
theorem flat_rep (h : Tups F F2) : ∀ {x : D} {v : V}, RepD K F x v → dflat x = true → RepD K F2 x v
  | _, _, .non, _ => .non
  | _, _, .bl b, _ => .bl b
  | _, _, .int i, _ => .int i
  | _, _, .str x q, _ => .str x q
  | _, _, .tup s z r, e => .tup (h.sqT s) z (flats_rep h r (by simpa [dflat] using e))
  | _, _, .lst s z r, e => by simp [dflat] at e
  | _, _, .scr s z, e => by simp [dflat] at e
theorem flats_rep (h : Tups F F2) : ∀ {x : List D} {v : List V}, RepDs K F x v → dflats x = true → RepDs K F2 x v
  | _, _, .nil, _ => .nil
  | _, _, .cons r t, e => by
    have e' := e
    unfold dflats at e'
    rw [Bool.and_eq_true] at e'
    exact .cons (flat_rep h r e'.1) (flats_rep h t e'.2)
end
mutual
theorem snap_in (s : SRS K G B F H al mu) (h1 : Same F F2) (h2 : ∀ a ∈ al, ∀ o, H a = some o → F2 a = some o) : ∀ {w : W} {v : V} {x : D}, RepW K F al w v → snap mu w = some x → RepD K F2 x v
  | .d x, _, _, .d r, e => by cases e; exact r.mono h1
  | .tup ws, _, _, .tup q z r, e => by
    unfold snap at e
    cases q1 : snaps mu ws with
    | none => rw [q1] at e; cases e
    | some xs => rw [q1] at e; cases e; exact .tup (sqtMono h1 q) z (snaps_in s h1 h2 r q1)
  | .loc k, _, _, .loc ea, e => by
    unfold snap at e
    cases q : mu[k]? with
    | none => rw [q] at e; cases e
    | some c =>
      cases c with
      | lst xs =>
        rw [q] at e; cases e
        obtain ⟨vs, h, z, p⟩ := s.lstAt q ea
        exact .lst (Rd.of (h2 _ (List.mem_of_getElem? ea) _ h)) z (.of (Paired.mapP p fun _ _ r => r.mono h1))
      | lstW ws =>
        rw [q] at e
        cases q2 : asDs ws with
        | none => simp only [q2] at e; cases e
        | some xs =>
          simp only [q2] at e; cases e
          obtain ⟨vs, h, z, p⟩ := s.lstWAt q ea
          exact .lst (Rd.of (h2 _ (List.mem_of_getElem? ea) _ h)) z ((asDs_rep (.of p) q2).mono h1)
      | _ => rw [q] at e; cases e
  | .ty _, _, _, _, e => by cases e
  | .raw _, _, _, _, e => by cases e
theorem snaps_in (s : SRS K G B F H al mu) (h1 : Same F F2) (h2 : ∀ a ∈ al, ∀ o, H a = some o → F2 a = some o) : ∀ {ws : List W} {vs : List V} {xs : List D}, RepWs K F al ws vs → snaps mu ws = some xs → RepDs K F2 xs vs
  | [], _, _, .nil, e => by cases e; exact .nil
  | w :: ws, _, _, .cons r t, e => by
    unfold snaps at e
    cases q : snap mu w with
    | none => rw [q] at e; cases e
    | some x =>
      cases q2 : snaps mu ws with
      | none => rw [q, q2] at e; cases e
      | some xs => rw [q, q2] at e; cases e; exact .cons (snap_in s h1 h2 r q) (snaps_in s h1 h2 t q2)
end
mutual
theorem snapF_in (s : SRS K G B F H al mu) (h1 : Tups F F2) (h2 : ∀ a ∈ al, ∀ o, H a = some o → F2 a = some o) : ∀ {w : W} {v : V} {x : D}, RepW K F al w v → snapF mu w = some x → RepD K F2 x v
  | .d x, _, _, .d r, e => by
    unfold snapF at e
    split at e
    · cases e; exact flat_rep h1 r (by assumption)
    · cases e
  | .tup ws, _, _, .tup q z r, e => by
    unfold snapF at e
    cases q1 : snapFs mu ws with
    | none => rw [q1] at e; cases e
    | some xs => rw [q1] at e; cases e; exact .tup (h1.sqT q) z (snapFs_in s h1 h2 r q1)
  | .loc k, _, _, .loc ea, e => by
    unfold snapF at e
    cases q : mu[k]? with
    | none => rw [q] at e; cases e
    | some c =>
      cases c with
      | lst xs =>
        rw [q] at e
        simp only at e
        split at e
        · cases e
          obtain ⟨vs, h, z, p⟩ := s.lstAt q ea
          exact .lst (Rd.of (h2 _ (List.mem_of_getElem? ea) _ h)) z (flats_rep h1 (.of p) (by assumption))
        · cases e
      | _ => rw [q] at e; cases e
  | .ty _, _, _, _, e => by cases e
  | .raw _, _, _, _, e => by cases e
theorem snapFs_in (s : SRS K G B F H al mu) (h1 : Tups F F2) (h2 : ∀ a ∈ al, ∀ o, H a = some o → F2 a = some o) : ∀ {ws : List W} {vs : List V} {xs : List D}, RepWs K F al ws vs → snapFs mu ws = some xs → RepDs K F2 xs vs
  | [], _, _, .nil, e => by cases e; exact .nil
  | w :: ws, _, _, .cons r t, e => by
    unfold snapFs at e
    cases q : snapF mu w with
    | none => rw [q] at e; cases e
    | some x =>
      cases q2 : snapFs mu ws with
      | none => rw [q, q2] at e; cases e
      | some xs => rw [q, q2] at e; cases e; exact .cons (snapF_in s h1 h2 r q) (snapFs_in s h1 h2 t q2)
end

/-! ### coming back from a call -/
theorem SRS.fresh (s' : SRS K Fc H F' H' al' mu') {a : Addr} (h : a ∈ al') : H a = none := by
  obtain ⟨k, hk⟩ := List.mem_iff_getElem?.mp h
  obtain ⟨c, hc⟩ := s'.has hk
  obtain ⟨_, _, q, _, _⟩ := s'.at hc hk
  exact q
theorem ret_frz (s : SRS K G B F H al mu) (s' : SRS K Fc H F' H' al' mu') (ha : Same F F2) (hb : Same F2 H') (hc : ∀ a o, F2 a = some o → F a = some o ∨ H a = none ∨ tupO o = true) : SRS K G B F2 H' al mu ∧ Ext F al F2 al where
  left := {
    fz := hb
    bs := s.bs.trans s'.bs
    gf := s.gf.trans ha
    fr := fun a o e => by
      rcases hc a o e with q | q | q
      · exact s.fr a o q
      · exact .inr (.inl (sameNone s.bs q))
      · exact .inr (.inr q)
    nd := s.nd
    len := s.len
    st := fun k c e => by
      obtain ⟨a, o, e1, e2, e3, e4, e5⟩ := s.st k c e
      refine ⟨a, o, e1, ?_, e3, s'.bs _ _ e4, e5.mono ⟨ha, [], by simp⟩⟩
      cases q : F2 a with
      | none => rfl
      | some u =>
        rcases hc a u q with z | z | z
        · rw [e2] at z; cases z
        · rw [e4] at z; cases z
        · have := hb _ _ q
          rw [s'.bs _ _ e4] at this
          cases this
          rw [e5.notTup] at z; cases z }
  right := ⟨ha, [], by simp⟩
/-- with the callee's containers frozen -/
def plusC (F2 H' : Hp) (al' : List Addr) : Hp := fun a => if a ∈ al' then H' a else F2 a
theorem plusC_ok (s : SRS K G B F H al mu) (s' : SRS K Fc H F' H' al' mu') (ha : Same F F2) (hb : Same F2 H') (hc : ∀ a o, F2 a = some o → F a = some o ∨ H a = none ∨ tupO o = true) :
    Same F (plusC F2 H' al') ∧ Same (plusC F2 H' al') H' ∧ (∀ a o, plusC F2 H' al' a = some o → F a = some o ∨ H a = none ∨ tupO o = true) ∧ Same F2 (plusC F2 H' al') ∧ ∀ a ∈ al', ∀ o, H' a = some o → plusC F2 H' al' a = some o := by
  have key : Same F2 (plusC F2 H' al') := fun a o e => by
    unfold plusC
    split
    · exact hb _ _ e
    · exact e
  refine ⟨ha.trans key, fun a o e => ?_, fun a o e => ?_, key, fun a hm o e => by unfold plusC; rw [if_pos hm]; exact e⟩
  · unfold plusC at e
    split at e
    · exact e
    · exact hb _ _ e
  · unfold plusC at e
    split at e
    · rename_i hm
      exact .inr (.inl (s'.fresh hm))
    · exact hc a o e
/-- F and the tuples of F' -/
def cutT (F F' : Hp) : Hp := fun a => match F a with
  | some o => some o
  | none => match F' a with
    | some o => if tupO o then some o else none
    | none => none
theorem cutT_ok (s : SRS K G B F H al mu) (s' : SRS K H H F' H' al' mu') : Same F (cutT F F') ∧ Same (cutT F F') H' ∧ (∀ a o, cutT F F' a = some o → F a = some o ∨ H a = none ∨ tupO o = true) ∧ Tups F' (cutT F F') := by
  have FF : Same F F' := s.fz.trans s'.gf
  refine ⟨fun a o e => by unfold cutT; rw [e], fun a o e => ?_, fun a o e => ?_, fun a o e t => ?_⟩
  · unfold cutT at e
    split at e
    · cases e; exact s'.bs _ _ (s.fz _ _ (by assumption))
    · split at e
      · split at e
        · cases e; exact s'.fz _ _ (by assumption)
        · cases e
      · cases e
  · unfold cutT at e
    split at e
    · cases e; exact .inl (by assumption)
    · split at e
      · split at e
        · cases e; exact .inr (.inr (by assumption))
        · cases e
      · cases e
  · unfold cutT
    split
    · rename_i u q
      rw [FF _ _ q] at e; exact e
    · rw [e]; simp [t]
theorem same_ok (s : SRS K G B F H al mu) (s' : SRS K F H F' H' al' mu') : Same F F' ∧ Same F' H' ∧ ∀ a o, F' a = some o → F a = some o ∨ H a = none ∨ tupO o = true := ⟨s'.gf, s'.fz, s'.fr⟩

/-! ### the callee's containers become ours -/
mutual
@[simp] def shiftW (n : Nat) : W → W
  | .loc k => .loc (n + k)
  | .tup ws => .tup (shiftWs n ws)
  | w => w
@[simp] def shiftWs (n : Nat) : List W → List W
  | [] => []
  | w :: ws => shiftW n w :: shiftWs n ws
end
@[simp] def shiftC (n : Nat) : C → C
  | .lstW ws => .lstW (shiftWs n ws)
  | .ins c fs => .ins c (fs.map fun p => (p.1, shiftW n p.2))
  | .dn lk kvs => .dn lk (kvs.map fun p => (p.1, shiftW n p.2))
  | c => c
mutual
theorem shift_rep (h : Same F F2 ∨ Tups F F2) : ∀ {w : W} {v : V}, RepW K F al' w v → (Same F F2 ∨ wflat w = true) → RepW K F2 (al ++ al') (shiftW al.length w) v
  | _, _, .d r, e => by
    unfold shiftW
    rcases e with e | e
    · exact .d (r.mono e)
    · rcases h with h | h
      · exact .d (r.mono h)
      · exact .d (flat_rep h r (by simpa [wflat] using e))
  | _, _, .loc ea, _ => by
    unfold shiftW
    refine .loc ?_
    rw [List.getElem?_append_right (by omega)]
    simpa using ea
  | _, _, .ty n, _ => by unfold shiftW; exact .ty n
  | _, _, .raw a, _ => by unfold shiftW; exact .raw a
  | _, _, .tup s z r, e => by
    unfold shiftW
    refine .tup ?_ z (shifts_rep h r (e.imp id fun q => by simpa [wflat] using q))
    rcases h with h | h
    · exact sqtMono h s
    · exact h.sqT s
theorem shifts_rep (h : Same F F2 ∨ Tups F F2) : ∀ {w : List W} {v : List V}, RepWs K F al' w v → (Same F F2 ∨ wflats w = true) → RepWs K F2 (al ++ al') (shiftWs al.length w) v
  | _, _, .nil, _ => by unfold shiftWs; exact .nil
  | _, _, .cons r t, e => by
    unfold shiftWs
    exact .cons (shift_rep h r (e.imp id fun q => by unfold wflats at q; rw [Bool.and_eq_true] at q; exact q.1)) (shifts_rep h t (e.imp id fun q => by unfold wflats at q; rw [Bool.and_eq_true] at q; exact q.2))
end
theorem flats_mem : ∀ {xs : List D}, dflats xs = true → ∀ x ∈ xs, dflat x = true
  | [], _, x, h => by cases h
  | y :: ys, e, x, h => by
    unfold dflats at e
    rw [Bool.and_eq_true] at e
    rcases List.mem_cons.mp h with rfl | h
    · exact e.1
    · exact flats_mem e.2 x h
theorem wflats_mem : ∀ {xs : List W}, wflats xs = true → ∀ x ∈ xs, wflat x = true
  | [], _, x, h => by cases h
  | y :: ys, e, x, h => by
    unfold wflats at e
    rw [Bool.and_eq_true] at e
    rcases List.mem_cons.mp h with rfl | h
    · exact e.1
    · exact wflats_mem e.2 x h
theorem mapPm {A1 B1 : Type} {R S : A1 → B1 → Prop} : ∀ {xs : List A1} {ys : List B1}, Paired R xs ys → (∀ x ∈ xs, ∀ y, R x y → S x y) → Paired S xs ys
  | _, _, .nil, _ => .nil
  | _, _, .cons r t, h => .cons (h _ (by simp) _ r) (mapPm t fun x hx => h x (by simp [hx]))
theorem mapPmap {A1 B1 C1 : Type} {R : A1 → B1 → Prop} {S : C1 → B1 → Prop} (f : A1 → C1) : ∀ {xs : List A1} {ys : List B1}, Paired R xs ys → (∀ x ∈ xs, ∀ y, R x y → S (f x) y) → Paired S (xs.map f) ys
  | _, _, .nil, _ => .nil
  | _, _, .cons r t, h => .cons (h _ (by simp) _ r) (mapPmap f t fun x hx => h x (by simp [hx]))
mutual
theorem nkey_flat : ∀ {d : D} {k : NestedKey}, nkey d = some k → dflat d = true
  | .int _, _, _ => rfl
  | .str _, _, _ => rfl
  | .tup xs, k, h => by
    unfold nkey at h
    cases q : nkeys xs with
    | none => rw [q] at h; cases h
    | some ks => unfold dflat; exact nkeys_flat q
  | .non, _, h => by cases h
  | .bl _, _, h => by cases h
  | .lst _, _, h => by cases h
  | .scr _, _, h => by cases h
theorem nkeys_flat : ∀ {d : List D} {k : List NestedKey}, nkeys d = some k → dflats d = true
  | [], _, _ => rfl
  | x :: xs, k, h => by
    unfold nkeys at h
    cases q : nkey x with
    | none => rw [q] at h; cases h
    | some k1 =>
      cases q2 : nkeys xs with
      | none => rw [q, q2] at h; cases h
      | some ks => unfold dflats; rw [nkey_flat q, nkeys_flat q2]; rfl
end
theorem shiftC_rep (h : Same F F2 ∨ Tups F F2) {c : C} {o : HO} {a : Addr} (r : CRep K F al' a c o) (e : Same F F2 ∨ cflat c = true) : CRep K F2 (al ++ al') a (shiftC al.length c) o := by
  have dd : ∀ {x : D} {v : V}, RepD K F x v → (Same F F2 ∨ dflat x = true) → RepD K F2 x v := fun r e => by
    rcases e with e | e
    · exact r.mono e
    · rcases h with h | h
      · exact r.mono h
      · exact flat_rep h r e
  cases r with
  | lst z p => exact .lst z (mapPm p fun x hx v r => dd r (e.imp id fun q => flats_mem (by simpa [cflat] using q) x hx))
  | lstW z p => exact .lstW z (shifts_rep h (.of p) (e.imp id fun q => by simpa [cflat] using q)).p
  | ins z p =>
    refine .ins z (mapPmap _ p fun x hx v r => ⟨r.1, shift_rep h r.2 (e.imp id fun q => ?_)⟩)
    exact wflats_mem (show wflats _ = true from q) _ (List.mem_map.mpr ⟨x, hx, rfl⟩)
  | dk p q0 =>
    refine .dk (mapPm p fun x hx v r => ⟨r.1, dd r.2 (e.imp id fun q => ?_)⟩) q0
    exact flats_mem (show dflats _ = true from q) _ (List.mem_map.mpr ⟨x, hx, rfl⟩)
  | dl p q0 =>
    refine .dl (mapPm p fun x hx v r => ⟨r.1, dd r.2 (e.imp id fun q => ?_)⟩) q0
    exact flats_mem (show dflats _ = true from q) _ (List.mem_map.mpr ⟨x, hx, rfl⟩)
  | dn p =>
    refine .dn (mapPmap _ p fun x hx v r => ⟨r.1, dd r.2.1 (.inr (nkey_flat r.1.1)), shift_rep h r.2.2 (e.imp id fun q => ?_)⟩)
    exact wflats_mem (show wflats _ = true from q) _ (List.mem_map.mpr ⟨x, hx, rfl⟩)
  | exc0 z => exact .exc0 z
  | exc1 z e1 p =>
    rcases e with e | e
    · exact .exc1 z (e _ _ e1) (Paired.mapP p fun _ _ q => ⟨q.1, q.2.mono e⟩)
    · simp at e
theorem ret_own (s : SRS K G B F H al mu) (s' : SRS K Fc H F' H' al' mu') (ha : Same F F2) (hb : Same F2 H') (hc : ∀ a o, F2 a = some o → F a = some o ∨ H a = none ∨ tupO o = true) (hn : ∀ a ∈ al', F2 a = none) (h : Same F' F2 ∨ Tups F' F2) (hf : Same F' F2 ∨ mu'.all cflat = true) :
    SRS K G B F2 H' (al ++ al') (mu ++ mu'.map (shiftC mu.length)) ∧ Ext F al F2 (al ++ al') := by
  obtain ⟨s1, x1⟩ := ret_frz s s' ha hb hc
  refine ⟨⟨s1.fz, s1.bs, s1.gf, s1.fr, ?_, by simp [s1.len, s'.len], fun k c e => ?_⟩, ⟨ha, al', rfl⟩⟩
  · refine List.nodup_append.mpr ⟨s.nd, s'.nd, fun a h1 b h2 e => ?_⟩
    subst e
    obtain ⟨k, hk⟩ := List.mem_iff_getElem?.mp h1
    obtain ⟨c, hc⟩ := s.has hk
    obtain ⟨_, _, _, q, _⟩ := s.at hc hk
    rw [s'.fresh h2] at q; cases q
  · by_cases hk : k < mu.length
    · rw [List.getElem?_append_left hk] at e
      obtain ⟨a, o, e1, e2, e3, e4, e5⟩ := s1.st k c e
      exact ⟨a, o, by rw [List.getElem?_append_left (by rw [s1.len]; exact hk)]; exact e1, e2, e3, e4, e5.mono ⟨Same.refl F2, al', rfl⟩⟩
    · rw [List.getElem?_append_right (by omega), List.getElem?_map] at e
      cases q : mu'[k - mu.length]? with
      | none => rw [q] at e; cases e
      | some c' =>
        rw [q] at e
        cases e
        obtain ⟨a, o, e1, e2, e3, e4, e5⟩ := s'.st _ c' q
        have hm := List.mem_of_getElem? e1
        refine ⟨a, o, by rw [List.getElem?_append_right (by rw [s1.len]; omega), s1.len]; exact e1, hn a hm, sameNone s.bs e3, e4, ?_⟩
        rw [← s.len]
        exact shiftC_rep h e5 (hf.imp id fun z => List.all_eq_true.mp z _ (List.mem_of_getElem? q))
end

/-! ### calls of defs -/
abbrev PSp := List D → (W → Sto → Prop) → Prop
/-- a def that gets data alone -/
@[simp] def pSp (sp : PSp) : VSp := fun ws mu Q => mu = [] ∧ ∃ ds, ws = List.map W.d ds ∧ sp ds Q
@[simp] def allD (ws : List W) : Bool := ws.all fun w => match w with
  | .d _ => true
  | _ => false
/-- what comes back: frozen -/
@[simp] def backF (a : Bool) (w : W) (mu' mu : Sto) (Q : W → Sto → Prop) : Prop := match (if a then snap mu' w else snapF mu' w) with
  | some x => Q (.d x) mu
  | none => False
/-- .. our own -/
@[simp] def backO (a : Bool) (w : W) (mu' mu : Sto) (Q : W → Sto → Prop) : Prop := (a || (wflat w && mu'.all cflat)) = true ∧ Q (shiftW mu.length w) (mu ++ mu'.map (shiftC mu.length))
@[simp] def wCallP (o : Bool) (sp : PSp) (dds : List D) (g : WA) : WE := fun rh mu Q => g rh mu fun ws mu1 => match snaps mu1 ws with
  | some ds => sp (ds ++ dds) fun w mu' => if o then backO (allD ws) w mu' mu1 Q else backF (allD ws) w mu' mu1 Q
  | none => False
section
variable {K : KW} {G B F F' F2 H H' Fc : Hp} {al al' : List Addr} {mu mu' : Sto}
theorem allD_reps : ∀ {ws : List W} {vs : List V} {ds : List D}, Paired (RepW K F al) ws vs → allD ws = true → snaps mu ws = some ds → RepDs K F ds vs
  | [], _, _, .nil, _, e => by cases e; exact .nil
  | w :: ws, _, ds, .cons r t, a, e => by
    unfold allD at a
    rw [List.all_cons, Bool.and_eq_true] at a
    cases w with
    | d x =>
      unfold snaps at e
      cases q : snaps mu ws with
      | none => simp only [q] at e; split at e <;> simp_all
      | some xs =>
        simp only [q] at e
        have : ds = x :: xs := by simp only [snap] at e; cases e; rfl
        subst this
        cases r with
        | d r => exact .cons r (allD_reps t a.2 q)
    | _ => simp at a
theorem pMapDs {ds : List D} {vs : List V} (p : RepDs K F ds vs) : Paired (RepW K F al) (ds.map W.d) vs := pMapD p.p
theorem SRS.none {B F H : Hp} (s : SRS K G B F H al mu) : SRS K F H F H [] [] := ⟨s.fz, Same.refl H, Same.refl F, fun a o e => .inl e, by simp, rfl, fun k c e => by simp at e⟩
theorem SRS.none' {B F H : Hp} (s : SRS K G B F H al mu) : SRS K H H H H [] [] := ⟨Same.refl H, Same.refl H, Same.refl H, fun a o e => .inl e, by simp, rfl, fun k c e => by simp at e⟩
/-- a call of a def that gets data alone -/
theorem callP_ok {o : Bool} {sp : PSp} {dds : List D} {dvs : List V} (hdd : ∀ F, RepDs K F dds dvs) {ws : List W} {vs : List V} {rh : Ev} {si : L2.St} {Qd : W → Sto → Prop} {Q : L2.VK} {E : XK} (s : SR K G B F H al rh si mu) (r : Paired (RepW K F al) ws vs)
    (h : match snaps mu ws with
      | some ds => sp (ds ++ dds) fun w mu' => if o then backO (allD ws) w mu' mu Qd else backF (allD ws) w mu' mu Qd
      | Option.none => False)
    (q : ∀ F' H' al' mu' w v, Ext F al F' al' → SR K G B F' H' al' rh si mu' → RepW K F' al' w v → Qd w mu' → Q v H') : toSp K (pSp sp) (vs ++ dvs) H Q E := by
  split at h
  · rename_i ds e
    -- behind the call
    have fin : ∀ (Fc F' H' : Hp) (al' : List Addr) (mu' : Sto) (u : W) (v : V), (Fc = F ∧ allD ws = true ∨ Fc = H ∧ allD ws = false) → SRS K Fc H F' H' al' mu' → RepW K F' al' u v → (if o then backO (allD ws) u mu' mu Qd else backF (allD ws) u mu' mu Qd) → Q v H' := by
      intro Fc F' H' al' mu' u v hF s' ru hb
      have al'N : ∀ a ∈ al', F' a = Option.none := fun a ha => by
        obtain ⟨k, hk⟩ := List.mem_iff_getElem?.mp ha
        obtain ⟨c, hc⟩ := s'.has hk
        obtain ⟨_, z, _, _, _⟩ := s'.at hc hk
        exact z
      rcases hF with ⟨rfl, ha⟩ | ⟨rfl, ha⟩
      · obtain ⟨a1, a2, a3⟩ := same_ok s.s s'
        rw [ha] at hb
        cases o with
        | false =>
          simp only [Bool.false_eq_true, if_false] at hb
          unfold backF at hb
          rw [if_pos rfl] at hb
          split at hb
          · rename_i x ex
            obtain ⟨b1, b2, b3, b4, b5⟩ := plusC_ok s.s s' a1 a2 a3
            obtain ⟨s2, x2⟩ := ret_frz s.s s' b1 b2 b3
            exact q _ _ _ _ _ _ x2 (s.step x2 s2) (.d (snap_in s' b4 b5 ru ex)) hb
          · exact hb.elim
        | true =>
          simp only [if_true] at hb
          obtain ⟨hf, hb⟩ := hb
          obtain ⟨s2, x2⟩ := ret_own s.s s' a1 a2 a3 al'N (.inl (Same.refl _)) (.inl (Same.refl _))
          have rr : RepW K F' (al ++ al') (shiftW al.length u) v := shift_rep (.inl (Same.refl _)) ru (.inl (Same.refl _))
          rw [s.s.len] at rr
          exact q _ _ _ _ _ _ x2 (s.step x2 s2) rr hb
      · obtain ⟨a1, a2, a3, a4⟩ := cutT_ok s.s s'
        rw [ha] at hb
        cases o with
        | false =>
          simp only [Bool.false_eq_true, if_false] at hb
          unfold backF at hb
          rw [if_neg (by simp)] at hb
          split at hb
          · rename_i x ex
            obtain ⟨b1, b2, b3, b4, b5⟩ := plusC_ok s.s s' a1 a2 a3
            obtain ⟨s2, x2⟩ := ret_frz s.s s' b1 b2 b3
            exact q _ _ _ _ _ _ x2 (s.step x2 s2) (.d (snapF_in s' (fun a u e t => b4 _ _ (a4 a u e t)) b5 ru ex)) hb
          · exact hb.elim
        | true =>
          simp only [if_true] at hb
          obtain ⟨hf, hb⟩ := hb
          rw [Bool.false_or, Bool.and_eq_true] at hf
          have hn : ∀ a ∈ al', cutT F F' a = Option.none := fun a ha => by
            have z1 := sameNone s.s.fz (s'.fresh ha)
            have z2 := al'N a ha
            unfold cutT
            rw [z1, z2]
          obtain ⟨s2, x2⟩ := ret_own s.s s' a1 a2 a3 hn (.inr a4) (.inr hf.2)
          have rr : RepW K (cutT F F') (al ++ al') (shiftW al.length u) v := shift_rep (.inr a4) ru (.inr hf.1)
          rw [s.s.len] at rr
          exact q _ _ _ _ _ _ x2 (s.step x2 s2) rr hb
    cases ha : allD ws with
    | true =>
      have rd := allD_reps r ha e
      refine ⟨H, F, [], [], _, _, s.s.none, pMapDs (.of (pApp rd.p (hdd F).p)), ⟨rfl, _, rfl, h⟩, fun F' H' al' mu' u v x s' ru hb => fin F F' H' al' mu' u v (.inl ⟨rfl, ha⟩) s' ru hb⟩
    | false =>
      have rd := snaps_rep s.s (.of r) e
      refine ⟨H, H, [], [], _, _, s.s.none', pMapDs (.of (pApp rd.p (hdd H).p)), ⟨rfl, _, rfl, h⟩, fun F' H' al' mu' u v x s' ru hb => fin H F' H' al' mu' u v (.inr ⟨rfl, ha⟩) s' ru hb⟩
  · exact h.elim
end
end VL
namespace VL
open PySem PySem.Spec PyProof.Rows L2 RZ

/-- a def of the module, as it is called with dds for the last parameters -/
def Def (P : Program) (w : World) (K : KW) (mg : Str → Option Value) (base : Heap) (x : Str) (k : Nat) (dds : List D) (sp : VSp) : Prop :=
  ∃ (f : Addr) (fd : FuncData) (ps : List Str) (ds : List Value) (dvs : List V), mg x = some (.ref f) ∧ PySem.W.keepIn K (.ref f) = true ∧ Binds K fd ps ds ∧ Vals dvs ds ∧ (∀ F, RepDs K F dds dvs) ∧ FnOk P w K mg base CX0 k f fd ps (toSp K sp)
/-- the store handed on -/
@[simp] def wCallS (sp : VSp) (dds : List D) (g : WA) : WE := fun rh mu Q => g rh mu fun ws mu1 => sp (ws ++ dds.map .d) mu1 Q
section
variable {K : KW} {G B F F' F2 H H' : Hp} {al al' : List Addr} {mu mu' : Sto} {rh : Ev} {si : L2.St}
/-- all but the containers must stay -/
def but (H : Hp) (al : List Addr) : Hp := fun a => if a ∈ al then none else H a
theorem callS_ok {sp : VSp} {dds : List D} {dvs : List V} (hdd : ∀ F, RepDs K F dds dvs) {ws : List W} {vs : List V} {Qd : W → Sto → Prop} {Q : L2.VK} {E : XK} (s : SR K G B F H al rh si mu) (r : Paired (RepW K F al) ws vs) (h : sp (ws ++ dds.map .d) mu Qd)
    (q : ∀ F' H' al' mu' w v, Ext F al F' al' → SR K G B F' H' al' rh si mu' → RepW K F' al' w v → Qd w mu' → Q v H') : toSp K sp (vs ++ dvs) H Q E := by
  have inAl : ∀ {a : Addr}, a ∈ al → B a = none ∧ F a = none := fun {a} hm => by
    obtain ⟨k, hk⟩ := List.mem_iff_getElem?.mp hm
    obtain ⟨c, hc⟩ := s.s.has hk
    obtain ⟨_, z1, z2, _, _⟩ := s.s.at hc hk
    exact ⟨z2, z1⟩
  have s0 : SRS K F (but H al) F H al mu := {
    fz := s.s.fz
    bs := fun a o e => by
      unfold but at e
      split at e
      · cases e
      · exact e
    gf := Same.refl F
    fr := fun a o e => .inl e
    nd := s.s.nd
    len := s.s.len
    st := fun k c e => by
      obtain ⟨a, o, e1, e2, e3, e4, e5⟩ := s.s.st k c e
      exact ⟨a, o, e1, e2, by unfold but; rw [if_pos (List.mem_of_getElem? e1)], e4, e5⟩ }
  refine ⟨but H al, F, al, mu, _, Qd, s0, pApp r (pMapDs (hdd F)), h, fun F' H' al' mu' u v x s' ru hq => ?_⟩
  have bN : ∀ {a : Addr}, but H al a = none → B a = none := fun {a} z => by
    unfold but at z
    split at z
    · exact (inAl (by assumption)).1
    · exact sameNone s.s.bs z
  have s2 : SRS K G B F' H' al' mu' := {
    fz := s'.fz
    bs := fun a o e => s'.bs _ _ (by
      unfold but
      rw [if_neg fun hm => by rw [(inAl hm).1] at e; cases e]
      exact s.s.bs _ _ e)
    gf := s.s.gf.trans s'.gf
    fr := fun a o e => by
      rcases s'.fr a o e with z | z | z
      · exact s.s.fr a o z
      · exact .inr (.inl (bN z))
      · exact .inr (.inr z)
    nd := s'.nd
    len := s'.len
    st := fun k c e => by
      obtain ⟨a, o, e1, e2, e3, e4, e5⟩ := s'.st k c e
      exact ⟨a, o, e1, e2, bN e3, e4, e5⟩ }
  exact q F' H' al' mu' u v x (s.step x s2) ru hq
end
section
variable {io : Type} {Y : io → Cx} {P : Program} {w : World} {K : KW} {mg : Str → Option Value} {base : Heap} {N : List Str} {k j : Nat} {pos p : Pos} {e : Expr} {es : List Expr} {ga : WA} {x : Str} {dds : List D}
theorem fnOk_at {f : Addr} {fd : FuncData} {ps : List Str} {sp : Sp} (y : YOk Y P w K mg base N k) (F : FnOk P w K mg base CX0 j f fd ps sp) (i : io) : FnOk (Y i).prog (Y i).w (Y i).K (Y i).mg (Y i).base CX0 j f fd ps sp := by
  rw [y.hP i, y.hw i, y.hK i, y.hmg i, y.hbase i]; exact F
theorem binds_at {fd : FuncData} {ps : List Str} {ds : List Value} (y : YOk Y P w K mg base N k) (F : Binds K fd ps ds) (i : io) : Binds (Y i).K fd ps ds := by
  rw [y.hK i]; exact F
/-- f(e, ..) of data -/
theorem ve_callP (y : YOk Y P w K mg base N k) (o : Bool) {sp : PSp} (d : Def P w K mg base x j dds (pSp sp)) (hj : j ≤ k) (ha : VA Y K (e :: es) ga) (hg : ∀ i, Gl (Y i) x := by exact fun _ => rfl) (hdb : (x == ("__debug__" : Str)) = false := by decide)
    (he : ∀ i, starEach (e :: es) (Y i).env = (false, eval e (Y i).env) :: starEach es (Y i).env := by exact fun _ => rfl) (hpl : ∀ i, (backTo pos (starEach es (Y i).env)).any (·.1) = false := by exact fun _ => rfl) : VE Y K (.Call (.Name x p) (e :: es) [] pos) (wCallP o sp dds ga) := by
  obtain ⟨f, fd, ps, ds, dvs, hm, hk, hb, hd, hdd, F⟩ := d
  obtain ⟨t, p1, d1⟩ := ha
  refine ⟨tCall (toSp K (pSp sp)) dvs E0 t, fun i => pe_call (fnOk_at y F i) ((y.room i).mono hj) (hg i) (by rw [y.hmg i]; exact hm) (by rw [y.hK i]; exact hk) (binds_at y hb i) hd pass0 (p1 i) hdb (he i) (hpl i), fun G B F H al rh si mu Qd Q s h q => ?_⟩
  refine d1 G B F H al rh si mu _ _ s h fun F1 H1 al1 mu1 ws vs e1 s1 r1 h1 => ?_
  exact callP_ok hdd s1 r1 h1 fun F2 H2 al2 mu2 z vz e2 => q F2 H2 al2 mu2 z vz (e1.trans e2)
/-- f(e, ..) with containers -/
theorem ve_callS (y : YOk Y P w K mg base N k) {sp : VSp} (d : Def P w K mg base x j dds sp) (hj : j ≤ k) (ha : VA Y K (e :: es) ga) (hg : ∀ i, Gl (Y i) x := by exact fun _ => rfl) (hdb : (x == ("__debug__" : Str)) = false := by decide)
    (he : ∀ i, starEach (e :: es) (Y i).env = (false, eval e (Y i).env) :: starEach es (Y i).env := by exact fun _ => rfl) (hpl : ∀ i, (backTo pos (starEach es (Y i).env)).any (·.1) = false := by exact fun _ => rfl) : VE Y K (.Call (.Name x p) (e :: es) [] pos) (wCallS sp dds ga) := by
  obtain ⟨f, fd, ps, ds, dvs, hm, hk, hb, hd, hdd, F⟩ := d
  obtain ⟨t, p1, d1⟩ := ha
  refine ⟨tCall (toSp K sp) dvs E0 t, fun i => pe_call (fnOk_at y F i) ((y.room i).mono hj) (hg i) (by rw [y.hmg i]; exact hm) (by rw [y.hK i]; exact hk) (binds_at y hb i) hd pass0 (p1 i) hdb (he i) (hpl i), fun G B F H al rh si mu Qd Q s h q => ?_⟩
  refine d1 G B F H al rh si mu _ _ s h fun F1 H1 al1 mu1 ws vs e1 s1 r1 h1 => ?_
  exact callS_ok hdd s1 r1 h1 fun F2 H2 al2 mu2 z vz e2 => q F2 H2 al2 mu2 z vz (e1.trans e2)
end
section
variable {P : Program} {w : World} {K : KW} {mg : Str → Option Value} {base : Heap}
/-- a def that stands behind the top -/
theorem def_mk {x qual : Str} {st : Stmt} {f : Addr} {fd : FuncData} {N ps : List Str} {k : Nat} {sp : VSp} (F : Fun K x qual st f fd) (hm : mg x = some (.ref f)) (S : FnScope N ps (defScope st)) (hb : Binds K fd ps []) (hlen : ∀ ws mu Q, sp ws mu Q → ws.length = ps.length)
    (body : ∀ (cdv : Value) (A : Around) (outer : List Env) (s : Shared) (H : Hp) (E : XK), YOk (un (bX P w K mg base N qual (defScope st) f cdv A outer s H E)) P w K mg base N k →
      ∃ g, VSs (bX P w K mg base N qual (defScope st) f cdv A outer s H E) K (defBody st) g ∧ ∀ ws mu Q, sp ws mu Q → g { nx := fun _ mu => Q (.d .non) mu, rt := Q } (startE N ws) mu) : Def P w K mg base x (k + 1) [] sp :=
  ⟨f, fd, ps, [], [], hm, F.kp, hb, .nil, fun _ => .nil, fnv_ok F S hlen body⟩
/-- the law's own promise -/
def lawSp : PSp := fun ds Q => ∃ ns, ds = [.scr ns] ∧ ns.length ≤ 63 ∧ ∀ mu, Q (.d (.bl true)) mu
end
end VL
namespace VL
open PySem PySem.Spec PyProof.Rows L2 RZ
theorem law_sp {K : KW} {H : Hp} {a : Addr} {ns : List Int} (hl : ns.length ≤ 63) (h : SqL K H a (ns.map V.int)) : toSp K (pSp lawSp) [.ref a] H (fun v _ => v = .bl true) fun _ _ _ => False := by
  refine ⟨H, H, [], [], [.d (.scr ns)], fun w _ => w = .d (.bl true), ⟨Same.refl H, Same.refl H, Same.refl H, fun _ _ e => .inl e, by simp, rfl, fun k c e => by simp at e⟩, .cons (.d (.scr h (Nat.le_trans hl (by decide)))) .nil, ⟨rfl, [.scr ns], rfl, ns, rfl, hl, fun _ => rfl⟩, fun F' H' al' mu' u v x s r e => ?_⟩
  subst e
  cases r with
  | d r => cases r; rfl
theorem law_walk {l : PySem.W.OpenLaw} {q : Program} {loose : List Str} {XP : (Str → Option Value) → Heap → Prop} {YP : World → Heap → Prop} {d : DefRec} {K : Params → PySem.W.Frag} {k : Nat} {x : Str} (hn : l.most = some 63) (hdf : d.params.defaults = []) (hr : Room k callerA)
    (hY : ∀ (w : World) (h : Heap), YP w h → (K w.params).In h)
    (F : ∀ (w : World) (mg : Str → Option Value) (fa : Addr) (h : Heap), (K w.params).In h → h.Ns mainGlobals mg → mg d.name = some (.ref fa) →
      ∃ fd : FuncData, (∀ (s : Shared) (u : Value), BindsTo s fd ⟨[u], []⟩ [(x, u)]) ∧
        ∀ base : Heap, (K w.params).In base → base.Ns mainGlobals mg → FnOk l.prog w (K w.params) mg base CX0 k fa fd [x] (toSp ⟨K w.params, w⟩ (pSp lawSp))) :
    PySem.W.WalkO q loose XP YP l.row.toRowW d [] (fun f vs => PySem.call f vs) :=
  L2.walk_of (CX := fun _ => CX0) (sp := fun w => toSp ⟨K w.params, w⟩ (pSp lawSp)) hn (by decide) hdf hr hY F (fun _ _ _ _ hl _ hS => law_sp hl hS) fun _ _ _ _ _ z => z
end VL
namespace VL
open PySem PySem.Spec PyProof.Rows L2 RZ

/-! ### reckoning with the values -/
@[simp] def evr (Q : W → Sto → Prop) : EV := { nx := fun _ mu => Q (.d .non) mu, rt := Q }
@[simp] def sp0 (g : (W → Sto → Prop) → Prop) : PSp := fun ds Q => match ds with
  | [] => g Q
  | _ => False
@[simp] def sp1 (g : D → (W → Sto → Prop) → Prop) : PSp := fun ds Q => match ds with
  | [a] => g a Q
  | _ => False
@[simp] def sp2 (g : D → D → (W → Sto → Prop) → Prop) : PSp := fun ds Q => match ds with
  | [a, b] => g a b Q
  | _ => False
@[simp] def sp3 (g : D → D → D → (W → Sto → Prop) → Prop) : PSp := fun ds Q => match ds with
  | [a, b, c] => g a b c Q
  | _ => False
@[simp] def sp4 (g : D → D → D → D → (W → Sto → Prop) → Prop) : PSp := fun ds Q => match ds with
  | [a, b, c, d] => g a b c d Q
  | _ => False
theorem len1 {g} {ws : List W} {mu : Sto} {Q} (h : pSp (sp1 g) ws mu Q) : ws.length = 1 := by
  obtain ⟨_, ds, rfl, h⟩ := h
  unfold sp1 at h
  split at h
  · rfl
  · exact h.elim
theorem len2 {g} {ws : List W} {mu : Sto} {Q} (h : pSp (sp2 g) ws mu Q) : ws.length = 2 := by
  obtain ⟨_, ds, rfl, h⟩ := h
  unfold sp2 at h
  split at h
  · rfl
  · exact h.elim
theorem len3 {g} {ws : List W} {mu : Sto} {Q} (h : pSp (sp3 g) ws mu Q) : ws.length = 3 := by
  obtain ⟨_, ds, rfl, h⟩ := h
  unfold sp3 at h
  split at h
  · rfl
  · exact h.elim
theorem len4 {g} {ws : List W} {mu : Sto} {Q} (h : pSp (sp4 g) ws mu Q) : ws.length = 4 := by
  obtain ⟨_, ds, rfl, h⟩ := h
  unfold sp4 at h
  split at h
  · rfl
  · exact h.elim
theorem lenL {ws : List W} {mu : Sto} {Q} (h : pSp lawSp ws mu Q) : ws.length = 1 := by
  obtain ⟨_, ds, rfl, ns, rfl, _⟩ := h
  rfl
/-- from the promise to the body -/
theorem at0 {g} {f : WS} {N : List Str} (v : ∀ Q, g Q → f (evr Q) (startE N []) []) : ∀ ws mu Q, pSp (sp0 g) ws mu Q → f { nx := fun _ mu => Q (.d .non) mu, rt := Q } (startE N ws) mu := fun ws mu Q h => by
  obtain ⟨rfl, ds, rfl, h⟩ := h
  unfold sp0 at h
  split at h
  · exact v _ h
  · exact h.elim
theorem at1 {g} {f : WS} {N : List Str} (v : ∀ a Q, g a Q → f (evr Q) (startE N [.d a]) []) : ∀ ws mu Q, pSp (sp1 g) ws mu Q → f { nx := fun _ mu => Q (.d .non) mu, rt := Q } (startE N ws) mu := fun ws mu Q h => by
  obtain ⟨rfl, ds, rfl, h⟩ := h
  unfold sp1 at h
  split at h
  · exact v _ _ h
  · exact h.elim
theorem at2 {g} {f : WS} {N : List Str} (v : ∀ a b Q, g a b Q → f (evr Q) (startE N [.d a, .d b]) []) : ∀ ws mu Q, pSp (sp2 g) ws mu Q → f { nx := fun _ mu => Q (.d .non) mu, rt := Q } (startE N ws) mu := fun ws mu Q h => by
  obtain ⟨rfl, ds, rfl, h⟩ := h
  unfold sp2 at h
  split at h
  · exact v _ _ _ h
  · exact h.elim
theorem at3 {g} {f : WS} {N : List Str} (v : ∀ a b c Q, g a b c Q → f (evr Q) (startE N [.d a, .d b, .d c]) []) : ∀ ws mu Q, pSp (sp3 g) ws mu Q → f { nx := fun _ mu => Q (.d .non) mu, rt := Q } (startE N ws) mu := fun ws mu Q h => by
  obtain ⟨rfl, ds, rfl, h⟩ := h
  unfold sp3 at h
  split at h
  · exact v _ _ _ _ h
  · exact h.elim
theorem at4 {g} {f : WS} {N : List Str} (v : ∀ a b c d Q, g a b c d Q → f (evr Q) (startE N [.d a, .d b, .d c, .d d]) []) : ∀ ws mu Q, pSp (sp4 g) ws mu Q → f { nx := fun _ mu => Q (.d .non) mu, rt := Q } (startE N ws) mu := fun ws mu Q h => by
  obtain ⟨rfl, ds, rfl, h⟩ := h
  unfold sp4 at h
  split at h
  · exact v _ _ _ _ _ h
  · exact h.elim
theorem atL {f : WS} {N : List Str} (v : ∀ (ns : List Int) (Q : W → Sto → Prop), ns.length ≤ 63 → (∀ mu, Q (.d (.bl true)) mu) → f (evr Q) (startE N [.d (.scr ns)]) []) : ∀ ws mu Q, pSp lawSp ws mu Q → f { nx := fun _ mu => Q (.d .non) mu, rt := Q } (startE N ws) mu := fun ws mu Q h => by
  obtain ⟨rfl, ds, rfl, ns, rfl, hl, h⟩ := h
  exact v ns Q hl h

/-! ### numbers -/
@[simp] theorem gDiv_pos {i j : Int} (h : 0 < j) : gDiv i j = i / j := by unfold gDiv; rw [if_pos h]
@[simp] theorem gMod_pos {i j : Int} (h : 0 < j) : gMod i j = i % j := by unfold gMod; rw [if_pos h]
theorem log2_lt_of' {n a : Nat} (h0 : 0 < a) (h : n < 2 ^ a) : n.log2 < a := PySem.Flt.log2_lt_of h0 h
theorem CD_of {i j : Int} (h0 : j ≠ 0) (h1 : j.natAbs < 2 ^ 8000) : CD i j := ⟨h0, Nat.lt_of_lt_of_le (log2_lt_of' (by decide) h1) (by decide)⟩
@[simp] theorem CD_lit {i j : Int} (h0 : 0 < j) (h1 : j < 2 ^ 250) : CD i j ↔ True := ⟨fun _ => trivial, fun _ => ⟨by omega, by
  have h : j.natAbs < 2 ^ 250 := by
    have e : ((2 : Int) ^ 250) = ((2 ^ 250 : Nat) : Int) := by decide
    rw [e] at h1; omega
  exact Nat.lt_of_lt_of_le (log2_lt_of' (by decide) h) (by decide)⟩⟩
theorem CM_r {i j : Int} (h0 : -(2 ^ 64) < j) (h1 : j < 2 ^ 64) : CM i j := .inl (.inr ⟨h0, h1⟩)
theorem CM_l {i j : Int} (h0 : -(2 ^ 64) < i) (h1 : i < 2 ^ 64) : CM i j := .inl (.inl ⟨h0, h1⟩)
theorem CM_w {i j : Int} {a b : Nat} (h0 : i.natAbs < 2 ^ (a + 1)) (h1 : j.natAbs < 2 ^ (b + 1)) (h : a + b < 999990) : CM i j := .inr (by
  have x := log2_lt_of' (Nat.succ_pos _) h0
  have y := log2_lt_of' (Nat.succ_pos _) h1
  unfold CMulW
  omega)
@[simp] theorem CM_lit {i j : Int} (h0 : -(2 ^ 64) < j) (h1 : j < 2 ^ 64) : CM i j ↔ True := ⟨fun _ => trivial, fun _ => CM_r h0 h1⟩
@[simp] theorem CM_lit' {i j : Int} (h0 : -(2 ^ 64) < i) (h1 : i < 2 ^ 64) : CM i j ↔ True := ⟨fun _ => trivial, fun _ => CM_l h0 h1⟩
@[simp] theorem CM_lit2 {i j : Int} (h0 : -(2 ^ 250) < i) (h1 : i < 2 ^ 250) (h2 : -(2 ^ 250) < j) (h3 : j < 2 ^ 250) : CM i j ↔ True := ⟨fun _ => trivial, fun _ => by
  have e : ((2 : Int) ^ 250) = ((2 ^ 250 : Nat) : Int) := by decide
  rw [e] at h0 h1 h2 h3
  exact CM_w (a := 249) (b := 249) (by omega) (by omega) (by decide)⟩
@[simp] theorem CPow_lit {i j : Int} (h0 : 0 ≤ j) (h1 : j ≤ 1000000) (h2 : -(2 ^ 63) < i) (h3 : i < 2 ^ 63) : CPow i j ↔ True := ⟨fun _ => trivial, fun _ => ⟨h0, h1, by omega⟩⟩

/-! ### texts -/
theorem ofString_inj {a b : String} (h : Str.ofString a = Str.ofString b) : a = b := by
  have h1 : (Str.ofString a).cps.toList = (Str.ofString b).cps.toList := by rw [h]
  unfold Str.ofString at h1
  simp only at h1
  rw [cpsOfBytes_string, cpsOfBytes_string] at h1
  have h2 : a.toList = b.toList := by
    refine (List.map_inj_right (f := Char.toNat) fun x y e => ?_).mp h1
    exact Char.toNat_inj.mp e
  exact String.toList_inj.mp h2
@[simp] theorem str_beq (a b : String) : ((Str.ofString a) == (Str.ofString b)) = (a == b) := by
  rw [Bool.eq_iff_iff]
  simp only [beq_iff_eq]
  exact ⟨ofString_inj, fun h => by rw [h]⟩
@[simp] theorem str_eq (a b : String) : (Str.ofString a = Str.ofString b) ↔ (a = b) := ⟨ofString_inj, fun h => by rw [h]⟩

/-! ### lists of data -/
@[simp] theorem asDs_map : ∀ xs : List D, asDs (xs.map W.d) = some xs
  | [] => rfl
  | x :: xs => by simp [asDs_map xs]
@[simp] theorem asDs_mapf {A1 : Type} (f : A1 → D) : ∀ xs : List A1, asDs (xs.map fun x => W.d (f x)) = some (xs.map f)
  | [] => rfl
  | x :: xs => by simp [asDs_mapf f xs]
@[simp] theorem ddeps_int : ∀ ns : List Int, ddeps (ns.map D.int) = 0
  | [] => rfl
  | _ :: ns => by simp [ddeps_int ns]
theorem ddeps_le {n : Nat} : ∀ {xs : List D}, (∀ x ∈ xs, ddep x ≤ n) → ddeps xs ≤ n
  | [], _ => by simp
  | x :: xs, h => by
    have h1 := h x (by simp)
    have h2 := ddeps_le (xs := xs) fun y hy => h y (by simp [hy])
    simp only [ddeps]
    omega

theorem at_mem {A1 : Type} {xs : List A1} {i : Int} (h0 : 0 ≤ i) (h1 : i < xs.length) : ∃ x, atI xs i = some x ∧ x ∈ xs := by
  refine ⟨xs[i.toNat]'(by omega), ?_, List.getElem_mem _⟩
  unfold atI ixN
  rw [if_pos h0, if_pos h1]
  show xs[i.toNat]? = _
  simp
theorem at_nat {A1 : Type} {xs : List A1} {i : Int} (h0 : 0 ≤ i) (h1 : i < xs.length) : atI xs i = xs[i.toNat]? := by
  unfold atI ixN
  rw [if_pos h0, if_pos h1]; rfl
theorem at_getD {A1 : Type} {xs : List A1} {i : Int} (d : A1) (h0 : 0 ≤ i) (h1 : i < xs.length) : atI xs i = some (xs.getD i.toNat d) := by
  rw [at_nat h0 h1, List.getD_eq_getElem?_getD]
  have : i.toNat < xs.length := by omega
  simp [this]
theorem cutL_len {A1 : Type} (xs : List A1) (lo hi : Option Int) : (cutL xs lo hi).length ≤ xs.length := by
  unfold cutL
  rw [List.length_take, List.length_drop]; omega
@[simp] theorem cutL_map {A1 B1 : Type} (f : A1 → B1) (xs : List A1) (lo hi : Option Int) : cutL (xs.map f) lo hi = (cutL xs lo hi).map f := by
  unfold cutL
  rw [List.length_map, List.map_drop.symm, List.map_take.symm]
/-! ### comprehensions of data -/
theorem lc_pure {chk : Sto → Prop} {g : WG} {tt : WT} {te : WE} {rh : Ev} {mu : Sto} {Q : List W → Sto → Prop} (r : W → Option W) (hc : chk mu) : ∀ {items acc : List W},
    (∀ x ∈ items, ∀ (A : W → Sto → Prop) (B : Sto → Prop), (match r x with | some y => A y mu | none => B mu) → g x rh mu fun rh' mu1 => tt rh' mu1 fun b mu2 => if b = true then te rh' mu2 A else B mu2) →
    Q (acc ++ items.filterMap r) mu → lcL chk g tt te rh items acc mu Q
  | [], acc, _, h => ⟨hc, by simpa using h⟩
  | x :: xs, acc, H, h => by
    refine ⟨hc, H x (by simp) _ _ ?_⟩
    split
    · rename_i y e
      refine lc_pure r hc (fun z hz => H z (by simp [hz])) ?_
      rw [List.filterMap_cons, e] at h
      simpa using h
    · rename_i e
      refine lc_pure r hc (fun z hz => H z (by simp [hz])) ?_
      rw [List.filterMap_cons, e] at h
      exact h
theorem lc_D {chk : Sto → Prop} {g : WG} {tt : WT} {te : WE} {rh : Ev} {mu : Sto} {Q : List W → Sto → Prop} {ds : List D} (r : D → Option D) (hc : chk mu)
    (H : ∀ x ∈ ds, ∀ (A : W → Sto → Prop) (B : Sto → Prop), (match r x with | some y => A (.d y) mu | none => B mu) → g (.d x) rh mu fun rh' mu1 => tt rh' mu1 fun b mu2 => if b = true then te rh' mu2 A else B mu2)
    (h : Q ((ds.filterMap r).map W.d) mu) : lcL chk g tt te rh (ds.map W.d) [] mu Q := by
  refine lc_pure (fun w => match w with | .d x => (r x).map W.d | _ => none) hc (fun x hx A B q => ?_) ?_
  · obtain ⟨d, hd, rfl⟩ := List.mem_map.mp hx
    refine H d hd A B ?_
    cases e : r d with
    | none => simp only [e, Option.map_none] at q ⊢; exact q
    | some y => simp only [e, Option.map_some] at q ⊢; exact q
  · have e : (ds.map W.d).filterMap (fun w => match w with | .d x => (r x).map W.d | _ => none) = (ds.filterMap r).map W.d := by
      rw [List.filterMap_map, List.map_filterMap]
      rfl
    rw [List.nil_append, e]
    exact h
/-- .. without a test -/
theorem lc_M {chk : Sto → Prop} {g : WG} {te : WE} {rh : Ev} {mu : Sto} {Q : List W → Sto → Prop} {ds : List D} (f : D → D) (hc : chk mu)
    (H : ∀ x ∈ ds, ∀ (A : W → Sto → Prop), A (.d (f x)) mu → g (.d x) rh mu fun rh' mu1 => te rh' mu1 A)
    (h : Q ((ds.map f).map W.d) mu) : lcL chk g wYes te rh (ds.map W.d) [] mu Q :=
  lc_D (fun x => some (f x)) hc (fun x hx A B q => by simpa using H x hx A q) (by rw [List.filterMap_eq_map']; exact h)

/-! ### an item of a displayed list -/
@[simp] theorem at_c0 {A1 : Type} (x : A1) (xs : List A1) : atI (x :: xs) 0 = some x := by
  rw [at_nat (by omega) (by simp)]; rfl
@[simp] theorem at_c1 {A1 : Type} (x y : A1) (xs : List A1) : atI (x :: y :: xs) 1 = some y := by
  rw [at_nat (by omega) (by simp; omega)]; rfl
@[simp] theorem at_c2 {A1 : Type} (x y z : A1) (xs : List A1) : atI (x :: y :: z :: xs) 2 = some z := by
  rw [at_nat (by omega) (by simp; omega)]; rfl
@[simp] theorem at_c3 {A1 : Type} (x y z u : A1) (xs : List A1) : atI (x :: y :: z :: u :: xs) 3 = some u := by
  rw [at_nat (by omega) (by simp; omega)]; rfl
/-! ### loops by an invariant -/
theorem forL_inv {chk : Sto → Prop} {g : WG} {b : WS} {V : EV} (I : Ev → Sto → Prop) (hc : ∀ rh mu, I rh mu → chk mu) (hend : ∀ rh mu, I rh mu → V.nx rh mu) : ∀ {items : List W} {rh : Ev} {mu : Sto},
    (∀ x ∈ items, ∀ rh mu, I rh mu → ∀ N : Ev → Sto → Prop, (∀ rh mu, I rh mu → N rh mu) → g x rh mu fun rh' mu' => b { V with nx := N, ct := N, bk := V.nx } rh' mu') → I rh mu → forL chk g b V items rh mu
  | [], _, _, _, h => ⟨hc _ _ h, hend _ _ h⟩
  | x :: xs, rh, mu, H, h => ⟨hc _ _ h, H x (by simp) _ _ h _ fun rh mu h1 => forL_inv I hc hend (fun y hy => H y (by simp [hy])) h1⟩
theorem forL_rem {chk : Sto → Prop} {g : WG} {b : WS} {V : EV} (I : List W → Ev → Sto → Prop) (hc : ∀ xs rh mu, I xs rh mu → chk mu) (hend : ∀ rh mu, I [] rh mu → V.nx rh mu)
    (H : ∀ x xs rh mu, I (x :: xs) rh mu → ∀ N : Ev → Sto → Prop, (∀ rh mu, I xs rh mu → N rh mu) → g x rh mu fun rh' mu' => b { V with nx := N, ct := N, bk := V.nx } rh' mu') : ∀ {items : List W} {rh : Ev} {mu : Sto}, I items rh mu → forL chk g b V items rh mu
  | [], _, _, h => ⟨hc _ _ _ h, hend _ _ h⟩
  | x :: xs, rh, mu, h => ⟨hc _ _ _ h, H x xs _ _ h _ fun rh mu h1 => forL_rem I hc hend H h1⟩
theorem forL_idx {chk : Sto → Prop} {g : WG} {b : WS} {V : EV} (I : Nat → Ev → Sto → Prop) (hc : ∀ i rh mu, I i rh mu → chk mu) {items : List W} (hend : ∀ rh mu, I items.length rh mu → V.nx rh mu)
    (H : ∀ i x, items[i]? = some x → ∀ rh mu, I i rh mu → ∀ N : Ev → Sto → Prop, (∀ rh mu, I (i + 1) rh mu → N rh mu) → g x rh mu fun rh' mu' => b { V with nx := N, ct := N, bk := V.nx } rh' mu') {rh : Ev} {mu : Sto} (h : I 0 rh mu) : forL chk g b V items rh mu := by
  refine forL_rem (fun xs rh mu => ∃ i, xs = items.drop i ∧ i ≤ items.length ∧ I i rh mu) (fun _ _ _ ⟨i, _, _, h⟩ => hc i _ _ h) (fun rh mu ⟨i, e, l, h⟩ => ?_) (fun x xs rh mu ⟨i, e, l, h⟩ N hN => ?_) ⟨0, by simp, Nat.zero_le _, h⟩
  · have : items.length ≤ i := by
      have := congrArg List.length e; simp at this; omega
    obtain rfl : i = items.length := by omega
    exact hend _ _ h
  · have hi : i < items.length := by
      have := congrArg List.length e; simp at this; omega
    rw [List.drop_eq_getElem_cons hi] at e
    injection e with e1 e2
    subst e1
    exact H i _ (List.getElem?_eq_getElem hi) _ _ h N fun rh mu h1 => hN _ _ ⟨i + 1, e2, hi, h1⟩
/-- a range from nought -/
theorem forL_rng {chk : Sto → Prop} {g : WG} {b : WS} {V : EV} {n : Nat} (I : Nat → Ev → Sto → Prop) (hc : ∀ i rh mu, I i rh mu → chk mu) (hend : ∀ rh mu, I n rh mu → V.nx rh mu)
    (H : ∀ i, i < n → ∀ rh mu, I i rh mu → ∀ N : Ev → Sto → Prop, (∀ rh mu, I (i + 1) rh mu → N rh mu) → g (.d (.int i)) rh mu fun rh' mu' => b { V with nx := N, ct := N, bk := V.nx } rh' mu') {rh : Ev} {mu : Sto} (h : I 0 rh mu) : forL chk g b V (rngW 0 n) rh mu := by
  refine forL_idx I hc (fun rh mu h => hend rh mu (by rw [rngW_len] at h; exact h)) (fun i x e rh mu h N hN => ?_) h
  have hi : i < n := by
    have := (List.getElem?_eq_some_iff.mp e).1; rw [rngW_len] at this; exact this
  rw [rngW_get 0 n i hi] at e
  injection e with e; subst e
  rw [Int.zero_add]
  exact H i hi rh mu h N hN
/-! ### comprehensions: a filter; results of a kind -/
theorem lc_F {chk : Sto → Prop} {g : WG} {tt : WT} {te : WE} {rh : Ev} {mu : Sto} {Q : List W → Sto → Prop} {ds : List D} (p : D → Bool) (hc : chk mu)
    (H : ∀ x ∈ ds, ∀ (A : W → Sto → Prop) (B : Sto → Prop), (if p x = true then A (.d x) mu else B mu) → g (.d x) rh mu fun rh' mu1 => tt rh' mu1 fun b mu2 => if b = true then te rh' mu2 A else B mu2)
    (h : Q ((ds.filter p).map W.d) mu) : lcL chk g tt te rh (ds.map W.d) [] mu Q := by
  refine lc_D (fun x => if p x = true then some x else none) hc (fun x hx A B q => H x hx A B ?_) ?_
  · by_cases e : p x = true
    · simp only [e, if_true] at q ⊢; exact q
    · simp only [e, if_false] at q ⊢; exact q
  · have e : ds.filterMap (fun x => if p x = true then some x else none) = ds.filter p := by
      rw [← List.filterMap_eq_filter]; congr
    rw [e]; exact h
theorem blkOk_at {N : List Str} {S S' scope : Scope} {own : List (Str × Nat)} (h : blkC N S scope own = true) (e : S' = S := by rfl) : BlkOk N S' scope own := e ▸ blkOk_by h
/-! ### bits -/
end VL
namespace VL
open PySem PySem.Spec PyProof.Rows L2 RZ
/-! ### in, not in -/
@[simp] def flatD : D → Bool
  | .non | .bl _ | .int _ | .str _ => true
  | _ => false
def inD (a : D) (ds : List D) : Bool := ds.any fun z => deqv z a
@[simp] theorem inD_nil (a : D) : inD a [] = false := rfl
@[simp] theorem inD_cons (a x : D) (xs : List D) : inD a (x :: xs) = (deqv x a || inD a xs) := rfl
def subS (i j : Str) : Bool := !(Builtin.Str.occurrences j i 0 j.length 1).isEmpty
@[simp] def fInT (neg : Bool) : F2 := fun mu x y Q => match x, y with
  | .d a, .d (.tup ds) => flatD a = true ∧ ds.all flatD = true ∧ Q (.d (.bl (if neg then !inD a ds else inD a ds))) mu
  | _, _ => False
@[simp] def fInS (neg : Bool) : F2 := fun mu x y Q => match x, y with
  | .d (.str a), .d (.str b) => Q (.d (.bl (if neg then !subS a b else subS a b))) mu
  | _, _ => False
@[simp] theorem subS_one (c : Nat) (j : Str) : subS ⟨#[c]⟩ j = decide (c ∈ j.cps.toList) := PySem.StrLaws.found_one j c
section
variable {io : Type} {Y : io → Cx} {P : Program} {w : World} {K : KW} {mg : Str → Option Value} {base : Heap} {N : List Str} {k : Nat}
theorem flD_rep {F : Hp} {x : D} {v : V} (r : RepD K F x v) (h : flatD x = true) : flatV v = true := by
  cases r <;> first | rfl | (exfalso; simp at h; done)
theorem flat_eqV {F : Hp} {x y : D} {v u : V} (r : RepD K F x v) (r' : RepD K F y u) (h : flatD x = true) (h' : flatD y = true) : eqV v u = deqv x y := by
  cases r <;> cases r' <;> first | (exfalso; simp at h; done) | (exfalso; simp at h'; done) | simp [eqV]
theorem flD_all {F : Hp} : ∀ {xs : List D} {vs : List V}, Paired (RepD K F) xs vs → xs.all flatD = true → vs.all flatV = true
  | [], _, .nil, _ => rfl
  | x :: xs, _, .cons r t, h => by
    rw [List.all_cons, Bool.and_eq_true] at h ⊢
    exact ⟨flD_rep r h.1, flD_all t h.2⟩
theorem flat_in {F : Hp} {a : D} {v : V} (ra : RepD K F a v) (ha : flatD a = true) : ∀ {xs : List D} {vs : List V}, Paired (RepD K F) xs vs → xs.all flatD = true → inV v vs = inD a xs
  | [], _, .nil, _ => rfl
  | x :: xs, _, .cons r t, h => by
    rw [List.all_cons, Bool.and_eq_true] at h
    show (eqV _ v || inV v _) = _
    rw [inD_cons, flat_eqV r ra h.1 ha, flat_in ra ha t h.2]
theorem opd_inT (neg : Bool) : OpD K (rIn K neg) (fInT neg) := fun G B F H al rh si mu x y vx vy Qd Q s r1 r2 h q => by
  unfold fInT at h
  split at h
  · rename_i a ds
    obtain ⟨h1, h2, h3⟩ := h
    obtain ⟨p, vs, rfl, hs, hz, hp⟩ := repTup r2
    cases r1 with
    | d r1 =>
      refine ⟨p, vs, rfl, .inr (sqtMono s.s.fz hs), flD_rep r1 h1, flD_all hp h2, ?_⟩
      rw [flat_in r1 h1 hp h2]
      exact q F H al mu _ _ (Ext.refl _ _) s (.d (.bl _)) h3
  · exact h.elim
theorem opd_inS : OpD K (fun x y H Q => ∃ i j, x = .str i ∧ y = .str j ∧ Q (.bl (!(Builtin.Str.occurrences j i 0 j.length 1).isEmpty)) H) (fInS false) := fun G B F H al rh si mu x y vx vy Qd Q s r1 r2 h q => by
  unfold fInS at h
  split at h
  · obtain ⟨rfl, _⟩ := repStr r1
    obtain ⟨rfl, _⟩ := repStr r2
    exact ⟨_, _, rfl, rfl, q F H al mu _ _ (Ext.refl _ _) s (.d (.bl _)) h⟩
  · exact h.elim
theorem c_inT (y : YOk Y P w K mg base N k) : CmpK Y K .In (fInT false) := .mk (fun i => by rw [← y.hK i]; exact op_in_seq) (opd_inT false)
theorem c_notinT (y : YOk Y P w K mg base N k) : CmpK Y K .NotIn (fInT true) := .mk (fun i => by rw [← y.hK i]; exact op_notIn_seq) (opd_inT true)
theorem c_inS (y : YOk Y P w K mg base N k) : CmpK Y K .In (fInS false) := .mk (fun i => op_in_str) opd_inS
end

/-! ### methods of texts with one argument -/
section
variable {io : Type} {Y : io → Cx} {P : Program} {w : World} {K : KW} {mg : Str → Option Value} {base : Heap} {N : List Str} {k : Nat} {o e : Expr} {wo we : WE} {apos pos : Pos}
@[simp] def wM1 (f : F2) (o e : WE) : WE := fun rh mu Q => o rh mu fun x mu1 => match x with
  | .d (.str a) => e rh mu1 fun y mu2 => f mu2 (.d (.str a)) y Q
  | _ => False
@[simp] def fStarts : F2 := fun mu x y Q => match x, y with
  | .d (.str a), .d (.str b) => Q (.d (.bl (Txt.startswith a b))) mu
  | _, _ => False
def strsOf : List D → Option (List Str)
  | [] => some []
  | .str x :: ds => (strsOf ds).map (x :: ·)
  | _ :: _ => none
theorem strs_rep {F : Hp} : ∀ {ds : List D} {vs : List V} {ys : List Str}, Paired (RepD K F) ds vs → strsOf ds = some ys → vs = ys.map V.str
  | [], _, _, .nil, e => by cases e; rfl
  | d :: ds, _, ys, .cons r t, e => by
    cases r <;> simp only [strsOf] at e <;> try cases e
    cases q : strsOf ds with
    | none => rw [q] at e; cases e
    | some zs =>
      rw [q] at e
      cases e
      rw [strs_rep t q]; rfl
theorem den_m1 {r : V → List V → Hp → L2.VK → Prop} {f : F2} {to te : TE} (hd : OpD K (fun x y H Q => r x [y] H Q) f) (d1 : Den K to wo) (d2 : Den K te we) : Den K (tM1 r to te) (wM1 f wo we) := fun G B F H al rh si mu Qd Q s h q => by
  refine d1 G B F H al rh si mu _ _ s h fun F1 H1 al1 mu1 x vx e1 s1 r1 h1 => ?_
  split at h1
  · obtain ⟨rfl, hx⟩ := repStr r1
    refine ⟨⟨_, rfl⟩, ?_⟩
    refine d2 G B F1 H1 al1 rh si mu1 _ _ s1 h1 fun F2 H2 al2 mu2 y vy e2 s2 r2 h2 => ?_
    exact hd G B F2 H2 al2 rh si mu2 _ y _ vy Qd Q s2 (r1.mono e2) r2 h2 fun F3 H3 al3 mu3 z vz e3 => q F3 H3 al3 mu3 z vz ((e1.trans e2).trans e3)
  · exact h1.elim
theorem opd_starts : OpD K (fun x y H Q => ∃ a b, x = .str a ∧ [y] = [.str b] ∧ Q (.bl (Txt.startswith a b)) H) fStarts := fun G B F H al rh si mu x y vx vy Qd Q s r1 r2 h q => by
  unfold fStarts at h
  split at h
  · obtain ⟨rfl, _⟩ := repStr r1
    obtain ⟨rfl, _⟩ := repStr r2
    exact ⟨_, _, rfl, rfl, q F H al mu _ _ (Ext.refl _ _) s (.d (.bl _)) h⟩
  · exact h.elim
theorem ve_m1 {id : String} {name : Str} {r : V → List V → Hp → L2.VK → Prop} {f : F2} (slot : Slot "str" name id) (ty : typeOf (.builtin id) = pure (.type "method_descriptor")) (rule : ∀ i, MtR (Y i) id r) (hd : OpD K (fun x y H Q => r x [y] H Q) f) (ho : VE Y K o wo) (he : VE Y K e we)
    (hs : ∀ i, starEach [e] (Y i).env = [(false, eval e (Y i).env)] := by exact fun _ => rfl) (hbase : ∀ i, attributeBase o name (Y i).env (eval o (Y i).env) = eval o (Y i).env := by exact fun _ => rfl) (hline : (apos.endLine == pos.line) = true := by rfl) :
    VE Y K (.Call (.Attribute o name apos) [e] [] pos) (wM1 f wo we) := by
  obtain ⟨t1, p1, d1⟩ := ho
  obtain ⟨t2, p2, d2⟩ := he
  exact ⟨_, fun i => pe_m1 slot ty (rule i) (p1 i) (p2 i) (hs i) (hbase i) hline, den_m1 hd d1 d2⟩
theorem ve_starts (ho : VE Y K o wo) (he : VE Y K e we) (hs : ∀ i, starEach [e] (Y i).env = [(false, eval e (Y i).env)] := by exact fun _ => rfl)
    (hbase : ∀ i, attributeBase o "startswith" (Y i).env (eval o (Y i).env) = eval o (Y i).env := by exact fun _ => rfl) (hline : (apos.endLine == pos.line) = true := by rfl) : VE Y K (.Call (.Attribute o "startswith" apos) [e] [] pos) (wM1 fStarts wo we) :=
  ve_m1 F.slot_str_startswith F.type_str_startswith (fun _ => mt_startswith) opd_starts ho he hs hbase hline
end
end VL
namespace VL
open PySem PySem.Spec PyProof.Rows L2 RZ
/-! ### promises over values and the store -/
@[simp] def sS1 (g : W → Sto → (W → Sto → Prop) → Prop) : VSp := fun ws mu Q => match ws with
  | [a] => g a mu Q
  | _ => False
@[simp] def sS2 (g : W → W → Sto → (W → Sto → Prop) → Prop) : VSp := fun ws mu Q => match ws with
  | [a, b] => g a b mu Q
  | _ => False
@[simp] def sS5 (g : W → W → W → W → W → Sto → (W → Sto → Prop) → Prop) : VSp := fun ws mu Q => match ws with
  | [a, b, c, d, e] => g a b c d e mu Q
  | _ => False
theorem lenS1 {g} {ws : List W} {mu : Sto} {Q} (h : sS1 g ws mu Q) : ws.length = 1 := by
  unfold sS1 at h
  split at h
  · rfl
  · exact h.elim
theorem lenS2 {g} {ws : List W} {mu : Sto} {Q} (h : sS2 g ws mu Q) : ws.length = 2 := by
  unfold sS2 at h
  split at h
  · rfl
  · exact h.elim
theorem lenS5 {g} {ws : List W} {mu : Sto} {Q} (h : sS5 g ws mu Q) : ws.length = 5 := by
  unfold sS5 at h
  split at h
  · rfl
  · exact h.elim
theorem atS1 {g} {f : WS} {N : List Str} (v : ∀ a mu Q, g a mu Q → f (evr Q) (startE N [a]) mu) : ∀ ws mu Q, sS1 g ws mu Q → f { nx := fun _ mu => Q (.d .non) mu, rt := Q } (startE N ws) mu := fun ws mu Q h => by
  unfold sS1 at h
  split at h
  · exact v _ _ _ h
  · exact h.elim
theorem atS2 {g} {f : WS} {N : List Str} (v : ∀ a b mu Q, g a b mu Q → f (evr Q) (startE N [a, b]) mu) : ∀ ws mu Q, sS2 g ws mu Q → f { nx := fun _ mu => Q (.d .non) mu, rt := Q } (startE N ws) mu := fun ws mu Q h => by
  unfold sS2 at h
  split at h
  · exact v _ _ _ _ h
  · exact h.elim
theorem atS5 {g} {f : WS} {N : List Str} (v : ∀ a b c d e mu Q, g a b c d e mu Q → f (evr Q) (startE N [a, b, c, d, e]) mu) : ∀ ws mu Q, sS5 g ws mu Q → f { nx := fun _ mu => Q (.d .non) mu, rt := Q } (startE N ws) mu := fun ws mu Q h => by
  unfold sS5 at h
  split at h
  · exact v _ _ _ _ _ _ _ h
  · exact h.elim

/-! ### {} -/
section
variable {io : Type} {Y : io → Cx} {P : Program} {w : World} {K : KW} {mg : Str → Option Value} {base : Heap} {N : List Str} {k : Nat} {pos : Pos}
end
@[simp] theorem atI_comp {A1 : Type} (f : A1 → D) (xs : List A1) (i : Int) : atI (xs.map (W.d ∘ f)) i = (atI (xs.map f) i).map W.d := by
  unfold atI
  simp only [List.length_map]
  cases ixN xs.length i with
  | none => rfl
  | some j =>
    show (xs.map (W.d ∘ f))[j]? = ((xs.map f)[j]?).map W.d
    simp [Function.comp_def]
@[simp] theorem len_sign (c : Nat) : Str.length ⟨#[c]⟩ = 1 := rfl
theorem ite_of {c : Prop} [Decidable c] {a b : Prop} (h1 : c → a) (h2 : ¬ c → b) : if c then a else b := by
  by_cases h : c
  · rw [if_pos h]; exact h1 h
  · rw [if_neg h]; exact h2 h
theorem sum_ints {ns : List Int} {mu : Sto} {Q : W → Sto → Prop} (h : Q (.d (.int ns.sum)) mu) : fSum mu [.d (.lst (ns.map D.int))] Q := ⟨ns, rfl, h⟩
end VL
namespace VL
open PySem PySem.Spec PyProof.Rows L2 RZ
/-! ### own classes -/
theorem clsAt.uniq {K : KW} {n : Str} {c c' : Addr} (h : clsAt K n c) (h' : clsAt K n c') : c = c' := by
  unfold clsAt at h h'
  rw [h] at h'
  injection h' with h'
  injection h' with h'
  injection h' with h'
@[simp] def getI (mu : Sto) : W → Option (Str × List (Str × W))
  | .loc k => match mu[k]? with
    | some (.ins n fs) => some (n, fs)
    | _ => none
  | _ => none
theorem getI_eq {mu : Sto} {x : W} {n : Str} {fs : List (Str × W)} (h : getI mu x = some (n, fs)) : ∃ k, x = .loc k ∧ mu[k]? = some (.ins n fs) := by
  cases x with
  | loc k =>
    simp only [getI] at h
    split at h
    · rename_i n' fs' e
      injection h with h
      cases h
      exact ⟨k, rfl, e⟩
    · cases h
  | _ => cases h
section
variable {K : KW} {G B F H : Hp} {al : List Addr} {mu : Sto}
theorem ins_rep {x : W} {v : V} {n : Str} {fs : List (Str × W)} (s : SRS K G B F H al mu) (r : RepW K F al x v) (e : getI mu x = some (n, fs)) :
    ∃ k a c dx gs, x = .loc k ∧ mu[k]? = some (.ins n fs) ∧ al[k]? = some a ∧ v = .ref a ∧ H a = some (.ins c dx gs) ∧ clsAt K n c ∧ Paired (fun p q => p.1 = q.1 ∧ RepW K F al p.2 q.2) fs gs := by
  obtain ⟨k, rfl, ek⟩ := getI_eq e
  cases r with
  | loc ea =>
    obtain ⟨o, _, _, ho, cr⟩ := s.at ek ea
    cases cr with
    | ins z p => exact ⟨k, _, _, _, _, rfl, ek, ea, rfl, ho, z, p⟩
theorem flds_get {f : Str} {w : W} : ∀ {fs : List (Str × W)} {gs : List (Str × V)}, Paired (fun p q => p.1 = q.1 ∧ RepW K F al p.2 q.2) fs gs → fs.lookup f = some w → ∃ v, gs.lookup f = some v ∧ RepW K F al w v
  | _, _, .nil, e => by cases e
  | (g, x) :: _, (g', y) :: _, .cons r t, e => by
    obtain ⟨r1, r2⟩ := r
    simp only at r1 r2
    subst r1
    unfold List.lookup at e ⊢
    split at e
    · injection e with e
      subst e
      exact ⟨y, rfl, r2⟩
    · exact flds_get t e
theorem flds_none {f : Str} : ∀ {fs : List (Str × W)} {gs : List (Str × V)}, Paired (fun p q => p.1 = q.1 ∧ RepW K F al p.2 q.2) fs gs → fs.lookup f = none → gs.lookup f = none
  | _, _, .nil, _ => rfl
  | (g, x) :: _, (g', y) :: _, .cons r t, e => by
    obtain ⟨r1, r2⟩ := r
    simp only at r1 r2
    subst r1
    unfold List.lookup at e ⊢
    split at e
    · cases e
    · exact flds_none t e
@[simp] def putW (f : Str) (w : W) : List (Str × W) → List (Str × W)
  | [] => [(f, w)]
  | (g, x) :: r => if g = f then (g, w) :: r else (g, x) :: putW f w r
theorem flds_put {f : Str} {w : W} {v : V} (rw : RepW K F al w v) : ∀ {fs : List (Str × W)} {gs : List (Str × V)}, Paired (fun p q => p.1 = q.1 ∧ RepW K F al p.2 q.2) fs gs → Paired (fun p q => p.1 = q.1 ∧ RepW K F al p.2 q.2) (putW f w fs) (putF f v gs)
  | _, _, .nil => .cons ⟨rfl, rw⟩ .nil
  | (g, x) :: _, (g', y) :: _, .cons r t => by
    obtain ⟨r1, r2⟩ := r
    simp only at r1 r2
    subst r1
    unfold putW putF
    split
    · exact .cons ⟨rfl, rw⟩ t
    · exact .cons ⟨rfl, r2⟩ (flds_put rw t)
end
section
variable {io : Type} {Y : io → Cx} {P : Program} {w : World} {K : KW} {mg : Str → Option Value} {base : Heap} {N : List Str} {k j : Nat} {pos p apos : Pos} {a e o : Expr} {es : List Expr} {wa we wo : WE} {ga : WA} {x m : Str}
/-- the classes ns, none of which has the name f as an attribute of its own -/
def Flds (K : KW) (ns : List Str) (f : Str) : Prop := ∀ n ∈ ns, ∃ C, clsAt K n C ∧ Cls K C ∧ NoAttr K C f
theorem flds_nil {f : Str} : Flds K [] f := fun n h => by cases h
theorem flds_cons {n : Str} {ns : List Str} {f : Str} (h : ∃ C, clsAt K n C ∧ Cls K C ∧ NoAttr K C f) (t : Flds K ns f) : Flds K (n :: ns) f := fun m hm => by
  rcases List.mem_cons.mp hm with rfl | hm
  · exact h
  · exact t m hm
@[simp] def wFld (ns : List Str) (f : Str) (a : WE) : WE := fun rh mu Q => a rh mu fun x mu1 => match getI mu1 x with
  | some (n, fs) => ns.contains n = true ∧ (match fs.lookup f with
    | some u => Q u mu1
    | none => False)
  | none => False
/-- e.f -/
theorem ve_fld (y : YOk Y P w K mg base N k) {ns : List Str} {f : Str} (T : Flds K ns f) (ha : VE Y K a wa) (hb : ∀ i, attributeBase a f (Y i).env (eval a (Y i).env) = eval a (Y i).env := by exact fun _ => rfl) : VE Y K (.Attribute a f pos) (wFld ns f wa) := by
  obtain ⟨t, p1, d⟩ := ha
  refine ⟨tFld K t f, fun i => by have := pe_fld (pos := pos) (p1 i) (hb i); rw [y.hK i] at this; exact this, fun G B F H al rh si mu Qd Q s h q => ?_⟩
  refine d G B F H al rh si mu _ _ s h fun F1 H1 al1 mu1 u v e1 s1 r1 h1 => ?_
  split at h1
  · rename_i n fs eI
    obtain ⟨hn, h1⟩ := h1
    obtain ⟨k', a', c, dx, gs, rfl, ek, ea, rfl, eo, ec, pr⟩ := ins_rep s1.s r1 eI
    obtain ⟨C, c1, c2, c3⟩ := T n (by simpa using hn)
    obtain rfl := c1.uniq ec
    split at h1
    · rename_i u' el
      obtain ⟨v', ev, rv⟩ := flds_get pr el
      exact ⟨a', C, dx, gs, v', rfl, eo, c2, c3, ev, q F1 H1 al1 mu1 _ _ e1 s1 rv h1⟩
    · exact h1.elim
  · exact h1.elim
/-- f : the def at f keeps the promise sp -/
def FDef (P : Program) (w : World) (K : KW) (mg : Str → Option Value) (base : Heap) (f : Addr) (j : Nat) (sp : VSp) : Prop := ∃ fd ps, Binds K fd ps [] ∧ FnOk P w K mg base CX0 j f fd ps (toSp K sp)
/-- the method m of the class n -/
def MDef (P : Program) (w : World) (K : KW) (mg : Str → Option Value) (base : Heap) (n m : Str) (j : Nat) (sp : VSp) : Prop := ∃ C f, clsAt K n C ∧ Cls K C ∧ Meth K C m f ∧ FDef P w K mg base f j sp
abbrev MTab := List (Str × VSp)
def MTabOk (P : Program) (w : World) (K : KW) (mg : Str → Option Value) (base : Heap) (m : Str) (j : Nat) (tab : MTab) : Prop := ∀ n sp, tab.lookup n = some sp → MDef P w K mg base n m j sp
theorem mtab_nil {j : Nat} : MTabOk P w K mg base m j [] := fun n sp e => by cases e
theorem mtab_cons {n : Str} {sp : VSp} {i j : Nat} {tab : MTab} (d : MDef P w K mg base n m i sp) (hi : i ≤ j) (t : MTabOk P w K mg base m j tab) : MTabOk P w K mg base m j ((n, sp) :: tab) := fun n' sp' e => by
  unfold List.lookup at e
  split at e
  · rename_i q
    injection e with e
    subst e
    have : n' = n := by simpa using q
    subst this
    obtain ⟨C, f, c1, c2, c3, fd, ps, hb, F⟩ := d
    exact ⟨C, f, c1, c2, c3, fd, ps, hb, F.mono hi⟩
  · exact t n' sp' e
@[simp] def wMeth (tab : MTab) (m : Str) (o : WE) (g : WA) : WE := fun rh mu Q => o rh mu fun x mu1 => match getI mu1 x with
  | some (n, fs) => (fs.lookup m).isNone = true ∧ (match tab.lookup n with
    | some sp => g rh mu1 fun ws mu2 => sp (x :: ws) mu2 Q
    | none => False)
  | none => False
def tMD (P : Program) (w : World) (K : PySem.W.Frag) (mg : Str → Option Value) (base : Heap) (m : Str) (j : Nat) (to : TE) (t : TA) : TE := fun σ H Q => to σ H fun x H1 => ∃ a C dx fs f fd ps sp, x = .ref a ∧ H1 a = some (.ins C dx fs) ∧ Cls K C ∧ Meth K C m f ∧ fs.lookup m = none ∧
  Binds K fd ps [] ∧ FnOk P w K mg base CX0 j f fd ps sp ∧ t σ H1 fun vs H2 => sp (x :: vs) H2 Q E0
theorem pe_md0 {X : Cx} {to : TE} {pl : Sem Bool} (he : PE X o to) (hr : Room j X.A)
    (ht : eval (.Call (.Attribute o m apos) [] [] pos) X.env = (do
      let ov ← eval o X.env
      standAt apos.atName
      let (f, first) ← holding [ov] (getMethod ov m pl)
      callWith pos f first (backTo pos (starEach [] X.env)) (backToKw pos (keywordEach [] X.env)))) :
    PE X (.Call (.Attribute o m apos) [] [] pos) (tMD X.prog X.w X.K X.mg X.base m j to tNil) := by
  refine ⟨fun pins s σ H Q I h => ?_⟩
  refine PySem.W.methodCall_KW (pl := pl) (thn (he.run pins s σ H _ I h) fun u s1 ⟨x, H1, I1, rx, a, C, dx, fs, f, fd, ps, sp, ex, ea, c, hm, l, hb, F, q⟩ => ?_) ht
  subst ex
  obtain rfl : u = Value.ref a := rx
  refine getmeth_ok I1 ea c hm l ?_
  exact PySem.W.callWith_K0 (first := [.ref a]) I1.kIn hm.kp (run_fn (us := [.ref a]) (vs := [.ref a]) F hr hb .nil pass0 I1 (.cons rfl .nil) (by simpa [tNil] using q))
theorem den_md {to : TE} {t : TA} {tab : MTab} (T : MTabOk P w K mg base m j tab) (d : Den K to wo) (d2 : DenA K t ga) : Den K (tMD P w K mg base m j to t) (wMeth tab m wo ga) := fun G B F H al rh si mu Qd Q s h q => by
  refine d G B F H al rh si mu _ _ s h fun F1 H1 al1 mu1 u v e1 s1 r1 h1 => ?_
  split at h1
  · rename_i n fs eI
    obtain ⟨hl, h1⟩ := h1
    obtain ⟨k', a', c, dx, gs, rfl, ek, ea, rfl, eo, ec, pr⟩ := ins_rep s1.s r1 eI
    split at h1
    · rename_i sp es
      obtain ⟨C, f, c1, c2, c3, fd, ps, hb, Ff⟩ := T n sp es
      obtain rfl := c1.uniq ec
      refine ⟨a', C, dx, gs, f, fd, ps, toSp K sp, rfl, eo, c2, c3, flds_none pr (by simpa using hl), hb, Ff, ?_⟩
      refine d2 G B F1 H1 al1 rh si mu1 _ _ s1 h1 fun F2 H2 al2 mu2 ws vs e2 s2 r2 h2 => ?_
      have := callS_ok (K := K) (dds := []) (dvs := []) (fun _ => .nil) (ws := .loc k' :: ws) (vs := .ref a' :: vs) (Q := Q) (E := E0) s2 (.cons (r1.mono e2) r2) (by simpa using h2) fun F3 H3 al3 mu3 z vz e3 => q F3 H3 al3 mu3 z vz ((e1.trans e2).trans e3)
      simpa using this
    · exact h1.elim
  · exact h1.elim
theorem ve_meth0 (y : YOk Y P w K mg base N k) {tab : MTab} (T : MTabOk P w K mg base m j tab) (hj : j ≤ k) (ho : VE Y K o wo) (pl : io → Sem Bool)
    (ht : ∀ i, eval (.Call (.Attribute o m apos) [] [] pos) (Y i).env = (do
      let ov ← eval o (Y i).env
      standAt apos.atName
      let (f, first) ← holding [ov] (getMethod ov m (pl i))
      callWith pos f first (backTo pos (starEach [] (Y i).env)) (backToKw pos (keywordEach [] (Y i).env))) := by exact fun _ => rfl) : VE Y K (.Call (.Attribute o m apos) [] [] pos) (wMeth tab m wo wNil) := by
  obtain ⟨t1, p1, d1⟩ := ho
  refine ⟨_, fun i => ?_, den_md T d1 (t := tNil) (fun G B F H al rh si mu Qd Q s h q => q F H al mu [] [] (Ext.refl _ _) s .nil h)⟩
  have := pe_md0 (p1 i) ((y.room i).mono hj) (ht i)
  rw [y.hP i, y.hw i, y.hK i, y.hmg i, y.hbase i] at this
  exact this
/-- the class x is made by an __init__ that keeps sp -/
def CDef (P : Program) (w : World) (K : KW) (mg : Str → Option Value) (base : Heap) (x : Str) (j : Nat) (sp : VSp) : Prop := ∃ C f, clsAt K x C ∧ mg x = some (.ref C) ∧ Mk K C f ∧ FDef P w K mg base f j sp
@[simp] def wMake (n : Str) (sp : VSp) (g : WA) : WE := fun rh mu Q => g rh mu fun ws mu1 => sp (.loc mu1.length :: ws) (mu1 ++ [.ins n []]) fun u mu2 => match u with
  | .d .non => Q (.loc mu1.length) mu2
  | _ => False
theorem ve_make (y : YOk Y P w K mg base N k) {sp : VSp} (d : CDef P w K mg base x j sp) (hj : j + 1 ≤ k) (ha : VA Y K (e :: es) ga) (hg : ∀ i, Gl (Y i) x := by exact fun _ => rfl) (hdb : (x == ("__debug__" : Str)) = false := by decide)
    (he : ∀ i, starEach (e :: es) (Y i).env = (false, eval e (Y i).env) :: starEach es (Y i).env := by exact fun _ => rfl) (hpl : ∀ i, (backTo pos (starEach es (Y i).env)).any (·.1) = false := by exact fun _ => rfl) : VE Y K (.Call (.Name x p) (e :: es) [] pos) (wMake x sp ga) := by
  obtain ⟨C, f, c1, c2, M, fd, ps, hb, Ff⟩ := d
  obtain ⟨t, p1, d1⟩ := ha
  refine ⟨tMake C (toSp K sp) [] E0 t, fun i => pe_make (by rw [y.hK i]; exact M) (fnOk_at y Ff i) ((y.room i).mono hj) (hg i) (by rw [y.hmg i]; exact c2) (binds_at y hb i) .nil pass0 (p1 i) hdb (he i) (hpl i), fun G B F H al rh si mu Qd Q s h q => ?_⟩
  refine d1 G B F H al rh si mu _ _ s h fun F1 H1 al1 mu1 ws vs e1 s1 r1 h1 => ?_
  intro a dx na ndx ne
  have x2 := s1.s.frozX (o := .own a) ndx
  have s2 := s1.s.froz (o := .own a) ndx
  have na2 : (upd H1 dx (.own a)) a = none := by rw [upd_ne (Ne.symm ne)]; exact na
  have x3 := SRS.ownX (F := upd F1 dx (.own a)) (al := al1) (p := a)
  have s3 := s2.own (c := .ins x []) na2 (CRep.ins (dx := dx) c1 .nil)
  have x23 := x2.trans x3
  have rr : RepW K (upd F1 dx (.own a)) (al1 ++ [a]) (.loc mu1.length) (.ref a) := .loc s2.atNew
  have := callS_ok (K := K) (dds := []) (dvs := []) (fun _ => .nil) (ws := .loc mu1.length :: ws) (vs := .ref a :: vs) (Q := fun v H2 => v = .non ∧ Q (.ref a) H2) (E := E0) (s1.step x23 s3) (.cons rr (Paired.mapP r1 fun _ _ z => z.mono x23)) (by simpa using h1)
    fun F4 H4 al4 mu4 z vz e4 s4 r4 h4 => by
      split at h4
      · exact ⟨by cases r4 with | d r => cases r; rfl, q F4 H4 al4 mu4 _ _ ((e1.trans x23).trans e4) s4 (rr.mono e4) h4⟩
      · exact h4.elim
  simpa using this
end
section
variable {X : Cx} {P : Program} {w : World} {K : KW} {mg : Str → Option Value} {base : Heap} {N : List Str} {k : Nat} {pos pos' : Pos} {o e : Expr} {wo we : WE}
@[simp] def wFldS (ns : List Str) (f : Str) (o e : WE) : WS := fun V rh mu => e rh mu fun u mu1 => o rh mu1 fun x mu2 => match x with
  | .loc k => (match mu2[k]? with
    | some (.ins n fs) => ns.contains n = true ∧ fs.length < 1000 ∧ V.nx rh (mu2.set k (.ins n (putW f u fs)))
    | _ => False)
  | _ => False
/-- o.f = e -/
theorem vs_fld (y : YOk (un X) P w K mg base N k) {ns : List Str} {f : Str} (T : Flds K ns f) (ho : VE (un X) K o wo) (he : VE (un X) K e we) (hs : swapsWith e (some (.Attribute o f pos')) pos.line X.env = pure false := by rfl) : VS X K (.Assign [.Attribute o f pos'] e pos) (wFldS ns f wo we) := by
  obtain ⟨t1, p1, d1⟩ := ho
  obtain ⟨t2, p2, d2⟩ := he
  refine ⟨sFld K t1 t2 f, by have := ps_fld (p1 ()) (p2 ()) hs; rw [show X.K = K from y.hK ()] at this; exact this, fun G B F H al rh si mu V1 D1 s h b => ?_⟩
  refine d2 G B F H al rh si mu _ _ s h fun F1 H1 al1 mu1 u v e1 s1 r1 h1 => ?_
  refine d1 G B F1 H1 al1 rh si mu1 _ _ s1 h1 fun F2 H2 al2 mu2 x vx e2 s2 r2 h2 => ?_
  split at h2
  · rename_i k'
    split at h2
    · rename_i n fs ek
      obtain ⟨hn, hl, h2⟩ := h2
      obtain ⟨_, a', c, dx, gs, ex, _, ea, rfl, eo, ec, pr⟩ := ins_rep (x := .loc k') (n := n) (fs := fs) s2.s r2 (by simp [ek])
      cases ex
      obtain ⟨C, c1, c2, c3⟩ := T n (by simpa using hn)
      obtain rfl := c1.uniq ec
      refine ⟨a', C, dx, gs, rfl, eo, c2, c3, by rw [← Paired.length pr]; exact hl, ?_⟩
      have s3 := s2.s.put (c := .ins n (putW f u fs)) ea (CRep.ins (dx := dx) c1 (flds_put (r1.mono e2) pr))
      exact b.nx _ _ _ _ _ _ (e1.trans e2) (s2.step (Ext.refl _ _) s3) h2
    · exact h2.elim
  · exact h2.elim
end
section
variable {P : Program} {w : World} {K : KW} {mg : Str → Option Value} {base : Heap}
/-- a method, an __init__ -/
theorem fdef_mk {x qual : Str} {st : Stmt} {f : Addr} {fd : FuncData} {N ps : List Str} {k : Nat} {sp : VSp} (F : Fun K x qual st f fd) (S : FnScope N ps (defScope st)) (hb : Binds K fd ps []) (hlen : ∀ ws mu Q, sp ws mu Q → ws.length = ps.length)
    (body : ∀ (cdv : Value) (A : Around) (outer : List Env) (s : Shared) (H : Hp) (E : XK), YOk (un (bX P w K mg base N qual (defScope st) f cdv A outer s H E)) P w K mg base N k →
      ∃ g, VSs (bX P w K mg base N qual (defScope st) f cdv A outer s H E) K (defBody st) g ∧ ∀ ws mu Q, sp ws mu Q → g { nx := fun _ mu => Q (.d .non) mu, rt := Q } (startE N ws) mu) : FDef P w K mg base f (k + 1) sp :=
  ⟨fd, ps, hb, fnv_ok F S hlen body⟩
end
end VL
namespace VL
open PySem PySem.Spec PyProof.Rows L2 RZ
/-! ### sets of keys of any kind, their order left open -/
theorem paired_perm {A1 B1 : Type} {R : A1 → B1 → Prop} {xs ys : List A1} (p : ys.Perm xs) : ∀ {us : List B1}, Paired R xs us → ∃ vs, vs.Perm us ∧ Paired R ys vs := by
  induction p with
  | nil => intro us h; exact ⟨us, .refl _, h⟩
  | cons x q ih =>
    intro us h
    cases h with
    | cons r t =>
      obtain ⟨vs, p1, p2⟩ := ih t
      exact ⟨_ :: vs, p1.cons _, .cons r p2⟩
  | swap x y l =>
    intro us h
    cases h with
    | cons r t =>
      cases t with
      | cons r2 t2 => exact ⟨_, .swap _ _ _, .cons r2 (.cons r t2)⟩
  | trans _ _ ih1 ih2 =>
    intro us h
    obtain ⟨vs, p1, p2⟩ := ih2 h
    obtain ⟨ws, p3, p4⟩ := ih1 p2
    exact ⟨ws, p3.trans p1, p4⟩
section
variable {P : Program} {w : World} {T : Type} [DecidableEq T] {knd : PySem.KeyKind P w T}
def Pe (knd : PySem.KeyKind P w T) (e : Int × Value) (k : T) : Prop := knd.is k e.2 = true ∧ e.1 = knd.hash k ∧ e.2.scannable = true
def SetG (knd : PySem.KeyKind P w T) (h : Heap) (a : Addr) (L : List T) : Prop :=
  ∃ o es ep t, h.get? a = some o ∧ o.ExactSet ∧ o.data = .set es ep t ∧ (∃ L', L'.Perm L ∧ Paired (Pe knd) es.toList L') ∧ L.Nodup ∧ es.size < scanBound ∧ t.fits es.size = true ∧ Ris t.place.toList ∧ (w.params.followText "set-order" = true ∨ t.led = true)
theorem pe_elems : ∀ {es : List (Int × Value)} {L : List T}, Paired (Pe knd) es L → ElemsOf knd es
  | _, _, .nil => fun e h => by cases h
  | _, _, .cons r t => fun e h => by
    rcases List.mem_cons.mp h with q | q
    · rw [q]; exact ⟨⟨_, r.1, r.2.1⟩, r.2.2⟩
    · exact pe_elems t e q
theorem pe_mem : ∀ {es : List (Int × Value)} {L : List T}, Paired (Pe knd) es L → ∀ k, k ∈ L ↔ ∃ e ∈ es, knd.is k e.2 = true
  | _, _, .nil, k => by simp
  | _, _, .cons r t, k => by
    have ih := pe_mem t k
    rw [List.mem_cons, ih]
    constructor
    · rintro (rfl | ⟨e, h1, h2⟩)
      · exact ⟨_, List.mem_cons_self, r.1⟩
      · exact ⟨e, List.mem_cons_of_mem _ h1, h2⟩
    · rintro ⟨e, h1, h2⟩
      rcases List.mem_cons.mp h1 with q | q
      · subst q; exact .inl (knd.inj _ _ _ h2 r.1)
      · exact .inr ⟨e, q, h2⟩
theorem SetG.at {h h' : Heap} {a : Addr} {L : List T} (R : SetG knd h a L) (k : ∀ o, h.get? a = some o → h'.get? a = some o) : SetG knd h' a L := by
  obtain ⟨o, es, ep, t, ho, r⟩ := R
  exact ⟨o, es, ep, t, k o ho, r⟩
variable {A : Around} {E : Value → Shared → Prop} {s : Shared} {a : Addr}
theorem setG_add_tail {g : Bool → Sem Unit} (hg : ∀ (b : Bool) (s₁ : Shared) (Q' : Unit → Shared → Prop), Q' () s₁ → wpAny (model P w) A (g b) Q' E s₁)
    {o : Obj} {es : Array (Int × Value)} {ep : Nat} {t : SetTable} (ho : s.heap.get? a = some o) (hex : o.ExactSet) (hd : o.data = .set es ep t)
    {es1 : Array (Int × Value)} {t2 : SetTable} {L : List T} (g1 : ∃ L', L'.Perm L ∧ Paired (Pe knd) es1.toList L') (nd1 : L.Nodup)
    (hb1 : es1.size < scanBound) (hf2 : t2.fits es1.size = true) (hr : Ris t2.place.toList) (hl : w.params.followText "set-order" = true ∨ t2.led = true) {wasDummy : Bool} {R : Option Bool → Shared → Prop}
    (hR : ∀ h', Heap.SameBut a s.heap h' → SetG knd h' a L → R (some true) { s with heap := h' }) :
    wpAny (model P w) A (do
        storeSet a es1 t2
        if (!wasDummy && t2.tooFull) = true then do
            g (relayAll t2 es1 (SetTable.grown es1.size)).2.2
            storeSet a (relayAll t2 es1 (SetTable.grown es1.size)).1 (relayAll t2 es1 (SetTable.grown es1.size)).2.1
            pure (some true)
          else pure (some true)) R E s := by
  refine wpAny_bind (wpAny_storeSet_of ho hd ?_ (fits_of_scanBound hb1))
  have ho1 := store_at (es' := es1) (t' := t2) ho hd
  have sb1 := Heap.SameBut.update s.heap a (Obj.putSet es1 t2)
  split
  · have pm := relayAll_perm t2 es1 (SetTable.grown es1.size)
    have hf3 := relayAll_fits t2 es1 (SetTable.grown es1.size)
    have hr3 := relayAll_ris t2 es1 (SetTable.grown es1.size)
    have hl3 := relayAll_led t2 es1 (SetTable.grown es1.size)
    generalize relayAll t2 es1 (SetTable.grown es1.size) = Z at pm hf3 hr3 hl3 ⊢
    obtain ⟨es2, t3, gave⟩ := Z
    dsimp only at pm hf3 hr3 hl3 ⊢
    have hsz : es2.size = es1.size := by rw [← Array.length_toList, pm.length_eq, Array.length_toList]
    have hb2 : es2.size < scanBound := by rw [hsz]; exact hb1
    refine wpAny_bind (hg _ _ _ ?_)
    refine wpAny_bind (wpAny_storeSet_of ho1 rfl ?_ (fits_of_scanBound hb2))
    have ho2 := store_at (es' := es2) (t' := t3) ho1 rfl
    obtain ⟨L', q1, q2⟩ := g1
    obtain ⟨L2, q3, q4⟩ := paired_perm pm q2
    refine wpAny_pure (hR _ (sb1.trans (Heap.SameBut.update _ a _)) ?_)
    exact ⟨_, es2, _, t3, ho2, hex, rfl, ⟨L2, q3.trans q1, q4⟩, nd1, hb2, hf3, hr3, hl.imp id fun z => by rw [hl3]; exact z⟩
  · exact wpAny_pure (hR _ sb1 ⟨_, es1, _, t2, ho1, hex, rfl, g1, nd1, hb1, hf2, hr, hl⟩)
theorem setG_add_hashed {k : T} {v : Value} {L : List T} {Q : Bool → Shared → Prop} (hkey : knd.is k v = true) (hsc : v.scannable = true) (R : SetG knd s.heap a L) (room : L.length + 1 < scanBound)
    (hQ : ∀ h' b, Heap.SameBut a s.heap h' → SetG knd h' a (if k ∈ L then L else k :: L) → Q b { s with heap := h' }) :
    wpAny (model P w) A (setAddHashed a v (knd.hash k)) Q E s := by
  obtain ⟨o, es, ep, t, ho, hex, hd, ⟨L', pL, pr⟩, nd, hb, hf, hr, hl⟩ := R
  have hel : ElemsOf knd es.toList := pe_elems pr
  have hn : es.size = L.length := by rw [← pL.length_eq, ← Paired.length pr, Array.length_toList]
  unfold setAddHashed setAddHashedIn
  refine wpAny_holding (wpAny_bind (wpAny_setState_of ho hd hf ?_))
  dsimp only
  rw [byScan_of hsc hb hel]
  simp only [↓reduceIte]
  unfold setAddByScan
  refine wpAny_bind ?_
  refine wpAny_bind (wpAny_rule ?_)
  refine wpAny_bind (wpAny_setScan_of hkey ho hd hf hel ?_)
  cases hfi : List.findIdx? (fun e => knd.is k e.2) es.toList with
  | some j =>
    dsimp only
    obtain ⟨hj, pj, _⟩ := List.findIdx?_eq_some_iff_getElem.mp hfi
    have hSk : k ∈ L := pL.mem_iff.mp ((pe_mem pr k).2 ⟨es.toList[j], List.getElem_mem hj, pj⟩)
    refine wpAny_pure (wpAny_pure ?_)
    have q := hQ s.heap false (Heap.SameBut.refl a s.heap)
    rw [if_pos hSk] at q
    exact q ⟨o, es, ep, t, ho, hex, hd, ⟨L', pL, pr⟩, nd, hb, hf, hr, hl⟩
  | none =>
    dsimp only
    have hnk : k ∉ L := fun z => by
      obtain ⟨e, he, q⟩ := (pe_mem pr k).1 (pL.mem_iff.mpr z)
      have c := List.findIdx?_eq_none_iff.mp hfi e he
      rw [q] at c
      cases c
    have hgw : ∀ (b : Bool) {s₁ : Shared} {Q' : Unit → Shared → Prop}, Q' () s₁ → wpAny (model P w) A (match b with | true => rule "set.scan.the-table-gave-way" | false => pure ()) Q' E s₁ :=
      fun b s₁ Q' q => by cases b <;> first | exact wpAny_pure q | exact wpAny_rule q
    have pm := layNew_perm t es (knd.hash k) v
    have hf1 := layNew_fits t es (knd.hash k) v
    have hr1 := layNew_ris t es (knd.hash k) v hr
    have hl1 := layNew_led t es (knd.hash k) v
    generalize layNew t es (knd.hash k) v = Z at pm hf1 hr1 hl1 ⊢
    obtain ⟨es1, t1, wasDummy, gave⟩ := Z
    dsimp only at pm hf1 hr1 hl1 ⊢
    rw [Array.toList_push] at pm
    have pc : es1.toList.Perm ((knd.hash k, v) :: es.toList) := pm.trans (List.perm_append_singleton _ _)
    obtain ⟨L1, p1, p2⟩ := paired_perm pc (Paired.cons (F := Pe knd) (a := (knd.hash k, v)) (b := k) ⟨hkey, rfl, hsc⟩ pr)
    have pl1 : L1.Perm (k :: L) := p1.trans (pL.cons k)
    have nd1 : (k :: L).Nodup := List.nodup_cons.mpr ⟨hnk, nd⟩
    have hsz : es1.size = L.length + 1 := by rw [← Array.length_toList, pc.length_eq, List.length_cons, Array.length_toList, hn]
    have hb1 : es1.size < scanBound := by rw [hsz]; exact room
    have hled : w.params.followText "set-order" = true ∨ t1.led = true := hl.imp id fun z => by rw [hl1]; exact z
    have fin : ∀ h', Heap.SameBut a s.heap h' → SetG knd h' a (k :: L) → Q true { s with heap := h' } := fun h' sb r => by
      have q := hQ h' true sb
      rw [if_neg hnk] at q
      exact q r
    refine wpAny_bind (hgw _ ?_)
    split
    · refine wpAny_bind ?_
      rw [hashByValue_scannable 8 hsc]
      refine wpAny_pure ?_
      refine setG_add_tail (knd := knd) ?_ ho hex hd ⟨L1, pl1, p2⟩ nd1 hb1 ?_ ?_ ?_ ?_
      · intro b s₁ Q' q; cases b <;> first | exact wpAny_pure q | exact wpAny_rule q
      · first | (split <;> first | exact hf1 | exact SetTable.fits_plain_off hf1) | exact hf1
      · first | (split <;> exact hr1) | exact hr1
      · first | (split <;> exact hled) | exact hled
      · intro h' sb r; dsimp only; exact wpAny_pure (fin h' sb r)
    · refine wpAny_bind (wpAny_pure ?_)
      simp only [↓reduceIte]
      refine setG_add_tail (knd := knd) ?_ ho hex hd ⟨L1, pl1, p2⟩ nd1 hb1 hf1 hr1 hled ?_
      · intro b s₁ Q' q; cases b <;> first | exact wpAny_pure q | exact wpAny_rule q
      · intro h' sb r; dsimp only; exact wpAny_pure (fin h' sb r)
/-- the members that have come -/
def dedup (L : List T) : List T → List T
  | [] => L
  | k :: ks => dedup (if k ∈ L then L else k :: L) ks
theorem dedup_mem : ∀ (ks L : List T) (k : T), k ∈ dedup L ks ↔ k ∈ L ∨ k ∈ ks
  | [], L, k => by simp [dedup]
  | j :: ks, L, k => by
    rw [dedup, dedup_mem ks]
    split
    · rename_i h
      simp only [List.mem_cons]
      constructor
      · rintro (q | q)
        · exact .inl q
        · exact .inr (.inr q)
      · rintro (q | rfl | q)
        · exact .inl q
        · exact .inl h
        · exact .inr q
    · simp only [List.mem_cons]
      constructor
      · rintro ((rfl | q) | q)
        · exact .inr (.inl rfl)
        · exact .inl q
        · exact .inr (.inr q)
      · rintro (q | rfl | q)
        · exact .inl (.inr q)
        · exact .inl (.inl rfl)
        · exact .inr q
theorem dedup_len : ∀ (ks L : List T), (dedup L ks).length ≤ L.length + ks.length
  | [], L => by simp [dedup]
  | j :: ks, L => by
    rw [dedup]
    have h1 := dedup_len ks (if j ∈ L then L else j :: L)
    have h2 : (if j ∈ L then L else j :: L).length ≤ L.length + 1 := by split <;> simp
    simp only [List.length_cons]
    omega
theorem dedup_nodup : ∀ (ks L : List T), L.Nodup → (dedup L ks).Nodup
  | [], L, h => h
  | j :: ks, L, h => by
    rw [dedup]
    refine dedup_nodup ks _ ?_
    split
    · exact h
    · rename_i q; exact List.nodup_cons.mpr ⟨q, h⟩
theorem dedup_app : ∀ (ks ls L : List T), dedup L (ks ++ ls) = dedup (dedup L ks) ls
  | [], ls, L => rfl
  | j :: ks, ls, L => by rw [List.cons_append, dedup, dedup]; exact dedup_app ks ls _
def Kv (knd : PySem.KeyKind P w T) (v : Value) (k : T) : Prop := knd.is k v = true ∧ v.scannable = true
theorem set_update_G {R : Result → Shared → Prop} {I : Addr} {fp wr : List Addr} {G : Array GenState → Array GenState → Prop} {n : Nat} {Pv : Nat → Value → Prop} {St : Nat → Shared → Prop}
    (W : WalksS P w A.in1 I fp wr G n Pv St) (S : Addr) (hSf : S ∉ fp) (ks : List T) (hn : n = ks.length) (hb : ks.length + 1 < scanBound) (hval : ∀ i v, Pv i v → ∃ k, ks[i]? = some k ∧ Kv knd v k) :
    ∀ (k i : Nat) (s : Shared), n - i = k → i ≤ n → St i s → SetG knd s.heap S (dedup [] (ks.take i)) →
      (∀ s', Moved (S :: wr) G s s' → SetG knd s'.heap S (dedup [] ks) → R (.ok (.ret .none)) s') →
      codeAny (model P w) A (.builtin "set.update.loop" ⟨[.ref S, .ref I], []⟩) R s := by
  have hSw : S ∉ wr := fun h => hSf (W.sub _ h)
  have hsub : ∀ b ∈ wr, b ∈ S :: wr := fun b hb => List.mem_cons_of_mem _ hb
  intro k
  induction k with
  | zero =>
    intro i s hk' hi hst hS hR
    have hin : i = n := by omega
    subst hin
    refine codeAny_builtin PyProof.Rows.F.entry_set_update_loop ?_
    rw [Around.under_plainId PyProof.Rows.F.plain_set_update_loop _]
    show wpAny _ A.in1 (pyNext (.ref I) >>= _) _ _ s
    refine wpAny_bind (W.done s _ _ hst fun s' hm => ?_)
    show wpAny _ A.in1 (ret Value.none) _ _ s'
    have e : ks.take i = ks := List.take_of_length_le (by omega)
    rw [e] at hS
    exact wpAny_pure (hR s' (hm.mono hsub) (hS.at fun o e => hm.heap S o hSw e))
  | succ k ih =>
    intro i s hk' hi hst hS hR
    have hlt : i < n := by omega
    refine codeAny_builtin PyProof.Rows.F.entry_set_update_loop ?_
    rw [Around.under_plainId PyProof.Rows.F.plain_set_update_loop _]
    show wpAny _ A.in1 (pyNext (.ref I) >>= _) _ _ s
    refine wpAny_bind (W.item i s _ _ hlt hst fun v s' hP hst' hm => ?_)
    obtain ⟨z, hz, hv, hsc⟩ := hval i v hP
    have hS' : SetG knd s'.heap S (dedup [] (ks.take i)) := hS.at fun o e => hm.heap S o hSw e
    show wpAny _ A.in1 (holding [v] (setAdd S v) >>= _) _ _ s'
    refine wpAny_bind (wpAny_holding ?_)
    unfold setAdd
    refine wpAny_holding ?_
    refine wpAny_bind (knd.pyHash (k := z) hv ?_)
    have hlen : (dedup [] (ks.take i)).length + 1 < scanBound := by
      have := dedup_len (ks.take i) []
      simp at this; omega
    refine setG_add_hashed (s := { s' with toks := s'.toks + 1 }) hv hsc hS' hlen fun h' b hsb hS2 => ?_
    have hS3 : SetG knd h' S (dedup [] (ks.take (i + 1))) := by
      rw [List.take_add_one, hz, dedup_app]
      exact hS2
    refine wpAny_pure ⟨plainId_quiet PyProof.Rows.F.plain_set_update_loop _, ih (i + 1) _ (by omega) hlt (W.frame _ s' _ _ hst' (Nat.le_succ _) fun b hb o e => ?_) hS3 fun s'' hm'' hS'' => ?_⟩
    · rw [hsb.2 b (fun h : b = S => hSf (by rw [← h]; exact hb))]; exact e
    · refine hR s'' (Moved.trans W.gtrans ((hm.mono hsub).then_heap (Nat.le_succ _) fun b o hb e => ?_) hm'') hS''
      rw [hsb.2 b (fun h : b = S => hb (by rw [h]; exact List.mem_cons_self))]; exact e
theorem setG_new_at {h : Heap} {a : Addr} (ho : h.get? a = some { cls := .type "set", dict := none, data := .set #[] 0 (.fresh 0 0 (!w.params.followText "set-order")) }) : SetG knd h a [] :=
  ⟨_, #[], 0, _, ho, ⟨rfl, rfl, rfl⟩, rfl, ⟨[], .refl _, .nil⟩, List.nodup_nil, (by decide), (by rfl), List.Pairwise.nil, by
    show _ ∨ (!w.params.followText "set-order") = true
    cases w.params.followText "set-order"
    · exact .inr rfl
    · exact .inl rfl⟩
set_option maxHeartbeats 8000000 in
theorem call_set_listG {l : Addr} {items : Array Value} (ks : List T) {Q : Value → Shared → Prop} (hh : A.handled = none) (hl : s.heap.IsList l items) (hit : Paired (Kv knd) items.toList ks) (hb : ks.length + 1 < scanBound)
    (h : ∀ (h' : Heap) (tk : Nat), SetG knd h' s.heap.objs.size (dedup [] ks) → (∀ b o, s.heap.get? b = some o → h'.get? b = some o) → Q (.ref s.heap.objs.size) { s with heap := h', toks := tk }) :
    wpAny (model P w) A (call (.type "set") [.ref l]) Q E s := by
  have hisz : items.size = ks.length := by
    have q := Paired.length hit
    rw [Array.length_toList] at q
    exact q
  obtain ⟨c, tl, hmro⟩ := PySem.F.called_set.mro
  have hmade := PySem.F.called_set.made
  have hsub := PySem.F.called_set.sub
  refine wpAny_call (codeAny_of_tree ?_)
  show wpAny _ _ (callAny (.type "set") _) _ _ _
  refine wpAny_pure ⟨Code.quiet_builtin _ (by decide +kernel), codeAny_builtin PySem.F.entry_type_call ?_⟩
  rw [Around.under_plain (weight_type_call_type "set" [.ref l] []) rfl]
  have h1 := PySem.F.called_set.notType
  have h2 := PySem.F.called_set.canCreate
  have hct := PySem.F.typeCall_set_1 (.ref l)
  repeat (any_goals (first | assumption | wp_step))

  refine codeAny_mono (code_set_led1 (.ref l) (E := E) (Q₁ := fun obj s₁ => obj = .ref s.heap.objs.size ∧ s₁ = { s with heap := s.heap.push { cls := .type "set", dict := none, data := .set #[] 0 (.fresh 0 0 (!w.params.followText "set-order")) } }) ⟨rfl, rfl⟩) fun r s₁ hr => ?_
  cases r with
  | error e => exact hr
  | ok fl =>
    cases fl with
    | ret obj =>
      obtain ⟨rfl, rfl⟩ := hr
      have hS : (s.heap.push { cls := .type "set", dict := none, data := .set #[] 0 (.fresh 0 0 (!w.params.followText "set-order")) }).get? s.heap.objs.size = some { cls := .type "set", dict := none, data := .set #[] 0 (.fresh 0 0 (!w.params.followText "set-order")) } := Heap.get?_push_size _ rfl
      have hT : Shared.TypeIs { s with heap := s.heap.push { cls := .type "set", dict := none, data := .set #[] 0 (.fresh 0 0 (!w.params.followText "set-order")) } } (.ref s.heap.objs.size) "set" := ⟨_, hS, rfl⟩
      have hli := PySem.F.called_set.init.lookup
      have hbi := PySem.F.called_set.init.bind (.ref s.heap.objs.size)
      repeat (any_goals (first | assumption | wp_step))

      refine codeAny_mono (codeAny_call_builtin (R := wants (fun r s₂ => r = .none ∧ ∃ h' tk, s₂ = { s with heap := h', toks := tk } ∧ SetG knd h' s.heap.objs.size (dedup [] ks) ∧
          (∀ b o, s.heap.get? b = some o → h'.get? b = some o)) E) PySem.F.called_set.init.plain PySem.F.entry_set_init (check_set_init_1 hT ?_)) fun r₂ s₂ hr₂ => ?_
      · obtain ⟨ol, hol, hcl, nl, hdl⟩ := hl
        obtain ⟨ocls, odict, odata, oslots⟩ := ol
        simp only at hcl hdl
        subst hcl; subst hdl
        have hol' : (s.heap.push { cls := .type "set", dict := none, data := .set #[] 0 (.fresh 0 0 (!w.params.followText "set-order")) }).get? l = some { cls := .type "list", dict := odict, data := .seq items nl, slots := oslots } := Heap.get?_push_of_some _ hol
        have hsls := PySem.F.sub_list_set
        have hslf := PySem.F.sub_list_frozenset
        have hne : (Value.type "list" == Value.type "dict") = false := by decide
        have hl1 : (s.heap.push { cls := .type "set", dict := none, data := .set #[] 0 (.fresh 0 0 (!w.params.followText "set-order")) }).IsList l items := ⟨_, hol', rfl, nl, rfl⟩
        unfold Builtin.«set.__init__» noKeywords Builtin.Frozenset.updateFrom
        generalize hPI : pyIter = PI
        wp_walk
        subst hPI

        refine wpAny_pyIter_list hl1 ?_
        refine wpAny_bind (wpAny_runValue ?_)
        have hlS : l < s.heap.objs.size := Heap.lt_size hol
        have hh3 : A.in1.in1.in1.handled = none := by simp [hh]
        have hneI : l ≠ (s.heap.push { cls := .type "set", dict := none, data := .set #[] 0 (.fresh 0 0 (!w.params.followText "set-order")) }).objs.size := by
          rw [Heap.size_push]; exact Nat.ne_of_lt (Nat.lt_succ_of_lt hlS)
        have hSf : s.heap.objs.size ∉ [(s.heap.push { cls := .type "set", dict := none, data := .set #[] 0 (.fresh 0 0 (!w.params.followText "set-order")) }).objs.size, l] := by
          rw [Heap.size_push]; simp only [List.mem_cons, List.mem_singleton, List.not_mem_nil, or_false, not_or]
          exact ⟨Nat.ne_of_lt (Nat.lt_succ_self _), Nat.ne_of_gt hlS⟩
        have hval : ∀ (i : Nat) (v : Value), items[i]? = some v → ∃ k, ks[i]? = some k ∧ Kv knd v k := fun i v hv => pGetL hit (by rw [Array.getElem?_toList]; exact hv)
        refine set_update_G ((Walks.list hh3 _ l hneI items).toS) s.heap.objs.size
          hSf ks hisz hb hval (items.size - 0) 0 _ (by omega) (Nat.zero_le _)
          ⟨⟨_, Heap.get?_push_size _ rfl, rfl, rfl⟩, (hl1.push _)⟩ ?hS0 ?hR
        case hS0 =>
          have hget : ((s.heap.push { cls := .type "set", dict := none, data := .set #[] 0 (.fresh 0 0 (!w.params.followText "set-order")) }).push { cls := .type "list_iterator", data := .fields #[.ref l, .int 0 0] }).get? s.heap.objs.size
              = some { cls := .type "set", dict := none, data := .set #[] 0 (.fresh 0 0 (!w.params.followText "set-order")) } := Heap.get?_push_of_some _ hS
          exact setG_new_at hget
        case hR =>
          intro s' hm hS'
          obtain ⟨h', g2, d', tk', os'⟩ := s'
          have eg : g2 = s.gens := hm.gens
          have ed : d' = s.drawn := hm.drawn
          have eo : os' = s.os := hm.os
          subst eg; subst ed; subst eo
          show wpAny _ _ _ _ _ _
          refine wpAny_pure ?_
          show wpAny _ _ (ret Value.none) _ _ _
          refine wpAny_pure ⟨rfl, h', tk', rfl, hS', fun b o e => ?_⟩
          have hb0 : b < s.heap.objs.size := Heap.lt_size e
          have hb1 : b ≠ s.heap.objs.size := Nat.ne_of_lt hb0
          have hb2 : b ≠ (s.heap.push { cls := .type "set", dict := none, data := .set #[] 0 (.fresh 0 0 (!w.params.followText "set-order")) }).objs.size := by
            rw [Heap.size_push]; exact Nat.ne_of_lt (Nat.lt_succ_of_lt hb0)
          exact hm.heap b o (by simp only [List.mem_cons, List.mem_singleton, List.not_mem_nil, or_false, not_or]; exact ⟨hb1, hb2⟩) (Heap.get?_push_of_some _ (Heap.get?_push_of_some _ e))
      · cases r₂ with
        | error e => exact hr₂
        | ok fl₂ =>
          cases fl₂ with
          | ret r =>
            obtain ⟨rfl, h', tk, rfl, hS', hk'⟩ := hr₂
            repeat (any_goals (first | assumption | wp_step))
            exact h _ _ hS' hk'
          | _ => exact hr₂.elim
    | _ => exact hr.elim
end
end VL
namespace VL
open PySem PySem.Spec PyProof.Rows L2 RZ
/-! ### texts in order -/
def leS (a b : Str) : Bool := !ltCps b.cps.toList a.cps.toList
theorem leS_iff (a b : Str) : leS a b = true ↔ a.cps.toList ≤ b.cps.toList := by
  unfold leS
  rw [ltCps_eq]
  simp
theorem leS_trans (a b c : Str) (h1 : leS a b = true) (h2 : leS b c = true) : leS a c = true := by
  rw [leS_iff] at *
  exact List.le_trans h1 h2
theorem leS_total (a b : Str) : (leS a b || leS b a) = true := by
  rw [Bool.or_eq_true, leS_iff, leS_iff]
  exact List.le_total _ _
theorem leS_anti {a b : Str} (h1 : leS a b = true) (h2 : leS b a = true) : a = b := by
  rw [leS_iff] at *
  have := List.le_antisymm h1 h2
  cases a; cases b
  simp only [Str.mk.injEq]
  exact Array.toList_inj.mp this
theorem rising_pw : ∀ (p : Str) (l : List Str), risingS p l = true → (p :: l).Pairwise fun a b => leS a b = true
  | p, [], _ => by simp
  | p, x :: r, h => by
    have h : (!ltCps x.cps.toList p.cps.toList && risingS x r) = true := h
    rw [Bool.and_eq_true] at h
    have ih := rising_pw x r h.2
    refine List.pairwise_cons.mpr ⟨fun y hy => ?_, ih⟩
    rcases List.mem_cons.mp hy with rfl | hy
    · exact h.1
    · exact leS_trans _ _ _ h.1 ((List.pairwise_cons.mp ih).1 y hy)
theorem sorted_pw : ∀ {l : List Str}, sortedS l = true → l.Pairwise fun a b => leS a b = true
  | [], _ => by simp
  | x :: r, h => rising_pw x r h
def srtS (l : List Str) : List Str := l.mergeSort leS
def setS (l : List Str) : List Str := srtS (dedup [] l)
theorem srtS_perm (l : List Str) : (srtS l).Perm l := List.mergeSort_perm l leS
theorem srtS_pw (l : List Str) : (srtS l).Pairwise fun a b => leS a b = true := List.pairwise_mergeSort leS_trans leS_total l
theorem srtS_eq {ys l : List Str} (p : ys.Perm l) (h : sortedS ys = true) : ys = srtS l :=
  List.Perm.eq_of_pairwise (fun _ _ _ _ a b => leS_anti a b) (sorted_pw h) (srtS_pw l) (p.trans (srtS_perm l).symm)
theorem setS_mem {l : List Str} {x : Str} : x ∈ setS l ↔ x ∈ l := by
  unfold setS; rw [(srtS_perm _).mem_iff, dedup_mem]; simp
theorem setS_nodup (l : List Str) : (setS l).Nodup := (srtS_perm _).nodup_iff.mpr (dedup_nodup _ _ List.nodup_nil)
theorem setS_nd {l : List Str} (h : l.Nodup) : (setS l).Perm l := (List.perm_ext_iff_of_nodup (setS_nodup l) h).mpr fun x => setS_mem
theorem setS_len (l : List Str) : (setS l).length ≤ l.length := by
  unfold setS; rw [(srtS_perm _).length_eq]; have := dedup_len l []; simpa using this
/-! ints -/
def leI (a b : Int) : Bool := decide (a ≤ b)
def srtI (l : List Int) : List Int := l.mergeSort leI
def setI (l : List Int) : List Int := srtI (dedup [] l)
theorem srtI_perm (l : List Int) : (srtI l).Perm l := List.mergeSort_perm l leI
theorem srtI_pw (l : List Int) : (srtI l).Pairwise (· ≤ ·) := (List.pairwise_mergeSort (le := leI) (fun a b c h1 h2 => by simp [leI] at *; omega) (fun a b => by simp [leI]; omega) l).imp fun h => by simpa [leI] using h
theorem srtI_eq {ys l : List Int} (p : ys.Perm l) (h : ys.Pairwise (· ≤ ·)) : ys = srtI l :=
  List.Perm.eq_of_pairwise (fun _ _ _ _ a b => Int.le_antisymm a b) h (srtI_pw l) (p.trans (srtI_perm l).symm)
theorem setI_len (l : List Int) : (setI l).length ≤ l.length := by
  unfold setI; rw [(srtI_perm _).length_eq]; have := dedup_len l []; simpa using this

/-! ### sorted(set(..)) -/
section
variable {P : Program} {w : World} {A : Around} {E : Value → Shared → Prop} {s : Shared} {a : Addr}
theorem strs_pe : ∀ {es : List (Int × Value)} {L : List Str}, Paired (Pe (PySem.strKind P w)) es L → StrsAre (es.map (·.2)) L
  | _, _, .nil => .nil
  | _, _, .cons r t => by
    obtain ⟨q, _⟩ := r
    obtain ⟨tk, e⟩ := Value.isStrOf_shape q
    rw [List.map_cons, e]
    exact .cons _ tk (strs_pe t)
theorem ints_pe : ∀ {es : List (Int × Value)} {L : List Int}, Paired (Pe (PySem.intKind P w)) es L → IntsAre (es.map (·.2)) L
  | _, _, .nil => .nil
  | _, _, .cons (a := e) (b := k) r t => by
    obtain ⟨q, _⟩ := r
    obtain ⟨h, v⟩ := e
    cases v with
    | int i tk =>
      have : (i == k) = true := q
      have : i = k := by simpa using this
      subst this
      exact .cons _ tk (ints_pe t)
    | _ => cases q
theorem strs_perm {us vs : List Value} (p : vs.Perm us) : ∀ {L : List Str}, StrsAre us L → ∃ L', L'.Perm L ∧ StrsAre vs L' := by
  induction p with
  | nil => intro L h; exact ⟨L, .refl _, h⟩
  | cons x q ih =>
    intro L h
    cases h with
    | cons n t r =>
      obtain ⟨L', p1, p2⟩ := ih r
      exact ⟨_ :: L', p1.cons _, .cons n t p2⟩
  | swap x y l =>
    intro L h
    cases h with
    | cons n t r =>
      cases r with
      | cons n2 t2 r2 => exact ⟨_, .swap _ _ _, .cons n2 t2 (.cons n t r2)⟩
  | trans _ _ ih1 ih2 =>
    intro L h
    obtain ⟨vs, p1, p2⟩ := ih2 h
    obtain ⟨ws, p3, p4⟩ := ih1 p2
    exact ⟨ws, p3.trans p1, p4⟩
theorem intsA_perm {us vs : List Value} (p : vs.Perm us) : ∀ {L : List Int}, IntsAre us L → ∃ L', L'.Perm L ∧ IntsAre vs L' := by
  induction p with
  | nil => intro L h; exact ⟨L, .refl _, h⟩
  | cons x q ih =>
    intro L h
    cases h with
    | cons n t r =>
      obtain ⟨L', p1, p2⟩ := ih r
      exact ⟨_ :: L', p1.cons _, .cons n t p2⟩
  | swap x y l =>
    intro L h
    cases h with
    | cons n t r =>
      cases r with
      | cons n2 t2 r2 => exact ⟨_, .swap _ _ _, .cons n2 t2 (.cons n t r2)⟩
  | trans _ _ ih1 ih2 =>
    intro L h
    obtain ⟨vs, p1, p2⟩ := ih2 h
    obtain ⟨ws, p3, p4⟩ := ih1 p2
    exact ⟨ws, p3.trans p1, p4⟩
theorem sorted_setS {L : List Str} {Q : Value → Shared → Prop} (R : SetG (PySem.strKind P w) s.heap a L) (hh : A.handled = none) (h64 : L.length < 64)
    (hQ : ∀ s' p (out : Array Value) (c : Nat), (∀ b o, s.heap.get? b = some o → s'.heap.get? b = some o) → s'.gens = s.gens → s'.os = s.os → s.heap.objs.size ≤ p →
      s'.heap.get? p = some (seqObj "list" out c) → StrsAre out.toList (srtS L) → Q (.ref p) s') :
    wpAny (model P w) A (call (.builtin "sorted") [.ref a]) Q E s := by
  obtain ⟨o, es, ep, t, ho, hex, hd, ⟨L', pL, pr⟩, nd, hb, hf, hr, hl⟩ := R
  refine Calls.call_function_entry kind_sorted plain_sorted entry_sorted (args_sorted1 _) ?_
  unfold Builtin.«sorted»
  refine wpAny_bind (m := checkCount "sorted" 1 1 _) (wpAny_pure ?_)
  refine wpAny_bind (collect_set (A := A.in1) hh ⟨o, ho, hex.1, hd⟩ hf hb hr hl fun s1 vs k1 hz g1 o1 pm => ?_)
  obtain ⟨L2, pL2, hS⟩ := strs_perm pm (strs_pe pr)
  have pp : L2.Perm L := pL2.trans pL
  have hvl : vs.length = L2.length := hS.length
  have hv64 : vs.length < 64 := by rw [hvl, pp.length_eq]; exact h64
  refine wpAny_bind (wpAny_newList ?_ (by rw [sizeLine_eq]; omega))
  have hoL : (s1.heap.push (seqObj "list" vs.toArray 0)).get? s1.heap.objs.size = some (seqObj "list" vs.toArray 0) := Heap.get?_push_size _ rfl
  refine wpAny_bind (wpAny_holding (wpAny_call_entry slot_list_sort ⟨_, hoL, rfl⟩ entry_list_sort (list_sort_treeK strKind_oneLt hoL hS.keysOf (fun v₁ v₂ rest e => keyKind_strs (by rw [← e]; exact hS)) hv64 fun st' hp hs => ⟨_, rfl, ?_⟩) (args_list_sort _)))
  obtain ⟨ys, g1', g2, g3⟩ := sorted_out_str hS hp hs
  obtain ⟨c, hc⟩ := sortedHeap_at (vs := vs) (out := (arrOf st').map (·.2)) hoL
  have ey : ys = srtS L := srtS_eq (g2.trans pp) g3
  rw [ey] at g1'
  refine wpAny_pure ⟨_, rfl, hQ _ s1.heap.objs.size ((arrOf st').map (·.2)) c (fun b u e => ?_) g1 o1 hz hc g1'⟩
  have q := k1 b u e
  have hlt := Heap.lt_size q
  show (sortedHeap (s1.heap.push (seqObj "list" vs.toArray 0)) s1.heap.objs.size vs ((arrOf st').map (·.2))).get? b = some u
  rw [sortedHeap_old (Nat.ne_of_lt hlt) (by rw [size_push']; exact Nat.lt_succ_of_lt hlt)]
  exact Heap.get?_push_of_some _ q
theorem sorted_setI {L : List Int} {Q : Value → Shared → Prop} (R : SetG (PySem.intKind P w) s.heap a L) (hh : A.handled = none) (h64 : L.length < 64)
    (hQ : ∀ s' p (out : Array Value) (c : Nat), (∀ b o, s.heap.get? b = some o → s'.heap.get? b = some o) → s'.gens = s.gens → s'.os = s.os → s.heap.objs.size ≤ p →
      s'.heap.get? p = some (seqObj "list" out c) → IntsAre out.toList (srtI L) → Q (.ref p) s') :
    wpAny (model P w) A (call (.builtin "sorted") [.ref a]) Q E s := by
  obtain ⟨o, es, ep, t, ho, hex, hd, ⟨L', pL, pr⟩, nd, hb, hf, hr, hl⟩ := R
  refine Calls.call_function_entry kind_sorted plain_sorted entry_sorted (args_sorted1 _) ?_
  unfold Builtin.«sorted»
  refine wpAny_bind (m := checkCount "sorted" 1 1 _) (wpAny_pure ?_)
  refine wpAny_bind (collect_set (A := A.in1) hh ⟨o, ho, hex.1, hd⟩ hf hb hr hl fun s1 vs k1 hz g1 o1 pm => ?_)
  obtain ⟨L2, pL2, hS⟩ := intsA_perm pm (ints_pe pr)
  have pp : L2.Perm L := pL2.trans pL
  have hvl : vs.length = L2.length := hS.length
  have hv64 : vs.length < 64 := by rw [hvl, pp.length_eq]; exact h64
  refine wpAny_bind (wpAny_newList ?_ (by rw [sizeLine_eq]; omega))
  have hoL : (s1.heap.push (seqObj "list" vs.toArray 0)).get? s1.heap.objs.size = some (seqObj "list" vs.toArray 0) := Heap.get?_push_size _ rfl
  refine wpAny_bind (wpAny_holding (wpAny_call_entry slot_list_sort ⟨_, hoL, rfl⟩ entry_list_sort (list_sort_tree hoL hS hv64 fun out ns' a1 a2 a3 => ⟨_, rfl, ?_⟩) (args_list_sort _)))
  obtain ⟨c, hc⟩ := sortedHeap_at (vs := vs) (out := out) hoL
  have ey : ns' = srtI L := srtI_eq (a2.trans pp) a3
  rw [ey] at a1
  refine wpAny_pure ⟨_, rfl, hQ _ s1.heap.objs.size out c (fun b u e => ?_) g1 o1 hz hc a1⟩
  have q := k1 b u e
  have hlt := Heap.lt_size q
  show (sortedHeap (s1.heap.push (seqObj "list" vs.toArray 0)) s1.heap.objs.size vs out).get? b = some u
  rw [sortedHeap_old (Nat.ne_of_lt hlt) (by rw [size_push']; exact Nat.lt_succ_of_lt hlt)]
  exact Heap.get?_push_of_some _ q
end
def tSortSet (K : PySem.W.Frag) (ta : TE) : TE := fun σ H Q => ta σ H fun x H1 => ∃ l, x = .ref l ∧
  ((∃ xs : List Str, SqL K H1 l (xs.map V.str) ∧ xs.length < 64 ∧ ∀ p, H1 p = none → Q (.ref p) (upd H1 p (.lst ((setS xs).map V.str)))) ∨
   (∃ xs : List Int, SqL K H1 l (xs.map V.int) ∧ (xs.length < 64 ∨ (xs.length ≤ 1000 ∧ (setI xs).length < 64)) ∧ ∀ p, H1 p = none → Q (.ref p) (upd H1 p (.lst ((setI xs).map V.int)))))
theorem kv_strs {P : Program} {w : World} : ∀ {its : List Value} {xs : List Str}, StrsAre its xs → Paired (Kv (PySem.strKind P w)) its xs
  | _, _, .nil => .nil
  | _, _, .cons n t r => .cons ⟨by show (n == n) = true; simp, rfl⟩ (kv_strs r)
theorem kv_ints {P : Program} {w : World} : ∀ {its : List Value} {xs : List Int}, IntsAre its xs → Paired (Kv (PySem.intKind P w)) its xs
  | _, _, .nil => .nil
  | _, _, .cons n t r => .cons ⟨by show (n == n) = true; simp, rfl⟩ (kv_ints r)
section
variable {X : Cx}
theorem inv_new {pins : List (Addr × Obj)} {σ : L2.St} {H : Hp} {s s' : Shared} {p : Addr} {o : HO} (I : Inv X pins σ H s) (k : ∀ b o, s.heap.get? b = some o → s'.heap.get? b = some o) (g : s'.gens = s.gens) (os : s'.os = s.os) (hp : s.heap.objs.size ≤ p) (ho : ObjOk X.prog X.w (upd H p o) s'.heap p o) : Inv X pins σ (upd H p o) s' ∧ H p = none := by
  have hn : H p = none := I.hok.fresh hp
  refine ⟨?_, hn⟩
  have J : Inv X pins σ (upd H p o) { s with heap := s'.heap, gens := s'.gens, drawn := s'.drawn, toks := s'.toks } :=
    I.call (ch := []) (Un.laid k hp hn) (I.hok.laid k hp ho) (by rw [g]; exact I.bare) (fun _ z => nomatch z)
  have e : s' = { s with heap := s'.heap, gens := s'.gens, drawn := s'.drawn, toks := s'.toks } := by
    cases s'
    cases s
    cases os
    rfl
  rw [e]
  exact J
theorem pe_sortedSet {a : Expr} {ta : TE} {p p2 q pos : Pos} (hc : X.calm = true) (hg : Gl X "sorted") (hm : X.mg "sorted" = none) (hg2 : Gl X "set") (hm2 : X.mg "set" = none) (ha : PE X a ta)
    (na : starEach [a] X.env = (false, eval a X.env) :: starEach [] X.env := by rfl) : PE X (.Call (.Name "sorted" p) [.Call (.Name "set" p2) [a] [] q] [] pos) (tSortSet X.K ta) := by
  refine ⟨fun pins s σ H Q I h => ?_⟩
  refine Call_ (ld_blt I hg hm (show bootBuiltins "sorted" = some (.builtin "sorted") by decide +kernel) ?_)
  refine PyProof.Rows.callWith_builtin1 (PyProof.Rows.args_cons ?_ rfl) rfl rfl
  refine Call_ (ld_blt I hg2 hm2 boot_set ?_)
  refine PyProof.Rows.callWith_type1 (PyProof.Rows.args_cons (thn (ha.run pins s σ H _ I h) fun v s1 ⟨x, H1, I1, r1, q1⟩ => PyProof.Rows.args_nil ?_) na) na rfl
  obtain ⟨l, rfl, q1⟩ := q1
  cases r1
  rcases q1 with ⟨xs, hq, h64, q1⟩ | ⟨xs, hq, h64, q1⟩
  · obtain ⟨its, r, pl, hz⟩ := I1.list hq
    refine call_set_listG (knd := PySem.strKind X.prog X.w) (items := its.toArray) xs (I1.ok.hd hc) pl.isList (by simpa using kv_strs r.strs) (by unfold scanBound; omega) fun h' tk hS hk => ?_
    have I2 : Inv X pins σ H1 { s1 with heap := h', toks := tk } := I1.kept fun b o e => hk b o e
    refine PyProof.Rows.args_nil ?_
    have hl : (dedup [] xs).length < 64 := by have := dedup_len xs []; simp at this; omega
    refine sorted_setS (s := { s1 with heap := h', toks := tk }) hS (I1.ok.hd hc) hl fun s' p out c k g os hp hg hi => ?_
    have hlen : ((setS xs).map V.str).length ≤ sizeLine := by have := setS_len xs; rw [List.length_map, sizeLine_eq]; omega
    obtain ⟨J, hn⟩ := inv_new (o := .lst ((setS xs).map V.str)) I2 k g os hp ⟨hlen, out.toList, c, vals_of_strs hi, by rw [Array.toArray_toList]; exact hg⟩
    exact ⟨.ref p, _, J, rfl, q1 p hn⟩
  · obtain ⟨its, r, pl, hz⟩ := I1.list hq
    refine call_set_listG (knd := PySem.intKind X.prog X.w) (items := its.toArray) xs (I1.ok.hd hc) pl.isList (by simpa using kv_ints r.ints) (by unfold scanBound; omega) fun h' tk hS hk => ?_
    have I2 : Inv X pins σ H1 { s1 with heap := h', toks := tk } := I1.kept fun b o e => hk b o e
    refine PyProof.Rows.args_nil ?_
    have hl : (dedup [] xs).length < 64 := by
      have := dedup_len xs []
      have e : (setI xs).length = (dedup [] xs).length := (srtI_perm _).length_eq
      simp at this; omega
    refine sorted_setI (s := { s1 with heap := h', toks := tk }) hS (I1.ok.hd hc) hl fun s' p out c k g os hp hg hi => ?_
    have hlen : ((setI xs).map V.int).length ≤ sizeLine := by have := setI_len xs; rw [List.length_map, sizeLine_eq]; omega
    obtain ⟨J, hn⟩ := inv_new (o := .lst ((setI xs).map V.int)) I2 k g os hp ⟨hlen, out.toList, c, vals_of_ints hi, by rw [Array.toArray_toList]; exact hg⟩
    exact ⟨.ref p, _, J, rfl, q1 p hn⟩
end
def intsOf : List D → Option (List Int)
  | [] => some []
  | .int x :: ds => (intsOf ds).map (x :: ·)
  | _ :: _ => none
theorem intsOf_rep {K : KW} {F : Hp} : ∀ {ds : List D} {vs : List V} {ys : List Int}, Paired (RepD K F) ds vs → intsOf ds = some ys → vs = ys.map V.int
  | [], _, _, .nil, e => by cases e; rfl
  | d :: ds, _, ys, .cons r t, e => by
    cases r <;> simp only [intsOf] at e <;> try cases e
    cases q : intsOf ds with
    | none => rw [q] at e; cases e
    | some zs =>
      rw [q] at e
      cases e
      rw [intsOf_rep t q]; rfl
theorem strsOf_of : ∀ {ds : List D} {ys : List Str}, strsOf ds = some ys → ds = ys.map D.str
  | [], _, e => by cases e; rfl
  | d :: ds, ys, e => by
    cases d <;> simp only [strsOf] at e <;> try cases e
    cases q : strsOf ds with
    | none => rw [q] at e; cases e
    | some zs => rw [q] at e; cases e; rw [strsOf_of q]; rfl
@[simp] theorem strsOf_map : ∀ ys : List Str, strsOf (ys.map D.str) = some ys
  | [] => rfl
  | y :: ys => by rw [List.map_cons, strsOf, strsOf_map ys]; rfl
@[simp] theorem intsOf_map : ∀ ys : List Int, intsOf (ys.map D.int) = some ys
  | [] => rfl
  | y :: ys => by rw [List.map_cons, intsOf, intsOf_map ys]; rfl
/-- sorted(set(e)) of a list of texts, or of ints, fewer than 64 -/
@[simp] def wSortSet (o : Bool) (a : WE) : WE := fun rh mu Q => a rh mu fun x mu1 => match lsD mu1 x with
  | some ds => (match strsOf ds with
    | some ys => ys.length < 64 ∧ newL o ((setS ys).map D.str) mu1 Q
    | none => match intsOf ds with
      | some ns => (ns.length < 64 ∨ (ns.length ≤ 1000 ∧ (setI ns).length < 64)) ∧ newL o ((setI ns).map D.int) mu1 Q
      | none => False)
  | none => False
section
variable {io : Type} {Y : io → Cx} {P : Program} {w : World} {K : KW} {mg : Str → Option Value} {base : Heap} {N : List Str} {k : Nat} {pos p p2 q : Pos} {a : Expr} {wa : WE}
theorem reps_strs {F : Hp} : ∀ {ys : List Str}, (∀ y ∈ ys, StrOk y) → Paired (RepD K F) (ys.map D.str) (ys.map V.str)
  | [], _ => .nil
  | y :: ys, h => .cons (.str _ (h y (by simp))) (reps_strs fun z hz => h z (by simp [hz]))
theorem reps_ints {F : Hp} : ∀ {ys : List Int}, Paired (RepD K F) (ys.map D.int) (ys.map V.int)
  | [] => .nil
  | y :: ys => .cons (.int _) reps_ints
theorem strs_ok {F : Hp} : ∀ {ys : List Str} {vs : List V}, Paired (RepD K F) (ys.map D.str) vs → ∀ y ∈ ys, StrOk y
  | [], _, _, y, h => by cases h
  | z :: ys, _, .cons r t, y, h => by
    rcases List.mem_cons.mp h with rfl | h
    · cases r with | str _ h => exact h
    · exact strs_ok t y h
theorem ve_sortedSet (y : YOk Y P w K mg base N k) (o : Bool) (hm : mg "sorted" = none) (hm2 : mg "set" = none) (ha : VE Y K a wa) (hg : ∀ i, Gl (Y i) "sorted" := by exact fun _ => rfl) (hg2 : ∀ i, Gl (Y i) "set" := by exact fun _ => rfl)
    (na : ∀ i, starEach [a] (Y i).env = (false, eval a (Y i).env) :: starEach [] (Y i).env := by exact fun _ => rfl) : VE Y K (.Call (.Name "sorted" p) [.Call (.Name "set" p2) [a] [] q] [] pos) (wSortSet o wa) := by
  obtain ⟨t, p1, d⟩ := ha
  refine ⟨tSortSet K t, fun i => by have := pe_sortedSet (p := p) (p2 := p2) (q := q) (pos := pos) (y.calm i) (hg i) (by rw [y.hmg i]; exact hm) (hg2 i) (by rw [y.hmg i]; exact hm2) (p1 i) (na i); rw [y.hK i] at this; exact this, fun G B F H al rh si mu Qd Q s h kq => ?_⟩
  refine d G B F H al rh si mu _ _ s h fun F1 H1 al1 mu1 x v e1 s1 r1 h1 => ?_
  split at h1
  · rename_i ds el
    obtain ⟨l, vs, rfl, rd, z, pr⟩ := lsD_rep s1.s r1 el
    refine ⟨l, rfl, ?_⟩
    split at h1
    · rename_i ys ey
      obtain ⟨h64, h1⟩ := h1
      have ev := strs_rep pr ey
      subst ev
      have := strsOf_of ey
      subst this
      have ok := strs_ok pr
      refine .inl ⟨ys, .inl rd, h64, fun p hp => ?_⟩
      refine newL_ok (K := K) s1 (reps_strs fun y hy => ok y (setS_mem.mp hy)) ?_ h1 (fun F' H' al' mu' w v x => kq F' H' al' mu' w v (e1.trans x)) p hp
      have := setS_len ys
      rw [List.length_map, sizeLine_eq]; omega
    · rename_i hn
      split at h1
      · rename_i ns en
        obtain ⟨h64, h1⟩ := h1
        have ev := intsOf_rep pr en
        subst ev
        refine .inr ⟨ns, .inl rd, h64, fun p hp => ?_⟩
        refine newL_ok (K := K) s1 reps_ints ?_ h1 (fun F' H' al' mu' w v x => kq F' H' al' mu' w v (e1.trans x)) p hp
        have := setI_len ns
        rw [List.length_map, sizeLine_eq]; omega
      · exact h1.elim
  · exact h1.elim
end
end VL
namespace VL
open PySem PySem.Spec PyProof.Rows L2 RZ
/-! ### dicts with ints and texts as keys -/
section
variable {K : KW} {G B F H : Hp} {al : List Addr} {mu : Sto}
end
section
variable {K : KW} {G B F H : Hp} {al : List Addr} {mu : Sto}
end
section
variable {io : Type} {Y : io → Cx} {P : Program} {w : World} {K : KW} {mg : Str → Option Value} {base : Heap} {N : List Str} {k : Nat} {pos p apos cpos : Pos} {a i e o f : Expr} {wa wi we wo wf : WE}
end
section
variable {X : Cx} {P : Program} {w : World} {K : KW} {mg : Str → Option Value} {base : Heap} {N : List Str} {k : Nat} {pos pos' : Pos} {o i e : Expr} {wo wi we : WE}
end
/-! ### sorted(..): a list of texts, of ints, the keys of a dict, fewer than 64 -/
section
variable {io : Type} {Y : io → Cx} {P : Program} {w : World} {K : KW} {mg : Str → Option Value} {base : Heap} {N : List Str} {k : Nat} {pos p : Pos} {e : Expr} {es : List Expr} {ga : WA}
end
end VL
namespace VL
open PySem PySem.Spec PyProof.Rows L2 RZ RT
/-! ### list(reversed(a list)) -/
section
variable {prog : Program} {w : World} {A : Around} {E : Value → Shared → Prop} {s : Shared}
end
section
variable {X : Cx}
end
section
variable {io : Type} {Y : io → Cx} {P : Program} {w : World} {K : KW} {mg : Str → Option Value} {base : Heap} {N : List Str} {k : Nat} {pos p p2 pos2 : Pos} {a : Expr} {wa : WE}
end
end VL
namespace VL
open PySem PySem.Spec PyProof.Rows L2 RZ
/-! ### sorted(..) of a list of tuples of ints and texts, any number of them -/
def isInl : Key → Bool
  | .inl _ => true
  | .inr _ => false
def ltK : Key → Key → Bool
  | .inl i, .inl j => decide (i < j)
  | .inr x, .inr y => ltCps x.cps.toList y.cps.toList
  | .inl _, .inr _ => true
  | .inr _, .inl _ => false
def ltL : List Key → List Key → Bool
  | [], [] => false
  | [], _ :: _ => true
  | _ :: _, [] => false
  | a :: as, b :: bs => if a = b then ltL as bs else ltK a b
theorem leS_lt {x y : Str} (h : ltCps x.cps.toList y.cps.toList = false) : leS y x = true := by unfold leS; rw [h]; rfl
theorem lt_leS {x y : Str} (h : ltCps x.cps.toList y.cps.toList = true) : leS y x = false := by unfold leS; rw [h]; rfl
theorem ltK_irr (a : Key) : ltK a a = false := by
  cases a with
  | inl i => simp [ltK]
  | inr x =>
    unfold ltK
    cases h : ltCps x.cps.toList x.cps.toList with
    | false => exact h
    | true =>
      have h1 := lt_leS h
      have h2 := leS_total x x
      rw [h1] at h2
      cases h2
theorem ltK_tri {a b : Key} (h1 : ltK a b = false) (h2 : ltK b a = false) : a = b := by
  cases a <;> cases b
  · simp [ltK] at h1 h2; congr 1; omega
  · cases h1
  · cases h2
  · rename_i x y
    have e := leS_anti (leS_lt h2) (leS_lt h1)
    rw [e]
theorem ltK_trans {a b c : Key} (h1 : ltK a b = true) (h2 : ltK b c = true) : ltK a c = true := by
  cases a <;> cases b <;> cases c <;> first | (cases h1; done) | (cases h2; done) | rfl | skip
  · simp [ltK] at *; omega
  · rename_i x y z
    unfold ltK at *
    cases h : ltCps x.cps.toList z.cps.toList with
    | true => exact h
    | false =>
      have h3 := leS_lt h
      have l1 := lt_leS h1
      have l2 := lt_leS h2
      have t1 : leS x y = true := by have := leS_total x y; rw [l1] at this; simpa using this
      have := leS_trans _ _ _ h3 t1
      rw [l2] at this; cases this
theorem ltL_irr : ∀ a : List Key, ltL a a = false
  | [] => rfl
  | a :: as => by unfold ltL; rw [if_pos rfl]; exact ltL_irr as
theorem ltL_tri : ∀ {a b : List Key}, ltL a b = false → ltL b a = false → a = b
  | [], [], _, _ => rfl
  | [], _ :: _, h, _ => by cases h
  | _ :: _, [], _, h => by cases h
  | a :: as, b :: bs, h1, h2 => by
    unfold ltL at h1 h2
    by_cases c : a = b
    · subst c
      rw [if_pos rfl] at h1 h2
      rw [ltL_tri h1 h2]
    · rw [if_neg c] at h1
      rw [if_neg fun z => c z.symm] at h2
      exact absurd (ltK_tri h1 h2) c
theorem ltL_trans : ∀ {a b c : List Key}, ltL a b = true → ltL b c = true → ltL a c = true
  | [], [], _, h, _ => by cases h
  | [], _ :: _, [], _, h => by cases h
  | [], _ :: _, _ :: _, _, _ => rfl
  | _ :: _, [], _, h, _ => by cases h
  | _ :: _, _ :: _, [], _, h => by cases h
  | a :: as, b :: bs, c :: cs, h1, h2 => by
    unfold ltL at h1 h2 ⊢
    by_cases e1 : a = b
    · subst e1
      rw [if_pos rfl] at h1
      by_cases e2 : a = c
      · subst e2
        rw [if_pos rfl] at h2 ⊢
        exact ltL_trans h1 h2
      · rw [if_neg e2] at h2 ⊢
        exact h2
    · rw [if_neg e1] at h1
      by_cases e2 : b = c
      · subst e2
        rw [if_neg e1]; exact h1
      · rw [if_neg e2] at h2
        have h3 := ltK_trans h1 h2
        rw [if_neg fun z => by subst z; rw [ltK_irr] at h3; cases h3]
        exact h3
theorem ltL_asym {a b : List Key} (h : ltL a b = true) : ltL b a = false := by
  cases q : ltL b a with
  | false => rfl
  | true => have := ltL_trans h q; rw [ltL_irr] at this; cases this
def leL (a b : List Key) : Bool := !ltL b a
theorem leL_trans (a b c : List Key) (h1 : leL a b = true) (h2 : leL b c = true) : leL a c = true := by
  unfold leL at *
  cases q : ltL c a with
  | false => rfl
  | true =>
    simp at h1 h2
    cases q2 : ltL a b with
    | true => have := ltL_trans q q2; rw [h2] at this; cases this
    | false => have := ltL_tri h1 q2; subst this; rw [h2] at q; cases q
theorem leL_total (a b : List Key) : (leL a b || leL b a) = true := by
  unfold leL
  cases q : ltL b a with
  | false => rfl
  | true => rw [ltL_asym q]; rfl
theorem leL_anti {a b : List Key} (h1 : leL a b = true) (h2 : leL b a = true) : a = b := by
  unfold leL at *
  simp at h1 h2
  exact ltL_tri h2 h1
def srtL (l : List (List Key)) : List (List Key) := l.mergeSort leL
theorem srtL_perm (l : List (List Key)) : (srtL l).Perm l := List.mergeSort_perm l leL
theorem srtL_pw (l : List (List Key)) : (srtL l).Pairwise fun a b => leL a b = true := List.pairwise_mergeSort leL_trans leL_total l
theorem srtL_eq {ys l : List (List Key)} (p : ys.Perm l) (h : ys.Pairwise fun a b => leL a b = true) : ys = srtL l :=
  List.Perm.eq_of_pairwise (fun _ _ _ _ a b => leL_anti a b) h (srtL_pw l) (p.trans (srtL_perm l).symm)
/-- the tuple of these keys -/
def IsRow (h : Heap) (v : Value) (ks : List Key) : Prop := ∃ a o us n, v = .ref a ∧ h.get? a = some o ∧ o.cls = .type "tuple" ∧ o.data = .seq us n ∧ Paired (fun k u => L2.RelV (kV k) u) ks us.toList
theorem IsRow.keeps {h h' : Heap} {v : Value} {ks : List Key} (p : IsRow h v ks) (k : ∀ b o, h.get? b = some o → o.cls = .type "tuple" → h'.get? b = some o) : IsRow h' v ks := by
  obtain ⟨a, o, us, n, e, ho, hc, hd, r⟩ := p
  exact ⟨a, o, us, n, e, k _ _ ho hc, hc, hd, r⟩
section
variable {prog : Program} {w : World} {A : Around} {E : Value → Shared → Prop} {s : Shared}
theorem eqKeys {k k' : Key} {u u' : Value} (r : L2.RelV (kV k) u) (r' : L2.RelV (kV k') u') (hs : isInl k = isInl k') {Q : Bool → Shared → Prop} (h : Q (decide (k = k')) s) : wpAny (model prog w) A (eqBool u u') Q E s := by
  cases k with
  | inl i =>
    cases k' with
    | inr y => cases hs
    | inl j =>
      obtain ⟨t, rfl⟩ := r
      obtain ⟨t', rfl⟩ := r'
      refine SeqAt.EqAt.int_int i t j t' prog w _ _ ?_
      have e : (i == j) = decide ((Sum.inl i : Key) = Sum.inl j) := by by_cases c : i = j <;> simp [c]
      rw [e]; exact h
  | inr x =>
    cases k' with
    | inl y => cases hs
    | inr y =>
      obtain ⟨t, rfl⟩ := r
      obtain ⟨t', rfl⟩ := r'
      refine SeqAt.EqAt.str_str x t y t' prog w _ _ ?_
      have e : (x == y) = decide ((Sum.inr x : Key) = Sum.inr y) := by by_cases c : x = y <;> simp [c]
      rw [e]; exact h
theorem lex_rows : ∀ {ks ks' : List Key} {us us' : List Value} {i : Nat} {Q : Bool → Shared → Prop}, Paired (fun k u => L2.RelV (kV k) u) ks us → Paired (fun k u => L2.RelV (kV k) u) ks' us' → ks.map isInl = ks'.map isInl →
    (i = 0 → ∀ k, ks.head? = some k → isInl k = true) → Q (ltL ks ks') s → PySem.W.KatLex prog w A true false Q (us.zip us') i s
  | _, _, _, _, i, Q, .nil, .nil, _, _, h => PySem.W.kat_nil h
  | _, _, _, _, i, Q, .nil, .cons _ _, e, _, h => by simp at e
  | _, _, _, _, i, Q, .cons _ _, .nil, e, _, h => by simp at e
  | k :: ks, k' :: ks', u :: us, u' :: us', i, Q, .cons r t, .cons r' t', e, hi, h => by
    simp only [List.map_cons, List.cons.injEq] at e
    refine PySem.W.kat_cons (eqKeys r r' e.1 ?_)
    unfold ltL at h
    refine PySem.W.kat_go (fun e1 => ?_) (fun e1 => ?_)
    · have ex : k = k' := by simpa using e1
      rw [if_pos ex] at h
      exact PySem.W.kat_yes (lex_rows t t' e.2 (by omega) h)
    · have ex : ¬ k = k' := by simpa using e1
      rw [if_neg ex] at h
      refine PySem.W.kat_no ?_
      cases k with
      | inl x =>
        cases k' with
        | inr y => cases e.1
        | inl y =>
          obtain ⟨t, rfl⟩ := r
          obtain ⟨t', rfl⟩ := r'
          exact TS.oneLt_ints _ h
      | inr x =>
        cases k' with
        | inl y => cases e.1
        | inr y =>
          obtain ⟨t, rfl⟩ := r
          obtain ⟨t', rfl⟩ := r'
          have hi0 : i ≠ 0 := fun z => by have := hi z _ rfl; cases this
          have : (true && i == 0) = false := by simp [hi0]
          rw [this]
          refine PySem.W.kat_one _ _ (PyProof.Rows.lt_str ?_)
          have e2 : ltK (Sum.inr x) (Sum.inr y) = decide (x.cps.toList < y.cps.toList) := ltCps_eq _ _
          rw [e2] at h
          exact h
/-- rows of one kind, an int ahead -/
def RowSig (sg : List Bool) (ks : List Key) : Prop := ks.map isInl = true :: sg
theorem row_cmp {vs : List Value} {k : Value → List Key} {sg : List Bool} (hp : ∀ v ∈ vs, IsRow s.heap v (k v) ∧ RowSig sg (k v)) : SrtO.Cmp prog w A s (tuples' true) (fun p => p.1 ∈ vs) (SrtO.lt2 fun v u => ltL (k v) (k u)) := by
  intro p q hm hm'
  obtain ⟨h1, g1⟩ := hp _ hm
  obtain ⟨h2, g2⟩ := hp _ hm'
  show wpAny (model prog w) A (keyLt' (tuples' true) p.1 q.1) (fun r s' => s' = s ∧ r = ltL (k p.1) (k q.1)) (fun _ _ => False) s
  generalize k p.1 = x at h1 g1 ⊢
  generalize k q.1 = x' at h2 g2 ⊢
  obtain ⟨a, o, us, n, e, ho, hc, hd, r⟩ := h1
  obtain ⟨a', o', us', n', e', ho', hc', hd', r'⟩ := h2
  rw [e, e']
  refine PySem.W.kat_lt ho hd ho' hd' ?_
  have l1 := Paired.length r
  have l2 := Paired.length r'
  have l3 : x.length = x'.length := by
    have := congrArg List.length (g1.trans g2.symm)
    simpa using this
  have : decide (us.size < us'.size) = false := by
    simp only [Array.length_toList] at l1 l2
    exact decide_eq_false (by omega)
  rw [this]
  refine lex_rows r r' (g1.trans g2.symm) (fun _ y hy => ?_) ⟨rfl, rfl⟩
  unfold RowSig at g1
  cases x with
  | nil => cases hy
  | cons z zs => simp at hy g1; subst hy; exact g1.1
theorem row_firsts {h : Heap} {k : Value → List Key} {sg : List Bool} : ∀ {vs : List Value}, (∀ v ∈ vs, IsRow h v (k v) ∧ RowSig sg (k v)) → ∃ fs : List Value, PySem.W.KatTups h vs fs ∧ fs.length = vs.length ∧ ∀ f ∈ fs, ∃ x t, f = Value.int x t
  | [], _ => ⟨[], PySem.W.KatTups.nil, rfl, fun _ hm => by simp at hm⟩
  | v :: vs, hp => by
    obtain ⟨fs, h1, h2, h3⟩ := row_firsts (vs := vs) fun v' hm => hp v' (List.mem_cons_of_mem _ hm)
    obtain ⟨⟨a, o, us, n, e, ho, hc, hd, r⟩, g⟩ := hp v (List.mem_cons_self ..)
    subst e
    unfold RowSig at g
    cases q : k (.ref a) with
    | nil => rw [q] at g; simp at g
    | cons z zs =>
      rw [q] at g r
      simp at g
      cases z with
      | inr y => cases g.1
      | inl x =>
        obtain ⟨u0, us0, eu⟩ : ∃ u0 us0, us.toList = u0 :: us0 := by
          cases h : us.toList with
          | nil => rw [h] at r; cases r
          | cons a b => exact ⟨a, b, rfl⟩
        rw [eu] at r
        cases r with
        | cons r0 _ =>
          obtain ⟨t, rfl⟩ := r0
          refine ⟨.int x t :: fs, PySem.W.KatTups.cons ho hc hd (by have := congrArg (fun l : List Value => l[0]?) eu; simpa using this) h1, by rw [List.length_cons, List.length_cons, h2], fun f hm => ?_⟩
          rcases List.mem_cons.mp hm with rfl | hm
          · exact ⟨x, t, rfl⟩
          · exact h3 f hm
theorem rows_sortable {a : Addr} {vs : List Value} {k : Value → List Key} {sg : List Bool} (h0 : 0 < vs.length) (hp : ∀ v ∈ vs, IsRow s.heap v (k v) ∧ RowSig sg (k v)) (ha : ∀ o, s.heap.get? a = some o → o.cls ≠ .type "tuple") : SrtO.SortableO prog w A s a vs fun v u => ltL (k v) (k u) := by
  intro h' keep
  have hp' : ∀ v ∈ vs, IsRow h' v (k v) ∧ RowSig sg (k v) := fun v hm => ⟨(hp v hm).1.keeps fun b o e c => keep b o (fun z => by subst z; exact ha o e c) e, (hp v hm).2⟩
  obtain ⟨fs, h1, h2, h3⟩ := row_firsts hp'
  refine ⟨tuples' true, fun Q E hq => ?_, row_cmp (s := { s with heap := h' }) hp'⟩
  refine PySem.W.kat_kind (T := .type "int") h1 (by omega) (fun f hm => ?_) (by rfl) ?_
  · obtain ⟨x, t, rfl⟩ := h3 f hm
    exact PySem.W.Looks.now
  · have e : (Value.type "int" != Value.type "tuple") = true := by first | decide +kernel | rfl | decide
    rw [e]
    exact hq
theorem swo_row (k : Value → List Key) : SrtO.Swo fun v u => ltL (k v) (k u) := by
  refine ⟨fun x y h => ltL_asym h, fun x y z h1 h2 => ?_⟩
  have a : leL (k x) (k y) = true := by unfold leL; simp [h1]
  have b : leL (k y) (k z) = true := by unfold leL; simp [h2]
  have := leL_trans _ _ _ a b
  unfold leL at this
  simpa using this
theorem sorted_rows {l : Addr} {vs : List Value} {k : Value → List Key} {sg : List Bool} {Q : Value → Shared → Prop} (hl : s.heap.IsList l vs.toArray) (hz : vs.length ≤ sizeLine) (hp : ∀ v ∈ vs, IsRow s.heap v (k v) ∧ RowSig sg (k v))
    (h : ∀ (h' : Heap) (d : Addr) (out : List Value), SrtO.Srtd (fun v u => ltL (k v) (k u)) out → SrtO.Stb (fun v u => ltL (k v) (k u)) out vs → (∀ b o, s.heap.get? b = some o → h'.get? b = some o) → s.heap.objs.size ≤ d → (∃ n, h'.get? d = some (seqObj "list" out.toArray n)) → Q (.ref d) { s with heap := h' }) :
    wpAny (model prog w) A (call (.builtin "sorted") [.ref l]) Q E s := by
  refine SrtO.sorted_ord (swo_row k) hl hz (fun h2 h₁ a ha kk => ?_) fun out hs hb => ?_
  · refine rows_sortable (s := { s with heap := h₁ }) (by omega) (fun v hm => ⟨(hp v hm).1.keeps fun b o e _ => (kk b o e).2, (hp v hm).2⟩) fun o e => ?_
    have e' : some o = some (seqObj "list" vs.toArray 0) := e.symm.trans ha
    cases e'
    intro c
    exact absurd (Value.type.inj c) (by decide)
  · exact h _ _ out hs hb (fun b o e => PyProof.Rows.sortedAll_old e) (Nat.le_succ _) (PyProof.Rows.sortedAll_at s.heap vs out.toArray)
end

/-- sorted(xs), xs a list of rows -/
def rSortedR (K : PySem.W.Frag) : List V → Hp → L2.VK → Prop := fun vs H Q => ∃ (a : Addr) (xs : List V) (rs : List (List Key)) (R : V → List Key → Prop) (sg : List Bool), vs = [V.ref a] ∧ SqL K H a xs ∧
  Paired (fun x r => R x r ∧ (∃ t, x = V.ref t ∧ SqT K H t (r.map kV)) ∧ RowSig sg r) xs rs ∧ ∀ ys p, Paired R ys (srtL rs) → H p = none → Q (.ref p) (upd H p (.lst ys))
theorem vals_keys : ∀ {ks : List Key} {us : List Value}, Vals (ks.map kV) us → Paired (fun k u => L2.RelV (kV k) u) ks us
  | [], _, .nil => .nil
  | _ :: _, _, .cons r t => .cons r (vals_keys t)
theorem relK_inj {k k' : Key} {u : Value} (r : L2.RelV (kV k) u) (r' : L2.RelV (kV k') u) : k = k' := by
  have e := r.inj r'
  cases k <;> cases k' <;> simp [kV] at e <;> rw [e]
theorem relKs_inj : ∀ {ks ks' : List Key} {us : List Value}, Paired (fun k u => L2.RelV (kV k) u) ks us → Paired (fun k u => L2.RelV (kV k) u) ks' us → ks = ks'
  | _, _, _, .nil, .nil => rfl
  | _, _, _, .cons r t, .cons r' t' => by rw [relK_inj r r', relKs_inj t t']
theorem isRow_inj {h : Heap} {v : Value} {ks ks' : List Key} (r : IsRow h v ks) (r' : IsRow h v ks') : ks = ks' := by
  obtain ⟨a, o, us, n, e, ho, hc, hd, p⟩ := r
  obtain ⟨a', o', us', n', e', ho', hc', hd', p'⟩ := r'
  rw [e] at e'
  injection e' with e'
  subst e'
  rw [ho] at ho'
  injection ho' with ho'
  subst ho'
  rw [hd] at hd'
  injection hd' with hd' _
  subst hd'
  exact relKs_inj p p'
theorem paired_of {A1 B1 : Type} {R : A1 → B1 → Prop} (k : A1 → B1) : ∀ {ys : List A1}, (∀ y ∈ ys, R y (k y)) → Paired R ys (ys.map k)
  | [], _ => .nil
  | y :: ys, h => .cons (h y (by simp)) (paired_of k fun z hz => h z (by simp [hz]))
theorem paired_map {A1 B1 : Type} {R : A1 → B1 → Prop} {k : A1 → B1} : ∀ {xs : List A1} {rs : List B1}, Paired R xs rs → (∀ x r, R x r → k x = r) → xs.map k = rs
  | _, _, .nil, _ => rfl
  | _, _, .cons h t, e => by rw [List.map_cons, e _ _ h, paired_map t e]
theorem paired_in {A1 B1 : Type} {R : A1 → B1 → Prop} : ∀ {xs : List A1} {rs : List B1}, Paired R xs rs → ∀ x ∈ xs, ∃ r ∈ rs, R x r
  | _, _, .nil, x, h => by cases h
  | _, _, .cons h t, x, hx => by
    rcases List.mem_cons.mp hx with rfl | hx
    · exact ⟨_, by simp, h⟩
    · obtain ⟨r, h1, h2⟩ := paired_in t x hx
      exact ⟨r, by simp [h1], h2⟩
section
variable {X : Cx}
open Classical in
theorem cr_sortedR : CallR X (.builtin "sorted") (rSortedR X.K) := by
  intro pins s σ H vs us Q I r h
  obtain ⟨a, xs, rs, R, sg, rfl, hs, hx, q⟩ := h
  obtain ⟨its, rv, hl, hz⟩ := I.list hs
  obtain ⟨u, rfl, ru⟩ := vals1 r
  obtain rfl : u = Value.ref a := ru
  have hx0 := paired_in hx
  obtain ⟨e1, e2⟩ := refs_back rv fun x m => by
    obtain ⟨r, _, _, ⟨t, e, _⟩, _⟩ := hx0 x m
    exact ⟨t, e⟩
  let kv : Value → List Key := fun v => if h : ∃ ks, IsRow s.heap v ks then h.choose else []
  have row : ∀ {t : Addr} {ks : List Key}, SqT X.K H t (ks.map kV) → IsRow s.heap (.ref t) ks := fun {t ks} ht => by
    obtain ⟨us, r2, ⟨o, ho, hc, n, hd⟩, _⟩ := I.tuple ht
    exact ⟨t, o, us.toArray, n, rfl, ho, hc, hd, by simpa using vals_keys r2⟩
  have kve : ∀ {v : Value} {ks : List Key}, IsRow s.heap v ks → kv v = ks := fun {v ks} h => by
    have hex : ∃ ks, IsRow s.heap v ks := ⟨ks, h⟩
    show (if h : ∃ ks, IsRow s.heap v ks then h.choose else []) = ks
    rw [dif_pos hex]
    exact isRow_inj hex.choose_spec h
  let vv : V → Value := fun v => match v with | .ref t => .ref t | _ => .none
  let k : V → List Key := fun v => kv (vv v)
  have kR : ∀ x r, (R x r ∧ (∃ t, x = V.ref t ∧ SqT X.K H t (r.map kV)) ∧ RowSig sg r) → k x = r := fun x r h => by
    obtain ⟨_, ⟨t, rfl, ht⟩, _⟩ := h
    exact kve (row ht)
  have kb : ∀ t : Addr, k (backV (Value.ref t)) = kv (.ref t) := fun t => rfl
  refine sorted_rows (k := kv) (sg := sg) hl.isList (by rw [← rv.length]; exact hz) (fun v hv => ?_) fun h' d out h1 h2 kp hd hn => ?_
  · obtain ⟨t, rfl⟩ := e2 v hv
    have hm : V.ref t ∈ xs := by rw [e1]; exact List.mem_map.mpr ⟨_, hv, rfl⟩
    obtain ⟨r, _, _, ⟨t', e, ht⟩, hg⟩ := hx0 _ hm
    cases e
    have h3 := row ht
    rw [kve h3]
    exact ⟨h3, hg⟩
  · have h3 : ∀ u ∈ out, ∃ a, u = Value.ref a := fun u hu => e2 u (h2.perm.mem_iff.mp hu)
    obtain ⟨n, hn⟩ := hn
    have hp : (out.map backV).Perm xs := by rw [e1]; exact h2.perm.map _
    have hk : (out.map backV).map k = out.map kv := by
      rw [List.map_map]
      refine List.map_congr_left fun u hu => ?_
      obtain ⟨t, rfl⟩ := h3 u hu
      rfl
    have hr : xs.map k = rs := paired_map hx kR
    have hsr : (out.map backV).map k = srtL rs := by
      refine srtL_eq ?_ ?_
      · rw [← hr]; exact hp.map k
      · rw [hk, List.pairwise_map]
        exact h1.imp fun h => by unfold leL; simpa using h
    refine ⟨.ref d, upd H d (.lst (out.map backV)), I.laid (t' := s.toks) kp hd ⟨?_, out, n, vals_back h3, hn⟩, rfl, q _ d ?_ (I.hok.fresh hd)⟩
    · rw [hp.length_eq]; exact hz
    · rw [← hsr]
      refine paired_of k fun y hy => ?_
      obtain ⟨r, _, h4⟩ := hx0 y (hp.mem_iff.mp hy)
      rw [kR _ _ h4]
      exact h4.1
end
section
variable {io : Type} {Y : io → Cx} {P : Program} {w : World} {K : KW} {mg : Str → Option Value} {base : Heap} {N : List Str} {k : Nat} {pos p : Pos} {e : Expr} {es : List Expr} {ga : WA}
end
end VL
namespace VL
open PySem PySem.Spec PyProof.Rows L2 RZ
/-! ### dicts with tuples as keys -/
section
variable {K : KW} {F H : Hp}
end

section
variable {X : Cx} {pins : List (Addr × Obj)} {σ : L2.St} {H : Hp} {s : Shared} {a : Addr} {y v : V} {u r : Value} {o : Option V} {A : Around} {E : Value → Shared → Prop} {L : NL}
end
/-! ### the rules -/
section
variable {X : Cx} {o i e f value : Expr} {pos pos' tpos apos cpos : Pos} {td ty tv tx : TE}
end

/-! ### on values -/
section
variable {K : KW} {G B F H : Hp} {al : List Addr} {mu : Sto}
end
section
variable {io : Type} {Y : io → Cx} {P : Program} {K : KW} {mg : Str → Option Value} {base : Heap} {N : List Str} {k : Nat} {pos p apos cpos : Pos} {a i e o f : Expr} {wa wi we wo wf : WE}
end
section
variable {X : Cx} {P : Program} {K : KW} {mg : Str → Option Value} {base : Heap} {N : List Str} {k : Nat} {pos pos' : Pos} {o i e : Expr} {wo wi we : WE}
end

end VL
namespace VL
open PySem PySem.Spec PyProof.Rows L2 RZ
/-! ### walks over a dict with tuples as keys, under a lock -/
section
variable {X : Cx} {pins : List (Addr × Obj)} {σ : L2.St} {H : Hp} {s : Shared} {d : Addr} {o : Obj}
end
section
variable {P : Program} {w : World} {K : PySem.W.Frag} {tg : Expr} {d : Addr} {o : Obj} {es : Array DictEntry} {ep : Nat}
end
section
variable {X : Cx} {tg e : Expr} {td : TE} {apos cpos : Pos}
end
/-! on values -/
section
variable {io : Type} {Y : io → Cx} {P : Program} {K : KW} {mg : Str → Option Value} {base : Heap} {N : List Str} {k : Nat} {pos p apos cpos tpos : Pos} {a tg : Expr} {wa : WE} {elts : List Expr} {kk : Nat}
end
/-! ### locks -/
section
variable {K : KW} {G B F F' H H' : Hp} {al al' : List Addr} {mu mu' : Sto}
end
section
variable {X : Cx} {P : Program} {K : KW} {mg : Str → Option Value} {base : Heap} {N : List Str} {k : Nat} {st : Stmt} {f : WS}
end
section
variable {io : Type} {Y : io → Cx} {K : KW} {e : Expr} {f : WE}
end
end VL
namespace VL
open PySem PySem.Spec PyProof.Rows L2 RZ
/-- xs.index(y): flat data, there -/
@[simp] def fIndex : FM := fun mu x ws Q => match ws with
  | [.d y] => (match lsD mu x with
    | some ds => flatD y = true ∧ ds.all flatD = true ∧ ∃ (j : Nat) (z : D), ds[j]? = some z ∧ deqv z y = true ∧ (∀ (m : Nat) (z' : D), m < j → ds[m]? = some z' → deqv z' y = false) ∧ Q (.d (.int (j : Nat))) mu
    | none => False)
  | _ => False
/-- xs.insert(i, y) -/
@[simp] def fInsert : FM := fun mu x ws Q => match x, ws with
  | .loc k, [.d (.int i), .d y] => (match mu[k]? with
    | some (.lst xs) => xs.length < sizeLine ∧ 0 ≤ i ∧ i < 2 ^ 63 ∧ Q (.d .non) (mu.set k (.lst (xs.take i.toNat ++ [y] ++ xs.drop i.toNat)))
    | _ => False)
  | _, _ => False
section
variable {K : KW} {G B F F' H H' : Hp} {al al' : List Addr} {mu mu' : Sto} {rh : Ev} {si : L2.St}
theorem md_index : MtD K (L2.rIndex K) fIndex := fun G B F H al rh si mu x vx ws vs Qd Q s r rw_ h q => by
  unfold fIndex at h
  split at h
  · rename_i y
    obtain ⟨v, rfl, r'⟩ := pair1 rw_
    split at h
    · rename_i ds el
      obtain ⟨a, us, rfl, rd, z, pr⟩ := lsD_rep s.s r el
      obtain ⟨fy, fd, j, zd, e1, e2, e3, h⟩ := h
      cases r' with
      | d r' =>
      obtain ⟨vz, ev, rz⟩ := pGetL pr e1
      have all := List.all_eq_true.mp fd
      have fl : ∀ {m : Nat} {zz : D}, ds[m]? = some zz → flatD zz = true := fun e => all _ (List.mem_of_getElem? e)
      refine ⟨a, us, v, j, vz, rfl, rfl, .inl rd, flD_rep r' fy, flD_all pr fd, ev, ?_, fun m z' hm ez => ?_, q F H al mu _ _ (Ext.refl _ _) s (.d (.int _)) h⟩
      · rw [flat_eqV rz r' (fl e1) fy]; exact e2
      · obtain ⟨z0, e0, r0⟩ := pGetR pr ez
        rw [flat_eqV r0 r' (fl e0) fy]; exact e3 m z0 hm e0
    · exact h.elim
  · exact h.elim
theorem md_insert : MtD K (fun x vs H Q => ∃ (l : Addr) (xs : List V) (i : Int) (y : V), x = .ref l ∧ vs = [.int i, y] ∧ H l = some (.lst xs) ∧ xs.length < sizeLine ∧ 0 ≤ i ∧ i < 2 ^ 63 ∧
    Q .non (upd H l (.lst (xs.take i.toNat ++ [y] ++ xs.drop i.toNat)))) fInsert := fun G B F H al rh si mu x vx ws vs Qd Q s r rw_ h q => by
  unfold fInsert at h
  split at h
  · rename_i k i y
    obtain ⟨v1, v2, rfl, r1, r2⟩ := pair2 rw_
    cases repInt r1
    cases r with
    | loc ea =>
      rename_i a
      split at h
      · rename_i xs e
        obtain ⟨vs, hH, z, p⟩ := s.s.lstAt e ea
        have l := Paired.length p
        obtain ⟨h1, h2, h3, h⟩ := h
        cases r2 with
        | d r2 =>
        refine ⟨a, vs, i, v2, rfl, rfl, hH, by omega, h2, h3, q F _ al _ _ _ (Ext.refl _ _) (s.step (Ext.refl _ _) (s.s.put ea (.lst ?_ (pApp (pApp (pTake _ p) (pOne r2)) (pDrop _ p))))) (.d .non) h⟩
        simp only [List.length_append, List.length_take, List.length_drop, List.length_singleton]
        omega
      · exact h.elim
  · exact h.elim
end
section
variable {io : Type} {Y : io → Cx} {P : Program} {w : World} {K : KW} {mg : Str → Option Value} {base : Heap} {N : List Str} {k : Nat} {cpos apos : Pos} {o e e2 : Expr} {es : List Expr} {wo : WE} {ga : WA}
theorem ve_index (y : YOk Y P w K mg base N k) (ho : VE Y K o wo) (ha : VA Y K [e] ga)
    (hbase : ∀ i, attributeBase o "index" (Y i).env (eval o (Y i).env) = eval o (Y i).env := by exact fun _ => rfl)
    (hfew : ∀ i, ((backTo cpos (starEach [e] (Y i).env)).all (fun x => !x.1) && (backToKw cpos (keywordEach [] (Y i).env)).all (fun x => x.1.isSome)
      && decide ([e].length + ([] : List Keyword).length + (if ([] : List Keyword).isEmpty then 0 else 1) < 30)) = true := by exact fun _ => rfl)
    (hline : (apos.endLine == cpos.line) = true := by rfl) (hs : ∀ i, starEach [e] (Y i).env = (false, eval e (Y i).env) :: starEach [] (Y i).env := by exact fun _ => rfl) :
    VE Y K (.Call (.Attribute o "index" apos) [e] [] cpos) (wBM fIndex wo ga) := ve_bm y PySem.F.plainAttrs_list PySem.F.slot_list_index PySem.F.type_list_index (fun i => by rw [← y.hK i]; exact L2.mt_index) md_index ho ha hbase hfew hline hs
theorem ve_insert (y : YOk Y P w K mg base N k) (ho : VE Y K o wo) (ha : VA Y K [e, e2] ga)
    (hbase : ∀ i, attributeBase o "insert" (Y i).env (eval o (Y i).env) = eval o (Y i).env := by exact fun _ => rfl)
    (hfew : ∀ i, ((backTo cpos (starEach [e, e2] (Y i).env)).all (fun x => !x.1) && (backToKw cpos (keywordEach [] (Y i).env)).all (fun x => x.1.isSome)
      && decide ([e, e2].length + ([] : List Keyword).length + (if ([] : List Keyword).isEmpty then 0 else 1) < 30)) = true := by exact fun _ => rfl)
    (hline : (apos.endLine == cpos.line) = true := by rfl) (hs : ∀ i, starEach [e, e2] (Y i).env = (false, eval e (Y i).env) :: starEach [e2] (Y i).env := by exact fun _ => rfl) (hplain : ∀ i, (backTo cpos (starEach [e2] (Y i).env)).any (·.1) = false := by exact fun _ => rfl) :
    VE Y K (.Call (.Attribute o "insert" apos) [e, e2] [] cpos) (wBM fInsert wo ga) := ve_bm y PySem.F.plainAttrs_list PySem.F.slot_list_insert PySem.F.type_list_insert (fun _ => L2.mt_insert) md_insert ho ha hbase hfew hline hs hplain
end
end VL
namespace VL
open PySem PySem.Spec PyProof.Rows L2 RZ
/-! ### how a body is run -/
theorem seq_to {a b : WS} {V : EV} {rh : Ev} {mu : Sto} (rh' : Ev) (mu' : Sto) (h1 : ∀ K : Ev → Sto → Prop, K rh' mu' → a { V with nx := K } rh mu) (h2 : b V rh' mu') : wSeq a b V rh mu := h1 _ h2
theorem seq_R {a b : WS} {V : EV} {rh : Ev} {mu : Sto} (R : Ev → Sto → Prop) (h1 : ∀ K : Ev → Sto → Prop, (∀ rh' mu', R rh' mu' → K rh' mu') → a { V with nx := K } rh mu) (h2 : ∀ rh' mu', R rh' mu' → b V rh' mu') : wSeq a b V rh mu := h1 _ h2
theorem seq_do {a b : WS} {V : EV} {rh : Ev} {mu : Sto} (h : ∀ N, a { V with nx := N } rh mu) : wSeq a b V rh mu := h _
theorem tup2_to {i j : Nat} {x y : D} {rh : Ev} {mu : Sto} {K : Ev → Sto → Prop} (h : K ((rh.set i (some (.d x))).set j (some (.d y))) mu) : wgTup 2 (wgCons (wgName i) (wgCons (wgName j) wgNil)) (W.d (.tup [x, y])) rh mu K := by simpa using h
/-- a loop: what is left, and the state -/
theorem forL_S {A1 : Type} {chk : Sto → Prop} {g : WG} {b : WS} {V : EV} (f : A1 → W) (I : List A1 → Ev → Sto → Prop) (hc : ∀ xs rh mu, I xs rh mu → chk mu) (hend : ∀ rh mu, I [] rh mu → V.nx rh mu)
    (hs : ∀ x xs rh mu, I (x :: xs) rh mu → ∀ N : Ev → Sto → Prop, (∀ rh' mu', I xs rh' mu' → N rh' mu') → g (f x) rh mu fun rh' mu' => b { V with nx := N, ct := N, bk := V.nx } rh' mu') :
    ∀ {xs : List A1} {rh : Ev} {mu : Sto}, I xs rh mu → forL chk g b V (xs.map f) rh mu
  | [], _, _, h => ⟨hc _ _ _ h, hend _ _ h⟩
  | x :: xs, rh, mu, h => ⟨hc _ _ _ h, hs x xs _ _ h _ fun rh mu h1 => forL_S f I hc hend hs h1⟩
/-! ### expressions that change nothing: their value -/
abbrev Is (e : WE) (rh : Ev) (mu : Sto) (w : W) : Prop := ∀ K : W → Sto → Prop, K w mu → e rh mu K
abbrev IsB (t : WT) (rh : Ev) (mu : Sto) (b : Bool) : Prop := ∀ K : Bool → Sto → Prop, K b mu → t rh mu K
theorem ifS_T {c : WT} {f g : WS} {V : EV} {rh : Ev} {mu : Sto} (h1 : IsB c rh mu true) (h2 : f V rh mu) : wIfS c f g V rh mu := h1 _ (by simpa using h2)
theorem ifS_F {c : WT} {f g : WS} {V : EV} {rh : Ev} {mu : Sto} (h1 : IsB c rh mu false) (h2 : g V rh mu) : wIfS c f g V rh mu := h1 _ (by simpa using h2)
theorem asg_to {e : WE} {i : Nat} {V : EV} {rh : Ev} {mu : Sto} (w : W) (h1 : Is e rh mu w) (h2 : V.nx (rh.set i (some w)) mu) : wAsg e (wgName i) V rh mu := h1 _ h2
theorem op_to {f : F2} {a b : WE} {rh : Ev} {mu : Sto} (x y z : W) (ha : Is a rh mu x) (hb : Is b rh mu y) (h : ∀ K : W → Sto → Prop, K z mu → f mu x y K) : Is (wOp f a b) rh mu z := fun K hK => ha _ (hb _ (h K hK))
theorem ix_lst {a b : WE} {rh : Ev} {mu : Sto} {ds : List D} {i : Int} {d : D} (ha : Is a rh mu (.d (.lst ds))) (hb : Is b rh mu (.d (.int i))) (h : atI ds i = some d) : Is (wOp fIx a b) rh mu (.d d) := op_to _ _ _ ha hb fun K hK => ⟨d, h, hK⟩
/-! ### locks -/
end VL
namespace VL
open PySem PySem.Spec PyProof.Rows L2 RZ
/-! ### o.f as a target, within a tuple too -/
end VL
namespace VL
open PySem PySem.Spec PyProof.Rows L2 RZ
/-! ### defs with defaults -/
section
variable {P : Program} {w : World} {K : KW} {mg : Str → Option Value} {base : Heap}
end
end VL
namespace VL
open PySem PySem.Spec PyProof.Rows L2
/-! ### t < u of two rows (ints and texts of one signature) -/
section
variable {io : Type} {Y : io → Cx} {P : Program} {w : World} {K : KW} {mg : Str → Option Value} {base : Heap} {N : List Str} {k : Nat}
end
end VL
namespace VL
open PySem PySem.Spec PyProof.Rows L2 RZ
/-! ### walks over the keys of dicts of ints and texts, under a lock -/
section
variable {io : Type} {Y : io → Cx} {P : Program} {K : KW} {mg : Str → Option Value} {base : Heap} {N : List Str} {k : Nat} {pos p apos cpos tpos : Pos} {a tg : Expr} {wa : WE} {elts : List Expr} {kk : Nat}
end
/-! ### locks -/
section
variable {K : KW} {G B F F' H H' : Hp} {al al' : List Addr} {mu mu' : Sto}
end
section
variable {X : Cx} {P : Program} {K : KW} {mg : Str → Option Value} {base : Heap} {N : List Str} {k : Nat} {st : Stmt} {f : WS}
end
section
variable {io : Type} {Y : io → Cx} {K : KW} {e : Expr} {f : WE}
end
/-! dicts of texts to sets -/
end VL
namespace VL
open PySem PySem.Spec PyProof.Rows L2 RZ
/-! ### sorted(..) of a dict with tuples as keys -/
def RawD (d : Addr) (es : Array DictEntry) (ep : Nat) (h : Heap) : Prop := ∃ o, h.get? d = some o ∧ o.ExactDict ∧ o.data = .dict es ep
theorem RawD.push {d : Addr} {es : Array DictEntry} {ep : Nat} {h : Heap} (r : RawD d es ep h) (o : Obj) : RawD d es ep (h.push o) := let ⟨u, e, q⟩ := r; ⟨u, Heap.get?_push_of_some _ e, q⟩
section
variable {prog : Program} {w : World}
theorem walks_raw {A : Around} (hh : A.handled = none) (I d : Addr) (hne : d ≠ I) (es : Array DictEntry) (ep : Nat) :
    PySem.Walks prog w A I [I, d] [I] es.size (fun i v => ∃ en, es[i]? = some en ∧ v = en.key) (fun i h => h.IsKeyIter I d i es.size ep ∧ RawD d es ep h) where
  sub := fun b hb => by simp at hb; simp [hb]
  frame := fun _ _ _ st hk => ⟨st.1.at fun o e => hk I (by simp) o e, let ⟨o, e, r⟩ := st.2; ⟨o, hk d (by simp) o e, r⟩⟩
  item := fun i s Q E hi st hQ => by
    obtain ⟨o, ho, hc, hd⟩ := st.2
    refine L2.next_key_item st.1 ho hd rfl (Array.getElem?_eq_getElem hi) fun h' hit' hs' => ?_
    exact hQ _ h' s.toks ⟨_, Array.getElem?_eq_getElem hi, rfl⟩ ⟨hit', o, hs'.extBut _ _ hne ho, hc, hd⟩ fun b o hb e => hs'.extBut b o (fun h => hb (by simp [h])) e
  done := fun s Q E st hQ => by
    obtain ⟨o, ho, hc, hd⟩ := st.2
    exact L2.next_key_end hh st.1 ho hd rfl (Nat.le_refl _) fun h' he' => hQ h' s.toks fun b o hb e => he' b o (fun h => hb (by simp [h])) e
  self := fun _ _ _ _ st hQ => PySem.wpAny_pyIter_keyiter st.1 hQ
theorem src_raw {d : Addr} {es : Array DictEntry} {ep : Nat} (lo : (d == sysModules) = false) : PySem.W.KdlSrc prog w "dict" d d es.size (fun i v => ∃ en, es[i]? = some en ∧ v = en.key) (RawD d es ep) where
  type := fun _ ⟨o, ho, hc, _⟩ => ⟨o, ho, hc.1⟩
  there := fun _ ⟨o, ho, _⟩ => ⟨Heap.lt_size ho, Heap.lt_size ho⟩
  keep := fun _ _ ⟨o, ho, r⟩ hk => ⟨o, hk d (.inl rfl) o ho, r⟩
  notList := by decide
  notTuple := by decide
  hint := fun _ _ _ _ ⟨o, ho, hc, _⟩ hq => PySem.W.kdl_hint_dict ⟨o, ho, hc.1⟩ hq
  iter := fun _ _ hh ⟨o, ho, hc, hd⟩ => ⟨_, _, (fun _ _ hq => L2.iter_keys lo ho hc hd hq), walks_raw hh _ d (Nat.ne_of_lt (Heap.lt_size ho)) es ep, ⟨⟨_, Heap.get?_push_size _ rfl, rfl, rfl⟩, RawD.push ⟨o, ho, hc, hd⟩ _⟩⟩
end
def rSortedN (K : PySem.W.Frag) (w : World) : List V → Hp → L2.VK → Prop := fun vs H Q => ∃ (a : Addr) (L : NL) (rs : List (List Key)) (R : V → List Key → Prop) (sg : List Bool), vs = [V.ref a] ∧ Rd H a (NdO w a L) ∧
  Paired (fun q r => R (.ref q.2.1) r ∧ SqT K H q.2.1 (r.map kV) ∧ RowSig sg r) L rs ∧ ∀ ys p, Paired R ys (srtL rs) → H p = none → Q (.ref p) (upd H p (.lst ys))
section
variable {X : Cx}
theorem paired_L {A1 B1 C1 : Type} {R : A1 → B1 → Prop} (f : A1 → C1) : ∀ {xs : List A1} {rs : List B1} {S : C1 → B1 → Prop}, Paired R xs rs → (∀ x r, R x r → S (f x) r) → Paired S (xs.map f) rs
  | _, _, _, .nil, _ => .nil
  | _, _, _, .cons h t, e => .cons (e _ _ h) (paired_L f t e)
open Classical in
theorem cr_sortedN (hcalm : X.calm = true) : CallR X (.builtin "sorted") (rSortedN X.K X.w) := by
  intro pins s σ H vs us Q I r h
  obtain ⟨a, L, rs, R, sg, rfl, hs, hx, q⟩ := h
  obtain ⟨u, rfl, ru⟩ := vals1 r
  obtain rfl : u = Value.ref a := ru
  obtain ⟨⟨⟨lo, z, nd⟩, ents, pe, o, es, ep, ho, hc, hdat, he⟩, _, _⟩ := hs.ok I.hok
  have l1 : es.size = ents.length := by rw [← Array.length_toList, he, List.length_map]
  have l2 : L.length = ents.length := Paired.length pe
  obtain ⟨xs, exs⟩ : ∃ xs : List V, xs = L.map fun q => V.ref q.2.1 := ⟨_, rfl⟩
  have hx1 : Paired (fun x r => R x r ∧ (∃ t, x = V.ref t ∧ SqT X.K H t (r.map kV)) ∧ RowSig sg r) xs rs := by
    rw [exs]
    exact paired_L _ hx fun q r h => ⟨h.1, ⟨_, rfl, h.2.1⟩, h.2.2⟩
  have hx0 := paired_in hx1
  let kv : Value → List Key := fun v => if h : ∃ ks, IsRow s.heap v ks then h.choose else []
  have row : ∀ {t : Addr} {ks : List Key}, SqT X.K H t (ks.map kV) → IsRow s.heap (.ref t) ks := fun {t ks} ht => by
    obtain ⟨us, r2, ⟨o, ho, hc, n, hd⟩, _⟩ := I.tuple ht
    exact ⟨t, o, us.toArray, n, rfl, ho, hc, hd, by simpa using vals_keys r2⟩
  have kve : ∀ {v : Value} {ks : List Key}, IsRow s.heap v ks → kv v = ks := fun {v ks} h => by
    have hex : ∃ ks, IsRow s.heap v ks := ⟨ks, h⟩
    show (if h : ∃ ks, IsRow s.heap v ks then h.choose else []) = ks
    rw [dif_pos hex]
    exact isRow_inj hex.choose_spec h
  let vv : V → Value := fun v => match v with | .ref t => .ref t | _ => .none
  let k : V → List Key := fun v => kv (vv v)
  have kR : ∀ x r, (R x r ∧ (∃ t, x = V.ref t ∧ SqT X.K H t (r.map kV)) ∧ RowSig sg r) → k x = r := fun x r h => by
    obtain ⟨_, ⟨t, rfl, ht⟩, _⟩ := h
    exact kve (row ht)
  refine Calls.call_function_entry PyProof.Rows.kind_sorted PyProof.Rows.plain_sorted PyProof.Rows.entry_sorted (PyProof.Rows.args_sorted1 _) ?_
  unfold Builtin.«sorted»
  refine wpAny_bind (m := checkCount "sorted" 1 1 _) (wpAny_pure ?_)
  refine wpAny_bind (PySem.W.kdu_collect (A := X.A.in1) (src_raw (es := es) (ep := ep) lo) (I.ok.hd hcalm) ⟨o, ho, hc, hdat⟩ (by omega) fun h' tk acc hk hacc => ?_)
  have eacc : acc.toList = L.map fun q => Value.ref q.2.1 := by
    refine List.ext_getElem? fun i => ?_
    rw [Array.getElem?_toList, List.getElem?_map]
    by_cases c : i < es.size
    · obtain ⟨v, hv⟩ : ∃ v, acc[i]? = some v := ⟨acc[i]'(by rw [hacc.1]; exact c), Array.getElem?_eq_getElem _⟩
      obtain ⟨en, hen, rfl⟩ := hacc.2 i v hv
      obtain ⟨q', hq'⟩ : ∃ q', L[i]? = some q' := ⟨L[i]'(by omega), List.getElem?_eq_getElem _⟩
      obtain ⟨b, hb, e1, e2, e3⟩ := L2.paired_get pe hq'
      have e4 : es[i]? = some (entN X.w b) := by rw [← Array.getElem?_toList, he, List.getElem?_map, hb]; rfl
      rw [hen] at e4
      cases e4
      rw [hv, hq']
      show some (Value.ref b.2.1) = some (Value.ref q'.2.1)
      rw [e2]
    · rw [Array.getElem?_eq_none (by rw [hacc.1]; omega), List.getElem?_eq_none (by omega)]; rfl
  have hal : acc.toList.length ≤ sizeLine := by rw [eacc, List.length_map]; exact z
  have I1 : Inv X pins σ H { s with heap := h', toks := tk } := I.kept hk
  refine wpAny_bind (wpAny_newList ?_ hal)
  have hoL : (h'.push (seqObj "list" acc.toList.toArray 0)).get? h'.objs.size = some (seqObj "list" acc.toList.toArray 0) := Heap.get?_push_size _ rfl
  show wpAny _ _ _ _ _ { s with heap := h'.push (seqObj "list" acc.toList.toArray 0), toks := tk }
  have e1 : ∀ v ∈ acc.toList, ∃ t, v = Value.ref t ∧ V.ref t ∈ xs := fun v hv => by
    rw [eacc] at hv
    obtain ⟨q', hq', rfl⟩ := List.mem_map.mp hv
    exact ⟨_, rfl, by rw [exs]; exact List.mem_map.mpr ⟨q', hq', rfl⟩⟩
  have hrow : ∀ v ∈ acc.toList, IsRow (h'.push (seqObj "list" acc.toList.toArray 0)) v (kv v) ∧ RowSig sg (kv v) := fun v hv => by
    obtain ⟨t, rfl, hm⟩ := e1 v hv
    obtain ⟨r, _, _, ⟨t', e, ht⟩, hg⟩ := hx0 _ hm
    cases e
    have h3 := row ht
    rw [kve h3]
    exact ⟨h3.keeps fun b o e _ => Heap.get?_push_of_some _ (hk b o e), hg⟩
  refine wpAny_bind (wpAny_holding (wpAny_call_entry PyProof.Rows.slot_list_sort ⟨_, hoL, rfl⟩ PyProof.Rows.entry_list_sort
    (SrtO.list_sort_ord (s := { s with heap := h'.push (seqObj "list" acc.toList.toArray 0), toks := tk }) (swo_row kv) hoL hal (fun h2 => rows_sortable (by omega) hrow fun o e => ?_) fun out h1 h2 => ⟨_, rfl, ?_⟩)
    (PyProof.Rows.args_list_sort _)))
  · rw [hoL] at e
    cases e
    intro c
    exact absurd (Value.type.inj c) (by decide)
  have h3 : ∀ u ∈ out, ∃ a, u = Value.ref a := fun u hu => by
    obtain ⟨t, e, _⟩ := e1 u (h2.perm.mem_iff.mp hu)
    exact ⟨t, e⟩
  have hp : (out.map backV).Perm xs := by
    have h4 := h2.perm.map backV
    rw [eacc, List.map_map] at h4
    rw [exs]
    exact h4
  have hkk : (out.map backV).map k = out.map kv := by
    rw [List.map_map]
    refine List.map_congr_left fun u hu => ?_
    obtain ⟨t, rfl⟩ := h3 u hu
    rfl
  have hr : xs.map k = rs := paired_map hx1 kR
  have hsr : (out.map backV).map k = srtL rs := by
    refine srtL_eq ?_ ?_
    · rw [← hr]; exact hp.map k
    · rw [hkk, List.pairwise_map]
      exact h1.imp fun h => by unfold leL; simpa using h
  obtain ⟨e', he'⟩ := PyProof.Rows.sortedHeap_at (vs := acc.toList) (out := out.toArray) hoL
  have hlen : (out.map backV).length ≤ sizeLine := by
    rw [hp.length_eq, exs, List.length_map]; exact z
  refine wpAny_pure ⟨_, rfl, .ref h'.objs.size, upd H h'.objs.size (.lst (out.map backV)), I1.laid (t' := tk) (fun b u e => ?_) (Nat.le_refl _) ⟨hlen, out, e', vals_back h3, he'⟩, rfl, q _ h'.objs.size ?_ (I1.hok.fresh (Nat.le_refl _))⟩
  · have hb : b < h'.objs.size := Heap.lt_size e
    rw [PyProof.Rows.sortedHeap_old (Nat.ne_of_lt hb) (by rw [size_push']; exact Nat.lt_succ_of_lt hb)]
    exact Heap.get?_push_of_some _ e
  · rw [← hsr]
    refine paired_of k fun y hy => ?_
    obtain ⟨r, _, h4⟩ := hx0 y (hp.mem_iff.mp hy)
    rw [kR _ _ h4]
    exact h4.1
end
section
variable {io : Type} {Y : io → Cx} {P : Program} {K : KW} {mg : Str → Option Value} {base : Heap} {N : List Str} {k : Nat} {pos p : Pos} {e : Expr} {es : List Expr} {ga : WA}
end
/-! ### is True, is not True -/
section
variable {K : KW}
end
section
variable {io : Type} {Y : io → Cx} {P : Program} {w : World} {K : KW} {mg : Str → Option Value} {base : Heap} {N : List Str} {k : Nat}
end
/-! ### store promises with six arguments -/
/-! ### comprehensions whose test makes containers -/
end VL
namespace VL
open PySem PySem.Spec PyProof.Rows L2 RZ
/-! ### min(d.values()) -/
section
variable {io : Type} {Y : io → Cx} {P : Program} {w : World} {K : KW} {mg : Str → Option Value} {base : Heap} {N : List Str} {k : Nat} {pos p apos mpos : Pos} {o : Expr} {wo : WE}
end
/-! ### o == [], o == {}: whatever the list or dict holds -/
section
variable {io : Type} {Y : io → Cx} {P : Program} {w : World} {K : KW} {mg : Str → Option Value} {base : Heap} {N : List Str} {k : Nat}
end
end VL
namespace VL
open PySem PySem.Spec PyProof.Rows L2 RZ
/-! ### xs[::-1] -/
section
variable {io : Type} {Y : io → Cx} {P : Program} {w : World} {K : KW} {mg : Str → Option Value} {base : Heap} {N : List Str} {k : Nat} {pos p p1 p2 p3 : Pos} {a i e : Expr} {wa wi we : WE}
end
/-! ### sorted(d), ints as keys -/
section
variable {io : Type} {Y : io → Cx} {P : Program} {w : World} {K : KW} {mg : Str → Option Value} {base : Heap} {N : List Str} {k : Nat} {pos p : Pos} {e : Expr} {es : List Expr} {ga : WA}
end
end VL
namespace VL
open PySem PySem.Spec PyProof.Rows L2 RZ
/-! ### zip of a list and a tuple, in any mix -/
def IterA (t : Bool) (h : Heap) (i a : Addr) (k : Nat) : Prop := match t with
  | true => h.IsTupleIter i a k
  | false => h.IsListIter i a k
theorem IterA.obj {t : Bool} {h : Heap} {i a : Addr} {k : Nat} (q : IterA t h i a k) : ∃ o, h.get? i = some o ∧ ∀ v, o.data ≠ .cell v := by
  cases t with
  | true => obtain ⟨o, e, _, d⟩ := q; exact ⟨o, e, fun v z => by rw [d] at z; cases z⟩
  | false => obtain ⟨o, e, _, d⟩ := q; exact ⟨o, e, fun v z => by rw [d] at z; cases z⟩
theorem IterA.at {t : Bool} {h h' : Heap} {i a : Addr} {k : Nat} (q : IterA t h i a k) (e : ∀ o, h.get? i = some o → h'.get? i = some o) : IterA t h' i a k := by
  cases t with
  | true => exact Heap.IsTupleIter.at q e
  | false => exact Heap.IsListIter.at q e
section
variable {io : Type} {Y : io → Cx} {P : Program} {w : World} {K : KW} {mg : Str → Option Value} {base : Heap} {N : List Str} {k : Nat} {pos p tpos : Pos} {e e2 : Expr} {elts : List Expr} {kk : Nat} {ga : WA}
end
end VL
namespace VL
open PySem PySem.Spec PyProof.Rows L2 RZ
/-! ### equality of lists that hold our own lists -/
section
variable {K : KW} {G B F H : Hp} {al : List Addr} {mu : Sto}
end
section
variable {K : KW}
end
section
variable {io : Type} {Y : io → Cx} {P : Program} {w : World} {K : KW} {mg : Str → Option Value} {base : Heap} {N : List Str} {k : Nat}
end
end VL
namespace VL
open PySem PySem.Spec PyProof.Rows L2 RZ
/-! ### {k: v, .., k: v}, the keys all apart -/
abbrev WPs := Ev → Sto → (List (Key × D) → Sto → Prop) → Prop
section
variable {io : Type} {Y : io → Cx} {P : Program} {w : World} {K : KW} {mg : Str → Option Value} {base : Heap} {N : List Str} {k : Nat} {pos : Pos} {i e : Expr} {wi we : WE} {ks : List (Option Expr)} {vs : List Expr} {g : WPs}
end
end VL
namespace VL
open PySem PySem.Spec PyProof.Rows L2 RZ
/-! ### xs.index(y) where items are data of any depth -/
section
variable {K : KW} {G B F F' H H' : Hp} {al al' : List Addr} {mu mu' : Sto} {rh : Ev} {si : L2.St}
end
section
variable {io : Type} {Y : io → Cx} {P : Program} {w : World} {K : KW} {mg : Str → Option Value} {base : Heap} {N : List Str} {k : Nat} {cpos apos : Pos} {o e e2 : Expr} {es : List Expr} {wo : WE} {ga : WA}
end
section
variable {io : Type} {Y : io → Cx} {P : Program} {w : World} {K : KW} {mg : Str → Option Value} {base : Heap} {N : List Str} {k : Nat} {a : Expr} {pos : Pos} {wa : WE}
end
end VL
namespace VL
open PySem PySem.Spec PyProof.Rows L2 RZ
/-! ### o != []: whatever the list holds -/
section
variable {io : Type} {Y : io → Cx} {P : Program} {w : World} {K : KW} {mg : Str → Option Value} {base : Heap} {N : List Str} {k : Nat}
end
end VL
namespace VL
open PySem PySem.Spec PyProof.Rows L2 RZ
/-! ### for x in reversed(xs) -/
section
variable {io : Type} {Y : io → Cx} {P : Program} {w : World} {K : KW} {mg : Str → Option Value} {base : Heap} {N : List Str} {k : Nat} {pos p tpos : Pos} {a tg : Expr} {wa : WE}
end
end VL
namespace VL
open PySem PySem.Spec PyProof.Rows L2 RZ
/-! ### sorted(d), ints as keys, any number of them -/
section
variable {X : Cx}
end
section
variable {io : Type} {Y : io → Cx} {P : Program} {w : World} {K : KW} {mg : Str → Option Value} {base : Heap} {N : List Str} {k : Nat} {pos p : Pos} {e : Expr} {es : List Expr} {ga : WA}
end
end VL
namespace VL
open PySem PySem.Spec PyProof.Rows L2 RZ
/-! ### len(d) -/
section
variable {X : Cx}
end
section
variable {io : Type} {Y : io → Cx} {P : Program} {w : World} {K : KW} {mg : Str → Option Value} {base : Heap} {N : List Str} {k : Nat} {pos p : Pos} {e : Expr} {es : List Expr} {ga : WA}
end
end VL
namespace VL
open PySem PySem.Spec PyProof.Rows L2 RZ
/-! ### texts: str(x), int(text), s.split(sep) -/
section
variable {K : KW} {G B F F' H H' : Hp} {al al' : List Addr} {mu mu' : Sto} {rh : Ev} {si : L2.St}
end
section
variable {io : Type} {Y : io → Cx} {P : Program} {w : World} {K : KW} {mg : Str → Option Value} {base : Heap} {N : List Str} {k : Nat} {p pos apos : Pos} {o e : Expr} {wo we : WE} {ga : WA}
end
end VL
namespace VL
open PySem PySem.Spec PyProof.Rows L2 RZ
/-! ### errors: raised, let through, caught and kept -/
/-- an error, by its class and its fields (numbers); its dict is none of B -/
def ExR (K : KW) (B F : Hp) (n : Str) (fs : List (Str × D)) (cls : Value) (d : Option Addr) : Prop := ∃ c, cls = .ref c ∧ clsAt K n c ∧ ((d = none ∧ fs = []) ∨ ∃ dx gs, d = some dx ∧ B dx = none ∧ F dx = some (.xd gs) ∧ Paired (fun (p : Str × D) (q : Str × V) => p.1 = q.1 ∧ ∃ i, p.2 = .int i ∧ q.2 = .int i) fs gs)
theorem ExR.mono {K : KW} {B B' F F' : Hp} {n : Str} {fs : List (Str × D)} {cls : Value} {d : Option Addr} (hb : ∀ a, B a = none → B' a = none) (h : Same F F') (r : ExR K B F n fs cls d) : ExR K B' F' n fs cls d := by
  obtain ⟨c, e1, e2, r⟩ := r
  refine ⟨c, e1, e2, ?_⟩
  rcases r with r | ⟨dx, gs, e3, e4, e5, r⟩
  · exact .inl r
  · exact .inr ⟨dx, gs, e3, hb _ e4, h _ _ e5, r⟩
/-- what stands behind a statement that may raise -/
structure BehX (K : KW) (W : WX) (G B F : Hp) (al : List Addr) (V1 : EV) (D1 : Ends) : Prop where
  b : Beh K G B F al V1 D1
  ex : ∀ F' H' al' rh si mu n fs cls d, Ext F al F' al' → SR K G B F' H' al' rh si mu → ExR K B F' n fs cls d → V1.ex rh n fs mu → W cls d si H'
theorem BehX.mono {K : KW} {W : WX} {G B F F' : Hp} {al al' : List Addr} {V1 : EV} {D1 : Ends} (b : BehX K W G B F al V1 D1) (x : Ext F al F' al') : BehX K W G B F' al' V1 D1 :=
  ⟨b.b.mono x, fun _ _ _ _ _ _ _ _ _ _ y => b.ex _ _ _ _ _ _ _ _ _ _ (x.trans y)⟩
def DenX (K : KW) (W : WX) (t : TS) (f : WS) : Prop := ∀ (G B F H : Hp) (al : List Addr) (rh : Ev) (si : L2.St) (mu : Sto) (V1 : EV) (D1 : Ends), SR K G B F H al rh si mu → f V1 rh mu → BehX K W G B F al V1 D1 → t D1 si H
def VSX (X : Cx) (K : KW) (W : WX) (st : Stmt) (f : WS) : Prop := ∃ t, PS X st t ∧ DenX K W t f
def VSXs (X : Cx) (K : KW) (W : WX) (sts : List Stmt) (f : WS) : Prop := ∃ t, PSs X sts t ∧ DenX K W t f
section
variable {X : Cx} {P : Program} {w : World} {K : KW} {mg : Str → Option Value} {base : Heap} {N : List Str} {k : Nat} {W : WX} {st : Stmt} {rest : List Stmt} {f g : WS} {e : Expr} {we : WE} {pos : Pos}
theorem ps_nox {t : TS} (h : PS X.nox st t) : PS X st t := ⟨fun pins s σ H D I hw =>
  wpAny_mono (h.run pins s σ H D (I.wish _) hw) (fun _ _ q => q.unwish) fun _ _ z => False.elim z⟩
/-- a statement that raises nothing -/
theorem vsx_of (h : VS X.nox K st f) : VSX X K W st f := by
  obtain ⟨t, p, d⟩ := h
  exact ⟨t, ps_nox p, fun G B F H al rh si mu V1 D1 s h b => d G B F H al rh si mu V1 D1 s h b.b⟩
theorem vsxs_of (h : VSs X.nox K rest f) : VSXs X K W rest f := by
  obtain ⟨t, p, d⟩ := h
  exact ⟨t, p.nox, fun G B F H al rh si mu V1 D1 s h b => d G B F H al rh si mu V1 D1 s h b.b⟩
theorem vsxs_nil : VSXs X K W [] wNext := vsxs_of vss_nil
theorem vsxs_one (h : VSX X K W st f) : VSXs X K W [st] f := by
  obtain ⟨t, p, d⟩ := h
  exact ⟨t, pss_one p, d⟩
theorem vsxs_cons (h : VSX X K W st f) (hr : VSXs X K W rest g) : VSXs X K W (st :: rest) (wSeq f g) := by
  obtain ⟨t, p, d⟩ := h
  obtain ⟨u, p', d'⟩ := hr
  refine ⟨_, pss_cons p p', fun G B F H al rh si mu V1 D1 s h b => ?_⟩
  refine d G B F H al rh si mu _ _ s h ⟨⟨fun F' H' al' rh' si' mu' x s' h' => ?_, b.b.rt, b.b.bk, b.b.ct⟩, b.ex⟩
  exact d' G B F' H' al' rh' si' mu' V1 D1 s' h' (b.mono x)
theorem vsx_if {c : Expr} {a b : List Stmt} {fc : WT} (hc : VT (un X.nox) K c fc) (ha : VSXs X K W a f) (hb : VSXs X K W b g) : VSX X K W (.If c a b pos) (wIfS fc f g) := by
  obtain ⟨t, p, d⟩ := hc
  obtain ⟨t1, p1, d1⟩ := ha
  obtain ⟨t2, p2, d2⟩ := hb
  refine ⟨_, ps_if (p ()).nox p1 p2, fun G B F H al rh si mu V1 D1 s h b => ?_⟩
  refine d G B F H al rh si mu _ _ s h fun F1 H1 al1 mu1 x e1 s1 h1 => ?_
  cases x with
  | true => exact iteT (d1 G B F1 H1 al1 rh si mu1 V1 D1 s1 (by simpa using h1) (b.mono e1))
  | false => exact iteF (d2 G B F1 H1 al1 rh si mu1 V1 D1 s1 (by simpa using h1) (b.mono e1))
theorem vsx_for {tg iter : Expr} {body : List Stmt} {fi : WI} {fg : WG} {vs : List Nat} (hp : PassesOwn (model X.prog X.w) X.A X.env X.xe) (hc : X.calm = true) (hi : VI (un X) K tg iter fi) (hg : VK (un X) K tg fg vs) (hb : VSXs X K W body f)
    (hs : ∀ x, foldedSetIterable iter X.env x = pure x := by intro _; rfl) : VSX X K W (.For tg iter body [] pos) (wFor fi fg f) := by
  obtain ⟨t, p, d⟩ := hi
  obtain ⟨t2, p2, d2, _⟩ := hg
  obtain ⟨u, p', d'⟩ := hb
  refine ⟨_, ps_for hp hc (p ()) (p2 ()) p' hs, fun G B F H al rh si mu V1 D1 s h b => ?_⟩
  refine d G B F H al rh si mu _ _ s h fun F0 H0 al0 mu0 J items chk e0 s0 it h0 => ?_
  refine ⟨fun i m σ H1 => m = items.length - i ∧ i ≤ items.length ∧ ∃ F1 al1 rh1 mu1, Ext F0 al0 F1 al1 ∧ SR K G B F1 H1 al1 rh1 σ mu1 ∧ forL chk fg f V1 (items.drop i) rh1 mu1, ⟨_, rfl, Nat.zero_le _, F0, al0, rh, mu0, Ext.refl _ _, s0, h0⟩, ?_⟩
  rintro i m σ H1 ⟨rfl, hi, F1, al1, rh1, mu1, e1, s1, h1⟩
  by_cases hlt : i < items.length
  · have ed : items.drop i = items[i] :: items.drop (i + 1) := List.drop_eq_getElem_cons hlt
    rw [ed] at h1
    have ei : items[i]? = some items[i] := by simp [hlt]
    obtain ⟨hchk, h1⟩ := h1
    refine .inr ⟨it.go i _ G B F1 H1 al1 mu1 e1 s1.s hchk ei, fun σ' H' => i + 1 ≤ items.length ∧ ∃ F1 al1 rh1 mu1, Ext F0 al0 F1 al1 ∧ SR K G B F1 H' al1 rh1 σ' mu1 ∧ forL chk fg f V1 (items.drop (i + 1)) rh1 mu1, fun σ' H' z => ⟨items.length - (i + 1), by omega, rfl, z.1, z.2⟩, fun x H' y => ?_⟩
    obtain ⟨F2, e2, s2, r2⟩ := it.yld i _ G B F1 H1 al1 mu1 x H' e1 s1.s hchk ei y
    refine d2 G B F2 H' al1 rh1 σ mu1 _ _ _ _ (s1.step e2 s2) r2 h1 fun F3 H3 al3 rh3 si3 mu3 e3 s3 h3 => ?_
    have ex := (e1.trans e2).trans e3
    have again : ∀ F' H' al' rh' si' mu', Ext F3 al3 F' al' → SR K G B F' H' al' rh' si' mu' → forL chk fg f V1 (items.drop (i + 1)) rh' mu' → i + 1 ≤ items.length ∧ ∃ F1 al1 rh1 mu1, Ext F0 al0 F1 al1 ∧ SR K G B F1 H' al1 rh1 si' mu1 ∧ forL chk fg f V1 (items.drop (i + 1)) rh1 mu1 :=
      fun F' H' al' rh' si' mu' x s' h' => ⟨hlt, F', al', rh', mu', ex.trans x, s', h'⟩
    exact d' G B F3 H3 al3 rh3 si3 mu3 _ _ s3 h3 ⟨⟨again, fun F' H' al' mu' w v x => b.b.rt F' H' al' mu' w v ((e0.trans ex).trans x), fun F' H' al' rh' si' mu' x => b.b.nx F' H' al' rh' si' mu' ((e0.trans ex).trans x), again⟩, fun F' H' al' rh' si' mu' n fs cls dd x => b.ex F' H' al' rh' si' mu' n fs cls dd ((e0.trans ex).trans x)⟩
  · have e : i = items.length := by omega
    subst e
    rw [List.drop_length] at h1
    exact .inl ⟨it.stop G B F1 H1 al1 mu1 e1 s1.s h1.1, b.b.nx F1 H1 al1 rh1 σ mu1 (e0.trans e1) s1 h1.2⟩
end
end VL
namespace VL
open PySem PySem.Spec PyProof.Rows L2 RZ
/-! ### defs that raise -/
abbrev WEX := Ev → Sto → (W → Sto → Prop) → (Str → List (Str × D) → Sto → Prop) → Prop
abbrev XSp := List D → (W → Sto → Prop) → (Str → List (Str × D) → Prop) → Prop
def toSpX (K : KW) (sp : XSp) : Sp := fun vs H Q E => ∃ (B F : Hp) (ds : List D) (Qd : W → Sto → Prop) (Qx : Str → List (Str × D) → Prop), SRS K F B F H [] [] ∧ RepDs K F ds vs ∧ sp ds Qd Qx ∧
  (∀ F' H' al' mu' u v, Ext F [] F' al' → SRS K F B F' H' al' mu' → RepW K F' al' u v → Qd u mu' → Q v H') ∧
  ∀ F' H' al' mu' n fs cls d, Ext F [] F' al' → SRS K F B F' H' al' mu' → ExR K B F' n fs cls d → Qx n fs → E cls d H'
/-- a def of the module that may raise -/
def DefX (P : Program) (w : World) (K : KW) (mg : Str → Option Value) (base : Heap) (x : Str) (k : Nat) (sp : XSp) : Prop :=
  ∃ (f : Addr) (fd : FuncData) (ps : List Str), mg x = some (.ref f) ∧ PySem.W.keepIn K (.ref f) = true ∧ Binds K fd ps [] ∧ FnOk P w K mg base (L2.CX P w) k f fd ps (toSpX K sp)
@[simp] def wCallX (o : Bool) (sp : XSp) (g : WA) : WEX := fun rh mu Q Qx => g rh mu fun ws mu1 => match snaps mu1 ws with
  | some ds => sp ds (fun w mu' => if o then backO (allD ws) w mu' mu1 Q else backF (allD ws) w mu' mu1 Q) fun n fs => Qx n fs mu1
  | none => False
section
variable {K : KW} {G B F F' F2 H H' Fc : Hp} {al al' : List Addr} {mu mu' : Sto}
theorem back_ok {o a : Bool} {rh : Ev} {si : L2.St} {u : W} {v : V} {Qd : W → Sto → Prop} {Q : L2.VK} (s : SR K G B F H al rh si mu) (hF : Fc = F ∧ a = true ∨ Fc = H ∧ a = false) (s' : SRS K Fc H F' H' al' mu') (ru : RepW K F' al' u v) (hb : if o then backO a u mu' mu Qd else backF a u mu' mu Qd)
    (q : ∀ F' H' al' mu' w v, Ext F al F' al' → SR K G B F' H' al' rh si mu' → RepW K F' al' w v → Qd w mu' → Q v H') : Q v H' := by
  have al'N : ∀ a ∈ al', F' a = Option.none := fun a ha => by
    obtain ⟨k, hk⟩ := List.mem_iff_getElem?.mp ha
    obtain ⟨c, hc⟩ := s'.has hk
    obtain ⟨_, z, _, _, _⟩ := s'.at hc hk
    exact z
  rcases hF with ⟨rfl, rfl⟩ | ⟨rfl, rfl⟩
  · obtain ⟨a1, a2, a3⟩ := same_ok s.s s'
    cases o with
    | false =>
      simp only [Bool.false_eq_true, if_false] at hb
      unfold backF at hb
      rw [if_pos rfl] at hb
      split at hb
      · rename_i x ex
        obtain ⟨b1, b2, b3, b4, b5⟩ := plusC_ok s.s s' a1 a2 a3
        obtain ⟨s2, x2⟩ := ret_frz s.s s' b1 b2 b3
        exact q _ _ _ _ _ _ x2 (s.step x2 s2) (.d (snap_in s' b4 b5 ru ex)) hb
      · exact hb.elim
    | true =>
      simp only [if_true] at hb
      obtain ⟨hf, hb⟩ := hb
      obtain ⟨s2, x2⟩ := ret_own s.s s' a1 a2 a3 al'N (.inl (Same.refl _)) (.inl (Same.refl _))
      have rr : RepW K F' (al ++ al') (shiftW al.length u) v := shift_rep (.inl (Same.refl _)) ru (.inl (Same.refl _))
      rw [s.s.len] at rr
      exact q _ _ _ _ _ _ x2 (s.step x2 s2) rr hb
  · obtain ⟨a1, a2, a3, a4⟩ := cutT_ok s.s s'
    cases o with
    | false =>
      simp only [Bool.false_eq_true, if_false] at hb
      unfold backF at hb
      rw [if_neg (by simp)] at hb
      split at hb
      · rename_i x ex
        obtain ⟨b1, b2, b3, b4, b5⟩ := plusC_ok s.s s' a1 a2 a3
        obtain ⟨s2, x2⟩ := ret_frz s.s s' b1 b2 b3
        exact q _ _ _ _ _ _ x2 (s.step x2 s2) (.d (snapF_in s' (fun a u e t => b4 _ _ (a4 a u e t)) b5 ru ex)) hb
      · exact hb.elim
    | true =>
      simp only [if_true] at hb
      obtain ⟨hf, hb⟩ := hb
      rw [Bool.false_or, Bool.and_eq_true] at hf
      have hn : ∀ a ∈ al', cutT F F' a = Option.none := fun a ha => by
        have z1 := sameNone s.s.fz (s'.fresh ha)
        have z2 := al'N a ha
        unfold cutT
        rw [z1, z2]
      obtain ⟨s2, x2⟩ := ret_own s.s s' a1 a2 a3 hn (.inr a4) (.inr hf.2)
      have rr : RepW K (cutT F F') (al ++ al') (shiftW al.length u) v := shift_rep (.inr a4) ru (.inr hf.1)
      rw [s.s.len] at rr
      exact q _ _ _ _ _ _ x2 (s.step x2 s2) rr hb
/-- an error comes out of a call -/
theorem out_ok {a : Bool} {rh : Ev} {si : L2.St} {n : Str} {fs : List (Str × D)} {cls : Value} {d : Option Addr} (s : SR K G B F H al rh si mu) (hF : Fc = F ∧ a = true ∨ Fc = H ∧ a = false) (s' : SRS K Fc H F' H' al' mu') (x : ExR K H F' n fs cls d) :
    ∃ F2, Ext F al F2 al ∧ SR K G B F2 H' al rh si mu ∧ ExR K B F2 n fs cls d := by
  have hB : ∀ a, H a = none → B a = none := fun a e => sameNone s.s.bs e
  rcases hF with ⟨rfl, rfl⟩ | ⟨rfl, rfl⟩
  · obtain ⟨a1, a2, a3⟩ := same_ok s.s s'
    obtain ⟨s2, x2⟩ := ret_frz s.s s' a1 a2 a3
    exact ⟨F', x2, s.step x2 s2, x.mono hB (Same.refl _)⟩
  · obtain ⟨c, e1, e2, x⟩ := x
    have hFH : Same F H' := fun a o e => s'.bs _ _ (s.s.fz _ _ e)
    rcases x with x | ⟨dx, gs, e3, e4, e5, r⟩
    · obtain ⟨s2, x2⟩ := ret_frz s.s s' (Same.refl F) hFH fun a o e => .inl e
      exact ⟨F, x2, s.step x2 s2, c, e1, e2, .inl x⟩
    · have hF : F dx = none := sameNone s.s.fz e4
      obtain ⟨s2, x2⟩ := ret_frz (F2 := upd F dx (.xd gs)) s.s s' (sameN hF) (fun a o e => by
        by_cases q : a = dx
        · subst q; rw [upd_same] at e; cases e; exact s'.fz _ _ e5
        · rw [upd_ne q] at e; exact hFH _ _ e) fun a o e => by
        by_cases q : a = dx
        · subst q; exact .inr (.inl e4)
        · rw [upd_ne q] at e; exact .inl e
      exact ⟨_, x2, s.step x2 s2, c, e1, e2, .inr ⟨dx, gs, e3, hB _ e4, upd_same, r⟩⟩
theorem callX_ok {o : Bool} {sp : XSp} {ws : List W} {vs : List V} {rh : Ev} {si : L2.St} {Qd : W → Sto → Prop} {Qx : Str → List (Str × D) → Sto → Prop} {Q : L2.VK} {E : XK} (s : SR K G B F H al rh si mu) (r : Paired (RepW K F al) ws vs)
    (h : match snaps mu ws with
      | some ds => sp ds (fun w mu' => if o then backO (allD ws) w mu' mu Qd else backF (allD ws) w mu' mu Qd) fun n fs => Qx n fs mu
      | Option.none => False)
    (q : ∀ F' H' al' mu' w v, Ext F al F' al' → SR K G B F' H' al' rh si mu' → RepW K F' al' w v → Qd w mu' → Q v H')
    (qx : ∀ F' H' n fs cls d, Ext F al F' al → SR K G B F' H' al rh si mu → ExR K B F' n fs cls d → Qx n fs mu → E cls d H') : toSpX K sp vs H Q E := by
  split at h
  · rename_i ds e
    cases ha : allD ws with
    | true =>
      rw [ha] at h
      have rd := allD_reps r ha e
      exact ⟨H, F, _, _, _, s.s.none, rd, h, fun F' H' al' mu' u v x s' ru hb => back_ok s (.inl ⟨rfl, rfl⟩) s' ru hb q, fun F' H' al' mu' n fs cls d x s' xr hq => by
        obtain ⟨F2, x2, s2, r2⟩ := out_ok (a := true) s (.inl ⟨rfl, rfl⟩) s' xr
        exact qx _ _ _ _ _ _ x2 s2 r2 hq⟩
    | false =>
      rw [ha] at h
      have rd := snaps_rep s.s (.of r) e
      exact ⟨H, H, _, _, _, s.s.none', rd, h, fun F' H' al' mu' u v x s' ru hb => back_ok s (.inr ⟨rfl, rfl⟩) s' ru hb q, fun F' H' al' mu' n fs cls d x s' xr hq => by
        obtain ⟨F2, x2, s2, r2⟩ := out_ok (a := false) s (.inr ⟨rfl, rfl⟩) s' xr
        exact qx _ _ _ _ _ _ x2 s2 r2 hq⟩
  · exact h.elim
end
/-! ### expressions that may raise -/
def DenEX (K : KW) (W1 : WX) (t : TE) (f : WEX) : Prop := ∀ (G B F H : Hp) (al : List Addr) (rh : Ev) (si : L2.St) (mu : Sto) (Qd : W → Sto → Prop) (Qx : Str → List (Str × D) → Sto → Prop) (Q : L2.VK), SR K G B F H al rh si mu → f rh mu Qd Qx →
  (∀ F' H' al' mu' w v, Ext F al F' al' → SR K G B F' H' al' rh si mu' → RepW K F' al' w v → Qd w mu' → Q v H') →
  (∀ F' H' al' mu' n fs cls d, Ext F al F' al' → SR K G B F' H' al' rh si mu' → ExR K B F' n fs cls d → Qx n fs mu' → W1 cls d si H') → t si H Q
def VEX {io : Type} (Y : io → Cx) (K : KW) (Wf : io → WX) (e : Expr) (f : WEX) : Prop := ∃ t : WX → TE, (∀ i, PE (Y i) e (t (Wf i))) ∧ ∀ W1, DenEX K W1 (t W1) f
def VSF {io : Type} (Y : io → Cx) (K : KW) (Wf : io → WX) (sts : List Stmt) (f : WS) : Prop := ∃ t : WX → TS, (∀ i, PSs (Y i) sts (t (Wf i))) ∧ ∀ W1, DenX K W1 (t W1) f
@[simp] def wAsgX (fe : WEX) (i : Nat) : WS := fun V rh mu => fe rh mu (fun x mu1 => V.nx (rh.set i (some x)) mu1) fun n fs mu1 => V.ex rh n fs mu1
@[simp] def wDropX (fe : WEX) : WS := fun V rh mu => fe rh mu (fun _ mu1 => V.nx rh mu1) fun n fs mu1 => V.ex rh n fs mu1
section
variable {io : Type} {Y : io → Cx} {Wf : io → WX} {P : Program} {w : World} {K : KW} {mg : Str → Option Value} {base : Heap} {N : List Str} {k j : Nat} {pos p : Pos} {e : Expr} {es : List Expr} {ga : WA} {x : Str} {fe : WEX}
theorem ve_callX (y : YOk Y P w K mg base N k) (o : Bool) {sp : XSp} (d : DefX P w K mg base x j sp) (hj : j ≤ k) (tk : ∀ i, Takes (Y i) (Wf i)) (ha : VA Y K (e :: es) ga) (hg : ∀ i, Gl (Y i) x := by exact fun _ => rfl) (hdb : (x == ("__debug__" : Str)) = false := by decide)
    (he : ∀ i, starEach (e :: es) (Y i).env = (false, eval e (Y i).env) :: starEach es (Y i).env := by exact fun _ => rfl) (hpl : ∀ i, (backTo pos (starEach es (Y i).env)).any (·.1) = false := by exact fun _ => rfl) : VEX Y K Wf (.Call (.Name x p) (e :: es) [] pos) (wCallX o sp ga) := by
  obtain ⟨f, fd, ps, hm, hk, hb, F⟩ := d
  obtain ⟨t, p1, d1⟩ := ha
  refine ⟨fun W1 => tCallS (toSpX K sp) (L2.WE W1) t, fun i => ?_, fun W1 G B F H al rh si mu Qd Qx Q s h q qx => ?_⟩
  · have F' : FnOk (Y i).prog (Y i).w (Y i).K (Y i).mg (Y i).base (L2.CX (Y i).prog (Y i).w) j f fd ps (toSpX K sp) := by
      rw [y.hP i, y.hw i, y.hK i, y.hmg i, y.hbase i]; exact F
    exact pe_callS F' ((y.room i).mono hj) (hg i) (by rw [y.hmg i]; exact hm) (by rw [y.hK i]; exact hk) (binds_at y hb i) (fun σ => passAt (tk i) σ) (p1 i) hdb (he i) (hpl i)
  · refine d1 G B F H al rh si mu _ _ s h fun F1 H1 al1 mu1 ws vs e1 s1 r1 h1 => ?_
    exact callX_ok s1 r1 h1 (fun F2 H2 al2 mu2 z vz e2 => q F2 H2 al2 mu2 z vz (e1.trans e2)) fun F2 H2 n fs cls d e2 s2 r2 h2 => qx F2 H2 al1 mu1 n fs cls d (e1.trans e2) s2 r2 h2
theorem vsf_asg (y : YOk Y P w K mg base N k) (i : Nat) {x : Str} {pos' : Pos} (he : VEX Y K Wf e fe) (hi : N[i]? = some x := by rfl) (hx : ∀ j, Loc (Y j).env.scope x := by first | exact fun _ => Or.inl rfl | exact fun _ => Or.inr rfl) (hs : ∀ j, swapsWith e (some (.Name x pos')) pos.line (Y j).env = pure false := by exact fun _ => rfl)
    (hf : ∀ j, (Y j).fn x = true ∨ (Y j).env.scope.names.lookup x = some .local := by first | exact fun _ => .inl rfl | exact fun _ => .inr rfl) : VSF Y K Wf [.Assign [.Name x pos'] e pos] (wAsgX fe i) := by
  obtain ⟨t, p, d⟩ := he
  refine ⟨fun W1 => tAsg (t W1) (gName i), fun j => pss_one (ps_set (by rw [y.hN j]; exact y.nd) (by rw [y.hN j]; exact hi) (hx j) (p j) (hs j) (hf j)), fun W1 G B F H al rh si mu V1 D1 s h b => ?_⟩
  exact d W1 G B F H al rh si mu _ _ _ s h (fun F1 H1 al1 mu1 z vz e1 s1 r1 h1 => b.b.nx F1 H1 al1 _ _ mu1 e1 (s1.set r1) h1) fun F1 H1 al1 mu1 n fs cls dd e1 s1 r1 h1 => b.ex F1 H1 al1 rh si mu1 n fs cls dd e1 s1 r1 h1
end
section
variable {X : Cx} {P : Program} {w : World} {K : KW} {mg : Str → Option Value} {base : Heap} {N : List Str} {k : Nat} {W1 : WX} {e a : Expr} {we : WE} {fe : WEX} {pos pos2 p p2 : Pos}
theorem vsx_exprX (he : VEX (un X) K (fun _ => W1) e fe) (hs : swapsWith e none pos.line X.env = pure false := by rfl) : VSX X K W1 (.Expr e pos) (wDropX fe) := by
  obtain ⟨t, p, d⟩ := he
  refine ⟨_, ps_expr (p ()) hs, fun G B F H al rh si mu V1 D1 s h b => ?_⟩
  exact d W1 G B F H al rh si mu _ _ _ s h (fun F1 H1 al1 mu1 z vz e1 s1 r1 h1 => b.b.nx F1 H1 al1 _ _ mu1 e1 s1 h1) fun F1 H1 al1 mu1 n fs cls dd e1 s1 r1 h1 => b.ex F1 H1 al1 rh si mu1 n fs cls dd e1 s1 r1 h1
/-! ### raise -/
/-- a class of errors without an __init__ of its own -/
structure Err0 (K : KW) (mg : Str → Option Value) (n : Str) (C : Addr) : Prop where
  gC : mg n = some (.ref C)
  at' : clsAt K n C
  kC : PySem.W.keepIn K (.ref C) = true
  ex : PySem.W.excIn K C [.type "ValueError", .type "Exception", .type "BaseException", .type "object"] "ValueError.__new__" = true
  sub : PySem.W.subIn K (.ref C) (.type "BaseException") = some true
  ty : PySem.W.typeIn K (.ref C) = some (.type "type")
@[simp] def wRaise0 (n : Str) : WS := fun V rh mu => V.ex rh n [] mu
theorem vsx_raise0 (y : YOk (un X) P w K mg base N k) (tk : Takes X W1) {n m : Str} {jj : Nat} (T : ∃ C, Err0 K mg n C) (hg : Gl X n := by rfl) (hdb : (n == ("__debug__" : Str)) = false := by decide) :
    VSX X K W1 (.Raise (some (.Call (.Name n p) [.Constant (.str m) jj p2] [] pos)) none pos2) (wRaise0 n) := by
  obtain ⟨C, T⟩ := T
  have hK : X.K = K := y.hK ()
  have hm : X.mg = mg := y.hmg ()
  refine ⟨_, ps_raise (y.calm ()) tk (pmk_own PySem.F.excBase_ValueError (by rw [hK]; exact T.ex) (by rw [hm]; exact T.gC) (by rw [hK]; exact T.kC) (raises_own (by rw [hK]; exact T.sub) (by rw [hK]; exact T.ty)) hg hdb), fun G B F H al rh si mu V1 D1 s h b => ?_⟩
  exact b.ex F H al rh si mu n [] _ _ (Ext.refl _ _) s ⟨C, rfl, T.at', .inl ⟨rfl, rfl⟩⟩ h
/-- a class of errors that keep a place -/
def Err1 (K : KW) (mg : Str → Option Value) (n : Str) : Prop := ∃ C fI, clsAt K n C ∧ PySem.PlcX.PlcTxt n K mg C fI
@[simp] def wRaise1 (n : Str) (we : WE) : WS := fun V rh mu => we rh mu fun x mu1 => match x with
  | .d (.int i) => V.ex rh n [("place", .int i)] mu1
  | _ => False
theorem vsx_raise1 (y : YOk (un X) P w K mg base N k) (tk : Takes X W1) {n : Str} (T : Err1 K mg n) (ha : VE (un X) K a we) (hg : Gl X n := by rfl) (hdb : (n == ("__debug__" : Str)) = false := by decide)
    (he : starEach (a :: []) X.env = (false, eval a X.env) :: starEach [] X.env := by rfl) (hpl : (backTo pos (starEach [] X.env)).any (·.1) = false := by rfl) :
    VSX X K W1 (.Raise (some (.Call (.Name n p) [a] [] pos)) none pos2) (wRaise1 n we) := by
  obtain ⟨C, fI, T0, T⟩ := T
  have hK : X.K = K := y.hK ()
  have hm : X.mg = mg := y.hmg ()
  have T' : PySem.PlcX.PlcTxt n X.K X.mg C fI := by rw [hK, hm]; exact T
  obtain ⟨t, p1, d⟩ := va_cons ha (va_nil (Y := un X) (K := K)) (fun _ => he)
  refine ⟨_, ps_raisePlc (y.calm ()) T' (y.room ()) tk (p1 ()) hdb hg he hpl, fun G B F H al rh si mu V1 D1 s h b => ?_⟩
  refine d G B F H al rh si mu (fun ws mu1 => match ws with
    | [.d (.int i)] => V1.ex rh n [("place", .int i)] mu1
    | _ => False) _ s ?_ fun F1 H1 al1 mu1 ws vs e1 s1 r1 h1 => ?_
  · show we rh mu fun x mu1 => (fun ws (mu1 : Sto) => match ws with
      | [W.d (.int i)] => V1.ex rh n [("place", D.int i)] mu1
      | _ => False) [x] mu1
    refine cast (congrArg (we rh mu) (funext fun x => funext fun mu1 => ?_)) h
    cases x with
    | d x => cases x <;> rfl
    | _ => rfl
  · split at h1
    · obtain ⟨v, rfl, r⟩ := pair1 r1
      cases repInt r
      refine ⟨_, rfl, fun d hd => ?_⟩
      have hF := sameNone s1.s.fz hd
      exact b.ex _ _ al1 rh si mu1 n _ _ _ (e1.trans (s1.s.frozX hd)) (s1.step (s1.s.frozX hd) (s1.s.froz hd)) ⟨C, rfl, T0, .inr ⟨d, _, rfl, sameNone s1.s.bs hd, upd_same, .cons ⟨rfl, _, rfl, rfl⟩ .nil⟩⟩ h1
    · exact h1.elim
end
end VL
namespace VL
open PySem PySem.Spec PyProof.Rows L2 RZ VLX
/-! ### try: an error is caught and kept -/
@[simp] def unrawW (a : Addr) (k : Nat) : W → W
  | .raw b => if b = a then .loc k else .raw b
  | w => w
@[simp] def unraw (a : Addr) (k : Nat) (rh : Ev) : Ev := rh.map (Option.map (unrawW a k))
/-- try: fb / except C as i: fs; tab: the errors that C catches -/
@[simp] def wTry (tab : List Str) (i : Nat) (fb fs : WS) : WS := fun V rh mu => fb { V with ex := fun rh' n es mu' => n ∈ tab ∧ ∀ a, fs { nx := fun rh2 mu2 => V.nx ((unraw a mu2.length rh2).set i none) (mu2 ++ [.exc n es]), rt := fun _ _ => False } (rh'.set i (some (.raw a))) mu' } rh mu
section
variable {K : KW} {G B F H : Hp} {al : List Addr} {mu : Sto} {rh : Ev} {si : L2.St} {a : Addr} {n : Str} {fs : List (Str × D)} {cls : Value} {d : Option Addr}
theorem exr_crep {F' : Hp} {B' : Hp} {al' : List Addr} (x : ExR K B F n fs cls d) (h : Same F F') : CRep K F' al' a (.exc n fs) (exk a cls d) := by
  obtain ⟨c, rfl, e2, x⟩ := x
  rcases x with ⟨rfl, rfl⟩ | ⟨dx, gs, rfl, e4, e5, r⟩
  · exact .exc0 e2
  · exact .exc1 e2 (h _ _ e5) (Paired.mapP r fun p q z => ⟨z.1, by
      obtain ⟨_, i, z1, z2⟩ := z
      rw [z1, z2]; exact .int i⟩)
theorem keep_sr {i : Nat} {c : C} {o : HO} (s : SR K G B F H al rh si mu) (na : H a = none) (r : CRep K F al a c o) : SR K G B F (upd H a o) (al ++ [a]) ((unraw a mu.length rh).set i none) (si.set i none) (mu ++ [c]) := by
  refine ⟨s.s.own na r, by simp [s.ln], fun j w e => ?_⟩
  by_cases hj : j = i
  · subst hj
    by_cases hl : j < (unraw a mu.length rh).length
    · rw [List.getElem?_set_self hl] at e; cases e
    · rw [List.getElem?_eq_none (by rw [List.length_set]; omega)] at e; cases e
  · rw [List.getElem?_set_ne (Ne.symm hj)] at e ⊢
    unfold unraw at e
    rw [List.getElem?_map] at e
    cases q : rh[j]? with
    | none => rw [q] at e; cases e
    | some u =>
      rw [q] at e
      cases u with
      | none => cases e
      | some u =>
        obtain ⟨v, e1, e2⟩ := s.env j u q
        have e : unrawW a mu.length u = w := by simpa using e
        subst e
        refine ⟨v, e1, ?_⟩
        have e3 : RepW K F (al ++ [a]) u v := e2.mono SRS.ownX
        cases u with
        | raw b =>
          by_cases hb : b = a
          · subst hb
            cases e3
            have : unrawW b mu.length (.raw b) = .loc mu.length := by simp
            rw [this]
            exact .loc s.s.atNew
          · have : unrawW a mu.length (.raw b) = .raw b := by simp [hb]
            rw [this]
            exact e3
        | _ => exact e3
end
/-- what a class catches -/
def Catch (K : KW) (mg : Str → Option Value) (nh : Str) (tab : List Str) : Prop := ∃ C, mg nh = some (.ref C) ∧ ∀ n ∈ tab, ∃ c, clsAt K n c ∧ PySem.W.exmOne K (.ref c) (.ref C) = some true
/-- the suite of an except clause -/
def VSu (X : Cx) (K : KW) (sts : List Stmt) (f : WS) : Prop := ∃ ts : Addr → Value → Option Addr → TS, (∀ (a : Addr) (oe : Obj) (cls : Value) (d : Option Addr) (pn : List (Addr × Obj)), Zc cls d oe → (∃ vs, oe.data = .fields vs) → PSs (X.suite a ((a, oe) :: pn)) sts (ts a cls d)) ∧ ∀ a cls d, DenS K (ts a cls d) f
structure TrIx (X : Cx) where
  W1 : WX
  pn : List (Addr × Obj)
  xe : Value → Shared → Prop
  tk : Takes (X.tr pn xe) W1
  pa : PassesOwn (model X.prog X.w) X.A X.env xe
abbrev trY (X : Cx) : TrIx X → Cx := fun i => X.tr i.pn i.xe
section
variable {X : Cx} {P : Program} {w : World} {K : KW} {mg : Str → Option Value} {base : Heap} {N : List Str} {k : Nat} {pos pos' p p2 np : Pos} {we : WE} {e : Expr}
theorem try_yok (y : YOk (un X) P w K mg base N k) : YOk (trY X) P w K mg base N k :=
  ⟨fun _ => y.hP (), fun _ => y.hw (), fun _ => y.hK (), fun _ => y.hmg (), fun _ => y.hbase (), fun _ => y.hN (), y.nd, fun _ => y.calm (), fun _ => y.room ()⟩
/-- x = n, n the error -/
theorem vsu_name (y : YOk (un X) P w K mg base N k) (i j : Nat) {x n : Str} (hi : N[i]? = some x := by rfl) (hj : N[j]? = some n := by rfl) (hx : Loc X.env.scope x := by first | exact Or.inl rfl | exact Or.inr rfl) (hv : Vis X.env.scope n := by first | exact Or.inl rfl | exact Or.inr (Or.inl rfl))
    (hs : swapsWith (.Name n p2) (some (.Name x pos')) pos.line X.env = pure false := by rfl) (hf : X.fn x = true ∨ X.env.scope.names.lookup x = some .local := by first | exact .inl rfl | exact .inr rfl)
    (hd : (n == ("__debug__" : Str)) = false := by decide) (hcd : (n == ("__classdict__" : Str)) = false := by decide) : VSu X K [.Assign [.Name x pos'] (.Name n p2) pos] (wAsg (wVar j) (wgName i)) := by
  have q := y.hN ()
  exact ⟨fun a cls d => _, fun a oe cls d pn hz hf' => pss_one (ps_set (X := X.suite a ((a, oe) :: pn)) (by show X.N.Nodup; rw [show X.N = N from q]; exact y.nd) (by show X.N[i]? = _; rw [show X.N = N from q]; exact hi) hx (pe_var (by show X.N[j]? = _; rw [show X.N = N from q]; exact hj) hv hd hcd) hs hf), fun a cls d => den_asg (den_var j) (den_gName i)⟩
theorem vs_try (y : YOk (un X) P w K mg base N k) {nh n : Str} (i : Nat) {tab : List Str} {body suite : List Stmt} {b₀ : Stmt} {fb fs : WS} (hC : Catch K mg nh tab) (hb : VSF (trY X) K TrIx.W1 body fb) (hsu : VSu X K (b₀ :: suite) fs)
    (hs : X.stack = X.env :: X.outer := by rfl) (hf : X.env.frame = some X.env.locals := by rfl) (hi : N[i]? = some n := by rfl) (hln : X.env.kindOf n = some .local := by rfl) (hg : Gl X nh := by rfl) (hdb : (nh == ("__debug__" : Str)) = false := by decide) (hex : X.ex = [] := by rfl) :
    VS X K (.Try body [.ExceptHandler (some (.Name nh np)) (some n) (b₀ :: suite) pos'] [] [] pos) (wTry tab i fb fs) := by
  obtain ⟨C, hm, hC⟩ := hC
  obtain ⟨tb, pb, db⟩ := hb
  obtain ⟨ts, ps, ds⟩ := hsu
  have qN := y.hN ()
  have qK : X.K = K := y.hK ()
  refine ⟨_, ps_try_keep (i := i) (c := .ref C) (tb := tb) (ts := ts) (Wout := fun _ _ _ _ => False) hs hf (by show X.N.Nodup; rw [show X.N = N from qN]; exact y.nd) (by show X.N[i]? = _; rw [show X.N = N from qN]; exact hi) hln ⟨hg, hdb, .inl (by have := y.hmg (); rw [show X.mg = mg from this]; exact hm)⟩ takes0 hex
    (fun W1 pn xe tk pa => pb ⟨W1, pn, xe, tk, pa⟩) ps, fun G B F H al rh si mu V1 D1 s h b => ?_⟩
  refine db _ G B F H al rh si mu _ D1 s h ⟨⟨b.nx, b.rt, b.bk, b.ct⟩, fun F1 H1 al1 rh1 si1 mu1 n1 es cls d e1 s1 x1 h1 => ?_⟩
  obtain ⟨hn, h1⟩ := h1
  obtain ⟨c, c1, c2⟩ := hC n1 hn
  have ex0 := x1
  obtain ⟨c', rfl, c3, _⟩ := x1
  obtain rfl := c1.uniq c3
  refine ⟨true, by rw [qK]; exact c2, fun _ a na => ?_, fun z => nomatch z⟩
  refine ds a (.ref c) d G B F1 H1 al1 _ _ mu1 _ _ (s1.set (.raw a)) (h1 a) ⟨fun F2 H2 al2 rh2 si2 mu2 e2 s2 h2 na2 => ?_, fun _ _ _ _ _ _ _ _ _ z => z.elim, fun _ _ _ _ _ _ _ _ z => z.elim, fun _ _ _ _ _ _ _ _ z => z.elim⟩
  exact b.nx _ _ _ _ _ _ ((e1.trans e2).trans SRS.ownX) (keep_sr s2 na2 (exr_crep (B' := B) ex0 e2.1)) h2
end
/-! ### what is asked of a kept error -/
/-- isinstance by the error's class -/
@[simp] def wIsX (tab : List (Str × Bool)) (we : WE) : WE := fun rh mu Q => we rh mu fun x mu1 => match x with
  | .loc k => match mu1[k]? with
    | some (.exc n _) => match tab.lookup n with
      | some b => Q (.d (.bl b)) mu1
      | none => False
    | _ => False
  | _ => False
def ClsV (mg : Str → Option Value) (cn : Str) (cv : Value) : Prop := (∃ C, cv = .ref C ∧ mg cn = some (.ref C)) ∨ ∃ t, cv = .type t ∧ mg cn = none ∧ bootBuiltins cn = some (.type t)
def IsT (K : KW) (mg : Str → Option Value) (cn : Str) (tab : List (Str × Bool)) : Prop := ∃ cv, ClsV mg cn cv ∧ ∀ p ∈ tab, ∃ D, clsAt K p.1 D ∧ ExcC K D ∧ PySem.W.kitOne K (.ref D) cv = some p.2
theorem look_mem {A1 : Type} {n : Str} {b : A1} : ∀ {l : List (Str × A1)}, l.lookup n = some b → (n, b) ∈ l
  | [], e => by cases e
  | (m, c) :: r, e => by
    unfold List.lookup at e
    split at e
    · rename_i q
      cases e
      have : n = m := by simpa using q
      subst this
      exact List.mem_cons_self
    · exact List.mem_cons_of_mem _ (look_mem e)
theorem exc_rep {K : KW} {G B F H : Hp} {al : List Addr} {mu : Sto} {k : Nat} {n : Str} {fs : List (Str × D)} {v : V} (s : SRS K G B F H al mu) (r : RepW K F al (.loc k) v) (e : mu[k]? = some (.exc n fs)) :
    ∃ a c d, v = .ref a ∧ clsAt K n c ∧ ExAt H a c d ∧ ((d = none ∧ fs = []) ∨ ∃ dx gs, d = some dx ∧ H dx = some (.xd gs) ∧ Paired (fun (p : Str × D) (q : Str × V) => p.1 = q.1 ∧ RepD K F p.2 q.2) fs gs) := by
  cases r with
  | loc ea =>
    obtain ⟨o, _, _, h, c⟩ := s.at e ea
    cases c with
    | exc0 z => exact ⟨_, _, none, rfl, z, ⟨h, fun _ q => nomatch q⟩, .inl ⟨rfl, rfl⟩⟩
    | exc1 z e2 p => exact ⟨_, _, some _, rfl, z, ⟨h, fun _ q => by cases q; exact ⟨_, s.fz _ _ e2⟩⟩, .inr ⟨_, _, rfl, s.fz _ _ e2, p⟩⟩
section
variable {io : Type} {Y : io → Cx} {P : Program} {w : World} {K : KW} {mg : Str → Option Value} {base : Heap} {N : List Str} {k : Nat} {pos p p2 : Pos} {e : Expr} {we : WE}
theorem ve_mono {f g : WE} (h : VE Y K e f) (hi : ∀ rh mu Q, g rh mu Q → f rh mu Q) : VE Y K e g := by
  obtain ⟨t, p, d⟩ := h
  exact ⟨t, p, fun G B F H al rh si mu Qd Q s h q => d G B F H al rh si mu Qd Q s (hi _ _ _ h) q⟩
@[simp] def fIsX (cw : W) (tab : List (Str × Bool)) : FC := fun mu1 ws Q => match ws with
  | [.loc k, c] => c = cw ∧ (match mu1[k]? with
    | some (.exc n _) => match tab.lookup n with
      | some b => Q (.d (.bl b)) mu1
      | none => False
    | _ => False)
  | _ => False
theorem ve_isX (y : YOk Y P w K mg base N k) {cn : Str} {tab : List (Str × Bool)} (hm : mg "isinstance" = none) (T : IsT K mg cn tab) (ha : VE Y K e we) (hc : ∀ j, Gl (Y j) cn := by exact fun _ => rfl) (hnn : cn ≠ "__name__" := by decide) (hdc : (cn == ("__debug__" : Str)) = false := by decide) (hg : ∀ j, Gl (Y j) "isinstance" := by exact fun _ => rfl)
    (he1 : ∀ i, starEach [e, .Name cn p2] (Y i).env = (false, eval e (Y i).env) :: starEach [.Name cn p2] (Y i).env := by exact fun _ => rfl) (he2 : ∀ i, starEach [.Name cn p2] (Y i).env = (false, eval (.Name cn p2) (Y i).env) :: starEach [] (Y i).env := by exact fun _ => rfl) (hpl : ∀ i, (backTo pos (starEach [.Name cn p2] (Y i).env)).any (·.1) = false := by exact fun _ => rfl) :
    VE Y K (.Call (.Name "isinstance" p) [e, .Name cn p2] [] pos) (wIsX tab we) := by
  obtain ⟨cv, hcv, T⟩ := T
  have : ∃ cw : W, VE Y K (.Name cn p2) (fun _ mu Q => Q cw mu) ∧ ∀ F al v, RepW K F al cw v → ∀ u, RelV v u → u = cv := by
    rcases hcv with ⟨C, rfl, h⟩ | ⟨t, rfl, h, hb⟩
    · exact ⟨.raw C, ⟨tC (.ref C), fun j => pe_glob (hc j) (by rw [y.hmg j]; exact h) rfl hdc, fun G B F H al rh si mu Qd Q s hq q => q F H al mu _ _ (Ext.refl _ _) s (.raw C) hq⟩, fun F al v r u q => by cases r; exact q⟩
    · exact ⟨.ty t, ve_ty y h hb hc hnn hdc, fun F al v r u q => by cases r; exact q⟩
  obtain ⟨cw, v2, hu⟩ := this
  have hd : CallD K (rIsK K) (fIsX cw tab) := fun G B F H al rh si mu ws vs Qd Q s r0 h q => by
    unfold fIsX at h
    split at h
    · obtain ⟨rfl, h⟩ := h
      obtain ⟨v, u, rfl, r, r'⟩ := pair2 r0
      split at h
      · rename_i n fs em
        split at h
        · rename_i b el
          obtain ⟨a, c, d, rfl, ca, ea, _⟩ := exc_rep s.s r em
          obtain ⟨D, c1, c2, c3⟩ := T _ (look_mem el)
          obtain rfl := c1.uniq ca
          exact ⟨a, D, d, u, cv, b, rfl, ea, c2, fun z => hu F al u r' z, c3, q F H al mu _ _ (Ext.refl _ _) s (.d (.bl _)) h⟩
        · exact h.elim
      · exact h.elim
    · exact h.elim
  refine ve_mono (ve_callB y (fun i => by rw [← y.hK i]; exact call_isK) hd hm (by decide +kernel) (va_cons ha (va_cons v2 va_nil he2) he1) hg (by decide) (by decide) he1 hpl) fun rh mu Q h => ?_
  show we rh mu fun x mu1 => fIsX cw tab mu1 [x, cw] Q
  unfold wIsX at h
  refine cast (congrArg _ (funext fun x => funext fun mu1 => ?_)) h
  cases x <;> simp
/-- e.place -/
@[simp] def wPlc (f : Str) (ns : List Str) (we : WE) : WE := fun rh mu Q => we rh mu fun x mu1 => match x with
  | .loc k => match mu1[k]? with
    | some (.exc n fs) => ns.contains n = true ∧ (match fs.lookup f with
      | some d => Q (.d d) mu1
      | none => False)
    | _ => False
  | _ => False
def PlcT (K : KW) (f : Str) (ns : List Str) : Prop := ∀ n ∈ ns, ∃ D, clsAt K n D ∧ XfC K D ∧ PySem.W.findIn K (.ref D) f = some none
theorem lookD {K : KW} {F : Hp} {f : Str} {x : D} : ∀ {fs : List (Str × D)} {gs : List (Str × V)}, Paired (fun (p : Str × D) (q : Str × V) => p.1 = q.1 ∧ RepD K F p.2 q.2) fs gs → fs.lookup f = some x → ∃ v, gs.lookup f = some v ∧ RepD K F x v
  | _, _, .nil, e => by cases e
  | (a, b) :: _, (a', b') :: _, .cons r t, e => by
    obtain ⟨r1, r2⟩ := r
    simp only at r1 r2
    subst r1
    unfold List.lookup at e ⊢
    split at e
    · cases e; exact ⟨_, rfl, r2⟩
    · exact lookD t e
theorem ve_plc (y : YOk Y P w K mg base N k) {f : Str} {ns : List Str} (T : PlcT K f ns) (ha : VE Y K e we) (hb : ∀ i, attributeBase e f (Y i).env (eval e (Y i).env) = eval e (Y i).env := by exact fun _ => rfl) : VE Y K (.Attribute e f pos) (wPlc f ns we) := by
  obtain ⟨t, p1, d⟩ := ha
  refine ⟨tKf K f t, fun i => by have := pe_kf (pos := pos) (n := f) (p1 i) (hb i); rw [y.hK i] at this; exact this, fun G B F H al rh si mu Qd Q s h q => ?_⟩
  refine d G B F H al rh si mu _ _ s h fun F1 H1 al1 mu1 u v e1 s1 r1 h1 => ?_
  split at h1
  · split at h1
    · rename_i n fs em
      obtain ⟨hn, h1⟩ := h1
      obtain ⟨a, c, d, rfl, ca, ea, z⟩ := exc_rep s1.s r1 em
      obtain ⟨D, c1, c2, c3⟩ := T n (by simpa using hn)
      obtain rfl := c1.uniq ca
      split at h1
      · rename_i x el
        rcases z with ⟨_, rfl⟩ | ⟨dx, gs, rfl, hx, pr⟩
        · cases el
        · obtain ⟨v, ev, rv⟩ := lookD pr el
          exact ⟨a, D, dx, gs, v, rfl, ea.1, hx, c2, c3, ev, q F1 H1 al1 mu1 _ _ e1 s1 (.d rv) h1⟩
      · exact h1.elim
    · exact h1.elim
  · exact h1.elim
end
/-! ### a def that raises -/
abbrev rX (P : Program) (w : World) (K : KW) (mg : Str → Option Value) (base : Heap) (N : List Str) (qual : Str) (scope : Scope) (f : Addr) (cdv : Value) (A : Around) (outer : List Env) (s : Shared) (H : Hp) (E : XK) : Cx := cxOf (L2.CX P w) P w K mg base N qual scope f cdv A outer s H E
section
variable {P : Program} {w : World} {K : KW} {mg : Str → Option Value} {base : Heap}
theorem rX_ok {N ps : List Str} {qual : Str} {scope : Scope} {f : Addr} {cdv : Value} {A : Around} {outer : List Env} {s : Shared} {H : Hp} {E : XK} {k : Nat} (S : FnScope N ps scope) (hr : Room k (A.deeper (envOfC qual scope s.heap.objs.size f cdv))) :
    YOk (un (rX P w K mg base N qual scope f cdv A outer s H E)) P w K mg base N k := ⟨fun _ => rfl, fun _ => rfl, fun _ => rfl, fun _ => rfl, fun _ => rfl, fun _ => rfl, S.nd, fun _ => rfl, fun _ => hr⟩
theorem nox_ok {X : Cx} {N : List Str} {k : Nat} (y : YOk (un X) P w K mg base N k) : YOk (un X.nox) P w K mg base N k := ⟨fun _ => y.hP (), fun _ => y.hw (), fun _ => y.hK (), fun _ => y.hmg (), fun _ => y.hbase (), fun _ => y.hN (), y.nd, fun _ => y.calm (), fun _ => y.room ()⟩
theorem defX_mk {x qual : Str} {st : Stmt} {f : Addr} {fd : FuncData} {N ps : List Str} {k : Nat} {sp : XSp} (F : Fun K x qual st f fd) (hm : mg x = some (.ref f)) (S : FnScope N ps (defScope st)) (hb : Binds K fd ps []) (hlen : ∀ ds Q Qx, sp ds Q Qx → ds.length = ps.length)
    (body : ∀ (cdv : Value) (A : Around) (outer : List Env) (s : Shared) (H : Hp) (E : XK), YOk (un (rX P w K mg base N qual (defScope st) f cdv A outer s H E)) P w K mg base N k →
      Takes (rX P w K mg base N qual (defScope st) f cdv A outer s H E) (fun cls d _ H' => E cls d H') → PassesOwn (model P w) (rX P w K mg base N qual (defScope st) f cdv A outer s H E).A (rX P w K mg base N qual (defScope st) f cdv A outer s H E).env (rX P w K mg base N qual (defScope st) f cdv A outer s H E).xe →
      ∃ g, VSXs (rX P w K mg base N qual (defScope st) f cdv A outer s H E) K (fun cls d _ H' => E cls d H') (defBody st) g ∧ ∀ ds Q Qx, sp ds Q Qx → g { nx := fun _ mu => Q (.d .non) mu, rt := Q, ex := fun _ n fs _ => Qx n fs } (startE N (ds.map .d)) []) : DefX P w K mg base x (k + 1) sp := by
  refine ⟨f, fd, ps, hm, F.kp, hb, F.okX S (fun vs H Q E h => ?_) (fun cdv A outer s H vs Q E hr h => ?_)⟩
  · obtain ⟨B, F, ds, Qd, Qx, s, p, h, _⟩ := h
    rw [← Paired.length p.p]; exact hlen _ _ _ h
  · obtain ⟨B, F, ds, Qd, Qx, s', p, h, q, qx⟩ := h
    obtain ⟨g, ⟨t, ht, d⟩, hg⟩ := body cdv A outer s H E (rX_ok S hr) (takes_of rfl rfl rfl rfl) (passes_of rfl)
    refine ⟨t, ht, d F B F H [] _ _ [] _ _ (start_sr s' (pMapDs p)) (hg ds Qd Qx h) ⟨⟨fun F' H' al' rh si mu' x s2 h2 => q F' H' al' mu' _ _ x s2.s (.d .non) h2, fun F' H' al' mu' u v x s2 r h2 => q F' H' al' mu' u v x s2 r h2, fun _ _ _ _ _ _ _ _ z => z.elim, fun _ _ _ _ _ _ _ _ z => z.elim⟩, fun F' H' al' rh si mu' n fs cls dd x s2 r h2 => qx F' H' al' mu' n fs cls dd x s2.s r h2⟩⟩
end
/-- promises of a def that raises, by its parameters -/
abbrev EXs := Str → List (Str × D) → Prop
@[simp] def xp1 (p : D → (W → Sto → Prop) → EXs → Prop) : XSp := fun ds Q Qx => match ds with
  | [a] => p a Q Qx
  | _ => False
@[simp] def evx (Q : W → Sto → Prop) (Qx : EXs) : EV := { nx := fun _ mu => Q (.d .non) mu, rt := Q, ex := fun _ n fs _ => Qx n fs }
theorem all_nil {A1 : Type} {p : A1 → Prop} : ∀ x ∈ ([] : List A1), p x := fun _ h => nomatch h
theorem all_cons {A1 : Type} {p : A1 → Prop} {a : A1} {l : List A1} (h : p a) (t : ∀ x ∈ l, p x) : ∀ x ∈ a :: l, p x := fun x hx => by
  rcases List.mem_cons.mp hx with rfl | hx
  · exact h
  · exact t x hx
theorem lenX1 {g : D → (W → Sto → Prop) → EXs → Prop} {ds : List D} {Q : W → Sto → Prop} {Qx : EXs} (h : xp1 g ds Q Qx) : ds.length = 1 := by
  unfold xp1 at h
  split at h
  · rfl
  · exact h.elim
theorem atX1 {g : D → (W → Sto → Prop) → EXs → Prop} {f : WS} {N : List Str} (v : ∀ a Q Qx, g a Q Qx → f (evx Q Qx) (startE N [.d a]) []) : ∀ ds Q Qx, xp1 g ds Q Qx → f { nx := fun _ mu => Q (.d .non) mu, rt := Q, ex := fun _ n fs _ => Qx n fs } (startE N (ds.map .d)) [] := fun ds Q Qx h => by
  unfold xp1 at h
  split at h
  · exact v _ _ _ h
  · exact h.elim
end VL
namespace L2
open PySem PySem.Spec PyProof.Rows
theorem countP_eqU {x : V} : ∀ {xs : List V} {us : List Value}, Vals xs us → xs.all flatV = true → us.countP (eqU x) = xs.countP fun y => eqV y x
  | _, _, .nil, _ => rfl
  | y :: xs, u :: us, .cons r t, f => by
    rw [List.all_cons, Bool.and_eq_true] at f
    rw [List.countP_cons, List.countP_cons, countP_eqU t f.2, eqU_of r f.1]
def rCountF (K : PySem.W.Frag) : V → List V → Hp → VK → Prop := fun x xs H Q => ∃ (a : Addr) (ys : List V) (y : V), x = V.ref a ∧ xs = [y] ∧ SqL K H a ys ∧ flatV y = true ∧ ys.all flatV = true ∧ Q (.int ((ys.countP fun z => eqV z y : Nat) : Int)) H
theorem mt_countF {X : Cx} : MtR X "list.count" (rCountF X.K) := by
  intro pins s σ H x xs v us Q I rx rxs h
  obtain ⟨a, ys, y, rfl, rfl, hs, fy, fys, q⟩ := h
  cases rx
  obtain ⟨uy, rfl, ry⟩ := rxs.one
  obtain ⟨its, rv, ⟨⟨cls, dd, data, sl⟩, n, ho, hc, hdn, hd⟩, hlen⟩ := I.list hs
  simp only at hc hd
  subst hc hd
  refine call_meets PySem.F.slot_list_count ⟨_, ho, rfl⟩ PySem.F.entry_list_count (PySem.F.args_list_count_2 _ _)
    (SeqAt.list_countAt a its.toArray n dd sl uy (eqU y)) ⟨ho, fun u' hu' => mem_eqAt ry fy rv fys u' (by simpa using hu'), ?_⟩
  have ec : its.toArray.toList.countP (eqU y) = ys.countP (fun z => eqV z y) := countP_eqU rv fys
  refine ⟨.int ((ys.countP fun z => eqV z y : Nat) : Int), H, I.tok _, ⟨s.toks, ?_⟩, q⟩
  show Value.int ((its.toArray.toList.countP (eqU y) : Nat) : Int) s.toks = Value.int ((ys.countP (fun z => eqV z y) : Nat) : Int) s.toks
  rw [ec]
end L2
namespace VL
open PySem PySem.Spec PyProof.Rows L2 RZ
theorem kit_ref {K : PySem.W.Frag} {D C : Addr} {b : Bool} (hd : PySem.W.hasDictIn K C = true) (ht : PySem.W.typeIn K (.ref C) = some (.type "type")) (hs : PySem.W.subIn K (.ref C) (.ref C) = some true) (h : PySem.W.subIn K (.ref D) (.ref C) = some b) : PySem.W.kitOne K (.ref D) (.ref C) = some b := by
  unfold PySem.W.kitOne
  split
  · rename_i q
    have e : D = C := Value.ref.inj (beq_iff_eq.mp q)
    subst e
    rw [hs] at h
    exact h
  · obtain ⟨cd, hc, _⟩ := PySem.W.any_some hd
    show (if ((PySem.W.clsIn K C).isSome && PySem.W.typeIn K (.ref C) == some (.type "type")) = true then PySem.W.subIn K (.ref D) (.ref C) else none) = some b
    rw [hc, ht]
    exact h
theorem kit_type {K : PySem.W.Frag} {D : Addr} {T : String} {b : Bool} (hm : PySem.W.kitMeta T = true) (h : PySem.W.subIn K (.ref D) (.type T) = some b) : PySem.W.kitOne K (.ref D) (.type T) = some b := by
  unfold PySem.W.kitOne
  rw [if_neg (by intro q; cases (beq_iff_eq.mp q))]
  show (if PySem.W.kitMeta T = true then PySem.W.subIn K (.ref D) (.type T) else none) = some b
  rw [if_pos hm]
  exact h
end VL
namespace VL
open PySem PySem.Spec PyProof.Rows L2 RZ
/-- xs.count(y): flat data -/
@[simp] def fCountF : FM := fun mu x ws Q => match ws with
  | [.d y] => (match lsD mu x with
    | some ds => flatD y = true ∧ ds.all flatD = true ∧ Q (.d (.int ((ds.countP fun z => deqv z y : Nat) : Int))) mu
    | none => False)
  | _ => False
theorem countP_rep {K : KW} {F : Hp} {y : D} {v : V} (r : RepD K F y v) (fy : flatD y = true) : ∀ {ds : List D} {us : List V}, Paired (RepD K F) ds us → ds.all flatD = true → us.countP (fun z => eqV z v) = ds.countP fun z => deqv z y
  | _, _, .nil, _ => rfl
  | d :: ds, u :: us, .cons rd t, f => by
    rw [List.all_cons, Bool.and_eq_true] at f
    rw [List.countP_cons, List.countP_cons, countP_rep r fy t f.2, flat_eqV rd r f.1 fy]
section
variable {K : KW} {G B F F' H H' : Hp} {al al' : List Addr} {mu mu' : Sto} {rh : Ev} {si : L2.St}
theorem md_countF : MtD K (L2.rCountF K) fCountF := fun G B F H al rh si mu x vx ws vs Qd Q s r rw_ h q => by
  unfold fCountF at h
  split at h
  · rename_i y
    obtain ⟨v, rfl, r'⟩ := pair1 rw_
    split at h
    · rename_i ds el
      obtain ⟨a, us, rfl, rd, z, pr⟩ := lsD_rep s.s r el
      obtain ⟨fy, fd, h⟩ := h
      cases r' with
      | d r' =>
      refine ⟨a, us, v, rfl, rfl, .inl rd, flD_rep r' fy, flD_all pr fd, ?_⟩
      rw [countP_rep r' fy pr fd]
      exact q F H al mu _ _ (Ext.refl _ _) s (.d (.int _)) h
    · exact h.elim
  · exact h.elim
end
section
variable {io : Type} {Y : io → Cx} {P : Program} {w : World} {K : KW} {mg : Str → Option Value} {base : Heap} {N : List Str} {k : Nat} {cpos apos : Pos} {o e e2 : Expr} {es : List Expr} {wo : WE} {ga : WA}
theorem ve_countF (y : YOk Y P w K mg base N k) (ho : VE Y K o wo) (ha : VA Y K [e] ga)
    (hbase : ∀ i, attributeBase o "count" (Y i).env (eval o (Y i).env) = eval o (Y i).env := by exact fun _ => rfl)
    (hfew : ∀ i, ((backTo cpos (starEach [e] (Y i).env)).all (fun x => !x.1) && (backToKw cpos (keywordEach [] (Y i).env)).all (fun x => x.1.isSome)
      && decide ([e].length + ([] : List Keyword).length + (if ([] : List Keyword).isEmpty then 0 else 1) < 30)) = true := by exact fun _ => rfl)
    (hline : (apos.endLine == cpos.line) = true := by rfl) (hs : ∀ i, starEach [e] (Y i).env = (false, eval e (Y i).env) :: starEach [] (Y i).env := by exact fun _ => rfl) :
    VE Y K (.Call (.Attribute o "count" apos) [e] [] cpos) (wBM fCountF wo ga) := ve_bm y PySem.F.plainAttrs_list PySem.F.slot_list_count PySem.F.type_list_count (fun i => by rw [← y.hK i]; exact L2.mt_countF) md_countF ho ha hbase hfew hline hs
end
end VL
namespace VL
open PySem PySem.Spec PyProof.Rows L2 RZ
section
variable {io : Type} {Y : io → Cx} {P : Program} {w : World} {K : KW} {mg : Str → Option Value} {base : Heap} {N : List Str} {k : Nat} {pos : Pos} {a b : Expr} {wa wb : WE}
end
end VL
namespace VL
open PySem PySem.Spec PyProof.Rows L2 RZ
@[simp] def k_H : D := .int (1000000000000000000000000000000)
@[simp] def k_LETTERS : D := .str "abcdefghijklmnopqrstuvwxyz"
@[simp] def k_RECKONING : D := .tup [.str "plus", .str "minus", .str "times", .str "over", .str "rest", .str "less", .str "same"]
@[simp] def k_MOST_PARAMETERS : D := .int (4)
@[simp] def k_MOST_ROWS : D := .int (60)
@[simp] def cn_parts : List Str := ["Row", "Bare", "Def", "Give", "While", "Fail", "Set", "New", "Put", "Do", "Get", "Call"]
def isLet (c : Nat) : Bool := decide (c ∈ (Str.ofString "abcdefghijklmnopqrstuvwxyz").cps.toList)
def nameOk (s : Str) : Bool := decide (1 ≤ s.length) && decide (s.length ≤ 8) && s.cps.toList.all isLet
def numOk (n : Int) : Bool := decide (-1000000000000000000000000000000 ≤ n) && decide (n < 1000000000000000000000000000000)
def nameD : D → Bool
  | .str s => nameOk s
  | _ => false
def numD : D → Bool
  | .int n => numOk n
  | _ => false
def operD (x : D) : Bool := nameD x || numD x
def fieldD : D → Bool
  | .str s => Txt.startswith s (Str.ofString ".") && nameOk (cutS s (some 1) none)
  | _ => false
/-- what may be asked: no script -/
def plainD : D → Prop
  | .scr _ => False
  | _ => True
@[simp] def p_is_number : D → (W → Sto → Prop) → Prop := fun x Q => plainD x ∧ Q (.d (.bl (numD x))) []
def w_is_number : WS := (wRet (wAndV (wCall fIsi (wCons (wVar 0) (wCons (wTy "int") wNil))) (wAndV (wNotV (wCall fIsi (wCons (wVar 0) (wCons (wTy "bool") wNil)))) (wChain (fB0 fun i j => decide (i ≤ j)) (fB0 fun i j => decide (i < j)) (wOp (fI0 fun i j => i - j) (wC (.int 0)) (wC k_H)) (wVar 0) (wC k_H)))))
@[simp] def sp_is_number : PSp := sp1 p_is_number
theorem v_is_number : ∀ a Q, p_is_number a Q → w_is_number (evr Q) (startE ["thing"] [.d a]) [] := by
  intro a Q h
  obtain ⟨hp, h⟩ := h
  cases a <;> simp [w_is_number, numD] at h ⊢ <;> try exact h
  · rename_i n
    split
    · rename_i h1; simpa [numOk, h1] using h
    · rename_i h1; simpa [numOk, h1] using h
@[simp] def p_is_name : D → (W → Sto → Prop) → Prop := fun x Q => plainD x ∧ Q (.d (.bl (nameD x))) []
def w_is_name : WS := (wSeq (wIfS (wOr (wNot (wTru (wCall fIsi (wCons (wVar 0) (wCons (wTy "str") wNil))))) (wOr (wTest (wOp (fB0 fun i j => decide (i < j)) (wCall fLen (wCons (wVar 0) wNil)) (wC (.int 1)))) (wTest (wOp (fB0 fun i j => decide (j < i)) (wCall fLen (wCons (wVar 0) wNil)) (wC (.int 8)))))) (wRet (wC (.bl false))) wNext)
    (wRet (wCall (fAny true) (wCons (wLc false (wStrI (wVar 0)) (wgName 1) wYes (wOp (fInS false) (wVar 1) (wC k_LETTERS)) [1]) wNil))))
@[simp] def sp_is_name : PSp := sp1 p_is_name
def letB : D → D
  | .str z => .bl (subS z (Str.ofString "abcdefghijklmnopqrstuvwxyz"))
  | _ => .non
theorem signs_D (s : Str) : List.map (fun c => W.d (D.str ⟨#[c]⟩)) s.cps.toList = (s.cps.toList.map fun c => D.str ⟨#[c]⟩).map W.d := by simp
theorem v_is_name : ∀ a Q, p_is_name a Q → w_is_name (evr Q) (startE ["thing", "sign"] [.d a]) [] := by
  intro a Q h
  obtain ⟨hp, h⟩ := h
  cases a with
  | str s =>
    simp [w_is_name]
    by_cases h1 : 1 ≤ s.length
    · by_cases h2 : s.length ≤ 8
      · rw [if_neg (by omega), if_neg (by omega), signs_D]
        refine lc_M letB trivial (fun x hx A q => ?_) ?_
        · simp at hx
          obtain ⟨c, _, rfl⟩ := hx
          simpa [letB] using q
        · simp only [asDs_map]
          simp [fAny]
          refine ⟨s.cps.toList.map isLet, ?_, ?_⟩
          · simp [letB, isLet, Function.comp_def]
          · simpa [nameD, nameOk, h1, h2, Function.comp_def, List.all_map] using h
      · rw [if_neg (by omega), if_pos (by omega)]
        simpa [nameD, nameOk, h2] using h
    · rw [if_pos (by omega)]
      simpa [nameD, nameOk, h1] using h
  | _ => simp [w_is_name, nameD] at h ⊢; exact h
@[simp] def p_is_operand : D → (W → Sto → Prop) → Prop := fun x Q => plainD x ∧ Q (.d (.bl (operD x))) []
def w_is_operand : WS := (wRet (wOrV (wCallP false sp_is_name [] (wCons (wVar 0) wNil)) (wCallP false sp_is_number [] (wCons (wVar 0) wNil))))
@[simp] def sp_is_operand : PSp := sp1 p_is_operand
theorem v_is_operand : ∀ a Q, p_is_operand a Q → w_is_operand (evr Q) (startE ["thing"] [.d a]) [] := by
  intro a Q h
  obtain ⟨hp, h⟩ := h
  simp [w_is_operand, hp]
  unfold operD at h
  cases e : nameD a <;> simp [e, onBl] at h ⊢ <;> exact h
@[simp] def p_is_field : D → (W → Sto → Prop) → Prop := fun x Q => plainD x ∧ Q (.d (.bl (fieldD x))) []
def w_is_field : WS := (wRet (wAndV (wCall fIsi (wCons (wVar 0) (wCons (wTy "str") wNil))) (wAndV (wM1 fStarts (wVar 0) (wC (.str "."))) (wCallP false sp_is_name [] (wCons (wSl false (wVar 0) (wPart (wC (.int 1))) wNoPart) wNil)))))
@[simp] def sp_is_field : PSp := sp1 p_is_field
theorem v_is_field : ∀ a Q, p_is_field a Q → w_is_field (evr Q) (startE ["thing"] [.d a]) [] := by
  intro a Q h
  obtain ⟨hp, h⟩ := h
  cases a with
  | str s =>
    simp [w_is_field, fieldD] at h ⊢
    cases e : Txt.startswith s (Str.ofString ".") <;> simp [e, onBl, nameD, plainD] at h ⊢ <;> exact h
  | _ => simp [w_is_field, fieldD, onBl] at h ⊢; exact h
/-- the names among some data -/
def namesOf : List D → List Str
  | [] => []
  | .str s :: r => if nameOk s then s :: namesOf r else namesOf r
  | _ :: r => namesOf r
theorem namesOf_len : ∀ xs : List D, (namesOf xs).length ≤ xs.length
  | [] => by simp [namesOf]
  | x :: r => by
    have := namesOf_len r
    cases x with
    | str s =>
      rw [namesOf]
      split
      · simp only [List.length_cons]; omega
      · simp only [List.length_cons]; omega
    | _ => simp only [namesOf, List.length_cons]; omega
theorem namesOf_filter : ∀ xs : List D, xs.filter nameD = (namesOf xs).map D.str
  | [] => rfl
  | x :: r => by
    have ih := namesOf_filter r
    cases x <;> simp [namesOf, nameD, List.filter_cons, ih]
    split <;> simp_all
def plainDs (xs : List D) : Prop := ∀ x ∈ xs, plainD x
@[simp] def p_names_among : D → (W → Sto → Prop) → Prop := fun a Q => match a with
  | .tup xs => plainDs xs ∧ xs.length < 64 ∧ Q (.loc 0) [.lst ((setS (namesOf xs)).map D.str)]
  | .lst xs => plainDs xs ∧ xs.length < 64 ∧ Q (.loc 0) [.lst ((setS (namesOf xs)).map D.str)]
  | _ => False
def w_names_among : WS := (wRet (wSortSet true (wLc false (wSeqI (wVar 0)) (wgName 1) (wTru (wCallP false sp_is_name [] (wCons (wVar 1) wNil))) (wVar 1) [1])))
@[simp] def sp_names_among : PSp := sp1 p_names_among
theorem v_names_among : ∀ a Q, p_names_among a Q → w_names_among (evr Q) (startE ["operands", "one"] [.d a]) [] := by
  intro a Q h
  unfold p_names_among at h
  split at h
  all_goals
    try exact h.elim
    try
      rename_i xs
      obtain ⟨hp, hl, h⟩ := h
      have hn := namesOf_len xs
      simp [w_names_among]
      refine lc_F nameD trivial (fun x hx A B q => ?_) ?_
      · simp [hp x hx]
        cases e : nameD x <;> simp [e] at q ⊢ <;> exact q
      · simp only [asDs_map]
        rw [namesOf_filter]
        simp
        exact ⟨by omega, h⟩
def allOpD : D → Bool
  | .tup xs => decide (xs.length ≤ 4) && xs.all operD
  | _ => false
@[simp] def p_all_operands : D → (W → Sto → Prop) → Prop := fun x Q => plainD x ∧ (∀ xs, x = .tup xs → plainDs xs) ∧ Q (.d (.bl (allOpD x))) []
def w_all_operands : WS := (wSeq (wIfS (wOr (wNot (wTru (wCall fIsi (wCons (wVar 0) (wCons (wTy "tuple") wNil))))) (wTest (wOp (fB0 fun i j => decide (j < i)) (wCall fLen (wCons (wVar 0) wNil)) (wC k_MOST_PARAMETERS)))) (wRet (wC (.bl false))) wNext)
    (wRet (wCall (fAny true) (wCons (wLc false (wSeqI (wVar 0)) (wgName 1) wYes (wCallP false sp_is_operand [] (wCons (wVar 1) wNil)) [1]) wNil))))
@[simp] def sp_all_operands : PSp := sp1 p_all_operands
theorem v_all_operands : ∀ a Q, p_all_operands a Q → w_all_operands (evr Q) (startE ["some", "one"] [.d a]) [] := by
  intro a Q h
  obtain ⟨hp, hq, h⟩ := h
  cases a with
  | tup xs =>
    have hq := hq xs rfl
    simp [w_all_operands]
    by_cases h1 : xs.length ≤ 4
    · rw [if_neg (by omega)]
      refine lc_M (fun x => .bl (operD x)) trivial (fun x hx A q => ?_) ?_
      · simpa [hq x hx] using q
      · simp only [asDs_map]
        simp [fAny]
        exact ⟨xs.map operD, by simp [Function.comp_def], by simpa [allOpD, h1, Function.comp_def, List.all_map] using h⟩
    · rw [if_pos (by omega)]
      simpa [allOpD, h1] using h
  | _ => simp [w_all_operands, allOpD] at h ⊢; exact h
/-! the classes -/
def pn : Str := Str.ofString "parts"
/-- a row's object -/
def selfAt (mu : Sto) (a : W) (n : String) (row : D) : Prop := ∃ k, a = .loc k ∧ mu[k]? = some (.ins (Str.ofString n) [(Str.ofString "parts", .d row)])
def rowCls : List String := ["Row", "Bare", "Def", "Give", "While", "Fail", "Set", "New", "Put", "Do", "Get", "Call"]
@[simp] def p_Row_init : W → W → Sto → (W → Sto → Prop) → Prop := fun a b mu Q => ∃ k n row, a = .loc k ∧ b = .d row ∧ n ∈ rowCls ∧ mu[k]? = some (.ins (Str.ofString n) []) ∧ Q (.d .non) (mu.set k (.ins (Str.ofString n) [(Str.ofString "parts", .d row)]))
def w_Row_init : WS := (wFldS cn_parts "parts" (wVar 0) (wVar 1))
@[simp] def sp_Row_init : VSp := sS2 p_Row_init
theorem v_Row_init : ∀ a b mu Q, p_Row_init a b mu Q → w_Row_init (evr Q) (startE ["self", "parts"] [a, b]) mu := by
  intro a b mu Q h
  obtain ⟨k, n, row, rfl, rfl, hn, hk, h⟩ := h
  simp [rowCls] at hn
  simp [w_Row_init, hk, hn]
  exact h
/-- a method of a row that tells of its parts -/
def sayD (ok : List D → D) (cls : List String) : W → Sto → (W → Sto → Prop) → Prop := fun a mu Q => ∃ n xs, n ∈ cls ∧ selfAt mu a n (.tup xs) ∧ plainDs xs ∧ xs.length < 64 ∧ (∀ x ∈ xs, ∀ ys, x = .tup ys → plainDs ys ∧ ys.length < 64) ∧ Q (.d (ok xs)) mu
@[simp] def p_Row_is_right : W → Sto → (W → Sto → Prop) → Prop := sayD (fun _ => .bl false) ["Row"]
def w_Row_is_right : WS := (wRet (wC (.bl false)))
@[simp] def sp_Row_is_right : VSp := sS1 p_Row_is_right
theorem v_Row_is_right : ∀ a mu Q, p_Row_is_right a mu Q → w_Row_is_right (evr Q) (startE ["self"] [a]) mu := by
  intro a mu Q h
  obtain ⟨n, xs, hn, ⟨k, rfl, hk⟩, hp, hl, ht, h⟩ := h
  simpa [w_Row_is_right] using h
def okBare (xs : List D) : Bool := ((xs.length : Int) == 1)
@[simp] def p_Bare_is_right : W → Sto → (W → Sto → Prop) → Prop := sayD (fun xs => .bl (okBare xs)) ["Bare"]
def w_Bare_is_right : WS := (wRet (wOp (fEq false) (wCall fLen (wCons (wFld cn_parts "parts" (wVar 0)) wNil)) (wC (.int 1))))
@[simp] def sp_Bare_is_right : VSp := sS1 p_Bare_is_right
theorem v_Bare_is_right : ∀ a mu Q, p_Bare_is_right a mu Q → w_Bare_is_right (evr Q) (startE ["self"] [a]) mu := by
  intro a mu Q h
  obtain ⟨n, xs, hn, ⟨k, rfl, hk⟩, hp, hl, ht, h⟩ := h
  simp at hn
  subst hn
  simp [w_Bare_is_right, hk]
  exact h
def okDef : List D → Bool
  | [_, n, .tup ys] => nameD n && (allOpD (.tup ys) && (((setS (namesOf ys)).length : Int) == (ys.length : Int)))
  | _ => false
@[simp] def p_Def_is_right : W → Sto → (W → Sto → Prop) → Prop := sayD (fun xs => .bl (okDef xs)) ["Def"]
def w_Def_is_right : WS := (wSeq (wIfS (wOr (wTest (wOp (fEq true) (wCall fLen (wCons (wFld cn_parts "parts" (wVar 0)) wNil)) (wC (.int 3)))) (wOr (wNot (wTru (wCallP false sp_is_name [] (wCons (wOp fIx (wFld cn_parts "parts" (wVar 0)) (wC (.int 1))) wNil)))) (wNot (wTru (wCallP false sp_all_operands [] (wCons (wOp fIx (wFld cn_parts "parts" (wVar 0)) (wC (.int 2))) wNil)))))) (wRet (wC (.bl false))) wNext)
    (wSeq (wAsg (wCallP false sp_names_among [] (wCons (wOp fIx (wFld cn_parts "parts" (wVar 0)) (wC (.int 2))) wNil)) (wgName 1))
    (wRet (wOp (fEq false) (wCall fLen (wCons (wVar 1) wNil)) (wCall fLen (wCons (wOp fIx (wFld cn_parts "parts" (wVar 0)) (wC (.int 2))) wNil))))))
@[simp] def sp_Def_is_right : VSp := sS1 p_Def_is_right
theorem v_Def_is_right : ∀ a mu Q, p_Def_is_right a mu Q → w_Def_is_right (evr Q) (startE ["self", "names"] [a]) mu := by
  intro a mu Q h
  obtain ⟨n, xs, hn, ⟨k, rfl, hk⟩, hp, hl, ht, h⟩ := h
  simp at hn
  subst hn
  match xs, hp, hl, ht, h with
  | [], hp, hl, ht, h => simp [w_Def_is_right, hk]; simpa [okDef] using h
  | [_], hp, hl, ht, h => simp [w_Def_is_right, hk]; simpa [okDef] using h
  | [_, _], hp, hl, ht, h => simp [w_Def_is_right, hk]; simpa [okDef] using h
  | _ :: _ :: _ :: _ :: _, hp, hl, ht, h =>
    simp [w_Def_is_right, hk]
    rw [if_neg (by omega)]
    simpa [okDef] using h
  | [w, n, p], hp, hl, ht, h =>
    have pn := hp n (by simp)
    have pp := hp p (by simp)
    simp [w_Def_is_right, hk, pn, pp]
    refine ite_of (fun c1 => ⟨fun ys e => (ht p (by simp) ys e).1, ite_of (fun c2 => ?_) (fun c2 => ?_)⟩) (fun c1 => ?_)
    · cases p with
      | tup ys =>
        obtain ⟨q1, q2⟩ := ht (.tup ys) (by simp) ys rfl
        refine ⟨q1, q2, ?_⟩
        simpa [okDef, c1, c2] using h
      | _ => simp [allOpD] at c2
    · cases p <;> simp [okDef, c2] at h ⊢ <;> exact h
    · cases p <;> simp [okDef, c1] at h ⊢ <;> exact h
def okGive : List D → Bool
  | [_, x] => operD x
  | _ => false
@[simp] def p_Give_is_right : W → Sto → (W → Sto → Prop) → Prop := sayD (fun xs => .bl (okGive xs)) ["Give", "While"]
def w_Give_is_right : WS := (wRet (wAndV (wOp (fEq false) (wCall fLen (wCons (wFld cn_parts "parts" (wVar 0)) wNil)) (wC (.int 2))) (wCallP false sp_is_operand [] (wCons (wOp fIx (wFld cn_parts "parts" (wVar 0)) (wC (.int 1))) wNil))))
@[simp] def sp_Give_is_right : VSp := sS1 p_Give_is_right
theorem v_Give_is_right : ∀ a mu Q, p_Give_is_right a mu Q → w_Give_is_right (evr Q) (startE ["self"] [a]) mu := by
  intro a mu Q h
  obtain ⟨n, xs, hn, ⟨k, rfl, hk⟩, hp, hl, ht, h⟩ := h
  simp at hn
  have hc : Str.ofString n = Str.ofString "Give" ∨ Str.ofString n = Str.ofString "While" := hn.imp (fun e => by rw [e]) (fun e => by rw [e])
  match xs, hp, hl, ht, h with
  | [], hp, hl, ht, h => rcases hn with rfl | rfl <;> simp [w_Give_is_right, hk, onBl] <;> simpa [okGive] using h
  | [_], hp, hl, ht, h => rcases hn with rfl | rfl <;> simp [w_Give_is_right, hk, onBl] <;> simpa [okGive] using h
  | _ :: _ :: _ :: r, hp, hl, ht, h =>
    have e : ((r.length : Int) + 1 + 1 + 1 == 2) = false := by simp; omega
    rcases hn with rfl | rfl <;> simp [w_Give_is_right, hk, e, onBl] <;> simpa [okGive] using h
  | [w, x], hp, hl, ht, h =>
    have px := hp x (by simp)
    rcases hn with rfl | rfl <;> simp [w_Give_is_right, hk, px, onBl] <;> simpa [okGive] using h
def okName : List D → Bool
  | [_, x] => nameD x
  | _ => false
@[simp] def p_Fail_is_right : W → Sto → (W → Sto → Prop) → Prop := sayD (fun xs => .bl (okName xs)) ["Fail"]
def w_Fail_is_right : WS := (wRet (wAndV (wOp (fEq false) (wCall fLen (wCons (wFld cn_parts "parts" (wVar 0)) wNil)) (wC (.int 2))) (wCallP false sp_is_name [] (wCons (wOp fIx (wFld cn_parts "parts" (wVar 0)) (wC (.int 1))) wNil))))
@[simp] def sp_Fail_is_right : VSp := sS1 p_Fail_is_right
theorem v_Fail_is_right : ∀ a mu Q, p_Fail_is_right a mu Q → w_Fail_is_right (evr Q) (startE ["self"] [a]) mu := by
  intro a mu Q h
  obtain ⟨n, xs, hn, ⟨k, rfl, hk⟩, hp, hl, ht, h⟩ := h
  simp at hn
  subst hn
  match xs, hp, hl, ht, h with
  | [], hp, hl, ht, h => simp [w_Fail_is_right, hk, onBl]; simpa [okName] using h
  | [_], hp, hl, ht, h => simp [w_Fail_is_right, hk, onBl]; simpa [okName] using h
  | _ :: _ :: _ :: r, hp, hl, ht, h =>
    have e : ((r.length : Int) + 1 + 1 + 1 == 2) = false := by simp; omega
    simp [w_Fail_is_right, hk, e, onBl]; simpa [okName] using h
  | [w, x], hp, hl, ht, h =>
    have px := hp x (by simp)
    simp [w_Fail_is_right, hk, px, onBl]; simpa [okName] using h
@[simp] def p_New_is_right : W → Sto → (W → Sto → Prop) → Prop := sayD (fun xs => .bl (okName xs)) ["New"]
def w_New_is_right : WS := (wRet (wAndV (wOp (fEq false) (wCall fLen (wCons (wFld cn_parts "parts" (wVar 0)) wNil)) (wC (.int 2))) (wCallP false sp_is_name [] (wCons (wOp fIx (wFld cn_parts "parts" (wVar 0)) (wC (.int 1))) wNil))))
@[simp] def sp_New_is_right : VSp := sS1 p_New_is_right
theorem v_New_is_right : ∀ a mu Q, p_New_is_right a mu Q → w_New_is_right (evr Q) (startE ["self"] [a]) mu := by
  intro a mu Q h
  obtain ⟨n, xs, hn, ⟨k, rfl, hk⟩, hp, hl, ht, h⟩ := h
  simp at hn
  subst hn
  match xs, hp, hl, ht, h with
  | [], hp, hl, ht, h => simp [w_New_is_right, hk, onBl]; simpa [okName] using h
  | [_], hp, hl, ht, h => simp [w_New_is_right, hk, onBl]; simpa [okName] using h
  | _ :: _ :: _ :: r, hp, hl, ht, h =>
    have e : ((r.length : Int) + 1 + 1 + 1 == 2) = false := by simp; omega
    simp [w_New_is_right, hk, e, onBl]; simpa [okName] using h
  | [w, x], hp, hl, ht, h =>
    have px := hp x (by simp)
    simp [w_New_is_right, hk, px, onBl]; simpa [okName] using h
def okPut : List D → Bool
  | [_, n, x] => nameD n && operD x
  | _ => false
@[simp] def p_Put_is_right : W → Sto → (W → Sto → Prop) → Prop := sayD (fun xs => .bl (okPut xs)) ["Put"]
def w_Put_is_right : WS := (wRet (wAndV (wOp (fEq false) (wCall fLen (wCons (wFld cn_parts "parts" (wVar 0)) wNil)) (wC (.int 3))) (wAndV (wCallP false sp_is_name [] (wCons (wOp fIx (wFld cn_parts "parts" (wVar 0)) (wC (.int 1))) wNil)) (wCallP false sp_is_operand [] (wCons (wOp fIx (wFld cn_parts "parts" (wVar 0)) (wC (.int 2))) wNil)))))
@[simp] def sp_Put_is_right : VSp := sS1 p_Put_is_right
theorem v_Put_is_right : ∀ a mu Q, p_Put_is_right a mu Q → w_Put_is_right (evr Q) (startE ["self"] [a]) mu := by
  intro a mu Q h
  obtain ⟨n, xs, hn, ⟨k, rfl, hk⟩, hp, hl, ht, h⟩ := h
  simp at hn
  subst hn
  match xs, hp, hl, ht, h with
  | [], hp, hl, ht, h => simp [w_Put_is_right, hk, onBl]; simpa [okPut] using h
  | [_], hp, hl, ht, h => simp [w_Put_is_right, hk, onBl]; simpa [okPut] using h
  | [_, _], hp, hl, ht, h => simp [w_Put_is_right, hk, onBl]; simpa [okPut] using h
  | _ :: _ :: _ :: _ :: r, hp, hl, ht, h =>
    have e : ((r.length : Int) + 1 + 1 + 1 + 1 == 3) = false := by simp; omega
    simp [w_Put_is_right, hk, e, onBl]; simpa [okPut] using h
  | [w, n, x], hp, hl, ht, h =>
    have pn := hp n (by simp)
    have px := hp x (by simp)
    cases c : nameD n <;> simp [w_Put_is_right, hk, pn, px, c, onBl] <;> simpa [okPut, c] using h
def okSet : List D → Bool
  | [_, n, k, x] => nameD n && ((fieldD k || operD k) && operD x)
  | _ => false
@[simp] def p_Set_is_right : W → Sto → (W → Sto → Prop) → Prop := sayD (fun xs => .bl (okSet xs)) ["Set"]
def w_Set_is_right : WS := (wSeq (wIfS (wOr (wTest (wOp (fEq true) (wCall fLen (wCons (wFld cn_parts "parts" (wVar 0)) wNil)) (wC (.int 4)))) (wNot (wTru (wCallP false sp_is_name [] (wCons (wOp fIx (wFld cn_parts "parts" (wVar 0)) (wC (.int 1))) wNil))))) (wRet (wC (.bl false))) wNext)
    (wRet (wAndV (wOrV (wCallP false sp_is_field [] (wCons (wOp fIx (wFld cn_parts "parts" (wVar 0)) (wC (.int 2))) wNil)) (wCallP false sp_is_operand [] (wCons (wOp fIx (wFld cn_parts "parts" (wVar 0)) (wC (.int 2))) wNil))) (wCallP false sp_is_operand [] (wCons (wOp fIx (wFld cn_parts "parts" (wVar 0)) (wC (.int 3))) wNil)))))
@[simp] def sp_Set_is_right : VSp := sS1 p_Set_is_right
theorem v_Set_is_right : ∀ a mu Q, p_Set_is_right a mu Q → w_Set_is_right (evr Q) (startE ["self"] [a]) mu := by
  intro a mu Q h
  obtain ⟨n, xs, hn, ⟨k, rfl, hk⟩, hp, hl, ht, h⟩ := h
  simp at hn
  subst hn
  match xs, hp, hl, ht, h with
  | [], hp, hl, ht, h => simp [w_Set_is_right, hk]; simpa [okSet] using h
  | [_], hp, hl, ht, h => simp [w_Set_is_right, hk]; simpa [okSet] using h
  | [_, _], hp, hl, ht, h => simp [w_Set_is_right, hk]; simpa [okSet] using h
  | [_, _, _], hp, hl, ht, h => simp [w_Set_is_right, hk]; simpa [okSet] using h
  | _ :: _ :: _ :: _ :: _ :: r, hp, hl, ht, h =>
    simp [w_Set_is_right, hk]
    rw [if_neg (by omega)]
    simpa [okSet] using h
  | [w, n, kk, x], hp, hl, ht, h =>
    have pn := hp n (by simp)
    have pk := hp kk (by simp)
    have px := hp x (by simp)
    cases c : nameD n <;> cases c2 : fieldD kk <;> cases c3 : operD kk <;> simp [w_Set_is_right, hk, pn, pk, px, c, c2, c3, onBl] <;> simpa [okSet, c, c2, c3] using h
def reckW (x : D) : Bool := inD x [.str (Str.ofString "plus"), .str (Str.ofString "minus"), .str (Str.ofString "times"), .str (Str.ofString "over"), .str (Str.ofString "rest"), .str (Str.ofString "less"), .str (Str.ofString "same")]
def okDo : List D → Bool
  | [_, n, a, o, b] => nameD n && (reckW o && (operD a && operD b))
  | _ => false
theorem at_c4 {A1 : Type} (x y z u v : A1) (xs : List A1) : atI (x :: y :: z :: u :: v :: xs) 4 = some v := by
  rw [at_nat (by omega) (by simp; omega)]; rfl
@[simp] def p_Do_is_right : W → Sto → (W → Sto → Prop) → Prop := fun a mu Q => ∃ n xs, n ∈ ["Do"] ∧ selfAt mu a n (.tup xs) ∧ plainDs xs ∧ xs.length < 64 ∧ (∀ x ∈ xs, ∀ ys, x = .tup ys → plainDs ys ∧ ys.length < 64) ∧ (∀ o, xs[3]? = some o → flatD o = true) ∧ Q (.d (.bl (okDo xs))) mu
def w_Do_is_right : WS := (wSeq (wIfS (wOr (wTest (wOp (fEq true) (wCall fLen (wCons (wFld cn_parts "parts" (wVar 0)) wNil)) (wC (.int 5)))) (wOr (wNot (wTru (wCallP false sp_is_name [] (wCons (wOp fIx (wFld cn_parts "parts" (wVar 0)) (wC (.int 1))) wNil)))) (wTest (wOp (fInT true) (wOp fIx (wFld cn_parts "parts" (wVar 0)) (wC (.int 3))) (wC k_RECKONING))))) (wRet (wC (.bl false))) wNext)
    (wRet (wAndV (wCallP false sp_is_operand [] (wCons (wOp fIx (wFld cn_parts "parts" (wVar 0)) (wC (.int 2))) wNil)) (wCallP false sp_is_operand [] (wCons (wOp fIx (wFld cn_parts "parts" (wVar 0)) (wC (.int 4))) wNil)))))
@[simp] def sp_Do_is_right : VSp := sS1 p_Do_is_right
theorem v_Do_is_right : ∀ a mu Q, p_Do_is_right a mu Q → w_Do_is_right (evr Q) (startE ["self"] [a]) mu := by
  intro a mu Q h
  obtain ⟨n, xs, hn, ⟨k, rfl, hk⟩, hp, hl, ht, hf, h⟩ := h
  simp at hn
  subst hn
  match xs, hp, hl, ht, hf, h with
  | [], hp, hl, ht, hf, h => simp [w_Do_is_right, hk]; simpa [okDo] using h
  | [_], hp, hl, ht, hf, h => simp [w_Do_is_right, hk]; simpa [okDo] using h
  | [_, _], hp, hl, ht, hf, h => simp [w_Do_is_right, hk]; simpa [okDo] using h
  | [_, _, _], hp, hl, ht, hf, h => simp [w_Do_is_right, hk]; simpa [okDo] using h
  | [_, _, _, _], hp, hl, ht, hf, h => simp [w_Do_is_right, hk]; simpa [okDo] using h
  | _ :: _ :: _ :: _ :: _ :: _ :: r, hp, hl, ht, hf, h =>
    simp [w_Do_is_right, hk]
    rw [if_neg (by omega)]
    simpa [okDo] using h
  | [w, n, x, o, z], hp, hl, ht, hf, h =>
    have pn := hp n (by simp)
    have px := hp x (by simp)
    have po := hp o (by simp)
    have pz := hp z (by simp)
    have fo : flatD o = true := hf o rfl
    cases c : nameD n
    · simp [w_Do_is_right, hk, pn, c]
      simpa [okDo, c] using h
    · simp [w_Do_is_right, hk, pn, c, at_c4, pz]
      refine ⟨by simpa [flatD] using fo, ite_of (fun c1 => ?_) (fun c1 => ⟨px, ite_of (fun c2 => ?_) (fun c2 => ?_)⟩)⟩
      · have : reckW o = false := by simp [reckW, c1]
        simpa [okDo, c, this] using h
      · have : reckW o = true := by
          cases q : reckW o with
          | true => rfl
          | false => exact absurd (by simpa [reckW, and_assoc] using q) c1
        simpa [okDo, c, this, c2] using h
      · have : reckW o = true := by
          cases q : reckW o with
          | true => rfl
          | false => exact absurd (by simpa [reckW, and_assoc] using q) c1
        simpa [okDo, c, this, c2] using h
def okGet : List D → Bool
  | [_, n, r, k] => nameD n && (nameD r && (fieldD k || operD k))
  | _ => false
@[simp] def p_Get_is_right : W → Sto → (W → Sto → Prop) → Prop := sayD (fun xs => .bl (okGet xs)) ["Get"]
def w_Get_is_right : WS := (wSeq (wIfS (wOr (wTest (wOp (fEq true) (wCall fLen (wCons (wFld cn_parts "parts" (wVar 0)) wNil)) (wC (.int 4)))) (wOr (wNot (wTru (wCallP false sp_is_name [] (wCons (wOp fIx (wFld cn_parts "parts" (wVar 0)) (wC (.int 1))) wNil)))) (wNot (wTru (wCallP false sp_is_name [] (wCons (wOp fIx (wFld cn_parts "parts" (wVar 0)) (wC (.int 2))) wNil)))))) (wRet (wC (.bl false))) wNext)
    (wRet (wOrV (wCallP false sp_is_field [] (wCons (wOp fIx (wFld cn_parts "parts" (wVar 0)) (wC (.int 3))) wNil)) (wCallP false sp_is_operand [] (wCons (wOp fIx (wFld cn_parts "parts" (wVar 0)) (wC (.int 3))) wNil)))))
@[simp] def sp_Get_is_right : VSp := sS1 p_Get_is_right
theorem v_Get_is_right : ∀ a mu Q, p_Get_is_right a mu Q → w_Get_is_right (evr Q) (startE ["self"] [a]) mu := by
  intro a mu Q h
  obtain ⟨n, xs, hn, ⟨k, rfl, hk⟩, hp, hl, ht, h⟩ := h
  simp at hn
  subst hn
  match xs, hp, hl, ht, h with
  | [], hp, hl, ht, h => simp [w_Get_is_right, hk]; simpa [okGet] using h
  | [_], hp, hl, ht, h => simp [w_Get_is_right, hk]; simpa [okGet] using h
  | [_, _], hp, hl, ht, h => simp [w_Get_is_right, hk]; simpa [okGet] using h
  | [_, _, _], hp, hl, ht, h => simp [w_Get_is_right, hk]; simpa [okGet] using h
  | _ :: _ :: _ :: _ :: _ :: r, hp, hl, ht, h =>
    simp [w_Get_is_right, hk]
    rw [if_neg (by omega)]
    simpa [okGet] using h
  | [w, n, r, kk], hp, hl, ht, h =>
    have pn := hp n (by simp)
    have pk := hp kk (by simp)
    have pr := hp r (by simp)
    cases c : nameD n <;> cases c2 : fieldD kk <;> cases c3 : nameD r <;> simp [w_Get_is_right, hk, pn, pk, pr, c, c2, c3, onBl] <;> simpa [okGet, c, c2, c3] using h
def okCall : List D → Bool
  | [_, n, f, ops] => nameD n && (nameD f && allOpD ops)
  | _ => false
@[simp] def p_Call_is_right : W → Sto → (W → Sto → Prop) → Prop := sayD (fun xs => .bl (okCall xs)) ["Call"]
def w_Call_is_right : WS := (wSeq (wIfS (wOr (wTest (wOp (fEq true) (wCall fLen (wCons (wFld cn_parts "parts" (wVar 0)) wNil)) (wC (.int 4)))) (wOr (wNot (wTru (wCallP false sp_is_name [] (wCons (wOp fIx (wFld cn_parts "parts" (wVar 0)) (wC (.int 1))) wNil)))) (wNot (wTru (wCallP false sp_is_name [] (wCons (wOp fIx (wFld cn_parts "parts" (wVar 0)) (wC (.int 2))) wNil)))))) (wRet (wC (.bl false))) wNext)
    (wRet (wCallP true sp_all_operands [] (wCons (wOp fIx (wFld cn_parts "parts" (wVar 0)) (wC (.int 3))) wNil))))
@[simp] def sp_Call_is_right : VSp := sS1 p_Call_is_right
theorem v_Call_is_right : ∀ a mu Q, p_Call_is_right a mu Q → w_Call_is_right (evr Q) (startE ["self"] [a]) mu := by
  intro a mu Q h
  obtain ⟨n, xs, hn, ⟨k, rfl, hk⟩, hp, hl, ht, h⟩ := h
  simp at hn
  subst hn
  match xs, hp, hl, ht, h with
  | [], hp, hl, ht, h => simp [w_Call_is_right, hk]; simpa [okCall] using h
  | [_], hp, hl, ht, h => simp [w_Call_is_right, hk]; simpa [okCall] using h
  | [_, _], hp, hl, ht, h => simp [w_Call_is_right, hk]; simpa [okCall] using h
  | [_, _, _], hp, hl, ht, h => simp [w_Call_is_right, hk]; simpa [okCall] using h
  | _ :: _ :: _ :: _ :: _ :: r, hp, hl, ht, h =>
    simp [w_Call_is_right, hk]
    rw [if_neg (by omega)]
    simpa [okCall] using h
  | [w, n, f, ops], hp, hl, ht, h =>
    have pn := hp n (by simp)
    have pk := hp ops (by simp)
    have pr := hp f (by simp)
    have po : ∀ xs, ops = .tup xs → plainDs xs := fun xs e => (ht ops (by simp) xs e).1
    cases c : nameD n <;> cases c3 : nameD f <;> simp [w_Call_is_right, hk, pn, pk, pr, c, c3, onBl] <;> first | exact ⟨po, by simpa [okCall, c, c3] using h⟩ | simpa [okCall, c, c3] using h
/-- the class of a word -/
def clsOf (w : Str) : String :=
  if w = Str.ofString "def" then "Def" else if w = Str.ofString "give" ∨ w = Str.ofString "if" then "Give" else if w = Str.ofString "put" then "Put" else if w = Str.ofString "do" then "Do" else if w = Str.ofString "new" then "New"
  else if w = Str.ofString "get" then "Get" else if w = Str.ofString "set" then "Set" else if w = Str.ofString "call" then "Call" else if w = Str.ofString "fail" then "Fail" else if w = Str.ofString "while" then "While"
  else if w = Str.ofString "else" ∨ w = Str.ofString "end" ∨ w = Str.ofString "skip" then "Bare" else "Row"
theorem clsOf_in (w : Str) : clsOf w ∈ rowCls := by
  unfold clsOf
  repeat (first | (split; · simp [rowCls]) | simp [rowCls])
@[simp] def p_row_of : W → Sto → (W → Sto → Prop) → Prop := fun a mu Q => ∃ w ps, a = .d (.tup (.str w :: ps)) ∧ Q (.loc mu.length) (mu ++ [.ins (Str.ofString (clsOf w)) [(Str.ofString "parts", .d (.tup (.str w :: ps)))]])
def w_row_of : WS := (wSeq (wAsg (wOp fIx (wVar 0) (wC (.int 0))) (wgName 1))
    (wSeq (wIfS (wTest (wOp (fEq false) (wVar 1) (wC (.str "def")))) (wRet (wMake "Def" sp_Row_init (wCons (wVar 0) wNil))) wNext)
    (wSeq (wIfS (wOr (wTest (wOp (fEq false) (wVar 1) (wC (.str "give")))) (wTest (wOp (fEq false) (wVar 1) (wC (.str "if"))))) (wRet (wMake "Give" sp_Row_init (wCons (wVar 0) wNil))) wNext)
    (wSeq (wIfS (wTest (wOp (fEq false) (wVar 1) (wC (.str "put")))) (wRet (wMake "Put" sp_Row_init (wCons (wVar 0) wNil))) wNext)
    (wSeq (wIfS (wTest (wOp (fEq false) (wVar 1) (wC (.str "do")))) (wRet (wMake "Do" sp_Row_init (wCons (wVar 0) wNil))) wNext)
    (wSeq (wIfS (wTest (wOp (fEq false) (wVar 1) (wC (.str "new")))) (wRet (wMake "New" sp_Row_init (wCons (wVar 0) wNil))) wNext)
    (wSeq (wIfS (wTest (wOp (fEq false) (wVar 1) (wC (.str "get")))) (wRet (wMake "Get" sp_Row_init (wCons (wVar 0) wNil))) wNext)
    (wSeq (wIfS (wTest (wOp (fEq false) (wVar 1) (wC (.str "set")))) (wRet (wMake "Set" sp_Row_init (wCons (wVar 0) wNil))) wNext)
    (wSeq (wIfS (wTest (wOp (fEq false) (wVar 1) (wC (.str "call")))) (wRet (wMake "Call" sp_Row_init (wCons (wVar 0) wNil))) wNext)
    (wSeq (wIfS (wTest (wOp (fEq false) (wVar 1) (wC (.str "fail")))) (wRet (wMake "Fail" sp_Row_init (wCons (wVar 0) wNil))) wNext)
    (wSeq (wIfS (wTest (wOp (fEq false) (wVar 1) (wC (.str "while")))) (wRet (wMake "While" sp_Row_init (wCons (wVar 0) wNil))) wNext)
    (wSeq (wIfS (wOr (wTest (wOp (fEq false) (wVar 1) (wC (.str "else")))) (wOr (wTest (wOp (fEq false) (wVar 1) (wC (.str "end")))) (wTest (wOp (fEq false) (wVar 1) (wC (.str "skip")))))) (wRet (wMake "Bare" sp_Row_init (wCons (wVar 0) wNil))) wNext)
    (wRet (wMake "Row" sp_Row_init (wCons (wVar 0) wNil)))))))))))))))
@[simp] def sp_row_of : VSp := sS1 p_row_of
theorem v_row_of : ∀ a mu Q, p_row_of a mu Q → w_row_of (evr Q) (startE ["parts", "word"] [a]) mu := by
  intro a mu Q h
  obtain ⟨w, ps, rfl, h⟩ := h
  simp [w_row_of]
  repeat' refine ite_of (fun c => ?_) (fun c => ?_)
  all_goals
    refine ⟨clsOf w, clsOf_in w, ?_, h⟩
    simp [clsOf, *]
def tab_is_right : MTab := [("Row", sp_Row_is_right), ("Bare", sp_Bare_is_right), ("Def", sp_Def_is_right), ("Give", sp_Give_is_right), ("While", sp_Give_is_right), ("Fail", sp_Fail_is_right), ("Set", sp_Set_is_right), ("New", sp_New_is_right), ("Put", sp_Put_is_right), ("Do", sp_Do_is_right), ("Get", sp_Get_is_right), ("Call", sp_Call_is_right)]
/-- whether parts are a row -/
def rowOk (xs : List D) : Bool := match xs with
  | .str w :: _ =>
    let c := clsOf w
    if c = "Bare" then okBare xs else if c = "Def" then okDef xs else if c = "Give" ∨ c = "While" then okGive xs else if c = "Fail" ∨ c = "New" then okName xs else if c = "Set" then okSet xs
    else if c = "Put" then okPut xs else if c = "Do" then okDo xs else if c = "Get" then okGet xs else if c = "Call" then okCall xs else false
  | _ => false
/-- parts as one may ask of them -/
structure RowIn (w : Str) (ps : List D) : Prop where
  pl : plainDs ps
  few : ps.length < 60
  inn : ∀ x ∈ ps, ∀ ys, x = .tup ys → plainDs ys ∧ ys.length < 64
  fl : ∀ o, w = Str.ofString "do" → ps[2]? = some o → flatD o = true
@[simp] def p_is_row : D → (W → Sto → Prop) → Prop := fun a Q => ∃ w ps, a = .tup (.str w :: ps) ∧ RowIn w ps ∧ ∀ mu, Q (.d (.bl (rowOk (.str w :: ps)))) mu
def w_is_row : WS := (wRet (wMeth tab_is_right "is_right" (wCallS sp_row_of [] (wCons (wVar 0) wNil)) wNil))
@[simp] def sp_is_row : PSp := sp1 p_is_row
theorem v_is_row : ∀ a Q, p_is_row a Q → w_is_row (evr Q) (startE ["row"] [.d a]) [] := by
  intro a Q h
  obtain ⟨w, ps, rfl, hi, h⟩ := h
  have hp : plainDs (.str w :: ps) := fun x hx => by
    rcases List.mem_cons.mp hx with rfl | hx
    · trivial
    · exact hi.pl x hx
  have hl : (D.str w :: ps).length < 64 := by have := hi.few; simp; omega
  have ht : ∀ x ∈ (D.str w :: ps), ∀ ys, x = .tup ys → plainDs ys ∧ ys.length < 64 := fun x hx ys e => by
    rcases List.mem_cons.mp hx with rfl | hx
    · cases e
    · exact hi.inn x hx ys e
  have hc := clsOf_in w
  have hd : clsOf w = "Do" → w = Str.ofString "do" := fun e => by
    unfold clsOf at e
    by_cases q : w = Str.ofString "do"
    · exact q
    · exfalso
      rw [if_neg q] at e
      revert e
      repeat (first | (split; · simp) | simp)
  have h' := h [.ins (Str.ofString (clsOf w)) [(Str.ofString "parts", .d (.tup (.str w :: ps)))]]
  have sa : ∀ n, clsOf w = n → selfAt [.ins (Str.ofString (clsOf w)) [(Str.ofString "parts", .d (.tup (.str w :: ps)))]] (.loc 0) n (.tup (.str w :: ps)) := fun n e => ⟨0, rfl, by simp [e]⟩
  simp [rowCls] at hc
  simp [w_is_row, tab_is_right]
  refine ⟨w, ps, ⟨rfl, rfl⟩, ?_⟩
  rcases hc with e | e | e | e | e | e | e | e | e | e | e | e
  all_goals
    simp [e]
    simp only [rowOk, e] at h'
    rw [e] at sa
    first
      | exact ⟨_, _, by simp, sa _ rfl, hp, hl, ht, fun o ho => hi.fl o (hd e) (by simpa using ho), by simpa using h'⟩
      | exact ⟨_, _, by simp, sa _ rfl, hp, hl, ht, by simpa using h'⟩
end VL
namespace VL
open PySem PySem.Spec PyProof.Rows L2 RZ
def optD : Option Nat → D
  | none => .non
  | some k => .int (k : Nat)
/-- what shape knows -/
structure ShS where
  heads : List (Option Nat)
  ends : List (Option Nat)
  elses : List (Option Nat)
  homes : List (Option Nat)
  stack : List Nat
def ShS.start (n : Nat) : ShS := ⟨List.replicate n none, List.replicate n none, List.replicate n none, List.replicate n none, []⟩
/-- the five things that shape does with the row at place k, of the word w -/
def topS (k : Nat) (s : ShS) : ShS := match s.stack.getLast?, s.stack.head? with
  | some j, some i => { s with heads := s.heads.set k (some j), homes := s.homes.set k (some i) }
  | _, _ => s
def elseS (k : Nat) (w : Str) (s : ShS) : Option ShS := if w = Str.ofString "else" then (match s.stack.getLast? with
    | some j => some { s with elses := s.elses.set j (some k) }
    | none => none) else some s
def footS (k : Nat) (w : Str) (s : ShS) : Option ShS := if w = Str.ofString "give" ∨ w = Str.ofString "end" then (match s.stack.getLast? with
    | some j => some { s with ends := s.ends.set j (some k), stack := s.stack.dropLast }
    | none => none) else some s
def pushS (k : Nat) (w : Str) (s : ShS) : ShS := if w = Str.ofString "def" ∨ w = Str.ofString "if" ∨ w = Str.ofString "while" then { s with stack := s.stack ++ [k] } else s
def wordR : D → Option Str
  | .tup (.str w :: _) => some w
  | _ => none
structure ShOk (n k : Nat) (s : ShS) : Prop where
  l1 : s.heads.length = n
  l2 : s.ends.length = n
  l3 : s.elses.length = n
  l4 : s.homes.length = n
  st : ∀ j ∈ s.stack, j < k
  sl : s.stack.length ≤ k
theorem ShOk.top {n k : Nat} {s : ShS} (h : ShOk n k s) : ShOk n k (topS k s) := by
  unfold topS
  split
  · exact ⟨by simp [h.l1], h.l2, h.l3, by simp [h.l4], h.st, h.sl⟩
  · exact h
theorem ShOk.els {n k : Nat} {w : Str} {s s' : ShS} (h : ShOk n k s) (e : elseS k w s = some s') : ShOk n k s' := by
  unfold elseS at e
  split at e
  · split at e
    · injection e with e; subst e; exact ⟨h.l1, h.l2, by simp [h.l3], h.l4, h.st, h.sl⟩
    · cases e
  · injection e with e; subst e; exact h
theorem ShOk.foot {n k : Nat} {w : Str} {s s' : ShS} (h : ShOk n k s) (e : footS k w s = some s') : ShOk n k s' := by
  unfold footS at e
  split at e
  · split at e
    · injection e with e; subst e
      exact ⟨h.l1, by simp [h.l2], h.l3, h.l4, fun j hj => h.st j (List.dropLast_subset _ hj), by have := h.sl; simp; omega⟩
    · cases e
  · injection e with e; subst e; exact h
theorem ShOk.push {n k : Nat} {w : Str} {s : ShS} (h : ShOk n k s) : ShOk n (k + 1) (pushS k w s) := by
  unfold pushS
  split
  · refine ⟨h.l1, h.l2, h.l3, h.l4, fun j hj => ?_, by have := h.sl; simp; omega⟩
    rcases List.mem_append.mp hj with hj | hj
    · have := h.st j hj; omega
    · have := List.mem_singleton.mp hj; omega
  · exact ⟨h.l1, h.l2, h.l3, h.l4, fun j hj => by have := h.st j hj; omega, by have := h.sl; omega⟩
theorem at_lastS {A1 : Type} (xs : List A1) (x : A1) : atI (xs ++ [x]) (-1) = some x := by
  unfold atI ixN
  rw [if_neg (by omega), if_pos (by simp; omega)]
  show (xs ++ [x])[_]? = _
  have : ((-1 : Int) + ((xs ++ [x]).length : Nat)).toNat = xs.length := by simp; omega
  rw [this]; simp
end VL
namespace VL
open PySem PySem.Spec PyProof.Rows L2 RZ
/-! ### blocks -/
def fitsB (w : Str) (st : List Str) : Bool := match st.getLast? with
  | none => decide (w = Str.ofString "def") || decide (w = Str.ofString "skip")
  | some z => if w = Str.ofString "def" then false else if w = Str.ofString "give" then z == Str.ofString "def" else if w = Str.ofString "else" then z == Str.ofString "if" else if w = Str.ofString "end" then !(z == Str.ofString "def") else true
@[simp] def p_word_fits : D → D → (W → Sto → Prop) → Prop := fun a b Q => match a, b with
  | .str w, .lst ds => ∃ st : List Str, ds = st.map D.str ∧ Q (.d (.bl (fitsB w st))) []
  | _, _ => False
theorem strs_dep0 (ws : List Str) : ddeps (ws.map D.str) = 0 := Nat.le_zero.mp (ddeps_le fun y hy => by
  obtain ⟨z, _, rfl⟩ := List.mem_map.mp hy; simp)
def w_word_fits : WS := (wSeq (wIfS (wTest (wOp (fEq false) (wVar 1) (wLst false wNil))) (wRet (wOrV (wOp (fEq false) (wVar 0) (wC (.str "def"))) (wOp (fEq false) (wVar 0) (wC (.str "skip"))))) wNext)
    (wSeq (wIfS (wTest (wOp (fEq false) (wVar 0) (wC (.str "def")))) (wRet (wC (.bl false))) wNext)
    (wSeq (wIfS (wTest (wOp (fEq false) (wVar 0) (wC (.str "give")))) (wRet (wOp (fEq false) (wOp fIx (wVar 1) (wUn (fun i => -i) (wC (.int 1)))) (wC (.str "def")))) wNext)
    (wSeq (wIfS (wTest (wOp (fEq false) (wVar 0) (wC (.str "else")))) (wRet (wOp (fEq false) (wOp fIx (wVar 1) (wUn (fun i => -i) (wC (.int 1)))) (wC (.str "if")))) wNext)
    (wSeq (wIfS (wTest (wOp (fEq false) (wVar 0) (wC (.str "end")))) (wRet (wOp (fEq true) (wOp fIx (wVar 1) (wUn (fun i => -i) (wC (.int 1)))) (wC (.str "def")))) wNext)
    (wRet (wC (.bl true))))))))
@[simp] def sp_word_fits : PSp := sp2 p_word_fits
theorem v_word_fits : ∀ a b Q, p_word_fits a b Q → w_word_fits (evr Q) (startE ["word", "stack"] [.d a, .d b]) [] := by
  intro a b Q h
  unfold p_word_fits at h
  split at h
  · rename_i w ds
    obtain ⟨st, rfl, h⟩ := h
    rcases List.eq_nil_or_concat st with rfl | ⟨s0, z, hz⟩
    · simp [w_word_fits, onBl]
      simp [fitsB] at h
      by_cases c : w = Str.ofString "def"
      · subst c; simpa using h
      · have e : (w == Str.ofString "def") = false := by simpa using c
        have e2 : (w == Str.ofString "skip") = decide (w = Str.ofString "skip") := rfl
        simp [c] at h
        rw [e, e2]; exact h
    · rw [List.concat_eq_append] at hz
      subst hz
      have hd : ddeps (s0.map D.str ++ [.str z]) ≤ 63 := by
        have := strs_dep0 (s0 ++ [z])
        simp only [List.map_append, List.map_cons, List.map_nil] at this
        rw [this]; omega
      have ne : deqvs (s0.map D.str ++ [.str z]) [] = false := by cases (s0.map D.str) <;> simp
      have hat : atI (s0.map D.str ++ [.str z]) (-1) = some (.str z) := at_lastS _ _
      simp [w_word_fits, hd, ne, hat]
      simp only [fitsB, List.getLast?_concat] at h
      by_cases c1 : w = Str.ofString "def"
      · simpa [c1] using h
      by_cases c2 : w = Str.ofString "give"
      · simpa [c2] using h
      by_cases c3 : w = Str.ofString "else"
      · simpa [c3] using h
      by_cases c4 : w = Str.ofString "end"
      · simpa [c4] using h
      simpa [c1, c2, c3, c4] using h
  · exact h.elim
def nextB (w : Str) (st : List Str) : List Str :=
  if w = Str.ofString "def" ∨ w = Str.ofString "if" ∨ w = Str.ofString "while" then st ++ [w] else if w = Str.ofString "give" ∨ w = Str.ofString "end" then st.dropLast else if w = Str.ofString "else" then st.dropLast ++ [Str.ofString "else"] else st
/-- where blocks break: the place, with these rows open -/
def breakB : Nat → List D → List Str → Option Nat
  | k, [], st => if st = [] then none else some k
  | k, r :: rs, st => match wordR r with
    | some w => if fitsB w st then breakB (k + 1) rs (nextB w st) else some k
    | none => some k
theorem fits_ne {w : Str} {st : List Str} (h : fitsB w st = true) (c : w = Str.ofString "give" ∨ w = Str.ofString "end" ∨ w = Str.ofString "else") : ∃ s0 z, st = s0 ++ [z] := by
  rcases List.eq_nil_or_concat st with rfl | ⟨s0, z, hz⟩
  · rcases c with rfl | rfl | rfl <;> simp [fitsB] at h
  · exact ⟨s0, z, by rw [hz, List.concat_eq_append]⟩
theorem nextB_len (w : Str) (st : List Str) : (nextB w st).length ≤ st.length + 1 := by
  unfold nextB
  split
  · simp
  · split
    · simp only [List.length_dropLast]; omega
    · split
      · simp only [List.length_append, List.length_dropLast, List.length_cons, List.length_nil]; omega
      · omega
/-- an error with a place -/
@[simp] def at_ (k : Nat) : List (Str × D) := [(Str.ofString "place", .int k)]
@[simp] def p_check_blocks : D → (W → Sto → Prop) → EXs → Prop := fun a Q Qx => match a with
  | .lst rows => rows.length ≤ 1000 ∧ (∀ r ∈ rows, ∃ w, wordR r = some w) ∧ (∀ k, breakB 0 rows [] = some k → Qx "NoBlock" (at_ k)) ∧ (breakB 0 rows [] = none → ∀ mu, Q (.d .non) mu)
  | _ => False
theorem wordR_tup' {r : D} {w : Str} (h : wordR r = some w) : ∃ rest, r = .tup (.str w :: rest) := by
  unfold wordR at h
  split at h
  · injection h with h; subst h; exact ⟨_, rfl⟩
  · cases h
def w_check_blocks : WS := (wSeq (wAsg (wLst true wNil) (wgName 1))
    (wSeq (wFor (wEnum (wCons (wVar 0) wNil)) (wgTup 2 (wgCons (wgName 2) (wgCons (wgName 3) wgNil))) (wSeq (wAsg (wOp fIx (wVar 3) (wC (.int 0))) (wgName 4))
    (wSeq (wIfS (wNot (wTru (wCallP false sp_word_fits [] (wCons (wVar 4) (wCons (wVar 1) wNil))))) (wRaise1 "NoBlock" (wVar 2)) wNext)
    (wSeq (wIfS (wOr (wTest (wOp (fEq false) (wVar 4) (wC (.str "def")))) (wOr (wTest (wOp (fEq false) (wVar 4) (wC (.str "if")))) (wTest (wOp (fEq false) (wVar 4) (wC (.str "while")))))) (wDrop (wBM fApp (wVar 1) (wCons (wVar 4) wNil))) wNext)
    (wSeq (wIfS (wOr (wTest (wOp (fEq false) (wVar 4) (wC (.str "give")))) (wTest (wOp (fEq false) (wVar 4) (wC (.str "end"))))) (wDrop (wBM fPop (wVar 1) wNil)) wNext)
    (wIfS (wTest (wOp (fEq false) (wVar 4) (wC (.str "else")))) (wAsg (wC (.str "else")) (wgSub fSetL (wVar 1) (wUn (fun i => -i) (wC (.int 1))))) wNext))))))
    (wIfS (wTest (wOp (fEq true) (wVar 1) (wLst false wNil))) (wRaise1 "NoBlock" (wCall fLen (wCons (wVar 0) wNil))) wNext)))
@[simp] def sp_check_blocks : XSp := xp1 p_check_blocks
theorem v_check_blocks : ∀ a Q Qx, p_check_blocks a Q Qx → w_check_blocks (evx Q Qx) (startE ["rows", "stack", "place", "row", "word"] [.d a]) [] := by
  intro a Q Qx h
  unfold p_check_blocks at h
  split at h
  · rename_i rows
    obtain ⟨hl, hw, hx, h⟩ := h
    simp [w_check_blocks, sizeLine_eq]
    refine forL_rem (fun items rh mu => ∃ (k : Nat) (ys : List D) (st : List Str) (a b c : Option W), items = enumW k (ys.map W.d) ∧ rh = [some (.d (.lst rows)), some (.loc 0), a, b, c] ∧ mu = [.lst (st.map D.str)] ∧ (breakB k ys st = breakB 0 rows [] ∧ k + ys.length = rows.length) ∧ (∀ r ∈ ys, ∃ w, wordR r = some w) ∧ st.length + ys.length ≤ 2000) (fun _ _ _ _ => trivial) ?_ ?_ ⟨0, rows, [], _, _, _, rfl, rfl, rfl, ⟨rfl, by simp⟩, hw, by simp; omega⟩
    · rintro _ _ ⟨k, ys, st, a, b, c, e, rfl, rfl, hb, hw, hl⟩
      have hy : ys = [] := by
        cases ys with
        | nil => rfl
        | cons y ys => simp at e
      subst hy
      obtain ⟨hb, hn⟩ := hb
      have hb : (if st = [] then none else some k) = breakB 0 rows [] := hb
      by_cases es : st = []
      · subst es
        rw [if_pos rfl] at hb
        simp
        exact h hb.symm _
      · rw [if_neg es] at hb
        have hd : ddeps (st.map D.str) ≤ 63 := by rw [strs_dep0]; omega
        have ne : deqvs (st.map D.str) [] = false := by
          cases st with
          | nil => exact absurd rfl es
          | cons z st => simp
        have := hx k hb.symm
        simp at hn
        subst hn
        simpa [hd, ne] using this
    · rintro x items _ _ ⟨k, ys, st, a, b, c, e, rfl, rfl, hb, hw, hl⟩ N hN
      cases ys with
      | nil => simp at e
      | cons y ys =>
        simp at e
        obtain ⟨rfl, rfl⟩ := e
        obtain ⟨w, ew⟩ := hw y (by simp)
        obtain ⟨rest, rfl⟩ := wordR_tup' ew
        obtain ⟨hb, hn⟩ := hb
        simp only [breakB, ew] at hb
        by_cases hf : fitsB w st = true
        · rw [if_pos hf] at hb
          have hl1 := nextB_len w st
          simp only [List.length_cons] at hl
          have fin : ∀ a b c, N [some (.d (.lst rows)), some (.loc 0), a, b, c] [.lst ((nextB w st).map D.str)] := fun a b c => hN _ _ ⟨k + 1, ys, nextB w st, _, _, _, rfl, rfl, rfl, ⟨hb, by simp only [List.length_cons] at hn; omega⟩, fun r hr => hw r (by simp [hr]), by omega⟩
          have sl : st.length < 16777216 := by omega
          let E : Ev := [some (.d (.lst rows)), some (.loc 0), some (.d (.int k)), some (.d (.tup (.str w :: rest))), some (.d (.str w))]
          show wgTup 2 (wgCons (wgName 2) (wgCons (wgName 3) wgNil)) _ _ _ _
          simp only [wgTup, wgCons, wgName, wgNil, mkTup]
          refine ⟨rfl, seq_to E [.lst (st.map D.str)] (fun K hK => by simpa using hK) ?_⟩
          refine seq_to E [.lst (st.map D.str)] (fun K hK => by simp [E]; refine ⟨st, rfl, ?_⟩; simp [hf]; exact hK) ?_
          unfold nextB at fin
          by_cases c1 : w = Str.ofString "def" ∨ w = Str.ofString "if" ∨ w = Str.ofString "while"
          · simp only [if_pos c1, List.map_append, List.map_cons, List.map_nil] at fin
            have fin := fin (some (.d (.int k))) (some (.d (.tup (.str w :: rest)))) (some (.d (.str w)))
            refine seq_to E [.lst (st.map D.str ++ [.str w])] (fun K hK => ?_) ?_
            · rcases c1 with rfl | rfl | rfl <;> simp [E, sizeLine_eq, sl] <;> exact hK
            refine seq_to E [.lst (st.map D.str ++ [.str w])] (fun K hK => ?_) ?_
            · rcases c1 with rfl | rfl | rfl <;> simp [E] <;> exact hK
            · rcases c1 with rfl | rfl | rfl <;> simp [E] <;> exact fin
          · simp only [if_neg c1] at fin
            have d1 : ¬ w = Str.ofString "def" := fun z => c1 (.inl z)
            have d2 : ¬ w = Str.ofString "if" := fun z => c1 (.inr (.inl z))
            have d3 : ¬ w = Str.ofString "while" := fun z => c1 (.inr (.inr z))
            have fin := fin (some (.d (.int k))) (some (.d (.tup (.str w :: rest)))) (some (.d (.str w)))
            refine seq_to E [.lst (st.map D.str)] (fun K hK => by simpa [E, d1, d2, d3] using hK) ?_
            by_cases c2 : w = Str.ofString "give" ∨ w = Str.ofString "end"
            · obtain ⟨s0, z, rfl⟩ := fits_ne hf (by rcases c2 with q | q <;> simp [q])
              simp only [if_pos c2, List.dropLast_concat] at fin
              refine seq_to E [.lst (s0.map D.str)] (fun K hK => ?_) ?_
              · rcases c2 with rfl | rfl <;> simp [E, sizeLine_eq] <;> exact hK
              · rcases c2 with rfl | rfl <;> simp [E] <;> exact fin
            · simp only [if_neg c2] at fin
              have d4 : ¬ w = Str.ofString "give" := fun z => c2 (.inl z)
              have d5 : ¬ w = Str.ofString "end" := fun z => c2 (.inr z)
              refine seq_to E [.lst (st.map D.str)] (fun K hK => by simpa [E, d4, d5] using hK) ?_
              by_cases c3 : w = Str.ofString "else"
              · obtain ⟨s0, z, rfl⟩ := fits_ne hf (by simp [c3])
                simp only [if_pos c3, List.dropLast_concat, List.map_append, List.map_cons, List.map_nil] at fin
                have ix : ixN (s0.length + 1) (-1) = some s0.length := by
                  unfold ixN
                  rw [if_neg (by omega), if_pos (by omega)]
                  congr 1; omega
                subst c3
                simp [E, ix]
                exact fin
              · simp only [if_neg c3] at fin
                simp [E, c3]
                exact fin
        · rw [if_neg hf] at hb
          have hf : fitsB w st = false := by simpa using hf
          have := hx k hb.symm
          let E : Ev := [some (.d (.lst rows)), some (.loc 0), some (.d (.int k)), some (.d (.tup (.str w :: rest))), some (.d (.str w))]
          show wgTup 2 (wgCons (wgName 2) (wgCons (wgName 3) wgNil)) _ _ _ _
          simp only [wgTup, wgCons, wgName, wgNil, mkTup]
          refine ⟨rfl, seq_to E [.lst (st.map D.str)] (fun K hK => by simpa using hK) ?_⟩
          refine seq_do fun N2 => ?_
          simp [E]
          exact ⟨st, rfl, by simpa [hf] using this⟩
  · exact h.elim
/-! ### calls -/
def isDef (n : Str) (r : D) : Bool := match r with
  | .tup (.str w :: .str m :: _) => w == Str.ofString "def" && m == n
  | _ => false
/-- the first def of a name -/
def defOf (rows : List D) (n : Str) : Option Nat := rows.findIdx? (isDef n)
/-- rows whose second parts are texts, where one asks of them -/
def defIn (r : D) : Prop := ∃ w ps, r = .tup (.str w :: ps) ∧ (w = Str.ofString "def" → ∃ m qs, ps = .str m :: qs)
@[simp] def p_def_of : D → D → (W → Sto → Prop) → Prop := fun a b Q => match a, b with
  | .lst rows, .str n => rows.length ≤ 1000 ∧ (∀ r ∈ rows, defIn r) ∧ ∀ mu, Q (.d (optD (defOf rows n))) mu
  | _, _ => False
def w_def_of : WS := (wSeq (wFor (wEnum (wCons (wVar 0) wNil)) (wgTup 2 (wgCons (wgName 2) (wgCons (wgName 3) wgNil))) (wIfS (wAnd (wTest (wOp (fEq false) (wOp fIx (wVar 3) (wC (.int 0))) (wC (.str "def")))) (wTest (wOp (fEq false) (wOp fIx (wVar 3) (wC (.int 1))) (wVar 1)))) (wRet (wVar 2)) wNext))
    (wRet (wC .non)))
@[simp] def sp_def_of : PSp := sp2 p_def_of
theorem v_def_of : ∀ a b Q, p_def_of a b Q → w_def_of (evr Q) (startE ["rows", "name", "place", "row"] [.d a, .d b]) [] := by
  intro a b Q h
  unfold p_def_of at h
  split at h
  · rename_i rows n
    obtain ⟨hl, hw, h⟩ := h
    simp [w_def_of, sizeLine_eq]
    refine forL_rem (fun items rh mu => ∃ (k : Nat) (ys : List D) (a b : Option W), items = enumW k (ys.map W.d) ∧ rh = [some (.d (.lst rows)), some (.d (.str n)), a, b] ∧ mu = [] ∧ (∀ r ∈ ys, defIn r) ∧ (ys.findIdx? (isDef n)).map (· + k) = defOf rows n) (fun _ _ _ _ => trivial) ?_ ?_ ⟨0, rows, _, _, rfl, rfl, rfl, hw, by simp [defOf]⟩
    · rintro _ _ ⟨k, ys, a, b, e, rfl, rfl, hw, hd⟩
      have hy : ys = [] := by
        cases ys with
        | nil => rfl
        | cons y ys => simp at e
      subst hy
      simp at hd
      rw [← hd] at h
      simp
      exact h _
    · rintro x items _ _ ⟨k, ys, a, b, e, rfl, rfl, hw, hd⟩ N hN
      cases ys with
      | nil => simp at e
      | cons y ys =>
        simp at e
        obtain ⟨rfl, rfl⟩ := e
        obtain ⟨w, ps, rfl, hq⟩ := hw y (by simp)
        have skip : isDef n (.tup (.str w :: ps)) = false → N [some (.d (.lst rows)), some (.d (.str n)), some (.d (.int k)), some (.d (.tup (.str w :: ps)))] [] := fun e => by
          refine hN _ _ ⟨k + 1, ys, _, _, rfl, rfl, rfl, fun r hr => hw r (by simp [hr]), ?_⟩
          rw [← hd, List.findIdx?_cons, if_neg (by simp [e])]
          cases ys.findIdx? (isDef n) <;> simp; omega
        by_cases c : w = Str.ofString "def"
        · obtain ⟨m, qs, rfl⟩ := hq c
          subst c
          by_cases c2 : m = n
          · subst c2
            simp
            have e1 : isDef m (.tup (.str (Str.ofString "def") :: .str m :: qs)) = true := by simp [isDef]
            rw [List.findIdx?_cons, if_pos e1] at hd
            rw [← hd] at h
            simpa [optD] using h _
          · simp [c2]
            exact skip (by simp [isDef, c2])
        · simp [c]
          exact skip (by
            unfold isDef
            split
            · rename_i e; cases e; simp [c]
            · rfl)
  · exact h.elim
/-- no call, no def breaks the order of the functions -/
def callOk (rows : List D) (k : Nat) (r : D) : Prop := ∃ w ps, r = .tup (.str w :: ps) ∧ (w = Str.ofString "def" → ∃ m ys qs, ps = .str m :: .tup ys :: qs ∧ ∃ j, defOf rows m = some j ∧ k ≤ j) ∧
  (w = Str.ofString "call" → ∃ x f ops qs, ps = x :: .str f :: .tup ops :: qs ∧ ∃ j m ys rs, defOf rows f = some j ∧ k ≤ j ∧ rows[j]? = some (.tup (.str (Str.ofString "def") :: m :: .tup ys :: rs)) ∧ ys.length = ops.length)
theorem callOk.defIn {rows : List D} {k : Nat} {r : D} (h : callOk rows k r) : defIn r := by
  obtain ⟨w, ps, rfl, h1, _⟩ := h
  refine ⟨w, ps, rfl, fun e => ?_⟩
  obtain ⟨m, ys, qs, rfl, _⟩ := h1 e
  exact ⟨m, _, rfl⟩
def parsOf (rows : List D) (j : Nat) : Nat := match rows[j]? with
  | some (.tup (_ :: _ :: .tup ys :: _)) => ys.length
  | _ => 0
/-- this row is a function told twice, or a call that cannot be -/
def badR (rows : List D) (k : Nat) : D → Bool
  | .tup (.str w :: ps) => if w = Str.ofString "def" then (match ps with
      | .str m :: _ => (match defOf rows m with
        | some j => decide (j < k)
        | none => false)
      | _ => false)
    else if w = Str.ofString "call" then (match ps with
      | _ :: .str f :: .tup ops :: _ => (match defOf rows f with
        | some j => decide (j < k) || !(parsOf rows j == ops.length)
        | none => true)
      | _ => false) else false
  | _ => false
/-- the first such row -/
def badFrom (rows : List D) : Nat → List D → Option Nat
  | _, [] => none
  | k, r :: rs => if badR rows k r = true then some k else badFrom rows (k + 1) rs
def badCall (rows : List D) : Option Nat := badFrom rows 0 rows
/-- defs and calls as rows have them -/
def callIn (r : D) : Prop := ∃ w ps, r = .tup (.str w :: ps) ∧ (w = Str.ofString "def" → ∃ m ys qs, ps = .str m :: .tup ys :: qs) ∧ (w = Str.ofString "call" → ∃ x f ops qs, ps = x :: .str f :: .tup ops :: qs)
theorem callIn.defIn {r : D} (h : callIn r) : defIn r := by
  obtain ⟨w, ps, rfl, h1, _⟩ := h
  exact ⟨w, ps, rfl, fun e => by obtain ⟨m, ys, qs, rfl⟩ := h1 e; exact ⟨m, _, rfl⟩⟩
theorem defOf_at {rows : List D} {n : Str} {j : Nat} (h : defOf rows n = some j) : ∃ rest, rows[j]? = some (.tup (.str (Str.ofString "def") :: .str n :: rest)) := by
  unfold defOf at h
  have h1 := List.findIdx?_eq_some_iff_getElem.mp h
  obtain ⟨hl, hp, _⟩ := h1
  have e : rows[j]? = some rows[j] := by simp [hl]
  rw [e]
  unfold isDef at hp
  split at hp
  · rename_i w m rest er
    have : w = Str.ofString "def" ∧ m = n := by simpa using hp
    rw [er, this.1, this.2]
    exact ⟨_, rfl⟩
  · cases hp
theorem callOk_bad {rows : List D} (h : ∀ k r, rows[k]? = some r → callOk rows k r) : badCall rows = none := by
  have : ∀ ys k, rows.drop k = ys → badFrom rows k ys = none := by
    intro ys
    induction ys with
    | nil => intro k _; rfl
    | cons r ys ih =>
      intro k e
      have hk : rows[k]? = some r := by
        have := congrArg (fun l => l[0]?) e
        simpa using this
      have hd : rows.drop (k + 1) = ys := by
        have := congrArg (fun l => l.drop 1) e
        simpa [List.drop_drop, Nat.add_comm] using this
      have hb : badR rows k r = false := by
        obtain ⟨w, ps, rfl, h1, h2⟩ := h k r hk
        unfold badR
        by_cases c : w = Str.ofString "def"
        · obtain ⟨m, ys, qs, rfl, j, ej, hj⟩ := h1 c
          simp only [if_pos c, ej]
          simp; omega
        · by_cases c2 : w = Str.ofString "call"
          · obtain ⟨x, f, ops, qs, rfl, j, m, ys, rs, ej, hj, eq, hlen⟩ := h2 c2
            simp only [if_neg c, if_pos c2, ej]
            have : parsOf rows j = ys.length := by unfold parsOf; rw [eq]
            simp [this, hlen]; omega
          · simp only [if_neg c, if_neg c2]
      unfold badFrom
      rw [if_neg (by simp [hb])]
      exact ih _ hd
  exact this rows 0 (by simp)
@[simp] def p_check_calls : D → (W → Sto → Prop) → EXs → Prop := fun a Q Qx => match a with
  | .lst rows => rows.length ≤ 1000 ∧ (∀ r ∈ rows, callIn r) ∧ (∀ k, badCall rows = some k → Qx "NoCall" (at_ k)) ∧ (badCall rows = none → ∀ mu, Q (.d .non) mu)
  | _ => False
def w_check_calls : WS := (wFor (wEnum (wCons (wVar 0) wNil)) (wgTup 2 (wgCons (wgName 1) (wgCons (wgName 2) wgNil))) (wSeq (wIfS (wAnd (wTest (wOp (fEq false) (wOp fIx (wVar 2) (wC (.int 0))) (wC (.str "def")))) (wTest (wOp (fB0 fun i j => decide (i < j)) (wCallP false sp_def_of [] (wCons (wVar 0) (wCons (wOp fIx (wVar 2) (wC (.int 1))) wNil))) (wVar 1)))) (wRaise1 "NoCall" (wVar 1)) wNext)
    (wIfS (wTest (wOp (fEq false) (wOp fIx (wVar 2) (wC (.int 0))) (wC (.str "call")))) (wSeq (wAsg (wCallP false sp_def_of [] (wCons (wVar 0) (wCons (wOp fIx (wVar 2) (wC (.int 2))) wNil))) (wgName 3))
    (wIfS (wOr (wTest (wOp (fIs false) (wVar 3) (wC .non))) (wOr (wTest (wOp (fB0 fun i j => decide (i < j)) (wVar 3) (wVar 1))) (wTest (wOp (fEq true) (wCall fLen (wCons (wOp fIx (wOp fIx (wVar 0) (wVar 3)) (wC (.int 2))) wNil)) (wCall fLen (wCons (wOp fIx (wVar 2) (wC (.int 3))) wNil)))))) (wRaise1 "NoCall" (wVar 1)) wNext)) wNext)))
@[simp] def sp_check_calls : XSp := xp1 p_check_calls
theorem v_check_calls : ∀ a Q Qx, p_check_calls a Q Qx → w_check_calls (evx Q Qx) (startE ["rows", "place", "row", "there"] [.d a]) [] := by
  intro a Q Qx h
  unfold p_check_calls at h
  split at h
  · rename_i rows
    obtain ⟨hl, hw, hx, h⟩ := h
    have hin : ∀ r ∈ rows, defIn r := fun r hr => (hw r hr).defIn
    simp only [w_check_calls]
    simp [sizeLine_eq]
    refine forL_rem (fun items rh mu => ∃ (k : Nat) (a b c : Option W), items = enumW k ((rows.drop k).map W.d) ∧ k ≤ rows.length ∧ badFrom rows k (rows.drop k) = badCall rows ∧ rh = [some (.d (.lst rows)), a, b, c] ∧ mu = []) (fun _ _ _ _ => trivial) ?_ ?_ ⟨0, _, _, _, rfl, by omega, rfl, rfl, rfl⟩
    · rintro _ _ ⟨k, a, b, c, e, hk, hb, rfl, rfl⟩
      have : rows.drop k = [] := by
        cases q : rows.drop k with
        | nil => rfl
        | cons y ys => rw [q] at e; simp at e
      rw [this] at hb
      exact h hb.symm _
    · rintro x items _ _ ⟨k, a, b, c, e, hk, hb, rfl, rfl⟩ N hN
      have hlt : k < rows.length := by
        have := congrArg List.length e
        rw [enumW_len] at this; simp at this; omega
      rw [List.drop_eq_getElem_cons hlt] at hb
      rw [List.drop_eq_getElem_cons hlt, List.map_cons, enumW] at e
      injection e with e1 e2
      subst e1
      subst e2
      unfold badFrom at hb
      have no : ∀ c, badR rows k rows[k] = false → N [some (.d (.lst rows)), some (.d (.int k)), some (.d rows[k]), c] [] := fun c z => hN _ _ ⟨k + 1, _, _, _, rfl, hlt, by rw [if_neg (by simp [z])] at hb; exact hb, rfl, rfl⟩
      have yes : badR rows k rows[k] = true → Qx "NoCall" (at_ k) := fun z => hx k (by rw [if_pos z] at hb; exact hb.symm)
      obtain ⟨w, ps, er, h1, h2⟩ := hw rows[k] (List.getElem_mem hlt)
      rw [er] at no yes ⊢
      by_cases c1 : w = Str.ofString "def"
      · obtain ⟨m, ys, qs, rfl⟩ := h1 c1
        subst c1
        simp only [badR, if_true] at no yes
        cases ej : defOf rows m with
        | none =>
          have q : rows.findIdx? (isDef m) = none := ej
          rw [List.findIdx?_eq_none_iff] at q
          have := q rows[k] (List.getElem_mem hlt)
          rw [er] at this
          simp [isDef] at this
        | some j =>
          rw [ej] at no yes
          simp only at no yes
          by_cases hj : j < k
          · have := yes (by simpa using hj)
            have hkj : (j : Int) < (k : Int) := by omega
            simp
            refine ⟨hl, hin, ?_⟩
            simp [ej, optD, hkj]
            simpa using this
          · have hkj : ¬ ((j : Int) < (k : Int)) := by omega
            simp
            refine ⟨hl, hin, ?_⟩
            simp [ej, optD, hkj]
            exact no _ (by simpa using hj)
      · by_cases c2 : w = Str.ofString "call"
        · obtain ⟨x, f, ops, qs, rfl⟩ := h2 c2
          subst c2
          have c1' : ¬ (Str.ofString "call" = Str.ofString "def") := c1
          simp only [badR, if_neg c1', if_true] at no yes
          simp
          refine ⟨hl, hin, ?_⟩
          cases ej : defOf rows f with
          | none =>
            rw [ej] at no yes
            simp only at no yes
            simp [optD]
            simpa using yes trivial
          | some j =>
            rw [ej] at no yes
            simp only at no yes
            obtain ⟨rest, ed⟩ := defOf_at ej
            have hjl := (List.getElem?_eq_some_iff.mp ed).1
            obtain ⟨w2, ps2, e3, h3, _⟩ := hw _ (List.mem_of_getElem? ed)
            injection e3 with e3
            injection e3 with e4 e5
            injection e4 with e4
            obtain ⟨m2, ys, qs2, e6⟩ := h3 e4.symm
            rw [← e5] at e6
            injection e6 with e7 e8
            subst e8
            have pj : parsOf rows j = ys.length := by unfold parsOf; rw [ed]
            rw [pj] at no yes
            have at1 : atI rows (j : Int) = some (.tup (.str (Str.ofString "def") :: .str f :: .tup ys :: qs2)) := by
              rw [at_nat (by omega) (by omega)]; simpa using ed
            by_cases hj : j < k
            · have hkj : (j : Int) < (k : Int) := by omega
              have := yes (by simp [hj])
              simp [optD, hkj]
              simpa using this
            · have hkj : ¬ ((j : Int) < (k : Int)) := by omega
              by_cases hle : ys.length = ops.length
              · have := no (some (.d (.int j))) (by simp [hle]; omega)
                simp [optD, hkj, at1, hle]
                exact this
              · have := yes (by simp [hle])
                have hli : ¬ ((ys.length : Int) = (ops.length : Int)) := by omega
                simp [optD, hkj, at1, hli]
                simpa using this
        · have := no c (by simp [badR, c1, c2])
          simp [c1, c2]
          exact this
  · exact h.elim
/-- a program that is taken -/
structure ProgOk (rows : List D) : Prop where
  few : rows.length ≤ 60
  right : ∀ r ∈ rows, ∃ w ps, r = .tup (.str w :: ps) ∧ RowIn w ps ∧ rowOk (.str w :: ps) = true
  blocks : breakB 0 rows [] = none
  calls : ∀ k r, rows[k]? = some r → callOk rows k r
def rowB : D → Bool
  | .tup xs => rowOk xs
  | _ => false
/-- the first that is no row -/
def badRow (rows : List D) : Option Nat := rows.findIdx? fun r => !rowB r
/-- what is to be said of rows -/
inductive Judge where
  | made | great | row (k : Nat) | block (k : Nat) | call (k : Nat)
def judge (rows : List D) : Judge := if 60 < rows.length then .great else match badRow rows with
  | some k => .row k
  | none => match breakB 0 rows [] with
    | some k => .block k
    | none => match badCall rows with
      | some k => .call k
      | none => .made
def tellX (j : Judge) (M : Prop) (Qx : EXs) : Prop := match j with
  | .made => M
  | .great => Qx "TooGreat" []
  | .row k => Qx "NoRow" (at_ k)
  | .block k => Qx "NoBlock" (at_ k)
  | .call k => Qx "NoCall" (at_ k)
theorem ProgOk.judge {rows : List D} (ok : ProgOk rows) : judge rows = .made := by
  have h1 : ¬ 60 < rows.length := by have := ok.few; omega
  have h2 : badRow rows = none := by
    unfold badRow
    rw [List.findIdx?_eq_none_iff]
    intro r hr
    obtain ⟨w, ps, rfl, _, h⟩ := ok.right r hr
    simp [rowB, h]
  unfold VL.judge
  rw [if_neg h1, h2, ok.blocks, callOk_bad ok.calls]
/-- rows as they may be handed in -/
def RowA (r : D) : Prop := ∃ w ps, r = .tup (.str w :: ps) ∧ RowIn w ps
theorem right_call {r : D} (ha : RowA r) (h : rowB r = true) : callIn r := by
  obtain ⟨w, ps, rfl, _⟩ := ha
  refine ⟨w, ps, rfl, fun e => ?_, fun e => ?_⟩
  · subst e
    have h : okDef (.str (Str.ofString "def") :: ps) = true := by simpa [rowB, rowOk, clsOf] using h
    unfold okDef at h
    split at h
    · rename_i n ys e
      injection e with _ e
      subst e
      have : nameD n = true := (Bool.and_eq_true_iff.mp h).1
      cases n <;> simp [nameD] at this
      exact ⟨_, _, _, rfl⟩
    · cases h
  · subst e
    have h : okCall (.str (Str.ofString "call") :: ps) = true := by simpa [rowB, rowOk, clsOf] using h
    unfold okCall at h
    split at h
    · rename_i x f ops e
      injection e with _ e
      subst e
      have h2 : nameD f = true ∧ allOpD ops = true := Bool.and_eq_true_iff.mp (Bool.and_eq_true_iff.mp h).2
      obtain ⟨h2, h3⟩ := h2
      cases f <;> simp [nameD] at h2
      cases ops <;> simp [allOpD] at h3
      exact ⟨_, _, _, _, rfl⟩
    · cases h
@[simp] def p_program_of : D → (W → Sto → Prop) → EXs → Prop := fun a Q Qx => match a with
  | .lst rows => rows.length ≤ 1000 ∧ (∀ r ∈ rows, RowA r) ∧ tellX (judge rows) (Q (.loc 0) [.lst rows]) Qx
  | _ => False
def w_program_of : WS := (wSeq (wIfS (wTest (wOp (fB0 fun i j => decide (j < i)) (wCall fLen (wCons (wVar 0) wNil)) (wC k_MOST_ROWS))) (wRaise0 "TooGreat") wNext)
    (wSeq (wFor (wEnum (wCons (wVar 0) wNil)) (wgTup 2 (wgCons (wgName 1) (wgCons (wgName 2) wgNil))) (wIfS (wNot (wTru (wCallP false sp_is_row [] (wCons (wVar 2) wNil)))) (wRaise1 "NoRow" (wVar 1)) wNext))
    (wSeq (wDropX (wCallX false sp_check_blocks (wCons (wVar 0) wNil)))
    (wSeq (wDropX (wCallX false sp_check_calls (wCons (wVar 0) wNil)))
    (wRet (wCall (fList true) (wCons (wVar 0) wNil)))))))
@[simp] def sp_program_of : XSp := xp1 p_program_of
theorem v_program_of : ∀ a Q Qx, p_program_of a Q Qx → w_program_of (evx Q Qx) (startE ["rows", "place", "row"] [.d a]) [] := by
  intro a Q Qx h
  unfold p_program_of at h
  split at h
  · rename_i rows
    obtain ⟨hl, ha, h⟩ := h
    unfold judge at h
    simp only [w_program_of]
    by_cases hg : 60 < rows.length
    · rw [if_pos hg] at h
      refine seq_do fun N => ?_
      have : (60 : Int) < rows.length := by omega
      simpa [this, tellX] using h
    rw [if_neg hg] at h
    refine seq_to [some (.d (.lst rows)), none, none] [] (fun K hK => ?_) ?_
    · have : ¬ (60 : Int) < rows.length := by omega
      simpa [this] using hK
    have step : ∀ (V : EV), (∀ k, badRow rows = some k → V.ex = (fun _ n fs _ => Qx n fs)) → (∀ k, badRow rows = some k → Qx "NoRow" (at_ k)) → (badRow rows = none → ∀ a b, V.nx [some (.d (.lst rows)), a, b] []) →
        wFor (wEnum (wCons (wVar 0) wNil)) (wgTup 2 (wgCons (wgName 1) (wgCons (wgName 2) wgNil))) (wIfS (wNot (wTru (wCallP false sp_is_row [] (wCons (wVar 2) wNil)))) (wRaise1 "NoRow" (wVar 1)) wNext) V [some (.d (.lst rows)), none, none] [] := by
      intro V hV hx hk
      have hl' : rows.length ≤ 16777216 := by omega
      simp [sizeLine_eq, hl']
      refine forL_rem (fun items rh mu => ∃ (k : Nat) (ys : List D) (a b : Option W), items = enumW k (ys.map W.d) ∧ rh = [some (.d (.lst rows)), a, b] ∧ mu = [] ∧ (∀ r ∈ ys, RowA r) ∧ (ys.findIdx? fun r => !rowB r).map (· + k) = badRow rows) (fun _ _ _ _ => trivial) ?_ ?_ ⟨0, rows, _, _, rfl, rfl, rfl, ha, by simp [badRow]⟩
      · rintro _ _ ⟨k, ys, a, b, e, rfl, rfl, hy, hb⟩
        have : ys = [] := by
          cases ys with
          | nil => rfl
          | cons y ys => simp at e
        subst this
        exact hk (by rw [← hb]; rfl) _ _
      · rintro x items _ _ ⟨k, ys, a, b, e, rfl, rfl, hy, hb⟩ N hN
        cases ys with
        | nil => simp at e
        | cons y ys =>
          simp at e
          obtain ⟨rfl, rfl⟩ := e
          obtain ⟨w, ps, rfl, hin⟩ := hy y (by simp)
          simp
          refine ⟨w, ps, ⟨rfl, rfl⟩, hin, ?_⟩
          cases c : rowOk (.str w :: ps) with
          | true =>
            simp
            refine hN _ _ ⟨k + 1, ys, _, _, rfl, rfl, rfl, fun r hr => hy r (by simp [hr]), ?_⟩
            rw [← hb, List.findIdx?_cons, if_neg (by simp [rowB, c])]
            cases ys.findIdx? (fun r => !rowB r) <;> simp; omega
          | false =>
            have e : badRow rows = some k := by
              rw [← hb, List.findIdx?_cons, if_pos (by simp [rowB, c])]; simp
            simp
            rw [hV k e]
            simpa using hx k e
    cases hr : badRow rows with
    | some k =>
      rw [hr] at h
      refine seq_do fun N => step _ (fun _ _ => rfl) (fun k' e => by rw [hr] at e; cases e; exact h) (fun e => by rw [hr] at e; cases e)
    | none =>
      rw [hr] at h
      simp only at h
      have hright : ∀ r ∈ rows, callIn r := fun r hm => right_call (ha r hm) (by
        unfold badRow at hr
        rw [List.findIdx?_eq_none_iff] at hr
        simpa using hr r hm)
      have hw : ∀ r ∈ rows, ∃ w, wordR r = some w := fun r hm => by
        obtain ⟨w, ps, rfl, _⟩ := ha r hm
        exact ⟨w, rfl⟩
      refine seq_R (fun rh mu => (∃ a b, rh = [some (.d (.lst rows)), a, b]) ∧ mu = []) (fun K hK => step _ (fun k e => by rw [hr] at e; cases e) (fun k e => by rw [hr] at e; cases e) (fun _ a b => hK _ _ ⟨⟨a, b, rfl⟩, rfl⟩)) ?_
      rintro _ _ ⟨⟨a, b, rfl⟩, rfl⟩
      cases hb : breakB 0 rows [] with
      | some k =>
        rw [hb] at h
        refine seq_do fun N => ?_
        simp
        exact ⟨hl, hw, fun k' e => by rw [hb] at e; cases e; simpa [tellX] using h, fun e => by rw [hb] at e; cases e⟩
      | none =>
        rw [hb] at h
        simp only at h
        refine seq_to [some (.d (.lst rows)), a, b] [] (fun K hK => ?_) ?_
        · simp
          exact ⟨hl, hw, (fun k' e => by rw [hb] at e; cases e), fun _ => hK⟩
        cases hc : badCall rows with
        | some k =>
          rw [hc] at h
          refine seq_do fun N => ?_
          simp
          exact ⟨hl, hright, fun k' e => by rw [hc] at e; cases e; simpa [tellX] using h, fun e => by rw [hc] at e; cases e⟩
        | none =>
          rw [hc] at h
          refine seq_to [some (.d (.lst rows)), a, b] [] (fun K hK => ?_) ?_
          · simp
            exact ⟨hl, hright, (fun k' e => by rw [hc] at e; cases e), fun _ => hK⟩
          simp
          exact h
  · exact h.elim
end VL
namespace VL
open PySem PySem.Spec PyProof.Rows L2 RZ
@[simp] def p__law_cell_at : D → D → (W → Sto → Prop) → Prop := fun s k Q => match s, k with
  | .scr ns, .int i => 0 ≤ i ∧ Q (.d (.int (ns.getD i.toNat 0))) []
  | _, _ => False
def w__law_cell_at : WS := (wSeq (wIfS (wTest (wOp (fB0 fun i j => decide (i < j)) (wVar 1) (wCall fLen (wCons (wVar 0) wNil)))) (wRet (wOp fIx (wVar 0) (wVar 1))) wNext)
    (wRet (wC (.int 0))))
@[simp] def sp__law_cell_at : PSp := sp2 p__law_cell_at
theorem v__law_cell_at : ∀ a b Q, p__law_cell_at a b Q → w__law_cell_at (evr Q) (startE ["_law_script", "_law_k"] [.d a, .d b]) [] := by
  intro a b Q h
  unfold p__law_cell_at at h
  split at h
  · rename_i ns i
    obtain ⟨h0, h⟩ := h
    simp [w__law_cell_at]
    split
    · rename_i hl
      exact ⟨_, atI_map (at_getD 0 h0 hl), h⟩
    · rename_i hl
      simpa [List.getD_eq_getElem?_getD, List.getElem?_eq_none (show ns.length ≤ i.toNat by omega)] using h
  · exact h.elim
/-! words -/
theorem az_list : (Str.ofString "abcdefghijklmnopqrstuvwxyz").cps.toList = (List.range 26).map (97 + ·) := by decide +kernel
theorem az_at (n : Int) : atI (Str.ofString "abcdefghijklmnopqrstuvwxyz").cps.toList (n % 26) = some (97 + (n % 26).toNat) := by
  rw [az_list, at_nat (by omega) (by simp; omega)]
  have : (n % 26).toNat < 26 := by omega
  simp [this]
def goodW (w : Str) : Prop := 1 ≤ w.length ∧ w.length ≤ 8 ∧ ∀ c ∈ w.cps.toList, 97 ≤ c ∧ c ≤ 122
theorem low_ok {w : Str} (h : ∀ c ∈ w.cps.toList, 97 ≤ c ∧ c ≤ 122) (l : w.length ≤ 1000) : StrOk w := by
  refine ⟨?_, by rw [sizeLine_eq]; omega⟩
  unfold PyData.strOk
  rw [Array.all_eq_true']
  intro c hc
  have := h c (by simpa using hc)
  simp
  omega
theorem goodW.ok {w : Str} (h : goodW w) : StrOk w := low_ok h.2.2 (by have := h.2.1; omega)
@[simp] def p__law_words : D → D → (W → Sto → Prop) → Prop := fun a b Q => match a, b with
  | .int _, .int m => 2 ≤ m ∧ m ≤ 20 ∧ ∀ ws : List Str, ws.length = m.toNat → (∀ w ∈ ws, goodW w) → ws.Nodup → Q (.loc 0) [.lst (ws.map D.str)]
  | _, _ => False
/-- the number of the j-th sign of the k-th word -/
def wNum (c at' k : Int) (j : Nat) : Int := c / 49 / (j + 1) + j * j + (if (j : Int) = at' then k else 0)
def wCps (c at' k : Int) (n : Nat) : List Nat := (List.range n).map fun j => 97 + (wNum c at' k j % 26).toNat
def wStr (c at' k : Int) (n : Nat) : Str := ⟨(wCps c at' k n).toArray⟩
theorem wStr_len (c a k : Int) (n : Nat) : (wStr c a k n).length = n := by simp [wStr, wCps, Str.length]
theorem wStr_low (c a k : Int) (n : Nat) : ∀ x ∈ (wStr c a k n).cps.toList, 97 ≤ x ∧ x ≤ 122 := by
  intro x hx
  simp [wStr, wCps] at hx
  obtain ⟨j, _, rfl⟩ := hx
  omega
theorem wStr_succ (c a k : Int) (n : Nat) : wStr c a k n ++ ⟨#[97 + (wNum c a k n % 26).toNat]⟩ = wStr c a k (n + 1) := by
  show Str.mk _ = Str.mk _
  congr 1
  simp [wStr, wCps, List.range_succ]
theorem wStr_ne {c a k k' : Int} {n : Nat} (ha : 0 ≤ a) (hn : a < n) (hk : 0 ≤ k) (hk' : 0 ≤ k') (h : k < 26) (h' : k' < 26) (e : wStr c a k n = wStr c a k' n) : k = k' := by
  have e1 := congrArg (fun z : Str => z.cps.toList[a.toNat]?) e
  have : a.toNat < n := by omega
  have ea : ((a.toNat : Nat) : Int) = a := by omega
  simp [wStr, wCps, this] at e1
  unfold wNum at e1
  rw [ea] at e1
  simp at e1
  omega
theorem goodW_w {c a k : Int} {n : Nat} (h : 1 ≤ n) (h' : n ≤ 8) : goodW (wStr c a k n) := ⟨by rw [wStr_len]; exact h, by rw [wStr_len]; exact h', wStr_low _ _ _ _⟩
theorem nodup_set {A1 : Type} {y : A1} : ∀ {xs : List A1}, xs.Nodup → y ∉ xs → ∀ i, (xs.set i y).Nodup
  | [], _, _, _ => by simp
  | x :: xs, h, hy, 0 => by
    rw [List.set_cons_zero, List.nodup_cons]
    exact ⟨fun hm => hy (List.mem_cons_of_mem _ hm), (List.nodup_cons.mp h).2⟩
  | x :: xs, h, hy, i + 1 => by
    rw [List.set_cons_succ, List.nodup_cons]
    refine ⟨fun hm => ?_, nodup_set (List.nodup_cons.mp h).2 (fun hm => hy (List.mem_cons_of_mem _ hm)) i⟩
    rcases List.mem_or_eq_of_mem_set hm with hm | rfl
    · exact (List.nodup_cons.mp h).1 hm
    · exact hy List.mem_cons_self
def w__law_words : WS := (wSeq (wAsg (wC (.str "abcdefghijklmnopqrstuvwxyz")) (wgName 2))
    (wSeq (wAsg (wOp (fI CR0 gMod) (wVar 0) (wOp (fI CPow fun i j => i ^ j.toNat) (wC (.int 10)) (wC (.int 12)))) (wgName 0))
    (wSeq (wAsg (wOp (fAdd false) (wC (.int 1)) (wOp (fI CR0 gMod) (wVar 0) (wC (.int 7)))) (wgName 3))
    (wSeq (wAsg (wOp (fI CR0 gMod) (wOp (fI CD gDiv) (wVar 0) (wC (.int 7))) (wVar 3)) (wgName 4))
    (wSeq (wAsg (wLst true wNil) (wgName 5))
    (wSeq (wFor (wRng1 (wCons (wVar 1) wNil)) (wgName 6) (wSeq (wAsg (wC (.str "")) (wgName 7))
    (wSeq (wFor (wRng1 (wCons (wVar 3) wNil)) (wgName 8) (wSeq (wAsg (wOp (fAdd false) (wOp (fI CD gDiv) (wOp (fI CD gDiv) (wVar 0) (wC (.int 49))) (wOp (fAdd false) (wVar 8) (wC (.int 1)))) (wOp (fMul false) (wVar 8) (wVar 8))) (wgName 9))
    (wSeq (wIfS (wTest (wOp (fEq false) (wVar 8) (wVar 4))) (wAug (fI0 fun a b => a + b) 9 (wVar 6)) wNext)
    (wAsg (wOp (fAdd false) (wVar 7) (wOp fIx (wVar 2) (wOp (fI CR0 gMod) (wVar 9) (wC (.int 26))))) (wgName 7)))))
    (wDrop (wBM fApp (wVar 5) (wCons (wVar 7) wNil))))))
    (wSeq (wIfS (wTest (wOp (fEq false) (wOp (fI CR0 gMod) (wOp (fI CD gDiv) (wVar 0) (wC (.int 49))) (wC (.int 3))) (wC (.int 1)))) (wAsg (wOp (fAdd false) (wOp fIx (wVar 5) (wC (.int 0))) (wOp fIx (wVar 2) (wOp (fI CR0 gMod) (wOp (fI CD gDiv) (wVar 0) (wC (.int 147))) (wC (.int 26))))) (wgSub fSetL (wVar 5) (wC (.int 1)))) wNext)
    (wRet (wVar 5)))))))))
@[simp] def sp__law_words : PSp := sp2 p__law_words
theorem v__law_words : ∀ a b Q, p__law_words a b Q → w__law_words (evr Q) (startE ["_law_cell", "_law_many", "_law_letters", "_law_size", "_law_at", "_law_words_here", "_law_k", "_law_word", "_law_j", "_law_number"] [.d a, .d b]) [] := by
  intro a b Q h
  unfold p__law_words at h
  split at h
  · rename_i c0 m
    obtain ⟨h0, h1, h⟩ := h
    simp [w__law_words, sizeLine_eq]
    refine ⟨by omega, by omega, ?_⟩
    generalize (c0 % 1000000000000 : Int) = c at *
    obtain ⟨n, en, n1, n2⟩ : ∃ n : Nat, (1 + c % 7 : Int) = n ∧ 1 ≤ n ∧ n ≤ 7 := ⟨(1 + c % 7 : Int).toNat, by omega, by omega, by omega⟩
    rw [en]
    have hn0 : (0 : Int) < n := by omega
    rw [gMod_pos hn0]
    have a0 := Int.emod_nonneg (c / 7) (b := (n : Int)) (by omega)
    have a1 := Int.emod_lt_of_pos (c / 7) hn0
    generalize c / 7 % (n : Int) = at' at *
    obtain ⟨m', rfl⟩ : ∃ m' : Nat, m = m' := ⟨m.toNat, by omega⟩
    simp only [Int.toNat_natCast] at h ⊢
    have gw : ∀ k : Int, goodW (wStr c at' k n) := fun k => goodW_w n1 (by omega)
    refine ⟨by omega, forL_rng (fun i rh mu => mu = [C.lst (((List.range i).map fun k => wStr c at' (k : Nat) n).map D.str)] ∧ ∃ (x1 x2 x3 x4 : Option W), rh = [some (W.d (D.int c)), some (W.d (D.int m')), some (W.d (D.str (Str.ofString "abcdefghijklmnopqrstuvwxyz"))),
        some (W.d (D.int n)), some (W.d (D.int at')), some (W.loc 0), x1, x2, x3, x4]) (fun _ _ _ _ => trivial) ?_ ?_ ⟨rfl, _, _, _, _, rfl⟩⟩
    · rintro _ _ ⟨rfl, x1, x2, x3, x4, rfl⟩
      have nd : ((List.range m').map fun k => wStr c at' (k : Nat) n).Nodup := by
        rw [List.Nodup, List.pairwise_map]
        refine List.Pairwise.imp_of_mem (R := (· ≠ ·)) (fun {x y} hx hy hxy e => hxy ?_) List.nodup_range
        have hx' := List.mem_range.mp hx
        have hy' := List.mem_range.mp hy
        have := wStr_ne a0 a1 (by omega) (by omega) (by omega) (by omega) e
        omega
      have gd : ∀ w ∈ (List.range m').map fun k => wStr c at' (k : Nat) n, goodW w := fun w hw => by
        obtain ⟨k, _, rfl⟩ := List.mem_map.mp hw; exact gw _
      have i0 : ((List.range m').map fun k => wStr c at' (k : Nat) n)[0]? = some (wStr c at' 0 n) := by
        rw [List.getElem?_map, List.getElem?_range (by omega)]; rfl
      have il : ((List.range m').map fun k => wStr c at' (k : Nat) n).length = m' := by simp
      have il2 : ∀ w ∈ (List.range m').map fun k => wStr c at' (k : Nat) n, w.length = n := fun w hw => by
        obtain ⟨k, _, rfl⟩ := List.mem_map.mp hw; exact wStr_len _ _ _ _
      generalize ((List.range m').map fun k => wStr c at' (k : Nat) n) = ws at *
      have at0 : atI (ws.map D.str) 0 = some (.str (wStr c at' 0 n)) := by
        rw [at_nat (by omega) (by simp; omega)]; simp [i0]
      have ix1 : ixN ws.length 1 = some 1 := by
        unfold ixN; rw [if_pos (by omega), if_pos (by omega)]; rfl
      simp [at0, az_at, ix1, sizeLine_eq, wStr_len]
      split
      · refine ⟨by omega, ?_⟩
        have l1 : (wStr c at' 0 n ++ ⟨#[97 + (c / 147 % 26).toNat]⟩ : Str).length = n + 1 := by
          show ((wStr c at' 0 n).cps ++ #[97 + (c / 147 % 26).toNat]).size = _
          simp [Str.length] at *
          have := wStr_len c at' 0 n
          simp [Str.length] at this
          omega
        have q := h (ws.set 1 (wStr c at' 0 n ++ ⟨#[97 + (c / 147 % 26).toNat]⟩)) (by simp; exact il) (fun w hw => ?_) (nodup_set nd (fun hm => ?_) 1)
        · rw [List.map_set] at q; exact q
        · rcases List.mem_or_eq_of_mem_set hw with hw | rfl
          · exact gd w hw
          · refine ⟨by omega, by omega, fun x hx => ?_⟩
            have hx : x ∈ (wStr c at' 0 n).cps.toList ++ [97 + (c / 147 % 26).toNat] := by
              have : (wStr c at' 0 n ++ ⟨#[97 + (c / 147 % 26).toNat]⟩ : Str).cps.toList = (wStr c at' 0 n).cps.toList ++ [97 + (c / 147 % 26).toNat] := by
                show ((wStr c at' 0 n).cps ++ #[97 + (c / 147 % 26).toNat]).toList = _
                simp
              rw [this] at hx; exact hx
            rcases List.mem_append.mp hx with hx | hx
            · exact wStr_low _ _ _ _ x hx
            · rw [List.mem_singleton.mp hx]; omega
        · have := il2 _ hm; omega
      · exact h ws il gd nd
    · rintro k hk _ _ ⟨rfl, x1, x2, x3, x4, rfl⟩ N hN
      simp
      refine ⟨by omega, forL_rng (fun j rh mu => mu = [C.lst ((List.range k).map (D.str ∘ fun k => wStr c at' (k : Nat) n))] ∧ ∃ (x3 x4 : Option W), rh = [some (W.d (D.int c)), some (W.d (D.int m')), some (W.d (D.str (Str.ofString "abcdefghijklmnopqrstuvwxyz"))),
        some (W.d (D.int n)), some (W.d (D.int at')), some (W.loc 0), some (.d (.int k)), some (.d (.str (wStr c at' k j))), x3, x4]) (fun _ _ _ _ => trivial) ?_ ?_ ⟨rfl, _, _, rfl⟩⟩
      · rintro _ _ ⟨rfl, x3, x4, rfl⟩
        simp [sizeLine_eq]
        refine ⟨by omega, hN _ _ ⟨?_, _, _, _, _, rfl⟩⟩
        simp [List.range_succ]
      · rintro j hj _ _ ⟨rfl, x3, x4, rfl⟩ N' hN'
        have c3 : CM (j : Int) j := CM_r (by omega) (by omega)
        have j1 : (0 : Int) < j + 1 := by omega
        have cd : CD (c / 49) ((j : Int) + 1) := CD_of (by omega) (by omega)
        simp [c3, j1, cd, az_at, wStr_len, sizeLine_eq, gDiv_pos j1]
        have e := wStr_succ c at' k j
        unfold wNum at e
        split
        · rename_i hb
          rw [if_pos hb] at e
          rw [e]
          exact ⟨by omega, hN' _ _ ⟨rfl, _, _, rfl⟩⟩
        · rename_i hb
          rw [if_neg hb, Int.add_zero] at e
          rw [e]
          exact ⟨by omega, hN' _ _ ⟨rfl, _, _, rfl⟩⟩
  · exact h.elim
/-! operands, keys, rows -/
@[simp] theorem strs_inj {ws vs : List Str} : (ws.map D.str = vs.map D.str) ↔ ws = vs := by
  constructor
  · intro h
    exact List.map_inj_right (f := D.str) (fun _ _ e => by injection e) |>.mp h
  · rintro rfl; rfl
def OperD (ws : List Str) (d : D) : Prop := (∃ x, x ∈ ws ∧ d = .str x) ∨ ∃ n : Int, -1000000000000000000000000000000 ≤ n ∧ n < 1000000000000000000000000000000 ∧ d = .int n
def KeyD (ws : List Str) (d : D) : Prop := (∃ x, x ∈ ws ∧ d = .str (Str.ofString "." ++ x)) ∨ OperD ws d
theorem at_word {ws : List Str} {i : Int} {n : Nat} (h0 : 0 ≤ i) (h1 : i < n) (hn : n ≤ ws.length) : ∃ x, x ∈ ws ∧ atI (ws.map D.str) i = some (.str x) := by
  refine ⟨ws[i.toNat]'(by omega), ?_, ?_⟩
  · exact List.getElem_mem _
  · rw [at_nat h0 (by simp; omega)]
    have : i.toNat < ws.length := by omega
    simp [this]
@[simp] def p__law_operand : D → D → (W → Sto → Prop) → Prop := fun a b Q => match a, b with
  | .int n, .lst ds => ∃ ws : List Str, ds = ws.map D.str ∧ -100000000000000000000000000000000000000000000000000 ≤ n ∧ n ≤ 100000000000000000000000000000000000000000000000000 ∧ 4 ≤ ws.length ∧ ∀ d, OperD ws d → Q (.d d) []
  | _, _ => False
def w__law_operand : WS := (wSeq (wIfS (wTest (wOp (fB0 fun i j => decide (j < i)) (wOp (fI CR0 gMod) (wVar 0) (wC (.int 3))) (wC (.int 0)))) (wRet (wOp fIx (wVar 1) (wOp (fI CR0 gMod) (wOp (fI CD gDiv) (wVar 0) (wC (.int 3))) (wC (.int 4))))) wNext)
    (wSeq (wIfS (wTest (wOp (fEq false) (wOp (fI CR0 gMod) (wVar 0) (wC (.int 15))) (wC (.int 0)))) (wRet (wOp (fI0 fun i j => i - j) (wOp (fI CR0 gMod) (wOp (fAdd false) (wOp (fMul false) (wOp (fMul false) (wVar 0) (wC (.int 1000003))) (wOp (fI CPow fun i j => i ^ j.toNat) (wC (.int 10)) (wC (.int 20)))) (wVar 0)) (wOp (fMul false) (wC (.int 2)) (wOp (fI CPow fun i j => i ^ j.toNat) (wC (.int 10)) (wC (.int 30))))) (wOp (fI CPow fun i j => i ^ j.toNat) (wC (.int 10)) (wC (.int 30))))) wNext)
    (wRet (wOp (fI0 fun i j => i - j) (wOp (fI CR0 gMod) (wOp (fI CD gDiv) (wVar 0) (wC (.int 3))) (wC (.int 9))) (wC (.int 4))))))
@[simp] def sp__law_operand : PSp := sp2 p__law_operand
theorem v__law_operand : ∀ a b Q, p__law_operand a b Q → w__law_operand (evr Q) (startE ["_law_number", "_law_words_here"] [.d a, .d b]) [] := by
  intro a b Q h
  unfold p__law_operand at h
  split at h
  · rename_i n ds
    obtain ⟨ws, rfl, b0, b1, h0, h⟩ := h
    have cm : CM (n * 1000003) 100000000000000000000 := by
      rw [CM_lit2 (by omega) (by omega) (by omega) (by omega)]; trivial
    simp [w__law_operand, cm]
    split
    · obtain ⟨x, hx, e⟩ := at_word (ws := ws) (i := n / 3 % 4) (n := 4) (by omega) (by omega) h0
      simp [e]
      exact h _ (.inl ⟨x, hx, rfl⟩)
    · split
      · refine h _ (.inr ⟨_, ?_, ?_, rfl⟩) <;> omega
      · refine h _ (.inr ⟨_, ?_, ?_, rfl⟩) <;> omega
  · exact h.elim
@[simp] def p__law_key : D → D → (W → Sto → Prop) → Prop := fun a b Q => match a, b with
  | .int n, .lst ds => ∃ ws : List Str, ds = ws.map D.str ∧ -100000000000000000000000000000000000000000000000000 ≤ n ∧ n ≤ 100000000000000000000000000000000000000000000000000 ∧ 4 ≤ ws.length ∧ (∀ w ∈ ws, goodW w) ∧ ∀ d, KeyD ws d → Q (.d d) []
  | _, _ => False
def w__law_key : WS := (wSeq (wIfS (wTest (wOp (fEq false) (wOp (fI CR0 gMod) (wVar 0) (wC (.int 2))) (wC (.int 0)))) (wRet (wOp (fAdd true) (wC (.str ".")) (wOp fIx (wVar 1) (wOp (fI CR0 gMod) (wOp (fI CD gDiv) (wVar 0) (wC (.int 2))) (wC (.int 2)))))) wNext)
    (wRet (wCallP true sp__law_operand [] (wCons (wOp (fI CD gDiv) (wVar 0) (wC (.int 2))) (wCons (wVar 1) wNil)))))
@[simp] def sp__law_key : PSp := sp2 p__law_key
theorem v__law_key : ∀ a b Q, p__law_key a b Q → w__law_key (evr Q) (startE ["_law_number", "_law_words_here"] [.d a, .d b]) [] := by
  intro a b Q h
  unfold p__law_key at h
  split at h
  · rename_i n ds
    obtain ⟨ws, rfl, b0, b1, h0, hg, h⟩ := h
    simp [w__law_key]
    split
    · obtain ⟨x, hx, e⟩ := at_word (ws := ws) (i := n / 2 % 2) (n := 2) (by omega) (by omega) (by omega)
      have := (hg x hx).2.1
      simp [e, sizeLine_eq]
      refine ⟨?_, h _ (.inl ⟨x, hx, rfl⟩)⟩
      show 1 + x.length ≤ 16777216
      omega
    · refine ⟨by omega, by omega, h0, fun d hd => h _ (.inr hd)⟩
  · exact h.elim
/-- the defs that come later: name, parameters -/
def planD (pl : List (Str × List Str)) : List D := pl.map fun p => .tup [.str p.1, .tup (p.2.map D.str)]
def opWords : List String := ["plus", "minus", "times", "over", "rest", "less", "same"]
/-- a row that is no head, no foot -/
inductive Simple (ws : List Str) (pl : List (Str × List Str)) : D → Prop
  | put {n : Str} {op : D} : n ∈ ws → OperD ws op → Simple ws pl (.tup [.str "put", .str n, op])
  | doo {n : Str} {a b : D} {o : String} : n ∈ ws → OperD ws a → o ∈ opWords → OperD ws b → Simple ws pl (.tup [.str "do", .str n, a, .str o, b])
  | new {n : Str} : n ∈ ws → Simple ws pl (.tup [.str "new", .str n])
  | get {n o : Str} {k : D} : n ∈ ws → o ∈ ws → KeyD ws k → Simple ws pl (.tup [.str "get", .str n, .str o, k])
  | set {o : Str} {k op : D} : o ∈ ws → KeyD ws k → OperD ws op → Simple ws pl (.tup [.str "set", .str o, k, op])
  | call {n : Str} {p : Str × List Str} {ops : List D} : n ∈ ws → p ∈ pl → ops.length = p.2.length → (∀ d ∈ ops, OperD ws d) → Simple ws pl (.tup [.str "call", .str n, .str p.1, .tup ops])
  | fail {n : Str} : n ∈ ws → Simple ws pl (.tup [.str "fail", .str n])
  | skip : Simple ws pl (.tup [.str "skip"])
@[simp] def p__law_call : D → D → D → D → (W → Sto → Prop) → Prop := fun a n b l Q => match a, n, b, l with
  | .int m, .str n, .lst ds, .lst ls => ∃ (ws : List Str) (pl : List (Str × List Str)), ds = ws.map D.str ∧ ls = planD pl ∧ 0 ≤ m ∧ m ≤ 100000000000000000000000000000000000000000000000000 ∧ 4 ≤ ws.length ∧ pl ≠ [] ∧ pl.length ≤ 1000 ∧ (∀ p ∈ pl, p.2.length ≤ 1000) ∧ n ∈ ws ∧ ∀ d mu, Simple ws pl d → Q (.d d) mu
  | _, _, _, _ => False
def w__law_call : WS := (wSeq (wAsg (wOp fIx (wVar 3) (wOp (fI CR0 gMod) (wVar 0) (wCall fLen (wCons (wVar 3) wNil)))) (wgTup 2 (wgCons (wgName 4) (wgCons (wgName 5) wgNil))))
    (wSeq (wAsg (wLst true wNil) (wgName 6))
    (wSeq (wFor (wRng1 (wCons (wCall fLen (wCons (wVar 5) wNil)) wNil)) (wgName 7) (wDrop (wBM fApp (wVar 6) (wCons (wCallP false sp__law_operand [] (wCons (wOp (fI CD gDiv) (wVar 0) (wOp (fAdd false) (wCall fLen (wCons (wVar 3) wNil)) (wVar 7))) (wCons (wVar 2) wNil))) wNil))))
    (wRet (wTup (wCons (wC (.str "call")) (wCons (wVar 1) (wCons (wVar 4) (wCons (wCall fTuple (wCons (wVar 6) wNil)) wNil)))))))))
@[simp] def sp__law_call : PSp := sp4 p__law_call
theorem v__law_call : ∀ a b c d Q, p__law_call a b c d Q → w__law_call (evr Q) (startE ["_law_number", "_law_name", "_law_words_here", "_law_later", "_law_other", "_law_parameters", "_law_operands", "_law_k"] [.d a, .d b, .d c, .d d]) [] := by
  intro a b c d Q h
  unfold p__law_call at h
  split at h
  · rename_i m n ds ls
    obtain ⟨ws, pl, rfl, rfl, h0, hB, h1, h2, h3, h4, h5, h⟩ := h
    have pl0 : 0 < pl.length := List.length_pos_iff.mpr h2
    have plN : ¬ planD pl = [] := by intro e; have := congrArg List.length e; simp [planD] at this; exact h2 this
    have ll : (planD pl).length = pl.length := by simp [planD]
    have m1 := Int.emod_nonneg m (b := (pl.length : Int)) (by omega)
    have m2 := Int.emod_lt_of_pos m (b := (pl.length : Int)) (by omega)
    obtain ⟨p, hp, ep⟩ : ∃ p, p ∈ pl ∧ atI (planD pl) (m % (pl.length : Int)) = some (.tup [.str p.1, .tup (p.2.map D.str)]) := by
      obtain ⟨d, e, hd⟩ := at_mem (xs := planD pl) (i := m % (pl.length : Int)) m1 (by rw [ll]; exact m2)
      obtain ⟨p, hp, rfl⟩ := List.mem_map.mp hd
      exact ⟨p, hp, e⟩
    have p1 := h4 p hp
    simp [w__law_call, plN, ll, gMod_pos (show (0 : Int) < pl.length by omega), ep, sizeLine_eq]
    refine ⟨by omega, by omega, forL_rng (fun i rh mu => ∃ (ops : List D) (b : Option W), mu = [C.lst ops] ∧ rh = [some (.d (.int m)), some (.d (.str n)), some (.d (.lst (ws.map D.str))), some (.d (.lst (planD pl))), some (.d (.str p.1)), some (.d (.tup (p.2.map D.str))), some (.loc 0), b] ∧ ops.length = i ∧ ∀ d ∈ ops, OperD ws d) (fun _ _ _ _ => trivial) ?_ ?_ ⟨[], _, rfl, rfl, rfl, by simp⟩⟩
    · rintro _ _ ⟨ops, b, rfl, rfl, ho, hops⟩
      simp [sizeLine_eq]
      exact h _ _ (.call h5 hp ho hops)
    · rintro i hi _ _ ⟨ops, b, rfl, rfl, ho, hops⟩ N hN
      have cd : CD m ((pl.length : Int) + i) := CD_of (by omega) (by omega)
      have q0 : (0 : Int) < (pl.length : Int) + i := by omega
      simp [ll, cd, gDiv_pos q0, sizeLine_eq]
      have e1 := Int.ediv_nonneg h0 (Int.le_of_lt q0)
      have e2 := Int.ediv_le_self ((pl.length : Int) + i) h0
      refine ⟨by omega, by omega, h1, fun d hd => ⟨by omega, hN _ _ ⟨ops ++ [d], _, rfl, rfl, by simp [ho], fun x hx => ?_⟩⟩⟩
      rcases List.mem_append.mp hx with hx | hx
      · exact hops x hx
      · rw [List.mem_singleton.mp hx]; exact hd
  · exact h.elim
def planOk (pl : List (Str × List Str)) : Prop := pl.length ≤ 1000 ∧ ∀ p ∈ pl, p.2.length ≤ 1000
theorem plan_dep {pl : List (Str × List Str)} : ddeps (planD pl) ≤ 5 := ddeps_le fun x hx => by
  obtain ⟨p, _, rfl⟩ := List.mem_map.mp hx
  have : ddeps (p.2.map D.str) ≤ 0 := ddeps_le fun y hy => by
    obtain ⟨z, _, rfl⟩ := List.mem_map.mp hy; simp
  simp; omega
theorem deqvs_e (xs : List D) : deqvs xs [] = xs.isEmpty := by cases xs <;> simp
@[simp] def p__law_simple : D → D → D → (W → Sto → Prop) → Prop := fun a b l Q => match a, b, l with
  | .int m, .lst ds, .lst ls => ∃ (ws : List Str) (pl : List (Str × List Str)), ds = ws.map D.str ∧ ls = planD pl ∧ 0 ≤ m ∧ m ≤ 100000000000000000000000000000000000000000000000000 ∧ 6 ≤ ws.length ∧ (∀ w ∈ ws, goodW w) ∧ planOk pl ∧ ∀ d mu, Simple ws pl d → Q (.d d) mu
  | _, _, _ => False
def w__law_simple : WS := (wSeq (wAsg (wOp (fI CR0 gMod) (wVar 0) (wC (.int 13))) (wgName 3))
    (wSeq (wAsg (wOp fIx (wVar 1) (wOp (fI CR0 gMod) (wOp (fI CD gDiv) (wVar 0) (wC (.int 13))) (wC (.int 4)))) (wgName 4))
    (wSeq (wAsg (wOp fIx (wVar 1) (wOp (fI CR0 gMod) (wOp (fI CD gDiv) (wVar 0) (wC (.int 52))) (wC (.int 4)))) (wgName 5))
    (wSeq (wAsg (wOp (fI CD gDiv) (wVar 0) (wC (.int 208))) (wgName 6))
    (wSeq (wIfS (wTest (wOp (fB0 fun i j => decide (i < j)) (wVar 3) (wC (.int 2)))) (wRet (wTup (wCons (wC (.str "put")) (wCons (wVar 4) (wCons (wCallP false sp__law_operand [] (wCons (wVar 6) (wCons (wVar 1) wNil))) wNil))))) wNext)
    (wSeq (wIfS (wTest (wOp (fB0 fun i j => decide (i < j)) (wVar 3) (wC (.int 5)))) (wSeq (wAsg (wOp fIx (wLst false (wCons (wC (.str "plus")) (wCons (wC (.str "minus")) (wCons (wC (.str "times")) (wCons (wC (.str "over")) (wCons (wC (.str "rest")) (wCons (wC (.str "less")) (wCons (wC (.str "same")) wNil)))))))) (wOp (fI CR0 gMod) (wVar 6) (wC (.int 7)))) (wgName 7))
    (wRet (wTup (wCons (wC (.str "do")) (wCons (wVar 4) (wCons (wCallP false sp__law_operand [] (wCons (wOp (fI CD gDiv) (wVar 6) (wC (.int 7))) (wCons (wVar 1) wNil))) (wCons (wVar 7) (wCons (wCallP false sp__law_operand [] (wCons (wOp (fI CD gDiv) (wVar 6) (wC (.int 420))) (wCons (wVar 1) wNil))) wNil)))))))) wNext)
    (wSeq (wIfS (wTest (wOp (fEq false) (wVar 3) (wC (.int 5)))) (wRet (wTup (wCons (wC (.str "new")) (wCons (wVar 4) wNil)))) wNext)
    (wSeq (wIfS (wTest (wOp (fB0 fun i j => decide (i < j)) (wVar 3) (wC (.int 8)))) (wRet (wTup (wCons (wC (.str "get")) (wCons (wVar 4) (wCons (wVar 5) (wCons (wCallP false sp__law_key [] (wCons (wVar 6) (wCons (wVar 1) wNil))) wNil)))))) wNext)
    (wSeq (wIfS (wTest (wOp (fB0 fun i j => decide (i < j)) (wVar 3) (wC (.int 10)))) (wRet (wTup (wCons (wC (.str "set")) (wCons (wVar 5) (wCons (wCallP false sp__law_key [] (wCons (wVar 6) (wCons (wVar 1) wNil))) (wCons (wCallP false sp__law_operand [] (wCons (wOp (fI CD gDiv) (wVar 6) (wC (.int 90))) (wCons (wVar 1) wNil))) wNil)))))) wNext)
    (wSeq (wIfS (wAnd (wTest (wOp (fEq false) (wVar 3) (wC (.int 10)))) (wTest (wOp (fEq true) (wVar 2) (wLst false wNil)))) (wRet (wCallP true sp__law_call [] (wCons (wVar 6) (wCons (wVar 4) (wCons (wVar 1) (wCons (wVar 2) wNil)))))) wNext)
    (wSeq (wIfS (wAnd (wTest (wOp (fEq false) (wVar 3) (wC (.int 11)))) (wTest (wOp (fEq false) (wOp (fI CR0 gMod) (wVar 6) (wC (.int 3))) (wC (.int 0))))) (wRet (wTup (wCons (wC (.str "fail")) (wCons (wOp fIx (wVar 1) (wOp (fAdd false) (wC (.int 4)) (wOp (fI CR0 gMod) (wOp (fI CD gDiv) (wVar 6) (wC (.int 3))) (wC (.int 2))))) wNil)))) wNext)
    (wSeq (wIfS (wAnd (wTest (wOp (fEq false) (wVar 3) (wC (.int 12)))) (wTest (wOp (fEq false) (wOp (fI CR0 gMod) (wVar 6) (wC (.int 2))) (wC (.int 0))))) (wRet (wTup (wCons (wC (.str "skip")) wNil))) wNext)
    (wRet (wTup (wCons (wC (.str "put")) (wCons (wVar 4) (wCons (wVar 5) wNil)))))))))))))))))
@[simp] def sp__law_simple : PSp := sp3 p__law_simple
theorem v__law_simple : ∀ a b c Q, p__law_simple a b c Q → w__law_simple (evr Q) (startE ["_law_number", "_law_words_here", "_law_later", "_law_kind", "_law_name", "_law_other", "_law_rest", "_law_word"] [.d a, .d b, .d c]) [] := by
  intro a b c Q h
  unfold p__law_simple at h
  split at h
  · rename_i m ds ls
    obtain ⟨ws, pl, rfl, rfl, h0, hB, h1, hg, hp, h⟩ := h
    have h4 : 4 ≤ ws.length := by omega
    obtain ⟨n, hn, en⟩ := at_word (ws := ws) (i := m / 13 % 4) (n := 4) (by omega) (by omega) h4
    obtain ⟨o, ho, eo⟩ := at_word (ws := ws) (i := m / 52 % 4) (n := 4) (by omega) (by omega) h4
    have en' : atI (ws.map (W.d ∘ D.str)) (m / 13 % 4) = some (.d (.str n)) := by rw [atI_comp, en]; rfl
    have b1 : 0 ≤ m / 208 ∧ m / 208 ≤ m := ⟨by omega, by omega⟩
    have oput := h _ [] (.put (n := n) (op := .str o) hn (.inl ⟨o, ho, rfl⟩))
    have oskip := h _ [] (.skip)
    have tail : ∀ (_ : 10 ≤ m % 13), if m % 13 = 11 then
                if m / 208 % 3 = 0 then
                  ∃ d,
                    atI (List.map D.str ws) (4 + m / 208 / 3 % 2) = some d ∧
                      Q (W.d (D.tup [D.str (Str.ofString "fail"), d])) []
                else
                  if m % 13 = 12 then
                    if m / 208 % 2 = 0 then Q (W.d (D.tup [D.str (Str.ofString "skip")])) []
                    else Q (W.d (D.tup [D.str (Str.ofString "put"), D.str n, D.str o])) []
                  else Q (W.d (D.tup [D.str (Str.ofString "put"), D.str n, D.str o])) []
              else
                if m % 13 = 12 then
                  if m / 208 % 2 = 0 then Q (W.d (D.tup [D.str (Str.ofString "skip")])) []
                  else Q (W.d (D.tup [D.str (Str.ofString "put"), D.str n, D.str o])) []
                else Q (W.d (D.tup [D.str (Str.ofString "put"), D.str n, D.str o])) [] := by
      intro _
      split
      · split
        · obtain ⟨j, ej, j0, j1⟩ : ∃ j : Nat, 4 + m / 208 / 3 % 2 = (j : Int) ∧ 4 ≤ j ∧ j < 6 := ⟨(4 + m / 208 / 3 % 2).toNat, by omega, by omega, by omega⟩
          rw [ej]
          refine ⟨.str ws[j], by rw [at_nat (by omega) (by simp; omega)]; simp [show j < ws.length by omega], h _ _ (.fail ?_)⟩
          exact List.getElem_mem _
        · split
          · split
            · exact oskip
            · exact oput
          · exact oput
      · split
        · split
          · exact oskip
          · exact oput
        · exact oput
    simp [w__law_simple, en, eo, sizeLine_eq]
    refine ite_of (fun c => ?_) (fun c => ite_of (fun c2 => ?_) (fun c2 => ite_of (fun c3 => ?_) (fun c3 => ite_of (fun c4 => ?_) (fun c4 => ite_of (fun c5 => ?_) (fun c5 => ite_of (fun c6 => ?_) (fun c6 => ?_))))))
    · exact ⟨by omega, by omega, h4, fun d hd => h _ _ (.put hn hd)⟩
    · obtain ⟨d, e, hd⟩ := at_mem (xs := opWords.map fun z => D.str (Str.ofString z)) (i := m / 208 % 7) (by omega) (by simp [opWords]; omega)
      obtain ⟨z, hz, rfl⟩ := List.mem_map.mp hd
      exact ⟨_, e, by omega, by omega, h4, fun a ha => ⟨by omega, by omega, h4, fun b hb => h _ _ (.doo hn ha hz hb)⟩⟩
    · exact h _ _ (.new hn)
    · exact ⟨by omega, by omega, h4, hg, fun d hd => h _ _ (.get hn ho hd)⟩
    · exact ⟨by omega, by omega, h4, hg, fun d hd => ⟨by omega, by omega, h4, fun op hop => h _ _ (.set ho hd hop)⟩⟩
    · refine ⟨Nat.le_trans plan_dep (by decide), ?_⟩
      rw [deqvs_e]
      refine ite_of (fun he => tail (by omega)) (fun he => ?_)
      refine ⟨pl, rfl, by omega, by omega, h4, ?_, hp.1, ?_, hn, fun d mu hd => h _ _ hd⟩
      · rintro rfl; simp [planD] at he
      · exact fun a b hab => hp.2 (a, b) hab
    · exact tail (by omega)
  · exact h.elim
theorem rngW_nats (k : Nat) : rngW 0 k = ((List.range k).map fun j => D.int (j : Nat)).map W.d := by
  refine List.ext_getElem? fun i => ?_
  by_cases h : i < k
  · rw [rngW_get 0 k i h]; simp [h]
  · rw [List.getElem?_eq_none (by rw [rngW_len]; omega), List.getElem?_eq_none (by simp; omega)]
/-- a plan: which defs there are -/
structure PlanIn (ws : List Str) (pl : List (Str × List Str)) : Prop where
  pos : 1 ≤ pl.length
  few : pl.length ≤ 3
  nm : ∀ (i : Nat) (p : Str × List Str), pl[i]? = some p → ws[i]? = some p.1
  ps : ∀ p ∈ pl, p.2.length ≤ 4 ∧ (∀ x ∈ p.2, x ∈ ws) ∧ p.2.Nodup
theorem PlanIn.ok {ws : List Str} {pl : List (Str × List Str)} (h : PlanIn ws pl) : planOk pl := ⟨by have := h.few; omega, fun p hp => by have := (h.ps p hp).1; omega⟩
@[simp] def p__law_plan : D → D → (W → Sto → Prop) → Prop := fun a b Q => match a, b with
  | .int _, .lst ds => ∃ ws : List Str, ds = ws.map D.str ∧ 4 ≤ ws.length ∧ ws.Nodup ∧ ∀ pl, PlanIn ws pl → Q (.loc 0) [.lst (planD pl)]
  | _, _ => False
def w__law_plan : WS := (wSeq (wAsg (wOp (fI CR0 gMod) (wVar 0) (wOp (fI CPow fun i j => i ^ j.toNat) (wC (.int 10)) (wC (.int 9)))) (wgName 2))
    (wSeq (wAsg (wLst true wNil) (wgName 3))
    (wSeq (wFor (wRng1 (wCons (wOp (fAdd false) (wC (.int 1)) (wOp (fI CR0 gMod) (wVar 2) (wC (.int 3)))) wNil)) (wgName 4) (wSeq (wAsg (wOp (fI CR0 gMod) (wOp (fAdd false) (wOp (fAdd false) (wOp (fMul false) (wVar 2) (wVar 2)) (wOp (fMul false) (wC (.int 48271)) (wVar 2))) (wVar 4)) (wC (.int 2147483647))) (wgName 2))
    (wSeq (wAsg (wLc false (wRng1 (wCons (wOp (fI CR0 gMod) (wVar 2) (wC (.int 3))) wNil)) (wgName 6) wYes (wOp fIx (wVar 1) (wOp (fI CR0 gMod) (wOp (fAdd false) (wOp (fI CD gDiv) (wVar 2) (wC (.int 3))) (wVar 6)) (wC (.int 4)))) [6]) (wgName 5))
    (wDrop (wBM fApp (wVar 3) (wCons (wTup (wCons (wOp fIx (wVar 1) (wVar 4)) (wCons (wCall fTuple (wCons (wVar 5) wNil)) wNil))) wNil))))))
    (wRet (wVar 3)))))
@[simp] def sp__law_plan : PSp := sp2 p__law_plan
theorem v__law_plan : ∀ a b Q, p__law_plan a b Q → w__law_plan (evr Q) (startE ["_law_cell", "_law_words_here", "_law_number", "_law_plan_here", "_law_k", "_law_parameters", "_law_j"] [.d a, .d b]) [] := by
  intro a b Q h
  unfold p__law_plan at h
  split at h
  · rename_i c ds
    obtain ⟨ws, rfl, h4, hnd, h⟩ := h
    obtain ⟨m, em, m0, m1⟩ : ∃ m : Nat, (1 + c % 1000000000 % 3 : Int) = m ∧ 1 ≤ m ∧ m ≤ 3 := ⟨(1 + c % 1000000000 % 3 : Int).toNat, by omega, by omega, by omega⟩
    simp [w__law_plan, sizeLine_eq, em]
    refine ⟨by omega, forL_rng (fun k rh mu => ∃ (pl : List (Str × List Str)) (n : Int) (x1 x2 x3 : Option W), 0 ≤ n ∧ n < 2147483647 ∧ mu = [C.lst (planD pl)] ∧ rh = [some (.d (.int c)), some (.d (.lst (ws.map D.str))), some (.d (.int n)), some (.loc 0), x1, x2, x3] ∧
      pl.length = k ∧ (∀ (i : Nat) (p : Str × List Str), pl[i]? = some p → ws[i]? = some p.1) ∧ ∀ p ∈ pl, p.2.length ≤ 4 ∧ (∀ x ∈ p.2, x ∈ ws) ∧ p.2.Nodup) (fun _ _ _ _ => trivial) ?_ ?_ ⟨[], c % 1000000000, _, _, _, by omega, by omega, rfl, rfl, rfl, by simp, by simp⟩⟩
    · rintro _ _ ⟨pl, n, x1, x2, x3, n0, n1, rfl, rfl, e1, e2, e3⟩
      simp
      exact h pl ⟨by omega, by omega, e2, e3⟩
    · rintro k hk _ _ ⟨pl, n, x1, x2, x3, n0, n1, rfl, rfl, e1, e2, e3⟩ N hN
      have c1 : CM n n := CM_r (by omega) (by omega)
      have v0 : 0 ≤ (n * n + 48271 * n + (k : Int)) % 2147483647 := by omega
      have v1 : (n * n + 48271 * n + (k : Int)) % 2147483647 < 2147483647 := by omega
      have lk : k < ws.length := by omega
      have wk : atI (ws.map D.str) (k : Int) = some (.str ws[k]) := by
        rw [at_nat (by omega) (by simp; omega)]; simp [lk]
      have lp : (planD pl).length = k := by simp [planD, e1]
      have wj : ∀ j : Nat, j < 4 → ∃ x, x ∈ ws ∧ atI (ws.map D.str) (j : Int) = some (.str x) ∧ ws[j]? = some x := fun j hj => by
        refine ⟨ws[j]'(by omega), ?_, ?_, by simp [show j < ws.length by omega]⟩
        · exact List.getElem_mem _
        · rw [at_nat (by omega) (by simp; omega)]; simp [show j < ws.length by omega]
      simp [c1, sizeLine_eq]
      generalize (n * n + 48271 * n + (k : Int)) % 2147483647 = v at *
      have wsel : ∀ j : Nat, ∃ x, x ∈ ws ∧ atI (ws.map D.str) ((v / 3 + (j : Int)) % 4) = some (.str x) ∧ ws[((v / 3 + (j : Int)) % 4).toNat]? = some x := fun j => by
        obtain ⟨i, ei, hi⟩ : ∃ i : Nat, (v / 3 + (j : Int)) % 4 = (i : Int) ∧ i < 4 := ⟨((v / 3 + (j : Int)) % 4).toNat, by omega, by omega⟩
        obtain ⟨x, h1, h2, h3⟩ := wj i hi
        exact ⟨x, h1, by rw [ei]; exact h2, by rw [ei]; simpa using h3⟩
      let sel : Nat → Str := fun j => (ws[((v / 3 + (j : Int)) % 4).toNat]?).getD (Str.ofString "")
      have hsel : ∀ j : Nat, sel j ∈ ws ∧ atI (ws.map D.str) ((v / 3 + (j : Int)) % 4) = some (.str (sel j)) := fun j => by
        obtain ⟨x, h1, h2, h3⟩ := wsel j
        have : sel j = x := by simp [sel, h3]
        rw [this]; exact ⟨h1, h2⟩
      have selN : ∀ n : Nat, n ≤ 4 → ((List.range n).map sel).Nodup := fun n hn => by
        rw [List.Nodup, List.pairwise_map]
        refine List.Pairwise.imp_of_mem (R := (· ≠ ·)) (fun {x y} hx hy hxy e => hxy ?_) List.nodup_range
        have hx' := List.mem_range.mp hx
        have hy' := List.mem_range.mp hy
        obtain ⟨_, _, _, g1⟩ := wsel x
        obtain ⟨_, _, _, g2⟩ := wsel y
        simp only [sel, g1, g2, Option.getD_some] at e
        subst e
        obtain ⟨l1, q1⟩ := List.getElem?_eq_some_iff.mp g1
        obtain ⟨l2, q2⟩ := List.getElem?_eq_some_iff.mp g2
        have this := List.pairwise_iff_getElem.mp hnd
        rcases Nat.lt_trichotomy ((v / 3 + (x : Int)) % 4).toNat ((v / 3 + (y : Int)) % 4).toNat with q | q | q
        · exact absurd (by rw [q1, q2]) (this _ _ l1 l2 q)
        · omega
        · exact absurd (by rw [q1, q2]) (this _ _ l2 l1 q)
      have fin : ∀ (qs : List Str) (x2 x3 : Option W), qs.length ≤ 4 → (∀ x ∈ qs, x ∈ ws) → qs.Nodup → N [some (.d (.int c)), some (.d (.lst (ws.map D.str))), some (.d (.int v)), some (.loc 0), some (.d (.int k)), x2, x3] [C.lst (planD pl ++ [.tup [.str ws[k], .tup (qs.map D.str)]])] := fun qs x2 x3 q1 q2 q3 => by
        refine hN _ _ ⟨pl ++ [(ws[k], qs)], v, _, _, _, v0, v1, by simp [planD], rfl, by simp [e1], fun i p hp => ?_, fun p hp => ?_⟩
        · by_cases q : i < pl.length
          · rw [List.getElem?_append_left q] at hp; exact e2 i p hp
          · have hl := (List.getElem?_eq_some_iff.mp hp).1
            simp at hl
            obtain rfl : i = pl.length := by omega
            simp at hp
            subst hp
            subst e1
            simp
        · rcases List.mem_append.mp hp with hp | hp
          · exact e3 p hp
          · rw [List.mem_singleton.mp hp]; exact ⟨q1, q2, q3⟩
      obtain ⟨n3, e3, hn3⟩ : ∃ n : Nat, v % 3 = (n : Int) ∧ n ≤ 4 := ⟨(v % 3).toNat, by omega, by omega⟩
      obtain ⟨n5, e5, hn5⟩ : ∃ n : Nat, v % 5 = (n : Int) ∧ n ≤ 4 := ⟨(v % 5).toNat, by omega, by omega⟩
      simp [e3, e5, wk, lp]
      first
        | (refine ⟨by omega, ?_⟩; rw [rngW_nats n3]; have hn := hn3; revert hn; generalize n3 = n)
        | (refine ⟨by omega, ?_⟩; rw [rngW_nats n5]; have hn := hn5; revert hn; generalize n5 = n)
      intro hn
      refine lc_M (fun d => match d with | .int j => .str (sel j.toNat) | _ => .non) trivial (fun d hd A q => ?_) ?_
      · obtain ⟨j, _, rfl⟩ := List.mem_map.mp hd
        have := (hsel j).2
        simp [this]
        simpa using q
      · simp only [asDs_map]
        simp
        have := fin ((List.range n).map sel) (some (.d (.lst ((List.range n).map fun j => D.str (sel j))))) x3 (by simpa using hn) (fun x hx => by obtain ⟨j, _, rfl⟩ := List.mem_map.mp hx; exact (hsel j).1) (selN n hn)
        simp only [List.map_map] at this
        exact ⟨by omega, this⟩
  · exact h.elim
/-- the rows of a body so far; the blocks that are open -/
inductive Part (ws : List Str) (pl : List (Str × List Str)) : List String → List D → Prop
  | nil : Part ws pl [] []
  | row {st : List String} {rs : List D} {r : D} : Part ws pl st rs → Simple ws pl r → Part ws pl st (rs ++ [r])
  | opIf {st : List String} {rs : List D} {op : D} : Part ws pl st rs → OperD ws op → Part ws pl (st ++ ["if"]) (rs ++ [.tup [.str "if", op]])
  | opWhile {st : List String} {rs : List D} {op : D} : Part ws pl st rs → OperD ws op → Part ws pl (st ++ ["while"]) (rs ++ [.tup [.str "while", op]])
  | els {st : List String} {rs : List D} : Part ws pl (st ++ ["if"]) rs → Part ws pl (st ++ ["else"]) (rs ++ [.tup [.str "else"]])
  | cls {st : List String} {rs : List D} {w : String} : Part ws pl (st ++ [w]) rs → Part ws pl st (rs ++ [.tup [.str "end"]])
def stD (st : List String) : List D := st.map fun z => .str (Str.ofString z)
def lay1 (rs : List D) (st : List String) (mu : Sto) (i j : Nat) : Sto := (mu.set i (.lst rs)).set j (.lst (stD st))
@[simp] def p__law_lay : W → W → W → W → W → Sto → (W → Sto → Prop) → Prop := fun a b c d e mu Q => ∃ (i j : Nat) (pre rs : List D) (st : List String) (n : Int) (ws : List Str) (pl : List (Str × List Str)),
  a = .loc i ∧ b = .loc j ∧ c = .d (.int n) ∧ d = .d (.lst (ws.map D.str)) ∧ e = .d (.lst (planD pl)) ∧ i ≠ j ∧ mu[i]? = some (.lst (pre ++ rs)) ∧ mu[j]? = some (.lst (stD st)) ∧
  Part ws pl st rs ∧ pre.length + rs.length ≤ 1000 ∧ st.length ≤ 4 ∧ 6 ≤ ws.length ∧ (∀ w ∈ ws, goodW w) ∧ planOk pl ∧
  ∀ rs' st', Part ws pl st' rs' → rs'.length + st'.length ≤ rs.length + st.length + 3 → st'.length ≤ 4 → Q (.d .non) (lay1 (pre ++ rs') st' mu i j)
theorem set_same {A1 : Type} {x : A1} : ∀ {xs : List A1} {j : Nat}, xs[j]? = some x → xs.set j x = xs
  | [], _, _ => by simp
  | y :: ys, 0, h => by simp at h; simp [h]
  | y :: ys, j + 1, h => by simp at h; simp [set_same h]
theorem at_last {A1 : Type} (xs : List A1) (x : A1) : atI (xs ++ [x]) (-1) = some x := by
  unfold atI ixN
  rw [if_neg (by omega), if_pos (by simp; omega)]
  show (xs ++ [x])[_]? = _
  have : ((-1 : Int) + ((xs ++ [x]).length : Nat)).toNat = xs.length := by simp; omega
  rw [this]; simp
theorem intB {rh : Ev} {mu : Sto} (d : D) : Is (wC d) rh mu (.d d) := fun K hK => by simpa using hK
theorem varB {rh : Ev} {mu : Sto} {i : Nat} {w : W} (e : rh[i]? = some (some w)) : Is (wVar i) rh mu w := fun K hK => by simp [e]; exact hK
theorem appB {o e : WE} {V : EV} {rh : Ev} {mu : Sto} {l : Nat} {xs : List D} (d : D) (ho : Is o rh mu (.loc l)) (he : Is e rh mu (.d d)) (h1 : mu[l]? = some (.lst xs)) (hl : xs.length < sizeLine) (q : V.nx rh (mu.set l (.lst (xs ++ [d])))) : wDrop (wBM fApp o (wCons e wNil)) V rh mu := ho _ ⟨by simp [h1], he _ (by
  simp [h1]; exact ⟨hl, q⟩)⟩
theorem eqI {a : WE} {rh : Ev} {mu : Sto} {n z : Int} (ha : Is a rh mu (.d (.int n))) : IsB (wTest (wOp (fEq false) a (wC (.int z)))) rh mu (n == z) := fun K hK => ha _ (by simpa using hK)
theorem andB {f g : WT} {rh : Ev} {mu : Sto} {a b : Bool} (h : IsB f rh mu a) (h2 : IsB g rh mu b) : IsB (wAnd f g) rh mu (a && b) := fun K hK => h _ (by cases a <;> simp at hK ⊢; exact hK; exact h2 _ hK)
theorem andB' {f g : WT} {rh : Ev} {mu : Sto} {a b : Bool} (h : IsB f rh mu a) (h2 : a = true → IsB g rh mu b) : IsB (wAnd f g) rh mu (a && b) := fun K hK => h _ (by cases a <;> simp at hK h2 ⊢; exact hK; exact h2 _ hK)
theorem div_is {a : WE} {rh : Ev} {mu : Sto} {n z : Int} (hz : 0 < z) (hl : z < 1000000) (ha : Is a rh mu (.d (.int n))) : Is (wOp (fI CD gDiv) a (wC (.int z))) rh mu (.d (.int (n / z))) := fun K hK => ha _ (by
  have cd : CD n z := CD_of (by omega) (by omega)
  simp only [wC, fI]
  exact ⟨cd, by rw [gDiv_pos hz]; exact hK⟩)
theorem isB_of {c : WT} {rh : Ev} {mu : Sto} {b b' : Bool} (h : IsB c rh mu b) (e : b = b') : IsB c rh mu b' := e ▸ h
theorem mod_is {a : WE} {rh : Ev} {mu : Sto} {n z : Int} (hz : 0 < z) (ha : Is a rh mu (.d (.int n))) : Is (wOp (fI CR0 gMod) a (wC (.int z))) rh mu (.d (.int (n % z))) := fun K hK => ha _ (by
  simp only [wC, fI, CR0]
  exact ⟨by omega, by rw [gMod_pos hz]; exact hK⟩)

theorem tupI {g : WA} {rh : Ev} {mu : Sto} (ds : List D) (hd : ds.length ≤ 10) (hg : ∀ K : List W → Sto → Prop, K (ds.map W.d) mu → g rh mu K) : Is (wTup g) rh mu (.d (.tup ds)) := fun K hK => hg _ (by
  simp only [mkTup, asDs_map]
  exact ⟨by rw [sizeLine_eq]; simp; omega, hK⟩)
theorem oper_to {ws : List Str} {a b : WE} {rh : Ev} {mu : Sto} {K : W → Sto → Prop} {n : Int} (h0 : 0 ≤ n) (h1 : n ≤ 100000000000000) (hl : 4 ≤ ws.length) (ha : Is a rh mu (.d (.int n))) (hb : Is b rh mu (.d (.lst (ws.map D.str)))) (h : ∀ d, OperD ws d → K (.d d) mu) : wCallP false sp__law_operand [] (wCons a (wCons b wNil)) rh mu K := ha _ (hb _ (by
  simp only [snaps, snap, wNil]
  refine ⟨ws, rfl, by omega, by omega, hl, fun d hd => ?_⟩
  have := h d hd
  simpa using this))
theorem simple_to {ws : List Str} {pl : List (Str × List Str)} {a b c : WE} {rh : Ev} {mu : Sto} {K : W → Sto → Prop} {n : Int} (h0 : 0 ≤ n) (h1 : n ≤ 100000000000000) (hl : 6 ≤ ws.length) (hg : ∀ w ∈ ws, goodW w) (hp : planOk pl) (ha : Is a rh mu (.d (.int n))) (hb : Is b rh mu (.d (.lst (ws.map D.str)))) (hc : Is c rh mu (.d (.lst (planD pl)))) (h : ∀ r, Simple ws pl r → K (.d r) mu) : wCallP false sp__law_simple [] (wCons a (wCons b (wCons c wNil))) rh mu K := ha _ (hb _ (hc _ (by
  simp only [snaps, snap, wNil]
  refine ⟨ws, pl, rfl, rfl, h0, by omega, hl, hg, hp, fun r mu' hr => ?_⟩
  have := h r hr
  simpa using this)))
def w__law_lay : WS := (wSeq (wAsg (wOp (fI CR0 gMod) (wOp (fMul false) (wOp (fI CD gDiv) (wVar 2) (wC (.int 8))) (wC (.int 48271))) (wC (.int 2147483647))) (wgName 5))
    (wSeq (wAsg (wOp (fI CR0 gMod) (wVar 2) (wC (.int 8))) (wgName 6))
    (wIfS (wAnd (wTest (wOp (fEq false) (wVar 6) (wC (.int 0)))) (wTest (wOp (fB0 fun i j => decide (i < j)) (wCall fLen (wCons (wVar 1) wNil)) (wC (.int 4))))) (wSeq (wDrop (wBM fApp (wVar 0) (wCons (wTup (wCons (wC (.str "if")) (wCons (wCallP false sp__law_operand [] (wCons (wVar 5) (wCons (wVar 3) wNil))) wNil))) wNil)))
    (wDrop (wBM fApp (wVar 1) (wCons (wC (.str "if")) wNil)))) (wIfS (wAnd (wTest (wOp (fEq false) (wVar 6) (wC (.int 1)))) (wTest (wOp (fB0 fun i j => decide (i < j)) (wCall fLen (wCons (wVar 1) wNil)) (wC (.int 4))))) (wSeq (wDrop (wBM fApp (wVar 1) (wCons (wC (.str "while")) wNil)))
    (wIfS (wTest (wOp (fEq false) (wOp (fI CR0 gMod) (wVar 5) (wC (.int 3))) (wC (.int 0)))) (wDrop (wBM fApp (wVar 0) (wCons (wTup (wCons (wC (.str "while")) (wCons (wCallP false sp__law_operand [] (wCons (wOp (fI CD gDiv) (wVar 5) (wC (.int 3))) (wCons (wVar 3) wNil))) wNil))) wNil))) (wSeq (wAsg (wOp fIx (wVar 3) (wOp (fI CR0 gMod) (wOp (fI CD gDiv) (wVar 5) (wC (.int 3))) (wC (.int 4)))) (wgName 7))
    (wSeq (wDrop (wBM fApp (wVar 0) (wCons (wTup (wCons (wC (.str "while")) (wCons (wVar 7) wNil))) wNil)))
    (wDrop (wBM fApp (wVar 0) (wCons (wTup (wCons (wC (.str "do")) (wCons (wVar 7) (wCons (wVar 7) (wCons (wC (.str "minus")) (wCons (wC (.int 1)) wNil)))))) wNil))))))) (wIfS (wAnd (wTest (wOp (fEq false) (wVar 6) (wC (.int 2)))) (wAnd (wTest (wOp (fEq true) (wVar 1) (wLst false wNil))) (wTest (wOp (fEq false) (wOp fIx (wVar 1) (wUn (fun i => -i) (wC (.int 1)))) (wC (.str "if")))))) (wSeq (wDrop (wBM fApp (wVar 0) (wCons (wTup (wCons (wC (.str "else")) wNil)) wNil)))
    (wAsg (wC (.str "else")) (wgSub fSetL (wVar 1) (wUn (fun i => -i) (wC (.int 1)))))) (wIfS (wAnd (wTest (wOp (fEq false) (wVar 6) (wC (.int 3)))) (wTest (wOp (fEq true) (wVar 1) (wLst false wNil)))) (wSeq (wDrop (wBM fApp (wVar 0) (wCons (wTup (wCons (wC (.str "end")) wNil)) wNil)))
    (wDrop (wBM fPop (wVar 1) wNil))) (wDrop (wBM fApp (wVar 0) (wCons (wCallP false sp__law_simple [] (wCons (wVar 5) (wCons (wVar 3) (wCons (wVar 4) wNil)))) wNil)))))))))
@[simp] def sp__law_lay : VSp := sS5 p__law_lay
theorem v__law_lay : ∀ a b c d e mu Q, p__law_lay a b c d e mu Q → w__law_lay (evr Q) (startE ["_law_rows", "_law_stack", "_law_cell", "_law_words_here", "_law_later", "_law_number", "_law_move", "_law_name"] [a, b, c, d, e]) mu := by
  rintro _ _ _ _ _ mu Q ⟨i, j, pre, rs, st, n, ws, pl, rfl, rfl, rfl, rfl, rfl, hij, hi, hj, hp, hrl, hsl, h6, hg, hpl, h⟩
  have li := (List.getElem?_eq_some_iff.mp hi).1
  have lj := (List.getElem?_eq_some_iff.mp hj).1
  have sz : ∀ m : Nat, m ≤ 10000 → m < sizeLine := fun m hm => by rw [sizeLine_eq]; omega
  have hs1 : ∀ c, (mu.set i c)[j]? = some (C.lst (stD st)) := fun c => by rw [List.getElem?_set_ne hij]; exact hj
  have app : ∀ z : String, stD st ++ [.str (Str.ofString z)] = stD (st ++ [z]) := fun z => by simp [stD]
  have same : ∀ rs', lay1 rs' st mu i j = mu.set i (.lst rs') := fun rs' => set_same (hs1 _)
  have set2 : ∀ (c c' : C), (mu.set i c).set i c' = mu.set i c' := fun c c' => List.set_set ..
  unfold w__law_lay
  obtain ⟨u, eu, u0, u1⟩ : ∃ u : Int, n / 8 * 48271 % 2147483647 = u ∧ 0 ≤ u ∧ u < 2147483647 := ⟨_, rfl, Int.emod_nonneg _ (by decide), Int.emod_lt_of_pos _ (by decide)⟩
  refine seq_to [some (.loc i), some (.loc j), some (.d (.int n)), some (.d (.lst (ws.map D.str))), some (.d (.lst (planD pl))), some (.d (.int u)), none, none] mu (fun K hK => by simp [eu]; exact hK) ?_
  clear eu
  obtain ⟨k, ek⟩ : ∃ k : Int, n % 8 = k := ⟨_, rfl⟩
  refine seq_to [some (.loc i), some (.loc j), some (.d (.int n)), some (.d (.lst (ws.map D.str))), some (.d (.lst (planD pl))), some (.d (.int u)), some (.d (.int k)), none] mu (fun K hK => by simp [ek]; exact hK) ?_
  clear ek
  obtain ⟨x, hx, ew⟩ := at_word (ws := ws) (i := u / 3 % 4) (n := 4) (by omega) (by omega) (by omega)
  generalize hr0 : [some (W.loc i), some (.loc j), some (.d (.int n)), some (.d (.lst (ws.map D.str))), some (.d (.lst (planD pl))), some (.d (.int u)), some (.d (.int k)), none] = rh0 at *
  have v0 : rh0[0]? = some (some (.loc i)) := by rw [← hr0]; rfl
  have v1 : rh0[1]? = some (some (.loc j)) := by rw [← hr0]; rfl
  have v3 : rh0[3]? = some (some (.d (.lst (ws.map D.str)))) := by rw [← hr0]; rfl
  have v4 : rh0[4]? = some (some (.d (.lst (planD pl)))) := by rw [← hr0]; rfl
  have v5 : rh0[5]? = some (some (.d (.int u))) := by rw [← hr0]; rfl
  have v6 : rh0[6]? = some (some (.d (.int k))) := by rw [← hr0]; rfl
  have ix : Is (wOp fIx (wVar 3) (wOp (fI CR0 gMod) (wOp (fI CD gDiv) (wVar 5) (wC (.int 3))) (wC (.int 4)))) rh0 (mu.set j (.lst (stD st ++ [.str (Str.ofString "while")]))) (.d (.str x)) := ix_lst (varB v3) (mod_is (by decide) (div_is (by decide) (by decide) (varB v5))) ew
  have lst : IsB (wTest (wOp (fB0 fun i j => decide (i < j)) (wCall fLen (wCons (wVar 1) wNil)) (wC (.int 4)))) rh0 mu (decide (st.length < 4)) := fun K hK => by
    simp only [wTest, wOp, wCall, wCons, wNil]
    refine varB v1 _ ?_
    simp [hj, stD]
    rw [show decide ((st.length : Int) < 4) = decide (st.length < 4) from decide_eq_decide.mpr (by omega)]
    exact hK
  have nst : IsB (wTest (wOp (fEq true) (wVar 1) (wLst false wNil))) rh0 mu (!st.isEmpty) := fun K hK => by
    simp only [wTest, wOp]
    refine varB v1 _ ?_
    have e : deqvs (stD st) [] = st.isEmpty := by rw [deqvs_e]; simp [stD]
    have dst : ddeps (stD st) ≤ 63 := ddeps_le fun x hx => by
      obtain ⟨z, _, rfl⟩ := List.mem_map.mp hx; simp
    simp [sizeLine_eq, hj, e]
    exact ⟨by omega, hK⟩
  -- if
  by_cases c1 : k = 0 ∧ st.length < 4
  · refine ifS_T (isB_of (andB (eqI (varB v6)) lst) (by simp [c1.1, c1.2])) ?_
    refine seq_R (fun rh m => rh = rh0 ∧ ∃ d, OperD ws d ∧ m = mu.set i (.lst (pre ++ rs ++ [.tup [.str (Str.ofString "if"), d]]))) (fun K hK => ?_) ?_
    · simp only [wDrop, wBM]
      refine varB v0 _ ⟨by simp [hi], ?_⟩
      simp only [wTup, wCons, wNil]
      refine intB _ _ (oper_to (n := u) (by omega) (by omega) (by omega) (varB v5) (varB v3) fun d hd => ?_)
      simp [hi, sizeLine_eq]
      exact ⟨by omega, hK _ _ ⟨rfl, d, hd, by simp⟩⟩
    · rintro _ _ ⟨rfl, d, hd, rfl⟩
      refine appB (l := j) (xs := stD st) (.str (Str.ofString "if")) (varB v1) (intB _) (hs1 _) (sz _ (by simp [stD]; omega)) ?_
      rw [app]
      have := h (rs ++ [.tup [.str (Str.ofString "if"), d]]) (st ++ ["if"]) (.opIf hp hd) (by simp; omega) (by simp; omega)
      simpa [lay1] using this
  refine ifS_F (isB_of (andB (eqI (varB v6)) lst) (by simp; simpa using c1)) ?_
  -- while
  by_cases c2 : k = 1 ∧ st.length < 4
  · refine ifS_T (isB_of (andB (eqI (varB v6)) lst) (by simp [c2.1, c2.2])) ?_
    have hm : (mu.set j (.lst (stD st ++ [.str (Str.ofString "while")])))[i]? = some (.lst (pre ++ rs)) := by rw [List.getElem?_set_ne (Ne.symm hij)]; exact hi
    have mv : ∀ rs', (mu.set j (.lst (stD st ++ [.str (Str.ofString "while")]))).set i (.lst (pre ++ rs')) = lay1 (pre ++ rs') (st ++ ["while"]) mu i j := fun rs' => by
      unfold lay1
      rw [List.set_comm _ _ hij, app]
    refine seq_to rh0 (mu.set j (.lst (stD st ++ [.str (Str.ofString "while")]))) (fun K hK => appB (l := j) (xs := stD st) (.str (Str.ofString "while")) (varB v1) (intB _) hj (sz _ (by simp [stD]; omega)) hK) ?_
    by_cases c3 : u % 3 = 0
    · refine ifS_T (isB_of (eqI (mod_is (by decide) (varB v5))) (by simpa using c3)) ?_
      simp only [wDrop, wBM]
      refine varB v0 _ ⟨by simp [hm], ?_⟩
      simp only [wTup, wCons, wNil]
      refine intB _ _ (oper_to (n := u / 3) (by omega) (by omega) (by omega) (div_is (by decide) (by decide) (varB v5)) (varB v3) fun d hd => ?_)
      have := h (rs ++ [.tup [.str (Str.ofString "while"), d]]) (st ++ ["while"]) (.opWhile hp hd) (by simp; omega) (by simp; omega)
      rw [← mv] at this
      simp [hm, sizeLine_eq]
      exact ⟨by omega, by simpa using this⟩
    · refine ifS_F (isB_of (eqI (mod_is (by decide) (varB v5))) (by simpa using c3)) ?_
      refine seq_to (rh0.set 7 (some (.d (.str x)))) _ (fun K hK => asg_to _ ix hK) ?_
      have w0 : (rh0.set 7 (some (.d (.str x))))[0]? = some (some (.loc i)) := by rw [← hr0]; rfl
      have w7 : (rh0.set 7 (some (.d (.str x))))[7]? = some (some (.d (.str x))) := by rw [← hr0]; rfl
      generalize rh0.set 7 (some (.d (.str x))) = rh1 at *
      have q1 : Part ws pl (st ++ ["while"]) (rs ++ [.tup [.str (Str.ofString "while"), .str x]]) := .opWhile hp (.inl ⟨x, hx, rfl⟩)
      refine seq_to rh1 (lay1 (pre ++ (rs ++ [D.tup [.str (Str.ofString "while"), .str x]])) (st ++ ["while"]) mu i j) (fun K hK => appB (l := i) (xs := pre ++ rs) _ (varB w0) (tupI [.str (Str.ofString "while"), .str x] (by simp) fun K hK => intB _ _ (varB w7 _ hK)) hm (sz _ (by simp; omega)) (by rw [List.append_assoc, mv]; exact hK)) ?_
      have l1 : (lay1 (pre ++ (rs ++ [D.tup [.str (Str.ofString "while"), .str x]])) (st ++ ["while"]) mu i j)[i]? = some (.lst (pre ++ (rs ++ [D.tup [.str (Str.ofString "while"), .str x]]))) := by
        unfold lay1
        rw [List.getElem?_set_ne (Ne.symm hij), List.getElem?_set_self li]
      refine appB (l := i) _ (varB w0) (tupI [.str (Str.ofString "do"), .str x, .str x, .str (Str.ofString "minus"), .int 1] (by simp) fun K hK => intB _ _ (varB w7 _ (varB w7 _ hK))) l1 (sz _ (by simp; omega)) ?_
      have q2 : Part ws pl (st ++ ["while"]) ((rs ++ [.tup [.str (Str.ofString "while"), .str x]]) ++ [.tup [.str (Str.ofString "do"), .str x, .str x, .str (Str.ofString "minus"), .int 1]]) := .row q1 (.doo (o := "minus") hx (.inl ⟨x, hx, rfl⟩) (by decide) (.inr ⟨1, by omega, by omega, rfl⟩))
      have := h _ _ q2 (by simp; omega) (by simp; omega)
      unfold lay1 at this ⊢
      rw [List.set_comm _ _ (Ne.symm hij), set2]
      simpa using this
  refine ifS_F (isB_of (andB (eqI (varB v6)) lst) (by simp; simpa using c2)) ?_
  -- a row
  have tail : (wDrop (wBM fApp (wVar 0) (wCons (wCallP false sp__law_simple [] (wCons (wVar 5) (wCons (wVar 3) (wCons (wVar 4) wNil)))) wNil))) (evr Q) rh0 mu := by
    simp only [wDrop, wBM]
    refine varB v0 _ ⟨by simp [hi], ?_⟩
    refine simple_to (n := u) (by omega) (by omega) h6 hg hpl (varB v5) (varB v3) (varB v4) fun r hr => ?_
    have := h (rs ++ [r]) st (.row hp hr) (by simp; omega) hsl
    rw [same] at this
    simp [hi, sizeLine_eq]
    exact ⟨by omega, by simpa using this⟩
  rcases List.eq_nil_or_concat st with hz | ⟨s0, z, hz⟩
  · subst hz
    refine ifS_F (isB_of (andB (eqI (varB v6)) (b := false) fun K hK => ?_) (by simp)) ?_
    · have := andB' (g := wTest (wOp (fEq false) (wOp fIx (wVar 1) (wUn (fun i => -i) (wC (.int 1)))) (wC (.str "if")))) nst (b := false) (fun z => by simp at z)
      exact this _ hK
    refine ifS_F (isB_of (andB (eqI (varB v6)) nst) (by simp)) ?_
    exact tail
  rw [List.concat_eq_append] at hz
  subst hz
  have lz : atI (stD (s0 ++ [z])) (-1) = some (.str (Str.ofString z)) := by simp only [stD, List.map_append, List.map_cons, List.map_nil]; exact at_last _ _
  have isif : IsB (wTest (wOp (fEq false) (wOp fIx (wVar 1) (wUn (fun i => -i) (wC (.int 1)))) (wC (.str "if")))) rh0 mu (z == "if") := fun K hK => by
    simp only [wTest, wOp]
    refine varB v1 _ ?_
    have lz2 : atI ((stD (s0 ++ [z])).map W.d) (-1) = some (.d (.str (Str.ofString z))) := atI_map lz
    simp [hj, lz2]
    exact hK
  have cond := andB (eqI (z := 2) (varB (mu := mu) v6)) (andB nst isif)
  have ls0 : (stD s0).length = s0.length := by simp [stD]
  have ix1 : ixN (s0.length + 1) (-1) = some s0.length := by
    unfold ixN; rw [if_neg (by omega), if_pos (by omega)]; congr 1; omega
  have sset : ∀ y : D, (stD (s0 ++ [z])).set s0.length y = stD s0 ++ [y] := fun y => by
    have e0 : stD (s0 ++ [z]) = stD s0 ++ [.str (Str.ofString z)] := by simp [stD]
    rw [e0, List.set_append_right _ _ (by rw [ls0]; exact Nat.le_refl _), ls0, Nat.sub_self]; rfl
  by_cases c3 : k = 2 ∧ z = "if"
  · refine ifS_T (isB_of cond (by simp [c3.1, c3.2])) ?_
    obtain ⟨_, rfl⟩ := c3
    refine seq_to rh0 (mu.set i (.lst (pre ++ rs ++ [.tup [.str (Str.ofString "else")]]))) (fun K hK => appB (l := i) (xs := pre ++ rs) _ (varB v0) (tupI [.str (Str.ofString "else")] (by simp) fun K hK => intB _ _ hK) hi (sz _ (by simp; omega)) hK) ?_
    simp only [wAsg]
    refine intB _ _ ?_
    simp only [wgSub]
    refine varB v1 _ ?_
    have hs := hs1 (.lst (pre ++ rs ++ [.tup [.str (Str.ofString "else")]]))
    have l1 : (stD (s0 ++ ["if"])).length = s0.length + 1 := by simp [stD]
    have := h (rs ++ [.tup [.str (Str.ofString "else")]]) (s0 ++ ["else"]) (.els hp) (by simp; omega) (by simp at hsl ⊢; omega)
    have e2 : stD (s0 ++ ["else"]) = stD s0 ++ [.str (Str.ofString "else")] := by simp [stD]
    unfold lay1 at this
    rw [e2] at this
    simp at hs
    simp [hs, l1, ix1, sset]
    simpa using this
  refine ifS_F (isB_of cond (by
    cases q : (z == "if") with
    | false => simp
    | true =>
      have : z = "if" := by simpa using q
      have : k ≠ 2 := fun e => c3 ⟨e, this⟩
      simp [this])) ?_
  by_cases c4 : k = 3
  · refine ifS_T (isB_of (andB (eqI (varB v6)) nst) (by simp [c4])) ?_
    refine seq_to rh0 (mu.set i (.lst (pre ++ rs ++ [.tup [.str (Str.ofString "end")]]))) (fun K hK => appB (l := i) (xs := pre ++ rs) _ (varB v0) (tupI [.str (Str.ofString "end")] (by simp) fun K hK => intB _ _ hK) hi (sz _ (by simp; omega)) hK) ?_
    have hs := hs1 (.lst (pre ++ rs ++ [.tup [.str (Str.ofString "end")]]))
    have := h (rs ++ [.tup [.str (Str.ofString "end")]]) s0 (.cls hp) (by simp; omega) (by simp at hsl ⊢; omega)
    simp only [wDrop, wBM]
    have e2 : stD (s0 ++ [z]) = stD s0 ++ [.str (Str.ofString z)] := by simp [stD]
    rw [e2] at hs
    simp at hs
    refine varB v1 _ ⟨by simp [hs], ?_⟩
    unfold lay1 at this
    simp [hs]
    simpa using this
  refine ifS_F (isB_of (andB (eqI (varB v6)) nst) (by simp [c4])) ?_
  exact tail
end VL
namespace VL
open PySem PySem.Spec PyProof.Rows L2 RZ
/-- the rows of one def -/
inductive FunRows (ws : List Str) (p : Str × List Str) (later : List (Str × List Str)) : List D → Prop
  | mk {body : List D} {op : D} : Part ws later [] body → OperD ws op → FunRows ws p later ([.tup [.str "def", .str p.1, .tup (p.2.map D.str)]] ++ body ++ [.tup [.str "give", op]])
  | sk {rs : List D} : FunRows ws p later rs → FunRows ws p later (rs ++ [.tup [.str "skip"]])
inductive Funs (ws : List Str) (pl : List (Str × List Str)) : Nat → List D → Prop
  | nil : Funs ws pl 0 []
  | next {k : Nat} {rs fr : List D} {p : Str × List Str} : Funs ws pl k rs → pl[k]? = some p → FunRows ws p (pl.drop (k + 1)) fr → Funs ws pl (k + 1) (rs ++ fr)
@[simp] def p__law_program : D → D → D → (W → Sto → Prop) → Prop := fun a b c Q => match a, b, c with
  | .lst cs, .lst ds, .lst ls => ∃ (ns : List Int) (ws : List Str) (pl : List (Str × List Str)), cs = ns.map D.int ∧ ds = ws.map D.str ∧ ls = planD pl ∧ ns.length ≤ 1000 ∧ 6 ≤ ws.length ∧ (∀ w ∈ ws, goodW w) ∧ PlanIn ws pl ∧
    ∀ rs mu, Funs ws pl pl.length rs → rs.length ≤ 60 → (∀ c ∈ mu, cflat c = true) → Q (.loc 0) (.lst rs :: mu)
  | _, _, _ => False
def w__law_program : WS := (wSeq (wAsg (wLst true wNil) (wgName 3))
    (wSeq (wFor (wRng1 (wCons (wCall fLen (wCons (wVar 2) wNil)) wNil)) (wgName 4) (wSeq (wDrop (wBM fApp (wVar 3) (wCons (wTup (wCons (wC (.str "def")) (wCons (wOp fIx (wOp fIx (wVar 2) (wVar 4)) (wC (.int 0))) (wCons (wOp fIx (wOp fIx (wVar 2) (wVar 4)) (wC (.int 1))) wNil)))) wNil)))
    (wSeq (wAsg (wLst true wNil) (wgName 5))
    (wSeq (wAsg (wOp (fI CD gDiv) (wOp (fMul false) (wVar 4) (wCall fLen (wCons (wVar 0) wNil))) (wCall fLen (wCons (wVar 2) wNil))) (wgName 6))
    (wSeq (wAsg (wOp (fI CD gDiv) (wOp (fMul false) (wOp (fAdd false) (wVar 4) (wC (.int 1))) (wCall fLen (wCons (wVar 0) wNil))) (wCall fLen (wCons (wVar 2) wNil))) (wgName 7))
    (wSeq (wAsg (wSl false (wVar 0) (wPart (wVar 6)) (wPart (wVar 7))) (wgName 8))
    (wSeq (wFor (wSeqI (wVar 8)) (wgName 9) (wIfS (wTest (wOp (fB0 fun i j => decide (i < j)) (wOp (fAdd false) (wCall fLen (wCons (wVar 3) wNil)) (wCall fLen (wCons (wVar 5) wNil))) (wOp (fI0 fun i j => i - j) (wC (.int 56)) (wOp (fMul false) (wC (.int 3)) (wOp (fI0 fun i j => i - j) (wOp (fI0 fun i j => i - j) (wCall fLen (wCons (wVar 2) wNil)) (wC (.int 1))) (wVar 4)))))) (wDrop (wCallS sp__law_lay [] (wCons (wVar 3) (wCons (wVar 5) (wCons (wVar 9) (wCons (wVar 1) (wCons (wSl false (wVar 2) (wPart (wOp (fAdd false) (wVar 4) (wC (.int 1)))) wNoPart) wNil))))))) wNext))
    (wSeq (wFor (wSeqI (wVar 5)) (wgName 10) (wDrop (wBM fApp (wVar 3) (wCons (wTup (wCons (wC (.str "end")) wNil)) wNil))))
    (wSeq (wDrop (wBM fApp (wVar 3) (wCons (wTup (wCons (wC (.str "give")) (wCons (wCallP false sp__law_operand [] (wCons (wOp (fI CR0 gMod) (wCall fSum (wCons (wVar 8) wNil)) (wOp (fI CPow fun i j => i ^ j.toNat) (wC (.int 10)) (wC (.int 6)))) (wCons (wVar 1) wNil))) wNil))) wNil)))
    (wIfS (wAnd (wTest (wOp (fEq false) (wOp (fI CR0 gMod) (wVar 4) (wC (.int 2))) (wC (.int 0)))) (wTest (wOp (fEq false) (wOp (fI CR0 gMod) (wCall fLen (wCons (wVar 8) wNil)) (wC (.int 2))) (wC (.int 1))))) (wDrop (wBM fApp (wVar 3) (wCons (wTup (wCons (wC (.str "skip")) wNil)) wNil))) wNext))))))))))
    (wRet (wVar 3))))
@[simp] def sp__law_program : PSp := sp3 p__law_program
theorem cut_from {A1 : Type} (xs : List A1) (k : Nat) : cutL xs (some (k : Int)) none = xs.drop k := by
  unfold cutL
  rw [HT.sIx_nat, HT.sIx_none]
  by_cases h : k ≤ xs.length
  · rw [Nat.min_eq_left h, List.take_of_length_le (by simp)]
  · rw [Nat.min_eq_right (by omega), List.drop_length, List.drop_of_length_le (by omega)]; simp
theorem planD_drop (pl : List (Str × List Str)) (k : Nat) : (planD pl).drop k = planD (pl.drop k) := by simp [planD, List.map_drop]
theorem stD_flat : ∀ st : List String, dflats (stD st) = true
  | [] => rfl
  | z :: r => by have := stD_flat r; simpa [stD] using this
theorem v__law_program : ∀ a b c Q, p__law_program a b c Q → w__law_program (evr Q) (startE ["_law_cells", "_law_words_here", "_law_plan_here", "_law_rows", "_law_k", "_law_stack", "_law_start", "_law_stop", "_law_share", "_law_cell", "_law_word"] [.d a, .d b, .d c]) [] := by
  intro a b c Q h
  unfold p__law_program at h
  split at h
  · obtain ⟨ns, ws, pl, rfl, rfl, rfl, hn, h6, hg, hpl, h⟩ := h
    have lp : (planD pl).length = pl.length := by simp [planD]
    have hf := hpl.few
    have hp1 := hpl.pos
    simp [w__law_program, lp]
    refine ⟨by omega, forL_rng (fun k rh mu => ∃ (rs : List D) (rest : Sto) (x1 x2 x3 x4 x5 x6 x7 : Option W), mu = .lst rs :: rest ∧ rh = [some (.d (.lst (ns.map D.int))), some (.d (.lst (ws.map D.str))), some (.d (.lst (planD pl))), some (.loc 0), x1, x2, x3, x4, x5, x6, x7] ∧
      Funs ws pl k rs ∧ rs.length + 3 * pl.length ≤ 60 + 3 * k ∧ ∀ c ∈ rest, cflat c = true) (fun _ _ _ _ => trivial) ?_ ?_ ⟨[], [], _, _, _, _, _, _, _, rfl, rfl, .nil, by simp; omega, by simp⟩⟩
    · rintro _ _ ⟨rs, rest, x1, x2, x3, x4, x5, x6, x7, rfl, rfl, hF, hl, hc⟩
      simp
      exact h _ _ hF (by omega) hc
    · rintro k hk _ _ ⟨rs, rest, x1, x2, x3, x4, x5, x6, x7, rfl, rfl, hF, hl, hc⟩ N hN
      obtain ⟨p, ep⟩ : ∃ p, pl[k]? = some p := ⟨_, List.getElem?_eq_getElem hk⟩
      have ak : atI (planD pl) (k : Int) = some (.tup [.str p.1, .tup (p.2.map D.str)]) := by
        rw [at_nat (by omega) (by rw [lp]; omega)]; simp [planD, ep]
      have cm1 : CM (k : Int) ns.length := CM_r (by omega) (by omega)
      have cm2 : CM ((k : Int) + 1) ns.length := CM_r (by omega) (by omega)
      have cd1 : ∀ x : Int, CD x (pl.length : Int) := fun x => CD_of (by omega) (by omega)
      have rl : rs.length < 16777216 := by omega
      have hm1 : ∀ (a c : C), (a :: (rest ++ [c]))[rest.length + 1]? = some c := fun a c => by simp
      have hm2 : ∀ (a c c' : C), (a :: (rest ++ [c])).set (rest.length + 1) c' = a :: (rest ++ [c']) := fun a c c' => by simp
      simp [lp, ak, sizeLine_eq, rl, cm1, cm2, cd1]
      have sl := cutL_len ns (some (gDiv ((k : Int) * ns.length) pl.length)) (some (gDiv (((k : Int) + 1) * ns.length) pl.length))
      generalize cutL ns (some (gDiv ((k : Int) * ns.length) pl.length)) (some (gDiv (((k : Int) + 1) * ns.length) pl.length)) = sh at *
      generalize (gDiv ((k : Int) * ns.length) pl.length) = u1
      generalize (gDiv (((k : Int) + 1) * ns.length) pl.length) = u2
      refine forL_inv (fun rh mu => ∃ (body : List D) (st : List String) (x6 x7 : Option W), mu = .lst (rs ++ [.tup [.str (Str.ofString "def"), .str p.1, .tup (p.2.map D.str)]] ++ body) :: (rest ++ [.lst (stD st)]) ∧
        rh = [some (W.d (D.lst (List.map D.int ns))), some (W.d (D.lst (List.map D.str ws))), some (W.d (D.lst (planD pl))), some (W.loc 0), some (W.d (D.int ↑k)), some (W.loc (List.length rest + 1)), some (W.d (D.int u1)), some (W.d (D.int u2)), some (.d (.lst (sh.map D.int))), x6, x7] ∧
        Part ws (pl.drop (k + 1)) st body ∧ st.length ≤ 4 ∧ rs.length + 1 + body.length + st.length + 3 * pl.length ≤ 61 + 3 * k) (fun _ _ _ => trivial) ?_ ?_ ⟨[], [], _, _, by simp [stD], rfl, .nil, by simp, by simp; omega⟩
      · rintro _ _ ⟨body, st, x6, x7, rfl, rfl, hP, hst, hL⟩
        simp [hm1, hm2]
        refine forL_rem (fun items rh mu => ∃ (st' : List String) (body' : List D) (x7 : Option W), items.length = st'.length ∧ mu = .lst (rs ++ .tup [.str (Str.ofString "def"), .str p.1, .tup (p.2.map D.str)] :: body') :: (rest ++ [.lst (stD st)]) ∧
          rh = [some (W.d (D.lst (List.map D.int ns))), some (W.d (D.lst (List.map D.str ws))), some (W.d (D.lst (planD pl))), some (W.loc 0), some (W.d (D.int ↑k)), some (W.loc (List.length rest + 1)), some (W.d (D.int u1)), some (W.d (D.int u2)), some (.d (.lst (sh.map D.int))), x6, x7] ∧
          Part ws (pl.drop (k + 1)) st' body' ∧ body'.length + st'.length = body.length + st.length) ?_ ?_ ?_ ⟨st, body, _, by simp [stD], rfl, rfl, hP, rfl⟩
        · rintro _ _ _ ⟨st', body', x7, _, rfl, _⟩
          simp [hm1]
        · rintro _ _ ⟨st', body', x7, e, rfl, rfl, hP', hL'⟩
          have : st' = [] := List.length_eq_zero_iff.mp e.symm
          subst this
          have q1 : rs.length + (body'.length + 1) < 16777216 := by simp at hL'; omega
          have fin : ∀ (fr : List D) (x7 : Option W), FunRows ws p (pl.drop (k + 1)) fr → fr.length ≤ body'.length + 3 → N [some (W.d (D.lst (List.map D.int ns))), some (W.d (D.lst (List.map D.str ws))), some (W.d (D.lst (planD pl))), some (W.loc 0), some (W.d (D.int ↑k)), some (W.loc (List.length rest + 1)), some (W.d (D.int u1)), some (W.d (D.int u2)), some (.d (.lst (sh.map D.int))), x6, x7]
              (.lst (rs ++ fr) :: (rest ++ [.lst (stD st)])) := fun fr x7 hfr hle => by
            refine hN _ _ ⟨_, _, _, _, _, _, _, _, _, rfl, rfl, .next hF ep hfr, ?_, fun c hm => ?_⟩
            · simp at hL' ⊢; omega
            · rcases List.mem_append.mp hm with hm | hm
              · exact hc c hm
              · rw [List.mem_singleton.mp hm]
                show dflats (stD st) = true
                exact stD_flat st
          simp only [List.length_nil, Nat.add_zero] at hL'
          have q2 : rs.length + (body'.length + 1) + 1 < 16777216 := by omega
          have q2' : rs.length + (body'.length + 1 + 1) < 16777216 := by omega
          simp [sizeLine_eq, q1]
          refine sum_ints ?_
          simp [q1, q2, q2']
          have gp : gMod sh.sum 1000000 = sh.sum % 1000000 := gMod_pos (by decide)
          refine ⟨by omega, by omega, by omega, fun op hop => ?_⟩
          have f1 := FunRows.mk (p := p) hP' hop
          refine ite_of (fun c => ite_of (fun c2 => ?_) (fun c2 => ?_)) (fun c => ?_)
          · simpa using fin _ x7 f1.sk (by simp)
          · simpa using fin _ x7 f1 (by simp)
          · simpa using fin _ x7 f1 (by simp)
        · rintro x items _ _ ⟨st', body', x7, e, rfl, rfl, hP', hL'⟩ N' hN'
          rcases List.eq_nil_or_concat st' with rfl | ⟨s0, z, hz⟩
          · simp at e
          · rw [List.concat_eq_append] at hz
            subst hz
            simp at hL' e
            have q1 : rs.length + (body'.length + 1) < 16777216 := by omega
            simp [sizeLine_eq, q1]
            exact hN' _ _ ⟨s0, body' ++ [.tup [.str (Str.ofString "end")]], _, e, rfl, rfl, .cls hP', by simp; omega⟩
      · rintro x hx _ _ ⟨body, st, x6, x7, rfl, rfl, hP, hst, hL⟩ N' hN'
        simp at hx
        obtain ⟨n, _, rfl⟩ := hx
        have ls : (stD st).length = st.length := by simp [stD]
        simp [hm1, hm2, ls]
        refine ite_of (fun c => ?_) (fun c => hN' _ _ ⟨body, st, _, _, by simp, rfl, hP, hst, hL⟩)
        rw [lp] at c
        have cl : cutL (planD pl) (some ((k : Int) + 1)) none = planD (pl.drop (k + 1)) := by
          rw [show ((k : Int) + 1) = ((k + 1 : Nat) : Int) by omega, cut_from, planD_drop]
        refine ⟨rs ++ [.tup [.str (Str.ofString "def"), .str p.1, .tup (p.2.map D.str)]], body, st, pl.drop (k + 1), cl, by simp, rfl, hP, by simp; omega, hst, h6, hg, ⟨by simp; omega, fun q hq => hpl.ok.2 q (List.mem_of_mem_drop hq)⟩, fun rs' st' g1 g2 g3 => hN' _ _ ⟨rs', st', _, _, ?_, rfl, g1, g3, by omega⟩⟩
        simp [lay1, hm2]
  · exact h.elim
end VL
namespace VL
open PySem PySem.Spec PyProof.Rows L2 RZ
/-! ### the law's programs are taken -/
theorem az_let {c : Nat} (h : 97 ≤ c ∧ c ≤ 122) : isLet c = true := by
  unfold isLet
  rw [decide_eq_true_eq, az_list]
  simp
  exact ⟨c - 97, by omega, by omega⟩
theorem good_name {w : Str} (h : goodW w) : nameOk w = true := by
  unfold nameOk
  rw [Bool.and_eq_true, Bool.and_eq_true, decide_eq_true_eq, decide_eq_true_eq, List.all_eq_true]
  exact ⟨⟨h.1, h.2.1⟩, fun c hc => az_let (h.2.2 c hc)⟩
theorem dot_len : (Str.ofString ".").length = 1 := rfl
theorem dot_cps : (Str.ofString ".").cps = #[46] := by decide +kernel
theorem cps_app (a b : Str) : (a ++ b).cps = a.cps ++ b.cps := rfl
theorem str_app_len (a b : Str) : (a ++ b).length = a.length + b.length := by
  show (a.cps ++ b.cps).size = _; simp [Str.length]
theorem dot_starts (t : Str) : Txt.startswith (Str.ofString "." ++ t) (Str.ofString ".") = true := by
  unfold Txt.startswith Builtin.Str.subAt
  rw [str_app_len, dot_len, cps_app, dot_cps]
  simp
theorem dot_cut (t : Str) : cutS (Str.ofString "." ++ t) (some 1) none = t := by
  unfold cutS
  have e : HT.sIx (Str.ofString "." ++ t).length 0 (some 1) = 1 := by
    rw [show (1 : Int) = ((1 : Nat) : Int) from rfl, HT.sIx_nat, str_app_len, dot_len]; omega
  rw [e, HT.sIx_none, cps_app, dot_cps]
  have e2 : (Str.ofString "." ++ t).length - 1 = t.cps.toList.length := by rw [str_app_len, dot_len]; simp [Str.length]
  rw [e2]
  simp only [Array.toList_append, List.singleton_append, List.drop_succ_cons, List.drop_zero, List.take_length]
theorem field_ok {x : Str} (h : goodW x) : fieldD (.str (Str.ofString "." ++ x)) = true := by
  simp [fieldD, dot_starts, dot_cut, good_name h]
section
variable {ws : List Str} {pl : List (Str × List Str)}
theorem oper_ok (g : ∀ w ∈ ws, goodW w) {d : D} (h : OperD ws d) : operD d = true := by
  rcases h with ⟨x, hx, rfl⟩ | ⟨n, h1, h2, rfl⟩
  · simp [operD, nameD, good_name (g x hx)]
  · simp [operD, numD, numOk, h1, h2]
theorem oper_plain {d : D} (h : OperD ws d) : plainD d := by
  rcases h with ⟨x, hx, rfl⟩ | ⟨n, h1, h2, rfl⟩ <;> trivial
theorem oper_ntup {d : D} (h : OperD ws d) {ys : List D} : d ≠ .tup ys := by
  rcases h with ⟨x, hx, rfl⟩ | ⟨n, h1, h2, rfl⟩ <;> simp
theorem key_ok (g : ∀ w ∈ ws, goodW w) {d : D} (h : KeyD ws d) : (fieldD d || operD d) = true := by
  rcases h with ⟨x, hx, rfl⟩ | h
  · simp [field_ok (g x hx)]
  · simp [oper_ok g h]
theorem key_plain {d : D} (h : KeyD ws d) : plainD d := by
  rcases h with ⟨x, hx, rfl⟩ | h
  · trivial
  · exact oper_plain h
theorem key_ntup {d : D} (h : KeyD ws d) {ys : List D} : d ≠ .tup ys := by
  rcases h with ⟨x, hx, rfl⟩ | h
  · simp
  · exact oper_ntup h
theorem name4 (g : ∀ w ∈ ws, goodW w) {n : Str} (h : n ∈ ws) : nameOk n = true := good_name (g n h)
/-- a row that is right -/
def RightR (r : D) : Prop := ∃ w ps, r = .tup (.str w :: ps) ∧ RowIn w ps ∧ rowOk (.str w :: ps) = true
theorem simple_right (g : ∀ w ∈ ws, goodW w) (few : ∀ p ∈ pl, p.2.length ≤ 4) (gp : ∀ p ∈ pl, goodW p.1) {r : D} (s : Simple ws pl r) : RightR r := by
  cases s with
  | put hn ho =>
    refine ⟨_, _, rfl, ⟨?_, by simp, ?_, fun o h => by simp at h⟩, ?_⟩
    · intro x hx; simp at hx; rcases hx with rfl | rfl
      · trivial
      · exact oper_plain ho
    · intro x hx ys e; simp at hx; rcases hx with rfl | rfl
      · cases e
      · exact absurd e (oper_ntup ho)
    · simp [rowOk, clsOf, okPut, nameD, name4 g hn, oper_ok g ho]
  | @doo n a b o hn ha hm hb =>
    refine ⟨_, _, rfl, ⟨?_, by simp, ?_, fun o' _ h => ?_⟩, ?_⟩
    · intro x hx; simp at hx; rcases hx with rfl | rfl | rfl | rfl
      · trivial
      · exact oper_plain ha
      · trivial
      · exact oper_plain hb
    · intro x hx ys e; simp at hx; rcases hx with rfl | rfl | rfl | rfl
      · cases e
      · exact absurd e (oper_ntup ha)
      · cases e
      · exact absurd e (oper_ntup hb)
    · simp at h; subst h; rfl
    · have : reckW (.str (Str.ofString o)) = true := by
        simp [opWords] at hm
        rcases hm with rfl | rfl | rfl | rfl | rfl | rfl | rfl <;> simp [reckW]
      simp [rowOk, clsOf, okDo, nameD, name4 g hn, oper_ok g ha, oper_ok g hb, this]
  | new hn =>
    refine ⟨_, _, rfl, ⟨?_, by simp, ?_, fun o h => by simp at h⟩, ?_⟩
    · intro x hx; simp at hx; subst hx; trivial
    · intro x hx ys e; simp at hx; subst hx; cases e
    · simp [rowOk, clsOf, okName, nameD, name4 g hn]
  | get hn ho hk =>
    refine ⟨_, _, rfl, ⟨?_, by simp, ?_, fun o h => by simp at h⟩, ?_⟩
    · intro x hx; simp at hx; rcases hx with rfl | rfl | rfl
      · trivial
      · trivial
      · exact key_plain hk
    · intro x hx ys e; simp at hx; rcases hx with rfl | rfl | rfl
      · cases e
      · cases e
      · exact absurd e (key_ntup hk)
    · have := key_ok g hk
      simp only [Bool.or_eq_true] at this
      simp [rowOk, clsOf, okGet, nameD, name4 g hn, name4 g ho, this]
  | set ho hk hop =>
    refine ⟨_, _, rfl, ⟨?_, by simp, ?_, fun o h => by simp at h⟩, ?_⟩
    · intro x hx; simp at hx; rcases hx with rfl | rfl | rfl
      · trivial
      · exact key_plain hk
      · exact oper_plain hop
    · intro x hx ys e; simp at hx; rcases hx with rfl | rfl | rfl
      · cases e
      · exact absurd e (key_ntup hk)
      · exact absurd e (oper_ntup hop)
    · have := key_ok g hk
      simp only [Bool.or_eq_true] at this
      simp [rowOk, clsOf, okSet, nameD, name4 g ho, oper_ok g hop, this]
  | @call n p ops hn hp hl ho =>
    have h4 := few p hp
    refine ⟨_, _, rfl, ⟨?_, by simp, ?_, fun o h => by simp at h⟩, ?_⟩
    · intro x hx; simp at hx; rcases hx with rfl | rfl | rfl <;> trivial
    · intro x hx ys e; simp at hx; rcases hx with rfl | rfl | rfl
      · cases e
      · cases e
      · cases e
        exact ⟨fun x hx => oper_plain (ho x hx), by omega⟩
    · have ha : allOpD (.tup ops) = true := by
        simp [allOpD]
        exact ⟨by omega, fun x hx => oper_ok g (ho x hx)⟩
      simp [rowOk, clsOf, okCall, nameD, name4 g hn, good_name (gp p hp), ha]
  | fail hn =>
    refine ⟨_, _, rfl, ⟨?_, by simp, ?_, fun o h => by simp at h⟩, ?_⟩
    · intro x hx; simp at hx; subst hx; trivial
    · intro x hx ys e; simp at hx; subst hx; cases e
    · simp [rowOk, clsOf, okName, nameD, good_name (g _ hn)]
  | skip =>
    refine ⟨_, _, rfl, ⟨?_, by simp, ?_, fun o h => by simp at h⟩, ?_⟩
    · intro x hx; simp at hx
    · intro x hx; simp at hx
    · simp [rowOk, clsOf, okBare]
theorem bare_right {z : String} (h : z = "else" ∨ z = "end" ∨ z = "skip") : RightR (.tup [.str (Str.ofString z)]) := by
  refine ⟨_, _, rfl, ⟨?_, by simp, ?_, fun o h => by simp⟩, ?_⟩
  · intro x hx; simp at hx
  · intro x hx; simp at hx
  · rcases h with rfl | rfl | rfl <;> simp [rowOk, clsOf, okBare]
theorem give_right (g : ∀ w ∈ ws, goodW w) {z : String} (h : z = "give" ∨ z = "if" ∨ z = "while") {op : D} (ho : OperD ws op) : RightR (.tup [.str (Str.ofString z), op]) := by
  refine ⟨_, _, rfl, ⟨?_, by simp, ?_, fun o _ h => by simp at h⟩, ?_⟩
  · intro x hx; simp at hx; subst hx; exact oper_plain ho
  · intro x hx ys e; simp at hx; subst hx; exact absurd e (oper_ntup ho)
  · rcases h with rfl | rfl | rfl <;> simp [rowOk, clsOf, okGive, oper_ok g ho]
theorem part_right (g : ∀ w ∈ ws, goodW w) (few : ∀ p ∈ pl, p.2.length ≤ 4) (gp : ∀ p ∈ pl, goodW p.1) {st : List String} {body : List D} (p : Part ws pl st body) : ∀ r ∈ body, RightR r := by
  have app : ∀ {rs : List D} {r : D}, (∀ x ∈ rs, RightR x) → RightR r → ∀ x ∈ rs ++ [r], RightR x := fun h1 h2 x hx => by
    rcases List.mem_append.mp hx with hx | hx
    · exact h1 x hx
    · rw [List.mem_singleton.mp hx]; exact h2
  induction p with
  | nil => intro r hr; cases hr
  | row _ s ih => exact app ih (simple_right g few gp s)
  | opIf _ h ih => exact app ih (give_right g (.inr (.inl rfl)) h)
  | opWhile _ h ih => exact app ih (give_right g (.inr (.inr rfl)) h)
  | els _ ih => exact app ih (bare_right (.inl rfl))
  | cls _ ih => exact app ih (bare_right (.inr (.inl rfl)))
theorem names_strs : ∀ {xs : List Str}, (∀ x ∈ xs, goodW x) → namesOf (xs.map D.str) = xs
  | [], _ => rfl
  | x :: xs, h => by
    rw [List.map_cons, namesOf, if_pos (good_name (h x (by simp))), names_strs fun y hy => h y (by simp [hy])]
def defRow (p : Str × List Str) : D := .tup [.str (Str.ofString "def"), .str p.1, .tup (p.2.map D.str)]
theorem def_right {p : Str × List Str} (h1 : goodW p.1) (h2 : ∀ x ∈ p.2, goodW x) (h3 : p.2.length ≤ 4) (h4 : p.2.Nodup) : RightR (defRow p) := by
  refine ⟨_, _, rfl, ⟨?_, by simp, ?_, fun o h => by simp at h⟩, ?_⟩
  · intro x hx; simp at hx; rcases hx with rfl | rfl <;> trivial
  · intro x hx ys e; simp at hx; rcases hx with rfl | rfl
    · cases e
    · cases e
      refine ⟨fun x hx => ?_, by simp; omega⟩
      obtain ⟨z, _, rfl⟩ := List.mem_map.mp hx
      trivial
  · have ha : allOpD (.tup (p.2.map D.str)) = true := by
      simp [allOpD]
      exact ⟨by omega, fun x hx => by simp [operD, nameD, good_name (h2 x hx)]⟩
    have hn : namesOf (p.2.map D.str) = p.2 := names_strs h2
    have hs : (setS p.2).length = p.2.length := (setS_nd h4).length_eq
    simp [rowOk, clsOf, okDef, nameD, good_name h1, ha, hn, hs]
theorem funrows_right (g : ∀ w ∈ ws, goodW w) (few : ∀ p ∈ pl, p.2.length ≤ 4) (gp : ∀ p ∈ pl, goodW p.1) {p : Str × List Str} (hp : RightR (defRow p)) {fr : List D} (f : FunRows ws p pl fr) : ∀ r ∈ fr, RightR r := by
  induction f with
  | mk hb ho =>
    intro r hr
    rcases List.mem_append.mp hr with hr | hr
    · rcases List.mem_append.mp hr with hr | hr
      · rw [List.mem_singleton.mp hr]; exact hp
      · exact part_right g few gp hb r hr
    · rw [List.mem_singleton.mp hr]; exact give_right g (.inl rfl) ho
  | sk _ ih =>
    intro r hr
    rcases List.mem_append.mp hr with hr | hr
    · exact ih r hr
    · rw [List.mem_singleton.mp hr]; exact bare_right (.inr (.inr rfl))
/-- a plan that is good -/
structure PlanGood (ws : List Str) (pl : List (Str × List Str)) : Prop where
  nd : (pl.map (·.1)).Nodup
  nm : ∀ p ∈ pl, goodW p.1
  ps : ∀ p ∈ pl, p.2.length ≤ 4 ∧ (∀ x ∈ p.2, goodW x) ∧ p.2.Nodup
theorem funs_right (g : ∀ w ∈ ws, goodW w) (P : PlanGood ws pl) {k : Nat} {rs : List D} (f : Funs ws pl k rs) : ∀ r ∈ rs, RightR r := by
  induction f with
  | nil => intro r hr; cases hr
  | next hf hp hfr ih =>
    intro r hr
    rcases List.mem_append.mp hr with hr | hr
    · exact ih r hr
    · have hm := List.mem_of_getElem? hp
      have q := P.ps _ hm
      exact funrows_right g (fun p hp => (P.ps p (List.mem_of_mem_drop hp)).1) (fun p hp => P.nm p (List.mem_of_mem_drop hp)) (def_right (P.nm _ hm) q.2.1 q.1 q.2.2) hfr r hr
theorem PlanIn.good (nd : ws.Nodup) (g : ∀ w ∈ ws, goodW w) (h : PlanIn ws pl) : PlanGood ws pl where
  nd := by
    rw [List.Nodup, List.pairwise_iff_getElem]
    intro i j hi hj hij e
    simp at hi hj e
    have h1 := h.nm i pl[i] (by simp [hi])
    have h2 := h.nm j pl[j] (by simp [hj])
    rw [e] at h1
    obtain ⟨l1, q1⟩ := List.getElem?_eq_some_iff.mp h1
    obtain ⟨l2, q2⟩ := List.getElem?_eq_some_iff.mp h2
    exact (List.pairwise_iff_getElem.mp nd) i j l1 l2 hij (by rw [q1, q2])
  nm := fun p hp => by
    obtain ⟨i, hi⟩ := List.mem_iff_getElem?.mp hp
    exact g _ (List.mem_of_getElem? (h.nm i p hi))
  ps := fun p hp => by
    obtain ⟨h1, h2, h3⟩ := h.ps p hp
    exact ⟨by omega, fun x hx => g x (h2 x hx), h3⟩
/-! blocks -/
/-! calls -/
/-- no def, no call -/
def quietR (r : D) : Prop := ∃ w ps, r = .tup (.str w :: ps) ∧ w ≠ Str.ofString "def" ∧ w ≠ Str.ofString "call"
/-- a row that calls one of the functions ls -/
def callR (ls : List (Str × List Str)) (r : D) : Prop := ∃ x ops p, r = .tup [.str (Str.ofString "call"), x, .str p.1, .tup ops] ∧ p ∈ ls ∧ ops.length = p.2.length
/-- where the functions stand, k of them so far -/
structure Laid (pl : List (Str × List Str)) (k : Nat) (rs : List D) : Prop where
  defs : ∀ m p, m < k → pl[m]? = some p → ∃ j : Nat, rs[j]? = some (defRow p) ∧ ∀ (i : Nat) (r : D), rs[i]? = some r → isDef p.1 r = true → j ≤ i
  rows : ∀ (i : Nat) (r : D), rs[i]? = some r → quietR r ∨ (∃ p, r = defRow p ∧ ∀ (i' : Nat) (r' : D), rs[i']? = some r' → isDef p.1 r' = true → i ≤ i') ∨
    (∃ (m : Nat) (p : Str × List Str), callR [p] r ∧ pl[m]? = some p ∧ (k ≤ m ∨ ∃ j : Nat, i ≤ j ∧ rs[j]? = some (defRow p) ∧ ∀ (i' : Nat) (r' : D), rs[i']? = some r' → isDef p.1 r' = true → j ≤ i'))
  nms : ∀ (i : Nat) (r : D) (n : Str), rs[i]? = some r → isDef n r = true → ∃ m p, m < k ∧ pl[m]? = some p ∧ p.1 = n
end
theorem oper_dep {ws : List Str} {d : D} (h : OperD ws d) : ddep d = 0 := by
  rcases h with ⟨x, _, rfl⟩ | ⟨n, _, _, rfl⟩ <;> simp
theorem key_dep {ws : List Str} {d : D} (h : KeyD ws d) : ddep d = 0 := by
  rcases h with ⟨x, _, rfl⟩ | h
  · simp
  · exact oper_dep h
theorem strs_dep (ws : List Str) : ddeps (ws.map D.str) = 0 := Nat.le_zero.mp (ddeps_le fun y hy => by
  obtain ⟨z, _, rfl⟩ := List.mem_map.mp hy; simp)
theorem simple_dep {ws : List Str} {pl : List (Str × List Str)} {r : D} (s : Simple ws pl r) : ddep r ≤ 20 := by
  cases s with
  | put _ h => simp [oper_dep h]
  | doo _ h1 _ h2 => simp [oper_dep h1, oper_dep h2]
  | new _ => simp
  | get _ _ h => simp [key_dep h]
  | set _ h1 h2 => simp [key_dep h1, oper_dep h2]
  | call _ _ _ h =>
    have := ddeps_le (n := 0) fun x hx => Nat.le_of_eq (oper_dep (h x hx))
    simp; omega
  | fail _ => simp
  | skip => simp
/-! flat -/
theorem dflats_of {xs : List D} (h : ∀ x ∈ xs, dflat x = true) : dflats xs = true := by
  induction xs with
  | nil => rfl
  | cons x xs ih => simp [h x (by simp), ih fun y hy => h y (by simp [hy])]
theorem oper_flat {ws : List Str} {d : D} (h : OperD ws d) : dflat d = true := by
  rcases h with ⟨x, _, rfl⟩ | ⟨n, _, _, rfl⟩ <;> simp
theorem key_flat {ws : List Str} {d : D} (h : KeyD ws d) : dflat d = true := by
  rcases h with ⟨x, _, rfl⟩ | h
  · simp
  · exact oper_flat h
theorem simple_flat {ws : List Str} {pl : List (Str × List Str)} {r : D} (s : Simple ws pl r) : dflat r = true := by
  cases s with
  | put _ h => simp [oper_flat h]
  | doo _ h1 _ h2 => simp [oper_flat h1, oper_flat h2]
  | new _ => simp
  | get _ _ h => simp [key_flat h]
  | set _ h1 h2 => simp [key_flat h1, oper_flat h2]
  | call _ _ _ h => simp [dflats_of fun x hx => oper_flat (h x hx)]
  | fail _ => simp
  | skip => simp
/-- a row as the makers make it -/
def FlatR (r : D) : Prop := dflat r = true ∧ ddep r ≤ 20 ∧ ∃ xs, r = .tup xs
theorem app_all {Q : D → Prop} {xs ys : List D} (h1 : ∀ x ∈ xs, Q x) (h2 : ∀ x ∈ ys, Q x) : ∀ x ∈ xs ++ ys, Q x := fun x hx => by
  rcases List.mem_append.mp hx with hx | hx
  · exact h1 x hx
  · exact h2 x hx
theorem simple_flatR {ws : List Str} {pl : List (Str × List Str)} {r : D} (s : Simple ws pl r) : FlatR r := ⟨simple_flat s, simple_dep s, by cases s <;> exact ⟨_, rfl⟩⟩
theorem part_flat {ws : List Str} {pl : List (Str × List Str)} {st : List String} {body : List D} (p : Part ws pl st body) : ∀ r ∈ body, FlatR r := by
  have one : ∀ {r : D}, FlatR r → ∀ x ∈ [r], FlatR x := fun h x hx => by rw [List.mem_singleton.mp hx]; exact h
  induction p with
  | nil => intro r hr; cases hr
  | row _ s ih => exact app_all ih (one (simple_flatR s))
  | opIf _ h ih => exact app_all ih (one ⟨by simp [oper_flat h], by simp [oper_dep h], _, rfl⟩)
  | opWhile _ h ih => exact app_all ih (one ⟨by simp [oper_flat h], by simp [oper_dep h], _, rfl⟩)
  | els _ ih => exact app_all ih (one ⟨by simp, by simp, _, rfl⟩)
  | cls _ ih => exact app_all ih (one ⟨by simp, by simp, _, rfl⟩)
theorem skip_flat : FlatR (.tup [.str (Str.ofString "skip")]) := ⟨by simp, by simp, _, rfl⟩
theorem fun_flat {ws : List Str} {p : Str × List Str} {later : List (Str × List Str)} {fr : List D} (f : FunRows ws p later fr) : ∀ r ∈ fr, FlatR r := by
  have one : ∀ {r : D}, FlatR r → ∀ x ∈ [r], FlatR x := fun h x hx => by rw [List.mem_singleton.mp hx]; exact h
  induction f with
  | @mk body op hp ho =>
    refine app_all (app_all (one ⟨?_, by simp [strs_dep], _, rfl⟩) (part_flat hp)) (one ⟨by simp [oper_flat ho], by simp [oper_dep ho], _, rfl⟩)
    simp
    exact dflats_of fun x hx => by obtain ⟨z, _, rfl⟩ := List.mem_map.mp hx; simp
  | sk _ ih => exact app_all ih (one skip_flat)
theorem funs_flat {ws : List Str} {pl : List (Str × List Str)} {k : Nat} {rs : List D} (f : Funs ws pl k rs) : ∀ r ∈ rs, FlatR r := by
  induction f with
  | nil => intro r hr; cases hr
  | next _ _ hf ih => exact app_all ih (fun_flat hf)
theorem flat_dflats {rs : List D} (h : ∀ r ∈ rs, FlatR r) : dflats rs = true := dflats_of fun x hx => (h x hx).1
theorem flat_ddeps {rs : List D} (h : ∀ r ∈ rs, FlatR r) : ddeps rs ≤ 20 := ddeps_le fun x hx => (h x hx).2.1
end VL
namespace VL
open PySem PySem.Spec PyProof.Rows L2 RZ
/-! ### what the law is told of rows -/
theorem varO {rh : Ev} {mu : Sto} {i : Nat} {w : W} (e : rh[i]? = some (some w)) : Is (wVar i) rh mu w := fun K hK => by simp [e]; exact hK
@[simp] def ti_TooGreat : List (Str × Bool) := [("TooGreat", true), ("NoRow", false), ("NoBlock", false), ("NoCall", false)]
@[simp] def ti_NoPlace : List (Str × Bool) := [("TooGreat", false), ("NoRow", false), ("NoBlock", false), ("NoCall", false)]
@[simp] def ti_Unlike : List (Str × Bool) := [("TooGreat", false), ("NoRow", false), ("NoBlock", false), ("NoCall", false)]
@[simp] def ti_NoFault : List (Str × Bool) := [("TooGreat", false), ("NoRow", false), ("NoBlock", false), ("NoCall", false)]
@[simp] def ti_Done : List (Str × Bool) := [("TooGreat", false), ("NoRow", false), ("NoBlock", false), ("NoCall", false)]
@[simp] def ti_NoRow : List (Str × Bool) := [("TooGreat", false), ("NoRow", true), ("NoBlock", false), ("NoCall", false)]
@[simp] def ti_NoBlock : List (Str × Bool) := [("TooGreat", false), ("NoRow", false), ("NoBlock", true), ("NoCall", false)]
@[simp] def ti_NoCall : List (Str × Bool) := [("TooGreat", false), ("NoRow", false), ("NoBlock", false), ("NoCall", true)]
@[simp] def ti_NoText : List (Str × Bool) := [("TooGreat", false), ("NoRow", false), ("NoBlock", false), ("NoCall", false)]
@[simp] def ti_ValueError : List (Str × Bool) := [("TooGreat", true), ("NoRow", true), ("NoBlock", true), ("NoCall", true)]
@[simp] def xt_SliceError : List Str := ["TooGreat", "NoRow", "NoBlock", "NoCall"]
@[simp] def xp_place : List Str := ["NoRow", "NoBlock", "NoCall"]
@[simp] def p__law_which : W → Sto → (W → Sto → Prop) → Prop := fun e mu Q => ∃ k n fs wd, e = .loc k ∧ mu[k]? = some (.exc (Str.ofString n) fs) ∧ (n, wd) ∈ [("TooGreat", "great"), ("NoRow", "row"), ("NoBlock", "block"), ("NoCall", "call")] ∧ Q (.d (.str (Str.ofString wd))) mu
def w__law_which : WS := (wSeq (wAsg (wLst false (wCons (wIsX ti_TooGreat (wVar 0)) (wCons (wIsX ti_NoRow (wVar 0)) (wCons (wIsX ti_NoBlock (wVar 0)) wNil)))) (wgName 1))
    (wSeq (wAsg (wOp (fAdd false) (wVar 1) (wLst false (wCons (wIsX ti_NoCall (wVar 0)) (wCons (wIsX ti_NoText (wVar 0)) (wCons (wIsX ti_NoPlace (wVar 0)) wNil))))) (wgName 1))
    (wSeq (wAsg (wOp (fAdd false) (wVar 1) (wLst false (wCons (wIsX ti_Unlike (wVar 0)) (wCons (wIsX ti_NoFault (wVar 0)) (wCons (wIsX ti_Done (wVar 0)) wNil))))) (wgName 1))
    (wSeq (wIfS (wOr (wTest (wOp (fEq true) (wBM fCountF (wVar 1) (wCons (wC (.bl true)) wNil)) (wC (.int 1)))) (wNot (wTru (wIsX ti_ValueError (wVar 0))))) (wRet (wC (.str "another"))) wNext)
    (wRet (wOp fIx (wLst false (wCons (wC (.str "great")) (wCons (wC (.str "row")) (wCons (wC (.str "block")) (wCons (wC (.str "call")) (wCons (wC (.str "text")) (wCons (wC (.str "place")) (wCons (wC (.str "unlike")) (wCons (wC (.str "fault")) (wCons (wC (.str "done")) wNil)))))))))) (wBM fIndex (wVar 1) (wCons (wC (.bl true)) wNil))))))))
@[simp] def sp__law_which : VSp := sS1 p__law_which
theorem v__law_which : ∀ a mu Q, p__law_which a mu Q → w__law_which (evr Q) (startE ["_law_error", "_law_some"] [a]) mu := by
  intro e mu Q h
  obtain ⟨k, n, fs, wd, rfl, hk, hm, h⟩ := h
  simp at hm
  rcases hm with ⟨rfl, rfl⟩ | ⟨rfl, rfl⟩ | ⟨rfl, rfl⟩ | ⟨rfl, rfl⟩
  · simp [w__law_which, hk, sizeLine_eq, List.lookup]
    exact ⟨0, _, rfl, by simp, fun m z' hm => absurd hm (by omega), _, at_c0 _ _, h⟩
  · simp [w__law_which, hk, sizeLine_eq, List.lookup]
    exact ⟨1, _, rfl, by simp, fun m z' hm e => by
      obtain rfl : m = 0 := by omega
      simp at e; subst e; simp, _, at_c1 _ _ _, h⟩
  · simp [w__law_which, hk, sizeLine_eq, List.lookup]
    exact ⟨2, _, rfl, by simp, fun m z' hm e => by
      have : m = 0 ∨ m = 1 := by omega
      rcases this with rfl | rfl <;> (simp at e; subst e; simp), _, at_c2 _ _ _ _, h⟩
  · simp [w__law_which, hk, sizeLine_eq, List.lookup]
    exact ⟨3, _, rfl, by simp, fun m z' hm e => by
      have : m = 0 ∨ m = 1 ∨ m = 2 := by omega
      rcases this with rfl | rfl | rfl <;> (simp at e; subst e; simp), _, at_c3 _ _ _ _ _, h⟩
/-- the outcome as the law has it -/
def outD (rows : List D) : Judge → D
  | .made => .tup [.str (Str.ofString "made"), .lst rows]
  | .great => .tup [.str (Str.ofString "great"), .int 0]
  | .row k => .tup [.str (Str.ofString "row"), .int k]
  | .block k => .tup [.str (Str.ofString "block"), .int k]
  | .call k => .tup [.str (Str.ofString "call"), .int k]
def outQ (rows : List D) (Q : W → Sto → Prop) : Judge → Prop
  | .made => Q (.tup [.d (.str (Str.ofString "made")), .loc 0]) [.lst rows]
  | j => ∀ mu, Q (.d (outD rows j)) mu
@[simp] def p__law_outcome : D → (W → Sto → Prop) → Prop := fun a Q => match a with
  | .lst rows => rows.length ≤ 1000 ∧ (∀ r ∈ rows, RowA r) ∧ outQ rows Q (judge rows)
  | _ => False
def w__law_outcome : WS := (wSeq (wAsg (wC .non) (wgName 1))
    (wSeq (wAsg (wC .non) (wgName 2))
    (wSeq (wTry xt_SliceError 3 (wAsgX (wCallX true sp_program_of (wCons (wVar 0) wNil)) 2) (wAsg (wVar 3) (wgName 1)))
    (wSeq (wIfS (wTest (wOp (fIs false) (wVar 1) (wC .non))) (wRet (wTup (wCons (wC (.str "made")) (wCons (wVar 2) wNil)))) wNext)
    (wSeq (wAsg (wCallS sp__law_which [] (wCons (wVar 1) wNil)) (wgName 4))
    (wSeq (wIfS (wTest (wOp (fInT false) (wVar 4) (wTup (wCons (wC (.str "row")) (wCons (wC (.str "block")) (wCons (wC (.str "call")) wNil)))))) (wSeq (wIfS (wOr (wNot (wTru (wCall fIsi (wCons (wPlc "place" xp_place (wVar 1)) (wCons (wTy "int") wNil))))) (wTru (wCall fIsi (wCons (wPlc "place" xp_place (wVar 1)) (wCons (wTy "bool") wNil))))) (wRet (wTup (wCons (wC (.str "another")) (wCons (wC (.int 0)) wNil)))) wNext)
    (wRet (wTup (wCons (wVar 4) (wCons (wPlc "place" xp_place (wVar 1)) wNil))))) wNext)
    (wRet (wTup (wCons (wVar 4) (wCons (wC (.int 0)) wNil))))))))))
@[simp] def sp__law_outcome : PSp := sp1 p__law_outcome
theorem v__law_outcome : ∀ a Q, p__law_outcome a Q → w__law_outcome (evr Q) (startE ["_law_rows", "_law_error", "_law_made", "e", "_law_word"] [.d a]) [] := by
  intro a Q h
  unfold p__law_outcome at h
  split at h
  · rename_i rows
    obtain ⟨hl, ha, h⟩ := h
    simp only [w__law_outcome]
    refine seq_to [some (.d (.lst rows)), some (.d .non), none, none, none] [] (fun K hK => by simpa using hK) ?_
    refine seq_to [some (.d (.lst rows)), some (.d .non), some (.d .non), none, none] [] (fun K hK => by simpa using hK) ?_
    cases hj : judge rows with
    | made =>
      rw [hj] at h
      refine seq_to [some (.d (.lst rows)), some (.d .non), some (.loc 0), none, none] [.lst rows] (fun K hK => ?_) ?_
      · simp [hj, tellX]
        exact ⟨hl, ha, hK⟩
      · simpa [outQ, sizeLine_eq] using h
    | great =>
      rw [hj] at h
      refine seq_to [some (.d (.lst rows)), some (.loc 0), some (.d .non), none, none] [.exc (Str.ofString "TooGreat") []] (fun K hK => ?_) ?_
      · simp [hj, tellX]
        exact ⟨hl, ha, hK⟩
      · simpa [outQ, outD, sizeLine_eq] using h _
    | row n =>
      rw [hj] at h
      refine seq_to [some (.d (.lst rows)), some (.loc 0), some (.d .non), none, none] [.exc (Str.ofString "NoRow") (at_ n)] (fun K hK => ?_) ?_
      · simp [hj, tellX]
        exact ⟨hl, ha, by simpa using hK⟩
      · simpa [outQ, outD, sizeLine_eq, onBl] using h _
    | block n =>
      rw [hj] at h
      refine seq_to [some (.d (.lst rows)), some (.loc 0), some (.d .non), none, none] [.exc (Str.ofString "NoBlock") (at_ n)] (fun K hK => ?_) ?_
      · simp [hj, tellX]
        exact ⟨hl, ha, by simpa using hK⟩
      · simpa [outQ, outD, sizeLine_eq, onBl] using h _
    | call n =>
      rw [hj] at h
      refine seq_to [some (.d (.lst rows)), some (.loc 0), some (.d .non), none, none] [.exc (Str.ofString "NoCall") (at_ n)] (fun K hK => ?_) ?_
      · simp [hj, tellX]
        exact ⟨hl, ha, by simpa using hK⟩
      · simpa [outQ, outD, sizeLine_eq, onBl] using h _
  · exact h.elim
theorem outcome_is {a : WE} {rh : Ev} {mu : Sto} {x : W} {rows : List D} (hx : snap mu x = some (.lst rows)) (hl : rows.length ≤ 1000) (hA : ∀ r ∈ rows, RowA r ∧ FlatR r) (ha : Is a rh mu x) : Is (wCallP false sp__law_outcome [] (wCons a wNil)) rh mu (.d (outD rows (judge rows))) := fun K hK => ha _ (by
  have e : snaps mu [x] = some [.lst rows] := by simp [hx]
  have hdf := flat_dflats fun r hr => (hA r hr).2
  show (match snaps mu [x] with
    | some ds => sp__law_outcome (ds ++ []) fun w mu' => if (false = true) then backO (allD [x]) w mu' mu K else backF (allD [x]) w mu' mu K
    | Option.none => False)
  rw [e]
  show rows.length ≤ 1000 ∧ (∀ r ∈ rows, RowA r) ∧ outQ rows _ (judge rows)
  refine ⟨hl, fun r hr => (hA r hr).1, ?_⟩
  cases hj : judge rows with
  | made =>
    rw [hj] at hK
    cases q : allD [x] <;> simp [outQ, outD, hdf] at hK ⊢ <;> exact hK
  | great => rw [hj] at hK; cases q : allD [x] <;> simp [outQ, outD] at hK ⊢ <;> exact hK
  | row k => rw [hj] at hK; cases q : allD [x] <;> simp [outQ, outD] at hK ⊢ <;> exact hK
  | block k => rw [hj] at hK; cases q : allD [x] <;> simp [outQ, outD] at hK ⊢ <;> exact hK
  | call k => rw [hj] at hK; cases q : allD [x] <;> simp [outQ, outD] at hK ⊢ <;> exact hK)
def GoodR (r : D) : Prop := RowA r ∧ rowB r = true ∧ FlatR r
theorem at_some {xs : List D} {i : Int} (h0 : 0 ≤ i) (h1 : i < xs.length) : ∃ d ∈ xs, atI xs i = some d := by
  rw [at_nat h0 h1]
  have : i.toNat < xs.length := by omega
  exact ⟨xs[i.toNat], List.getElem_mem this, by simp [this]⟩
theorem good_of {r : D} (h : RightR r) (f : FlatR r) : GoodR r := by
  obtain ⟨w, ps, rfl, h1, h2⟩ := h
  exact ⟨⟨w, ps, rfl, h1⟩, h2, f⟩
theorem good_ins {xs : List D} {b : D} {p : Nat} (h : ∀ r ∈ xs, GoodR r) (hb : GoodR b) : ∀ r ∈ xs.take p ++ [b] ++ xs.drop p, GoodR r := fun r hr => by
  simp only [List.mem_append, List.mem_singleton] at hr
  rcases hr with (hr | rfl) | hr
  · exact h r (List.mem_of_mem_take hr)
  · exact hb
  · exact h r (List.mem_of_mem_drop hr)
theorem mod_nat (x : Int) (n : Nat) : ∃ p : Nat, p ≤ n ∧ x % ((n : Int) + 1) = p := by
  have h1 := Int.emod_nonneg x (show (n : Int) + 1 ≠ 0 by omega)
  have h2 := Int.emod_lt_of_pos x (show (0 : Int) < (n : Int) + 1 by omega)
  exact ⟨(x % ((n : Int) + 1)).toNat, by omega, by omega⟩
end VL
namespace VL
open PySem PySem.Spec PyProof.Rows L2 RZ
/-! ### k07 -/
theorem cutTk {A1 : Type} (xs : List A1) (n : Nat) : cutL xs none (some (n : Int)) = xs.take n := by
  unfold cutL
  rw [HT.sIx_none, HT.sIx_nat]
  by_cases h : n ≤ xs.length
  · rw [Nat.min_eq_left h]; simp
  · rw [Nat.min_eq_right (by omega)]
    simp
    exact (List.take_of_length_le (by omega)).symm
theorem cutDl {A1 : Type} (xs : List A1) : cutL xs none (some (-1)) = xs.dropLast := by
  unfold cutL HT.sIx
  simp [List.dropLast_eq_take]
  omega
/-- the rows that are open, as the law has them -/
def nextO (w : Str) (st : List Str) : List Str :=
  if w = Str.ofString "def" ∨ w = Str.ofString "if" ∨ w = Str.ofString "while" then st ++ [w] else if w = Str.ofString "give" ∨ w = Str.ofString "end" then st.dropLast else if w = Str.ofString "else" then st.dropLast ++ [Str.ofString "if with else"] else st
def fO (w : Str) : Str := if w = Str.ofString "else" then Str.ofString "if with else" else w
theorem next_map (w : Str) (st : List Str) : nextO w (st.map fO) = (nextB w st).map fO := by
  unfold nextO nextB
  by_cases c1 : w = Str.ofString "def" ∨ w = Str.ofString "if" ∨ w = Str.ofString "while"
  · rw [if_pos c1, if_pos c1, List.map_append]
    have : fO w = w := by rcases c1 with rfl | rfl | rfl <;> simp [fO]
    simp [this]
  · rw [if_neg c1, if_neg c1]
    by_cases c2 : w = Str.ofString "give" ∨ w = Str.ofString "end"
    · rw [if_pos c2, if_pos c2, List.map_dropLast]
    · rw [if_neg c2, if_neg c2]
      by_cases c3 : w = Str.ofString "else"
      · rw [if_pos c3, if_pos c3, List.map_append, List.map_dropLast]; simp [fO]
      · rw [if_neg c3, if_neg c3]
def stS (st : List Str) (r : D) : List Str := match wordR r with
  | some w => nextB w st
  | none => st
def stN (st : List Str) (xs : List D) : List Str := xs.foldl stS st
theorem stN_app (st : List Str) (xs ys : List D) : stN st (xs ++ ys) = stN (stN st xs) ys := List.foldl_append
@[simp] def p__law_open : D → D → (W → Sto → Prop) → Prop := fun a b Q => match a, b with
  | .lst rows, .int n => ∃ m : Nat, n = m ∧ m ≤ rows.length ∧ rows.length ≤ 1000 ∧ (∀ r ∈ rows, ∃ w, wordR r = some w) ∧ ∀ mu, Q (.d (.lst (((stN [] (rows.take m)).map fO).map D.str))) mu
  | _, _ => False
theorem stN_len (st : List Str) : ∀ xs : List D, (stN st xs).length ≤ st.length + xs.length := by
  intro xs
  induction xs generalizing st with
  | nil => simp [stN]
  | cons x xs ih =>
    have h1 := ih (stS st x)
    have h2 : (stS st x).length ≤ st.length + 1 := by
      unfold stS
      cases wordR x with
      | none => simp
      | some w => exact nextB_len w st
    show (stN (stS st x) xs).length ≤ _
    simp; omega
def w__law_open : WS := (wSeq (wAsg (wLst false wNil) (wgName 2))
    (wSeq (wFor (wSeqI (wSl false (wVar 0) wNoPart (wPart (wVar 1)))) (wgName 3) (wSeq (wIfS (wTest (wOp (fInT false) (wOp fIx (wVar 3) (wC (.int 0))) (wTup (wCons (wC (.str "def")) (wCons (wC (.str "if")) (wCons (wC (.str "while")) wNil)))))) (wAsg (wOp (fAdd false) (wVar 2) (wLst false (wCons (wOp fIx (wVar 3) (wC (.int 0))) wNil))) (wgName 2)) wNext)
    (wSeq (wIfS (wTest (wOp (fInT false) (wOp fIx (wVar 3) (wC (.int 0))) (wTup (wCons (wC (.str "give")) (wCons (wC (.str "end")) wNil))))) (wAsg (wSl false (wVar 2) wNoPart (wPart (wUn (fun i => -i) (wC (.int 1))))) (wgName 2)) wNext)
    (wIfS (wTest (wOp (fEq false) (wOp fIx (wVar 3) (wC (.int 0))) (wC (.str "else")))) (wAsg (wOp (fAdd false) (wSl false (wVar 2) wNoPart (wPart (wUn (fun i => -i) (wC (.int 1))))) (wLst false (wCons (wC (.str "if with else")) wNil))) (wgName 2)) wNext))))
    (wRet (wVar 2))))
@[simp] def sp__law_open : PSp := sp2 p__law_open
theorem v__law_open : ∀ a b Q, p__law_open a b Q → w__law_open (evr Q) (startE ["_law_rows", "_law_at", "_law_opened", "_law_row"] [.d a, .d b]) [] := by
  intro a b Q h
  unfold p__law_open at h
  split at h
  · rename_i rows n
    obtain ⟨m, rfl, hm, hl, hw, h⟩ := h
    simp only [w__law_open]
    refine seq_to [some (.d (.lst rows)), some (.d (.int m)), some (.d (.lst [])), none] [] (fun K hK => by simpa using hK) ?_
    refine seq_R (fun rh mu => ∃ c, rh = [some (.d (.lst rows)), some (.d (.int m)), some (.d (.lst (((stN [] (rows.take m)).map fO).map D.str))), c] ∧ mu = []) (fun K hK => ?_) ?_
    · simp [sizeLine_eq, cutTk]
      rw [← List.map_take]
      refine forL_S (fun d : D => W.d d) (fun rest rh mu => ∃ dn c, rows.take m = dn ++ rest ∧ rh = [some (.d (.lst rows)), some (.d (.int m)), some (.d (.lst (((stN [] dn).map fO).map D.str))), c] ∧ mu = []) (fun _ _ _ _ => trivial) ?_ ?_ ⟨[], none, rfl, rfl, rfl⟩
      · rintro _ _ ⟨dn, c, e, rfl, rfl⟩
        rw [List.append_nil] at e
        subst e
        exact hK _ _ ⟨c, rfl, rfl⟩
      · rintro r rest _ _ ⟨dn, c, e, rfl, rfl⟩ N hN
        have hr : r ∈ rows := List.mem_of_mem_take (by rw [e]; simp)
        obtain ⟨w, ew⟩ := hw r hr
        obtain ⟨ps, rfl⟩ := wordR_tup' ew
        have en : stN [] (dn ++ [.tup (.str w :: ps)]) = nextB w (stN [] dn) := by rw [stN_app]; rfl
        have fin : ∀ c, N [some (.d (.lst rows)), some (.d (.int m)), some (.d (.lst ((nextO w ((stN [] dn).map fO)).map D.str))), c] [] := fun c => hN _ _ ⟨dn ++ [.tup (.str w :: ps)], c, by rw [e]; simp, by rw [en, next_map], rfl⟩
        have hlen : ((stN [] dn).map fO).length ≤ 1000 := by
          have h1 := stN_len [] dn
          have h2 := congrArg List.length e
          simp at h1 h2 ⊢
          omega
        generalize (stN [] dn).map fO = st at fin hlen ⊢
        simp only [wgName]
        have fin := fin (some (.d (.tup (.str w :: ps))))
        have hs : (st.map D.str).length ≤ 1000 := by simpa using hlen
        unfold nextO at fin
        show wSeq _ _ _ [some (W.d (.lst rows)), some (.d (.int m)), some (.d (.lst (st.map D.str))), some (.d (.tup (.str w :: ps)))] []
        by_cases c1 : w = Str.ofString "def" ∨ w = Str.ofString "if" ∨ w = Str.ofString "while"
        · rw [if_pos c1] at fin
          refine seq_to [some (.d (.lst rows)), some (.d (.int m)), some (.d (.lst ((st ++ [w]).map D.str))), some (.d (.tup (.str w :: ps)))] [] (fun K hK => ?_) ?_
          · have hl3 : st.length + 1 ≤ 16777216 := by omega
            rcases c1 with rfl | rfl | rfl <;> simp [sizeLine_eq, hl3] <;> simpa using hK
          · rcases c1 with rfl | rfl | rfl <;> simp [sizeLine_eq] <;> simpa using fin
        · rw [if_neg c1] at fin
          have d1 : ¬ w = Str.ofString "def" := fun z => c1 (.inl z)
          have d2 : ¬ w = Str.ofString "if" := fun z => c1 (.inr (.inl z))
          have d3 : ¬ w = Str.ofString "while" := fun z => c1 (.inr (.inr z))
          refine seq_to [some (.d (.lst rows)), some (.d (.int m)), some (.d (.lst (st.map D.str))), some (.d (.tup (.str w :: ps)))] [] (fun K hK => ?_) ?_
          · simp [Ne.symm d1, Ne.symm d2, Ne.symm d3, sizeLine_eq]; exact hK
          by_cases c2 : w = Str.ofString "give" ∨ w = Str.ofString "end"
          · rw [if_pos c2] at fin
            rcases c2 with rfl | rfl <;> simp [sizeLine_eq, cutDl] <;> simpa [List.map_dropLast] using fin
          · rw [if_neg c2] at fin
            have d4 : ¬ w = Str.ofString "give" := fun z => c2 (.inl z)
            have d5 : ¬ w = Str.ofString "end" := fun z => c2 (.inr z)
            by_cases c3 : w = Str.ofString "else"
            · rw [if_pos c3] at fin
              subst c3
              simp [sizeLine_eq, cutDl]
              exact ⟨by omega, by simpa [List.map_dropLast] using fin⟩
            · rw [if_neg c3] at fin
              simp [Ne.symm d4, Ne.symm d5, c3, sizeLine_eq]
              exact fin
    · rintro _ _ ⟨c, rfl, rfl⟩
      simpa using h _
  · exact h.elim
@[simp] def p__law_breaks : D → D → (W → Sto → Prop) → Prop := fun a b Q => match a, b with
  | .lst rows, .int n => ∃ (m : Nat) (w : Str) (ps : List D), n = m ∧ rows.length ≤ 1000 ∧ (∀ r ∈ rows, ∃ w, wordR r = some w) ∧ rows[m]? = some (.tup (.str w :: ps)) ∧ ∀ mu, Q (.d (.bl (!fitsB w (stN [] (rows.take m))))) mu
  | _, _ => False
theorem fO_def (z : Str) : (fO z == Str.ofString "def") = (z == Str.ofString "def") := by
  unfold fO
  split
  · rename_i h; subst h; decide +kernel
  · rfl
theorem fO_if (z : Str) : (fO z == Str.ofString "if") = (z == Str.ofString "if") := by
  unfold fO
  split
  · rename_i h; subst h; decide +kernel
  · rfl
def w__law_breaks : WS := (wSeq (wAsg (wCallP false sp__law_open [] (wCons (wVar 0) (wCons (wVar 1) wNil))) (wgName 2))
    (wSeq (wAsg (wOp fIx (wOp fIx (wVar 0) (wVar 1)) (wC (.int 0))) (wgName 3))
    (wSeq (wIfS (wTest (wOp (fEq false) (wVar 2) (wLst false wNil))) (wRet (wOp (fInT true) (wVar 3) (wTup (wCons (wC (.str "def")) (wCons (wC (.str "skip")) wNil))))) wNext)
    (wSeq (wIfS (wTest (wOp (fEq false) (wVar 3) (wC (.str "give")))) (wRet (wOp (fEq true) (wOp fIx (wVar 2) (wUn (fun i => -i) (wC (.int 1)))) (wC (.str "def")))) wNext)
    (wSeq (wIfS (wTest (wOp (fEq false) (wVar 3) (wC (.str "end")))) (wRet (wOp (fEq false) (wOp fIx (wVar 2) (wUn (fun i => -i) (wC (.int 1)))) (wC (.str "def")))) wNext)
    (wSeq (wIfS (wTest (wOp (fEq false) (wVar 3) (wC (.str "else")))) (wRet (wOp (fEq true) (wOp fIx (wVar 2) (wUn (fun i => -i) (wC (.int 1)))) (wC (.str "if")))) wNext)
    (wRet (wOp (fEq false) (wVar 3) (wC (.str "def"))))))))))
@[simp] def sp__law_breaks : PSp := sp2 p__law_breaks
theorem v__law_breaks : ∀ a b Q, p__law_breaks a b Q → w__law_breaks (evr Q) (startE ["_law_rows", "_law_at", "_law_opened", "_law_word"] [.d a, .d b]) [] := by
  intro a b Q h
  unfold p__law_breaks at h
  split at h
  · rename_i rows n
    obtain ⟨m, w, ps, rfl, hl, hw, hm, h⟩ := h
    have ml := (List.getElem?_eq_some_iff.mp hm).1
    have am : atI rows (m : Int) = some (.tup (.str w :: ps)) := by rw [at_nat (by omega) (by omega)]; simpa using hm
    simp only [w__law_breaks]
    have sl := stN_len [] (rows.take m)
    generalize est : stN [] (rows.take m) = st at h sl
    refine seq_to [some (.d (.lst rows)), some (.d (.int m)), some (.d (.lst ((st.map fO).map D.str))), none] [] (fun K hK => ?_) ?_
    · show wCallP _ _ _ _ _ _ _
      simp
      exact ⟨m, rfl, by omega, hl, hw, by rw [est]; simpa using hK⟩
    refine seq_to [some (.d (.lst rows)), some (.d (.int m)), some (.d (.lst ((st.map fO).map D.str))), some (.d (.str w))] [] (fun K hK => by simpa [am] using hK) ?_
    rcases List.eq_nil_or_concat st with rfl | ⟨s0, z, hz⟩
    · simp
      simp [fitsB] at h
      refine ⟨by rw [sizeLine_eq]; omega, ?_⟩
      have e1 : (Str.ofString "def" == w) = decide (w = Str.ofString "def") := by rw [BEq.comm]; rfl
      have e2 : (Str.ofString "skip" == w) = decide (w = Str.ofString "skip") := by rw [BEq.comm]; rfl
      rw [e1, e2]
      exact h _
    · rw [List.concat_eq_append] at hz
      subst hz
      have hat : atI (((s0 ++ [z]).map fO).map D.str) (-1) = some (.str (fO z)) := by
        rw [List.map_append, List.map_append]; exact at_lastS _ _
      have hd : ddeps (((s0 ++ [z]).map fO).map D.str) ≤ 63 := by rw [strs_dep0]; omega
      have ne : deqvs (((s0 ++ [z]).map fO).map D.str) [] = false := by cases s0 <;> simp
      have e1 := fO_def z
      have e2 := fO_if z
      simp only [fitsB, List.getLast?_concat] at h
      generalize ((s0 ++ [z]).map fO).map D.str = S at hat hd ne ⊢
      generalize fO z = zz at *
      simp [hat, hd, ne]
      by_cases c1 : w = Str.ofString "def"
      · subst c1; simpa using h _
      by_cases c2 : w = Str.ofString "give"
      · subst c2
        have h := h []
        simp at h ⊢
        rw [e1]; exact h
      by_cases c3 : w = Str.ofString "end"
      · subst c3
        have h := h []
        simp at h ⊢
        rw [e1]; exact h
      by_cases c4 : w = Str.ofString "else"
      · subst c4
        have h := h []
        simp at h ⊢
        rw [e2]; exact h
      have h := h []
      have c1' : (w == Str.ofString "def") = false := by simpa using c1
      rw [c1']
      simpa [c1, c2, c3, c4] using h
  · exact h.elim
@[simp] def p__law_due : D → (W → Sto → Prop) → Prop := fun a Q => match a with
  | .lst rows => rows.length ≤ 1000 ∧ (∀ r ∈ rows, ∃ w, wordR r = some w) ∧ ∀ mu, Q (.d (optD (breakB 0 rows []))) mu
  | _ => False
def w__law_due : WS := (wSeq (wFor (wRng1 (wCons (wCall fLen (wCons (wVar 0) wNil)) wNil)) (wgName 1) (wIfS (wTru (wCallP false sp__law_breaks [] (wCons (wVar 0) (wCons (wVar 1) wNil)))) (wRet (wVar 1)) wNext))
    (wSeq (wIfS (wTest (wOp (fEq true) (wCallP false sp__law_open [] (wCons (wVar 0) (wCons (wCall fLen (wCons (wVar 0) wNil)) wNil))) (wLst false wNil))) (wRet (wCall fLen (wCons (wVar 0) wNil))) wNext)
    (wRet (wC .non))))
@[simp] def sp__law_due : PSp := sp1 p__law_due
theorem v__law_due : ∀ a Q, p__law_due a Q → w__law_due (evr Q) (startE ["_law_rows", "_law_at"] [.d a]) [] := by
  intro a Q h
  unfold p__law_due at h
  split at h
  · rename_i rows
    obtain ⟨hl, hw, h⟩ := h
    simp only [w__law_due]
    have loop : ∀ V : EV, V.rt = Q → ((breakB rows.length [] (stN [] rows) = breakB 0 rows []) → ∀ c, V.nx [some (.d (.lst rows)), c] []) → wFor (wRng1 (wCons (wCall fLen (wCons (wVar 0) wNil)) wNil)) (wgName 1) (wIfS (wTru (wCallP false sp__law_breaks [] (wCons (wVar 0) (wCons (wVar 1) wNil)))) (wRet (wVar 1)) wNext) V [some (.d (.lst rows)), none] [] := by
      intro V hV hk
      simp
      refine ⟨by omega, forL_rng (fun k rh mu => k ≤ rows.length ∧ ∃ c, rh = [some (.d (.lst rows)), c] ∧ mu = [] ∧ breakB k (rows.drop k) (stN [] (rows.take k)) = breakB 0 rows []) (fun _ _ _ _ => trivial) ?_ ?_ ⟨by omega, none, rfl, rfl, rfl⟩⟩
      · rintro _ _ ⟨_, c, rfl, rfl, e⟩
        simp only [List.drop_length, List.take_length] at e
        exact hk e c
      · rintro k hkl _ _ ⟨_, c, rfl, rfl, e⟩ N hN
        rw [List.drop_eq_getElem_cons hkl] at e
        obtain ⟨w, ew⟩ := hw rows[k] (List.getElem_mem hkl)
        obtain ⟨ps, er⟩ := wordR_tup' ew
        have hk1 : rows[k]? = some (.tup (.str w :: ps)) := by rw [List.getElem?_eq_getElem hkl, er]
        simp only [breakB, ew] at e
        simp
        refine ⟨k, rfl, hl, hw, w, ⟨ps, hk1⟩, ?_⟩
        by_cases hf : fitsB w (stN [] (rows.take k)) = true
        · rw [if_pos hf] at e
          simp [hf]
          refine hN _ _ ⟨hkl, _, rfl, rfl, ?_⟩
          rw [← e]
          have : stN [] (rows.take (k + 1)) = nextB w (stN [] (rows.take k)) := by
            rw [List.take_succ, hk1, stN_app]; rfl
          rw [this]
        · rw [if_neg hf] at e
          have hf : fitsB w (stN [] (rows.take k)) = false := by simpa using hf
          have := h []
          rw [← e] at this
          simp [hf, hV]
          exact this
    refine seq_R (fun rh mu => ∃ c, rh = [some (.d (.lst rows)), c] ∧ mu = [] ∧ breakB rows.length [] (stN [] rows) = breakB 0 rows []) (fun K hK => loop _ rfl fun e c => hK _ _ ⟨c, rfl, rfl, e⟩) ?_
    rintro _ _ ⟨c, rfl, rfl, e⟩
    have h := h []
    rw [← e] at h
    have hs := stN_len [] rows
    generalize est : stN [] rows = st at h hs
    have e2 : breakB rows.length [] st = if st = [] then none else some rows.length := by unfold breakB; rfl
    rw [e2] at h
    have ho : Is (wCallP false sp__law_open [] (wCons (wVar 0) (wCons (wCall fLen (wCons (wVar 0) wNil)) wNil))) [some (.d (.lst rows)), c] [] (.d (.lst ((st.map fO).map D.str))) := fun K hK => by
      simp
      refine ⟨rows.length, rfl, by omega, hl, hw, ?_⟩
      rw [List.take_length, est]
      simpa using hK
    have hd : ddeps ((st.map fO).map D.str) ≤ 63 := by rw [strs_dep0]; omega
    by_cases es : st = []
    · subst es
      refine seq_to [some (.d (.lst rows)), c] [] (fun K hK => ho _ ?_) ?_
      · simpa using hK
      · simpa [optD] using h
    · rw [if_neg es] at h
      have ne : deqvs ((st.map fO).map D.str) [] = false := by
        cases st with
        | nil => exact absurd rfl es
        | cons z st => simp
      refine seq_do fun N => ho _ ?_
      rw [List.map_map] at hd ne
      simp [hd, ne]
      exact h
  · exact h.elim
theorem someG {w0 w5 : Str} (h0 : goodW w0) (h5 : goodW w5) : ∀ r ∈ ([.tup [.str (Str.ofString "def"), .str w5, .tup []], .tup [.str (Str.ofString "give"), .int 0], .tup [.str (Str.ofString "if"), .str w0], .tup [.str (Str.ofString "while"), .int 1], .tup [.str (Str.ofString "else")], .tup [.str (Str.ofString "end")], .tup [.str (Str.ofString "put"), .str (Str.ofString "a"), .int 1]] : List D), GoodR r := by
  have n0 := good_name h0
  have n5 := good_name h5
  have na : nameOk (Str.ofString "a") = true := by decide +kernel
  have s0 : setS [] = [] := by have := setS_len []; simpa using this
  intro r hr
  simp only [List.mem_cons, List.not_mem_nil, or_false] at hr
  rcases hr with rfl | rfl | rfl | rfl | rfl | rfl | rfl
  all_goals
    refine ⟨⟨_, _, rfl, ⟨?_, by simp, ?_, ?_⟩⟩, ?_, by simp, by simp, _, rfl⟩
    · simp [plainDs, plainD]
    · simp [plainDs, plainD]
    · simp
    · simp [rowB, rowOk, clsOf, okPut, okBare, okDef, okGive, operD, nameD, numD, numOk, allOpD, namesOf, n0, n5, na, s0]
theorem good_set {xs : List D} {r : D} {i : Nat} (h : ∀ x ∈ xs, GoodR x) (hr : GoodR r) : ∀ x ∈ xs.set i r, GoodR x := fun x hx => by
  rcases List.mem_or_eq_of_mem_set hx with hx | rfl
  · exact h x hx
  · exact hr
theorem mod_nat1 (x : Int) {n : Nat} (h : 0 < n) : ∃ p : Nat, p < n ∧ gMod x (n : Int) = p := by
  rw [gMod_pos (by omega)]
  have h1 := Int.emod_nonneg x (show (n : Int) ≠ 0 by omega)
  have h2 := Int.emod_lt_of_pos x (show (0 : Int) < (n : Int) by omega)
  exact ⟨(x % (n : Int)).toNat, by omega, by omega⟩
@[simp] def p__law_turned : D → D → D → (W → Sto → Prop) → Prop := fun a b c Q => match a, b, c with
  | .lst rows, .int n, .lst ws' => ∃ ws : List Str, ws' = ws.map D.str ∧ ws.length = 6 ∧ (∀ w ∈ ws, goodW w) ∧ (∀ r ∈ rows, GoodR r) ∧ rows.length < 60 ∧ ∀ (rows' : List D) k mu, (∀ r ∈ rows', GoodR r) → rows'.length ≤ 60 → mu[k]? = some (.lst rows') → (∀ c ∈ mu, cflat c = true) → Q (.loc k) mu
  | _, _, _ => False
theorem flat_of {rows : List D} (h : ∀ r ∈ rows, GoodR r) : dflats rows = true := flat_dflats fun r hr => (h r hr).2.2
def w__law_turned : WS := (wSeq (wAsg (wOp (fI CR0 gMod) (wOp (fI CD gDiv) (wVar 1) (wC (.int 24))) (wOp (fAdd false) (wCall fLen (wCons (wVar 0) wNil)) (wC (.int 1)))) (wgName 3))
    (wSeq (wAsg (wLst false (wCons (wTup (wCons (wC (.str "def")) (wCons (wOp fIx (wVar 2) (wC (.int 5))) (wCons (wTup wNil) wNil)))) (wCons (wTup (wCons (wC (.str "give")) (wCons (wC (.int 0)) wNil))) (wCons (wTup (wCons (wC (.str "if")) (wCons (wOp fIx (wVar 2) (wC (.int 0))) wNil))) (wCons (wTup (wCons (wC (.str "while")) (wCons (wC (.int 1)) wNil))) (wCons (wTup (wCons (wC (.str "else")) wNil)) (wCons (wTup (wCons (wC (.str "end")) wNil)) (wCons (wTup (wCons (wC (.str "put")) (wCons (wC (.str "a")) (wCons (wC (.int 1)) wNil)))) wNil)))))))) (wgName 4))
    (wSeq (wIfS (wOr (wTest (wOp (fEq false) (wOp (fI CR0 gMod) (wVar 1) (wC (.int 3))) (wC (.int 0)))) (wTest (wOp (fEq false) (wVar 0) (wLst false wNil)))) (wRet (wOp (fAdd true) (wOp (fAdd false) (wSl false (wVar 0) wNoPart (wPart (wVar 3))) (wLst false (wCons (wOp fIx (wVar 4) (wOp (fI CR0 gMod) (wOp (fI CD gDiv) (wVar 1) (wC (.int 3))) (wC (.int 7)))) wNil))) (wSl false (wVar 0) (wPart (wVar 3)) wNoPart))) wNext)
    (wSeq (wIfS (wTest (wOp (fEq false) (wOp (fI CR0 gMod) (wVar 1) (wC (.int 3))) (wC (.int 1)))) (wRet (wOp (fAdd true) (wSl false (wVar 0) wNoPart (wPart (wVar 3))) (wSl false (wVar 0) (wPart (wOp (fAdd false) (wVar 3) (wC (.int 1)))) wNoPart))) wNext)
    (wSeq (wAsg (wOp (fI CR0 gMod) (wOp (fI CD gDiv) (wVar 1) (wC (.int 7))) (wCall fLen (wCons (wVar 0) wNil))) (wgName 5))
    (wSeq (wAsg (wOp (fI CR0 gMod) (wVar 3) (wCall fLen (wCons (wVar 0) wNil))) (wgName 6))
    (wSeq (wAsg (wCall (fList true) (wCons (wVar 0) wNil)) (wgName 0))
    (wSeq (wAsg (wOp fIx (wVar 0) (wVar 5)) (wgName 7))
    (wSeq (wAsg (wOp fIx (wVar 0) (wVar 6)) (wgSub fSetL (wVar 0) (wVar 5)))
    (wSeq (wAsg (wVar 7) (wgSub fSetL (wVar 0) (wVar 6)))
    (wRet (wVar 0))))))))))))
@[simp] def sp__law_turned : PSp := sp3 p__law_turned
theorem v__law_turned : ∀ a b c Q, p__law_turned a b c Q → w__law_turned (evr Q) (startE ["_law_rows", "_law_cell", "_law_words_here", "_law_at", "_law_some", "_law_one", "_law_other", "_law_held"] [.d a, .d b, .d c]) [] := by
  intro a b c Q h
  unfold p__law_turned at h
  split at h
  · rename_i rows n ws'
    obtain ⟨ws, rfl, hl6, hg, hr, hl, h⟩ := h
    have hdf := flat_of hr
    obtain ⟨w0, e0⟩ : ∃ w0, ws[0]? = some w0 := ⟨_, List.getElem?_eq_getElem (by omega)⟩
    obtain ⟨w5, e5⟩ : ∃ w5, ws[5]? = some w5 := ⟨_, List.getElem?_eq_getElem (by omega)⟩
    have a0 : atI (ws.map D.str) 0 = some (.str w0) := by rw [at_nat (by omega) (by simp; omega)]; simp [e0]
    have a5 : atI (ws.map D.str) 5 = some (.str w5) := by rw [at_nat (by omega) (by simp; omega)]; simp [e5]
    have hG := someG (hg w0 (List.mem_of_getElem? e0)) (hg w5 (List.mem_of_getElem? e5))
    simp only [w__law_turned]
    obtain ⟨at_, hat, eat⟩ := mod_nat (n / 24) rows.length
    refine seq_to [some (.d (.lst rows)), some (.d (.int n)), some (.d (.lst (ws.map D.str))), some (.d (.int at_)), none, none, none, none] [] (fun K hK => ?_) ?_
    · simp [eat]
      exact ⟨by omega, hK⟩
    obtain ⟨S, hS⟩ : ∃ S : List D, S = [.tup [.str (Str.ofString "def"), .str w5, .tup []], .tup [.str (Str.ofString "give"), .int 0], .tup [.str (Str.ofString "if"), .str w0], .tup [.str (Str.ofString "while"), .int 1], .tup [.str (Str.ofString "else")], .tup [.str (Str.ofString "end")], .tup [.str (Str.ofString "put"), .str (Str.ofString "a"), .int 1]] := ⟨_, rfl⟩
    have sl : S.length = 7 := by rw [hS]; rfl
    refine seq_to [some (.d (.lst rows)), some (.d (.int n)), some (.d (.lst (ws.map D.str))), some (.d (.int at_)), some (.d (.lst S)), none, none, none] [] (fun K hK => ?_) ?_
    · rw [hS] at hK
      simp [sizeLine_eq, a0, a5]
      exact hK
    rw [← hS] at hG
    clear hS
    have hd := flat_ddeps fun r h => (hr r h).2.2
    by_cases c0 : n % 3 = 0 ∨ rows = []
    · refine seq_do fun N => ?_
      obtain ⟨r, hrS, er⟩ := at_some (i := n / 3 % 7) (xs := S) (by omega) (by omega)
      have b1 := good_ins (p := at_) hr (hG r hrS)
      refine ifS_T (fun K hK => ?_) ?_
      · by_cases c3 : n % 3 = 0
        · simp [c3]; exact hK
        · obtain rfl : rows = [] := c0.resolve_left c3
          simp [c3]; exact hK
      · simp [sizeLine_eq, er, cutTk, cut_from]
        refine ⟨by omega, by omega, h _ 0 _ (by simpa using b1) (by simp; omega) rfl (by simpa using flat_of b1)⟩
    · have c1 : ¬ n % 3 = 0 := fun z => c0 (.inl z)
      have c2 : rows ≠ [] := fun z => c0 (.inr z)
      have ne : deqvs rows [] = false := by
        cases rows with
        | nil => exact absurd rfl c2
        | cons x xs => simp
      have hpos : 0 < rows.length := List.length_pos_iff.mpr c2
      refine seq_to [some (.d (.lst rows)), some (.d (.int n)), some (.d (.lst (ws.map D.str))), some (.d (.int at_)), some (.d (.lst S)), none, none, none] [] (fun K hK => ?_) ?_
      · simp [c1, ne]
        exact ⟨by omega, hK⟩
      by_cases c3 : n % 3 = 1
      · refine seq_do fun N => ?_
        have b1 : ∀ r ∈ rows.take at_ ++ rows.drop (at_ + 1), GoodR r := fun r h => by
          rcases List.mem_append.mp h with h | h
          · exact hr r (List.mem_of_mem_take h)
          · exact hr r (List.mem_of_mem_drop h)
        have ec : cutL rows (some ((at_ : Int) + 1)) none = rows.drop (at_ + 1) := cut_from rows (at_ + 1)
        simp [c3, sizeLine_eq, cutTk, ec]
        refine ⟨by omega, h _ 0 _ b1 (by simp; omega) rfl (by simpa using flat_of b1)⟩
      refine seq_to [some (.d (.lst rows)), some (.d (.int n)), some (.d (.lst (ws.map D.str))), some (.d (.int at_)), some (.d (.lst S)), none, none, none] [] (fun K hK => ?_) ?_
      · simp [c3]; exact hK
      obtain ⟨i1, h1, e1⟩ := mod_nat1 (n / 7) hpos
      obtain ⟨i2, h2, e2⟩ := mod_nat1 (at_ : Int) hpos
      refine seq_to [some (.d (.lst rows)), some (.d (.int n)), some (.d (.lst (ws.map D.str))), some (.d (.int at_)), some (.d (.lst S)), some (.d (.int i1)), none, none] [] (fun K hK => ?_) ?_
      · simp [e1]; exact ⟨by omega, hK⟩
      refine seq_to [some (.d (.lst rows)), some (.d (.int n)), some (.d (.lst (ws.map D.str))), some (.d (.int at_)), some (.d (.lst S)), some (.d (.int i1)), some (.d (.int i2)), none] [] (fun K hK => ?_) ?_
      · simp [e2]; exact ⟨by omega, hK⟩
      refine seq_to [some (.loc 0), some (.d (.int n)), some (.d (.lst (ws.map D.str))), some (.d (.int at_)), some (.d (.lst S)), some (.d (.int i1)), some (.d (.int i2)), none] [.lst rows] (fun K hK => ?_) ?_
      · simpa using hK
      obtain ⟨x1, g1⟩ : ∃ x, rows[i1]? = some x := ⟨_, List.getElem?_eq_getElem h1⟩
      obtain ⟨x2, g2⟩ : ∃ x, rows[i2]? = some x := ⟨_, List.getElem?_eq_getElem h2⟩
      have t1 : atI rows (i1 : Int) = some x1 := by rw [at_nat (by omega) (by omega)]; simpa using g1
      have t2 : atI rows (i2 : Int) = some x2 := by rw [at_nat (by omega) (by omega)]; simpa using g2
      have x1g := hr x1 (List.mem_of_getElem? g1)
      have x2g := hr x2 (List.mem_of_getElem? g2)
      have ix1 : ixN rows.length (i1 : Int) = some i1 := by unfold ixN; rw [if_pos (by omega), if_pos (by omega)]; rfl
      have ix2 : ixN rows.length (i2 : Int) = some i2 := by unfold ixN; rw [if_pos (by omega), if_pos (by omega)]; rfl
      refine seq_to [some (.loc 0), some (.d (.int n)), some (.d (.lst (ws.map D.str))), some (.d (.int at_)), some (.d (.lst S)), some (.d (.int i1)), some (.d (.int i2)), some (.d x1)] [.lst rows] (fun K hK => ?_) ?_
      · simp
        exact ⟨_, atI_map t1, hK⟩
      refine seq_to [some (.loc 0), some (.d (.int n)), some (.d (.lst (ws.map D.str))), some (.d (.int at_)), some (.d (.lst S)), some (.d (.int i1)), some (.d (.int i2)), some (.d x1)] [.lst (rows.set i1 x2)] (fun K hK => ?_) ?_
      · simp [ix1]
        exact ⟨_, atI_map t2, hK⟩
      refine seq_to [some (.loc 0), some (.d (.int n)), some (.d (.lst (ws.map D.str))), some (.d (.int at_)), some (.d (.lst S)), some (.d (.int i1)), some (.d (.int i2)), some (.d x1)] [.lst ((rows.set i1 x2).set i2 x1)] (fun K hK => ?_) ?_
      · simp [ix2]; exact hK
      have b1 := good_set (i := i2) (good_set (i := i1) hr x2g) x1g
      simp
      exact h _ 0 _ b1 (by simp; omega) rfl (by simpa using flat_of b1)
  · exact h.elim
theorem good_badRow {rows : List D} (h : ∀ r ∈ rows, GoodR r) : badRow rows = none := by
  unfold badRow
  rw [List.findIdx?_eq_none_iff]
  intro r hr
  simp [(h r hr).2.1]
theorem good_word {rows : List D} (h : ∀ r ∈ rows, GoodR r) : ∀ r ∈ rows, ∃ w, wordR r = some w := fun r hr => by
  obtain ⟨⟨w, ps, rfl, _⟩, _⟩ := h r hr
  exact ⟨w, rfl⟩
theorem good_judge {rows : List D} (h : ∀ r ∈ rows, GoodR r) (hl : rows.length ≤ 60) : judge rows = match breakB 0 rows [] with
    | some k => .block k
    | none => match badCall rows with
      | some k => .call k
      | none => .made := by
  unfold VL.judge
  rw [if_neg (by omega), good_badRow h]
  first | done | (cases breakB 0 rows [] <;> rfl)
def w_law : WS := (wSeq (wAsg (wCallP false sp__law_words [] (wCons (wCallP false sp__law_cell_at [] (wCons (wVar 0) (wCons (wC (.int 0)) wNil))) (wCons (wC (.int 6)) wNil))) (wgName 1))
    (wSeq (wAsg (wCallP true sp__law_program [] (wCons (wSl false (wVar 0) (wPart (wC (.int 5))) (wPart (wC (.int 45)))) (wCons (wVar 1) (wCons (wCallP false sp__law_plan [] (wCons (wCallP false sp__law_cell_at [] (wCons (wVar 0) (wCons (wC (.int 1)) wNil))) (wCons (wVar 1) wNil))) wNil)))) (wgName 2))
    (wSeq (wFor (wRng1 (wCons (wOp (fAdd false) (wC (.int 1)) (wOp (fI CR0 gMod) (wOp (fI CD gDiv) (wCallP false sp__law_cell_at [] (wCons (wVar 0) (wCons (wC (.int 1)) wNil))) (wC (.int 3))) (wC (.int 3)))) wNil)) (wgName 3) (wIfS (wTest (wOp (fB0 fun i j => decide (i < j)) (wCall fLen (wCons (wVar 2) wNil)) (wC (.int 60)))) (wAsg (wCallP true sp__law_turned [] (wCons (wVar 2) (wCons (wOp (fI CR0 gMod) (wCallP false sp__law_cell_at [] (wCons (wVar 0) (wCons (wOp (fAdd false) (wC (.int 2)) (wVar 3)) wNil))) (wOp (fI CPow fun i j => i ^ j.toNat) (wC (.int 10)) (wC (.int 9)))) (wCons (wVar 1) wNil)))) (wgName 2)) wNext))
    (wSeq (wIfS (wAnd (wTest (wOp (fEq false) (wOp (fI CR0 gMod) (wCallP false sp__law_cell_at [] (wCons (wVar 0) (wCons (wC (.int 0)) wNil))) (wC (.int 2))) (wC (.int 1)))) (wTest (wChain (fB0 fun i j => decide (i < j)) (fB0 fun i j => decide (i < j)) (wC (.int 0)) (wCall fLen (wCons (wVar 2) wNil)) (wC (.int 60))))) (wDrop (wBM fInsert (wVar 2) (wCons (wC (.int 1)) (wCons (wTup (wCons (wC (.str "call")) (wCons (wOp fIx (wVar 1) (wC (.int 0))) (wCons (wC (.str "nobodyno")) (wCons (wTup wNil) wNil))))) wNil)))) wNext)
    (wSeq (wAsg (wCall (fList false) (wCons (wVar 2) wNil)) (wgName 4))
    (wSeq (wAsg (wCallP false sp__law_due [] (wCons (wVar 4) wNil)) (wgName 5))
    (wSeq (wAsg (wCallP false sp__law_outcome [] (wCons (wVar 2) wNil)) (wgTup 2 (wgCons (wgName 6) (wgCons (wgName 7) wgNil))))
    (wSeq (wIfS (wTest (wOp (fEq true) (wVar 2) (wVar 4))) (wRet (wC (.bl false))) wNext)
    (wSeq (wIfS (wTest (wOp (fIs true) (wVar 5) (wC .non))) (wRet (wAndV (wOp (fEq false) (wVar 6) (wC (.str "block"))) (wOp (fEq false) (wVar 7) (wVar 5)))) wNext)
    (wRet (wOrV (wOp (fEq false) (wVar 6) (wC (.str "call"))) (wAndV (wOp (fEq false) (wVar 6) (wC (.str "made"))) (wOp (fEq false) (wVar 7) (wVar 4))))))))))))))
theorem v_law : ∀ (ns : List Int) (Q : W → Sto → Prop), ns.length ≤ 63 → (∀ mu, Q (.d (.bl true)) mu) → w_law (evr Q) (startE ["_law_script", "_law_words_here", "_law_rows", "_law_k", "_law_held", "_law_due_here", "_law_word", "_law_told"] [.d (.scr ns)]) [] := by
  intro ns Q hn h
  simp only [w_law]
  refine seq_R (fun rh mu => ∃ ws : List Str, rh = [some (.d (.scr ns)), some (.d (.lst (ws.map D.str))), none, none, none, none, none, none] ∧ mu = [] ∧ ws.length = 6 ∧ (∀ w ∈ ws, goodW w) ∧ ws.Nodup) (fun K hK => ?_) ?_
  · simp
    exact fun ws h1 h2 h3 => hK _ _ ⟨ws, rfl, rfl, h1, h2, h3⟩
  rintro _ _ ⟨ws, rfl, rfl, w1, w2, w3⟩
  refine seq_R (fun rh mu => ∃ rows k, rh = [some (.d (.scr ns)), some (.d (.lst (ws.map D.str))), some (.loc k), none, none, none, none, none] ∧ mu[k]? = some (.lst rows) ∧ (∀ r ∈ rows, GoodR r) ∧ rows.length ≤ 60) (fun K hK => ?_) ?_
  · simp
    exact ⟨by omega, w3, fun pl hp => ⟨_, rfl, _, rfl, by have := cutL_len ns (some 5) (some 45); omega, by omega, w2, hp, fun rs mu hf hl _ => hK _ _ ⟨rs, 0, rfl, rfl, fun r hr => good_of (funs_right w2 (hp.good w3 w2) hf r hr) (funs_flat hf r hr), hl⟩⟩⟩
  rintro _ mu ⟨rows, k, rfl, hk, hg, hl⟩
  refine seq_R (fun rh mu => ∃ rows k a3, rh = [some (.d (.scr ns)), some (.d (.lst (ws.map D.str))), some (.loc k), a3, none, none, none, none] ∧ mu[k]? = some (.lst rows) ∧ (∀ r ∈ rows, GoodR r) ∧ rows.length ≤ 60) (fun K hK => ?_) ?_
  · simp
    refine ⟨by omega, by omega, ?_⟩
    refine forL_inv (fun rh mu => ∃ rows k a3, rh = [some (.d (.scr ns)), some (.d (.lst (ws.map D.str))), some (.loc k), a3, none, none, none, none] ∧ mu[k]? = some (.lst rows) ∧ (∀ r ∈ rows, GoodR r) ∧ rows.length ≤ 60) (fun _ _ _ => trivial) (fun rh mu h => hK rh mu h) ?_ ⟨rows, k, none, rfl, hk, hg, hl⟩
    rintro x hx _ mu ⟨rows, k, a3, rfl, hk, hg, hl⟩ N hN
    obtain ⟨j, hj⟩ : ∃ j : Nat, x = .d (.int j) := by
      rw [rngW_nats] at hx
      obtain ⟨_, h1, rfl⟩ := List.mem_map.mp hx
      obtain ⟨j, _, rfl⟩ := List.mem_map.mp h1
      exact ⟨j, rfl⟩
    subst hj
    have hdf := flat_of hg
    simp [hk]
    refine ite_of (fun c => ?_) (fun _ => hN _ _ ⟨rows, k, _, rfl, hk, hg, hl⟩)
    refine ⟨by omega, w1, w2, hg, by omega, fun rows' k' mu' g l e cf => ⟨cf, hN _ _ ⟨rows', mu.length + k', _, rfl, ?_, g, l⟩⟩⟩
    rw [List.getElem?_append_right (by omega)]
    simp [e]
  rintro _ mu ⟨rows, k, a3, rfl, hk, hg, hl⟩
  refine seq_R (fun rh mu => ∃ rows, rh = [some (.d (.scr ns)), some (.d (.lst (ws.map D.str))), some (.loc k), a3, none, none, none, none] ∧ mu[k]? = some (.lst rows) ∧ (∀ r ∈ rows, GoodR r) ∧ rows.length ≤ 60) (fun K hK => ?_) ?_
  · obtain ⟨w0, e0⟩ : ∃ w0, ws[0]? = some w0 := ⟨_, List.getElem?_eq_getElem (by omega)⟩
    have a0 : atI (ws.map D.str) 0 = some (.str w0) := by rw [at_nat (by omega) (by simp; omega)]; simp [e0]
    have gw := w2 w0 (List.mem_of_getElem? e0)
    have kl := (List.getElem?_eq_some_iff.mp hk).1
    simp [hk, sizeLine_eq, a0]
    have no := hK _ _ ⟨rows, rfl, hk, hg, hl⟩
    refine ite_of (fun _ => ite_of (fun c1 => ite_of (fun c2 => ⟨by omega, ?_⟩) (fun _ => no)) (fun _ => no)) (fun _ => no)
    have hb : GoodR (.tup [.str (Str.ofString "call"), .str w0, .str (Str.ofString "nobodyno"), .tup []]) := ⟨⟨_, _, rfl, ⟨by simp [plainDs, plainD], by simp, by simp [plainDs], by simp⟩⟩, by
        have h1 := good_name gw
        have h2 : nameOk (Str.ofString "nobodyno") = true := by decide +kernel
        simp [rowB, rowOk, clsOf, okCall, nameD, allOpD, h1, h2], by simp, by simp, _, rfl⟩
    have b1 := good_ins (p := 1) hg hb
    refine hK _ _ ⟨_, rfl, by simp [kl]; rfl, by simpa using b1, by simp; omega⟩
  rintro _ mu ⟨rows, rfl, hk, hg, hl⟩
  have hdf := flat_of hg
  have hd := flat_ddeps fun r hr => (hg r hr).2.2
  have heq := deqvs_refl rows (by omega)
  refine seq_to [some (.d (.scr ns)), some (.d (.lst (ws.map D.str))), some (.loc k), a3, some (.d (.lst rows)), none, none, none] mu (fun K hK => by simpa [hk] using hK) ?_
  refine seq_to [some (.d (.scr ns)), some (.d (.lst (ws.map D.str))), some (.loc k), a3, some (.d (.lst rows)), some (.d (optD (breakB 0 rows []))), none, none] mu (fun K hK => ?_) ?_
  · simp
    exact ⟨by omega, good_word hg, hK⟩
  obtain ⟨tw, tv, eo⟩ : ∃ tw tv, outD rows (judge rows) = .tup [.str tw, tv] := by cases judge rows <;> exact ⟨_, _, rfl⟩
  refine seq_to [some (.d (.scr ns)), some (.d (.lst (ws.map D.str))), some (.loc k), a3, some (.d (.lst rows)), some (.d (optD (breakB 0 rows []))), some (.d (.str tw)), some (.d tv)] mu (fun K hK => ?_) ?_
  · refine outcome_is (x := .loc k) (by simp [hk]) (by omega) (fun r hr => ⟨(hg r hr).1, (hg r hr).2.2⟩) (varO rfl) _ ?_
    rw [eo]
    exact tup2_to hK
  refine seq_to [some (.d (.scr ns)), some (.d (.lst (ws.map D.str))), some (.loc k), a3, some (.d (.lst rows)), some (.d (optD (breakB 0 rows []))), some (.d (.str tw)), some (.d tv)] mu (fun K hK => ?_) ?_
  · simp [hk, heq]
    exact ⟨by omega, hK⟩
  rw [good_judge hg hl] at eo
  cases hb : breakB 0 rows [] with
  | some m =>
    rw [hb] at eo
    simp only [outD] at eo
    cases eo
    simp [optD, onBl]
    exact h _
  | none =>
    rw [hb] at eo
    cases hc : badCall rows with
    | some m =>
      rw [hc] at eo
      simp only [outD] at eo
      cases eo
      simp [optD, onBl]
      exact h _
    | none =>
      rw [hc] at eo
      simp only [outD] at eo
      cases eo
      simp [optD, onBl, heq]
      exact ⟨by omega, h _⟩
end VL
namespace VLD
open PySem PySem.Spec PyProof.Rows L2 RZ VL
def top (i : Nat) : Stmt := PySem.Challenge.pw_slicewise_k07_blocks_refused.main.body.getD i (.Pass ⟨0, 0, 0, 0⟩)
theorem ulen1 {us : List Value} (h : us.length = 1) : ∃ a0 : Value, us = [a0] := by
  match us, h with
  | [_], _ => exact ⟨_, rfl⟩
theorem ulen2 {us : List Value} (h : us.length = 2) : ∃ a0 a1 : Value, us = [a0, a1] := by
  match us, h with
  | [_, _], _ => exact ⟨_, _, rfl⟩
theorem ulen3 {us : List Value} (h : us.length = 3) : ∃ a0 a1 a2 : Value, us = [a0, a1, a2] := by
  match us, h with
  | [_, _, _], _ => exact ⟨_, _, _, rfl⟩
theorem ulen4 {us : List Value} (h : us.length = 4) : ∃ a0 a1 a2 a3 : Value, us = [a0, a1, a2, a3] := by
  match us, h with
  | [_, _, _, _], _ => exact ⟨_, _, _, _, rfl⟩
theorem ulen5 {us : List Value} (h : us.length = 5) : ∃ a0 a1 a2 a3 a4 : Value, us = [a0, a1, a2, a3, a4] := by
  match us, h with
  | [_, _, _, _, _], _ => exact ⟨_, _, _, _, _, rfl⟩
structure Txt (K : KW) (mg : Str → Option Value) : Prop where
  n_int : mg "int" = none
  n_isinstance : mg "isinstance" = none
  n_bool : mg "bool" = none
  n_str : mg "str" = none
  n_len : mg "len" = none
  n_all : mg "all" = none
  n_sorted : mg "sorted" = none
  n_set : mg "set" = none
  n_tuple : mg "tuple" = none
  n_enumerate : mg "enumerate" = none
  n_list : mg "list" = none
  n_range : mg "range" = none
  n_sum : mg "sum" = none
  c_H : ∃ v u, mg "H" = some u ∧ L2.RelV v u ∧ ∀ F, RepD K F k_H v
  c_LETTERS : ∃ v u, mg "LETTERS" = some u ∧ L2.RelV v u ∧ ∀ F, RepD K F k_LETTERS v
  c_RECKONING : ∃ v u, mg "RECKONING" = some u ∧ L2.RelV v u ∧ ∀ F, RepD K F k_RECKONING v
  c_MOST_PARAMETERS : ∃ v u, mg "MOST_PARAMETERS" = some u ∧ L2.RelV v u ∧ ∀ F, RepD K F k_MOST_PARAMETERS v
  c_MOST_ROWS : ∃ v u, mg "MOST_ROWS" = some u ∧ L2.RelV v u ∧ ∀ F, RepD K F k_MOST_ROWS v
  fl_parts : Flds K cn_parts "parts"
  e_TooGreat : ∃ C, Err0 K mg "TooGreat" C
  e_NoRow : Err1 K mg "NoRow"
  e_NoBlock : Err1 K mg "NoBlock"
  e_NoCall : Err1 K mg "NoCall"
  ca_SliceError : Catch K mg "SliceError" xt_SliceError
  it_NoBlock : IsT K mg "NoBlock" ti_NoBlock
  it_NoRow : IsT K mg "NoRow" ti_NoRow
  it_TooGreat : IsT K mg "TooGreat" ti_TooGreat
  it_NoPlace : IsT K mg "NoPlace" ti_NoPlace
  it_NoText : IsT K mg "NoText" ti_NoText
  it_NoCall : IsT K mg "NoCall" ti_NoCall
  it_Done : IsT K mg "Done" ti_Done
  it_NoFault : IsT K mg "NoFault" ti_NoFault
  it_Unlike : IsT K mg "Unlike" ti_Unlike
  it_ValueError : IsT K mg "ValueError" ti_ValueError
  pl_place : PlcT K "place" xp_place
section
variable {P : Program} {K : KW} {mg : Str → Option Value} {base : Heap}
abbrev s_e_NoRow : Stmt := inClass (top 8) 0
abbrev s_e_NoBlock : Stmt := inClass (top 9) 0
abbrev s_e_NoCall : Stmt := inClass (top 10) 0
abbrev s_is_number : Stmt := top 17
theorem sc_is_number : FnScope ["thing"] ["thing"] (defScope s_is_number) := ⟨rfl, rfl, rfl, by decide +kernel, rfl, by decide +kernel, by decide +kernel⟩
theorem d_is_number {f : Addr} {fd : FuncData} (F : Fun K "is_number" "is_number" s_is_number f fd) (hm : mg "is_number" = some (.ref f)) (T : Txt K mg) : Def P K.w K mg base "is_number" 1 [] (pSp sp_is_number) :=
  def_mk F hm sc_is_number (F.binds (ps := ["thing"]) fun _ _ _ _ _ _ us hl => (by obtain ⟨_, rfl⟩ := ulen1 hl; rfl)) (fun _ _ _ h => len1 h) fun cdv A outer s H E y => ⟨w_is_number, (vss_one (vs_ret (ve_andV (ve_isi y T.n_isinstance (va_cons (ve_v y 0) (va_cons (ve_ty y T.n_int) va_nil))) (ve_andV (ve_not y (ve_isi y T.n_isinstance (va_cons (ve_v y 0) (va_cons (ve_ty y T.n_bool) va_nil)))) (ve_one (ve_chain (c_le y) (c_lt y) (ve_sub ve_int (ve_glob y T.c_H)) (ve_v y 0) (ve_glob y T.c_H))))))), at1 v_is_number⟩
abbrev s_is_name : Stmt := top 18
theorem sc_is_name : FnScope ["thing", "sign"] ["thing"] (defScope s_is_name) := ⟨rfl, rfl, rfl, by decide +kernel, rfl, by decide +kernel, by decide +kernel⟩
theorem d_is_name {f : Addr} {fd : FuncData} (F : Fun K "is_name" "is_name" s_is_name f fd) (hm : mg "is_name" = some (.ref f)) (T : Txt K mg) : Def P K.w K mg base "is_name" 1 [] (pSp sp_is_name) :=
  def_mk F hm sc_is_name (F.binds (ps := ["thing"]) fun _ _ _ _ _ _ us hl => (by obtain ⟨_, rfl⟩ := ulen1 hl; rfl)) (fun _ _ _ h => len1 h) fun cdv A outer s H E y => ⟨w_is_name, (vss_cons (vs_if (VW.vt (vw_or (vt_not (vt_truth y (ve_isi y T.n_isinstance (va_cons (ve_v y 0) (va_cons (ve_ty y T.n_str) va_nil))))) (vw_or (vt_cmp (c_lt y) (ve_len y T.n_len (va_cons (ve_v y 0) va_nil)) ve_int) (vw_or1 (vt_cmp (c_gt y) (ve_len y T.n_len (va_cons (ve_v y 0) va_nil)) ve_int))))) (vss_one (vs_ret ve_bl)) vss_nil)
    (vss_one (vs_ret (ve_all y T.n_all (va_cons (ve_lc y false (own := [("sign", 1)]) (vi_str (ve_v y 0)) (fun _ => (blkOk_at (S := defScope s_is_name) (by decide +kernel))) (vk_name (YOk.blk y _) 1 [1]) vts_nil (ve_cmp (c_inS (YOk.blk y _)) (ve_v (YOk.blk y _) 1) (ve_glob (YOk.blk y _) T.c_LETTERS))) va_nil))))), at1 v_is_name⟩
abbrev s_is_operand : Stmt := top 19
theorem sc_is_operand : FnScope ["thing"] ["thing"] (defScope s_is_operand) := ⟨rfl, rfl, rfl, by decide +kernel, rfl, by decide +kernel, by decide +kernel⟩
theorem d_is_operand {f : Addr} {fd : FuncData} (F : Fun K "is_operand" "is_operand" s_is_operand f fd) (hm : mg "is_operand" = some (.ref f)) (T : Txt K mg) (d_is_name : Def P K.w K mg base "is_name" 1 [] (pSp sp_is_name)) (d_is_number : Def P K.w K mg base "is_number" 1 [] (pSp sp_is_number)) : Def P K.w K mg base "is_operand" 2 [] (pSp sp_is_operand) :=
  def_mk F hm sc_is_operand (F.binds (ps := ["thing"]) fun _ _ _ _ _ _ us hl => (by obtain ⟨_, rfl⟩ := ulen1 hl; rfl)) (fun _ _ _ h => len1 h) fun cdv A outer s H E y => ⟨w_is_operand, (vss_one (vs_ret (ve_orV (ve_callP y false d_is_name (by decide) (va_cons (ve_v y 0) va_nil)) (ve_one (ve_callP y false d_is_number (by decide) (va_cons (ve_v y 0) va_nil)))))), at1 v_is_operand⟩
abbrev s_is_field : Stmt := top 20
theorem sc_is_field : FnScope ["thing"] ["thing"] (defScope s_is_field) := ⟨rfl, rfl, rfl, by decide +kernel, rfl, by decide +kernel, by decide +kernel⟩
theorem d_is_field {f : Addr} {fd : FuncData} (F : Fun K "is_field" "is_field" s_is_field f fd) (hm : mg "is_field" = some (.ref f)) (T : Txt K mg) (d_is_name : Def P K.w K mg base "is_name" 1 [] (pSp sp_is_name)) : Def P K.w K mg base "is_field" 2 [] (pSp sp_is_field) :=
  def_mk F hm sc_is_field (F.binds (ps := ["thing"]) fun _ _ _ _ _ _ us hl => (by obtain ⟨_, rfl⟩ := ulen1 hl; rfl)) (fun _ _ _ h => len1 h) fun cdv A outer s H E y => ⟨w_is_field, (vss_one (vs_ret (ve_andV (ve_isi y T.n_isinstance (va_cons (ve_v y 0) (va_cons (ve_ty y T.n_str) va_nil))) (ve_andV (ve_starts (ve_v y 0) ve_str) (ve_one (ve_callP y false d_is_name (by decide) (va_cons (ve_slice y false (ve_v y 0) (vo_some ve_int) vo_none) va_nil))))))), at1 v_is_field⟩
abbrev s_names_among : Stmt := top 21
theorem sc_names_among : FnScope ["operands", "one"] ["operands"] (defScope s_names_among) := ⟨rfl, rfl, rfl, by decide +kernel, rfl, by decide +kernel, by decide +kernel⟩
theorem d_names_among {f : Addr} {fd : FuncData} (F : Fun K "names_among" "names_among" s_names_among f fd) (hm : mg "names_among" = some (.ref f)) (T : Txt K mg) (d_is_name : Def P K.w K mg base "is_name" 1 [] (pSp sp_is_name)) : Def P K.w K mg base "names_among" 2 [] (pSp sp_names_among) :=
  def_mk F hm sc_names_among (F.binds (ps := ["operands"]) fun _ _ _ _ _ _ us hl => (by obtain ⟨_, rfl⟩ := ulen1 hl; rfl)) (fun _ _ _ h => len1 h) fun cdv A outer s H E y => ⟨w_names_among, (vss_one (vs_ret (ve_sortedSet y true T.n_sorted T.n_set (ve_lc y false (own := [("one", 1)]) (vi_seq y (ve_v y 0)) (fun _ => (blkOk_at (S := defScope s_names_among) (by decide +kernel))) (vk_name (YOk.blk y _) 1 [1]) (vts_one (vt_truth (YOk.blk y _) (ve_callP (YOk.blk y _) false d_is_name (by decide) (va_cons (ve_v (YOk.blk y _) 1) va_nil)))) (ve_v (YOk.blk y _) 1))))), at1 v_names_among⟩
abbrev s_all_operands : Stmt := top 22
theorem sc_all_operands : FnScope ["some", "one"] ["some"] (defScope s_all_operands) := ⟨rfl, rfl, rfl, by decide +kernel, rfl, by decide +kernel, by decide +kernel⟩
theorem d_all_operands {f : Addr} {fd : FuncData} (F : Fun K "all_operands" "all_operands" s_all_operands f fd) (hm : mg "all_operands" = some (.ref f)) (T : Txt K mg) (d_is_operand : Def P K.w K mg base "is_operand" 2 [] (pSp sp_is_operand)) : Def P K.w K mg base "all_operands" 3 [] (pSp sp_all_operands) :=
  def_mk F hm sc_all_operands (F.binds (ps := ["some"]) fun _ _ _ _ _ _ us hl => (by obtain ⟨_, rfl⟩ := ulen1 hl; rfl)) (fun _ _ _ h => len1 h) fun cdv A outer s H E y => ⟨w_all_operands, (vss_cons (vs_if (VW.vt (vw_or (vt_not (vt_truth y (ve_isi y T.n_isinstance (va_cons (ve_v y 0) (va_cons (ve_ty y T.n_tuple) va_nil))))) (vw_or1 (vt_cmp (c_gt y) (ve_len y T.n_len (va_cons (ve_v y 0) va_nil)) (ve_glob y T.c_MOST_PARAMETERS))))) (vss_one (vs_ret ve_bl)) vss_nil)
    (vss_one (vs_ret (ve_all y T.n_all (va_cons (ve_lc y false (own := [("one", 1)]) (vi_seq y (ve_v y 0)) (fun _ => (blkOk_at (S := defScope s_all_operands) (by decide +kernel))) (vk_name (YOk.blk y _) 1 [1]) vts_nil (ve_callP (YOk.blk y _) false d_is_operand (by decide) (va_cons (ve_v (YOk.blk y _) 1) va_nil))) va_nil))))), at1 v_all_operands⟩
abbrev s_Row_init : Stmt := inClass (top 23) 0
theorem sc_Row_init : FnScope ["self", "parts"] ["self", "parts"] (defScope s_Row_init) := ⟨rfl, rfl, rfl, by decide +kernel, rfl, by decide +kernel, by decide +kernel⟩
theorem d_Row_init {f : Addr} {fd : FuncData} (F : Fun K "__init__" "Row.__init__" s_Row_init f fd) (T : Txt K mg) : FDef P K.w K mg base f 1 sp_Row_init :=
  fdef_mk F sc_Row_init (F.binds (ps := ["self", "parts"]) fun _ _ _ _ _ _ us hl => (by obtain ⟨_, _, rfl⟩ := ulen2 hl; rfl)) (fun _ _ _ h => lenS2 h) fun cdv A outer s H E y => ⟨w_Row_init, (vss_one (vs_fld y T.fl_parts (ve_v y 0) (ve_v y 1))), atS2 v_Row_init⟩
abbrev s_Row_is_right : Stmt := inClass (top 23) 1
theorem sc_Row_is_right : FnScope ["self"] ["self"] (defScope s_Row_is_right) := ⟨rfl, rfl, rfl, by decide +kernel, rfl, by decide +kernel, by decide +kernel⟩
theorem d_Row_is_right {f : Addr} {fd : FuncData} (F : Fun K "is_right" "Row.is_right" s_Row_is_right f fd) (T : Txt K mg) : FDef P K.w K mg base f 1 sp_Row_is_right :=
  fdef_mk F sc_Row_is_right (F.binds (ps := ["self"]) fun _ _ _ _ _ _ us hl => (by obtain ⟨_, rfl⟩ := ulen1 hl; rfl)) (fun _ _ _ h => lenS1 h) fun cdv A outer s H E y => ⟨w_Row_is_right, (vss_one (vs_ret ve_bl)), atS1 v_Row_is_right⟩
abbrev s_Bare_is_right : Stmt := inClass (top 24) 0
theorem sc_Bare_is_right : FnScope ["self"] ["self"] (defScope s_Bare_is_right) := ⟨rfl, rfl, rfl, by decide +kernel, rfl, by decide +kernel, by decide +kernel⟩
theorem d_Bare_is_right {f : Addr} {fd : FuncData} (F : Fun K "is_right" "Bare.is_right" s_Bare_is_right f fd) (T : Txt K mg) : FDef P K.w K mg base f 1 sp_Bare_is_right :=
  fdef_mk F sc_Bare_is_right (F.binds (ps := ["self"]) fun _ _ _ _ _ _ us hl => (by obtain ⟨_, rfl⟩ := ulen1 hl; rfl)) (fun _ _ _ h => lenS1 h) fun cdv A outer s H E y => ⟨w_Bare_is_right, (vss_one (vs_ret (ve_cmp (c_eq y) (ve_len y T.n_len (va_cons (ve_fld y T.fl_parts (ve_v y 0)) va_nil)) ve_int))), atS1 v_Bare_is_right⟩
abbrev s_Def_is_right : Stmt := inClass (top 25) 0
theorem sc_Def_is_right : FnScope ["self", "names"] ["self"] (defScope s_Def_is_right) := ⟨rfl, rfl, rfl, by decide +kernel, rfl, by decide +kernel, by decide +kernel⟩
theorem d_Def_is_right {f : Addr} {fd : FuncData} (F : Fun K "is_right" "Def.is_right" s_Def_is_right f fd) (T : Txt K mg) (d_is_name : Def P K.w K mg base "is_name" 1 [] (pSp sp_is_name)) (d_all_operands : Def P K.w K mg base "all_operands" 3 [] (pSp sp_all_operands)) (d_names_among : Def P K.w K mg base "names_among" 2 [] (pSp sp_names_among)) : FDef P K.w K mg base f 4 sp_Def_is_right :=
  fdef_mk F sc_Def_is_right (F.binds (ps := ["self"]) fun _ _ _ _ _ _ us hl => (by obtain ⟨_, rfl⟩ := ulen1 hl; rfl)) (fun _ _ _ h => lenS1 h) fun cdv A outer s H E y => ⟨w_Def_is_right, (vss_cons (vs_if (VW.vt (vw_or (vt_cmp (c_ne y) (ve_len y T.n_len (va_cons (ve_fld y T.fl_parts (ve_v y 0)) va_nil)) ve_int) (vw_or (vt_not (vt_truth y (ve_callP y false d_is_name (by decide) (va_cons (ve_ix y (ve_fld y T.fl_parts (ve_v y 0)) ve_int) va_nil)))) (vw_or1 (vt_not (vt_truth y (ve_callP y false d_all_operands (by decide) (va_cons (ve_ix y (ve_fld y T.fl_parts (ve_v y 0)) ve_int) va_nil)))))))) (vss_one (vs_ret ve_bl)) vss_nil)
    (vss_cons (vs_set y 1 (ve_callP y false d_names_among (by decide) (va_cons (ve_ix y (ve_fld y T.fl_parts (ve_v y 0)) ve_int) va_nil)))
    (vss_one (vs_ret (ve_cmp (c_eq y) (ve_len y T.n_len (va_cons (ve_v y 1) va_nil)) (ve_len y T.n_len (va_cons (ve_ix y (ve_fld y T.fl_parts (ve_v y 0)) ve_int) va_nil))))))), atS1 v_Def_is_right⟩
abbrev s_Give_is_right : Stmt := inClass (top 26) 0
theorem sc_Give_is_right : FnScope ["self"] ["self"] (defScope s_Give_is_right) := ⟨rfl, rfl, rfl, by decide +kernel, rfl, by decide +kernel, by decide +kernel⟩
theorem d_Give_is_right {f : Addr} {fd : FuncData} (F : Fun K "is_right" "Give.is_right" s_Give_is_right f fd) (T : Txt K mg) (d_is_operand : Def P K.w K mg base "is_operand" 2 [] (pSp sp_is_operand)) : FDef P K.w K mg base f 3 sp_Give_is_right :=
  fdef_mk F sc_Give_is_right (F.binds (ps := ["self"]) fun _ _ _ _ _ _ us hl => (by obtain ⟨_, rfl⟩ := ulen1 hl; rfl)) (fun _ _ _ h => lenS1 h) fun cdv A outer s H E y => ⟨w_Give_is_right, (vss_one (vs_ret (ve_andV (ve_cmp (c_eq y) (ve_len y T.n_len (va_cons (ve_fld y T.fl_parts (ve_v y 0)) va_nil)) ve_int) (ve_one (ve_callP y false d_is_operand (by decide) (va_cons (ve_ix y (ve_fld y T.fl_parts (ve_v y 0)) ve_int) va_nil)))))), atS1 v_Give_is_right⟩
abbrev s_Fail_is_right : Stmt := inClass (top 28) 0
theorem sc_Fail_is_right : FnScope ["self"] ["self"] (defScope s_Fail_is_right) := ⟨rfl, rfl, rfl, by decide +kernel, rfl, by decide +kernel, by decide +kernel⟩
theorem d_Fail_is_right {f : Addr} {fd : FuncData} (F : Fun K "is_right" "Fail.is_right" s_Fail_is_right f fd) (T : Txt K mg) (d_is_name : Def P K.w K mg base "is_name" 1 [] (pSp sp_is_name)) : FDef P K.w K mg base f 2 sp_Fail_is_right :=
  fdef_mk F sc_Fail_is_right (F.binds (ps := ["self"]) fun _ _ _ _ _ _ us hl => (by obtain ⟨_, rfl⟩ := ulen1 hl; rfl)) (fun _ _ _ h => lenS1 h) fun cdv A outer s H E y => ⟨w_Fail_is_right, (vss_one (vs_ret (ve_andV (ve_cmp (c_eq y) (ve_len y T.n_len (va_cons (ve_fld y T.fl_parts (ve_v y 0)) va_nil)) ve_int) (ve_one (ve_callP y false d_is_name (by decide) (va_cons (ve_ix y (ve_fld y T.fl_parts (ve_v y 0)) ve_int) va_nil)))))), atS1 v_Fail_is_right⟩
abbrev s_Set_is_right : Stmt := inClass (top 29) 0
theorem sc_Set_is_right : FnScope ["self"] ["self"] (defScope s_Set_is_right) := ⟨rfl, rfl, rfl, by decide +kernel, rfl, by decide +kernel, by decide +kernel⟩
theorem d_Set_is_right {f : Addr} {fd : FuncData} (F : Fun K "is_right" "Set.is_right" s_Set_is_right f fd) (T : Txt K mg) (d_is_name : Def P K.w K mg base "is_name" 1 [] (pSp sp_is_name)) (d_is_field : Def P K.w K mg base "is_field" 2 [] (pSp sp_is_field)) (d_is_operand : Def P K.w K mg base "is_operand" 2 [] (pSp sp_is_operand)) : FDef P K.w K mg base f 3 sp_Set_is_right :=
  fdef_mk F sc_Set_is_right (F.binds (ps := ["self"]) fun _ _ _ _ _ _ us hl => (by obtain ⟨_, rfl⟩ := ulen1 hl; rfl)) (fun _ _ _ h => lenS1 h) fun cdv A outer s H E y => ⟨w_Set_is_right, (vss_cons (vs_if (VW.vt (vw_or (vt_cmp (c_ne y) (ve_len y T.n_len (va_cons (ve_fld y T.fl_parts (ve_v y 0)) va_nil)) ve_int) (vw_or1 (vt_not (vt_truth y (ve_callP y false d_is_name (by decide) (va_cons (ve_ix y (ve_fld y T.fl_parts (ve_v y 0)) ve_int) va_nil))))))) (vss_one (vs_ret ve_bl)) vss_nil)
    (vss_one (vs_ret (ve_andV (ve_orV (ve_callP y false d_is_field (by decide) (va_cons (ve_ix y (ve_fld y T.fl_parts (ve_v y 0)) ve_int) va_nil)) (ve_one (ve_callP y false d_is_operand (by decide) (va_cons (ve_ix y (ve_fld y T.fl_parts (ve_v y 0)) ve_int) va_nil)))) (ve_one (ve_callP y false d_is_operand (by decide) (va_cons (ve_ix y (ve_fld y T.fl_parts (ve_v y 0)) ve_int) va_nil))))))), atS1 v_Set_is_right⟩
abbrev s_New_is_right : Stmt := inClass (top 30) 0
theorem sc_New_is_right : FnScope ["self"] ["self"] (defScope s_New_is_right) := ⟨rfl, rfl, rfl, by decide +kernel, rfl, by decide +kernel, by decide +kernel⟩
theorem d_New_is_right {f : Addr} {fd : FuncData} (F : Fun K "is_right" "New.is_right" s_New_is_right f fd) (T : Txt K mg) (d_is_name : Def P K.w K mg base "is_name" 1 [] (pSp sp_is_name)) : FDef P K.w K mg base f 2 sp_New_is_right :=
  fdef_mk F sc_New_is_right (F.binds (ps := ["self"]) fun _ _ _ _ _ _ us hl => (by obtain ⟨_, rfl⟩ := ulen1 hl; rfl)) (fun _ _ _ h => lenS1 h) fun cdv A outer s H E y => ⟨w_New_is_right, (vss_one (vs_ret (ve_andV (ve_cmp (c_eq y) (ve_len y T.n_len (va_cons (ve_fld y T.fl_parts (ve_v y 0)) va_nil)) ve_int) (ve_one (ve_callP y false d_is_name (by decide) (va_cons (ve_ix y (ve_fld y T.fl_parts (ve_v y 0)) ve_int) va_nil)))))), atS1 v_New_is_right⟩
abbrev s_Put_is_right : Stmt := inClass (top 31) 0
theorem sc_Put_is_right : FnScope ["self"] ["self"] (defScope s_Put_is_right) := ⟨rfl, rfl, rfl, by decide +kernel, rfl, by decide +kernel, by decide +kernel⟩
theorem d_Put_is_right {f : Addr} {fd : FuncData} (F : Fun K "is_right" "Put.is_right" s_Put_is_right f fd) (T : Txt K mg) (d_is_name : Def P K.w K mg base "is_name" 1 [] (pSp sp_is_name)) (d_is_operand : Def P K.w K mg base "is_operand" 2 [] (pSp sp_is_operand)) : FDef P K.w K mg base f 3 sp_Put_is_right :=
  fdef_mk F sc_Put_is_right (F.binds (ps := ["self"]) fun _ _ _ _ _ _ us hl => (by obtain ⟨_, rfl⟩ := ulen1 hl; rfl)) (fun _ _ _ h => lenS1 h) fun cdv A outer s H E y => ⟨w_Put_is_right, (vss_one (vs_ret (ve_andV (ve_cmp (c_eq y) (ve_len y T.n_len (va_cons (ve_fld y T.fl_parts (ve_v y 0)) va_nil)) ve_int) (ve_andV (ve_callP y false d_is_name (by decide) (va_cons (ve_ix y (ve_fld y T.fl_parts (ve_v y 0)) ve_int) va_nil)) (ve_one (ve_callP y false d_is_operand (by decide) (va_cons (ve_ix y (ve_fld y T.fl_parts (ve_v y 0)) ve_int) va_nil))))))), atS1 v_Put_is_right⟩
abbrev s_Do_is_right : Stmt := inClass (top 32) 0
theorem sc_Do_is_right : FnScope ["self"] ["self"] (defScope s_Do_is_right) := ⟨rfl, rfl, rfl, by decide +kernel, rfl, by decide +kernel, by decide +kernel⟩
theorem d_Do_is_right {f : Addr} {fd : FuncData} (F : Fun K "is_right" "Do.is_right" s_Do_is_right f fd) (T : Txt K mg) (d_is_name : Def P K.w K mg base "is_name" 1 [] (pSp sp_is_name)) (d_is_operand : Def P K.w K mg base "is_operand" 2 [] (pSp sp_is_operand)) : FDef P K.w K mg base f 3 sp_Do_is_right :=
  fdef_mk F sc_Do_is_right (F.binds (ps := ["self"]) fun _ _ _ _ _ _ us hl => (by obtain ⟨_, rfl⟩ := ulen1 hl; rfl)) (fun _ _ _ h => lenS1 h) fun cdv A outer s H E y => ⟨w_Do_is_right, (vss_cons (vs_if (VW.vt (vw_or (vt_cmp (c_ne y) (ve_len y T.n_len (va_cons (ve_fld y T.fl_parts (ve_v y 0)) va_nil)) ve_int) (vw_or (vt_not (vt_truth y (ve_callP y false d_is_name (by decide) (va_cons (ve_ix y (ve_fld y T.fl_parts (ve_v y 0)) ve_int) va_nil)))) (vw_or1 (vt_cmp (c_notinT y) (ve_ix y (ve_fld y T.fl_parts (ve_v y 0)) ve_int) (ve_glob y T.c_RECKONING)))))) (vss_one (vs_ret ve_bl)) vss_nil)
    (vss_one (vs_ret (ve_andV (ve_callP y false d_is_operand (by decide) (va_cons (ve_ix y (ve_fld y T.fl_parts (ve_v y 0)) ve_int) va_nil)) (ve_one (ve_callP y false d_is_operand (by decide) (va_cons (ve_ix y (ve_fld y T.fl_parts (ve_v y 0)) ve_int) va_nil))))))), atS1 v_Do_is_right⟩
abbrev s_Get_is_right : Stmt := inClass (top 33) 0
theorem sc_Get_is_right : FnScope ["self"] ["self"] (defScope s_Get_is_right) := ⟨rfl, rfl, rfl, by decide +kernel, rfl, by decide +kernel, by decide +kernel⟩
theorem d_Get_is_right {f : Addr} {fd : FuncData} (F : Fun K "is_right" "Get.is_right" s_Get_is_right f fd) (T : Txt K mg) (d_is_name : Def P K.w K mg base "is_name" 1 [] (pSp sp_is_name)) (d_is_field : Def P K.w K mg base "is_field" 2 [] (pSp sp_is_field)) (d_is_operand : Def P K.w K mg base "is_operand" 2 [] (pSp sp_is_operand)) : FDef P K.w K mg base f 3 sp_Get_is_right :=
  fdef_mk F sc_Get_is_right (F.binds (ps := ["self"]) fun _ _ _ _ _ _ us hl => (by obtain ⟨_, rfl⟩ := ulen1 hl; rfl)) (fun _ _ _ h => lenS1 h) fun cdv A outer s H E y => ⟨w_Get_is_right, (vss_cons (vs_if (VW.vt (vw_or (vt_cmp (c_ne y) (ve_len y T.n_len (va_cons (ve_fld y T.fl_parts (ve_v y 0)) va_nil)) ve_int) (vw_or (vt_not (vt_truth y (ve_callP y false d_is_name (by decide) (va_cons (ve_ix y (ve_fld y T.fl_parts (ve_v y 0)) ve_int) va_nil)))) (vw_or1 (vt_not (vt_truth y (ve_callP y false d_is_name (by decide) (va_cons (ve_ix y (ve_fld y T.fl_parts (ve_v y 0)) ve_int) va_nil)))))))) (vss_one (vs_ret ve_bl)) vss_nil)
    (vss_one (vs_ret (ve_orV (ve_callP y false d_is_field (by decide) (va_cons (ve_ix y (ve_fld y T.fl_parts (ve_v y 0)) ve_int) va_nil)) (ve_one (ve_callP y false d_is_operand (by decide) (va_cons (ve_ix y (ve_fld y T.fl_parts (ve_v y 0)) ve_int) va_nil))))))), atS1 v_Get_is_right⟩
abbrev s_Call_is_right : Stmt := inClass (top 34) 0
theorem sc_Call_is_right : FnScope ["self"] ["self"] (defScope s_Call_is_right) := ⟨rfl, rfl, rfl, by decide +kernel, rfl, by decide +kernel, by decide +kernel⟩
theorem d_Call_is_right {f : Addr} {fd : FuncData} (F : Fun K "is_right" "Call.is_right" s_Call_is_right f fd) (T : Txt K mg) (d_is_name : Def P K.w K mg base "is_name" 1 [] (pSp sp_is_name)) (d_all_operands : Def P K.w K mg base "all_operands" 3 [] (pSp sp_all_operands)) : FDef P K.w K mg base f 4 sp_Call_is_right :=
  fdef_mk F sc_Call_is_right (F.binds (ps := ["self"]) fun _ _ _ _ _ _ us hl => (by obtain ⟨_, rfl⟩ := ulen1 hl; rfl)) (fun _ _ _ h => lenS1 h) fun cdv A outer s H E y => ⟨w_Call_is_right, (vss_cons (vs_if (VW.vt (vw_or (vt_cmp (c_ne y) (ve_len y T.n_len (va_cons (ve_fld y T.fl_parts (ve_v y 0)) va_nil)) ve_int) (vw_or (vt_not (vt_truth y (ve_callP y false d_is_name (by decide) (va_cons (ve_ix y (ve_fld y T.fl_parts (ve_v y 0)) ve_int) va_nil)))) (vw_or1 (vt_not (vt_truth y (ve_callP y false d_is_name (by decide) (va_cons (ve_ix y (ve_fld y T.fl_parts (ve_v y 0)) ve_int) va_nil)))))))) (vss_one (vs_ret ve_bl)) vss_nil)
    (vss_one (vs_ret (ve_callP y true d_all_operands (by decide) (va_cons (ve_ix y (ve_fld y T.fl_parts (ve_v y 0)) ve_int) va_nil))))), atS1 v_Call_is_right⟩
abbrev s_row_of : Stmt := top 35
theorem sc_row_of : FnScope ["parts", "word"] ["parts"] (defScope s_row_of) := ⟨rfl, rfl, rfl, by decide +kernel, rfl, by decide +kernel, by decide +kernel⟩
theorem d_row_of {f : Addr} {fd : FuncData} (F : Fun K "row_of" "row_of" s_row_of f fd) (hm : mg "row_of" = some (.ref f)) (T : Txt K mg) (c_Def : CDef P K.w K mg base "Def" 1 sp_Row_init) (c_Give : CDef P K.w K mg base "Give" 1 sp_Row_init) (c_Put : CDef P K.w K mg base "Put" 1 sp_Row_init) (c_Do : CDef P K.w K mg base "Do" 1 sp_Row_init) (c_New : CDef P K.w K mg base "New" 1 sp_Row_init) (c_Get : CDef P K.w K mg base "Get" 1 sp_Row_init) (c_Set : CDef P K.w K mg base "Set" 1 sp_Row_init) (c_Call : CDef P K.w K mg base "Call" 1 sp_Row_init) (c_Fail : CDef P K.w K mg base "Fail" 1 sp_Row_init) (c_While : CDef P K.w K mg base "While" 1 sp_Row_init) (c_Bare : CDef P K.w K mg base "Bare" 1 sp_Row_init) (c_Row : CDef P K.w K mg base "Row" 1 sp_Row_init) : Def P K.w K mg base "row_of" 3 [] sp_row_of :=
  def_mk F hm sc_row_of (F.binds (ps := ["parts"]) fun _ _ _ _ _ _ us hl => (by obtain ⟨_, rfl⟩ := ulen1 hl; rfl)) (fun _ _ _ h => lenS1 h) fun cdv A outer s H E y => ⟨w_row_of, (vss_cons (vs_set y 1 (ve_ix y (ve_v y 0) ve_int))
    (vss_cons (vs_if (vt_cmp (c_eq y) (ve_v y 1) ve_str) (vss_one (vs_ret (ve_make y c_Def (by decide) (va_cons (ve_v y 0) va_nil)))) vss_nil)
    (vss_cons (vs_if (VW.vt (vw_or (vt_cmp (c_eq y) (ve_v y 1) ve_str) (vw_or1 (vt_cmp (c_eq y) (ve_v y 1) ve_str)))) (vss_one (vs_ret (ve_make y c_Give (by decide) (va_cons (ve_v y 0) va_nil)))) vss_nil)
    (vss_cons (vs_if (vt_cmp (c_eq y) (ve_v y 1) ve_str) (vss_one (vs_ret (ve_make y c_Put (by decide) (va_cons (ve_v y 0) va_nil)))) vss_nil)
    (vss_cons (vs_if (vt_cmp (c_eq y) (ve_v y 1) ve_str) (vss_one (vs_ret (ve_make y c_Do (by decide) (va_cons (ve_v y 0) va_nil)))) vss_nil)
    (vss_cons (vs_if (vt_cmp (c_eq y) (ve_v y 1) ve_str) (vss_one (vs_ret (ve_make y c_New (by decide) (va_cons (ve_v y 0) va_nil)))) vss_nil)
    (vss_cons (vs_if (vt_cmp (c_eq y) (ve_v y 1) ve_str) (vss_one (vs_ret (ve_make y c_Get (by decide) (va_cons (ve_v y 0) va_nil)))) vss_nil)
    (vss_cons (vs_if (vt_cmp (c_eq y) (ve_v y 1) ve_str) (vss_one (vs_ret (ve_make y c_Set (by decide) (va_cons (ve_v y 0) va_nil)))) vss_nil)
    (vss_cons (vs_if (vt_cmp (c_eq y) (ve_v y 1) ve_str) (vss_one (vs_ret (ve_make y c_Call (by decide) (va_cons (ve_v y 0) va_nil)))) vss_nil)
    (vss_cons (vs_if (vt_cmp (c_eq y) (ve_v y 1) ve_str) (vss_one (vs_ret (ve_make y c_Fail (by decide) (va_cons (ve_v y 0) va_nil)))) vss_nil)
    (vss_cons (vs_if (vt_cmp (c_eq y) (ve_v y 1) ve_str) (vss_one (vs_ret (ve_make y c_While (by decide) (va_cons (ve_v y 0) va_nil)))) vss_nil)
    (vss_cons (vs_if (VW.vt (vw_or (vt_cmp (c_eq y) (ve_v y 1) ve_str) (vw_or (vt_cmp (c_eq y) (ve_v y 1) ve_str) (vw_or1 (vt_cmp (c_eq y) (ve_v y 1) ve_str))))) (vss_one (vs_ret (ve_make y c_Bare (by decide) (va_cons (ve_v y 0) va_nil)))) vss_nil)
    (vss_one (vs_ret (ve_make y c_Row (by decide) (va_cons (ve_v y 0) va_nil)))))))))))))))), atS1 v_row_of⟩
abbrev s_is_row : Stmt := top 36
theorem sc_is_row : FnScope ["row"] ["row"] (defScope s_is_row) := ⟨rfl, rfl, rfl, by decide +kernel, rfl, by decide +kernel, by decide +kernel⟩
theorem d_is_row {f : Addr} {fd : FuncData} (F : Fun K "is_row" "is_row" s_is_row f fd) (hm : mg "is_row" = some (.ref f)) (T : Txt K mg) (d_row_of : Def P K.w K mg base "row_of" 3 [] sp_row_of) (t_is_right : MTabOk P K.w K mg base "is_right" 4 tab_is_right) : Def P K.w K mg base "is_row" 5 [] (pSp sp_is_row) :=
  def_mk F hm sc_is_row (F.binds (ps := ["row"]) fun _ _ _ _ _ _ us hl => (by obtain ⟨_, rfl⟩ := ulen1 hl; rfl)) (fun _ _ _ h => len1 h) fun cdv A outer s H E y => ⟨w_is_row, (vss_one (vs_ret (ve_meth0 y t_is_right (by decide) (ve_callS y d_row_of (by decide) (va_cons (ve_v y 0) va_nil)) _))), at1 v_is_row⟩
abbrev s_word_fits : Stmt := top 39
theorem sc_word_fits : FnScope ["word", "stack"] ["word", "stack"] (defScope s_word_fits) := ⟨rfl, rfl, rfl, by decide +kernel, rfl, by decide +kernel, by decide +kernel⟩
theorem d_word_fits {f : Addr} {fd : FuncData} (F : Fun K "word_fits" "word_fits" s_word_fits f fd) (hm : mg "word_fits" = some (.ref f)) (T : Txt K mg) : Def P K.w K mg base "word_fits" 1 [] (pSp sp_word_fits) :=
  def_mk F hm sc_word_fits (F.binds (ps := ["word", "stack"]) fun _ _ _ _ _ _ us hl => (by obtain ⟨_, _, rfl⟩ := ulen2 hl; rfl)) (fun _ _ _ h => len2 h) fun cdv A outer s H E y => ⟨w_word_fits, (vss_cons (vs_if (vt_cmp (c_eq y) (ve_v y 1) (ve_lst false va_nil)) (vss_one (vs_ret (ve_orV (ve_cmp (c_eq y) (ve_v y 0) ve_str) (ve_one (ve_cmp (c_eq y) (ve_v y 0) ve_str))))) vss_nil)
    (vss_cons (vs_if (vt_cmp (c_eq y) (ve_v y 0) ve_str) (vss_one (vs_ret ve_bl)) vss_nil)
    (vss_cons (vs_if (vt_cmp (c_eq y) (ve_v y 0) ve_str) (vss_one (vs_ret (ve_cmp (c_eq y) (ve_ix y (ve_v y 1) (ve_neg ve_int)) ve_str))) vss_nil)
    (vss_cons (vs_if (vt_cmp (c_eq y) (ve_v y 0) ve_str) (vss_one (vs_ret (ve_cmp (c_eq y) (ve_ix y (ve_v y 1) (ve_neg ve_int)) ve_str))) vss_nil)
    (vss_cons (vs_if (vt_cmp (c_eq y) (ve_v y 0) ve_str) (vss_one (vs_ret (ve_cmp (c_ne y) (ve_ix y (ve_v y 1) (ve_neg ve_int)) ve_str))) vss_nil)
    (vss_one (vs_ret ve_bl))))))), at2 v_word_fits⟩
abbrev s_check_blocks : Stmt := top 40
theorem sc_check_blocks : FnScope ["rows", "stack", "place", "row", "word"] ["rows"] (defScope s_check_blocks) := ⟨rfl, rfl, rfl, by decide +kernel, rfl, by decide +kernel, by decide +kernel⟩
theorem d_check_blocks {f : Addr} {fd : FuncData} (F : Fun K "check_blocks" "check_blocks" s_check_blocks f fd) (hm : mg "check_blocks" = some (.ref f)) (T : Txt K mg) (d_word_fits : Def P K.w K mg base "word_fits" 1 [] (pSp sp_word_fits)) : DefX P K.w K mg base "check_blocks" 2 sp_check_blocks :=
  defX_mk F hm sc_check_blocks (F.binds (ps := ["rows"]) fun _ _ _ _ _ _ us hl => (by obtain ⟨_, rfl⟩ := ulen1 hl; rfl)) (fun _ _ _ h => lenX1 h) fun cdv A outer s H E y tk pw => by
    have yn := nox_ok y
    exact ⟨w_check_blocks, (vsxs_cons (vsx_of (vs_set yn 1 (ve_lst true va_nil)))
    (vsxs_cons (vsx_for pw rfl (vi_enum y T.n_enumerate (va_cons (ve_v y 0) va_nil)) (vk_tup y 2 (vks_cons (vk_name y 2 [2, 3]) (vks_cons (vk_name y 3 [2, 3]) (vks_nil [2, 3])))) (vsxs_cons (vsx_of (vs_set yn 4 (ve_ix yn (ve_v yn 3) ve_int)))
    (vsxs_cons (vsx_if (vt_not (vt_truth yn (ve_callP yn false d_word_fits (by decide) (va_cons (ve_v yn 4) (va_cons (ve_v yn 1) va_nil))))) (vsxs_one (vsx_raise1 y tk T.e_NoBlock (ve_v y 2))) vsxs_nil)
    (vsxs_cons (vsx_of (vs_if (VW.vt (vw_or (vt_cmp (c_eq yn) (ve_v yn 4) ve_str) (vw_or (vt_cmp (c_eq yn) (ve_v yn 4) ve_str) (vw_or1 (vt_cmp (c_eq yn) (ve_v yn 4) ve_str))))) (vss_one (vs_expr (ve_append yn (ve_v yn 1) (va_cons (ve_v yn 4) va_nil)))) vss_nil))
    (vsxs_cons (vsx_of (vs_if (VW.vt (vw_or (vt_cmp (c_eq yn) (ve_v yn 4) ve_str) (vw_or1 (vt_cmp (c_eq yn) (ve_v yn 4) ve_str)))) (vss_one (vs_expr (ve_pop yn (ve_v yn 1)))) vss_nil))
    (vsxs_one (vsx_of (vs_if (vt_cmp (c_eq yn) (ve_v yn 4) ve_str) (vss_one (vs_asg ve_str (vg_subL (ve_v yn 1) (ve_neg ve_int)))) vss_nil))))))) (by intro _; rfl))
    (vsxs_one (vsx_if (vt_cmp (c_ne yn) (ve_v yn 1) (ve_lst false va_nil)) (vsxs_one (vsx_raise1 y tk T.e_NoBlock (ve_len y T.n_len (va_cons (ve_v y 0) va_nil)))) vsxs_nil)))), atX1 v_check_blocks⟩
abbrev s_def_of : Stmt := top 41
theorem sc_def_of : FnScope ["rows", "name", "place", "row"] ["rows", "name"] (defScope s_def_of) := ⟨rfl, rfl, rfl, by decide +kernel, rfl, by decide +kernel, by decide +kernel⟩
theorem d_def_of {f : Addr} {fd : FuncData} (F : Fun K "def_of" "def_of" s_def_of f fd) (hm : mg "def_of" = some (.ref f)) (T : Txt K mg) : Def P K.w K mg base "def_of" 1 [] (pSp sp_def_of) :=
  def_mk F hm sc_def_of (F.binds (ps := ["rows", "name"]) fun _ _ _ _ _ _ us hl => (by obtain ⟨_, _, rfl⟩ := ulen2 hl; rfl)) (fun _ _ _ h => len2 h) fun cdv A outer s H E y => ⟨w_def_of, (vss_cons (vs_for PassesOwn.never rfl (vi_enum y T.n_enumerate (va_cons (ve_v y 0) va_nil)) (vk_tup y 2 (vks_cons (vk_name y 2 [2, 3]) (vks_cons (vk_name y 3 [2, 3]) (vks_nil [2, 3])))) (vss_one (vs_if (VW.vt (vw_and (vt_cmp (c_eq y) (ve_ix y (ve_v y 3) ve_int) ve_str) (vw_and1 (vt_cmp (c_eq y) (ve_ix y (ve_v y 3) ve_int) (ve_v y 1))))) (vss_one (vs_ret (ve_v y 2))) vss_nil)))
    (vss_one (vs_ret ve_non))), at2 v_def_of⟩
abbrev s_check_calls : Stmt := top 42
theorem sc_check_calls : FnScope ["rows", "place", "row", "there"] ["rows"] (defScope s_check_calls) := ⟨rfl, rfl, rfl, by decide +kernel, rfl, by decide +kernel, by decide +kernel⟩
theorem d_check_calls {f : Addr} {fd : FuncData} (F : Fun K "check_calls" "check_calls" s_check_calls f fd) (hm : mg "check_calls" = some (.ref f)) (T : Txt K mg) (d_def_of : Def P K.w K mg base "def_of" 1 [] (pSp sp_def_of)) : DefX P K.w K mg base "check_calls" 2 sp_check_calls :=
  defX_mk F hm sc_check_calls (F.binds (ps := ["rows"]) fun _ _ _ _ _ _ us hl => (by obtain ⟨_, rfl⟩ := ulen1 hl; rfl)) (fun _ _ _ h => lenX1 h) fun cdv A outer s H E y tk pw => by
    have yn := nox_ok y
    exact ⟨w_check_calls, (vsxs_one (vsx_for pw rfl (vi_enum y T.n_enumerate (va_cons (ve_v y 0) va_nil)) (vk_tup y 2 (vks_cons (vk_name y 1 [1, 2]) (vks_cons (vk_name y 2 [1, 2]) (vks_nil [1, 2])))) (vsxs_cons (vsx_if (VW.vt (vw_and (vt_cmp (c_eq yn) (ve_ix yn (ve_v yn 2) ve_int) ve_str) (vw_and1 (vt_cmp (c_lt yn) (ve_callP yn false d_def_of (by decide) (va_cons (ve_v yn 0) (va_cons (ve_ix yn (ve_v yn 2) ve_int) va_nil))) (ve_v yn 1))))) (vsxs_one (vsx_raise1 y tk T.e_NoCall (ve_v y 1))) vsxs_nil)
    (vsxs_one (vsx_if (vt_cmp (c_eq yn) (ve_ix yn (ve_v yn 2) ve_int) ve_str) (vsxs_cons (vsx_of (vs_set yn 3 (ve_callP yn false d_def_of (by decide) (va_cons (ve_v yn 0) (va_cons (ve_ix yn (ve_v yn 2) ve_int) va_nil)))))
    (vsxs_one (vsx_if (VW.vt (vw_or (vt_cmp (c_is yn) (ve_v yn 3) ve_non) (vw_or (vt_cmp (c_lt yn) (ve_v yn 3) (ve_v yn 1)) (vw_or1 (vt_cmp (c_ne yn) (ve_len yn T.n_len (va_cons (ve_ix yn (ve_ix yn (ve_v yn 0) (ve_v yn 3)) ve_int) va_nil)) (ve_len yn T.n_len (va_cons (ve_ix yn (ve_v yn 2) ve_int) va_nil))))))) (vsxs_one (vsx_raise1 y tk T.e_NoCall (ve_v y 1))) vsxs_nil))) vsxs_nil))) (by intro _; rfl))), atX1 v_check_calls⟩
abbrev s_program_of : Stmt := top 43
theorem sc_program_of : FnScope ["rows", "place", "row"] ["rows"] (defScope s_program_of) := ⟨rfl, rfl, rfl, by decide +kernel, rfl, by decide +kernel, by decide +kernel⟩
theorem d_program_of {f : Addr} {fd : FuncData} (F : Fun K "program_of" "program_of" s_program_of f fd) (hm : mg "program_of" = some (.ref f)) (T : Txt K mg) (d_is_row : Def P K.w K mg base "is_row" 5 [] (pSp sp_is_row)) (d_check_blocks : DefX P K.w K mg base "check_blocks" 2 sp_check_blocks) (d_check_calls : DefX P K.w K mg base "check_calls" 2 sp_check_calls) : DefX P K.w K mg base "program_of" 6 sp_program_of :=
  defX_mk F hm sc_program_of (F.binds (ps := ["rows"]) fun _ _ _ _ _ _ us hl => (by obtain ⟨_, rfl⟩ := ulen1 hl; rfl)) (fun _ _ _ h => lenX1 h) fun cdv A outer s H E y tk pw => by
    have yn := nox_ok y
    exact ⟨w_program_of, (vsxs_cons (vsx_if (vt_cmp (c_gt yn) (ve_len yn T.n_len (va_cons (ve_v yn 0) va_nil)) (ve_glob yn T.c_MOST_ROWS)) (vsxs_one (vsx_raise0 y tk T.e_TooGreat)) vsxs_nil)
    (vsxs_cons (vsx_for pw rfl (vi_enum y T.n_enumerate (va_cons (ve_v y 0) va_nil)) (vk_tup y 2 (vks_cons (vk_name y 1 [1, 2]) (vks_cons (vk_name y 2 [1, 2]) (vks_nil [1, 2])))) (vsxs_one (vsx_if (vt_not (vt_truth yn (ve_callP yn false d_is_row (by decide) (va_cons (ve_v yn 2) va_nil)))) (vsxs_one (vsx_raise1 y tk T.e_NoRow (ve_v y 1))) vsxs_nil)) (by intro _; rfl))
    (vsxs_cons (vsx_exprX (ve_callX y false d_check_blocks (by decide) (fun _ => tk) (va_cons (ve_v y 0) va_nil)))
    (vsxs_cons (vsx_exprX (ve_callX y false d_check_calls (by decide) (fun _ => tk) (va_cons (ve_v y 0) va_nil)))
    (vsxs_one (vsx_of (vs_ret (ve_list yn true T.n_list (va_cons (ve_v yn 0) va_nil))))))))), atX1 v_program_of⟩
abbrev s__law_cell_at : Stmt := top 45
theorem sc__law_cell_at : FnScope ["_law_script", "_law_k"] ["_law_script", "_law_k"] (defScope s__law_cell_at) := ⟨rfl, rfl, rfl, by decide +kernel, rfl, by decide +kernel, by decide +kernel⟩
theorem d__law_cell_at {f : Addr} {fd : FuncData} (F : Fun K "_law_cell_at" "_law_cell_at" s__law_cell_at f fd) (hm : mg "_law_cell_at" = some (.ref f)) (T : Txt K mg) : Def P K.w K mg base "_law_cell_at" 1 [] (pSp sp__law_cell_at) :=
  def_mk F hm sc__law_cell_at (F.binds (ps := ["_law_script", "_law_k"]) fun _ _ _ _ _ _ us hl => (by obtain ⟨_, _, rfl⟩ := ulen2 hl; rfl)) (fun _ _ _ h => len2 h) fun cdv A outer s H E y => ⟨w__law_cell_at, (vss_cons (vs_if (vt_cmp (c_lt y) (ve_v y 1) (ve_len y T.n_len (va_cons (ve_v y 0) va_nil))) (vss_one (vs_ret (ve_ix y (ve_v y 0) (ve_v y 1)))) vss_nil)
    (vss_one (vs_ret ve_int))), at2 v__law_cell_at⟩
abbrev s__law_words : Stmt := top 46
theorem sc__law_words : FnScope ["_law_cell", "_law_many", "_law_letters", "_law_size", "_law_at", "_law_words_here", "_law_k", "_law_word", "_law_j", "_law_number"] ["_law_cell", "_law_many"] (defScope s__law_words) := ⟨rfl, rfl, rfl, by decide +kernel, rfl, by decide +kernel, by decide +kernel⟩
theorem d__law_words {f : Addr} {fd : FuncData} (F : Fun K "_law_words" "_law_words" s__law_words f fd) (hm : mg "_law_words" = some (.ref f)) (T : Txt K mg) : Def P K.w K mg base "_law_words" 1 [] (pSp sp__law_words) :=
  def_mk F hm sc__law_words (F.binds (ps := ["_law_cell", "_law_many"]) fun _ _ _ _ _ _ us hl => (by obtain ⟨_, _, rfl⟩ := ulen2 hl; rfl)) (fun _ _ _ h => len2 h) fun cdv A outer s H E y => ⟨w__law_words, (vss_cons (vs_set y 2 ve_str)
    (vss_cons (vs_set y 0 (ve_mod (ve_v y 0) (ve_pow ve_int ve_int)))
    (vss_cons (vs_set y 3 (ve_add y false ve_int (ve_mod (ve_v y 0) ve_int)))
    (vss_cons (vs_set y 4 (ve_mod (ve_fdiv (ve_v y 0) ve_int) (ve_v y 3)))
    (vss_cons (vs_set y 5 (ve_lst true va_nil))
    (vss_cons (vs_for PassesOwn.never rfl (vi_rng1 y T.n_range (va_cons (ve_v y 1) va_nil)) (vk_name y 6 [6]) (vss_cons (vs_set y 7 ve_str)
    (vss_cons (vs_for PassesOwn.never rfl (vi_rng1 y T.n_range (va_cons (ve_v y 3) va_nil)) (vk_name y 8 [8]) (vss_cons (vs_set y 9 (ve_add y false (ve_fdiv (ve_fdiv (ve_v y 0) ve_int) (ve_add y false (ve_v y 8) ve_int)) (ve_mul false (ve_v y 8) (ve_v y 8))))
    (vss_cons (vs_if (vt_cmp (c_eq y) (ve_v y 8) (ve_v y 4)) (vss_one (vs_augAdd y 9 (ve_v y 6))) vss_nil)
    (vss_one (vs_set y 7 (ve_add y false (ve_v y 7) (ve_ix y (ve_v y 2) (ve_mod (ve_v y 9) ve_int))))))))
    (vss_one (vs_expr (ve_append y (ve_v y 5) (va_cons (ve_v y 7) va_nil)))))))
    (vss_cons (vs_if (vt_cmp (c_eq y) (ve_mod (ve_fdiv (ve_v y 0) ve_int) ve_int) ve_int) (vss_one (vs_asg (ve_add y false (ve_ix y (ve_v y 5) ve_int) (ve_ix y (ve_v y 2) (ve_mod (ve_fdiv (ve_v y 0) ve_int) ve_int))) (vg_subL (ve_v y 5) ve_int))) vss_nil)
    (vss_one (vs_ret (ve_v y 5)))))))))), at2 v__law_words⟩
abbrev s__law_operand : Stmt := top 47
theorem sc__law_operand : FnScope ["_law_number", "_law_words_here"] ["_law_number", "_law_words_here"] (defScope s__law_operand) := ⟨rfl, rfl, rfl, by decide +kernel, rfl, by decide +kernel, by decide +kernel⟩
theorem d__law_operand {f : Addr} {fd : FuncData} (F : Fun K "_law_operand" "_law_operand" s__law_operand f fd) (hm : mg "_law_operand" = some (.ref f)) (T : Txt K mg) : Def P K.w K mg base "_law_operand" 1 [] (pSp sp__law_operand) :=
  def_mk F hm sc__law_operand (F.binds (ps := ["_law_number", "_law_words_here"]) fun _ _ _ _ _ _ us hl => (by obtain ⟨_, _, rfl⟩ := ulen2 hl; rfl)) (fun _ _ _ h => len2 h) fun cdv A outer s H E y => ⟨w__law_operand, (vss_cons (vs_if (vt_cmp (c_gt y) (ve_mod (ve_v y 0) ve_int) ve_int) (vss_one (vs_ret (ve_ix y (ve_v y 1) (ve_mod (ve_fdiv (ve_v y 0) ve_int) ve_int)))) vss_nil)
    (vss_cons (vs_if (vt_cmp (c_eq y) (ve_mod (ve_v y 0) ve_int) ve_int) (vss_one (vs_ret (ve_sub (ve_mod (ve_add y false (ve_mul false (ve_mul false (ve_v y 0) ve_int) (ve_pow ve_int ve_int)) (ve_v y 0)) (ve_mul false ve_int (ve_pow ve_int ve_int))) (ve_pow ve_int ve_int)))) vss_nil)
    (vss_one (vs_ret (ve_sub (ve_mod (ve_fdiv (ve_v y 0) ve_int) ve_int) ve_int))))), at2 v__law_operand⟩
abbrev s__law_key : Stmt := top 48
theorem sc__law_key : FnScope ["_law_number", "_law_words_here"] ["_law_number", "_law_words_here"] (defScope s__law_key) := ⟨rfl, rfl, rfl, by decide +kernel, rfl, by decide +kernel, by decide +kernel⟩
theorem d__law_key {f : Addr} {fd : FuncData} (F : Fun K "_law_key" "_law_key" s__law_key f fd) (hm : mg "_law_key" = some (.ref f)) (T : Txt K mg) (d__law_operand : Def P K.w K mg base "_law_operand" 1 [] (pSp sp__law_operand)) : Def P K.w K mg base "_law_key" 2 [] (pSp sp__law_key) :=
  def_mk F hm sc__law_key (F.binds (ps := ["_law_number", "_law_words_here"]) fun _ _ _ _ _ _ us hl => (by obtain ⟨_, _, rfl⟩ := ulen2 hl; rfl)) (fun _ _ _ h => len2 h) fun cdv A outer s H E y => ⟨w__law_key, (vss_cons (vs_if (vt_cmp (c_eq y) (ve_mod (ve_v y 0) ve_int) ve_int) (vss_one (vs_ret (ve_add y true ve_str (ve_ix y (ve_v y 1) (ve_mod (ve_fdiv (ve_v y 0) ve_int) ve_int))))) vss_nil)
    (vss_one (vs_ret (ve_callP y true d__law_operand (by decide) (va_cons (ve_fdiv (ve_v y 0) ve_int) (va_cons (ve_v y 1) va_nil)))))), at2 v__law_key⟩
abbrev s__law_call : Stmt := top 49
theorem sc__law_call : FnScope ["_law_number", "_law_name", "_law_words_here", "_law_later", "_law_other", "_law_parameters", "_law_operands", "_law_k"] ["_law_number", "_law_name", "_law_words_here", "_law_later"] (defScope s__law_call) := ⟨rfl, rfl, rfl, by decide +kernel, rfl, by decide +kernel, by decide +kernel⟩
theorem d__law_call {f : Addr} {fd : FuncData} (F : Fun K "_law_call" "_law_call" s__law_call f fd) (hm : mg "_law_call" = some (.ref f)) (T : Txt K mg) (d__law_operand : Def P K.w K mg base "_law_operand" 1 [] (pSp sp__law_operand)) : Def P K.w K mg base "_law_call" 2 [] (pSp sp__law_call) :=
  def_mk F hm sc__law_call (F.binds (ps := ["_law_number", "_law_name", "_law_words_here", "_law_later"]) fun _ _ _ _ _ _ us hl => (by obtain ⟨_, _, _, _, rfl⟩ := ulen4 hl; rfl)) (fun _ _ _ h => len4 h) fun cdv A outer s H E y => ⟨w__law_call, (vss_cons (vs_asg (ve_ix y (ve_v y 3) (ve_mod (ve_v y 0) (ve_len y T.n_len (va_cons (ve_v y 3) va_nil)))) (VK.vg (vk_tup y 2 (vks_cons (vk_name y 4 [4, 5]) (vks_cons (vk_name y 5 [4, 5]) (vks_nil [4, 5]))))))
    (vss_cons (vs_set y 6 (ve_lst true va_nil))
    (vss_cons (vs_for PassesOwn.never rfl (vi_rng1 y T.n_range (va_cons (ve_len y T.n_len (va_cons (ve_v y 5) va_nil)) va_nil)) (vk_name y 7 [7]) (vss_one (vs_expr (ve_append y (ve_v y 6) (va_cons (ve_callP y false d__law_operand (by decide) (va_cons (ve_fdiv (ve_v y 0) (ve_add y false (ve_len y T.n_len (va_cons (ve_v y 3) va_nil)) (ve_v y 7))) (va_cons (ve_v y 2) va_nil))) va_nil)))))
    (vss_one (vs_ret (ve_tup (va_cons ve_str (va_cons (ve_v y 1) (va_cons (ve_v y 4) (va_cons (ve_tuple y T.n_tuple (va_cons (ve_v y 6) va_nil)) va_nil)))))))))), at4 v__law_call⟩
abbrev s__law_simple : Stmt := top 50
theorem sc__law_simple : FnScope ["_law_number", "_law_words_here", "_law_later", "_law_kind", "_law_name", "_law_other", "_law_rest", "_law_word"] ["_law_number", "_law_words_here", "_law_later"] (defScope s__law_simple) := ⟨rfl, rfl, rfl, by decide +kernel, rfl, by decide +kernel, by decide +kernel⟩
theorem d__law_simple {f : Addr} {fd : FuncData} (F : Fun K "_law_simple" "_law_simple" s__law_simple f fd) (hm : mg "_law_simple" = some (.ref f)) (T : Txt K mg) (d__law_operand : Def P K.w K mg base "_law_operand" 1 [] (pSp sp__law_operand)) (d__law_key : Def P K.w K mg base "_law_key" 2 [] (pSp sp__law_key)) (d__law_call : Def P K.w K mg base "_law_call" 2 [] (pSp sp__law_call)) : Def P K.w K mg base "_law_simple" 3 [] (pSp sp__law_simple) :=
  def_mk F hm sc__law_simple (F.binds (ps := ["_law_number", "_law_words_here", "_law_later"]) fun _ _ _ _ _ _ us hl => (by obtain ⟨_, _, _, rfl⟩ := ulen3 hl; rfl)) (fun _ _ _ h => len3 h) fun cdv A outer s H E y => ⟨w__law_simple, (vss_cons (vs_set y 3 (ve_mod (ve_v y 0) ve_int))
    (vss_cons (vs_set y 4 (ve_ix y (ve_v y 1) (ve_mod (ve_fdiv (ve_v y 0) ve_int) ve_int)))
    (vss_cons (vs_set y 5 (ve_ix y (ve_v y 1) (ve_mod (ve_fdiv (ve_v y 0) ve_int) ve_int)))
    (vss_cons (vs_set y 6 (ve_fdiv (ve_v y 0) ve_int))
    (vss_cons (vs_if (vt_cmp (c_lt y) (ve_v y 3) ve_int) (vss_one (vs_ret (ve_tup (va_cons ve_str (va_cons (ve_v y 4) (va_cons (ve_callP y false d__law_operand (by decide) (va_cons (ve_v y 6) (va_cons (ve_v y 1) va_nil))) va_nil)))))) vss_nil)
    (vss_cons (vs_if (vt_cmp (c_lt y) (ve_v y 3) ve_int) (vss_cons (vs_set y 7 (ve_ix y (ve_lst false (va_cons ve_str (va_cons ve_str (va_cons ve_str (va_cons ve_str (va_cons ve_str (va_cons ve_str (va_cons ve_str va_nil)))))))) (ve_mod (ve_v y 6) ve_int)))
    (vss_one (vs_ret (ve_tup (va_cons ve_str (va_cons (ve_v y 4) (va_cons (ve_callP y false d__law_operand (by decide) (va_cons (ve_fdiv (ve_v y 6) ve_int) (va_cons (ve_v y 1) va_nil))) (va_cons (ve_v y 7) (va_cons (ve_callP y false d__law_operand (by decide) (va_cons (ve_fdiv (ve_v y 6) ve_int) (va_cons (ve_v y 1) va_nil))) va_nil))))))))) vss_nil)
    (vss_cons (vs_if (vt_cmp (c_eq y) (ve_v y 3) ve_int) (vss_one (vs_ret (ve_tup (va_cons ve_str (va_cons (ve_v y 4) va_nil))))) vss_nil)
    (vss_cons (vs_if (vt_cmp (c_lt y) (ve_v y 3) ve_int) (vss_one (vs_ret (ve_tup (va_cons ve_str (va_cons (ve_v y 4) (va_cons (ve_v y 5) (va_cons (ve_callP y false d__law_key (by decide) (va_cons (ve_v y 6) (va_cons (ve_v y 1) va_nil))) va_nil))))))) vss_nil)
    (vss_cons (vs_if (vt_cmp (c_lt y) (ve_v y 3) ve_int) (vss_one (vs_ret (ve_tup (va_cons ve_str (va_cons (ve_v y 5) (va_cons (ve_callP y false d__law_key (by decide) (va_cons (ve_v y 6) (va_cons (ve_v y 1) va_nil))) (va_cons (ve_callP y false d__law_operand (by decide) (va_cons (ve_fdiv (ve_v y 6) ve_int) (va_cons (ve_v y 1) va_nil))) va_nil))))))) vss_nil)
    (vss_cons (vs_if (VW.vt (vw_and (vt_cmp (c_eq y) (ve_v y 3) ve_int) (vw_and1 (vt_cmp (c_ne y) (ve_v y 2) (ve_lst false va_nil))))) (vss_one (vs_ret (ve_callP y true d__law_call (by decide) (va_cons (ve_v y 6) (va_cons (ve_v y 4) (va_cons (ve_v y 1) (va_cons (ve_v y 2) va_nil))))))) vss_nil)
    (vss_cons (vs_if (VW.vt (vw_and (vt_cmp (c_eq y) (ve_v y 3) ve_int) (vw_and1 (vt_cmp (c_eq y) (ve_mod (ve_v y 6) ve_int) ve_int)))) (vss_one (vs_ret (ve_tup (va_cons ve_str (va_cons (ve_ix y (ve_v y 1) (ve_add y false ve_int (ve_mod (ve_fdiv (ve_v y 6) ve_int) ve_int))) va_nil))))) vss_nil)
    (vss_cons (vs_if (VW.vt (vw_and (vt_cmp (c_eq y) (ve_v y 3) ve_int) (vw_and1 (vt_cmp (c_eq y) (ve_mod (ve_v y 6) ve_int) ve_int)))) (vss_one (vs_ret (ve_tup (va_cons ve_str va_nil)))) vss_nil)
    (vss_one (vs_ret (ve_tup (va_cons ve_str (va_cons (ve_v y 4) (va_cons (ve_v y 5) va_nil)))))))))))))))))), at3 v__law_simple⟩
abbrev s__law_lay : Stmt := top 51
theorem sc__law_lay : FnScope ["_law_rows", "_law_stack", "_law_cell", "_law_words_here", "_law_later", "_law_number", "_law_move", "_law_name"] ["_law_rows", "_law_stack", "_law_cell", "_law_words_here", "_law_later"] (defScope s__law_lay) := ⟨rfl, rfl, rfl, by decide +kernel, rfl, by decide +kernel, by decide +kernel⟩
theorem d__law_lay {f : Addr} {fd : FuncData} (F : Fun K "_law_lay" "_law_lay" s__law_lay f fd) (hm : mg "_law_lay" = some (.ref f)) (T : Txt K mg) (d__law_operand : Def P K.w K mg base "_law_operand" 1 [] (pSp sp__law_operand)) (d__law_simple : Def P K.w K mg base "_law_simple" 3 [] (pSp sp__law_simple)) : Def P K.w K mg base "_law_lay" 4 [] sp__law_lay :=
  def_mk F hm sc__law_lay (F.binds (ps := ["_law_rows", "_law_stack", "_law_cell", "_law_words_here", "_law_later"]) fun _ _ _ _ _ _ us hl => (by obtain ⟨_, _, _, _, _, rfl⟩ := ulen5 hl; rfl)) (fun _ _ _ h => lenS5 h) fun cdv A outer s H E y => ⟨w__law_lay, (vss_cons (vs_set y 5 (ve_mod (ve_mul false (ve_fdiv (ve_v y 2) ve_int) ve_int) ve_int))
    (vss_cons (vs_set y 6 (ve_mod (ve_v y 2) ve_int))
    (vss_one (vs_if (VW.vt (vw_and (vt_cmp (c_eq y) (ve_v y 6) ve_int) (vw_and1 (vt_cmp (c_lt y) (ve_len y T.n_len (va_cons (ve_v y 1) va_nil)) ve_int)))) (vss_cons (vs_expr (ve_append y (ve_v y 0) (va_cons (ve_tup (va_cons ve_str (va_cons (ve_callP y false d__law_operand (by decide) (va_cons (ve_v y 5) (va_cons (ve_v y 3) va_nil))) va_nil))) va_nil)))
    (vss_one (vs_expr (ve_append y (ve_v y 1) (va_cons ve_str va_nil))))) (vss_one (vs_if (VW.vt (vw_and (vt_cmp (c_eq y) (ve_v y 6) ve_int) (vw_and1 (vt_cmp (c_lt y) (ve_len y T.n_len (va_cons (ve_v y 1) va_nil)) ve_int)))) (vss_cons (vs_expr (ve_append y (ve_v y 1) (va_cons ve_str va_nil)))
    (vss_one (vs_if (vt_cmp (c_eq y) (ve_mod (ve_v y 5) ve_int) ve_int) (vss_one (vs_expr (ve_append y (ve_v y 0) (va_cons (ve_tup (va_cons ve_str (va_cons (ve_callP y false d__law_operand (by decide) (va_cons (ve_fdiv (ve_v y 5) ve_int) (va_cons (ve_v y 3) va_nil))) va_nil))) va_nil)))) (vss_cons (vs_set y 7 (ve_ix y (ve_v y 3) (ve_mod (ve_fdiv (ve_v y 5) ve_int) ve_int)))
    (vss_cons (vs_expr (ve_append y (ve_v y 0) (va_cons (ve_tup (va_cons ve_str (va_cons (ve_v y 7) va_nil))) va_nil)))
    (vss_one (vs_expr (ve_append y (ve_v y 0) (va_cons (ve_tup (va_cons ve_str (va_cons (ve_v y 7) (va_cons (ve_v y 7) (va_cons ve_str (va_cons ve_int va_nil)))))) va_nil))))))))) (vss_one (vs_if (VW.vt (vw_and (vt_cmp (c_eq y) (ve_v y 6) ve_int) (vw_and (vt_cmp (c_ne y) (ve_v y 1) (ve_lst false va_nil)) (vw_and1 (vt_cmp (c_eq y) (ve_ix y (ve_v y 1) (ve_neg ve_int)) ve_str))))) (vss_cons (vs_expr (ve_append y (ve_v y 0) (va_cons (ve_tup (va_cons ve_str va_nil)) va_nil)))
    (vss_one (vs_asg ve_str (vg_subL (ve_v y 1) (ve_neg ve_int))))) (vss_one (vs_if (VW.vt (vw_and (vt_cmp (c_eq y) (ve_v y 6) ve_int) (vw_and1 (vt_cmp (c_ne y) (ve_v y 1) (ve_lst false va_nil))))) (vss_cons (vs_expr (ve_append y (ve_v y 0) (va_cons (ve_tup (va_cons ve_str va_nil)) va_nil)))
    (vss_one (vs_expr (ve_pop y (ve_v y 1))))) (vss_one (vs_expr (ve_append y (ve_v y 0) (va_cons (ve_callP y false d__law_simple (by decide) (va_cons (ve_v y 5) (va_cons (ve_v y 3) (va_cons (ve_v y 4) va_nil)))) va_nil)))))))))))))), atS5 v__law_lay⟩
abbrev s__law_plan : Stmt := top 52
theorem sc__law_plan : FnScope ["_law_cell", "_law_words_here", "_law_number", "_law_plan_here", "_law_k", "_law_parameters", "_law_j"] ["_law_cell", "_law_words_here"] (defScope s__law_plan) := ⟨rfl, rfl, rfl, by decide +kernel, rfl, by decide +kernel, by decide +kernel⟩
theorem d__law_plan {f : Addr} {fd : FuncData} (F : Fun K "_law_plan" "_law_plan" s__law_plan f fd) (hm : mg "_law_plan" = some (.ref f)) (T : Txt K mg) : Def P K.w K mg base "_law_plan" 1 [] (pSp sp__law_plan) :=
  def_mk F hm sc__law_plan (F.binds (ps := ["_law_cell", "_law_words_here"]) fun _ _ _ _ _ _ us hl => (by obtain ⟨_, _, rfl⟩ := ulen2 hl; rfl)) (fun _ _ _ h => len2 h) fun cdv A outer s H E y => ⟨w__law_plan, (vss_cons (vs_set y 2 (ve_mod (ve_v y 0) (ve_pow ve_int ve_int)))
    (vss_cons (vs_set y 3 (ve_lst true va_nil))
    (vss_cons (vs_for PassesOwn.never rfl (vi_rng1 y T.n_range (va_cons (ve_add y false ve_int (ve_mod (ve_v y 2) ve_int)) va_nil)) (vk_name y 4 [4]) (vss_cons (vs_set y 2 (ve_mod (ve_add y false (ve_add y false (ve_mul false (ve_v y 2) (ve_v y 2)) (ve_mul false ve_int (ve_v y 2))) (ve_v y 4)) ve_int))
    (vss_cons (vs_setLc y false 5 (own := [("_law_j", 6)]) (sw_true rfl rfl rfl (by decide +kernel)) (vi_rng1 y T.n_range (va_cons (ve_mod (ve_v y 2) ve_int) va_nil)) (blkOk_at (S := defScope s__law_plan) (by decide +kernel)) (vk_name (YOk.blk y _) 6 [6]) vts_nil (ve_ix (YOk.blk y _) (ve_v (YOk.blk y _) 1) (ve_mod (ve_add (YOk.blk y _) false (ve_fdiv (ve_v (YOk.blk y _) 2) ve_int) (ve_v (YOk.blk y _) 6)) ve_int)))
    (vss_one (vs_expr (ve_append y (ve_v y 3) (va_cons (ve_tup (va_cons (ve_ix y (ve_v y 1) (ve_v y 4)) (va_cons (ve_tuple y T.n_tuple (va_cons (ve_v y 5) va_nil)) va_nil))) va_nil)))))))
    (vss_one (vs_ret (ve_v y 3)))))), at2 v__law_plan⟩
abbrev s__law_program : Stmt := top 53
theorem sc__law_program : FnScope ["_law_cells", "_law_words_here", "_law_plan_here", "_law_rows", "_law_k", "_law_stack", "_law_start", "_law_stop", "_law_share", "_law_cell", "_law_word"] ["_law_cells", "_law_words_here", "_law_plan_here"] (defScope s__law_program) := ⟨rfl, rfl, rfl, by decide +kernel, rfl, by decide +kernel, by decide +kernel⟩
theorem d__law_program {f : Addr} {fd : FuncData} (F : Fun K "_law_program" "_law_program" s__law_program f fd) (hm : mg "_law_program" = some (.ref f)) (T : Txt K mg) (d__law_lay : Def P K.w K mg base "_law_lay" 4 [] sp__law_lay) (d__law_operand : Def P K.w K mg base "_law_operand" 1 [] (pSp sp__law_operand)) : Def P K.w K mg base "_law_program" 5 [] (pSp sp__law_program) :=
  def_mk F hm sc__law_program (F.binds (ps := ["_law_cells", "_law_words_here", "_law_plan_here"]) fun _ _ _ _ _ _ us hl => (by obtain ⟨_, _, _, rfl⟩ := ulen3 hl; rfl)) (fun _ _ _ h => len3 h) fun cdv A outer s H E y => ⟨w__law_program, (vss_cons (vs_set y 3 (ve_lst true va_nil))
    (vss_cons (vs_for PassesOwn.never rfl (vi_rng1 y T.n_range (va_cons (ve_len y T.n_len (va_cons (ve_v y 2) va_nil)) va_nil)) (vk_name y 4 [4]) (vss_cons (vs_expr (ve_append y (ve_v y 3) (va_cons (ve_tup (va_cons ve_str (va_cons (ve_ix y (ve_ix y (ve_v y 2) (ve_v y 4)) ve_int) (va_cons (ve_ix y (ve_ix y (ve_v y 2) (ve_v y 4)) ve_int) va_nil)))) va_nil)))
    (vss_cons (vs_set y 5 (ve_lst true va_nil))
    (vss_cons (vs_set y 6 (ve_fdiv (ve_mul false (ve_v y 4) (ve_len y T.n_len (va_cons (ve_v y 0) va_nil))) (ve_len y T.n_len (va_cons (ve_v y 2) va_nil))))
    (vss_cons (vs_set y 7 (ve_fdiv (ve_mul false (ve_add y false (ve_v y 4) ve_int) (ve_len y T.n_len (va_cons (ve_v y 0) va_nil))) (ve_len y T.n_len (va_cons (ve_v y 2) va_nil))))
    (vss_cons (vs_set y 8 (ve_slice y false (ve_v y 0) (vo_some (ve_v y 6)) (vo_some (ve_v y 7))))
    (vss_cons (vs_for PassesOwn.never rfl (vi_seq y (ve_v y 8)) (vk_name y 9 [9]) (vss_one (vs_if (vt_cmp (c_lt y) (ve_add y false (ve_len y T.n_len (va_cons (ve_v y 3) va_nil)) (ve_len y T.n_len (va_cons (ve_v y 5) va_nil))) (ve_sub ve_int (ve_mul false ve_int (ve_sub (ve_sub (ve_len y T.n_len (va_cons (ve_v y 2) va_nil)) ve_int) (ve_v y 4))))) (vss_one (vs_expr (ve_callS y d__law_lay (by decide) (va_cons (ve_v y 3) (va_cons (ve_v y 5) (va_cons (ve_v y 9) (va_cons (ve_v y 1) (va_cons (ve_slice y false (ve_v y 2) (vo_some (ve_add y false (ve_v y 4) ve_int)) vo_none) va_nil)))))))) vss_nil)))
    (vss_cons (vs_for PassesOwn.never rfl (vi_seq y (ve_v y 5)) (vk_name y 10 [10]) (vss_one (vs_expr (ve_append y (ve_v y 3) (va_cons (ve_tup (va_cons ve_str va_nil)) va_nil)))))
    (vss_cons (vs_expr (ve_append y (ve_v y 3) (va_cons (ve_tup (va_cons ve_str (va_cons (ve_callP y false d__law_operand (by decide) (va_cons (ve_mod (ve_sum y T.n_sum (va_cons (ve_v y 8) va_nil)) (ve_pow ve_int ve_int)) (va_cons (ve_v y 1) va_nil))) va_nil))) va_nil)))
    (vss_one (vs_if (VW.vt (vw_and (vt_cmp (c_eq y) (ve_mod (ve_v y 4) ve_int) ve_int) (vw_and1 (vt_cmp (c_eq y) (ve_mod (ve_len y T.n_len (va_cons (ve_v y 8) va_nil)) ve_int) ve_int)))) (vss_one (vs_expr (ve_append y (ve_v y 3) (va_cons (ve_tup (va_cons ve_str va_nil)) va_nil)))) vss_nil)))))))))))
    (vss_one (vs_ret (ve_v y 3))))), at3 v__law_program⟩
abbrev s__law_which : Stmt := top 54
theorem sc__law_which : FnScope ["_law_error", "_law_some"] ["_law_error"] (defScope s__law_which) := ⟨rfl, rfl, rfl, by decide +kernel, rfl, by decide +kernel, by decide +kernel⟩
theorem d__law_which {f : Addr} {fd : FuncData} (F : Fun K "_law_which" "_law_which" s__law_which f fd) (hm : mg "_law_which" = some (.ref f)) (T : Txt K mg) : Def P K.w K mg base "_law_which" 1 [] sp__law_which :=
  def_mk F hm sc__law_which (F.binds (ps := ["_law_error"]) fun _ _ _ _ _ _ us hl => (by obtain ⟨_, rfl⟩ := ulen1 hl; rfl)) (fun _ _ _ h => lenS1 h) fun cdv A outer s H E y => ⟨w__law_which, (vss_cons (vs_set y 1 (ve_lst false (va_cons (ve_isX y T.n_isinstance T.it_TooGreat (ve_v y 0)) (va_cons (ve_isX y T.n_isinstance T.it_NoRow (ve_v y 0)) (va_cons (ve_isX y T.n_isinstance T.it_NoBlock (ve_v y 0)) va_nil)))))
    (vss_cons (vs_set y 1 (ve_add y false (ve_v y 1) (ve_lst false (va_cons (ve_isX y T.n_isinstance T.it_NoCall (ve_v y 0)) (va_cons (ve_isX y T.n_isinstance T.it_NoText (ve_v y 0)) (va_cons (ve_isX y T.n_isinstance T.it_NoPlace (ve_v y 0)) va_nil))))))
    (vss_cons (vs_set y 1 (ve_add y false (ve_v y 1) (ve_lst false (va_cons (ve_isX y T.n_isinstance T.it_Unlike (ve_v y 0)) (va_cons (ve_isX y T.n_isinstance T.it_NoFault (ve_v y 0)) (va_cons (ve_isX y T.n_isinstance T.it_Done (ve_v y 0)) va_nil))))))
    (vss_cons (vs_if (VW.vt (vw_or (vt_cmp (c_ne y) (ve_countF y (ve_v y 1) (va_cons ve_bl va_nil)) ve_int) (vw_or1 (vt_not (vt_truth y (ve_isX y T.n_isinstance T.it_ValueError (ve_v y 0))))))) (vss_one (vs_ret ve_str)) vss_nil)
    (vss_one (vs_ret (ve_ix y (ve_lst false (va_cons ve_str (va_cons ve_str (va_cons ve_str (va_cons ve_str (va_cons ve_str (va_cons ve_str (va_cons ve_str (va_cons ve_str (va_cons ve_str va_nil)))))))))) (ve_index y (ve_v y 1) (va_cons ve_bl va_nil))))))))), atS1 v__law_which⟩
abbrev s__law_outcome : Stmt := top 55
theorem sc__law_outcome : FnScope ["_law_rows", "_law_error", "_law_made", "e", "_law_word"] ["_law_rows"] (defScope s__law_outcome) := ⟨rfl, rfl, rfl, by decide +kernel, rfl, by decide +kernel, by decide +kernel⟩
theorem d__law_outcome {f : Addr} {fd : FuncData} (F : Fun K "_law_outcome" "_law_outcome" s__law_outcome f fd) (hm : mg "_law_outcome" = some (.ref f)) (T : Txt K mg) (d_program_of : DefX P K.w K mg base "program_of" 6 sp_program_of) (d__law_which : Def P K.w K mg base "_law_which" 1 [] sp__law_which) : Def P K.w K mg base "_law_outcome" 7 [] (pSp sp__law_outcome) :=
  def_mk F hm sc__law_outcome (F.binds (ps := ["_law_rows"]) fun _ _ _ _ _ _ us hl => (by obtain ⟨_, rfl⟩ := ulen1 hl; rfl)) (fun _ _ _ h => len1 h) fun cdv A outer s H E y => ⟨w__law_outcome, (vss_cons (vs_set y 1 ve_non)
    (vss_cons (vs_set y 2 ve_non)
    (vss_cons (vs_try y 3 T.ca_SliceError (vsf_asg (try_yok y) 2 (ve_callX (try_yok y) true d_program_of (by decide) (fun i => i.tk) (va_cons (ve_v (try_yok y) 0) va_nil))) (vsu_name y 1 3))
    (vss_cons (vs_if (vt_cmp (c_is y) (ve_v y 1) ve_non) (vss_one (vs_ret (ve_tup (va_cons ve_str (va_cons (ve_v y 2) va_nil))))) vss_nil)
    (vss_cons (vs_set y 4 (ve_callS y d__law_which (by decide) (va_cons (ve_v y 1) va_nil)))
    (vss_cons (vs_if (vt_cmp (c_inT y) (ve_v y 4) (ve_tup (va_cons ve_str (va_cons ve_str (va_cons ve_str va_nil))))) (vss_cons (vs_if (VW.vt (vw_or (vt_not (vt_truth y (ve_isi y T.n_isinstance (va_cons (ve_plc y T.pl_place (ve_v y 1)) (va_cons (ve_ty y T.n_int) va_nil))))) (vw_or1 (vt_truth y (ve_isi y T.n_isinstance (va_cons (ve_plc y T.pl_place (ve_v y 1)) (va_cons (ve_ty y T.n_bool) va_nil))))))) (vss_one (vs_ret (ve_tup (va_cons ve_str (va_cons ve_int va_nil))))) vss_nil)
    (vss_one (vs_ret (ve_tup (va_cons (ve_v y 4) (va_cons (ve_plc y T.pl_place (ve_v y 1)) va_nil)))))) vss_nil)
    (vss_one (vs_ret (ve_tup (va_cons (ve_v y 4) (va_cons ve_int va_nil))))))))))), at1 v__law_outcome⟩
abbrev s__law_turned : Stmt := top 56
theorem sc__law_turned : FnScope ["_law_rows", "_law_cell", "_law_words_here", "_law_at", "_law_some", "_law_one", "_law_other", "_law_held"] ["_law_rows", "_law_cell", "_law_words_here"] (defScope s__law_turned) := ⟨rfl, rfl, rfl, by decide +kernel, rfl, by decide +kernel, by decide +kernel⟩
theorem d__law_turned {f : Addr} {fd : FuncData} (F : Fun K "_law_turned" "_law_turned" s__law_turned f fd) (hm : mg "_law_turned" = some (.ref f)) (T : Txt K mg) : Def P K.w K mg base "_law_turned" 1 [] (pSp sp__law_turned) :=
  def_mk F hm sc__law_turned (F.binds (ps := ["_law_rows", "_law_cell", "_law_words_here"]) fun _ _ _ _ _ _ us hl => (by obtain ⟨_, _, _, rfl⟩ := ulen3 hl; rfl)) (fun _ _ _ h => len3 h) fun cdv A outer s H E y => ⟨w__law_turned, (vss_cons (vs_set y 3 (ve_mod (ve_fdiv (ve_v y 1) ve_int) (ve_add y false (ve_len y T.n_len (va_cons (ve_v y 0) va_nil)) ve_int)))
    (vss_cons (vs_set y 4 (ve_lst false (va_cons (ve_tup (va_cons ve_str (va_cons (ve_ix y (ve_v y 2) ve_int) (va_cons (ve_tup va_nil) va_nil)))) (va_cons (ve_tup (va_cons ve_str (va_cons ve_int va_nil))) (va_cons (ve_tup (va_cons ve_str (va_cons (ve_ix y (ve_v y 2) ve_int) va_nil))) (va_cons (ve_tup (va_cons ve_str (va_cons ve_int va_nil))) (va_cons (ve_tup (va_cons ve_str va_nil)) (va_cons (ve_tup (va_cons ve_str va_nil)) (va_cons (ve_tup (va_cons ve_str (va_cons ve_str (va_cons ve_int va_nil)))) va_nil)))))))))
    (vss_cons (vs_if (VW.vt (vw_or (vt_cmp (c_eq y) (ve_mod (ve_v y 1) ve_int) ve_int) (vw_or1 (vt_cmp (c_eq y) (ve_v y 0) (ve_lst false va_nil))))) (vss_one (vs_ret (ve_add y true (ve_add y false (ve_slice y false (ve_v y 0) vo_none (vo_some (ve_v y 3))) (ve_lst false (va_cons (ve_ix y (ve_v y 4) (ve_mod (ve_fdiv (ve_v y 1) ve_int) ve_int)) va_nil))) (ve_slice y false (ve_v y 0) (vo_some (ve_v y 3)) vo_none)))) vss_nil)
    (vss_cons (vs_if (vt_cmp (c_eq y) (ve_mod (ve_v y 1) ve_int) ve_int) (vss_one (vs_ret (ve_add y true (ve_slice y false (ve_v y 0) vo_none (vo_some (ve_v y 3))) (ve_slice y false (ve_v y 0) (vo_some (ve_add y false (ve_v y 3) ve_int)) vo_none)))) vss_nil)
    (vss_cons (vs_set y 5 (ve_mod (ve_fdiv (ve_v y 1) ve_int) (ve_len y T.n_len (va_cons (ve_v y 0) va_nil))))
    (vss_cons (vs_set y 6 (ve_mod (ve_v y 3) (ve_len y T.n_len (va_cons (ve_v y 0) va_nil))))
    (vss_cons (vs_set y 0 (ve_list y true T.n_list (va_cons (ve_v y 0) va_nil)))
    (vss_cons (vs_set y 7 (ve_ix y (ve_v y 0) (ve_v y 5)))
    (vss_cons (vs_asg (ve_ix y (ve_v y 0) (ve_v y 6)) (vg_subL (ve_v y 0) (ve_v y 5)))
    (vss_cons (vs_asg (ve_v y 7) (vg_subL (ve_v y 0) (ve_v y 6)))
    (vss_one (vs_ret (ve_v y 0))))))))))))), at3 v__law_turned⟩
abbrev s__law_open : Stmt := top 57
theorem sc__law_open : FnScope ["_law_rows", "_law_at", "_law_opened", "_law_row"] ["_law_rows", "_law_at"] (defScope s__law_open) := ⟨rfl, rfl, rfl, by decide +kernel, rfl, by decide +kernel, by decide +kernel⟩
theorem d__law_open {f : Addr} {fd : FuncData} (F : Fun K "_law_open" "_law_open" s__law_open f fd) (hm : mg "_law_open" = some (.ref f)) (T : Txt K mg) : Def P K.w K mg base "_law_open" 1 [] (pSp sp__law_open) :=
  def_mk F hm sc__law_open (F.binds (ps := ["_law_rows", "_law_at"]) fun _ _ _ _ _ _ us hl => (by obtain ⟨_, _, rfl⟩ := ulen2 hl; rfl)) (fun _ _ _ h => len2 h) fun cdv A outer s H E y => ⟨w__law_open, (vss_cons (vs_set y 2 (ve_lst false va_nil))
    (vss_cons (vs_for PassesOwn.never rfl (vi_seq y (ve_slice y false (ve_v y 0) vo_none (vo_some (ve_v y 1)))) (vk_name y 3 [3]) (vss_cons (vs_if (vt_cmp (c_inT y) (ve_ix y (ve_v y 3) ve_int) (ve_tup (va_cons ve_str (va_cons ve_str (va_cons ve_str va_nil))))) (vss_one (vs_set y 2 (ve_add y false (ve_v y 2) (ve_lst false (va_cons (ve_ix y (ve_v y 3) ve_int) va_nil))))) vss_nil)
    (vss_cons (vs_if (vt_cmp (c_inT y) (ve_ix y (ve_v y 3) ve_int) (ve_tup (va_cons ve_str (va_cons ve_str va_nil)))) (vss_one (vs_set y 2 (ve_slice y false (ve_v y 2) vo_none (vo_some (ve_neg ve_int))))) vss_nil)
    (vss_one (vs_if (vt_cmp (c_eq y) (ve_ix y (ve_v y 3) ve_int) ve_str) (vss_one (vs_set y 2 (ve_add y false (ve_slice y false (ve_v y 2) vo_none (vo_some (ve_neg ve_int))) (ve_lst false (va_cons ve_str va_nil))))) vss_nil)))))
    (vss_one (vs_ret (ve_v y 2))))), at2 v__law_open⟩
abbrev s__law_breaks : Stmt := top 58
theorem sc__law_breaks : FnScope ["_law_rows", "_law_at", "_law_opened", "_law_word"] ["_law_rows", "_law_at"] (defScope s__law_breaks) := ⟨rfl, rfl, rfl, by decide +kernel, rfl, by decide +kernel, by decide +kernel⟩
theorem d__law_breaks {f : Addr} {fd : FuncData} (F : Fun K "_law_breaks" "_law_breaks" s__law_breaks f fd) (hm : mg "_law_breaks" = some (.ref f)) (T : Txt K mg) (d__law_open : Def P K.w K mg base "_law_open" 1 [] (pSp sp__law_open)) : Def P K.w K mg base "_law_breaks" 2 [] (pSp sp__law_breaks) :=
  def_mk F hm sc__law_breaks (F.binds (ps := ["_law_rows", "_law_at"]) fun _ _ _ _ _ _ us hl => (by obtain ⟨_, _, rfl⟩ := ulen2 hl; rfl)) (fun _ _ _ h => len2 h) fun cdv A outer s H E y => ⟨w__law_breaks, (vss_cons (vs_set y 2 (ve_callP y false d__law_open (by decide) (va_cons (ve_v y 0) (va_cons (ve_v y 1) va_nil))))
    (vss_cons (vs_set y 3 (ve_ix y (ve_ix y (ve_v y 0) (ve_v y 1)) ve_int))
    (vss_cons (vs_if (vt_cmp (c_eq y) (ve_v y 2) (ve_lst false va_nil)) (vss_one (vs_ret (ve_cmp (c_notinT y) (ve_v y 3) (ve_tup (va_cons ve_str (va_cons ve_str va_nil)))))) vss_nil)
    (vss_cons (vs_if (vt_cmp (c_eq y) (ve_v y 3) ve_str) (vss_one (vs_ret (ve_cmp (c_ne y) (ve_ix y (ve_v y 2) (ve_neg ve_int)) ve_str))) vss_nil)
    (vss_cons (vs_if (vt_cmp (c_eq y) (ve_v y 3) ve_str) (vss_one (vs_ret (ve_cmp (c_eq y) (ve_ix y (ve_v y 2) (ve_neg ve_int)) ve_str))) vss_nil)
    (vss_cons (vs_if (vt_cmp (c_eq y) (ve_v y 3) ve_str) (vss_one (vs_ret (ve_cmp (c_ne y) (ve_ix y (ve_v y 2) (ve_neg ve_int)) ve_str))) vss_nil)
    (vss_one (vs_ret (ve_cmp (c_eq y) (ve_v y 3) ve_str))))))))), at2 v__law_breaks⟩
abbrev s__law_due : Stmt := top 59
theorem sc__law_due : FnScope ["_law_rows", "_law_at"] ["_law_rows"] (defScope s__law_due) := ⟨rfl, rfl, rfl, by decide +kernel, rfl, by decide +kernel, by decide +kernel⟩
theorem d__law_due {f : Addr} {fd : FuncData} (F : Fun K "_law_due" "_law_due" s__law_due f fd) (hm : mg "_law_due" = some (.ref f)) (T : Txt K mg) (d__law_breaks : Def P K.w K mg base "_law_breaks" 2 [] (pSp sp__law_breaks)) (d__law_open : Def P K.w K mg base "_law_open" 1 [] (pSp sp__law_open)) : Def P K.w K mg base "_law_due" 3 [] (pSp sp__law_due) :=
  def_mk F hm sc__law_due (F.binds (ps := ["_law_rows"]) fun _ _ _ _ _ _ us hl => (by obtain ⟨_, rfl⟩ := ulen1 hl; rfl)) (fun _ _ _ h => len1 h) fun cdv A outer s H E y => ⟨w__law_due, (vss_cons (vs_for PassesOwn.never rfl (vi_rng1 y T.n_range (va_cons (ve_len y T.n_len (va_cons (ve_v y 0) va_nil)) va_nil)) (vk_name y 1 [1]) (vss_one (vs_if (vt_truth y (ve_callP y false d__law_breaks (by decide) (va_cons (ve_v y 0) (va_cons (ve_v y 1) va_nil)))) (vss_one (vs_ret (ve_v y 1))) vss_nil)))
    (vss_cons (vs_if (vt_cmp (c_ne y) (ve_callP y false d__law_open (by decide) (va_cons (ve_v y 0) (va_cons (ve_len y T.n_len (va_cons (ve_v y 0) va_nil)) va_nil))) (ve_lst false va_nil)) (vss_one (vs_ret (ve_len y T.n_len (va_cons (ve_v y 0) va_nil)))) vss_nil)
    (vss_one (vs_ret ve_non)))), at1 v__law_due⟩
abbrev s_law : Stmt := top 60
theorem sc_law : FnScope ["_law_script", "_law_words_here", "_law_rows", "_law_k", "_law_held", "_law_due_here", "_law_word", "_law_told"] ["_law_script"] (defScope s_law) := ⟨rfl, rfl, rfl, by decide +kernel, rfl, by decide +kernel, by decide +kernel⟩
end
theorem d_law_ok {P : Program} {K : KW} {mg : Str → Option Value} {base : Heap} {f : Addr} {fd : FuncData} (F : Fun K "law" "law" s_law f fd) (T : Txt K mg) (d__law_words : Def P K.w K mg base "_law_words" 1 [] (pSp sp__law_words)) (d__law_cell_at : Def P K.w K mg base "_law_cell_at" 1 [] (pSp sp__law_cell_at)) (d__law_program : Def P K.w K mg base "_law_program" 5 [] (pSp sp__law_program)) (d__law_plan : Def P K.w K mg base "_law_plan" 1 [] (pSp sp__law_plan)) (d__law_turned : Def P K.w K mg base "_law_turned" 1 [] (pSp sp__law_turned)) (d__law_due : Def P K.w K mg base "_law_due" 3 [] (pSp sp__law_due)) (d__law_outcome : Def P K.w K mg base "_law_outcome" 7 [] (pSp sp__law_outcome)) : FnOk P K.w K mg base CX0 8 f fd ["_law_script"] (toSp K (pSp lawSp)) :=
  fnv_ok F sc_law (fun _ _ _ h => lenL h) fun cdv A outer s H E y => ⟨w_law, (vss_cons (vs_set y 1 (ve_callP y false d__law_words (by decide) (va_cons (ve_callP y false d__law_cell_at (by decide) (va_cons (ve_v y 0) (va_cons ve_int va_nil))) (va_cons ve_int va_nil))))
    (vss_cons (vs_set y 2 (ve_callP y true d__law_program (by decide) (va_cons (ve_slice y false (ve_v y 0) (vo_some ve_int) (vo_some ve_int)) (va_cons (ve_v y 1) (va_cons (ve_callP y false d__law_plan (by decide) (va_cons (ve_callP y false d__law_cell_at (by decide) (va_cons (ve_v y 0) (va_cons ve_int va_nil))) (va_cons (ve_v y 1) va_nil))) va_nil)))))
    (vss_cons (vs_for PassesOwn.never rfl (vi_rng1 y T.n_range (va_cons (ve_add y false ve_int (ve_mod (ve_fdiv (ve_callP y false d__law_cell_at (by decide) (va_cons (ve_v y 0) (va_cons ve_int va_nil))) ve_int) ve_int)) va_nil)) (vk_name y 3 [3]) (vss_one (vs_if (vt_cmp (c_lt y) (ve_len y T.n_len (va_cons (ve_v y 2) va_nil)) ve_int) (vss_one (vs_set y 2 (ve_callP y true d__law_turned (by decide) (va_cons (ve_v y 2) (va_cons (ve_mod (ve_callP y false d__law_cell_at (by decide) (va_cons (ve_v y 0) (va_cons (ve_add y false ve_int (ve_v y 3)) va_nil))) (ve_pow ve_int ve_int)) (va_cons (ve_v y 1) va_nil)))))) vss_nil)))
    (vss_cons (vs_if (VW.vt (vw_and (vt_cmp (c_eq y) (ve_mod (ve_callP y false d__law_cell_at (by decide) (va_cons (ve_v y 0) (va_cons ve_int va_nil))) ve_int) ve_int) (vw_and1 (vt_chain (c_lt y) (c_lt y) ve_int (ve_len y T.n_len (va_cons (ve_v y 2) va_nil)) ve_int)))) (vss_one (vs_expr (ve_insert y (ve_v y 2) (va_cons ve_int (va_cons (ve_tup (va_cons ve_str (va_cons (ve_ix y (ve_v y 1) ve_int) (va_cons ve_str (va_cons (ve_tup va_nil) va_nil))))) va_nil))))) vss_nil)
    (vss_cons (vs_set y 4 (ve_list y false T.n_list (va_cons (ve_v y 2) va_nil)))
    (vss_cons (vs_set y 5 (ve_callP y false d__law_due (by decide) (va_cons (ve_v y 4) va_nil)))
    (vss_cons (vs_asg (ve_callP y false d__law_outcome (by decide) (va_cons (ve_v y 2) va_nil)) (VK.vg (vk_tup y 2 (vks_cons (vk_name y 6 [6, 7]) (vks_cons (vk_name y 7 [6, 7]) (vks_nil [6, 7]))))))
    (vss_cons (vs_if (vt_cmp (c_ne y) (ve_v y 2) (ve_v y 4)) (vss_one (vs_ret ve_bl)) vss_nil)
    (vss_cons (vs_if (vt_cmp (c_isn y) (ve_v y 5) ve_non) (vss_one (vs_ret (ve_andV (ve_cmp (c_eq y) (ve_v y 6) ve_str) (ve_one (ve_cmp (c_eq y) (ve_v y 7) (ve_v y 5)))))) vss_nil)
    (vss_one (vs_ret (ve_orV (ve_cmp (c_eq y) (ve_v y 6) ve_str) (ve_one (ve_andV (ve_cmp (c_eq y) (ve_v y 6) ve_str) (ve_one (ve_cmp (c_eq y) (ve_v y 7) (ve_v y 4))))))))))))))))), atL v_law⟩
theorem all_mk {P : Program} {w : World} {K : PySem.W.Frag} {h : Heap} {mg : Str → Option Value} {fa : Addr} (X : K.In h) (G : h.Ns mainGlobals mg) (hfa : mg "law" = some (.ref fa)) {f_is_number f_is_name f_is_operand f_is_field f_names_among f_all_operands f_Row_init f_Row_is_right f_Bare_is_right f_Def_is_right f_Give_is_right f_Fail_is_right f_Set_is_right f_New_is_right f_Put_is_right f_Do_is_right f_Get_is_right f_Call_is_right f_row_of f_is_row f_word_fits f_check_blocks f_def_of f_check_calls f_program_of f__law_cell_at f__law_words f__law_operand f__law_key f__law_call f__law_simple f__law_lay f__law_plan f__law_program f__law_which f__law_outcome f__law_turned f__law_open f__law_breaks f__law_due f_law A_Row A_Bare A_Def A_Give A_While A_Fail A_Set A_New A_Put A_Do A_Get A_Call : Addr}
    {oc_is_number kV_is_number dc_is_number pm_is_number cd_is_number ct_is_number : Value} {od_is_number an_is_number : Option Addr} {sl_is_number : Array (Option Value)}
    {oc_is_name kV_is_name dc_is_name pm_is_name cd_is_name ct_is_name : Value} {od_is_name an_is_name : Option Addr} {sl_is_name : Array (Option Value)}
    {oc_is_operand kV_is_operand dc_is_operand pm_is_operand cd_is_operand ct_is_operand : Value} {od_is_operand an_is_operand : Option Addr} {sl_is_operand : Array (Option Value)}
    {oc_is_field kV_is_field dc_is_field pm_is_field cd_is_field ct_is_field : Value} {od_is_field an_is_field : Option Addr} {sl_is_field : Array (Option Value)}
    {oc_names_among kV_names_among dc_names_among pm_names_among cd_names_among ct_names_among : Value} {od_names_among an_names_among : Option Addr} {sl_names_among : Array (Option Value)}
    {oc_all_operands kV_all_operands dc_all_operands pm_all_operands cd_all_operands ct_all_operands : Value} {od_all_operands an_all_operands : Option Addr} {sl_all_operands : Array (Option Value)}
    {oc_Row_init kV_Row_init dc_Row_init pm_Row_init cd_Row_init ct_Row_init : Value} {od_Row_init an_Row_init : Option Addr} {sl_Row_init : Array (Option Value)}
    {oc_Row_is_right kV_Row_is_right dc_Row_is_right pm_Row_is_right cd_Row_is_right ct_Row_is_right : Value} {od_Row_is_right an_Row_is_right : Option Addr} {sl_Row_is_right : Array (Option Value)}
    {oc_Bare_is_right kV_Bare_is_right dc_Bare_is_right pm_Bare_is_right cd_Bare_is_right ct_Bare_is_right : Value} {od_Bare_is_right an_Bare_is_right : Option Addr} {sl_Bare_is_right : Array (Option Value)}
    {oc_Def_is_right kV_Def_is_right dc_Def_is_right pm_Def_is_right cd_Def_is_right ct_Def_is_right : Value} {od_Def_is_right an_Def_is_right : Option Addr} {sl_Def_is_right : Array (Option Value)}
    {oc_Give_is_right kV_Give_is_right dc_Give_is_right pm_Give_is_right cd_Give_is_right ct_Give_is_right : Value} {od_Give_is_right an_Give_is_right : Option Addr} {sl_Give_is_right : Array (Option Value)}
    {oc_Fail_is_right kV_Fail_is_right dc_Fail_is_right pm_Fail_is_right cd_Fail_is_right ct_Fail_is_right : Value} {od_Fail_is_right an_Fail_is_right : Option Addr} {sl_Fail_is_right : Array (Option Value)}
    {oc_Set_is_right kV_Set_is_right dc_Set_is_right pm_Set_is_right cd_Set_is_right ct_Set_is_right : Value} {od_Set_is_right an_Set_is_right : Option Addr} {sl_Set_is_right : Array (Option Value)}
    {oc_New_is_right kV_New_is_right dc_New_is_right pm_New_is_right cd_New_is_right ct_New_is_right : Value} {od_New_is_right an_New_is_right : Option Addr} {sl_New_is_right : Array (Option Value)}
    {oc_Put_is_right kV_Put_is_right dc_Put_is_right pm_Put_is_right cd_Put_is_right ct_Put_is_right : Value} {od_Put_is_right an_Put_is_right : Option Addr} {sl_Put_is_right : Array (Option Value)}
    {oc_Do_is_right kV_Do_is_right dc_Do_is_right pm_Do_is_right cd_Do_is_right ct_Do_is_right : Value} {od_Do_is_right an_Do_is_right : Option Addr} {sl_Do_is_right : Array (Option Value)}
    {oc_Get_is_right kV_Get_is_right dc_Get_is_right pm_Get_is_right cd_Get_is_right ct_Get_is_right : Value} {od_Get_is_right an_Get_is_right : Option Addr} {sl_Get_is_right : Array (Option Value)}
    {oc_Call_is_right kV_Call_is_right dc_Call_is_right pm_Call_is_right cd_Call_is_right ct_Call_is_right : Value} {od_Call_is_right an_Call_is_right : Option Addr} {sl_Call_is_right : Array (Option Value)}
    {oc_row_of kV_row_of dc_row_of pm_row_of cd_row_of ct_row_of : Value} {od_row_of an_row_of : Option Addr} {sl_row_of : Array (Option Value)}
    {oc_is_row kV_is_row dc_is_row pm_is_row cd_is_row ct_is_row : Value} {od_is_row an_is_row : Option Addr} {sl_is_row : Array (Option Value)}
    {oc_word_fits kV_word_fits dc_word_fits pm_word_fits cd_word_fits ct_word_fits : Value} {od_word_fits an_word_fits : Option Addr} {sl_word_fits : Array (Option Value)}
    {oc_check_blocks kV_check_blocks dc_check_blocks pm_check_blocks cd_check_blocks ct_check_blocks : Value} {od_check_blocks an_check_blocks : Option Addr} {sl_check_blocks : Array (Option Value)}
    {oc_def_of kV_def_of dc_def_of pm_def_of cd_def_of ct_def_of : Value} {od_def_of an_def_of : Option Addr} {sl_def_of : Array (Option Value)}
    {oc_check_calls kV_check_calls dc_check_calls pm_check_calls cd_check_calls ct_check_calls : Value} {od_check_calls an_check_calls : Option Addr} {sl_check_calls : Array (Option Value)}
    {oc_program_of kV_program_of dc_program_of pm_program_of cd_program_of ct_program_of : Value} {od_program_of an_program_of : Option Addr} {sl_program_of : Array (Option Value)}
    {oc__law_cell_at kV__law_cell_at dc__law_cell_at pm__law_cell_at cd__law_cell_at ct__law_cell_at : Value} {od__law_cell_at an__law_cell_at : Option Addr} {sl__law_cell_at : Array (Option Value)}
    {oc__law_words kV__law_words dc__law_words pm__law_words cd__law_words ct__law_words : Value} {od__law_words an__law_words : Option Addr} {sl__law_words : Array (Option Value)}
    {oc__law_operand kV__law_operand dc__law_operand pm__law_operand cd__law_operand ct__law_operand : Value} {od__law_operand an__law_operand : Option Addr} {sl__law_operand : Array (Option Value)}
    {oc__law_key kV__law_key dc__law_key pm__law_key cd__law_key ct__law_key : Value} {od__law_key an__law_key : Option Addr} {sl__law_key : Array (Option Value)}
    {oc__law_call kV__law_call dc__law_call pm__law_call cd__law_call ct__law_call : Value} {od__law_call an__law_call : Option Addr} {sl__law_call : Array (Option Value)}
    {oc__law_simple kV__law_simple dc__law_simple pm__law_simple cd__law_simple ct__law_simple : Value} {od__law_simple an__law_simple : Option Addr} {sl__law_simple : Array (Option Value)}
    {oc__law_lay kV__law_lay dc__law_lay pm__law_lay cd__law_lay ct__law_lay : Value} {od__law_lay an__law_lay : Option Addr} {sl__law_lay : Array (Option Value)}
    {oc__law_plan kV__law_plan dc__law_plan pm__law_plan cd__law_plan ct__law_plan : Value} {od__law_plan an__law_plan : Option Addr} {sl__law_plan : Array (Option Value)}
    {oc__law_program kV__law_program dc__law_program pm__law_program cd__law_program ct__law_program : Value} {od__law_program an__law_program : Option Addr} {sl__law_program : Array (Option Value)}
    {oc__law_which kV__law_which dc__law_which pm__law_which cd__law_which ct__law_which : Value} {od__law_which an__law_which : Option Addr} {sl__law_which : Array (Option Value)}
    {oc__law_outcome kV__law_outcome dc__law_outcome pm__law_outcome cd__law_outcome ct__law_outcome : Value} {od__law_outcome an__law_outcome : Option Addr} {sl__law_outcome : Array (Option Value)}
    {oc__law_turned kV__law_turned dc__law_turned pm__law_turned cd__law_turned ct__law_turned : Value} {od__law_turned an__law_turned : Option Addr} {sl__law_turned : Array (Option Value)}
    {oc__law_open kV__law_open dc__law_open pm__law_open cd__law_open ct__law_open : Value} {od__law_open an__law_open : Option Addr} {sl__law_open : Array (Option Value)}
    {oc__law_breaks kV__law_breaks dc__law_breaks pm__law_breaks cd__law_breaks ct__law_breaks : Value} {od__law_breaks an__law_breaks : Option Addr} {sl__law_breaks : Array (Option Value)}
    {oc__law_due kV__law_due dc__law_due pm__law_due cd__law_due ct__law_due : Value} {od__law_due an__law_due : Option Addr} {sl__law_due : Array (Option Value)}
    {oc_law kV_law dc_law pm_law cd_law ct_law : Value} {od_law an_law : Option Addr} {sl_law : Array (Option Value)}
    (x_Row : PySem.W.nsIn K mainGlobals "Row" = some (some (.ref A_Row)))
    (pg_Row : PySem.W.plainGet K A_Row Str.empty = true)
    (hd_Row : PySem.W.hasDictIn K A_Row = true)
    (po_Row : PySem.W.plainOver K A_Row = true)
    (sa_Row : PySem.W.findIn K (.ref A_Row) "__setattr__" = some (some (.builtin "object.__setattr__")))
    (mk_Row : PySem.W.makesIn K A_Row = true)
    (kc_Row : PySem.W.keepIn K (.ref A_Row) = true)
    (in_Row : PySem.W.findIn K (.ref A_Row) "__init__" = some (some (.ref f_Row_init)))
    (na_Row_parts : PySem.W.findIn K (.ref A_Row) "parts" = some none)
    (me_Row_is_right : PySem.W.findIn K (.ref A_Row) "is_right" = some (some (.ref f_Row_is_right)))
    (x_Bare : PySem.W.nsIn K mainGlobals "Bare" = some (some (.ref A_Bare)))
    (pg_Bare : PySem.W.plainGet K A_Bare Str.empty = true)
    (hd_Bare : PySem.W.hasDictIn K A_Bare = true)
    (po_Bare : PySem.W.plainOver K A_Bare = true)
    (sa_Bare : PySem.W.findIn K (.ref A_Bare) "__setattr__" = some (some (.builtin "object.__setattr__")))
    (mk_Bare : PySem.W.makesIn K A_Bare = true)
    (kc_Bare : PySem.W.keepIn K (.ref A_Bare) = true)
    (in_Bare : PySem.W.findIn K (.ref A_Bare) "__init__" = some (some (.ref f_Row_init)))
    (na_Bare_parts : PySem.W.findIn K (.ref A_Bare) "parts" = some none)
    (me_Bare_is_right : PySem.W.findIn K (.ref A_Bare) "is_right" = some (some (.ref f_Bare_is_right)))
    (x_Def : PySem.W.nsIn K mainGlobals "Def" = some (some (.ref A_Def)))
    (pg_Def : PySem.W.plainGet K A_Def Str.empty = true)
    (hd_Def : PySem.W.hasDictIn K A_Def = true)
    (po_Def : PySem.W.plainOver K A_Def = true)
    (sa_Def : PySem.W.findIn K (.ref A_Def) "__setattr__" = some (some (.builtin "object.__setattr__")))
    (mk_Def : PySem.W.makesIn K A_Def = true)
    (kc_Def : PySem.W.keepIn K (.ref A_Def) = true)
    (in_Def : PySem.W.findIn K (.ref A_Def) "__init__" = some (some (.ref f_Row_init)))
    (na_Def_parts : PySem.W.findIn K (.ref A_Def) "parts" = some none)
    (me_Def_is_right : PySem.W.findIn K (.ref A_Def) "is_right" = some (some (.ref f_Def_is_right)))
    (x_Give : PySem.W.nsIn K mainGlobals "Give" = some (some (.ref A_Give)))
    (pg_Give : PySem.W.plainGet K A_Give Str.empty = true)
    (hd_Give : PySem.W.hasDictIn K A_Give = true)
    (po_Give : PySem.W.plainOver K A_Give = true)
    (sa_Give : PySem.W.findIn K (.ref A_Give) "__setattr__" = some (some (.builtin "object.__setattr__")))
    (mk_Give : PySem.W.makesIn K A_Give = true)
    (kc_Give : PySem.W.keepIn K (.ref A_Give) = true)
    (in_Give : PySem.W.findIn K (.ref A_Give) "__init__" = some (some (.ref f_Row_init)))
    (na_Give_parts : PySem.W.findIn K (.ref A_Give) "parts" = some none)
    (me_Give_is_right : PySem.W.findIn K (.ref A_Give) "is_right" = some (some (.ref f_Give_is_right)))
    (x_While : PySem.W.nsIn K mainGlobals "While" = some (some (.ref A_While)))
    (pg_While : PySem.W.plainGet K A_While Str.empty = true)
    (hd_While : PySem.W.hasDictIn K A_While = true)
    (po_While : PySem.W.plainOver K A_While = true)
    (sa_While : PySem.W.findIn K (.ref A_While) "__setattr__" = some (some (.builtin "object.__setattr__")))
    (mk_While : PySem.W.makesIn K A_While = true)
    (kc_While : PySem.W.keepIn K (.ref A_While) = true)
    (in_While : PySem.W.findIn K (.ref A_While) "__init__" = some (some (.ref f_Row_init)))
    (na_While_parts : PySem.W.findIn K (.ref A_While) "parts" = some none)
    (me_While_is_right : PySem.W.findIn K (.ref A_While) "is_right" = some (some (.ref f_Give_is_right)))
    (x_Fail : PySem.W.nsIn K mainGlobals "Fail" = some (some (.ref A_Fail)))
    (pg_Fail : PySem.W.plainGet K A_Fail Str.empty = true)
    (hd_Fail : PySem.W.hasDictIn K A_Fail = true)
    (po_Fail : PySem.W.plainOver K A_Fail = true)
    (sa_Fail : PySem.W.findIn K (.ref A_Fail) "__setattr__" = some (some (.builtin "object.__setattr__")))
    (mk_Fail : PySem.W.makesIn K A_Fail = true)
    (kc_Fail : PySem.W.keepIn K (.ref A_Fail) = true)
    (in_Fail : PySem.W.findIn K (.ref A_Fail) "__init__" = some (some (.ref f_Row_init)))
    (na_Fail_parts : PySem.W.findIn K (.ref A_Fail) "parts" = some none)
    (me_Fail_is_right : PySem.W.findIn K (.ref A_Fail) "is_right" = some (some (.ref f_Fail_is_right)))
    (x_Set : PySem.W.nsIn K mainGlobals "Set" = some (some (.ref A_Set)))
    (pg_Set : PySem.W.plainGet K A_Set Str.empty = true)
    (hd_Set : PySem.W.hasDictIn K A_Set = true)
    (po_Set : PySem.W.plainOver K A_Set = true)
    (sa_Set : PySem.W.findIn K (.ref A_Set) "__setattr__" = some (some (.builtin "object.__setattr__")))
    (mk_Set : PySem.W.makesIn K A_Set = true)
    (kc_Set : PySem.W.keepIn K (.ref A_Set) = true)
    (in_Set : PySem.W.findIn K (.ref A_Set) "__init__" = some (some (.ref f_Row_init)))
    (na_Set_parts : PySem.W.findIn K (.ref A_Set) "parts" = some none)
    (me_Set_is_right : PySem.W.findIn K (.ref A_Set) "is_right" = some (some (.ref f_Set_is_right)))
    (x_New : PySem.W.nsIn K mainGlobals "New" = some (some (.ref A_New)))
    (pg_New : PySem.W.plainGet K A_New Str.empty = true)
    (hd_New : PySem.W.hasDictIn K A_New = true)
    (po_New : PySem.W.plainOver K A_New = true)
    (sa_New : PySem.W.findIn K (.ref A_New) "__setattr__" = some (some (.builtin "object.__setattr__")))
    (mk_New : PySem.W.makesIn K A_New = true)
    (kc_New : PySem.W.keepIn K (.ref A_New) = true)
    (in_New : PySem.W.findIn K (.ref A_New) "__init__" = some (some (.ref f_Row_init)))
    (na_New_parts : PySem.W.findIn K (.ref A_New) "parts" = some none)
    (me_New_is_right : PySem.W.findIn K (.ref A_New) "is_right" = some (some (.ref f_New_is_right)))
    (x_Put : PySem.W.nsIn K mainGlobals "Put" = some (some (.ref A_Put)))
    (pg_Put : PySem.W.plainGet K A_Put Str.empty = true)
    (hd_Put : PySem.W.hasDictIn K A_Put = true)
    (po_Put : PySem.W.plainOver K A_Put = true)
    (sa_Put : PySem.W.findIn K (.ref A_Put) "__setattr__" = some (some (.builtin "object.__setattr__")))
    (mk_Put : PySem.W.makesIn K A_Put = true)
    (kc_Put : PySem.W.keepIn K (.ref A_Put) = true)
    (in_Put : PySem.W.findIn K (.ref A_Put) "__init__" = some (some (.ref f_Row_init)))
    (na_Put_parts : PySem.W.findIn K (.ref A_Put) "parts" = some none)
    (me_Put_is_right : PySem.W.findIn K (.ref A_Put) "is_right" = some (some (.ref f_Put_is_right)))
    (x_Do : PySem.W.nsIn K mainGlobals "Do" = some (some (.ref A_Do)))
    (pg_Do : PySem.W.plainGet K A_Do Str.empty = true)
    (hd_Do : PySem.W.hasDictIn K A_Do = true)
    (po_Do : PySem.W.plainOver K A_Do = true)
    (sa_Do : PySem.W.findIn K (.ref A_Do) "__setattr__" = some (some (.builtin "object.__setattr__")))
    (mk_Do : PySem.W.makesIn K A_Do = true)
    (kc_Do : PySem.W.keepIn K (.ref A_Do) = true)
    (in_Do : PySem.W.findIn K (.ref A_Do) "__init__" = some (some (.ref f_Row_init)))
    (na_Do_parts : PySem.W.findIn K (.ref A_Do) "parts" = some none)
    (me_Do_is_right : PySem.W.findIn K (.ref A_Do) "is_right" = some (some (.ref f_Do_is_right)))
    (x_Get : PySem.W.nsIn K mainGlobals "Get" = some (some (.ref A_Get)))
    (pg_Get : PySem.W.plainGet K A_Get Str.empty = true)
    (hd_Get : PySem.W.hasDictIn K A_Get = true)
    (po_Get : PySem.W.plainOver K A_Get = true)
    (sa_Get : PySem.W.findIn K (.ref A_Get) "__setattr__" = some (some (.builtin "object.__setattr__")))
    (mk_Get : PySem.W.makesIn K A_Get = true)
    (kc_Get : PySem.W.keepIn K (.ref A_Get) = true)
    (in_Get : PySem.W.findIn K (.ref A_Get) "__init__" = some (some (.ref f_Row_init)))
    (na_Get_parts : PySem.W.findIn K (.ref A_Get) "parts" = some none)
    (me_Get_is_right : PySem.W.findIn K (.ref A_Get) "is_right" = some (some (.ref f_Get_is_right)))
    (x_Call : PySem.W.nsIn K mainGlobals "Call" = some (some (.ref A_Call)))
    (pg_Call : PySem.W.plainGet K A_Call Str.empty = true)
    (hd_Call : PySem.W.hasDictIn K A_Call = true)
    (po_Call : PySem.W.plainOver K A_Call = true)
    (sa_Call : PySem.W.findIn K (.ref A_Call) "__setattr__" = some (some (.builtin "object.__setattr__")))
    (mk_Call : PySem.W.makesIn K A_Call = true)
    (kc_Call : PySem.W.keepIn K (.ref A_Call) = true)
    (in_Call : PySem.W.findIn K (.ref A_Call) "__init__" = some (some (.ref f_Row_init)))
    (na_Call_parts : PySem.W.findIn K (.ref A_Call) "parts" = some none)
    (me_Call_is_right : PySem.W.findIn K (.ref A_Call) "is_right" = some (some (.ref f_Call_is_right)))
    (a_is_number : PySem.W.nsIn K mainGlobals "is_number" = some (some (.ref f_is_number)))
    (l_is_number : K.lookup f_is_number = some ⟨oc_is_number, od_is_number, .func (PySem.W.fnOf "is_number" "is_number" (defArgs s_is_number) (defBody s_is_number) (defScope s_is_number) .none kV_is_number dc_is_number pm_is_number an_is_number cd_is_number ct_is_number), sl_is_number⟩)
    (c_is_number : PySem.W.codeIn K cd_is_number "is_number" = true)
    (k_is_number : PySem.W.keepIn K (.ref f_is_number) = true)
    (a_is_name : PySem.W.nsIn K mainGlobals "is_name" = some (some (.ref f_is_name)))
    (l_is_name : K.lookup f_is_name = some ⟨oc_is_name, od_is_name, .func (PySem.W.fnOf "is_name" "is_name" (defArgs s_is_name) (defBody s_is_name) (defScope s_is_name) .none kV_is_name dc_is_name pm_is_name an_is_name cd_is_name ct_is_name), sl_is_name⟩)
    (c_is_name : PySem.W.codeIn K cd_is_name "is_name" = true)
    (k_is_name : PySem.W.keepIn K (.ref f_is_name) = true)
    (a_is_operand : PySem.W.nsIn K mainGlobals "is_operand" = some (some (.ref f_is_operand)))
    (l_is_operand : K.lookup f_is_operand = some ⟨oc_is_operand, od_is_operand, .func (PySem.W.fnOf "is_operand" "is_operand" (defArgs s_is_operand) (defBody s_is_operand) (defScope s_is_operand) .none kV_is_operand dc_is_operand pm_is_operand an_is_operand cd_is_operand ct_is_operand), sl_is_operand⟩)
    (c_is_operand : PySem.W.codeIn K cd_is_operand "is_operand" = true)
    (k_is_operand : PySem.W.keepIn K (.ref f_is_operand) = true)
    (a_is_field : PySem.W.nsIn K mainGlobals "is_field" = some (some (.ref f_is_field)))
    (l_is_field : K.lookup f_is_field = some ⟨oc_is_field, od_is_field, .func (PySem.W.fnOf "is_field" "is_field" (defArgs s_is_field) (defBody s_is_field) (defScope s_is_field) .none kV_is_field dc_is_field pm_is_field an_is_field cd_is_field ct_is_field), sl_is_field⟩)
    (c_is_field : PySem.W.codeIn K cd_is_field "is_field" = true)
    (k_is_field : PySem.W.keepIn K (.ref f_is_field) = true)
    (a_names_among : PySem.W.nsIn K mainGlobals "names_among" = some (some (.ref f_names_among)))
    (l_names_among : K.lookup f_names_among = some ⟨oc_names_among, od_names_among, .func (PySem.W.fnOf "names_among" "names_among" (defArgs s_names_among) (defBody s_names_among) (defScope s_names_among) .none kV_names_among dc_names_among pm_names_among an_names_among cd_names_among ct_names_among), sl_names_among⟩)
    (c_names_among : PySem.W.codeIn K cd_names_among "names_among" = true)
    (k_names_among : PySem.W.keepIn K (.ref f_names_among) = true)
    (a_all_operands : PySem.W.nsIn K mainGlobals "all_operands" = some (some (.ref f_all_operands)))
    (l_all_operands : K.lookup f_all_operands = some ⟨oc_all_operands, od_all_operands, .func (PySem.W.fnOf "all_operands" "all_operands" (defArgs s_all_operands) (defBody s_all_operands) (defScope s_all_operands) .none kV_all_operands dc_all_operands pm_all_operands an_all_operands cd_all_operands ct_all_operands), sl_all_operands⟩)
    (c_all_operands : PySem.W.codeIn K cd_all_operands "all_operands" = true)
    (k_all_operands : PySem.W.keepIn K (.ref f_all_operands) = true)
    (i_Row_init : PySem.W.isFn K (.ref f_Row_init) = true)
    (l_Row_init : K.lookup f_Row_init = some ⟨oc_Row_init, od_Row_init, .func (PySem.W.fnOf "__init__" "Row.__init__" (defArgs s_Row_init) (defBody s_Row_init) (defScope s_Row_init) .none kV_Row_init dc_Row_init pm_Row_init an_Row_init cd_Row_init ct_Row_init), sl_Row_init⟩)
    (c_Row_init : PySem.W.codeIn K cd_Row_init "Row.__init__" = true)
    (k_Row_init : PySem.W.keepIn K (.ref f_Row_init) = true)
    (i_Row_is_right : PySem.W.isFn K (.ref f_Row_is_right) = true)
    (l_Row_is_right : K.lookup f_Row_is_right = some ⟨oc_Row_is_right, od_Row_is_right, .func (PySem.W.fnOf "is_right" "Row.is_right" (defArgs s_Row_is_right) (defBody s_Row_is_right) (defScope s_Row_is_right) .none kV_Row_is_right dc_Row_is_right pm_Row_is_right an_Row_is_right cd_Row_is_right ct_Row_is_right), sl_Row_is_right⟩)
    (c_Row_is_right : PySem.W.codeIn K cd_Row_is_right "Row.is_right" = true)
    (k_Row_is_right : PySem.W.keepIn K (.ref f_Row_is_right) = true)
    (i_Bare_is_right : PySem.W.isFn K (.ref f_Bare_is_right) = true)
    (l_Bare_is_right : K.lookup f_Bare_is_right = some ⟨oc_Bare_is_right, od_Bare_is_right, .func (PySem.W.fnOf "is_right" "Bare.is_right" (defArgs s_Bare_is_right) (defBody s_Bare_is_right) (defScope s_Bare_is_right) .none kV_Bare_is_right dc_Bare_is_right pm_Bare_is_right an_Bare_is_right cd_Bare_is_right ct_Bare_is_right), sl_Bare_is_right⟩)
    (c_Bare_is_right : PySem.W.codeIn K cd_Bare_is_right "Bare.is_right" = true)
    (k_Bare_is_right : PySem.W.keepIn K (.ref f_Bare_is_right) = true)
    (i_Def_is_right : PySem.W.isFn K (.ref f_Def_is_right) = true)
    (l_Def_is_right : K.lookup f_Def_is_right = some ⟨oc_Def_is_right, od_Def_is_right, .func (PySem.W.fnOf "is_right" "Def.is_right" (defArgs s_Def_is_right) (defBody s_Def_is_right) (defScope s_Def_is_right) .none kV_Def_is_right dc_Def_is_right pm_Def_is_right an_Def_is_right cd_Def_is_right ct_Def_is_right), sl_Def_is_right⟩)
    (c_Def_is_right : PySem.W.codeIn K cd_Def_is_right "Def.is_right" = true)
    (k_Def_is_right : PySem.W.keepIn K (.ref f_Def_is_right) = true)
    (i_Give_is_right : PySem.W.isFn K (.ref f_Give_is_right) = true)
    (l_Give_is_right : K.lookup f_Give_is_right = some ⟨oc_Give_is_right, od_Give_is_right, .func (PySem.W.fnOf "is_right" "Give.is_right" (defArgs s_Give_is_right) (defBody s_Give_is_right) (defScope s_Give_is_right) .none kV_Give_is_right dc_Give_is_right pm_Give_is_right an_Give_is_right cd_Give_is_right ct_Give_is_right), sl_Give_is_right⟩)
    (c_Give_is_right : PySem.W.codeIn K cd_Give_is_right "Give.is_right" = true)
    (k_Give_is_right : PySem.W.keepIn K (.ref f_Give_is_right) = true)
    (i_Fail_is_right : PySem.W.isFn K (.ref f_Fail_is_right) = true)
    (l_Fail_is_right : K.lookup f_Fail_is_right = some ⟨oc_Fail_is_right, od_Fail_is_right, .func (PySem.W.fnOf "is_right" "Fail.is_right" (defArgs s_Fail_is_right) (defBody s_Fail_is_right) (defScope s_Fail_is_right) .none kV_Fail_is_right dc_Fail_is_right pm_Fail_is_right an_Fail_is_right cd_Fail_is_right ct_Fail_is_right), sl_Fail_is_right⟩)
    (c_Fail_is_right : PySem.W.codeIn K cd_Fail_is_right "Fail.is_right" = true)
    (k_Fail_is_right : PySem.W.keepIn K (.ref f_Fail_is_right) = true)
    (i_Set_is_right : PySem.W.isFn K (.ref f_Set_is_right) = true)
    (l_Set_is_right : K.lookup f_Set_is_right = some ⟨oc_Set_is_right, od_Set_is_right, .func (PySem.W.fnOf "is_right" "Set.is_right" (defArgs s_Set_is_right) (defBody s_Set_is_right) (defScope s_Set_is_right) .none kV_Set_is_right dc_Set_is_right pm_Set_is_right an_Set_is_right cd_Set_is_right ct_Set_is_right), sl_Set_is_right⟩)
    (c_Set_is_right : PySem.W.codeIn K cd_Set_is_right "Set.is_right" = true)
    (k_Set_is_right : PySem.W.keepIn K (.ref f_Set_is_right) = true)
    (i_New_is_right : PySem.W.isFn K (.ref f_New_is_right) = true)
    (l_New_is_right : K.lookup f_New_is_right = some ⟨oc_New_is_right, od_New_is_right, .func (PySem.W.fnOf "is_right" "New.is_right" (defArgs s_New_is_right) (defBody s_New_is_right) (defScope s_New_is_right) .none kV_New_is_right dc_New_is_right pm_New_is_right an_New_is_right cd_New_is_right ct_New_is_right), sl_New_is_right⟩)
    (c_New_is_right : PySem.W.codeIn K cd_New_is_right "New.is_right" = true)
    (k_New_is_right : PySem.W.keepIn K (.ref f_New_is_right) = true)
    (i_Put_is_right : PySem.W.isFn K (.ref f_Put_is_right) = true)
    (l_Put_is_right : K.lookup f_Put_is_right = some ⟨oc_Put_is_right, od_Put_is_right, .func (PySem.W.fnOf "is_right" "Put.is_right" (defArgs s_Put_is_right) (defBody s_Put_is_right) (defScope s_Put_is_right) .none kV_Put_is_right dc_Put_is_right pm_Put_is_right an_Put_is_right cd_Put_is_right ct_Put_is_right), sl_Put_is_right⟩)
    (c_Put_is_right : PySem.W.codeIn K cd_Put_is_right "Put.is_right" = true)
    (k_Put_is_right : PySem.W.keepIn K (.ref f_Put_is_right) = true)
    (i_Do_is_right : PySem.W.isFn K (.ref f_Do_is_right) = true)
    (l_Do_is_right : K.lookup f_Do_is_right = some ⟨oc_Do_is_right, od_Do_is_right, .func (PySem.W.fnOf "is_right" "Do.is_right" (defArgs s_Do_is_right) (defBody s_Do_is_right) (defScope s_Do_is_right) .none kV_Do_is_right dc_Do_is_right pm_Do_is_right an_Do_is_right cd_Do_is_right ct_Do_is_right), sl_Do_is_right⟩)
    (c_Do_is_right : PySem.W.codeIn K cd_Do_is_right "Do.is_right" = true)
    (k_Do_is_right : PySem.W.keepIn K (.ref f_Do_is_right) = true)
    (i_Get_is_right : PySem.W.isFn K (.ref f_Get_is_right) = true)
    (l_Get_is_right : K.lookup f_Get_is_right = some ⟨oc_Get_is_right, od_Get_is_right, .func (PySem.W.fnOf "is_right" "Get.is_right" (defArgs s_Get_is_right) (defBody s_Get_is_right) (defScope s_Get_is_right) .none kV_Get_is_right dc_Get_is_right pm_Get_is_right an_Get_is_right cd_Get_is_right ct_Get_is_right), sl_Get_is_right⟩)
    (c_Get_is_right : PySem.W.codeIn K cd_Get_is_right "Get.is_right" = true)
    (k_Get_is_right : PySem.W.keepIn K (.ref f_Get_is_right) = true)
    (i_Call_is_right : PySem.W.isFn K (.ref f_Call_is_right) = true)
    (l_Call_is_right : K.lookup f_Call_is_right = some ⟨oc_Call_is_right, od_Call_is_right, .func (PySem.W.fnOf "is_right" "Call.is_right" (defArgs s_Call_is_right) (defBody s_Call_is_right) (defScope s_Call_is_right) .none kV_Call_is_right dc_Call_is_right pm_Call_is_right an_Call_is_right cd_Call_is_right ct_Call_is_right), sl_Call_is_right⟩)
    (c_Call_is_right : PySem.W.codeIn K cd_Call_is_right "Call.is_right" = true)
    (k_Call_is_right : PySem.W.keepIn K (.ref f_Call_is_right) = true)
    (a_row_of : PySem.W.nsIn K mainGlobals "row_of" = some (some (.ref f_row_of)))
    (l_row_of : K.lookup f_row_of = some ⟨oc_row_of, od_row_of, .func (PySem.W.fnOf "row_of" "row_of" (defArgs s_row_of) (defBody s_row_of) (defScope s_row_of) .none kV_row_of dc_row_of pm_row_of an_row_of cd_row_of ct_row_of), sl_row_of⟩)
    (c_row_of : PySem.W.codeIn K cd_row_of "row_of" = true)
    (k_row_of : PySem.W.keepIn K (.ref f_row_of) = true)
    (a_is_row : PySem.W.nsIn K mainGlobals "is_row" = some (some (.ref f_is_row)))
    (l_is_row : K.lookup f_is_row = some ⟨oc_is_row, od_is_row, .func (PySem.W.fnOf "is_row" "is_row" (defArgs s_is_row) (defBody s_is_row) (defScope s_is_row) .none kV_is_row dc_is_row pm_is_row an_is_row cd_is_row ct_is_row), sl_is_row⟩)
    (c_is_row : PySem.W.codeIn K cd_is_row "is_row" = true)
    (k_is_row : PySem.W.keepIn K (.ref f_is_row) = true)
    (a_word_fits : PySem.W.nsIn K mainGlobals "word_fits" = some (some (.ref f_word_fits)))
    (l_word_fits : K.lookup f_word_fits = some ⟨oc_word_fits, od_word_fits, .func (PySem.W.fnOf "word_fits" "word_fits" (defArgs s_word_fits) (defBody s_word_fits) (defScope s_word_fits) .none kV_word_fits dc_word_fits pm_word_fits an_word_fits cd_word_fits ct_word_fits), sl_word_fits⟩)
    (c_word_fits : PySem.W.codeIn K cd_word_fits "word_fits" = true)
    (k_word_fits : PySem.W.keepIn K (.ref f_word_fits) = true)
    (a_check_blocks : PySem.W.nsIn K mainGlobals "check_blocks" = some (some (.ref f_check_blocks)))
    (l_check_blocks : K.lookup f_check_blocks = some ⟨oc_check_blocks, od_check_blocks, .func (PySem.W.fnOf "check_blocks" "check_blocks" (defArgs s_check_blocks) (defBody s_check_blocks) (defScope s_check_blocks) .none kV_check_blocks dc_check_blocks pm_check_blocks an_check_blocks cd_check_blocks ct_check_blocks), sl_check_blocks⟩)
    (c_check_blocks : PySem.W.codeIn K cd_check_blocks "check_blocks" = true)
    (k_check_blocks : PySem.W.keepIn K (.ref f_check_blocks) = true)
    (a_def_of : PySem.W.nsIn K mainGlobals "def_of" = some (some (.ref f_def_of)))
    (l_def_of : K.lookup f_def_of = some ⟨oc_def_of, od_def_of, .func (PySem.W.fnOf "def_of" "def_of" (defArgs s_def_of) (defBody s_def_of) (defScope s_def_of) .none kV_def_of dc_def_of pm_def_of an_def_of cd_def_of ct_def_of), sl_def_of⟩)
    (c_def_of : PySem.W.codeIn K cd_def_of "def_of" = true)
    (k_def_of : PySem.W.keepIn K (.ref f_def_of) = true)
    (a_check_calls : PySem.W.nsIn K mainGlobals "check_calls" = some (some (.ref f_check_calls)))
    (l_check_calls : K.lookup f_check_calls = some ⟨oc_check_calls, od_check_calls, .func (PySem.W.fnOf "check_calls" "check_calls" (defArgs s_check_calls) (defBody s_check_calls) (defScope s_check_calls) .none kV_check_calls dc_check_calls pm_check_calls an_check_calls cd_check_calls ct_check_calls), sl_check_calls⟩)
    (c_check_calls : PySem.W.codeIn K cd_check_calls "check_calls" = true)
    (k_check_calls : PySem.W.keepIn K (.ref f_check_calls) = true)
    (a_program_of : PySem.W.nsIn K mainGlobals "program_of" = some (some (.ref f_program_of)))
    (l_program_of : K.lookup f_program_of = some ⟨oc_program_of, od_program_of, .func (PySem.W.fnOf "program_of" "program_of" (defArgs s_program_of) (defBody s_program_of) (defScope s_program_of) .none kV_program_of dc_program_of pm_program_of an_program_of cd_program_of ct_program_of), sl_program_of⟩)
    (c_program_of : PySem.W.codeIn K cd_program_of "program_of" = true)
    (k_program_of : PySem.W.keepIn K (.ref f_program_of) = true)
    (a__law_cell_at : PySem.W.nsIn K mainGlobals "_law_cell_at" = some (some (.ref f__law_cell_at)))
    (l__law_cell_at : K.lookup f__law_cell_at = some ⟨oc__law_cell_at, od__law_cell_at, .func (PySem.W.fnOf "_law_cell_at" "_law_cell_at" (defArgs s__law_cell_at) (defBody s__law_cell_at) (defScope s__law_cell_at) .none kV__law_cell_at dc__law_cell_at pm__law_cell_at an__law_cell_at cd__law_cell_at ct__law_cell_at), sl__law_cell_at⟩)
    (c__law_cell_at : PySem.W.codeIn K cd__law_cell_at "_law_cell_at" = true)
    (k__law_cell_at : PySem.W.keepIn K (.ref f__law_cell_at) = true)
    (a__law_words : PySem.W.nsIn K mainGlobals "_law_words" = some (some (.ref f__law_words)))
    (l__law_words : K.lookup f__law_words = some ⟨oc__law_words, od__law_words, .func (PySem.W.fnOf "_law_words" "_law_words" (defArgs s__law_words) (defBody s__law_words) (defScope s__law_words) .none kV__law_words dc__law_words pm__law_words an__law_words cd__law_words ct__law_words), sl__law_words⟩)
    (c__law_words : PySem.W.codeIn K cd__law_words "_law_words" = true)
    (k__law_words : PySem.W.keepIn K (.ref f__law_words) = true)
    (a__law_operand : PySem.W.nsIn K mainGlobals "_law_operand" = some (some (.ref f__law_operand)))
    (l__law_operand : K.lookup f__law_operand = some ⟨oc__law_operand, od__law_operand, .func (PySem.W.fnOf "_law_operand" "_law_operand" (defArgs s__law_operand) (defBody s__law_operand) (defScope s__law_operand) .none kV__law_operand dc__law_operand pm__law_operand an__law_operand cd__law_operand ct__law_operand), sl__law_operand⟩)
    (c__law_operand : PySem.W.codeIn K cd__law_operand "_law_operand" = true)
    (k__law_operand : PySem.W.keepIn K (.ref f__law_operand) = true)
    (a__law_key : PySem.W.nsIn K mainGlobals "_law_key" = some (some (.ref f__law_key)))
    (l__law_key : K.lookup f__law_key = some ⟨oc__law_key, od__law_key, .func (PySem.W.fnOf "_law_key" "_law_key" (defArgs s__law_key) (defBody s__law_key) (defScope s__law_key) .none kV__law_key dc__law_key pm__law_key an__law_key cd__law_key ct__law_key), sl__law_key⟩)
    (c__law_key : PySem.W.codeIn K cd__law_key "_law_key" = true)
    (k__law_key : PySem.W.keepIn K (.ref f__law_key) = true)
    (a__law_call : PySem.W.nsIn K mainGlobals "_law_call" = some (some (.ref f__law_call)))
    (l__law_call : K.lookup f__law_call = some ⟨oc__law_call, od__law_call, .func (PySem.W.fnOf "_law_call" "_law_call" (defArgs s__law_call) (defBody s__law_call) (defScope s__law_call) .none kV__law_call dc__law_call pm__law_call an__law_call cd__law_call ct__law_call), sl__law_call⟩)
    (c__law_call : PySem.W.codeIn K cd__law_call "_law_call" = true)
    (k__law_call : PySem.W.keepIn K (.ref f__law_call) = true)
    (a__law_simple : PySem.W.nsIn K mainGlobals "_law_simple" = some (some (.ref f__law_simple)))
    (l__law_simple : K.lookup f__law_simple = some ⟨oc__law_simple, od__law_simple, .func (PySem.W.fnOf "_law_simple" "_law_simple" (defArgs s__law_simple) (defBody s__law_simple) (defScope s__law_simple) .none kV__law_simple dc__law_simple pm__law_simple an__law_simple cd__law_simple ct__law_simple), sl__law_simple⟩)
    (c__law_simple : PySem.W.codeIn K cd__law_simple "_law_simple" = true)
    (k__law_simple : PySem.W.keepIn K (.ref f__law_simple) = true)
    (a__law_lay : PySem.W.nsIn K mainGlobals "_law_lay" = some (some (.ref f__law_lay)))
    (l__law_lay : K.lookup f__law_lay = some ⟨oc__law_lay, od__law_lay, .func (PySem.W.fnOf "_law_lay" "_law_lay" (defArgs s__law_lay) (defBody s__law_lay) (defScope s__law_lay) .none kV__law_lay dc__law_lay pm__law_lay an__law_lay cd__law_lay ct__law_lay), sl__law_lay⟩)
    (c__law_lay : PySem.W.codeIn K cd__law_lay "_law_lay" = true)
    (k__law_lay : PySem.W.keepIn K (.ref f__law_lay) = true)
    (a__law_plan : PySem.W.nsIn K mainGlobals "_law_plan" = some (some (.ref f__law_plan)))
    (l__law_plan : K.lookup f__law_plan = some ⟨oc__law_plan, od__law_plan, .func (PySem.W.fnOf "_law_plan" "_law_plan" (defArgs s__law_plan) (defBody s__law_plan) (defScope s__law_plan) .none kV__law_plan dc__law_plan pm__law_plan an__law_plan cd__law_plan ct__law_plan), sl__law_plan⟩)
    (c__law_plan : PySem.W.codeIn K cd__law_plan "_law_plan" = true)
    (k__law_plan : PySem.W.keepIn K (.ref f__law_plan) = true)
    (a__law_program : PySem.W.nsIn K mainGlobals "_law_program" = some (some (.ref f__law_program)))
    (l__law_program : K.lookup f__law_program = some ⟨oc__law_program, od__law_program, .func (PySem.W.fnOf "_law_program" "_law_program" (defArgs s__law_program) (defBody s__law_program) (defScope s__law_program) .none kV__law_program dc__law_program pm__law_program an__law_program cd__law_program ct__law_program), sl__law_program⟩)
    (c__law_program : PySem.W.codeIn K cd__law_program "_law_program" = true)
    (k__law_program : PySem.W.keepIn K (.ref f__law_program) = true)
    (a__law_which : PySem.W.nsIn K mainGlobals "_law_which" = some (some (.ref f__law_which)))
    (l__law_which : K.lookup f__law_which = some ⟨oc__law_which, od__law_which, .func (PySem.W.fnOf "_law_which" "_law_which" (defArgs s__law_which) (defBody s__law_which) (defScope s__law_which) .none kV__law_which dc__law_which pm__law_which an__law_which cd__law_which ct__law_which), sl__law_which⟩)
    (c__law_which : PySem.W.codeIn K cd__law_which "_law_which" = true)
    (k__law_which : PySem.W.keepIn K (.ref f__law_which) = true)
    (a__law_outcome : PySem.W.nsIn K mainGlobals "_law_outcome" = some (some (.ref f__law_outcome)))
    (l__law_outcome : K.lookup f__law_outcome = some ⟨oc__law_outcome, od__law_outcome, .func (PySem.W.fnOf "_law_outcome" "_law_outcome" (defArgs s__law_outcome) (defBody s__law_outcome) (defScope s__law_outcome) .none kV__law_outcome dc__law_outcome pm__law_outcome an__law_outcome cd__law_outcome ct__law_outcome), sl__law_outcome⟩)
    (c__law_outcome : PySem.W.codeIn K cd__law_outcome "_law_outcome" = true)
    (k__law_outcome : PySem.W.keepIn K (.ref f__law_outcome) = true)
    (a__law_turned : PySem.W.nsIn K mainGlobals "_law_turned" = some (some (.ref f__law_turned)))
    (l__law_turned : K.lookup f__law_turned = some ⟨oc__law_turned, od__law_turned, .func (PySem.W.fnOf "_law_turned" "_law_turned" (defArgs s__law_turned) (defBody s__law_turned) (defScope s__law_turned) .none kV__law_turned dc__law_turned pm__law_turned an__law_turned cd__law_turned ct__law_turned), sl__law_turned⟩)
    (c__law_turned : PySem.W.codeIn K cd__law_turned "_law_turned" = true)
    (k__law_turned : PySem.W.keepIn K (.ref f__law_turned) = true)
    (a__law_open : PySem.W.nsIn K mainGlobals "_law_open" = some (some (.ref f__law_open)))
    (l__law_open : K.lookup f__law_open = some ⟨oc__law_open, od__law_open, .func (PySem.W.fnOf "_law_open" "_law_open" (defArgs s__law_open) (defBody s__law_open) (defScope s__law_open) .none kV__law_open dc__law_open pm__law_open an__law_open cd__law_open ct__law_open), sl__law_open⟩)
    (c__law_open : PySem.W.codeIn K cd__law_open "_law_open" = true)
    (k__law_open : PySem.W.keepIn K (.ref f__law_open) = true)
    (a__law_breaks : PySem.W.nsIn K mainGlobals "_law_breaks" = some (some (.ref f__law_breaks)))
    (l__law_breaks : K.lookup f__law_breaks = some ⟨oc__law_breaks, od__law_breaks, .func (PySem.W.fnOf "_law_breaks" "_law_breaks" (defArgs s__law_breaks) (defBody s__law_breaks) (defScope s__law_breaks) .none kV__law_breaks dc__law_breaks pm__law_breaks an__law_breaks cd__law_breaks ct__law_breaks), sl__law_breaks⟩)
    (c__law_breaks : PySem.W.codeIn K cd__law_breaks "_law_breaks" = true)
    (k__law_breaks : PySem.W.keepIn K (.ref f__law_breaks) = true)
    (a__law_due : PySem.W.nsIn K mainGlobals "_law_due" = some (some (.ref f__law_due)))
    (l__law_due : K.lookup f__law_due = some ⟨oc__law_due, od__law_due, .func (PySem.W.fnOf "_law_due" "_law_due" (defArgs s__law_due) (defBody s__law_due) (defScope s__law_due) .none kV__law_due dc__law_due pm__law_due an__law_due cd__law_due ct__law_due), sl__law_due⟩)
    (c__law_due : PySem.W.codeIn K cd__law_due "_law_due" = true)
    (k__law_due : PySem.W.keepIn K (.ref f__law_due) = true)
    (a_law : PySem.W.nsIn K mainGlobals "law" = some (some (.ref f_law)))
    (l_law : K.lookup f_law = some ⟨oc_law, od_law, .func (PySem.W.fnOf "law" "law" (defArgs s_law) (defBody s_law) (defScope s_law) .none kV_law dc_law pm_law an_law cd_law ct_law), sl_law⟩)
    (c_law : PySem.W.codeIn K cd_law "law" = true)
    (k_law : PySem.W.keepIn K (.ref f_law) = true)
    {A_SliceError A_TooGreat A_NoPlace A_Unlike A_NoFault A_Done A_NoRow A_NoBlock A_NoCall A_NoText : Addr}
    {nm_NoRow qe_NoRow : Str} {Ne_NoRow fi_NoRow : Addr} {bs_NoRow : List Value} {sn_NoRow : List Str} {sb_NoRow : List Value} {ab_NoRow : Bool} {cc_NoRow : Option Bool} {de_NoRow : Option Addr} {m0_NoRow m1_NoRow m2_NoRow m3_NoRow m5_NoRow : Option Value}
    {ic_NoRow ido_NoRow ipm_NoRow icd_NoRow ict_NoRow : Value} {iod_NoRow ian_NoRow : Option Addr} {isl_NoRow : Array (Option Value)}
    {nm_NoBlock qe_NoBlock : Str} {Ne_NoBlock fi_NoBlock : Addr} {bs_NoBlock : List Value} {sn_NoBlock : List Str} {sb_NoBlock : List Value} {ab_NoBlock : Bool} {cc_NoBlock : Option Bool} {de_NoBlock : Option Addr} {m0_NoBlock m1_NoBlock m2_NoBlock m3_NoBlock m5_NoBlock : Option Value}
    {ic_NoBlock ido_NoBlock ipm_NoBlock icd_NoBlock ict_NoBlock : Value} {iod_NoBlock ian_NoBlock : Option Addr} {isl_NoBlock : Array (Option Value)}
    {nm_NoCall qe_NoCall : Str} {Ne_NoCall fi_NoCall : Addr} {bs_NoCall : List Value} {sn_NoCall : List Str} {sb_NoCall : List Value} {ab_NoCall : Bool} {cc_NoCall : Option Bool} {de_NoCall : Option Addr} {m0_NoCall m1_NoCall m2_NoCall m3_NoCall m5_NoCall : Option Value}
    {ic_NoCall ido_NoCall ipm_NoCall icd_NoCall ict_NoCall : Value} {iod_NoCall ian_NoCall : Option Addr} {isl_NoCall : Array (Option Value)}
    (x_SliceError : PySem.W.nsIn K mainGlobals "SliceError" = some (some (.ref A_SliceError)))
    (x_TooGreat : PySem.W.nsIn K mainGlobals "TooGreat" = some (some (.ref A_TooGreat)))
    (x_NoPlace : PySem.W.nsIn K mainGlobals "NoPlace" = some (some (.ref A_NoPlace)))
    (x_Unlike : PySem.W.nsIn K mainGlobals "Unlike" = some (some (.ref A_Unlike)))
    (x_NoFault : PySem.W.nsIn K mainGlobals "NoFault" = some (some (.ref A_NoFault)))
    (x_Done : PySem.W.nsIn K mainGlobals "Done" = some (some (.ref A_Done)))
    (x_NoRow : PySem.W.nsIn K mainGlobals "NoRow" = some (some (.ref A_NoRow)))
    (x_NoBlock : PySem.W.nsIn K mainGlobals "NoBlock" = some (some (.ref A_NoBlock)))
    (x_NoCall : PySem.W.nsIn K mainGlobals "NoCall" = some (some (.ref A_NoCall)))
    (x_NoText : PySem.W.nsIn K mainGlobals "NoText" = some (some (.ref A_NoText)))
    (eE_SliceError : PySem.W.subIn K (.ref A_SliceError) (.type "BaseException") = some true)
    (tE_SliceError : PySem.W.typeIn K (.ref A_SliceError) = some (.type "type"))
    (hE_SliceError : PySem.W.hasDictIn K A_SliceError = true)
    (eE_TooGreat : PySem.W.subIn K (.ref A_TooGreat) (.type "BaseException") = some true)
    (tE_TooGreat : PySem.W.typeIn K (.ref A_TooGreat) = some (.type "type"))
    (hE_TooGreat : PySem.W.hasDictIn K A_TooGreat = true)
    (tE_NoPlace : PySem.W.typeIn K (.ref A_NoPlace) = some (.type "type"))
    (hE_NoPlace : PySem.W.hasDictIn K A_NoPlace = true)
    (tE_Unlike : PySem.W.typeIn K (.ref A_Unlike) = some (.type "type"))
    (hE_Unlike : PySem.W.hasDictIn K A_Unlike = true)
    (tE_NoFault : PySem.W.typeIn K (.ref A_NoFault) = some (.type "type"))
    (hE_NoFault : PySem.W.hasDictIn K A_NoFault = true)
    (tE_Done : PySem.W.typeIn K (.ref A_Done) = some (.type "type"))
    (hE_Done : PySem.W.hasDictIn K A_Done = true)
    (eE_NoRow : PySem.W.subIn K (.ref A_NoRow) (.type "BaseException") = some true)
    (tE_NoRow : PySem.W.typeIn K (.ref A_NoRow) = some (.type "type"))
    (hE_NoRow : PySem.W.hasDictIn K A_NoRow = true)
    (eE_NoBlock : PySem.W.subIn K (.ref A_NoBlock) (.type "BaseException") = some true)
    (tE_NoBlock : PySem.W.typeIn K (.ref A_NoBlock) = some (.type "type"))
    (hE_NoBlock : PySem.W.hasDictIn K A_NoBlock = true)
    (eE_NoCall : PySem.W.subIn K (.ref A_NoCall) (.type "BaseException") = some true)
    (tE_NoCall : PySem.W.typeIn K (.ref A_NoCall) = some (.type "type"))
    (hE_NoCall : PySem.W.hasDictIn K A_NoCall = true)
    (tE_NoText : PySem.W.typeIn K (.ref A_NoText) = some (.type "type"))
    (hE_NoText : PySem.W.hasDictIn K A_NoText = true)
    (kE_TooGreat : PySem.W.keepIn K (.ref A_TooGreat) = true)
    (gE_TooGreat : PySem.W.findIn K (.ref A_TooGreat) "__getattribute__" = some (some (.builtin "BaseException.__getattribute__")))
    (ggE_TooGreat : PySem.W.findIn K (.ref A_TooGreat) "__getattr__" = some none)
    (cE_TooGreat : PySem.W.findIn K (.ref A_TooGreat) "__class__" = some (some (.builtin "object.__class__")))
    (mE_TooGreat : PySem.W.mroIn K A_TooGreat (.type "object") = some true)
    (vE_TooGreat : PySem.W.excIn K A_TooGreat [.type "ValueError", .type "Exception", .type "BaseException", .type "object"] "ValueError.__new__" = true)
    (kE_NoRow : PySem.W.keepIn K (.ref A_NoRow) = true)
    (gE_NoRow : PySem.W.findIn K (.ref A_NoRow) "__getattribute__" = some (some (.builtin "BaseException.__getattribute__")))
    (ggE_NoRow : PySem.W.findIn K (.ref A_NoRow) "__getattr__" = some none)
    (cE_NoRow : PySem.W.findIn K (.ref A_NoRow) "__class__" = some (some (.builtin "object.__class__")))
    (mE_NoRow : PySem.W.mroIn K A_NoRow (.type "object") = some true)
    (lE_NoRow : K.lookup A_NoRow = some (excClassObj nm_NoRow qe_NoRow A_NoRow Ne_NoRow bs_NoRow [.ref A_SliceError, .type "ValueError", .type "Exception", .type "BaseException", .type "object"] true sn_NoRow sb_NoRow ab_NoRow cc_NoRow de_NoRow m0_NoRow m1_NoRow m2_NoRow m3_NoRow m5_NoRow "ValueError.__new__"))
    (sE_NoRow : PySem.W.findIn K (.ref A_NoRow) "__setattr__" = some (some (.builtin "object.__setattr__")))
    (pE_NoRow : PySem.W.findIn K (.ref A_NoRow) "place" = some none)
    (iE_NoRow : PySem.W.findIn K (.ref A_NoRow) "__init__" = some (some (.ref fi_NoRow)))
    (jE_NoRow : PySem.W.typeIn K (.ref fi_NoRow) = some (.type "function"))
    (fE_NoRow : K.lookup fi_NoRow = some ⟨ic_NoRow, iod_NoRow, .func (PySem.W.fnOf "__init__" "NoRow.__init__" (defArgs s_e_NoRow) (defBody s_e_NoRow) (defScope s_e_NoRow) .none .none ido_NoRow ipm_NoRow ian_NoRow icd_NoRow ict_NoRow), isl_NoRow⟩)
    (qE_NoRow : PySem.W.codeIn K icd_NoRow "NoRow.__init__" = true)
    (kE_NoBlock : PySem.W.keepIn K (.ref A_NoBlock) = true)
    (gE_NoBlock : PySem.W.findIn K (.ref A_NoBlock) "__getattribute__" = some (some (.builtin "BaseException.__getattribute__")))
    (ggE_NoBlock : PySem.W.findIn K (.ref A_NoBlock) "__getattr__" = some none)
    (cE_NoBlock : PySem.W.findIn K (.ref A_NoBlock) "__class__" = some (some (.builtin "object.__class__")))
    (mE_NoBlock : PySem.W.mroIn K A_NoBlock (.type "object") = some true)
    (lE_NoBlock : K.lookup A_NoBlock = some (excClassObj nm_NoBlock qe_NoBlock A_NoBlock Ne_NoBlock bs_NoBlock [.ref A_SliceError, .type "ValueError", .type "Exception", .type "BaseException", .type "object"] true sn_NoBlock sb_NoBlock ab_NoBlock cc_NoBlock de_NoBlock m0_NoBlock m1_NoBlock m2_NoBlock m3_NoBlock m5_NoBlock "ValueError.__new__"))
    (sE_NoBlock : PySem.W.findIn K (.ref A_NoBlock) "__setattr__" = some (some (.builtin "object.__setattr__")))
    (pE_NoBlock : PySem.W.findIn K (.ref A_NoBlock) "place" = some none)
    (iE_NoBlock : PySem.W.findIn K (.ref A_NoBlock) "__init__" = some (some (.ref fi_NoBlock)))
    (jE_NoBlock : PySem.W.typeIn K (.ref fi_NoBlock) = some (.type "function"))
    (fE_NoBlock : K.lookup fi_NoBlock = some ⟨ic_NoBlock, iod_NoBlock, .func (PySem.W.fnOf "__init__" "NoBlock.__init__" (defArgs s_e_NoBlock) (defBody s_e_NoBlock) (defScope s_e_NoBlock) .none .none ido_NoBlock ipm_NoBlock ian_NoBlock icd_NoBlock ict_NoBlock), isl_NoBlock⟩)
    (qE_NoBlock : PySem.W.codeIn K icd_NoBlock "NoBlock.__init__" = true)
    (kE_NoCall : PySem.W.keepIn K (.ref A_NoCall) = true)
    (gE_NoCall : PySem.W.findIn K (.ref A_NoCall) "__getattribute__" = some (some (.builtin "BaseException.__getattribute__")))
    (ggE_NoCall : PySem.W.findIn K (.ref A_NoCall) "__getattr__" = some none)
    (cE_NoCall : PySem.W.findIn K (.ref A_NoCall) "__class__" = some (some (.builtin "object.__class__")))
    (mE_NoCall : PySem.W.mroIn K A_NoCall (.type "object") = some true)
    (lE_NoCall : K.lookup A_NoCall = some (excClassObj nm_NoCall qe_NoCall A_NoCall Ne_NoCall bs_NoCall [.ref A_SliceError, .type "ValueError", .type "Exception", .type "BaseException", .type "object"] true sn_NoCall sb_NoCall ab_NoCall cc_NoCall de_NoCall m0_NoCall m1_NoCall m2_NoCall m3_NoCall m5_NoCall "ValueError.__new__"))
    (sE_NoCall : PySem.W.findIn K (.ref A_NoCall) "__setattr__" = some (some (.builtin "object.__setattr__")))
    (pE_NoCall : PySem.W.findIn K (.ref A_NoCall) "place" = some none)
    (iE_NoCall : PySem.W.findIn K (.ref A_NoCall) "__init__" = some (some (.ref fi_NoCall)))
    (jE_NoCall : PySem.W.typeIn K (.ref fi_NoCall) = some (.type "function"))
    (fE_NoCall : K.lookup fi_NoCall = some ⟨ic_NoCall, iod_NoCall, .func (PySem.W.fnOf "__init__" "NoCall.__init__" (defArgs s_e_NoCall) (defBody s_e_NoCall) (defScope s_e_NoCall) .none .none ido_NoCall ipm_NoCall ian_NoCall icd_NoCall ict_NoCall), isl_NoCall⟩)
    (qE_NoCall : PySem.W.codeIn K icd_NoCall "NoCall.__init__" = true)
    (oE_n : PySem.W.specialIn K (.builtin "object.__class__") "__get__" = some (some (.builtin "getset_descriptor.__get__")))
    (oE_t : PySem.W.takesIn K (.builtin "object.__class__") = some true)
    (sf_NoBlock : PySem.W.subIn K (.ref A_NoBlock) (.ref A_NoBlock) = some true)
    (kt_NoBlock_TooGreat : PySem.W.subIn K (.ref A_TooGreat) (.ref A_NoBlock) = some false)
    (kt_NoBlock_NoRow : PySem.W.subIn K (.ref A_NoRow) (.ref A_NoBlock) = some false)
    (kt_NoBlock_NoBlock : PySem.W.subIn K (.ref A_NoBlock) (.ref A_NoBlock) = some true)
    (kt_NoBlock_NoCall : PySem.W.subIn K (.ref A_NoCall) (.ref A_NoBlock) = some false)
    (sf_NoRow : PySem.W.subIn K (.ref A_NoRow) (.ref A_NoRow) = some true)
    (kt_NoRow_TooGreat : PySem.W.subIn K (.ref A_TooGreat) (.ref A_NoRow) = some false)
    (kt_NoRow_NoRow : PySem.W.subIn K (.ref A_NoRow) (.ref A_NoRow) = some true)
    (kt_NoRow_NoBlock : PySem.W.subIn K (.ref A_NoBlock) (.ref A_NoRow) = some false)
    (kt_NoRow_NoCall : PySem.W.subIn K (.ref A_NoCall) (.ref A_NoRow) = some false)
    (sf_TooGreat : PySem.W.subIn K (.ref A_TooGreat) (.ref A_TooGreat) = some true)
    (kt_TooGreat_TooGreat : PySem.W.subIn K (.ref A_TooGreat) (.ref A_TooGreat) = some true)
    (kt_TooGreat_NoRow : PySem.W.subIn K (.ref A_NoRow) (.ref A_TooGreat) = some false)
    (kt_TooGreat_NoBlock : PySem.W.subIn K (.ref A_NoBlock) (.ref A_TooGreat) = some false)
    (kt_TooGreat_NoCall : PySem.W.subIn K (.ref A_NoCall) (.ref A_TooGreat) = some false)
    (sf_NoPlace : PySem.W.subIn K (.ref A_NoPlace) (.ref A_NoPlace) = some true)
    (kt_NoPlace_TooGreat : PySem.W.subIn K (.ref A_TooGreat) (.ref A_NoPlace) = some false)
    (kt_NoPlace_NoRow : PySem.W.subIn K (.ref A_NoRow) (.ref A_NoPlace) = some false)
    (kt_NoPlace_NoBlock : PySem.W.subIn K (.ref A_NoBlock) (.ref A_NoPlace) = some false)
    (kt_NoPlace_NoCall : PySem.W.subIn K (.ref A_NoCall) (.ref A_NoPlace) = some false)
    (sf_NoText : PySem.W.subIn K (.ref A_NoText) (.ref A_NoText) = some true)
    (kt_NoText_TooGreat : PySem.W.subIn K (.ref A_TooGreat) (.ref A_NoText) = some false)
    (kt_NoText_NoRow : PySem.W.subIn K (.ref A_NoRow) (.ref A_NoText) = some false)
    (kt_NoText_NoBlock : PySem.W.subIn K (.ref A_NoBlock) (.ref A_NoText) = some false)
    (kt_NoText_NoCall : PySem.W.subIn K (.ref A_NoCall) (.ref A_NoText) = some false)
    (sf_NoCall : PySem.W.subIn K (.ref A_NoCall) (.ref A_NoCall) = some true)
    (kt_NoCall_TooGreat : PySem.W.subIn K (.ref A_TooGreat) (.ref A_NoCall) = some false)
    (kt_NoCall_NoRow : PySem.W.subIn K (.ref A_NoRow) (.ref A_NoCall) = some false)
    (kt_NoCall_NoBlock : PySem.W.subIn K (.ref A_NoBlock) (.ref A_NoCall) = some false)
    (kt_NoCall_NoCall : PySem.W.subIn K (.ref A_NoCall) (.ref A_NoCall) = some true)
    (sf_Done : PySem.W.subIn K (.ref A_Done) (.ref A_Done) = some true)
    (kt_Done_TooGreat : PySem.W.subIn K (.ref A_TooGreat) (.ref A_Done) = some false)
    (kt_Done_NoRow : PySem.W.subIn K (.ref A_NoRow) (.ref A_Done) = some false)
    (kt_Done_NoBlock : PySem.W.subIn K (.ref A_NoBlock) (.ref A_Done) = some false)
    (kt_Done_NoCall : PySem.W.subIn K (.ref A_NoCall) (.ref A_Done) = some false)
    (sf_NoFault : PySem.W.subIn K (.ref A_NoFault) (.ref A_NoFault) = some true)
    (kt_NoFault_TooGreat : PySem.W.subIn K (.ref A_TooGreat) (.ref A_NoFault) = some false)
    (kt_NoFault_NoRow : PySem.W.subIn K (.ref A_NoRow) (.ref A_NoFault) = some false)
    (kt_NoFault_NoBlock : PySem.W.subIn K (.ref A_NoBlock) (.ref A_NoFault) = some false)
    (kt_NoFault_NoCall : PySem.W.subIn K (.ref A_NoCall) (.ref A_NoFault) = some false)
    (sf_Unlike : PySem.W.subIn K (.ref A_Unlike) (.ref A_Unlike) = some true)
    (kt_Unlike_TooGreat : PySem.W.subIn K (.ref A_TooGreat) (.ref A_Unlike) = some false)
    (kt_Unlike_NoRow : PySem.W.subIn K (.ref A_NoRow) (.ref A_Unlike) = some false)
    (kt_Unlike_NoBlock : PySem.W.subIn K (.ref A_NoBlock) (.ref A_Unlike) = some false)
    (kt_Unlike_NoCall : PySem.W.subIn K (.ref A_NoCall) (.ref A_Unlike) = some false)
    (kt_ValueError_TooGreat : PySem.W.subIn K (.ref A_TooGreat) (.type "ValueError") = some true)
    (kt_ValueError_NoRow : PySem.W.subIn K (.ref A_NoRow) (.type "ValueError") = some true)
    (kt_ValueError_NoBlock : PySem.W.subIn K (.ref A_NoBlock) (.type "ValueError") = some true)
    (kt_ValueError_NoCall : PySem.W.subIn K (.ref A_NoCall) (.type "ValueError") = some true)
    (ex_SliceError_TooGreat : PySem.W.subIn K (.ref A_TooGreat) (.ref A_SliceError) = some true)
    (ex_SliceError_NoRow : PySem.W.subIn K (.ref A_NoRow) (.ref A_SliceError) = some true)
    (ex_SliceError_NoBlock : PySem.W.subIn K (.ref A_NoBlock) (.ref A_SliceError) = some true)
    (ex_SliceError_NoCall : PySem.W.subIn K (.ref A_NoCall) (.ref A_SliceError) = some true)
    (n_ValueError : PySem.W.nsIn K mainGlobals "ValueError" = some none)
    (n_int : PySem.W.nsIn K mainGlobals "int" = some none)
    (n_isinstance : PySem.W.nsIn K mainGlobals "isinstance" = some none)
    (n_bool : PySem.W.nsIn K mainGlobals "bool" = some none)
    (n_str : PySem.W.nsIn K mainGlobals "str" = some none)
    (n_len : PySem.W.nsIn K mainGlobals "len" = some none)
    (n_all : PySem.W.nsIn K mainGlobals "all" = some none)
    (n_sorted : PySem.W.nsIn K mainGlobals "sorted" = some none)
    (n_set : PySem.W.nsIn K mainGlobals "set" = some none)
    (n_tuple : PySem.W.nsIn K mainGlobals "tuple" = some none)
    (n_enumerate : PySem.W.nsIn K mainGlobals "enumerate" = some none)
    (n_list : PySem.W.nsIn K mainGlobals "list" = some none)
    (n_range : PySem.W.nsIn K mainGlobals "range" = some none)
    (n_sum : PySem.W.nsIn K mainGlobals "sum" = some none)
    {t_H : Tok}
    (g_H : PySem.W.nsIn K mainGlobals "H" = some (some (.int (1000000000000000000000000000000) t_H)))
    {t_LETTERS : Tok}
    (g_LETTERS : PySem.W.nsIn K mainGlobals "LETTERS" = some (some (.str "abcdefghijklmnopqrstuvwxyz" t_LETTERS)))
    {b_RECKONING : Addr} {dd_RECKONING : Option Addr} {us_RECKONING : Array Value} {nn_RECKONING : Nat} {sl_RECKONING : Array (Option Value)}
    (g_RECKONING : PySem.W.nsIn K mainGlobals "RECKONING" = some (some (.ref b_RECKONING)))
    (q_RECKONING : K.lookup b_RECKONING = some ⟨.type "tuple", dd_RECKONING, .seq us_RECKONING nn_RECKONING, sl_RECKONING⟩)
    (z_RECKONING : us_RECKONING.size ≤ sizeLine)
    (v_RECKONING : Vals [V.str "plus", V.str "minus", V.str "times", V.str "over", V.str "rest", V.str "less", V.str "same"] us_RECKONING.toList)
    {t_MOST_PARAMETERS : Tok}
    (g_MOST_PARAMETERS : PySem.W.nsIn K mainGlobals "MOST_PARAMETERS" = some (some (.int (4) t_MOST_PARAMETERS)))
    {t_MOST_ROWS : Tok}
    (g_MOST_ROWS : PySem.W.nsIn K mainGlobals "MOST_ROWS" = some (some (.int (60) t_MOST_ROWS)))
    : ∃ fd : FuncData, (∀ (s : Shared) (u : Value), BindsTo s fd ⟨[u], []⟩ [("_law_script", u)]) ∧ ∀ base : Heap, K.In base → base.Ns mainGlobals mg → FnOk P w K mg base CX0 8 fa fd ["_law_script"] (toSp ⟨K, w⟩ (pSp lawSp)) := by
  have e := hfa.symm.trans (PySem.W.mg_of X G a_law)
  cases e
  have S_Row : Cls K A_Row := ⟨pg_Row, hd_Row, po_Row, sa_Row⟩
  have S_Bare : Cls K A_Bare := ⟨pg_Bare, hd_Bare, po_Bare, sa_Bare⟩
  have S_Def : Cls K A_Def := ⟨pg_Def, hd_Def, po_Def, sa_Def⟩
  have S_Give : Cls K A_Give := ⟨pg_Give, hd_Give, po_Give, sa_Give⟩
  have S_While : Cls K A_While := ⟨pg_While, hd_While, po_While, sa_While⟩
  have S_Fail : Cls K A_Fail := ⟨pg_Fail, hd_Fail, po_Fail, sa_Fail⟩
  have S_Set : Cls K A_Set := ⟨pg_Set, hd_Set, po_Set, sa_Set⟩
  have S_New : Cls K A_New := ⟨pg_New, hd_New, po_New, sa_New⟩
  have S_Put : Cls K A_Put := ⟨pg_Put, hd_Put, po_Put, sa_Put⟩
  have S_Do : Cls K A_Do := ⟨pg_Do, hd_Do, po_Do, sa_Do⟩
  have S_Get : Cls K A_Get := ⟨pg_Get, hd_Get, po_Get, sa_Get⟩
  have S_Call : Cls K A_Call := ⟨pg_Call, hd_Call, po_Call, sa_Call⟩
  have T : Txt ⟨K, w⟩ mg := ⟨PySem.W.mg_none_of X G n_int, PySem.W.mg_none_of X G n_isinstance, PySem.W.mg_none_of X G n_bool, PySem.W.mg_none_of X G n_str, PySem.W.mg_none_of X G n_len, PySem.W.mg_none_of X G n_all, PySem.W.mg_none_of X G n_sorted, PySem.W.mg_none_of X G n_set, PySem.W.mg_none_of X G n_tuple, PySem.W.mg_none_of X G n_enumerate, PySem.W.mg_none_of X G n_list, PySem.W.mg_none_of X G n_range, PySem.W.mg_none_of X G n_sum, ⟨.int (1000000000000000000000000000000), _, PySem.W.mg_of X G g_H, ⟨_, rfl⟩, fun _ => .int _⟩, ⟨.str "abcdefghijklmnopqrstuvwxyz", _, PySem.W.mg_of X G g_LETTERS, ⟨_, rfl⟩, fun _ => .str _ ⟨by decide +kernel, by decide +kernel⟩⟩, ⟨.ref b_RECKONING, _, PySem.W.mg_of X G g_RECKONING, rfl, fun _ => .tup (vs := [V.str "plus", V.str "minus", V.str "times", V.str "over", V.str "rest", V.str "less", V.str "same"]) (.inr ⟨_, us_RECKONING, nn_RECKONING, q_RECKONING, rfl, rfl, z_RECKONING, v_RECKONING⟩) (by decide) (.cons (.str _ ⟨by decide +kernel, by decide +kernel⟩) (.cons (.str _ ⟨by decide +kernel, by decide +kernel⟩) (.cons (.str _ ⟨by decide +kernel, by decide +kernel⟩) (.cons (.str _ ⟨by decide +kernel, by decide +kernel⟩) (.cons (.str _ ⟨by decide +kernel, by decide +kernel⟩) (.cons (.str _ ⟨by decide +kernel, by decide +kernel⟩) (.cons (.str _ ⟨by decide +kernel, by decide +kernel⟩) .nil)))))))⟩, ⟨.int (4), _, PySem.W.mg_of X G g_MOST_PARAMETERS, ⟨_, rfl⟩, fun _ => .int _⟩, ⟨.int (60), _, PySem.W.mg_of X G g_MOST_ROWS, ⟨_, rfl⟩, fun _ => .int _⟩, (flds_cons ⟨_, x_Row, S_Row, na_Row_parts⟩ (flds_cons ⟨_, x_Bare, S_Bare, na_Bare_parts⟩ (flds_cons ⟨_, x_Def, S_Def, na_Def_parts⟩ (flds_cons ⟨_, x_Give, S_Give, na_Give_parts⟩ (flds_cons ⟨_, x_While, S_While, na_While_parts⟩ (flds_cons ⟨_, x_Fail, S_Fail, na_Fail_parts⟩ (flds_cons ⟨_, x_Set, S_Set, na_Set_parts⟩ (flds_cons ⟨_, x_New, S_New, na_New_parts⟩ (flds_cons ⟨_, x_Put, S_Put, na_Put_parts⟩ (flds_cons ⟨_, x_Do, S_Do, na_Do_parts⟩ (flds_cons ⟨_, x_Get, S_Get, na_Get_parts⟩ (flds_cons ⟨_, x_Call, S_Call, na_Call_parts⟩ flds_nil)))))))))))), ⟨_, PySem.W.mg_of X G x_TooGreat, x_TooGreat, kE_TooGreat, vE_TooGreat, eE_TooGreat, tE_TooGreat⟩, ⟨_, fi_NoRow, x_NoRow, PySem.W.mg_of X G x_NoRow, ⟨nm_NoRow, qe_NoRow, Ne_NoRow, bs_NoRow, _, sn_NoRow, sb_NoRow, ab_NoRow, cc_NoRow, de_NoRow, m0_NoRow, m1_NoRow, m2_NoRow, m3_NoRow, m5_NoRow, lE_NoRow, by first | rfl | decide +kernel⟩, sE_NoRow, gE_NoRow, ggE_NoRow, pE_NoRow, iE_NoRow, jE_NoRow, kE_NoRow, eE_NoRow, tE_NoRow, hE_NoRow, ⟨_, _, _, _, _, _, _, _, ⟨19, 17, 19, 21⟩, ⟨19, 23, 19, 28⟩, ⟨20, 8, 20, 12⟩, ⟨20, 8, 20, 18⟩, ⟨20, 21, 20, 26⟩, ⟨20, 8, 20, 26⟩, _, fE_NoRow, qE_NoRow⟩⟩, ⟨_, fi_NoBlock, x_NoBlock, PySem.W.mg_of X G x_NoBlock, ⟨nm_NoBlock, qe_NoBlock, Ne_NoBlock, bs_NoBlock, _, sn_NoBlock, sb_NoBlock, ab_NoBlock, cc_NoBlock, de_NoBlock, m0_NoBlock, m1_NoBlock, m2_NoBlock, m3_NoBlock, m5_NoBlock, lE_NoBlock, by first | rfl | decide +kernel⟩, sE_NoBlock, gE_NoBlock, ggE_NoBlock, pE_NoBlock, iE_NoBlock, jE_NoBlock, kE_NoBlock, eE_NoBlock, tE_NoBlock, hE_NoBlock, ⟨_, _, _, _, _, _, _, _, ⟨23, 17, 23, 21⟩, ⟨23, 23, 23, 28⟩, ⟨24, 8, 24, 12⟩, ⟨24, 8, 24, 18⟩, ⟨24, 21, 24, 26⟩, ⟨24, 8, 24, 26⟩, _, fE_NoBlock, qE_NoBlock⟩⟩, ⟨_, fi_NoCall, x_NoCall, PySem.W.mg_of X G x_NoCall, ⟨nm_NoCall, qe_NoCall, Ne_NoCall, bs_NoCall, _, sn_NoCall, sb_NoCall, ab_NoCall, cc_NoCall, de_NoCall, m0_NoCall, m1_NoCall, m2_NoCall, m3_NoCall, m5_NoCall, lE_NoCall, by first | rfl | decide +kernel⟩, sE_NoCall, gE_NoCall, ggE_NoCall, pE_NoCall, iE_NoCall, jE_NoCall, kE_NoCall, eE_NoCall, tE_NoCall, hE_NoCall, ⟨_, _, _, _, _, _, _, _, ⟨27, 17, 27, 21⟩, ⟨27, 23, 27, 28⟩, ⟨28, 8, 28, 12⟩, ⟨28, 8, 28, 18⟩, ⟨28, 21, 28, 26⟩, ⟨28, 8, 28, 26⟩, _, fE_NoCall, qE_NoCall⟩⟩, ⟨_, PySem.W.mg_of X G x_SliceError, (all_cons ⟨_, x_TooGreat, PySem.W.exm_ref eE_SliceError hE_SliceError tE_SliceError ex_SliceError_TooGreat⟩ (all_cons ⟨_, x_NoRow, PySem.W.exm_ref eE_SliceError hE_SliceError tE_SliceError ex_SliceError_NoRow⟩ (all_cons ⟨_, x_NoBlock, PySem.W.exm_ref eE_SliceError hE_SliceError tE_SliceError ex_SliceError_NoBlock⟩ (all_cons ⟨_, x_NoCall, PySem.W.exm_ref eE_SliceError hE_SliceError tE_SliceError ex_SliceError_NoCall⟩ all_nil))))⟩, ⟨_, .inl ⟨_, rfl, PySem.W.mg_of X G x_NoBlock⟩, (all_cons ⟨_, x_TooGreat, ⟨gE_TooGreat, ggE_TooGreat, eE_TooGreat, hE_TooGreat, cE_TooGreat, oE_n, oE_t, mE_TooGreat⟩, kit_ref hE_NoBlock tE_NoBlock sf_NoBlock kt_NoBlock_TooGreat⟩ (all_cons ⟨_, x_NoRow, ⟨gE_NoRow, ggE_NoRow, eE_NoRow, hE_NoRow, cE_NoRow, oE_n, oE_t, mE_NoRow⟩, kit_ref hE_NoBlock tE_NoBlock sf_NoBlock kt_NoBlock_NoRow⟩ (all_cons ⟨_, x_NoBlock, ⟨gE_NoBlock, ggE_NoBlock, eE_NoBlock, hE_NoBlock, cE_NoBlock, oE_n, oE_t, mE_NoBlock⟩, kit_ref hE_NoBlock tE_NoBlock sf_NoBlock kt_NoBlock_NoBlock⟩ (all_cons ⟨_, x_NoCall, ⟨gE_NoCall, ggE_NoCall, eE_NoCall, hE_NoCall, cE_NoCall, oE_n, oE_t, mE_NoCall⟩, kit_ref hE_NoBlock tE_NoBlock sf_NoBlock kt_NoBlock_NoCall⟩ all_nil))))⟩, ⟨_, .inl ⟨_, rfl, PySem.W.mg_of X G x_NoRow⟩, (all_cons ⟨_, x_TooGreat, ⟨gE_TooGreat, ggE_TooGreat, eE_TooGreat, hE_TooGreat, cE_TooGreat, oE_n, oE_t, mE_TooGreat⟩, kit_ref hE_NoRow tE_NoRow sf_NoRow kt_NoRow_TooGreat⟩ (all_cons ⟨_, x_NoRow, ⟨gE_NoRow, ggE_NoRow, eE_NoRow, hE_NoRow, cE_NoRow, oE_n, oE_t, mE_NoRow⟩, kit_ref hE_NoRow tE_NoRow sf_NoRow kt_NoRow_NoRow⟩ (all_cons ⟨_, x_NoBlock, ⟨gE_NoBlock, ggE_NoBlock, eE_NoBlock, hE_NoBlock, cE_NoBlock, oE_n, oE_t, mE_NoBlock⟩, kit_ref hE_NoRow tE_NoRow sf_NoRow kt_NoRow_NoBlock⟩ (all_cons ⟨_, x_NoCall, ⟨gE_NoCall, ggE_NoCall, eE_NoCall, hE_NoCall, cE_NoCall, oE_n, oE_t, mE_NoCall⟩, kit_ref hE_NoRow tE_NoRow sf_NoRow kt_NoRow_NoCall⟩ all_nil))))⟩, ⟨_, .inl ⟨_, rfl, PySem.W.mg_of X G x_TooGreat⟩, (all_cons ⟨_, x_TooGreat, ⟨gE_TooGreat, ggE_TooGreat, eE_TooGreat, hE_TooGreat, cE_TooGreat, oE_n, oE_t, mE_TooGreat⟩, kit_ref hE_TooGreat tE_TooGreat sf_TooGreat kt_TooGreat_TooGreat⟩ (all_cons ⟨_, x_NoRow, ⟨gE_NoRow, ggE_NoRow, eE_NoRow, hE_NoRow, cE_NoRow, oE_n, oE_t, mE_NoRow⟩, kit_ref hE_TooGreat tE_TooGreat sf_TooGreat kt_TooGreat_NoRow⟩ (all_cons ⟨_, x_NoBlock, ⟨gE_NoBlock, ggE_NoBlock, eE_NoBlock, hE_NoBlock, cE_NoBlock, oE_n, oE_t, mE_NoBlock⟩, kit_ref hE_TooGreat tE_TooGreat sf_TooGreat kt_TooGreat_NoBlock⟩ (all_cons ⟨_, x_NoCall, ⟨gE_NoCall, ggE_NoCall, eE_NoCall, hE_NoCall, cE_NoCall, oE_n, oE_t, mE_NoCall⟩, kit_ref hE_TooGreat tE_TooGreat sf_TooGreat kt_TooGreat_NoCall⟩ all_nil))))⟩, ⟨_, .inl ⟨_, rfl, PySem.W.mg_of X G x_NoPlace⟩, (all_cons ⟨_, x_TooGreat, ⟨gE_TooGreat, ggE_TooGreat, eE_TooGreat, hE_TooGreat, cE_TooGreat, oE_n, oE_t, mE_TooGreat⟩, kit_ref hE_NoPlace tE_NoPlace sf_NoPlace kt_NoPlace_TooGreat⟩ (all_cons ⟨_, x_NoRow, ⟨gE_NoRow, ggE_NoRow, eE_NoRow, hE_NoRow, cE_NoRow, oE_n, oE_t, mE_NoRow⟩, kit_ref hE_NoPlace tE_NoPlace sf_NoPlace kt_NoPlace_NoRow⟩ (all_cons ⟨_, x_NoBlock, ⟨gE_NoBlock, ggE_NoBlock, eE_NoBlock, hE_NoBlock, cE_NoBlock, oE_n, oE_t, mE_NoBlock⟩, kit_ref hE_NoPlace tE_NoPlace sf_NoPlace kt_NoPlace_NoBlock⟩ (all_cons ⟨_, x_NoCall, ⟨gE_NoCall, ggE_NoCall, eE_NoCall, hE_NoCall, cE_NoCall, oE_n, oE_t, mE_NoCall⟩, kit_ref hE_NoPlace tE_NoPlace sf_NoPlace kt_NoPlace_NoCall⟩ all_nil))))⟩, ⟨_, .inl ⟨_, rfl, PySem.W.mg_of X G x_NoText⟩, (all_cons ⟨_, x_TooGreat, ⟨gE_TooGreat, ggE_TooGreat, eE_TooGreat, hE_TooGreat, cE_TooGreat, oE_n, oE_t, mE_TooGreat⟩, kit_ref hE_NoText tE_NoText sf_NoText kt_NoText_TooGreat⟩ (all_cons ⟨_, x_NoRow, ⟨gE_NoRow, ggE_NoRow, eE_NoRow, hE_NoRow, cE_NoRow, oE_n, oE_t, mE_NoRow⟩, kit_ref hE_NoText tE_NoText sf_NoText kt_NoText_NoRow⟩ (all_cons ⟨_, x_NoBlock, ⟨gE_NoBlock, ggE_NoBlock, eE_NoBlock, hE_NoBlock, cE_NoBlock, oE_n, oE_t, mE_NoBlock⟩, kit_ref hE_NoText tE_NoText sf_NoText kt_NoText_NoBlock⟩ (all_cons ⟨_, x_NoCall, ⟨gE_NoCall, ggE_NoCall, eE_NoCall, hE_NoCall, cE_NoCall, oE_n, oE_t, mE_NoCall⟩, kit_ref hE_NoText tE_NoText sf_NoText kt_NoText_NoCall⟩ all_nil))))⟩, ⟨_, .inl ⟨_, rfl, PySem.W.mg_of X G x_NoCall⟩, (all_cons ⟨_, x_TooGreat, ⟨gE_TooGreat, ggE_TooGreat, eE_TooGreat, hE_TooGreat, cE_TooGreat, oE_n, oE_t, mE_TooGreat⟩, kit_ref hE_NoCall tE_NoCall sf_NoCall kt_NoCall_TooGreat⟩ (all_cons ⟨_, x_NoRow, ⟨gE_NoRow, ggE_NoRow, eE_NoRow, hE_NoRow, cE_NoRow, oE_n, oE_t, mE_NoRow⟩, kit_ref hE_NoCall tE_NoCall sf_NoCall kt_NoCall_NoRow⟩ (all_cons ⟨_, x_NoBlock, ⟨gE_NoBlock, ggE_NoBlock, eE_NoBlock, hE_NoBlock, cE_NoBlock, oE_n, oE_t, mE_NoBlock⟩, kit_ref hE_NoCall tE_NoCall sf_NoCall kt_NoCall_NoBlock⟩ (all_cons ⟨_, x_NoCall, ⟨gE_NoCall, ggE_NoCall, eE_NoCall, hE_NoCall, cE_NoCall, oE_n, oE_t, mE_NoCall⟩, kit_ref hE_NoCall tE_NoCall sf_NoCall kt_NoCall_NoCall⟩ all_nil))))⟩, ⟨_, .inl ⟨_, rfl, PySem.W.mg_of X G x_Done⟩, (all_cons ⟨_, x_TooGreat, ⟨gE_TooGreat, ggE_TooGreat, eE_TooGreat, hE_TooGreat, cE_TooGreat, oE_n, oE_t, mE_TooGreat⟩, kit_ref hE_Done tE_Done sf_Done kt_Done_TooGreat⟩ (all_cons ⟨_, x_NoRow, ⟨gE_NoRow, ggE_NoRow, eE_NoRow, hE_NoRow, cE_NoRow, oE_n, oE_t, mE_NoRow⟩, kit_ref hE_Done tE_Done sf_Done kt_Done_NoRow⟩ (all_cons ⟨_, x_NoBlock, ⟨gE_NoBlock, ggE_NoBlock, eE_NoBlock, hE_NoBlock, cE_NoBlock, oE_n, oE_t, mE_NoBlock⟩, kit_ref hE_Done tE_Done sf_Done kt_Done_NoBlock⟩ (all_cons ⟨_, x_NoCall, ⟨gE_NoCall, ggE_NoCall, eE_NoCall, hE_NoCall, cE_NoCall, oE_n, oE_t, mE_NoCall⟩, kit_ref hE_Done tE_Done sf_Done kt_Done_NoCall⟩ all_nil))))⟩, ⟨_, .inl ⟨_, rfl, PySem.W.mg_of X G x_NoFault⟩, (all_cons ⟨_, x_TooGreat, ⟨gE_TooGreat, ggE_TooGreat, eE_TooGreat, hE_TooGreat, cE_TooGreat, oE_n, oE_t, mE_TooGreat⟩, kit_ref hE_NoFault tE_NoFault sf_NoFault kt_NoFault_TooGreat⟩ (all_cons ⟨_, x_NoRow, ⟨gE_NoRow, ggE_NoRow, eE_NoRow, hE_NoRow, cE_NoRow, oE_n, oE_t, mE_NoRow⟩, kit_ref hE_NoFault tE_NoFault sf_NoFault kt_NoFault_NoRow⟩ (all_cons ⟨_, x_NoBlock, ⟨gE_NoBlock, ggE_NoBlock, eE_NoBlock, hE_NoBlock, cE_NoBlock, oE_n, oE_t, mE_NoBlock⟩, kit_ref hE_NoFault tE_NoFault sf_NoFault kt_NoFault_NoBlock⟩ (all_cons ⟨_, x_NoCall, ⟨gE_NoCall, ggE_NoCall, eE_NoCall, hE_NoCall, cE_NoCall, oE_n, oE_t, mE_NoCall⟩, kit_ref hE_NoFault tE_NoFault sf_NoFault kt_NoFault_NoCall⟩ all_nil))))⟩, ⟨_, .inl ⟨_, rfl, PySem.W.mg_of X G x_Unlike⟩, (all_cons ⟨_, x_TooGreat, ⟨gE_TooGreat, ggE_TooGreat, eE_TooGreat, hE_TooGreat, cE_TooGreat, oE_n, oE_t, mE_TooGreat⟩, kit_ref hE_Unlike tE_Unlike sf_Unlike kt_Unlike_TooGreat⟩ (all_cons ⟨_, x_NoRow, ⟨gE_NoRow, ggE_NoRow, eE_NoRow, hE_NoRow, cE_NoRow, oE_n, oE_t, mE_NoRow⟩, kit_ref hE_Unlike tE_Unlike sf_Unlike kt_Unlike_NoRow⟩ (all_cons ⟨_, x_NoBlock, ⟨gE_NoBlock, ggE_NoBlock, eE_NoBlock, hE_NoBlock, cE_NoBlock, oE_n, oE_t, mE_NoBlock⟩, kit_ref hE_Unlike tE_Unlike sf_Unlike kt_Unlike_NoBlock⟩ (all_cons ⟨_, x_NoCall, ⟨gE_NoCall, ggE_NoCall, eE_NoCall, hE_NoCall, cE_NoCall, oE_n, oE_t, mE_NoCall⟩, kit_ref hE_Unlike tE_Unlike sf_Unlike kt_Unlike_NoCall⟩ all_nil))))⟩, ⟨_, .inr ⟨"ValueError", rfl, PySem.W.mg_none_of X G n_ValueError, by decide +kernel⟩, (all_cons ⟨_, x_TooGreat, ⟨gE_TooGreat, ggE_TooGreat, eE_TooGreat, hE_TooGreat, cE_TooGreat, oE_n, oE_t, mE_TooGreat⟩, kit_type (by decide +kernel) kt_ValueError_TooGreat⟩ (all_cons ⟨_, x_NoRow, ⟨gE_NoRow, ggE_NoRow, eE_NoRow, hE_NoRow, cE_NoRow, oE_n, oE_t, mE_NoRow⟩, kit_type (by decide +kernel) kt_ValueError_NoRow⟩ (all_cons ⟨_, x_NoBlock, ⟨gE_NoBlock, ggE_NoBlock, eE_NoBlock, hE_NoBlock, cE_NoBlock, oE_n, oE_t, mE_NoBlock⟩, kit_type (by decide +kernel) kt_ValueError_NoBlock⟩ (all_cons ⟨_, x_NoCall, ⟨gE_NoCall, ggE_NoCall, eE_NoCall, hE_NoCall, cE_NoCall, oE_n, oE_t, mE_NoCall⟩, kit_type (by decide +kernel) kt_ValueError_NoCall⟩ all_nil))))⟩, (all_cons ⟨_, x_NoRow, ⟨gE_NoRow, ggE_NoRow, eE_NoRow, hE_NoRow⟩, pE_NoRow⟩ (all_cons ⟨_, x_NoBlock, ⟨gE_NoBlock, ggE_NoBlock, eE_NoBlock, hE_NoBlock⟩, pE_NoBlock⟩ (all_cons ⟨_, x_NoCall, ⟨gE_NoCall, ggE_NoCall, eE_NoCall, hE_NoCall⟩, pE_NoCall⟩ all_nil)))⟩
  refine ⟨PySem.W.fnOf "law" "law" (defArgs s_law) (defBody s_law) (defScope s_law) .none kV_law dc_law pm_law an_law cd_law ct_law, fun s v => .of_eq rfl, fun base _ _ => ?_⟩
  have D_is_number := d_is_number (P := P) (K := ⟨K, w⟩) (base := base) (fun_mk (st := s_is_number) l_is_number c_is_number k_is_number) (PySem.W.mg_of X G a_is_number) T
  have D_is_name := d_is_name (P := P) (K := ⟨K, w⟩) (base := base) (fun_mk (st := s_is_name) l_is_name c_is_name k_is_name) (PySem.W.mg_of X G a_is_name) T
  have D_is_operand := d_is_operand (P := P) (K := ⟨K, w⟩) (base := base) (fun_mk (st := s_is_operand) l_is_operand c_is_operand k_is_operand) (PySem.W.mg_of X G a_is_operand) T D_is_name D_is_number
  have D_is_field := d_is_field (P := P) (K := ⟨K, w⟩) (base := base) (fun_mk (st := s_is_field) l_is_field c_is_field k_is_field) (PySem.W.mg_of X G a_is_field) T D_is_name
  have D_names_among := d_names_among (P := P) (K := ⟨K, w⟩) (base := base) (fun_mk (st := s_names_among) l_names_among c_names_among k_names_among) (PySem.W.mg_of X G a_names_among) T D_is_name
  have D_all_operands := d_all_operands (P := P) (K := ⟨K, w⟩) (base := base) (fun_mk (st := s_all_operands) l_all_operands c_all_operands k_all_operands) (PySem.W.mg_of X G a_all_operands) T D_is_operand
  have D_Row_init := d_Row_init (P := P) (K := ⟨K, w⟩) (base := base) (fun_mk (st := s_Row_init) l_Row_init c_Row_init k_Row_init) (mg := mg) T
  have D_Row_is_right := d_Row_is_right (P := P) (K := ⟨K, w⟩) (base := base) (fun_mk (st := s_Row_is_right) l_Row_is_right c_Row_is_right k_Row_is_right) (mg := mg) T
  have D_Bare_is_right := d_Bare_is_right (P := P) (K := ⟨K, w⟩) (base := base) (fun_mk (st := s_Bare_is_right) l_Bare_is_right c_Bare_is_right k_Bare_is_right) (mg := mg) T
  have D_Def_is_right := d_Def_is_right (P := P) (K := ⟨K, w⟩) (base := base) (fun_mk (st := s_Def_is_right) l_Def_is_right c_Def_is_right k_Def_is_right) (mg := mg) T D_is_name D_all_operands D_names_among
  have D_Give_is_right := d_Give_is_right (P := P) (K := ⟨K, w⟩) (base := base) (fun_mk (st := s_Give_is_right) l_Give_is_right c_Give_is_right k_Give_is_right) (mg := mg) T D_is_operand
  have D_Fail_is_right := d_Fail_is_right (P := P) (K := ⟨K, w⟩) (base := base) (fun_mk (st := s_Fail_is_right) l_Fail_is_right c_Fail_is_right k_Fail_is_right) (mg := mg) T D_is_name
  have D_Set_is_right := d_Set_is_right (P := P) (K := ⟨K, w⟩) (base := base) (fun_mk (st := s_Set_is_right) l_Set_is_right c_Set_is_right k_Set_is_right) (mg := mg) T D_is_name D_is_field D_is_operand
  have D_New_is_right := d_New_is_right (P := P) (K := ⟨K, w⟩) (base := base) (fun_mk (st := s_New_is_right) l_New_is_right c_New_is_right k_New_is_right) (mg := mg) T D_is_name
  have D_Put_is_right := d_Put_is_right (P := P) (K := ⟨K, w⟩) (base := base) (fun_mk (st := s_Put_is_right) l_Put_is_right c_Put_is_right k_Put_is_right) (mg := mg) T D_is_name D_is_operand
  have D_Do_is_right := d_Do_is_right (P := P) (K := ⟨K, w⟩) (base := base) (fun_mk (st := s_Do_is_right) l_Do_is_right c_Do_is_right k_Do_is_right) (mg := mg) T D_is_name D_is_operand
  have D_Get_is_right := d_Get_is_right (P := P) (K := ⟨K, w⟩) (base := base) (fun_mk (st := s_Get_is_right) l_Get_is_right c_Get_is_right k_Get_is_right) (mg := mg) T D_is_name D_is_field D_is_operand
  have D_Call_is_right := d_Call_is_right (P := P) (K := ⟨K, w⟩) (base := base) (fun_mk (st := s_Call_is_right) l_Call_is_right c_Call_is_right k_Call_is_right) (mg := mg) T D_is_name D_all_operands
  have C_Def : CDef P w ⟨K, w⟩ mg base "Def" 1 sp_Row_init := ⟨_, _, x_Def, PySem.W.mg_of X G x_Def, ⟨mk_Def, in_Def, i_Row_init, kc_Def⟩, D_Row_init⟩
  have C_Give : CDef P w ⟨K, w⟩ mg base "Give" 1 sp_Row_init := ⟨_, _, x_Give, PySem.W.mg_of X G x_Give, ⟨mk_Give, in_Give, i_Row_init, kc_Give⟩, D_Row_init⟩
  have C_Put : CDef P w ⟨K, w⟩ mg base "Put" 1 sp_Row_init := ⟨_, _, x_Put, PySem.W.mg_of X G x_Put, ⟨mk_Put, in_Put, i_Row_init, kc_Put⟩, D_Row_init⟩
  have C_Do : CDef P w ⟨K, w⟩ mg base "Do" 1 sp_Row_init := ⟨_, _, x_Do, PySem.W.mg_of X G x_Do, ⟨mk_Do, in_Do, i_Row_init, kc_Do⟩, D_Row_init⟩
  have C_New : CDef P w ⟨K, w⟩ mg base "New" 1 sp_Row_init := ⟨_, _, x_New, PySem.W.mg_of X G x_New, ⟨mk_New, in_New, i_Row_init, kc_New⟩, D_Row_init⟩
  have C_Get : CDef P w ⟨K, w⟩ mg base "Get" 1 sp_Row_init := ⟨_, _, x_Get, PySem.W.mg_of X G x_Get, ⟨mk_Get, in_Get, i_Row_init, kc_Get⟩, D_Row_init⟩
  have C_Set : CDef P w ⟨K, w⟩ mg base "Set" 1 sp_Row_init := ⟨_, _, x_Set, PySem.W.mg_of X G x_Set, ⟨mk_Set, in_Set, i_Row_init, kc_Set⟩, D_Row_init⟩
  have C_Call : CDef P w ⟨K, w⟩ mg base "Call" 1 sp_Row_init := ⟨_, _, x_Call, PySem.W.mg_of X G x_Call, ⟨mk_Call, in_Call, i_Row_init, kc_Call⟩, D_Row_init⟩
  have C_Fail : CDef P w ⟨K, w⟩ mg base "Fail" 1 sp_Row_init := ⟨_, _, x_Fail, PySem.W.mg_of X G x_Fail, ⟨mk_Fail, in_Fail, i_Row_init, kc_Fail⟩, D_Row_init⟩
  have C_While : CDef P w ⟨K, w⟩ mg base "While" 1 sp_Row_init := ⟨_, _, x_While, PySem.W.mg_of X G x_While, ⟨mk_While, in_While, i_Row_init, kc_While⟩, D_Row_init⟩
  have C_Bare : CDef P w ⟨K, w⟩ mg base "Bare" 1 sp_Row_init := ⟨_, _, x_Bare, PySem.W.mg_of X G x_Bare, ⟨mk_Bare, in_Bare, i_Row_init, kc_Bare⟩, D_Row_init⟩
  have C_Row : CDef P w ⟨K, w⟩ mg base "Row" 1 sp_Row_init := ⟨_, _, x_Row, PySem.W.mg_of X G x_Row, ⟨mk_Row, in_Row, i_Row_init, kc_Row⟩, D_Row_init⟩
  have D_row_of := d_row_of (P := P) (K := ⟨K, w⟩) (base := base) (fun_mk (st := s_row_of) l_row_of c_row_of k_row_of) (PySem.W.mg_of X G a_row_of) T C_Def C_Give C_Put C_Do C_New C_Get C_Set C_Call C_Fail C_While C_Bare C_Row
  have T_is_right : MTabOk P w ⟨K, w⟩ mg base "is_right" 4 tab_is_right := (mtab_cons ⟨_, _, x_Row, S_Row, ⟨me_Row_is_right, i_Row_is_right, k_Row_is_right⟩, D_Row_is_right⟩ (by decide) (mtab_cons ⟨_, _, x_Bare, S_Bare, ⟨me_Bare_is_right, i_Bare_is_right, k_Bare_is_right⟩, D_Bare_is_right⟩ (by decide) (mtab_cons ⟨_, _, x_Def, S_Def, ⟨me_Def_is_right, i_Def_is_right, k_Def_is_right⟩, D_Def_is_right⟩ (by decide) (mtab_cons ⟨_, _, x_Give, S_Give, ⟨me_Give_is_right, i_Give_is_right, k_Give_is_right⟩, D_Give_is_right⟩ (by decide) (mtab_cons ⟨_, _, x_While, S_While, ⟨me_While_is_right, i_Give_is_right, k_Give_is_right⟩, D_Give_is_right⟩ (by decide) (mtab_cons ⟨_, _, x_Fail, S_Fail, ⟨me_Fail_is_right, i_Fail_is_right, k_Fail_is_right⟩, D_Fail_is_right⟩ (by decide) (mtab_cons ⟨_, _, x_Set, S_Set, ⟨me_Set_is_right, i_Set_is_right, k_Set_is_right⟩, D_Set_is_right⟩ (by decide) (mtab_cons ⟨_, _, x_New, S_New, ⟨me_New_is_right, i_New_is_right, k_New_is_right⟩, D_New_is_right⟩ (by decide) (mtab_cons ⟨_, _, x_Put, S_Put, ⟨me_Put_is_right, i_Put_is_right, k_Put_is_right⟩, D_Put_is_right⟩ (by decide) (mtab_cons ⟨_, _, x_Do, S_Do, ⟨me_Do_is_right, i_Do_is_right, k_Do_is_right⟩, D_Do_is_right⟩ (by decide) (mtab_cons ⟨_, _, x_Get, S_Get, ⟨me_Get_is_right, i_Get_is_right, k_Get_is_right⟩, D_Get_is_right⟩ (by decide) (mtab_cons ⟨_, _, x_Call, S_Call, ⟨me_Call_is_right, i_Call_is_right, k_Call_is_right⟩, D_Call_is_right⟩ (by decide) mtab_nil))))))))))))
  have D_is_row := d_is_row (P := P) (K := ⟨K, w⟩) (base := base) (fun_mk (st := s_is_row) l_is_row c_is_row k_is_row) (PySem.W.mg_of X G a_is_row) T D_row_of T_is_right
  have D_word_fits := d_word_fits (P := P) (K := ⟨K, w⟩) (base := base) (fun_mk (st := s_word_fits) l_word_fits c_word_fits k_word_fits) (PySem.W.mg_of X G a_word_fits) T
  have D_check_blocks := d_check_blocks (P := P) (K := ⟨K, w⟩) (base := base) (fun_mk (st := s_check_blocks) l_check_blocks c_check_blocks k_check_blocks) (PySem.W.mg_of X G a_check_blocks) T D_word_fits
  have D_def_of := d_def_of (P := P) (K := ⟨K, w⟩) (base := base) (fun_mk (st := s_def_of) l_def_of c_def_of k_def_of) (PySem.W.mg_of X G a_def_of) T
  have D_check_calls := d_check_calls (P := P) (K := ⟨K, w⟩) (base := base) (fun_mk (st := s_check_calls) l_check_calls c_check_calls k_check_calls) (PySem.W.mg_of X G a_check_calls) T D_def_of
  have D_program_of := d_program_of (P := P) (K := ⟨K, w⟩) (base := base) (fun_mk (st := s_program_of) l_program_of c_program_of k_program_of) (PySem.W.mg_of X G a_program_of) T D_is_row D_check_blocks D_check_calls
  have D__law_cell_at := d__law_cell_at (P := P) (K := ⟨K, w⟩) (base := base) (fun_mk (st := s__law_cell_at) l__law_cell_at c__law_cell_at k__law_cell_at) (PySem.W.mg_of X G a__law_cell_at) T
  have D__law_words := d__law_words (P := P) (K := ⟨K, w⟩) (base := base) (fun_mk (st := s__law_words) l__law_words c__law_words k__law_words) (PySem.W.mg_of X G a__law_words) T
  have D__law_operand := d__law_operand (P := P) (K := ⟨K, w⟩) (base := base) (fun_mk (st := s__law_operand) l__law_operand c__law_operand k__law_operand) (PySem.W.mg_of X G a__law_operand) T
  have D__law_key := d__law_key (P := P) (K := ⟨K, w⟩) (base := base) (fun_mk (st := s__law_key) l__law_key c__law_key k__law_key) (PySem.W.mg_of X G a__law_key) T D__law_operand
  have D__law_call := d__law_call (P := P) (K := ⟨K, w⟩) (base := base) (fun_mk (st := s__law_call) l__law_call c__law_call k__law_call) (PySem.W.mg_of X G a__law_call) T D__law_operand
  have D__law_simple := d__law_simple (P := P) (K := ⟨K, w⟩) (base := base) (fun_mk (st := s__law_simple) l__law_simple c__law_simple k__law_simple) (PySem.W.mg_of X G a__law_simple) T D__law_operand D__law_key D__law_call
  have D__law_lay := d__law_lay (P := P) (K := ⟨K, w⟩) (base := base) (fun_mk (st := s__law_lay) l__law_lay c__law_lay k__law_lay) (PySem.W.mg_of X G a__law_lay) T D__law_operand D__law_simple
  have D__law_plan := d__law_plan (P := P) (K := ⟨K, w⟩) (base := base) (fun_mk (st := s__law_plan) l__law_plan c__law_plan k__law_plan) (PySem.W.mg_of X G a__law_plan) T
  have D__law_program := d__law_program (P := P) (K := ⟨K, w⟩) (base := base) (fun_mk (st := s__law_program) l__law_program c__law_program k__law_program) (PySem.W.mg_of X G a__law_program) T D__law_lay D__law_operand
  have D__law_which := d__law_which (P := P) (K := ⟨K, w⟩) (base := base) (fun_mk (st := s__law_which) l__law_which c__law_which k__law_which) (PySem.W.mg_of X G a__law_which) T
  have D__law_outcome := d__law_outcome (P := P) (K := ⟨K, w⟩) (base := base) (fun_mk (st := s__law_outcome) l__law_outcome c__law_outcome k__law_outcome) (PySem.W.mg_of X G a__law_outcome) T D_program_of D__law_which
  have D__law_turned := d__law_turned (P := P) (K := ⟨K, w⟩) (base := base) (fun_mk (st := s__law_turned) l__law_turned c__law_turned k__law_turned) (PySem.W.mg_of X G a__law_turned) T
  have D__law_open := d__law_open (P := P) (K := ⟨K, w⟩) (base := base) (fun_mk (st := s__law_open) l__law_open c__law_open k__law_open) (PySem.W.mg_of X G a__law_open) T
  have D__law_breaks := d__law_breaks (P := P) (K := ⟨K, w⟩) (base := base) (fun_mk (st := s__law_breaks) l__law_breaks c__law_breaks k__law_breaks) (PySem.W.mg_of X G a__law_breaks) T D__law_open
  have D__law_due := d__law_due (P := P) (K := ⟨K, w⟩) (base := base) (fun_mk (st := s__law_due) l__law_due c__law_due k__law_due) (PySem.W.mg_of X G a__law_due) T D__law_breaks D__law_open
  exact d_law_ok (K := ⟨K, w⟩) (fun_mk (st := s_law) l_law c_law k_law) T D__law_words D__law_cell_at D__law_program D__law_plan D__law_turned D__law_due D__law_outcome
end VLD

open PySem PySem.W PyProof.Rows in
set_option maxRecDepth 100000 in
set_option maxHeartbeats 0 in
theorem PySem.Challenge.cw_slicewise_k07_blocks_refused_holds : PySem.Challenge.rw_slicewise_k07_blocks_refused.Holds := by
  refine VLH.top ?_
  k_fill
  refine VL.law_walk (l := PySem.Challenge.rw_slicewise_k07_blocks_refused) (k := 8) (x := "_law_script") rfl rfl ⟨rfl, by decide, by decide⟩ (fun w h Y => PySem.W.kIn_of Y) ?F
  case F =>
    intro w mg fa h KX G hmg
    refine' VLD.all_mk KX G hmg ?x_Row ?pg_Row ?hd_Row ?po_Row ?sa_Row ?mk_Row ?kc_Row ?in_Row ?na_Row_parts ?me_Row_is_right ?x_Bare ?pg_Bare ?hd_Bare ?po_Bare ?sa_Bare ?mk_Bare ?kc_Bare ?in_Bare ?na_Bare_parts ?me_Bare_is_right ?x_Def ?pg_Def ?hd_Def ?po_Def ?sa_Def ?mk_Def ?kc_Def ?in_Def ?na_Def_parts ?me_Def_is_right ?x_Give ?pg_Give ?hd_Give ?po_Give ?sa_Give ?mk_Give ?kc_Give ?in_Give ?na_Give_parts ?me_Give_is_right ?x_While ?pg_While ?hd_While ?po_While ?sa_While ?mk_While ?kc_While ?in_While ?na_While_parts ?me_While_is_right ?x_Fail ?pg_Fail ?hd_Fail ?po_Fail ?sa_Fail ?mk_Fail ?kc_Fail ?in_Fail ?na_Fail_parts ?me_Fail_is_right ?x_Set ?pg_Set ?hd_Set ?po_Set ?sa_Set ?mk_Set ?kc_Set ?in_Set ?na_Set_parts ?me_Set_is_right ?x_New ?pg_New ?hd_New ?po_New ?sa_New ?mk_New ?kc_New ?in_New ?na_New_parts ?me_New_is_right ?x_Put ?pg_Put ?hd_Put ?po_Put ?sa_Put ?mk_Put ?kc_Put ?in_Put ?na_Put_parts ?me_Put_is_right ?x_Do ?pg_Do ?hd_Do ?po_Do ?sa_Do ?mk_Do ?kc_Do ?in_Do ?na_Do_parts ?me_Do_is_right ?x_Get ?pg_Get ?hd_Get ?po_Get ?sa_Get ?mk_Get ?kc_Get ?in_Get ?na_Get_parts ?me_Get_is_right ?x_Call ?pg_Call ?hd_Call ?po_Call ?sa_Call ?mk_Call ?kc_Call ?in_Call ?na_Call_parts ?me_Call_is_right ?a_is_number ?l_is_number ?c_is_number ?k_is_number ?a_is_name ?l_is_name ?c_is_name ?k_is_name ?a_is_operand ?l_is_operand ?c_is_operand ?k_is_operand ?a_is_field ?l_is_field ?c_is_field ?k_is_field ?a_names_among ?l_names_among ?c_names_among ?k_names_among ?a_all_operands ?l_all_operands ?c_all_operands ?k_all_operands ?i_Row_init ?l_Row_init ?c_Row_init ?k_Row_init ?i_Row_is_right ?l_Row_is_right ?c_Row_is_right ?k_Row_is_right ?i_Bare_is_right ?l_Bare_is_right ?c_Bare_is_right ?k_Bare_is_right ?i_Def_is_right ?l_Def_is_right ?c_Def_is_right ?k_Def_is_right ?i_Give_is_right ?l_Give_is_right ?c_Give_is_right ?k_Give_is_right ?i_Fail_is_right ?l_Fail_is_right ?c_Fail_is_right ?k_Fail_is_right ?i_Set_is_right ?l_Set_is_right ?c_Set_is_right ?k_Set_is_right ?i_New_is_right ?l_New_is_right ?c_New_is_right ?k_New_is_right ?i_Put_is_right ?l_Put_is_right ?c_Put_is_right ?k_Put_is_right ?i_Do_is_right ?l_Do_is_right ?c_Do_is_right ?k_Do_is_right ?i_Get_is_right ?l_Get_is_right ?c_Get_is_right ?k_Get_is_right ?i_Call_is_right ?l_Call_is_right ?c_Call_is_right ?k_Call_is_right ?a_row_of ?l_row_of ?c_row_of ?k_row_of ?a_is_row ?l_is_row ?c_is_row ?k_is_row ?a_word_fits ?l_word_fits ?c_word_fits ?k_word_fits ?a_check_blocks ?l_check_blocks ?c_check_blocks ?k_check_blocks ?a_def_of ?l_def_of ?c_def_of ?k_def_of ?a_check_calls ?l_check_calls ?c_check_calls ?k_check_calls ?a_program_of ?l_program_of ?c_program_of ?k_program_of ?a__law_cell_at ?l__law_cell_at ?c__law_cell_at ?k__law_cell_at ?a__law_words ?l__law_words ?c__law_words ?k__law_words ?a__law_operand ?l__law_operand ?c__law_operand ?k__law_operand ?a__law_key ?l__law_key ?c__law_key ?k__law_key ?a__law_call ?l__law_call ?c__law_call ?k__law_call ?a__law_simple ?l__law_simple ?c__law_simple ?k__law_simple ?a__law_lay ?l__law_lay ?c__law_lay ?k__law_lay ?a__law_plan ?l__law_plan ?c__law_plan ?k__law_plan ?a__law_program ?l__law_program ?c__law_program ?k__law_program ?a__law_which ?l__law_which ?c__law_which ?k__law_which ?a__law_outcome ?l__law_outcome ?c__law_outcome ?k__law_outcome ?a__law_turned ?l__law_turned ?c__law_turned ?k__law_turned ?a__law_open ?l__law_open ?c__law_open ?k__law_open ?a__law_breaks ?l__law_breaks ?c__law_breaks ?k__law_breaks ?a__law_due ?l__law_due ?c__law_due ?k__law_due ?a_law ?l_law ?c_law ?k_law ?x_SliceError ?x_TooGreat ?x_NoPlace ?x_Unlike ?x_NoFault ?x_Done ?x_NoRow ?x_NoBlock ?x_NoCall ?x_NoText ?eE_SliceError ?tE_SliceError ?hE_SliceError ?eE_TooGreat ?tE_TooGreat ?hE_TooGreat ?tE_NoPlace ?hE_NoPlace ?tE_Unlike ?hE_Unlike ?tE_NoFault ?hE_NoFault ?tE_Done ?hE_Done ?eE_NoRow ?tE_NoRow ?hE_NoRow ?eE_NoBlock ?tE_NoBlock ?hE_NoBlock ?eE_NoCall ?tE_NoCall ?hE_NoCall ?tE_NoText ?hE_NoText ?kE_TooGreat ?gE_TooGreat ?ggE_TooGreat ?cE_TooGreat ?mE_TooGreat ?vE_TooGreat ?kE_NoRow ?gE_NoRow ?ggE_NoRow ?cE_NoRow ?mE_NoRow ?lE_NoRow ?sE_NoRow ?pE_NoRow ?iE_NoRow ?jE_NoRow ?fE_NoRow ?qE_NoRow ?kE_NoBlock ?gE_NoBlock ?ggE_NoBlock ?cE_NoBlock ?mE_NoBlock ?lE_NoBlock ?sE_NoBlock ?pE_NoBlock ?iE_NoBlock ?jE_NoBlock ?fE_NoBlock ?qE_NoBlock ?kE_NoCall ?gE_NoCall ?ggE_NoCall ?cE_NoCall ?mE_NoCall ?lE_NoCall ?sE_NoCall ?pE_NoCall ?iE_NoCall ?jE_NoCall ?fE_NoCall ?qE_NoCall ?oE_n ?oE_t ?sf_NoBlock ?kt_NoBlock_TooGreat ?kt_NoBlock_NoRow ?kt_NoBlock_NoBlock ?kt_NoBlock_NoCall ?sf_NoRow ?kt_NoRow_TooGreat ?kt_NoRow_NoRow ?kt_NoRow_NoBlock ?kt_NoRow_NoCall ?sf_TooGreat ?kt_TooGreat_TooGreat ?kt_TooGreat_NoRow ?kt_TooGreat_NoBlock ?kt_TooGreat_NoCall ?sf_NoPlace ?kt_NoPlace_TooGreat ?kt_NoPlace_NoRow ?kt_NoPlace_NoBlock ?kt_NoPlace_NoCall ?sf_NoText ?kt_NoText_TooGreat ?kt_NoText_NoRow ?kt_NoText_NoBlock ?kt_NoText_NoCall ?sf_NoCall ?kt_NoCall_TooGreat ?kt_NoCall_NoRow ?kt_NoCall_NoBlock ?kt_NoCall_NoCall ?sf_Done ?kt_Done_TooGreat ?kt_Done_NoRow ?kt_Done_NoBlock ?kt_Done_NoCall ?sf_NoFault ?kt_NoFault_TooGreat ?kt_NoFault_NoRow ?kt_NoFault_NoBlock ?kt_NoFault_NoCall ?sf_Unlike ?kt_Unlike_TooGreat ?kt_Unlike_NoRow ?kt_Unlike_NoBlock ?kt_Unlike_NoCall ?kt_ValueError_TooGreat ?kt_ValueError_NoRow ?kt_ValueError_NoBlock ?kt_ValueError_NoCall ?ex_SliceError_TooGreat ?ex_SliceError_NoRow ?ex_SliceError_NoBlock ?ex_SliceError_NoCall ?n_ValueError ?n_int ?n_isinstance ?n_bool ?n_str ?n_len ?n_all ?n_sorted ?n_set ?n_tuple ?n_enumerate ?n_list ?n_range ?n_sum ?g_H ?g_LETTERS ?g_RECKONING ?q_RECKONING ?z_RECKONING ?v_RECKONING ?g_MOST_PARAMETERS ?g_MOST_ROWS
    (case x_Row => k_is)
    (case pg_Row => k_is)
    (case hd_Row => k_is)
    (case po_Row => k_is)
    (case sa_Row => k_is)
    (case mk_Row => k_is)
    (case kc_Row => k_is)
    (case in_Row => k_is)
    (case na_Row_parts => k_is)
    (case me_Row_is_right => k_is)
    (case x_Bare => k_is)
    (case pg_Bare => k_is)
    (case hd_Bare => k_is)
    (case po_Bare => k_is)
    (case sa_Bare => k_is)
    (case mk_Bare => k_is)
    (case kc_Bare => k_is)
    (case in_Bare => k_is)
    (case na_Bare_parts => k_is)
    (case me_Bare_is_right => k_is)
    (case x_Def => k_is)
    (case pg_Def => k_is)
    (case hd_Def => k_is)
    (case po_Def => k_is)
    (case sa_Def => k_is)
    (case mk_Def => k_is)
    (case kc_Def => k_is)
    (case in_Def => k_is)
    (case na_Def_parts => k_is)
    (case me_Def_is_right => k_is)
    (case x_Give => k_is)
    (case pg_Give => k_is)
    (case hd_Give => k_is)
    (case po_Give => k_is)
    (case sa_Give => k_is)
    (case mk_Give => k_is)
    (case kc_Give => k_is)
    (case in_Give => k_is)
    (case na_Give_parts => k_is)
    (case me_Give_is_right => k_is)
    (case x_While => k_is)
    (case pg_While => k_is)
    (case hd_While => k_is)
    (case po_While => k_is)
    (case sa_While => k_is)
    (case mk_While => k_is)
    (case kc_While => k_is)
    (case in_While => k_is)
    (case na_While_parts => k_is)
    (case me_While_is_right => k_is)
    (case x_Fail => k_is)
    (case pg_Fail => k_is)
    (case hd_Fail => k_is)
    (case po_Fail => k_is)
    (case sa_Fail => k_is)
    (case mk_Fail => k_is)
    (case kc_Fail => k_is)
    (case in_Fail => k_is)
    (case na_Fail_parts => k_is)
    (case me_Fail_is_right => k_is)
    (case x_Set => k_is)
    (case pg_Set => k_is)
    (case hd_Set => k_is)
    (case po_Set => k_is)
    (case sa_Set => k_is)
    (case mk_Set => k_is)
    (case kc_Set => k_is)
    (case in_Set => k_is)
    (case na_Set_parts => k_is)
    (case me_Set_is_right => k_is)
    (case x_New => k_is)
    (case pg_New => k_is)
    (case hd_New => k_is)
    (case po_New => k_is)
    (case sa_New => k_is)
    (case mk_New => k_is)
    (case kc_New => k_is)
    (case in_New => k_is)
    (case na_New_parts => k_is)
    (case me_New_is_right => k_is)
    (case x_Put => k_is)
    (case pg_Put => k_is)
    (case hd_Put => k_is)
    (case po_Put => k_is)
    (case sa_Put => k_is)
    (case mk_Put => k_is)
    (case kc_Put => k_is)
    (case in_Put => k_is)
    (case na_Put_parts => k_is)
    (case me_Put_is_right => k_is)
    (case x_Do => k_is)
    (case pg_Do => k_is)
    (case hd_Do => k_is)
    (case po_Do => k_is)
    (case sa_Do => k_is)
    (case mk_Do => k_is)
    (case kc_Do => k_is)
    (case in_Do => k_is)
    (case na_Do_parts => k_is)
    (case me_Do_is_right => k_is)
    (case x_Get => k_is)
    (case pg_Get => k_is)
    (case hd_Get => k_is)
    (case po_Get => k_is)
    (case sa_Get => k_is)
    (case mk_Get => k_is)
    (case kc_Get => k_is)
    (case in_Get => k_is)
    (case na_Get_parts => k_is)
    (case me_Get_is_right => k_is)
    (case x_Call => k_is)
    (case pg_Call => k_is)
    (case hd_Call => k_is)
    (case po_Call => k_is)
    (case sa_Call => k_is)
    (case mk_Call => k_is)
    (case kc_Call => k_is)
    (case in_Call => k_is)
    (case na_Call_parts => k_is)
    (case me_Call_is_right => k_is)
    (case a_is_number => k_is)
    (case l_is_number => k_is)
    (case c_is_number => k_is)
    (case k_is_number => k_is)
    (case a_is_name => k_is)
    (case l_is_name => k_is)
    (case c_is_name => k_is)
    (case k_is_name => k_is)
    (case a_is_operand => k_is)
    (case l_is_operand => k_is)
    (case c_is_operand => k_is)
    (case k_is_operand => k_is)
    (case a_is_field => k_is)
    (case l_is_field => k_is)
    (case c_is_field => k_is)
    (case k_is_field => k_is)
    (case a_names_among => k_is)
    (case l_names_among => k_is)
    (case c_names_among => k_is)
    (case k_names_among => k_is)
    (case a_all_operands => k_is)
    (case l_all_operands => k_is)
    (case c_all_operands => k_is)
    (case k_all_operands => k_is)
    (case i_Row_init => k_is)
    (case l_Row_init => k_is)
    (case c_Row_init => k_is)
    (case k_Row_init => k_is)
    (case i_Row_is_right => k_is)
    (case l_Row_is_right => k_is)
    (case c_Row_is_right => k_is)
    (case k_Row_is_right => k_is)
    (case i_Bare_is_right => k_is)
    (case l_Bare_is_right => k_is)
    (case c_Bare_is_right => k_is)
    (case k_Bare_is_right => k_is)
    (case i_Def_is_right => k_is)
    (case l_Def_is_right => k_is)
    (case c_Def_is_right => k_is)
    (case k_Def_is_right => k_is)
    (case i_Give_is_right => k_is)
    (case l_Give_is_right => k_is)
    (case c_Give_is_right => k_is)
    (case k_Give_is_right => k_is)
    (case i_Fail_is_right => k_is)
    (case l_Fail_is_right => k_is)
    (case c_Fail_is_right => k_is)
    (case k_Fail_is_right => k_is)
    (case i_Set_is_right => k_is)
    (case l_Set_is_right => k_is)
    (case c_Set_is_right => k_is)
    (case k_Set_is_right => k_is)
    (case i_New_is_right => k_is)
    (case l_New_is_right => k_is)
    (case c_New_is_right => k_is)
    (case k_New_is_right => k_is)
    (case i_Put_is_right => k_is)
    (case l_Put_is_right => k_is)
    (case c_Put_is_right => k_is)
    (case k_Put_is_right => k_is)
    (case i_Do_is_right => k_is)
    (case l_Do_is_right => k_is)
    (case c_Do_is_right => k_is)
    (case k_Do_is_right => k_is)
    (case i_Get_is_right => k_is)
    (case l_Get_is_right => k_is)
    (case c_Get_is_right => k_is)
    (case k_Get_is_right => k_is)
    (case i_Call_is_right => k_is)
    (case l_Call_is_right => k_is)
    (case c_Call_is_right => k_is)
    (case k_Call_is_right => k_is)
    (case a_row_of => k_is)
    (case l_row_of => k_is)
    (case c_row_of => k_is)
    (case k_row_of => k_is)
    (case a_is_row => k_is)
    (case l_is_row => k_is)
    (case c_is_row => k_is)
    (case k_is_row => k_is)
    (case a_word_fits => k_is)
    (case l_word_fits => k_is)
    (case c_word_fits => k_is)
    (case k_word_fits => k_is)
    (case a_check_blocks => k_is)
    (case l_check_blocks => k_is)
    (case c_check_blocks => k_is)
    (case k_check_blocks => k_is)
    (case a_def_of => k_is)
    (case l_def_of => k_is)
    (case c_def_of => k_is)
    (case k_def_of => k_is)
    (case a_check_calls => k_is)
    (case l_check_calls => k_is)
    (case c_check_calls => k_is)
    (case k_check_calls => k_is)
    (case a_program_of => k_is)
    (case l_program_of => k_is)
    (case c_program_of => k_is)
    (case k_program_of => k_is)
    (case a__law_cell_at => k_is)
    (case l__law_cell_at => k_is)
    (case c__law_cell_at => k_is)
    (case k__law_cell_at => k_is)
    (case a__law_words => k_is)
    (case l__law_words => k_is)
    (case c__law_words => k_is)
    (case k__law_words => k_is)
    (case a__law_operand => k_is)
    (case l__law_operand => k_is)
    (case c__law_operand => k_is)
    (case k__law_operand => k_is)
    (case a__law_key => k_is)
    (case l__law_key => k_is)
    (case c__law_key => k_is)
    (case k__law_key => k_is)
    (case a__law_call => k_is)
    (case l__law_call => k_is)
    (case c__law_call => k_is)
    (case k__law_call => k_is)
    (case a__law_simple => k_is)
    (case l__law_simple => k_is)
    (case c__law_simple => k_is)
    (case k__law_simple => k_is)
    (case a__law_lay => k_is)
    (case l__law_lay => k_is)
    (case c__law_lay => k_is)
    (case k__law_lay => k_is)
    (case a__law_plan => k_is)
    (case l__law_plan => k_is)
    (case c__law_plan => k_is)
    (case k__law_plan => k_is)
    (case a__law_program => k_is)
    (case l__law_program => k_is)
    (case c__law_program => k_is)
    (case k__law_program => k_is)
    (case a__law_which => k_is)
    (case l__law_which => k_is)
    (case c__law_which => k_is)
    (case k__law_which => k_is)
    (case a__law_outcome => k_is)
    (case l__law_outcome => k_is)
    (case c__law_outcome => k_is)
    (case k__law_outcome => k_is)
    (case a__law_turned => k_is)
    (case l__law_turned => k_is)
    (case c__law_turned => k_is)
    (case k__law_turned => k_is)
    (case a__law_open => k_is)
    (case l__law_open => k_is)
    (case c__law_open => k_is)
    (case k__law_open => k_is)
    (case a__law_breaks => k_is)
    (case l__law_breaks => k_is)
    (case c__law_breaks => k_is)
    (case k__law_breaks => k_is)
    (case a__law_due => k_is)
    (case l__law_due => k_is)
    (case c__law_due => k_is)
    (case k__law_due => k_is)
    (case a_law => k_is)
    (case l_law => k_is)
    (case c_law => k_is)
    (case k_law => k_is)
    (case x_SliceError => k_is)
    (case x_TooGreat => k_is)
    (case x_NoPlace => k_is)
    (case x_Unlike => k_is)
    (case x_NoFault => k_is)
    (case x_Done => k_is)
    (case x_NoRow => k_is)
    (case x_NoBlock => k_is)
    (case x_NoCall => k_is)
    (case x_NoText => k_is)
    (case eE_SliceError => k_is)
    (case tE_SliceError => k_is)
    (case hE_SliceError => k_is)
    (case eE_TooGreat => k_is)
    (case tE_TooGreat => k_is)
    (case hE_TooGreat => k_is)
    (case tE_NoPlace => k_is)
    (case hE_NoPlace => k_is)
    (case tE_Unlike => k_is)
    (case hE_Unlike => k_is)
    (case tE_NoFault => k_is)
    (case hE_NoFault => k_is)
    (case tE_Done => k_is)
    (case hE_Done => k_is)
    (case eE_NoRow => k_is)
    (case tE_NoRow => k_is)
    (case hE_NoRow => k_is)
    (case eE_NoBlock => k_is)
    (case tE_NoBlock => k_is)
    (case hE_NoBlock => k_is)
    (case eE_NoCall => k_is)
    (case tE_NoCall => k_is)
    (case hE_NoCall => k_is)
    (case tE_NoText => k_is)
    (case hE_NoText => k_is)
    (case kE_TooGreat => k_is)
    (case gE_TooGreat => k_is)
    (case ggE_TooGreat => k_is)
    (case cE_TooGreat => k_is)
    (case mE_TooGreat => k_is)
    (case vE_TooGreat => k_exc)
    (case kE_NoRow => k_is)
    (case gE_NoRow => k_is)
    (case ggE_NoRow => k_is)
    (case cE_NoRow => k_is)
    (case mE_NoRow => k_is)
    (case lE_NoRow => k_is)
    (case sE_NoRow => k_is)
    (case pE_NoRow => k_is)
    (case iE_NoRow => k_is)
    (case jE_NoRow => k_is)
    (case fE_NoRow => k_is)
    (case qE_NoRow => k_is)
    (case kE_NoBlock => k_is)
    (case gE_NoBlock => k_is)
    (case ggE_NoBlock => k_is)
    (case cE_NoBlock => k_is)
    (case mE_NoBlock => k_is)
    (case lE_NoBlock => k_is)
    (case sE_NoBlock => k_is)
    (case pE_NoBlock => k_is)
    (case iE_NoBlock => k_is)
    (case jE_NoBlock => k_is)
    (case fE_NoBlock => k_is)
    (case qE_NoBlock => k_is)
    (case kE_NoCall => k_is)
    (case gE_NoCall => k_is)
    (case ggE_NoCall => k_is)
    (case cE_NoCall => k_is)
    (case mE_NoCall => k_is)
    (case lE_NoCall => k_is)
    (case sE_NoCall => k_is)
    (case pE_NoCall => k_is)
    (case iE_NoCall => k_is)
    (case jE_NoCall => k_is)
    (case fE_NoCall => k_is)
    (case qE_NoCall => k_is)
    (case oE_n => k_is)
    (case oE_t => k_is)
    (case sf_NoBlock => k_is)
    (case kt_NoBlock_TooGreat => k_is)
    (case kt_NoBlock_NoRow => k_is)
    (case kt_NoBlock_NoBlock => k_is)
    (case kt_NoBlock_NoCall => k_is)
    (case sf_NoRow => k_is)
    (case kt_NoRow_TooGreat => k_is)
    (case kt_NoRow_NoRow => k_is)
    (case kt_NoRow_NoBlock => k_is)
    (case kt_NoRow_NoCall => k_is)
    (case sf_TooGreat => k_is)
    (case kt_TooGreat_TooGreat => k_is)
    (case kt_TooGreat_NoRow => k_is)
    (case kt_TooGreat_NoBlock => k_is)
    (case kt_TooGreat_NoCall => k_is)
    (case sf_NoPlace => k_is)
    (case kt_NoPlace_TooGreat => k_is)
    (case kt_NoPlace_NoRow => k_is)
    (case kt_NoPlace_NoBlock => k_is)
    (case kt_NoPlace_NoCall => k_is)
    (case sf_NoText => k_is)
    (case kt_NoText_TooGreat => k_is)
    (case kt_NoText_NoRow => k_is)
    (case kt_NoText_NoBlock => k_is)
    (case kt_NoText_NoCall => k_is)
    (case sf_NoCall => k_is)
    (case kt_NoCall_TooGreat => k_is)
    (case kt_NoCall_NoRow => k_is)
    (case kt_NoCall_NoBlock => k_is)
    (case kt_NoCall_NoCall => k_is)
    (case sf_Done => k_is)
    (case kt_Done_TooGreat => k_is)
    (case kt_Done_NoRow => k_is)
    (case kt_Done_NoBlock => k_is)
    (case kt_Done_NoCall => k_is)
    (case sf_NoFault => k_is)
    (case kt_NoFault_TooGreat => k_is)
    (case kt_NoFault_NoRow => k_is)
    (case kt_NoFault_NoBlock => k_is)
    (case kt_NoFault_NoCall => k_is)
    (case sf_Unlike => k_is)
    (case kt_Unlike_TooGreat => k_is)
    (case kt_Unlike_NoRow => k_is)
    (case kt_Unlike_NoBlock => k_is)
    (case kt_Unlike_NoCall => k_is)
    (case kt_ValueError_TooGreat => k_is)
    (case kt_ValueError_NoRow => k_is)
    (case kt_ValueError_NoBlock => k_is)
    (case kt_ValueError_NoCall => k_is)
    (case ex_SliceError_TooGreat => k_is)
    (case ex_SliceError_NoRow => k_is)
    (case ex_SliceError_NoBlock => k_is)
    (case ex_SliceError_NoCall => k_is)
    (case n_ValueError => k_is)
    (case n_int => k_is)
    (case n_isinstance => k_is)
    (case n_bool => k_is)
    (case n_str => k_is)
    (case n_len => k_is)
    (case n_all => k_is)
    (case n_sorted => k_is)
    (case n_set => k_is)
    (case n_tuple => k_is)
    (case n_enumerate => k_is)
    (case n_list => k_is)
    (case n_range => k_is)
    (case n_sum => k_is)
    (case g_H => k_is)
    (case g_LETTERS => k_is)
    (case g_RECKONING => k_is)
    (case q_RECKONING => k_is)
    (case z_RECKONING => decide +kernel)
    (case v_RECKONING => exact (.cons ⟨_, rfl⟩ (.cons ⟨_, rfl⟩ (.cons ⟨_, rfl⟩ (.cons ⟨_, rfl⟩ (.cons ⟨_, rfl⟩ (.cons ⟨_, rfl⟩ (.cons ⟨_, rfl⟩ .nil))))))))
    (case g_MOST_PARAMETERS => k_is)
    (case g_MOST_ROWS => k_is)
