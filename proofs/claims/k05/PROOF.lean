import PyProof.Rows.All
import Wide.All
import OpenK.AllK
import Wide.FinOn
import PyProof.ReprRoads
import KE.KExcIs
import HandS.ForMost
import HandS.ForExc
import HandS.ExcInit
import HandS.ExcField
import HandS.ExcIs
import HandS.IsInst
import HandS.Replace
import KE.GoesEnum
import KE.GoesEnumKw
import HandS.Walk
import PyProof.Rows.StrStep
import HandS.Style
import PyProof.InstNe
import HandS.OwnEq
import HandS.TupAny
import HandS.TupMul
import KE.KRevSl
import PyProof.Rows.CallKwBuiltin
import HandS.Defaults
import PyProof.Seq
import KE.GoesMore
import HandS.Zip
import HandS.Lambda
import HandS.Wide
import PyProof.CallFns
import HandS.MakeKwOnly
import HandS.Dict
import HandS.DictComp
import HandS.More
import HandS.Text
import HandS.Steps
import PyProof.Rows.IntBool
import PyProof.Rows.StrCase
import PyProof.Rows.ReprOcc
import HandS.CallSlots
import HandS.EndTab
import HandS.Iter
import PyProof.ListStr
import PyProof.StrBlock2
import PySem.Challenge.RW_byteround_k05_whole_words_there_and_back
set_option Elab.async false
set_option linter.all false
set_option maxRecDepth 100000
set_option maxHeartbeats 4000000
/-! An exception that a clause catches and keeps under a name: behind the suite it is tracked. -/
namespace Br
open PySem PySem.Spec PyProof.Rows L2
/-- at a: a caught exception of the class cls, its dict d -/
def xob (a : Addr) (cls : Value) (d : Option Addr) : HO := .ext fun h => ∃ oe vs, h.get? a = some oe ∧ Zc cls d oe ∧ oe.data = .fields vs
theorem xob_ok {P : Program} {w : World} {H : Hp} {h : Heap} {a : Addr} {cls : Value} {d : Option Addr} {oe : Obj} {vs : Array Value} (he : h.get? a = some oe) (hz : Zc cls d oe) (hd : oe.data = .fields vs) : ObjOk P w H h a (xob a cls d) :=
  ⟨⟨oe, vs, he, hz, hd⟩, ⟨_, he⟩, fun h1 h2 ⟨o, v, q, z, e⟩ k => ⟨o, v, k _ q, z, e⟩⟩
theorem xob_at {P : Program} {w : World} {H : Hp} {h : Heap} {a : Addr} {cls : Value} {d : Option Addr} (hok : HOk P w H h) (e : H a = some (xob a cls d)) : ∃ oe vs, h.get? a = some oe ∧ Zc cls d oe ∧ oe.data = .fields vs := by
  have x : ObjOk P w H h a (.ext fun h => ∃ oe vs, h.get? a = some oe ∧ Zc cls d oe ∧ oe.data = .fields vs) := hok a _ e
  exact x.1
section
variable {X : Cx} {pins : List (Addr × Obj)} {σ : L2.St} {H : Hp} {s : Shared}
theorem track {a : Addr} {cls : Value} {d : Option Addr} {oe : Obj} {vs : Array Value} (I : Inv X pins σ H s) (ha : s.heap.get? a = some oe) (hd : oe.data = .fields vs) (hz : Zc cls d oe) (na : H a = none) (nL : a ≠ X.env.locals)
    (n0 : X.s_0.heap.get? a = none) (np : ∀ p ∈ X.pn ++ pins, p.1 ≠ a) : Inv X pins σ (upd H a (xob a cls d)) s := by
  have ne : ∀ {b : Addr} {o : HO}, H b = some o → b ≠ a := fun {b o} q => ne_of_none q na
  refine ⟨I.ok, I.os, I.bare, ⟨I.base.keep, I.base.slot, fun b o e n hx => ?_, I.base.there, fun b xs e => ?_, fun b o u e => ?_, fun b ps e => ?_⟩, I.loc, I.cell, ?_, fun x c e => ?_, fun p hp => ?_, fun b o q => ?_, I.len⟩
  · have hb : b ≠ a := fun z => by rw [z, n0] at e; cases e
    rw [upd_ne hb]
    exact I.base.free b o e n hx
  · have q := I.base.tups b xs e
    rw [upd_ne (ne q)]
    exact q
  · have q := I.base.frzs b o u e
    rw [upd_ne (ne q)]
    exact q
  · obtain ⟨m, q⟩ := I.base.tbls b ps e
    exact ⟨m, by rw [upd_ne (ne q)]; exact q⟩
  · rw [upd_ne (Ne.symm nL)]
    exact I.free
  · have hc : c ≠ a := fun z => by
      obtain ⟨v, o, ho, hdc⟩ := I.cell x c e
      rw [z, ha] at ho
      cases ho
      rw [hd] at hdc
      cases hdc
    rw [upd_ne hc]
    exact I.freeC x c e
  · obtain ⟨e, n, neL, nf, dd⟩ := I.pin p hp
    exact ⟨e, by rw [upd_ne (np p hp)]; exact n, neL, nf, dd⟩
  · by_cases hb : b = a
    · subst hb
      rw [upd_same] at q
      cases q
      exact xob_ok ha hz hd
    · rw [upd_ne hb] at q
      exact (I.hok b o q).stay (fun c v _ r => r) (fun c r => by rw [upd_ne (ne r)]; exact r) fun c xs r => by rw [upd_ne (ne r)]; exact r
end
/-- behind the suite: its name (slot i) is gone, the exception at a is tracked -/
def endsKp (D : Ends) (i : Nat) (a : Addr) (o : HO) : Ends := { nx := fun σ' H' => H' a = none → D.nx (σ'.set i none) (upd H' a o), rt := fun v H' => H' a = none → D.rt v (upd H' a o), bk := fun σ' H' => H' a = none → D.bk (σ'.set i none) (upd H' a o), ct := fun σ' H' => H' a = none → D.ct (σ'.set i none) (upd H' a o) }
/-- what «except x as n: suite» wishes, the exception tracked behind the suite -/
def wKp (K : PySem.W.Frag) (c : Value) (i : Nat) (ts : Addr → Value → Option Addr → TS) (Wout : WX) (D : Ends) : WX := fun cls d σ H =>
  ∃ b, PySem.W.exmOne K cls c = some b ∧ (b = true → ∀ a, H a = none → ts a cls d (endsKp D i a (xob a cls d)) (σ.set i (some (.ref a))) H) ∧ (b = false → Wout cls d σ H)
section
variable {X : Cx} {x n : Str} {c : Value} {i : Nat} {body suite : List Stmt} {b₀ : Stmt} {np pos pos' : Pos} {tb : WX → TS} {ts : Addr → Value → Option Addr → TS} {Wout : WX}
theorem sky_none {B : Heap} {l : List Env} {a : Addr} {Z : Obj → Prop} {L : Addr} {h : Heap} (k : Sky B l a Z L h) : B.get? a = none := by
  rcases k with k | k | k
  · exact k.2.1
  · exact k.2.1
  · exact k.2.1
theorem ps_try_kp (hs : X.stack = X.env :: X.outer) (hf : X.env.frame = some X.env.locals) (hex : X.ex = []) (hN : X.N.Nodup) (hi : X.N[i]? = some n) (hln : X.env.kindOf n = some .local) (hc : Names X x c) (tk : Takes X Wout)
    (hb : ∀ (W : WX) (pn : List (Addr × Obj)) (xe : Value → Shared → Prop), Takes (X.tr pn xe) W → PassesOwn (model X.prog X.w) X.A X.env xe → PSs (X.tr pn xe) body (tb W))
    (hsu : ∀ (a : Addr) (oe : Obj) (cls : Value) (d : Option Addr) (pn : List (Addr × Obj)), Zc cls d oe → (∃ vs, oe.data = .fields vs) → PSs (X.suite a ((a, oe) :: pn)) (b₀ :: suite) (ts a cls d)) :
    PS X (.Try body [.ExceptHandler (some (.Name x np)) (some n) (b₀ :: suite) pos'] [] [] pos) (fun D σ H => tb (wKp X.K c i ts Wout D) D σ H) := by
  refine ⟨fun pins s σ H D I h => ?_⟩
  have ok := I.ok
  have hfr : X.A.frames = some (X.env :: X.outer) := by rw [ok.frames, hs]
  have hloc : Loc X.env.scope n := .inl hln
  refine wpAny_Try_except ?_
  refine wpAny_mono ((hb (wKp X.K c i ts Wout D) (X.pn ++ pins) (fun e s₁ => wpAny (model X.prog X.w) X.A (noteFrame e X.env) (fun _ s₂ => wpAny (model X.prog X.w) X.A (setFlight e none) (fun _ s₃ =>
    wpAny (model X.prog X.w) X.A (handleBy e X.env [.ExceptHandler (some (.Name x np)) (some n) (b₀ :: suite) pos']) (SP X pins D) X.xe s₃) X.xe s₂) X.xe s₁) (fun u s' xx => ?_) PassesOwn.looking).run [] s σ H D (I.toTry _) h) (fun f s1 hsp => ?_) (fun e s1 he => he)
  · -- the catch
    obtain ⟨a, B, sI, pins', σ', H', cls, d, rfl, J', nb, up, sky, na, os, ag, b, hb1, hyes, hno⟩ := xx
    have J : Inv X pins σ' H' sI := J'.ofTry ok
    have sky' : Sky B (X.env :: X.outer) a (Zc cls d) X.env.locals s'.heap := by rw [← hs]; exact sky
    have nBa : B.get? a = none := sky_none sky'
    show wpAny (model X.prog X.w) X.A (noteFrame (.ref a) X.env) _ _ _
    refine Sky.land Zc.steady hfr hf sky' fun h3 fl3 up3 => ?_
    have J3 : Inv X pins σ' H' { s' with heap := h3 } := J.landed nb fl3.1 (up.trans up3) os ag
    obtain ⟨oe3, vs3, he3, hz3, hd3⟩ := fl3.there
    have notFr : ∀ {h : Heap} {o : Obj} {vs : Array Value}, h.FunFrames B (X.env :: X.outer) → h.get? a = some o → o.data = .fields vs → a ∉ frs (X.env :: X.outer) := fun {h o vs} ff e dd hm => by
      obtain ⟨_, o', e', hnf⟩ := ff.mem hm
      rw [e] at e'; cases e'
      exact hnf _ dd
    have nfr := notFr fl3.2.2.1 he3 hd3
    have nL : a ≠ X.env.locals := fun z => nfr (List.mem_filterMap.mpr ⟨X.env, List.mem_cons_self, by rw [hf, z]⟩)
    have nF : a ∉ X.fs := fun hm => by
      obtain ⟨e, he, q⟩ := List.mem_filterMap.mp hm
      exact nfr (List.mem_filterMap.mpr ⟨e, List.mem_cons_of_mem _ he, q⟩)
    have nI : sI.heap.get? a = none := by
      cases q : sI.heap.get? a with
      | none => rfl
      | some o =>
        have z := nb a o q (by rw [hs]; exact nfr)
        rw [nBa] at z; cases z
    have n0 : X.s_0.heap.get? a = none := by
      cases q : X.s_0.heap.get? a with
      | none => rfl
      | some o =>
        obtain ⟨o', z⟩ := J.base.there a o q (by rw [hex]; simp)
        rw [nI] at z; cases z
    have npn : ∀ p ∈ X.pn ++ pins, p.1 ≠ a := fun p hp z => by
      obtain ⟨e, _⟩ := J.pin p hp
      rw [z, nI] at e; cases e
    have S3 := J3.suite he3 hd3 na nL nF
    refine wpAny_handleBy_cons (codeAny_handlers_test ?_) (by intro q; cases q)
    have LT : PySem.W.Looks (model X.prog X.w) h3 (typeOf (.ref a)) cls := fun A Q E s k q => wpAny_typeOf_ref (k _ _ he3) (by rw [hz3.1]; exact q)
    have LM := PySem.W.exm_one (M := model X.prog X.w) (J3.kIn) LT hb1
    have test : ∀ {Q : Value → Shared → Prop} {E : Value → Shared → Prop}, Q c { s' with heap := h3 } → wpAny (model X.prog X.w) (X.A.mark (some (.ref a))) (eval (.Name x np) X.env) Q E { s' with heap := h3 } := fun {Q E} q => by
      obtain ⟨hg, hdbg, hm | ⟨hm, hv, hnn⟩⟩ := hc
      · exact ld_glob (X := X.suite a ((a, oe3) :: (X.pn ++ pins))) S3 hg hm q hdbg
      · exact ld_blt (X := X.suite a ((a, oe3) :: (X.pn ++ pins))) S3 hg hm hv q hnn hdbg
    refine test (LM.here ?_)
    cases b with
    | true =>
      refine codeAny_handlers_suite_as ?_
      refine HandSPX.lands_againZ fl3 fun h4 fl4 up4 => ?_
      have J4 : Inv X pins σ' H' { s' with heap := h4 } := J.landed nb fl4.1 ((up.trans up3).trans up4) os ag
      obtain ⟨oe4, vs4, he4, hz4, hd4⟩ := fl4.there
      have S4 := J4.suite he4 hd4 na nL nF
      refine store_ok (X := X.suite a ((a, oe4) :: (X.pn ++ pins))) (v := .ref a) S4 hN hi hloc rfl (fun s5 S5 => ?_) (.inr hln)
      refine wpAny_mono ((hsu a oe4 cls d (X.pn ++ pins) hz4 ⟨_, hd4⟩).run [] s5 _ H' _ S5 (hyes rfl a na)) (fun f s6 hsp => ?_) (fun _ _ z => False.elim z)
      have end_ : ∀ {σ6 : L2.St} {H6 : Hp} {Q : Shared → Prop}, Inv (X.suite a ((a, oe4) :: (X.pn ++ pins))) [] σ6 H6 s6 → (H6 a = none → ∀ s7, Inv X pins (σ6.set i none) (upd H6 a (xob a cls d)) s7 → Q s7) →
          wpAny (model X.prog X.w) X.A (do bindName X.env n .none; unbindBehindTheSuite X.env n pos') (fun _ s7 => Q s7) X.xe s6 := fun {σ6 H6 Q} S6 hq => by
        obtain ⟨p1, p2, _⟩ := S6.pin (a, oe4) (List.mem_append_left _ List.mem_cons_self)
        exact gone_ok (track (S6.unsuite ok) p1 hd4 hz4 p2 nL n0 npn) hN hi hln (hq p2)
      cases f with
      | next =>
        obtain ⟨σ6, H6, S6, q6⟩ := hsp
        exact end_ S6 fun n6 s7 J7 => ⟨_, _, J7, q6 n6⟩
      | brk =>
        obtain ⟨σ6, H6, S6, q6⟩ := hsp
        exact end_ S6 fun n6 s7 J7 => ⟨_, _, J7, q6 n6⟩
      | cont =>
        obtain ⟨σ6, H6, S6, q6⟩ := hsp
        exact end_ S6 fun n6 s7 J7 => ⟨_, _, J7, q6 n6⟩
      | ret u =>
        obtain ⟨v6, σ6, H6, S6, r6, q6⟩ := hsp
        exact end_ S6 fun n6 s7 J7 => ⟨_, _, _, J7, r6, q6 n6⟩
    | false =>
      show wpAny _ X.A (handleBy (.ref a) X.env []) _ _ _
      refine wpAny_handleBy_nil ?_
      obtain ⟨k1, k2, k3, oe, vs, T, oT, ts', he, hz, hd, h1, hr⟩ := id fl3
      unfold PySem.passOn
      refine wpAny_bind (wpAny_field he hd h1 ?_)
      rw [if_neg (show ¬ ((Value.ref T == Value.none) = true) from by simp)]
      have fin : wpAny (model X.prog X.w) X.A (setFlight (.ref a) X.env.frame) (fun _ s4 => wpAny (model X.prog X.w) X.A (throw (.ref a) : Sem Flow) (SP X pins D) X.xe s4) X.xe { s' with heap := h3 } := by
        rw [hf]
        refine HandSPX.setFlight_upZ fl3 fun h4 hh4 up4 => wpAny_throw (tk _ _ ?_)
        exact ⟨a, B, sI, pins, σ', H', cls, d, rfl, J, nb, (up.trans up3).trans up4, .inr (.inr (by rw [hs]; exact hh4)), na, os, ag, hno rfl⟩
      first
        | exact wpAny_bind (wpAny_pure (wpAny_bind fin))
        | exact wpAny_bind fin
  · cases f with
    | next =>
      obtain ⟨σ', H', J', q⟩ := hsp
      exact wpAny_execs_nil ⟨σ', H', J'.ofTry ok, q⟩
    | brk =>
      obtain ⟨σ', H', J', q⟩ := hsp
      exact ⟨σ', H', J'.ofTry ok, q⟩
    | cont =>
      obtain ⟨σ', H', J', q⟩ := hsp
      exact ⟨σ', H', J'.ofTry ok, q⟩
    | ret u =>
      obtain ⟨v, σ', H', J', r, q⟩ := hsp
      exact ⟨v, σ', H', J'.ofTry ok, r, q⟩
end
/-- kept.f, kept a tracked exception -/
def tKf (K : PySem.W.Frag) (f : Str) (te : TE) : TE := fun σ H Q => te σ H fun x H1 => ∃ (a C dd : Addr) (fs : List (Str × V)) (v : V), x = .ref a ∧ H1 a = some (xob a (.ref C) (some dd)) ∧ XfC K C ∧ PySem.W.findIn K (.ref C) f = some none ∧
  H1 dd = some (.xd fs) ∧ fs.lookup f = some v ∧ Q v H1
theorem pe_kf {X : Cx} {e : Expr} {te : TE} {pos : Pos} {n : Str} (he : PE X e te) (hb : attributeBase e n X.env (eval e X.env) = eval e X.env := by rfl) : PE X (.Attribute e n pos) (tKf X.K n te) := by
  refine ⟨fun pins s σ H Q I h => ?_⟩
  refine attr_of hb (thn (he.run pins s σ H _ I h) fun u s1 hh => ?_)
  obtain ⟨x, H1, I1, rx, a, C, dd, fs, v, ex, ea, T, hno, ed, l, q⟩ := hh
  subst ex
  obtain rfl : u = Value.ref a := rx
  obtain ⟨oe, vs, ha, hz, hd⟩ := xob_at I1.hok ea
  have hx : ObjOk X.prog X.w H1 s1.heap dd (.xd fs) := I1.hok dd _ ed
  obtain ⟨mA, hns, hr⟩ := hx
  obtain ⟨od, ho, hl⟩ := lookIn_ns hns
  obtain ⟨u, hu, ru⟩ := RelO.some_of (v := v) (o := mA n) (by rw [← l]; exact hr n)
  have J : PySem.W.InstAt s1.heap a oe C (some od) := ⟨ha, hz.1, by unfold PySem.W.notCls; rw [hd] <;> rfl, by rw [hz.2]; exact ho⟩
  exact HandSPX.exc_get I1.kIn J T.ga T.gg T.exC (PySem.W.findObj_own T.hdC hno rfl (by rw [hl, hu])) (handed_of ru) ⟨v, H1, I1.tok _, ru, q⟩
/-- isinstance(kept, c) -/
def rIsX (K : PySem.W.Frag) : List V → Hp → VK → Prop := fun xs H Q => ∃ (a C dd : Addr) (fs : List (Str × V)) (c : V) (u : Value) (b : Bool), xs = [.ref a, c] ∧ H a = some (xob a (.ref C) (some dd)) ∧ H dd = some (.xd fs) ∧ ExcC K C ∧ ClsV c u ∧ PySem.W.kitOne K (.ref C) u = some b ∧ Q (.bl b) H
theorem call_isX {X : Cx} : CallR X (.builtin "isinstance") (rIsX X.K) := by
  intro pins s σ H xs us Q I r h
  obtain ⟨a, C, dd, fs, c, u, b, rfl, ea, ed, T, hcv, e, q⟩ := h
  obtain ⟨u1, u2, rfl, r1, r2⟩ := vals2 r
  have e2 := hcv.eq r2
  subst e2
  obtain rfl : u1 = Value.ref a := r1
  obtain ⟨oe, vs, ha, hz, hd⟩ := xob_at I.hok ea
  have hx : ObjOk X.prog X.w H s.heap dd (.xd fs) := I.hok dd _ ed
  obtain ⟨mA, hns, hr⟩ := hx
  obtain ⟨od, ho, hl⟩ := lookIn_ns hns
  have J : PySem.W.InstAt s.heap a oe C (some od) := ⟨ha, hz.1, by unfold PySem.W.notCls; rw [hd] <;> rfl, by rw [hz.2]; exact ho⟩
  have hcl : (PySem.W.clsIn X.K C).isSome = true := by
    obtain ⟨cd, hc, _⟩ := PySem.W.any_some T.hd
    rw [hc]
    rfl
  exact PySem.W.kia_one (PySem.W.kitx_exc hcl T.hg T.hk T.hs T.ha T.hn T.ht T.hm) I.kIn J e (fun z => nomatch z) fun tk => ⟨.bl b, H, I.tok tk, rfl, q⟩
/-- repr(x), x a list or a tuple of data -/
def rRepr (K : PySem.W.Frag) : List V → Hp → VK → Prop := fun xs H Q => ∃ (a : Addr) (d : PyData), xs = [.ref a] ∧ Dp K H (.ref a) d ∧ d.showable = true ∧ d.hasDict = false ∧ d.depth ≤ 60 ∧ d.shown.length ≤ sizeLine ∧ Q (.str d.shown) H
theorem call_repr {X : Cx} {k : Nat} (hr : Room k X.A) (hg : X.A.guards = some []) : CallR X (.builtin "repr") (rRepr X.K) := by
  intro pins s σ H xs us Q I r h
  obtain ⟨a, d, rfl, hd, hs, hdct, hdep, hz, q⟩ := h
  obtain ⟨u, rfl, e⟩ := vals1 r
  obtain rfl : u = Value.ref a := e
  obtain ⟨as, rd⟩ := Dp.reads I d _ _ hd rfl
  have hu := hr.un
  exact PySem.repr_of_reads' rd hs (fun z => by rw [hdct] at z; cases z) hg (by omega) (fun _ _ z => z) (fun h' u tk hk => ⟨.str d.shown, H, I.kept (t' := tk) hk, ⟨u, rfl⟩, q⟩) hz
end Br

/-! enumerate of a tuple and of a text. -/
namespace PySem
open Builtin
set_option maxHeartbeats 1000000 in
theorem br_meets_enum1 {v : Value} {o : Obj} {H : Heap → Prop} (B : Begins v o H) :
    Meets (Builtin.«enumerate.__new__» ⟨[.type "enumerate", v], []⟩) (fun _ R s => H s.heap ∧
      R (.ok (.ret (.ref (s.heap.push o).objs.size))) { s with heap := (s.heap.push o).push { cls := .type "enumerate", data := .fields #[.none, .bool false, .ref s.heap.objs.size, rawInt 0, .none, .none] } }) :=
  .of_wp fun prog w A R s h => by
    obtain ⟨hp, g, d, tk, os⟩ := s; obtain ⟨h1, h⟩ := h
    have hsub := sub_enumerate
    have q1 : ∀ {A' : Around} {E : Value → Shared → Prop} {Q : Value → Shared → Prop}, Q (.ref hp.objs.size) ⟨hp.push o, g, d, tk, os⟩ → wpAny (model prog w) A' (pyIter v) Q E ⟨hp, g, d, tk, os⟩ :=
      fun q => B.iter prog w _ _ ⟨hp, g, d, tk, os⟩ _ h1 q
    wp_walk using q1
    refine wpAny_stack_any fun st => wpAny_pure ?_
    split
    · rename_i c _ _ _ _ _
      cases (c == Value.type "enumerate")
      · wp_walk using q1
        exact ⟨_, rfl, h⟩
      · wp_walk using q1
        exact ⟨_, rfl, h⟩
    · wp_walk using q1
      exact ⟨_, rfl, h⟩
section
variable {prog : Program} {w : World} {A : Around} {E : Value → Shared → Prop} {s : Shared}
/-- enumerate(v): its two new cells -/
theorem br_enum1 {v : Value} {o : Obj} {H : Heap → Prop} {Q : Value → Shared → Prop} (B : Begins v o H) (h1 : H s.heap)
    (h : ∀ h', IsEnum h' (s.heap.objs.size + 1) s.heap.objs.size 0 .none → h'.get? s.heap.objs.size = some o → h'.objs.size = s.heap.objs.size + 2 →
      (∀ b o, s.heap.get? b = some o → h'.get? b = some o) → Q (.ref (s.heap.objs.size + 1)) { s with heap := h' }) :
    wpAny (model prog w) A (call (.type "enumerate") [v]) Q E s := by
  refine callType_new F.called_enumerate (by decide) (F.typeCall_enumerate_1 _) (F.newCall_enumerate_1 _) (fun obj => F.args_object_init_2 obj _) F.entry_enumerate_new (br_meets_enum1 B) ⟨h1, ?_⟩
  have hz : (s.heap.push o).objs.size = s.heap.objs.size + 1 := Heap.size_push ..
  show _ ∧ _
  rw [hz]
  have he : IsEnum ((s.heap.push o).push { cls := .type "enumerate", data := .fields #[.none, .bool false, .ref s.heap.objs.size, rawInt 0, .none, .none] }) (s.heap.objs.size + 1) s.heap.objs.size 0 .none := by
    have := Heap.get?_push_size (s.heap.push o) (o := { cls := .type "enumerate", data := .fields #[.none, .bool false, .ref s.heap.objs.size, rawInt 0, .none, .none] }) rfl
    rw [hz] at this; exact this
  refine ⟨⟨_, he, rfl⟩, h _ he (Heap.get?_push_of_some _ (Heap.get?_push_size _ B.free)) (by rw [Heap.size_push, hz]) fun b o x => Heap.get?_push_of_some _ (Heap.get?_push_of_some _ x)⟩
end
end PySem
namespace Br
open PySem PySem.Spec PyProof.Rows L2
/-- the tuple at a, each item in a new pair with its number from k on -/
def Itet (K : PySem.W.Frag) (a : Addr) (k : Int) : It :=
  ⟨fun i H => ∃ (xs : List V) (x : V), SqT K H a xs ∧ xs[i]? = some x, fun i H v H' => ∃ T x, v = .ref T ∧ H T = none ∧ H' = upd H T (.tup [.int (k + (i : Nat)), x]) ∧ ∀ xs, SqT K H a xs → xs[i]? = some x, fun i H => ∃ xs : List V, SqT K H a xs ∧ xs.length ≤ i⟩
theorem isTup_isTuple {h : Heap} {a : Addr} {its : Array Value} (p : IsTup h a its) : h.IsTuple a its := by
  obtain ⟨o, h1, h2, n, h3⟩ := p
  exact ⟨o, h1, h2, n, h3⟩
theorem turn_enumT {P : Program} {w : World} {K : PySem.W.Frag} {elts : List Expr} {kk : Nat} {tpos : Pos} (a e it : Addr) (k : Int) (hai : a ≠ it) (hae : a ≠ e) :
    Turn P w K (.Tuple elts kk tpos) (Itet K a k) [e, it] e (fun i h => (∃ old, IsEnum h e it (k + (i : Nat)) old) ∧ h.IsTupleIter it a i ∧ e ≠ it) where
  mem := by simp
  obj := fun i h st b hb => by
    obtain ⟨⟨old, he⟩, ⟨o, ho, hc, hd⟩, _⟩ := st
    have e' : b = e ∨ b = it := by simpa using hb
    rcases e' with z | z
    · rw [z]; exact ⟨_, he, fun v q => nomatch q⟩
    · rw [z]; exact ⟨o, ho, fun v q => by rw [hd] at q; cases q⟩
  keep := fun i h h' st k => let ⟨⟨old, he⟩, hi, hne⟩ := st; ⟨⟨old, k e (by simp) _ he⟩, hi.at fun o q => k it (by simp) o q, hne⟩
  item := by
    intro X hP hw hK hc i pins s σ H E I hf st hg
    subst hP hw hK
    obtain ⟨⟨old, he⟩, hit, hne⟩ := st
    obtain ⟨xs, x, hq, hx⟩ := hg
    obtain ⟨its, rv, p, hz⟩ := I.tuple hq
    obtain ⟨u, hu, ru⟩ := rv.get hx
    have hel : e < s.heap.objs.size := Heap.lt_size he
    have hil : it < s.heap.objs.size := by obtain ⟨_, q, _⟩ := hit; exact Heap.lt_size q
    have D : Draws X.prog X.w X.A.in1 it [it, a] its.toArray.size (fun i v => its.toArray[i]? = some v) (fun i h => h.IsTupleIter it a i ∧ h.IsTuple a its.toArray) := Draws.tuple (A := X.A.in1) (I.ok.hd hc) it a hai its.toArray
    have hil2 : i < its.toArray.size := by
      have := (List.getElem?_eq_some_iff.mp hu).1
      simpa using this
    refine wpAny_pyNext_enum_itemC D he ⟨hit, isTup_isTuple p⟩ hil2 hne (by simp [hne, Ne.symm hae]) fun x' h' tk hx' ho st' hT hsz hk => ?_
    have hxe : x' = u := by
      rw [show its.toArray[i]? = some u by simpa using hu] at hx'
      exact (Option.some.inj hx').symm
    subst hxe
    refine ⟨_, rfl, wpAny_letOwnedTupleGo_enum (s := { s with heap := h', toks := tk + 1 }) ho fun h'' he' sb => ?_⟩
    have hT2 : h''.get? s.heap.objs.size = some { cls := .type "tuple", data := .seq #[.int (k + (i : Nat)) tk, x'] } := (sb.2 _ (Nat.ne_of_gt hel)).trans hT
    have new : ObjOk X.prog X.w (upd H s.heap.objs.size (.tup [.int (k + (i : Nat)), x])) h'' s.heap.objs.size (.tup [.int (k + (i : Nat)), x]) :=
      ⟨by show 2 ≤ sizeLine; decide, [.int (k + (i : Nat)) tk, x'], .cons ⟨_, rfl⟩ (.cons ru .nil), ⟨_, hT2, rfl, _, rfl⟩⟩
    have I1 : Inv X pins σ (upd H s.heap.objs.size (.tup [.int (k + (i : Nat)), x])) { s with heap := h'', toks := tk + 1 } :=
      I.turnedNew (ch := [e, it]) (fun b ob hb q => (sb.2 b (fun z => hb (by simp [z]))).trans (hk b ob (fun z => hb (by simp [z])) (fun z => hb (by simp [z])) q)) hf (Nat.le_refl _) new
    refine ⟨.ref s.heap.objs.size, _, I1, rfl, ⟨_, x, rfl, I.hok.fresh (Nat.le_refl _), rfl, fun ys hy => by rw [I.tuple_inj hy hq]; exact hx⟩, ⟨⟨x', ?_⟩, st'.1.at fun o q => (sb.2 it (Ne.symm hne)).trans q, hne⟩, fun b hb => ?_⟩
    · have e1 : k + ((i + 1 : Nat) : Int) = k + (i : Nat) + 1 := by omega
      rw [e1]; exact he'
    · have hb' : b < s.heap.objs.size := by
        have e' : b = e ∨ b = it := by simpa using hb
        rcases e' with z | z
        · rw [z]; exact hel
        · rw [z]; exact hil
      rw [upd_ne (Nat.ne_of_lt hb')]
      exact (hf b hb).1
  done := by
    intro X hP hw hK hc i pins s σ H E I hf st hg
    subst hP hw hK
    obtain ⟨⟨old, he⟩, hit, hne⟩ := st
    obtain ⟨xs, hq, hx⟩ := hg
    obtain ⟨its, rv, p, hz⟩ := I.tuple hq
    obtain ⟨f0, f1, f2, f3, f4, f5⟩ := hf it (by simp)
    have hl := rv.length
    have hT : s.TypeIs (.ref e) "enumerate" := ⟨_, he, rfl⟩
    unfold pyNext
    refine wpAny_bind (wpAny_attempt (wpAny_callSpecial?_slot (name := Str.ofString "__next__") hT F.slot_enumerate_next
      (wpAny_call_entry F.slot_enumerate_next hT F.entry_enumerate_next ?_ (F.args_enumerate_next_1 _))))
    show wpAny _ _ (field (.ref e) 2 >>= _) _ _ _
    refine wpAny_bind (wpAny_field he rfl (x := .ref it) rfl ?_)
    refine wpAny_bind (wpAny_nextOf_tuple_end (I.ok.hd hc) hit (isTup_isTuple p) (by simp; omega) fun h' x he' hx' => ?_)
    obtain ⟨o, ho, hc'⟩ := hx'
    refine wpAny_bind (wpAny_isInstance (T := "StopIteration") (b := true) ⟨o, ho, hc'⟩ isSubtype_stop ?_)
    exact wpAny_pure ⟨rfl, I.turned (t' := s.toks) (fun b o hb q => he' b o hb q) f0 f1 f3 f4 f5⟩
  self := fun A i s Q E st h => let ⟨⟨_, he⟩, _⟩ := st; wpAny_pyIter_enum he h
/-- the text x, each sign in a new pair with its number -/
def Ites (x : Str) : It := ⟨fun i _ => i < x.cps.size, fun i H v H' => ∃ T c, v = .ref T ∧ H T = none ∧ H' = upd H T (.tup [.int (i : Nat), .str ⟨#[c]⟩]) ∧ x.cps[i]? = some c, fun i _ => x.cps.size ≤ i⟩
theorem turn_enumS {P : Program} {w : World} {K : PySem.W.Frag} {elts : List Expr} {kk : Nat} {tpos : Pos} (x : Str) (t : Tok) (e it : Addr) :
    Turn P w K (.Tuple elts kk tpos) (Ites x) [e, it] e (fun i h => (∃ old, IsEnum h e it ((i : Nat) : Int) old) ∧ h.IsStrIter it (strIterType x) x t i ∧ e ≠ it ∧ i ≤ x.cps.size) where
  mem := by simp
  obj := fun i h st b hb => by
    obtain ⟨⟨old, he⟩, ⟨o, ho, hc, hd⟩, _⟩ := st
    have e' : b = e ∨ b = it := by simpa using hb
    rcases e' with z | z
    · rw [z]; exact ⟨_, he, fun v q => nomatch q⟩
    · rw [z]; exact ⟨o, ho, fun v q => by rw [hd] at q; cases q⟩
  keep := fun i h h' st k => by
    obtain ⟨⟨old, he⟩, ⟨o, ho, hc, hd⟩, hne, hl⟩ := st
    exact ⟨⟨old, k e (by simp) _ he⟩, ⟨o, k it (by simp) _ ho, hc, hd⟩, hne, hl⟩
  item := by
    intro X hP hw hK hc i pins s σ H E I hf st hg
    subst hP hw hK
    obtain ⟨⟨old, he⟩, hit, hne, _⟩ := st
    have hg' : i < x.cps.size := hg
    have hel : e < s.heap.objs.size := Heap.lt_size he
    have hil : it < s.heap.objs.size := by obtain ⟨_, q, _⟩ := hit; exact Heap.lt_size q
    have D := Draws.text (prog := X.prog) (w := X.w) (A := X.A.in1) (I.ok.hd hc) it x t
    refine wpAny_pyNext_enum_itemC D he hit hg' hne (by simp [hne]) fun x' h' tk hx' ho st' hT hsz hk => ?_
    obtain ⟨c, uc, hcx, hxe⟩ := hx'
    subst hxe
    refine ⟨_, rfl, wpAny_letOwnedTupleGo_enum (s := { s with heap := h', toks := tk + 1 }) ho fun h'' he' sb => ?_⟩
    have hT2 : h''.get? s.heap.objs.size = some { cls := .type "tuple", data := .seq #[.int ((i : Nat) : Int) tk, .str ⟨#[c]⟩ uc] } := (sb.2 _ (Nat.ne_of_gt hel)).trans hT
    have new : ObjOk X.prog X.w (upd H s.heap.objs.size (.tup [.int (i : Nat), .str ⟨#[c]⟩])) h'' s.heap.objs.size (.tup [.int (i : Nat), .str ⟨#[c]⟩]) :=
      ⟨by show 2 ≤ sizeLine; decide, [.int (i : Nat) tk, .str ⟨#[c]⟩ uc], .cons ⟨_, rfl⟩ (.cons ⟨_, rfl⟩ .nil), ⟨_, hT2, rfl, _, rfl⟩⟩
    have I1 : Inv X pins σ (upd H s.heap.objs.size (.tup [.int (i : Nat), .str ⟨#[c]⟩])) { s with heap := h'', toks := tk + 1 } :=
      I.turnedNew (ch := [e, it]) (fun b ob hb q => (sb.2 b (fun z => hb (by simp [z]))).trans (hk b ob (fun z => hb (by simp [z])) (fun z => hb (by simp [z])) q)) hf (Nat.le_refl _) new
    refine ⟨.ref s.heap.objs.size, _, I1, rfl, ⟨_, c, rfl, I.hok.fresh (Nat.le_refl _), rfl, hcx⟩, ⟨⟨.str ⟨#[c]⟩ uc, ?_⟩, ?_, hne, hg'⟩, fun b hb => ?_⟩
    · have e1 : (((i + 1 : Nat)) : Int) = ((i : Nat) : Int) + 1 := by omega
      rw [e1]; exact he'
    · obtain ⟨o, h1, h2, h3⟩ := st'
      exact ⟨o, (sb.2 it (Ne.symm hne)).trans h1, h2, h3⟩
    · have hb' : b < s.heap.objs.size := by
        have e' : b = e ∨ b = it := by simpa using hb
        rcases e' with z | z
        · rw [z]; exact hel
        · rw [z]; exact hil
      rw [upd_ne (Nat.ne_of_lt hb')]
      exact (hf b hb).1
  done := by
    intro X hP hw hK hc i pins s σ H E I hf st hg
    subst hP hw hK
    obtain ⟨⟨old, he⟩, hit, hne, hle⟩ := st
    have hg' : x.cps.size ≤ i := hg
    have hi : i = x.cps.size := Nat.le_antisymm hle hg'
    subst hi
    obtain ⟨f0, f1, f2, f3, f4, f5⟩ := hf it (by simp)
    have D := Draws.text (prog := X.prog) (w := X.w) (A := X.A.in1) (I.ok.hd hc) it x t
    exact wpAny_pyNext_enum_endD D he hit fun h' eb => ⟨rfl, I.turned (t' := s.toks) (fun b o hb q => eb b o hb q) f0 f1 f3 f4 f5⟩
  self := fun A i s Q E st h => let ⟨⟨_, he⟩, _⟩ := st; wpAny_pyIter_enum he h
def iEnumT (K : PySem.W.Frag) (ta : TA) : TI := fun σ H R => ta σ H fun vs H1 => ∃ a xs, vs = [.ref a] ∧ SqT K H1 a xs ∧ R (Itet K a 0) H1
def iEnumS (ta : TA) : TI := fun σ H R => ta σ H fun vs H1 => ∃ x, vs = [.str x] ∧ R (Ites x) H1
section
variable {X : Cx} {e : Expr} {ta : TA} {p pos tpos : Pos} {elts : List Expr} {kk : Nat}
theorem pi_enumT (hg : Gl X "enumerate") (hm : X.mg "enumerate" = none) (ha : PA X [e] ta) (hs : starEach [e] X.env = [(false, eval e X.env)] := by rfl) :
    PI X (.Tuple elts kk tpos) (.Call (.Name "enumerate" p) [e] [] pos) (iEnumT X.K ta) := by
  refine ⟨fun pins s σ H R I h => ?_⟩
  refine Call_ (ld_blt I hg hm boot_enumerate (PyProof.Rows.callWith_type1 (thn (ha.run pos pins s σ H _ I h) fun us s1 ⟨vs, H1, I1, r1, q1⟩ => ?_) hs rfl))
  obtain ⟨a, xs, ex, hq, q⟩ := q1
  subst ex
  cases r1 with
  | cons r rr =>
    cases rr
    cases r
    obtain ⟨its, rv, p', hz⟩ := I1.tuple hq
    have hT := isTup_isTuple p'
    have hlt : a < s1.heap.objs.size := by obtain ⟨o, h1, _⟩ := hT; exact Heap.lt_size h1
    refine br_enum1 (begins_tuple a its.toArray) hT fun h' he hit hsz hk => wpAny_pyIter_enum he ?_
    have I2 : Inv X pins σ H1 { s1 with heap := h' } := I1.kept (t' := s1.toks) hk
    refine ⟨s1.heap.objs.size + 1, [s1.heap.objs.size + 1, s1.heap.objs.size], _, _, H1, rfl, I2, turn_enumT a (s1.heap.objs.size + 1) s1.heap.objs.size 0 (Nat.ne_of_lt hlt) (Nat.ne_of_lt (Nat.lt_succ_of_lt hlt)), ⟨⟨.none, he⟩, ⟨_, hit, rfl, rfl⟩, Nat.succ_ne_self _⟩, fun b hb => ?_, q⟩
    have e' : b = s1.heap.objs.size + 1 ∨ b = s1.heap.objs.size := by simpa using hb
    have hle : s1.heap.objs.size ≤ b := by
      rcases e' with z | z
      · rw [z]; exact Nat.le_add_right _ _
      · rw [z]; exact Nat.le_refl _
    exact I1.fpOk hle (I1.hok.fresh hle)
theorem pi_enumS (hg : Gl X "enumerate") (hm : X.mg "enumerate" = none) (ha : PA X [e] ta) (hs : starEach [e] X.env = [(false, eval e X.env)] := by rfl) :
    PI X (.Tuple elts kk tpos) (.Call (.Name "enumerate" p) [e] [] pos) (iEnumS ta) := by
  refine ⟨fun pins s σ H R I h => ?_⟩
  refine Call_ (ld_blt I hg hm boot_enumerate (PyProof.Rows.callWith_type1 (thn (ha.run pos pins s σ H _ I h) fun us s1 ⟨vs, H1, I1, r1, q1⟩ => ?_) hs rfl))
  obtain ⟨x, ex, q⟩ := q1
  subst ex
  cases r1 with
  | cons r rr =>
    cases rr
    obtain ⟨t, rfl⟩ := r
    refine call_enumerate_str fun h' he hit hsz hk => wpAny_pyIter_enum he ?_
    have I2 : Inv X pins σ H1 { s1 with heap := h' } := I1.kept (t' := s1.toks) hk
    refine ⟨s1.heap.objs.size + 1, [s1.heap.objs.size + 1, s1.heap.objs.size], _, _, H1, rfl, I2, turn_enumS x t (s1.heap.objs.size + 1) s1.heap.objs.size, ⟨⟨.none, he⟩, hit, Nat.succ_ne_self _, Nat.zero_le _⟩, fun b hb => ?_, q⟩
    have e' : b = s1.heap.objs.size + 1 ∨ b = s1.heap.objs.size := by simpa using hb
    have hle : s1.heap.objs.size ≤ b := by
      rcases e' with z | z
      · rw [z]; exact Nat.le_add_right _ _
      · rw [z]; exact Nat.le_refl _
    exact I1.fpOk hle (I1.hok.fresh hle)
end
/-- the turns of both -/
theorem walk_et {K : PySem.W.Frag} {a : Addr} {xs : List V} {k : Int} : Walk (Itet K a k) xs.length (fun H => SqT K H a xs) (fun i H v H' => ∃ T x, v = .ref T ∧ H T = none ∧ H' = upd H T (.tup [.int (k + (i : Nat)), x]) ∧ xs[i]? = some x) where
  goes := fun i H hi q => ⟨xs, xs[i], q, by simp [hi]⟩
  stops := fun H q => ⟨xs, q, Nat.le_refl _⟩
  yields := fun i H x H' hi q ⟨T, y, e1, e2, e3, e4⟩ => ⟨T, y, e1, e2, e3, e4 xs q⟩
theorem walk_es {x : Str} : Walk (Ites x) x.cps.size (fun _ => True) (fun i H v H' => ∃ T c, v = .ref T ∧ H T = none ∧ H' = upd H T (.tup [.int (i : Nat), .str ⟨#[c]⟩]) ∧ x.cps[i]? = some c) where
  goes := fun i H hi _ => hi
  stops := fun H _ => Nat.le_refl _
  yields := fun i H v H' _ _ y => y
end Br

/-! A def that is called where nothing is being shown (no repr runs): FnG; the law's end by it. -/
namespace Br
open PySem PySem.Spec PyProof.Rows L2
/-- as FnOk, where no repr runs around the call -/
structure FnG (P : Program) (w : World) (K : PySem.W.Frag) (mg : Str → Option Value) (base : Heap) (CX : CXT) (k : Nat) (f : Addr) (fd : FuncData) (ps : List Str) (sp : Sp) : Prop where
  len : ∀ vs H Q E, sp vs H Q E → vs.length = ps.length
  run : ∀ (A : Around) (outer : List Env) (s : Shared) (H : Hp) (args : Args) (us : List Value) (vs : List V) (Q : VK) (E : XK), A.guards = some [] → Room k A → Env0 P w K mg base A outer s H → BindsTo s fd args (ps.zip us) → Vals vs us → sp vs H Q E →
    codeAny (model P w) A (.call (.ref f) args) (CR CX outer P w H s Q E) s
section
variable {P : Program} {w : World} {K : PySem.W.Frag} {mg : Str → Option Value} {base : Heap} {CX : CXT}
theorem fn_ofG {k : Nat} {f : Addr} {name qual : Str} {params : Arguments} {body : List Stmt} {scope : Scope} {dV kV doc pm cdv ct oc : Value} {an od : Option Addr}
    {osl : Array (Option Value)} {N ps : List Str} {sp : Sp} (lk : K.lookup f = some ⟨oc, od, .func (PySem.W.fnOf name qual params body scope dV kV doc pm an cdv ct), osl⟩) (hcd : PySem.W.codeIn K cdv qual = true) (S : FnScope N ps scope)
    (len : ∀ vs H Q E, sp vs H Q E → vs.length = ps.length)
    (hbody : ∀ (A : Around) (outer : List Env) (s : Shared) (H : Hp) (vs : List V) (Q : VK) (E : XK), A.guards = some [] → Room k (A.deeper (envOfC qual scope s.heap.objs.size f cdv)) → sp vs H Q E →
      ∃ t, PSs (cxOf CX P w K mg base N qual scope f cdv A outer s H E) body t ∧ t { nx := fun _ H' => Q .non H', rt := Q } (start N vs) H) :
    FnG P w K mg base CX (k + 1) f (PySem.W.fnOf name qual params body scope dV kV doc pm an cdv ct) ps sp := by
  refine ⟨len, fun A outer s H args us vs Q E gd hr e0 hb r hsp => ?_⟩
  have hl := len _ _ _ _ hsp
  have KX : K.In s.heap := e0.mod.kin.keeps fun b o e => (e0.bs b o e).1
  have lim : s.heap.NoLimit := e0.mod.nolimit.keeps fun b o e => (e0.bs b o e).1
  have hkind : ∀ y ∈ ps.zip us, scope.names.lookup y.1 = some .local ∨ (scope.names.lookup y.1 = some .cell ∧ ((cellsFrom (s.heap.objs.size + 1) scope.names []).lookup y.1).isSome = true) := fun ⟨n, v⟩ hy =>
    (S.par n (List.of_mem_zip hy).1).elim .inl fun q => .inr ⟨q, PySem.W.cellsFrom_some _ _ _ (.inl q)⟩
  refine codeAny_call_function hr.depth (KX _ _ lk) rfl S.co S.gen rfl (PySem.W.codeRec_of KX hcd) (hb _ _ _ _ (wpAny_newFunctionEnv_cells S.kind hkind fun env he s1 x => ?_))
  subst he
  obtain ⟨t, ht, hq⟩ := hbody A outer s H vs Q E gd (hr.deeper _) hsp
  have I : Inv (cxOf CX P w K mg base N qual scope f cdv A outer s H E) [] (start N vs) H s1 := inv_start S hr.hd e0 hl r x
  refine ⟨lim.keeps x.toInCall.keep, codeAny_func (wpAny_mono (ht.run [] s1 (start N vs) H _ I hq) (fun fl s' hs => ?_) fun e s' hs => hs)⟩
  match fl, hs with
  | .ret u, ⟨v, σ', H', J, rv, q⟩ => exact ⟨v, H', J.os, J.bare, J.base, J.hok, rv, q⟩
  | .next, ⟨σ', H', J, q⟩ => exact ⟨V.non, H', J.os, J.bare, J.base, J.hok, rfl, q⟩
  | .brk, ⟨_, _, _, q⟩ => exact q.elim
  | .cont, ⟨_, _, _, q⟩ => exact q.elim
/-- the rule for a def that may call repr -/
theorem okG {x qual : Str} {st : Stmt} {f : Addr} {fd : FuncData} {N ps : List Str} {k : Nat} {sp : Sp} (F : Fun K x qual st f fd) (S : FnScope N ps (defScope st)) (len : ∀ vs H Q E, sp vs H Q E → vs.length = ps.length)
    (hbody : ∀ (cdv : Value) (A : Around) (outer : List Env) (s : Shared) (H : Hp) (vs : List V) (Q : VK) (E : XK), A.guards = some [] → Room k (A.deeper (envOfC qual (defScope st) s.heap.objs.size f cdv)) → sp vs H Q E →
      ∃ t, PSs (cxOf CX0 P w K mg base N qual (defScope st) f cdv A outer s H E).nox (defBody st) t ∧ t { nx := fun _ H' => Q .non H', rt := Q } (start N vs) H) : FnG P w K mg base CX0 (k + 1) f fd ps sp := by
  obtain ⟨oc, od, kV, doc, pm, an, cdv, ct, osl, rfl, lk, hcd⟩ := F.ex
  refine fn_ofG lk hcd S len fun A outer s H vs Q E gd hr hsp => ?_
  obtain ⟨t, h, q⟩ := hbody cdv A outer s H vs Q E gd hr hsp
  exact ⟨t, h.nox, q⟩
end
/-- the law's call: nothing but the script is tracked -/
theorem law_callG {P : Program} {w : World} {K : PySem.W.Frag} {mg mb : Str → Option Value} {k : Nat} {fa a : Addr} {fd : FuncData} {x : Str} {sp : Sp} {s₁ : Shared} {vs : List Value} {ns : List Int}
    (KX : K.In s₁.heap) (hns : s₁.heap.Ns mainGlobals mg) (hb : s₁.heap.Ns builtinsNs mb) (hbb : ∀ x : Str, x ≠ "__name__" → mb x = bootBuiltins x) (hlim : s₁.heap.NoLimit) (hg : s₁.gens = #[])
    (ha : s₁.heap.get? a = some { cls := .type "list", data := .seq vs.toArray }) (hi : IntsAre vs ns) (hl : ns.length ≤ sizeLine) (hr : Room k callerA)
    (F : ∀ base : Heap, K.In base → base.Ns mainGlobals mg → FnG P w K mg base CX0 k fa fd [x] sp) (hbind : ∀ (s : Shared) (u : Value), BindsTo s fd ⟨[u], []⟩ [(x, u)])
    (hsp : ∀ H : Hp, Only H → SqL K H a (ns.map V.int) → sp [.ref a] H (fun v _ => v = .bl true) fun _ _ _ => False) :
    codeAny (model P w) callerA (.call (.ref fa) ⟨[.ref a], []⟩) (fun r s' => r = .ok (.ret (.bool true)) ∧ OldK s₁.heap s'.heap ∧ s'.os = s₁.os ∧ AllBare s'.gens) s₁ := by
  have rv := vals_ints hi
  have core : ∀ H : Hp, Only H → SqL K H a (ns.map V.int) → HOk P w H s₁.heap → (∀ b, H b ≠ none → b = a) → (H a ≠ none → K.lookup a = none) →
      codeAny (model P w) callerA (.call (.ref fa) ⟨[.ref a], []⟩) (fun r s' => r = .ok (.ret (.bool true)) ∧ OldK s₁.heap s'.heap ∧ s'.os = s₁.os ∧ AllBare s'.gens) s₁ := by
    intro H hO hS hok hA hK
    have at_a : ∀ {b : Addr} {u : HO}, H b = some u → b = a := fun {b u} q => hA b (by rw [q]; simp)
    have noA : ∀ {b : Addr} {o : Obj} {es : Array DictEntry} {ep : Nat}, s₁.heap.get? b = some o → o.data = .dict es ep → H b = none := fun {b o es ep} e d => by
      cases q : H b with
      | none => rfl
      | some u =>
        obtain rfl := at_a q
        rw [ha] at e
        cases e
        cases d
    have nsK : ∀ {b : Addr} {m : Str → Option Value}, s₁.heap.Ns b m → (hidT s₁.heap H).Ns b m := fun {b m} ⟨o, es, ep, e, d, r⟩ => ⟨o, es, ep, hidT_get e (noA e d), d, r⟩
    have hKb : K.In (hidT s₁.heap H) := fun b o e => hidT_get (KX b o e) (by
      cases q : H b with
      | none => rfl
      | some u =>
        obtain rfl := at_a q
        rw [hK (by rw [q]; simp)] at e
        cases e)
    obtain ⟨mc, l1, l2⟩ := hlim
    have e0 : Env0 P w K mg (hidT s₁.heap H) callerA [] s₁ H := ⟨rfl, ⟨hKb, nsK hns, ⟨mb, nsK hb, hbb⟩, ⟨mc, nsK l1, l2⟩⟩, fun b o e => of_hidT e, Nat.le_of_eq (hidT_size _ _), trivial, fun b hb => (List.not_mem_nil (show b ∈ ([] : List Addr) from hb)).elim, hok, .of_eq hg⟩
    refine codeAny_mono ((F _ hKb (nsK hns)).run callerA [] s₁ H ⟨[.ref a], []⟩ [.ref a] [.ref a] _ _ rfl hr e0 (hbind s₁ (.ref a)) (.cons rfl .nil) (hsp H hO hS)) fun r s' h => ?_
    match r, h with
    | .error e, h => exact h.elim
    | .ok .next, h => exact h.elim
    | .ok .brk, h => exact h.elim
    | .ok .cont, h => exact h.elim
    | .ok (.ret u), ⟨v, H', os, bare, un, hok', r', q⟩ =>
      have q' : v = .bl true := q
      subst q'
      obtain rfl : u = Value.bool true := r'
      refine ⟨rfl, OldK.of_keep fun b o e => ?_, os, bare⟩
      cases q : H b with
      | none => exact un.keep b o e q (fun z => (List.not_mem_nil (show b ∈ ([] : List Addr) from z)).elim) (by simp)
      | some u =>
        rcases hO b with z | ⟨ob, xs, z⟩
        · rw [q] at z
          cases z
        · obtain ⟨e1, _⟩ := hok b _ z
          obtain ⟨e2, _⟩ := hok' b _ (un.frzs b ob _ z)
          rw [e] at e1
          cases e1
          exact e2
  cases hk : K.lookup a with
  | some o =>
    have e := KX a o hk
    rw [ha] at e
    cases e
    exact core (fun _ => none) (fun _ => .inl rfl) (.inr ⟨_, vs.toArray, _, hk, rfl, rfl, rfl, by rw [List.size_toArray, hi.length]; exact hl, by simpa using rv⟩) (fun b u z => nomatch (show (none : Option HO) = some u from z)) (fun b z => absurd rfl z) fun z => absurd rfl z
  | none =>
    refine core (upd (fun _ => none) a (.frz { cls := .type "list", data := .seq vs.toArray } (.lst (ns.map V.int)))) (fun b => ?_) (.inl (.inr ⟨{ cls := .type "list", data := .seq vs.toArray }, upd_same⟩)) (fun b u z => ?_) (fun b z => ?_) fun _ => hk
    · by_cases hb : b = a
      · subst hb
        exact .inr ⟨_, _, upd_same⟩
      · exact .inl (upd_ne hb)
    · by_cases hb : b = a
      · subst hb
        rw [upd_same] at z
        cases z
        exact ⟨ha, by rw [List.length_map]; exact hl, vs, _, rv, ha⟩
      · rw [upd_ne hb] at z
        cases z
    · exact Decidable.byContradiction fun hb => z (upd_ne hb)
/-- the goal that k_head leaves, from the law's promise -/
theorem walk_ofG {l : PySem.W.OpenLaw} {n k : Nat} {q : Program} {loose : List Str} {XP : (Str → Option Value) → Heap → Prop} {YP : World → Heap → Prop} {d : DefRec} {K : Params → PySem.W.Frag} {sp : PySem.W.Frag → Sp} {x : Str}
    (hn : l.most = some n) (hn2 : n ≤ sizeLine) (hdf : d.params.defaults = []) (hr : Room k callerA)
    (hY : ∀ (w : World) (h : Heap), YP w h → (K w.params).In h)
    (F : ∀ (w : World) (mg : Str → Option Value) (fa : Addr) (h : Heap), (K w.params).In h → h.Ns mainGlobals mg → mg d.name = some (.ref fa) →
      ∃ fd : FuncData, (∀ (s : Shared) (u : Value), BindsTo s fd ⟨[u], []⟩ [(x, u)]) ∧ ∀ base : Heap, (K w.params).In base → base.Ns mainGlobals mg → FnG l.prog w (K w.params) mg base CX0 k fa fd [x] (sp (K w.params)))
    (hsp : ∀ (K : PySem.W.Frag) (H : Hp) (a : Addr) (ns : List Int), ns.length ≤ n → Only H → SqL K H a (ns.map V.int) → sp K [.ref a] H (fun v _ => v = .bl true) fun _ _ _ => False) :
    PySem.W.WalkO q loose XP YP l.row.toRowW d [] (fun f vs => PySem.call f vs) := by
  refine Att.attach_call hn hdf fun w s₀ s₁ mg mb fa o pm cd doc a vs ns G Y ho hd hcd hmg hobj hints hlen hg => ?_
  obtain ⟨fd, hb, hF⟩ := F w mg fa _ (hY w _ Y) G.T.g hmg
  exact law_callG (hY w _ Y) G.T.g G.T.b G.T.builtins G.T.nolimit hg hobj hints (Nat.le_trans hlen hn2) hr hF hb fun H hO hS => hsp (K w.params) H a ns hlen hO hS
/-- t[::-1] of a text: some text that is no longer -/
def tRevS (te : TE) : TE := fun σ H Q => te σ H fun x H1 => ∃ z, x = .str z ∧ z.length ≤ sizeLine ∧ ∀ z' : Str, z'.length ≤ z.length → Q (.str z') H1
theorem pe_revS {X : Cx} {e : Expr} {te : TE} {k : Nat} {p1 p2 p3 pos : Pos} (he : PE X e te) : PE X (.Subscript e (.Slice none none (some (.UnaryOp .USub (.Constant (.int 1) k p1) p2)) p3) pos) (tRevS te) := by
  refine ⟨fun pins s σ H Q I h => ?_⟩
  refine Subscript_ (thn (he.run pins s σ H _ I h) fun v s1 ⟨x, H1, I1, r1, z, ex, hz, q⟩ => ?_)
  subst ex
  obtain ⟨t, rfl⟩ := r1
  have hst : PO X (some (.UnaryOp .USub (.Constant (.int 1) k p1) p2)) (tPart (tUn (rU fun i => .int (-i)) (tC (.int 1)))) := po_some (pe_un un_neg pe_int)
  refine wpAny_Slice (thn (po_none.run pins s1 σ H1 (fun o H2 => o = none ∧ H2 = H1) I1 ⟨rfl, rfl⟩) fun vl s2 ⟨l, H2, I2, pl, el, e2⟩ => ?_)
  subst el e2
  refine thn (po_none.run pins s2 σ H2 (fun o H3 => o = none ∧ H3 = H2) I2 ⟨rfl, rfl⟩) fun vu s3 ⟨u, H3, I3, pu, eu, e3⟩ => ?_
  subst eu e3
  refine thn (hst.run pins s3 σ H3 (fun o H4 => o = some (-1) ∧ H4 = H3) I3 ⟨1, rfl, -1, rfl, rfl, rfl⟩) fun vs s4 ⟨o, H4, I4, ps, eo, e4⟩ => ?_
  subst eo e4
  obtain ⟨l, rfl, el⟩ := IsPart.raw pl
  obtain ⟨u, rfl, eu⟩ := IsPart.raw pu
  obtain ⟨w, rfl, ew⟩ := IsPart.raw ps
  have I5 : Inv X pins σ H4 { s4 with heap := s4.heap.push { cls := .type "slice", data := .fields #[PySem.partValue l, PySem.partValue u, PySem.partValue w] } } := I4.kept (t' := s4.toks) fun b ob q => Heap.get?_push_of_some _ q
  refine tail_any (ops := [.ref s4.heap.objs.size, .str z t]) (typeIs_str _ _ _) F.slot_str_getitem.lookup (wpAny_getItem_str_slice (l := l) (u := u) (st := w) ⟨_, Heap.get?_push_size _ rfl, rfl, rfl⟩ (by rw [ew]; decide) ?_) (by with_unfolding_all rfl)
  have hle : ((PySem.slicePicked z l u w).filterMap (z.cps[·]?)).toArray.size ≤ z.length := by
    rw [List.size_toArray]
    refine Nat.le_trans (List.length_filterMap_le _ _) ?_
    unfold PySem.slicePicked
    exact PySem.sliceIndicesBy_le _ _ _ (by rw [ew]; decide) z.length
  unfold PySem.sliceMade
  split
  · exact ⟨.str z, H4, I5, ⟨t, rfl⟩, q z (Nat.le_refl _)⟩
  · exact ⟨Nat.le_trans hle hz, .str _, H4, I5.tok _, ⟨_, rfl⟩, q _ hle⟩
end Br

/-! Defs by their names, calls of them; readings step by step. -/
namespace Br
open PySem PySem.Spec PyProof.Rows L2
/-- the def st of the top under its name -/
structure DefT (K : PySem.W.Frag) (mg : Str → Option Value) (x : Str) (st : Stmt) (f : Addr) (fd : FuncData) : Prop where
  g : mg x = some (.ref f)
  F : Fun K x x st f fd
theorem defT {K : PySem.W.Frag} {h : Heap} {mg : Str → Option Value} {x : Str} {st : Stmt} {f : Addr} {oc : Value} {od an : Option Addr} {osl : Array (Option Value)} {kV doc pm cdv ct : Value} (X : K.In h) (G : h.Ns mainGlobals mg)
    (a : PySem.W.nsIn K mainGlobals x = some (some (.ref f))) (l : K.lookup f = some ⟨oc, od, .func (PySem.W.fnOf x x (defArgs st) (defBody st) (defScope st) .none kV doc pm an cdv ct), osl⟩)
    (c : PySem.W.codeIn K cdv x = true) (k : PySem.W.keepIn K (.ref f) = true) : ∃ f fd, DefT K mg x st f fd := ⟨f, _, PySem.W.mg_of X G a, fun_mk l c k⟩
/-- a def under its name keeps its promise -/
def OkD (P : Program) (w : World) (K : PySem.W.Frag) (mg : Str → Option Value) (base : Heap) (CX : CXT) (k : Nat) (x : Str) (ps : List Str) (sp : Sp) : Prop :=
  ∃ (f : Addr) (fd : FuncData), mg x = some (.ref f) ∧ PySem.W.keepIn K (.ref f) = true ∧ Binds K fd ps [] ∧ FnOk P w K mg base CX k f fd ps sp
def OkG (P : Program) (w : World) (K : PySem.W.Frag) (mg : Str → Option Value) (base : Heap) (CX : CXT) (k : Nat) (x : Str) (ps : List Str) (sp : Sp) : Prop :=
  ∃ (f : Addr) (fd : FuncData), mg x = some (.ref f) ∧ PySem.W.keepIn K (.ref f) = true ∧ Binds K fd ps [] ∧ FnG P w K mg base CX k f fd ps sp
/-- f(..) -/
def tCl (sp : Sp) (t : TA) : TE := fun σ H Q => t σ H fun vs H1 => sp vs H1 Q E0
/-- f(..) whose error is wished for at the slots -/
def tClS (sp : Sp) (W : WX) (t : TA) : TE := fun σ H Q => t σ H fun vs H1 => sp vs H1 Q (WE W σ)
section
variable {X : Cx} {k : Nat} {x : Str} {ps : List Str} {sp : Sp} {p pos : Pos} {e : Expr} {es : List Expr} {t : TA}
theorem pe_callD (D : OkD X.prog X.w X.K X.mg X.base CX0 k x ps sp) (hr : Room k X.A) (ha : PA X (e :: es) t) (hg : Gl X x := by rfl)
    (hdb : (x == ("__debug__" : Str)) = false := by decide) (he : starEach (e :: es) X.env = (false, eval e X.env) :: starEach es X.env := by rfl) (hpl : (backTo pos (starEach es X.env)).any (·.1) = false := by rfl) :
    PE X (.Call (.Name x p) (e :: es) [] pos) (tCl sp t) := by
  obtain ⟨f, fd, gm, kp, b, F⟩ := D
  have h := pe_call (E := E0) F hr hg gm kp b .nil pass0 ha hdb he hpl (p := p)
  refine ⟨fun pins s σ H Q I q => h.run pins s σ H Q I ?_⟩
  have e1 : (fun vs H1 => sp (vs ++ []) H1 Q E0) = (fun vs H1 => sp vs H1 Q E0) := by
    funext vs H1
    rw [List.append_nil]
  show t σ H fun vs H1 => sp (vs ++ []) H1 Q E0
  rw [e1]
  exact q
theorem pe_callD0 (D : OkD X.prog X.w X.K X.mg X.base CX0 k x ps sp) (hr : Room k X.A) (hg : Gl X x := by rfl) (hdb : (x == ("__debug__" : Str)) = false := by decide) : PE X (.Call (.Name x p) [] [] pos) (tCl sp tNil) := by
  obtain ⟨f, fd, gm, kp, b, F⟩ := D
  exact pe_call0 (E := E0) F hr hg gm kp b .nil pass0 hdb
theorem pe_callDS {W : WX} (D : OkD X.prog X.w X.K X.mg X.base (L2.CX X.prog X.w) k x ps sp) (hr : Room k X.A) (tk : Takes X W) (ha : PA X (e :: es) t) (hg : Gl X x := by rfl)
    (hdb : (x == ("__debug__" : Str)) = false := by decide) (he : starEach (e :: es) X.env = (false, eval e X.env) :: starEach es X.env := by rfl) (hpl : (backTo pos (starEach es X.env)).any (·.1) = false := by rfl) :
    PE X (.Call (.Name x p) (e :: es) [] pos) (tClS sp W t) := by
  obtain ⟨f, fd, gm, kp, b, F⟩ := D
  exact pe_callS (E := WE W) F hr hg gm kp b (fun σ => passAt tk σ) ha hdb he hpl
end
/-! ### an own error class with one field -/
/-- what the top says of the error class x (at C), whose __init__ (st) stores its argument as f -/
structure XcT (K : PySem.W.Frag) (mg : Str → Option Value) (x : Str) (qual : Str) (st : Stmt) (f : Str) (C fI : Addr) (fd : FuncData) : Prop where
  g : mg x = some (.ref C)
  O : OexC K C
  i : PySem.W.findIn K (.ref C) "__init__" = some (some (.ref fI))
  t : PySem.W.typeIn K (.ref fI) = some (.type "function")
  F : Fun K "__init__" qual st fI fd
  n : PySem.W.findIn K (.ref C) f = some none
  xf : XfC K C
  ec : ExcC K C
  self : PySem.W.exmOne K (.ref C) (.ref C) = some true
theorem exm_self {K : PySem.W.Frag} {S : Addr} (h1 : PySem.W.subIn K (.ref S) (.type "BaseException") = some true) (h2 : PySem.W.hasDictIn K S = true) (h3 : PySem.W.typeIn K (.ref S) = some (.type "type")) (h4 : PySem.W.subIn K (.ref S) (.ref S) = some true) :
    PySem.W.exmOne K (.ref S) (.ref S) = some true := PySem.W.exm_ref h1 h2 h3 h4
theorem xcT {K : PySem.W.Frag} {h : Heap} {mg : Str → Option Value} {x qual f : Str} {st : Stmt} {C fI : Addr} {nm q : Str} {N : Addr} {bs bm : List Value} {sn : List Str} {sub : List Value} {ab : Bool} {col : Option Bool} {dd : Option Addr} {m0 m1 m2 m3 m5 : Option Value}
    {oc : Value} {od an : Option Addr} {osl : Array (Option Value)} {kV doc pm cdv ct : Value} (X : K.In h) (G : h.Ns mainGlobals mg)
    (aC : PySem.W.nsIn K mainGlobals x = some (some (.ref C)))
    (xL : K.lookup C = some (excClassObj nm q C N bs bm true sn sub ab col dd m0 m1 m2 m3 m5 "ValueError.__new__")) (hbm : PySem.HandSPX.refsVE bm = true)
    (sa : PySem.W.findIn K (.ref C) "__setattr__" = some (some (.builtin "object.__setattr__"))) (eC : PySem.W.subIn K (.ref C) (.type "BaseException") = some true) (tC : PySem.W.typeIn K (.ref C) = some (.type "type")) (kC : PySem.W.keepIn K (.ref C) = true)
    (a1 : PySem.W.findIn K (.ref C) "__init__" = some (some (.ref fI))) (t1 : PySem.W.typeIn K (.ref fI) = some (.type "function"))
    (l1 : K.lookup fI = some ⟨oc, od, .func (PySem.W.fnOf "__init__" qual (defArgs st) (defBody st) (defScope st) .none kV doc pm an cdv ct), osl⟩) (c1 : PySem.W.codeIn K cdv qual = true) (k1 : PySem.W.keepIn K (.ref fI) = true)
    (nf : PySem.W.findIn K (.ref C) f = some none)
    (ga : PySem.W.findIn K (.ref C) "__getattribute__" = some (some (.builtin "BaseException.__getattribute__"))) (gg : PySem.W.findIn K (.ref C) "__getattr__" = some none) (hC : PySem.W.hasDictIn K C = true)
    (ha : PySem.W.findIn K (.ref C) "__class__" = some (some (.builtin "object.__class__"))) (hn : PySem.W.specialIn K (.builtin "object.__class__") "__get__" = some (some (.builtin "getset_descriptor.__get__")))
    (ht : PySem.W.takesIn K (.builtin "object.__class__") = some true) (hm : PySem.W.mroIn K C (.type "object") = some true) (sC : PySem.W.subIn K (.ref C) (.ref C) = some true) :
    ∃ C fI fd, XcT K mg x qual st f C fI fd :=
  ⟨C, fI, _, { g := PySem.W.mg_of X G aC, O := ⟨⟨nm, q, N, bs, bm, sn, sub, ab, col, dd, m0, m1, m2, m3, m5, xL, hbm⟩, sa, eC, tC, kC⟩, i := a1, t := t1, F := fun_mk l1 c1 k1, n := nf, xf := ⟨ga, gg, eC, hC⟩, ec := ⟨ga, gg, eC, hC, ha, hn, ht, hm⟩, self := exm_self eC hC tC sC }⟩
/-- __init__(self, f): the error has f in its new dict, all else as it was -/
def spXi (C : Addr) (f : Str) : Sp := fun vs H Q _ => ∃ (a : Addr) (v : V), vs = [.ref a, v] ∧ H a = some (exo a C none) ∧ ∀ d, H d = none → d ≠ a → Q .non (upd (upd H d (exd d [(f, v)])) a (exo a C (some d)))
/-- raise x(e): the wish with the new dict -/
def rXr (C : Addr) (f : Str) (v : V) (H : Hp) (W : XK) : Prop := ∀ (d : Addr) (H' : Hp), H d = none → Same H H' → H' d = some (.xd [(f, v)]) → W (.ref C) (some d) H'
/-- what follows may be weakened -/
def tUp (ta : TA) : TA := fun σ H R => ∃ R' : List V → Hp → Prop, ta σ H R' ∧ ∀ vs H1, R' vs H1 → R vs H1
theorem pa_up {X : Cx} {es : List Expr} {ta : TA} (h : PA X es ta) : PA X es (tUp ta) := by
  refine ⟨fun pos pins s σ H Q I ⟨R', q, k⟩ => thn (h.run pos pins s σ H R' I q) fun us s1 ⟨vs, H1, I1, r, z⟩ => ⟨vs, H1, I1, r, k vs H1 z⟩⟩
def tMkX (C : Addr) (f : Str) (ta : TA) : L2.St → Hp → XK → Prop := fun σ H Q => ta σ H fun vs H1 => ∃ v, vs = [v] ∧ rXr C f v H1 Q
/-- x(e), x an own error class with the one field f -/
theorem pmk_x {X : Cx} {x qual f : Str} {st : Stmt} {C fI : Addr} {fd : FuncData} {ps : List Str} {e : Expr} {ta : TA} {k : Nat} {p pos : Pos} (T : XcT X.K X.mg x qual st f C fI fd) (F1 : FnOk X.prog X.w X.K X.mg X.base CX0 k fI fd ps (spXi C f)) (hb : Binds X.K fd ps []) (hr : Room (k + 1) X.A)
    (ha : PA X [e] ta) (hg : Gl X x := by rfl) (hdb : (x == ("__debug__" : Str)) = false := by decide) (he : starEach [e] X.env = (false, eval e X.env) :: starEach [] X.env := by rfl) (hpl : (backTo pos (starEach [] X.env)).any (·.1) = false := by rfl) :
    PMk X (.Call (.Name x p) [e] [] pos) (tMkX C f ta) := by
  intro pins s σ H Q I h
  refine pmk_oex T.O T.i T.t F1 hr hb .nil pass0 hg T.g (pa_up ha) hdb he hpl pins s σ H Q I ⟨_, h, fun vs H1 ⟨v, ev, k⟩ => ?_⟩
  subst ev
  refine ⟨by simp, fun a ha => ⟨a, v, rfl, upd_same, fun d hd hda => ⟨rfl, d, [(f, v)], upd_same, by rw [upd_ne hda, upd_same], ?_, ?_⟩⟩⟩
  · rwa [upd_ne hda] at hd
  · have hd' : H1 d = none := by rwa [upd_ne hda] at hd
    refine k d _ hd' (fun b o q => ?_) upd_same
    have b1 : b ≠ d := ne_of_none q hd'
    have b2 : b ≠ a := ne_of_none q ha
    rw [upd_ne b1, del_ne b2, upd_ne b2, upd_ne b1, upd_ne b2]
    exact q
/-- raise x(e) -/
def tRz (C : Addr) (f : Str) (W : WX) (ta : TA) : TS := fun _ σ H => tMkX C f ta σ H fun cls d H' => W cls d σ H'
theorem ps_rz {X : Cx} {x qual f : Str} {st : Stmt} {C fI : Addr} {fd : FuncData} {ps : List Str} {e : Expr} {ta : TA} {k : Nat} {p pos pos2 : Pos} {W : WX} (hc : X.calm = true) (tk : Takes X W) (T : XcT X.K X.mg x qual st f C fI fd) (F1 : FnOk X.prog X.w X.K X.mg X.base CX0 k fI fd ps (spXi C f)) (hb : Binds X.K fd ps []) (hr : Room (k + 1) X.A)
    (ha : PA X [e] ta) (hg : Gl X x := by rfl) (hdb : (x == ("__debug__" : Str)) = false := by decide) (he : starEach [e] X.env = (false, eval e X.env) :: starEach [] X.env := by rfl) (hpl : (backTo pos (starEach [] X.env)).any (·.1) = false := by rfl) :
    PS X (.Raise (some (.Call (.Name x p) [e] [] pos)) none pos2) (tRz C f W ta) := ps_raise hc tk (pmk_x T F1 hb hr ha hg hdb he hpl)
end Br

/-! Readings, one step each, by the head of the reading. -/
namespace Br
open PySem PySem.Spec PyProof.Rows L2
section
variable {σ σ' : L2.St} {H H' : Hp} {Q : VK} {ta tb te : TE} {tt tu : TT} {t u : TS} {r : R2} {v x y : V} {K : PySem.W.Frag}
theorem s_var {i : Nat} (h : σ[i]? = some (some v)) (q : Q v H) : tVar i σ H Q := ⟨v, h, q⟩
theorem s_c (q : Q v H) : tC v σ H Q := q
theorem s_op (q : ta σ H fun x H1 => tb σ H1 fun y H2 => r x y H2 Q) : tOp r ta tb σ H Q := q
theorem s_un {r : V → Hp → VK → Prop} (q : ta σ H fun x H1 => r x H1 Q) : tUn r ta σ H Q := q
theorem s_I0 {g : Int → Int → V} {i j : Int} (q : Q (g i j) H) : rI0 g (.int i) (.int j) H Q := ⟨i, j, rfl, rfl, q⟩
theorem s_I {C : Int → Int → Prop} {g : Int → Int → V} {i j : Int} (c : C i j) (q : Q (g i j) H) : rI C g (.int i) (.int j) H Q := ⟨i, j, rfl, rfl, c, q⟩
theorem s_U {g : Int → V} {i : Int} (q : Q (g i) H) : rU g (.int i) H Q := ⟨i, rfl, q⟩
theorem s_eq (h : scal x y = true) (q : Q (.bl (decide (x = y))) H) : rEq x y H Q := ⟨h, q⟩
theorem s_ne (h : scal x y = true) (q : Q (.bl (!decide (x = y))) H) : rNe x y H Q := ⟨h, q⟩
theorem s_test {R : Bool → Hp → Prop} (q : te σ H fun x H1 => ∃ k, x = .bl k ∧ R k H1) : tTest te σ H R := q
theorem s_tB {R : Bool → Hp → Prop} (q : te σ H fun x H1 => ∃ k, x = .bl k ∧ R k H1) : tB te σ H R := q
theorem s_bl {R : Bool → Prop} {k : Bool} (q : R k) : ∃ k', V.bl k = .bl k' ∧ R k' := ⟨k, rfl, q⟩
theorem s_and {R : Bool → Hp → Prop} (q : tt σ H fun c H1 => if c = true then tu σ H1 R else R false H1) : tAnd tt tu σ H R := q
theorem s_or {R : Bool → Hp → Prop} (q : tt σ H fun c H1 => if c = true then R true H1 else tu σ H1 R) : tOr tt tu σ H R := q
theorem s_not {R : Bool → Hp → Prop} (q : tt σ H fun c H1 => R (!c) H1) : tNot tt σ H R := q
theorem s_andV (q : ta σ H fun x H1 => ∃ c, x = .bl c ∧ if c = true then tb σ H1 Q else Q (.bl false) H1) : tAndV ta tb σ H Q := q
theorem s_orV (q : ta σ H fun x H1 => ∃ c, x = .bl c ∧ if c = true then Q (.bl true) H1 else tb σ H1 Q) : tOrV ta tb σ H Q := q
theorem s_notV (q : ta σ H fun x H1 => ∃ c, x = .bl c ∧ Q (.bl (!c)) H1) : tNotV ta σ H Q := q
theorem s_if (q : tt σ H fun c H1 => if c = true then ta σ H1 Q else tb σ H1 Q) : tIf tt ta tb σ H Q := q
theorem s_ifS {D : Ends} (q : tt σ H fun b H1 => if b = true then t D σ H1 else u D σ H1) : tIfS tt t u D σ H := q
theorem s_seq {nx rt bk ct} (q : t ⟨u ⟨nx, rt, bk, ct⟩, rt, bk, ct⟩ σ H) : tSeq t u ⟨nx, rt, bk, ct⟩ σ H := q
theorem s_next {nx rt bk ct} (q : nx σ H) : tNext ⟨nx, rt, bk, ct⟩ σ H := q
theorem s_asg {nx rt bk ct} {i : Nat} (q : te σ H fun x H1 => nx (σ.set i (some x)) H1) : tAsg te (gName i) ⟨nx, rt, bk, ct⟩ σ H := q
theorem s_par {nx rt bk ct} {i j : Nat} {t : TA} (q : t σ H fun vs H1 => ∃ v w, vs = [v, w] ∧ nx ((σ.set i (some v)).set j (some w)) H1) : tPar i j t ⟨nx, rt, bk, ct⟩ σ H := q
theorem s_two {R : V → V → Prop} {v w : V} (q : R v w) : ∃ v' w', [v, w] = [v', w'] ∧ R v' w' := ⟨v, w, rfl, q⟩
theorem s_ret {nx rt bk ct} (q : te σ H rt) : tRet te ⟨nx, rt, bk, ct⟩ σ H := q
theorem s_retN {nx rt bk ct} (q : rt .non H) : tRetN ⟨nx, rt, bk, ct⟩ σ H := q
theorem s_drop {nx rt bk ct} (q : te σ H fun _ H1 => nx σ H1) : tDrop te ⟨nx, rt, bk, ct⟩ σ H := q
theorem s_nil {R : List V → Hp → Prop} (q : R [] H) : tNil σ H R := q
theorem s_cons {tr : TA} {R : List V → Hp → Prop} (q : ta σ H fun x H1 => tr σ H1 fun xs H2 => R (x :: xs) H2) : tCons ta tr σ H R := q
theorem s_cl {sp : Sp} {t : TA} (q : t σ H fun vs H1 => sp vs H1 Q E0) : tCl sp t σ H Q := q
theorem s_clS {sp : Sp} {W : WX} {t : TA} (q : t σ H fun vs H1 => sp vs H1 Q (WE W σ)) : tClS sp W t σ H Q := q
theorem s_cb {r : List V → Hp → VK → Prop} {t : TA} (q : t σ H fun vs H1 => r vs H1 Q) : tCB r t σ H Q := q
theorem s_sl {r : V → Option Int → Option Int → Hp → VK → Prop} {tl th : TO} (q : te σ H fun x H1 => tl σ H1 fun l H2 => th σ H2 fun u H3 => r x l u H3 Q) : tSl r te tl th σ H Q := q
theorem s_part {R : Option Int → Hp → Prop} (q : te σ H fun x H1 => ∃ i, x = .int i ∧ R (some i) H1) : tPart te σ H R := q
theorem s_nopart {R : Option Int → Hp → Prop} (q : R none H) : tNoPart σ H R := q
theorem s_int {R : Int → Prop} {i : Int} (q : R i) : ∃ j, V.int i = .int j ∧ R j := ⟨i, rfl, q⟩
theorem s_dget {td ty : TE} (q : td σ H fun x H1 => ty σ H1 fun y H2 => ∃ a v, x = .ref a ∧ DGet H2 a y (some v) ∧ Q v H2) : tDGet td ty σ H Q := q
theorem s_dput {nx rt bk ct} {td ty tv : TE} (q : tv σ H fun v H1 => td σ H1 fun x H2 => ty σ H2 fun y H3 => ∃ a H4, x = .ref a ∧ DPut H3 a y v H4 ∧ nx σ H4) : sDPut td ty tv ⟨nx, rt, bk, ct⟩ σ H := q
theorem s_bm {T : String} {r : V → List V → Hp → VK → Prop} {t : TA} (q : ta σ H fun x H1 => tyV K T x H1 ∧ t σ H1 fun xs H2 => r x xs H2 Q) : tBM K T r ta t σ H Q := q
theorem s_bm0 {T : String} {r : V → List V → Hp → VK → Prop} (q : ta σ H fun x H1 => tyV K T x H1 ∧ r x [] H1 Q) : tBM0 K T r ta σ H Q := q
theorem s_m1 {r : V → List V → Hp → VK → Prop} (q : ta σ H fun x H1 => (∃ a, x = .str a) ∧ tb σ H1 fun y H2 => r x [y] H2 Q) : tM1 r ta tb σ H Q := q
theorem s_isstr {A : Prop} {z : Str} (q : A) : (∃ a, V.str z = .str a) ∧ A := ⟨⟨z, rfl⟩, q⟩
theorem s_kf {f : Str} (q : te σ H fun x H1 => ∃ (a C dd : Addr) (fs : List (Str × V)) (v : V), x = .ref a ∧ H1 a = some (xob a (.ref C) (some dd)) ∧ XfC K C ∧ PySem.W.findIn K (.ref C) f = some none ∧ H1 dd = some (.xd fs) ∧ fs.lookup f = some v ∧ Q v H1) : tKf K f te σ H Q := q
/-- a new object o, then Q of it -/
def Nw (o : HO) (H : Hp) (Q : VK) : Prop := ∀ p, H p = none → Q (.ref p) (upd H p o)
theorem same_new {p : Addr} {o : HO} (h : H p = none) : Same H (upd H p o) := fun b u e => by
  rw [upd_ne (ne_of_none e h)]
  exact e
theorem s_new {o : HO} (q : ∀ p H2, H p = none → Same H H2 → H2 p = some o → Q (.ref p) H2) : Nw o H Q := fun p hp => q p _ hp (same_new hp) upd_same
theorem s_lst {t : TA} (q : t σ H fun xs H1 => xs.length ≤ sizeLine ∧ Nw (.lst xs) H1 Q) : tLst t σ H Q := q
theorem s_tup {t : TA} (q : t σ H fun xs H1 => xs.length ≤ sizeLine ∧ Nw (.tup xs) H1 Q) : tTup t σ H Q := q
/-- an object that H does not know may change -/
theorem same_mut {p : Addr} {o : HO} (e : Same H H') (h : H p = none) : Same H (upd H' p o) := fun a u ha => by
  rw [upd_ne (ne_of_none ha h)]
  exact e a u ha
theorem same_seqT {a : Addr} {xs : List V} (e : Same H H') (h : SqT K H a xs) : SqT K H' a xs := by
  rcases h with (h | ⟨o, h⟩) | h
  · exact .inl (.inl (e _ _ h))
  · exact .inl (.inr ⟨o, e _ _ h⟩)
  · exact .inr h
theorem sqT {a : Addr} {xs : List V} (h : H a = some (.tup xs)) : SqT K H a xs := .inl (.inl h)
theorem sqL {a : Addr} {xs : List V} (h : H a = some (.lst xs)) : SqL K H a xs := .inl (.inl h)
/-! ### values -/
theorem r_ixL {p : Addr} {xs : List V} {i : Int} (h : SqL K H p xs) (ha : atI xs i = some v) (q : Q v H) : rIxL K (.ref p) (.int i) H Q := ⟨p, xs, i, v, rfl, rfl, h, ha, q⟩
theorem r_ixT {p : Addr} {xs : List V} {i : Int} (h : SqT K H p xs) (ha : atI xs i = some v) (q : Q v H) : rIxT K (.ref p) (.int i) H Q := ⟨p, xs, i, v, rfl, rfl, h, ha, q⟩
theorem r_ixS {z : Str} {i : Int} {c : Nat} (h : z.length ≤ sizeLine) (ha : atI z.cps.toList i = some c) (q : Q (.str ⟨#[c]⟩) H) : rIxS (.str z) (.int i) H Q := ⟨z, i, c, rfl, rfl, h, ha, q⟩
theorem r_slL {a : Addr} {xs : List V} {lo hi : Option Int} (h : SqL K H a xs) (q : Nw (.lst (cutV xs lo hi)) H Q) : rSlL K (.ref a) lo hi H Q := ⟨a, xs, rfl, h, q⟩
/-- tuple(x), list(x) -/
def rTupN (K : PySem.W.Frag) : List V → Hp → VK → Prop := fun xs H Q => ∃ p ys, xs = [.ref p] ∧ ((SqL K H p ys ∧ Nw (.tup ys) H Q) ∨ (SqT K H p ys ∧ Q (.ref p) H))
theorem call_tupN {X : Cx} : CallR X (.type "tuple") (rTupN X.K) := call_tuple_of
theorem r_tupL {p : Addr} {ys : List V} (h : SqL K H p ys) (q : Nw (.tup ys) H Q) : rTupN K [.ref p] H Q := ⟨p, ys, rfl, .inl ⟨h, q⟩⟩
theorem r_tupT {p : Addr} {ys : List V} (h : SqT K H p ys) (q : Q (.ref p) H) : rTupN K [.ref p] H Q := ⟨p, ys, rfl, .inr ⟨h, q⟩⟩
theorem tyL {p : Addr} {xs : List V} (h : H p = some (.lst xs)) : tyV K "list" (.ref p) H := .inl ⟨rfl, _, sqL h⟩
theorem r_append {l : Addr} {xs : List V} {y : V} (h : H l = some (.lst xs)) (hl : xs.length < sizeLine) (q : Q .non (upd H l (.lst (xs ++ [y])))) : rAppend (.ref l) [y] H Q := ⟨l, xs, y, rfl, rfl, h, hl, q⟩
theorem r_slS {z : Str} {lo hi : Option Int} (h : z.length ≤ sizeLine) (q : ∀ z' : Str, z' = cutS z lo hi → z'.length ≤ z.length → Q (.str z') H) : rSlS (.str z) lo hi H Q := ⟨z, rfl, h, q _ rfl (cutS_length z lo hi)⟩
theorem ixN_nat {n j : Nat} (h : j < n) : ixN n (j : Int) = some j := by
  unfold ixN
  rw [if_pos (by omega), if_pos (by omega)]
  rfl
theorem atI_get {α : Type} {xs : List α} {i : Int} {x : α} (h0 : 0 ≤ i) (h : xs[i.toNat]? = some x) : atI xs i = some x := by
  have hl : i.toNat < xs.length := (List.getElem?_eq_some_iff.mp h).1
  have e : i = ((i.toNat : Nat) : Int) := (Int.toNat_of_nonneg h0).symm
  unfold atI
  rw [e, ixN_nat hl]
  exact h
theorem atI_lt {α : Type} {xs : List α} {i : Int} (h0 : 0 ≤ i) (h : i < xs.length) : ∃ x, atI xs i = some x ∧ xs[i.toNat]? = some x := by
  have hl : i.toNat < xs.length := by omega
  exact ⟨xs[i.toNat], atI_get h0 (List.getElem?_eq_getElem hl), List.getElem?_eq_getElem hl⟩
/-! ### tests -/
theorem ifd {p A B : Prop} [Decidable p] (h1 : p → A) (h2 : ¬ p → B) : if decide p = true then A else B := by
  by_cases h : p
  · rw [if_pos (decide_eq_true h)]
    exact h1 h
  · rw [if_neg (by simp [h])]
    exact h2 h
theorem ifn {p A B : Prop} [Decidable p] (h1 : ¬ p → A) (h2 : p → B) : if (!decide p) = true then A else B := by
  by_cases h : p
  · rw [if_neg (by simp [h])]
    exact h2 h
  · rw [if_pos (by simp [h])]
    exact h1 h
theorem ifb {b : Bool} {A B : Prop} (h1 : b = true → A) (h2 : b = false → B) : if b = true then A else B := by
  cases b
  · rw [if_neg Bool.false_ne_true]
    exact h2 rfl
  · rw [if_pos rfl]
    exact h1 rfl
theorem ifnb {b : Bool} {A B : Prop} (h1 : b = false → A) (h2 : b = true → B) : if (!b) = true then A else B := by
  cases b
  · exact h1 rfl
  · exact h2 rfl
theorem ifT {b : Bool} {A B : Prop} (hb : b = true) (h : A) : if b = true then A else B := by
  rw [if_pos hb]
  exact h
theorem ifF {b : Bool} {A B : Prop} (hb : b = false) (h : B) : if b = true then A else B := by
  rw [hb, if_neg Bool.false_ne_true]
  exact h
theorem ifdI {i j : Int} {A B : Prop} (h1 : i = j → A) (h2 : i ≠ j → B) : if decide (V.int i = V.int j) = true then A else B := ifd (fun e => h1 (V.int.inj e)) fun e => h2 fun z => e (by rw [z])
theorem ifnI {i j : Int} {A B : Prop} (h1 : i ≠ j → A) (h2 : i = j → B) : if (!decide (V.int i = V.int j)) = true then A else B := ifn (fun e => h1 fun z => e (by rw [z])) fun e => h2 (V.int.inj e)
theorem ifdS {i j : Str} {A B : Prop} (h1 : i = j → A) (h2 : i ≠ j → B) : if decide (V.str i = V.str j) = true then A else B := ifd (fun e => h1 (V.str.inj e)) fun e => h2 fun z => e (by rw [z])
theorem ifnS {i j : Str} {A B : Prop} (h1 : i ≠ j → A) (h2 : i = j → B) : if (!decide (V.str i = V.str j)) = true then A else B := ifn (fun e => h1 fun z => e (by rw [z])) fun e => h2 (V.str.inj e)
/-- the slots by another name -/
theorem go_at {t : TS} {D : Ends} (e : σ = σ') (h : t D σ' H) : t D σ H := by
  rw [e]
  exact h
end
/-- both ways of an if lead on to R; what follows, from R -/
theorem s_cut {b : Bool} {t u : TS} {nx : L2.St → Hp → Prop} {rt : VK} {bk ct : L2.St → Hp → Prop} {σ : L2.St} {H : Hp} (R : L2.St → Hp → Prop) (rest : ∀ σ' H', R σ' H' → nx σ' H')
    (h1 : b = true → ∀ nx' : L2.St → Hp → Prop, (∀ σ' H', R σ' H' → nx' σ' H') → t ⟨nx', rt, bk, ct⟩ σ H) (h2 : b = false → ∀ nx' : L2.St → Hp → Prop, (∀ σ' H', R σ' H' → nx' σ' H') → u ⟨nx', rt, bk, ct⟩ σ H) :
    if b = true then t ⟨nx, rt, bk, ct⟩ σ H else u ⟨nx, rt, bk, ct⟩ σ H := ifb (fun h => h1 h nx rest) (fun h => h2 h nx rest)
/-- the same for an expression -/
theorem s_cutE {b : Bool} {ta tb : TE} {Q : VK} {σ : L2.St} {H : Hp} (R : V → Hp → Prop) (rest : ∀ v H', R v H' → Q v H')
    (h1 : b = true → ∀ Q' : VK, (∀ v H', R v H' → Q' v H') → ta σ H Q') (h2 : b = false → ∀ Q' : VK, (∀ v H', R v H' → Q' v H') → tb σ H Q') : if b = true then ta σ H Q else tb σ H Q :=
  ifb (fun h => h1 h Q rest) (fun h => h2 h Q rest)
/-- the same for «c and test» -/
theorem s_cutA {c : Bool} {tt : TT} {t u : TS} {nx : L2.St → Hp → Prop} {rt : VK} {bk ct : L2.St → Hp → Prop} {σ : L2.St} {H : Hp} (R : L2.St → Hp → Prop) (rest : ∀ σ' H', R σ' H' → nx σ' H')
    (h1 : c = true → ∀ nx' : L2.St → Hp → Prop, (∀ σ' H', R σ' H' → nx' σ' H') → tt σ H fun b H1 => if b = true then t ⟨nx', rt, bk, ct⟩ σ H1 else u ⟨nx', rt, bk, ct⟩ σ H1)
    (h2 : c = false → ∀ nx' : L2.St → Hp → Prop, (∀ σ' H', R σ' H' → nx' σ' H') → u ⟨nx', rt, bk, ct⟩ σ H) :
    if c = true then (tt σ H fun b H1 => if b = true then t ⟨nx, rt, bk, ct⟩ σ H1 else u ⟨nx, rt, bk, ct⟩ σ H1) else (if false = true then t ⟨nx, rt, bk, ct⟩ σ H else u ⟨nx, rt, bk, ct⟩ σ H) :=
  ifb (fun h => h1 h nx rest) (fun h => iteF (h2 h nx rest))
theorem s_pairs {tk tv : TE} {r : List (TE × TE)} {σ : L2.St} {H : Hp} {R : List (V × V) → Hp → Prop} (q : tk σ H fun x H1 => tv σ H1 fun y H2 => tPairs r σ H2 fun ps H3 => R ((x, y) :: ps) H3) : tPairs ((tk, tv) :: r) σ H R := q
theorem s_pairs0 {σ : L2.St} {H : Hp} {R : List (V × V) → Hp → Prop} (q : R [] H) : tPairs [] σ H R := q
theorem s_disp {trs : List (TE × TE)} {σ : L2.St} {H : Hp} {Q : VK} (q : ∀ p, H p = none → tPairs trs σ (upd H p (.dK [])) fun ps H2 => H2 p = some (.dK []) ∧ ∃ kvs : List (Key × V), ps = kvs.map (fun kv => (kV kv.1, kv.2)) ∧ kvs.length ≤ 15 ∧ Q (.ref p) (upd H2 p (.dK (mergeK [] kvs)))) : tDisp trs σ H Q := q
theorem s_dnew {σ : L2.St} {H : Hp} {Q : VK} (q : Nw (.dK []) H Q) : tDNewK σ H Q := q
theorem s_for {wi : TI} {g : TG} {tb : TS} {nx : L2.St → Hp → Prop} {rt : VK} {bk ct : L2.St → Hp → Prop} {σ : L2.St} {H : Hp} (q : wi σ H fun J H1 => ∃ W : Nat → Nat → L2.St → Hp → Prop, (∃ m, W 0 m σ H1) ∧ ∀ i m σ H, W i m σ H →
    (J.stop i H ∧ nx σ H) ∨ (J.go i H ∧ ∃ N : L2.St → Hp → Prop, (∀ σ' H', N σ' H' → ∃ m', m' < m ∧ W (i + 1) m' σ' H') ∧ ∀ x H', J.yld i H x H' → g x σ H' fun σ2 H2 => tb ⟨N, rt, nx, N⟩ σ2 H2)) : tFor wi g tb ⟨nx, rt, bk, ct⟩ σ H := q
theorem s_lc {wi : TI} {g : TG} {tt : TT} {te : TE} {vs : List Nat} {σ : L2.St} {H : Hp} {Q : VK} (q : wi σ H fun J H1 => ∀ D, H1 D = none → ∃ W : Nat → Nat → Hp → Prop, (∃ m, W 0 m (upd H1 D (.lst []))) ∧ ∀ i m H, W i m H →
  (J.stop i H ∧ Q (.ref D) H) ∨ (J.go i H ∧ ∃ Nx : Hp → Prop, (∀ H', Nx H' → ∃ m', m' < m ∧ W (i + 1) m' H') ∧ ∀ x H', J.yld i H x H' → g x (wipe σ vs) H' fun σ2 H2 => wipe σ2 vs = wipe σ vs ∧ tt σ2 H2 fun b H3 =>
    if b = true then te σ2 H3 fun y H4 => ∃ acc, H4 D = some (.lst acc) ∧ acc.length < sizeLine ∧ Nx (upd H4 D (.lst (acc ++ [y]))) else Nx H3)) : tLc wi g tt te vs σ H Q := q
theorem s_iList {K : PySem.W.Frag} {tl : TE} {σ : L2.St} {H : Hp} {R : It → Hp → Prop} (q : tl σ H fun x H1 => ∃ a, x = .ref a ∧ (∃ xs, SqL K H1 a xs) ∧ R (Itl K a) H1) : iList K tl σ H R := q
theorem s_iTup {K : PySem.W.Frag} {tl : TE} {σ : L2.St} {H : Hp} {R : It → Hp → Prop} (q : tl σ H fun x H1 => ∃ a, x = .ref a ∧ (∃ xs, SqT K H1 a xs) ∧ R (Itt K a) H1) : iTup K tl σ H R := q
theorem s_iRng1 {t : TA} {σ : L2.St} {H : Hp} {R : It → Hp → Prop} (q : t σ H fun vs H1 => ∃ j : Int, vs = [.int j] ∧ -(2 ^ 62) ≤ j ∧ j < 2 ^ 62 ∧ R (Itr 0 j.toNat) H1) : iRng1 t σ H R := q
theorem s_iRng2 {t : TA} {σ : L2.St} {H : Hp} {R : It → Hp → Prop} (q : t σ H fun vs H1 => ∃ i j : Int, vs = [.int i, .int j] ∧ (-(2 ^ 62) ≤ i ∧ i < 2 ^ 62 ∧ -(2 ^ 62) ≤ j ∧ j < 2 ^ 62) ∧ R (Itr i (j - i).toNat) H1) : iRng2 t σ H R := q
theorem s_iRng3 {t : TA} {σ : L2.St} {H : Hp} {R : It → Hp → Prop} (q : t σ H fun vs H1 => ∃ (i j c : Int) (n : Nat), vs = [.int i, .int j, .int c] ∧ RgC i j c n ∧ R (Itc i c n) H1) : iRng3 t σ H R := q
theorem s_vei {K : PySem.W.Frag} {t : TA} {σ : L2.St} {H : Hp} {Q : VK} (q : t σ H fun vs H1 => ∃ (a C : Addr) (ws : List V), vs = .ref a :: ws ∧ ws.length ≤ 1000 ∧ OexC K C ∧ H1 a = some (exo a C none) ∧ Q .non H1) : tVeI K t σ H Q := q
theorem s_ost {K : PySem.W.Frag} {f : Str} {to te : TE} {nx : L2.St → Hp → Prop} {rt : VK} {bk ct : L2.St → Hp → Prop} {σ : L2.St} {H : Hp} (q : te σ H fun y H1 => to σ H1 fun x H2 => ∃ a C : Addr, x = .ref a ∧ OexC K C ∧ PySem.W.findIn K (.ref C) f = some none ∧
  ((H2 a = some (exo a C none) ∧ ∀ dx, H2 dx = none → dx ≠ a → nx σ (upd (upd H2 dx (exd dx [(f, y)])) a (exo a C (some dx)))) ∨
    ∃ (dx : Addr) (fs : List (Str × V)), H2 a = some (exo a C (some dx)) ∧ H2 dx = some (exd dx fs) ∧ fs.length ≤ 900 ∧ nx σ (upd H2 dx (exd dx ((f, y) :: fs))))) : tOst K f to te ⟨nx, rt, bk, ct⟩ σ H := q
theorem s_mkx {C : Addr} {f : Str} {t : TA} {σ : L2.St} {H : Hp} {Q : XK} (q : t σ H fun vs H1 => ∃ v, vs = [v] ∧ rXr C f v H1 Q) : tMkX C f t σ H Q := q
theorem s_rz {C : Addr} {f : Str} {W : WX} {t : TA} {D : Ends} {σ : L2.St} {H : Hp} (q : t σ H fun vs H1 => ∃ v, vs = [v] ∧ rXr C f v H1 fun cls d H' => W cls d σ H') : tRz C f W t D σ H := q
theorem s_iEnumT {K : PySem.W.Frag} {t : TA} {σ : L2.St} {H : Hp} {R : It → Hp → Prop} (q : t σ H fun vs H1 => ∃ a xs, vs = [.ref a] ∧ SqT K H1 a xs ∧ R (Itet K a 0) H1) : iEnumT K t σ H R := q
theorem s_iEnumS {t : TA} {σ : L2.St} {H : Hp} {R : It → Hp → Prop} (q : t σ H fun vs H1 => ∃ x, vs = [.str x] ∧ R (Ites x) H1) : iEnumS t σ H R := q
theorem s_revS {te : TE} {σ : L2.St} {H : Hp} {Q : VK} (q : te σ H fun x H1 => ∃ z, x = .str z ∧ z.length ≤ sizeLine ∧ ∀ z' : Str, z'.length ≤ z.length → Q (.str z') H1) : tRevS te σ H Q := q
theorem s_yes {σ : L2.St} {H : Hp} {R : Bool → Hp → Prop} (q : R true H) : tYes σ H R := q
theorem s_gName {i : Nat} {v : V} {σ : L2.St} {H : Hp} {R : L2.St → Hp → Prop} (q : R (σ.set i (some v)) H) : gName i v σ H R := q
theorem s_gTup {K : PySem.W.Frag} {n : Nat} {t : TGs} {a : Addr} {xs : List V} {σ : L2.St} {H : Hp} {R : L2.St → Hp → Prop} (h : SqT K H a xs) (hl : xs.length = n) (q : t xs σ H R) : gTup K n t (.ref a) σ H R := ⟨a, xs, rfl, h, hl, q⟩
theorem s_gCons {t : TG} {u : TGs} {v : V} {r : List V} {σ : L2.St} {H : Hp} {R : L2.St → Hp → Prop} (q : t v σ H fun σ' H' => u r σ' H' R) : gCons t u (v :: r) σ H R := ⟨v, r, rfl, q⟩
theorem s_gNil {σ : L2.St} {H : Hp} {R : L2.St → Hp → Prop} (q : R σ H) : gNil [] σ H R := ⟨rfl, q⟩
/-! ### loops, by a walk -/
section
variable {J : It} {n : Nat} {G : Hp → Prop} {Y : Nat → Hp → V → Hp → Prop} {g : TG} {tb : TS} {nx : L2.St → Hp → Prop} {rt : VK} {σ : L2.St} {H : Hp}
theorem f_it (w : Walk J n G Y) (Pv : Nat → L2.St → Hp → Prop) (h0 : Pv 0 σ H) (hG : ∀ i σ H, i ≤ n → Pv i σ H → G H)
    (hs : ∀ i x σ H H', i < n → Pv i σ H → Y i H x H' → g x σ H' fun σ2 H2 => tb ⟨Pv (i + 1), rt, nx, Pv (i + 1)⟩ σ2 H2) (hd : ∀ σ H, Pv n σ H → nx σ H) :
    ∃ W : Nat → Nat → L2.St → Hp → Prop, (∃ m, W 0 m σ H) ∧ ∀ i m σ H, W i m σ H →
      (J.stop i H ∧ nx σ H) ∨ (J.go i H ∧ ∃ N : L2.St → Hp → Prop, (∀ σ' H', N σ' H' → ∃ m', m' < m ∧ W (i + 1) m' σ' H') ∧ ∀ x H', J.yld i H x H' → g x σ H' fun σ2 H2 => tb ⟨N, rt, nx, N⟩ σ2 H2) :=
  for_it (D := ⟨nx, rt, fun _ _ => False, fun _ _ => False⟩) w Pv h0 hG hs hd
theorem walk_r {lo : Int} {n : Nat} : Walk (Itr lo n) n (fun _ => True) (fun i H x H' => H' = H ∧ x = .int (lo + (i : Nat))) := ⟨fun i H hi _ => hi, fun H _ => Nat.le_refl _, fun i H x H' _ _ y => y⟩
theorem walk_l {K : PySem.W.Frag} {a : Addr} {xs : List V} : Walk (Itl K a) xs.length (fun H => SqL K H a xs) (fun i H x H' => H' = H ∧ xs[i]? = some x) :=
  ⟨fun i H hi q => ⟨xs, xs[i], q, by simp [hi]⟩, fun H q => ⟨xs, q, Nat.le_refl _⟩, fun i H x H' hi q y => ⟨y.1, y.2 xs q⟩⟩
theorem walk_t {K : PySem.W.Frag} {a : Addr} {xs : List V} : Walk (Itt K a) xs.length (fun H => SqT K H a xs) (fun i H x H' => H' = H ∧ xs[i]? = some x) :=
  ⟨fun i H hi q => ⟨xs, xs[i], q, by simp [hi]⟩, fun H q => ⟨xs, q, Nat.le_refl _⟩, fun i H x H' hi q y => ⟨y.1, y.2 xs q⟩⟩
theorem walk_c {lo c : Int} {n : Nat} : Walk (Itc lo c n) n (fun _ => True) (fun i H x H' => H' = H ∧ x = .int (lo + (i : Nat) * c)) := ⟨fun i H hi _ => hi, fun H _ => Nat.le_refl _, fun i H x H' _ _ y => y⟩
theorem f_range {lo : Int} (Pv : Nat → L2.St → Hp → Prop) (h0 : Pv 0 σ H) (hs : ∀ i σ H, i < n → Pv i σ H → g (.int (lo + (i : Nat))) σ H fun σ2 H2 => tb ⟨Pv (i + 1), rt, nx, Pv (i + 1)⟩ σ2 H2) (hd : ∀ σ H, Pv n σ H → nx σ H) :
    ∃ W : Nat → Nat → L2.St → Hp → Prop, (∃ m, W 0 m σ H) ∧ ∀ i m σ H, W i m σ H →
      ((Itr lo n).stop i H ∧ nx σ H) ∨ ((Itr lo n).go i H ∧ ∃ N : L2.St → Hp → Prop, (∀ σ' H', N σ' H' → ∃ m', m' < m ∧ W (i + 1) m' σ' H') ∧ ∀ x H', (Itr lo n).yld i H x H' → g x σ H' fun σ2 H2 => tb ⟨N, rt, nx, N⟩ σ2 H2) :=
  f_it walk_r Pv h0 (fun _ _ _ _ _ => trivial) (fun i x σ H H' hi p y => by obtain ⟨rfl, rfl⟩ := y; exact hs i σ _ hi p) hd
theorem f_list {K : PySem.W.Frag} {a : Addr} {xs : List V} (Pv : Nat → L2.St → Hp → Prop) (h0 : Pv 0 σ H) (hl : ∀ i σ H, i ≤ xs.length → Pv i σ H → SqL K H a xs)
    (hs : ∀ i x σ H, xs[i]? = some x → Pv i σ H → g x σ H fun σ2 H2 => tb ⟨Pv (i + 1), rt, nx, Pv (i + 1)⟩ σ2 H2) (hd : ∀ σ H, Pv xs.length σ H → nx σ H) :
    ∃ W : Nat → Nat → L2.St → Hp → Prop, (∃ m, W 0 m σ H) ∧ ∀ i m σ H, W i m σ H →
      ((Itl K a).stop i H ∧ nx σ H) ∨ ((Itl K a).go i H ∧ ∃ N : L2.St → Hp → Prop, (∀ σ' H', N σ' H' → ∃ m', m' < m ∧ W (i + 1) m' σ' H') ∧ ∀ x H', (Itl K a).yld i H x H' → g x σ H' fun σ2 H2 => tb ⟨N, rt, nx, N⟩ σ2 H2) :=
  f_it walk_l Pv h0 hl (fun i x σ H H' hi p y => by obtain ⟨rfl, e⟩ := y; exact hs i x σ _ e p) hd
theorem f_tup {K : PySem.W.Frag} {a : Addr} {xs : List V} (Pv : Nat → L2.St → Hp → Prop) (h0 : Pv 0 σ H) (hl : ∀ i σ H, i ≤ xs.length → Pv i σ H → SqT K H a xs)
    (hs : ∀ i x σ H, xs[i]? = some x → Pv i σ H → g x σ H fun σ2 H2 => tb ⟨Pv (i + 1), rt, nx, Pv (i + 1)⟩ σ2 H2) (hd : ∀ σ H, Pv xs.length σ H → nx σ H) :
    ∃ W : Nat → Nat → L2.St → Hp → Prop, (∃ m, W 0 m σ H) ∧ ∀ i m σ H, W i m σ H →
      ((Itt K a).stop i H ∧ nx σ H) ∨ ((Itt K a).go i H ∧ ∃ N : L2.St → Hp → Prop, (∀ σ' H', N σ' H' → ∃ m', m' < m ∧ W (i + 1) m' σ' H') ∧ ∀ x H', (Itt K a).yld i H x H' → g x σ H' fun σ2 H2 => tb ⟨N, rt, nx, N⟩ σ2 H2) :=
  f_it walk_t Pv h0 hl (fun i x σ H H' hi p y => by obtain ⟨rfl, e⟩ := y; exact hs i x σ _ e p) hd
end
theorem take_more {α : Type} {l : List α} {i : Nat} {x : α} (h : l[i]? = some x) : l.take (i + 1) = l.take i ++ [x] := by
  rw [List.take_add_one, h]
  rfl
theorem emod_bd {a m : Int} (h : 0 < m) : 0 ≤ a % m ∧ a % m < m := ⟨Int.emod_nonneg _ (by omega), Int.emod_lt_of_pos _ h⟩
end Br

/-! The pen of a law: a dict of cells, a count, what is left of a great cell. -/
namespace Br
open PySem PySem.Spec PyProof.Rows L2
theorem val_hit {κ : Type} [DecidableEq κ] {k : κ} {v : V} {r : List (κ × V)} : valV ((k, v) :: r) k = some v := by
  unfold valV
  rw [List.find?_cons_of_pos (by simp)]
  rfl
theorem val_skip {κ : Type} [DecidableEq κ] {k k' : κ} {v : V} {r : List (κ × V)} (h : k' ≠ k) : valV ((k', v) :: r) k = valV r k := by
  unfold valV
  rw [List.find?_cons_of_neg (by simpa using h)]
/-- all but d is as it was -/
def SBut (d : Addr) (H H' : Hp) : Prop := ∀ b o, b ≠ d → H b = some o → H' b = some o
theorem SBut.refl (d : Addr) (H : Hp) : SBut d H H := fun _ _ _ h => h
theorem SBut.trans {d : Addr} {H H1 H2 : Hp} (a : SBut d H H1) (b : SBut d H1 H2) : SBut d H H2 := fun c o n h => b c o n (a c o n h)
theorem SBut.of {d : Addr} {H H' : Hp} (a : Same H H') : SBut d H H' := fun b o _ h => a b o h
theorem SBut.then {d : Addr} {H H1 H2 : Hp} (a : SBut d H H1) (b : Same H1 H2) : SBut d H H2 := fun c o n h => b c o (a c o n h)
/-- what was new is not d's -/
theorem SBut.at {d : Addr} {H H' : Hp} (a : SBut d H H') {p : Addr} {o : HO} (h : H p = some o) (n : p ≠ d) : H' p = some o := a p o n h
abbrev penL (kn : Str) (c : Addr) (a l : Int) : List (Key × V) := [(.inr "cells", .ref c), (.inr kn, .int a), (.inr "left", .int l)]
/-- a pen at d that has drawn at most n cells -/
def PenAt (kn : Str) (H : Hp) (d c : Addr) (n : Nat) : Prop := ∃ (ns : List Int) (a l : Int),
  H d = some (.dK (penL kn c a l)) ∧ H c = some (.lst (ns.map V.int)) ∧ ns.length ≤ 63 ∧ 0 ≤ a ∧ a ≤ n ∧ 0 ≤ l
/-- a name for the count: no other key's -/
structure PenKey (kn : Str) : Prop where
  c : ¬ (("cells" : Str) = kn)
  l : ¬ (("left" : Str) = kn)
  kl : ¬ (kn = "left")
theorem key_nth : PenKey "nth" := ⟨by decide +kernel, by decide +kernel, by decide +kernel⟩
theorem key_at : PenKey "at" := ⟨by decide +kernel, by decide +kernel, by decide +kernel⟩
theorem cells_left : ¬ (("cells" : Str) = "left") := by decide +kernel
section
variable {kn : Str} (P : PenKey kn) {c : Addr} {a l x : Int}
theorem inr_ne {x y : Str} (h : ¬ x = y) : (Sum.inr x : Key) ≠ Sum.inr y := fun z => h (Sum.inr.inj z)
theorem pen_cells : valV (penL kn c a l) (.inr "cells" : Key) = some (.ref c) := val_hit
include P in
theorem pen_nth : valV (penL kn c a l) (.inr kn : Key) = some (.int a) := (val_skip (inr_ne P.c)).trans val_hit
include P in
theorem pen_left : valV (penL kn c a l) (.inr "left" : Key) = some (.int l) := (val_skip (inr_ne cells_left)).trans ((val_skip (inr_ne P.kl)).trans val_hit)
include P in
theorem pen_put_nth : putK (penL kn c a l) (.inr kn : Key) (.int x) = penL kn c x l := by
  have h1 := P.c
  have h2 := P.l
  simp [putK, h1, h2, List.any]
include P in
theorem pen_put_left : putK (penL kn c a l) (.inr "left" : Key) (.int x) = penL kn c a x := by
  have h1 := P.kl
  have h2 := cells_left
  simp [putK, h1, h2, List.any]
end
theorem dget_k {H : Hp} {a : Addr} {kvs : List (Key × V)} {k : Key} {v : V} (e : H a = some (.dK kvs)) (h : valV kvs k = some v) : DGet H a (kV k) (some v) := h ▸ DGet.k e
theorem dput_k {H : Hp} {a : Addr} {kvs kvs' : List (Key × V)} {k : Key} {v : V} (e : H a = some (.dK kvs)) (hl : kvs.length < sizeLine) (h : putK kvs k v = kvs') : DPut H a (kV k) v (upd H a (.dK kvs')) := h ▸ DPut.k e hl
theorem three_lt (x y z : Key × V) : [x, y, z].length < sizeLine := by show 3 < sizeLine; decide
def spDraw (kn : Str) : Sp := fun vs H Q _ => ∃ (d c : Addr) (n : Nat) (m : Int), vs = [.ref d, .int m] ∧ PenAt kn H d c n ∧ n < 1000000000 ∧ 0 < m ∧ m < 1073741824 ∧
  ∀ (r : Int) (H' : Hp), 0 ≤ r → r < m → PenAt kn H' d c (n + 1) → SBut d H H' → Q (.int r) H'
/-! ### data -/
theorem dpAll_ints {K : PySem.W.Frag} {H : Hp} : ∀ ns : List Int, DpAll K H (ns.map V.int) (ns.map PyData.int)
  | [] => .nil
  | n :: r => .cons (.int n) (dpAll_ints r)
theorem lay_ints : ∀ ns : List Int, PyData.canLayAll0 (ns.map PyData.int) = true ∧ PyData.depthAll (ns.map PyData.int) = 0
  | [] => ⟨rfl, rfl⟩
  | n :: r => by
    obtain ⟨h1, h2⟩ := lay_ints r
    refine ⟨?_, ?_⟩
    · show (true && PyData.canLayAll0 (r.map PyData.int)) = true
      rw [h1]; rfl
    · show max 0 (PyData.depthAll (r.map PyData.int)) = 0
      rw [h2]; rfl
theorem shaped_listInts (ns : List Int) : SeqAt.shaped (.list (ns.map PyData.int)) = true := by
  obtain ⟨h1, h2⟩ := lay_ints ns
  show (PyData.canLayAll0 (ns.map PyData.int) && decide (PyData.depthAll (ns.map PyData.int) + 1 ≤ 64)) = true
  rw [h1, h2]; rfl
theorem shaped_tupInts (ns : List Int) : SeqAt.shaped (.tuple (ns.map PyData.int)) = true := by
  obtain ⟨h1, h2⟩ := lay_ints ns
  show (PyData.canLayAll0 (ns.map PyData.int) && decide (PyData.depthAll (ns.map PyData.int) + 1 ≤ 64)) = true
  rw [h1, h2]; rfl
theorem eqv_nil_ints (ns : List Int) : PyData.eqv (.list (ns.map PyData.int)) (.list []) = ns.isEmpty := by
  cases ns <;> rfl
/-! ### the promises of a law's small defs -/
def spFeed (kn : Str) (K : PySem.W.Frag) : Sp := fun vs H Q _ => ∃ (a : Addr) (ns : List Int), vs = [.ref a] ∧ SqL K H a (ns.map V.int) ∧ ns.length ≤ 63 ∧
  ∀ (d c : Addr) (H' : Hp), H d = none → Same H H' → PenAt kn H' d c 0 → Q (.ref d) H'
def spPick (kn : Str) : Sp := fun vs H Q _ => ∃ (d c q : Addr) (n : Nat) (xs : List V), vs = [.ref d, .ref q] ∧ PenAt kn H d c n ∧ n < 1000000000 ∧ H q = some (.lst xs) ∧ 0 < xs.length ∧ xs.length < 1000000 ∧
  ∀ (v : V) (H' : Hp), v ∈ xs → PenAt kn H' d c (n + 1) → SBut d H H' → Q v H'
def spByte (kn : Str) : Sp := fun vs H Q _ => ∃ (d c : Addr) (n : Nat), vs = [.ref d] ∧ PenAt kn H d c n ∧ n < 100000000 ∧
  ∀ (r : Int) (H' : Hp), 0 ≤ r → r < 256 → PenAt kn H' d c (n + 2) → SBut d H H' → Q (.int r) H'
theorem PenAt.ne {kn : Str} {H : Hp} {d c : Addr} {n : Nat} (p : PenAt kn H d c n) {q : Addr} {xs : List V} (h : H q = some (.lst xs)) : q ≠ d := by
  obtain ⟨ns, a, l, hd, _⟩ := p
  exact ne_of h hd (by intro z; cases z)
theorem PenAt.neT {kn : Str} {H : Hp} {d c : Addr} {n : Nat} (p : PenAt kn H d c n) {q : Addr} {xs : List V} (h : H q = some (.tup xs)) : q ≠ d := by
  obtain ⟨ns, a, l, hd, _⟩ := p
  exact ne_of h hd (by intro z; cases z)
theorem PenAt.mono {kn : Str} {H H' : Hp} {d c : Addr} {n m : Nat} (p : PenAt kn H d c n) (s : Same H H') (h : n ≤ m) : PenAt kn H' d c m := by
  obtain ⟨ns, a, l, hd, hc, h1, h2, h3, h4⟩ := p
  exact ⟨ns, a, l, s _ _ hd, s _ _ hc, h1, h2, by omega, h4⟩
/-- another object has changed -/
theorem PenAt.upd {kn : Str} {H : Hp} {d c : Addr} {n m : Nat} (p : PenAt kn H d c n) {q : Addr} {o : HO} (h1 : q ≠ d) (h2 : q ≠ c) (h : n ≤ m) : PenAt kn (upd H q o) d c m := by
  obtain ⟨ns, a, l, hd, hc, h3, h4, h5, h6⟩ := p
  exact ⟨ns, a, l, by rw [upd_ne (Ne.symm h1)]; exact hd, by rw [upd_ne (Ne.symm h2)]; exact hc, h3, h4, by omega, h6⟩
theorem PenAt.new {kn : Str} {H : Hp} {d c : Addr} {n : Nat} (p : PenAt kn H d c n) {q : Addr} (h : H q = none) : q ≠ d ∧ q ≠ c := by
  obtain ⟨ns, a, l, hd, hc, _⟩ := p
  exact ⟨(fun e => by rw [e, hd] at h; cases h), (fun e => by rw [e, hc] at h; cases h)⟩
theorem atI_mem {xs : List V} {i : Int} (h0 : 0 ≤ i) (h : i < xs.length) : ∃ x, x ∈ xs ∧ atI xs i = some x := by
  obtain ⟨x, h1, h2⟩ := atI_lt h0 h
  exact ⟨x, List.mem_of_getElem? h2, h1⟩
theorem pen_new {kn : Str} (P : PenKey kn) {c : Addr} : mergeK [] [(Sum.inr "cells", V.ref c), (Sum.inr kn, V.int 0), (Sum.inr "left", V.int 0)] = penL kn c 0 0 := by
  have h1 := P.c
  have h2 := P.kl
  have h3 := cells_left
  simp [mergeK, putK, h1, h2, h3, List.any]
/-! ### what is shown -/
theorem app_len (x y : Str) : (x ++ y).length = x.length + y.length := by
  show (x.cps ++ y.cps).size = _
  rw [Array.size_append]
  rfl
theorem textFrom_le : ∀ (ts : List Str) (k : Nat) (acc : Str), (textFrom k acc ts).length ≤ acc.length + piled ts
  | [], k, acc => Nat.le_refl _
  | t :: r, k, acc => by
    have h := textFrom_le r (k + 1) (acc ++ (if k > 0 then ", " else "" : String) ++ t)
    rw [app_len, app_len] at h
    have h2 : (Str.ofString (if k > 0 then ", " else "" : String)).length ≤ 2 := by split <;> decide
    rw [piled_cons]
    show (textFrom (k + 1) _ r).length ≤ _
    omega
theorem listText_le (ts : List Str) : (listText ts).length ≤ 2 + piled ts := by
  unfold listText
  rw [app_len]
  have h := textFrom_le ts 0 "["
  have h1 : (Str.ofString "[").length = 1 := by decide
  have h2 : (Str.ofString "]").length = 1 := by decide
  omega
theorem tupleText_le (ts : List Str) : (tupleText ts).length ≤ 3 + piled ts := by
  unfold tupleText
  rw [app_len, app_len]
  have h1 : (Str.ofString "(").length = 1 := by decide
  have h2 : (Str.ofString (if ts.length == 1 then ",)" else ")" : String)).length ≤ 2 := by split <;> decide
  have h3 : (Str.join ", " ts).length ≤ piled ts := by
    cases ts with
    | nil => exact Nat.zero_le _
    | cons t r =>
      have := join_length_add (t :: r) (by simp)
      omega
  omega
theorem piled_le {c : Nat} : ∀ ts : List Str, (∀ t ∈ ts, t.length ≤ c) → piled ts ≤ ts.length * (c + 2)
  | [], _ => Nat.zero_le _
  | t :: r, h => by
    have h1 := h t (by simp)
    have h2 := piled_le r fun x hx => h x (by simp [hx])
    rw [piled_cons, List.length_cons, Nat.add_mul]
    omega
/-- data that may be shown and compared: of a depth of at most j, of at most n signs -/
structure Shw (d : PyData) (j n : Nat) : Prop where
  sh : d.showable = true
  nd : d.hasDict = false
  dp : d.depth ≤ j
  ln : d.shown.length ≤ n
  cl : d.canLay0 = true
theorem Shw.shaped {d : PyData} {j n : Nat} (s : Shw d j n) (h : j ≤ 64) : SeqAt.shaped d = true := by
  show (d.canLay0 && decide (d.depth ≤ 64)) = true
  rw [s.cl, decide_eq_true (Nat.le_trans s.dp h)]
  rfl
theorem ofString_len (x : String) : (Str.ofString x).length = x.length := PySem.ofString_length x
theorem Shw.int {i : Int} (h : i.natAbs < 10 ^ 400) : Shw (.int i) 0 401 := by
  refine ⟨?_, rfl, Nat.le_refl _, ?_, rfl⟩
  · show decide (i.natAbs.log2 < 1920) = true
    refine decide_eq_true ?_
    by_cases h0 : i.natAbs = 0
    · rw [h0]; decide
    · rw [Nat.log2_lt h0]
      exact Nat.lt_of_lt_of_le h (by decide +kernel)
  · show (Str.ofString (toString i)).length ≤ 401
    have := int_text_length_le10 (a := i) (k := 400) (by decide) h
    rw [ofString_len]
    exact this
theorem Shw.small {i : Int} (h0 : 0 ≤ i) (h : i < 10000000) : Shw (.int i) 0 8 := by
  have h' : i.natAbs < 10 ^ 7 := by omega
  refine ⟨(Shw.int (i := i) (Nat.lt_of_lt_of_le h' (Nat.pow_le_pow_right (by decide) (by decide)))).sh, rfl, Nat.le_refl _, ?_, rfl⟩
  show (Str.ofString (toString i)).length ≤ 8
  have := int_text_length_le10 (a := i) (k := 7) (by decide) h'
  rw [ofString_len]
  exact this
theorem Shw.non : Shw .none 0 4 := ⟨rfl, rfl, Nat.le_refl _, by decide, rfl⟩
theorem Shw.bl (b : Bool) : Shw (.bool b) 0 5 := ⟨rfl, rfl, Nat.le_refl _, by cases b <;> decide, rfl⟩
theorem Shw.str {x : Str} (h : PyData.strOk x = true) : Shw (.str x) 0 (10 * x.length + 2) := by
  refine ⟨rfl, rfl, Nat.le_refl _, StrLaws.reprText_len x fun c hc => ?_, h⟩
  have h' : x.cps.all (· < 0x110000) = true := h
  rw [Array.all_eq_true'] at h'
  have := h' c (by simpa using hc)
  have : c < 0x110000 := by simpa using this
  exact Nat.lt_of_lt_of_le this (by decide)
theorem shw_all {j n : Nat} : ∀ xs : List PyData, (∀ x ∈ xs, Shw x j n) → PyData.showableAll xs = true ∧ PyData.hasDictAll xs = false ∧ PyData.depthAll xs ≤ j ∧ (∀ t ∈ PyData.shownAll xs, t.length ≤ n) ∧ PyData.canLayAll0 xs = true ∧ (PyData.shownAll xs).length = xs.length
  | [], _ => ⟨rfl, rfl, Nat.zero_le _, fun t h => (List.not_mem_nil (show t ∈ ([] : List Str) from h)).elim, rfl, rfl⟩
  | x :: r, h => by
    have s := h x (by simp)
    obtain ⟨a, b, c, d, e, f⟩ := shw_all r fun y hy => h y (by simp [hy])
    refine ⟨?_, ?_, ?_, ?_, ?_, ?_⟩
    · show (x.showable && PyData.showableAll r) = true
      rw [s.sh, a]; rfl
    · show (x.hasDict || PyData.hasDictAll r) = false
      rw [s.nd, b]; rfl
    · show max x.depth (PyData.depthAll r) ≤ j
      exact Nat.max_le.mpr ⟨s.dp, c⟩
    · intro t ht
      have ht' : t ∈ x.shown :: PyData.shownAll r := ht
      rcases List.mem_cons.mp ht' with e | e
      · rw [e]; exact s.ln
      · exact d t e
    · show (x.canLay0 && PyData.canLayAll0 r) = true
      rw [s.cl, e]; rfl
    · show (x.shown :: PyData.shownAll r).length = (x :: r).length
      rw [List.length_cons, List.length_cons, f]
theorem Shw.list {j n : Nat} {xs : List PyData} (h : ∀ x ∈ xs, Shw x j n) : Shw (.list xs) (j + 1) (3 + xs.length * (n + 2)) := by
  obtain ⟨a, b, c, d, e, f⟩ := shw_all xs h
  refine ⟨a, b, Nat.succ_le_succ c, ?_, e⟩
  show (listText (PyData.shownAll xs)).length ≤ _
  have h1 := listText_le (PyData.shownAll xs)
  have h2 := piled_le _ d
  rw [f] at h2
  omega
theorem Shw.tuple {j n : Nat} {xs : List PyData} (h : ∀ x ∈ xs, Shw x j n) : Shw (.tuple xs) (j + 1) (3 + xs.length * (n + 2)) := by
  obtain ⟨a, b, c, d, e, f⟩ := shw_all xs h
  refine ⟨a, b, Nat.succ_le_succ c, ?_, e⟩
  show (tupleText (PyData.shownAll xs)).length ≤ _
  have h1 := tupleText_le (PyData.shownAll xs)
  have h2 := piled_le _ d
  rw [f] at h2
  omega
theorem Shw.mono {d : PyData} {j n j' n' : Nat} (s : Shw d j n) (hj : j ≤ j') (hn : n ≤ n') : Shw d j' n' := ⟨s.sh, s.nd, Nat.le_trans s.dp hj, Nat.le_trans s.ln hn, s.cl⟩
section
variable {K : PySem.W.Frag} {H : Hp} {Q : VK}
theorem r_repr {a : Addr} {d : PyData} {j n : Nat} (h : Dp K H (.ref a) d) (s : Shw d j n) (hj : j ≤ 60) (hn : n ≤ 10000000) (q : Q (.str d.shown) H) : rRepr K [.ref a] H Q :=
  ⟨a, d, rfl, h, s.sh, s.nd, Nat.le_trans s.dp hj, Nat.le_trans s.ln (Nat.le_trans hn (by decide)), q⟩
theorem r_neD {x y : V} {d e : PyData} {j n j' n' : Nat} (hx : Dp K H x d) (hy : Dp K H y e) (s : Shw d j n) (s' : Shw e j' n') (hj : j ≤ 64) (hj' : j' ≤ 64) (q : Q (.bl (!PyData.eqv d e)) H) : rNeD K x y H Q :=
  ⟨d, e, hx, hy, s.shaped hj, s'.shaped hj', q⟩
theorem r_eqD {x y : V} {d e : PyData} {j n j' n' : Nat} (hx : Dp K H x d) (hy : Dp K H y e) (s : Shw d j n) (s' : Shw e j' n') (hj : j ≤ 64) (hj' : j' ≤ 64) (q : Q (.bl (PyData.eqv d e)) H) : rEqD K x y H Q :=
  ⟨d, e, hx, hy, s.shaped hj, s'.shaped hj', q⟩
end
mutual
theorem dp_same {K : PySem.W.Frag} {H H' : Hp} (s : Same H H') : ∀ (d : PyData) (v : V), Dp K H v d → Dp K H' v d
  | _, _, .non => .non
  | _, _, .bl b => .bl b
  | _, _, .int i => .int i
  | _, _, .str x => .str x
  | _, _, .lst h a => .lst (s.seq h) (dpAll_same s _ _ a)
  | _, _, .tup h a => .tup (same_seqT s h) (dpAll_same s _ _ a)
theorem dpAll_same {K : PySem.W.Frag} {H H' : Hp} (s : Same H H') : ∀ (ds : List PyData) (vs : List V), DpAll K H vs ds → DpAll K H' vs ds
  | _, _, .nil => .nil
  | _, _, .cons h r => .cons (dp_same s _ _ h) (dpAll_same s _ _ r)
end
end Br

/-! Instances of own classes: == and != by the class's own __eq__. -/
namespace Br
open PySem PySem.Spec PyProof.Rows L2
theorem ns_at {K : PySem.W.Frag} {h : Heap} {N : Addr} {m : Str → Option Value} {n : Str} {v : Value} (X : K.In h) (G : h.Ns N m) (e : PySem.W.nsIn K N n = some (some v)) : m n = some v := by
  obtain ⟨o, es, ep, ho, hd, _, hf⟩ := G
  unfold PySem.W.nsIn at e
  split at e
  · rename_i c dc es' ep' sl hk
    have z := X _ _ hk
    rw [ho] at z
    cases z
    cases hd
    split at e
    · rename_i en he
      cases e
      rw [← hf]
      unfold nsFind findBy
      rw [← Array.find?_toList, he]
      rfl
    · split at e <;> cases e
  · cases e
/-- what the top says of a class at C with an own __eq__ (f) and no __ne__ -/
structure EqT (K : PySem.W.Frag) (C f : Addr) : Prop where
  cls : ∃ nm q N bs hdct sn sub ab col dd k0 k1 k2 k3 k5 newId, K.lookup C = some (excClassObj nm q C N bs [.type "object"] hdct sn sub ab col dd k0 k1 k2 k3 k5 newId) ∧ PySem.W.nsOkIn K N = true ∧ PySem.W.nsIn K N "__eq__" = some (some (.ref f)) ∧ PySem.W.nsIn K N "__ne__" = some none
  fn : ∃ o, K.lookup f = some o ∧ o.cls = .type "function"
  find : PySem.W.findIn K (.ref C) "__eq__" = some (some (.ref f))
  isf : PySem.W.isFn K (.ref f) = true
/-- x != y, x == y of two instances of the class at C: the promise of __eq__, turned about or not -/
def rNeO (C : Addr) (sp : Sp) : R2 := fun x y H Q => ∃ (a b dx dy : Addr) (fs gs : List (Str × V)), x = .ref a ∧ y = .ref b ∧ H a = some (.ins C dx fs) ∧ H b = some (.ins C dy gs) ∧ sp [.ref a, .ref b] H (fun v H' => ∃ k, v = .bl k ∧ Q (.bl (!k)) H') E0
def rEqO (C : Addr) (sp : Sp) : R2 := fun x y H Q => ∃ (a b dx dy : Addr) (fs gs : List (Str × V)), x = .ref a ∧ y = .ref b ∧ H a = some (.ins C dx fs) ∧ H b = some (.ins C dy gs) ∧ sp [.ref a, .ref b] H (fun v H' => ∃ k, v = .bl k ∧ Q (.bl k) H') E0
section
variable {X : Cx} {C f : Addr} {fd : FuncData} {ps : List Str} {sp : Sp} {k : Nat}
theorem eq_call {A : Around} {pins : List (Addr × Obj)} {σ : L2.St} {H : Hp} {s : Shared} {a b : Addr} {R : VK} {Q : Value → Shared → Prop} {E : Value → Shared → Prop} (F : FnOk X.prog X.w X.K X.mg X.base CX0 k f fd ps sp) (hb : Binds X.K fd ps []) (hr : Room k A) (hfr : A.frames = X.A.frames)
    (I : Inv X pins σ H s) (h : sp [.ref a, .ref b] H R E0) (hq : ∀ u s', EP X pins σ R u s' → Q u s') : wpAny (model X.prog X.w) A (call (.ref f) [.ref a, .ref b]) Q E s := by
  have e0 : Env0 X.prog X.w X.K X.mg X.base A X.stack s H := by
    have e := I.env0
    exact ⟨by rw [hfr]; exact e.frames, e.mod, e.bs, e.bsz, e.funs, e.frf, e.hok, e.bare⟩
  have hl := F.len _ _ _ _ h
  refine wpAny_call (codeAny_mono (F.run A X.stack s H ⟨[.ref a, .ref b], []⟩ [.ref a, .ref b] [.ref a, .ref b] R E0 hr e0 (by
    have := hb s [.ref a, .ref b] I.kIn (by simpa using hl)
    simpa using this) (.cons rfl (.cons rfl .nil)) h) fun r s' hr' => ?_)
  match r, hr' with
  | .error e, z => exact z.elim
  | .ok (.ret u), z => exact hq u s' (I.after z)
  | .ok .next, z => exact z.elim
  | .ok .brk, z => exact z.elim
  | .ok .cont, z => exact z.elim
theorem op_neO (T : EqT X.K C f) (F : FnOk X.prog X.w X.K X.mg X.base CX0 k f fd ps sp) (hb : Binds X.K fd ps []) (hr : Room (k + 1) X.A) : OpR X (compareOp .NotEq) (rNeO C sp) := by
  intro pins s σ H x y v u Q I rx ry h
  obtain ⟨a, b, dx, dy, fs, gs, rfl, rfl, ha, hb', hs⟩ := h
  cases rx
  cases ry
  obtain ⟨nm, q, N, bs, hdct, sn, sub, ab, col, dd, k0, k1, k2, k3, k5, newId, hC, hN, he, hne⟩ := T.cls
  obtain ⟨o, ho, hoc⟩ := T.fn
  have KX := I.kIn
  obtain ⟨_, _, _, ga, _⟩ := (show ObjOk X.prog X.w H s.heap a (.ins C dx fs) from I.hok a _ ha)
  obtain ⟨_, _, _, gb, _⟩ := (show ObjOk X.prog X.w H s.heap b (.ins C dy gs) from I.hok b _ hb')
  have ns : s.heap.Ns N (s.heap.nsMap N) := .of_isNs (PySem.W.isNs_of_in KX hN)
  have hu : X.A.units + 1 < cLine := by have := hr.un; omega
  obtain ⟨hp, g, d, t, os⟩ := s
  refine compareOp_ne_ownEq PySem.F.cmp_object ⟨_, o, nm, q, N, bs, hdct, sn, sub, ab, col, dd, k0, k1, k2, k3, k5, newId, _, _, ga, rfl, KX _ _ hC, ns, ns_at KX ns he, KX _ _ ho, hoc, PySem.F.mro_object, rfl, PySem.W.ns_none_of KX ns hne⟩ gb rfl hu ?_
  refine eq_call F hb hr.in1 rfl I hs fun u s' ⟨z, H', J, rz, kk, ez, q⟩ => ?_
  subst ez
  exact ⟨kk, rz, .bl (!kk), H', J, rfl, q⟩
theorem op_eqO (T : EqT X.K C f) (F : FnOk X.prog X.w X.K X.mg X.base CX0 k f fd ps sp) (hb : Binds X.K fd ps []) (hr : Room (k + 1) X.A) : OpR X (compareOp .Eq) (rEqO C sp) := by
  intro pins s σ H x y v u Q I rx ry h
  obtain ⟨a, b, dx, dy, fs, gs, rfl, rfl, ha, hb', hs⟩ := h
  cases rx
  cases ry
  obtain ⟨mA, J, _⟩ := ins_get I.hok ha
  obtain ⟨mB, J', _⟩ := ins_get I.hok hb'
  obtain ⟨od, J, _⟩ := J.look
  obtain ⟨od', J', _⟩ := J'.look
  obtain ⟨m, hF⟩ := I.fr
  show wpAny (model X.prog X.w) X.A (richCompare .Eq (.ref a) (.ref b)) (EP X pins σ Q) X.xe s
  refine PySem.W.cmp_K (op := .Eq) (tb := .ref C) hr.units0 hF I.ok.mod.kin J J'.type (by simp [PySem.W.notFirst]) T.find T.isf ?_
  refine eq_call F hb (hr.mono (Nat.le_succ _)) rfl I hs fun u s' ⟨z, H', J, rz, kk, ez, q⟩ => ?_
  subst ez
  obtain rfl : u = Value.bool kk := rz
  exact ⟨.bl kk, H', J, rfl, q⟩
end
end Br

/-! Tuples: + and slices of any kind, * by 0 or 1, [::-1], list.extend(tuple), enumerate(tuple, start=k); calls by keywords alone. -/
namespace Br
open PySem PySem.Spec PyProof.Rows L2
/-! ### tuple + tuple, slices -/
section
variable {K : PySem.W.Frag} {H : Hp} {Q : VK}
theorem r_catT {a b : Addr} {xs ys : List V} (ha : H a = some (.tup xs)) (hb : H b = some (.tup ys)) (hl : xs.length + ys.length ≤ sizeLine)
    (q : ∀ p H2, Same H H2 → H2 p = some (.tup (xs ++ ys)) → Q (.ref p) H2) : rCatA K (.ref a) (.ref b) H Q := by
  refine ⟨a, b, xs, ys, rfl, rfl, sqT ha, sqT hb, hl, fun e => ?_, fun _ e => ?_, fun _ _ p hp => ?_⟩
  · subst e
    exact q b H (Same.refl H) hb
  · subst e
    refine q a H (Same.refl H) ?_
    rw [List.append_nil]
    exact ha
  · exact q p _ (same_new hp) upd_same
theorem r_slT {a : Addr} {xs : List V} {lo hi : Option Int} (ha : H a = some (.tup xs)) (q : ∀ p H2, Same H H2 → H2 p = some (.tup (cutV xs lo hi)) → Q (.ref p) H2) : rSlA K (.ref a) lo hi H Q := by
  refine ⟨a, xs, rfl, sqT ha, fun ⟨e1, e2⟩ => ?_, fun _ p hp => q p _ (same_new hp) upd_same⟩
  refine q a H (Same.refl H) ?_
  unfold cutV
  rw [e1, e2, List.drop_zero, Nat.sub_zero, List.take_length]
  exact ha
end
/-- the cut of a list of numbers -/
def cutI (xs : List Int) (lo hi : Option Int) : List Int := (xs.drop (HT.sIx xs.length 0 lo)).take (HT.sIx xs.length xs.length hi - HT.sIx xs.length 0 lo)
theorem cutV_int (xs : List Int) (lo hi : Option Int) : cutV (xs.map V.int) lo hi = (cutI xs lo hi).map V.int := by
  unfold cutV cutI
  rw [List.length_map, ← List.map_drop, ← List.map_take]
theorem sIx_pos {n d : Nat} {i : Int} (h : 0 ≤ i) : HT.sIx n d (some i) = min i.toNat n := by
  show (if i < 0 then (i + (n : Int)).toNat else min i.toNat n) = _
  rw [if_neg (by omega)]
theorem cutI_to {xs : List Int} {i : Int} (h : 0 ≤ i) : cutI xs none (some i) = xs.take i.toNat := by
  unfold cutI
  rw [sIx_pos h, show HT.sIx xs.length 0 none = 0 from rfl, List.drop_zero, Nat.sub_zero, List.take_eq_take_iff]
  omega
theorem cutI_from {xs : List Int} {i : Int} (h : 0 ≤ i) : cutI xs (some i) none = xs.drop i.toNat := by
  unfold cutI
  rw [sIx_pos h, show HT.sIx xs.length xs.length none = xs.length from rfl]
  by_cases hl : i.toNat ≤ xs.length
  · rw [Nat.min_eq_left hl, List.take_of_length_le (by rw [List.length_drop]; omega)]
  · rw [Nat.min_eq_right (by omega), List.drop_eq_nil_of_le (Nat.le_refl _), List.drop_eq_nil_of_le (by omega), List.take_nil]
theorem cutI_mid {xs : List Int} {i j : Int} (hi : 0 ≤ i) (hj : 0 ≤ j) : cutI xs (some i) (some j) = (xs.drop i.toNat).take (j.toNat - i.toNat) := by
  unfold cutI
  rw [sIx_pos hi, sIx_pos hj]
  by_cases hl : i.toNat ≤ xs.length
  · rw [Nat.min_eq_left hl, List.take_eq_take_iff, List.length_drop]
    omega
  · rw [Nat.min_eq_right (show xs.length ≤ i.toNat by omega), List.drop_eq_nil_of_le (Nat.le_refl _), List.drop_eq_nil_of_le (by omega), List.take_nil, List.take_nil]
/-! ### tuple * 0, tuple * 1 -/
theorem tuple_mul1 (l : Addr) (items : Array Value) (n : Nat) (dd : Option Addr) (sl : Array (Option Value)) (u : Tok) :
    Meets (Builtin.«tuple.__mul__» ⟨[.ref l, .int 1 u], []⟩) (fun _ R s => s.heap.get? l = some { cls := .type "tuple", dict := dd, data := .seq items n, slots := sl } ∧ R (.ok (.ret (.ref l))) s) :=
  .of_wp fun prog w A R s h => by
    obtain ⟨hp, g, d, tk, os⟩ := s
    obtain ⟨hl, h⟩ := h
    have f1 := AutoSeq1.idx_int
    have c1 : (items.isEmpty || (1 : Int) == 1) = true := by simp
    wp_walk using wpAny_loadPart' hl
    repeat (first
      | (refine wpAny_ite_true (decide_eq_true c1) ?_; wp_walk using wpAny_loadPart' hl))
    exact ⟨_, rfl, h⟩
theorem tuple_mul0 (l : Addr) (items : Array Value) (n : Nat) (dd : Option Addr) (sl : Array (Option Value)) (u : Tok) (hi : items.isEmpty = false) :
    Meets (Builtin.«tuple.__mul__» ⟨[.ref l, .int 0 u], []⟩) (fun _ R s => s.heap.get? l = some { cls := .type "tuple", dict := dd, data := .seq items n, slots := sl } ∧
      R (.ok (.ret (Value.ref s.heap.objs.size))) { s with heap := s.heap.push { cls := Value.type "tuple", data := Data.seq #[] }, toks := s.toks }) :=
  .of_wp fun prog w A R s h => by
    obtain ⟨hp, g, d, tk, os⟩ := s
    obtain ⟨hl, h⟩ := h
    have f1 := AutoSeq1.idx_int
    have c1 : (items.isEmpty || (0 : Int) == 1) = false := by rw [hi]; rfl
    wp_walk using wpAny_loadPart' hl
    repeat (first
      | (refine wpAny_ite_false (decide_eq_false (by rw [c1]; exact Bool.false_ne_true)) ?_; wp_walk using wpAny_loadPart' hl))
    exact ⟨_, rfl, h⟩
/-- t * k, t not empty, k 0 or 1 -/
def rRep1 (K : PySem.W.Frag) : R2 := fun x y H Q => ∃ (l : Addr) (k : Int) (xs : List V), x = .ref l ∧ y = .int k ∧ SqT K H l xs ∧ xs ≠ [] ∧ ((k = 1 ∧ Q (.ref l) H) ∨ (k = 0 ∧ ∀ p, H p = none → Q (.ref p) (upd H p (.tup []))))
section
variable {X : Cx}
theorem op_rep1 : OpR X (binaryOp .Mult) (rRep1 X.K) := by
  intro pins s σ H x y v u Q I rx ry h
  obtain ⟨l, k, xs, rfl, rfl, hT, hne, h⟩ := h
  cases rx
  obtain ⟨t, rfl⟩ := ry
  obtain ⟨its, r, ⟨⟨cls, dd, data, sl⟩, ho, hc, n, hd⟩, hs⟩ := I.tuple hT
  simp only at hc hd
  subst hc hd
  have hle : its.length = xs.length := r.length.symm
  have hn : its ≠ [] := fun e => hne (by
    rw [e] at hle
    exact List.eq_nil_of_length_eq_zero hle.symm)
  have hi : its.toArray.isEmpty = false := by
    cases its with
    | nil => exact absurd rfl hn
    | cons a b => rfl
  rcases h with ⟨rfl, q⟩ | ⟨rfl, q⟩
  · refine wpAny_binaryOp_repeat_ref (T := "tuple") (U := "int") (by decide) ⟨_, ho, rfl⟩ (fun s' => typeIs_int s' 1 t) noFill_tuple_mul F.fills_int_mul F.slot_int_rmul repeat_tuple F.slot_int_index.lookup
      (call_meets F.slot_int_rmul (typeIs_int s 1 t) F.entry_int_rmul (F.args_int_rmul_2 _ _) (int_rmul_tuple 1 t l its.toArray n dd sl)
        ⟨ho, rfl, ⟨_, ho, rfl⟩, call_meets F.slot_tuple_mul ⟨_, ho, rfl⟩ F.entry_tuple_mul (F.args_tuple_mul_2 _ _) (tuple_mul1 l its.toArray n dd sl t) ⟨ho, ?_⟩⟩)
    exact ⟨.ref l, H, I, rfl, q⟩
  · refine wpAny_binaryOp_repeat_ref (T := "tuple") (U := "int") (by decide) ⟨_, ho, rfl⟩ (fun s' => typeIs_int s' 0 t) noFill_tuple_mul F.fills_int_mul F.slot_int_rmul repeat_tuple F.slot_int_index.lookup
      (call_meets F.slot_int_rmul (typeIs_int s 0 t) F.entry_int_rmul (F.args_int_rmul_2 _ _) (int_rmul_tuple 0 t l its.toArray n dd sl)
        ⟨ho, rfl, ⟨_, ho, rfl⟩, call_meets F.slot_tuple_mul ⟨_, ho, rfl⟩ F.entry_tuple_mul (F.args_tuple_mul_2 _ _) (tuple_mul0 l its.toArray n dd sl t hi) ⟨ho, ?_⟩⟩)
    refine ⟨.ref s.heap.objs.size, _, I.laid (t' := s.toks) (o := .tup []) (fun b ob q => Heap.get?_push_of_some _ q) (Nat.le_refl _) ?_, rfl, q _ (I.hok.fresh (Nat.le_refl _))⟩
    exact ⟨Nat.zero_le _, [], .nil, IsTup.new _ _⟩
end
theorem r_rep1 {K : PySem.W.Frag} {H : Hp} {Q : VK} {l : Addr} {k : Int} {xs : List V} (h : H l = some (.tup xs)) (hne : xs ≠ []) (hk : k = 0 ∨ k = 1) (q : ∀ p H2, Same H H2 → H2 p = some (.tup (if k = 1 then xs else [])) → Q (.ref p) H2) : rRep1 K (.ref l) (.int k) H Q := by
  refine ⟨l, k, xs, rfl, rfl, sqT h, hne, ?_⟩
  rcases hk with rfl | rfl
  · exact .inr ⟨rfl, fun p hp => q p _ (same_new hp) upd_same⟩
  · exact .inl ⟨rfl, q l H (Same.refl H) h⟩
/-! ### list.extend(tuple) -/
theorem list_extend_tup (l : Addr) (items : Array Value) (n : Nat) (b : Addr) (items2 : Array Value) (n2 : Nat) (dd : Option Addr) (sl : Array (Option Value)) (hs0 : ¬(!items.isEmpty && Builtin.List.listTooLong (items.size + items2.size)) = true) (hs1 : items.size ≤ sizeLine) (hs2 : items.size + items2.size ≤ sizeLine + 1) :
    Meets (Builtin.«list.extend» ⟨[.ref l, .ref b], []⟩) (fun _ R s => s.heap.get? l = some { cls := .type "list", dict := none, data := .seq items n, slots := #[] } ∧ s.heap.get? b = some { cls := .type "tuple", dict := dd, data := .seq items2 n2, slots := sl } ∧ R (.ok (.ret Value.none)) { s with heap := s.heap.update l (Obj.mapSeq fun x => x ++ items2), toks := s.toks }) :=
  .of_wp fun prog w A R s h => by
    obtain ⟨hp, g, d, tk, os⟩ := s; obtain ⟨hl, hb, h⟩ := h; have f1 := AutoSeq1.idx_int; have f2 := AutoSeq1.sub_tuple_tuple; have f3 := AutoSeq1.sub_list_list; have f4 := AutoSeq1.sub_tuple_list; have f5 := AutoSeq1.sub_list_tuple
    have hz' : (items ++ items2).size ≤ sizeLine + 1 := by rw [Array.size_append]; exact hs2
    wp_walk using (wpAny_updateSeq hl rfl (hz := hs1) (_hz' := hz')), wpAny_loadPart' hl, wpAny_loadPart' hb; exact ⟨_, rfl, h⟩
def rExtendT (K : PySem.W.Frag) : V → List V → Hp → VK → Prop := fun x vs H Q => ∃ l b xs zs, x = .ref l ∧ vs = [.ref b] ∧ H l = some (.lst xs) ∧ SqT K H b zs ∧ xs.length + zs.length ≤ sizeLine ∧ Q .non (upd H l (.lst (xs ++ zs)))
section
variable {X : Cx}
theorem mt_extendT : MtM X "list.extend" (rExtendT X.K) := by
  intro pins s σ H x vs v us Q I rx rv h
  obtain ⟨l, b, xs, zs, rfl, rfl, hH, hB, hz, q⟩ := h
  cases rx
  obtain ⟨u, rfl, ru⟩ := rv.one
  cases ru
  obtain ⟨z, its, n, r, hl, e⟩ := I.lstM hH
  obtain ⟨its2, r2, ⟨⟨cls, dd, data, sl⟩, e2, hc, n2, hd⟩, hl2⟩ := I.tuple hB
  simp only at hc hd
  subst hc hd
  have h1 : its.length = xs.length := r.length.symm
  have h2 : its2.length = zs.length := r2.length.symm
  have hsz : its.toArray.size + its2.toArray.size ≤ sizeLine := by rw [List.size_toArray, List.size_toArray]; omega
  have hlong : ¬ (!its.toArray.isEmpty && Builtin.List.listTooLong (its.toArray.size + its2.toArray.size)) = true := by
    rw [notLongL hsz, Bool.and_false]
    exact Bool.false_ne_true
  refine call_meets F.slot_list_extend ⟨_, e, rfl⟩ F.entry_list_extend (F.args_list_extend_2 _ _)
    (list_extend_tup l its.toArray n b its2.toArray n2 dd sl hlong (by rw [List.size_toArray]; omega) (by omega)) ⟨e, e2, ?_⟩
  refine ⟨.non, _, I.lset (its' := its ++ its2) hH e (by simp) (r.append r2) ?_, rfl, q⟩
  rw [List.length_append]
  omega
end
theorem r_extendT {K : PySem.W.Frag} {H : Hp} {Q : VK} {l b : Addr} {xs zs : List V} (hl : H l = some (.lst xs)) (hb : H b = some (.tup zs)) (hz : xs.length + zs.length ≤ sizeLine) (q : Q .non (upd H l (.lst (xs ++ zs)))) : rExtendT K (.ref l) [.ref b] H Q :=
  ⟨l, b, xs, zs, rfl, rfl, hl, sqT hb, hz, q⟩
/-! ### t[::-1] of a tuple -/
theorem rev_adjust (n : Nat) : Builtin.Slice.sliceAdjust none none (-1) (n : Int) = ((n : Int) - 1, -1) := by
  unfold Builtin.Slice.sliceAdjust
  simp
theorem rev_places (n : Nat) : Builtin.Slice.slicePlaces ((n : Int) - 1) (-1) (-1) = n := by
  unfold Builtin.Slice.slicePlaces
  have h1 : ¬ ((-1 : Int) > 0) := by omega
  simp only [h1, if_false]
  split
  · rw [show (- -1 : Int) = 1 by decide, Int.ediv_one]
    omega
  · omega
theorem fm_congr {α β : Type} {f g : α → Option β} : ∀ {l : List α}, (∀ x ∈ l, f x = g x) → l.filterMap f = l.filterMap g
  | [], _ => rfl
  | x :: r, h => by
    rw [List.filterMap_cons, List.filterMap_cons, h x (by simp), fm_congr fun y hy => h y (by simp [hy])]
theorem rev_pick (xs : Array Value) : ((List.range xs.size).filterMap fun (m : Nat) => xs[(((xs.size : Int) - 1) + (m : Int) * (-1)).toNat]?).toArray = xs.toList.reverse.toArray := by
  have e : ((List.range xs.size).filterMap fun (m : Nat) => xs[(((xs.size : Int) - 1) + (m : Int) * (-1)).toNat]?) = ((List.range xs.size).map (fun k => xs.size - 1 - k)).filterMap (xs[·]?) := by
    rw [List.filterMap_map]
    refine fm_congr fun m hm => ?_
    have := List.mem_range.mp hm
    show xs[(((xs.size : Int) - 1) + (m : Int) * (-1)).toNat]? = xs[xs.size - 1 - m]?
    have e : (((xs.size : Int) - 1) + (m : Int) * (-1)).toNat = xs.size - 1 - m := by omega
    rw [e]
  rw [e, PySem.W.krv_range, List.filterMap_reverse, PySem.W.krv_all]
section
variable {prog : Program} {w : World} {A : Around} {E : Value → Shared → Prop} {s : Shared}
theorem sliceApplied_rev {sl : Addr} {vk : Value} {n : Nat} {Q : Int × Int × Nat → Shared → Prop} (hs : s.heap.IsSliceOf sl .none .none vk) (pk : IsPart vk (some (-1)))
    (h : Q ((n : Int) - 1, -1, n) s) : wpAny (model prog w) A (Builtin.Slice.sliceApplied (.ref sl) (pure (n : Int))) Q E s := by
  obtain ⟨os, hos, hcs, hds⟩ := id hs
  unfold Builtin.Slice.sliceApplied Builtin.Slice.sliceFields
  refine wpAny_bind (wpAny_bind (wpAny_field hos hds (x := .none) rfl (wpAny_bind (wpAny_field hos hds (x := .none) rfl (wpAny_bind (wpAny_field hos hds (x := vk) rfl (wpAny_pure ?_)))))))
  refine wpAny_bind (HT.slicePart_ pk ?_)
  show wpAny _ _ (if ((-1 : Int) == 0) = true then _ else _) _ _ s
  rw [if_neg (by decide)]
  refine wpAny_bind (HT.slicePart_ .none (wpAny_bind (HT.slicePart_ .none (wpAny_bind (wpAny_pure ?_)))))
  show wpAny _ _ (match Builtin.Slice.sliceAdjust none none (-1) (n : Int) with | (lo, hi) => pure (lo, (-1 : Int), Builtin.Slice.slicePlaces lo hi (-1))) _ _ s
  rw [rev_adjust]
  show wpAny _ _ (pure (((n : Int) - 1), (-1 : Int), Builtin.Slice.slicePlaces ((n : Int) - 1) (-1) (-1))) _ _ s
  rw [rev_places]
  exact wpAny_pure h
theorem getItem_tuple_rev {t sl : Addr} {items : Array Value} {vk : Value} {Q : Value → Shared → Prop} (ht : IsTup s.heap t items) (hs : s.heap.IsSliceOf sl .none .none vk) (pk : IsPart vk (some (-1)))
    (h : Q (.ref s.heap.objs.size) { s with heap := s.heap.push { cls := .type "tuple", data := .seq items.toList.reverse.toArray } })
    (hsz : items.size ≤ sizeLine) : wpAny (model prog w) A (getItem (.ref t) (.ref sl)) Q E s := by
  have htake : sizeOk (.seq items.toList.reverse.toArray) := by
    show items.toList.reverse.toArray.size ≤ sizeLine
    rw [List.size_toArray, List.length_reverse, Array.length_toList]
    exact hsz
  obtain ⟨os, hos, hcs, hds⟩ := id hs
  have hTs : s.TypeIs (.ref sl) "slice" := ⟨os, hos, hcs⟩
  unfold getItem
  try with_reducible refine wpAny_holding ?_
  first | refine wpAny_bind (wpAny_pure ?_) | skip
  refine wpAny_bind (wpAny_sequenceKey ht.typeIs (by decide) ?_)
  refine wpAny_bind (wpAny_callSpecial?_slot (name := Str.ofString "__getitem__") ht.typeIs PyProof.Rows.slot_tuple_getitem
    (wpAny_call_entry PyProof.Rows.slot_tuple_getitem ht.typeIs entry_tuple_getitem ?_ (args_tuple_getitem _ _)))
  show wpAny _ _ (Builtin.Tuple.tupleItemsOf (.ref t) >>= _) _ _ s
  refine wpAny_bind (tupleItemsOf_ ht ?_)
  refine wpAny_bind (wpAny_typeOf hTs ?_)
  rw [if_pos (by decide)]
  refine wpAny_bind (sliceApplied_rev hs pk ?_)
  have hno : ¬ ((((items.size : Int) - 1) == 0 && (-1 : Int) == 1 && items.size == items.size) = true) := by simp
  show wpAny _ _ (if (((items.size : Int) - 1) == 0 && (-1 : Int) == 1 && items.size == items.size) = true then _ else _) _ _ s
  rw [if_neg hno, rev_pick]
  first
    | exact wpAny_bind (m := Builtin.Tuple.tupleExact _) (wpAny_newObj_type (wpAny_pure ⟨_, rfl, wpAny_pure h⟩) htake)
    | exact wpAny_bind (m := Builtin.Tuple.tupleExact _) (wpAny_newObj_type (wpAny_bind (wpAny_pure (wpAny_pure ⟨_, rfl, wpAny_pure h⟩))) htake)
    | exact wpAny_bind (wpAny_bind (m := Builtin.Tuple.tupleExact _) (wpAny_newObj_type (wpAny_pure (wpAny_pure ⟨_, rfl, wpAny_pure h⟩)) htake))
    | exact wpAny_bind (wpAny_bind (m := Builtin.Tuple.tupleExact _) (wpAny_newObj_type (wpAny_pure ⟨_, rfl, wpAny_pure h⟩) htake))
end
/-- t[::-1]: a new tuple -/
def tRevT (K : PySem.W.Frag) (te : TE) : TE := fun σ H Q => te σ H fun x H1 => ∃ a xs, x = .ref a ∧ SqT K H1 a xs ∧ Nw (.tup xs.reverse) H1 Q
theorem s_revT {K : PySem.W.Frag} {te : TE} {σ : L2.St} {H : Hp} {Q : VK} (q : te σ H fun x H1 => ∃ a xs, x = .ref a ∧ SqT K H1 a xs ∧ Nw (.tup xs.reverse) H1 Q) : tRevT K te σ H Q := q
theorem vals_rev {vs : List V} {us : List Value} (h : Vals vs us) : Vals vs.reverse us.reverse := by
  induction h with
  | nil => exact .nil
  | cons r _ ih =>
    rw [List.reverse_cons, List.reverse_cons]
    exact ih.append (.cons r .nil)
theorem pe_revT {X : Cx} {e : Expr} {te : TE} {k : Nat} {p1 p2 p3 pos : Pos} (he : PE X e te) : PE X (.Subscript e (.Slice none none (some (.UnaryOp .USub (.Constant (.int 1) k p1) p2)) p3) pos) (tRevT X.K te) := by
  refine ⟨fun pins s σ H Q I h => ?_⟩
  refine Subscript_ (thn (he.run pins s σ H _ I h) fun v s1 ⟨x, H1, I1, r1, a, xs, ex, hx, q⟩ => ?_)
  subst ex
  cases r1
  have hst : PO X (some (.UnaryOp .USub (.Constant (.int 1) k p1) p2)) (tPart (tUn (rU fun i => .int (-i)) (tC (.int 1)))) := po_some (pe_un un_neg pe_int)
  refine wpAny_Slice ?_
  rw [evalPart_none]
  refine wpAny_pure (wpAny_pure ?_)
  refine thn (hst.run pins s1 σ H1 (fun o H4 => o = some (-1) ∧ H4 = H1) I1 ⟨1, rfl, -1, rfl, rfl, rfl⟩) fun vs s4 ⟨o, H4, I4, ps, eo, e4⟩ => ?_
  subst eo e4
  have I5 : Inv X pins σ H4 { s4 with heap := s4.heap.push { cls := .type "slice", data := .fields #[.none, .none, vs] } } := I4.kept (t' := s4.toks) fun b ob q => Heap.get?_push_of_some _ q
  obtain ⟨its, r, ht, hz⟩ := I5.tuple hx
  refine tail_any (ops := [.ref a, .ref s4.heap.objs.size]) ht.typeIs PyProof.Rows.slot_tuple_getitem.lookup (getItem_tuple_rev ht (Heap.IsSliceOf.new ..) ps ?_ (by rw [List.size_toArray, ← r.length]; exact hz)) (by with_unfolding_all rfl)
  refine ⟨.ref _, _, I5.laid (t' := s4.toks) (o := .tup xs.reverse) (fun b ob q => Heap.get?_push_of_some _ q) (Nat.le_refl _) ?_, rfl, q _ (I5.hok.fresh (Nat.le_refl _))⟩
  exact ⟨by rw [List.length_reverse]; exact hz, _, vals_rev r, IsTup.new _ _⟩
/-! ### enumerate(t, start=k) -/
theorem callWith_tyKw {M : Model} {A : Around} {E : Value → Shared → Prop} {s : Shared} {env : Env} {pos : Pos} {T : String} {e : Expr} {rest : List Expr} {kws : List Keyword} {Q : Value → Shared → Prop}
    (h : wpAny M A (spliced (backTo pos (starEach (e :: rest) env))) (fun vs s₁ => wpAny M A (evalAll ((backToKw pos (keywordEach kws env)).map (·.2)))
      (fun kvs s₂ => wpAny M A (call (.type T) vs (((backToKw pos (keywordEach kws env)).filterMap (·.1)).zip kvs)) Q E s₂) E s₁) E s)
    (he : backTo pos (starEach (e :: rest) env) = (false, eval e env) :: backTo pos (starEach rest env))
    (hplain : (backTo pos (starEach (e :: rest) env)).any (·.1) = false)
    (hall : (backToKw pos (keywordEach kws env)).all (·.1.isSome) = true)
    (hkw : (backToKw pos (keywordEach kws env)).any (·.1.isNone) = false) :
    wpAny M A (callWith pos (.type T) [] (backTo pos (starEach (e :: rest) env)) (backToKw pos (keywordEach kws env))) Q E s := by
  unfold callWith
  have hh : wpAny M A (evalArgs (.type T) true (backTo pos (starEach (e :: rest) env)) (backToKw pos (keywordEach kws env))) (fun a s₁ => wpAny M A (call (.type T) ([] ++ a.pos) a.kw) Q E s₁) E s := by
    rw [he] at h ⊢
    exact evalArgs_kwB hall h
  refine wpAny_bind (wpAny_holding (wpAny_mono hh (fun a s₁ h₁ => wpAny_bind (wpAny_standAt ?_)) fun _ _ x => x))
  simp only [hplain, hkw, Bool.or_false]
  refine wpAny_bind (wpAny_pure ?_)
  exact wpAny_bind (wpAny_mono h₁ (fun r s₂ hr => wpAny_bind (wpAny_holding (wpAny_point (wpAny_pure hr)))) fun _ _ x => x)
def iEnumTk (K : PySem.W.Frag) (t tk : TA) : TI := fun σ H R => t σ H fun vs H1 => tk σ H1 fun zs H2 => ∃ a xs k, vs = [.ref a] ∧ zs = [.int k] ∧ -(2 ^ 62) ≤ k ∧ k < 2 ^ 62 ∧ SqT K H2 a xs ∧ R (Itet K a k) H2
theorem s_iEnumTk {K : PySem.W.Frag} {t tk : TA} {σ : L2.St} {H : Hp} {R : It → Hp → Prop} (q : t σ H fun vs H1 => tk σ H1 fun zs H2 => ∃ a xs k, vs = [.ref a] ∧ zs = [.int k] ∧ -(2 ^ 62) ≤ k ∧ k < 2 ^ 62 ∧ SqT K H2 a xs ∧ R (Itet K a k) H2) : iEnumTk K t tk σ H R := q
section
variable {X : Cx} {e ek : Expr} {ta tk : TA} {p pos kp tpos : Pos} {elts : List Expr} {kk : Nat}
theorem pi_enumTk (hg : Gl X "enumerate") (hm : X.mg "enumerate" = none) (ha : PA X [e] ta) (hkw : PK X [⟨some "start", ek, kp⟩] tk) (hs : backTo pos (starEach [e] X.env) = (false, eval e X.env) :: backTo pos (starEach [] X.env) := by rfl) (hpl : (backTo pos (starEach [e] X.env)).any (·.1) = false := by rfl) :
    PI X (.Tuple elts kk tpos) (.Call (.Name "enumerate" p) [e] [⟨some "start", ek, kp⟩] pos) (iEnumTk X.K ta tk) := by
  refine ⟨fun pins s σ H R I h => ?_⟩
  refine wpAny_Call_Name_kw (ld_blt I hg hm boot_enumerate (callWith_tyKw (thn (ha.run pos pins s σ H _ I h) fun us s1 ⟨vs, H1, I1, r1, q1⟩ => thn (hkw.run pos pins s1 σ H1 _ I1 q1) fun ws s2 ⟨zs, H2, I2, rz, q2⟩ => ?_) hs hpl rfl rfl))
  obtain ⟨a, xs, k, ex, ez, k0, k1, hq, q⟩ := q2
  subst ex ez
  cases r1 with
  | cons r rr =>
    cases rr
    cases r
    cases rz with
    | cons r rr =>
      cases rr
      obtain ⟨tok, rfl⟩ := r
      obtain ⟨its, rv, p', hz⟩ := I2.tuple hq
      have hT := isTup_isTuple p'
      have hlt : a < s2.heap.objs.size := by obtain ⟨o, h1, _⟩ := hT; exact Heap.lt_size h1
      show wpAny _ _ (call (.type "enumerate") [.ref a] [(Str.ofString "start", .int k tok)]) _ _ _
      refine enum_begins_start (begins_tuple a its.toArray) hT (by omega) (by omega) fun h' he hit hsz hk => wpAny_pyIter_enum he ?_
      have I3 : Inv X pins σ H2 { s2 with heap := h' } := I2.kept (t' := s2.toks) hk
      refine ⟨s2.heap.objs.size + 1, [s2.heap.objs.size + 1, s2.heap.objs.size], _, _, H2, rfl, I3, turn_enumT a (s2.heap.objs.size + 1) s2.heap.objs.size k (Nat.ne_of_lt hlt) (Nat.ne_of_lt (Nat.lt_succ_of_lt hlt)), ⟨⟨.none, by simpa using he⟩, ⟨_, hit, rfl, rfl⟩, Nat.succ_ne_self _⟩, fun b hb => ?_, q⟩
      have e' : b = s2.heap.objs.size + 1 ∨ b = s2.heap.objs.size := by simpa using hb
      have hle : s2.heap.objs.size ≤ b := by
        rcases e' with z | z
        · rw [z]; exact Nat.le_add_right _ _
        · rw [z]; exact Nat.le_refl _
      exact I2.fpOk hle (I2.hok.fresh hle)
end
/-! ### f(k = v, ..): keywords alone -/
section
variable {X : Cx} {CX : CXT} {k : Nat} {f : Addr} {fd : FuncData} {ps ks : List Str} {sp : Sp} {E : XK} {x : Str} {p pos : Pos} {kws : List Keyword} {tk : TA}
variable {g : List Value → List Value → List Value} {gV : List V → List V → List V}
theorem pe_callK0 (F : FnOk X.prog X.w X.K X.mg X.base CX k f fd ps sp) (hr : Room k X.A) (hg : Gl X x) (hm : X.mg x = some (.ref f)) (hk : PySem.W.keepIn X.K (.ref f) = true) (hb : KBinds X.K fd ps ks g gV) (hx : Passes CX X E)
    (hkw : PK X kws tk) (hall : (backToKw pos (keywordEach kws X.env)).all (·.1.isSome) = true := by rfl) (hks : (backToKw pos (keywordEach kws X.env)).filterMap (·.1) = ks := by rfl)
    (hdb : (x == ("__debug__" : Str)) = false := by decide)
    (hpl : ((backTo pos (starEach [] X.env)).any (·.1) || (backToKw pos (keywordEach kws X.env)).any (·.1.isNone)) = false := by rfl) :
    PE X (.Call (.Name x p) [] kws pos) (tCallK sp gV E tNil tk) := by
  refine ⟨fun pins s σ H Q I h => ?_⟩
  refine wpAny_Call_Name_kw (ld_glob I hg hm ?_ hdb)
  refine PySem.W.callWith_KW0 (h₀ := X.base) I.ok.mod.kin hk hall ?_ hpl
  refine thn (hkw.run pos pins s σ H _ I h) fun ws s2 ⟨zs, H2, I2, rz, q2⟩ => ⟨I2.kIn, ?_⟩
  rw [hks]
  exact run_fnk F hr hb hx I2 .nil rz q2
end
end Br

/-! Own classes: making an instance, fields, isinstance; calls by keywords; while, +=. -/
namespace Br
open PySem PySem.Spec PyProof.Rows L2
/-! ### steps -/
section
variable {σ : L2.St} {H : Hp} {Q : VK} {ta tb tc te : TE} {tt : TT} {t : TS} {nx : L2.St → Hp → Prop} {rt : VK} {bk ct : L2.St → Hp → Prop}
theorem w_by (Pv : Nat → L2.St → Hp → Prop) (m : Nat) (h0 : Pv m σ H)
    (hs : ∀ m σ H, Pv m σ H → tt σ H fun b H1 => if b = true then ∃ N : L2.St → Hp → Prop, (∀ σ' H', N σ' H' → ∃ m', m' < m ∧ Pv m' σ' H') ∧ t ⟨N, rt, nx, N⟩ σ H1 else nx σ H1) : tWhile tt t ⟨nx, rt, bk, ct⟩ σ H := ⟨Pv, ⟨m, h0⟩, hs⟩
theorem s_aug {i : Nat} {ti : TIp} {x : V} (h : σ[i]? = some (some x)) (q : te σ H fun y H1 => ti x y H1 fun z H2 => nx (σ.set i (some z)) H2) : tAug i te ti ⟨nx, rt, bk, ct⟩ σ H := ⟨x, h, q⟩
theorem s_ipI {g : Int → Int → Int} {i j : Int} (q : Q (.int (g i j)) H) : ipI g (.int i) (.int j) H Q := ⟨i, j, rfl, rfl, q⟩
theorem s_chain {r r' : R2} (q : ta σ H fun x H1 => tb σ H1 fun y H2 => r x y H2 fun z H3 => ∃ k, z = .bl k ∧ (if k = true then tc σ H3 fun w' H4 => r' y w' H4 Q else Q (.bl false) H3)) : tChain r r' ta tb tc σ H Q := q
theorem s_fld {K : PySem.W.Frag} {f : Str} (q : ta σ H fun x H1 => ∃ a C dx fs v, x = .ref a ∧ H1 a = some (.ins C dx fs) ∧ Cls K C ∧ NoAttr K C f ∧ fs.lookup f = some v ∧ Q v H1) : tFld K ta f σ H Q := q
theorem s_sfld {K : PySem.W.Frag} {f : Str} (q : tb σ H fun y H1 => ta σ H1 fun x H2 => ∃ a C dx fs, x = .ref a ∧ H2 a = some (.ins C dx fs) ∧ Cls K C ∧ NoAttr K C f ∧ fs.length < 1000 ∧ nx σ (upd H2 a (.ins C dx (putF f y fs)))) : sFld K ta tb f ⟨nx, rt, bk, ct⟩ σ H := q
end
/-! ### either of two ways to go round -/
theorem pi_or {X : Cx} {tg iter : Expr} {wi wj : TI} (h : PI X tg iter wi) (h' : PI X tg iter wj) : PI X tg iter (fun σ H R => wi σ H R ∨ wj σ H R) :=
  ⟨fun pins s σ H R I q => q.elim (fun q => h.run pins s σ H R I q) fun q => h'.run pins s σ H R I q⟩
/-! ### a def with whatever defaults -/
structure FunB (K : PySem.W.Frag) (x qual : Str) (st : Stmt) (f : Addr) (fd : FuncData) : Prop where
  ex : ∃ (oc : Value) (od : Option Addr) (dV kV doc pm : Value) (an : Option Addr) (cdv ct : Value) (osl : Array (Option Value)),
    fd = PySem.W.fnOf x qual (defArgs st) (defBody st) (defScope st) dV kV doc pm an cdv ct ∧ K.lookup f = some ⟨oc, od, .func fd, osl⟩ ∧ PySem.W.codeIn K cdv qual = true
section
variable {P : Program} {w : World} {K : PySem.W.Frag} {mg : Str → Option Value} {base : Heap} {x qual : Str} {st : Stmt} {f : Addr} {fd : FuncData} {N ps : List Str} {k : Nat} {sp : Sp}
theorem FunB.ok (F : FunB K x qual st f fd) (S : FnScope N ps (defScope st)) (len : ∀ vs H Q E, sp vs H Q E → vs.length = ps.length)
    (hbody : ∀ (cdv : Value) (A : Around) (outer : List Env) (s : Shared) (H : Hp) (vs : List V) (Q : VK) (E : XK), Room k (A.deeper (envOfC qual (defScope st) s.heap.objs.size f cdv)) → sp vs H Q E →
      ∃ t, PSs (cxOf CX0 P w K mg base N qual (defScope st) f cdv A outer s H E).nox (defBody st) t ∧ t { nx := fun _ H' => Q .non H', rt := Q } (start N vs) H) : FnOk P w K mg base CX0 (k + 1) f fd ps sp := by
  obtain ⟨oc, od, dV, kV, doc, pm, an, cdv, ct, osl, rfl, lk, hcd⟩ := F.ex
  refine fn_of lk hcd S len fun A outer s H vs Q E hr hsp => ?_
  obtain ⟨t, h, q⟩ := hbody cdv A outer s H vs Q E hr hsp
  exact ⟨t, h.nox, q⟩
end
/-! ### an own class -/
/-- what the top says of the class x (at C) -/
structure ClT (K : PySem.W.Frag) (mg : Str → Option Value) (x : Str) (C : Addr) : Prop where
  g : mg x = some (.ref C)
  cl : Cls K C
  ha : PySem.W.findIn K (.ref C) "__class__" = some (some (.builtin "object.__class__"))
  hn : PySem.W.specialIn K (.builtin "object.__class__") "__get__" = some (some (.builtin "getset_descriptor.__get__"))
  ht : PySem.W.takesIn K (.builtin "object.__class__") = some true
  hm : PySem.W.mroIn K C (.type "object") = some true
  self : PySem.W.kitOne K (.ref C) (.ref C) = some true
theorem ClT.ty {K : PySem.W.Frag} {mg : Str → Option Value} {x : Str} {C : Addr} (T : ClT K mg x C) {H : Hp} {a dx : Addr} {fs : List (Str × V)} (e : H a = some (.ins C dx fs)) : TyX K H (.ref a) (.ref C) := .base (.ins e T.cl T.ha T.hn T.ht T.hm)
theorem r_isi {K : PySem.W.Frag} {H : Hp} {Q : VK} {x c : V} {t u : Value} {b : Bool} (k : ClsV c u) (ty : TyX K H x t) (e : PySem.W.kitOne K t u = some b) (q : Q (.bl b) H) : rIsi K [x, c] H Q := ⟨x, c, t, u, b, rfl, k, ty, e, q⟩
/-- x(..) makes an instance of C, whose __init__ keeps its promise -/
def OkC (P : Program) (w : World) (K : PySem.W.Frag) (mg : Str → Option Value) (base : Heap) (k : Nat) (x : Str) (C : Addr) (ps : List Str) (sp : Sp) : Prop :=
  ∃ (f : Addr) (fd : FuncData), mg x = some (.ref C) ∧ Mk K C f ∧ Binds K fd ps [] ∧ FnOk P w K mg base CX0 k f fd ps sp
/-- the class's __eq__ keeps its promise -/
def OkE (P : Program) (w : World) (K : PySem.W.Frag) (mg : Str → Option Value) (base : Heap) (k : Nat) (C : Addr) (sp : Sp) : Prop :=
  ∃ (f : Addr) (fd : FuncData) (ps : List Str), EqT K C f ∧ Binds K fd ps [] ∧ FnOk P w K mg base CX0 k f fd ps sp
/-- a def that is called by keywords -/
def OkK (P : Program) (w : World) (K : PySem.W.Frag) (mg : Str → Option Value) (base : Heap) (k : Nat) (x : Str) (ks : List Str) (gV : List V → List V → List V) (sp : Sp) : Prop :=
  ∃ (f : Addr) (fd : FuncData) (ps : List Str) (g : List Value → List Value → List Value), mg x = some (.ref f) ∧ PySem.W.keepIn K (.ref f) = true ∧ KBinds K fd ps ks g gV ∧ FnOk P w K mg base CX0 k f fd ps sp
def tMk (C : Addr) (sp : Sp) (t : TA) : TE := fun σ H Q => t σ H fun vs H1 => ∀ x dx, H1 x = none → H1 dx = none → dx ≠ x → sp (.ref x :: vs) (upd (upd H1 dx (.own x)) x (.ins C dx [])) (fun v H2 => v = .non ∧ Q (.ref x) H2) E0
theorem s_mk {C : Addr} {sp : Sp} {t : TA} {σ : L2.St} {H : Hp} {Q : VK} (q : t σ H fun vs H1 => ∀ x dx, H1 x = none → H1 dx = none → dx ≠ x → sp (.ref x :: vs) (upd (upd H1 dx (.own x)) x (.ins C dx [])) (fun v H2 => v = .non ∧ Q (.ref x) H2) E0) : tMk C sp t σ H Q := q
def tClK (sp : Sp) (gV : List V → List V → List V) (tk : TA) : TE := fun σ H Q => tk σ H fun zs H2 => sp (gV [] zs) H2 Q E0
theorem s_clK {sp : Sp} {gV : List V → List V → List V} {tk : TA} {σ : L2.St} {H : Hp} {Q : VK} (q : tk σ H fun zs H2 => sp (gV [] zs) H2 Q E0) : tClK sp gV tk σ H Q := q
section
variable {X : Cx} {k : Nat} {x : Str} {C : Addr} {ps ks : List Str} {sp : Sp} {p pos : Pos} {e : Expr} {es : List Expr} {t tk : TA} {kws : List Keyword} {gV : List V → List V → List V}
theorem pe_mkC (O : OkC X.prog X.w X.K X.mg X.base k x C ps sp) (hr : Room (k + 1) X.A) (ha : PA X (e :: es) t) (hg : Gl X x := by rfl)
    (hdb : (x == ("__debug__" : Str)) = false := by decide) (he : starEach (e :: es) X.env = (false, eval e X.env) :: starEach es X.env := by rfl) (hpl : (backTo pos (starEach es X.env)).any (·.1) = false := by rfl) :
    PE X (.Call (.Name x p) (e :: es) [] pos) (tMk C sp t) := by
  obtain ⟨f, fd, gm, M, b, F⟩ := O
  have h := pe_make (E := E0) M F hr hg gm b .nil pass0 ha hdb he hpl (p := p)
  refine ⟨fun pins s σ H Q I q => h.run pins s σ H Q I ?_⟩
  have e1 : (fun (vs : List V) (H1 : Hp) => ∀ x dx, H1 x = none → H1 dx = none → dx ≠ x → sp (.ref x :: (vs ++ [])) (upd (upd H1 dx (.own x)) x (.ins C dx [])) (fun v H2 => v = .non ∧ Q (.ref x) H2) E0) =
      (fun (vs : List V) (H1 : Hp) => ∀ x dx, H1 x = none → H1 dx = none → dx ≠ x → sp (.ref x :: vs) (upd (upd H1 dx (.own x)) x (.ins C dx [])) (fun v H2 => v = .non ∧ Q (.ref x) H2) E0) := by
    funext vs H1
    rw [List.append_nil]
  show t σ H fun vs H1 => ∀ x dx, H1 x = none → H1 dx = none → dx ≠ x → sp (.ref x :: (vs ++ [])) (upd (upd H1 dx (.own x)) x (.ins C dx [])) (fun v H2 => v = .non ∧ Q (.ref x) H2) E0
  rw [e1]
  exact q
theorem op_neC (O : OkE X.prog X.w X.K X.mg X.base k C sp) (hr : Room (k + 1) X.A) : OpR X (compareOp .NotEq) (rNeO C sp) := by
  obtain ⟨f, fd, ps, T, b, F⟩ := O
  exact op_neO T F b hr
theorem op_eqC (O : OkE X.prog X.w X.K X.mg X.base k C sp) (hr : Room (k + 1) X.A) : OpR X (compareOp .Eq) (rEqO C sp) := by
  obtain ⟨f, fd, ps, T, b, F⟩ := O
  exact op_eqO T F b hr
theorem pe_callDK (D : OkK X.prog X.w X.K X.mg X.base k x ks gV sp) (hr : Room k X.A) (hkw : PK X kws tk) (hg : Gl X x := by rfl) (hall : (backToKw pos (keywordEach kws X.env)).all (·.1.isSome) = true := by rfl) (hks : (backToKw pos (keywordEach kws X.env)).filterMap (·.1) = ks := by rfl)
    (hdb : (x == ("__debug__" : Str)) = false := by decide)
    (hpl : ((backTo pos (starEach [] X.env)).any (·.1) || (backToKw pos (keywordEach kws X.env)).any (·.1.isNone)) = false := by rfl) : PE X (.Call (.Name x p) [] kws pos) (tClK sp gV tk) := by
  obtain ⟨f, fd, ps, g, gm, kp, b, F⟩ := D
  exact pe_callK0 (E := E0) F hr hg gm kp b pass0 hkw hall hks hdb hpl
end
/-- two keywords, the other way about -/
def swp {α : Type} : List α → List α → List α
  | [], [b, a] => [a, b]
  | _, _ => []
theorem kb_swap {K : PySem.W.Frag} {fd : FuncData} {p1 p2 k1 k2 : Str} (h : ∀ a b : Value, bindArgs fd ⟨[], [(k1, b), (k2, a)]⟩ = pure [(p1, a), (p2, b)]) : KBinds K fd [p1, p2] [k1, k2] swp swp := by
  refine ⟨fun s us ws _ hl => ?_, fun r rz => ?_⟩
  · match us, ws, hl with
    | [], [b, a], _ => exact .of_eq (h a b)
  · cases r with
    | nil =>
      cases rz with
      | nil => exact .nil
      | cons r1 rz =>
        cases rz with
        | nil => exact .nil
        | cons r2 rz =>
          cases rz with
          | nil => exact .cons r2 (.cons r1 .nil)
          | cons _ _ => exact .nil
    | cons r1 r => exact .nil
end Br

/-! Own error classes straight under any built-in one: fields stored by their own __init__. -/
namespace PySem
namespace BrX
open PySem.W PySem.Calls PyProof.Rows PySem.HandSPX PySem.OEX
/-- what is asked of the built-in class B: bmB its own mro -/
structure ExB (B newId initId : String) (bmB : List Value) : Prop where
  F : ExcBaseFacts B newId initId bmB
  ne : bmB.isEmpty = false
  ob : bmB.contains (.type "object") = true
  pass : ∀ self, refuseLoop self "__setattr__" bmB = pure ()
theorem xb_RuntimeError : ExB "RuntimeError" "RuntimeError.__new__" "RuntimeError.__init__" [.type "RuntimeError", .type "Exception", .type "BaseException", .type "object"] := ⟨F.excBase_RuntimeError, rfl, by decide +kernel, fun _ => by kernel_rfl⟩
theorem xb_ValueError : ExB "ValueError" "ValueError.__new__" "ValueError.__init__" [.type "ValueError", .type "Exception", .type "BaseException", .type "object"] := ⟨F.excBase_ValueError, rfl, by decide +kernel, fun _ => by kernel_rfl⟩
section
open Builtin Builtin.ObjectAttr
variable {prog : Program} {w : World} {A : Around} {E : Value → Shared → Prop} {R : Result → Shared → Prop} {hp : Heap} {g : Array GenState} {d : Drawn} {t : Nat} {os : OsState} {B newId initId : String} {bmB : List Value}
theorem new_osa {K : W.Frag} {name : Str} {tk : Tok} {v : Value} {x C : Addr} {fv : Array Value} {cd : ClassData} (XB : ExB B newId initId bmB)
    (X : K.In hp) (hx : hp.get? x = some { cls := .ref C, data := .fields fv }) (hcd : W.clsIn K C = some cd) (hmr0 : cd.mro = .ref C :: bmB) (hh : cd.hasDict = true) (ha : W.findIn K (.ref C) name = some none)
    (hq : ∀ h' tk' dx, (∀ b o, b ≠ x → hp.get? b = some o → h'.get? b = some o) → hp.objs.size ≤ dx → dx ≠ x → h'.get? x = some { cls := .ref C, dict := some dx, data := .fields fv } →
      h'.Ns1 dx (fun y => if y = name then some v else none) → R (.ok (.ret .none)) ⟨h', g, d, tk', os⟩) :
    codeAny (model prog w) A (.call (.builtin "object.__setattr__") ⟨[.ref x, .str name tk, v], []⟩) R ⟨hp, g, d, t, os⟩ := by
  have I : W.InstAt hp x { cls := .ref C, data := .fields fv } C none := ⟨hx, rfl, rfl, trivial⟩
  have SF := F.store_object
  have ne : cd.mro.isEmpty = false := by rw [hmr0]; rfl
  have hob : cd.mro.contains (.type "object") = true := by rw [hmr0, List.contains_cons, XB.ob, Bool.or_true]
  have hxs : x ≠ hp.objs.size := Nat.ne_of_lt (Heap.lt_size hx)
  have sub : W.Looks (model prog w) hp (isInstance (.ref x) (.type "object")) true := I.type.andThen (W.looks_mroIn X (by unfold W.mroIn; rw [hcd, Option.bind_some, if_neg (by rw [ne]; decide), hob]))
  refine codeAny_call_builtin SF.slot.plain SF.entry (@W.check_slot (model prog w) _ _ ⟨hp, g, d, t, os⟩ "object.__setattr__" "object" "__setattr__" (.ref x) [.str name tk, v] [] _ SF.kind SF.split sub (SF.args (.ref x) (.str name tk) v) ?_)
  have hmr : W.Looks (model prog w) hp (mroOf (.ref C)) cd.mro := (W.looks_clsIn X hcd).andThen .now
  have L3 : W.Looks (model prog w) hp (storeTaker? none) none := .now
  have hcls : W.Looks (model prog w) hp (classData C) cd := W.looks_clsIn X hcd
  rw [W.osa_eq, refuse_eq]
  refine wpAny_bind (wpAny_bind (I.type.at (wpAny_bind (hmr.at ?_))))
  rw [hmr0, refuseLoop_ref, XB.pass]
  refine wpAny_pure (wpAny_bind (I.type.at (wpAny_bind ((W.looks_findIn X ha).at (wpAny_bind (L3.at ?_))))))
  show wpAny _ _ (storeInOwnDict (.ref x) (.ref C) (.str name tk) name v false) _ _ _
  obtain ⟨nm, bs, mro, ns, qn, hd, sn, sb, ab, col, del⟩ := cd
  dsimp only at hh
  subst hh
  unfold storeInOwnDict ownDictForStores
  repeat (first | with_reducible refine store_in_new ?_ ?_ | with_reducible refine wpAny_loadPart_at hx ?_ | with_reducible refine hcls.at ?_ | wp_step)
  · exact ⟨_, #[], _, (Heap.get?_update_ne _ _ _ _ hxs.symm).trans (Heap.get?_push_at rfl rfl), rfl, fun e he => absurd he (by simp), fun _ => rfl⟩
  · intro h' tk' hn' hs
    have hx₁ : (hp.push { cls := .type "dict", data := .dict #[] }).get? x = some { cls := .ref C, data := .fields fv } := Heap.get?_push_of_some _ hx
    refine hq h' tk' hp.objs.size (fun b o hb ho => ?_) (Nat.le_refl _) hxs.symm ?_ hn'
    · exact (hs.2 b (Nat.ne_of_lt (Heap.lt_size ho))).trans ((Heap.get?_update_ne _ _ _ _ hb).trans (Heap.get?_push_of_some _ ho))
    · exact (hs.2 x hxs).trans (Heap.get?_update_self _ hx₁ rfl)
/-- a further field -/
theorem old_osa {K : W.Frag} {name : Str} {tk : Tok} {v : Value} {x C dx : Addr} {fv : Array Value} {cd : ClassData} {m0 : Str → Option Value} {nl : List Str} (XB : ExB B newId initId bmB)
    (X : K.In hp) (hx : hp.get? x = some { cls := .ref C, dict := some dx, data := .fields fv }) (hns : hp.Ns1 dx m0) (hw : Within m0 nl) (hz : nl.length ≤ 1000) (hcd : W.clsIn K C = some cd) (hmr0 : cd.mro = .ref C :: bmB) (hh : cd.hasDict = true)
    (ha : W.findIn K (.ref C) name = some none)
    (hq : ∀ h' tk', (∀ b o, b ≠ dx → hp.get? b = some o → h'.get? b = some o) → h'.Ns1 dx (fun y => if y = name then some v else m0 y) → R (.ok (.ret .none)) ⟨h', g, d, tk', os⟩) :
    codeAny (model prog w) A (.call (.builtin "object.__setattr__") ⟨[.ref x, .str name tk, v], []⟩) R ⟨hp, g, d, t, os⟩ := by
  obtain ⟨oD, esD, epD, hoD, hdD, _⟩ := hns.count hw
  have I : W.InstAt hp x { cls := .ref C, dict := some dx, data := .fields fv } C (some oD) := ⟨hx, rfl, rfl, hoD⟩
  have SF := F.store_object
  have ne : cd.mro.isEmpty = false := by rw [hmr0]; rfl
  have hob : cd.mro.contains (.type "object") = true := by rw [hmr0, List.contains_cons, XB.ob, Bool.or_true]
  have sub : W.Looks (model prog w) hp (isInstance (.ref x) (.type "object")) true := I.type.andThen (W.looks_mroIn X (by unfold W.mroIn; rw [hcd, Option.bind_some, if_neg (by rw [ne]; decide), hob]))
  refine codeAny_call_builtin SF.slot.plain SF.entry (@W.check_slot (model prog w) _ _ ⟨hp, g, d, t, os⟩ "object.__setattr__" "object" "__setattr__" (.ref x) [.str name tk, v] [] _ SF.kind SF.split sub (SF.args (.ref x) (.str name tk) v) ?_)
  have hmr : W.Looks (model prog w) hp (mroOf (.ref C)) cd.mro := (W.looks_clsIn X hcd).andThen .now
  have L3 : W.Looks (model prog w) hp (storeTaker? none) none := .now
  have hcls : W.Looks (model prog w) hp (classData C) cd := W.looks_clsIn X hcd
  rw [W.osa_eq, refuse_eq]
  refine wpAny_bind (wpAny_bind (I.type.at (wpAny_bind (hmr.at ?_))))
  rw [hmr0, refuseLoop_ref, XB.pass]
  refine wpAny_pure (wpAny_bind (I.type.at (wpAny_bind ((W.looks_findIn X ha).at (wpAny_bind (L3.at ?_))))))
  show wpAny _ _ (storeInOwnDict (.ref x) (.ref C) (.str name tk) name v false) _ _ _
  obtain ⟨nm, bs, mro, ns, qn, hd, sn, sb, ab, col, del⟩ := cd
  dsimp only at hh
  subst hh
  unfold storeInOwnDict ownDictForStores
  repeat (first | with_reducible refine store_in_old hns hw hz ?_ | with_reducible refine wpAny_loadPart_at hx ?_ | with_reducible refine hcls.at ?_ | wp_step)
  intro h' tk' hn' hs
  exact hq h' tk' (fun b o hb ho => (hs.2 b hb).trans ho) hn'
end
end BrX
end PySem
namespace Br
open PySem PySem.Spec PyProof.Rows L2 PySem.BrX
/-- an own error class straight under a built-in one -/
structure OxB (K : PySem.W.Frag) (C : Addr) (newId : String) (bmB : List Value) : Prop where
  cls : ∃ nm q N bs sn sub ab col dd k0 k1 k2 k3 k5, K.lookup C = some (excClassObj nm q C N bs bmB true sn sub ab col dd k0 k1 k2 k3 k5 newId)
  sa : PySem.W.findIn K (.ref C) "__setattr__" = some (some (.builtin "object.__setattr__"))
  exC : PySem.W.subIn K (.ref C) (.type "BaseException") = some true
  tyC : PySem.W.typeIn K (.ref C) = some (.type "type")
  kC : PySem.W.keepIn K (.ref C) = true
section
variable {X : Cx} {pins : List (Addr × Obj)} {σ : L2.St} {H : Hp} {s : Shared} {a C dx : Addr} {f : Str} {y : V} {u : Value} {fs : List (Str × V)} {E : Value → Shared → Prop} {A : Around} {B newId initId : String} {bmB : List Value}
theorem ostB_new {Q : Unit → Shared → Prop} (XB : ExB B newId initId bmB) (T : OxB X.K C newId bmB) (I : Inv X pins σ H s) (e : H a = some (exo a C none)) (hno : PySem.W.findIn X.K (.ref C) f = some none) (ry : RelV y u)
    (h : ∀ dx s', H dx = none → dx ≠ a → Inv X pins σ (upd (upd H dx (exd dx [(f, y)])) a (exo a C (some dx))) s' → Q () s') : wpAny (model X.prog X.w) A (setAttr (.ref a) f u) Q E s := by
  obtain ⟨nm, q, N, bs, sn, sub, ab, col, dd, k0, k1, k2, k3, k5, hC⟩ := T.cls
  have hcl : PySem.W.clsIn X.K C = some { name := nm, bases := bs, mro := .ref C :: bmB, ns := N, qualname := q, hasDict := true, slotNames := sn, subclasses := sub, abstract := ab, collection := col, hasDel := false } := by unfold PySem.W.clsIn; rw [hC] <;> rfl
  obtain ⟨t1, ho⟩ := exo_at I.hok e
  obtain ⟨hp, g, d, t, os⟩ := s
  refine PySem.W.set_plain I.kIn (ox := { cls := .ref C, dict := none, data := .fields #[.ref t1, .none, .none, .none, .bool false, .none] }) (od := none) ⟨ho, rfl, rfl, trivial⟩ T.sa ?_
  refine new_osa XB I.kIn ho hcl rfl rfl hno (fun h' tk' dx k dn dne hx hn => ?_)
  have hnd : H dx = none := I.hok.fresh dn
  have nd : ∀ {b : Addr} {o : Obj}, hp.get? b = some o → b ≠ dx := fun {b o} q => Nat.ne_of_lt (Nat.lt_of_lt_of_le (Heap.lt_size q) dn)
  have na : ∀ {b : Addr}, H b = none → b ≠ a := fun {b} n z => by rw [z, e] at n; cases n
  have Un1 : Un X.fs [] H (upd (upd H dx (exd dx [(f, y)])) a (exo a C (some dx))) hp h' :=
    ⟨fun b o q n _ _ => k b o (na n) q, fun b o q n _ _ => ⟨o.slots, k b o (na n) q⟩, fun b o q n _ => by rw [upd_ne (na n), upd_ne (nd q)]; exact n, fun b o q _ => by
      by_cases hb : b = a
      · exact ⟨_, by rw [hb]; exact hx⟩
      · exact ⟨o, k b o hb q⟩, fun b xs q => by rw [upd_ne (at_ne e q exo_tup), upd_ne (ne_of_none q hnd)]; exact q, fun b o v q => by rw [upd_ne (at_ne e q exo_frz), upd_ne (ne_of_none q hnd)]; exact q, fun b ps q => ⟨#[], by rw [upd_ne (at_ne e q exo_tbl), upd_ne (ne_of_none q hnd), q]; simp⟩⟩
  refine h dx _ hnd dne (I.un (t' := tk') Un1 fun b o q => ?_)
  by_cases hb : b = a
  · subst hb
    rw [upd_same] at q
    cases q
    exact exo_ok hx
  · rw [upd_ne hb] at q
    by_cases hd : b = dx
    · subst hd
      rw [upd_same] at q
      cases q
      exact exd_ok hn (relO_put (fs := []) ry fun g => True.intro)
    · rw [upd_ne hd] at q
      exact (I.hok b o q).stay (fun c v hc z => k c v (hc.elim (fun w => by rw [w]; exact hb) fun w => at_ne e w exo_own) z)
        (fun c hc => by rw [upd_ne (at_ne e hc exo_own), upd_ne (ne_of_none hc hnd)]; exact hc) (fun c xs hc => by rw [upd_ne (at_ne e hc exo_tup), upd_ne (ne_of_none hc hnd)]; exact hc)
theorem ostB_old {Q : Unit → Shared → Prop} (XB : ExB B newId initId bmB) (T : OxB X.K C newId bmB) (I : Inv X pins σ H s) (e : H a = some (exo a C (some dx))) (ed : H dx = some (exd dx fs)) (hl : fs.length ≤ 900) (hno : PySem.W.findIn X.K (.ref C) f = some none) (ry : RelV y u)
    (h : ∀ s', Inv X pins σ (upd H dx (exd dx ((f, y) :: fs))) s' → Q () s') : wpAny (model X.prog X.w) A (setAttr (.ref a) f u) Q E s := by
  obtain ⟨nm, q, N, bs, sn, sub, ab, col, dd, k0, k1, k2, k3, k5, hC⟩ := T.cls
  have hcl : PySem.W.clsIn X.K C = some { name := nm, bases := bs, mro := .ref C :: bmB, ns := N, qualname := q, hasDict := true, slotNames := sn, subclasses := sub, abstract := ab, collection := col, hasDel := false } := by unfold PySem.W.clsIn; rw [hC] <;> rfl
  obtain ⟨t1, ho⟩ := exo_at I.hok e
  obtain ⟨mA, hns, rel⟩ := exd_at I.hok ed
  have hw := within_of rel
  obtain ⟨hp, g, d, t, os⟩ := s
  obtain ⟨oD, _, _, hoD, _, _⟩ := hns.count hw
  refine PySem.W.set_plain I.kIn (ox := { cls := .ref C, dict := some dx, data := .fields #[.ref t1, .none, .none, .none, .bool false, .none] }) (od := some oD) ⟨ho, rfl, rfl, hoD⟩ T.sa ?_
  refine old_osa XB I.kIn ho hns hw (by rw [List.length_map]; omega) hcl rfl rfl hno (fun h' tk' k hn => ?_)
  have hd : ∃ o, h'.get? dx = some o := by
    obtain ⟨o, _, _, e', _⟩ := hn
    exact ⟨o, e'⟩
  exact h _ (I.write (t' := tk') (x := dx) (e := dx) (o := exd dx ((f, y) :: fs)) (by rw [ed]; exact True.intro) (.inl rfl) k hd (exd_ok hn (relO_put ry rel)))
theorem oinitB_ok {us : List Value} {Q : Value → Shared → Prop} (XB : ExB B newId initId bmB) (T : OxB X.K C newId bmB) (I : Inv X pins σ H s) (e : H a = some (exo a C none)) (hl : us.length ≤ sizeLine) (h : ∀ s', Inv X pins σ H s' → Q .none s') :
    wpAny (model X.prog X.w) A (call (.builtin initId) (.ref a :: us)) Q E s := by
  obtain ⟨nm, q, N, bs, sn, sub, ab, col, dd, k0, k1, k2, k3, k5, hC⟩ := T.cls
  obtain ⟨t1, ho⟩ := exo_at I.hok e
  obtain ⟨hp, g, d, t, os⟩ := s
  refine wpAny_call (PySem.HandSPX.init_base XB.F (fun _ => rfl) (I.kIn _ _ hC) ho hl fun h' t2 k hx => ?_)
  have J := I.write (t' := t) (x := a) (e := a) (o := exo a C none) (by rw [e]; exact True.intro) (.inl rfl) k ⟨_, hx⟩ (exo_ok hx)
  have eu : upd H a (exo a C none) = H := by
    funext b
    by_cases hb : b = a
    · rw [hb, upd_same, e]
    · rw [upd_ne hb]
  rw [eu] at J
  exact h _ J
end
/-! ### readings and rules -/
def tBI (K : PySem.W.Frag) (newId : String) (bmB : List Value) (ta : TA) : TE := fun σ H Q => ta σ H fun vs H1 => ∃ (a C : Addr) (ws : List V), vs = .ref a :: ws ∧ ws.length ≤ 1000 ∧ OxB K C newId bmB ∧ H1 a = some (exo a C none) ∧ Q .non H1
def tBst (K : PySem.W.Frag) (newId : String) (bmB : List Value) (f : Str) (to te : TE) : TS := fun D σ H => te σ H fun y H1 => to σ H1 fun x H2 => ∃ a C : Addr, x = .ref a ∧ OxB K C newId bmB ∧ PySem.W.findIn K (.ref C) f = some none ∧
  ((H2 a = some (exo a C none) ∧ ∀ dx, H2 dx = none → dx ≠ a → D.nx σ (upd (upd H2 dx (exd dx [(f, y)])) a (exo a C (some dx)))) ∨
    ∃ (dx : Addr) (fs : List (Str × V)), H2 a = some (exo a C (some dx)) ∧ H2 dx = some (exd dx fs) ∧ fs.length ≤ 900 ∧ D.nx σ (upd H2 dx (exd dx ((f, y) :: fs))))
section
variable {X : Cx} {o e : Expr} {es : List Expr} {to te : TE} {ta : TA} {f : Str} {p p' p1 p2 pos : Pos} {B newId initId : String} {bmB : List Value}
theorem pe_binit {pl : Sem Bool} (XB : ExB B newId initId bmB) {x : Str} (hg : Gl X x) (hm : X.mg x = none) (bv : bootBuiltins x = some (.type B)) (hty : typeOf (.type B) = pure (.type "type")) (hst : Manifest.isStub B = false) (hhd : PySem.W.handedIn (.builtin initId) = true)
    (vV : PySem.W.findCls X.K (.type B) (.type "type") "__init__" = some (.val (.builtin initId))) (ha : PA X (e :: es) ta) (hn : x ≠ "__name__" := by decide) (hdb : (x == ("__debug__" : Str)) = false := by decide)
    (hc : eval (.Call (.Attribute (.Name x p1) "__init__" p2) (e :: es) [] pos) X.env = (do
      let ov ← eval (.Name x p1) X.env
      standAt p2.atName
      let (f, first) ← holding [ov] (getMethod ov "__init__" pl)
      callWith pos f first (backTo pos (starEach (e :: es) X.env)) (backToKw pos (keywordEach [] X.env))) := by rfl)
    (he : starEach (e :: es) X.env = (false, eval e X.env) :: starEach es X.env := by rfl) (hpl : (backTo pos (starEach es X.env)).any (·.1) = false := by rfl) :
    PE X (.Call (.Attribute (.Name x p1) "__init__" p2) (e :: es) [] pos) (tBI X.K newId bmB ta) := by
  refine ⟨fun pins s σ H Q I h => ?_⟩
  refine PySem.W.methodCall_KW (ld_blt I hg hm bv ?_ hn hdb) hc
  obtain ⟨m, fr⟩ := I.fr
  refine PySem.W.method_type fr I.ok.mod.kin hty hst vV hhd ?_
  show wpAny _ _ (callWith pos (Value.builtin initId) [] (backTo pos (starEach (e :: es) X.env)) []) _ _ _
  refine PyProof.Rows.callWith_method1 (thn (ha.run pos pins _ σ H _ (I.tok _) h) fun us s1 ⟨vs, H1, I1, r1, a, C, ws, ev, hl, T, ea, q⟩ => ?_) he hpl
  subst ev
  cases r1 with
  | @cons _ u0 _ ur ra rw' =>
    obtain rfl : u0 = Value.ref a := ra
    have hlen : ur.length ≤ sizeLine := by
      rw [← Paired.length rw', sizeLine_eq]
      omega
    exact oinitB_ok XB T I1 ea hlen fun s' J => ⟨.non, H1, J, rfl, q⟩
theorem ps_bst (XB : ExB B newId initId bmB) (ho : PE X o to) (he : PE X e te) (hs : swapsWith e (some (.Attribute o f p')) pos.line X.env = pure false := by rfl) : PS X (.Assign [.Attribute o f p'] e pos) (tBst X.K newId bmB f to te) := by
  refine ⟨fun pins s σ H D I h => ?_⟩
  refine plainObj_wpAny_Assign_Attribute (thn (he.run pins s σ H _ I h) fun v s1 ⟨y, H1, I1, r1, q1⟩ => thn (ho.run pins s1 σ H1 _ I1 q1) fun u s2 ⟨x, H2, I2, r2, a, C, ex, T, hno, q⟩ => ?_) hs
  subst ex
  obtain rfl : u = Value.ref a := r2
  rcases q with ⟨ea, q⟩ | ⟨dx, fs, ea, ed, hl, q⟩
  · exact ostB_new XB T I2 ea hno r1 fun dx s' n ne J => ⟨σ, _, J, q dx n ne⟩
  · exact ostB_old XB T I2 ea ed hl hno r1 fun s' J => ⟨σ, _, J, q⟩
theorem pmk_bx {x : Str} {C fI : Addr} {k : Nat} {fd : FuncData} {ps : List Str} {sp : Sp} (XB : ExB B newId initId bmB) (T : OxB X.K C newId bmB) (iC : PySem.W.findIn X.K (.ref C) "__init__" = some (some (.ref fI))) (tI : PySem.W.typeIn X.K (.ref fI) = some (.type "function"))
    (F1 : FnOk X.prog X.w X.K X.mg X.base CX0 k fI fd ps sp) (hr : Room (k + 1) X.A) (hb : Binds X.K fd ps []) (hg : Gl X x) (hm : X.mg x = some (.ref C)) (ha : PA X (e :: es) ta)
    (hdb : (x == ("__debug__" : Str)) = false := by decide) (he : starEach (e :: es) X.env = (false, eval e X.env) :: starEach es X.env := by rfl) (hpl : (backTo pos (starEach es X.env)).any (·.1) = false := by rfl) :
    PMk X (.Call (.Name x p) (e :: es) [] pos) (tMkO C sp [] ta) := by
  intro pins s σ H Q I h
  obtain ⟨nm, q, N, bs, sn, sub, ab, col, dd, k0, k1, k2, k3, k5, hC⟩ := T.cls
  refine wpAny_Call_Name_kw (ld_glob I hg hm ?_ hdb)
  refine PySem.W.callWith_K (h₀ := X.base) I.ok.mod.kin T.kC (thn (ha.run pos pins s σ H _ I h) fun us s1 ⟨vs, H1, I1, r1, hz, q1⟩ => ⟨I1.kIn, ?_⟩) he hpl
  show wpAny _ _ (call (.ref C) us) _ _ _
  obtain ⟨hp, g, dr, tk, os⟩ := s1
  have hsz : hp.objs.size ≤ hp.objs.size + 1 := Nat.le_succ _
  have hq := q1 (hp.objs.size + 1) (I1.hok.fresh hsz)
  have kk : ∀ b o, hp.get? b = some o → ((hp.push (PySem.W.kdv_tup us)).push (PySem.HandSPX.excO C hp.objs.size)).get? b = some o := fun b o e => Heap.get?_push_of_some _ (Heap.get?_push_of_some _ e)
  have hget : ((hp.push (PySem.W.kdv_tup us)).push (PySem.HandSPX.excO C hp.objs.size)).get? (hp.objs.size + 1) = some (PySem.HandSPX.excO C hp.objs.size) := by heap_get
  have I2 : Inv X pins σ (upd H1 (hp.objs.size + 1) (exo (hp.objs.size + 1) C none)) ⟨(hp.push (PySem.W.kdv_tup us)).push (PySem.HandSPX.excO C hp.objs.size), g, dr, tk, os⟩ := I1.laid (t' := tk) kk hsz (exo_ok hget)
  rw [List.append_nil] at hq
  have r2 : Vals (V.ref (hp.objs.size + 1) :: vs) (Value.ref (hp.objs.size + 1) :: us) := .cons rfl r1
  have hl : (Value.ref (hp.objs.size + 1) :: us).length = ps.length := by
    have e := r2.length
    rw [F1.len _ _ _ _ hq] at e
    exact e.symm
  have hus : us.length ≤ sizeLine := by
    rw [← Paired.length r1, sizeLine_eq]
    omega
  have hbb := hb ⟨(hp.push (PySem.W.kdv_tup us)).push (PySem.HandSPX.excO C hp.objs.size), g, dr, tk, os⟩ (Value.ref (hp.objs.size + 1) :: us) I2.kIn (by simpa using hl)
  rw [List.append_nil] at hbb
  refine wpAny_call (PySem.HandSPX.call_own XB.F (fun _ => rfl) (I1.kIn _ _ hC) (PySem.W.looks_findIn I1.kIn iC) (fun self => PySem.W.bind_fn I1.kIn self tI) hus
    (codeAny_mono (F1.run _ X.stack _ _ ⟨Value.ref (hp.objs.size + 1) :: us, []⟩ (Value.ref (hp.objs.size + 1) :: us) _ _ (fun _ _ _ => False) (hr.make C us []) (I2.env0.make C us []) hbb r2 hq) fun r s' hq' => ?_))
  cases r with
  | error er => exact hq'.elim
  | ok fl =>
    cases fl with
    | ret u =>
      obtain ⟨v, H2, os2, bare2, un2, hok2, rv, ev, d, fs, ea, ed, hd1, q2⟩ := hq'
      subst ev
      obtain ⟨h2, g2, d2, t2, os'⟩ := s'
      exact ⟨rv, mk_end (raises_own T.exC T.tyC) I1 hsz kk un2 hok2 os2 bare2 ea ed hd1 q2⟩
    | next => exact False.elim hq'
    | brk => exact False.elim hq'
    | cont => exact False.elim hq'
end
/-! ### errors with fields, by their own __init__ -/
/-- what the top says of the error class x (at C) under B -/
structure XcB (K : PySem.W.Frag) (mg : Str → Option Value) (x qual : Str) (st : Stmt) (newId : String) (bmB : List Value) (C fI : Addr) (fd : FuncData) : Prop where
  g : mg x = some (.ref C)
  O : OxB K C newId bmB
  i : PySem.W.findIn K (.ref C) "__init__" = some (some (.ref fI))
  t : PySem.W.typeIn K (.ref fI) = some (.type "function")
  F : Fun K "__init__" qual st fI fd
  xf : XfC K C
  ec : ExcC K C
  self : PySem.W.exmOne K (.ref C) (.ref C) = some true
theorem xcB {K : PySem.W.Frag} {h : Heap} {mg : Str → Option Value} {x qual : Str} {st : Stmt} {newId : String} {bmB : List Value} {C fI : Addr} {nm q : Str} {N : Addr} {bs : List Value} {sn : List Str} {sub : List Value} {ab : Bool} {col : Option Bool} {dd : Option Addr} {m0 m1 m2 m3 m5 : Option Value}
    {oc : Value} {od an : Option Addr} {osl : Array (Option Value)} {kV doc pm cdv ct : Value} (X : K.In h) (G : h.Ns mainGlobals mg)
    (aC : PySem.W.nsIn K mainGlobals x = some (some (.ref C)))
    (xL : K.lookup C = some (excClassObj nm q C N bs bmB true sn sub ab col dd m0 m1 m2 m3 m5 newId))
    (sa : PySem.W.findIn K (.ref C) "__setattr__" = some (some (.builtin "object.__setattr__"))) (eC : PySem.W.subIn K (.ref C) (.type "BaseException") = some true) (tC : PySem.W.typeIn K (.ref C) = some (.type "type")) (kC : PySem.W.keepIn K (.ref C) = true)
    (a1 : PySem.W.findIn K (.ref C) "__init__" = some (some (.ref fI))) (t1 : PySem.W.typeIn K (.ref fI) = some (.type "function"))
    (l1 : K.lookup fI = some ⟨oc, od, .func (PySem.W.fnOf "__init__" qual (defArgs st) (defBody st) (defScope st) .none kV doc pm an cdv ct), osl⟩) (c1 : PySem.W.codeIn K cdv qual = true) (k1 : PySem.W.keepIn K (.ref fI) = true)
    (ga : PySem.W.findIn K (.ref C) "__getattribute__" = some (some (.builtin "BaseException.__getattribute__"))) (gg : PySem.W.findIn K (.ref C) "__getattr__" = some none) (hC : PySem.W.hasDictIn K C = true)
    (ha : PySem.W.findIn K (.ref C) "__class__" = some (some (.builtin "object.__class__"))) (hn : PySem.W.specialIn K (.builtin "object.__class__") "__get__" = some (some (.builtin "getset_descriptor.__get__")))
    (ht : PySem.W.takesIn K (.builtin "object.__class__") = some true) (hm : PySem.W.mroIn K C (.type "object") = some true) (sC : PySem.W.subIn K (.ref C) (.ref C) = some true) :
    XcB K mg x qual st newId bmB C fI (PySem.W.fnOf "__init__" qual (defArgs st) (defBody st) (defScope st) .none kV doc pm an cdv ct) :=
  { g := PySem.W.mg_of X G aC, O := ⟨⟨nm, q, N, bs, sn, sub, ab, col, dd, m0, m1, m2, m3, m5, xL⟩, sa, eC, tC, kC⟩, i := a1, t := t1, F := fun_mk l1 c1 k1, xf := ⟨ga, gg, eC, hC⟩, ec := ⟨ga, gg, eC, hC, ha, hn, ht, hm⟩, self := exm_self eC hC tC sC }
/-- __init__(self, ..): the error has the fields in its new dict -/
def spXs (C : Addr) (mk : List V → Option (List (Str × V))) : Sp := fun vs H Q _ => ∃ (a : Addr) (ws : List V) (fs : List (Str × V)), vs = .ref a :: ws ∧ mk ws = some fs ∧ H a = some (exo a C none) ∧ ∀ d, H d = none → d ≠ a → Q .non (upd (upd H d (exd d fs)) a (exo a C (some d)))
def rXs (C : Addr) (fs : List (Str × V)) (H : Hp) (W : XK) : Prop := ∀ (d : Addr) (H' : Hp), H d = none → Same H H' → H' d = some (.xd fs) → W (.ref C) (some d) H'
/-- raise x(e, ..) -/
def tRzs (C : Addr) (mk : List V → Option (List (Str × V))) (W : WX) (ta : TA) : TS := fun _ σ H => ta σ H fun vs H1 => vs.length ≤ 1000 ∧ ∃ fs, mk vs = some fs ∧ rXs C fs H1 fun cls d H' => W cls d σ H'
theorem ps_rzs {X : Cx} {x qual : Str} {st : Stmt} {C fI : Addr} {fd : FuncData} {ps : List Str} {e : Expr} {es : List Expr} {ta : TA} {k : Nat} {p pos pos2 : Pos} {W : WX} {B newId initId : String} {bmB : List Value} {mk : List V → Option (List (Str × V))} (XB : ExB B newId initId bmB) (hc : X.calm = true) (tk : Takes X W) (T : XcB X.K X.mg x qual st newId bmB C fI fd) (F1 : FnOk X.prog X.w X.K X.mg X.base CX0 k fI fd ps (spXs C mk)) (hb : Binds X.K fd ps []) (hr : Room (k + 1) X.A)
    (ha : PA X (e :: es) ta) (hg : Gl X x := by rfl) (hdb : (x == ("__debug__" : Str)) = false := by decide) (he : starEach (e :: es) X.env = (false, eval e X.env) :: starEach es X.env := by rfl) (hpl : (backTo pos (starEach es X.env)).any (·.1) = false := by rfl) :
    PS X (.Raise (some (.Call (.Name x p) (e :: es) [] pos)) none pos2) (tRzs C mk W ta) := by
  have pm : PMk X (.Call (.Name x p) (e :: es) [] pos) (fun σ H Q => ta σ H fun vs H1 => vs.length ≤ 1000 ∧ ∃ fs, mk vs = some fs ∧ rXs C fs H1 Q) := by
    intro pins s σ H Q I h
    refine pmk_bx XB T.O T.i T.t F1 hr hb hg T.g (pa_up ha) hdb he hpl pins s σ H Q I ⟨_, h, fun vs H1 ⟨hl, fs, hfs, k⟩ => ⟨hl, fun a ha => ⟨a, vs, fs, by rw [List.append_nil], hfs, upd_same, fun d hd hda => ⟨rfl, d, fs, upd_same, by rw [upd_ne hda, upd_same], ?_, ?_⟩⟩⟩⟩
    · rwa [upd_ne hda] at hd
    · have hd' : H1 d = none := by rwa [upd_ne hda] at hd
      refine k d _ hd' (fun b o q => ?_) upd_same
      have b1 : b ≠ d := ne_of_none q hd'
      have b2 : b ≠ a := ne_of_none q ha
      rw [upd_ne b1, del_ne b2, upd_ne b2, upd_ne b1, upd_ne b2]
      exact q
  exact ps_raise hc tk pm
end Br

/-! a list taken apart: a, b = xs -/
namespace Br
open PySem PySem.Spec PyProof.Rows L2 PySem.BrX
section
variable {prog : Program} {w : World} {A : Around} {E : Value → Shared → Prop} {s : Shared}
theorem lst_keep {h h' : Heap} {l it : Addr} {its : Array Value} (x : h.IsList l its) (e : Heap.ExtBut it h h') (n : l ≠ it) : h'.IsList l its := by
  obtain ⟨o, ho, r⟩ := x
  exact ⟨o, e _ _ n ho, r⟩
theorem draw_lst {it l : Addr} {its : Array Value} (hne : l ≠ it) : ∀ (k i : Nat) (s : Shared) (Q : List Value → Shared → Prop), s.heap.IsListIter it l i → s.heap.IsList l its → i + k ≤ its.size →
    (∀ h', h'.IsListIter it l (i + k) → Heap.SameBut it s.heap h' → Q ((its.toList.drop i).take k) { s with heap := h' }) → wpAny (model prog w) A (draw (.ref it) k) Q E s := by
  intro k
  induction k with
  | zero =>
    intro i s Q hit _ _ go
    have := go s.heap hit (Heap.SameBut.refl ..)
    exact wpAny_pure (by simpa using this)
  | succ k ih =>
    intro i s Q hit hl hle go
    have hi : i < its.size := by omega
    refine wpAny_bind (m := pyNext (.ref it)) (wpAny_pyNext_list_item hit hl (x := its[i]) (by simp [hi]) fun h1 hit1 e1 => ?_)
    refine wpAny_bind (wpAny_holding (ih (i + 1) _ _ hit1 (lst_keep hl e1.extBut hne) (by omega) fun h2 hit2 e2 => wpAny_pure ?_))
    have q := go h2 (by rw [show i + (k + 1) = i + 1 + k by omega]; exact hit2) (e1.trans e2)
    have hd : its.toList.drop i = its[i] :: its.toList.drop (i + 1) := by simp [List.drop_eq_getElem_cons, hi]
    rw [hd, List.take_succ_cons] at q
    exact q
theorem unpack_lst {l : Addr} {its : Array Value} {tgs : List (Bool × (Value → Sem Unit))} {Q : Unit → Shared → Prop} (hh : A.handled = none) (hl : s.heap.IsList l its) (hn : tgs.length = its.size) (hst : tgs.findIdx? (·.1) = none)
    (go : ∀ h', Heap.ExtBut s.heap.objs.size s.heap h' → wpAny (model prog w) A (assignInOrder (tgs.map (·.2)) its.toList) Q E { s with heap := h' }) : wpAny (model prog w) A (unpack (.ref l) tgs) Q E s := by
  have hlt : l ≠ s.heap.objs.size := by
    obtain ⟨o, ho, _⟩ := hl
    exact Nat.ne_of_lt (Heap.lt_size ho)
  unfold unpack
  rw [hn, hst]
  refine wpAny_bind (wpAny_holding ?_)
  unfold unpackItems
  refine wpAny_bind ?_
  unfold notIterableAtAll
  refine wpAny_bind (wpAny_specialOf hl.typeIs slot_list_iter.lookup (wpAny_pure ?_))
  simp only [Bool.false_eq_true, if_false]
  refine wpAny_bind (wpAny_holding (wpAny_pyIter_list hl ?_))
  have hl0 : (s.heap.push { cls := .type "list_iterator", data := .fields #[.ref l, .int 0 0] }).IsList l its := by
    obtain ⟨o, ho, r⟩ := hl
    exact ⟨o, Heap.get?_push_of_some _ ho, r⟩
  refine wpAny_bind (wpAny_holding (draw_lst hlt its.size 0 _ _ ⟨_, Heap.get?_push_size _ rfl, rfl, rfl⟩ hl0 (by omega) fun h1 hit1 e1 => ?_))
  rw [List.drop_zero, List.take_of_length_le (by simp), if_neg (by simp)]
  refine wpAny_bind (wpAny_holding (wpAny_pyNext_list_end hh hit1 (lst_keep hl0 e1.extBut hlt) (by simp) fun h2 e2 => ?_))
  simp only [Option.isSome_none, Bool.false_eq_true, if_false]
  exact wpAny_pure (go h2 fun b o hb e => e2 b o hb (e1.extBut b o hb (Heap.get?_push_of_some _ e)))
end
/-- a target (a, b, ..) of a tuple or of a list -/
def gSq (K : PySem.W.Frag) (n : Nat) (t : TGs) : TG := fun v σ H Q => gTup K n t v σ H Q ∨ ∃ a xs, v = .ref a ∧ SqL K H a xs ∧ xs.length = n ∧ t xs σ H Q
theorem pg_sq {X : Cx} {es : List Expr} {k : Nat} {t : TGs} {n : Nat} {pos : Pos} (hc : X.calm = true) (h : PGs X es t) (hn : (assignEach es X.env).length = n := by rfl) (hst : (assignEach es X.env).findIdx? (·.1) = none := by rfl) : PG X (.Tuple es k pos) (gSq X.K n t) := by
  refine ⟨fun pins s σ H v u Q I r hw => ?_⟩
  rcases hw with hw | ⟨a, xs, rfl, hq, hl, hw⟩
  · exact (pg_tup hc h hn hst).run pins s σ H v u Q I r hw
  · cases r
    obtain ⟨its, rv, ⟨o, m, ho, hcl, hdi, hda⟩, hz⟩ := I.list hq
    rw [assign_Tuple]
    refine wpAny_bind (wpAny_standAt (unpack_lst (its := its.toArray) (I.ok.hd hc) ⟨o, ho, hcl, m, hda⟩ (by simp [hn, ← hl, rv.length]) hst fun h' hx => ?_))
    have I1 : Inv X pins σ H { s with heap := h' } := I.kept (t' := s.toks) fun b o e => hx b o (Nat.ne_of_lt (Heap.lt_size e)) e
    exact h.run pins _ σ H xs _ Q I1 (by simpa using rv) hw
end Br

/-! zip of two texts. -/
namespace Br
open PySem PySem.Spec PyProof.Rows L2
/-- the signs of two texts, in new pairs -/
def ItzS (x y : Str) : It :=
  ⟨fun i _ => i < x.cps.size ∧ i < y.cps.size,
    fun i H v H' => ∃ T c d, v = .ref T ∧ H T = none ∧ H' = upd H T (.tup [.str ⟨#[c]⟩, .str ⟨#[d]⟩]) ∧ x.cps[i]? = some c ∧ y.cps[i]? = some d,
    fun i _ => i ≤ x.cps.size ∧ i ≤ y.cps.size ∧ (i = x.cps.size ∨ i = y.cps.size)⟩
theorem sep_of {z TI TO i1 i2 a b : Addr} (D : ZipApart z TI TO i1 i2 a b) : ZipSep2 z TI TO i1 i2 [i1] [i2] where
  TIz := D.TIz
  TOz := D.TOz
  TITO := D.TITO
  TIi1 := D.TIi1
  mem1 := by simp
  zf1 := by simpa using D.i1z.symm
  Tf1 := by simpa using D.TOi1
  TIi2 := D.TIi2
  mem2 := by simp
  zf2 := by simpa using D.i2z.symm
  Tf2 := by simpa using D.TOi2
  sep1_2 := by simpa using D.i12
  sep2_1 := by simpa using D.i12.symm
theorem turn_zipS {P : Program} {w : World} {K : PySem.W.Frag} {elts : List Expr} {kk : Nat} {tpos : Pos} {a b z TI TO i1 i2 : Addr} {x y : Str} {t u : Tok} (D : ZipApart z TI TO i1 i2 a b) :
    Turn P w K (.Tuple elts kk tpos) (ItzS x y) [z, TI, TO, i1, i2] z (fun i h => IsZip h z TI TO .none ∧ IsPair h TI (.ref i1) (.ref i2) ∧ (∃ x y, IsPair h TO x y) ∧ h.IsStrIter i1 (strIterType x) x t i ∧ h.IsStrIter i2 (strIterType y) y u i) where
  mem := by simp
  obj := fun i h st c hc => by
    obtain ⟨hz, hTI, ⟨x, y, hTO⟩, ⟨o1, e1, _, d1⟩, ⟨o2, e2, _, d2⟩⟩ := st
    have e' : c = z ∨ c = TI ∨ c = TO ∨ c = i1 ∨ c = i2 := by simpa using hc
    rcases e' with q | q | q | q | q
    · rw [q]; exact ⟨_, hz, fun v q => nomatch q⟩
    · rw [q]; exact ⟨_, hTI, fun v q => nomatch q⟩
    · rw [q]; exact ⟨_, hTO, fun v q => nomatch q⟩
    · rw [q]; exact ⟨o1, e1, fun v q => by rw [d1] at q; cases q⟩
    · rw [q]; exact ⟨o2, e2, fun v q => by rw [d2] at q; cases q⟩
  keep := fun i h h' st k => by
    obtain ⟨hz, hTI, ⟨x, y, hTO⟩, ⟨o1, e1, h1⟩, ⟨o2, e2, h2⟩⟩ := st
    exact ⟨k z (by simp) _ hz, k TI (by simp) _ hTI, ⟨x, y, k TO (by simp) _ hTO⟩, ⟨o1, k i1 (by simp) o1 e1, h1⟩, ⟨o2, k i2 (by simp) o2 e2, h2⟩⟩
  item := by
    intro X hP hw hK hc i pins s σ H E I hf st hg
    subst hP hw hK
    obtain ⟨hz, hTI, ⟨x0, y0, hTO⟩, h1, h2⟩ := st
    obtain ⟨g1, g2⟩ := hg
    have hzl : z < s.heap.objs.size := Heap.lt_size hz
    have hh : X.A.in1.handled = none := I.ok.hd hc
    refine wpAny_pyNext_zipD2_item (sep_of D) (Draws.text hh i1 x t) (Draws.text hh i2 y u) hz hTI hTO h1 h2 g1 g2 fun v1 v2 h' tk p1 p2 z' TO' h1' h2' hT hsz hk => ?_
    obtain ⟨c, tc, ec, rfl⟩ := p1
    obtain ⟨d, td, ed, rfl⟩ := p2
    refine ⟨_, rfl, wpAny_letOwnedTupleGo_zip (s := { s with heap := h', toks := tk }) z' fun h'' z'' sb => ?_⟩
    have hT2 : h''.get? s.heap.objs.size = some { cls := .type "tuple", data := .seq #[.str ⟨#[c]⟩ tc, .str ⟨#[d]⟩ td] } := (sb.2 _ (Nat.ne_of_gt hzl)).trans hT
    have new : ObjOk X.prog X.w (upd H s.heap.objs.size (.tup [.str ⟨#[c]⟩, .str ⟨#[d]⟩])) h'' s.heap.objs.size (.tup [.str ⟨#[c]⟩, .str ⟨#[d]⟩]) :=
      ⟨by show 2 ≤ sizeLine; decide, [.str ⟨#[c]⟩ tc, .str ⟨#[d]⟩ td], .cons ⟨tc, rfl⟩ (.cons ⟨td, rfl⟩ .nil), ⟨_, hT2, rfl, _, rfl⟩⟩
    have I1 : Inv X pins σ (upd H s.heap.objs.size (.tup [.str ⟨#[c]⟩, .str ⟨#[d]⟩])) { s with heap := h'', toks := tk } :=
      I.turnedNew (t' := tk) (ch := [z, TI, TO, i1, i2]) (fun c o hb q => (sb.2 c (fun q' => hb (by simp [q']))).trans (hk c o (fun q' => hb (by simp [q'])) (fun q' => hb (by simp [q'])) (fun q' => hb (by simp [q'])) (fun q' => hb (by simp [q'])) q)) hf (Nat.le_refl _) new
    refine ⟨.ref s.heap.objs.size, _, I1, rfl, ⟨_, c, d, rfl, I.hok.fresh (Nat.le_refl _), rfl, ec, ed⟩, ⟨z'', ?_, ⟨.str ⟨#[c]⟩ tc, .str ⟨#[d]⟩ td, ?_⟩, ?_, ?_⟩, fun c hcm => ?_⟩
    · exact (sb.2 _ D.TIz).trans (hk _ _ D.TIz D.TITO D.TIi1 D.TIi2 hTI)
    · exact (sb.2 _ D.TOz).trans TO'
    · obtain ⟨o, e, r⟩ := h1'; exact ⟨o, (sb.2 _ D.i1z).trans e, r⟩
    · obtain ⟨o, e, r⟩ := h2'; exact ⟨o, (sb.2 _ D.i2z).trans e, r⟩
    · have hlt : c < s.heap.objs.size := by
        have e' : c = z ∨ c = TI ∨ c = TO ∨ c = i1 ∨ c = i2 := by simpa using hcm
        rcases e' with q | q | q | q | q
        · rw [q]; exact hzl
        · rw [q]; exact Heap.lt_size hTI
        · rw [q]; exact Heap.lt_size hTO
        · rw [q]; obtain ⟨_, e1, _⟩ := h1; exact Heap.lt_size e1
        · rw [q]; obtain ⟨_, e2, _⟩ := h2; exact Heap.lt_size e2
      rw [upd_ne (Nat.ne_of_lt hlt)]
      exact (hf c hcm).1
  done := by
    intro X hP hw hK hc i pins s σ H E I hf st hg
    subst hP hw hK
    obtain ⟨hz, hTI, ⟨x0, y0, hTO⟩, h1, h2⟩ := st
    obtain ⟨g1, g2, g3⟩ := hg
    have hh : X.A.in1.handled = none := I.ok.hd hc
    exact wpAny_pyNext_zipD2_end (sep_of D) (Draws.text hh i1 x t) (Draws.text hh i2 y u) hz hTI hTO h1 h2 g1 g2 g3 fun h' tk hk => ⟨rfl, I.turnedL (t' := tk) (ch := [z, TI, TO, i1, i2]) (fun c o hb q =>
      hk c o (fun q' => hb (by simp [q'])) (fun q' => hb (by simp [q'])) (fun q' => hb (by simp [q'])) (fun q' => hb (by simp [q'])) q) hf⟩
  self := fun A i s Q E st h => wpAny_pyIter_zip st.1 h
def iZipS (ta : TA) : TI := fun σ H R => ta σ H fun vs H1 => ∃ x y, vs = [.str x, .str y] ∧ R (ItzS x y) H1
theorem pi_zipS {X : Cx} {e e2 : Expr} {ta : TA} {p pos tpos : Pos} {elts : List Expr} {kk : Nat} (hg : Gl X "zip") (hm : X.mg "zip" = none) (ha : PA X [e, e2] ta)
    (hs : starEach [e, e2] X.env = (false, eval e X.env) :: starEach [e2] X.env := by rfl) (hpl : (backTo pos (starEach [e2] X.env)).any (·.1) = false := by rfl) :
    PI X (.Tuple elts kk tpos) (.Call (.Name "zip" p) [e, e2] [] pos) (iZipS ta) := by
  refine ⟨fun pins s σ H R I h => ?_⟩
  refine Call_ (ld_blt I hg hm PyProof.Rows.boot_zip (PyProof.Rows.callWith_type1 (thn (ha.run pos pins s σ H _ I h) fun us s1 ⟨vs, H1, I1, r1, q1⟩ => ?_) hs hpl))
  obtain ⟨x, y, ex, q⟩ := q1
  subst ex
  cases r1 with
  | cons r rr =>
    cases rr with
    | cons r' rr =>
      cases rr
      obtain ⟨t, rfl⟩ := r
      obtain ⟨u, rfl⟩ := r'
      have fresh5 : ∀ c, c ∈ [s1.heap.objs.size + 4, s1.heap.objs.size + 2, s1.heap.objs.size + 3, s1.heap.objs.size, s1.heap.objs.size + 1] → FpOk X pins H1 c := fun c hcm => by
        have e' : c = s1.heap.objs.size + 4 ∨ c = s1.heap.objs.size + 2 ∨ c = s1.heap.objs.size + 3 ∨ c = s1.heap.objs.size ∨ c = s1.heap.objs.size + 1 := by simpa using hcm
        have hle : s1.heap.objs.size ≤ c := by
          rcases e' with z | z | z | z | z
          · rw [z]; exact Nat.le_add_right _ _
          · rw [z]; exact Nat.le_add_right _ _
          · rw [z]; exact Nat.le_add_right _ _
          · rw [z]; exact Nat.le_refl _
          · rw [z]; exact Nat.le_add_right _ _
        exact I1.fpOk hle (I1.hok.fresh hle)
      refine zip_begins2 (begins_text x t) (begins_text y u) trivial trivial fun h' hz hTI hTO h1 h2 hsz hk => wpAny_pyIter_zip hz ?_
      have I2 : Inv X pins σ H1 { s1 with heap := h' } := I1.kept (t' := s1.toks) hk
      have big := I1.big
      exact ⟨s1.heap.objs.size + 4, [s1.heap.objs.size + 4, s1.heap.objs.size + 2, s1.heap.objs.size + 3, s1.heap.objs.size, s1.heap.objs.size + 1], _, _, H1, rfl, I2, turn_zipS (t := t) (u := u) (PySem.W.ktu_apart s1.heap.objs.size sysModules sysModules big big), ⟨hz, hTI, ⟨_, _, hTO⟩, ⟨_, h1, rfl, rfl⟩, ⟨_, h2, rfl, rfl⟩⟩, fresh5, q⟩
end Br

/-! Values as trees: what a def computes, without the heap. The core: data, what stands for them in the heap, slots, readings. -/
namespace Dn
open PySem PySem.Spec PyProof.Rows L2 Br
/-- a value as a tree; pen: the law's own pen -/
inductive D where
  | non | bl (b : Bool) | int (i : Int) | str (x : Str)
  | lst (xs : List D) | tup (xs : List D)
  | obj (c : Str) (fs : List (Str × D)) | exc (c : Str) (fs : List (Str × D))
  | dct (kvs : List (Key × D))
  | pen
  | scr (n : Nat)
  | fn (f c : Addr) (q : Str)
/-- the pen's count's name; the tables of code objects of those that make lambdas -/
structure Kn where
  key : Str
  tb : List (Addr × Str)
/-- what is fixed in a run: the module, the pen's address, its cells' address, its count's name -/
structure G where
  K : PySem.W.Frag
  mg : Str → Option Value
  pd : Addr
  pc : Addr
  kn : Kn
mutual
inductive Dv (g : G) (H : Hp) : V → D → Prop
  | non : Dv g H .non .non
  | bl (b : Bool) : Dv g H (.bl b) (.bl b)
  | int (i : Int) : Dv g H (.int i) (.int i)
  | str (x : Str) : Dv g H (.str x) (.str x)
  | lst {a : Addr} {xs : List V} {ds : List D} : H a = some (.lst xs) → DvAll g H xs ds → Dv g H (.ref a) (.lst ds)
  | tup {a : Addr} {xs : List V} {ds : List D} : SqT g.K H a xs → DvAll g H xs ds → Dv g H (.ref a) (.tup ds)
  | obj {a C dx : Addr} {c : Str} {fs : List (Str × V)} {gs : List (Str × D)} : H a = some (.ins C dx fs) → g.mg c = some (.ref C) → DvF g H fs gs → Dv g H (.ref a) (.obj c gs)
  | exc {a C dd : Addr} {c : Str} {fs : List (Str × V)} {gs : List (Str × D)} : H a = some (xob a (.ref C) (some dd)) → g.mg c = some (.ref C) → H dd = some (.xd fs) → DvF g H fs gs → Dv g H (.ref a) (.exc c gs)
  | dct {a : Addr} {o : Obj} {kvs : List (Key × V)} {ks : List (Key × D)} : H a = some (.frz o (.dK kvs)) → DvK g H kvs ks → Dv g H (.ref a) (.dct ks)
  | pen : Dv g H (.ref g.pd) .pen
  | scr {a : Addr} {xs : List V} : SqL g.K H a xs → Dv g H (.ref a) (.scr xs.length)
  | fn (f c : Addr) (q : Str) : Dv g H (.ref f) (.fn f c q)
inductive DvAll (g : G) (H : Hp) : List V → List D → Prop
  | nil : DvAll g H [] []
  | cons {v : V} {vs : List V} {d : D} {ds : List D} : Dv g H v d → DvAll g H vs ds → DvAll g H (v :: vs) (d :: ds)
inductive DvF (g : G) (H : Hp) : List (Str × V) → List (Str × D) → Prop
  | nil : DvF g H [] []
  | cons {f : Str} {v : V} {d : D} {fs : List (Str × V)} {gs : List (Str × D)} : Dv g H v d → DvF g H fs gs → DvF g H ((f, v) :: fs) ((f, d) :: gs)
inductive DvK (g : G) (H : Hp) : List (Key × V) → List (Key × D) → Prop
  | nil : DvK g H [] []
  | cons {f : Key} {v : V} {d : D} {fs : List (Key × V)} {gs : List (Key × D)} : Dv g H v d → DvK g H fs gs → DvK g H ((f, v) :: fs) ((f, d) :: gs)
end
section
variable {g : G} {H H' : Hp}
mutual
theorem Dv.mono (s : Same H H') : ∀ {d : D} {v : V}, Dv g H v d → Dv g H' v d
  | _, _, .non => .non
  | _, _, .bl b => .bl b
  | _, _, .int i => .int i
  | _, _, .str x => .str x
  | _, _, .lst h a => .lst (s _ _ h) (DvAll.mono s a)
  | _, _, .tup h a => .tup (same_seqT s h) (DvAll.mono s a)
  | _, _, .obj h m a => .obj (s _ _ h) m (DvF.mono s a)
  | _, _, .exc h m h2 a => .exc (s _ _ h) m (s _ _ h2) (DvF.mono s a)
  | _, _, .dct h a => .dct (s _ _ h) (DvK.mono s a)
  | _, _, .pen => .pen
  | _, _, .scr h => .scr (s.seq h)
  | _, _, .fn f c q => .fn f c q
theorem DvAll.mono (s : Same H H') : ∀ {ds : List D} {vs : List V}, DvAll g H vs ds → DvAll g H' vs ds
  | _, _, .nil => .nil
  | _, _, .cons h r => .cons (Dv.mono s h) (DvAll.mono s r)
theorem DvF.mono (s : Same H H') : ∀ {gs : List (Str × D)} {fs : List (Str × V)}, DvF g H fs gs → DvF g H' fs gs
  | _, _, .nil => .nil
  | _, _, .cons h r => .cons (Dv.mono s h) (DvF.mono s r)
theorem DvK.mono (s : Same H H') : ∀ {gs : List (Key × D)} {fs : List (Key × V)}, DvK g H fs gs → DvK g H' fs gs
  | _, _, .nil => .nil
  | _, _, .cons h r => .cons (Dv.mono s h) (DvK.mono s r)
end
theorem DvAll.len {vs : List V} {ds : List D} (h : DvAll g H vs ds) : vs.length = ds.length := by
  induction ds generalizing vs with
  | nil => cases h; rfl
  | cons d r ih => cases h with | cons a b => rw [List.length_cons, List.length_cons, ih b]
theorem DvAll.get {vs : List V} {ds : List D} (h : DvAll g H vs ds) : ∀ {i : Nat} {d : D}, ds[i]? = some d → ∃ v, vs[i]? = some v ∧ Dv g H v d := by
  induction ds generalizing vs with
  | nil => intro i d e; simp at e
  | cons d r ih =>
    intro i x e
    cases h with
    | cons a b =>
      cases i with
      | zero =>
        rw [List.getElem?_cons_zero] at e
        cases e
        exact ⟨_, by rw [List.getElem?_cons_zero], a⟩
      | succ i =>
        rw [List.getElem?_cons_succ] at e
        obtain ⟨v, h1, h2⟩ := ih b e
        exact ⟨v, by rw [List.getElem?_cons_succ]; exact h1, h2⟩
theorem DvAll.getV {vs : List V} {ds : List D} (h : DvAll g H vs ds) : ∀ {i : Nat} {v : V}, vs[i]? = some v → ∃ d, ds[i]? = some d ∧ Dv g H v d := by
  induction ds generalizing vs with
  | nil => intro i v e; cases h; simp at e
  | cons d r ih =>
    intro i x e
    cases h with
    | cons a b =>
      cases i with
      | zero =>
        rw [List.getElem?_cons_zero] at e
        cases e
        exact ⟨_, by rw [List.getElem?_cons_zero], a⟩
      | succ i =>
        rw [List.getElem?_cons_succ] at e
        obtain ⟨v, h1, h2⟩ := ih b e
        exact ⟨v, by rw [List.getElem?_cons_succ]; exact h1, h2⟩
theorem DvAll.append {vs ws : List V} {ds es : List D} (h : DvAll g H vs ds) (k : DvAll g H ws es) : DvAll g H (vs ++ ws) (ds ++ es) := by
  induction ds generalizing vs with
  | nil => cases h; exact k
  | cons d r ih => cases h with | cons a b => exact .cons a (ih b)
theorem DvAll.take {vs : List V} {ds : List D} (h : DvAll g H vs ds) (n : Nat) : DvAll g H (vs.take n) (ds.take n) := by
  induction ds generalizing vs n with
  | nil => cases h; cases n <;> exact .nil
  | cons d r ih =>
    cases h with
    | cons a b =>
      cases n with
      | zero => exact .nil
      | succ n => exact .cons a (ih b n)
theorem DvAll.drop {vs : List V} {ds : List D} (h : DvAll g H vs ds) (n : Nat) : DvAll g H (vs.drop n) (ds.drop n) := by
  induction ds generalizing vs n with
  | nil => cases h; cases n <;> exact .nil
  | cons d r ih =>
    cases h with
    | cons a b =>
      cases n with
      | zero => exact .cons a b
      | succ n => exact ih b n
theorem DvAll.reverse {vs : List V} {ds : List D} (h : DvAll g H vs ds) : DvAll g H vs.reverse ds.reverse := by
  induction ds generalizing vs with
  | nil => cases h; exact .nil
  | cons d r ih =>
    cases h with
    | cons a b =>
      rw [List.reverse_cons, List.reverse_cons]
      exact (ih b).append (.cons a .nil)
theorem DvAll.set {vs : List V} {ds : List D} (h : DvAll g H vs ds) {v : V} {d : D} (k : Dv g H v d) (n : Nat) : DvAll g H (vs.set n v) (ds.set n d) := by
  induction ds generalizing vs n with
  | nil => cases h; cases n <;> exact .nil
  | cons e r ih =>
    cases h with
    | cons a b =>
      cases n with
      | zero => exact .cons k b
      | succ n => exact .cons a (ih b n)
theorem DvF.look {fs : List (Str × V)} {gs : List (Str × D)} (h : DvF g H fs gs) {f : Str} {d : D} (e : gs.lookup f = some d) : ∃ v, fs.lookup f = some v ∧ Dv g H v d := by
  induction gs generalizing fs with
  | nil => simp at e
  | cons p r ih =>
    cases h with
    | @cons f' v d' fs' _ a b =>
      unfold List.lookup at e ⊢
      cases q : f == f' with
      | true => rw [q] at e; cases e; exact ⟨v, rfl, a⟩
      | false => rw [q] at e; exact ih b e
end
/-! ### what may happen to the heap -/
/-- all but one address stays; tables may be written -/
def TBut (d : Addr) (H H' : Hp) : Prop := ∀ b o, b ≠ d → H b = some o → ∃ o', H' b = some o' ∧ ((∀ ps, o ≠ .tbl ps) → o' = o)
theorem TBut.refl (d : Addr) (H : Hp) : TBut d H H := fun _ o _ h => ⟨o, h, fun _ => rfl⟩
theorem TBut.trans {d : Addr} {H H1 H2 : Hp} (a : TBut d H H1) (b : TBut d H1 H2) : TBut d H H2 := fun c o n h => by
  obtain ⟨o1, h1, k1⟩ := a c o n h
  obtain ⟨o2, h2, k2⟩ := b c o1 n h1
  refine ⟨o2, h2, fun z => ?_⟩
  have := k1 z
  subst this
  exact k2 z
theorem TBut.of {d : Addr} {H H' : Hp} (a : Same H H') : TBut d H H' := fun b o _ h => ⟨o, a b o h, fun _ => rfl⟩
theorem TBut.ofB {d : Addr} {H H' : Hp} (a : SBut d H H') : TBut d H H' := fun b o n h => ⟨o, a b o n h, fun _ => rfl⟩
/-- no table is seen -/
def NoT (Hv : Hp) : Prop := ∀ b ps, Hv b ≠ some (.tbl ps)
theorem NoT.upd {Hv : Hp} (h : NoT Hv) {p : Addr} {o : HO} (no : ∀ ps, o ≠ .tbl ps) : NoT (L2.upd Hv p o) := fun b ps e => by
  by_cases hb : b = p
  · subst hb; rw [upd_same] at e; exact no ps (Option.some.inj e)
  · rw [upd_ne hb] at e; exact h b ps e
/-- H, its seen part Hv; then H', Hv': all but the pen is as it was, what was seen is seen, what was there unseen stays unseen -/
structure Ext (g : G) (H Hv H' Hv' : Hp) : Prop where
  but : TBut g.pd H H'
  see : Same Hv Hv'
  sub : Same Hv' H'
  hid : ∀ a, Hv a = none → H a ≠ none → Hv' a = none
  nt : NoT Hv → NoT Hv'
theorem Ext.refl {g : G} {H Hv : Hp} (s : Same Hv H) : Ext g H Hv H Hv := ⟨.refl _ _, .refl _, s, fun _ h _ => h, fun z => z⟩
theorem Ext.trans {g : G} {H Hv H1 Hv1 H2 Hv2 : Hp} (np : H g.pd ≠ none → H1 g.pd ≠ none) (a : Ext g H Hv H1 Hv1) (b : Ext g H1 Hv1 H2 Hv2) : Ext g H Hv H2 Hv2 := by
  refine ⟨a.but.trans b.but, a.see.trans b.see, b.sub, fun c h1 h2 => b.hid c (a.hid c h1 h2) fun z => ?_, fun z => b.nt (a.nt z)⟩
  by_cases e : c = g.pd
  · subst e; exact np h2 z
  · cases q : H c with
    | none => exact h2 q
    | some o =>
      obtain ⟨_, w, _⟩ := a.but c o e q
      rw [w] at z; cases z
theorem Ext.at {g : G} {H Hv H' Hv' : Hp} (e : Ext g H Hv H' Hv') {p : Addr} {o : HO} (n : p ≠ g.pd) (h : H p = some o) (t : ∀ ps, o ≠ .tbl ps) : H' p = some o := by
  obtain ⟨o', w, k⟩ := e.but p o n h
  rw [w, k t]
structure Pn (g : G) (H : Hp) (n : Nat) : Prop where
  pen : PenAt g.kn.key H g.pd g.pc n
  tab : LamX.Tabs g.kn.tb H
theorem Pn.pd {g : G} {H : Hp} {n : Nat} (p : Pn g H n) : H g.pd ≠ none := by
  obtain ⟨_, _, _, h, _⟩ := p.pen
  rw [h]; simp
theorem Pn.pc {g : G} {H : Hp} {n : Nat} (p : Pn g H n) : H g.pc ≠ none := by
  obtain ⟨_, _, _, _, h, _⟩ := p.pen
  rw [h]; simp
theorem Pn.mono {g : G} {H H' : Hp} {n n' : Nat} (p : Pn g H n) (s : Same H H') (h : n ≤ n') : Pn g H' n' := ⟨p.pen.mono s h, p.tab.ext s⟩
/-- neither a table nor what it tells -/
def NoTab (o : HO) : Prop := (∀ ps, o ≠ .tbl ps) ∧ ∀ f, o ≠ .ext f
theorem tabs_but {T : List (Addr × Str)} {H H' : Hp} {p : Addr} {o : HO} (t : LamX.Tabs T H) (hp : H p = some o) (no : NoTab o) (sb : ∀ b u, b ≠ p → H b = some u → H' b = some u) : LamX.Tabs T H' := fun q hq => by
  obtain ⟨ps, h1, h2, h3⟩ := t q hq
  refine ⟨ps, sb _ _ (fun z => ?_) h1, h2, fun pos cv hc => ?_⟩
  · rw [z, hp] at h1
    exact no.1 _ (Option.some.inj h1)
  · obtain ⟨c, e1, e2⟩ := h3 pos cv hc
    refine ⟨c, e1, sb _ _ (fun z => ?_) e2⟩
    rw [z, hp] at e2
    exact no.2 _ (Option.some.inj e2)
theorem Pn.upd {g : G} {H : Hp} {n n' : Nat} {p : Addr} {o u : HO} (q : Pn g H n) (np : p ≠ g.pd) (nc : p ≠ g.pc) (h : n ≤ n') (hp : H p = some o) (no : NoTab o := by constructor <;> (intro _ z; cases z)) : Pn g (L2.upd H p u) n' :=
  ⟨q.pen.upd np nc h, tabs_but q.tab hp no fun b w nb e => by rw [upd_ne nb]; exact e⟩
/-- a new object, seen from now on -/
theorem ext_new {g : G} {H Hv : Hp} {p : Addr} {o : HO} (s : Same Hv H) (h : H p = none) (no : ∀ ps, o ≠ .tbl ps := by intro _ z; cases z) : Ext g H Hv (upd H p o) (upd Hv p o) := by
  have hv : Hv p = none := by
    cases q : Hv p with
    | none => rfl
    | some u => rw [s _ _ q] at h; cases h
  refine ⟨.of (same_new h), same_new hv, fun b u e => ?_, fun a h1 h2 => ?_, fun z => z.upd no⟩
  · by_cases hb : b = p
    · subst hb; rw [upd_same] at e ⊢; exact e
    · rw [upd_ne hb] at e ⊢; exact s _ _ e
  · have : a ≠ p := fun z => h2 (by rw [z]; exact h)
    rw [upd_ne this]; exact h1
/-! ### slots -/
/-- a slot: shared data; a list that nobody else has; an object that is being made -/
inductive Sl where
  | sh (d : D) | ow (ds : List D) | sf (a : Addr) (c : Str) (fs : List (Str × D)) | od (ks : List (Key × D))
abbrev DS := List (Option Sl)
def SlOk (g : G) (H0 H Hv : Hp) : Option V → Sl → Prop
  | v, .sh d => ∃ u, v = some u ∧ Dv g Hv u d
  | v, .ow ds => ∃ p vs, v = some (.ref p) ∧ H p = some (.lst vs) ∧ Hv p = none ∧ H0 p = none ∧ DvAll g Hv vs ds
  | v, .sf p c fs => ∃ C dx vs, v = some (.ref p) ∧ H p = some (.ins C dx vs) ∧ Hv p = none ∧ H0 p = none ∧ g.mg c = some (.ref C) ∧ DvF g Hv vs fs
  | v, .od ks => ∃ p kvs, v = some (.ref p) ∧ H p = some (.dK kvs) ∧ Hv p = none ∧ H0 p = none ∧ DvK g Hv kvs ks
def Sl.own : Sl → Bool
  | .sh _ => false
  | _ => true
/-- the pen is not seen, nor a table -/
def Hd (pd : Addr) (Hv : Hp) : Prop := Hv pd = none ∧ NoT Hv
structure Rel (g : G) (H0 Hv0 : Hp) (σ : L2.St) (H Hv : Hp) (δ : DS) (n : Nat) : Prop where
  ext : Ext g H0 Hv0 H Hv
  pen : Pn g H n
  pd0 : H0 g.pd ≠ none
  pc0 : H0 g.pc ≠ none
  npd : Hd g.pd Hv
  len : δ.length = σ.length
  sl : ∀ (i : Nat) (s : Sl), δ[i]? = some (some s) → SlOk g H0 H Hv ((σ[i]?).join) s
  dist : ∀ (i j : Nat) (s t : Sl) (p : Addr), δ[i]? = some (some s) → δ[j]? = some (some t) → s.own = true → t.own = true → σ[i]? = some (some (.ref p)) → σ[j]? = some (some (.ref p)) → i = j
theorem SlOk.step {g : G} {H0 H Hv H' Hv' : Hp} {v : Option V} {s : Sl} (h : SlOk g H0 H Hv v s) (e : Ext g H Hv H' Hv') (pd0 : H0 g.pd ≠ none) : SlOk g H0 H' Hv' v s := by
  cases s with
  | sh d => obtain ⟨u, e1, e2⟩ := h; exact ⟨u, e1, e2.mono e.see⟩
  | ow ds =>
    obtain ⟨p, vs, e1, e2, e3, e4, e5⟩ := h
    have np : p ≠ g.pd := fun z => pd0 (by rw [← z]; exact e4)
    exact ⟨p, vs, e1, e.at np e2 (fun _ z => by cases z), e.hid _ e3 (by rw [e2]; simp), e4, e5.mono e.see⟩
  | sf p c fs =>
    obtain ⟨C, dx, vs, e1, e2, e3, e4, e6, e5⟩ := h
    have np : p ≠ g.pd := fun z => pd0 (by rw [← z]; exact e4)
    exact ⟨C, dx, vs, e1, e.at np e2 (fun _ z => by cases z), e.hid _ e3 (by rw [e2]; simp), e4, e6, e5.mono e.see⟩
  | od ks =>
    obtain ⟨p, vs, e1, e2, e3, e4, e5⟩ := h
    have np : p ≠ g.pd := fun z => pd0 (by rw [← z]; exact e4)
    exact ⟨p, vs, e1, e.at np e2 (fun _ z => by cases z), e.hid _ e3 (by rw [e2]; simp), e4, e5.mono e.see⟩
theorem Rel.step {g : G} {H0 Hv0 : Hp} {σ : L2.St} {H Hv H' Hv' : Hp} {δ : DS} {n n' : Nat} (r : Rel g H0 Hv0 σ H Hv δ n) (e : Ext g H Hv H' Hv') (p : Pn g H' n') : Rel g H0 Hv0 σ H' Hv' δ n' :=
  ⟨r.ext.trans (fun _ => r.pen.pd) e, p, r.pd0, r.pc0, ⟨e.hid _ r.npd.1 r.pen.pd, e.nt r.npd.2⟩, r.len, fun i s h => (r.sl i s h).step e r.pd0, r.dist⟩
theorem join_set {α : Type} {σ : List (Option α)} {i : Nat} {x : Option α} (h : i < σ.length) : ((σ.set i x)[i]?).join = x := by
  rw [List.getElem?_set_self h]; rfl
theorem Rel.sub {g : G} {H0 Hv0 : Hp} {σ : L2.St} {H Hv : Hp} {δ : DS} {n : Nat} (r : Rel g H0 Hv0 σ H Hv δ n) : Same Hv H := r.ext.sub
/-- a slot gets shared data -/
theorem Rel.set {g : G} {H0 Hv0 : Hp} {σ : L2.St} {H Hv : Hp} {δ : DS} {n i : Nat} {v : V} {d : D} (r : Rel g H0 Hv0 σ H Hv δ n) (h : Dv g Hv v d) : Rel g H0 Hv0 (σ.set i (some v)) H Hv (δ.set i (some (.sh d))) n := by
  refine ⟨r.ext, r.pen, r.pd0, r.pc0, r.npd, by rw [List.length_set, List.length_set, r.len], fun j s hj => ?_, fun j k s t p hj hk os ot sj sk => ?_⟩
  · by_cases e : i = j
    · subst e
      have hl : i < δ.length := by
        have := (List.getElem?_eq_some_iff.mp hj).1
        rwa [List.length_set] at this
      rw [List.getElem?_set_self hl] at hj
      cases hj
      rw [List.getElem?_set_self (by rw [← r.len]; exact hl)]
      exact ⟨v, rfl, h⟩
    · rw [List.getElem?_set_ne e] at hj ⊢
      exact r.sl j s hj
  · have nj : i ≠ j := fun e => by
      subst e
      have hl : i < δ.length := by
        have := (List.getElem?_eq_some_iff.mp hj).1
        rwa [List.length_set] at this
      rw [List.getElem?_set_self hl] at hj
      cases hj; cases os
    have nk : i ≠ k := fun e => by
      subst e
      have hl : i < δ.length := by
        have := (List.getElem?_eq_some_iff.mp hk).1
        rwa [List.length_set] at this
      rw [List.getElem?_set_self hl] at hk
      cases hk; cases ot
    rw [List.getElem?_set_ne nj] at hj sj
    rw [List.getElem?_set_ne nk] at hk sk
    exact r.dist j k s t p hj hk os ot sj sk
/-- a slot is forgotten -/
theorem Rel.wipe1 {g : G} {H0 Hv0 : Hp} {σ : L2.St} {H Hv : Hp} {δ : DS} {n i : Nat} {v : Option V} (r : Rel g H0 Hv0 σ H Hv δ n) : Rel g H0 Hv0 (σ.set i v) H Hv (δ.set i none) n := by
  have ne : ∀ {j : Nat} {s : Sl}, (δ.set i none)[j]? = some (some s) → i ≠ j := fun {j s} hj e => by
    subst e
    have hl : i < δ.length := by
      have := (List.getElem?_eq_some_iff.mp hj).1
      rwa [List.length_set] at this
    rw [List.getElem?_set_self hl] at hj
    cases hj
  refine ⟨r.ext, r.pen, r.pd0, r.pc0, r.npd, by rw [List.length_set, List.length_set, r.len], fun j s hj => ?_, fun j k s t p hj hk os ot sj sk => ?_⟩
  · have e := ne hj
    rw [List.getElem?_set_ne e] at hj ⊢
    exact r.sl j s hj
  · have nj := ne hj
    have nk := ne hk
    rw [List.getElem?_set_ne nj] at hj sj
    rw [List.getElem?_set_ne nk] at hk sk
    exact r.dist j k s t p hj hk os ot sj sk
/-- a slot becomes the only name of a new list -/
theorem Rel.setOw {g : G} {H0 Hv0 : Hp} {σ : L2.St} {H Hv : Hp} {δ : DS} {n i : Nat} {p : Addr} {vs : List V} {ds : List D} (r : Rel g H0 Hv0 σ H Hv δ n) (hp : H p = some (.lst vs)) (hv : Hv p = none) (h0 : H0 p = none) (h : DvAll g Hv vs ds)
    (fr : ∀ (j : Nat) (s : Sl), δ[j]? = some (some s) → s.own = true → σ[j]? ≠ some (some (.ref p))) : Rel g H0 Hv0 (σ.set i (some (.ref p))) H Hv (δ.set i (some (.ow ds))) n := by
  refine ⟨r.ext, r.pen, r.pd0, r.pc0, r.npd, by rw [List.length_set, List.length_set, r.len], fun j s hj => ?_, fun j k s t q hj hk os ot sj sk => ?_⟩
  · by_cases e : i = j
    · subst e
      have hl : i < δ.length := by
        have := (List.getElem?_eq_some_iff.mp hj).1
        rwa [List.length_set] at this
      rw [List.getElem?_set_self hl] at hj
      cases hj
      rw [List.getElem?_set_self (by rw [← r.len]; exact hl)]
      exact ⟨p, vs, rfl, hp, hv, h0, h⟩
    · rw [List.getElem?_set_ne e] at hj ⊢
      exact r.sl j s hj
  · by_cases ej : i = j
    · by_cases ek : i = k
      · rw [← ej, ← ek]
      · subst ej
        rw [List.getElem?_set_ne ek] at hk sk
        have hl : i < σ.length := by
          have := (List.getElem?_eq_some_iff.mp sj).1
          rwa [List.length_set] at this
        rw [List.getElem?_set_self hl] at sj
        cases sj
        exact absurd sk (fr k t hk ot)
    · rw [List.getElem?_set_ne ej] at hj sj
      by_cases ek : i = k
      · subst ek
        have hl : i < σ.length := by
          have := (List.getElem?_eq_some_iff.mp sk).1
          rwa [List.length_set] at this
        rw [List.getElem?_set_self hl] at sk
        cases sk
        exact absurd sj (fr j s hj os)
      · rw [List.getElem?_set_ne ek] at hk sk
        exact r.dist j k s t q hj hk os ot sj sk
/-- a slot becomes the only name of a new dict -/
theorem Rel.setOd {g : G} {H0 Hv0 : Hp} {σ : L2.St} {H Hv : Hp} {δ : DS} {n i : Nat} {p : Addr} {vs : List (Key × V)} {ds : List (Key × D)} (r : Rel g H0 Hv0 σ H Hv δ n) (hp : H p = some (.dK vs)) (hv : Hv p = none) (h0 : H0 p = none) (h : DvK g Hv vs ds)
    (fr : ∀ (j : Nat) (s : Sl), δ[j]? = some (some s) → s.own = true → σ[j]? ≠ some (some (.ref p))) : Rel g H0 Hv0 (σ.set i (some (.ref p))) H Hv (δ.set i (some (.od ds))) n := by
  refine ⟨r.ext, r.pen, r.pd0, r.pc0, r.npd, by rw [List.length_set, List.length_set, r.len], fun j s hj => ?_, fun j k s t q hj hk os ot sj sk => ?_⟩
  · by_cases e : i = j
    · subst e
      have hl : i < δ.length := by
        have := (List.getElem?_eq_some_iff.mp hj).1
        rwa [List.length_set] at this
      rw [List.getElem?_set_self hl] at hj
      cases hj
      rw [List.getElem?_set_self (by rw [← r.len]; exact hl)]
      exact ⟨p, vs, rfl, hp, hv, h0, h⟩
    · rw [List.getElem?_set_ne e] at hj ⊢
      exact r.sl j s hj
  · by_cases ej : i = j
    · by_cases ek : i = k
      · rw [← ej, ← ek]
      · subst ej
        rw [List.getElem?_set_ne ek] at hk sk
        have hl : i < σ.length := by
          have := (List.getElem?_eq_some_iff.mp sj).1
          rwa [List.length_set] at this
        rw [List.getElem?_set_self hl] at sj
        cases sj
        exact absurd sk (fr k t hk ot)
    · rw [List.getElem?_set_ne ej] at hj sj
      by_cases ek : i = k
      · subst ek
        have hl : i < σ.length := by
          have := (List.getElem?_eq_some_iff.mp sk).1
          rwa [List.length_set] at this
        rw [List.getElem?_set_self hl] at sk
        cases sk
        exact absurd sj (fr j s hj os)
      · rw [List.getElem?_set_ne ek] at hk sk
        exact r.dist j k s t q hj hk os ot sj sk
/-- the list of an owning slot becomes another one -/
theorem Rel.mut {g : G} {H0 Hv0 : Hp} {σ : L2.St} {H Hv : Hp} {δ : DS} {n i : Nat} {p : Addr} {ds es : List D} {ws : List V} (r : Rel g H0 Hv0 σ H Hv δ n) (hi : δ[i]? = some (some (.ow ds))) (hs : σ[i]? = some (some (.ref p))) (h : DvAll g Hv ws es) :
    Rel g H0 Hv0 σ (upd H p (.lst ws)) Hv (δ.set i (some (.ow es))) n := by
  obtain ⟨p', vs, e1, e2, e3, e4, e5⟩ := r.sl i _ hi
  rw [hs] at e1
  cases e1
  have np : p ≠ g.pd := fun z => r.pd0 (by rw [← z]; exact e4)
  have nc : p ≠ g.pc := fun z => r.pc0 (by rw [← z]; exact e4)
  have hl : i < δ.length := (List.getElem?_eq_some_iff.mp hi).1
  refine ⟨⟨fun b o hb e => ?_, r.ext.see, fun b o e => ?_, r.ext.hid, r.ext.nt⟩, r.pen.upd np nc (Nat.le_refl _) e2, r.pd0, r.pc0, r.npd, by rw [List.length_set, r.len], fun j s hj => ?_, fun j k s t q hj hk os ot sj sk => ?_⟩
  · have : b ≠ p := fun z => by rw [z, e4] at e; cases e
    obtain ⟨o', w1, w2⟩ := r.ext.but b o hb e
    exact ⟨o', (by rw [upd_ne this]; exact w1), w2⟩
  · have : b ≠ p := fun z => by rw [z, e3] at e; cases e
    rw [upd_ne this]; exact r.sub b o e
  · by_cases e : i = j
    · subst e
      rw [List.getElem?_set_self hl] at hj
      cases hj
      rw [hs]
      exact ⟨p, ws, rfl, upd_same, e3, e4, h⟩
    · rw [List.getElem?_set_ne e] at hj
      have old := r.sl j s hj
      cases s with
      | sh d => exact old
      | ow ds' =>
        obtain ⟨p2, vs2, f1, f2, f3, f4, f5⟩ := old
        have : p2 ≠ p := fun z => by
          subst z
          refine e (r.dist i j _ _ p2 hi hj rfl rfl hs ?_)
          cases q : σ[j]? with
          | none => rw [q] at f1; cases f1
          | some o => rw [q] at f1; exact congrArg some f1
        exact ⟨p2, vs2, f1, by rw [upd_ne this]; exact f2, f3, f4, f5⟩
      | sf p2 c fs =>
        obtain ⟨C, dx, vs2, f1, f2, f3, f4, f5⟩ := old
        have : p2 ≠ p := fun z => by rw [z, e2] at f2; cases f2
        exact ⟨C, dx, vs2, f1, by rw [upd_ne this]; exact f2, f3, f4, f5⟩
      | od ks' =>
        obtain ⟨p2, vs2, f1, f2, f3, f4, f5⟩ := old
        have : p2 ≠ p := fun z => by rw [z, e2] at f2; cases f2
        exact ⟨p2, vs2, f1, by rw [upd_ne this]; exact f2, f3, f4, f5⟩
  · have gen : ∀ {j : Nat} {s : Sl}, (δ.set i (some (.ow es)))[j]? = some (some s) → s.own = true → ∃ s', δ[j]? = some (some s') ∧ s'.own = true := fun {j s} hj os => by
      by_cases e : i = j
      · subst e; exact ⟨_, hi, rfl⟩
      · rw [List.getElem?_set_ne e] at hj; exact ⟨s, hj, os⟩
    obtain ⟨s', a1, a2⟩ := gen hj os
    obtain ⟨t', b1, b2⟩ := gen hk ot
    exact r.dist j k s' t' q a1 b1 a2 b2 sj sk
/-- the dict of an owning slot becomes another one -/
theorem Rel.mutD {g : G} {H0 Hv0 : Hp} {σ : L2.St} {H Hv : Hp} {δ : DS} {n i : Nat} {p : Addr} {ds es : List (Key × D)} {ws : List (Key × V)} (r : Rel g H0 Hv0 σ H Hv δ n) (hi : δ[i]? = some (some (.od ds))) (hs : σ[i]? = some (some (.ref p))) (h : DvK g Hv ws es) :
    Rel g H0 Hv0 σ (upd H p (.dK ws)) Hv (δ.set i (some (.od es))) n := by
  obtain ⟨p', vs, e1, e2, e3, e4, e5⟩ := r.sl i _ hi
  rw [hs] at e1
  cases e1
  have np : p ≠ g.pd := fun z => r.pd0 (by rw [← z]; exact e4)
  have nc : p ≠ g.pc := fun z => r.pc0 (by rw [← z]; exact e4)
  have hl : i < δ.length := (List.getElem?_eq_some_iff.mp hi).1
  refine ⟨⟨fun b o hb e => ?_, r.ext.see, fun b o e => ?_, r.ext.hid, r.ext.nt⟩, r.pen.upd np nc (Nat.le_refl _) e2, r.pd0, r.pc0, r.npd, by rw [List.length_set, r.len], fun j s hj => ?_, fun j k s t q hj hk os ot sj sk => ?_⟩
  · have : b ≠ p := fun z => by rw [z, e4] at e; cases e
    obtain ⟨o', w1, w2⟩ := r.ext.but b o hb e
    exact ⟨o', (by rw [upd_ne this]; exact w1), w2⟩
  · have : b ≠ p := fun z => by rw [z, e3] at e; cases e
    rw [upd_ne this]; exact r.sub b o e
  · by_cases e : i = j
    · subst e
      rw [List.getElem?_set_self hl] at hj
      cases hj
      rw [hs]
      exact ⟨p, ws, rfl, upd_same, e3, e4, h⟩
    · rw [List.getElem?_set_ne e] at hj
      have old := r.sl j s hj
      cases s with
      | sh d => exact old
      | ow ds' =>
        obtain ⟨p2, vs2, f1, f2, f3, f4, f5⟩ := old
        have : p2 ≠ p := fun z => by rw [z, e2] at f2; cases f2
        exact ⟨p2, vs2, f1, by rw [upd_ne this]; exact f2, f3, f4, f5⟩
      | sf p2 c fs =>
        obtain ⟨C, dx, vs2, f1, f2, f3, f4, f5⟩ := old
        have : p2 ≠ p := fun z => by rw [z, e2] at f2; cases f2
        exact ⟨C, dx, vs2, f1, by rw [upd_ne this]; exact f2, f3, f4, f5⟩
      | od ks' =>
        obtain ⟨p2, vs2, f1, f2, f3, f4, f5⟩ := old
        have : p2 ≠ p := fun z => by
          subst z
          refine e (r.dist i j _ _ p2 hi hj rfl rfl hs ?_)
          cases q : σ[j]? with
          | none => rw [q] at f1; cases f1
          | some o => rw [q] at f1; exact congrArg some f1
        exact ⟨p2, vs2, f1, by rw [upd_ne this]; exact f2, f3, f4, f5⟩
  · have gen : ∀ {j : Nat} {s : Sl}, (δ.set i (some (.od es)))[j]? = some (some s) → s.own = true → ∃ s', δ[j]? = some (some s') ∧ s'.own = true := fun {j s} hj os => by
      by_cases e : i = j
      · subst e; exact ⟨_, hi, rfl⟩
      · rw [List.getElem?_set_ne e] at hj; exact ⟨s, hj, os⟩
    obtain ⟨s', a1, a2⟩ := gen hj os
    obtain ⟨t', b1, b2⟩ := gen hk ot
    exact r.dist j k s' t' q a1 b1 a2 b2 sj sk
/-- an owning slot becomes shared: its list is seen from now on -/
theorem Rel.unown2 {g : G} {H0 Hv0 : Hp} {σ : L2.St} {H Hv : Hp} {δ : DS} {n i : Nat} {ds : List D} (r : Rel g H0 Hv0 σ H Hv δ n) (hi : δ[i]? = some (some (.ow ds))) : ∃ p vs, Hv p = none ∧ H p = some (.lst vs) ∧ Same Hv (upd Hv p (.lst vs)) ∧ Rel g H0 Hv0 σ H (upd Hv p (.lst vs)) (δ.set i (some (.sh (.lst ds)))) n := by
  obtain ⟨p, vs, e1, e2, e3, e4, e5⟩ := r.sl i _ hi
  have hs : σ[i]? = some (some (.ref p)) := by
    cases q : σ[i]? with
    | none => rw [q] at e1; cases e1
    | some o => rw [q] at e1; exact congrArg some e1
  have hl : i < δ.length := (List.getElem?_eq_some_iff.mp hi).1
  have sv : Same Hv (upd Hv p (.lst vs)) := same_new e3
  refine ⟨p, vs, e3, e2, sv, ⟨r.ext.but, r.ext.see.trans sv, fun b o e => ?_, fun a h1 h2 => ?_, fun z => (r.ext.nt z).upd (fun _ w => by cases w)⟩, r.pen, r.pd0, r.pc0, ⟨by rw [upd_ne (fun z => r.pd0 (by rw [z]; exact e4))]; exact r.npd.1, r.npd.2.upd (fun _ w => by cases w)⟩, by rw [List.length_set, r.len], fun j s hj => ?_, fun j k s t q hj hk os ot sj sk => ?_⟩
  · by_cases hb : b = p
    · subst hb; rw [upd_same] at e; cases e; exact e2
    · rw [upd_ne hb] at e; exact r.sub b o e
  · have : a ≠ p := fun z => h2 (by rw [z]; exact e4)
    rw [upd_ne this]; exact r.ext.hid a h1 h2
  · by_cases e : i = j
    · subst e
      rw [List.getElem?_set_self hl] at hj
      cases hj
      rw [hs]
      exact ⟨_, rfl, .lst upd_same (e5.mono sv)⟩
    · rw [List.getElem?_set_ne e] at hj
      have old := r.sl j s hj
      cases s with
      | sh d => obtain ⟨u, f1, f2⟩ := old; exact ⟨u, f1, f2.mono sv⟩
      | ow ds' =>
        obtain ⟨p2, vs2, f1, f2, f3, f4, f5⟩ := old
        have : p2 ≠ p := fun z => by
          subst z
          refine e (r.dist i j _ _ p2 hi hj rfl rfl hs ?_)
          cases q : σ[j]? with
          | none => rw [q] at f1; cases f1
          | some o => rw [q] at f1; exact congrArg some f1
        exact ⟨p2, vs2, f1, f2, by rw [upd_ne this]; exact f3, f4, f5.mono sv⟩
      | sf p2 c fs =>
        obtain ⟨C, dx, vs2, f1, f2, f3, f4, f6, f5⟩ := old
        have : p2 ≠ p := fun z => by rw [z, e2] at f2; cases f2
        exact ⟨C, dx, vs2, f1, f2, by rw [upd_ne this]; exact f3, f4, f6, f5.mono sv⟩
      | od ks' =>
        obtain ⟨p2, vs2, f1, f2, f3, f4, f5⟩ := old
        have : p2 ≠ p := fun z => by rw [z, e2] at f2; cases f2
        exact ⟨p2, vs2, f1, f2, by rw [upd_ne this]; exact f3, f4, f5.mono sv⟩
  · have ne : ∀ {j : Nat} {s : Sl}, (δ.set i (some (.sh (.lst ds))))[j]? = some (some s) → s.own = true → δ[j]? = some (some s) := fun {j s} hj os => by
      by_cases e : i = j
      · subst e
        rw [List.getElem?_set_self hl] at hj
        cases hj; cases os
      · rw [List.getElem?_set_ne e] at hj; exact hj
    exact r.dist j k s t q (ne hj os) (ne hk ot) os ot sj sk
/-- an owning slot's dict is seen from now on -/
theorem Rel.unownD {g : G} {H0 Hv0 : Hp} {σ : L2.St} {H Hv : Hp} {δ : DS} {n i : Nat} {ds : List (Key × D)} (r : Rel g H0 Hv0 σ H Hv δ n) (hi : δ[i]? = some (some (.od ds))) : ∃ p vs, H p = some (.dK vs) ∧ ∀ o : Obj, Same Hv (upd Hv p (.frz o (.dK vs))) ∧ Rel g H0 Hv0 σ (upd H p (.frz o (.dK vs))) (upd Hv p (.frz o (.dK vs))) (δ.set i (some (.sh (.dct ds)))) n := by
  obtain ⟨p, vs, e1, e2, e3, e4, e5⟩ := r.sl i _ hi
  have hs : σ[i]? = some (some (.ref p)) := by
    cases q : σ[i]? with
    | none => rw [q] at e1; cases e1
    | some o => rw [q] at e1; exact congrArg some e1
  have hl : i < δ.length := (List.getElem?_eq_some_iff.mp hi).1
  have np : p ≠ g.pd := fun z => r.pd0 (by rw [← z]; exact e4)
  have nc : p ≠ g.pc := fun z => r.pc0 (by rw [← z]; exact e4)
  refine ⟨p, vs, e2, fun o => ?_⟩
  have sv : Same Hv (upd Hv p (.frz o (.dK vs))) := same_new e3
  refine ⟨sv, ⟨fun b u hb e => ?_, r.ext.see.trans sv, fun b o e => ?_, fun a h1 h2 => ?_, fun z => (r.ext.nt z).upd (fun _ w => by cases w)⟩, r.pen.upd np nc (Nat.le_refl _) e2, r.pd0, r.pc0, ⟨by rw [upd_ne (fun z => r.pd0 (by rw [z]; exact e4))]; exact r.npd.1, r.npd.2.upd (fun _ w => by cases w)⟩, by rw [List.length_set, r.len], fun j s hj => ?_, fun j k s t q hj hk os ot sj sk => ?_⟩
  · have hb2 : b ≠ p := fun z => by rw [z, e4] at e; cases e
    obtain ⟨o', w1, w2⟩ := r.ext.but b u hb e
    exact ⟨o', (by rw [upd_ne hb2]; exact w1), w2⟩
  · by_cases hb : b = p
    · subst hb; rw [upd_same] at e ⊢; exact e
    · rw [upd_ne hb] at e ⊢; exact r.sub b _ e
  · have : a ≠ p := fun z => h2 (by rw [z]; exact e4)
    rw [upd_ne this]; exact r.ext.hid a h1 h2
  · by_cases e : i = j
    · subst e
      rw [List.getElem?_set_self hl] at hj
      cases hj
      rw [hs]
      exact ⟨_, rfl, .dct upd_same (e5.mono sv)⟩
    · rw [List.getElem?_set_ne e] at hj
      have old := r.sl j s hj
      cases s with
      | sh d => obtain ⟨u, f1, f2⟩ := old; exact ⟨u, f1, f2.mono sv⟩
      | ow ds' =>
        obtain ⟨p2, vs2, f1, f2, f3, f4, f5⟩ := old
        have : p2 ≠ p := fun z => by rw [z, e2] at f2; cases f2
        exact ⟨p2, vs2, f1, by rw [upd_ne this]; exact f2, by rw [upd_ne this]; exact f3, f4, f5.mono sv⟩
      | sf p2 c fs =>
        obtain ⟨C, dx, vs2, f1, f2, f3, f4, f6, f5⟩ := old
        have : p2 ≠ p := fun z => by rw [z, e2] at f2; cases f2
        exact ⟨C, dx, vs2, f1, by rw [upd_ne this]; exact f2, by rw [upd_ne this]; exact f3, f4, f6, f5.mono sv⟩
      | od ks' =>
        obtain ⟨p2, vs2, f1, f2, f3, f4, f5⟩ := old
        have : p2 ≠ p := fun z => by
          subst z
          refine e (r.dist i j _ _ p2 hi hj rfl rfl hs ?_)
          cases q : σ[j]? with
          | none => rw [q] at f1; cases f1
          | some o => rw [q] at f1; exact congrArg some f1
        exact ⟨p2, vs2, f1, by rw [upd_ne this]; exact f2, by rw [upd_ne this]; exact f3, f4, f5.mono sv⟩
  · have ne : ∀ {j : Nat} {s : Sl}, (δ.set i (some (.sh (.dct ds))))[j]? = some (some s) → s.own = true → δ[j]? = some (some s) := fun {j s} hj os => by
      by_cases e : i = j
      · subst e
        rw [List.getElem?_set_self hl] at hj
        cases hj; cases os
      · rw [List.getElem?_set_ne e] at hj; exact hj
    exact r.dist j k s t q (ne hj os) (ne hk ot) os ot sj sk
theorem Rel.unown {g : G} {H0 Hv0 : Hp} {σ : L2.St} {H Hv : Hp} {δ : DS} {n i : Nat} {ds : List D} (r : Rel g H0 Hv0 σ H Hv δ n) (hi : δ[i]? = some (some (.ow ds))) : ∃ Hv', Same Hv Hv' ∧ Rel g H0 Hv0 σ H Hv' (δ.set i (some (.sh (.lst ds)))) n :=
  let ⟨_, _, _, _, s, r'⟩ := r.unown2 hi
  ⟨_, s, r'⟩
end Dn

/-! Values as trees: expressions. -/
namespace Dn
open PySem PySem.Spec PyProof.Rows L2 Br
abbrev XD := Str → List (Str × D) → Nat → Prop
/-- a computation: the pen's count, what is wanted of the value, of an error -/
abbrev M (α : Type) := Nat → (α → Nat → Prop) → XD → Prop
abbrev DE := DS → M D
abbrev DA := DS → M (List D)
def dVar (i : Nat) : DE := fun δ n P _ => ∃ d, δ[i]? = some (some (.sh d)) ∧ P d n
def dC (d : D) : DE := fun _ n P _ => P d n
def dNil : DA := fun _ n P _ => P [] n
def dCons (a : DE) (r : DA) : DA := fun δ n P E => a δ n (fun x n1 => r δ n1 (fun xs n2 => P (x :: xs) n2) E) E
def dApp (f : List D → Option D) (a : DA) : DE := fun δ n P E => a δ n (fun xs n1 => ∃ d, f xs = some d ∧ P d n1) E
def dCall (U : List D → M D) (a : DA) : DE := fun δ n P E => a δ n (fun xs n1 => U xs n1 P E) E
def dAnd (a b : DE) : DE := fun δ n P E => a δ n (fun x n1 => ∃ c, x = .bl c ∧ if c = true then b δ n1 P E else P (.bl false) n1) E
def dOr (a b : DE) : DE := fun δ n P E => a δ n (fun x n1 => ∃ c, x = .bl c ∧ if c = true then P (.bl true) n1 else b δ n1 P E) E
def dIf (t a b : DE) : DE := fun δ n P E => t δ n (fun x n1 => ∃ c, x = .bl c ∧ if c = true then a δ n1 P E else b δ n1 P E) E
/-- a < b < c -/
def dChain (f f' : List D → Option D) (a b c : DE) : DE := fun δ n P E => a δ n (fun x n1 => b δ n1 (fun y n2 => ∃ k, f [x, y] = some (.bl k) ∧ if k = true then c δ n2 (fun z n3 => ∃ d, f' [y, z] = some d ∧ P d n3) E else P (.bl false) n2) E) E
/-! ### lifts -/
structure Zx where
  g : G
  H0 : Hp
  Hv0 : Hp
  W : WX
def ExcOk (g : G) (Hv : Hp) (c : Str) (fs : List (Str × D)) (cls : Value) (dd : Option Addr) : Prop := ∃ (C d : Addr) (gs : List (Str × V)), cls = .ref C ∧ g.mg c = some (.ref C) ∧ dd = some d ∧ Hv d = some (.xd gs) ∧ DvF g Hv gs fs
def QOk (g : G) (H Hv : Hp) (P : D → Nat → Prop) (Q : VK) : Prop := ∀ d v H' Hv' n', P d n' → Ext g H Hv H' Hv' → Pn g H' n' → Dv g Hv' v d → Q v H'
def AOk (g : G) (H Hv : Hp) (P : List D → Nat → Prop) (Q : List V → Hp → Prop) : Prop := ∀ d v H' Hv' n', P d n' → Ext g H Hv H' Hv' → Pn g H' n' → DvAll g Hv' v d → Q v H'
def EOk (g : G) (H Hv : Hp) (E : XD) (W : XK) : Prop := ∀ c fs n' cls dd H' Hv', E c fs n' → Ext g H Hv H' Hv' → Pn g H' n' → ExcOk g Hv' c fs cls dd → W cls dd H'
theorem EOk.step {g : G} {H Hv H1 Hv1 : Hp} {E : XD} {W : XK} {n : Nat} (h : EOk g H Hv E W) (e : Ext g H Hv H1 Hv1) (p : Pn g H1 n) : EOk g H1 Hv1 E W := fun c fs n' cls dd H' Hv' he e' p' x => h c fs n' cls dd H' Hv' he (e.trans (fun _ => p.pd) e') p' x
theorem QOk.step {g : G} {H Hv H1 Hv1 : Hp} {P : D → Nat → Prop} {Q : VK} {n : Nat} (h : QOk g H Hv P Q) (e : Ext g H Hv H1 Hv1) (p : Pn g H1 n) : QOk g H1 Hv1 P Q := fun d v H' Hv' n' hp e' p' x => h d v H' Hv' n' hp (e.trans (fun _ => p.pd) e') p' x
def lift (Z : Zx) (de : DE) : TE := fun σ H Q => ∃ δ Hv n P E, Rel Z.g Z.H0 Z.Hv0 σ H Hv δ n ∧ de δ n P E ∧ QOk Z.g H Hv P Q ∧ EOk Z.g H Hv E (fun c d H' => Z.W c d σ H')
def liftA (Z : Zx) (da : DA) : TA := fun σ H Q => ∃ δ Hv n P E, Rel Z.g Z.H0 Z.Hv0 σ H Hv δ n ∧ da δ n P E ∧ AOk Z.g H Hv P Q ∧ EOk Z.g H Hv E (fun c d H' => Z.W c d σ H')
/-- a test -/
def liftT (Z : Zx) (de : DE) : TT := fun σ H Q => lift Z de σ H fun x H1 => ∃ k, x = .bl k ∧ Q k H1
section
variable {X : Cx} {Z : Zx} {e a b c : Expr} {es : List Expr} {da db dc de : DE} {ra : DA} {pos : Pos}
theorem up {t t' : TE} (h : PE X e t) (k : ∀ σ H Q, t' σ H Q → t σ H Q) : PE X e t' := ⟨fun pins s σ H Q I q => h.run pins s σ H Q I (k σ H Q q)⟩
theorem upA {t t' : TA} (h : PA X es t) (k : ∀ σ H Q, t' σ H Q → t σ H Q) : PA X es t' := ⟨fun pos pins s σ H Q I q => h.run pos pins s σ H Q I (k σ H Q q)⟩
theorem upT {t t' : TT} (h : PT X e t) (k : ∀ σ H Q, t' σ H Q → t σ H Q) : PT X e t' := ⟨fun pins s σ H Q I q => h.run pins s σ H Q I (k σ H Q q)⟩
theorem slot_at {g : G} {H0 Hv0 : Hp} {σ : L2.St} {H Hv : Hp} {δ : DS} {n i : Nat} {d : D} (r : Rel g H0 Hv0 σ H Hv δ n) (h : δ[i]? = some (some (.sh d))) : ∃ v, σ[i]? = some (some v) ∧ Dv g Hv v d := by
  obtain ⟨u, e1, e2⟩ := r.sl i _ h
  cases q : σ[i]? with
  | none => rw [q] at e1; cases e1
  | some o => rw [q] at e1; exact ⟨u, congrArg some e1, e2⟩
theorem dv (i : Nat) {x : Str} (hN : X.N[i]? = some x := by rfl) (hv : Vis X.env.scope x := by first | exact Or.inl rfl | exact Or.inr (Or.inl rfl) | exact Or.inr (Or.inr rfl)) (hd : (x == ("__debug__" : Str)) = false := by decide)
    (hcd : (x == ("__classdict__" : Str)) = false := by decide) : PE X (.Name x pos) (lift Z (dVar i)) := up (pv i hN hv hd hcd) fun σ H Q h => by
  obtain ⟨δ, Hv, n, P, E, r, ⟨d, h1, h2⟩, q, _⟩ := h
  obtain ⟨v, e1, e2⟩ := slot_at r h1
  exact ⟨v, e1, q d v H Hv n h2 (.refl r.sub) r.pen e2⟩
theorem d_c {v : V} {d : D} (h : PE X e (tC v)) (k : ∀ Hv, Dv Z.g Hv v d) : PE X e (lift Z (dC d)) := up h fun σ H Q ⟨δ, Hv, n, P, E, r, h1, q, _⟩ => q d v H Hv n h1 (.refl r.sub) r.pen (k Hv)
theorem d_int {i : Int} {kk : Nat} : PE X (.Constant (.int i) kk pos) (lift Z (dC (.int i))) := d_c pe_int fun _ => .int i
theorem d_str {x : Str} {kk : Nat} : PE X (.Constant (.str x) kk pos) (lift Z (dC (.str x))) := d_c pe_str fun _ => .str x
theorem d_bl {x : Bool} {kk : Nat} : PE X (.Constant (.bool x) kk pos) (lift Z (dC (.bl x))) := d_c pe_bl fun _ => .bl x
theorem d_non {kk : Nat} : PE X (.Constant .none kk pos) (lift Z (dC .non)) := d_c pe_non fun _ => .non
theorem da_nil : PA X [] (liftA Z dNil) := upA pa_nil fun σ H Q ⟨δ, Hv, n, P, E, r, h1, q, _⟩ => q [] [] H Hv n h1 (.refl r.sub) r.pen .nil
theorem da_cons (ha : PE X e (lift Z de)) (hr : PA X es (liftA Z ra)) (hs : starEach (e :: es) X.env = (false, eval e X.env) :: starEach es X.env := by rfl) : PA X (e :: es) (liftA Z (dCons de ra)) :=
  upA (pa_cons ha hr hs) fun σ H Q ⟨δ, Hv, n, P, E, r, h1, q, x⟩ => ⟨δ, Hv, n, _, E, r, h1, fun d v H' Hv' n' h2 e p k =>
    ⟨δ, Hv', n', _, E, r.step e p, h2, fun ds vs H2 Hv2 n2 h3 e2 p2 k2 => q (d :: ds) (v :: vs) H2 Hv2 n2 h3 (e.trans (fun _ => p.pd) e2) p2 (.cons (k.mono e2.see) k2), x.step e p⟩, x⟩
/-- what an operation gives: nothing of the old is changed -/
def Gives (g : G) (H Hv : Hp) (d : D) (Q : VK) : Prop := ∀ v H' Hv', Ext g H Hv H' Hv' → Same H H' → Dv g Hv' v d → Q v H'
theorem Gives.here {g : G} {H Hv : Hp} {d : D} {Q : VK} {v : V} (h : Gives g H Hv d Q) (s : Same Hv H) (k : Dv g Hv v d) : Q v H := h v H Hv (.refl s) (.refl _) k
theorem Gives.lst {g : G} {H Hv : Hp} {ds : List D} {vs : List V} {Q : VK} {p : Addr} (h : Gives g H Hv (.lst ds) Q) (s : Same Hv H) (hp : H p = none) (k : DvAll g Hv vs ds) : Q (.ref p) (upd H p (.lst vs)) :=
  h _ _ _ (ext_new s hp) (same_new hp) (.lst upd_same (k.mono (ext_new (g := g) s hp).see))
theorem Gives.tup {g : G} {H Hv : Hp} {ds : List D} {vs : List V} {Q : VK} {p : Addr} (h : Gives g H Hv (.tup ds) Q) (s : Same Hv H) (hp : H p = none) (k : DvAll g Hv vs ds) : Q (.ref p) (upd H p (.tup vs)) :=
  h _ _ _ (ext_new s hp) (same_new hp) (.tup (.inl (.inl upd_same)) (k.mono (ext_new (g := g) s hp).see))
theorem Gives.dct {g : G} {H Hv : Hp} {ks : List (Key × D)} {kvs : List (Key × V)} {Q : VK} {p : Addr} {o : Obj} (h : Gives g H Hv (.dct ks) Q) (s : Same Hv H) (hp : H p = none) (k : DvK g Hv kvs ks) : Q (.ref p) (upd H p (.frz o (.dK kvs))) :=
  h _ _ _ (ext_new s hp) (same_new hp) (.dct upd_same (k.mono (ext_new (g := g) s hp).see))
theorem gives_of {g : G} {H Hv : Hp} {P : D → Nat → Prop} {Q : VK} {d : D} {n : Nat} (q : QOk g H Hv P Q) (p : Pn g H n) (h : P d n) : Gives g H Hv d Q := fun v H' Hv' e s k => q d v H' Hv' n h e (p.mono s (Nat.le_refl _)) k
def Op1 (g : G) (f : List D → Option D) (r : V → Hp → VK → Prop) : Prop := ∀ {H Hv : Hp} {x : V} {dx d : D} {Q : VK}, Same Hv H → Dv g Hv x dx → f [dx] = some d → Gives g H Hv d Q → r x H Q
def Op2 (g : G) (f : List D → Option D) (r : R2) : Prop := ∀ {H Hv : Hp} {x y : V} {dx dy d : D} {Q : VK}, Same Hv H → Dv g Hv x dx → Dv g Hv y dy → f [dx, dy] = some d → Gives g H Hv d Q → r x y H Q
def OpN (g : G) (f : List D → Option D) (r : List V → Hp → VK → Prop) : Prop := ∀ {H Hv : Hp} {xs : List V} {ds : List D} {d : D} {Q : VK}, Same Hv H → DvAll g Hv xs ds → f ds = some d → Gives g H Hv d Q → r xs H Q
theorem lift_op {f : List D → Option D} {r : R2} (o : Op2 Z.g f r) : ∀ σ H Q, lift Z (dApp f (dCons da (dCons db dNil))) σ H Q → tOp r (lift Z da) (lift Z db) σ H Q := fun σ H Q ⟨δ, Hv, n, P, E, rr, h1, q, x⟩ =>
  ⟨δ, Hv, n, _, E, rr, h1, fun d v H' Hv' n' h2 e p k => ⟨δ, Hv', n', _, E, rr.step e p, h2, fun d2 v2 H2 Hv2 n2 h3 e2 p2 k2 => by
    obtain ⟨z, hz, h3⟩ := h3
    exact o e2.sub (k.mono e2.see) k2 hz (gives_of (q.step (e.trans (fun _ => p.pd) e2) p2) p2 h3), x.step e p⟩, x⟩
theorem lift_un {f : List D → Option D} {r : V → Hp → VK → Prop} (o : Op1 Z.g f r) : ∀ σ H Q, lift Z (dApp f (dCons da dNil)) σ H Q → tUn r (lift Z da) σ H Q := fun σ H Q ⟨δ, Hv, n, P, E, rr, h1, q, x⟩ =>
  ⟨δ, Hv, n, _, E, rr, h1, fun d v H' Hv' n' h2 e p k => by
    obtain ⟨z, hz, h3⟩ := h2
    exact o e.sub k hz (gives_of (q.step e p) p h3), x⟩
theorem lift_cb {f : List D → Option D} {r : List V → Hp → VK → Prop} (o : OpN Z.g f r) : ∀ σ H Q, lift Z (dApp f ra) σ H Q → tCB r (liftA Z ra) σ H Q := fun σ H Q ⟨δ, Hv, n, P, E, rr, h1, q, x⟩ =>
  ⟨δ, Hv, n, _, E, rr, h1, fun d v H' Hv' n' h2 e p k => by
    obtain ⟨z, hz, h3⟩ := h2
    exact o e.sub k hz (gives_of (q.step e p) p h3), x⟩
/-! ### operations, each with its function of trees -/
def DOp (X : Cx) (g : G) (op : Value → Value → Sem Value) (f : List D → Option D) : Prop := ∃ r, OpR X op r ∧ Op2 g f r
def DIx (X : Cx) (g : G) (f : List D → Option D) : Prop := ∃ r, IxR X r ∧ Op2 g f r
def DUn (X : Cx) (g : G) (op : Value → Sem Value) (f : List D → Option D) : Prop := ∃ r, UnR X op r ∧ Op1 g f r
def DCl (X : Cx) (g : G) (v : Value) (f : List D → Option D) : Prop := ∃ r, CallR X v r ∧ OpN g f r
theorem d_bin {op : Operator} {f : List D → Option D} (o : DOp X Z.g (binaryOp op) f) (ha : PE X a (lift Z da)) (hb : PE X b (lift Z db)) : PE X (.BinOp a op b pos) (lift Z (dApp f (dCons da (dCons db dNil)))) := by
  obtain ⟨r, h1, h2⟩ := o
  exact up (pe_op h1 ha hb) (lift_op h2)
theorem d_cmp {op : CmpOp} {f : List D → Option D} (o : DOp X Z.g (compareOp op) f) (ha : PE X a (lift Z da)) (hb : PE X b (lift Z db)) (hm : behindInMarks op b = false) : PE X (.Compare a [op] [b] pos) (lift Z (dApp f (dCons da (dCons db dNil)))) := by
  obtain ⟨r, h1, h2⟩ := o
  exact up (pe_cmpR h1 ha hb hm) (lift_op h2)
theorem d_ix {f : List D → Option D} (o : DIx X Z.g f) (ha : PE X a (lift Z da)) (hb : PE X b (lift Z db)) (hs : PlainIx b) : PE X (.Subscript a b pos) (lift Z (dApp f (dCons da (dCons db dNil)))) := by
  obtain ⟨r, h1, h2⟩ := o
  exact up (pe_ix h1 ha hb hs) (lift_op h2)
theorem d_un {op : UnaryOp} {f : List D → Option D} (o : DUn X Z.g (unaryOp op) f) (ha : PE X a (lift Z da)) : PE X (.UnaryOp op a pos) (lift Z (dApp f (dCons da dNil))) := by
  obtain ⟨r, h1, h2⟩ := o
  exact up (pe_un h1 ha) (lift_un h2)
theorem d_callB {f : List D → Option D} {x : Str} {id : String} {p : Pos} (o : DCl X Z.g (.builtin id) f) (hg : Gl X x) (hm : X.mg x = none) (hv : bootBuiltins x = some (.builtin id)) (ha : PA X (e :: es) (liftA Z ra)) (hn : x ≠ "__name__" := by decide) (hdb : (x == ("__debug__" : Str)) = false := by decide)
    (he : starEach (e :: es) X.env = (false, eval e X.env) :: starEach es X.env := by rfl) (hpl : (backTo pos (starEach es X.env)).any (·.1) = false := by rfl) : PE X (.Call (.Name x p) (e :: es) [] pos) (lift Z (dApp f ra)) := by
  obtain ⟨r, h1, h2⟩ := o
  exact up (pe_callB h1 hg hm hv ha hn hdb he hpl) (lift_cb h2)
theorem d_callTy {f : List D → Option D} {x : Str} {T : String} {p : Pos} (o : DCl X Z.g (.type T) f) (hg : Gl X x) (hm : X.mg x = none) (hv : bootBuiltins x = some (.type T)) (ha : PA X (e :: es) (liftA Z ra)) (hn : x ≠ "__name__" := by decide) (hdb : (x == ("__debug__" : Str)) = false := by decide)
    (he : starEach (e :: es) X.env = (false, eval e X.env) :: starEach es X.env := by rfl) (hpl : (backTo pos (starEach es X.env)).any (·.1) = false := by rfl) : PE X (.Call (.Name x p) (e :: es) [] pos) (lift Z (dApp f ra)) := by
  obtain ⟨r, h1, h2⟩ := o
  exact up (pe_callTy h1 hg hm hv ha hn hdb he hpl) (lift_cb h2)
/-! ### displays, and, or, not, if -/
def gTupl : List D → Option D := fun ds => if ds.length ≤ sizeLine then some (.tup ds) else none
def gList : List D → Option D := fun ds => if ds.length ≤ sizeLine then some (.lst ds) else none
theorem d_tup {x1} (h : PA X es (liftA Z ra)) : PE X (.Tuple es x1 pos) (lift Z (dApp gTupl ra)) := up (pe_tup h) fun σ H Q ⟨δ, Hv, n, P, E, rr, h1, q, x⟩ =>
  ⟨δ, Hv, n, _, E, rr, h1, (fun d v H' Hv' n' h2 e p k => by
    obtain ⟨z, hz, h3⟩ := h2
    unfold gTupl at hz
    split at hz
    · rename_i hl
      cases hz
      exact ⟨by rw [k.len]; exact hl, fun a ha => (gives_of (q.step e p) p h3).tup e.sub ha k⟩
    · exact nomatch hz), x⟩
theorem d_lst (h : PA X es (liftA Z ra)) : PE X (.List es pos) (lift Z (dApp gList ra)) := up (pe_lst h) fun σ H Q ⟨δ, Hv, n, P, E, rr, h1, q, x⟩ =>
  ⟨δ, Hv, n, _, E, rr, h1, (fun d v H' Hv' n' h2 e p k => by
    obtain ⟨z, hz, h3⟩ := h2
    unfold gList at hz
    split at hz
    · rename_i hl
      cases hz
      exact ⟨by rw [k.len]; exact hl, fun a ha => (gives_of (q.step e p) p h3).lst e.sub ha k⟩
    · exact nomatch hz), x⟩
theorem d_one {op} (h : PE X a (lift Z da)) : PE X (.BoolOp op [a] pos) (lift Z da) := pe_one h
theorem dv_bl {g : G} {H : Hp} {v : V} {c : Bool} (h : Dv g H v (.bl c)) : v = .bl c := by cases h; rfl
theorem d_and {rest : List Expr} (ha : PE X a (lift Z da)) (hb : PE X (.BoolOp .And (b :: rest) pos) (lift Z db)) : PE X (.BoolOp .And (a :: b :: rest) pos) (lift Z (dAnd da db)) := up (pe_and ha hb) fun σ H Q ⟨δ, Hv, n, P, E, rr, h1, q, x⟩ =>
  ⟨δ, Hv, n, _, E, rr, h1, fun d v H' Hv' n' h2 e p k => by
    obtain ⟨c, rfl, h3⟩ := h2
    refine ⟨c, dv_bl k, ?_⟩
    cases c with
    | true => rw [if_pos rfl] at h3 ⊢; exact ⟨δ, Hv', n', P, E, rr.step e p, h3, q.step e p, x.step e p⟩
    | false => rw [if_neg Bool.false_ne_true] at h3 ⊢; exact q _ _ _ _ _ h3 e p (.bl false), x⟩
theorem d_or {rest : List Expr} (ha : PE X a (lift Z da)) (hb : PE X (.BoolOp .Or (b :: rest) pos) (lift Z db)) : PE X (.BoolOp .Or (a :: b :: rest) pos) (lift Z (dOr da db)) := up (pe_or ha hb) fun σ H Q ⟨δ, Hv, n, P, E, rr, h1, q, x⟩ =>
  ⟨δ, Hv, n, _, E, rr, h1, fun d v H' Hv' n' h2 e p k => by
    obtain ⟨c, rfl, h3⟩ := h2
    refine ⟨c, dv_bl k, ?_⟩
    cases c with
    | false => rw [if_neg Bool.false_ne_true] at h3 ⊢; exact ⟨δ, Hv', n', P, E, rr.step e p, h3, q.step e p, x.step e p⟩
    | true => rw [if_pos rfl] at h3 ⊢; exact q _ _ _ _ _ h3 e p (.bl true), x⟩
def gNot : List D → Option D
  | [.bl c] => some (.bl !c)
  | _ => none
theorem d_not (ha : PE X a (lift Z da)) : PE X (.UnaryOp .Not a pos) (lift Z (dApp gNot (dCons da dNil))) := up (pe_not ha) fun σ H Q ⟨δ, Hv, n, P, E, rr, h1, q, x⟩ =>
  ⟨δ, Hv, n, _, E, rr, h1, (fun d v H' Hv' n' h2 e p k => by
    obtain ⟨z, hz, h3⟩ := h2
    unfold gNot at hz
    split at hz
    · rename_i c hc
      cases hz
      cases hc
      exact ⟨c, dv_bl k, q _ _ _ _ _ h3 e p (.bl _)⟩
    · exact nomatch hz), x⟩
theorem dt_val (h : PE X e (lift Z de)) (he : ∀ whole, isTrue e X.env whole = (do let v ← whole; standAt e.pos; holding [v] (truthy v)) := by intro _; rfl) : PT X e (liftT Z de) := pt_val h he
theorem dt_cmp {op : CmpOp} {f : List D → Option D} (o : DOp X Z.g (compareOp op) f) (ha : PE X a (lift Z da)) (hb : PE X b (lift Z db)) (hm : behindInMarks op b = false) : PT X (.Compare a [op] [b] pos) (liftT Z (dApp f (dCons da (dCons db dNil)))) := by
  obtain ⟨r, h1, h2⟩ := o
  exact upT (pt_cmpR h1 ha hb hm) fun σ H Q h => lift_op h2 σ H _ h
theorem lift_chain {f f' : List D → Option D} {r r' : R2} (o : Op2 Z.g f r) (o' : Op2 Z.g f' r') : ∀ σ H Q, lift Z (dChain f f' da db dc) σ H Q → tChain r r' (lift Z da) (lift Z db) (lift Z dc) σ H Q := fun σ H Q ⟨δ, Hv, n, P, E, rr, h1, q, x⟩ =>
  ⟨δ, Hv, n, _, E, rr, h1, fun d v H1 Hv1 n1 h2 e1 p1 k1 => ⟨δ, Hv1, n1, _, E, rr.step e1 p1, h2, fun d2 v2 H2 Hv2 n2 h3 e2 p2 k2 => by
    obtain ⟨c, hc, h3⟩ := h3
    have e02 := e1.trans (fun _ => p1.pd) e2
    refine o e2.sub (k1.mono e2.see) k2 hc fun v3 H3 Hv3 e3 s3 k3 => ⟨c, dv_bl k3, ?_⟩
    have p3 : Pn Z.g H3 n2 := p2.mono s3 (Nat.le_refl _)
    have e03 := e02.trans (fun _ => p2.pd) e3
    cases c with
    | true =>
      rw [if_pos rfl] at h3 ⊢
      exact ⟨δ, Hv3, n2, _, E, rr.step e03 p3, h3, fun d4 v4 H4 Hv4 n4 h4 e4 p4 k4 => by
        obtain ⟨z, hz, h4⟩ := h4
        exact o' e4.sub (k2.mono (e3.see.trans e4.see)) k4 hz (gives_of (q.step (e03.trans (fun _ => p3.pd) e4) p4) p4 h4), x.step e03 p3⟩
    | false =>
      rw [if_neg Bool.false_ne_true] at h3 ⊢
      exact q _ _ _ _ _ h3 e03 p3 (.bl false), x.step e1 p1⟩, x⟩
theorem d_chain {op op' : CmpOp} {f f' : List D → Option D} (o : DOp X Z.g (compareOp op) f) (o' : DOp X Z.g (compareOp op') f') (ha : PE X a (lift Z da)) (hb : PE X b (lift Z db)) (hc : PE X c (lift Z dc))
    (hm : lastMarks [op, op'] [b, c] = false := by with_unfolding_all rfl) : PE X (.Compare a [op, op'] [b, c] pos) (lift Z (dChain f f' da db dc)) := by
  obtain ⟨r, h1, h2⟩ := o
  obtain ⟨r', h1', h2'⟩ := o'
  exact up (pe_chain h1 h1' ha hb hc hm) (lift_chain h2 h2')
theorem dt_chain {op op' : CmpOp} {f f' : List D → Option D} (o : DOp X Z.g (compareOp op) f) (o' : DOp X Z.g (compareOp op') f') (ha : PE X a (lift Z da)) (hb : PE X b (lift Z db)) (hc : PE X c (lift Z dc))
    (hm : lastMarks [op, op'] [b, c] = false := by with_unfolding_all rfl) : PT X (.Compare a [op, op'] [b, c] pos) (liftT Z (dChain f f' da db dc)) := by
  obtain ⟨r, h1, h2⟩ := o
  obtain ⟨r', h1', h2'⟩ := o'
  exact upT (pt_chain h1 h1' ha hb hc hm) fun σ H Q h => lift_chain h2 h2' σ H _ h
theorem dt_not (ha : PT X a (liftT Z da)) : PT X (.UnaryOp .Not a pos) (liftT Z (dApp gNot (dCons da dNil))) := upT (pt_not ha) fun σ H Q ⟨δ, Hv, n, P, E, rr, h1, q, x⟩ =>
  ⟨δ, Hv, n, _, E, rr, h1, (fun d v H' Hv' n' h2 e p k => by
    obtain ⟨z, hz, h3⟩ := h2
    unfold gNot at hz
    split at hz
    · rename_i c hc
      cases hz
      cases hc
      obtain ⟨c', ec, hq⟩ := q _ _ _ _ _ h3 e p (.bl _)
      cases ec
      exact ⟨c, dv_bl k, hq⟩
    · exact nomatch hz), x⟩
theorem d_ifExp (hc : PT X c (liftT Z dc)) (ha : PE X a (lift Z da)) (hb : PE X b (lift Z db)) : PE X (.IfExp c a b pos) (lift Z (dIf dc da db)) := up (pe_ifExp hc ha hb) fun σ H Q ⟨δ, Hv, n, P, E, rr, h1, q, x⟩ =>
  ⟨δ, Hv, n, _, E, rr, h1, fun d v H' Hv' n' h2 e p k => by
    obtain ⟨c, rfl, h3⟩ := h2
    refine ⟨c, dv_bl k, ?_⟩
    cases c with
    | true => rw [if_pos rfl] at h3 ⊢; exact ⟨δ, Hv', n', P, E, rr.step e p, h3, q.step e p, x.step e p⟩
    | false => rw [if_neg Bool.false_ne_true] at h3 ⊢; exact ⟨δ, Hv', n', P, E, rr.step e p, h3, q.step e p, x.step e p⟩, x⟩
end
end Dn

/-! Values as trees: statements, loops, comprehensions. -/
namespace Dn
open PySem PySem.Spec PyProof.Rows L2 Br
/-- what is wanted behind a statement -/
structure DEnds where
  nx : DS → Nat → Prop
  rt : Sl → Nat → Prop
  bk : DS → Nat → Prop
  ct : DS → Nat → Prop
  xe : DS → XD
abbrev DT := DEnds → DS → Nat → Prop
abbrev DO := DS → M Sl
def dNext : DT := fun F δ n => F.nx δ n
def dSeq (a b : DT) : DT := fun F δ n => a ⟨fun δ' n' => b F δ' n', F.rt, F.bk, F.ct, F.xe⟩ δ n
def dSet (i : Nat) (e : DE) : DT := fun F δ n => e δ n (fun d n' => F.nx (δ.set i (some (.sh d))) n') (F.xe δ)
def dSetO (i : Nat) (e : DO) : DT := fun F δ n => e δ n (fun s n' => F.nx (δ.set i (some s)) n') (F.xe δ)
def dPar (i j : Nat) (a b : DO) : DT := fun F δ n => a δ n (fun s n1 => b δ n1 (fun t n2 => F.nx ((δ.set i (some s)).set j (some t)) n2) (F.xe δ)) (F.xe δ)
def dRet (e : DE) : DT := fun F δ n => e δ n (fun d n' => F.rt (.sh d) n') (F.xe δ)
def dRetN : DT := fun F _ n => F.rt (.sh .non) n
/-- a wish for what is shared alone -/
def shP (P : D → Nat → Prop) : Sl → Nat → Prop
  | .sh d, n => P d n
  | _, _ => False
theorem shP_sh (P : D → Nat → Prop) (d : D) (n : Nat) : shP P (.sh d) n = P d n := rfl
/-- what a def may hand out -/
def Sl.out : Sl → Bool
  | .sf _ _ _ => false
  | _ => true
def dRetS (i : Nat) : DT := fun F δ n => ∃ s, δ[i]? = some (some s) ∧ s.out = true ∧ F.rt s n
def dRetO (e : DO) : DT := fun F δ n => e δ n F.rt (F.xe δ)
def dBrk : DT := fun F δ n => F.bk δ n
def dCnt : DT := fun F δ n => F.ct δ n
def dIfS (t : DE) (a b : DT) : DT := fun F δ n => t δ n (fun x n' => ∃ c, x = .bl c ∧ if c = true then a F δ n' else b F δ n') (F.xe δ)
def dExpr (e : DE) : DT := fun F δ n => e δ n (fun _ n' => F.nx δ n') (F.xe δ)
def dNever : DT := fun _ _ _ => False
def dWhile (t : DE) (b : DT) : DT := fun F δ n => ∃ W : Nat → DS → Nat → Prop, (∃ m, W m δ n) ∧ ∀ m δ n, W m δ n →
  t δ n (fun x n1 => ∃ c, x = .bl c ∧ if c = true then ∃ N : DS → Nat → Prop, (∀ δ' n', N δ' n' → ∃ m', m' < m ∧ W m' δ' n') ∧ b ⟨N, F.rt, F.nx, N, F.xe⟩ δ n1 else F.nx δ n1) (F.xe δ)
/-- x op= e -/
def dAug (i : Nat) (f : List D → Option D) (e : DE) : DT := fun F δ n => ∃ x, δ[i]? = some (some (.sh x)) ∧ e δ n (fun y n' => ∃ d, f [x, y] = some d ∧ F.nx (δ.set i (some (.sh d))) n') (F.xe δ)
/-- targets of a loop: a name, or a tuple of names -/
inductive Tg where
  | nm (i : Nat) | tp (is : List Nat)
def setAll : DS → List Nat → List D → DS
  | δ, i :: is, d :: ds => setAll (δ.set i (some (.sh d))) is ds
  | δ, _, _ => δ
def dTg : Tg → D → DS → Option DS
  | .nm i, d, δ => some (δ.set i (some (.sh d)))
  | .tp is, .tup ds, δ => if is.length = ds.length then some (setAll δ is ds) else none
  | .tp is, .lst ds, δ => if is.length = ds.length then some (setAll δ is ds) else none
  | _, _, _ => none
def forGo (tg : Tg) (b : DT) (F : DEnds) : List D → DS → Nat → Prop
  | [], δ, n => F.nx δ n
  | x :: xs, δ, n => ∃ δ', dTg tg x δ = some δ' ∧ b ⟨forGo tg b F xs, F.rt, F.nx, forGo tg b F xs, F.xe⟩ δ' n
def dIt (f : List D → Option (List D)) (a : DA) : DA := fun δ n P E => a δ n (fun xs n' => ∃ ys, f xs = some ys ∧ P ys n') E
def dFor (it : DA) (tg : Tg) (b : DT) : DT := fun F δ n => it δ n (fun xs n' => forGo tg b F xs δ n') (F.xe δ)
def wipeD (δ : DS) : List Nat → DS
  | [] => δ
  | v :: vs => (wipeD δ vs).set v none
def lcGo (tg : Tg) (t e : DE) (δ : DS) : List D → Nat → (List D → Nat → Prop) → Prop
  | [], n, P => P [] n
  | x :: xs, n, P => ∃ δ', dTg tg x δ = some δ' ∧ t δ' n (fun b n1 => ∃ c, b = .bl c ∧ if c = true then e δ' n1 (fun y n2 => lcGo tg t e δ xs n2 (fun ys n3 => P (y :: ys) n3)) (fun _ _ _ => False) else lcGo tg t e δ xs n1 P) (fun _ _ _ => False)
def dLc (it : DA) (tg : Tg) (t e : DE) (vs : List Nat) : DA := fun δ n P E => it δ n (fun xs n' => xs.length ≤ sizeLine ∧ lcGo tg t e (wipeD δ vs) xs n' P) E
/-- a new list as a value -/
def dNew (a : DA) : DE := fun δ n P E => a δ n (fun ys n' => P (.lst ys) n') E
def dOwn (a : DA) : DO := fun δ n P E => a δ n (fun ys n' => P (.ow ys) n') E
def dSh (a : DE) : DO := fun δ n P E => a δ n (fun d n' => P (.sh d) n') E
/-- an owning slot made a shared one -/
def frz (δ : DS) (i : Nat) : DS := match δ[i]? with
  | some (some (.ow ds)) => δ.set i (some (.sh (.lst ds)))
  | some (some (.od ks)) => δ.set i (some (.sh (.dct ks)))
  | _ => δ
/-- an owning slot's list lent out -/
def frzB (δ : DS) (i : Nat) : DS := match δ[i]? with
  | some (some (.ow ds)) => δ.set i (some (.sh (.lst ds)))
  | _ => δ
def dUn (i : Nat) (t : DT) : DT := fun F δ n => t F (frz δ i) n
def D.flat : D → Bool
  | .non => true
  | .bl _ => true
  | .int _ => true
  | .str _ => true
  | _ => false
def dBor (i : Nat) (e : DE) : DE := fun δ n P E => e (frzB δ i) n (fun d n' => d.flat = true ∧ P d n') (fun _ _ _ => False)
/-! ### lifts -/
def XOk (Z : Zx) (Hv : Hp) (xe : DS → XD) : Prop := ∀ δ' σ' H' Hv' n' c fs cls dd, xe δ' c fs n' → Same Hv Hv' → Rel Z.g Z.H0 Z.Hv0 σ' H' Hv' δ' n' → ExcOk Z.g Hv' c fs cls dd → Z.W cls dd σ' H'
def NOk (Z : Zx) (Hv : Hp) (N : DS → Nat → Prop) (nx : L2.St → Hp → Prop) : Prop := ∀ δ' n' σ' H' Hv', N δ' n' → Same Hv Hv' → Rel Z.g Z.H0 Z.Hv0 σ' H' Hv' δ' n' → nx σ' H'
def SOk (g : G) (H H' Hv' : Hp) : V → Sl → Prop
  | v, .sh d => Dv g Hv' v d
  | v, .ow ds => ∃ p vs, v = .ref p ∧ H p = none ∧ H' p = some (.lst vs) ∧ Hv' p = none ∧ DvAll g Hv' vs ds
  | _, .sf _ _ _ => False
  | v, .od ks => ∃ p vs, v = .ref p ∧ H p = none ∧ H' p = some (.dK vs) ∧ Hv' p = none ∧ DvK g Hv' vs ks
def ROk (Z : Zx) (R : Sl → Nat → Prop) (rt : VK) : Prop := ∀ s v H' Hv' n', R s n' → Ext Z.g Z.H0 Z.Hv0 H' Hv' → Pn Z.g H' n' → SOk Z.g Z.H0 H' Hv' v s → rt v H'
def liftS (Z : Zx) (t : DT) : TS := fun D σ H => ∃ δ Hv n F, Rel Z.g Z.H0 Z.Hv0 σ H Hv δ n ∧ t F δ n ∧ NOk Z Hv F.nx D.nx ∧ ROk Z F.rt D.rt ∧ NOk Z Hv F.bk D.bk ∧ NOk Z Hv F.ct D.ct ∧ XOk Z Hv F.xe
theorem NOk.see {Z : Zx} {Hv Hv' : Hp} {N : DS → Nat → Prop} {nx : L2.St → Hp → Prop} (h : NOk Z Hv N nx) (s : Same Hv Hv') : NOk Z Hv' N nx := fun δ' n' σ' H' Hv2 a b c => h δ' n' σ' H' Hv2 a (s.trans b) c
theorem XOk.see {Z : Zx} {Hv Hv' : Hp} {xe : DS → XD} (h : XOk Z Hv xe) (s : Same Hv Hv') : XOk Z Hv' xe := fun δ' σ' H' Hv2 n' c fs cls dd a b r x => h δ' σ' H' Hv2 n' c fs cls dd a (s.trans b) r x
theorem XOk.e {Z : Zx} {H Hv : Hp} {xe : DS → XD} {σ : L2.St} {δ : DS} {n : Nat} (h : XOk Z Hv xe) (r : Rel Z.g Z.H0 Z.Hv0 σ H Hv δ n) : EOk Z.g H Hv (xe δ) (fun c d H' => Z.W c d σ H') := fun c fs n' cls dd H' Hv' a e p x => h δ σ H' Hv' n' c fs cls dd a e.see (r.step e p) x
def liftO (Z : Zx) (o : DO) : TE := fun σ H Q => ∃ δ Hv n P E, Rel Z.g Z.H0 Z.Hv0 σ H Hv δ n ∧ o δ n P E ∧ (∀ s v H' Hv' n', P s n' → Ext Z.g H Hv H' Hv' → Pn Z.g H' n' → SOk Z.g H H' Hv' v s → Q v H') ∧ EOk Z.g H Hv E (fun c d H' => Z.W c d σ H')
theorem upS {X : Cx} {st : Stmt} {t t' : TS} (h : PS X st t) (k : ∀ D σ H, t' D σ H → t D σ H) : PS X st t' := ⟨fun pins s σ H D I q => h.run pins s σ H D I (k D σ H q)⟩
theorem upSs {X : Cx} {st : List Stmt} {t t' : TS} (h : PSs X st t) (k : ∀ D σ H, t' D σ H → t D σ H) : PSs X st t' := ⟨fun pins s σ H D I q => h.run pins s σ H D I (k D σ H q)⟩
theorem upI {X : Cx} {tg it : Expr} {t t' : TI} (h : PI X tg it t) (k : ∀ σ H R, t' σ H R → t σ H R) : PI X tg it t' := ⟨fun pins s σ H R I q => h.run pins s σ H R I (k σ H R q)⟩
theorem Rel.fresh {g : G} {H0 Hv0 : Hp} {σ : L2.St} {H Hv : Hp} {δ : DS} {n : Nat} (r : Rel g H0 Hv0 σ H Hv δ n) {p : Addr} (hp : H p = none) (j : Nat) (s : Sl) (hj : δ[j]? = some (some s)) (os : s.own = true) : σ[j]? ≠ some (some (.ref p)) := fun e => by
  have h := r.sl j s hj
  rw [e] at h
  cases s with
  | sh d => cases os
  | ow ds =>
    obtain ⟨q, vs, e1, e2, _⟩ := h
    cases e1
    rw [hp] at e2; cases e2
  | sf q c fs =>
    obtain ⟨C, dx, vs, e1, e2, _⟩ := h
    cases e1
    rw [hp] at e2; cases e2
  | od ks =>
    obtain ⟨q, vs, e1, e2, _⟩ := h
    cases e1
    rw [hp] at e2; cases e2
theorem Rel.h0 {g : G} {H0 Hv0 : Hp} {σ : L2.St} {H Hv : Hp} {δ : DS} {n : Nat} (r : Rel g H0 Hv0 σ H Hv δ n) {p : Addr} (hp : H p = none) : H0 p = none := by
  cases q : H0 p with
  | none => rfl
  | some o =>
    by_cases e : p = g.pd
    · subst e; exact absurd hp r.pen.pd
    · obtain ⟨_, w, _⟩ := r.ext.but _ _ e q
      rw [w] at hp; cases hp
/-- a slot gets what an expression has made -/
theorem Rel.setS {g : G} {H0 Hv0 : Hp} {σ : L2.St} {H Hv H' Hv' : Hp} {δ : DS} {n n' i : Nat} {v : V} {s : Sl} (r : Rel g H0 Hv0 σ H Hv δ n) (r' : Rel g H0 Hv0 σ H' Hv' δ n') (h : SOk g H H' Hv' v s) : Rel g H0 Hv0 (σ.set i (some v)) H' Hv' (δ.set i (some s)) n' := by
  cases s with
  | sh d => exact r'.set h
  | ow ds =>
    obtain ⟨p, vs, rfl, h1, h2, h3, h4⟩ := h
    exact r'.setOw h2 h3 (r.h0 h1) h4 fun j s hj os => r.fresh h1 j s hj os
  | sf q c fs => exact h.elim
  | od ks =>
    obtain ⟨p, vs, rfl, h1, h2, h3, h4⟩ := h
    exact r'.setOd h2 h3 (r.h0 h1) h4 fun j s hj os => r.fresh h1 j s hj os
theorem SOk.step {g : G} {H H1 Hv1 H2 Hv2 : Hp} {v : V} {s : Sl} {n : Nat} (h : SOk g H H1 Hv1 v s) (e : Ext g H1 Hv1 H2 Hv2) (p : Pn g H n) : SOk g H H2 Hv2 v s := by
  cases s with
  | sh d => exact Dv.mono e.see h
  | ow ds =>
    obtain ⟨q, vs, rfl, h1, h2, h3, h4⟩ := h
    have nq : q ≠ g.pd := fun z => p.pd (by rw [← z]; exact h1)
    exact ⟨q, vs, rfl, h1, e.at nq h2 (fun _ z => by cases z), e.hid _ h3 (by rw [h2]; simp), h4.mono e.see⟩
  | sf q c fs => exact h.elim
  | od ks =>
    obtain ⟨q, vs, rfl, h1, h2, h3, h4⟩ := h
    have nq : q ≠ g.pd := fun z => p.pd (by rw [← z]; exact h1)
    exact ⟨q, vs, rfl, h1, e.at nq h2 (fun _ z => by cases z), e.hid _ h3 (by rw [h2]; simp), h4.mono e.see⟩
section
variable {X : Cx} {Z : Zx} {e a b c : Expr} {es : List Expr} {da db dc de : DE} {oa ob : DO} {ra it : DA} {pos : Pos} {st : Stmt} {sts : List Stmt} {t u : DT}
theorem ds_nil : PSs X [] (liftS Z dNext) := upSs pss_nil fun D σ H ⟨δ, Hv, n, F, r, h, k, _⟩ => k δ n σ H Hv h (.refl _) r
theorem ds_cons (h1 : PS X st (liftS Z t)) (h2 : PSs X sts (liftS Z u)) : PSs X (st :: sts) (liftS Z (dSeq t u)) := upSs (pss_cons h1 h2) fun D σ H ⟨δ, Hv, n, F, r, h, k1, k2, k3, k4, k5⟩ =>
  ⟨δ, Hv, n, _, r, h, fun δ' n' σ' H' Hv' h' s r' => ⟨δ', Hv', n', F, r', h', k1.see s, k2, k3.see s, k4.see s, k5.see s⟩, k2, k3, k4, k5⟩
theorem ds_one (h1 : PS X st (liftS Z t)) : PSs X [st] (liftS Z t) := pss_one h1
theorem ds_set {i : Nat} {x : Str} {pos' : Pos} (hN : X.N.Nodup) (hi : X.N[i]? = some x) (hx : Loc X.env.scope x) (he : PE X e (lift Z de)) (hs : swapsWith e (some (.Name x pos')) pos.line X.env = pure false := by rfl) (hf : X.fn x = true ∨ X.env.scope.names.lookup x = some .local := by first | exact .inl rfl | exact .inr rfl | assumption) :
    PS X (.Assign [.Name x pos'] e pos) (liftS Z (dSet i de)) := upS (ps_set hN hi hx he hs hf) fun D σ H ⟨δ, Hv, n, F, r, h, k1, k2, k3, k4, k5⟩ =>
  ⟨δ, Hv, n, _, _, r, h, fun d v H' Hv' n' h' e p k => k1 _ _ _ _ _ h' e.see ((r.step e p).set k), k5.e r⟩
theorem ds_setO {i : Nat} {x : Str} {pos' : Pos} (hN : X.N.Nodup) (hi : X.N[i]? = some x) (hx : Loc X.env.scope x) (he : PE X e (liftO Z oa)) (hs : swapsWith e (some (.Name x pos')) pos.line X.env = pure false := by rfl) (hf : X.fn x = true ∨ X.env.scope.names.lookup x = some .local := by first | exact .inl rfl | exact .inr rfl | assumption) :
    PS X (.Assign [.Name x pos'] e pos) (liftS Z (dSetO i oa)) := upS (ps_set hN hi hx he hs hf) fun D σ H ⟨δ, Hv, n, F, r, h, k1, k2, k3, k4, k5⟩ =>
  ⟨δ, Hv, n, _, _, r, h, fun d v H' Hv' n' h' e p k => k1 _ _ _ _ _ h' e.see (r.setS (r.step e p) k), k5.e r⟩
theorem o_sh (h : PE X e (lift Z de)) : PE X e (liftO Z (dSh de)) := up h fun σ H Q ⟨δ, Hv, n, P, E, r, h1, q, x⟩ => ⟨δ, Hv, n, _, E, r, h1, fun d v H' Hv' n' h2 e p k => q _ v H' Hv' n' h2 e p k, x⟩
theorem ds_par {i j : Nat} {x y : Str} {px py pt : Pos} {kt k2 pt2} (hc : X.calm = true) (hN : X.N.Nodup) (hi : X.N[i]? = some x) (hj : X.N[j]? = some y) (hij : i ≠ j)
    (hx : X.env.scope.names.lookup x = some .local) (hy : X.env.scope.names.lookup y = some .local) (ha : PE X a (liftO Z oa)) (hb : PE X b (liftO Z ob))
    (hw : swappedStores [.Tuple [.Name x px, .Name y py] kt pt] (.Tuple [a, b] k2 pt2) X.env = pure (some [x, y]))
    (hs : swapsWithSole [.Tuple [.Name x px, .Name y py] kt pt] (.Tuple [a, b] k2 pt2) pos.line X.env = pure false := by rfl)
    (h1 : starEach [a, b] X.env = (false, eval a X.env) :: starEach [b] X.env := by rfl) (h2 : starEach [b] X.env = (false, eval b X.env) :: starEach [] X.env := by rfl) :
    PS X (.Assign [.Tuple [.Name x px, .Name y py] kt pt] (.Tuple [a, b] k2 pt2) pos) (liftS Z (dPar i j oa ob)) := upS (ps_par hc hN hi hj hij hx hy (pa_cons ha (pa_cons hb pa_nil h2) h1) hw hs) fun D σ H ⟨δ, Hv, n, F, r, h, k1, k2, k3, k4, k5⟩ =>
  ⟨δ, Hv, n, _, _, r, h, fun s v H1 Hv1 n1 h' e1 p1 q1 => ⟨δ, Hv1, n1, _, _, r.step e1 p1, h', fun s2 v2 H2 Hv2 n2 h2 e2 p2 q2 => ⟨v, v2, rfl, by
    have r1 := r.step e1 p1
    have r2 := r1.step e2 p2
    refine k1 _ _ _ _ _ h2 (e1.see.trans e2.see) ?_
    have q1' := q1.step e2 r.pen
    have ra := r.setS (i := i) r2 q1'
    cases s2 with
    | sh d => exact ra.set q2
    | ow ds =>
      obtain ⟨p, vs, rfl, a1, a2, a3, a4⟩ := q2
      refine ra.setOw a2 a3 (r1.h0 a1) a4 fun k s' hk os => ?_
      by_cases ek : i = k
      · subst ek
        have hl : i < δ.length := by
          have := (List.getElem?_eq_some_iff.mp hk).1
          rwa [List.length_set] at this
        rw [List.getElem?_set_self hl] at hk
        cases hk
        rw [List.getElem?_set_self (by rw [← r.len]; exact hl)]
        cases s with
        | sh d => cases os
        | ow ds' =>
          obtain ⟨p', vs', rfl, b1, b2, b3, b4⟩ := q1
          intro z
          cases z
          rw [a1] at b2; cases b2
        | sf q c fs => exact q1.elim
        | od ds' =>
          obtain ⟨p', vs', rfl, b1, b2, b3, b4⟩ := q1
          intro z
          cases z
          rw [a1] at b2; cases b2
      · rw [List.getElem?_set_ne ek] at hk ⊢
        exact r1.fresh a1 k s' hk os
    | sf q c fs => exact q2.elim
    | od ds =>
      obtain ⟨p, vs, rfl, a1, a2, a3, a4⟩ := q2
      refine ra.setOd a2 a3 (r1.h0 a1) a4 fun k s' hk os => ?_
      by_cases ek : i = k
      · subst ek
        have hl : i < δ.length := by
          have := (List.getElem?_eq_some_iff.mp hk).1
          rwa [List.length_set] at this
        rw [List.getElem?_set_self hl] at hk
        cases hk
        rw [List.getElem?_set_self (by rw [← r.len]; exact hl)]
        cases s with
        | sh d => cases os
        | ow ds' =>
          obtain ⟨p', vs', rfl, b1, b2, b3, b4⟩ := q1
          intro z
          cases z
          rw [a1] at b2; cases b2
        | sf q c fs => exact q1.elim
        | od ds' =>
          obtain ⟨p', vs', rfl, b1, b2, b3, b4⟩ := q1
          intro z
          cases z
          rw [a1] at b2; cases b2
      · rw [List.getElem?_set_ne ek] at hk ⊢
        exact r1.fresh a1 k s' hk os⟩, (k5.see e1.see).e (r.step e1 p1)⟩, k5.e r⟩
theorem ds_ret (he : PE X e (lift Z de)) : PS X (.Return (some e) pos) (liftS Z (dRet de)) := upS (ps_ret he) fun D σ H ⟨δ, Hv, n, F, r, h, k1, k2, k3, k4, k5⟩ =>
  ⟨δ, Hv, n, _, _, r, h, fun d v H' Hv' n' h' e p k => k2 (.sh d) v H' Hv' n' h' (r.ext.trans (fun _ => r.pen.pd) e) p k, k5.e r⟩
theorem ds_retN : PS X (.Return none pos) (liftS Z dRetN) := upS ps_retN fun D σ H ⟨δ, Hv, n, F, r, h, k1, k2, k3, k4, k5⟩ => k2 (.sh .non) .non H Hv n h r.ext r.pen Dv.non
/-- what is fresh for the expression is fresh for the def -/
theorem SOk.h0 {g : G} {H0 Hv0 H Hv H' Hv' : Hp} {σ : L2.St} {δ : DS} {n : Nat} {v : V} {s : Sl} (r : Rel g H0 Hv0 σ H Hv δ n) (h : SOk g H H' Hv' v s) : SOk g H0 H' Hv' v s := by
  cases s with
  | sh d => exact h
  | ow ds =>
    obtain ⟨q, vs, rfl, h1, h2, h3, h4⟩ := h
    exact ⟨q, vs, rfl, r.h0 h1, h2, h3, h4⟩
  | sf q c fs => exact h.elim
  | od ks =>
    obtain ⟨q, vs, rfl, h1, h2, h3, h4⟩ := h
    exact ⟨q, vs, rfl, r.h0 h1, h2, h3, h4⟩
theorem ds_retO (he : PE X e (liftO Z oa)) : PS X (.Return (some e) pos) (liftS Z (dRetO oa)) := upS (ps_ret he) fun D σ H ⟨δ, Hv, n, F, r, h, k1, k2, k3, k4, k5⟩ =>
  ⟨δ, Hv, n, _, _, r, h, fun s v H' Hv' n' h' e p k => k2 s v H' Hv' n' h' (r.ext.trans (fun _ => r.pen.pd) e) p (k.h0 r), k5.e r⟩
theorem ds_retS (i : Nat) {x : Str} {pos' : Pos} (hN : X.N[i]? = some x := by rfl) (hv : Vis X.env.scope x := by first | exact Or.inl rfl | exact Or.inr (Or.inl rfl) | exact Or.inr (Or.inr rfl)) (hd : (x == ("__debug__" : Str)) = false := by decide)
    (hcd : (x == ("__classdict__" : Str)) = false := by decide) : PS X (.Return (some (.Name x pos')) pos) (liftS Z (dRetS i)) := upS (ps_ret (pv i hN hv hd hcd)) fun D σ H ⟨δ, Hv, n, F, r, ⟨s, hs, ho, h⟩, k1, k2, k3, k4, k5⟩ => by
  have sl := r.sl i s hs
  have at_i : ∀ {u : V}, (σ[i]?).join = some u → σ[i]? = some (some u) := fun {u} z => by
    cases q : σ[i]? with
    | none => rw [q] at z; cases z
    | some o => rw [q] at z; exact congrArg some z
  cases s with
  | sh d =>
    obtain ⟨u, e1, e2⟩ := sl
    exact ⟨u, at_i e1, k2 _ _ H Hv n h r.ext r.pen e2⟩
  | ow ds =>
    obtain ⟨p, vs, e1, e2, e3, e4, e5⟩ := sl
    exact ⟨_, at_i e1, k2 _ _ H Hv n h r.ext r.pen ⟨p, vs, rfl, e4, e2, e3, e5⟩⟩
  | sf q c fs => cases ho
  | od ks =>
    obtain ⟨p, vs, e1, e2, e3, e4, e5⟩ := sl
    exact ⟨_, at_i e1, k2 _ _ H Hv n h r.ext r.pen ⟨p, vs, rfl, e4, e2, e3, e5⟩⟩
theorem ds_if {x y : List Stmt} (hc : PT X c (liftT Z dc)) (ha : PSs X x (liftS Z t)) (hb : PSs X y (liftS Z u)) : PS X (.If c x y pos) (liftS Z (dIfS dc t u)) := upS (ps_if hc ha hb) fun D σ H ⟨δ, Hv, n, F, r, h, k1, k2, k3, k4, k5⟩ =>
  ⟨δ, Hv, n, _, _, r, h, (fun d v H' Hv' n' h' e p k => by
    obtain ⟨c, rfl, h3⟩ := h'
    refine ⟨c, dv_bl k, ?_⟩
    cases c with
    | true => rw [if_pos rfl] at h3 ⊢; exact ⟨δ, Hv', n', F, r.step e p, h3, k1.see e.see, k2, k3.see e.see, k4.see e.see, k5.see e.see⟩
    | false => rw [if_neg Bool.false_ne_true] at h3 ⊢; exact ⟨δ, Hv', n', F, r.step e p, h3, k1.see e.see, k2, k3.see e.see, k4.see e.see, k5.see e.see⟩), k5.e r⟩
theorem ds_expr (he : PE X e (lift Z de)) (hs : swapsWith e none pos.line X.env = pure false := by rfl) : PS X (.Expr e pos) (liftS Z (dExpr de)) := upS (ps_expr he hs) fun D σ H ⟨δ, Hv, n, F, r, h, k1, k2, k3, k4, k5⟩ =>
  ⟨δ, Hv, n, _, _, r, h, fun d v H' Hv' n' h' e p k => k1 _ _ _ _ _ h' e.see (r.step e p), k5.e r⟩
theorem ds_never : PS X st (liftS Z dNever) := ⟨fun pins s σ H D I ⟨δ, Hv, n, F, r, h, _⟩ => h.elim⟩
theorem ds_while {body : List Stmt} (hp : PassesOwn (model X.prog X.w) X.A X.env X.xe) (hc : PT X c (liftT Z dc)) (hb : PSs X body (liftS Z t)) : PS X (.While c body [] pos) (liftS Z (dWhile dc t)) := upS (ps_while hp hc hb) fun D σ H ⟨δ, Hv, n, F, r, ⟨W, ⟨m0, w0⟩, turn⟩, k1, k2, k3, k4, k5⟩ => by
  refine ⟨fun m σ' H' => ∃ δ' Hv' n', Rel Z.g Z.H0 Z.Hv0 σ' H' Hv' δ' n' ∧ Same Hv Hv' ∧ W m δ' n', ⟨m0, δ, Hv, n, r, .refl _, w0⟩, ?_⟩
  rintro m σ1 H1 ⟨δ1, Hv1, n1, r1, s1, w1⟩
  refine ⟨δ1, Hv1, n1, _, _, r1, turn m δ1 n1 w1, (fun d v H' Hv' n' h' e p k => ?_), (k5.see s1).e r1⟩
  obtain ⟨c, rfl, h3⟩ := h'
  refine ⟨c, dv_bl k, ?_⟩
  cases c with
  | true =>
    rw [if_pos rfl] at h3 ⊢
    obtain ⟨N, hN, h3⟩ := h3
    refine ⟨fun σ' H' => ∃ δ' Hv' n', Rel Z.g Z.H0 Z.Hv0 σ' H' Hv' δ' n' ∧ Same Hv Hv' ∧ N δ' n', ?_, ?_⟩
    · rintro σ' H2 ⟨δ2, Hv2, n2, r2, s2, w2⟩
      obtain ⟨m', hm, w3⟩ := hN _ _ w2
      exact ⟨m', hm, δ2, Hv2, n2, r2, s2, w3⟩
    · have s2 := s1.trans e.see
      exact ⟨δ1, Hv', n', _, r1.step e p, h3, fun δ2 n2 σ2 H2 Hv2 a b r2 => ⟨δ2, Hv2, n2, r2, s2.trans b, a⟩, k2, k1.see s2, fun δ2 n2 σ2 H2 Hv2 a b r2 => ⟨δ2, Hv2, n2, r2, s2.trans b, a⟩, k5.see s2⟩
  | false =>
    rw [if_neg Bool.false_ne_true] at h3 ⊢
    exact k1 _ _ _ _ _ h3 (s1.trans e.see) (r1.step e p)
theorem ds_aug {i : Nat} {x : Str} {op : Operator} {f : List D → Option D} {ti : TIp} {pos' : Pos} (o : Op2 Z.g f ti) (hN : X.N.Nodup) (hi : X.N[i]? = some x) (hx : Loc X.env.scope x) (he : PE X e (lift Z de)) (ho : PIp X op ti) (hf : X.fn x = true ∨ X.env.scope.names.lookup x = some .local := by first | exact .inl rfl | exact .inr rfl | assumption) :
    PS X (.AugAssign (.Name x pos') op e pos) (liftS Z (dAug i f de)) := upS (ps_aug hN hi hx he ho hf) fun D σ H ⟨δ, Hv, n, F, r, ⟨dx, hx, h⟩, k1, k2, k3, k4, k5⟩ => by
  obtain ⟨v, e1, e2⟩ := slot_at r hx
  refine ⟨v, e1, δ, Hv, n, _, _, r, h, (fun d w H' Hv' n' h' e p k => ?_), k5.e r⟩
  obtain ⟨z, hz, h3⟩ := h'
  refine o e.sub (e2.mono e.see) k hz fun u H2 Hv2 e3 s3 k3 => k1 _ _ _ _ _ h3 (e.see.trans e3.see) ?_
  exact ((r.step e p).step e3 (p.mono s3 (Nat.le_refl _))).set k3
theorem frzB_rel {g : G} {H0 Hv0 : Hp} {σ : L2.St} {H Hv : Hp} {δ : DS} {n : Nat} (i : Nat) (r : Rel g H0 Hv0 σ H Hv δ n) : ∃ Hv', Same Hv Hv' ∧ Rel g H0 Hv0 σ H Hv' (frzB δ i) n := by
  unfold frzB
  split
  · rename_i ds h; exact r.unown h
  · exact ⟨Hv, .refl _, r⟩
/-- a dict is frozen: it won't change any more -/
theorem inv_frz {pins : List (Addr × Obj)} {σ : L2.St} {H : Hp} {s : Shared} {p : Addr} {kvs : List (Key × V)} (I : Inv X pins σ H s) (hp : H p = some (.dK kvs)) : ∃ o : Obj, Inv X pins σ (upd H p (.frz o (.dK kvs))) s := by
  obtain ⟨z, y, vs, rk, o, es, ep, e, c⟩ := I.hok p _ hp
  have ne : ∀ {b : Addr} {u : HO}, H b = some u → (∀ ks, u ≠ .dK ks) → upd H p (.frz o (.dK kvs)) b = some u := fun {b u} h n => by
    have : b ≠ p := fun z => n kvs (by rw [z, hp] at h; exact (Option.some.inj h).symm)
    rw [upd_ne this]; exact h
  have no : ∀ {b : Addr}, H b = none → upd H p (.frz o (.dK kvs)) b = none := fun {b} h => by
    have : b ≠ p := fun z => by rw [z, hp] at h; cases h
    rw [upd_ne this]; exact h
  refine ⟨o, I.ok, I.os, I.bare, ⟨I.base.keep, I.base.slot, fun b u h1 h2 h3 => no (I.base.free b u h1 h2 h3), I.base.there, fun b xs h => ne (I.base.tups b xs h) (fun _ w => by cases w), fun b ob u h => ne (I.base.frzs b ob u h) (fun _ w => by cases w), fun b ps h => ?_⟩, I.loc, I.cell, no I.free, fun x c h => no (I.freeC x c h), fun q hq => ?_, fun b u h => ?_, I.len⟩
  · obtain ⟨more, w⟩ := I.base.tbls b ps h
    exact ⟨more, ne w (fun _ w => by cases w)⟩
  · obtain ⟨a1, a2, a3⟩ := I.pin q hq
    exact ⟨a1, no a2, a3⟩
  · have st : ∀ {b : Addr} {u : HO}, ObjOk X.prog X.w H s.heap b u → ObjOk X.prog X.w (upd H p (.frz o (.dK kvs))) s.heap b u := fun {b u} h => h.stay (fun _ _ _ h => h) (fun b h => ne h (fun _ w => by cases w)) (fun b xs h => ne h (fun _ w => by cases w))
    by_cases hb : b = p
    · subst hb
      rw [upd_same] at h
      cases h
      exact ⟨e, st ⟨z, y, vs, rk, o, es, ep, e, c⟩⟩
    · rw [upd_ne hb] at h
      exact st (I.hok b u h)
/-- a new dict is frozen at once -/
theorem pe_frz {t : TE} {e : Expr} (h : PE X e t) : PE X e (fun σ H Q => t σ H fun v H1 => ∃ p kvs, v = .ref p ∧ H1 p = some (.dK kvs) ∧ ∀ o : Obj, Q v (upd H1 p (.frz o (.dK kvs)))) := ⟨fun pins s σ H Q I q => wpAny_mono (h.run pins s σ H _ I q) (fun u s1 ⟨v, H1, I1, rv, p, kvs, ev, hp, k⟩ => by
  obtain ⟨o, I2⟩ := inv_frz I1 hp
  exact ⟨v, _, I2, rv, k o⟩) (fun _ _ z => z)⟩
theorem ds_un (i : Nat) (h : PS X st (liftS Z t)) : PS X st (liftS Z (dUn i t)) := ⟨fun pins s σ H D I ⟨δ, Hv, n, F, r, h1, k1, k2, k3, k4, k5⟩ => by
  unfold dUn frz at h1
  split at h1
  · rename_i ds e
    obtain ⟨Hv', sm, r'⟩ := r.unown e
    exact h.run pins s σ H D I ⟨_, Hv', n, F, r', h1, k1.see sm, k2, k3.see sm, k4.see sm, k5.see sm⟩
  · rename_i ks e
    obtain ⟨p, vs, hp, r'⟩ := r.unownD e
    obtain ⟨o, I'⟩ := inv_frz I hp
    obtain ⟨sm, r'⟩ := r' o
    exact h.run pins s σ _ D I' ⟨_, _, n, F, r', h1, k1.see sm, k2, k3.see sm, k4.see sm, k5.see sm⟩
  · exact h.run pins s σ H D I ⟨δ, Hv, n, F, r, h1, k1, k2, k3, k4, k5⟩⟩
theorem dv_flat {g : G} {H H' : Hp} {v : V} {d : D} (h : Dv g H v d) (f : d.flat = true) : Dv g H' v d := by
  cases h with
  | non => exact .non
  | bl b => exact .bl b
  | int i => exact .int i
  | str x => exact .str x
  | lst _ _ => cases f
  | tup _ _ => cases f
  | obj _ _ _ => cases f
  | exc _ _ _ _ => cases f
  | dct _ _ => cases f
  | pen => cases f
  | scr _ => cases f
  | fn _ _ _ => cases f
theorem d_bor (i : Nat) (h : PE X e (lift Z de)) : PE X e (lift Z (dBor i de)) := up h fun σ H Q ⟨δ, Hv, n, P, E, r, h1, q, x⟩ => by
  obtain ⟨Hv', s, r'⟩ := frzB_rel i r
  refine ⟨frzB δ i, Hv', n, _, _, r', h1, (fun d v H2 Hv2 n2 h2 e p k => ?_), (fun _ _ _ _ _ _ _ z => z.elim)⟩
  refine q d v H2 Hv n2 h2.2 ⟨e.but, .refl _, (s.trans e.see).trans e.sub, fun _ h _ => h, fun z => z⟩ p (dv_flat k h2.1)
theorem dt_bor (i : Nat) (h : PT X e (liftT Z de)) : PT X e (liftT Z (dBor i de)) := upT h fun σ H Q ⟨δ, Hv, n, P, E, r, h1, q, x⟩ => by
  obtain ⟨Hv', s, r'⟩ := frzB_rel i r
  refine ⟨frzB δ i, Hv', n, _, _, r', h1, (fun d v H2 Hv2 n2 h2 e p k => ?_), (fun _ _ _ _ _ _ _ z => z.elim)⟩
  exact q d v H2 Hv n2 h2.2 ⟨e.but, .refl _, (s.trans e.see).trans e.sub, fun _ h _ => h, fun z => z⟩ p (dv_flat k h2.1)
end
end Dn

/-! Values as trees: targets, for, comprehensions, what they go round. -/
namespace Dn
open PySem PySem.Spec PyProof.Rows L2 Br
def Tg.is : Tg → List Nat
  | .nm i => [i]
  | .tp is => is
theorem set_set_ne {α : Type} {l : List α} {i j : Nat} {a b : α} (h : i ≠ j) : (l.set i a).set j b = (l.set j b).set i a := List.set_comm a b h
theorem wipe_set {σ : L2.St} {i : Nat} {v : Option V} : ∀ {vs : List Nat}, i ∈ vs → wipe (σ.set i v) vs = wipe σ vs
  | [], h => by cases h
  | j :: vs, h => by
    unfold wipe
    by_cases e : i = j
    · subst e
      by_cases hi : i ∈ vs
      · rw [wipe_set hi]
      · have go : ∀ ws : List Nat, i ∉ ws → wipe (σ.set i v) ws = (wipe σ ws).set i v := by
          intro ws
          induction ws with
          | nil => intro _; rfl
          | cons k ws ih =>
            intro hk
            simp only [List.mem_cons, not_or] at hk
            unfold wipe
            rw [ih hk.2, set_set_ne hk.1]
        rw [go vs hi, List.set_set]
    · have : i ∈ vs := by
        rcases List.mem_cons.mp h with z | z
        · exact absurd z e
        · exact z
      rw [wipe_set this]
def TgOk (Z : Zx) (tg : Tg) (gg : TG) : Prop := ∀ {v : V} {d : D} {σ : L2.St} {H Hv : Hp} {δ δ' : DS} {n : Nat} {R : L2.St → Hp → Prop}, Rel Z.g Z.H0 Z.Hv0 σ H Hv δ n → Dv Z.g Hv v d → dTg tg d δ = some δ' →
  (∀ σ', Rel Z.g Z.H0 Z.Hv0 σ' H Hv δ' n → (∀ vs : List Nat, (∀ i ∈ tg.is, i ∈ vs) → wipe σ' vs = wipe σ vs) → R σ' H) → gg v σ H R
theorem tg_nm {Z : Zx} {i : Nat} : TgOk Z (.nm i) (gName i) := by
  intro v d σ H Hv δ δ' n R r k e q
  cases e
  exact q _ (r.set k) fun vs h => wipe_set (h i (by simp [Tg.is]))
def gNames : List Nat → TGs
  | [] => gNil
  | i :: is => gCons (gName i) (gNames is)
theorem gNames_ok {Z : Zx} {H Hv : Hp} {n : Nat} {R : L2.St → Hp → Prop} : ∀ (is : List Nat) (ds : List D) (vs : List V) (σ : L2.St) (δ : DS), is.length = ds.length → Rel Z.g Z.H0 Z.Hv0 σ H Hv δ n → DvAll Z.g Hv vs ds →
    (∀ σ', Rel Z.g Z.H0 Z.Hv0 σ' H Hv (setAll δ is ds) n → (∀ ws : List Nat, (∀ i ∈ is, i ∈ ws) → wipe σ' ws = wipe σ ws) → R σ' H) → gNames is vs σ H R
  | [], [], vs, σ, δ, _, r, k, q => by
    cases k
    exact ⟨rfl, q σ r fun _ _ => rfl⟩
  | i :: is, d :: ds, _, σ, δ, hl, r, .cons k ks, q => by
    refine ⟨_, _, rfl, ?_⟩
    refine gNames_ok is ds _ _ _ (by simpa using hl) (r.set k) ks fun σ' r' w => q σ' r' fun ws h => ?_
    rw [w ws fun j hj => h j (List.mem_cons_of_mem _ hj), wipe_set (h i List.mem_cons_self)]
theorem tg_tp {Z : Zx} {is : List Nat} {K : PySem.W.Frag} (hK : K = Z.g.K) {m : Nat} (hm : m = is.length) : TgOk Z (.tp is) (gSq K m (gNames is)) := by
  subst hK hm
  intro v d σ H Hv δ δ' n R r k e q
  cases k with
  | @tup a xs ds hs ks =>
    unfold dTg at e
    simp only at e
    split at e
    · rename_i hl
      cases e
      exact .inl ⟨a, xs, rfl, same_seqT r.sub hs, by rw [ks.len, hl], gNames_ok is ds xs σ δ hl r ks q⟩
    · cases e
  | @lst a xs ds hs ks =>
    unfold dTg at e
    simp only at e
    split at e
    · rename_i hl
      cases e
      exact .inr ⟨a, xs, rfl, sqL (r.sub _ _ hs), by rw [ks.len, hl], gNames_ok is ds xs σ δ hl r ks q⟩
    · cases e
  | _ => cases e
/-- J gives xs, while what is seen in HI is there -/
def Wk (g : G) (HI : Hp) (J : It) (xs : List D) : Prop := Walk J xs.length (fun H => Same HI H) (fun i H v H' => ∀ Hv, Same HI Hv → Same Hv H → ∃ d Hv', xs[i]? = some d ∧ Ext g H Hv H' Hv' ∧ Same H H' ∧ Dv g Hv' v d)
def liftI (Z : Zx) (di : DA) : TI := fun σ H R => ∃ δ Hv n P E, Rel Z.g Z.H0 Z.Hv0 σ H Hv δ n ∧ di δ n P E ∧ (∀ xs H' Hv' n' J, P xs n' → Ext Z.g H Hv H' Hv' → Pn Z.g H' n' → Wk Z.g Hv' J xs → R J H') ∧ EOk Z.g H Hv E (fun c d H' => Z.W c d σ H')
theorem drop_at {α : Type} {xs : List α} {i : Nat} {x : α} (h : xs[i]? = some x) : xs.drop i = x :: xs.drop (i + 1) := by
  obtain ⟨hl, e⟩ := List.getElem?_eq_some_iff.mp h
  rw [List.drop_eq_getElem_cons hl, e]
section
variable {X : Cx} {Z : Zx} {e a b c tge iter : Expr} {es : List Expr} {da db dc de dt : DE} {oa ob : DO} {ra it : DA} {pos : Pos} {st : Stmt} {sts body : List Stmt} {t u : DT} {tg : Tg} {gg : TG}
theorem ds_for (hp : PassesOwn (model X.prog X.w) X.A X.env X.xe) (hc : X.calm = true) (hi : PI X tge iter (liftI Z it)) (hg : PG X tge gg) (ho : TgOk Z tg gg) (hb : PSs X body (liftS Z t))
    (hs : ∀ x, foldedSetIterable iter X.env x = pure x := by intro _; rfl) : PS X (.For tge iter body [] pos) (liftS Z (dFor it tg t)) := upS (ps_for hp hc hi hg hb hs) fun D σ H ⟨δ, Hv, n, F, r, h, k1, k2, k3, k4, k5⟩ => by
  refine ⟨δ, Hv, n, _, _, r, h, (fun xs H1 Hv1 n1 J h1 e1 p1 wk => ?_), k5.e r⟩
  refine for_it wk (fun i σ' H' => ∃ δ' Hv' n', Rel Z.g Z.H0 Z.Hv0 σ' H' Hv' δ' n' ∧ Same Hv1 Hv' ∧ forGo tg t F (xs.drop i) δ' n') ⟨δ, Hv1, n1, r.step e1 p1, .refl _, h1⟩ ?_ ?_ ?_
  · rintro i σ' H' _ ⟨δ', Hv', n', r', s', _⟩
    exact s'.trans r'.sub
  · rintro i v σ2 H2 H3 hi ⟨δ2, Hv2, n2, r2, s2, g2⟩ y
    obtain ⟨d, Hv3, hd, e3, sm, k⟩ := y Hv2 s2 r2.sub
    rw [drop_at hd] at g2
    obtain ⟨δ3, ht, g3⟩ := g2
    have r3 := r2.step e3 (r2.pen.mono sm (Nat.le_refl _))
    refine ho r3 k ht fun σ4 r4 _ => ?_
    have s3 := s2.trans e3.see
    have s03 := e1.see.trans s3
    exact ⟨δ3, Hv3, n2, _, r4, g3, fun δ5 n5 σ5 H5 Hv5 a b r5 => ⟨δ5, Hv5, n5, r5, s3.trans b, a⟩, k2, k1.see s03, fun δ5 n5 σ5 H5 Hv5 a b r5 => ⟨δ5, Hv5, n5, r5, s3.trans b, a⟩, k5.see s03⟩
  · rintro σ2 H2 ⟨δ2, Hv2, n2, r2, s2, g2⟩
    rw [List.drop_length] at g2
    exact k1 _ _ _ _ _ g2 (e1.see.trans s2) r2
/-! ### comprehensions -/
theorem wipe_rel {g : G} {H0 Hv0 : Hp} {σ : L2.St} {H Hv : Hp} {δ : DS} {n : Nat} (r : Rel g H0 Hv0 σ H Hv δ n) : ∀ vs : List Nat, Rel g H0 Hv0 (wipe σ vs) H Hv (wipeD δ vs) n
  | [] => r
  | v :: vs => (wipe_rel r vs).wipe1
/-- the same without the errors -/
abbrev Zx.calm (Z : Zx) : Zx := ⟨Z.g, Z.H0, Z.Hv0, fun _ _ _ _ => False⟩
/-- an unseen new object -/
theorem ext_hid {g : G} {H Hv : Hp} {p : Addr} {o : HO} (s : Same Hv H) (h : H p = none) : Ext g H Hv (upd H p o) Hv ∧ Hv p = none := by
  have hv : Hv p = none := by
    cases q : Hv p with
    | none => rfl
    | some u => rw [s _ _ q] at h; cases h
  exact ⟨⟨.of (same_new h), .refl _, s.trans (same_new h), fun a h1 _ => h1, fun z => z⟩, hv⟩
theorem wipe_sub (σ : L2.St) (vs : List Nat) : ∀ ws : List Nat, (∀ i ∈ ws, i ∈ vs) → wipe (wipe σ ws) vs = wipe σ vs
  | [], _ => rfl
  | w :: ws, h => by
    show wipe ((wipe σ ws).set w none) vs = _
    rw [wipe_set (h w List.mem_cons_self), wipe_sub σ vs ws fun i hi => h i (List.mem_cons_of_mem _ hi)]
theorem lc_lift {tt : TT} {vs : List Nat} {Z0 : Zx} (hv : ∀ i ∈ tg.is, i ∈ vs) (ho : TgOk Z.calm tg gg) (htt : ∀ σ H R, liftT Z.calm dt σ H R → tt σ H R) {σ : L2.St} {H Hv : Hp} {δ : DS} {n : Nat} {P : List D → Nat → Prop} {Q : VK} {E : XD}
    (r : Rel Z.g Z.H0 Z.Hv0 σ H Hv δ n) (h : dLc it tg dt de vs δ n P E) (q : ∀ ys p ws H' Hv' n', P ys n' → Ext Z.g H Hv H' Hv' → Pn Z.g H' n' → H p = none → H' p = some (.lst ws) → Hv' p = none → DvAll Z.g Hv' ws ys → Q (.ref p) H') (x : EOk Z.g H Hv E (fun c d H' => Z.W c d σ H')) :
    tLc (liftI Z it) gg tt (lift Z.calm de) vs σ H Q := by
  refine ⟨δ, Hv, n, _, E, r, h, (fun xs H1 Hv1 n1 J h1 e1 p1 wk => ?_), x⟩
  obtain ⟨hsz, h1⟩ := h1
  intro Dd hD
  obtain ⟨e2, hv2⟩ := ext_hid (g := Z.g) (o := .lst []) e1.sub hD
  have nD : H Dd = none := by
    cases z : H Dd with
    | none => rfl
    | some o =>
      by_cases ez : Dd = Z.g.pd
      · subst ez; exact absurd hD p1.pd
      · obtain ⟨_, w, _⟩ := e1.but _ _ ez z
        rw [w] at hD; cases hD
  have npd : Dd ≠ Z.g.pd := fun z => p1.pd (by rw [← z]; exact hD)
  have npc : Dd ≠ Z.g.pc := fun z => p1.pc (by rw [← z]; exact hD)
  -- the invariant: what has been gathered at Dd, all else as an extension of H1
  refine lc_it wk (fun i H' => ∃ Hv' n' acc ws, Ext Z.g H1 Hv1 H' Hv' ∧ Pn Z.g H' n' ∧ H' Dd = some (.lst ws) ∧ Hv' Dd = none ∧ DvAll Z.g Hv' ws acc ∧ acc.length ≤ i ∧ lcGo tg dt de (wipeD δ vs) (xs.drop i) n' (fun ys n2 => P (acc ++ ys) n2)) ?_ ?_ ?_ ?_
  · exact ⟨Hv1, n1, [], [], e2, p1.mono (same_new hD) (Nat.le_refl _), upd_same, hv2, .nil, Nat.zero_le _, h1⟩
  · rintro i H' _ ⟨Hv', n', acc, ws, a1, _⟩
    exact a1.see.trans a1.sub
  · rintro i v H2 H3 hi ⟨Hv2, n2, acc, ws, a1, a2, a3, a4, a5, al, a6⟩ y
    obtain ⟨d, Hv3, hd, e3, sm, k⟩ := y Hv2 a1.see a1.sub
    rw [drop_at hd] at a6
    obtain ⟨δ3, ht, g3⟩ := a6
    have p3 : Pn Z.g H3 n2 := a2.mono sm (Nat.le_refl _)
    have a13 := a1.trans (fun _ => a2.pd) e3
    have r3 : Rel Z.g Z.H0 Z.Hv0 (wipe σ vs) H3 Hv3 (wipeD δ vs) n2 := (wipe_rel (r.step e1 p1) vs).step a13 p3
    refine ho r3 k ht fun σ4 r4 w4 => ⟨by rw [w4 vs hv]; exact wipe_sub σ vs vs fun _ h => h, ?_⟩
    refine htt _ _ _ ⟨δ3, Hv3, n2, _, _, r4, g3, (fun b vb H5 Hv5 n5 h5 e5 p5 k5 => ?_), fun _ _ _ _ _ _ _ z => z.elim⟩
    obtain ⟨cb, rfl, h5⟩ := h5
    refine ⟨cb, dv_bl k5, ?_⟩
    show (if cb = true then _ else _)
    have hD3 : H3 Dd = some (.lst ws) := sm _ _ a3
    have hD5 : H5 Dd = some (.lst ws) := e5.at npd hD3 (fun _ z => by cases z)
    have hvD3 : Hv3 Dd = none := e3.hid _ a4 (by rw [a3]; simp)
    have hvD5 : Hv5 Dd = none := e5.hid _ hvD3 (by rw [hD3]; simp)
    have a15 := a13.trans (fun _ => p3.pd) e5
    cases cb with
    | false =>
      rw [if_neg Bool.false_ne_true] at h5 ⊢
      exact ⟨Hv5, n5, acc, ws, a15, p5, hD5, hvD5, a5.mono (e3.see.trans e5.see), by omega, h5⟩
    | true =>
      rw [if_pos rfl] at h5 ⊢
      refine ⟨δ3, Hv5, n5, _, _, r4.step e5 p5, h5, (fun dy vy H6 Hv6 n6 h6 e6 p6 k6 => ?_), fun _ _ _ _ _ _ _ z => z.elim⟩
      have hD6 : H6 Dd = some (.lst ws) := e6.at npd hD5 (fun _ z => by cases z)
      have hvD6 : Hv6 Dd = none := e6.hid _ hvD5 (by rw [hD5]; simp)
      have a16 := a15.trans (fun _ => p5.pd) e6
      have a56 := a5.mono ((e3.see.trans e5.see).trans e6.see)
      refine ⟨ws, hD6, ?_, Hv6, n6, acc ++ [dy], ws ++ [vy], ⟨fun bb o nb eo => ?_, a16.see, fun bb o eo => ?_, a16.hid, a16.nt⟩, p6.upd npd npc (Nat.le_refl _) hD6, upd_same, hvD6, a56.append (.cons k6 .nil), by rw [List.length_append]; show acc.length + 1 ≤ i + 1; omega, ?_⟩
      · rw [a5.len]; omega
      · have : bb ≠ Dd := fun z => by rw [z, hD] at eo; cases eo
        obtain ⟨o', w1, w2⟩ := a16.but _ _ nb eo
        exact ⟨o', (by rw [upd_ne this]; exact w1), w2⟩
      · have : bb ≠ Dd := fun z => by rw [z, hvD6] at eo; cases eo
        rw [upd_ne this]; exact a16.sub _ _ eo
      · have ea : ∀ ys : List D, (acc ++ [dy]) ++ ys = acc ++ dy :: ys := fun ys => by simp
        simp only [ea]
        exact h6
  · rintro H' ⟨Hv', n', acc, ws, a1, a2, a3, a4, a5, _, a6⟩
    rw [List.drop_length] at a6
    have a6 : P (acc ++ []) n' := a6
    rw [List.append_nil] at a6
    exact q acc Dd ws H' Hv' n' a6 (e1.trans (fun _ => p1.pd) a1) a2 nD a3 a4 a5
end
end Dn

/-! Values as trees: what loops go round. -/
namespace Dn
open PySem PySem.Spec PyProof.Rows L2 Br
def iSeq (K : PySem.W.Frag) (te : TE) : TI := fun σ H R => te σ H fun x H1 => (∃ a xs, x = .ref a ∧ SqL K H1 a xs ∧ R (Itl K a) H1) ∨ (∃ a xs, x = .ref a ∧ SqT K H1 a xs ∧ R (Itt K a) H1) ∨ (∃ z, x = .str z ∧ R (Its z) H1)
theorem pi_seq {X : Cx} {tg l : Expr} {te : TE} (hl : PE X l te) : PI X tg l (iSeq X.K te) := by
  refine ⟨fun pins s σ H R I h => ?_⟩
  refine thn (hl.run pins s σ H _ I h) fun v s1 ⟨x, H1, I1, r1, q1⟩ => ?_
  rcases q1 with ⟨a, xs, rfl, hq, q⟩ | ⟨a, xs, rfl, hq, q⟩ | ⟨z, rfl, q⟩
  · cases r1
    obtain ⟨its, rv, p, hz⟩ := I1.list hq
    refine wpAny_pyIter_list p.isList ?_
    refine ⟨s1.heap.objs.size, [s1.heap.objs.size], _, _, H1, rfl, I1.kept (t' := s1.toks) fun b o e => Heap.get?_push_of_some _ e, turn_list a _, ⟨_, Heap.get?_push_size _ rfl, rfl, rfl⟩, fun b hb => ?_, q⟩
    have e : b = s1.heap.objs.size := by simpa using hb
    subst e
    exact I1.fpOk (Nat.le_refl _) (I1.hok.fresh (Nat.le_refl _))
  · cases r1
    obtain ⟨its, rv, p, hz⟩ := I1.tuple hq
    refine wpAny_pyIter_tuple (show s1.heap.IsTuple a its.toArray from p) ?_
    refine ⟨s1.heap.objs.size, [s1.heap.objs.size], _, _, H1, rfl, I1.kept (t' := s1.toks) fun b o e => Heap.get?_push_of_some _ e, turn_tuple a _, ⟨_, Heap.get?_push_size _ rfl, rfl, rfl⟩, fun b hb => ?_, q⟩
    have e : b = s1.heap.objs.size := by simpa using hb
    subst e
    exact I1.fpOk (Nat.le_refl _) (I1.hok.fresh (Nat.le_refl _))
  · obtain ⟨t, rfl⟩ := r1
    cases ha : z.cps.all (· < 128)
    · exact wpAny_pyIter_wide ha (pi_one (tk := s1.toks) I1 _ (turn_str _ z t "str_iterator" (.inr rfl)) ⟨_, Heap.get?_push_size _ rfl, rfl, rfl⟩ q)
    · exact wpAny_pyIter_ascii ha (pi_one (tk := s1.toks) I1 _ (turn_str _ z t "str_ascii_iterator" (.inl rfl)) ⟨_, Heap.get?_push_size _ rfl, rfl, rfl⟩ q)
def iEnumA (K : PySem.W.Frag) (ta : TA) : TI := fun σ H R => ta σ H fun vs H1 => (∃ a xs, vs = [.ref a] ∧ SqL K H1 a xs ∧ R (Ite K a) H1) ∨ (∃ a xs, vs = [.ref a] ∧ SqT K H1 a xs ∧ R (Itet K a 0) H1) ∨ (∃ z, vs = [.str z] ∧ R (Ites z) H1)
theorem pi_enumA {X : Cx} {e : Expr} {ta : TA} {p pos tpos : Pos} {elts : List Expr} {kk : Nat} (hg : Gl X "enumerate") (hm : X.mg "enumerate" = none) (ha : PA X [e] ta) (hs : starEach [e] X.env = [(false, eval e X.env)] := by rfl) :
    PI X (.Tuple elts kk tpos) (.Call (.Name "enumerate" p) [e] [] pos) (iEnumA X.K ta) := by
  refine ⟨fun pins s σ H R I h => ?_⟩
  refine Call_ (ld_blt I hg hm boot_enumerate (PyProof.Rows.callWith_type1 (thn (ha.run pos pins s σ H _ I h) fun us s1 ⟨vs, H1, I1, r1, q1⟩ => ?_) hs rfl))
  rcases q1 with ⟨a, xs, rfl, hq, q⟩ | ⟨a, xs, rfl, hq, q⟩ | ⟨z, rfl, q⟩
  · cases r1 with
    | cons r rr =>
      cases rr
      cases r
      obtain ⟨its, rv, p', hz⟩ := I1.list hq
      refine call_enumerate_list p'.isList fun h' he hit hsz hk => wpAny_pyIter_enum he ?_
      have I2 : Inv X pins σ H1 { s1 with heap := h' } := I1.kept (t' := s1.toks) hk
      refine ⟨s1.heap.objs.size + 1, [s1.heap.objs.size + 1, s1.heap.objs.size], _, _, H1, rfl, I2, turn_enum a (s1.heap.objs.size + 1) s1.heap.objs.size, ⟨⟨.none, he⟩, hit, Nat.succ_ne_self _⟩, fun b hb => ?_, q⟩
      have e' : b = s1.heap.objs.size + 1 ∨ b = s1.heap.objs.size := by simpa using hb
      have hle : s1.heap.objs.size ≤ b := by
        rcases e' with z | z
        · rw [z]; exact Nat.le_add_right _ _
        · rw [z]; exact Nat.le_refl _
      exact I1.fpOk hle (I1.hok.fresh hle)
  · cases r1 with
    | cons r rr =>
      cases rr
      cases r
      obtain ⟨its, rv, p', hz⟩ := I1.tuple hq
      have hT := isTup_isTuple p'
      have hlt : a < s1.heap.objs.size := by obtain ⟨o, h1, _⟩ := hT; exact Heap.lt_size h1
      refine br_enum1 (begins_tuple a its.toArray) hT fun h' he hit hsz hk => wpAny_pyIter_enum he ?_
      have I2 : Inv X pins σ H1 { s1 with heap := h' } := I1.kept (t' := s1.toks) hk
      refine ⟨s1.heap.objs.size + 1, [s1.heap.objs.size + 1, s1.heap.objs.size], _, _, H1, rfl, I2, turn_enumT a (s1.heap.objs.size + 1) s1.heap.objs.size 0 (Nat.ne_of_lt hlt) (Nat.ne_of_lt (Nat.lt_succ_of_lt hlt)), ⟨⟨.none, he⟩, ⟨_, hit, rfl, rfl⟩, Nat.succ_ne_self _⟩, fun b hb => ?_, q⟩
      have e' : b = s1.heap.objs.size + 1 ∨ b = s1.heap.objs.size := by simpa using hb
      have hle : s1.heap.objs.size ≤ b := by
        rcases e' with z | z
        · rw [z]; exact Nat.le_add_right _ _
        · rw [z]; exact Nat.le_refl _
      exact I1.fpOk hle (I1.hok.fresh hle)
  · cases r1 with
    | cons r rr =>
      cases rr
      obtain ⟨t, rfl⟩ := r
      refine call_enumerate_str fun h' he hit hsz hk => wpAny_pyIter_enum he ?_
      have I2 : Inv X pins σ H1 { s1 with heap := h' } := I1.kept (t' := s1.toks) hk
      refine ⟨s1.heap.objs.size + 1, [s1.heap.objs.size + 1, s1.heap.objs.size], _, _, H1, rfl, I2, turn_enumS z t (s1.heap.objs.size + 1) s1.heap.objs.size, ⟨⟨.none, he⟩, hit, Nat.succ_ne_self _, Nat.zero_le _⟩, fun b hb => ?_, q⟩
      have e' : b = s1.heap.objs.size + 1 ∨ b = s1.heap.objs.size := by simpa using hb
      have hle : s1.heap.objs.size ≤ b := by
        rcases e' with z | z
        · rw [z]; exact Nat.le_add_right _ _
        · rw [z]; exact Nat.le_refl _
      exact I1.fpOk hle (I1.hok.fresh hle)
/-! ### as trees -/
def signs (z : Str) : List D := z.cps.toList.map fun c => .str ⟨#[c]⟩
def gIter : List D → Option (List D)
  | [.lst xs] => some xs
  | [.tup xs] => some xs
  | [.str z] => some (signs z)
  | _ => none
def intsD (lo : Int) (n : Nat) : List D := (List.range n).map fun (k : Nat) => .int (lo + k)
def gRange : List D → Option (List D)
  | [.int j] => if -(2 ^ 62) ≤ j ∧ j < 2 ^ 62 then some (intsD 0 j.toNat) else none
  | _ => none
def gRange2 : List D → Option (List D)
  | [.int i, .int j] => if (-(2 ^ 62) ≤ i ∧ i < 2 ^ 62) ∧ -(2 ^ 62) ≤ j ∧ j < 2 ^ 62 then some (intsD i (j - i).toNat) else none
  | _ => none
def numd (k : Int) : List D → List D
  | [] => []
  | x :: xs => .tup [.int k, x] :: numd (k + 1) xs
theorem numd_at {k : Int} {xs : List D} {i : Nat} {x : D} (h : xs[i]? = some x) : (numd k xs)[i]? = some (.tup [.int (k + (i : Nat)), x]) := by
  induction xs generalizing k i with
  | nil => simp at h
  | cons y ys ih =>
    cases i with
    | zero =>
      rw [List.getElem?_cons_zero] at h
      cases h
      show some (D.tup [.int k, _]) = _
      rw [show k + ((0 : Nat) : Int) = k by omega]
    | succ i =>
      rw [List.getElem?_cons_succ] at h
      show (numd (k + 1) ys)[i]? = _
      rw [ih h, show k + 1 + (i : Int) = k + ((i + 1 : Nat) : Int) by omega]
theorem numd_len (k : Int) (xs : List D) : (numd k xs).length = xs.length := by
  induction xs generalizing k with
  | nil => rfl
  | cons y ys ih => show (numd (k + 1) ys).length + 1 = _; rw [ih]; rfl
def gEnum : List D → Option (List D)
  | [.lst xs] => some (numd 0 xs)
  | [.tup xs] => some (numd 0 xs)
  | [.str z] => some (numd 0 (signs z))
  | _ => none
def gEnumK : List D → Option (List D)
  | [.tup xs, .int k] => if -(2 ^ 62) ≤ k ∧ k < 2 ^ 62 then some (numd k xs) else none
  | _ => none
theorem wk_list {g : G} {H : Hp} {a : Addr} {vs : List V} {ds : List D} (h : H a = some (.lst vs)) (k : DvAll g H vs ds) : Wk g H (Itl g.K a) ds := by
  have w := walk_l (K := g.K) (a := a) (xs := vs)
  rw [k.len] at w
  refine w.mono (fun H' s => sqL (s _ _ h)) fun i H1 v H' hi s y Hv sv su => ?_
  obtain ⟨rfl, e⟩ := y
  obtain ⟨d, e1, e2⟩ := k.getV e
  exact ⟨d, Hv, e1, .refl su, .refl _, e2.mono sv⟩
theorem wk_tup {g : G} {H : Hp} {a : Addr} {vs : List V} {ds : List D} (h : SqT g.K H a vs) (k : DvAll g H vs ds) : Wk g H (Itt g.K a) ds := by
  have w := walk_t (K := g.K) (a := a) (xs := vs)
  rw [k.len] at w
  refine w.mono (fun H' s => same_seqT s h) fun i H1 v H' hi s y Hv sv su => ?_
  obtain ⟨rfl, e⟩ := y
  obtain ⟨d, e1, e2⟩ := k.getV e
  exact ⟨d, Hv, e1, .refl su, .refl _, e2.mono sv⟩
theorem signs_len (z : Str) : (signs z).length = z.cps.size := by
  unfold signs
  rw [List.length_map, Array.length_toList]
theorem signs_at {z : Str} {i c : Nat} (h : z.cps[i]? = some c) : (signs z)[i]? = some (.str ⟨#[c]⟩) := by
  unfold signs
  rw [List.getElem?_map, Array.getElem?_toList, h]
  rfl
theorem wk_str {g : G} {H : Hp} {z : Str} : Wk g H (Its z) (signs z) := by
  have w := walk_str (z := z)
  rw [← signs_len] at w
  refine w.mono (fun _ _ => trivial) fun i H1 v H' hi s y Hv sv su => ?_
  obtain ⟨rfl, c, e1, rfl⟩ := y
  exact ⟨_, Hv, signs_at e1, .refl su, .refl _, .str _⟩
theorem intsD_len (lo : Int) (n : Nat) : (intsD lo n).length = n := by unfold intsD; rw [List.length_map, List.length_range]
theorem intsD_at {lo : Int} {n i : Nat} (h : i < n) : (intsD lo n)[i]? = some (.int (lo + i)) := by
  unfold intsD
  rw [List.getElem?_map, List.getElem?_range h]
  rfl
theorem wk_intsD {g : G} {H : Hp} {lo : Int} {n : Nat} : Wk g H (Itr lo n) (intsD lo n) := by
  have w := walk_r (lo := lo) (n := n)
  rw [show Walk (Itr lo n) n = Walk (Itr lo n) (intsD lo n).length by rw [intsD_len]] at w
  refine w.mono (fun _ _ => trivial) fun i H1 v H' hi s y Hv sv su => ?_
  obtain ⟨rfl, rfl⟩ := y
  rw [intsD_len] at hi
  exact ⟨_, Hv, intsD_at hi, .refl su, .refl _, .int _⟩
theorem pair_ext {g : G} {H Hv : Hp} {T : Addr} {x : V} {d : D} {k : Int} (s : Same Hv H) (h : H T = none) (kx : Dv g Hv x d) : Ext g H Hv (upd H T (.tup [.int k, x])) (upd Hv T (.tup [.int k, x])) ∧ Dv g (upd Hv T (.tup [.int k, x])) (.ref T) (.tup [.int k, d]) := by
  have e := ext_new (g := g) (o := .tup [.int k, x]) s h
  exact ⟨e, .tup (sqT upd_same) (.cons (.int k) (.cons (kx.mono e.see) .nil))⟩
theorem wk_enum {g : G} {H : Hp} {a : Addr} {vs : List V} {ds : List D} (h : H a = some (.lst vs)) (k : DvAll g H vs ds) : Wk g H (Ite g.K a) (numd 0 ds) := by
  have w := walk_enum (K := g.K) (a := a) (xs := vs)
  rw [show Walk (Ite g.K a) vs.length = Walk (Ite g.K a) (numd 0 ds).length by rw [numd_len, k.len]] at w
  refine w.mono (fun H' s => sqL (s _ _ h)) fun i H1 v H' hi s y Hv sv su => ?_
  obtain ⟨T, i', x, rfl, hT, rfl, e1, e⟩ := y
  have e1' : V.int ((i : Nat) : Int) = i' := Option.some.inj e1
  subst e1'
  obtain ⟨d, e1, e2⟩ := k.getV e
  obtain ⟨a1, a2⟩ := pair_ext (k := (i : Nat)) su hT (e2.mono sv)
  exact ⟨_, _, by rw [numd_at e1, show (0 : Int) + (i : Nat) = (i : Nat) by omega], a1, same_new hT, a2⟩
theorem wk_enumT {g : G} {H : Hp} {a : Addr} {vs : List V} {ds : List D} {k0 : Int} (h : SqT g.K H a vs) (k : DvAll g H vs ds) : Wk g H (Itet g.K a k0) (numd k0 ds) := by
  have w := walk_et (K := g.K) (a := a) (xs := vs) (k := k0)
  rw [show Walk (Itet g.K a k0) vs.length = Walk (Itet g.K a k0) (numd k0 ds).length by rw [numd_len, k.len]] at w
  refine w.mono (fun H' s => same_seqT s h) fun i H1 v H' hi s y Hv sv su => ?_
  obtain ⟨T, x, rfl, hT, rfl, e⟩ := y
  obtain ⟨d, e1, e2⟩ := k.getV e
  obtain ⟨a1, a2⟩ := pair_ext (k := k0 + (i : Nat)) su hT (e2.mono sv)
  exact ⟨_, _, numd_at e1, a1, same_new hT, a2⟩
theorem wk_enumS {g : G} {H : Hp} {z : Str} : Wk g H (Ites z) (numd 0 (signs z)) := by
  have w := walk_es (x := z)
  rw [show Walk (Ites z) z.cps.size = Walk (Ites z) (numd 0 (signs z)).length by rw [numd_len, signs_len]] at w
  refine w.mono (fun _ _ => trivial) fun i H1 v H' hi s y Hv sv su => ?_
  obtain ⟨T, c, rfl, hT, rfl, e⟩ := y
  obtain ⟨a1, a2⟩ := pair_ext (g := g) (k := (i : Nat)) su hT (.str ⟨#[c]⟩)
  exact ⟨_, _, by rw [numd_at (signs_at e), show (0 : Int) + (i : Nat) = (i : Nat) by omega], a1, same_new hT, a2⟩
section
variable {X : Cx} {Z : Zx} {e a b c tge : Expr} {de : DE} {ra : DA} {pos p tpos : Pos}
theorem di_seq (hK : Z.g.K = X.K) (h : PE X e (lift Z de)) : PI X tge e (liftI Z (dIt gIter (dCons de dNil))) := upI (pi_seq h) fun σ H R ⟨δ, Hv, n, P, E, r, h1, q, x⟩ => by
  refine ⟨δ, Hv, n, _, E, r, h1, (fun d v H' Hv' n' h2 e p k => ?_), x⟩
  obtain ⟨ys, hy, h3⟩ := h2
  rw [← hK]
  cases k with
  | lst ha ks => cases hy; exact .inl ⟨_, _, rfl, sqL (e.sub _ _ ha), q _ _ _ _ _ h3 e p (wk_list ha ks)⟩
  | tup ha ks => cases hy; exact .inr (.inl ⟨_, _, rfl, same_seqT e.sub ha, q _ _ _ _ _ h3 e p (wk_tup ha ks)⟩)
  | str z => cases hy; exact .inr (.inr ⟨z, rfl, q _ _ _ _ _ h3 e p wk_str⟩)
  | _ => cases hy
theorem di_range1 (hg : Gl X "range") (hm : X.mg "range" = none) (ha : PE X a (lift Z de)) (hs : starEach [a] X.env = [(false, eval a X.env)] := by rfl) : PI X tge (.Call (.Name "range" p) [a] [] pos) (liftI Z (dIt gRange (dCons de dNil))) :=
  upI (pi_range1 hg hm (da_cons (Z := Z) ha da_nil hs) hs) fun σ H R ⟨δ, Hv, n, P, E, r, h1, q, x⟩ => by
  refine ⟨δ, Hv, n, _, E, r, h1, (fun d v H' Hv' n' h2 e p k => ?_), x⟩
  obtain ⟨ys, hy, h3⟩ := h2
  unfold gRange at hy
  split at hy
  · rename_i j
    split at hy
    · rename_i hj
      cases hy
      cases k with
      | cons k1 k2 =>
        cases k2
        cases k1
        exact ⟨j, rfl, hj.1, hj.2, q _ _ _ _ _ h3 e p wk_intsD⟩
    · cases hy
  · cases hy
theorem di_range2 (hg : Gl X "range") (hm : X.mg "range" = none) (ha : PA X [a, b] (liftA Z ra)) (hs : starEach [a, b] X.env = [(false, eval a X.env), (false, eval b X.env)] := by rfl) (hs2 : starEach [b] X.env = [(false, eval b X.env)] := by rfl) :
    PI X tge (.Call (.Name "range" p) [a, b] [] pos) (liftI Z (dIt gRange2 ra)) := upI (pi_range2 hg hm ha hs hs2) fun σ H R ⟨δ, Hv, n, P, E, r, h1, q, x⟩ => by
  refine ⟨δ, Hv, n, _, E, r, h1, (fun d v H' Hv' n' h2 e p k => ?_), x⟩
  obtain ⟨ys, hy, h3⟩ := h2
  unfold gRange2 at hy
  split at hy
  · rename_i i j
    split at hy
    · rename_i hj
      cases hy
      cases k with
      | cons k1 k2 =>
        cases k2 with
        | cons k2 k3 =>
          cases k3
          cases k1
          cases k2
          exact ⟨i, j, rfl, ⟨hj.1.1, hj.1.2, hj.2.1, hj.2.2⟩, q _ _ _ _ _ h3 e p wk_intsD⟩
    · cases hy
  · cases hy
theorem di_enum {elts : List Expr} {kk : Nat} (hK : Z.g.K = X.K) (hg : Gl X "enumerate") (hm : X.mg "enumerate" = none) (ha : PA X [a] (liftA Z ra)) (hs : starEach [a] X.env = [(false, eval a X.env)] := by rfl) :
    PI X (.Tuple elts kk tpos) (.Call (.Name "enumerate" p) [a] [] pos) (liftI Z (dIt gEnum ra)) := upI (pi_enumA hg hm ha hs) fun σ H R ⟨δ, Hv, n, P, E, r, h1, q, x⟩ => by
  refine ⟨δ, Hv, n, _, E, r, h1, (fun d v H' Hv' n' h2 e p k => ?_), x⟩
  obtain ⟨ys, hy, h3⟩ := h2
  rw [← hK]
  unfold gEnum at hy
  split at hy
  · cases hy
    cases k with
    | cons k1 k2 =>
      cases k2
      cases k1 with
      | lst ha ks => exact .inl ⟨_, _, rfl, sqL (e.sub _ _ ha), q _ _ _ _ _ h3 e p (wk_enum ha ks)⟩
  · cases hy
    cases k with
    | cons k1 k2 =>
      cases k2
      cases k1 with
      | tup ha ks => exact .inr (.inl ⟨_, _, rfl, same_seqT e.sub ha, q _ _ _ _ _ h3 e p (wk_enumT ha ks)⟩)
  · cases hy
    cases k with
    | cons k1 k2 =>
      cases k2
      cases k1
      exact .inr (.inr ⟨_, rfl, q _ _ _ _ _ h3 e p wk_enumS⟩)
  · cases hy
/-! ### comprehensions as values, as new lists -/
theorem yes_lift : ∀ σ H R, liftT Z (dC (.bl true)) σ H R → tYes σ H R := fun σ H R ⟨δ, Hv, n, P, E, r, h1, q, x⟩ => by
  obtain ⟨k, e, h⟩ := q (.bl true) (.bl true) H Hv n h1 (.refl r.sub) r.pen (.bl true)
  cases e
  exact h
theorem id_lift {dt : DE} : ∀ σ H R, liftT Z dt σ H R → liftT Z dt σ H R := fun _ _ _ h => h
variable {elt iter : Expr} {ifs : List Expr} {scope : Scope} {own : List (Str × Nat)} {it : DA} {dt : DE} {tg : Tg} {gg : TG} {tt : TT}
theorem d_lc (hc : X.calm = true) (hN : X.N.Nodup) (hi : PI X tge iter (liftI Z it)) (ok : BlkOk X.N X.env.scope scope own)
    (hg : ∀ (s : Shared) (H : Hp) (C : Addr) (cl : List (Str × Addr)) (fp : List Addr), PG (X.blk s H scope (compEnvC scope cl C X.env) fp) tge gg) (ho : TgOk Z.calm tg gg) (ht : ∀ (s : Shared) (H : Hp) (C : Addr) (cl : List (Str × Addr)) (fp : List Addr), PTs (X.blk s H scope (compEnvC scope cl C X.env) fp) ifs tt)
    (htt : ∀ σ H R, liftT Z.calm dt σ H R → tt σ H R) (he : ∀ (s : Shared) (H : Hp) (C : Addr) (cl : List (Str × Addr)) (fp : List Addr), PE (X.blk s H scope (compEnvC scope cl C X.env) fp) elt (lift Z.calm de)) (hv : ∀ i ∈ tg.is, i ∈ own.map (·.2))
    (hs : ∀ x, foldedSetIterable iter X.env x = pure x := by intro _; rfl) : PE X (.ListComp elt [⟨tge, iter, ifs, 0⟩] scope pos) (lift Z (dNew (dLc it tg dt de (own.map (·.2))))) :=
  up (pe_lc hc hN hi ok hg ht he hs) fun σ H Q ⟨δ, Hv, n, P, E, r, h1, q, x⟩ => lc_lift (Z0 := Z) hv ho htt r h1 (fun ys p ws H' Hv' n' h2 e pn hp hp' hv' k => by
    refine q (.lst ys) (.ref p) H' (upd Hv' p (.lst ws)) n' h2 ⟨e.but, e.see.trans (same_new hv'), fun b o hb => ?_, fun a h3 h4 => ?_, fun z => (e.nt z).upd (fun _ w => by cases w)⟩ pn (.lst upd_same (k.mono (same_new hv')))
    · by_cases eb : b = p
      · subst eb; rw [upd_same] at hb; cases hb; exact hp'
      · rw [upd_ne eb] at hb; exact e.sub _ _ hb
    · have : a ≠ p := fun z => h4 (by rw [z]; exact hp)
      rw [upd_ne this]; exact e.hid a h3 h4) x
theorem o_lc (hc : X.calm = true) (hN : X.N.Nodup) (hi : PI X tge iter (liftI Z it)) (ok : BlkOk X.N X.env.scope scope own)
    (hg : ∀ (s : Shared) (H : Hp) (C : Addr) (cl : List (Str × Addr)) (fp : List Addr), PG (X.blk s H scope (compEnvC scope cl C X.env) fp) tge gg) (ho : TgOk Z.calm tg gg) (ht : ∀ (s : Shared) (H : Hp) (C : Addr) (cl : List (Str × Addr)) (fp : List Addr), PTs (X.blk s H scope (compEnvC scope cl C X.env) fp) ifs tt)
    (htt : ∀ σ H R, liftT Z.calm dt σ H R → tt σ H R) (he : ∀ (s : Shared) (H : Hp) (C : Addr) (cl : List (Str × Addr)) (fp : List Addr), PE (X.blk s H scope (compEnvC scope cl C X.env) fp) elt (lift Z.calm de)) (hv : ∀ i ∈ tg.is, i ∈ own.map (·.2))
    (hs : ∀ x, foldedSetIterable iter X.env x = pure x := by intro _; rfl) : PE X (.ListComp elt [⟨tge, iter, ifs, 0⟩] scope pos) (liftO Z (dOwn (dLc it tg dt de (own.map (·.2))))) :=
  up (pe_lc hc hN hi ok hg ht he hs) fun σ H Q ⟨δ, Hv, n, P, E, r, h1, q, x⟩ => lc_lift (Z0 := Z) hv ho htt r h1 (fun ys p ws H' Hv' n' h2 e pn hp hp' hv' k => q (.ow ys) (.ref p) H' Hv' n' h2 e pn ⟨p, ws, rfl, hp, hp', hv', k⟩) x
/-- x = [.. for ..], x shared or owning -/
theorem ds_setLc {i : Nat} {y : Str} {py spos : Pos} (hc : X.calm = true) (hN : X.N.Nodup) (hy : X.N[i]? = some y) (hyl : X.env.scope.names.lookup y = some .local)
    (hsw : swapsWith (.ListComp elt [⟨tge, iter, ifs, 0⟩] scope pos) (some (.Name y py)) spos.line X.env = pure true) (hi : PI X tge iter (liftI Z it)) (ok : BlkOk X.N X.env.scope scope own)
    (hg : ∀ (s : Shared) (H : Hp) (C : Addr) (cl : List (Str × Addr)) (fp : List Addr), PG (X.blk s H scope (compEnvC scope cl C X.env) fp) tge gg) (ho : TgOk Z.calm tg gg) (ht : ∀ (s : Shared) (H : Hp) (C : Addr) (cl : List (Str × Addr)) (fp : List Addr), PTs (X.blk s H scope (compEnvC scope cl C X.env) fp) ifs tt)
    (htt : ∀ σ H R, liftT Z.calm dt σ H R → tt σ H R) (he : ∀ (s : Shared) (H : Hp) (C : Addr) (cl : List (Str × Addr)) (fp : List Addr), PE (X.blk s H scope (compEnvC scope cl C X.env) fp) elt (lift Z.calm de)) (hv : ∀ i ∈ tg.is, i ∈ own.map (·.2))
    (hs : ∀ x, foldedSetIterable iter X.env x = pure x := by intro _; rfl) : PS X (.Assign [.Name y py] (.ListComp elt [⟨tge, iter, ifs, 0⟩] scope pos) spos) (liftS Z (dSet i (dNew (dLc it tg dt de (own.map (·.2)))))) :=
  upS (ps_setLc hc hN hy hyl hsw hi ok hg ht he hs) fun D σ H ⟨δ, Hv, n, F, r, h, k1, k2, k3, k4, k5⟩ => lc_lift (Z0 := Z) hv ho htt r h (fun ys p ws H' Hv' n' h2 e pn hp hp' hv' k => by
    refine k1 _ _ _ _ _ h2 (e.see.trans (same_new hv')) (Rel.set (Hv := upd Hv' p (.lst ws)) ((r.step (H' := H') (Hv' := upd Hv' p (.lst ws)) ⟨e.but, e.see.trans (same_new hv'), fun b o hb => ?_, fun a h3 h4 => ?_, fun z => (e.nt z).upd (fun _ w => by cases w)⟩ pn)) (.lst upd_same (k.mono (same_new hv'))))
    · by_cases eb : b = p
      · subst eb; rw [upd_same] at hb; cases hb; exact hp'
      · rw [upd_ne eb] at hb; exact e.sub _ _ hb
    · have : a ≠ p := fun z => h4 (by rw [z]; exact hp)
      rw [upd_ne this]; exact e.hid a h3 h4) (k5.e r)
theorem ds_setLcO {i : Nat} {y : Str} {py spos : Pos} (hc : X.calm = true) (hN : X.N.Nodup) (hy : X.N[i]? = some y) (hyl : X.env.scope.names.lookup y = some .local)
    (hsw : swapsWith (.ListComp elt [⟨tge, iter, ifs, 0⟩] scope pos) (some (.Name y py)) spos.line X.env = pure true) (hi : PI X tge iter (liftI Z it)) (ok : BlkOk X.N X.env.scope scope own)
    (hg : ∀ (s : Shared) (H : Hp) (C : Addr) (cl : List (Str × Addr)) (fp : List Addr), PG (X.blk s H scope (compEnvC scope cl C X.env) fp) tge gg) (ho : TgOk Z.calm tg gg) (ht : ∀ (s : Shared) (H : Hp) (C : Addr) (cl : List (Str × Addr)) (fp : List Addr), PTs (X.blk s H scope (compEnvC scope cl C X.env) fp) ifs tt)
    (htt : ∀ σ H R, liftT Z.calm dt σ H R → tt σ H R) (he : ∀ (s : Shared) (H : Hp) (C : Addr) (cl : List (Str × Addr)) (fp : List Addr), PE (X.blk s H scope (compEnvC scope cl C X.env) fp) elt (lift Z.calm de)) (hv : ∀ i ∈ tg.is, i ∈ own.map (·.2))
    (hs : ∀ x, foldedSetIterable iter X.env x = pure x := by intro _; rfl) : PS X (.Assign [.Name y py] (.ListComp elt [⟨tge, iter, ifs, 0⟩] scope pos) spos) (liftS Z (dSetO i (dOwn (dLc it tg dt de (own.map (·.2)))))) :=
  upS (ps_setLc hc hN hy hyl hsw hi ok hg ht he hs) fun D σ H ⟨δ, Hv, n, F, r, h, k1, k2, k3, k4, k5⟩ => lc_lift (Z0 := Z) hv ho htt r h (fun ys p ws H' Hv' n' h2 e pn hp hp' hv' k =>
    k1 _ _ _ _ _ h2 e.see (r.setS (s := .ow ys) (r.step e pn) ⟨p, ws, rfl, hp, hp', hv', k⟩)) (k5.e r)
end
end Dn

/-! Values as trees: defs and their calls, errors. -/
namespace Dn
open PySem PySem.Spec PyProof.Rows L2 Br
def startD (N : Nat) (ds : List D) : DS := ds.map (fun d => some (.sh d)) ++ List.replicate (N - ds.length) none
/-- what a def computes: m parameters, N slots, its body -/
def dDef (m N : Nat) (t : DT) : List D → M D := fun ds n P E => ds.length = m ∧ t ⟨fun _ n' => P .non n', shP P, fun _ _ => False, fun _ _ => False, fun _ => E⟩ (startD N ds) n
/-- the promise of a def: it computes U -/
def spU (K : PySem.W.Frag) (mg : Str → Option Value) (kn : Kn) (U : List D → M D) : Sp := fun vs H Q E => ∃ pd pc Hv ds n P Ex, Same Hv H ∧ Hd pd Hv ∧ Pn ⟨K, mg, pd, pc, kn⟩ H n ∧ DvAll ⟨K, mg, pd, pc, kn⟩ Hv vs ds ∧ U ds n P Ex ∧ QOk ⟨K, mg, pd, pc, kn⟩ H Hv P Q ∧ EOk ⟨K, mg, pd, pc, kn⟩ H Hv Ex E
def dCall0 (U : List D → M D) (a : DA) : DE := fun δ n P E => a δ n (fun xs n1 => U xs n1 P (fun _ _ _ => False)) E
theorem start_rel {g : G} {H Hv : Hp} {n : Nat} {N : List Str} {vs : List V} {ds : List D} (s : Same Hv H) (np : Hd g.pd Hv) (p : Pn g H n) (k : DvAll g Hv vs ds) : Rel g H Hv (L2.start N vs) H Hv (startD N.length ds) n := by
  have hl := k.len
  have sh : ∀ {i : Nat} {s : Sl}, (startD N.length ds)[i]? = some (some s) → ∃ d, s = .sh d ∧ ds[i]? = some d := fun {i s} h => by
    unfold startD at h
    by_cases hi : i < ds.length
    · rw [List.getElem?_append_left (by simpa using hi), List.getElem?_map] at h
      cases e : ds[i]? with
      | none => rw [e] at h; cases h
      | some d => rw [e] at h; cases h; exact ⟨d, rfl, rfl⟩
    · rw [List.getElem?_append_right (by simpa using hi)] at h
      have := List.mem_of_getElem? h
      rw [List.mem_replicate] at this
      cases this.2
  refine ⟨.refl s, p, p.pd, p.pc, np, ?_, fun i s h => ?_, fun i j s t q h1 h2 o1 o2 _ _ => ?_⟩
  · unfold startD L2.start
    rw [List.length_append, List.length_append, List.length_map, List.length_map, List.length_replicate, List.length_replicate, hl]
  · obtain ⟨d, rfl, hd⟩ := sh h
    obtain ⟨v, e1, e2⟩ := k.get hd
    refine ⟨v, ?_, e2⟩
    unfold L2.start
    have hi : i < vs.length := (List.getElem?_eq_some_iff.mp e1).1
    rw [List.getElem?_append_left (by simpa using hi), List.getElem?_map, e1]
    rfl
  · obtain ⟨d, rfl, _⟩ := sh h1
    cases o1
section
variable {P : Program} {w : World} {K : PySem.W.Frag} {mg : Str → Option Value} {base : Heap} {kn : Kn} {x qual : Str} {st : Stmt} {f : Addr} {fd : FuncData} {N ps : List Str} {k m nn : Nat} {t : DT} {U : List D → M D}
theorem spU_len {vs : List V} {H : Hp} {Q : VK} {E : XK} (h : spU K mg kn (dDef m nn t) vs H Q E) : vs.length = m := by
  obtain ⟨pd, pc, Hv, ds, n, Pz, Ex, _, _, _, k, ⟨hl, _⟩, _⟩ := h
  rw [k.len, hl]
theorem body_of {Z : Zx} {H Hv : Hp} {vs : List V} {ds : List D} {n : Nat} {Pz : D → Nat → Prop} {Ex : XD} {Q : VK} {E : XK} (h0 : Z.H0 = H) (hv0 : Z.Hv0 = Hv) (hW : ∀ c d σ H', E c d H' → Z.W c d σ H') (s : Same Hv H) (np : Hd Z.g.pd Hv) (p : Pn Z.g H n) (k : DvAll Z.g Hv vs ds) (hU : dDef m N.length t ds n Pz Ex) (q : QOk Z.g H Hv Pz Q) (x : EOk Z.g H Hv Ex E) :
    liftS Z t { nx := fun _ H' => Q .non H', rt := Q } (L2.start N vs) H := by
  subst h0 hv0
  refine ⟨startD N.length ds, Z.Hv0, n, _, start_rel s np p k, hU.2, fun δ' n' σ' H' Hv' a b r => q .non .non H' Hv' n' a r.ext r.pen .non, fun s v H' Hv' n' a e p' kd => (match s, a, kd with | .sh d, a, kd => q d v H' Hv' n' a e p' kd), fun _ _ _ _ _ a => a.elim, fun _ _ _ _ _ a => a.elim, fun δ' σ' H' Hv' n' c fs cls dd a b r y => hW _ _ _ _ (x c fs n' cls dd H' Hv' a r.ext r.pen y)⟩
/-- a def that lets no error out -/
theorem fn_D (F : Fun K x qual st f fd) (S : FnScope N ps (defScope st)) (hm : ps.length = m)
    (hb : ∀ (cdv : Value) (A : Around) (outer : List Env) (s : Shared) (H : Hp) (E : XK) (Z : Zx), Room k (A.deeper (envOfC qual (defScope st) s.heap.objs.size f cdv)) → Z.g.K = K → Z.g.mg = mg → Z.g.kn = kn → PSs (cxOf CX0 P w K mg base N qual (defScope st) f cdv A outer s H E).nox (defBody st) (liftS Z t)) :
    FnOk P w K mg base CX0 (k + 1) f fd ps (spU K mg kn (dDef m N.length t)) := by
  refine F.ok S (fun vs H Q E h => by rw [spU_len h, hm]) (fun cdv A outer s H vs Q E hr h => ?_)
  obtain ⟨pd, pc, Hv, ds, n, Pz, Ex, sm, np, p, kk, hU, q, xx⟩ := h
  exact ⟨_, hb cdv A outer s H E ⟨⟨K, mg, pd, pc, kn⟩, H, Hv, fun c d _ H' => E c d H'⟩ hr rfl rfl rfl, body_of rfl rfl (fun _ _ _ _ z => z) sm np p kk hU q xx⟩
/-- a def that may let an error out -/
theorem fn_DX (F : Fun K x qual st f fd) (S : FnScope N ps (defScope st)) (hm : ps.length = m)
    (hb : ∀ (cdv : Value) (A : Around) (outer : List Env) (s : Shared) (H : Hp) (E : XK) (Z : Zx), Room k (A.deeper (envOfC qual (defScope st) s.heap.objs.size f cdv)) → Z.g.K = K → Z.g.mg = mg → Z.g.kn = kn → Z.W = (fun c d _ H' => E c d H') → PSs (cxOf (L2.CX P w) P w K mg base N qual (defScope st) f cdv A outer s H E) (defBody st) (liftS Z t)) :
    FnOk P w K mg base (L2.CX P w) (k + 1) f fd ps (spU K mg kn (dDef m N.length t)) := by
  refine F.okX S (fun vs H Q E h => by rw [spU_len h, hm]) (fun cdv A outer s H vs Q E hr h => ?_)
  obtain ⟨pd, pc, Hv, ds, n, Pz, Ex, sm, np, p, kk, hU, q, xx⟩ := h
  exact ⟨_, hb cdv A outer s H E ⟨⟨K, mg, pd, pc, kn⟩, H, Hv, fun c d _ H' => E c d H'⟩ hr rfl rfl rfl rfl, body_of rfl rfl (fun _ _ _ _ z => z) sm np p kk hU q xx⟩
end
section
variable {X : Cx} {Z : Zx} {e a b : Expr} {es : List Expr} {de : DE} {ra : DA} {pos p : Pos} {k : Nat} {x : Str} {ps : List Str} {U : List D → M D}
theorem eta_g {g : G} {K : PySem.W.Frag} {mg : Str → Option Value} {kn : Kn} (h1 : g.K = K) (h2 : g.mg = mg) (h3 : g.kn = kn) : (⟨K, mg, g.pd, g.pc, kn⟩ : G) = g := by
  subst h1 h2 h3
  rfl
theorem d_call0 (o : OkD X.prog X.w X.K X.mg X.base CX0 k x ps (spU X.K X.mg kn U)) (hr : Room k X.A) (zk : Z.g.K = X.K) (zm : Z.g.mg = X.mg) (zn : Z.g.kn = kn) (ha : PA X (e :: es) (liftA Z ra)) (hg : Gl X x := by rfl)
    (hdb : (x == ("__debug__" : Str)) = false := by decide) (he : starEach (e :: es) X.env = (false, eval e X.env) :: starEach es X.env := by rfl) (hpl : (backTo pos (starEach es X.env)).any (·.1) = false := by rfl) :
    PE X (.Call (.Name x p) (e :: es) [] pos) (lift Z (dCall0 U ra)) := up (pe_callD o hr ha hg hdb he hpl) fun σ H Q ⟨δ, Hv, n, P, E, r, h1, q, xx⟩ => by
  refine ⟨δ, Hv, n, _, E, r, h1, (fun d v H' Hv' n' h2 ee p k => ?_), xx⟩
  have eg := eta_g zk zm zn
  refine ⟨Z.g.pd, Z.g.pc, Hv', d, n', P, (fun _ _ _ => False), ee.sub, (r.step ee p).npd, ?_⟩
  rw [eg]
  exact ⟨p, k, h2, q.step ee p, fun _ _ _ _ _ _ _ z => z.elim⟩
theorem d_call00 (o : OkD X.prog X.w X.K X.mg X.base CX0 k x ps (spU X.K X.mg kn U)) (hr : Room k X.A) (zk : Z.g.K = X.K) (zm : Z.g.mg = X.mg) (zn : Z.g.kn = kn) (hg : Gl X x := by rfl)
    (hdb : (x == ("__debug__" : Str)) = false := by decide) : PE X (.Call (.Name x p) [] [] pos) (lift Z (dCall0 U dNil)) := up (pe_callD0 o hr hg hdb) fun σ H Q ⟨δ, Hv, n, P, E, r, h1, q, xx⟩ => by
  have eg := eta_g zk zm zn
  refine ⟨Z.g.pd, Z.g.pc, Hv, [], n, P, (fun _ _ _ => False), r.sub, r.npd, ?_⟩
  rw [eg]
  exact ⟨r.pen, .nil, h1, q, fun _ _ _ _ _ _ _ z => z.elim⟩
theorem d_callX (o : OkD X.prog X.w X.K X.mg X.base (L2.CX X.prog X.w) k x ps (spU X.K X.mg kn U)) (hr : Room k X.A) (zk : Z.g.K = X.K) (zm : Z.g.mg = X.mg) (zn : Z.g.kn = kn) (tk : Takes X Z.W) (ha : PA X (e :: es) (liftA Z ra)) (hg : Gl X x := by rfl)
    (hdb : (x == ("__debug__" : Str)) = false := by decide) (he : starEach (e :: es) X.env = (false, eval e X.env) :: starEach es X.env := by rfl) (hpl : (backTo pos (starEach es X.env)).any (·.1) = false := by rfl) :
    PE X (.Call (.Name x p) (e :: es) [] pos) (lift Z (dCall U ra)) := up (pe_callDS o hr tk ha hg hdb he hpl) fun σ H Q ⟨δ, Hv, n, P, E, r, h1, q, xx⟩ => by
  refine ⟨δ, Hv, n, _, E, r, h1, (fun d v H' Hv' n' h2 ee p k => ?_), xx⟩
  have eg := eta_g zk zm zn
  refine ⟨Z.g.pd, Z.g.pc, Hv', d, n', P, E, ee.sub, (r.step ee p).npd, ?_⟩
  rw [eg]
  exact ⟨p, k, h2, q.step ee p, xx.step ee p⟩
/-- f(k = v, ..) of a def that lets no error out -/
theorem d_callK {kws : List Keyword} {ks : List Str} {gV : List V → List V → List V} {gD : List D → List D} (o : OkK X.prog X.w X.K X.mg X.base k x ks gV (spU X.K X.mg kn U)) (hr : Room k X.A) (zk : Z.g.K = X.K) (zm : Z.g.mg = X.mg) (zn : Z.g.kn = kn) (hkw : PK X kws (liftA Z ra))
    (hG : ∀ {Hv : Hp} {vs : List V} {ds : List D}, DvAll Z.g Hv vs ds → DvAll Z.g Hv (gV [] vs) (gD ds)) (hg : Gl X x := by rfl) (hall : (backToKw pos (keywordEach kws X.env)).all (·.1.isSome) = true := by rfl) (hks : (backToKw pos (keywordEach kws X.env)).filterMap (·.1) = ks := by rfl)
    (hdb : (x == ("__debug__" : Str)) = false := by decide)
    (hpl : ((backTo pos (starEach [] X.env)).any (·.1) || (backToKw pos (keywordEach kws X.env)).any (·.1.isNone)) = false := by rfl) : PE X (.Call (.Name x p) [] kws pos) (lift Z (dCall0 (fun ds => U (gD ds)) ra)) := up (pe_callDK o hr hkw hg hall hks hdb hpl) fun σ H Q ⟨δ, Hv, n, P, E, r, h1, q, xx⟩ => by
  refine ⟨δ, Hv, n, _, E, r, h1, (fun d v H' Hv' n' h2 ee p k => ?_), xx⟩
  have eg := eta_g zk zm zn
  refine ⟨Z.g.pd, Z.g.pc, Hv', gD d, n', P, (fun _ _ _ => False), ee.sub, (r.step ee p).npd, ?_⟩
  rw [eg]
  exact ⟨p, hG k, h2, q.step ee p, fun _ _ _ _ _ _ _ z => z.elim⟩
theorem upK {kws : List Keyword} {t t' : TA} (h : PK X kws t) (k : ∀ σ H Q, t' σ H Q → t σ H Q) : PK X kws t' := ⟨fun pos pins s σ H Q I q => h.run pos pins s σ H Q I (k σ H Q q)⟩
theorem dk_nil : PK X [] (liftA Z dNil) := upK pk_nil fun σ H Q ⟨δ, Hv, n, P, E, r, h1, q, _⟩ => q [] [] H Hv n h1 (.refl r.sub) r.pen .nil
theorem dk_cons {kws : List Keyword} {nm : Option Str} {kpos : Pos} (ha : PE X e (lift Z de)) (hr : PK X kws (liftA Z ra)) : PK X (⟨nm, e, kpos⟩ :: kws) (liftA Z (dCons de ra)) :=
  upK (pk_cons ha hr) fun σ H Q ⟨δ, Hv, n, P, E, r, h1, q, x⟩ => ⟨δ, Hv, n, _, E, r, h1, fun d v H' Hv' n' h2 e p k =>
    ⟨δ, Hv', n', _, E, r.step e p, h2, fun ds vs H2 Hv2 n2 h3 e2 p2 k2 => q (d :: ds) (v :: vs) H2 Hv2 n2 h3 (e.trans (fun _ => p.pd) e2) p2 (.cons (k.mono e2.see) k2), x.step e p⟩, x⟩
end
end Dn

/-! Values as trees: operations. -/
namespace Dn
open PySem PySem.Spec PyProof.Rows L2 Br
theorem opr_or {X : Cx} {f : Value → Value → Sem Value} {r r' : R2} (h : OpR X f r) (h' : OpR X f r') : OpR X f (fun x y H Q => r x y H Q ∨ r' x y H Q) := by
  intro pins s σ H x y v u Q I rx ry q
  rcases q with q | q
  · exact h pins s σ H x y v u Q I rx ry q
  · exact h' pins s σ H x y v u Q I rx ry q
theorem slr_or {X : Cx} {r r' : V → Option Int → Option Int → Hp → VK → Prop} (h : SlR X r) (h' : SlR X r') : SlR X (fun x lo hi H Q => r x lo hi H Q ∨ r' x lo hi H Q) := by
  intro pins s σ H x v vl vu lo hi sl Q I rx hs pl pu q
  rcases q with q | q
  · exact h pins s σ H x v vl vu lo hi sl Q I rx hs pl pu q
  · exact h' pins s σ H x v vl vu lo hi sl Q I rx hs pl pu q
/-! ### + -/
def gAdd : List D → Option D
  | [.int i, .int j] => some (.int (i + j))
  | [.str x, .str y] => if x.length + y.length ≤ sizeLine then some (.str (x ++ y)) else none
  | [.lst xs, .lst ys] => if xs.length + ys.length ≤ sizeLine then some (.lst (xs ++ ys)) else none
  | [.tup xs, .tup ys] => if xs.length + ys.length ≤ sizeLine then some (.tup (xs ++ ys)) else none
  | _ => none
section
variable {X : Cx} {Z : Zx} {g : G}
theorem o_add (zk : g.K = X.K) : DOp X g (binaryOp .Add) gAdd := by
  refine ⟨_, opr_or op_add (opr_or op_add_str (opr_or op_cat op_catA)), ?_⟩
  intro H Hv x y dx dy d Q s kx ky hf q
  unfold gAdd at hf
  split at hf
  · rename_i i j e
    cases e; cases hf; cases kx; cases ky
    exact .inl ⟨i, j, rfl, rfl, q.here s (.int _)⟩
  · rename_i a b e
    cases e
    split at hf
    · rename_i hl
      cases hf; cases kx; cases ky
      exact .inr (.inl ⟨a, b, rfl, rfl, hl, q.here s (.str _)⟩)
    · cases hf
  · rename_i a b e
    cases e
    split at hf
    · rename_i hl
      cases hf
      cases kx with
      | @lst p xs _ h1 k1 =>
        cases ky with
        | @lst p2 ys _ h2 k2 => exact .inr (.inr (.inl ⟨p, p2, xs, ys, rfl, rfl, s _ _ h1, s _ _ h2, by rw [k1.len, k2.len]; exact hl, fun a ha => q.lst s ha (k1.append k2)⟩))
    · cases hf
  · rename_i a b e
    cases e
    split at hf
    · rename_i hl
      cases hf
      cases kx with
      | @tup p xs _ h1 k1 =>
        cases ky with
        | @tup p2 ys _ h2 k2 =>
          refine .inr (.inr (.inr ⟨p, p2, xs, ys, rfl, rfl, zk ▸ same_seqT s h1, zk ▸ same_seqT s h2, by rw [k1.len, k2.len]; exact hl, fun e => ?_, fun _ e => ?_, fun _ _ a ha => q.tup s ha (k1.append k2)⟩))
          · subst e; cases k1; exact q.here s (.tup h2 k2)
          · subst e; cases k2; rw [List.append_nil] at q; exact q.here s (.tup h1 k1)
    · cases hf
  · cases hf
def gI2 (f : Int → Int → D) : List D → Option D
  | [.int i, .int j] => some (f i j)
  | _ => none
theorem o_I0 {op : Value → Value → Sem Value} {h : Int → Int → V} {f : Int → Int → D} (o : OpR X op (rI0 h)) (k : ∀ i j Hv, Dv g Hv (h i j) (f i j)) : DOp X g op (gI2 f) := by
  refine ⟨_, o, ?_⟩
  intro H Hv x y dx dy d Q s kx ky hf q
  unfold gI2 at hf
  split at hf
  · rename_i i j e
    cases e; cases hf; cases kx; cases ky
    exact ⟨i, j, rfl, rfl, q.here s (k i j Hv)⟩
  · cases hf
def gSub := gI2 fun i j => .int (i - j)
def gLt := gI2 fun i j => .bl (decide (i < j))
def gLe := gI2 fun i j => .bl (decide (i ≤ j))
def gGt := gI2 fun i j => .bl (decide (j < i))
def gGe := gI2 fun i j => .bl (decide (j ≤ i))
theorem o_sub : DOp X g (binaryOp .Sub) gSub := o_I0 op_sub fun _ _ _ => .int _
theorem o_lt : DOp X g (compareOp .Lt) gLt := o_I0 op_lt fun _ _ _ => .bl _
theorem o_le : DOp X g (compareOp .LtE) gLe := o_I0 op_le fun _ _ _ => .bl _
theorem o_gt : DOp X g (compareOp .Gt) gGt := o_I0 op_gt fun _ _ _ => .bl _
theorem o_ge : DOp X g (compareOp .GtE) gGe := o_I0 op_ge fun _ _ _ => .bl _
def gIc (C : Int → Int → Prop) [∀ i j, Decidable (C i j)] (f : Int → Int → D) : List D → Option D
  | [.int i, .int j] => if C i j then some (f i j) else none
  | _ => none
theorem o_Ic {op : Value → Value → Sem Value} {C : Int → Int → Prop} [∀ i j, Decidable (C i j)] {h : Int → Int → V} {f : Int → Int → D} (o : OpR X op (rI C h)) (k : ∀ i j Hv, Dv g Hv (h i j) (f i j)) : DOp X g op (gIc C f) := by
  refine ⟨_, o, ?_⟩
  intro H Hv x y dx dy d Q s kx ky hf q
  unfold gIc at hf
  split at hf
  · rename_i i j e
    cases e
    split at hf
    · rename_i hc
      cases hf; cases kx; cases ky
      exact ⟨i, j, rfl, rfl, hc, q.here s (k i j Hv)⟩
    · cases hf
  · cases hf
instance (i j : Int) : Decidable (CMulW i j) := by unfold CMulW; infer_instance
instance (i j : Int) : Decidable (CDivW i j) := by unfold CDivW; infer_instance
instance (i j : Int) : Decidable (CPow i j) := by unfold CPow; infer_instance
def gMod := gIc (fun _ j => 0 < j) fun i j => .int (i % j)
def gDiv := gIc CDivW fun i j => .int (i / j)
def gPow := gIc CPow fun i j => .int (i ^ j.toNat)
theorem o_mod : DOp X g (binaryOp .Mod) gMod := o_Ic op_mod fun _ _ _ => .int _
theorem o_div : DOp X g (binaryOp .FloorDiv) gDiv := o_Ic op_fdivW fun _ _ _ => .int _
theorem o_pow : DOp X g (binaryOp .Pow) gPow := o_Ic op_pow fun _ _ _ => .int _
def rep : Nat → List D → List D
  | 0, _ => []
  | n + 1, xs => xs ++ rep n xs
/-- ints; a tuple (not empty, of at most 1000) at most 1000 times; a list -/
def gMul : List D → Option D
  | [.int i, .int j] => if CMulW i j then some (.int (i * j)) else none
  | [.tup xs, .int k] => if xs ≠ [] ∧ 0 ≤ k ∧ k ≤ 1000 ∧ xs.length ≤ 1000 then some (.tup (rep k.toNat xs)) else none
  | [.lst xs, .int k] => if -(2 ^ 63) ≤ k ∧ k < 2 ^ 63 ∧ xs.length * k.toNat ≤ sizeLine then some (.lst (rep k.toNat xs)) else none
  | _ => none
theorem rep_dv {H : Hp} {vs : List V} {ds : List D} (k : DvAll g H vs ds) : ∀ n : Nat, DvAll g H (List.replicate n vs).flatten (rep n ds)
  | 0 => .nil
  | n + 1 => by
    rw [List.replicate_succ, List.flatten_cons]
    exact k.append (rep_dv k n)
theorem o_mul (zk : g.K = X.K) : DOp X g (binaryOp .Mult) gMul := by
  refine ⟨_, opr_or op_mulW (opr_or op_rep1 (opr_or op_repT op_rep)), ?_⟩
  intro H Hv x y dx dy d Q s kx ky hf q
  unfold gMul at hf
  split at hf
  · rename_i i j e
    cases e
    split at hf
    · rename_i hc
      cases hf; cases kx; cases ky
      exact .inl ⟨i, j, rfl, rfl, hc, q.here s (.int _)⟩
    · cases hf
  · rename_i xs k e
    cases e
    split at hf
    · rename_i hc
      cases hf
      cases ky
      cases kx with
      | @tup p vs _ h1 k1 =>
        have hne : vs ≠ [] := fun e => by subst e; cases k1; exact hc.1 rfl
        by_cases h0 : k = 0
        · subst h0
          exact .inr (.inl ⟨p, 0, vs, rfl, rfl, zk ▸ same_seqT s h1, hne, .inr ⟨rfl, fun a ha => q.tup s ha .nil⟩⟩)
        · by_cases h2 : k = 1
          · subst h2
            refine .inr (.inl ⟨p, 1, vs, rfl, rfl, zk ▸ same_seqT s h1, hne, .inl ⟨rfl, ?_⟩⟩)
            have e : rep (1 : Int).toNat xs = xs := by show xs ++ [] = xs; rw [List.append_nil]
            rw [e] at q
            exact q.here s (.tup h1 k1)
          · exact .inr (.inr (.inl ⟨p, k, vs, rfl, rfl, zk ▸ same_seqT s h1, hne, by omega, by omega, by rw [k1.len]; omega, fun a ha => q.tup s ha (rep_dv k1 _)⟩))
    · cases hf
  · rename_i xs k e
    cases e
    split at hf
    · rename_i hc
      cases hf
      cases ky
      cases kx with
      | @lst p vs _ h1 k1 => exact .inr (.inr (.inr ⟨p, k, vs, rfl, rfl, s _ _ h1, hc.1, hc.2.1, by rw [k1.len]; exact hc.2.2, fun a ha => q.lst s ha (rep_dv k1 _)⟩))
    · cases hf
  · cases hf
def gNeg : List D → Option D
  | [.int i] => some (.int (-i))
  | _ => none
theorem o_neg : DUn X g (unaryOp .USub) gNeg := by
  refine ⟨_, un_neg, ?_⟩
  intro H Hv x dx d Q s kx hf q
  unfold gNeg at hf
  split at hf
  · rename_i i e
    cases e; cases hf; cases kx
    exact ⟨i, rfl, q.here s (.int _)⟩
  · cases hf
/-! ### == and != -/
mutual
def D.py : D → Option PyData
  | .non => some .none
  | .bl b => some (.bool b)
  | .int i => some (.int i)
  | .str x => some (.str x)
  | .lst xs => (D.pyAll xs).map .list
  | .tup xs => (D.pyAll xs).map .tuple
  | _ => none
def D.pyAll : List D → Option (List PyData)
  | [] => some []
  | x :: xs => match D.py x, D.pyAll xs with
    | some a, some b => some (a :: b)
    | _, _ => none
end
mutual
theorem dp_of {H : Hp} : ∀ {d : D} {v : V} {p : PyData}, Dv g H v d → d.py = some p → Dp g.K H v p
  | _, _, _, .non, h => by cases h; exact .non
  | _, _, _, .bl b, h => by cases h; exact .bl b
  | _, _, _, .int i, h => by cases h; exact .int i
  | _, _, _, .str x, h => by cases h; exact .str x
  | .lst ds, _, p, .lst ha ks, h => by
    unfold D.py at h
    cases e : D.pyAll ds with
    | none => rw [e] at h; cases h
    | some q => rw [e] at h; cases h; exact .lst (sqL ha) (dpAll_of ks e)
  | .tup ds, _, p, .tup ha ks, h => by
    unfold D.py at h
    cases e : D.pyAll ds with
    | none => rw [e] at h; cases h
    | some q => rw [e] at h; cases h; exact .tup ha (dpAll_of ks e)
  | _, _, _, .obj _ _ _, h => by cases h
  | _, _, _, .exc _ _ _ _, h => by cases h
  | _, _, _, .dct _ _, h => by cases h
  | _, _, _, .pen, h => by cases h
  | _, _, _, .scr _, h => by cases h
  | _, _, _, .fn _ _ _, h => by cases h
theorem dpAll_of {H : Hp} : ∀ {ds : List D} {vs : List V} {ps : List PyData}, DvAll g H vs ds → D.pyAll ds = some ps → DpAll g.K H vs ps
  | [], _, _, .nil, h => by cases h; exact .nil
  | d :: ds, _, ps, .cons k ks, h => by
    unfold D.pyAll at h
    cases e : d.py with
    | none => rw [e] at h; cases h
    | some a =>
      cases e2 : D.pyAll ds with
      | none => rw [e, e2] at h; cases h
      | some b => rw [e, e2] at h; cases h; exact .cons (dp_of k e) (dpAll_of ks e2)
end
/-- x == y -/
def eqD (d e : D) : Option Bool := match d, e with
  | .int i, .int j => some (decide (i = j))
  | .str x, .str y => some (decide (x = y))
  | d, e => match d.py, e.py with
    | some p, some q => if SeqAt.shaped p = true ∧ SeqAt.shaped q = true then some (PyData.eqv p q) else none
    | _, _ => none
def gEq : List D → Option D
  | [d, e] => (eqD d e).map .bl
  | _ => none
def gNe : List D → Option D
  | [d, e] => (eqD d e).map fun b => .bl !b
  | _ => none
theorem eqD_cases {d e : D} {b : Bool} (h : eqD d e = some b) : (∃ i j, d = .int i ∧ e = .int j ∧ b = decide (i = j)) ∨ (∃ x y, d = .str x ∧ e = .str y ∧ b = decide (x = y)) ∨ ∃ p q, d.py = some p ∧ e.py = some q ∧ SeqAt.shaped p = true ∧ SeqAt.shaped q = true ∧ b = PyData.eqv p q := by
  unfold eqD at h
  split at h
  · exact .inl ⟨_, _, rfl, rfl, (Option.some.inj h).symm⟩
  · exact .inr (.inl ⟨_, _, rfl, rfl, (Option.some.inj h).symm⟩)
  · split at h
    · rename_i p q e1 e2
      split at h
      · rename_i hc
        exact .inr (.inr ⟨p, q, e1, e2, hc.1, hc.2, (Option.some.inj h).symm⟩)
      · cases h
    · cases h
theorem o_eq (zk : g.K = X.K) (hu : X.A.units + 64 < cLine) : DOp X g (compareOp .Eq) gEq := by
  refine ⟨_, opr_or op_eq (op_eqD hu), ?_⟩
  intro H Hv x y dx dy d Q s kx ky hf q
  unfold gEq at hf
  simp only at hf
  cases e : eqD dx dy with
  | none => rw [e] at hf; cases hf
  | some b =>
    rw [e] at hf
    cases hf
    rcases eqD_cases e with ⟨i, j, rfl, rfl, rfl⟩ | ⟨a, c, rfl, rfl, rfl⟩ | ⟨p, r, e1, e2, s1, s2, rfl⟩
    · cases kx; cases ky
      refine .inl ⟨rfl, ?_⟩
      have ev : decide (V.int i = V.int j) = decide (i = j) := by by_cases h : i = j <;> simp [h]
      rw [ev]
      exact q.here s (.bl _)
    · cases kx; cases ky
      refine .inl ⟨rfl, ?_⟩
      have ev : decide (V.str a = V.str c) = decide (a = c) := by by_cases h : a = c <;> simp [h]
      rw [ev]
      exact q.here s (.bl _)
    · exact .inr ⟨p, r, zk ▸ dp_same s _ _ (dp_of kx e1), zk ▸ dp_same s _ _ (dp_of ky e2), s1, s2, q.here s (.bl _)⟩
theorem o_ne (zk : g.K = X.K) (hu : X.A.units + 64 < cLine) : DOp X g (compareOp .NotEq) gNe := by
  refine ⟨_, opr_or op_ne (op_neD hu), ?_⟩
  intro H Hv x y dx dy d Q s kx ky hf q
  unfold gNe at hf
  simp only at hf
  cases e : eqD dx dy with
  | none => rw [e] at hf; cases hf
  | some b =>
    rw [e] at hf
    cases hf
    rcases eqD_cases e with ⟨i, j, rfl, rfl, rfl⟩ | ⟨a, c, rfl, rfl, rfl⟩ | ⟨p, r, e1, e2, s1, s2, rfl⟩
    · cases kx; cases ky
      refine .inl ⟨rfl, ?_⟩
      have ev : decide (V.int i = V.int j) = decide (i = j) := by by_cases h : i = j <;> simp [h]
      rw [ev]
      exact q.here s (.bl _)
    · cases kx; cases ky
      refine .inl ⟨rfl, ?_⟩
      have ev : decide (V.str a = V.str c) = decide (a = c) := by by_cases h : a = c <;> simp [h]
      rw [ev]
      exact q.here s (.bl _)
    · exact .inr ⟨p, r, zk ▸ dp_same s _ _ (dp_of kx e1), zk ▸ dp_same s _ _ (dp_of ky e2), s1, s2, q.here s (.bl _)⟩
/-! ### is None -/
def D.isN : D → Bool
  | .non => true
  | _ => false
def gIs : List D → Option D
  | [d, .non] => some (.bl d.isN)
  | _ => none
def gIsNot : List D → Option D
  | [d, .non] => some (.bl !d.isN)
  | _ => none
theorem isN_dv {H : Hp} {v : V} {d : D} (k : Dv g H v d) : decide (v = .non) = d.isN := by
  cases k <;> rfl
theorem o_is : DOp X g (compareOp .Is) gIs := by
  refine ⟨_, op_isN, ?_⟩
  intro H Hv x y dx dy d Q s kx ky hf q
  unfold gIs at hf
  split at hf
  · rename_i e
    cases e
    cases hf
    cases ky
    exact ⟨rfl, by rw [isN_dv kx]; exact q.here s (.bl _)⟩
  · cases hf
theorem o_isNot : DOp X g (compareOp .IsNot) gIsNot := by
  refine ⟨_, op_notN, ?_⟩
  intro H Hv x y dx dy d Q s kx ky hf q
  unfold gIsNot at hf
  split at hf
  · rename_i e
    cases e
    cases hf
    cases ky
    exact ⟨rfl, by rw [isN_dv kx]; exact q.here s (.bl _)⟩
  · cases hf
/-! ### x[i], x[i:j] -/
def gIx : List D → Option D
  | [.lst xs, .int i] => atI xs i
  | [.tup xs, .int i] => atI xs i
  | [.str z, .int i] => if z.length ≤ sizeLine then (atI z.cps.toList i).map fun c => .str ⟨#[c]⟩ else none
  | _ => none
theorem at_dv {H : Hp} {vs : List V} {ds : List D} {i : Int} {d : D} (k : DvAll g H vs ds) (h : atI ds i = some d) : ∃ v, atI vs i = some v ∧ Dv g H v d := by
  unfold atI at h ⊢
  rw [k.len]
  cases e : ixN ds.length i with
  | none => rw [e] at h; cases h
  | some j =>
    rw [e] at h
    obtain ⟨v, h1, h2⟩ := k.get (show ds[j]? = some d from h)
    exact ⟨v, h1, h2⟩
theorem o_ix (zk : g.K = X.K) : DIx X g gIx := by
  refine ⟨_, ix_seq, ?_⟩
  intro H Hv x y dx dy d Q s kx ky hf q
  unfold gIx at hf
  split at hf
  · rename_i xs i e
    cases e
    cases ky
    cases kx with
    | @lst p vs _ h1 k1 =>
      obtain ⟨v, a1, a2⟩ := at_dv k1 hf
      exact .inl ⟨p, vs, i, v, rfl, rfl, sqL (s _ _ h1), a1, q.here s a2⟩
  · rename_i xs i e
    cases e
    cases ky
    cases kx with
    | @tup p vs _ h1 k1 =>
      obtain ⟨v, a1, a2⟩ := at_dv k1 hf
      exact .inr (.inl ⟨p, vs, i, v, rfl, rfl, zk ▸ same_seqT s h1, a1, q.here s a2⟩)
  · rename_i z i e
    cases e
    cases ky
    cases kx
    split at hf
    · rename_i hl
      cases e : atI z.cps.toList i with
      | none => rw [e] at hf; cases hf
      | some c =>
        rw [e] at hf
        cases hf
        exact .inr (.inr ⟨z, i, c, rfl, rfl, hl, e, q.here s (.str _)⟩)
    · cases hf
  · cases hf
end
end Dn

/-! Values as trees: slices, built-ins, lists that are changed, own classes. -/
namespace Dn
open PySem PySem.Spec PyProof.Rows L2 Br
/-! ### slices -/
abbrev DB := DS → M (Option Int)
def dNoB : DB := fun _ n P _ => P none n
def dB (e : DE) : DB := fun δ n P E => e δ n (fun d n' => ∃ i, d = .int i ∧ P (some i) n') E
def cut {α : Type} (xs : List α) (lo hi : Option Int) : List α := (xs.drop (HT.sIx xs.length 0 lo)).take (HT.sIx xs.length xs.length hi - HT.sIx xs.length 0 lo)
def gSl (lo hi : Option Int) : D → Option D
  | .lst xs => some (.lst (cut xs lo hi))
  | .tup xs => some (.tup (cut xs lo hi))
  | .str z => if z.length ≤ sizeLine then some (.str (cutS z lo hi)) else none
  | _ => none
def dSl (e : DE) (l h : DB) : DE := fun δ n P E => e δ n (fun x n1 => l δ n1 (fun lo n2 => h δ n2 (fun hi n3 => ∃ d, gSl lo hi x = some d ∧ P d n3) E) E) E
def liftB (Z : Zx) (b : DB) : TO := fun σ H Q => ∃ δ Hv n P E, Rel Z.g Z.H0 Z.Hv0 σ H Hv δ n ∧ b δ n P E ∧ (∀ o H' Hv' n', P o n' → Ext Z.g H Hv H' Hv' → Pn Z.g H' n' → Q o H') ∧ EOk Z.g H Hv E (fun c d H' => Z.W c d σ H')
theorem cut_dv {g : G} {H : Hp} {vs : List V} {ds : List D} (k : DvAll g H vs ds) (lo hi : Option Int) : DvAll g H (cutV vs lo hi) (cut ds lo hi) := by
  unfold cutV cut
  rw [k.len]
  exact (k.drop _).take _
section
variable {X : Cx} {Z : Zx} {e a b c : Expr} {es : List Expr} {da db de : DE} {ra : DA} {pos p p2 : Pos} {bl bh : DB} {lo hi : Option Expr} {g : G}
theorem db_none : PO X none (liftB Z dNoB) := ⟨fun pins s σ H Q I ⟨δ, Hv, n, P, E, r, h1, q, x⟩ => po_none.run pins s σ H Q I (q none H Hv n h1 (.refl r.sub) r.pen)⟩
theorem db_some (h : PE X e (lift Z de)) : PO X (some e) (liftB Z (dB de)) := ⟨fun pins s σ H Q I ⟨δ, Hv, n, P, E, r, h1, q, x⟩ => (po_some h).run pins s σ H Q I ⟨δ, Hv, n, _, E, r, h1, (fun d v H' Hv' n' h2 e p k => by
  obtain ⟨i, rfl, h3⟩ := h2
  cases k
  exact ⟨i, rfl, q _ _ _ _ h3 e p⟩), x⟩⟩
theorem d_sl (zk : Z.g.K = X.K) (he : PE X e (lift Z de)) (hl : PO X lo (liftB Z bl)) (hh : PO X hi (liftB Z bh)) : PE X (.Subscript e (.Slice lo hi none p2) pos) (lift Z (dSl de bl bh)) :=
  up (pe_slice (slr_or sl_list (slr_or sl_tupA sl_str)) he hl hh) fun σ H Q ⟨δ, Hv, n, P, E, r, h1, q, x⟩ => ⟨δ, Hv, n, _, E, r, h1, fun d v H1 Hv1 n1 h2 e1 p1 k => ⟨δ, Hv1, n1, _, E, r.step e1 p1, h2, fun lo H2 Hv2 n2 h3 e2 p2 =>
    ⟨δ, Hv2, n2, _, E, (r.step e1 p1).step e2 p2, h3, (fun hi H3 Hv3 n3 h4 e3 p3 => by
      obtain ⟨z, hz, h5⟩ := h4
      have e12 := e1.trans (fun _ => p1.pd) e2
      have e13 := e12.trans (fun _ => p2.pd) e3
      have gv := gives_of (q.step e13 p3) p3 h5
      have k3 := k.mono (e2.see.trans e3.see)
      unfold gSl at hz
      split at hz
      · cases hz
        cases k3 with
        | @lst a vs _ ha ks => exact .inl ⟨a, vs, rfl, sqL (e3.sub _ _ ha), fun p hp => gv.lst e3.sub hp (cut_dv ks _ _)⟩
      · cases hz
        cases k3 with
        | @tup a vs _ ha ks =>
          refine .inr (.inl ⟨a, vs, rfl, zk ▸ same_seqT e3.sub ha, fun hw => ?_, fun _ p hp => gv.tup e3.sub hp (cut_dv ks _ _)⟩)
          refine gv.here e3.sub (.tup ha ?_)
          have := cut_dv ks lo hi
          unfold cutV at this
          rw [hw.1, hw.2, List.drop_zero, Nat.sub_zero, List.take_length] at this
          exact this
      · split at hz
        · rename_i hl
          cases hz
          cases k3
          exact .inr (.inr ⟨_, rfl, hl, gv.here e3.sub (.str _)⟩)
        · cases hz
      · cases hz), ((x.step e1 p1).step e2 p2)⟩, x.step e1 p1⟩, x⟩
/-! ### t[::-1] of a tuple -/
def gRevT : List D → Option D
  | [.tup xs] => some (.tup xs.reverse)
  | _ => none
theorem d_revT {k : Nat} {p1 p3 : Pos} (zk : Z.g.K = X.K) (he : PE X e (lift Z de)) : PE X (.Subscript e (.Slice none none (some (.UnaryOp .USub (.Constant (.int 1) k p1) p2)) p3) pos) (lift Z (dApp gRevT (dCons de dNil))) :=
  up (pe_revT he) fun σ H Q ⟨δ, Hv, n, P, E, rr, h1, q, x⟩ => ⟨δ, Hv, n, _, E, rr, h1, (fun d v H' Hv' n' h2 e p k => by
    obtain ⟨z, hz, h3⟩ := h2
    unfold gRevT at hz
    split at hz
    · rename_i xs ee
      cases ee
      cases hz
      cases k with
      | @tup a vs _ ha ks => exact ⟨a, vs, rfl, zk ▸ same_seqT e.sub ha, fun p' hp => (gives_of (q.step e p) p h3).tup e.sub hp ks.reverse⟩
    · cases hz), x⟩
/-! ### built-ins -/
def gLen : List D → Option D
  | [.lst xs] => some (.int xs.length)
  | [.tup xs] => some (.int xs.length)
  | [.str z] => if z.length ≤ sizeLine then some (.int z.length) else none
  | [.scr n] => some (.int n)
  | _ => none
theorem c_len (zk : g.K = X.K) : DCl X g (.builtin "len") gLen := by
  refine ⟨_, call_len, ?_⟩
  intro H Hv xs ds d Q s k hf q
  unfold gLen at hf
  split at hf
  · rename_i ys
    cases hf
    cases k with
    | cons k1 k2 =>
      cases k2
      cases k1 with
      | lst ha ks => exact ⟨_, ys.length, rfl, .inl ⟨_, sqL (s _ _ ha), ks.len.symm⟩, q.here s (.int _)⟩
  · rename_i ys
    cases hf
    cases k with
    | cons k1 k2 =>
      cases k2
      cases k1 with
      | tup ha ks => exact ⟨_, ys.length, rfl, .inr ⟨_, zk ▸ same_seqT s ha, ks.len.symm⟩, q.here s (.int _)⟩
  · rename_i z
    split at hf
    · rename_i hl
      cases hf
      cases k with
      | cons k1 k2 =>
        cases k2
        cases k1
        exact ⟨_, z.length, rfl, ⟨hl, rfl⟩, q.here s (.int _)⟩
    · cases hf
  · cases hf
    cases k with
    | cons k1 k2 =>
      cases k2
      cases k1 with
      | scr ha => exact ⟨_, _, rfl, .inl ⟨_, zk ▸ s.seq ha, rfl⟩, q.here s (.int _)⟩
  · cases hf
def gAbs : List D → Option D
  | [.int i] => some (.int (if i < 0 then -i else i))
  | _ => none
theorem c_abs : DCl X g (.builtin "abs") gAbs := by
  refine ⟨_, call_abs, ?_⟩
  intro H Hv xs ds d Q s k hf q
  unfold gAbs at hf
  split at hf
  · rename_i i
    cases hf
    cases k with
    | cons k1 k2 =>
      cases k2
      cases k1
      exact ⟨i, rfl, q.here s (.int _)⟩
  · cases hf
def gMin : List D → Option D
  | [.int i, .int j] => some (.int (if j < i then j else i))
  | _ => none
def gMax : List D → Option D
  | [.int i, .int j] => some (.int (if j > i then j else i))
  | _ => none
theorem c_min (hc : X.calm = true) : DCl X g (.builtin "min") gMin := by
  refine ⟨_, call_min2 hc, ?_⟩
  intro H Hv xs ds d Q s k hf q
  unfold gMin at hf
  split at hf
  · rename_i i j
    cases hf
    cases k with
    | cons k1 k2 =>
      cases k2 with
      | cons k2 k3 =>
        cases k3
        cases k1
        cases k2
        exact ⟨i, j, rfl, q.here s (.int _)⟩
  · cases hf
theorem c_max (hc : X.calm = true) : DCl X g (.builtin "max") gMax := by
  refine ⟨_, call_max2 hc, ?_⟩
  intro H Hv xs ds d Q s k hf q
  unfold gMax at hf
  split at hf
  · rename_i i j
    cases hf
    cases k with
    | cons k1 k2 =>
      cases k2 with
      | cons k2 k3 =>
        cases k3
        cases k1
        cases k2
        exact ⟨i, j, rfl, q.here s (.int _)⟩
  · cases hf
def gInt : List D → Option D
  | [.int i] => some (.int i)
  | [.bl b] => some (.int (if b then 1 else 0))
  | _ => none
theorem c_int : DCl X g (.type "int") gInt := by
  refine ⟨_, call_int1, ?_⟩
  intro H Hv xs ds d Q s k hf q
  unfold gInt at hf
  split at hf
  · rename_i i
    cases hf
    cases k with
    | cons k1 k2 =>
      cases k2
      cases k1
      exact .inl ⟨i, rfl, q.here s (.int _)⟩
  · rename_i i
    cases hf
    cases k with
    | cons k1 k2 =>
      cases k2
      cases k1
      exact .inr ⟨i, rfl, q.here s (.int _)⟩
  · cases hf
def gTuple : List D → Option D
  | [.lst xs] => some (.tup xs)
  | [.tup xs] => some (.tup xs)
  | _ => none
theorem c_tuple (zk : g.K = X.K) : DCl X g (.type "tuple") gTuple := by
  refine ⟨_, call_tuple_of, ?_⟩
  intro H Hv xs ds d Q s k hf q
  unfold gTuple at hf
  split at hf
  · cases hf
    cases k with
    | cons k1 k2 =>
      cases k2
      cases k1 with
      | lst ha ks => exact ⟨_, _, rfl, .inl ⟨sqL (s _ _ ha), fun l hl => q.tup s hl ks⟩⟩
  · cases hf
    cases k with
    | cons k1 k2 =>
      cases k2
      cases k1 with
      | tup ha ks => exact ⟨_, _, rfl, .inr ⟨zk ▸ same_seqT s ha, q.here s (.tup ha ks)⟩⟩
  · cases hf
def gListOf : List D → Option D
  | [.lst xs] => some (.lst xs)
  | [.tup xs] => some (.lst xs)
  | _ => none
theorem c_list (zk : g.K = X.K) : DCl X g (.type "list") gListOf := by
  refine ⟨_, call_list_of, ?_⟩
  intro H Hv xs ds d Q s k hf q
  unfold gListOf at hf
  split at hf
  · cases hf
    cases k with
    | cons k1 k2 =>
      cases k2
      cases k1 with
      | lst ha ks => exact ⟨_, _, rfl, .inl (sqL (s _ _ ha)), fun l hl => q.lst s hl ks⟩
  · cases hf
    cases k with
    | cons k1 k2 =>
      cases k2
      cases k1 with
      | tup ha ks => exact ⟨_, _, rfl, .inr (zk ▸ same_seqT s ha), fun l hl => q.lst s hl ks⟩
  · cases hf
def bools : List D → Option (List Bool)
  | [] => some []
  | .bl b :: r => (bools r).map (b :: ·)
  | _ => none
theorem bools_dv {H : Hp} : ∀ {ds : List D} {vs : List V} {bs : List Bool}, DvAll g H vs ds → bools ds = some bs → vs = bs.map V.bl
  | [], _, _, .nil, h => by cases h; rfl
  | d :: ds, _, bs, .cons k ks, h => by
    cases d with
    | bl b =>
      unfold bools at h
      cases e : bools ds with
      | none => rw [e] at h; cases h
      | some bs' =>
        rw [e] at h
        cases h
        cases k
        rw [bools_dv ks e]
        rfl
    | _ => cases h
def gAll : List D → Option D
  | [.lst xs] => (bools xs).map fun bs => .bl (bs.all id)
  | _ => none
def gAny : List D → Option D
  | [.lst xs] => (bools xs).map fun bs => .bl (bs.any id)
  | _ => none
theorem c_all (hc : X.calm = true) (zk : g.K = X.K) : DCl X g (.builtin "all") gAll := by
  refine ⟨_, cr_all hc, ?_⟩
  intro H Hv xs ds d Q s k hf q
  unfold gAll at hf
  split at hf
  · rename_i ys
    cases e : bools ys with
    | none => rw [e] at hf; cases hf
    | some bs =>
      rw [e] at hf
      cases hf
      cases k with
      | cons k1 k2 =>
        cases k2
        cases k1 with
        | lst ha ks => exact ⟨_, bs, rfl, by rw [← bools_dv ks e]; exact sqL (s _ _ ha), q.here s (.bl _)⟩
  · cases hf
theorem c_any (hc : X.calm = true) (zk : g.K = X.K) : DCl X g (.builtin "any") gAny := by
  refine ⟨_, cr_any hc, ?_⟩
  intro H Hv xs ds d Q s k hf q
  unfold gAny at hf
  split at hf
  · rename_i ys
    cases e : bools ys with
    | none => rw [e] at hf; cases hf
    | some bs =>
      rw [e] at hf
      cases hf
      cases k with
      | cons k1 k2 =>
        cases k2
        cases k1 with
        | lst ha ks => exact ⟨_, bs, rfl, by rw [← bools_dv ks e]; exact sqL (s _ _ ha), q.here s (.bl _)⟩
  · cases hf
def intsOf : List D → Option (List Int)
  | [] => some []
  | .int b :: r => (intsOf r).map (b :: ·)
  | _ => none
theorem intsOf_dv {H : Hp} : ∀ {ds : List D} {vs : List V} {bs : List Int}, DvAll g H vs ds → intsOf ds = some bs → vs = bs.map V.int
  | [], _, _, .nil, h => by cases h; rfl
  | d :: ds, _, bs, .cons k ks, h => by
    cases d with
    | int b =>
      unfold intsOf at h
      cases e : intsOf ds with
      | none => rw [e] at h; cases h
      | some bs' =>
        rw [e] at h
        cases h
        cases k
        rw [intsOf_dv ks e]
        rfl
    | _ => cases h
def gSum : List D → Option D
  | [.lst xs] => (intsOf xs).map fun bs => .int bs.sum
  | _ => none
theorem c_sum (hc : X.calm = true) (zk : g.K = X.K) : DCl X g (.builtin "sum") gSum := by
  refine ⟨_, cr_sum hc, ?_⟩
  intro H Hv xs ds d Q s k hf q
  unfold gSum at hf
  split at hf
  · rename_i ys
    cases e : intsOf ys with
    | none => rw [e] at hf; cases hf
    | some bs =>
      rw [e] at hf
      cases hf
      cases k with
      | cons k1 k2 =>
        cases k2
        cases k1 with
        | lst ha ks => exact ⟨_, bs, rfl, by rw [← intsOf_dv ks e]; exact sqL (s _ _ ha), q.here s (.int _)⟩
  · cases hf
/-! ### isinstance -/
/-- f tells of data whether they are of the class u -/
def IsF (X : Cx) (g : G) (u : Value) (f : D → Option Bool) : Prop := ∀ {H Hv : Hp} {v : V} {d : D} {b : Bool}, Same Hv H → Dv g Hv v d → f d = some b → ∃ t, TyX X.K H v t ∧ PySem.W.kitOne X.K t u = some b
def gIsi (f : D → Option Bool) : List D → Option D
  | [d] => (f d).map .bl
  | _ => none
theorem d_isi {f : D → Option Bool} {cv : V} {u : Value} {px : Pos} (hf : IsF X Z.g u f) (hc : ClsV cv u) (hg : Gl X "isinstance") (hm : X.mg "isinstance" = none) (ha : PE X a (lift Z da)) (hb : PE X b (tC cv))
    (h1 : starEach [a, b] X.env = (false, eval a X.env) :: starEach [b] X.env := by rfl) (h2 : starEach [b] X.env = (false, eval b X.env) :: starEach [] X.env := by rfl) (hpl : (backTo pos (starEach [b] X.env)).any (·.1) = false := by rfl) :
    PE X (.Call (.Name "isinstance" px) [a, b] [] pos) (lift Z (dApp (gIsi f) (dCons da dNil))) :=
  up (pe_callB call_isi hg hm (by decide +kernel) (pa_cons ha (pa_cons hb pa_nil h2) h1) (by decide) (by decide) h1 hpl) fun σ H Q ⟨δ, Hv, n, P, E, rr, h1, q, x⟩ => ⟨δ, Hv, n, _, E, rr, h1, (fun d v H' Hv' n' h2 e p k => by
    obtain ⟨z, hz, h3⟩ := h2
    unfold gIsi at hz
    simp only at hz
    cases ef : f d with
    | none => rw [ef] at hz; cases hz
    | some bb =>
      rw [ef] at hz
      cases hz
      obtain ⟨t, t1, t2⟩ := hf e.sub k ef
      exact ⟨v, cv, t, u, bb, rfl, hc, t1, t2, q _ _ _ _ _ h3 e p (.bl _)⟩), x⟩
theorem tyx_tup {K : PySem.W.Frag} {H : Hp} {a : Addr} {xs : List V} (h : SqT K H a xs) : TyX K H (.ref a) (.type "tuple") := by
  rcases h with (h | ⟨o, h⟩) | ⟨o, its, n, h1, h2, _⟩
  · exact .base (.tup h)
  · exact .fTuple h
  · exact .kTuple h1 h2
def isInt : D → Option Bool
  | .non => some false
  | .bl _ => some true
  | .int _ => some true
  | .str _ => some false
  | .lst _ => some false
  | .tup _ => some false
  | .dct _ => some false
  | _ => none
def isBool : D → Option Bool
  | .non => some false
  | .bl _ => some true
  | .int _ => some false
  | .str _ => some false
  | .lst _ => some false
  | .tup _ => some false
  | .dct _ => some false
  | _ => none
def isStr : D → Option Bool
  | .non => some false
  | .bl _ => some false
  | .int _ => some false
  | .str _ => some true
  | .lst _ => some false
  | .tup _ => some false
  | .dct _ => some false
  | _ => none
def isTuple : D → Option Bool
  | .non => some false
  | .bl _ => some false
  | .int _ => some false
  | .str _ => some false
  | .lst _ => some false
  | .tup _ => some true
  | .dct _ => some false
  | _ => none
def isList : D → Option Bool
  | .non => some false
  | .bl _ => some false
  | .int _ => some false
  | .str _ => some false
  | .lst _ => some true
  | .tup _ => some false
  | .dct _ => some false
  | _ => none
def isDict : D → Option Bool
  | .non => some false
  | .bl _ => some false
  | .int _ => some false
  | .str _ => some false
  | .lst _ => some false
  | .tup _ => some false
  | .dct _ => some true
  | _ => none
theorem f_int (zk : g.K = X.K) : IsF X g (.type "int") isInt := by
  intro H Hv v d b s k e
  cases k <;> first | exact ⟨_, .base .non, e⟩ | exact ⟨_, .base (.bl _), e⟩ | exact ⟨_, .base (.int _), e⟩ | exact ⟨_, .base (.str _), e⟩ | (rename_i h _; exact ⟨_, .base (.lst (s _ _ h)), e⟩) | (rename_i h _; exact ⟨_, tyx_tup (zk ▸ same_seqT s h), e⟩) | (rename_i h _; exact ⟨_, .fDict (s _ _ h), e⟩) | cases e
theorem f_bool (zk : g.K = X.K) : IsF X g (.type "bool") isBool := by
  intro H Hv v d b s k e
  cases k <;> first | exact ⟨_, .base .non, e⟩ | exact ⟨_, .base (.bl _), e⟩ | exact ⟨_, .base (.int _), e⟩ | exact ⟨_, .base (.str _), e⟩ | (rename_i h _; exact ⟨_, .base (.lst (s _ _ h)), e⟩) | (rename_i h _; exact ⟨_, tyx_tup (zk ▸ same_seqT s h), e⟩) | (rename_i h _; exact ⟨_, .fDict (s _ _ h), e⟩) | cases e
theorem f_str (zk : g.K = X.K) : IsF X g (.type "str") isStr := by
  intro H Hv v d b s k e
  cases k <;> first | exact ⟨_, .base .non, e⟩ | exact ⟨_, .base (.bl _), e⟩ | exact ⟨_, .base (.int _), e⟩ | exact ⟨_, .base (.str _), e⟩ | (rename_i h _; exact ⟨_, .base (.lst (s _ _ h)), e⟩) | (rename_i h _; exact ⟨_, tyx_tup (zk ▸ same_seqT s h), e⟩) | (rename_i h _; exact ⟨_, .fDict (s _ _ h), e⟩) | cases e
theorem f_tuple (zk : g.K = X.K) : IsF X g (.type "tuple") isTuple := by
  intro H Hv v d b s k e
  cases k <;> first | exact ⟨_, .base .non, e⟩ | exact ⟨_, .base (.bl _), e⟩ | exact ⟨_, .base (.int _), e⟩ | exact ⟨_, .base (.str _), e⟩ | (rename_i h _; exact ⟨_, .base (.lst (s _ _ h)), e⟩) | (rename_i h _; exact ⟨_, tyx_tup (zk ▸ same_seqT s h), e⟩) | (rename_i h _; exact ⟨_, .fDict (s _ _ h), e⟩) | cases e
theorem f_list (zk : g.K = X.K) : IsF X g (.type "list") isList := by
  intro H Hv v d b s k e
  cases k <;> first | exact ⟨_, .base .non, e⟩ | exact ⟨_, .base (.bl _), e⟩ | exact ⟨_, .base (.int _), e⟩ | exact ⟨_, .base (.str _), e⟩ | (rename_i h _; exact ⟨_, .base (.lst (s _ _ h)), e⟩) | (rename_i h _; exact ⟨_, tyx_tup (zk ▸ same_seqT s h), e⟩) | (rename_i h _; exact ⟨_, .fDict (s _ _ h), e⟩) | cases e
theorem f_dict (zk : g.K = X.K) : IsF X g (.type "dict") isDict := by
  intro H Hv v d b s k e
  cases k <;> first | exact ⟨_, .base .non, e⟩ | exact ⟨_, .base (.bl _), e⟩ | exact ⟨_, .base (.int _), e⟩ | exact ⟨_, .base (.str _), e⟩ | (rename_i h _; exact ⟨_, .base (.lst (s _ _ h)), e⟩) | (rename_i h _; exact ⟨_, tyx_tup (zk ▸ same_seqT s h), e⟩) | (rename_i h _; exact ⟨_, .fDict (s _ _ h), e⟩) | cases e
end
end Dn

/-! Values as trees: lists that are changed, own classes, errors. -/
namespace Dn
open PySem PySem.Spec PyProof.Rows L2 Br
/-- a new list that nobody else has: [..] -/
def dOwnL (a : DA) : DO := fun δ n P E => a δ n (fun ys n' => ys.length ≤ sizeLine ∧ P (.ow ys) n') E
/-- a new list of an operation -/
def dOwnF (f : List D → Option D) (a : DA) : DO := fun δ n P E => a δ n (fun xs n' => ∃ ys, f xs = some (.lst ys) ∧ P (.ow ys) n') E
def dMut (i : Nat) (f : List D → List D → Option (List D)) (a : DA) : DT := fun F δ n => ∃ ds, δ[i]? = some (some (.ow ds)) ∧ a δ n (fun xs n' => ∃ es, f ds xs = some es ∧ F.nx (δ.set i (some (.ow es))) n') (F.xe δ)
section
variable {X : Cx} {Z : Zx} {e a b c : Expr} {es : List Expr} {da db de : DE} {ra : DA} {pos p p2 apos cpos : Pos} {g : G} {i : Nat} {x : Str}
theorem o_lst (h : PA X es (liftA Z ra)) : PE X (.List es pos) (liftO Z (dOwnL ra)) := up (pe_lst h) fun σ H Q ⟨δ, Hv, n, P, E, rr, h1, q, x⟩ =>
  ⟨δ, Hv, n, _, E, rr, h1, fun d v H' Hv' n' h2 e p k => ⟨by rw [k.len]; exact h2.1, fun a ha => by
    obtain ⟨e2, hv2⟩ := ext_hid (g := Z.g) (o := .lst v) e.sub ha
    refine q (.ow d) (.ref a) _ Hv' n' h2.2 (e.trans (fun _ => p.pd) e2) (p.mono (same_new ha) (Nat.le_refl _)) ⟨a, v, rfl, ?_, upd_same, hv2, k⟩
    cases z : H a with
    | none => rfl
    | some o =>
      by_cases ez : a = Z.g.pd
      · subst ez; exact absurd ha p.pd
      · obtain ⟨_, w, _⟩ := e.but _ _ ez z
        rw [w] at ha; cases ha⟩, x⟩
theorem ext_fresh {g : G} {H Hv H' Hv' : Hp} {a : Addr} {n : Nat} (e : Ext g H Hv H' Hv') (p : Pn g H' n) (ha : H' a = none) : H a = none := by
  cases z : H a with
  | none => rfl
  | some o =>
    by_cases ez : a = g.pd
    · subst ez; exact absurd ha p.pd
    · obtain ⟨_, w, _⟩ := e.but _ _ ez z
      rw [w] at ha; cases ha
/-- xs + ys, a list that nobody else has -/
def gCatL : List D → Option D
  | [.lst xs, .lst ys] => if xs.length + ys.length ≤ sizeLine then some (.lst (xs ++ ys)) else none
  | _ => none
theorem o_cat (ha : PE X a (lift Z da)) (hb : PE X b (lift Z db)) : PE X (.BinOp a .Add b pos) (liftO Z (dOwnF gCatL (dCons da (dCons db dNil)))) := up (pe_op op_cat ha hb) fun σ H Q ⟨δ, Hv, n, P, E, rr, h1, q, x⟩ =>
  ⟨δ, Hv, n, _, E, rr, h1, fun d v H1 Hv1 n1 h2 e1 p1 k1 => ⟨δ, Hv1, n1, _, E, rr.step e1 p1, h2, (fun d2 v2 H2 Hv2 n2 h3 e2 p2 k2 => by
    obtain ⟨ys, hz, h3⟩ := h3
    have e12 := e1.trans (fun _ => p1.pd) e2
    unfold gCatL at hz
    split at hz
    · rename_i xs zs ee
      cases ee
      split at hz
      · rename_i hl
        cases hz
        cases k1 with
        | @lst a1 vs1 _ ha1 ks1 =>
          cases k2 with
          | @lst a2 vs2 _ ha2 ks2 =>
            refine ⟨a1, a2, vs1, vs2, rfl, rfl, e2.sub _ _ (e2.see _ _ ha1), e2.sub _ _ ha2, by rw [ks1.len, ks2.len]; exact hl, fun a ha => ?_⟩
            obtain ⟨e3, hv3⟩ := ext_hid (g := Z.g) (o := .lst (vs1 ++ vs2)) e2.sub ha
            exact q (.ow _) (.ref a) _ Hv2 n2 h3 (e12.trans (fun _ => p2.pd) e3) (p2.mono (same_new ha) (Nat.le_refl _)) ⟨a, _, rfl, ext_fresh e12 p2 ha, upd_same, hv3, (ks1.mono e2.see).append ks2⟩
      · cases hz
    · cases hz), x.step e1 p1⟩, x⟩
/-- list(x), a list that nobody else has -/
theorem o_list {px : Pos} (zk : Z.g.K = X.K) (hg : Gl X "list") (hm : X.mg "list" = none) (ha : PA X [e] (liftA Z ra)) (he : starEach [e] X.env = (false, eval e X.env) :: starEach [] X.env := by rfl) (hpl : (backTo pos (starEach [] X.env)).any (·.1) = false := by rfl) :
    PE X (.Call (.Name "list" px) [e] [] pos) (liftO Z (dOwnF gListOf ra)) := up (pe_callTy call_list_of hg hm (by decide +kernel) ha (by decide) (by decide) he hpl) fun σ H Q ⟨δ, Hv, n, P, E, rr, h1, q, x⟩ =>
  ⟨δ, Hv, n, _, E, rr, h1, (fun d v H1 Hv1 n1 h2 e1 p1 k1 => by
    obtain ⟨ys, hz, h3⟩ := h2
    have fin : ∀ {vs : List V} {a : Addr}, DvAll Z.g Hv1 vs ys → H1 a = none → Q (.ref a) (upd H1 a (.lst vs)) := fun {vs a} ks ha => by
      obtain ⟨e3, hv3⟩ := ext_hid (g := Z.g) (o := .lst vs) e1.sub ha
      exact q (.ow _) (.ref a) _ Hv1 n1 h3 (e1.trans (fun _ => p1.pd) e3) (p1.mono (same_new ha) (Nat.le_refl _)) ⟨a, _, rfl, ext_fresh e1 p1 ha, upd_same, hv3, ks⟩
    unfold gListOf at hz
    split at hz
    · cases hz
      cases k1 with
      | cons k1 k2 =>
        cases k2
        cases k1 with
        | lst ha ks => exact ⟨_, _, rfl, .inl (sqL (e1.sub _ _ ha)), fun l hl => fin ks hl⟩
    · cases hz
      cases k1 with
      | cons k1 k2 =>
        cases k2
        cases k1 with
        | tup ha ks => exact ⟨_, _, rfl, .inr (zk ▸ same_seqT e1.sub ha), fun l hl => fin ks hl⟩
    · cases hz), x⟩
/-! ### x.append(e), x.extend(e), x.insert(i, e) -/
def mAppend : List D → List D → Option (List D)
  | ds, [d] => if ds.length < sizeLine then some (ds ++ [d]) else none
  | _, _ => none
def mExtend : List D → List D → Option (List D)
  | ds, [.tup es] => if ds.length + es.length ≤ sizeLine then some (ds ++ es) else none
  | ds, [.lst es] => if ds.length + es.length ≤ sizeLine then some (ds ++ es) else none
  | _, _ => none
def mInsert : List D → List D → Option (List D)
  | ds, [.int i, d] => if ds.length < sizeLine ∧ 0 ≤ i ∧ i < 2 ^ 63 then some (ds.take i.toNat ++ [d] ++ ds.drop i.toNat) else none
  | _, _ => none
theorem own_at {g : G} {H0 Hv0 : Hp} {σ : L2.St} {H Hv : Hp} {δ : DS} {n i : Nat} {ds : List D} (r : Rel g H0 Hv0 σ H Hv δ n) (h : δ[i]? = some (some (.ow ds))) : ∃ p vs, σ[i]? = some (some (.ref p)) ∧ H p = some (.lst vs) ∧ p ≠ g.pd ∧ DvAll g Hv vs ds := by
  obtain ⟨p, vs, e1, e2, e3, e4, e5⟩ := r.sl i _ h
  refine ⟨p, vs, ?_, e2, fun z => r.pd0 (by rw [← z]; exact e4), e5⟩
  cases q : σ[i]? with
  | none => rw [q] at e1; cases e1
  | some o => rw [q] at e1; exact congrArg some e1
theorem ds_mut {f : List D → List D → Option (List D)} {m : Str} {r : V → List V → Hp → VK → Prop} {id : String} (slot : Slot "list" m id) (hty : typeOf (.builtin id) = pure (.type "method_descriptor")) (hm : MtR X id r)
    (hf : ∀ {H Hv : Hp} {p : Addr} {vs : List V} {ds es : List D} {ws : List V} {xs : List D} {Q : VK}, Same Hv H → H p = some (.lst vs) → DvAll Z.g Hv vs ds → DvAll Z.g Hv ws xs → f ds xs = some es → (∀ vs', DvAll Z.g Hv vs' es → Q .non (upd H p (.lst vs'))) → r (.ref p) ws H Q)
    (hx : PE X (.Name x p) (tVar i)) (ha : PA X (e :: es) (liftA Z ra)) (hbase : attributeBase (.Name x p) m X.env (eval (.Name x p) X.env) = eval (.Name x p) X.env := by rfl)
    (hfew : ((backTo cpos (starEach (e :: es) X.env)).all (fun x => !x.1) && (backToKw cpos (keywordEach [] X.env)).all (fun x => x.1.isSome)
      && decide ((e :: es).length + ([] : List Keyword).length + (if ([] : List Keyword).isEmpty then 0 else 1) < 30)) = true := by rfl)
    (hline : (apos.endLine == cpos.line) = true := by rfl) (hs : starEach (e :: es) X.env = (false, eval e X.env) :: starEach es X.env := by rfl) (hplain : (backTo cpos (starEach es X.env)).any (·.1) = false := by rfl)
    (hsw : swapsWith (.Call (.Attribute (.Name x p) m apos) (e :: es) [] cpos) none pos.line X.env = pure false := by rfl) :
    PS X (.Expr (.Call (.Attribute (.Name x p) m apos) (e :: es) [] cpos) pos) (liftS Z (dMut i f ra)) :=
  upS (ps_expr (pe_bm PySem.F.plainAttrs_list slot hty hm hx ha hbase hfew hline hs hplain) hsw) fun D σ H ⟨δ, Hv, n, F, r, ⟨ds, hd, h⟩, k1, k2, k3, k4, k5⟩ => by
  obtain ⟨p, vs, s1, s2, s3, s4⟩ := own_at r hd
  refine ⟨.ref p, s1, .inl ⟨rfl, _, sqL s2⟩, δ, Hv, n, _, _, r, h, (fun xs ws H' Hv' n' h' e pn k => ?_), k5.e r⟩
  obtain ⟨es', hes, hn⟩ := h'
  have r' := r.step e pn
  refine hf e.sub (e.at s3 s2 (fun _ z => by cases z)) (s4.mono e.see) k hes fun vs' kv => ?_
  exact k1 _ _ _ _ _ hn e.see (r'.mut hd s1 kv)
theorem m_append {H Hv : Hp} {p : Addr} {vs : List V} {ds es : List D} {ws : List V} {xs : List D} {Q : VK} (s : Same Hv H) (hp : H p = some (.lst vs)) (k : DvAll g Hv vs ds) (kx : DvAll g Hv ws xs) (h : mAppend ds xs = some es) (q : ∀ vs', DvAll g Hv vs' es → Q .non (upd H p (.lst vs'))) : rAppend (.ref p) ws H Q := by
  unfold mAppend at h
  split at h
  · split at h
    · rename_i hl
      cases h
      cases kx with
      | cons k1 k2 =>
        cases k2
        exact ⟨p, vs, _, rfl, rfl, hp, by rw [k.len]; exact hl, q _ (k.append (.cons k1 .nil))⟩
    · cases h
  · cases h
theorem m_extend (zk : g.K = X.K) {H Hv : Hp} {p : Addr} {vs : List V} {ds es : List D} {ws : List V} {xs : List D} {Q : VK} (s : Same Hv H) (hp : H p = some (.lst vs)) (k : DvAll g Hv vs ds) (kx : DvAll g Hv ws xs) (h : mExtend ds xs = some es) (q : ∀ vs', DvAll g Hv vs' es → Q .non (upd H p (.lst vs'))) :
    rExtendT X.K (.ref p) ws H Q ∨ rExtend (.ref p) ws H Q := by
  unfold mExtend at h
  split at h
  · split at h
    · rename_i hl
      cases h
      cases kx with
      | cons k1 k2 =>
        cases k2
        cases k1 with
        | tup ha ks => exact .inl ⟨p, _, vs, _, rfl, rfl, hp, zk ▸ same_seqT s ha, by rw [k.len, ks.len]; exact hl, q _ (k.append ks)⟩
    · cases h
  · split at h
    · rename_i hl
      cases h
      cases kx with
      | cons k1 k2 =>
        cases k2
        cases k1 with
        | lst ha ks => exact .inr ⟨p, _, vs, _, rfl, rfl, hp, s _ _ ha, by rw [k.len, ks.len]; exact hl, q _ (k.append ks)⟩
    · cases h
  · cases h
theorem m_insert {H Hv : Hp} {p : Addr} {vs : List V} {ds es : List D} {ws : List V} {xs : List D} {Q : VK} (s : Same Hv H) (hp : H p = some (.lst vs)) (k : DvAll g Hv vs ds) (kx : DvAll g Hv ws xs) (h : mInsert ds xs = some es) (q : ∀ vs', DvAll g Hv vs' es → Q .non (upd H p (.lst vs'))) :
    ∃ (l : Addr) (xs : List V) (i : Int) (y : V), V.ref p = .ref l ∧ ws = [.int i, y] ∧ H l = some (.lst xs) ∧ xs.length < sizeLine ∧ 0 ≤ i ∧ i < 2 ^ 63 ∧ Q .non (upd H l (.lst (xs.take i.toNat ++ [y] ++ xs.drop i.toNat))) := by
  unfold mInsert at h
  split at h
  · split at h
    · rename_i hl
      cases h
      cases kx with
      | cons k1 k2 =>
        cases k2 with
        | cons k2 k3 =>
          cases k3
          cases k1
          exact ⟨p, vs, _, _, rfl, rfl, hp, by rw [k.len]; exact hl.1, hl.2.1, hl.2.2, q _ (((k.take _).append (.cons k2 .nil)).append (k.drop _))⟩
    · cases h
  · cases h
/-! ### own classes -/
def gFld (cs : List Str) (f : Str) : List D → Option D
  | [.obj c fs] => if c ∈ cs then fs.lookup f else none
  | _ => none
theorem d_fld {cs : List Str} {f : Str} (zk : Z.g.K = X.K) (hC : ∀ c ∈ cs, ∀ C, Z.g.mg c = some (.ref C) → Cls X.K C ∧ NoAttr X.K C f) (he : PE X e (lift Z de)) (hb : attributeBase e f X.env (eval e X.env) = eval e X.env := by rfl) : PE X (.Attribute e f pos) (lift Z (dApp (gFld cs f) (dCons de dNil))) :=
  up (pe_fld he hb) fun σ H Q ⟨δ, Hv, n, P, E, rr, h1, q, x⟩ => ⟨δ, Hv, n, _, E, rr, h1, (fun d v H' Hv' n' h2 e p k => by
    obtain ⟨z, hz, h3⟩ := h2
    unfold gFld at hz
    split at hz
    · rename_i c fs ee
      cases ee
      split at hz
      · rename_i hc
        cases k with
        | @obj a C dx _ vs _ ha hm ks =>
          obtain ⟨v, v1, v2⟩ := ks.look hz
          obtain ⟨c1, c2⟩ := hC c hc C hm
          exact ⟨a, C, dx, vs, v, rfl, e.sub _ _ ha, c1, c2, v1, q _ _ _ _ _ h3 e p v2⟩
      · cases hz
    · cases hz), x⟩
def putD (f : Str) (v : D) : List (Str × D) → List (Str × D)
  | [] => [(f, v)]
  | (g, x) :: r => if g = f then (g, v) :: r else (g, x) :: putD f v r
theorem put_dv {H : Hp} {f : Str} {v : V} {d : D} (k : Dv g H v d) : ∀ {fs : List (Str × V)} {gs : List (Str × D)}, DvF g H fs gs → DvF g H (putF f v fs) (putD f d gs)
  | _, _, .nil => .cons k .nil
  | _, _, .cons (f := f') k1 r => by
    unfold putF putD
    by_cases e : f' = f
    · rw [if_pos e, if_pos e]; exact .cons k r
    · rw [if_neg e, if_neg e]; exact .cons k1 (put_dv k r)
theorem DvF.len {H : Hp} {fs : List (Str × V)} {gs : List (Str × D)} (h : DvF g H fs gs) : fs.length = gs.length := by
  induction gs generalizing fs with
  | nil => cases h; rfl
  | cons p r ih => cases h with | cons a b => rw [List.length_cons, List.length_cons, ih b]
/-- self.f = e in __init__ -/
def dFst (i : Nat) (c f : Str) (e : DE) : DT := fun F δ n => e δ n (fun d n' => ∃ a fs, δ[i]? = some (some (.sf a c fs)) ∧ fs.length < 1000 ∧ F.nx (δ.set i (some (.sf a c (putD f d fs)))) n') (F.xe δ)
/-- the object that is being made gets other fields -/
theorem Rel.mutF {H0 Hv0 : Hp} {σ : L2.St} {H Hv : Hp} {δ : DS} {n i : Nat} {p C dx : Addr} {c : Str} {fs fs' : List (Str × D)} {ws : List (Str × V)} (r : Rel g H0 Hv0 σ H Hv δ n) (hi : δ[i]? = some (some (.sf p c fs))) (hC : g.mg c = some (.ref C)) (h : DvF g Hv ws fs') :
    Rel g H0 Hv0 σ (upd H p (.ins C dx ws)) Hv (δ.set i (some (.sf p c fs'))) n := by
  obtain ⟨C', dx', vs, e1, e2, e3, e4, e6, e5⟩ := r.sl i _ hi
  have hs : σ[i]? = some (some (.ref p)) := by
    cases q : σ[i]? with
    | none => rw [q] at e1; cases e1
    | some o => rw [q] at e1; exact congrArg some e1
  have np : p ≠ g.pd := fun z => r.pd0 (by rw [← z]; exact e4)
  have nc : p ≠ g.pc := fun z => r.pc0 (by rw [← z]; exact e4)
  have hl : i < δ.length := (List.getElem?_eq_some_iff.mp hi).1
  refine ⟨⟨fun b o hb e => ?_, r.ext.see, fun b o e => ?_, r.ext.hid, r.ext.nt⟩, r.pen.upd np nc (Nat.le_refl _) e2, r.pd0, r.pc0, r.npd, by rw [List.length_set, r.len], fun j s hj => ?_, fun j k s t q hj hk os ot sj sk => ?_⟩
  · have : b ≠ p := fun z => by rw [z, e4] at e; cases e
    obtain ⟨o', w1, w2⟩ := r.ext.but b o hb e
    exact ⟨o', (by rw [upd_ne this]; exact w1), w2⟩
  · have : b ≠ p := fun z => by rw [z, e3] at e; cases e
    rw [upd_ne this]; exact r.sub b o e
  · by_cases e : i = j
    · subst e
      rw [List.getElem?_set_self hl] at hj
      cases hj
      rw [hs]
      exact ⟨C, dx, ws, rfl, upd_same, e3, e4, hC, h⟩
    · rw [List.getElem?_set_ne e] at hj
      have old := r.sl j s hj
      cases s with
      | sh d => exact old
      | ow ds' =>
        obtain ⟨p2, vs2, f1, f2, f3, f4, f5⟩ := old
        have : p2 ≠ p := fun z => by rw [z, e2] at f2; cases f2
        exact ⟨p2, vs2, f1, by rw [upd_ne this]; exact f2, f3, f4, f5⟩
      | sf p2 c2 fs2 =>
        obtain ⟨C2, dx2, vs2, f1, f2, f3, f4, f5⟩ := old
        have : p2 ≠ p := fun z => by
          subst z
          refine e (r.dist i j _ _ p2 hi hj rfl rfl hs ?_)
          cases q : σ[j]? with
          | none => rw [q] at f1; cases f1
          | some o => rw [q] at f1; exact congrArg some f1
        exact ⟨C2, dx2, vs2, f1, by rw [upd_ne this]; exact f2, f3, f4, f5⟩
      | od ks' =>
        obtain ⟨p2, vs2, f1, f2, f3, f4, f5⟩ := old
        have : p2 ≠ p := fun z => by rw [z, e2] at f2; cases f2
        exact ⟨p2, vs2, f1, by rw [upd_ne this]; exact f2, f3, f4, f5⟩
  · have gen : ∀ {j : Nat} {s : Sl}, (δ.set i (some (.sf p c fs')))[j]? = some (some s) → s.own = true → ∃ s', δ[j]? = some (some s') ∧ s'.own = true := fun {j s} hj os => by
      by_cases e : i = j
      · subst e; exact ⟨_, hi, rfl⟩
      · rw [List.getElem?_set_ne e] at hj; exact ⟨s, hj, os⟩
    obtain ⟨s', a1, a2⟩ := gen hj os
    obtain ⟨t', b1, b2⟩ := gen hk ot
    exact r.dist j k s' t' q a1 b1 a2 b2 sj sk
theorem ds_fst {f : Str} {pos' : Pos} {cn : Str} (hC : ∀ C, Z.g.mg cn = some (.ref C) → Cls X.K C ∧ NoAttr X.K C f) (hx : PE X (.Name x p) (tVar i)) (hv : PE X e (lift Z de)) (hs : swapsWith e (some (.Attribute (.Name x p) f pos')) pos.line X.env = pure false := by rfl) : PS X (.Assign [.Attribute (.Name x p) f pos'] e pos) (liftS Z (dFst i cn f de)) :=
  upS (ps_fld hx hv hs) fun D σ H ⟨δ, Hv, n, F, r, h, k1, k2, k3, k4, k5⟩ => ⟨δ, Hv, n, _, _, r, h, (fun d v H' Hv' n' h' e pn k => by
    obtain ⟨p, fs, hd, hl, hn⟩ := h'
    have r' := r.step e pn
    obtain ⟨C, dx, vs, e1, e2, e3, e4, e6, e5⟩ := r'.sl i _ hd
    have hs : σ[i]? = some (some (.ref p)) := by
      cases q : σ[i]? with
      | none => rw [q] at e1; cases e1
      | some o => rw [q] at e1; exact congrArg some e1
    obtain ⟨c1, c2⟩ := hC C e6
    refine ⟨.ref p, hs, p, C, dx, vs, rfl, e2, c1, c2, by rw [e5.len]; exact hl, ?_⟩
    exact k1 _ _ _ _ _ hn e.see (r'.mutF hd e6 (put_dv k e5))), k5.e r⟩
end
end Dn

/-! Values as trees: making objects, comparing them, errors. -/
namespace Dn
open PySem PySem.Spec PyProof.Rows L2 Br
/-- what __init__ makes of its arguments: the fields -/
abbrev MI := List D → M (List (Str × D))
def dInit (m N : Nat) (c : Str) (t : DT) : MI := fun ds n P E => ds.length = m ∧ ∀ a, t ⟨fun δ n' => ∃ fs, δ[0]? = some (some (.sf a c fs)) ∧ P fs n', fun _ _ => False, fun _ _ => False, fun _ _ => False, fun _ => E⟩ (some (.sf a c []) :: startD (N - 1) ds) n
def without (H : Hp) (x : Addr) : Hp := fun a => if a = x then none else H a
theorem without_ne {H : Hp} {x a : Addr} (h : a ≠ x) : without H x a = H a := if_neg h
theorem without_same {H : Hp} {x : Addr} : without H x x = none := if_pos rfl
def FOk (g : G) (H Hv : Hp) (x C dx : Addr) (P : List (Str × D) → Nat → Prop) (Q : VK) : Prop := ∀ fs fvs dx' H' Hv' n', P fs n' → Ext g (without H x) Hv H' Hv' → Pn g H' n' → H' x = some (.ins C dx' fvs) → Hv' x = none → DvF g Hv' fvs fs → Q .non H'
def spI (K : PySem.W.Frag) (mg : Str → Option Value) (kn : Kn) (c : Str) (U : MI) : Sp := fun vs H Q E => ∃ pd pc C dx x ws Hv ds n P Ex, vs = .ref x :: ws ∧ H x = some (.ins C dx []) ∧ mg c = some (.ref C) ∧ Hv x = none ∧ Same Hv H ∧ Hd pd Hv ∧ Pn ⟨K, mg, pd, pc, kn⟩ H n ∧ DvAll ⟨K, mg, pd, pc, kn⟩ Hv ws ds ∧ U ds n P Ex ∧
  FOk ⟨K, mg, pd, pc, kn⟩ H Hv x C dx P Q ∧ EOk ⟨K, mg, pd, pc, kn⟩ (without H x) Hv Ex E
theorem init_rel {g : G} {H Hv : Hp} {n : Nat} {N : List Str} {vs : List V} {ds : List D} {x C dx : Addr} {c : Str} (hx : H x = some (.ins C dx [])) (hC : g.mg c = some (.ref C)) (hv : Hv x = none) (s : Same Hv H) (npp : Hd g.pd Hv) (p : Pn g H n) (k : DvAll g Hv vs ds) (hN : 0 < N.length) :
    Rel g (without H x) Hv (L2.start N (.ref x :: vs)) H Hv (some (.sf x c []) :: startD (N.length - 1) ds) n := by
  obtain ⟨ns, a, l, hd, hc, hlen, h2, h3, h4⟩ := p.pen
  have nd : g.pd ≠ x := fun z => by rw [z, hx] at hd; cases hd
  have nc : g.pc ≠ x := fun z => by rw [z, hx] at hc; cases hc
  have st : L2.start N (.ref x :: vs) = some (.ref x) :: (vs.map some ++ List.replicate (N.length - 1 - vs.length) none) := by
    unfold L2.start
    rw [List.map_cons, List.cons_append, List.length_cons, show N.length - (vs.length + 1) = N.length - 1 - vs.length by omega]
  have hl := k.len
  have sh : ∀ {i : Nat} {s : Sl}, (startD (N.length - 1) ds)[i]? = some (some s) → ∃ d, s = .sh d ∧ ds[i]? = some d := fun {i s} h => by
    unfold startD at h
    by_cases hi : i < ds.length
    · rw [List.getElem?_append_left (by simpa using hi), List.getElem?_map] at h
      cases e : ds[i]? with
      | none => rw [e] at h; cases h
      | some d => rw [e] at h; cases h; exact ⟨d, rfl, rfl⟩
    · rw [List.getElem?_append_right (by simpa using hi)] at h
      have := List.mem_of_getElem? h
      rw [List.mem_replicate] at this
      cases this.2
  rw [st]
  refine ⟨⟨fun b o _ e => ?_, .refl _, s, fun _ h _ => h, fun z => z⟩, p, by rw [without_ne nd]; exact p.pd, by rw [without_ne nc]; exact p.pc, npp, ?_, fun i s h => ?_, fun i j s t q h1 h2 o1 o2 e1 e2 => ?_⟩
  · have : b ≠ x := fun z => by rw [z, without_same] at e; cases e
    rw [without_ne this] at e; exact ⟨o, e, fun _ => rfl⟩
  · unfold startD
    simp only [List.length_cons, List.length_append, List.length_map, List.length_replicate, hl]
  · cases i with
    | zero =>
      rw [List.getElem?_cons_zero] at h ⊢
      cases h
      exact ⟨C, dx, [], rfl, hx, hv, without_same, hC, .nil⟩
    | succ i =>
      rw [List.getElem?_cons_succ] at h ⊢
      obtain ⟨d, rfl, hd⟩ := sh h
      obtain ⟨v, e1, e2⟩ := k.get hd
      refine ⟨v, ?_, e2⟩
      have hi : i < vs.length := (List.getElem?_eq_some_iff.mp e1).1
      rw [List.getElem?_append_left (by simpa using hi), List.getElem?_map, e1]
      rfl
  · have z : ∀ {i : Nat} {s : Sl}, (some (Sl.sf x c []) :: startD (N.length - 1) ds)[i]? = some (some s) → s.own = true → i = 0 := fun {i s} h o => by
      cases i with
      | zero => rfl
      | succ i =>
        rw [List.getElem?_cons_succ] at h
        obtain ⟨d, rfl, _⟩ := sh h
        cases o
    rw [z h1 o1, z h2 o2]
section
variable {P : Program} {w : World} {K : PySem.W.Frag} {mg : Str → Option Value} {base : Heap} {kn : Kn} {c : Str} {x qual : Str} {st : Stmt} {f : Addr} {fd : FuncData} {N ps : List Str} {k m : Nat} {t : DT}
theorem spI_len {nn : Nat} {vs : List V} {H : Hp} {Q : VK} {E : XK} (h : spI K mg kn c (dInit m nn c t) vs H Q E) : vs.length = m + 1 := by
  obtain ⟨pd, pc, C, dx, x, ws, Hv, ds, n, Pz, Ex, rfl, _, _, _, _, _, _, k, ⟨hl, _⟩, _⟩ := h
  rw [List.length_cons, k.len, hl]
theorem init_of {Z : Zx} {H Hv : Hp} {ws : List V} {ds : List D} {n : Nat} {Pz : List (Str × D) → Nat → Prop} {Ex : XD} {Q : VK} {E : XK} {y C dx : Addr} (hN : 0 < N.length) (h0 : Z.H0 = without H y) (hv0 : Z.Hv0 = Hv) (hW : ∀ c d σ H', E c d H' → Z.W c d σ H') (hy : H y = some (.ins C dx [])) (hC : Z.g.mg c = some (.ref C)) (hvy : Hv y = none) (s : Same Hv H) (np : Hd Z.g.pd Hv) (p : Pn Z.g H n) (k : DvAll Z.g Hv ws ds)
    (hU : dInit m N.length c t ds n Pz Ex) (q : FOk Z.g H Hv y C dx Pz Q) (x : EOk Z.g (without H y) Hv Ex E) : liftS Z t { nx := fun _ H' => Q .non H', rt := Q } (L2.start N (.ref y :: ws)) H := by
  obtain ⟨g, H0, Hv0, W⟩ := Z
  simp only at h0 hv0
  subst h0 hv0
  refine ⟨_, Hv0, n, _, init_rel hy hC hvy s np p k hN, hU.2 y, (fun δ' n' σ' H' Hv' a b r => ?_), fun _ _ _ _ _ a => a.elim, fun _ _ _ _ _ a => a.elim, fun _ _ _ _ _ a => a.elim, fun δ' σ' H' Hv' n' c fs cls dd a b r y => hW _ _ _ _ (x c fs n' cls dd H' Hv' a r.ext r.pen y)⟩
  obtain ⟨fs, h1, h2⟩ := a
  obtain ⟨C', dx', vs, e1, e2, e3, e4, e6, e5⟩ := r.sl 0 _ h1
  have ec : C' = C := by
    rw [hC] at e6
    cases e6
    rfl
  subst ec
  exact q fs vs dx' H' Hv' n' h2 r.ext r.pen e2 e3 e5
theorem init_D (F : FunB K x qual st f fd) (S : FnScope N ps (defScope st)) (hm : ps.length = m + 1) (hN : 0 < N.length)
    (hb : ∀ (cdv : Value) (A : Around) (outer : List Env) (s : Shared) (H : Hp) (E : XK) (Z : Zx), Room k (A.deeper (envOfC qual (defScope st) s.heap.objs.size f cdv)) → Z.g.K = K → Z.g.mg = mg → Z.g.kn = kn → PSs (cxOf CX0 P w K mg base N qual (defScope st) f cdv A outer s H E).nox (defBody st) (liftS Z t)) :
    FnOk P w K mg base CX0 (k + 1) f fd ps (spI K mg kn c (dInit m N.length c t)) := by
  refine F.ok S (fun vs H Q E h => by rw [spI_len h, hm]) (fun cdv A outer s H vs Q E hr h => ?_)
  obtain ⟨pd, pc, C, dx, y, ws, Hv, ds, n, Pz, Ex, rfl, hy, hC, hvy, sm, np, p, kk, hU, q, xx⟩ := h
  exact ⟨_, hb cdv A outer s H E ⟨⟨K, mg, pd, pc, kn⟩, without H y, Hv, fun c d _ H' => E c d H'⟩ hr rfl rfl rfl, init_of hN rfl rfl (fun _ _ _ _ z => z) hy hC hvy sm np p kk hU q xx⟩
end
section
variable {X : Cx} {Z : Zx} {e a b : Expr} {es : List Expr} {de da db : DE} {ra : DA} {pos p : Pos} {k : Nat} {x : Str} {ps : List Str} {U : MI} {C : Addr}
/-- c(..): a new object -/
def dMake (c : Str) (U : MI) (a : DA) : DE := fun δ n P E => a δ n (fun xs n1 => U xs n1 (fun fs n2 => P (.obj c fs) n2) (fun _ _ _ => False)) E
theorem d_make (o : OkC X.prog X.w X.K X.mg X.base k x C ps (spI X.K X.mg kn x U)) (hr : Room (k + 1) X.A) (zk : Z.g.K = X.K) (zm : Z.g.mg = X.mg) (zn : Z.g.kn = kn) (ha : PA X (e :: es) (liftA Z ra)) (hg : Gl X x := by rfl)
    (hdb : (x == ("__debug__" : Str)) = false := by decide) (he : starEach (e :: es) X.env = (false, eval e X.env) :: starEach es X.env := by rfl) (hpl : (backTo pos (starEach es X.env)).any (·.1) = false := by rfl) :
    PE X (.Call (.Name x p) (e :: es) [] pos) (lift Z (dMake x U ra)) := up (pe_mkC o hr ha hg hdb he hpl) fun σ H Q ⟨δ, Hv, n, P, E, r, h1, q, xx⟩ => by
  obtain ⟨_, _, hmC, _⟩ := o
  refine ⟨δ, Hv, n, _, E, r, h1, (fun d v H' Hv' n' h2 ee pn k => ?_), xx⟩
  have eg := eta_g zk zm zn
  intro y dy hy hdy hne
  have hvy : Hv' y = none := by
    cases z : Hv' y with
    | none => rfl
    | some o => rw [ee.sub _ _ z] at hy; cases hy
  have hvd : Hv' dy = none := by
    cases z : Hv' dy with
    | none => rfl
    | some o => rw [ee.sub _ _ z] at hdy; cases hdy
  have s1 : Same H' (upd (upd H' dy (.own y)) y (.ins C dy [])) := fun b o hb => by
    have h1 : b ≠ y := ne_of_none hb hy
    have h2 : b ≠ dy := ne_of_none hb hdy
    rw [upd_ne h1, upd_ne h2]; exact hb
  refine ⟨Z.g.pd, Z.g.pc, C, dy, y, v, Hv', d, n', (fun fs n2 => P (.obj x fs) n2), (fun _ _ _ => False), rfl, upd_same, hmC, hvy, ee.sub.trans s1, (r.step ee pn).npd, ?_⟩
  rw [eg]
  refine ⟨pn.mono s1 (Nat.le_refl _), k, h2, fun fs fvs dx' H2 Hv2 n2 hp e2 p2 h3 hv3 kf => ⟨rfl, ?_⟩, fun _ _ _ _ _ _ _ z => z.elim⟩
  -- the object is seen from now on
  have w1 : ∀ b o, b ≠ y → H' b = some o → without (upd (upd H' dy (.own y)) y (.ins C dy [])) y b = some o := fun b o hb e => by
    rw [without_ne hb]; exact s1 _ _ e
  refine q (.obj x fs) (.ref y) H2 (upd Hv2 y (.ins C dx' fvs)) n2 hp ⟨fun b o nb e => ?_, ?_, fun b o e => ?_, fun c hc1 hc2 => ?_, fun z => (e2.nt (ee.nt z)).upd (fun _ w => by cases w)⟩ p2 ?_
  · by_cases eb : b = y
    · subst eb
      obtain ⟨_, w, _⟩ := ee.but _ _ nb e
      rw [hy] at w; cases w
    · obtain ⟨o1, a1, a2⟩ := ee.but _ _ nb e
      obtain ⟨o2, b1, b2⟩ := e2.but b o1 nb (w1 b o1 eb a1)
      exact ⟨o2, b1, fun z => by have := a2 z; subst this; exact b2 z⟩
  · exact (ee.see.trans e2.see).trans (same_new hv3)
  · by_cases eb : b = y
    · subst eb; rw [upd_same] at e; cases e; exact h3
    · rw [upd_ne eb] at e; exact e2.sub _ _ e
  · have ny : c ≠ y := fun z => by
      subst z
      exact hc2 (ext_fresh ee pn hy)
    rw [upd_ne ny]
    refine e2.hid c (ee.hid c hc1 hc2) fun z => ?_
    cases w : H' c with
    | none =>
      by_cases ez : c = Z.g.pd
      · subst ez; exact pn.pd w
      · cases w2 : H c with
        | none => exact hc2 w2
        | some o =>
          obtain ⟨_, w3, _⟩ := ee.but _ _ ez w2
          rw [w3] at w; cases w
    | some o => rw [w1 c o ny w] at z; cases z
  · exact .obj upd_same (zm ▸ hmC) (kf.mono (same_new hv3))
/-- x == y, x != y of two objects of the class c, by its __eq__ -/
def dCmpO (neg : Bool) (c : Str) (U : List D → M D) (a b : DE) : DE := fun δ n P E => a δ n (fun x n1 => b δ n1 (fun y n2 => ∃ fs gs, x = .obj c fs ∧ y = .obj c gs ∧ U [x, y] n2 (fun d n3 => ∃ k, d = .bl k ∧ P (.bl (if neg then !k else k)) n3) (fun _ _ _ => False)) E) E
theorem lift_cmpO {c : Str} {U : List D → M D} {neg : Bool} {r : R2} (hmC : X.mg c = some (.ref C)) (zk : Z.g.K = X.K) (zm : Z.g.mg = X.mg) (zn : Z.g.kn = kn)
    (hr : ∀ {x y : V} {H : Hp} {Q : VK} {a b dx dy : Addr} {fs gs : List (Str × V)}, x = .ref a → y = .ref b → H a = some (.ins C dx fs) → H b = some (.ins C dy gs) → spU X.K X.mg kn U [.ref a, .ref b] H (fun v H' => ∃ k, v = .bl k ∧ Q (.bl (if neg then !k else k)) H') E0 → r x y H Q) :
    ∀ σ H Q, lift Z (dCmpO neg c U da db) σ H Q → tOp r (lift Z da) (lift Z db) σ H Q := fun σ H Q ⟨δ, Hv, n, P, E, rr, h1, q, x⟩ =>
  ⟨δ, Hv, n, _, E, rr, h1, fun d v H1 Hv1 n1 h2 e1 p1 k1 => ⟨δ, Hv1, n1, _, E, rr.step e1 p1, h2, (fun d2 v2 H2 Hv2 n2 h3 e2 p2 k2 => by
    obtain ⟨fs, gs, rfl, rfl, h4⟩ := h3
    have k1' := k1.mono e2.see
    have eg := eta_g zk zm zn
    have e12 := e1.trans (fun _ => p1.pd) e2
    have kk : DvAll Z.g Hv2 [v, v2] [.obj c fs, .obj c gs] := .cons k1' (.cons k2 .nil)
    cases k1' with
    | @obj a C1 dx _ f1 _ ha hm1 kf1 =>
      cases k2 with
      | @obj b C2 dy _ f2 _ hb hm2 kf2 =>
        rw [zm, hmC] at hm1 hm2
        cases hm1
        cases hm2
        refine hr rfl rfl (e2.sub _ _ ha) (e2.sub _ _ hb) ⟨Z.g.pd, Z.g.pc, Hv2, [.obj c fs, .obj c gs], n2, (fun d n3 => ∃ k, d = .bl k ∧ P (.bl (if neg then !k else k)) n3), (fun _ _ _ => False), e2.sub, ((rr.step e1 p1).step e2 p2).npd, ?_⟩
        rw [eg]
        refine ⟨p2, kk, h4, fun d v H3 Hv3 n3 h5 e3 p3 k3 => ?_, fun _ _ _ _ _ _ _ z => z.elim⟩
        obtain ⟨kb, rfl, h5⟩ := h5
        exact ⟨kb, dv_bl k3, q _ _ _ _ _ h5 (e12.trans (fun _ => p2.pd) e3) p3 (.bl _)⟩), x.step e1 p1⟩, x⟩
theorem d_neO {c : Str} {U : List D → M D} (o : OkE X.prog X.w X.K X.mg X.base k C (spU X.K X.mg kn U)) (hmC : X.mg c = some (.ref C)) (hr : Room (k + 1) X.A) (zk : Z.g.K = X.K) (zm : Z.g.mg = X.mg) (zn : Z.g.kn = kn) (ha : PE X a (lift Z da)) (hb : PE X b (lift Z db)) (hm : behindInMarks .NotEq b = false) :
    PE X (.Compare a [.NotEq] [b] pos) (lift Z (dCmpO true c U da db)) := up (pe_cmpR (op_neC o hr) ha hb hm) (lift_cmpO hmC zk zm zn fun {x y H Q a b dx dy fs gs} e1 e2 h1 h2 h3 => ⟨a, b, dx, dy, fs, gs, e1, e2, h1, h2, h3⟩)
theorem d_eqO {c : Str} {U : List D → M D} (o : OkE X.prog X.w X.K X.mg X.base k C (spU X.K X.mg kn U)) (hmC : X.mg c = some (.ref C)) (hr : Room (k + 1) X.A) (zk : Z.g.K = X.K) (zm : Z.g.mg = X.mg) (zn : Z.g.kn = kn) (ha : PE X a (lift Z da)) (hb : PE X b (lift Z db)) (hm : behindInMarks .Eq b = false) :
    PE X (.Compare a [.Eq] [b] pos) (lift Z (dCmpO false c U da db)) := up (pe_cmpR (op_eqC o hr) ha hb hm) (lift_cmpO hmC zk zm zn fun {x y H Q a b dx dy fs gs} e1 e2 h1 h2 h3 => ⟨a, b, dx, dy, fs, gs, e1, e2, h1, h2, h3⟩)
theorem dt_neO {c : Str} {U : List D → M D} (o : OkE X.prog X.w X.K X.mg X.base k C (spU X.K X.mg kn U)) (hmC : X.mg c = some (.ref C)) (hr : Room (k + 1) X.A) (zk : Z.g.K = X.K) (zm : Z.g.mg = X.mg) (zn : Z.g.kn = kn) (ha : PE X a (lift Z da)) (hb : PE X b (lift Z db)) (hm : behindInMarks .NotEq b = false) :
    PT X (.Compare a [.NotEq] [b] pos) (liftT Z (dCmpO true c U da db)) := upT (pt_cmpR (op_neC o hr) ha hb hm) fun σ H Q h => lift_cmpO hmC zk zm zn (fun {x y H Q a b dx dy fs gs} e1 e2 h1 h2 h3 => ⟨a, b, dx, dy, fs, gs, e1, e2, h1, h2, h3⟩) σ H _ h
theorem dt_eqO {c : Str} {U : List D → M D} (o : OkE X.prog X.w X.K X.mg X.base k C (spU X.K X.mg kn U)) (hmC : X.mg c = some (.ref C)) (hr : Room (k + 1) X.A) (zk : Z.g.K = X.K) (zm : Z.g.mg = X.mg) (zn : Z.g.kn = kn) (ha : PE X a (lift Z da)) (hb : PE X b (lift Z db)) (hm : behindInMarks .Eq b = false) :
    PT X (.Compare a [.Eq] [b] pos) (liftT Z (dCmpO false c U da db)) := upT (pt_cmpR (op_eqC o hr) ha hb hm) fun σ H Q h => lift_cmpO hmC zk zm zn (fun {x y H Q a b dx dy fs gs} e1 e2 h1 h2 h3 => ⟨a, b, dx, dy, fs, gs, e1, e2, h1, h2, h3⟩) σ H _ h
end
end Dn

/-! Values as trees: the pen, the law. -/
namespace Dn
open PySem PySem.Spec PyProof.Rows L2 Br
def U_draw : List D → M D := fun ds n P _ => ∃ m, ds = [.pen, .int m] ∧ n < 1000000000 ∧ 0 < m ∧ m < 1073741824 ∧ ∀ r, 0 ≤ r → r < m → P (.int r) (n + 1)
section
variable {P : Program} {w : World} {K : PySem.W.Frag} {mg : Str → Option Value} {base : Heap} {kn : Kn} {x qual : Str} {st : Stmt} {f : Addr} {fd : FuncData} {N ps : List Str} {k : Nat}
theorem draw_U (F : FnOk P w K mg base CX0 k f fd ps (spDraw kn.key)) : FnOk P w K mg base CX0 k f fd ps (spU K mg kn U_draw) := F.imp fun vs H Q E h => by
  obtain ⟨pd, pc, Hv, ds, n, Pz, Ex, sm, np, p, kk, ⟨m, rfl, hn, m0, m1, hr⟩, q, _⟩ := h
  cases kk with
  | cons k1 k2 =>
    cases k2 with
    | cons k2 k3 =>
      cases k3
      cases k1
      cases k2
      refine ⟨pd, pc, n, m, rfl, p.pen, hn, m0, m1, fun r H' r0 r1 p' sb => ?_⟩
      have tb : LamX.Tabs kn.tb H' := by
        obtain ⟨_, _, _, hd, _⟩ := p.pen
        exact tabs_but p.tab hd (by constructor <;> (intro _ z; cases z)) sb
      refine q (.int r) (.int r) H' Hv (n + 1) (hr r r0 r1) ⟨.ofB sb, .refl _, fun b o hb => ?_, fun _ h _ => h, fun z => z⟩ ⟨p', tb⟩ (.int r)
      exact sb b o (fun z => by rw [z, np.1] at hb; cases hb) (sm _ _ hb)
/-- what the law promises -/
def spLaw (K : PySem.W.Frag) : Sp := fun vs H Q _ => ∃ (a : Addr) (ns : List Int), vs = [.ref a] ∧ SqL K H a (ns.map V.int) ∧ ns.length ≤ 63 ∧ ∀ H', Q (.bl true) H'
def dLaw (N i : Nat) (t : DT) : Prop := t ⟨fun _ _ => False, shP (fun d _ => d = .bl true), fun _ _ => False, fun _ _ => False, fun _ _ _ _ => False⟩ ((List.replicate N none).set i (some (.sh .pen))) 0
theorem law_rel {g : G} {H' : Hp} {a : Addr} {i : Nat} (hN : 0 < N.length) (p : Pn g H' 0) : Rel g H' (fun _ => none) ((L2.start N [.ref a]).set i (some (.ref g.pd))) H' (fun _ => none) ((List.replicate N.length none).set i (some (.sh .pen))) 0 := by
  have at_i : ∀ {j : Nat} {s : Sl}, ((List.replicate N.length (none : Option Sl)).set i (some (.sh .pen)))[j]? = some (some s) → j = i ∧ i < N.length ∧ s = .sh .pen := fun {j s} h => by
    by_cases e : i = j
    · subst e
      have hl : i < N.length := by
        have := (List.getElem?_eq_some_iff.mp h).1
        rwa [List.length_set, List.length_replicate] at this
      rw [List.getElem?_set_self (by rw [List.length_replicate]; exact hl)] at h
      cases h
      exact ⟨rfl, hl, rfl⟩
    · rw [List.getElem?_set_ne e] at h
      have := List.mem_of_getElem? h
      rw [List.mem_replicate] at this
      cases this.2
  have hl : (L2.start N [V.ref a]).length = N.length := by
    unfold L2.start
    simp only [List.length_append, List.length_map, List.length_replicate, List.length_cons, List.length_nil]
    omega
  refine ⟨.refl (fun _ _ h => nomatch h), p, p.pd, p.pc, ⟨rfl, fun _ _ z => by cases z⟩, ?_, fun j s h => ?_, fun j k s t q h1 h2 o1 _ _ _ => ?_⟩
  · rw [List.length_set, List.length_set, List.length_replicate, hl]
  · obtain ⟨rfl, hi, rfl⟩ := at_i h
    rw [List.getElem?_set_self (by rw [hl]; exact hi)]
    exact ⟨_, rfl, .pen⟩
  · obtain ⟨_, _, rfl⟩ := at_i h1
    cases o1
theorem law_D {i : Nat} {t : DT} {s1 : Stmt} {rest : List Stmt} (F : Fun K x qual st f fd) (S : FnScope N ps (defScope st)) (hps : ps.length = 1) (hN : 0 < N.length) (hbd : defBody st = s1 :: rest)
    (h1 : ∀ (cdv : Value) (A : Around) (outer : List Env) (s : Shared) (H : Hp) (E : XK), Room k (A.deeper (envOfC qual (defScope st) s.heap.objs.size f cdv)) → PS (cxOf CX0 P w K mg base N qual (defScope st) f cdv A outer s H E).nox s1 (tAsg (tCl (spFeed kn.key K) (tCons (tVar 0) tNil)) (gName i)))
    (h2 : ∀ (cdv : Value) (A : Around) (outer : List Env) (s : Shared) (H : Hp) (E : XK) (Z : Zx), Room k (A.deeper (envOfC qual (defScope st) s.heap.objs.size f cdv)) → Z.g.K = K → Z.g.mg = mg → Z.g.kn = kn → PSs (cxOf CX0 P w K mg base N qual (defScope st) f cdv A outer s H E).nox rest (liftS Z t))
    (hU : dLaw N.length i t) (ht : kn.tb = [] := by rfl) : FnOk P w K mg base CX0 (k + 1) f fd ps (spLaw K) := by
  refine F.ok S (fun vs H Q E h => ?_) (fun cdv A outer s H vs Q E hr h => ?_)
  · obtain ⟨a, ns, rfl, _⟩ := h
    rw [hps]; rfl
  · obtain ⟨a, ns, rfl, hs, hl, q⟩ := h
    rw [hbd]
    refine ⟨tSeq _ (fun D σ H' => ∃ Z : Zx, Z.g.K = K ∧ Z.g.mg = mg ∧ Z.g.kn = kn ∧ liftS Z t D σ H'), pss_cons (h1 cdv A outer s H E hr) ⟨fun pins s' σ H' D I ⟨Z, a1, a2, a3, a4⟩ => (h2 cdv A outer s H E Z hr a1 a2 a3).run pins s' σ H' D I a4⟩, ?_⟩
    refine ⟨.ref a, ?_, a, ns, rfl, hs, hl, fun d c H' hd sm pen => ⟨⟨⟨K, mg, d, c, kn⟩, H', fun _ => none, fun _ _ _ _ => False⟩, rfl, rfl, rfl, ?_⟩⟩
    · unfold L2.start
      rfl
    · refine ⟨_, fun _ => none, 0, _, law_rel (g := ⟨K, mg, d, c, kn⟩) hN ⟨pen, by show LamX.Tabs kn.tb _; rw [ht]; intro p hp; cases hp⟩, hU, fun _ _ _ _ _ z => z.elim, (fun dd v H2 Hv2 n2 hd2 e2 p2 k2 => ?_), fun _ _ _ _ _ z => z.elim, fun _ _ _ _ _ z => z.elim, fun _ _ _ _ _ _ _ _ _ z => z.elim⟩
      obtain ⟨dd, rfl⟩ : ∃ d, dd = .sh d := by
        cases dd with
        | sh d => exact ⟨d, rfl⟩
        | ow _ => exact hd2.elim
        | sf _ _ _ => exact hd2.elim
        | od _ => exact hd2.elim
      have hd2 : dd = .bl true := hd2
      subst hd2
      rw [dv_bl k2]
      exact q H2
theorem fnG_of {sp : Sp} (F : FnOk P w K mg base CX0 k f fd ps sp) : FnG P w K mg base CX0 k f fd ps sp := ⟨F.len, fun A outer s H args us vs Q E _ hr e0 hb r hs => F.run A outer s H args us vs Q E hr e0 hb r hs⟩
end
/-! ### and, or as tests; isinstance of several -/
section
variable {X : Cx} {Z : Zx} {a b c : Expr} {rest : List Expr} {da db : DE} {pos : Pos}
theorem upW {e : Expr} {t t' : TT} (h : PW X e t) (k : ∀ σ H Q, t' σ H Q → t σ H Q) : PW X e t' := ⟨fun wh pins s σ H Q I q => h.run wh pins s σ H Q I (k σ H Q q)⟩
theorem dw_and1 (ha : PT X a (liftT Z da)) : PW X (.BoolOp .And [a] pos) (liftT Z da) := pw_and1 ha
theorem dw_or1 (ha : PT X a (liftT Z da)) : PW X (.BoolOp .Or [a] pos) (liftT Z da) := pw_or1 ha
theorem dw_and (ha : PT X a (liftT Z da)) (hb : PW X (.BoolOp .And (b :: rest) pos) (liftT Z db)) : PW X (.BoolOp .And (a :: b :: rest) pos) (liftT Z (dAnd da db)) := upW (pw_and ha hb) fun σ H Q ⟨δ, Hv, n, P, E, rr, h1, q, x⟩ =>
  ⟨δ, Hv, n, _, E, rr, h1, (fun d v H' Hv' n' h2 e p k => by
    obtain ⟨c, rfl, h3⟩ := h2
    refine ⟨c, dv_bl k, ?_⟩
    cases c with
    | true => rw [if_pos rfl] at h3 ⊢; exact ⟨δ, Hv', n', P, E, rr.step e p, h3, q.step e p, x.step e p⟩
    | false =>
      rw [if_neg Bool.false_ne_true] at h3 ⊢
      obtain ⟨c', ec, hq⟩ := q _ _ _ _ _ h3 e p (.bl false)
      cases ec
      exact hq), x⟩
theorem dw_or (ha : PT X a (liftT Z da)) (hb : PW X (.BoolOp .Or (b :: rest) pos) (liftT Z db)) : PW X (.BoolOp .Or (a :: b :: rest) pos) (liftT Z (dOr da db)) := upW (pw_or ha hb) fun σ H Q ⟨δ, Hv, n, P, E, rr, h1, q, x⟩ =>
  ⟨δ, Hv, n, _, E, rr, h1, (fun d v H' Hv' n' h2 e p k => by
    obtain ⟨c, rfl, h3⟩ := h2
    refine ⟨c, dv_bl k, ?_⟩
    cases c with
    | false => rw [if_neg Bool.false_ne_true] at h3 ⊢; exact ⟨δ, Hv', n', P, E, rr.step e p, h3, q.step e p, x.step e p⟩
    | true =>
      rw [if_pos rfl] at h3 ⊢
      obtain ⟨c', ec, hq⟩ := q _ _ _ _ _ h3 e p (.bl true)
      cases ec
      exact hq), x⟩
def IsFs (X : Cx) (g : G) (us : List Value) (f : D → Option Bool) : Prop := ∀ {H Hv : Hp} {v : V} {d : D} {b : Bool}, Same Hv H → Dv g Hv v d → f d = some b → ∃ t, TyX X.K H v t ∧ PySem.W.kitAny X.K t us = some b
theorem d_isi2 {f : D → Option Bool} {b1 b2 : Expr} {c1 c2 : V} {u1 u2 : Value} {px pt : Pos} {kt : Nat} (hf : IsFs X Z.g [u1, u2] f) (hc1 : ClsV c1 u1) (hc2 : ClsV c2 u2) (hg : Gl X "isinstance") (hm : X.mg "isinstance" = none) (ha : PE X a (lift Z da)) (hb1 : PE X b1 (tC c1)) (hb2 : PE X b2 (tC c2))
    (h1 : starEach [a, .Tuple [b1, b2] kt pt] X.env = (false, eval a X.env) :: starEach [.Tuple [b1, b2] kt pt] X.env := by rfl) (h2 : starEach [.Tuple [b1, b2] kt pt] X.env = (false, eval (.Tuple [b1, b2] kt pt) X.env) :: starEach [] X.env := by rfl)
    (h3 : starEach [b1, b2] X.env = (false, eval b1 X.env) :: starEach [b2] X.env := by rfl) (h4 : starEach [b2] X.env = (false, eval b2 X.env) :: starEach [] X.env := by rfl) (hpl : (backTo pos (starEach [.Tuple [b1, b2] kt pt] X.env)).any (·.1) = false := by rfl) :
    PE X (.Call (.Name "isinstance" px) [a, .Tuple [b1, b2] kt pt] [] pos) (lift Z (dApp (gIsi f) (dCons da dNil))) :=
  up (pe_callB call_isiT hg hm (by decide +kernel) (pa_cons ha (pa_cons (pe_tup (pa_cons hb1 (pa_cons hb2 pa_nil h4) h3)) pa_nil h2) h1) (by decide) (by decide) h1 hpl) fun σ H Q ⟨δ, Hv, n, P, E, rr, h1, q, x⟩ => ⟨δ, Hv, n, _, E, rr, h1, (fun d v H' Hv' n' h2 e p k => by
    obtain ⟨z, hz, h3⟩ := h2
    unfold gIsi at hz
    simp only at hz
    cases ef : f d with
    | none => rw [ef] at hz; cases hz
    | some bb =>
      rw [ef] at hz
      cases hz
      refine ⟨by show 2 ≤ sizeLine; decide, fun tp htp => ?_⟩
      have e2 := ext_hid (g := Z.g) (o := .tup [c1, c2]) e.sub htp
      obtain ⟨t, t1, t2⟩ := hf e2.1.sub k ef
      exact ⟨v, tp, [c1, c2], t, [u1, u2], bb, rfl, upd_same, .cons hc1 (.cons hc2 .nil), t1, t2, q _ _ _ _ _ h3 (e.trans (fun _ => p.pd) e2.1) (p.mono (same_new htp) (Nat.le_refl _)) (.bl _)⟩), x⟩
def isSeq : D → Option Bool
  | .non => some false
  | .bl _ => some false
  | .int _ => some false
  | .str _ => some false
  | .lst _ => some true
  | .tup _ => some true
  | .dct _ => some false
  | _ => none
theorem f_seq {g : G} (zk : g.K = X.K) : IsFs X g [.type "tuple", .type "list"] isSeq := by
  intro H Hv v d b s k e
  cases k <;> first | exact ⟨_, .base .non, e⟩ | exact ⟨_, .base (.bl _), e⟩ | exact ⟨_, .base (.int _), e⟩ | exact ⟨_, .base (.str _), e⟩ | (rename_i h _; exact ⟨_, .base (.lst (s _ _ h)), e⟩) | (rename_i h _; exact ⟨_, tyx_tup (zk ▸ same_seqT s h), e⟩) | (rename_i h _; exact ⟨_, .fDict (s _ _ h), e⟩) | cases e
theorem oi_add {g : G} : Op2 g (gI2 fun i j => .int (i + j)) (ipI fun i j => i + j) := by
  intro H Hv x y dx dy d Q s kx ky hf q
  unfold gI2 at hf
  split at hf
  · rename_i i j e
    cases e; cases hf; cases kx; cases ky
    exact ⟨i, j, rfl, rfl, q.here s (.int _)⟩
  · cases hf
theorem oi_sub {g : G} : Op2 g (gI2 fun i j => .int (i - j)) (ipI fun i j => i - j) := by
  intro H Hv x y dx dy d Q s kx ky hf q
  unfold gI2 at hf
  split at hf
  · rename_i i j e
    cases e; cases hf; cases kx; cases ky
    exact ⟨i, j, rfl, rfl, q.here s (.int _)⟩
  · cases hf
theorem fld1 {g : G} {x f : Str} {C : Addr} (T : ClT X.K X.mg x C) (na : NoAttr X.K C f) (zm : g.mg = X.mg) : ∀ c ∈ [x], ∀ C', g.mg c = some (.ref C') → Cls X.K C' ∧ NoAttr X.K C' f := fun c hc C' h => by
  have e : c = x := by simpa using hc
  subst e
  rw [zm, T.g] at h
  cases h
  exact ⟨T.cl, na⟩
/-- enumerate(t, start = k) -/
theorem di_enumK {elts : List Expr} {kk : Nat} {ra : DA} {ek : Expr} {dk : DE} {kp p tpos : Pos} (zk : Z.g.K = X.K) (hg : Gl X "enumerate") (hm : X.mg "enumerate" = none) (ha : PE X a (lift Z da)) (hk : PE X ek (lift Z dk)) (h1 : starEach [a] X.env = (false, eval a X.env) :: starEach [] X.env := by rfl)
    (hs : backTo pos (starEach [a] X.env) = (false, eval a X.env) :: backTo pos (starEach [] X.env) := by rfl) (hpl : (backTo pos (starEach [a] X.env)).any (·.1) = false := by rfl) :
    PI X (.Tuple elts kk tpos) (.Call (.Name "enumerate" p) [a] [⟨some "start", ek, kp⟩] pos) (liftI Z (dIt gEnumK (dCons da (dCons dk dNil)))) :=
  upI (pi_enumTk hg hm (pa_cons ha pa_nil h1) (pk_cons hk pk_nil) hs hpl) fun σ H R ⟨δ, Hv, n, P, E, r, h1, q, x⟩ => by
  refine ⟨δ, Hv, n, _, E, r, h1, (fun d v H1 Hv1 n1 h2 e1 p1 k1 => ⟨δ, Hv1, n1, _, E, r.step e1 p1, h2, (fun d2 v2 H2 Hv2 n2 h3 e2 p2 k2 => ?_), x.step e1 p1⟩), x⟩
  obtain ⟨ys, hy, h3⟩ := h3
  unfold gEnumK at hy
  split at hy
  · rename_i xs k ee
    cases ee
    split at hy
    · rename_i hk
      cases hy
      cases k2
      have k1' := k1.mono e2.see
      cases k1' with
      | tup ha ks =>
        rw [← zk]
        exact ⟨_, _, k, rfl, rfl, hk.1, hk.2, same_seqT e2.sub ha, q _ _ _ _ _ h3 (e1.trans (fun _ => p1.pd) e2) p2 (wk_enumT ha ks)⟩
    · cases hy
  · cases hy
theorem mt_extA : MtR X "list.extend" (fun x xs H Q => rExtendT X.K x xs H Q ∨ rExtend x xs H Q) := MtR.or mt_extendT mt_extend
theorem swp_dv {g : G} {Hv : Hp} {vs : List V} {ds : List D} (k : DvAll g Hv vs ds) : DvAll g Hv (swp [] vs) (swp [] ds) := by
  match vs, ds, k with
  | [], [], _ => exact .nil
  | [_], [_], _ => exact .nil
  | [_, _], [_, _], .cons k1 (.cons k2 .nil) => exact .cons k2 (.cons k1 .nil)
  | _ :: _ :: _ :: _, _ :: _ :: _ :: _, _ => exact .nil
/-- an own class -/
def isOwn (x : Str) : D → Option Bool
  | .obj c _ => if c = x then some true else none
  | _ => none
theorem f_own {g : G} {x : Str} {C : Addr} (T : ClT X.K X.mg x C) (zm : g.mg = X.mg) : IsF X g (.ref C) (isOwn x) := by
  intro H Hv v d b s k e
  cases k with
  | @obj a C' dx c fs gs ha hm ks =>
    unfold isOwn at e
    simp only at e
    split at e
    · rename_i hc
      subst hc
      cases e
      rw [zm, T.g] at hm
      cases hm
      exact ⟨_, T.ty (s _ _ ha), T.self⟩
    · cases e
  | _ => cases e
end
end Dn

/-! Values as trees: reasoning about what is computed. -/
namespace Dn
open PySem PySem.Spec PyProof.Rows L2 Br
theorem for_inv {tg : Tg} {b : DT} {F : DEnds} {xs : List D} {δ : DS} {n : Nat} (Pv : Nat → DS → Nat → Prop) (h0 : Pv 0 δ n)
    (hs : ∀ i x δ n N, xs[i]? = some x → Pv i δ n → (∀ δ' n', Pv (i + 1) δ' n' → N δ' n') → ∃ δ', dTg tg x δ = some δ' ∧ b ⟨N, F.rt, F.nx, N, F.xe⟩ δ' n) (hd : ∀ δ n, Pv xs.length δ n → F.nx δ n) : forGo tg b F xs δ n := by
  have go : ∀ (k i : Nat) (δ : DS) (n : Nat), i + k = xs.length → Pv i δ n → forGo tg b F (xs.drop i) δ n := by
    intro k
    induction k with
    | zero =>
      intro i δ n hi p
      have : i = xs.length := by omega
      subst this
      rw [List.drop_length]
      exact hd δ n p
    | succ k ih =>
      intro i δ n hi p
      have hl : i < xs.length := by omega
      rw [List.drop_eq_getElem_cons hl]
      obtain ⟨δ', h1, h2⟩ := hs i xs[i] δ n (forGo tg b F (xs.drop (i + 1))) (List.getElem?_eq_getElem hl) p fun δ' n' p' => ih (i + 1) δ' n' (by omega) p'
      exact ⟨δ', h1, h2⟩
  have := go xs.length 0 δ n (by omega) h0
  rwa [List.drop_zero] at this
/-- a comprehension: Pv by the turn, what is gathered, the count -/
theorem lc_inv {tg : Tg} {t e : DE} {δ : DS} {xs : List D} {n : Nat} {P : List D → Nat → Prop} (Pv : Nat → List D → Nat → Prop) (h0 : Pv 0 [] n)
    (hs : ∀ i x acc n (N : List D → Nat → Prop), xs[i]? = some x → Pv i acc n → (∀ ys n', Pv (i + 1) (acc ++ ys) n' → N ys n') → ∃ δ', dTg tg x δ = some δ' ∧ t δ' n (fun b n1 => ∃ c, b = .bl c ∧ if c = true then e δ' n1 (fun y n2 => N [y] n2) (fun _ _ _ => False) else N [] n1) (fun _ _ _ => False))
    (hd : ∀ ys n, Pv xs.length ys n → P ys n) : lcGo tg t e δ xs n P := by
  have go : ∀ (k i : Nat) (acc : List D) (n : Nat), i + k = xs.length → Pv i acc n → lcGo tg t e δ (xs.drop i) n (fun ys n' => P (acc ++ ys) n') := by
    intro k
    induction k with
    | zero =>
      intro i acc n hi p
      have : i = xs.length := by omega
      subst this
      rw [List.drop_length]
      show P (acc ++ []) n
      rw [List.append_nil]
      exact hd acc n p
    | succ k ih =>
      intro i acc n hi p
      have hl : i < xs.length := by omega
      rw [List.drop_eq_getElem_cons hl]
      obtain ⟨δ', h1, h2⟩ := hs i xs[i] acc n (fun ys n' => lcGo tg t e δ (xs.drop (i + 1)) n' (fun zs n2 => P (acc ++ (ys ++ zs)) n2)) (List.getElem?_eq_getElem hl) p fun ys n' p' => by
        have := ih (i + 1) (acc ++ ys) n' (by omega) p'
        simp only [List.append_assoc] at this
        exact this
      exact ⟨δ', h1, h2⟩
  have := go xs.length 0 [] n (by omega) h0
  rw [List.drop_zero] at this
  exact this
/-- a comprehension of a plain function -/
theorem lc_pure {tg : Tg} {e : DE} {δ : DS} (f : D → D) : ∀ {xs : List D} {n : Nat} {P : List D → Nat → Prop},
    (∀ x ∈ xs, ∃ δ', dTg tg x δ = some δ' ∧ ∀ (n : Nat) (Q : D → Nat → Prop), Q (f x) n → e δ' n Q (fun _ _ _ => False)) → P (xs.map f) n → lcGo tg (dC (.bl true)) e δ xs n P
  | [], _, _, _, h => h
  | x :: xs, n, P, hs, h => by
    obtain ⟨δ', h1, h2⟩ := hs x (by simp)
    refine ⟨δ', h1, true, rfl, ?_⟩
    rw [if_pos rfl]
    exact h2 _ _ (lc_pure f (fun y hy => hs y (by simp [hy])) h)
theorem while_inv {t : DE} {b : DT} {F : DEnds} {δ : DS} {n : Nat} (W : Nat → DS → Nat → Prop) (m : Nat) (h0 : W m δ n)
    (hs : ∀ m δ n, W m δ n → t δ n (fun x n1 => ∃ c, x = .bl c ∧ if c = true then ∃ N : DS → Nat → Prop, (∀ δ' n', N δ' n' → ∃ m', m' < m ∧ W m' δ' n') ∧ b ⟨N, F.rt, F.nx, N, F.xe⟩ δ n1 else F.nx δ n1) (F.xe δ)) : dWhile t b F δ n := ⟨W, ⟨m, h0⟩, hs⟩
/-- first a, to R; then b, from R -/
theorem dcut {a b : DT} {F : DEnds} {δ : DS} {n : Nat} (R : DS → Nat → Prop) (h2 : ∀ δ' n', R δ' n' → b F δ' n') (h1 : ∀ N, (∀ δ' n', R δ' n' → N δ' n') → a ⟨N, F.rt, F.bk, F.ct, F.xe⟩ δ n) : dSeq a b F δ n := h1 _ h2
theorem draw {δ : DS} {n : Nat} {m : Int} {P : D → Nat → Prop} {E : XD} (hn : n < 1000000000) (h0 : 0 < m) (h1 : m < 1073741824) (h : ∀ r, 0 ≤ r → r < m → P (.int r) (n + 1)) : U_draw [.pen, .int m] n P E := ⟨m, rfl, hn, h0, h1, h⟩
theorem iteI {p A B : Prop} [Decidable p] (h1 : p → A) (h2 : ¬ p → B) : if p then A else B := by
  by_cases h : p
  · rw [if_pos h]; exact h1 h
  · rw [if_neg h]; exact h2 h
/-- rows of numbers as trees -/
def row (xs : List Int) : List D := xs.map .int
theorem row_len (xs : List Int) : (row xs).length = xs.length := List.length_map ..
theorem row_at {xs : List Int} {i : Nat} {x : Int} (h : xs[i]? = some x) : (row xs)[i]? = some (.int x) := by
  unfold row
  rw [List.getElem?_map, h]
  rfl
theorem at_row {xs : List Int} {i : Nat} {d : D} (h : (row xs)[i]? = some d) : ∃ x, xs[i]? = some x ∧ d = .int x := by
  unfold row at h
  rw [List.getElem?_map] at h
  cases e : xs[i]? with
  | none => rw [e] at h; cases h
  | some x => rw [e] at h; exact ⟨x, rfl, (Option.some.inj h).symm⟩
theorem row_cut (xs : List Int) (lo hi : Option Int) : cut (row xs) lo hi = row (cut xs lo hi) := by
  unfold cut row
  rw [List.length_map, ← List.map_drop, ← List.map_take]
theorem row_app (xs ys : List Int) : row xs ++ row ys = row (xs ++ ys) := (List.map_append ..).symm
theorem row_rev (xs : List Int) : (row xs).reverse = row xs.reverse := (List.map_reverse ..).symm
theorem pyAll_row : ∀ xs : List Int, D.pyAll (row xs) = some (xs.map PyData.int)
  | [] => rfl
  | x :: r => by
    show (match D.py (.int x), D.pyAll (row r) with | some a, some b => some (a :: b) | _, _ => none) = _
    rw [pyAll_row r]
    rfl
theorem eqv_row : ∀ xs ys : List Int, PyData.eqvAll (xs.map PyData.int) (ys.map PyData.int) = decide (xs = ys)
  | [], [] => rfl
  | [], _ :: _ => rfl
  | _ :: _, [] => rfl
  | x :: xs, y :: ys => by
    show (x == y && PyData.eqvAll (xs.map PyData.int) (ys.map PyData.int)) = _
    rw [eqv_row xs ys]
    by_cases h : x = y
    · subst h; simp
    · have : ¬ (x :: xs = y :: ys) := fun e => h (List.cons.inj e).1
      simp [h]
theorem eqD_row (xs ys : List Int) : eqD (.tup (row xs)) (.tup (row ys)) = some (decide (xs = ys)) := by
  show (match (D.tup (row xs)).py, (D.tup (row ys)).py with | some p, some q => if SeqAt.shaped p = true ∧ SeqAt.shaped q = true then some (PyData.eqv p q) else none | _, _ => none) = _
  have e : ∀ zs : List Int, (D.tup (row zs)).py = some (.tuple (zs.map PyData.int)) := fun zs => by
    show (D.pyAll (row zs)).map PyData.tuple = _
    rw [pyAll_row]
    rfl
  rw [e, e]
  simp only
  rw [if_pos ⟨shaped_tupInts xs, shaped_tupInts ys⟩]
  show some (PyData.eqvAll _ _) = _
  rw [eqv_row]
theorem cut_to {α : Type} {xs : List α} {i : Int} (h : 0 ≤ i) : cut xs none (some i) = xs.take i.toNat := by
  unfold cut
  rw [sIx_pos h, show HT.sIx xs.length 0 none = 0 from rfl, List.drop_zero, Nat.sub_zero, List.take_eq_take_iff]
  omega
theorem cut_from {α : Type} {xs : List α} {i : Int} (h : 0 ≤ i) : cut xs (some i) none = xs.drop i.toNat := by
  unfold cut
  rw [sIx_pos h, show HT.sIx xs.length xs.length none = xs.length from rfl]
  by_cases hl : i.toNat ≤ xs.length
  · rw [Nat.min_eq_left hl, List.take_of_length_le (by rw [List.length_drop]; omega)]
  · rw [Nat.min_eq_right (by omega), List.drop_eq_nil_of_le (Nat.le_refl _), List.drop_eq_nil_of_le (by omega), List.take_nil]
theorem cut_mid {α : Type} {xs : List α} {i j : Int} (hi : 0 ≤ i) (hj : 0 ≤ j) : cut xs (some i) (some j) = (xs.drop i.toNat).take (j.toNat - i.toNat) := by
  unfold cut
  rw [sIx_pos hi, sIx_pos hj]
  by_cases hl : i.toNat ≤ xs.length
  · rw [Nat.min_eq_left hl, List.take_eq_take_iff, List.length_drop]
    omega
  · rw [Nat.min_eq_right (show xs.length ≤ i.toNat by omega), List.drop_eq_nil_of_le (Nat.le_refl _), List.drop_eq_nil_of_le (by omega), List.take_nil, List.take_nil]
theorem cut_len {α : Type} (xs : List α) (lo hi : Option Int) : (cut xs lo hi).length ≤ xs.length := by
  unfold cut
  rw [List.length_take, List.length_drop]
  omega
theorem atI_nat {α : Type} {xs : List α} {i : Nat} {x : α} (h : xs[i]? = some x) : atI xs (i : Int) = some x := atI_get (by omega) (by simpa using h)
theorem atI0 {α : Type} {x : α} {xs : List α} : atI (x :: xs) (0 : Int) = some x := atI_get (by omega) rfl
theorem atI1 {α : Type} {x y : α} {xs : List α} : atI (x :: y :: xs) (1 : Int) = some y := atI_get (by omega) rfl
theorem atI2 {α : Type} {x y z : α} {xs : List α} : atI (x :: y :: z :: xs) (2 : Int) = some z := atI_get (by omega) rfl
theorem atI3 {α : Type} {x y z w : α} {xs : List α} : atI (x :: y :: z :: w :: xs) (3 : Int) = some w := atI_get (by omega) rfl
theorem atI4 {α : Type} {x y z w v : α} {xs : List α} : atI (x :: y :: z :: w :: v :: xs) (4 : Int) = some v := atI_get (by omega) rfl
theorem eqD_int (i j : Int) : eqD (.int i) (.int j) = some (decide (i = j)) := rfl
theorem eqD_str (i j : Str) : eqD (.str i) (.str j) = some (decide (i = j)) := rfl
theorem ex_if {α : Type} {c : Prop} [Decidable c] {a : α} {P : α → Prop} : (∃ d, (if c then some a else none) = some d ∧ P d) ↔ (c ∧ P a) := by
  constructor
  · rintro ⟨d, h1, h2⟩
    split at h1
    · cases h1; exact ⟨by assumption, h2⟩
    · cases h1
  · rintro ⟨hc, h⟩
    exact ⟨a, if_pos hc, h⟩
theorem numd_get {k : Int} {xs : List D} {i : Nat} {x : D} (h : (numd k xs)[i]? = some x) : ∃ y, xs[i]? = some y ∧ x = .tup [.int (k + (i : Nat)), y] := by
  have hl : i < xs.length := by
    have := (List.getElem?_eq_some_iff.mp h).1
    rwa [numd_len] at this
  have e := List.getElem?_eq_getElem hl
  rw [numd_at e] at h
  exact ⟨_, e, (Option.some.inj h).symm⟩
theorem map_get {α β : Type} {f : α → β} {xs : List α} {i : Nat} {y : β} (h : (xs.map f)[i]? = some y) : ∃ x, xs[i]? = some x ∧ y = f x := by
  rw [List.getElem?_map] at h
  cases e : xs[i]? with
  | none => rw [e] at h; cases h
  | some x => rw [e] at h; exact ⟨x, rfl, (Option.some.inj h).symm⟩
theorem bools_map {α : Type} (p : α → Bool) : ∀ xs : List α, bools (xs.map fun x => D.bl (p x)) = some (xs.map p)
  | [] => rfl
  | x :: r => by
    show (bools (r.map fun x => D.bl (p x))).map (p x :: ·) = _
    rw [bools_map p r]
    rfl
theorem gAll_map {α : Type} (p : α → Bool) (xs : List α) : gAll [.lst (xs.map fun x => D.bl (p x))] = some (.bl (xs.all p)) := by
  show (bools (xs.map fun x => D.bl (p x))).map (fun bs => D.bl (bs.all id)) = _
  rw [bools_map]
  show some (D.bl ((xs.map p).all id)) = _
  rw [List.all_map]
  rfl
theorem nil_row : ([] : List D) = row [] := rfl
theorem eqD_row0 (xs : List Int) : eqD (.tup (row xs)) (.tup []) = some (decide (xs = [])) := eqD_row xs []
theorem size_ok {a b : Nat} (h : a ≤ b) (hb : b ≤ 1000000) : a ≤ sizeLine := Nat.le_trans (Nat.le_trans h hb) (by decide)
theorem small {a : Nat} (h : a ≤ 1000000) : a ≤ sizeLine := Nat.le_trans h (by decide)
theorem smallLt {a : Nat} (h : a ≤ 1000000) : a < sizeLine := Nat.lt_of_le_of_lt h (by decide)
/-! ### each function at its arguments -/
theorem x_add1 (i j : Int) : gAdd [.int i, .int j] = some (.int (i + j)) := rfl
theorem x_add2 (x y : Str) : gAdd [.str x, .str y] = if x.length + y.length ≤ sizeLine then some (.str (x ++ y)) else none := rfl
theorem x_add3 (xs ys : List D) : gAdd [.lst xs, .lst ys] = if xs.length + ys.length ≤ sizeLine then some (.lst (xs ++ ys)) else none := rfl
theorem x_add4 (xs ys : List D) : gAdd [.tup xs, .tup ys] = if xs.length + ys.length ≤ sizeLine then some (.tup (xs ++ ys)) else none := rfl
theorem x_i2 (f : Int → Int → D) (i j : Int) : gI2 f [.int i, .int j] = some (f i j) := rfl
theorem x_sub (i j : Int) : gSub [.int i, .int j] = some (.int (i - j)) := rfl
theorem x_lt (i j : Int) : gLt [.int i, .int j] = some (.bl (decide (i < j))) := rfl
theorem x_le (i j : Int) : gLe [.int i, .int j] = some (.bl (decide (i ≤ j))) := rfl
theorem x_gt (i j : Int) : gGt [.int i, .int j] = some (.bl (decide (j < i))) := rfl
theorem x_ge (i j : Int) : gGe [.int i, .int j] = some (.bl (decide (j ≤ i))) := rfl
theorem x_mod (i j : Int) : gMod [.int i, .int j] = if 0 < j then some (.int (i % j)) else none := rfl
theorem x_div (i j : Int) : gDiv [.int i, .int j] = if CDivW i j then some (.int (i / j)) else none := rfl
theorem x_pow (i j : Int) : gPow [.int i, .int j] = if CPow i j then some (.int (i ^ j.toNat)) else none := rfl
theorem x_mul1 (i j : Int) : gMul [.int i, .int j] = if CMulW i j then some (.int (i * j)) else none := rfl
theorem x_mul2 (xs : List D) (k : Int) : gMul [.tup xs, .int k] = if xs ≠ [] ∧ 0 ≤ k ∧ k ≤ 1000 ∧ xs.length ≤ 1000 then some (.tup (rep k.toNat xs)) else none := rfl
theorem x_mul3 (xs : List D) (k : Int) : gMul [.lst xs, .int k] = if -(2 ^ 63) ≤ k ∧ k < 2 ^ 63 ∧ xs.length * k.toNat ≤ sizeLine then some (.lst (rep k.toNat xs)) else none := rfl
theorem x_neg (i : Int) : gNeg [.int i] = some (.int (-i)) := rfl
theorem x_not (c : Bool) : gNot [.bl c] = some (.bl !c) := rfl
theorem x_tupl (ds : List D) : gTupl ds = if ds.length ≤ sizeLine then some (.tup ds) else none := rfl
theorem x_list (ds : List D) : gList ds = if ds.length ≤ sizeLine then some (.lst ds) else none := rfl
theorem x_len1 (xs : List D) : gLen [.lst xs] = some (.int xs.length) := rfl
theorem x_len2 (xs : List D) : gLen [.tup xs] = some (.int xs.length) := rfl
theorem x_len3 (z : Str) : gLen [.str z] = if z.length ≤ sizeLine then some (.int z.length) else none := rfl
theorem x_abs (i : Int) : gAbs [.int i] = some (.int (if i < 0 then -i else i)) := rfl
theorem x_min (i j : Int) : gMin [.int i, .int j] = some (.int (if j < i then j else i)) := rfl
theorem x_max (i j : Int) : gMax [.int i, .int j] = some (.int (if j > i then j else i)) := rfl
theorem x_int1 (i : Int) : gInt [.int i] = some (.int i) := rfl
theorem x_int2 (b : Bool) : gInt [.bl b] = some (.int (if b then 1 else 0)) := rfl
theorem x_tuple1 (xs : List D) : gTuple [.lst xs] = some (.tup xs) := rfl
theorem x_tuple2 (xs : List D) : gTuple [.tup xs] = some (.tup xs) := rfl
theorem x_listof1 (xs : List D) : gListOf [.lst xs] = some (.lst xs) := rfl
theorem x_listof2 (xs : List D) : gListOf [.tup xs] = some (.lst xs) := rfl
theorem x_iter1 (xs : List D) : gIter [.lst xs] = some xs := rfl
theorem x_iter2 (xs : List D) : gIter [.tup xs] = some xs := rfl
theorem x_iter3 (z : Str) : gIter [.str z] = some (signs z) := rfl
theorem x_range (j : Int) : gRange [.int j] = if -(2 ^ 62) ≤ j ∧ j < 2 ^ 62 then some (intsD 0 j.toNat) else none := rfl
theorem x_range2 (i j : Int) : gRange2 [.int i, .int j] = if (-(2 ^ 62) ≤ i ∧ i < 2 ^ 62) ∧ -(2 ^ 62) ≤ j ∧ j < 2 ^ 62 then some (intsD i (j - i).toNat) else none := rfl
theorem x_enum1 (xs : List D) : gEnum [.lst xs] = some (numd 0 xs) := rfl
theorem x_enum2 (xs : List D) : gEnum [.tup xs] = some (numd 0 xs) := rfl
theorem x_enum3 (z : Str) : gEnum [.str z] = some (numd 0 (signs z)) := rfl
theorem x_enumK (xs : List D) (k : Int) : gEnumK [.tup xs, .int k] = if -(2 ^ 62) ≤ k ∧ k < 2 ^ 62 then some (numd k xs) else none := rfl
theorem x_isi (f : D → Option Bool) (d : D) : gIsi f [d] = (f d).map .bl := rfl
theorem x_isown (x c : Str) (fs : List (Str × D)) : isOwn x (.obj c fs) = if c = x then some true else none := rfl
theorem x_is (d : D) : gIs [d, .non] = some (.bl d.isN) := rfl
theorem x_isnot (d : D) : gIsNot [d, .non] = some (.bl !d.isN) := rfl
theorem x_revT (xs : List D) : gRevT [.tup xs] = some (.tup xs.reverse) := rfl
theorem x_sl1 (lo hi : Option Int) (xs : List D) : gSl lo hi (.lst xs) = some (.lst (cut xs lo hi)) := rfl
theorem x_sl2 (lo hi : Option Int) (xs : List D) : gSl lo hi (.tup xs) = some (.tup (cut xs lo hi)) := rfl
theorem x_sl3 (lo hi : Option Int) (z : Str) : gSl lo hi (.str z) = if z.length ≤ sizeLine then some (.str (cutS z lo hi)) else none := rfl
theorem x_ix1 (xs : List D) (i : Int) : gIx [.lst xs, .int i] = atI xs i := rfl
theorem x_ix2 (xs : List D) (i : Int) : gIx [.tup xs, .int i] = atI xs i := rfl
theorem x_ix3 (z : Str) (i : Int) : gIx [.str z, .int i] = if z.length ≤ sizeLine then (atI z.cps.toList i).map (fun c => D.str ⟨#[c]⟩) else none := rfl
theorem x_fld (cs : List Str) (f c : Str) (fs : List (Str × D)) : gFld cs f [.obj c fs] = if c ∈ cs then fs.lookup f else none := rfl
theorem x_catL (xs ys : List D) : gCatL [.lst xs, .lst ys] = if xs.length + ys.length ≤ sizeLine then some (.lst (xs ++ ys)) else none := rfl
theorem x_append (ds : List D) (d : D) : mAppend ds [d] = if ds.length < sizeLine then some (ds ++ [d]) else none := rfl
theorem x_extend1 (ds es : List D) : mExtend ds [.tup es] = if ds.length + es.length ≤ sizeLine then some (ds ++ es) else none := rfl
theorem x_extend2 (ds es : List D) : mExtend ds [.lst es] = if ds.length + es.length ≤ sizeLine then some (ds ++ es) else none := rfl
theorem x_insert (ds : List D) (i : Int) (d : D) : mInsert ds [.int i, d] = if ds.length < sizeLine ∧ 0 ≤ i ∧ i < 2 ^ 63 then some (ds.take i.toNat ++ [d] ++ ds.drop i.toNat) else none := rfl
theorem x_tg1 (i : Nat) (d : D) (δ : DS) : dTg (.nm i) d δ = some (δ.set i (some (.sh d))) := rfl
theorem x_tg2 (is : List Nat) (ds : List D) (δ : DS) : dTg (.tp is) (.tup ds) δ = if is.length = ds.length then some (setAll δ is ds) else none := rfl
theorem x_tg3 (is : List Nat) (ds : List D) (δ : DS) : dTg (.tp is) (.lst ds) δ = if is.length = ds.length then some (setAll δ is ds) else none := rfl
theorem x_setall1 (δ : DS) (i : Nat) (is : List Nat) (d : D) (ds : List D) : setAll δ (i :: is) (d :: ds) = setAll (δ.set i (some (.sh d))) is ds := rfl
theorem x_eq (d e : D) : gEq [d, e] = (eqD d e).map .bl := rfl
theorem x_ne (d e : D) : gNe [d, e] = (eqD d e).map fun b => .bl !b := rfl
theorem x_isInt0  : isInt .non = some false := rfl
theorem x_isInt1 (b : Bool) : isInt (.bl b) = some true := rfl
theorem x_isInt2 (i : Int) : isInt (.int i) = some true := rfl
theorem x_isInt3 (x : Str) : isInt (.str x) = some false := rfl
theorem x_isInt4 (xs : List D) : isInt (.lst xs) = some false := rfl
theorem x_isInt5 (xs : List D) : isInt (.tup xs) = some false := rfl
theorem x_isBool0  : isBool .non = some false := rfl
theorem x_isBool1 (b : Bool) : isBool (.bl b) = some true := rfl
theorem x_isBool2 (i : Int) : isBool (.int i) = some false := rfl
theorem x_isBool3 (x : Str) : isBool (.str x) = some false := rfl
theorem x_isBool4 (xs : List D) : isBool (.lst xs) = some false := rfl
theorem x_isBool5 (xs : List D) : isBool (.tup xs) = some false := rfl
theorem x_isStr0  : isStr .non = some false := rfl
theorem x_isStr1 (b : Bool) : isStr (.bl b) = some false := rfl
theorem x_isStr2 (i : Int) : isStr (.int i) = some false := rfl
theorem x_isStr3 (x : Str) : isStr (.str x) = some true := rfl
theorem x_isStr4 (xs : List D) : isStr (.lst xs) = some false := rfl
theorem x_isStr5 (xs : List D) : isStr (.tup xs) = some false := rfl
theorem x_isTuple0  : isTuple .non = some false := rfl
theorem x_isTuple1 (b : Bool) : isTuple (.bl b) = some false := rfl
theorem x_isTuple2 (i : Int) : isTuple (.int i) = some false := rfl
theorem x_isTuple3 (x : Str) : isTuple (.str x) = some false := rfl
theorem x_isTuple4 (xs : List D) : isTuple (.lst xs) = some false := rfl
theorem x_isTuple5 (xs : List D) : isTuple (.tup xs) = some true := rfl
theorem x_isList0  : isList .non = some false := rfl
theorem x_isList1 (b : Bool) : isList (.bl b) = some false := rfl
theorem x_isList2 (i : Int) : isList (.int i) = some false := rfl
theorem x_isList3 (x : Str) : isList (.str x) = some false := rfl
theorem x_isList4 (xs : List D) : isList (.lst xs) = some true := rfl
theorem x_isList5 (xs : List D) : isList (.tup xs) = some false := rfl
theorem x_isSeq0  : isSeq .non = some false := rfl
theorem x_isSeq1 (b : Bool) : isSeq (.bl b) = some false := rfl
theorem x_isSeq2 (i : Int) : isSeq (.int i) = some false := rfl
theorem x_isSeq3 (x : Str) : isSeq (.str x) = some false := rfl
theorem x_isSeq4 (xs : List D) : isSeq (.lst xs) = some true := rfl
theorem x_isSeq5 (xs : List D) : isSeq (.tup xs) = some true := rfl
theorem x_setall0 (δ : DS) (is : List Nat) : setAll δ is [] = δ := by cases is <;> rfl
end Dn

/-! Values as trees: what the top says of defs and classes. -/
namespace Dn
open PySem PySem.Spec PyProof.Rows L2 Br
section
variable {K : PySem.W.Frag} {h : Heap} {mg : Str → Option Value} {x qual : Str} {st : Stmt} {f C : Addr} {oc : Value} {od an : Option Addr} {osl : Array (Option Value)} {dV kV doc pm cdv ct : Value}
theorem DefT.okD {P : Program} {w : World} {base : Heap} {CX : CXT} {fd : FuncData} {k : Nat} {ps : List Str} {sp : Sp} (T : DefT K mg x st f fd) (hb : Binds K fd ps []) (F : FnOk P w K mg base CX k f fd ps sp) : OkD P w K mg base CX k x ps sp := ⟨f, fd, T.g, T.F.kp, hb, F⟩
theorem DefT.okK {P : Program} {w : World} {base : Heap} {fd : FuncData} {k : Nat} {p1 p2 : Str} {sp : Sp} (T : DefT K mg x st f fd) (hb : ∀ (kV doc pm : Value) (an : Option Addr) (cdv ct : Value) (a b : Value), bindArgs (PySem.W.fnOf x x (defArgs st) (defBody st) (defScope st) .none kV doc pm an cdv ct) ⟨[], [(p2, b), (p1, a)]⟩ = pure [(p1, a), (p2, b)]) (F : FnOk P w K mg base CX0 k f fd [p1, p2] sp) : OkK P w K mg base k x [p2, p1] swp sp := by
  refine ⟨f, fd, [p1, p2], swp, T.g, T.F.kp, kb_swap fun a b => ?_, F⟩
  obtain ⟨oc, od, kV, doc, pm, an, cdv, ct, osl, rfl, lk, hcd⟩ := T.F.ex
  exact hb kV doc pm an cdv ct a b
/-- the defaults of a def: nd of them -/
def Dfl (K : PySem.W.Frag) (dV : Value) (nd : Nat) : Prop := (nd = 0 ∧ dV = .none) ∨ ∃ (T : Addr) (o : Obj) (its : Array Value) (n : Nat), dV = .ref T ∧ K.lookup T = some o ∧ o.data = .seq its n ∧ its.size = nd
/-- a def with nd defaults -/
structure FunC (K : PySem.W.Frag) (x qual : Str) (st : Stmt) (nd : Nat) (f : Addr) (fd : FuncData) : Prop where
  ex : ∃ (oc : Value) (od : Option Addr) (dV kV doc pm : Value) (an : Option Addr) (cdv ct : Value) (osl : Array (Option Value)),
    fd = PySem.W.fnOf x qual (defArgs st) (defBody st) (defScope st) dV kV doc pm an cdv ct ∧ K.lookup f = some ⟨oc, od, .func fd, osl⟩ ∧ PySem.W.codeIn K cdv qual = true ∧ Dfl K dV nd
theorem FunC.b {nd : Nat} {fd : FuncData} (F : FunC K x qual st nd f fd) : FunB K x qual st f fd := by
  obtain ⟨oc, od, dV, kV, doc, pm, an, cdv, ct, osl, e, lk, hcd, _⟩ := F.ex
  exact ⟨⟨oc, od, dV, kV, doc, pm, an, cdv, ct, osl, e, lk, hcd⟩⟩
/-- all arguments are written -/
theorem FunC.binds {nd : Nat} {fd : FuncData} {ps : List Str} (F : FunC K x qual st nd f fd)
    (h0 : nd = 0 → ∀ (kV doc pm : Value) (an : Option Addr) (cdv ct : Value) (us : List Value), us.length = ps.length → bindArgs (PySem.W.fnOf x qual (defArgs st) (defBody st) (defScope st) .none kV doc pm an cdv ct) ⟨us, []⟩ = pure (ps.zip us))
    (h : ∀ (T : Addr) (kV doc pm : Value) (an : Option Addr) (cdv ct : Value) (us its : List Value), us.length = ps.length → its.length = nd →
      ∃ k, bindArgs (PySem.W.fnOf x qual (defArgs st) (defBody st) (defScope st) (.ref T) kV doc pm an cdv ct) ⟨us, []⟩ = seqItems? (.ref T) >>= k ∧ k (some its.toArray) = pure (ps.zip us)) : Binds K fd ps [] := by
  obtain ⟨oc, od, dV, kV, doc, pm, an, cdv, ct, osl, rfl, lk, hcd, hD⟩ := F.ex
  rcases hD with ⟨e, rfl⟩ | ⟨T, o, its, n, rfl, lT, oT, hl⟩
  · exact .all (h0 e kV doc pm an cdv ct)
  · intro s us X hlen
    rw [List.append_nil] at hlen ⊢
    obtain ⟨k, e1, e2⟩ := h T kV doc pm an cdv ct us its.toList hlen (by rw [Array.length_toList]; exact hl)
    refine BindsTo.of_looks fun M => ?_
    rw [e1]
    exact looks_items X lT oT (.of_pure (by simpa using e2))
/-- a class of one's own with its __init__ -/
structure CsT (K : PySem.W.Frag) (mg : Str → Option Value) (x qual : Str) (st : Stmt) (nd : Nat) (C fI : Addr) (fd : FuncData) : Prop where
  ct : ClT K mg x C
  mkC : Mk K C fI
  F : FunC K "__init__" qual st nd fI fd
theorem csT0 {fI : Addr} (X : K.In h) (G : h.Ns mainGlobals mg) (aC : PySem.W.nsIn K mainGlobals x = some (some (.ref C))) (pg : PySem.W.plainGet K C Str.empty = true) (hd : PySem.W.hasDictIn K C = true) (po : PySem.W.plainOver K C = true)
    (sa : PySem.W.findIn K (.ref C) "__setattr__" = some (some (.builtin "object.__setattr__"))) (ha : PySem.W.findIn K (.ref C) "__class__" = some (some (.builtin "object.__class__"))) (hn : PySem.W.specialIn K (.builtin "object.__class__") "__get__" = some (some (.builtin "getset_descriptor.__get__")))
    (ht : PySem.W.takesIn K (.builtin "object.__class__") = some true) (hm : PySem.W.mroIn K C (.type "object") = some true) (self : PySem.W.kitOne K (.ref C) (.ref C) = some true)
    (mk : PySem.W.makesIn K C = true) (ini : PySem.W.findIn K (.ref C) "__init__" = some (some (.ref fI))) (fn : PySem.W.isFn K (.ref fI) = true) (kp : PySem.W.keepIn K (.ref C) = true)
    (l : K.lookup fI = some ⟨oc, od, .func (PySem.W.fnOf "__init__" qual (defArgs st) (defBody st) (defScope st) .none kV doc pm an cdv ct), osl⟩) (c : PySem.W.codeIn K cdv qual = true) : CsT K mg x qual st 0 C fI (PySem.W.fnOf "__init__" qual (defArgs st) (defBody st) (defScope st) .none kV doc pm an cdv ct) :=
  ⟨⟨PySem.W.mg_of X G aC, ⟨pg, hd, po, sa⟩, ha, hn, ht, hm, self⟩, ⟨mk, ini, fn, kp⟩, ⟨⟨oc, od, .none, kV, doc, pm, an, cdv, ct, osl, rfl, l, c, .inl ⟨rfl, rfl⟩⟩⟩⟩
theorem csTd {fI T : Addr} {nd : Nat} {oT : Obj} {its : Array Value} {nT : Nat} (X : K.In h) (G : h.Ns mainGlobals mg) (aC : PySem.W.nsIn K mainGlobals x = some (some (.ref C))) (pg : PySem.W.plainGet K C Str.empty = true) (hd : PySem.W.hasDictIn K C = true) (po : PySem.W.plainOver K C = true)
    (sa : PySem.W.findIn K (.ref C) "__setattr__" = some (some (.builtin "object.__setattr__"))) (ha : PySem.W.findIn K (.ref C) "__class__" = some (some (.builtin "object.__class__"))) (hn : PySem.W.specialIn K (.builtin "object.__class__") "__get__" = some (some (.builtin "getset_descriptor.__get__")))
    (ht : PySem.W.takesIn K (.builtin "object.__class__") = some true) (hm : PySem.W.mroIn K C (.type "object") = some true) (self : PySem.W.kitOne K (.ref C) (.ref C) = some true)
    (mk : PySem.W.makesIn K C = true) (ini : PySem.W.findIn K (.ref C) "__init__" = some (some (.ref fI))) (fn : PySem.W.isFn K (.ref fI) = true) (kp : PySem.W.keepIn K (.ref C) = true)
    (l : K.lookup fI = some ⟨oc, od, .func (PySem.W.fnOf "__init__" qual (defArgs st) (defBody st) (defScope st) (.ref T) kV doc pm an cdv ct), osl⟩) (c : PySem.W.codeIn K cdv qual = true) (lT : K.lookup T = some oT) (dT : oT.data = .seq its nT) (nT' : its.size = nd) : CsT K mg x qual st nd C fI (PySem.W.fnOf "__init__" qual (defArgs st) (defBody st) (defScope st) (.ref T) kV doc pm an cdv ct) :=
  ⟨⟨PySem.W.mg_of X G aC, ⟨pg, hd, po, sa⟩, ha, hn, ht, hm, self⟩, ⟨mk, ini, fn, kp⟩, ⟨⟨oc, od, .ref T, kV, doc, pm, an, cdv, ct, osl, rfl, l, c, .inr ⟨T, oT, its, nT, rfl, lT, dT, nT'⟩⟩⟩⟩
theorem eqT {fE N : Addr} {nm q : Str} {bs : List Value} {hdct : Bool} {sn : List Str} {sub : List Value} {ab : Bool} {col : Option Bool} {dd : Option Addr} {k0 k1 k2 k3 k5 : Option Value} {newId : String} {o : Obj}
    (xL : K.lookup C = some (excClassObj nm q C N bs [.type "object"] hdct sn sub ab col dd k0 k1 k2 k3 k5 newId)) (ok : PySem.W.nsOkIn K N = true) (e1 : PySem.W.nsIn K N "__eq__" = some (some (.ref fE))) (e2 : PySem.W.nsIn K N "__ne__" = some none)
    (l : K.lookup fE = some o) (oc : o.cls = .type "function") (find : PySem.W.findIn K (.ref C) "__eq__" = some (some (.ref fE))) (isf : PySem.W.isFn K (.ref fE) = true) : EqT K C fE :=
  ⟨⟨nm, q, N, bs, hdct, sn, sub, ab, col, dd, k0, k1, k2, k3, k5, newId, xL, ok, e1, e2⟩, ⟨o, l, oc⟩, find, isf⟩
theorem methT (l : K.lookup f = some ⟨oc, od, .func (PySem.W.fnOf x qual (defArgs st) (defBody st) (defScope st) .none kV doc pm an cdv ct), osl⟩) (c : PySem.W.codeIn K cdv qual = true) (k : PySem.W.keepIn K (.ref f) = true) : Fun K x qual st f (PySem.W.fnOf x qual (defArgs st) (defBody st) (defScope st) .none kV doc pm an cdv ct) := fun_mk l c k
end
end Dn

/-! Values as trees: errors raised and kept, repr, lists that are looked at while they grow. -/
namespace Dn
open PySem PySem.Spec PyProof.Rows L2 Br PySem.BrX
/-! ### raise -/
def mkF {α : Type} (names : List Str) (vs : List α) : Option (List (Str × α)) := if vs.length = names.length then some (names.zip vs).reverse else none
def dRaise (c : Str) (names : List Str) (a : DA) : DT := fun F δ n => a δ n (fun ds n' => ∃ fs, mkF names ds = some fs ∧ F.xe δ c fs n') (F.xe δ)
theorem DvF.append {g : G} {H : Hp} {a c : List (Str × V)} {b d : List (Str × D)} (h : DvF g H a b) (k : DvF g H c d) : DvF g H (a ++ c) (b ++ d) := by
  induction b generalizing a with
  | nil => cases h; exact k
  | cons p r ih => cases h with | cons x y => exact .cons x (ih y)
theorem DvF.reverse {g : G} {H : Hp} {a : List (Str × V)} {b : List (Str × D)} (h : DvF g H a b) : DvF g H a.reverse b.reverse := by
  induction b generalizing a with
  | nil => cases h; exact .nil
  | cons p r ih =>
    cases h with
    | cons x y =>
      rw [List.reverse_cons, List.reverse_cons]
      exact (ih y).append (.cons x .nil)
theorem zip_dv {g : G} {H : Hp} {vs : List V} {ds : List D} (k : DvAll g H vs ds) : ∀ names : List Str, DvF g H (names.zip vs) (names.zip ds)
  | [] => .nil
  | f :: r => by
    cases k with
    | nil => exact .nil
    | cons a b => exact .cons a (zip_dv b r)
theorem mkF_dv {g : G} {H : Hp} {vs : List V} {ds : List D} {names : List Str} {fs : List (Str × D)} (k : DvAll g H vs ds) (h : mkF names ds = some fs) : ∃ gs, mkF names vs = some gs ∧ DvF g H gs fs := by
  unfold mkF at h ⊢
  split at h
  · rename_i hl
    cases h
    exact ⟨_, if_pos (by rw [k.len]; exact hl), (zip_dv k names).reverse⟩
  · cases h
section
variable {X : Cx} {Z : Zx} {e a b : Expr} {es : List Expr} {de da db : DE} {ra : DA} {pos pos2 p : Pos} {k : Nat} {x qual : Str} {ps : List Str} {C fI : Addr} {st : Stmt} {fd : FuncData} {B newId initId : String} {bmB : List Value}
theorem ds_raise {names : List Str} (XB : ExB B newId initId bmB) (hc : X.calm = true) (tk : Takes X Z.W) (T : XcB X.K X.mg x qual st newId bmB C fI fd) (F1 : FnOk X.prog X.w X.K X.mg X.base CX0 k fI fd ps (spXs C (mkF names))) (hb : Binds X.K fd ps []) (hr : Room (k + 1) X.A) (zm : Z.g.mg = X.mg)
    (ha : PA X (e :: es) (liftA Z ra)) (hn : names.length ≤ 1000) (hg : Gl X x := by rfl) (hdb : (x == ("__debug__" : Str)) = false := by decide) (he : starEach (e :: es) X.env = (false, eval e X.env) :: starEach es X.env := by rfl) (hpl : (backTo pos (starEach es X.env)).any (·.1) = false := by rfl) :
    PS X (.Raise (some (.Call (.Name x p) (e :: es) [] pos)) none pos2) (liftS Z (dRaise x names ra)) := upS (ps_rzs XB hc tk T F1 hb hr ha hg hdb he hpl) fun D σ H ⟨δ, Hv, n, F, r, h, k1, k2, k3, k4, k5⟩ => by
  refine ⟨δ, Hv, n, _, _, r, h, (fun ds vs H1 Hv1 n1 h2 e1 p1 kk => ?_), k5.e r⟩
  obtain ⟨fs, hfs, hx⟩ := h2
  obtain ⟨gs, hgs, kf⟩ := mkF_dv kk hfs
  have hl : vs.length = names.length := by
    unfold mkF at hgs
    split at hgs
    · assumption
    · cases hgs
  refine ⟨by rw [hl]; exact hn, gs, hgs, fun d H' hd sm hd' => ?_⟩
  have r1 := r.step e1 p1
  have hvd : Hv1 d = none := by
    cases q : Hv1 d with
    | none => rfl
    | some u => rw [e1.sub _ _ q] at hd; cases hd
  have ex : Ext Z.g H1 Hv1 H' (upd Hv1 d (.xd gs)) := ⟨.of sm, same_new hvd, fun b o hb => by
      by_cases eb : b = d
      · subst eb; rw [upd_same] at hb; cases hb; exact hd'
      · rw [upd_ne eb] at hb; exact sm _ _ (e1.sub _ _ hb), fun c h1 h2 => by
      have : c ≠ d := fun z => h2 (by rw [z]; exact hd)
      rw [upd_ne this]; exact h1, fun z => z.upd (fun _ w => by cases w)⟩
  exact k5 δ σ H' _ n1 x fs _ _ hx (e1.see.trans ex.see) (r1.step ex (p1.mono sm (Nat.le_refl _))) ⟨C, d, gs, rfl, by rw [zm]; exact T.g, rfl, upd_same, kf.mono ex.see⟩
/-! ### try: .. except c as e: kept = e -/
def dTry (i j : Nat) (c : Str) (t : DT) : DT := fun F δ n => t ⟨F.nx, F.rt, F.bk, F.ct, fun δ' c' fs n' => c' = c ∧ i < δ'.length ∧ F.nx ((δ'.set j (some (.sh (.exc c' fs)))).set i none) n'⟩ δ n
theorem ds_try {i j : Nat} {n y : Str} {body : List Stmt} {np pos' q1 q2 q3 : Pos} {t : DT} (hs : X.stack = X.env :: X.outer) (hf : X.env.frame = some X.env.locals) (hex : X.ex = []) (hN : X.N.Nodup) (hi : X.N[i]? = some n) (hj : X.N[j]? = some y) (hij : i ≠ j) (hln : X.env.kindOf n = some .local) (hT : X.mg x = some (.ref C)) (hself : PySem.W.exmOne X.K (.ref C) (.ref C) = some true) (hnm : Names X x (.ref C)) (zm : Z.g.mg = X.mg)
    (hb : ∀ (W : WX) (pn : List (Addr × Obj)) (xe : Value → Shared → Prop), Takes (X.tr pn xe) W → PassesOwn (model X.prog X.w) X.A X.env xe → PSs (X.tr pn xe) body (liftS ⟨Z.g, Z.H0, Z.Hv0, W⟩ t))
    (hsu : ∀ (a : Addr) (oe : Obj) (pn : List (Addr × Obj)), PSs (X.suite a ((a, oe) :: pn)) [.Assign [.Name y q1] (.Name n q2) q3] (tAsg (tVar i) (gName j))) :
    PS X (.Try body [.ExceptHandler (some (.Name x np)) (some n) [.Assign [.Name y q1] (.Name n q2) q3] pos'] [] [] pos) (liftS Z (dTry i j x t)) :=
  upS (ps_try_kp hs hf hex hN hi hln hnm takes0 (tb := fun W => liftS ⟨Z.g, Z.H0, Z.Hv0, W⟩ t) (ts := fun _ _ _ => tAsg (tVar i) (gName j)) hb (fun a oe cls d pn _ _ => hsu a oe pn)) fun D σ H ⟨δ, Hv, m, F, r, h, k1, k2, k3, k4, k5⟩ => by
  refine ⟨δ, Hv, m, _, r, h, k1, k2, k3, k4, fun δ' σ' H' Hv' n' c' fs cls dd hx sm r' ex => ?_⟩
  obtain ⟨rfl, hil, hnx⟩ := hx
  rw [r'.len] at hil
  obtain ⟨C', d, gs, rfl, hC', rfl, hd, kf⟩ := ex
  have eC : C' = C := by
    rw [zm, hT] at hC'
    cases hC'
    rfl
  subst eC
  refine ⟨true, hself, fun _ a ha => ?_, fun z => by cases z⟩
  refine ⟨.ref a, by rw [List.getElem?_set_self hil], fun ha' => ?_⟩
  have ex := ext_new (g := Z.g) (o := xob a (.ref C') (some d)) r'.sub ha'
  have r2 := r'.step ex (r'.pen.mono (same_new ha') (Nat.le_refl _))
  have kx : Dv Z.g (upd Hv' a (xob a (.ref C') (some d))) (.ref a) (.exc c' fs) := .exc upd_same (by rw [zm]; exact hT) (ex.see _ _ hd) (kf.mono ex.see)
  have r3 := ((r2.wipe1 (i := i) (v := some (.ref a))).set (i := j) kx).wipe1 (i := i) (v := none)
  have ed : (((δ'.set i none).set j (some (.sh (.exc c' fs)))).set i none : DS) = (δ'.set j (some (.sh (.exc c' fs)))).set i none := by
    rw [set_set_ne hij, List.set_set]
  rw [ed] at r3
  exact k1 _ _ _ _ _ hnx (sm.trans ex.see) r3
/-! ### kept.f, isinstance(kept, c) -/
def gXf (cs : List Str) (f : Str) : List D → Option D
  | [.exc c fs] => if c ∈ cs then fs.lookup f else none
  | _ => none
theorem d_xf {cs : List Str} {f : Str} (hC : ∀ c ∈ cs, ∀ C, Z.g.mg c = some (.ref C) → XfC X.K C ∧ PySem.W.findIn X.K (.ref C) f = some none) (he : PE X e (lift Z de)) (hb : attributeBase e f X.env (eval e X.env) = eval e X.env := by rfl) : PE X (.Attribute e f pos) (lift Z (dApp (gXf cs f) (dCons de dNil))) :=
  up (pe_kf he hb) fun σ H Q ⟨δ, Hv, n, P, E, rr, h1, q, x⟩ => ⟨δ, Hv, n, _, E, rr, h1, (fun d v H' Hv' n' h2 e p k => by
    obtain ⟨z, hz, h3⟩ := h2
    unfold gXf at hz
    split at hz
    · rename_i c fs ee
      cases ee
      split at hz
      · rename_i hc
        cases k with
        | @exc a C dd _ vs _ ha hm hd ks =>
          obtain ⟨v, v1, v2⟩ := ks.look hz
          obtain ⟨c1, c2⟩ := hC c hc C hm
          exact ⟨a, C, dd, vs, v, rfl, e.sub _ _ ha, c1, c2, e.sub _ _ hd, v1, q _ _ _ _ _ h3 e p v2⟩
      · cases hz
    · cases hz), x⟩
theorem xf1 {g : G} {x f qual : Str} {st : Stmt} {fd : FuncData} (T : XcB X.K X.mg x qual st newId bmB C fI fd) (na : PySem.W.findIn X.K (.ref C) f = some none) (zm : g.mg = X.mg) : ∀ c ∈ [x], ∀ C', g.mg c = some (.ref C') → XfC X.K C' ∧ PySem.W.findIn X.K (.ref C') f = some none := fun c hc C' h => by
  have e : c = x := by simpa using hc
  subst e
  rw [zm, T.g] at h
  cases h
  exact ⟨T.xf, na⟩
/-- f tells of each error class whether it is under u -/
def gIsX (f : Str → Option Bool) : List D → Option D
  | [.exc c _] => (f c).map .bl
  | _ => none
theorem d_isX {f : Str → Option Bool} {cv : V} {u : Value} {px : Pos} (hf : ∀ c b, f c = some b → ∀ C, Z.g.mg c = some (.ref C) → ExcC X.K C ∧ PySem.W.kitOne X.K (.ref C) u = some b) (hc : ClsV cv u) (hg : Gl X "isinstance") (hm : X.mg "isinstance" = none) (ha : PE X a (lift Z da)) (hb : PE X b (tC cv))
    (h1 : starEach [a, b] X.env = (false, eval a X.env) :: starEach [b] X.env := by rfl) (h2 : starEach [b] X.env = (false, eval b X.env) :: starEach [] X.env := by rfl) (hpl : (backTo pos (starEach [b] X.env)).any (·.1) = false := by rfl) :
    PE X (.Call (.Name "isinstance" px) [a, b] [] pos) (lift Z (dApp (gIsX f) (dCons da dNil))) :=
  up (pe_callB call_isX hg hm (by decide +kernel) (pa_cons ha (pa_cons hb pa_nil h2) h1) (by decide) (by decide) h1 hpl) fun σ H Q ⟨δ, Hv, n, P, E, rr, h1, q, x⟩ => ⟨δ, Hv, n, _, E, rr, h1, (fun d v H' Hv' n' h2 e p k => by
    obtain ⟨z, hz, h3⟩ := h2
    unfold gIsX at hz
    split at hz
    · rename_i c fs ee
      cases ee
      cases ef : f c with
      | none => rw [ef] at hz; cases hz
      | some bb =>
        rw [ef] at hz
        cases hz
        cases k with
        | @exc a C dd _ vs _ ha hm hd ks =>
          obtain ⟨c1, c2⟩ := hf c bb ef C hm
          exact ⟨a, C, dd, vs, cv, u, bb, rfl, e.sub _ _ ha, e.sub _ _ hd, c1, hc, c2, q _ _ _ _ _ h3 e p (.bl _)⟩
    · cases hz), x⟩
def only (x : Str) (b : Bool) (c : Str) : Option Bool := if c = x then some b else none
theorem isx1 {g : G} {x qual : Str} {st : Stmt} {fd : FuncData} {bb : Bool} {u : Value} (T : XcB X.K X.mg x qual st newId bmB C fI fd) (k : PySem.W.kitOne X.K (.ref C) u = some bb) (zm : g.mg = X.mg) : ∀ c b, only x bb c = some b → ∀ C', g.mg c = some (.ref C') → ExcC X.K C' ∧ PySem.W.kitOne X.K (.ref C') u = some b := fun c b h C' hm => by
  unfold only at h
  split at h
  · rename_i e
    cases h
    subst e
    rw [zm, T.g] at hm
    cases hm
    exact ⟨T.ec, k⟩
  · cases h
/-! ### repr of lists and tuples -/
def gRepr : List D → Option D
  | [.lst xs] => match D.py (.lst xs) with
    | some p => if p.showable = true ∧ p.hasDict = false ∧ p.depth ≤ 60 ∧ p.shown.length ≤ sizeLine then some (.str p.shown) else none
    | none => none
  | [.tup xs] => match D.py (.tup xs) with
    | some p => if p.showable = true ∧ p.hasDict = false ∧ p.depth ≤ 60 ∧ p.shown.length ≤ sizeLine then some (.str p.shown) else none
    | none => none
  | _ => none
theorem c_repr {g : G} {k : Nat} (zk : g.K = X.K) (hr : Room k X.A) (hg : X.A.guards = some []) : DCl X g (.builtin "repr") gRepr := by
  refine ⟨_, call_repr hr hg, ?_⟩
  intro H Hv xs ds d Q s kk hf q
  unfold gRepr at hf
  split at hf
  · split at hf
    · rename_i p ep
      split at hf
      · rename_i hc
        cases hf
        cases kk with
        | cons k1 k2 =>
          cases k2
          have kd := zk ▸ dp_same s _ _ (dp_of k1 ep)
          cases k1 with
          | lst ha ks => exact ⟨_, p, rfl, kd, hc.1, hc.2.1, hc.2.2.1, hc.2.2.2, q.here s (.str _)⟩
      · cases hf
    · cases hf
  · split at hf
    · rename_i p ep
      split at hf
      · rename_i hc
        cases hf
        cases kk with
        | cons k1 k2 =>
          cases k2
          have kd := zk ▸ dp_same s _ _ (dp_of k1 ep)
          cases k1 with
          | tup ha ks => exact ⟨_, p, rfl, kd, hc.1, hc.2.1, hc.2.2.1, hc.2.2.2, q.here s (.str _)⟩
      · cases hf
    · cases hf
  · cases hf
/-! ### an item of an owning list -/
def dIxO (i : Nat) (e : DE) : DE := fun δ n P E => ∃ ds, δ[i]? = some (some (.ow ds)) ∧ e δ n (fun k n' => ∃ j d, k = .int j ∧ atI ds j = some d ∧ P d n') E
theorem d_ixO {i : Nat} {y : Str} {p1 : Pos} (zk : Z.g.K = X.K) (hx : PE X (.Name y p1) (tVar i)) (hb : PE X b (lift Z db)) (hs : PlainIx b) : PE X (.Subscript (.Name y p1) b pos) (lift Z (dIxO i db)) := up (pe_ix ix_list hx hb hs) fun σ H Q ⟨δ, Hv, n, P, E, rr, ⟨ds, hd, h1⟩, q, x⟩ => by
  obtain ⟨p, vs, s1, s2, s3, s4⟩ := own_at rr hd
  refine ⟨.ref p, s1, δ, Hv, n, _, E, rr, h1, (fun d v H' Hv' n' h2 e pn k => ?_), x⟩
  obtain ⟨j, dd, rfl, hj, h3⟩ := h2
  cases k
  obtain ⟨w, w1, w2⟩ := at_dv (s4.mono e.see) hj
  exact ⟨p, vs, j, w, rfl, rfl, sqL (e.at s3 s2 (fun _ z => by cases z)), w1, q _ _ _ _ _ h3 e pn w2⟩
end
/-! ### a def that may let an error out, called where it doesn't -/
def OkKx (P : Program) (w : World) (K : PySem.W.Frag) (mg : Str → Option Value) (base : Heap) (k : Nat) (x : Str) (ks : List Str) (gV : List V → List V → List V) (sp : Sp) : Prop :=
  ∃ (f : Addr) (fd : FuncData) (ps : List Str) (g : List Value → List Value → List Value), mg x = some (.ref f) ∧ PySem.W.keepIn K (.ref f) = true ∧ KBinds K fd ps ks g gV ∧ FnOk P w K mg base (L2.CX P w) k f fd ps sp
section
variable {X : Cx} {Z : Zx} {e : Expr} {es : List Expr} {ra : DA} {pos p : Pos} {k : Nat} {x : Str} {ps : List Str} {U : List D → M D} {kn : Kn}
theorem d_callX0 (o : OkD X.prog X.w X.K X.mg X.base (L2.CX X.prog X.w) k x ps (spU X.K X.mg kn U)) (hr : Room k X.A) (zk : Z.g.K = X.K) (zm : Z.g.mg = X.mg) (zn : Z.g.kn = kn) (ha : PA X (e :: es) (liftA Z ra)) (hg : Gl X x := by rfl)
    (hdb : (x == ("__debug__" : Str)) = false := by decide) (he : starEach (e :: es) X.env = (false, eval e X.env) :: starEach es X.env := by rfl) (hpl : (backTo pos (starEach es X.env)).any (·.1) = false := by rfl) :
    PE X (.Call (.Name x p) (e :: es) [] pos) (lift Z (dCall0 U ra)) := up (pe_callDS o hr takes0 ha hg hdb he hpl) fun σ H Q ⟨δ, Hv, n, P, E, r, h1, q, xx⟩ => by
  refine ⟨δ, Hv, n, _, E, r, h1, (fun d v H' Hv' n' h2 ee p k => ?_), xx⟩
  have eg := eta_g zk zm zn
  refine ⟨Z.g.pd, Z.g.pc, Hv', d, n', P, (fun _ _ _ => False), ee.sub, (r.step ee p).npd, ?_⟩
  rw [eg]
  exact ⟨p, k, h2, q.step ee p, fun _ _ _ _ _ _ _ z => z.elim⟩
theorem d_callKX0 {kws : List Keyword} {ks : List Str} {gV : List V → List V → List V} {gD : List D → List D} (o : OkKx X.prog X.w X.K X.mg X.base k x ks gV (spU X.K X.mg kn U)) (hr : Room k X.A) (zk : Z.g.K = X.K) (zm : Z.g.mg = X.mg) (zn : Z.g.kn = kn) (hkw : PK X kws (liftA Z ra))
    (hG : ∀ {Hv : Hp} {vs : List V} {ds : List D}, DvAll Z.g Hv vs ds → DvAll Z.g Hv (gV [] vs) (gD ds)) (hg : Gl X x := by rfl) (hall : (backToKw pos (keywordEach kws X.env)).all (·.1.isSome) = true := by rfl) (hks : (backToKw pos (keywordEach kws X.env)).filterMap (·.1) = ks := by rfl)
    (hdb : (x == ("__debug__" : Str)) = false := by decide)
    (hpl : ((backTo pos (starEach [] X.env)).any (·.1) || (backToKw pos (keywordEach kws X.env)).any (·.1.isNone)) = false := by rfl) : PE X (.Call (.Name x p) [] kws pos) (lift Z (dCall0 (fun ds => U (gD ds)) ra)) := by
  obtain ⟨f, fd, ps, g, gm, kp, b, F⟩ := o
  have hp : Passes (L2.CX X.prog X.w) X E0 := passes_call (W := fun _ _ _ _ => False) takes0 (fun _ _ _ _ z => z)
  refine up (pe_callK0 F hr hg gm kp b hp hkw hall hks hdb hpl) fun σ H Q ⟨δ, Hv, n, P, E, r, h1, q, xx⟩ => ?_
  refine ⟨δ, Hv, n, _, E, r, h1, (fun d v H' Hv' n' h2 ee p k => ?_), xx⟩
  have eg := eta_g zk zm zn
  refine ⟨Z.g.pd, Z.g.pc, Hv', gD d, n', P, (fun _ _ _ => False), ee.sub, (r.step ee p).npd, ?_⟩
  rw [eg]
  exact ⟨p, hG k, h2, q.step ee p, fun _ _ _ _ _ _ _ z => z.elim⟩
end
theorem DefT.okKx {P : Program} {w : World} {K : PySem.W.Frag} {mg : Str → Option Value} {base : Heap} {x : Str} {st : Stmt} {f : Addr} {fd : FuncData} {k : Nat} {p1 p2 : Str} {sp : Sp} (T : DefT K mg x st f fd) (hb : ∀ (kV doc pm : Value) (an : Option Addr) (cdv ct : Value) (a b : Value), bindArgs (PySem.W.fnOf x x (defArgs st) (defBody st) (defScope st) .none kV doc pm an cdv ct) ⟨[], [(p2, b), (p1, a)]⟩ = pure [(p1, a), (p2, b)]) (F : FnOk P w K mg base (L2.CX P w) k f fd [p1, p2] sp) : OkKx P w K mg base k x [p2, p1] swp sp := by
  refine ⟨f, fd, [p1, p2], swp, T.g, T.F.kp, kb_swap fun a b => ?_, F⟩
  obtain ⟨oc, od, kV, doc, pm, an, cdv, ct, osl, rfl, lk, hcd⟩ := T.F.ex
  exact hb kV doc pm an cdv ct a b
/-! ### the fields of an error -/
theorem mkF1 {f : Str} {ws : List V} {fs : List (Str × V)} (h : mkF [f] ws = some fs) : ∃ v, ws = [v] ∧ fs = [(f, v)] := by
  unfold mkF at h
  split at h
  · rename_i hl
    cases h
    match ws, hl with
    | [v], _ => exact ⟨v, rfl, rfl⟩
  · cases h
theorem mkF2 {f g : Str} {ws : List V} {fs : List (Str × V)} (h : mkF [f, g] ws = some fs) : ∃ v w, ws = [v, w] ∧ fs = [(g, w), (f, v)] := by
  unfold mkF at h
  split at h
  · rename_i hl
    cases h
    match ws, hl with
    | [v, w], _ => exact ⟨v, w, rfl, rfl⟩
  · cases h
/-! ### the law, where nothing is being shown -/
section
variable {P : Program} {w : World} {K : PySem.W.Frag} {mg : Str → Option Value} {base : Heap} {kn : Kn} {x qual : Str} {st : Stmt} {f : Addr} {fd : FuncData} {N ps : List Str} {k : Nat}
theorem law_DG {i : Nat} {t : DT} {s1 : Stmt} {rest : List Stmt} (F : Fun K x qual st f fd) (S : FnScope N ps (defScope st)) (hps : ps.length = 1) (hN : 0 < N.length) (hbd : defBody st = s1 :: rest)
    (h1 : ∀ (cdv : Value) (A : Around) (outer : List Env) (s : Shared) (H : Hp) (E : XK), Room k (A.deeper (envOfC qual (defScope st) s.heap.objs.size f cdv)) → PS (cxOf CX0 P w K mg base N qual (defScope st) f cdv A outer s H E).nox s1 (tAsg (tCl (spFeed kn.key K) (tCons (tVar 0) tNil)) (gName i)))
    (h2 : ∀ (cdv : Value) (A : Around) (outer : List Env) (s : Shared) (H : Hp) (E : XK) (Z : Zx), A.guards = some [] → Room k (A.deeper (envOfC qual (defScope st) s.heap.objs.size f cdv)) → Z.g.K = K → Z.g.mg = mg → Z.g.kn = kn → PSs (cxOf CX0 P w K mg base N qual (defScope st) f cdv A outer s H E).nox rest (liftS Z t))
    (hU : dLaw N.length i t) (ht : kn.tb = [] := by rfl) : FnG P w K mg base CX0 (k + 1) f fd ps (spLaw K) := by
  refine okG F S (fun vs H Q E h => ?_) (fun cdv A outer s H vs Q E gd hr h => ?_)
  · obtain ⟨a, ns, rfl, _⟩ := h
    rw [hps]; rfl
  · obtain ⟨a, ns, rfl, hs, hl, q⟩ := h
    rw [hbd]
    refine ⟨tSeq _ (fun D σ H' => ∃ Z : Zx, Z.g.K = K ∧ Z.g.mg = mg ∧ Z.g.kn = kn ∧ liftS Z t D σ H'), pss_cons (h1 cdv A outer s H E hr) ⟨fun pins s' σ H' D I ⟨Z, a1, a2, a3, a4⟩ => (h2 cdv A outer s H E Z gd hr a1 a2 a3).run pins s' σ H' D I a4⟩, ?_⟩
    refine ⟨.ref a, by unfold L2.start; rfl, a, ns, rfl, hs, hl, fun d c H' hd sm pen => ⟨⟨⟨K, mg, d, c, kn⟩, H', fun _ => none, fun _ _ _ _ => False⟩, rfl, rfl, rfl, ?_⟩⟩
    refine ⟨_, fun _ => none, 0, _, law_rel (g := ⟨K, mg, d, c, kn⟩) hN ⟨pen, by show LamX.Tabs kn.tb _; rw [ht]; intro p hp; cases hp⟩, hU, fun _ _ _ _ _ z => z.elim, (fun dd v H2 Hv2 n2 hd2 e2 p2 k2 => ?_), fun _ _ _ _ _ z => z.elim, fun _ _ _ _ _ z => z.elim, fun _ _ _ _ _ _ _ _ _ z => z.elim⟩
    obtain ⟨dd, rfl⟩ : ∃ d, dd = .sh d := by
      cases dd with
      | sh d => exact ⟨d, rfl⟩
      | ow _ => exact hd2.elim
      | sf _ _ _ => exact hd2.elim
      | od _ => exact hd2.elim
    have hd2 : dd = .bl true := hd2
    subst hd2
    rw [dv_bl k2]
    exact q H2
end
end Dn

/-! Values as trees: dicts, all that may be shown. -/
namespace Dn
open PySem PySem.Spec PyProof.Rows L2 Br PySem.BrX
mutual
def D.pd : D → Option PyData
  | .non => some .none
  | .bl b => some (.bool b)
  | .int i => some (.int i)
  | .str x => some (.str x)
  | .lst xs => (D.pdAll xs).map .list
  | .tup xs => (D.pdAll xs).map .tuple
  | .dct kvs => match kvs with
    | [] => some (.dict [])
    | _ => none
  | _ => none
def D.pdAll : List D → Option (List PyData)
  | [] => some []
  | x :: xs => match D.pd x, D.pdAll xs with
    | some a, some b => some (a :: b)
    | _, _ => none
end
section
variable {X : Cx} {pins : List (Addr × Obj)} {σ : L2.St} {H Hv : Hp} {s : Shared} {g : G}
mutual
theorem rk_of (I : Inv X pins σ H s) (zk : g.K = X.K) (sm : Same Hv H) : ∀ {d : D} {v : V} {u : Value} {p : PyData}, Dv g Hv v d → d.pd = some p → RelV v u → p.showable = true → p.shown.length ≤ sizeLine →
    (∃ as, Reads s.heap u p as) ∧ ∃ bs, ReadAtMost s.heap p.depth bs ∧ ReprK X.prog X.w bs s.heap p.depth u p.shown
  | _, _, _, _, .non, h, r, _, _ => by
    cases h; cases r
    exact ⟨⟨_, .none⟩, [], (fun _ h => nomatch h), .of_is ReprIs.none _ _ _⟩
  | _, _, _, _, .bl b, h, r, _, _ => by
    cases h; cases r
    exact ⟨⟨_, .bool b⟩, [], (fun _ h => nomatch h), .of_is (ReprIs.bool b) _ _ _⟩
  | _, _, _, _, .int i, h, r, hs, _ => by
    cases h; obtain ⟨t, rfl⟩ := r
    exact ⟨⟨_, .int i t⟩, [], (fun _ h => nomatch h), .of_is (ReprIs.int t (by simpa [PyData.showable] using hs)) _ _ _⟩
  | _, _, _, _, .str x, h, r, _, hz => by
    cases h; obtain ⟨t, rfl⟩ := r
    exact ⟨⟨_, .str x t⟩, [], (fun _ h => nomatch h), .of_is (ReprIs.str x t hz) _ _ _⟩
  | .lst ds, _, _, p, .lst ha ks, h, r, hs, hz => by
    unfold D.pd at h
    cases e : D.pdAll ds with
    | none => rw [e] at h; cases h
    | some q =>
      rw [e] at h
      cases h
      cases r
      obtain ⟨its, rv, ⟨o, n, ho, hc, _, hd⟩, _⟩ := I.list (sqL (sm _ _ ha))
      have hz' : (listText (PyData.shownAll q)).length ≤ sizeLine := hz
      obtain ⟨⟨as, hr⟩, bs, hb, hk⟩ := rkAll_of I zk sm ks e rv (by simpa [PyData.showable] using hs) (fun t ht => Nat.le_trans (listText_mem_le ht) hz')
      have r1 : Reads s.heap (.ref _) (.list q) _ := .list ho hc hd hr
      have hna := not_mem_of_deeper r1 (by show PyData.depthAll q < PyData.depthAll q + 1; omega) hb
      refine ⟨⟨_, r1⟩, _ :: bs, ReadAtMost.cons r1 (by show PyData.depthAll q ≤ PyData.depthAll q + 1; omega) hb, ?_⟩
      cases its with
      | nil =>
        cases hr
        have e1 : PyData.shown (.list []) = "[]" := by simp only [PyData.shown, PyData.shownAll, listText_nil]
        rw [e1]
        exact ReprK.listEmpty ho hc hd
      | cons x l =>
        simp only [PyData.depth, PyData.shown]
        exact ReprK.list ho hc hd hna (by simpa using hk.length_eq) (fun i y e => hk.item i y (by simpa using e))
  | .tup ds, _, _, p, .tup ha ks, h, r, hs, hz => by
    unfold D.pd at h
    cases e : D.pdAll ds with
    | none => rw [e] at h; cases h
    | some q =>
      rw [e] at h
      cases h
      cases r
      obtain ⟨its, rv, ⟨o, ho, hc, n, hd⟩, _⟩ := I.tuple (zk ▸ same_seqT sm ha)
      have hz' : (tupleText (PyData.shownAll q)).length ≤ sizeLine := hz
      obtain ⟨⟨as, hr⟩, bs, hb, hk⟩ := rkAll_of I zk sm ks e rv (by simpa [PyData.showable] using hs) (fun t ht => Nat.le_trans (tupleText_mem_le ht) hz')
      have r1 : Reads s.heap (.ref _) (.tuple q) _ := .tuple ho hc hd hr
      have hna := not_mem_of_deeper r1 (by show PyData.depthAll q < PyData.depthAll q + 1; omega) hb
      refine ⟨⟨_, r1⟩, _ :: bs, ReadAtMost.cons r1 (by show PyData.depthAll q ≤ PyData.depthAll q + 1; omega) hb, ?_⟩
      simp only [PyData.depth, PyData.shown]
      exact ReprK.tuple ho hc hd hna hk
  | .dct [], _, _, p, .dct ha ks, h, r, hs, hz => by
    cases h
    cases r
    cases ks
    obtain ⟨_, hsys, vs, rk, o, es, ep, ho, hc, hd, _, hp, _⟩ := dk_rd I.hok (.inr ⟨_, sm _ _ ha⟩)
    cases rk
    have he : es.toList = [] := by
      cases q : es.toList with
      | nil => rfl
      | cons a b => rw [q] at hp; cases hp
    have r1 : Reads s.heap (.ref _) (.dict []) _ := .dict (as := []) (bs := []) ho hc.1 hd (by rw [he]; exact .nil) (by rw [he]; exact .nil)
    refine ⟨⟨_, r1⟩, _ :: [], ReadAtMost.cons (n := 0) r1 (Nat.zero_le _) (fun _ h => nomatch h), ?_⟩
    have := ReprK.dict (prog := X.prog) (w := X.w) (as := []) (d := 0) (ps := []) ho hc.1 hd hsys (by simp) (by rw [he]; exact .nil)
    exact this
  | .dct (_ :: _), _, _, p, .dct ha ks, h, r, _, _ => by cases h
  | _, _, _, _, .obj _ _ _, h, _, _, _ => by cases h
  | _, _, _, _, .exc _ _ _ _, h, _, _, _ => by cases h
  | _, _, _, _, .pen, h, _, _, _ => by cases h
  | _, _, _, _, .scr _, h, _, _, _ => by cases h
  | _, _, _, _, .fn _ _ _, h, _, _, _ => by cases h
theorem rkAll_of (I : Inv X pins σ H s) (zk : g.K = X.K) (sm : Same Hv H) : ∀ {ds : List D} {vs : List V} {us : List Value} {ps : List PyData}, DvAll g Hv vs ds → D.pdAll ds = some ps → Vals vs us → PyData.showableAll ps = true → (∀ t ∈ PyData.shownAll ps, t.length ≤ sizeLine) →
    (∃ as, ReadsAll s.heap us ps as) ∧ ∃ bs, ReadAtMost s.heap (PyData.depthAll ps) bs ∧ ReprAllK X.prog X.w bs s.heap (PyData.depthAll ps) us (PyData.shownAll ps)
  | [], _, _, _, .nil, h, r, _, _ => by
    cases h; cases r
    exact ⟨⟨_, .nil⟩, [], (fun _ h => nomatch h), .nil⟩
  | d :: ds, _, _, ps, .cons k ks, h, r, hs, hz => by
    unfold D.pdAll at h
    cases e : d.pd with
    | none => rw [e] at h; cases h
    | some a =>
      cases e2 : D.pdAll ds with
      | none => rw [e, e2] at h; cases h
      | some b =>
        rw [e, e2] at h
        cases h
        cases r with
        | cons r1 r2 =>
          have hs' : a.showable = true ∧ PyData.showableAll b = true := by simpa [PyData.showableAll] using hs
          obtain ⟨⟨as, q1⟩, b1, hb1, k1⟩ := rk_of I zk sm k e r1 hs'.1 (hz _ (by simp [PyData.shownAll]))
          obtain ⟨⟨bs, q2⟩, b2, hb2, k2⟩ := rkAll_of I zk sm ks e2 r2 hs'.2 (fun t ht => hz t (by simp [PyData.shownAll, ht]))
          refine ⟨⟨_, .cons q1 q2⟩, b1 ++ b2, (hb1.mono (Nat.le_max_left _ _)).append (hb2.mono (Nat.le_max_right _ _)), ?_⟩
          exact .cons ((k1.more fun b hb => List.mem_append_left _ hb).level_le (Nat.le_max_left _ _)) (k2.more_le (fun b hb => List.mem_append_right _ hb) (Nat.le_max_right _ _))
end
/-- repr(x), x a tree without objects -/
def rReprA (g : G) : List V → Hp → VK → Prop := fun xs H Q => ∃ (v : V) (d : D) (p : PyData) (Hv : Hp), xs = [v] ∧ Same Hv H ∧ Dv g Hv v d ∧ d.pd = some p ∧ p.showable = true ∧ p.depth ≤ 60 ∧ p.shown.length ≤ sizeLine ∧ Q (.str p.shown) H
theorem call_reprA {k : Nat} (zk : g.K = X.K) (hr : Room k X.A) (hg : X.A.guards = some []) : CallR X (.builtin "repr") (rReprA g) := by
  intro pins s σ H xs us Q I r h
  obtain ⟨v, d, p, Hv, rfl, sm, kd, hp, hs, hdep, hz, q⟩ := h
  obtain ⟨u, rfl, ru⟩ := vals1 r
  have hu := hr.un
  cases kd with
  | non => cases hp; cases ru; exact PySem.P.repr_of_none ⟨.str _, H, I.tok _, ⟨_, rfl⟩, q⟩
  | bl b => cases hp; cases ru; exact PySem.P.repr_of_bool ⟨.str _, H, I.tok _, ⟨_, rfl⟩, q⟩
  | int i => cases hp; obtain ⟨t, rfl⟩ := ru; exact PySem.P.repr_of_int (by simpa [PyData.showable] using hs) ⟨.str _, H, I.tok _, ⟨_, rfl⟩, q⟩
  | str x => cases hp; obtain ⟨t, rfl⟩ := ru; exact PySem.P.repr_of_str ⟨.str _, H, I.tok _, ⟨_, rfl⟩, q⟩ hz
  | @lst a xs ds ha ks =>
    unfold D.pd at hp
    cases e : D.pdAll ds with
    | none => rw [e] at hp; cases hp
    | some ps =>
      rw [e] at hp
      cases hp
      cases ru
      have hdep' : PyData.depthAll ps + 1 ≤ 60 := hdep
      obtain ⟨its, rv, ⟨o, n, ho, hc, _, hd⟩, _⟩ := I.list (sqL (sm _ _ ha))
      have hz' : (listText (PyData.shownAll ps)).length ≤ sizeLine := hz
      obtain ⟨⟨as, hr⟩, bs, hb, hk⟩ := rkAll_of I zk sm ks e rv (by simpa [PyData.showable] using hs) (fun t ht => Nat.le_trans (listText_mem_le ht) hz')
      have r1 : Reads s.heap (.ref a) (.list ps) _ := .list ho hc hd hr
      have hna := not_mem_of_deeper r1 (by show PyData.depthAll ps < PyData.depthAll ps + 1; omega) hb
      refine call_repr_slot (by omega) ⟨o, ho, hc⟩ F.slot_list_repr.toG ?_
      cases its with
      | nil =>
        cases hr
        have e1 : PyData.shown (.list []) = "[]" := by simp only [PyData.shown, PyData.shownAll, listText_nil]
        rw [e1] at q
        exact call_list_repr_empty ⟨o, ho, hc⟩ ho hd ⟨_, _, rfl, .str _, H, I.tok _, ⟨_, rfl⟩, q⟩
      | cons x l =>
        exact call_list_reprK ho hc hd hna (by simpa using hk.length_eq) (fun i y e => hk.item i y (by simpa using e)) hg (fun b _ => Clear.nil b) (by show X.A.units + 1 + (PyData.depthAll ps + 1) < cLine; omega) (fun _ _ z => z) (fun h' u tk hk => ⟨_, _, rfl, .str _, H, I.kept (t' := tk) hk, ⟨u, rfl⟩, q⟩) hz'
  | @tup a xs ds ha ks =>
    unfold D.pd at hp
    cases e : D.pdAll ds with
    | none => rw [e] at hp; cases hp
    | some ps =>
      rw [e] at hp
      cases hp
      cases ru
      have hdep' : PyData.depthAll ps + 1 ≤ 60 := hdep
      obtain ⟨its, rv, ⟨o, ho, hc, n, hd⟩, _⟩ := I.tuple (zk ▸ same_seqT sm ha)
      have hz' : (tupleText (PyData.shownAll ps)).length ≤ sizeLine := hz
      obtain ⟨⟨as, hr⟩, bs, hb, hk⟩ := rkAll_of I zk sm ks e rv (by simpa [PyData.showable] using hs) (fun t ht => Nat.le_trans (tupleText_mem_le ht) hz')
      have r1 : Reads s.heap (.ref a) (.tuple ps) _ := .tuple ho hc hd hr
      have hna := not_mem_of_deeper r1 (by show PyData.depthAll ps < PyData.depthAll ps + 1; omega) hb
      refine call_repr_slot (by omega) ⟨o, ho, hc⟩ F.slot_tuple_repr ?_
      exact call_tuple_reprK ho hc hd hna hk hg (fun b _ => Clear.nil b) (by show X.A.units + 1 + (PyData.depthAll ps + 1) < cLine; omega) (fun _ _ z => z) (fun h' u tk hk => ⟨_, _, rfl, .str _, H, I.kept (t' := tk) hk, ⟨u, rfl⟩, q⟩) hz'
  | @dct a oo kvs ks ha kk =>
    unfold D.pd at hp
    split at hp
    · cases hp
      cases ru
      cases kk
      obtain ⟨_, hsys, vs, rk, o, es, ep, ho, hc, hd, _, hpp, _⟩ := dk_rd I.hok (.inr ⟨_, sm _ _ ha⟩)
      cases rk
      have he : es.toList = [] := by
        cases q : es.toList with
        | nil => rfl
        | cons a b => rw [q] at hpp; cases hpp
      refine call_repr_slot (by omega) ⟨o, ho, hc.1⟩ F.slot_dict_repr ?_
      exact call_dict_reprK (as := []) (d := 0) (ps := []) ho hc.1 hd hsys (by simp) (by rw [he]; exact .nil) hg (fun b _ => Clear.nil b) (by show X.A.units + 1 + (0 + 1) < cLine; omega) (fun _ _ z => z) (fun h' u tk hk => ⟨_, _, rfl, .str _, H, I.kept (t' := tk) hk, ⟨u, rfl⟩, q⟩) hz
    · cases hp
  | obj _ _ _ => cases hp
  | exc _ _ _ _ => cases hp
  | pen => cases hp
  | scr _ => cases hp
  | fn _ _ _ => cases hp
def gReprA : List D → Option D
  | [d] => match d.pd with
    | some p => if p.showable = true ∧ p.depth ≤ 60 ∧ p.shown.length ≤ sizeLine then some (.str p.shown) else none
    | none => none
  | _ => none
theorem c_reprA {k : Nat} (zk : g.K = X.K) (hr : Room k X.A) (hg : X.A.guards = some []) : DCl X g (.builtin "repr") gReprA := by
  refine ⟨_, call_reprA zk hr hg, ?_⟩
  intro H Hv xs ds d Q s kk hf q
  unfold gReprA at hf
  split at hf
  · split at hf
    · rename_i p ep
      split at hf
      · rename_i hc
        cases hf
        cases kk with
        | cons k1 k2 =>
          cases k2
          exact ⟨_, _, p, Hv, rfl, s, k1, ep, hc.1, hc.2.1, hc.2.2, q.here s (.str _)⟩
      · cases hf
    · cases hf
  · cases hf
/-! ### {} -/
def dDct0 : DE := fun δ n P E => P (.dct []) n
theorem d_dct0 {Z : Zx} {pos : Pos} : PE X (.Dict [] [] pos) (lift Z dDct0) := up (pe_frz pe_dnewK) fun σ H Q ⟨δ, Hv, n, P, E, rr, h1, q, x⟩ p hp => ⟨p, [], rfl, upd_same, fun o => by
  rw [upd_upd]
  exact (gives_of q rr.pen h1).dct rr.sub hp .nil⟩
end
end Dn

/-! Values as trees: classes whose __init__ may let an error out. -/
namespace Dn
open PySem PySem.Spec PyProof.Rows L2 Br PySem.BrX
section
variable {X : Cx} {CX : CXT} {k : Nat} {f C : Addr} {fd : FuncData} {ps : List Str} {sp : Sp} {dw : List V} {dv : List Value} {E : XK}
/-- a new instance, made where σ is what the locals hold -/
theorem mk_at {pins : List (Addr × Obj)} {σ : L2.St} {H : Hp} {s : Shared} {Q : VK} {us : List Value} {vs : List V} (M : Mk X.K C f) (F : FnOk X.prog X.w X.K X.mg X.base CX k f fd ps sp) (hr : Room (k + 1) X.A) (bd : Binds X.K fd ps dv) (rd : Vals dw dv)
    (px : PassesAt CX X σ E) (I : Inv X pins σ H s) (rv : Vals vs us)
    (go : ∀ y dy, H y = none → H dy = none → dy ≠ y → sp (.ref y :: (vs ++ dw)) (upd (upd H dy (.own y)) y (.ins C dy [])) (fun v H2 => v = .non ∧ Q (.ref y) H2) E) :
    wpAny (model X.prog X.w) X.A (call (.ref C) us) (EP X pins σ Q) X.xe s := by
  have pre := go _ _ (I.hok.fresh (Nat.le_succ s.heap.objs.size)) (I.hok.fresh (Nat.le_refl s.heap.objs.size)) (Nat.ne_of_lt (Nat.lt_succ_self _))
  have J := Inv.made (C := C) I
  have all : Vals (V.ref (s.heap.objs.size + 1) :: (vs ++ dw)) (Value.ref (s.heap.objs.size + 1) :: (us ++ dv)) := .cons rfl (rv.append rd)
  have ln : (Value.ref (s.heap.objs.size + 1) :: us ++ dv).length = ps.length := all.length.symm.trans (F.len _ _ _ _ pre)
  have body := F.run _ X.stack _ _ ⟨Value.ref (s.heap.objs.size + 1) :: us, []⟩ _ _ _ E (hr.make C us []) (J.env0.make C us []) (bd _ (Value.ref (s.heap.objs.size + 1) :: us) J.kIn ln) all pre
  refine wpAny_call (make_map (f := f) I.kIn M.makes M.init (beq_iff_eq.mp M.fn) (codeAny_mono body fun out s' w => ?_))
  rcases out with e | (u | _ | _ | _)
  · exact px pins _ _ e s' J w
  all_goals first | exact False.elim w | skip
  · obtain ⟨v, H', J', ru, hv, q⟩ := J.after w
    subst hv
    exact ⟨ru, V.ref (s.heap.objs.size + 1), H', J', rfl, q⟩
/-- the class makes instances, or lets an error out -/
def OkCx (P : Program) (w : World) (K : PySem.W.Frag) (mg : Str → Option Value) (base : Heap) (k : Nat) (x : Str) (C : Addr) (ps : List Str) (dw : List V) (sp : Sp) : Prop :=
  ∃ (f : Addr) (fd : FuncData) (dv : List Value), mg x = some (.ref C) ∧ Mk K C f ∧ Binds K fd ps dv ∧ Vals dw dv ∧ FnOk P w K mg base (L2.CX P w) k f fd ps sp
def tMkS (C : Addr) (sp : Sp) (dw : List V) (W : WX) (t : TA) : TE := fun σ H Q => t σ H fun vs H1 => ∀ y dy, H1 y = none → H1 dy = none → dy ≠ y →
  sp (.ref y :: (vs ++ dw)) (upd (upd H1 dy (.own y)) y (.ins C dy [])) (fun v H2 => v = .non ∧ Q (.ref y) H2) (WE W σ)
theorem pe_mkS {W : WX} {x : Str} {p pos : Pos} {e : Expr} {es : List Expr} {t : TA} (O : OkCx X.prog X.w X.K X.mg X.base k x C ps dw sp) (hr : Room (k + 1) X.A) (tk : Takes X W) (ha : PA X (e :: es) t) (hg : Gl X x := by rfl)
    (hdb : (x == ("__debug__" : Str)) = false := by decide) (he : starEach (e :: es) X.env = (false, eval e X.env) :: starEach es X.env := by rfl) (hpl : (backTo pos (starEach es X.env)).any (·.1) = false := by rfl) :
    PE X (.Call (.Name x p) (e :: es) [] pos) (tMkS C sp dw W t) := by
  obtain ⟨f, fd, dv, gm, M, b, rd, F⟩ := O
  refine ⟨fun pins s σ H Q I h => wpAny_Call_Name_kw (ld_glob I hg gm ?_ hdb)⟩
  exact PySem.W.callWith_K (h₀ := X.base) I.ok.mod.kin M.kp (thn (ha.run pos pins s σ H _ I h) fun us s1 ⟨vs, H1, I1, r, q⟩ => ⟨I1.kIn, mk_at M F hr b rd (passAt tk σ) I1 r q⟩) he hpl
end
section
variable {P : Program} {w : World} {K : PySem.W.Frag} {mg : Str → Option Value} {base : Heap} {kn : Kn} {c x qual : Str} {st : Stmt} {f : Addr} {fd : FuncData} {N ps : List Str} {k m : Nat} {t : DT}
theorem FunB.okX {sp : Sp} (F : FunB K x qual st f fd) (S : FnScope N ps (defScope st)) (hlen : ∀ vs H Q E, sp vs H Q E → vs.length = ps.length)
    (hbd : ∀ (cd : Value) (A : Around) (out : List Env) (s : Shared) (H : Hp) (vs : List V) (Q : VK) (E : XK), Room k (A.deeper (envOfC qual (defScope st) s.heap.objs.size f cd)) → sp vs H Q E →
      ∃ t, PSs (cxOf (L2.CX P w) P w K mg base N qual (defScope st) f cd A out s H E) (defBody st) t ∧ t { nx := fun _ H' => Q .non H', rt := Q } (L2.start N vs) H) : FnOk P w K mg base (L2.CX P w) (k + 1) f fd ps sp := by
  obtain ⟨_, _, _, _, _, _, _, cd, _, _, rfl, lk, hcd⟩ := F.ex
  exact fn_of lk hcd S hlen fun A out s H vs Q E hr z => hbd cd A out s H vs Q E hr z
theorem init_DX (F : FunB K x qual st f fd) (S : FnScope N ps (defScope st)) (hm : ps.length = m + 1) (hN : 0 < N.length)
    (hb : ∀ (cdv : Value) (A : Around) (outer : List Env) (s : Shared) (H : Hp) (E : XK) (Z : Zx), Room k (A.deeper (envOfC qual (defScope st) s.heap.objs.size f cdv)) → Z.g.K = K → Z.g.mg = mg → Z.g.kn = kn → Z.W = (fun c d _ H' => E c d H') → PSs (cxOf (L2.CX P w) P w K mg base N qual (defScope st) f cdv A outer s H E) (defBody st) (liftS Z t)) :
    FnOk P w K mg base (L2.CX P w) (k + 1) f fd ps (spI K mg kn c (dInit m N.length c t)) := by
  refine FunB.okX F S (fun vs H Q E h => by rw [spI_len h, hm]) (fun cdv A outer s H vs Q E hr h => ?_)
  obtain ⟨pd, pc, C, dx, y, ws, Hv, ds, n, Pz, Ex, rfl, hy, hC, hvy, sm, np, p, kk, hU, q, xx⟩ := h
  exact ⟨_, hb cdv A outer s H E ⟨⟨K, mg, pd, pc, kn⟩, without H y, Hv, fun c d _ H' => E c d H'⟩ hr rfl rfl rfl rfl, init_of hN rfl rfl (fun _ _ _ _ z => z) hy hC hvy sm np p kk hU q xx⟩
end
section
variable {X : Cx} {Z : Zx} {e : Expr} {es : List Expr} {ra : DA} {pos p : Pos} {k : Nat} {x : Str} {kn : Kn} {ps : List Str} {C : Addr} {U : MI}
/-- c(a, ..): the fields, or an error; es: the defaults that fill up -/
def dMakeX (c : Str) (U : MI) (es : List D) (a : DA) : DE := fun δ n P E => a δ n (fun ds n' => U (ds ++ es) n' (fun fs n2 => P (.obj c fs) n2) E) E
/-- what is made of the instance y, seen from outside -/
theorem ext_mk {g : G} {H Hv H' Hv' H2 Hv2 : Hp} {n : Nat} {y dy : Addr} {o : HO} (ee : Ext g H Hv H' Hv') (pn : Pn g H' n) (hy : H' y = none) (hdy : H' dy = none) (e2 : Ext g (without (upd (upd H' dy (.own y)) y o) y) Hv' H2 Hv2) : Ext g H Hv H2 Hv2 := by
  have w1 : ∀ b v, b ≠ y → H' b = some v → without (upd (upd H' dy (.own y)) y o) y b = some v := fun b v hb e => by
    rw [without_ne hb, upd_ne hb, upd_ne (ne_of_none e hdy)]
    exact e
  refine ⟨fun b v nb e => ?_, ee.see.trans e2.see, e2.sub, fun c hc1 hc2 => ?_, fun z => e2.nt (ee.nt z)⟩
  · by_cases eb : b = y
    · subst eb
      obtain ⟨_, w, _⟩ := ee.but _ _ nb e
      rw [hy] at w; cases w
    · obtain ⟨o1, a1, a2⟩ := ee.but _ _ nb e
      obtain ⟨o2, b1, b2⟩ := e2.but b o1 nb (w1 b o1 eb a1)
      exact ⟨o2, b1, fun z => by have := a2 z; subst this; exact b2 z⟩
  · have ny : c ≠ y := fun z => by
      subst z
      exact hc2 (ext_fresh ee pn hy)
    refine e2.hid c (ee.hid c hc1 hc2) fun z => ?_
    cases w : H' c with
    | none =>
      by_cases ez : c = g.pd
      · subst ez; exact pn.pd w
      · cases w2 : H c with
        | none => exact hc2 w2
        | some o =>
          obtain ⟨_, w3, _⟩ := ee.but _ _ ez w2
          rw [w3] at w; cases w
    | some o => rw [w1 c o ny w] at z; cases z
theorem d_makeX {dw : List V} {es' : List D} (o : OkCx X.prog X.w X.K X.mg X.base k x C ps dw (spI X.K X.mg kn x U)) (hdw : ∀ Hv, DvAll Z.g Hv dw es') (hr : Room (k + 1) X.A) (zk : Z.g.K = X.K) (zm : Z.g.mg = X.mg) (zn : Z.g.kn = kn) (tk : Takes X Z.W) (ha : PA X (e :: es) (liftA Z ra)) (hg : Gl X x := by rfl)
    (hdb : (x == ("__debug__" : Str)) = false := by decide) (he : starEach (e :: es) X.env = (false, eval e X.env) :: starEach es X.env := by rfl) (hpl : (backTo pos (starEach es X.env)).any (·.1) = false := by rfl) :
    PE X (.Call (.Name x p) (e :: es) [] pos) (lift Z (dMakeX x U es' ra)) := up (pe_mkS o hr tk ha hg hdb he hpl) fun σ H Q ⟨δ, Hv, n, P, E, r, h1, q, xx⟩ => by
  obtain ⟨_, _, _, hmC, _⟩ := o
  refine ⟨δ, Hv, n, _, E, r, h1, (fun d v H' Hv' n' h2 ee pn k => ?_), xx⟩
  have eg := eta_g zk zm zn
  intro y dy hy hdy hne
  have hv0 : ∀ {b : Addr}, H' b = none → Hv' b = none := fun {b} hb => by
    cases z : Hv' b with
    | none => rfl
    | some o => rw [ee.sub _ _ z] at hb; cases hb
  have s1 : Same H' (upd (upd H' dy (.own y)) y (.ins C dy [])) := fun b o hb => by
    rw [upd_ne (ne_of_none hb hy), upd_ne (ne_of_none hb hdy)]; exact hb
  refine ⟨Z.g.pd, Z.g.pc, C, dy, y, v ++ dw, Hv', d ++ es', n', (fun fs n2 => P (.obj x fs) n2), E, rfl, upd_same, hmC, hv0 hy, ee.sub.trans s1, (r.step ee pn).npd, ?_⟩
  rw [eg]
  refine ⟨pn.mono s1 (Nat.le_refl _), k.append (hdw _), h2, fun fs fvs dx' H2 Hv2 n2 hp e2 p2 h3 hv3 kf => ⟨rfl, ?_⟩, fun c fs n2 cls dd H2 Hv2 hE e2 p2 z => xx c fs n2 cls dd H2 Hv2 hE (ext_mk ee pn hy hdy e2) p2 z⟩
  have e3 := ext_mk ee pn hy hdy e2
  refine q (.obj x fs) (.ref y) H2 (upd Hv2 y (.ins C dx' fvs)) n2 hp ⟨e3.but, e3.see.trans (same_new hv3), fun b o e => ?_, fun c hc1 hc2 => ?_, fun z => (e3.nt z).upd (fun _ w => by cases w)⟩ p2 (.obj upd_same (zm ▸ hmC) (kf.mono (same_new hv3)))
  · by_cases eb : b = y
    · subst eb; rw [upd_same] at e; cases e; exact h3
    · rw [upd_ne eb] at e; exact e2.sub _ _ e
  · have ny : c ≠ y := fun z => by
      subst z
      exact hc2 (ext_fresh ee pn hy)
    rw [upd_ne ny]
    exact e3.hid c hc1 hc2
/-- where no error is let out -/
def dMakeX0 (c : Str) (U : MI) (es : List D) (a : DA) : DE := fun δ n P E => a δ n (fun ds n' => U (ds ++ es) n' (fun fs n2 => P (.obj c fs) n2) (fun _ _ _ => False)) E
theorem d_makeX0 {dw : List V} {es' : List D} (o : OkCx X.prog X.w X.K X.mg X.base k x C ps dw (spI X.K X.mg kn x U)) (hdw : ∀ Hv, DvAll Z.g Hv dw es') (hr : Room (k + 1) X.A) (zk : Z.g.K = X.K) (zm : Z.g.mg = X.mg) (zn : Z.g.kn = kn) (ha : PA X (e :: es) (liftA Z ra)) (hg : Gl X x := by rfl)
    (hdb : (x == ("__debug__" : Str)) = false := by decide) (he : starEach (e :: es) X.env = (false, eval e X.env) :: starEach es X.env := by rfl) (hpl : (backTo pos (starEach es X.env)).any (·.1) = false := by rfl) :
    PE X (.Call (.Name x p) (e :: es) [] pos) (lift Z (dMakeX0 x U es' ra)) := up (pe_mkS o hr takes0 ha hg hdb he hpl) fun σ H Q ⟨δ, Hv, n, P, E, r, h1, q, xx⟩ => by
  obtain ⟨_, _, _, hmC, _⟩ := o
  refine ⟨δ, Hv, n, _, E, r, h1, (fun d v H' Hv' n' h2 ee pn k => ?_), xx⟩
  have eg := eta_g zk zm zn
  intro y dy hy hdy hne
  have hv0 : ∀ {b : Addr}, H' b = none → Hv' b = none := fun {b} hb => by
    cases z : Hv' b with
    | none => rfl
    | some o => rw [ee.sub _ _ z] at hb; cases hb
  have s1 : Same H' (upd (upd H' dy (.own y)) y (.ins C dy [])) := fun b o hb => by
    rw [upd_ne (ne_of_none hb hy), upd_ne (ne_of_none hb hdy)]; exact hb
  refine ⟨Z.g.pd, Z.g.pc, C, dy, y, v ++ dw, Hv', d ++ es', n', (fun fs n2 => P (.obj x fs) n2), (fun _ _ _ => False), rfl, upd_same, hmC, hv0 hy, ee.sub.trans s1, (r.step ee pn).npd, ?_⟩
  rw [eg]
  refine ⟨pn.mono s1 (Nat.le_refl _), k.append (hdw _), h2, fun fs fvs dx' H2 Hv2 n2 hp e2 p2 h3 hv3 kf => ⟨rfl, ?_⟩, fun c fs n2 cls dd H2 Hv2 hE e2 p2 z => hE.elim⟩
  have e3 := ext_mk ee pn hy hdy e2
  refine q (.obj x fs) (.ref y) H2 (upd Hv2 y (.ins C dx' fvs)) n2 hp ⟨e3.but, e3.see.trans (same_new hv3), fun b o e => ?_, fun c hc1 hc2 => ?_, fun z => (e3.nt z).upd (fun _ w => by cases w)⟩ p2 (.obj upd_same (zm ▸ hmC) (kf.mono (same_new hv3)))
  · by_cases eb : b = y
    · subst eb; rw [upd_same] at e; cases e; exact h3
    · rw [upd_ne eb] at e; exact e2.sub _ _ e
  · have ny : c ≠ y := fun z => by
      subst z
      exact hc2 (ext_fresh ee pn hy)
    rw [upd_ne ny]
    exact e3.hid c hc1 hc2
end
end Dn

/-! Values as trees: len of an object, more of lists, defs that call themselves. -/
namespace Dn
open PySem PySem.Spec PyProof.Rows L2 Br PySem.BrX
/-! ### len(x) by the class's __len__ -/
def OkL (P : Program) (w : World) (K : PySem.W.Frag) (mg : Str → Option Value) (base : Heap) (k : Nat) (C : Addr) (sp : Sp) : Prop :=
  ∃ (f : Addr) (fd : FuncData) (ps : List Str), PySem.W.findIn K (.ref C) "__len__" = some (some (.ref f)) ∧ PySem.W.isFn K (.ref f) = true ∧ Binds K fd ps [] ∧ FnOk P w K mg base CX0 k f fd ps sp
def rLenO (C : Addr) (sp : Sp) : List V → Hp → VK → Prop := fun xs H Q => ∃ (a dx : Addr) (fs : List (Str × V)), xs = [.ref a] ∧ H a = some (.ins C dx fs) ∧ sp [.ref a] H (fun v H' => ∃ i : Int, v = .int i ∧ (0 ≤ i ∧ i < 2 ^ 63) ∧ Q (.int i) H') E0
section
variable {X : Cx} {Z : Zx} {C : Addr} {sp : Sp} {k : Nat} {a : Expr} {da : DE} {pos : Pos} {kn : Kn}
theorem call_lenO (O : OkL X.prog X.w X.K X.mg X.base k C sp) (hr : Room (k + 1) X.A) : CallR X (.builtin "len") (rLenO C sp) := by
  obtain ⟨f, fd, ps, fi, isf, hb, F⟩ := O
  intro pins s σ H xs us Q I r h
  obtain ⟨a, dx, fs, rfl, ha, hs⟩ := h
  obtain ⟨u, rfl, e⟩ := vals1 r
  obtain rfl : u = Value.ref a := e
  obtain ⟨mA, J, _⟩ := ins_get I.hok ha
  obtain ⟨od, J, _⟩ := J.look
  obtain ⟨m, hF⟩ := I.fr
  refine PySem.W.len_K hF I.ok.mod.kin J fi isf ?_
  have hr' : Room k X.A.in1 := hr.in1
  have e0 : Env0 X.prog X.w X.K X.mg X.base X.A.in1 X.stack s H := by
    have e := I.env0
    exact ⟨e.frames, e.mod, e.bs, e.bsz, e.funs, e.frf, e.hok, e.bare⟩
  have hl := F.len _ _ _ _ hs
  refine wpAny_call (codeAny_mono (F.run X.A.in1 X.stack s H ⟨[.ref a], []⟩ [.ref a] [.ref a] _ E0 hr' e0 (by
    have := hb s [.ref a] I.kIn (by simpa using hl)
    simpa using this) (.cons rfl .nil) hs) fun r s' hr' => ?_)
  match r, hr' with
  | .error e, z => exact z.elim
  | .ok (.ret u), z =>
    obtain ⟨v, H', J', rv, i, rfl, hi, q⟩ := I.after z
    obtain ⟨t, rfl⟩ := rv
    exact ⟨hi, .int i, H', J'.tok _, ⟨_, rfl⟩, q⟩
  | .ok .next, z => exact z.elim
  | .ok .brk, z => exact z.elim
  | .ok .cont, z => exact z.elim
def dLenO (c : Str) (U : List D → M D) (a : DE) : DE := fun δ n P E => a δ n (fun x n1 => ∃ fs, x = .obj c fs ∧ U [x] n1 (fun d n2 => ∃ i, d = .int i ∧ (0 ≤ i ∧ i < 2 ^ 63) ∧ P (.int i) n2) (fun _ _ _ => False)) E
theorem d_lenO {c : Str} {U : List D → M D} {px : Pos} (O : OkL X.prog X.w X.K X.mg X.base k C (spU X.K X.mg kn U)) (hmC : X.mg c = some (.ref C)) (hr : Room (k + 1) X.A) (zk : Z.g.K = X.K) (zm : Z.g.mg = X.mg) (zn : Z.g.kn = kn) (hg : Gl X "len") (hm : X.mg "len" = none) (ha : PE X a (lift Z da))
    (h1 : starEach [a] X.env = (false, eval a X.env) :: starEach [] X.env := by rfl) (hpl : (backTo pos (starEach [] X.env)).any (·.1) = false := by rfl) :
    PE X (.Call (.Name "len" px) [a] [] pos) (lift Z (dLenO c U da)) :=
  up (pe_callB (call_lenO O hr) hg hm (by decide +kernel) (pa_cons ha pa_nil h1) (by decide) (by decide) h1 hpl) fun σ H Q ⟨δ, Hv, n, P, E, rr, h1, q, x⟩ => ⟨δ, Hv, n, _, E, rr, h1, (fun d v H' Hv' n' h2 e p k => by
    obtain ⟨fs, rfl, h3⟩ := h2
    cases k with
    | @obj a C' dx _ gs _ ha hC ks =>
      have eC : C' = C := by
        rw [zm, hmC] at hC
        cases hC
        rfl
      subst eC
      have eg := eta_g zk zm zn
      refine ⟨a, dx, gs, rfl, e.sub _ _ ha, Z.g.pd, Z.g.pc, Hv', [.obj c fs], n', (fun d n2 => ∃ i, d = .int i ∧ (0 ≤ i ∧ i < 2 ^ 63) ∧ P (.int i) n2), (fun _ _ _ => False), e.sub, (rr.step e p).npd, ?_⟩
      rw [eg]
      refine ⟨p, .cons (.obj ha hC ks) .nil, h3, fun d2 v2 H2 Hv2 n2 h4 e2 p2 k2 => ?_, fun _ _ _ _ _ _ _ z => z.elim⟩
      obtain ⟨i, rfl, hi, h5⟩ := h4
      cases k2
      exact ⟨i, rfl, hi, q _ _ _ _ _ h5 (e.trans (fun _ => p.pd) e2) p2 (.int _)⟩), x⟩
end
end Dn

/-! Values as trees: str of a number, a list turned about, an owning list lent out. -/
namespace Dn
open PySem PySem.Spec PyProof.Rows L2 Br PySem.BrX
section
variable {X : Cx} {Z : Zx} {g : G} {e : Expr} {de : DE} {pos p2 : Pos}
def gStr : List D → Option D
  | [.int i] => if i.natAbs.log2 < 1920 then some (.str (toString i)) else none
  | _ => none
theorem c_str : DCl X g (.type "str") gStr := by
  refine ⟨_, call_str_int, ?_⟩
  intro H Hv xs ds d Q s k hf q
  unfold gStr at hf
  split at hf
  · rename_i i
    split at hf
    · rename_i hz
      cases hf
      cases k with
      | cons k1 k2 =>
        cases k2
        cases k1
        exact ⟨i, rfl, hz, q.here s (.str _)⟩
    · cases hf
  · cases hf
def gRevL : List D → Option D
  | [.lst xs] => some (.lst xs.reverse)
  | _ => none
theorem d_revL {k : Nat} {p1 p3 : Pos} (zk : Z.g.K = X.K) (he : PE X e (lift Z de)) : PE X (.Subscript e (.Slice none none (some (.UnaryOp .USub (.Constant (.int 1) k p1) p2)) p3) pos) (lift Z (dApp gRevL (dCons de dNil))) :=
  up (pe_revL he) fun σ H Q ⟨δ, Hv, n, P, E, rr, h1, q, x⟩ => ⟨δ, Hv, n, _, E, rr, h1, (fun d v H' Hv' n' h2 e p k => by
    obtain ⟨z, hz, h3⟩ := h2
    unfold gRevL at hz
    split at hz
    · rename_i xs ee
      cases ee
      cases hz
      cases k with
      | @lst a vs _ ha ks => exact ⟨a, vs, rfl, sqL (e.sub _ _ ha), fun p' hp => (gives_of (q.step e p) p h3).lst e.sub hp ks.reverse⟩
    · cases hz), x⟩
/-! ### trees without lists -/
mutual
def D.noL : D → Bool
  | .non => true
  | .bl _ => true
  | .int _ => true
  | .str _ => true
  | .tup xs => D.noLs xs
  | .obj _ fs => D.noLf fs
  | _ => false
def D.noLs : List D → Bool
  | [] => true
  | x :: xs => D.noL x && D.noLs xs
def D.noLf : List (Str × D) → Bool
  | [] => true
  | (_, x) :: xs => D.noL x && D.noLf xs
end
mutual
theorem dv_noL {H H' : Hp} {p : Addr} {vs : List V} (hp : H p = some (.lst vs)) (s : ∀ b o, b ≠ p → H b = some o → H' b = some o) : ∀ {d : D} {v : V}, Dv g H v d → d.noL = true → Dv g H' v d
  | _, _, .non, _ => .non
  | _, _, .bl b, _ => .bl b
  | _, _, .int i, _ => .int i
  | _, _, .str x, _ => .str x
  | _, _, .lst _ _, h => by cases h
  | .tup ds, _, .tup (a := a) ha ks, h => by
    refine .tup ?_ (dvs_noL hp s ks h)
    rcases ha with (z | ⟨o, z⟩) | z
    · exact .inl (.inl (s _ _ (ne_of z hp (fun e => by cases e)) z))
    · exact .inl (.inr ⟨o, s _ _ (ne_of z hp (fun e => by cases e)) z⟩)
    · exact .inr z
  | .obj c fs, _, .obj ha hm ks, h => .obj (s _ _ (ne_of ha hp (fun e => by cases e)) ha) hm (dvf_noL hp s ks h)
  | _, _, .exc _ _ _ _, h => by cases h
  | _, _, .dct _ _, h => by cases h
  | _, _, .pen, h => by cases h
  | _, _, .scr _, h => by cases h
  | _, _, .fn _ _ _, h => by cases h
theorem dvs_noL {H H' : Hp} {p : Addr} {vs : List V} (hp : H p = some (.lst vs)) (s : ∀ b o, b ≠ p → H b = some o → H' b = some o) : ∀ {ds : List D} {ws : List V}, DvAll g H ws ds → D.noLs ds = true → DvAll g H' ws ds
  | _, _, .nil, _ => .nil
  | d :: ds, _, .cons k ks, h => by
    have h' : d.noL = true ∧ D.noLs ds = true := by simpa [D.noLs] using h
    exact .cons (dv_noL hp s k h'.1) (dvs_noL hp s ks h'.2)
theorem dvf_noL {H H' : Hp} {p : Addr} {vs : List V} (hp : H p = some (.lst vs)) (s : ∀ b o, b ≠ p → H b = some o → H' b = some o) : ∀ {gs : List (Str × D)} {fs : List (Str × V)}, DvF g H fs gs → D.noLf gs = true → DvF g H' fs gs
  | _, _, .nil, _ => .nil
  | (f, d) :: gs, _, .cons k ks, h => by
    have h' : d.noL = true ∧ D.noLf gs = true := by simpa [D.noLf] using h
    exact .cons (dv_noL hp s k h'.1) (dvf_noL hp s ks h'.2)
end
theorem noT_without {H : Hp} {p : Addr} (h : NoT H) : NoT (without H p) := fun b ps e => by
  by_cases hb : b = p
  · subst hb; rw [without_same] at e; cases e
  · rw [without_ne hb] at e; exact h b ps e
def frzL (δ : DS) (i : Nat) : DS := match δ[i]? with
  | some (some (.ow ds)) => δ.set i (some (.sh (.lst ds)))
  | _ => δ
/-- the list of slot i is lent to e, whose value has no lists in it -/
def dBorL (i : Nat) (e : DE) : DE := fun δ n P E => e (frzL δ i) n (fun d n' => d.noL = true ∧ P d n') (fun _ _ _ => False)
theorem d_borL (i : Nat) (h : PE X e (lift Z de)) : PE X e (lift Z (dBorL i de)) := up h fun σ H Q ⟨δ, Hv, n, P, E, r, h1, q, x⟩ => by
  by_cases hi : ∃ ds, δ[i]? = some (some (.ow ds))
  · obtain ⟨ds, hi⟩ := hi
    obtain ⟨p, vs, hp, hpH, s, r'⟩ := r.unown2 hi
    have ef : frzL δ i = δ.set i (some (.sh (.lst ds))) := by unfold frzL; rw [hi]
    refine ⟨_, _, n, (fun d n' => d.noL = true ∧ P d n'), (fun _ _ _ => False), r', by rw [← ef]; exact h1, (fun d v H2 Hv2 n2 h2 e p2 k => ?_), (fun _ _ _ _ _ _ _ z => z.elim)⟩
    have hp2 : Hv2 p = some (.lst vs) := e.see _ _ upd_same
    have nb : ∀ b o, b ≠ p → Hv2 b = some o → without Hv2 p b = some o := fun b o hb z => by rw [without_ne hb]; exact z
    refine q d v H2 (without Hv2 p) n2 h2.2 ⟨e.but, fun b o z => ?_, fun b o z => ?_, fun c c1 c2 => ?_, fun z => noT_without (e.nt (z.upd (fun _ w => by cases w)))⟩ p2 (dv_noL hp2 nb k h2.1)
    · have hb : b ≠ p := ne_of_none z hp
      exact nb b o hb (e.see _ _ (s _ _ z))
    · by_cases hb : b = p
      · subst hb; rw [without_same] at z; cases z
      · rw [without_ne hb] at z; exact e.sub _ _ z
    · by_cases hb : c = p
      · subst hb; exact without_same
      · rw [without_ne hb]
        exact e.hid c (by rw [upd_ne hb]; exact c1) c2
  · have ef : frzL δ i = δ := by
      unfold frzL
      split
      · rename_i ds z; exact absurd ⟨ds, z⟩ hi
      · rfl
    rw [dBorL, ef] at h1
    exact ⟨δ, Hv, n, _, _, r, h1, (fun d v H2 Hv2 n2 h2 e p k => q d v H2 Hv2 n2 h2.2 e p k), (fun _ _ _ _ _ _ _ z => z.elim)⟩
end
end Dn

/-! Values as trees: an object == a tuple; defs that call themselves. -/
namespace Dn
open PySem PySem.Spec PyProof.Rows L2 Br PySem.BrX
/-- x == y of an instance of the class at C and a tuple -/
def rEqT (K : PySem.W.Frag) (C : Addr) (sp : Sp) : R2 := fun x y H Q => ∃ (a b dx : Addr) (fs : List (Str × V)) (ys : List V), x = .ref a ∧ y = .ref b ∧ H a = some (.ins C dx fs) ∧ SqT K H b ys ∧ sp [.ref a, .ref b] H (fun v H' => ∃ k, v = .bl k ∧ Q (.bl k) H') E0
section
variable {X : Cx} {Z : Zx} {C : Addr} {sp : Sp} {k : Nat} {a b : Expr} {da db : DE} {pos : Pos} {kn : Kn}
theorem op_eqT (O : OkE X.prog X.w X.K X.mg X.base k C sp) (hn : PySem.W.notFirst X.K C (.type "tuple") = true) (hr : Room (k + 1) X.A) : OpR X (compareOp .Eq) (rEqT X.K C sp) := by
  obtain ⟨f, fd, ps, T, bd, F⟩ := O
  intro pins s σ H x y v u Q I rx ry h
  obtain ⟨a, b, dx, fs, ys, rfl, rfl, ha, hb', hs⟩ := h
  cases rx
  cases ry
  obtain ⟨mA, J, _⟩ := ins_get I.hok ha
  obtain ⟨od, J, _⟩ := J.look
  obtain ⟨its, _, ⟨o, ho, hc, _, _⟩, _⟩ := I.tuple hb'
  obtain ⟨m, hF⟩ := I.fr
  show wpAny (model X.prog X.w) X.A (richCompare .Eq (.ref a) (.ref b)) (EP X pins σ Q) X.xe s
  refine PySem.W.cmp_K (op := .Eq) (tb := .type "tuple") hr.units0 hF I.ok.mod.kin J (fun A Q E s k q => wpAny_typeOf_ref (k _ _ ho) (by rw [hc]; exact q)) hn T.find T.isf ?_
  refine eq_call F bd (hr.mono (Nat.le_succ _)) rfl I hs fun u s' ⟨z, H', J, rz, kk, ez, q⟩ => ?_
  subst ez
  obtain rfl : u = Value.bool kk := rz
  exact ⟨.bl kk, H', J, rfl, q⟩
def dEqT (c : Str) (U : List D → M D) (a b : DE) : DE := fun δ n P E => a δ n (fun x n1 => b δ n1 (fun y n2 => ∃ fs ys, x = .obj c fs ∧ y = .tup ys ∧ U [x, y] n2 (fun d n3 => ∃ k, d = .bl k ∧ P (.bl k) n3) (fun _ _ _ => False)) E) E
theorem lift_eqT {c : Str} {U : List D → M D} (hmC : X.mg c = some (.ref C)) (zk : Z.g.K = X.K) (zm : Z.g.mg = X.mg) (zn : Z.g.kn = kn) : ∀ σ H Q, lift Z (dEqT c U da db) σ H Q → tOp (rEqT X.K C (spU X.K X.mg kn U)) (lift Z da) (lift Z db) σ H Q := fun σ H Q ⟨δ, Hv, n, P, E, rr, h1, q, x⟩ =>
  ⟨δ, Hv, n, _, E, rr, h1, fun d v H1 Hv1 n1 h2 e1 p1 k1 => ⟨δ, Hv1, n1, _, E, rr.step e1 p1, h2, (fun d2 v2 H2 Hv2 n2 h3 e2 p2 k2 => by
    obtain ⟨fs, ys, rfl, rfl, h4⟩ := h3
    have k1' := k1.mono e2.see
    have eg := eta_g zk zm zn
    have e12 := e1.trans (fun _ => p1.pd) e2
    have kk : DvAll Z.g Hv2 [v, v2] [.obj c fs, .tup ys] := .cons k1' (.cons k2 .nil)
    cases k1' with
    | @obj a C1 dx _ f1 _ ha hm1 kf1 =>
      cases k2 with
      | @tup b us _ hb kf2 =>
        rw [zm, hmC] at hm1
        cases hm1
        refine ⟨a, b, dx, f1, us, rfl, rfl, e2.sub _ _ ha, zk ▸ same_seqT e2.sub hb, Z.g.pd, Z.g.pc, Hv2, [.obj c fs, .tup ys], n2, (fun d n3 => ∃ k, d = .bl k ∧ P (.bl k) n3), (fun _ _ _ => False), e2.sub, ((rr.step e1 p1).step e2 p2).npd, ?_⟩
        rw [eg]
        refine ⟨p2, kk, h4, fun d v H3 Hv3 n3 h5 e3 p3 k3 => ?_, fun _ _ _ _ _ _ _ z => z.elim⟩
        obtain ⟨kb, rfl, h5⟩ := h5
        exact ⟨kb, dv_bl k3, q _ _ _ _ _ h5 (e12.trans (fun _ => p2.pd) e3) p3 (.bl _)⟩), x.step e1 p1⟩, x⟩
theorem d_eqT {c : Str} {U : List D → M D} (o : OkE X.prog X.w X.K X.mg X.base k C (spU X.K X.mg kn U)) (hn : PySem.W.notFirst X.K C (.type "tuple") = true) (hmC : X.mg c = some (.ref C)) (hr : Room (k + 1) X.A) (zk : Z.g.K = X.K) (zm : Z.g.mg = X.mg) (zn : Z.g.kn = kn) (ha : PE X a (lift Z da)) (hb : PE X b (lift Z db)) (hm : behindInMarks .Eq b = false) :
    PE X (.Compare a [.Eq] [b] pos) (lift Z (dEqT c U da db)) := up (pe_cmpR (op_eqT o hn hr) ha hb hm) (lift_eqT hmC zk zm zn)
theorem dt_eqT {c : Str} {U : List D → M D} (o : OkE X.prog X.w X.K X.mg X.base k C (spU X.K X.mg kn U)) (hn : PySem.W.notFirst X.K C (.type "tuple") = true) (hmC : X.mg c = some (.ref C)) (hr : Room (k + 1) X.A) (zk : Z.g.K = X.K) (zm : Z.g.mg = X.mg) (zn : Z.g.kn = kn) (ha : PE X a (lift Z da)) (hb : PE X b (lift Z db)) (hm : behindInMarks .Eq b = false) :
    PT X (.Compare a [.Eq] [b] pos) (liftT Z (dEqT c U da db)) := upT (pt_cmpR (op_eqT o hn hr) ha hb hm) fun σ H Q h => lift_eqT hmC zk zm zn σ H _ h
/-- a body of which nothing is wanted -/
theorem ds_nevers {X : Cx} {b : List Stmt} : PSs X b (liftS Z dNever) := ⟨fun pins s σ H D I ⟨δ, Hv, n, F, r, h, k⟩ => by exact h.elim⟩
end
end Dn

/-! Values as trees: instances made by keywords. -/
namespace Dn
open PySem PySem.Spec PyProof.Rows L2 Br PySem.BrX
/-- the class makes instances by the keywords ks -/
def OkCk (P : Program) (w : World) (K : PySem.W.Frag) (mg : Str → Option Value) (base : Heap) (k : Nat) (x : Str) (C : Addr) (ks : List Str) (gV : List V → List V → List V) (sp : Sp) : Prop :=
  ∃ (f : Addr) (fd : FuncData) (ps : List Str) (g : List Value → List Value → List Value), mg x = some (.ref C) ∧ Mk K C f ∧ KBn K fd ps 1 ks g gV ∧ FnOk P w K mg base (L2.CX P w) k f fd ps sp
section
variable {X : Cx} {Z : Zx} {ra : DA} {pos p : Pos} {k : Nat} {x : Str} {kn : Kn} {ks : List Str} {kws : List Keyword} {C : Addr} {U : MI} {gV : List V → List V → List V} {gW : List V → List V} {gD : List D → List D}
def dMakeK (c : Str) (m : Nat) (U : MI) (gD : List D → List D) (a : DA) : DE := fun δ n P E => a δ n (fun ds n' => ds.length = m ∧ U (gD ds) n' (fun fs n2 => P (.obj c fs) n2) (fun _ _ _ => False)) E
theorem d_makeK (o : OkCk X.prog X.w X.K X.mg X.base k x C ks gV (spI X.K X.mg kn x U)) (hgV : ∀ y zs, zs.length = ks.length → gV [.ref y] zs = .ref y :: gW zs) (hr : Room (k + 1) X.A) (zk : Z.g.K = X.K) (zm : Z.g.mg = X.mg) (zn : Z.g.kn = kn) (hkw : PK X kws (liftA Z ra))
    (hG : ∀ {Hv : Hp} {vs : List V} {ds : List D}, DvAll Z.g Hv vs ds → DvAll Z.g Hv (gW vs) (gD ds)) (hg : Gl X x := by rfl) (hall : (backToKw pos (keywordEach kws X.env)).all (·.1.isSome) = true := by rfl) (hks : (backToKw pos (keywordEach kws X.env)).filterMap (·.1) = ks := by rfl)
    (hdb : (x == ("__debug__" : Str)) = false := by decide)
    (hpl : ((backTo pos (starEach [] X.env)).any (·.1) || (backToKw pos (keywordEach kws X.env)).any (·.1.isNone)) = false := by rfl) : PE X (.Call (.Name x p) [] kws pos) (lift Z (dMakeK x ks.length U gD ra)) := by
  obtain ⟨f, fd, ps, gg, hmC, M, b, F⟩ := o
  have hp : Passes (L2.CX X.prog X.w) X E0 := passes_call (W := fun _ _ _ _ => False) takes0 (fun _ _ _ _ z => z)
  refine up (pe_makeK0 M F hr hg hmC b hp hkw hall hks hdb hpl) fun σ H Q ⟨δ, Hv, n, P, E, r, h1, q, xx⟩ => ?_
  refine ⟨δ, Hv, n, _, E, r, h1, (fun d v H' Hv' n' h2 ee pn k => ?_), xx⟩
  obtain ⟨hlen, h2⟩ := h2
  have hlv : v.length = ks.length := k.len.trans hlen
  refine ⟨rfl, hlv, ?_⟩
  have eg := eta_g zk zm zn
  intro y dy hy hdy hne
  rw [hgV y v hlv]
  have hv0 : ∀ {b : Addr}, H' b = none → Hv' b = none := fun {b} hb => by
    cases z : Hv' b with
    | none => rfl
    | some o => rw [ee.sub _ _ z] at hb; cases hb
  have s1 : Same H' (upd (upd H' dy (.own y)) y (.ins C dy [])) := fun b o hb => by
    rw [upd_ne (ne_of_none hb hy), upd_ne (ne_of_none hb hdy)]; exact hb
  refine ⟨Z.g.pd, Z.g.pc, C, dy, y, gW v, Hv', gD d, n', (fun fs n2 => P (.obj x fs) n2), (fun _ _ _ => False), rfl, upd_same, hmC, hv0 hy, ee.sub.trans s1, (r.step ee pn).npd, ?_⟩
  rw [eg]
  refine ⟨pn.mono s1 (Nat.le_refl _), hG k, h2, fun fs fvs dx' H2 Hv2 n2 hp e2 p2 h3 hv3 kf => ⟨rfl, ?_⟩, fun c fs n2 cls dd H2 Hv2 hE e2 p2 z => hE.elim⟩
  have e3 := ext_mk ee pn hy hdy e2
  refine q (.obj x fs) (.ref y) H2 (upd Hv2 y (.ins C dx' fvs)) n2 hp ⟨e3.but, e3.see.trans (same_new hv3), fun b o e => ?_, fun c hc1 hc2 => ?_, fun z => (e3.nt z).upd (fun _ w => by cases w)⟩ p2 (.obj upd_same (zm ▸ hmC) (kf.mono (same_new hv3)))
  · by_cases eb : b = y
    · subst eb; rw [upd_same] at e; cases e; exact h3
    · rw [upd_ne eb] at e; exact e2.sub _ _ e
  · have ny : c ≠ y := fun z => by
      subst z
      exact hc2 (ext_fresh ee pn hy)
    rw [upd_ne ny]
    exact e3.hid c hc1 hc2
end
/-- the two keywords the other way about -/
def swp1 : List V → List V → List V
  | [x], [b, a] => [x, a, b]
  | _, _ => []
theorem swp1_eq (y : Addr) (zs : List V) (h : zs.length = 2) : swp1 [.ref y] zs = .ref y :: swp [] zs := by
  match zs, h with
  | [b, a], _ => rfl
/-- a default that is the empty tuple of the module -/
theorem dfl_dv {K : PySem.W.Frag} {g : G} {Hv : Hp} {T : Addr} (zk : g.K = K) (z : SqT K (fun _ => none) T []) : DvAll g Hv [.ref T] [.tup []] := by
  refine .cons (.tup ?_ .nil) .nil
  rcases z with (z | ⟨o, z⟩) | z
  · cases z
  · cases z
  · exact .inr (zk ▸ z)
end Dn

/-! Values as trees: defs that call repr, called where nothing is being shown. -/
namespace Dn
open PySem PySem.Spec PyProof.Rows L2 Br PySem.BrX
section
variable {X : Cx} {Z : Zx} {k : Nat} {x : Str} {kn : Kn} {ps : List Str} {sp : Sp} {p pos : Pos} {e : Expr} {es : List Expr} {t : TA} {ra : DA} {U : List D → M D}
theorem pe_callG (O : OkG X.prog X.w X.K X.mg X.base CX0 k x ps sp) (gd : X.A.guards = some []) (hr : Room k X.A) (ha : PA X (e :: es) t) (hg : Gl X x := by rfl)
    (hdb : (x == ("__debug__" : Str)) = false := by decide) (he : starEach (e :: es) X.env = (false, eval e X.env) :: starEach es X.env := by rfl) (hpl : (backTo pos (starEach es X.env)).any (·.1) = false := by rfl) :
    PE X (.Call (.Name x p) (e :: es) [] pos) (tCl sp t) := by
  obtain ⟨f, fd, gm, kp, b, F⟩ := O
  refine ⟨fun pins s σ H Q I q0 => wpAny_Call_Name_kw (ld_glob I hg gm ?_ hdb)⟩
  refine PySem.W.callWith_K (h₀ := X.base) I.ok.mod.kin kp (thn (ha.run pos pins s σ H _ I q0) fun us s1 ⟨vs, H1, J, r, q⟩ => ⟨J.kIn, ?_⟩) he hpl
  have ln : (us ++ []).length = ps.length := by rw [List.append_nil, ← r.length]; exact F.len _ _ _ _ q
  have bd := b s1 us J.kIn ln
  rw [List.append_nil] at bd
  refine wpAny_call (codeAny_mono (F.run X.A X.stack s1 H1 ⟨us, []⟩ us vs Q E0 gd hr J.env0 bd r q) fun out s' w => ?_)
  match out, w with
  | .error _, z => exact z.elim
  | .ok (.ret _), z => exact J.after z
  | .ok .next, z => exact z.elim
  | .ok .brk, z => exact z.elim
  | .ok .cont, z => exact z.elim
theorem d_callG (o : OkG X.prog X.w X.K X.mg X.base CX0 k x ps (spU X.K X.mg kn U)) (gd : X.A.guards = some []) (hr : Room k X.A) (zk : Z.g.K = X.K) (zm : Z.g.mg = X.mg) (zn : Z.g.kn = kn) (ha : PA X (e :: es) (liftA Z ra)) (hg : Gl X x := by rfl)
    (hdb : (x == ("__debug__" : Str)) = false := by decide) (he : starEach (e :: es) X.env = (false, eval e X.env) :: starEach es X.env := by rfl) (hpl : (backTo pos (starEach es X.env)).any (·.1) = false := by rfl) :
    PE X (.Call (.Name x p) (e :: es) [] pos) (lift Z (dCall0 U ra)) := up (pe_callG o gd hr ha hg hdb he hpl) fun σ H Q ⟨δ, Hv, n, P, E, r, h1, q, xx⟩ => by
  refine ⟨δ, Hv, n, _, E, r, h1, (fun d v H' Hv' n' h2 ee p k => ?_), xx⟩
  have eg := eta_g zk zm zn
  refine ⟨Z.g.pd, Z.g.pc, Hv', d, n', P, (fun _ _ _ => False), ee.sub, (r.step ee p).npd, ?_⟩
  rw [eg]
  exact ⟨p, k, h2, q.step ee p, fun _ _ _ _ _ _ _ z => z.elim⟩
end
section
variable {P : Program} {w : World} {K : PySem.W.Frag} {mg : Str → Option Value} {base : Heap} {kn : Kn} {x qual : Str} {st : Stmt} {f : Addr} {fd : FuncData} {N ps : List Str} {k m : Nat} {t : DT}
theorem fn_DG (F : Fun K x qual st f fd) (S : FnScope N ps (defScope st)) (hm : ps.length = m)
    (hb : ∀ (cdv : Value) (A : Around) (outer : List Env) (s : Shared) (H : Hp) (E : XK) (Z : Zx), A.guards = some [] → Room k (A.deeper (envOfC qual (defScope st) s.heap.objs.size f cdv)) → Z.g.K = K → Z.g.mg = mg → Z.g.kn = kn → PSs (cxOf CX0 P w K mg base N qual (defScope st) f cdv A outer s H E).nox (defBody st) (liftS Z t)) :
    FnG P w K mg base CX0 (k + 1) f fd ps (spU K mg kn (dDef m N.length t)) := by
  refine okG F S (fun vs H Q E h => by rw [spU_len h, hm]) (fun cdv A outer s H vs Q E gd hr h => ?_)
  obtain ⟨pd, pc, Hv, ds, n, Pz, Ex, sm, np, p, kk, hU, q, xx⟩ := h
  exact ⟨_, hb cdv A outer s H E ⟨⟨K, mg, pd, pc, kn⟩, H, Hv, fun c d _ H' => E c d H'⟩ gd hr rfl rfl rfl, body_of rfl rfl (fun _ _ _ _ z => z) sm np p kk hU q xx⟩
theorem DefT.okG {sp : Sp} (T : DefT K mg x st f fd) (hb : Binds K fd ps []) (F : FnG P w K mg base CX0 k f fd ps sp) : OkG P w K mg base CX0 k x ps sp := ⟨f, fd, T.g, T.F.kp, hb, F⟩
end
end Dn

/-! Values as trees: how a class's __init__ with a default takes keywords, and its default. -/
namespace Dn
open PySem PySem.Spec PyProof.Rows L2 Br PySem.BrX
def swp1v : List Value → List Value → List Value
  | [x], [b, a] => [x, a, b]
  | _, _ => []
theorem swp1_rel {vs zs : List V} {us ws : List Value} (r : Vals vs us) (rz : Vals zs ws) : Vals (swp1 vs zs) (swp1v us ws) := by
  cases r with
  | nil => exact .nil
  | cons r1 r2 =>
    cases r2 with
    | cons _ _ => cases rz <;> exact .nil
    | nil =>
      cases rz with
      | nil => exact .nil
      | cons z1 z2 =>
        cases z2 with
        | nil => exact .nil
        | cons z2 z3 =>
          cases z3 with
          | nil => exact .cons r1 (.cons z2 (.cons z1 .nil))
          | cons _ _ => exact .nil
section
variable {K : PySem.W.Frag} {x qual : Str} {st : Stmt} {f : Addr} {fd : FuncData} {nd : Nat}
/-- the two keywords the other way about, a default looked at ahead -/
theorem FunC.kbn {p0 p1 p2 : Str} (F : FunC K x qual st nd f fd) (hnd : nd ≠ 0)
    (h : ∀ (T : Addr) (kV doc pm : Value) (an : Option Addr) (cdv ct : Value) (y a b : Value) (its : List Value), its.length = nd →
      ∃ k, bindArgs (PySem.W.fnOf x qual (defArgs st) (defBody st) (defScope st) (.ref T) kV doc pm an cdv ct) ⟨[y], [(p2, b), (p1, a)]⟩ = seqItems? (.ref T) >>= k ∧ k (some its.toArray) = pure [(p0, y), (p1, a), (p2, b)]) : KBn K fd [p0, p1, p2] 1 [p2, p1] swp1v swp1 := by
  obtain ⟨oc, od, dV, kV, doc, pm, an, cdv, ct, osl, rfl, lk, hcd, hD⟩ := F.ex
  rcases hD with ⟨e, rfl⟩ | ⟨T, o, its, n, rfl, lT, oT, hl⟩
  · exact absurd e hnd
  · refine ⟨fun s us ws X h1 h2 => ?_, fun r rz => swp1_rel r rz⟩
    match us, ws, h1, h2 with
    | [y], [b, a], _, _ =>
      obtain ⟨k, e1, e2⟩ := h T kV doc pm an cdv ct y a b its.toList (by rw [Array.length_toList]; exact hl)
      refine BindsTo.of_looks fun M => ?_
      show PySem.W.Looks M s.heap (bindArgs _ ⟨[y], [(p2, b), (p1, a)]⟩) [(p0, y), (p1, a), (p2, b)]
      rw [e1]
      exact looks_items X lT oT (.of_pure (by simpa using e2))
/-- the one default of a def is the value d -/
def DflIs (K : PySem.W.Frag) (x qual : Str) (st : Stmt) (fd : FuncData) (d : Value) : Prop := ∃ (T : Addr) (kV doc pm : Value) (an : Option Addr) (cdv ct : Value) (o : Obj) (n : Nat),
  fd = PySem.W.fnOf x qual (defArgs st) (defBody st) (defScope st) (.ref T) kV doc pm an cdv ct ∧ K.lookup T = some o ∧ o.data = .seq #[d] n
theorem DflIs.binds {ps : List Str} {d : Value} (F : DflIs K x qual st fd d)
    (h : ∀ (T : Addr) (kV doc pm : Value) (an : Option Addr) (cdv ct : Value) (us : List Value), us.length + 1 = ps.length →
      ∃ k, bindArgs (PySem.W.fnOf x qual (defArgs st) (defBody st) (defScope st) (.ref T) kV doc pm an cdv ct) ⟨us, []⟩ = seqItems? (.ref T) >>= k ∧ k (some #[d]) = pure (ps.zip (us ++ [d]))) : Binds K fd ps [d] := by
  obtain ⟨T, kV, doc, pm, an, cdv, ct, o, n, rfl, lT, oT⟩ := F
  intro s us X hlen
  obtain ⟨k, e1, e2⟩ := h T kV doc pm an cdv ct us (by simpa using hlen)
  refine BindsTo.of_looks fun M => ?_
  rw [e1]
  exact looks_items X lT oT (.of_pure e2)
/-- an empty tuple of the module -/
theorem sqT0 {T : Addr} {o : Obj} {n : Nat} (l : K.lookup T = some o) (c : o.cls = .type "tuple") (d : o.data = .seq #[] n) : SqT K (fun _ => none) T [] := .inr ⟨o, #[], n, l, c, d, by simp, .nil⟩
end
end Dn

/-! Values as trees: a list beside the empty list. -/
namespace Dn
open PySem PySem.Spec PyProof.Rows L2 Br
section
variable {X : Cx} {g : G}
def rEq0 (K : PySem.W.Frag) : R2 := fun x y H Q => ∃ a b xs, x = .ref a ∧ y = .ref b ∧ SqL K H a xs ∧ SqL K H b [] ∧ Q (.bl xs.isEmpty) H
theorem op_eq0 (hu : X.A.units < cLine) : OpR X (compareOp .Eq) (rEq0 X.K) := by
  intro pins s σ H x y v u Q I rx ry h
  obtain ⟨a, b, xs, rfl, rfl, ha, hb, q⟩ := h
  cases rx
  cases ry
  obtain ⟨us, r1, p1, _⟩ := I.list ha
  obtain ⟨ws, r2, p2, _⟩ := I.list hb
  cases r2
  cases r1 with
  | nil =>
    refine SeqAt.eq_listAt (e := fun _ => true) p1.isList p2.isList rfl hu (fun j h1 h2 => by simp at h1) ⟨.bl true, H, I, rfl, q⟩
  | cons r1 r2 =>
    refine SeqAt.eq_list_lengthsAt p1.isList p2.isList (by simp) hu ⟨.bl false, H, I, rfl, q⟩
def gEq0 : List D → Option D
  | [.lst xs, .lst []] => some (.bl xs.isEmpty)
  | _ => none
theorem o_eq0 (zk : g.K = X.K) (hu : X.A.units + 64 < cLine) : DOp X g (compareOp .Eq) gEq0 := by
  refine ⟨_, op_eq0 (by omega), ?_⟩
  intro H Hv x y dx dy d Q s kx ky hf q
  unfold gEq0 at hf
  split at hf
  · rename_i xs ee
    cases ee
    cases hf
    cases kx with
    | lst ha ks =>
      cases ky with
      | lst hb ks2 =>
        cases ks2
        refine ⟨_, _, _, rfl, rfl, sqL (s _ _ ha), sqL (s _ _ hb), ?_⟩
        have e : ∀ {vs : List V} {ds : List D}, DvAll g Hv vs ds → vs.isEmpty = ds.isEmpty := fun k => by cases k <;> rfl
        rw [e ks]
        exact q.here s (.bl _)
  · cases hf
/-- an own class; tuples are not of it -/
def isOwnT (x : Str) : D → Option Bool
  | .obj c _ => if c = x then some true else none
  | .tup _ => some false
  | _ => none
theorem f_ownT {x : Str} {C : Addr} (T : ClT X.K X.mg x C) (kt : PySem.W.kitOne X.K (.type "tuple") (.ref C) = some false) (zk : g.K = X.K) (zm : g.mg = X.mg) : IsF X g (.ref C) (isOwnT x) := by
  intro H Hv v d b s k e
  cases k with
  | @obj a C' dx c fs gs ha hm ks => exact f_own T zm s (.obj ha hm ks) e
  | tup ha ks =>
    cases e
    exact ⟨_, tyx_tup (zk ▸ same_seqT s ha), kt⟩
  | _ => cases e
end
theorem x_isownT1 (x c : Str) (fs : List (Str × D)) : isOwnT x (.obj c fs) = if c = x then some true else none := rfl
theorem x_isownT2 (x : Str) (xs : List D) : isOwnT x (.tup xs) = some false := rfl
theorem x_eq0 (xs : List D) : gEq0 [.lst xs, .lst []] = some (.bl xs.isEmpty) := rfl
end Dn

/-! Values as trees: dicts. -/
namespace Dn
open PySem PySem.Spec PyProof.Rows L2 Br
/-! ### finding and putting -/
def valD (ks : List (Key × D)) (k : Key) : Option D := (ks.find? fun kv => decide (kv.1 = k)).map (·.2)
def putKD (ks : List (Key × D)) (k : Key) (v : D) : List (Key × D) :=
  if ks.any fun kv => decide (kv.1 = k) then ks.map fun kv => if kv.1 = k then (kv.1, v) else kv else ks ++ [(k, v)]
def mergeD (ks more : List (Key × D)) : List (Key × D) := more.foldl (fun acc kv => putKD acc kv.1 kv.2) ks
section
variable {g : G} {H : Hp}
theorem DvK.val {kvs : List (Key × V)} {ks : List (Key × D)} (h : DvK g H kvs ks) (k : Key) : (∀ d, valD ks k = some d → ∃ v, valV kvs k = some v ∧ Dv g H v d) ∧ (valD ks k = none → valV kvs k = none) := by
  induction ks generalizing kvs with
  | nil => cases h; exact ⟨(fun d e => by cases e), fun _ => rfl⟩
  | cons p r ih =>
    cases h with
    | @cons f v d fs _ a b =>
      by_cases e : f = k
      · have e1 : valD ((f, d) :: r) k = some d := by simp [valD, List.find?_cons, e]
        rw [e1]
        refine ⟨fun d' z => ?_, fun z => by cases z⟩
        cases z
        exact ⟨v, valV_pos e, a⟩
      · have e1 : valD ((f, d) :: r) k = valD r k := by simp [valD, List.find?_cons, e]
        rw [e1, valV_neg (p := (f, v)) e]
        exact ih b
theorem DvK.any {kvs : List (Key × V)} {ks : List (Key × D)} (h : DvK g H kvs ks) (k : Key) : (kvs.any fun kv => decide (kv.1 = k)) = ks.any fun kv => decide (kv.1 = k) := by
  induction ks generalizing kvs with
  | nil => cases h; rfl
  | cons p r ih =>
    cases h with
    | cons a b => rw [List.any_cons, List.any_cons, ih b]
theorem DvK.map {kvs : List (Key × V)} {ks : List (Key × D)} (h : DvK g H kvs ks) (k : Key) {v : V} {d : D} (a : Dv g H v d) : DvK g H (kvs.map fun kv => if kv.1 = k then (kv.1, v) else kv) (ks.map fun kv => if kv.1 = k then (kv.1, d) else kv) := by
  induction ks generalizing kvs with
  | nil => cases h; exact .nil
  | cons p r ih =>
    cases h with
    | @cons f v' d' fs _ a' b =>
      rw [List.map_cons, List.map_cons]
      by_cases e : f = k
      · rw [if_pos e, if_pos e]; exact .cons a (ih b)
      · rw [if_neg e, if_neg e]; exact .cons a' (ih b)
theorem DvK.append {kvs ls : List (Key × V)} {ks ms : List (Key × D)} (h : DvK g H kvs ks) (h2 : DvK g H ls ms) : DvK g H (kvs ++ ls) (ks ++ ms) := by
  induction ks generalizing kvs with
  | nil => cases h; exact h2
  | cons p r ih => cases h with | cons a b => exact .cons a (ih b)
theorem DvK.put {kvs : List (Key × V)} {ks : List (Key × D)} (h : DvK g H kvs ks) (k : Key) {v : V} {d : D} (a : Dv g H v d) : DvK g H (putK kvs k v) (putKD ks k d) := by
  unfold putK putKD
  rw [h.any k]
  split
  · exact h.map k a
  · exact h.append (.cons a .nil)
theorem DvK.len {kvs : List (Key × V)} {ks : List (Key × D)} (h : DvK g H kvs ks) : kvs.length = ks.length := by
  induction ks generalizing kvs with
  | nil => cases h; rfl
  | cons p r ih => cases h with | cons a b => rw [List.length_cons, List.length_cons, ih b]
theorem DvK.keys {kvs : List (Key × V)} {ks : List (Key × D)} (h : DvK g H kvs ks) : kvs.map (·.1) = ks.map (·.1) := by
  induction ks generalizing kvs with
  | nil => cases h; rfl
  | cons p r ih => cases h with | cons a b => rw [List.map_cons, List.map_cons, ih b]
theorem DvK.merge {more : List (Key × V)} {ms : List (Key × D)} (h2 : DvK g H more ms) : ∀ {kvs : List (Key × V)} {ks : List (Key × D)}, DvK g H kvs ks → DvK g H (mergeK kvs more) (mergeD ks ms) := by
  induction ms generalizing more with
  | nil => intro kvs ks h; cases h2; exact h
  | cons p r ih =>
    intro kvs ks h
    cases h2 with
    | cons a b => exact ih b (h.put _ a)
end
/-- a key as data -/
def dKey : D → Option Key
  | .int i => some (.inl i)
  | .str x => some (.inr x)
  | _ => none
theorem key_dv {g : G} {H : Hp} {v : V} {d : D} {k : Key} (h : Dv g H v d) (e : dKey d = some k) : v = kV k := by
  cases h <;> cases e <;> rfl
/-! ### d[k], k in d -/
def gDGet : List D → Option D
  | [.dct ks, k] => match dKey k with
    | some q => valD ks q
    | none => none
  | _ => none
def gDIn : List D → Option D
  | [k, .dct ks] => (dKey k).map fun q => .bl (valD ks q).isSome
  | _ => none
def gDNotIn : List D → Option D
  | [k, .dct ks] => (dKey k).map fun q => .bl !(valD ks q).isSome
  | _ => none
def gDGet1 : List D → Option D
  | [.dct ks, k] => (dKey k).map fun q => (valD ks q).getD .non
  | _ => none
section
variable {X : Cx} {Z : Zx} {o i e : Expr} {pos : Pos} {dd dk de : DE} {ra : DA}
theorem dct_get {g : G} {H Hv : Hp} {v w : V} {ks : List (Key × D)} {d : D} {k : Key} (s : Same Hv H) (h : Dv g Hv v (.dct ks)) (hk : Dv g Hv w d) (e : dKey d = some k) : ∃ a kvs, v = .ref a ∧ w = kV k ∧ Rd H a (.dK kvs) ∧ DvK g Hv kvs ks ∧ DGet H a w (valV kvs k) := by
  have e2 := key_dv hk e
  subst e2
  cases h with
  | dct ha kk =>
    have rd := (.inr ⟨_, s _ _ ha⟩ : Rd H _ (.dK _))
    exact ⟨_, _, rfl, rfl, rd, kk, .inl ⟨_, _, rd, rfl, rfl⟩⟩
theorem d_dget (hu : X.A.units + 64 < cLine) (ho : PE X o (lift Z dd)) (hi : PE X i (lift Z dk)) (hs : NoSl i := by intro _ _; rfl) : PE X (.Subscript o i pos) (lift Z (dApp gDGet (dCons dd (dCons dk dNil)))) :=
  up (pe_dget (by omega) ho hi hs) fun σ H Q ⟨δ, Hv, n, P, E, r, h1, q, x⟩ => ⟨δ, Hv, n, _, E, r, h1, (fun d v H1 Hv1 n1 h2 e1 p1 k1 => ⟨δ, Hv1, n1, _, E, r.step e1 p1, h2, (fun d2 v2 H2 Hv2 n2 h3 e2 p2 k2 => by
    obtain ⟨z, hz, h3⟩ := h3
    unfold gDGet at hz
    split at hz
    · rename_i ks kd ee
      cases ee
      split at hz
      · rename_i k ek
        obtain ⟨a, kvs, rfl, rfl, ha, kk, gg⟩ := dct_get e2.sub (k1.mono e2.see) k2 ek
        obtain ⟨v, hv, kv⟩ := (kk.val k).1 _ hz
        rw [hv] at gg
        exact ⟨a, v, rfl, gg, q _ _ _ _ _ h3 (e1.trans (fun _ => p1.pd) e2) p2 kv⟩
      · cases hz
    · cases hz), x.step e1 p1⟩), x⟩
theorem isSome_val {g : G} {H : Hp} {kvs : List (Key × V)} {ks : List (Key × D)} (h : DvK g H kvs ks) (k : Key) : (valV kvs k).isSome = (valD ks k).isSome := by
  cases e : valD ks k with
  | none => rw [(h.val k).2 e]; rfl
  | some d => obtain ⟨v, hv, _⟩ := (h.val k).1 d e; rw [hv]; rfl
theorem lift_din (hn : Bool) : ∀ σ H Q, lift Z (dApp (if hn then gDNotIn else gDIn) (dCons dk (dCons dd dNil))) σ H Q → (if hn then tDNotIn (lift Z dk) (lift Z dd) else tDIn (lift Z dk) (lift Z dd)) σ H Q := fun σ H Q ⟨δ, Hv, n, P, E, r, h1, q, x⟩ => by
  have go : ∀ (d : D) (v : V) (H1 Hv1 : Hp) (n1 : Nat), Ext Z.g H Hv H1 Hv1 → Pn Z.g H1 n1 → Dv Z.g Hv1 v d → ∀ (d2 : D) (v2 : V) (H2 Hv2 : Hp) (n2 : Nat), (∃ z, (if hn then gDNotIn else gDIn) [d, d2] = some z ∧ P z n2) → Ext Z.g H1 Hv1 H2 Hv2 → Pn Z.g H2 n2 → Dv Z.g Hv2 v2 d2 → ∃ a o, v2 = .ref a ∧ DGet H2 a v o ∧ Q (.bl (if hn then !o.isSome else o.isSome)) H2 := fun d v H1 Hv1 n1 e1 p1 k1 d2 v2 H2 Hv2 n2 h3 e2 p2 k2 => by
    obtain ⟨z, hz, h3⟩ := h3
    obtain ⟨ks, kq, rfl, ek, ez⟩ : ∃ ks kq, d2 = .dct ks ∧ dKey d = some kq ∧ z = .bl (if hn then !(valD ks kq).isSome else (valD ks kq).isSome) := by
      cases hn with
      | true =>
        change gDNotIn [d, d2] = some z at hz
        unfold gDNotIn at hz
        split at hz
        · rename_i k ks ee
          cases ee
          cases ek : dKey d with
          | none => rw [ek] at hz; cases hz
          | some kq => rw [ek] at hz; exact ⟨ks, kq, rfl, rfl, (Option.some.inj hz).symm⟩
        · cases hz
      | false =>
        change gDIn [d, d2] = some z at hz
        unfold gDIn at hz
        split at hz
        · rename_i k ks ee
          cases ee
          cases ek : dKey d with
          | none => rw [ek] at hz; cases hz
          | some kq => rw [ek] at hz; exact ⟨ks, kq, rfl, rfl, (Option.some.inj hz).symm⟩
        · cases hz
    subst ez
    obtain ⟨a, kvs, rfl, rfl, ha, kk, gg⟩ := dct_get e2.sub k2 (k1.mono e2.see) ek
    refine ⟨a, _, rfl, gg, ?_⟩
    rw [isSome_val kk]
    exact q _ _ _ _ _ h3 (e1.trans (fun _ => p1.pd) e2) p2 (.bl _)
  cases hn with
  | true => exact ⟨δ, Hv, n, _, E, r, h1, (fun d v H1 Hv1 n1 h2 e1 p1 k1 => ⟨δ, Hv1, n1, _, E, r.step e1 p1, h2, (fun d2 v2 H2 Hv2 n2 h3 e2 p2 k2 => go d v H1 Hv1 n1 e1 p1 k1 d2 v2 H2 Hv2 n2 h3 e2 p2 k2), x.step e1 p1⟩), x⟩
  | false => exact ⟨δ, Hv, n, _, E, r, h1, (fun d v H1 Hv1 n1 h2 e1 p1 k1 => ⟨δ, Hv1, n1, _, E, r.step e1 p1, h2, (fun d2 v2 H2 Hv2 n2 h3 e2 p2 k2 => go d v H1 Hv1 n1 e1 p1 k1 d2 v2 H2 Hv2 n2 h3 e2 p2 k2), x.step e1 p1⟩), x⟩
theorem d_din (hu : X.A.units + 64 < cLine) (hi : PE X i (lift Z dk)) (ho : PE X o (lift Z dd)) (hm : behindInMarks .In o = false := by rfl) : PE X (.Compare i [.In] [o] pos) (lift Z (dApp gDIn (dCons dk (dCons dd dNil)))) := up (pe_cmp (pc_din (by omega) hi ho) hm) (lift_din false)
theorem d_dnotin (hu : X.A.units + 64 < cLine) (hi : PE X i (lift Z dk)) (ho : PE X o (lift Z dd)) (hm : behindInMarks .NotIn o = false := by rfl) : PE X (.Compare i [.NotIn] [o] pos) (lift Z (dApp gDNotIn (dCons dk (dCons dd dNil)))) := up (pe_cmp (pc_dnotin (by omega) hi ho) hm) (lift_din true)
theorem dt_din (hu : X.A.units + 64 < cLine) (hi : PE X i (lift Z dk)) (ho : PE X o (lift Z dd)) (hm : behindInMarks .In o = false := by rfl) : PT X (.Compare i [.In] [o] pos) (liftT Z (dApp gDIn (dCons dk (dCons dd dNil)))) := upT (pt_cmp (pc_din (by omega) hi ho) hm) fun σ H Q h => lift_din false σ H _ h
theorem dt_dnotin (hu : X.A.units + 64 < cLine) (hi : PE X i (lift Z dk)) (ho : PE X o (lift Z dd)) (hm : behindInMarks .NotIn o = false := by rfl) : PT X (.Compare i [.NotIn] [o] pos) (liftT Z (dApp gDNotIn (dCons dk (dCons dd dNil)))) := upT (pt_cmp (pc_dnotin (by omega) hi ho) hm) fun σ H Q h => lift_din true σ H _ h
/-- d.get(k) -/
def dGet1 (dd dk : DE) : DE := fun δ n P E => dd δ n (fun x n1 => ∃ ks, x = .dct ks ∧ dk δ n1 (fun y n2 => ∃ q, dKey y = some q ∧ P ((valD ks q).getD .non) n2) E) E
theorem d_dget1 {apos cpos : Pos} (hu : X.A.units + 64 < cLine) (ho : PE X o (lift Z dd)) (he : PE X e (lift Z dk)) (m : M1 X o "get" apos e cpos := by exact ⟨rfl, rfl, rfl, rfl⟩) : PE X (.Call (.Attribute o "get" apos) [e] [] cpos) (lift Z (dGet1 dd dk)) :=
  up (pe_dget1 (by omega) ho he m) fun σ H Q ⟨δ, Hv, n, P, E, r, h1, q, x⟩ => ⟨δ, Hv, n, _, E, r, h1, (fun d v H1 Hv1 n1 h2 e1 p1 k1 => by
    obtain ⟨ks, rfl, h2⟩ := h2
    cases k1 with
    | @dct a oo kvs _ ha kk =>
      refine ⟨a, rfl, .inl ⟨_, .inr ⟨_, e1.sub _ _ ha⟩⟩, δ, Hv1, n1, _, E, r.step e1 p1, h2, (fun d2 v2 H2 Hv2 n2 h3 e2 p2 k2 => ?_), x.step e1 p1⟩
      obtain ⟨kq, ek, h3⟩ := h3
      obtain ⟨a', kvs', e3, rfl, ha', kk', gg⟩ := dct_get e2.sub (Dv.mono e2.see (Dv.dct ha kk)) k2 ek
      cases e3
      refine ⟨_, gg, ?_⟩
      have : Dv Z.g Hv2 ((valV kvs' kq).getD .non) ((valD ks kq).getD .non) := by
        cases ev : valD ks kq with
        | none => rw [(kk'.val kq).2 ev]; exact .non
        | some d3 => obtain ⟨v3, hv3, k3⟩ := (kk'.val kq).1 d3 ev; rw [hv3]; exact k3
      exact q _ _ _ _ _ h3 (e1.trans (fun _ => p1.pd) e2) p2 this), x⟩
/-! ### {k: v, ..} -/
def pairUp : List D → Option (List (Key × D))
  | [] => some []
  | k :: v :: r => match dKey k, pairUp r with
    | some q, some ps => some ((q, v) :: ps)
    | _, _ => none
  | _ => none
def flat2 : List (V × V) → List V
  | [] => []
  | p :: r => p.1 :: p.2 :: flat2 r
structure PPD (X : Cx) (Z : Zx) (pos : Pos) (keys : List (Option Expr)) (values : List Expr) (ra : DA) : Prop where
  go : ∃ trs, PPs X pos keys values trs ∧ ∀ σ H (Q : List (V × V) → Hp → Prop), liftA Z ra σ H (fun vs H' => ∃ ps, vs = flat2 ps ∧ Q ps H') → tPairs trs σ H Q
theorem pd_nil : PPD X Z pos [] [] dNil := ⟨[], pps_nil, fun σ H Q ⟨δ, Hv, n, P, E, r, h1, q, x⟩ => by
  obtain ⟨ps, e, h⟩ := q [] [] H Hv n h1 (.refl r.sub) r.pen .nil
  cases ps with
  | nil => exact h
  | cons p r => cases e⟩
theorem pd_cons {k v : Expr} {ks : List (Option Expr)} {vs : List Expr} (hk : PE X k (lift Z dk)) (hv : PE X v (lift Z de)) (hr : PPD X Z pos ks vs ra) : PPD X Z pos (some k :: ks) (v :: vs) (dCons dk (dCons de ra)) := by
  obtain ⟨trs, h1, h2⟩ := hr
  refine ⟨_, pps_cons hk hv h1, fun σ H Q ⟨δ, Hv, n, P, E, r, h3, q, x⟩ => ?_⟩
  refine ⟨δ, Hv, n, _, E, r, h3, (fun d u H1 Hv1 n1 h4 e1 p1 k1 => ?_), x⟩
  refine ⟨δ, Hv1, n1, _, E, r.step e1 p1, h4, (fun d2 u2 H2 Hv2 n2 h5 e2 p2 k2 => ?_), x.step e1 p1⟩
  have e12 := e1.trans (fun _ => p1.pd) e2
  refine h2 σ H2 _ ⟨δ, Hv2, n2, _, E, r.step e12 p2, h5, (fun ds us H3 Hv3 n3 h6 e3 p3 k3 => ?_), x.step e12 p2⟩
  obtain ⟨ps, e4, h7⟩ := q (d :: d2 :: ds) (u :: u2 :: us) H3 Hv3 n3 h6 (e12.trans (fun _ => p2.pd) e3) p3 (.cons ((k1.mono e2.see).mono e3.see) (.cons (k2.mono e3.see) k3))
  cases ps with
  | nil => cases e4
  | cons p ps =>
    obtain ⟨p1', p2'⟩ := p
    have e5 : u = p1' ∧ u2 = p2' ∧ us = flat2 ps := by
      injection e4 with a b
      injection b with b c
      exact ⟨a, b, c⟩
    obtain ⟨rfl, rfl, rfl⟩ := e5
    exact ⟨ps, rfl, h7⟩
theorem pair_dv {g : G} {H : Hp} : ∀ {ds : List D} {vs : List V} {ks : List (Key × D)}, DvAll g H vs ds → pairUp ds = some ks → ∃ kvs : List (Key × V), vs = flat2 (kvs.map (fun kv => (kV kv.1, kv.2))) ∧ DvK g H kvs ks
  | [], _, ks, h, e => by cases h; cases e; exact ⟨[], rfl, .nil⟩
  | [_], _, ks, h, e => by cases e
  | d1 :: d2 :: ds2, _, ks, h, e => by
    cases h with
    | cons a b =>
      cases b with
      | cons b c =>
        unfold pairUp at e
        cases ek : dKey d1 with
        | none => rw [ek] at e; cases e
        | some kq =>
          cases er : pairUp ds2 with
          | none => rw [ek, er] at e; cases e
          | some ms =>
            rw [ek, er] at e
            cases e
            obtain ⟨kvs, rfl, hk⟩ := pair_dv c er
            refine ⟨(kq, _) :: kvs, ?_, .cons b hk⟩
            rw [key_dv a ek]
            rfl
def dDisp (ra : DA) : DE := fun δ n P E => ra δ n (fun ds n' => ∃ ks, pairUp ds = some ks ∧ ks.length ≤ 15 ∧ P (.dct (mergeD [] ks)) n') E
def dDispO (ra : DA) : DO := fun δ n P E => ra δ n (fun ds n' => ∃ ks, pairUp ds = some ks ∧ ks.length ≤ 15 ∧ P (.od (mergeD [] ks)) n') E
theorem disp_lift {Q : VK} {σ : L2.St} {H Hv : Hp} {δ : DS} {n : Nat} {E : XD} {trs : List (TE × TE)} {PP : List (Key × D) → Nat → Prop} (h2 : ∀ σ H (Q : List (V × V) → Hp → Prop), liftA Z ra σ H (fun vs H' => ∃ ps, vs = flat2 ps ∧ Q ps H') → tPairs trs σ H Q)
    (r : Rel Z.g Z.H0 Z.Hv0 σ H Hv δ n) (h1 : ra δ n (fun ds n' => ∃ ks, pairUp ds = some ks ∧ ks.length ≤ 15 ∧ PP (mergeD [] ks) n') E) (x : EOk Z.g H Hv E (fun c d H' => Z.W c d σ H')) (q : ∀ p H2 Hv2 n2 (kvs : List (Key × V)) ks, PP ks n2 → H p = none → Ext Z.g H Hv H2 Hv2 → Pn Z.g H2 n2 → H2 p = some (.dK []) → Hv2 p = none → DvK Z.g Hv2 kvs ks → Q (.ref p) (upd H2 p (.dK kvs))) : tDisp trs σ H Q := by
  intro p hp
  have e0 := (ext_hid (g := Z.g) (o := .dK []) r.sub hp).1
  have p0 : Pn Z.g (upd H p (.dK [])) n := r.pen.mono (same_new hp) (Nat.le_refl _)
  have hvp : Hv p = none := by
    cases z : Hv p with
    | none => rfl
    | some o => rw [r.sub _ _ z] at hp; cases hp
  have np : p ≠ Z.g.pd := fun z => r.pen.pd (by rw [← z]; exact hp)
  refine h2 σ _ _ ⟨δ, Hv, n, _, E, r.step e0 p0, h1, (fun ds vs H2 Hv2 n2 h3 e2 p2 k => ?_), x.step e0 p0⟩
  obtain ⟨ks, ek, hl, h3⟩ := h3
  obtain ⟨kvs, rfl, kk⟩ := pair_dv k ek
  have e02 := e0.trans (fun _ => p0.pd) e2
  have hp2 : H2 p = some (.dK []) := e2.at np upd_same (fun _ z => by cases z)
  have hv2 : Hv2 p = none := e2.hid p hvp (by rw [upd_same]; simp)
  exact ⟨_, rfl, hp2, kvs, rfl, by rw [kk.len]; exact hl, q p H2 Hv2 n2 _ _ h3 hp e02 p2 hp2 hv2 (kk.merge .nil)⟩
theorem d_disp {keys : List (Option Expr)} {values : List Expr} (h : PPD X Z pos keys values ra) (hall : keys.all (·.isSome) = true := by rfl) (hl : keys.length = values.length := by rfl) (h0 : keys ≠ [] := by decide) (h15 : keys.length ≤ 15 := by decide) : PE X (.Dict keys values pos) (lift Z (dDisp ra)) := by
  obtain ⟨trs, h1, h2⟩ := h
  refine up (pe_frz (pe_disp h1 hall hl h0 h15)) fun σ H Q ⟨δ, Hv, n, P, E, r, h3, q, x⟩ => ?_
  refine disp_lift h2 r (PP := fun ks n' => P (.dct ks) n') h3 x fun p H2 Hv2 n2 kvs ks hP hp e02 p2 hp2 hv2 kk => ⟨p, kvs, rfl, upd_same, fun oo => ?_⟩
  rw [upd_upd]
  have sv : Same Hv2 (upd Hv2 p (.frz oo (.dK kvs))) := same_new hv2
  have np : p ≠ Z.g.pd := fun z => r.pen.pd (by rw [← z]; exact hp)
  have nc : p ≠ Z.g.pc := fun z => r.pen.pc (by rw [← z]; exact hp)
  refine q _ _ _ (upd Hv2 p (.frz oo (.dK kvs))) n2 hP ⟨fun b o hb e => ?_, e02.see.trans sv, fun b o e => ?_, fun a h1 h2 => ?_, fun z => (e02.nt z).upd (fun _ w => by cases w)⟩ (p2.upd np nc (Nat.le_refl _) hp2) (.dct upd_same (kk.mono sv))
  · have : b ≠ p := fun z => by rw [z, hp] at e; cases e
    obtain ⟨o', w1, w2⟩ := e02.but b o hb e
    exact ⟨o', (by rw [upd_ne this]; exact w1), w2⟩
  · by_cases eb : b = p
    · subst eb; rw [upd_same] at e ⊢; exact e
    · rw [upd_ne eb] at e ⊢; exact e02.sub _ _ e
  · have : a ≠ p := fun z => h2 (by rw [z]; exact hp)
    rw [upd_ne this]; exact e02.hid a h1 h2
theorem o_disp {keys : List (Option Expr)} {values : List Expr} (h : PPD X Z pos keys values ra) (hall : keys.all (·.isSome) = true := by rfl) (hl : keys.length = values.length := by rfl) (h0 : keys ≠ [] := by decide) (h15 : keys.length ≤ 15 := by decide) : PE X (.Dict keys values pos) (liftO Z (dDispO ra)) := by
  obtain ⟨trs, h1, h2⟩ := h
  refine up (pe_disp h1 hall hl h0 h15) fun σ H Q ⟨δ, Hv, n, P, E, r, h3, q, x⟩ => ?_
  refine disp_lift h2 r (PP := fun ks n' => P (.od ks) n') h3 x fun p H2 Hv2 n2 kvs ks hP hp e02 p2 hp2 hv2 kk => ?_
  have np : p ≠ Z.g.pd := fun z => r.pen.pd (by rw [← z]; exact hp)
  have nc : p ≠ Z.g.pc := fun z => r.pen.pc (by rw [← z]; exact hp)
  refine q _ _ _ Hv2 n2 hP ⟨fun b o hb e => ?_, e02.see, fun b o e => ?_, e02.hid, e02.nt⟩ (p2.upd np nc (Nat.le_refl _) hp2) ⟨p, kvs, rfl, hp, upd_same, hv2, kk⟩
  · have : b ≠ p := fun z => by rw [z, hp] at e; cases e
    obtain ⟨o', w1, w2⟩ := e02.but b o hb e
    exact ⟨o', (by rw [upd_ne this]; exact w1), w2⟩
  · have : b ≠ p := fun z => by rw [z, hv2] at e; cases e
    rw [upd_ne this]; exact e02.sub _ _ e
/-! ### d.update(e), d a dict that only this name has -/
def tDUpd (td ty : TE) : TE := fun σ H Q => td σ H fun x H1 => ∃ a, x = .ref a ∧ IsD H1 a ∧ ty σ H1 fun y H2 => ∃ b kvs more, y = .ref b ∧ a ≠ b ∧ H2 a = some (.dK kvs) ∧ Rd H2 b (.dK more) ∧ kvs.length + more.length ≤ sizeLine ∧ Q .non (upd H2 a (.dK (mergeK kvs more)))
theorem pe_dupd {apos cpos : Pos} {td ty : TE} (ho : PE X o td) (he : PE X e ty) (m : M1 X o "update" apos e cpos) : PE X (.Call (.Attribute o "update" apos) [e] [] cpos) (tDUpd td ty) := by
  refine ⟨fun pins s σ H Q I h => ?_⟩
  refine wpAny_Call_method m.base m.few m.line PySem.F.plainAttrs_dict PySem.F.slot_dict_update PySem.F.type_dict_update (thn (ho.run pins s σ H _ I h) fun u s1 ⟨x, H1, I1, rx, a, ex, d, q1⟩ => ?_)
  subst ex
  obtain rfl : u = Value.ref a := rx
  obtain ⟨t1, t2, _⟩ := isD_at I1 d
  refine ⟨t1, t2, ?_⟩
  rw [m.trees]
  refine Calls.callWith_builtin rfl (Calls.evalArgs_plain (Calls.spliced_cons (thn (he.run pins s1 σ H1 _ I1 q1) fun iv s2 ⟨y, H2, I2, ry, b, kvs, more, ey, hab, ea, eb, hz, q2⟩ => Calls.spliced_nil ?_)))
  subst ey
  obtain rfl : iv = Value.ref b := ry
  obtain ⟨z1, hd1, vs1, r1, dd1⟩ := dk_of I2.hok ea
  obtain ⟨z2, hd2, vs2, r2, dd2⟩ := dk_rd I2.hok eb
  refine call_meetsIn PySem.F.slot_dict_update dd1.typeIs PySem.F.entry_dict_update (PySem.F.args_dict_update_2 _ _) (meets_dict_update (mixKind X.prog X.w) a b hab hd2) ⟨vs1, vs2, dd1, dd2, by rw [← r1.length, ← r2.length]; exact hz, fun h' hm _ hs => ?_⟩
  have hl : (mergeK kvs more).length ≤ sizeLine := Nat.le_trans (length_mergeK more kvs) hz
  have he : ∃ q, h'.get? a = some q := let ⟨q, _, _, hq, _⟩ := hm; ⟨q, hq⟩
  exact ⟨.non, _, d_write I2 (by rw [ea]; exact True.intro) hs he (dk_new hl hd1 (r2.merge r1) hm), rfl, q2⟩
def dUpd (i : Nat) (dk : DE) : DT := fun F δ n => ∃ ks, δ[i]? = some (some (.od ks)) ∧ dk δ n (fun y n' => ∃ ms, y = .dct ms ∧ ks.length + ms.length ≤ sizeLine ∧ F.nx (δ.set i (some (.od (mergeD ks ms)))) n') (F.xe δ)
theorem ownD_at {g : G} {H0 Hv0 : Hp} {σ : L2.St} {H Hv : Hp} {δ : DS} {n i : Nat} {ks : List (Key × D)} (r : Rel g H0 Hv0 σ H Hv δ n) (h : δ[i]? = some (some (.od ks))) : ∃ p kvs, σ[i]? = some (some (.ref p)) ∧ H p = some (.dK kvs) ∧ Hv p = none ∧ H0 p = none ∧ DvK g Hv kvs ks := by
  obtain ⟨p, vs, e1, e2, e3, e4, e5⟩ := r.sl i _ h
  refine ⟨p, vs, ?_, e2, e3, e4, e5⟩
  cases q : σ[i]? with
  | none => rw [q] at e1; cases e1
  | some o => rw [q] at e1; exact congrArg some e1
theorem ds_upd {i : Nat} {y : Str} {p1 apos cpos : Pos} (hx : PE X (.Name y p1) (tVar i)) (he : PE X e (lift Z dk)) (m : M1 X (.Name y p1) "update" apos e cpos := by exact ⟨rfl, rfl, rfl, rfl⟩) (hs : swapsWith (.Call (.Attribute (.Name y p1) "update" apos) [e] [] cpos) none pos.line X.env = pure false := by rfl) :
    PS X (.Expr (.Call (.Attribute (.Name y p1) "update" apos) [e] [] cpos) pos) (liftS Z (dUpd i dk)) := upS (ps_expr (pe_dupd hx he m) hs) fun D σ H ⟨δ, Hv, n, F, r, ⟨ks, hd, h⟩, k1, k2, k3, k4, k5⟩ => by
  obtain ⟨p, kvs, s1, s2, s3, s4, s5⟩ := ownD_at r hd
  refine ⟨.ref p, s1, p, rfl, .inl ⟨_, .inl s2⟩, δ, Hv, n, _, _, r, h, (fun d v H' Hv' n' h2 e1 p1 k => ?_), k5.e r⟩
  obtain ⟨ms, rfl, hz, h3⟩ := h2
  have r' := r.step e1 p1
  obtain ⟨p', kvs', t1, t2, t3, t4, t5⟩ := ownD_at r' hd
  have ep : p' = p := by rw [s1] at t1; cases t1; rfl
  subst ep
  cases k with
  | @dct b oo more _ hb kk =>
    have hbp : p' ≠ b := fun z => by rw [← z, t3] at hb; cases hb
    refine ⟨b, kvs', more, rfl, hbp, t2, .inr ⟨_, e1.sub _ _ hb⟩, by rw [t5.len, kk.len]; exact hz, ?_⟩
    exact k1 _ _ _ _ _ h3 e1.see (r'.mutD hd t1 (kk.merge t5))
end
end Dn

/-! Values as trees: sorted dicts, unpacking, texts. -/
namespace Dn
open PySem PySem.Spec PyProof.Rows L2 Br
section
variable {X : Cx} {Z : Zx} {e o a b : Expr} {es : List Expr} {pos p apos : Pos} {de da db : DE} {ra : DA} {g : G}
/-! ### sorted(d), the keys texts -/
def dSortD (a : DE) : DE := fun δ n P E => a δ n (fun x n' => ∃ ks kss, x = .dct ks ∧ ks.map (·.1) = kss.map Sum.inr ∧ kss.length < 64 ∧ ∀ ys : List Str, ys.Perm kss → P (.lst (ys.map .str)) n') E
theorem strs_dv {g : G} {H : Hp} : ∀ ys : List Str, DvAll g H (ys.map V.str) (ys.map D.str)
  | [] => .nil
  | y :: r => .cons (.str y) (strs_dv r)
theorem d_sortD (hc : X.calm = true) (hg : Gl X "sorted") (hm : X.mg "sorted" = none) (ha : PE X a (lift Z da)) (h1 : starEach [a] X.env = (false, eval a X.env) :: starEach [] X.env := by rfl) (hpl : (backTo pos (starEach [] X.env)).any (·.1) = false := by rfl) :
    PE X (.Call (.Name "sorted" p) [a] [] pos) (lift Z (dSortD da)) :=
  up (pe_callB (call_sortedD hc) hg hm (by decide +kernel) (pa_cons ha pa_nil h1) (by decide) (by decide) h1 hpl) fun σ H Q ⟨δ, Hv, n, P, E, rr, h1, q, x⟩ => ⟨δ, Hv, n, _, E, rr, h1, (fun d v H' Hv' n' h2 e p k => by
    obtain ⟨ks, kss, rfl, e1, e2, h3⟩ := h2
    cases k with
    | @dct a oo kvs _ ha kk =>
      refine ⟨a, kvs, kss, rfl, .inr ⟨_, e.sub _ _ ha⟩, by rw [kk.keys]; exact e1, e2, fun ys pp hp hs hn => ?_⟩
      have := gives_of (q.step e p) p (h3 ys hp)
      exact this.lst e.sub hn (strs_dv ys)), x⟩
/-! ### a, b, c = e -/
def dUnp (is : List Nat) (e : DE) : DT := fun F δ n => e δ n (fun d n' => ∃ δ', dTg (.tp is) d δ = some δ' ∧ F.nx δ' n') (F.xe δ)
theorem ds_unp {is : List Nat} {kt : Nat} {gg : TG} (he : PE X e (lift Z de)) (hg : PG X (.Tuple es kt p) gg) (ho : TgOk Z (.tp is) gg) (hs : swapsWithSole [.Tuple es kt p] e pos.line X.env = pure false := by rfl) (hw : swappedStores [.Tuple es kt p] e X.env = pure none := by rfl) (h1 : (assignEach [.Tuple es kt p] X.env).map (·.2) = [assign (.Tuple es kt p) X.env] := by rfl) :
    PS X (.Assign [.Tuple es kt p] e pos) (liftS Z (dUnp is de)) := upS (ps_asg he hg hs hw h1) fun D σ H ⟨δ, Hv, n, F, r, h, k1, k2, k3, k4, k5⟩ =>
  ⟨δ, Hv, n, _, _, r, h, (fun d v H' Hv' n' h' e p k => by
    obtain ⟨δ', ht, h3⟩ := h'
    exact ho (r.step e p) k ht fun σ' r' _ => k1 _ _ _ _ _ h3 e.see r'), k5.e r⟩
/-! ### methods of texts -/
def dJoin (a b : DE) : DE := fun δ n P E => a δ n (fun x n1 => ∃ z, x = .str z ∧ b δ n1 (fun y n2 => ∃ ys : List Str, (y = .lst (ys.map .str) ∨ y = .tup (ys.map .str)) ∧ (ys.map (·.length)).sum + ys.length * z.length ≤ 16777216 ∧ P (.str (Txt.join z ys)) n2) E) E
theorem strs_of {g : G} {H : Hp} : ∀ {ys : List Str} {vs : List V}, DvAll g H vs (ys.map D.str) → vs = ys.map V.str
  | [], _, h => by cases h; rfl
  | y :: r, _, h => by
    cases h with
    | cons a b => cases a; rw [strs_of b]; rfl
theorem d_join (zk : Z.g.K = X.K) (ho : PE X o (lift Z da)) (he : PE X e (lift Z db)) (hs : starEach [e] X.env = [(false, eval e X.env)] := by rfl) (hbase : attributeBase o "join" X.env (eval o X.env) = eval o X.env := by rfl) (hline : (apos.endLine == pos.line) = true := by rfl) :
    PE X (.Call (.Attribute o "join" apos) [e] [] pos) (lift Z (dJoin da db)) :=
  up (pe_join ho he hs hbase hline) fun σ H Q ⟨δ, Hv, n, P, E, r, h1, q, x⟩ => ⟨δ, Hv, n, _, E, r, h1, (fun d v H1 Hv1 n1 h2 e1 p1 k1 => by
    obtain ⟨z, rfl, h2⟩ := h2
    cases k1
    refine ⟨⟨z, rfl⟩, δ, Hv1, n1, _, E, r.step e1 p1, h2, (fun d2 v2 H2 Hv2 n2 h3 e2 p2 k2 => ?_), x.step e1 p1⟩
    obtain ⟨ys, hy, hz, h3⟩ := h3
    have e12 := e1.trans (fun _ => p1.pd) e2
    rcases hy with rfl | rfl
    · cases k2 with
      | @lst a vs _ ha ks =>
        have := strs_of ks
        subst this
        exact ⟨z, a, ys, rfl, rfl, .inl (sqL (e2.sub _ _ ha)), hz, q _ _ _ _ _ h3 e12 p2 (.str _)⟩
    · cases k2 with
      | @tup a vs _ ha ks =>
        have := strs_of ks
        subst this
        exact ⟨z, a, ys, rfl, rfl, .inr (zk ▸ same_seqT e2.sub ha), hz, q _ _ _ _ _ h3 e12 p2 (.str _)⟩), x⟩
def dUpper (a : DE) : DE := fun δ n P E => a δ n (fun x n1 => ∃ z, x = .str z ∧ z.length ≤ 5592405 ∧ P (.str (Txt.upper z)) n1) E
theorem d_upper (ho : PE X o (lift Z da)) (hbase : attributeBase o "upper" X.env (eval o X.env) = eval o X.env := by rfl) (hline : (apos.endLine == pos.line) = true := by rfl) :
    PE X (.Call (.Attribute o "upper" apos) [] [] pos) (lift Z (dUpper da)) :=
  up (pe_upper ho hbase hline) fun σ H Q ⟨δ, Hv, n, P, E, r, h1, q, x⟩ => ⟨δ, Hv, n, _, E, r, h1, (fun d v H1 Hv1 n1 h2 e1 p1 k1 => by
    obtain ⟨z, rfl, hz, h2⟩ := h2
    cases k1
    exact ⟨⟨z, rfl⟩, z, rfl, rfl, hz, q _ _ _ _ _ h2 e1 p1 (.str _)⟩), x⟩
/-! ### one sign in a text -/
def gInS : List D → Option D
  | [.str x, .str z] => match x.cps.toList with
    | [c] => some (.bl (decide (c ∈ z.cps.toList)))
    | _ => none
  | _ => none
def gNotInS : List D → Option D
  | [.str x, .str z] => match x.cps.toList with
    | [c] => some (.bl (!decide (c ∈ z.cps.toList)))
    | _ => none
  | _ => none
theorem sign_of {x : Str} {c : Nat} (h : x.cps.toList = [c]) : x = ⟨#[c]⟩ := by
  obtain ⟨a⟩ := x
  have : a = #[c] := by
    apply Array.ext'
    exact h
  rw [this]
theorem o_inS : DOp X g (compareOp .In) gInS := by
  refine ⟨_, op_inS, ?_⟩
  intro H Hv x y dx dy d Q s kx ky hf q
  unfold gInS at hf
  split at hf
  · rename_i a z ee
    cases ee
    split at hf
    · rename_i c hc
      cases hf
      cases kx; cases ky
      exact ⟨c, z, by rw [sign_of hc], rfl, q.here s (.bl _)⟩
    · cases hf
  · cases hf
theorem o_notInS : DOp X g (compareOp .NotIn) gNotInS := by
  refine ⟨_, op_notInS, ?_⟩
  intro H Hv x y dx dy d Q s kx ky hf q
  unfold gNotInS at hf
  split at hf
  · rename_i a z ee
    cases ee
    split at hf
    · rename_i c hc
      cases hf
      cases kx; cases ky
      exact ⟨c, z, by rw [sign_of hc], rfl, q.here s (.bl _)⟩
    · cases hf
  · cases hf
/-! ### x is True -/
def gIsB : List D → Option D
  | [.bl a, .bl b] => some (.bl (a == b))
  | _ => none
def gIsNotB : List D → Option D
  | [.bl a, .bl b] => some (.bl (!(a == b)))
  | _ => none
theorem op_isB : OpR X (compareOp .Is) (fun x y H Q => ∃ a b, x = .bl a ∧ y = .bl b ∧ Q (.bl (a == b)) H) := by
  intro pins s σ H x y v u Q I rx ry h
  obtain ⟨a, b, rfl, rfl, q⟩ := h
  cases rx
  cases ry
  exact is_bool (fin_bl I q rfl)
theorem op_isNotB : OpR X (compareOp .IsNot) (fun x y H Q => ∃ a b, x = .bl a ∧ y = .bl b ∧ Q (.bl (!(a == b))) H) := by
  intro pins s σ H x y v u Q I rx ry h
  obtain ⟨a, b, rfl, rfl, q⟩ := h
  cases rx
  cases ry
  have e : (Value.bool a == Value.bool b) = (a == b) := by cases a <;> cases b <;> rfl
  exact wpAny_pure (a := Value.bool (!(Value.bool a == Value.bool b))) (by rw [e]; exact (fin_bl I q rfl))
theorem o_isB : DOp X g (compareOp .Is) gIsB := by
  refine ⟨_, op_isB, ?_⟩
  intro H Hv x y dx dy d Q s kx ky hf q
  unfold gIsB at hf
  split at hf
  · rename_i a b ee
    cases ee
    cases hf
    cases kx; cases ky
    exact ⟨_, _, rfl, rfl, q.here s (.bl _)⟩
  · cases hf
theorem o_isNotB : DOp X g (compareOp .IsNot) gIsNotB := by
  refine ⟨_, op_isNotB, ?_⟩
  intro H Hv x y dx dy d Q s kx ky hf q
  unfold gIsNotB at hf
  split at hf
  · rename_i a b ee
    cases ee
    cases hf
    cases kx; cases ky
    exact ⟨_, _, rfl, rfl, q.here s (.bl _)⟩
  · cases hf
/-! ### a tuple beside the empty one -/
theorem op_ne0T (hu : X.A.units < cLine) : OpR X (compareOp .NotEq) (fun x y H Q => ∃ a b xs, x = .ref a ∧ y = .ref b ∧ SqT X.K H a xs ∧ SqT X.K H b [] ∧ Q (.bl (!xs.isEmpty)) H) := by
  intro pins s σ H x y v u Q I rx ry h
  obtain ⟨a, b, xs, rfl, rfl, ha, hb, q⟩ := h
  cases rx
  cases ry
  obtain ⟨us, r1, p1, _⟩ := I.tuple ha
  obtain ⟨ws, r2, p2, _⟩ := I.tuple hb
  cases r2
  refine SeqAt.RcNeAt.tuples (e := fun _ => true) p1 p2 hu (fun j h1 h2 => by simp at h2) X.prog X.w X.xe _ ?_
  have e : us.isEmpty = xs.isEmpty := by cases r1 <;> rfl
  refine ⟨.bl (!xs.isEmpty), H, I, ?_, q⟩
  show _ = Value.bool (!xs.isEmpty)
  rw [← e]
  cases us <;> simp
def gNe0 : List D → Option D
  | [.tup xs, .tup []] => some (.bl (!xs.isEmpty))
  | _ => none
theorem o_ne0 (zk : g.K = X.K) (hu : X.A.units + 64 < cLine) : DOp X g (compareOp .NotEq) gNe0 := by
  refine ⟨_, op_ne0T (by omega), ?_⟩
  intro H Hv x y dx dy d Q s kx ky hf q
  unfold gNe0 at hf
  split at hf
  · rename_i xs ee
    cases ee
    cases hf
    cases kx with
    | tup ha ks =>
      cases ky with
      | tup hb ks2 =>
        cases ks2
        refine ⟨_, _, _, rfl, rfl, zk ▸ same_seqT s ha, zk ▸ same_seqT s hb, ?_⟩
        have e : ∀ {vs : List V} {ds : List D}, DvAll g Hv vs ds → vs.isEmpty = ds.isEmpty := fun k => by cases k <;> rfl
        rw [e ks]
        exact q.here s (.bl _)
  · cases hf
end
/-! ### {k: v for .. in ..} -/
def dcGo (tg : Tg) (t k v : DE) (δ : DS) : List D → List (Key × D) → Nat → (List (Key × D) → Nat → Prop) → Prop
  | [], acc, n, P => P acc n
  | x :: xs, acc, n, P => ∃ δ', dTg tg x δ = some δ' ∧ t δ' n (fun b n1 => ∃ c, b = .bl c ∧ if c = true then k δ' n1 (fun y n2 => v δ' n2 (fun z n3 => ∃ q, dKey y = some q ∧ dcGo tg t k v δ xs (putKD acc q z) n3 P) (fun _ _ _ => False)) (fun _ _ _ => False) else dcGo tg t k v δ xs acc n1 P) (fun _ _ _ => False)
def dDc (it : DA) (tg : Tg) (t k v : DE) (vs : List Nat) : DE := fun δ n P E => it δ n (fun xs n' => xs.length ≤ sizeLine ∧ dcGo tg t k v (wipeD δ vs) xs [] n' (fun ks n2 => P (.dct ks) n2)) E
theorem putKD_len (ks : List (Key × D)) (k : Key) (v : D) : (putKD ks k v).length ≤ ks.length + 1 := by
  unfold putKD
  split
  · rw [List.length_map]; omega
  · rw [List.length_append]; exact Nat.le_refl _
theorem dc_it {J : It} {n : Nat} {G : Hp → Prop} {Y : Nat → Hp → V → Hp → Prop} (w : Walk J n G Y) {g : TG} {tt : TT} {tk tv : TE} {vs : List Nat} {σ : L2.St} {H1 : Hp} {D : Addr} {Qd : Hp → Prop} (Pv : Nat → Hp → Prop) (h0 : Pv 0 (upd H1 D (.dK []))) (hG : ∀ i H, i ≤ n → Pv i H → G H)
    (hs : ∀ i x H H', i < n → Pv i H → Y i H x H' → g x (wipe σ vs) H' fun σ2 H2 => wipe σ2 vs = wipe σ vs ∧ tt σ2 H2 fun b H3 =>
      if b = true then tk σ2 H3 fun y H4 => tv σ2 H4 fun z H5 => ∃ kvs k, y = kV k ∧ H5 D = some (.dK kvs) ∧ kvs.length < sizeLine ∧ Pv (i + 1) (upd H5 D (.dK (putK kvs k z))) else Pv (i + 1) H3) (hd : ∀ H, Pv n H → Qd H) :
    ∃ W : Nat → Nat → Hp → Prop, (∃ m, W 0 m (upd H1 D (.dK []))) ∧ ∀ i m H, W i m H →
      (J.stop i H ∧ Qd H) ∨ (J.go i H ∧ ∃ Nx : Hp → Prop, (∀ H', Nx H' → ∃ m', m' < m ∧ W (i + 1) m' H') ∧ ∀ x H', J.yld i H x H' → g x (wipe σ vs) H' fun σ2 H2 => wipe σ2 vs = wipe σ vs ∧ tt σ2 H2 fun b H3 =>
        if b = true then tk σ2 H3 fun y H4 => tv σ2 H4 fun z H5 => ∃ kvs k, y = kV k ∧ H5 D = some (.dK kvs) ∧ kvs.length < sizeLine ∧ Nx (upd H5 D (.dK (putK kvs k z))) else Nx H3) := by
  refine ⟨fun i m H => m = n - i ∧ i ≤ n ∧ Pv i H, ⟨n, by simp, Nat.zero_le _, h0⟩, ?_⟩
  rintro i m H ⟨rfl, hi, p⟩
  have q := hG i H hi p
  by_cases hlt : i < n
  · refine .inr ⟨w.goes i H hlt q, Pv (i + 1), fun H' p' => ⟨n - (i + 1), by omega, rfl, hlt, p'⟩, fun x H' y => hs i x H H' hlt p (w.yields i H x H' hlt q y)⟩
  · have e : i = n := by omega
    subst e
    exact .inl ⟨w.stops H q, hd H p⟩
section
variable {X : Cx} {Z : Zx} {tge iter kx vx : Expr} {ifs : List Expr} {scope : Scope} {own : List (Str × Nat)} {pos : Pos} {it : DA} {dt dk dv' : DE} {tg : Tg} {gg : TG} {tt : TT}
theorem dc_lift {vs : List Nat} (hv : ∀ i ∈ tg.is, i ∈ vs) (ho : TgOk Z.calm tg gg) (htt : ∀ σ H R, liftT Z.calm dt σ H R → tt σ H R) {σ : L2.St} {H Hv : Hp} {δ : DS} {n : Nat} {P : List (Key × D) → Nat → Prop} {Q : VK} {E : XD}
    (r : Rel Z.g Z.H0 Z.Hv0 σ H Hv δ n) (h : it δ n (fun xs n' => xs.length ≤ sizeLine ∧ dcGo tg dt dk dv' (wipeD δ vs) xs [] n' P) E) (q : ∀ ys p ws H' Hv' n', P ys n' → Ext Z.g H Hv H' Hv' → Pn Z.g H' n' → H p = none → H' p = some (.dK ws) → Hv' p = none → DvK Z.g Hv' ws ys → Q (.ref p) H') (x : EOk Z.g H Hv E (fun c d H' => Z.W c d σ H')) :
    tDc (liftI Z it) gg tt (lift Z.calm dk) (lift Z.calm dv') vs σ H Q := by
  refine ⟨δ, Hv, n, _, E, r, h, (fun xs H1 Hv1 n1 J h1 e1 p1 wk => ?_), x⟩
  obtain ⟨hsz, h1⟩ := h1
  intro Dd hD
  obtain ⟨e2, hv2⟩ := ext_hid (g := Z.g) (o := .dK []) e1.sub hD
  have nD : H Dd = none := by
    cases z : H Dd with
    | none => rfl
    | some o =>
      by_cases ez : Dd = Z.g.pd
      · subst ez; exact absurd hD p1.pd
      · obtain ⟨_, w, _⟩ := e1.but _ _ ez z
        rw [w] at hD; cases hD
  have npd : Dd ≠ Z.g.pd := fun z => p1.pd (by rw [← z]; exact hD)
  have npc : Dd ≠ Z.g.pc := fun z => p1.pc (by rw [← z]; exact hD)
  refine dc_it wk (fun i H' => ∃ Hv' n' acc ws, Ext Z.g H1 Hv1 H' Hv' ∧ Pn Z.g H' n' ∧ H' Dd = some (.dK ws) ∧ Hv' Dd = none ∧ DvK Z.g Hv' ws acc ∧ acc.length ≤ i ∧ dcGo tg dt dk dv' (wipeD δ vs) (xs.drop i) acc n' P) ?_ ?_ ?_ ?_
  · exact ⟨Hv1, n1, [], [], e2, p1.mono (same_new hD) (Nat.le_refl _), upd_same, hv2, .nil, Nat.zero_le _, h1⟩
  · rintro i H' _ ⟨Hv', n', acc, ws, a1, _⟩
    exact a1.see.trans a1.sub
  · rintro i v H2 H3 hi ⟨Hv2, n2, acc, ws, a1, a2, a3, a4, a5, al, a6⟩ y
    obtain ⟨d, Hv3, hd, e3, sm, k⟩ := y Hv2 a1.see a1.sub
    rw [drop_at hd] at a6
    obtain ⟨δ3, ht, g3⟩ := a6
    have p3 : Pn Z.g H3 n2 := a2.mono sm (Nat.le_refl _)
    have a13 := a1.trans (fun _ => a2.pd) e3
    have r3 : Rel Z.g Z.H0 Z.Hv0 (wipe σ vs) H3 Hv3 (wipeD δ vs) n2 := (wipe_rel (r.step e1 p1) vs).step a13 p3
    refine ho r3 k ht fun σ4 r4 w4 => ⟨by rw [w4 vs hv]; exact wipe_sub σ vs vs fun _ h => h, ?_⟩
    refine htt _ _ _ ⟨δ3, Hv3, n2, _, _, r4, g3, (fun b vb H5 Hv5 n5 h5 e5 p5 k5 => ?_), fun _ _ _ _ _ _ _ z => z.elim⟩
    obtain ⟨cb, rfl, h5⟩ := h5
    refine ⟨cb, dv_bl k5, ?_⟩
    show (if cb = true then _ else _)
    have hD3 : H3 Dd = some (.dK ws) := sm _ _ a3
    have hD5 : H5 Dd = some (.dK ws) := e5.at npd hD3 (fun _ z => by cases z)
    have hvD3 : Hv3 Dd = none := e3.hid _ a4 (by rw [a3]; simp)
    have hvD5 : Hv5 Dd = none := e5.hid _ hvD3 (by rw [hD3]; simp)
    have a15 := a13.trans (fun _ => p3.pd) e5
    cases cb with
    | false =>
      rw [if_neg Bool.false_ne_true] at h5 ⊢
      exact ⟨Hv5, n5, acc, ws, a15, p5, hD5, hvD5, a5.mono (e3.see.trans e5.see), by omega, h5⟩
    | true =>
      rw [if_pos rfl] at h5 ⊢
      refine ⟨δ3, Hv5, n5, _, _, r4.step e5 p5, h5, (fun dy vy H6 Hv6 n6 h6 e6 p6 k6 => ?_), fun _ _ _ _ _ _ _ z => z.elim⟩
      have e56 := e5.trans (fun _ => p5.pd) e6
      refine ⟨δ3, Hv6, n6, _, _, r4.step e56 p6, h6, (fun dz vz H7 Hv7 n7 h7 e7 p7 k7 => ?_), fun _ _ _ _ _ _ _ z => z.elim⟩
      obtain ⟨kq, ek, h7⟩ := h7
      have hD6 : H6 Dd = some (.dK ws) := e6.at npd hD5 (fun _ z => by cases z)
      have hvD6 : Hv6 Dd = none := e6.hid _ hvD5 (by rw [hD5]; simp)
      have hD7 : H7 Dd = some (.dK ws) := e7.at npd hD6 (fun _ z => by cases z)
      have hvD7 : Hv7 Dd = none := e7.hid _ hvD6 (by rw [hD6]; simp)
      have a17 := (a15.trans (fun _ => p5.pd) e6).trans (fun _ => p6.pd) e7
      have a57 := a5.mono (((e3.see.trans e5.see).trans e6.see).trans e7.see)
      have := putKD_len acc kq dz
      refine ⟨ws, kq, key_dv k6 ek, hD7, by rw [a57.len]; omega, Hv7, n7, putKD acc kq dz, putK ws kq vz, ⟨fun bb o nb eo => ?_, a17.see, fun bb o eo => ?_, a17.hid, a17.nt⟩, p7.upd npd npc (Nat.le_refl _) hD7, upd_same, hvD7, a57.put kq k7, by omega, h7⟩
      · have : bb ≠ Dd := fun z => by rw [z, hD] at eo; cases eo
        obtain ⟨o', w1, w2⟩ := a17.but _ _ nb eo
        exact ⟨o', (by rw [upd_ne this]; exact w1), w2⟩
      · have : bb ≠ Dd := fun z => by rw [z, hvD7] at eo; cases eo
        rw [upd_ne this]; exact a17.sub _ _ eo
  · rintro H' ⟨Hv', n', acc, ws, a1, a2, a3, a4, a5, _, a6⟩
    rw [List.drop_length] at a6
    have a6 : P acc n' := a6
    exact q acc Dd ws H' Hv' n' a6 (e1.trans (fun _ => p1.pd) a1) a2 nD a3 a4 a5
theorem d_dc (hc : X.calm = true) (hN : X.N.Nodup) (hi : PI X tge iter (liftI Z it)) (ok : BlkOk X.N X.env.scope scope own)
    (hg : ∀ (s : Shared) (H : Hp) (C : Addr) (cl : List (Str × Addr)) (fp : List Addr), PG (X.blk s H scope (compEnvC scope cl C X.env) fp) tge gg) (ho : TgOk Z.calm tg gg) (ht : ∀ (s : Shared) (H : Hp) (C : Addr) (cl : List (Str × Addr)) (fp : List Addr), PTs (X.blk s H scope (compEnvC scope cl C X.env) fp) ifs tt)
    (htt : ∀ σ H R, liftT Z.calm dt σ H R → tt σ H R) (hk : ∀ (s : Shared) (H : Hp) (C : Addr) (cl : List (Str × Addr)) (fp : List Addr), PE (X.blk s H scope (compEnvC scope cl C X.env) fp) kx (lift Z.calm dk)) (he : ∀ (s : Shared) (H : Hp) (C : Addr) (cl : List (Str × Addr)) (fp : List Addr), PE (X.blk s H scope (compEnvC scope cl C X.env) fp) vx (lift Z.calm dv')) (hv : ∀ i ∈ tg.is, i ∈ own.map (·.2))
    (hs : ∀ x, foldedSetIterable iter X.env x = pure x := by intro _; rfl) : PE X (.DictComp kx vx [⟨tge, iter, ifs, 0⟩] scope pos) (lift Z (dDc it tg dt dk dv' (own.map (·.2)))) :=
  up (pe_frz (pe_dc hc hN hi ok hg ht hk he hs)) fun σ H Q ⟨δ, Hv, n, P, E, r, h1, q, x⟩ => dc_lift hv ho htt r h1 (fun ys p ws H' Hv' n' h2 e pn hp hp' hv' k => ⟨p, ws, rfl, hp', fun oo => by
    have np : p ≠ Z.g.pd := fun z => r.pen.pd (by rw [← z]; exact hp)
    have nc : p ≠ Z.g.pc := fun z => r.pen.pc (by rw [← z]; exact hp)
    refine q (.dct ys) (.ref p) _ (upd Hv' p (.frz oo (.dK ws))) n' h2 ⟨fun b o hb z => ?_, e.see.trans (same_new hv'), fun b o hb => ?_, fun a h3 h4 => ?_, fun z => (e.nt z).upd (fun _ w => by cases w)⟩ (pn.upd np nc (Nat.le_refl _) hp') (.dct upd_same (k.mono (same_new hv')))
    · have hb2 : b ≠ p := fun w => by rw [w, hp] at z; cases z
      obtain ⟨o', w1, w2⟩ := e.but b o hb z
      exact ⟨o', (by rw [upd_ne hb2]; exact w1), w2⟩
    · by_cases eb : b = p
      · subst eb; rw [upd_same] at hb ⊢; exact hb
      · rw [upd_ne eb] at hb ⊢; exact e.sub _ _ hb
    · have : a ≠ p := fun z => h4 (by rw [z]; exact hp)
      rw [upd_ne this]; exact e.hid a h3 h4⟩) x
end
end Dn

/-! Values as trees: texts turned about, texts side by side. -/
namespace Dn
open PySem PySem.Spec PyProof.Rows L2 Br
def revS (x : Str) : Str := ⟨x.cps.toList.reverse.toArray⟩
theorem pick_revS (x : Str) (u : Tok) : ((slicePicked x none none (some (-1, u))).filterMap (x.cps[·]?)).toArray = x.cps.toList.reverse.toArray := by
  have e : slicePicked x none none (some (-1, u)) = sliceRange ((x.cps.size : Int) - 1) (-1) (-1) := rfl
  rw [e, PySem.W.krv_sliceRange, PySem.W.krv_range, List.filterMap_reverse, PySem.W.krv_all]
section
variable {X : Cx} {Z : Zx} {e o a b : Expr} {es : List Expr} {pos p apos : Pos} {de da db : DE} {ra : DA} {g : G}
def tRevS (te : TE) : TE := fun σ H Q => te σ H fun x H1 => ∃ z, x = .str z ∧ z.length ≤ sizeLine ∧ Q (.str (revS z)) H1
theorem pe_revS {te : TE} {k : Nat} {p1 p2 p3 : Pos} (he : PE X e te) : PE X (.Subscript e (.Slice none none (some (.UnaryOp .USub (.Constant (.int 1) k p1) p2)) p3) pos) (tRevS te) := by
  refine ⟨fun pins s σ H Q I h => ?_⟩
  refine Subscript_ (thn (he.run pins s σ H _ I h) fun v s1 ⟨x, H1, I1, r1, q1⟩ => ?_)
  obtain ⟨z, ex, hz, q⟩ := q1
  subst ex
  obtain ⟨t, rfl⟩ := r1
  have hst : PO X (some (.UnaryOp .USub (.Constant (.int 1) k p1) p2)) (tPart (tUn (rU fun i => .int (-i)) (tC (.int 1)))) := po_some (pe_un un_neg pe_int)
  refine wpAny_Slice (thn (po_none.run pins s1 σ H1 (fun o H2 => o = none ∧ H2 = H1) I1 ⟨rfl, rfl⟩) fun vl s2 ⟨l, H2, I2, pl, el, e2⟩ => ?_)
  subst el e2
  refine thn (po_none.run pins s2 σ H2 (fun o H3 => o = none ∧ H3 = H2) I2 ⟨rfl, rfl⟩) fun vu s3 ⟨u, H3, I3, pu, eu, e3⟩ => ?_
  subst eu e3
  refine thn (hst.run pins s3 σ H3 (fun o H4 => o = some (-1) ∧ H4 = H3) I3 ⟨1, rfl, -1, rfl, rfl, rfl⟩) fun vs s4 ⟨o, H4, I4, ps, eo, e4⟩ => ?_
  subst eo e4
  cases pl
  cases pu
  cases ps with
  | int i tk =>
  have I5 : Inv X pins σ H4 { s4 with heap := s4.heap.push { cls := .type "slice", data := .fields #[.none, .none, .int (-1) tk] } } := I4.kept (t' := s4.toks) fun b ob q => Heap.get?_push_of_some _ q
  show wpAny (model X.prog X.w) X.A (subscriptTail e (.Slice none none (some (.UnaryOp .USub (.Constant (.int 1) k p1) p2)) p3) (.str z t) (.ref s4.heap.objs.size)) (EP X pins σ Q) X.xe { s4 with heap := s4.heap.push { cls := .type "slice", data := .fields #[.none, .none, .int (-1) tk] } }
  refine tail_any (ops := [.str z t, .ref s4.heap.objs.size]) (typeIs_str _ z t) F.slot_str_getitem.lookup ?_ (by with_unfolding_all rfl)
  refine wpAny_getItem_str_slice (l := none) (u := none) (st := some (-1, tk)) ⟨_, Heap.get?_push_size _ rfl, rfl, rfl⟩ rfl ?_
  unfold sliceMade
  rw [if_neg (by simp), pick_revS]
  have hl : (⟨z.cps.toList.reverse.toArray⟩ : Str).length ≤ sizeLine := by
    show z.cps.toList.reverse.toArray.size ≤ sizeLine
    rw [List.size_toArray, List.length_reverse, Array.length_toList]
    exact hz
  exact ⟨hl, .str (revS z), H4, I5.tok _, ⟨_, rfl⟩, q⟩
def gRevS : List D → Option D
  | [.str z] => if z.length ≤ sizeLine then some (.str (revS z)) else none
  | _ => none
theorem d_revS {k : Nat} {p1 p2 p3 : Pos} (he : PE X e (lift Z de)) : PE X (.Subscript e (.Slice none none (some (.UnaryOp .USub (.Constant (.int 1) k p1) p2)) p3) pos) (lift Z (dApp gRevS (dCons de dNil))) :=
  up (pe_revS he) fun σ H Q ⟨δ, Hv, n, P, E, rr, h1, q, x⟩ => ⟨δ, Hv, n, _, E, rr, h1, (fun d v H' Hv' n' h2 e p k => by
    obtain ⟨z, hz, h3⟩ := h2
    unfold gRevS at hz
    split at hz
    · rename_i y ee
      cases ee
      split at hz
      · rename_i hl
        cases hz
        cases k
        exact ⟨y, rfl, hl, q _ _ _ _ _ h3 e p (.str _)⟩
      · cases hz
    · cases hz), x⟩
/-! ### zip of two texts -/
def zipD (xs ys : List D) : List D := (xs.zip ys).map fun p => .tup [p.1, p.2]
def gZipS : List D → Option (List D)
  | [.str x, .str y] => some (zipD (signs x) (signs y))
  | _ => none
theorem zipD_len (xs ys : List D) : (zipD xs ys).length = min xs.length ys.length := by
  unfold zipD
  rw [List.length_map, List.length_zip]
theorem zipD_at {xs ys : List D} {i : Nat} {a b : D} (h1 : xs[i]? = some a) (h2 : ys[i]? = some b) : (zipD xs ys)[i]? = some (.tup [a, b]) := by
  unfold zipD
  rw [List.getElem?_map, (List.getElem?_zip_eq_some (z := (a, b))).mpr ⟨h1, h2⟩]
  rfl
theorem walk_zipS {x y : Str} : Walk (ItzS x y) (min x.cps.size y.cps.size) (fun _ => True) (fun i H v H' => ∃ T c d, v = .ref T ∧ H T = none ∧ H' = upd H T (.tup [.str ⟨#[c]⟩, .str ⟨#[d]⟩]) ∧ x.cps[i]? = some c ∧ y.cps[i]? = some d) :=
  ⟨fun i H hi _ => ⟨by omega, by omega⟩, fun H _ => ⟨by omega, by omega, by omega⟩, fun i H v H' hi _ y => y⟩
theorem wk_zipS {g : G} {H : Hp} {x y : Str} : Wk g H (ItzS x y) (zipD (signs x) (signs y)) := by
  have w := walk_zipS (x := x) (y := y)
  have e : min x.cps.size y.cps.size = (zipD (signs x) (signs y)).length := by rw [zipD_len, signs_len, signs_len]
  rw [e] at w
  refine w.mono (fun _ _ => trivial) fun i H1 v H' hi s yy Hv sv su => ?_
  obtain ⟨T, c, d, rfl, hT, rfl, e1, e2⟩ := yy
  have ex := ext_new (g := g) (o := .tup [.str ⟨#[c]⟩, .str ⟨#[d]⟩]) su hT
  exact ⟨_, _, zipD_at (signs_at e1) (signs_at e2), ex, same_new hT, .tup (sqT upd_same) (.cons (.str _) (.cons (.str _) .nil))⟩
theorem di_zipS {elts : List Expr} {kk : Nat} {tpos : Pos} (hg : Gl X "zip") (hm : X.mg "zip" = none) (ha : PA X [a, b] (liftA Z ra)) (hs : starEach [a, b] X.env = (false, eval a X.env) :: starEach [b] X.env := by rfl) (hpl : (backTo pos (starEach [b] X.env)).any (·.1) = false := by rfl) :
    PI X (.Tuple elts kk tpos) (.Call (.Name "zip" p) [a, b] [] pos) (liftI Z (dIt gZipS ra)) := upI (pi_zipS hg hm ha hs hpl) fun σ H R ⟨δ, Hv, n, P, E, r, h1, q, x⟩ => by
  refine ⟨δ, Hv, n, _, E, r, h1, (fun d v H' Hv' n' h2 e p k => ?_), x⟩
  obtain ⟨ys, hy, h3⟩ := h2
  unfold gZipS at hy
  split at hy
  · cases hy
    cases k with
    | cons k1 k2 =>
      cases k2 with
      | cons k2 k3 =>
        cases k3
        cases k1
        cases k2
        exact ⟨_, _, rfl, q _ _ _ _ _ h3 e p wk_zipS⟩
  · cases hy
end
end Dn

/-! Values as trees: the script's length, constants of the module that are trees, truths among numbers. -/
namespace Dn
open PySem PySem.Spec PyProof.Rows L2 Br
/-! ### the script's length -/
def dLawS (N i : Nat) (t : DT) : Prop := ∀ k : Nat, k ≤ 63 → t ⟨fun _ _ => False, shP (fun d _ => d = .bl true), fun _ _ => False, fun _ _ => False, fun _ _ _ _ => False⟩ (((List.replicate N none).set 0 (some (.sh (.scr k)))).set i (some (.sh .pen))) 0
section
variable {P : Program} {w : World} {K : PySem.W.Frag} {mg : Str → Option Value} {base : Heap} {kn : Kn} {x qual : Str} {st : Stmt} {f : Addr} {fd : FuncData} {N ps : List Str} {k : Nat}
theorem scr_see {g : G} {H : Hp} {a : Addr} {xs : List V} (h : SqL g.K H a xs) (hp : H g.pd = none) : ∃ Hv : Hp, Same Hv H ∧ Hd g.pd Hv ∧ Dv g Hv (.ref a) (.scr xs.length) := by
  have no : NoT (fun _ => none) := fun _ _ z => by cases z
  have one : ∀ o : HO, H a = some o → (∀ ps, o ≠ .tbl ps) → Same (upd (fun _ => none) a o) H ∧ Hd g.pd (upd (fun _ => none) a o) := fun o ho ht => by
    refine ⟨fun b u e => ?_, upd_ne (fun z => by rw [← z, hp] at ho; cases ho), no.upd ht⟩
    by_cases hb : b = a
    · subst hb; rw [upd_same] at e; cases e; exact ho
    · rw [upd_ne hb] at e; cases e
  rcases h with h | h
  · rcases h with h | ⟨o, h⟩
    · have w := one _ h (fun _ z => by cases z)
      exact ⟨_, w.1, w.2, .scr (.inl (.inl upd_same))⟩
    · have w := one _ h (fun _ z => by cases z)
      exact ⟨_, w.1, w.2, .scr (.inl (.inr ⟨o, upd_same⟩))⟩
  · exact ⟨fun _ => none, (fun b o e => nomatch (show (none : Option HO) = some o from e)), ⟨rfl, no⟩, .scr (.inr h)⟩
theorem lawS_rel {g : G} {H' Hv : Hp} {a : Addr} {i k : Nat} (hN : 0 < N.length) (hi : 0 < i) (p : Pn g H' 0) (s : Same Hv H') (np : Hd g.pd Hv) (hk : Dv g Hv (.ref a) (.scr k)) : Rel g H' Hv ((L2.start N [.ref a]).set i (some (.ref g.pd))) H' Hv (((List.replicate N.length none).set 0 (some (.sh (.scr k)))).set i (some (.sh .pen))) 0 := by
  have at_i : ∀ {j : Nat} {s : Sl}, (((List.replicate N.length (none : Option Sl)).set 0 (some (.sh (.scr k)))).set i (some (.sh .pen)))[j]? = some (some s) → (j = i ∧ i < N.length ∧ s = .sh .pen) ∨ (j = 0 ∧ s = .sh (.scr k)) := fun {j s} h => by
    by_cases e : i = j
    · subst e
      have hl : i < N.length := by
        have := (List.getElem?_eq_some_iff.mp h).1
        rwa [List.length_set, List.length_set, List.length_replicate] at this
      rw [List.getElem?_set_self (by rw [List.length_set, List.length_replicate]; exact hl)] at h
      cases h
      exact .inl ⟨rfl, hl, rfl⟩
    · rw [List.getElem?_set_ne e] at h
      by_cases e0 : 0 = j
      · subst e0
        rw [List.getElem?_set_self (by rw [List.length_replicate]; exact hN)] at h
        cases h
        exact .inr ⟨rfl, rfl⟩
      · rw [List.getElem?_set_ne e0] at h
        have := List.mem_of_getElem? h
        rw [List.mem_replicate] at this
        cases this.2
  have hl : (L2.start N [V.ref a]).length = N.length := by
    unfold L2.start
    simp only [List.length_append, List.length_map, List.length_replicate, List.length_cons, List.length_nil]
    omega
  refine ⟨.refl s, p, p.pd, p.pc, np, ?_, fun j s h => ?_, fun j k s t q h1 h2 o1 _ _ _ => ?_⟩
  · rw [List.length_set, List.length_set, List.length_set, List.length_replicate, hl]
  · rcases at_i h with ⟨rfl, hi, rfl⟩ | ⟨rfl, rfl⟩
    · rw [List.getElem?_set_self (by rw [hl]; exact hi)]
      exact ⟨_, rfl, .pen⟩
    · rw [List.getElem?_set_ne (by omega)]
      refine ⟨.ref a, ?_, hk⟩
      unfold L2.start
      rfl
  · rcases at_i h1 with ⟨_, _, rfl⟩ | ⟨_, rfl⟩ <;> cases o1
theorem law_DGS {i : Nat} {t : DT} {s1 : Stmt} {rest : List Stmt} (F : Fun K x qual st f fd) (S : FnScope N ps (defScope st)) (hps : ps.length = 1) (hN : 0 < N.length) (hbd : defBody st = s1 :: rest)
    (h1 : ∀ (cdv : Value) (A : Around) (outer : List Env) (s : Shared) (H : Hp) (E : XK), Room k (A.deeper (envOfC qual (defScope st) s.heap.objs.size f cdv)) → PS (cxOf CX0 P w K mg base N qual (defScope st) f cdv A outer s H E).nox s1 (tAsg (tCl (spFeed kn.key K) (tCons (tVar 0) tNil)) (gName i)))
    (h2 : ∀ (cdv : Value) (A : Around) (outer : List Env) (s : Shared) (H : Hp) (E : XK) (Z : Zx), A.guards = some [] → Room k (A.deeper (envOfC qual (defScope st) s.heap.objs.size f cdv)) → Z.g.K = K → Z.g.mg = mg → Z.g.kn = kn → PSs (cxOf CX0 P w K mg base N qual (defScope st) f cdv A outer s H E).nox rest (liftS Z t))
    (hU : dLawS N.length i t) (hi : 0 < i := by decide) (ht : kn.tb = [] := by rfl) : FnG P w K mg base CX0 (k + 1) f fd ps (spLaw K) := by
  refine okG F S (fun vs H Q E h => ?_) (fun cdv A outer s H vs Q E gd hr h => ?_)
  · obtain ⟨a, ns, rfl, _⟩ := h
    rw [hps]; rfl
  · obtain ⟨a, ns, rfl, hs, hl, q⟩ := h
    rw [hbd]
    refine ⟨tSeq _ (fun D σ H' => ∃ Z : Zx, Z.g.K = K ∧ Z.g.mg = mg ∧ Z.g.kn = kn ∧ liftS Z t D σ H'), pss_cons (h1 cdv A outer s H E hr) ⟨fun pins s' σ H' D I ⟨Z, a1, a2, a3, a4⟩ => (h2 cdv A outer s H E Z gd hr a1 a2 a3).run pins s' σ H' D I a4⟩, ?_⟩
    refine ⟨.ref a, by unfold L2.start; rfl, a, ns, rfl, hs, hl, fun d c H' hd sm pen => ?_⟩
    obtain ⟨Hv, v1, v2, v3⟩ := scr_see (g := ⟨K, mg, d, c, kn⟩) hs hd
    rw [List.length_map] at v3
    refine ⟨⟨⟨K, mg, d, c, kn⟩, H', Hv, fun _ _ _ _ => False⟩, rfl, rfl, rfl, ?_⟩
    refine ⟨_, Hv, 0, _, lawS_rel (g := ⟨K, mg, d, c, kn⟩) hN hi ⟨pen, by show LamX.Tabs kn.tb _; rw [ht]; intro p hp; cases hp⟩ (v1.trans sm) v2 v3, hU _ hl, fun _ _ _ _ _ z => z.elim, (fun dd v H2 Hv2 n2 hd2 e2 p2 k2 => ?_), fun _ _ _ _ _ z => z.elim, fun _ _ _ _ _ z => z.elim, fun _ _ _ _ _ _ _ _ _ z => z.elim⟩
    obtain ⟨dd, rfl⟩ : ∃ d, dd = .sh d := by
      cases dd with
      | sh d => exact ⟨d, rfl⟩
      | ow _ => exact hd2.elim
      | sf _ _ _ => exact hd2.elim
      | od _ => exact hd2.elim
    have hd2 : dd = .bl true := hd2
    subst hd2
    rw [dv_bl k2]
    exact q H2
end
/-! ### constants of the module that are trees -/
mutual
def treeK (K : PySem.W.Frag) : Nat → Value → Option D
  | 0, _ => none
  | n + 1, v => match v with
    | .none => some .non
    | .bool b => some (.bl b)
    | .int i _ => some (.int i)
    | .str x _ => some (.str x)
    | .ref a => match K.lookup a with
      | some o => match o.cls, o.data with
        | .type "tuple", .seq its _ => if its.size ≤ 1000 then (treeKs K n its.toList).map .tup else none
        | _, _ => none
      | none => none
    | _ => none
def treeKs (K : PySem.W.Frag) : Nat → List Value → Option (List D)
  | 0, _ => none
  | n + 1, vs => match vs with
    | [] => some []
    | v :: r => match treeK K n v, treeKs K n r with
      | some d, some ds => some (d :: ds)
      | _, _ => none
end
theorem treeK_dv {K : PySem.W.Frag} {g : G} (hg : g.K = K) (Hv : Hp) : ∀ (n : Nat), (∀ (v : Value) (d : D), treeK K n v = some d → ∃ x : V, RelV x v ∧ Dv g Hv x d) ∧ (∀ (vs : List Value) (ds : List D), treeKs K n vs = some ds → ∃ xs : List V, Vals xs vs ∧ DvAll g Hv xs ds)
  | 0 => ⟨(fun v d h => by unfold treeK at h; cases h), (fun vs ds h => by unfold treeKs at h; cases h)⟩
  | n + 1 => by
    obtain ⟨ih1, ih2⟩ := treeK_dv hg Hv n
    refine ⟨fun v d h => ?_, fun vs ds h => ?_⟩
    · unfold treeK at h
      split at h
      · cases h; exact ⟨.non, rfl, .non⟩
      · cases h; exact ⟨.bl _, rfl, .bl _⟩
      · cases h; exact ⟨.int _, ⟨_, rfl⟩, .int _⟩
      · cases h; exact ⟨.str _, ⟨_, rfl⟩, .str _⟩
      · rename_i a
        split at h
        · rename_i o ho
          split at h
          · rename_i its k e1 e2
            split at h
            · rename_i hl
              cases e : treeKs K n its.toList with
              | none => rw [e] at h; cases h
              | some ds =>
                rw [e] at h
                cases h
                obtain ⟨xs, hx, hd⟩ := ih2 _ _ e
                refine ⟨.ref a, rfl, .tup (.inr ⟨o, its, k, hg ▸ ho, e1, e2, Nat.le_trans hl (by decide), hx⟩) hd⟩
            · cases h
          · cases h
        · cases h
      · cases h
    · unfold treeKs at h
      split at h
      · cases h; exact ⟨[], .nil, .nil⟩
      · rename_i v r
        split at h
        · rename_i d es e1 e2
          cases h
          obtain ⟨x, h1, h2⟩ := ih1 _ _ e1
          obtain ⟨xs, h3, h4⟩ := ih2 _ _ e2
          exact ⟨x :: xs, .cons h1 h3, .cons h2 h4⟩
        · cases h
/-- the module's name x is the tree d -/
def KTr (K : PySem.W.Frag) (mg : Str → Option Value) (x : Str) (d : D) : Prop := ∃ a : Addr, mg x = some (.ref a) ∧ ∀ (g : G) (Hv : Hp), g.K = K → Dv g Hv (.ref a) d
theorem ktr_of {K : PySem.W.Frag} {mg : Str → Option Value} {h : Heap} {x : Str} {a : Addr} {d : D} (KX : K.In h) (G : h.Ns mainGlobals mg) (ha : PySem.W.nsIn K mainGlobals x = some (some (.ref a))) (ht : treeK K 200 (.ref a) = some d) : KTr K mg x d :=
  ⟨a, PySem.W.mg_of KX G ha, fun g Hv hg => by
    obtain ⟨v, h1, h2⟩ := (treeK_dv hg Hv 200).1 _ _ ht
    cases v with
    | ref b =>
      have : Value.ref a = .ref b := h1
      cases this
      exact h2
    | _ => first | (obtain ⟨_, h1⟩ := h1; cases h1; done) | (cases h1; done)⟩
section
variable {X : Cx} {Z : Zx} {pos : Pos} {g : G}
theorem d_const {x : Str} {d : D} (T : KTr X.K X.mg x d) (zk : Z.g.K = X.K) (zm : Z.g.mg = X.mg) (hg : Gl X x := by rfl) (hdb : (x == ("__debug__" : Str)) = false := by decide) : PE X (.Name x pos) (lift Z (dC d)) :=
  let ⟨_, h1, h2⟩ := T
  d_c (pe_glob (v := .ref _) hg h1 rfl hdb) fun Hv => h2 Z.g Hv zk
/-! ### truths among numbers -/
def D.num : D → Option Int
  | .int i => some i
  | .bl b => some (b2i b)
  | _ => none
def gAddN : List D → Option D
  | [a, b] => match a, b with
    | .int i, .int j => some (.int (i + j))
    | .bl a, .int j => some (.int (b2i a + j))
    | _, _ => none
  | _ => none
def gSubN : List D → Option D
  | [a, b] => match a, b with
    | .int i, .int j => some (.int (i - j))
    | .bl a, .int j => some (.int (b2i a - j))
    | .int i, .bl b => some (.int (i - b2i b))
    | _, _ => none
  | _ => none
theorem op_add_bi : OpR X (binaryOp .Add) (fun x y H Q => ∃ k i, x = .bl k ∧ y = .int i ∧ Q (.int (b2i k + i)) H) := by
  intro pins s σ H x y v u Q I rx ry h
  obtain ⟨k, i, rfl, rfl, q⟩ := h
  obtain ⟨t, rfl⟩ := ry
  cases rx
  exact PySem.IntBool.add_bool_int ⟨.int (b2i k + i), H, I.tok _, ⟨_, rfl⟩, q⟩
theorem op_sub_bi : OpR X (binaryOp .Sub) (fun x y H Q => ∃ k i, x = .bl k ∧ y = .int i ∧ Q (.int (b2i k - i)) H) := by
  intro pins s σ H x y v u Q I rx ry h
  obtain ⟨k, i, rfl, rfl, q⟩ := h
  obtain ⟨t, rfl⟩ := ry
  cases rx
  exact PySem.IntBool.sub_bool_int ⟨.int (b2i k - i), H, I.tok _, ⟨_, rfl⟩, q⟩
theorem op_sub_ib : OpR X (binaryOp .Sub) (fun x y H Q => ∃ i k, x = .int i ∧ y = .bl k ∧ Q (.int (i - b2i k)) H) := by
  intro pins s σ H x y v u Q I rx ry h
  obtain ⟨i, k, rfl, rfl, q⟩ := h
  obtain ⟨t, rfl⟩ := rx
  cases ry
  exact PySem.IntBool.sub_int_bool ⟨.int (i - b2i k), H, I.tok _, ⟨_, rfl⟩, q⟩
theorem o_addN : DOp X g (binaryOp .Add) gAddN := by
  refine ⟨_, opr_or op_add op_add_bi, ?_⟩
  intro H Hv x y dx dy d Q s kx ky hf q
  unfold gAddN at hf
  simp only at hf
  split at hf
  · cases hf; cases kx; cases ky
    exact .inl ⟨_, _, rfl, rfl, q.here s (.int _)⟩
  · cases hf; cases kx; cases ky
    exact .inr ⟨_, _, rfl, rfl, q.here s (.int _)⟩
  · cases hf
theorem o_subN : DOp X g (binaryOp .Sub) gSubN := by
  refine ⟨_, opr_or op_sub (opr_or op_sub_bi op_sub_ib), ?_⟩
  intro H Hv x y dx dy d Q s kx ky hf q
  unfold gSubN at hf
  simp only at hf
  split at hf
  · cases hf; cases kx; cases ky
    exact .inl ⟨_, _, rfl, rfl, q.here s (.int _)⟩
  · cases hf; cases kx; cases ky
    exact .inr (.inl ⟨_, _, rfl, rfl, q.here s (.int _)⟩)
  · cases hf; cases kx; cases ky
    exact .inr (.inr ⟨_, _, rfl, rfl, q.here s (.int _)⟩)
  · cases hf
def blS (b : Bool) : Str := if b = true then "True" else "False"
theorem call_str_bool : CallR X (.type "str") (fun xs H Q => ∃ b, xs = [.bl b] ∧ Q (.str (blS b)) H) := by
  intro pins s σ H xs us Q I r h
  obtain ⟨b, rfl, q⟩ := h
  obtain ⟨u, rfl, rx⟩ := vals1 r
  cases rx
  exact PySem.P.str_of_bool ⟨.str _, H, I.tok _, ⟨_, rfl⟩, q⟩
theorem callr_or {v : Value} {r r' : List V → Hp → VK → Prop} (h : CallR X v r) (h' : CallR X v r') : CallR X v (fun xs H Q => r xs H Q ∨ r' xs H Q) := by
  intro pins s σ H xs us Q I rr z
  rcases z with z | z
  · exact h pins s σ H xs us Q I rr z
  · exact h' pins s σ H xs us Q I rr z
def gStrN : List D → Option D
  | [.int i] => if i.natAbs.log2 < 1920 then some (.str (toString i)) else none
  | [.bl b] => some (.str (blS b))
  | _ => none
theorem c_strN : DCl X g (.type "str") gStrN := by
  refine ⟨_, callr_or call_str_int call_str_bool, ?_⟩
  intro H Hv xs ds d Q s k hf q
  unfold gStrN at hf
  split at hf
  · split at hf
    · rename_i hl
      cases hf
      cases k with
      | cons k1 k2 =>
        cases k2
        cases k1
        exact .inl ⟨_, rfl, hl, q.here s (.str _)⟩
    · cases hf
  · cases hf
    cases k with
    | cons k1 k2 =>
      cases k2
      cases k1
      exact .inr ⟨_, rfl, q.here s (.str _)⟩
  · cases hf
/-! ### x in a row of flat things -/
def eqF : D → D → Bool
  | .non, .non => true
  | .bl a, .bl b => a == b
  | .bl a, .int b => (if a then 1 else 0) == b
  | .int a, .bl b => a == (if b then 1 else 0)
  | .int a, .int b => a == b
  | .str a, .str b => a == b
  | _, _ => false
def inF (d : D) (ds : List D) : Bool := ds.any fun y => eqF y d
def gIn : List D → Option D
  | [d, .tup ds] => if d.flat = true ∧ ds.all D.flat = true then some (.bl (inF d ds)) else none
  | [d, .lst ds] => if d.flat = true ∧ ds.all D.flat = true then some (.bl (inF d ds)) else none
  | _ => none
def gNotIn : List D → Option D
  | [d, .tup ds] => if d.flat = true ∧ ds.all D.flat = true then some (.bl (!inF d ds)) else none
  | [d, .lst ds] => if d.flat = true ∧ ds.all D.flat = true then some (.bl (!inF d ds)) else none
  | _ => none
theorem flat_dv {H : Hp} {v : V} {d : D} (h : Dv g H v d) (f : d.flat = true) : flatV v = true := by
  cases h <;> first | rfl | cases f
theorem eqF_dv {H : Hp} {v u : V} {d e : D} (h : Dv g H v d) (k : Dv g H u e) (f : d.flat = true) (f2 : e.flat = true) : eqV v u = eqF d e := by
  cases h <;> first | (cases k <;> first | rfl | cases f2) | cases f
theorem allF_dv {H : Hp} : ∀ {ds : List D} {vs : List V}, DvAll g H vs ds → ds.all D.flat = true → vs.all flatV = true
  | [], _, .nil, _ => rfl
  | d :: ds, _, .cons k ks, h => by
    rw [List.all_cons, Bool.and_eq_true] at h ⊢
    exact ⟨flat_dv k h.1, allF_dv ks h.2⟩
theorem inF_dv {H : Hp} {x : V} {d : D} (kx : Dv g H x d) (f : d.flat = true) : ∀ {ds : List D} {vs : List V}, DvAll g H vs ds → ds.all D.flat = true → inV x vs = inF d ds
  | [], _, .nil, _ => rfl
  | e :: ds, _, .cons k ks, h => by
    rw [List.all_cons, Bool.and_eq_true] at h
    have ih := inF_dv kx f ks h.2
    unfold inV inF at ih ⊢
    rw [List.any_cons, List.any_cons, ih, eqF_dv k kx h.1 f]
theorem in_at {neg : Bool} (zk : g.K = X.K) {H Hv : Hp} {x y : V} {dx dy d : D} {Q : VK} (s : Same Hv H) (kx : Dv g Hv x dx) (ky : Dv g Hv y dy) {ds : List D} (hy : dy = .tup ds ∨ dy = .lst ds) (f1 : dx.flat = true) (f2 : ds.all D.flat = true) (q : Gives g H Hv (.bl (if neg then !inF dx ds else inF dx ds)) Q) : rIn X.K neg x y H Q := by
  rcases hy with rfl | rfl
  · cases ky with
    | @tup a vs _ ha ks =>
      refine ⟨a, vs, rfl, .inr (zk ▸ same_seqT s ha), flat_dv kx f1, allF_dv ks f2, ?_⟩
      rw [inF_dv kx f1 ks f2]
      exact q.here s (.bl _)
  · cases ky with
    | @lst a vs _ ha ks =>
      refine ⟨a, vs, rfl, .inl (sqL (s _ _ ha)), flat_dv kx f1, allF_dv ks f2, ?_⟩
      rw [inF_dv kx f1 ks f2]
      exact q.here s (.bl _)
theorem o_in {u : Prop} (zk : g.K = X.K) (hu : u) : DOp X g (compareOp .In) gIn := by
  refine ⟨_, op_in_seq, ?_⟩
  intro H Hv x y dx dy d Q s kx ky hf q
  unfold gIn at hf
  split at hf
  · split at hf
    · rename_i ee hc
      cases ee
      cases hf
      exact in_at (d := .non) zk s kx ky (.inl rfl) hc.1 hc.2 q
    · cases hf
  · split at hf
    · rename_i ee hc
      cases ee
      cases hf
      exact in_at (d := .non) zk s kx ky (.inr rfl) hc.1 hc.2 q
    · cases hf
  · cases hf
theorem o_notIn {u : Prop} (zk : g.K = X.K) (hu : u) : DOp X g (compareOp .NotIn) gNotIn := by
  refine ⟨_, op_notIn_seq, ?_⟩
  intro H Hv x y dx dy d Q s kx ky hf q
  unfold gNotIn at hf
  split at hf
  · split at hf
    · rename_i ee hc
      cases ee
      cases hf
      exact in_at (d := .non) (neg := true) zk s kx ky (.inl rfl) hc.1 hc.2 q
    · cases hf
  · split at hf
    · rename_i ee hc
      cases ee
      cases hf
      exact in_at (d := .non) (neg := true) zk s kx ky (.inr rfl) hc.1 hc.2 q
    · cases hf
  · cases hf
/-! ### a list beside the empty one -/
theorem op_ne0L (hu : X.A.units < cLine) : OpR X (compareOp .NotEq) (fun x y H Q => ∃ a b xs, x = .ref a ∧ y = .ref b ∧ SqL X.K H a xs ∧ SqL X.K H b [] ∧ Q (.bl (!xs.isEmpty)) H) := by
  intro pins s σ H x y v u Q I rx ry h
  obtain ⟨a, b, xs, rfl, rfl, ha, hb, q⟩ := h
  cases rx
  cases ry
  obtain ⟨us, r1, p1, _⟩ := I.list ha
  obtain ⟨ws, r2, p2, _⟩ := I.list hb
  cases r2
  cases r1 with
  | nil => exact SeqAt.RcNeAt.lists (e := fun _ => true) p1.isList p2.isList rfl hu (fun j h1 h2 => by simp at h1) X.prog X.w X.xe _ ⟨.bl false, H, I, rfl, q⟩
  | cons _ _ => exact SeqAt.RcNeAt.lists_lengths p1.isList p2.isList (by simp) hu X.prog X.w X.xe _ ⟨.bl true, H, I, rfl, q⟩
def gNe0L : List D → Option D
  | [.lst xs, .lst []] => some (.bl (!xs.isEmpty))
  | _ => none
theorem o_ne0L (zk : g.K = X.K) (hu : X.A.units + 64 < cLine) : DOp X g (compareOp .NotEq) gNe0L := by
  refine ⟨_, op_ne0L (by omega), ?_⟩
  intro H Hv x y dx dy d Q s kx ky hf q
  unfold gNe0L at hf
  split at hf
  · rename_i xs ee
    cases ee
    cases hf
    cases kx with
    | lst ha ks =>
      cases ky with
      | lst hb ks2 =>
        cases ks2
        refine ⟨_, _, _, rfl, rfl, sqL (s _ _ ha), sqL (s _ _ hb), ?_⟩
        have e : ∀ {vs : List V} {ds : List D}, DvAll g Hv vs ds → vs.isEmpty = ds.isEmpty := fun k => by cases k <;> rfl
        rw [e ks]
        exact q.here s (.bl _)
  · cases hf
end
end Dn

/-! Values as trees: reasoning about dicts, texts, trees of all kinds. -/
namespace Dn
open PySem PySem.Spec PyProof.Rows L2 Br
theorem y_isInt6 (ks : List (Key × D)) : isInt (.dct ks) = some false := rfl
theorem y_isBool6 (ks : List (Key × D)) : isBool (.dct ks) = some false := rfl
theorem y_isStr6 (ks : List (Key × D)) : isStr (.dct ks) = some false := rfl
theorem y_isTuple6 (ks : List (Key × D)) : isTuple (.dct ks) = some false := rfl
theorem y_isList6 (ks : List (Key × D)) : isList (.dct ks) = some false := rfl
theorem y_isSeq6 (ks : List (Key × D)) : isSeq (.dct ks) = some false := rfl
theorem y_len4 (n : Nat) : gLen [.scr n] = some (.int n) := rfl
theorem y_inS (c : Nat) (z : Str) : gInS [.str ⟨#[c]⟩, .str z] = some (.bl (decide (c ∈ z.cps.toList))) := rfl
theorem y_notInS (c : Nat) (z : Str) : gNotInS [.str ⟨#[c]⟩, .str z] = some (.bl (!decide (c ∈ z.cps.toList))) := rfl
theorem y_in1 (d : D) (ds : List D) : gIn [d, .tup ds] = if d.flat = true ∧ ds.all D.flat = true then some (.bl (inF d ds)) else none := rfl
theorem y_in2 (d : D) (ds : List D) : gIn [d, .lst ds] = if d.flat = true ∧ ds.all D.flat = true then some (.bl (inF d ds)) else none := rfl
theorem y_ne0 (xs : List D) : gNe0 [.tup xs, .tup []] = some (.bl (!xs.isEmpty)) := rfl
theorem y_ne0L (xs : List D) : gNe0L [.lst xs, .lst []] = some (.bl (!xs.isEmpty)) := rfl
theorem y_eq0 (xs : List D) : gEq0 [.lst xs, .lst []] = some (.bl xs.isEmpty) := rfl
theorem y_isB (a b : Bool) : gIsB [.bl a, .bl b] = some (.bl (a == b)) := rfl
theorem y_isNotB (a b : Bool) : gIsNotB [.bl a, .bl b] = some (.bl (!(a == b))) := rfl
theorem y_revS (z : Str) : gRevS [.str z] = if z.length ≤ sizeLine then some (.str (revS z)) else none := rfl
theorem y_addN1 (i j : Int) : gAddN [.int i, .int j] = some (.int (i + j)) := rfl
theorem y_addN2 (a : Bool) (j : Int) : gAddN [.bl a, .int j] = some (.int (b2i a + j)) := rfl
theorem y_subN1 (i j : Int) : gSubN [.int i, .int j] = some (.int (i - j)) := rfl
theorem y_subN2 (a : Bool) (j : Int) : gSubN [.bl a, .int j] = some (.int (b2i a - j)) := rfl
theorem y_subN3 (i : Int) (b : Bool) : gSubN [.int i, .bl b] = some (.int (i - b2i b)) := rfl
theorem y_strN1 (i : Int) : gStrN [.int i] = if i.natAbs.log2 < 1920 then some (.str (toString i)) else none := rfl
theorem y_strN2 (b : Bool) : gStrN [.bl b] = some (.str (blS b)) := rfl
theorem y_zipS (x y : Str) : gZipS [.str x, .str y] = some (zipD (signs x) (signs y)) := rfl
theorem y_dget (ks : List (Key × D)) (d : D) : gDGet [.dct ks, d] = match dKey d with | some k => valD ks k | none => none := rfl
theorem y_dnotin (ks : List (Key × D)) (d : D) : gDNotIn [d, .dct ks] = (dKey d).map fun k => .bl !(valD ks k).isSome := rfl
theorem y_din (ks : List (Key × D)) (d : D) : gDIn [d, .dct ks] = (dKey d).map fun k => .bl (valD ks k).isSome := rfl
theorem y_key1 (i : Int) : dKey (.int i) = some (.inl i) := rfl
theorem y_key2 (x : Str) : dKey (.str x) = some (.inr x) := rfl
theorem eqD_bl' (a b : Bool) : eqD (.bl a) (.bl b) = some (a == b) := by cases a <;> cases b <;> decide +kernel
/-- a comprehension of a plain function, with a plain test -/
theorem lc_filter {tg : Tg} {t e : DE} {δ : DS} (p : D → Bool) (f : D → D) : ∀ {xs : List D} {n : Nat} {P : List D → Nat → Prop},
    (∀ x ∈ xs, ∃ δ', dTg tg x δ = some δ' ∧ (∀ (n : Nat) (Q : D → Nat → Prop), Q (.bl (p x)) n → t δ' n Q (fun _ _ _ => False)) ∧ ∀ (n : Nat) (Q : D → Nat → Prop), p x = true → Q (f x) n → e δ' n Q (fun _ _ _ => False)) → P ((xs.filter p).map f) n → lcGo tg t e δ xs n P
  | [], _, _, _, h => h
  | x :: xs, n, P, hs, h => by
    obtain ⟨δ', h1, h2, h3⟩ := hs x (by simp)
    refine ⟨δ', h1, h2 _ _ ⟨p x, rfl, ?_⟩⟩
    cases q : p x with
    | true =>
      rw [if_pos rfl]
      refine h3 _ _ q (lc_filter p f (fun y hy => hs y (by simp [hy])) ?_)
      rw [List.filter_cons_of_pos q, List.map_cons] at h
      exact h
    | false =>
      rw [if_neg Bool.false_ne_true]
      refine lc_filter p f (fun y hy => hs y (by simp [hy])) ?_
      rw [List.filter_cons_of_neg (by rw [q]; exact Bool.false_ne_true)] at h
      exact h
/-- a dict of plain functions of what is gone through -/
theorem dc_pure {tg : Tg} {k v : DE} {δ : DS} (fk : D → Key) (fv : D → D) : ∀ {xs : List D} {acc : List (Key × D)} {n : Nat} {P : List (Key × D) → Nat → Prop},
    (∀ x ∈ xs, ∃ δ', dTg tg x δ = some δ' ∧ (∀ (n : Nat) (Q : D → Nat → Prop), (∀ d, dKey d = some (fk x) → Q d n) → k δ' n Q (fun _ _ _ => False)) ∧ ∀ (n : Nat) (Q : D → Nat → Prop), Q (fv x) n → v δ' n Q (fun _ _ _ => False)) →
    P (xs.foldl (fun acc x => putKD acc (fk x) (fv x)) acc) n → dcGo tg (dC (.bl true)) k v δ xs acc n P
  | [], _, _, _, _, h => h
  | x :: xs, acc, n, P, hs, h => by
    obtain ⟨δ', h1, h2, h3⟩ := hs x (by simp)
    refine ⟨δ', h1, true, rfl, ?_⟩
    rw [if_pos rfl]
    refine h2 _ _ fun d hd => ?_
    exact h3 _ _ ⟨fk x, hd, dc_pure fk fv (fun y hy => hs y (by simp [hy])) h⟩
theorem all_cons' {α : Type} {P : α → Prop} {x : α} {xs : List α} (h : P x) (k : ∀ y ∈ xs, P y) : ∀ y ∈ x :: xs, P y := fun y hy => by
  rcases List.mem_cons.mp hy with e | e
  · rw [e]; exact h
  · exact k y e
theorem all_nil' {α : Type} {P : α → Prop} : ∀ y ∈ ([] : List α), P y := fun y hy => by cases hy
end Dn
/-! ### trees of all kinds without objects: their weight, their depth; what is shown of them -/
namespace Tr
open PySem PySem.Spec PyProof.Rows L2 Br Dn
mutual
def wt : D → Nat
  | .lst xs => 5 + wtA xs
  | .tup xs => 5 + wtA xs
  | _ => 10000
def wtA : List D → Nat
  | [] => 0
  | x :: xs => wt x + 2 + wtA xs
end
theorem wt_lst (xs : List D) : wt (.lst xs) = 5 + wtA xs := by unfold wt; rfl
theorem wt_tup (xs : List D) : wt (.tup xs) = 5 + wtA xs := by unfold wt; rfl
theorem wtA_nil : wtA [] = 0 := by unfold wtA; rfl
theorem wtA_cons (x : D) (xs : List D) : wtA (x :: xs) = wt x + 2 + wtA xs := by rw [wtA]
theorem wtA_app : ∀ xs ys : List D, wtA (xs ++ ys) = wtA xs + wtA ys
  | [], ys => by rw [wtA_nil]; simp
  | x :: xs, ys => by rw [List.cons_append, wtA_cons, wtA_cons, wtA_app xs ys]; omega
theorem wtA_len : ∀ xs : List D, xs.length ≤ wtA xs
  | [] => Nat.zero_le _
  | x :: xs => by
    have := wtA_len xs
    rw [wtA_cons, List.length_cons]
    omega
theorem wtA_rev : ∀ xs : List D, wtA xs.reverse = wtA xs
  | [] => rfl
  | x :: xs => by rw [List.reverse_cons, wtA_app, wtA_rev xs, wtA_cons, wtA_cons, wtA_nil]; omega
theorem wtA_all {k : Nat} : ∀ xs : List D, (∀ x ∈ xs, wt x ≤ k) → wtA xs ≤ xs.length * (k + 2)
  | [], _ => by rw [wtA_nil]; omega
  | x :: xs, h => by
    have h1 := h x (by simp)
    have h2 := wtA_all xs fun y hy => h y (by simp [hy])
    rw [wtA_cons, List.length_cons, Nat.succ_mul]
    omega
theorem wt_mem {x : D} : ∀ {xs : List D}, x ∈ xs → wt x + 2 ≤ wtA xs
  | y :: ys, h => by
    rw [wtA_cons]
    rcases List.mem_cons.mp h with e | e
    · rw [e]; omega
    · have := wt_mem e
      omega
theorem wtA_take (xs : List D) (n : Nat) : wtA (xs.take n) ≤ wtA xs := by
  have := wtA_app (xs.take n) (xs.drop n)
  rw [List.take_append_drop] at this
  omega
theorem wtA_drop (xs : List D) (n : Nat) : wtA (xs.drop n) ≤ wtA xs := by
  have := wtA_app (xs.take n) (xs.drop n)
  rw [List.take_append_drop] at this
  omega
theorem wtA_cut (xs : List D) (lo hi : Option Int) : wtA (cut xs lo hi) ≤ wtA xs := by
  unfold cut
  exact Nat.le_trans (wtA_take _ _) (wtA_drop _ _)
theorem cut_mem {α : Type} {xs : List α} {lo hi : Option Int} {x : α} (h : x ∈ cut xs lo hi) : x ∈ xs := by
  unfold cut at h
  exact List.mem_of_mem_drop (List.mem_of_mem_take h)
/-- plain signs alone -/
def Asc (x : Str) : Prop := ∀ c ∈ x.cps.toList, c < 128
theorem Asc.ok {x : Str} (h : Asc x) : PyData.strOk x = true := by
  show x.cps.all (· < 0x110000) = true
  rw [← Array.all_toList, List.all_eq_true]
  intro c hc
  have := h c hc
  exact decide_eq_true (by omega)
theorem asc_int (i : Int) : Asc (Str.ofString (toString i)) := fun c hc => by
  by_cases h : c < 128
  · exact h
  · exact absurd hc (int_text_free' c ⟨by omega, by omega⟩ i)
theorem asc_app {x y : Str} (hx : Asc x) (hy : Asc y) : Asc (x ++ y) := fun c hc => by
  have e : (x ++ y).cps.toList = x.cps.toList ++ y.cps.toList := by
    show (x.cps ++ y.cps).toList = _
    simp
  rw [e] at hc
  rcases List.mem_append.mp hc with h | h
  · exact hx c h
  · exact hy c h
theorem asc_cut {x : Str} (hx : Asc x) (lo hi : Option Int) : Asc (cutS x lo hi) ∧ (cutS x lo hi).length ≤ x.length := by
  refine ⟨fun c hc => hx c ?_, ?_⟩
  · have h : c ∈ ((x.cps.toList.drop (HT.sIx x.length 0 lo)).take (HT.sIx x.length x.length hi - HT.sIx x.length 0 lo)).toArray.toList := hc
    rw [List.toList_toArray] at h
    exact List.mem_of_mem_drop (List.mem_of_mem_take h)
  · show ((x.cps.toList.drop (HT.sIx x.length 0 lo)).take (HT.sIx x.length x.length hi - HT.sIx x.length 0 lo)).toArray.size ≤ x.cps.size
    rw [List.size_toArray, List.length_take, List.length_drop, Array.length_toList]
    omega
theorem asc_rev {x : Str} (hx : Asc x) : Asc (revS x) ∧ (revS x).length = x.length := by
  refine ⟨fun c hc => hx c ?_, ?_⟩
  · have : c ∈ x.cps.toList.reverse.toArray.toList := hc
    rw [List.toList_toArray] at this
    exact List.mem_reverse.mp this
  · show x.cps.toList.reverse.toArray.size = x.cps.size
    simp
theorem asc_upper {x : Str} (hx : Asc x) : Asc (Txt.upper x) ∧ (Txt.upper x).length = x.length := by
  rw [upper_ascii hx]
  refine ⟨fun c hc => ?_, ?_⟩
  · have h : c ∈ (x.cps.map up1).toList := hc
    rw [Array.toList_map] at h
    obtain ⟨a, ha, rfl⟩ := List.mem_map.mp h
    have := hx a ha
    unfold up1
    split <;> omega
  · show (x.cps.map up1).size = x.cps.size
    simp
theorem asc_bl (b : Bool) : Asc (blS b) ∧ (blS b).length ≤ 5 := by cases b <;> (unfold Asc; decide +kernel)
def Leaf (c : Nat) (m : Int) (d : D) : Prop := d = .non ∨ (∃ b, d = .bl b) ∨ (∃ i : Int, d = .int i ∧ -m ≤ i ∧ i ≤ m) ∨ (∃ x : Str, d = .str x ∧ x.length ≤ c ∧ Asc x) ∨ d = .dct []
def OkT (c : Nat) (m : Int) : Nat → D → Prop
  | 0, d => Leaf c m d
  | j + 1, d => Leaf c m d ∨ ∃ xs, (d = .lst xs ∨ d = .tup xs) ∧ ∀ x ∈ xs, OkT c m j x
variable {c c' : Nat} {m m' : Int} {j : Nat} {d : D} {xs : List D}
theorem Leaf.mono (h : Leaf c m d) (hc : c ≤ c') (hm : m ≤ m') : Leaf c' m' d := by
  rcases h with h | h | ⟨i, h, h1, h2⟩ | ⟨x, h, h1, h2⟩ | h
  · exact .inl h
  · exact .inr (.inl h)
  · exact .inr (.inr (.inl ⟨i, h, by omega, by omega⟩))
  · exact .inr (.inr (.inr (.inl ⟨x, h, by omega, h2⟩)))
  · exact .inr (.inr (.inr (.inr h)))
theorem OkT.mono (hc : c ≤ c') (hm : m ≤ m') : ∀ {j j' : Nat} {d : D}, OkT c m j d → j ≤ j' → OkT c' m' j' d
  | 0, 0, d, h, _ => Leaf.mono h hc hm
  | 0, j' + 1, d, h, _ => .inl (Leaf.mono h hc hm)
  | j + 1, j' + 1, d, h, hj => by
    rcases h with h | ⟨xs, h, hx⟩
    · exact .inl (h.mono hc hm)
    · exact .inr ⟨xs, h, fun x hx' => OkT.mono hc hm (hx x hx') (by omega)⟩
theorem OkT.leaf (h : Leaf c m d) : OkT c m j d := by
  cases j with
  | zero => exact h
  | succ j => exact .inl h
theorem OkT.lst (h : ∀ x ∈ xs, OkT c m j x) : OkT c m (j + 1) (.lst xs) := .inr ⟨xs, .inl rfl, h⟩
theorem OkT.tup (h : ∀ x ∈ xs, OkT c m j x) : OkT c m (j + 1) (.tup xs) := .inr ⟨xs, .inr rfl, h⟩
theorem OkT.ofLst (h : OkT c m (j + 1) (.lst xs)) : ∀ x ∈ xs, OkT c m j x := by
  rcases h with h | ⟨ys, h, hx⟩
  · rcases h with h | ⟨_, h⟩ | ⟨_, h, _⟩ | ⟨_, h, _⟩ | h <;> cases h
  · rcases h with h | h
    · cases h; exact hx
    · cases h
theorem OkT.ofTup (h : OkT c m (j + 1) (.tup xs)) : ∀ x ∈ xs, OkT c m j x := by
  rcases h with h | ⟨ys, h, hx⟩
  · rcases h with h | ⟨_, h⟩ | ⟨_, h, _⟩ | ⟨_, h, _⟩ | h <;> cases h
  · rcases h with h | h
    · cases h
    · cases h; exact hx
/-- a row's things, whatever the depth -/
theorem OkT.ofTup' (h : OkT c m j (.tup xs)) : ∀ x ∈ xs, OkT c m j x := by
  cases j with
  | zero => rcases h with h | ⟨_, h⟩ | ⟨_, h, _⟩ | ⟨_, h, _⟩ | h <;> cases h
  | succ j => exact fun x hx => (h.ofTup x hx).mono (Nat.le_refl _) (Int.le_refl _) (by omega)
theorem Leaf.int {i : Int} (h1 : -m ≤ i) (h2 : i ≤ m) : Leaf c m (.int i) := .inr (.inr (.inl ⟨i, rfl, h1, h2⟩))
theorem Leaf.bl (b : Bool) : Leaf c m (.bl b) := .inr (.inl ⟨b, rfl⟩)
theorem Leaf.non : Leaf c m .non := .inl rfl
theorem Leaf.dct : Leaf c m (.dct []) := .inr (.inr (.inr (.inr rfl)))
theorem Leaf.str {x : Str} (h : x.length ≤ c) (h2 : Asc x) : Leaf c m (.str x) := .inr (.inr (.inr (.inl ⟨x, rfl, h, h2⟩)))
theorem Leaf.wt (h : Leaf c m d) : wt d = 10000 := by
  rcases h with rfl | ⟨_, rfl⟩ | ⟨_, rfl, _⟩ | ⟨_, rfl, _⟩ | rfl <;> (unfold Tr.wt; rfl)
/-- a tree that is no object, no error, no pen -/
def Pl : D → Prop
  | .obj _ _ => False
  | .exc _ _ => False
  | .pen => False
  | .scr _ => False
  | .fn _ _ _ => False
  | _ => True
theorem OkT.pl (h : OkT c m j d) : Pl d := by
  cases j with
  | zero => rcases h with rfl | ⟨_, rfl⟩ | ⟨_, rfl, _⟩ | ⟨_, rfl, _⟩ | rfl <;> trivial
  | succ j =>
    rcases h with h | ⟨xs, rfl | rfl, hx⟩
    · rcases h with rfl | ⟨_, rfl⟩ | ⟨_, rfl, _⟩ | ⟨_, rfl, _⟩ | rfl <;> trivial
    · trivial
    · trivial
theorem OkT.ofInt {i : Int} (h : OkT c m j (.int i)) : -m ≤ i ∧ i ≤ m := by
  have lf : Leaf c m (.int i) := by
    cases j with
    | zero => exact h
    | succ j =>
      rcases h with h | ⟨xs, h | h, _⟩
      · exact h
      · cases h
      · cases h
  rcases lf with h | ⟨_, h⟩ | ⟨_, h, h1⟩ | ⟨_, h, _⟩ | h <;> cases h
  exact h1
theorem OkT.ofStr {x : Str} (h : OkT c m j (.str x)) : x.length ≤ c ∧ Asc x := by
  have lf : Leaf c m (.str x) := by
    cases j with
    | zero => exact h
    | succ j =>
      rcases h with h | ⟨xs, h | h, _⟩
      · exact h
      · cases h
      · cases h
  rcases lf with h | ⟨_, h⟩ | ⟨_, h, h1⟩ | ⟨_, h, h1⟩ | h <;> cases h
  exact h1
theorem sh_leaf (hc : c ≤ 900) (hm : m ≤ 10 ^ 250) (h : Leaf c m d) : ∃ p : PyData, d.pd = some p ∧ p.showable = true ∧ p.depth ≤ 1 ∧ p.shown.length ≤ wt d := by
  have hw := h.wt
  rw [hw]
  rcases h with rfl | ⟨b, rfl⟩ | ⟨i, rfl, h1, h2⟩ | ⟨x, rfl, h1, h2⟩ | rfl
  · exact ⟨_, rfl, rfl, by decide, by decide +kernel⟩
  · refine ⟨_, rfl, rfl, Nat.zero_le _, Nat.le_trans (Br.Shw.bl b).ln ?_⟩
    decide
  · have h' : i.natAbs < 10 ^ 251 := by
      have e : (10 : Int) ^ 250 = ((10 ^ 250 : Nat) : Int) := by norm_cast
      have e2 : (10 : Nat) ^ 250 < 10 ^ 251 := by decide +kernel
      generalize (10 : Int) ^ 250 = a at *
      generalize (10 : Nat) ^ 250 = b at *
      generalize (10 : Nat) ^ 251 = b' at *
      omega
    refine ⟨_, rfl, (Br.Shw.int (i := i) (Nat.lt_of_lt_of_le h' (Nat.pow_le_pow_right (by decide) (by decide)))).sh, Nat.zero_le _, ?_⟩
    show (Str.ofString (toString i)).length ≤ 10000
    have := int_text_length_le10 (a := i) (k := 251) (by decide) h'
    rw [Br.ofString_len]
    omega
  · refine ⟨_, rfl, rfl, Nat.zero_le _, Nat.le_trans (Br.Shw.str h2.ok).ln ?_⟩
    omega
  · exact ⟨_, rfl, rfl, by decide, by decide +kernel⟩
theorem sh_all (IH : ∀ d, OkT c m j d → ∃ p : PyData, d.pd = some p ∧ p.showable = true ∧ p.depth ≤ j + 1 ∧ p.shown.length ≤ wt d) : ∀ xs : List D, (∀ x ∈ xs, OkT c m j x) → ∃ ps, D.pdAll xs = some ps ∧ PyData.showableAll ps = true ∧ PyData.depthAll ps ≤ j + 1 ∧ piled (PyData.shownAll ps) ≤ wtA xs
  | [], _ => ⟨[], rfl, rfl, Nat.zero_le _, Nat.zero_le _⟩
  | x :: xs, h => by
    obtain ⟨p, e1, s1, d1, l1⟩ := IH x (h x (by simp))
    obtain ⟨ps, e2, s2, d2, l2⟩ := sh_all IH xs fun y hy => h y (by simp [hy])
    refine ⟨p :: ps, ?_, ?_, ?_, ?_⟩
    · unfold D.pdAll
      rw [e1, e2]
    · show (p.showable && PyData.showableAll ps) = true
      rw [s1, s2]; rfl
    · show max p.depth (PyData.depthAll ps) ≤ j + 1
      exact Nat.max_le.mpr ⟨d1, d2⟩
    · show piled (p.shown :: PyData.shownAll ps) ≤ wtA (x :: xs)
      rw [piled_cons, wtA_cons]
      omega
theorem sh_of (hc : c ≤ 900) (hm : m ≤ 10 ^ 250) : ∀ (j : Nat) (d : D), OkT c m j d → ∃ p : PyData, d.pd = some p ∧ p.showable = true ∧ p.depth ≤ j + 1 ∧ p.shown.length ≤ wt d
  | 0, d, h => sh_leaf hc hm h
  | j + 1, d, h => by
    rcases h with h | ⟨xs, e, hx⟩
    · obtain ⟨p, a, b, c, e⟩ := sh_leaf hc hm h
      exact ⟨p, a, b, by omega, e⟩
    · obtain ⟨ps, e2, s2, d2, l2⟩ := sh_all (sh_of hc hm j) xs hx
      rcases e with rfl | rfl
      · refine ⟨.list ps, ?_, s2, Nat.succ_le_succ d2, ?_⟩
        · unfold D.pd
          rw [e2]; rfl
        · show (listText (PyData.shownAll ps)).length ≤ _
          have h1 := Br.listText_le (PyData.shownAll ps)
          rw [wt_lst]
          omega
      · refine ⟨.tuple ps, ?_, s2, Nat.succ_le_succ d2, ?_⟩
        · unfold D.pd
          rw [e2]; rfl
        · show (tupleText (PyData.shownAll ps)).length ≤ _
          have h1 := Br.tupleText_le (PyData.shownAll ps)
          rw [wt_tup]
          omega
theorem repr_ok (hc : c ≤ 900) (hm : m ≤ 10 ^ 250) (hj : j ≤ 50) (h : OkT c m j d) (hw : wt d ≤ 10000000) : ∃ t : Str, gReprA [d] = some (.str t) := by
  obtain ⟨p, e1, s1, d1, l1⟩ := sh_of hc hm j d h
  refine ⟨p.shown, ?_⟩
  show (match d.pd with | some p => if p.showable = true ∧ p.depth ≤ 60 ∧ p.shown.length ≤ sizeLine then some (D.str p.shown) else none | none => none) = _
  rw [e1]
  exact if_pos ⟨s1, by omega, by rw [sizeLine_eq]; omega⟩
end Tr

/-! Values as trees: lambdas handed to defs; keyword-only parameters. -/
namespace Dn
open PySem PySem.Spec PyProof.Rows L2 Br LamX
/-! ### a lambda's call, told at the caller's own locals -/
abbrev lamO (X : Cx) (params : Arguments) (body : Expr) (scope : Scope) (pm : Value) (c : Addr) (ct : Value) : Obj :=
  PySem.W.kla_obj "<lambda>" (X.env.qual ++ "<lambda>") params body scope (cloFrom X.env.cells scope.names []) pm c ct
abbrev lamF (X : Cx) (params : Arguments) (body : Expr) (scope : Scope) (pm : Value) (c : Addr) (ct : Value) : FuncData :=
  PySem.W.kla_fn "<lambda>" (X.env.qual ++ "<lambda>") params body scope (cloFrom X.env.cells scope.names []) pm (.ref c) ct
/-- the context of the def that got it -/
abbrev gCx (X : Cx) (Ng : List Str) (qg : Str) (sg : Scope) (g : Addr) (cdg : Value) (s : Shared) (H : Hp) : Cx := cxOf CX0 X.prog X.w X.K X.mg X.base Ng qg sg g cdg X.A X.stack s H E0
/-- what the making of a lambda does to the known heap: nothing, or its table has one more row, and a code object is new -/
def Made (H H1 : Hp) (P : Addr) (c : Addr) (q : Str) : Prop := H1 = H ∨ ∃ ps qs, H P = some (.tbl ps) ∧ H c = none ∧ H1 = upd (upd H P (.tbl qs)) c (CodeO c q)
theorem lam_makeP {X : Cx} {pins : List (Addr × Obj)} {σ : L2.St} {H : Hp} {s : Shared} {T : List (Addr × Str)} {cm P : Addr} {params : Arguments} {body : Expr} {scope : Scope} {pos : Pos} {E : Value → Shared → Prop} {Q : Value → Shared → Prop}
    (I : Inv X pins σ H s) (TB : TabB X.base X.mg cm P) (hcode : X.env.code = .ref cm) (hm : (P, X.env.qual ++ "<lambda>") ∈ T) (hu : ∀ p ∈ T, p.1 = P → p.2 = X.env.qual ++ "<lambda>") (hT : Tabs T H)
    (hdef : defaultsOf params X.env = ([], [])) (hfree : ∀ y ∈ scope.names, y.2 = .free → ∃ c, X.env.cells.lookup y.1 = some c)
    (h : ∀ (f c : Addr) (pm ct : Value) (H1 : Hp) (s' : Shared), Inv X pins σ H1 s' → Made H H1 P c (X.env.qual ++ "<lambda>") → Tabs T H1 → s'.heap.get? f = some (lamO X params body scope pm c ct) → H1 f = none → f ∉ frs X.stack → H1 c = some (CodeO c (X.env.qual ++ "<lambda>")) → Q (.ref f) s') :
    wpAny (model X.prog X.w) X.A (eval (.Lambda params body scope pos) X.env) Q E s := by
  obtain ⟨ps, hP, ht, ha⟩ := hT _ hm
  apply PySem.W.kla_eval hdef
  have bP := TB.bm.keeps I.bk
  have gP : s.heap.get? P = some { cls := .none, data := .fields ps } := I.hok P _ hP
  have nofr : ∀ f, s.heap.objs.size ≤ f → f ∉ frs X.stack := by
    intro f hf z
    rcases List.mem_cons.mp (I.stkSub _ z) with e | e
    · have z1 : X.env.locals < s.heap.objs.size := I.lt
      rw [← e] at z1
      exact absurd z1 (Nat.not_lt.mpr hf)
    · exact I.nofs hf e
  cases hc : codeAmong pos ps.toList with
  | some cv =>
    obtain ⟨c, rfl, hco⟩ := ha pos cv hc
    refine PySem.W.kla_makeFunctionHit (mg := X.mg) (c := cm) (P := P) (ps := ps) (closure_ok hfree) I.ok.glob (I.mod.glob.keeps I.bk) hcode (TB.code.keeps I.bk) gP ht hc bP ?_
    intro ct h' tk hx hsz
    have I1 := I.kept (h' := h'.push (lamO X params body scope ((X.mg "__name__").getD .none) c ct)) (t' := tk) (fun b o e => Heap.get?_push_of_some _ (hx b o e))
    exact h _ c _ ct H _ I1 (.inl rfl) hT (Heap.get?_push_size _ rfl) (I.hok.fresh hsz) (nofr _ hsz) hco
  | none =>
    refine PySem.W.kla_makeFunction (mg := X.mg) (c := cm) (P := P) (ps := ps) (closure_ok hfree) I.ok.glob (I.mod.glob.keeps I.bk) hcode (TB.code.keeps I.bk) gP ht hc TB.gP bP ?_
    rintro c ct h' tk hx hge hlt ⟨c', oc, vs, t, ec, ho1, ho2, ho3⟩ htb
    cases ec
    have nC : H c = none := I.hok.fresh hge
    have hsz : s.heap.objs.size ≤ h'.objs.size := Nat.le_trans hge (Nat.le_of_lt hlt)
    let qs := ps ++ #[rawInt pos.line, rawInt pos.col, .ref c]
    have I1 := inv_table (t' := tk) (more := #[rawInt pos.line, rawInt pos.col, .ref c]) (h' := h'.push (lamO X params body scope ((X.mg "__name__").getD .none) c ct)) (q := X.env.qual ++ "<lambda>") I hP
      (fun b o hb e => Heap.get?_push_of_some _ (hx b o hb e)) (Heap.get?_push_of_some _ htb) hge ⟨oc, vs, t, Heap.get?_push_of_some _ ho1, ho2, ho3⟩
    have eL : qs.toList = ps.toList ++ [rawInt pos.line, rawInt pos.col, .ref c] := by simp [qs]
    have nPc : P ≠ c := ne_of_none hP nC
    have keep : ∀ {b : Addr} {o : HO}, H b = some o → b ≠ P → upd (upd H P (.tbl qs)) c (CodeO c (X.env.qual ++ "<lambda>")) b = some o := fun {b o} e hb => by
      rw [upd_ne (ne_of_none e nC), upd_ne hb]; exact e
    have cne : ∀ {b : Addr} {q : Str}, H b = some (CodeO b q) → b ≠ P := fun {b q} e z => by
      rw [z, hP] at e
      exact codeO_ne ps (Option.some.inj e).symm
    refine h h'.objs.size c _ ct _ _ I1 (.inr ⟨ps, qs, hP, nC, rfl⟩) ?_ (Heap.get?_push_size _ rfl) ?_ (nofr _ hsz) upd_same
    · intro p hp
      by_cases hb : p.1 = P
      · rw [hu p hp hb, hb]
        refine ⟨qs, by rw [upd_ne nPc, upd_same], by rw [eL]; exact PySem.TriplesOk_snoc _ _ _ _ ht, ?_⟩
        intro p' cv hcv
        rw [eL] at hcv
        rcases among_app _ ht hcv with z | z
        · obtain ⟨c0, e1, e2⟩ := ha p' cv z
          exact ⟨c0, e1, keep e2 (cne e2)⟩
        · exact ⟨c, z, upd_same⟩
      · obtain ⟨ps', a1, a2, a3⟩ := hT p hp
        refine ⟨ps', keep a1 hb, a2, ?_⟩
        intro p' cv hcv
        obtain ⟨c0, e1, e2⟩ := a3 p' cv hcv
        exact ⟨c0, e1, keep e2 (cne e2)⟩
    · have n1 : h'.objs.size ≠ _ := Nat.ne_of_gt hlt
      have n2 : h'.objs.size ≠ P := Nat.ne_of_gt (Nat.lt_of_lt_of_le (Heap.lt_size gP) hsz)
      rw [upd_ne n1, upd_ne n2]
      exact I.hok.fresh hsz
theorem pe_actS {X : Cx} {pins : List (Addr × Obj)} {σ : L2.St} {H : Hp} {s : Shared} {Ng : List Str} {qg a : Str} {sg scope : Scope} {g f c : Addr} {cdg pm ct : Value} {params : Arguments} {body : Expr} {k i : Nat}
    {pn : List (Addr × Obj)} {xe : Value → Shared → Prop} {W : WX} {t : XK → TE} {p1 p2 : Pos}
    (I : Inv X pins σ H s) (LS : LamS X.env.scope scope) (hf : s.heap.get? f = some (lamO X params body scope pm c ct)) (hfn : H f = none) (hfr : f ∉ frs X.stack)
    (hbind : bindArgs (lamF X params body scope pm c ct) ⟨[], []⟩ = pure [])
    (tk : Takes ((gCx X Ng qg sg g cdg s H).tr pn xe) W) (hr : Room (k + 1) (X.A.deeper (envOfC qg sg s.heap.objs.size g cdg)))
    (hbody : ∀ (E : XK) (A : Around) (outer : List Env) (s : Shared) (H : Hp), Room k (A.deeper (lamEnv X scope s.heap.objs.size f c)) → PE (lamCx X A outer s H E scope f c) body (t E))
    (hN : Ng[i]? = some a) (hv : Vis sg a) (hd : (a == ("__debug__" : Str)) = false := by decide) (hcd : (a == ("__classdict__" : Str)) = false := by decide) :
    PE ((gCx X Ng qg sg g cdg s H).tr pn xe) (.Call (.Name a p1) [] [] p2) (fun σZ HZ Q => σZ[i]? = some (some (.ref f)) ∧ HZ c = some (CodeO c (X.env.qual ++ "<lambda>")) ∧ t (WE W σZ) σ HZ Q) := by
  constructor
  rintro pz sz σz Hz Q Iz ⟨h0, hc, ht⟩
  have var := (pe_var (X := (gCx X Ng qg sg g cdg s H).tr pn xe) (pos := p1) (i := i) hN hv hd hcd).run pz sz σz Hz (fun v H1 => v = .ref f ∧ H1 = Hz) Iz ⟨.ref f, h0, rfl, rfl⟩
  refine wpAny_Call_Name_kw (thn var ?_)
  rintro u s1 ⟨v, H1, I1, r1, e1, e2⟩
  subst e1
  rw [e2] at I1
  obtain rfl : u = Value.ref f := r1
  have ob : s1.heap.get? f = some (lamO X params body scope pm c ct) := by
    refine I1.base.keep f _ hf hfn hfr ?_
    intro z
    exact nomatch (show f ∈ ([] : List Addr) from z)
  refine PySem.W.callWith_F0 ⟨_, _, _, _, ob⟩ ?_
  obtain ⟨⟨oc, vs, tt, c1, c2, c3⟩, _, _⟩ := I1.hok c _ hc
  let eg := envOfC qg sg s.heap.objs.size g cdg
  have go : codeAny (model X.prog X.w) (X.A.deeper eg) (.call (.ref f) ⟨[], []⟩) (CR (L2.CX X.prog X.w) (eg :: X.stack) X.prog X.w Hz s1 Q (WE W σz)) s1 := by
    refine PySem.W.kla_callFunE hr.depth ob rfl LS.co LS.gen rfl ⟨c, oc, vs, tt, rfl, c1, c2, c3⟩ ?_
    rw [hbind]
    apply wpAny_pure
    refine wpAny_newFunctionEnv (fun y hy => (LS.own y hy).2) (fun y hy => absurd hy (by simp)) ?_ LS.kind
    intro h1 ns bt
    refine ⟨I1.nolimit.fresh _ bt, ?_⟩
    show codeAny _ _ (.expr body (lamEnv X scope s1.heap.objs.size f c)) _ _
    have old : ∀ b o, s1.heap.get? b = some o → h1.get? b = some o := by
      intro b o e
      refine bt.extBut b o (Nat.ne_of_lt (Heap.lt_size e)) ?_
      exact Heap.get?_push_of_some _ e
    have J := lam_start2 (A := X.A.deeper eg) (outer := eg :: X.stack) (E := WE W σz) (f := f) (c' := c) (tk := s1.toks + ([] : List (Str × Value)).length) I LS I1.env0 hr.hd I1.base ns old
    have run := (hbody (WE W σz) _ (eg :: X.stack) s1 Hz (hr.deeper _)).run [] _ _ Hz Q J ht
    refine PySem.W.kla_codeExpr (wpAny_mono run ?_ (fun _ _ z => z))
    rintro w s' ⟨w', H', J', rv, q⟩
    exact ⟨w', H', J'.os, J'.bare, J'.base, J'.hok, rv, q⟩
  refine wpAny_call (codeAny_mono go ?_)
  intro r s' hq
  match r, hq with
  | .error e, hq => exact passAt tk σz pz Hz s1 e s' I1 hq
  | .ok (.ret u), hq => exact I1.after hq
  | .ok .next, hq => exact False.elim hq
  | .ok .brk, hq => exact False.elim hq
  | .ok .cont, hq => exact False.elim hq
/-! ### as trees -/
def dAct (i : Nat) (fd : D) (T : M D) : DE := fun δ n P E => δ[i]? = some (some (.sh fd)) ∧ T n P E
/-- a() tells T, in the context Xc of the def that got it -/
def Act (Xc : Cx) (Z : Zx) (a : Str) (i : Nat) (fd : D) (T : M D) : Prop :=
  ∀ (W : WX) (pn : List (Addr × Obj)) (xe : Value → Shared → Prop) (p1 p2 : Pos), Takes (Xc.tr pn xe) W → PE (Xc.tr pn xe) (.Call (.Name a p1) [] [] p2) (lift ⟨Z.g, Z.H0, Z.Hv0, W⟩ (dAct i fd T))
abbrev Zx.with (Z : Zx) (E : XK) : Zx := ⟨Z.g, Z.H0, Z.Hv0, fun c d _ H' => E c d H'⟩
theorem act_of {X : Cx} {pins : List (Addr × Obj)} {σ : L2.St} {H Hv : Hp} {s : Shared} {Ng : List Str} {qg a : Str} {sg scope : Scope} {g f c : Addr} {cdg pm ct : Value} {params : Arguments} {body : Expr} {k i n : Nat} {Z : Zx} {W0 : WX} {de : DE} {δ : DS}
    (I : Inv X pins σ H s) (LS : LamS X.env.scope scope) (hf : s.heap.get? f = some (lamO X params body scope pm c ct)) (hfn : H f = none) (hfr : f ∉ frs X.stack)
    (hbind : bindArgs (lamF X params body scope pm c ct) ⟨[], []⟩ = pure []) (hr : Room (k + 1) (X.A.deeper (envOfC qg sg s.heap.objs.size g cdg)))
    (hbody : ∀ (E : XK) (A : Around) (outer : List Env) (s : Shared) (H : Hp), Room k (A.deeper (lamEnv X scope s.heap.objs.size f c)) → PE (lamCx X A outer s H E scope f c) body (lift (Z.with E) de))
    (r : Rel Z.g Z.H0 Z.Hv0 σ H Hv δ n) (hN : Ng[i]? = some a) (hv : Vis sg a) (hd : (a == ("__debug__" : Str)) = false) (hcd : (a == ("__classdict__" : Str)) = false) (hc : H c = some (CodeO c (X.env.qual ++ "<lambda>"))) :
    Act (gCx X Ng qg sg g cdg s H) ⟨Z.g, H, Hv, W0⟩ a i (.fn f c (X.env.qual ++ "<lambda>")) (fun n P E => de δ n P E) := by
  intro W pn xe p1 p2 tk
  refine up (pe_actS I LS hf hfn hfr hbind tk hr hbody hN hv hd hcd) ?_
  rintro σz Hz Q ⟨δz, Hvz, nz, P, E, rz, ⟨h1, h2⟩, q, x⟩
  obtain ⟨v, e1, e2⟩ := slot_at rz h1
  cases e2
  have np : c ≠ Z.g.pd := fun z => by
    obtain ⟨_, _, _, w, _⟩ := r.pen.pen
    rw [← z, hc] at w
    cases w
  exact ⟨e1, rz.ext.at np hc (codeO_ne ·), δ, Hvz, nz, P, E, r.step rz.ext rz.pen, h2, q, x⟩
/-- a def whose first parameter is called without arguments; B: its body, by what it got and what that tells -/
def LamOk (P : Program) (w : World) (K : PySem.W.Frag) (mg : Str → Option Value) (base : Heap) (k : Nat) (x a : Str) (kn : Kn) (m N : Nat) (B : D → M D → DT) : Prop :=
  ∃ (f : Addr) (fd : FuncData) (st : Stmt) (Ns ps : List Str), mg x = some (.ref f) ∧ Fun K x x st f fd ∧ Binds K fd ps [] ∧ FnScope Ns ps (defScope st) ∧ Ns[0]? = some a ∧ Vis (defScope st) a ∧ ps.length = m ∧ Ns.length = N ∧
    ∀ (cdv : Value) (A : Around) (outer : List Env) (s : Shared) (H : Hp) (Z : Zx) (d : D) (T : M D), Room k (A.deeper (envOfC x (defScope st) s.heap.objs.size f cdv)) → Z.g.K = K → Z.g.mg = mg → Z.g.kn = kn →
      Act (cxOf CX0 P w K mg base Ns x (defScope st) f cdv A outer s H E0) Z a 0 d T → PSs (cxOf CX0 P w K mg base Ns x (defScope st) f cdv A outer s H E0).nox (defBody st) (liftS Z (B d T))
/-- what such a def computes of T and its other arguments -/
def dLamDef (m N : Nat) (B : D → M D → DT) (T : M D) (xs : List D) : M D := fun n P E => ∀ f c q, dDef m N (B (.fn f c q) T) (.fn f c q :: xs) n P E
def dLam (U : M D → List D → M D) (de : DE) (xs : List D) : DE := fun δ n P E => U (fun n P E => de δ n P E) xs n P (fun _ _ _ => False)
theorem made_ext {g : G} {H H1 Hv : Hp} {P c : Addr} {q : Str} (s : Same Hv H) (nt : NoT Hv) (M : Made H H1 P c q) : Ext g H Hv H1 Hv := by
  rcases M with rfl | ⟨ps, qs, hP, nc, rfl⟩
  · exact .refl s
  · have nPc : P ≠ c := ne_of_none hP nc
    refine ⟨fun b o _ e => ?_, .refl _, fun b o e => ?_, fun a h1 _ => h1, fun z => z⟩
    · have hbc : b ≠ c := ne_of_none e nc
      by_cases hb : b = P
      · subst hb
        rw [hP] at e
        cases e
        exact ⟨_, by rw [upd_ne hbc, upd_same], fun z => absurd rfl (z ps)⟩
      · exact ⟨o, by rw [upd_ne hbc, upd_ne hb]; exact e, fun _ => rfl⟩
    · have e2 := s _ _ e
      have hb : b ≠ P := fun z => by
        subst z
        rw [hP] at e2
        cases e2
        exact nt _ _ e
      rw [upd_ne (ne_of_none e2 nc), upd_ne hb]
      exact e2
theorem made_pen {kn : Str} {H H1 : Hp} {P c d cc : Addr} {q : Str} {n : Nat} (p : PenAt kn H d cc n) (M : Made H H1 P c q) : PenAt kn H1 d cc n := by
  rcases M with rfl | ⟨ps, qs, hP, nc, rfl⟩
  · exact p
  · have hd : H d ≠ none := by obtain ⟨_, _, _, h, _⟩ := p; rw [h]; simp
    have hc : H cc ≠ none := by obtain ⟨_, _, _, _, h, _⟩ := p; rw [h]; simp
    have nd : P ≠ d := fun z => by obtain ⟨_, _, _, h, _⟩ := p; rw [← z, hP] at h; cases h
    have ncc : P ≠ cc := fun z => by obtain ⟨_, _, _, _, h, _⟩ := p; rw [← z, hP] at h; cases h
    exact (p.upd nd ncc (Nat.le_refl _)).upd (fun z => hd (by rw [← z]; exact nc)) (fun z => hc (by rw [← z]; exact nc)) (Nat.le_refl _)
section
variable {X : Cx} {Z : Zx} {x a : Str} {kn : Kn} {k kf m N : Nat} {B : D → M D → DT} {cm P : Addr} {params : Arguments} {body : Expr} {scope : Scope} {lpos p pos cpos : Pos} {de : DE} {j : Nat} {y : Str}
/-- the def runs, behind the lambda's making -/
theorem lam_run {pins : List (Addr × Obj)} {σ : L2.St} {H Hv : Hp} {s : Shared} {f c g : Addr} {pm ct : Value} {n : Nat} {δ : DS} {Q : VK} {us : List Value} {vs : List V} {ds : List D} {Pz : D → Nat → Prop}
    (O : LamOk X.prog X.w X.K X.mg X.base kf x a kn m N B) (hkf : kf ≤ k + 1) (hr : Room (k + 2) X.A) (zk : Z.g.K = X.K) (zm : Z.g.mg = X.mg) (zn : Z.g.kn = kn) (gm : X.mg x = some (.ref g)) (LS : LamS X.env.scope scope)
    (hbind : ∀ (q : Str) (cl : List (Str × Addr)) (pm cv ct : Value), bindArgs (PySem.W.kla_fn "<lambda>" q params body scope cl pm cv ct) ⟨[], []⟩ = pure [])
    (hbody : ∀ (E : XK) (A : Around) (outer : List Env) (s : Shared) (H : Hp) (f c : Addr), Room k (A.deeper (lamEnv X scope s.heap.objs.size f c)) → PE (lamCx X A outer s H E scope f c) body (lift (Z.with E) de))
    (hd : (a == ("__debug__" : Str)) = false) (hcd : (a == ("__classdict__" : Str)) = false)
    (I : Inv X pins σ H s) (hf : s.heap.get? f = some (lamO X params body scope pm c ct)) (hfn : H f = none) (hfr : f ∉ frs X.stack) (hc : H c = some (CodeO c (X.env.qual ++ "<lambda>")))
    (r : Rel Z.g Z.H0 Z.Hv0 σ H Hv δ n) (rv : Vals vs us) (kd : DvAll Z.g Hv vs ds) (hU : dLamDef m N B (fun n P E => de δ n P E) ds n Pz (fun _ _ _ => False)) (q : QOk Z.g H Hv Pz Q) :
    codeAny (model X.prog X.w) X.A (.call (.ref g) ⟨.ref f :: us, []⟩) (CR CX0 X.stack X.prog X.w H s Q E0) s := by
  obtain ⟨f', fd, st, Ns, ps, g1, F, bd, S, h0, hv, hm, hN, body'⟩ := O
  obtain rfl : f' = g := Value.ref.inj (Option.some.inj (g1.symm.trans gm))
  obtain ⟨oc, od, kV, doc, pm', an, cdv, ct', osl, rfl, lk, hcc⟩ := F.ex
  have hU' := hU f c (X.env.qual ++ "<lambda>")
  have hlen : ds.length + 1 = m := hU'.1
  have bt := bd s (.ref f :: us) I.kIn (by
    have e1 := rv.length
    have e2 := kd.len
    rw [List.append_nil, List.length_cons]
    omega)
  rw [List.append_nil] at bt
  refine run_ofS (N := Ns) (ps := ps) (us := .ref f :: us) (vs := .ref f :: vs) (k := k + 1) lk hcc S hr I.env0 bt (.cons rfl rv) ?_ ?_
  · have := kd.len
    simp only [List.length_cons]
    omega
  · intro hr'
    have act := act_of (W0 := fun _ _ _ _ => False) (g := f') (cdg := cdv) (qg := x) (Ng := Ns) (a := a) (i := 0) I LS hf hfn hfr (hbind _ _ _ _ _) hr' (fun E A outer s H h => hbody E A outer s H f c h) r h0 hv hd hcd hc
    refine ⟨_, (body' cdv X.A X.stack s H ⟨Z.g, H, Hv, fun _ _ _ _ => False⟩ _ _ (hr'.mono hkf) zk zm zn act).nox, ?_⟩
    subst hN
    exact body_of (N := Ns) (Z := ⟨Z.g, H, Hv, fun _ _ _ _ => False⟩) (E := E0) rfl rfl (fun _ _ _ _ z => z) r.sub r.npd r.pen (.cons (.fn f c _) kd) hU' q (fun _ _ _ _ _ _ _ z => z.elim)
theorem d_lam (O : LamOk X.prog X.w X.K X.mg X.base kf x a kn 1 N B) (hkf : kf ≤ k + 1) (hr : Room (k + 2) X.A) (zk : Z.g.K = X.K) (zm : Z.g.mg = X.mg) (zn : Z.g.kn = kn) (TB : TabB X.base X.mg cm P) (hcode : X.env.code = .ref cm)
    (hmT : (P, X.env.qual ++ "<lambda>") ∈ kn.tb) (hu : ∀ p ∈ kn.tb, p.1 = P → p.2 = X.env.qual ++ "<lambda>") (LS : LamS X.env.scope scope)
    (hbody : ∀ (E : XK) (A : Around) (outer : List Env) (s : Shared) (H : Hp) (f c : Addr), Room k (A.deeper (lamEnv X scope s.heap.objs.size f c)) → PE (lamCx X A outer s H E scope f c) body (lift (Z.with E) de))
    (hdef : defaultsOf params X.env = ([], []) := by rfl) (hbind : ∀ (q : Str) (cl : List (Str × Addr)) (pm cv ct : Value), bindArgs (PySem.W.kla_fn "<lambda>" q params body scope cl pm cv ct) ⟨[], []⟩ = pure [] := by intros; rfl)
    (hg : Gl X x := by rfl) (hdb : (x == ("__debug__" : Str)) = false := by decide) (hd : (a == ("__debug__" : Str)) = false := by decide) (hcd : (a == ("__classdict__" : Str)) = false := by decide) :
    PE X (.Call (.Name x p) [.Lambda params body scope lpos] [] pos) (lift Z (dLam (dLamDef 1 N B) de [])) := by
  constructor
  rintro pins s σ H Q I ⟨δ, Hv, n, Pz, E, r, hU, q, xx⟩
  have O' := O
  obtain ⟨g, fd, st, Ns, ps, gm, F, -⟩ := O'
  refine wpAny_Call_Name_kw (ld_glob I hg gm ?_ hdb)
  refine PySem.W.callWith_K (h₀ := X.base) I.ok.mod.kin F.kp ?_ (by rfl) (by rfl)
  refine Calls.spliced_cons (lam_makeP I TB hcode hmT hu (zn ▸ r.pen.tab) hdef (LS.has I.ok) ?_)
  intro f c pm ct H1 s1 I1 M T1 hf hfn hfr hc
  refine Calls.spliced_nil ⟨I1.kIn, ?_⟩
  have e1 : Ext Z.g H Hv H1 Hv := made_ext r.sub r.npd.2 M
  have p1 : Pn Z.g H1 n := ⟨made_pen r.pen.pen M, by rw [zn]; exact T1⟩
  have rc := lam_run (Q := Q) (us := []) (vs := []) (ds := []) O hkf hr zk zm zn gm LS hbind hbody hd hcd I1 hf hfn hfr hc (r.step e1 p1) .nil .nil hU (q.step e1 p1)
  refine wpAny_call (codeAny_mono rc ?_)
  intro res s2 hq
  match res, hq with
  | .error e, hq => exact (show False from hq).elim
  | .ok (.ret u), hq => exact I1.after hq
  | .ok .next, hq => exact False.elim hq
  | .ok .brk, hq => exact False.elim hq
  | .ok .cont, hq => exact False.elim hq
end
/-! ### keyword-only parameters -/
/-- arguments, then keywords' values -/
def dCat (k m : Nat) (a b : DA) : DA := fun δ n P E => a δ n (fun xs n1 => b δ n1 (fun ys n2 => (xs.length = k ∧ ys.length = m) ∧ P (xs ++ ys) n2) E) E
/-- x(e, .., k = v, ..): n arguments, keywords ks, in the parameters' order -/
def OkKo (P : Program) (w : World) (K : PySem.W.Frag) (mg : Str → Option Value) (base : Heap) (CX : CXT) (k : Nat) (x : Str) (n : Nat) (ks : List Str) (sp : Sp) : Prop :=
  ∃ (f : Addr) (fd : FuncData) (ps : List Str), mg x = some (.ref f) ∧ PySem.W.keepIn K (.ref f) = true ∧ KBn K fd ps n ks (fun us ws => us ++ ws) (fun vs zs => vs ++ zs) ∧ FnOk P w K mg base CX k f fd ps sp
/-- x(e, ..), the keyword-only parameters' defaults dvs fill up -/
def OkDf (P : Program) (w : World) (K : PySem.W.Frag) (mg : Str → Option Value) (base : Heap) (CX : CXT) (k : Nat) (x : Str) (dvs : List V) (sp : Sp) : Prop :=
  ∃ (f : Addr) (fd : FuncData) (ps : List Str) (ds : List Value), mg x = some (.ref f) ∧ PySem.W.keepIn K (.ref f) = true ∧ Vals dvs ds ∧ Binds K fd ps ds ∧ FnOk P w K mg base CX k f fd ps sp
section
variable {X : Cx} {Z : Zx} {CX : CXT} {e : Expr} {es : List Expr} {kws : List Keyword} {ra rk : DA} {pos p : Pos} {k m m2 : Nat} {x : Str} {ks : List Str} {U : List D → M D} {kn : Kn} {sp : Sp} {E : L2.St → XK} {ta tk : TA}
def tKw (n m : Nat) (sp : Sp) (E : L2.St → XK) (ta tk : TA) : TE := fun σ H Q => ta σ H fun vs H1 => tk σ H1 fun zs H2 => vs.length = n ∧ zs.length = m ∧ sp (vs ++ zs) H2 Q (E σ)
theorem pe_kw (o : OkKo X.prog X.w X.K X.mg X.base CX k x m ks sp) (hr : Room k X.A) (hx : ∀ σ, PassesAt CX X σ (E σ)) (ha : PA X (e :: es) ta) (hkw : PK X kws tk) (hg : Gl X x := by rfl)
    (hall : (backToKw pos (keywordEach kws X.env)).all (·.1.isSome) = true := by rfl) (hks : (backToKw pos (keywordEach kws X.env)).filterMap (·.1) = ks := by rfl) (hdb : (x == ("__debug__" : Str)) = false := by decide)
    (he : starEach (e :: es) X.env = (false, eval e X.env) :: starEach es X.env := by rfl) (hpl : ((backTo pos (starEach (e :: es) X.env)).any (·.1) || (backToKw pos (keywordEach kws X.env)).any (·.1.isNone)) = false := by rfl) :
    PE X (.Call (.Name x p) (e :: es) kws pos) (tKw m ks.length sp E ta tk) := by
  obtain ⟨f, fd, ps, gm, kp, b, F⟩ := o
  constructor
  intro pins s σ H Q I h
  refine wpAny_Call_Name_kw (ld_glob I hg gm ?_ hdb)
  refine PySem.W.callWith_KW (h₀ := X.base) I.ok.mod.kin kp hall (thn (ha.run pos pins s σ H _ I h) ?_) hpl he
  rintro us s1 ⟨vs, H1, I1, rv, q1⟩
  refine thn (hkw.run pos pins s1 σ H1 _ I1 q1) ?_
  rintro ws s2 ⟨zs, H2, I2, rz, l1, l2, q2⟩
  refine ⟨I2.kIn, ?_⟩
  rw [hks]
  have bt := b.to s2 us ws I2.kIn (rv.length.symm.trans l1) (rz.length.symm.trans l2)
  have rc := F.run X.A X.stack s2 H2 ⟨us, ks.zip ws⟩ (us ++ ws) (vs ++ zs) Q (E σ) hr I2.env0 bt (b.rel rv rz) q2
  refine wpAny_call (codeAny_mono rc ?_)
  intro r s' hq
  match r, hq with
  | .error e, hq => exact hx σ pins H2 s2 e s' I2 hq
  | .ok (.ret u), hq => exact I2.after hq
  | .ok .next, hq => exact False.elim hq
  | .ok .brk, hq => exact False.elim hq
  | .ok .cont, hq => exact False.elim hq
theorem d_kwX (o : OkKo X.prog X.w X.K X.mg X.base (L2.CX X.prog X.w) k x m ks (spU X.K X.mg kn U)) (hr : Room k X.A) (zk : Z.g.K = X.K) (zm : Z.g.mg = X.mg) (zn : Z.g.kn = kn) (tk : Takes X Z.W) (ha : PA X (e :: es) (liftA Z ra)) (hkw : PK X kws (liftA Z rk)) (hm2 : ks.length = m2 := by rfl) (hg : Gl X x := by rfl)
    (hall : (backToKw pos (keywordEach kws X.env)).all (·.1.isSome) = true := by rfl) (hks : (backToKw pos (keywordEach kws X.env)).filterMap (·.1) = ks := by rfl) (hdb : (x == ("__debug__" : Str)) = false := by decide)
    (he : starEach (e :: es) X.env = (false, eval e X.env) :: starEach es X.env := by rfl) (hpl : ((backTo pos (starEach (e :: es) X.env)).any (·.1) || (backToKw pos (keywordEach kws X.env)).any (·.1.isNone)) = false := by rfl) :
    PE X (.Call (.Name x p) (e :: es) kws pos) (lift Z (dCall U (dCat m m2 ra rk))) := up (pe_kw o hr (fun σ => passAt tk σ) ha hkw hg hall hks hdb he hpl) fun σ H Q ⟨δ, Hv, n, P, E, r, h1, q, xx⟩ => by
  refine ⟨δ, Hv, n, _, E, r, h1, (fun d v H1 Hv1 n1 h2 e1 p1 k1 => ?_), xx⟩
  refine ⟨δ, Hv1, n1, _, E, r.step e1 p1, h2, (fun d2 v2 H2 Hv2 n2 h3 e2 p2 k2 => ?_), xx.step e1 p1⟩
  obtain ⟨⟨l1, l2⟩, h3⟩ := h3
  have e12 := e1.trans (fun _ => p1.pd) e2
  have eg := eta_g zk zm zn
  refine ⟨by rw [k1.len]; exact l1, by rw [k2.len, hm2]; exact l2, Z.g.pd, Z.g.pc, Hv2, d ++ d2, n2, P, E, e2.sub, ((r.step e1 p1).step e2 p2).npd, ?_⟩
  rw [eg]
  exact ⟨p2, (DvAll.mono e2.see k1).append k2, h3, q.step e12 p2, xx.step e12 p2⟩
/-- where it lets no error out -/
theorem d_kw0 {CX : CXT} (o : OkKo X.prog X.w X.K X.mg X.base CX k x m ks (spU X.K X.mg kn U)) (hp : ∀ σ, PassesAt CX X σ E0) (hr : Room k X.A) (zk : Z.g.K = X.K) (zm : Z.g.mg = X.mg) (zn : Z.g.kn = kn) (ha : PA X (e :: es) (liftA Z ra)) (hkw : PK X kws (liftA Z rk)) (hm2 : ks.length = m2 := by rfl) (hg : Gl X x := by rfl)
    (hall : (backToKw pos (keywordEach kws X.env)).all (·.1.isSome) = true := by rfl) (hks : (backToKw pos (keywordEach kws X.env)).filterMap (·.1) = ks := by rfl) (hdb : (x == ("__debug__" : Str)) = false := by decide)
    (he : starEach (e :: es) X.env = (false, eval e X.env) :: starEach es X.env := by rfl) (hpl : ((backTo pos (starEach (e :: es) X.env)).any (·.1) || (backToKw pos (keywordEach kws X.env)).any (·.1.isNone)) = false := by rfl) :
    PE X (.Call (.Name x p) (e :: es) kws pos) (lift Z (dCall0 U (dCat m m2 ra rk))) := up (pe_kw o hr hp ha hkw hg hall hks hdb he hpl) fun σ H Q ⟨δ, Hv, n, P, E, r, h1, q, xx⟩ => by
  refine ⟨δ, Hv, n, _, E, r, h1, (fun d v H1 Hv1 n1 h2 e1 p1 k1 => ?_), xx⟩
  refine ⟨δ, Hv1, n1, _, E, r.step e1 p1, h2, (fun d2 v2 H2 Hv2 n2 h3 e2 p2 k2 => ?_), xx.step e1 p1⟩
  obtain ⟨⟨l1, l2⟩, h3⟩ := h3
  have e12 := e1.trans (fun _ => p1.pd) e2
  have eg := eta_g zk zm zn
  refine ⟨by rw [k1.len]; exact l1, by rw [k2.len, hm2]; exact l2, Z.g.pd, Z.g.pc, Hv2, d ++ d2, n2, P, (fun _ _ _ => False), e2.sub, ((r.step e1 p1).step e2 p2).npd, ?_⟩
  rw [eg]
  exact ⟨p2, (DvAll.mono e2.see k1).append k2, h3, q.step e12 p2, fun _ _ _ _ _ _ _ z => z.elim⟩
theorem never0 : ∀ σ, PassesAt CX0 X σ E0 := fun _ _ _ _ _ _ _ z => (show False from z).elim
theorem neverX : ∀ σ, PassesAt (L2.CX X.prog X.w) X σ E0 := fun σ pins H s e s' I z => passes_call (W := fun _ _ _ _ => False) L2.takes0 (fun _ _ _ _ z => z) pins σ H s e s' I z
variable {dvs : List V} {es' : List D}
theorem d_dfX (o : OkDf X.prog X.w X.K X.mg X.base (L2.CX X.prog X.w) k x dvs (spU X.K X.mg kn U)) (hdw : ∀ Hv, DvAll Z.g Hv dvs es') (hr : Room k X.A) (zk : Z.g.K = X.K) (zm : Z.g.mg = X.mg) (zn : Z.g.kn = kn) (tk : Takes X Z.W) (ha : PA X (e :: es) (liftA Z ra)) (hg : Gl X x := by rfl)
    (hdb : (x == ("__debug__" : Str)) = false := by decide) (he : starEach (e :: es) X.env = (false, eval e X.env) :: starEach es X.env := by rfl) (hpl : (backTo pos (starEach es X.env)).any (·.1) = false := by rfl) :
    PE X (.Call (.Name x p) (e :: es) [] pos) (lift Z (dCall (fun xs => U (xs ++ es')) ra)) := by
  obtain ⟨f, fd, ps, ds, gm, kp, hv, b, F⟩ := o
  refine up (pe_callSD (E := WE Z.W) F hr hg gm kp b hv (fun σ => passAt tk σ) ha hdb he hpl) fun σ H Q ⟨δ, Hv, n, P, E, r, h1, q, xx⟩ => ?_
  refine ⟨δ, Hv, n, _, E, r, h1, (fun d v H' Hv' n' h2 ee p k => ?_), xx⟩
  have eg := eta_g zk zm zn
  refine ⟨Z.g.pd, Z.g.pc, Hv', d ++ es', n', P, E, ee.sub, (r.step ee p).npd, ?_⟩
  rw [eg]
  exact ⟨p, k.append (hdw Hv'), h2, q.step ee p, xx.step ee p⟩
theorem d_df0 {CX : CXT} (o : OkDf X.prog X.w X.K X.mg X.base CX k x dvs (spU X.K X.mg kn U)) (hp : ∀ σ, PassesAt CX X σ E0) (hdw : ∀ Hv, DvAll Z.g Hv dvs es') (hr : Room k X.A) (zk : Z.g.K = X.K) (zm : Z.g.mg = X.mg) (zn : Z.g.kn = kn) (ha : PA X (e :: es) (liftA Z ra)) (hg : Gl X x := by rfl)
    (hdb : (x == ("__debug__" : Str)) = false := by decide) (he : starEach (e :: es) X.env = (false, eval e X.env) :: starEach es X.env := by rfl) (hpl : (backTo pos (starEach es X.env)).any (·.1) = false := by rfl) :
    PE X (.Call (.Name x p) (e :: es) [] pos) (lift Z (dCall0 (fun xs => U (xs ++ es')) ra)) := by
  obtain ⟨f, fd, ps, ds, gm, kp, hv, b, F⟩ := o
  refine up (pe_callSD (E := fun _ => E0) F hr hg gm kp b hv hp ha hdb he hpl) fun σ H Q ⟨δ, Hv, n, P, E, r, h1, q, xx⟩ => ?_
  refine ⟨δ, Hv, n, _, E, r, h1, (fun d v H' Hv' n' h2 ee p k => ?_), xx⟩
  have eg := eta_g zk zm zn
  refine ⟨Z.g.pd, Z.g.pc, Hv', d ++ es', n', P, (fun _ _ _ => False), ee.sub, (r.step ee p).npd, ?_⟩
  rw [eg]
  exact ⟨p, k.append (hdw Hv'), h2, q.step ee p, fun _ _ _ _ _ _ _ z => z.elim⟩
end
end Dn

/-! The law's call where lambdas are made and repr is called: the script and the empty tables are tracked. -/
namespace Dn
open PySem PySem.Spec PyProof.Rows L2 Br LamX
section
variable {P : Program} {w : World} {K : PySem.W.Frag} {mg mb : Str → Option Value} {k : Nat} {fa a : Addr} {cs : List (Addr × Addr)} {fd : FuncData} {x : Str} {sp : Sp} {s1 : Shared} {vs : List Value} {ns : List Int}
abbrev emptyT : Obj := { cls := .none, data := .fields #[] }
/-- what is tracked: the script, unless the module has it, and the tables -/
def trk (K : PySem.W.Frag) (a : Addr) (cs : List (Addr × Addr)) (o : Obj) (xs : List V) : Hp := fun b =>
  if b ∈ cs.map (·.2) then some (.tbl #[]) else if b = a ∧ K.lookup a = none then some (.frz o (.lst xs)) else none
theorem trk_tab {o : Obj} {xs : List V} {p : Addr × Addr} (hp : p ∈ cs) : trk K a cs o xs p.2 = some (.tbl #[]) := if_pos (List.mem_map.mpr ⟨p, hp, rfl⟩)
theorem trk_cases {o : Obj} {xs : List V} (b : Addr) : (∃ p ∈ cs, p.2 = b ∧ trk K a cs o xs b = some (.tbl #[])) ∨ (b = a ∧ K.lookup a = none ∧ trk K a cs o xs b = some (.frz o (.lst xs))) ∨ trk K a cs o xs b = none := by
  by_cases h : b ∈ cs.map (·.2)
  · obtain ⟨p, hp, e⟩ := List.mem_map.mp h
    exact .inl ⟨p, hp, e, if_pos h⟩
  · by_cases h2 : b = a ∧ K.lookup a = none
    · exact .inr (.inl ⟨h2.1, h2.2, (if_neg h).trans (if_pos h2)⟩)
    · exact .inr (.inr ((if_neg h).trans (if_neg h2)))
theorem law_callTG (KX : K.In s1.heap) (hns : s1.heap.Ns mainGlobals mg) (hb : s1.heap.Ns builtinsNs mb) (hbb : ∀ x : Str, x ≠ "__name__" → mb x = bootBuiltins x) (hlim : s1.heap.NoLimit) (hg : s1.gens = #[])
    (hT : ∀ p ∈ cs, s1.heap.get? p.2 = some emptyT) (nT : ∀ p ∈ cs, K.lookup p.2 = none) (C : ∀ p ∈ cs, PySem.W.CodeHd s1.heap p.1 p.2)
    (hbm : ∃ (bm : Addr) (ob : Obj), mg "__builtins__" = some (.ref bm) ∧ bm ≠ builtinsNs ∧ s1.heap.get? bm = some ob ∧ ob.cls = .type "module" ∧ ob.dict = some builtinsNs ∧ ob.data = .plain)
    (ha : s1.heap.get? a = some { cls := .type "list", data := .seq vs.toArray }) (hi : IntsAre vs ns) (hl : ns.length ≤ sizeLine) (hr : Room k callerA)
    (F : ∀ base : Heap, K.In base → base.Ns mainGlobals mg → (∀ p ∈ cs, TabB base mg p.1 p.2) → FnG P w K mg base CX0 k fa fd [x] sp) (hbind : ∀ (s : Shared) (u : Value), BindsTo s fd ⟨[u], []⟩ [(x, u)])
    (hsp : ∀ H : Hp, (∀ p ∈ cs, H p.2 = some (.tbl #[])) → SqL K H a (ns.map V.int) → sp [.ref a] H (fun v _ => v = .bl true) fun _ _ _ => False) :
    codeAny (model P w) callerA (.call (.ref fa) ⟨[.ref a], []⟩) (fun r s' => r = .ok (.ret (.bool true)) ∧ OldK s1.heap s'.heap ∧ s'.os = s1.os ∧ AllBare s'.gens) s1 := by
  have rv := vals_ints hi
  let so : Obj := { cls := .type "list", data := .seq vs.toArray }
  let H := trk K a cs so (ns.map V.int)
  have aT : ∀ p ∈ cs, p.2 ≠ a := by
    intro p hp z
    have e := hT p hp
    rw [z, ha] at e
    have e2 := congrArg Obj.data (Option.some.inj e)
    cases e2
  have hS : SqL K H a (ns.map V.int) := by
    cases hk : K.lookup a with
    | some o =>
      have e := KX a o hk
      rw [ha] at e
      cases e
      exact .inr ⟨_, vs.toArray, _, hk, rfl, rfl, rfl, by rw [List.size_toArray, hi.length]; exact hl, by simpa using rv⟩
    | none =>
      refine .inl (.inr ⟨so, ?_⟩)
      refine (if_neg ?_).trans (if_pos ⟨rfl, hk⟩)
      intro z
      obtain ⟨p, hp, e⟩ := List.mem_map.mp z
      exact aT p hp e
  have hok : HOk P w H s1.heap := by
    intro b u e
    rcases trk_cases (K := K) (a := a) (cs := cs) (o := so) (xs := ns.map V.int) b with ⟨p, hp, rfl, q⟩ | ⟨rfl, _, q⟩ | q
    · cases q.symm.trans e
      exact hT p hp
    · cases q.symm.trans e
      exact ⟨ha, by rw [List.length_map]; exact hl, vs, _, rv, ha⟩
    · cases q.symm.trans e
  /- what holds neither the script nor a table is not tracked -/
  have free : ∀ {b : Addr} {o : Obj}, s1.heap.get? b = some o → (∀ us n, o.data ≠ .seq us n) → o.data ≠ .fields #[] → H b = none := by
    intro b o e h1 h2
    rcases trk_cases (K := K) (a := a) (cs := cs) (o := so) (xs := ns.map V.int) b with ⟨p, hp, rfl, q⟩ | ⟨rfl, _, q⟩ | q
    · rw [hT p hp] at e
      cases e
      exact absurd rfl h2
    · rw [ha] at e
      cases e
      exact absurd rfl (h1 _ _)
    · exact q
  have nsK : ∀ {b : Addr} {m : Str → Option Value}, s1.heap.Ns b m → (hidT s1.heap H).Ns b m := by
    rintro b m ⟨o, es, ep, e, d, r⟩
    exact ⟨o, es, ep, hidT_get e (free e (fun us n z => by rw [d] at z; cases z) (fun z => by rw [d] at z; cases z)), d, r⟩
  have hKb : K.In (hidT s1.heap H) := by
    intro b o e
    refine hidT_get (KX b o e) ?_
    rcases trk_cases (K := K) (a := a) (cs := cs) (o := so) (xs := ns.map V.int) b with ⟨p, hp, rfl, q⟩ | ⟨rfl, hk, q⟩ | q
    · rw [nT p hp] at e; cases e
    · rw [hk] at e; cases e
    · exact q
  have TB : ∀ p ∈ cs, TabB (hidT s1.heap H) mg p.1 p.2 := by
    intro p hp
    have tp := hT p hp
    constructor
    · obtain ⟨o, us, file, tf, flags, tg, inF, text, tt, e1, r1, r2, r3, rest⟩ := C p hp
      refine ⟨o, us, file, tf, flags, tg, inF, text, tt, hidT_get e1 (free e1 (fun vs n z => ?_) fun z => ?_), r1, r2, r3, rest⟩
      · rw [r2] at z; cases z
      · rw [r2] at z
        cases z
        simp at r3
    · obtain ⟨bm, ob, b1, b2, b3, b4, b5, b6⟩ := hbm
      refine ⟨bm, ob, b1, b2, ?_, ?_, hidT_get b3 (free b3 (fun vs n z => by rw [b6] at z; cases z) (fun z => by rw [b6] at z; cases z)), b4, b5, b6⟩
      · rintro rfl
        obtain ⟨o, es, ep, e, hd, _⟩ := hns
        rw [e] at b3
        cases b3
        rw [hd] at b6; cases b6
      · rintro rfl
        rw [tp] at b3
        cases b3
        cases b6
    · intro z
      obtain ⟨o, es, ep, e, hd, _⟩ := hns
      rw [z, tp] at e
      cases e
      cases hd
  obtain ⟨mc, l1, l2⟩ := hlim
  have e0 : Env0 P w K mg (hidT s1.heap H) callerA [] s1 H := ⟨rfl, ⟨hKb, nsK hns, ⟨mb, nsK hb, hbb⟩, ⟨mc, nsK l1, l2⟩⟩, (fun b o e => of_hidT e), Nat.le_of_eq (hidT_size _ _), trivial, (fun b hb => (List.not_mem_nil (show b ∈ ([] : List Addr) from hb)).elim), hok, .of_eq hg⟩
  have run := (F _ hKb (nsK hns) TB).run callerA [] s1 H ⟨[.ref a], []⟩ [.ref a] [.ref a] (fun v _ => v = .bl true) (fun _ _ _ => False) rfl hr e0 (hbind s1 (.ref a)) (.cons rfl .nil) (hsp H (fun p hp => trk_tab hp) hS)
  refine codeAny_mono run ?_
  intro r s' h
  match r, h with
  | .error e, h => exact h.elim
  | .ok .next, h => exact h.elim
  | .ok .brk, h => exact h.elim
  | .ok .cont, h => exact h.elim
  | .ok (.ret u), ⟨v, H', os, bare, un, hok', r', q⟩ =>
    have q' : v = .bl true := q
    subst q'
    obtain rfl : u = Value.bool true := r'
    have stays : ∀ b o, (∀ p ∈ cs, p.2 ≠ b) → s1.heap.get? b = some o → s'.heap.get? b = some o := by
      intro b o nb e
      rcases trk_cases (K := K) (a := a) (cs := cs) (o := so) (xs := ns.map V.int) b with ⟨p, hp, eb, _⟩ | ⟨rfl, hk, q⟩ | q
      · exact absurd eb (nb p hp)
      · obtain ⟨e1, _⟩ := hok _ _ q
        obtain ⟨e2, _⟩ := hok' _ _ (un.frzs _ so _ q)
        rw [e] at e1
        cases e1
        exact e2
      · exact un.keep b o e q (fun z => (List.not_mem_nil (show b ∈ ([] : List Addr) from z)).elim) (by simp)
    have grown : ∀ p ∈ cs, ∃ more : Array Value, s'.heap.get? p.2 = some { cls := .none, data := .fields more } := by
      intro p hp
      obtain ⟨more, z⟩ := un.tbls p.2 #[] (trk_tab hp)
      exact ⟨_, hok' p.2 _ z⟩
    have two : ∀ b, (∃ p ∈ cs, p.2 = b) ∨ ∀ p ∈ cs, p.2 ≠ b := by
      intro b
      by_cases h : ∃ p ∈ cs, p.2 = b
      · exact .inl h
      · exact .inr fun p hp e => h ⟨p, hp, e⟩
    refine ⟨rfl, ⟨?_, ?_⟩, os, bare⟩
    · intro b o e
      rcases two b with ⟨p, hp, rfl⟩ | nb
      · obtain ⟨more, hm⟩ := grown p hp
        rw [hT p hp] at e
        cases e
        refine .inr (.inl ⟨((C p hp).tab (hT p hp)).isCodeTable, rfl, #[], more, rfl, ?_⟩)
        rw [Array.empty_append]
        exact hm
      · exact .inl (stays b o nb e)
    · intro b o e
      rcases two b with ⟨p, hp, rfl⟩ | nb
      · obtain ⟨more, hm⟩ := grown p hp
        exact ⟨_, hm⟩
      · exact ⟨o, stays b o nb e⟩
end
/-! ### defs whose code object is known -/
structure FunCd (K : PySem.W.Frag) (x qual : Str) (st : Stmt) (f : Addr) (fd : FuncData) (cm : Addr) : Prop where
  ex : ∃ (oc : Value) (od : Option Addr) (kV doc pm : Value) (an : Option Addr) (ct : Value) (osl : Array (Option Value)),
    fd = PySem.W.fnOf x qual (defArgs st) (defBody st) (defScope st) .none kV doc pm an (.ref cm) ct ∧ K.lookup f = some ⟨oc, od, .func fd, osl⟩ ∧ PySem.W.codeIn K (.ref cm) qual = true
  kp : PySem.W.keepIn K (.ref f) = true
section
variable {P : Program} {w : World} {K : PySem.W.Frag} {mg : Str → Option Value} {base : Heap} {kn : Kn} {x qual : Str} {st : Stmt} {f cm : Addr} {fd : FuncData} {N ps : List Str} {k : Nat} {sp : Sp}
theorem FunCd.fun (F : FunCd K x qual st f fd cm) : Fun K x qual st f fd := by
  obtain ⟨oc, od, kV, doc, pm, an, ct, osl, h1, h2, h3⟩ := F.ex
  exact ⟨⟨oc, od, kV, doc, pm, an, .ref cm, ct, osl, h1, h2, h3⟩, F.kp⟩
theorem okGC (F : FunCd K x qual st f fd cm) (S : FnScope N ps (defScope st)) (len : ∀ vs H Q E, sp vs H Q E → vs.length = ps.length)
    (hbody : ∀ (A : Around) (outer : List Env) (s : Shared) (H : Hp) (vs : List V) (Q : VK) (E : XK), A.guards = some [] → Room k (A.deeper (envOfC qual (defScope st) s.heap.objs.size f (.ref cm))) → sp vs H Q E →
      ∃ t, PSs (cxOf CX0 P w K mg base N qual (defScope st) f (.ref cm) A outer s H E).nox (defBody st) t ∧ t { nx := fun _ H' => Q .non H', rt := Q } (L2.start N vs) H) : FnG P w K mg base CX0 (k + 1) f fd ps sp := by
  obtain ⟨oc, od, kV, doc, pm, an, ct, osl, rfl, lk, hcd⟩ := F.ex
  refine fn_ofG lk hcd S len fun A outer s H vs Q E gd hr hsp => ?_
  obtain ⟨t, h, q⟩ := hbody A outer s H vs Q E gd hr hsp
  exact ⟨t, h.nox, q⟩
/-- what the law promises where tables are written: cs the tables, empty at first -/
def spLawT (K : PySem.W.Frag) (cs : List Addr) : Sp := fun vs H Q _ => ∃ (a : Addr) (ns : List Int), vs = [.ref a] ∧ SqL K H a (ns.map V.int) ∧ ns.length ≤ 63 ∧ (∀ p ∈ cs, H p = some (.tbl #[])) ∧ ∀ H', Q (.bl true) H'
theorem law_DGST {i : Nat} {t : DT} {s1 : Stmt} {rest : List Stmt} {cs : List Addr} (F : FunCd K x qual st f fd cm) (S : FnScope N ps (defScope st)) (hps : ps.length = 1) (hN : 0 < N.length) (hbd : defBody st = s1 :: rest)
    (h1 : ∀ (cdv : Value) (A : Around) (outer : List Env) (s : Shared) (H : Hp) (E : XK), Room k (A.deeper (envOfC qual (defScope st) s.heap.objs.size f cdv)) → PS (cxOf CX0 P w K mg base N qual (defScope st) f cdv A outer s H E).nox s1 (tAsg (tCl (spFeed kn.key K) (tCons (tVar 0) tNil)) (gName i)))
    (h2 : ∀ (A : Around) (outer : List Env) (s : Shared) (H : Hp) (E : XK) (Z : Zx), A.guards = some [] → Room k (A.deeper (envOfC qual (defScope st) s.heap.objs.size f (.ref cm))) → Z.g.K = K → Z.g.mg = mg → Z.g.kn = kn → PSs (cxOf CX0 P w K mg base N qual (defScope st) f (.ref cm) A outer s H E).nox rest (liftS Z t))
    (hU : dLawS N.length i t) (ht : ∀ p ∈ kn.tb, p.1 ∈ cs) (hi : 0 < i := by decide) : FnG P w K mg base CX0 (k + 1) f fd ps (spLawT K cs) := by
  refine okGC F S (fun vs H Q E h => ?_) (fun A outer s H vs Q E gd hr h => ?_)
  · obtain ⟨a, ns, rfl, _⟩ := h
    rw [hps]; rfl
  · obtain ⟨a, ns, rfl, hs, hl, hT, q⟩ := h
    rw [hbd]
    refine ⟨tSeq _ (fun D σ H' => ∃ Z : Zx, Z.g.K = K ∧ Z.g.mg = mg ∧ Z.g.kn = kn ∧ liftS Z t D σ H'), pss_cons (h1 (.ref cm) A outer s H E hr) ⟨fun pins s' σ H' D I ⟨Z, a1, a2, a3, a4⟩ => (h2 A outer s H E Z gd hr a1 a2 a3).run pins s' σ H' D I a4⟩, ?_⟩
    refine ⟨.ref a, by unfold L2.start; rfl, a, ns, rfl, hs, hl, fun d c H' hd sm pen => ?_⟩
    obtain ⟨Hv, v1, v2, v3⟩ := scr_see (g := ⟨K, mg, d, c, kn⟩) hs hd
    rw [List.length_map] at v3
    have tb : Tabs kn.tb H' := fun p hp => (TabS.nil (hT _ (ht p hp))).ext sm
    refine ⟨⟨⟨K, mg, d, c, kn⟩, H', Hv, fun _ _ _ _ => False⟩, rfl, rfl, rfl, ?_⟩
    refine ⟨_, Hv, 0, _, lawS_rel (g := ⟨K, mg, d, c, kn⟩) hN hi ⟨pen, tb⟩ (v1.trans sm) v2 v3, hU _ hl, fun _ _ _ _ _ z => z.elim, (fun dd v H2 Hv2 n2 hd2 e2 p2 k2 => ?_), fun _ _ _ _ _ z => z.elim, fun _ _ _ _ _ z => z.elim, fun _ _ _ _ _ _ _ _ _ z => z.elim⟩
    obtain ⟨dd, rfl⟩ : ∃ d, dd = .sh d := by
      cases dd with
      | sh d => exact ⟨d, rfl⟩
      | ow _ => exact hd2.elim
      | sf _ _ _ => exact hd2.elim
      | od _ => exact hd2.elim
    have hd2 : dd = .bl true := hd2
    subst hd2
    rw [dv_bl k2]
    exact q H2
end
/-- the goal that k_head leaves, from the law's promise, with tables -/
theorem walk_ofTG {l : PySem.W.OpenLaw} {n k : Nat} {q : Program} {loose : List Str} {XP : (Str → Option Value) → Heap → Prop} {YP : World → Heap → Prop} {d : DefRec} {K : Params → PySem.W.Frag} {x : Str} {cs : List (Addr × Addr)}
    (hn : l.most = some n) (hn2 : n ≤ 63) (hdf : d.params.defaults = []) (hr : Room k callerA) (hY : ∀ (w : World) (h : Heap), YP w h → (K w.params).In h) (hT : ∀ (w : World) (h : Heap), YP w h → ∀ p ∈ cs, h.get? p.2 = some emptyT)
    (nT : ∀ (w : World), ∀ p ∈ cs, (K w.params).lookup p.2 = none) (hC : ∀ (w : World), ∀ p ∈ cs, PySem.W.codeHdIn (K w.params) p.1 p.2 = true)
    (F : ∀ (w : World) (mg : Str → Option Value) (fa : Addr) (h : Heap), (K w.params).In h → h.Ns mainGlobals mg → mg d.name = some (.ref fa) →
      ∃ fd : FuncData, (∀ (s : Shared) (u : Value), BindsTo s fd ⟨[u], []⟩ [(x, u)]) ∧ ∀ base : Heap, (K w.params).In base → base.Ns mainGlobals mg → (∀ p ∈ cs, TabB base mg p.1 p.2) → FnG l.prog w (K w.params) mg base CX0 k fa fd [x] (spLawT (K w.params) (cs.map (·.2)))) :
    PySem.W.WalkO q loose XP YP l.row.toRowW d [] (fun f vs => PySem.call f vs) := by
  refine Att.attach_call hn hdf fun w s₀ s₁ mg mb fa o pm cd doc a vs ns G Y ho hd hcd hmg hobj hints hlen hg => ?_
  obtain ⟨fd, hb, hF⟩ := F w mg fa _ (hY w _ Y) G.T.g hmg
  exact law_callTG (cs := cs) (hY w _ Y) G.T.g G.T.b G.T.builtins G.T.nolimit hg (hT w _ Y) (nT w) (fun p hp => PySem.W.codeHd_of_K (hY w _ Y) (hC w p hp)) G.T.bmain hobj hints (Nat.le_trans hlen (Nat.le_trans hn2 (by decide))) hr hF hb
    fun H hH hS => ⟨a, ns, rfl, hS, Nat.le_trans hlen hn2, (fun p hp => by obtain ⟨r, hr, e⟩ := List.mem_map.mp hp; rw [← e]; exact hH r hr), fun _ => rfl⟩
/-- the same with one table -/
theorem walk_ofTG1 {l : PySem.W.OpenLaw} {n k : Nat} {q : Program} {loose : List Str} {XP : (Str → Option Value) → Heap → Prop} {d : DefRec} {K : Params → PySem.W.Frag} {as : List Addr} {ea : ∀ P, as = (K P).map (·.1)} {x : Str} {cm Pt : Addr}
    (hn : l.most = some n) (hn2 : n ≤ 63) (hdf : d.params.defaults = []) (hr : Room k callerA) (nT : ∀ (w : World), (K w.params).lookup Pt = none) (hC : ∀ (w : World), PySem.W.codeHdIn (K w.params) cm Pt = true)
    (F : ∀ (w : World) (mg : Str → Option Value) (fa : Addr) (h : Heap), (K w.params).In h → h.Ns mainGlobals mg → mg d.name = some (.ref fa) →
      ∃ fd : FuncData, (∀ (s : Shared) (u : Value), BindsTo s fd ⟨[u], []⟩ [(x, u)]) ∧ ∀ base : Heap, (K w.params).In base → base.Ns mainGlobals mg → TabB base mg cm Pt → FnG l.prog w (K w.params) mg base CX0 k fa fd [x] (spLawT (K w.params) [Pt])) :
    PySem.W.WalkO q loose XP (PySem.W.kmHook K as ea [Pt]).says l.row.toRowW d [] (fun f vs => PySem.call f vs) := by
  have one : ∀ {α : Type} {y p : α}, p ∈ [y] → p = y := fun h => by simpa using h
  refine walk_ofTG (x := x) (cs := [(cm, Pt)]) hn hn2 hdf hr (fun w h Y => PySem.W.km_in_of Y) (fun w h Y p hp => ?_) (fun w p hp => ?_) (fun w p hp => ?_) (fun w mg fa h a b c => ?_)
  · rw [one hp]; exact PySem.W.km_tabs_of Y Pt (by simp)
  · rw [one hp]; exact nT w
  · rw [one hp]; exact hC w
  · obtain ⟨fd, h1, h2⟩ := F w mg fa h a b c
    exact ⟨fd, h1, fun base e1 e2 e3 => h2 base e1 e2 (e3 (cm, Pt) (List.mem_singleton.mpr rfl))⟩
theorem lam_takes {X : Cx} {A : Around} {outer : List Env} {s : Shared} {H : Hp} {E : XK} {scope : Scope} {f c : Addr} : Takes (lamCx X A outer s H E scope f c) (fun cls d _ H' => E cls d H') := takes_of rfl rfl rfl rfl
theorem lam_one {P : Addr} {q : Str} : ∀ p ∈ [(P, q)], p.1 = P → p.2 = q := fun p hp _ => by
  have e : p = (P, q) := by simpa using hp
  rw [e]
theorem kit2 {K : PySem.W.Frag} {h : Heap} {mg : Str → Option Value} {x y : Str} {a b : Addr} {r : Bool} (X : K.In h) (G : h.Ns mainGlobals mg) (h1 : PySem.W.nsIn K mainGlobals x = some (some (.ref a))) (h2 : PySem.W.nsIn K mainGlobals y = some (some (.ref b)))
    (k : PySem.W.kitOne K (.ref a) (.ref b) = some r) : ∀ C C', mg x = some (.ref C) → mg y = some (.ref C') → PySem.W.kitOne K (.ref C) (.ref C') = some r := fun C C' e1 e2 => by
  have z1 := (PySem.W.mg_of X G h1).symm.trans e1
  have z2 := (PySem.W.mg_of X G h2).symm.trans e2
  cases z1
  cases z2
  exact k
theorem tb_one {P : Addr} {q : Str} : ∀ p ∈ [(P, q)], p.1 ∈ [P] := fun p hp => by
  have e : p = (P, q) := by simpa using hp
  rw [e]; simp
/-! ### what the top says -/
theorem defC {K : PySem.W.Frag} {h : Heap} {mg : Str → Option Value} {x : Str} {st : Stmt} {f cm : Addr} {oc : Value} {od an : Option Addr} {osl : Array (Option Value)} {kV doc pm ct : Value} (X : K.In h) (G : h.Ns mainGlobals mg)
    (a : PySem.W.nsIn K mainGlobals x = some (some (.ref f))) (l : K.lookup f = some ⟨oc, od, .func (PySem.W.fnOf x x (defArgs st) (defBody st) (defScope st) .none kV doc pm an (.ref cm) ct), osl⟩)
    (c : PySem.W.codeIn K (.ref cm) x = true) (k : PySem.W.keepIn K (.ref f) = true) : ∃ f fd, mg x = some (.ref f) ∧ FunCd K x x st f fd cm := ⟨f, _, PySem.W.mg_of X G a, ⟨⟨oc, od, kV, doc, pm, an, ct, osl, rfl, l, c⟩, k⟩⟩
/-- a def with keyword-only parameters that have defaults -/
def KwIs (K : PySem.W.Frag) (x : Str) (st : Stmt) (fd : FuncData) (kws : List (Str × V)) : Prop :=
  ∃ (D : Addr) (doc pm : Value) (an : Option Addr) (cdv ct : Value), fd = PySem.W.fnOf x x (defArgs st) (defBody st) (defScope st) .none (.ref D) doc pm an cdv ct ∧ PySem.W.codeIn K cdv x = true ∧ ∀ q ∈ kws, ∃ u, PySem.W.nsIn K D q.1 = some (some u) ∧ RelV q.2 u
theorem kwT1 {K : PySem.W.Frag} {h : Heap} {mg : Str → Option Value} {x y : Str} {st : Stmt} {f D : Addr} {oc : Value} {od an : Option Addr} {osl : Array (Option Value)} {doc pm cdv ct u : Value} {v : V} (X : K.In h) (G : h.Ns mainGlobals mg)
    (a : PySem.W.nsIn K mainGlobals x = some (some (.ref f))) (l : K.lookup f = some ⟨oc, od, .func (PySem.W.fnOf x x (defArgs st) (defBody st) (defScope st) .none (.ref D) doc pm an cdv ct), osl⟩)
    (c : PySem.W.codeIn K cdv x = true) (k : PySem.W.keepIn K (.ref f) = true) (n : PySem.W.nsIn K D y = some (some u)) (r : RelV v u) : ∃ f fd, DefT K mg x st f fd ∧ KwIs K x st fd [(y, v)] :=
  ⟨f, _, ⟨PySem.W.mg_of X G a, fun_mk l c k⟩, D, doc, pm, an, cdv, ct, rfl, c, fun q hq => by
    have e : q = (y, v) := by simpa using hq
    rw [e]; exact ⟨u, n, r⟩⟩
section
variable {P : Program} {w : World} {K : PySem.W.Frag} {mg : Str → Option Value} {base : Heap} {x : Str} {st : Stmt} {f : Addr} {fd : FuncData} {ps ks : List Str} {k n : Nat} {sp : Sp} {CX : CXT} {kws : List (Str × V)}
theorem DefT.okKo (T : DefT K mg x st f fd) (hb : ∀ (kV doc pm : Value) (an : Option Addr) (cdv ct : Value) (us ws : List Value), us.length = n → ws.length = ks.length → bindArgs (PySem.W.fnOf x x (defArgs st) (defBody st) (defScope st) .none kV doc pm an cdv ct) ⟨us, ks.zip ws⟩ = pure (ps.zip (us ++ ws)))
    (F : FnOk P w K mg base CX k f fd ps sp) : OkKo P w K mg base CX k x n ks sp := by
  obtain ⟨oc, od, kV, doc, pm, an, cdv, ct, osl, rfl, lk, hcd⟩ := T.F.ex
  exact ⟨f, _, ps, T.g, T.F.kp, ⟨fun s us ws _ l1 l2 => .of_eq (hb kV doc pm an cdv ct us ws l1 l2), fun r1 r2 => r1.append r2⟩, F⟩
theorem KwIs.okDf (T : DefT K mg x st f fd) (kw : KwIs K x st fd kws) (hk : kws ≠ []) (hn : n + kws.length = ps.length)
    (h : ∀ (D : Addr) (doc pm : Value) (an : Option Addr) (cdv ct : Value) (us ks : List Value), us.length = n → ks.length = kws.length →
      KwChain D ((kws.map (·.1)).zip ks) (bindArgs (PySem.W.fnOf x x (defArgs st) (defBody st) (defScope st) .none (.ref D) doc pm an cdv ct) ⟨us, []⟩) (ps.zip (us ++ ks)))
    (F : FnOk P w K mg base CX k f fd ps sp) : OkDf P w K mg base CX k x (kws.map (·.2)) sp := by
  obtain ⟨D, doc, pm, an, cdv, ct, rfl, hcc, hq⟩ := kw
  obtain ⟨oc, od, kV', doc', pm', an', cdv', ct', osl, e, lk, hcd⟩ := T.F.ex
  have FD : FunD K x x (defArgs st) (defBody st) (defScope st) [] kws f _ := ⟨⟨oc, od, .none, .ref D, doc, pm, an, cdv, ct, osl, rfl, lk, hcc, .inl ⟨rfl, rfl⟩, .inr ⟨D, rfl, hq⟩⟩, T.F.kp⟩
  obtain ⟨ds, hv, hb⟩ := FD.binds0 n hk hn h
  exact ⟨f, _, ps, ds, T.g, T.F.kp, hv, hb, F⟩
end
end Dn

/-! Values as trees: the keys of a dict, one by one. -/
namespace Dn
open PySem PySem.Spec PyProof.Rows L2 Br
def keyD : Key → D
  | .inl i => .int i
  | .inr x => .str x
def gKeys : List D → Option (List D)
  | [.dct ks] => some (ks.map fun kv => keyD kv.1)
  | _ => none
theorem keyD_dv {g : G} {H : Hp} (k : Key) : Dv g H (kV k) (keyD k) := by cases k <;> first | exact .int _ | exact .str _
theorem walk_keys {d : Addr} {o : Obj} {kvs : List (Key × V)} : Walk (Itk d o kvs) kvs.length (fun H => H d = some (.frz o (.dK kvs))) (fun i H v H' => H' = H ∧ ∃ k w, kvs[i]? = some (k, w) ∧ v = kV k) :=
  ⟨fun i H hi h => ⟨h, hi⟩, fun H h => ⟨h, Nat.le_refl _⟩, fun i H v H' hi _ y => y⟩
theorem wk_keys {g : G} {H : Hp} {d : Addr} {o : Obj} {kvs : List (Key × V)} {ks : List (Key × D)} (h : H d = some (.frz o (.dK kvs))) (k : DvK g H kvs ks) : Wk g H (Itk d o kvs) (ks.map fun kv => keyD kv.1) := by
  have w := walk_keys (d := d) (o := o) (kvs := kvs)
  have e : kvs.length = (ks.map fun kv => keyD kv.1).length := by rw [List.length_map, k.len]
  rw [e] at w
  refine w.mono (fun H' s => s _ _ h) fun i H1 v H' hi s y Hv sv su => ?_
  obtain ⟨rfl, q, u, e1, rfl⟩ := y
  have e2 := k.keys
  have e3 : (ks.map (·.1))[i]? = some q := by rw [← e2, List.getElem?_map, e1]; rfl
  refine ⟨keyD q, Hv, ?_, .refl su, .refl _, keyD_dv q⟩
  rw [List.getElem?_map] at e3 ⊢
  cases q2 : ks[i]? with
  | none => rw [q2] at e3; cases e3
  | some kv => rw [q2] at e3; cases e3; rfl
section
variable {X : Cx} {Z : Zx} {e tge : Expr} {de : DE}
theorem di_keys (h : PE X e (lift Z de)) : PI X tge e (liftI Z (dIt gKeys (dCons de dNil))) := upI (pi_keys h) fun σ H R ⟨δ, Hv, n, P, E, r, h1, q, x⟩ => by
  refine ⟨δ, Hv, n, _, E, r, h1, (fun d v H' Hv' n' h2 e p k => ?_), x⟩
  obtain ⟨ys, hy, h3⟩ := h2
  cases k with
  | dct ha kk => cases hy; exact ⟨_, _, rfl, .inl ⟨_, e.sub _ _ ha, q _ _ _ _ _ h3 e p (wk_keys ha kk)⟩⟩
  | _ => cases hy
end
end Dn
/-! ### the sum of a row -/
namespace Dn
open PySem PySem.Spec PyProof.Rows L2 Br
theorem sum_tup {prog : Program} {w : World} {A : Around} {E : Value → Shared → Prop} {s : Shared} {a : Addr} {its : List Value} {ns : List Int} {Q : Value → Shared → Prop} (hh : A.handled = none) (hT : s.heap.IsTuple a its.toArray) (hi : IntsAre its ns)
    (h : ∀ h' tk t', (∀ b o, s.heap.get? b = some o → h'.get? b = some o) → Q (.int ns.sum t') { s with heap := h', toks := tk }) : wpAny (model prog w) A (call (.builtin "sum") [.ref a]) Q E s := by
  obtain ⟨xs, e⟩ := hi.allInts.items
  have hn : numsOf (intItems xs).toList = ns := by
    rw [← e]
    exact hi.numsOf
  rw [nums_intItems] at hn
  rw [e] at hT
  have lt : a < s.heap.objs.size := by obtain ⟨o, ho, _⟩ := hT; exact Heap.lt_size ho
  refine call_sum_walkG (wpAny_pyIter_tuple hT ?_)
  refine ⟨_, [_, a], [_], _, _, _, numAt xs, rfl, Walks.tuple (A := A.in1) hh _ a (Nat.ne_of_lt lt) (intItems xs), ⟨⟨_, Heap.get?_push_size _ rfl, rfl, rfl⟩, hT.push _⟩, fun c hc => ?_, (fun _ _ => intItems_at), fun h' tk t' hk => ?_⟩
  · rw [Heap.size_push]
    rcases List.mem_cons.mp hc with rfl | hc
    · exact Nat.lt_succ_self _
    · have : c = a := by simpa using hc
      rw [this]
      exact Nat.lt_succ_of_lt lt
  · have old : ∀ b o, s.heap.get? b = some o → h'.get? b = some o := by
      intro b o e
      refine hk b o (fun hm => ?_) (Heap.get?_push_of_some _ e)
      have : b = s.heap.objs.size := by simpa using hm
      exact Nat.ne_of_lt (Heap.lt_size e) this
    have := h h' tk t' old
    simp only [intItems, Array.size_map] at *
    rw [preSum_eq, List.take_of_length_le (by simp), hn]
    exact this
section
variable {X : Cx} {g : G}
def rSumT (K : PySem.W.Frag) : List V → Hp → VK → Prop := fun vs H Q => ∃ (a : Addr) (ns : List Int), vs = [V.ref a] ∧ SqT K H a (ns.map V.int) ∧ Q (.int ns.sum) H
theorem cr_sumT (hc : X.calm = true) : CallR X (.builtin "sum") (rSumT X.K) := by
  intro pins s σ H vs us Q I r h
  obtain ⟨a, ns, rfl, hs, q⟩ := h
  obtain ⟨its, rv, ht, _⟩ := I.tuple hs
  rw [Vals.ref1 r]
  refine sum_tup (I.ok.hd hc) ht rv.ints ?_
  intro h' tk t' hk
  exact ⟨.int _, H, I.kept hk, ⟨_, rfl⟩, q⟩
def gSumA : List D → Option D
  | [.lst xs] => (intsOf xs).map fun bs => .int bs.sum
  | [.tup xs] => (intsOf xs).map fun bs => .int bs.sum
  | _ => none
theorem c_sumA (hc : X.calm = true) (zk : g.K = X.K) : DCl X g (.builtin "sum") gSumA := by
  refine ⟨_, callr_or (cr_sum hc) (cr_sumT hc), ?_⟩
  intro H Hv xs ds d Q s k hf q
  unfold gSumA at hf
  split at hf
  · rename_i ys
    cases e : intsOf ys with
    | none => rw [e] at hf; cases hf
    | some bs =>
      rw [e] at hf
      cases hf
      cases k with
      | cons k1 k2 =>
        cases k2
        cases k1 with
        | lst ha ks => exact .inl ⟨_, bs, rfl, by rw [← intsOf_dv ks e]; exact sqL (s _ _ ha), q.here s (.int _)⟩
  · rename_i ys
    cases e : intsOf ys with
    | none => rw [e] at hf; cases hf
    | some bs =>
      rw [e] at hf
      cases hf
      cases k with
      | cons k1 k2 =>
        cases k2
        cases k1 with
        | tup ha ks => exact .inr ⟨_, bs, rfl, by rw [← intsOf_dv ks e]; exact zk ▸ same_seqT s ha, q.here s (.int _)⟩
  · cases hf
end
end Dn

/-! Values as trees: reasoning about errors kept, lambdas, dicts. -/
namespace Dn
open PySem PySem.Spec PyProof.Rows L2 Br
theorem y_isDict0 : isDict .non = some false := rfl
theorem y_isDict1 (b : Bool) : isDict (.bl b) = some false := rfl
theorem y_isDict2 (i : Int) : isDict (.int i) = some false := rfl
theorem y_isDict3 (x : Str) : isDict (.str x) = some false := rfl
theorem y_isDict4 (xs : List D) : isDict (.lst xs) = some false := rfl
theorem y_isDict5 (xs : List D) : isDict (.tup xs) = some false := rfl
theorem y_isDict6 (ks : List (Key × D)) : isDict (.dct ks) = some true := rfl
theorem y_keys (ks : List (Key × D)) : gKeys [.dct ks] = some (ks.map fun kv => keyD kv.1) := rfl
theorem y_revL (xs : List D) : gRevL [.lst xs] = some (.lst xs.reverse) := rfl
theorem y_sum1 (xs : List D) : gSumA [.lst xs] = (intsOf xs).map fun bs => .int bs.sum := rfl
theorem y_sum2 (xs : List D) : gSumA [.tup xs] = (intsOf xs).map fun bs => .int bs.sum := rfl
theorem y_xf (cs : List Str) (f c : Str) (fs : List (Str × D)) : gXf cs f [.exc c fs] = if c ∈ cs then fs.lookup f else none := rfl
theorem y_isX (x : Str) (b : Bool) (fs : List (Str × D)) : gIsX (only x b) [.exc x fs] = some (.bl b) := by simp [gIsX, only]
theorem intsOf_row : ∀ xs : List Int, intsOf (row xs) = some xs
  | [] => rfl
  | x :: r => by
    show (intsOf (row r)).map (x :: ·) = _
    rw [intsOf_row r]
    rfl
theorem log2_lt {i : Int} {k : Nat} (h : i.natAbs < 2 ^ k) : i.natAbs.log2 < k + 1 := by
  by_cases h0 : i.natAbs = 0
  · rw [h0]
    show 0 < k + 1
    omega
  · have := (Nat.log2_lt h0).mpr h
    omega
end Dn

/-! Values as trees: defs that hand out a list that nobody else has. -/
namespace Dn
open PySem PySem.Spec PyProof.Rows L2 Br LamX
/-- what a def computes: shared data, or a list that nobody else has -/
def dDefS (m N : Nat) (t : DT) : List D → M Sl := fun ds n P E => ds.length = m ∧ t ⟨fun _ n' => P (.sh .non) n', P, fun _ _ => False, fun _ _ => False, fun _ => E⟩ (startD N ds) n
def QOkS (g : G) (H Hv : Hp) (P : Sl → Nat → Prop) (Q : VK) : Prop := ∀ s v H' Hv' n', P s n' → Ext g H Hv H' Hv' → Pn g H' n' → SOk g H H' Hv' v s → Q v H'
def spUS (K : PySem.W.Frag) (mg : Str → Option Value) (kn : Kn) (U : List D → M Sl) : Sp := fun vs H Q E => ∃ pd pc Hv ds n P Ex, Same Hv H ∧ Hd pd Hv ∧ Pn ⟨K, mg, pd, pc, kn⟩ H n ∧ DvAll ⟨K, mg, pd, pc, kn⟩ Hv vs ds ∧ U ds n P Ex ∧ QOkS ⟨K, mg, pd, pc, kn⟩ H Hv P Q ∧ EOk ⟨K, mg, pd, pc, kn⟩ H Hv Ex E
theorem SOk.back {g : G} {H Hv H1 Hv1 H' Hv' : Hp} {v : V} {s : Sl} {n : Nat} (e : Ext g H Hv H1 Hv1) (p : Pn g H1 n) (h : SOk g H1 H' Hv' v s) : SOk g H H' Hv' v s := by
  have back : ∀ {q : Addr}, H1 q = none → H q = none := fun {q} hq => by
    by_cases hz : q = g.pd
    · subst hz; exact absurd hq p.pd
    · cases w : H q with
      | none => rfl
      | some o =>
        obtain ⟨_, w1, _⟩ := e.but q o hz w
        rw [hq] at w1; cases w1
  cases s with
  | sh d => exact h
  | ow ds =>
    obtain ⟨q, vs, rfl, h1, h2, h3, h4⟩ := h
    exact ⟨q, vs, rfl, back h1, h2, h3, h4⟩
  | sf q c fs => exact h.elim
  | od ks =>
    obtain ⟨q, vs, rfl, h1, h2, h3, h4⟩ := h
    exact ⟨q, vs, rfl, back h1, h2, h3, h4⟩
theorem QOkS.step {g : G} {H Hv H1 Hv1 : Hp} {P : Sl → Nat → Prop} {Q : VK} {n : Nat} (h : QOkS g H Hv P Q) (e : Ext g H Hv H1 Hv1) (p : Pn g H1 n) : QOkS g H1 Hv1 P Q := fun s v H' Hv' n' hp e' p' x => h s v H' Hv' n' hp (e.trans (fun _ => p.pd) e') p' (x.back e p)
/-- what a def hands out, as a tree -/
def dSee (o : DO) : DE := fun δ n P E => o δ n (fun s n' => match s with | .sh d => P d n' | .ow ds => P (.lst ds) n' | _ => False) E
def dIfO (t : DE) (a b : DO) : DO := fun δ n P E => t δ n (fun x n' => ∃ c, x = .bl c ∧ if c = true then a δ n' P E else b δ n' P E) E
def dCallO0 (U : List D → M Sl) (a : DA) : DO := fun δ n P E => a δ n (fun xs n1 => U xs n1 P (fun _ _ _ => False)) E
def dCallO (U : List D → M Sl) (a : DA) : DO := fun δ n P E => a δ n (fun xs n1 => U xs n1 P E) E
section
variable {P : Program} {w : World} {K : PySem.W.Frag} {mg : Str → Option Value} {base : Heap} {kn : Kn} {x qual : Str} {st : Stmt} {f : Addr} {fd : FuncData} {N ps : List Str} {k m nn : Nat} {t : DT} {U : List D → M Sl}
theorem spUS_len {vs : List V} {H : Hp} {Q : VK} {E : XK} (h : spUS K mg kn (dDefS m nn t) vs H Q E) : vs.length = m := by
  obtain ⟨pd, pc, Hv, ds, n, Pz, Ex, _, _, _, k, ⟨hl, _⟩, _⟩ := h
  rw [k.len, hl]
theorem body_ofS {Z : Zx} {H Hv : Hp} {vs : List V} {ds : List D} {n : Nat} {Pz : Sl → Nat → Prop} {Ex : XD} {Q : VK} {E : XK} (h0 : Z.H0 = H) (hv0 : Z.Hv0 = Hv) (hW : ∀ c d σ H', E c d H' → Z.W c d σ H') (s : Same Hv H) (np : Hd Z.g.pd Hv) (p : Pn Z.g H n) (k : DvAll Z.g Hv vs ds) (hU : dDefS m N.length t ds n Pz Ex) (q : QOkS Z.g H Hv Pz Q) (x : EOk Z.g H Hv Ex E) :
    liftS Z t { nx := fun _ H' => Q .non H', rt := Q } (L2.start N vs) H := by
  subst h0 hv0
  refine ⟨startD N.length ds, Z.Hv0, n, _, start_rel s np p k, hU.2, fun δ' n' σ' H' Hv' a b r => q (.sh .non) .non H' Hv' n' a r.ext r.pen Dv.non, fun s v H' Hv' n' a e p' kd => q s v H' Hv' n' a e p' kd, fun _ _ _ _ _ a => a.elim, fun _ _ _ _ _ a => a.elim, fun δ' σ' H' Hv' n' c fs cls dd a b r y => hW _ _ _ _ (x c fs n' cls dd H' Hv' a r.ext r.pen y)⟩
theorem fn_DS (F : Fun K x qual st f fd) (S : FnScope N ps (defScope st)) (hm : ps.length = m)
    (hb : ∀ (cdv : Value) (A : Around) (outer : List Env) (s : Shared) (H : Hp) (E : XK) (Z : Zx), Room k (A.deeper (envOfC qual (defScope st) s.heap.objs.size f cdv)) → Z.g.K = K → Z.g.mg = mg → Z.g.kn = kn → PSs (cxOf CX0 P w K mg base N qual (defScope st) f cdv A outer s H E).nox (defBody st) (liftS Z t)) :
    FnOk P w K mg base CX0 (k + 1) f fd ps (spUS K mg kn (dDefS m N.length t)) := by
  refine F.ok S (fun vs H Q E h => by rw [spUS_len h, hm]) (fun cdv A outer s H vs Q E hr h => ?_)
  obtain ⟨pd, pc, Hv, ds, n, Pz, Ex, sm, np, p, kk, hU, q, xx⟩ := h
  exact ⟨_, hb cdv A outer s H E ⟨⟨K, mg, pd, pc, kn⟩, H, Hv, fun c d _ H' => E c d H'⟩ hr rfl rfl rfl, body_ofS rfl rfl (fun _ _ _ _ z => z) sm np p kk hU q xx⟩
theorem fn_DXS (F : Fun K x qual st f fd) (S : FnScope N ps (defScope st)) (hm : ps.length = m)
    (hb : ∀ (cdv : Value) (A : Around) (outer : List Env) (s : Shared) (H : Hp) (E : XK) (Z : Zx), Room k (A.deeper (envOfC qual (defScope st) s.heap.objs.size f cdv)) → Z.g.K = K → Z.g.mg = mg → Z.g.kn = kn → Z.W = (fun c d _ H' => E c d H') → PSs (cxOf (L2.CX P w) P w K mg base N qual (defScope st) f cdv A outer s H E) (defBody st) (liftS Z t)) :
    FnOk P w K mg base (L2.CX P w) (k + 1) f fd ps (spUS K mg kn (dDefS m N.length t)) := by
  refine F.okX S (fun vs H Q E h => by rw [spUS_len h, hm]) (fun cdv A outer s H vs Q E hr h => ?_)
  obtain ⟨pd, pc, Hv, ds, n, Pz, Ex, sm, np, p, kk, hU, q, xx⟩ := h
  exact ⟨_, hb cdv A outer s H E ⟨⟨K, mg, pd, pc, kn⟩, H, Hv, fun c d _ H' => E c d H'⟩ hr rfl rfl rfl rfl, body_ofS rfl rfl (fun _ _ _ _ z => z) sm np p kk hU q xx⟩
end
section
variable {X : Cx} {Z : Zx} {e a b c : Expr} {es : List Expr} {dc : DE} {oa ob : DO} {ra : DA} {pos p : Pos} {k : Nat} {x : Str} {ps : List Str} {U : List D → M Sl} {kn : Kn}
theorem d_see (h : PE X e (liftO Z oa)) : PE X e (lift Z (dSee oa)) := up h fun σ H Q ⟨δ, Hv, n, P, E, r, h1, q, xx⟩ => by
  refine ⟨δ, Hv, n, _, E, r, h1, (fun s v H' Hv' n' h2 ee p k => ?_), xx⟩
  cases s with
  | sh d => exact q d v H' Hv' n' h2 ee p k
  | ow ds =>
    obtain ⟨u, vs, rfl, h3, h4, h5, h6⟩ := k
    have sv : Same Hv' (upd Hv' u (.lst vs)) := same_new h5
    refine q _ _ H' (upd Hv' u (.lst vs)) n' h2 ⟨ee.but, ee.see.trans sv, fun b o hb => ?_, fun a h1 h2 => ?_, fun z => (ee.nt z).upd (fun _ w => by cases w)⟩ p (.lst upd_same (h6.mono sv))
    · by_cases e : b = u
      · subst e; rw [upd_same] at hb; cases hb; exact h4
      · rw [upd_ne e] at hb; exact ee.sub b o hb
    · have : a ≠ u := fun z => h2 (by rw [z]; exact h3)
      rw [upd_ne this]; exact ee.hid a h1 h2
  | sf _ _ _ => exact h2.elim
  | od _ => exact h2.elim
theorem o_ifExp (hc : PT X c (liftT Z dc)) (ha : PE X a (liftO Z oa)) (hb : PE X b (liftO Z ob)) : PE X (.IfExp c a b pos) (liftO Z (dIfO dc oa ob)) := up (pe_ifExp hc ha hb) fun σ H Q ⟨δ, Hv, n, P, E, rr, h1, q, x⟩ =>
  ⟨δ, Hv, n, _, E, rr, h1, fun d v H' Hv' n' h2 e p k => by
    obtain ⟨c, rfl, h3⟩ := h2
    have q' : QOkS Z.g H' Hv' P Q := QOkS.step (show QOkS Z.g H Hv P Q from q) e p
    refine ⟨c, dv_bl k, ?_⟩
    cases c with
    | true => rw [if_pos rfl] at h3 ⊢; exact ⟨δ, Hv', n', P, E, rr.step e p, h3, q', x.step e p⟩
    | false => rw [if_neg Bool.false_ne_true] at h3 ⊢; exact ⟨δ, Hv', n', P, E, rr.step e p, h3, q', x.step e p⟩, x⟩
theorem o_call0 (o : OkD X.prog X.w X.K X.mg X.base CX0 k x ps (spUS X.K X.mg kn U)) (hr : Room k X.A) (zk : Z.g.K = X.K) (zm : Z.g.mg = X.mg) (zn : Z.g.kn = kn) (ha : PA X (e :: es) (liftA Z ra)) (hg : Gl X x := by rfl)
    (hdb : (x == ("__debug__" : Str)) = false := by decide) (he : starEach (e :: es) X.env = (false, eval e X.env) :: starEach es X.env := by rfl) (hpl : (backTo pos (starEach es X.env)).any (·.1) = false := by rfl) :
    PE X (.Call (.Name x p) (e :: es) [] pos) (liftO Z (dCallO0 U ra)) := up (pe_callD o hr ha hg hdb he hpl) fun σ H Q ⟨δ, Hv, n, P, E, r, h1, q, xx⟩ => by
  refine ⟨δ, Hv, n, _, E, r, h1, (fun d v H' Hv' n' h2 ee p k => ?_), xx⟩
  have eg := eta_g zk zm zn
  have q' : QOkS Z.g H' Hv' P Q := QOkS.step (show QOkS Z.g H Hv P Q from q) ee p
  refine ⟨Z.g.pd, Z.g.pc, Hv', d, n', P, (fun _ _ _ => False), ee.sub, (r.step ee p).npd, ?_⟩
  rw [eg]
  exact ⟨p, k, h2, q', fun _ _ _ _ _ _ _ z => z.elim⟩
theorem o_callX (o : OkD X.prog X.w X.K X.mg X.base (L2.CX X.prog X.w) k x ps (spUS X.K X.mg kn U)) (hr : Room k X.A) (zk : Z.g.K = X.K) (zm : Z.g.mg = X.mg) (zn : Z.g.kn = kn) (tk : Takes X Z.W) (ha : PA X (e :: es) (liftA Z ra)) (hg : Gl X x := by rfl)
    (hdb : (x == ("__debug__" : Str)) = false := by decide) (he : starEach (e :: es) X.env = (false, eval e X.env) :: starEach es X.env := by rfl) (hpl : (backTo pos (starEach es X.env)).any (·.1) = false := by rfl) :
    PE X (.Call (.Name x p) (e :: es) [] pos) (liftO Z (dCallO U ra)) := up (pe_callDS o hr tk ha hg hdb he hpl) fun σ H Q ⟨δ, Hv, n, P, E, r, h1, q, xx⟩ => by
  refine ⟨δ, Hv, n, _, E, r, h1, (fun d v H' Hv' n' h2 ee p k => ?_), xx⟩
  have eg := eta_g zk zm zn
  have q' : QOkS Z.g H' Hv' P Q := QOkS.step (show QOkS Z.g H Hv P Q from q) ee p
  refine ⟨Z.g.pd, Z.g.pc, Hv', d, n', P, E, ee.sub, (r.step ee p).npd, ?_⟩
  rw [eg]
  exact ⟨p, k, h2, q', xx.step ee p⟩
end
/-! ### lambdas that hand out such -/
def dActS (i : Nat) (fd : D) (T : M Sl) : DO := fun δ n P E => δ[i]? = some (some (.sh fd)) ∧ T n P E
def ActS (Xc : Cx) (Z : Zx) (a : Str) (i : Nat) (fd : D) (T : M Sl) : Prop :=
  ∀ (W : WX) (pn : List (Addr × Obj)) (xe : Value → Shared → Prop) (p1 p2 : Pos), Takes (Xc.tr pn xe) W → PE (Xc.tr pn xe) (.Call (.Name a p1) [] [] p2) (liftO ⟨Z.g, Z.H0, Z.Hv0, W⟩ (dActS i fd T))
theorem act_ofS {X : Cx} {pins : List (Addr × Obj)} {σ : L2.St} {H Hv : Hp} {s : Shared} {Ng : List Str} {qg a : Str} {sg scope : Scope} {g f c : Addr} {cdg pm ct : Value} {params : Arguments} {body : Expr} {k i n : Nat} {Z : Zx} {W0 : WX} {de : DO} {δ : DS}
    (I : Inv X pins σ H s) (LS : LamS X.env.scope scope) (hf : s.heap.get? f = some (lamO X params body scope pm c ct)) (hfn : H f = none) (hfr : f ∉ frs X.stack)
    (hbind : bindArgs (lamF X params body scope pm c ct) ⟨[], []⟩ = pure []) (hr : Room (k + 1) (X.A.deeper (envOfC qg sg s.heap.objs.size g cdg)))
    (hbody : ∀ (E : XK) (A : Around) (outer : List Env) (s : Shared) (H : Hp), Room k (A.deeper (lamEnv X scope s.heap.objs.size f c)) → PE (lamCx X A outer s H E scope f c) body (liftO (Z.with E) de))
    (r : Rel Z.g Z.H0 Z.Hv0 σ H Hv δ n) (hN : Ng[i]? = some a) (hv : Vis sg a) (hd : (a == ("__debug__" : Str)) = false) (hcd : (a == ("__classdict__" : Str)) = false) (hc : H c = some (CodeO c (X.env.qual ++ "<lambda>"))) :
    ActS (gCx X Ng qg sg g cdg s H) ⟨Z.g, H, Hv, W0⟩ a i (.fn f c (X.env.qual ++ "<lambda>")) (fun n P E => de δ n P E) := by
  intro W pn xe p1 p2 tk
  refine up (pe_actS I LS hf hfn hfr hbind tk hr hbody hN hv hd hcd) ?_
  rintro σz Hz Q ⟨δz, Hvz, nz, P, E, rz, ⟨h1, h2⟩, q, x⟩
  obtain ⟨v, e1, e2⟩ := slot_at rz h1
  cases e2
  have np : c ≠ Z.g.pd := fun z => by
    obtain ⟨_, _, _, w, _⟩ := r.pen.pen
    rw [← z, hc] at w
    cases w
  exact ⟨e1, rz.ext.at np hc (codeO_ne ·), δ, Hvz, nz, P, E, r.step rz.ext rz.pen, h2, q, x⟩
def LamOkS (P : Program) (w : World) (K : PySem.W.Frag) (mg : Str → Option Value) (base : Heap) (k : Nat) (x a : Str) (kn : Kn) (m N : Nat) (B : D → M Sl → DT) : Prop :=
  ∃ (f : Addr) (fd : FuncData) (st : Stmt) (Ns ps : List Str), mg x = some (.ref f) ∧ Fun K x x st f fd ∧ Binds K fd ps [] ∧ FnScope Ns ps (defScope st) ∧ Ns[0]? = some a ∧ Vis (defScope st) a ∧ ps.length = m ∧ Ns.length = N ∧
    ∀ (cdv : Value) (A : Around) (outer : List Env) (s : Shared) (H : Hp) (Z : Zx) (d : D) (T : M Sl), Room k (A.deeper (envOfC x (defScope st) s.heap.objs.size f cdv)) → Z.g.K = K → Z.g.mg = mg → Z.g.kn = kn →
      ActS (cxOf CX0 P w K mg base Ns x (defScope st) f cdv A outer s H E0) Z a 0 d T → PSs (cxOf CX0 P w K mg base Ns x (defScope st) f cdv A outer s H E0).nox (defBody st) (liftS Z (B d T))
def dLamDefS (m N : Nat) (B : D → M Sl → DT) (T : M Sl) (xs : List D) : M Sl := fun n P E => ∀ f c q, dDefS m N (B (.fn f c q) T) (.fn f c q :: xs) n P E
def dLamS (U : M Sl → List D → M Sl) (de : DO) (xs : List D) : DO := fun δ n P E => U (fun n P E => de δ n P E) xs n P (fun _ _ _ => False)
section
variable {X : Cx} {Z : Zx} {x a : Str} {kn : Kn} {k kf m N : Nat} {B : D → M Sl → DT} {cm P : Addr} {params : Arguments} {body : Expr} {scope : Scope} {lpos p pos cpos : Pos} {de : DO} {j : Nat} {y : Str}
theorem lam_runS {pins : List (Addr × Obj)} {σ : L2.St} {H Hv : Hp} {s : Shared} {f c g : Addr} {pm ct : Value} {n : Nat} {δ : DS} {Q : VK} {us : List Value} {vs : List V} {ds : List D} {Pz : Sl → Nat → Prop}
    (O : LamOkS X.prog X.w X.K X.mg X.base kf x a kn m N B) (hkf : kf ≤ k + 1) (hr : Room (k + 2) X.A) (zk : Z.g.K = X.K) (zm : Z.g.mg = X.mg) (zn : Z.g.kn = kn) (gm : X.mg x = some (.ref g)) (LS : LamS X.env.scope scope)
    (hbind : ∀ (q : Str) (cl : List (Str × Addr)) (pm cv ct : Value), bindArgs (PySem.W.kla_fn "<lambda>" q params body scope cl pm cv ct) ⟨[], []⟩ = pure [])
    (hbody : ∀ (E : XK) (A : Around) (outer : List Env) (s : Shared) (H : Hp) (f c : Addr), Room k (A.deeper (lamEnv X scope s.heap.objs.size f c)) → PE (lamCx X A outer s H E scope f c) body (liftO (Z.with E) de))
    (hd : (a == ("__debug__" : Str)) = false) (hcd : (a == ("__classdict__" : Str)) = false)
    (I : Inv X pins σ H s) (hf : s.heap.get? f = some (lamO X params body scope pm c ct)) (hfn : H f = none) (hfr : f ∉ frs X.stack) (hc : H c = some (CodeO c (X.env.qual ++ "<lambda>")))
    (r : Rel Z.g Z.H0 Z.Hv0 σ H Hv δ n) (rv : Vals vs us) (kd : DvAll Z.g Hv vs ds) (hU : dLamDefS m N B (fun n P E => de δ n P E) ds n Pz (fun _ _ _ => False)) (q : QOkS Z.g H Hv Pz Q) :
    codeAny (model X.prog X.w) X.A (.call (.ref g) ⟨.ref f :: us, []⟩) (CR CX0 X.stack X.prog X.w H s Q E0) s := by
  obtain ⟨f', fd, st, Ns, ps, g1, F, bd, S, h0, hv, hm, hN, body'⟩ := O
  obtain rfl : f' = g := Value.ref.inj (Option.some.inj (g1.symm.trans gm))
  obtain ⟨oc, od, kV, doc, pm', an, cdv, ct', osl, rfl, lk, hcc⟩ := F.ex
  have hU' := hU f c (X.env.qual ++ "<lambda>")
  have hlen : ds.length + 1 = m := hU'.1
  have bt := bd s (.ref f :: us) I.kIn (by
    have e1 := rv.length
    have e2 := kd.len
    rw [List.append_nil, List.length_cons]
    omega)
  rw [List.append_nil] at bt
  refine run_ofS (N := Ns) (ps := ps) (us := .ref f :: us) (vs := .ref f :: vs) (k := k + 1) lk hcc S hr I.env0 bt (.cons rfl rv) ?_ ?_
  · have := kd.len
    simp only [List.length_cons]
    omega
  · intro hr'
    have act := act_ofS (W0 := fun _ _ _ _ => False) (g := f') (cdg := cdv) (qg := x) (Ng := Ns) (a := a) (i := 0) I LS hf hfn hfr (hbind _ _ _ _ _) hr' (fun E A outer s H h => hbody E A outer s H f c h) r h0 hv hd hcd hc
    refine ⟨_, (body' cdv X.A X.stack s H ⟨Z.g, H, Hv, fun _ _ _ _ => False⟩ _ _ (hr'.mono hkf) zk zm zn act).nox, ?_⟩
    subst hN
    exact body_ofS (N := Ns) (Z := ⟨Z.g, H, Hv, fun _ _ _ _ => False⟩) (E := E0) rfl rfl (fun _ _ _ _ z => z) r.sub r.npd r.pen (.cons (.fn f c _) kd) hU' q (fun _ _ _ _ _ _ _ z => z.elim)
theorem o_lam (O : LamOkS X.prog X.w X.K X.mg X.base kf x a kn 1 N B) (hkf : kf ≤ k + 1) (hr : Room (k + 2) X.A) (zk : Z.g.K = X.K) (zm : Z.g.mg = X.mg) (zn : Z.g.kn = kn) (TB : TabB X.base X.mg cm P) (hcode : X.env.code = .ref cm)
    (hmT : (P, X.env.qual ++ "<lambda>") ∈ kn.tb) (hu : ∀ p ∈ kn.tb, p.1 = P → p.2 = X.env.qual ++ "<lambda>") (LS : LamS X.env.scope scope)
    (hbody : ∀ (E : XK) (A : Around) (outer : List Env) (s : Shared) (H : Hp) (f c : Addr), Room k (A.deeper (lamEnv X scope s.heap.objs.size f c)) → PE (lamCx X A outer s H E scope f c) body (liftO (Z.with E) de))
    (hdef : defaultsOf params X.env = ([], []) := by rfl) (hbind : ∀ (q : Str) (cl : List (Str × Addr)) (pm cv ct : Value), bindArgs (PySem.W.kla_fn "<lambda>" q params body scope cl pm cv ct) ⟨[], []⟩ = pure [] := by intros; rfl)
    (hg : Gl X x := by rfl) (hdb : (x == ("__debug__" : Str)) = false := by decide) (hd : (a == ("__debug__" : Str)) = false := by decide) (hcd : (a == ("__classdict__" : Str)) = false := by decide) :
    PE X (.Call (.Name x p) [.Lambda params body scope lpos] [] pos) (liftO Z (dLamS (dLamDefS 1 N B) de [])) := by
  constructor
  rintro pins s σ H Q I ⟨δ, Hv, n, Pz, E, r, hU, q, xx⟩
  have O' := O
  obtain ⟨g, fd, st, Ns, ps, gm, F, -⟩ := O'
  refine wpAny_Call_Name_kw (ld_glob I hg gm ?_ hdb)
  refine PySem.W.callWith_K (h₀ := X.base) I.ok.mod.kin F.kp ?_ (by rfl) (by rfl)
  refine Calls.spliced_cons (lam_makeP I TB hcode hmT hu (zn ▸ r.pen.tab) hdef (LS.has I.ok) ?_)
  intro f c pm ct H1 s1 I1 M T1 hf hfn hfr hc
  refine Calls.spliced_nil ⟨I1.kIn, ?_⟩
  have e1 : Ext Z.g H Hv H1 Hv := made_ext r.sub r.npd.2 M
  have p1 : Pn Z.g H1 n := ⟨made_pen r.pen.pen M, by rw [zn]; exact T1⟩
  have rc := lam_runS (Q := Q) (us := []) (vs := []) (ds := []) O hkf hr zk zm zn gm LS hbind hbody hd hcd I1 hf hfn hfr hc (r.step e1 p1) .nil .nil hU (QOkS.step (show QOkS Z.g H Hv Pz Q from q) e1 p1)
  refine wpAny_call (codeAny_mono rc ?_)
  intro res s2 hq
  match res, hq with
  | .error e, hq => exact (show False from hq).elim
  | .ok (.ret u), hq => exact I1.after hq
  | .ok .next, hq => exact False.elim hq
  | .ok .brk, hq => exact False.elim hq
  | .ok .cont, hq => exact False.elim hq
/-- the same with a text behind the lambda -/
theorem o_lam1 {z : Str} {kk : Nat} {zpos : Pos} (O : LamOkS X.prog X.w X.K X.mg X.base kf x a kn 2 N B) (hkf : kf ≤ k + 1) (hr : Room (k + 2) X.A) (zk : Z.g.K = X.K) (zm : Z.g.mg = X.mg) (zn : Z.g.kn = kn) (TB : TabB X.base X.mg cm P) (hcode : X.env.code = .ref cm)
    (hmT : (P, X.env.qual ++ "<lambda>") ∈ kn.tb) (hu : ∀ p ∈ kn.tb, p.1 = P → p.2 = X.env.qual ++ "<lambda>") (LS : LamS X.env.scope scope)
    (hbody : ∀ (E : XK) (A : Around) (outer : List Env) (s : Shared) (H : Hp) (f c : Addr), Room k (A.deeper (lamEnv X scope s.heap.objs.size f c)) → PE (lamCx X A outer s H E scope f c) body (liftO (Z.with E) de))
    (hdef : defaultsOf params X.env = ([], []) := by rfl) (hbind : ∀ (q : Str) (cl : List (Str × Addr)) (pm cv ct : Value), bindArgs (PySem.W.kla_fn "<lambda>" q params body scope cl pm cv ct) ⟨[], []⟩ = pure [] := by intros; rfl)
    (hg : Gl X x := by rfl) (hdb : (x == ("__debug__" : Str)) = false := by decide) (hd : (a == ("__debug__" : Str)) = false := by decide) (hcd : (a == ("__classdict__" : Str)) = false := by decide) :
    PE X (.Call (.Name x p) [.Lambda params body scope lpos, .Constant (.str z) kk zpos] [] pos) (liftO Z (dLamS (dLamDefS 2 N B) de [.str z])) := by
  constructor
  rintro pins s σ H Q I ⟨δ, Hv, n, Pz, E, r, hU, q, xx⟩
  have O' := O
  obtain ⟨g, fd, st, Ns, ps, gm, F, -⟩ := O'
  refine wpAny_Call_Name_kw (ld_glob I hg gm ?_ hdb)
  refine PySem.W.callWith_K (h₀ := X.base) I.ok.mod.kin F.kp ?_ (by rfl) (by rfl)
  refine Calls.spliced_cons (lam_makeP I TB hcode hmT hu (zn ▸ r.pen.tab) hdef (LS.has I.ok) ?_)
  intro f c pm ct H1 s1 I1 M T1 hf hfn hfr hc
  refine Calls.spliced_cons (Calls.Constant_str (k := kk) (pos := zpos) ?_)
  have I2 : Inv X pins σ H1 { s1 with toks := s1.toks + 1 } := I1.kept (h' := s1.heap) (t' := s1.toks + 1) (fun b o e => e)
  refine Calls.spliced_nil ⟨I2.kIn, ?_⟩
  have e1 : Ext Z.g H Hv H1 Hv := made_ext r.sub r.npd.2 M
  have p1 : Pn Z.g H1 n := ⟨made_pen r.pen.pen M, by rw [zn]; exact T1⟩
  have rc := lam_runS (Q := Q) (us := [.str z s1.toks]) (vs := [.str z]) (ds := [.str z]) O hkf hr zk zm zn gm LS hbind hbody hd hcd I2 hf hfn hfr hc (r.step e1 p1) (.cons ⟨_, rfl⟩ .nil) (.cons (.str z) .nil) hU (QOkS.step (show QOkS Z.g H Hv Pz Q from q) e1 p1)
  refine wpAny_call (codeAny_mono rc ?_)
  intro res s2 hq
  match res, hq with
  | .error e, hq => exact (show False from hq).elim
  | .ok (.ret u), hq => exact I2.after hq
  | .ok .next, hq => exact False.elim hq
  | .ok .brk, hq => exact False.elim hq
  | .ok .cont, hq => exact False.elim hq
end
end Dn

/-! Values as trees: dicts of the module, changed dicts, text.index(sign), the law's first row as a pair. -/
namespace Dn
open PySem PySem.Spec PyProof.Rows L2 Br LamX
/-! ### dicts of the module -/
def viewE (K : PySem.W.Frag) (e : DictEntry) : Option (Int × Key × D) :=
  match e.key, treeK K 200 e.val with
  | .int i _, some d => some (e.hash, .inl i, d)
  | .str x _, some d => some (e.hash, .inr x, d)
  | _, _ => none
def viewEs (K : PySem.W.Frag) : List DictEntry → Option (List (Int × Key × D))
  | [] => some []
  | e :: r => match viewE K e, viewEs K r with
    | some x, some xs => some (x :: xs)
    | _, _ => none
def viewD (K : PySem.W.Frag) (a : Addr) : Option (List (Int × Key × D)) := match K.lookup a with
  | some o => match o.cls, o.dict, o.data with
    | .type "dict", none, .dict es _ => if o.slots.size = 0 then viewEs K es.toList else none
    | _, _, _ => none
  | none => none
/-- the module's name x is a dict of trees -/
def KDc (K : PySem.W.Frag) (mg : Str → Option Value) (w : World) (x : Str) (ks : List (Key × D)) : Prop :=
  ∃ a : Addr, mg x = some (.ref a) ∧ (a == sysModules) = false ∧ viewD K a = some (ks.map fun p => (keyH w p.1, p.1, p.2)) ∧ (ks.map (·.1)).Nodup
theorem kdc_of {K : PySem.W.Frag} {mg : Str → Option Value} {w : World} {h : Heap} {x : Str} {a : Addr} {ks : List (Key × D)} (KX : K.In h) (G : h.Ns mainGlobals mg) (ha : PySem.W.nsIn K mainGlobals x = some (some (.ref a))) (hs : (a == sysModules) = false)
    (hv : viewD K a = some (ks.map fun p => (keyH w p.1, p.1, p.2))) (hn : (ks.map (·.1)).Nodup) : KDc K mg w x ks := ⟨a, PySem.W.mg_of KX G ha, hs, hv, hn⟩
section
variable {P : Program} {w : World} {K : PySem.W.Frag} {g : G}
theorem viewE_ok (hg : g.K = K) (Hv : Hp) {e : DictEntry} {i : Int} {k : Key} {d : D} (h : viewE K e = some (i, k, d)) : e.hash = i ∧ (mixKind P w).is k e.key = true ∧ ∃ v : V, RelV v e.val ∧ Dv g Hv v d := by
  unfold viewE at h
  split at h
  · rename_i j t d' e1 e2
    cases h
    obtain ⟨v, h1, h2⟩ := (treeK_dv hg Hv 200).1 _ _ e2
    exact ⟨rfl, by rw [e1]; exact mixKind_int P w _ _, v, h1, h2⟩
  · rename_i y t d' e1 e2
    cases h
    obtain ⟨v, h1, h2⟩ := (treeK_dv hg Hv 200).1 _ _ e2
    exact ⟨rfl, by rw [e1]; exact mixKind_str P w _ _, v, h1, h2⟩
  · cases h
theorem viewEs_ok (hg : g.K = K) (Hv : Hp) : ∀ (es : List DictEntry) (ks : List (Key × D)), viewEs K es = some (ks.map fun p => (keyH w p.1, p.1, p.2)) →
    ∃ (kvs : List (Key × V)) (vs : List (Key × Value)), Pairs (mixKind P w) es vs ∧ KV kvs vs ∧ DvK g Hv kvs ks ∧ vs.map (·.1) = ks.map (·.1) ∧ ∀ e ∈ es, ∃ k, (mixKind P w).is k e.key = true ∧ e.hash = (mixKind P w).hash k
  | [], ks, h => by
    have : ks = [] := by
      cases ks with
      | nil => rfl
      | cons p r => cases h
    subst this
    exact ⟨[], [], .nil, .nil, .nil, rfl, fun e he => by cases he⟩
  | e :: r, ks, h => by
    unfold viewEs at h
    split at h
    · rename_i x xs e1 e2
      cases ks with
      | nil => cases h
      | cons p ps =>
        have h' := Option.some.inj h
        rw [List.map_cons] at h'
        obtain ⟨h1, h2⟩ := List.cons.inj h'
        subst h1
        rw [h2] at e2
        obtain ⟨kvs, vs, a1, a2, a3, a4, a5⟩ := viewEs_ok hg Hv r ps e2
        obtain ⟨b1, b2, v, b3, b4⟩ := viewE_ok (P := P) (w := w) hg Hv e1
        refine ⟨(p.1, v) :: kvs, (p.1, e.val) :: vs, .cons b2 rfl a1, .cons ⟨rfl, b3⟩ a2, .cons b4 a3, by rw [List.map_cons, List.map_cons, a4], fun e' he => ?_⟩
        rcases List.mem_cons.mp he with rfl | he
        · exact ⟨p.1, b2, b1⟩
        · exact a5 e' he
    · cases h
theorem kdc_at {mg : Str → Option Value} {x : Str} {ks : List (Key × D)} (D : KDc K mg w x ks) (hg : g.K = K) (Hv : Hp) {h : Heap} (KX : K.In h) : ∃ (a : Addr) (kvs : List (Key × V)) (vs : List (Key × Value)), mg x = some (.ref a) ∧ (a == sysModules) = false ∧ KV kvs vs ∧ DvK g Hv kvs ks ∧ h.DictOf (mixKind P w) a vs := by
  obtain ⟨a, hm, hs, hv, hn⟩ := D
  unfold viewD at hv
  split at hv
  · rename_i o ho
    split at hv
    · rename_i es ep e1 e2 e3
      split at hv
      · rename_i hz
        obtain ⟨kvs, vs, a1, a2, a3, a4, a5⟩ := viewEs_ok (P := P) hg Hv _ _ hv
        refine ⟨a, kvs, vs, hm, hs, a2, a3, o, es, ep, KX a o ho, ⟨e1, e2, Array.eq_empty_of_size_eq_zero hz⟩, e3, fun e he => a5 e (Array.mem_toList_iff.mpr he), a1, by rw [a4]; exact hn⟩
      · cases hv
    · cases hv
  · cases hv
end
def gCD (ks : List (Key × D)) : List D → Option D
  | [k] => match dKey k with
    | some q => valD ks q
    | none => none
  | _ => none
def gCDIn (ks : List (Key × D)) : List D → Option D
  | [k] => (dKey k).map fun q => .bl (valD ks q).isSome
  | _ => none
def gCDNotIn (ks : List (Key × D)) : List D → Option D
  | [k] => (dKey k).map fun q => .bl !(valD ks q).isSome
  | _ => none
def gCDGet (ks : List (Key × D)) : List D → Option D
  | [k, d] => (dKey k).map fun q => (valD ks q).getD d
  | _ => none
section
variable {X : Cx} {Z : Zx} {o i e : Expr} {pos p : Pos} {dd dk de : DE} {ra : DA} {x : Str} {ks : List (Key × D)}
theorem kv_at {g : G} {Hv : Hp} {v : V} {u : Value} {d : D} {kq : Key} (k : Dv g Hv v d) (e : dKey d = some kq) (r : RelV v u) : RelV (kV kq) u := by rw [← key_dv k e]; exact r
theorem d_gdget (D : KDc X.K X.mg X.w x ks) (zk : Z.g.K = X.K) (hu : X.A.units + 64 < cLine) (hi : PE X i (lift Z dk)) (hg : Gl X x := by rfl) (hdb : (x == ("__debug__" : Str)) = false := by decide) (hs : NoSl i := by intro _ _; rfl) : PE X (.Subscript (.Name x p) i pos) (lift Z (dApp (gCD ks) (dCons dk dNil))) := by
  constructor
  rintro pins s σ H Q I ⟨δ, Hv, n, P, E, r, h1, q, xx⟩
  obtain ⟨a, gm, -⟩ := id D
  have nm : PE X (.Name x p) (tC (.ref a)) := pe_glob (v := .ref a) hg gm rfl hdb
  refine subD_of PySem.F.slot_dict_getitem.lookup hs (thn (nm.run pins s σ H (fun v H1 => v = .ref a ∧ H1 = H) I ⟨rfl, rfl⟩) fun u s1 ⟨v1, H1, I1, rx, e1, e2⟩ => ?_)
  subst e1 e2
  obtain rfl : u = Value.ref a := rx
  refine thn (hi.run pins s1 σ _ (fun y H2 => ∃ d Hv2 n2 kq v, Ext Z.g H1 Hv H2 Hv2 ∧ Pn Z.g H2 n2 ∧ Dv Z.g Hv2 y d ∧ dKey d = some kq ∧ valD ks kq = some v ∧ P v n2) I1 ⟨δ, Hv, n, _, E, r, h1, fun d v H2 Hv2 n2 h3 e2 p2 k2 => ?_, xx⟩) fun iv s2 ⟨y, H2, I2, ry, d, Hv2, n2, kq, v, e2, p2, k2, ek, ev, hP⟩ => ?_
  · obtain ⟨z, hz, h3⟩ := h3
    simp only [gCD] at hz
    split at hz
    · rename_i kq ek
      exact ⟨_, Hv2, n2, kq, z, e2, p2, k2, ek, hz, h3⟩
    · cases hz
  · obtain ⟨a', kvs, vs, gm', hsm, rel, dk', dct⟩ := kdc_at (P := X.prog) (g := Z.g) D zk Hv2 (h := s2.heap) I2.kIn
    rw [gm] at gm'
    cases gm'
    obtain ⟨v', hv', kv'⟩ := (dk'.val kq).1 _ ev
    obtain ⟨w', hw, rw'⟩ := RelO.some_of (v := v') (o := valueAt vs kq) (by rw [← hv']; exact rel.val kq)
    refine ⟨dct.typeIs, wpAny_getItem_of (kV_is (kv_at k2 ek ry)) dct.mapOf hw ?_⟩
    exact ⟨v', H2, I2.tok _, rw', q _ _ _ _ _ hP e2 p2 kv'⟩
end
/-! ### d[k] = v, {} -/
def dPutO (i : Nat) (k v : DE) : DT := fun F δ n => ∃ ks, δ[i]? = some (some (.od ks)) ∧ v δ n (fun y n1 => k δ n1 (fun q n2 => ∃ kq, dKey q = some kq ∧ ks.length < sizeLine ∧ F.nx (δ.set i (some (.od (putKD ks kq y)))) n2) (F.xe δ)) (F.xe δ)
def dOwnD0 : DO := fun _ n P _ => P (.od []) n
section
variable {X : Cx} {Z : Zx} {o i e value : Expr} {pos p pos' : Pos} {dk dv : DE} {x : Str} {j : Nat}
theorem ds_dput (hu : X.A.units + 64 < cLine) (ho : PE X (.Name x p) (tVar j)) (hi : PE X i (lift Z dk)) (hv : PE X value (lift Z dv)) (hs : swapsWith value (some (.Subscript (.Name x p) i pos')) pos.line X.env = pure false := by rfl) :
    PS X (.Assign [.Subscript (.Name x p) i pos'] value pos) (liftS Z (dPutO j dk dv)) := upS (ps_dput (by omega) ho hi hv hs) fun _ σ H ⟨δ, Hv, n, F, r, ⟨ks, hd, h⟩, k1, k2, k3, k4, k5⟩ => by
  obtain ⟨a, kvs0, ha, _⟩ := ownD_at r hd
  refine ⟨δ, Hv, n, _, _, r, h, (fun y v H1 Hv1 n1 h' e1 p1 q1 => ?_), k5.e r⟩
  have r1 := r.step e1 p1
  refine ⟨.ref a, ha, δ, Hv1, n1, _, _, r1, h', (fun q w H2 Hv2 n2 h2 e2 p2 q2 => ?_), (k5.see e1.see).e r1⟩
  obtain ⟨kq, ek, hz, h3⟩ := h2
  have r2 := r1.step e2 p2
  obtain ⟨a', kvs, t1, t2, t3, t4, t5⟩ := ownD_at r2 hd
  rw [ha] at t1
  cases t1
  have ew := key_dv q2 ek
  subst ew
  refine ⟨a, _, rfl, DPut.k t2 (by rw [t5.len]; exact hz), ?_⟩
  exact k1 _ _ _ _ _ h3 (e1.see.trans e2.see) (r2.mutD hd ha (t5.put _ (q1.mono e2.see)))
theorem o_dct0 : PE X (.Dict [] [] pos) (liftO Z dOwnD0) := up pe_dnewK fun σ H Q ⟨δ, Hv, n, P, E, rr, h1, q, x⟩ p hp => by
  have hv : Hv p = none := by
    cases z : Hv p with
    | none => rfl
    | some o => rw [rr.sub _ _ z] at hp; cases hp
  have e0 := (ext_hid (g := Z.g) (o := .dK []) rr.sub hp).1
  exact q _ _ _ Hv n h1 e0 (rr.pen.mono (same_new hp) (Nat.le_refl _)) ⟨p, [], rfl, hp, upd_same, hv, .nil⟩
end
/-! ### text.index(sign) -/
def dSIdx (a b : DE) : DE := fun δ n P E => a δ n (fun x n1 => ∃ z, x = .str z ∧ b δ n1 (fun y n2 => ∃ w i rest, y = .str w ∧ Builtin.Str.occurrences z w 0 z.length 1 = i :: rest ∧ P (.int (i : Nat)) n2) E) E
section
variable {X : Cx} {Z : Zx} {o e : Expr} {cpos apos : Pos} {da de : DE}
theorem d_sidx (ho : PE X o (lift Z da)) (he : PE X e (lift Z de)) (hs : starEach [e] X.env = (false, eval e X.env) :: starEach [] X.env := by rfl) (hbase : attributeBase o "index" X.env (eval o X.env) = eval o X.env := by rfl)
    (hfew : ((backTo cpos (starEach [e] X.env)).all (fun x => !x.1) && (backToKw cpos (keywordEach [] X.env)).all (fun x => x.1.isSome)
      && decide ([e].length + ([] : List Keyword).length + (if ([] : List Keyword).isEmpty then 0 else 1) < 30)) = true := by rfl) (hline : (apos.endLine == cpos.line) = true := by rfl)  (hplain : (backTo cpos (starEach [] X.env)).any (·.1) = false := by rfl) :
    PE X (.Call (.Attribute o "index" apos) [e] [] cpos) (lift Z (dSIdx da de)) :=
  up (pe_bm PySem.F.plainAttrs_str PySem.F.slot_str_index PySem.F.type_str_index mt_sindex ho (pa_cons he pa_nil hs) hbase hfew hline hs hplain) fun σ H Q ⟨δ, Hv, n, P, E, r, h1, q, xx⟩ => by
  refine ⟨δ, Hv, n, _, E, r, h1, (fun d v H1 Hv1 n1 h2 e1 p1 k1 => ?_), xx⟩
  obtain ⟨z, rfl, h2⟩ := h2
  cases k1
  refine ⟨rfl, δ, Hv1, n1, _, E, r.step e1 p1, h2, (fun d2 v2 H2 Hv2 n2 h3 e2 p2 k2 => ?_), xx.step e1 p1⟩
  obtain ⟨w, i, rest, rfl, ho, hP⟩ := h3
  cases k2
  exact ⟨z, w, i, rest, rfl, rfl, ho, q _ _ _ _ _ hP (e1.trans (fun _ => p1.pd) e2) p2 (.int _)⟩
end
/-! ### the law's first row: the feed and something else -/
def ExZ (K : PySem.W.Frag) (mg : Str → Option Value) (kn : Kn) (de : DE) : TE := fun σ H Q => ∃ Z : Zx, Z.g.K = K ∧ Z.g.mg = mg ∧ Z.g.kn = kn ∧ lift Z de σ H Q
theorem pe_exZ {X : Cx} {e : Expr} {kn : Kn} {de : DE} (h : ∀ Z : Zx, Z.g.K = X.K → Z.g.mg = X.mg → Z.g.kn = kn → PE X e (lift Z de)) : PE X e (ExZ X.K X.mg kn de) := ⟨fun pins s σ H Q I ⟨Z, a1, a2, a3, a4⟩ => (h Z a1 a2 a3).run pins s σ H Q I a4⟩
def dLawP (N i j : Nat) (d2 : DE) (t : DT) : Prop := ∀ k : Nat, k ≤ 63 → d2 (startD N [.scr k]) 0 (fun d n' => t ⟨fun _ _ => False, shP (fun d _ => d = .bl true), fun _ _ => False, fun _ _ => False, fun _ _ _ _ => False⟩ (((startD N [.scr k]).set i (some (.sh .pen))).set j (some (.sh d))) n') (fun _ _ _ => False)
section
variable {P : Program} {w : World} {K : PySem.W.Frag} {mg : Str → Option Value} {base : Heap} {kn : Kn} {x qual : Str} {st : Stmt} {f cm : Addr} {fd : FuncData} {N ps : List Str} {k : Nat} {sp : Sp}
theorem law_DGSP {i j : Nat} {t : DT} {d2 : DE} {s1 : Stmt} {rest : List Stmt} {cs : List Addr} (F : FunCd K x qual st f fd cm) (S : FnScope N ps (defScope st)) (hps : ps.length = 1) (hN : 0 < N.length) (hbd : defBody st = s1 :: rest)
    (h1 : ∀ (cdv : Value) (A : Around) (outer : List Env) (s : Shared) (H : Hp) (E : XK), Room k (A.deeper (envOfC qual (defScope st) s.heap.objs.size f cdv)) → PS (cxOf CX0 P w K mg base N qual (defScope st) f cdv A outer s H E).nox s1 (tPar i j (tCons (tCl (spFeed kn.key K) (tCons (tVar 0) tNil)) (tCons (ExZ K mg kn d2) tNil))))
    (h2 : ∀ (A : Around) (outer : List Env) (s : Shared) (H : Hp) (E : XK) (Z : Zx), A.guards = some [] → Room k (A.deeper (envOfC qual (defScope st) s.heap.objs.size f (.ref cm))) → Z.g.K = K → Z.g.mg = mg → Z.g.kn = kn → PSs (cxOf CX0 P w K mg base N qual (defScope st) f (.ref cm) A outer s H E).nox rest (liftS Z t))
    (hU : dLawP N.length i j d2 t) (ht : ∀ p ∈ kn.tb, p.1 ∈ cs) : FnG P w K mg base CX0 (k + 1) f fd ps (spLawT K cs) := by
  refine okGC F S (fun vs H Q E h => ?_) (fun A outer s H vs Q E gd hr h => ?_)
  · obtain ⟨a, ns, rfl, _⟩ := h
    rw [hps]; rfl
  · obtain ⟨a, ns, rfl, hs, hl, hT, q⟩ := h
    rw [hbd]
    refine ⟨tSeq _ (fun D σ H' => ∃ Z : Zx, Z.g.K = K ∧ Z.g.mg = mg ∧ Z.g.kn = kn ∧ liftS Z t D σ H'), pss_cons (h1 (.ref cm) A outer s H E hr) ⟨fun pins s' σ H' D I ⟨Z, a1, a2, a3, a4⟩ => (h2 A outer s H E Z gd hr a1 a2 a3).run pins s' σ H' D I a4⟩, ?_⟩
    refine ⟨.ref a, by unfold L2.start; rfl, a, ns, rfl, hs, hl, fun d c H' hd sm pen => ?_⟩
    obtain ⟨Hv, v1, v2, v3⟩ := scr_see (g := ⟨K, mg, d, c, kn⟩) hs hd
    rw [List.length_map] at v3
    have tb : Tabs kn.tb H' := fun p hp => (TabS.nil (hT _ (ht p hp))).ext sm
    have r0 := start_rel (g := ⟨K, mg, d, c, kn⟩) (N := N) (vs := [.ref a]) (v1.trans sm) v2 (n := 0) ⟨pen, tb⟩ (.cons v3 .nil)
    refine ⟨⟨⟨K, mg, d, c, kn⟩, H', Hv, fun _ _ _ _ => False⟩, rfl, rfl, rfl, _, Hv, 0, _, _, r0, hU _ hl, (fun dd v H2 Hv2 n2 hd2 e2 p2 k2 => ?_), fun _ _ _ _ _ _ _ z => z.elim⟩
    refine ⟨.ref d, v, rfl, ⟨⟨K, mg, d, c, kn⟩, H', Hv, fun _ _ _ _ => False⟩, rfl, rfl, rfl, _, Hv2, n2, _, ((r0.step e2 p2).set (i := i) .pen).set (i := j) k2, hd2, fun _ _ _ _ _ z => z.elim, (fun dd v H2 Hv2 n2 hd2 e2 p2 k2 => ?_), fun _ _ _ _ _ z => z.elim, fun _ _ _ _ _ z => z.elim, fun _ _ _ _ _ _ _ _ _ z => z.elim⟩
    obtain ⟨dd, rfl⟩ : ∃ d, dd = .sh d := by
      cases dd with
      | sh d => exact ⟨d, rfl⟩
      | ow _ => exact hd2.elim
      | sf _ _ _ => exact hd2.elim
      | od _ => exact hd2.elim
    have hd2 : dd = .bl true := hd2
    subst hd2
    rw [dv_bl k2]
    exact q H2
end
end Dn

/-! Values as trees: texts: split, startswith, int(text), list(text), text * n; range with a step. -/
namespace Dn
open PySem PySem.Spec PyProof.Rows L2 Br LamX
section
variable {X : Cx} {Z : Zx} {g : G} {o e a b c : Expr} {es : List Expr} {cpos apos pos p : Pos} {da de : DE} {ra : DA}
def dSplit (a b : DE) : DE := fun δ n P E => a δ n (fun x n1 => ∃ z, x = .str z ∧ b δ n1 (fun y n2 => ∃ w, y = .str w ∧ (w.length == 0) = false ∧ z.length + 2 ≤ sizeLine ∧ P (.lst ((Txt.split z w).map .str)) n2) E) E
theorem d_split (ho : PE X o (lift Z da)) (he : PE X e (lift Z de)) (hs : starEach [e] X.env = [(false, eval e X.env)] := by rfl) (hbase : attributeBase o "split" X.env (eval o X.env) = eval o X.env := by rfl) (hline : (apos.endLine == pos.line) = true := by rfl) :
    PE X (.Call (.Attribute o "split" apos) [e] [] pos) (lift Z (dSplit da de)) :=
  up (pe_split ho he hs hbase hline) fun σ H Q ⟨δ, Hv, n, P, E, r, h1, q, xx⟩ => by
  refine ⟨δ, Hv, n, _, E, r, h1, (fun d v H1 Hv1 n1 h2 e1 p1 k1 => ?_), xx⟩
  obtain ⟨z, rfl, h2⟩ := h2
  cases k1
  refine ⟨⟨z, rfl⟩, δ, Hv1, n1, _, E, r.step e1 p1, h2, (fun d2 v2 H2 Hv2 n2 h3 e2 p2 k2 => ?_), xx.step e1 p1⟩
  obtain ⟨w, rfl, hw, hz, hP⟩ := h3
  cases k2
  refine ⟨z, w, rfl, rfl, hw, hz, fun pp hp => ?_⟩
  have e12 := e1.trans (fun _ => p1.pd) e2
  exact (gives_of (q.step e12 p2) p2 hP).lst e12.sub hp (strs_dv _)
def dStarts (a b : DE) : DE := fun δ n P E => a δ n (fun x n1 => ∃ z, x = .str z ∧ b δ n1 (fun y n2 => ∃ w, y = .str w ∧ P (.bl (Txt.startswith z w)) n2) E) E
theorem d_starts (ho : PE X o (lift Z da)) (he : PE X e (lift Z de)) (hs : starEach [e] X.env = (false, eval e X.env) :: starEach [] X.env := by rfl) (hbase : attributeBase o "startswith" X.env (eval o X.env) = eval o X.env := by rfl)
    (hfew : ((backTo cpos (starEach [e] X.env)).all (fun x => !x.1) && (backToKw cpos (keywordEach [] X.env)).all (fun x => x.1.isSome)
      && decide ([e].length + ([] : List Keyword).length + (if ([] : List Keyword).isEmpty then 0 else 1) < 30)) = true := by rfl) (hline : (apos.endLine == cpos.line) = true := by rfl)  (hplain : (backTo cpos (starEach [] X.env)).any (·.1) = false := by rfl) :
    PE X (.Call (.Attribute o "startswith" apos) [e] [] cpos) (lift Z (dStarts da de)) :=
  up (pe_bm PySem.F.plainAttrs_str PySem.F.slot_str_startswith PySem.F.type_str_startswith mt_startswith ho (pa_cons he pa_nil hs) hbase hfew hline hs hplain) fun σ H Q ⟨δ, Hv, n, P, E, r, h1, q, xx⟩ => by
  refine ⟨δ, Hv, n, _, E, r, h1, (fun d v H1 Hv1 n1 h2 e1 p1 k1 => ?_), xx⟩
  obtain ⟨z, rfl, h2⟩ := h2
  cases k1
  refine ⟨rfl, δ, Hv1, n1, _, E, r.step e1 p1, h2, (fun d2 v2 H2 Hv2 n2 h3 e2 p2 k2 => ?_), xx.step e1 p1⟩
  obtain ⟨w, rfl, hP⟩ := h3
  cases k2
  exact ⟨z, w, rfl, rfl, q _ _ _ _ _ hP (e1.trans (fun _ => p1.pd) e2) p2 (.bl _)⟩
/-! ### int(text) -/
def gIntS : List D → Option D
  | [.str z] => if z.length ≤ 640 then (intText? z).map .int else none
  | [.int i] => some (.int i)
  | [.bl b] => some (.int (if b then 1 else 0))
  | _ => none
theorem c_intS : DCl X g (.type "int") gIntS := by
  refine ⟨_, callr_or call_int1 call_int_str, ?_⟩
  intro H Hv xs ds d Q s k hf q
  unfold gIntS at hf
  split at hf
  · rename_i z
    split at hf
    · rename_i hz
      cases ez : intText? z with
      | none => rw [ez] at hf; cases hf
      | some i =>
        rw [ez] at hf
        cases hf
        cases k with
        | cons k1 k2 =>
          cases k2
          cases k1
          exact .inr ⟨z, i, rfl, ez, hz, q.here s (.int _)⟩
    · cases hf
  · cases hf
    cases k with
    | cons k1 k2 =>
      cases k2
      cases k1
      exact .inl (.inl ⟨_, rfl, q.here s (.int _)⟩)
  · cases hf
    cases k with
    | cons k1 k2 =>
      cases k2
      cases k1
      exact .inl (.inr ⟨_, rfl, q.here s (.int _)⟩)
  · cases hf
/-! ### list(text) -/
def rListS : List V → Hp → VK → Prop := fun xs H Q => ∃ z : Str, xs = [.str z] ∧ z.length ≤ sizeLine ∧ ∀ p, H p = none → Q (.ref p) (upd H p (.lst (z.cps.toList.map fun c => V.str ⟨#[c]⟩)))
theorem signs_vals {z : Str} {acc : Array Value} (h : ItemsOf (SignAt z) acc z.cps.size) : Vals (z.cps.toList.map fun c => V.str ⟨#[c]⟩) acc.toList := by
  obtain ⟨h1, h2⟩ := h
  have go : ∀ (l : List Nat) (vs : List Value), l.length = vs.length → (∀ (i : Nat) (v : Value), vs[i]? = some v → ∃ (c : Nat) (u : Tok), l[i]? = some c ∧ v = Value.str ⟨#[c]⟩ u) → Vals (l.map fun c => V.str ⟨#[c]⟩) vs := by
    intro l
    induction l with
    | nil =>
      intro vs hl _
      cases vs with
      | nil => exact .nil
      | cons v r => cases hl
    | cons c r ih =>
      intro vs hl hv
      cases vs with
      | nil => cases hl
      | cons v q =>
        obtain ⟨c', u, e1, e2⟩ := hv 0 v rfl
        cases e1
        refine .cons ⟨u, e2⟩ (ih q (Nat.succ.inj hl) fun i w hw => ?_)
        obtain ⟨c2, u2, e3, e4⟩ := hv (i + 1) w (by rw [List.getElem?_cons_succ]; exact hw)
        rw [List.getElem?_cons_succ] at e3
        exact ⟨c2, u2, e3, e4⟩
  refine go _ _ (by rw [Array.length_toList, Array.length_toList]; exact h1.symm) fun i v hv => ?_
  obtain ⟨c, u, e1, e2⟩ := h2 i v (by rw [← Array.getElem?_toList]; exact hv)
  exact ⟨c, u, by rw [Array.getElem?_toList]; exact e1, e2⟩
theorem cr_listS (hc : X.calm = true) : CallR X (.type "list") rListS := by
  intro pins s σ H vs us Q I r h
  obtain ⟨z, rfl, hz, q⟩ := h
  cases r with
  | cons r1 r2 =>
    cases r2
    obtain ⟨t, rfl⟩ := r1
    refine call_list_str (I.ok.hd hc) z t (fun h' tk acc c' hk e hi => ?_) hz
    have rv := signs_vals hi
    refine ⟨.ref s.heap.objs.size, _, I.laid (t' := tk) hk (Nat.le_refl _) (show ObjOk X.prog X.w _ h' _ (.lst _) from ⟨by rw [List.length_map, Array.length_toList]; exact hz, acc.toList, c', rv, e⟩), rfl, q _ (I.hok.fresh (Nat.le_refl _))⟩
def gListS : List D → Option D
  | [.str z] => if z.length ≤ sizeLine then some (.lst (signs z)) else none
  | [.lst xs] => some (.lst xs)
  | [.tup xs] => some (.lst xs)
  | _ => none
theorem signs_dv {H : Hp} (z : Str) : DvAll g H (z.cps.toList.map fun c => V.str ⟨#[c]⟩) (signs z) := by
  unfold signs
  generalize z.cps.toList = l
  induction l with
  | nil => exact .nil
  | cons c r ih => exact .cons (.str _) ih
theorem c_listS (hc : X.calm = true) (zk : g.K = X.K) : DCl X g (.type "list") gListS := by
  refine ⟨_, callr_or (cr_listS hc) call_list_of, ?_⟩
  intro H Hv xs ds d Q s k hf q
  unfold gListS at hf
  split at hf
  · rename_i z
    split at hf
    · rename_i hz
      cases hf
      cases k with
      | cons k1 k2 =>
        cases k2
        cases k1
        exact .inl ⟨z, rfl, hz, fun p hp => q.lst s hp (signs_dv z)⟩
    · cases hf
  · cases hf
    cases k with
    | cons k1 k2 =>
      cases k2
      cases k1 with
      | lst ha ks => exact .inr ⟨_, _, rfl, .inl (sqL (s _ _ ha)), fun l hl => q.lst s hl ks⟩
  · cases hf
    cases k with
    | cons k1 k2 =>
      cases k2
      cases k1 with
      | tup ha ks => exact .inr ⟨_, _, rfl, .inr (zk ▸ same_seqT s ha), fun l hl => q.lst s hl ks⟩
  · cases hf
/-! ### text * n -/
def rMulS : R2 := fun x y H Q => ∃ (z : Str) (i : Int), x = .str z ∧ y = .int i ∧ PySem.MulOk z i ∧ Q (.str (Txt.mul z i)) H
theorem op_mulS : OpR X (binaryOp .Mult) rMulS := by
  intro pins s σ H x y v u Q I rx ry h
  obtain ⟨z, i, rfl, rfl, ho, q⟩ := h
  obtain ⟨t, rfl⟩ := rx
  obtain ⟨t2, rfl⟩ := ry
  refine SB.mul ho fun t' k => ?_
  exact ⟨.str _, H, I.kept (h' := s.heap) (t' := k) (fun _ _ e => e), ⟨_, rfl⟩, q⟩
def gMulS : List D → Option D
  | [.str z, .int i] => if -(2 ^ 63) ≤ i ∧ i < 2 ^ 63 ∧ z.length * i.toNat ≤ 1000000 then some (.str (Txt.mul z i)) else none
  | _ => none
theorem o_mulS : DOp X g (binaryOp .Mult) gMulS := by
  refine ⟨_, op_mulS, ?_⟩
  intro H Hv x y dx dy d Q s kx ky hf q
  unfold gMulS at hf
  split at hf
  · rename_i z i e
    obtain ⟨e1, e2⟩ := List.cons.inj e
    obtain ⟨e2, _⟩ := List.cons.inj e2
    subst e1 e2
    split at hf
    · rename_i hz
      obtain ⟨h1, h2, h3⟩ := hz
      cases hf
      cases kx
      cases ky
      refine ⟨z, i, rfl, rfl, ⟨?_, fun h4 _ => ?_, fun h4 _ => ?_⟩, q.here s (.str _)⟩
      · rw [decide_eq_false (by omega), decide_eq_false (by omega)]; rfl
      · have h5 : (z.length : Int) * i ≤ 2 ^ 63 - 1 := by
          have e1 : ((z.length * i.toNat : Nat) : Int) = (z.length : Int) * i := by rw [Int.natCast_mul, Int.toNat_of_nonneg (by omega)]
          rw [← e1]
          omega
        have := Int.le_ediv_of_mul_le (show 0 < i by omega) h5
        omega
      · show decide (z.length * i.toNat > sizeLine) = false
        exact decide_eq_false (fun z => by rw [sizeLine_eq] at z; omega)
    · cases hf
  · cases hf
/-! ### range with a step -/
def intsC (lo c : Int) (n : Nat) : List D := (List.range n).map fun (k : Nat) => .int (lo + (k : Nat) * c)
theorem intsC_len (lo c : Int) (n : Nat) : (intsC lo c n).length = n := by unfold intsC; rw [List.length_map, List.length_range]
theorem intsC_at {lo c : Int} {n i : Nat} (h : i < n) : (intsC lo c n)[i]? = some (.int (lo + (i : Nat) * c)) := by
  unfold intsC
  rw [List.getElem?_map, List.getElem?_range h]
  rfl
theorem wk_intsC {g : G} {H : Hp} {lo c : Int} {n : Nat} : Wk g H (Itc lo c n) (intsC lo c n) := by
  have w := walk_rangeC (lo := lo) (c := c) (n := n)
  rw [show Walk (Itc lo c n) n = Walk (Itc lo c n) (intsC lo c n).length by rw [intsC_len]] at w
  refine w.mono (fun _ _ => trivial) fun i H1 v H' hi s y Hv sv su => ?_
  obtain ⟨rfl, rfl⟩ := y
  rw [intsC_len] at hi
  exact ⟨_, Hv, intsC_at hi, .refl su, .refl _, .int _⟩
def gRange3 : List D → Option (List D)
  | [.int i, .int j, .int c] => if c ≠ 0 ∧ c.natAbs < 1073741824 ∧ Builtin.Range.small i j c = true ∧ 0 ≤ Builtin.Range.rangeSize i j c then some (intsC i c (Builtin.Range.rangeSize i j c).toNat) else none
  | _ => none
theorem di_range3 {tge : Expr} (hg : Gl X "range") (hm : X.mg "range" = none) (ha : PA X [a, b, c] (liftA Z ra)) (hs : starEach [a, b, c] X.env = (false, eval a X.env) :: starEach [b, c] X.env := by rfl) (hpl : (backTo pos (starEach [b, c] X.env)).any (·.1) = false := by rfl) :
    PI X tge (.Call (.Name "range" p) [a, b, c] [] pos) (liftI Z (dIt gRange3 ra)) := upI (pi_range3 hg hm ha hs hpl) fun σ H R ⟨δ, Hv, n, P, E, r, h1, q, x⟩ => by
  refine ⟨δ, Hv, n, _, E, r, h1, (fun d v H' Hv' n' h2 e p k => ?_), x⟩
  obtain ⟨ys, hy, h3⟩ := h2
  unfold gRange3 at hy
  split at hy
  · rename_i i j c
    split at hy
    · rename_i hj
      obtain ⟨c0, c1, c2, c3⟩ := hj
      cases hy
      cases k with
      | cons k1 k2 =>
        cases k2 with
        | cons k2 k3 =>
          cases k3 with
          | cons k3 k4 =>
            cases k4
            cases k1
            cases k2
            cases k3
            exact ⟨i, j, c, _, rfl, ⟨c0, c1, c2, by omega⟩, q _ _ _ _ _ h3 e p wk_intsC⟩
    · cases hy
  · cases hy
end
end Dn

namespace C05
open PySem L2 Br Dn
local macro_rules | `(tactic| walk_at "side") => `(tactic| first | omega | (show (0 : Int) < _; omega) | exact ⟨by omega, by omega⟩ | exact Or.inl ⟨by omega, by omega⟩ | exact Or.inr ⟨by omega, by omega⟩ | exact ⟨by decide, by decide, by decide⟩ | assumption)
local macro_rules | `(tactic| walk_at "s1") => `(tactic| first
  | ((with_reducible apply s_var); exact rfl)
  | with_reducible refine s_c ?_ | with_reducible refine s_op ?_ | with_reducible refine s_un ?_ | with_reducible refine s_I0 ?_
  | ((with_reducible refine s_I ?_ ?_); walk_at "side")
  | with_reducible refine s_U ?_ | ((with_reducible refine s_eq ?_ ?_); exact rfl) | ((with_reducible refine s_ne ?_ ?_); exact rfl)
  | with_reducible refine s_test ?_ | with_reducible refine s_tB ?_ | with_reducible refine s_bl ?_ | with_reducible refine s_and ?_ | with_reducible refine s_or ?_ | with_reducible refine s_not ?_
  | with_reducible refine s_andV ?_ | with_reducible refine s_orV ?_ | with_reducible refine s_notV ?_ | with_reducible refine s_if ?_ | with_reducible refine s_ifS ?_
  | with_reducible refine s_seq ?_ | with_reducible refine s_next ?_ | with_reducible refine s_asg ?_ | with_reducible refine s_par ?_ | with_reducible refine s_two ?_ | with_reducible refine s_ret ?_ | with_reducible refine s_retN ?_ | with_reducible refine s_drop ?_
  | with_reducible refine s_nil ?_ | with_reducible refine s_cons ?_ | with_reducible refine s_cl ?_ | with_reducible refine s_clS ?_ | with_reducible refine s_cb ?_ | with_reducible refine s_sl ?_ | with_reducible refine s_part ?_ | with_reducible refine s_nopart ?_ | with_reducible refine s_int ?_
  | with_reducible refine s_dget ?_ | with_reducible refine s_dput ?_ | with_reducible refine s_bm ?_ | with_reducible refine s_bm0 ?_ | with_reducible refine s_m1 ?_ | with_reducible refine s_isstr ?_ | with_reducible refine s_kf ?_ | with_reducible refine s_lst ?_ | with_reducible refine s_tup ?_
  | with_reducible refine s_pairs ?_ | with_reducible refine s_pairs0 ?_ | with_reducible refine s_disp ?_ | with_reducible refine s_dnew ?_ | with_reducible refine s_for ?_ | with_reducible refine s_lc ?_ | with_reducible refine s_iList ?_ | with_reducible refine s_iTup ?_ | with_reducible refine s_iRng1 ?_ | with_reducible refine s_iRng2 ?_ | with_reducible refine s_iRng3 ?_ | with_reducible refine s_vei ?_ | with_reducible refine s_ost ?_ | with_reducible refine s_mkx ?_ | with_reducible refine s_rz ?_ | with_reducible refine s_iEnumT ?_ | with_reducible refine s_iEnumS ?_ | with_reducible refine s_revS ?_ | with_reducible refine s_yes ?_
  | ((with_reducible apply s_aug); exact rfl) | with_reducible refine s_ipI ?_ | with_reducible refine s_chain ?_ | with_reducible refine s_fld ?_ | with_reducible refine s_sfld ?_ | with_reducible refine s_mk ?_ | with_reducible refine s_clK ?_ | with_reducible refine s_iEnumTk ?_ | with_reducible refine s_revT ?_
  | with_reducible refine s_gName ?_ | with_reducible refine s_gCons ?_ | with_reducible refine s_gNil ?_)
local macro_rules | `(tactic| walk_at "s") => `(tactic| repeat walk_at "s1")
def top (i : Nat) : Stmt := PySem.Challenge.pw_byteround_k05_whole_words_there_and_back.main.body.getD i (.Pass ⟨0, 0, 0, 0⟩)
abbrev penStr : Str := "nth"
theorem key_pen : PenKey penStr := key_nth
abbrev penKey : Kn := ⟨penStr, []⟩
/-- the built-ins' names are no names of the module; its constants -/
structure Txt (mg : Str → Option Value) : Prop where
  n_len : mg "len" = none
  n_abs : mg "abs" = none
  n_range : mg "range" = none
  n_isinstance : mg "isinstance" = none
  n_int : mg "int" = none
  n_bool : mg "bool" = none
  n_tuple : mg "tuple" = none
  n_list : mg "list" = none
  n_sum : mg "sum" = none
  n_min : mg "min" = none
  n_dict : mg "dict" = none
  n_sorted : mg "sorted" = none
  n_str : mg "str" = none
  n_all : mg "all" = none
  n_enumerate : mg "enumerate" = none
  n_zip : mg "zip" = none
  n_ValueError : mg "ValueError" = none
  g_FIGURES : ∃ t, mg "FIGURES" = some (.str "0123456789" t)
  g_MOST_FIGURES : ∃ t, mg "MOST_FIGURES" = some (.int 5 t)
  g_SIGNS : ∃ t, mg "SIGNS" = some (.str "0123456789abcdef" t)
  g_IN_A_ROW : ∃ t, mg "IN_A_ROW" = some (.int 16 t)
  g_BYTE : ∃ t, mg "BYTE" = some (.int 256 t)
  g_NUMBERED : ∃ t, mg "NUMBERED" = some (.str "abcd" t)
  g_PLACED : ∃ t, mg "PLACED" = some (.str "pq" t)
section
variable {P : Program} {w : World} {K : PySem.W.Frag} {mg : Str → Option Value} {base : Heap}
abbrev s__law_draw : Stmt := top 41
theorem sc__law_draw : FnScope ["_law_pen", "_law_span", "_law_digit", "_law_nth", "_law_cell", "_law_mixed", "_law_turn"] ["_law_pen", "_law_span"] (defScope s__law_draw) := ⟨rfl, rfl, rfl, by decide +kernel, rfl, by decide +kernel, by decide +kernel⟩
theorem ok__law_draw {f : Addr} {fd : FuncData} (F : Fun K "_law_draw" "_law_draw" s__law_draw f fd) (T : Txt mg) : FnOk P w K mg base CX0 1 f fd ["_law_pen", "_law_span"] (spDraw penStr) := by
  refine F.ok sc__law_draw (fun vs H Q E h => ?_) (fun cdv A outer s H vs Q E hr h => ?_)
  · obtain ⟨d, c, n, m, rfl, _⟩ := h
    rfl
  · obtain ⟨d, c, n, m, rfl, ⟨ns, a, l, hd, hc, hlen, a0, an, l0⟩, hn, m0, m1, k⟩ := h
    have hu := hu_of hr
    refine ⟨_, (pss_cons (ps_if (pt_cmpR op_gt (pe_dget hu (pv 0) pe_str (fun _ _ => rfl)) pe_int (nomark _))
        (pss_cons (ps_set (i := 2) sc__law_draw.nd rfl (Or.inl rfl) (pe_op op_mod (pe_dget hu (pv 0) pe_str (fun _ _ => rfl)) (pv 1)))
      (pss_cons (ps_dput hu (pv 0) pe_str (pe_op op_fdiv (pe_dget hu (pv 0) pe_str (fun _ _ => rfl)) (pv 1)) rfl)
      (pss_one (ps_ret (pv 2)))))
        pss_nil)
      (pss_cons (ps_set (i := 3) sc__law_draw.nd rfl (Or.inl rfl) (pe_dget hu (pv 0) pe_str (fun _ _ => rfl)))
      (pss_cons (ps_dput hu (pv 0) pe_str (pe_op op_add (pv 3) pe_int) rfl)
      (pss_cons (ps_set (i := 4) sc__law_draw.nd rfl (Or.inl rfl) (pe_op op_add (pe_op op_mul (pv 3) (pv 3)) pe_int))
      (pss_cons (ps_if (pt_cmpR (op_neD hr.units) (pe_dget hu (pv 0) pe_str (fun _ _ => rfl)) (pe_lst pa_nil) (nomark _))
        (pss_one (ps_set (i := 4) sc__law_draw.nd rfl (Or.inl rfl) (pe_ix ix_list (pe_dget hu (pv 0) pe_str (fun _ _ => rfl)) (pe_op op_mod (pv 3) (pe_callB call_len (by rfl) T.n_len (by decide +kernel) (pa_cons (pe_dget hu (pv 0) pe_str (fun _ _ => rfl)) pa_nil))) (fun _ _ => rfl))))
        pss_nil)
      (pss_cons (ps_if (PW.pt (pw_and (pt_cmpR op_lt (pv 3) (pe_callB call_len (by rfl) T.n_len (by decide +kernel) (pa_cons (pe_dget hu (pv 0) pe_str (fun _ _ => rfl)) pa_nil)) (nomark _)) (pw_and1 (pt_cmpR op_ge (pe_callB call_abs (by rfl) T.n_abs (by decide +kernel) (pa_cons (pv 4) pa_nil)) (pe_op op_pow pe_int pe_int) (nomark _)))))
        (pss_cons (ps_dput hu (pv 0) pe_str (pe_op op_fdiv (pe_callB call_abs (by rfl) T.n_abs (by decide +kernel) (pa_cons (pv 4) pa_nil)) (pv 1)) rfl)
      (pss_one (ps_ret (pe_op op_mod (pe_callB call_abs (by rfl) T.n_abs (by decide +kernel) (pa_cons (pv 4) pa_nil)) (pv 1)))))
        pss_nil)
      (pss_cons (ps_set (i := 5) sc__law_draw.nd rfl (Or.inl rfl) (pe_op op_mod (pe_op op_mul (pe_op op_add (pe_op op_add (pe_op op_mod (pv 4) pe_int) (pe_op op_mul pe_int (pv 3))) pe_int) pe_int) pe_int))
      (pss_cons (ps_for PassesOwn.never rfl (pi_range1 (by rfl) T.n_range (pa_cons pe_int pa_nil)) (pg_name (i := 6) sc__law_draw.nd rfl (Or.inl rfl))
        (pss_cons (ps_set (i := 5) sc__law_draw.nd rfl (Or.inl rfl) (pe_op op_add (pe_op op_add (pe_op op_add (pe_op op_mul (pv 5) (pv 5)) (pe_op op_mul pe_int (pv 5))) (pv 3)) (pv 6)))
      (pss_one (ps_set (i := 5) sc__law_draw.nd rfl (Or.inl rfl) (pe_op op_mod (pv 5) pe_int)))))
      (pss_one (ps_ret (pe_op op_mod (pe_op op_fdiv (pv 5) pe_int) (pv 1)))))))))))), ?_⟩
    refine go_at (σ' := [some (.ref d), some (.int m), none, none, none, none, none]) rfl ?_
    have PK := key_pen
    walk_at "s"
    refine ⟨d, _, rfl, dget_k (k := .inr "left") hd (pen_left PK), ?_⟩
    walk_at "s"
    refine ifd (fun hl => ?_) (fun hl => ?_)
    · -- a digit of what is left
      walk_at "s"
      refine ⟨d, _, rfl, dget_k (k := .inr "left") hd (pen_left PK), ?_⟩
      walk_at "s"
      refine ⟨d, _, rfl, dget_k (k := .inr "left") hd (pen_left PK), ?_⟩
      walk_at "s"
      refine ⟨d, _, rfl, dput_k (k := .inr "left") hd (three_lt _ _ _) (pen_put_left PK), ?_⟩
      walk_at "s"
      have ncd : c ≠ d := ne_of hc hd (by intro z; cases z)
      refine k _ _ (Int.emod_nonneg _ (by omega)) (Int.emod_lt_of_pos _ m0) ⟨ns, a, _, upd_same, by rw [upd_ne ncd]; exact hc, hlen, a0, by omega, Int.ediv_nonneg l0 (by omega)⟩ fun b o hb e => ?_
      rw [upd_ne hb]
      exact e
    · walk_at "s"
      refine ⟨d, _, rfl, dget_k (k := .inr penStr) hd (pen_nth PK), ?_⟩
      walk_at "s"
      refine ⟨d, _, rfl, dput_k (k := .inr penStr) hd (three_lt _ _ _) (pen_put_nth PK), ?_⟩
      have ncd : c ≠ d := ne_of hc hd (by intro z; cases z)
      generalize hH1 : upd H d (.dK (penL penStr c (a + 1) l)) = H1
      have hd1 : H1 d = some (.dK (penL penStr c (a + 1) l)) := by rw [← hH1]; exact upd_same
      have hc1 : H1 c = some (.lst (ns.map V.int)) := by rw [← hH1, upd_ne ncd]; exact hc
      have sb1 : SBut d H H1 := fun b o hb e => by rw [← hH1, upd_ne hb]; exact e
      clear hH1
      walk_at "s"
      refine ⟨d, _, rfl, dget_k (k := .inr "cells") hd1 pen_cells, ?_⟩
      walk_at "s"
      refine ⟨Nat.zero_le _, s_new fun p H2 hp s2 h2 => ?_⟩
      have hd2 := s2 _ _ hd1
      have hc2 := s2 _ _ hc1
      have sb2 := sb1.then s2
      refine ⟨_, _, .lst (sqL hc2) (dpAll_ints ns), .lst (sqL h2) .nil, shaped_listInts ns, rfl, ?_⟩
      walk_at "s"
      refine s_cut (fun σ' H' => ∃ x : Int, σ' = [some (.ref d), some (.int m), none, some (.int a), some (.int x), none, none] ∧ H2 = H') ?_ ?_ ?_
      · rintro _ _ ⟨x, rfl, rfl⟩
        walk_at "s"
        refine ⟨d, _, rfl, dget_k (k := .inr "cells") hd2 pen_cells, ?_⟩
        walk_at "s"
        refine ⟨_, _, rfl, .inl ⟨_, sqL hc2, rfl⟩, ?_⟩
        walk_at "s"
        refine s_cutA (fun σ' H' => σ' = [some (.ref d), some (.int m), none, some (.int a), some (.int x), none, none] ∧ H2 = H') ?_ ?_ ?_
        · rintro _ _ ⟨rfl, rfl⟩
          walk_at "s"
          refine ⟨3, rfl, by decide, by decide, f_range (lo := 0) (n := 3) (fun i σ H' => ∃ (v : Int) (t : Option V), σ = [some (.ref d), some (.int m), none, some (.int a), some (.int x), some (.int v), t] ∧ 0 ≤ v ∧ v < 4294967311 ∧ H2 = H') ?_ ?_ ?_⟩
          · obtain ⟨e1, e2⟩ := emod_bd (a := (x % 4294967311 + 65539 * a + 17) * 48271) (m := 4294967311) (by decide)
            exact ⟨_, none, rfl, e1, e2, rfl⟩
          · rintro i _ _ hi ⟨v, t, rfl, v0, v1, rfl⟩
            walk_at "s"
            obtain ⟨e1, e2⟩ := emod_bd (a := v * v + 69621 * v + a + (0 + (i : Nat))) (m := 4294967311) (by decide)
            exact ⟨_, _, rfl, e1, e2, rfl⟩
          · rintro _ _ ⟨v, t, rfl, v0, v1, rfl⟩
            walk_at "s"
            obtain ⟨e1, e2⟩ := emod_bd (a := v / 32) m0
            exact k _ _ e1 e2 ⟨ns, a + 1, l, hd2, hc2, hlen, by omega, by omega, l0⟩ sb2
        · intro _ nx' hR
          walk_at "s"
          refine ⟨_, rfl, ?_⟩
          walk_at "s"
          refine ifb (fun _ => ?_) (fun _ => ?_)
          · walk_at "s"
            refine ⟨_, rfl, ?_⟩
            walk_at "s"
            refine ⟨d, _, rfl, dput_k (k := .inr "left") hd2 (three_lt _ _ _) (pen_put_left PK), ?_⟩
            walk_at "s"
            refine ⟨_, rfl, ?_⟩
            walk_at "s"
            obtain ⟨e1, e2⟩ := emod_bd (a := if x < 0 then -x else x) m0
            refine k _ _ e1 e2 ⟨ns, a + 1, _, upd_same, by rw [upd_ne ncd]; exact hc2, hlen, by omega, by omega, Int.ediv_nonneg (by split <;> omega) (by omega)⟩ fun b o hb e => ?_
            rw [upd_ne hb]
            exact sb2 b o hb e
          · walk_at "s"
            exact hR _ _ ⟨rfl, rfl⟩
        · intro _ nx' hR
          walk_at "s"
          exact hR _ _ ⟨rfl, rfl⟩
      · intro hne nx' hR
        walk_at "s"
        refine ⟨d, _, rfl, dget_k (k := .inr "cells") hd2 pen_cells, ?_⟩
        walk_at "s"
        refine ⟨d, _, rfl, dget_k (k := .inr "cells") hd2 pen_cells, ?_⟩
        walk_at "s"
        refine ⟨_, _, rfl, .inl ⟨_, sqL hc2, rfl⟩, ?_⟩
        have hpos : 0 < ns.length := by
          rw [eqv_nil_ints] at hne
          cases ns with
          | nil => simp at hne
          | cons n r => simp
        have hlm : (ns.map V.int).length = ns.length := List.length_map ..
        refine s_I (by show (0 : Int) < _; omega) ?_
        obtain ⟨e1, e2⟩ := emod_bd (a := a) (m := ((ns.map V.int).length : Nat)) (by omega)
        obtain ⟨x, hx, hx2⟩ := atI_lt (xs := ns.map V.int) e1 e2
        obtain ⟨z, _, rfl⟩ : ∃ z, ns[(a % ((ns.map V.int).length : Nat)).toNat]? = some z ∧ V.int z = x := by
          rw [List.getElem?_map] at hx2
          cases e : ns[(a % ((ns.map V.int).length : Nat)).toNat]? with
          | none => rw [e] at hx2; cases hx2
          | some z => rw [e] at hx2; exact ⟨z, rfl, Option.some.inj hx2⟩
        refine r_ixL (sqL hc2) hx ?_
        exact hR _ _ ⟨z, rfl, rfl⟩
      · intro _ nx' hR
        walk_at "s"
        exact hR _ _ ⟨_, rfl, rfl⟩
abbrev s__law_feed : Stmt := top 40
theorem sc__law_feed : FnScope ["_law_script", "_law_cell"] ["_law_script"] (defScope s__law_feed) := ⟨rfl, rfl, rfl, by decide +kernel, rfl, by decide +kernel, by decide +kernel⟩
theorem ok__law_feed {f : Addr} {fd : FuncData} (F : Fun K "_law_feed" "_law_feed" s__law_feed f fd) : FnOk P w K mg base CX0 1 f fd ["_law_script"] (spFeed penStr K) := by
  refine F.ok sc__law_feed (fun vs H Q E h => ?_) (fun cdv A outer s H vs Q E hr h => ?_)
  · obtain ⟨a, ns, rfl, _⟩ := h
    rfl
  · obtain ⟨a, ns, rfl, hS, hlen, k⟩ := h
    refine ⟨_, (pss_one (ps_ret (pe_disp (pps_cons pe_str (pe_lc (own := [("_law_cell", 1)]) (g := gName 1) (tt := tYes) rfl sc__law_feed.nd (pi_list (pe_slice sl_list (pv 0) po_none (po_some pe_int))) (blkOk_by (own := [("_law_cell", 1)]) (N := ["_law_script", "_law_cell"]) (sc := defScope s__law_feed) (by decide +kernel)) (fun _ _ _ _ _ => pg_name (i := 1) sc__law_feed.nd rfl (Or.inl rfl)) (fun _ _ _ _ _ => pts_nil) (fun _ _ _ _ _ => (pv 1))) (pps_cons pe_str pe_int (pps_cons pe_str pe_int pps_nil))) (by rfl) (by rfl) (fun z => by cases z) (by decide)))), ?_⟩
    refine go_at (σ' := [some (.ref a), none]) rfl ?_
    have PK := key_pen
    walk_at "s"
    intro p hp
    walk_at "s"
    have s1 : Same H (upd H p (.dK [])) := same_new hp
    refine r_slL (s1.seq hS) (s_new fun q H2 hq s2 h2 => ?_)
    have e63 : cutV (ns.map V.int) none (some 63) = (ns.take 63).map V.int := by
      show ((ns.map V.int).drop 0).take (min 63 (ns.map V.int).length - 0) = _
      rw [List.drop_zero, Nat.sub_zero, List.map_take, List.take_eq_take_iff]
      simp
    rw [e63] at h2
    refine ⟨q, rfl, ⟨_, sqL h2⟩, fun D hD => lc_list (K := K) (a := q) (xs := (ns.take 63).map V.int) (fun i H' => Same H2 H' ∧ H' D = some (.lst (((ns.take 63).map V.int).take i))) ⟨same_new hD, upd_same⟩ (fun i H' _ ⟨z, _⟩ => sqL (z _ _ h2)) ?_ ?_⟩
    · rintro i x H' hi ⟨z, hz⟩
      refine ⟨rfl, ?_⟩
      walk_at "s"
      refine ifT rfl ?_
      walk_at "s"
      refine ⟨_, hz, ?_, same_mut z hD, ?_⟩
      · refine small1000 ?_
        rw [List.length_take, List.length_map, List.length_take]
        omega
      · rw [upd_same, take_more hi]
    · rintro H' ⟨z, hz⟩
      walk_at "s"
      have hp2 : H' p = some (.dK []) := z _ _ (s2 _ _ upd_same)
      have nD : D ≠ p := fun e => by rw [e, s2 _ _ upd_same] at hD; cases hD
      rw [List.take_length] at hz
      refine ⟨hp2, [(Sum.inr "cells", .ref D), (Sum.inr penStr, .int 0), (Sum.inr "left", .int 0)], rfl, by show 3 ≤ 15; decide, ?_⟩
      refine k p D _ hp (fun b o e => ?_) ⟨ns.take 63, 0, 0, ?_, ?_, ?_, by omega, by omega, by omega⟩
      · rw [upd_ne (ne_of_none e hp)]
        exact z _ _ (s2 _ _ (s1 _ _ e))
      · rw [upd_same, pen_new PK]
      · rw [upd_ne nD]
        exact hz
      · rw [List.length_take]
        omega
end
end C05

namespace C05
open PySem L2 Br Dn PySem.BrX
section
variable {P : Program} {w : World} {K : PySem.W.Frag} {mg : Str → Option Value} {base : Heap}
def C_TABLE : D := .tup [.tup [.str "halt", .int 0, .str "", .int 0], .tup [.str "back", .int 1, .str "", .int 0], .tup [.str "out", .int 4, .str "n", .int 0], .tup [.str "in", .int 8, .str "n", .int 0], .tup [.str "push", .int 12, .str "n", .int 0], .tup [.str "pop", .int 16, .str "n", .int 0], .tup [.str "set.short", .int 20, .str "n", .int 1], .tup [.str "set.long", .int 24, .str "n", .int 2], .tup [.str "copy", .int 32, .str "nn", .int 0], .tup [.str "add", .int 48, .str "nn", .int 0], .tup [.str "less", .int 64, .str "nn", .int 0], .tup [.str "times", .int 80, .str "nn", .int 0], .tup [.str "go.short", .int 96, .str "", .int 1], .tup [.str "go.long", .int 97, .str "", .int 2], .tup [.str "call.short", .int 98, .str "", .int 1], .tup [.str "call.long", .int 99, .str "", .int 2], .tup [.str "if.short", .int 100, .str "n", .int 1], .tup [.str "if.long", .int 104, .str "n", .int 2], .tup [.str "point", .int 112, .str "x", .int 2], .tup [.str "walk", .int 120, .str "xn", .int 0], .tup [.str "turn", .int 128, .str "xn", .int 0], .tup [.str "load", .int 136, .str "nx", .int 0], .tup [.str "store", .int 144, .str "nx", .int 0], .tup [.str "same", .int 152, .str "n", .int 0], .tup [.str "move", .int 160, .str "xx", .int 0], .tup [.str "take", .int 164, .str "xx", .int 0], .tup [.str "keep", .int 168, .str "xx", .int 0], .tup [.str "callat", .int 172, .str "x", .int 0], .tup [.str "goat", .int 174, .str "x", .int 0], .tup [.str "none", .int 176, .str "nx", .int 0]]
def C_NEAR : D := .tup [.str "go.short", .str "call.short", .str "if.short"]
def C_SPANS : List (Key × D) := [(.inr "", .int 1), (.inr "n", .int 4), (.inr "x", .int 2), (.inr "nn", .int 16), (.inr "xx", .int 4), (.inr "xn", .int 8), (.inr "nx", .int 8)]
abbrev s_NoHex___init__ : Stmt := inClass (top 1) 0
theorem sc_NoHex___init__ : FnScope ["self", "at"] ["self", "at"] (defScope s_NoHex___init__) := ⟨rfl, rfl, rfl, by decide +kernel, rfl, by decide +kernel, by decide +kernel⟩
theorem ok_NoHex_init {C fI : Addr} {fd : FuncData} (X_c : XcB K mg "NoHex" "NoHex.__init__" s_NoHex___init__ "ValueError.__new__" [.type "ValueError", .type "Exception", .type "BaseException", .type "object"] C fI fd) (T : Txt mg) (vB : PySem.W.findCls K (.type "ValueError") (.type "type") "__init__" = some (.val (.builtin "ValueError.__init__"))) (nx_at : PySem.W.findIn K (.ref C) "at" = some none) : FnOk P w K mg base CX0 1 fI fd ["self", "at"] (spXs C (mkF ["at"])) := by
  refine X_c.F.ok sc_NoHex___init__ (fun vs H Q E h => ?_) (fun cdv A outer s H vs Q E hr h => ?_)
  · obtain ⟨a, ws, fs, rfl, hm, _⟩ := h
    obtain ⟨v0, rfl, rfl⟩ := mkF1 hm
    rfl
  · obtain ⟨a, ws, fs, rfl, hm, ha, k⟩ := h
    obtain ⟨v0, rfl, rfl⟩ := mkF1 hm
    refine ⟨_, pss_cons (ps_expr (pe_binit xb_ValueError rfl T.n_ValueError (by decide +kernel) (by kernel_rfl) (by decide +kernel) (by decide +kernel) vB (pa_cons (pv 0) (pa_cons pe_str pa_nil)))) (pss_one (ps_bst xb_ValueError (pv 0) (pv 1))), ?_⟩
    exact ⟨.ref a, rfl, a, C, _, rfl, (by show 1 ≤ 1000; decide), X_c.O, ha, v0, rfl, .ref a, rfl, a, C, rfl, X_c.O, nx_at, .inl ⟨ha, fun d hd hda => k d hd hda⟩⟩
abbrev s_NoWord___init__ : Stmt := inClass (top 2) 0
theorem sc_NoWord___init__ : FnScope ["self", "at"] ["self", "at"] (defScope s_NoWord___init__) := ⟨rfl, rfl, rfl, by decide +kernel, rfl, by decide +kernel, by decide +kernel⟩
theorem ok_NoWord_init {C fI : Addr} {fd : FuncData} (X_c : XcB K mg "NoWord" "NoWord.__init__" s_NoWord___init__ "ValueError.__new__" [.type "ValueError", .type "Exception", .type "BaseException", .type "object"] C fI fd) (T : Txt mg) (vB : PySem.W.findCls K (.type "ValueError") (.type "type") "__init__" = some (.val (.builtin "ValueError.__init__"))) (nx_at : PySem.W.findIn K (.ref C) "at" = some none) : FnOk P w K mg base CX0 1 fI fd ["self", "at"] (spXs C (mkF ["at"])) := by
  refine X_c.F.ok sc_NoWord___init__ (fun vs H Q E h => ?_) (fun cdv A outer s H vs Q E hr h => ?_)
  · obtain ⟨a, ws, fs, rfl, hm, _⟩ := h
    obtain ⟨v0, rfl, rfl⟩ := mkF1 hm
    rfl
  · obtain ⟨a, ws, fs, rfl, hm, ha, k⟩ := h
    obtain ⟨v0, rfl, rfl⟩ := mkF1 hm
    refine ⟨_, pss_cons (ps_expr (pe_binit xb_ValueError rfl T.n_ValueError (by decide +kernel) (by kernel_rfl) (by decide +kernel) (by decide +kernel) vB (pa_cons (pv 0) (pa_cons pe_str pa_nil)))) (pss_one (ps_bst xb_ValueError (pv 0) (pv 1))), ?_⟩
    exact ⟨.ref a, rfl, a, C, _, rfl, (by show 1 ≤ 1000; decide), X_c.O, ha, v0, rfl, .ref a, rfl, a, C, rfl, X_c.O, nx_at, .inl ⟨ha, fun d hd hda => k d hd hda⟩⟩
abbrev s_NoNumber___init__ : Stmt := inClass (top 3) 0
theorem sc_NoNumber___init__ : FnScope ["self", "number"] ["self", "number"] (defScope s_NoNumber___init__) := ⟨rfl, rfl, rfl, by decide +kernel, rfl, by decide +kernel, by decide +kernel⟩
theorem ok_NoNumber_init {C fI : Addr} {fd : FuncData} (X_c : XcB K mg "NoNumber" "NoNumber.__init__" s_NoNumber___init__ "ValueError.__new__" [.type "ValueError", .type "Exception", .type "BaseException", .type "object"] C fI fd) (T : Txt mg) (vB : PySem.W.findCls K (.type "ValueError") (.type "type") "__init__" = some (.val (.builtin "ValueError.__init__"))) (nx_number : PySem.W.findIn K (.ref C) "number" = some none) : FnOk P w K mg base CX0 1 fI fd ["self", "number"] (spXs C (mkF ["number"])) := by
  refine X_c.F.ok sc_NoNumber___init__ (fun vs H Q E h => ?_) (fun cdv A outer s H vs Q E hr h => ?_)
  · obtain ⟨a, ws, fs, rfl, hm, _⟩ := h
    obtain ⟨v0, rfl, rfl⟩ := mkF1 hm
    rfl
  · obtain ⟨a, ws, fs, rfl, hm, ha, k⟩ := h
    obtain ⟨v0, rfl, rfl⟩ := mkF1 hm
    refine ⟨_, pss_cons (ps_expr (pe_binit xb_ValueError rfl T.n_ValueError (by decide +kernel) (by kernel_rfl) (by decide +kernel) (by decide +kernel) vB (pa_cons (pv 0) (pa_cons pe_str pa_nil)))) (pss_one (ps_bst xb_ValueError (pv 0) (pv 1))), ?_⟩
    exact ⟨.ref a, rfl, a, C, _, rfl, (by show 1 ≤ 1000; decide), X_c.O, ha, v0, rfl, .ref a, rfl, a, C, rfl, X_c.O, nx_number, .inl ⟨ha, fun d hd hda => k d hd hda⟩⟩
abbrev s_is_whole : Stmt := top 7
theorem sc_is_whole : FnScope ["thing"] ["thing"] (defScope s_is_whole) := ⟨rfl, rfl, rfl, by decide +kernel, rfl, by decide +kernel, by decide +kernel⟩
def B_is_whole : DT := (dRet (dAnd (dApp (gIsi isInt) (dCons (dVar 0) dNil)) (dApp gNot (dCons (dApp (gIsi isBool) (dCons (dVar 0) dNil)) dNil))))
def U_is_whole : List D → M D := dDef 1 1 B_is_whole
theorem ok_is_whole {f : Addr} {fd : FuncData} (F : Fun K "is_whole" "is_whole" s_is_whole f fd) (T : Txt mg) : FnOk P w K mg base CX0 1 f fd ["thing"] (spU K mg penKey U_is_whole) :=
  fn_D (N := ["thing"]) (k := 0) (m := 1) (t := B_is_whole) F sc_is_whole rfl fun cdv A outer s H E Z hr zk zm zn => (ds_one (ds_ret (d_and (d_isi (f_int zk) (.ty _) (by rfl) T.n_isinstance (dv 0) (pe_bltn (v := .ty "int") (by rfl) T.n_int (by decide +kernel) rfl)) (d_one (d_not (d_isi (f_bool zk) (.ty _) (by rfl) T.n_isinstance (dv 0) (pe_bltn (v := .ty "bool") (by rfl) T.n_bool (by decide +kernel) rfl)))))))
abbrev s_is_from : Stmt := top 8
theorem sc_is_from : FnScope ["thing", "least", "most"] ["thing", "least", "most"] (defScope s_is_from) := ⟨rfl, rfl, rfl, by decide +kernel, rfl, by decide +kernel, by decide +kernel⟩
def B_is_from : DT := (dRet (dAnd (dCall0 U_is_whole (dCons (dVar 0) dNil)) (dChain gLe gLe (dVar 1) (dVar 0) (dVar 2))))
def U_is_from : List D → M D := dDef 3 3 B_is_from
theorem ok_is_from {f : Addr} {fd : FuncData} (F : Fun K "is_from" "is_from" s_is_from f fd) (T : Txt mg) (D_is_whole : OkD P w K mg base CX0 1 "is_whole" ["thing"] (spU K mg penKey U_is_whole)) : FnOk P w K mg base CX0 2 f fd ["thing", "least", "most"] (spU K mg penKey U_is_from) :=
  fn_D (N := ["thing", "least", "most"]) (k := 1) (m := 3) (t := B_is_from) F sc_is_from rfl fun cdv A outer s H E Z hr zk zm zn => (ds_one (ds_ret (d_and (d_call0 D_is_whole (hr.mono (by decide)) zk zm zn (da_cons (dv 0) da_nil)) (d_one (d_chain o_le o_le (dv 1) (dv 0) (dv 2))))))
abbrev s_copied : Stmt := top 9
theorem sc_copied : FnScope ["thing", "one", "key"] ["thing"] (defScope s_copied) := ⟨rfl, rfl, rfl, by decide +kernel, rfl, by decide +kernel, by decide +kernel⟩
def R_copied_1 (Ur : List D → M D) : DT := (dRet (dIf (dApp (gIsi isDict) (dCons (dVar 0) dNil)) (dDc (dIt gKeys (dCons (dVar 0) dNil)) (.nm 2) (dC (.bl true)) (dVar 2) (dCall0 Ur (dCons (dApp gDGet (dCons (dVar 0) (dCons (dVar 2) dNil))) dNil)) [2]) (dVar 0)))
def R_copied_2 (Ur : List D → M D) : DT := (dSeq (dIfS (dApp (gIsi isTuple) (dCons (dVar 0) dNil))
    (dRet (dApp gTuple (dCons (dNew (dLc (dIt gIter (dCons (dVar 0) dNil)) (.nm 1) (dC (.bl true)) (dCall0 Ur (dCons (dVar 1) dNil)) [1])) dNil)))
    dNext)
  (R_copied_1 Ur))
def B_copied (Ur : List D → M D) : DT := (dSeq (dIfS (dApp (gIsi isList) (dCons (dVar 0) dNil))
    (dRet (dNew (dLc (dIt gIter (dCons (dVar 0) dNil)) (.nm 1) (dC (.bl true)) (dCall0 Ur (dCons (dVar 1) dNil)) [1])))
    dNext)
  (R_copied_2 Ur))
def U_copied : Nat → List D → M D
  | 0 => dDef 1 3 dNever
  | j + 1 => dDef 1 3 (B_copied (U_copied j))
theorem ok_copied {f : Addr} {fd : FuncData} (dT : DefT K mg "copied" s_copied f fd) (bd : Binds K fd ["thing"] []) (T : Txt mg) : ∀ j : Nat, FnOk P w K mg base CX0 (1 + j) f fd ["thing"] (spU K mg penKey (U_copied j))
  | 0 => fn_D (N := ["thing", "one", "key"]) (k := 0) (m := 1) (t := dNever) dT.F sc_copied rfl fun cdv A outer s H E Z hr zk zm zn => ds_nevers
  | j + 1 => by
    have Dr : OkD P w K mg base CX0 (1 + j) "copied" ["thing"] (spU K mg penKey (U_copied j)) := DefT.okD dT bd (ok_copied dT bd T j)
    exact fn_D (N := ["thing", "one", "key"]) (k := 1 + j) (m := 1) (t := B_copied (U_copied j)) dT.F sc_copied rfl fun cdv A outer s H E Z hr zk zm zn => (ds_cons (ds_if (dt_val (d_isi (f_list zk) (.ty _) (by rfl) T.n_isinstance (dv 0) (pe_bltn (v := .ty "list") (by rfl) T.n_list (by decide +kernel) rfl)))
      (ds_one (ds_ret (d_lc (own := [("one", 1)]) (gg := gName 1) (tg := (.nm 1)) rfl sc_copied.nd (di_seq zk (dv 0)) (blkOk_by (own := [("one", 1)]) (N := ["thing", "one", "key"]) (sc := defScope s_copied) (by decide +kernel)) (fun _ _ _ _ _ => pg_name (i := 1) sc_copied.nd rfl (Or.inl rfl)) tg_nm (fun _ _ _ _ _ => pts_nil) yes_lift (fun _ _ _ _ _ => (d_call0 Dr (hr.mono (by omega)) zk zm zn (da_cons (dv 1) da_nil))) (by decide))))
      ds_nil)
    (ds_cons (ds_if (dt_val (d_isi (f_tuple zk) (.ty _) (by rfl) T.n_isinstance (dv 0) (pe_bltn (v := .ty "tuple") (by rfl) T.n_tuple (by decide +kernel) rfl)))
      (ds_one (ds_ret (d_callTy (c_tuple zk) (by rfl) T.n_tuple (by decide +kernel) (da_cons (d_lc (own := [("one", 1)]) (gg := gName 1) (tg := (.nm 1)) rfl sc_copied.nd (di_seq zk (dv 0)) (blkOk_by (own := [("one", 1)]) (N := ["thing", "one", "key"]) (sc := defScope s_copied) (by decide +kernel)) (fun _ _ _ _ _ => pg_name (i := 1) sc_copied.nd rfl (Or.inl rfl)) tg_nm (fun _ _ _ _ _ => pts_nil) yes_lift (fun _ _ _ _ _ => (d_call0 Dr (hr.mono (by omega)) zk zm zn (da_cons (dv 1) da_nil))) (by decide)) da_nil))))
      ds_nil)
    (ds_one (ds_ret (d_ifExp (dt_val (d_isi (f_dict zk) (.ty _) (by rfl) T.n_isinstance (dv 0) (pe_bltn (v := .ty "dict") (by rfl) T.n_dict (by decide +kernel) rfl))) (d_dc (own := [("key", 2)]) (gg := gName 2) (tg := (.nm 2)) rfl sc_copied.nd (di_keys (dv 0)) (blkOk_by (own := [("key", 2)]) (N := ["thing", "one", "key"]) (sc := defScope s_copied) (by decide +kernel)) (fun _ _ _ _ _ => pg_name (i := 2) sc_copied.nd rfl (Or.inl rfl)) tg_nm (fun _ _ _ _ _ => pts_nil) yes_lift (fun _ _ _ _ _ => (dv 2)) (fun _ _ _ _ _ => (d_call0 Dr (hr.mono (by omega)) zk zm zn (da_cons (d_dget hr.units (dv 0) (dv 2)) da_nil))) (by decide)) (dv 0))))))
abbrev s_number_in : Stmt := top 10
theorem sc_number_in : FnScope ["word", "sign"] ["word"] (defScope s_number_in) := ⟨rfl, rfl, rfl, by decide +kernel, rfl, by decide +kernel, by decide +kernel⟩
def R_number_in_1 : DT := (dRet (dIf (dAnd (dApp gEq (dCons (dApp gIx (dCons (dVar 0) (dCons (dC (.int 0)) dNil))) (dCons (dC (.str "0")) dNil))) (dApp gNe (dCons (dVar 0) (dCons (dC (.str "0")) dNil)))) (dC .non) (dApp gIntS (dCons (dVar 0) dNil))))
def B_number_in : DT := (dSeq (dIfS (dOr (dApp gNot (dCons (dChain gLe gLe (dC (.int 1)) (dApp gLen (dCons (dVar 0) dNil)) (dC (.int 5))) dNil)) (dApp gNot (dCons (dApp gAll (dCons (dNew (dLc (dIt gIter (dCons (dVar 0) dNil)) (.nm 1) (dC (.bl true)) (dApp gInS (dCons (dVar 1) (dCons (dC (.str "0123456789")) dNil))) [1])) dNil)) dNil)))
    (dRet (dC .non))
    dNext)
  R_number_in_1)
def U_number_in : List D → M D := dDef 1 2 B_number_in
theorem ok_number_in {f : Addr} {fd : FuncData} (F : Fun K "number_in" "number_in" s_number_in f fd) (T : Txt mg) : FnOk P w K mg base CX0 1 f fd ["word"] (spU K mg penKey U_number_in) :=
  fn_D (N := ["word", "sign"]) (k := 0) (m := 1) (t := B_number_in) F sc_number_in rfl fun cdv A outer s H E Z hr zk zm zn => (ds_cons (ds_if (PW.pt (dw_or (dt_not (dt_chain o_le o_le d_int (d_callB (c_len zk) (by rfl) T.n_len (by decide +kernel) (da_cons (dv 0) da_nil)) (d_c (pe_glob (v := .int 5) rfl (T.g_MOST_FIGURES).choose_spec ⟨_, rfl⟩) (fun _ => .int _)))) (dw_or1 (dt_not (dt_val (d_callB (c_all rfl zk) (by rfl) T.n_all (by decide +kernel) (da_cons (d_lc (own := [("sign", 1)]) (gg := gName 1) (tg := (.nm 1)) rfl sc_number_in.nd (di_seq zk (dv 0)) (blkOk_by (own := [("sign", 1)]) (N := ["word", "sign"]) (sc := defScope s_number_in) (by decide +kernel)) (fun _ _ _ _ _ => pg_name (i := 1) sc_number_in.nd rfl (Or.inl rfl)) tg_nm (fun _ _ _ _ _ => pts_nil) yes_lift (fun _ _ _ _ _ => (d_cmp o_inS (dv 1) (d_c (pe_glob (v := .str "0123456789") rfl (T.g_FIGURES).choose_spec ⟨_, rfl⟩) (fun _ => .str _)) rfl)) (by decide)) da_nil)))))))
      (ds_one (ds_ret d_non))
      ds_nil)
    (ds_one (ds_ret (d_ifExp (PW.pt (dw_and (dt_cmp (o_eq zk hr.units) (d_ix (o_ix zk) (dv 0) d_int (fun _ _ => rfl)) d_str (nomark _)) (dw_and1 (dt_cmp (o_ne zk hr.units) (dv 0) d_str (nomark _))))) d_non (d_callTy c_intS (by rfl) T.n_int (by decide +kernel) (da_cons (dv 0) da_nil))))))
abbrev s_between : Stmt := top 15
theorem sc_between : FnScope ["many"] ["many"] (defScope s_between) := ⟨rfl, rfl, rfl, by decide +kernel, rfl, by decide +kernel, by decide +kernel⟩
def B_between : DT := (dRet (dIf (dApp gEq (dCons (dApp gMod (dCons (dVar 0) (dCons (dC (.int 16)) dNil))) (dCons (dC (.int 0)) dNil))) (dC (.str "\n")) (dC (.str " "))))
def U_between : List D → M D := dDef 1 1 B_between
theorem ok_between {f : Addr} {fd : FuncData} (F : Fun K "between" "between" s_between f fd) (T : Txt mg) : FnOk P w K mg base CX0 1 f fd ["many"] (spU K mg penKey U_between) :=
  fn_D (N := ["many"]) (k := 0) (m := 1) (t := B_between) F sc_between rfl fun cdv A outer s H E Z hr zk zm zn => (ds_one (ds_ret (d_ifExp (dt_cmp (o_eq zk hr.units) (d_bin o_mod (dv 0) (d_c (pe_glob (v := .int 16) rfl (T.g_IN_A_ROW).choose_spec ⟨_, rfl⟩) (fun _ => .int _))) d_int (nomark _)) d_str d_str)))
abbrev s_show_hex : Stmt := top 16
theorem sc_show_hex : FnScope ["row", "pieces", "many", "byte"] ["row"] (defScope s_show_hex) := ⟨rfl, rfl, rfl, by decide +kernel, rfl, by decide +kernel, by decide +kernel⟩
def L_show_hex_1 : DT := (dMut 1 mAppend (dCons (dApp gAdd (dCons (dApp gAdd (dCons (dIf (dApp gEq (dCons (dVar 2) (dCons (dC (.int 0)) dNil))) (dC (.str "")) (dCall0 U_between (dCons (dVar 2) dNil))) (dCons (dApp gIx (dCons (dC (.str "0123456789abcdef")) (dCons (dApp gDiv (dCons (dVar 3) (dCons (dC (.int 16)) dNil))) dNil))) dNil))) (dCons (dApp gIx (dCons (dC (.str "0123456789abcdef")) (dCons (dApp gMod (dCons (dVar 3) (dCons (dC (.int 16)) dNil))) dNil))) dNil))) dNil))
def R_show_hex_1 : DT := (dUn 1 (dRet (dJoin (dC (.str "")) (dVar 1))))
def B_show_hex : DT := (dSeq (dSetO 1 (dOwnL dNil))
  (dSeq (dFor (dIt gEnum (dCons (dVar 0) dNil)) (.tp [2, 3])
    L_show_hex_1)
  R_show_hex_1))
def U_show_hex : List D → M D := dDef 1 4 B_show_hex
theorem ok_show_hex {f : Addr} {fd : FuncData} (F : Fun K "show_hex" "show_hex" s_show_hex f fd) (T : Txt mg) (D_between : OkD P w K mg base CX0 1 "between" ["many"] (spU K mg penKey U_between)) : FnOk P w K mg base CX0 2 f fd ["row"] (spU K mg penKey U_show_hex) :=
  fn_D (N := ["row", "pieces", "many", "byte"]) (k := 1) (m := 1) (t := B_show_hex) F sc_show_hex rfl fun cdv A outer s H E Z hr zk zm zn => (ds_cons (ds_setO (i := 1) sc_show_hex.nd rfl (Or.inl rfl) (o_lst da_nil))
    (ds_cons (ds_for (tg := (.tp [2, 3])) (gg := gSq K 2 (gNames [2, 3])) PassesOwn.never rfl (di_enum zk (by rfl) T.n_enumerate (da_cons (dv 0) da_nil)) (pg_sq rfl (pgs_cons (pg_name (i := 2) sc_show_hex.nd rfl (Or.inl rfl)) (pgs_cons (pg_name (i := 3) sc_show_hex.nd rfl (Or.inl rfl)) pgs_nil))) (tg_tp zk.symm rfl)
      (ds_one (ds_mut PySem.F.slot_list_append PySem.F.type_list_append mt_append m_append (pv 1) (da_cons (d_bin (o_add zk) (d_bin (o_add zk) (d_ifExp (dt_cmp (o_eq zk hr.units) (dv 2) d_int (nomark _)) d_str (d_call0 D_between (hr.mono (by decide)) zk zm zn (da_cons (dv 2) da_nil))) (d_ix (o_ix zk) (d_c (pe_glob (v := .str "0123456789abcdef") rfl (T.g_SIGNS).choose_spec ⟨_, rfl⟩) (fun _ => .str _)) (d_bin o_div (dv 3) d_int) (fun _ _ => rfl))) (d_ix (o_ix zk) (d_c (pe_glob (v := .str "0123456789abcdef") rfl (T.g_SIGNS).choose_spec ⟨_, rfl⟩) (fun _ => .str _)) (d_bin o_mod (dv 3) d_int) (fun _ _ => rfl))) da_nil))))
    (ds_one (ds_un 1 (ds_ret (d_join zk d_str (dv 1)))))))
abbrev s_may_be : Stmt := top 17
theorem sc_may_be : FnScope ["sign", "at"] ["sign", "at"] (defScope s_may_be) := ⟨rfl, rfl, rfl, by decide +kernel, rfl, by decide +kernel, by decide +kernel⟩
def B_may_be : DT := (dRet (dIf (dApp gEq (dCons (dApp gMod (dCons (dVar 1) (dCons (dC (.int 3)) dNil))) (dCons (dC (.int 2)) dNil))) (dApp gEq (dCons (dVar 0) (dCons (dCall0 U_between (dCons (dApp gAdd (dCons (dApp gDiv (dCons (dVar 1) (dCons (dC (.int 3)) dNil))) (dCons (dC (.int 1)) dNil))) dNil)) dNil))) (dApp gInS (dCons (dVar 0) (dCons (dC (.str "0123456789abcdef")) dNil)))))
def U_may_be : List D → M D := dDef 2 2 B_may_be
theorem ok_may_be {f : Addr} {fd : FuncData} (F : Fun K "may_be" "may_be" s_may_be f fd) (T : Txt mg) (D_between : OkD P w K mg base CX0 1 "between" ["many"] (spU K mg penKey U_between)) : FnOk P w K mg base CX0 2 f fd ["sign", "at"] (spU K mg penKey U_may_be) :=
  fn_D (N := ["sign", "at"]) (k := 1) (m := 2) (t := B_may_be) F sc_may_be rfl fun cdv A outer s H E Z hr zk zm zn => (ds_one (ds_ret (d_ifExp (dt_cmp (o_eq zk hr.units) (d_bin o_mod (dv 1) d_int) d_int (nomark _)) (d_cmp (o_eq zk hr.units) (dv 0) (d_call0 D_between (hr.mono (by decide)) zk zm zn (da_cons (d_bin (o_add zk) (d_bin o_div (dv 1) d_int) d_int) da_nil)) (nomark _)) (d_cmp o_inS (dv 0) (d_c (pe_glob (v := .str "0123456789abcdef") rfl (T.g_SIGNS).choose_spec ⟨_, rfl⟩) (fun _ => .str _)) rfl))))
abbrev s_read_hex : Stmt := top 18
theorem sc_read_hex : FnScope ["text", "at", "sign"] ["text"] (defScope s_read_hex) := ⟨rfl, rfl, rfl, by decide +kernel, rfl, by decide +kernel, by decide +kernel⟩
def L_read_hex_1 : DT := (dIfS (dApp gNot (dCons (dCall0 U_may_be (dCons (dVar 2) (dCons (dVar 1) dNil))) dNil))
    (dRaise "NoHex" ["at"] (dCons (dVar 1) dNil))
    dNext)
def R_read_hex_1 : DT := (dRet (dApp gTuple (dCons (dNew (dLc (dIt gRange3 (dCons (dC (.int 0)) (dCons (dApp gLen (dCons (dVar 0) dNil)) (dCons (dC (.int 3)) dNil)))) (.nm 1) (dC (.bl true)) (dApp gAdd (dCons (dApp gMul (dCons (dSIdx (dC (.str "0123456789abcdef")) (dApp gIx (dCons (dVar 0) (dCons (dVar 1) dNil)))) (dCons (dC (.int 16)) dNil))) (dCons (dSIdx (dC (.str "0123456789abcdef")) (dApp gIx (dCons (dVar 0) (dCons (dApp gAdd (dCons (dVar 1) (dCons (dC (.int 1)) dNil))) dNil)))) dNil))) [1])) dNil)))
def R_read_hex_2 : DT := (dSeq (dIfS (dAnd (dApp gNe (dCons (dVar 0) (dCons (dC (.str "")) dNil))) (dApp gNe (dCons (dApp gMod (dCons (dApp gLen (dCons (dVar 0) dNil)) (dCons (dC (.int 3)) dNil))) (dCons (dC (.int 2)) dNil))))
    (dRaise "NoHex" ["at"] (dCons (dApp gLen (dCons (dVar 0) dNil)) dNil))
    dNext)
  R_read_hex_1)
def R_read_hex_3 : DT := (dSeq (dFor (dIt gEnum (dCons (dVar 0) dNil)) (.tp [1, 2])
    L_read_hex_1)
  R_read_hex_2)
def B_read_hex : DT := (dSeq (dIfS (dApp gNot (dCons (dApp (gIsi isStr) (dCons (dVar 0) dNil)) dNil))
    (dRaise "NoHex" ["at"] (dCons (dC (.int 0)) dNil))
    dNext)
  R_read_hex_3)
def U_read_hex : List D → M D := dDef 1 3 B_read_hex
theorem ok_read_hex {f : Addr} {fd : FuncData} (F : Fun K "read_hex" "read_hex" s_read_hex f fd) (T : Txt mg) (D_may_be : OkD P w K mg base CX0 2 "may_be" ["sign", "at"] (spU K mg penKey U_may_be)) {CX_a_NoHex fI_NoHex : Addr} {fdI_NoHex : FuncData} (X_NoHex : XcB K mg "NoHex" "NoHex.__init__" s_NoHex___init__ "ValueError.__new__" [.type "ValueError", .type "Exception", .type "BaseException", .type "object"] CX_a_NoHex fI_NoHex fdI_NoHex) (F_NoHex : FnOk P w K mg base CX0 1 fI_NoHex fdI_NoHex ["self", "at"] (spXs CX_a_NoHex (mkF ["at"]))) (B_NoHex : Binds K fdI_NoHex ["self", "at"] []) : FnOk P w K mg base (L2.CX P w) 3 f fd ["text"] (spU K mg penKey U_read_hex) := by
  refine fn_DX (N := ["text", "at", "sign"]) (k := 2) (m := 1) (t := B_read_hex) F sc_read_hex rfl fun cdv A outer s H E Z hr zk zm zn zw => ?_
  have tk : Takes (cxOf (L2.CX P w) P w K mg base ["text", "at", "sign"] "read_hex" (defScope s_read_hex) f cdv A outer s H E) Z.W := by rw [zw]; exact takes_of rfl rfl rfl rfl
  exact (ds_cons (ds_if (dt_not (dt_val (d_isi (f_str zk) (.ty _) (by rfl) T.n_isinstance (dv 0) (pe_bltn (v := .ty "str") (by rfl) T.n_str (by decide +kernel) rfl))))
      (ds_one (ds_raise (names := ["at"]) xb_ValueError rfl tk X_NoHex F_NoHex B_NoHex (hr.mono (by decide)) zm (da_cons d_int da_nil) (by decide)))
      ds_nil)
    (ds_cons (ds_for (tg := (.tp [1, 2])) (gg := gSq K 2 (gNames [1, 2])) (passes_of rfl) rfl (di_enum zk (by rfl) T.n_enumerate (da_cons (dv 0) da_nil)) (pg_sq rfl (pgs_cons (pg_name (i := 1) sc_read_hex.nd rfl (Or.inl rfl)) (pgs_cons (pg_name (i := 2) sc_read_hex.nd rfl (Or.inl rfl)) pgs_nil))) (tg_tp zk.symm rfl)
      (ds_one (ds_if (dt_not (dt_val (d_call0 D_may_be (hr.mono (by decide)) zk zm zn (da_cons (dv 2) (da_cons (dv 1) da_nil)))))
      (ds_one (ds_raise (names := ["at"]) xb_ValueError rfl tk X_NoHex F_NoHex B_NoHex (hr.mono (by decide)) zm (da_cons (dv 1) da_nil) (by decide)))
      ds_nil)))
    (ds_cons (ds_if (PW.pt (dw_and (dt_cmp (o_ne zk hr.units) (dv 0) d_str (nomark _)) (dw_and1 (dt_cmp (o_ne zk hr.units) (d_bin o_mod (d_callB (c_len zk) (by rfl) T.n_len (by decide +kernel) (da_cons (dv 0) da_nil)) d_int) d_int (nomark _)))))
      (ds_one (ds_raise (names := ["at"]) xb_ValueError rfl tk X_NoHex F_NoHex B_NoHex (hr.mono (by decide)) zm (da_cons (d_callB (c_len zk) (by rfl) T.n_len (by decide +kernel) (da_cons (dv 0) da_nil)) da_nil) (by decide)))
      ds_nil)
    (ds_one (ds_ret (d_callTy (c_tuple zk) (by rfl) T.n_tuple (by decide +kernel) (da_cons (d_lc (own := [("at", 1)]) (gg := gName 1) (tg := (.nm 1)) rfl sc_read_hex.nd (di_range3 (by rfl) T.n_range (da_cons d_int (da_cons (d_callB (c_len zk) (by rfl) T.n_len (by decide +kernel) (da_cons (dv 0) da_nil)) (da_cons d_int da_nil)))) (blkOk_by (own := [("at", 1)]) (N := ["text", "at", "sign"]) (sc := defScope s_read_hex) (by decide +kernel)) (fun _ _ _ _ _ => pg_name (i := 1) sc_read_hex.nd rfl (Or.inl rfl)) tg_nm (fun _ _ _ _ _ => pts_nil) yes_lift (fun _ _ _ _ _ => (d_bin (o_add zk) (d_bin (o_mul zk) (d_sidx (d_c (pe_glob (v := .str "0123456789abcdef") rfl (T.g_SIGNS).choose_spec ⟨_, rfl⟩) (fun _ => .str _)) (d_ix (o_ix zk) (dv 0) (dv 1) (fun _ _ => rfl))) d_int) (d_sidx (d_c (pe_glob (v := .str "0123456789abcdef") rfl (T.g_SIGNS).choose_spec ⟨_, rfl⟩) (fun _ => .str _)) (d_ix (o_ix zk) (dv 0) (d_bin (o_add zk) (dv 1) d_int) (fun _ _ => rfl))))) (by decide)) da_nil)))))))
abbrev s_bytes_of : Stmt := top 19
theorem sc_bytes_of : FnScope ["number", "many", "found", "left", "turn"] ["number", "many"] (defScope s_bytes_of) := ⟨rfl, rfl, rfl, by decide +kernel, rfl, by decide +kernel, by decide +kernel⟩
def L_bytes_of_1 : DT := (dSeq (dMut 2 mAppend (dCons (dApp gMod (dCons (dVar 3) (dCons (dC (.int 256)) dNil))) dNil))
  (dSet 3 (dApp gDiv (dCons (dVar 3) (dCons (dC (.int 256)) dNil)))))
def R_bytes_of_1 : DT := (dUn 2 (dRet (dApp gTuple (dCons (dApp gRevL (dCons (dVar 2) dNil)) dNil))))
def R_bytes_of_2 : DT := (dSeq (dIfS (dApp gGt (dCons (dVar 3) (dCons (dC (.int 0)) dNil)))
    (dRaise "NoNumber" ["number"] (dCons (dCall0 (U_copied 3) (dCons (dVar 0) dNil)) dNil))
    dNext)
  R_bytes_of_1)
def R_bytes_of_3 : DT := (dSeq (dPar 2 3 (dOwnL dNil) (dSh (dVar 0)))
  (dSeq (dFor (dIt gRange (dCons (dVar 1) dNil)) (.nm 4)
    L_bytes_of_1)
  R_bytes_of_2))
def B_bytes_of : DT := (dSeq (dIfS (dOr (dApp gNot (dCons (dCall0 U_is_whole (dCons (dVar 0) dNil)) dNil)) (dApp gLt (dCons (dVar 0) (dCons (dC (.int 0)) dNil))))
    (dRaise "NoNumber" ["number"] (dCons (dCall0 (U_copied 3) (dCons (dVar 0) dNil)) dNil))
    dNext)
  R_bytes_of_3)
def U_bytes_of : List D → M D := dDef 2 5 B_bytes_of
theorem ok_bytes_of {f : Addr} {fd : FuncData} (F : Fun K "bytes_of" "bytes_of" s_bytes_of f fd) (T : Txt mg) (D_is_whole : OkD P w K mg base CX0 1 "is_whole" ["thing"] (spU K mg penKey U_is_whole)) (D_copied : OkD P w K mg base CX0 4 "copied" ["thing"] (spU K mg penKey (U_copied 3))) {CX_a_NoNumber fI_NoNumber : Addr} {fdI_NoNumber : FuncData} (X_NoNumber : XcB K mg "NoNumber" "NoNumber.__init__" s_NoNumber___init__ "ValueError.__new__" [.type "ValueError", .type "Exception", .type "BaseException", .type "object"] CX_a_NoNumber fI_NoNumber fdI_NoNumber) (F_NoNumber : FnOk P w K mg base CX0 1 fI_NoNumber fdI_NoNumber ["self", "number"] (spXs CX_a_NoNumber (mkF ["number"]))) (B_NoNumber : Binds K fdI_NoNumber ["self", "number"] []) : FnOk P w K mg base (L2.CX P w) 5 f fd ["number", "many"] (spU K mg penKey U_bytes_of) := by
  refine fn_DX (N := ["number", "many", "found", "left", "turn"]) (k := 4) (m := 2) (t := B_bytes_of) F sc_bytes_of rfl fun cdv A outer s H E Z hr zk zm zn zw => ?_
  have tk : Takes (cxOf (L2.CX P w) P w K mg base ["number", "many", "found", "left", "turn"] "bytes_of" (defScope s_bytes_of) f cdv A outer s H E) Z.W := by rw [zw]; exact takes_of rfl rfl rfl rfl
  exact (ds_cons (ds_if (PW.pt (dw_or (dt_not (dt_val (d_call0 D_is_whole (hr.mono (by decide)) zk zm zn (da_cons (dv 0) da_nil)))) (dw_or1 (dt_cmp o_lt (dv 0) d_int (nomark _)))))
      (ds_one (ds_raise (names := ["number"]) xb_ValueError rfl tk X_NoNumber F_NoNumber B_NoNumber (hr.mono (by decide)) zm (da_cons (d_call0 D_copied (hr.mono (by decide)) zk zm zn (da_cons (dv 0) da_nil)) da_nil) (by decide)))
      ds_nil)
    (ds_cons (ds_par (i := 2) (j := 3) rfl sc_bytes_of.nd rfl rfl (by decide) rfl rfl (o_lst da_nil) (o_sh (dv 0)) (by rfl))
    (ds_cons (ds_for (tg := (.nm 4)) (gg := gName 4) (passes_of rfl) rfl (di_range1 (by rfl) T.n_range (dv 1)) (pg_name (i := 4) sc_bytes_of.nd rfl (Or.inl rfl)) tg_nm
      (ds_cons (ds_mut PySem.F.slot_list_append PySem.F.type_list_append mt_append m_append (pv 2) (da_cons (d_bin o_mod (dv 3) (d_c (pe_glob (v := .int 256) rfl (T.g_BYTE).choose_spec ⟨_, rfl⟩) (fun _ => .int _))) da_nil))
    (ds_one (ds_set (i := 3) sc_bytes_of.nd rfl (Or.inl rfl) (d_bin o_div (dv 3) (d_c (pe_glob (v := .int 256) rfl (T.g_BYTE).choose_spec ⟨_, rfl⟩) (fun _ => .int _)))))))
    (ds_cons (ds_if (dt_cmp o_gt (dv 3) d_int (nomark _))
      (ds_one (ds_raise (names := ["number"]) xb_ValueError rfl tk X_NoNumber F_NoNumber B_NoNumber (hr.mono (by decide)) zm (da_cons (d_call0 D_copied (hr.mono (by decide)) zk zm zn (da_cons (dv 0) da_nil)) da_nil) (by decide)))
      ds_nil)
    (ds_one (ds_un 2 (ds_ret (d_callTy (c_tuple zk) (by rfl) T.n_tuple (by decide +kernel) (da_cons (d_revL zk (dv 2)) da_nil)))))))))
abbrev s_number_of : Stmt := top 20
theorem sc_number_of : FnScope ["row", "found", "byte"] ["row"] (defScope s_number_of) := ⟨rfl, rfl, rfl, by decide +kernel, rfl, by decide +kernel, by decide +kernel⟩
def L_number_of_1 : DT := (dSet 1 (dApp gAdd (dCons (dApp gMul (dCons (dVar 1) (dCons (dC (.int 256)) dNil))) (dCons (dVar 2) dNil))))
def R_number_of_1 : DT := (dRet (dVar 1))
def B_number_of : DT := (dSeq (dSet 1 (dC (.int 0)))
  (dSeq (dFor (dIt gIter (dCons (dVar 0) dNil)) (.nm 2)
    L_number_of_1)
  R_number_of_1))
def U_number_of : List D → M D := dDef 1 3 B_number_of
theorem ok_number_of {f : Addr} {fd : FuncData} (F : Fun K "number_of" "number_of" s_number_of f fd) (T : Txt mg) : FnOk P w K mg base CX0 1 f fd ["row"] (spU K mg penKey U_number_of) :=
  fn_D (N := ["row", "found", "byte"]) (k := 0) (m := 1) (t := B_number_of) F sc_number_of rfl fun cdv A outer s H E Z hr zk zm zn => (ds_cons (ds_set (i := 1) sc_number_of.nd rfl (Or.inl rfl) d_int)
    (ds_cons (ds_for (tg := (.nm 2)) (gg := gName 2) PassesOwn.never rfl (di_seq zk (dv 0)) (pg_name (i := 2) sc_number_of.nd rfl (Or.inl rfl)) tg_nm
      (ds_one (ds_set (i := 1) sc_number_of.nd rfl (Or.inl rfl) (d_bin (o_add zk) (d_bin (o_mul zk) (dv 1) (d_c (pe_glob (v := .int 256) rfl (T.g_BYTE).choose_spec ⟨_, rfl⟩) (fun _ => .int _))) (dv 2)))))
    (ds_one (ds_ret (dv 1)))))
abbrev s_entry_by : Stmt := top 27
theorem sc_entry_by : FnScope ["name", "entry"] ["name"] (defScope s_entry_by) := ⟨rfl, rfl, rfl, by decide +kernel, rfl, by decide +kernel, by decide +kernel⟩
def B_entry_by : DT := (dRet (dGet1 (dDc (dIt gIter (dCons (dC C_TABLE) dNil)) (.nm 1) (dC (.bl true)) (dApp gIx (dCons (dVar 1) (dCons (dC (.int 0)) dNil))) (dVar 1) [1]) (dVar 0)))
def U_entry_by : List D → M D := dDef 1 2 B_entry_by
theorem ok_entry_by {f : Addr} {fd : FuncData} (F : Fun K "entry_by" "entry_by" s_entry_by f fd) (T : Txt mg) (KT_TABLE : KTr K mg "TABLE" C_TABLE) : FnOk P w K mg base CX0 1 f fd ["name"] (spU K mg penKey U_entry_by) :=
  fn_D (N := ["name", "entry"]) (k := 0) (m := 1) (t := B_entry_by) F sc_entry_by rfl fun cdv A outer s H E Z hr zk zm zn => (ds_one (ds_ret (d_dget1 hr.units (d_dc (own := [("entry", 1)]) (gg := gName 1) (tg := (.nm 1)) rfl sc_entry_by.nd (di_seq zk (d_const KT_TABLE zk zm)) (blkOk_by (own := [("entry", 1)]) (N := ["name", "entry"]) (sc := defScope s_entry_by) (by decide +kernel)) (fun _ _ _ _ _ => pg_name (i := 1) sc_entry_by.nd rfl (Or.inl rfl)) tg_nm (fun _ _ _ _ _ => pts_nil) yes_lift (fun _ _ _ _ _ => (d_ix (o_ix zk) (dv 1) d_int (fun _ _ => rfl))) (fun _ _ _ _ _ => (dv 1)) (by decide)) (dv 0))))
abbrev s_entry_at : Stmt := top 28
theorem sc_entry_at : FnScope ["byte", "found", "entry"] ["byte"] (defScope s_entry_at) := ⟨rfl, rfl, rfl, by decide +kernel, rfl, by decide +kernel, by decide +kernel⟩
def B_entry_at : DT := (dSeq (dSet 1 (dNew (dLc (dIt gIter (dCons (dC C_TABLE) dNil)) (.nm 2) (dChain gLe gLt (dApp gIx (dCons (dVar 2) (dCons (dC (.int 1)) dNil))) (dVar 0) (dApp gAdd (dCons (dApp gIx (dCons (dVar 2) (dCons (dC (.int 1)) dNil))) (dCons (dApp (gCD C_SPANS) (dCons (dApp gIx (dCons (dVar 2) (dCons (dC (.int 2)) dNil))) dNil)) dNil)))) (dVar 2) [2])))
  (dRet (dIf (dApp gNe0L (dCons (dVar 1) (dCons (dApp gList dNil) dNil))) (dApp gIx (dCons (dVar 1) (dCons (dC (.int 0)) dNil))) (dC .non))))
def U_entry_at : List D → M D := dDef 1 3 B_entry_at
theorem ok_entry_at {f : Addr} {fd : FuncData} (F : Fun K "entry_at" "entry_at" s_entry_at f fd) (T : Txt mg) (KT_TABLE : KTr K mg "TABLE" C_TABLE) (KD_SPANS : KDc K mg w "SPANS" C_SPANS) : FnOk P w K mg base CX0 1 f fd ["byte"] (spU K mg penKey U_entry_at) :=
  fn_D (N := ["byte", "found", "entry"]) (k := 0) (m := 1) (t := B_entry_at) F sc_entry_at rfl fun cdv A outer s H E Z hr zk zm zn => (ds_cons (ds_setLc (i := 1) (tt := liftT Z.calm (dChain gLe gLt (dApp gIx (dCons (dVar 2) (dCons (dC (.int 1)) dNil))) (dVar 0) (dApp gAdd (dCons (dApp gIx (dCons (dVar 2) (dCons (dC (.int 1)) dNil))) (dCons (dApp (gCD C_SPANS) (dCons (dApp gIx (dCons (dVar 2) (dCons (dC (.int 2)) dNil))) dNil)) dNil))))) (own := [("entry", 2)]) (gg := gName 2) (tg := (.nm 2)) rfl sc_entry_at.nd rfl rfl (sw_true rfl rfl rfl (by decide +kernel)) (di_seq zk (d_const KT_TABLE zk zm)) (blkOk_by (own := [("entry", 2)]) (N := ["byte", "found", "entry"]) (sc := defScope s_entry_at) (by decide +kernel)) (fun _ _ _ _ _ => pg_name (i := 2) sc_entry_at.nd rfl (Or.inl rfl)) tg_nm (fun _ _ _ _ _ => (pts_one (dt_chain o_le o_lt (d_ix (o_ix zk) (dv 2) d_int (fun _ _ => rfl)) (dv 0) (d_bin (o_add zk) (d_ix (o_ix zk) (dv 2) d_int (fun _ _ => rfl)) (d_gdget KD_SPANS zk hr.units (d_ix (o_ix zk) (dv 2) d_int (fun _ _ => rfl))))))) id_lift (fun _ _ _ _ _ => (dv 2)) (by decide))
    (ds_one (ds_ret (d_ifExp (dt_cmp (o_ne0L zk hr.units) (dv 1) (d_lst da_nil) (nomark _)) (d_ix (o_ix zk) (dv 1) d_int (fun _ _ => rfl)) d_non))))
abbrev s_letters_by : Stmt := top 29
theorem sc_letters_by : FnScope ["kinds", "shift"] ["kinds", "shift"] (defScope s_letters_by) := ⟨rfl, rfl, rfl, by decide +kernel, rfl, by decide +kernel, by decide +kernel⟩
def R_letters_by_1 : DT := (dRet (dIf (dApp gEq (dCons (dVar 0) (dCons (dC (.str "n")) dNil))) (dApp gIx (dCons (dC (.str "abcd")) (dCons (dVar 1) dNil))) (dApp gIx (dCons (dC (.str "pq")) (dCons (dVar 1) dNil)))))
def R_letters_by_2 : DT := (dSeq (dIfS (dApp gEq (dCons (dVar 0) (dCons (dC (.str "")) dNil)))
    (dRet (dC (.str "")))
    dNext)
  R_letters_by_1)
def R_letters_by_3 : DT := (dSeq (dIfS (dApp gEq (dCons (dVar 0) (dCons (dC (.str "nx")) dNil)))
    (dRet (dApp gAdd (dCons (dApp gIx (dCons (dC (.str "abcd")) (dCons (dApp gMod (dCons (dVar 1) (dCons (dC (.int 4)) dNil))) dNil))) (dCons (dApp gIx (dCons (dC (.str "pq")) (dCons (dApp gDiv (dCons (dVar 1) (dCons (dC (.int 4)) dNil))) dNil))) dNil))))
    dNext)
  R_letters_by_2)
def R_letters_by_4 : DT := (dSeq (dIfS (dApp gEq (dCons (dVar 0) (dCons (dC (.str "xn")) dNil)))
    (dRet (dApp gAdd (dCons (dApp gIx (dCons (dC (.str "pq")) (dCons (dApp gDiv (dCons (dVar 1) (dCons (dC (.int 4)) dNil))) dNil))) (dCons (dApp gIx (dCons (dC (.str "abcd")) (dCons (dApp gMod (dCons (dVar 1) (dCons (dC (.int 4)) dNil))) dNil))) dNil))))
    dNext)
  R_letters_by_3)
def R_letters_by_5 : DT := (dSeq (dIfS (dApp gEq (dCons (dVar 0) (dCons (dC (.str "xx")) dNil)))
    (dRet (dApp gAdd (dCons (dApp gIx (dCons (dC (.str "pq")) (dCons (dApp gDiv (dCons (dVar 1) (dCons (dC (.int 2)) dNil))) dNil))) (dCons (dApp gIx (dCons (dC (.str "pq")) (dCons (dApp gMod (dCons (dVar 1) (dCons (dC (.int 2)) dNil))) dNil))) dNil))))
    dNext)
  R_letters_by_4)
def B_letters_by : DT := (dSeq (dIfS (dApp gEq (dCons (dVar 0) (dCons (dC (.str "nn")) dNil)))
    (dRet (dApp gAdd (dCons (dApp gIx (dCons (dC (.str "abcd")) (dCons (dApp gDiv (dCons (dVar 1) (dCons (dC (.int 4)) dNil))) dNil))) (dCons (dApp gIx (dCons (dC (.str "abcd")) (dCons (dApp gMod (dCons (dVar 1) (dCons (dC (.int 4)) dNil))) dNil))) dNil))))
    dNext)
  R_letters_by_5)
def U_letters_by : List D → M D := dDef 2 2 B_letters_by
theorem ok_letters_by {f : Addr} {fd : FuncData} (F : Fun K "letters_by" "letters_by" s_letters_by f fd) (T : Txt mg) : FnOk P w K mg base CX0 1 f fd ["kinds", "shift"] (spU K mg penKey U_letters_by) :=
  fn_D (N := ["kinds", "shift"]) (k := 0) (m := 2) (t := B_letters_by) F sc_letters_by rfl fun cdv A outer s H E Z hr zk zm zn => (ds_cons (ds_if (dt_cmp (o_eq zk hr.units) (dv 0) d_str (nomark _))
      (ds_one (ds_ret (d_bin (o_add zk) (d_ix (o_ix zk) (d_c (pe_glob (v := .str "abcd") rfl (T.g_NUMBERED).choose_spec ⟨_, rfl⟩) (fun _ => .str _)) (d_bin o_div (dv 1) d_int) (fun _ _ => rfl)) (d_ix (o_ix zk) (d_c (pe_glob (v := .str "abcd") rfl (T.g_NUMBERED).choose_spec ⟨_, rfl⟩) (fun _ => .str _)) (d_bin o_mod (dv 1) d_int) (fun _ _ => rfl)))))
      ds_nil)
    (ds_cons (ds_if (dt_cmp (o_eq zk hr.units) (dv 0) d_str (nomark _))
      (ds_one (ds_ret (d_bin (o_add zk) (d_ix (o_ix zk) (d_c (pe_glob (v := .str "pq") rfl (T.g_PLACED).choose_spec ⟨_, rfl⟩) (fun _ => .str _)) (d_bin o_div (dv 1) d_int) (fun _ _ => rfl)) (d_ix (o_ix zk) (d_c (pe_glob (v := .str "pq") rfl (T.g_PLACED).choose_spec ⟨_, rfl⟩) (fun _ => .str _)) (d_bin o_mod (dv 1) d_int) (fun _ _ => rfl)))))
      ds_nil)
    (ds_cons (ds_if (dt_cmp (o_eq zk hr.units) (dv 0) d_str (nomark _))
      (ds_one (ds_ret (d_bin (o_add zk) (d_ix (o_ix zk) (d_c (pe_glob (v := .str "pq") rfl (T.g_PLACED).choose_spec ⟨_, rfl⟩) (fun _ => .str _)) (d_bin o_div (dv 1) d_int) (fun _ _ => rfl)) (d_ix (o_ix zk) (d_c (pe_glob (v := .str "abcd") rfl (T.g_NUMBERED).choose_spec ⟨_, rfl⟩) (fun _ => .str _)) (d_bin o_mod (dv 1) d_int) (fun _ _ => rfl)))))
      ds_nil)
    (ds_cons (ds_if (dt_cmp (o_eq zk hr.units) (dv 0) d_str (nomark _))
      (ds_one (ds_ret (d_bin (o_add zk) (d_ix (o_ix zk) (d_c (pe_glob (v := .str "abcd") rfl (T.g_NUMBERED).choose_spec ⟨_, rfl⟩) (fun _ => .str _)) (d_bin o_mod (dv 1) d_int) (fun _ _ => rfl)) (d_ix (o_ix zk) (d_c (pe_glob (v := .str "pq") rfl (T.g_PLACED).choose_spec ⟨_, rfl⟩) (fun _ => .str _)) (d_bin o_div (dv 1) d_int) (fun _ _ => rfl)))))
      ds_nil)
    (ds_cons (ds_if (dt_cmp (o_eq zk hr.units) (dv 0) d_str (nomark _))
      (ds_one (ds_ret d_str))
      ds_nil)
    (ds_one (ds_ret (d_ifExp (dt_cmp (o_eq zk hr.units) (dv 0) d_str (nomark _)) (d_ix (o_ix zk) (d_c (pe_glob (v := .str "abcd") rfl (T.g_NUMBERED).choose_spec ⟨_, rfl⟩) (fun _ => .str _)) (dv 1) (fun _ _ => rfl)) (d_ix (o_ix zk) (d_c (pe_glob (v := .str "pq") rfl (T.g_PLACED).choose_spec ⟨_, rfl⟩) (fun _ => .str _)) (dv 1) (fun _ _ => rfl))))))))))
abbrev s_are_letters : Stmt := top 30
theorem sc_are_letters : FnScope ["kinds", "letters", "one", "kind"] ["kinds", "letters"] (defScope s_are_letters) := ⟨rfl, rfl, rfl, by decide +kernel, rfl, by decide +kernel, by decide +kernel⟩
def R_are_letters_1 : DT := (dRet (dApp gAll (dCons (dNew (dLc (dIt gZipS (dCons (dVar 1) (dCons (dVar 0) dNil))) (.tp [2, 3]) (dC (.bl true)) (dApp gInS (dCons (dVar 2) (dCons (dIf (dApp gEq (dCons (dVar 3) (dCons (dC (.str "n")) dNil))) (dC (.str "abcd")) (dC (.str "pq"))) dNil))) [2, 3])) dNil)))
def B_are_letters : DT := (dSeq (dIfS (dOr (dApp gNot (dCons (dApp (gIsi isStr) (dCons (dVar 1) dNil)) dNil)) (dApp gNe (dCons (dApp gLen (dCons (dVar 1) dNil)) (dCons (dApp gLen (dCons (dVar 0) dNil)) dNil))))
    (dRet (dC (.bl false)))
    dNext)
  R_are_letters_1)
def U_are_letters : List D → M D := dDef 2 4 B_are_letters
theorem ok_are_letters {f : Addr} {fd : FuncData} (F : Fun K "are_letters" "are_letters" s_are_letters f fd) (T : Txt mg) : FnOk P w K mg base CX0 1 f fd ["kinds", "letters"] (spU K mg penKey U_are_letters) :=
  fn_D (N := ["kinds", "letters", "one", "kind"]) (k := 0) (m := 2) (t := B_are_letters) F sc_are_letters rfl fun cdv A outer s H E Z hr zk zm zn => (ds_cons (ds_if (PW.pt (dw_or (dt_not (dt_val (d_isi (f_str zk) (.ty _) (by rfl) T.n_isinstance (dv 1) (pe_bltn (v := .ty "str") (by rfl) T.n_str (by decide +kernel) rfl)))) (dw_or1 (dt_cmp (o_ne zk hr.units) (d_callB (c_len zk) (by rfl) T.n_len (by decide +kernel) (da_cons (dv 1) da_nil)) (d_callB (c_len zk) (by rfl) T.n_len (by decide +kernel) (da_cons (dv 0) da_nil)) (nomark _)))))
      (ds_one (ds_ret d_bl))
      ds_nil)
    (ds_one (ds_ret (d_callB (c_all rfl zk) (by rfl) T.n_all (by decide +kernel) (da_cons (d_lc (own := [("one", 2), ("kind", 3)]) (gg := gSq K 2 (gNames [2, 3])) (tg := (.tp [2, 3])) rfl sc_are_letters.nd (di_zipS (by rfl) T.n_zip (da_cons (dv 1) (da_cons (dv 0) da_nil))) (blkOk_by (own := [("one", 2), ("kind", 3)]) (N := ["kinds", "letters", "one", "kind"]) (sc := defScope s_are_letters) (by decide +kernel)) (fun _ _ _ _ _ => pg_sq rfl (pgs_cons (pg_name (i := 2) sc_are_letters.nd rfl (Or.inl rfl)) (pgs_cons (pg_name (i := 3) sc_are_letters.nd rfl (Or.inl rfl)) pgs_nil))) (tg_tp zk.symm rfl) (fun _ _ _ _ _ => pts_nil) yes_lift (fun _ _ _ _ _ => (d_cmp o_inS (dv 2) (d_ifExp (dt_cmp (o_eq zk hr.units) (dv 3) d_str (nomark _)) (d_c (pe_glob (v := .str "abcd") rfl (T.g_NUMBERED).choose_spec ⟨_, rfl⟩) (fun _ => .str _)) (d_c (pe_glob (v := .str "pq") rfl (T.g_PLACED).choose_spec ⟨_, rfl⟩) (fun _ => .str _))) rfl)) (by decide)) da_nil)))))
abbrev s_is_number : Stmt := top 31
theorem sc_is_number : FnScope ["name", "room", "number"] ["name", "room", "number"] (defScope s_is_number) := ⟨rfl, rfl, rfl, by decide +kernel, rfl, by decide +kernel, by decide +kernel⟩
def R_is_number_1 : DT := (dRet (dCall0 U_is_from (dCons (dVar 2) (dCons (dC (.int 0)) (dCons (dIf (dApp gEq (dCons (dVar 1) (dCons (dC (.int 1)) dNil))) (dC (.int 255)) (dC (.int 65535))) dNil)))))
def R_is_number_2 : DT := (dSeq (dIfS (dApp gIn (dCons (dVar 0) (dCons (dC C_NEAR) dNil)))
    (dRet (dCall0 U_is_from (dCons (dVar 2) (dCons (dApp gNeg (dCons (dC (.int 128)) dNil)) (dCons (dC (.int 127)) dNil)))))
    dNext)
  R_is_number_1)
def B_is_number : DT := (dSeq (dIfS (dApp gEq (dCons (dVar 1) (dCons (dC (.int 0)) dNil)))
    (dRet (dApp gIs (dCons (dVar 2) (dCons (dC .non) dNil))))
    dNext)
  R_is_number_2)
def U_is_number : List D → M D := dDef 3 3 B_is_number
theorem ok_is_number {f : Addr} {fd : FuncData} (F : Fun K "is_number" "is_number" s_is_number f fd) (T : Txt mg) (D_is_from : OkD P w K mg base CX0 2 "is_from" ["thing", "least", "most"] (spU K mg penKey U_is_from)) (KT_NEAR : KTr K mg "NEAR" C_NEAR) : FnOk P w K mg base CX0 3 f fd ["name", "room", "number"] (spU K mg penKey U_is_number) :=
  fn_D (N := ["name", "room", "number"]) (k := 2) (m := 3) (t := B_is_number) F sc_is_number rfl fun cdv A outer s H E Z hr zk zm zn => (ds_cons (ds_if (dt_cmp (o_eq zk hr.units) (dv 1) d_int (nomark _))
      (ds_one (ds_ret (d_cmp o_is (dv 2) d_non (nomark _))))
      ds_nil)
    (ds_cons (ds_if (dt_cmp (o_in zk hr.units) (dv 0) (d_const KT_NEAR zk zm) rfl)
      (ds_one (ds_ret (d_call0 D_is_from (hr.mono (by decide)) zk zm zn (da_cons (dv 2) (da_cons (d_un o_neg d_int) (da_cons d_int da_nil))))))
      ds_nil)
    (ds_one (ds_ret (d_call0 D_is_from (hr.mono (by decide)) zk zm zn (da_cons (dv 2) (da_cons d_int (da_cons (d_ifExp (dt_cmp (o_eq zk hr.units) (dv 1) d_int (nomark _)) d_int d_int) da_nil))))))))
abbrev s_is_word : Stmt := top 32
theorem sc_is_word : FnScope ["thing", "entry", "name", "first", "kinds", "room"] ["thing"] (defScope s_is_word) := ⟨rfl, rfl, rfl, by decide +kernel, rfl, by decide +kernel, by decide +kernel⟩
def R_is_word_1 : DT := (dSeq (dUnp [2, 3, 4, 5] (dVar 1))
  (dRet (dAnd (dCall0 U_are_letters (dCons (dVar 4) (dCons (dApp gIx (dCons (dVar 0) (dCons (dC (.int 1)) dNil))) dNil))) (dCall0 U_is_number (dCons (dVar 2) (dCons (dVar 5) (dCons (dApp gIx (dCons (dVar 0) (dCons (dC (.int 2)) dNil))) dNil)))))))
def R_is_word_2 : DT := (dSeq (dSet 1 (dCall0 U_entry_by (dCons (dApp gIx (dCons (dVar 0) (dCons (dC (.int 0)) dNil))) dNil)))
  (dSeq (dIfS (dApp gIs (dCons (dVar 1) (dCons (dC .non) dNil)))
    (dRet (dC (.bl false)))
    dNext)
  R_is_word_1))
def B_is_word : DT := (dSeq (dIfS (dOr (dApp gNot (dCons (dApp (gIsi isTuple) (dCons (dVar 0) dNil)) dNil)) (dOr (dApp gNe (dCons (dApp gLen (dCons (dVar 0) dNil)) (dCons (dC (.int 3)) dNil))) (dApp gNot (dCons (dApp (gIsi isStr) (dCons (dApp gIx (dCons (dVar 0) (dCons (dC (.int 0)) dNil))) dNil)) dNil))))
    (dRet (dC (.bl false)))
    dNext)
  R_is_word_2)
def U_is_word : List D → M D := dDef 1 6 B_is_word
theorem ok_is_word {f : Addr} {fd : FuncData} (F : Fun K "is_word" "is_word" s_is_word f fd) (T : Txt mg) (D_entry_by : OkD P w K mg base CX0 1 "entry_by" ["name"] (spU K mg penKey U_entry_by)) (D_is_number : OkD P w K mg base CX0 3 "is_number" ["name", "room", "number"] (spU K mg penKey U_is_number)) (D_are_letters : OkD P w K mg base CX0 1 "are_letters" ["kinds", "letters"] (spU K mg penKey U_are_letters)) : FnOk P w K mg base CX0 4 f fd ["thing"] (spU K mg penKey U_is_word) :=
  fn_D (N := ["thing", "entry", "name", "first", "kinds", "room"]) (k := 3) (m := 1) (t := B_is_word) F sc_is_word rfl fun cdv A outer s H E Z hr zk zm zn => (ds_cons (ds_if (PW.pt (dw_or (dt_not (dt_val (d_isi (f_tuple zk) (.ty _) (by rfl) T.n_isinstance (dv 0) (pe_bltn (v := .ty "tuple") (by rfl) T.n_tuple (by decide +kernel) rfl)))) (dw_or (dt_cmp (o_ne zk hr.units) (d_callB (c_len zk) (by rfl) T.n_len (by decide +kernel) (da_cons (dv 0) da_nil)) d_int (nomark _)) (dw_or1 (dt_not (dt_val (d_isi (f_str zk) (.ty _) (by rfl) T.n_isinstance (d_ix (o_ix zk) (dv 0) d_int (fun _ _ => rfl)) (pe_bltn (v := .ty "str") (by rfl) T.n_str (by decide +kernel) rfl))))))))
      (ds_one (ds_ret d_bl))
      ds_nil)
    (ds_cons (ds_set (i := 1) sc_is_word.nd rfl (Or.inl rfl) (d_call0 D_entry_by (hr.mono (by decide)) zk zm zn (da_cons (d_ix (o_ix zk) (dv 0) d_int (fun _ _ => rfl)) da_nil)))
    (ds_cons (ds_if (dt_cmp o_is (dv 1) d_non (nomark _))
      (ds_one (ds_ret d_bl))
      ds_nil)
    (ds_cons (ds_unp (gg := gSq K 4 (gNames [2, 3, 4, 5])) (dv 1) (pg_sq rfl (pgs_cons (pg_name (i := 2) sc_is_word.nd rfl (Or.inl rfl)) (pgs_cons (pg_name (i := 3) sc_is_word.nd rfl (Or.inl rfl)) (pgs_cons (pg_name (i := 4) sc_is_word.nd rfl (Or.inl rfl)) (pgs_cons (pg_name (i := 5) sc_is_word.nd rfl (Or.inl rfl)) pgs_nil))))) (tg_tp zk.symm rfl))
    (ds_one (ds_ret (d_and (d_call0 D_are_letters (hr.mono (by decide)) zk zm zn (da_cons (dv 4) (da_cons (d_ix (o_ix zk) (dv 0) d_int (fun _ _ => rfl)) da_nil))) (d_one (d_call0 D_is_number (hr.mono (by decide)) zk zm zn (da_cons (dv 2) (da_cons (dv 5) (da_cons (d_ix (o_ix zk) (dv 0) d_int (fun _ _ => rfl)) da_nil))))))))))))
abbrev s_bytes_of_word : Stmt := top 33
theorem sc_bytes_of_word : FnScope ["word", "name", "first", "kinds", "room", "shifts", "head", "shift"] ["word"] (defScope s_bytes_of_word) := ⟨rfl, rfl, rfl, by decide +kernel, rfl, by decide +kernel, by decide +kernel⟩
def R_bytes_of_word_1 : DT := (dRet (dApp gAdd (dCons (dVar 6) (dCons (dCall0 U_bytes_of (dCat 1 1 (dCons (dIf (dApp gLt (dCons (dApp gIx (dCons (dVar 0) (dCons (dC (.int 2)) dNil))) (dCons (dC (.int 0)) dNil))) (dApp gAdd (dCons (dApp gIx (dCons (dVar 0) (dCons (dC (.int 2)) dNil))) (dCons (dC (.int 256)) dNil))) (dApp gIx (dCons (dVar 0) (dCons (dC (.int 2)) dNil)))) dNil) (dCons (dVar 4) dNil))) dNil))))
def B_bytes_of_word : DT := (dSeq (dUnp [1, 2, 3, 4] (dCall0 U_entry_by (dCons (dApp gIx (dCons (dVar 0) (dCons (dC (.int 0)) dNil))) dNil)))
  (dSeq (dSet 5 (dNew (dLc (dIt gRange (dCons (dApp (gCD C_SPANS) (dCons (dVar 3) dNil)) dNil)) (.nm 7) (dApp gEq (dCons (dCall0 U_letters_by (dCons (dVar 3) (dCons (dVar 7) dNil))) (dCons (dApp gIx (dCons (dVar 0) (dCons (dC (.int 1)) dNil))) dNil))) (dVar 7) [7])))
  (dSeq (dSet 6 (dApp gTupl (dCons (dApp gAdd (dCons (dVar 2) (dCons (dApp gIx (dCons (dVar 5) (dCons (dC (.int 0)) dNil))) dNil))) dNil)))
  (dSeq (dIfS (dApp gEq (dCons (dVar 4) (dCons (dC (.int 0)) dNil)))
    (dRet (dVar 6))
    dNext)
  R_bytes_of_word_1))))
def U_bytes_of_word : List D → M D := dDef 1 8 B_bytes_of_word
theorem ok_bytes_of_word {f : Addr} {fd : FuncData} (F : Fun K "bytes_of_word" "bytes_of_word" s_bytes_of_word f fd) (T : Txt mg) (D_entry_by : OkD P w K mg base CX0 1 "entry_by" ["name"] (spU K mg penKey U_entry_by)) (D_letters_by : OkD P w K mg base CX0 1 "letters_by" ["kinds", "shift"] (spU K mg penKey U_letters_by)) (KO_bytes_of : OkKo P w K mg base (L2.CX P w) 5 "bytes_of" 1 ["many"] (spU K mg penKey U_bytes_of)) (KD_SPANS : KDc K mg w "SPANS" C_SPANS) : FnOk P w K mg base CX0 6 f fd ["word"] (spU K mg penKey U_bytes_of_word) :=
  fn_D (N := ["word", "name", "first", "kinds", "room", "shifts", "head", "shift"]) (k := 5) (m := 1) (t := B_bytes_of_word) F sc_bytes_of_word rfl fun cdv A outer s H E Z hr zk zm zn => (ds_cons (ds_unp (gg := gSq K 4 (gNames [1, 2, 3, 4])) (d_call0 D_entry_by (hr.mono (by decide)) zk zm zn (da_cons (d_ix (o_ix zk) (dv 0) d_int (fun _ _ => rfl)) da_nil)) (pg_sq rfl (pgs_cons (pg_name (i := 1) sc_bytes_of_word.nd rfl (Or.inl rfl)) (pgs_cons (pg_name (i := 2) sc_bytes_of_word.nd rfl (Or.inl rfl)) (pgs_cons (pg_name (i := 3) sc_bytes_of_word.nd rfl (Or.inr rfl)) (pgs_cons (pg_name (i := 4) sc_bytes_of_word.nd rfl (Or.inl rfl)) pgs_nil))))) (tg_tp zk.symm rfl))
    (ds_cons (ds_setLc (i := 5) (tt := liftT Z.calm (dApp gEq (dCons (dCall0 U_letters_by (dCons (dVar 3) (dCons (dVar 7) dNil))) (dCons (dApp gIx (dCons (dVar 0) (dCons (dC (.int 1)) dNil))) dNil)))) (own := [("shift", 7)]) (gg := gName 7) (tg := (.nm 7)) rfl sc_bytes_of_word.nd rfl rfl (sw_true rfl rfl rfl (by decide +kernel)) (di_range1 (by rfl) T.n_range (d_gdget KD_SPANS zk hr.units (dv 3))) (blkOk_by (own := [("shift", 7)]) (N := ["word", "name", "first", "kinds", "room", "shifts", "head", "shift"]) (sc := defScope s_bytes_of_word) (by decide +kernel)) (fun _ _ _ _ _ => pg_name (i := 7) sc_bytes_of_word.nd rfl (Or.inl rfl)) tg_nm (fun _ _ _ _ _ => (pts_one (dt_cmp (o_eq zk hr.units) (d_call0 D_letters_by (hr.mono (by decide)) zk zm zn (da_cons (dv 3) (da_cons (dv 7) da_nil))) (d_ix (o_ix zk) (dv 0) d_int (fun _ _ => rfl)) (nomark _)))) id_lift (fun _ _ _ _ _ => (dv 7)) (by decide))
    (ds_cons (ds_set (i := 6) sc_bytes_of_word.nd rfl (Or.inl rfl) (d_tup (da_cons (d_bin (o_add zk) (dv 2) (d_ix (o_ix zk) (dv 5) d_int (fun _ _ => rfl))) da_nil)))
    (ds_cons (ds_if (dt_cmp (o_eq zk hr.units) (dv 4) d_int (nomark _))
      (ds_one (ds_ret (dv 6)))
      ds_nil)
    (ds_one (ds_ret (d_bin (o_add zk) (dv 6) (d_kw0 KO_bytes_of neverX (hr.mono (by decide)) zk zm zn (da_cons (d_ifExp (dt_cmp o_lt (d_ix (o_ix zk) (dv 0) d_int (fun _ _ => rfl)) d_int (nomark _)) (d_bin (o_add zk) (d_ix (o_ix zk) (dv 0) d_int (fun _ _ => rfl)) d_int) (d_ix (o_ix zk) (dv 0) d_int (fun _ _ => rfl))) da_nil) (dk_cons (dv 4) dk_nil)))))))))
abbrev s_word_at : Stmt := top 34
theorem sc_word_at : FnScope ["row", "at", "entry", "name", "first", "kinds", "room", "behind", "number"] ["row", "at"] (defScope s_word_at) := ⟨rfl, rfl, rfl, by decide +kernel, rfl, by decide +kernel, by decide +kernel⟩
def R_word_at_1 : DT := (dRet (dApp gTupl (dCons (dApp gTupl (dCons (dVar 3) (dCons (dCall0 U_letters_by (dCons (dVar 5) (dCons (dApp gSub (dCons (dApp gIx (dCons (dVar 0) (dCons (dVar 1) dNil))) (dCons (dVar 4) dNil))) dNil))) (dCons (dVar 8) dNil)))) (dCons (dVar 7) dNil))))
def R_word_at_2 : DT := (dSeq (dSet 8 (dIf (dApp gGt (dCons (dVar 6) (dCons (dC (.int 0)) dNil))) (dCall0 U_number_of (dCons (dSl (dVar 0) (dB (dApp gAdd (dCons (dVar 1) (dCons (dC (.int 1)) dNil)))) (dB (dVar 7))) dNil)) (dC .non)))
  (dSeq (dIfS (dAnd (dApp gIn (dCons (dVar 3) (dCons (dC C_NEAR) dNil))) (dApp gGt (dCons (dVar 8) (dCons (dC (.int 127)) dNil))))
    (dSet 8 (dApp gSub (dCons (dVar 8) (dCons (dC (.int 256)) dNil))))
    dNext)
  R_word_at_1))
def R_word_at_3 : DT := (dSeq (dUnp [3, 4, 5, 6] (dVar 2))
  (dSeq (dSet 7 (dApp gAdd (dCons (dApp gAdd (dCons (dVar 1) (dCons (dC (.int 1)) dNil))) (dCons (dVar 6) dNil))))
  (dSeq (dIfS (dApp gGt (dCons (dVar 7) (dCons (dApp gLen (dCons (dVar 0) dNil)) dNil)))
    (dRaise "NoWord" ["at"] (dCons (dApp gLen (dCons (dVar 0) dNil)) dNil))
    dNext)
  R_word_at_2)))
def B_word_at : DT := (dSeq (dSet 2 (dIf (dChain gLe gLt (dC (.int 0)) (dVar 1) (dApp gLen (dCons (dVar 0) dNil))) (dCall0 U_entry_at (dCons (dApp gIx (dCons (dVar 0) (dCons (dVar 1) dNil))) dNil)) (dC .non)))
  (dSeq (dIfS (dApp gIs (dCons (dVar 2) (dCons (dC .non) dNil)))
    (dRaise "NoWord" ["at"] (dCons (dVar 1) dNil))
    dNext)
  R_word_at_3))
def U_word_at : List D → M D := dDef 2 9 B_word_at
theorem ok_word_at {f : Addr} {fd : FuncData} (F : Fun K "word_at" "word_at" s_word_at f fd) (T : Txt mg) (D_entry_at : OkD P w K mg base CX0 1 "entry_at" ["byte"] (spU K mg penKey U_entry_at)) (D_number_of : OkD P w K mg base CX0 1 "number_of" ["row"] (spU K mg penKey U_number_of)) (D_letters_by : OkD P w K mg base CX0 1 "letters_by" ["kinds", "shift"] (spU K mg penKey U_letters_by)) (KT_NEAR : KTr K mg "NEAR" C_NEAR) {CX_a_NoWord fI_NoWord : Addr} {fdI_NoWord : FuncData} (X_NoWord : XcB K mg "NoWord" "NoWord.__init__" s_NoWord___init__ "ValueError.__new__" [.type "ValueError", .type "Exception", .type "BaseException", .type "object"] CX_a_NoWord fI_NoWord fdI_NoWord) (F_NoWord : FnOk P w K mg base CX0 1 fI_NoWord fdI_NoWord ["self", "at"] (spXs CX_a_NoWord (mkF ["at"]))) (B_NoWord : Binds K fdI_NoWord ["self", "at"] []) : FnOk P w K mg base (L2.CX P w) 3 f fd ["row", "at"] (spU K mg penKey U_word_at) := by
  refine fn_DX (N := ["row", "at", "entry", "name", "first", "kinds", "room", "behind", "number"]) (k := 2) (m := 2) (t := B_word_at) F sc_word_at rfl fun cdv A outer s H E Z hr zk zm zn zw => ?_
  have tk : Takes (cxOf (L2.CX P w) P w K mg base ["row", "at", "entry", "name", "first", "kinds", "room", "behind", "number"] "word_at" (defScope s_word_at) f cdv A outer s H E) Z.W := by rw [zw]; exact takes_of rfl rfl rfl rfl
  exact (ds_cons (ds_set (i := 2) sc_word_at.nd rfl (Or.inl rfl) (d_ifExp (dt_chain o_le o_lt d_int (dv 1) (d_callB (c_len zk) (by rfl) T.n_len (by decide +kernel) (da_cons (dv 0) da_nil))) (d_call0 D_entry_at (hr.mono (by decide)) zk zm zn (da_cons (d_ix (o_ix zk) (dv 0) (dv 1) (fun _ _ => rfl)) da_nil)) d_non))
    (ds_cons (ds_if (dt_cmp o_is (dv 2) d_non (nomark _))
      (ds_one (ds_raise (names := ["at"]) xb_ValueError rfl tk X_NoWord F_NoWord B_NoWord (hr.mono (by decide)) zm (da_cons (dv 1) da_nil) (by decide)))
      ds_nil)
    (ds_cons (ds_unp (gg := gSq K 4 (gNames [3, 4, 5, 6])) (dv 2) (pg_sq rfl (pgs_cons (pg_name (i := 3) sc_word_at.nd rfl (Or.inl rfl)) (pgs_cons (pg_name (i := 4) sc_word_at.nd rfl (Or.inl rfl)) (pgs_cons (pg_name (i := 5) sc_word_at.nd rfl (Or.inl rfl)) (pgs_cons (pg_name (i := 6) sc_word_at.nd rfl (Or.inl rfl)) pgs_nil))))) (tg_tp zk.symm rfl))
    (ds_cons (ds_set (i := 7) sc_word_at.nd rfl (Or.inl rfl) (d_bin (o_add zk) (d_bin (o_add zk) (dv 1) d_int) (dv 6)))
    (ds_cons (ds_if (dt_cmp o_gt (dv 7) (d_callB (c_len zk) (by rfl) T.n_len (by decide +kernel) (da_cons (dv 0) da_nil)) (nomark _))
      (ds_one (ds_raise (names := ["at"]) xb_ValueError rfl tk X_NoWord F_NoWord B_NoWord (hr.mono (by decide)) zm (da_cons (d_callB (c_len zk) (by rfl) T.n_len (by decide +kernel) (da_cons (dv 0) da_nil)) da_nil) (by decide)))
      ds_nil)
    (ds_cons (ds_set (i := 8) sc_word_at.nd rfl (Or.inl rfl) (d_ifExp (dt_cmp o_gt (dv 6) d_int (nomark _)) (d_call0 D_number_of (hr.mono (by decide)) zk zm zn (da_cons (d_sl zk (dv 0) (db_some (d_bin (o_add zk) (dv 1) d_int)) (db_some (dv 7))) da_nil)) d_non))
    (ds_cons (ds_if (PW.pt (dw_and (dt_cmp (o_in zk hr.units) (dv 3) (d_const KT_NEAR zk zm) rfl) (dw_and1 (dt_cmp o_gt (dv 8) d_int (nomark _)))))
      (ds_one (ds_set (i := 8) sc_word_at.nd rfl (Or.inl rfl) (d_bin o_sub (dv 8) d_int)))
      ds_nil)
    (ds_one (ds_ret (d_tup (da_cons (d_tup (da_cons (dv 3) (da_cons (d_call0 D_letters_by (hr.mono (by decide)) zk zm zn (da_cons (dv 5) (da_cons (d_bin o_sub (d_ix (o_ix zk) (dv 0) (dv 1) (fun _ _ => rfl)) (dv 4)) da_nil))) (da_cons (dv 8) da_nil)))) (da_cons (dv 7) da_nil))))))))))))
abbrev s_words_of : Stmt := top 35
theorem sc_words_of : FnScope ["row", "found", "at", "word", "behind"] ["row"] (defScope s_words_of) := ⟨rfl, rfl, rfl, by decide +kernel, rfl, by decide +kernel, by decide +kernel⟩
def L_words_of_1 : DT := (dSeq (dUnp [3, 4] (dCall U_word_at (dCat 1 1 (dCons (dVar 0) dNil) (dCons (dVar 2) dNil))))
  (dSeq (dMut 1 mAppend (dCons (dApp gTupl (dCons (dVar 2) (dCons (dVar 3) dNil))) dNil))
  (dSet 2 (dVar 4))))
def R_words_of_1 : DT := (dUn 1 (dRet (dVar 1)))
def B_words_of : DT := (dSeq (dPar 1 2 (dOwnL dNil) (dSh (dC (.int 0))))
  (dSeq (dWhile (dApp gLt (dCons (dVar 2) (dCons (dApp gLen (dCons (dVar 0) dNil)) dNil)))
    L_words_of_1)
  R_words_of_1))
def U_words_of : List D → M D := dDef 1 5 B_words_of
theorem ok_words_of {f : Addr} {fd : FuncData} (F : Fun K "words_of" "words_of" s_words_of f fd) (T : Txt mg) (KO_word_at : OkKo P w K mg base (L2.CX P w) 3 "word_at" 1 ["at"] (spU K mg penKey U_word_at)) : FnOk P w K mg base (L2.CX P w) 4 f fd ["row"] (spU K mg penKey U_words_of) := by
  refine fn_DX (N := ["row", "found", "at", "word", "behind"]) (k := 3) (m := 1) (t := B_words_of) F sc_words_of rfl fun cdv A outer s H E Z hr zk zm zn zw => ?_
  have tk : Takes (cxOf (L2.CX P w) P w K mg base ["row", "found", "at", "word", "behind"] "words_of" (defScope s_words_of) f cdv A outer s H E) Z.W := by rw [zw]; exact takes_of rfl rfl rfl rfl
  exact (ds_cons (ds_par (i := 1) (j := 2) rfl sc_words_of.nd rfl rfl (by decide) rfl rfl (o_lst da_nil) (o_sh d_int) (by rfl))
    (ds_cons (ds_while (passes_of rfl) (dt_cmp o_lt (dv 2) (d_callB (c_len zk) (by rfl) T.n_len (by decide +kernel) (da_cons (dv 0) da_nil)) (nomark _))
      (ds_cons (ds_unp (gg := gSq K 2 (gNames [3, 4])) (d_kwX KO_word_at (hr.mono (by decide)) zk zm zn tk (da_cons (dv 0) da_nil) (dk_cons (dv 2) dk_nil)) (pg_sq rfl (pgs_cons (pg_name (i := 3) sc_words_of.nd rfl (Or.inl rfl)) (pgs_cons (pg_name (i := 4) sc_words_of.nd rfl (Or.inl rfl)) pgs_nil))) (tg_tp zk.symm rfl))
    (ds_cons (ds_mut PySem.F.slot_list_append PySem.F.type_list_append mt_append m_append (pv 1) (da_cons (d_tup (da_cons (dv 2) (da_cons (dv 3) da_nil))) da_nil))
    (ds_one (ds_set (i := 2) sc_words_of.nd rfl (Or.inl rfl) (dv 4))))))
    (ds_one (ds_un 1 (ds_ret (dv 1))))))
abbrev s_show_word : Stmt := top 36
theorem sc_show_word : FnScope ["word", "name", "letters", "number"] ["word"] (defScope s_show_word) := ⟨rfl, rfl, rfl, by decide +kernel, rfl, by decide +kernel, by decide +kernel⟩
def B_show_word : DT := (dSeq (dUnp [1, 2, 3] (dVar 0))
  (dRet (dJoin (dC (.str " ")) (dApp gAdd (dCons (dApp gAdd (dCons (dApp gList (dCons (dVar 1) dNil)) (dCons (dApp gListS (dCons (dVar 2) dNil)) dNil))) (dCons (dIf (dApp gIs (dCons (dVar 3) (dCons (dC .non) dNil))) (dApp gList dNil) (dApp gList (dCons (dApp gStr (dCons (dVar 3) dNil)) dNil))) dNil))))))
def U_show_word : List D → M D := dDef 1 4 B_show_word
theorem ok_show_word {f : Addr} {fd : FuncData} (F : Fun K "show_word" "show_word" s_show_word f fd) (T : Txt mg) : FnOk P w K mg base CX0 1 f fd ["word"] (spU K mg penKey U_show_word) :=
  fn_D (N := ["word", "name", "letters", "number"]) (k := 0) (m := 1) (t := B_show_word) F sc_show_word rfl fun cdv A outer s H E Z hr zk zm zn => (ds_cons (ds_unp (gg := gSq K 3 (gNames [1, 2, 3])) (dv 0) (pg_sq rfl (pgs_cons (pg_name (i := 1) sc_show_word.nd rfl (Or.inl rfl)) (pgs_cons (pg_name (i := 2) sc_show_word.nd rfl (Or.inl rfl)) (pgs_cons (pg_name (i := 3) sc_show_word.nd rfl (Or.inl rfl)) pgs_nil)))) (tg_tp zk.symm rfl))
    (ds_one (ds_ret (d_join zk d_str (d_bin (o_add zk) (d_bin (o_add zk) (d_lst (da_cons (dv 1) da_nil)) (d_callTy (c_listS rfl zk) (by rfl) T.n_list (by decide +kernel) (da_cons (dv 2) da_nil))) (d_ifExp (dt_cmp o_is (dv 3) d_non (nomark _)) (d_lst da_nil) (d_lst (da_cons (d_callTy c_str (by rfl) T.n_str (by decide +kernel) (da_cons (dv 3) da_nil)) da_nil))))))))
abbrev s_signed_in : Stmt := top 37
theorem sc_signed_in : FnScope ["text", "found"] ["text"] (defScope s_signed_in) := ⟨rfl, rfl, rfl, by decide +kernel, rfl, by decide +kernel, by decide +kernel⟩
def R_signed_in_1 : DT := (dSeq (dSet 1 (dCall0 U_number_in (dCons (dSl (dVar 0) (dB (dC (.int 1))) dNoB) dNil)))
  (dRet (dIf (dOr (dApp gIs (dCons (dVar 1) (dCons (dC .non) dNil))) (dApp gEq (dCons (dVar 1) (dCons (dC (.int 0)) dNil)))) (dC .non) (dApp gSub (dCons (dC (.int 0)) (dCons (dVar 1) dNil))))))
def B_signed_in : DT := (dSeq (dIfS (dApp gNot (dCons (dStarts (dVar 0) (dC (.str "-"))) dNil))
    (dRet (dCall0 U_number_in (dCons (dVar 0) dNil)))
    dNext)
  R_signed_in_1)
def U_signed_in : List D → M D := dDef 1 2 B_signed_in
theorem ok_signed_in {f : Addr} {fd : FuncData} (F : Fun K "signed_in" "signed_in" s_signed_in f fd) (T : Txt mg) (D_number_in : OkD P w K mg base CX0 1 "number_in" ["word"] (spU K mg penKey U_number_in)) : FnOk P w K mg base CX0 2 f fd ["text"] (spU K mg penKey U_signed_in) :=
  fn_D (N := ["text", "found"]) (k := 1) (m := 1) (t := B_signed_in) F sc_signed_in rfl fun cdv A outer s H E Z hr zk zm zn => (ds_cons (ds_if (dt_not (dt_val (d_starts (dv 0) d_str)))
      (ds_one (ds_ret (d_call0 D_number_in (hr.mono (by decide)) zk zm zn (da_cons (dv 0) da_nil))))
      ds_nil)
    (ds_cons (ds_set (i := 1) sc_signed_in.nd rfl (Or.inl rfl) (d_call0 D_number_in (hr.mono (by decide)) zk zm zn (da_cons (d_sl zk (dv 0) (db_some d_int) db_none) da_nil)))
    (ds_one (ds_ret (d_ifExp (PW.pt (dw_or (dt_cmp o_is (dv 1) d_non (nomark _)) (dw_or1 (dt_cmp (o_eq zk hr.units) (dv 1) d_int (nomark _))))) d_non (d_bin o_sub d_int (dv 1)))))))
abbrev s_read_word : Stmt := top 38
theorem sc_read_word : FnScope ["text", "parts", "entry", "name", "first", "kinds", "room", "letters", "rest", "word", "one"] ["text"] (defScope s_read_word) := ⟨rfl, rfl, rfl, by decide +kernel, rfl, by decide +kernel, by decide +kernel⟩
def R_read_word_1 : DT := (dRet (dVar 9))
def R_read_word_2 : DT := (dSeq (dSet 9 (dApp gTupl (dCons (dVar 3) (dCons (dJoin (dC (.str "")) (dVar 7)) (dCons (dIf (dApp gGt (dCons (dVar 6) (dCons (dC (.int 0)) dNil))) (dCall0 U_signed_in (dCons (dApp gIx (dCons (dVar 8) (dCons (dC (.int 0)) dNil))) dNil)) (dC .non)) dNil)))))
  (dSeq (dIfS (dApp gNot (dCons (dCall0 U_is_word (dCons (dVar 9) dNil)) dNil))
    (dRaise "NoWord" ["at"] (dCons (dC (.int 0)) dNil))
    dNext)
  R_read_word_1))
def R_read_word_3 : DT := (dSeq (dUnp [3, 4, 5, 6] (dVar 2))
  (dSeq (dPar 7 8 (dSh (dSl (dVar 1) (dB (dC (.int 1))) (dB (dApp gAdd (dCons (dC (.int 1)) (dCons (dApp gLen (dCons (dVar 5) dNil)) dNil)))))) (dSh (dSl (dVar 1) (dB (dApp gAdd (dCons (dC (.int 1)) (dCons (dApp gLen (dCons (dVar 5) dNil)) dNil)))) dNoB)))
  (dSeq (dIfS (dOr (dApp gNot (dCons (dApp gAll (dCons (dNew (dLc (dIt gIter (dCons (dVar 7) dNil)) (.nm 10) (dC (.bl true)) (dApp gEq (dCons (dApp gLen (dCons (dVar 10) dNil)) (dCons (dC (.int 1)) dNil))) [10])) dNil)) dNil)) (dApp gNe (dCons (dApp gLen (dCons (dVar 8) dNil)) (dCons (dApp gIntS (dCons (dApp gGt (dCons (dVar 6) (dCons (dC (.int 0)) dNil))) dNil)) dNil))))
    (dRaise "NoWord" ["at"] (dCons (dC (.int 0)) dNil))
    dNext)
  R_read_word_2)))
def B_read_word : DT := (dSeq (dSet 1 (dIf (dApp (gIsi isStr) (dCons (dVar 0) dNil)) (dSplit (dVar 0) (dC (.str " "))) (dApp gList (dCons (dC (.str "")) dNil))))
  (dSeq (dSet 2 (dCall0 U_entry_by (dCons (dApp gIx (dCons (dVar 1) (dCons (dC (.int 0)) dNil))) dNil)))
  (dSeq (dIfS (dApp gIs (dCons (dVar 2) (dCons (dC .non) dNil)))
    (dRaise "NoWord" ["at"] (dCons (dC (.int 0)) dNil))
    dNext)
  R_read_word_3)))
def U_read_word : List D → M D := dDef 1 11 B_read_word
theorem ok_read_word {f : Addr} {fd : FuncData} (F : Fun K "read_word" "read_word" s_read_word f fd) (T : Txt mg) (D_entry_by : OkD P w K mg base CX0 1 "entry_by" ["name"] (spU K mg penKey U_entry_by)) (D_signed_in : OkD P w K mg base CX0 2 "signed_in" ["text"] (spU K mg penKey U_signed_in)) (D_is_word : OkD P w K mg base CX0 4 "is_word" ["thing"] (spU K mg penKey U_is_word)) {CX_a_NoWord fI_NoWord : Addr} {fdI_NoWord : FuncData} (X_NoWord : XcB K mg "NoWord" "NoWord.__init__" s_NoWord___init__ "ValueError.__new__" [.type "ValueError", .type "Exception", .type "BaseException", .type "object"] CX_a_NoWord fI_NoWord fdI_NoWord) (F_NoWord : FnOk P w K mg base CX0 1 fI_NoWord fdI_NoWord ["self", "at"] (spXs CX_a_NoWord (mkF ["at"]))) (B_NoWord : Binds K fdI_NoWord ["self", "at"] []) : FnOk P w K mg base (L2.CX P w) 5 f fd ["text"] (spU K mg penKey U_read_word) := by
  refine fn_DX (N := ["text", "parts", "entry", "name", "first", "kinds", "room", "letters", "rest", "word", "one"]) (k := 4) (m := 1) (t := B_read_word) F sc_read_word rfl fun cdv A outer s H E Z hr zk zm zn zw => ?_
  have tk : Takes (cxOf (L2.CX P w) P w K mg base ["text", "parts", "entry", "name", "first", "kinds", "room", "letters", "rest", "word", "one"] "read_word" (defScope s_read_word) f cdv A outer s H E) Z.W := by rw [zw]; exact takes_of rfl rfl rfl rfl
  exact (ds_cons (ds_set (i := 1) sc_read_word.nd rfl (Or.inl rfl) (d_ifExp (dt_val (d_isi (f_str zk) (.ty _) (by rfl) T.n_isinstance (dv 0) (pe_bltn (v := .ty "str") (by rfl) T.n_str (by decide +kernel) rfl))) (d_split (dv 0) d_str) (d_lst (da_cons d_str da_nil))))
    (ds_cons (ds_set (i := 2) sc_read_word.nd rfl (Or.inl rfl) (d_call0 D_entry_by (hr.mono (by decide)) zk zm zn (da_cons (d_ix (o_ix zk) (dv 1) d_int (fun _ _ => rfl)) da_nil)))
    (ds_cons (ds_if (dt_cmp o_is (dv 2) d_non (nomark _))
      (ds_one (ds_raise (names := ["at"]) xb_ValueError rfl tk X_NoWord F_NoWord B_NoWord (hr.mono (by decide)) zm (da_cons d_int da_nil) (by decide)))
      ds_nil)
    (ds_cons (ds_unp (gg := gSq K 4 (gNames [3, 4, 5, 6])) (dv 2) (pg_sq rfl (pgs_cons (pg_name (i := 3) sc_read_word.nd rfl (Or.inl rfl)) (pgs_cons (pg_name (i := 4) sc_read_word.nd rfl (Or.inl rfl)) (pgs_cons (pg_name (i := 5) sc_read_word.nd rfl (Or.inl rfl)) (pgs_cons (pg_name (i := 6) sc_read_word.nd rfl (Or.inl rfl)) pgs_nil))))) (tg_tp zk.symm rfl))
    (ds_cons (ds_par (i := 7) (j := 8) rfl sc_read_word.nd rfl rfl (by decide) rfl rfl (o_sh (d_sl zk (dv 1) (db_some d_int) (db_some (d_bin (o_add zk) d_int (d_callB (c_len zk) (by rfl) T.n_len (by decide +kernel) (da_cons (dv 5) da_nil)))))) (o_sh (d_sl zk (dv 1) (db_some (d_bin (o_add zk) d_int (d_callB (c_len zk) (by rfl) T.n_len (by decide +kernel) (da_cons (dv 5) da_nil)))) db_none)) (by rfl))
    (ds_cons (ds_if (PW.pt (dw_or (dt_not (dt_val (d_callB (c_all rfl zk) (by rfl) T.n_all (by decide +kernel) (da_cons (d_lc (own := [("one", 10)]) (gg := gName 10) (tg := (.nm 10)) rfl sc_read_word.nd (di_seq zk (dv 7)) (blkOk_by (own := [("one", 10)]) (N := ["text", "parts", "entry", "name", "first", "kinds", "room", "letters", "rest", "word", "one"]) (sc := defScope s_read_word) (by decide +kernel)) (fun _ _ _ _ _ => pg_name (i := 10) sc_read_word.nd rfl (Or.inl rfl)) tg_nm (fun _ _ _ _ _ => pts_nil) yes_lift (fun _ _ _ _ _ => (d_cmp (o_eq zk hr.units) (d_callB (c_len zk) (by rfl) T.n_len (by decide +kernel) (da_cons (dv 10) da_nil)) d_int (nomark _))) (by decide)) da_nil)))) (dw_or1 (dt_cmp (o_ne zk hr.units) (d_callB (c_len zk) (by rfl) T.n_len (by decide +kernel) (da_cons (dv 8) da_nil)) (d_callTy c_intS (by rfl) T.n_int (by decide +kernel) (da_cons (d_cmp o_gt (dv 6) d_int (nomark _)) da_nil)) (nomark _)))))
      (ds_one (ds_raise (names := ["at"]) xb_ValueError rfl tk X_NoWord F_NoWord B_NoWord (hr.mono (by decide)) zm (da_cons d_int da_nil) (by decide)))
      ds_nil)
    (ds_cons (ds_set (i := 9) sc_read_word.nd rfl (Or.inl rfl) (d_tup (da_cons (dv 3) (da_cons (d_join zk d_str (dv 7)) (da_cons (d_ifExp (dt_cmp o_gt (dv 6) d_int (nomark _)) (d_call0 D_signed_in (hr.mono (by decide)) zk zm zn (da_cons (d_ix (o_ix zk) (dv 8) d_int (fun _ _ => rfl)) da_nil)) d_non) da_nil)))))
    (ds_cons (ds_if (dt_not (dt_val (d_call0 D_is_word (hr.mono (by decide)) zk zm zn (da_cons (dv 9) da_nil))))
      (ds_one (ds_raise (names := ["at"]) xb_ValueError rfl tk X_NoWord F_NoWord B_NoWord (hr.mono (by decide)) zm (da_cons d_int da_nil) (by decide)))
      ds_nil)
    (ds_one (ds_ret (dv 9)))))))))))
abbrev s__law_pick : Stmt := top 42
theorem sc__law_pick : FnScope ["_law_pen", "_law_some"] ["_law_pen", "_law_some"] (defScope s__law_pick) := ⟨rfl, rfl, rfl, by decide +kernel, rfl, by decide +kernel, by decide +kernel⟩
def B__law_pick : DT := (dRet (dApp gIx (dCons (dVar 1) (dCons (dCall0 U_draw (dCons (dVar 0) (dCons (dApp gLen (dCons (dVar 1) dNil)) dNil))) dNil))))
def U__law_pick : List D → M D := dDef 2 2 B__law_pick
theorem ok__law_pick {f : Addr} {fd : FuncData} (F : Fun K "_law_pick" "_law_pick" s__law_pick f fd) (T : Txt mg) (D__law_draw : OkD P w K mg base CX0 1 "_law_draw" ["_law_pen", "_law_span"] (spU K mg penKey U_draw)) : FnOk P w K mg base CX0 2 f fd ["_law_pen", "_law_some"] (spU K mg penKey U__law_pick) :=
  fn_D (N := ["_law_pen", "_law_some"]) (k := 1) (m := 2) (t := B__law_pick) F sc__law_pick rfl fun cdv A outer s H E Z hr zk zm zn => (ds_one (ds_ret (d_ix (o_ix zk) (dv 1) (d_call0 D__law_draw (hr.mono (by decide)) zk zm zn (da_cons (dv 0) (da_cons (d_callB (c_len zk) (by rfl) T.n_len (by decide +kernel) (da_cons (dv 1) da_nil)) da_nil))) (fun _ _ => rfl))))
abbrev s__law_table : Stmt := top 43
theorem sc__law_table : FnScope ["_law_found"] [] (defScope s__law_table) := ⟨rfl, rfl, rfl, by decide +kernel, rfl, by decide +kernel, by decide +kernel⟩
def B__law_table : DT := (dSeq (dSetO 0 (dDispO (dCons (dC (.str "halt")) (dCons (dApp gTupl (dCons (dC (.int 0)) (dCons (dC (.str "")) (dCons (dC (.int 0)) dNil)))) (dCons (dC (.str "back")) (dCons (dApp gTupl (dCons (dC (.int 1)) (dCons (dC (.str "")) (dCons (dC (.int 0)) dNil)))) (dCons (dC (.str "out")) (dCons (dApp gTupl (dCons (dC (.int 4)) (dCons (dC (.str "n")) (dCons (dC (.int 0)) dNil)))) (dCons (dC (.str "in")) (dCons (dApp gTupl (dCons (dC (.int 8)) (dCons (dC (.str "n")) (dCons (dC (.int 0)) dNil)))) (dCons (dC (.str "push")) (dCons (dApp gTupl (dCons (dC (.int 12)) (dCons (dC (.str "n")) (dCons (dC (.int 0)) dNil)))) dNil))))))))))))
  (dSeq (dUpd 0 (dDisp (dCons (dC (.str "pop")) (dCons (dApp gTupl (dCons (dC (.int 16)) (dCons (dC (.str "n")) (dCons (dC (.int 0)) dNil)))) (dCons (dC (.str "set.short")) (dCons (dApp gTupl (dCons (dC (.int 20)) (dCons (dC (.str "n")) (dCons (dC (.int 1)) dNil)))) (dCons (dC (.str "set.long")) (dCons (dApp gTupl (dCons (dC (.int 24)) (dCons (dC (.str "n")) (dCons (dC (.int 2)) dNil)))) (dCons (dC (.str "copy")) (dCons (dApp gTupl (dCons (dC (.int 32)) (dCons (dC (.str "nn")) (dCons (dC (.int 0)) dNil)))) dNil))))))))))
  (dSeq (dUpd 0 (dDisp (dCons (dC (.str "add")) (dCons (dApp gTupl (dCons (dC (.int 48)) (dCons (dC (.str "nn")) (dCons (dC (.int 0)) dNil)))) (dCons (dC (.str "less")) (dCons (dApp gTupl (dCons (dC (.int 64)) (dCons (dC (.str "nn")) (dCons (dC (.int 0)) dNil)))) (dCons (dC (.str "times")) (dCons (dApp gTupl (dCons (dC (.int 80)) (dCons (dC (.str "nn")) (dCons (dC (.int 0)) dNil)))) (dCons (dC (.str "go.short")) (dCons (dApp gTupl (dCons (dC (.int 96)) (dCons (dC (.str "")) (dCons (dC (.int 1)) dNil)))) dNil))))))))))
  (dSeq (dUpd 0 (dDisp (dCons (dC (.str "go.long")) (dCons (dApp gTupl (dCons (dC (.int 97)) (dCons (dC (.str "")) (dCons (dC (.int 2)) dNil)))) (dCons (dC (.str "call.short")) (dCons (dApp gTupl (dCons (dC (.int 98)) (dCons (dC (.str "")) (dCons (dC (.int 1)) dNil)))) (dCons (dC (.str "call.long")) (dCons (dApp gTupl (dCons (dC (.int 99)) (dCons (dC (.str "")) (dCons (dC (.int 2)) dNil)))) dNil))))))))
  (dSeq (dUpd 0 (dDisp (dCons (dC (.str "if.short")) (dCons (dApp gTupl (dCons (dC (.int 100)) (dCons (dC (.str "n")) (dCons (dC (.int 1)) dNil)))) (dCons (dC (.str "if.long")) (dCons (dApp gTupl (dCons (dC (.int 104)) (dCons (dC (.str "n")) (dCons (dC (.int 2)) dNil)))) (dCons (dC (.str "point")) (dCons (dApp gTupl (dCons (dC (.int 112)) (dCons (dC (.str "x")) (dCons (dC (.int 2)) dNil)))) dNil))))))))
  (dSeq (dUpd 0 (dDisp (dCons (dC (.str "walk")) (dCons (dApp gTupl (dCons (dC (.int 120)) (dCons (dC (.str "xn")) (dCons (dC (.int 0)) dNil)))) (dCons (dC (.str "turn")) (dCons (dApp gTupl (dCons (dC (.int 128)) (dCons (dC (.str "xn")) (dCons (dC (.int 0)) dNil)))) (dCons (dC (.str "load")) (dCons (dApp gTupl (dCons (dC (.int 136)) (dCons (dC (.str "nx")) (dCons (dC (.int 0)) dNil)))) (dCons (dC (.str "store")) (dCons (dApp gTupl (dCons (dC (.int 144)) (dCons (dC (.str "nx")) (dCons (dC (.int 0)) dNil)))) dNil))))))))))
  (dSeq (dUpd 0 (dDisp (dCons (dC (.str "same")) (dCons (dApp gTupl (dCons (dC (.int 152)) (dCons (dC (.str "n")) (dCons (dC (.int 0)) dNil)))) (dCons (dC (.str "move")) (dCons (dApp gTupl (dCons (dC (.int 160)) (dCons (dC (.str "xx")) (dCons (dC (.int 0)) dNil)))) (dCons (dC (.str "take")) (dCons (dApp gTupl (dCons (dC (.int 164)) (dCons (dC (.str "xx")) (dCons (dC (.int 0)) dNil)))) (dCons (dC (.str "keep")) (dCons (dApp gTupl (dCons (dC (.int 168)) (dCons (dC (.str "xx")) (dCons (dC (.int 0)) dNil)))) dNil))))))))))
  (dSeq (dUpd 0 (dDisp (dCons (dC (.str "callat")) (dCons (dApp gTupl (dCons (dC (.int 172)) (dCons (dC (.str "x")) (dCons (dC (.int 0)) dNil)))) (dCons (dC (.str "goat")) (dCons (dApp gTupl (dCons (dC (.int 174)) (dCons (dC (.str "x")) (dCons (dC (.int 0)) dNil)))) (dCons (dC (.str "none")) (dCons (dApp gTupl (dCons (dC (.int 176)) (dCons (dC (.str "nx")) (dCons (dC (.int 0)) dNil)))) dNil))))))))
  (dUn 0 (dRet (dVar 0)))))))))))
def U__law_table : List D → M D := dDef 0 1 B__law_table
theorem ok__law_table {f : Addr} {fd : FuncData} (F : Fun K "_law_table" "_law_table" s__law_table f fd) (T : Txt mg) : FnOk P w K mg base CX0 1 f fd [] (spU K mg penKey U__law_table) :=
  fn_D (N := ["_law_found"]) (k := 0) (m := 0) (t := B__law_table) F sc__law_table rfl fun cdv A outer s H E Z hr zk zm zn => (ds_cons (ds_setO (i := 0) sc__law_table.nd rfl (Or.inl rfl) (o_disp (pd_cons d_str (d_tup (da_cons d_int (da_cons d_str (da_cons d_int da_nil)))) (pd_cons d_str (d_tup (da_cons d_int (da_cons d_str (da_cons d_int da_nil)))) (pd_cons d_str (d_tup (da_cons d_int (da_cons d_str (da_cons d_int da_nil)))) (pd_cons d_str (d_tup (da_cons d_int (da_cons d_str (da_cons d_int da_nil)))) (pd_cons d_str (d_tup (da_cons d_int (da_cons d_str (da_cons d_int da_nil)))) pd_nil)))))))
    (ds_cons (ds_upd (pv 0) (d_disp (pd_cons d_str (d_tup (da_cons d_int (da_cons d_str (da_cons d_int da_nil)))) (pd_cons d_str (d_tup (da_cons d_int (da_cons d_str (da_cons d_int da_nil)))) (pd_cons d_str (d_tup (da_cons d_int (da_cons d_str (da_cons d_int da_nil)))) (pd_cons d_str (d_tup (da_cons d_int (da_cons d_str (da_cons d_int da_nil)))) pd_nil))))))
    (ds_cons (ds_upd (pv 0) (d_disp (pd_cons d_str (d_tup (da_cons d_int (da_cons d_str (da_cons d_int da_nil)))) (pd_cons d_str (d_tup (da_cons d_int (da_cons d_str (da_cons d_int da_nil)))) (pd_cons d_str (d_tup (da_cons d_int (da_cons d_str (da_cons d_int da_nil)))) (pd_cons d_str (d_tup (da_cons d_int (da_cons d_str (da_cons d_int da_nil)))) pd_nil))))))
    (ds_cons (ds_upd (pv 0) (d_disp (pd_cons d_str (d_tup (da_cons d_int (da_cons d_str (da_cons d_int da_nil)))) (pd_cons d_str (d_tup (da_cons d_int (da_cons d_str (da_cons d_int da_nil)))) (pd_cons d_str (d_tup (da_cons d_int (da_cons d_str (da_cons d_int da_nil)))) pd_nil)))))
    (ds_cons (ds_upd (pv 0) (d_disp (pd_cons d_str (d_tup (da_cons d_int (da_cons d_str (da_cons d_int da_nil)))) (pd_cons d_str (d_tup (da_cons d_int (da_cons d_str (da_cons d_int da_nil)))) (pd_cons d_str (d_tup (da_cons d_int (da_cons d_str (da_cons d_int da_nil)))) pd_nil)))))
    (ds_cons (ds_upd (pv 0) (d_disp (pd_cons d_str (d_tup (da_cons d_int (da_cons d_str (da_cons d_int da_nil)))) (pd_cons d_str (d_tup (da_cons d_int (da_cons d_str (da_cons d_int da_nil)))) (pd_cons d_str (d_tup (da_cons d_int (da_cons d_str (da_cons d_int da_nil)))) (pd_cons d_str (d_tup (da_cons d_int (da_cons d_str (da_cons d_int da_nil)))) pd_nil))))))
    (ds_cons (ds_upd (pv 0) (d_disp (pd_cons d_str (d_tup (da_cons d_int (da_cons d_str (da_cons d_int da_nil)))) (pd_cons d_str (d_tup (da_cons d_int (da_cons d_str (da_cons d_int da_nil)))) (pd_cons d_str (d_tup (da_cons d_int (da_cons d_str (da_cons d_int da_nil)))) (pd_cons d_str (d_tup (da_cons d_int (da_cons d_str (da_cons d_int da_nil)))) pd_nil))))))
    (ds_cons (ds_upd (pv 0) (d_disp (pd_cons d_str (d_tup (da_cons d_int (da_cons d_str (da_cons d_int da_nil)))) (pd_cons d_str (d_tup (da_cons d_int (da_cons d_str (da_cons d_int da_nil)))) (pd_cons d_str (d_tup (da_cons d_int (da_cons d_str (da_cons d_int da_nil)))) pd_nil)))))
    (ds_one (ds_un 0 (ds_ret (dv 0))))))))))))
abbrev s__law_drawn_word : Stmt := top 44
theorem sc__law_drawn_word : FnScope ["_law_pen", "_law_table_here", "_law_head", "_law_first", "_law_kinds", "_law_room", "_law_letters", "_law_low", "_law_kind"] ["_law_pen"] (defScope s__law_drawn_word) := ⟨rfl, rfl, rfl, by decide +kernel, rfl, by decide +kernel, by decide +kernel⟩
def R__law_drawn_word_1 : DT := (dSeq (dSet 7 (dApp gIx (dCons (dApp gList (dCons (dC (.int 0)) (dCons (dApp gNeg (dCons (dC (.int 128)) dNil)) dNil))) (dCons (dApp gIntS (dCons (dApp gIn (dCons (dVar 2) (dCons (dApp gTupl (dCons (dC (.str "go.short")) (dCons (dC (.str "call.short")) (dCons (dC (.str "if.short")) dNil)))) dNil))) dNil)) dNil))))
  (dRet (dApp gTupl (dCons (dVar 2) (dCons (dVar 6) (dCons (dApp gAdd (dCons (dVar 7) (dCons (dApp gIx (dCons (dApp gList (dCons (dC (.int 0)) (dCons (dC (.int 255)) (dCons (dC (.int 127)) (dCons (dC (.int 128)) (dCons (dCall0 U_draw (dCons (dVar 0) (dCons (dC (.int 256)) dNil))) dNil)))))) (dCons (dCall0 U_draw (dCons (dVar 0) (dCons (dC (.int 5)) dNil))) dNil))) dNil))) dNil))))))
def R__law_drawn_word_2 : DT := (dSeq (dIfS (dApp gEq (dCons (dVar 5) (dCons (dC (.int 2)) dNil)))
    (dRet (dApp gTupl (dCons (dVar 2) (dCons (dVar 6) (dCons (dApp gIx (dCons (dApp gList (dCons (dC (.int 0)) (dCons (dC (.int 255)) (dCons (dC (.int 256)) (dCons (dC (.int 65535)) (dCons (dCall0 U_draw (dCons (dVar 0) (dCons (dC (.int 65536)) dNil))) dNil)))))) (dCons (dCall0 U_draw (dCons (dVar 0) (dCons (dC (.int 5)) dNil))) dNil))) dNil)))))
    dNext)
  R__law_drawn_word_1)
def B__law_drawn_word : DT := (dSeq (dSet 1 (dCall0 U__law_table dNil))
  (dSeq (dSet 2 (dCall0 U__law_pick (dCons (dVar 0) (dCons (dSortD (dVar 1)) dNil))))
  (dSeq (dUnp [3, 4, 5] (dApp gDGet (dCons (dVar 1) (dCons (dVar 2) dNil))))
  (dSeq (dSet 6 (dJoin (dC (.str "")) (dNew (dLc (dIt gIter (dCons (dVar 4) dNil)) (.nm 8) (dC (.bl true)) (dCall0 U__law_pick (dCons (dVar 0) (dCons (dApp gIx (dCons (dApp gList (dCons (dC (.str "abcd")) (dCons (dC (.str "pq")) dNil))) (dCons (dApp gIntS (dCons (dApp gEq (dCons (dVar 8) (dCons (dC (.str "x")) dNil))) dNil)) dNil))) dNil))) [8]))))
  (dSeq (dIfS (dApp gEq (dCons (dVar 5) (dCons (dC (.int 0)) dNil)))
    (dRet (dApp gTupl (dCons (dVar 2) (dCons (dVar 6) (dCons (dC .non) dNil)))))
    dNext)
  R__law_drawn_word_2)))))
def U__law_drawn_word : List D → M D := dDef 1 9 B__law_drawn_word
theorem ok__law_drawn_word {f : Addr} {fd : FuncData} (F : Fun K "_law_drawn_word" "_law_drawn_word" s__law_drawn_word f fd) (T : Txt mg) (D__law_table : OkD P w K mg base CX0 1 "_law_table" [] (spU K mg penKey U__law_table)) (D__law_pick : OkD P w K mg base CX0 2 "_law_pick" ["_law_pen", "_law_some"] (spU K mg penKey U__law_pick)) (D__law_draw : OkD P w K mg base CX0 1 "_law_draw" ["_law_pen", "_law_span"] (spU K mg penKey U_draw)) : FnOk P w K mg base CX0 3 f fd ["_law_pen"] (spU K mg penKey U__law_drawn_word) :=
  fn_D (N := ["_law_pen", "_law_table_here", "_law_head", "_law_first", "_law_kinds", "_law_room", "_law_letters", "_law_low", "_law_kind"]) (k := 2) (m := 1) (t := B__law_drawn_word) F sc__law_drawn_word rfl fun cdv A outer s H E Z hr zk zm zn => (ds_cons (ds_set (i := 1) sc__law_drawn_word.nd rfl (Or.inl rfl) (d_call00 D__law_table (hr.mono (by decide)) zk zm zn))
    (ds_cons (ds_set (i := 2) sc__law_drawn_word.nd rfl (Or.inl rfl) (d_call0 D__law_pick (hr.mono (by decide)) zk zm zn (da_cons (dv 0) (da_cons (d_sortD rfl (by rfl) T.n_sorted (dv 1)) da_nil))))
    (ds_cons (ds_unp (gg := gSq K 3 (gNames [3, 4, 5])) (d_dget hr.units (dv 1) (dv 2)) (pg_sq rfl (pgs_cons (pg_name (i := 3) sc__law_drawn_word.nd rfl (Or.inl rfl)) (pgs_cons (pg_name (i := 4) sc__law_drawn_word.nd rfl (Or.inl rfl)) (pgs_cons (pg_name (i := 5) sc__law_drawn_word.nd rfl (Or.inl rfl)) pgs_nil)))) (tg_tp zk.symm rfl))
    (ds_cons (ds_set (i := 6) sc__law_drawn_word.nd rfl (Or.inl rfl) (d_join zk d_str (d_lc (own := [("_law_kind", 8)]) (gg := gName 8) (tg := (.nm 8)) rfl sc__law_drawn_word.nd (di_seq zk (dv 4)) (blkOk_by (own := [("_law_kind", 8)]) (N := ["_law_pen", "_law_table_here", "_law_head", "_law_first", "_law_kinds", "_law_room", "_law_letters", "_law_low", "_law_kind"]) (sc := defScope s__law_drawn_word) (by decide +kernel)) (fun _ _ _ _ _ => pg_name (i := 8) sc__law_drawn_word.nd rfl (Or.inl rfl)) tg_nm (fun _ _ _ _ _ => pts_nil) yes_lift (fun _ _ _ _ _ => (d_call0 D__law_pick (hr.mono (by decide)) zk zm zn (da_cons (dv 0) (da_cons (d_ix (o_ix zk) (d_lst (da_cons d_str (da_cons d_str da_nil))) (d_callTy c_intS (by rfl) T.n_int (by decide +kernel) (da_cons (d_cmp (o_eq zk hr.units) (dv 8) d_str (nomark _)) da_nil)) (fun _ _ => rfl)) da_nil)))) (by decide))))
    (ds_cons (ds_if (dt_cmp (o_eq zk hr.units) (dv 5) d_int (nomark _))
      (ds_one (ds_ret (d_tup (da_cons (dv 2) (da_cons (dv 6) (da_cons d_non da_nil))))))
      ds_nil)
    (ds_cons (ds_if (dt_cmp (o_eq zk hr.units) (dv 5) d_int (nomark _))
      (ds_one (ds_ret (d_tup (da_cons (dv 2) (da_cons (dv 6) (da_cons (d_ix (o_ix zk) (d_lst (da_cons d_int (da_cons d_int (da_cons d_int (da_cons d_int (da_cons (d_call0 D__law_draw (hr.mono (by decide)) zk zm zn (da_cons (dv 0) (da_cons d_int da_nil))) da_nil)))))) (d_call0 D__law_draw (hr.mono (by decide)) zk zm zn (da_cons (dv 0) (da_cons d_int da_nil))) (fun _ _ => rfl)) da_nil))))))
      ds_nil)
    (ds_cons (ds_set (i := 7) sc__law_drawn_word.nd rfl (Or.inl rfl) (d_ix (o_ix zk) (d_lst (da_cons d_int (da_cons (d_un o_neg d_int) da_nil))) (d_callTy c_intS (by rfl) T.n_int (by decide +kernel) (da_cons (d_cmp (o_in zk hr.units) (dv 2) (d_tup (da_cons d_str (da_cons d_str (da_cons d_str da_nil)))) rfl) da_nil)) (fun _ _ => rfl)))
    (ds_one (ds_ret (d_tup (da_cons (dv 2) (da_cons (dv 6) (da_cons (d_bin (o_add zk) (dv 7) (d_ix (o_ix zk) (d_lst (da_cons d_int (da_cons d_int (da_cons d_int (da_cons d_int (da_cons (d_call0 D__law_draw (hr.mono (by decide)) zk zm zn (da_cons (dv 0) (da_cons d_int da_nil))) da_nil)))))) (d_call0 D__law_draw (hr.mono (by decide)) zk zm zn (da_cons (dv 0) (da_cons d_int da_nil))) (fun _ _ => rfl))) da_nil)))))))))))))
abbrev s__law_signs : Stmt := top 45
theorem sc__law_signs : FnScope ["_law_signs_here"] [] (defScope s__law_signs) := ⟨rfl, rfl, rfl, by decide +kernel, rfl, by decide +kernel, by decide +kernel⟩
def B__law_signs : DT := (dSeq (dSet 0 (dC (.str " !\"#$&'()*+,-./0123456789:;<=>?@ABCDEFGHIJKLMNOPQRSTUVWXYZ[\\]^_")))
  (dRet (dApp gAdd (dCons (dVar 0) (dCons (dC (.str "`abcdefghijklmnopqrstuvwxyz{|}~\n")) dNil)))))
def U__law_signs : List D → M D := dDef 0 1 B__law_signs
theorem ok__law_signs {f : Addr} {fd : FuncData} (F : Fun K "_law_signs" "_law_signs" s__law_signs f fd) (T : Txt mg) : FnOk P w K mg base CX0 1 f fd [] (spU K mg penKey U__law_signs) :=
  fn_D (N := ["_law_signs_here"]) (k := 0) (m := 0) (t := B__law_signs) F sc__law_signs rfl fun cdv A outer s H E Z hr zk zm zn => (ds_cons (ds_set (i := 0) sc__law_signs.nd rfl (Or.inl rfl) d_str)
    (ds_one (ds_ret (d_bin (o_add zk) (dv 0) d_str))))
abbrev s__law_bent_text : Stmt := top 46
theorem sc__law_bent_text : FnScope ["_law_pen", "_law_text_here", "_law_near", "_law_spot", "_law_way", "_law_signs_here", "_law_sign", "_law_ahead", "_law_behind"] ["_law_pen", "_law_text_here", "_law_near"] (defScope s__law_bent_text) := ⟨rfl, rfl, rfl, by decide +kernel, rfl, by decide +kernel, by decide +kernel⟩
def R__law_bent_text_1 : DT := (dRet (dIf (dApp gEq (dCons (dVar 4) (dCons (dC (.int 6)) dNil))) (dVar 7) (dApp gAdd (dCons (dApp gAdd (dCons (dVar 7) (dCons (dSl (dVar 8) dNoB (dB (dC (.int 1)))) dNil))) (dCons (dVar 8) dNil)))))
def R__law_bent_text_2 : DT := (dSeq (dPar 7 8 (dSh (dSl (dVar 1) dNoB (dB (dVar 3)))) (dSh (dSl (dVar 1) (dB (dVar 3)) dNoB)))
  (dSeq (dIfS (dApp gEq (dCons (dVar 4) (dCons (dC (.int 5)) dNil)))
    (dRet (dApp gAdd (dCons (dApp gAdd (dCons (dVar 7) (dCons (dApp gRevS (dCons (dSl (dVar 8) dNoB (dB (dC (.int 2)))) dNil)) dNil))) (dCons (dSl (dVar 8) (dB (dC (.int 2))) dNoB) dNil))))
    dNext)
  R__law_bent_text_1))
def R__law_bent_text_3 : DT := (dSeq (dIfS (dApp gEq (dCons (dVar 4) (dCons (dC (.int 4)) dNil)))
    (dRet (dApp gAdd (dCons (dSl (dVar 1) dNoB (dB (dVar 3))) (dCons (dSl (dVar 1) (dB (dApp gAdd (dCons (dVar 3) (dCons (dC (.int 1)) dNil)))) dNoB) dNil))))
    dNext)
  R__law_bent_text_2)
def B__law_bent_text : DT := (dSeq (dPar 3 4 (dSh (dCall0 U_draw (dCons (dVar 0) (dCons (dApp gAdd (dCons (dApp gLen (dCons (dVar 1) dNil)) (dCons (dC (.int 1)) dNil))) dNil)))) (dSh (dCall0 U_draw (dCons (dVar 0) (dCons (dC (.int 8)) dNil)))))
  (dSeq (dSet 5 (dApp gIx (dCons (dApp gList (dCons (dVar 2) (dCons (dCall0 U__law_signs dNil) dNil))) (dCons (dCall0 U_draw (dCons (dVar 0) (dCons (dC (.int 2)) dNil))) dNil))))
  (dSeq (dSet 6 (dApp gIx (dCons (dVar 5) (dCons (dCall0 U_draw (dCons (dVar 0) (dCons (dApp gLen (dCons (dVar 5) dNil)) dNil))) dNil))))
  (dSeq (dIfS (dApp gLt (dCons (dVar 4) (dCons (dC (.int 4)) dNil)))
    (dRet (dApp gAdd (dCons (dApp gAdd (dCons (dSl (dVar 1) dNoB (dB (dVar 3))) (dCons (dVar 6) dNil))) (dCons (dSl (dVar 1) (dB (dApp gAdd (dCons (dVar 3) (dCons (dApp gDiv (dCons (dVar 4) (dCons (dC (.int 2)) dNil))) dNil)))) dNoB) dNil))))
    dNext)
  R__law_bent_text_3))))
def U__law_bent_text : List D → M D := dDef 3 9 B__law_bent_text
theorem ok__law_bent_text {f : Addr} {fd : FuncData} (F : Fun K "_law_bent_text" "_law_bent_text" s__law_bent_text f fd) (T : Txt mg) (D__law_draw : OkD P w K mg base CX0 1 "_law_draw" ["_law_pen", "_law_span"] (spU K mg penKey U_draw)) (D__law_signs : OkD P w K mg base CX0 1 "_law_signs" [] (spU K mg penKey U__law_signs)) : FnOk P w K mg base CX0 2 f fd ["_law_pen", "_law_text_here", "_law_near"] (spU K mg penKey U__law_bent_text) :=
  fn_D (N := ["_law_pen", "_law_text_here", "_law_near", "_law_spot", "_law_way", "_law_signs_here", "_law_sign", "_law_ahead", "_law_behind"]) (k := 1) (m := 3) (t := B__law_bent_text) F sc__law_bent_text rfl fun cdv A outer s H E Z hr zk zm zn => (ds_cons (ds_par (i := 3) (j := 4) rfl sc__law_bent_text.nd rfl rfl (by decide) rfl rfl (o_sh (d_call0 D__law_draw (hr.mono (by decide)) zk zm zn (da_cons (dv 0) (da_cons (d_bin (o_add zk) (d_callB (c_len zk) (by rfl) T.n_len (by decide +kernel) (da_cons (dv 1) da_nil)) d_int) da_nil)))) (o_sh (d_call0 D__law_draw (hr.mono (by decide)) zk zm zn (da_cons (dv 0) (da_cons d_int da_nil)))) (by rfl))
    (ds_cons (ds_set (i := 5) sc__law_bent_text.nd rfl (Or.inl rfl) (d_ix (o_ix zk) (d_lst (da_cons (dv 2) (da_cons (d_call00 D__law_signs (hr.mono (by decide)) zk zm zn) da_nil))) (d_call0 D__law_draw (hr.mono (by decide)) zk zm zn (da_cons (dv 0) (da_cons d_int da_nil))) (fun _ _ => rfl)))
    (ds_cons (ds_set (i := 6) sc__law_bent_text.nd rfl (Or.inl rfl) (d_ix (o_ix zk) (dv 5) (d_call0 D__law_draw (hr.mono (by decide)) zk zm zn (da_cons (dv 0) (da_cons (d_callB (c_len zk) (by rfl) T.n_len (by decide +kernel) (da_cons (dv 5) da_nil)) da_nil))) (fun _ _ => rfl)))
    (ds_cons (ds_if (dt_cmp o_lt (dv 4) d_int (nomark _))
      (ds_one (ds_ret (d_bin (o_add zk) (d_bin (o_add zk) (d_sl zk (dv 1) db_none (db_some (dv 3))) (dv 6)) (d_sl zk (dv 1) (db_some (d_bin (o_add zk) (dv 3) (d_bin o_div (dv 4) d_int))) db_none))))
      ds_nil)
    (ds_cons (ds_if (dt_cmp (o_eq zk hr.units) (dv 4) d_int (nomark _))
      (ds_one (ds_ret (d_bin (o_add zk) (d_sl zk (dv 1) db_none (db_some (dv 3))) (d_sl zk (dv 1) (db_some (d_bin (o_add zk) (dv 3) d_int)) db_none))))
      ds_nil)
    (ds_cons (ds_par (i := 7) (j := 8) rfl sc__law_bent_text.nd rfl rfl (by decide) rfl rfl (o_sh (d_sl zk (dv 1) db_none (db_some (dv 3)))) (o_sh (d_sl zk (dv 1) (db_some (dv 3)) db_none)) (by rfl))
    (ds_cons (ds_if (dt_cmp (o_eq zk hr.units) (dv 4) d_int (nomark _))
      (ds_one (ds_ret (d_bin (o_add zk) (d_bin (o_add zk) (dv 7) (d_revS (d_sl zk (dv 8) db_none (db_some d_int)))) (d_sl zk (dv 8) (db_some d_int) db_none))))
      ds_nil)
    (ds_one (ds_ret (d_ifExp (dt_cmp (o_eq zk hr.units) (dv 4) d_int (nomark _)) (dv 7) (d_bin (o_add zk) (d_bin (o_add zk) (dv 7) (d_sl zk (dv 8) db_none (db_some d_int))) (dv 8))))))))))))
abbrev s__law_text : Stmt := top 47
theorem sc__law_text : FnScope ["_law_word", "_law_one"] ["_law_word"] (defScope s__law_text) := ⟨rfl, rfl, rfl, by decide +kernel, rfl, by decide +kernel, by decide +kernel⟩
def B__law_text : DT := (dRet (dJoin (dC (.str " ")) (dApp gAdd (dCons (dApp gAdd (dCons (dApp gList (dCons (dApp gIx (dCons (dVar 0) (dCons (dC (.int 0)) dNil))) dNil)) (dCons (dApp gListS (dCons (dApp gIx (dCons (dVar 0) (dCons (dC (.int 1)) dNil))) dNil)) dNil))) (dCons (dNew (dLc (dIt gIter (dCons (dSl (dVar 0) (dB (dC (.int 2))) dNoB) dNil)) (.nm 1) (dApp gIsNot (dCons (dVar 1) (dCons (dC .non) dNil))) (dApp gStr (dCons (dVar 1) dNil)) [1])) dNil)))))
def U__law_text : List D → M D := dDef 1 2 B__law_text
theorem ok__law_text {f : Addr} {fd : FuncData} (F : Fun K "_law_text" "_law_text" s__law_text f fd) (T : Txt mg) : FnOk P w K mg base CX0 1 f fd ["_law_word"] (spU K mg penKey U__law_text) :=
  fn_D (N := ["_law_word", "_law_one"]) (k := 0) (m := 1) (t := B__law_text) F sc__law_text rfl fun cdv A outer s H E Z hr zk zm zn => (ds_one (ds_ret (d_join zk d_str (d_bin (o_add zk) (d_bin (o_add zk) (d_lst (da_cons (d_ix (o_ix zk) (dv 0) d_int (fun _ _ => rfl)) da_nil)) (d_callTy (c_listS rfl zk) (by rfl) T.n_list (by decide +kernel) (da_cons (d_ix (o_ix zk) (dv 0) d_int (fun _ _ => rfl)) da_nil))) (d_lc (tt := liftT Z.calm (dApp gIsNot (dCons (dVar 1) (dCons (dC .non) dNil)))) (own := [("_law_one", 1)]) (gg := gName 1) (tg := (.nm 1)) rfl sc__law_text.nd (di_seq zk (d_sl zk (dv 0) (db_some d_int) db_none)) (blkOk_by (own := [("_law_one", 1)]) (N := ["_law_word", "_law_one"]) (sc := defScope s__law_text) (by decide +kernel)) (fun _ _ _ _ _ => pg_name (i := 1) sc__law_text.nd rfl (Or.inl rfl)) tg_nm (fun _ _ _ _ _ => (pts_one (dt_cmp o_isNot (dv 1) d_non (nomark _)))) id_lift (fun _ _ _ _ _ => (d_callTy c_str (by rfl) T.n_str (by decide +kernel) (da_cons (dv 1) da_nil))) (by decide))))))
abbrev s__law_read : Stmt := top 48
theorem sc__law_read : FnScope ["_law_thing", "_law_kept", "_law_found", "e"] ["_law_thing"] (defScope s__law_read) := ⟨rfl, rfl, rfl, by decide +kernel, rfl, by decide +kernel, by decide +kernel⟩
def R__law_read_1 : DT := (dRet (dIf (dAnd (dApp gEq (dCons (dApp (gXf ["NoWord"] "at") (dCons (dVar 1) dNil)) (dCons (dC (.int 0)) dNil))) (dApp gNot (dCons (dApp (gIsi isBool) (dCons (dApp (gXf ["NoWord"] "at") (dCons (dVar 1) dNil)) dNil)) dNil))) (dC .non) (dC (.str "odd"))))
def R__law_read_2 : DT := (dSeq (dIfS (dApp gIs (dCons (dVar 1) (dCons (dC .non) dNil)))
    (dRet (dVar 2))
    dNext)
  R__law_read_1)
def B__law_read : DT := (dSeq (dSet 1 (dC .non))
  (dSeq (dTry 3 1 "NoWord" (dSet 2 (dCall U_read_word (dCons (dVar 0) dNil))))
  R__law_read_2))
def U__law_read : List D → M D := dDef 1 4 B__law_read
theorem ok__law_read {f : Addr} {fd : FuncData} (F : Fun K "_law_read" "_law_read" s__law_read f fd) (T : Txt mg) (D_read_word : OkD P w K mg base (L2.CX P w) 5 "read_word" ["text"] (spU K mg penKey U_read_word)) {CX_a_NoWord fI_NoWord : Addr} {fdI_NoWord : FuncData} (X_NoWord : XcB K mg "NoWord" "NoWord.__init__" s_NoWord___init__ "ValueError.__new__" [.type "ValueError", .type "Exception", .type "BaseException", .type "object"] CX_a_NoWord fI_NoWord fdI_NoWord) (NX_NoWord_at : PySem.W.findIn K (.ref CX_a_NoWord) "at" = some none) : FnOk P w K mg base CX0 6 f fd ["_law_thing"] (spU K mg penKey U__law_read) :=
  fn_D (N := ["_law_thing", "_law_kept", "_law_found", "e"]) (k := 5) (m := 1) (t := B__law_read) F sc__law_read rfl fun cdv A outer s H E Z hr zk zm zn => (ds_cons (ds_set (i := 1) sc__law_read.nd rfl (Or.inl rfl) d_non)
    (ds_cons (ds_try (i := 3) (j := 1) rfl rfl rfl sc__law_read.nd rfl rfl (by decide) rfl X_NoWord.g X_NoWord.self ⟨rfl, by decide, .inl X_NoWord.g⟩ zm (fun W pn xe tk hpo => (ds_one (ds_set (i := 2) sc__law_read.nd rfl (Or.inl rfl) (d_callX D_read_word (hr.mono (by decide)) zk zm zn tk (da_cons (dv 0) da_nil))))) (fun a oe pn => pss_one (ps_set (i := 1) sc__law_read.nd rfl (Or.inl rfl) (pv 3))))
    (ds_cons (ds_if (dt_cmp o_is (dv 1) d_non (nomark _))
      (ds_one (ds_ret (dv 2)))
      ds_nil)
    (ds_one (ds_ret (d_ifExp (PW.pt (dw_and (dt_cmp (o_eq zk hr.units) (d_xf (cs := ["NoWord"]) (xf1 X_NoWord NX_NoWord_at zm) (dv 1)) d_int (nomark _)) (dw_and1 (dt_not (dt_val (d_isi (f_bool zk) (.ty _) (by rfl) T.n_isinstance (d_xf (cs := ["NoWord"]) (xf1 X_NoWord NX_NoWord_at zm) (dv 1)) (pe_bltn (v := .ty "bool") (by rfl) T.n_bool (by decide +kernel) rfl))))))) d_non d_str))))))
abbrev s__law_numbers : Stmt := top 49
theorem sc__law_numbers : FnScope ["_law_pen", "_law_text_here"] ["_law_pen", "_law_text_here"] (defScope s__law_numbers) := ⟨rfl, rfl, rfl, by decide +kernel, rfl, by decide +kernel, by decide +kernel⟩
def B__law_numbers : DT := (dRet (dApp gAdd (dCons (dVar 1) (dCons (dCall0 U__law_pick (dCons (dVar 0) (dCons (dApp gList (dCons (dC (.str "")) (dCons (dC (.str " 0")) (dCons (dC (.str " 00")) (dCons (dC (.str " -0")) (dCons (dC (.str " +1")) (dCons (dC (.str " 255")) (dCons (dC (.str " 256")) (dCons (dC (.str " -128")) (dCons (dC (.str " -129")) (dCons (dC (.str " 127")) (dCons (dC (.str " 128")) (dCons (dC (.str " 65535")) (dCons (dC (.str " 65536")) (dCons (dC (.str " 1 ")) (dCons (dC (.str " a")) (dCons (dApp gAdd (dCons (dC (.str " 1")) (dCons (dApp gMulS (dCons (dC (.str "0")) (dCons (dC (.int 4400)) dNil))) dNil))) (dCons (dC (.str " -")) (dCons (dC (.str " --1")) (dCons (dApp gAdd (dCons (dC (.str " -1")) (dCons (dApp gMulS (dCons (dC (.str "0")) (dCons (dC (.int 4400)) dNil))) dNil))) dNil)))))))))))))))))))) dNil))) dNil))))
def U__law_numbers : List D → M D := dDef 2 2 B__law_numbers
theorem ok__law_numbers {f : Addr} {fd : FuncData} (F : Fun K "_law_numbers" "_law_numbers" s__law_numbers f fd) (T : Txt mg) (D__law_pick : OkD P w K mg base CX0 2 "_law_pick" ["_law_pen", "_law_some"] (spU K mg penKey U__law_pick)) : FnOk P w K mg base CX0 3 f fd ["_law_pen", "_law_text_here"] (spU K mg penKey U__law_numbers) :=
  fn_D (N := ["_law_pen", "_law_text_here"]) (k := 2) (m := 2) (t := B__law_numbers) F sc__law_numbers rfl fun cdv A outer s H E Z hr zk zm zn => (ds_one (ds_ret (d_bin (o_add zk) (dv 1) (d_call0 D__law_pick (hr.mono (by decide)) zk zm zn (da_cons (dv 0) (da_cons (d_lst (da_cons d_str (da_cons d_str (da_cons d_str (da_cons d_str (da_cons d_str (da_cons d_str (da_cons d_str (da_cons d_str (da_cons d_str (da_cons d_str (da_cons d_str (da_cons d_str (da_cons d_str (da_cons d_str (da_cons d_str (da_cons (d_bin (o_add zk) d_str (d_bin o_mulS d_str d_int)) (da_cons d_str (da_cons d_str (da_cons (d_bin (o_add zk) d_str (d_bin o_mulS d_str d_int)) da_nil)))))))))))))))))))) da_nil))))))
abbrev s__law_right : Stmt := top 50
theorem sc__law_right : FnScope ["_law_thing", "_law_found"] ["_law_thing"] (defScope s__law_right) := ⟨rfl, rfl, rfl, by decide +kernel, rfl, by decide +kernel, by decide +kernel⟩
def R__law_right_1 : DT := (dRet (dAnd (dCall0 U_is_word (dCons (dVar 1) dNil)) (dAnd (dApp (gIsi isStr) (dCons (dVar 0) dNil)) (dAnd (dApp gEq (dCons (dCall0 U__law_text (dCons (dVar 1) dNil)) (dCons (dVar 0) dNil))) (dApp gEq (dCons (dCall0 U_show_word (dCons (dVar 1) dNil)) (dCons (dVar 0) dNil)))))))
def B__law_right : DT := (dSeq (dSet 1 (dCall0 U__law_read (dCons (dVar 0) dNil)))
  (dSeq (dIfS (dApp gIs (dCons (dVar 1) (dCons (dC .non) dNil)))
    (dRet (dC (.bl true)))
    dNext)
  R__law_right_1))
def U__law_right : List D → M D := dDef 1 2 B__law_right
theorem ok__law_right {f : Addr} {fd : FuncData} (F : Fun K "_law_right" "_law_right" s__law_right f fd) (T : Txt mg) (D__law_read : OkD P w K mg base CX0 6 "_law_read" ["_law_thing"] (spU K mg penKey U__law_read)) (D_show_word : OkD P w K mg base CX0 1 "show_word" ["word"] (spU K mg penKey U_show_word)) (D__law_text : OkD P w K mg base CX0 1 "_law_text" ["_law_word"] (spU K mg penKey U__law_text)) (D_is_word : OkD P w K mg base CX0 4 "is_word" ["thing"] (spU K mg penKey U_is_word)) : FnOk P w K mg base CX0 7 f fd ["_law_thing"] (spU K mg penKey U__law_right) :=
  fn_D (N := ["_law_thing", "_law_found"]) (k := 6) (m := 1) (t := B__law_right) F sc__law_right rfl fun cdv A outer s H E Z hr zk zm zn => (ds_cons (ds_set (i := 1) sc__law_right.nd rfl (Or.inl rfl) (d_call0 D__law_read (hr.mono (by decide)) zk zm zn (da_cons (dv 0) da_nil)))
    (ds_cons (ds_if (dt_cmp o_is (dv 1) d_non (nomark _))
      (ds_one (ds_ret d_bl))
      ds_nil)
    (ds_one (ds_ret (d_and (d_call0 D_is_word (hr.mono (by decide)) zk zm zn (da_cons (dv 1) da_nil)) (d_and (d_isi (f_str zk) (.ty _) (by rfl) T.n_isinstance (dv 0) (pe_bltn (v := .ty "str") (by rfl) T.n_str (by decide +kernel) rfl)) (d_and (d_cmp (o_eq zk hr.units) (d_call0 D__law_text (hr.mono (by decide)) zk zm zn (da_cons (dv 1) da_nil)) (dv 0) (nomark _)) (d_one (d_cmp (o_eq zk hr.units) (d_call0 D_show_word (hr.mono (by decide)) zk zm zn (da_cons (dv 1) da_nil)) (dv 0) (nomark _))))))))))
abbrev s_law : Stmt := top 51
theorem sc_law : FnScope ["_law_script", "_law_pen", "_law_turn", "_law_some", "_law_row", "_law_due", "_law_word", "_law_ahead", "_law_spot", "_law_bent", "_law_things", "_law_stem", "_law_thing", "_law_k"] ["_law_script"] (defScope s_law) := ⟨rfl, rfl, rfl, by decide +kernel, rfl, by decide +kernel, by decide +kernel⟩
def L_law_1 : DT := (dSeq (dMut 5 mAppend (dCons (dApp gTupl (dCons (dApp gLen (dCons (dVar 4) dNil)) (dCons (dVar 6) dNil))) dNil))
  (dSet 4 (dApp gAdd (dCons (dVar 4) (dCons (dCall0 U_bytes_of_word (dCons (dVar 6) dNil)) dNil)))))
def R_law_1 : DT := (dIfS (dOr (dApp gNe (dCons (dCall0 U_show_word (dCons (dVar 6) dNil)) (dCons (dCall0 U__law_text (dCons (dVar 6) dNil)) dNil))) (dApp gNe (dCons (dCall0 U__law_read (dCons (dCall0 U__law_text (dCons (dVar 6) dNil)) dNil)) (dCons (dVar 6) dNil))))
    (dRet (dC (.bl false)))
    dNext)
def L_law_2 : DT := (dSeq (dIfS (dApp gNe (dCons (dCall0 U_word_at (dCat 1 1 (dCons (dApp gAdd (dCons (dVar 7) (dCons (dVar 4) dNil))) dNil) (dCons (dApp gAdd (dCons (dApp gLen (dCons (dVar 7) dNil)) (dCons (dVar 8) dNil))) dNil))) (dCons (dApp gTupl (dCons (dVar 6) (dCons (dApp gAdd (dCons (dApp gAdd (dCons (dApp gLen (dCons (dVar 7) dNil)) (dCons (dVar 8) dNil))) (dCons (dApp gLen (dCons (dCall0 U_bytes_of_word (dCons (dVar 6) dNil)) dNil)) dNil))) dNil))) dNil)))
    (dRet (dC (.bl false)))
    dNext)
  R_law_1)
def L_law_3 : DT := (dIfS (dApp gNot (dCons (dCall0 U__law_right (dCons (dVar 12) dNil)) dNil))
    (dRet (dC (.bl false)))
    dNext)
def R_law_2 : DT := (dIfS (dApp (gIsi isStr) (dCons (dCall0 U__law_read (dCons (dCall0 U__law_text (dCons (dApp gTupl (dCons (dApp gIx (dCons (dVar 6) (dCons (dC (.int 0)) dNil))) (dCons (dApp gRevS (dCons (dApp gIx (dCons (dVar 6) (dCons (dC (.int 1)) dNil))) dNil)) (dCons (dApp gIx (dCons (dVar 6) (dCons (dC (.int 2)) dNil))) dNil)))) dNil)) dNil)) dNil))
    (dRet (dC (.bl false)))
    dNext)
def R_law_3 : DT := (dSeq (dSet 6 (dCall0 U__law_drawn_word (dCons (dVar 1) dNil)))
  (dSeq (dSet 9 (dCall0 U__law_bent_text (dCons (dVar 1) (dCons (dCall0 U__law_text (dCons (dVar 6) dNil)) (dCons (dC (.str "abcdpq .-0123456789")) dNil)))))
  (dSeq (dSet 10 (dApp gList (dCons (dVar 9) (dCons (dCall0 U__law_bent_text (dCons (dVar 1) (dCons (dVar 9) (dCons (dC (.str " abpq0-")) dNil)))) dNil))))
  (dSeq (dSet 11 (dCall0 U__law_pick (dCons (dVar 1) (dCons (dApp gList (dCons (dApp gIx (dCons (dVar 6) (dCons (dC (.int 0)) dNil))) (dCons (dCall0 U__law_text (dCons (dVar 6) dNil)) (dCons (dApp gAdd (dCons (dApp gIx (dCons (dVar 6) (dCons (dC (.int 0)) dNil))) (dCons (dC (.str " a")) dNil))) (dCons (dApp gAdd (dCons (dApp gIx (dCons (dVar 6) (dCons (dC (.int 0)) dNil))) (dCons (dC (.str " p")) dNil))) dNil))))) dNil))))
  (dSeq (dSet 10 (dApp gAdd (dCons (dVar 10) (dCons (dApp gList (dCons (dCall0 U__law_numbers (dCons (dVar 1) (dCons (dVar 11) dNil))) dNil)) dNil))))
  (dSeq (dFor (dIt gIter (dCons (dApp gAdd (dCons (dVar 10) (dCons (dApp gList (dCons (dCall0 U__law_pick (dCons (dVar 1) (dCons (dApp gList (dCons (dC .non) (dCons (dC (.int 7)) (dCons (dC (.bl true)) (dCons (dVar 6) (dCons (dApp gList dNil) (dCons dDct0 (dCons (dC (.str "")) (dCons (dApp gListS (dCons (dVar 6) dNil)) dNil))))))))) dNil))) dNil)) dNil))) dNil)) (.nm 12)
    L_law_3)
  R_law_2))))))
def R_law_4 : DT := (dSeq (dSet 7 (dApp gTuple (dCons (dNew (dLc (dIt gRange (dCons (dCall0 U_draw (dCons (dVar 1) (dCons (dC (.int 4)) dNil))) dNil)) (.nm 13) (dC (.bl true)) (dCall0 U_draw (dCons (dVar 1) (dCons (dC (.int 256)) dNil))) [13])) dNil)))
  (dSeq (dUn 5 (dFor (dIt gIter (dCons (dVar 5) dNil)) (.tp [8, 6])
    L_law_2))
  R_law_3))
def R_law_5 : DT := (dSeq (dIfS (dBor 5 (dOr (dApp gNe (dCons (dCall0 U_words_of (dCons (dVar 4) dNil)) (dCons (dVar 5) dNil))) (dApp gNe (dCons (dCall0 U_read_hex (dCons (dCall0 U_show_hex (dCons (dVar 4) dNil)) dNil)) (dCons (dVar 4) dNil)))))
    (dRet (dC (.bl false)))
    dNext)
  R_law_4)
def L_law_4 : DT := (dSeq (dSet 3 (dNew (dLc (dIt gRange (dCons (dCall0 U_draw (dCons (dVar 1) (dCons (dC (.int 12)) dNil))) dNil)) (.nm 13) (dC (.bl true)) (dCall0 U__law_drawn_word (dCons (dVar 1) dNil)) [13])))
  (dSeq (dPar 4 5 (dSh (dApp gTupl dNil)) (dOwnL dNil))
  (dSeq (dFor (dIt gIter (dCons (dVar 3) dNil)) (.nm 6)
    L_law_1)
  R_law_5)))
def R_law_6 : DT := (dRet (dAnd (dApp gEq0 (dCons (dCall0 U_words_of (dCons (dApp gTupl dNil) dNil)) (dCons (dApp gList dNil) dNil))) (dApp gEq (dCons (dCall0 U_read_word (dCons (dC (.str "halt")) dNil)) (dCons (dApp gTupl (dCons (dC (.str "halt")) (dCons (dC (.str "")) (dCons (dC .non) dNil)))) dNil)))))
def B_law : DT := (dSeq (dFor (dIt gRange (dCons (dApp gAdd (dCons (dC (.int 4)) (dCons (dApp gMin (dCons (dC (.int 8)) (dCons (dApp gLen (dCons (dVar 0) dNil)) dNil))) dNil))) dNil)) (.nm 2)
    L_law_4)
  R_law_6)
theorem ok_law {f : Addr} {fd : FuncData} (F : Fun K "law" "law" s_law f fd) (T : Txt mg) (D__law_draw : OkD P w K mg base CX0 1 "_law_draw" ["_law_pen", "_law_span"] (spU K mg penKey U_draw)) (D__law_drawn_word : OkD P w K mg base CX0 3 "_law_drawn_word" ["_law_pen"] (spU K mg penKey U__law_drawn_word)) (D_bytes_of_word : OkD P w K mg base CX0 6 "bytes_of_word" ["word"] (spU K mg penKey U_bytes_of_word)) (D_read_hex : OkD P w K mg base (L2.CX P w) 3 "read_hex" ["text"] (spU K mg penKey U_read_hex)) (D_show_hex : OkD P w K mg base CX0 2 "show_hex" ["row"] (spU K mg penKey U_show_hex)) (D_words_of : OkD P w K mg base (L2.CX P w) 4 "words_of" ["row"] (spU K mg penKey U_words_of)) (KO_word_at : OkKo P w K mg base (L2.CX P w) 3 "word_at" 1 ["at"] (spU K mg penKey U_word_at)) (D__law_read : OkD P w K mg base CX0 6 "_law_read" ["_law_thing"] (spU K mg penKey U__law_read)) (D__law_text : OkD P w K mg base CX0 1 "_law_text" ["_law_word"] (spU K mg penKey U__law_text)) (D_show_word : OkD P w K mg base CX0 1 "show_word" ["word"] (spU K mg penKey U_show_word)) (D__law_bent_text : OkD P w K mg base CX0 2 "_law_bent_text" ["_law_pen", "_law_text_here", "_law_near"] (spU K mg penKey U__law_bent_text)) (D__law_pick : OkD P w K mg base CX0 2 "_law_pick" ["_law_pen", "_law_some"] (spU K mg penKey U__law_pick)) (D__law_numbers : OkD P w K mg base CX0 3 "_law_numbers" ["_law_pen", "_law_text_here"] (spU K mg penKey U__law_numbers)) (D__law_right : OkD P w K mg base CX0 7 "_law_right" ["_law_thing"] (spU K mg penKey U__law_right)) (D_read_word : OkD P w K mg base (L2.CX P w) 5 "read_word" ["text"] (spU K mg penKey U_read_word)) (D__law_feed : OkD P w K mg base CX0 1 "_law_feed" ["_law_script"] (spFeed penStr K)) (hU : dLawS 14 1 B_law) : FnG P w K mg base CX0 8 f fd ["_law_script"] (spLaw K) :=
  law_DGS (k := 7) (i := 1) (kn := penKey) (t := B_law) F sc_law rfl (by decide) rfl (fun cdv A outer s H E hr => ps_set (i := 1) sc_law.nd rfl (Or.inr rfl) (pe_callD D__law_feed (hr.mono (by decide)) (pa_cons (pv 0) pa_nil))) (fun cdv A outer s H E Z gd hr zk zm zn => (ds_cons (ds_for (tg := (.nm 2)) (gg := gName 2) PassesOwn.never rfl (di_range1 (by rfl) T.n_range (d_bin (o_add zk) d_int (d_callB (c_min rfl) (by rfl) T.n_min (by decide +kernel) (da_cons d_int (da_cons (d_callB (c_len zk) (by rfl) T.n_len (by decide +kernel) (da_cons (dv 0) da_nil)) da_nil))))) (pg_name (i := 2) sc_law.nd rfl (Or.inl rfl)) tg_nm
      (ds_cons (ds_setLc (i := 3) (own := [("_law_k", 13)]) (gg := gName 13) (tg := (.nm 13)) rfl sc_law.nd rfl rfl (sw_true rfl rfl rfl (by decide +kernel)) (di_range1 (by rfl) T.n_range (d_call0 D__law_draw (hr.mono (by decide)) zk zm zn (da_cons (dv 1) (da_cons d_int da_nil)))) (blkOk_by (own := [("_law_k", 13)]) (N := ["_law_script", "_law_pen", "_law_turn", "_law_some", "_law_row", "_law_due", "_law_word", "_law_ahead", "_law_spot", "_law_bent", "_law_things", "_law_stem", "_law_thing", "_law_k"]) (sc := defScope s_law) (by decide +kernel)) (fun _ _ _ _ _ => pg_name (i := 13) sc_law.nd rfl (Or.inl rfl)) tg_nm (fun _ _ _ _ _ => pts_nil) yes_lift (fun _ _ _ _ _ => (d_call0 D__law_drawn_word (hr.mono (by decide)) zk zm zn (da_cons (dv 1) da_nil))) (by decide))
    (ds_cons (ds_par (i := 4) (j := 5) rfl sc_law.nd rfl rfl (by decide) rfl rfl (o_sh (d_tup da_nil)) (o_lst da_nil) (by rfl))
    (ds_cons (ds_for (tg := (.nm 6)) (gg := gName 6) PassesOwn.never rfl (di_seq zk (dv 3)) (pg_name (i := 6) sc_law.nd rfl (Or.inl rfl)) tg_nm
      (ds_cons (ds_mut PySem.F.slot_list_append PySem.F.type_list_append mt_append m_append (pv 5) (da_cons (d_tup (da_cons (d_callB (c_len zk) (by rfl) T.n_len (by decide +kernel) (da_cons (dv 4) da_nil)) (da_cons (dv 6) da_nil))) da_nil))
    (ds_one (ds_set (i := 4) sc_law.nd rfl (Or.inl rfl) (d_bin (o_add zk) (dv 4) (d_call0 D_bytes_of_word (hr.mono (by decide)) zk zm zn (da_cons (dv 6) da_nil)))))))
    (ds_cons (ds_if (dt_bor 5 (PW.pt (dw_or (dt_cmp (o_ne zk hr.units) (d_callX0 D_words_of (hr.mono (by decide)) zk zm zn (da_cons (dv 4) da_nil)) (dv 5) (nomark _)) (dw_or1 (dt_cmp (o_ne zk hr.units) (d_callX0 D_read_hex (hr.mono (by decide)) zk zm zn (da_cons (d_call0 D_show_hex (hr.mono (by decide)) zk zm zn (da_cons (dv 4) da_nil)) da_nil)) (dv 4) (nomark _))))))
      (ds_one (ds_ret d_bl))
      ds_nil)
    (ds_cons (ds_set (i := 7) sc_law.nd rfl (Or.inl rfl) (d_callTy (c_tuple zk) (by rfl) T.n_tuple (by decide +kernel) (da_cons (d_lc (own := [("_law_k", 13)]) (gg := gName 13) (tg := (.nm 13)) rfl sc_law.nd (di_range1 (by rfl) T.n_range (d_call0 D__law_draw (hr.mono (by decide)) zk zm zn (da_cons (dv 1) (da_cons d_int da_nil)))) (blkOk_by (own := [("_law_k", 13)]) (N := ["_law_script", "_law_pen", "_law_turn", "_law_some", "_law_row", "_law_due", "_law_word", "_law_ahead", "_law_spot", "_law_bent", "_law_things", "_law_stem", "_law_thing", "_law_k"]) (sc := defScope s_law) (by decide +kernel)) (fun _ _ _ _ _ => pg_name (i := 13) sc_law.nd rfl (Or.inl rfl)) tg_nm (fun _ _ _ _ _ => pts_nil) yes_lift (fun _ _ _ _ _ => (d_call0 D__law_draw (hr.mono (by decide)) zk zm zn (da_cons (dv 1) (da_cons d_int da_nil)))) (by decide)) da_nil)))
    (ds_cons (ds_un 5 (ds_for (tg := (.tp [8, 6])) (gg := gSq K 2 (gNames [8, 6])) PassesOwn.never rfl (di_seq zk (dv 5)) (pg_sq rfl (pgs_cons (pg_name (i := 8) sc_law.nd rfl (Or.inl rfl)) (pgs_cons (pg_name (i := 6) sc_law.nd rfl (Or.inl rfl)) pgs_nil))) (tg_tp zk.symm rfl)
      (ds_cons (ds_if (dt_cmp (o_ne zk hr.units) (d_kw0 KO_word_at neverX (hr.mono (by decide)) zk zm zn (da_cons (d_bin (o_add zk) (dv 7) (dv 4)) da_nil) (dk_cons (d_bin (o_add zk) (d_callB (c_len zk) (by rfl) T.n_len (by decide +kernel) (da_cons (dv 7) da_nil)) (dv 8)) dk_nil)) (d_tup (da_cons (dv 6) (da_cons (d_bin (o_add zk) (d_bin (o_add zk) (d_callB (c_len zk) (by rfl) T.n_len (by decide +kernel) (da_cons (dv 7) da_nil)) (dv 8)) (d_callB (c_len zk) (by rfl) T.n_len (by decide +kernel) (da_cons (d_call0 D_bytes_of_word (hr.mono (by decide)) zk zm zn (da_cons (dv 6) da_nil)) da_nil))) da_nil))) (nomark _))
      (ds_one (ds_ret d_bl))
      ds_nil)
    (ds_one (ds_if (PW.pt (dw_or (dt_cmp (o_ne zk hr.units) (d_call0 D_show_word (hr.mono (by decide)) zk zm zn (da_cons (dv 6) da_nil)) (d_call0 D__law_text (hr.mono (by decide)) zk zm zn (da_cons (dv 6) da_nil)) (nomark _)) (dw_or1 (dt_cmp (o_ne zk hr.units) (d_call0 D__law_read (hr.mono (by decide)) zk zm zn (da_cons (d_call0 D__law_text (hr.mono (by decide)) zk zm zn (da_cons (dv 6) da_nil)) da_nil)) (dv 6) (nomark _)))))
      (ds_one (ds_ret d_bl))
      ds_nil)))))
    (ds_cons (ds_set (i := 6) sc_law.nd rfl (Or.inl rfl) (d_call0 D__law_drawn_word (hr.mono (by decide)) zk zm zn (da_cons (dv 1) da_nil)))
    (ds_cons (ds_set (i := 9) sc_law.nd rfl (Or.inl rfl) (d_call0 D__law_bent_text (hr.mono (by decide)) zk zm zn (da_cons (dv 1) (da_cons (d_call0 D__law_text (hr.mono (by decide)) zk zm zn (da_cons (dv 6) da_nil)) (da_cons d_str da_nil)))))
    (ds_cons (ds_set (i := 10) sc_law.nd rfl (Or.inl rfl) (d_lst (da_cons (dv 9) (da_cons (d_call0 D__law_bent_text (hr.mono (by decide)) zk zm zn (da_cons (dv 1) (da_cons (dv 9) (da_cons d_str da_nil)))) da_nil))))
    (ds_cons (ds_set (i := 11) sc_law.nd rfl (Or.inl rfl) (d_call0 D__law_pick (hr.mono (by decide)) zk zm zn (da_cons (dv 1) (da_cons (d_lst (da_cons (d_ix (o_ix zk) (dv 6) d_int (fun _ _ => rfl)) (da_cons (d_call0 D__law_text (hr.mono (by decide)) zk zm zn (da_cons (dv 6) da_nil)) (da_cons (d_bin (o_add zk) (d_ix (o_ix zk) (dv 6) d_int (fun _ _ => rfl)) d_str) (da_cons (d_bin (o_add zk) (d_ix (o_ix zk) (dv 6) d_int (fun _ _ => rfl)) d_str) da_nil))))) da_nil))))
    (ds_cons (ds_set (i := 10) sc_law.nd rfl (Or.inl rfl) (d_bin (o_add zk) (dv 10) (d_lst (da_cons (d_call0 D__law_numbers (hr.mono (by decide)) zk zm zn (da_cons (dv 1) (da_cons (dv 11) da_nil))) da_nil))))
    (ds_cons (ds_for (tg := (.nm 12)) (gg := gName 12) PassesOwn.never rfl (di_seq zk (d_bin (o_add zk) (dv 10) (d_lst (da_cons (d_call0 D__law_pick (hr.mono (by decide)) zk zm zn (da_cons (dv 1) (da_cons (d_lst (da_cons d_non (da_cons d_int (da_cons d_bl (da_cons (dv 6) (da_cons (d_lst da_nil) (da_cons d_dct0 (da_cons d_str (da_cons (d_callTy (c_listS rfl zk) (by rfl) T.n_list (by decide +kernel) (da_cons (dv 6) da_nil)) da_nil))))))))) da_nil))) da_nil)))) (pg_name (i := 12) sc_law.nd rfl (Or.inl rfl)) tg_nm
      (ds_one (ds_if (dt_not (dt_val (d_call0 D__law_right (hr.mono (by decide)) zk zm zn (da_cons (dv 12) da_nil))))
      (ds_one (ds_ret d_bl))
      ds_nil)))
    (ds_one (ds_if (dt_val (d_isi (f_str zk) (.ty _) (by rfl) T.n_isinstance (d_call0 D__law_read (hr.mono (by decide)) zk zm zn (da_cons (d_call0 D__law_text (hr.mono (by decide)) zk zm zn (da_cons (d_tup (da_cons (d_ix (o_ix zk) (dv 6) d_int (fun _ _ => rfl)) (da_cons (d_revS (d_ix (o_ix zk) (dv 6) d_int (fun _ _ => rfl))) (da_cons (d_ix (o_ix zk) (dv 6) d_int (fun _ _ => rfl)) da_nil)))) da_nil)) da_nil)) (pe_bltn (v := .ty "str") (by rfl) T.n_str (by decide +kernel) rfl)))
      (ds_one (ds_ret d_bl))
      ds_nil)))))))))))))))
    (ds_one (ds_ret (d_and (d_cmp (o_eq0 zk hr.units) (d_callX0 D_words_of (hr.mono (by decide)) zk zm zn (da_cons (d_tup da_nil) da_nil)) (d_lst da_nil) (nomark _)) (d_one (d_cmp (o_eq zk hr.units) (d_callX0 D_read_word (hr.mono (by decide)) zk zm zn (da_cons d_str da_nil)) (d_tup (da_cons d_str (da_cons d_str (da_cons d_non da_nil)))) (nomark _)))))))) hU
end
end C05

namespace C05
open PySem L2 Dn Tr
local macro_rules | `(tactic| walk_at "d") => `(tactic| try simp only [dDef, shP, gIntS, gListS, gMulS, dSplit, dStarts, gCD, gCDIn, gCDNotIn, gCDGet, dSIdx, dPutO, dOwnD0, dSee, dIfO, dCallO0, dCallO, dActS, dRetS, dRetO, dDefS, dLamS, Sl.out, startD, dSeq, dNext, dSet, dSetO, dPar, dRet, dRetN, dIfS, dExpr, dAug, dVar, dC, dNil, dCons, dApp, dCall0, dCall, dAnd, dOr, dIf, dChain, dNew, dOwn, dSh, dOwnL, dOwnF, dUn, dBor, frz, frzB, dMut, dRaise, dTry, dIxO, dCat, dLam, dLamDef, dAct, y_isDict0, y_isDict1, y_isDict2, y_isDict3, y_isDict4, y_isDict5, y_isDict6, y_keys, y_revL, y_sum1, y_sum2, y_xf, y_isX, dMakeX, dMakeX0, dMakeK, dEqT, dLenO, dBorL, frzL, dDct0, y_isInt6, y_isBool6, y_isStr6, y_isTuple6, y_isList6, y_isSeq6, y_len4, y_inS, y_notInS, y_in1, y_in2, y_ne0, y_ne0L, y_eq0, y_isB, y_isNotB, y_revS, y_addN1, y_addN2, y_subN1, y_subN2, y_subN3, y_strN1, y_strN2, y_zipS, y_dget, y_dnotin, y_din, y_key1, y_key2, eqD_bl', dUnp, dGet1, dSortD, dJoin, dUpper, dDisp, dDispO, dUpd, dDc, x_tg3, x_setall1, dFst, dMake, dInit, dCmpO, dFor, dIt, dLc, wipeD, dSl, dNoB, dB, D.isN, D.flat, putD,
  x_add1, x_add2, x_add3, x_add4, x_i2, x_sub, x_lt, x_le, x_gt, x_ge, x_mod, x_div, x_pow, x_mul1, x_mul2, x_mul3, x_neg, x_not, x_tupl, x_list, x_len1, x_len2, x_len3, x_abs, x_min, x_max, x_int1, x_int2, x_tuple1, x_tuple2, x_listof1, x_listof2, x_iter1, x_iter2, x_iter3, x_range, x_range2, x_enum1, x_enum2, x_enum3, x_enumK, x_isi, x_isown, x_is, x_isnot, x_revT, x_sl1, x_sl2, x_sl3, x_ix1, x_ix2, x_ix3, x_fld, x_catL, x_append, x_extend1, x_extend2, x_insert, x_tg1, x_tg2, x_tg3, x_setall1, x_eq, x_ne, x_isInt0, x_isInt1, x_isInt2, x_isInt3, x_isInt4, x_isInt5, x_isBool0, x_isBool1, x_isBool2, x_isBool3, x_isBool4, x_isBool5, x_isStr0, x_isStr1, x_isStr2, x_isStr3, x_isStr4, x_isStr5, x_isTuple0, x_isTuple1, x_isTuple2, x_isTuple3, x_isTuple4, x_isTuple5, x_isList0, x_isList1, x_isList2, x_isList3, x_isList4, x_isList5, x_isSeq0, x_isSeq1, x_isSeq2, x_isSeq3, x_isSeq4, x_isSeq5, x_setall0,
  List.map_cons, List.map_nil, List.length_cons, List.length_nil, List.replicate_succ, List.replicate_zero, List.cons_append, List.nil_append, List.append_nil, Nat.reduceSub, Nat.reduceAdd, Nat.sub_self, Nat.zero_add, List.getElem?_cons_zero, List.getElem?_cons_succ, List.set_cons_zero, List.set_cons_succ, Option.some.injEq, Sl.sh.injEq, Sl.ow.injEq, D.bl.injEq, D.int.injEq, D.tup.injEq, D.lst.injEq, D.obj.injEq, exists_eq_left', exists_eq_left, true_and, and_true, Option.map_some, reduceCtorEq, if_true, if_false, ite_true, ite_false, Bool.not_true, Bool.not_false, decide_eq_true_eq, Bool.false_eq_true, eq_self_iff_true, List.mem_singleton, List.lookup, beq_self_eq_true, Bool.true_eq_false, atI0, atI1, atI2, atI3, atI4, eqD_int, eqD_str, eqD_row, eqD_row0, ex_if, sizeLine_eq, Nat.reduceLeDiff, row_len, row_app, row_cut, row_rev, Bool.not_eq_true', decide_eq_false_iff_not, List.length_map, List.length_append, Nat.reduceLT])
local macro_rules | `(tactic| walk_at "c") => `(tactic| repeat (first | assumption | rw [if_neg (by decide +kernel)] | rw [if_pos (by decide +kernel)] | refine ⟨by decide +kernel, ?_⟩ | refine ⟨⟨by decide, by decide⟩, ?_⟩ | refine ⟨_, rfl, ?_⟩))
def tab : List (Str × Int × Str × Int) := [("halt", 0, "", 0), ("back", 1, "", 0), ("out", 4, "n", 0), ("in", 8, "n", 0), ("push", 12, "n", 0), ("pop", 16, "n", 0), ("set.short", 20, "n", 1), ("set.long", 24, "n", 2), ("copy", 32, "nn", 0), ("add", 48, "nn", 0), ("less", 64, "nn", 0), ("times", 80, "nn", 0), ("go.short", 96, "", 1), ("go.long", 97, "", 2), ("call.short", 98, "", 1), ("call.long", 99, "", 2), ("if.short", 100, "n", 1), ("if.long", 104, "n", 2), ("point", 112, "x", 2), ("walk", 120, "xn", 0), ("turn", 128, "xn", 0), ("load", 136, "nx", 0), ("store", 144, "nx", 0), ("same", 152, "n", 0), ("move", 160, "xx", 0), ("take", 164, "xx", 0), ("keep", 168, "xx", 0), ("callat", 172, "x", 0), ("goat", 174, "x", 0), ("none", 176, "nx", 0)]
def entD (e : Str × Int × Str × Int) : D := .tup [.str e.1, .int e.2.1, .str e.2.2.1, .int e.2.2.2]
def ent3 (e : Str × Int × Str × Int) : D := .tup [.int e.2.1, .str e.2.2.1, .int e.2.2.2]
theorem C_TABLE_eq : C_TABLE = .tup (tab.map entD) := rfl
def look (x : Str) : Option (Str × Int × Str × Int) := tab.find? fun e => decide (e.1 = x)
theorem val_map (f : Str × Int × Str × Int → D) (x : Str) : ∀ t : List (Str × Int × Str × Int), valD (t.map fun e => ((Sum.inr e.1 : Key), f e)) (.inr x) = (t.find? fun e => decide (e.1 = x)).map f
  | [] => rfl
  | e :: t => by
    have ih := val_map f x t
    unfold valD at ih ⊢
    rw [List.map_cons, List.find?_cons, List.find?_cons]
    by_cases h : e.1 = x
    · simp [h]
    · have h' : ¬ ((Sum.inr e.1 : Key) = .inr x) := fun z => h (Sum.inr.inj z)
      simp only [h, h', decide_false]
      exact ih
theorem look_mem {x : Str} {e : Str × Int × Str × Int} (h : look x = some e) : e ∈ tab ∧ e.1 = x := by
  unfold look at h
  exact ⟨List.mem_of_find?_eq_some h, of_decide_eq_true (by have := List.find?_some h; exact this)⟩
theorem tab_ok : ∀ e ∈ tab, (e.2.2.2 = 0 ∨ e.2.2.2 = 1 ∨ e.2.2.2 = 2) ∧ e.2.2.1.length ≤ 2 ∧ (∀ c ∈ e.2.2.1.cps.toList, c = 110 ∨ c = 120) ∧ e.1.length ≤ 10 := by decide +kernel
theorem u_entry {x : Str} {n : Nat} {P : D → Nat → Prop} {E : XD} (h : P (((look x).map entD).getD .non) n) : U_entry_by [.str x] n P E := by
  unfold U_entry_by B_entry_by
  walk_at "d"
  rw [C_TABLE_eq]
  walk_at "d"
  refine ⟨by decide, dc_pure (fun d => match d with | .tup (.str y :: _) => .inr y | _ => .inr "") (fun d => d) (fun y hy => ?_) ?_⟩
  · obtain ⟨e, _, rfl⟩ := List.mem_map.mp hy
    refine ⟨_, rfl, fun n Q q => ?_, fun n Q q => ?_⟩
    · unfold entD
      walk_at "d"
      exact q _ rfl
    · walk_at "d"
      exact q
  · have e : List.foldl (fun acc x => putKD acc (match x with | .tup (.str y :: _) => (Sum.inr y : Key) | _ => .inr "") x) [] (List.map entD tab) = tab.map fun e => ((Sum.inr e.1 : Key), entD e) := by
      kernel_rfl
    rw [e]
    refine ⟨_, rfl, ?_⟩
    rw [val_map]
    exact h
theorem u_table {n : Nat} {P : D → Nat → Prop} {E : XD} (h : P (.dct (tab.map fun e => ((Sum.inr e.1 : Key), ent3 e))) n) : U__law_table [] n P E := by
  unfold U__law_table B__law_table
  walk_at "d"
  refine ⟨_, rfl, by decide, _, rfl, ?_⟩
  refine ⟨_, rfl, by decide, _, rfl, by decide +kernel, _, rfl, ?_⟩
  refine ⟨_, rfl, by decide, _, rfl, by decide +kernel, _, rfl, ?_⟩
  refine ⟨_, rfl, by decide, _, rfl, by decide +kernel, _, rfl, ?_⟩
  refine ⟨_, rfl, by decide, _, rfl, by decide +kernel, _, rfl, ?_⟩
  refine ⟨_, rfl, by decide, _, rfl, by decide +kernel, _, rfl, ?_⟩
  refine ⟨_, rfl, by decide, _, rfl, by decide +kernel, _, rfl, ?_⟩
  refine ⟨_, rfl, by decide, _, rfl, by decide +kernel, ?_⟩
  have key : ∀ z : List (Key × D), z = (tab.map fun e => ((Sum.inr e.1 : Key), ent3 e)) → P (.dct z) n := fun z hz => by rw [hz]; exact h
  exact key _ (by kernel_rfl)
theorem x_str1 : (Str.ofString "x") = ⟨#[120]⟩ := by decide +kernel
theorem cps_abcd : (Str.ofString "abcd").cps.toList = [97, 98, 99, 100] := by decide +kernel
theorem cps_pq : (Str.ofString "pq").cps.toList = [112, 113] := by decide +kernel
theorem n_str : (Str.ofString "n") = ⟨#[110]⟩ := by decide +kernel
theorem str1 (c d : Nat) : ((⟨#[c]⟩ : Str) = ⟨#[d]⟩) ↔ c = d := by
  constructor
  · intro h
    have := congrArg (fun z : Str => z.cps.toList) h
    simpa using this
  · rintro rfl; rfl
theorem u_pick {xs : List D} {n : Nat} {P : D → Nat → Prop} {E : XD} (hn : n < 1000000000) (h0 : 0 < xs.length) (h1 : xs.length < 1000000) (h : ∀ x ∈ xs, P x (n + 1)) : U__law_pick [.pen, .lst xs] n P E := by
  unfold U__law_pick B__law_pick
  walk_at "d"
  refine draw (δ := []) hn (by omega) (by omega) fun r r0 r1 => ?_
  walk_at "d"
  obtain ⟨x, hx, h2⟩ := Br.atI_lt (xs := xs) r0 r1
  exact ⟨x, hx, h x (List.mem_of_getElem? h2)⟩
theorem u_pickS {z : Str} {n : Nat} {P : D → Nat → Prop} {E : XD} (hn : n < 1000000000) (h0 : 0 < z.length) (h1 : z.length < 1000000) (h : ∀ c ∈ z.cps.toList, P (.str ⟨#[c]⟩) (n + 1)) : U__law_pick [.pen, .str z] n P E := by
  unfold U__law_pick B__law_pick
  walk_at "d"
  refine ⟨by omega, draw (δ := []) hn (by omega) (by omega) fun r r0 r1 => ?_⟩
  walk_at "d"
  have e : z.cps.toList.length = z.length := Array.length_toList
  obtain ⟨x, hx, h2⟩ := Br.atI_lt (xs := z.cps.toList) r0 (by rw [e]; exact r1)
  rw [hx]
  refine ⟨_, ?_, h x (List.mem_of_getElem? h2)⟩
  rw [if_pos (by omega)]
  rfl
def rest : Nat → Int → Int
  | 0, i => i
  | t + 1, i => rest t i / 256
def le : Nat → Int → List Int
  | 0, _ => []
  | t + 1, i => le t i ++ [rest t i % 256]
theorem le_len : ∀ (t : Nat) (i : Int), (le t i).length = t
  | 0, _ => rfl
  | t + 1, i => by
    show (le t i ++ [_]).length = _
    rw [List.length_append, le_len t i]
    rfl
theorem rest_nn : ∀ (t : Nat) {i : Int}, 0 ≤ i → 0 ≤ rest t i
  | 0, _, h => h
  | t + 1, i, h => by
    have := rest_nn t h
    show 0 ≤ rest t i / 256
    omega
def be (t : Nat) (i : Int) : List Int := (le t i).reverse
theorem u_isW {i : Int} {n : Nat} {P : D → Nat → Prop} {E : XD} (h : P (.bl true) n) : U_is_whole [.int i] n P E := by
  unfold U_is_whole B_is_whole
  walk_at "d"
  exact h
theorem u_cpInt {f : Nat} {i : Int} {n : Nat} {P : D → Nat → Prop} {E : XD} (h : P (.int i) n) : U_copied (f + 1) [.int i] n P E := by
  unfold U_copied B_copied R_copied_2 R_copied_1
  walk_at "d"
  exact h
theorem mem_intsD {lo : Int} {k : Nat} {x : D} {i : Nat} (h : (intsD lo k)[i]? = some x) : i < k ∧ x = .int (lo + i) := by
  have hl : i < k := by
    have := (List.getElem?_eq_some_iff.mp h).1
    rwa [intsD_len] at this
  rw [intsD_at hl] at h
  exact ⟨hl, (Option.some.inj h).symm⟩
theorem div256 (i : Int) : CDivW i 256 := ⟨by decide, by decide⟩
theorem u_bytes_of {i : Int} {k n : Nat} {P : D → Nat → Prop} {E : XD} (h0 : 0 ≤ i) (hk : k ≤ 100) (h1 : rest k i = 0 → P (.tup (row (be k i))) n) (h2 : rest k i ≠ 0 → E "NoNumber" [("number", .int i)] n) : U_bytes_of [.int i, .int (k : Int)] n P E := by
  unfold U_bytes_of B_bytes_of
  walk_at "d"
  refine u_isW ?_
  walk_at "d"
  rw [if_neg (by omega)]
  unfold R_bytes_of_3
  walk_at "d"
  refine ⟨⟨by omega, by omega⟩, ?_⟩
  rw [show ((k : Nat) : Int).toNat = k by omega]
  refine for_inv (fun t δ n' => n = n' ∧ ∃ z : Option Sl, δ = [some (.sh (.int i)), some (.sh (.int k)), some (.ow (row (le t i))), some (.sh (.int (rest t i))), z]) ⟨rfl, none, rfl⟩ ?_ ?_
  · rintro t x _ _ N hx ⟨rfl, z, rfl⟩ hN
    refine ⟨_, rfl, ?_⟩
    have ht := (mem_intsD hx).1
    have hl := le_len t i
    unfold L_bytes_of_1
    walk_at "d"
    refine ⟨by omega, by omega, div256 _, ?_⟩
    refine hN _ _ ⟨rfl, some (.sh x), ?_⟩
    rw [show [D.int (rest t i % 256)] = row [rest t i % 256] from rfl, row_app]
    rfl
  · rintro _ _ ⟨rfl, z, rfl⟩
    rw [intsD_len]
    unfold R_bytes_of_2
    walk_at "d"
    have hnn := rest_nn k h0
    refine iteI (fun h3 => ?_) (fun h3 => ?_)
    · refine u_cpInt ?_
      exact ⟨_, rfl, h2 (by omega)⟩
    · unfold R_bytes_of_1
      walk_at "d"
      exact h1 (by omega)
/-! ### rows as numbers -/
def Bts (xs : List Int) : Prop := ∀ b ∈ xs, 0 ≤ b ∧ b ≤ 255
def wo (xs : List Int) : Int := xs.foldl (fun a b => a * 256 + b) 0
theorem wo_snoc (xs : List Int) (b : Int) : wo (xs ++ [b]) = wo xs * 256 + b := by
  unfold wo
  rw [List.foldl_append]
  rfl
theorem take_snoc {α : Type} {xs : List α} {t : Nat} {b : α} (h : xs[t]? = some b) : xs.take (t + 1) = xs.take t ++ [b] := by
  rw [List.take_succ, h]; rfl
theorem wo_bound {xs : List Int} (hb : Bts xs) : ∀ t : Nat, t ≤ xs.length → 0 ≤ wo (xs.take t) ∧ wo (xs.take t) < 2 ^ (8 * t)
  | 0, _ => by
    rw [List.take_zero]
    exact ⟨by decide, by decide⟩
  | t + 1, h => by
    obtain ⟨h1, h2⟩ := wo_bound hb t (by omega)
    have e : xs[t]? = some xs[t] := List.getElem?_eq_getElem (by omega)
    have hbb := hb _ (List.mem_of_getElem? e)
    rw [take_snoc e, wo_snoc]
    have p : (2 : Int) ^ (8 * (t + 1)) = 2 ^ (8 * t) * 256 := by
      rw [show 8 * (t + 1) = 8 * t + 8 by omega, Int.pow_add]
      rfl
    rw [p]
    generalize (2 : Int) ^ (8 * t) = q at *
    omega
theorem mulW {i j : Int} {k : Nat} (h0 : 0 ≤ i) (h : i < 2 ^ k) (hj : j.natAbs.log2 ≤ 100) (hk : k ≤ 100000) : CMulW i j := by
  have h1 : i.natAbs < 2 ^ k := by
    have e : ((2 ^ k : Nat) : Int) = 2 ^ k := by norm_cast
    rw [← e] at h
    omega
  have := log2_lt h1
  show i.natAbs.log2 + j.natAbs.log2 < 1000000
  omega
theorem u_number_of {xs : List Int} {n : Nat} {P : D → Nat → Prop} {E : XD} (hb : Bts xs) (hl : xs.length ≤ 1000) (h : P (.int (wo xs)) n) : U_number_of [.tup (row xs)] n P E := by
  unfold U_number_of B_number_of
  walk_at "d"
  refine for_inv (fun t δ n' => n = n' ∧ ∃ z : Option Sl, δ = [some (.sh (.tup (row xs))), some (.sh (.int (wo (xs.take t)))), z]) ⟨rfl, none, rfl⟩ ?_ ?_
  · rintro t x _ _ N hx ⟨rfl, z, rfl⟩ hN
    obtain ⟨b, hb1, rfl⟩ := at_row hx
    have ht := (List.getElem?_eq_some_iff.mp hb1).1
    obtain ⟨w1, w2⟩ := wo_bound hb t (by omega)
    refine ⟨_, rfl, ?_⟩
    unfold L_number_of_1
    walk_at "d"
    refine ⟨mulW w1 w2 (by decide) (by omega), hN _ _ ⟨rfl, some (.sh (.int b)), ?_⟩⟩
    rw [take_snoc hb1, wo_snoc]
  · rintro _ _ ⟨rfl, z, rfl⟩
    rw [row_len, List.take_length]
    unfold R_number_of_1
    walk_at "d"
    exact h
end C05

namespace C05
open PySem L2 Dn Tr
local macro_rules | `(tactic| walk_at "d") => `(tactic| try simp only [dDef, shP, gIntS, gListS, gMulS, dSplit, dStarts, gCD, gCDIn, gCDNotIn, gCDGet, dSIdx, dPutO, dOwnD0, dSee, dIfO, dCallO0, dCallO, dActS, dRetS, dRetO, dDefS, dLamS, Sl.out, startD, dSeq, dNext, dSet, dSetO, dPar, dRet, dRetN, dIfS, dExpr, dAug, dVar, dC, dNil, dCons, dApp, dCall0, dCall, dAnd, dOr, dIf, dChain, dNew, dOwn, dSh, dOwnL, dOwnF, dUn, dBor, frz, frzB, dMut, dRaise, dTry, dIxO, dCat, dLam, dLamDef, dAct, y_isDict0, y_isDict1, y_isDict2, y_isDict3, y_isDict4, y_isDict5, y_isDict6, y_keys, y_revL, y_sum1, y_sum2, y_xf, y_isX, dMakeX, dMakeX0, dMakeK, dEqT, dLenO, dBorL, frzL, dDct0, y_isInt6, y_isBool6, y_isStr6, y_isTuple6, y_isList6, y_isSeq6, y_len4, y_inS, y_notInS, y_in1, y_in2, y_ne0, y_ne0L, y_eq0, y_isB, y_isNotB, y_revS, y_addN1, y_addN2, y_subN1, y_subN2, y_subN3, y_strN1, y_strN2, y_zipS, y_dget, y_dnotin, y_din, y_key1, y_key2, eqD_bl', dUnp, dGet1, dSortD, dJoin, dUpper, dDisp, dDispO, dUpd, dDc, x_tg3, x_setall1, dFst, dMake, dInit, dCmpO, dFor, dIt, dLc, wipeD, dSl, dNoB, dB, D.isN, D.flat, putD,
  x_add1, x_add2, x_add3, x_add4, x_i2, x_sub, x_lt, x_le, x_gt, x_ge, x_mod, x_div, x_pow, x_mul1, x_mul2, x_mul3, x_neg, x_not, x_tupl, x_list, x_len1, x_len2, x_len3, x_abs, x_min, x_max, x_int1, x_int2, x_tuple1, x_tuple2, x_listof1, x_listof2, x_iter1, x_iter2, x_iter3, x_range, x_range2, x_enum1, x_enum2, x_enum3, x_enumK, x_isi, x_isown, x_is, x_isnot, x_revT, x_sl1, x_sl2, x_sl3, x_ix1, x_ix2, x_ix3, x_fld, x_catL, x_append, x_extend1, x_extend2, x_insert, x_tg1, x_tg2, x_tg3, x_setall1, x_eq, x_ne, x_isInt0, x_isInt1, x_isInt2, x_isInt3, x_isInt4, x_isInt5, x_isBool0, x_isBool1, x_isBool2, x_isBool3, x_isBool4, x_isBool5, x_isStr0, x_isStr1, x_isStr2, x_isStr3, x_isStr4, x_isStr5, x_isTuple0, x_isTuple1, x_isTuple2, x_isTuple3, x_isTuple4, x_isTuple5, x_isList0, x_isList1, x_isList2, x_isList3, x_isList4, x_isList5, x_isSeq0, x_isSeq1, x_isSeq2, x_isSeq3, x_isSeq4, x_isSeq5, x_setall0,
  List.map_cons, List.map_nil, List.length_cons, List.length_nil, List.replicate_succ, List.replicate_zero, List.cons_append, List.nil_append, List.append_nil, Nat.reduceSub, Nat.reduceAdd, Nat.sub_self, Nat.zero_add, List.getElem?_cons_zero, List.getElem?_cons_succ, List.set_cons_zero, List.set_cons_succ, Option.some.injEq, Sl.sh.injEq, Sl.ow.injEq, D.bl.injEq, D.int.injEq, D.tup.injEq, D.lst.injEq, D.obj.injEq, exists_eq_left', exists_eq_left, true_and, and_true, Option.map_some, reduceCtorEq, if_true, if_false, ite_true, ite_false, Bool.not_true, Bool.not_false, decide_eq_true_eq, Bool.false_eq_true, eq_self_iff_true, List.mem_singleton, List.lookup, beq_self_eq_true, Bool.true_eq_false, atI0, atI1, atI2, atI3, atI4, eqD_int, eqD_str, eqD_row, eqD_row0, ex_if, sizeLine_eq, Nat.reduceLeDiff, row_len, row_app, row_cut, row_rev, Bool.not_eq_true', decide_eq_false_iff_not, List.length_map, List.length_append, Nat.reduceLT])
local macro_rules | `(tactic| walk_at "c") => `(tactic| repeat (first | assumption | rw [if_neg (by decide +kernel)] | rw [if_pos (by decide +kernel)] | refine ⟨by decide +kernel, ?_⟩ | refine ⟨⟨by decide, by decide⟩, ?_⟩ | refine ⟨_, rfl, ?_⟩))
def lt : List (Str × Int × Str) := [(("" : Str), (0 : Int), ("" : Str)), (("n" : Str), (0 : Int), ("a" : Str)), (("n" : Str), (1 : Int), ("b" : Str)), (("n" : Str), (2 : Int), ("c" : Str)), (("n" : Str), (3 : Int), ("d" : Str)), (("x" : Str), (0 : Int), ("p" : Str)), (("x" : Str), (1 : Int), ("q" : Str)), (("nn" : Str), (0 : Int), ("aa" : Str)), (("nn" : Str), (1 : Int), ("ab" : Str)), (("nn" : Str), (2 : Int), ("ac" : Str)), (("nn" : Str), (3 : Int), ("ad" : Str)), (("nn" : Str), (4 : Int), ("ba" : Str)), (("nn" : Str), (5 : Int), ("bb" : Str)), (("nn" : Str), (6 : Int), ("bc" : Str)), (("nn" : Str), (7 : Int), ("bd" : Str)), (("nn" : Str), (8 : Int), ("ca" : Str)), (("nn" : Str), (9 : Int), ("cb" : Str)), (("nn" : Str), (10 : Int), ("cc" : Str)), (("nn" : Str), (11 : Int), ("cd" : Str)), (("nn" : Str), (12 : Int), ("da" : Str)), (("nn" : Str), (13 : Int), ("db" : Str)), (("nn" : Str), (14 : Int), ("dc" : Str)), (("nn" : Str), (15 : Int), ("dd" : Str)), (("xx" : Str), (0 : Int), ("pp" : Str)), (("xx" : Str), (1 : Int), ("pq" : Str)), (("xx" : Str), (2 : Int), ("qp" : Str)), (("xx" : Str), (3 : Int), ("qq" : Str)), (("xn" : Str), (0 : Int), ("pa" : Str)), (("xn" : Str), (1 : Int), ("pb" : Str)), (("xn" : Str), (2 : Int), ("pc" : Str)), (("xn" : Str), (3 : Int), ("pd" : Str)), (("xn" : Str), (4 : Int), ("qa" : Str)), (("xn" : Str), (5 : Int), ("qb" : Str)), (("xn" : Str), (6 : Int), ("qc" : Str)), (("xn" : Str), (7 : Int), ("qd" : Str)), (("nx" : Str), (0 : Int), ("ap" : Str)), (("nx" : Str), (1 : Int), ("bp" : Str)), (("nx" : Str), (2 : Int), ("cp" : Str)), (("nx" : Str), (3 : Int), ("dp" : Str)), (("nx" : Str), (4 : Int), ("aq" : Str)), (("nx" : Str), (5 : Int), ("bq" : Str)), (("nx" : Str), (6 : Int), ("cq" : Str)), (("nx" : Str), (7 : Int), ("dq" : Str))]
def spanOf (k : Str) : Nat := if k = "" then 1 else if k = "n" then 4 else if k = "x" then 2 else if k = "nn" then 16 else if k = "xx" then 4 else 8
theorem span_gCD : ∀ e ∈ tab, valD C_SPANS (.inr e.2.2.1) = some (.int (spanOf e.2.2.1)) := by
  intro e he
  simp only [tab, List.mem_cons, List.not_mem_nil, or_false] at he
  rcases he with rfl | rfl | rfl | rfl | rfl | rfl | rfl | rfl | rfl | rfl | rfl | rfl | rfl | rfl | rfl | rfl | rfl | rfl | rfl | rfl | rfl | rfl | rfl | rfl | rfl | rfl | rfl | rfl | rfl | rfl <;> kernel_rfl
theorem u_letters_by {k l : Str} {s : Int} {n : Nat} {P : D → Nat → Prop} {E : XD} (hm : (k, s, l) ∈ lt) (h : P (.str l) n) : U_letters_by [.str k, .int s] n P E := by
  unfold U_letters_by B_letters_by R_letters_by_5 R_letters_by_4 R_letters_by_3 R_letters_by_2 R_letters_by_1
  simp only [lt, List.mem_cons, List.not_mem_nil, or_false] at hm
  rcases hm with h0 | h0 | h0 | h0 | h0 | h0 | h0 | h0 | h0 | h0 | h0 | h0 | h0 | h0 | h0 | h0 | h0 | h0 | h0 | h0 | h0 | h0 | h0 | h0 | h0 | h0 | h0 | h0 | h0 | h0 | h0 | h0 | h0 | h0 | h0 | h0 | h0 | h0 | h0 | h0 | h0 | h0 | h0
  all_goals (cases h0)
  all_goals (walk_at "d")
  all_goals (walk_at "c")
  all_goals (try exact h)
def six : List Nat := [97, 98, 99, 100, 112, 113]
def fits1 (c k : Nat) : Bool := decide (c ∈ if k = 110 then [97, 98, 99, 100] else [112, 113])
def letOk (l k : Str) : Bool := decide (l.length = k.length) && (l.cps.toList.zip k.cps.toList).all fun p => fits1 p.1 p.2
def fitAt (l k : Str) : D → Bool
  | .int i => (match l.cps.toList[i.toNat]?, k.cps.toList[i.toNat]? with | some c, some q => fits1 c q | _, _ => false)
  | _ => false
def kinds : List Str := [("" : Str), ("n" : Str), ("x" : Str), ("nn" : Str), ("xx" : Str), ("xn" : Str), ("nx" : Str)]
theorem kind_ok : ∀ k ∈ kinds, k.length ≤ 2 ∧ ∀ c ∈ k.cps.toList, c = 110 ∨ c = 120 := by decide +kernel
theorem lt_fit : ∀ e ∈ lt, letOk e.2.2 e.1 = true ∧ e.1 ∈ kinds := by decide +kernel
theorem lt_uniq : ∀ e ∈ lt, ∀ f ∈ lt, e.1 = f.1 → (e.2.1 = f.2.1 ↔ e.2.2 = f.2.2) := by decide +kernel
end C05

namespace C05
open PySem L2 Dn Tr
local macro_rules | `(tactic| walk_at "d") => `(tactic| try simp only [dDef, shP, gIntS, gListS, gMulS, dSplit, dStarts, gCD, gCDIn, gCDNotIn, gCDGet, dSIdx, dPutO, dOwnD0, dSee, dIfO, dCallO0, dCallO, dActS, dRetS, dRetO, dDefS, dLamS, Sl.out, startD, dSeq, dNext, dSet, dSetO, dPar, dRet, dRetN, dIfS, dExpr, dAug, dVar, dC, dNil, dCons, dApp, dCall0, dCall, dAnd, dOr, dIf, dChain, dNew, dOwn, dSh, dOwnL, dOwnF, dUn, dBor, frz, frzB, dMut, dRaise, dTry, dIxO, dCat, dLam, dLamDef, dAct, y_isDict0, y_isDict1, y_isDict2, y_isDict3, y_isDict4, y_isDict5, y_isDict6, y_keys, y_revL, y_sum1, y_sum2, y_xf, y_isX, dMakeX, dMakeX0, dMakeK, dEqT, dLenO, dBorL, frzL, dDct0, y_isInt6, y_isBool6, y_isStr6, y_isTuple6, y_isList6, y_isSeq6, y_len4, y_inS, y_notInS, y_in1, y_in2, y_ne0, y_ne0L, y_eq0, y_isB, y_isNotB, y_revS, y_addN1, y_addN2, y_subN1, y_subN2, y_subN3, y_strN1, y_strN2, y_zipS, y_dget, y_dnotin, y_din, y_key1, y_key2, eqD_bl', dUnp, dGet1, dSortD, dJoin, dUpper, dDisp, dDispO, dUpd, dDc, x_tg3, x_setall1, dFst, dMake, dInit, dCmpO, dFor, dIt, dLc, wipeD, dSl, dNoB, dB, D.isN, D.flat, putD,
  x_add1, x_add2, x_add3, x_add4, x_i2, x_sub, x_lt, x_le, x_gt, x_ge, x_mod, x_div, x_pow, x_mul1, x_mul2, x_mul3, x_neg, x_not, x_tupl, x_list, x_len1, x_len2, x_len3, x_abs, x_min, x_max, x_int1, x_int2, x_tuple1, x_tuple2, x_listof1, x_listof2, x_iter1, x_iter2, x_iter3, x_range, x_range2, x_enum1, x_enum2, x_enum3, x_enumK, x_isi, x_isown, x_is, x_isnot, x_revT, x_sl1, x_sl2, x_sl3, x_ix1, x_ix2, x_ix3, x_fld, x_catL, x_append, x_extend1, x_extend2, x_insert, x_tg1, x_tg2, x_tg3, x_setall1, x_eq, x_ne, x_isInt0, x_isInt1, x_isInt2, x_isInt3, x_isInt4, x_isInt5, x_isBool0, x_isBool1, x_isBool2, x_isBool3, x_isBool4, x_isBool5, x_isStr0, x_isStr1, x_isStr2, x_isStr3, x_isStr4, x_isStr5, x_isTuple0, x_isTuple1, x_isTuple2, x_isTuple3, x_isTuple4, x_isTuple5, x_isList0, x_isList1, x_isList2, x_isList3, x_isList4, x_isList5, x_isSeq0, x_isSeq1, x_isSeq2, x_isSeq3, x_isSeq4, x_isSeq5, x_setall0,
  List.map_cons, List.map_nil, List.length_cons, List.length_nil, List.replicate_succ, List.replicate_zero, List.cons_append, List.nil_append, List.append_nil, Nat.reduceSub, Nat.reduceAdd, Nat.sub_self, Nat.zero_add, List.getElem?_cons_zero, List.getElem?_cons_succ, List.set_cons_zero, List.set_cons_succ, Option.some.injEq, Sl.sh.injEq, Sl.ow.injEq, D.bl.injEq, D.int.injEq, D.tup.injEq, D.lst.injEq, D.obj.injEq, exists_eq_left', exists_eq_left, true_and, and_true, Option.map_some, reduceCtorEq, if_true, if_false, ite_true, ite_false, Bool.not_true, Bool.not_false, decide_eq_true_eq, Bool.false_eq_true, eq_self_iff_true, List.mem_singleton, List.lookup, beq_self_eq_true, Bool.true_eq_false, atI0, atI1, atI2, atI3, atI4, eqD_int, eqD_str, eqD_row, eqD_row0, ex_if, sizeLine_eq, Nat.reduceLeDiff, row_len, row_app, row_cut, row_rev, Bool.not_eq_true', decide_eq_false_iff_not, List.length_map, List.length_append, Nat.reduceLT])
local macro_rules | `(tactic| walk_at "c") => `(tactic| repeat (first | assumption | rw [if_neg (by decide +kernel)] | rw [if_pos (by decide +kernel)] | refine ⟨by decide +kernel, ?_⟩ | refine ⟨⟨by decide, by decide⟩, ?_⟩ | refine ⟨_, rfl, ?_⟩))
/-! ### the word at a byte -/
abbrev Ro := Str × Int × Str × Int
def inB (b : Int) (e : Ro) : Bool := decide (e.2.1 ≤ b) && decide (b < e.2.1 + (spanOf e.2.2.1 : Int))
def entAt (b : Int) : Option Ro := tab.find? (inB b)
def near : List Str := [("go.short" : Str), ("call.short" : Str), ("if.short" : Str)]
theorem C_NEAR_eq : C_NEAR = .tup (near.map .str) := rfl
def ltOf (k : Str) (s : Int) : Str := ((lt.find? fun z => decide (z.1 = k) && decide (z.2.1 = s)).map (·.2.2)).getD ""
theorem ltOf_ok : ∀ e ∈ tab, ∀ s ∈ List.range (spanOf e.2.2.1), (e.2.2.1, (s : Int), ltOf e.2.2.1 (s : Int)) ∈ lt := by decide +kernel
theorem tab_near : ∀ e ∈ tab, (e.1 ∈ near → e.2.2.2 = 1) ∧ (e.2.2.2 = 0 ∨ e.2.2.2 = 1 ∨ e.2.2.2 = 2) ∧ e.2.2.1 ∈ kinds ∧ 0 ≤ e.2.1 ∧ spanOf e.2.2.1 ≤ 16 ∧ e.1.length ≤ 10 := by decide +kernel
theorem entAt_mem {b : Int} {e : Ro} (h : entAt b = some e) : e ∈ tab ∧ e.2.1 ≤ b ∧ b < e.2.1 + (spanOf e.2.2.1 : Int) := by
  refine ⟨List.mem_of_find?_eq_some h, ?_⟩
  have := List.find?_some h
  unfold inB at this
  simpa using this
theorem entAt_lt {b : Int} {e : Ro} (h : entAt b = some e) : (e.2.2.1, b - e.2.1, ltOf e.2.2.1 (b - e.2.1)) ∈ lt := by
  obtain ⟨h1, h2, h3⟩ := entAt_mem h
  have := ltOf_ok e h1 (b - e.2.1).toNat (List.mem_range.mpr (by omega))
  rw [show (((b - e.2.1).toNat : Nat) : Int) = b - e.2.1 by omega] at this
  exact this
def inBD (b : Int) : D → Bool
  | .tup [_, .int f, .str k, _] => decide (f ≤ b) && decide (b < f + (spanOf k : Int))
  | _ => false
theorem filter_ent (b : Int) : ∀ t : List Ro, ((t.map entD).filter (inBD b)).map (fun d => d) = (t.filter (inB b)).map entD
  | [] => rfl
  | e :: t => by
    have h : inBD b (entD e) = inB b e := rfl
    rw [List.map_cons]
    cases q : inB b e with
    | true =>
      rw [List.filter_cons_of_pos (by rw [h]; exact q), List.filter_cons_of_pos q, List.map_cons, List.map_cons, filter_ent b t]
    | false =>
      rw [List.filter_cons_of_neg (by rw [h, q]; exact Bool.false_ne_true), List.filter_cons_of_neg (by rw [q]; exact Bool.false_ne_true), filter_ent b t]
theorem u_entry_at {b : Int} {n : Nat} {P : D → Nat → Prop} {E : XD} (h : P (match entAt b with | some e => entD e | none => .non) n) : U_entry_at [.int b] n P E := by
  unfold U_entry_at B_entry_at
  walk_at "d"
  rw [C_TABLE_eq]
  walk_at "d"
  refine ⟨by decide, lc_filter (inBD b) (fun d => d) (fun x hx => ?_) ?_⟩
  · obtain ⟨e, he, rfl⟩ := List.mem_map.mp hx
    have hs := span_gCD e he
    refine ⟨_, rfl, fun n Q q => ?_, fun n Q _ q => ?_⟩
    · have hb : inBD b (entD e) = (decide (e.2.1 ≤ b) && decide (b < e.2.1 + (spanOf e.2.2.1 : Int))) := rfl
      rw [hb] at q
      unfold entD
      walk_at "d"
      refine iteI (fun h1 => ?_) (fun h1 => ?_)
      · rw [hs]
        refine ⟨_, rfl, ?_⟩
        walk_at "d"
        simpa [h1] using q
      · simpa [h1] using q
    · walk_at "d"
      exact q
  · rw [filter_ent]
    unfold entAt at h
    rw [← List.head?_filter] at h
    cases q : tab.filter (inB b) with
    | nil =>
      rw [q] at h
      walk_at "d"
      exact h
    | cons e r =>
      rw [q] at h
      walk_at "d"
      exact h
/-- the number behind a word's byte -/
def numD (e : Ro) (xs : List Int) (s : Nat) : D :=
  if e.2.2.2 = 0 then .non else if e.2.2.2 = 1 then .int (let v := xs.getD (s + 1) 0; if e.1 ∈ near ∧ v > 127 then v - 256 else v) else .int (xs.getD (s + 1) 0 * 256 + xs.getD (s + 2) 0)
theorem getD_at {xs : List Int} {i : Nat} (h : i < xs.length) : xs.getD i 0 = xs[i] := by simp [List.getD, List.getElem?_eq_getElem h]
theorem cut1 {xs : List Int} {i : Nat} (h : i < xs.length) : cut xs (some (i : Int)) (some ((i + 1 : Nat) : Int)) = [xs.getD i 0] := by
  rw [cut_mid (by omega) (by omega), show ((i : Nat) : Int).toNat = i by omega, show ((i + 1 : Nat) : Int).toNat - i = 1 by omega, List.drop_eq_getElem_cons h, List.take_succ_cons, List.take_zero, getD_at h]
theorem cut2 {xs : List Int} {i : Nat} (h : i + 1 < xs.length) : cut xs (some (i : Int)) (some ((i + 2 : Nat) : Int)) = [xs.getD i 0, xs.getD (i + 1) 0] := by
  rw [cut_mid (by omega) (by omega), show ((i : Nat) : Int).toNat = i by omega, show ((i + 2 : Nat) : Int).toNat - i = 2 by omega, List.drop_eq_getElem_cons (show i < xs.length by omega), List.drop_eq_getElem_cons h, List.take_succ_cons, List.take_succ_cons, List.take_zero, getD_at h, getD_at (show i < xs.length by omega)]
theorem getD_bts {xs : List Int} (hb : Bts xs) (i : Nat) : 0 ≤ xs.getD i 0 ∧ xs.getD i 0 ≤ 255 := by
  by_cases h : i < xs.length
  · have : xs.getD i 0 = xs[i] := by simp [List.getD, List.getElem?_eq_getElem h]
    rw [this]
    exact hb _ (List.getElem_mem h)
  · have : xs.getD i 0 = 0 := by simp [List.getD, List.getElem?_eq_none (show xs.length ≤ i by omega)]
    rw [this]; omega
def wdD (e : Ro) (b : Int) (xs : List Int) (s : Nat) : D := .tup [.str e.1, .str (ltOf e.2.2.1 (b - e.2.1)), numD e xs s]
def wd (xs : List Int) (s : Nat) : Except Nat (D × Nat) :=
  match xs[s]? with
  | none => .error s
  | some b => match entAt b with
    | none => .error s
    | some e => if s + 1 + e.2.2.2.toNat > xs.length then .error xs.length else .ok (wdD e b xs s, s + 1 + e.2.2.2.toNat)
theorem inF_strs (x : Str) : ∀ ys : List Str, inF (.str x) (ys.map .str) = decide (x ∈ ys)
  | [] => rfl
  | y :: ys => by
    have ih := inF_strs x ys
    unfold inF at ih ⊢
    rw [List.map_cons, List.any_cons, ih]
    show (y == x || _) = _
    by_cases h : y = x
    · subst h; simp
    · have h2 : ¬ x = y := fun z => h z.symm
      have h3 : (y == x) = false := by
        rw [beq_eq_false_iff_ne]; exact h
      rw [h3]
      simp [h2]
theorem allF_strs : ∀ ys : List Str, (ys.map D.str).all D.flat = true
  | [] => rfl
  | y :: ys => by rw [List.map_cons, List.all_cons, allF_strs ys]; rfl
theorem u_word_at {xs : List Int} {s n : Nat} {P : D → Nat → Prop} {E : XD} (hb : Bts xs) (hl : xs.length ≤ 1000) (h1 : ∀ d k, wd xs s = .ok (d, k) → P (.tup [d, .int (k : Nat)]) n) (h2 : ∀ k, wd xs s = .error k → E "NoWord" [("at", .int (k : Nat))] n) : U_word_at [.tup (row xs), .int (s : Int)] n P E := by
  unfold U_word_at B_word_at
  walk_at "d"
  rw [if_pos (by omega)]
  refine iteI (fun hs => ?_) (fun hs => ?_)
  · have e1 : xs[s]? = some xs[s] := List.getElem?_eq_getElem (by omega)
    generalize xs[s]'(by omega) = b at *
    rw [Dn.atI_nat (row_at e1)]
    refine ⟨_, rfl, u_entry_at ?_⟩
    cases he : entAt b with
    | none =>
      walk_at "d"
      refine ⟨_, rfl, h2 _ ?_⟩
      unfold wd
      rw [e1]
      simp only [he]
    | some e =>
      obtain ⟨te, h3, h4⟩ := entAt_mem he
      have tn := tab_near e te
      unfold entD
      walk_at "d"
      unfold R_word_at_3
      walk_at "d"
      have hr : ((s : Int) + 1 + e.2.2.2) = ((s + 1 + e.2.2.2.toNat : Nat) : Int) := by omega
      rw [hr]
      refine iteI (fun h5 => ?_) (fun h5 => ?_)
      · refine ⟨_, rfl, h2 _ ?_⟩
        unfold wd
        rw [e1]
        simp only [he]
        rw [if_pos (by omega)]
      · have hw : wd xs s = .ok (wdD e b xs s, s + 1 + e.2.2.2.toNat) := by
          unfold wd
          rw [e1]
          simp only [he]
          rw [if_neg (by omega)]
        have fin : ∀ nd, nd = numD e xs s → R_word_at_1 { nx := fun x n' => P D.non n', rt := shP P, bk := fun x x_1 => False, ct := fun x x_1 => False, xe := fun x => E }
            [some (Sl.sh (D.tup (row xs))), some (Sl.sh (D.int (s : Int))), some (.sh (entD e)), some (.sh (.str e.1)), some (.sh (.int e.2.1)), some (.sh (.str e.2.2.1)), some (.sh (.int e.2.2.2)), some (.sh (.int ((s + 1 + e.2.2.2.toNat : Nat) : Int))), some (.sh nd)] n := by
          rintro _ rfl
          unfold R_word_at_1
          walk_at "d"
          rw [Dn.atI_nat (row_at e1)]
          refine ⟨_, rfl, ?_⟩
          walk_at "d"
          refine u_letters_by (entAt_lt he) ?_
          exact h1 _ _ hw
        unfold R_word_at_2
        walk_at "d"
        have b1 := getD_bts hb (s + 1)
        have b2 := getD_bts hb (s + 2)
        refine iteI (fun h6 => ?_) (fun h6 => ?_)
        · rw [show ((s : Int) + 1) = ((s + 1 : Nat) : Int) by omega]
          rcases (show e.2.2.2 = 1 ∨ e.2.2.2 = 2 by omega) with h7 | h7
          · rw [h7] at h5 ⊢
            rw [show (s + 1 + (1 : Int).toNat) = s + 1 + 1 by rfl] at h5 ⊢
            rw [cut1 (by omega)]
            refine u_number_of (fun q hq => by rw [List.mem_singleton] at hq; rw [hq]; exact b1) (by simp) ?_
            rw [show wo [xs.getD (s + 1) 0] = xs.getD (s + 1) 0 by unfold wo; simp, C_NEAR_eq]
            have hnd : numD e xs s = .int (if e.1 ∈ near ∧ xs.getD (s + 1) 0 > 127 then xs.getD (s + 1) 0 - 256 else xs.getD (s + 1) 0) := by
              unfold numD
              rw [if_neg (by omega), if_pos h7]
            rw [hnd, h7] at fin
            walk_at "d"
            refine ⟨allF_strs near, ?_⟩
            rw [inF_strs]
            walk_at "d"
            refine iteI (fun h8 => ?_) (fun h8 => ?_)
            · refine iteI (fun h9 => ?_) (fun h9 => ?_)
              · exact fin _ (by rw [if_pos ⟨h8, h9⟩])
              · exact fin _ (by rw [if_neg (fun z => h9 z.2)])
            · exact fin _ (by rw [if_neg (fun z => h8 z.1)])
          · rw [h7] at h5 ⊢
            rw [show (s + 1 + (2 : Int).toNat) = s + 1 + 2 by rfl] at h5 ⊢
            rw [cut2 (by omega)]
            refine u_number_of (fun q hq => by simp only [List.mem_cons, List.not_mem_nil, or_false] at hq; rcases hq with rfl | rfl; exact b1; exact b2) (by simp) ?_
            rw [show wo [xs.getD (s + 1) 0, xs.getD (s + 1 + 1) 0] = xs.getD (s + 1) 0 * 256 + xs.getD (s + 2) 0 by unfold wo; simp, C_NEAR_eq]
            have hnd : numD e xs s = .int (xs.getD (s + 1) 0 * 256 + xs.getD (s + 2) 0) := by
              unfold numD
              rw [if_neg (by omega), if_neg (by omega)]
            rw [hnd, h7] at fin
            walk_at "d"
            refine ⟨allF_strs near, ?_⟩
            rw [inF_strs]
            walk_at "d"
            rw [if_neg (fun z => by have := tn.1 z; omega)]
            exact fin _ rfl
        · have hnd : numD e xs s = .non := by
            unfold numD
            rw [if_pos (by omega)]
          rw [hnd] at fin
          rw [C_NEAR_eq]
          walk_at "d"
          refine ⟨allF_strs near, ?_⟩
          rw [inF_strs]
          walk_at "d"
          rw [if_neg (fun z => by have := tn.1 z; omega)]
          exact fin _ rfl
  · refine ⟨_, rfl, h2 _ ?_⟩
    unfold wd
    rw [List.getElem?_eq_none (by omega)]
end C05

namespace C05
open PySem L2 Dn Tr
local macro_rules | `(tactic| walk_at "d") => `(tactic| try simp only [dDef, shP, gIntS, gListS, gMulS, dSplit, dStarts, gCD, gCDIn, gCDNotIn, gCDGet, dSIdx, dPutO, dOwnD0, dSee, dIfO, dCallO0, dCallO, dActS, dRetS, dRetO, dDefS, dLamS, Sl.out, startD, dSeq, dNext, dSet, dSetO, dPar, dRet, dRetN, dIfS, dExpr, dAug, dVar, dC, dNil, dCons, dApp, dCall0, dCall, dAnd, dOr, dIf, dChain, dNew, dOwn, dSh, dOwnL, dOwnF, dUn, dBor, frz, frzB, dMut, dRaise, dTry, dIxO, dCat, dLam, dLamDef, dAct, y_isDict0, y_isDict1, y_isDict2, y_isDict3, y_isDict4, y_isDict5, y_isDict6, y_keys, y_revL, y_sum1, y_sum2, y_xf, y_isX, dMakeX, dMakeX0, dMakeK, dEqT, dLenO, dBorL, frzL, dDct0, y_isInt6, y_isBool6, y_isStr6, y_isTuple6, y_isList6, y_isSeq6, y_len4, y_inS, y_notInS, y_in1, y_in2, y_ne0, y_ne0L, y_eq0, y_isB, y_isNotB, y_revS, y_addN1, y_addN2, y_subN1, y_subN2, y_subN3, y_strN1, y_strN2, y_zipS, y_dget, y_dnotin, y_din, y_key1, y_key2, eqD_bl', dUnp, dGet1, dSortD, dJoin, dUpper, dDisp, dDispO, dUpd, dDc, x_tg3, x_setall1, dFst, dMake, dInit, dCmpO, dFor, dIt, dLc, wipeD, dSl, dNoB, dB, D.isN, D.flat, putD,
  x_add1, x_add2, x_add3, x_add4, x_i2, x_sub, x_lt, x_le, x_gt, x_ge, x_mod, x_div, x_pow, x_mul1, x_mul2, x_mul3, x_neg, x_not, x_tupl, x_list, x_len1, x_len2, x_len3, x_abs, x_min, x_max, x_int1, x_int2, x_tuple1, x_tuple2, x_listof1, x_listof2, x_iter1, x_iter2, x_iter3, x_range, x_range2, x_enum1, x_enum2, x_enum3, x_enumK, x_isi, x_isown, x_is, x_isnot, x_revT, x_sl1, x_sl2, x_sl3, x_ix1, x_ix2, x_ix3, x_fld, x_catL, x_append, x_extend1, x_extend2, x_insert, x_tg1, x_tg2, x_tg3, x_setall1, x_eq, x_ne, x_isInt0, x_isInt1, x_isInt2, x_isInt3, x_isInt4, x_isInt5, x_isBool0, x_isBool1, x_isBool2, x_isBool3, x_isBool4, x_isBool5, x_isStr0, x_isStr1, x_isStr2, x_isStr3, x_isStr4, x_isStr5, x_isTuple0, x_isTuple1, x_isTuple2, x_isTuple3, x_isTuple4, x_isTuple5, x_isList0, x_isList1, x_isList2, x_isList3, x_isList4, x_isList5, x_isSeq0, x_isSeq1, x_isSeq2, x_isSeq3, x_isSeq4, x_isSeq5, x_setall0,
  List.map_cons, List.map_nil, List.length_cons, List.length_nil, List.replicate_succ, List.replicate_zero, List.cons_append, List.nil_append, List.append_nil, Nat.reduceSub, Nat.reduceAdd, Nat.sub_self, Nat.zero_add, List.getElem?_cons_zero, List.getElem?_cons_succ, List.set_cons_zero, List.set_cons_succ, Option.some.injEq, Sl.sh.injEq, Sl.ow.injEq, D.bl.injEq, D.int.injEq, D.tup.injEq, D.lst.injEq, D.obj.injEq, exists_eq_left', exists_eq_left, true_and, and_true, Option.map_some, reduceCtorEq, if_true, if_false, ite_true, ite_false, Bool.not_true, Bool.not_false, decide_eq_true_eq, Bool.false_eq_true, eq_self_iff_true, List.mem_singleton, List.lookup, beq_self_eq_true, Bool.true_eq_false, atI0, atI1, atI2, atI3, atI4, eqD_int, eqD_str, eqD_row, eqD_row0, ex_if, sizeLine_eq, Nat.reduceLeDiff, row_len, row_app, row_cut, row_rev, Bool.not_eq_true', decide_eq_false_iff_not, List.length_map, List.length_append, Nat.reduceLT])
local macro_rules | `(tactic| walk_at "c") => `(tactic| repeat (first | assumption | rw [if_neg (by decide +kernel)] | rw [if_pos (by decide +kernel)] | refine ⟨by decide +kernel, ?_⟩ | refine ⟨⟨by decide, by decide⟩, ?_⟩ | refine ⟨_, rfl, ?_⟩))
def isW : D → Bool
  | .int _ => true
  | _ => false
def inI (lo hi : Int) : D → Bool
  | .int i => decide (lo ≤ i) && decide (i ≤ hi)
  | _ => false
theorem u_isWD {d : D} {n : Nat} {P : D → Nat → Prop} {E : XD} (hd : Pl d) (h : P (.bl (isW d)) n) : U_is_whole [d] n P E := by
  unfold U_is_whole B_is_whole
  cases d with
  | obj _ _ => exact hd.elim
  | exc _ _ => exact hd.elim
  | pen => exact hd.elim
  | scr _ => exact hd.elim
  | fn _ _ _ => exact hd.elim
  | _ =>
    walk_at "d"
    exact h
theorem u_isF {d : D} {lo hi : Int} {n : Nat} {P : D → Nat → Prop} {E : XD} (hd : Pl d) (h : P (.bl (inI lo hi d)) n) : U_is_from [d, .int lo, .int hi] n P E := by
  unfold U_is_from B_is_from
  walk_at "d"
  refine u_isWD hd ?_
  cases d with
  | int i =>
    refine ⟨true, rfl, ?_⟩
    walk_at "d"
    refine iteI (fun h1 => ?_) (fun h1 => ?_)
    · simpa [inI, h1] using h
    · simpa [inI, h1] using h
  | _ => exact ⟨false, rfl, h⟩
def letOkD (k : Str) : D → Bool
  | .str l => decide (l.length = k.length) && (l.cps.toList.zip k.cps.toList).all fun p => fits1 p.1 p.2
  | _ => false
def pairOk : D → Bool
  | .tup [.str a, .str b] => match a.cps.toList, b.cps.toList with
    | [c], [k] => fits1 c k
    | _, _ => false
  | _ => false
theorem zip_signs (l k : Str) : zipD (signs l) (signs k) = (l.cps.toList.zip k.cps.toList).map fun p => .tup [.str ⟨#[p.1]⟩, .str ⟨#[p.2]⟩] := by
  unfold zipD signs
  rw [List.zip_map, List.map_map]
  rfl
theorem u_letters {k : Str} {d : D} {n : Nat} {P : D → Nat → Prop} {E : XD} (hd : Pl d) (hk : k.length ≤ 2) (hl : ∀ l, d = .str l → l.length ≤ 1000000) (h : P (.bl (letOkD k d)) n) : U_are_letters [.str k, d] n P E := by
  unfold U_are_letters B_are_letters R_are_letters_1
  cases d with
  | str l =>
    have hl := hl l rfl
    walk_at "d"
    refine ⟨by omega, by omega, ?_⟩
    refine iteI (fun h1 => ?_) (fun h1 => ?_)
    · have e : letOkD k (.str l) = false := by
        unfold letOkD
        have : ¬ l.length = k.length := by omega
        simp [this]
      rw [e] at h
      exact h
    · have hlk : l.length = k.length := by omega
      rw [zip_signs]
      refine ⟨?_, lc_pure (fun d => .bl (pairOk d)) (fun x hm => ?_) ?_⟩
      · rw [List.length_map, List.length_zip, Array.length_toList, Array.length_toList]
        have : l.cps.size = l.length := rfl
        omega
      · obtain ⟨p, _, rfl⟩ := List.mem_map.mp hm
        refine ⟨_, rfl, fun n Q q => ?_⟩
        walk_at "d"
        rw [n_str]
        refine iteI (fun h2 => ?_) (fun h2 => ?_)
        · have h3 := (str1 _ _).mp h2
          walk_at "d"
          rw [cps_abcd]
          have : pairOk (.tup [.str ⟨#[p.1]⟩, .str ⟨#[p.2]⟩]) = decide (p.1 ∈ [97, 98, 99, 100]) := by
            show fits1 p.1 p.2 = _
            unfold fits1
            rw [if_pos h3]
          rw [this] at q
          exact q
        · have h3 : ¬ p.2 = 110 := fun z => h2 ((str1 _ _).mpr z)
          walk_at "d"
          rw [cps_pq]
          have : pairOk (.tup [.str ⟨#[p.1]⟩, .str ⟨#[p.2]⟩]) = decide (p.1 ∈ [112, 113]) := by
            show fits1 p.1 p.2 = _
            unfold fits1
            rw [if_neg h3]
          rw [this] at q
          exact q
      · refine ⟨_, gAll_map pairOk _, ?_⟩
        rw [List.all_map]
        have e : letOkD k (.str l) = (l.cps.toList.zip k.cps.toList).all (pairOk ∘ fun p => .tup [.str ⟨#[p.1]⟩, .str ⟨#[p.2]⟩]) := by
          show (decide (l.length = k.length) && _) = _
          rw [decide_eq_true hlk, Bool.true_and]
          rfl
        rw [e] at h
        exact h
  | obj _ _ => exact hd.elim
  | exc _ _ => exact hd.elim
  | pen => exact hd.elim
  | scr _ => exact hd.elim
  | fn _ _ _ => exact hd.elim
  | _ =>
    walk_at "d"
    exact h
def numOk (x : Str) (r : Int) (d : D) : Bool := if r = 0 then d.isN else if x ∈ near then inI (-128) 127 d else inI 0 (if r = 1 then 255 else 65535) d
theorem y_flatS (x : Str) : D.flat (.str x) = true := rfl
theorem u_number {x : Str} {r : Int} {d : D} {n : Nat} {P : D → Nat → Prop} {E : XD} (hd : Pl d) (h : P (.bl (numOk x r d)) n) : U_is_number [.str x, .int r, d] n P E := by
  unfold U_is_number B_is_number R_is_number_2 R_is_number_1
  unfold numOk at h
  walk_at "d"
  refine iteI (fun h1 => ?_) (fun h1 => ?_)
  · rw [if_pos h1] at h
    exact h
  · rw [if_neg h1] at h
    rw [C_NEAR_eq]
    walk_at "d"
    refine ⟨allF_strs near, ?_⟩
    rw [inF_strs]
    refine iteI (fun h2 => ?_) (fun h2 => ?_)
    · rw [if_pos (of_decide_eq_true h2)] at h
      exact u_isF hd h
    · rw [if_neg (fun z => h2 (decide_eq_true z))] at h
      walk_at "d"
      refine iteI (fun h3 => ?_) (fun h3 => ?_)
      · rw [if_pos h3] at h
        exact u_isF hd h
      · rw [if_neg h3] at h
        exact u_isF hd h
/-- is it a word? -/
def W : D → Bool
  | .tup [.str x, a, b] => match look x with
    | some e => letOkD e.2.2.1 a && numOk x e.2.2.2 b
    | none => false
  | _ => false
/-- trees as they come here -/
def Fine (d : D) : Prop := Pl d ∧ ∀ xs, d = .tup xs → xs.length ≤ 10000000 ∧ ∀ x ∈ xs, Pl x ∧ ∀ l, x = .str l → l.length ≤ 1000000
theorem W_len {xs : List D} (h : xs.length ≠ 3) : W (.tup xs) = false := by
  unfold W
  split
  · rename_i e
    cases e
    exact absurd rfl h
  · rfl
theorem W_some {x : Str} {a b : D} {e : Str × Int × Str × Int} (h : look x = some e) : W (.tup [.str x, a, b]) = (letOkD e.2.2.1 a && numOk x e.2.2.2 b) := by
  show (match look x with | some e => letOkD e.2.2.1 a && numOk x e.2.2.2 b | none => false) = _
  rw [h]
theorem W_none {x : Str} {a b : D} (h : look x = none) : W (.tup [.str x, a, b]) = false := by
  show (match look x with | some e => letOkD e.2.2.1 a && numOk x e.2.2.2 b | none => false) = _
  rw [h]
theorem u_word {d : D} {n : Nat} {P : D → Nat → Prop} {E : XD} (hd : Fine d) (h : P (.bl (W d)) n) : U_is_word [d] n P E := by
  obtain ⟨hd, hs⟩ := hd
  unfold U_is_word B_is_word R_is_word_2 R_is_word_1
  cases d with
  | tup xs =>
    obtain ⟨hl, hx⟩ := hs xs rfl
    match xs, hx, h with
    | [.str x, a, b], hx, h =>
      have ha := hx a (by simp)
      have hb := hx b (by simp)
      walk_at "d"
      refine u_entry ?_
      cases hk : look x with
      | none =>
        rw [W_none hk] at h
        exact h
      | some e =>
        rw [W_some hk] at h
        obtain ⟨te, ex⟩ := look_mem hk
        have tk := tab_ok e te
        rw [show (Option.map entD (some e)).getD D.non = .tup [.str x, .int e.2.1, .str e.2.2.1, .int e.2.2.2] by rw [← ex]; rfl]
        walk_at "d"
        refine u_letters ha.1 tk.2.1 ha.2 ?_
        refine ⟨_, rfl, ?_⟩
        refine iteI (fun h1 => ?_) (fun h1 => ?_)
        · rw [h1, Bool.true_and] at h
          walk_at "d"
          exact u_number hb.1 h
        · rw [Bool.eq_false_iff.mpr h1, Bool.false_and] at h
          exact h
    | [.non, a, b], hx, h => walk_at "d"; exact h
    | [.bl _, a, b], hx, h => walk_at "d"; exact h
    | [.int _, a, b], hx, h => walk_at "d"; exact h
    | [.lst _, a, b], hx, h => walk_at "d"; exact h
    | [.tup _, a, b], hx, h => walk_at "d"; exact h
    | [.dct _, a, b], hx, h => walk_at "d"; exact h
    | [.obj _ _, a, b], hx, h => exact (hx _ (List.mem_cons_self ..)).1.elim
    | [.exc _ _, a, b], hx, h => exact (hx _ (List.mem_cons_self ..)).1.elim
    | [.pen, a, b], hx, h => exact (hx _ (List.mem_cons_self ..)).1.elim
    | [.scr _, a, b], hx, h => exact (hx _ (List.mem_cons_self ..)).1.elim
    | [.fn _ _ _, a, b], hx, h => exact (hx _ (List.mem_cons_self ..)).1.elim
    | [], _, h => walk_at "d"; rw [if_pos (by simp)]; exact h
    | [_], _, h => rw [W_len (by simp)] at h; walk_at "d"; rw [if_pos (by simp)]; exact h
    | [_, _], _, h => rw [W_len (by simp)] at h; walk_at "d"; rw [if_pos (by simp)]; exact h
    | _ :: _ :: _ :: _ :: r, _, h => rw [W_len (by simp)] at h; walk_at "d"; rw [if_pos (by omega)]; exact h
  | obj _ _ => exact hd.elim
  | exc _ _ => exact hd.elim
  | pen => exact hd.elim
  | scr _ => exact hd.elim
  | fn _ _ _ => exact hd.elim
  | _ =>
    walk_at "d"
    exact h
/-! ### the law's own look -/
end C05

namespace C05
open PySem L2 Dn Tr
local macro_rules | `(tactic| walk_at "d") => `(tactic| try simp only [dDef, shP, gIntS, gListS, gMulS, dSplit, dStarts, gCD, gCDIn, gCDNotIn, gCDGet, dSIdx, dPutO, dOwnD0, dSee, dIfO, dCallO0, dCallO, dActS, dRetS, dRetO, dDefS, dLamS, Sl.out, startD, dSeq, dNext, dSet, dSetO, dPar, dRet, dRetN, dIfS, dExpr, dAug, dVar, dC, dNil, dCons, dApp, dCall0, dCall, dAnd, dOr, dIf, dChain, dNew, dOwn, dSh, dOwnL, dOwnF, dUn, dBor, frz, frzB, dMut, dRaise, dTry, dIxO, dCat, dLam, dLamDef, dAct, y_isDict0, y_isDict1, y_isDict2, y_isDict3, y_isDict4, y_isDict5, y_isDict6, y_keys, y_revL, y_sum1, y_sum2, y_xf, y_isX, dMakeX, dMakeX0, dMakeK, dEqT, dLenO, dBorL, frzL, dDct0, y_isInt6, y_isBool6, y_isStr6, y_isTuple6, y_isList6, y_isSeq6, y_len4, y_inS, y_notInS, y_in1, y_in2, y_ne0, y_ne0L, y_eq0, y_isB, y_isNotB, y_revS, y_addN1, y_addN2, y_subN1, y_subN2, y_subN3, y_strN1, y_strN2, y_zipS, y_dget, y_dnotin, y_din, y_key1, y_key2, eqD_bl', dUnp, dGet1, dSortD, dJoin, dUpper, dDisp, dDispO, dUpd, dDc, x_tg3, x_setall1, dFst, dMake, dInit, dCmpO, dFor, dIt, dLc, wipeD, dSl, dNoB, dB, D.isN, D.flat, putD,
  x_add1, x_add2, x_add3, x_add4, x_i2, x_sub, x_lt, x_le, x_gt, x_ge, x_mod, x_div, x_pow, x_mul1, x_mul2, x_mul3, x_neg, x_not, x_tupl, x_list, x_len1, x_len2, x_len3, x_abs, x_min, x_max, x_int1, x_int2, x_tuple1, x_tuple2, x_listof1, x_listof2, x_iter1, x_iter2, x_iter3, x_range, x_range2, x_enum1, x_enum2, x_enum3, x_enumK, x_isi, x_isown, x_is, x_isnot, x_revT, x_sl1, x_sl2, x_sl3, x_ix1, x_ix2, x_ix3, x_fld, x_catL, x_append, x_extend1, x_extend2, x_insert, x_tg1, x_tg2, x_tg3, x_setall1, x_eq, x_ne, x_isInt0, x_isInt1, x_isInt2, x_isInt3, x_isInt4, x_isInt5, x_isBool0, x_isBool1, x_isBool2, x_isBool3, x_isBool4, x_isBool5, x_isStr0, x_isStr1, x_isStr2, x_isStr3, x_isStr4, x_isStr5, x_isTuple0, x_isTuple1, x_isTuple2, x_isTuple3, x_isTuple4, x_isTuple5, x_isList0, x_isList1, x_isList2, x_isList3, x_isList4, x_isList5, x_isSeq0, x_isSeq1, x_isSeq2, x_isSeq3, x_isSeq4, x_isSeq5, x_setall0,
  List.map_cons, List.map_nil, List.length_cons, List.length_nil, List.replicate_succ, List.replicate_zero, List.cons_append, List.nil_append, List.append_nil, Nat.reduceSub, Nat.reduceAdd, Nat.sub_self, Nat.zero_add, List.getElem?_cons_zero, List.getElem?_cons_succ, List.set_cons_zero, List.set_cons_succ, Option.some.injEq, Sl.sh.injEq, Sl.ow.injEq, D.bl.injEq, D.int.injEq, D.tup.injEq, D.lst.injEq, D.obj.injEq, exists_eq_left', exists_eq_left, true_and, and_true, Option.map_some, reduceCtorEq, if_true, if_false, ite_true, ite_false, Bool.not_true, Bool.not_false, decide_eq_true_eq, Bool.false_eq_true, eq_self_iff_true, List.mem_singleton, List.lookup, beq_self_eq_true, Bool.true_eq_false, atI0, atI1, atI2, atI3, atI4, eqD_int, eqD_str, eqD_row, eqD_row0, ex_if, sizeLine_eq, Nat.reduceLeDiff, row_len, row_app, row_cut, row_rev, Bool.not_eq_true', decide_eq_false_iff_not, List.length_map, List.length_append, Nat.reduceLT])
local macro_rules | `(tactic| walk_at "c") => `(tactic| repeat (first | assumption | rw [if_neg (by decide +kernel)] | rw [if_pos (by decide +kernel)] | refine ⟨by decide +kernel, ?_⟩ | refine ⟨⟨by decide, by decide⟩, ?_⟩ | refine ⟨_, rfl, ?_⟩))
theorem look_of {e : Str × Int × Str × Int} (h : e ∈ tab) : ∃ e', look e.1 = some e' := by
  unfold look
  cases q : tab.find? fun f => decide (f.1 = e.1) with
  | some e' => exact ⟨e', rfl⟩
  | none =>
    have := List.find?_eq_none.mp q e h
    simp at this
theorem join_signs : ∀ cs : List Nat, Txt.join (Str.ofString "") (cs.map fun c => (⟨#[c]⟩ : Str)) = ⟨cs.toArray⟩ := by
  intro cs
  show Builtin.Str.glued (Str.ofString "") (cs.map fun c => (⟨#[c]⟩ : Str)) = _
  rw [StrLaws.glued_eq_join]
  have e : Str.ofString "" = ⟨#[]⟩ := by decide +kernel
  rw [e]
  induction cs with
  | nil => rfl
  | cons c cs ih =>
    rw [List.map_cons, PyProof.Rows.join_nil_cons, ih]
    show (⟨#[c] ++ cs.toArray⟩ : Str) = _
    congr 1
    simp
theorem lt_cs : ∀ k ∈ kinds, ∀ cs : List Nat, cs.length = k.length → (cs.zip k.cps.toList).all (fun p => fits1 p.1 p.2) = true → ∃ e ∈ lt, e.1 = k ∧ e.2.2 = ⟨cs.toArray⟩ := by
  have c1 : ∀ c w : Nat, (w = 110 ∨ w = 120) → fits1 c w = true → c ∈ six := by
    intro c w hw h
    unfold fits1 at h
    have h := of_decide_eq_true h
    rcases hw with rfl | rfl
    · rw [if_pos rfl] at h
      simp only [List.mem_cons, List.not_mem_nil, or_false] at h
      simp only [six, List.mem_cons, List.not_mem_nil, or_false]
      omega
    · rw [if_neg (by decide)] at h
      simp only [List.mem_cons, List.not_mem_nil, or_false] at h
      simp only [six, List.mem_cons, List.not_mem_nil, or_false]
      omega
  have all2 : ∀ k ∈ kinds, ∀ c ∈ six, ∀ d ∈ six, (k.length = 0 → ∃ e ∈ lt, e.1 = k ∧ e.2.2 = ⟨#[]⟩) ∧ (k.length = 1 → ([c].zip k.cps.toList).all (fun p => fits1 p.1 p.2) = true → ∃ e ∈ lt, e.1 = k ∧ e.2.2 = ⟨#[c]⟩) ∧ (k.length = 2 → ([c, d].zip k.cps.toList).all (fun p => fits1 p.1 p.2) = true → ∃ e ∈ lt, e.1 = k ∧ e.2.2 = ⟨#[c, d]⟩) := by decide +kernel
  intro k hk cs hl hf
  have kk := kind_ok k hk
  have hk1 : k.cps.toList.length = k.length := Array.length_toList
  have fit : ∀ (i c : Nat), cs[i]? = some c → c ∈ six := by
    intro i c hc
    have hi := (List.getElem?_eq_some_iff.mp hc).1
    have e2 : k.cps.toList[i]? = some k.cps.toList[i] := List.getElem?_eq_getElem (by omega)
    have := List.all_eq_true.mp hf (c, k.cps.toList[i]) (List.mem_of_getElem? (List.getElem?_zip_eq_some.mpr ⟨hc, e2⟩))
    exact c1 _ _ (kk.2 _ (List.mem_of_getElem? e2)) this
  match cs, hl, hf, fit with
  | [], hl, hf, fit => exact (all2 k hk 97 (by decide) 97 (by decide)).1 (by simpa using hl.symm)
  | [c], hl, hf, fit => exact (all2 k hk c (fit 0 c rfl) 97 (by decide)).2.1 (by simpa using hl.symm) hf
  | [c, d], hl, hf, fit => exact (all2 k hk c (fit 0 c rfl) d (fit 1 d rfl)).2.2 (by simpa using hl.symm) hf
  | _ :: _ :: _ :: _, hl, hf, fit => simp only [List.length_cons] at hl; omega
/-- a word as it is drawn -/
def Dw (e : Ro) (s : Int) (l : Str) (b : D) : Prop := e ∈ tab ∧ (e.2.2.1, s, l) ∈ lt ∧ numOk e.1 e.2.2.2 b = true
theorem u_drawn {n : Nat} {P : D → Nat → Prop} {E : XD} (hn : n < 1000000) (h : ∀ e s l b n', Dw e s l b → n' ≤ n + 10 → P (.tup [.str e.1, .str l, b]) n') : U__law_drawn_word [.pen] n P E := by
  unfold U__law_drawn_word B__law_drawn_word
  walk_at "d"
  refine u_table ?_
  walk_at "d"
  refine ⟨_, tab.map (·.1), rfl, by rw [List.map_map, List.map_map]; rfl, by decide, fun ys hp => ?_⟩
  have hl : ys.length = 30 := by rw [hp.length_eq]; rfl
  refine u_pick (by omega) (by rw [List.length_map]; omega) (by rw [List.length_map]; omega) fun y hy => ?_
  obtain ⟨x, hx, rfl⟩ := List.mem_map.mp hy
  obtain ⟨e0, he0, rfl⟩ := List.mem_map.mp (hp.mem_iff.mp hx)
  obtain ⟨e, hk⟩ := look_of he0
  generalize e0.1 = x at *
  walk_at "d"
  rw [val_map]
  refine ⟨ent3 e, by show Option.map ent3 (look x) = _; rw [hk]; rfl, ?_⟩
  unfold ent3
  walk_at "d"
  obtain ⟨te, ex⟩ := look_mem hk
  have tk := tab_ok e te
  have hk1 : e.2.2.1.cps.toList.length = e.2.2.1.length := Array.length_toList
  have hsl : (signs e.2.2.1).length = e.2.2.1.length := by unfold Dn.signs; rw [List.length_map, hk1]
  refine ⟨_, rfl, by omega, lc_inv (fun i acc n' => ∃ cs : List Nat, acc = cs.map (fun c => .str ⟨#[c]⟩) ∧ cs.length = i ∧ (cs.zip e.2.2.1.cps.toList).all (fun p => fits1 p.1 p.2) = true ∧ n' = n + 1 + i) ⟨[], rfl, rfl, rfl, rfl⟩ ?_ ?_⟩
  · rintro i y acc n1 N hy ⟨cs, rfl, hc1, hc2, rfl⟩ hN
    unfold Dn.signs at hy
    rw [List.getElem?_map] at hy
    cases hq : e.2.2.1.cps.toList[i]? with
    | none => rw [hq] at hy; cases hy
    | some k =>
      rw [hq] at hy
      cases hy
      have hi := (List.getElem?_eq_some_iff.mp hq).1
      have hc := tk.2.2.1 k (List.mem_of_getElem? hq)
      have go : ∀ c, fits1 c k = true → N [D.str ⟨#[c]⟩] (n + 1 + i + 1) := fun c hf => hN _ _ ⟨cs ++ [c], by rw [List.map_append]; rfl, by rw [List.length_append, hc1]; rfl, by
        have e1 : e.2.2.1.cps.toList = e.2.2.1.cps.toList.take i ++ k :: e.2.2.1.cps.toList.drop (i + 1) := by
          have e3 : e.2.2.1.cps.toList[i] = k := (List.getElem?_eq_some_iff.mp hq).2
          rw [← e3, ← List.drop_eq_getElem_cons hi, List.take_append_drop]
        have hz : cs.length = (e.2.2.1.cps.toList.take i).length := by rw [List.length_take]; omega
        have e4 : cs.zip e.2.2.1.cps.toList = cs.zip (e.2.2.1.cps.toList.take i) := by
          have := List.zip_append (l₁ := cs) (r₁ := []) (l₂ := e.2.2.1.cps.toList.take i) (r₂ := k :: e.2.2.1.cps.toList.drop (i + 1)) hz
          rw [← e1, List.append_nil, List.zip_nil_left, List.append_nil] at this
          exact this
        rw [e4] at hc2
        rw [e1, List.zip_append hz, List.all_append, hc2]
        show (true && (fits1 c k && _)) = true
        rw [hf]
        simp, by omega⟩
      refine ⟨_, rfl, true, rfl, ?_⟩
      walk_at "d"
      rw [x_str1]
      rcases hc with rfl | rfl
      · have : ¬ ((⟨#[110]⟩ : Str) = ⟨#[120]⟩) := by decide
        rw [if_neg this]
        walk_at "d"
        refine u_pickS (by omega) (by decide) (by decide) fun c hc => go c ?_
        rw [cps_abcd] at hc
        exact decide_eq_true hc
      · rw [if_pos rfl]
        walk_at "d"
        refine u_pickS (by omega) (by decide) (by decide) fun c hc => go c ?_
        rw [cps_pq] at hc
        exact decide_eq_true hc
  · rintro ys _ ⟨cs, rfl, hc1, hc2, rfl⟩
    rw [hsl] at hc1
    refine ⟨cs.map fun c => ⟨#[c]⟩, .inl (by rw [List.map_map]; rfl), ?_, ?_⟩
    · have : (List.map (fun x => x.length) (cs.map fun c => (⟨#[c]⟩ : Str))).sum ≤ 2 := by
        rw [List.map_map]
        have : ∀ l : List Nat, (l.map ((fun x : Str => x.length) ∘ fun c => ⟨#[c]⟩)).sum = l.length := fun l => by
          induction l with
          | nil => rfl
          | cons a l ih => rw [List.map_cons, List.sum_cons, ih, List.length_cons]; show 1 + l.length = _; omega
        rw [this]
        omega
      have e0 : (Str.ofString "").length = 0 := by decide +kernel
      rw [e0]
      omega
    · rw [join_signs]
      have end_ : ∀ b : D, numOk x e.2.2.2 b = true → (b = .non ∨ ∃ i : Int, b = .int i ∧ -100000 ≤ i ∧ i ≤ 100000) → ∀ n', n' ≤ n + 10 → P (.tup [.str x, .str ⟨cs.toArray⟩, b]) n' := fun b h1 h2 n' h3 => by
        obtain ⟨f, hf1, hf2, hf3⟩ := lt_cs e.2.2.1 (tab_near e te).2.2.1 cs hc1 hc2
        have := h e f.2.1 f.2.2 b n' ⟨te, by rw [← hf2]; exact hf1, by rw [ex]; exact h1⟩ h3
        rw [ex, hf3] at this
        exact this
      refine iteI (fun h1 => ?_) (fun h1 => ?_)
      · exact end_ .non (by unfold numOk; rw [if_pos h1]; rfl) (.inl rfl) _ (by omega)
      · unfold R__law_drawn_word_2
        walk_at "d"
        have nr : e.2.2.2 = 2 → x ∉ near := fun h2 => by
          have : ∀ e ∈ tab, e.2.2.2 = 2 → e.1 ∉ near := by decide +kernel
          rw [← ex]; exact this e te h2
        have pick : ∀ {xs : List Int} {r : Int}, 0 ≤ r → r < xs.length → ∃ i, i ∈ xs ∧ gIx [.lst (row xs), .int r] = some (.int i) := fun {xs r} r0 r1 => by
          obtain ⟨y, hy1, hy2⟩ := Br.atI_lt (xs := row xs) r0 (by rw [row_len]; exact r1)
          obtain ⟨i, hi, rfl⟩ := List.mem_map.mp (List.mem_of_getElem? hy2)
          exact ⟨i, hi, hy1⟩
        refine iteI (fun h2 => ?_) (fun h2 => ?_)
        · refine draw (δ := []) (by omega) (by omega) (by omega) fun r r0 r1 => ?_
          refine draw (δ := []) (by omega) (by omega) (by omega) fun q q0 q1 => ?_
          obtain ⟨i, hi, hg⟩ := pick (xs := [0, 255, 256, 65535, r]) q0 q1
          refine ⟨_, hg, ?_⟩
          have hi2 : 0 ≤ i ∧ i ≤ 65535 := by
            simp only [List.mem_cons, List.not_mem_nil, or_false] at hi
            omega
          refine end_ _ ?_ (.inr ⟨i, rfl, by omega, by omega⟩) _ (by omega)
          unfold numOk
          rw [if_neg h1, if_neg (nr h2), if_neg (by omega)]
          show (decide (0 ≤ i) && decide (i ≤ 65535)) = true
          rw [decide_eq_true hi2.1, decide_eq_true hi2.2]; rfl
        · unfold R__law_drawn_word_1
          walk_at "d"
          refine ⟨allF_strs near, ?_⟩
          rw [show [D.str (Str.ofString "go.short"), D.str (Str.ofString "call.short"), D.str (Str.ofString "if.short")] = near.map .str from rfl, inF_strs]
          walk_at "d"
          have fin : ∀ lo : Int, (lo = if x ∈ near then -128 else 0) → ∀ r : Int, 0 ≤ r → r < 256 → ∀ q : Int, 0 ≤ q → q < 5 → ∃ d, gIx [.lst [.int 0, .int 255, .int 127, .int 128, .int r], .int q] = some d ∧ ∃ d', gAdd [.int lo, d] = some d' ∧ P (.tup [.str x, .str ⟨cs.toArray⟩, d']) (n + 1 + (signs e.2.2.1).length + 1 + 1) := fun lo hlo r r0 r1 q q0 q1 => by
            obtain ⟨i, hi, hg⟩ := pick (xs := [0, 255, 127, 128, r]) q0 q1
            refine ⟨_, hg, _, rfl, ?_⟩
            have hi2 : 0 ≤ i ∧ i ≤ 255 := by
              simp only [List.mem_cons, List.not_mem_nil, or_false] at hi
              omega
            refine end_ _ ?_ (.inr ⟨_, rfl, ?_, ?_⟩) _ (by omega)
            · unfold numOk
              rw [if_neg h1]
              by_cases hx : x ∈ near
              · rw [if_pos hx] at hlo ⊢
                show (decide (-128 ≤ lo + i) && decide (lo + i ≤ 127)) = true
                rw [decide_eq_true (by omega), decide_eq_true (by omega)]; rfl
              · rw [if_neg hx] at hlo ⊢
                rw [if_pos (by omega)]
                show (decide (0 ≤ lo + i) && decide (lo + i ≤ 255)) = true
                rw [decide_eq_true (by omega), decide_eq_true (by omega)]; rfl
            · split at hlo <;> omega
            · split at hlo <;> omega
          by_cases hx : x ∈ near
          · rw [if_pos hx]
            walk_at "d"
            refine draw (δ := []) (by omega) (by omega) (by omega) fun r r0 r1 => ?_
            refine draw (δ := []) (by omega) (by omega) (by omega) fun q q0 q1 => ?_
            exact fin _ (by rw [if_pos hx]) r r0 r1 q q0 q1
          · rw [if_neg hx]
            walk_at "d"
            refine draw (δ := []) (by omega) (by omega) (by omega) fun r r0 r1 => ?_
            refine draw (δ := []) (by omega) (by omega) (by omega) fun q q0 q1 => ?_
            exact fin _ (by rw [if_neg hx]) r r0 r1 q q0 q1
theorem ent_at : ∀ e ∈ tab, ∀ s ∈ List.range (spanOf e.2.2.1), entAt (e.2.1 + (s : Int)) = some e := by decide +kernel
theorem tab_uniq : ∀ e ∈ tab, ∀ f ∈ tab, e.1 = f.1 → e = f := by decide +kernel
/-! ### the bytes of a word, rows -/
def numB (r : Int) (b : D) : List Int := match b with
  | .int i => if r = 1 then [i % 256] else [i / 256, i % 256]
  | _ => []
def bw (e : Ro) (s : Int) (b : D) : List Int := (e.2.1 + s) :: numB e.2.2.2 b
theorem bw1 {e : Ro} {s i : Int} (h : e.2.2.2 = 1) : bw e s (.int i) = [e.2.1 + s, i % 256] := by
  show (e.2.1 + s) :: (if e.2.2.2 = 1 then [i % 256] else [i / 256, i % 256]) = _
  rw [if_pos h]
theorem bw2 {e : Ro} {s i : Int} (h : e.2.2.2 = 2) : bw e s (.int i) = [e.2.1 + s, i / 256, i % 256] := by
  show (e.2.1 + s) :: (if e.2.2.2 = 1 then [i % 256] else [i / 256, i % 256]) = _
  rw [if_neg (by omega)]
theorem dw_num {e : Ro} {s : Int} {l : Str} {b : D} (h : Dw e s l b) : (e.2.2.2 = 0 ∧ b = .non) ∨ (e.2.2.2 = 1 ∧ ∃ i : Int, b = .int i ∧ -128 ≤ i ∧ i ≤ 255) ∨ (e.2.2.2 = 2 ∧ ∃ i : Int, b = .int i ∧ 0 ≤ i ∧ i ≤ 65535) := by
  obtain ⟨h1, h2, h3⟩ := h
  have tn := tab_near e h1
  unfold numOk at h3
  rcases tn.2.1 with h4 | h4 | h4
  · rw [if_pos h4] at h3
    refine .inl ⟨h4, ?_⟩
    cases b <;> first | rfl | cases h3
  · rw [if_neg (by omega)] at h3
    refine .inr (.inl ⟨h4, ?_⟩)
    split at h3
    · cases b with
      | int i =>
        have h3 : (decide (-128 ≤ i) && decide (i ≤ 127)) = true := h3
        rw [Bool.and_eq_true, decide_eq_true_eq, decide_eq_true_eq] at h3
        exact ⟨i, rfl, h3.1, by omega⟩
      | _ => cases h3
    · cases b with
      | int i =>
        have h3 : (decide (0 ≤ i) && decide (i ≤ 255)) = true := h3
        rw [Bool.and_eq_true, decide_eq_true_eq, decide_eq_true_eq] at h3
        exact ⟨i, rfl, by omega, h3.2⟩
      | _ => cases h3
  · rw [if_neg (by omega), if_neg (fun z => by have := tn.1 z; omega), if_neg (by omega)] at h3
    refine .inr (.inr ⟨h4, ?_⟩)
    cases b with
    | int i =>
      have h3 : (decide (0 ≤ i) && decide (i ≤ 65535)) = true := h3
      rw [Bool.and_eq_true, decide_eq_true_eq, decide_eq_true_eq] at h3
      exact ⟨i, rfl, h3.1, h3.2⟩
    | _ => cases h3
theorem lt_span : ∀ e ∈ tab, ∀ z ∈ lt, z.1 = e.2.2.1 → 0 ≤ z.2.1 ∧ z.2.1 < (spanOf e.2.2.1 : Int) ∧ e.2.1 + z.2.1 ≤ 255 := by decide +kernel
theorem bw_bts {e : Ro} {s : Int} {l : Str} {b : D} (h : Dw e s l b) : Bts (bw e s b) ∧ (bw e s b).length ≤ 3 := by
  have hn := dw_num h
  obtain ⟨h1, h2, h3⟩ := h
  have tn := tab_near e h1
  have sp := lt_span e h1 _ h2 rfl
  simp only at sp
  refine ⟨fun y hy => ?_, ?_⟩
  · rcases List.mem_cons.mp hy with rfl | hy
    · omega
    · rcases hn with ⟨r, rfl⟩ | ⟨r, i, rfl, i1, i2⟩ | ⟨r, i, rfl, i1, i2⟩
      · cases hy
      · have hy : y ∈ (if e.2.2.2 = 1 then [i % 256] else [i / 256, i % 256]) := hy
        rw [if_pos r, List.mem_singleton] at hy
        omega
      · have hy : y ∈ (if e.2.2.2 = 1 then [i % 256] else [i / 256, i % 256]) := hy
        rw [if_neg (by omega)] at hy
        simp only [List.mem_cons, List.not_mem_nil, or_false] at hy
        omega
  · show (numB e.2.2.2 b).length + 1 ≤ 3
    unfold numB
    split
    · split <;> simp
    · simp
theorem lt_filter : ∀ e ∈ lt, (List.range (spanOf e.1)).filter (fun t : Nat => decide (ltOf e.1 (t : Int) = e.2.2)) = [e.2.1.toNat] ∧ 0 ≤ e.2.1 := by decide +kernel
def shD (k l : Str) : D → Bool
  | .int t => decide (ltOf k t = l)
  | _ => false
theorem filter_sh {k l : Str} {s : Int} (h : (k, s, l) ∈ lt) : ((intsD 0 (spanOf k)).filter (shD k l)).map (fun d => d) = [.int s] := by
  obtain ⟨h1, h2⟩ := lt_filter _ h
  simp only at h1 h2
  rw [List.map_id']
  unfold intsD
  rw [List.filter_map]
  have e : (shD k l ∘ fun i : Nat => D.int (0 + (i : Int))) = fun t : Nat => decide (ltOf k (t : Int) = l) := by
    funext t
    show decide (ltOf k (0 + (t : Int)) = l) = _
    rw [Int.zero_add]
  rw [e, h1, List.map_cons, List.map_nil, show (0 + ((s.toNat : Nat) : Int)) = s by omega]
theorem u_bytes_of_word {e : Ro} {s : Int} {l : Str} {b : D} {n : Nat} {P : D → Nat → Prop} {E : XD} (hd : Dw e s l b) (h : P (.tup (row (bw e s b))) n) : U_bytes_of_word [.tup [.str e.1, .str l, b]] n P E := by
  have hn := dw_num hd
  obtain ⟨h1, h2, h3⟩ := hd
  have tn := tab_near e h1
  have hk : look e.1 = some e := by
    cases q : look e.1 with
    | none =>
      have := List.find?_eq_none.mp q e h1
      simp at this
    | some f =>
      obtain ⟨w1, w2⟩ := look_mem q
      rw [tab_uniq f w1 e h1 w2]
  unfold U_bytes_of_word B_bytes_of_word
  walk_at "d"
  refine u_entry ?_
  rw [hk]
  refine ⟨_, rfl, ?_⟩
  walk_at "d"
  refine ⟨_, span_gCD e h1, ?_⟩
  walk_at "d"
  rw [show ((spanOf e.2.2.1 : Nat) : Int).toNat = spanOf e.2.2.1 by omega]
  refine ⟨⟨by omega, by omega⟩, by rw [intsD_len]; omega, lc_filter (shD e.2.2.1 l) (fun d => d) (fun d hd => ?_) ?_⟩
  · obtain ⟨i, hi, rfl⟩ := List.mem_map.mp hd
    have hlt := ltOf_ok e h1 i hi
    refine ⟨_, rfl, fun n Q q => ?_, fun n Q _ q => ?_⟩
    · walk_at "d"
      rw [Int.zero_add]
      refine u_letters_by hlt ?_
      walk_at "d"
      have hb : shD e.2.2.1 l (.int (0 + (i : Int))) = decide (ltOf e.2.2.1 (i : Int) = l) := by
        show decide (ltOf e.2.2.1 (0 + (i : Int)) = l) = _
        rw [Int.zero_add]
      rw [hb] at q
      exact q
    · walk_at "d"
      exact q
  · rw [filter_sh h2]
    walk_at "d"
    refine iteI (fun h4 => ?_) (fun h4 => ?_)
    · rcases hn with ⟨r, rfl⟩ | ⟨r, i, rfl, i1, i2⟩ | ⟨r, i, rfl, i1, i2⟩
      · exact h
      · omega
      · omega
    · unfold R_bytes_of_word_1
      walk_at "d"
      rcases hn with ⟨r, rfl⟩ | ⟨r, i, rfl, i1, i2⟩ | ⟨r, i, rfl, i1, i2⟩
      · omega
      · rw [bw1 r] at h
        rw [r]
        have go : ∀ j : Int, 0 ≤ j → j ≤ 255 → j % 256 = i % 256 → U_bytes_of [.int j, .int 1] n (fun x n1 => ∃ d, gAdd [D.tup [D.int (e.2.1 + s)], x] = some d ∧ P d n1) (fun _ _ _ => False) := fun j j0 j1 j2 => by
          refine u_bytes_of (k := 1) j0 (by omega) (fun _ => ?_) (fun z => z (by show j / 256 = 0; omega))
          rw [show be 1 j = [j % 256] from rfl, j2]
          exact ⟨_, rfl, h⟩
        walk_at "d"
        refine iteI (fun h5 => ?_) (fun h5 => ?_)
        · exact go _ (by omega) (by omega) (by omega)
        · exact go _ (by omega) (by omega) rfl
      · rw [bw2 r] at h
        rw [r]
        walk_at "d"
        rw [if_neg (by omega)]
        refine u_bytes_of (k := 2) i1 (by omega) (fun _ => ?_) (fun z => z (by show i / 256 / 256 = 0; omega))
        rw [show be 2 i = [i / 256 % 256, i % 256] from rfl, show i / 256 % 256 = i / 256 by omega]
        exact ⟨_, rfl, h⟩
end C05

namespace C05
open PySem L2 Dn Tr
local macro_rules | `(tactic| walk_at "d") => `(tactic| try simp only [dDef, shP, gIntS, gListS, gMulS, dSplit, dStarts, gCD, gCDIn, gCDNotIn, gCDGet, dSIdx, dPutO, dOwnD0, dSee, dIfO, dCallO0, dCallO, dActS, dRetS, dRetO, dDefS, dLamS, Sl.out, startD, dSeq, dNext, dSet, dSetO, dPar, dRet, dRetN, dIfS, dExpr, dAug, dVar, dC, dNil, dCons, dApp, dCall0, dCall, dAnd, dOr, dIf, dChain, dNew, dOwn, dSh, dOwnL, dOwnF, dUn, dBor, frz, frzB, dMut, dRaise, dTry, dIxO, dCat, dLam, dLamDef, dAct, y_isDict0, y_isDict1, y_isDict2, y_isDict3, y_isDict4, y_isDict5, y_isDict6, y_keys, y_revL, y_sum1, y_sum2, y_xf, y_isX, dMakeX, dMakeX0, dMakeK, dEqT, dLenO, dBorL, frzL, dDct0, y_isInt6, y_isBool6, y_isStr6, y_isTuple6, y_isList6, y_isSeq6, y_len4, y_inS, y_notInS, y_in1, y_in2, y_ne0, y_ne0L, y_eq0, y_isB, y_isNotB, y_revS, y_addN1, y_addN2, y_subN1, y_subN2, y_subN3, y_strN1, y_strN2, y_zipS, y_dget, y_dnotin, y_din, y_key1, y_key2, eqD_bl', dUnp, dGet1, dSortD, dJoin, dUpper, dDisp, dDispO, dUpd, dDc, x_tg3, x_setall1, dFst, dMake, dInit, dCmpO, dFor, dIt, dLc, wipeD, dSl, dNoB, dB, D.isN, D.flat, putD,
  x_add1, x_add2, x_add3, x_add4, x_i2, x_sub, x_lt, x_le, x_gt, x_ge, x_mod, x_div, x_pow, x_mul1, x_mul2, x_mul3, x_neg, x_not, x_tupl, x_list, x_len1, x_len2, x_len3, x_abs, x_min, x_max, x_int1, x_int2, x_tuple1, x_tuple2, x_listof1, x_listof2, x_iter1, x_iter2, x_iter3, x_range, x_range2, x_enum1, x_enum2, x_enum3, x_enumK, x_isi, x_isown, x_is, x_isnot, x_revT, x_sl1, x_sl2, x_sl3, x_ix1, x_ix2, x_ix3, x_fld, x_catL, x_append, x_extend1, x_extend2, x_insert, x_tg1, x_tg2, x_tg3, x_setall1, x_eq, x_ne, x_isInt0, x_isInt1, x_isInt2, x_isInt3, x_isInt4, x_isInt5, x_isBool0, x_isBool1, x_isBool2, x_isBool3, x_isBool4, x_isBool5, x_isStr0, x_isStr1, x_isStr2, x_isStr3, x_isStr4, x_isStr5, x_isTuple0, x_isTuple1, x_isTuple2, x_isTuple3, x_isTuple4, x_isTuple5, x_isList0, x_isList1, x_isList2, x_isList3, x_isList4, x_isList5, x_isSeq0, x_isSeq1, x_isSeq2, x_isSeq3, x_isSeq4, x_isSeq5, x_setall0,
  List.map_cons, List.map_nil, List.length_cons, List.length_nil, List.replicate_succ, List.replicate_zero, List.cons_append, List.nil_append, List.append_nil, Nat.reduceSub, Nat.reduceAdd, Nat.sub_self, Nat.zero_add, List.getElem?_cons_zero, List.getElem?_cons_succ, List.set_cons_zero, List.set_cons_succ, Option.some.injEq, Sl.sh.injEq, Sl.ow.injEq, D.bl.injEq, D.int.injEq, D.tup.injEq, D.lst.injEq, D.obj.injEq, exists_eq_left', exists_eq_left, true_and, and_true, Option.map_some, reduceCtorEq, if_true, if_false, ite_true, ite_false, Bool.not_true, Bool.not_false, decide_eq_true_eq, Bool.false_eq_true, eq_self_iff_true, List.mem_singleton, List.lookup, beq_self_eq_true, Bool.true_eq_false, atI0, atI1, atI2, atI3, atI4, eqD_int, eqD_str, eqD_row, eqD_row0, ex_if, sizeLine_eq, Nat.reduceLeDiff, row_len, row_app, row_cut, row_rev, Bool.not_eq_true', decide_eq_false_iff_not, List.length_map, List.length_append, Nat.reduceLT])
local macro_rules | `(tactic| walk_at "c") => `(tactic| repeat (first | assumption | rw [if_neg (by decide +kernel)] | rw [if_pos (by decide +kernel)] | refine ⟨by decide +kernel, ?_⟩ | refine ⟨⟨by decide, by decide⟩, ?_⟩ | refine ⟨_, rfl, ?_⟩))
theorem wd_ok {xs : List Int} {s k : Nat} {d : D} (h : wd xs s = .ok (d, k)) : s < xs.length ∧ s < k ∧ k ≤ xs.length := by
  unfold wd at h
  split at h
  · cases h
  · rename_i b hb
    have := (List.getElem?_eq_some_iff.mp hb).1
    split at h
    · cases h
    · split at h
      · cases h
      · have e := Except.ok.inj h
        have := (Prod.mk.inj e).2
        omega
theorem wd_er {xs : List Int} {s k : Nat} (hs : s ≤ xs.length) (h : wd xs s = .error k) : k ≤ xs.length := by
  unfold wd at h
  split at h
  · have := Except.error.inj h; omega
  · split at h
    · have := Except.error.inj h; omega
    · split at h
      · have := Except.error.inj h; omega
      · cases h
/-- all words from s on -/
def ws : Nat → List Int → Nat → Except Nat (List D)
  | 0, _, _ => .ok []
  | f + 1, xs, s => if s < xs.length then (match wd xs s with
    | .error k => .error k
    | .ok (d, k) => match ws f xs k with
      | .error j => .error j
      | .ok r => .ok (.tup [.int (s : Int), d] :: r)) else .ok []
def cat (acc : List D) : Except Nat (List D) → Except Nat (List D)
  | .error j => .error j
  | .ok r => .ok (acc ++ r)
theorem ws_step {f : Nat} {xs : List Int} {s k : Nat} {d : D} {acc : List D} (h : wd xs s = .ok (d, k)) : cat acc (ws (f + 1) xs s) = cat (acc ++ [.tup [.int (s : Int), d]]) (ws f xs k) := by
  obtain ⟨h1, _⟩ := wd_ok h
  show cat acc (if s < xs.length then (match wd xs s with | .error k => .error k | .ok (d, k) => match ws f xs k with | .error j => .error j | .ok r => .ok (.tup [.int (s : Int), d] :: r)) else .ok []) = _
  rw [if_pos h1, h]
  dsimp only
  cases ws f xs k with
  | error j => rfl
  | ok r => show Except.ok (acc ++ _ :: r) = .ok (acc ++ [_] ++ r); rw [List.append_assoc]; rfl
theorem ws_err {f : Nat} {xs : List Int} {s k : Nat} {acc : List D} (hs : s < xs.length) (h : wd xs s = .error k) : cat acc (ws (f + 1) xs s) = .error k := by
  show cat acc (if s < xs.length then (match wd xs s with | .error k => .error k | .ok (d, k) => match ws f xs k with | .error j => .error j | .ok r => .ok (.tup [.int (s : Int), d] :: r)) else .ok []) = _
  rw [if_pos hs, h]
  rfl
theorem ws_end {f : Nat} {xs : List Int} {s : Nat} {acc : List D} (hs : ¬ s < xs.length) : cat acc (ws (f + 1) xs s) = .ok acc := by
  show cat acc (if s < xs.length then (match wd xs s with | .error k => .error k | .ok (d, k) => match ws f xs k with | .error j => .error j | .ok r => .ok (.tup [.int (s : Int), d] :: r)) else .ok []) = _
  rw [if_neg hs]
  show Except.ok (acc ++ []) = _
  rw [List.append_nil]
abbrev wsA (xs : List Int) : Except Nat (List D) := cat [] (ws (xs.length + 1) xs 0)
theorem u_words_of {xs : List Int} {n : Nat} {P : D → Nat → Prop} {E : XD} (hb : Bts xs) (hl : xs.length ≤ 1000) (h1 : ∀ r, wsA xs = .ok r → P (.lst r) n) (h2 : ∀ k, wsA xs = .error k → E "NoWord" [("at", .int (k : Nat))] n) : U_words_of [.tup (row xs)] n P E := by
  unfold U_words_of B_words_of
  walk_at "d"
  refine while_inv (fun w δ n' => n = n' ∧ ∃ (acc : List D) (s f : Nat) (a b : Option Sl), s + w = xs.length ∧ acc.length ≤ s ∧ w < f ∧ cat acc (ws f xs s) = wsA xs ∧ δ = [some (.sh (.tup (row xs))), some (.ow acc), some (.sh (.int (s : Int))), a, b]) xs.length ⟨rfl, [], 0, xs.length + 1, none, none, by omega, by simp, by omega, rfl, rfl⟩ ?_
  rintro w _ _ ⟨rfl, acc, s, f, a, b, q1, q2, q3, q4, rfl⟩
  obtain ⟨f, rfl⟩ : ∃ g, f = g + 1 := ⟨f - 1, by omega⟩
  walk_at "d"
  refine iteI (fun hs => ?_) (fun hs => ?_)
  · refine ⟨_, fun _ _ z => z, ?_⟩
    unfold L_words_of_1
    walk_at "d"
    refine u_word_at hb hl (fun d k e1 => ?_) (fun k e1 => ?_)
    · obtain ⟨w1, w2, w3⟩ := wd_ok e1
      walk_at "d"
      refine ⟨by omega, ?_⟩
      refine ⟨xs.length - k, by omega, _, k, f, _, _, by omega, by rw [List.length_append]; simp; omega, by omega, ?_, rfl⟩
      rw [← q4, ws_step e1]
    · refine h2 _ ?_
      rw [← q4, ws_err (by omega) e1]
  · unfold R_words_of_1
    walk_at "d"
    refine h1 _ ?_
    rw [← q4, ws_end (by omega)]
end C05

namespace C05
open PySem L2 Br Dn Tr TL
local macro_rules | `(tactic| walk_at "d") => `(tactic| try simp only [dDef, shP, gIntS, gListS, gMulS, dSplit, dStarts, gCD, gCDIn, gCDNotIn, gCDGet, dSIdx, dPutO, dOwnD0, dSee, dIfO, dCallO0, dCallO, dActS, dRetS, dRetO, dDefS, dLamS, Sl.out, startD, dSeq, dNext, dSet, dSetO, dPar, dRet, dRetN, dIfS, dExpr, dAug, dVar, dC, dNil, dCons, dApp, dCall0, dCall, dAnd, dOr, dIf, dChain, dNew, dOwn, dSh, dOwnL, dOwnF, dUn, dBor, frz, frzB, dMut, dRaise, dTry, dIxO, dCat, dLam, dLamDef, dAct, y_isDict0, y_isDict1, y_isDict2, y_isDict3, y_isDict4, y_isDict5, y_isDict6, y_keys, y_revL, y_sum1, y_sum2, y_xf, y_isX, dMakeX, dMakeX0, dMakeK, dEqT, dLenO, dBorL, frzL, dDct0, y_isInt6, y_isBool6, y_isStr6, y_isTuple6, y_isList6, y_isSeq6, y_len4, y_inS, y_notInS, y_in1, y_in2, y_ne0, y_ne0L, y_eq0, y_isB, y_isNotB, y_revS, y_addN1, y_addN2, y_subN1, y_subN2, y_subN3, y_strN1, y_strN2, y_zipS, y_dget, y_dnotin, y_din, y_key1, y_key2, eqD_bl', dUnp, dGet1, dSortD, dJoin, dUpper, dDisp, dDispO, dUpd, dDc, x_tg3, x_setall1, dFst, dMake, dInit, dCmpO, dFor, dIt, dLc, wipeD, dSl, dNoB, dB, D.isN, D.flat, putD,
  x_add1, x_add2, x_add3, x_add4, x_i2, x_sub, x_lt, x_le, x_gt, x_ge, x_mod, x_div, x_pow, x_mul1, x_mul2, x_mul3, x_neg, x_not, x_tupl, x_list, x_len1, x_len2, x_len3, x_abs, x_min, x_max, x_int1, x_int2, x_tuple1, x_tuple2, x_listof1, x_listof2, x_iter1, x_iter2, x_iter3, x_range, x_range2, x_enum1, x_enum2, x_enum3, x_enumK, x_isi, x_isown, x_is, x_isnot, x_revT, x_sl1, x_sl2, x_sl3, x_ix1, x_ix2, x_ix3, x_fld, x_catL, x_append, x_extend1, x_extend2, x_insert, x_tg1, x_tg2, x_tg3, x_setall1, x_eq, x_ne, x_isInt0, x_isInt1, x_isInt2, x_isInt3, x_isInt4, x_isInt5, x_isBool0, x_isBool1, x_isBool2, x_isBool3, x_isBool4, x_isBool5, x_isStr0, x_isStr1, x_isStr2, x_isStr3, x_isStr4, x_isStr5, x_isTuple0, x_isTuple1, x_isTuple2, x_isTuple3, x_isTuple4, x_isTuple5, x_isList0, x_isList1, x_isList2, x_isList3, x_isList4, x_isList5, x_isSeq0, x_isSeq1, x_isSeq2, x_isSeq3, x_isSeq4, x_isSeq5, x_setall0,
  List.map_cons, List.map_nil, List.length_cons, List.length_nil, List.replicate_succ, List.replicate_zero, List.cons_append, List.nil_append, List.append_nil, Nat.reduceSub, Nat.reduceAdd, Nat.sub_self, Nat.zero_add, List.getElem?_cons_zero, List.getElem?_cons_succ, List.set_cons_zero, List.set_cons_succ, Option.some.injEq, Sl.sh.injEq, Sl.ow.injEq, D.bl.injEq, D.int.injEq, D.tup.injEq, D.lst.injEq, D.obj.injEq, exists_eq_left', exists_eq_left, true_and, and_true, Option.map_some, reduceCtorEq, if_true, if_false, ite_true, ite_false, Bool.not_true, Bool.not_false, decide_eq_true_eq, Bool.false_eq_true, eq_self_iff_true, List.mem_singleton, List.lookup, beq_self_eq_true, Bool.true_eq_false, atI0, atI1, atI2, atI3, atI4, eqD_int, eqD_str, eqD_row, eqD_row0, ex_if, sizeLine_eq, Nat.reduceLeDiff, row_len, row_app, row_cut, row_rev, Bool.not_eq_true', decide_eq_false_iff_not, List.length_map, List.length_append, Nat.reduceLT])
local macro_rules | `(tactic| walk_at "c") => `(tactic| repeat (first | assumption | rw [if_neg (by decide +kernel)] | rw [if_pos (by decide +kernel)] | refine ⟨by decide +kernel, ?_⟩ | refine ⟨⟨by decide, by decide⟩, ?_⟩ | refine ⟨_, rfl, ?_⟩))
/-! ### numbers as texts -/
open PySem.NumText in
def Dig (t : Str) : Bool := t.cps.toList.all fun c => decide (48 ≤ c) && decide (c ≤ 57)
def numIn (t : Str) : Option Int :=
  if 1 ≤ t.length ∧ t.length ≤ 5 ∧ Dig t = true then (if t.cps.toList[0]? = some 48 ∧ t ≠ "0" then none else some ((NumText.digitsVal t.cps.toList : Nat) : Int)) else none
theorem dig_all {t : Str} (h : Dig t = true) : NumText.AllDigits t.cps.toList := fun c hc => by
  have := List.all_eq_true.mp h c hc
  simpa using this
theorem tsI (n : Nat) : (Str.ofString (toString ((n : Nat) : Int))).cps.toList = numL n := tl_num n
theorem str_ext {x y : Str} (h : x.cps.toList = y.cps.toList) : x = y := by
  cases x; cases y
  congr 1
  exact Array.toList_inj.mp h
/-- a figure's text of a number is this text -/
theorem numIn_str {t : Str} {i : Int} (h : numIn t = some i) : Str.ofString (toString i) = t ∧ 0 ≤ i ∧ i ≤ 99999 := by
  unfold numIn at h
  split at h
  · rename_i hc
    obtain ⟨h1, h2, h3⟩ := hc
    split at h
    · cases h
    · rename_i h4
      cases h
      have hd := dig_all h3
      have hl : t.cps.toList.length = t.length := Array.length_toList
      refine ⟨str_ext ?_, by omega, ?_⟩
      · rw [tsI]
        show (Nat.toDigits 10 _).map Char.toNat = _
        cases e : t.cps.toList with
        | nil => rw [e] at hl; simp at hl; omega
        | cons c r =>
          rw [e] at hd
          have e2 : r.length = 0 ∨ ∃ c' r', c :: r = c' :: r' ∧ 49 ≤ c' := by
            by_cases hc : c = 48
            · left
              have h5 : t = "0" := by
                refine Classical.byContradiction fun z => h4 ⟨?_, z⟩
                rw [e, hc]; rfl
              rw [h5] at e
              have : (Str.ofString "0").cps.toList = [48] := by decide +kernel
              rw [this] at e
              cases e
              rfl
            · right
              have := hd c (.head _)
              exact ⟨c, r, rfl, by omega⟩
          rw [NumText.toDigits_digitsVal r.length (c :: r) rfl hd e2, List.map_map]
          have : ∀ l : List Nat, NumText.AllDigits l → l.map (Char.toNat ∘ Char.ofNat) = l := by
            intro l
            induction l with
            | nil => intro _; rfl
            | cons a q ih =>
              intro hq
              have ha := hq a (.head _)
              rw [List.map_cons, ih (fun z hz => hq z (.tail _ hz))]
              congr 1
              have : a = 48 ∨ a = 49 ∨ a = 50 ∨ a = 51 ∨ a = 52 ∨ a = 53 ∨ a = 54 ∨ a = 55 ∨ a = 56 ∨ a = 57 := by omega
              rcases this with rfl | rfl | rfl | rfl | rfl | rfl | rfl | rfl | rfl | rfl <;> decide
          exact this _ hd
      · have : ∀ (l : List Nat) (a k : Nat), NumText.AllDigits l → a < 10 ^ k → l.foldl (fun acc c => acc * 10 + (c - 48)) a < 10 ^ (k + l.length) := by
          intro l
          induction l with
          | nil => intro a k _ h; exact h
          | cons c r ih =>
            intro a k hq ha
            have hc := hq c (.head _)
            rw [List.foldl_cons, List.length_cons, show k + (r.length + 1) = (k + 1) + r.length by omega]
            refine ih _ _ (fun z hz => hq z (.tail _ hz)) ?_
            rw [Nat.pow_succ]
            omega
        have h6 := this t.cps.toList 0 0 hd (by decide)
        have h7 : (10 : Nat) ^ (0 + t.cps.toList.length) ≤ 10 ^ 5 := Nat.pow_le_pow_right (by decide) (by omega)
        have h8 : NumText.digitsVal t.cps.toList < 100000 := Nat.lt_of_lt_of_le h6 h7
        omega
  · cases h
theorem numIn_of {n : Nat} (h : n ≤ 99999) : numIn (Str.ofString (toString (n : Int))) = some (n : Int) := by
  have hl : (Str.ofString (toString (n : Int))).cps.toList.length = (Str.ofString (toString (n : Int))).length := Array.length_toList
  rw [tsI] at hl
  have h5 := numL_len (n := n) (k := 5) (by decide) (by omega)
  have hne := numL_ne n
  have hdg : Dig (Str.ofString (toString (n : Int))) = true := by
    unfold Dig
    rw [tsI, List.all_eq_true]
    intro c hc
    have := numL_digits n c hc
    simp [this.1, this.2]
  have h1 : 1 ≤ (numL n).length := by
    cases q : numL n with
    | nil => exact absurd q hne
    | cons a b => simp
  unfold numIn
  rw [if_pos ⟨by omega, by omega, hdg⟩, tsI, numL_val, if_neg]
  rintro ⟨h2, h3⟩
  by_cases hn : n < 10
  · rw [numL_lt hn] at h2
    have : n = 0 := by simpa using h2
    exact h3 (by rw [this]; decide +kernel)
  · have head : ∀ m : Nat, 10 ≤ m → (numL m)[0]? ≠ some 48 := by
      intro m
      induction m using Nat.strongRecOn with
      | _ m ih =>
        intro hm
        rw [numL_step hm]
        by_cases hm2 : m / 10 < 10
        · rw [numL_lt hm2]
          intro z
          have : 48 + m / 10 = 48 := by simpa using z
          omega
        · have := ih (m / 10) (by omega) (by omega)
          rw [List.getElem?_append_left (by
            have := numL_ne (m / 10)
            cases q : numL (m / 10) with
            | nil => exact absurd q this
            | cons a b => simp)]
          exact this
    exact head n (by omega) h2
def sgn (t : Str) : Option Int :=
  if Txt.startswith t "-" = true then (match numIn (cutS t (some 1) none) with
    | none => none
    | some i => if i = 0 then none else some (0 - i)) else numIn t
theorem starts_minus (t : Str) : Txt.startswith t "-" = true ↔ t.cps.toList[0]? = some 45 := by
  have e1 : (Str.ofString "-").cps = #[45] := by decide +kernel
  have e2 : (Str.ofString "-").length = 1 := by decide +kernel
  unfold Txt.startswith Builtin.Str.subAt
  rw [e1, e2, Bool.and_eq_true, decide_eq_true_eq]
  obtain ⟨⟨l⟩⟩ := t
  show 0 + 1 ≤ l.length ∧ _ ↔ l[0]? = some 45
  cases l with
  | nil => simp
  | cons c r =>
    simp only [List.length_cons, List.getElem?_cons_zero, Option.some.injEq]
    have : (Array.extract (List.toArray (c :: r)) 0 (0 + 1)) = #[c] := by simp
    constructor
    · rintro ⟨_, h⟩
      have h := eq_of_beq h
      rw [this] at h
      simpa using h
    · intro h
      refine ⟨by omega, ?_⟩
      rw [this, h]
      rfl
theorem cut1_list (t : Str) : (cutS t (some 1) none).cps.toList = t.cps.toList.drop 1 := by
  show ((t.cps.toList.drop (HT.sIx t.length 0 (some 1))).take (HT.sIx t.length t.length none - HT.sIx t.length 0 (some 1))).toArray.toList = _
  have hl : t.cps.toList.length = t.length := Array.length_toList
  rw [List.toList_toArray, sIx_pos (by decide), show HT.sIx t.length t.length none = t.length from rfl]
  by_cases h : 1 ≤ t.length
  · rw [show min (Int.toNat 1) t.length = 1 by simp; omega, List.take_of_length_le (by rw [List.length_drop]; omega)]
  · have h0 : t.cps.toList = [] := List.eq_nil_of_length_eq_zero (by omega)
    rw [h0]; simp
theorem neg_text {n : Nat} (h : 0 < n) : (Str.ofString (toString (-(n : Int)))).cps.toList = 45 :: numL n := by
  have e : toString (-(n : Int)) = "-" ++ toString (n : Int) := by
    cases n with
    | zero => omega
    | succ m => rfl
  have s := PyProof.Rows.signs_ofString ("-" ++ toString (n : Int))
  rw [e, s, String.toList_append, List.map_append, show ("-" : String).toList.map Char.toNat = [45] by decide, ← PyProof.Rows.signs_ofString, tsI]
  rfl
theorem numL_no45 (n : Nat) : (numL n)[0]? ≠ some 45 := fun h => numL_free (n := n) (s := 45) (.inl (by decide)) (List.mem_of_getElem? h)
theorem sgn_str {t : Str} {i : Int} (h : sgn t = some i) : Str.ofString (toString i) = t ∧ -99999 ≤ i ∧ i ≤ 99999 := by
  unfold sgn at h
  split at h
  · rename_i hs
    have h45 := (starts_minus t).mp hs
    split at h
    · cases h
    · rename_i j hj
      split at h
      · cases h
      · rename_i hz
        cases h
        obtain ⟨h1, h2, h3⟩ := numIn_str hj
        obtain ⟨n, rfl⟩ := Int.eq_ofNat_of_zero_le h2
        refine ⟨str_ext ?_, by omega, by omega⟩
        have e : (Str.ofString (toString (n : Int))).cps.toList = (cutS t (some 1) none).cps.toList := congrArg (fun z : Str => z.cps.toList) h1
        rw [tsI, cut1_list] at e
        rw [show (0 - (n : Int)) = -(n : Int) by omega, neg_text (by omega), e]
        cases q : t.cps.toList with
        | nil => rw [q] at h45; cases h45
        | cons c r =>
          rw [q] at h45
          have : c = 45 := by simpa using h45
          rw [this]; rfl
  · obtain ⟨h1, h2, h3⟩ := numIn_str h
    exact ⟨h1, by omega, h3⟩
theorem sgn_of {i : Int} (h0 : -99999 ≤ i) (h1 : i ≤ 99999) : sgn (Str.ofString (toString i)) = some i := by
  unfold sgn
  by_cases hi : 0 ≤ i
  · obtain ⟨n, rfl⟩ := Int.eq_ofNat_of_zero_le hi
    rw [if_neg (fun z => by
      have := (starts_minus _).mp z
      rw [tsI] at this
      exact numL_no45 n this)]
    exact numIn_of (by omega)
  · obtain ⟨n, rfl⟩ : ∃ n : Nat, i = -(n : Int) := ⟨i.natAbs, by omega⟩
    have hn : 0 < n := by omega
    rw [if_pos ((starts_minus _).mpr (by rw [neg_text hn]; rfl))]
    have e : cutS (Str.ofString (toString (-(n : Int)))) (some 1) none = Str.ofString (toString (n : Int)) := str_ext (by rw [cut1_list, neg_text hn, tsI]; rfl)
    rw [e, numIn_of (by omega)]
    show (if (n : Int) = 0 then none else some (0 - (n : Int))) = _
    rw [if_neg (by omega)]
    congr 1
    omega
/-! ### the parts of a word -/
def sg (c : Nat) : Str := ⟨#[c]⟩
def numP : D → List Str
  | .int i => [Str.ofString (toString i)]
  | _ => []
def partsOf (x l : Str) (b : D) : List Str := x :: (l.cps.toList.map sg ++ numP b)
def txt (x l : Str) (b : D) : Str := Txt.join (Str.ofString " ") (partsOf x l b)
theorem blank1 : tl (Str.ofString " ") = 32 :: [] := by decide +kernel
theorem split_txt {ps : List Str} (hne : ps ≠ []) (hp : ∀ p ∈ ps, 32 ∉ p.cps.toList) : Txt.split (Txt.join (Str.ofString " ") ps) (Str.ofString " ") = ps := TL.split_join (s := 32) (S := []) blank1 (by decide +kernel) hne hp
theorem join_back (z : Str) : Txt.join (Str.ofString " ") (Txt.split z (Str.ofString " ")) = z := by
  rw [TL.join_eq, StrLaws.join_split]
theorem tab_free : ∀ e ∈ tab, 32 ∉ e.1.cps.toList := by decide +kernel
theorem lt_free : ∀ e ∈ lt, 32 ∉ e.2.2.cps.toList ∧ e.2.2.length = e.1.length := by decide +kernel
end C05


namespace C05
open PySem L2 Br Dn Tr TL
local macro_rules | `(tactic| walk_at "d") => `(tactic| try simp only [dDef, shP, gIntS, gListS, gMulS, dSplit, dStarts, gCD, gCDIn, gCDNotIn, gCDGet, dSIdx, dPutO, dOwnD0, dSee, dIfO, dCallO0, dCallO, dActS, dRetS, dRetO, dDefS, dLamS, Sl.out, startD, dSeq, dNext, dSet, dSetO, dPar, dRet, dRetN, dIfS, dExpr, dAug, dVar, dC, dNil, dCons, dApp, dCall0, dCall, dAnd, dOr, dIf, dChain, dNew, dOwn, dSh, dOwnL, dOwnF, dUn, dBor, frz, frzB, dMut, dRaise, dTry, dIxO, dCat, dLam, dLamDef, dAct, y_isDict0, y_isDict1, y_isDict2, y_isDict3, y_isDict4, y_isDict5, y_isDict6, y_keys, y_revL, y_sum1, y_sum2, y_xf, y_isX, dMakeX, dMakeX0, dMakeK, dEqT, dLenO, dBorL, frzL, dDct0, y_isInt6, y_isBool6, y_isStr6, y_isTuple6, y_isList6, y_isSeq6, y_len4, y_inS, y_notInS, y_in1, y_in2, y_ne0, y_ne0L, y_eq0, y_isB, y_isNotB, y_revS, y_addN1, y_addN2, y_subN1, y_subN2, y_subN3, y_strN1, y_strN2, y_zipS, y_dget, y_dnotin, y_din, y_key1, y_key2, eqD_bl', dUnp, dGet1, dSortD, dJoin, dUpper, dDisp, dDispO, dUpd, dDc, x_tg3, x_setall1, dFst, dMake, dInit, dCmpO, dFor, dIt, dLc, wipeD, dSl, dNoB, dB, D.isN, D.flat, putD,
  x_add1, x_add2, x_add3, x_add4, x_i2, x_sub, x_lt, x_le, x_gt, x_ge, x_mod, x_div, x_pow, x_mul1, x_mul2, x_mul3, x_neg, x_not, x_tupl, x_list, x_len1, x_len2, x_len3, x_abs, x_min, x_max, x_int1, x_int2, x_tuple1, x_tuple2, x_listof1, x_listof2, x_iter1, x_iter2, x_iter3, x_range, x_range2, x_enum1, x_enum2, x_enum3, x_enumK, x_isi, x_isown, x_is, x_isnot, x_revT, x_sl1, x_sl2, x_sl3, x_ix1, x_ix2, x_ix3, x_fld, x_catL, x_append, x_extend1, x_extend2, x_insert, x_tg1, x_tg2, x_tg3, x_setall1, x_eq, x_ne, x_isInt0, x_isInt1, x_isInt2, x_isInt3, x_isInt4, x_isInt5, x_isBool0, x_isBool1, x_isBool2, x_isBool3, x_isBool4, x_isBool5, x_isStr0, x_isStr1, x_isStr2, x_isStr3, x_isStr4, x_isStr5, x_isTuple0, x_isTuple1, x_isTuple2, x_isTuple3, x_isTuple4, x_isTuple5, x_isList0, x_isList1, x_isList2, x_isList3, x_isList4, x_isList5, x_isSeq0, x_isSeq1, x_isSeq2, x_isSeq3, x_isSeq4, x_isSeq5, x_setall0,
  List.map_cons, List.map_nil, List.length_cons, List.length_nil, List.replicate_succ, List.replicate_zero, List.cons_append, List.nil_append, List.append_nil, Nat.reduceSub, Nat.reduceAdd, Nat.sub_self, Nat.zero_add, List.getElem?_cons_zero, List.getElem?_cons_succ, List.set_cons_zero, List.set_cons_succ, Option.some.injEq, Sl.sh.injEq, Sl.ow.injEq, D.bl.injEq, D.int.injEq, D.tup.injEq, D.lst.injEq, D.obj.injEq, exists_eq_left', exists_eq_left, true_and, and_true, Option.map_some, reduceCtorEq, if_true, if_false, ite_true, ite_false, Bool.not_true, Bool.not_false, decide_eq_true_eq, Bool.false_eq_true, eq_self_iff_true, List.mem_singleton, List.lookup, beq_self_eq_true, Bool.true_eq_false, atI0, atI1, atI2, atI3, atI4, eqD_int, eqD_str, eqD_row, eqD_row0, ex_if, sizeLine_eq, Nat.reduceLeDiff, row_len, row_app, row_cut, row_rev, Bool.not_eq_true', decide_eq_false_iff_not, List.length_map, List.length_append, Nat.reduceLT])
local macro_rules | `(tactic| walk_at "c") => `(tactic| repeat (first | assumption | rw [if_neg (by decide +kernel)] | rw [if_pos (by decide +kernel)] | refine ⟨by decide +kernel, ?_⟩ | refine ⟨⟨by decide, by decide⟩, ?_⟩ | refine ⟨_, rfl, ?_⟩))
/-! ### numbers in words -/
def digD : D → D
  | .str z => match z.cps.toList with
    | [c] => .bl (decide (48 ≤ c) && decide (c ≤ 57))
    | _ => .non
  | _ => .non
theorem fig_mem (c : Nat) : decide (c ∈ (Str.ofString "0123456789").cps.toList) = (decide (48 ≤ c) && decide (c ≤ 57)) := by
  have e : (Str.ofString "0123456789").cps.toList = [48, 49, 50, 51, 52, 53, 54, 55, 56, 57] := by decide +kernel
  rw [e, Bool.eq_iff_iff]
  simp only [List.mem_cons, List.not_mem_nil, or_false, decide_eq_true_eq, Bool.and_eq_true]
  omega
theorem u_number_in {t : Str} {n : Nat} {P : D → Nat → Prop} {E : XD} (hl : t.length ≤ 100000) (h : P (match numIn t with | some i => .int i | none => .non) n) : U_number_in [.str t] n P E := by
  have hlt : t.cps.toList.length = t.length := Array.length_toList
  unfold U_number_in B_number_in
  walk_at "d"
  refine ⟨by omega, ?_⟩
  have bad : ¬ (1 ≤ t.length ∧ t.length ≤ 5 ∧ Dig t = true) → P .non n := fun z => by
    unfold numIn at h
    rw [if_neg z] at h
    exact h
  refine iteI (fun h1 => ?_) (fun h1 => ?_)
  · refine iteI (fun h2 => ?_) (fun h2 => ?_)
    · exact bad (by omega)
    · refine ⟨by unfold Dn.signs; rw [List.length_map]; omega, lc_pure digD (fun x hx => ?_) ?_⟩
      · unfold Dn.signs at hx
        obtain ⟨c, hc, rfl⟩ := List.mem_map.mp hx
        refine ⟨_, rfl, fun n Q q => ?_⟩
        walk_at "d"
        rw [fig_mem]
        exact q
      · have e : (signs t).map digD = t.cps.toList.map fun c => .bl (decide (48 ≤ c) && decide (c ≤ 57)) := by
          unfold Dn.signs
          rw [List.map_map]; rfl
        rw [e]
        refine ⟨_, gAll_map (fun c : Nat => decide (48 ≤ c) && decide (c ≤ 57)) _, ?_⟩
        refine ⟨_, rfl, _, rfl, ?_⟩
        have ed : (t.cps.toList.all fun c => decide (48 ≤ c) && decide (c ≤ 57)) = Dig t := rfl
        rw [ed]
        cases hd : Dig t with
        | false =>
          rw [if_pos (by rfl)]
          exact bad (by rw [hd]; simp)
        | true =>
          rw [if_neg (by simp)]
          unfold R_number_in_1
          walk_at "d"
          cases q : t.cps.toList with
          | nil => rw [q] at hlt; simp at hlt; omega
          | cons c r =>
            rw [atI0]
            refine ⟨_, by rw [if_pos (by omega)]; rfl, ?_⟩
            walk_at "d"
            have e0 : (Str.ofString "0") = ⟨#[48]⟩ := by decide +kernel
            have hn : numIn t = if t.cps.toList[0]? = some 48 ∧ t ≠ "0" then none else some ((NumText.digitsVal t.cps.toList : Nat) : Int) := by
              unfold numIn
              rw [if_pos ⟨by omega, by omega, hd⟩]
            have fin : ¬ (t.cps.toList[0]? = some 48 ∧ t ≠ "0") → ∃ d, gIntS [.str t] = some d ∧ P d n := fun z => by
              rw [if_neg z] at hn
              rw [hn] at h
              refine ⟨_, ?_, h⟩
              show (if t.length ≤ 640 then (intText? t).map D.int else none) = _
              rw [if_pos (by omega), PySem.intText_digits (dig_all hd) (by rw [q]; simp) (by omega)]
              rfl
            refine iteI (fun h3 => ?_) (fun h3 => ?_)
            · have hc : c = 48 := by
                rw [e0] at h3
                have := congrArg (fun z : Str => z.cps.toList) h3
                simpa using this
              refine iteI (fun h4 => ?_) (fun h4 => ?_)
              · rw [if_pos ⟨by rw [q, hc]; rfl, h4⟩] at hn
                rw [hn] at h
                exact h
              · exact fin (fun z => h4 z.2)
            · refine fin (fun z => h3 ?_)
              have := z.1
              rw [q] at this
              have : c = 48 := by simpa using this
              rw [e0, this]
  · exact bad (by omega)
theorem u_signed_in {t : Str} {n : Nat} {P : D → Nat → Prop} {E : XD} (hl : t.length ≤ 100000) (h : P (match sgn t with | some i => .int i | none => .non) n) : U_signed_in [.str t] n P E := by
  unfold U_signed_in B_signed_in
  walk_at "d"
  refine ⟨t, rfl, _, rfl, ?_⟩
  unfold sgn at h
  refine iteI (fun h1 => ?_) (fun h1 => ?_)
  · rw [if_neg (by rw [h1]; simp)] at h
    exact u_number_in hl h
  · rw [if_pos (by simpa using h1)] at h
    unfold R_signed_in_1
    walk_at "d"
    have hc : (cutS t (some 1) none).length ≤ t.length := cutS_length t _ _
    refine ⟨by omega, u_number_in (by omega) ?_⟩
    cases q : numIn (cutS t (some 1) none) with
    | none =>
      rw [q] at h
      walk_at "d"
      exact h
    | some i =>
      rw [q] at h
      walk_at "d"
      dsimp only at h
      refine iteI (fun h2 => ?_) (fun h2 => ?_)
      · rw [if_pos h2] at h
        exact h
      · rw [if_neg h2] at h
        exact h
end C05


namespace C05
open PySem L2 Br Dn Tr TL
local macro_rules | `(tactic| walk_at "d") => `(tactic| try simp only [dDef, shP, gIntS, gListS, gMulS, dSplit, dStarts, gCD, gCDIn, gCDNotIn, gCDGet, dSIdx, dPutO, dOwnD0, dSee, dIfO, dCallO0, dCallO, dActS, dRetS, dRetO, dDefS, dLamS, Sl.out, startD, dSeq, dNext, dSet, dSetO, dPar, dRet, dRetN, dIfS, dExpr, dAug, dVar, dC, dNil, dCons, dApp, dCall0, dCall, dAnd, dOr, dIf, dChain, dNew, dOwn, dSh, dOwnL, dOwnF, dUn, dBor, frz, frzB, dMut, dRaise, dTry, dIxO, dCat, dLam, dLamDef, dAct, y_isDict0, y_isDict1, y_isDict2, y_isDict3, y_isDict4, y_isDict5, y_isDict6, y_keys, y_revL, y_sum1, y_sum2, y_xf, y_isX, dMakeX, dMakeX0, dMakeK, dEqT, dLenO, dBorL, frzL, dDct0, y_isInt6, y_isBool6, y_isStr6, y_isTuple6, y_isList6, y_isSeq6, y_len4, y_inS, y_notInS, y_in1, y_in2, y_ne0, y_ne0L, y_eq0, y_isB, y_isNotB, y_revS, y_addN1, y_addN2, y_subN1, y_subN2, y_subN3, y_strN1, y_strN2, y_zipS, y_dget, y_dnotin, y_din, y_key1, y_key2, eqD_bl', dUnp, dGet1, dSortD, dJoin, dUpper, dDisp, dDispO, dUpd, dDc, x_tg3, x_setall1, dFst, dMake, dInit, dCmpO, dFor, dIt, dLc, wipeD, dSl, dNoB, dB, D.isN, D.flat, putD,
  x_add1, x_add2, x_add3, x_add4, x_i2, x_sub, x_lt, x_le, x_gt, x_ge, x_mod, x_div, x_pow, x_mul1, x_mul2, x_mul3, x_neg, x_not, x_tupl, x_list, x_len1, x_len2, x_len3, x_abs, x_min, x_max, x_int1, x_int2, x_tuple1, x_tuple2, x_listof1, x_listof2, x_iter1, x_iter2, x_iter3, x_range, x_range2, x_enum1, x_enum2, x_enum3, x_enumK, x_isi, x_isown, x_is, x_isnot, x_revT, x_sl1, x_sl2, x_sl3, x_ix1, x_ix2, x_ix3, x_fld, x_catL, x_append, x_extend1, x_extend2, x_insert, x_tg1, x_tg2, x_tg3, x_setall1, x_eq, x_ne, x_isInt0, x_isInt1, x_isInt2, x_isInt3, x_isInt4, x_isInt5, x_isBool0, x_isBool1, x_isBool2, x_isBool3, x_isBool4, x_isBool5, x_isStr0, x_isStr1, x_isStr2, x_isStr3, x_isStr4, x_isStr5, x_isTuple0, x_isTuple1, x_isTuple2, x_isTuple3, x_isTuple4, x_isTuple5, x_isList0, x_isList1, x_isList2, x_isList3, x_isList4, x_isList5, x_isSeq0, x_isSeq1, x_isSeq2, x_isSeq3, x_isSeq4, x_isSeq5, x_setall0,
  List.map_cons, List.map_nil, List.length_cons, List.length_nil, List.replicate_succ, List.replicate_zero, List.cons_append, List.nil_append, List.append_nil, Nat.reduceSub, Nat.reduceAdd, Nat.sub_self, Nat.zero_add, List.getElem?_cons_zero, List.getElem?_cons_succ, List.set_cons_zero, List.set_cons_succ, Option.some.injEq, Sl.sh.injEq, Sl.ow.injEq, D.bl.injEq, D.int.injEq, D.tup.injEq, D.lst.injEq, D.obj.injEq, exists_eq_left', exists_eq_left, true_and, and_true, Option.map_some, reduceCtorEq, if_true, if_false, ite_true, ite_false, Bool.not_true, Bool.not_false, decide_eq_true_eq, Bool.false_eq_true, eq_self_iff_true, List.mem_singleton, List.lookup, beq_self_eq_true, Bool.true_eq_false, atI0, atI1, atI2, atI3, atI4, eqD_int, eqD_str, eqD_row, eqD_row0, ex_if, sizeLine_eq, Nat.reduceLeDiff, row_len, row_app, row_cut, row_rev, Bool.not_eq_true', decide_eq_false_iff_not, List.length_map, List.length_append, Nat.reduceLT])
local macro_rules | `(tactic| walk_at "c") => `(tactic| repeat (first | assumption | rw [if_neg (by decide +kernel)] | rw [if_pos (by decide +kernel)] | refine ⟨by decide +kernel, ?_⟩ | refine ⟨⟨by decide, by decide⟩, ?_⟩ | refine ⟨_, rfl, ?_⟩))
/-! ### words as texts -/
def NumB (b : D) : Prop := b = .non ∨ ∃ i : Int, b = .int i ∧ -99999 ≤ i ∧ i ≤ 99999
theorem num_len {i : Int} (h0 : -99999 ≤ i) (h1 : i ≤ 99999) : (Str.ofString (toString i)).length ≤ 7 := by
  have := int_text_length_le10 (a := i) (k := 6) (by decide) (by omega)
  rw [Br.ofString_len]
  omega
theorem sum_sg (l : List Nat) : ((l.map sg).map (fun x => x.length)).sum = l.length := by
  induction l with
  | nil => rfl
  | cons c r ih => rw [List.map_cons, List.map_cons, List.sum_cons, ih, List.length_cons]; show 1 + r.length = _; omega
theorem parts_sum {x l : Str} {b : D} (hb : NumB b) : ((partsOf x l b).map (fun x => x.length)).sum ≤ x.length + l.length + 7 ∧ (partsOf x l b).length ≤ l.length + 2 := by
  have hl : l.cps.toList.length = l.length := Array.length_toList
  unfold partsOf
  rw [List.map_cons, List.sum_cons, List.map_append, List.sum_append, sum_sg, List.length_cons, List.length_append, List.length_map, hl]
  rcases hb with rfl | ⟨i, rfl, h0, h1⟩
  · exact ⟨by show x.length + (l.length + 0) ≤ _; omega, by show l.length + 0 + 1 ≤ _; omega⟩
  · have := num_len h0 h1
    exact ⟨by show x.length + (l.length + ((Str.ofString (toString i)).length + 0)) ≤ _; omega, by show l.length + 1 + 1 ≤ _; omega⟩
theorem parts_map (x l : Str) (b : D) : (partsOf x l b).map D.str = D.str x :: (signs l ++ (numP b).map D.str) := by
  unfold partsOf Dn.signs
  rw [List.map_cons, List.map_append, List.map_map]
  rfl
theorem one_blank : (Str.ofString " ").length = 1 := by decide +kernel
theorem log_small {i : Int} (h0 : -99999 ≤ i) (h1 : i ≤ 99999) : i.natAbs.log2 < 1920 := by
  have : i.natAbs < 2 ^ 17 := by
    have : (2 : Nat) ^ 17 = 131072 := by decide
    omega
  have := log2_lt this
  omega
theorem u_show_word {x l : Str} {b : D} {n : Nat} {P : D → Nat → Prop} {E : XD} (hx : x.length ≤ 1000) (hl : l.length ≤ 1000) (hb : NumB b) (h : P (.str (txt x l b)) n) : U_show_word [.tup [.str x, .str l, b]] n P E := by
  have hs := parts_sum (x := x) (l := l) hb
  have hm := parts_map x l b
  have hsl : (signs l).length = l.length := by unfold Dn.signs; rw [List.length_map]; exact Array.length_toList
  unfold U_show_word B_show_word
  walk_at "d"
  refine ⟨_, rfl, ?_⟩
  walk_at "d"
  have fin : ∀ ys, ys = partsOf x l b → (ys.map (fun x => x.length)).sum + ys.length * (Str.ofString " ").length ≤ 16777216 ∧ P (.str (Txt.join (Str.ofString " ") ys)) n := by
    rintro _ rfl
    rw [one_blank]
    exact ⟨by omega, h⟩
  refine ⟨by omega, by omega, ?_⟩
  rcases hb with rfl | ⟨i, rfl, h0, h1⟩
  · rw [if_pos rfl]
    refine ⟨by omega, _, .inl ?_, fin _ rfl⟩
    rw [hm]
    show _ = D.str x :: (signs l ++ [])
    rw [List.append_nil]
  · rw [if_neg (by simp)]
    refine ⟨.str (toString i), by show (if i.natAbs.log2 < 1920 then some (D.str (toString i)) else none) = _; rw [if_pos (log_small h0 h1)], by omega, _, .inl ?_, fin _ rfl⟩
    rw [hm]
    rfl
theorem u_text {x l : Str} {b : D} {n : Nat} {P : D → Nat → Prop} {E : XD} (hx : x.length ≤ 1000) (hl : l.length ≤ 1000) (hb : NumB b) (h : P (.str (txt x l b)) n) : U__law_text [.tup [.str x, .str l, b]] n P E := by
  have hs := parts_sum (x := x) (l := l) hb
  have hm := parts_map x l b
  have hsl : (signs l).length = l.length := by unfold Dn.signs; rw [List.length_map]; exact Array.length_toList
  unfold U__law_text B__law_text
  walk_at "d"
  have fin : ∀ ys, ys = partsOf x l b → (ys.map (fun x => x.length)).sum + ys.length * (Str.ofString " ").length ≤ 16777216 ∧ P (.str (Txt.join (Str.ofString " ") ys)) n := by
    rintro _ rfl
    rw [one_blank]
    exact ⟨by omega, h⟩
  refine ⟨_, rfl, by omega, by omega, ?_⟩
  rw [show cut [D.str x, D.str l, b] (some 2) none = [b] from rfl]
  refine ⟨by simp, ?_⟩
  unfold lcGo
  refine ⟨_, rfl, ?_⟩
  walk_at "d"
  rcases hb with rfl | ⟨i, rfl, h0, h1⟩
  · walk_at "d"
    unfold lcGo
    refine ⟨by show (signs l).length + 1 + 0 ≤ _; omega, _, .inl ?_, fin _ rfl⟩
    rw [hm]
    rfl
  · walk_at "d"
    refine ⟨.str (toString i), by show (if i.natAbs.log2 < 1920 then some (D.str (toString i)) else none) = _; rw [if_pos (log_small h0 h1)], ?_⟩
    unfold lcGo
    refine ⟨by show (signs l).length + 1 + 1 ≤ _; omega, _, .inl ?_, fin _ rfl⟩
    rw [hm]
    rfl
/-! ### what a text reads as -/
def rdW (z : Str) : Option D :=
  match Txt.split z (Str.ofString " ") with
  | [] => none
  | p :: r => match look p with
    | none => none
    | some e =>
      if ((r.take e.2.2.1.length).all fun x => decide (x.length = 1)) = true ∧ ((r.drop e.2.2.1.length).length : Int) = (if 0 < e.2.2.2 then 1 else 0) then
        (let w := D.tup [.str e.1, .str (Txt.join (Str.ofString "") (r.take e.2.2.1.length)), if 0 < e.2.2.2 then (match sgn ((r.drop e.2.2.1.length).headD "") with | some i => .int i | none => .non) else .non]
         if W w = true then some w else none)
      else none
theorem spl_ne (S : List Nat) : ∀ (l : List Nat) (k : Nat) (acc : List Nat), TL.spl S k acc l ≠ []
  | [], k, acc => by cases k <;> (unfold TL.spl; simp)
  | c :: r, 0, acc => by
    unfold TL.spl
    split
    · simp
    · exact spl_ne S r 0 _
  | c :: r, k + 1, acc => by
    unfold TL.spl
    exact spl_ne S r k _
theorem split_ne (z : Str) : Txt.split z (Str.ofString " ") ≠ [] := by
  intro h
  have := TL.split_spl z (Str.ofString " ") (by rw [blank1]; simp) (TL.kind_ok (by decide +kernel))
  rw [h] at this
  exact spl_ne _ _ _ _ this.symm
theorem str_add_len (x y : Str) : (x ++ y).length = x.length + y.length := by
  show (x.cps ++ y.cps).size = _
  rw [Array.size_append]; rfl
theorem join_part (y : Str) : ∀ (ps : List Str) (p : Str), p ∈ ps → p.length ≤ (Str.join y ps).length
  | [], p, h => by cases h
  | [q], p, h => by
    rw [List.mem_singleton] at h
    rw [h]; exact Nat.le_refl _
  | q :: q2 :: r, p, h => by
    show p.length ≤ (q ++ y ++ Str.join y (q2 :: r)).length
    rw [str_add_len, str_add_len]
    rcases List.mem_cons.mp h with rfl | h
    · omega
    · have := join_part y (q2 :: r) p h
      omega
theorem split_part {z p : Str} (h : p ∈ Txt.split z (Str.ofString " ")) : p.length ≤ z.length := by
  have := join_part (Str.ofString " ") _ p h
  rw [StrLaws.join_split] at this
  exact this
theorem cut_strs (ys : List Str) (lo hi : Option Int) : cut (ys.map D.str) lo hi = (cut ys lo hi).map D.str := by
  unfold cut
  rw [List.length_map, ← List.map_drop, ← List.map_take]
def oneD : D → D
  | .str z => .bl (decide (z.length = 1))
  | _ => .non
end C05


namespace C05
open PySem L2 Br Dn Tr TL
local macro_rules | `(tactic| walk_at "d") => `(tactic| try simp only [dDef, shP, gIntS, gListS, gMulS, dSplit, dStarts, gCD, gCDIn, gCDNotIn, gCDGet, dSIdx, dPutO, dOwnD0, dSee, dIfO, dCallO0, dCallO, dActS, dRetS, dRetO, dDefS, dLamS, Sl.out, startD, dSeq, dNext, dSet, dSetO, dPar, dRet, dRetN, dIfS, dExpr, dAug, dVar, dC, dNil, dCons, dApp, dCall0, dCall, dAnd, dOr, dIf, dChain, dNew, dOwn, dSh, dOwnL, dOwnF, dUn, dBor, frz, frzB, dMut, dRaise, dTry, dIxO, dCat, dLam, dLamDef, dAct, y_isDict0, y_isDict1, y_isDict2, y_isDict3, y_isDict4, y_isDict5, y_isDict6, y_keys, y_revL, y_sum1, y_sum2, y_xf, y_isX, dMakeX, dMakeX0, dMakeK, dEqT, dLenO, dBorL, frzL, dDct0, y_isInt6, y_isBool6, y_isStr6, y_isTuple6, y_isList6, y_isSeq6, y_len4, y_inS, y_notInS, y_in1, y_in2, y_ne0, y_ne0L, y_eq0, y_isB, y_isNotB, y_revS, y_addN1, y_addN2, y_subN1, y_subN2, y_subN3, y_strN1, y_strN2, y_zipS, y_dget, y_dnotin, y_din, y_key1, y_key2, eqD_bl', dUnp, dGet1, dSortD, dJoin, dUpper, dDisp, dDispO, dUpd, dDc, x_tg3, x_setall1, dFst, dMake, dInit, dCmpO, dFor, dIt, dLc, wipeD, dSl, dNoB, dB, D.isN, D.flat, putD,
  x_add1, x_add2, x_add3, x_add4, x_i2, x_sub, x_lt, x_le, x_gt, x_ge, x_mod, x_div, x_pow, x_mul1, x_mul2, x_mul3, x_neg, x_not, x_tupl, x_list, x_len1, x_len2, x_len3, x_abs, x_min, x_max, x_int1, x_int2, x_tuple1, x_tuple2, x_listof1, x_listof2, x_iter1, x_iter2, x_iter3, x_range, x_range2, x_enum1, x_enum2, x_enum3, x_enumK, x_isi, x_isown, x_is, x_isnot, x_revT, x_sl1, x_sl2, x_sl3, x_ix1, x_ix2, x_ix3, x_fld, x_catL, x_append, x_extend1, x_extend2, x_insert, x_tg1, x_tg2, x_tg3, x_setall1, x_eq, x_ne, x_isInt0, x_isInt1, x_isInt2, x_isInt3, x_isInt4, x_isInt5, x_isBool0, x_isBool1, x_isBool2, x_isBool3, x_isBool4, x_isBool5, x_isStr0, x_isStr1, x_isStr2, x_isStr3, x_isStr4, x_isStr5, x_isTuple0, x_isTuple1, x_isTuple2, x_isTuple3, x_isTuple4, x_isTuple5, x_isList0, x_isList1, x_isList2, x_isList3, x_isList4, x_isList5, x_isSeq0, x_isSeq1, x_isSeq2, x_isSeq3, x_isSeq4, x_isSeq5, x_setall0,
  List.map_cons, List.map_nil, List.length_cons, List.length_nil, List.replicate_succ, List.replicate_zero, List.cons_append, List.nil_append, List.append_nil, Nat.reduceSub, Nat.reduceAdd, Nat.sub_self, Nat.zero_add, List.getElem?_cons_zero, List.getElem?_cons_succ, List.set_cons_zero, List.set_cons_succ, Option.some.injEq, Sl.sh.injEq, Sl.ow.injEq, D.bl.injEq, D.int.injEq, D.tup.injEq, D.lst.injEq, D.obj.injEq, exists_eq_left', exists_eq_left, true_and, and_true, Option.map_some, reduceCtorEq, if_true, if_false, ite_true, ite_false, Bool.not_true, Bool.not_false, decide_eq_true_eq, Bool.false_eq_true, eq_self_iff_true, List.mem_singleton, List.lookup, beq_self_eq_true, Bool.true_eq_false, atI0, atI1, atI2, atI3, atI4, eqD_int, eqD_str, eqD_row, eqD_row0, ex_if, sizeLine_eq, Nat.reduceLeDiff, row_len, row_app, row_cut, row_rev, Bool.not_eq_true', decide_eq_false_iff_not, List.length_map, List.length_append, Nat.reduceLT])
local macro_rules | `(tactic| walk_at "c") => `(tactic| repeat (first | assumption | rw [if_neg (by decide +kernel)] | rw [if_pos (by decide +kernel)] | refine ⟨by decide +kernel, ?_⟩ | refine ⟨⟨by decide, by decide⟩, ?_⟩ | refine ⟨_, rfl, ?_⟩))
theorem u_read_word {z : Str} {n : Nat} {P : D → Nat → Prop} {E : XD} (hz : z.length ≤ 90000) (h1 : ∀ w, rdW z = some w → P w n) (h2 : rdW z = none → E "NoWord" [("at", .int 0)] n) : U_read_word [.str z] n P E := by
  unfold U_read_word B_read_word
  walk_at "d"
  refine ⟨z, rfl, _, rfl, by decide +kernel, by omega, ?_⟩
  cases hs : Txt.split z (Str.ofString " ") with
  | nil => exact absurd hs (split_ne z)
  | cons p r =>
    have hp : p.length ≤ z.length ∧ ∀ q ∈ r, q.length ≤ z.length := ⟨split_part (by rw [hs]; exact .head _), fun q hq => split_part (by rw [hs]; exact .tail _ hq)⟩
    rw [List.map_cons, atI0]
    refine ⟨_, rfl, u_entry ?_⟩
    cases hk : look p with
    | none =>
      rw [show (Option.map entD none).getD D.non = D.non from rfl]
      walk_at "d"
      refine ⟨_, rfl, h2 ?_⟩
      unfold rdW
      rw [hs]
      simp only [hk]
    | some e =>
      obtain ⟨te, ex⟩ := look_mem hk
      have tk := tab_ok e te
      rw [show (Option.map entD (some e)).getD D.non = .tup [.str e.1, .int e.2.1, .str e.2.2.1, .int e.2.2.2] from rfl]
      walk_at "d"
      unfold R_read_word_3
      walk_at "d"
      have c1 : cut (D.str p :: r.map D.str) (some 1) (some (1 + (e.2.2.1.length : Int))) = (r.take e.2.2.1.length).map D.str := by
        rw [cut_mid (by omega) (by omega), show Int.toNat 1 = 1 from rfl, show (1 + (e.2.2.1.length : Int)).toNat - 1 = e.2.2.1.length by omega, List.drop_succ_cons, List.drop_zero, List.map_take]
      have c2 : cut (D.str p :: r.map D.str) (some (1 + (e.2.2.1.length : Int))) none = (r.drop e.2.2.1.length).map D.str := by
        rw [cut_from (by omega), show (1 + (e.2.2.1.length : Int)).toNat = e.2.2.1.length + 1 by omega, List.drop_succ_cons, List.map_drop]
      rw [c1, c2]
      have rd : rdW z = if ((r.take e.2.2.1.length).all fun x => decide (x.length = 1)) = true ∧ ((r.drop e.2.2.1.length).length : Int) = (if 0 < e.2.2.2 then 1 else 0) then
          (let w := D.tup [.str e.1, .str (Txt.join (Str.ofString "") (r.take e.2.2.1.length)), if 0 < e.2.2.2 then (match sgn ((r.drop e.2.2.1.length).headD "") with | some i => .int i | none => .non) else .non]
           if W w = true then some w else none) else none := by
        unfold rdW
        rw [hs]
        simp only [hk] <;> rfl
      refine ⟨by omega, by omega, by rw [List.length_map, List.length_take]; omega, lc_pure oneD (fun x hx => ?_) ?_⟩
      · obtain ⟨q, hq, rfl⟩ := List.mem_map.mp hx
        refine ⟨_, rfl, fun n Q qq => ?_⟩
        have := hp.2 q (List.mem_of_mem_take hq)
        walk_at "d"
        refine ⟨by omega, ?_⟩
        have e1 : oneD (.str q) = .bl (decide ((q.length : Int) = 1)) := by
          show D.bl (decide (q.length = 1)) = _
          congr 1
          rw [decide_eq_decide]
          omega
        rw [e1] at qq
        exact qq
      · rw [List.map_map, show (oneD ∘ D.str) = fun q : Str => .bl (decide (q.length = 1)) from rfl]
        refine ⟨_, gAll_map (fun q : Str => decide (q.length = 1)) _, _, rfl, _, rfl, ?_⟩
        rw [List.length_map]
        cases ha : (r.take e.2.2.1.length).all fun q => decide (q.length = 1) with
        | false =>
          rw [if_pos (by rfl)]
          refine ⟨_, rfl, h2 ?_⟩
          rw [rd, ha, if_neg (fun z => by cases z.1)]
        | true =>
          rw [if_neg (by simp)]
          refine iteI (fun h3 => ?_) (fun h3 => ?_)
          · refine ⟨_, rfl, h2 ?_⟩
            rw [rd, if_neg (fun z => h3 z.2)]
          · have h3 := Classical.byContradiction (fun z => h3 z)
            rw [if_pos ⟨ha, h3⟩] at rd
            unfold R_read_word_2 R_read_word_1
            walk_at "d"
            have hone : ∀ x ∈ r.take e.2.2.1.length, x.length = 1 := fun x hx => by
              have := List.all_eq_true.mp ha x hx
              simpa using this
            have hsum : ((r.take e.2.2.1.length).map (fun x => x.length)).sum = (r.take e.2.2.1.length).length := by
              generalize r.take e.2.2.1.length = l at hone
              induction l with
              | nil => rfl
              | cons a q ih => rw [List.map_cons, List.sum_cons, ih (fun x hx => hone x (.tail _ hx)), hone a (.head _), List.length_cons]; omega
            have htl : (r.take e.2.2.1.length).length ≤ 2 := by rw [List.length_take]; omega
            have e0 : (Str.ofString "").length = 0 := by decide +kernel
            have hjl : (Txt.join (Str.ofString "") (r.take e.2.2.1.length)).length ≤ 2 := by
              have := StrLaws.join_length_le (Str.ofString "") (r.take e.2.2.1.length)
              rw [TL.join_eq]
              rw [hsum, e0] at this
              omega
            have fine : ∀ b, Pl b → (∀ l, b ≠ .str l) → Fine (.tup [.str e.1, .str (Txt.join (Str.ofString "") (r.take e.2.2.1.length)), b]) := by
              intro b hb hnl
              refine ⟨trivial, fun xs hxs => ?_⟩
              cases hxs
              refine ⟨by simp, fun x hx => ?_⟩
              simp only [List.mem_cons, List.not_mem_nil, or_false] at hx
              rcases hx with rfl | rfl | rfl
              · exact ⟨trivial, fun l hl => by cases hl; omega⟩
              · exact ⟨trivial, fun l hl => by cases hl; omega⟩
              · exact ⟨hb, fun l hl => absurd hl (hnl l)⟩
            refine ⟨_, rfl, _, .inl rfl, by rw [hsum, e0]; omega, ?_⟩
            have fin : ∀ b : D, Pl b → (∀ l, b ≠ .str l) → rdW z = (if W (.tup [.str e.1, .str (Txt.join (Str.ofString "") (r.take e.2.2.1.length)), b]) = true then some (.tup [.str e.1, .str (Txt.join (Str.ofString "") (r.take e.2.2.1.length)), b]) else none) →
                U_is_word [.tup [.str e.1, .str (Txt.join (Str.ofString "") (r.take e.2.2.1.length)), b]] n (fun x n1 => ∃ d, gNot [x] = some d ∧ ∃ c, d = D.bl c ∧ if c = true then ∃ fs, mkF [Str.ofString "at"] [D.int 0] = some fs ∧ E (Str.ofString "NoWord") fs n1 else P (.tup [.str e.1, .str (Txt.join (Str.ofString "") (r.take e.2.2.1.length)), b]) n1) (fun _ _ _ => False) := by
              intro b hb hnl hr
              refine u_word (fine b hb hnl) ⟨_, rfl, _, rfl, ?_⟩
              cases hw : W (.tup [.str e.1, .str (Txt.join (Str.ofString "") (r.take e.2.2.1.length)), b]) with
              | false =>
                rw [hw] at hr
                rw [if_pos (by rfl)]
                exact ⟨_, rfl, h2 hr⟩
              | true =>
                rw [hw] at hr
                rw [if_neg (by simp)]
                exact h1 _ hr
            refine iteI (fun h4 => ?_) (fun h4 => ?_)
            · rw [if_pos h4] at h3 rd
              cases hq : r.drop e.2.2.1.length with
              | nil => rw [hq] at h3; simp at h3
              | cons t q =>
                rw [hq] at rd
                rw [List.map_cons, atI0]
                refine ⟨_, rfl, u_signed_in (by have := hp.2 t (List.mem_of_mem_drop (by rw [hq]; exact .head _)); omega) ?_⟩
                have hr : rdW z = (if W (.tup [.str e.1, .str (Txt.join (Str.ofString "") (r.take e.2.2.1.length)), (match sgn t with | some i => .int i | none => .non)]) = true then some (.tup [.str e.1, .str (Txt.join (Str.ofString "") (r.take e.2.2.1.length)), (match sgn t with | some i => .int i | none => .non)]) else none) := rd
                cases hg : sgn t with
                | none => rw [hg] at hr; exact fin .non trivial (fun l z => by cases z) hr
                | some i => rw [hg] at hr; exact fin (.int i) trivial (fun l z => by cases z) hr
            · rw [if_neg h4] at rd
              exact fin .non trivial (fun l z => by cases z) rd
end C05


namespace C05
open PySem L2 Br Dn Tr TL
local macro_rules | `(tactic| walk_at "d") => `(tactic| try simp only [dDef, shP, gIntS, gListS, gMulS, dSplit, dStarts, gCD, gCDIn, gCDNotIn, gCDGet, dSIdx, dPutO, dOwnD0, dSee, dIfO, dCallO0, dCallO, dActS, dRetS, dRetO, dDefS, dLamS, Sl.out, startD, dSeq, dNext, dSet, dSetO, dPar, dRet, dRetN, dIfS, dExpr, dAug, dVar, dC, dNil, dCons, dApp, dCall0, dCall, dAnd, dOr, dIf, dChain, dNew, dOwn, dSh, dOwnL, dOwnF, dUn, dBor, frz, frzB, dMut, dRaise, dTry, dIxO, dCat, dLam, dLamDef, dAct, y_isDict0, y_isDict1, y_isDict2, y_isDict3, y_isDict4, y_isDict5, y_isDict6, y_keys, y_revL, y_sum1, y_sum2, y_xf, y_isX, dMakeX, dMakeX0, dMakeK, dEqT, dLenO, dBorL, frzL, dDct0, y_isInt6, y_isBool6, y_isStr6, y_isTuple6, y_isList6, y_isSeq6, y_len4, y_inS, y_notInS, y_in1, y_in2, y_ne0, y_ne0L, y_eq0, y_isB, y_isNotB, y_revS, y_addN1, y_addN2, y_subN1, y_subN2, y_subN3, y_strN1, y_strN2, y_zipS, y_dget, y_dnotin, y_din, y_key1, y_key2, eqD_bl', dUnp, dGet1, dSortD, dJoin, dUpper, dDisp, dDispO, dUpd, dDc, x_tg3, x_setall1, dFst, dMake, dInit, dCmpO, dFor, dIt, dLc, wipeD, dSl, dNoB, dB, D.isN, D.flat, putD,
  x_add1, x_add2, x_add3, x_add4, x_i2, x_sub, x_lt, x_le, x_gt, x_ge, x_mod, x_div, x_pow, x_mul1, x_mul2, x_mul3, x_neg, x_not, x_tupl, x_list, x_len1, x_len2, x_len3, x_abs, x_min, x_max, x_int1, x_int2, x_tuple1, x_tuple2, x_listof1, x_listof2, x_iter1, x_iter2, x_iter3, x_range, x_range2, x_enum1, x_enum2, x_enum3, x_enumK, x_isi, x_isown, x_is, x_isnot, x_revT, x_sl1, x_sl2, x_sl3, x_ix1, x_ix2, x_ix3, x_fld, x_catL, x_append, x_extend1, x_extend2, x_insert, x_tg1, x_tg2, x_tg3, x_setall1, x_eq, x_ne, x_isInt0, x_isInt1, x_isInt2, x_isInt3, x_isInt4, x_isInt5, x_isBool0, x_isBool1, x_isBool2, x_isBool3, x_isBool4, x_isBool5, x_isStr0, x_isStr1, x_isStr2, x_isStr3, x_isStr4, x_isStr5, x_isTuple0, x_isTuple1, x_isTuple2, x_isTuple3, x_isTuple4, x_isTuple5, x_isList0, x_isList1, x_isList2, x_isList3, x_isList4, x_isList5, x_isSeq0, x_isSeq1, x_isSeq2, x_isSeq3, x_isSeq4, x_isSeq5, x_setall0,
  List.map_cons, List.map_nil, List.length_cons, List.length_nil, List.replicate_succ, List.replicate_zero, List.cons_append, List.nil_append, List.append_nil, Nat.reduceSub, Nat.reduceAdd, Nat.sub_self, Nat.zero_add, List.getElem?_cons_zero, List.getElem?_cons_succ, List.set_cons_zero, List.set_cons_succ, Option.some.injEq, Sl.sh.injEq, Sl.ow.injEq, D.bl.injEq, D.int.injEq, D.tup.injEq, D.lst.injEq, D.obj.injEq, exists_eq_left', exists_eq_left, true_and, and_true, Option.map_some, reduceCtorEq, if_true, if_false, ite_true, ite_false, Bool.not_true, Bool.not_false, decide_eq_true_eq, Bool.false_eq_true, eq_self_iff_true, List.mem_singleton, List.lookup, beq_self_eq_true, Bool.true_eq_false, atI0, atI1, atI2, atI3, atI4, eqD_int, eqD_str, eqD_row, eqD_row0, ex_if, sizeLine_eq, Nat.reduceLeDiff, row_len, row_app, row_cut, row_rev, Bool.not_eq_true', decide_eq_false_iff_not, List.length_map, List.length_append, Nat.reduceLT])
local macro_rules | `(tactic| walk_at "c") => `(tactic| repeat (first | assumption | rw [if_neg (by decide +kernel)] | rw [if_pos (by decide +kernel)] | refine ⟨by decide +kernel, ?_⟩ | refine ⟨⟨by decide, by decide⟩, ?_⟩ | refine ⟨_, rfl, ?_⟩))
/-! ### there and back -/
theorem one_sg : ∀ ls : List Str, (∀ x ∈ ls, x.length = 1) → ∃ cs : List Nat, ls = cs.map sg
  | [], _ => ⟨[], rfl⟩
  | x :: r, h => by
    obtain ⟨cs, hc⟩ := one_sg r fun y hy => h y (.tail _ hy)
    have hx : x.cps.size = 1 := h x (.head _)
    obtain ⟨⟨l⟩⟩ := x
    have hl : l.length = 1 := hx
    match l, hl with
    | [c], _ => exact ⟨c :: cs, by rw [hc]; rfl⟩
theorem join_sg (cs : List Nat) : Txt.join (Str.ofString "") (cs.map sg) = ⟨cs.toArray⟩ := join_signs cs
/-- what reads as a word is its text -/
theorem rd_back {z : Str} {w : D} (h : rdW z = some w) : ∃ x l b, w = .tup [.str x, .str l, b] ∧ NumB b ∧ x.length ≤ 1000 ∧ l.length ≤ 1000 ∧ txt x l b = z ∧ W w = true := by
  unfold rdW at h
  cases hs : Txt.split z (Str.ofString " ") with
  | nil => rw [hs] at h; cases h
  | cons p r =>
    rw [hs] at h
    dsimp only at h
    cases hk : look p with
    | none => rw [hk] at h; cases h
    | some e =>
      rw [hk] at h
      dsimp only at h
      obtain ⟨te, ex⟩ := look_mem hk
      have tk := tab_ok e te
      by_cases hc : ((r.take e.2.2.1.length).all fun x => decide (x.length = 1)) = true ∧ ((r.drop e.2.2.1.length).length : Int) = (if 0 < e.2.2.2 then 1 else 0)
      · rw [if_pos hc] at h
        obtain ⟨ha, h3⟩ := hc
        by_cases hw : W (D.tup [.str e.1, .str (Txt.join (Str.ofString "") (r.take e.2.2.1.length)), if 0 < e.2.2.2 then (match sgn ((r.drop e.2.2.1.length).headD "") with | some i => .int i | none => .non) else .non]) = true
        · have h := (if_pos hw).symm.trans h
          obtain ⟨cs, hcs⟩ := one_sg (r.take e.2.2.1.length) fun x hx => by
            have := List.all_eq_true.mp ha x hx
            simpa using this
          rw [hcs, join_sg] at h hw
          have hz := join_back z
          have hr : r = cs.map sg ++ r.drop e.2.2.1.length := by rw [← hcs, List.take_append_drop]
          have hcl : cs.length ≤ 2 := by
            have := congrArg List.length hcs
            rw [List.length_take, List.length_map] at this
            omega
          have hcc : (⟨cs.toArray⟩ : Str).length ≤ 1000 := by show cs.toArray.size ≤ _; rw [List.size_toArray]; omega
          have hct : (⟨cs.toArray⟩ : Str).cps.toList = cs := List.toList_toArray
          by_cases h4 : 0 < e.2.2.2
          · rw [if_pos h4] at h h3 hw
            cases hq : r.drop e.2.2.1.length with
            | nil => rw [hq] at h3; simp at h3
            | cons t q =>
              have hq0 : q = [] := by
                rw [hq] at h3
                simp only [List.length_cons] at h3
                exact List.eq_nil_of_length_eq_zero (by omega)
              subst hq0
              rw [hq] at h hw hr
              simp only [List.headD_cons] at h hw
              cases hg : sgn t with
              | none =>
                rw [hg] at hw
                dsimp only at hw
                rw [W_some (by rw [ex]; exact hk)] at hw
                rw [Bool.and_eq_true] at hw
                have hn := hw.2
                unfold numOk at hn
                rw [if_neg (by omega)] at hn
                split at hn <;> cases hn
              | some i =>
                rw [hg] at h hw
                dsimp only at h hw
                cases h
                obtain ⟨s1, s2, s3⟩ := sgn_str hg
                refine ⟨_, _, _, rfl, .inr ⟨i, rfl, s2, s3⟩, by omega, hcc, ?_, hw⟩
                unfold txt partsOf
                rw [hct, show numP (.int i) = [Str.ofString (toString i)] from rfl, s1, ← hr, ex, ← hs]
                exact hz
          · rw [if_neg h4] at h h3 hw
            have hq : r.drop e.2.2.1.length = [] := List.eq_nil_of_length_eq_zero (by omega)
            rw [hq, List.append_nil] at hr
            cases h
            refine ⟨_, _, _, rfl, .inl rfl, by omega, hcc, ?_, hw⟩
            unfold txt partsOf
            rw [hct, show numP D.non = [] from rfl, List.append_nil, ← hr, ex, ← hs]
            exact hz
        · have h := (if_neg hw).symm.trans h
          cases h
      · rw [if_neg hc] at h
        cases h
theorem dw_numB {e : Ro} {s : Int} {l : Str} {b : D} (h : Dw e s l b) : NumB b := by
  rcases dw_num h with ⟨_, rfl⟩ | ⟨_, i, rfl, i1, i2⟩ | ⟨_, i, rfl, i1, i2⟩
  · exact .inl rfl
  · exact .inr ⟨i, rfl, by omega, by omega⟩
  · exact .inr ⟨i, rfl, by omega, by omega⟩
theorem look_self {e : Ro} (h1 : e ∈ tab) : look e.1 = some e := by
  cases q : look e.1 with
  | none =>
    have := List.find?_eq_none.mp q e h1
    simp at this
  | some f =>
    obtain ⟨w1, w2⟩ := look_mem q
    rw [tab_uniq f w1 e h1 w2]
theorem dw_W {e : Ro} {s : Int} {l : Str} {b : D} (h : Dw e s l b) : W (.tup [.str e.1, .str l, b]) = true := by
  obtain ⟨h1, h2, h3⟩ := h
  rw [W_some (look_self h1), h3, Bool.and_true]
  exact (lt_fit _ h2).1
theorem txt_free {e : Ro} {s : Int} {l : Str} {b : D} (h : Dw e s l b) : ∀ p ∈ partsOf e.1 l b, 32 ∉ p.cps.toList := by
  intro p hp
  unfold partsOf at hp
  rcases List.mem_cons.mp hp with rfl | hp
  · exact tab_free e h.1
  · rcases List.mem_append.mp hp with hp | hp
    · obtain ⟨c, hc, rfl⟩ := List.mem_map.mp hp
      intro z
      have hz : (32 : Nat) ∈ [c] := z
      rw [List.mem_singleton] at hz
      exact (lt_free _ h.2.1).1 (by rw [hz]; exact hc)
    · rcases dw_numB h with rfl | ⟨i, rfl, _, _⟩
      · cases hp
      · have hp : p ∈ [Str.ofString (toString i)] := hp
        rw [List.mem_singleton] at hp
        rw [hp]
        exact PyProof.Rows.int_text_free' 32 ⟨by decide, by decide⟩ i
theorem rd_txt {e : Ro} {s : Int} {l : Str} {b : D} (h : Dw e s l b) : rdW (txt e.1 l b) = some (.tup [.str e.1, .str l, b]) := by
  have hl := (lt_free _ h.2.1).2
  simp only at hl
  have hlt : l.cps.toList.length = l.length := Array.length_toList
  have hsp := split_txt (ps := partsOf e.1 l b) (by unfold partsOf; simp) (txt_free h)
  have hw := dw_W h
  have hlen : (l.cps.toList.map sg).length = e.2.2.1.length := by rw [List.length_map]; omega
  have htk : (l.cps.toList.map sg ++ numP b).take e.2.2.1.length = l.cps.toList.map sg := by rw [← hlen, List.take_left]
  have hdr : (l.cps.toList.map sg ++ numP b).drop e.2.2.1.length = numP b := by rw [← hlen, List.drop_left]
  have hall : ((l.cps.toList.map sg).all fun x => decide (x.length = 1)) = true := by
    rw [List.all_eq_true]
    intro x hx
    obtain ⟨c, _, rfl⟩ := List.mem_map.mp hx
    rfl
  have hj : Txt.join (Str.ofString "") (l.cps.toList.map sg) = l := by
    rw [join_sg]
  unfold rdW
  rw [show txt e.1 l b = Txt.join (Str.ofString " ") (partsOf e.1 l b) from rfl, hsp]
  unfold partsOf
  dsimp only
  rw [look_self h.1]
  dsimp only
  rw [htk, hdr, hj]
  have hc : ((l.cps.toList.map sg).all fun x => decide (x.length = 1)) = true ∧ ((numP b).length : Int) = (if 0 < e.2.2.2 then 1 else 0) := by
    refine ⟨hall, ?_⟩
    rcases dw_num h with ⟨r, rfl⟩ | ⟨r, i, rfl, i1, i2⟩ | ⟨r, i, rfl, i1, i2⟩ <;> (rw [r]; rfl)
  rw [if_pos hc]
  have hb : (if 0 < e.2.2.2 then (match sgn ((numP b).headD (Str.ofString "")) with | some i => D.int i | none => .non) else .non) = b := by
    rcases dw_num h with ⟨r, rfl⟩ | ⟨r, i, rfl, i1, i2⟩ | ⟨r, i, rfl, i1, i2⟩
    · rw [r]; rfl
    · rw [if_pos (by omega), show (numP (.int i)).headD (Str.ofString "") = Str.ofString (toString i) from rfl, sgn_of (by omega) (by omega)]
    · rw [if_pos (by omega), show (numP (.int i)).headD (Str.ofString "") = Str.ofString (toString i) from rfl, sgn_of (by omega) (by omega)]
  have hb' : (if 0 < e.2.2.2 then (match sgn ((numP b).headD (Str.ofString "")) with | some i => D.int i | none => .non) else .non) = b := hb
  show (if W (D.tup [.str e.1, .str l, (if 0 < e.2.2.2 then (match sgn ((numP b).headD (Str.ofString "")) with | some i => D.int i | none => .non) else .non)]) = true then some (D.tup [.str e.1, .str l, (if 0 < e.2.2.2 then (match sgn ((numP b).headD (Str.ofString "")) with | some i => D.int i | none => .non) else .non)]) else none) = _
  rw [hb, if_pos hw]
end C05


namespace C05
open PySem L2 Br Dn Tr TL
local macro_rules | `(tactic| walk_at "d") => `(tactic| try simp only [dDef, shP, gIntS, gListS, gMulS, dSplit, dStarts, gCD, gCDIn, gCDNotIn, gCDGet, dSIdx, dPutO, dOwnD0, dSee, dIfO, dCallO0, dCallO, dActS, dRetS, dRetO, dDefS, dLamS, Sl.out, startD, dSeq, dNext, dSet, dSetO, dPar, dRet, dRetN, dIfS, dExpr, dAug, dVar, dC, dNil, dCons, dApp, dCall0, dCall, dAnd, dOr, dIf, dChain, dNew, dOwn, dSh, dOwnL, dOwnF, dUn, dBor, frz, frzB, dMut, dRaise, dTry, dIxO, dCat, dLam, dLamDef, dAct, y_isDict0, y_isDict1, y_isDict2, y_isDict3, y_isDict4, y_isDict5, y_isDict6, y_keys, y_revL, y_sum1, y_sum2, y_xf, y_isX, dMakeX, dMakeX0, dMakeK, dEqT, dLenO, dBorL, frzL, dDct0, y_isInt6, y_isBool6, y_isStr6, y_isTuple6, y_isList6, y_isSeq6, y_len4, y_inS, y_notInS, y_in1, y_in2, y_ne0, y_ne0L, y_eq0, y_isB, y_isNotB, y_revS, y_addN1, y_addN2, y_subN1, y_subN2, y_subN3, y_strN1, y_strN2, y_zipS, y_dget, y_dnotin, y_din, y_key1, y_key2, eqD_bl', dUnp, dGet1, dSortD, dJoin, dUpper, dDisp, dDispO, dUpd, dDc, x_tg3, x_setall1, dFst, dMake, dInit, dCmpO, dFor, dIt, dLc, wipeD, dSl, dNoB, dB, D.isN, D.flat, putD,
  x_add1, x_add2, x_add3, x_add4, x_i2, x_sub, x_lt, x_le, x_gt, x_ge, x_mod, x_div, x_pow, x_mul1, x_mul2, x_mul3, x_neg, x_not, x_tupl, x_list, x_len1, x_len2, x_len3, x_abs, x_min, x_max, x_int1, x_int2, x_tuple1, x_tuple2, x_listof1, x_listof2, x_iter1, x_iter2, x_iter3, x_range, x_range2, x_enum1, x_enum2, x_enum3, x_enumK, x_isi, x_isown, x_is, x_isnot, x_revT, x_sl1, x_sl2, x_sl3, x_ix1, x_ix2, x_ix3, x_fld, x_catL, x_append, x_extend1, x_extend2, x_insert, x_tg1, x_tg2, x_tg3, x_setall1, x_eq, x_ne, x_isInt0, x_isInt1, x_isInt2, x_isInt3, x_isInt4, x_isInt5, x_isBool0, x_isBool1, x_isBool2, x_isBool3, x_isBool4, x_isBool5, x_isStr0, x_isStr1, x_isStr2, x_isStr3, x_isStr4, x_isStr5, x_isTuple0, x_isTuple1, x_isTuple2, x_isTuple3, x_isTuple4, x_isTuple5, x_isList0, x_isList1, x_isList2, x_isList3, x_isList4, x_isList5, x_isSeq0, x_isSeq1, x_isSeq2, x_isSeq3, x_isSeq4, x_isSeq5, x_setall0,
  List.map_cons, List.map_nil, List.length_cons, List.length_nil, List.replicate_succ, List.replicate_zero, List.cons_append, List.nil_append, List.append_nil, Nat.reduceSub, Nat.reduceAdd, Nat.sub_self, Nat.zero_add, List.getElem?_cons_zero, List.getElem?_cons_succ, List.set_cons_zero, List.set_cons_succ, Option.some.injEq, Sl.sh.injEq, Sl.ow.injEq, D.bl.injEq, D.int.injEq, D.tup.injEq, D.lst.injEq, D.obj.injEq, exists_eq_left', exists_eq_left, true_and, and_true, Option.map_some, reduceCtorEq, if_true, if_false, ite_true, ite_false, Bool.not_true, Bool.not_false, decide_eq_true_eq, Bool.false_eq_true, eq_self_iff_true, List.mem_singleton, List.lookup, beq_self_eq_true, Bool.true_eq_false, atI0, atI1, atI2, atI3, atI4, eqD_int, eqD_str, eqD_row, eqD_row0, ex_if, sizeLine_eq, Nat.reduceLeDiff, row_len, row_app, row_cut, row_rev, Bool.not_eq_true', decide_eq_false_iff_not, List.length_map, List.length_append, Nat.reduceLT])
local macro_rules | `(tactic| walk_at "c") => `(tactic| repeat (first | assumption | rw [if_neg (by decide +kernel)] | rw [if_pos (by decide +kernel)] | refine ⟨by decide +kernel, ?_⟩ | refine ⟨⟨by decide, by decide⟩, ?_⟩ | refine ⟨_, rfl, ?_⟩))
/-! ### the law's reading -/
theorem u_read {z : Str} {n : Nat} {P : D → Nat → Prop} {E : XD} (hz : z.length ≤ 90000) (h : P (match rdW z with | some w => w | none => .non) n) : U__law_read [.str z] n P E := by
  unfold U__law_read B__law_read
  walk_at "d"
  refine u_read_word hz (fun w hw => ?_) (fun hw => ?_)
  · rw [hw] at h
    unfold R__law_read_2
    walk_at "d"
    exact h
  · rw [hw] at h
    walk_at "d"
    unfold R__law_read_2
    walk_at "d"
    unfold R__law_read_1
    walk_at "d"
    exact h
/-- what is no text -/
def NoT (d : D) : Prop := d = .non ∨ (∃ b, d = .bl b) ∨ (∃ i, d = .int i) ∨ (∃ xs, d = .lst xs) ∨ (∃ xs, d = .tup xs) ∨ ∃ ks, d = .dct ks
theorem u_read_no {d : D} {n : Nat} {P : D → Nat → Prop} {E : XD} (hd : NoT d) (h : P .non n) : U__law_read [d] n P E := by
  have go : ∀ P' E', E' "NoWord" [("at", .int 0)] n → U_read_word [d] n P' E' := by
    intro P' E' he
    unfold U_read_word B_read_word
    have hl : look (Str.ofString "") = none := by decide +kernel
    rcases hd with rfl | ⟨b, rfl⟩ | ⟨i, rfl⟩ | ⟨xs, rfl⟩ | ⟨xs, rfl⟩ | ⟨ks, rfl⟩ <;>
    · walk_at "d"
      refine u_entry ?_
      rw [hl, show (Option.map entD none).getD D.non = D.non from rfl]
      walk_at "d"
      exact ⟨_, rfl, he⟩
  unfold U__law_read B__law_read
  walk_at "d"
  refine go _ _ ?_
  walk_at "d"
  unfold R__law_read_2
  walk_at "d"
  unfold R__law_read_1
  walk_at "d"
  exact h
theorem u_right {z : Str} {n : Nat} {P : D → Nat → Prop} {E : XD} (hz : z.length ≤ 90000) (h : P (.bl true) n) : U__law_right [.str z] n P E := by
  unfold U__law_right B__law_right
  walk_at "d"
  refine u_read hz ?_
  cases hw : rdW z with
  | none =>
    walk_at "d"
    exact h
  | some w =>
    obtain ⟨x, l, b, rfl, hb, hx, hl, ht, hW⟩ := rd_back hw
    walk_at "d"
    unfold R__law_right_1
    walk_at "d"
    have fine : Fine (.tup [.str x, .str l, b]) := by
      refine ⟨trivial, fun xs hxs => ?_⟩
      cases hxs
      refine ⟨by simp, fun y hy => ?_⟩
      simp only [List.mem_cons, List.not_mem_nil, or_false] at hy
      rcases hy with rfl | rfl | rfl
      · exact ⟨trivial, fun l hl => by cases hl; omega⟩
      · exact ⟨trivial, fun l hl => by cases hl; omega⟩
      · rcases hb with rfl | ⟨i, rfl, _, _⟩
        · exact ⟨trivial, fun l hl => by cases hl⟩
        · exact ⟨trivial, fun l hl => by cases hl⟩
    refine u_word fine ?_
    rw [hW]
    refine ⟨_, rfl, ?_⟩
    walk_at "d"
    refine u_text hx hl hb ?_
    rw [ht]
    walk_at "d"
    refine u_show_word hx hl hb ?_
    rw [ht]
    walk_at "d"
    exact h
theorem u_right_no {d : D} {n : Nat} {P : D → Nat → Prop} {E : XD} (hd : NoT d) (h : P (.bl true) n) : U__law_right [d] n P E := by
  unfold U__law_right B__law_right
  walk_at "d"
  refine u_read_no hd ?_
  walk_at "d"
  exact h
/-! ### hex texts -/
def sgs : List Nat := [48, 49, 50, 51, 52, 53, 54, 55, 56, 57, 97, 98, 99, 100, 101, 102]
theorem sgs_eq : (Str.ofString "0123456789abcdef").cps.toList = sgs := by decide +kernel
def hx (i : Int) : Nat := sgs.getD i.toNat 48
def sepN (k : Nat) : Nat := if k % 16 = 0 then 10 else 32
def piece (k : Nat) (b : Int) : List Nat := (if k = 0 then [] else [sepN k]) ++ [hx (b / 16), hx (b % 16)]
def hexL : Nat → List Int → List Nat
  | _, [] => []
  | k, b :: r => piece k b ++ hexL (k + 1) r
def hexS (xs : List Int) : Str := ⟨(hexL 0 xs).toArray⟩
theorem hx_at {i : Int} (h0 : 0 ≤ i) (h1 : i < 16) : atI sgs i = some (hx i) := by
  obtain ⟨n, rfl⟩ := Int.eq_ofNat_of_zero_le h0
  have : n < 16 := by omega
  rw [Dn.atI_nat (x := sgs.getD n 48)]
  · rfl
  · rw [List.getD]
    have : n < sgs.length := this
    rw [List.getElem?_eq_getElem this]
    rfl
theorem u_between {k : Nat} {n : Nat} {P : D → Nat → Prop} {E : XD} (h : P (.str ⟨#[sepN k]⟩) n) : U_between [.int (k : Int)] n P E := by
  unfold U_between B_between
  walk_at "d"
  refine ⟨by decide, ?_⟩
  unfold sepN at h
  have e1 : (Str.ofString "\n") = ⟨#[10]⟩ := by decide +kernel
  have e2 : (Str.ofString " ") = ⟨#[32]⟩ := by decide +kernel
  refine iteI (fun h1 => ?_) (fun h1 => ?_)
  · rw [if_pos (by omega)] at h
    rw [e1]; exact h
  · rw [if_neg (by omega)] at h
    rw [e2]; exact h
theorem hexL_snoc : ∀ (xs : List Int) (k : Nat) (b : Int), hexL k (xs ++ [b]) = hexL k xs ++ piece (k + xs.length) b
  | [], k, b => by show piece k b ++ [] = [] ++ piece (k + 0) b; simp
  | x :: r, k, b => by
    show piece k x ++ hexL (k + 1) (r ++ [b]) = (piece k x ++ hexL (k + 1) r) ++ _
    rw [hexL_snoc r (k + 1) b, List.append_assoc, List.length_cons, show k + 1 + r.length = k + (r.length + 1) by omega]
theorem piece_len (k : Nat) (b : Int) : (piece k b).length ≤ 3 := by unfold piece; split <;> simp
theorem hexL_len : ∀ (xs : List Int) (k : Nat), (hexL k xs).length ≤ 3 * xs.length
  | [], k => Nat.zero_le _
  | b :: r, k => by
    show (piece k b ++ hexL (k + 1) r).length ≤ _
    have := hexL_len r (k + 1)
    have := piece_len k b
    rw [List.length_append, List.length_cons]
    omega
theorem joinL_nil : ∀ ps : List (List Nat), TL.joinL [] ps = ps.flatten
  | [] => rfl
  | [p] => by show p = p ++ []; simp
  | p :: q :: r => by
    show p ++ ([] ++ TL.joinL [] (q :: r)) = p ++ (q :: r).flatten
    rw [joinL_nil (q :: r), List.nil_append]
theorem join_flat (ps : List Str) : (Txt.join (Str.ofString "") ps).cps.toList = (ps.map fun p => p.cps.toList).flatten := by
  have h := TL.tl_join (Str.ofString "") ps
  rw [show TL.tl (Str.ofString "") = [] by decide +kernel, joinL_nil] at h
  rw [TL.join_eq]
  exact h
theorem sum_flat (ps : List Str) : (ps.map fun p => p.length).sum = ((ps.map fun p => p.cps.toList).flatten).length := by
  induction ps with
  | nil => rfl
  | cons p r ih =>
    rw [List.map_cons, List.sum_cons, ih, List.map_cons, List.flatten_cons, List.length_append, Array.length_toList]
    rfl
theorem u_show_hex {xs : List Int} {n : Nat} {P : D → Nat → Prop} {E : XD} (hb : Bts xs) (hl : xs.length ≤ 1000) (h : P (.str (hexS xs)) n) : U_show_hex [.tup (row xs)] n P E := by
  unfold U_show_hex B_show_hex
  walk_at "d"
  refine for_inv (fun i δ n' => n = n' ∧ ∃ (ps : List Str) (a b : Option Sl), ps.length = i ∧ (ps.map fun p => p.cps.toList).flatten = hexL 0 (xs.take i) ∧ δ = [some (.sh (.tup (row xs))), some (.ow (ps.map .str)), a, b]) ⟨rfl, [], _, _, rfl, rfl, rfl⟩ ?_ ?_
  · rintro i x _ _ N hx1 ⟨rfl, ps, a, b, q1, q2, rfl⟩ hN
    obtain ⟨y, hy, rfl⟩ := numd_get hx1
    obtain ⟨v, hv, rfl⟩ := at_row hy
    have hi := (List.getElem?_eq_some_iff.mp hv).1
    have hvb := hb v (List.mem_of_getElem? hv)
    refine ⟨_, rfl, ?_⟩
    unfold L_show_hex_1
    walk_at "d"
    rw [show (0 + (i : Int)) = (i : Int) by omega]
    have dg : ∀ j : Int, 0 ≤ j → j < 16 → (if (Str.ofString "0123456789abcdef").length ≤ 16777216 then Option.map (fun c => D.str { cps := #[c] }) (atI (Str.ofString "0123456789abcdef").cps.toList j) else none) = some (.str ⟨#[hx j]⟩) := fun j j0 j1 => by
      rw [if_pos (by decide +kernel), sgs_eq, hx_at j0 j1]; rfl
    have ad : ∀ x y : Str, x.length ≤ 10 → y.length ≤ 10 → gAdd [.str x, .str y] = some (.str (x ++ y)) := fun x y h1 h2 => by
      show (if x.length + y.length ≤ sizeLine then some (D.str (x ++ y)) else none) = _
      rw [if_pos (by rw [sizeLine_eq]; omega)]
    have fin : ∀ pre : Str, pre.length ≤ 1 → pre.cps.toList = (if i = 0 then [] else [sepN i]) → ∀ d, d = .str ((pre ++ ⟨#[hx (v / 16)]⟩) ++ ⟨#[hx (v % 16)]⟩) → N [some (Sl.sh (D.tup (row xs))), some (Sl.ow (ps.map D.str ++ [d])), some (Sl.sh (D.int (i : Int))), some (Sl.sh (D.int v))] n := by
      rintro pre hp1 hp _ rfl
      refine hN _ _ ⟨rfl, ps ++ [(pre ++ ⟨#[hx (v / 16)]⟩) ++ ⟨#[hx (v % 16)]⟩], _, _, by rw [List.length_append, q1]; rfl, ?_, by rw [List.map_append]; rfl⟩
      rw [take_snoc hv, hexL_snoc, List.map_append, List.flatten_append, q2, List.length_take]
      rw [show 0 + min i xs.length = i by omega]
      show _ ++ (((pre ++ ⟨#[hx (v / 16)]⟩) ++ ⟨#[hx (v % 16)]⟩ : Str).cps.toList ++ []) = _
      rw [List.append_nil, PyProof.Rows.cps_toList_append, PyProof.Rows.cps_toList_append, hp]
      unfold piece
      rw [List.append_assoc]
      rfl
    have l1 : ∀ c : Nat, (⟨#[c]⟩ : Str).length = 1 := fun _ => rfl
    rw [dg _ (by omega) (by omega), dg _ (by omega) (by omega)]
    refine iteI (fun h1 => ?_) (fun h1 => ?_)
    · have e0 : (Str.ofString "").length = 0 := by decide +kernel
      refine ⟨⟨by decide, by decide⟩, _, rfl, _, ad _ _ (by omega) (by rw [l1]; omega), by decide, _, rfl, _, ad _ _ (by rw [str_add_len]; simp only [l1]; omega) (by rw [l1]; omega), by omega, ?_⟩
      exact fin _ (by omega) (by rw [if_pos (by omega)]; decide +kernel) _ rfl
    · refine u_between ⟨⟨by decide, by decide⟩, _, rfl, _, ad _ _ (by rw [l1]; omega) (by rw [l1]; omega), by decide, _, rfl, _, ad _ _ (by rw [str_add_len]; simp only [l1]; omega) (by rw [l1]; omega), by omega, ?_⟩
      exact fin _ (by rw [l1]; omega) (by rw [if_neg (by omega)]) _ rfl
  · rintro _ _ ⟨rfl, ps, a, b, q1, q2, rfl⟩
    rw [numd_len, row_len] at q1 q2
    unfold R_show_hex_1
    walk_at "d"
    rw [List.take_length] at q2
    refine ⟨_, rfl, ps, .inl rfl, ?_, ?_⟩
    · have e0 : (Str.ofString "").length = 0 := by decide +kernel
      rw [sum_flat, q2, e0]
      have := hexL_len xs 0
      omega
    · have : Txt.join (Str.ofString "") ps = hexS xs := str_ext (by rw [join_flat, q2]; exact List.toList_toArray.symm)
      rw [this]
      exact h
end C05


namespace C05
open PySem L2 Br Dn Tr TL
local macro_rules | `(tactic| walk_at "d") => `(tactic| try simp only [dDef, shP, gIntS, gListS, gMulS, dSplit, dStarts, gCD, gCDIn, gCDNotIn, gCDGet, dSIdx, dPutO, dOwnD0, dSee, dIfO, dCallO0, dCallO, dActS, dRetS, dRetO, dDefS, dLamS, Sl.out, startD, dSeq, dNext, dSet, dSetO, dPar, dRet, dRetN, dIfS, dExpr, dAug, dVar, dC, dNil, dCons, dApp, dCall0, dCall, dAnd, dOr, dIf, dChain, dNew, dOwn, dSh, dOwnL, dOwnF, dUn, dBor, frz, frzB, dMut, dRaise, dTry, dIxO, dCat, dLam, dLamDef, dAct, y_isDict0, y_isDict1, y_isDict2, y_isDict3, y_isDict4, y_isDict5, y_isDict6, y_keys, y_revL, y_sum1, y_sum2, y_xf, y_isX, dMakeX, dMakeX0, dMakeK, dEqT, dLenO, dBorL, frzL, dDct0, y_isInt6, y_isBool6, y_isStr6, y_isTuple6, y_isList6, y_isSeq6, y_len4, y_inS, y_notInS, y_in1, y_in2, y_ne0, y_ne0L, y_eq0, y_isB, y_isNotB, y_revS, y_addN1, y_addN2, y_subN1, y_subN2, y_subN3, y_strN1, y_strN2, y_zipS, y_dget, y_dnotin, y_din, y_key1, y_key2, eqD_bl', dUnp, dGet1, dSortD, dJoin, dUpper, dDisp, dDispO, dUpd, dDc, x_tg3, x_setall1, dFst, dMake, dInit, dCmpO, dFor, dIt, dLc, wipeD, dSl, dNoB, dB, D.isN, D.flat, putD,
  x_add1, x_add2, x_add3, x_add4, x_i2, x_sub, x_lt, x_le, x_gt, x_ge, x_mod, x_div, x_pow, x_mul1, x_mul2, x_mul3, x_neg, x_not, x_tupl, x_list, x_len1, x_len2, x_len3, x_abs, x_min, x_max, x_int1, x_int2, x_tuple1, x_tuple2, x_listof1, x_listof2, x_iter1, x_iter2, x_iter3, x_range, x_range2, x_enum1, x_enum2, x_enum3, x_enumK, x_isi, x_isown, x_is, x_isnot, x_revT, x_sl1, x_sl2, x_sl3, x_ix1, x_ix2, x_ix3, x_fld, x_catL, x_append, x_extend1, x_extend2, x_insert, x_tg1, x_tg2, x_tg3, x_setall1, x_eq, x_ne, x_isInt0, x_isInt1, x_isInt2, x_isInt3, x_isInt4, x_isInt5, x_isBool0, x_isBool1, x_isBool2, x_isBool3, x_isBool4, x_isBool5, x_isStr0, x_isStr1, x_isStr2, x_isStr3, x_isStr4, x_isStr5, x_isTuple0, x_isTuple1, x_isTuple2, x_isTuple3, x_isTuple4, x_isTuple5, x_isList0, x_isList1, x_isList2, x_isList3, x_isList4, x_isList5, x_isSeq0, x_isSeq1, x_isSeq2, x_isSeq3, x_isSeq4, x_isSeq5, x_setall0,
  List.map_cons, List.map_nil, List.length_cons, List.length_nil, List.replicate_succ, List.replicate_zero, List.cons_append, List.nil_append, List.append_nil, Nat.reduceSub, Nat.reduceAdd, Nat.sub_self, Nat.zero_add, List.getElem?_cons_zero, List.getElem?_cons_succ, List.set_cons_zero, List.set_cons_succ, Option.some.injEq, Sl.sh.injEq, Sl.ow.injEq, D.bl.injEq, D.int.injEq, D.tup.injEq, D.lst.injEq, D.obj.injEq, exists_eq_left', exists_eq_left, true_and, and_true, Option.map_some, reduceCtorEq, if_true, if_false, ite_true, ite_false, Bool.not_true, Bool.not_false, decide_eq_true_eq, Bool.false_eq_true, eq_self_iff_true, List.mem_singleton, List.lookup, beq_self_eq_true, Bool.true_eq_false, atI0, atI1, atI2, atI3, atI4, eqD_int, eqD_str, eqD_row, eqD_row0, ex_if, sizeLine_eq, Nat.reduceLeDiff, row_len, row_app, row_cut, row_rev, Bool.not_eq_true', decide_eq_false_iff_not, List.length_map, List.length_append, Nat.reduceLT])
local macro_rules | `(tactic| walk_at "c") => `(tactic| repeat (first | assumption | rw [if_neg (by decide +kernel)] | rw [if_pos (by decide +kernel)] | refine ⟨by decide +kernel, ?_⟩ | refine ⟨⟨by decide, by decide⟩, ?_⟩ | refine ⟨_, rfl, ?_⟩))
theorem hexL_at : ∀ (r : List Int) (k i : Nat) (b : Int), r[i]? = some b → 0 < k → (hexL k r)[3 * i]? = some (sepN (k + i)) ∧ (hexL k r)[3 * i + 1]? = some (hx (b / 16)) ∧ (hexL k r)[3 * i + 2]? = some (hx (b % 16))
  | [], _, _, _, h, _ => by simp at h
  | x :: r, k, i, b, h, hk => by
    have e : hexL k (x :: r) = sepN k :: hx (x / 16) :: hx (x % 16) :: hexL (k + 1) r := by
      show piece k x ++ hexL (k + 1) r = _
      unfold piece
      rw [if_neg (by omega)]
      rfl
    rw [e]
    cases i with
    | zero =>
      rw [List.getElem?_cons_zero] at h
      cases h
      exact ⟨rfl, rfl, rfl⟩
    | succ i =>
      rw [List.getElem?_cons_succ] at h
      obtain ⟨h1, h2, h3⟩ := hexL_at r (k + 1) i b h (by omega)
      rw [show 3 * (i + 1) = 3 * i + 1 + 1 + 1 by omega, show 3 * i + 1 + 1 + 1 + 1 = (3 * i + 1) + 1 + 1 + 1 by omega, show 3 * i + 1 + 1 + 1 + 2 = (3 * i + 2) + 1 + 1 + 1 by omega]
      simp only [List.getElem?_cons_succ]
      rw [show k + (i + 1) = k + 1 + i by omega]
      exact ⟨h1, h2, h3⟩
theorem hexL_len1 : ∀ (r : List Int) (k : Nat), 0 < k → (hexL k r).length = 3 * r.length
  | [], _, _ => rfl
  | x :: r, k, hk => by
    have e : hexL k (x :: r) = sepN k :: hx (x / 16) :: hx (x % 16) :: hexL (k + 1) r := by
      show piece k x ++ hexL (k + 1) r = _
      unfold piece
      rw [if_neg (by omega)]
      rfl
    rw [e, List.length_cons, List.length_cons, List.length_cons, hexL_len1 r (k + 1) (by omega), List.length_cons]
    omega
theorem hexL0 (x : Int) (r : List Int) : hexL 0 (x :: r) = hx (x / 16) :: hx (x % 16) :: hexL 1 r := rfl
theorem hex_len (xs : List Int) : (hexL 0 xs).length = 3 * xs.length - 1 := by
  cases xs with
  | nil => rfl
  | cons x r => rw [hexL0, List.length_cons, List.length_cons, hexL_len1 r 1 (by decide), List.length_cons]; omega
/-- both signs of a byte -/
theorem hex_at {xs : List Int} {i : Nat} {b : Int} (h : xs[i]? = some b) : (hexL 0 xs)[3 * i]? = some (hx (b / 16)) ∧ (hexL 0 xs)[3 * i + 1]? = some (hx (b % 16)) := by
  cases xs with
  | nil => simp at h
  | cons x r =>
    rw [hexL0]
    cases i with
    | zero =>
      rw [List.getElem?_cons_zero] at h
      cases h
      exact ⟨rfl, rfl⟩
    | succ i =>
      rw [List.getElem?_cons_succ] at h
      obtain ⟨_, h2, h3⟩ := hexL_at r 1 i b h (by decide)
      rw [show 3 * (i + 1) = 3 * i + 1 + 1 + 1 by omega]
      simp only [List.getElem?_cons_succ]
      exact ⟨h2, h3⟩
theorem hx_mem (i : Int) : hx i ∈ sgs := by
  unfold hx
  rw [List.getD]
  cases q : sgs[i.toNat]? with
  | none => show 48 ∈ sgs; decide
  | some c => exact List.mem_of_getElem? q
theorem hex_ok {xs : List Int} {j c : Nat} (h : (hexL 0 xs)[j]? = some c) : (j % 3 = 2 → c = sepN (j / 3 + 1)) ∧ (j % 3 ≠ 2 → c ∈ sgs) := by
  have hj := (List.getElem?_eq_some_iff.mp h).1
  rw [hex_len] at hj
  cases xs with
  | nil => simp at hj
  | cons x r =>
    rw [hexL0] at h
    match j, h with
    | 0, h =>
      cases h
      exact ⟨fun z => by omega, fun _ => hx_mem _⟩
    | 1, h =>
      cases h
      exact ⟨fun z => by omega, fun _ => hx_mem _⟩
    | j + 2, h =>
      simp only [List.getElem?_cons_succ] at h
      rw [List.length_cons] at hj
      have hi : j / 3 < r.length := by omega
      obtain ⟨h1, h2, h3⟩ := hexL_at r 1 (j / 3) r[j / 3] (List.getElem?_eq_getElem hi) (by decide)
      rcases (show j % 3 = 0 ∨ j % 3 = 1 ∨ j % 3 = 2 by omega) with q | q | q
      · rw [show 3 * (j / 3) = j by omega, h] at h1
        refine ⟨fun _ => ?_, fun z => by omega⟩
        rw [Option.some.inj h1, show (j + 2) / 3 + 1 = 1 + j / 3 by omega]
      · rw [show 3 * (j / 3) + 1 = j by omega, h] at h2
        refine ⟨fun z => by omega, fun _ => ?_⟩
        rw [Option.some.inj h2]; exact hx_mem _
      · rw [show 3 * (j / 3) + 2 = j by omega, h] at h3
        refine ⟨fun z => by omega, fun _ => ?_⟩
        rw [Option.some.inj h3]; exact hx_mem _
theorem occ_hx : ∀ v ∈ List.range 16, Builtin.Str.occurrences (Str.ofString "0123456789abcdef") ⟨#[hx (v : Int)]⟩ 0 (Str.ofString "0123456789abcdef").length 1 = [v] := by decide +kernel
theorem u_may_be {j c : Nat} {n : Nat} {P : D → Nat → Prop} {E : XD} (h1 : j % 3 = 2 → c = sepN (j / 3 + 1)) (h2 : j % 3 ≠ 2 → c ∈ sgs) (h : P (.bl true) n) : U_may_be [.str ⟨#[c]⟩, .int (j : Int)] n P E := by
  unfold U_may_be B_may_be
  walk_at "d"
  refine ⟨by decide, ?_⟩
  refine iteI (fun h3 => ?_) (fun h3 => ?_)
  · refine ⟨⟨by decide, by decide⟩, ?_⟩
    rw [show ((j : Int) / 3 + 1) = ((j / 3 + 1 : Nat) : Int) by omega]
    refine u_between ?_
    walk_at "d"
    rw [← h1 (by omega), decide_eq_true rfl]
    exact h
  · rw [sgs_eq, decide_eq_true (h2 (by omega))]
    exact h
def byteD (xs : List Int) : D → D
  | .int j => .int (xs.getD (j.toNat / 3) 0)
  | _ => .non
theorem u_read_hex {xs : List Int} {n : Nat} {P : D → Nat → Prop} {E : XD} (hb : Bts xs) (hl : xs.length ≤ 1000) (h : P (.tup (row xs)) n) : U_read_hex [.str (hexS xs)] n P E := by
  have ht : (hexS xs).cps.toList = hexL 0 xs := List.toList_toArray
  have hlen : (hexS xs).length = 3 * xs.length - 1 := by
    show (hexL 0 xs).toArray.size = _
    rw [List.size_toArray, hex_len]
  unfold U_read_hex B_read_hex
  walk_at "d"
  unfold R_read_hex_3
  walk_at "d"
  refine for_inv (fun i δ n' => n = n' ∧ ∃ a b : Option Sl, δ = [some (.sh (.str (hexS xs))), a, b]) ⟨rfl, _, _, rfl⟩ ?_ ?_
  · rintro i x _ _ N hx1 ⟨rfl, a, b, rfl⟩ hN
    obtain ⟨y, hy, rfl⟩ := numd_get hx1
    unfold Dn.signs at hy
    rw [ht] at hy
    obtain ⟨c, hc, rfl⟩ := map_get hy
    obtain ⟨h1, h2⟩ := hex_ok hc
    refine ⟨_, rfl, ?_⟩
    unfold L_read_hex_1
    walk_at "d"
    rw [show (0 + (i : Int)) = (i : Int) by omega]
    refine u_may_be h1 h2 ?_
    walk_at "d"
    exact hN _ _ ⟨rfl, _, _, rfl⟩
  · rintro _ _ ⟨rfl, a, b, rfl⟩
    unfold R_read_hex_2
    walk_at "d"
    have fin : R_read_hex_1 { nx := fun x n' => P D.non n', rt := shP P, bk := fun x x_1 => False, ct := fun x x_1 => False, xe := fun x => E } [some (Sl.sh (D.str (hexS xs))), a, b] n := by
      have rs : Builtin.Range.rangeSize 0 (((hexS xs).length : Nat) : Int) 3 = (xs.length : Int) := by
        unfold Builtin.Range.rangeSize
        rw [if_pos (by decide), hlen]
        split <;> omega
      have sm : Builtin.Range.small 0 (((hexS xs).length : Nat) : Int) 3 = true := by
        have fl : ∀ i : Int, 0 ≤ i → i ≤ 100000 → Builtin.Range.rangeFitsLong i = true := fun i i0 i1 => by
          unfold Builtin.Range.rangeFitsLong
          simp only [Bool.and_eq_true, decide_eq_true_eq]
          omega
        unfold Builtin.Range.small
        rw [if_pos (by decide), rs, fl 0 (by decide) (by decide), fl _ (by omega) (by omega), fl 3 (by decide) (by decide), fl _ (by omega) (by omega), fl _ (by omega) (by omega), Bool.or_true]
        rfl
      unfold R_read_hex_1
      walk_at "d"
      have rg : gRange3 [.int 0, .int ((hexS xs).length : Int), .int 3] = some (intsC 0 3 xs.length) := by
        show (if (3 : Int) ≠ 0 ∧ (3 : Int).natAbs < 1073741824 ∧ Builtin.Range.small 0 ((hexS xs).length : Int) 3 = true ∧ 0 ≤ Builtin.Range.rangeSize 0 ((hexS xs).length : Int) 3 then some (intsC 0 3 (Builtin.Range.rangeSize 0 ((hexS xs).length : Int) 3).toNat) else none) = _
        rw [if_pos ⟨by decide, by decide, sm, by rw [rs]; omega⟩, rs, show ((xs.length : Nat) : Int).toNat = xs.length by omega]
      refine ⟨by omega, _, rg, ?_⟩
      refine ⟨by rw [intsC_len]; omega, lc_pure (byteD xs) (fun x hx1 => ?_) ?_⟩
      · unfold intsC at hx1
        obtain ⟨i, hi, rfl⟩ := List.mem_map.mp hx1
        have hi := List.mem_range.mp hi
        have e1 : xs[i]? = some xs[i] := List.getElem?_eq_getElem hi
        have hbb := hb _ (List.getElem_mem hi)
        have ed : byteD xs (.int (0 + (i : Nat) * 3)) = .int xs[i] := by
          show D.int (xs.getD ((0 + (i : Nat) * 3 : Int).toNat / 3) 0) = _
          rw [show (0 + (i : Nat) * 3 : Int).toNat / 3 = i by omega, getD_at hi]
        obtain ⟨h1, h2⟩ := hex_at e1
        rw [← ht] at h1 h2
        generalize xs[i] = v at *
        refine ⟨_, rfl, fun n Q q => ?_⟩
        rw [ed] at q
        walk_at "d"
        rw [show (0 + (i : Int) * 3) = ((3 * i : Nat) : Int) by omega, show (((3 * i : Nat) : Int) + 1) = ((3 * i + 1 : Nat) : Int) by omega, Dn.atI_nat h1, Dn.atI_nat h2, if_pos (by omega)]
        have oc : ∀ j : Int, 0 ≤ j → j < 16 → Builtin.Str.occurrences (Str.ofString "0123456789abcdef") ⟨#[hx j]⟩ 0 (Str.ofString "0123456789abcdef").length 1 = [j.toNat] := fun j j0 j1 => by
          have := occ_hx j.toNat (List.mem_range.mpr (by omega))
          rwa [show ((j.toNat : Nat) : Int) = j by omega] at this
        refine ⟨_, rfl, _, rfl, _, _, _, rfl, oc _ (by omega) (by omega), mulW (k := 100) (by omega) (Int.lt_of_le_of_lt (show (((v / 16).toNat : Nat) : Int) ≤ 255 by omega) (by decide)) (by decide) (by decide), _, rfl, _, by rw [if_pos (by omega)]; rfl, _, _, _, rfl, oc _ (by omega) (by omega), ?_⟩
        rw [show (((v / 16).toNat : Nat) : Int) * 16 + (((v % 16).toNat : Nat) : Int) = v by omega]
        exact q
      · have : (intsC 0 3 xs.length).map (byteD xs) = row xs := by
          refine List.ext_getElem? fun i => ?_
          rw [List.getElem?_map]
          by_cases hi : i < xs.length
          · rw [intsC_at hi, row_at (List.getElem?_eq_getElem hi)]
            show some (D.int (xs.getD ((0 + (i : Nat) * 3 : Int).toNat / 3) 0)) = _
            rw [show (0 + (i : Nat) * 3 : Int).toNat / 3 = i by omega, getD_at hi]
          · rw [List.getElem?_eq_none (by rw [intsC_len]; omega), List.getElem?_eq_none (by rw [row_len]; omega)]
            rfl
        rw [this]
        walk_at "d"
        exact h
    refine iteI (fun h1 => ?_) (fun h1 => fin)
    have hne : xs ≠ [] := fun z => h1 (by rw [z]; decide +kernel)
    have : 0 < xs.length := List.length_pos_iff.mpr hne
    refine ⟨by omega, by decide, ?_⟩
    rw [if_neg (by omega)]
    exact fin
end C05

namespace C05
open PySem L2 Br Dn Tr TL
local macro_rules | `(tactic| walk_at "d") => `(tactic| try simp only [dDef, shP, gIntS, gListS, gMulS, dSplit, dStarts, gCD, gCDIn, gCDNotIn, gCDGet, dSIdx, dPutO, dOwnD0, dSee, dIfO, dCallO0, dCallO, dActS, dRetS, dRetO, dDefS, dLamS, Sl.out, startD, dSeq, dNext, dSet, dSetO, dPar, dRet, dRetN, dIfS, dExpr, dAug, dVar, dC, dNil, dCons, dApp, dCall0, dCall, dAnd, dOr, dIf, dChain, dNew, dOwn, dSh, dOwnL, dOwnF, dUn, dBor, frz, frzB, dMut, dRaise, dTry, dIxO, dCat, dLam, dLamDef, dAct, y_isDict0, y_isDict1, y_isDict2, y_isDict3, y_isDict4, y_isDict5, y_isDict6, y_keys, y_revL, y_sum1, y_sum2, y_xf, y_isX, dMakeX, dMakeX0, dMakeK, dEqT, dLenO, dBorL, frzL, dDct0, y_isInt6, y_isBool6, y_isStr6, y_isTuple6, y_isList6, y_isSeq6, y_len4, y_inS, y_notInS, y_in1, y_in2, y_ne0, y_ne0L, y_eq0, y_isB, y_isNotB, y_revS, y_addN1, y_addN2, y_subN1, y_subN2, y_subN3, y_strN1, y_strN2, y_zipS, y_dget, y_dnotin, y_din, y_key1, y_key2, eqD_bl', dUnp, dGet1, dSortD, dJoin, dUpper, dDisp, dDispO, dUpd, dDc, x_tg3, x_setall1, dFst, dMake, dInit, dCmpO, dFor, dIt, dLc, wipeD, dSl, dNoB, dB, D.isN, D.flat, putD,
  x_add1, x_add2, x_add3, x_add4, x_i2, x_sub, x_lt, x_le, x_gt, x_ge, x_mod, x_div, x_pow, x_mul1, x_mul2, x_mul3, x_neg, x_not, x_tupl, x_list, x_len1, x_len2, x_len3, x_abs, x_min, x_max, x_int1, x_int2, x_tuple1, x_tuple2, x_listof1, x_listof2, x_iter1, x_iter2, x_iter3, x_range, x_range2, x_enum1, x_enum2, x_enum3, x_enumK, x_isi, x_isown, x_is, x_isnot, x_revT, x_sl1, x_sl2, x_sl3, x_ix1, x_ix2, x_ix3, x_fld, x_catL, x_append, x_extend1, x_extend2, x_insert, x_tg1, x_tg2, x_tg3, x_setall1, x_eq, x_ne, x_isInt0, x_isInt1, x_isInt2, x_isInt3, x_isInt4, x_isInt5, x_isBool0, x_isBool1, x_isBool2, x_isBool3, x_isBool4, x_isBool5, x_isStr0, x_isStr1, x_isStr2, x_isStr3, x_isStr4, x_isStr5, x_isTuple0, x_isTuple1, x_isTuple2, x_isTuple3, x_isTuple4, x_isTuple5, x_isList0, x_isList1, x_isList2, x_isList3, x_isList4, x_isList5, x_isSeq0, x_isSeq1, x_isSeq2, x_isSeq3, x_isSeq4, x_isSeq5, x_setall0,
  List.map_cons, List.map_nil, List.length_cons, List.length_nil, List.replicate_succ, List.replicate_zero, List.cons_append, List.nil_append, List.append_nil, Nat.reduceSub, Nat.reduceAdd, Nat.sub_self, Nat.zero_add, List.getElem?_cons_zero, List.getElem?_cons_succ, List.set_cons_zero, List.set_cons_succ, Option.some.injEq, Sl.sh.injEq, Sl.ow.injEq, D.bl.injEq, D.int.injEq, D.tup.injEq, D.lst.injEq, D.obj.injEq, exists_eq_left', exists_eq_left, true_and, and_true, Option.map_some, reduceCtorEq, if_true, if_false, ite_true, ite_false, Bool.not_true, Bool.not_false, decide_eq_true_eq, Bool.false_eq_true, eq_self_iff_true, List.mem_singleton, List.lookup, beq_self_eq_true, Bool.true_eq_false, atI0, atI1, atI2, atI3, atI4, eqD_int, eqD_str, eqD_row, eqD_row0, ex_if, sizeLine_eq, Nat.reduceLeDiff, row_len, row_app, row_cut, row_rev, Bool.not_eq_true', decide_eq_false_iff_not, List.length_map, List.length_append, Nat.reduceLT])
local macro_rules | `(tactic| walk_at "c") => `(tactic| repeat (first | assumption | rw [if_neg (by decide +kernel)] | rw [if_pos (by decide +kernel)] | refine ⟨by decide +kernel, ?_⟩ | refine ⟨⟨by decide, by decide⟩, ?_⟩ | refine ⟨_, rfl, ?_⟩))
/-! ### a drawn word and its bytes -/
theorem wd_bw {e : Ro} {s : Int} {l : Str} {b : D} (h : Dw e s l b) (pre post : List Int) : wd (pre ++ bw e s b ++ post) pre.length = .ok (.tup [.str e.1, .str l, b], pre.length + (bw e s b).length) := by
  obtain ⟨h1, h2, h3⟩ := h
  have sp := lt_span e h1 _ h2 rfl
  dsimp only at sp
  have hs : ((s.toNat : Nat) : Int) = s := by omega
  have hm : s.toNat ∈ List.range (spanOf e.2.2.1) := List.mem_range.mpr (by omega)
  have en := ent_at e h1 _ hm
  have lo := ltOf_ok e h1 _ hm
  rw [hs] at en lo
  have lu := (lt_uniq _ lo _ h2 rfl).mp rfl
  dsimp only at lu
  have dn := dw_num ⟨h1, h2, h3⟩
  have at0 : ∀ t : List Int, (pre ++ ((e.2.1 + s) :: t) ++ post)[pre.length]? = some (e.2.1 + s) := fun t => by simp
  have at1 : ∀ (y : Int) (t : List Int), (pre ++ ((e.2.1 + s) :: y :: t) ++ post).getD (pre.length + 1) 0 = y := fun y t => by simp [List.getD]
  have at2 : ∀ (x y : Int), (pre ++ ((e.2.1 + s) :: [x, y]) ++ post).getD (pre.length + 2) 0 = y := fun x y => by simp [List.getD]
  have key : ∀ (t : List Int), t.length = e.2.2.2.toNat → numD e (pre ++ ((e.2.1 + s) :: t) ++ post) pre.length = b → wd (pre ++ ((e.2.1 + s) :: t) ++ post) pre.length = .ok (.tup [.str e.1, .str l, b], pre.length + ((e.2.1 + s) :: t).length) := fun t ht hn => by
    unfold wd
    rw [at0]
    dsimp only
    rw [en]
    dsimp only
    rw [if_neg (by simp only [List.length_append, List.length_cons]; omega)]
    unfold wdD
    rw [hn, show e.2.1 + s - e.2.1 = s by omega, lu, List.length_cons, ht, show pre.length + 1 + e.2.2.2.toNat = pre.length + (e.2.2.2.toNat + 1) by omega]
  rcases dn with ⟨r, rfl⟩ | ⟨r, i, rfl, i0, i1⟩ | ⟨r, i, rfl, i0, i1⟩
  · refine key [] (by rw [r]; rfl) ?_
    unfold numD
    rw [if_pos r]
  · rw [bw1 r]
    refine key [i % 256] (by rw [r]; rfl) ?_
    unfold numD
    rw [if_neg (by omega), if_pos r, at1]
    dsimp only
    unfold numOk at h3
    rw [if_neg (by omega), if_pos r] at h3
    have q : (e.1 ∈ near → -128 ≤ i ∧ i ≤ 127) ∧ (e.1 ∉ near → 0 ≤ i ∧ i ≤ 255) := by
      refine ⟨fun z => ?_, fun z => ?_⟩
      · rw [if_pos z] at h3
        have h3 : (decide (-128 ≤ i) && decide (i ≤ 127)) = true := h3
        rw [Bool.and_eq_true, decide_eq_true_eq, decide_eq_true_eq] at h3
        exact h3
      · rw [if_neg z] at h3
        have h3 : (decide (0 ≤ i) && decide (i ≤ 255)) = true := h3
        rw [Bool.and_eq_true, decide_eq_true_eq, decide_eq_true_eq] at h3
        exact h3
    by_cases z : e.1 ∈ near
    · have := q.1 z
      split
      · rename_i c
        have : i % 256 - 256 = i := by omega
        rw [this]
      · rename_i c
        have : ¬ i % 256 > 127 := fun w => c ⟨z, w⟩
        have : i % 256 = i := by omega
        rw [this]
    · have := q.2 z
      rw [if_neg (fun c => z c.1)]
      have : i % 256 = i := by omega
      rw [this]
  · rw [bw2 r]
    refine key [i / 256, i % 256] (by rw [r]; rfl) ?_
    unfold numD
    rw [if_neg (by omega), if_neg (by omega), at1, at2]
    have : i / 256 * 256 + i % 256 = i := by omega
    rw [this]
/-! ### the words of a run -/
abbrev Wq := Ro × Int × Str × D
def Wq.ok (q : Wq) : Prop := Dw q.1 q.2.1 q.2.2.1 q.2.2.2
def wq (q : Wq) : D := .tup [.str q.1.1, .str q.2.2.1, q.2.2.2]
def bq (q : Wq) : List Int := bw q.1 q.2.1 q.2.2.2
def rowOf : List Wq → List Int
  | [] => []
  | q :: r => bq q ++ rowOf r
def dueL : Nat → List Wq → List D
  | _, [] => []
  | k, q :: r => .tup [.int (k : Int), wq q] :: dueL (k + (bq q).length) r
theorem bq_pos (q : Wq) : 0 < (bq q).length := Nat.succ_pos _
theorem row_ge : ∀ qs : List Wq, qs.length ≤ (rowOf qs).length
  | [] => Nat.zero_le _
  | q :: r => by
    have := row_ge r
    have := bq_pos q
    show (q :: r).length ≤ (bq q ++ rowOf r).length
    rw [List.length_append, List.length_cons]
    omega
theorem ws_row : ∀ (qs : List Wq) (pre : List Int) (f : Nat), (∀ q ∈ qs, q.ok) → qs.length < f → ws f (pre ++ rowOf qs) pre.length = .ok (dueL pre.length qs)
  | [], pre, f + 1, _, _ => by
    unfold ws
    rw [if_neg (by show ¬ pre.length < (pre ++ []).length; simp)]
    rfl
  | [], _, 0, _, h => by simp at h
  | q :: r, _, 0, _, h => by simp at h
  | q :: r, pre, f + 1, h, hf => by
    have w := wd_bw (h q (by simp)) pre (rowOf r)
    have ih := ws_row r (pre ++ bq q) f (fun x hx => h x (by simp [hx])) (by rw [List.length_cons] at hf; omega)
    have e : pre ++ rowOf (q :: r) = pre ++ bq q ++ rowOf r := by show pre ++ (bq q ++ rowOf r) = _; rw [List.append_assoc]
    rw [e]
    unfold ws
    have := bq_pos q
    rw [if_pos (by rw [List.length_append, List.length_append]; omega)]
    rw [show wd (pre ++ bq q ++ rowOf r) pre.length = .ok (wq q, pre.length + (bq q).length) from w]
    dsimp only
    rw [← List.length_append, ih]
    dsimp only
    rw [List.length_append]
    rfl
theorem wsA_row {qs : List Wq} (h : ∀ q ∈ qs, q.ok) : wsA (rowOf qs) = .ok (dueL 0 qs) := by
  have := ws_row qs [] ((rowOf qs).length + 1) h (Nat.lt_succ_of_le (row_ge qs))
  rw [List.nil_append, List.length_nil] at this
  show cat [] (ws ((rowOf qs).length + 1) (rowOf qs) 0) = _
  rw [this]
  rfl
theorem rowOf_snoc (q : Wq) : ∀ qs : List Wq, rowOf (qs ++ [q]) = rowOf qs ++ bq q
  | [] => by show bq q ++ [] = [] ++ bq q; simp
  | p :: r => by show bq p ++ rowOf (r ++ [q]) = (bq p ++ rowOf r) ++ _; rw [rowOf_snoc q r, List.append_assoc]
theorem dueL_snoc (q : Wq) : ∀ (qs : List Wq) (k : Nat), dueL k (qs ++ [q]) = dueL k qs ++ [D.tup [.int ((k + (rowOf qs).length : Nat) : Int), wq q]]
  | [], k => rfl
  | p :: r, k => by
    show _ :: dueL (k + (bq p).length) (r ++ [q]) = (_ :: dueL (k + (bq p).length) r) ++ _
    rw [dueL_snoc q r, List.cons_append]
    show _ = _ :: (_ ++ [D.tup [.int ((k + (bq p ++ rowOf r).length : Nat) : Int), wq q]])
    rw [List.length_append, show k + ((bq p).length + (rowOf r).length) = k + (bq p).length + (rowOf r).length by omega]
/-- the j-th due -/
theorem due_at : ∀ (qs : List Wq) (k i : Nat) (x : D), (dueL k qs)[i]? = some x → ∃ (p r : List Wq) (q : Wq), qs = p ++ q :: r ∧ x = .tup [.int ((k + (rowOf p).length : Nat) : Int), wq q]
  | [], _, _, _, h => by cases h
  | q :: r, k, 0, x, h => by
    cases h
    exact ⟨[], r, q, rfl, rfl⟩
  | q :: r, k, i + 1, x, h => by
    obtain ⟨p, r', q', e1, e2⟩ := due_at r (k + (bq q).length) i x h
    refine ⟨q :: p, r', q', by rw [e1]; rfl, ?_⟩
    rw [e2]
    show _ = D.tup [.int ((k + (bq q ++ rowOf p).length : Nat) : Int), wq q']
    rw [List.length_append, show k + ((bq q).length + (rowOf p).length) = k + (bq q).length + (rowOf p).length by omega]
theorem rowOf_app : ∀ (p r : List Wq), rowOf (p ++ r) = rowOf p ++ rowOf r
  | [], r => rfl
  | q :: p, r => by show bq q ++ rowOf (p ++ r) = (bq q ++ rowOf p) ++ _; rw [rowOf_app p r, List.append_assoc]
theorem row_bts : ∀ qs : List Wq, (∀ q ∈ qs, q.ok) → Bts (rowOf qs) ∧ (rowOf qs).length ≤ 3 * qs.length
  | [], _ => ⟨(fun b hb => by cases hb), Nat.le_refl _⟩
  | q :: r, h => by
    obtain ⟨a, b⟩ := row_bts r fun x hx => h x (by simp [hx])
    obtain ⟨c, d⟩ := bw_bts (h q (by simp))
    refine ⟨fun x hx => ?_, ?_⟩
    · rcases List.mem_append.mp hx with z | z
      · exact c x z
      · exact a x z
    · show (bq q ++ rowOf r).length ≤ _
      have : (bq q).length ≤ 3 := d
      rw [List.length_append, List.length_cons]; omega
/-! ### compares -/
def Q (j : Nat) (d : D) : Prop := ∃ p, d.py = some p ∧ p.canLay0 = true ∧ p.depth ≤ j
theorem Q_non : Q 0 .non := ⟨_, rfl, rfl, Nat.le_refl _⟩
theorem Q_int (i : Int) : Q 0 (.int i) := ⟨_, rfl, rfl, Nat.le_refl _⟩
theorem Q_str {x : Str} (h : Asc x) : Q 0 (.str x) := ⟨_, rfl, h.ok, Nat.le_refl _⟩
theorem Q.mono {j k : Nat} {d : D} (h : Q j d) (hk : j ≤ k) : Q k d := by
  obtain ⟨p, a, b, c⟩ := h
  exact ⟨p, a, b, Nat.le_trans c hk⟩
theorem Q_all {j : Nat} : ∀ xs : List D, (∀ x ∈ xs, Q j x) → ∃ ps, D.pyAll xs = some ps ∧ PyData.canLayAll0 ps = true ∧ PyData.depthAll ps ≤ j
  | [], _ => ⟨[], rfl, rfl, Nat.zero_le _⟩
  | x :: xs, h => by
    obtain ⟨p, a, b, c⟩ := h x (by simp)
    obtain ⟨ps, a2, b2, c2⟩ := Q_all xs fun y hy => h y (by simp [hy])
    refine ⟨p :: ps, ?_, ?_, ?_⟩
    · unfold D.pyAll
      rw [a, a2]
    · show (p.canLay0 && PyData.canLayAll0 ps) = true
      rw [b, b2]; rfl
    · show max p.depth (PyData.depthAll ps) ≤ j
      exact Nat.max_le.mpr ⟨c, c2⟩
theorem Q_tup {j : Nat} {xs : List D} (h : ∀ x ∈ xs, Q j x) : Q (j + 1) (.tup xs) := by
  obtain ⟨ps, a, b, c⟩ := Q_all xs h
  refine ⟨.tuple ps, ?_, b, Nat.succ_le_succ c⟩
  unfold D.py
  rw [a]; rfl
theorem Q_lst {j : Nat} {xs : List D} (h : ∀ x ∈ xs, Q j x) : Q (j + 1) (.lst xs) := by
  obtain ⟨ps, a, b, c⟩ := Q_all xs h
  refine ⟨.list ps, ?_, b, Nat.succ_le_succ c⟩
  unfold D.py
  rw [a]; rfl
theorem eqD_self {j : Nat} {d : D} (h : Q j d) (hj : j ≤ 64) : eqD d d = some true := by
  obtain ⟨p, a, b, c⟩ := h
  have sh : SeqAt.shaped p = true := by
    show (p.canLay0 && decide (p.depth ≤ 64)) = true
    rw [b, decide_eq_true (by omega)]; rfl
  have g : (match d.py, d.py with | some p, some q => if SeqAt.shaped p = true ∧ SeqAt.shaped q = true then some (PyData.eqv p q) else none | _, _ => none) = some true := by
    rw [a]
    dsimp only
    rw [if_pos ⟨sh, sh⟩, PySem.SeqAt.eqv_refl p b]
  cases d with
  | int i => rw [eqD_int]; simp
  | str x => rw [eqD_str]; simp
  | non => exact g
  | bl b => exact g
  | lst xs => exact g
  | tup xs => exact g
  | _ => cases a
theorem ne_self {j : Nat} {d : D} {W : Prop} (h : Q j d) (hj : j ≤ 64) (w : W) : ∃ d_2, Option.map (fun b => D.bl !b) (eqD d d) = some d_2 ∧ ∃ c, d_2 = D.bl c ∧ if c = true then False else W := by
  rw [eqD_self h hj]
  refine ⟨_, rfl, false, rfl, ?_⟩
  rw [if_neg Bool.false_ne_true]; exact w
theorem tab_asc : ∀ e ∈ tab, Asc e.1 ∧ e.1.length ≤ 40 := by unfold Asc; decide +kernel
theorem lt_asc : ∀ e ∈ lt, Asc e.2.2 ∧ e.2.2.length ≤ 40 := by unfold Asc; decide +kernel
theorem Q_wq {q : Wq} (h : q.ok) : Q 1 (wq q) := by
  have hn := dw_num h
  obtain ⟨h1, h2, h3⟩ := h
  refine Q_tup fun x hx => ?_
  simp only [List.mem_cons, List.not_mem_nil, or_false] at hx
  rcases hx with rfl | rfl | rfl
  · exact Q_str (tab_asc _ h1).1
  · exact Q_str (lt_asc _ h2).1
  · rcases hn with ⟨_, e⟩ | ⟨_, i, e, _⟩ | ⟨_, i, e, _⟩
    · rw [e]; exact Q_non
    · rw [e]; exact Q_int i
    · rw [e]; exact Q_int i
theorem Q_pair {i : Int} {q : Wq} (h : q.ok) : Q 2 (.tup [.int i, wq q]) := Q_tup fun x hx => by
  simp only [List.mem_cons, List.not_mem_nil, or_false] at hx
  rcases hx with rfl | rfl
  · exact (Q_int i).mono (by omega)
  · exact Q_wq h
theorem Q_pair2 {i : Int} {q : Wq} (h : q.ok) : Q 2 (.tup [wq q, .int i]) := Q_tup fun x hx => by
  simp only [List.mem_cons, List.not_mem_nil, or_false] at hx
  rcases hx with rfl | rfl
  · exact Q_wq h
  · exact (Q_int i).mono (by omega)
theorem Q_due : ∀ (qs : List Wq) (k : Nat), (∀ q ∈ qs, q.ok) → ∀ x ∈ dueL k qs, Q 2 x
  | [], _, _, x, hx => by cases hx
  | q :: r, k, h, x, hx => by
    rcases List.mem_cons.mp hx with rfl | z
    · exact Q_pair (h q (by simp))
    · exact Q_due r _ (fun y hy => h y (by simp [hy])) x z
end C05

namespace C05
open PySem L2 Br Dn Tr TL
local macro_rules | `(tactic| walk_at "d") => `(tactic| try simp only [dDef, shP, gIntS, gListS, gMulS, dSplit, dStarts, gCD, gCDIn, gCDNotIn, gCDGet, dSIdx, dPutO, dOwnD0, dSee, dIfO, dCallO0, dCallO, dActS, dRetS, dRetO, dDefS, dLamS, Sl.out, startD, dSeq, dNext, dSet, dSetO, dPar, dRet, dRetN, dIfS, dExpr, dAug, dVar, dC, dNil, dCons, dApp, dCall0, dCall, dAnd, dOr, dIf, dChain, dNew, dOwn, dSh, dOwnL, dOwnF, dUn, dBor, frz, frzB, dMut, dRaise, dTry, dIxO, dCat, dLam, dLamDef, dAct, y_isDict0, y_isDict1, y_isDict2, y_isDict3, y_isDict4, y_isDict5, y_isDict6, y_keys, y_revL, y_sum1, y_sum2, y_xf, y_isX, dMakeX, dMakeX0, dMakeK, dEqT, dLenO, dBorL, frzL, dDct0, y_isInt6, y_isBool6, y_isStr6, y_isTuple6, y_isList6, y_isSeq6, y_len4, y_inS, y_notInS, y_in1, y_in2, y_ne0, y_ne0L, y_eq0, y_isB, y_isNotB, y_revS, y_addN1, y_addN2, y_subN1, y_subN2, y_subN3, y_strN1, y_strN2, y_zipS, y_dget, y_dnotin, y_din, y_key1, y_key2, eqD_bl', dUnp, dGet1, dSortD, dJoin, dUpper, dDisp, dDispO, dUpd, dDc, x_tg3, x_setall1, dFst, dMake, dInit, dCmpO, dFor, dIt, dLc, wipeD, dSl, dNoB, dB, D.isN, D.flat, putD,
  x_add1, x_add2, x_add3, x_add4, x_i2, x_sub, x_lt, x_le, x_gt, x_ge, x_mod, x_div, x_pow, x_mul1, x_mul2, x_mul3, x_neg, x_not, x_tupl, x_list, x_len1, x_len2, x_len3, x_abs, x_min, x_max, x_int1, x_int2, x_tuple1, x_tuple2, x_listof1, x_listof2, x_iter1, x_iter2, x_iter3, x_range, x_range2, x_enum1, x_enum2, x_enum3, x_enumK, x_isi, x_isown, x_is, x_isnot, x_revT, x_sl1, x_sl2, x_sl3, x_ix1, x_ix2, x_ix3, x_fld, x_catL, x_append, x_extend1, x_extend2, x_insert, x_tg1, x_tg2, x_tg3, x_setall1, x_eq, x_ne, x_isInt0, x_isInt1, x_isInt2, x_isInt3, x_isInt4, x_isInt5, x_isBool0, x_isBool1, x_isBool2, x_isBool3, x_isBool4, x_isBool5, x_isStr0, x_isStr1, x_isStr2, x_isStr3, x_isStr4, x_isStr5, x_isTuple0, x_isTuple1, x_isTuple2, x_isTuple3, x_isTuple4, x_isTuple5, x_isList0, x_isList1, x_isList2, x_isList3, x_isList4, x_isList5, x_isSeq0, x_isSeq1, x_isSeq2, x_isSeq3, x_isSeq4, x_isSeq5, x_setall0,
  List.map_cons, List.map_nil, List.length_cons, List.length_nil, List.replicate_succ, List.replicate_zero, List.cons_append, List.nil_append, List.append_nil, Nat.reduceSub, Nat.reduceAdd, Nat.sub_self, Nat.zero_add, List.getElem?_cons_zero, List.getElem?_cons_succ, List.set_cons_zero, List.set_cons_succ, Option.some.injEq, Sl.sh.injEq, Sl.ow.injEq, D.bl.injEq, D.int.injEq, D.tup.injEq, D.lst.injEq, D.obj.injEq, exists_eq_left', exists_eq_left, true_and, and_true, Option.map_some, reduceCtorEq, if_true, if_false, ite_true, ite_false, Bool.not_true, Bool.not_false, decide_eq_true_eq, Bool.false_eq_true, eq_self_iff_true, List.mem_singleton, List.lookup, beq_self_eq_true, Bool.true_eq_false, atI0, atI1, atI2, atI3, atI4, eqD_int, eqD_str, eqD_row, eqD_row0, ex_if, sizeLine_eq, Nat.reduceLeDiff, row_len, row_app, row_cut, row_rev, Bool.not_eq_true', decide_eq_false_iff_not, List.length_map, List.length_append, Nat.reduceLT])
local macro_rules | `(tactic| walk_at "c") => `(tactic| repeat (first | assumption | rw [if_neg (by decide +kernel)] | rw [if_pos (by decide +kernel)] | refine ⟨by decide +kernel, ?_⟩ | refine ⟨⟨by decide, by decide⟩, ?_⟩ | refine ⟨_, rfl, ?_⟩))
theorem cutS_len (x : Str) (lo hi : Option Int) : (cutS x lo hi).length ≤ x.length := by
  show ((x.cps.toList.drop (HT.sIx x.length 0 lo)).take (HT.sIx x.length x.length hi - HT.sIx x.length 0 lo)).toArray.size ≤ x.cps.size
  rw [List.size_toArray, List.length_take, List.length_drop, Array.length_toList]
  omega
theorem revS_len (x : Str) : (revS x).length = x.length := by
  show x.cps.toList.reverse.toArray.size = x.cps.size
  simp
theorem joinL_len (S : List Nat) : ∀ ps : List (List Nat), (TL.joinL S ps).length ≤ (ps.map (·.length)).sum + ps.length * S.length
  | [] => Nat.zero_le _
  | [p] => by show p.length ≤ p.length + 0 + _; omega
  | p :: q :: r => by
    have := joinL_len S (q :: r)
    show (p ++ (S ++ TL.joinL S (q :: r))).length ≤ _
    rw [List.length_append, List.length_append, List.map_cons, List.sum_cons, List.length_cons, Nat.add_mul]
    omega
theorem txt_len {x l : Str} {b : D} (hx : x.length ≤ 40) (hl : l.length ≤ 40) (hb : NumB b) : (txt x l b).length ≤ 200 := by
  have hs := parts_sum (x := x) (l := l) hb
  have h := joinL_len [32] ((partsOf x l b).map fun p => p.cps.toList)
  have e : (txt x l b).cps.toList = TL.joinL [32] ((partsOf x l b).map fun p => p.cps.toList) := by
    unfold txt
    have h := TL.tl_join (Str.ofString " ") (partsOf x l b)
    rw [blank1] at h
    rw [TL.join_eq]
    exact h
  rw [← e, List.length_map, List.map_map] at h
  have e2 : ((partsOf x l b).map ((·.length) ∘ fun p => p.cps.toList)).sum = ((partsOf x l b).map fun x => x.length).sum := by
    congr 1
  rw [e2, Array.length_toList] at h
  have : (txt x l b).cps.size = (txt x l b).length := rfl
  rw [← this]
  simp only [List.length_cons, List.length_nil] at h
  omega
theorem add_ok {x y : Str} (h : x.length + y.length ≤ 1000000) : gAdd [.str x, .str y] = some (.str (x ++ y)) := by
  show (if x.length + y.length ≤ sizeLine then some (D.str (x ++ y)) else none) = _
  rw [if_pos (by rw [sizeLine_eq]; omega)]
theorem u_signs {n : Nat} {P : D → Nat → Prop} {E : XD} (h : ∀ z : Str, 0 < z.length → z.length ≤ 200 → P (.str z) n) : U__law_signs [] n P E := by
  unfold U__law_signs B__law_signs
  walk_at "d"
  have e : (Str.ofString " !\"#$&'()*+,-./0123456789:;<=>?@ABCDEFGHIJKLMNOPQRSTUVWXYZ[\\]^_").length + (Str.ofString "`abcdefghijklmnopqrstuvwxyz{|}~\n").length ≤ 200 ∧ 0 < (Str.ofString " !\"#$&'()*+,-./0123456789:;<=>?@ABCDEFGHIJKLMNOPQRSTUVWXYZ[\\]^_").length + (Str.ofString "`abcdefghijklmnopqrstuvwxyz{|}~\n").length := by decide +kernel
  refine ⟨by omega, ?_⟩
  exact h _ (by rw [str_add_len]; omega) (by rw [str_add_len]; omega)
theorem sign_at {z : Str} {i : Int} (h0 : 0 ≤ i) (h1 : i < (z.length : Int)) : ∃ c, atI z.cps.toList i = some c := by
  obtain ⟨k, rfl⟩ := Int.eq_ofNat_of_zero_le h0
  have : k < z.cps.toList.length := by rw [Array.length_toList]; show k < z.length; omega
  exact ⟨_, Dn.atI_nat (List.getElem?_eq_getElem this)⟩
theorem u_bent {z near : Str} {n : Nat} {P : D → Nat → Prop} {E : XD} (hz : z.length ≤ 10000) (hw : 0 < near.length) (hw2 : near.length ≤ 200) (hn : n < 1000000) (h : ∀ y : Str, y.length ≤ 3 * z.length + 10 → P (.str y) (n + 4)) : U__law_bent_text [.pen, .str z, .str near] n P E := by
  unfold U__law_bent_text B__law_bent_text
  walk_at "d"
  refine ⟨by omega, ?_⟩
  refine Dn.draw (δ := []) (by omega) (by omega) (by omega) fun r r0 r1 => ?_
  refine Dn.draw (δ := []) (by omega) (by omega) (by omega) fun q q0 q1 => ?_
  refine u_signs fun sz s0 s1 => ?_
  refine Dn.draw (δ := []) (by omega) (by omega) (by omega) fun p p0 p1 => ?_
  have pick : ∃ y : Str, gIx [.lst [.str near, .str sz], .int p] = some (.str y) ∧ 0 < y.length ∧ y.length ≤ 200 := by
    rcases (show p = 0 ∨ p = 1 by omega) with rfl | rfl
    · exact ⟨near, rfl, hw, hw2⟩
    · exact ⟨sz, rfl, s0, s1⟩
  obtain ⟨y, e1, y0, y1⟩ := pick
  refine ⟨_, e1, ?_⟩
  walk_at "d"
  have cl := cutS_len z
  refine ⟨by omega, ?_⟩
  refine Dn.draw (δ := []) (by omega) (by omega) (by omega) fun t t0 t1 => ?_
  obtain ⟨c, hc⟩ := sign_at t0 t1
  have cs : (⟨#[c]⟩ : Str).length = 1 := rfl
  have ix : gIx [.str y, .int t] = some (.str ⟨#[c]⟩) := by
    show (if y.length ≤ sizeLine then Option.map (fun c => D.str ⟨#[c]⟩) (atI y.cps.toList t) else none) = _
    rw [hc, if_pos (by rw [sizeLine_eq]; omega)]; rfl
  refine ⟨_, ix, ?_⟩
  have h : ∀ y : Str, y.length ≤ 3 * z.length + 10 → P (.str y) (n + 1 + 1 + 1 + 1) := h
  generalize (⟨#[c]⟩ : Str) = sg at *
  refine iteI (fun k => ?_) (fun k => ?_)
  · have a1 := cl none (some r)
    have a2 := cl (some (r + q / 2)) none
    refine ⟨by omega, _, add_ok (by omega), ⟨by decide, by decide⟩, by omega, _, add_ok (by rw [str_add_len]; omega), h _ ?_⟩
    simp only [str_add_len]; omega
  unfold R__law_bent_text_3
  walk_at "d"
  refine iteI (fun k => ?_) (fun k => ?_)
  · have a1 := cl none (some r)
    have a2 := cl (some (r + 1)) none
    refine ⟨by omega, by omega, by omega, h _ ?_⟩
    simp only [str_add_len]; omega
  unfold R__law_bent_text_2
  walk_at "d"
  have a1 := cl none (some r)
  have a2 := cl (some r) none
  refine ⟨by omega, by omega, ?_⟩
  have dl := cutS_len (cutS z (some r) none)
  refine iteI (fun k => ?_) (fun k => ?_)
  · have b1 := dl none (some 2)
    have b2 := dl (some 2) none
    have b3 := revS_len (cutS (cutS z (some r) none) none (some 2))
    refine ⟨by omega, by omega, by omega, by omega, by rw [str_add_len]; omega, h _ ?_⟩
    simp only [str_add_len]; omega
  unfold R__law_bent_text_1
  walk_at "d"
  have b1 := dl none (some 1)
  refine iteI (fun k => h _ (by omega)) (fun k => ?_)
  refine ⟨by omega, by omega, by rw [str_add_len]; omega, h _ ?_⟩
  simp only [str_add_len]; omega
theorem u_numbers {z : Str} {n : Nat} {P : D → Nat → Prop} {E : XD} (hz : z.length ≤ 10000) (hn : n < 1000000) (h : ∀ y : Str, y.length ≤ 20000 → P (.str y) (n + 1)) : U__law_numbers [.pen, .str z] n P E := by
  unfold U__law_numbers B__law_numbers
  walk_at "d"
  have m : (Txt.mul (Str.ofString "0") 4400).length ≤ 4400 := by decide +kernel
  have m1 : (Str.ofString " 1").length ≤ 3 ∧ (Str.ofString " -1").length ≤ 3 := by decide +kernel
  have big : (-2 ^ 63 ≤ (4400 : Int) ∧ (4400 : Int) < 2 ^ 63 ∧ (Str.ofString "0").length * Int.toNat 4400 ≤ 1000000) := by decide +kernel
  refine ⟨big, by omega, big, by omega, ?_⟩
  have l1 : (Str.ofString " 1" ++ Txt.mul (Str.ofString "0") 4400).length ≤ 5000 := by rw [str_add_len]; omega
  have l2 : (Str.ofString " -1" ++ Txt.mul (Str.ofString "0") 4400).length ≤ 5000 := by rw [str_add_len]; omega
  generalize (Str.ofString " 1" ++ Txt.mul (Str.ofString "0") 4400) = w1 at *
  generalize (Str.ofString " -1" ++ Txt.mul (Str.ofString "0") 4400) = w2 at *
  refine u_pick (by omega) (by show 0 < 19; omega) (by show 19 < 1000000; omega) fun x hx => ?_
  have hs : ∃ w : Str, x = .str w ∧ w.length ≤ 5000 := by
    simp only [List.mem_cons, List.not_mem_nil, or_false] at hx
    rcases hx with rfl | rfl | rfl | rfl | rfl | rfl | rfl | rfl | rfl | rfl | rfl | rfl | rfl | rfl | rfl | rfl | rfl | rfl | rfl
    all_goals first
      | exact ⟨_, rfl, l1⟩
      | exact ⟨_, rfl, l2⟩
      | exact ⟨_, rfl, by decide +kernel⟩
  obtain ⟨w, rfl, hw⟩ := hs
  exact ⟨_, add_ok (by omega), h _ (by rw [str_add_len]; omega)⟩
end C05

namespace C05
open PySem L2 Br Dn Tr TL
local macro_rules | `(tactic| walk_at "d") => `(tactic| try simp only [dDef, shP, gIntS, gListS, gMulS, dSplit, dStarts, gCD, gCDIn, gCDNotIn, gCDGet, dSIdx, dPutO, dOwnD0, dSee, dIfO, dCallO0, dCallO, dActS, dRetS, dRetO, dDefS, dLamS, Sl.out, startD, dSeq, dNext, dSet, dSetO, dPar, dRet, dRetN, dIfS, dExpr, dAug, dVar, dC, dNil, dCons, dApp, dCall0, dCall, dAnd, dOr, dIf, dChain, dNew, dOwn, dSh, dOwnL, dOwnF, dUn, dBor, frz, frzB, dMut, dRaise, dTry, dIxO, dCat, dLam, dLamDef, dAct, y_isDict0, y_isDict1, y_isDict2, y_isDict3, y_isDict4, y_isDict5, y_isDict6, y_keys, y_revL, y_sum1, y_sum2, y_xf, y_isX, dMakeX, dMakeX0, dMakeK, dEqT, dLenO, dBorL, frzL, dDct0, y_isInt6, y_isBool6, y_isStr6, y_isTuple6, y_isList6, y_isSeq6, y_len4, y_inS, y_notInS, y_in1, y_in2, y_ne0, y_ne0L, y_eq0, y_isB, y_isNotB, y_revS, y_addN1, y_addN2, y_subN1, y_subN2, y_subN3, y_strN1, y_strN2, y_zipS, y_dget, y_dnotin, y_din, y_key1, y_key2, eqD_bl', dUnp, dGet1, dSortD, dJoin, dUpper, dDisp, dDispO, dUpd, dDc, x_tg3, x_setall1, dFst, dMake, dInit, dCmpO, dFor, dIt, dLc, wipeD, dSl, dNoB, dB, D.isN, D.flat, putD,
  x_add1, x_add2, x_add3, x_add4, x_i2, x_sub, x_lt, x_le, x_gt, x_ge, x_mod, x_div, x_pow, x_mul1, x_mul2, x_mul3, x_neg, x_not, x_tupl, x_list, x_len1, x_len2, x_len3, x_abs, x_min, x_max, x_int1, x_int2, x_tuple1, x_tuple2, x_listof1, x_listof2, x_iter1, x_iter2, x_iter3, x_range, x_range2, x_enum1, x_enum2, x_enum3, x_enumK, x_isi, x_isown, x_is, x_isnot, x_revT, x_sl1, x_sl2, x_sl3, x_ix1, x_ix2, x_ix3, x_fld, x_catL, x_append, x_extend1, x_extend2, x_insert, x_tg1, x_tg2, x_tg3, x_setall1, x_eq, x_ne, x_isInt0, x_isInt1, x_isInt2, x_isInt3, x_isInt4, x_isInt5, x_isBool0, x_isBool1, x_isBool2, x_isBool3, x_isBool4, x_isBool5, x_isStr0, x_isStr1, x_isStr2, x_isStr3, x_isStr4, x_isStr5, x_isTuple0, x_isTuple1, x_isTuple2, x_isTuple3, x_isTuple4, x_isTuple5, x_isList0, x_isList1, x_isList2, x_isList3, x_isList4, x_isList5, x_isSeq0, x_isSeq1, x_isSeq2, x_isSeq3, x_isSeq4, x_isSeq5, x_setall0,
  List.map_cons, List.map_nil, List.length_cons, List.length_nil, List.replicate_succ, List.replicate_zero, List.cons_append, List.nil_append, List.append_nil, Nat.reduceSub, Nat.reduceAdd, Nat.sub_self, Nat.zero_add, List.getElem?_cons_zero, List.getElem?_cons_succ, List.set_cons_zero, List.set_cons_succ, Option.some.injEq, Sl.sh.injEq, Sl.ow.injEq, D.bl.injEq, D.int.injEq, D.tup.injEq, D.lst.injEq, D.obj.injEq, exists_eq_left', exists_eq_left, true_and, and_true, Option.map_some, reduceCtorEq, if_true, if_false, ite_true, ite_false, Bool.not_true, Bool.not_false, decide_eq_true_eq, Bool.false_eq_true, eq_self_iff_true, List.mem_singleton, List.lookup, beq_self_eq_true, Bool.true_eq_false, atI0, atI1, atI2, atI3, atI4, eqD_int, eqD_str, eqD_row, eqD_row0, ex_if, sizeLine_eq, Nat.reduceLeDiff, row_len, row_app, row_cut, row_rev, Bool.not_eq_true', decide_eq_false_iff_not, List.length_map, List.length_append, Nat.reduceLT])
local macro_rules | `(tactic| walk_at "c") => `(tactic| repeat (first | assumption | rw [if_neg (by decide +kernel)] | rw [if_pos (by decide +kernel)] | refine ⟨by decide +kernel, ?_⟩ | refine ⟨⟨by decide, by decide⟩, ?_⟩ | refine ⟨_, rfl, ?_⟩))
def Rok (d : D) : Prop := (∃ z, d = .str z ∧ z.length ≤ 90000) ∨ NoT d
theorem u_rightR {d : D} {n : Nat} {P : D → Nat → Prop} {E : XD} (hd : Rok d) (h : P (.bl true) n) : U__law_right [d] n P E := by
  rcases hd with ⟨z, rfl, hz⟩ | hd
  · exact u_right hz h
  · exact u_right_no hd h
abbrev St14 (k : Nat) (a2 a3 a4 a5 a6 a7 a8 a9 a10 a11 a12 a13 : Option Sl) : DS := [some (.sh (.scr k)), some (.sh .pen), a2, a3, a4, a5, a6, a7, a8, a9, a10, a11, a12, a13]
theorem law_2 {F : DEnds} {k n : Nat} {q : Wq} {a2 a3 a4 a5 a7 a8 a9 a10 a11 a12 a13 : Option Sl} (hq : q.ok) (h : F.nx (St14 k a2 a3 a4 a5 (some (.sh (wq q))) a7 a8 a9 a10 a11 a12 a13) n) : R_law_2 F (St14 k a2 a3 a4 a5 (some (.sh (wq q))) a7 a8 a9 a10 a11 a12 a13) n := by
  obtain ⟨e, s, l, b⟩ := q
  have hn := dw_numB hq
  obtain ⟨h1, h2, h3⟩ := hq
  have t1 := (tab_asc _ h1).2
  have t2 := (lt_asc _ h2).2
  unfold wq at *
  dsimp only at *
  unfold R_law_2
  walk_at "d"
  have rl := revS_len l
  refine ⟨by omega, u_text (by omega) (by omega) hn ?_⟩
  have tl := txt_len t1 (by omega : (revS l).length ≤ 40) hn
  refine u_read (by omega) ?_
  have key : ∀ w, isStr w = some false → ∃ d, Option.map D.bl (isStr w) = some d ∧ ∃ c, d = D.bl c ∧ if c = true then F.rt (Sl.sh (D.bl false)) n else F.nx (St14 k a2 a3 a4 a5 (some (Sl.sh (D.tup [D.str e.fst, D.str l, b]))) a7 a8 a9 a10 a11 a12 a13) n := fun w hw => by
    rw [hw]
    refine ⟨_, rfl, _, rfl, ?_⟩
    rw [if_neg Bool.false_ne_true]
    exact h
  cases hw : rdW (txt e.1 (revS l) b) with
  | none => exact key _ rfl
  | some w =>
    obtain ⟨_, _, _, rfl, _⟩ := rd_back hw
    exact key _ rfl
theorem law_3 {F : DEnds} {k n : Nat} {a2 a3 a4 a5 a6 a7 a8 a9 a10 a11 a12 a13 : Option Sl} (hn : n < 900000) (h : ∀ a6 a9 a10 a11 a12 n', n' ≤ n + 30 → F.nx (St14 k a2 a3 a4 a5 a6 a7 a8 a9 a10 a11 a12 a13) n') : R_law_3 F (St14 k a2 a3 a4 a5 a6 a7 a8 a9 a10 a11 a12 a13) n := by
  unfold R_law_3
  walk_at "d"
  refine u_drawn (by omega) fun e s l b n2 hd hn2 => ?_
  walk_at "d"
  have hnb := dw_numB hd
  have t1 := (tab_asc _ hd.1).2
  have t2 := (lt_asc _ hd.2.1).2
  dsimp only at t1 t2
  have tl := txt_len t1 t2 hnb
  refine u_text (by omega) (by omega) hnb ?_
  refine u_bent (by omega) (by decide +kernel) (by decide +kernel) (by omega) fun y1 hy1 => ?_
  walk_at "d"
  refine u_bent (by omega) (by decide +kernel) (by decide +kernel) (by omega) fun y2 hy2 => ?_
  walk_at "d"
  refine u_text (by omega) (by omega) hnb ?_
  have m1 : (Str.ofString " a").length ≤ 3 ∧ (Str.ofString " p").length ≤ 3 := by decide +kernel
  refine ⟨by omega, by omega, ?_⟩
  have st : ∀ x ∈ [D.str e.1, D.str (txt e.1 l b), D.str (e.1 ++ Str.ofString " a"), D.str (e.1 ++ Str.ofString " p")], ∃ z : Str, x = .str z ∧ z.length ≤ 1000 := fun x hx => by
    simp only [List.mem_cons, List.not_mem_nil, or_false] at hx
    rcases hx with rfl | rfl | rfl | rfl
    · exact ⟨_, rfl, by omega⟩
    · exact ⟨_, rfl, by omega⟩
    · exact ⟨_, rfl, by rw [str_add_len]; omega⟩
    · exact ⟨_, rfl, by rw [str_add_len]; omega⟩
  refine u_pick (by omega) (by show 0 < 4; omega) (by show 4 < 1000000; omega) fun x hx => ?_
  obtain ⟨z, rfl, hz⟩ := st x hx
  refine u_numbers (by omega) (by omega) fun y3 hy3 => ?_
  refine u_pick (by omega) (by show 0 < 8; omega) (by show 8 < 1000000; omega) fun x4 hx4 => ?_
  have r4 : Rok x4 := by
    simp only [List.mem_cons, List.not_mem_nil, or_false] at hx4
    rcases hx4 with rfl | rfl | rfl | rfl | rfl | rfl | rfl | rfl
    · exact .inr (.inl rfl)
    · exact .inr (.inr (.inr (.inl ⟨_, rfl⟩)))
    · exact .inr (.inr (.inl ⟨_, rfl⟩))
    · exact .inr (.inr (.inr (.inr (.inr (.inl ⟨_, rfl⟩)))))
    · exact .inr (.inr (.inr (.inr (.inl ⟨_, rfl⟩))))
    · exact .inr (.inr (.inr (.inr (.inr (.inr ⟨_, rfl⟩)))))
    · exact .inl ⟨_, rfl, by decide +kernel⟩
    · exact .inr (.inr (.inr (.inr (.inl ⟨_, rfl⟩))))
  have all : ∀ x ∈ [D.str y1, D.str y2, D.str y3, x4], Rok x := fun x hx => by
    simp only [List.mem_cons, List.not_mem_nil, or_false] at hx
    rcases hx with rfl | rfl | rfl | rfl
    · exact .inl ⟨_, rfl, by omega⟩
    · exact .inl ⟨_, rfl, by omega⟩
    · exact .inl ⟨_, rfl, by omega⟩
    · exact r4
  generalize [D.str y1, D.str y2, D.str y3, x4] = things at all
  generalize (some (Sl.sh (D.str y1)) : Option Sl) = c9
  generalize (some (Sl.sh (D.lst [D.str y1, D.str y2, D.str y3])) : Option Sl) = c10
  generalize (some (Sl.sh (D.str z)) : Option Sl) = c11
  refine for_inv (fun i δ n' => n2 + 4 + 4 + 1 + 1 + 1 = n' ∧ ∃ c : Option Sl, δ = St14 k a2 a3 a4 a5 (some (Sl.sh (wq (e, s, l, b)))) a7 a8 c9 c10 c11 c a13) ⟨rfl, _, rfl⟩ ?_ ?_
  · rintro i x _ _ N hx1 ⟨rfl, c, rfl⟩ hN
    refine ⟨_, rfl, ?_⟩
    unfold L_law_3
    walk_at "d"
    refine u_rightR (all x (List.mem_of_getElem? hx1)) ?_
    walk_at "d"
    exact hN _ _ ⟨rfl, _, rfl⟩
  · rintro _ _ ⟨rfl, c, rfl⟩
    exact law_2 (q := (e, s, l, b)) hd (h _ _ _ _ _ _ (by omega))
end C05

namespace C05
open PySem L2 Br Dn Tr TL
local macro_rules | `(tactic| walk_at "d") => `(tactic| try simp only [dDef, shP, gIntS, gListS, gMulS, dSplit, dStarts, gCD, gCDIn, gCDNotIn, gCDGet, dSIdx, dPutO, dOwnD0, dSee, dIfO, dCallO0, dCallO, dActS, dRetS, dRetO, dDefS, dLamS, Sl.out, startD, dSeq, dNext, dSet, dSetO, dPar, dRet, dRetN, dIfS, dExpr, dAug, dVar, dC, dNil, dCons, dApp, dCall0, dCall, dAnd, dOr, dIf, dChain, dNew, dOwn, dSh, dOwnL, dOwnF, dUn, dBor, frz, frzB, dMut, dRaise, dTry, dIxO, dCat, dLam, dLamDef, dAct, y_isDict0, y_isDict1, y_isDict2, y_isDict3, y_isDict4, y_isDict5, y_isDict6, y_keys, y_revL, y_sum1, y_sum2, y_xf, y_isX, dMakeX, dMakeX0, dMakeK, dEqT, dLenO, dBorL, frzL, dDct0, y_isInt6, y_isBool6, y_isStr6, y_isTuple6, y_isList6, y_isSeq6, y_len4, y_inS, y_notInS, y_in1, y_in2, y_ne0, y_ne0L, y_eq0, y_isB, y_isNotB, y_revS, y_addN1, y_addN2, y_subN1, y_subN2, y_subN3, y_strN1, y_strN2, y_zipS, y_dget, y_dnotin, y_din, y_key1, y_key2, eqD_bl', dUnp, dGet1, dSortD, dJoin, dUpper, dDisp, dDispO, dUpd, dDc, x_tg3, x_setall1, dFst, dMake, dInit, dCmpO, dFor, dIt, dLc, wipeD, dSl, dNoB, dB, D.isN, D.flat, putD,
  x_add1, x_add2, x_add3, x_add4, x_i2, x_sub, x_lt, x_le, x_gt, x_ge, x_mod, x_div, x_pow, x_mul1, x_mul2, x_mul3, x_neg, x_not, x_tupl, x_list, x_len1, x_len2, x_len3, x_abs, x_min, x_max, x_int1, x_int2, x_tuple1, x_tuple2, x_listof1, x_listof2, x_iter1, x_iter2, x_iter3, x_range, x_range2, x_enum1, x_enum2, x_enum3, x_enumK, x_isi, x_isown, x_is, x_isnot, x_revT, x_sl1, x_sl2, x_sl3, x_ix1, x_ix2, x_ix3, x_fld, x_catL, x_append, x_extend1, x_extend2, x_insert, x_tg1, x_tg2, x_tg3, x_setall1, x_eq, x_ne, x_isInt0, x_isInt1, x_isInt2, x_isInt3, x_isInt4, x_isInt5, x_isBool0, x_isBool1, x_isBool2, x_isBool3, x_isBool4, x_isBool5, x_isStr0, x_isStr1, x_isStr2, x_isStr3, x_isStr4, x_isStr5, x_isTuple0, x_isTuple1, x_isTuple2, x_isTuple3, x_isTuple4, x_isTuple5, x_isList0, x_isList1, x_isList2, x_isList3, x_isList4, x_isList5, x_isSeq0, x_isSeq1, x_isSeq2, x_isSeq3, x_isSeq4, x_isSeq5, x_setall0,
  List.map_cons, List.map_nil, List.length_cons, List.length_nil, List.replicate_succ, List.replicate_zero, List.cons_append, List.nil_append, List.append_nil, Nat.reduceSub, Nat.reduceAdd, Nat.sub_self, Nat.zero_add, List.getElem?_cons_zero, List.getElem?_cons_succ, List.set_cons_zero, List.set_cons_succ, Option.some.injEq, Sl.sh.injEq, Sl.ow.injEq, D.bl.injEq, D.int.injEq, D.tup.injEq, D.lst.injEq, D.obj.injEq, exists_eq_left', exists_eq_left, true_and, and_true, Option.map_some, reduceCtorEq, if_true, if_false, ite_true, ite_false, Bool.not_true, Bool.not_false, decide_eq_true_eq, Bool.false_eq_true, eq_self_iff_true, List.mem_singleton, List.lookup, beq_self_eq_true, Bool.true_eq_false, atI0, atI1, atI2, atI3, atI4, eqD_int, eqD_str, eqD_row, eqD_row0, ex_if, sizeLine_eq, Nat.reduceLeDiff, row_len, row_app, row_cut, row_rev, Bool.not_eq_true', decide_eq_false_iff_not, List.length_map, List.length_append, Nat.reduceLT])
local macro_rules | `(tactic| walk_at "c") => `(tactic| repeat (first | assumption | rw [if_neg (by decide +kernel)] | rw [if_pos (by decide +kernel)] | refine ⟨by decide +kernel, ?_⟩ | refine ⟨⟨by decide, by decide⟩, ?_⟩ | refine ⟨_, rfl, ?_⟩))
theorem ne_selfB {j : Nat} {d e : D} {B W : Prop} (h : Q j d) (hj : j ≤ 64) (he : d = e) (w : W) : ∃ d_2, Option.map (fun b => D.bl !b) (eqD d e) = some d_2 ∧ ∃ c, d_2 = D.bl c ∧ if c = true then B else W := by
  subst he
  rw [eqD_self h hj]
  refine ⟨_, rfl, false, rfl, ?_⟩
  rw [if_neg Bool.false_ne_true]; exact w
theorem law_4 {F : DEnds} {k n : Nat} {qs : List Wq} {a2 a3 a6 a7 a8 a9 a10 a11 a12 a13 : Option Sl} (hn : n < 800000) (hq : ∀ q ∈ qs, q.ok) (hl : qs.length ≤ 30) (h : ∀ a5 a6 a7 a8 a9 a10 a11 a12 n', n' ≤ n + 40 → F.nx (St14 k a2 a3 (some (.sh (.tup (row (rowOf qs))))) a5 a6 a7 a8 a9 a10 a11 a12 a13) n') : R_law_4 F (St14 k a2 a3 (some (.sh (.tup (row (rowOf qs))))) (some (.ow (dueL 0 qs))) a6 a7 a8 a9 a10 a11 a12 a13) n := by
  unfold R_law_4
  walk_at "d"
  refine Dn.draw (δ := []) (by omega) (by omega) (by omega) fun r r0 r1 => ?_
  walk_at "d"
  refine ⟨⟨by omega, by omega⟩, ?_⟩
  refine ⟨by rw [intsD_len]; omega, lc_inv (fun i ys n' => n' = n + 1 + i ∧ ∃ xs : List Int, ys = row xs ∧ xs.length = i ∧ Bts xs) ⟨rfl, [], rfl, rfl, fun b hb => by cases hb⟩ ?_ ?_⟩
  · rintro i x acc n2 N hx ⟨rfl, xs, rfl, h1, h2⟩ hN
    obtain ⟨hi, rfl⟩ := mem_intsD hx
    refine ⟨_, rfl, ?_⟩
    walk_at "d"
    refine Dn.draw (δ := []) (by omega) (by omega) (by omega) fun v v0 v1 => ?_
    refine hN _ _ ⟨by omega, xs ++ [v], by unfold row; rw [List.map_append]; rfl, by rw [List.length_append, h1]; rfl, fun b hb => ?_⟩
    rcases List.mem_append.mp hb with z | z
    · exact h2 b z
    · rw [List.mem_singleton] at z
      subst z
      omega
  · rintro _ _ ⟨rfl, xs, rfl, h1, h2⟩
    rw [intsD_len] at *
    walk_at "d"
    refine for_inv (fun i δ n' => n + 1 + r.toNat = n' ∧ ∃ b6 b8 : Option Sl, δ = St14 k a2 a3 (some (.sh (.tup (row (rowOf qs))))) (some (.sh (.lst (dueL 0 qs)))) b6 (some (.sh (.tup (row xs)))) b8 a9 a10 a11 a12 a13) ⟨rfl, _, _, rfl⟩ ?_ ?_
    · rintro i x _ _ N hx1 ⟨rfl, b6, b8, rfl⟩ hN
      obtain ⟨p, t, q, e1, rfl⟩ := due_at qs 0 i x hx1
      have hqo : q.ok := hq q (by rw [e1]; simp)
      refine ⟨_, rfl, ?_⟩
      unfold L_law_2
      walk_at "d"
      obtain ⟨rb1, rb2⟩ := row_bts qs hq
      have bb : Bts (xs ++ rowOf qs) := fun b hb => by
        rcases List.mem_append.mp hb with z | z
        · exact h2 b z
        · exact rb1 b z
      have wdd : wd (xs ++ rowOf qs) (xs.length + (rowOf p).length) = .ok (wq q, xs.length + (rowOf p).length + (bq q).length) := by
        have := wd_bw hqo (xs ++ rowOf p) (rowOf t)
        rw [List.length_append] at this
        rw [e1, rowOf_app, show rowOf (q :: t) = bq q ++ rowOf t from rfl, ← List.append_assoc, ← List.append_assoc]
        exact this
      refine ⟨by omega, ?_⟩
      rw [show ((xs.length : Int) + ((rowOf p).length : Int)) = ((xs.length + (rowOf p).length : Nat) : Int) by omega]
      refine u_word_at bb (by rw [List.length_append]; omega) (fun d c hd => ?_) (fun c hd => by rw [wdd] at hd; cases hd)
      rw [wdd] at hd
      obtain ⟨rfl, rfl⟩ := Prod.mk.inj (Except.ok.inj hd)
      refine u_bytes_of_word hqo ?_
      walk_at "d"
      refine ne_selfB (Q_pair2 hqo) (by decide) (by rw [show (bq q).length = (bw q.1 q.2.1 q.2.2.2).length from rfl, Int.natCast_add]) ?_
      have fin : N (St14 k a2 a3 (some (.sh (.tup (row (rowOf qs))))) (some (.sh (.lst (dueL 0 qs)))) (some (.sh (wq q))) (some (.sh (.tup (row xs)))) (some (Sl.sh (D.int ((rowOf p).length : Nat)))) a9 a10 a11 a12 a13) (n + 1 + r.toNat) := hN _ _ ⟨rfl, _, _, rfl⟩
      have hnb := dw_numB hqo
      have t1 := (tab_asc _ hqo.1).2
      have t2 := (lt_asc _ hqo.2.1).2
      dsimp only at t1 t2
      have tl := txt_len t1 t2 hnb
      have rt := rd_txt hqo
      unfold R_law_1
      walk_at "d"
      refine u_show_word (by omega) (by omega) hnb ?_
      refine u_text (by omega) (by omega) hnb ?_
      walk_at "d"
      rw [if_neg (by simp)]
      refine u_text (by omega) (by omega) hnb ?_
      refine u_read (by omega) ?_
      rw [rt]
      dsimp only
      exact ne_selfB (Q_wq hqo) (by decide) rfl fin
    · rintro _ _ ⟨rfl, b6, b8, rfl⟩
      exact law_3 (by omega) fun _ _ _ _ _ _ hh => h _ _ _ _ _ _ _ _ _ (by omega)
end C05

namespace C05
open PySem L2 Br Dn Tr TL
local macro_rules | `(tactic| walk_at "d") => `(tactic| try simp only [dDef, shP, gIntS, gListS, gMulS, dSplit, dStarts, gCD, gCDIn, gCDNotIn, gCDGet, dSIdx, dPutO, dOwnD0, dSee, dIfO, dCallO0, dCallO, dActS, dRetS, dRetO, dDefS, dLamS, Sl.out, startD, dSeq, dNext, dSet, dSetO, dPar, dRet, dRetN, dIfS, dExpr, dAug, dVar, dC, dNil, dCons, dApp, dCall0, dCall, dAnd, dOr, dIf, dChain, dNew, dOwn, dSh, dOwnL, dOwnF, dUn, dBor, frz, frzB, dMut, dRaise, dTry, dIxO, dCat, dLam, dLamDef, dAct, y_isDict0, y_isDict1, y_isDict2, y_isDict3, y_isDict4, y_isDict5, y_isDict6, y_keys, y_revL, y_sum1, y_sum2, y_xf, y_isX, dMakeX, dMakeX0, dMakeK, dEqT, dLenO, dBorL, frzL, dDct0, y_isInt6, y_isBool6, y_isStr6, y_isTuple6, y_isList6, y_isSeq6, y_len4, y_inS, y_notInS, y_in1, y_in2, y_ne0, y_ne0L, y_eq0, y_isB, y_isNotB, y_revS, y_addN1, y_addN2, y_subN1, y_subN2, y_subN3, y_strN1, y_strN2, y_zipS, y_dget, y_dnotin, y_din, y_key1, y_key2, eqD_bl', dUnp, dGet1, dSortD, dJoin, dUpper, dDisp, dDispO, dUpd, dDc, x_tg3, x_setall1, dFst, dMake, dInit, dCmpO, dFor, dIt, dLc, wipeD, dSl, dNoB, dB, D.isN, D.flat, putD,
  x_add1, x_add2, x_add3, x_add4, x_i2, x_sub, x_lt, x_le, x_gt, x_ge, x_mod, x_div, x_pow, x_mul1, x_mul2, x_mul3, x_neg, x_not, x_tupl, x_list, x_len1, x_len2, x_len3, x_abs, x_min, x_max, x_int1, x_int2, x_tuple1, x_tuple2, x_listof1, x_listof2, x_iter1, x_iter2, x_iter3, x_range, x_range2, x_enum1, x_enum2, x_enum3, x_enumK, x_isi, x_isown, x_is, x_isnot, x_revT, x_sl1, x_sl2, x_sl3, x_ix1, x_ix2, x_ix3, x_fld, x_catL, x_append, x_extend1, x_extend2, x_insert, x_tg1, x_tg2, x_tg3, x_setall1, x_eq, x_ne, x_isInt0, x_isInt1, x_isInt2, x_isInt3, x_isInt4, x_isInt5, x_isBool0, x_isBool1, x_isBool2, x_isBool3, x_isBool4, x_isBool5, x_isStr0, x_isStr1, x_isStr2, x_isStr3, x_isStr4, x_isStr5, x_isTuple0, x_isTuple1, x_isTuple2, x_isTuple3, x_isTuple4, x_isTuple5, x_isList0, x_isList1, x_isList2, x_isList3, x_isList4, x_isList5, x_isSeq0, x_isSeq1, x_isSeq2, x_isSeq3, x_isSeq4, x_isSeq5, x_setall0,
  List.map_cons, List.map_nil, List.length_cons, List.length_nil, List.replicate_succ, List.replicate_zero, List.cons_append, List.nil_append, List.append_nil, Nat.reduceSub, Nat.reduceAdd, Nat.sub_self, Nat.zero_add, List.getElem?_cons_zero, List.getElem?_cons_succ, List.set_cons_zero, List.set_cons_succ, Option.some.injEq, Sl.sh.injEq, Sl.ow.injEq, D.bl.injEq, D.int.injEq, D.tup.injEq, D.lst.injEq, D.obj.injEq, exists_eq_left', exists_eq_left, true_and, and_true, Option.map_some, reduceCtorEq, if_true, if_false, ite_true, ite_false, Bool.not_true, Bool.not_false, decide_eq_true_eq, Bool.false_eq_true, eq_self_iff_true, List.mem_singleton, List.lookup, beq_self_eq_true, Bool.true_eq_false, atI0, atI1, atI2, atI3, atI4, eqD_int, eqD_str, eqD_row, eqD_row0, ex_if, sizeLine_eq, Nat.reduceLeDiff, row_len, row_app, row_cut, row_rev, Bool.not_eq_true', decide_eq_false_iff_not, List.length_map, List.length_append, Nat.reduceLT])
local macro_rules | `(tactic| walk_at "c") => `(tactic| repeat (first | assumption | rw [if_neg (by decide +kernel)] | rw [if_pos (by decide +kernel)] | refine ⟨by decide +kernel, ?_⟩ | refine ⟨⟨by decide, by decide⟩, ?_⟩ | refine ⟨_, rfl, ?_⟩))
theorem add_rows {a b : List Int} (h : a.length + b.length ≤ 1000) : gAdd [.tup (row a), .tup (row b)] = some (.tup (row (a ++ b))) := by
  have := row_len a
  have := row_len b
  have e : row (a ++ b) = row a ++ row b := by unfold row; rw [List.map_append]
  rw [e]
  walk_at "d"
  rw [if_pos (by omega)]
theorem dueL_len : ∀ (qs : List Wq) (k : Nat), (dueL k qs).length = qs.length
  | [], _ => rfl
  | q :: r, k => by show (dueL (k + (bq q).length) r).length + 1 = _; rw [dueL_len r, List.length_cons]
theorem law_5 {F : DEnds} {k n : Nat} {qs : List Wq} {a2 a3 a6 a7 a8 a9 a10 a11 a12 a13 : Option Sl} (hn : n < 800000) (hq : ∀ q ∈ qs, q.ok) (hl : qs.length ≤ 30) (h : ∀ a5 a6 a7 a8 a9 a10 a11 a12 n', n' ≤ n + 40 → F.nx (St14 k a2 a3 (some (.sh (.tup (row (rowOf qs))))) a5 a6 a7 a8 a9 a10 a11 a12 a13) n') : R_law_5 F (St14 k a2 a3 (some (.sh (.tup (row (rowOf qs))))) (some (.ow (dueL 0 qs))) a6 a7 a8 a9 a10 a11 a12 a13) n := by
  have fin := law_4 (F := F) (a6 := a6) (a7 := a7) (a8 := a8) (a9 := a9) (a10 := a10) (a11 := a11) (a12 := a12) hn hq hl h
  obtain ⟨rb1, rb2⟩ := row_bts qs hq
  unfold R_law_5
  walk_at "d"
  refine u_words_of rb1 (by omega) (fun r hr => ?_) (fun c hd => by rw [wsA_row hq] at hd; cases hd)
  rw [wsA_row hq] at hr
  obtain rfl := Except.ok.inj hr
  walk_at "d"
  refine ne_selfB (Q_lst (Q_due qs 0 hq)) (by decide) rfl ?_
  refine u_show_hex rb1 (by omega) ?_
  refine u_read_hex rb1 (by omega) ?_
  refine ⟨_, by rw [eqD_row, decide_eq_true rfl]; rfl, rfl, _, rfl, ?_⟩
  rw [if_neg (by decide)]
  exact fin
theorem law_L {F : DEnds} {k n : Nat} {a2 a3 a4 a5 a6 a7 a8 a9 a10 a11 a12 a13 : Option Sl} (hn : n < 700000) (h : ∀ a2 a3 a4 a5 a6 a7 a8 a9 a10 a11 a12 n', n' ≤ n + 400 → F.nx (St14 k a2 a3 a4 a5 a6 a7 a8 a9 a10 a11 a12 a13) n') : L_law_4 F (St14 k a2 a3 a4 a5 a6 a7 a8 a9 a10 a11 a12 a13) n := by
  unfold L_law_4
  walk_at "d"
  refine Dn.draw (δ := []) (by omega) (by omega) (by omega) fun r r0 r1 => ?_
  walk_at "d"
  refine ⟨⟨by omega, by omega⟩, ?_⟩
  refine ⟨by rw [intsD_len]; omega, lc_inv (fun i ys n' => n' ≤ n + 1 + 10 * i ∧ ∃ qs : List Wq, ys = qs.map wq ∧ qs.length = i ∧ ∀ q ∈ qs, q.ok) ⟨by omega, [], rfl, rfl, fun b hb => by cases hb⟩ ?_ ?_⟩
  · rintro i x acc n2 N hx ⟨hn2, qs, rfl, h1, h2⟩ hN
    obtain ⟨hi, rfl⟩ := mem_intsD hx
    refine ⟨_, rfl, ?_⟩
    walk_at "d"
    refine u_drawn (by omega) fun e s l b n3 hd hn3 => ?_
    refine hN _ _ ⟨by omega, qs ++ [(e, s, l, b)], by rw [List.map_append]; rfl, by rw [List.length_append, h1]; rfl, fun q hq => ?_⟩
    rcases List.mem_append.mp hq with z | z
    · exact h2 q z
    · rw [List.mem_singleton] at z
      subst z
      exact hd
  · rintro _ n4 ⟨hn4, qs, rfl, h1, h2⟩
    rw [intsD_len] at *
    walk_at "d"
    refine for_inv (fun i δ n' => n4 = n' ∧ ∃ b6 : Option Sl, δ = St14 k a2 (some (.sh (.lst (qs.map wq)))) (some (.sh (.tup (row (rowOf (qs.take i)))))) (some (.ow (dueL 0 (qs.take i)))) b6 a7 a8 a9 a10 a11 a12 a13) ⟨rfl, _, rfl⟩ ?_ ?_
    · rintro i x _ _ N hx1 ⟨rfl, b6, rfl⟩ hN
      obtain ⟨q, hq, rfl⟩ := map_get hx1
      have hqo : q.ok := h2 q (List.mem_of_getElem? hq)
      refine ⟨_, rfl, ?_⟩
      unfold L_law_1
      walk_at "d"
      refine ⟨by rw [dueL_len, List.length_take]; omega, u_bytes_of_word hqo ?_⟩
      refine ⟨_, add_rows (a := rowOf (qs.take i)) (b := bq q) ?_, hN _ _ ⟨rfl, some (.sh (wq q)), ?_⟩⟩
      · have b1 := row_bts (qs.take i) fun y hy => h2 y (List.mem_of_mem_take hy)
        have b2 : (bq q).length ≤ 3 := (bw_bts hqo).2
        have := List.length_take_le i qs
        have := (List.getElem?_eq_some_iff.mp hq).1
        rw [List.length_take] at b1
        omega
      · rw [take_snoc hq, rowOf_snoc, dueL_snoc, Nat.zero_add]
    · rintro _ _ ⟨rfl, b6, rfl⟩
      rw [List.length_map, List.take_length]
      exact law_5 (by omega) h2 (by omega) fun _ _ _ _ _ _ _ _ _ hh => h _ _ _ _ _ _ _ _ _ _ _ _ (by omega)

theorem u_law : dLawS 14 1 B_law := by
  intro k hk
  unfold B_law
  walk_at "d"
  have hr : ∃ t : Nat, (4 + if (k : Int) < 8 then (k : Int) else 8) = (t : Int) ∧ t ≤ 12 := by
    split
    · exact ⟨4 + k, by omega, by omega⟩
    · exact ⟨12, by omega, by omega⟩
  obtain ⟨t, ht, ht2⟩ := hr
  rw [ht, show ((t : Nat) : Int).toNat = t by omega]
  refine ⟨⟨by omega, by omega⟩, ?_⟩
  refine for_inv (fun i δ n' => n' ≤ 400 * i ∧ ∃ a2 a3 a4 a5 a6 a7 a8 a9 a10 a11 a12 a13 : Option Sl, δ = St14 k a2 a3 a4 a5 a6 a7 a8 a9 a10 a11 a12 a13) ⟨by omega, _, _, _, _, _, _, _, _, _, _, _, _, rfl⟩ ?_ ?_
  · rintro i x _ n1 N hx ⟨hn, a2, a3, a4, a5, a6, a7, a8, a9, a10, a11, a12, a13, rfl⟩ hN
    obtain ⟨hi, rfl⟩ := mem_intsD hx
    refine ⟨_, rfl, ?_⟩
    exact law_L (by omega) fun _ _ _ _ _ _ _ _ _ _ _ n' hh => hN _ _ ⟨by omega, _, _, _, _, _, _, _, _, _, _, _, _, rfl⟩
  · rintro _ n1 ⟨hn, a2, a3, a4, a5, a6, a7, a8, a9, a10, a11, a12, a13, rfl⟩
    unfold R_law_6
    walk_at "d"
    refine u_words_of (xs := []) (fun b hb => by cases hb) (by decide) (fun r hr => ?_) (fun c hd => by cases hd)
    have hr : Except.ok ([] : List D) = .ok r := hr
    obtain rfl := Except.ok.inj hr
    refine ⟨_, y_eq0 [], _, rfl, ?_⟩
    rw [if_pos (by rfl)]
    have hd : Dw (("halt" : Str), (0 : Int), ("" : Str), (0 : Int)) 0 ("" : Str) .non := ⟨by decide +kernel, by decide +kernel, rfl⟩
    have rt := rd_txt hd
    have et : txt ("halt" : Str) ("" : Str) .non = Str.ofString "halt" := by decide +kernel
    dsimp only at rt
    rw [et] at rt
    refine u_read_word (by decide +kernel) (fun w hw => ?_) (fun hw => by rw [rt] at hw; cases hw)
    rw [rt] at hw
    obtain rfl := Option.some.inj hw
    have qq := Q_wq (q := ((("halt" : Str), (0 : Int), ("" : Str), (0 : Int)), (0 : Int), ("" : Str), D.non)) hd
    unfold wq at qq
    dsimp only at qq
    rw [eqD_self qq (by decide)]
    exact ⟨_, rfl, rfl⟩
end C05

namespace C05
open PySem L2 Br Dn
theorem all_mk {l : PySem.W.OpenLaw} {w : World} {K : PySem.W.Frag} {mg : Str → Option Value} {fa : Addr} (hfa : mg "law" = some (.ref fa)) (T : Txt mg)
    (d_is_whole : ∃ f fd, DefT K mg "is_whole" s_is_whole f fd) (d_is_from : ∃ f fd, DefT K mg "is_from" s_is_from f fd) (d_copied : ∃ f fd, DefT K mg "copied" s_copied f fd) (d_number_in : ∃ f fd, DefT K mg "number_in" s_number_in f fd) (d_between : ∃ f fd, DefT K mg "between" s_between f fd) (d_show_hex : ∃ f fd, DefT K mg "show_hex" s_show_hex f fd) (d_may_be : ∃ f fd, DefT K mg "may_be" s_may_be f fd) (d_read_hex : ∃ f fd, DefT K mg "read_hex" s_read_hex f fd) (d_bytes_of : ∃ f fd, DefT K mg "bytes_of" s_bytes_of f fd ∧ KwIs K "bytes_of" s_bytes_of fd [("many", .int 2)]) (d_number_of : ∃ f fd, DefT K mg "number_of" s_number_of f fd) (d_entry_by : ∃ f fd, DefT K mg "entry_by" s_entry_by f fd) (d_entry_at : ∃ f fd, DefT K mg "entry_at" s_entry_at f fd) (d_letters_by : ∃ f fd, DefT K mg "letters_by" s_letters_by f fd) (d_are_letters : ∃ f fd, DefT K mg "are_letters" s_are_letters f fd) (d_is_number : ∃ f fd, DefT K mg "is_number" s_is_number f fd) (d_is_word : ∃ f fd, DefT K mg "is_word" s_is_word f fd) (d_bytes_of_word : ∃ f fd, DefT K mg "bytes_of_word" s_bytes_of_word f fd) (d_word_at : ∃ f fd, DefT K mg "word_at" s_word_at f fd ∧ KwIs K "word_at" s_word_at fd [("at", .int 0)]) (d_words_of : ∃ f fd, DefT K mg "words_of" s_words_of f fd) (d_show_word : ∃ f fd, DefT K mg "show_word" s_show_word f fd) (d_signed_in : ∃ f fd, DefT K mg "signed_in" s_signed_in f fd) (d_read_word : ∃ f fd, DefT K mg "read_word" s_read_word f fd) (d__law_feed : ∃ f fd, DefT K mg "_law_feed" s__law_feed f fd) (d__law_draw : ∃ f fd, DefT K mg "_law_draw" s__law_draw f fd) (d__law_pick : ∃ f fd, DefT K mg "_law_pick" s__law_pick f fd) (d__law_table : ∃ f fd, DefT K mg "_law_table" s__law_table f fd) (d__law_drawn_word : ∃ f fd, DefT K mg "_law_drawn_word" s__law_drawn_word f fd) (d__law_signs : ∃ f fd, DefT K mg "_law_signs" s__law_signs f fd) (d__law_bent_text : ∃ f fd, DefT K mg "_law_bent_text" s__law_bent_text f fd) (d__law_text : ∃ f fd, DefT K mg "_law_text" s__law_text f fd) (d__law_read : ∃ f fd, DefT K mg "_law_read" s__law_read f fd) (d__law_numbers : ∃ f fd, DefT K mg "_law_numbers" s__law_numbers f fd) (d__law_right : ∃ f fd, DefT K mg "_law_right" s__law_right f fd) (d_law : ∃ f fd, DefT K mg "law" s_law f fd) (KT_TABLE : KTr K mg "TABLE" C_TABLE) (KT_NEAR : KTr K mg "NEAR" C_NEAR) (KD_SPANS : KDc K mg w "SPANS" C_SPANS) (v_ValueError : PySem.W.findCls K (.type "ValueError") (.type "type") "__init__" = some (.val (.builtin "ValueError.__init__"))) (x_NoHex : ∃ (C fI : Addr) (fd : FuncData), XcB K mg "NoHex" "NoHex.__init__" s_NoHex___init__ "ValueError.__new__" [.type "ValueError", .type "Exception", .type "BaseException", .type "object"] C fI fd ∧ PySem.W.findIn K (.ref C) "at" = some none) (x_NoWord : ∃ (C fI : Addr) (fd : FuncData), XcB K mg "NoWord" "NoWord.__init__" s_NoWord___init__ "ValueError.__new__" [.type "ValueError", .type "Exception", .type "BaseException", .type "object"] C fI fd ∧ PySem.W.findIn K (.ref C) "at" = some none) (x_NoNumber : ∃ (C fI : Addr) (fd : FuncData), XcB K mg "NoNumber" "NoNumber.__init__" s_NoNumber___init__ "ValueError.__new__" [.type "ValueError", .type "Exception", .type "BaseException", .type "object"] C fI fd ∧ PySem.W.findIn K (.ref C) "number" = some none)
    (hU : dLawS 14 1 B_law) : ∃ fd : FuncData, (∀ (s : Shared) (u : Value), BindsTo s fd ⟨[u], []⟩ [("_law_script", u)]) ∧ ∀ base : Heap, K.In base → base.Ns mainGlobals mg → FnG l.prog w K mg base CX0 8 fa fd ["_law_script"] (spLaw K) := by
  obtain ⟨_, _, d_is_whole⟩ := d_is_whole
  obtain ⟨_, _, d_is_from⟩ := d_is_from
  obtain ⟨_, _, d_copied⟩ := d_copied
  obtain ⟨_, _, d_number_in⟩ := d_number_in
  obtain ⟨_, _, d_between⟩ := d_between
  obtain ⟨_, _, d_show_hex⟩ := d_show_hex
  obtain ⟨_, _, d_may_be⟩ := d_may_be
  obtain ⟨_, _, d_read_hex⟩ := d_read_hex
  obtain ⟨_, _, d_bytes_of, kw_bytes_of⟩ := d_bytes_of
  obtain ⟨_, _, d_number_of⟩ := d_number_of
  obtain ⟨_, _, d_entry_by⟩ := d_entry_by
  obtain ⟨_, _, d_entry_at⟩ := d_entry_at
  obtain ⟨_, _, d_letters_by⟩ := d_letters_by
  obtain ⟨_, _, d_are_letters⟩ := d_are_letters
  obtain ⟨_, _, d_is_number⟩ := d_is_number
  obtain ⟨_, _, d_is_word⟩ := d_is_word
  obtain ⟨_, _, d_bytes_of_word⟩ := d_bytes_of_word
  obtain ⟨_, _, d_word_at, kw_word_at⟩ := d_word_at
  obtain ⟨_, _, d_words_of⟩ := d_words_of
  obtain ⟨_, _, d_show_word⟩ := d_show_word
  obtain ⟨_, _, d_signed_in⟩ := d_signed_in
  obtain ⟨_, _, d_read_word⟩ := d_read_word
  obtain ⟨_, _, d__law_feed⟩ := d__law_feed
  obtain ⟨_, _, d__law_draw⟩ := d__law_draw
  obtain ⟨_, _, d__law_pick⟩ := d__law_pick
  obtain ⟨_, _, d__law_table⟩ := d__law_table
  obtain ⟨_, _, d__law_drawn_word⟩ := d__law_drawn_word
  obtain ⟨_, _, d__law_signs⟩ := d__law_signs
  obtain ⟨_, _, d__law_bent_text⟩ := d__law_bent_text
  obtain ⟨_, _, d__law_text⟩ := d__law_text
  obtain ⟨_, _, d__law_read⟩ := d__law_read
  obtain ⟨_, _, d__law_numbers⟩ := d__law_numbers
  obtain ⟨_, _, d__law_right⟩ := d__law_right
  obtain ⟨f_law, fd_law, d_law⟩ := d_law
  obtain ⟨CX_NoHex, fI_NoHex, fdI_NoHex, X_NoHex, NX_NoHex_at⟩ := x_NoHex
  obtain ⟨CX_NoWord, fI_NoWord, fdI_NoWord, X_NoWord, NX_NoWord_at⟩ := x_NoWord
  obtain ⟨CX_NoNumber, fI_NoNumber, fdI_NoNumber, X_NoNumber, NX_NoNumber_number⟩ := x_NoNumber
  obtain rfl : f_law = fa := Value.ref.inj (Option.some.inj (d_law.g.symm.trans hfa))
  refine ⟨fd_law, fun s u => ?_, fun base _ _ => ?_⟩
  · obtain ⟨oc, od, kV, doc, pm, an, cdv, ct, osl, rfl, lk, hcd⟩ := d_law.F.ex
    exact .of_eq rfl
  have B_NoHex : Binds K fdI_NoHex ["self", "at"] [] := X_NoHex.F.binds (ps := ["self", "at"]) fun _ _ _ _ _ _ us hl => match us, hl with | [_, _], _ => rfl
  have F_NoHex := ok_NoHex_init (P := l.prog) (w := w) (base := base) X_NoHex T v_ValueError NX_NoHex_at
  have B_NoWord : Binds K fdI_NoWord ["self", "at"] [] := X_NoWord.F.binds (ps := ["self", "at"]) fun _ _ _ _ _ _ us hl => match us, hl with | [_, _], _ => rfl
  have F_NoWord := ok_NoWord_init (P := l.prog) (w := w) (base := base) X_NoWord T v_ValueError NX_NoWord_at
  have B_NoNumber : Binds K fdI_NoNumber ["self", "number"] [] := X_NoNumber.F.binds (ps := ["self", "number"]) fun _ _ _ _ _ _ us hl => match us, hl with | [_, _], _ => rfl
  have F_NoNumber := ok_NoNumber_init (P := l.prog) (w := w) (base := base) X_NoNumber T v_ValueError NX_NoNumber_number
  have F_is_whole := ok_is_whole (P := l.prog) (w := w) (base := base) d_is_whole.F T
  have D_is_whole : OkD l.prog w K mg base CX0 1 "is_whole" ["thing"] (spU K mg penKey U_is_whole) := DefT.okD d_is_whole (d_is_whole.F.binds (ps := ["thing"]) (fun _ _ _ _ _ _ us hl => match us, hl with | [_], _ => rfl)) F_is_whole
  have F_is_from := ok_is_from (P := l.prog) (w := w) (base := base) d_is_from.F T D_is_whole
  have D_is_from : OkD l.prog w K mg base CX0 2 "is_from" ["thing", "least", "most"] (spU K mg penKey U_is_from) := DefT.okD d_is_from (d_is_from.F.binds (ps := ["thing", "least", "most"]) (fun _ _ _ _ _ _ us hl => match us, hl with | [_, _, _], _ => rfl)) F_is_from
  have bd_copied : Binds K _ ["thing"] [] := d_copied.F.binds (ps := ["thing"]) (fun _ _ _ _ _ _ us hl => match us, hl with | [_], _ => rfl)
  have D_copied : OkD l.prog w K mg base CX0 4 "copied" ["thing"] (spU K mg penKey (U_copied 3)) := DefT.okD d_copied bd_copied (ok_copied d_copied bd_copied T 3)
  have F_number_in := ok_number_in (P := l.prog) (w := w) (base := base) d_number_in.F T
  have D_number_in : OkD l.prog w K mg base CX0 1 "number_in" ["word"] (spU K mg penKey U_number_in) := DefT.okD d_number_in (d_number_in.F.binds (ps := ["word"]) (fun _ _ _ _ _ _ us hl => match us, hl with | [_], _ => rfl)) F_number_in
  have F_between := ok_between (P := l.prog) (w := w) (base := base) d_between.F T
  have D_between : OkD l.prog w K mg base CX0 1 "between" ["many"] (spU K mg penKey U_between) := DefT.okD d_between (d_between.F.binds (ps := ["many"]) (fun _ _ _ _ _ _ us hl => match us, hl with | [_], _ => rfl)) F_between
  have F_show_hex := ok_show_hex (P := l.prog) (w := w) (base := base) d_show_hex.F T D_between
  have D_show_hex : OkD l.prog w K mg base CX0 2 "show_hex" ["row"] (spU K mg penKey U_show_hex) := DefT.okD d_show_hex (d_show_hex.F.binds (ps := ["row"]) (fun _ _ _ _ _ _ us hl => match us, hl with | [_], _ => rfl)) F_show_hex
  have F_may_be := ok_may_be (P := l.prog) (w := w) (base := base) d_may_be.F T D_between
  have D_may_be : OkD l.prog w K mg base CX0 2 "may_be" ["sign", "at"] (spU K mg penKey U_may_be) := DefT.okD d_may_be (d_may_be.F.binds (ps := ["sign", "at"]) (fun _ _ _ _ _ _ us hl => match us, hl with | [_, _], _ => rfl)) F_may_be
  have F_read_hex := ok_read_hex (P := l.prog) (w := w) (base := base) d_read_hex.F T D_may_be X_NoHex F_NoHex B_NoHex
  have D_read_hex : OkD l.prog w K mg base (L2.CX l.prog w) 3 "read_hex" ["text"] (spU K mg penKey U_read_hex) := DefT.okD d_read_hex (d_read_hex.F.binds (ps := ["text"]) (fun _ _ _ _ _ _ us hl => match us, hl with | [_], _ => rfl)) F_read_hex
  have F_bytes_of := ok_bytes_of (P := l.prog) (w := w) (base := base) d_bytes_of.F T D_is_whole D_copied X_NoNumber F_NoNumber B_NoNumber
  have KO_bytes_of : OkKo l.prog w K mg base (L2.CX l.prog w) 5 "bytes_of" 1 ["many"] (spU K mg penKey U_bytes_of) := DefT.okKo (ps := ["number", "many"]) d_bytes_of (fun _ _ _ _ _ _ us ws l1 l2 => match us, ws, l1, l2 with | [_], [_], _, _ => rfl) F_bytes_of
  have DF_bytes_of : OkDf l.prog w K mg base (L2.CX l.prog w) 5 "bytes_of" [.int 2] (spU K mg penKey U_bytes_of) := KwIs.okDf (ps := ["number", "many"]) (n := 1) d_bytes_of kw_bytes_of (by simp) rfl (fun _ _ _ _ _ _ us ks l1 l2 => match us, ks, l1, l2 with | [_], [_], _, _ => ⟨_, _, _, _, _, _, rfl, rfl, rfl⟩) F_bytes_of
  have F_number_of := ok_number_of (P := l.prog) (w := w) (base := base) d_number_of.F T
  have D_number_of : OkD l.prog w K mg base CX0 1 "number_of" ["row"] (spU K mg penKey U_number_of) := DefT.okD d_number_of (d_number_of.F.binds (ps := ["row"]) (fun _ _ _ _ _ _ us hl => match us, hl with | [_], _ => rfl)) F_number_of
  have F_entry_by := ok_entry_by (P := l.prog) (w := w) (base := base) d_entry_by.F T KT_TABLE
  have D_entry_by : OkD l.prog w K mg base CX0 1 "entry_by" ["name"] (spU K mg penKey U_entry_by) := DefT.okD d_entry_by (d_entry_by.F.binds (ps := ["name"]) (fun _ _ _ _ _ _ us hl => match us, hl with | [_], _ => rfl)) F_entry_by
  have F_entry_at := ok_entry_at (P := l.prog) (w := w) (base := base) d_entry_at.F T KT_TABLE KD_SPANS
  have D_entry_at : OkD l.prog w K mg base CX0 1 "entry_at" ["byte"] (spU K mg penKey U_entry_at) := DefT.okD d_entry_at (d_entry_at.F.binds (ps := ["byte"]) (fun _ _ _ _ _ _ us hl => match us, hl with | [_], _ => rfl)) F_entry_at
  have F_letters_by := ok_letters_by (P := l.prog) (w := w) (base := base) d_letters_by.F T
  have D_letters_by : OkD l.prog w K mg base CX0 1 "letters_by" ["kinds", "shift"] (spU K mg penKey U_letters_by) := DefT.okD d_letters_by (d_letters_by.F.binds (ps := ["kinds", "shift"]) (fun _ _ _ _ _ _ us hl => match us, hl with | [_, _], _ => rfl)) F_letters_by
  have F_are_letters := ok_are_letters (P := l.prog) (w := w) (base := base) d_are_letters.F T
  have D_are_letters : OkD l.prog w K mg base CX0 1 "are_letters" ["kinds", "letters"] (spU K mg penKey U_are_letters) := DefT.okD d_are_letters (d_are_letters.F.binds (ps := ["kinds", "letters"]) (fun _ _ _ _ _ _ us hl => match us, hl with | [_, _], _ => rfl)) F_are_letters
  have F_is_number := ok_is_number (P := l.prog) (w := w) (base := base) d_is_number.F T D_is_from KT_NEAR
  have D_is_number : OkD l.prog w K mg base CX0 3 "is_number" ["name", "room", "number"] (spU K mg penKey U_is_number) := DefT.okD d_is_number (d_is_number.F.binds (ps := ["name", "room", "number"]) (fun _ _ _ _ _ _ us hl => match us, hl with | [_, _, _], _ => rfl)) F_is_number
  have F_is_word := ok_is_word (P := l.prog) (w := w) (base := base) d_is_word.F T D_entry_by D_is_number D_are_letters
  have D_is_word : OkD l.prog w K mg base CX0 4 "is_word" ["thing"] (spU K mg penKey U_is_word) := DefT.okD d_is_word (d_is_word.F.binds (ps := ["thing"]) (fun _ _ _ _ _ _ us hl => match us, hl with | [_], _ => rfl)) F_is_word
  have F_bytes_of_word := ok_bytes_of_word (P := l.prog) (w := w) (base := base) d_bytes_of_word.F T D_entry_by D_letters_by KO_bytes_of KD_SPANS
  have D_bytes_of_word : OkD l.prog w K mg base CX0 6 "bytes_of_word" ["word"] (spU K mg penKey U_bytes_of_word) := DefT.okD d_bytes_of_word (d_bytes_of_word.F.binds (ps := ["word"]) (fun _ _ _ _ _ _ us hl => match us, hl with | [_], _ => rfl)) F_bytes_of_word
  have F_word_at := ok_word_at (P := l.prog) (w := w) (base := base) d_word_at.F T D_entry_at D_number_of D_letters_by KT_NEAR X_NoWord F_NoWord B_NoWord
  have KO_word_at : OkKo l.prog w K mg base (L2.CX l.prog w) 3 "word_at" 1 ["at"] (spU K mg penKey U_word_at) := DefT.okKo (ps := ["row", "at"]) d_word_at (fun _ _ _ _ _ _ us ws l1 l2 => match us, ws, l1, l2 with | [_], [_], _, _ => rfl) F_word_at
  have DF_word_at : OkDf l.prog w K mg base (L2.CX l.prog w) 3 "word_at" [.int 0] (spU K mg penKey U_word_at) := KwIs.okDf (ps := ["row", "at"]) (n := 1) d_word_at kw_word_at (by simp) rfl (fun _ _ _ _ _ _ us ks l1 l2 => match us, ks, l1, l2 with | [_], [_], _, _ => ⟨_, _, _, _, _, _, rfl, rfl, rfl⟩) F_word_at
  have F_words_of := ok_words_of (P := l.prog) (w := w) (base := base) d_words_of.F T KO_word_at
  have D_words_of : OkD l.prog w K mg base (L2.CX l.prog w) 4 "words_of" ["row"] (spU K mg penKey U_words_of) := DefT.okD d_words_of (d_words_of.F.binds (ps := ["row"]) (fun _ _ _ _ _ _ us hl => match us, hl with | [_], _ => rfl)) F_words_of
  have F_show_word := ok_show_word (P := l.prog) (w := w) (base := base) d_show_word.F T
  have D_show_word : OkD l.prog w K mg base CX0 1 "show_word" ["word"] (spU K mg penKey U_show_word) := DefT.okD d_show_word (d_show_word.F.binds (ps := ["word"]) (fun _ _ _ _ _ _ us hl => match us, hl with | [_], _ => rfl)) F_show_word
  have F_signed_in := ok_signed_in (P := l.prog) (w := w) (base := base) d_signed_in.F T D_number_in
  have D_signed_in : OkD l.prog w K mg base CX0 2 "signed_in" ["text"] (spU K mg penKey U_signed_in) := DefT.okD d_signed_in (d_signed_in.F.binds (ps := ["text"]) (fun _ _ _ _ _ _ us hl => match us, hl with | [_], _ => rfl)) F_signed_in
  have F_read_word := ok_read_word (P := l.prog) (w := w) (base := base) d_read_word.F T D_entry_by D_signed_in D_is_word X_NoWord F_NoWord B_NoWord
  have D_read_word : OkD l.prog w K mg base (L2.CX l.prog w) 5 "read_word" ["text"] (spU K mg penKey U_read_word) := DefT.okD d_read_word (d_read_word.F.binds (ps := ["text"]) (fun _ _ _ _ _ _ us hl => match us, hl with | [_], _ => rfl)) F_read_word
  have D__law_feed : OkD l.prog w K mg base CX0 1 "_law_feed" ["_law_script"] (spFeed penStr K) := DefT.okD d__law_feed (d__law_feed.F.binds (ps := ["_law_script"]) fun _ _ _ _ _ _ us hl => match us, hl with | [_], _ => rfl) (ok__law_feed d__law_feed.F)
  have D__law_draw : OkD l.prog w K mg base CX0 1 "_law_draw" ["_law_pen", "_law_span"] (spU K mg penKey U_draw) := DefT.okD d__law_draw (d__law_draw.F.binds (ps := ["_law_pen", "_law_span"]) fun _ _ _ _ _ _ us hl => match us, hl with | [_, _], _ => rfl) (draw_U (ok__law_draw d__law_draw.F T))
  have F__law_pick := ok__law_pick (P := l.prog) (w := w) (base := base) d__law_pick.F T D__law_draw
  have D__law_pick : OkD l.prog w K mg base CX0 2 "_law_pick" ["_law_pen", "_law_some"] (spU K mg penKey U__law_pick) := DefT.okD d__law_pick (d__law_pick.F.binds (ps := ["_law_pen", "_law_some"]) (fun _ _ _ _ _ _ us hl => match us, hl with | [_, _], _ => rfl)) F__law_pick
  have F__law_table := ok__law_table (P := l.prog) (w := w) (base := base) d__law_table.F T
  have D__law_table : OkD l.prog w K mg base CX0 1 "_law_table" [] (spU K mg penKey U__law_table) := DefT.okD d__law_table (d__law_table.F.binds (ps := []) (fun _ _ _ _ _ _ us hl => match us, hl with | [], _ => rfl)) F__law_table
  have F__law_drawn_word := ok__law_drawn_word (P := l.prog) (w := w) (base := base) d__law_drawn_word.F T D__law_table D__law_pick D__law_draw
  have D__law_drawn_word : OkD l.prog w K mg base CX0 3 "_law_drawn_word" ["_law_pen"] (spU K mg penKey U__law_drawn_word) := DefT.okD d__law_drawn_word (d__law_drawn_word.F.binds (ps := ["_law_pen"]) (fun _ _ _ _ _ _ us hl => match us, hl with | [_], _ => rfl)) F__law_drawn_word
  have F__law_signs := ok__law_signs (P := l.prog) (w := w) (base := base) d__law_signs.F T
  have D__law_signs : OkD l.prog w K mg base CX0 1 "_law_signs" [] (spU K mg penKey U__law_signs) := DefT.okD d__law_signs (d__law_signs.F.binds (ps := []) (fun _ _ _ _ _ _ us hl => match us, hl with | [], _ => rfl)) F__law_signs
  have F__law_bent_text := ok__law_bent_text (P := l.prog) (w := w) (base := base) d__law_bent_text.F T D__law_draw D__law_signs
  have D__law_bent_text : OkD l.prog w K mg base CX0 2 "_law_bent_text" ["_law_pen", "_law_text_here", "_law_near"] (spU K mg penKey U__law_bent_text) := DefT.okD d__law_bent_text (d__law_bent_text.F.binds (ps := ["_law_pen", "_law_text_here", "_law_near"]) (fun _ _ _ _ _ _ us hl => match us, hl with | [_, _, _], _ => rfl)) F__law_bent_text
  have F__law_text := ok__law_text (P := l.prog) (w := w) (base := base) d__law_text.F T
  have D__law_text : OkD l.prog w K mg base CX0 1 "_law_text" ["_law_word"] (spU K mg penKey U__law_text) := DefT.okD d__law_text (d__law_text.F.binds (ps := ["_law_word"]) (fun _ _ _ _ _ _ us hl => match us, hl with | [_], _ => rfl)) F__law_text
  have F__law_read := ok__law_read (P := l.prog) (w := w) (base := base) d__law_read.F T D_read_word X_NoWord NX_NoWord_at
  have D__law_read : OkD l.prog w K mg base CX0 6 "_law_read" ["_law_thing"] (spU K mg penKey U__law_read) := DefT.okD d__law_read (d__law_read.F.binds (ps := ["_law_thing"]) (fun _ _ _ _ _ _ us hl => match us, hl with | [_], _ => rfl)) F__law_read
  have F__law_numbers := ok__law_numbers (P := l.prog) (w := w) (base := base) d__law_numbers.F T D__law_pick
  have D__law_numbers : OkD l.prog w K mg base CX0 3 "_law_numbers" ["_law_pen", "_law_text_here"] (spU K mg penKey U__law_numbers) := DefT.okD d__law_numbers (d__law_numbers.F.binds (ps := ["_law_pen", "_law_text_here"]) (fun _ _ _ _ _ _ us hl => match us, hl with | [_, _], _ => rfl)) F__law_numbers
  have F__law_right := ok__law_right (P := l.prog) (w := w) (base := base) d__law_right.F T D__law_read D_show_word D__law_text D_is_word
  have D__law_right : OkD l.prog w K mg base CX0 7 "_law_right" ["_law_thing"] (spU K mg penKey U__law_right) := DefT.okD d__law_right (d__law_right.F.binds (ps := ["_law_thing"]) (fun _ _ _ _ _ _ us hl => match us, hl with | [_], _ => rfl)) F__law_right
  exact ok_law d_law.F T D__law_draw D__law_drawn_word D_bytes_of_word D_read_hex D_show_hex D_words_of KO_word_at D__law_read D__law_text D_show_word D__law_bent_text D__law_pick D__law_numbers D__law_right D_read_word D__law_feed hU
end C05
open PySem PySem.W PyProof.Rows
set_option maxRecDepth 100000 in
set_option maxHeartbeats 0 in
theorem PySem.Challenge.cw_byteround_k05_whole_words_there_and_back_holds : PySem.Challenge.rw_byteround_k05_whole_words_there_and_back.Holds := by
  w_on; o_law; k_head; (case hw => w_witness2)
  k_fill
  refine Br.walk_ofG (l := PySem.Challenge.rw_byteround_k05_whole_words_there_and_back) (n := 63) (k := 8) (x := "_law_script") (sp := Dn.spLaw) rfl (by decide) rfl ⟨rfl, by decide, by decide⟩ (fun w h Y => PySem.W.kIn_of Y) ?F (fun K H a ns hl _ hS => ⟨a, ns, rfl, hS, hl, fun _ => rfl⟩)
  case F =>
    intro w mg fa h KX G hmg
    have n_len : mg "len" = none := PySem.W.mg_none_of KX G (by k_is)
    have n_abs : mg "abs" = none := PySem.W.mg_none_of KX G (by k_is)
    have n_range : mg "range" = none := PySem.W.mg_none_of KX G (by k_is)
    have n_isinstance : mg "isinstance" = none := PySem.W.mg_none_of KX G (by k_is)
    have n_int : mg "int" = none := PySem.W.mg_none_of KX G (by k_is)
    have n_bool : mg "bool" = none := PySem.W.mg_none_of KX G (by k_is)
    have n_tuple : mg "tuple" = none := PySem.W.mg_none_of KX G (by k_is)
    have n_list : mg "list" = none := PySem.W.mg_none_of KX G (by k_is)
    have n_sum : mg "sum" = none := PySem.W.mg_none_of KX G (by k_is)
    have n_min : mg "min" = none := PySem.W.mg_none_of KX G (by k_is)
    have n_dict : mg "dict" = none := PySem.W.mg_none_of KX G (by k_is)
    have n_sorted : mg "sorted" = none := PySem.W.mg_none_of KX G (by k_is)
    have n_str : mg "str" = none := PySem.W.mg_none_of KX G (by k_is)
    have n_all : mg "all" = none := PySem.W.mg_none_of KX G (by k_is)
    have n_enumerate : mg "enumerate" = none := PySem.W.mg_none_of KX G (by k_is)
    have n_zip : mg "zip" = none := PySem.W.mg_none_of KX G (by k_is)
    have n_ValueError : mg "ValueError" = none := PySem.W.mg_none_of KX G (by k_is)
    have g_FIGURES : ∃ t, mg "FIGURES" = some (.str "0123456789" t) := ⟨_, PySem.W.mg_of KX G (by k_is)⟩
    have g_MOST_FIGURES : ∃ t, mg "MOST_FIGURES" = some (.int 5 t) := ⟨_, PySem.W.mg_of KX G (by k_is)⟩
    have g_SIGNS : ∃ t, mg "SIGNS" = some (.str "0123456789abcdef" t) := ⟨_, PySem.W.mg_of KX G (by k_is)⟩
    have g_IN_A_ROW : ∃ t, mg "IN_A_ROW" = some (.int 16 t) := ⟨_, PySem.W.mg_of KX G (by k_is)⟩
    have g_BYTE : ∃ t, mg "BYTE" = some (.int 256 t) := ⟨_, PySem.W.mg_of KX G (by k_is)⟩
    have g_NUMBERED : ∃ t, mg "NUMBERED" = some (.str "abcd" t) := ⟨_, PySem.W.mg_of KX G (by k_is)⟩
    have g_PLACED : ∃ t, mg "PLACED" = some (.str "pq" t) := ⟨_, PySem.W.mg_of KX G (by k_is)⟩
    have T : C05.Txt mg := ⟨n_len, n_abs, n_range, n_isinstance, n_int, n_bool, n_tuple, n_list, n_sum, n_min, n_dict, n_sorted, n_str, n_all, n_enumerate, n_zip, n_ValueError, g_FIGURES, g_MOST_FIGURES, g_SIGNS, g_IN_A_ROW, g_BYTE, g_NUMBERED, g_PLACED⟩
    refine C05.all_mk hmg T ?d_is_whole ?d_is_from ?d_copied ?d_number_in ?d_between ?d_show_hex ?d_may_be ?d_read_hex ?d_bytes_of ?d_number_of ?d_entry_by ?d_entry_at ?d_letters_by ?d_are_letters ?d_is_number ?d_is_word ?d_bytes_of_word ?d_word_at ?d_words_of ?d_show_word ?d_signed_in ?d_read_word ?d__law_feed ?d__law_draw ?d__law_pick ?d__law_table ?d__law_drawn_word ?d__law_signs ?d__law_bent_text ?d__law_text ?d__law_read ?d__law_numbers ?d__law_right ?d_law ?kt_TABLE ?kt_NEAR ?kd_SPANS ?v_ValueError ?x_NoHex ?x_NoWord ?x_NoNumber C05.u_law
    case d_is_whole =>
      refine' Br.defT KX G ?a ?l ?c ?k
      (case a => k_is); (case l => k_is); (case c => k_is); (case k => k_is)
    case d_is_from =>
      refine' Br.defT KX G ?a ?l ?c ?k
      (case a => k_is); (case l => k_is); (case c => k_is); (case k => k_is)
    case d_copied =>
      refine' Br.defT KX G ?a ?l ?c ?k
      (case a => k_is); (case l => k_is); (case c => k_is); (case k => k_is)
    case d_number_in =>
      refine' Br.defT KX G ?a ?l ?c ?k
      (case a => k_is); (case l => k_is); (case c => k_is); (case k => k_is)
    case d_between =>
      refine' Br.defT KX G ?a ?l ?c ?k
      (case a => k_is); (case l => k_is); (case c => k_is); (case k => k_is)
    case d_show_hex =>
      refine' Br.defT KX G ?a ?l ?c ?k
      (case a => k_is); (case l => k_is); (case c => k_is); (case k => k_is)
    case d_may_be =>
      refine' Br.defT KX G ?a ?l ?c ?k
      (case a => k_is); (case l => k_is); (case c => k_is); (case k => k_is)
    case d_read_hex =>
      refine' Br.defT KX G ?a ?l ?c ?k
      (case a => k_is); (case l => k_is); (case c => k_is); (case k => k_is)
    case d_bytes_of =>
      refine' Dn.kwT1 KX G ?a ?l ?c ?k ?n ?r
      (case a => k_is); (case l => k_is); (case c => k_is); (case k => k_is); (case n => k_is); (case r => exact ⟨_, rfl⟩)
    case d_number_of =>
      refine' Br.defT KX G ?a ?l ?c ?k
      (case a => k_is); (case l => k_is); (case c => k_is); (case k => k_is)
    case d_entry_by =>
      refine' Br.defT KX G ?a ?l ?c ?k
      (case a => k_is); (case l => k_is); (case c => k_is); (case k => k_is)
    case d_entry_at =>
      refine' Br.defT KX G ?a ?l ?c ?k
      (case a => k_is); (case l => k_is); (case c => k_is); (case k => k_is)
    case d_letters_by =>
      refine' Br.defT KX G ?a ?l ?c ?k
      (case a => k_is); (case l => k_is); (case c => k_is); (case k => k_is)
    case d_are_letters =>
      refine' Br.defT KX G ?a ?l ?c ?k
      (case a => k_is); (case l => k_is); (case c => k_is); (case k => k_is)
    case d_is_number =>
      refine' Br.defT KX G ?a ?l ?c ?k
      (case a => k_is); (case l => k_is); (case c => k_is); (case k => k_is)
    case d_is_word =>
      refine' Br.defT KX G ?a ?l ?c ?k
      (case a => k_is); (case l => k_is); (case c => k_is); (case k => k_is)
    case d_bytes_of_word =>
      refine' Br.defT KX G ?a ?l ?c ?k
      (case a => k_is); (case l => k_is); (case c => k_is); (case k => k_is)
    case d_word_at =>
      refine' Dn.kwT1 KX G ?a ?l ?c ?k ?n ?r
      (case a => k_is); (case l => k_is); (case c => k_is); (case k => k_is); (case n => k_is); (case r => exact ⟨_, rfl⟩)
    case d_words_of =>
      refine' Br.defT KX G ?a ?l ?c ?k
      (case a => k_is); (case l => k_is); (case c => k_is); (case k => k_is)
    case d_show_word =>
      refine' Br.defT KX G ?a ?l ?c ?k
      (case a => k_is); (case l => k_is); (case c => k_is); (case k => k_is)
    case d_signed_in =>
      refine' Br.defT KX G ?a ?l ?c ?k
      (case a => k_is); (case l => k_is); (case c => k_is); (case k => k_is)
    case d_read_word =>
      refine' Br.defT KX G ?a ?l ?c ?k
      (case a => k_is); (case l => k_is); (case c => k_is); (case k => k_is)
    case d__law_feed =>
      refine' Br.defT KX G ?a ?l ?c ?k
      (case a => k_is); (case l => k_is); (case c => k_is); (case k => k_is)
    case d__law_draw =>
      refine' Br.defT KX G ?a ?l ?c ?k
      (case a => k_is); (case l => k_is); (case c => k_is); (case k => k_is)
    case d__law_pick =>
      refine' Br.defT KX G ?a ?l ?c ?k
      (case a => k_is); (case l => k_is); (case c => k_is); (case k => k_is)
    case d__law_table =>
      refine' Br.defT KX G ?a ?l ?c ?k
      (case a => k_is); (case l => k_is); (case c => k_is); (case k => k_is)
    case d__law_drawn_word =>
      refine' Br.defT KX G ?a ?l ?c ?k
      (case a => k_is); (case l => k_is); (case c => k_is); (case k => k_is)
    case d__law_signs =>
      refine' Br.defT KX G ?a ?l ?c ?k
      (case a => k_is); (case l => k_is); (case c => k_is); (case k => k_is)
    case d__law_bent_text =>
      refine' Br.defT KX G ?a ?l ?c ?k
      (case a => k_is); (case l => k_is); (case c => k_is); (case k => k_is)
    case d__law_text =>
      refine' Br.defT KX G ?a ?l ?c ?k
      (case a => k_is); (case l => k_is); (case c => k_is); (case k => k_is)
    case d__law_read =>
      refine' Br.defT KX G ?a ?l ?c ?k
      (case a => k_is); (case l => k_is); (case c => k_is); (case k => k_is)
    case d__law_numbers =>
      refine' Br.defT KX G ?a ?l ?c ?k
      (case a => k_is); (case l => k_is); (case c => k_is); (case k => k_is)
    case d__law_right =>
      refine' Br.defT KX G ?a ?l ?c ?k
      (case a => k_is); (case l => k_is); (case c => k_is); (case k => k_is)
    case d_law =>
      refine' Br.defT KX G ?a ?l ?c ?k
      (case a => k_is); (case l => k_is); (case c => k_is); (case k => k_is)
    case kt_TABLE =>
      refine' Dn.ktr_of KX G ?a ?r
      (case a => k_is); (case r => first | kernel_rfl | rfl)
    case kt_NEAR =>
      refine' Dn.ktr_of KX G ?a ?r
      (case a => k_is); (case r => first | kernel_rfl | rfl)
    case kd_SPANS =>
      refine' Dn.kdc_of KX G ?a ?s ?v ?n
      (case a => k_is); (case s => first | rfl | decide); (case v => first | kernel_rfl | rfl); (case n => decide)
    (case v_ValueError => first | k_is | rfl | kernel_rfl)
    case x_NoHex =>
      refine' ⟨_, _, _, Br.xcB KX G ?aC ?xL ?sa ?eC ?tC ?kC ?a1 ?t1 ?l1 ?c1 ?k1 ?ga ?gg ?hC ?ha ?hn ?ht ?hm ?sC, ?nx_at⟩
      (case aC => first | k_is | rfl | kernel_rfl)
      (case xL => first | k_is | rfl | kernel_rfl)
      (case sa => first | k_is | rfl | kernel_rfl)
      (case eC => first | k_is | rfl | kernel_rfl)
      (case tC => first | k_is | rfl | kernel_rfl)
      (case kC => first | k_is | rfl | kernel_rfl)
      (case a1 => first | k_is | rfl | kernel_rfl)
      (case t1 => first | k_is | rfl | kernel_rfl)
      (case l1 => first | k_is | rfl | kernel_rfl)
      (case c1 => first | k_is | rfl | kernel_rfl)
      (case k1 => first | k_is | rfl | kernel_rfl)
      (case ga => first | k_is | rfl | kernel_rfl)
      (case gg => first | k_is | rfl | kernel_rfl)
      (case hC => first | k_is | rfl | kernel_rfl)
      (case ha => first | k_is | rfl | kernel_rfl)
      (case hn => first | k_is | rfl | kernel_rfl)
      (case ht => first | k_is | rfl | kernel_rfl)
      (case hm => first | k_is | rfl | kernel_rfl)
      (case sC => first | k_is | rfl | kernel_rfl)
      (case nx_at => first | k_is | rfl | kernel_rfl)
    case x_NoWord =>
      refine' ⟨_, _, _, Br.xcB KX G ?aC ?xL ?sa ?eC ?tC ?kC ?a1 ?t1 ?l1 ?c1 ?k1 ?ga ?gg ?hC ?ha ?hn ?ht ?hm ?sC, ?nx_at⟩
      (case aC => first | k_is | rfl | kernel_rfl)
      (case xL => first | k_is | rfl | kernel_rfl)
      (case sa => first | k_is | rfl | kernel_rfl)
      (case eC => first | k_is | rfl | kernel_rfl)
      (case tC => first | k_is | rfl | kernel_rfl)
      (case kC => first | k_is | rfl | kernel_rfl)
      (case a1 => first | k_is | rfl | kernel_rfl)
      (case t1 => first | k_is | rfl | kernel_rfl)
      (case l1 => first | k_is | rfl | kernel_rfl)
      (case c1 => first | k_is | rfl | kernel_rfl)
      (case k1 => first | k_is | rfl | kernel_rfl)
      (case ga => first | k_is | rfl | kernel_rfl)
      (case gg => first | k_is | rfl | kernel_rfl)
      (case hC => first | k_is | rfl | kernel_rfl)
      (case ha => first | k_is | rfl | kernel_rfl)
      (case hn => first | k_is | rfl | kernel_rfl)
      (case ht => first | k_is | rfl | kernel_rfl)
      (case hm => first | k_is | rfl | kernel_rfl)
      (case sC => first | k_is | rfl | kernel_rfl)
      (case nx_at => first | k_is | rfl | kernel_rfl)
    case x_NoNumber =>
      refine' ⟨_, _, _, Br.xcB KX G ?aC ?xL ?sa ?eC ?tC ?kC ?a1 ?t1 ?l1 ?c1 ?k1 ?ga ?gg ?hC ?ha ?hn ?ht ?hm ?sC, ?nx_number⟩
      (case aC => first | k_is | rfl | kernel_rfl)
      (case xL => first | k_is | rfl | kernel_rfl)
      (case sa => first | k_is | rfl | kernel_rfl)
      (case eC => first | k_is | rfl | kernel_rfl)
      (case tC => first | k_is | rfl | kernel_rfl)
      (case kC => first | k_is | rfl | kernel_rfl)
      (case a1 => first | k_is | rfl | kernel_rfl)
      (case t1 => first | k_is | rfl | kernel_rfl)
      (case l1 => first | k_is | rfl | kernel_rfl)
      (case c1 => first | k_is | rfl | kernel_rfl)
      (case k1 => first | k_is | rfl | kernel_rfl)
      (case ga => first | k_is | rfl | kernel_rfl)
      (case gg => first | k_is | rfl | kernel_rfl)
      (case hC => first | k_is | rfl | kernel_rfl)
      (case ha => first | k_is | rfl | kernel_rfl)
      (case hn => first | k_is | rfl | kernel_rfl)
      (case ht => first | k_is | rfl | kernel_rfl)
      (case hm => first | k_is | rfl | kernel_rfl)
      (case sC => first | k_is | rfl | kernel_rfl)
      (case nx_number => first | k_is | rfl | kernel_rfl)
#print axioms PySem.Challenge.cw_byteround_k05_whole_words_there_and_back_holds
